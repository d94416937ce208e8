import PyProof.Rows.All
import Wide.All
import OpenK.AllK
import Wide.FinOn
import HandS.ForMost
import HandS.Deep
import HandS.IsInst
import HandS.Text
import HandS.ExcInit
import HandS.ExcField
import HandS.ExcIs
import HandS.ExcOwn
import HandS.WordsExc
import HandS.SetBool
import KE.KDictPairs
import HandS.ExcValue
import KE.KExcIs
import HandS.Wide
import HandS.TupAny
import PyProof.NeKinds
import HandS.Rev
import PyProof.DictUpdate
import HandS.TupMul
import HandS.Conv
import HandS.TupLe
import HandS.Flow
import HandS.Small
import HandS.Zip
import KE.GoesEnum
import HandS.TryOnly
import PySem.Challenge.RW_eachstepsame_k65_moves_one_by_one
set_option Elab.async false
set_option linter.all false
set_option maxRecDepth 100000
set_option maxHeartbeats 8000000
/-! A small evaluator for a plain part of the language: values without addresses, a store of lists, dicts, instances. -/
namespace Mi
open PySem L2

inductive D where
  | non | bl (b : Bool) | int (i : Int) | str (x : Str) | tup (xs : List D) | rol (xs : List D) | ref (n : Nat)
  deriving Inhabited

inductive MO where
  | lst (xs : List D) | dK (kvs : List (Key × D)) | dT (kvs : List (List Key × D)) | ins (c : Nat) (fs : List (Nat × D)) | exn (c : Nat) (sup : List Nat) (fs : List (Nat × D))
  deriving Inhabited

abbrev Sto := List MO
inductive Out (α : Type) where
  | ok (a : α) (S : Sto) | exc (c : Nat) (fs : List (Nat × D)) (S : Sto) | no
@[simp] def Out.bind {α β : Type} (o : Out α) (f : α → Sto → Out β) : Out β := match o with
  | .ok a S => f a S
  | .exc c fs S => .exc c fs S
  | .no => .no

/-- no exception may leave -/
def Out.calm {α : Type} : Out α → Out α
  | .exc _ _ _ => .no
  | o => o
@[simp] theorem calm_ok {α : Type} {a : α} {S : Sto} : (Out.ok a S).calm = .ok a S := rfl

def lim : Nat := 16777216

/-- the data that a value is, lists read -/
def toPy (S : Sto) : Nat → D → Option PyData
  | 0, _ => none
  | _ + 1, .non => some .none
  | _ + 1, .bl b => some (.bool b)
  | _ + 1, .int i => some (.int i)
  | _ + 1, .str x => if PyData.strOk x = true then some (.str x) else none
  | n + 1, .tup xs => (xs.mapM (toPy S n)).map .tuple
  | n + 1, .rol xs => (xs.mapM (toPy S n)).map .list
  | n + 1, .ref k => match S[k]? with
    | some (.lst xs) => (xs.mapM (toPy S n)).map .list
    | _ => none

def lstAt (S : Sto) (n : Nat) : Option (List D) := match S[n]? with
  | some (.lst xs) => some xs
  | _ => none
/-- a list that is read -/
def seqAt (S : Sto) : D → Option (List D)
  | .ref n => lstAt S n
  | .rol xs => some xs
  | _ => none

/-- whether it is a dict -/
def dKind (S : Sto) : D → Option Bool
  | .ref n => match S[n]? with
    | some (.lst _) => some false
    | some (.dK _) => some true
    | _ => none
  | _ => some false
/-- one is a dict, the other is none -/
def apart (S : Sto) (a b : D) : Bool := match dKind S a, dKind S b with
  | some true, some false => true
  | some false, some true => true
  | _, _ => false
def eqJ (S : Sto) (a b : D) : Bool := apart S a b || ((toPy S 39 a).isSome && (toPy S 39 b).isSome)
/-- surely not equal -/
def unlike (S : Sto) (a b : D) : Bool := apart S a b || (match a, b with
  | .tup xs, .tup ys => (xs.zip ys).any (fun p => apart S p.1 p.2) && (xs.zip ys).all fun p => eqJ S p.1 p.2
  | _, _ => false) || match seqAt S a, seqAt S b with
  | some xs, some ys => xs.length != ys.length
  | _, _ => false
def eqD (S : Sto) (a b : D) : Option Bool := match toPy S 40 a, toPy S 40 b with
  | some x, some y => some (PyData.eqv x y)
  | _, _ => if unlike S a b = true then some false else none

def D.key : D → Option Key
  | .int i => some (.inl i)
  | .str x => some (.inr x)
  | _ => none
def D.keyT : D → Option (List Key)
  | .tup xs => xs.mapM D.key
  | _ => none
/-- what is asked for: truths are numbers -/
def D.keyB : D → Option Key
  | .int i => some (.inl i)
  | .str x => some (.inr x)
  | .bl b => some (.inl (if b = true then 1 else 0))
  | _ => none
def D.keyTB : D → Option (List Key)
  | .tup xs => xs.mapM D.keyB
  | _ => none
def keyD : Key → D
  | .inl i => .int i
  | .inr x => .str x

def new (S : Sto) (o : MO) : Out D := .ok (.ref S.length) (S ++ [o])

def addD (a b : D) (S : Sto) : Out D := match a, b with
  | .int i, .int j => .ok (.int (i + j)) S
  | .str x, .str y => if x.length + y.length ≤ lim then .ok (.str (x ++ y)) S else .no
  | .tup xs, .tup ys => if xs.length + ys.length ≤ lim then .ok (.tup (xs ++ ys)) S else .no
  | .ref m, .ref n => match lstAt S m, lstAt S n with
    | some xs, some ys => if xs.length + ys.length ≤ lim then new S (.lst (xs ++ ys)) else .no
    | _, _ => .no
  | _, _ => .no

def small64 (i : Int) : Bool := decide (-(2 ^ 64) < i ∧ i < 2 ^ 64)
/-- factors that are not too great together -/
def wide2 (i j : Int) : Bool := decide (i.natAbs.log2 + j.natAbs.log2 < 1000000)
def binD (op : Operator) (a b : D) (S : Sto) : Out D := match op, a, b with
  | .Add, a, b => addD a b S
  | .Sub, .int i, .int j => .ok (.int (i - j)) S
  | .Mult, .int i, .int j => if (small64 i || small64 j || wide2 i j) = true then .ok (.int (i * j)) S else .no
  | .Mult, .ref n, .int k => match lstAt S n with
    | some xs => if xs.length ≤ 1000 ∧ -1000 ≤ k ∧ k ≤ 1000 then new S (.lst (List.replicate k.toNat xs).flatten) else .no
    | none => .no
  | .Mult, .tup xs, .int k => if k = 1 then .ok (.tup xs) S else if 1 ≤ xs.length ∧ 2 ≤ k ∧ k ≤ 1000 ∧ xs.length ≤ 1000 then .ok (.tup (List.replicate k.toNat xs).flatten) S else .no
  | .Mult, .str x, .int k => if 0 ≤ k ∧ k ≤ 1000 ∧ x.length ≤ 1000 then .ok (.str (PySem.Txt.mul x k)) S else .no
  | .FloorDiv, .int i, .int j => if 0 < j ∧ j < 18446744073709551616 then .ok (.int (i / j)) S else if j ≠ 0 ∧ j.natAbs.log2 < 9000 then .ok (.int (i.fdiv j)) S else .no
  | .Mod, .int i, .int j => if 0 < j then .ok (.int (i % j)) S else if j ≠ 0 then .ok (.int (i.fmod j)) S else .no
  | .Pow, .int i, .int j => if 0 ≤ j ∧ j ≤ 1000000 ∧ i.natAbs < 2 ^ 64 then .ok (.int (i ^ j.toNat)) S else .no
  | _, _, _ => .no

/-- x op= y, of names -/
def augD (op : Operator) (a b : D) (S : Sto) : Out D := match op, a, b with
  | .Add, .int i, .int j => .ok (.int (i + j)) S
  | .Sub, .int i, .int j => .ok (.int (i - j)) S
  | .Add, .str x, .str y => if x.length + y.length ≤ lim then .ok (.str (x ++ y)) S else .no
  | _, _, _ => .no

def unD (op : UnaryOp) (a : D) (S : Sto) : Out D := match op, a with
  | .USub, .int i => .ok (.int (-i)) S
  | _, _ => .no

def truthD (S : Sto) : D → Option Bool
  | .non => some false
  | .bl b => some b
  | .int i => some (i != 0)
  | .str x => if x.length ≤ lim then some ((x.length : Int) != 0) else none
  | .tup xs => some (!xs.isEmpty)
  | .rol xs => some (!xs.isEmpty)
  | .ref n => match S[n]? with
    | some (.lst xs) => some (!xs.isEmpty)
    | some (.dK kvs) => some (!kvs.isEmpty)
    | _ => none

def anyEq (S : Sto) (a : D) (xs : List D) : Option Bool := match toPy S 40 a, xs.mapM (toPy S 39) with
  | some x, some ys => some (ys.any fun z => PyData.eqv z x)
  | _, _ => if (xs.all fun y => apart S y a) = true then some false else none

def D.isNon : D → Bool
  | .non => true
  | _ => false
def inD (S : Sto) (a b : D) : Option Bool := match b with
  | .tup xs => anyEq S a xs
  | .rol xs => anyEq S a xs
  | .ref n => match S[n]? with
    | some (.lst xs) => anyEq S a xs
    | some (.dK kvs) => match a.key with
      | some k => some (kvs.any fun kv => decide (kv.1 = k))
      | none => none
    | some (.dT kvs) => match a.keyTB with
      | some k => some (kvs.any fun kv => decide (kv.1 = k))
      | none => none
    | _ => none
  | .str y => match a with
    | .str x => match x.cps.toList with
      | [c] => some (decide (c ∈ y.cps.toList))
      | _ => none
    | _ => none
  | _ => none

/-- a is b -/
def isD (a : D) : D → Option Bool
  | .non => some a.isNon
  | .bl y => match a with
    | .bl x => some (decide (x = y))
    | _ => none
  | _ => none
def cmpD (op : CmpOp) (a b : D) (S : Sto) : Option Bool := match op with
  | .Eq => eqD S a b
  | .NotEq => (eqD S a b).map (!·)
  | .In => inD S a b
  | .NotIn => (inD S a b).map (!·)
  | .Is => isD a b
  | .IsNot => (isD a b).map (!·)
  | .Lt => match a, b with
    | .int i, .int j => some (decide (i < j))
    | .str x, .str y => some (decide (x.cps.toList < y.cps.toList))
    | _, _ => none
  | .LtE => match a, b with
    | .int i, .int j => some (decide (i ≤ j))
    | .str x, .str y => some (!decide (y.cps.toList < x.cps.toList))
    | _, _ => none
  | .Gt => match a, b with
    | .int i, .int j => some (decide (j < i))
    | _, _ => none
  | .GtE => match a, b with
    | .int i, .int j => some (decide (j ≤ i))
    | _, _ => none

def obl (o : Option Bool) (S : Sto) : Out D := match o with
  | some b => .ok (.bl b) S
  | none => .no

def lenD (S : Sto) : D → Option Nat
  | .str x => if x.length ≤ lim then some x.length else none
  | .tup xs => some xs.length
  | .rol xs => some xs.length
  | .ref n => match S[n]? with
    | some (.lst xs) => some xs.length
    | _ => none
  | _ => none

def getK {κ : Type} [DecidableEq κ] (kvs : List (κ × D)) (k : κ) : Option D := (kvs.find? fun kv => decide (kv.1 = k)).map (·.2)
def oD (o : Option D) (S : Sto) : Out D := match o with
  | some d => .ok d S
  | none => .no
def idxD (a i : D) (S : Sto) : Out D := match a with
  | .tup xs => match i with
    | .int k => oD (atI xs k) S
    | _ => .no
  | .rol xs => match i with
    | .int k => oD (atI xs k) S
    | _ => .no
  | .str x => match i with
    | .int k => if x.length ≤ lim then (match atI x.cps.toList k with
      | some c => .ok (.str ⟨#[c]⟩) S
      | none => .no) else .no
    | _ => .no
  | .ref n => match S[n]? with
    | some (.lst xs) => (match i with
      | .int k => oD (atI xs k) S
      | _ => .no)
    | some (.dK kvs) => (match i.key with
      | some k => oD (getK kvs k) S
      | none => .no)
    | some (.dT kvs) => (match i.keyTB with
      | some k => oD (getK kvs k) S
      | none => .no)
    | _ => .no
  | _ => .no

def cutD (xs : List D) (lo hi : Option Int) : List D := (xs.drop (HT.sIx xs.length 0 lo)).take (HT.sIx xs.length xs.length hi - HT.sIx xs.length 0 lo)
def slcD (a : D) (lo hi : Option Int) (S : Sto) : Out D := match a with
  | .tup xs => .ok (.tup (cutD xs lo hi)) S
  | .str z => if z.length ≤ lim then .ok (.str (cutS z lo hi)) S else .no
  | a => match seqAt S a with
    | some xs => new S (.lst (cutD xs lo hi))
    | none => .no

def D.strOf : D → Option Str
  | .str x => some x
  | _ => none
def joinD (x : D) (y : D) (S : Sto) : Out D := match x with
  | .str s => match (match y with
      | .tup xs => some xs
      | y => seqAt S y).bind fun xs => xs.mapM D.strOf with
    | some ys => if (ys.map (·.length)).sum + ys.length * s.length ≤ lim then .ok (.str (Txt.join s ys)) S else .no
    | none => .no
  | _ => .no
def getF (fs : List (Nat × D)) (f : Nat) : Option D := fs.lookup f
def putF' (f : Nat) (v : D) : List (Nat × D) → List (Nat × D)
  | [] => [(f, v)]
  | (g, w) :: r => if g = f then (g, v) :: r else (g, w) :: putF' f v r
end Mi

/-! Dicts whose keys are tuples of ints, texts; asked with tuples of truths, too. -/
namespace Mi
open PySem L2 PySem.Spec PyProof.Rows
def isKB : Key → Value → Bool
  | .inl i, v => Value.isInt i v || (match v with
    | .bool b => i == PpSet.b2 b
    | _ => false)
  | .inr x, v => Value.isStrOf x v
theorem isKB_shape : ∀ {k : Key} {v : Value}, isKB k v = true → (∃ i t, k = Sum.inl i ∧ v = Value.int i t) ∨ (∃ b, k = Sum.inl (PpSet.b2 b) ∧ v = Value.bool b) ∨ (∃ x t, k = Sum.inr x ∧ v = Value.str x t)
  | .inl i, v, h => by
    simp only [isKB, Bool.or_eq_true] at h
    rcases h with h | h
    · obtain ⟨t, e⟩ := Value.isInt_shape (k := i) (v := v) h
      exact .inl ⟨i, t, rfl, e⟩
    · cases v <;> first
        | (simp at h; done)
        | exact .inr (.inl ⟨_, congrArg Sum.inl (eq_of_beq h), rfl⟩)
  | .inr x, v, h => by
    obtain ⟨t, e⟩ := Value.isStrOf_shape (x := x) (v := v) h
    exact .inr (.inr ⟨x, t, rfl, e⟩)
theorem b2_inj {a b : Bool} (h : PpSet.b2 a = PpSet.b2 b) : a = b := by cases a <;> cases b <;> first | rfl | cases h
theorem b2_beq (a b : Bool) : (PpSet.b2 a == PpSet.b2 b) = (a == b) := by cases a <;> cases b <;> rfl
def kindB (prog : Program) (w : World) : PySem.KeyKind prog w Key where
  is := isKB
  hash := keyH w
  inj := fun v a b ha hb => by
    rcases isKB_shape ha with ⟨i, t, rfl, rfl⟩ | ⟨c, rfl, rfl⟩ | ⟨x, t, rfl, rfl⟩
    · rcases isKB_shape hb with ⟨j, u, rfl, e⟩ | ⟨c, rfl, e⟩ | ⟨y, u, rfl, e⟩
      · injection e with e1 _; rw [e1]
      · exact nomatch e
      · exact nomatch e
    · rcases isKB_shape hb with ⟨j, u, rfl, e⟩ | ⟨d, rfl, e⟩ | ⟨y, u, rfl, e⟩
      · exact nomatch e
      · injection e with e1; rw [e1]
      · exact nomatch e
    · rcases isKB_shape hb with ⟨j, u, rfl, e⟩ | ⟨d, rfl, e⟩ | ⟨y, u, rfl, e⟩
      · exact nomatch e
      · exact nomatch e
      · injection e with e1 _; rw [e1]
  byValue := fun k v h => by
    rcases isKB_shape h with ⟨i, t, rfl, rfl⟩ | ⟨c, rfl, rfl⟩ | ⟨x, t, rfl, rfl⟩ <;> rfl
  pyHash := fun hv h => by
    rcases isKB_shape hv with ⟨i, t, rfl, rfl⟩ | ⟨c, rfl, rfl⟩ | ⟨x, t, rfl, rfl⟩
    · exact wpAny_pyHash_int h
    · exact PpSet.pyHash_bool h
    · exact wpAny_pyHash_str h
  eqBool := fun hu hv h => by
    rcases isKB_shape hu with ⟨i, t, rfl, rfl⟩ | ⟨c, rfl, rfl⟩ | ⟨x, t, rfl, rfl⟩
    · rcases isKB_shape hv with ⟨j, u, rfl, rfl⟩ | ⟨d, rfl, rfl⟩ | ⟨y, u, rfl, rfl⟩
      · rw [key_ll] at h; exact wpAny_eqBool_int h
      · rw [key_ll] at h; exact SeqAt.EqAt.int_bool i t d _ _ _ _ h
      · rw [key_lr] at h; exact SeqAt.EqAt.int_str i t y u _ _ _ _ h
    · rcases isKB_shape hv with ⟨j, u, rfl, rfl⟩ | ⟨d, rfl, rfl⟩ | ⟨y, u, rfl, rfl⟩
      · rw [key_ll] at h; exact SeqAt.EqAt.bool_int c j u _ _ _ _ h
      · rw [key_ll, b2_beq] at h; exact SeqAt.EqAt.bool_bool c d _ _ _ _ h
      · rw [key_lr] at h; exact SeqAt.EqAt.bool_str c y u _ _ _ _ h
    · rcases isKB_shape hv with ⟨j, u, rfl, rfl⟩ | ⟨d, rfl, rfl⟩ | ⟨y, u, rfl, rfl⟩
      · rw [key_rl] at h; exact SeqAt.EqAt.str_int x t j u _ _ _ _ h
      · rw [key_rl] at h; exact SeqAt.EqAt.str_bool x t d _ _ _ _ h
      · rw [key_rr] at h; exact wpAny_eqBool_str h
  «strs» := fun k x t v h => by
    rcases isKB_shape h with ⟨i, u, rfl, e⟩ | ⟨c, rfl, e⟩ | ⟨y, u, rfl, e⟩
    · exact nomatch e
    · exact nomatch e
    · injection e with e1 _
      subst e1
      cases v <;> rfl
abbrev knT (P : Program) (w : World) : HeapKind P w (List Key) := tupleKind (kindB P w)
/-- the dict at d, its keys' objects told; as many keys were put in as there are -/
def DictE (P : Program) (w : World) (h : Heap) (d : Addr) (xs : List (List Key × Addr × Value)) : Prop :=
  ∃ o es, h.get? d = some o ∧ o.ExactDict ∧ o.data = .dict es xs.length ∧ es.toList = xs.map (entryOfKey (knT P w)) ∧ (xs.map (·.1)).Nodup
section
variable {P : Program} {w : World} {A : Around} {E : Value → Shared → Prop} {s : Shared} {d a : Addr} {k : List Key} {xs : List (List Key × Addr × Value)}
theorem DictE.of {h : Heap} (x : DictE P w h d xs) (his : ∀ y ∈ xs, (knT P w).is h y.1 y.2.1) : h.DictOfH (knT P w) d xs := by
  obtain ⟨o, es, ho, hc, hd, he, hn⟩ := x
  exact ⟨o, es, _, ho, hc, hd, he, his, hn⟩
theorem DictE.at {h h' : Heap} (x : DictE P w h d xs) (e : ∀ o, h.get? d = some o → h'.get? d = some o) : DictE P w h' d xs := by
  obtain ⟨o, es, ho, r⟩ := x
  exact ⟨o, es, e _ ho, r⟩
theorem DictE.new (h : Heap) : DictE P w (h.push { cls := .type "dict", data := .dict #[] }) h.objs.size [] :=
  ⟨_, #[], Heap.get?_push_size _ rfl, ⟨rfl, rfl, rfl⟩, rfl, rfl, List.nodup_nil⟩
theorem dictSetE {v : Value} {Q : Unit → Shared → Prop} (hu : A.units < cLine) (hkey : (knT P w).is s.heap k a) (hm : DictE P w s.heap d xs) (his : ∀ y ∈ xs, (knT P w).is s.heap y.1 y.2.1)
    (hQ : ∀ h', DictE P w h' d (storedH xs k a v) → Heap.SameBut d s.heap h' → ∀ t, Q () { s with heap := h', toks := t }) (hsz : xs.length ≤ sizeLine) :
    wpAny (model P w) A (dictSet d (.ref a) v) Q E s := by
  obtain ⟨o, es, ho, hc, hd, he, hn⟩ := hm
  unfold dictSet
  try with_reducible refine wpAny_holding ?_
  refine wpAny_bind ((knT P w).pyHash hu hkey ?_)
  unfold dictSetHashed
  try with_reducible refine wpAny_holding ?_
  refine wpAny_bind (wpAny_dictFind_heap (s := { s with toks := s.toks + (knT P w).draws k }) hu hkey ho hd he his hn ?_ ?_)
  · intro hno
    have hnot : k ∉ xs.map (·.1) := not_mem_keys_of_get hno
    refine wpAny_bind (wpAny_rule (wpAny_updateDictKeys (hz := by have e := size_of_entries he; omega) (s := { s with toks := s.toks + (knT P w).draws k }) ho hd (hQ _ ⟨_, es.push ⟨(knT P w).hash k, .ref a, v⟩, Heap.get?_update_self _ ho (Obj.isFreed_of_dict (Obj.data_mapDictKeys hd _)),
      hc.mapDictKeys _, ?_, ?_, ?_⟩ (Heap.SameBut.update ..) _)))
    · exact (Obj.data_mapDictKeys hd _).trans (by rw [storedH_new (atKey_none_of_get hno), List.length_append]; rfl)
    · rw [storedH_new (atKey_none_of_get hno)]
      simp [he, entryOfKey]
    · rw [storedH_new (atKey_none_of_get hno)]
      rw [List.map_append, List.nodup_append]
      refine ⟨hn, by simp, ?_⟩
      intro x hx y hy
      simp only [List.map_cons, List.map_nil, List.mem_singleton] at hy
      subst hy
      exact fun e => hnot (e ▸ hx)
  · intro j p hj
    refine wpAny_bind (wpAny_rule (wpAny_bind (wpAny_updateDict (s := { s with toks := s.toks + (knT P w).draws k }) ho hd (wpAny_point (hQ _ ⟨_, _, Heap.get?_update_self _ ho (Obj.isFreed_of_dict (Obj.data_mapDict hd _)),
      hc.mapDict _, (Obj.data_mapDict hd _).trans (by rw [storedH_old (atKey_of_get hn hj), List.length_map]), ?_, ?_⟩ (Heap.SameBut.update ..) _)))))
    · rw [storedH_old (atKey_of_get hn hj)]
      have := modify_map_putAt (entryOfKey (knT P w)) (fun e : DictEntry => { e with val := v }) k v (fun _ _ => rfl) hn hj
      rw [← he] at this
      obtain ⟨l⟩ := es
      simpa using this
    · rw [storedH_old (atKey_of_get hn hj)]
      rw [keys_map_putAt]; exact hn
theorem setItemE {v : Value} {Q : Unit → Shared → Prop} (hu : A.units + 1 < cLine) (hkey : (knT P w).is s.heap k a) (hm : DictE P w s.heap d xs) (his : ∀ y ∈ xs, (knT P w).is s.heap y.1 y.2.1)
    (hQ : ∀ h', DictE P w h' d (storedH xs k a v) → Heap.SameBut d s.heap h' → ∀ t, Q () { s with heap := h', toks := t }) (hsz : xs.length ≤ sizeLine) :
    wpAny (model P w) A (setItem (.ref d) (.ref a) v) Q E s := by
  have hT := (hm.of his).typeIs
  unfold setItem
  try with_reducible refine wpAny_holding ?_
  refine wpAny_bind (wpAny_sequenceKey hT (by decide) ?_)
  refine wpAny_bind (wpAny_callSpecial?_slot (name := Str.ofString "__setitem__") hT PySem.F.slot_dict_setitem
    (wpAny_call_entry PySem.F.slot_dict_setitem hT PySem.F.entry_dict_setitem ?_ (PySem.F.args_dict_setitem_3 _ _ _)))
  show wpAny _ _ (Builtin.Dict.notOrdered "__setitem__" ⟨[.ref d, .ref a, v], []⟩ >>= _) _ _ s
  refine wpAny_bind (wpAny_notOrdered_dict hT ?_)
  show wpAny _ _ (dictSet d (.ref a) v >>= _) _ _ s
  exact wpAny_bind (dictSetE (A := A.in1) hu hkey hm his (fun h' hm' hs' t => wpAny_pure ⟨.none, rfl, wpAny_pure (hQ h' hm' hs' t)⟩) hsz)
end
section
variable {P : Program} {w : World} {A : Around} {E : Value → Shared → Prop} {s : Shared} {T : String} {a : Addr} {fp wr : List Addr} {n : Nat} {Rel : Nat → Value → Value → Prop} {OK : Heap → Prop}
theorem callDictE {ps : List (List Key × Addr × Value)} {Q : Value → Shared → Prop} (PA : PairArg P w T a fp wr n Rel OK) (hh : A.handled = none) (hu : A.units + 2 < cLine) (ok : OK s.heap) (hc : PairsHaveH (knT P w) n Rel ps) (hst : KeysStay (knT P w) s.heap s.heap.objs.size wr ps) (hsz : n ≤ sizeLine)
    (h : ∀ h' tk, DictE P w h' s.heap.objs.size (storedAllH [] ps) → (∀ b o, b ∉ wr → s.heap.get? b = some o → h'.get? b = some o) → Q (.ref s.heap.objs.size) { s with heap := h', toks := tk }) :
    wpAny (model P w) A (call (.type "dict") [.ref a]) Q E s := by
  refine call_dict_arg PA ok fun s₁ hs₁ hdf ok₁ => ?_
  subst hs₁
  have his : ∀ i h, (∀ b o, b ≠ s.heap.objs.size → b ∉ wr → s.heap.get? b = some o → h.get? b = some o) → ∀ x ∈ storedAllH [] (ps.take i), (knT P w).is h x.1 x.2.1 := fun i h hk =>
    storedAllH_keys (P := fun k b => (knT P w).is h k b) (fun x hx => nomatch hx) fun x hx => hst h hk x (List.mem_of_mem_take hx)
  refine updateFrom_arg (A := A.in1) (Tab := fun i h => DictE P w h s.heap.objs.size (storedAllH [] (ps.take i)) ∧ ∀ b o, b ≠ s.heap.objs.size → b ∉ wr → s.heap.get? b = some o → h.get? b = some o) PA .none hh ok₁ hdf ⟨DictE.new s.heap, fun _ _ _ _ e => Heap.get?_push_of_some _ e⟩ (fun _ _ tb => let ⟨_, _, ho, _⟩ := tb.1; Heap.lt_size ho) ?_ ?_ ?_
  · intro i h h' wr' hd hw tb hk
    refine ⟨tb.1.at fun o e => hk _ o hd e, fun b o h1 h2 e => hk b o (fun hm' => ?_) (tb.2 b o h1 h2 e)⟩
    rcases hw b hm' with q | q
    · exact h2 q
    · have q' : (s.heap.push { cls := .type "dict", data := .dict #[] }).get? b = none := q
      rw [Heap.get?_push_of_some _ e] at q'; cases q'
  · intro i key v s' Q E' hi hrel tb _ hQ
    obtain ⟨k, b, hk, rfl⟩ := hc.2 i key v hrel
    refine dictSetE (A := A.in1.in1) (show A.units + 1 + 1 < cLine from hu) (hst _ tb.2 _ (List.mem_of_getElem? hk)) tb.1 (his i _ tb.2) (fun h' hm' hs t => ?_) (by have := storedAllH_length (ps.take i) []; rw [List.length_take, List.length_nil] at this; omega)
    exact hQ h' t ⟨by rw [storedAllH_take_succ [] ps i _ hk]; exact hm', fun c o h1 h2 e => hs.extBut c o h1 (tb.2 c o h1 h2 e)⟩ hs
  · intro h' tk tb hk
    have e : ps.take n = ps := List.take_of_length_le (Nat.le_of_eq hc.1)
    obtain ⟨tb, _⟩ := tb
    rw [e] at tb
    exact ⟨rfl, h h' tk tb fun b o hw e => hk b o (Nat.ne_of_lt (Heap.lt_size e)) hw (Heap.get?_push_of_some _ e)⟩
end

/-! ### within the abstract heap -/
abbrev V3 : List (List Key × Addr × V) → List (List Key × Addr × Value) → Prop := Paired fun p q => p.1 = q.1 ∧ p.2.1 = q.2.1 ∧ RelV p.2.2 q.2.2
def rawT (P : Program) (w : World) (a : Addr) (xs : List (List Key × Addr × V)) : Heap → Prop := fun h => xs.length ≤ sizeLine ∧ (a == sysModules) = false ∧ ∃ us, V3 xs us ∧ DictE P w h a us
theorem rawT_ok {P : Program} {w : World} {H : Hp} {h : Heap} {a : Addr} {xs : List (List Key × Addr × V)} (x : rawT P w a xs h) : ObjOk P w H h a (.ext (rawT P w a xs)) := by
  refine ⟨x, ?_, fun h1 h2 x1 k => ?_⟩
  · obtain ⟨_, _, us, _, o, es, ho, _⟩ := x
    exact ⟨o, ho⟩
  · obtain ⟨z, y, us, r, e⟩ := x1
    exact ⟨z, y, us, r, e.at k⟩
def isV : Key → V → Prop
  | .inl i, .int j => i = j
  | .inl i, .bl b => i = PpSet.b2 b
  | .inr x, .str y => x = y
  | _, _ => False
theorem isV_is {k : Key} {v : V} {u : Value} (h : isV k v) (r : RelV v u) : isKB k u = true := by
  cases k with
  | inl i =>
    cases v <;> first
      | exact absurd h id
      | skip
    · rename_i b
      obtain rfl : u = Value.bool b := r
      obtain rfl : i = PpSet.b2 b := h
      simp [isKB]
    · rename_i j
      obtain ⟨t, rfl⟩ := r
      obtain rfl : i = j := h
      simp [isKB, Value.isInt]
  | inr x =>
    cases v <;> first
      | exact absurd h id
      | skip
    rename_i y
    obtain ⟨t, rfl⟩ := r
    obtain rfl : x = y := h
    simp [isKB, Value.isStrOf]
theorem items_of {P : Program} {w : World} : ∀ {k : List Key} {vs : List V} {us : List Value}, Paired isV k vs → Vals vs us → ItemsAre (kindB P w) k us
  | _, _, _, .nil, .nil => .nil
  | _, _, _, .cons a b, .cons c d => .cons (isV_is a c) (items_of b d)
section
variable {X : Cx} {pins : List (Addr × Obj)} {σ : L2.St} {H : Hp} {s : Shared} {a b : Addr} {k : List Key} {vs : List V} {xs : List (List Key × Addr × V)} {A : Around} {E : Value → Shared → Prop}
theorem key_at (I : Inv X pins σ H s) (h : SqT X.K H b vs) (r : Paired isV k vs) : (knT X.prog X.w).is s.heap k b := by
  obtain ⟨its, rv, y, _⟩ := I.tuple h
  obtain ⟨o, ho, hc, n, hd⟩ := y
  exact ⟨o, its.toArray, n, ho, hc, hd, by simpa using items_of r rv⟩
/-- the keys of a table are tuples that are there -/
def Keyed (K : PySem.W.Frag) (H : Hp) (xs : List (List Key × Addr × V)) : Prop := ∀ q ∈ xs, ∃ vs, SqT K H q.2.1 vs ∧ Paired isV q.1 vs
theorem V3.keys {xs : List (List Key × Addr × V)} {us : List (List Key × Addr × Value)} (r : V3 xs us) : ∀ u ∈ us, ∃ x ∈ xs, x.1 = u.1 ∧ x.2.1 = u.2.1 := by
  induction r with
  | nil => exact fun u hu => nomatch hu
  | cons h t ih =>
    intro u hu
    rcases List.mem_cons.mp hu with rfl | hu
    · exact ⟨_, List.mem_cons_self .., h.1, h.2.1⟩
    · obtain ⟨x, hx, e⟩ := ih u hu
      exact ⟨x, List.mem_cons_of_mem _ hx, e⟩
theorem Keyed.is (I : Inv X pins σ H s) (hk : Keyed X.K H xs) {us : List (List Key × Addr × Value)} (r : V3 xs us) : ∀ u ∈ us, (knT X.prog X.w).is s.heap u.1 u.2.1 := fun u hu => by
  obtain ⟨x, hx, e1, e2⟩ := r.keys u hu
  obtain ⟨vs, h1, h2⟩ := hk x hx
  rw [← e1, ← e2]
  exact key_at I h1 h2
theorem rawT_at (I : Inv X pins σ H s) (e : H a = some (.ext (rawT X.prog X.w a xs))) : rawT X.prog X.w a xs s.heap := (show ObjOk X.prog X.w H s.heap a (.ext (rawT X.prog X.w a xs)) from I.hok a _ e).1
def valX (xs : List (List Key × Addr × V)) (k : List Key) : Option V := (xs.find? fun x => decide (x.1 = k)).map (·.2.2)
theorem V3.val {xs : List (List Key × Addr × V)} {us : List (List Key × Addr × Value)} (r : V3 xs us) (k : List Key) : RelO (valX xs k) ((atKey us k).map (·.2)) := by
  induction r with
  | nil => exact True.intro
  | @cons p q ps qs h t ih =>
    obtain ⟨h1, _, h2⟩ := h
    by_cases e : p.1 = k
    · have e' : q.1 = k := h1.symm.trans e
      have b : atKey (q :: qs) k = some q.2 := by simp [atKey, List.find?_cons, e']
      have c : valX (p :: ps) k = some p.2.2 := by simp [valX, List.find?_cons, e]
      rw [b, c]; exact h2
    · have e' : ¬ q.1 = k := fun z => e (h1.trans z)
      have b : atKey (q :: qs) k = atKey qs k := by simp [atKey, List.find?_cons, e']
      have c : valX (p :: ps) k = valX ps k := by simp [valX, List.find?_cons, e]
      rw [b, c]; exact ih
theorem t_typeIs (I : Inv X pins σ H s) (e : H a = some (.ext (rawT X.prog X.w a xs))) : s.TypeIs (.ref a) "dict" := by
  obtain ⟨z, y, us, r, o, es, ho, hc, _⟩ := rawT_at I e
  exact ⟨o, ho, hc.1⟩
theorem t_in {Q : Value → Shared → Prop} (hu : A.units + 1 < cLine) (I : Inv X pins σ H s) (e : H a = some (.ext (rawT X.prog X.w a xs))) (hk : Keyed X.K H xs) (hb : SqT X.K H b vs) (r : Paired isV k vs) (h : ∀ s', Inv X pins σ H s' → Q (.bool (valX xs k).isSome) s') :
    wpAny (model X.prog X.w) A (compareOp .In (.ref b) (.ref a)) Q E s := by
  obtain ⟨z, hd, us, r3, dd⟩ := rawT_at I e
  refine wpAny_in_heap (tupleKind_room_in1 hu) (key_at I hb r) hd (dd.of (hk.is I r3)) ?_
  have q := (r3.val k).isSome_eq
  rw [Option.isSome_map] at q
  rw [← q]
  exact h _ (I.tok _)
theorem t_notIn {Q : Value → Shared → Prop} (hu : A.units + 1 < cLine) (I : Inv X pins σ H s) (e : H a = some (.ext (rawT X.prog X.w a xs))) (hk : Keyed X.K H xs) (hb : SqT X.K H b vs) (r : Paired isV k vs) (h : ∀ s', Inv X pins σ H s' → Q (.bool (!(valX xs k).isSome)) s') :
    wpAny (model X.prog X.w) A (compareOp .NotIn (.ref b) (.ref a)) Q E s := by
  obtain ⟨z, hd, us, r3, dd⟩ := rawT_at I e
  refine wpAny_notIn_heap (tupleKind_room_in1 hu) (key_at I hb r) hd (dd.of (hk.is I r3)) ?_
  have q := (r3.val k).isSome_eq
  rw [Option.isSome_map] at q
  rw [← q]
  exact h _ (I.tok _)
theorem t_getItem {v : V} {Q : Value → Shared → Prop} (hu : A.units + 1 < cLine) (I : Inv X pins σ H s) (e : H a = some (.ext (rawT X.prog X.w a xs))) (hk : Keyed X.K H xs) (hb : SqT X.K H b vs) (r : Paired isV k vs) (hv : valX xs k = some v) (h : ∀ w' s', Inv X pins σ H s' → RelV v w' → Q w' s') :
    wpAny (model X.prog X.w) A (getItem (.ref a) (.ref b)) Q E s := by
  obtain ⟨z, hd, us, r3, dd⟩ := rawT_at I e
  obtain ⟨w', hw, rw'⟩ := RelO.some_of (v := v) (o := (atKey us k).map (·.2)) (by rw [← hv]; exact r3.val k)
  obtain ⟨p, hp, hp2⟩ := Option.map_eq_some_iff.mp hw
  refine wpAny_getItem_heap (tupleKind_room_in1 hu) (key_at I hb r) (dd.of (hk.is I r3)) hp ?_
  rw [hp2]
  exact h w' _ (I.tok _) rw'
theorem t_get2 {d : V} {u : Value} {Q : Value → Shared → Prop} (hu : A.units + 1 < cLine) (I : Inv X pins σ H s) (e : H a = some (.ext (rawT X.prog X.w a xs))) (hk : Keyed X.K H xs) (hb : SqT X.K H b vs) (r : Paired isV k vs) (rd : RelV d u) (h : ∀ w' s', Inv X pins σ H s' → RelV ((valX xs k).getD d) w' → Q w' s') :
    wpAny (model X.prog X.w) A (call (.builtin "dict.get") [.ref a, .ref b, u]) Q E s := by
  obtain ⟨z, hd, us, r3, dd⟩ := rawT_at I e
  have hT := (dd.of (hk.is I r3)).typeIs
  exact call_meetsIn PySem.F.slot_dict_get hT PySem.F.entry_dict_get (PySem.F.args_dict_get_3 _ _ _) (meetsH_dict_get_default (knT X.prog X.w) a b hd u) ⟨tupleKind_room_in1 hu, k, us, key_at I hb r, dd.of (hk.is I r3), h _ _ (I.tok _) ((r3.val k).getD rd)⟩
/-- a table with one thing more, or put otherwise -/
def putX (xs : List (List Key × Addr × V)) (k : List Key) (b : Addr) (v : V) : List (List Key × Addr × V) :=
  if (xs.any fun x => decide (x.1 = k)) = true then xs.map (fun x => if x.1 = k then (x.1, x.2.1, v) else x) else xs ++ [(k, b, v)]
theorem valX_any (k : List Key) : ∀ xs : List (List Key × Addr × V), (xs.any fun x => decide (x.1 = k)) = (valX xs k).isSome
  | [] => rfl
  | p :: ps => by
    rw [List.any_cons]
    by_cases e : p.1 = k
    · simp [valX, List.find?_cons, e]
    · rw [valX_any k ps]; simp [valX, List.find?_cons, e]
theorem V3.put {xs : List (List Key × Addr × V)} {us : List (List Key × Addr × Value)} (r : V3 xs us) {v : V} {u : Value} (rv : RelV v u) : V3 (putX xs k b v) (storedH us k b u) := by
  have e : (xs.any fun x => decide (x.1 = k)) = (atKey us k).isSome := by
    rw [valX_any, (r.val k).isSome_eq, Option.isSome_map]
  unfold putX storedH
  rw [e]
  by_cases q : (atKey us k).isSome = true
  · rw [if_pos q, if_pos q]
    clear q e
    induction r with
    | nil => exact .nil
    | @cons p q ps qs h t ih =>
      rw [List.map_cons, List.map_cons]
      refine .cons ?_ ih
      obtain ⟨h1, h2, h3⟩ := h
      unfold putAt
      by_cases e : p.1 = k
      · rw [if_pos e, if_pos (h1.symm.trans e)]; exact ⟨h1, h2, rv⟩
      · rw [if_neg e, if_neg (fun z => e (h1.trans z))]; exact ⟨h1, h2, h3⟩
  · rw [if_neg q, if_neg q]
    exact Paired.snoc r ⟨rfl, rfl, rv⟩
theorem putX_len (xs : List (List Key × Addr × V)) (v : V) : (putX xs k b v).length ≤ xs.length + 1 := by
  unfold putX
  split
  · rw [List.length_map]; omega
  · rw [List.length_append, List.length_singleton]; omega
theorem t_setItem {v : V} {u : Value} {Q : Unit → Shared → Prop} (hu : A.units + 1 < cLine) (I : Inv X pins σ H s) (e : H a = some (.ext (rawT X.prog X.w a xs))) (hk : Keyed X.K H xs) (hb : SqT X.K H b vs) (r : Paired isV k vs) (rv : RelV v u) (hl : xs.length < sizeLine)
    (h : ∀ s', Inv X pins σ (upd H a (.ext (rawT X.prog X.w a (putX xs k b v)))) s' → Q () s') : wpAny (model X.prog X.w) A (setItem (.ref a) (.ref b) u) Q E s := by
  obtain ⟨z, hd, us, r3, dd⟩ := rawT_at I e
  have hz : us.length ≤ sizeLine := by rw [← Paired.length r3]; exact z
  refine setItemE hu (key_at I hb r) dd (hk.is I r3) (fun h' dd' hs t => h _ ?_) hz
  have he : ∃ q, h'.get? a = some q := let ⟨q, _, hq, _⟩ := dd'; ⟨q, hq⟩
  refine d_write I (by rw [e]; exact True.intro) hs he (rawT_ok ⟨?_, hd, _, r3.put rv, dd'⟩)
  have := putX_len (k := k) (b := b) xs v
  omega
/-- {} -/
def tNewT (P : Program) (w : World) : TE := fun _ H Q => ∀ p, H p = none → Q (.ref p) (upd H p (.ext (rawT P w p [])))
theorem rawT_new {P : Program} {w : World} (h : Heap) (hb : sysModules < h.objs.size) : rawT P w h.objs.size [] (h.push { cls := .type "dict", data := .dict #[] }) :=
  ⟨Nat.zero_le _, beq_eq_false_iff_ne.mpr (Ne.symm (Nat.ne_of_lt hb)), [], .nil, DictE.new h⟩
theorem pe_newT {pos : Pos} : PE X (.Dict [] [] pos) (tNewT X.prog X.w) := ⟨fun pins s σ H Q I h =>
  wpAny_Dict_empty ⟨.ref s.heap.objs.size, _, I.laid (a := s.heap.objs.size) (o := .ext (rawT X.prog X.w s.heap.objs.size [])) (t' := s.toks) (fun _ _ q => Heap.get?_push_of_some _ q) (Nat.le_refl _) (rawT_ok (rawT_new s.heap I.big)), rfl, h _ (I.hok.fresh (Nat.le_refl _))⟩⟩
end
/-! ### a dict of pairs -/
def mergeX (xs ps : List (List Key × Addr × V)) : List (List Key × Addr × V) := ps.foldl (fun acc p => putX acc p.1 p.2.1 p.2.2) xs
theorem V3.merge {ps : List (List Key × Addr × V)} {qs : List (List Key × Addr × Value)} (r1 : V3 ps qs) : ∀ {xs : List (List Key × Addr × V)} {us : List (List Key × Addr × Value)}, V3 xs us → V3 (mergeX xs ps) (storedAllH us qs) := by
  induction r1 with
  | nil => exact fun r => r
  | @cons p q ps qs h t ih =>
    intro xs us r
    obtain ⟨h1, h2, h3⟩ := h
    have e := r.put (k := p.1) (b := p.2.1) h3
    have e' : V3 (putX xs p.1 p.2.1 p.2.2) (storedH us q.1 q.2.1 q.2.2) := by rw [← h1, ← h2]; exact e
    exact ih e'
theorem mergeX_len : ∀ (ps xs : List (List Key × Addr × V)), (mergeX xs ps).length ≤ xs.length + ps.length
  | [], xs => Nat.le_refl _
  | p :: ps, xs => by
    have h1 := mergeX_len ps (putX xs p.1 p.2.1 p.2.2)
    have h2 := putX_len (k := p.1) (b := p.2.1) xs p.2.2
    show (mergeX (putX xs p.1 p.2.1 p.2.2) ps).length ≤ _
    rw [List.length_cons]
    omega
section
variable {X : Cx}
theorem pairs_ofX {pins : List (Addr × Obj)} {σ : L2.St} {H : Hp} {s : Shared} (I : Inv X pins σ H s) : ∀ {ps : List Addr} {kvs : List (List Key × Addr × V)}, Paired (fun p q => SqT X.K H p [.ref q.2.1, q.2.2]) ps kvs →
    ∃ prs : List (List Key × Addr × Value), V3 kvs prs ∧ prs.length = ps.length ∧ ∀ (j : Nat) (q : List Key × Addr × Value), prs[j]? = some q → ∃ b : Addr, ps[j]? = some b ∧ IsTup s.heap b #[.ref q.2.1, q.2.2]
  | _, _, .nil => ⟨[], .nil, rfl, fun j q e => by simp at e⟩
  | _, _, .cons (a := p) (b := kv) h t => by
    obtain ⟨prs, r, hl, hp⟩ := pairs_ofX I t
    obtain ⟨its, rv, ht, _⟩ := I.tuple h
    obtain ⟨u, y, ei, ru, ry⟩ := vals2 rv
    subst ei
    cases ru
    refine ⟨(kv.1, kv.2.1, y) :: prs, .cons ⟨rfl, rfl, ry⟩ r, by rw [List.length_cons, List.length_cons, hl], fun j q e => ?_⟩
    cases j with
    | zero =>
      have e' : (kv.1, kv.2.1, y) = q := Option.some.inj e
      subst e'
      exact ⟨p, rfl, ht⟩
    | succ j =>
      obtain ⟨b, e1, e2⟩ := hp j q (by simpa using e)
      exact ⟨b, by simpa using e1, e2⟩
def rDictT (X : Cx) : List V → Hp → VK → Prop := fun xs H Q => ∃ (a : Addr) (ps : List Addr) (kvs : List (List Key × Addr × V)), xs = [.ref a] ∧ SqL X.K H a (ps.map V.ref) ∧ Paired (fun p q => SqT X.K H p [.ref q.2.1, q.2.2]) ps kvs ∧ Keyed X.K H kvs ∧
    ∀ p, H p = none → Q (.ref p) (upd H p (.ext (rawT X.prog X.w p (mergeX [] kvs))))
theorem call_dictT (hcalm : X.calm = true) (hu : X.A.units + 2 < cLine) : CallR X (.type "dict") (rDictT X) := by
  intro pins s σ H xs us Q I r q
  obtain ⟨a, ps, kvs, ex, hq, hp, hk, q⟩ := q
  subst ex
  obtain ⟨u, eu, rx⟩ := vals1 r
  subst eu
  cases rx
  obtain ⟨its, rv, pl, hz⟩ := I.list hq
  have ei := refs_at rv
  subst ei
  rw [List.length_map] at hz
  obtain ⟨prs, rel, hl, hpr⟩ := pairs_ofX I hp
  obtain ⟨o, n, ho, hc, hd, hdat⟩ := pl
  have PA := PairArg.list (prog := X.prog) (w := X.w) a (ps.map Value.ref).toArray (fun j => ps.getD j 0) (prs.map fun q => ((Value.ref q.2.1, q.2.2) : Value × Value))
  refine callDictE (ps := prs) PA (I.ok.hd hcalm) hu ⟨⟨o, n, ho, hc, hd, hdat⟩, by simp [hl], fun j k v e => ?_⟩ ⟨by simp, fun i key v e => ?_⟩ (fun h' kk x hx => ?_) (by rw [List.length_map, hl]; exact hz) fun h' tk hd' kk => ?_
  · obtain ⟨x, hx, e1⟩ := List.getElem?_map .. ▸ e |> Option.map_eq_some_iff.mp
    cases e1
    obtain ⟨b, e2, e3⟩ := hpr j x hx
    refine ⟨by simp [e2], .inl ?_⟩
    have : ps.getD j 0 = b := by simp [List.getD, e2]
    show s.heap.IsTuple (ps.getD j 0) _
    rw [this]
    exact e3
  · obtain ⟨x, hx, e1⟩ := Option.map_eq_some_iff.mp ((List.getElem?_map ..).symm.trans e)
    cases e1
    exact ⟨x.1, x.2.1, hx, rfl⟩
  · obtain ⟨ob, items, m, g1, g2, g3, g4⟩ := hk.is I rel x hx
    exact ⟨ob, items, m, kk _ _ (Nat.ne_of_lt (Heap.lt_size g1)) (fun z => nomatch z) g1, g2, g3, g4⟩
  · have hm : (s.heap.objs.size == sysModules) = false := beq_eq_false_iff_ne.mpr (Nat.ne_of_gt I.big)
    have hlen : (mergeX [] kvs).length ≤ sizeLine := by
      refine Nat.le_trans (mergeX_len kvs []) ?_
      rw [List.length_nil, Nat.zero_add, Paired.length rel, hl]
      exact hz
    exact ⟨.ref s.heap.objs.size, _, I.laid (t' := tk) (fun b o e => kk b o (fun z => nomatch z) e) (Nat.le_refl _) (rawT_ok ⟨hlen, hm, _, V3.merge rel .nil, hd'⟩), rfl, q _ (I.hok.fresh (Nat.le_refl _))⟩
end
/-! ### for k in d -/
/-- the dict at a as it stands at each turn, as long as it was -/
def ItK (P : Program) (w : World) (a : Addr) (n : Nat) : L2.It where
  go i H := i < n ∧ ∃ xs, H a = some (.ext (rawT P w a xs)) ∧ xs.length = n
  yld i H v H' := H' = H ∧ ∃ b, v = .ref b ∧ ∀ xs, H a = some (.ext (rawT P w a xs)) → ∃ q, xs[i]? = some q ∧ q.2.1 = b
  stop i H := n ≤ i ∧ ∃ xs, H a = some (.ext (rawT P w a xs)) ∧ xs.length = n
theorem V3.get {xs : List (List Key × Addr × V)} {us : List (List Key × Addr × Value)} (r : V3 xs us) : ∀ {i : Nat} {u : List Key × Addr × Value}, us[i]? = some u → ∃ x, xs[i]? = some x ∧ x.2.1 = u.2.1 := by
  induction r with
  | nil => exact fun e => by simp at e
  | cons h t ih =>
    intro i u e
    cases i with
    | zero =>
      have e' := Option.some.inj e
      subst e'
      exact ⟨_, rfl, h.2.1⟩
    | succ i =>
      obtain ⟨x, h1, h2⟩ := ih (i := i) (by simpa using e)
      exact ⟨x, by simpa using h1, h2⟩
theorem turn_keysX {P : Program} {w : World} {K : PySem.W.Frag} {tg : Expr} (a it : Addr) (n : Nat) : Turn P w K tg (ItK P w a n) [it] it (fun i h => h.IsKeyIter it a i n n) where
  mem := by simp
  obj := fun i h st b hb => by
    have e : b = it := by simpa using hb
    subst e
    obtain ⟨oi, e, c, dd⟩ := st
    exact ⟨oi, e, fun v z => by rw [dd] at z; cases z⟩
  keep := fun i h h' st k => st.at fun oi e => k it (by simp) oi e
  item := by
    intro X hP hw hK hc i pins s σ H E I hf st hg
    subst hP hw hK
    obtain ⟨hi, xs, e, hn⟩ := hg
    obtain ⟨f0, f1, f2, f3, f4, f5⟩ := hf it (by simp)
    obtain ⟨z, y, us, r, o, es, ho, hx, hdt, hes, hnd⟩ := rawT_at I e
    have hul : us.length = n := by rw [← Paired.length r]; exact hn
    have hsz : es.size = n := by rw [size_of_entries hes, hul]
    obtain ⟨u, hu⟩ : ∃ u, us[i]? = some u := ⟨us[i]'(by omega), List.getElem?_eq_getElem _⟩
    have hen : es[i]? = some (entryOfKey (knT X.prog X.w) u) := by rw [entry_at hes i, hu]; rfl
    rw [hul] at hdt
    refine next_key_item st ho hdt hsz hen fun h' st' sb => ?_
    have I1 : Inv X pins σ H { s with heap := h' } := I.turned (t' := s.toks) (fun b ob hb e => (sb.2 b hb).trans e) f0 f1 f3 f4 f5
    obtain ⟨oi, e3, c, dd⟩ := id st'
    refine ⟨.ref u.2.1, rfl, go_of (s := { s with heap := h' }) e3 c dd (by decide) ⟨.ref u.2.1, H, I1, rfl, ⟨rfl, u.2.1, rfl, fun xs' e' => ?_⟩, st', fun b hb => (hf b hb).1⟩⟩
    obtain ⟨z', y', us', r', o', es', ho', hx', hdt', hes', hnd'⟩ := rawT_at I e'
    rw [ho] at ho'
    cases ho'
    rw [hdt] at hdt'
    injection hdt' with he' _
    subst he'
    have hen' := hen
    rw [entry_at hes' i] at hen'
    obtain ⟨u', h1, h2⟩ := Option.map_eq_some_iff.mp hen'
    obtain ⟨x, g1, g2⟩ := r'.get h1
    refine ⟨x, g1, ?_⟩
    have : Value.ref u'.2.1 = Value.ref u.2.1 := congrArg DictEntry.key h2
    injection this with this
    rw [g2, this]
  done := by
    intro X hP hw hK hc i pins s σ H E I hf st hg
    subst hP hw hK
    obtain ⟨hi, xs, e, hn⟩ := hg
    obtain ⟨f0, f1, f2, f3, f4, f5⟩ := hf it (by simp)
    obtain ⟨z, y, us, r, o, es, ho, hx, hdt, hes, hnd⟩ := rawT_at I e
    have hul : us.length = n := by rw [← Paired.length r]; exact hn
    have hsz : es.size = n := by rw [size_of_entries hes, hul]
    rw [hul] at hdt
    exact next_key_end (I.ok.hd hc) st ho hdt hsz hi fun h' eb => ⟨rfl, I.turned (t' := s.toks) (fun b ob hb e => eb b ob hb e) f0 f1 f3 f4 f5⟩
  self := fun A i s Q E st h => by
    refine wpAny_pyIter_slot st.typeIs PySem.F.slot_dict_keyiterator_iter (wpAny_call_entry PySem.F.slot_dict_keyiterator_iter st.typeIs PySem.F.entry_dict_keyiterator_iter ?_ (PySem.F.args_dict_keyiterator_iter_1 _))
    show wpAny _ _ (ret (.ref it)) _ _ s
    exact wpAny_pure ⟨_, rfl, "dict_keyiterator", _, st.typeIs, PySem.F.slot_dict_keyiterator_next.lookup, h⟩
theorem iter_keysX {X : Cx} {tg : Expr} {pins : List (Addr × Obj)} {σ : L2.St} {H : Hp} {s : Shared} {a : Addr} {xs : List (List Key × Addr × V)} {R : L2.It → Hp → Prop} {E : Value → Shared → Prop} (I : Inv X pins σ H s) (e : H a = some (.ext (rawT X.prog X.w a xs))) (q : R (ItK X.prog X.w a xs.length) H) :
    wpAny (model X.prog X.w) X.A (pyIter (.ref a)) (PIE X pins σ tg R) E s := by
  obtain ⟨z, y, us, r, o, es, ho, hx, hdt, hes, hnd⟩ := rawT_at I e
  have hul : us.length = xs.length := (Paired.length r).symm
  have hsz : es.size = xs.length := by rw [size_of_entries hes, hul]
  refine iter_keys y ho hx hdt (pi_one (tk := s.toks) I _ (turn_keysX _ _ _) ⟨_, Heap.get?_push_size _ rfl, rfl, ?_⟩ q)
  rw [hsz, hul]
  rfl
end Mi

namespace Mi
open PySem L2

inductive BI where
  | len | min2 | max2 | abs | int1 | lst1 | tup1 | all1 | any1 | sum1 | dictT
  deriving DecidableEq, Inhabited
inductive BM where
  | append | extend | pop | popAt | clear | reverse | index | count | get1 | get2 | update
  deriving DecidableEq, Inhabited
inductive KT where
  | none | bool | int | str | tuple | list | dict
  deriving DecidableEq, Inhabited
def KT.name : KT → String
  | .none => "NoneType"
  | .bool => "bool"
  | .int => "int"
  | .str => "str"
  | .tuple => "tuple"
  | .list => "list"
  | .dict => "dict"
inductive Ty where
  | b (n : KT) | own (c : Nat)
  deriving DecidableEq, Inhabited
/-- classes of exceptions: an own one, ValueError -/
inductive Xt where
  | own (c : Nat) | ve
  deriving DecidableEq, Inhabited
inductive Tg where
  | nm (i : Nat) | tup (is : List Nat)
  deriving Inhabited

mutual
inductive E where
  | var (i : Nat) | con (c : D) | glob (g : Nat)
  | bin (op : Operator) (a b : E) | una (op : UnaryOp) (a : E)
  | cmp (op : CmpOp) (a b : E) | chain (op op' : CmpOp) (a b c : E)
  | and_ (es : Es) | or_ (es : Es) | not_ (a : E) | ite (c a b : E)
  | tup (es : Es) | lst (es : Es) | idx (a i : E) | slc (a : E) (hl hh : Bool) (lo hi : E)
  | attr (a : E) (f : Nat) | call (f : Nat) (es : Es) | make (c : Nat) (es : Es) | meth (a : E) (m : Nat) (es : Es)
  | bm (m : BM) (a : E) (es : Es) | bi (f : BI) (es : Es) | isi (a : E) (one : Bool) (ts : List Ty)
  | comp (own : List (Str × Nat)) (tg : Tg) (it : I) (ifs : Es) (elt : E)
  | dnew (t : Bool) | dsp (kvs : Es) | join (a e : E) | lrev (a : E) | xis (a : E) (one : Bool) (ts : List Xt)
inductive Es where
  | nil | cons (e : E) (es : Es)
inductive I where
  | val (e : E) | rng1 (e : E) | rng2 (a b : E) | enu (e : E) | zip (a b : E)
end

mutual
inductive C where
  | set (i : Nat) (e : E) | aug (i : Nat) (op : Operator) (e : E) | setT (is : List Nat) (e : E) | par (i j : Nat) (a b : E)
  | setIx (o i e : E) | setAt (o : E) (f : Nat) (e : E)
  | ex (e : E) | ret (e : E) | retN | pass | brk | cnt | doc
  | rai (c : Nat) (es : Es) | tryS (b : C) (c : Nat) (j : Nat) (s : Cs)
  | ifS (c : E) (a b : Cs) | forS (tg : Tg) (it : I) (b : Cs) | whl (c : E) (b : Cs)
inductive Cs where
  | nil | cons (c : C) (cs : Cs)
end

abbrev Env := List (Option D)
inductive Fl where
  | nx (env : Env) | rt (d : D) | bk (env : Env) | ct (env : Env)

/-- what a loop walks -/
inductive It where
  | seq (n : D) | tup (xs : List D) | rng (lo : Int) (k : Nat) | enu (n : D) | zip (m n : D) | chars (x : Str) | keys (n m : Nat)
/-- a list or a tuple that is read -/
def sqAt (S : Sto) : D → Option (List D)
  | .tup xs => some xs
  | d => seqAt S d
def itNext : It → Nat → Sto → Option (Option D)
  | .seq n, i, S => (seqAt S n).map fun xs => xs[i]?
  | .tup xs, i, _ => some xs[i]?
  | .rng lo k, i, _ => some (if i < k then some (.int (lo + i)) else none)
  | .enu n, i, S => (sqAt S n).map fun xs => xs[i]?.map fun d => .tup [.int i, d]
  | .zip m n, i, S => match sqAt S m, sqAt S n with
    | some xs, some ys => match xs[i]?, ys[i]? with
      | some a, some b => some (some (.tup [a, b]))
      | _, _ => some none
    | _, _ => none
  | .chars x, i, _ => some (x.cps[i]?.map fun c => .str ⟨#[c]⟩)
  | .keys n m, i, S => match S[n]? with
    | some (.dT kvs) => if kvs.length = m then some (kvs[i]?.map fun p => .tup (p.1.map keyD)) else none
    | _ => none
/-- a dict that is walked: its number, how many keys it has -/
def dtLen (S : Sto) : D → Option (Nat × Nat)
  | .ref n => match S[n]? with
    | some (.dT kvs) => some (n, kvs.length)
    | _ => none
  | _ => none

def setAll : List Nat → List D → Env → Option Env
  | [], [], env => some env
  | i :: is, d :: ds, env => setAll is ds (env.set i (some d))
  | _, _, _ => none
/-- a, b = x: a list or a tuple -/
def asgS (S : Sto) (is : List Nat) (d : D) (env : Env) : Option Env := match sqAt S d with
  | some xs => setAll is xs env
  | none => none
def asg : Tg → D → Env → Option Env
  | .nm i, d, env => some (env.set i (some d))
  | .tup is, .tup ds, env => setAll is ds env
  | _, _, _ => none

def forN (nx : Nat → Sto → Option (Option D)) (as : D → Env → Option Env) (body : Env → Sto → Out Fl) : Nat → Nat → Env → Sto → Out Fl
  | 0, _, _, _ => .no
  | f + 1, i, env, S => match nx i S with
    | none => .no
    | some none => .ok (.nx env) S
    | some (some d) => match as d env with
      | none => .no
      | some env1 => (body env1 S).bind fun fl S1 => match fl with
        | .nx env2 => forN nx as body f (i + 1) env2 S1
        | .ct env2 => forN nx as body f (i + 1) env2 S1
        | .bk env2 => .ok (.nx env2) S1
        | .rt d => .ok (.rt d) S1
def whlN (c : Env → Sto → Out Bool) (body : Env → Sto → Out Fl) : Nat → Env → Sto → Out Fl
  | 0, _, _ => .no
  | f + 1, env, S => (c env S).bind fun b S1 => match b with
    | false => .ok (.nx env) S1
    | true => (body env S1).bind fun fl S2 => match fl with
      | .nx env2 => whlN c body f env2 S2
      | .ct env2 => whlN c body f env2 S2
      | .bk env2 => .ok (.nx env2) S2
      | .rt d => .ok (.rt d) S2
def compN (nx : Nat → Sto → Option (Option D)) (as : D → Env → Option Env) (tt : Env → Sto → Out Bool) (elt : Env → Sto → Out D) (env : Env) : Nat → Nat → List D → Sto → Out (List D)
  | 0, _, _, _ => .no
  | f + 1, i, acc, S => match nx i S with
    | none => .no
    | some none => .ok acc S
    | some (some d) => match as d env with
      | none => .no
      | some env1 => (tt env1 S).bind fun b S1 => match b with
        | false => compN nx as tt elt env f (i + 1) acc S1
        | true => (elt env1 S1).bind fun y S2 => if acc.length < lim then compN nx as tt elt env f (i + 1) (acc ++ [y]) S2 else .no

def wipeD (env : Env) : List Nat → Env
  | [] => env
  | i :: r => (wipeD env r).set i none

def intOf : D → Option Int
  | .int i => some i
  | _ => none
def blOf : D → Option Bool
  | .bl b => some b
  | _ => none
def putKD {κ : Type} [DecidableEq κ] (kvs : List (κ × D)) (k : κ) (x : D) : List (κ × D) := if (kvs.any fun kv => decide (kv.1 = k)) = true then kvs.map (fun kv => if kv.1 = k then (kv.1, x) else kv) else kvs ++ [(k, x)]
def mergeTD (kvs more : List (List Key × D)) : List (List Key × D) := more.foldl (fun acc kv => putKD acc kv.1 kv.2) kvs
def pairT : D → Option (List Key × D)
  | .tup [k, v] => k.keyT.map fun q => (q, v)
  | _ => none
def pairsT (xs : List D) : Option (List (List Key × D)) := xs.mapM pairT
def biD (f : BI) (ds : List D) (S : Sto) : Out D := match f, ds with
  | .len, [d] => match lenD S d with
    | some n => .ok (.int n) S
    | none => .no
  | .min2, [.int i, .int j] => .ok (.int (if j < i then j else i)) S
  | .max2, [.int i, .int j] => .ok (.int (if j > i then j else i)) S
  | .abs, [.int i] => .ok (.int (if i < 0 then -i else i)) S
  | .int1, [.int i] => .ok (.int i) S
  | .int1, [.bl b] => .ok (.int (if b then 1 else 0)) S
  | .tup1, [.tup xs] => .ok (.tup xs) S
  | .tup1, [d] => match seqAt S d with
    | some xs => .ok (.tup xs) S
    | none => .no
  | .all1, [d] => match (seqAt S d).bind fun xs => xs.mapM blOf with
    | some bs => .ok (.bl (bs.all id)) S
    | none => .no
  | .any1, [d] => match (seqAt S d).bind fun xs => xs.mapM blOf with
    | some bs => .ok (.bl (bs.any id)) S
    | none => .no
  | .sum1, [d] => match (seqAt S d).bind fun xs => xs.mapM intOf with
    | some ns => .ok (.int ns.sum) S
    | none => .no
  | .dictT, [d] => match (seqAt S d).bind pairsT with
    | some kvs => new S (.dT (mergeTD [] kvs))
    | none => .no
  | .lst1, [.tup xs] => new S (.lst xs)
  | .lst1, [d] => match seqAt S d with
    | some xs => new S (.lst xs)
    | none => .no
  | _, _ => .no

def mergeD (kvs more : List (Key × D)) : List (Key × D) := more.foldl (fun acc kv => putKD acc kv.1 kv.2) kvs
def getB (o : MO) (k : D) : Option (Option D) := match o with
  | .dK kvs => k.key.map fun k => getK kvs k
  | .dT kvs => k.keyTB.map fun k => getK kvs k
  | _ => none
def bmD (m : BM) (a : D) (ds : List D) (S : Sto) : Out D := match a with
  | .ref n => match S[n]? with
    | some (.lst xs) => (match m, ds with
      | .append, [d] => if xs.length < lim then .ok .non (S.set n (.lst (xs ++ [d]))) else .no
      | .extend, [.ref k] => (match lstAt S k with
        | some ys => if xs.length + ys.length ≤ lim then .ok .non (S.set n (.lst (xs ++ ys))) else .no
        | none => .no)
      | .extend, [.tup ys] => if xs.length + ys.length ≤ lim then .ok .non (S.set n (.lst (xs ++ ys))) else .no
      | .pop, [] => (match xs[xs.length - 1]? with
        | some d => .ok d (S.set n (.lst xs.dropLast))
        | none => .no)
      | .popAt, [.int i] => (match ixN xs.length i with
        | some k => (match xs[k]? with
          | some d => .ok d (S.set n (.lst (xs.eraseIdx k)))
          | none => .no)
        | none => .no)
      | .clear, [] => .ok .non (S.set n (.lst []))
      | .reverse, [] => .ok .non (S.set n (.lst xs.reverse))
      | .index, [d] => (match toPy S 40 d, xs.mapM (toPy S 39) with
        | some y, some ys => (match ys.findIdx? fun z => PyData.eqv z y with
          | some j => .ok (.int (j : Nat)) S
          | none => .no)
        | _, _ => .no)
      | .count, [d] => (match toPy S 40 d, xs.mapM (toPy S 39) with
        | some y, some ys => .ok (.int ((ys.countP fun z => PyData.eqv z y : Nat) : Int)) S
        | _, _ => .no)
      | _, _ => .no)
    | some o => (match m, ds with
      | .get1, [k] => (match getB o k with
        | some r => .ok (r.getD .non) S
        | none => .no)
      | .get2, [k, d] => (match getB o k with
        | some r => .ok (r.getD d) S
        | none => .no)
      | .update, [.ref k] => (match o, S[k]? with
        | .dK kvs, some (.dK more) => if n ≠ k ∧ kvs.length + more.length ≤ lim then .ok .non (S.set n (.dK (mergeD kvs more))) else .no
        | _, _ => .no)
      | _, _ => .no)
    | none => .no
  | _ => .no

/-- whether it is a thing of that method's type -/
def bmK (m : BM) (a : D) (S : Sto) : Bool := match a with
  | .ref n => match S[n]? with
    | some (.lst _) => (match m with
      | .get1 => false
      | .get2 => false
      | .update => false
      | _ => true)
    | some (.dK _) => (match m with
      | .get1 => true
      | .get2 => true
      | .update => true
      | _ => false)
    | some (.dT _) => (match m with
      | .get2 => true
      | _ => false)
    | _ => false
  | _ => false

/-- the kinds of things that isinstance tells apart -/
def tyName (S : Sto) : D → Option (KT ⊕ Nat)
  | .non => some (.inl .none)
  | .bl _ => some (.inl .bool)
  | .int _ => some (.inl .int)
  | .str _ => some (.inl .str)
  | .tup _ => some (.inl .tuple)
  | .rol _ => some (.inl .list)
  | .ref n => match S[n]? with
    | some (.lst _) => some (.inl .list)
    | some (.dK _) => some (.inl .dict)
    | some (.dT _) => none
    | some (.ins c _) => some (.inr c)
    | some (.exn c _ _) => some (.inr c)
    | none => none
def tyLe (u t : KT) : Bool := decide (u = t) || (decide (u = .bool) && decide (t = .int))
def isTy (S : Sto) (d : D) : Ty → Option Bool
  | .b t => match tyName S d with
    | some (.inl u) => some (tyLe u t)
    | some (.inr _) => none
    | none => none
  | .own _ => none
def isTys (S : Sto) (d : D) : List Ty → Option Bool
  | [] => some false
  | t :: ts => match isTy S d t with
    | some true => some true
    | some false => isTys S d ts
    | none => none

def pairsD : List D → Option (List (Key × D))
  | [] => some []
  | k :: v :: r => match k.key, pairsD r with
    | some q, some l => some ((q, v) :: l)
    | _, _ => none
  | _ => none
/-- a[k] = x -/
def setD (a k x : D) (S : Sto) : Option Sto := match a with
  | .ref n => match S[n]? with
    | some (.lst xs) => (match k with
      | .int z => (match ixN xs.length z with
        | some j => some (S.set n (.lst (xs.set j x)))
        | none => none)
      | _ => none)
    | some (.dK kvs) => (match k.key with
      | some q => if kvs.length < lim then some (S.set n (.dK (putKD kvs q x))) else none
      | none => none)
    | some (.dT kvs) => (match k.keyT with
      | some q => if kvs.length < lim then some (S.set n (.dT (putKD kvs q x))) else none
      | none => none)
    | _ => none
  | _ => none

/-- an own class of exceptions: its __init__'s params, which field takes which param (the last one first), its ancestors and itself -/
structure EC where
  np : Nat
  fs : List (Nat × Nat)
  sup : List Nat
/-- whether an exception with those ancestors is of that class -/
def xtIn (sup : List Nat) : Xt → Bool
  | .own c => sup.contains c
  | .ve => true
/-- the defs that are called, those that make instances, the module's constants -/
structure Fs where
  f : Nat → List D → Sto → Out D
  m : Nat → List D → Sto → Out D
  gv : Nat → D
  ec : Nat → Option EC
section
variable (Y : Fs)
mutual
def ev : E → Env → Sto → Out D
  | .var i, env, S => match env[i]? with
    | some (some d) => .ok d S
    | _ => .no
  | .con c, _, S => .ok c S
  | .glob g, _, S => .ok (Y.gv g) S
  | .bin op a b, env, S => (ev a env S).bind fun x S1 => (ev b env S1).bind fun y S2 => binD op x y S2
  | .una op a, env, S => (ev a env S).bind fun x S1 => unD op x S1
  | .cmp op a b, env, S => (ev a env S).bind fun x S1 => (ev b env S1).bind fun y S2 => obl (cmpD op x y S2) S2
  | .chain op op' a b c, env, S => (ev a env S).bind fun x S1 => (ev b env S1).bind fun y S2 => match cmpD op x y S2 with
    | some true => (ev c env S2).bind fun z S3 => obl (cmpD op' y z S3) S3
    | some false => .ok (.bl false) S2
    | none => .no
  | .and_ es, env, S => evAnd es env S
  | .or_ es, env, S => evOr es env S
  | .not_ a, env, S => (ev a env S).bind fun x S1 => obl ((truthD S1 x).map (!·)) S1
  | .ite c a b, env, S => (ev c env S).bind fun x S1 => match truthD S1 x with
    | some true => ev a env S1
    | some false => ev b env S1
    | none => .no
  | .tup es, env, S => (evs es env S).bind fun xs S1 => if xs.length ≤ lim then .ok (.tup xs) S1 else .no
  | .lst es, env, S => (evs es env S).bind fun xs S1 => if xs.length ≤ lim then new S1 (.lst xs) else .no
  | .idx a i, env, S => (ev a env S).bind fun x S1 => (ev i env S1).bind fun y S2 => idxD x y S2
  | .slc a hl hh lo hi, env, S => (ev a env S).bind fun x S1 => match hl, hh with
    | false, false => slcD x none none S1
    | true, false => (ev lo env S1).bind fun y S2 => match y with
      | .int i => slcD x (some i) none S2
      | _ => .no
    | false, true => (ev hi env S1).bind fun y S2 => match y with
      | .int i => slcD x none (some i) S2
      | _ => .no
    | true, true => (ev lo env S1).bind fun y S2 => match y with
      | .int i => (ev hi env S2).bind fun z S3 => match z with
        | .int j => slcD x (some i) (some j) S3
        | _ => .no
      | _ => .no
  | .attr a f, env, S => (ev a env S).bind fun x S1 => match x with
    | .ref n => match S1[n]? with
      | some (.exn _ _ fs) => oD (getF fs f) S1
      | _ => .no
    | _ => .no
  | .call f es, env, S => (evs es env S).bind fun xs S1 => Y.f f xs S1
  | .make c es, env, S => .no
  | .meth a m es, env, S => .no
  | .bm m a es, env, S => (ev a env S).bind fun x S1 => if bmK m x S1 = true then (evs es env S1).bind fun xs S2 => bmD m x xs S2 else .no
  | .bi f es, env, S => (evs es env S).bind fun xs S1 => biD f xs S1
  | .isi a _ ts, env, S => (ev a env S).bind fun x S1 => obl (isTys S1 x ts) S1
  | .comp own tg it ifs elt, env, S => (evI it env S).bind fun J S1 =>
      (compN (itNext J) (asg tg) (fun e s => (evIfs ifs e s).calm) (fun e s => (ev elt e s).calm) (wipeD env (own.map (·.2))) (lim + 2) 0 [] S1).bind fun xs S2 => new S2 (.lst xs)
  | .dnew t, _, S => new S (if t then .dT [] else .dK [])
  | .dsp es, env, S => (evs es env S).bind fun ds S1 => match pairsD ds with
    | some kvs => if kvs.length ≤ 15 then new S1 (.dK (mergeD [] kvs)) else .no
    | none => .no
  | .join a e, env, S => (ev a env S).bind fun x S1 => match x with
    | .str s => (ev e env S1).bind fun y S2 => joinD (.str s) y S2
    | _ => .no
  | .lrev a, env, S => (ev a env S).bind fun x S1 => match seqAt S1 x with
    | some xs => new S1 (.lst xs.reverse)
    | none => .no
  | .xis a _ ts, env, S => (ev a env S).bind fun x S1 => match x with
    | .ref n => match S1[n]? with
      | some (.exn _ sup _) => .ok (.bl (ts.any (xtIn sup))) S1
      | _ => .no
    | _ => .no
def evAnd : Es → Env → Sto → Out D
  | .nil, _, _ => .no
  | .cons e es, env, S => match es with
    | .nil => ev e env S
    | .cons e' es' => (ev e env S).bind fun x S1 => match truthD S1 x with
      | some true => evAnd (.cons e' es') env S1
      | some false => .ok x S1
      | none => .no
def evOr : Es → Env → Sto → Out D
  | .nil, _, _ => .no
  | .cons e es, env, S => match es with
    | .nil => ev e env S
    | .cons e' es' => (ev e env S).bind fun x S1 => match truthD S1 x with
      | some true => .ok x S1
      | some false => evOr (.cons e' es') env S1
      | none => .no
def evs : Es → Env → Sto → Out (List D)
  | .nil, _, S => .ok [] S
  | .cons e es, env, S => (ev e env S).bind fun x S1 => (evs es env S1).bind fun xs S2 => .ok (x :: xs) S2
def evIfs : Es → Env → Sto → Out Bool
  | .nil, _, S => .ok true S
  | .cons e _, env, S => (ev e env S).bind fun x S1 => match truthD S1 x with
    | some b => .ok b S1
    | none => .no
def evI : I → Env → Sto → Out It
  | .val e, env, S => (ev e env S).bind fun x S1 => match x with
    | .tup xs => .ok (.tup xs) S1
    | .str x => .ok (.chars x) S1
    | x => match seqAt S1 x with
      | some _ => .ok (.seq x) S1
      | none => match dtLen S1 x with
        | some (n, m) => .ok (.keys n m) S1
        | none => .no
  | .rng1 e, env, S => (ev e env S).bind fun x S1 => match x with
    | .int j => if -(2 ^ 62) ≤ j ∧ j < 2 ^ 62 then .ok (.rng 0 j.toNat) S1 else .no
    | _ => .no
  | .rng2 a b, env, S => (ev a env S).bind fun x S1 => (ev b env S1).bind fun y S2 => match x, y with
    | .int i, .int j => if -(2 ^ 62) ≤ i ∧ i < 2 ^ 62 ∧ -(2 ^ 62) ≤ j ∧ j < 2 ^ 62 then .ok (.rng i (j - i).toNat) S2 else .no
    | _, _ => .no
  | .enu e, env, S => (ev e env S).bind fun x S1 => match sqAt S1 x with
      | some _ => .ok (.enu x) S1
      | none => .no
  | .zip a b, env, S => (ev a env S).bind fun x S1 => (ev b env S1).bind fun y S2 => match sqAt S2 x, sqAt S2 y with
    | some _, some _ => .ok (.zip x y) S2
    | _, _ => .no
end

def evT (e : E) (env : Env) (S : Sto) : Out Bool := (ev Y e env S).bind fun x S1 => match truthD S1 x with
  | some b => .ok b S1
  | none => .no

/-- the name of a clause goes -/
def Fl.wipe (j : Nat) : Fl → Fl
  | .nx env => .nx (env.set j none)
  | .rt d => .rt d
  | .bk env => .bk (env.set j none)
  | .ct env => .ct (env.set j none)
mutual
def exec : C → Env → Sto → Out Fl
  | .set i e, env, S => (ev Y e env S).bind fun x S1 => .ok (.nx (env.set i (some x))) S1
  | .aug i op e, env, S => match env[i]? with
    | some (some x) => (ev Y e env S).bind fun y S1 => (augD op x y S1).bind fun z S2 => .ok (.nx (env.set i (some z))) S2
    | _ => .no
  | .setT is e, env, S => (ev Y e env S).bind fun x S1 => match asgS S1 is x env with
    | some env1 => .ok (.nx env1) S1
    | none => .no
  | .par i j a b, env, S => (ev Y a env S).bind fun x S1 => (ev Y b env S1).bind fun y S2 => .ok (.nx ((env.set i (some x)).set j (some y))) S2
  | .setIx o i e, env, S => (ev Y e env S).bind fun x S1 => (ev Y o env S1).bind fun a S2 => (ev Y i env S2).bind fun k S3 => match setD a k x S3 with
    | some S4 => .ok (.nx env) S4
    | none => .no
  | .setAt o f e, env, S => (ev Y e env S).bind fun x S1 => (ev Y o env S1).bind fun a S2 => match a with
    | .ref n => match S2[n]? with
      | some (.ins c fs) => if fs.length < 1000 then .ok (.nx env) (S2.set n (.ins c (putF' f x fs))) else .no
      | _ => .no
    | _ => .no
  | .ex e, env, S => (ev Y e env S).bind fun _ S1 => .ok (.nx env) S1
  | .ret e, env, S => (ev Y e env S).bind fun x S1 => .ok (.rt x) S1
  | .retN, _, S => .ok (.rt .non) S
  | .pass, env, S => .ok (.nx env) S
  | .doc, env, S => .ok (.nx env) S
  | .brk, env, S => .ok (.bk env) S
  | .cnt, env, S => .ok (.ct env) S
  | .rai c es, env, S => match Y.ec c with
    | some k => (evs Y es env S).bind fun ds S1 => if ds.length = k.np then .exc c (k.fs.map fun p => (p.1, ds[p.2]?.getD .non)) S1 else .no
    | none => .no
  | .tryS b c j s, env, S => match exec b env S with
    | .exc c' fs S1 => match Y.ec c' with
      | some k => if k.sup.contains c = true then (if fs.map (·.1) = k.fs.map (·.1) then (execs s (env.set j (some (.ref S1.length))) (S1 ++ [.exn c' k.sup fs])).calm.bind fun fl S2 => .ok (fl.wipe j) S2 else .no) else .exc c' fs S1
      | none => .no
    | o => o
  | .ifS c a b, env, S => (evT Y c env S).bind fun t S1 => match t with
    | true => execs a env S1
    | false => execs b env S1
  | .forS tg it b, env, S => (evI Y it env S).bind fun J S1 => forN (itNext J) (asg tg) (fun e s => execs b e s) (lim + 2) 0 env S1
  | .whl c b, env, S => whlN (fun e s => evT Y c e s) (fun e s => execs b e s) (lim + 2) env S
def execs : Cs → Env → Sto → Out Fl
  | .nil, env, S => .ok (.nx env) S
  | .cons c cs, env, S => (exec c env S).bind fun fl S1 => match fl with
    | .nx env1 => execs cs env1 S1
    | fl => .ok fl S1
end
end

/-- a def: how many names it has, its body -/
structure FI where
  nm : Str
  N : List Str
  ps : List Str
  b : Cs
structure Gi where
  fns : List FI
  gv : Nat → D
  gnm : Nat → Str
  ec : Nat → Option EC := fun _ => none
/-- the classes of exceptions, where there is room to make one -/
def ecAt (G : Gi) : Nat → Nat → Option EC
  | 0 => fun _ => none
  | _ + 1 => G.ec
def runF (Y : Fs) (fi : FI) (ds : List D) (S : Sto) : Out D :=
  if ds.length = fi.ps.length then (execs Y fi.b (ds.map some ++ List.replicate (fi.N.length - ds.length) none) S).bind fun fl S1 => match fl with
    | .rt d => .ok d S1
    | .nx _ => .ok .non S1
    | _ => .no
  else .no
/-- the defs at n levels -/
def fnN (G : Gi) : Nat → Nat → List D → Sto → Out D
  | 0, _, _, _ => .no
  | 1, f, ds, S => match G.fns[f]? with
    | some fi => runF ⟨fun _ _ _ => .no, fun _ _ _ => .no, G.gv, fun _ => none⟩ fi ds S
    | none => .no
  | n + 2, f, ds, S => match G.fns[f]? with
    | some fi => runF ⟨fnN G (n + 1), fnN G n, G.gv, ecAt G n⟩ fi ds S
    | none => .no
end Mi

/-! try with one clause that names the exception; the exception is held as a thing of ours, in the suite and behind it. -/
namespace Mi
open PySem L2 PySem.Spec PyProof.Rows
/-- an exception held at a: its class, its dict -/
def XO (cls : Value) (d : Option Addr) (a : Addr) : HO := .ext fun h => ∃ (oe : Obj) (vs : Array Value), h.get? a = some oe ∧ Zc cls d oe ∧ oe.data = .fields vs
theorem xO_ok {P : Program} {w : World} {H : Hp} {h : Heap} {a : Addr} {cls : Value} {d : Option Addr} {oe : Obj} {vs : Array Value} (e : h.get? a = some oe) (z : Zc cls d oe) (q : oe.data = .fields vs) : ObjOk P w H h a (XO cls d a) :=
  ⟨⟨oe, vs, e, z, q⟩, ⟨oe, e⟩, fun _ _ ⟨o, v, q, r⟩ k => ⟨o, v, k o q, r⟩⟩
/-- the ends of a suite: the clause's name goes -/
def Ends.off (D : Ends) (i : Nat) : Ends := { nx := fun σ H => D.nx (σ.set i none) H, rt := D.rt, bk := fun σ H => D.bk (σ.set i none) H, ct := fun σ H => D.ct (σ.set i none) H }
/-- what the clause wishes of an exception of the body -/
def wHold (K : PySem.W.Frag) (c : Value) (i : Nat) (ts : TS) (Wo : WX) (D : Ends) : WX := fun cls d σ H =>
  ∃ t, PySem.W.exmOne K cls c = some t ∧ (t = true → ∀ a, H a = none → ts (Ends.off D i) (σ.set i (some (.ref a))) (upd H a (XO cls d a))) ∧ (t = false → Wo cls d σ H)
section
variable {X : Cx} {pins pn' : List (Addr × Obj)} {σ : L2.St} {H : Hp} {s sI s' : Shared}
theorem inv_in (I : Inv X pins σ H s) (a : Addr) : Inv (X.suite a (X.pn ++ pins)) [] σ H s where
  ok := I.ok.suite a _
  os := I.os
  bare := I.bare
  base := I.base
  loc := I.loc
  cell := I.cell
  free := I.free
  freeC := I.freeC
  pin := fun p hp => I.pin p (by rw [List.append_nil] at hp; exact hp)
  hok := I.hok
  len := I.len
theorem inv_out {a : Addr} (ok : X.Ok) (I : Inv (X.suite a (X.pn ++ pins)) pn' σ H s) : Inv X pins σ H s where
  ok := ok
  os := I.os
  bare := I.bare
  base := I.base
  loc := I.loc
  cell := I.cell
  free := I.free
  freeC := I.freeC
  pin := fun p hp => I.pin p (List.mem_append.mpr (.inl hp))
  hok := I.hok
  len := I.len
/-- a caught exception becomes a thing of ours -/
theorem inv_held {B h4 : Heap} {a : Addr} {oe : Obj} {vs : Array Value} {cls : Value} {d : Option Addr} (J : Inv X pins σ H sI) (nb : ∀ b o, sI.heap.get? b = some o → b ∉ frs X.stack → B.get? b = some o)
    (st : B.StaysIn h4) (ba : B.get? a = none) (nf : a ∉ frs X.stack) (up : sI.heap.UpToSlots h4) (os : s'.os = sI.os) (ag : AllBare s'.gens) (na : H a = none) (he : h4.get? a = some oe) (hz : Zc cls d oe) (hd : oe.data = .fields vs) :
    Inv X pins σ (upd H a (XO cls d a)) { s' with heap := h4 } := by
  have no : sI.heap.get? a = none := by
    cases e : sI.heap.get? a with
    | none => rfl
    | some o =>
      have q := nb a o e nf
      rw [ba] at q
      cases q
  obtain ⟨M, m1, m2⟩ := restrict h4 fun b => !decide (b = a)
  have mk : ∀ b, b ≠ a → M.get? b = h4.get? b := fun b hb => m1 b (by simp [hb])
  have ma : M.get? a = none := m2 a (by simp)
  have other : ∀ {b : Addr} {o : Obj}, sI.heap.get? b = some o → b ≠ a := fun {b o} e z => by
    subst z
    rw [no] at e
    cases e
  have L : Inv X pins σ H { s' with heap := M } := by
    refine J.landed (s' := { s' with heap := M }) nb (fun b o e => ?_) (fun b o e hn => ?_) os ag
    · have hb : b ≠ a := fun z => by
        subst z
        rw [ba] at e
        cases e
      exact (mk b hb).trans (st b o e)
    · obtain ⟨sl, q⟩ := up b o e hn
      exact ⟨sl, (mk b (other e)).trans q⟩
  refine L.laidN (h' := h4) (t' := s'.toks) (a := a) (fun b u e => ?_) ma na (xO_ok he hz hd)
  have hb : b ≠ a := fun z => by
    subst z
    have e : M.get? b = some u := e
    rw [ma] at e
    cases e
  exact (mk b hb).symm.trans e
end
section
variable {X : Cx} {x n : Str} {c : Value} {i : Nat} {body suite : List Stmt} {b1 : Stmt} {np pos pos' : Pos} {tb : WX → TS} {ts : TS} {Wo : WX}
theorem ps_hold (hs : X.stack = X.env :: X.outer) (hf : X.env.frame = some X.env.locals) (hN : X.N.Nodup) (hi : X.N[i]? = some n) (hl : X.env.kindOf n = some .local) (hc : Names X x c) (tk : Takes X Wo)
    (hb : ∀ (W : WX) (pn : List (Addr × Obj)) (xe : Value → Shared → Prop), Takes (X.tr pn xe) W → PassesOwn (model X.prog X.w) X.A X.env xe → PSs (X.tr pn xe) body (tb W))
    (hq : ∀ (a : Addr) (pn : List (Addr × Obj)), PSs (X.suite a pn) (b1 :: suite) ts) :
    PS X (.Try body [.ExceptHandler (some (.Name x np)) (some n) (b1 :: suite) pos'] [] [] pos) (fun D σ H => tb (wHold X.K c i ts Wo D) D σ H) := by
  constructor
  intro pins s σ H D I h
  have ok := I.ok
  have fr : X.A.frames = some (X.env :: X.outer) := ok.frames.trans (congrArg some hs)
  -- what the clause does with an exception
  let xe1 : Value → Shared → Prop := fun e s1 => wpAny (model X.prog X.w) X.A (noteFrame e X.env)
    (fun _ s2 => wpAny (model X.prog X.w) X.A (setFlight e none)
      (fun _ s3 => wpAny (model X.prog X.w) X.A (handleBy e X.env [.ExceptHandler (some (.Name x np)) (some n) (b1 :: suite) pos']) (SP X pins D) X.xe s3) X.xe s2) X.xe s1
  have catch_ : ∀ u s', XE (X.tr (X.pn ++ pins) xe1) (wHold X.K c i ts Wo D) u s' → xe1 u s' := by
    rintro _ s' ⟨a, B, sI, pins', τ, G, cls, d, rfl, J0, nb, up, sky, na, os, ag, t, ht, yes, no⟩
    have J : Inv X pins τ G sI := J0.ofTry ok
    have sky1 : Sky B (X.env :: X.outer) a (Zc cls d) X.env.locals s'.heap := hs ▸ sky
    refine Sky.land Zc.steady fr hf sky1 fun h3 fl up3 => ?_
    have J3 : Inv X pins τ G { s' with heap := h3 } := J.landed nb fl.1 (up.trans up3) os ag
    obtain ⟨o3, v3, he3, hz3, hd3⟩ := fl.there
    have nf : a ∉ frs X.stack := fun hm => by
      rw [hs] at hm
      obtain ⟨_, o', e', k⟩ := fl.2.2.1.mem hm
      cases he3.symm.trans e'
      exact k _ hd3
    have K3 := inv_in J3 a
    refine wpAny_handleBy_cons (codeAny_handlers_test ?_) fun z => nomatch z
    have ty : PySem.W.Looks (model X.prog X.w) h3 (typeOf (.ref a)) cls := fun _ _ _ _ k q => wpAny_typeOf_ref (k _ _ he3) (hz3.1.symm ▸ q)
    have lk := PySem.W.exm_one (M := model X.prog X.w) J3.kIn ty ht
    obtain ⟨c1, c2, c3⟩ := hc
    have name_ : ∀ {Q : Value → Shared → Prop} {E : Value → Shared → Prop}, Q c { s' with heap := h3 } → wpAny (model X.prog X.w) (X.A.mark (some (.ref a))) (eval (.Name x np) X.env) Q E { s' with heap := h3 } := by
      intro Q E q
      rcases c3 with c3 | ⟨c3, c4, c5⟩
      · exact ld_glob (X := X.suite a (X.pn ++ pins)) K3 c1 c3 q c2
      · exact ld_blt (X := X.suite a (X.pn ++ pins)) K3 c1 c3 c4 q c5 c2
    refine name_ (lk.here ?_)
    cases t with
    | true =>
      refine codeAny_handlers_suite_as (HandSPX.lands_againZ fl fun h4 fl4 up4 => ?_)
      obtain ⟨o4, v4, he4, hz4, hd4⟩ := fl4.there
      have J4 : Inv X pins τ (upd G a (XO cls d a)) { s' with heap := h4 } := inv_held J nb fl4.1 fl4.2.1 nf ((up.trans up3).trans up4) os ag na he4 hz4 hd4
      have gone : ∀ {τ6 : L2.St} {G6 : Hp} {s6 : Shared} {Q : Shared → Prop}, Inv (X.suite a (X.pn ++ pins)) [] τ6 G6 s6 → (∀ s7, Inv X pins (τ6.set i none) G6 s7 → Q s7) →
          wpAny (model X.prog X.w) X.A (do bindName X.env n .none; unbindBehindTheSuite X.env n pos') (fun _ s7 => Q s7) X.xe s6 := fun S6 hq => gone_ok (inv_out ok S6) hN hi hl hq
      refine store_ok (X := X.suite a (X.pn ++ pins)) (v := .ref a) (inv_in J4 a) hN hi (.inl hl) rfl (fun s5 S5 => ?_) (.inr hl)
      refine wpAny_mono ((hq a (X.pn ++ pins)).run [] s5 _ _ _ S5 (yes rfl a na)) (fun f s6 r6 => ?_) fun _ _ z => z.elim
      cases f with
      | next => obtain ⟨τ6, G6, S6, q6⟩ := r6; exact gone S6 fun s7 J7 => ⟨_, _, J7, q6⟩
      | brk => obtain ⟨τ6, G6, S6, q6⟩ := r6; exact gone S6 fun s7 J7 => ⟨_, _, J7, q6⟩
      | cont => obtain ⟨τ6, G6, S6, q6⟩ := r6; exact gone S6 fun s7 J7 => ⟨_, _, J7, q6⟩
      | ret u => obtain ⟨v6, τ6, G6, S6, rv, q6⟩ := r6; exact gone S6 fun s7 J7 => ⟨_, _, _, J7, rv, q6⟩
    | false =>
      refine wpAny_handleBy_nil ?_
      have fl0 := fl
      obtain ⟨_, _, _, oe, vs, T, oT, tv, q1, q2, q3, q4, q5⟩ := fl0
      have on : wpAny (model X.prog X.w) X.A (setFlight (.ref a) X.env.frame) (fun _ s4 => wpAny (model X.prog X.w) X.A (throw (.ref a) : Sem Flow) (SP X pins D) X.xe s4) X.xe { s' with heap := h3 } := by
        rw [hf]
        exact HandSPX.setFlight_upZ fl fun h4 hh up4 => wpAny_throw (tk _ _ ⟨a, B, sI, pins, τ, G, cls, d, rfl, J, nb, (up.trans up3).trans up4, .inr (.inr (hs.symm ▸ hh)), na, os, ag, no rfl⟩)
      unfold PySem.passOn
      refine wpAny_bind (wpAny_field q1 q3 q4 ?_)
      rw [if_neg (by simp)]
      first
        | exact wpAny_bind on
        | exact wpAny_bind (wpAny_pure (wpAny_bind on))
  have run_ := (hb (wHold X.K c i ts Wo D) (X.pn ++ pins) xe1 catch_ PassesOwn.looking).run [] s σ H D (I.toTry _) h
  refine wpAny_Try_except (wpAny_mono run_ (fun f s1 r => ?_) fun _ _ z => z)
  cases f with
  | next => obtain ⟨τ, G, J, q⟩ := r; exact wpAny_execs_nil ⟨τ, G, J.ofTry ok, q⟩
  | brk => obtain ⟨τ, G, J, q⟩ := r; exact ⟨τ, G, J.ofTry ok, q⟩
  | cont => obtain ⟨τ, G, J, q⟩ := r; exact ⟨τ, G, J.ofTry ok, q⟩
  | ret u => obtain ⟨v, τ, G, J, rv, q⟩ := r; exact ⟨v, τ, G, J.ofTry ok, rv, q⟩
end
end Mi

/-! Exceptions that are held: isinstance, fields. -/
namespace Mi
open PySem L2 PySem.Spec PyProof.Rows
/-- what the written part says of an own class of exceptions -/
structure XCls (K : PySem.W.Frag) (C : Addr) : Prop where
  ox : OexC K C
  xf : XfC K C
  ca : PySem.W.findIn K (.ref C) "__class__" = some (some (.builtin "object.__class__"))
  cn : PySem.W.specialIn K (.builtin "object.__class__") "__get__" = some (some (.builtin "getset_descriptor.__get__"))
  ct : PySem.W.takesIn K (.builtin "object.__class__") = some true
  cm : PySem.W.mroIn K C (.type "object") = some true
theorem XCls.cls {K : PySem.W.Frag} {C : Addr} (T : XCls K C) : (PySem.W.clsIn K C).isSome = true := by
  obtain ⟨cd, h, _⟩ := PySem.W.any_some T.xf.hdC
  rw [h]; rfl
/-- its dict is there -/
def XDict (H : Hp) (d : Option Addr) : Prop := d = none ∨ ∃ dx fv, d = some dx ∧ H dx = some (.xd fv)
section
variable {X : Cx} {pins : List (Addr × Obj)} {σ : L2.St} {H : Hp} {s : Shared} {a C : Addr} {d : Option Addr}
theorem xo_inst (I : Inv X pins σ H s) (e : H a = some (XO (.ref C) d a)) (hd : XDict H d) : ∃ ox od, PySem.W.InstAt s.heap a ox C od := by
  obtain ⟨⟨oe, vs, ho, hz, hv⟩, _, _⟩ := I.hok a _ e
  have hn : PySem.W.notCls oe = true := by unfold PySem.W.notCls; rw [hv] <;> rfl
  rcases hd with rfl | ⟨dx, fv, rfl, ed⟩
  · exact ⟨oe, none, ho, hz.1, hn, by rw [hz.2] <;> trivial⟩
  · obtain ⟨mA, hns, _⟩ := (show ObjOk X.prog X.w H s.heap dx (.xd fv) from I.hok dx _ ed)
    obtain ⟨od, h1, _⟩ := lookIn_ns hns
    exact ⟨oe, some od, ho, hz.1, hn, by rw [hz.2] <;> exact h1⟩
theorem xo_kit {K : PySem.W.Frag} {ox : Obj} {od : Option Obj} (T : XCls K C) : PySem.W.KitX K (.ref a) (.ref C) (fun h => PySem.W.InstAt h a ox C od) :=
  PySem.W.kitx_exc T.cls T.xf.ga T.xf.gg T.xf.exC T.ca T.cn T.ct T.cm
end
/-- isinstance(e, c) -/
def rXis (K : PySem.W.Frag) : List V → Hp → VK → Prop := fun xs H Q => ∃ (a C : Addr) (d : Option Addr) (c : V) (u : Value) (b : Bool), xs = [.ref a, c] ∧ H a = some (XO (.ref C) d a) ∧ XDict H d ∧ XCls K C ∧ ClsV c u ∧ PySem.W.kitOne K (.ref C) u = some b ∧ Q (.bl b) H
/-- isinstance(e, (c1, c2, ..)) -/
def rXisT (K : PySem.W.Frag) : List V → Hp → VK → Prop := fun xs H Q => ∃ (a C : Addr) (d : Option Addr) (tp : Addr) (cs : List V) (us : List Value) (b : Bool), xs = [.ref a, .ref tp] ∧ H tp = some (.tup cs) ∧ H a = some (XO (.ref C) d a) ∧ XDict H d ∧ XCls K C ∧ Paired ClsV cs us ∧ PySem.W.kitAny K (.ref C) us = some b ∧ Q (.bl b) H
section
variable {X : Cx}
theorem call_xis : CallR X (.builtin "isinstance") (rXis X.K) := by
  intro pins s σ H xs us Q I r h
  obtain ⟨a, C, d, c, u, b, rfl, ea, hd, T, k, e, q⟩ := h
  cases r with
  | cons r1 r2 =>
    cases r2 with
    | cons r2 r3 =>
      cases r3
      cases r1
      cases k.eq r2
      obtain ⟨ox, od, J⟩ := xo_inst I ea hd
      exact PySem.W.kia_one (xo_kit T) I.kIn J e (fun z => nomatch z) fun tk => ⟨.bl b, H, I.tok tk, rfl, q⟩
theorem call_xisT : CallR X (.builtin "isinstance") (rXisT X.K) := by
  intro pins s σ H xs us Q I r h
  obtain ⟨a, C, d, tp, cs, ws, b, rfl, hT, ea, hd, T, k, e, q⟩ := h
  cases r with
  | cons r1 r2 =>
    cases r2 with
    | cons r2 r3 =>
      cases r3
      cases r1
      cases r2
      obtain ⟨ox, od, J⟩ := xo_inst I ea hd
      obtain ⟨_, its, rv, o, h1, h2, n, h3⟩ := (show ObjOk X.prog X.w H s.heap tp (.tup cs) from I.hok tp _ hT)
      cases ClsV.all k rv
      obtain ⟨oc, od', dt, sl⟩ := o
      simp only at h2 h3
      subst h2 h3
      exact PySem.W.kia_tup (xo_kit T) I.kIn J h1 e (fun z => nomatch z) fun tk => ⟨.bl b, H, I.tok tk, rfl, q⟩
/-- e.f -/
def tXat (K : PySem.W.Frag) (f : Str) (te : TE) : TE := fun σ H Q => te σ H fun x H1 => ∃ (a C dx : Addr) (fv : List (Str × V)) (v : V), x = .ref a ∧ H1 a = some (XO (.ref C) (some dx) a) ∧ H1 dx = some (.xd fv) ∧ XCls K C ∧ PySem.W.findIn K (.ref C) f = some none ∧ fv.lookup f = some v ∧ Q v H1
theorem pe_xat {e : PySem.Expr} {te : TE} {pos : Pos} {f : Str} (he : PE X e te) (hb : attributeBase e f X.env (eval e X.env) = eval e X.env) : PE X (.Attribute e f pos) (tXat X.K f te) := by
  constructor
  intro pins s σ H Q I h
  refine attr_of hb (thn (he.run pins s σ H _ I h) fun u s1 hh => ?_)
  obtain ⟨x, H1, I1, rx, a, C, dx, fv, v, rfl, ea, ed, T, hno, hl, q⟩ := hh
  cases rx
  obtain ⟨⟨oe, vs, ho, hz, hv⟩, _, _⟩ := I1.hok a _ ea
  have hn : PySem.W.notCls oe = true := by unfold PySem.W.notCls; rw [hv] <;> rfl
  obtain ⟨mA, hns, hr⟩ := (show ObjOk X.prog X.w H1 s1.heap dx (.xd fv) from I1.hok dx _ ed)
  obtain ⟨od, h1, h2⟩ := lookIn_ns hns
  obtain ⟨u, hu, ru⟩ := RelO.some_of (v := v) (o := mA f) (by rw [← hl]; exact hr f)
  have J : PySem.W.InstAt s1.heap a oe C (some od) := ⟨ho, hz.1, hn, by rw [hz.2] <;> exact h1⟩
  have fo := PySem.W.findObj_own (od := od) (v := u) T.xf.hdC hno rfl (by rw [h2, hu])
  exact HandSPX.exc_get I1.kIn J T.xf.ga T.xf.gg T.xf.exC fo (handed_of ru) ⟨v, H1, I1.tok _, ru, q⟩
end
end Mi

/-! Own classes of exceptions: B.__init__(self, ..) of a class above, the def __init__, the making, with and without fields. -/
namespace Mi
open PySem L2 PySem.Spec PyProof.Rows
/-- the class above, as it is asked for its __init__ -/
structure XBase (K : PySem.W.Frag) (B : Addr) : Prop where
  sg : PySem.W.specialIn K (.ref B) "__getattribute__" = some (some (.builtin "type.__getattribute__"))
  rd : PySem.W.readsIn K B (.type "type") = true
  fc : PySem.W.findCls K (.ref B) (.type "type") "__init__" = some (.val (.builtin "ValueError.__init__"))
section
variable {X : Cx} {B : Addr} {x : Str} {e : PySem.Expr} {es : List PySem.Expr} {ta : TA} {p1 p2 pos : Pos}
theorem pe_base {pl : Sem Bool} (T : XBase X.K B) (hg : Gl X x) (hm : X.mg x = some (.ref B)) (hdb : (x == ("__debug__" : Str)) = false) (ha : PA X (e :: es) ta)
    (hc : eval (.Call (.Attribute (.Name x p1) "__init__" p2) (e :: es) [] pos) X.env = (do
      let ov ← eval (.Name x p1) X.env
      standAt p2.atName
      let (f, first) ← holding [ov] (getMethod ov "__init__" pl)
      callWith pos f first (backTo pos (starEach (e :: es) X.env)) (backToKw pos (keywordEach [] X.env))))
    (he : starEach (e :: es) X.env = (false, eval e X.env) :: starEach es X.env) (hpl : (backTo pos (starEach es X.env)).any (·.1) = false) :
    PE X (.Call (.Attribute (.Name x p1) "__init__" p2) (e :: es) [] pos) (tVeI X.K ta) := by
  constructor
  intro pins s σ H Q I h
  refine PySem.W.methodCall_KW (ld_glob I hg hm (PySem.W.method_cls I.kIn T.sg (PySem.W.cls_value I.kIn T.rd T.fc (by decide +kernel) ?_)) hdb) hc
  show wpAny _ _ (callWith pos (Value.builtin "ValueError.__init__") [] (backTo pos (starEach (e :: es) X.env)) []) _ _ _
  refine PyProof.Rows.callWith_method1 (thn (ha.run pos pins _ σ H _ (I.tok _) h) fun us s1 hh => ?_) he hpl
  obtain ⟨vs, H1, I1, r1, a, C, ws, rfl, hl, O, ea, q⟩ := hh
  cases r1 with
  | cons ra rr =>
    cases ra
    exact oinit_ok O I1 ea (by rw [← Paired.length rr, sizeLine_eq]; omega) fun s' J => ⟨.non, H1, J, rfl, q⟩
end
/-- behind the def __init__: the exception at a has the dict d with these fields, or it has none -/
def IniEnd (H1 H2 : Hp) (a C : Addr) (fs : List (Str × V)) : Prop := (fs = [] ∧ H2 = upd H1 a (exo a C none)) ∨
  fs ≠ [] ∧ ∃ d, H2 a = some (exo a C (some d)) ∧ H2 d = some (exd d fs) ∧ H1 d = none ∧ d ≠ a ∧ ∀ b, b ≠ a → b ≠ d → H2 b = H1 b
/-- what __init__ promises: mk makes the fields of the arguments -/
def spIni (C : Addr) (np : Nat) (mk : List V → List (Str × V)) : Sp := fun vs H Q _ => ∃ (a : Addr) (ws : List V) (H1 : Hp), vs = .ref a :: ws ∧ ws.length = np ∧ H = upd H1 a (exo a C none) ∧ H1 a = none ∧ ∀ H2, IniEnd H1 H2 a C (mk ws) → Q .non H2
section
variable {X : Cx} {pins : List (Addr × Obj)} {σ : L2.St} {H1 H2 : Hp} {Q : XK} {hp hq h2 : Heap} {g1 g2 : Array GenState} {d1 d2 : Drawn} {t1 t2 : Nat} {o1 o2 : OsState} {a C : Addr}
/-- an exception without a dict is let go -/
theorem made_none (T : Raises X (.ref C)) (I : Inv X pins σ H1 ⟨hp, g1, d1, t1, o1⟩) (na : hp.objs.size ≤ a) (k : ∀ b o, hp.get? b = some o → hq.get? b = some o) (un : Un (frs X.stack) [] (upd H1 a (exo a C none)) (upd H1 a (exo a C none)) hq h2)
    (ok : HOk X.prog X.w (upd H1 a (exo a C none)) h2) (eo : o2 = o1) (bare : AllBare g2) (q : Q (.ref C) none H1) : MkP X pins σ Q (.ref a) ⟨h2, g2, d2, t2, o2⟩ := by
  obtain ⟨t0, ho⟩ := exo_at ok upd_same
  have hn : H1 a = none := I.hok.fresh na
  obtain ⟨M, m1, m2⟩ := restrict h2 fun b => !decide (b = a)
  have mk : ∀ b, b ≠ a → M.get? b = h2.get? b := fun b hb => m1 b (by simp [hb])
  have ma : M.get? a = none := m2 a (by simp)
  have other : ∀ {b : Addr} {o : Obj}, hp.get? b = some o → b ≠ a := fun e z => absurd (Nat.lt_of_lt_of_le (Heap.lt_size e) na) (by rw [z]; exact Nat.lt_irrefl _)
  have U : Un (frs X.stack) [] H1 H1 hp M := {
    keep := fun b o z n f x => by
      have nb := other z
      rw [mk b nb]
      exact un.keep b o (k b o z) (by rw [upd_ne nb]; exact n) f x
    slot := fun b o z n f x => by
      have nb := other z
      rw [mk b nb]
      exact un.slot b o (k b o z) (by rw [upd_ne nb]; exact n) f x
    free := fun b o z n x => n
    there := fun b o z x => by
      rw [mk b (other z)]
      exact un.there b o (k b o z) x
    tups := fun b xs z => z
    frzs := fun b o v z => z
    tbls := fun b ps z => ⟨#[], by rw [z]; simp⟩ }
  have okM : HOk X.prog X.w H1 M := fun b u z => by
    have nb : b ≠ a := fun e => by
      subst e
      rw [hn] at z
      cases z
    refine (ok b u (by rw [upd_ne nb]; exact z)).stay (fun c v hc y => ?_) (fun c hc => ?_) fun c xs hc => ?_
    · have nc : c ≠ a := by
        rcases hc with hc | hc
        · rw [hc]; exact nb
        · intro e
          rw [e, upd_same] at hc
          exact exo_own (Option.some.inj hc)
      exact (mk c nc).trans y
    · by_cases e : c = a
      · rw [e, upd_same] at hc
        exact absurd (Option.some.inj hc) exo_own
      · rwa [upd_ne e] at hc
    · by_cases e : c = a
      · rw [e, upd_same] at hc
        exact absurd (Option.some.inj hc) exo_tup
      · rwa [upd_ne e] at hc
  have J : Inv X pins σ H1 ⟨M, g2, d2, t2, o2⟩ := I.call' (ch := []) eo U okM bare fun b z => nomatch z
  refine ⟨a, _, _, ⟨M, g2, d2, t2, o2⟩, _, .ref C, none, rfl, J, fun b o z => ?_, ma, ho, ⟨rfl, rfl⟩, rfl, rfl, hn, rfl, bare, T, q⟩
  have nb : b ≠ a := fun e => by
    subst e
    have z : M.get? b = some o := z
    rw [ma] at z
    cases z
  exact (mk b nb).symm.trans z
theorem ini_heap {d : Addr} {fs : List (Str × V)} (ea : H2 a = some (exo a C (some d))) (ed : H2 d = some (exd d fs)) (hn : H1 a = none) (hd : H1 d = none) (ne : d ≠ a) (same : ∀ b, b ≠ a → b ≠ d → H2 b = H1 b) : upd (del H2 a) d (.xd fs) = upd H1 d (.xd fs) := by
  funext b
  by_cases h : b = d
  · rw [h, upd_same, upd_same]
  · rw [upd_ne h, upd_ne h]
    by_cases h' : b = a
    · rw [h', del_same, hn]
    · rw [del_ne h', same b h' h]
end
/-- C(e, ..) -/
def tMkX (C : Addr) (np : Nat) (mk : List V → List (Str × V)) (ta : TA) : L2.St → Hp → XK → Prop := fun σ H Q => ta σ H fun vs H1 => vs.length = np ∧ (mk vs = [] → Q (.ref C) none H1) ∧ ∀ d, mk vs ≠ [] → H1 d = none → Q (.ref C) (some d) (upd H1 d (.xd (mk vs)))
section
variable {X : Cx} {x : Str} {C fI : Addr} {k : Nat} {fd : FuncData} {ps : List Str} {np : Nat} {mk : List V → List (Str × V)} {e : PySem.Expr} {es : List PySem.Expr} {ta : TA} {p pos : Pos}
/-- the call itself -/
theorem made_ok {pins : List (Addr × Obj)} {σ : L2.St} {H1 : Hp} {s1 : Shared} {us : List Value} {vs : List V} {Q : XK} (T : OexC X.K C) (iC : PySem.W.findIn X.K (.ref C) "__init__" = some (some (.ref fI))) (tI : PySem.W.typeIn X.K (.ref fI) = some (.type "function"))
    (G : FnOk X.prog X.w X.K X.mg X.base CX0 k fI fd ps (spIni C np mk)) (hr : Room (k + 1) X.A) (hb : Binds X.K fd ps []) (I : Inv X pins σ H1 s1) (r : Vals vs us) (hl : vs.length = np) (hz : np ≤ 1000) (q0 : mk vs = [] → Q (.ref C) none H1) (q1 : ∀ d, mk vs ≠ [] → H1 d = none → Q (.ref C) (some d) (upd H1 d (.xd (mk vs)))) :
    wpAny (model X.prog X.w) X.A (call (.ref C) us) (MkP X pins σ Q) X.xe s1 := by
  obtain ⟨nm, qn, N, bs, bm, sn, sub, ab, col, dd, k0, k1, k2, k3, k5, hC, hbm⟩ := T.cls
  obtain ⟨hp, g, dr, tk, os⟩ := s1
  have sz : hp.objs.size ≤ hp.objs.size + 1 := Nat.le_succ _
  have hn : H1 (hp.objs.size + 1) = none := I.hok.fresh sz
  have kk : ∀ b o, hp.get? b = some o → ((hp.push (PySem.W.kdv_tup us)).push (PySem.HandSPX.excO C hp.objs.size)).get? b = some o := fun b o e => Heap.get?_push_of_some _ (Heap.get?_push_of_some _ e)
  have he : ((hp.push (PySem.W.kdv_tup us)).push (PySem.HandSPX.excO C hp.objs.size)).get? (hp.objs.size + 1) = some (PySem.HandSPX.excO C hp.objs.size) := by heap_get
  have J : Inv X pins σ (upd H1 (hp.objs.size + 1) (exo (hp.objs.size + 1) C none)) ⟨(hp.push (PySem.W.kdv_tup us)).push (PySem.HandSPX.excO C hp.objs.size), g, dr, tk, os⟩ :=
    I.laid (t' := tk) (a := hp.objs.size + 1) (h' := (hp.push (PySem.W.kdv_tup us)).push (PySem.HandSPX.excO C hp.objs.size)) kk sz (exo_ok he)
  have r2 : Vals (V.ref (hp.objs.size + 1) :: vs) (Value.ref (hp.objs.size + 1) :: us) := .cons rfl r
  have sp : spIni C np mk (.ref (hp.objs.size + 1) :: vs) (upd H1 (hp.objs.size + 1) (exo (hp.objs.size + 1) C none)) (fun v H2 => v = .non ∧ IniEnd H1 H2 (hp.objs.size + 1) C (mk vs)) (fun _ _ _ => False) :=
    ⟨_, vs, H1, rfl, hl, rfl, hn, fun H2 z => ⟨rfl, z⟩⟩
  have lus : (Value.ref (hp.objs.size + 1) :: us).length = ps.length := r2.length.symm.trans (G.len _ _ _ _ sp)
  have bnd := hb ⟨(hp.push (PySem.W.kdv_tup us)).push (PySem.HandSPX.excO C hp.objs.size), g, dr, tk, os⟩ (Value.ref (hp.objs.size + 1) :: us) J.kIn (by rw [List.append_nil]; exact lus)
  rw [List.append_nil] at bnd
  refine wpAny_call (PySem.HandSPX.call_own PySem.F.excBase_ValueError (fun Y => PySem.HandSPX.refsVE_contains Y bm hbm) (I.kIn _ _ hC) (PySem.W.looks_findIn I.kIn iC) (fun self => PySem.W.bind_fn I.kIn self tI) (by rw [← Paired.length r, sizeLine_eq]; omega)
    (codeAny_mono (G.run _ X.stack _ _ ⟨Value.ref (hp.objs.size + 1) :: us, []⟩ _ _ _ _ (hr.make C us []) (J.env0.make C us []) bnd r2 sp) fun rs s' hq => ?_))
  cases rs with
  | error er => exact hq.elim
  | ok fl =>
    cases fl with
    | ret u =>
      obtain ⟨v, H2, eo, bare, un, ok, rv, rfl, ie⟩ := hq
      obtain ⟨h2, g2, d2, t2, o2⟩ := s'
      refine ⟨rv, ?_⟩
      have rs : Raises X (.ref C) := raises_own T.exC T.tyC
      rcases ie with ⟨e0, e1⟩ | ⟨n0, d, ea, ed, hd, ne, same⟩
      · subst e1
        exact made_none rs I sz kk un ok eo bare (q0 e0)
      · refine mk_end (fs := mk vs) rs I sz kk un ok eo bare ea ed hd ?_
        rw [ini_heap ea ed hn hd ne same]
        exact q1 d n0 hd
    | next => exact hq.elim
    | brk => exact hq.elim
    | cont => exact hq.elim
theorem pmk_x (T : OexC X.K C) (iC : PySem.W.findIn X.K (.ref C) "__init__" = some (some (.ref fI))) (tI : PySem.W.typeIn X.K (.ref fI) = some (.type "function")) (G : FnOk X.prog X.w X.K X.mg X.base CX0 k fI fd ps (spIni C np mk)) (hr : Room (k + 1) X.A) (hb : Binds X.K fd ps []) (hz : np ≤ 1000)
    (hg : Gl X x) (hm : X.mg x = some (.ref C)) (hdb : (x == ("__debug__" : Str)) = false) (ha : PA X (e :: es) ta) (he : starEach (e :: es) X.env = (false, eval e X.env) :: starEach es X.env) (hpl : (backTo pos (starEach es X.env)).any (·.1) = false) : PMk X (.Call (.Name x p) (e :: es) [] pos) (tMkX C np mk ta) := by
  intro pins s σ H Q I h
  refine wpAny_Call_Name_kw (ld_glob I hg hm (PySem.W.callWith_K (h₀ := X.base) I.ok.mod.kin T.kC (thn (ha.run pos pins s σ H _ I h) fun us s1 hh => ?_) he hpl) hdb)
  obtain ⟨vs, H1, I1, r1, hl, q0, q1⟩ := hh
  exact ⟨I1.kIn, made_ok T iC tI G hr hb I1 r1 hl hz q0 q1⟩
theorem pmk_x0 (T : OexC X.K C) (iC : PySem.W.findIn X.K (.ref C) "__init__" = some (some (.ref fI))) (tI : PySem.W.typeIn X.K (.ref fI) = some (.type "function")) (G : FnOk X.prog X.w X.K X.mg X.base CX0 k fI fd ps (spIni C np mk)) (hr : Room (k + 1) X.A) (hb : Binds X.K fd ps []) (hz : np ≤ 1000)
    (hg : Gl X x) (hm : X.mg x = some (.ref C)) (hdb : (x == ("__debug__" : Str)) = false) : PMk X (.Call (.Name x p) [] [] pos) (tMkX C np mk tNil) := by
  intro pins s σ H Q I h
  obtain ⟨hl, q0, q1⟩ := h
  exact wpAny_Call_Name_kw (ld_glob I hg hm (PySem.W.callWith_K0 I.kIn T.kC (made_ok (us := []) (vs := []) T iC tI G hr hb I .nil hl hz q0 q1)) hdb)
end
/-! ### the def -/
/-- the stores self.f = y, one behind the other -/
def tOsts (K : PySem.W.Frag) : List (Str × Nat) → TS
  | [] => tNext
  | (f, i) :: r => tSeq (tOst K f (tVar 0) (tVar i)) (tOsts K r)
def iniFs (ws : List V) : List (Str × Nat) → List (Str × V) → List (Str × V)
  | [], acc => acc
  | (f, i) :: r, acc => iniFs ws r ((f, (ws[i - 1]?).getD .non) :: acc)
end Mi

namespace Mi
open PySem L2 PySem.Spec PyProof.Rows

abbrev Bt := Nat → Option Addr
/-- where the names of the text stand -/
structure Nm where
  P : Program
  w : World
  K : PySem.W.Frag
  cl : Nat → Addr
  fnm : Nat → Str
  ec : Nat → Option EC := fun _ => none
  ex : XK := fun _ _ _ => False
  ok : List (Option V) → Prop := fun _ => True

structure HW (X : Cx) (N : Nm) : Prop where
  p : X.prog = N.P
  w : X.w = N.w
/-- a list that nobody writes -/
def ROL (K : PySem.W.Frag) (H : Hp) (a : Addr) (xs : List V) : Prop := (∃ o, H a = some (.frz o (.lst xs))) ∨
    ∃ (o : Obj) (its : Array Value) (n : Nat), K.lookup a = some o ∧ o.cls = .type "list" ∧ o.dict = none ∧ o.data = .seq its n ∧ its.size ≤ sizeLine ∧ Vals xs its.toList
theorem ROL.sq {K : PySem.W.Frag} {H : Hp} {a : Addr} {xs : List V} (h : ROL K H a xs) : SqL K H a xs := by
  rcases h with ⟨o, h⟩ | h
  · exact .inl (.inr ⟨o, h⟩)
  · exact .inr h

mutual
inductive VR (K : PySem.W.Frag) (β : Bt) (H : Hp) : D → V → Prop
  | non : VR K β H .non .non
  | bl (b : Bool) : VR K β H (.bl b) (.bl b)
  | int (i : Int) : VR K β H (.int i) (.int i)
  | str (x : Str) : VR K β H (.str x) (.str x)
  | tup {a : Addr} {vs : List V} {xs : List D} : SqT K H a vs → VRs K β H xs vs → VR K β H (.tup xs) (.ref a)
  | rol {a : Addr} {vs : List V} {xs : List D} : ROL K H a vs → VRs K β H xs vs → VR K β H (.rol xs) (.ref a)
  | ref {n : Nat} {a : Addr} : β n = some a → VR K β H (.ref n) (.ref a)
inductive VRs (K : PySem.W.Frag) (β : Bt) (H : Hp) : List D → List V → Prop
  | nil : VRs K β H [] []
  | cons {d : D} {v : V} {ds : List D} {vs : List V} : VR K β H d v → VRs K β H ds vs → VRs K β H (d :: ds) (v :: vs)
end

/-- its fields -/
def XF (N : Nm) (β : Bt) (H : Hp) (d : Option Addr) (fs : List (Nat × D)) : Prop := match d with
  | none => fs = []
  | some dx => ∃ fv, H dx = some (.xd fv) ∧ Paired (fun (p : Nat × D) (q : Str × V) => N.fnm p.1 = q.1 ∧ VR N.K β H p.2 q.2) fs fv
/-- what stands at a -/
def OR (N : Nm) (β : Bt) (H : Hp) (a : Addr) : MO → Prop
  | .lst xs => ∃ vs, H a = some (.lst vs) ∧ VRs N.K β H xs vs
  | .dK kvs => ∃ ks, H a = some (.dK ks) ∧ Paired (fun (p : Key × D) (q : Key × V) => p.1 = q.1 ∧ VR N.K β H p.2 q.2) kvs ks
  | .dT kvs => ∃ xs, H a = some (.ext (rawT N.P N.w a xs)) ∧ Paired (fun (p : List Key × D) (q : List Key × Addr × V) => p.1 = q.1 ∧ VR N.K β H (.tup (p.1.map keyD)) (.ref q.2.1) ∧ VR N.K β H p.2 q.2.2) kvs xs
  | .ins c fs => ∃ dx fv, H a = some (.ins (N.cl c) dx fv) ∧ Paired (fun (p : Nat × D) (q : Str × V) => N.fnm p.1 = q.1 ∧ VR N.K β H p.2 q.2) fs fv
  | .exn c sup fs => ∃ d k, H a = some (XO (.ref (N.cl c)) d a) ∧ N.ec c = some k ∧ k.sup = sup ∧ fs.map (·.1) = k.fs.map (·.1) ∧ XF N β H d fs

structure Sim (N : Nm) (β : Bt) (S : Sto) (H : Hp) : Prop where
  obj : ∀ n o, S[n]? = some o → ∃ a, β n = some a ∧ OR N β H a o
  up : ∀ n a, β n = some a → n < S.length
  inj : ∀ m n a, β m = some a → β n = some a → m = n

structure Nxt (β : Bt) (H : Hp) (β' : Bt) (H' : Hp) : Prop where
  ext : ∀ n a, β n = some a → β' n = some a
  fresh : ∀ n a, β' n = some a → β n = some a ∨ H a = none
  kept : ∀ a o, H a = some o → (∀ n, β n ≠ some a) → H' a = some o
  there : ∀ a o, H a = some o → ∃ o', H' a = some o'

theorem Nxt.refl (β : Bt) (H : Hp) : Nxt β H β H := ⟨fun _ _ h => h, fun _ _ h => .inl h, fun _ _ h _ => h, fun _ o h => ⟨o, h⟩⟩
theorem Nxt.trans {β β1 β2 : Bt} {H H1 H2 : Hp} (a : Nxt β H β1 H1) (b : Nxt β1 H1 β2 H2) : Nxt β H β2 H2 where
  ext := fun n x h => b.ext n x (a.ext n x h)
  fresh := fun n x h => by
    rcases b.fresh n x h with h | h
    · exact a.fresh n x h
    · refine .inr ?_
      cases e : H x with
      | none => rfl
      | some o =>
        obtain ⟨o', q⟩ := a.there x o e
        rw [h] at q; cases q
  kept := fun x o h hn => b.kept x o (a.kept x o h hn) fun n hb => by
    rcases a.fresh n x hb with z | z
    · exact hn n z
    · rw [h] at z; cases z
  there := fun x o h => by
    obtain ⟨o', q⟩ := a.there x o h
    exact b.there x o' q

/-- what values lean on -/
structure Sub (K : PySem.W.Frag) (β : Bt) (H : Hp) (β' : Bt) (H' : Hp) : Prop where
  ext : ∀ n a, β n = some a → β' n = some a
  tup : ∀ a xs, SqT K H a xs → SqT K H' a xs
  rol : ∀ a xs, ROL K H a xs → ROL K H' a xs
mutual
theorem VR.mono {K : PySem.W.Frag} {β β' : Bt} {H H' : Hp} (s : Sub K β H β' H') : ∀ (d : D) (v : V), VR K β H d v → VR K β' H' d v
  | .non, _, h => by cases h; exact .non
  | .bl _, _, h => by cases h; exact .bl _
  | .int _, _, h => by cases h; exact .int _
  | .str _, _, h => by cases h; exact .str _
  | .tup xs, _, h => by
    cases h with
    | tup a b => exact .tup (s.tup _ _ a) (VRs.mono s xs _ b)
  | .rol xs, _, h => by
    cases h with
    | rol a b => exact .rol (s.rol _ _ a) (VRs.mono s xs _ b)
  | .ref _, _, h => by
    cases h with
    | ref a => exact .ref (s.ext _ _ a)
theorem VRs.mono {K : PySem.W.Frag} {β β' : Bt} {H H' : Hp} (s : Sub K β H β' H') : ∀ (ds : List D) (vs : List V), VRs K β H ds vs → VRs K β' H' ds vs
  | [], _, h => by cases h; exact .nil
  | d :: ds, _, h => by
    cases h with
    | cons a b => exact .cons (VR.mono s d _ a) (VRs.mono s ds _ b)
end

section
variable {N : Nm} {β β' : Bt} {S S' : Sto} {H H' : Hp}
/-- a tracked thing of ours -/
def Mut' (o : HO) : Prop := match o with
  | .lst _ => True
  | .dK _ => True
  | .dT _ => True
  | .ins _ _ _ => True
  | .ext _ => True
  | _ => False
theorem OR.mut {a : Addr} {o : MO} (h : OR N β H a o) : ∃ u, H a = some u ∧ Mut' u := by
  cases o with
  | lst xs => obtain ⟨vs, e, _⟩ := h; exact ⟨_, e, trivial⟩
  | dK xs => obtain ⟨vs, e, _⟩ := h; exact ⟨_, e, trivial⟩
  | dT xs => obtain ⟨vs, e, _⟩ := h; exact ⟨_, e, trivial⟩
  | ins c fs => obtain ⟨dx, vs, e, _⟩ := h; exact ⟨_, e, trivial⟩
  | exn c sup fs => obtain ⟨d, k, e, _⟩ := h; exact ⟨_, e, trivial⟩
theorem Sim.mut (s : Sim N β S H) {n : Nat} {a : Addr} (h : β n = some a) : ∃ u, H a = some u ∧ Mut' u := by
  have hl := s.up n a h
  obtain ⟨a', e, q⟩ := s.obj n S[n] (List.getElem?_eq_getElem hl)
  rw [h] at e; cases e
  exact q.mut
theorem Sim.nimg (s : Sim N β S H) {a : Addr} {u : HO} (h : H a = some u) (hm : ¬ Mut' u) (n : Nat) : β n ≠ some a := fun e => by
  obtain ⟨u', e', m⟩ := s.mut e
  rw [h] at e'; cases e'
  exact hm m
theorem Nxt.sub (x : Nxt β H β' H') (s : Sim N β S H) : Sub N.K β H β' H' where
  ext := x.ext
  tup := fun a xs h => by
    rcases h with (h | ⟨o, h⟩) | h
    · exact .inl (.inl (x.kept _ _ h (s.nimg h id)))
    · exact .inl (.inr ⟨o, x.kept _ _ h (s.nimg h id)⟩)
    · exact .inr h
  rol := fun a xs h => by
    rcases h with ⟨o, h⟩ | h
    · exact .inl ⟨o, x.kept _ _ h (s.nimg h id)⟩
    · exact .inr h
theorem VR.nxt {d : D} {v : V} (h : VR N.K β H d v) (s : Sim N β S H) (x : Nxt β H β' H') : VR N.K β' H' d v := VR.mono (x.sub s) d v h
theorem VRs.nxt {d : List D} {v : List V} (h : VRs N.K β H d v) (s : Sim N β S H) (x : Nxt β H β' H') : VRs N.K β' H' d v := VRs.mono (x.sub s) d v h
theorem Paired.imp {α γ : Type} {P Q : α → γ → Prop} (f : ∀ a b, P a b → Q a b) {l : List α} {m : List γ} (h : Paired P l m) : Paired Q l m := by
  induction h with
  | nil => exact .nil
  | cons a _ ih => exact .cons (f _ _ a) ih
theorem XF.by {d : Option Addr} {fs : List (Nat × D)} (h : XF N β H d fs) (u : Sub N.K β H β' H') (k : ∀ dx fv, H dx = some (.xd fv) → H' dx = some (.xd fv)) : XF N β' H' d fs := by
  cases d with
  | none => exact h
  | some dx =>
    obtain ⟨fv, e, r⟩ := h
    exact ⟨fv, k _ _ e, Paired.imp (fun _ _ q => ⟨q.1, VR.mono u _ _ q.2⟩) r⟩
theorem XF.nxt {d : Option Addr} {fs : List (Nat × D)} (h : XF N β H d fs) (s : Sim N β S H) (x : Nxt β H β' H') : XF N β' H' d fs :=
  h.by (x.sub s) fun _ _ e => x.kept _ _ e (s.nimg e id)
/-- an object that is not touched -/
theorem OR.nxt {a : Addr} {o : MO} (h : OR N β H a o) (s : Sim N β S H) (x : Nxt β H β' H') (ha : ∀ u, H a = some u → H' a = some u) : OR N β' H' a o := by
  cases o with
  | lst xs =>
    obtain ⟨vs, e, r⟩ := h
    exact ⟨vs, ha _ e, r.nxt s x⟩
  | dK kvs =>
    obtain ⟨ks, e, r⟩ := h
    exact ⟨ks, ha _ e, Paired.imp (fun _ _ q => ⟨q.1, q.2.nxt s x⟩) r⟩
  | dT kvs =>
    obtain ⟨ks, e, r⟩ := h
    exact ⟨ks, ha _ e, Paired.imp (fun _ _ q => ⟨q.1, q.2.1.nxt s x, q.2.2.nxt s x⟩) r⟩
  | ins c fs =>
    obtain ⟨dx, fv, e, r⟩ := h
    exact ⟨dx, fv, ha _ e, Paired.imp (fun _ _ q => ⟨q.1, q.2.nxt s x⟩) r⟩
  | exn c sup fs =>
    obtain ⟨d, k, e, hk, hs, hf, r⟩ := h
    exact ⟨d, k, ha _ e, hk, hs, hf, r.nxt s x⟩

/-- something untracked by us is laid -/
theorem Nxt.lay {p : Addr} {o : HO} (hp : H p = none) : Nxt β H β (upd H p o) where
  ext := fun _ _ h => h
  fresh := fun _ _ h => .inl h
  kept := fun a u h _ => by rw [upd_ne (ne_of_none h hp)]; exact h
  there := fun a u h => ⟨u, by rw [upd_ne (ne_of_none h hp)]; exact h⟩
theorem Sim.keep (s : Sim N β S H) (x : Nxt β H β H') (k : ∀ n a, β n = some a → ∀ u, H a = some u → H' a = some u) : Sim N β S H' where
  obj := fun n o h => by
    obtain ⟨a, e, q⟩ := s.obj n o h
    exact ⟨a, e, q.nxt s x (k n a e)⟩
  up := s.up
  inj := s.inj
theorem Sim.lay {p : Addr} {o : HO} (s : Sim N β S H) (hp : H p = none) : Sim N β S (upd H p o) :=
  s.keep (.lay hp) fun n a _ u h => by rw [upd_ne (ne_of_none h hp)]; exact h

def ins (β : Bt) (k : Nat) (p : Addr) : Bt := fun n => if n = k then some p else β n
/-- a new object of ours -/
theorem Nxt.new {p : Addr} {o : HO} (s : Sim N β S H) (hp : H p = none) : Nxt β H (ins β S.length p) (upd H p o) where
  ext := fun n a h => by
    have : n ≠ S.length := Nat.ne_of_lt (s.up n a h)
    unfold ins; rw [if_neg this]; exact h
  fresh := fun n a h => by
    unfold ins at h
    split at h
    · cases h; exact .inr hp
    · exact .inl h
  kept := fun a u h _ => by rw [upd_ne (ne_of_none h hp)]; exact h
  there := fun a u h => ⟨u, by rw [upd_ne (ne_of_none h hp)]; exact h⟩
theorem Sim.new {p : Addr} {u : HO} {o : MO} (s : Sim N β S H) (hp : H p = none) (q : OR N (ins β S.length p) (upd H p u) p o) : Sim N (ins β S.length p) (S ++ [o]) (upd H p u) where
  obj := fun n o' h => by
    by_cases hn : n < S.length
    · rw [List.getElem?_append_left hn] at h
      obtain ⟨a, e, r⟩ := s.obj n o' h
      refine ⟨a, (Nxt.new (o := u) s hp).ext n a e, r.nxt s (.new s hp) fun w hw => ?_⟩
      rw [upd_ne (ne_of_none hw hp)]; exact hw
    · have hl := (List.getElem?_eq_some_iff.mp h).1
      rw [List.length_append, List.length_singleton] at hl
      have en : n = S.length := by omega
      subst en
      rw [List.getElem?_append_right (Nat.le_refl _), Nat.sub_self] at h
      cases h
      exact ⟨p, if_pos rfl, q⟩
  up := fun n a h => by
    rw [List.length_append, List.length_singleton]
    unfold ins at h
    split at h
    · omega
    · have := s.up n a h; omega
  inj := fun m n a h1 h2 => by
    have no : ∀ k, β k ≠ some p := fun k e => by
      obtain ⟨u', e', _⟩ := s.mut e
      rw [hp] at e'; cases e'
    unfold ins at h1 h2
    split at h1 <;> split at h2
    · omega
    · cases h1; exact absurd h2 (no n)
    · cases h2; exact absurd h1 (no m)
    · exact s.inj m n a h1 h2
/-- an object of ours is written -/
theorem Nxt.write {n : Nat} {a : Addr} {u : HO} (h : β n = some a) : Nxt β H β (upd H a u) where
  ext := fun _ _ h => h
  fresh := fun _ _ h => .inl h
  kept := fun b w hb hn => by rw [upd_ne (fun e => hn n (by rw [e]; exact h))]; exact hb
  there := fun b w hb => by
    by_cases e : b = a
    · subst e; exact ⟨u, upd_same⟩
    · exact ⟨w, by rw [upd_ne e]; exact hb⟩
theorem Sim.write {n : Nat} {a : Addr} {u : HO} {o : MO} (s : Sim N β S H) (h : β n = some a) (q : OR N β (upd H a u) a o) : Sim N β (S.set n o) (upd H a u) where
  obj := fun m o' hm => by
    by_cases e : m = n
    · subst e
      have hl : m < S.length := s.up m a h
      rw [List.getElem?_set_self hl] at hm
      cases hm
      exact ⟨a, h, q⟩
    · rw [List.getElem?_set_ne (Ne.symm e)] at hm
      obtain ⟨b, eb, r⟩ := s.obj m o' hm
      refine ⟨b, eb, r.nxt s (.write h) fun w hw => ?_⟩
      rw [upd_ne (fun z => e (s.inj m n a (by rw [← z]; exact eb) h))]
      exact hw
  up := fun m b hb => by rw [List.length_set]; exact s.up m b hb
  inj := s.inj
end

/-! ### the names' values -/
structure EnvR (N : Nm) (β : Bt) (H : Hp) (env : Env) (σ : List (Option V)) : Prop where
  len : env.length = σ.length
  val : ∀ (i : Nat) (d : D), env[i]? = some (some d) → ∃ v, σ[i]? = some (some v) ∧ VR N.K β H d v
  ok : N.ok σ
section
variable {N : Nm} {β β' : Bt} {S S' : Sto} {H H' : Hp} {env : Env} {σ : List (Option V)}
theorem EnvR.nxt (r : EnvR N β H env σ) (s : Sim N β S H) (x : Nxt β H β' H') : EnvR N β' H' env σ :=
  ⟨r.len, fun i d h => let ⟨v, e, q⟩ := r.val i d h; ⟨v, e, q.nxt s x⟩, r.ok⟩
theorem EnvR.set (r : EnvR N β H env σ) (ho : ∀ τ, N.ok τ) {i : Nat} {d : D} {v : V} (q : VR N.K β H d v) : EnvR N β H (env.set i (some d)) (σ.set i (some v)) :=
  ⟨by rw [List.length_set, List.length_set]; exact r.len, fun j e h => by
    by_cases hj : j = i
    · subst hj
      have hl : j < env.length := by
        have := (List.getElem?_eq_some_iff.mp h).1
        rwa [List.length_set] at this
      rw [List.getElem?_set_self hl] at h
      cases h
      exact ⟨v, by rw [List.getElem?_set_self (by rw [← r.len]; exact hl)], q⟩
    · rw [List.getElem?_set_ne (Ne.symm hj)] at h
      rw [List.getElem?_set_ne (Ne.symm hj)]
      exact r.val j e h, ho _⟩
theorem EnvR.clear (r : EnvR N β H env σ) (ho : ∀ τ, N.ok τ) {i : Nat} : EnvR N β H (env.set i none) (σ.set i none) :=
  ⟨by rw [List.length_set, List.length_set]; exact r.len, fun j e h => by
    by_cases hj : j = i
    · subst hj
      have hl : j < env.length := by
        have := (List.getElem?_eq_some_iff.mp h).1
        rwa [List.length_set] at this
      rw [List.getElem?_set_self hl] at h
      cases h
    · rw [List.getElem?_set_ne (Ne.symm hj)] at h
      rw [List.getElem?_set_ne (Ne.symm hj)]
      exact r.val j e h, ho _⟩
end

/-! ### what is wanted of an outcome -/
def Want {α τ : Type} (N : Nm) (R : Bt → Hp → α → τ → Prop) (β : Bt) (H : Hp) (o : Out α) (Q : τ → Hp → Prop) : Prop := match o with
  | .ok a S' => ∀ β' H' t, Nxt β H β' H' → Sim N β' S' H' → R β' H' a t → Q t H'
  | .exc c fs S' => ∀ β' H' d, Nxt β H β' H' → Sim N β' S' H' → XF N β' H' d fs → N.ex (.ref (N.cl c)) d H'
  | .no => False
section
variable {α γ τ ρ : Type} {N : Nm} {R : Bt → Hp → α → τ → Prop} {R' : Bt → Hp → γ → ρ → Prop} {β β' : Bt} {H H' : Hp}
theorem Want.nxt {o : Out α} {Q : τ → Hp → Prop} (x : Nxt β H β' H') (w : Want N R β H o Q) : Want N R β' H' o Q := by
  cases o with
  | ok a S => exact fun b h t n => w b h t (x.trans n)
  | exc c fs S => exact fun b h d n => w b h d (x.trans n)
  | no => exact w
theorem Want.bind {o : Out α} {f : α → Sto → Out γ} {Q : ρ → Hp → Prop} {Q1 : τ → Hp → Prop} (w : Want N R' β H (o.bind f) Q)
    (h : ∀ a S1, o = .ok a S1 → ∀ β1 H1 t, Nxt β H β1 H1 → Sim N β1 S1 H1 → R β1 H1 a t → Want N R' β1 H1 (f a S1) Q → Q1 t H1) : Want N R β H o Q1 := by
  cases o with
  | ok a S => exact fun b h' t n s r => h a S rfl b h' t n s r (Want.nxt (R := R') n w)
  | exc c fs S => exact w
  | no => exact w
theorem Want.here {a : α} {S : Sto} {t : τ} {Q : τ → Hp → Prop} (w : Want N R β H (.ok a S) Q) (s : Sim N β S H) (r : R β H a t) : Q t H := w β H t (.refl _ _) s r
theorem Want.at {a : α} {S : Sto} {t : τ} {Q : τ → Hp → Prop} (w : Want N R β H (.ok a S) Q) (x : Nxt β H β' H') (s : Sim N β' S H') (r : R β' H' a t) : Q t H' := w β' H' t x s r
end
abbrev RD (N : Nm) : Bt → Hp → D → V → Prop := fun β H d v => VR N.K β H d v
abbrev RDs (N : Nm) : Bt → Hp → List D → List V → Prop := fun β H d v => VRs N.K β H d v
abbrev RB : Bt → Hp → Bool → Bool → Prop := fun _ _ a b => a = b

/-- the same with another wish about exceptions -/
abbrev Nm.with (N : Nm) (ex : XK) (ok : List (Option V) → Prop) : Nm := { N with ex := ex, ok := ok }
section
variable {N : Nm} {ex : XK} {ok : List (Option V) → Prop} {β : Bt} {S : Sto} {H : Hp}
theorem OR.with {a : Addr} {o : MO} (h : OR N β H a o) : OR (N.with ex ok) β H a o := by cases o <;> exact h
theorem OR.back {a : Addr} {o : MO} (h : OR (N.with ex ok) β H a o) : OR N β H a o := by cases o <;> exact h
theorem Sim.with (s : Sim N β S H) : Sim (N.with ex ok) β S H := ⟨fun n o h => let ⟨a, e, q⟩ := s.obj n o h; ⟨a, e, q.with⟩, s.up, s.inj⟩
theorem Sim.back (s : Sim (N.with ex ok) β S H) : Sim N β S H := ⟨fun n o h => let ⟨a, e, q⟩ := s.obj n o h; ⟨a, e, q.back⟩, s.up, s.inj⟩
theorem EnvR.with {env : Env} {σ : List (Option V)} (r : EnvR N β H env σ) (h : ok σ) : EnvR (N.with ex ok) β H env σ := ⟨r.len, r.val, h⟩
theorem EnvR.back {env : Env} {σ : List (Option V)} (r : EnvR (N.with ex ok) β H env σ) (h : N.ok σ) : EnvR N β H env σ := ⟨r.len, r.val, h⟩
/-- a wish that is wider -/
theorem Want.with {α τ : Type} {R : Bt → Hp → α → τ → Prop} {o : Out α} {Q : τ → Hp → Prop} (w : Want N R β H o Q) (h : ∀ c d H', N.ex c d H' → ex c d H') : Want (N.with ex ok) R β H o Q := by
  cases o with
  | ok a S => exact fun b h' t x s r => w b h' t x s.back r
  | exc c fs S => exact fun b h' d x s r => h _ _ _ (w b h' d x s.back r)
  | no => exact w
theorem Want.back {α τ : Type} {R : Bt → Hp → α → τ → Prop} {o : Out α} {Q : τ → Hp → Prop} (w : Want (N.with ex ok) R β H o Q) (h : ∀ c d H', ex c d H' → N.ex c d H') : Want N R β H o Q := by
  cases o with
  | ok a S => exact fun b h' t x s r => w b h' t x s.with r
  | exc c fs S => exact fun b h' d x s r => h _ _ _ (w b h' d x s.with r)
  | no => exact w
/-- nothing leaves -/
theorem Want.calm {α τ : Type} {R : Bt → Hp → α → τ → Prop} {o : Out α} {Q : τ → Hp → Prop} (w : Want N R β H o.calm Q) : Want (N.with ex ok) R β H o Q := by
  cases o with
  | ok a S => exact fun b h' t x s r => w b h' t x s.back r
  | exc c fs S => exact w.elim
  | no => exact w
end
/-- readings -/
def tE (N : Nm) (Y : Fs) (e : E) : TE := fun σ H Q => ∃ β env S, Sim N β S H ∧ EnvR N β H env σ ∧ Want N (RD N) β H (ev Y e env S) Q
def tEs (N : Nm) (Y : Fs) (es : Es) : TA := fun σ H Q => ∃ β env S, Sim N β S H ∧ EnvR N β H env σ ∧ Want N (RDs N) β H (evs Y es env S) Q
def tT (N : Nm) (Y : Fs) (e : E) : TT := fun σ H Q => ∃ β env S, Sim N β S H ∧ EnvR N β H env σ ∧ Want N RB β H (evT Y e env S) Q
def tIfs (N : Nm) (Y : Fs) (es : Es) : TT := fun σ H Q => ∃ β env S, Sim N β S H ∧ EnvR N β H env σ ∧ Want N RB β H (evIfs Y es env S) Q
/-- a two-place operation by values -/
def r2 (N : Nm) (f : D → D → Sto → Out D) : R2 := fun x y H Q => ∃ β S d e, Sim N β S H ∧ VR N.K β H d x ∧ VR N.K β H e y ∧ Want N (RD N) β H (f d e S) Q
def r1 (N : Nm) (f : D → Sto → Out D) : V → Hp → VK → Prop := fun x H Q => ∃ β S d, Sim N β S H ∧ VR N.K β H d x ∧ Want N (RD N) β H (f d S) Q
def rs (N : Nm) (f : List D → Sto → Out D) : List V → Hp → VK → Prop := fun xs H Q => ∃ β S ds, Sim N β S H ∧ VRs N.K β H ds xs ∧ Want N (RD N) β H (f ds S) Q

/-! ### a weaker reading -/
theorem PE.imp {X : Cx} {e : PySem.Expr} {t t' : TE} (h : PE X e t) (f : ∀ σ H Q, t' σ H Q → t σ H Q) : PE X e t' := ⟨fun p s σ H Q I w => h.run p s σ H Q I (f _ _ _ w)⟩
theorem PT.imp {X : Cx} {e : PySem.Expr} {t t' : TT} (h : PT X e t) (f : ∀ σ H Q, t' σ H Q → t σ H Q) : PT X e t' := ⟨fun p s σ H Q I w => h.run p s σ H Q I (f _ _ _ w)⟩
theorem PW.imp {X : Cx} {e : PySem.Expr} {t t' : TT} (h : PW X e t) (f : ∀ σ H Q, t' σ H Q → t σ H Q) : PW X e t' := ⟨fun wh p s σ H Q I w => h.run wh p s σ H Q I (f _ _ _ w)⟩
theorem PA.imp {X : Cx} {e : List PySem.Expr} {t t' : TA} (h : PA X e t) (f : ∀ σ H Q, t' σ H Q → t σ H Q) : PA X e t' := ⟨fun q p s σ H Q I w => h.run q p s σ H Q I (f _ _ _ w)⟩
theorem PS.imp {X : Cx} {c : Stmt} {t t' : TS} (h : PS X c t) (f : ∀ D σ H, t' D σ H → t D σ H) : PS X c t' := ⟨fun p s σ H D I w => h.run p s σ H D I (f _ _ _ w)⟩
theorem PSs.imp {X : Cx} {c : List Stmt} {t t' : TS} (h : PSs X c t) (f : ∀ D σ H, t' D σ H → t D σ H) : PSs X c t' := ⟨fun p s σ H D I w => h.run p s σ H D I (f _ _ _ w)⟩
theorem PTs.imp {X : Cx} {c : List PySem.Expr} {t t' : TT} (h : PTs X c t) (f : ∀ σ H Q, t' σ H Q → t σ H Q) : PTs X c t' := ⟨fun p s σ H Q I w => h.run p s σ H Q I (f _ _ _ w)⟩
theorem OpR.imp {X : Cx} {f : Value → Value → Sem Value} {r r' : R2} (h : OpR X f r) (k : ∀ x y H Q, r' x y H Q → r x y H Q) : OpR X f r' := fun p s σ H x y v u Q I rx ry w => h p s σ H x y v u Q I rx ry (k _ _ _ _ w)
end Mi

namespace Mi
open PySem L2 PySem.Spec PyProof.Rows

theorem lim_eq : lim = sizeLine := sizeLine_eq.symm

/-! ### lists of values -/
section
variable {K : PySem.W.Frag} {β : Bt} {H : Hp}
theorem VRs.length : ∀ {ds : List D} {vs : List V}, VRs K β H ds vs → ds.length = vs.length
  | [], _, h => by cases h; rfl
  | d :: ds, _, h => by
    cases h with
    | cons a b => simp [VRs.length b]
theorem VRs.append : ∀ {ds es : List D} {vs ws : List V}, VRs K β H ds vs → VRs K β H es ws → VRs K β H (ds ++ es) (vs ++ ws)
  | [], _, _, _, h, k => by cases h; exact k
  | d :: ds, _, _, _, h, k => by
    cases h with
    | cons a b => exact .cons a (VRs.append b k)
theorem VRs.get : ∀ {ds : List D} {vs : List V} {i : Nat} {d : D}, VRs K β H ds vs → ds[i]? = some d → ∃ v, vs[i]? = some v ∧ VR K β H d v
  | [], _, _, _, h, e => by simp at e
  | d :: ds, _, 0, _, h, e => by
    cases h with
    | cons a b =>
      simp at e; subst e
      exact ⟨_, rfl, a⟩
  | d :: ds, _, i + 1, d', h, e => by
    cases h with
    | cons a b =>
      obtain ⟨v, h1, h2⟩ := VRs.get (i := i) (d := d') b (by simpa using e)
      exact ⟨v, by simpa using h1, h2⟩
theorem VRs.getNone {ds : List D} {vs : List V} {i : Nat} (h : VRs K β H ds vs) (e : ds[i]? = none) : vs[i]? = none := by
  have hl := h.length
  have h2 : ds.length ≤ i := List.getElem?_eq_none_iff.mp e
  exact List.getElem?_eq_none_iff.mpr (by omega)
theorem VRs.take : ∀ {ds : List D} {vs : List V} (n : Nat), VRs K β H ds vs → VRs K β H (ds.take n) (vs.take n)
  | _, _, 0, _ => .nil
  | [], _, n + 1, h => by cases h; exact .nil
  | d :: ds, _, n + 1, h => by
    cases h with
    | cons a b => exact .cons a (VRs.take n b)
theorem VRs.drop : ∀ {ds : List D} {vs : List V} (n : Nat), VRs K β H ds vs → VRs K β H (ds.drop n) (vs.drop n)
  | _, _, 0, h => h
  | [], _, n + 1, h => by cases h; exact .nil
  | d :: ds, _, n + 1, h => by
    cases h with
    | cons a b => exact VRs.drop n b
theorem VRs.set : ∀ {ds : List D} {vs : List V} {d : D} {v : V} (i : Nat), VRs K β H ds vs → VR K β H d v → VRs K β H (ds.set i d) (vs.set i v)
  | [], _, _, _, _, h, _ => by cases h; exact .nil
  | d :: ds, _, _, _, 0, h, q => by
    cases h with
    | cons a b => exact .cons q b
  | d :: ds, _, _, _, i + 1, h, q => by
    cases h with
    | cons a b => exact .cons a (VRs.set i b q)
theorem VRs.erase : ∀ {ds : List D} {vs : List V} (i : Nat), VRs K β H ds vs → VRs K β H (ds.eraseIdx i) (vs.eraseIdx i)
  | [], _, _, h => by cases h; exact .nil
  | d :: ds, _, 0, h => by
    cases h with
    | cons a b => exact b
  | d :: ds, _, i + 1, h => by
    cases h with
    | cons a b => exact .cons a (VRs.erase i b)
theorem VRs.dropLast {ds : List D} {vs : List V} (h : VRs K β H ds vs) : VRs K β H ds.dropLast vs.dropLast := by
  rw [List.dropLast_eq_take, List.dropLast_eq_take, h.length]
  exact h.take _
theorem VRs.reverse : ∀ {ds : List D} {vs : List V}, VRs K β H ds vs → VRs K β H ds.reverse vs.reverse
  | [], _, h => by cases h; exact .nil
  | d :: ds, _, h => by
    cases h with
    | cons a b =>
      rw [List.reverse_cons, List.reverse_cons]
      exact (VRs.reverse b).append (.cons a .nil)
theorem VRs.flat {ds : List D} {vs : List V} (h : VRs K β H ds vs) : ∀ n : Nat, VRs K β H (List.replicate n ds).flatten (List.replicate n vs).flatten
  | 0 => .nil
  | n + 1 => by
    rw [List.replicate_succ, List.replicate_succ, List.flatten_cons, List.flatten_cons]
    exact h.append (VRs.flat h n)
theorem VRs.cut {ds : List D} {vs : List V} (h : VRs K β H ds vs) (lo hi : Option Int) : VRs K β H (cutD ds lo hi) (cutV vs lo hi) := by
  unfold cutD cutV
  rw [h.length]
  exact (h.drop _).take _
theorem VRs.atI {ds : List D} {vs : List V} {i : Int} {d : D} (h : VRs K β H ds vs) (e : L2.atI ds i = some d) : ∃ v, L2.atI vs i = some v ∧ VR K β H d v := by
  unfold L2.atI at e ⊢
  rw [← h.length]
  obtain ⟨j, h1, h2⟩ := Option.bind_eq_some_iff.mp e
  obtain ⟨v, h3, h4⟩ := h.get h2
  exact ⟨v, by rw [h1]; exact h3, h4⟩
theorem VRs.isEmpty {ds : List D} {vs : List V} (h : VRs K β H ds vs) : (!ds.isEmpty) = !vs.isEmpty := by
  cases ds with
  | nil => cases h; rfl
  | cons d ds => cases h; rfl
end

section
variable {N : Nm} {β β' : Bt} {S : Sto} {H : Hp}
theorem Sim.lst (s : Sim N β S H) {n : Nat} {a : Addr} {xs : List D} (h : β n = some a) (e : lstAt S n = some xs) : ∃ vs, H a = some (.lst vs) ∧ VRs N.K β H xs vs := by
  unfold lstAt at e
  split at e
  · rename_i ys hy
    cases e
    obtain ⟨a', e', r⟩ := s.obj n _ hy
    rw [h] at e'; cases e'
    exact r
  · cases e
theorem Sim.at (s : Sim N β S H) {n : Nat} {a : Addr} {o : MO} (h : β n = some a) (e : S[n]? = some o) : OR N β H a o := by
  obtain ⟨a', e', r⟩ := s.obj n _ e
  rw [h] at e'; cases e'
  exact r
theorem Sim.seq (s : Sim N β S H) {d : D} {v : V} {xs : List D} (h : VR N.K β H d v) (e : seqAt S d = some xs) : ∃ a vs, v = .ref a ∧ SqL N.K H a vs ∧ VRs N.K β H xs vs := by
  cases d with
  | ref n =>
    cases h with
    | ref hb =>
      obtain ⟨vs, h1, h2⟩ := s.lst hb e
      exact ⟨_, vs, rfl, SqL.of h1, h2⟩
  | rol ys =>
    cases e
    cases h with
    | rol h1 h2 => exact ⟨_, _, rfl, h1.sq, h2⟩
  | _ => cases e
variable {Q : VK}
theorem Want.newL {xs : List D} {vs : List V} (w : Want N (RD N) β H (Mi.new S (.lst xs)) Q) (s : Sim N β S H) (r : VRs N.K β H xs vs) (p : Addr) (hp : H p = none) : Q (.ref p) (upd H p (.lst vs)) :=
  w _ _ _ (.new s hp) (s.new hp ⟨vs, upd_same, r.nxt s (.new s hp)⟩) (.ref (if_pos rfl))
theorem Want.tup {xs : List D} {vs : List V} (w : Want N (RD N) β H (.ok (.tup xs) S) Q) (s : Sim N β S H) (r : VRs N.K β H xs vs) (p : Addr) (hp : H p = none) : Q (.ref p) (upd H p (.tup vs)) :=
  w _ _ _ (.lay hp) (s.lay hp) (.tup (SqT.of upd_same) (r.nxt s (.lay hp)))
end

/-! ### data -/
mutual
theorem toPy_dp {N : Nm} {β : Bt} {S : Sto} {H : Hp} (s : Sim N β S H) : ∀ (k : Nat) (d : D) (v : V) (p : PyData), toPy S k d = some p → VR N.K β H d v → Dp N.K H v p ∧ p.canLay0 = true ∧ p.depth ≤ k
  | 0, _, _, _, h, _ => by simp [toPy] at h
  | k + 1, .non, _, _, h, r => by
    simp only [toPy, Option.some.injEq] at h; subst h; cases r
    exact ⟨.non, by simp [PyData.canLay0], by simp [PyData.depth]⟩
  | k + 1, .bl b, _, _, h, r => by
    simp only [toPy, Option.some.injEq] at h; subst h; cases r
    exact ⟨.bl b, by simp [PyData.canLay0], by simp [PyData.depth]⟩
  | k + 1, .int b, _, _, h, r => by
    simp only [toPy, Option.some.injEq] at h; subst h; cases r
    exact ⟨.int b, by simp [PyData.canLay0], by simp [PyData.depth]⟩
  | k + 1, .str b, _, _, h, r => by
    simp only [toPy] at h
    split at h
    · rename_i hs
      cases h; cases r
      exact ⟨.str b, by simpa [PyData.canLay0] using hs, by simp [PyData.depth]⟩
    · cases h
  | k + 1, .tup xs, _, _, h, r => by
    simp only [toPy, Option.map_eq_some_iff] at h
    obtain ⟨ps, h1, h2⟩ := h
    subst h2
    cases r with
    | tup ra rb =>
      obtain ⟨q1, q2, q3⟩ := toPy_dps s k xs _ ps h1 rb
      exact ⟨.tup ra q1, by simpa [PyData.canLay0] using q2, by simp only [PyData.depth]; omega⟩
  | k + 1, .rol xs, _, _, h, r => by
    simp only [toPy, Option.map_eq_some_iff] at h
    obtain ⟨ps, h1, h2⟩ := h
    subst h2
    cases r with
    | rol ra rb =>
      obtain ⟨q1, q2, q3⟩ := toPy_dps s k xs _ ps h1 rb
      exact ⟨.lst ra.sq q1, by simpa [PyData.canLay0] using q2, by simp only [PyData.depth]; omega⟩
  | k + 1, .ref n, _, _, h, r => by
    simp only [toPy] at h
    split at h
    · rename_i xs hx
      simp only [Option.map_eq_some_iff] at h
      obtain ⟨ps, h1, h2⟩ := h
      subst h2
      cases r with
      | ref hb =>
        obtain ⟨vs, e, rv⟩ := s.at hb hx
        obtain ⟨q1, q2, q3⟩ := toPy_dps s k xs _ ps h1 rv
        exact ⟨.lst (SqL.of e) q1, by simpa [PyData.canLay0] using q2, by simp only [PyData.depth]; omega⟩
    · cases h
  termination_by k d => (k, 0)
theorem toPy_dps {N : Nm} {β : Bt} {S : Sto} {H : Hp} (s : Sim N β S H) : ∀ (k : Nat) (ds : List D) (vs : List V) (ps : List PyData), ds.mapM (toPy S k) = some ps → VRs N.K β H ds vs → DpAll N.K H vs ps ∧ PyData.canLayAll0 ps = true ∧ PyData.depthAll ps ≤ k
  | k, [], _, ps, h, r => by
    simp at h; subst h; cases r
    exact ⟨.nil, by simp [PyData.canLayAll0], by simp [PyData.depthAll]⟩
  | k, d :: ds, _, ps, h, r => by
    rw [List.mapM_cons] at h
    simp only [bind, Option.bind_eq_some_iff] at h
    obtain ⟨p, h1, qs, h2, h3⟩ := h
    cases h3
    cases r with
    | cons ra rb =>
      obtain ⟨a1, a2, a3⟩ := toPy_dp s k d _ p h1 ra
      obtain ⟨b1, b2, b3⟩ := toPy_dps s k ds _ qs h2 rb
      exact ⟨.cons a1 b1, by simp [PyData.canLayAll0, a2, b2], by simp only [PyData.depthAll]; omega⟩
  termination_by k ds => (k, ds.length + 1)
end
theorem shaped_of {p : PyData} {k : Nat} (h1 : p.canLay0 = true) (h2 : p.depth ≤ k) (hk : k ≤ 64) : SeqAt.shaped p = true := by
  show (p.canLay0 && decide (p.depth ≤ 64)) = true
  rw [h1, Bool.true_and, decide_eq_true_eq]
  omega
end Mi

/-! == and != of a dict with a thing of another kind: each side declines. -/
namespace Mi
open PySem L2 PySem.Spec PyProof.Rows
open AutoSeq1 (wpAny_loadPart')
open MeetsSeq SeqAt

section
variable {es : Array DictEntry} {ep : Nat} {dd dd2 : Option Addr} {sl sl2 : Array (Option Value)} {items : Array Value} {n : Nat}
theorem eq_no_int (b : Int) (u : Tok) (l : Addr) : Meets (Builtin.«int.__eq__» ⟨[.int b u, .ref l], []⟩) (fun _ R s => s.heap.get? l = some { cls := .type "dict", dict := dd, data := .dict es ep, slots := sl } ∧ R (.ok (.ret .notImplemented)) s) :=
  .of_wp fun prog w A R s h => by obtain ⟨hp, g, d, tk, os⟩ := s; obtain ⟨hl, h⟩ := h; wp_walk using wpAny_loadPart' hl, wpAny_load hl; exact ⟨_, rfl, h⟩
theorem eq_no_bool (b : Bool) (l : Addr) : Meets (Builtin.«int.__eq__» ⟨[.bool b, .ref l], []⟩) (fun _ R s => s.heap.get? l = some { cls := .type "dict", dict := dd, data := .dict es ep, slots := sl } ∧ R (.ok (.ret .notImplemented)) s) :=
  .of_wp fun prog w A R s h => by obtain ⟨hp, g, d, tk, os⟩ := s; obtain ⟨hl, h⟩ := h; wp_walk using wpAny_loadPart' hl, wpAny_load hl; exact ⟨_, rfl, h⟩
theorem eq_no_str (b : Str) (u : Tok) (l : Addr) : Meets (Builtin.«str.__eq__» ⟨[.str b u, .ref l], []⟩) (fun _ R s => s.heap.get? l = some { cls := .type "dict", dict := dd, data := .dict es ep, slots := sl } ∧ R (.ok (.ret .notImplemented)) s) :=
  .of_wp fun prog w A R s h => by obtain ⟨hp, g, d, tk, os⟩ := s; obtain ⟨hl, h⟩ := h; wp_walk using wpAny_loadPart' hl, wpAny_load hl; exact ⟨_, rfl, h⟩
theorem eq_no_list (b l : Addr) : Meets (Builtin.«list.__eq__» ⟨[.ref b, .ref l], []⟩) (fun _ R s => s.heap.get? b = some { cls := .type "list", dict := dd2, data := .seq items n, slots := sl2 } ∧ s.heap.get? l = some { cls := .type "dict", dict := dd, data := .dict es ep, slots := sl } ∧ R (.ok (.ret .notImplemented)) s) :=
  .of_wp fun prog w A R s h => by obtain ⟨hp, g, d, tk, os⟩ := s; obtain ⟨hb, hl, h⟩ := h; have f1 := F.sub_dict_list; wp_walk using wpAny_loadPart' hl, wpAny_loadPart' hb; exact ⟨_, rfl, h⟩
theorem eq_no_tuple (b l : Addr) : Meets (Builtin.«tuple.__eq__» ⟨[.ref b, .ref l], []⟩) (fun _ R s => s.heap.get? b = some { cls := .type "tuple", dict := dd2, data := .seq items n, slots := sl2 } ∧ s.heap.get? l = some { cls := .type "dict", dict := dd, data := .dict es ep, slots := sl } ∧ R (.ok (.ret .notImplemented)) s) :=
  .of_wp fun prog w A R s h => by obtain ⟨hp, g, d, tk, os⟩ := s; obtain ⟨hb, hl, h⟩ := h; have f1 := F.sub_dict_tuple; wp_walk using wpAny_loadPart' hl, wpAny_loadPart' hb; exact ⟨_, rfl, h⟩
end
section
variable {prog : Program} {w : World} {A : Around} {E : Value → Shared → Prop} {s : Shared}
theorem eq_no_dict {a : Addr} {x : Value} {T : String} {Q : Value → Shared → Prop} (da : s.TypeIs (.ref a) "dict") (hx : s.TypeIs x T) (hs : isSubtype (.type T) (.type "dict") = pure false) (h : Q .notImplemented s) :
    wpAny (model prog w) A (call (.builtin "dict.__eq__") [.ref a, x]) Q E s := by
  refine wpAny_call_entry PySem.F.slot_dict_eq da PySem.F.entry_dict_eq ?_ (PySem.F.args_dict_eq_2 _ _)
  show wpAny _ _ (Builtin.Dict.dictSlotArgs "__eq__" ⟨[.ref a, x], []⟩ >>= _) _ _ s
  refine wpAny_bind ?_
  unfold Builtin.Dict.dictSlotArgs
  refine wpAny_bind (wpAny_notOrdered_dict da ?_)
  show wpAny _ _ (pure (Value.ref a, x)) _ _ s
  refine wpAny_pure (wpAny_bind (wpAny_isInstance (T := T) hx hs ?_))
  simp only [Bool.not_false, if_true]
  exact wpAny_bind (wpAny_rule (wpAny_bind (wpAny_pure (wpAny_pure ⟨_, rfl, h⟩))))
end
section
variable {es : Array DictEntry} {ep : Nat} {dd dd2 : Option Addr} {sl sl2 : Array (Option Value)} {items : Array Value} {n : Nat}
theorem ne_no_int (b : Int) (u : Tok) (l : Addr) : Meets (Builtin.«int.__ne__» ⟨[.int b u, .ref l], []⟩) (fun _ R s => s.heap.get? l = some { cls := .type "dict", dict := dd, data := .dict es ep, slots := sl } ∧ R (.ok (.ret .notImplemented)) s) :=
  .of_wp fun prog w A R s h => by obtain ⟨hp, g, d, tk, os⟩ := s; obtain ⟨hl, h⟩ := h; wp_walk using wpAny_loadPart' hl, wpAny_load hl; exact ⟨_, rfl, h⟩
theorem ne_no_bool (b : Bool) (l : Addr) : Meets (Builtin.«int.__ne__» ⟨[.bool b, .ref l], []⟩) (fun _ R s => s.heap.get? l = some { cls := .type "dict", dict := dd, data := .dict es ep, slots := sl } ∧ R (.ok (.ret .notImplemented)) s) :=
  .of_wp fun prog w A R s h => by obtain ⟨hp, g, d, tk, os⟩ := s; obtain ⟨hl, h⟩ := h; wp_walk using wpAny_loadPart' hl, wpAny_load hl; exact ⟨_, rfl, h⟩
theorem ne_no_str (b : Str) (u : Tok) (l : Addr) : Meets (Builtin.«str.__ne__» ⟨[.str b u, .ref l], []⟩) (fun _ R s => s.heap.get? l = some { cls := .type "dict", dict := dd, data := .dict es ep, slots := sl } ∧ R (.ok (.ret .notImplemented)) s) :=
  .of_wp fun prog w A R s h => by obtain ⟨hp, g, d, tk, os⟩ := s; obtain ⟨hl, h⟩ := h; wp_walk using wpAny_loadPart' hl, wpAny_load hl; exact ⟨_, rfl, h⟩
theorem ne_no_list (b l : Addr) : Meets (Builtin.«list.__ne__» ⟨[.ref b, .ref l], []⟩) (fun _ R s => s.heap.get? b = some { cls := .type "list", dict := dd2, data := .seq items n, slots := sl2 } ∧ s.heap.get? l = some { cls := .type "dict", dict := dd, data := .dict es ep, slots := sl } ∧ R (.ok (.ret .notImplemented)) s) :=
  .of_wp fun prog w A R s h => by obtain ⟨hp, g, d, tk, os⟩ := s; obtain ⟨hb, hl, h⟩ := h; have f1 := F.sub_dict_list; wp_walk using wpAny_loadPart' hl, wpAny_loadPart' hb; exact ⟨_, rfl, h⟩
theorem ne_no_tuple (b l : Addr) : Meets (Builtin.«tuple.__ne__» ⟨[.ref b, .ref l], []⟩) (fun _ R s => s.heap.get? b = some { cls := .type "tuple", dict := dd2, data := .seq items n, slots := sl2 } ∧ s.heap.get? l = some { cls := .type "dict", dict := dd, data := .dict es ep, slots := sl } ∧ R (.ok (.ret .notImplemented)) s) :=
  .of_wp fun prog w A R s h => by obtain ⟨hp, g, d, tk, os⟩ := s; obtain ⟨hb, hl, h⟩ := h; have f1 := F.sub_dict_tuple; wp_walk using wpAny_loadPart' hl, wpAny_loadPart' hb; exact ⟨_, rfl, h⟩
end
section
variable {prog : Program} {w : World} {A : Around} {E : Value → Shared → Prop} {s : Shared}
theorem ne_no_dict {a : Addr} {x : Value} {T : String} {Q : Value → Shared → Prop} (da : s.TypeIs (.ref a) "dict") (hx : s.TypeIs x T) (hs : isSubtype (.type T) (.type "dict") = pure false) (h : Q .notImplemented s) :
    wpAny (model prog w) A (call (.builtin "dict.__ne__") [.ref a, x]) Q E s := by
  refine wpAny_call_entry PySem.F.slot_dict_ne da PySem.F.entry_dict_ne ?_ (PySem.F.args_dict_ne_2 _ _)
  show wpAny _ _ (Builtin.Dict.dictSlotArgs "__ne__" ⟨[.ref a, x], []⟩ >>= _) _ _ s
  refine wpAny_bind ?_
  unfold Builtin.Dict.dictSlotArgs
  refine wpAny_bind (wpAny_notOrdered_dict da ?_)
  show wpAny _ _ (pure (Value.ref a, x)) _ _ s
  refine wpAny_pure (wpAny_bind (wpAny_isInstance (T := T) hx hs ?_))
  simp only [Bool.not_false, if_true]
  exact wpAny_bind (wpAny_rule (wpAny_bind (wpAny_pure (wpAny_pure ⟨_, rfl, h⟩))))
end
/-- what is no dict -/
inductive Oth (s : Shared) : Value → Prop
  | none : Oth s .none
  | bool (b : Bool) : Oth s (.bool b)
  | int (i : Int) (t : Tok) : Oth s (.int i t)
  | str (z : Str) (t : Tok) : Oth s (.str z t)
  | list {l : Addr} {items : Array Value} : s.heap.IsList l items → Oth s (.ref l)
  | tuple {l : Addr} {items : Array Value} : s.heap.IsTuple l items → Oth s (.ref l)
/-- a dict -/
def IsD (s : Shared) (a : Addr) : Prop := ∃ dd es ep sl, s.heap.get? a = some { cls := .type "dict", dict := dd, data := .dict es ep, slots := sl }
section
variable {prog : Program} {w : World} {A : Around} {E : Value → Shared → Prop} {s : Shared}
theorem IsD.ty {a : Addr} (h : IsD s a) : s.TypeIs (.ref a) "dict" := by
  obtain ⟨dd, es, ep, sl, h⟩ := h
  exact ⟨_, h, rfl⟩
theorem IsD.ne_list {a l : Addr} {items : Array Value} (h : IsD s a) (hl : s.heap.IsList l items) : a ≠ l := fun e => by
  subst e
  obtain ⟨dd, es, ep, sl, h⟩ := h
  obtain ⟨o, ho, hc, _⟩ := hl
  rw [h] at ho; cases ho
  exact absurd hc (by simp)
theorem IsD.ne_tuple {a l : Addr} {items : Array Value} (h : IsD s a) (hl : s.heap.IsTuple l items) : a ≠ l := fun e => by
  subst e
  obtain ⟨dd, es, ep, sl, h⟩ := h
  obtain ⟨o, ho, hc, _⟩ := hl
  rw [h] at ho; cases ho
  exact absurd hc (by simp)
theorem rc_do {a : Addr} {x : Value} (da : IsD s a) (o : Oth s x) (hu : A.units < cLine) : RcAt A s (.ref a) x false := fun prog w E Q h => by
  have ta := da.ty
  obtain ⟨dd, es, ep, sl, ha⟩ := id da
  cases o with
  | none =>
    exact rc_eq_decline_or (k := false) ta rfl (by decide) F.sub_NoneType_dict F.slot_dict_eq F.slot_NoneType_eq_refl (fun _ hq => eq_no_dict (T := "NoneType") ta rfl F.sub_NoneType_dict hq)
      (fun _ hq => call_gives F.slot_NoneType_eq_refl rfl F.entry_NoneType_eq (F.args_NoneType_eq_2 _ _) (NoneType___eq___none_ref_0 a) hq) (fun _ hq => wpAny_of_eq (rfl : isSame (.ref a) .none = pure false) hq) (.inr hu) h
  | bool b =>
    exact rc_eq_decline_or (k := false) ta rfl (by decide) F.sub_bool_dict F.slot_dict_eq F.slot_bool_eq_refl (fun _ hq => eq_no_dict (T := "bool") ta rfl F.sub_bool_dict hq)
      (fun _ hq => call_meets F.slot_bool_eq_refl rfl F.entry_int_eq (F.args_int_eq_2 _ _) (eq_no_bool b a) ⟨ha, hq⟩) (fun _ hq => wpAny_of_eq (rfl : isSame (.ref a) (.bool b) = pure false) hq) (.inr hu) h
  | int i t =>
    exact rc_eq_decline_or (k := false) ta (typeIs_int s i t) (by decide) F.sub_int_dict F.slot_dict_eq F.slot_int_eq_refl (fun _ hq => eq_no_dict (T := "int") ta (typeIs_int s i t) F.sub_int_dict hq)
      (fun _ hq => call_meets F.slot_int_eq_refl (typeIs_int s i t) F.entry_int_eq (F.args_int_eq_2 _ _) (eq_no_int i t a) ⟨ha, hq⟩) (fun _ hq => wpAny_of_eq (rfl : isSame (.ref a) (.int i t) = pure false) hq) (.inr hu) h
  | str z t =>
    exact rc_eq_decline_or (k := false) ta (typeIs_str s z t) (by decide) F.sub_str_dict F.slot_dict_eq F.slot_str_eq_refl (fun _ hq => eq_no_dict (T := "str") ta (typeIs_str s z t) F.sub_str_dict hq)
      (fun _ hq => call_meets F.slot_str_eq_refl (typeIs_str s z t) F.entry_str_eq (F.args_str_eq_2 _ _) (eq_no_str z t a) ⟨ha, hq⟩) (fun _ hq => wpAny_of_eq (rfl : isSame (.ref a) (.str z t) = pure false) hq) (.inr hu) h
  | @list l items hl =>
    have ne := da.ne_list hl
    obtain ⟨⟨cls, d2, data, sl2⟩, ho, hc, n, hd⟩ := id hl
    simp only at hc hd
    subst hc hd
    exact rc_eq_decline_or (k := false) ta ⟨_, ho, rfl⟩ (by decide) F.sub_list_dict F.slot_dict_eq F.slot_list_eq_refl (fun _ hq => eq_no_dict (T := "list") ta ⟨_, ho, rfl⟩ F.sub_list_dict hq)
      (fun _ hq => call_meets F.slot_list_eq_refl ⟨_, ho, rfl⟩ F.entry_list_eq (F.args_list_eq_2 _ _) (eq_no_list l a) ⟨ho, ha, hq⟩) (fun _ hq => wpAny_isSame_ref_other ne ha ho (by simp) hq) (.inr hu) h
  | @tuple l items hl =>
    have ne := da.ne_tuple hl
    obtain ⟨⟨cls, d2, data, sl2⟩, ho, hc, n, hd⟩ := id hl
    simp only at hc hd
    subst hc hd
    exact rc_eq_decline_or (k := false) ta ⟨_, ho, rfl⟩ (by decide) F.sub_tuple_dict F.slot_dict_eq F.slot_tuple_eq_refl (fun _ hq => eq_no_dict (T := "tuple") ta ⟨_, ho, rfl⟩ F.sub_tuple_dict hq)
      (fun _ hq => call_meets F.slot_tuple_eq_refl ⟨_, ho, rfl⟩ F.entry_tuple_eq (F.args_tuple_eq_2 _ _) (eq_no_tuple l a) ⟨ho, ha, hq⟩) (fun _ hq => wpAny_isSame_ref_other ne ha ho (by simp) hq) (.inr hu) h
theorem rc_od {a : Addr} {x : Value} (da : IsD s a) (o : Oth s x) (hu : A.units < cLine) : RcAt A s x (.ref a) false := fun prog w E Q h => by
  have ta := da.ty
  obtain ⟨dd, es, ep, sl, ha⟩ := id da
  cases o with
  | none =>
    exact rc_eq_decline_or (k := false) rfl ta (by decide) F.sub_dict_NoneType F.slot_NoneType_eq F.slot_dict_eq_refl (fun _ hq => call_gives F.slot_NoneType_eq rfl F.entry_NoneType_eq (F.args_NoneType_eq_2 _ _) (NoneType___eq___none_ref_0 a) hq)
      (fun _ hq => eq_no_dict (T := "NoneType") ta rfl F.sub_NoneType_dict hq) (fun _ hq => wpAny_of_eq (rfl : isSame .none (.ref a) = pure false) hq) (.inr hu) h
  | bool b =>
    exact rc_eq_decline_or (k := false) rfl ta (by decide) F.sub_dict_bool F.slot_bool_eq F.slot_dict_eq_refl (fun _ hq => call_meets F.slot_bool_eq rfl F.entry_int_eq (F.args_int_eq_2 _ _) (eq_no_bool b a) ⟨ha, hq⟩)
      (fun _ hq => eq_no_dict (T := "bool") ta rfl F.sub_bool_dict hq) (fun _ hq => wpAny_of_eq (rfl : isSame (.bool b) (.ref a) = pure false) hq) (.inr hu) h
  | int i t =>
    exact rc_eq_decline_or (k := false) (typeIs_int s i t) ta (by decide) F.sub_dict_int F.slot_int_eq F.slot_dict_eq_refl (fun _ hq => call_meets F.slot_int_eq (typeIs_int s i t) F.entry_int_eq (F.args_int_eq_2 _ _) (eq_no_int i t a) ⟨ha, hq⟩)
      (fun _ hq => eq_no_dict (T := "int") ta (typeIs_int s i t) F.sub_int_dict hq) (fun _ hq => wpAny_of_eq (rfl : isSame (.int i t) (.ref a) = pure false) hq) (.inr hu) h
  | str z t =>
    exact rc_eq_decline_or (k := false) (typeIs_str s z t) ta (by decide) F.sub_dict_str F.slot_str_eq F.slot_dict_eq_refl (fun _ hq => call_meets F.slot_str_eq (typeIs_str s z t) F.entry_str_eq (F.args_str_eq_2 _ _) (eq_no_str z t a) ⟨ha, hq⟩)
      (fun _ hq => eq_no_dict (T := "str") ta (typeIs_str s z t) F.sub_str_dict hq) (fun _ hq => wpAny_of_eq (rfl : isSame (.str z t) (.ref a) = pure false) hq) (.inr hu) h
  | @list l items hl =>
    have ne := da.ne_list hl
    have ne := ne.symm
    obtain ⟨⟨cls, d2, data, sl2⟩, ho, hc, n, hd⟩ := id hl
    simp only at hc hd
    subst hc hd
    exact rc_eq_decline_or (k := false) ⟨_, ho, rfl⟩ ta (by decide) F.sub_dict_list F.slot_list_eq F.slot_dict_eq_refl (fun _ hq => call_meets F.slot_list_eq ⟨_, ho, rfl⟩ F.entry_list_eq (F.args_list_eq_2 _ _) (eq_no_list l a) ⟨ho, ha, hq⟩)
      (fun _ hq => eq_no_dict (T := "list") ta ⟨_, ho, rfl⟩ F.sub_list_dict hq) (fun _ hq => wpAny_isSame_ref_other' ne ho ha (by simp) hq) (.inr hu) h
  | @tuple l items hl =>
    have ne := da.ne_tuple hl
    have ne := ne.symm
    obtain ⟨⟨cls, d2, data, sl2⟩, ho, hc, n, hd⟩ := id hl
    simp only at hc hd
    subst hc hd
    exact rc_eq_decline_or (k := false) ⟨_, ho, rfl⟩ ta (by decide) F.sub_dict_tuple F.slot_tuple_eq F.slot_dict_eq_refl (fun _ hq => call_meets F.slot_tuple_eq ⟨_, ho, rfl⟩ F.entry_tuple_eq (F.args_tuple_eq_2 _ _) (eq_no_tuple l a) ⟨ho, ha, hq⟩)
      (fun _ hq => eq_no_dict (T := "tuple") ta ⟨_, ho, rfl⟩ F.sub_tuple_dict hq) (fun _ hq => wpAny_isSame_ref_other' ne ho ha (by simp) hq) (.inr hu) h
theorem rn_do {a : Addr} {x : Value} (da : IsD s a) (o : Oth s x) (hu : A.units < cLine) : RcNeAt A s (.ref a) x true := fun prog w E Q h => by
  have ta := da.ty
  obtain ⟨dd, es, ep, sl, ha⟩ := id da
  cases o with
  | none =>
    exact rc_ne_decline_or (k := false) ta rfl (by decide) F.sub_NoneType_dict F.slot_dict_ne F.slot_NoneType_ne_refl (fun _ hq => ne_no_dict (T := "NoneType") ta rfl F.sub_NoneType_dict hq)
      (fun _ hq => call_gives F.slot_NoneType_ne_refl rfl F.entry_NoneType_ne (F.args_NoneType_ne_2 _ _) (NoneType___ne___none_ref_0 a) hq) (fun _ hq => wpAny_of_eq (rfl : isSame (.ref a) .none = pure false) hq) (.inr hu) h
  | bool b =>
    exact rc_ne_decline_or (k := false) ta rfl (by decide) F.sub_bool_dict F.slot_dict_ne F.slot_bool_ne_refl (fun _ hq => ne_no_dict (T := "bool") ta rfl F.sub_bool_dict hq)
      (fun _ hq => call_meets F.slot_bool_ne_refl rfl F.entry_int_ne (F.args_int_ne_2 _ _) (ne_no_bool b a) ⟨ha, hq⟩) (fun _ hq => wpAny_of_eq (rfl : isSame (.ref a) (.bool b) = pure false) hq) (.inr hu) h
  | int i t =>
    exact rc_ne_decline_or (k := false) ta (typeIs_int s i t) (by decide) F.sub_int_dict F.slot_dict_ne F.slot_int_ne_refl (fun _ hq => ne_no_dict (T := "int") ta (typeIs_int s i t) F.sub_int_dict hq)
      (fun _ hq => call_meets F.slot_int_ne_refl (typeIs_int s i t) F.entry_int_ne (F.args_int_ne_2 _ _) (ne_no_int i t a) ⟨ha, hq⟩) (fun _ hq => wpAny_of_eq (rfl : isSame (.ref a) (.int i t) = pure false) hq) (.inr hu) h
  | str z t =>
    exact rc_ne_decline_or (k := false) ta (typeIs_str s z t) (by decide) F.sub_str_dict F.slot_dict_ne F.slot_str_ne_refl (fun _ hq => ne_no_dict (T := "str") ta (typeIs_str s z t) F.sub_str_dict hq)
      (fun _ hq => call_meets F.slot_str_ne_refl (typeIs_str s z t) F.entry_str_ne (F.args_str_ne_2 _ _) (ne_no_str z t a) ⟨ha, hq⟩) (fun _ hq => wpAny_of_eq (rfl : isSame (.ref a) (.str z t) = pure false) hq) (.inr hu) h
  | @list l items hl =>
    have ne := da.ne_list hl
    obtain ⟨⟨cls, d2, data, sl2⟩, ho, hc, n, hd⟩ := id hl
    simp only at hc hd
    subst hc hd
    exact rc_ne_decline_or (k := false) ta ⟨_, ho, rfl⟩ (by decide) F.sub_list_dict F.slot_dict_ne F.slot_list_ne_refl (fun _ hq => ne_no_dict (T := "list") ta ⟨_, ho, rfl⟩ F.sub_list_dict hq)
      (fun _ hq => call_meets F.slot_list_ne_refl ⟨_, ho, rfl⟩ F.entry_list_ne (F.args_list_ne_2 _ _) (ne_no_list l a) ⟨ho, ha, hq⟩) (fun _ hq => wpAny_isSame_ref_other ne ha ho (by simp) hq) (.inr hu) h
  | @tuple l items hl =>
    have ne := da.ne_tuple hl
    obtain ⟨⟨cls, d2, data, sl2⟩, ho, hc, n, hd⟩ := id hl
    simp only at hc hd
    subst hc hd
    exact rc_ne_decline_or (k := false) ta ⟨_, ho, rfl⟩ (by decide) F.sub_tuple_dict F.slot_dict_ne F.slot_tuple_ne_refl (fun _ hq => ne_no_dict (T := "tuple") ta ⟨_, ho, rfl⟩ F.sub_tuple_dict hq)
      (fun _ hq => call_meets F.slot_tuple_ne_refl ⟨_, ho, rfl⟩ F.entry_tuple_ne (F.args_tuple_ne_2 _ _) (ne_no_tuple l a) ⟨ho, ha, hq⟩) (fun _ hq => wpAny_isSame_ref_other ne ha ho (by simp) hq) (.inr hu) h
theorem rn_od {a : Addr} {x : Value} (da : IsD s a) (o : Oth s x) (hu : A.units < cLine) : RcNeAt A s x (.ref a) true := fun prog w E Q h => by
  have ta := da.ty
  obtain ⟨dd, es, ep, sl, ha⟩ := id da
  cases o with
  | none =>
    exact rc_ne_decline_or (k := false) rfl ta (by decide) F.sub_dict_NoneType F.slot_NoneType_ne F.slot_dict_ne_refl (fun _ hq => call_gives F.slot_NoneType_ne rfl F.entry_NoneType_ne (F.args_NoneType_ne_2 _ _) (NoneType___ne___none_ref_0 a) hq)
      (fun _ hq => ne_no_dict (T := "NoneType") ta rfl F.sub_NoneType_dict hq) (fun _ hq => wpAny_of_eq (rfl : isSame .none (.ref a) = pure false) hq) (.inr hu) h
  | bool b =>
    exact rc_ne_decline_or (k := false) rfl ta (by decide) F.sub_dict_bool F.slot_bool_ne F.slot_dict_ne_refl (fun _ hq => call_meets F.slot_bool_ne rfl F.entry_int_ne (F.args_int_ne_2 _ _) (ne_no_bool b a) ⟨ha, hq⟩)
      (fun _ hq => ne_no_dict (T := "bool") ta rfl F.sub_bool_dict hq) (fun _ hq => wpAny_of_eq (rfl : isSame (.bool b) (.ref a) = pure false) hq) (.inr hu) h
  | int i t =>
    exact rc_ne_decline_or (k := false) (typeIs_int s i t) ta (by decide) F.sub_dict_int F.slot_int_ne F.slot_dict_ne_refl (fun _ hq => call_meets F.slot_int_ne (typeIs_int s i t) F.entry_int_ne (F.args_int_ne_2 _ _) (ne_no_int i t a) ⟨ha, hq⟩)
      (fun _ hq => ne_no_dict (T := "int") ta (typeIs_int s i t) F.sub_int_dict hq) (fun _ hq => wpAny_of_eq (rfl : isSame (.int i t) (.ref a) = pure false) hq) (.inr hu) h
  | str z t =>
    exact rc_ne_decline_or (k := false) (typeIs_str s z t) ta (by decide) F.sub_dict_str F.slot_str_ne F.slot_dict_ne_refl (fun _ hq => call_meets F.slot_str_ne (typeIs_str s z t) F.entry_str_ne (F.args_str_ne_2 _ _) (ne_no_str z t a) ⟨ha, hq⟩)
      (fun _ hq => ne_no_dict (T := "str") ta (typeIs_str s z t) F.sub_str_dict hq) (fun _ hq => wpAny_of_eq (rfl : isSame (.str z t) (.ref a) = pure false) hq) (.inr hu) h
  | @list l items hl =>
    have ne := da.ne_list hl
    have ne := ne.symm
    obtain ⟨⟨cls, d2, data, sl2⟩, ho, hc, n, hd⟩ := id hl
    simp only at hc hd
    subst hc hd
    exact rc_ne_decline_or (k := false) ⟨_, ho, rfl⟩ ta (by decide) F.sub_dict_list F.slot_list_ne F.slot_dict_ne_refl (fun _ hq => call_meets F.slot_list_ne ⟨_, ho, rfl⟩ F.entry_list_ne (F.args_list_ne_2 _ _) (ne_no_list l a) ⟨ho, ha, hq⟩)
      (fun _ hq => ne_no_dict (T := "list") ta ⟨_, ho, rfl⟩ F.sub_list_dict hq) (fun _ hq => wpAny_isSame_ref_other' ne ho ha (by simp) hq) (.inr hu) h
  | @tuple l items hl =>
    have ne := da.ne_tuple hl
    have ne := ne.symm
    obtain ⟨⟨cls, d2, data, sl2⟩, ho, hc, n, hd⟩ := id hl
    simp only at hc hd
    subst hc hd
    exact rc_ne_decline_or (k := false) ⟨_, ho, rfl⟩ ta (by decide) F.sub_dict_tuple F.slot_tuple_ne F.slot_dict_ne_refl (fun _ hq => call_meets F.slot_tuple_ne ⟨_, ho, rfl⟩ F.entry_tuple_ne (F.args_tuple_ne_2 _ _) (ne_no_tuple l a) ⟨ho, ha, hq⟩)
      (fun _ hq => ne_no_dict (T := "tuple") ta ⟨_, ho, rfl⟩ F.sub_tuple_dict hq) (fun _ hq => wpAny_isSame_ref_other' ne ho ha (by simp) hq) (.inr hu) h
/-- they are not the same -/
theorem ne_do {a : Addr} {x : Value} (da : IsD s a) (o : Oth s x) : (Value.ref a == x) = false ∧ (x == Value.ref a) = false := by
  cases o with
  | none => exact ⟨rfl, rfl⟩
  | bool b => exact ⟨rfl, rfl⟩
  | int i t => exact ⟨rfl, rfl⟩
  | str z t => exact ⟨rfl, rfl⟩
  | list hl =>
    have := da.ne_list hl
    exact ⟨beq_false_of_ne fun e => this (by injection e), beq_false_of_ne fun e => this (by injection e with e; exact e.symm)⟩
  | tuple hl =>
    have := da.ne_tuple hl
    exact ⟨beq_false_of_ne fun e => this (by injection e), beq_false_of_ne fun e => this (by injection e with e; exact e.symm)⟩
theorem eq_do {a : Addr} {x : Value} (da : IsD s a) (o : Oth s x) (hu : A.units < cLine) : EqAt A s (.ref a) x false := fun prog w E Q hq => by
  unfold eqBool
  refine wpAny_holding ?_
  rw [if_neg (by rw [(ne_do da o).1]; exact Bool.false_ne_true)]
  exact wpAny_bind (rc_do da o hu _ _ _ _ (wpAny_truthy_bool hq))
theorem eq_od {a : Addr} {x : Value} (da : IsD s a) (o : Oth s x) (hu : A.units < cLine) : EqAt A s x (.ref a) false := fun prog w E Q hq => by
  unfold eqBool
  refine wpAny_holding ?_
  rw [if_neg (by rw [(ne_do da o).2]; exact Bool.false_ne_true)]
  have o2 := o
  cases o <;> exact wpAny_bind (rc_od da o2 hu _ _ _ _ (wpAny_truthy_bool hq))
end
section
variable {X : Cx} {pins : List (Addr × Obj)} {σ : L2.St} {H : Hp} {s : Shared} {N : Nm} {β : Bt} {S : Sto} {d e : D} {v v' : V} {u u' : Value}
theorem oth_rel (I : Inv X pins σ H s) (hK : X.K = N.K) (sm : Sim N β S H) (r : VR N.K β H d v) (h : dKind S d = some false) (ru : RelV v u) : Oth s u := by
  rw [← hK] at r
  cases r with
  | non => cases ru; exact .none
  | bl b => cases ru; exact .bool b
  | int i => obtain ⟨t, rfl⟩ := ru; exact .int i t
  | str z => obtain ⟨t, rfl⟩ := ru; exact .str z t
  | tup h1 h2 =>
    cases ru
    obtain ⟨its, rv, y, _⟩ := I.tuple h1
    exact .tuple y
  | rol h1 h2 =>
    cases ru
    obtain ⟨its, rv, y, _⟩ := I.list h1.sq
    exact .list y.isList
  | @ref n a hb =>
    cases ru
    simp only [dKind] at h
    split at h
    · rename_i xs hx
      obtain ⟨vs, e1, _⟩ := sm.at hb hx
      obtain ⟨its, rv, y, _⟩ := I.list (SqL.of e1)
      exact .list y.isList
    · cases h
    · cases h
theorem isd_rel (I : Inv X pins σ H s) (sm : Sim N β S H) (r : VR N.K β H d v) (h : dKind S d = some true) (ru : RelV v u) : ∃ a, v = .ref a ∧ u = .ref a ∧ IsD s a := by
  cases r with
  | @ref n a hb =>
    cases ru
    refine ⟨a, rfl, rfl, ?_⟩
    simp only [dKind] at h
    split at h
    · cases h
    · rename_i kvs hx
      obtain ⟨ks, e1, _⟩ := sm.at hb hx
      obtain ⟨_, _, vs, _, o, es, ep, ho, hc, hd, _⟩ := L2.dk_of I.hok e1
      obtain ⟨cls, d2, data, sl2⟩ := o
      have hc' := hc.1
      simp only at hc' hd
      subst hc' hd
      exact ⟨_, _, _, _, ho⟩
    · cases h
  | _ => cases h
end
end Mi

/-! list(reversed(a list)); d.update(a dict). -/
namespace Mi
open PySem L2 PySem.Spec PyProof.Rows
section
variable {prog : Program} {w : World} {A : Around} {E : Value → Shared → Prop} {s : Shared} {R : Result → Shared → Prop}
/-- a new list takes in what a reversed list's iterator gives -/
theorem ext_rev {it l S : Addr} {items : Array Value} {res : Value} {c0 : Nat} (hh : A.handled = none) (hit : s.heap.IsRevIter it l ((items.size : Int) - 1)) (hl : s.heap.IsList l items) (hne : l ≠ it) (hn : items.size ≤ sizeLine) (hSi : S ≠ it) (hSl : S ≠ l)
    (hS : s.heap.get? S = some { cls := .type "list", data := .seq #[] c0 })
    (hR : ∀ s' acc' c', Moved [S, it] (fun a b => b = a) s s' → s'.heap.get? S = some { cls := .type "list", dict := none, data := .seq acc' c', slots := #[] } → ItemsOf (fun i v => items[items.size - 1 - i]? = some v) acc' items.size → R (.ok (.ret res)) s') :
    wpAny (model prog w) A.in1 (Builtin.List.listExtendWith (.ref S) (.ref it) res)
      (fun fin s' => match fin with | .done f => R (.ok f) s' | .again c' => c'.quiet = true ∧ codeAny (model prog w) A c' R s') (fun e s' => R (.error e) s') s := by
  have W := (Walks.listRev (prog := prog) (w := w) (A := A.in1) hh it l hne items).toS
  have hSf : S ∉ [it, l] := by simp only [List.mem_cons, List.not_mem_nil, or_false, not_or]; exact ⟨hSi, hSl⟩
  have hT : s.TypeIs (.ref it) "list_reverseiterator" := hit.typeIs
  have h1 : Builtin.List.listSameRef (.ref S) (.ref it) = false := by simp [Builtin.List.listSameRef, hSi]
  unfold Builtin.List.listExtendWith
  refine wpAny_bind (wpAny_typeOf hT ?_)
  rw [if_neg (by rw [h1]; decide)]
  refine wpAny_bind (wpAny_pyIter_revIter hit (wpAny_bind (wpAny_holding ?_)))
  unfold Builtin.List.listLengthHint
  refine wpAny_bind (wpAny_specialOf hT RT.nolen_lri ?_)
  show wpAny _ A.in1 (specialOf (Value.ref it) (Str.ofString "__length_hint__") >>= _) _ _ _
  refine wpAny_bind (wpAny_specialOf hT RT.hint_lri ?_)
  generalize hid : ("list_reverseiterator.__length_hint__" : String) = id0
  wp_delta
  rw [show splitId id0 = some ("list_reverseiterator", "__length_hint__") from by subst hid; decide +kernel]
  subst hid
  refine wpAny_bind (wpAny_isInstance (b := true) hT (by rw [isSubtype_type]; kernel_rfl) (wpAny_pure ?_))
  rw [if_neg (by decide)]
  have e0 : ((items.size : Nat) : Int) - 1 - ((0 : Nat) : Int) = (items.size : Int) - 1 := by omega
  exact wpAny_pure ⟨plainId_quiet F.plain_extend_loop _, codeAny_extend_loopS W hn _ hSf _ items.size 0 _ _ _ rfl (Nat.zero_le _) ⟨Nat.zero_le _, by rw [e0]; exact hit, hl⟩ hS (ItemsOf.nil _) fun s' acc' c' hm hS' hacc => hR s' acc' c' hm hS' hacc⟩
theorem init_rev {it l S : Addr} {items : Array Value} (hh : A.handled = none) (hit : s.heap.IsRevIter it l ((items.size : Int) - 1)) (hl : s.heap.IsList l items) (hne : l ≠ it) (hn : items.size ≤ sizeLine) (hSi : S ≠ it) (hSl : S ≠ l)
    (hS : s.heap.get? S = some { cls := .type "list", data := .seq #[] })
    (hR : ∀ s' acc' c', Moved [S, it] (fun a b => b = a) s s' → s'.heap.get? S = some { cls := .type "list", dict := none, data := .seq acc' c', slots := #[] } → ItemsOf (fun i v => items[items.size - 1 - i]? = some v) acc' items.size → R (.ok (.ret .none)) s') :
    wpAny (model prog w) A.in1 (Builtin.«list.__init__» ⟨[.ref S, .ref it], []⟩)
      (fun fin s' => match fin with | .done f => R (.ok f) s' | .again c' => c'.quiet = true ∧ codeAny (model prog w) A c' R s') (fun e s' => R (.error e) s') s := by
  show wpAny _ A.in1 (do let old ← Builtin.List.listItems (.ref S); Builtin.List.listUpdate (.ref S) (fun _ => #[]); letGo old.toList.reverse; Builtin.List.listExtendWith (.ref S) (.ref it) .none) _ _ s
  refine wpAny_bind ?_
  unfold Builtin.List.listItems
  refine wpAny_bind (wpAny_seqItems hS rfl (wpAny_pure ?_))
  show wpAny _ A.in1 (updateSeq S (fun _ => #[]) >>= fun _ => letGo (#[] : Array Value).toList.reverse >>= fun _ => Builtin.List.listExtendWith (.ref S) (.ref it) .none) _ _ s
  refine wpAny_bind (wpAny_updateSeq hS rfl (wpAny_bind (wpAny_letGo ?_)))
  have keep : ∀ b o, b ≠ S → s.heap.get? b = some o → (s.heap.update S (Obj.mapSeq (fun _ => (#[] : Array Value)))).get? b = some o := fun b o hb e => (Heap.get?_update_other _ _ (Ne.symm hb)).trans e
  refine ext_rev (s := { s with heap := s.heap.update S (Obj.mapSeq (fun _ => (#[] : Array Value))) }) hh (hit.at fun o e => keep _ _ hSi.symm e) (hl.at fun o e => keep _ _ hSl.symm e) hne hn hSi hSl (Heap.get?_update_self _ hS rfl) fun s' acc' c' hm hS' hacc => ?_
  have m0 : Moved [S, it] (fun a b => b = a) s { s with heap := s.heap.update S (Obj.mapSeq (fun _ => (#[] : Array Value))) } := by
    refine Moved.then_heap (wr := [S, it]) (Moved.refl (G := fun a b => b = a) (fun _ => rfl)) (Nat.le_refl _) (fun b o hb e => keep b o (fun h => hb ?_) e)
    rw [h]; exact List.mem_cons_self
  exact hR s' acc' c' (Moved.trans (fun _ _ _ a b => Eq.trans b a) m0 hm) hS' hacc
theorem call_rev {it l : Addr} {items : Array Value} {Q : Value → Shared → Prop} (hh : A.handled = none) (hit : s.heap.IsRevIter it l ((items.size : Int) - 1)) (hl : s.heap.IsList l items) (hne : l ≠ it) (hn : items.size ≤ sizeLine)
    (hQ : ∀ (s' : Shared) (acc : Array Value) (c : Nat), Moved [s.heap.objs.size, it] (fun a b => b = a) { s with heap := s.heap.push { cls := .type "list", data := .seq #[] } } s' →
      s'.heap.get? s.heap.objs.size = some { cls := .type "list", dict := none, data := .seq acc c, slots := #[] } → ItemsOf (fun i v => items[items.size - 1 - i]? = some v) acc items.size → Q (.ref s.heap.objs.size) s') :
    wpAny (model prog w) A (call (.type "list") [.ref it]) Q E s := by
  refine callType_codes (Q₁ := fun obj s₁ => obj = .ref s.heap.objs.size ∧ s₁ = { s with heap := s.heap.push { cls := .type "list", data := .seq #[] } }) F.called_list (F.typeCall_list_1 _) F.entry_list_init
    (code_list_new _ ⟨rfl, rfl⟩) fun obj s₁ h₁ => ?_
  obtain ⟨rfl, rfl⟩ := h₁
  obtain ⟨oi, hoi, _⟩ := id hit
  obtain ⟨ol, hol, _⟩ := id hl
  have hS : (s.heap.push { cls := .type "list", data := .seq #[] }).get? s.heap.objs.size = some { cls := .type "list", data := .seq #[] } := Heap.get?_push_size _ rfl
  refine ⟨⟨_, hS, rfl⟩, F.args_list_init_2 _ _, init_rev (s := { s with heap := s.heap.push { cls := .type "list", data := .seq #[] } }) hh (hit.at fun o e => Heap.get?_push_of_some _ e) (hl.push _) hne hn (Nat.ne_of_gt (Heap.lt_size hoi)) (Nat.ne_of_gt (Heap.lt_size hol)) hS fun s' acc' c' hm hS' hacc => ?_⟩
  exact ⟨rfl, hQ s' acc' c' hm hS' hacc⟩
end
/-- list(reversed(x)), x a list: a new list -/
def tLstRev (K : PySem.W.Frag) (te : TE) : TE := fun σ H Q => te σ H fun v H1 => ∃ (a : Addr) (xs : List V), v = .ref a ∧ SqL K H1 a xs ∧ ∀ q, H1 q = none → Q (.ref q) (upd H1 q (.lst xs.reverse))
section
variable {X : Cx}
theorem pe_lstRev {e : Expr} {te : TE} {p p2 pos pos2 : Pos} (hc : X.calm = true) (hg : Gl X "list") (hm : X.mg "list" = none) (hg2 : Gl X "reversed") (hm2 : X.mg "reversed" = none) (he : PE X e te)
    (hs : starEach [e] X.env = (false, eval e X.env) :: starEach [] X.env := by rfl)
    (hs2 : starEach [.Call (.Name "reversed" p2) [e] [] pos2] X.env = (false, eval (.Call (.Name "reversed" p2) [e] [] pos2) X.env) :: starEach [] X.env := by rfl) :
    PE X (.Call (.Name "list" p) [.Call (.Name "reversed" p2) [e] [] pos2] [] pos) (tLstRev X.K te) := by
  refine ⟨fun pins s σ H Q I h => ?_⟩
  refine Call_ (ld_blt I hg hm boot_list (PyProof.Rows.callWith_type1 (args_cons (Call_ (ld_blt I hg2 hm2 PyProof.Rows.boot_reversed (PyProof.Rows.callWith_type1 (args_cons (thn (he.run pins s σ H _ I h) fun u s1 ⟨v, H1, I1, r1, q1⟩ => args_nil ?_) hs) hs rfl))) hs2) hs2 rfl))
  obtain ⟨a, xs, ev, hq, q⟩ := q1
  subst ev
  obtain rfl : u = Value.ref a := r1
  obtain ⟨its, rv, p', hz⟩ := I1.list hq
  refine call_reversed_list p'.isList (args_nil ?_)
  have k0 : ∀ b o, s1.heap.get? b = some o → (s1.heap.push (revObj a ((its.toArray.size : Int) - 1))).get? b = some o := fun b o e => Heap.get?_push_of_some _ e
  have I2 : Inv X pins σ H1 { s1 with heap := s1.heap.push (revObj a ((its.toArray.size : Int) - 1)) } := I1.kept (t' := s1.toks) k0
  obtain ⟨f0, f1, f2, f3, f4, f5⟩ := I1.fpOk (H' := H1) (b := s1.heap.objs.size) (Nat.le_refl _) (I1.hok.fresh (Nat.le_refl _))
  have hl := p'.isList
  obtain ⟨ol, hol, _⟩ := id hl
  have hne : a ≠ s1.heap.objs.size := Nat.ne_of_lt (Heap.lt_size hol)
  have hn : its.toArray.size ≤ sizeLine := by rw [List.size_toArray, ← rv.length]; exact hz
  generalize hs3 : ({ s1 with heap := s1.heap.push (revObj a ((its.toArray.size : Int) - 1)) } : Shared) = s3 at I2
  have hsz3 : s3.heap.objs.size = s1.heap.objs.size + 1 := by rw [← hs3]; exact Heap.size_push ..
  have hit3 : s3.heap.IsRevIter s1.heap.objs.size a ((its.toArray.size : Int) - 1) := by rw [← hs3]; exact ⟨_, Heap.get?_push_size _ rfl, rfl, rfl⟩
  have hl3 : s3.heap.IsList a its.toArray := by rw [← hs3]; exact hl.push _
  refine call_rev (I1.ok.hd hc) hit3 hl3 hne hn fun s' acc c hmv hS' hacc => ?_
  rw [Moved.eq_with hmv]
  have hk : ∀ b o, b ≠ s1.heap.objs.size → s3.heap.get? b = some o → s'.heap.get? b = some o := fun b o hb e => hmv.heap b o (fun hmem => by
    rcases List.mem_cons.mp hmem with e' | hmem
    · exact absurd (Heap.lt_size e) (by rw [e']; exact Nat.lt_irrefl _)
    · exact hb (List.mem_singleton.mp hmem)) (Heap.get?_push_of_some _ e)
  have hfr : H1 s3.heap.objs.size = none := I1.hok.fresh (by rw [hsz3]; omega)
  have new : ObjOk X.prog X.w (upd H1 s3.heap.objs.size (.lst xs.reverse)) s'.heap s3.heap.objs.size (.lst xs.reverse) :=
    ⟨by rw [List.length_reverse]; exact hz, acc.toList, c, RT.vals_rev rv hacc, by rw [Array.toArray_toList]; exact hS'⟩
  refine ⟨.ref s3.heap.objs.size, upd H1 s3.heap.objs.size (.lst xs.reverse), ?_, rfl, q _ hfr⟩
  exact I2.turnedNew (t' := s'.toks) (ch := [s1.heap.objs.size]) (fun b o hb e => hk b o (fun z => hb (by simp [z])) e) (fun b hb => by
    rw [List.mem_singleton] at hb
    subst hb
    exact ⟨f0, f1, f2, f3, f4, f5⟩) (Nat.le_refl _) new
/-- d.update(o), two dicts -/
theorem mt_update : MtR X "dict.update" (fun x vs H Q => ∃ (d o : Addr) (kvs more : List (Key × V)), x = .ref d ∧ vs = [.ref o] ∧ d ≠ o ∧ H d = some (.dK kvs) ∧ H o = some (.dK more) ∧ kvs.length + more.length ≤ sizeLine ∧ Q .non (upd H d (.dK (mergeK kvs more)))) := by
  intro pins s σ H x vs v us Q I rx rv h
  obtain ⟨d, o, kvs, more, rfl, rfl, hne, h1, h2, hz, q⟩ := h
  cases rx
  obtain ⟨u, rfl, ru⟩ := rv.one
  cases ru
  obtain ⟨z1, hd1, ks, r1, d1⟩ := dk_of I.hok h1
  obtain ⟨z2, hd2, ms, r2, d2⟩ := dk_of I.hok h2
  have l1 := r1.length
  have l2 := r2.length
  refine call_meetsIn PySem.F.slot_dict_update d1.typeIs PySem.F.entry_dict_update (PySem.F.args_dict_update_2 _ _) (meets_dict_update (mixKind X.prog X.w) d o hne hd2) ⟨ks, ms, d1, d2, by omega, fun h' e1 e2 hs => ?_⟩
  have hl : (mergeK kvs more).length ≤ sizeLine := by
    have a := (r2.merge r1 : KV (mergeK kvs more) (merged ks ms)).length
    have b := merged_length_le ks ms
    omega
  have he : ∃ q, h'.get? d = some q := let ⟨q, _, _, hq, _⟩ := e1; ⟨q, hq⟩
  exact ⟨.non, _, d_write I (by rw [h1]; exact True.intro) hs he (dk_new hl hd1 (r2.merge r1) e1), rfl, q⟩
/-- a tuple once is that tuple -/
theorem tup_one (l : Addr) (items : Array Value) (n : Nat) (dd : Option Addr) (sl : Array (Option Value)) (u : Tok) :
    Meets (Builtin.«tuple.__mul__» ⟨[.ref l, .int 1 u], []⟩) (fun _ R s => s.heap.get? l = some { cls := .type "tuple", dict := dd, data := .seq items n, slots := sl } ∧ R (.ok (.ret (.ref l))) s) :=
  .of_wp fun prog w A R s h => by
    obtain ⟨hp, g, d, tk, os⟩ := s
    obtain ⟨hl, h⟩ := h
    have f1 := AutoSeq1.idx_int
    have hT : (⟨hp, g, d, tk, os⟩ : Shared).TypeIs (.ref l) "tuple" := ⟨_, hl, rfl⟩
    have c1 : (items.isEmpty || (1 : Int) == 1) = true := by simp
    wp_walk using AutoSeq1.wpAny_loadPart' hl, wpAny_typeOf hT
    exact ⟨_, rfl, h⟩
theorem op_rep1 : OpR X (binaryOp .Mult) (fun x y H Q => ∃ (l : Addr) (xs : List V), x = .ref l ∧ y = .int 1 ∧ SqT X.K H l xs ∧ Q (.ref l) H) := by
  intro pins s σ H x y v u Q I rx ry h
  obtain ⟨l, xs, rfl, rfl, hT, q⟩ := h
  cases rx
  obtain ⟨t, rfl⟩ := ry
  obtain ⟨its, r, ⟨⟨cls, dd, data, sl⟩, ho, hc, n, hd⟩, hs⟩ := I.tuple hT
  simp only at hc hd
  subst hc hd
  exact wpAny_binaryOp_repeat_ref (T := "tuple") (U := "int") (by decide) ⟨_, ho, rfl⟩ (fun s' => typeIs_int s' 1 t) noFill_tuple_mul F.fills_int_mul F.slot_int_rmul repeat_tuple F.slot_int_index.lookup
    (call_meets F.slot_int_rmul (typeIs_int s 1 t) F.entry_int_rmul (F.args_int_rmul_2 _ _) (int_rmul_tuple 1 t l its.toArray n dd sl)
      ⟨ho, rfl, ⟨_, ho, rfl⟩, call_meets F.slot_tuple_mul ⟨_, ho, rfl⟩ F.entry_tuple_mul (F.args_tuple_mul_2 _ _) (tup_one l its.toArray n dd sl t) ⟨ho, ⟨.ref l, H, I, rfl, q⟩⟩⟩)
end
end Mi

namespace Mi
open PySem L2 PySem.Spec PyProof.Rows

theorem div_ok {i j : Int} (h : 0 < j ∧ j < 18446744073709551616) : CDivW i j := by
  refine ⟨h.1, ?_⟩
  have h2 : j.natAbs < 2 ^ 64 := by have := h.1; have := h.2; omega
  have h3 : j.natAbs ≠ 0 := by have := h.1; omega
  have := (Nat.log2_lt h3).mpr h2
  omega
section
variable {X : Cx} {N : Nm} {pins : List (Addr × Obj)} {σ : L2.St} {H : Hp} {s : Shared}
theorem op_addR (hK : X.K = N.K) : OpR X (binaryOp .Add) (r2 N addD) := by
  have hcat := op_catA (X := X)
  rw [hK] at hcat
  intro pins s σ H x y v u Q I rx ry h
  obtain ⟨β, S, d, e, sm, vd, ve, w⟩ := h
  unfold addD at w
  split at w
  · cases vd; cases ve
    exact op_add pins s σ H _ _ v u Q I rx ry ⟨_, _, rfl, rfl, w.here sm (.int _)⟩
  · split at w
    · rename_i hl
      cases vd; cases ve
      exact op_add_str pins s σ H _ _ v u Q I rx ry ⟨_, _, rfl, rfl, by rw [← lim_eq]; exact hl, w.here sm (.str _)⟩
    · exact w.elim
  · split at w
    · rename_i xs ys hl
      cases vd with
      | tup a1 a2 =>
        cases ve with
        | tup b1 b2 =>
          refine hcat pins s σ H _ _ v u Q I rx ry ⟨_, _, _, _, rfl, rfl, a1, b1, by rw [← a2.length, ← b2.length, ← lim_eq]; exact hl, fun e => ?_, fun _ e => ?_, fun _ _ => w.tup sm (a2.append b2)⟩
          · subst e
            cases a2
            exact w.here sm (.tup b1 b2)
          · subst e
            cases b2
            rw [List.append_nil] at w
            exact w.here sm (.tup a1 a2)
    · exact w.elim
  · split at w
    · rename_i xs ys h1 h2
      split at w
      · rename_i hl
        cases vd with
        | ref b1 =>
          cases ve with
          | ref b2 =>
            obtain ⟨vs, e1, r1⟩ := sm.lst b1 h1
            obtain ⟨ws, e2, r2⟩ := sm.lst b2 h2
            exact op_cat pins s σ H _ _ v u Q I rx ry ⟨_, _, vs, ws, rfl, rfl, e1, e2, by rw [← r1.length, ← r2.length, ← lim_eq]; exact hl, w.newL sm (r1.append r2)⟩
      · exact w.elim
    · exact w.elim
  · exact w.elim
theorem op_fdivA : OpR X (binaryOp .FloorDiv) (rI (fun _ j => j ≠ 0 ∧ j.natAbs.log2 < 9000) fun i j => .int (i.fdiv j)) := opI fun i j _ _ _ _ _ hc q => floordiv_int hc.1 q (.inl (PyProof.noPylong_of_log2 hc.2))
theorem mul_okS {x : Str} {k : Int} (h : 0 ≤ k ∧ k ≤ 1000 ∧ x.length ≤ 1000) : MulOk x k := by
  obtain ⟨h0, h1, h2⟩ := h
  have hm : (x.length : Int) * k ≤ 1000 * 1000 := Int.mul_le_mul (by omega) h1 h0 (by decide)
  refine ⟨by simp; omega, fun hk _ => ?_, fun hk _ => ?_⟩
  · have : (x.length : Int) ≤ (2 ^ 63 - 1) / k := (Int.le_ediv_iff_mul_le (by omega)).mpr (by omega)
    omega
  · have hn : x.length * k.toNat ≤ 1000 * 1000 := Nat.mul_le_mul h2 (by omega)
    show decide (x.length * k.toNat > sizeLine) = false
    rw [sizeLine_eq]
    exact decide_eq_false (by omega)
theorem op_mulS : OpR X (binaryOp .Mult) (fun x y H Q => ∃ (a : Str) (k : Int), x = .str a ∧ y = .int k ∧ (0 ≤ k ∧ k ≤ 1000 ∧ a.length ≤ 1000) ∧ Q (.str (Txt.mul a k)) H) := by
  intro pins s σ H x y v u Q I rx ry h
  obtain ⟨a, k, rfl, rfl, hl, q⟩ := h
  obtain ⟨t, rfl⟩ := rx
  obtain ⟨t', rfl⟩ := ry
  exact SB.mul (mul_okS hl) fun t2 tk => ⟨.str (Txt.mul a k), H, I.tok _, ⟨_, rfl⟩, q⟩
theorem op_bin (hK : X.K = N.K) (op : Operator) : OpR X (binaryOp op) (r2 N (binD op)) := by
  intro pins s σ H x y v u Q I rx ry h
  obtain ⟨β, S, d, e, sm, vd, ve, w⟩ := h
  unfold binD at w
  split at w
  · exact op_addR hK pins s σ H x y v u Q I rx ry ⟨β, S, _, _, sm, vd, ve, w⟩
  · cases vd; cases ve
    exact op_sub pins s σ H _ _ v u Q I rx ry ⟨_, _, rfl, rfl, w.here sm (.int _)⟩
  · split at w
    · rename_i i j hl
      cases vd; cases ve
      cases hs : small64 i || small64 j with
      | true =>
        refine op_mul pins s σ H _ _ v u Q I rx ry ⟨_, _, rfl, rfl, ?_, w.here sm (.int _)⟩
        simpa [small64, CMul] using hs
      | false =>
        rw [hs, Bool.false_or] at hl
        exact op_mulW pins s σ H _ _ v u Q I rx ry ⟨_, _, rfl, rfl, (of_decide_eq_true hl : i.natAbs.log2 + j.natAbs.log2 < 1000000), w.here sm (.int _)⟩
    · exact w.elim
  · split at w
    · rename_i hx
      split at w
      · rename_i hl
        cases vd with
        | ref b1 =>
          cases ve
          obtain ⟨vs, e1, r1⟩ := sm.lst b1 hx
          refine op_rep pins s σ H _ _ v u Q I rx ry ⟨_, _, vs, rfl, rfl, e1, by omega, by omega, ?_, w.newL sm (r1.flat _)⟩
          rw [← r1.length, sizeLine_eq]
          exact Nat.le_trans (Nat.mul_le_mul hl.1 (by omega : Int.toNat _ ≤ 1000)) (by decide)
      · exact w.elim
    · exact w.elim
  · split at w
    · rename_i hl
      subst hl
      cases vd with
      | tup b1 b2 =>
        cases ve
        have q1 := op_rep1 (X := X)
        rw [hK] at q1
        exact q1 pins s σ H _ _ v u Q I rx ry ⟨_, _, rfl, rfl, b1, w.here sm (.tup b1 b2)⟩
    · split at w
      · rename_i hl
        cases vd with
        | tup b1 b2 =>
          cases ve
          have q1 := op_repT (X := X)
          rw [hK] at q1
          have l1 := b2.length
          refine q1 pins s σ H _ _ v u Q I rx ry ⟨_, _, _, rfl, rfl, b1, ?_, hl.2.1, hl.2.2.1, by omega, fun p hp => w.tup sm (b2.flat _) p hp⟩
          intro e
          rw [e, List.length_nil] at l1
          omega
      · exact w.elim
  · split at w
    · rename_i hl
      cases vd; cases ve
      exact op_mulS pins s σ H _ _ v u Q I rx ry ⟨_, _, rfl, rfl, hl, w.here sm (.str _)⟩
    · exact w.elim
  · split at w
    · rename_i hl
      cases vd; cases ve
      exact op_fdivW pins s σ H _ _ v u Q I rx ry ⟨_, _, rfl, rfl, div_ok hl, w.here sm (.int _)⟩
    · split at w
      · rename_i hl
        cases vd; cases ve
        exact op_fdivA pins s σ H _ _ v u Q I rx ry ⟨_, _, rfl, rfl, hl, w.here sm (.int _)⟩
      · exact w.elim
  · split at w
    · rename_i hl
      cases vd; cases ve
      exact op_mod pins s σ H _ _ v u Q I rx ry ⟨_, _, rfl, rfl, hl, w.here sm (.int _)⟩
    · split at w
      · rename_i hl
        cases vd; cases ve
        exact op_modN pins s σ H _ _ v u Q I rx ry ⟨_, _, rfl, rfl, hl, w.here sm (.int _)⟩
      · exact w.elim
  · split at w
    · rename_i hl
      cases vd; cases ve
      exact op_pow pins s σ H _ _ v u Q I rx ry ⟨_, _, rfl, rfl, hl, w.here sm (.int _)⟩
    · exact w.elim
  · exact w.elim
theorem un_un (op : UnaryOp) : UnR X (unaryOp op) (r1 N (unD op)) := by
  intro pins s σ H x v Q I rx h
  obtain ⟨β, S, d, sm, vd, w⟩ := h
  unfold unD at w
  split at w
  · cases vd
    exact un_neg pins s σ H _ v Q I rx ⟨_, rfl, w.here sm (.int _)⟩
  · exact w.elim

theorem Want.obl {β : Bt} {H : Hp} {S : Sto} {Q : VK} {o : Option Bool} (w : Want N (RD N) β H (Mi.obl o S) Q) (sm : Sim N β S H) : ∃ b, o = some b ∧ Q (.bl b) H := by
  cases o with
  | some b => exact ⟨b, rfl, w.here sm (.bl b)⟩
  | none => exact w.elim

theorem apart_at (I : Inv X pins σ H s) (hK : X.K = N.K) {A : Around} (hu : A.units < cLine) {β : Bt} {S : Sto} (sm : Sim N β S H) {d e : D} {x y : V} {v u : Value} (vd : VR N.K β H d x) (ve : VR N.K β H e y) (rx : RelV x v) (ry : RelV y u) (h : apart S d e = true) :
    SeqAt.EqAt A s v u false ∧ SeqAt.RcAt A s v u false ∧ SeqAt.RcNeAt A s v u true := by
  unfold apart at h
  split at h
  · rename_i h1 h2
    obtain ⟨a, rfl, rfl, da⟩ := isd_rel I sm vd h1 rx
    have o := oth_rel I hK sm ve h2 ry
    exact ⟨eq_do da o hu, rc_do da o hu, rn_do da o hu⟩
  · rename_i h1 h2
    obtain ⟨a, rfl, rfl, da⟩ := isd_rel I sm ve h2 ry
    have o := oth_rel I hK sm vd h1 rx
    exact ⟨eq_od da o hu, rc_od da o hu, rn_od da o hu⟩
  · cases h
/-- what two things' places say -/
def placeE (S : Sto) (x y : D) : Bool := if apart S x y = true then false else match toPy S 39 x, toPy S 39 y with
  | some p, some q => PyData.eqv p q
  | _, _ => false
theorem place_at (I : Inv X pins σ H s) (hK : X.K = N.K) {A : Around} (hu : A.units + 50 < cLine) {β : Bt} {S : Sto} (sm : Sim N β S H) {d e : D} {x y : V} {v u : Value} (vd : VR N.K β H d x) (ve : VR N.K β H e y) (rx : RelV x v) (ry : RelV y u) (h : eqJ S d e = true) :
    SeqAt.EqAt A s v u (placeE S d e) := by
  by_cases ha : apart S d e = true
  · unfold placeE
    rw [if_pos ha]
    exact (apart_at I hK (by omega) sm vd ve rx ry ha).1
  · unfold eqJ at h
    rw [Bool.not_eq_true] at ha
    rw [ha, Bool.false_or, Bool.and_eq_true] at h
    obtain ⟨p, e1⟩ := Option.isSome_iff_exists.mp h.1
    obtain ⟨q, e2⟩ := Option.isSome_iff_exists.mp h.2
    unfold placeE
    rw [if_neg (by rw [ha]; exact Bool.false_ne_true), e1, e2]
    obtain ⟨a1, a2, a3⟩ := toPy_dp sm 39 d x p e1 vd
    obtain ⟨b1, b2, b3⟩ := toPy_dp sm 39 e y q e2 ve
    rw [← hK] at a1 b1
    obtain ⟨as, r1⟩ := Dp.reads I p x v a1 rx
    obtain ⟨bs, r2⟩ := Dp.reads I q y u b1 ry
    refine SeqAt.eqAt_reads p q A s v u as bs r1 r2 a2 b2 ?_
    have := Nat.min_le_left p.depth q.depth
    omega
theorem unlike_rc (I : Inv X pins σ H s) (hK : X.K = N.K) {A : Around} (hu : A.units + 60 < cLine) {β : Bt} {S : Sto} (sm : Sim N β S H) {d e : D} {x y : V} {v u : Value} (vd : VR N.K β H d x) (ve : VR N.K β H e y) (rx : RelV x v) (ry : RelV y u) (h : unlike S d e = true) :
    SeqAt.RcAt A s v u false ∧ SeqAt.RcNeAt A s v u true := by
  by_cases ha : apart S d e = true
  · exact (apart_at I hK (by omega) sm vd ve rx ry ha).2
  · rw [Bool.not_eq_true] at ha
    unfold unlike at h
    rw [ha, Bool.false_or, Bool.or_eq_true] at h
    rcases h with h | h
    case inr =>
      split at h
      · rename_i xs ys h1 h2
        obtain ⟨a, vs, rfl, b1, c1⟩ := sm.seq vd h1
        obtain ⟨a2, ws, rfl, b2, c2⟩ := sm.seq ve h2
        cases rx
        cases ry
        rw [← hK] at b1 b2
        obtain ⟨its, rv, y1, _⟩ := I.list b1
        obtain ⟨its2, rv2, y2, _⟩ := I.list b2
        have l1 := c1.length
        have l2 := c2.length
        have l3 := rv.length
        have l4 := rv2.length
        have hne : (its.toArray.size != its2.toArray.size) = true := by
          have h : xs.length ≠ ys.length := by simpa using h
          simp
          omega
        exact ⟨SeqAt.RcAt.lists_lengths y1.isList y2.isList hne (by omega), SeqAt.RcNeAt.lists_lengths y1.isList y2.isList hne (by omega)⟩
      · cases h
    split at h
    · rename_i xs ys
      rw [Bool.and_eq_true, List.any_eq_true, List.all_eq_true] at h
      obtain ⟨⟨pr, hm, hap⟩, hall⟩ := h
      cases vd with
      | tup t1 q1 =>
        cases ve with
        | tup t2 q2 =>
          cases rx
          cases ry
          rw [← hK] at t1 t2
          obtain ⟨its, rv, y1, _⟩ := I.tuple t1
          obtain ⟨its2, rv2, y2, _⟩ := I.tuple t2
          have l1 := q1.length
          have l2 := q2.length
          have l3 := rv.length
          have l4 := rv2.length
          obtain ⟨j0, hj0, ej0⟩ := List.getElem_of_mem hm
          rw [List.length_zip] at hj0
          let ej : Nat → Bool := fun j => placeE S (xs[j]?.getD .non) (ys[j]?.getD .non)
          have each : ∀ j (h1 : j < its.toArray.size) (h2 : j < its2.toArray.size), SeqAt.EqAt A.in1 s its.toArray[j] its2.toArray[j] (ej j) := by
            intro j h1 h2
            have g1 : j < its.length := by simpa using h1
            have g2 : j < its2.length := by simpa using h2
            have g3 : j < xs.length := by omega
            have g4 : j < ys.length := by omega
            obtain ⟨v1, e1, r1⟩ := q1.get (List.getElem?_eq_getElem g3)
            obtain ⟨v2, e2, r2⟩ := q2.get (List.getElem?_eq_getElem g4)
            obtain ⟨u1, f1, s1⟩ := rv.get e1
            obtain ⟨u2, f2, s2⟩ := rv2.get e2
            have k1 : its.toArray[j] = u1 := by
              have : its[j] = u1 := Option.some.inj ((List.getElem?_eq_getElem g1).symm.trans f1)
              simpa using this
            have k2 : its2.toArray[j] = u2 := by
              have : its2[j] = u2 := Option.some.inj ((List.getElem?_eq_getElem g2).symm.trans f2)
              simpa using this
            have hz : (xs[j], ys[j]) ∈ xs.zip ys := by
              have : (xs.zip ys)[j]'(by rw [List.length_zip]; omega) = (xs[j], ys[j]) := by simp
              rw [← this]
              exact List.getElem_mem _
            have := place_at I hK (A := A.in1) (by show A.units + 1 + 50 < cLine; omega) sm r1 r2 s1 s2 (hall _ hz)
            rw [k1, k2]
            have ee : ej j = placeE S xs[j] ys[j] := by simp [ej, g3, g4]
            rw [ee]
            exact this
          have ef : ej j0 = false := by
            have g3 : j0 < xs.length := by omega
            have g4 : j0 < ys.length := by omega
            have ep : pr = (xs[j0], ys[j0]) := by rw [← ej0]; simp
            rw [ep] at hap
            have ee : ej j0 = placeE S xs[j0] ys[j0] := by simp [ej, g3, g4]
            rw [ee, placeE, if_pos hap]
          have fin : ((List.range (min its.toArray.size its2.toArray.size)).all ej && its.toArray.size == its2.toArray.size) = false := by
            have : (List.range (min its.toArray.size its2.toArray.size)).all ej = false := by
              rw [List.all_eq_false]
              exact ⟨j0, List.mem_range.mpr (by simp; omega), by rw [ef]; exact Bool.false_ne_true⟩
            rw [this, Bool.false_and]
          have c1 := SeqAt.RcAt.tuples (A := A) (e := ej) y1 y2 (by omega) each
          have c2 := SeqAt.RcNeAt.tuples (A := A) (e := ej) y1 y2 (by omega) each
          rw [fin] at c1 c2
          exact ⟨c1, c2⟩
    · cases h
theorem Dp_of {K : PySem.W.Frag} {β : Bt} {H : Hp} : True := trivial
theorem op_eqR (hK : X.K = N.K) (hu : X.A.units + 64 < cLine) (neg : Bool) : OpR X (compareOp (if neg then .NotEq else .Eq)) (r2 N fun d e S => Mi.obl (if neg then (eqD S d e).map (!·) else eqD S d e) S) := by
  have h1 := op_eqD (X := X) hu
  have h2 := op_neD (X := X) hu
  rw [hK] at h1 h2
  intro pins s σ H x y v u Q I rx ry h
  obtain ⟨β, S, d, e, sm, vd, ve, w⟩ := h
  obtain ⟨b, hb, q⟩ := Want.obl w sm
  by_cases hdat : ∃ p q', toPy S 40 d = some p ∧ toPy S 40 e = some q'
  · obtain ⟨p, q', e1, e2⟩ := hdat
    have e3 : eqD S d e = some (PyData.eqv p q') := by simp only [eqD, e1, e2]
    obtain ⟨a1, a2, a3⟩ := toPy_dp sm 40 d x p e1 vd
    obtain ⟨b1, b2, b3⟩ := toPy_dp sm 40 e y q' e2 ve
    cases neg with
    | false =>
      simp only [Bool.false_eq_true, if_false] at hb ⊢
      rw [e3] at hb; cases hb
      exact h1 pins s σ H x y v u Q I rx ry ⟨p, q', a1, b1, shaped_of a2 a3 (by decide), shaped_of b2 b3 (by decide), q⟩
    | true =>
      simp only [if_true] at hb ⊢
      rw [e3] at hb; cases hb
      exact h2 pins s σ H x y v u Q I rx ry ⟨p, q', a1, b1, shaped_of a2 a3 (by decide), shaped_of b2 b3 (by decide), q⟩
  · have e3 : eqD S d e = if unlike S d e = true then some false else none := by
      unfold eqD
      split
      · rename_i p q' z1 z2
        exact absurd ⟨p, q', z1, z2⟩ hdat
      · rfl
    by_cases hun : unlike S d e = true
    · rw [if_pos hun] at e3
      obtain ⟨r1, r2⟩ := unlike_rc I hK (A := X.A) (by omega) sm vd ve rx ry hun
      cases neg with
      | false =>
        simp only [Bool.false_eq_true, if_false] at hb ⊢
        rw [e3] at hb; cases hb
        exact r1 X.prog X.w X.xe (EP X pins σ Q) ⟨.bl _, H, I, rfl, q⟩
      | true =>
        simp only [if_true] at hb ⊢
        rw [e3] at hb; cases hb
        exact r2 X.prog X.w X.xe (EP X pins σ Q) ⟨.bl _, H, I, rfl, q⟩
    · rw [if_neg hun] at e3
      rw [e3] at hb
      cases neg <;> simp at hb

theorem getK_rel {κ : Type} [DecidableEq κ] {K : PySem.W.Frag} {β : Bt} {H : Hp} {kvs : List (κ × D)} {ks : List (κ × V)} (r : Paired (fun (p : κ × D) (q : κ × V) => p.1 = q.1 ∧ VR K β H p.2 q.2) kvs ks) (k : κ) :
    match getK kvs k with
    | some d => ∃ v, valV ks k = some v ∧ VR K β H d v
    | none => valV ks k = none := by
  induction r with
  | nil => simp [getK, valV]
  | @cons p q ps qs h t ih =>
    unfold getK valV at ih ⊢
    rw [List.find?_cons, List.find?_cons, ← h.1]
    by_cases e : p.1 = k
    · rw [decide_eq_true e]
      exact ⟨q.2, rfl, h.2⟩
    · rw [decide_eq_false e]
      exact ih
theorem any_rel {κ : Type} [DecidableEq κ] {K : PySem.W.Frag} {β : Bt} {H : Hp} {kvs : List (κ × D)} {ks : List (κ × V)} (r : Paired (fun (p : κ × D) (q : κ × V) => p.1 = q.1 ∧ VR K β H p.2 q.2) kvs ks) (k : κ) :
    (valV ks k).isSome = kvs.any fun kv => decide (kv.1 = k) := by
  induction r with
  | nil => simp [valV]
  | @cons p q ps qs h t ih =>
    unfold valV at ih ⊢
    rw [List.find?_cons, List.any_cons, ← h.1]
    by_cases e : p.1 = k
    · rw [decide_eq_true e]; simp
    · rw [decide_eq_false e, Bool.false_or]
      exact ih
theorem key_rel {K : PySem.W.Frag} {β : Bt} {H : Hp} {d : D} {v : V} {k : Key} (r : VR K β H d v) (h : d.key = some k) : v = kV k := by
  cases r with
  | int i => cases h; rfl
  | str x => cases h; rfl
  | _ => cases h
theorem keys_rel {K : PySem.W.Frag} {β : Bt} {H : Hp} : ∀ {ds : List D} {vs : List V} {ks : List Key}, VRs K β H ds vs → ds.mapM D.key = some ks → vs = ks.map kV
  | [], _, _, r, h => by
    cases r; simp at h; subst h; rfl
  | d :: ds, _, _, r, h => by
    cases r with
    | cons a b =>
      rw [List.mapM_cons] at h
      simp only [bind, Option.bind_eq_some_iff] at h
      obtain ⟨k, h1, ks, h2, h3⟩ := h
      cases h3
      rw [key_rel a h1, keys_rel b h2]
      rfl

/-- a tuple that is no module's -/
def TrackT (H : Hp) (v : V) : Prop := ∃ a xs, v = .ref a ∧ H a = some (.tup xs)

theorem anyEq_dp {β : Bt} {S : Sto} {H : Hp} (sm : Sim N β S H) {d : D} {v : V} {xs : List D} {vs : List V} {b : Bool} (vd : VR N.K β H d v) (r : VRs N.K β H xs vs) (h : anyEq S d xs = some b) :
    (∃ p ps, Dp N.K H v p ∧ DpAll N.K H vs ps ∧ p.canLay0 = true ∧ p.depth ≤ 40 ∧ PyData.canLayAll0 ps = true ∧ PyData.depthAll ps ≤ 39 ∧ b = ps.any fun z => PyData.eqv z p) ∨ (b = false ∧ ∀ y ∈ xs, apart S y d = true) := by
  unfold anyEq at h
  split at h
  · rename_i p ps e1 e2
    cases h
    obtain ⟨a1, a2, a3⟩ := toPy_dp sm 40 d v p e1 vd
    obtain ⟨b1, b2, b3⟩ := toPy_dps sm 39 xs vs ps e2 r
    exact .inl ⟨p, ps, a1, b1, a2, a3, b2, b3, rfl⟩
  · split at h
    · rename_i ha
      cases h
      exact .inr ⟨rfl, fun y hy => List.all_eq_true.mp ha y hy⟩
    · cases h
/-- nothing in it is like it -/
theorem none_alike (I : Inv X pins σ H s) (hK : X.K = N.K) {A : Around} (hu : A.units < cLine) {β : Bt} {S : Sto} (sm : Sim N β S H) {d : D} {v : V} {u : Value} {xs : List D} {vs : List V} {us : List Value} (vd : VR N.K β H d v) (rx : RelV v u) (r : VRs N.K β H xs vs) (rv : Vals vs us) (h : ∀ y ∈ xs, apart S y d = true) :
    ∀ y, y ∈ us.toArray → SeqAt.EqAt A s y u false := by
  intro y hy
  have hy : y ∈ us := by simpa using hy
  obtain ⟨j, hj, ej⟩ := List.getElem_of_mem hy
  have l1 := r.length
  have l2 := rv.length
  have g1 : j < xs.length := by omega
  obtain ⟨v1, e1, r1⟩ := r.get (List.getElem?_eq_getElem g1)
  obtain ⟨u1, f1, s1⟩ := rv.get e1
  have k1 : y = u1 := by rw [← ej]; exact Option.some.inj ((List.getElem?_eq_getElem hj).symm.trans f1)
  rw [k1]
  exact (apart_at I hK hu sm r1 vd s1 rx (h _ (List.getElem_mem g1))).1
theorem op_noneT (I : Inv X pins σ H s) (hK : X.K = N.K) (hu : X.A.units + 65 < cLine) {neg : Bool} {a : Addr} {β : Bt} {S : Sto} (sm : Sim N β S H) {d : D} {v : V} {vv uu : Value} {xs : List D} {vs : List V} {Q : VK} (vd : VR N.K β H d v) (rx : RelV v vv) (ry : RelV (.ref a) uu) (t : SqT N.K H a vs) (r : VRs N.K β H xs vs) (h : ∀ y ∈ xs, apart S y d = true)
    (q : Q (.bl neg) H) : wpAny (model X.prog X.w) X.A (compareOp (if neg then .NotIn else .In) vv uu) (EP X pins σ Q) X.xe s := by
  cases ry
  rw [← hK] at t
  obtain ⟨its, rv, y1, _⟩ := I.tuple t
  have hn := none_alike I hK (A := X.A.in1) (by show X.A.units + 1 < cLine; omega) sm vd rx r rv h
  have hf : its.toArray.any (fun _ => false) = false := by simp
  cases neg with
  | false =>
    refine SeqAt.in_tupleAt (fun _ => false) y1 hn ?_
    rw [hf]
    exact ⟨.bl _, H, I, rfl, q⟩
  | true =>
    refine SeqAt.notIn_tupleAt (fun _ => false) y1 hn ?_
    rw [hf]
    exact ⟨.bl _, H, I, rfl, q⟩
theorem op_noneL (I : Inv X pins σ H s) (hK : X.K = N.K) (hu : X.A.units + 65 < cLine) {neg : Bool} {a : Addr} {β : Bt} {S : Sto} (sm : Sim N β S H) {d : D} {v : V} {vv uu : Value} {xs : List D} {vs : List V} {Q : VK} (vd : VR N.K β H d v) (rx : RelV v vv) (ry : RelV (.ref a) uu) (t : SqL N.K H a vs) (r : VRs N.K β H xs vs) (h : ∀ y ∈ xs, apart S y d = true)
    (q : Q (.bl neg) H) : wpAny (model X.prog X.w) X.A (compareOp (if neg then .NotIn else .In) vv uu) (EP X pins σ Q) X.xe s := by
  cases ry
  rw [← hK] at t
  obtain ⟨its, rv, y1, _⟩ := I.list t
  have hn := none_alike I hK (A := X.A.in1) (by show X.A.units + 1 < cLine; omega) sm vd rx r rv h
  have hf : its.toArray.any (fun _ => false) = false := by simp
  cases neg with
  | false =>
    refine SeqAt.in_listAt (fun _ => false) y1.isList hn ?_
    rw [hf]
    exact ⟨.bl _, H, I, rfl, q⟩
  | true =>
    refine SeqAt.notIn_listAt (fun _ => false) y1.isList hn ?_
    rw [hf]
    exact ⟨.bl _, H, I, rfl, q⟩
theorem op_inT (hu : X.A.units + 65 < cLine) {neg : Bool} {p : PyData} {ps : List PyData} {a : Addr} {v : V} {vs : List V} {pins : List (Addr × Obj)} {s : Shared} {σ : List (Option V)} {H : Hp} {vv uu : Value} {Q : VK} (I : Inv X pins σ H s) (rx : RelV v vv) (ry : RelV (.ref a) uu)
    (hd : Dp X.K H v p) (hq : Dp X.K H (.ref a) (.tuple ps)) (h1 : p.canLay0 = true) (h2 : p.depth ≤ 40) (h3 : PyData.canLayAll0 ps = true) (h4 : PyData.depthAll ps ≤ 39) (q : Q (.bl (if neg then !(ps.any fun z => PyData.eqv z p) else ps.any fun z => PyData.eqv z p)) H) :
    wpAny (model X.prog X.w) X.A (compareOp (if neg then .NotIn else .In) vv uu) (EP X pins σ Q) X.xe s := by
  obtain ⟨as, r1⟩ := Dp.reads I p v vv hd rx
  obtain ⟨bs, r2⟩ := Dp.reads I (.tuple ps) _ uu hq ry
  have room : X.A.units + 1 + min (PyData.depthAll ps) p.depth < cLine := by
    have := Nat.min_le_right (PyData.depthAll ps) p.depth
    omega
  cases neg with
  | false =>
    simp only [Bool.false_eq_true, if_false] at q ⊢
    exact SeqAt.in_tuple_reads r2 r1 h3 h1 room ⟨.bl _, H, I, rfl, q⟩
  | true =>
    simp only [if_true] at q ⊢
    exact SeqAt.notIn_tuple_reads r2 r1 h3 h1 room ⟨.bl _, H, I, rfl, q⟩
/-! dicts with tuples for keys -/
theorem keyD_rel {K : PySem.W.Frag} {β : Bt} {H : Hp} : ∀ {k : List Key} {vs : List V}, VRs K β H (k.map keyD) vs → Paired isV k vs
  | [], _, r => by cases r; exact .nil
  | .inl i :: k, _, r => by
    cases r with
    | cons a b =>
      cases a
      exact .cons (show i = i from rfl) (keyD_rel b)
  | .inr x :: k, _, r => by
    cases r with
    | cons a b =>
      cases a
      exact .cons (show x = x from rfl) (keyD_rel b)
theorem keyB_rel {K : PySem.W.Frag} {β : Bt} {H : Hp} : ∀ {ds : List D} {vs : List V} {k : List Key}, VRs K β H ds vs → ds.mapM D.keyB = some k → Paired isV k vs
  | [], _, _, r, h => by
    cases r; simp at h; subst h; exact .nil
  | d :: ds, _, k, r, h => by
    cases r with
    | cons a b =>
      rw [List.mapM_cons] at h
      cases hd : D.keyB d with
      | none => rw [hd] at h; cases h
      | some q =>
        rw [hd] at h
        cases hs : ds.mapM D.keyB with
        | none => rw [hs] at h; cases h
        | some qs =>
          rw [hs] at h
          cases h
          refine .cons ?_ (keyB_rel b hs)
          cases d with
          | int i => cases hd; cases a; exact rfl
          | str x => cases hd; cases a; exact rfl
          | bl x => cases hd; cases a; exact rfl
          | non => cases hd
          | tup x => cases hd
          | rol x => cases hd
          | ref x => cases hd
theorem keyTB_rel {K : PySem.W.Frag} {β : Bt} {H : Hp} {d : D} {v : V} {k : List Key} (r : VR K β H d v) (h : d.keyTB = some k) : ∃ b vs, v = .ref b ∧ SqT K H b vs ∧ Paired isV k vs := by
  cases r with
  | tup a b => exact ⟨_, _, rfl, a, keyB_rel b h⟩
  | non => cases h
  | bl x => cases h
  | int x => cases h
  | str x => cases h
  | rol a b => cases h
  | ref a => cases h
abbrev KX (K : PySem.W.Frag) (β : Bt) (H : Hp) : List (List Key × D) → List (List Key × Addr × V) → Prop := Paired fun p q => p.1 = q.1 ∧ VR K β H (.tup (p.1.map keyD)) (.ref q.2.1) ∧ VR K β H p.2 q.2.2
theorem KX.keyed {K : PySem.W.Frag} {β : Bt} {H : Hp} {kvs : List (List Key × D)} {xs : List (List Key × Addr × V)} (r : KX K β H kvs xs) : Keyed K H xs := by
  induction r with
  | nil => exact fun q hq => nomatch hq
  | cons h t ih =>
    intro q hq
    rcases List.mem_cons.mp hq with rfl | hq
    · obtain ⟨h1, h2, _⟩ := h
      cases h2 with
      | tup a b => exact ⟨_, a, by rw [← h1]; exact keyD_rel b⟩
    · exact ih q hq
theorem KX.get {K : PySem.W.Frag} {β : Bt} {H : Hp} {kvs : List (List Key × D)} {xs : List (List Key × Addr × V)} (r : KX K β H kvs xs) (k : List Key) : match getK kvs k with
    | some d => ∃ v, valX xs k = some v ∧ VR K β H d v
    | none => valX xs k = none := by
  induction r with
  | nil => simp [getK, valX]
  | @cons p q ps qs h t ih =>
    unfold getK valX at ih ⊢
    rw [List.find?_cons, List.find?_cons, ← h.1]
    by_cases e : p.1 = k
    · rw [decide_eq_true e]
      exact ⟨q.2.2, rfl, h.2.2⟩
    · rw [decide_eq_false e]
      exact ih
theorem KX.any {K : PySem.W.Frag} {β : Bt} {H : Hp} {kvs : List (List Key × D)} {xs : List (List Key × Addr × V)} (r : KX K β H kvs xs) (k : List Key) : (valX xs k).isSome = kvs.any fun kv => decide (kv.1 = k) := by
  rw [← valX_any]
  induction r with
  | nil => rfl
  | cons h t ih => rw [List.any_cons, List.any_cons, ih, h.1]
theorem dT_at {X : Cx} (hK : X.K = N.K) (hW : HW X N) {β : Bt} {S : Sto} {H : Hp} (sm : Sim N β S H) {n : Nat} {a : Addr} {kvs : List (List Key × D)} (hb : β n = some a) (hx : S[n]? = some (.dT kvs)) :
    ∃ xs, H a = some (.ext (rawT X.prog X.w a xs)) ∧ Keyed X.K H xs ∧ KX N.K β H kvs xs := by
  obtain ⟨xs, e1, r1⟩ := sm.at hb hx
  rw [← hW.p, ← hW.w] at e1
  exact ⟨xs, e1, by rw [hK]; exact KX.keyed r1, r1⟩
theorem op_inL (hu : X.A.units + 65 < cLine) {neg : Bool} {p : PyData} {ps : List PyData} {a : Addr} {v : V} {vs : List V} {pins : List (Addr × Obj)} {s : Shared} {σ : List (Option V)} {H : Hp} {vv uu : Value} {Q : VK} (I : Inv X pins σ H s) (rx : RelV v vv) (ry : RelV (.ref a) uu)
    (hd : Dp X.K H v p) (hq : Dp X.K H (.ref a) (.list ps)) (h1 : p.canLay0 = true) (h2 : p.depth ≤ 40) (h3 : PyData.canLayAll0 ps = true) (h4 : PyData.depthAll ps ≤ 39) (q : Q (.bl (if neg then !(ps.any fun z => PyData.eqv z p) else ps.any fun z => PyData.eqv z p)) H) :
    wpAny (model X.prog X.w) X.A (compareOp (if neg then .NotIn else .In) vv uu) (EP X pins σ Q) X.xe s := by
  obtain ⟨as, r1⟩ := Dp.reads I p v vv hd rx
  obtain ⟨bs, r2⟩ := Dp.reads I (.list ps) _ uu hq ry
  have room : X.A.units + 1 + min (PyData.depthAll ps) p.depth < cLine := by
    have := Nat.min_le_right (PyData.depthAll ps) p.depth
    omega
  cases neg with
  | false =>
    simp only [Bool.false_eq_true, if_false] at q ⊢
    exact SeqAt.in_list_reads r2 r1 h3 h1 room ⟨.bl _, H, I, rfl, q⟩
  | true =>
    simp only [if_true] at q ⊢
    exact SeqAt.notIn_list_reads r2 r1 h3 h1 room ⟨.bl _, H, I, rfl, q⟩
theorem op_inR (hK : X.K = N.K) (hW : HW X N) (hu : X.A.units + 65 < cLine) (neg : Bool) : OpR X (compareOp (if neg then .NotIn else .In)) (r2 N fun d e S => Mi.obl (if neg then (inD S d e).map (!·) else inD S d e) S) := by
  intro pins s σ H x y v u Q I rx ry h
  obtain ⟨β, S, d, e, sm, vd, ve, w⟩ := h
  obtain ⟨b, hb, q⟩ := Want.obl w sm
  have key : ∃ b0, inD S d e = some b0 ∧ b = if neg then !b0 else b0 := by
    cases neg with
    | false => exact ⟨b, by simpa using hb, rfl⟩
    | true =>
      simp only [if_true, Option.map_eq_some_iff] at hb
      obtain ⟨b0, e1, e2⟩ := hb
      exact ⟨b0, e1, by simp [← e2]⟩
  obtain ⟨b0, hi, e0⟩ := key
  subst e0
  clear w hb
  unfold inD at hi
  split at hi
  · rename_i xs
    cases ve with
    | tup t1 t2 =>
      rcases anyEq_dp sm vd t2 hi with ⟨p, ps, a1, a2, a3, a4, a5, a6, a7⟩ | ⟨rfl, ha⟩
      · subst a7
        exact op_inT hu I rx ry (by rw [hK]; exact a1) (by rw [hK]; exact .tup t1 a2) a3 a4 a5 a6 q (vs := [])
      · exact op_noneT I hK hu sm vd rx ry t1 t2 ha (by cases neg <;> exact q)
  · rename_i xs
    cases ve with
    | rol t1 t2 =>
      rcases anyEq_dp sm vd t2 hi with ⟨p, ps, a1, a2, a3, a4, a5, a6, a7⟩ | ⟨rfl, ha⟩
      · subst a7
        exact op_inL hu I rx ry (by rw [hK]; exact a1) (by rw [hK]; exact .lst t1.sq a2) a3 a4 a5 a6 q (vs := [])
      · exact op_noneL I hK hu sm vd rx ry t1.sq t2 ha (by cases neg <;> exact q)
  · rename_i n
    cases ve with
    | ref hb =>
      split at hi
      · rename_i xs hx
        obtain ⟨vs, e1, r1⟩ := sm.at hb hx
        rcases anyEq_dp sm vd r1 hi with ⟨p, ps, a1, a2, a3, a4, a5, a6, a7⟩ | ⟨rfl, ha⟩
        · subst a7
          exact op_inL hu I rx ry (by rw [hK]; exact a1) (by rw [hK]; exact .lst (SqL.of e1) a2) a3 a4 a5 a6 q (vs := [])
        · exact op_noneL I hK hu sm vd rx ry (SqL.of e1) r1 ha (by cases neg <;> exact q)
      · rename_i kvs hx
        split at hi
        · rename_i k hk
          cases hi
          obtain ⟨ks, e1, r1⟩ := sm.at hb hx
          have ek := key_rel vd hk
          subst ek
          cases (show u = Value.ref _ from ry)
          rw [← any_rel r1] at q
          cases neg with
          | false =>
            simp only [Bool.false_eq_true, if_false] at q ⊢
            exact d_in (by omega) I (DGet.k e1) rx fun s' I' => ⟨.bl _, H, I', rfl, q⟩
          | true =>
            simp only [if_true] at q ⊢
            exact d_notIn (by omega) I (DGet.k e1) rx fun s' I' => ⟨.bl _, H, I', rfl, q⟩
        · cases hi
      · rename_i kvs hx
        split at hi
        · rename_i k hk
          cases hi
          obtain ⟨xs, e1, hkd, r1⟩ := dT_at hK hW sm hb hx
          obtain ⟨b, vs, rfl, h1, h2⟩ := keyTB_rel vd hk
          cases (show u = Value.ref _ from ry)
          cases (show v = Value.ref _ from rx)
          rw [← r1.any] at q
          rw [← hK] at h1
          cases neg with
          | false =>
            simp only [Bool.false_eq_true, if_false] at q ⊢
            exact t_in (by omega) I e1 hkd h1 h2 fun s' I' => ⟨.bl _, H, I', rfl, q⟩
          | true =>
            simp only [if_true] at q ⊢
            exact t_notIn (by omega) I e1 hkd h1 h2 fun s' I' => ⟨.bl _, H, I', rfl, q⟩
        · cases hi
      · cases hi
  · rename_i y'
    split at hi
    · rename_i x'
      split at hi
      · rename_i c hc
        cases hi
        have ex : x' = ⟨#[c]⟩ := by
          obtain ⟨cps⟩ := x'
          congr 1
          exact Array.toList_inj.mp (by simpa using hc)
        subst ex
        cases vd; cases ve
        cases neg with
        | false =>
          simp only [Bool.false_eq_true, if_false] at q ⊢
          exact op_in_sign pins s σ H _ _ v u Q I rx ry ⟨_, _, rfl, rfl, q⟩
        | true =>
          simp only [if_true] at q ⊢
          exact op_notIn_sign pins s σ H _ _ v u Q I rx ry ⟨_, _, rfl, rfl, q⟩
      · cases hi
    · cases hi
  · cases hi
end
theorem putK_rel {κ : Type} [DecidableEq κ] {K : PySem.W.Frag} {β : Bt} {H : Hp} {k : κ} {x : D} {v : V} (rx : VR K β H x v) {kvs : List (κ × D)} {ks : List (κ × V)} (r : Paired (fun (p : κ × D) (q : κ × V) => p.1 = q.1 ∧ VR K β H p.2 q.2) kvs ks) :
    Paired (fun (p : κ × D) (q : κ × V) => p.1 = q.1 ∧ VR K β H p.2 q.2) (putKD kvs k x) (putK ks k v) := by
  have ea : (kvs.any fun kv => decide (kv.1 = k)) = (ks.any fun kv => decide (kv.1 = k)) := by
    induction r with
    | nil => rfl
    | @cons p q ps qs h t ih => rw [List.any_cons, List.any_cons, h.1, ih]
  unfold putKD putK
  rw [ea]
  split
  · clear ea
    induction r with
    | nil => exact .nil
    | @cons p q ps qs h t ih =>
      rename_i hany
      rw [List.map_cons, List.map_cons]
      refine .cons ?_ ?_
      · rw [h.1]
        split
        · exact ⟨rfl, rx⟩
        · exact h
      · have key : ∀ {ps : List (κ × D)} {qs : List (κ × V)}, Paired (fun (p : κ × D) (q : κ × V) => p.1 = q.1 ∧ VR K β H p.2 q.2) ps qs → Paired (fun (p : κ × D) (q : κ × V) => p.1 = q.1 ∧ VR K β H p.2 q.2) (ps.map fun kv => if kv.1 = k then (kv.1, x) else kv) (qs.map fun kv => if kv.1 = k then (kv.1, v) else kv) := by
          intro ps qs t
          induction t with
          | nil => exact .nil
          | @cons p q ps qs h t ih =>
            rw [List.map_cons, List.map_cons]
            refine .cons ?_ ih
            rw [h.1]
            split
            · exact ⟨rfl, rx⟩
            · exact h
        exact key t
  · clear ea
    induction r with
    | nil => exact .cons ⟨rfl, rx⟩ .nil
    | @cons p q ps qs h t ih =>
      rename_i hany
      rw [List.cons_append, List.cons_append]
      refine .cons h ?_
      have key : ∀ {ps : List (κ × D)} {qs : List (κ × V)}, Paired (fun (p : κ × D) (q : κ × V) => p.1 = q.1 ∧ VR K β H p.2 q.2) ps qs → Paired (fun (p : κ × D) (q : κ × V) => p.1 = q.1 ∧ VR K β H p.2 q.2) (ps ++ [(k, x)]) (qs ++ [(k, v)]) := by
        intro ps qs t
        induction t with
        | nil => exact .cons ⟨rfl, rx⟩ .nil
        | cons h t ih => exact .cons h ih
      exact key t
abbrev PVR (N : Nm) (β : Bt) (H : Hp) : List (Key × D) → List (Key × V) → Prop := Paired (fun (p : Key × D) (q : Key × V) => p.1 = q.1 ∧ VR N.K β H p.2 q.2)
theorem merge_rel {N : Nm} {β : Bt} {H : Hp} {more : List (Key × D)} {ks : List (Key × V)} (h : PVR N β H more ks) : ∀ {kvs : List (Key × D)} {ls : List (Key × V)}, PVR N β H kvs ls → PVR N β H (mergeD kvs more) (mergeK ls ks) := by
  induction h with
  | nil => intro kvs ls r; exact r
  | @cons p q ps qs h t ih =>
    intro kvs ls r
    refine ih (kvs := putKD kvs p.1 p.2) (ls := putK ls q.1 q.2) ?_
    rw [← h.1]
    exact putK_rel h.2 r
end Mi

namespace Mi
open PySem L2 PySem.Spec PyProof.Rows

section
variable {X : Cx} {N : Nm}
theorem isNon_rel {K : PySem.W.Frag} {β : Bt} {H : Hp} {d : D} {v : V} (r : VR K β H d v) : decide (v = .non) = d.isNon := by
  cases r <;> simp [D.isNon]
theorem op_cmpR (hK : X.K = N.K) (hW : HW X N) (hu : X.A.units + 65 < cLine) (op : CmpOp) : OpR X (compareOp op) (r2 N fun d e S => Mi.obl (cmpD op d e S) S) := by
  cases op with
  | Eq => exact op_eqR hK (by omega) false
  | NotEq => exact op_eqR hK (by omega) true
  | In => exact op_inR hK hW hu false
  | NotIn => exact op_inR hK hW hu true
  | Is =>
    intro pins s σ H x y v u Q I rx ry h
    obtain ⟨β, S, d, e, sm, vd, ve, w⟩ := h
    obtain ⟨b, hb, q⟩ := Want.obl w sm
    have hb : isD d e = some b := hb
    unfold isD at hb
    split at hb
    · cases hb
      cases ve
      exact op_isN pins s σ H _ _ v u Q I rx ry ⟨rfl, by rw [isNon_rel vd]; exact q⟩
    · split at hb
      · cases hb
        cases vd
        cases ve
        exact op_is_bl pins s σ H _ _ v u Q I rx ry ⟨_, _, rfl, rfl, q⟩
      · cases hb
    · cases hb
  | IsNot =>
    intro pins s σ H x y v u Q I rx ry h
    obtain ⟨β, S, d, e, sm, vd, ve, w⟩ := h
    obtain ⟨b, hb, q⟩ := Want.obl w sm
    have hb : (isD d e).map (!·) = some b := hb
    obtain ⟨b', hb2, hb3⟩ := Option.map_eq_some_iff.mp hb
    subst hb3
    clear hb
    unfold isD at hb2
    split at hb2
    · cases hb2
      cases ve
      exact op_notN pins s σ H _ _ v u Q I rx ry ⟨rfl, by rw [isNon_rel vd]; exact q⟩
    · split at hb2
      · cases hb2
        cases vd
        cases ve
        exact op_isnot_bl pins s σ H _ _ v u Q I rx ry ⟨_, _, rfl, rfl, q⟩
      · cases hb2
    · cases hb2
  | Lt =>
    intro pins s σ H x y v u Q I rx ry h
    obtain ⟨β, S, d, e, sm, vd, ve, w⟩ := h
    obtain ⟨b, hb, q⟩ := Want.obl w sm
    unfold cmpD at hb
    simp only at hb
    split at hb
    · cases hb; cases vd; cases ve
      exact op_lt pins s σ H _ _ v u Q I rx ry ⟨_, _, rfl, rfl, q⟩
    · cases hb; cases vd; cases ve
      exact op_lt_str pins s σ H _ _ v u Q I rx ry ⟨_, _, rfl, rfl, q⟩
    · cases hb
  | LtE =>
    intro pins s σ H x y v u Q I rx ry h
    obtain ⟨β, S, d, e, sm, vd, ve, w⟩ := h
    obtain ⟨b, hb, q⟩ := Want.obl w sm
    unfold cmpD at hb
    simp only at hb
    split at hb
    · cases hb; cases vd; cases ve
      exact op_le pins s σ H _ _ v u Q I rx ry ⟨_, _, rfl, rfl, q⟩
    · cases hb; cases vd; cases ve
      exact op_le_str pins s σ H _ _ v u Q I rx ry ⟨_, _, rfl, rfl, q⟩
    · cases hb
  | Gt =>
    intro pins s σ H x y v u Q I rx ry h
    obtain ⟨β, S, d, e, sm, vd, ve, w⟩ := h
    obtain ⟨b, hb, q⟩ := Want.obl w sm
    unfold cmpD at hb
    simp only at hb
    split at hb
    · cases hb; cases vd; cases ve
      exact op_gt pins s σ H _ _ v u Q I rx ry ⟨_, _, rfl, rfl, q⟩
    · cases hb
  | GtE =>
    intro pins s σ H x y v u Q I rx ry h
    obtain ⟨β, S, d, e, sm, vd, ve, w⟩ := h
    obtain ⟨b, hb, q⟩ := Want.obl w sm
    unfold cmpD at hb
    simp only at hb
    split at hb
    · cases hb; cases vd; cases ve
      exact op_ge pins s σ H _ _ v u Q I rx ry ⟨_, _, rfl, rfl, q⟩
    · cases hb

/-- truth -/
theorem tru_rel {β : Bt} {S : Sto} {H : Hp} (sm : Sim N β S H) {d : D} {v : V} {b : Bool} (r : VR N.K β H d v) (h : truthD S d = some b) : TruV N.K v H b := by
  unfold truthD at h
  split at h
  · cases h; cases r; rfl
  · cases h; cases r; rfl
  · cases h; cases r; rfl
  · split at h
    · rename_i hl
      cases h; cases r
      exact ⟨by rw [← lim_eq]; exact hl, rfl⟩
    · cases h
  · cases h
    cases r with
    | tup a c => exact .inr (.inl ⟨_, a, c.isEmpty⟩)
  · cases h
    cases r with
    | rol a c => exact .inl ⟨_, a.sq, c.isEmpty⟩
  · split at h
    · rename_i hx
      cases h
      cases r with
      | ref hb =>
        obtain ⟨vs, e, r1⟩ := sm.at hb hx
        exact .inl ⟨vs, SqL.of e, r1.isEmpty⟩
    · rename_i hx
      cases h
      cases r with
      | ref hb =>
        obtain ⟨ks, e, r1⟩ := sm.at hb hx
        refine .inr (.inr ⟨ks, e, ?_⟩)
        cases r1 <;> rfl
    · cases h

theorem oD_some {β : Bt} {H : Hp} {S : Sto} {Q : VK} {o : Option D} (w : Want N (RD N) β H (oD o S) Q) : ∃ d, o = some d ∧ Want N (RD N) β H (.ok d S) Q := by
  cases o with
  | some d => exact ⟨d, rfl, w⟩
  | none => exact w.elim
theorem ix_all (hK : X.K = N.K) (hW : HW X N) (hu : X.A.units + 1 < cLine) : IxR X (r2 N idxD) := by
  have hl := ix_list (X := X)
  have ht := ix_tup (X := X)
  rw [hK] at hl ht
  intro value slice pins s σ H x y v u Q I rx ry h hs
  obtain ⟨β, S, d, e, sm, vd, ve, w⟩ := h
  unfold idxD at w
  split at w
  · split at w
    · obtain ⟨z, hz, w⟩ := oD_some w
      cases ve
      cases vd with
      | tup a b =>
        obtain ⟨zv, e1, r1⟩ := b.atI hz
        exact ht value slice pins s σ H _ _ v u Q I rx ry ⟨_, _, _, zv, rfl, rfl, a, e1, w.here sm r1⟩ hs
    · exact w.elim
  · split at w
    · obtain ⟨z, hz, w⟩ := oD_some w
      cases ve
      cases vd with
      | rol a b =>
        obtain ⟨zv, e1, r1⟩ := b.atI hz
        exact hl value slice pins s σ H _ _ v u Q I rx ry ⟨_, _, _, zv, rfl, rfl, a.sq, e1, w.here sm r1⟩ hs
    · exact w.elim
  · split at w
    · split at w
      · rename_i hz
        split at w
        · rename_i c hc
          cases ve; cases vd
          exact ix_str value slice pins s σ H _ _ v u Q I rx ry ⟨_, _, c, rfl, rfl, by rw [← lim_eq]; exact hz, hc, w.here sm (.str _)⟩ hs
        · exact w.elim
      · exact w.elim
    · exact w.elim
  · rename_i n
    cases vd with
    | ref hb =>
      split at w
      · rename_i hx
        obtain ⟨vs, e1, r1⟩ := sm.at hb hx
        split at w
        · obtain ⟨z, hz, w⟩ := oD_some w
          cases ve
          obtain ⟨zv, e2, r2⟩ := r1.atI hz
          exact hl value slice pins s σ H _ _ v u Q I rx ry ⟨_, _, _, zv, rfl, rfl, SqL.of e1, e2, w.here sm r2⟩ hs
        · exact w.elim
      · rename_i hx
        obtain ⟨ks, e1, r1⟩ := sm.at hb hx
        split at w
        · rename_i k hk
          obtain ⟨z, hz, w⟩ := oD_some w
          have ek := key_rel ve hk
          subst ek
          have g := getK_rel r1 k
          rw [hz] at g
          obtain ⟨zv, e2, r2⟩ := g
          obtain rfl : v = Value.ref _ := rx
          have G := DGet.k (k := k) e1
          rw [e2] at G
          exact tail_any (dict_typeIs I G) PySem.F.slot_dict_getitem.lookup (d_getItem hu I G ry fun w' s3 I3 rw' => ⟨zv, H, I3, rw', w.here sm r2⟩) hs
        · exact w.elim
      · rename_i kvs hx
        split at w
        · rename_i k hk
          obtain ⟨z, hz, w⟩ := oD_some w
          obtain ⟨xs, e1, hkd, r1⟩ := dT_at hK hW sm hb hx
          obtain ⟨b, vs, rfl, h1, h2⟩ := keyTB_rel ve hk
          obtain rfl : v = Value.ref _ := rx
          obtain rfl : u = Value.ref _ := ry
          have g := r1.get k
          rw [hz] at g
          obtain ⟨zv, e2, r2⟩ := g
          rw [← hK] at h1
          exact tail_any (t_typeIs I e1) PySem.F.slot_dict_getitem.lookup (t_getItem hu I e1 hkd h1 h2 e2 fun w' s3 I3 rw' => ⟨zv, H, I3, rw', w.here sm r2⟩) hs
        · exact w.elim
      · exact w.elim
  · exact w.elim

def r3 (N : Nm) (f : D → Option Int → Option Int → Sto → Out D) : V → Option Int → Option Int → Hp → VK → Prop := fun x lo hi H Q => ∃ β S d, Sim N β S H ∧ VR N.K β H d x ∧ Want N (RD N) β H (f d lo hi S) Q
theorem sl_all (hK : X.K = N.K) : SlR X (r3 N slcD) := by
  have hl := sl_list (X := X)
  have ht := sl_tupA (X := X)
  rw [hK] at hl ht
  intro pins s σ H x v vl vu lo hi sl Q I rx hs pl pu h
  obtain ⟨β, S, d, sm, vd, w⟩ := h
  unfold slcD at w
  split at w
  · cases vd with
    | tup a b =>
      refine ht pins s σ H _ v vl vu lo hi sl Q I rx hs pl pu ⟨_, _, rfl, a, fun hw => ?_, fun hw => w.tup sm (b.cut lo hi)⟩
      refine w.here sm (.tup a ?_)
      have e : ∀ {xs : List D}, VRs N.K β H xs _ → cutD xs lo hi = xs := fun {xs} r => by
        unfold cutD
        rw [r.length, hw.1, hw.2, Nat.sub_zero, List.drop_zero, ← r.length, List.take_length]
      rw [e b]
      exact b
  · split at w
    · rename_i hz
      cases vd
      exact sl_str pins s σ H _ v vl vu lo hi sl Q I rx hs pl pu ⟨_, rfl, by rw [← lim_eq]; exact hz, w.here sm (.str _)⟩
    · exact w.elim
  · split at w
    · rename_i xs hx
      obtain ⟨a, vs, rfl, h1, h2⟩ := sm.seq vd hx
      exact hl pins s σ H _ v vl vu lo hi sl Q I rx hs pl pu ⟨a, vs, rfl, h1, w.newL sm (h2.cut lo hi)⟩
    · exact w.elim
end
end Mi

namespace Mi
open PySem L2 PySem.Spec PyProof.Rows

section
variable {X : Cx} {N : Nm}
theorem lenV_rel {β : Bt} {S : Sto} {H : Hp} (sm : Sim N β S H) {d : D} {v : V} {n : Nat} (r : VR N.K β H d v) (h : lenD S d = some n) : LenV N.K v H n := by
  unfold lenD at h
  split at h
  · split at h
    · rename_i hl
      cases h; cases r
      exact ⟨by rw [← lim_eq]; exact hl, rfl⟩
    · cases h
  · cases h
    cases r with
    | tup a c => exact .inr ⟨_, a, c.length⟩
  · cases h
    cases r with
    | rol a c => exact .inl ⟨_, a.sq, c.length⟩
  · split at h
    · rename_i hx
      cases h
      cases r with
      | ref hb =>
        obtain ⟨vs, e, r1⟩ := sm.at hb hx
        exact .inl ⟨vs, SqL.of e, r1.length⟩
    · cases h
  · cases h
theorem bls_rel {K : PySem.W.Frag} {β : Bt} {H : Hp} : ∀ {ds : List D} {vs : List V} {bs : List Bool}, VRs K β H ds vs → ds.mapM blOf = some bs → vs = bs.map V.bl
  | [], _, _, r, h => by
    cases r; simp at h; subst h; rfl
  | d :: ds, _, _, r, h => by
    cases r with
    | cons a b =>
      rw [List.mapM_cons] at h
      simp only [bind, Option.bind_eq_some_iff] at h
      obtain ⟨k, h1, ks, h2, h3⟩ := h
      cases h3
      rw [bls_rel b h2]
      cases a <;> simp [blOf] at h1
      subst h1
      rfl
theorem ints_rel {K : PySem.W.Frag} {β : Bt} {H : Hp} : ∀ {ds : List D} {vs : List V} {bs : List Int}, VRs K β H ds vs → ds.mapM intOf = some bs → vs = bs.map V.int
  | [], _, _, r, h => by
    cases r; simp at h; subst h; rfl
  | d :: ds, _, _, r, h => by
    cases r with
    | cons a b =>
      rw [List.mapM_cons] at h
      simp only [bind, Option.bind_eq_some_iff] at h
      obtain ⟨k, h1, ks, h2, h3⟩ := h
      cases h3
      rw [ints_rel b h2]
      cases a <;> simp [intOf] at h1
      subst h1
      rfl
def BI.val : BI → Value
  | .len => .builtin "len"
  | .min2 => .builtin "min"
  | .max2 => .builtin "max"
  | .abs => .builtin "abs"
  | .int1 => .type "int"
  | .lst1 => .type "list"
  | .dictT => .type "dict"
  | .tup1 => .type "tuple"
  | .all1 => .builtin "all"
  | .any1 => .builtin "any"
  | .sum1 => .builtin "sum"
theorem key_strict : ∀ {ds : List D} {k : List Key}, ds.mapM D.key = some k → ds = k.map keyD
  | [], _, h => by simp at h; subst h; rfl
  | d :: ds, k, h => by
    rw [List.mapM_cons] at h
    cases hd : D.key d with
    | none => rw [hd] at h; cases h
    | some q =>
      rw [hd] at h
      cases hs : ds.mapM D.key with
      | none => rw [hs] at h; cases h
      | some qs =>
        rw [hs] at h
        cases h
        rw [List.map_cons, ← key_strict hs]
        cases d with
        | int i => cases hd; rfl
        | str x => cases hd; rfl
        | bl x => cases hd
        | non => cases hd
        | tup x => cases hd
        | rol x => cases hd
        | ref x => cases hd
theorem keyT_strict {d : D} {k : List Key} (h : d.keyT = some k) : d = .tup (k.map keyD) := by
  cases d with
  | tup xs => exact congrArg D.tup (key_strict h)
  | _ => cases h
theorem keyT_rel {K : PySem.W.Frag} {β : Bt} {H : Hp} {d : D} {v : V} {k : List Key} (r : VR K β H d v) (h : d.keyT = some k) : ∃ b, v = .ref b ∧ VR K β H (.tup (k.map keyD)) (.ref b) := by
  obtain rfl := keyT_strict h
  cases r with
  | tup a b => exact ⟨_, rfl, .tup a b⟩
/-- a list of pairs -/
theorem pairsT_rel {K : PySem.W.Frag} {β : Bt} {H : Hp} : ∀ {xs : List D} {vs : List V} {kvs : List (List Key × D)}, VRs K β H xs vs → pairsT xs = some kvs → ∃ ps kx, vs = ps.map V.ref ∧ Paired (fun (p : Addr) (q : List Key × Addr × V) => SqT K H p [.ref q.2.1, q.2.2]) ps kx ∧ KX K β H kvs kx
  | [], _, _, r, h => by
    cases r; cases h
    exact ⟨[], [], rfl, .nil, .nil⟩
  | x :: xs, _, kvs, r, h => by
    cases r with
    | cons a b =>
      unfold pairsT at h
      rw [List.mapM_cons] at h
      cases hd : pairT x with
      | none => rw [hd] at h; cases h
      | some q =>
        rw [hd] at h
        cases hs : xs.mapM pairT with
        | none => rw [hs] at h; cases h
        | some qs =>
          rw [hs] at h
          cases h
          obtain ⟨ps, kx, rfl, e2, e3⟩ := pairsT_rel b hs
          unfold pairT at hd
          split at hd
          · rename_i k v
            obtain ⟨kk, h1, h2⟩ := Option.map_eq_some_iff.mp hd
            subst h2
            cases a with
            | tup t1 t2 =>
              cases t2 with
              | cons r1 t2 =>
                cases t2 with
                | cons r2 t2 =>
                  cases t2
                  obtain ⟨c, rfl, r9⟩ := keyT_rel r1 h1
                  exact ⟨_ :: ps, (kk, c, _) :: kx, rfl, .cons t1 e2, .cons ⟨rfl, r9, r2⟩ e3⟩
          · cases hd
theorem KX.put {K : PySem.W.Frag} {β : Bt} {H : Hp} {kvs : List (List Key × D)} {xs : List (List Key × Addr × V)} (r : KX K β H kvs xs) {k : List Key} {b : Addr} {d : D} {v : V} (rk : VR K β H (.tup (k.map keyD)) (.ref b)) (rv : VR K β H d v) : KX K β H (putKD kvs k d) (putX xs k b v) := by
  unfold putKD putX
  rw [valX_any, r.any]
  split
  · rename_i q
    clear q
    induction r with
    | nil => exact .nil
    | @cons p q ps qs h t ih =>
      rw [List.map_cons, List.map_cons]
      refine .cons ?_ ih
      by_cases e : p.1 = k
      · rw [if_pos e, if_pos (h.1.symm.trans e)]; exact ⟨h.1, h.2.1, rv⟩
      · rw [if_neg e, if_neg (fun z => e (h.1.trans z))]; exact h
  · exact Paired.snoc r ⟨rfl, rk, rv⟩
theorem mergeT_rel {K : PySem.W.Frag} {β : Bt} {H : Hp} {more : List (List Key × D)} {ms : List (List Key × Addr × V)} (r : KX K β H more ms) : ∀ {kvs : List (List Key × D)} {xs : List (List Key × Addr × V)}, KX K β H kvs xs → KX K β H (mergeTD kvs more) (mergeX xs ms) := by
  induction r with
  | nil => exact fun r => r
  | @cons p q ps qs h t ih =>
    intro kvs xs r0
    obtain ⟨h1, h2, h3⟩ := h
    have e := r0.put h2 h3
    have e' : KX K β H (putKD kvs p.1 p.2) (putX xs q.1 q.2.1 q.2.2) := by rw [← h1]; exact e
    exact ih e'
theorem bi_ok (hK : X.K = N.K) (hW : HW X N) (hu : X.A.units + 65 < cLine) (hc : X.calm = true) (f : BI) : CallR X f.val (rs N (biD f)) := by
  have hlen := call_len (X := X)
  have hl := call_list_of (X := X)
  have ht := call_tuple_of (X := X)
  have ha := cr_all (X := X) hc
  have hy := cr_any (X := X) hc
  have hsum := cr_sum (X := X) hc
  rw [hK] at hlen hl ht ha hy hsum
  intro pins s σ H xs us Q I rx h
  obtain ⟨β, S, ds, sm, vd, w⟩ := h
  unfold biD at w
  split at w
  · split at w
    · rename_i d n hn
      cases vd with
      | cons a b =>
        cases b
        exact hlen pins s σ H _ us Q I rx ⟨_, n, rfl, lenV_rel sm a hn, w.here sm (.int _)⟩
    · exact w.elim
  · cases vd with
    | cons a b =>
      cases b with
      | cons b c =>
        cases c; cases a; cases b
        exact call_min2 hc pins s σ H _ us Q I rx ⟨_, _, rfl, w.here sm (.int _)⟩
  · cases vd with
    | cons a b =>
      cases b with
      | cons b c =>
        cases c; cases a; cases b
        exact call_max2 hc pins s σ H _ us Q I rx ⟨_, _, rfl, w.here sm (.int _)⟩
  · cases vd with
    | cons a b =>
      cases b; cases a
      exact call_abs pins s σ H _ us Q I rx ⟨_, rfl, w.here sm (.int _)⟩
  · cases vd with
    | cons a b =>
      cases b; cases a
      exact call_int1 pins s σ H _ us Q I rx (.inl ⟨_, rfl, w.here sm (.int _)⟩)
  · cases vd with
    | cons a b =>
      cases b; cases a
      exact call_int1 pins s σ H _ us Q I rx (.inr ⟨_, rfl, w.here sm (.int _)⟩)
  · cases vd with
    | cons a b =>
      cases b
      cases a with
      | tup a b => exact ht pins s σ H _ us Q I rx ⟨_, _, rfl, .inr ⟨a, w.here sm (.tup a b)⟩⟩
  · split at w
    · rename_i hx
      cases vd with
      | cons a b =>
        cases b
        obtain ⟨p, vs, rfl, h1, h2⟩ := sm.seq a hx
        exact ht pins s σ H _ us Q I rx ⟨_, _, rfl, .inl ⟨h1, w.tup sm h2⟩⟩
    · exact w.elim
  · split at w
    · rename_i hx
      obtain ⟨xs', hx1, hx2⟩ := Option.bind_eq_some_iff.mp hx
      cases vd with
      | cons a b =>
        cases b
        obtain ⟨p, vs, rfl, h1, h2⟩ := sm.seq a hx1
        have e := bls_rel h2 hx2
        subst e
        exact ha pins s σ H _ us Q I rx ⟨_, _, rfl, h1, w.here sm (.bl _)⟩
    · exact w.elim
  · split at w
    · rename_i hx
      obtain ⟨xs', hx1, hx2⟩ := Option.bind_eq_some_iff.mp hx
      cases vd with
      | cons a b =>
        cases b
        obtain ⟨p, vs, rfl, h1, h2⟩ := sm.seq a hx1
        have e := bls_rel h2 hx2
        subst e
        exact hy pins s σ H _ us Q I rx ⟨_, _, rfl, h1, w.here sm (.bl _)⟩
    · exact w.elim
  · split at w
    · rename_i hx
      obtain ⟨xs', hx1, hx2⟩ := Option.bind_eq_some_iff.mp hx
      cases vd with
      | cons a b =>
        cases b
        obtain ⟨p, vs, rfl, h1, h2⟩ := sm.seq a hx1
        have e := ints_rel h2 hx2
        subst e
        exact hsum pins s σ H _ us Q I rx ⟨_, _, rfl, h1, w.here sm (.int _)⟩
    · exact w.elim
  · split at w
    · rename_i hx
      obtain ⟨xs', hx1, hx2⟩ := Option.bind_eq_some_iff.mp hx
      cases vd with
      | cons a b =>
        cases b
        obtain ⟨p, vs, rfl, h1, h2⟩ := sm.seq a hx1
        obtain ⟨ps, kx, e1, e2, e3⟩ := pairsT_rel h2 hx2
        subst e1
        refine call_dictT hc (by omega) pins s σ H _ us Q I rx ⟨_, ps, kx, rfl, by rw [hK]; exact h1, by rw [hK]; exact e2, by rw [hK]; exact KX.keyed e3, fun q hq => ?_⟩
        rw [hW.p, hW.w]
        exact w _ _ _ (.new sm hq) (sm.new hq ⟨_, upd_same, Paired.imp (fun _ _ q => ⟨q.1, q.2.1.nxt sm (.new sm hq), q.2.2.nxt sm (.new sm hq)⟩) (mergeT_rel e3 .nil)⟩) (.ref (if_pos rfl))
    · exact w.elim
  · cases vd with
    | cons a b =>
      cases b
      cases a with
      | tup a b => exact hl pins s σ H _ us Q I rx ⟨_, _, rfl, .inr a, w.newL sm b⟩
  · split at w
    · rename_i hx
      cases vd with
      | cons a b =>
        cases b
        obtain ⟨p, vs, rfl, h1, h2⟩ := sm.seq a hx
        exact hl pins s σ H _ us Q I rx ⟨_, _, rfl, .inl h1, w.newL sm h2⟩
    · exact w.elim
  · exact w.elim

/-! ### methods of lists and dicts -/
def BM.isL : BM → Bool
  | .get1 => false
  | .get2 => false
  | .update => false
  | _ => true
def BM.id : BM → String
  | .append => "list.append"
  | .extend => "list.extend"
  | .pop => "list.pop"
  | .popAt => "list.pop"
  | .clear => "list.clear"
  | .reverse => "list.reverse"
  | .index => "list.index"
  | .count => "list.count"
  | .get1 => "dict.get"
  | .get2 => "dict.get"
  | .update => "dict.update"
def rm (N : Nm) (m : BM) : V → List V → Hp → VK → Prop := fun x xs H Q => ∃ β S d ds, Sim N β S H ∧ VR N.K β H d x ∧ VRs N.K β H ds xs ∧ Want N (RD N) β H (bmD m d ds S) Q
theorem Want.wr {β : Bt} {S : Sto} {H : Hp} {Q : VK} {d : D} {v : V} {n : Nat} {a : Addr} {o : MO} {u : HO} (w : Want N (RD N) β H (.ok d (S.set n o)) Q) (sm : Sim N β S H) (hb : β n = some a) (q : OR N β (upd H a u) a o) (rv : VR N.K β H d v) : Q v (upd H a u) :=
  w _ _ _ (.write hb) (sm.write hb q) (rv.nxt sm (.write hb))
theorem findIdx_spec {α : Type} (p : α → Bool) : ∀ (l : List α) (j : Nat), l.findIdx? p = some j → ∃ z, l[j]? = some z ∧ p z = true ∧ ∀ m z', m < j → l[m]? = some z' → p z' = false := fun l j h => by
  obtain ⟨h1, h2, h3⟩ := List.findIdx?_eq_some_iff_getElem.mp h
  refine ⟨l[j], List.getElem?_eq_getElem h1, h2, fun m z' hm hz => ?_⟩
  obtain ⟨h4, h5⟩ := List.getElem?_eq_some_iff.mp hz
  subst h5
  have := h3 m hm
  simpa using this
/-- a list made longer by a tuple's items -/
theorem ext_tup (l : Addr) (u : Array Value) (n : Nat) (b : Addr) (t : Array Value) (k : Nat) (dd : Option Addr) (sl : Array (Option Value)) (h0 : ¬ (!u.isEmpty && Builtin.List.listTooLong (u.size + t.size)) = true) (h1 : u.size ≤ sizeLine) (h2 : u.size + t.size ≤ sizeLine + 1) :
    Meets (Builtin.«list.extend» ⟨[.ref l, .ref b], []⟩) (fun _ R s =>
      s.heap.get? l = some { cls := .type "list", dict := none, data := .seq u n, slots := #[] } ∧
      s.heap.get? b = some { cls := .type "tuple", dict := dd, data := .seq t k, slots := sl } ∧
      R (.ok (.ret Value.none)) { s with heap := s.heap.update l (Obj.mapSeq fun x => x ++ t), toks := s.toks }) :=
  .of_wp fun prog w A R s h => by
    obtain ⟨hp, g, d, tk, os⟩ := s
    obtain ⟨q1, q2, h⟩ := h
    have f1 := PySem.AutoSeq1.idx_int
    have f2 := PySem.AutoSeq1.sub_tuple_tuple
    have f3 := PySem.AutoSeq1.sub_list_list
    have f4 := PySem.AutoSeq1.sub_tuple_list
    have f5 := PySem.AutoSeq1.sub_list_tuple
    have hz' : (u ++ t).size ≤ sizeLine + 1 := by
      rw [Array.size_append]
      exact h2
    wp_walk using (wpAny_updateSeq q1 rfl (hz := h1) (_hz' := hz')), PySem.AutoSeq1.wpAny_loadPart' q1, PySem.AutoSeq1.wpAny_loadPart' q2
    exact ⟨_, rfl, h⟩
theorem mt_extendT : MtR X "list.extend" (fun x vs H Q => ∃ l b xs zs, x = .ref l ∧ vs = [.ref b] ∧ H l = some (.lst xs) ∧ SqT X.K H b zs ∧ xs.length + zs.length ≤ sizeLine ∧ Q .non (upd H l (.lst (xs ++ zs)))) := by
  intro pins s σ H x vs v us Q I rx rv h
  obtain ⟨l, b, xs, zs, rfl, rfl, hH, hB, hz, q⟩ := h
  cases rx
  obtain ⟨u, rfl, ru⟩ := rv.one
  cases ru
  obtain ⟨z, its, n, r, hl, e⟩ := I.lstM hH
  obtain ⟨its2, r2, ⟨⟨cls, dd, data, sl⟩, e2, hc, n2, hd⟩, z2⟩ := I.tuple hB
  simp only at hc hd
  subst hc hd
  have l2 := r2.length
  have hsz : its.toArray.size + its2.toArray.size ≤ sizeLine := by rw [List.size_toArray, List.size_toArray]; omega
  have hlong : ¬ (!its.toArray.isEmpty && Builtin.List.listTooLong (its.toArray.size + its2.toArray.size)) = true := by
    intro hh
    rw [notLongL hsz, Bool.and_false] at hh
    cases hh
  refine call_meets PySem.F.slot_list_extend ⟨_, e, rfl⟩ PySem.F.entry_list_extend (PySem.F.args_list_extend_2 _ _) (ext_tup l its.toArray n b its2.toArray n2 dd sl hlong (by rw [List.size_toArray]; omega) (by omega)) ⟨e, e2, ?_⟩
  exact ⟨.non, _, I.lset (its' := its ++ its2) hH e (by simp) (r.append r2) (by rw [List.length_append]; exact hz), rfl, q⟩
theorem paired_len' {α γ : Type} {P : α → γ → Prop} {l : List α} {m : List γ} (h : Paired P l m) : l.length = m.length := by
  induction h with
  | nil => rfl
  | cons a b ih => simp [ih]
/-- l.count(x) of data -/
def rCountD (K : PySem.W.Frag) : V → List V → Hp → VK → Prop := fun x xs H Q => ∃ (a : Addr) (y : V) (d : PyData) (ds : List PyData), x = V.ref a ∧ xs = [y] ∧ Dp K H (V.ref a) (.list ds) ∧ Dp K H y d ∧
  SeqAt.shaped (.list ds) = true ∧ SeqAt.shaped d = true ∧ Q (.int (ds.countP fun z => PyData.eqv z d : Nat)) H
theorem mt_countD (hu : X.A.units + 65 < cLine) : MtR X "list.count" (rCountD X.K) := by
  intro pins s σ H x xs v us Q I rx rxs h
  obtain ⟨a, y, d, ds, rfl, rfl, hl, hy, sl, sd, q⟩ := h
  cases rx
  cases rxs with
  | cons ry rt =>
    rename_i uy ut
    cases rt
    obtain ⟨bs, r1⟩ := Dp.reads I d y uy hy ry
    have hxs : PyData.canLayAll0 ds = true := SeqAt.canLay_of_shaped sl
    have hroom : X.A.units + 1 + min (PyData.depthAll ds) d.depth < cLine := room_in_shaped sd hu
    cases hl with
    | lst hs ha =>
      obtain ⟨its, rv, ⟨⟨cls, dd, data, sls⟩, n, ho, hc, hdn, hdt⟩, hlen⟩ := I.list hs
      simp only at hc hdt
      subst hc hdt
      obtain ⟨as, h4⟩ := Dp.readsAll I ds _ its ha rv
      have hmap : its.map (SeqAt.readOf s.heap) = ds := SeqAt.readsAll_map ds its as hxs h4
      refine call_meets PySem.F.slot_list_count ⟨_, ho, rfl⟩ PySem.F.entry_list_count (PySem.F.args_list_count_2 _ _)
        (SeqAt.list_countAt a its.toArray n dd sls uy (fun u => PyData.eqv (SeqAt.readOf s.heap u) d)) ⟨ho, SeqAt.items_eqAt (vs := its.toArray) (show ReadsAll s.heap its.toArray.toList ds as from h4) r1 hxs (SeqAt.canLay_of_shaped sd) hroom, ?_⟩
      have ec : its.toArray.toList.countP (fun u => PyData.eqv (SeqAt.readOf s.heap u) d) = ds.countP fun z => PyData.eqv z d := by
        rw [← hmap, List.countP_map]
        rfl
      refine ⟨.int (ds.countP fun z => PyData.eqv z d : Nat), H, I.tok _, ⟨s.toks, ?_⟩, q⟩
      show Value.int ((its.toArray.toList.countP (fun u => PyData.eqv (SeqAt.readOf s.heap u) d) : Nat) : Int) s.toks = Value.int ((ds.countP (fun z => PyData.eqv z d) : Nat) : Int) s.toks
      rw [ec]
theorem t_get1 {pins : List (Addr × Obj)} {σ : L2.St} {H : Hp} {s : Shared} {a b : Addr} {k : List Key} {vs : List V} {xs : List (List Key × Addr × V)} {A : Around} {E : Value → Shared → Prop} {Q : Value → Shared → Prop} (hu : A.units + 1 < cLine) (I : Inv X pins σ H s) (e : H a = some (.ext (rawT X.prog X.w a xs))) (hk : Keyed X.K H xs) (hb : SqT X.K H b vs) (r : Paired isV k vs) (h : ∀ w' s', Inv X pins σ H s' → RelV ((valX xs k).getD .non) w' → Q w' s') :
    wpAny (model X.prog X.w) A (call (.builtin "dict.get") [.ref a, .ref b]) Q E s := by
  obtain ⟨z, hd, us, r3, dd⟩ := rawT_at I e
  have hT := (dd.of (hk.is I r3)).typeIs
  exact call_meetsIn PySem.F.slot_dict_get hT PySem.F.entry_dict_get (PySem.F.args_dict_get_2 _ _) (meetsH_dict_get (knT X.prog X.w) a b hd) ⟨tupleKind_room_in1 hu, k, us, key_at I hb r, dd.of (hk.is I r3), h _ _ (I.tok _) ((r3.val k).getD rfl)⟩
theorem bm_ok (hK : X.K = N.K) (hW : HW X N) (hu : X.A.units + 65 < cLine) (m : BM) : MtR X m.id (rm N m) := by
  have hidx := mt_indexD (X := X) hu
  have hcnt := mt_countD (X := X) hu
  have hext := mt_extendT (X := X)
  rw [hK] at hidx hext hcnt
  intro pins s σ H x xs v us Q I rx rxs h
  obtain ⟨β, S, d, ds, sm, vd, vds, w⟩ := h
  unfold bmD at w
  split at w
  · rename_i n
    cases vd with
    | @ref _ a hb =>
      split at w
      · rename_i ys hx
        obtain ⟨vs, e1, r1⟩ := sm.at hb hx
        split at w
        · split at w
          · rename_i hl
            cases vds with
            | cons ra rb =>
              cases rb
              exact mt_append pins s σ H _ _ v us Q I rx rxs ⟨_, vs, _, rfl, rfl, e1, by rw [← r1.length, ← lim_eq]; exact hl, w.wr sm hb ⟨_, upd_same, (r1.append (.cons ra .nil)).nxt sm (.write hb)⟩ .non⟩
          · exact w.elim
        · split at w
          · rename_i hy
            split at w
            · rename_i hl
              cases vds with
              | cons ra rb =>
                cases rb
                cases ra with
                | ref hc =>
                  obtain ⟨ws, e2, r2⟩ := sm.lst hc hy
                  exact mt_extend pins s σ H _ _ v us Q I rx rxs ⟨_, _, vs, ws, rfl, rfl, e1, e2, by rw [← r1.length, ← r2.length, ← lim_eq]; exact hl, w.wr sm hb ⟨_, upd_same, (r1.append r2).nxt sm (.write hb)⟩ .non⟩
            · exact w.elim
          · exact w.elim
        · split at w
          · rename_i hl
            cases vds with
            | cons ra rb =>
              cases rb
              cases ra with
              | tup rc rd => exact hext pins s σ H _ _ v us Q I rx rxs ⟨_, _, vs, _, rfl, rfl, e1, rc, by rw [← r1.length, ← rd.length, ← lim_eq]; exact hl, w.wr sm hb ⟨_, upd_same, (r1.append rd).nxt sm (.write hb)⟩ .non⟩
          · exact w.elim
        · split at w
          · rename_i hy
            cases vds
            obtain ⟨y, e2, r2⟩ := r1.get hy
            exact mt_pop pins s σ H _ _ v us Q I rx rxs ⟨_, vs, y, rfl, rfl, e1, by rw [← r1.length]; exact e2, w.wr sm hb ⟨_, upd_same, r1.dropLast.nxt sm (.write hb)⟩ r2⟩
          · exact w.elim
        · split at w
          · rename_i k hk
            split at w
            · rename_i hy
              cases vds with
              | cons ra rb =>
                cases rb
                cases ra
                obtain ⟨y, e2, r2⟩ := r1.get hy
                have hk' := hk
                rw [r1.length] at hk'
                obtain ⟨k1, k2, k3, k4⟩ := ixN_seq hk'
                have hl := (I.hok _ _ e1 : ObjOk X.prog X.w H s.heap _ (.lst vs)).1
                rw [sizeLine_eq] at hl
                exact mt_popAt pins s σ H _ _ v us Q I rx rxs ⟨_, vs, _, k, y, rfl, rfl, e1, by omega, by omega, k1, e2, w.wr sm hb ⟨_, upd_same, (r1.erase k).nxt sm (.write hb)⟩ r2⟩
            · exact w.elim
          · exact w.elim
        · cases vds
          exact mt_clear pins s σ H _ _ v us Q I rx rxs ⟨_, vs, rfl, rfl, e1, w.wr sm hb ⟨_, upd_same, .nil⟩ .non⟩
        · cases vds
          exact mt_reverse pins s σ H _ _ v us Q I rx rxs ⟨_, vs, rfl, rfl, e1, w.wr sm hb ⟨_, upd_same, r1.reverse.nxt sm (.write hb)⟩ .non⟩
        · split at w
          · rename_i y ps h1 h2
            split at w
            · rename_i j hj
              cases vds with
              | cons ra rb =>
                cases rb
                obtain ⟨a1, a2, a3⟩ := toPy_dp sm 40 _ _ y h1 ra
                obtain ⟨b1, b2, b3⟩ := toPy_dps sm 39 ys vs ps h2 r1
                obtain ⟨z, z1, z2, z3⟩ := findIdx_spec _ ps j hj
                refine hidx pins s σ H _ _ v us Q I rx rxs ⟨_, _, y, ps, j, z, rfl, rfl, .lst (SqL.of e1) b1, a1, shaped_of (k := 40) (by simpa [PyData.canLay0] using b2) (by simp only [PyData.depth]; omega) (by decide), shaped_of a2 a3 (by decide), z1, z2, z3, w.here sm (.int _)⟩
            · exact w.elim
          · exact w.elim
        · split at w
          · rename_i y ps h1 h2
            cases vds with
            | cons ra rb =>
              cases rb
              obtain ⟨a1, a2, a3⟩ := toPy_dp sm 40 _ _ y h1 ra
              obtain ⟨b1, b2, b3⟩ := toPy_dps sm 39 _ vs ps h2 r1
              exact hcnt pins s σ H _ _ v us Q I rx rxs ⟨_, _, y, ps, rfl, rfl, .lst (SqL.of e1) b1, a1, shaped_of (k := 40) (by simpa [PyData.canLay0] using b2) (by simp only [PyData.depth]; omega) (by decide), shaped_of a2 a3 (by decide), w.here sm (.int _)⟩
          · exact w.elim
        · exact w.elim
      · rename_i o hne hx
        split at w
        · split at w
          · rename_i r hr
            cases o with
            | dK kvs =>
              obtain ⟨ks, e1, r1⟩ := sm.at hb hx
              obtain ⟨k, hk, hr2⟩ := Option.map_eq_some_iff.mp (show (D.key _).map (fun k => getK kvs k) = some r from hr)
              cases vds with
              | cons ra rb =>
                cases rb
                have ek := key_rel ra hk
                subst ek
                cases rxs with
                | cons rq rt =>
                  cases rt
                  obtain rfl : v = Value.ref _ := rx
                  have g := getK_rel r1 k
                  rw [hr2] at g
                  refine d_get1 (by omega) I (DGet.k (k := k) e1) rq fun w' s' I' rw' => ?_
                  cases r with
                  | some dd =>
                    obtain ⟨zv, e2, r2⟩ := g
                    rw [e2] at rw'
                    exact ⟨zv, H, I', rw', w.here sm r2⟩
                  | none =>
                    rw [g] at rw'
                    exact ⟨.non, H, I', rw', w.here sm .non⟩
            | dT kvs =>
              obtain ⟨k, hk, hr2⟩ := Option.map_eq_some_iff.mp (show (D.keyTB _).map (fun k => getK kvs k) = some r from hr)
              cases vds with
              | cons ra rb =>
                cases rb
                obtain ⟨xs, e1, hkd, r1⟩ := dT_at hK hW sm hb hx
                obtain ⟨b, vs, rfl, h1, h2⟩ := keyTB_rel ra hk
                cases rxs with
                | cons rq rt =>
                  cases rt
                  obtain rfl : v = Value.ref _ := rx
                  cases (show _ = Value.ref _ from rq)
                  have g := r1.get k
                  rw [hr2] at g
                  rw [← hK] at h1
                  refine t_get1 (by omega) I e1 hkd h1 h2 fun w' s' I' rw' => ?_
                  cases r with
                  | some dd =>
                    obtain ⟨zv, e2, r2⟩ := g
                    rw [e2] at rw'
                    exact ⟨zv, H, I', rw', w.here sm r2⟩
                  | none =>
                    rw [g] at rw'
                    exact ⟨.non, H, I', rw', w.here sm .non⟩
            | _ => cases hr
          · exact w.elim
        · split at w
          · rename_i r hr
            cases o with
            | dK kvs =>
              obtain ⟨ks, e1, r1⟩ := sm.at hb hx
              obtain ⟨k, hk, hr2⟩ := Option.map_eq_some_iff.mp (show (D.key _).map (fun k => getK kvs k) = some r from hr)
              cases vds with
              | cons ra rb =>
                cases rb with
                | cons rc rb =>
                  cases rb
                  have ek := key_rel ra hk
                  subst ek
                  cases rxs with
                  | cons rq rt =>
                    cases rt with
                    | cons rq2 rt =>
                      cases rt
                      obtain rfl : v = Value.ref _ := rx
                      have g := getK_rel r1 k
                      rw [hr2] at g
                      refine d_get2 (by omega) I (DGet.k (k := k) e1) rq rq2 fun w' s' I' rw' => ?_
                      cases r with
                      | some dd =>
                        obtain ⟨zv, e2, r2⟩ := g
                        rw [e2] at rw'
                        exact ⟨zv, H, I', rw', w.here sm r2⟩
                      | none =>
                        rw [g] at rw'
                        exact ⟨_, H, I', rw', w.here sm rc⟩
            | dT kvs =>
              obtain ⟨k, hk, hr2⟩ := Option.map_eq_some_iff.mp (show (D.keyTB _).map (fun k => getK kvs k) = some r from hr)
              cases vds with
              | cons ra rb =>
                cases rb with
                | cons rc rb =>
                  cases rb
                  obtain ⟨xs, e1, hkd, r1⟩ := dT_at hK hW sm hb hx
                  obtain ⟨b, vs, rfl, h1, h2⟩ := keyTB_rel ra hk
                  cases rxs with
                  | cons rq rt =>
                    cases rt with
                    | cons rq2 rt =>
                      cases rt
                      obtain rfl : v = Value.ref _ := rx
                      cases (show _ = Value.ref _ from rq)
                      have g := r1.get k
                      rw [hr2] at g
                      rw [← hK] at h1
                      refine t_get2 (by omega) I e1 hkd h1 h2 rq2 fun w' s' I' rw' => ?_
                      cases r with
                      | some dd =>
                        obtain ⟨zv, e2, r2⟩ := g
                        rw [e2] at rw'
                        exact ⟨zv, H, I', rw', w.here sm r2⟩
                      | none =>
                        rw [g] at rw'
                        exact ⟨_, H, I', rw', w.here sm rc⟩
            | _ => cases hr
          · exact w.elim
        · split at w
          · rename_i o kvs more hk
            split at w
            · rename_i hl
              cases vds with
              | cons ra rb =>
                cases rb
                cases ra with
                | @ref _ a2 hb2 =>
                  obtain ⟨ks, e1, r1⟩ := sm.at hb hx
                  obtain ⟨ms, e2, r2⟩ := sm.at hb2 hk
                  have hne : a ≠ a2 := fun e => hl.1 (sm.inj _ _ _ hb (by rw [e]; exact hb2))
                  have l1 := (paired_len' r1).symm
                  have l2 := (paired_len' r2).symm
                  exact mt_update pins s σ H _ _ v us Q I rx rxs ⟨_, _, ks, ms, rfl, rfl, hne, e1, e2, by rw [l1, l2, ← lim_eq]; exact hl.2, w.wr sm hb ⟨_, upd_same, Paired.imp (fun _ _ q => ⟨q.1, q.2.nxt sm (.write hb)⟩) (merge_rel r2 r1)⟩ .non⟩
            · exact w.elim
          · exact w.elim
        · exact w.elim
      · exact w.elim
  · exact w.elim

/-! ### isinstance -/
theorem ty_rel {β : Bt} {S : Sto} {H : Hp} (sm : Sim N β S H) {d : D} {v : V} {u : KT} (r : VR N.K β H d v) (h : tyName S d = some (.inl u)) : TyX N.K H v (.type u.name) := by
  unfold tyName at h
  split at h
  · cases h; cases r; exact .base .non
  · cases h; cases r; exact .base (.bl _)
  · cases h; cases r; exact .base (.int _)
  · cases h; cases r; exact .base (.str _)
  · cases h
    cases r with
    | tup a b =>
      rcases a with (a | ⟨o, a⟩) | ⟨o, its, n, a, c, _⟩
      · exact .base (.tup a)
      · exact .fTuple a
      · exact .kTuple a c
  · cases h
    cases r with
    | rol a b =>
      rcases a with ⟨o, a⟩ | ⟨o, its, n, a, c, _⟩
      · exact .base (.frz a)
      · exact .kList a c
  · split at h
    · rename_i hx
      cases h
      cases r with
      | ref hb =>
        obtain ⟨vs, e, r1⟩ := sm.at hb hx
        exact .base (.lst e)
    · rename_i hx
      cases h
      cases r with
      | ref hb =>
        obtain ⟨vs, e, r1⟩ := sm.at hb hx
        exact .base (.dK e)
    · cases h
    · cases h
    · cases h
    · cases h
theorem kitB_ok (u t : KT) : kitB u.name t.name = some (tyLe u t) := by
  cases u <;> cases t <;> decide +kernel
def Ty.val : Ty → V
  | .b t => .ty t.name
  | .own _ => .non
def Ty.vl : Ty → Value
  | .b t => .type t.name
  | .own _ => .none
theorem isTy_kit {K : PySem.W.Frag} {S : Sto} {d : D} {t : Ty} {b : Bool} (h : isTy S d t = some b) : ∃ u k, tyName S d = some (.inl u) ∧ t = .b k ∧ PySem.W.kitOne K (.type u.name) t.vl = some b := by
  cases t with
  | b k =>
    unfold isTy at h
    simp only at h
    split at h
    · rename_i u hu
      cases h
      exact ⟨u, k, hu, rfl, kit_ty (kitB_ok u k)⟩
    · cases h
    · cases h
  | own c => cases h
theorem isTys_kit {K : PySem.W.Frag} {S : Sto} {d : D} : ∀ {ts : List Ty} {b : Bool} {u : KT}, tyName S d = some (.inl u) → isTys S d ts = some b → PySem.W.kitAny K (.type u.name) (ts.map Ty.vl) = some b ∧ ∀ t ∈ ts, True
  | [], b, u, _, h => by
    simp only [isTys, Option.some.injEq] at h
    subst h
    exact ⟨kitAny_nil, fun _ _ => trivial⟩
  | t :: ts, b, u, hu, h => by
    unfold isTys at h
    split at h
    · rename_i h1
      cases h
      obtain ⟨u', k, e1, e2, e3⟩ := isTy_kit (K := K) h1
      rw [hu] at e1; cases e1
      exact ⟨kitAny_cons e3 (fun z => nomatch z) (fun _ => rfl), fun _ _ => trivial⟩
    · rename_i h1
      obtain ⟨u', k, e1, e2, e3⟩ := isTy_kit (K := K) h1
      rw [hu] at e1; cases e1
      have ih := isTys_kit (K := K) hu h
      exact ⟨kitAny_cons e3 (fun _ => ih.1) (fun z => nomatch z), fun _ _ => trivial⟩
    · cases h
end
end Mi

namespace Mi
open PySem L2 PySem.Spec PyProof.Rows

section
variable {X : Cx} {N : Nm} {Y : Fs} {ea eb ec : PySem.Expr} {a b c : E} {pos : Pos}

/-- the step from a part's value to what follows -/
theorem tE_bind {σ : List (Option V)} {H : Hp} {e : E} {β : Bt} {env : Env} {S : Sto} {γ ρ : Type} {R' : Bt → Hp → γ → ρ → Prop} {f : D → Sto → Out γ} {Q : ρ → Hp → Prop} {Q1 : VK}
    (sm : Sim N β S H) (er : EnvR N β H env σ) (w : Want N R' β H ((ev Y e env S).bind f) Q)
    (h : ∀ d S1 β1 H1 v, Nxt β H β1 H1 → Sim N β1 S1 H1 → EnvR N β1 H1 env σ → VR N.K β1 H1 d v → Want N R' β1 H1 (f d S1) Q → Q1 v H1) : tE N Y e σ H Q1 :=
  ⟨β, env, S, sm, er, Want.bind (R' := R') w fun d S1 _ β1 H1 v x sm1 r w1 => h d S1 β1 H1 v x sm1 (er.nxt sm x) r w1⟩
theorem tEs_bind {σ : List (Option V)} {H : Hp} {es : Es} {β : Bt} {env : Env} {S : Sto} {γ ρ : Type} {R' : Bt → Hp → γ → ρ → Prop} {f : List D → Sto → Out γ} {Q : ρ → Hp → Prop} {Q1 : List V → Hp → Prop}
    (sm : Sim N β S H) (er : EnvR N β H env σ) (w : Want N R' β H ((evs Y es env S).bind f) Q)
    (h : ∀ d S1 β1 H1 v, Nxt β H β1 H1 → Sim N β1 S1 H1 → EnvR N β1 H1 env σ → VRs N.K β1 H1 d v → Want N R' β1 H1 (f d S1) Q → Q1 v H1) : tEs N Y es σ H Q1 :=
  ⟨β, env, S, sm, er, Want.bind (R' := R') w fun d S1 _ β1 H1 v x sm1 r w1 => h d S1 β1 H1 v x sm1 (er.nxt sm x) r w1⟩
theorem tT_bind {σ : List (Option V)} {H : Hp} {e : E} {β : Bt} {env : Env} {S : Sto} {γ ρ : Type} {R' : Bt → Hp → γ → ρ → Prop} {f : Bool → Sto → Out γ} {Q : ρ → Hp → Prop} {Q1 : Bool → Hp → Prop}
    (sm : Sim N β S H) (er : EnvR N β H env σ) (w : Want N R' β H ((evT Y e env S).bind f) Q)
    (h : ∀ d S1 β1 H1, Nxt β H β1 H1 → Sim N β1 S1 H1 → EnvR N β1 H1 env σ → Want N R' β1 H1 (f d S1) Q → Q1 d H1) : tT N Y e σ H Q1 :=
  ⟨β, env, S, sm, er, Want.bind (R' := R') w fun d S1 _ β1 H1 v x sm1 r w1 => by cases r; exact h d S1 β1 H1 x sm1 (er.nxt sm x) w1⟩

theorem Want.oblI {β : Bt} {H : Hp} {S : Sto} {o : Option Bool} {k : Bool} {Q : VK} (h : o = some k) (q : ∀ β' H', Nxt β H β' H' → Sim N β' S H' → Q (.bl k) H') : Want N (RD N) β H (Mi.obl o S) Q := by
  subst h
  intro β' H' t x s r
  cases r
  exact q β' H' x s
/-! ### expressions -/
theorem e_var {i : Nat} {x : Str} (hN : X.N[i]? = some x) (hv : Vis X.env.scope x) (hd : (x == ("__debug__" : Str)) = false) (hc : (x == ("__classdict__" : Str)) = false) : PE X (.Name x pos) (tE N Y (.var i)) :=
  PE.imp (pe_var hN hv hd hc) fun σ H Q h => by
    obtain ⟨β, env, S, sm, er, w⟩ := h
    unfold ev at w
    split at w
    · rename_i d hd
      obtain ⟨v, e, r⟩ := er.val i d hd
      exact ⟨v, e, w.here sm r⟩
    · exact w.elim
theorem e_con {d : D} {v : V} {e : PySem.Expr} (h : PE X e (tC v)) (hr : ∀ β H, VR N.K β H d v) : PE X e (tE N Y (.con d)) :=
  PE.imp h fun σ H Q h => by
    obtain ⟨β, env, S, sm, er, w⟩ := h
    exact w.here sm (hr _ _)
theorem e_glob {g : Nat} {v : V} {e : PySem.Expr} (h : PE X e (tC v)) (hr : ∀ β H, VR N.K β H (Y.gv g) v) : PE X e (tE N Y (.glob g)) :=
  PE.imp h fun σ H Q h => by
    obtain ⟨β, env, S, sm, er, w⟩ := h
    exact w.here sm (hr _ _)
theorem e_bin (hK : X.K = N.K) {op : Operator} (ha : PE X ea (tE N Y a)) (hb : PE X eb (tE N Y b)) : PE X (.BinOp ea op eb pos) (tE N Y (.bin op a b)) :=
  PE.imp (pe_op (op_bin hK op) ha hb) fun σ H Q h => by
    obtain ⟨β, env, S, sm, er, w⟩ := h
    refine tE_bind (R' := RD N) sm er w fun d S1 β1 H1 v x1 sm1 er1 r1 w1 => ?_
    refine tE_bind (R' := RD N) sm1 er1 w1 fun d2 S2 β2 H2 v2 x2 sm2 er2 r2 w2 => ?_
    exact ⟨β2, S2, d, d2, sm2, r1.nxt sm1 x2, r2, w2⟩
theorem e_una {op : UnaryOp} (ha : PE X ea (tE N Y a)) : PE X (.UnaryOp op ea pos) (tE N Y (.una op a)) :=
  PE.imp (pe_un (un_un op) ha) fun σ H Q h => by
    obtain ⟨β, env, S, sm, er, w⟩ := h
    refine tE_bind (R' := RD N) sm er w fun d S1 β1 H1 v x1 sm1 er1 r1 w1 => ?_
    exact ⟨β1, S1, d, sm1, r1, w1⟩
theorem e_cmp (hK : X.K = N.K) (hW : HW X N) (hu : X.A.units + 65 < cLine) {op : CmpOp} (hm : behindInMarks op eb = false) (ha : PE X ea (tE N Y a)) (hb : PE X eb (tE N Y b)) : PE X (.Compare ea [op] [eb] pos) (tE N Y (.cmp op a b)) :=
  PE.imp (pe_cmpR (op_cmpR hK hW hu op) ha hb hm) fun σ H Q h => by
    obtain ⟨β, env, S, sm, er, w⟩ := h
    refine tE_bind (R' := RD N) sm er w fun d S1 β1 H1 v x1 sm1 er1 r1 w1 => ?_
    refine tE_bind (R' := RD N) sm1 er1 w1 fun d2 S2 β2 H2 v2 x2 sm2 er2 r2 w2 => ?_
    exact ⟨β2, S2, d, d2, sm2, r1.nxt sm1 x2, r2, w2⟩
theorem Want.truth {β : Bt} {H : Hp} {S : Sto} {d : D} {Q : Bool → Hp → Prop} (w : Want N RB β H (match truthD S d with
    | some b => .ok b S
    | none => .no) Q) (sm : Sim N β S H) : ∃ b, truthD S d = some b ∧ Q b H := by
  split at w
  · rename_i b hb
    exact ⟨b, hb, w.here sm rfl⟩
  · exact w.elim
theorem t_cmp (hK : X.K = N.K) (hW : HW X N) (hu : X.A.units + 65 < cLine) {op : CmpOp} (hm : behindInMarks op eb = false) (ha : PE X ea (tE N Y a)) (hb : PE X eb (tE N Y b)) : PT X (.Compare ea [op] [eb] pos) (tT N Y (.cmp op a b)) :=
  PT.imp (pt_cmpR (op_cmpR hK hW hu op) ha hb hm) fun σ H Q h => by
    obtain ⟨β, env, S, sm, er, w⟩ := h
    have w : Want N RB β H (((ev Y a env S).bind fun x S1 => (ev Y b env S1).bind fun y S2 => obl (cmpD op x y S2) S2).bind fun x S1 => match truthD S1 x with
      | some b => .ok b S1
      | none => .no) Q := w
    have assoc : ∀ {α γ δ : Type} (o : Out α) (f : α → Sto → Out γ) (g : γ → Sto → Out δ), (o.bind f).bind g = o.bind fun a S => (f a S).bind g := fun o f g => by cases o <;> rfl
    rw [assoc] at w
    refine tE_bind (R' := RB) sm er w fun d S1 β1 H1 v x1 sm1 er1 r1 w1 => ?_
    rw [assoc] at w1
    refine tE_bind (R' := RB) sm1 er1 w1 fun d2 S2 β2 H2 v2 x2 sm2 er2 r2 w2 => ?_
    refine ⟨β2, S2, d, d2, sm2, r1.nxt sm1 x2, r2, ?_⟩
    cases hc : cmpD op d d2 S2 with
    | none => rw [hc] at w2; exact w2.elim
    | some k =>
      rw [hc] at w2
      exact Want.oblI hc fun β3 H3 x3 sm3 => ⟨k, rfl, Want.at (R := RB) (a := k) (S := S2) w2 x3 sm3 rfl⟩
theorem out_assoc {α γ δ : Type} (o : Out α) (f : α → Sto → Out γ) (g : γ → Sto → Out δ) : (o.bind f).bind g = o.bind fun a S => (f a S).bind g := by cases o <;> rfl
/-- from its value -/
theorem t_of (hK : X.K = N.K) (h : PE X ea (tE N Y a)) (he : ∀ whole, isTrue ea X.env whole = (do let v ← whole; standAt ea.pos; holding [v] (truthy v))) : PT X ea (tT N Y a) := by
  have p := pt_truth h he
  rw [hK] at p
  refine PT.imp p fun σ H Q h => ?_
  obtain ⟨β, env, S, sm, er, w⟩ := h
  refine tE_bind (R' := RB) sm er w fun d S1 β1 H1 v x1 sm1 er1 r1 w1 => ?_
  obtain ⟨k, hk, q⟩ := Want.truth w1 sm1
  exact ⟨k, tru_rel sm1 r1 hk, q⟩
theorem e_chain (hK : X.K = N.K) (hW : HW X N) (hu : X.A.units + 65 < cLine) {op op' : CmpOp} (hm : lastMarks [op, op'] [eb, ec] = false) (ha : PE X ea (tE N Y a)) (hb : PE X eb (tE N Y b)) (hc : PE X ec (tE N Y c)) : PE X (.Compare ea [op, op'] [eb, ec] pos) (tE N Y (.chain op op' a b c)) :=
  PE.imp (pe_chain (op_cmpR hK hW hu op) (op_cmpR hK hW hu op') ha hb hc hm) fun σ H Q h => by
    obtain ⟨β, env, S, sm, er, w⟩ := h
    refine tE_bind (R' := RD N) sm er w fun d S1 β1 H1 v x1 sm1 er1 r1 w1 => ?_
    refine tE_bind (R' := RD N) sm1 er1 w1 fun d2 S2 β2 H2 v2 x2 sm2 er2 r2 w2 => ?_
    refine ⟨β2, S2, d, d2, sm2, r1.nxt sm1 x2, r2, ?_⟩
    cases hk : cmpD op d d2 S2 with
    | none => rw [hk] at w2; exact w2.elim
    | some k =>
      rw [hk] at w2
      refine Want.oblI hk fun β3 H3 x3 sm3 => ?_
      refine ⟨k, rfl, ?_⟩
      cases k with
      | true =>
        refine iteT ?_
        refine tE_bind (R' := RD N) sm3 ((er2.nxt sm2 x3)) (Want.nxt (R := RD N) x3 w2) fun d3 S4 β4 H4 v4 x4 sm4 er4 r4 w4 => ?_
        exact ⟨β4, S4, d2, d3, sm4, (r2.nxt sm2 x3).nxt sm3 x4, r4, w4⟩
      | false => exact iteF (Want.at (R := RD N) (a := .bl false) (S := S2) w2 x3 sm3 (.bl false))
theorem t_chain (hK : X.K = N.K) (hW : HW X N) (hu : X.A.units + 65 < cLine) {op op' : CmpOp} (hm : lastMarks [op, op'] [eb, ec] = false) (ha : PE X ea (tE N Y a)) (hb : PE X eb (tE N Y b)) (hc : PE X ec (tE N Y c)) : PT X (.Compare ea [op, op'] [eb, ec] pos) (tT N Y (.chain op op' a b c)) :=
  PT.imp (pt_chain (op_cmpR hK hW hu op) (op_cmpR hK hW hu op') ha hb hc hm) fun σ H Q h => by
    obtain ⟨β, env, S, sm, er, w⟩ := h
    have w : Want N RB β H (((ev Y a env S).bind fun x S1 => (ev Y b env S1).bind fun y S2 => match cmpD op x y S2 with
      | some true => (ev Y c env S2).bind fun z S3 => obl (cmpD op' y z S3) S3
      | some false => .ok (.bl false) S2
      | none => .no).bind fun x S1 => match truthD S1 x with
      | some b => .ok b S1
      | none => .no) Q := w
    rw [out_assoc] at w
    refine tE_bind (R' := RB) sm er w fun d S1 β1 H1 v x1 sm1 er1 r1 w1 => ?_
    rw [out_assoc] at w1
    refine tE_bind (R' := RB) sm1 er1 w1 fun d2 S2 β2 H2 v2 x2 sm2 er2 r2 w2 => ?_
    refine ⟨β2, S2, d, d2, sm2, r1.nxt sm1 x2, r2, ?_⟩
    cases hk : cmpD op d d2 S2 with
    | none => rw [hk] at w2; exact w2.elim
    | some k =>
      rw [hk] at w2
      refine Want.oblI hk fun β3 H3 x3 sm3 => ?_
      refine ⟨k, rfl, ?_⟩
      cases k with
      | true =>
        refine iteT ?_
        have w2 : Want N RB β2 H2 (((ev Y c env S2).bind fun z S3 => obl (cmpD op' d2 z S3) S3).bind fun x S1 => match truthD S1 x with
          | some b => .ok b S1
          | none => .no) Q := w2
        rw [out_assoc] at w2
        refine tE_bind (R' := RB) sm3 ((er2.nxt sm2 x3)) (Want.nxt (R := RB) x3 w2) fun d3 S4 β4 H4 v4 x4 sm4 er4 r4 w4 => ?_
        refine ⟨β4, S4, d2, d3, sm4, (r2.nxt sm2 x3).nxt sm3 x4, r4, ?_⟩
        cases hk2 : cmpD op' d2 d3 S4 with
        | none => rw [hk2] at w4; exact w4.elim
        | some k2 =>
          rw [hk2] at w4
          refine Want.oblI hk2 fun β5 H5 x5 sm5 => ?_
          exact ⟨k2, rfl, Want.at (R := RB) (a := k2) (S := S4) w4 x5 sm5 rfl⟩
      | false => exact iteF ⟨false, rfl, Want.at (R := RB) (a := false) (S := S2) w2 x3 sm3 rfl⟩
theorem e_not (hK : X.K = N.K) (ha : PE X ea (tE N Y a)) : PE X (.UnaryOp .Not ea pos) (tE N Y (.not_ a)) := by
  have p := pe_notT (pos := pos) ha
  rw [hK] at p
  refine PE.imp p fun σ H Q h => ?_
  obtain ⟨β, env, S, sm, er, w⟩ := h
  refine tE_bind (R' := RD N) sm er w fun d S1 β1 H1 v x1 sm1 er1 r1 w1 => ?_
  obtain ⟨b, hb, q⟩ := Want.obl w1 sm1
  obtain ⟨k, hk, e⟩ := Option.map_eq_some_iff.mp hb
  subst e
  exact ⟨k, tru_rel sm1 r1 hk, q⟩
theorem t_not (ha : PT X ea (tT N Y a)) : PT X (.UnaryOp .Not ea pos) (tT N Y (.not_ a)) :=
  PT.imp (pt_not ha) fun σ H Q h => by
    obtain ⟨β, env, S, sm, er, w⟩ := h
    refine tT_bind (R' := RB) (f := fun b S => .ok (!b) S) (Q := Q) sm er ?_ fun d S1 β1 H1 x1 sm1 er1 w1 => w1.here sm1 rfl
    have w : Want N RB β H (((ev Y a env S).bind fun x S1 => obl ((truthD S1 x).map (!·)) S1).bind fun x S1 => match truthD S1 x with
      | some b => .ok b S1
      | none => .no) Q := w
    rw [out_assoc] at w
    unfold evT
    rw [out_assoc]
    cases ho : ev Y a env S with
    | no => rw [ho] at w; exact w
    | exc c fs S => rw [ho] at w; exact w
    | ok d S1 =>
      rw [ho] at w
      simp only [Out.bind] at w ⊢
      cases ht : truthD S1 d with
      | none => rw [ht] at w; exact w
      | some k => rw [ht] at w; exact w
theorem e_ite (hc : PT X ec (tT N Y c)) (ha : PE X ea (tE N Y a)) (hb : PE X eb (tE N Y b)) : PE X (.IfExp ec ea eb pos) (tE N Y (.ite c a b)) :=
  PE.imp (pe_ifExp hc ha hb) fun σ H Q h => by
    obtain ⟨β, env, S, sm, er, w⟩ := h
    refine tT_bind (R' := RD N) (f := fun t S1 => if t = true then ev Y a env S1 else ev Y b env S1) (Q := Q) sm er ?_ fun d S1 β1 H1 x1 sm1 er1 w1 => ?_
    · have w : Want N (RD N) β H ((ev Y c env S).bind fun x S1 => match truthD S1 x with
        | some true => ev Y a env S1
        | some false => ev Y b env S1
        | none => .no) Q := w
      unfold evT
      rw [out_assoc]
      cases ho : ev Y c env S with
      | no => rw [ho] at w; exact w
      | exc c fs S => rw [ho] at w; exact w
      | ok d S1 =>
        rw [ho] at w
        simp only [Out.bind] at w ⊢
        cases ht : truthD S1 d with
        | none => rw [ht] at w; exact w
        | some k => rw [ht] at w; cases k <;> exact w
    · cases d with
      | true => exact iteT ⟨β1, env, S1, sm1, er1, w1⟩
      | false => exact iteF ⟨β1, env, S1, sm1, er1, w1⟩
theorem t_ite (hc : PT X ec (tT N Y c)) (ha : PT X ea (tT N Y a)) (hb : PT X eb (tT N Y b)) : PT X (.IfExp ec ea eb pos) (tT N Y (.ite c a b)) := by
  refine ⟨fun pins s σ H Q I h => ?_⟩
  obtain ⟨β, env, S, sm, er, w⟩ := h
  have key : tT N Y c σ H fun d H1 => if d = true then tT N Y a σ H1 Q else tT N Y b σ H1 Q := by
    refine tT_bind (R' := RB) (f := fun t S1 => if t = true then evT Y a env S1 else evT Y b env S1) (Q := Q) sm er ?_ fun d S1 β1 H1 x1 sm1 er1 w1 => ?_
    · have w : Want N RB β H (((ev Y c env S).bind fun x S1 => match truthD S1 x with
        | some true => ev Y a env S1
        | some false => ev Y b env S1
        | none => .no).bind fun x S1 => match truthD S1 x with
        | some b => .ok b S1
        | none => .no) Q := w
      rw [out_assoc] at w
      unfold evT
      rw [out_assoc]
      cases ho : ev Y c env S with
      | no => rw [ho] at w; exact w
      | exc c fs S => rw [ho] at w; exact w
      | ok d S1 =>
        rw [ho] at w
        simp only [Out.bind] at w ⊢
        cases ht : truthD S1 d with
        | none => rw [ht] at w; exact w
        | some k => rw [ht] at w; cases k <;> exact w
    · cases d with
      | true => exact iteT ⟨β1, env, S1, sm1, er1, w1⟩
      | false => exact iteF ⟨β1, env, S1, sm1, er1, w1⟩
  show wpAny (model X.prog X.w) X.A (do if ← isTrue ec X.env (eval ec X.env) then isTrue ea X.env (eval ea X.env) else isTrue eb X.env (eval eb X.env)) (TP X pins σ Q) X.xe s
  refine wpAny_bind (thn (hc.run pins s σ H _ I key) fun d s1 ⟨H1, I1, q⟩ => ?_)
  cases d with
  | true => exact ha.run pins s1 σ H1 Q I1 q
  | false => exact hb.run pins s1 σ H1 Q I1 q

/-! ### and, or -/
def tAn (N : Nm) (Y : Fs) (es : Es) : TE := fun σ H Q => ∃ β env S, Sim N β S H ∧ EnvR N β H env σ ∧ Want N (RD N) β H (evAnd Y es env S) Q
def tOn (N : Nm) (Y : Fs) (es : Es) : TE := fun σ H Q => ∃ β env S, Sim N β S H ∧ EnvR N β H env σ ∧ Want N (RD N) β H (evOr Y es env S) Q
def tAnT (N : Nm) (Y : Fs) (es : Es) : TT := fun σ H Q => ∃ β env S, Sim N β S H ∧ EnvR N β H env σ ∧ Want N RB β H ((evAnd Y es env S).bind fun x S1 => match truthD S1 x with
  | some b => .ok b S1
  | none => .no) Q
def tOnT (N : Nm) (Y : Fs) (es : Es) : TT := fun σ H Q => ∃ β env S, Sim N β S H ∧ EnvR N β H env σ ∧ Want N RB β H ((evOr Y es env S).bind fun x S1 => match truthD S1 x with
  | some b => .ok b S1
  | none => .no) Q
variable {e e' : E} {es : Es} {x1 x2 : PySem.Expr} {xs : List PySem.Expr}
theorem an_one (h : PE X x1 (tE N Y e)) : PE X (.BoolOp .And [x1] pos) (tAn N Y (.cons e .nil)) := pe_one h
theorem on_one (h : PE X x1 (tE N Y e)) : PE X (.BoolOp .Or [x1] pos) (tOn N Y (.cons e .nil)) := pe_one h
theorem an_cons (hK : X.K = N.K) (h : PE X x1 (tE N Y e)) (hr : PE X (.BoolOp .And (x2 :: xs) pos) (tAn N Y (.cons e' es))) : PE X (.BoolOp .And (x1 :: x2 :: xs) pos) (tAn N Y (.cons e (.cons e' es))) := by
  have p := pe_andT h hr
  rw [hK] at p
  refine PE.imp p fun σ H Q q => ?_
  obtain ⟨β, env, S, sm, er, w⟩ := q
  unfold evAnd at w
  refine tE_bind (R' := RD N) sm er w fun d S1 β1 H1 v y1 sm1 er1 r1 w1 => ?_
  split at w1
  · rename_i ht
    exact ⟨true, tru_rel sm1 r1 ht, iteT ⟨β1, env, S1, sm1, er1, w1⟩⟩
  · rename_i ht
    exact ⟨false, tru_rel sm1 r1 ht, iteF (w1.here sm1 r1)⟩
  · exact w1.elim
theorem on_cons (hK : X.K = N.K) (h : PE X x1 (tE N Y e)) (hr : PE X (.BoolOp .Or (x2 :: xs) pos) (tOn N Y (.cons e' es))) : PE X (.BoolOp .Or (x1 :: x2 :: xs) pos) (tOn N Y (.cons e (.cons e' es))) := by
  have p := pe_orT h hr
  rw [hK] at p
  refine PE.imp p fun σ H Q q => ?_
  obtain ⟨β, env, S, sm, er, w⟩ := q
  unfold evOr at w
  refine tE_bind (R' := RD N) sm er w fun d S1 β1 H1 v y1 sm1 er1 r1 w1 => ?_
  split at w1
  · rename_i ht
    exact ⟨true, tru_rel sm1 r1 ht, iteT (w1.here sm1 r1)⟩
  · rename_i ht
    exact ⟨false, tru_rel sm1 r1 ht, iteF ⟨β1, env, S1, sm1, er1, w1⟩⟩
  · exact w1.elim
theorem ant_one (h : PT X x1 (tT N Y e)) : PW X (.BoolOp .And [x1] pos) (tAnT N Y (.cons e .nil)) := pw_and1 h
theorem ont_one (h : PT X x1 (tT N Y e)) : PW X (.BoolOp .Or [x1] pos) (tOnT N Y (.cons e .nil)) := pw_or1 h
theorem ant_cons (h : PT X x1 (tT N Y e)) (hr : PW X (.BoolOp .And (x2 :: xs) pos) (tAnT N Y (.cons e' es))) : PW X (.BoolOp .And (x1 :: x2 :: xs) pos) (tAnT N Y (.cons e (.cons e' es))) := by
  refine PW.imp (pw_and h hr) fun σ H Q q => ?_
  obtain ⟨β, env, S, sm, er, w⟩ := q
  unfold evAnd at w
  refine tT_bind (R' := RB) (f := fun t S1 => if t = true then (evAnd Y (.cons e' es) env S1).bind (fun x S1 => match truthD S1 x with
    | some b => .ok b S1
    | none => .no) else .ok false S1) (Q := Q) sm er ?_ fun d S1 β1 H1 y1 sm1 er1 w1 => ?_
  · rw [out_assoc] at w
    unfold evT
    rw [out_assoc]
    cases ho : ev Y e env S with
    | no => rw [ho] at w; exact w
    | exc c fs S => rw [ho] at w; exact w
    | ok d S1 =>
      rw [ho] at w
      simp only [Out.bind] at w ⊢
      cases ht : truthD S1 d with
      | none => rw [ht] at w; exact w
      | some k =>
        rw [ht] at w
        cases k with
        | true => exact w
        | false =>
          simp only [ht] at w
          exact w
  · cases d with
    | true => exact iteT ⟨β1, env, S1, sm1, er1, w1⟩
    | false => exact iteF (w1.here sm1 rfl)
theorem ont_cons (h : PT X x1 (tT N Y e)) (hr : PW X (.BoolOp .Or (x2 :: xs) pos) (tOnT N Y (.cons e' es))) : PW X (.BoolOp .Or (x1 :: x2 :: xs) pos) (tOnT N Y (.cons e (.cons e' es))) := by
  refine PW.imp (pw_or h hr) fun σ H Q q => ?_
  obtain ⟨β, env, S, sm, er, w⟩ := q
  unfold evOr at w
  refine tT_bind (R' := RB) (f := fun t S1 => if t = true then .ok true S1 else (evOr Y (.cons e' es) env S1).bind (fun x S1 => match truthD S1 x with
    | some b => .ok b S1
    | none => .no)) (Q := Q) sm er ?_ fun d S1 β1 H1 y1 sm1 er1 w1 => ?_
  · rw [out_assoc] at w
    unfold evT
    rw [out_assoc]
    cases ho : ev Y e env S with
    | no => rw [ho] at w; exact w
    | exc c fs S => rw [ho] at w; exact w
    | ok d S1 =>
      rw [ho] at w
      simp only [Out.bind] at w ⊢
      cases ht : truthD S1 d with
      | none => rw [ht] at w; exact w
      | some k =>
        rw [ht] at w
        cases k with
        | false => exact w
        | true =>
          simp only [ht] at w
          exact w
  · cases d with
    | true => exact iteT (w1.here sm1 rfl)
    | false => exact iteF ⟨β1, env, S1, sm1, er1, w1⟩
end
end Mi

namespace Mi
open PySem L2 PySem.Spec PyProof.Rows

section
variable {X : Cx} {N : Nm} {Y : Fs} {ea eb ec : PySem.Expr} {a b c : E} {es : Es} {xs : List PySem.Expr} {pos : Pos}

/-! ### lists of parts -/
theorem es_nil : PA X [] (tEs N Y .nil) :=
  PA.imp pa_nil fun σ H Q h => by
    obtain ⟨β, env, S, sm, er, w⟩ := h
    exact w.here sm .nil
theorem es_cons (hs : starEach (ea :: xs) X.env = (false, eval ea X.env) :: starEach xs X.env) (h1 : PE X ea (tE N Y a)) (h2 : PA X xs (tEs N Y es)) : PA X (ea :: xs) (tEs N Y (.cons a es)) :=
  PA.imp (pa_cons h1 h2 hs) fun σ H Q h => by
    obtain ⟨β, env, S, sm, er, w⟩ := h
    refine tE_bind (R' := RDs N) sm er w fun d S1 β1 H1 v x1 sm1 er1 r1 w1 => ?_
    refine tEs_bind (R' := RDs N) sm1 er1 w1 fun d2 S2 β2 H2 v2 x2 sm2 er2 r2 w2 => ?_
    exact w2.here sm2 (.cons (r1.nxt sm1 x2) r2)
theorem e_tup {k : Nat} (h : PA X xs (tEs N Y es)) : PE X (.Tuple xs k pos) (tE N Y (.tup es)) :=
  PE.imp (pe_tup h) fun σ H Q h => by
    obtain ⟨β, env, S, sm, er, w⟩ := h
    refine tEs_bind (R' := RD N) sm er w fun d S1 β1 H1 v x1 sm1 er1 r1 w1 => ?_
    split at w1
    · rename_i hl
      exact ⟨by rw [← r1.length, ← lim_eq]; exact hl, w1.tup sm1 r1⟩
    · exact w1.elim
theorem e_lst (h : PA X xs (tEs N Y es)) : PE X (.List xs pos) (tE N Y (.lst es)) :=
  PE.imp (pe_lst h) fun σ H Q h => by
    obtain ⟨β, env, S, sm, er, w⟩ := h
    refine tEs_bind (R' := RD N) sm er w fun d S1 β1 H1 v x1 sm1 er1 r1 w1 => ?_
    split at w1
    · rename_i hl
      exact ⟨by rw [← r1.length, ← lim_eq]; exact hl, w1.newL sm1 r1⟩
    · exact w1.elim
theorem e_idx (hK : X.K = N.K) (hW : HW X N) (hu : X.A.units + 1 < cLine) (hs : PlainIx eb) (ha : PE X ea (tE N Y a)) (hb : PE X eb (tE N Y b)) : PE X (.Subscript ea eb pos) (tE N Y (.idx a b)) :=
  PE.imp (pe_ix (ix_all hK hW hu) ha hb hs) fun σ H Q h => by
    obtain ⟨β, env, S, sm, er, w⟩ := h
    refine tE_bind (R' := RD N) sm er w fun d S1 β1 H1 v x1 sm1 er1 r1 w1 => ?_
    refine tE_bind (R' := RD N) sm1 er1 w1 fun d2 S2 β2 H2 v2 x2 sm2 er2 r2 w2 => ?_
    exact ⟨β2, S2, d, d2, sm2, r1.nxt sm1 x2, r2, w2⟩
theorem e_slc00 (hK : X.K = N.K) {lo hi : E} {p2 : Pos} (ha : PE X ea (tE N Y a)) : PE X (.Subscript ea (.Slice none none none p2) pos) (tE N Y (.slc a false false lo hi)) :=
  PE.imp (pe_slice (sl_all hK) ha po_none po_none) fun σ H Q h => by
    obtain ⟨β, env, S, sm, er, w⟩ := h
    refine tE_bind (R' := RD N) sm er w fun d S1 β1 H1 v x1 sm1 er1 r1 w1 => ?_
    exact ⟨β1, S1, d, sm1, r1, w1⟩
theorem e_slc10 (hK : X.K = N.K) {lo hi : E} {p2 : Pos} (ha : PE X ea (tE N Y a)) (hb : PE X eb (tE N Y lo)) : PE X (.Subscript ea (.Slice (some eb) none none p2) pos) (tE N Y (.slc a true false lo hi)) :=
  PE.imp (pe_slice (sl_all hK) ha (po_some hb) po_none) fun σ H Q h => by
    obtain ⟨β, env, S, sm, er, w⟩ := h
    refine tE_bind (R' := RD N) sm er w fun d S1 β1 H1 v x1 sm1 er1 r1 w1 => ?_
    refine tE_bind (R' := RD N) sm1 er1 w1 fun d2 S2 β2 H2 v2 x2 sm2 er2 r2 w2 => ?_
    split at w2
    · cases r2
      exact ⟨_, rfl, ⟨β2, S2, d, sm2, r1.nxt sm1 x2, w2⟩⟩
    · exact w2.elim
theorem e_slc01 (hK : X.K = N.K) {lo hi : E} {p2 : Pos} (ha : PE X ea (tE N Y a)) (hb : PE X eb (tE N Y hi)) : PE X (.Subscript ea (.Slice none (some eb) none p2) pos) (tE N Y (.slc a false true lo hi)) :=
  PE.imp (pe_slice (sl_all hK) ha po_none (po_some hb)) fun σ H Q h => by
    obtain ⟨β, env, S, sm, er, w⟩ := h
    refine tE_bind (R' := RD N) sm er w fun d S1 β1 H1 v x1 sm1 er1 r1 w1 => ?_
    refine tE_bind (R' := RD N) sm1 er1 w1 fun d2 S2 β2 H2 v2 x2 sm2 er2 r2 w2 => ?_
    split at w2
    · cases r2
      exact ⟨_, rfl, ⟨β2, S2, d, sm2, r1.nxt sm1 x2, w2⟩⟩
    · exact w2.elim
theorem e_slc11 (hK : X.K = N.K) {lo hi : E} {p2 : Pos} (ha : PE X ea (tE N Y a)) (hb : PE X eb (tE N Y lo)) (hc : PE X ec (tE N Y hi)) : PE X (.Subscript ea (.Slice (some eb) (some ec) none p2) pos) (tE N Y (.slc a true true lo hi)) :=
  PE.imp (pe_slice (sl_all hK) ha (po_some hb) (po_some hc)) fun σ H Q h => by
    obtain ⟨β, env, S, sm, er, w⟩ := h
    refine tE_bind (R' := RD N) sm er w fun d S1 β1 H1 v x1 sm1 er1 r1 w1 => ?_
    refine tE_bind (R' := RD N) sm1 er1 w1 fun d2 S2 β2 H2 v2 x2 sm2 er2 r2 w2 => ?_
    cases d2 with
    | int i =>
      cases r2
      refine ⟨_, rfl, ?_⟩
      refine tE_bind (R' := RD N) sm2 er2 w2 fun d3 S3 β3 H3 v3 x3 sm3 er3 r3 w3 => ?_
      split at w3
      · cases r3
        exact ⟨_, rfl, ⟨β3, S3, d, sm3, (r1.nxt sm1 x2).nxt sm2 x3, w3⟩⟩
      · exact w3.elim
    | _ => exact w2.elim
/-- calls -/
def spF (N : Nm) (F : List D → Sto → Out D) : Sp := fun vs H Q E => ∃ β S ds, Sim N β S H ∧ VRs N.K β H ds vs ∧ Want (N.with E fun _ => True) (RD N) β H (F ds S) Q
structure CalledAs (X : Cx) (N : Nm) (Y : Fs) (f : Nat) (x : Str) : Prop where
  ex : ∃ (fa : Addr) (fd : FuncData) (ps : List Str) (k : Nat), X.mg x = some (.ref fa) ∧ PySem.W.keepIn X.K (.ref fa) = true ∧ FnOk X.prog X.w X.K X.mg X.base (L2.CX X.prog X.w) k fa fd ps (spF N (Y.f f)) ∧ Room k X.A ∧ Binds X.K fd ps []
/-- what may leave a call of ours -/
abbrev WN (N : Nm) : WX := fun cls d σ H => N.ok σ ∧ N.ex cls d H
theorem pe_call0S {CX : CXT} {k : Nat} {f : Addr} {fd : FuncData} {ps : List Str} {sp : Sp} {E : L2.St → XK} {x : Str} {p pos : Pos} (F : FnOk X.prog X.w X.K X.mg X.base CX k f fd ps sp) (hr : Room k X.A) (hg : Gl X x) (hm : X.mg x = some (.ref f)) (hk : PySem.W.keepIn X.K (.ref f) = true) (hb : Binds X.K fd ps [])
    (hx : ∀ σ, PassesAt CX X σ (E σ)) (hdb : (x == ("__debug__" : Str)) = false) : PE X (.Call (.Name x p) [] [] pos) (tCallS sp E tNil) :=
  ⟨fun pins s σ H Q I h => wpAny_Call_Name_kw (ld_glob I hg hm (PySem.W.callWith_K0 I.kIn hk (run_fnS (us := []) F hr hb (hx σ) I .nil h)) hdb)⟩
theorem e_call0 {f : Nat} {x : Str} {p : Pos} (tk : Takes X (WN N)) (C : CalledAs X N Y f x) (hg : Gl X x) (hdb : (x == ("__debug__" : Str)) = false) : PE X (.Call (.Name x p) [] [] pos) (tE N Y (.call f .nil)) := by
  obtain ⟨fa, fd, ps, k, hm, hk, F, hr, hb⟩ := C.ex
  refine PE.imp (pe_call0S F hr hg hm hk hb (fun σ => passAt tk σ) hdb) fun σ H Q q => ?_
  obtain ⟨β, env, S, sm, er, w⟩ := q
  have w : Want N (RD N) β H (Y.f f [] S) Q := w
  exact ⟨β, S, [], sm, .nil, w.with fun c d H' h => ⟨er.ok, h⟩⟩
theorem e_call {f : Nat} {x : Str} {p : Pos} (tk : Takes X (WN N)) (C : CalledAs X N Y f x) (hg : Gl X x) (hdb : (x == ("__debug__" : Str)) = false) (h1 : starEach (ea :: xs) X.env = (false, eval ea X.env) :: starEach xs X.env) (h2 : (backTo pos (starEach xs X.env)).any (·.1) = false)
    (h : PA X (ea :: xs) (tEs N Y es)) : PE X (.Call (.Name x p) (ea :: xs) [] pos) (tE N Y (.call f es)) := by
  obtain ⟨fa, fd, ps, k, hm, hk, F, hr, hb⟩ := C.ex
  refine PE.imp (pe_callS F hr hg hm hk hb (fun σ => passAt tk σ) h hdb h1 h2) fun σ H Q h => ?_
  obtain ⟨β, env, S, sm, er, w⟩ := h
  refine tEs_bind (R' := RD N) sm er w fun d S1 β1 H1 v x1 sm1 er1 r1 w1 => ?_
  exact ⟨β1, S1, d, sm1, r1, w1.with fun c d H' h => ⟨er1.ok, h⟩⟩
theorem e_bi (hK : X.K = N.K) (hW : HW X N) (hu : X.A.units + 65 < cLine) (hc : X.calm = true) {f : BI} {x : Str} {p : Pos} (hg : Gl X x) (hm : X.mg x = none) (hv : bootBuiltins x = some f.val) (hn : x ≠ "__name__") (hdb : (x == ("__debug__" : Str)) = false) (h1 : starEach (ea :: xs) X.env = (false, eval ea X.env) :: starEach xs X.env) (h2 : (backTo pos (starEach xs X.env)).any (·.1) = false)
    (h : PA X (ea :: xs) (tEs N Y es)) : PE X (.Call (.Name x p) (ea :: xs) [] pos) (tE N Y (.bi f es)) := by
  have r := bi_ok (X := X) (N := N) hK hW hu hc f
  have key : ∀ σ H Q, tE N Y (.bi f es) σ H Q → tCB (rs N (biD f)) (tEs N Y es) σ H Q := fun σ H Q h => by
    obtain ⟨β, env, S, sm, er, w⟩ := h
    refine tEs_bind (R' := RD N) sm er w fun d S1 β1 H1 v x1 sm1 er1 r1 w1 => ?_
    exact ⟨β1, S1, d, sm1, r1, w1⟩
  cases f <;> first
    | exact PE.imp (pe_callB r hg hm hv h hn hdb h1 h2) key
    | exact PE.imp (pe_callTy r hg hm hv h hn hdb h1 h2) key

/-! ### methods -/
/-- of that type, dicts of ours too -/
def tyX (P : Program) (w : World) (K : PySem.W.Frag) (T : String) (x : V) (H : Hp) : Prop := tyV K T x H ∨ (T = "dict" ∧ ∃ a xs, x = .ref a ∧ H a = some (.ext (rawT P w a xs)))
theorem tyX_is {pins : List (Addr × Obj)} {σ : L2.St} {H : Hp} {s : Shared} {T : String} {x : V} {v : Value} (I : Inv X pins σ H s) (r : RelV x v) (ty : tyX X.prog X.w X.K T x H) : s.TypeIs v T ∧ ∀ a, v = .ref a → ∃ ob, s.heap.get? a = some ob ∧ ob.dict = none := by
  rcases ty with ty | ⟨rfl, a, xs, rfl, e⟩
  · exact tyV_is I r ty
  · cases r
    obtain ⟨z, y, us, r3, o, es, ho, hc, _⟩ := rawT_at I e
    refine ⟨⟨o, ho, hc.1⟩, fun b q => ?_⟩
    cases q
    exact ⟨o, ho, hc.2.1⟩
def tBX0 (P : Program) (w : World) (K : PySem.W.Frag) (T : String) (r : V → List V → Hp → VK → Prop) (to : TE) : TE := fun σ H Q => to σ H fun x H1 => tyX P w K T x H1 ∧ r x [] H1 Q
def tBX (P : Program) (w : World) (K : PySem.W.Frag) (T : String) (r : V → List V → Hp → VK → Prop) (to : TE) (t : TA) : TE := fun σ H Q => to σ H fun x H1 => tyX P w K T x H1 ∧ t σ H1 fun xs H2 => r x xs H2 Q
section
variable {o e : PySem.Expr} {es : List PySem.Expr} {to : TE} {t : TA} {name : Str} {apos cpos : Pos} {T id : String} {r : V → List V → Hp → VK → Prop}
theorem pe_bx0 (pa : PlainAttrs T) (slot : Slot T name id) (hty : typeOf (.builtin id) = pure (.type "method_descriptor")) (hm : MtR X id r) (ho : PE X o to)
    (hbase : attributeBase o name X.env (eval o X.env) = eval o X.env) (hline : (apos.endLine == cpos.line) = true) : PE X (.Call (.Attribute o name apos) [] [] cpos) (tBX0 X.prog X.w X.K T r to) := by
  refine ⟨fun pins s σ H Q I h => ?_⟩
  refine wpAny_Call_method0_late hbase hline (thn (ho.run pins s σ H _ I h) fun v s1 ⟨x, H1, I1, r1, ty, q1⟩ => ?_)
  obtain ⟨h1, h2⟩ := tyX_is I1 r1 ty
  exact ⟨T, id, pa, slot, hty, h1, h2, Calls.callWith_builtin rfl (PySem.evalArgs_none (hm pins s1 σ H1 x [] v [] Q I1 r1 .nil q1))⟩
theorem pe_bx (pa : PlainAttrs T) (slot : Slot T name id) (hty : typeOf (.builtin id) = pure (.type "method_descriptor")) (hm : MtR X id r) (ho : PE X o to) (ha : PA X (e :: es) t)
    (hbase : attributeBase o name X.env (eval o X.env) = eval o X.env)
    (hfew : ((backTo cpos (starEach (e :: es) X.env)).all (fun x => !x.1) && (backToKw cpos (keywordEach [] X.env)).all (fun x => x.1.isSome)
      && decide ((e :: es).length + ([] : List Keyword).length + (if ([] : List Keyword).isEmpty then 0 else 1) < 30)) = true)
    (hline : (apos.endLine == cpos.line) = true) (hs : starEach (e :: es) X.env = (false, eval e X.env) :: starEach es X.env) (hplain : (backTo cpos (starEach es X.env)).any (·.1) = false) :
    PE X (.Call (.Attribute o name apos) (e :: es) [] cpos) (tBX X.prog X.w X.K T r to t) := by
  refine ⟨fun pins s σ H Q I h => ?_⟩
  refine wpAny_Call_method_late hbase hfew hline rfl (thn (ho.run pins s σ H _ I h) fun v s1 ⟨x, H1, I1, r1, ty, q1⟩ => ?_)
  obtain ⟨h1, h2⟩ := tyX_is I1 r1 ty
  refine ⟨T, id, pa, slot, hty, h1, h2, ?_⟩
  have hA := ha.run cpos pins s1 σ H1 _ I1 q1
  rw [hs] at hA ⊢
  refine Calls.callWith_builtin (by show (false || (backTo cpos (starEach es X.env)).any (·.1)) = false; rw [hplain] <;> rfl) (Calls.evalArgs_plain ?_)
  exact thn hA fun us s2 ⟨vs, H2, I2, r2, q2⟩ => hm pins s2 σ H2 x vs v us Q I2 r1 r2 q2
end
theorem bmK_ty {m : BM} {d : D} {S : Sto} {β : Bt} {H : Hp} {v : V} (sm : Sim N β S H) (r : VR N.K β H d v) (h : bmK m d S = true) : tyX N.P N.w N.K (if m.isL = true then "list" else "dict") v H := by
  unfold bmK at h
  split at h
  · cases r with
    | ref hb =>
      split at h
      · rename_i hx
        obtain ⟨vs, e, _⟩ := sm.at hb hx
        have hl : m.isL = true := by cases m <;> first | rfl | exact h
        rw [hl]
        exact .inl (.inl ⟨rfl, vs, SqL.of e⟩)
      · rename_i hx
        obtain ⟨ks, e, _⟩ := sm.at hb hx
        have hl : m.isL = false := by cases m <;> first | rfl | exact absurd h Bool.false_ne_true
        rw [hl]
        exact .inl (.inr (.inr (.inl ⟨rfl, .inl ⟨ks, e⟩⟩)))
      · rename_i hx
        obtain ⟨ks, e, _⟩ := sm.at hb hx
        have hl : m.isL = false := by cases m <;> first | rfl | exact absurd h Bool.false_ne_true
        rw [hl]
        exact .inr ⟨rfl, _, ks, rfl, e⟩
      · cases h
  · cases h
def BM.nm : BM → Str
  | .append => "append"
  | .extend => "extend"
  | .pop => "pop"
  | .popAt => "pop"
  | .clear => "clear"
  | .reverse => "reverse"
  | .index => "index"
  | .count => "count"
  | .get1 => "get"
  | .get2 => "get"
  | .update => "update"
def BM.T (m : BM) : String := if m.isL = true then "list" else "dict"
theorem bm_pa (m : BM) : PlainAttrs m.T := by
  cases m <;> first | exact PySem.F.plainAttrs_list | exact PySem.F.plainAttrs_dict
theorem bm_slot (m : BM) : Slot m.T m.nm m.id := by
  cases m
  · exact PySem.F.slot_list_append
  · exact PySem.F.slot_list_extend
  · exact PySem.F.slot_list_pop
  · exact PySem.F.slot_list_pop
  · exact PySem.F.slot_list_clear
  · exact PySem.F.slot_list_reverse
  · exact PySem.F.slot_list_index
  · exact PySem.F.slot_list_count
  · exact PySem.F.slot_dict_get
  · exact PySem.F.slot_dict_get
  · exact PySem.F.slot_dict_update
theorem bm_type (m : BM) : typeOf (.builtin m.id) = pure (.type "method_descriptor") := by
  cases m
  · exact PySem.F.type_list_append
  · exact PySem.F.type_list_extend
  · exact PySem.F.type_list_pop
  · exact PySem.F.type_list_pop
  · exact PySem.F.type_list_clear
  · exact PySem.F.type_list_reverse
  · exact PySem.F.type_list_index
  · exact PySem.F.type_list_count
  · exact PySem.F.type_dict_get
  · exact PySem.F.type_dict_get
  · exact PySem.F.type_dict_update
theorem e_bm0 (hK : X.K = N.K) (hW : HW X N) (hu : X.A.units + 65 < cLine) {m : BM} {apos : Pos} (ha : PE X ea (tE N Y a)) (hbase : attributeBase ea m.nm X.env (eval ea X.env) = eval ea X.env) (hline : (apos.endLine == pos.line) = true) :
    PE X (.Call (.Attribute ea m.nm apos) [] [] pos) (tE N Y (.bm m a .nil)) := by
  have p := pe_bx0 (X := X) (cpos := pos) (apos := apos) (bm_pa m) (bm_slot m) (bm_type m) (bm_ok hK hW hu m) ha hbase hline
  rw [hK, hW.p, hW.w] at p
  refine PE.imp p fun σ H Q h => ?_
  obtain ⟨β, env, S, sm, er, w⟩ := h
  refine tE_bind (R' := RD N) sm er w fun d S1 β1 H1 v x1 sm1 er1 r1 w1 => ?_
  split at w1
  · rename_i hk
    exact ⟨bmK_ty sm1 r1 hk, β1, S1, d, [], sm1, r1, .nil, w1⟩
  · exact w1.elim
theorem e_bm (hK : X.K = N.K) (hW : HW X N) (hu : X.A.units + 65 < cLine) {m : BM} {apos : Pos} (ha : PE X ea (tE N Y a)) (h : PA X (eb :: xs) (tEs N Y es)) (hbase : attributeBase ea m.nm X.env (eval ea X.env) = eval ea X.env)
    (hfew : ((backTo pos (starEach (eb :: xs) X.env)).all (fun x => !x.1) && (backToKw pos (keywordEach [] X.env)).all (fun x => x.1.isSome)
      && decide ((eb :: xs).length + ([] : List Keyword).length + (if ([] : List Keyword).isEmpty then 0 else 1) < 30)) = true)
    (hline : (apos.endLine == pos.line) = true) (h1 : starEach (eb :: xs) X.env = (false, eval eb X.env) :: starEach xs X.env) (h2 : (backTo pos (starEach xs X.env)).any (·.1) = false) :
    PE X (.Call (.Attribute ea m.nm apos) (eb :: xs) [] pos) (tE N Y (.bm m a es)) := by
  have p := pe_bx (X := X) (cpos := pos) (apos := apos) (bm_pa m) (bm_slot m) (bm_type m) (bm_ok hK hW hu m) ha h hbase hfew hline h1 h2
  rw [hK, hW.p, hW.w] at p
  refine PE.imp p fun σ H Q h => ?_
  obtain ⟨β, env, S, sm, er, w⟩ := h
  refine tE_bind (R' := RD N) sm er w fun d S1 β1 H1 v x1 sm1 er1 r1 w1 => ?_
  split at w1
  · rename_i hk
    refine ⟨bmK_ty sm1 r1 hk, ?_⟩
    refine tEs_bind (R' := RD N) sm1 er1 w1 fun d2 S2 β2 H2 v2 x2 sm2 er2 r2 w2 => ?_
    exact ⟨β2, S2, d, d2, sm2, r1.nxt sm1 x2, r2, w2⟩
  · exact w1.elim

/-! ### texts joined -/
theorem strs_rel {K : PySem.W.Frag} {β : Bt} {H : Hp} : ∀ {xs : List D} {vs : List V} {ys : List Str}, VRs K β H xs vs → xs.mapM D.strOf = some ys → vs = ys.map V.str
  | [], _, _, r, h => by
    cases r; simp at h; subst h; rfl
  | d :: ds, _, _, r, h => by
    cases r with
    | cons a b =>
      rw [List.mapM_cons] at h
      simp only [bind, Option.bind_eq_some_iff] at h
      obtain ⟨p, h1, qs, h2, h3⟩ := h
      cases h3
      cases d <;> simp [D.strOf] at h1
      subst h1
      cases a
      rw [strs_rel b h2]
      rfl
theorem e_join {apos : Pos} (hK : X.K = N.K) (ha : PE X ea (tE N Y a)) (hb : PE X eb (tE N Y b)) (hs : starEach [eb] X.env = [(false, eval eb X.env)]) (hbase : attributeBase ea "join" X.env (eval ea X.env) = eval ea X.env) (hline : (apos.endLine == pos.line) = true) :
    PE X (.Call (.Attribute ea "join" apos) [eb] [] pos) (tE N Y (.join a b)) := by
  have p := pe_join (X := X) (pos := pos) (apos := apos) ha hb hs hbase hline
  rw [hK] at p
  refine PE.imp p fun σ H Q h => ?_
  obtain ⟨β, env, S, sm, er, w⟩ := h
  refine tE_bind (R' := RD N) sm er w fun d S1 β1 H1 v x1 sm1 er1 r1 w1 => ?_
  split at w1
  · rename_i s
    cases r1
    refine ⟨⟨s, rfl⟩, ?_⟩
    refine tE_bind (R' := RD N) sm1 er1 w1 fun d2 S2 β2 H2 v2 x2 sm2 er2 r2 w2 => ?_
    unfold joinD at w2
    simp only at w2
    split at w2
    · rename_i ys hy
      split at w2
      · rename_i hl
        obtain ⟨xs, h1, h2⟩ := Option.bind_eq_some_iff.mp hy
        have key : ∃ q, v2 = .ref q ∧ (SqL N.K H2 q (ys.map V.str) ∨ SqT N.K H2 q (ys.map V.str)) := by
          split at h1
          · cases h1
            cases r2 with
            | tup ra rb => exact ⟨_, rfl, .inr (by rw [← strs_rel rb h2]; exact ra)⟩
          · obtain ⟨q, vs, rfl, k1, k2⟩ := sm2.seq r2 h1
            exact ⟨q, rfl, .inl (by rw [← strs_rel k2 h2]; exact k1)⟩
        obtain ⟨q, rfl, hq⟩ := key
        exact ⟨s, q, ys, rfl, rfl, hq, hl, w2.here sm2 (.str _)⟩
      · exact w2.elim
    · exact w2.elim
  · exact w1.elim

/-! ### isinstance -/
theorem e_isi1 (hK : X.K = N.K) {k : KT} {x n : Str} {p p2 : Pos} (hg : Gl X x) (hm : X.mg x = none) (hv : bootBuiltins x = some (.builtin "isinstance")) (hn : x ≠ "__name__") (hdb : (x == ("__debug__" : Str)) = false)
    (hg2 : Gl X n) (hm2 : X.mg n = none) (hv2 : bootBuiltins n = some (.type k.name)) (hn2 : n ≠ "__name__") (hdb2 : (n == ("__debug__" : Str)) = false) (hs : starEach (ea :: [PySem.Expr.Name n p2]) X.env = (false, eval ea X.env) :: starEach [PySem.Expr.Name n p2] X.env)
    (ha : PE X ea (tE N Y a)) : PE X (.Call (.Name x p) [ea, .Name n p2] [] pos) (tE N Y (.isi a true [.b k])) := by
  have r := call_isi (X := X)
  rw [hK] at r
  refine PE.imp (pe_callB r hg hm hv (pa_cons ha (pa_cons (pe_bltn (v := .ty k.name) hg2 hm2 hv2 rfl hn2 hdb2) pa_nil) hs) hn hdb hs) fun σ H Q h => ?_
  obtain ⟨β, env, S, sm, er, w⟩ := h
  refine tE_bind (R' := RD N) sm er w fun d S1 β1 H1 v x1 sm1 er1 r1 w1 => ?_
  obtain ⟨b, hb, q⟩ := Want.obl w1 sm1
  have hb' : isTy S1 d (.b k) = some b := by
    unfold isTys at hb
    split at hb
    · rename_i e; cases hb; exact e
    · rename_i e; simp [isTys] at hb; subst hb; exact e
    · cases hb
  obtain ⟨u, k', e1, e2, e3⟩ := isTy_kit (K := N.K) hb'
  exact ⟨v, .ty k.name, _, _, b, rfl, .ty _, ty_rel sm1 r1 e1, e3, q⟩
def tTys (ts : List Ty) : TA := fun _ H Q => Q (ts.map Ty.val) H
theorem e_isiT (hK : X.K = N.K) {ts : List Ty} {x : Str} {k : Nat} {p p2 : Pos} (hg : Gl X x) (hm : X.mg x = none) (hv : bootBuiltins x = some (.builtin "isinstance")) (hn : x ≠ "__name__") (hdb : (x == ("__debug__" : Str)) = false)
    (hts : PA X xs (tTys ts)) (hown : ∀ t ∈ ts, ∃ k, t = .b k) (hlen : ts.length ≤ 100) (hne : ts ≠ []) (hs : starEach (ea :: [PySem.Expr.Tuple xs k p2]) X.env = (false, eval ea X.env) :: starEach [PySem.Expr.Tuple xs k p2] X.env)
    (ha : PE X ea (tE N Y a)) : PE X (.Call (.Name x p) [ea, .Tuple xs k p2] [] pos) (tE N Y (.isi a false ts)) := by
  have r := call_isiT (X := X)
  rw [hK] at r
  refine PE.imp (pe_callB r hg hm hv (pa_cons ha (pa_cons (pe_tup hts) pa_nil) hs) hn hdb hs) fun σ H Q h => ?_
  obtain ⟨β, env, S, sm, er, w⟩ := h
  refine tE_bind (R' := RD N) sm er w fun d S1 β1 H1 v x1 sm1 er1 r1 w1 => ?_
  obtain ⟨b, hb, q⟩ := Want.obl w1 sm1
  refine ⟨by rw [List.length_map, sizeLine_eq]; omega, fun tp htp => ?_⟩
  have hq : Q (.bl b) (upd H1 tp (.tup (ts.map Ty.val))) := by
    rw [hb] at w1
    exact Want.at (R := RD N) (a := .bl b) (S := S1) w1 (.lay htp) (sm1.lay htp) (.bl b)
  have hu : ∃ u, tyName S1 d = some (.inl u) := by
    cases ts with
    | nil => exact absurd rfl hne
    | cons t ts =>
      unfold isTys at hb
      split at hb
      · rename_i e
        obtain ⟨u, _, e1, _⟩ := isTy_kit (K := N.K) e
        exact ⟨u, e1⟩
      · rename_i e
        obtain ⟨u, _, e1, _⟩ := isTy_kit (K := N.K) e
        exact ⟨u, e1⟩
      · cases hb
  obtain ⟨u, hu⟩ := hu
  have r2 := r1.nxt sm1 (Nxt.lay (o := .tup (ts.map Ty.val)) htp)
  refine ⟨v, tp, ts.map Ty.val, _, ts.map Ty.vl, b, rfl, upd_same, ?_, ty_rel (sm1.lay htp) r2 hu, (isTys_kit (K := N.K) hu hb).1, hq⟩
  clear hb hq hlen w1 hts r hne w r2
  induction ts with
  | nil => exact .nil
  | cons t ts ih =>
    obtain ⟨k, rfl⟩ := hown t (List.mem_cons_self ..)
    exact .cons (.ty _) (ih (fun t ht => hown t (List.mem_cons_of_mem _ ht)))
end
end Mi

/-! zip of two things, each a list or a tuple, whichever stands first. -/
namespace Mi
open PySem L2 PySem.Spec PyProof.Rows RZ
/-- what is zipped: a list, a tuple -/
inductive Sk where
  | l | t
namespace Sk
def it : Sk → Heap → Addr → Addr → Nat → Prop
  | .l, h, i, a, k => h.IsListIter i a k
  | .t, h, i, a, k => h.IsTupleIter i a k
def sq : Sk → Heap → Addr → Array Value → Prop
  | .l, h, a, xs => h.IsList a xs
  | .t, h, a, xs => h.IsTuple a xs
def nm : Sk → String
  | .l => "list_iterator"
  | .t => "tuple_iterator"
def begin (p : Sk) (a : Addr) : Obj := { cls := .type p.nm, data := .fields #[.ref a, .int 0 0] }
/-- the walk's view of it -/
def at_ (p : Sk) (K : PySem.W.Frag) (H : Hp) (a : Addr) (xs : List V) : Prop := match p with
  | .l => SqL K H a xs
  | .t => SqT K H a xs
variable {p : Sk} {h h' : Heap} {i a c : Addr} {k : Nat} {xs : Array Value}
theorem it_ext (x : p.it h i a k) (e : Heap.ExtBut c h h') (n : i ≠ c) : p.it h' i a k := by
  cases p with
  | l => exact Heap.IsListIter.extBut x e n
  | t => exact Heap.IsTupleIter.extBut x e n
theorem it_at (x : p.it h i a k) (e : ∀ o, h.get? i = some o → h'.get? i = some o) : p.it h' i a k := by
  cases p with
  | l => exact Heap.IsListIter.at x e
  | t => exact Heap.IsTupleIter.at x e
theorem it_lt (x : p.it h i a k) : i < h.objs.size := by
  cases p with
  | l => obtain ⟨_, e, _⟩ := x; exact Heap.lt_size e
  | t => obtain ⟨_, e, _⟩ := x; exact Heap.lt_size e
theorem it_obj (x : p.it h i a k) : ∃ o, h.get? i = some o ∧ ∀ v, o.data ≠ .cell v := by
  cases p with
  | l => obtain ⟨o, e, _, d⟩ := x; exact ⟨o, e, fun v q => by rw [d] at q; cases q⟩
  | t => obtain ⟨o, e, _, d⟩ := x; exact ⟨o, e, fun v q => by rw [d] at q; cases q⟩
theorem it_new (e : h.get? i = some (p.begin a)) : p.it h i a 0 := by
  cases p with
  | l => exact ⟨_, e, rfl, rfl⟩
  | t => exact ⟨_, e, rfl, rfl⟩
theorem sq_ext (x : p.sq h a xs) (e : Heap.ExtBut c h h') (n : a ≠ c) : p.sq h' a xs := by
  cases p with
  | l => exact Heap.IsList.extBut x e n
  | t => exact Heap.IsTuple.extBut x e n
theorem sq_push (x : p.sq h a xs) (o : Obj) : p.sq (h.push o) a xs := by
  cases p with
  | l => exact Heap.IsList.push x o
  | t => exact Heap.IsTuple.push x o
theorem sq_lt (x : p.sq h a xs) : a < h.objs.size := by
  cases p with
  | l => obtain ⟨o, e, _⟩ := x; exact Heap.lt_size e
  | t => obtain ⟨o, e, _⟩ := x; exact Heap.lt_size e
section
variable {prog : Program} {w : World} {A : Around} {E : Value → Shared → Prop} {s : Shared}
theorem item {x : Value} {Q : Value → Shared → Prop} (hi : p.it s.heap i a k) (hs : p.sq s.heap a xs) (hx : xs[k]? = some x) (h : ∀ h', p.it h' i a (k + 1) → Heap.SameBut i s.heap h' → Q x { s with heap := h' }) :
    wpAny (model prog w) A (Builtin.SmallTypes.nextOf (.ref i)) Q E s := by
  cases p with
  | l => exact wpAny_nextOf_list_item hi hs hx h
  | t => exact nextOf_tuple_item hi hs hx h
theorem stop {Q : Value → Shared → Prop} (hh : A.handled = none) (hi : p.it s.heap i a k) (hs : p.sq s.heap a xs) (hx : xs[k]? = none) (h : ∀ h' e, Heap.ExtBut i s.heap h' → (∃ o, h'.get? e = some o ∧ o.cls = .type "StopIteration") → E (.ref e) { s with heap := h' }) :
    wpAny (model prog w) A (Builtin.SmallTypes.nextOf (.ref i)) Q E s := by
  cases p with
  | l => exact wpAny_nextOf_list_end hh hi hs hx h
  | t => exact nextOf_tuple_end hh hi hs hx h
theorem iter {Q : Value → Shared → Prop} (hs : p.sq s.heap a xs) (h : Q (.ref s.heap.objs.size) { s with heap := s.heap.push (p.begin a) }) : wpAny (model prog w) A (pyIter (.ref a)) Q E s := by
  cases p with
  | l => exact wpAny_pyIter_list hs h
  | t => exact wpAny_pyIter_tuple hs h
end
end Sk
/-- the zip's own things within a heap -/
structure Zp (h : Heap) (z TI TO i1 i2 : Addr) (f a b : Value) : Prop where
  z : IsZip h z TI TO f
  ti : IsPair h TI (.ref i1) (.ref i2)
  to : IsPair h TO a b
section
variable {prog : Program} {w : World} {A : Around} {E : Value → Shared → Prop} {s : Shared}
variable {z TI TO i1 i2 l1 l2 : Addr}
/-- another heap in which all but the zip's own things stayed -/
def Kept (z TO i1 i2 : Addr) (h h' : Heap) : Prop := ∀ c o, c ≠ z → c ≠ TO → c ≠ i1 → c ≠ i2 → h.get? c = some o → h'.get? c = some o
theorem Kept.refl (h : Heap) : Kept z TO i1 i2 h h := fun _ _ _ _ _ _ e => e
theorem Kept.zz {h h1 h2 : Heap} (k : Kept z TO i1 i2 h h1) (e : Heap.ExtBut z h1 h2) : Kept z TO i1 i2 h h2 := fun c o a b d f q => e _ _ a (k c o a b d f q)
theorem Kept.t {h h1 h2 : Heap} (k : Kept z TO i1 i2 h h1) (e : Heap.ExtBut TO h1 h2) : Kept z TO i1 i2 h h2 := fun c o a b d f q => e _ _ b (k c o a b d f q)
theorem Kept.i {h h1 h2 : Heap} (k : Kept z TO i1 i2 h h1) (e : Heap.ExtBut i1 h1 h2) : Kept z TO i1 i2 h h2 := fun c o a b d f q => e _ _ d (k c o a b d f q)
theorem Kept.j {h h1 h2 : Heap} (k : Kept z TO i1 i2 h h1) (e : Heap.ExtBut i2 h1 h2) : Kept z TO i1 i2 h h2 := fun c o a b d f q => e _ _ f (k c o a b d f q)
/-- the head of zip's next: its pair is free -/
theorem zs_next {p q : Sk} {k1 k2 : Nat} {xs ys : Array Value} {a b : Value} {Q : Value → Shared → Prop} (hh : xs[k1]? = none ∨ ys[k2]? = none → A.handled = none) (D : ZipApart z TI TO i1 i2 l1 l2)
    (hZ : Zp s.heap z TI TO i1 i2 .none a b) (h1 : p.it s.heap i1 l1 k1) (h2 : q.it s.heap i2 l2 k2) (hl1 : p.sq s.heap l1 xs) (hl2 : q.sq s.heap l2 ys)
    (hQ : ∀ x y, xs[k1]? = some x → ys[k2]? = some y → ∀ h', IsZip h' z TI TO (rawInt s.heap.objs.size) → IsPair h' TO x y → p.it h' i1 l1 (k1 + 1) → q.it h' i2 l2 (k2 + 1) → IsPair h' s.heap.objs.size x y → h'.objs.size = s.heap.objs.size + 1 →
      Kept z TO i1 i2 s.heap h' → Q (.ref s.heap.objs.size) { s with heap := h' })
    (hE : xs[k1]? = none ∨ ys[k2]? = none → ∀ h' e, Kept z TO i1 i2 s.heap h' → (∃ o, h'.get? e = some o ∧ o.cls = .type "StopIteration") → E (.ref e) { s with heap := h' }) :
    wpAny (model prog w) A (Builtin.«zip.__next__» ⟨[.ref z], []⟩) (fun fin s' => ∃ v, fin = .done (.ret v) ∧ Q v s') E s := by
  obtain ⟨hz, hti, hto⟩ := hZ
  show wpAny _ _ (field (.ref z) 2 >>= _) _ _ _
  refine wpAny_bind (wpAny_field hz rfl (x := .bool false) rfl ?_)
  show wpAny _ _ (field (.ref z) 3 >>= _) _ _ _
  refine wpAny_bind (wpAny_field hz rfl (x := .ref TI) rfl (wpAny_bind (wpAny_seqItems hti rfl ?_)))
  show wpAny _ _ (Builtin.SmallTypes.ownedTupleIsFree (.ref z) >>= _) _ _ _
  have free : ∀ {R : Bool → Shared → Prop}, R true s → wpAny (model prog w) A (Builtin.SmallTypes.ownedTupleIsFree (.ref z)) R E s := fun {R} r => by
    unfold Builtin.SmallTypes.ownedTupleIsFree
    exact wpAny_bind (wpAny_field hz rfl (x := .none) rfl (wpAny_pure r))
  refine wpAny_bind (free ?_)
  simp only [if_true]
  refine wpAny_bind (wpAny_rule (wpAny_bind (wpAny_field hz rfl (x := .ref TO) rfl ?_)))
  refine wpAny_bind (wpAny_setField_rec hz (by simp) fun g1 gz1 gs1 => ?_)
  replace gz1 : IsZip g1 z TI TO .ellipsis := gz1
  have w1 := gs1.1
  have gs1 := gs1.extBut
  have n1 : Kept z TO i1 i2 s.heap g1 := (Kept.refl _).zz gs1
  refine wpAny_bind ?_
  simp only [List.zipIdx_cons, List.zipIdx_nil, List.forIn_cons, List.forIn_nil]
  refine wpAny_bind (wpAny_bind (wpAny_onRaise ?_))
  show wpAny _ _ (Builtin.SmallTypes.nextOf (.ref i1) >>= _) _ _ _
  have a1 := Sk.it_ext h1 gs1 D.i1z
  have b1 := Sk.it_ext h2 gs1 D.i2z
  have c1 := Sk.sq_ext hl1 gs1 D.l1z
  have d1 := Sk.sq_ext hl2 gs1 D.l2z
  cases hx : xs[k1]? with
  | none =>
    refine wpAny_bind (Sk.stop (hh (.inl hx)) a1 c1 hx fun g2 e gs2 ⟨oe, ho, hc⟩ => ?_)
    have gz2 : IsZip g2 z TI TO .ellipsis := gs2 _ _ D.i1z.symm gz1
    have ne : e ≠ z := fun q => by subst q; rw [gz2] at ho; cases ho; simp at hc
    exact wpAny_setField_rec gz2 (by simp) fun g3 _ gs3 => hE (.inl hx) g3 e ((n1.i gs2).zz gs3.extBut) ⟨oe, gs3.extBut _ _ ne ho, hc⟩
  | some x =>
    refine wpAny_bind (Sk.item a1 c1 hx fun g2 a2 gs2 => wpAny_pure ?_)
    have w2 := gs2.1
    have gs2 := gs2.extBut
    have n2 := n1.i gs2
    have t2 : IsPair g2 TO a b := gs2 _ _ D.TOi1 (gs1 _ _ D.TOz hto)
    refine wpAny_bind (wpAny_seqItems t2 rfl (wpAny_bind (wpAny_updateSeq_pair t2 fun g3 t3 gs3 => ?_)))
    replace t3 : IsPair g3 TO x b := t3
    have w3 := gs3.1
    have gs3 := gs3.extBut
    have n3 := n2.t gs3
    refine wpAny_bind (wpAny_letGo (wpAny_pure ?_))
    refine wpAny_bind (wpAny_bind (wpAny_onRaise ?_))
    show wpAny _ _ (Builtin.SmallTypes.nextOf (.ref i2) >>= _) _ _ _
    have a3 := Sk.it_ext a2 gs3 D.TOi1.symm
    have b3 := Sk.it_ext (Sk.it_ext b1 gs2 D.i12.symm) gs3 D.TOi2.symm
    have d3 := Sk.sq_ext (Sk.sq_ext d1 gs2 D.l2i1) gs3 D.l2TO
    have z3 : IsZip g3 z TI TO .ellipsis := gs3 _ _ D.TOz.symm (gs2 _ _ D.i1z.symm gz1)
    cases hy : ys[k2]? with
    | none =>
      refine wpAny_bind (Sk.stop (hh (.inr hy)) b3 d3 hy fun g4 e gs4 ⟨oe, ho, hc⟩ => ?_)
      have z4 : IsZip g4 z TI TO .ellipsis := gs4 _ _ D.i2z.symm z3
      have ne : e ≠ z := fun q => by subst q; rw [z4] at ho; cases ho; simp at hc
      exact wpAny_setField_rec z4 (by simp) fun g5 _ gs5 => hE (.inr hy) g5 e ((n3.j gs4).zz gs5.extBut) ⟨oe, gs5.extBut _ _ ne ho, hc⟩
    | some y =>
      refine wpAny_bind (Sk.item b3 d3 hy fun g4 b4 gs4 => wpAny_pure ?_)
      have t4 : IsPair g4 TO x b := gs4.extBut _ _ D.TOi2 t3
      refine wpAny_bind (wpAny_seqItems t4 rfl (wpAny_bind (wpAny_updateSeq_pair t4 fun g5 t5 gs5 => ?_)))
      replace t5 : IsPair g5 TO x y := t5
      refine wpAny_bind (wpAny_letGo (wpAny_pure (wpAny_pure ?_)))
      refine wpAny_bind (wpAny_seqItems t5 rfl (wpAny_bind (wpAny_newTuple ?_)))
      have hsz : g5.objs.size = s.heap.objs.size := by rw [gs5.1, gs4.1, w3, w2, w1]
      have z5 : IsZip g5 z TI TO .ellipsis := gs5.extBut _ _ D.TOz.symm (gs4.extBut _ _ D.i2z.symm z3)
      have n5 := (n3.j gs4.extBut).t gs5.extBut
      have a5 := Sk.it_ext (Sk.it_ext a3 gs4.extBut D.i12) gs5.extBut D.TOi1.symm
      have b5 := Sk.it_ext b4 gs5.extBut D.TOi2.symm
      have zlt : z < g5.objs.size := Heap.lt_size z5
      have z6 : IsZip (g5.push { cls := .type "tuple", data := .seq #[x, y] }) z TI TO .ellipsis := Heap.get?_push_of_some _ z5
      show wpAny _ _ (Builtin.SmallTypes.ownedTupleHandOut (.ref z) (.ref g5.objs.size) >>= _) _ _ _
      refine wpAny_bind ?_
      unfold Builtin.SmallTypes.ownedTupleHandOut
      refine wpAny_bind (wpAny_setField_rec z6 (by simp) fun g7 z7 gs7 => ?_)
      replace z7 : IsZip g7 z TI TO (rawInt g5.objs.size) := z7
      refine wpAny_setField_rec z7 (by simp) fun g8 z8 gs8 => ?_
      replace z8 : IsZip g8 z TI TO (rawInt g5.objs.size) := z8
      have up : Heap.ExtBut z g5 g8 := fun c o c1 e => gs8.extBut _ _ c1 (gs7.extBut _ _ c1 (Heap.get?_push_of_some _ e))
      have new : IsPair g8 g5.objs.size x y := gs8.extBut _ _ (Nat.ne_of_gt zlt) (gs7.extBut _ _ (Nat.ne_of_gt zlt) (Heap.get?_push_size _ rfl))
      have sz8 : g8.objs.size = g5.objs.size + 1 := by rw [gs8.1, gs7.1, Heap.size_push]
      rw [hsz] at z8 new sz8
      refine wpAny_pure ⟨_, rfl, ?_⟩
      show Q (.ref g5.objs.size) _
      rw [hsz]
      exact hQ x y hx hy g8 z8 (up _ _ D.TOz t5) (Sk.it_ext a5 up D.i1z) (Sk.it_ext b5 up D.i2z) new sz8 (n5.zz up)
theorem zs_py {p q : Sk} {k1 k2 : Nat} {xs ys : Array Value} {a b : Value} {Q : Option Value → Shared → Prop} (hh : xs[k1]? = none ∨ ys[k2]? = none → A.handled = none) (D : ZipApart z TI TO i1 i2 l1 l2)
    (hZ : Zp s.heap z TI TO i1 i2 .none a b) (h1 : p.it s.heap i1 l1 k1) (h2 : q.it s.heap i2 l2 k2) (hl1 : p.sq s.heap l1 xs) (hl2 : q.sq s.heap l2 ys)
    (hQ : ∀ x y, xs[k1]? = some x → ys[k2]? = some y → ∀ h', IsZip h' z TI TO (rawInt s.heap.objs.size) → IsPair h' TO x y → p.it h' i1 l1 (k1 + 1) → q.it h' i2 l2 (k2 + 1) → IsPair h' s.heap.objs.size x y → h'.objs.size = s.heap.objs.size + 1 →
      Kept z TO i1 i2 s.heap h' → Q (some (.ref s.heap.objs.size)) { s with heap := h' })
    (hE : xs[k1]? = none ∨ ys[k2]? = none → ∀ h', Kept z TO i1 i2 s.heap h' → Q none { s with heap := h' }) : wpAny (model prog w) A (pyNext (.ref z)) Q E s := by
  have hT : s.TypeIs (.ref z) "zip" := ⟨_, hZ.z, rfl⟩
  unfold pyNext
  refine wpAny_bind (wpAny_attempt (wpAny_callSpecial?_slot (name := Str.ofString "__next__") hT F.slot_zip_next
    (wpAny_call_entry F.slot_zip_next hT F.entry_zip_next (zs_next (Q := fun v s' => wpAny (model prog w) A (pure (some v)) Q E s') hh D hZ h1 h2 hl1 hl2 ?_ ?_) (F.args_zip_next_1 _))))
  · exact fun x y e1 e2 h' a1 a2 a3 a4 a5 a6 a7 => wpAny_pure (hQ x y e1 e2 h' a1 a2 a3 a4 a5 a6 a7)
  · rintro e0 h' e k ⟨o, ho, hc⟩
    exact wpAny_bind (wpAny_isInstance (T := "StopIteration") (b := true) ⟨o, ho, hc⟩ isSubtype_stop (wpAny_pure (hE e0 _ k)))
/-- the heap that a new zip makes, thing by thing -/
abbrev zN (p q : Sk) (l1 l2 : Addr) (h : Heap) : Heap := ((((h.push (p.begin l1)).push (q.begin l2)).push { cls := .type "tuple", data := .seq #[.ref h.objs.size, .ref (h.push (p.begin l1)).objs.size] }).push
  { cls := .type "tuple", data := .seq #[.none, .none] })
abbrev zN' (p q : Sk) (l1 l2 : Addr) (h : Heap) : Heap := (zN p q l1 l2 h).push
  { cls := .type "zip", data := .fields #[.none, .bool false, .bool false, .ref ((h.push (p.begin l1)).push (q.begin l2)).objs.size, .ref (((h.push (p.begin l1)).push (q.begin l2)).push { cls := .type "tuple", data := .seq #[.ref h.objs.size, .ref (h.push (p.begin l1)).objs.size] }).objs.size] }
theorem zs_new (p q : Sk) (l1 l2 : Addr) (xs ys : Array Value) :
    Meets (Builtin.«zip.__new__» ⟨[.type "zip", .ref l1, .ref l2], []⟩) (fun _ R s => p.sq s.heap l1 xs ∧ q.sq s.heap l2 ys ∧ R (.ok (.ret (.ref (zN p q l1 l2 s.heap).objs.size))) { s with heap := zN' p q l1 l2 s.heap }) :=
  .of_wp fun prog w A R s h => by
    obtain ⟨hp, g, d, tk, os⟩ := s; obtain ⟨x1, x2, h⟩ := h
    have hsub := sub_zip
    have y1 : p.sq (Shared.heap ⟨hp, g, d, tk, os⟩) l1 xs := x1
    have y2 : q.sq (Shared.heap ⟨hp.push (p.begin l1), g, d, tk, os⟩) l2 ys := Sk.sq_push x2 _
    wp_walk using Sk.iter y1, Sk.iter y2
    exact ⟨_, rfl, h⟩
theorem zs_call {p q : Sk} {xs ys : Array Value} {Q : Value → Shared → Prop} (hl1 : p.sq s.heap l1 xs) (hl2 : q.sq s.heap l2 ys)
    (h : ∀ h', Zp h' (s.heap.objs.size + 4) (s.heap.objs.size + 2) (s.heap.objs.size + 3) s.heap.objs.size (s.heap.objs.size + 1) .none .none .none → p.it h' s.heap.objs.size l1 0 → q.it h' (s.heap.objs.size + 1) l2 0 → h'.objs.size = s.heap.objs.size + 5 →
      (∀ c o, s.heap.get? c = some o → h'.get? c = some o) → Q (.ref (s.heap.objs.size + 4)) { s with heap := h' }) :
    wpAny (model prog w) A (call (.type "zip") [.ref l1, .ref l2]) Q E s := by
  refine callType_new F.called_zip (by decide) (F.typeCall_zip_2 _ _) (F.newCall_zip_2 _ _) (fun obj => F.args_object_init_3 obj _ _) F.entry_zip_new (zs_new p q l1 l2 xs ys) ⟨hl1, hl2, ?_⟩
  generalize hz : zN' p q l1 l2 s.heap = h5
  have s1 : (s.heap.push (p.begin l1)).objs.size = s.heap.objs.size + 1 := Heap.size_push ..
  have s2 : ((s.heap.push (p.begin l1)).push (q.begin l2)).objs.size = s.heap.objs.size + 2 := by rw [Heap.size_push, s1]
  have s3 : (((s.heap.push (p.begin l1)).push (q.begin l2)).push { cls := .type "tuple", data := .seq #[.ref s.heap.objs.size, .ref (s.heap.push (p.begin l1)).objs.size] }).objs.size = s.heap.objs.size + 3 := by rw [Heap.size_push, s2]
  have s4 : (zN p q l1 l2 s.heap).objs.size = s.heap.objs.size + 4 := by rw [Heap.size_push, s3]
  have s5 : h5.objs.size = s.heap.objs.size + 5 := by rw [← hz, Heap.size_push, s4]
  have g5 : IsZip h5 (zN p q l1 l2 s.heap).objs.size ((s.heap.push (p.begin l1)).push (q.begin l2)).objs.size (((s.heap.push (p.begin l1)).push (q.begin l2)).push { cls := .type "tuple", data := .seq #[.ref s.heap.objs.size, .ref (s.heap.push (p.begin l1)).objs.size] }).objs.size .none := by
    rw [← hz]; exact Heap.get?_push_size _ rfl
  have g4 : h5.get? (s.heap.objs.size + 3) = some { cls := .type "tuple", data := .seq #[.none, .none] } := by
    rw [← hz, ← s3]; exact Heap.get?_push_of_some _ (Heap.get?_push_size _ rfl)
  have g3 : h5.get? (s.heap.objs.size + 2) = some { cls := .type "tuple", data := .seq #[.ref s.heap.objs.size, .ref (s.heap.push (p.begin l1)).objs.size] } := by
    rw [← hz, ← s2]; exact Heap.get?_push_of_some _ (Heap.get?_push_of_some _ (Heap.get?_push_size _ rfl))
  have g2 : h5.get? (s.heap.objs.size + 1) = some (q.begin l2) := by
    rw [← hz, ← s1]; exact Heap.get?_push_of_some _ (Heap.get?_push_of_some _ (Heap.get?_push_of_some _ (Heap.get?_push_size _ rfl)))
  have g1 : h5.get? s.heap.objs.size = some (p.begin l1) := by
    rw [← hz]; exact Heap.get?_push_of_some _ (Heap.get?_push_of_some _ (Heap.get?_push_of_some _ (Heap.get?_push_of_some _ (Heap.get?_push_size _ rfl))))
  have up : ∀ c o, s.heap.get? c = some o → h5.get? c = some o := fun c o e => by
    rw [← hz]; exact Heap.get?_push_of_some _ (Heap.get?_push_of_some _ (Heap.get?_push_of_some _ (Heap.get?_push_of_some _ (Heap.get?_push_of_some _ e))))
  rw [s2, s3, s4] at g5
  rw [s1] at g3
  rw [s4]
  exact ⟨⟨_, g5, rfl⟩, h _ ⟨g5, g3, g4⟩ (Sk.it_new g1) (Sk.it_new g2) s5 up⟩
end
/-- what zip walks: pairs of what stands at the i-th places -/
def ItS (p q : Sk) (K : PySem.W.Frag) (a b : Addr) : L2.It where
  go i H := ∃ (xs ys : List V) (x y : V), p.at_ K H a xs ∧ q.at_ K H b ys ∧ xs[i]? = some x ∧ ys[i]? = some y
  yld i H v H' := ∃ T x y, v = .ref T ∧ H T = none ∧ H' = upd H T (.tup [x, y]) ∧ (∀ xs, p.at_ K H a xs → xs[i]? = some x) ∧ ∀ ys, q.at_ K H b ys → ys[i]? = some y
  stop i H := ∃ xs ys : List V, p.at_ K H a xs ∧ q.at_ K H b ys ∧ (xs[i]? = none ∨ ys[i]? = none)
theorem Sk.reads {X : Cx} {pins : List (Addr × Obj)} {σ : L2.St} {H : Hp} {s : Shared} (I : Inv X pins σ H s) {p : Sk} {a : Addr} {xs : List V} (h : p.at_ X.K H a xs) : ∃ its, Vals xs its ∧ p.sq s.heap a its.toArray := by
  cases p with
  | l => obtain ⟨its, rv, y, _⟩ := I.list h; exact ⟨its, rv, y.isList⟩
  | t => obtain ⟨its, rv, y, _⟩ := I.tuple h; exact ⟨its, rv, y⟩
theorem Sk.one {X : Cx} {pins : List (Addr × Obj)} {σ : L2.St} {H : Hp} {s : Shared} (I : Inv X pins σ H s) {p : Sk} {a : Addr} {xs ys : List V} (h : p.at_ X.K H a xs) (k : p.at_ X.K H a ys) : xs = ys := by
  cases p with
  | l => exact I.list_inj h k
  | t => exact I.tuple_inj h k
theorem none_of {xs : List V} {its : List Value} (r : Vals xs its) {i : Nat} : its.toArray[i]? = none ↔ xs[i]? = none := by
  have := r.length
  simp; omega
theorem turn_zs {P : Program} {w : World} {K : PySem.W.Frag} {elts : List Expr} {kk : Nat} {tpos : Pos} {p q : Sk} {a b z TI TO i1 i2 : Addr} (D : ZipApart z TI TO i1 i2 a b) :
    Turn P w K (.Tuple elts kk tpos) (ItS p q K a b) [z, TI, TO, i1, i2] z (fun i h => (∃ x y, Zp h z TI TO i1 i2 .none x y) ∧ p.it h i1 a i ∧ q.it h i2 b i) where
  mem := by simp
  obj := fun i h ⟨⟨x, y, Z⟩, h1, h2⟩ c hc => by
    simp only [List.mem_cons, List.not_mem_nil, or_false] at hc
    rcases hc with rfl | rfl | rfl | rfl | rfl
    · exact ⟨_, Z.z, fun v q => nomatch q⟩
    · exact ⟨_, Z.ti, fun v q => nomatch q⟩
    · exact ⟨_, Z.to, fun v q => nomatch q⟩
    · exact Sk.it_obj h1
    · exact Sk.it_obj h2
  keep := fun i h h' ⟨⟨x, y, Z⟩, h1, h2⟩ k =>
    ⟨⟨x, y, k z (by simp) _ Z.z, k TI (by simp) _ Z.ti, k TO (by simp) _ Z.to⟩, Sk.it_at h1 fun o => k i1 (by simp) o, Sk.it_at h2 fun o => k i2 (by simp) o⟩
  item := by
    intro X hP hw hK hc i pins s σ H E I hf ⟨⟨x0, y0, Z⟩, h1, h2⟩ ⟨xs, ys, x, y, hqx, hqy, hx, hy⟩
    subst hP hw hK
    obtain ⟨its, rv, s1⟩ := Sk.reads I hqx
    obtain ⟨its2, rv2, s2⟩ := Sk.reads I hqy
    obtain ⟨u, hu, ru⟩ := rv.get hx
    obtain ⟨u2, hu2, ru2⟩ := rv2.get hy
    have hzl : z < s.heap.objs.size := Heap.lt_size Z.z
    have no : ¬ (its.toArray[i]? = none ∨ its2.toArray[i]? = none) := by
      rw [none_of rv, none_of rv2, hx, hy]
      simp
    refine zs_py (fun e => absurd e no) D Z h1 h2 s1 s2 (fun v1 v2 e1 e2 h' z' TO' h1' h2' hT hsz hk => ?_) (fun e => absurd e no)
    have ev1 : v1 = u := by rw [List.getElem?_toArray, hu] at e1; exact (Option.some.inj e1).symm
    have ev2 : v2 = u2 := by rw [List.getElem?_toArray, hu2] at e2; exact (Option.some.inj e2).symm
    subst ev1 ev2
    refine ⟨_, rfl, wpAny_letOwnedTupleGo_zip (s := { s with heap := h' }) z' fun h'' z'' sb => ?_⟩
    have up : ∀ c o, c ≠ z → h'.get? c = some o → h''.get? c = some o := fun c o n e => (sb.2 c n).trans e
    have new : ObjOk X.prog X.w (upd H s.heap.objs.size (.tup [x, y])) h'' s.heap.objs.size (.tup [x, y]) :=
      ⟨by show 2 ≤ sizeLine; decide, [v1, v2], .cons ru (.cons ru2 .nil), ⟨_, up _ _ (Nat.ne_of_gt hzl) hT, rfl, _, rfl⟩⟩
    have I1 : Inv X pins σ (upd H s.heap.objs.size (.tup [x, y])) { s with heap := h'' } := by
      refine I.turnedNew (t' := s.toks) (ch := [z, TI, TO, i1, i2]) (fun c o hb q => ?_) hf (Nat.le_refl _) new
      simp only [List.mem_cons, List.not_mem_nil, or_false, not_or] at hb
      exact up _ _ hb.1 (hk c o hb.1 hb.2.2.1 hb.2.2.2.1 hb.2.2.2.2 q)
    refine ⟨.ref s.heap.objs.size, _, I1, rfl, ⟨_, x, y, rfl, I.hok.fresh (Nat.le_refl _), rfl, fun l hl => by rw [Sk.one I hl hqx]; exact hx, fun l hl => by rw [Sk.one I hl hqy]; exact hy⟩,
      ⟨⟨_, _, z'', up _ _ D.TIz (hk _ _ D.TIz D.TITO D.TIi1 D.TIi2 Z.ti), up _ _ D.TOz TO'⟩, Sk.it_at h1' fun o => up _ o D.i1z, Sk.it_at h2' fun o => up _ o D.i2z⟩, fun c hcm => ?_⟩
    have hlt : c < s.heap.objs.size := by
      simp only [List.mem_cons, List.not_mem_nil, or_false] at hcm
      rcases hcm with rfl | rfl | rfl | rfl | rfl
      · exact hzl
      · exact Heap.lt_size Z.ti
      · exact Heap.lt_size Z.to
      · exact Sk.it_lt h1
      · exact Sk.it_lt h2
    rw [upd_ne (Nat.ne_of_lt hlt)]
    exact (hf c hcm).1
  done := by
    intro X hP hw hK hc i pins s σ H E I hf ⟨⟨x0, y0, Z⟩, h1, h2⟩ ⟨xs, ys, hqx, hqy, hend⟩
    subst hP hw hK
    obtain ⟨its, rv, s1⟩ := Sk.reads I hqx
    obtain ⟨its2, rv2, s2⟩ := Sk.reads I hqy
    have he : its.toArray[i]? = none ∨ its2.toArray[i]? = none := by rwa [none_of rv, none_of rv2]
    refine zs_py (fun _ => I.ok.hd hc) D Z h1 h2 s1 s2 (fun v1 v2 e1 e2 => ?_) (fun _ h' hk => ?_)
    · rcases he with e | e
      · rw [e] at e1; cases e1
      · rw [e] at e2; cases e2
    · refine ⟨rfl, I.turnedL (t' := s.toks) (ch := [z, TI, TO, i1, i2]) (fun c o hb q => ?_) hf⟩
      simp only [List.mem_cons, List.not_mem_nil, or_false, not_or] at hb
      exact hk c o hb.1 hb.2.2.1 hb.2.2.2.1 hb.2.2.2.2 q
  self := fun A i s Q E st h => by
    obtain ⟨⟨_, _, Z⟩, _⟩ := st
    exact wpAny_pyIter_zip Z.z h
def iZs (K : PySem.W.Frag) (ta : TA) : TI := fun σ H R => ta σ H fun vs H1 => ∃ (p q : Sk) (a b : Addr) (xs ys : List V), vs = [.ref a, .ref b] ∧ p.at_ K H1 a xs ∧ q.at_ K H1 b ys ∧ R (ItS p q K a b) H1
theorem pi_zs {X : Cx} {e e2 : Expr} {ta : TA} {ps pos tpos : Pos} {elts : List Expr} {kk : Nat} (hg : Gl X "zip") (hm : X.mg "zip" = none) (ha : PA X [e, e2] ta)
    (hs : starEach [e, e2] X.env = (false, eval e X.env) :: starEach [e2] X.env := by rfl) (hpl : (backTo pos (starEach [e2] X.env)).any (·.1) = false := by rfl) :
    PI X (.Tuple elts kk tpos) (.Call (.Name "zip" ps) [e, e2] [] pos) (iZs X.K ta) := by
  refine ⟨fun pins s σ H R I h => ?_⟩
  refine Call_ (ld_blt I hg hm PyProof.Rows.boot_zip (PyProof.Rows.callWith_type1 (thn (ha.run pos pins s σ H _ I h) fun us s1 ⟨vs, H1, I1, r1, q1⟩ => ?_) hs hpl))
  obtain ⟨p, q, a, b, xs, ys, ex, hqx, hqy, hR⟩ := q1
  subst ex
  obtain ⟨u1, u2, rfl, r, r'⟩ : ∃ u1 u2, us = [u1, u2] ∧ RelV (.ref a) u1 ∧ RelV (.ref b) u2 := by
    cases r1 with
    | cons r rr => cases rr with | cons r' rr => cases rr; exact ⟨_, _, rfl, r, r'⟩
  cases r
  cases r'
  obtain ⟨its, rv, p1⟩ := Sk.reads I1 hqx
  obtain ⟨its2, rv2, p2⟩ := Sk.reads I1 hqy
  refine zs_call p1 p2 fun h' Z h1 h2 hsz hk => wpAny_pyIter_zip Z.z ?_
  have I2 : Inv X pins σ H1 { s1 with heap := h' } := I1.kept (t' := s1.toks) hk
  refine ⟨s1.heap.objs.size + 4, [s1.heap.objs.size + 4, s1.heap.objs.size + 2, s1.heap.objs.size + 3, s1.heap.objs.size, s1.heap.objs.size + 1], _, _, H1, rfl, I2, turn_zs (PySem.W.ktu_apart s1.heap.objs.size a b (Sk.sq_lt p1) (Sk.sq_lt p2)), ⟨⟨_, _, Z⟩, h1, h2⟩, fun c hcm => ?_, hR⟩
  have hle : s1.heap.objs.size ≤ c := by
    simp only [List.mem_cons, List.not_mem_nil, or_false] at hcm
    rcases hcm with rfl | rfl | rfl | rfl | rfl
    all_goals first | exact Nat.le_refl _ | exact Nat.le_add_right _ _
  exact I1.fpOk hle (I1.hok.fresh hle)
end Mi

/-! enumerate of a tuple. -/
namespace Mi
open PySem L2 PySem.Spec PyProof.Rows RZ
set_option maxHeartbeats 8000000 in
theorem enum_newB {v : Value} {o : Obj} {H : Heap → Prop} (B : Begins v o H) :
    Meets (Builtin.«enumerate.__new__» ⟨[.type "enumerate", v], []⟩) (fun _ R s => H s.heap ∧ R (.ok (.ret (.ref (s.heap.push o).objs.size)))
      { s with heap := (s.heap.push o).push { cls := .type "enumerate", data := .fields #[.none, .bool false, .ref s.heap.objs.size, rawInt 0, .none, .none] } }) :=
  .of_wp fun prog w A R s h => by
    obtain ⟨hp, g, d, tk, os⟩ := s; obtain ⟨h1, h⟩ := h
    have hsub := sub_enumerate
    have q1 : ∀ {A' : Around} {E : Value → Shared → Prop} {Q : Value → Shared → Prop}, Q (.ref hp.objs.size) ⟨hp.push o, g, d, tk, os⟩ → wpAny (model prog w) A' (pyIter v) Q E ⟨hp, g, d, tk, os⟩ :=
      fun q => B.iter prog w _ _ ⟨hp, g, d, tk, os⟩ _ h1 q
    wp_walk using q1
    refine wpAny_stack_any fun st => wpAny_pure ?_
    split
    · rename_i c _ _ _ _ _
      cases (c == Value.type "enumerate")
      · wp_walk using q1
        exact ⟨_, rfl, h⟩
      · wp_walk using q1
        exact ⟨_, rfl, h⟩
    · wp_walk using q1
      exact ⟨_, rfl, h⟩
section
variable {prog : Program} {w : World} {A : Around} {E : Value → Shared → Prop} {s : Shared}
theorem enum_callB {v : Value} {o : Obj} {H : Heap → Prop} {Q : Value → Shared → Prop} (B : Begins v o H) (h1 : H s.heap)
    (h : ∀ h', IsEnum h' (s.heap.objs.size + 1) s.heap.objs.size 0 .none → h'.get? s.heap.objs.size = some o → h'.objs.size = s.heap.objs.size + 2 →
      (∀ b o, s.heap.get? b = some o → h'.get? b = some o) → Q (.ref (s.heap.objs.size + 1)) { s with heap := h' }) :
    wpAny (model prog w) A (call (.type "enumerate") [v]) Q E s := by
  refine callType_new F.called_enumerate (by decide) (F.typeCall_enumerate_1 _) (F.newCall_enumerate_1 _) (fun obj => F.args_object_init_2 obj _) F.entry_enumerate_new
    (enum_newB B) ⟨h1, ?_⟩
  have hz : (s.heap.push o).objs.size = s.heap.objs.size + 1 := Heap.size_push ..
  show _ ∧ _
  rw [hz]
  have he : IsEnum ((s.heap.push o).push { cls := .type "enumerate", data := .fields #[.none, .bool false, .ref s.heap.objs.size, rawInt 0, .none, .none] }) (s.heap.objs.size + 1) s.heap.objs.size 0 .none := by
    have := Heap.get?_push_size (s.heap.push o) (o := { cls := .type "enumerate", data := .fields #[.none, .bool false, .ref s.heap.objs.size, rawInt 0, .none, .none] }) rfl
    rw [hz] at this; exact this
  refine ⟨⟨_, he, rfl⟩, h _ he (Heap.get?_push_of_some _ (Heap.get?_push_size _ B.free)) (by rw [Heap.size_push, hz]) fun b o x => Heap.get?_push_of_some _ (Heap.get?_push_of_some _ x)⟩
end
/-- the list or tuple at a as it stands at each turn, each item in a new pair -/
def IteS (p : Sk) (K : PySem.W.Frag) (a : Addr) : L2.It where
  go i H := ∃ (xs : List V) (x : V), p.at_ K H a xs ∧ xs[i]? = some x
  yld i H v H' := ∃ T x, v = .ref T ∧ H T = none ∧ H' = upd H T (.tup [.int (i : Nat), x]) ∧ ∀ xs, p.at_ K H a xs → xs[i]? = some x
  stop i H := ∃ xs : List V, p.at_ K H a xs ∧ xs.length ≤ i
theorem enum_apart {h : Heap} {e it a : Addr} {i k : Nat} {c : Int} {old : Value} {its : Array Value} (he : IsEnum h e it c old) (ht : h.IsTuple a its) (hi : h.IsTupleIter it a k) : e ≠ a ∧ a ≠ it := by
  obtain ⟨o, ho, hc, _⟩ := ht
  obtain ⟨o2, ho2, hc2, _⟩ := hi
  constructor
  · rintro rfl
    rw [he] at ho
    cases ho
    simp at hc
  · rintro rfl
    rw [ho] at ho2
    cases ho2
    rw [hc] at hc2
    simp at hc2
theorem turn_enumT {P : Program} {w : World} {K : PySem.W.Frag} {elts : List Expr} {kk : Nat} {tpos : Pos} (a e it : Addr) :
    Turn P w K (.Tuple elts kk tpos) (IteS .t K a) [e, it] e (fun i h => (∃ old, IsEnum h e it ((i : Nat) : Int) old) ∧ h.IsTupleIter it a i ∧ e ≠ it) where
  mem := by simp
  obj := fun i h st b hb => by
    obtain ⟨⟨old, he⟩, ⟨o, ho, hc, hd⟩, _⟩ := st
    have e' : b = e ∨ b = it := by simpa using hb
    rcases e' with z | z
    · rw [z]; exact ⟨_, he, fun v q => nomatch q⟩
    · rw [z]; exact ⟨o, ho, fun v q => by rw [hd] at q; cases q⟩
  keep := fun i h h' st k => let ⟨⟨old, he⟩, hi, hne⟩ := st; ⟨⟨old, k e (by simp) _ he⟩, hi.at fun o q => k it (by simp) o q, hne⟩
  item := by
    intro X hP hw hK hc i pins s σ H E I hf st hg
    subst hP hw hK
    obtain ⟨⟨old, he⟩, hit, hne⟩ := st
    obtain ⟨xs, x, hq, hx⟩ := hg
    obtain ⟨its, rv, p⟩ := Sk.reads (p := .t) I hq
    obtain ⟨u, hu, ru⟩ := rv.get hx
    have ap := enum_apart (i := i) he p hit
    have hel : e < s.heap.objs.size := Heap.lt_size he
    have hil : it < s.heap.objs.size := by obtain ⟨_, q, _⟩ := hit; exact Heap.lt_size q
    have hlt : i < its.toArray.size := by
      have := (List.getElem?_eq_some_iff.mp hu).1
      simpa using this
    refine wpAny_pyNext_enum_itemD (fp := [it, a]) (Draws.tuple (prog := X.prog) (w := X.w) (A := X.A.in1) (show X.A.in1.handled = none from I.ok.hd hc) it a ap.2 its.toArray) he ⟨hit, p⟩ hlt hne (by simp [hne, ap.1]) fun v h' tk hv ho hst hT hsz hk => ?_
    have ev : v = u := by rw [List.getElem?_toArray, hu] at hv; exact (Option.some.inj hv).symm
    subst ev
    obtain ⟨hit', _⟩ := hst
    refine ⟨_, rfl, wpAny_letOwnedTupleGo_enum (s := { s with heap := h', toks := tk + 1 }) ho fun h'' he' sb => ?_⟩
    have hT2 : h''.get? s.heap.objs.size = some { cls := .type "tuple", data := .seq #[.int i tk, v] } := (sb.2 _ (Nat.ne_of_gt hel)).trans hT
    have new : ObjOk X.prog X.w (upd H s.heap.objs.size (.tup [.int (i : Nat), x])) h'' s.heap.objs.size (.tup [.int (i : Nat), x]) :=
      ⟨by show 2 ≤ sizeLine; decide, [.int i tk, v], .cons ⟨_, rfl⟩ (.cons ru .nil), ⟨_, hT2, rfl, _, rfl⟩⟩
    have I1 : Inv X pins σ (upd H s.heap.objs.size (.tup [.int (i : Nat), x])) { s with heap := h'', toks := tk + 1 } :=
      I.turnedNew (ch := [e, it]) (fun b ob hb q => (sb.2 b (fun z => hb (by simp [z]))).trans (hk b ob (fun z => hb (by simp [z])) (fun z => hb (by simp [z])) q)) hf (Nat.le_refl _) new
    refine ⟨.ref s.heap.objs.size, _, I1, rfl, ⟨_, x, rfl, I.hok.fresh (Nat.le_refl _), rfl, fun ys hy => by rw [Sk.one (p := .t) I hy hq]; exact hx⟩, ⟨⟨v, ?_⟩, hit'.at fun o q => (sb.2 it (Ne.symm hne)).trans q, hne⟩, fun b hb => ?_⟩
    · have e1 : ((i + 1 : Nat) : Int) = (i : Int) + 1 := by omega
      rw [e1]; exact he'
    · have hb' : b < s.heap.objs.size := by
        have e' : b = e ∨ b = it := by simpa using hb
        rcases e' with z | z
        · rw [z]; exact hel
        · rw [z]; exact hil
      rw [upd_ne (Nat.ne_of_lt hb')]
      exact (hf b hb).1
  done := by
    intro X hP hw hK hc i pins s σ H E I hf st hg
    subst hP hw hK
    obtain ⟨⟨old, he⟩, hit, hne⟩ := st
    obtain ⟨xs, hq, hx⟩ := hg
    obtain ⟨its, rv, p⟩ := Sk.reads (p := .t) I hq
    obtain ⟨f0, f1, f2, f3, f4, f5⟩ := hf it (by simp)
    have hl := rv.length
    have ap := enum_apart (i := i) he p hit
    have hT : s.TypeIs (.ref e) "enumerate" := ⟨_, he, rfl⟩
    unfold pyNext
    refine wpAny_bind (wpAny_attempt (wpAny_callSpecial?_slot (name := Str.ofString "__next__") hT F.slot_enumerate_next
      (wpAny_call_entry F.slot_enumerate_next hT F.entry_enumerate_next ?_ (F.args_enumerate_next_1 _))))
    show wpAny _ _ (field (.ref e) 2 >>= _) _ _ _
    refine wpAny_bind (wpAny_field he rfl (x := .ref it) rfl ?_)
    refine wpAny_bind (wpAny_nextOf_tuple_end (I.ok.hd hc) hit p (by simp; omega) fun h' x he' hx' => ?_)
    obtain ⟨o, ho, hcl⟩ := hx'
    refine wpAny_bind (wpAny_isInstance (T := "StopIteration") (b := true) ⟨o, ho, hcl⟩ isSubtype_stop ?_)
    exact wpAny_pure ⟨rfl, I.turned (t' := s.toks) (fun b o hb q => he' b o hb q) f0 f1 f3 f4 f5⟩
  self := fun A i s Q E st h => let ⟨⟨_, he⟩, _⟩ := st; wpAny_pyIter_enum he h
def iEnumS (K : PySem.W.Frag) (ta : TA) : TI := fun σ H R => ta σ H fun vs H1 => ∃ p a xs, vs = [.ref a] ∧ Sk.at_ p K H1 a xs ∧ R (IteS p K a) H1
theorem pi_enumS {X : Cx} {e : Expr} {ta : TA} {p pos tpos : Pos} {elts : List Expr} {kk : Nat} (hg : Gl X "enumerate") (hm : X.mg "enumerate" = none) (ha : PA X [e] ta) (hs : starEach [e] X.env = [(false, eval e X.env)] := by rfl) :
    PI X (.Tuple elts kk tpos) (.Call (.Name "enumerate" p) [e] [] pos) (iEnumS X.K ta) := by
  refine ⟨fun pins s σ H R I h => ?_⟩
  refine Call_ (ld_blt I hg hm boot_enumerate (PyProof.Rows.callWith_type1 (thn (ha.run pos pins s σ H _ I h) fun us s1 ⟨vs, H1, I1, r1, q1⟩ => ?_) hs rfl))
  obtain ⟨sk, a, xs, ex, hq, q⟩ := q1
  subst ex
  obtain ⟨u, rfl, r⟩ : ∃ u, us = [u] ∧ RelV (.ref a) u := by
    cases r1 with
    | cons r rr => cases rr; exact ⟨_, rfl, r⟩
  cases r
  cases sk with
  | l =>
    obtain ⟨its, rv, p', hz⟩ := I1.list hq
    refine call_enumerate_list p'.isList fun h' he hit hsz hk => wpAny_pyIter_enum he ?_
    have I2 : Inv X pins σ H1 { s1 with heap := h' } := I1.kept (t' := s1.toks) hk
    refine ⟨s1.heap.objs.size + 1, [s1.heap.objs.size + 1, s1.heap.objs.size], _, _, H1, rfl, I2, turn_enum a (s1.heap.objs.size + 1) s1.heap.objs.size, ⟨⟨.none, he⟩, hit, Nat.succ_ne_self _⟩, fun b hb => ?_, q⟩
    have e' : b = s1.heap.objs.size + 1 ∨ b = s1.heap.objs.size := by simpa using hb
    have hle : s1.heap.objs.size ≤ b := by
      rcases e' with z | z
      · rw [z]; exact Nat.le_add_right _ _
      · rw [z]; exact Nat.le_refl _
    exact I1.fpOk hle (I1.hok.fresh hle)
  | t =>
    obtain ⟨its, rv, p'⟩ := Sk.reads (p := .t) I1 hq
    refine enum_callB (begins_tuple a its.toArray) p' fun h' he hit hsz hk => wpAny_pyIter_enum he ?_
    have I2 : Inv X pins σ H1 { s1 with heap := h' } := I1.kept (t' := s1.toks) hk
    refine ⟨s1.heap.objs.size + 1, [s1.heap.objs.size + 1, s1.heap.objs.size], _, _, H1, rfl, I2, turn_enumT a (s1.heap.objs.size + 1) s1.heap.objs.size, ⟨⟨.none, he⟩, ⟨_, hit, rfl, rfl⟩, Nat.succ_ne_self _⟩, fun b hb => ?_, q⟩
    have e' : b = s1.heap.objs.size + 1 ∨ b = s1.heap.objs.size := by simpa using hb
    have hle : s1.heap.objs.size ≤ b := by
      rcases e' with z | z
      · rw [z]; exact Nat.le_add_right _ _
      · rw [z]; exact Nat.le_refl _
    exact I1.fpOk hle (I1.hok.fresh hle)
end Mi

namespace Mi
open PySem L2 PySem.Spec PyProof.Rows RZ

/-- from a fixed ground -/
theorem Want.bind0 {α γ τ ρ : Type} {N : Nm} {R : Bt → Hp → α → τ → Prop} {R' : Bt → Hp → γ → ρ → Prop} {β β0 : Bt} {H H0 : Hp} {o : Out α} {f : α → Sto → Out γ} {Q : ρ → Hp → Prop} {Q1 : τ → Hp → Prop} (x0 : Nxt β0 H0 β H) (w : Want N R' β0 H0 (o.bind f) Q)
    (h : ∀ a S1, o = .ok a S1 → ∀ β1 H1 t, Nxt β H β1 H1 → Sim N β1 S1 H1 → R β1 H1 a t → Want N R' β0 H0 (f a S1) Q → Q1 t H1) : Want N R β H o Q1 := by
  cases o with
  | ok a S => exact fun b h' t n s r => h a S rfl b h' t n s r w
  | exc c fs S => exact fun b h' d n s r => w b h' d (x0.trans n) s r
  | no => exact w

/-- where no exception may leave -/
theorem Want.bindC {α γ τ ρ : Type} {N : Nm} {ex : XK} {ok : List (Option V) → Prop} {R : Bt → Hp → α → τ → Prop} {R' : Bt → Hp → γ → ρ → Prop} {β β0 : Bt} {H H0 : Hp} {o : Out α} {f : α → Sto → Out γ} {Q : ρ → Hp → Prop} {Q1 : τ → Hp → Prop} (w : Want N R' β0 H0 (o.calm.bind f) Q)
    (h : ∀ a S1, o = .ok a S1 → ∀ β1 H1 t, Nxt β H β1 H1 → Sim N β1 S1 H1 → R β1 H1 a t → Want N R' β0 H0 (f a S1) Q → Q1 t H1) : Want (N.with ex ok) R β H o Q1 := by
  cases o with
  | ok a S => exact fun b h' t n s r => h a S rfl b h' t n s.back r w
  | exc c fs S => exact w.elim
  | no => exact w
/-! ### what is walked -/
def ItR (N : Nm) (β0 : Bt) (H0 : Hp) (J : It) (JH : L2.It) : Prop := ∀ (β : Bt) (S : Sto) (H : Hp) (i : Nat), Nxt β0 H0 β H → Sim N β S H →
  (itNext J i S = some none → JH.stop i H) ∧ ∀ d, itNext J i S = some (some d) → JH.go i H ∧ ∀ x H', JH.yld i H x H' → Nxt β H β H' ∧ Sim N β S H' ∧ VR N.K β H' d x
abbrev RI (N : Nm) : Bt → Hp → It → L2.It → Prop := ItR N
theorem ItR.nxt {N : Nm} {β β' : Bt} {H H' : Hp} {J : It} {JH : L2.It} (h : ItR N β H J JH) (x : Nxt β H β' H') : ItR N β' H' J JH := fun b S h' i n => h b S h' i (x.trans n)
def tI (N : Nm) (Y : Fs) (it : I) : TI := fun σ H R => ∃ β env S, Sim N β S H ∧ EnvR N β H env σ ∧ Want N (RI N) β H (evI Y it env S) R

section
variable {N : Nm} {β : Bt} {S : Sto} {H : Hp}
theorem itl_rel {d : D} {a : Addr} (h : VR N.K β H d (.ref a)) (sm : Sim N β S H) (hs : ∃ xs, seqAt S d = some xs) : ItR N β H (.seq d) (Itl N.K a) := fun β' S' H' i x sm' => by
  have r := h.nxt sm x
  have key : ∀ {xs : List D}, seqAt S' d = some xs → ∃ vs, SqL N.K H' a vs ∧ VRs N.K β' H' xs vs := fun {xs} e => by
    obtain ⟨a', vs, e1, h1, h2⟩ := sm'.seq r e
    cases e1
    exact ⟨vs, h1, h2⟩
  refine ⟨fun e => ?_, fun y e => ?_⟩
  · obtain ⟨xs, e1, e2⟩ := Option.map_eq_some_iff.mp (show (seqAt S' d).map (fun xs => xs[i]?) = some none from e)
    obtain ⟨vs, h1, h2⟩ := key e1
    exact ⟨vs, h1, List.getElem?_eq_none_iff.mp (h2.getNone e2)⟩
  · obtain ⟨xs, e1, e2⟩ := Option.map_eq_some_iff.mp (show (seqAt S' d).map (fun xs => xs[i]?) = some (some y) from e)
    obtain ⟨vs, h1, h2⟩ := key e1
    obtain ⟨v, e3, r3⟩ := h2.get e2
    refine ⟨⟨vs, v, h1, e3⟩, fun z H2 ⟨eh, hz⟩ => ?_⟩
    subst eh
    have := hz vs h1
    rw [e3] at this; cases this
    exact ⟨.refl _ _, sm', r3⟩
theorem itt_rel {xs : List D} {vs : List V} {a : Addr} (h : SqT N.K H a vs) (r : VRs N.K β H xs vs) (sm : Sim N β S H) : ItR N β H (.tup xs) (Itt N.K a) := fun β' S' H' i x sm' => by
  have h' : SqT N.K H' a vs := (x.sub sm).tup _ _ h
  have r' := r.nxt sm x
  refine ⟨fun e => ?_, fun y e => ?_⟩
  · have e : xs[i]? = none := Option.some.inj e
    exact ⟨vs, h', List.getElem?_eq_none_iff.mp (r'.getNone e)⟩
  · have e : xs[i]? = some y := Option.some.inj e
    obtain ⟨v, e3, r3⟩ := r'.get e
    refine ⟨⟨vs, v, h', e3⟩, fun z H2 ⟨eh, hz⟩ => ?_⟩
    subst eh
    have := hz vs h'
    rw [e3] at this; cases this
    exact ⟨.refl _ _, sm', r3⟩
theorem itr_rel {lo : Int} {k : Nat} : ItR N β H (.rng lo k) (Itr lo k) := fun β' S' H' i x sm' => by
  refine ⟨fun e => ?_, fun y e => ?_⟩
  · have e : (if i < k then some (D.int (lo + i)) else none) = none := Option.some.inj e
    split at e
    · cases e
    · rename_i h
      exact Nat.le_of_not_lt h
  · have e : (if i < k then some (D.int (lo + i)) else none) = some y := Option.some.inj e
    split at e
    · rename_i h
      cases e
      refine ⟨h, fun z H2 ⟨e1, e2⟩ => ?_⟩
      subst e1 e2
      exact ⟨.refl _ _, sm', .int _⟩
    · cases e
theorem its_rel {z : Str} : ItR N β H (.chars z) (Its z) := fun β' S' H' i x sm' => by
  refine ⟨fun e => ?_, fun y e => ?_⟩
  · have e : z.cps[i]?.map (fun c => D.str ⟨#[c]⟩) = none := Option.some.inj e
    have e : z.cps[i]? = none := Option.map_eq_none_iff.mp e
    exact Array.getElem?_eq_none_iff.mp e
  · have e : z.cps[i]?.map (fun c => D.str ⟨#[c]⟩) = some y := Option.some.inj e
    obtain ⟨c, e1, e2⟩ := Option.map_eq_some_iff.mp e
    subst e2
    refine ⟨(Array.getElem?_eq_some_iff.mp e1).1, fun v H2 ⟨eh, c', e3, e4⟩ => ?_⟩
    subst eh e4
    rw [e1] at e3; cases e3
    exact ⟨.refl _ _, sm', .str _⟩
def kindD : D → Sk
  | .tup _ => .t
  | _ => .l
theorem Sim.sq (sm : Sim N β S H) {d : D} {v : V} {xs : List D} (r : VR N.K β H d v) (e : sqAt S d = some xs) : ∃ a vs, v = .ref a ∧ (kindD d).at_ N.K H a vs ∧ VRs N.K β H xs vs := by
  have list : seqAt S d = some xs → kindD d = .l → ∃ a vs, v = .ref a ∧ (kindD d).at_ N.K H a vs ∧ VRs N.K β H xs vs := fun e k => by
    obtain ⟨a, vs, e1, h1, h2⟩ := sm.seq r e
    exact ⟨a, vs, e1, by rw [k]; exact h1, h2⟩
  cases d with
  | tup ys =>
    cases e
    cases r with
    | tup h1 h2 => exact ⟨_, _, rfl, h1, h2⟩
  | non => exact list e rfl
  | bl b => exact list e rfl
  | int b => exact list e rfl
  | str b => exact list e rfl
  | rol b => exact list e rfl
  | ref b => exact list e rfl
theorem ite_rel {d : D} {a : Addr} (h : VR N.K β H d (.ref a)) (sm : Sim N β S H) : ItR N β H (.enu d) (IteS (kindD d) N.K a) := fun β' S' H' i x sm' => by
  have r := h.nxt sm x
  have key : ∀ {xs : List D}, sqAt S' d = some xs → ∃ vs, (kindD d).at_ N.K H' a vs ∧ VRs N.K β' H' xs vs := fun {xs} e => by
    obtain ⟨a', vs, e1, h1, h2⟩ := sm'.sq r e
    cases e1
    exact ⟨vs, h1, h2⟩
  refine ⟨fun e => ?_, fun y e => ?_⟩
  · obtain ⟨xs, e1, e2⟩ := Option.map_eq_some_iff.mp (show (sqAt S' d).map (fun xs => xs[i]?.map fun d => D.tup [.int i, d]) = some none from e)
    obtain ⟨vs, h1, h2⟩ := key e1
    exact ⟨vs, h1, List.getElem?_eq_none_iff.mp (h2.getNone (Option.map_eq_none_iff.mp e2))⟩
  · obtain ⟨xs, e1, e2⟩ := Option.map_eq_some_iff.mp (show (sqAt S' d).map (fun xs => xs[i]?.map fun d => D.tup [.int i, d]) = some (some y) from e)
    obtain ⟨z, e4, e5⟩ := Option.map_eq_some_iff.mp e2
    subst e5
    obtain ⟨vs, h1, h2⟩ := key e1
    obtain ⟨v, e3, r3⟩ := h2.get e4
    refine ⟨⟨vs, v, h1, e3⟩, fun z H2 ⟨T, w, ez, hT, eh, hz⟩ => ?_⟩
    subst ez eh
    have := hz vs h1
    rw [e3] at this; cases this
    exact ⟨.lay hT, sm'.lay hT, .tup (SqT.of upd_same) (.cons (.int _) (.cons (r3.nxt sm' (.lay hT)) .nil))⟩
theorem paired_at {α γ : Type} {R : α → γ → Prop} {l : List α} {m : List γ} (h : Paired R l m) : ∀ {i : Nat} {a : α}, l[i]? = some a → ∃ b, m[i]? = some b ∧ R a b := by
  induction h with
  | nil => exact fun e => by simp at e
  | cons h t ih =>
    intro i a e
    cases i with
    | zero =>
      have e' := Option.some.inj e
      subst e'
      exact ⟨_, rfl, h⟩
    | succ i =>
      obtain ⟨b, h1, h2⟩ := ih (i := i) (by simpa using e)
      exact ⟨b, by simpa using h1, h2⟩
theorem itk_rel {n m : Nat} {a : Addr} (hb : β n = some a) : ItR N β H (.keys n m) (ItK N.P N.w a m) := fun β' S' H' i x sm' => by
  have hb' := x.ext _ _ hb
  have key : ∀ {r : Option D}, itNext (.keys n m) i S' = some r → ∃ kvs xs, S'[n]? = some (.dT kvs) ∧ kvs.length = m ∧ r = kvs[i]?.map (fun p => D.tup (p.1.map keyD)) ∧ H' a = some (.ext (rawT N.P N.w a xs)) ∧ KX N.K β' H' kvs xs := fun {r} e => by
    simp only [itNext] at e
    split at e
    · rename_i kvs hx
      split at e
      · rename_i hl
        obtain ⟨xs, e1, r1⟩ := sm'.at hb' hx
        exact ⟨kvs, xs, hx, hl, (Option.some.inj e).symm, e1, r1⟩
      · cases e
    · cases e
  refine ⟨fun e => ?_, fun y e => ?_⟩
  · obtain ⟨kvs, xs, h1, h2, h3, h4, h5⟩ := key e
    have h3 := Option.map_eq_none_iff.mp h3.symm
    rw [List.getElem?_eq_none_iff] at h3
    exact ⟨by omega, xs, h4, by rw [← Paired.length h5]; exact h2⟩
  · obtain ⟨kvs, xs, h1, h2, h3, h4, h5⟩ := key e
    obtain ⟨p, e4, e5⟩ := Option.map_eq_some_iff.mp h3.symm
    subst e5
    have hl := (List.getElem?_eq_some_iff.mp e4).1
    refine ⟨⟨by omega, xs, h4, by rw [← Paired.length h5]; exact h2⟩, fun z H2 ⟨eh, b, ez, hz⟩ => ?_⟩
    subst eh ez
    obtain ⟨q, q1, q2⟩ := hz xs h4
    refine ⟨.refl _ _, sm', ?_⟩
    obtain ⟨q', q3, q4⟩ := paired_at h5 e4
    rw [q1] at q3
    cases q3
    rw [← q2]
    exact q4.2.1
theorem itz_rel {d e : D} {a b : Addr} (h : VR N.K β H d (.ref a)) (k : VR N.K β H e (.ref b)) : ∀ (sm : Sim N β S H), ItR N β H (.zip d e) (ItS (kindD d) (kindD e) N.K a b) := fun sm β' S' H' i x sm' => by
  have r := h.nxt sm x
  have r2 := k.nxt sm x
  have key : ∀ {d : D} {a : Addr} {xs : List D}, VR N.K β' H' d (.ref a) → sqAt S' d = some xs → ∃ vs, (kindD d).at_ N.K H' a vs ∧ VRs N.K β' H' xs vs := fun {d a xs} r e => by
    obtain ⟨a', vs, e1, h1, h2⟩ := sm'.sq r e
    cases e1
    exact ⟨vs, h1, h2⟩
  refine ⟨fun q => ?_, fun y q => ?_⟩
  · have q : (match sqAt S' d, sqAt S' e with
      | some xs, some ys => match xs[i]?, ys[i]? with
        | some a, some b => some (some (D.tup [a, b]))
        | _, _ => some none
      | _, _ => none) = some none := q
    split at q
    · rename_i xs ys e1 e2
      obtain ⟨vs, h1, h2⟩ := key r e1
      obtain ⟨ws, h3, h4⟩ := key r2 e2
      refine ⟨vs, ws, h1, h3, ?_⟩
      split at q
      · cases q
      · rename_i hn
        cases e3 : xs[i]? with
        | none => exact .inl (h2.getNone e3)
        | some u =>
          cases e4 : ys[i]? with
          | none => exact .inr (h4.getNone e4)
          | some u2 => exact absurd e4 (hn u u2 e3)
    · cases q
  · have q : (match sqAt S' d, sqAt S' e with
      | some xs, some ys => match xs[i]?, ys[i]? with
        | some a, some b => some (some (D.tup [a, b]))
        | _, _ => some none
      | _, _ => none) = some (some y) := q
    split at q
    · rename_i xs ys e1 e2
      obtain ⟨vs, h1, h2⟩ := key r e1
      obtain ⟨ws, h3, h4⟩ := key r2 e2
      split at q
      · rename_i u u2 e3 e4
        cases q
        obtain ⟨v, e5, r5⟩ := h2.get e3
        obtain ⟨w, e6, r6⟩ := h4.get e4
        refine ⟨⟨vs, ws, v, w, h1, h3, e5, e6⟩, fun z H2 ⟨T, v', w', ez, hT, eh, hz, hz2⟩ => ?_⟩
        subst ez eh
        have h5 := hz vs h1
        rw [e5] at h5; cases h5
        have h6 := hz2 ws h3
        rw [e6] at h6; cases h6
        exact ⟨.lay hT, sm'.lay hT, .tup (SqT.of upd_same) (.cons (r5.nxt sm' (.lay hT)) (.cons (r6.nxt sm' (.lay hT)) .nil))⟩
      · cases q
    · cases q
end

section
variable {X : Cx} {N : Nm} {Y : Fs} {ea eb tg : PySem.Expr} {a b : E} {pos : Pos}
/-- any of a list, a tuple, a text -/
def iAny (P : Program) (w : World) (K : PySem.W.Frag) (te : TE) : TI := fun σ H R => te σ H fun x H1 => (∃ a, x = .ref a ∧ (∃ xs, SqL K H1 a xs) ∧ R (Itl K a) H1) ∨ (∃ a, x = .ref a ∧ (∃ xs, SqT K H1 a xs) ∧ R (Itt K a) H1) ∨ (∃ z, x = .str z ∧ R (Its z) H1) ∨ ∃ a xs, x = .ref a ∧ H1 a = some (.ext (rawT P w a xs)) ∧ R (ItK P w a xs.length) H1
theorem pi_any {te : TE} (h : PE X ea te) : PI X tg ea (iAny X.prog X.w X.K te) := by
  refine ⟨fun pins s σ H R I hw => ?_⟩
  refine thn (h.run pins s σ H _ I hw) fun v s1 ⟨x, H1, I1, r1, q1⟩ => ?_
  rcases q1 with ⟨a, e, ⟨xs, hq⟩, q⟩ | ⟨a, e, ⟨xs, hq⟩, q⟩ | ⟨z, e, q⟩ | ⟨a, xs, e, hq, q⟩
  · subst e
    cases r1
    obtain ⟨its, rv, p, hz⟩ := I1.list hq
    refine wpAny_pyIter_list p.isList ?_
    refine ⟨s1.heap.objs.size, [s1.heap.objs.size], _, _, H1, rfl, I1.kept (t' := s1.toks) fun b o e => Heap.get?_push_of_some _ e, turn_list a _, ⟨_, Heap.get?_push_size _ rfl, rfl, rfl⟩, fun b hb => ?_, q⟩
    have e : b = s1.heap.objs.size := by simpa using hb
    subst e
    exact I1.fpOk (Nat.le_refl _) (I1.hok.fresh (Nat.le_refl _))
  · subst e
    cases r1
    obtain ⟨its, rv, p, hz⟩ := I1.tuple hq
    refine wpAny_pyIter_tuple (show s1.heap.IsTuple a its.toArray from p) ?_
    refine ⟨s1.heap.objs.size, [s1.heap.objs.size], _, _, H1, rfl, I1.kept (t' := s1.toks) fun b o e => Heap.get?_push_of_some _ e, turn_tuple a _, ⟨_, Heap.get?_push_size _ rfl, rfl, rfl⟩, fun b hb => ?_, q⟩
    have e : b = s1.heap.objs.size := by simpa using hb
    subst e
    exact I1.fpOk (Nat.le_refl _) (I1.hok.fresh (Nat.le_refl _))
  · subst e
    obtain ⟨t, rfl⟩ := r1
    cases ha : z.cps.all (· < 128)
    · exact wpAny_pyIter_wide ha (pi_one (tk := s1.toks) I1 _ (turn_str _ z t "str_iterator" (.inr rfl)) ⟨_, Heap.get?_push_size _ rfl, rfl, rfl⟩ q)
    · exact wpAny_pyIter_ascii ha (pi_one (tk := s1.toks) I1 _ (turn_str _ z t "str_ascii_iterator" (.inl rfl)) ⟨_, Heap.get?_push_size _ rfl, rfl, rfl⟩ q)
  · subst e
    cases r1
    exact iter_keysX I1 hq q
end
end Mi

namespace Mi
open PySem L2 PySem.Spec PyProof.Rows RZ

section
variable {X : Cx} {N : Nm} {Y : Fs} {ea eb tg : PySem.Expr} {a b : E} {pos p : Pos}
theorem dtLen_rel {β : Bt} {S : Sto} {H : Hp} (sm : Sim N β S H) {d : D} {v : V} {n m : Nat} (r : VR N.K β H d v) (h : dtLen S d = some (n, m)) : ∃ a xs, v = .ref a ∧ β n = some a ∧ H a = some (.ext (rawT N.P N.w a xs)) ∧ xs.length = m := by
  unfold dtLen at h
  split at h
  · split at h
    · rename_i kvs hx
      cases h
      cases r with
      | ref hb =>
        obtain ⟨xs, e1, r1⟩ := sm.at hb hx
        exact ⟨_, xs, rfl, hb, e1, (Paired.length r1).symm⟩
    · cases h
  · cases h
theorem i_val (hK : X.K = N.K) (hW : HW X N) (h : PE X ea (tE N Y a)) : PI X tg ea (tI N Y (.val a)) := by
  have q := pi_any (tg := tg) h
  rw [hK, hW.p, hW.w] at q
  refine ⟨fun pins s σ H R I hw => q.run pins s σ H R I ?_⟩
  obtain ⟨β, env, S, sm, er, w⟩ := hw
  refine tE_bind (R' := RI N) sm er w fun d S1 β1 H1 v x1 sm1 er1 r1 w1 => ?_
  split at w1
  · cases r1 with
    | tup h1 h2 => exact .inr (.inl ⟨_, rfl, ⟨_, h1⟩, w1.here sm1 (itt_rel h1 h2 sm1)⟩)
  · cases r1
    exact .inr (.inr (.inl ⟨_, rfl, w1.here sm1 its_rel⟩))
  · split at w1
    · rename_i xs hx
      obtain ⟨a, vs, rfl, h1, h2⟩ := sm1.seq r1 hx
      exact .inl ⟨a, rfl, ⟨vs, h1⟩, w1.here sm1 (itl_rel r1 sm1 ⟨_, hx⟩)⟩
    · split at w1
      · rename_i n m hn
        obtain ⟨a, xs, rfl, hb, h1, h2⟩ := dtLen_rel sm1 r1 hn
        refine .inr (.inr (.inr ⟨a, xs, rfl, h1, ?_⟩))
        rw [h2]
        exact w1.here sm1 (itk_rel hb)
      · exact w1.elim
theorem i_rng1 (hg : Gl X "range") (hm : X.mg "range" = none) (hs : starEach [ea] X.env = [(false, eval ea X.env)]) (h : PE X ea (tE N Y a)) : PI X tg (.Call (.Name "range" p) [ea] [] pos) (tI N Y (.rng1 a)) := by
  refine ⟨fun pins s σ H R I hw => (pi_range1 hg hm (pa_cons h pa_nil hs) hs).run pins s σ H R I ?_⟩
  obtain ⟨β, env, S, sm, er, w⟩ := hw
  refine tE_bind (R' := RI N) sm er w fun d S1 β1 H1 v x1 sm1 er1 r1 w1 => ?_
  split at w1
  · split at w1
    · rename_i hl
      cases r1
      exact ⟨_, rfl, hl.1, hl.2, w1.here sm1 itr_rel⟩
    · exact w1.elim
  · exact w1.elim
theorem i_rng2 (hg : Gl X "range") (hm : X.mg "range" = none) (hs : starEach [ea, eb] X.env = [(false, eval ea X.env), (false, eval eb X.env)]) (hs2 : starEach [eb] X.env = [(false, eval eb X.env)]) (h : PE X ea (tE N Y a)) (h2 : PE X eb (tE N Y b)) : PI X tg (.Call (.Name "range" p) [ea, eb] [] pos) (tI N Y (.rng2 a b)) := by
  refine ⟨fun pins s σ H R I hw => (pi_range2 hg hm (pa_cons h (pa_cons h2 pa_nil hs2) (by rw [hs, hs2])) hs hs2).run pins s σ H R I ?_⟩
  obtain ⟨β, env, S, sm, er, w⟩ := hw
  refine tE_bind (R' := RI N) sm er w fun d S1 β1 H1 v x1 sm1 er1 r1 w1 => ?_
  refine tE_bind (R' := RI N) sm1 er1 w1 fun d2 S2 β2 H2 v2 x2 sm2 er2 r2 w2 => ?_
  split at w2
  · split at w2
    · rename_i hl
      cases r1; cases r2
      exact ⟨_, _, rfl, hl, w2.here sm2 itr_rel⟩
    · exact w2.elim
  · exact w2.elim
theorem i_enu (hK : X.K = N.K) {elts : List PySem.Expr} {kk : Nat} {tpos : Pos} (hg : Gl X "enumerate") (hm : X.mg "enumerate" = none) (hs : starEach [ea] X.env = [(false, eval ea X.env)]) (h : PE X ea (tE N Y a)) : PI X (.Tuple elts kk tpos) (.Call (.Name "enumerate" p) [ea] [] pos) (tI N Y (.enu a)) := by
  have q := pi_enumS (X := X) (p := p) (pos := pos) (tpos := tpos) (elts := elts) (kk := kk) hg hm (pa_cons h pa_nil hs) hs
  rw [hK] at q
  refine ⟨fun pins s σ H R I hw => q.run pins s σ H R I ?_⟩
  obtain ⟨β, env, S, sm, er, w⟩ := hw
  refine tE_bind (R' := RI N) sm er w fun d S1 β1 H1 v x1 sm1 er1 r1 w1 => ?_
  split at w1
  · rename_i xs hx
    obtain ⟨a, vs, rfl, h1, h2⟩ := sm1.sq r1 hx
    exact ⟨_, a, vs, rfl, h1, w1.here sm1 (ite_rel r1 sm1)⟩
  · exact w1.elim
theorem i_zip (hK : X.K = N.K) {elts : List PySem.Expr} {kk : Nat} {tpos : Pos} (hg : Gl X "zip") (hm : X.mg "zip" = none) (hs : starEach [ea, eb] X.env = (false, eval ea X.env) :: starEach [eb] X.env) (hs2 : starEach [eb] X.env = [(false, eval eb X.env)]) (h : PE X ea (tE N Y a)) (h2 : PE X eb (tE N Y b)) :
    PI X (.Tuple elts kk tpos) (.Call (.Name "zip" p) [ea, eb] [] pos) (tI N Y (.zip a b)) := by
  have q := pi_zs (X := X) (ps := p) (pos := pos) (tpos := tpos) (elts := elts) (kk := kk) hg hm (pa_cons h (pa_cons h2 pa_nil hs2) hs) hs (by rw [hs2]; rfl)
  rw [hK] at q
  refine ⟨fun pins s σ H R I hw => q.run pins s σ H R I ?_⟩
  obtain ⟨β, env, S, sm, er, w⟩ := hw
  refine tE_bind (R' := RI N) sm er w fun d S1 β1 H1 v x1 sm1 er1 r1 w1 => ?_
  refine tE_bind (R' := RI N) sm1 er1 w1 fun d2 S2 β2 H2 v2 x2 sm2 er2 r2 w2 => ?_
  have r1' := r1.nxt sm1 x2
  split at w2
  · rename_i e1 e2
    obtain ⟨a, vs, rfl, h1, h2⟩ := sm2.sq r1' e1
    obtain ⟨b, ws, rfl, h3, h4⟩ := sm2.sq r2 e2
    exact ⟨_, _, a, b, vs, ws, rfl, h1, h3, w2.here sm2 (itz_rel r1' r2 sm2)⟩
  · exact w2.elim
end

/-! ### targets -/
def setS : List Nat → List V → List (Option V) → Option (List (Option V))
  | [], [], σ => some σ
  | i :: is, v :: vs, σ => setS is vs (σ.set i (some v))
  | _, _, _ => none
def gT (K : PySem.W.Frag) (tg : Tg) : TG := fun v σ H Q => match tg with
  | .nm i => Q (σ.set i (some v)) H
  | .tup is => ∃ a vs σ', v = .ref a ∧ (SqT K H a vs ∨ SqL K H a vs) ∧ setS is vs σ = some σ' ∧ Q σ' H
/-- what a target leaves -/
def SetBy (tg : Tg) (v : V) (σ σ' : List (Option V)) : Prop := match tg with
  | .nm i => σ' = σ.set i (some v)
  | .tup is => ∃ vs, setS is vs σ = some σ'
def gNs (is : List Nat) : TGs := fun vs σ H Q => ∃ σ', setS is vs σ = some σ' ∧ Q σ' H
theorem setS_len : ∀ {is : List Nat} {vs : List V} {σ σ' : List (Option V)}, setS is vs σ = some σ' → vs.length = is.length
  | [], [], _, _, _ => rfl
  | i :: is, v :: vs, σ, σ', h => by
    have := setS_len (is := is) (vs := vs) h
    simp [this]
  | [], _ :: _, _, _, h => by cases h
  | _ :: _, [], _, _, h => by cases h
theorem g_nm {X : Cx} {i : Nat} {x : Str} {pos : Pos} (hN : X.N.Nodup) (hi : X.N[i]? = some x) (hx : Loc X.env.scope x) (hf : X.fn x = true ∨ X.env.scope.names.lookup x = some .local) : PG X (.Name x pos) (gT X.K (.nm i)) := pg_name hN hi hx hf
theorem gn_nil {X : Cx} : PGs X [] (gNs []) :=
  ⟨fun pins s σ H vs us Q I r h => by
    obtain ⟨σ', e, q⟩ := h
    cases vs with
    | nil =>
      cases e
      exact pgs_nil.run pins s σ H [] us Q I r ⟨rfl, q⟩
    | cons v vs => cases e⟩
theorem gn_cons {X : Cx} {i : Nat} {is : List Nat} {x : Str} {pos : Pos} {es : List PySem.Expr} (hN : X.N.Nodup) (hi : X.N[i]? = some x) (hx : Loc X.env.scope x) (hf : X.fn x = true ∨ X.env.scope.names.lookup x = some .local) (hr : PGs X es (gNs is))
    (hs : (assignEach (.Name x pos :: es) X.env).map (·.2) = assign (.Name x pos) X.env :: (assignEach es X.env).map (·.2)) : PGs X (.Name x pos :: es) (gNs (i :: is)) :=
  ⟨fun pins s σ H vs us Q I r h => by
    obtain ⟨σ', e, q⟩ := h
    cases vs with
    | nil => cases e
    | cons v vs => exact (pgs_cons (pg_name hN hi hx hf) hr hs).run pins s σ H (v :: vs) us Q I r ⟨v, vs, rfl, σ', e, q⟩⟩
theorem g_tup {X : Cx} {is : List Nat} {es : List PySem.Expr} {k : Nat} {pos : Pos} (hc : X.calm = true) (h : PGs X es (gNs is)) (hn : (assignEach es X.env).length = is.length) (hst : (assignEach es X.env).findIdx? (·.1) = none) : PG X (.Tuple es k pos) (gT X.K (.tup is)) :=
  ⟨fun pins s σ H v u Q I r hw => by
    obtain ⟨a, vs, σ', e, hq, hs, q⟩ := hw
    rcases hq with hq | hq
    · exact (pg_tup hc h hn hst).run pins s σ H v u Q I r ⟨a, vs, e, hq, setS_len hs, σ', hs, q⟩
    · exact (pg_lst hc h hn hst).run pins s σ H v u Q I r ⟨a, vs, e, hq, setS_len hs, σ', hs, q⟩⟩
section
variable {N : Nm} {β : Bt} {H : Hp}
theorem setAll_rel : ∀ {is : List Nat} {ds : List D} {vs : List V} {env env' : Env} {σ : List (Option V)}, EnvR N β H env σ → (∀ τ, N.ok τ) → VRs N.K β H ds vs → setAll is ds env = some env' → ∃ σ', setS is vs σ = some σ' ∧ EnvR N β H env' σ'
  | [], [], _, _, _, _, er, ho, r, h => by
    cases r; cases h
    exact ⟨_, rfl, er⟩
  | i :: is, d :: ds, _, _, _, _, er, ho, r, h => by
    cases r with
    | cons a b => exact setAll_rel (is := is) (er.set ho a) ho b h
  | [], _ :: _, _, _, _, _, _, _, _, h => by cases h
  | _ :: _, [], _, _, _, _, _, _, _, h => by cases h
theorem asg_rel {tg : Tg} {d : D} {v : V} {env env' : Env} {σ : List (Option V)} (er : EnvR N β H env σ) (ho : ∀ τ, N.ok τ) (r : VR N.K β H d v) (h : asg tg d env = some env') : ∃ σ', EnvR N β H env' σ' ∧ (∀ Q : List (Option V) → Hp → Prop, Q σ' H → gT N.K tg v σ H Q) ∧ SetBy tg v σ σ' := by
  unfold asg at h
  split at h
  · cases h
    exact ⟨_, er.set ho r, fun Q q => q, rfl⟩
  · cases r with
    | tup a b =>
      obtain ⟨σ', h1, h2⟩ := setAll_rel er ho b h
      exact ⟨σ', h2, fun Q q => ⟨_, _, σ', rfl, .inl a, h1, q⟩, _, h1⟩
  · cases h
theorem asgS_rel {S : Sto} (sm : Sim N β S H) {is : List Nat} {d : D} {v : V} {env env' : Env} {σ : List (Option V)} (er : EnvR N β H env σ) (ho : ∀ τ, N.ok τ) (r : VR N.K β H d v) (h : asgS S is d env = some env') : ∃ σ', EnvR N β H env' σ' ∧ ∀ Q : List (Option V) → Hp → Prop, Q σ' H → gT N.K (.tup is) v σ H Q := by
  unfold asgS at h
  split at h
  · rename_i xs hx
    obtain ⟨a, vs, rfl, h1, h2⟩ := sm.sq r hx
    obtain ⟨σ', h3, h4⟩ := setAll_rel er ho h2 h
    refine ⟨σ', h4, fun Q q => ⟨_, _, σ', rfl, ?_, h3, q⟩⟩
    cases hk : kindD d with
    | l => rw [hk] at h1; exact .inr h1
    | t => rw [hk] at h1; exact .inl h1
  · cases h
end
def Tg.slots : Tg → List Nat
  | .nm i => [i]
  | .tup is => is
theorem wipe_get (σ : List (Option V)) : ∀ (vs : List Nat) (j : Nat), (wipe σ vs)[j]? = if j ∈ vs ∧ j < σ.length then some none else σ[j]?
  | [], j => by simp [wipe]
  | v :: vs, j => by
    unfold wipe
    by_cases h : j = v
    · subst h
      by_cases hl : j < σ.length
      · rw [List.getElem?_set_self (by rw [wipe_length]; exact hl), if_pos ⟨List.mem_cons_self .., hl⟩]
      · rw [List.getElem?_eq_none (by rw [List.length_set, wipe_length]; omega), if_neg (fun z => hl z.2), List.getElem?_eq_none (by omega)]
    · rw [List.getElem?_set_ne (Ne.symm h), wipe_get σ vs j]
      have : (j ∈ v :: vs ∧ j < σ.length) ↔ (j ∈ vs ∧ j < σ.length) := by simp [h]
      by_cases q : j ∈ vs ∧ j < σ.length
      · rw [if_pos q, if_pos (this.mpr q)]
      · rw [if_neg q, if_neg (fun z => q (this.mp z))]
theorem wipe_set {σ : List (Option V)} {vs : List Nat} {i : Nat} {x : Option V} (h : i ∈ vs) : wipe (σ.set i x) vs = wipe σ vs := by
  apply List.ext_getElem?
  intro j
  rw [wipe_get, wipe_get, List.length_set]
  by_cases hj : j ∈ vs ∧ j < σ.length
  · rw [if_pos hj, if_pos hj]
  · rw [if_neg hj, if_neg hj]
    by_cases e : j = i
    · subst e
      have : ¬ j < σ.length := fun z => hj ⟨h, z⟩
      rw [List.getElem?_eq_none (by rw [List.length_set]; omega), List.getElem?_eq_none (by omega)]
    · rw [List.getElem?_set_ne (Ne.symm e)]
theorem wipe_wipe (σ : List (Option V)) (vs : List Nat) : wipe (wipe σ vs) vs = wipe σ vs := by
  apply List.ext_getElem?
  intro j
  rw [wipe_get, wipe_get, wipe_length]
  by_cases hj : j ∈ vs ∧ j < σ.length
  · rw [if_pos hj, if_pos hj]
  · rw [if_neg hj, if_neg hj]
theorem wipe_setS {vs : List Nat} : ∀ {is : List Nat} {ws : List V} {σ σ' : List (Option V)}, (∀ i ∈ is, i ∈ vs) → setS is ws σ = some σ' → wipe σ' vs = wipe σ vs
  | [], [], _, _, _, h => by cases h; rfl
  | i :: is, w :: ws, σ, σ', hi, h => by
    have := wipe_setS (vs := vs) (fun j hj => hi j (List.mem_cons_of_mem _ hj)) h
    rw [this, wipe_set (hi i (List.mem_cons_self ..))]
  | [], _ :: _, _, _, _, h => by cases h
  | _ :: _, [], _, _, _, h => by cases h
theorem wipe_asg {tg : Tg} {vs : List Nat} {v : V} {σ σ' : List (Option V)} (hs : ∀ i ∈ tg.slots, i ∈ vs) (h : SetBy tg v σ σ') : wipe σ' vs = wipe σ vs := by
  cases tg with
  | nm i =>
    have h : σ' = σ.set i (some v) := h
    rw [h]
    exact wipe_set (hs i (by simp [Tg.slots]))
  | tup is =>
    obtain ⟨ws, h⟩ := h
    exact wipe_setS hs h
theorem EnvR.wipe {N : Nm} {β : Bt} {H : Hp} {env : Env} {σ : List (Option V)} (er : EnvR N β H env σ) (ho : ∀ τ, N.ok τ) : ∀ vs : List Nat, EnvR N β H (wipeD env vs) (L2.wipe σ vs)
  | [] => er
  | v :: vs => (EnvR.wipe er ho vs).clear ho

/-! ### comprehensions -/
section
variable {N : Nm} {β β0 : Bt} {S : Sto} {H H0 : Hp} {D' : Addr}
theorem Nxt.adopt (x : Nxt β0 H0 β H) (s : Sim N β S H) (h0 : H0 D' = none) : Nxt β0 H0 (Mi.ins β S.length D') H where
  ext := fun n a h => by
    have h1 := x.ext n a h
    have : n ≠ S.length := Nat.ne_of_lt (s.up n a h1)
    unfold Mi.ins; rw [if_neg this]; exact h1
  fresh := fun n a h => by
    unfold Mi.ins at h
    split at h
    · cases h; exact .inr h0
    · exact x.fresh n a h
  kept := x.kept
  there := x.there
theorem Sim.adopt {o : MO} (s : Sim N β S H) (hD : ∀ n, β n ≠ some D') (q : OR N (Mi.ins β S.length D') H D' o) : Sim N (Mi.ins β S.length D') (S ++ [o]) H where
  obj := fun n o' h => by
    by_cases hn : n < S.length
    · rw [List.getElem?_append_left hn] at h
      obtain ⟨a, e, r⟩ := s.obj n o' h
      have ext : ∀ n a, β n = some a → Mi.ins β S.length D' n = some a := fun n a h => by
        have : n ≠ S.length := Nat.ne_of_lt (s.up n a h)
        unfold Mi.ins; rw [if_neg this]; exact h
      have sb : Sub N.K β H (Mi.ins β S.length D') H := ⟨ext, fun _ _ h => h, fun _ _ h => h⟩
      refine ⟨a, ext n a e, ?_⟩
      cases o' with
      | lst xs => obtain ⟨vs, e, r⟩ := r; exact ⟨vs, e, VRs.mono sb _ _ r⟩
      | dK xs => obtain ⟨vs, e, r⟩ := r; exact ⟨vs, e, Paired.imp (fun _ _ q => ⟨q.1, VR.mono sb _ _ q.2⟩) r⟩
      | dT xs => obtain ⟨vs, e, r⟩ := r; exact ⟨vs, e, Paired.imp (fun _ _ q => ⟨q.1, VR.mono sb _ _ q.2.1, VR.mono sb _ _ q.2.2⟩) r⟩
      | ins c fs => obtain ⟨dx, vs, e, r⟩ := r; exact ⟨dx, vs, e, Paired.imp (fun _ _ q => ⟨q.1, VR.mono sb _ _ q.2⟩) r⟩
      | exn c sup fs => obtain ⟨d, k, e, h1, h2, h3, r⟩ := r; exact ⟨d, k, e, h1, h2, h3, r.by sb fun _ _ q => q⟩
    · have hl := (List.getElem?_eq_some_iff.mp h).1
      rw [List.length_append, List.length_singleton] at hl
      have en : n = S.length := by omega
      subst en
      rw [List.getElem?_append_right (Nat.le_refl _), Nat.sub_self] at h
      cases h
      exact ⟨D', if_pos rfl, q⟩
  up := fun n a h => by
    rw [List.length_append, List.length_singleton]
    unfold Mi.ins at h
    split at h
    · omega
    · have := s.up n a h; omega
  inj := fun m n a h1 h2 => by
    unfold Mi.ins at h1 h2
    split at h1 <;> split at h2
    · omega
    · cases h1; exact absurd h2 (hD n)
    · cases h2; exact absurd h1 (hD m)
    · exact s.inj m n a h1 h2
/-- a list that is not yet ours is written -/
theorem Nxt.side (x : Nxt β0 H0 β H) (h0 : H0 D' = none) {o : HO} : Nxt β0 H0 β (upd H D' o) where
  ext := x.ext
  fresh := x.fresh
  kept := fun a u h hn => by rw [upd_ne (ne_of_none h h0)]; exact x.kept a u h hn
  there := fun a u h => by
    obtain ⟨o', q⟩ := x.there a u h
    exact ⟨o', by rw [upd_ne (ne_of_none h h0)]; exact q⟩
theorem Sub.side {vs ws : List V} (e : H D' = some (.lst vs)) : Sub N.K β H β (upd H D' (.lst ws)) where
  ext := fun _ _ h => h
  tup := fun a xs h => by
    rcases h with (h | ⟨o, h⟩) | h
    · exact .inl (.inl (by rw [upd_ne (ne_of h e (by intro z; cases z))]; exact h))
    · exact .inl (.inr ⟨o, by rw [upd_ne (ne_of h e (by intro z; cases z))]; exact h⟩)
    · exact .inr h
  rol := fun a xs h => by
    rcases h with ⟨o, h⟩ | h
    · exact .inl ⟨o, by rw [upd_ne (ne_of h e (by intro z; cases z))]; exact h⟩
    · exact .inr h
theorem Sim.side {vs ws : List V} (s : Sim N β S H) (hD : ∀ n, β n ≠ some D') (e : H D' = some (.lst vs)) : Sim N β S (upd H D' (.lst ws)) where
  obj := fun n o h => by
    obtain ⟨a, ea, r⟩ := s.obj n o h
    have na : a ≠ D' := fun z => hD n (by rw [← z]; exact ea)
    have sb : Sub N.K β H β (upd H D' (.lst ws)) := Sub.side (N := N) e
    refine ⟨a, ea, ?_⟩
    cases o with
    | lst xs => obtain ⟨vs, e, r⟩ := r; exact ⟨vs, by rw [upd_ne na]; exact e, VRs.mono sb _ _ r⟩
    | dK xs => obtain ⟨vs, e, r⟩ := r; exact ⟨vs, by rw [upd_ne na]; exact e, Paired.imp (fun _ _ q => ⟨q.1, VR.mono sb _ _ q.2⟩) r⟩
    | dT xs => obtain ⟨vs, e, r⟩ := r; exact ⟨vs, by rw [upd_ne na]; exact e, Paired.imp (fun _ _ q => ⟨q.1, VR.mono sb _ _ q.2.1, VR.mono sb _ _ q.2.2⟩) r⟩
    | ins c fs => obtain ⟨dx, vs, e, r⟩ := r; exact ⟨dx, vs, by rw [upd_ne na]; exact e, Paired.imp (fun _ _ q => ⟨q.1, VR.mono sb _ _ q.2⟩) r⟩
    | exn c sup fs => obtain ⟨d, k, e', h1, h2, h3, r⟩ := r; exact ⟨d, k, by rw [upd_ne na]; exact e', h1, h2, h3, r.by sb fun dx fv q => by rw [upd_ne (ne_of q e (by intro z; cases z))]; exact q⟩
  up := s.up
  inj := s.inj
theorem Nxt.nimg {β' : Bt} {H' : Hp} (x : Nxt β H β' H') (hD : ∀ n, β n ≠ some D') {u : HO} (e : H D' = some u) : ∀ n, β' n ≠ some D' := fun n h => by
  rcases x.fresh n D' h with z | z
  · exact hD n z
  · rw [e] at z; cases z
end

theorem comp_read {N : Nm} {Y : Fs} {own : List (Str × Nat)} {tg : Tg} {it : I} {fs : Es} {e : E} (hown : ∀ i ∈ tg.slots, i ∈ own.map (·.2)) (σ : List (Option V)) (H : Hp) (Q : VK) (h : tE N Y (.comp own tg it fs e) σ H Q) :
    tLc (tI N Y it) (gT N.K tg) (tIfs (N.with (fun _ _ _ => False) fun _ => True) Y fs) (tE (N.with (fun _ _ _ => False) fun _ => True) Y e) (own.map (·.2)) σ H Q := by
  obtain ⟨β, env, S, sm, er, w⟩ := h
  refine ⟨β, env, S, sm, er, Want.bind (R' := RD N) w fun J S1 _ β1 H1 JH x1 sm1 rJ w1 => fun D' hD => ?_⟩
  have nD : ∀ n, β1 n ≠ some D' := fun n z => by
    obtain ⟨u, e, _⟩ := sm1.mut z
    rw [hD] at e; cases e
  refine ⟨fun i m H => ∃ β S acc vs, Nxt β1 H1 β H ∧ Sim N β S H ∧ H D' = some (.lst vs) ∧ (∀ n, β n ≠ some D') ∧ VRs N.K β H acc vs ∧
    Want N (RD N) β1 H1 ((compN (itNext J) (asg tg) (fun e s => (evIfs Y fs e s).calm) (fun e' s => (ev Y e e' s).calm) (wipeD env (own.map (·.2))) m i acc S).bind fun xs S2 => Mi.new S2 (.lst xs)) Q,
    ⟨lim + 2, β1, S1, [], [], .lay hD, sm1.lay hD, upd_same, nD, .nil, w1⟩, ?_⟩
  rintro i m H2 ⟨β2, S2, acc, vs, x2, sm2, eD, nD2, rv, w2⟩
  cases m with
  | zero => exact w2.elim
  | succ m =>
    unfold compN at w2
    have RJ := rJ β2 S2 H2 i x2 sm2
    cases hn : itNext J i S2 with
    | none => rw [hn] at w2; exact w2.elim
    | some o =>
      rw [hn] at w2
      cases o with
      | none =>
        refine .inl ⟨RJ.1 hn, ?_⟩
        have sb : Sub N.K β2 H2 (Mi.ins β2 S2.length D') H2 := ⟨fun n a h => by
            have : n ≠ S2.length := Nat.ne_of_lt (sm2.up n a h)
            unfold Mi.ins; rw [if_neg this]; exact h, fun _ _ h => h, fun _ _ h => h⟩
        exact w2 _ _ _ (x2.adopt sm2 hD) (sm2.adopt nD2 ⟨vs, eD, VRs.mono sb _ _ rv⟩) (.ref (if_pos rfl))
      | some d =>
        obtain ⟨hgo, hy⟩ := RJ.2 d hn
        refine .inr ⟨hgo, _, fun H' h => ⟨m, Nat.lt_succ_self m, h⟩, fun x H' hx => ?_⟩
        obtain ⟨x3, sm3, rx⟩ := hy x H' hx
        simp only at w2
        cases ha : asg tg d (wipeD env (own.map (·.2))) with
        | none => rw [ha] at w2; exact w2.elim
        | some env1 =>
          rw [ha] at w2
          have er3 : EnvR (N.with (fun _ _ _ => False) fun _ => True) β2 H' (wipeD env (own.map (·.2))) (L2.wipe σ (own.map (·.2))) := ((er.nxt sm ((x1.trans x2).trans x3)).with trivial).wipe (fun _ => trivial) _
          obtain ⟨σ2, er4, hg, hw⟩ := asg_rel er3 (fun _ => trivial) rx ha
          refine hg _ ⟨by rw [wipe_asg hown hw, wipe_wipe], ?_⟩
          simp only at w2
          rw [out_assoc] at w2
          refine ⟨β2, env1, S2, sm3.with, er4, Want.bindC (R' := RD N) w2 fun t S4 _ β4 H4 t' x4 sm4 rt w4 => ?_⟩
          cases rt
          have x24 := x3.trans x4
          have eD4 : H4 D' = some (.lst vs) := x24.kept _ _ eD nD2
          have nD4 := x24.nimg nD2 eD
          have rv4 := rv.nxt sm2 x24
          cases t with
          | false => exact iteF ⟨β4, S4, acc, vs, x2.trans x24, sm4, eD4, nD4, rv4, w4⟩
          | true =>
            refine iteT ?_
            rw [out_assoc] at w4
            refine ⟨β4, env1, S4, sm4.with, er4.nxt sm3.with x4, Want.bindC (R' := RD N) w4 fun y S5 _ β5 H5 yv x5 sm5 ry w5 => ?_⟩
            have eD5 : H5 D' = some (.lst vs) := x5.kept _ _ eD4 nD4
            have nD5 := x5.nimg nD4 eD4
            have rv5 := rv4.nxt sm4 x5
            split at w5
            · rename_i hl
              refine ⟨vs, eD5, by rw [← rv.length, ← lim_eq]; exact hl, ?_⟩
              exact ⟨β5, S5, acc ++ [y], vs ++ [yv], ((x2.trans x24).trans x5).side hD, sm5.side nD5 eD5, upd_same, nD5, VRs.mono (Sub.side (N := N) eD5) _ _ (rv5.append (.cons ry .nil)), w5⟩
            · exact w5.elim
end Mi

namespace Mi
open PySem L2 PySem.Spec PyProof.Rows RZ

inductive FV where
  | nx (σ : List (Option V)) | rt (v : V) | bk (σ : List (Option V)) | ct (σ : List (Option V))
def RF (N : Nm) (β : Bt) (H : Hp) : Fl → FV → Prop
  | .nx env, .nx σ => EnvR N β H env σ
  | .rt d, .rt v => VR N.K β H d v
  | .bk env, .bk σ => EnvR N β H env σ
  | .ct env, .ct σ => EnvR N β H env σ
  | _, _ => False
def endQ (D : Ends) : FV → Hp → Prop
  | .nx σ, H => D.nx σ H
  | .rt v, H => D.rt v H
  | .bk σ, H => D.bk σ H
  | .ct σ, H => D.ct σ H
def tS (N : Nm) (Y : Fs) (c : C) : TS := fun D σ H => ∃ β env S, Sim N β S H ∧ EnvR N β H env σ ∧ Want N (RF N) β H (exec Y c env S) (endQ D)
def tSs (N : Nm) (Y : Fs) (cs : Cs) : TS := fun D σ H => ∃ β env S, Sim N β S H ∧ EnvR N β H env σ ∧ Want N (RF N) β H (execs Y cs env S) (endQ D)

section
variable {X : Cx} {N : Nm} {Y : Fs} {ea eb ec tgE : PySem.Expr} {a b c : E} {st : Stmt} {sts : List Stmt} {s1 : C} {ss : Cs} {pos p p' : Pos}
theorem ss_nil : PSs X [] (tSs N Y .nil) :=
  PSs.imp pss_nil fun D σ H h => by
    obtain ⟨β, env, S, sm, er, w⟩ := h
    exact Want.here (R := RF N) (t := FV.nx σ) w sm er
theorem ss_cons (h1 : PS X st (tS N Y s1)) (h2 : PSs X sts (tSs N Y ss)) : PSs X (st :: sts) (tSs N Y (.cons s1 ss)) :=
  PSs.imp (pss_cons h1 h2) fun D σ H h => by
    obtain ⟨β, env, S, sm, er, w⟩ := h
    refine ⟨β, env, S, sm, er, Want.bind (R' := RF N) w fun fl S1 _ β1 H1 t x1 sm1 r w1 => ?_⟩
    cases fl with
    | nx env1 =>
      cases t with
      | nx σ1 => exact ⟨β1, env1, S1, sm1, r, w1⟩
      | _ => exact r.elim
    | rt d =>
      cases t with
      | rt v => exact Want.here (R := RF N) (Q := endQ D) (t := FV.rt v) w1 sm1 r
      | _ => exact r.elim
    | bk env1 =>
      cases t with
      | bk σ1 => exact Want.here (R := RF N) (Q := endQ D) (t := FV.bk σ1) w1 sm1 r
      | _ => exact r.elim
    | ct env1 =>
      cases t with
      | ct σ1 => exact Want.here (R := RF N) (Q := endQ D) (t := FV.ct σ1) w1 sm1 r
      | _ => exact r.elim
theorem s_set {i : Nat} {x : Str} (ho : ∀ τ, N.ok τ) (hN : X.N.Nodup) (hi : X.N[i]? = some x) (hx : Loc X.env.scope x) (hf : X.fn x = true ∨ X.env.scope.names.lookup x = some .local) (hs : swapsWith ea (some (.Name x p)) pos.line X.env = pure false) (h : PE X ea (tE N Y a)) : PS X (.Assign [.Name x p] ea pos) (tS N Y (.set i a)) :=
  PS.imp (ps_set hN hi hx h hs hf) fun D σ H h => by
    obtain ⟨β, env, S, sm, er, w⟩ := h
    refine tE_bind (R' := RF N) sm er w fun d S1 β1 H1 v x1 sm1 er1 r1 w1 => ?_
    exact Want.here (R := RF N) (t := FV.nx (σ.set i (some v))) w1 sm1 (er1.set ho r1)
theorem op_augR (op : Operator) : PIp X op (r2 N (augD op)) := by
  intro pins s σ H x y v u Q I rx ry h
  obtain ⟨β, S, d, e, sm, vd, ve, w⟩ := h
  unfold augD at w
  split at w
  · cases vd; cases ve
    exact iop_add pins s σ H _ _ v u Q I rx ry ⟨_, _, rfl, rfl, w.here sm (.int _)⟩
  · cases vd; cases ve
    exact iop_sub pins s σ H _ _ v u Q I rx ry ⟨_, _, rfl, rfl, w.here sm (.int _)⟩
  · split at w
    · rename_i hl
      cases vd; cases ve
      exact iop_add_str pins s σ H _ _ v u Q I rx ry ⟨_, _, rfl, rfl, by rw [← lim_eq]; exact hl, w.here sm (.str _)⟩
    · exact w.elim
  · exact w.elim
theorem s_aug {i : Nat} {x : Str} {op : Operator} (ho : ∀ τ, N.ok τ) (hN : X.N.Nodup) (hi : X.N[i]? = some x) (hx : Loc X.env.scope x) (hf : X.fn x = true ∨ X.env.scope.names.lookup x = some .local) (h : PE X ea (tE N Y a)) : PS X (.AugAssign (.Name x p) op ea pos) (tS N Y (.aug i op a)) :=
  PS.imp (ps_aug hN hi hx h (op_augR op) hf) fun D σ H h => by
    obtain ⟨β, env, S, sm, er, w⟩ := h
    unfold exec at w
    split at w
    · rename_i d hd
      obtain ⟨v, e1, r⟩ := er.val i d hd
      refine ⟨v, e1, ?_⟩
      refine tE_bind (R' := RF N) sm er w fun d1 S1 β1 H1 v1 x1 sm1 er1 r1 w1 => ?_
      refine ⟨β1, S1, d, d1, sm1, r.nxt sm x1, r1, ?_⟩
      refine Want.bind (R' := RF N) w1 fun d2 S2 _ β2 H2 v2 x2 sm2 r2 w2 => ?_
      exact Want.here (R := RF N) (t := FV.nx (σ.set i (some v2))) w2 sm2 ((er1.nxt sm1 x2).set ho r2)
    · exact w.elim
theorem s_setLc {i : Nat} {x : Str} {own : List (Str × Nat)} {tg : Tg} {it : I} {fs : Es} {elt iter : PySem.Expr} {ifs : List PySem.Expr} {scope : Scope} (ho : ∀ τ, N.ok τ) (hK : X.K = N.K) (hc : X.calm = true) (hN : X.N.Nodup) (hy : X.N[i]? = some x) (hyl : X.env.scope.names.lookup x = some .local)
    (hsw : swapsWith (.ListComp elt [⟨tgE, iter, ifs, 0⟩] scope p') (some (.Name x p)) pos.line X.env = pure true) (hi : PI X tgE iter (tI N Y it)) (ok : BlkOk X.N X.env.scope scope own)
    (hg : ∀ (s : Shared) (H : Hp) (C : Addr) (cl : List (Str × Addr)) (fp : List Addr), PG (X.blk s H scope (compEnvC scope cl C X.env) fp) tgE (gT X.K tg)) (ht : ∀ (s : Shared) (H : Hp) (C : Addr) (cl : List (Str × Addr)) (fp : List Addr), PTs (X.blk s H scope (compEnvC scope cl C X.env) fp) ifs (tIfs (N.with (fun _ _ _ => False) fun _ => True) Y fs))
    (he : ∀ (s : Shared) (H : Hp) (C : Addr) (cl : List (Str × Addr)) (fp : List Addr), PE (X.blk s H scope (compEnvC scope cl C X.env) fp) elt (tE (N.with (fun _ _ _ => False) fun _ => True) Y a)) (hs : ∀ x, foldedSetIterable iter X.env x = pure x) (hown : ∀ i ∈ tg.slots, i ∈ own.map (·.2)) :
    PS X (.Assign [.Name x p] (.ListComp elt [⟨tgE, iter, ifs, 0⟩] scope p') pos) (tS N Y (.set i (.comp own tg it fs a))) := by
  have q := ps_setLc (pos := p') hc hN hy hyl hsw hi ok hg ht he hs
  rw [hK] at q
  refine PS.imp q fun D σ H h => ?_
  refine comp_read hown σ H _ ?_
  obtain ⟨β, env, S, sm, er, w⟩ := h
  refine tE_bind (R' := RF N) sm er w fun d S1 β1 H1 v x1 sm1 er1 r1 w1 => ?_
  exact Want.here (R := RF N) (t := FV.nx (σ.set i (some v))) w1 sm1 (er1.set ho r1)
theorem e_comp {own : List (Str × Nat)} {tg : Tg} {it : I} {fs : Es} {elt iter : PySem.Expr} {ifs : List PySem.Expr} {scope : Scope} (hK : X.K = N.K) (hc : X.calm = true) (hN : X.N.Nodup) (hi : PI X tgE iter (tI N Y it)) (ok : BlkOk X.N X.env.scope scope own)
    (hg : ∀ (s : Shared) (H : Hp) (C : Addr) (cl : List (Str × Addr)) (fp : List Addr), PG (X.blk s H scope (compEnvC scope cl C X.env) fp) tgE (gT X.K tg)) (ht : ∀ (s : Shared) (H : Hp) (C : Addr) (cl : List (Str × Addr)) (fp : List Addr), PTs (X.blk s H scope (compEnvC scope cl C X.env) fp) ifs (tIfs (N.with (fun _ _ _ => False) fun _ => True) Y fs))
    (he : ∀ (s : Shared) (H : Hp) (C : Addr) (cl : List (Str × Addr)) (fp : List Addr), PE (X.blk s H scope (compEnvC scope cl C X.env) fp) elt (tE (N.with (fun _ _ _ => False) fun _ => True) Y a)) (hs : ∀ x, foldedSetIterable iter X.env x = pure x) (hown : ∀ i ∈ tg.slots, i ∈ own.map (·.2)) :
    PE X (.ListComp elt [⟨tgE, iter, ifs, 0⟩] scope pos) (tE N Y (.comp own tg it fs a)) := by
  have q := pe_lc (pos := pos) hc hN hi ok hg ht he hs
  rw [hK] at q
  exact PE.imp q fun σ H Q h => comp_read hown σ H _ h
theorem s_setT {is : List Nat} (ho : ∀ τ, N.ok τ) (hg : PG X tgE (gT X.K (.tup is))) (hK : X.K = N.K) (hs : swapsWithSole [tgE] ea pos.line X.env = pure false) (hw : swappedStores [tgE] ea X.env = pure none) (h1 : (assignEach [tgE] X.env).map (·.2) = [assign tgE X.env]) (h : PE X ea (tE N Y a)) : PS X (.Assign [tgE] ea pos) (tS N Y (.setT is a)) := by
  have q := ps_asg h hg hs hw h1
  rw [hK] at q
  refine PS.imp q fun D σ H h => ?_
  obtain ⟨β, env, S, sm, er, w⟩ := h
  refine tE_bind (R' := RF N) sm er w fun d S1 β1 H1 v x1 sm1 er1 r1 w1 => ?_
  split at w1
  · rename_i env1 ha
    obtain ⟨σ', er2, hq⟩ := asgS_rel sm1 er1 ho r1 ha
    exact hq _ (Want.here (R := RF N) (t := FV.nx σ') w1 sm1 er2)
  · exact w1.elim
theorem s_par {i j : Nat} {x y : Str} {px py pt : Pos} {kt k2 : Nat} {pt2 : Pos} (ho : ∀ τ, N.ok τ) (hc : X.calm = true) (hN : X.N.Nodup) (hi : X.N[i]? = some x) (hj : X.N[j]? = some y) (hij : i ≠ j) (hx : X.env.scope.names.lookup x = some .local) (hy : X.env.scope.names.lookup y = some .local)
    (h1 : PE X ea (tE N Y a)) (h2 : PE X eb (tE N Y b)) (hs1 : starEach [ea, eb] X.env = (false, eval ea X.env) :: starEach [eb] X.env) (hs2 : starEach [eb] X.env = [(false, eval eb X.env)])
    (hw : swappedStores [.Tuple [.Name x px, .Name y py] kt pt] (.Tuple [ea, eb] k2 pt2) X.env = pure (some [x, y])) :
    PS X (.Assign [.Tuple [.Name x px, .Name y py] kt pt] (.Tuple [ea, eb] k2 pt2) pos) (tS N Y (.par i j a b)) :=
  PS.imp (ps_par hc hN hi hj hij hx hy (pa_cons h1 (pa_cons h2 pa_nil hs2) hs1) hw) fun D σ H h => by
    obtain ⟨β, env, S, sm, er, w⟩ := h
    refine tE_bind (R' := RF N) sm er w fun d S1 β1 H1 v x1 sm1 er1 r1 w1 => ?_
    refine tE_bind (R' := RF N) sm1 er1 w1 fun d2 S2 β2 H2 v2 x2 sm2 er2 r2 w2 => ?_
    exact ⟨v, v2, rfl, Want.here (R := RF N) (t := FV.nx ((σ.set i (some v)).set j (some v2))) w2 sm2 ((er2.set ho (r1.nxt sm1 x2)).set ho r2)⟩
theorem s_ex (hs : swapsWith ea none pos.line X.env = pure false) (h : PE X ea (tE N Y a)) : PS X (.Expr ea pos) (tS N Y (.ex a)) :=
  PS.imp (ps_expr h hs) fun D σ H h => by
    obtain ⟨β, env, S, sm, er, w⟩ := h
    refine tE_bind (R' := RF N) sm er w fun d S1 β1 H1 v x1 sm1 er1 r1 w1 => ?_
    exact Want.here (R := RF N) (t := FV.nx σ) w1 sm1 er1
theorem s_ret (h : PE X ea (tE N Y a)) : PS X (.Return (some ea) pos) (tS N Y (.ret a)) :=
  PS.imp (ps_ret h) fun D σ H h => by
    obtain ⟨β, env, S, sm, er, w⟩ := h
    refine tE_bind (R' := RF N) sm er w fun d S1 β1 H1 v x1 sm1 er1 r1 w1 => ?_
    exact Want.here (R := RF N) (t := FV.rt v) w1 sm1 r1
theorem s_retN : PS X (.Return none pos) (tS N Y .retN) :=
  PS.imp ps_retN fun D σ H h => by
    obtain ⟨β, env, S, sm, er, w⟩ := h
    exact Want.here (R := RF N) (t := FV.rt .non) w sm .non
theorem s_pass : PS X (.Pass pos) (tS N Y .pass) :=
  PS.imp ps_pass fun D σ H h => by
    obtain ⟨β, env, S, sm, er, w⟩ := h
    exact Want.here (R := RF N) (t := FV.nx σ) w sm er
theorem s_brk : PS X (.Break pos) (tS N Y .brk) :=
  PS.imp ps_break fun D σ H h => by
    obtain ⟨β, env, S, sm, er, w⟩ := h
    exact Want.here (R := RF N) (t := FV.bk σ) w sm er
theorem s_cnt : PS X (.Continue pos) (tS N Y .cnt) :=
  PS.imp ps_continue fun D σ H h => by
    obtain ⟨β, env, S, sm, er, w⟩ := h
    exact Want.here (R := RF N) (t := FV.ct σ) w sm er
theorem s_if {as bs : List Stmt} {xa xb : Cs} (hc : PT X ec (tT N Y c)) (ha : PSs X as (tSs N Y xa)) (hb : PSs X bs (tSs N Y xb)) : PS X (.If ec as bs pos) (tS N Y (.ifS c xa xb)) :=
  PS.imp (ps_if hc ha hb) fun D σ H h => by
    obtain ⟨β, env, S, sm, er, w⟩ := h
    refine tT_bind (R' := RF N) sm er w fun d S1 β1 H1 x1 sm1 er1 w1 => ?_
    cases d with
    | true => exact iteT ⟨β1, env, S1, sm1, er1, w1⟩
    | false => exact iteF ⟨β1, env, S1, sm1, er1, w1⟩

/-! ### stores to items -/
def rSet (N : Nm) : TSet := fun o i v H Q => ∃ β S a k x, Sim N β S H ∧ VR N.K β H a o ∧ VR N.K β H k i ∧ VR N.K β H x v ∧ ∃ S', setD a k x S = some S' ∧ ∀ β' H', Nxt β H β' H' → Sim N β' S' H' → Q H'
theorem set_all (hK : X.K = N.K) (hW : HW X N) (hu : X.A.units + 1 < cLine) : PSet X (rSet N) := by
  intro pins s σ H o i v ov iv u Q I ro ri rv h
  obtain ⟨β, S, a, k, x, sm, va, vk, vx, S', hs, q⟩ := h
  unfold setD at hs
  split at hs
  · rename_i n
    cases va with
    | ref hb =>
      split at hs
      · rename_i xs hx
        obtain ⟨vs, e1, r1⟩ := sm.at hb hx
        split at hs
        · split at hs
          · rename_i j hj
            cases hs
            cases vk
            refine set_list pins s σ H _ _ v ov iv u Q I ro ri rv ⟨_, vs, _, j, rfl, rfl, e1, by rw [← r1.length]; exact hj, ?_⟩
            exact q _ _ (.write hb) (sm.write hb ⟨_, upd_same, (r1.set j vx).nxt sm (.write hb)⟩)
          · cases hs
        · cases hs
      · rename_i kvs hx
        obtain ⟨ks, e1, r1⟩ := sm.at hb hx
        split at hs
        · rename_i kk hk
          split at hs
          · rename_i hl
            cases hs
            have ek := key_rel vk hk
            subst ek
            have hlen : kvs.length = ks.length := by
              clear hl e1 hx q
              induction r1 with
              | nil => rfl
              | cons _ _ ih => simp [ih]
            refine set_dict hu pins s σ H _ _ v ov iv u Q I ro ri rv ⟨_, _, rfl, DPut.k (k := kk) (v := v) e1 (by rw [← hlen, ← lim_eq]; exact hl), ?_⟩
            exact q _ _ (.write hb) (sm.write hb ⟨_, upd_same, Paired.imp (fun _ _ q => ⟨q.1, q.2.nxt sm (.write hb)⟩) (putK_rel vx r1)⟩)
          · cases hs
        · cases hs
      · rename_i kvs hx
        obtain ⟨xs, e1, hkd, r1⟩ := dT_at hK hW sm hb hx
        split at hs
        · rename_i kk hk
          split at hs
          · rename_i hl
            cases hs
            obtain ⟨b, rfl, rk⟩ := keyT_rel vk hk
            obtain ⟨vs, h1, h2⟩ : ∃ vs, SqT X.K H b vs ∧ Paired isV kk vs := by
              cases rk with
              | tup a b => exact ⟨_, by rw [hK]; exact a, keyD_rel b⟩
            cases (show ov = Value.ref _ from ro)
            cases (show iv = Value.ref _ from ri)
            refine t_setItem hu I e1 hkd h1 h2 rv (by rw [← Paired.length r1, ← lim_eq]; exact hl) fun s' I' => ⟨_, I', ?_⟩
            rw [hW.p, hW.w]
            exact q _ _ (.write hb) (sm.write hb ⟨_, upd_same, Paired.imp (fun _ _ q => ⟨q.1, q.2.1.nxt sm (.write hb), q.2.2.nxt sm (.write hb)⟩) (r1.put rk vx)⟩)
          · cases hs
        · cases hs
      · cases hs
  · cases hs
theorem s_setIx {eo ei : PySem.Expr} {o i : E} (hK : X.K = N.K) (hW : HW X N) (hu : X.A.units + 1 < cLine) (ho : PE X eo (tE N Y o)) (hi : PE X ei (tE N Y i)) (hv : PE X ea (tE N Y a))
    (hasg : ∀ v, assign (.Subscript eo ei p) X.env v = (do
      let ov ← holding [v] (eval eo X.env)
      let iv ← holding [v, ov] (eval ei X.env)
      standAt p
      holding [v, ov, iv] (setItem ov iv v)
      release [v, ov, iv] [])) (hs : swapsWithSole [.Subscript eo ei p] ea pos.line X.env = pure false) (hw : swappedStores [.Subscript eo ei p] ea X.env = pure none) (h1 : (assignEach [.Subscript eo ei p] X.env).map (·.2) = [assign (.Subscript eo ei p) X.env]) :
    PS X (.Assign [.Subscript eo ei p] ea pos) (tS N Y (.setIx o i a)) :=
  PS.imp (ps_asg hv (pg_sub ho hi (set_all hK hW hu) hasg) hs hw h1) fun D σ H h => by
    obtain ⟨β, env, S, sm, er, w⟩ := h
    refine tE_bind (R' := RF N) sm er w fun d S1 β1 H1 v x1 sm1 er1 r1 w1 => ?_
    refine tE_bind (R' := RF N) sm1 er1 w1 fun d2 S2 β2 H2 v2 x2 sm2 er2 r2 w2 => ?_
    refine tE_bind (R' := RF N) sm2 er2 w2 fun d3 S3 β3 H3 v3 x3 sm3 er3 r3 w3 => ?_
    split at w3
    · rename_i S4 hS
      refine ⟨β3, S3, d2, d3, d, sm3, r2.nxt sm2 x3, r3, (r1.nxt sm1 x2).nxt sm2 x3, S4, hS, fun β' H' x4 sm4 => ?_⟩
      exact Want.at (R := RF N) (t := FV.nx σ) w3 x4 sm4 (er3.nxt sm3 x4)
    · exact w3.elim

/-! ### loops -/
theorem s_for {iter : PySem.Expr} {body : List Stmt} {it : I} {tg : Tg} (ho : ∀ τ, N.ok τ) (hK : X.K = N.K) (hp : PassesOwn (model X.prog X.w) X.A X.env X.xe) (hc : X.calm = true) (hi : PI X tgE iter (tI N Y it)) (hg : PG X tgE (gT X.K tg)) (hb : PSs X body (tSs N Y ss))
    (hs : ∀ x, foldedSetIterable iter X.env x = pure x) : PS X (.For tgE iter body [] pos) (tS N Y (.forS tg it ss)) := by
  have q := ps_for (pos := pos) hp hc hi hg hb hs
  rw [hK] at q
  refine PS.imp q fun D σ H h => ?_
  obtain ⟨β, env, S, sm, er, w⟩ := h
  refine ⟨β, env, S, sm, er, Want.bind (R' := RF N) w fun J S1 _ β1 H1 JH x1 sm1 rJ w1 => ?_⟩
  refine ⟨fun i m σ H => ∃ β env S, Nxt β1 H1 β H ∧ Sim N β S H ∧ EnvR N β H env σ ∧ Want N (RF N) β1 H1 (forN (itNext J) (asg tg) (fun e s => execs Y ss e s) m i env S) (endQ D),
    ⟨lim + 2, β1, env, S1, .refl _ _, sm1, er.nxt sm x1, w1⟩, ?_⟩
  rintro i m σ2 H2 ⟨β2, env2, S2, x2, sm2, er2, w2⟩
  cases m with
  | zero => exact w2.elim
  | succ m =>
    unfold forN at w2
    have RJ := rJ β2 S2 H2 i x2 sm2
    cases hn : itNext J i S2 with
    | none => rw [hn] at w2; exact w2.elim
    | some o =>
      rw [hn] at w2
      cases o with
      | none => exact .inl ⟨RJ.1 hn, Want.at (R := RF N) (t := FV.nx σ2) w2 x2 sm2 er2⟩
      | some d =>
        obtain ⟨hgo, hy⟩ := RJ.2 d hn
        refine .inr ⟨hgo, _, fun σ' H' h => ⟨m, Nat.lt_succ_self m, h⟩, fun x H' hx => ?_⟩
        obtain ⟨x3, sm3, rx⟩ := hy x H' hx
        simp only at w2
        cases ha : asg tg d env2 with
        | none => rw [ha] at w2; exact w2.elim
        | some env3 =>
          rw [ha] at w2
          obtain ⟨σ3, er4, hgq, _⟩ := asg_rel (er2.nxt sm2 x3) ho rx ha
          refine hgq _ ⟨β2, env3, S2, sm3, er4, Want.bind0 (R' := RF N) (x2.trans x3) w2 fun fl S4 _ β4 H4 t x4 sm4 r w4 => ?_⟩
          have xx := x2.trans (x3.trans x4)
          cases fl with
          | nx env5 =>
            cases t with
            | nx σ5 => exact ⟨β4, env5, S4, xx, sm4, r, w4⟩
            | _ => exact r.elim
          | ct env5 =>
            cases t with
            | ct σ5 => exact ⟨β4, env5, S4, xx, sm4, r, w4⟩
            | _ => exact r.elim
          | bk env5 =>
            cases t with
            | bk σ5 => exact Want.at (R := RF N) (Q := endQ D) (t := FV.nx σ5) w4 xx sm4 r
            | _ => exact r.elim
          | rt d5 =>
            cases t with
            | rt v5 => exact Want.at (R := RF N) (Q := endQ D) (t := FV.rt v5) w4 xx sm4 r
            | _ => exact r.elim
theorem s_whl {body : List Stmt} (hp : PassesOwn (model X.prog X.w) X.A X.env X.xe) (hc : PT X ec (tT N Y c)) (hb : PSs X body (tSs N Y ss)) : PS X (.While ec body [] pos) (tS N Y (.whl c ss)) :=
  PS.imp (ps_while hp hc hb) fun D σ H h => by
    obtain ⟨β1, env, S, sm, er, w⟩ := h
    refine ⟨fun m σ H2 => ∃ β env S, Nxt β1 H β H2 ∧ Sim N β S H2 ∧ EnvR N β H2 env σ ∧ Want N (RF N) β1 H (whlN (fun e s => evT Y c e s) (fun e s => execs Y ss e s) m env S) (endQ D),
      ⟨lim + 2, β1, env, S, .refl _ _, sm, er, w⟩, ?_⟩
    rintro m σ2 H2 ⟨β2, env2, S2, x2, sm2, er2, w2⟩
    cases m with
    | zero => exact (show False from w2).elim
    | succ m =>
      unfold whlN at w2
      refine ⟨β2, env2, S2, sm2, er2, Want.bind0 (R' := RF N) x2 w2 fun t S3 _ β3 H3 t' x3 sm3 rt w3 => ?_⟩
      cases rt
      have er3 := er2.nxt sm2 x3
      cases t with
      | false => exact iteF (Want.at (R := RF N) (t := FV.nx σ2) w3 (x2.trans x3) sm3 er3)
      | true =>
        refine iteT ⟨_, fun σ' H' h => ⟨m, Nat.lt_succ_self m, h⟩, β3, env2, S3, sm3, er3, Want.bind0 (R' := RF N) (x2.trans x3) w3 fun fl S4 _ β4 H4 t x4 sm4 r w4 => ?_⟩
        have xx := x2.trans (x3.trans x4)
        cases fl with
        | nx env5 =>
          cases t with
          | nx σ5 => exact ⟨β4, env5, S4, xx, sm4, r, w4⟩
          | _ => exact r.elim
        | ct env5 =>
          cases t with
          | ct σ5 => exact ⟨β4, env5, S4, xx, sm4, r, w4⟩
          | _ => exact r.elim
        | bk env5 =>
          cases t with
          | bk σ5 => exact Want.at (R := RF N) (Q := endQ D) (t := FV.nx σ5) w4 xx sm4 r
          | _ => exact r.elim
        | rt d5 =>
          cases t with
          | rt v5 => exact Want.at (R := RF N) (Q := endQ D) (t := FV.rt v5) w4 xx sm4 r
          | _ => exact r.elim
end
end Mi

namespace Mi
open PySem L2 PySem.Spec PyProof.Rows RZ

/-! ### the text and the trees: a look that says whether they go together -/
structure Tab where
  N : List Str
  fns : List Str
  gv : List Str
  bl : List Str
  ecn : List Str := []
  fnm : List Str := []
structure Sc where
  sc : Scope
  st : Str → Bool
  calm : Bool := true
def stB (scope : Scope) (x : Str) : Bool := match scope.names.lookup x with
  | some .local => true
  | some .cell => true
  | _ => false
def scF (sc : Scope) : Sc := ⟨sc, stB sc, true⟩
def scB (scope : Scope) (c : Sc) : Sc := ⟨relS scope c.sc, stB scope, c.calm⟩
def visB (sc : Scope) (x : Str) : Bool := match sc.names.lookup x with
  | some .local => true
  | some .cell => true
  | some .free => true
  | _ => false
def glB (sc : Scope) (x : Str) : Bool := decide (sc.names.lookup x = some .globalImplicit)
def okn (x : Str) : Bool := !(x == ("__debug__" : Str)) && !(x == ("__classdict__" : Str)) && decide (x ≠ "__name__")
def conB : D → Const → Bool
  | .non, .none => true
  | .bl b, .bool b' => b == b'
  | .int i, .int j => decide (i = j)
  | .str x, .str y => decide (x = y)
  | _, _ => false
def BI.nm : BI → Str
  | .len => "len"
  | .min2 => "min"
  | .max2 => "max"
  | .abs => "abs"
  | .int1 => "int"
  | .lst1 => "list"
  | .dictT => "dict"
  | .tup1 => "tuple"
  | .all1 => "all"
  | .any1 => "any"
  | .sum1 => "sum"
def blB (T : Tab) (c : Sc) (x : Str) : Bool := glB c.sc x && okn x && decide (x ∈ T.bl)
def atB : PySem.Expr → Bool
  | .Call (.Name _ _) [] [] _ => false
  | _ => true
def KT.nm : KT → Str
  | .none => "NoneType"
  | .bool => "bool"
  | .int => "int"
  | .str => "str"
  | .tuple => "tuple"
  | .list => "list"
  | .dict => "dict"
def tysB (T : Tab) (c : Sc) : List Ty → List PySem.Expr → Bool
  | [], [] => true
  | .b k :: ts, .Name n _ :: es => decide (n = k.nm) && decide (k ≠ .none) && blB T c n && tysB T c ts es
  | _, _ => false
def tgB (T : Tab) (c : Sc) (own : Option (List Nat)) : Tg → PySem.Expr → Bool
  | .nm i, .Name x _ => decide (T.N[i]? = some x) && c.st x && (match own with
    | some l => decide (i ∈ l)
    | none => true)
  | .tup is, .Tuple es _ _ => nmsB is es
  | _, _ => false
where nmsB : List Nat → List PySem.Expr → Bool
  | [], [] => true
  | i :: is, .Name x _ :: es => decide (T.N[i]? = some x) && c.st x && (match own with
    | some l => decide (i ∈ l)
    | none => true) && nmsB is es
  | _, _ => false

def xtsB (T : Tab) (c : Sc) : List Xt → List PySem.Expr → Bool
  | [], [] => true
  | .ve :: ts, .Name n _ :: es => decide (n = "ValueError") && blB T c n && xtsB T c ts es
  | .own k :: ts, .Name n _ :: es => decide (T.ecn[k]? = some n) && glB c.sc n && okn n && xtsB T c ts es
  | _, _ => false
mutual
def chkE (T : Tab) : E → Sc → PySem.Expr → Bool
  | .var i, c, e => match e with
    | .Name x _ => decide (T.N[i]? = some x) && visB c.sc x && okn x
    | _ => false
  | .con d, _, e => match e with
    | .Constant k _ _ => conB d k
    | _ => false
  | .glob g, c, e => match e with
    | .Name x _ => decide (T.gv[g]? = some x) && glB c.sc x && okn x
    | _ => false
  | .bin op a b, c, e => match e with
    | .BinOp l o r _ => decide (op = o) && chkE T a c l && chkE T b c r
    | _ => false
  | .una op a, c, e => match e with
    | .UnaryOp o x _ => decide (op = o) && decide (op ≠ .Not) && chkE T a c x
    | _ => false
  | .cmp op a b, c, e => match e with
    | .Compare l [o] [r] _ => decide (op = o) && !behindInMarks op r && chkE T a c l && chkE T b c r
    | _ => false
  | .chain op op' a b d, c, e => match e with
    | .Compare l [o, o'] [r, s] _ => decide (op = o) && decide (op' = o') && !lastMarks [op, op'] [r, s] && chkE T a c l && chkE T b c r && chkE T d c s
    | _ => false
  | .and_ es, c, e => match e with
    | .BoolOp .And vs _ => chkEs T es c vs && decide (vs ≠ [])
    | _ => false
  | .or_ es, c, e => match e with
    | .BoolOp .Or vs _ => chkEs T es c vs && decide (vs ≠ [])
    | _ => false
  | .not_ a, c, e => match e with
    | .UnaryOp .Not x _ => chkE T a c x
    | _ => false
  | .ite t a b, c, e => match e with
    | .IfExp t' a' b' _ => chkE T t c t' && chkE T a c a' && chkE T b c b'
    | _ => false
  | .tup es, c, e => match e with
    | .Tuple vs _ _ => chkEs T es c vs
    | _ => false
  | .lst es, c, e => match e with
    | .List vs _ => chkEs T es c vs
    | _ => false
  | .idx a i, c, e => match e with
    | .Subscript x y _ => chkE T a c x && chkE T i c y
    | _ => false
  | .slc a hl hh lo hi, c, e => match e with
    | .Subscript x (.Slice l h none _) _ => chkE T a c x && (match hl, l with
      | true, some y => chkE T lo c y
      | false, none => true
      | _, _ => false) && (match hh, h with
      | true, some y => chkE T hi c y
      | false, none => true
      | _, _ => false)
    | _ => false
  | .call f es, c, e => match e with
    | .Call (.Name x _) args [] _ => decide (T.fns[f]? = some x) && glB c.sc x && okn x && c.calm && chkEs T es c args
    | _ => false
  | .bm m a es, c, e => match e with
    | .Call (.Attribute o nm apos) args [] cpos => decide (nm = m.nm) && atB o && (apos.endLine == cpos.line) && decide (args.length < 20) && chkE T a c o && chkEs T es c args
    | _ => false
  | .bi f es, c, e => match e with
    | .Call (.Name x _) (a :: args) [] _ => decide (x = f.nm) && blB T c x && c.calm && chkEs T es c (a :: args)
    | _ => false
  | .isi a one ts, c, e => match e with
    | .Call (.Name x _) [e1, e2] [] _ => decide (x = "isinstance") && blB T c x && chkE T a c e1 && (match one, e2 with
      | true, .Name n p => tysB T c ts [.Name n p]
      | false, .Tuple es _ _ => tysB T c ts es && decide (ts ≠ []) && decide (ts.length ≤ 100)
      | _, _ => false)
    | _ => false
  | .comp own tg it ifs elt, c, e => match e with
    | .ListComp e' [⟨t, i, fs, 0⟩] scope _ => c.calm && blkC T.N c.sc scope own && chkI T it c t i && tgB T (scB scope c) (some (own.map (·.2))) tg t && decide (fs.length ≤ 1) && chkEs T ifs (scB scope c) fs && chkE T elt (scB scope c) e'
    | _ => false
  | .dnew t, _, e => match e with
    | .Dict [] [] _ => true
    | _ => false
  | .attr a f, c, e => match e with
    | .Attribute o x _ => decide (T.fnm[f]? = some x) && atB o && chkE T a c o
    | _ => false
  | .xis a one ts, c, e => match e with
    | .Call (.Name x _) [e1, e2] [] _ => decide (x = "isinstance") && blB T c x && chkE T a c e1 && (match one, e2 with
      | true, .Name n p => xtsB T c ts [.Name n p]
      | false, .Tuple es _ _ => xtsB T c ts es && decide (ts.length ≤ 100)
      | _, _ => false)
    | _ => false
  | .make _ _, _, _ => false
  | .meth _ _ _, _, _ => false
  | .dsp es, c, e => match e with
    | .Dict ks vs _ => chkPs T es c ks vs && decide (ks ≠ []) && decide (ks.length ≤ 15)
    | _ => false
  | .join a b, c, e => match e with
    | .Call (.Attribute o nm apos) [x] [] cpos => decide (nm = "join") && atB o && (apos.endLine == cpos.line) && chkE T a c o && chkE T b c x
    | _ => false
  | .lrev a, c, e => match e with
    | .Call (.Name x _) [.Call (.Name y _) [z] [] _] [] _ => decide (x = "list") && decide (y = "reversed") && blB T c x && blB T c y && c.calm && chkE T a c z
    | _ => false
def chkEs (T : Tab) : Es → Sc → List PySem.Expr → Bool
  | .nil, _, l => match l with
    | [] => true
    | _ => false
  | .cons a es, c, l => match l with
    | e :: r => chkE T a c e && chkEs T es c r
    | _ => false
def chkPs (T : Tab) : Es → Sc → List (Option PySem.Expr) → List PySem.Expr → Bool
  | .nil, _, ks, vs => match ks, vs with
    | [], [] => true
    | _, _ => false
  | .cons a es, c, ks, vs => match ks, vs with
    | some k :: kr, v :: vr => (match es with
      | .cons b es' => chkE T a c k && chkE T b c v && chkPs T es' c kr vr
      | .nil => false)
    | _, _ => false
def chkI (T : Tab) : I → Sc → PySem.Expr → PySem.Expr → Bool
  | .val a, c, _, e => chkE T a c e
  | .rng1 a, c, _, e => match e with
    | .Call (.Name x _) [y] [] _ => decide (x = "range") && blB T c x && chkE T a c y
    | _ => false
  | .rng2 a b, c, _, e => match e with
    | .Call (.Name x _) [y, z] [] _ => decide (x = "range") && blB T c x && chkE T a c y && chkE T b c z
    | _ => false
  | .enu a, c, t, e => match t, e with
    | .Tuple _ _ _, .Call (.Name x _) [y] [] _ => decide (x = "enumerate") && blB T c x && chkE T a c y
    | _, _ => false
  | .zip a b, c, t, e => match t, e with
    | .Tuple _ _ _, .Call (.Name x _) [y, z] [] _ => decide (x = "zip") && blB T c x && chkE T a c y && chkE T b c z
    | _, _ => false
end

/-! ### what the look gives, without values -/
theorem nostar {T : Tab} {a : E} {c : Sc} {e : PySem.Expr} (h : chkE T a c e = true) (env : PySem.Env) (r : List PySem.Expr) : starEach (e :: r) env = (false, eval e env) :: starEach r env := by
  cases e <;> first
    | rfl
    | (cases a <;> simp [chkE] at h)
theorem star_all {T : Tab} : ∀ {es : Es} {c : Sc} {l : List PySem.Expr}, chkEs T es c l = true → ∀ env, starEach l env = l.map fun e => (false, eval e env)
  | .nil, c, l, h, env => by
    unfold chkEs at h
    split at h
    · rfl
    · cases h
  | .cons a es, c, l, h, env => by
    unfold chkEs at h
    split at h
    · rw [Bool.and_eq_true] at h
      rw [nostar h.1, star_all h.2, List.map_cons]
    · cases h
theorem back_all {l : List PySem.Expr} {env : PySem.Env} {pos : Pos} (h : starEach l env = l.map fun e => (false, eval e env)) : (backTo pos (starEach l env)).any (·.1) = false := by
  rw [h]
  unfold backTo
  rw [List.map_map, List.any_map]
  induction l with
  | nil => rfl
  | cons e l ih => rw [List.any_cons]; exact Bool.or_eq_false_iff.mpr ⟨rfl, by
      clear ih h
      induction l with
      | nil => rfl
      | cons e l ih => rw [List.any_cons]; exact Bool.or_eq_false_iff.mpr ⟨rfl, ih⟩⟩
theorem back_all' {l : List PySem.Expr} {env : PySem.Env} {pos : Pos} (h : starEach l env = l.map fun e => (false, eval e env)) : (backTo pos (starEach l env)).all (fun x => !x.1) = true := by
  rw [h]
  unfold backTo
  rw [List.map_map, List.all_map]
  clear h
  induction l with
  | nil => rfl
  | cons e l ih => rw [List.all_cons]; exact Bool.and_eq_true_iff.mpr ⟨rfl, ih⟩
theorem atB_ok {o : PySem.Expr} (h : atB o = true) (nm : Str) (env : PySem.Env) (whole : Sem Value) : attributeBase o nm env whole = whole := by
  unfold attributeBase
  split
  · cases h
  · rfl
theorem plain_ix {T : Tab} {a : E} {c : Sc} {e : PySem.Expr} (h : chkE T a c e = true) : PlainIx e := by
  intro o i
  cases e <;> first
    | rfl
    | (cases a <;> simp [chkE] at h)
theorem no_fold {T : Tab} {it : I} {c : Sc} {t e : PySem.Expr} (h : chkI T it c t e = true) (env : PySem.Env) (x : Value) : foldedSetIterable e env x = pure x := by
  cases e <;> first
    | rfl
    | (cases it <;> simp [chkI] at h <;> rename_i a <;> cases a <;> simp [chkE] at h)
    | (cases it <;> simp [chkI] at h <;> split at h <;> simp at h)
end Mi

/-! The def __init__ of an own class of exceptions. -/
namespace Mi
open PySem L2 PySem.Spec PyProof.Rows RZ
def scopeB (N ps : List Str) (sc : Scope) : Bool :=
  decide (sc.kind = .function) && decide (sc.isCoroutine = false) && decide (sc.isGenerator = false) && decide N.Nodup && decide (N.take ps.length = ps) && ps.all (fun x => stB sc x) && sc.names.all (fun y => decide (y.2 ≠ .free))
theorem scope_ok {N ps : List Str} {sc : Scope} (h : scopeB N ps sc = true) : FnScope N ps sc := by
  unfold scopeB at h
  simp only [Bool.and_eq_true, decide_eq_true_eq, List.all_eq_true] at h
  obtain ⟨⟨⟨⟨⟨⟨h1, h2⟩, h3⟩, h4⟩, h5⟩, h6⟩, h7⟩ := h
  refine ⟨h1, h2, h3, h4, h5, fun x hx => ?_, h7⟩
  have := h6 x hx
  unfold stB at this
  split at this
  · rename_i e; exact .inl e
  · rename_i e; exact .inr e
  · cases this

def iniNm (N : List Str) (sc : Scope) (i : Nat) : PySem.Expr → Bool
  | .Name x _ => decide (N[i]? = some x) && stB sc x && okn x
  | _ => false
def iniArg (N : List Str) (sc : Scope) : PySem.Expr → Bool
  | .Constant (.str _) _ _ => true
  | .Name x _ => decide (x ∈ N) && stB sc x && okn x
  | _ => false
def iniAsg (N : List Str) (sc : Scope) : List (Str × Nat) → List Stmt → Bool
  | [], [] => true
  | (f, i) :: r, .Assign [.Attribute o g _] e _ :: l => decide (g = f) && decide (0 < i) && iniNm N sc 0 o && iniNm N sc i e && iniAsg N sc r l
  | _, _ => false
/-- whether a def is such an __init__: N its names, self ahead; B the class above; fl the fields and the names' places -/
def iniB (N : List Str) (B : Str) (fl : List (Str × Nat)) (st : Stmt) : Bool := scopeB N N (defScope st) && decide (fl.length ≤ 800) && decide (N.length ≤ 900) && (match N, defBody st with
  | _ :: _, .Expr (.Call (.Attribute (.Name x _) m apos) [o, e] [] cpos) _ :: l => decide (x = B) && decide (m = "__init__") && glB (defScope st) x && okn x && (apos.endLine == cpos.line) && iniNm N (defScope st) 0 o && iniArg N (defScope st) e && iniAsg N (defScope st) fl l
  | _, _ => false)
section
variable {X : Cx} {N : List Str} {sc : Scope}
theorem stB_vis {x : Str} (h : stB sc x = true) (e : X.env.scope = sc) : Vis X.env.scope x := by
  unfold stB at h
  unfold Vis
  rw [e]
  split at h
  · rename_i z; exact .inl z
  · rename_i z; exact .inr (.inl z)
  · cases h
theorem ini_nm {i : Nat} {e : PySem.Expr} (h : iniNm N sc i e = true) (hN : X.N = N) (hs : X.env.scope = sc) : PE X e (tVar i) ∧ (∀ t l, swapsWith e t l X.env = pure false) ∧ (∀ r, starEach (e :: r) X.env = (false, eval e X.env) :: starEach r X.env) := by
  unfold iniNm at h
  split at h
  · rename_i x p
    simp only [Bool.and_eq_true, decide_eq_true_eq] at h
    obtain ⟨⟨h1, h2⟩, h3⟩ := h
    unfold okn at h3
    simp only [Bool.and_eq_true] at h3
    exact ⟨pe_var (by rw [hN]; exact h1) (stB_vis h2 hs) (by simpa using h3.1.1) (by simpa using h3.1.2), fun _ _ => rfl, fun _ => rfl⟩
  · cases h
/-- any value -/
def tSome (i : Option Nat) (v : V) : TE := match i with
  | some i => tVar i
  | none => tC v
theorem ini_arg {e : PySem.Expr} (h : iniArg N sc e = true) (hN : X.N = N) (hs : X.env.scope = sc) : ∃ i v, PE X e (tSome i v) ∧ (∀ j, i = some j → j < N.length) ∧ ∀ r, starEach (e :: r) X.env = (false, eval e X.env) :: starEach r X.env := by
  unfold iniArg at h
  split at h
  · refine ⟨none, .str _, pe_str, ?_, fun _ => rfl⟩
    intro j z
    cases z
  · rename_i x p
    simp only [Bool.and_eq_true, decide_eq_true_eq] at h
    obtain ⟨⟨h1, h2⟩, h3⟩ := h
    unfold okn at h3
    simp only [Bool.and_eq_true] at h3
    obtain ⟨i, hi, e⟩ := List.getElem_of_mem h1
    exact ⟨some i, .non, pe_var (i := i) (by rw [hN, List.getElem?_eq_getElem hi, e]) (stB_vis h2 hs) (by simpa using h3.1.1) (by simpa using h3.1.2), fun j z => by cases z; exact hi, fun _ => rfl⟩
  · cases h
theorem ini_asg : ∀ {fl : List (Str × Nat)} {l : List Stmt}, iniAsg N sc fl l = true → X.N = N → X.env.scope = sc → PSs X l (tOsts X.K fl) ∧ ∀ p ∈ fl, 0 < p.2 ∧ p.2 < N.length
  | [], l, h, hN, hs => by
    cases l with
    | nil => exact ⟨pss_nil, fun _ z => nomatch z⟩
    | cons a l => simp [iniAsg] at h
  | (f, i) :: r, l, h, hN, hs => by
    unfold iniAsg at h
    split at h
    · cases ‹_ = []›
    · rename_i f' i' r' o g p' e p l' heq
      cases heq
      simp only [Bool.and_eq_true, decide_eq_true_eq] at h
      obtain ⟨⟨⟨⟨h1, h0⟩, h2⟩, h3⟩, h4⟩ := h
      subst h1
      obtain ⟨a1, _, _⟩ := ini_nm (X := X) h2 hN hs
      obtain ⟨b1, b2, _⟩ := ini_nm (X := X) h3 hN hs
      obtain ⟨c1, c2⟩ := ini_asg h4 hN hs
      refine ⟨pss_cons (ps_ost a1 b1 (b2 _ _)) c1, fun q hq => ?_⟩
      rcases List.mem_cons.mp hq with rfl | hq
      · unfold iniNm at h3
        split at h3
        · simp only [Bool.and_eq_true, decide_eq_true_eq] at h3
          exact ⟨h0, (List.getElem?_eq_some_iff.mp h3.1.1).1⟩
        · cases h3
      · exact c2 q hq
    · cases h
end
/-! ### its reading -/
section
variable {K : PySem.W.Frag} {a C : Addr} {ws : List V} {D : Ends} {H0 : Hp}
theorem slot_at {i : Nat} (h0 : 0 < i) (hi : i < ws.length + 1) : ((V.ref a :: ws).map some)[i]? = some (some ((ws[i - 1]?).getD .non)) := by
  obtain ⟨j, rfl⟩ : ∃ j, i = j + 1 := ⟨i - 1, by omega⟩
  have : j < ws.length := by omega
  simp [this]
def iniMk (ws : List V) : List (Str × Nat) → List (Str × V) → List (Str × V)
  | [], acc => acc
  | (f, i) :: r, acc => iniMk ws r ((f, (ws[i - 1]?).getD .non) :: acc)
theorem osts_go (T : OexC K C) : ∀ (fl : List (Str × Nat)) (acc : List (Str × V)) (H : Hp) (d : Addr), (∀ p ∈ fl, PySem.W.findIn K (.ref C) p.1 = some none ∧ 0 < p.2 ∧ p.2 < ws.length + 1) → acc.length + fl.length ≤ 900 →
    H a = some (exo a C (some d)) → H d = some (exd d acc) → d ≠ a → (∀ b, b ≠ a → b ≠ d → H b = H0 b) →
    (∀ H2, H2 a = some (exo a C (some d)) → H2 d = some (exd d (iniMk ws fl acc)) → (∀ b, b ≠ a → b ≠ d → H2 b = H0 b) → D.nx ((V.ref a :: ws).map some) H2) → tOsts K fl D ((V.ref a :: ws).map some) H
  | [], acc, H, d, _, _, ea, ed, ne, same, k => k H ea ed same
  | (f, i) :: r, acc, H, d, hf, hl, ea, ed, ne, same, k => by
    obtain ⟨h1, h0, h2⟩ := hf (f, i) (List.mem_cons_self ..)
    have hl' : acc.length + (r.length + 1) ≤ 900 := by simpa using hl
    refine ⟨_, slot_at h0 h2, .ref a, rfl, a, C, rfl, T, h1, .inr ⟨d, acc, ea, ed, by omega, ?_⟩⟩
    refine osts_go T r _ _ d (fun p hp => hf p (List.mem_cons_of_mem _ hp)) (by rw [List.length_cons]; omega) ?_ upd_same ne (fun b hb hd => ?_) k
    · rw [upd_ne (Ne.symm ne)]; exact ea
    · rw [upd_ne hd]; exact same b hb hd
theorem osts_ok (T : OexC K C) (fl : List (Str × Nat)) (hf : ∀ p ∈ fl, PySem.W.findIn K (.ref C) p.1 = some none ∧ 0 < p.2 ∧ p.2 < ws.length + 1) (hl : fl.length ≤ 800) (hn : H0 a = none)
    (k : ∀ H2, IniEnd H0 H2 a C (iniMk ws fl []) → D.nx ((V.ref a :: ws).map some) H2) : tOsts K fl D ((V.ref a :: ws).map some) (upd H0 a (exo a C none)) := by
  cases fl with
  | nil => exact k _ (.inl ⟨rfl, rfl⟩)
  | cons p r =>
    obtain ⟨f, i⟩ := p
    obtain ⟨h1, h0, h2⟩ := hf (f, i) (List.mem_cons_self ..)
    refine ⟨_, slot_at h0 h2, .ref a, rfl, a, C, rfl, T, h1, .inl ⟨upd_same, fun d hd ne => ?_⟩⟩
    have hd0 : H0 d = none := by rw [upd_ne ne] at hd; exact hd
    refine osts_go (H0 := H0) T r _ _ d (fun p hp => hf p (List.mem_cons_of_mem _ hp)) (by simp at hl ⊢; omega) upd_same ?_ ne (fun b hb hb2 => ?_) fun H2 ea ed same => k H2 (.inr ⟨?_, d, ea, ed, hd0, ne, same⟩)
    · rw [upd_ne ne, upd_same]
    · rw [upd_ne hb, upd_ne hb2, upd_ne hb]
    · have mono : ∀ (l : List (Str × Nat)) (acc : List (Str × V)), acc ≠ [] → iniMk ws l acc ≠ [] := by
        intro l
        induction l with
        | nil => exact fun acc h => h
        | cons p l ih => intro acc _; obtain ⟨f, i⟩ := p; exact ih _ (by simp)
      exact mono r _ (by simp)
end
theorem base_call {x : Str} {p1 apos cpos : Pos} {o e : PySem.Expr} {env : PySem.Env} (h1 : starEach [o, e] env = [(false, eval o env), (false, eval e env)]) (hl : (apos.endLine == cpos.line) = true) :
    eval (.Call (.Attribute (.Name x p1) "__init__" apos) [o, e] [] cpos) env = (do
      let ov ← eval (.Name x p1) env
      standAt apos.atName
      let (f, first) ← holding [ov] (getMethod ov "__init__" (do return (← importBound (.Name x p1) env).getD true))
      callWith cpos f first (backTo cpos (starEach [o, e] env)) (backToKw cpos (keywordEach [] env))) := by
  have hf : methodCallForm ([o, e].length + ([] : List Keyword).length) (backTo cpos (starEach [o, e] env)) (backToKw cpos (keywordEach [] env)) = true := by rw [h1]; rfl
  have hp : methodCallPos true (.Name x p1) env apos cpos = pure cpos := by unfold methodCallPos; rw [hl]; rfl
  show (do
    let ov ← eval (.Name x p1) env
    standAt apos.atName
    methodCall (.Name x p1) "__init__" apos cpos env ov ([o, e].length + ([] : List Keyword).length) (backTo cpos (starEach [o, e] env)) (backToKw cpos (keywordEach [] env))) = _
  unfold methodCall
  rw [hf, hp]
  rfl
theorem iniEnd_len {fl : List (Str × Nat)} {N : List Str} {B : Str} {st : Stmt} (h : iniB N B fl st = true) : fl.length ≤ 800 ∧ N.length ≤ 900 ∧ 0 < N.length ∧ FnScope N N (defScope st) := by
  unfold iniB at h
  simp only [Bool.and_eq_true, decide_eq_true_eq] at h
  obtain ⟨⟨⟨h1, h2⟩, h3⟩, h4⟩ := h
  refine ⟨h2, h3, ?_, scope_ok h1⟩
  cases N with
  | nil => simp at h4
  | cons a N => simp
section
variable {P : Program} {w : World} {K : PySem.W.Frag} {mg : Str → Option Value} {base : Heap} {qual x : Str} {st : Stmt} {f C B : Addr} {fd : FuncData} {N : List Str} {fl : List (Str × Nat)} {k : Nat}
theorem ini_ok (F : Fun K "__init__" qual st f fd) (h : iniB N x fl st = true) (T : OexC K C) (TB : XBase K B) (hB : mg x = some (.ref B)) (hno : ∀ p ∈ fl, PySem.W.findIn K (.ref C) p.1 = some none) :
    FnOk P w K mg base CX0 (k + 1) f fd N (spIni C (N.length - 1) fun ws => iniMk ws fl []) := by
  obtain ⟨hl, hN, hN0, S⟩ := iniEnd_len h
  refine F.ok S (fun vs H Q E h => ?_) (fun cdv A outer s H vs Q E hr hsp => ?_)
  · obtain ⟨a, ws, H1, rfl, hw, _⟩ := h
    rw [List.length_cons, hw]; omega
  · obtain ⟨a, ws, H1, rfl, hw, rfl, hn, q⟩ := hsp
    unfold iniB at h
    simp only [Bool.and_eq_true, decide_eq_true_eq] at h
    obtain ⟨_, h⟩ := h
    obtain ⟨N0, N1, rfl⟩ : ∃ N0 N1, N = N0 :: N1 := by
      cases N with
      | nil => exact absurd hN0 (Nat.lt_irrefl _)
      | cons a l => exact ⟨a, l, rfl⟩
    split at h
    · rename_i x' p1 m apos o e cpos p3 l _ hb
      simp only [Bool.and_eq_true, decide_eq_true_eq] at h
      obtain ⟨⟨⟨⟨⟨⟨⟨h1, h2⟩, h3⟩, h4⟩, h5⟩, h6⟩, h7⟩, h8⟩ := h
      subst h1 h2
      have h3 : Gl (cxOf CX0 P w K mg base (N0 :: N1) qual (defScope st) f cdv A outer s (upd H1 a (exo a C none)) E).nox x' := (of_decide_eq_true h3 : (defScope st).names.lookup x' = some .globalImplicit)
      unfold okn at h4
      simp only [Bool.and_eq_true] at h4
      obtain ⟨a1, _, a3⟩ := ini_nm (X := (cxOf CX0 P w K mg base (N0 :: N1) qual (defScope st) f cdv A outer s (upd H1 a (exo a C none)) E).nox) h6 rfl rfl
      obtain ⟨i, v, b1, b2, b3⟩ := ini_arg (X := (cxOf CX0 P w K mg base (N0 :: N1) qual (defScope st) f cdv A outer s (upd H1 a (exo a C none)) E).nox) h7 rfl rfl
      obtain ⟨c1, c2⟩ := ini_asg (X := (cxOf CX0 P w K mg base (N0 :: N1) qual (defScope st) f cdv A outer s (upd H1 a (exo a C none)) E).nox) h8 rfl rfl
      have hst : L2.start (N0 :: N1) (.ref a :: ws) = (V.ref a :: ws).map some := by
        have : (N0 :: N1).length = (V.ref a :: ws).length := by simp at hw ⊢; omega
        unfold L2.start
        simp [this]
      have p := pe_base (pos := cpos) (p1 := p1) (p2 := apos) TB h3 hB (by simpa using h4.1.1) (pa_cons a1 (pa_cons b1 pa_nil (b3 _)) (a3 _)) (base_call (by rw [a3, b3]; rfl) h5) (a3 _) (by rw [b3 []]; rfl)
      refine ⟨tSeq (tDrop (tVeI K (tCons (tVar 0) (tCons (tSome i v) tNil)))) (tOsts K fl), ?_, ?_⟩
      · rw [hb]
        exact pss_cons (ps_expr p) c1
      · rw [hst]
        have key : ∀ Q' : List V → Hp → Prop, (∀ u, Q' [.ref a, u] (upd H1 a (exo a C none))) → tCons (tVar 0) (tCons (tSome i v) tNil) ((V.ref a :: ws).map some) (upd H1 a (exo a C none)) Q' := fun Q' hq => by
          refine ⟨.ref a, rfl, ?_⟩
          cases i with
          | none => exact hq v
          | some j =>
            have hj := b2 j rfl
            have hj' : j < ((V.ref a :: ws).map some).length := by simp at hj hw ⊢; omega
            cases j with
            | zero => exact ⟨.ref a, rfl, hq _⟩
            | succ j => exact ⟨_, slot_at (Nat.succ_pos _) (by simpa using hj'), hq _⟩
        refine key (fun vs H2 => ∃ (a' C' : Addr) (ws' : List V), vs = .ref a' :: ws' ∧ ws'.length ≤ 1000 ∧ OexC K C' ∧ H2 a' = some (exo a' C' none) ∧ tOsts K fl { nx := fun _ H' => Q .non H', rt := Q } ((V.ref a :: ws).map some) H2) fun u => ⟨a, C, [u], rfl, by simp, T, upd_same, ?_⟩
        exact osts_ok T fl (fun p hp => ⟨hno p hp, (c2 p hp).1, by have := (c2 p hp).2; simp at this hw; omega⟩) hl hn fun H2 z => q H2 z
    · cases h
end
end Mi

namespace Mi
open PySem L2 PySem.Spec PyProof.Rows RZ

structure Wd where
  P : Program
  w : World
  mg : Str → Option Value
  base : Heap
  N : Nm
/-- the same, where other exceptions may leave -/
abbrev Wd.with (W : Wd) (ex : XK) (ok : List (Option V) → Prop) : Wd := { W with N := W.N.with ex ok }
abbrev Wd.calm (W : Wd) : Wd := W.with (fun _ _ _ => False) fun _ => True
/-- a class of exceptions that the text names -/
structure XNm (K : PySem.W.Frag) (mg : Str → Option Value) (x : Str) (C : Addr) : Prop where
  gC : mg x = some (.ref C)
  exC : PySem.W.subIn K (.ref C) (.type "BaseException") = some true
  hdC : PySem.W.hasDictIn K C = true
  tyC : PySem.W.typeIn K (.ref C) = some (.type "type")
/-- one that is raised -/
structure XOK (W : Wd) (T : Tab) (c : Nat) (k : EC) : Prop where
  xc : XCls W.N.K (W.N.cl c)
  ini : ∃ (fI : Addr) (fd : FuncData) (ps : List Str), PySem.W.findIn W.N.K (.ref (W.N.cl c)) "__init__" = some (some (.ref fI)) ∧ PySem.W.typeIn W.N.K (.ref fI) = some (.type "function") ∧
    FnOk W.P W.w W.N.K W.mg W.base CX0 1 fI fd ps (spIni (W.N.cl c) k.np fun ws => k.fs.map fun p => (W.N.fnm p.1, (ws[p.2]?).getD .non)) ∧ Binds W.N.K fd ps [] ∧ k.np ≤ 1000
  no : ∀ p ∈ k.fs, PySem.W.findIn W.N.K (.ref (W.N.cl c)) (W.N.fnm p.1) = some none
  self : k.sup.contains c = true
  sub : ∀ c2 x2, T.ecn[c2]? = some x2 → PySem.W.subIn W.N.K (.ref (W.N.cl c)) (.ref (W.N.cl c2)) = some (k.sup.contains c2)
  ve : PySem.W.subIn W.N.K (.ref (W.N.cl c)) (.type "ValueError") = some true
  inT : ∃ x, T.ecn[c]? = some x
structure WOK (W : Wd) (T : Tab) (n : Nat) (Y : Fs) : Prop where
  xnm : ∀ c x, T.ecn[c]? = some x → XNm W.N.K W.mg x (W.N.cl c)
  ecY : ∀ c k, Y.ec c = some k → W.N.ec c = some k ∧ 2 ≤ n
  ecN : ∀ c k, W.N.ec c = some k → XOK W T c k
  fnm : ∀ f x, T.fnm[f]? = some x → W.N.fnm f = x
  inj : ∀ f g, W.N.fnm f = W.N.fnm g → f = g
  fn : ∀ (f : Nat) (x : Str), T.fns[f]? = some x → ∃ (fa : Addr) (fd : FuncData) (ps : List Str), W.mg x = some (.ref fa) ∧ PySem.W.keepIn W.N.K (.ref fa) = true ∧ FnOk W.P W.w W.N.K W.mg W.base (L2.CX W.P W.w) n fa fd ps (spF W.N (Y.f f)) ∧ Binds W.N.K fd ps []
  gv : ∀ (g : Nat) (x : Str), T.gv[g]? = some x → ∃ u v, W.mg x = some u ∧ RelV v u ∧ ∀ β H, VR W.N.K β H (Y.gv g) v
  bl : ∀ x ∈ T.bl, W.mg x = none
structure Gd (W : Wd) (T : Tab) (n : Nat) (c : Sc) (X : Cx) : Prop where
  hP : X.prog = W.P
  hw : X.w = W.w
  hK : X.K = W.N.K
  hW : HW X W.N
  hm : X.mg = W.mg
  hb : X.base = W.base
  calm : c.calm = true → X.calm = true
  room : c.calm = true → Room n X.A
  hu : X.A.units + 65 < cLine
  nd : X.N.Nodup
  hN : X.N = T.N
  hsc : X.env.scope = c.sc
  knd : X.env.scope.kind = .function
  st : ∀ x, c.st x = true → Loc X.env.scope x ∧ (X.fn x = true ∨ X.env.scope.names.lookup x = some .local)
  po : PassesOwn (model X.prog X.w) X.A X.env X.xe
  tk : Takes X (WN W.N)

section
variable {W : Wd} {T : Tab} {n : Nat} {c : Sc} {X : Cx} {Y : Fs}
theorem Gd.vis (g : Gd W T n c X) {x : Str} (h : visB c.sc x = true) : Vis X.env.scope x := by
  unfold visB at h
  unfold Vis
  rw [g.hsc]
  split at h
  · rename_i e; exact .inl e
  · rename_i e; exact .inr (.inl e)
  · rename_i e; exact .inr (.inr e)
  · cases h
theorem Gd.gl (g : Gd W T n c X) {x : Str} (h : glB c.sc x = true) : Gl X x := by
  show X.env.scope.names.lookup x = some .globalImplicit
  rw [g.hsc]
  exact of_decide_eq_true h
theorem okn_d {x : Str} (h : okn x = true) : (x == ("__debug__" : Str)) = false ∧ (x == ("__classdict__" : Str)) = false ∧ x ≠ "__name__" := by
  unfold okn at h
  rw [Bool.and_eq_true, Bool.and_eq_true] at h
  exact ⟨by simpa using h.1.1, by simpa using h.1.2, by simpa using h.2⟩
theorem spF_with {N : Nm} {ex : XK} {ok : List (Option V) → Prop} {F : List D → Sto → Out D} (vs : List V) (H : Hp) (Q : VK) (E : XK) (h : spF (N.with ex ok) F vs H Q E) : spF N F vs H Q E := by
  obtain ⟨β, S, ds, sm, r, w⟩ := h
  exact ⟨β, S, ds, sm.back, r, w⟩
theorem spF_into {N : Nm} {ex : XK} {ok : List (Option V) → Prop} {F : List D → Sto → Out D} (vs : List V) (H : Hp) (Q : VK) (E : XK) (h : spF N F vs H Q E) : spF (N.with ex ok) F vs H Q E := by
  obtain ⟨β, S, ds, sm, r, w⟩ := h
  exact ⟨β, S, ds, sm.with, r, w⟩
theorem WOK.with (w : WOK W T n Y) (ex : XK) (ok : List (Option V) → Prop) : WOK (W.with ex ok) T n Y where
  xnm := w.xnm
  ecY := w.ecY
  ecN := fun c k h => let z := w.ecN c k h; ⟨z.xc, z.ini, z.no, z.self, z.sub, z.ve, z.inT⟩
  fnm := w.fnm
  inj := w.inj
  fn := fun f x h => by
    obtain ⟨fa, fd, ps, h1, h2, h3, h4⟩ := w.fn f x h
    exact ⟨fa, fd, ps, h1, h2, h3.imp spF_with, h4⟩
  gv := w.gv
  bl := w.bl
theorem Gd.called (g : Gd W T n c X) (hc : c.calm = true) (w : WOK W T n Y) {f : Nat} {x : Str} (h : T.fns[f]? = some x) : CalledAs X W.N Y f x := by
  obtain ⟨fa, fd, ps, h1, h2, h3, h4⟩ := w.fn f x h
  exact ⟨fa, fd, ps, n, by rw [g.hm]; exact h1, by rw [g.hK]; exact h2, by rw [g.hP, g.hw, g.hK, g.hm, g.hb]; exact h3, g.room hc, by rw [g.hK]; exact h4⟩
theorem Gd.blk (g : Gd W T n c X) {scope : Scope} {own : List (Str × Nat)} (ok : BlkOk X.N X.env.scope scope own) (s : Shared) (H : Hp) (C : Addr) (cl : List (Str × Addr)) (fp : List Addr) : Gd W.calm T n (scB scope c) (X.blk s H scope (compEnvC scope cl C X.env) fp) where
  hP := g.hP
  hw := g.hw
  hK := g.hK
  hW := ⟨g.hW.p, g.hW.w⟩
  hm := g.hm
  hb := g.hb
  calm := g.calm
  room := g.room
  hu := g.hu
  nd := g.nd
  hN := g.hN
  hsc := by
    show relabel scope X.env = relS scope c.sc
    rw [← g.hsc]
    rfl
  knd := ok.kind
  st := fun x h => by
    have key : ∀ k : NameKind, k ≠ .free → scope.names.lookup x = some k → (relabel scope X.env).names.lookup x = some k := fun k hk e => lookup_relS_keep (sc := X.env.scope) hk e
    have h : stB scope x = true := h
    unfold stB at h
    split at h
    · rename_i e
      exact ⟨.inl (key _ (by decide) e), .inr (key _ (by decide) e)⟩
    · rename_i e
      refine ⟨.inr (key _ (by decide) e), .inl ?_⟩
      show (scope.names.lookup x == some .cell) = true
      rw [e]; rfl
    · cases h
  po := PassesOwn.never
  tk := fun _ _ ⟨_, _, _, _, _, _, _, _, _, _, _, _, _, _, _, _, _, z⟩ => z.elim
theorem Gd.bl (g : Gd W T n c X) (w : WOK W T n Y) {x : Str} (h : blB T c x = true) : Gl X x ∧ X.mg x = none ∧ x ≠ "__name__" ∧ (x == ("__debug__" : Str)) = false := by
  unfold blB at h
  rw [Bool.and_eq_true, Bool.and_eq_true] at h
  obtain ⟨⟨h1, h2⟩, h3⟩ := h
  obtain ⟨a, b, d⟩ := okn_d h2
  exact ⟨g.gl h1, by rw [g.hm]; exact w.bl x (of_decide_eq_true h3), d, a⟩
theorem bi_boot (f : BI) : bootBuiltins f.nm = some f.val := by cases f <;> decide +kernel
theorem kt_boot {k : KT} (h : k ≠ .none) : bootBuiltins k.nm = some (.type k.name) := by
  cases k <;> first | exact absurd rfl h | decide +kernel
theorem isi_boot : bootBuiltins "isinstance" = some (.builtin "isinstance") := by decide +kernel
theorem tys_ok (g : Gd W T n c X) (w : WOK W T n Y) : ∀ {ts : List Ty} {es : List PySem.Expr}, tysB T c ts es = true → PA X es (tTys ts) ∧ ∀ t ∈ ts, ∃ k, t = .b k
  | [], es, h => by
    cases es with
    | nil => exact ⟨PA.imp pa_nil fun _ _ _ q => q, fun t ht => by cases ht⟩
    | cons e es => simp [tysB] at h
  | t :: ts, es, h => by
    cases t with
    | own c => simp [tysB] at h
    | b k =>
      cases es with
      | nil => simp [tysB] at h
      | cons e es =>
        cases e with
        | Name nm p =>
          simp only [tysB, Bool.and_eq_true, decide_eq_true_eq] at h
          obtain ⟨⟨⟨h1, h2⟩, h3⟩, h4⟩ := h
          subst h1
          obtain ⟨a1, a2, a3, a4⟩ := g.bl w h3
          obtain ⟨ih, io⟩ := tys_ok g w h4
          refine ⟨PA.imp (pa_cons (pe_bltn (v := .ty k.name) a1 a2 (kt_boot h2) rfl a3 a4) ih) fun _ _ _ q => q, fun t ht => ?_⟩
          rcases List.mem_cons.mp ht with e | ht
          · exact ⟨k, e⟩
          · exact io t ht
        | _ => simp [tysB] at h
theorem nms_ok (g : Gd W T n c X) {own : Option (List Nat)} : ∀ {is : List Nat} {es : List PySem.Expr}, tgB.nmsB T c own is es = true → PGs X es (gNs is) ∧ (assignEach es X.env).length = is.length ∧ (assignEach es X.env).findIdx? (·.1) = none
  | [], es, h => by
    cases es with
    | nil => exact ⟨gn_nil, rfl, rfl⟩
    | cons e es => simp [tgB.nmsB] at h
  | i :: is, es, h => by
    cases es with
    | nil => simp [tgB.nmsB] at h
    | cons e es =>
      cases e with
      | Name x p =>
        simp only [tgB.nmsB, Bool.and_eq_true, decide_eq_true_eq] at h
        obtain ⟨⟨⟨h1, h2⟩, h3⟩, h4⟩ := h
        obtain ⟨a1, a2, a3⟩ := nms_ok g h4
        obtain ⟨b1, b2⟩ := g.st x h2
        refine ⟨gn_cons g.nd (by rw [g.hN]; exact h1) b1 b2 a1 rfl, ?_, ?_⟩
        · show (_ :: assignEach es X.env).length = _
          rw [List.length_cons, a2, List.length_cons]
        · show (((false, _) : Bool × (Value → Sem Unit)) :: assignEach es X.env).findIdx? (·.1) = none
          rw [List.findIdx?_cons, a3]
          rfl
      | _ => simp [tgB.nmsB] at h
theorem nms_in {l : List Nat} : ∀ {is : List Nat} {es : List PySem.Expr}, tgB.nmsB T c (some l) is es = true → ∀ i ∈ is, i ∈ l
  | [], es, h, i, hi => by cases hi
  | i :: is, es, h, j, hj => by
    cases es with
    | nil => simp [tgB.nmsB] at h
    | cons e es =>
      cases e with
      | Name x p =>
        simp only [tgB.nmsB, Bool.and_eq_true, decide_eq_true_eq] at h
        obtain ⟨⟨⟨h1, h2⟩, h3⟩, h4⟩ := h
        rcases List.mem_cons.mp hj with e | hj
        · rw [e]; exact h3
        · exact nms_in h4 j hj
      | _ => simp [tgB.nmsB] at h
theorem tg_in {l : List Nat} {tg : Tg} {e : PySem.Expr} (h : tgB T c (some l) tg e = true) : ∀ i ∈ tg.slots, i ∈ l := by
  cases tg with
  | nm i =>
    cases e with
    | Name x p =>
      simp only [tgB, Bool.and_eq_true, decide_eq_true_eq] at h
      intro j hj
      have : j = i := by simpa [Tg.slots] using hj
      rw [this]; exact h.2
    | _ => simp [tgB] at h
  | tup is =>
    cases e with
    | Tuple es k p => exact nms_in (show tgB.nmsB T c (some l) is es = true from h)
    | _ => simp [tgB] at h
theorem tg_ok (g : Gd W T n c X) (hcm : c.calm = true) {own : Option (List Nat)} {tg : Tg} {e : PySem.Expr} (h : tgB T c own tg e = true) : PG X e (gT X.K tg) := by
  cases tg with
  | nm i =>
    cases e with
    | Name x p =>
      simp only [tgB, Bool.and_eq_true, decide_eq_true_eq] at h
      obtain ⟨⟨h1, h2⟩, h3⟩ := h
      obtain ⟨b1, b2⟩ := g.st _ h2
      exact g_nm g.nd (by rw [g.hN]; exact h1) b1 b2
    | _ => simp [tgB] at h
  | tup is =>
    cases e with
    | Tuple es k p =>
      obtain ⟨a1, a2, a3⟩ := nms_ok g (show tgB.nmsB T c own is es = true from h)
      exact g_tup (g.calm hcm) a1 a2 a3
    | _ => simp [tgB] at h
theorem con_ok {d : D} {k : Const} {j : Nat} {pos : Pos} (h : conB d k = true) : ∃ v, PE X (.Constant k j pos) (tC v) ∧ ∀ β H, VR W.N.K β H d v := by
  unfold conB at h
  split at h
  · exact ⟨.non, pe_non, fun _ _ => .non⟩
  · rename_i b b'
    have : b = b' := by simpa using h
    subst this
    exact ⟨.bl b, pe_bl, fun _ _ => .bl b⟩
  · rename_i b b'
    have : b = b' := by simpa using h
    subst this
    exact ⟨.int b, pe_int, fun _ _ => .int b⟩
  · rename_i b b'
    have : b = b' := by simpa using h
    subst this
    exact ⟨.str b, pe_str, fun _ _ => .str b⟩
  · cases h
/-- all parts of a comprehension -/
structure CompOk (X : Cx) (N : Nm) (Y : Fs) (own : List (Str × Nat)) (tg : Tg) (it : I) (fs : Es) (a : E) (tgE iter elt : PySem.Expr) (ifs : List PySem.Expr) (scope : Scope) : Prop where
  hi : PI X tgE iter (tI N Y it)
  ok : BlkOk X.N X.env.scope scope own
  hg : ∀ (s : Shared) (H : Hp) (C : Addr) (cl : List (Str × Addr)) (fp : List Addr), PG (X.blk s H scope (compEnvC scope cl C X.env) fp) tgE (gT X.K tg)
  ht : ∀ (s : Shared) (H : Hp) (C : Addr) (cl : List (Str × Addr)) (fp : List Addr), PTs (X.blk s H scope (compEnvC scope cl C X.env) fp) ifs (tIfs (N.with (fun _ _ _ => False) fun _ => True) Y fs)
  he : ∀ (s : Shared) (H : Hp) (C : Addr) (cl : List (Str × Addr)) (fp : List Addr), PE (X.blk s H scope (compEnvC scope cl C X.env) fp) elt (tE (N.with (fun _ _ _ => False) fun _ => True) Y a)
  hs : ∀ x, foldedSetIterable iter X.env x = pure x
  hown : ∀ i ∈ tg.slots, i ∈ own.map (·.2)

structure PET (X : Cx) (N : Nm) (Y : Fs) (a : E) (ex : PySem.Expr) : Prop where
  e : PE X ex (tE N Y a)
  t : PT X ex (tT N Y a)
structure LST (X : Cx) (N : Nm) (Y : Fs) (es : Es) (l : List PySem.Expr) : Prop where
  a : PA X l (tEs N Y es)
  an : l ≠ [] → ∀ pos, PE X (.BoolOp .And l pos) (tAn N Y es) ∧ PW X (.BoolOp .And l pos) (tAnT N Y es)
  on : l ≠ [] → ∀ pos, PE X (.BoolOp .Or l pos) (tOn N Y es) ∧ PW X (.BoolOp .Or l pos) (tOnT N Y es)
  i : l.length ≤ 1 → PTs X l (tIfs N Y es)
theorem PET.of {X : Cx} {N : Nm} {Y : Fs} {a : E} {ex : PySem.Expr} (hK : X.K = N.K) (p : PE X ex (tE N Y a)) (he : ∀ whole, isTrue ex X.env whole = (do let v ← whole; standAt ex.pos; holding [v] (truthy v))) : PET X N Y a ex := ⟨p, t_of hK p he⟩
theorem ifs_nil {N : Nm} {Y : Fs} : PTs X [] (tIfs N Y .nil) := PTs.imp pts_nil fun σ H Q h => by
  obtain ⟨β, env, S, sm, er, w⟩ := h
  exact Want.here (R := RB) (a := true) (S := S) w sm rfl
theorem ifs_one {N : Nm} {Y : Fs} {a : E} {es : Es} {e : PySem.Expr} (h : PT X e (tT N Y a)) : PTs X [e] (tIfs N Y (.cons a es)) := PTs.imp (pts_one h) fun σ H Q h => h

theorem e_lrev {N : Nm} {a : E} {ea : PySem.Expr} {p p2 pos pos2 : Pos} (hK : X.K = N.K) (hc : X.calm = true) (hg : Gl X "list") (hm : X.mg "list" = none) (hg2 : Gl X "reversed") (hm2 : X.mg "reversed" = none) (ha : PE X ea (tE N Y a)) (hs : starEach [ea] X.env = [(false, eval ea X.env)]) :
    PE X (.Call (.Name "list" p) [.Call (.Name "reversed" p2) [ea] [] pos2] [] pos) (tE N Y (.lrev a)) := by
  have q := pe_lstRev (X := X) (p := p) (p2 := p2) (pos := pos) (pos2 := pos2) hc hg hm hg2 hm2 ha hs rfl
  rw [hK] at q
  refine PE.imp q fun σ H Q h => ?_
  obtain ⟨β, env, S, sm, er, w⟩ := h
  refine tE_bind (R' := RD N) sm er w fun d S1 β1 H1 v x1 sm1 er1 r1 w1 => ?_
  split at w1
  · rename_i xs hx
    obtain ⟨l, vs, rfl, h1, h2⟩ := sm1.seq r1 hx
    exact ⟨l, vs, rfl, h1, w1.newL sm1 h2.reverse⟩
  · exact w1.elim
theorem e_dnew {N : Nm} (hW : HW X N) (t : Bool) (pos : Pos) : PE X (.Dict [] [] pos) (tE N Y (.dnew t)) := by
  cases t with
  | false =>
    refine PE.imp pe_dnewK fun σ H Q h => ?_
    obtain ⟨β, env, S, sm, er, w⟩ := h
    exact fun q hq => w _ _ _ (.new sm hq) (sm.new hq ⟨[], upd_same, .nil⟩) (.ref (if_pos rfl))
  | true =>
    refine PE.imp pe_newT fun σ H Q h => ?_
    obtain ⟨β, env, S, sm, er, w⟩ := h
    rw [hW.p, hW.w]
    exact fun q hq => w _ _ _ (.new sm hq) (sm.new hq ⟨[], upd_same, .nil⟩) (.ref (if_pos rfl))
/-- the pairs of a display -/
def RPs (N : Nm) : Bt → Hp → List D → List (V × V) → Prop := fun β H ds ps => VRs N.K β H ds (ps.flatMap fun p => [p.1, p.2])
def tPs (N : Nm) (Y : Fs) (es : Es) : L2.St → Hp → (List (V × V) → Hp → Prop) → Prop := fun σ H Q => ∃ β env S, Sim N β S H ∧ EnvR N β H env σ ∧ Want N (RPs N) β H (evs Y es env S) Q
structure PPR (X : Cx) (pos : Pos) (N : Nm) (Y : Fs) (es : Es) (ks : List (Option PySem.Expr)) (vs : List PySem.Expr) : Prop where
  p : ∃ trs, PPs X pos ks vs trs ∧ ∀ σ H Q, tPs N Y es σ H Q → tPairs trs σ H Q
  a : ks.all (·.isSome) = true
  l : ks.length = vs.length
theorem ps_nil {pos : Pos} {N : Nm} : PPR X pos N Y .nil [] [] := ⟨⟨[], pps_nil, fun σ H Q h => by
  obtain ⟨β, env, S, sm, er, w⟩ := h
  exact w.here (R := RPs N) sm .nil⟩, rfl, rfl⟩
theorem ps_cons {pos : Pos} {N : Nm} {a b : E} {es : Es} {k v : PySem.Expr} {ks : List (Option PySem.Expr)} {vs : List PySem.Expr} (hk : PE X k (tE N Y a)) (hv : PE X v (tE N Y b)) (h : PPR X pos N Y es ks vs) : PPR X pos N Y (.cons a (.cons b es)) (some k :: ks) (v :: vs) := by
  obtain ⟨⟨trs, p, q⟩, ha, hl⟩ := h
  refine ⟨⟨(tE N Y a, tE N Y b) :: trs, pps_cons hk hv p, fun σ H Q h => ?_⟩, by rw [List.all_cons, ha]; rfl, by rw [List.length_cons, List.length_cons, hl]⟩
  obtain ⟨β, env, S, sm, er, w⟩ := h
  refine tE_bind (R' := RPs N) sm er w fun d S1 β1 H1 x x1 sm1 er1 r1 w1 => ?_
  have w1' : Want N (RPs N) β1 H1 ((ev Y b env S1).bind fun y S2 => (evs Y es env S2).bind fun xs S3 => .ok (d :: y :: xs) S3) Q := by
    have e : ∀ (o : Out D), ((o.bind fun y S2 => (evs Y es env S2).bind fun xs S3 => .ok (y :: xs) S3).bind fun xs S2 => .ok (d :: xs) S2) = (o.bind fun y S2 => (evs Y es env S2).bind fun xs S3 => .ok (d :: y :: xs) S3) := fun o => by
      cases o with
      | ok y S2 => show ((evs Y es env S2).bind _).bind _ = (evs Y es env S2).bind _; cases evs Y es env S2 <;> rfl
      | exc c fs S => rfl
      | no => rfl
    rw [← e]; exact w1
  refine tE_bind (R' := RPs N) sm1 er1 w1' fun d2 S2 β2 H2 y x2 sm2 er2 r2 w2 => ?_
  refine q σ H2 _ ⟨β2, env, S2, sm2, er2, ?_⟩
  cases ho : evs Y es env S2 with
  | ok ds S3 =>
    rw [ho] at w2
    exact fun β3 H3 ps n s r => w2 β3 H3 ((x, y) :: ps) n s (.cons ((r1.nxt sm1 x2).nxt sm2 n) (.cons (r2.nxt sm2 n) r))
  | exc c fs S => rw [ho] at w2; exact w2
  | no => rw [ho] at w2; exact w2
theorem key_kV {K : PySem.W.Frag} {β : Bt} {H : Hp} {d : D} {v : V} {k : Key} (h : VR K β H d v) (e : d.key = some k) : v = kV k := by
  cases d <;> simp [D.key] at e
  · cases h; rw [← e]; rfl
  · cases h; rw [← e]; rfl
theorem pairs_rel {N : Nm} {β : Bt} {H : Hp} : ∀ {ps : List (V × V)} {ds : List D} {kvs : List (Key × D)}, RPs N β H ds ps → pairsD ds = some kvs → ∃ ks, ps = ks.map (fun kv => (kV kv.1, kv.2)) ∧ PVR N β H kvs ks
  | [], ds, kvs, h, e => by
    have h : VRs N.K β H ds [] := h
    cases h
    cases e
    exact ⟨[], rfl, .nil⟩
  | (x, y) :: ps, ds, kvs, h, e => by
    have h : VRs N.K β H ds (x :: y :: ps.flatMap fun p => [p.1, p.2]) := h
    cases h with
    | cons h1 h =>
      cases h with
      | cons h2 h =>
        unfold pairsD at e
        split at e
        · rename_i q l e1 e2
          cases e
          obtain ⟨ks, q1, q2⟩ := pairs_rel h e2
          refine ⟨(q, y) :: ks, ?_, .cons ⟨rfl, h2⟩ q2⟩
          rw [List.map_cons, ← q1, key_kV h1 e1]
        · cases e
theorem paired_len {α γ : Type} {P : α → γ → Prop} {l : List α} {m : List γ} (h : Paired P l m) : l.length = m.length := by
  induction h with
  | nil => rfl
  | cons _ _ ih => rw [List.length_cons, List.length_cons, ih]
/-- what is written at a place that is not ours -/
theorem Sub.other {N : Nm} {β β' : Bt} {H : Hp} {p : Addr} {u : HO} {kvs : List (Key × V)} (hp : H p = some (.dK kvs)) (he : ∀ n a, β n = some a → β' n = some a) : Sub N.K β H β' (upd H p u) where
  ext := he
  tup := fun a xs h => by
    have ne : ∀ w, H a = some w → (∀ z, w ≠ .dK z) → (upd H p u) a = some w := fun w hw hn => by
      rw [upd_ne]
      · exact hw
      · intro e; subst e; rw [hp] at hw; cases hw; exact hn _ rfl
    rcases h with (h | ⟨o, h⟩) | h
    · exact .inl (.inl (ne _ h fun z e => by cases e))
    · exact .inl (.inr ⟨o, ne _ h fun z e => by cases e⟩)
    · exact .inr h
  rol := fun a xs h => by
    rcases h with ⟨o, h⟩ | h
    · refine .inl ⟨o, ?_⟩
      rw [upd_ne]
      · exact h
      · intro e; subst e; rw [hp] at h; cases h
    · exact .inr h
theorem OR.sub {N : Nm} {β β' : Bt} {H H' : Hp} {a : Addr} {o : MO} (h : OR N β H a o) (x : Sub N.K β H β' H') (hx : ∀ dx fv, H dx = some (.xd fv) → H' dx = some (.xd fv)) (ha : H' a = H a) : OR N β' H' a o := by
  cases o with
  | lst xs =>
    obtain ⟨vs, e, r⟩ := h
    exact ⟨vs, ha.trans e, VRs.mono x _ _ r⟩
  | dK kvs =>
    obtain ⟨ks, e, r⟩ := h
    exact ⟨ks, ha.trans e, Paired.imp (fun _ _ q => ⟨q.1, VR.mono x _ _ q.2⟩) r⟩
  | dT kvs =>
    obtain ⟨ks, e, r⟩ := h
    exact ⟨ks, ha.trans e, Paired.imp (fun _ _ q => ⟨q.1, VR.mono x _ _ q.2.1, VR.mono x _ _ q.2.2⟩) r⟩
  | ins c fs =>
    obtain ⟨dx, fv, e, r⟩ := h
    exact ⟨dx, fv, ha.trans e, Paired.imp (fun _ _ q => ⟨q.1, VR.mono x _ _ q.2⟩) r⟩
  | exn c sup fs =>
    obtain ⟨d, k, e, h1, h2, h3, r⟩ := h
    exact ⟨d, k, ha.trans e, h1, h2, h3, r.by x hx⟩
theorem Sim.late {N : Nm} {β : Bt} {S : Sto} {H : Hp} {p : Addr} {kvs : List (Key × V)} {u : HO} {o : MO} (s : Sim N β S H) (hp : H p = some (.dK kvs)) (no : ∀ n, β n ≠ some p) (q : OR N (ins β S.length p) (upd H p u) p o) : Sim N (ins β S.length p) (S ++ [o]) (upd H p u) where
  obj := fun n o' h => by
    have hx : ∀ m a, β m = some a → ins β S.length p m = some a := fun m a e => by
      have : m ≠ S.length := Nat.ne_of_lt (s.up m a e)
      unfold ins; rw [if_neg this]; exact e
    by_cases hn : n < S.length
    · rw [List.getElem?_append_left hn] at h
      obtain ⟨a, e, r⟩ := s.obj n o' h
      exact ⟨a, hx n a e, r.sub (.other hp hx) (fun dx fv q => by rw [upd_ne (fun z => by rw [z, hp] at q; cases q)]; exact q) (upd_ne fun z => no n (by rw [← z]; exact e))⟩
    · have hl := (List.getElem?_eq_some_iff.mp h).1
      rw [List.length_append, List.length_singleton] at hl
      have en : n = S.length := by omega
      subst en
      rw [List.getElem?_append_right (Nat.le_refl _), Nat.sub_self] at h
      cases h
      exact ⟨p, if_pos rfl, q⟩
  up := fun n a h => by
    rw [List.length_append, List.length_singleton]
    unfold ins at h
    split at h
    · omega
    · have := s.up n a h; omega
  inj := fun m n a h1 h2 => by
    unfold ins at h1 h2
    split at h1 <;> split at h2
    · omega
    · cases h1; exact absurd h2 (no n)
    · cases h2; exact absurd h1 (no m)
    · exact s.inj m n a h1 h2
theorem e_dsp {N : Nm} {pos : Pos} {es : Es} {ks : List (Option PySem.Expr)} {vs : List PySem.Expr} (h : PPR X pos N Y es ks vs) (h0 : ks ≠ []) (h15 : ks.length ≤ 15) : PE X (.Dict ks vs pos) (tE N Y (.dsp es)) := by
  obtain ⟨⟨trs, p, q⟩, ha, hl⟩ := h
  refine PE.imp (pe_disp p ha hl h0 h15) fun σ H Q h p hp => ?_
  obtain ⟨β, env, S, sm, er, w⟩ := h
  have sm1 := sm.lay (o := .dK []) hp
  have x1 : Nxt β H β (upd H p (.dK [])) := .lay hp
  refine q σ _ _ ⟨β, env, S, sm1, er.nxt sm x1, ?_⟩
  have w : Want N (RD N) β H ((evs Y es env S).bind fun ds S1 => match pairsD ds with
    | some kvs => if kvs.length ≤ 15 then new S1 (.dK (mergeD [] kvs)) else .no
    | none => .no) Q := w
  cases ho : evs Y es env S with
  | ok ds S1 =>
    rw [ho] at w
    intro β2 H2 ps n2 s2 r2
    have hp2 : H2 p = some (.dK []) := n2.kept p _ upd_same fun n e => by
      obtain ⟨u, e', _⟩ := sm.mut e
      rw [hp] at e'; cases e'
    refine ⟨hp2, ?_⟩
    have w : Want N (RD N) β H (match pairsD ds with
      | some kvs => if kvs.length ≤ 15 then new S1 (.dK (mergeD [] kvs)) else .no
      | none => .no) Q := w
    cases hq : pairsD ds with
    | none => rw [hq] at w; exact w.elim
    | some kvs =>
      rw [hq] at w
      have w : Want N (RD N) β H (if kvs.length ≤ 15 then new S1 (.dK (mergeD [] kvs)) else .no) Q := w
      split at w
      · rename_i h15
        obtain ⟨ks, q1, q2⟩ := pairs_rel r2 hq
        refine ⟨ks, q1, by rw [← paired_len q2]; exact h15, ?_⟩
        have no : ∀ n, β2 n ≠ some p := fun n e => by
          rcases n2.fresh n p e with h | h
          · obtain ⟨u, e', _⟩ := sm.mut h
            rw [hp] at e'; cases e'
          · rw [upd_same] at h; cases h
        have hx : ∀ m a, β2 m = some a → ins β2 S1.length p m = some a := fun m a e => by
          have : m ≠ S1.length := Nat.ne_of_lt (s2.up m a e)
          unfold ins; rw [if_neg this]; exact e
        have nx : Nxt β H (ins β2 S1.length p) (upd H2 p (.dK (mergeK [] ks))) := {
          ext := fun n a e => hx n a (n2.ext n a e)
          fresh := fun n a e => by
            unfold ins at e
            split at e
            · cases e; exact .inr hp
            · rcases n2.fresh n a e with h | h
              · exact .inl h
              · refine .inr ?_
                rwa [upd_ne] at h
                intro z; subst z; rw [upd_same] at h; cases h
          kept := fun a o e hn => by
            have ne : a ≠ p := fun z => by subst z; rw [hp] at e; cases e
            rw [upd_ne ne]
            exact n2.kept a o (by rw [upd_ne ne]; exact e) hn
          there := fun a o e => by
            have ne : a ≠ p := fun z => by subst z; rw [hp] at e; cases e
            obtain ⟨o', q⟩ := n2.there a o (by rw [upd_ne ne]; exact e)
            exact ⟨o', by rw [upd_ne ne]; exact q⟩ }
        refine w _ _ _ nx (s2.late hp2 no ⟨_, upd_same, Paired.imp (fun _ _ z => ⟨z.1, VR.mono (.other hp2 hx) _ _ z.2⟩) (merge_rel q2 .nil)⟩) (.ref (if_pos rfl))
      · exact w.elim
  | exc c fs S => rw [ho] at w; exact fun b h d n s r => w b h d ((Nxt.lay hp).trans n) s r
  | no => rw [ho] at w; exact w
/-! ### held exceptions -/
theorem xf_look {N : Nm} {β : Bt} {H : Hp} (inj : ∀ f g, N.fnm f = N.fnm g → f = g) {f : Nat} {d : D} : ∀ {fs : List (Nat × D)} {fv : List (Str × V)}, Paired (fun (p : Nat × D) (q : Str × V) => N.fnm p.1 = q.1 ∧ VR N.K β H p.2 q.2) fs fv → fs.lookup f = some d → ∃ v, fv.lookup (N.fnm f) = some v ∧ VR N.K β H d v
  | [], _, .nil, h => by cases h
  | (g, e) :: fs, (y, u) :: fv, .cons ⟨h1, h2⟩ r, h => by
    have h1 : N.fnm g = y := h1
    by_cases q : f = g
    · subst q
      rw [List.lookup_cons_self] at h
      cases h
      exact ⟨u, by rw [h1, List.lookup_cons_self], h2⟩
    · have q1 : (f == g) = false := beq_false_of_ne q
      have q2 : (N.fnm f == y) = false := beq_false_of_ne fun z => q (inj _ _ (z.trans h1.symm))
      rw [List.lookup_cons, q1] at h
      rw [List.lookup_cons, q2]
      exact xf_look inj r h
theorem e_attr {N : Nm} {a : E} {eo : PySem.Expr} {x : Str} {f : Nat} {pos : Pos} (hK : X.K = N.K) (hc : ∀ c k, N.ec c = some k → XCls N.K (N.cl c) ∧ ∀ p ∈ k.fs, PySem.W.findIn N.K (.ref (N.cl c)) (N.fnm p.1) = some none) (inj : ∀ f g, N.fnm f = N.fnm g → f = g) (hf : N.fnm f = x)
    (he : PE X eo (tE N Y a)) (hb : attributeBase eo x X.env (eval eo X.env) = eval eo X.env) : PE X (.Attribute eo x pos) (tE N Y (.attr a f)) := by
  have p := pe_xat (pos := pos) he hb
  rw [hK] at p
  refine PE.imp p fun σ H Q h => ?_
  obtain ⟨β, env, S, sm, er, w⟩ := h
  refine tE_bind (R' := RD N) sm er w fun d S1 β1 H1 v x1 sm1 er1 r1 w1 => ?_
  split at w1
  · rename_i n
    cases r1 with
    | ref hn =>
      rename_i ad
      split at w1
      · rename_i c sup fs hS
        obtain ⟨a', q1, d', k, q2, q3, q4, q4b, q5⟩ := sm1.obj _ _ hS
        rw [hn] at q1; cases q1
        obtain ⟨d0, e0, w2⟩ := oD_some w1
        obtain ⟨T, no⟩ := hc c k q3
        have e0 : fs.lookup f = some d0 := e0
        cases d' with
        | none => have q5 : fs = [] := q5; subst q5; cases e0
        | some dx =>
          obtain ⟨fv, q6, q7⟩ := q5
          obtain ⟨u, l1, l2⟩ := xf_look inj q7 e0
          rw [hf] at l1
          have hno : PySem.W.findIn N.K (.ref (N.cl c)) x = some none := by
            have hm : f ∈ fs.map (·.1) := by
              have key : ∀ (l : List (Nat × D)), l.lookup f = some d0 → f ∈ l.map (·.1) := by
                intro l
                induction l with
                | nil => intro z; cases z
                | cons p l ih =>
                  intro z
                  obtain ⟨g, e⟩ := p
                  by_cases q : f = g
                  · rw [q]; exact List.mem_cons_self ..
                  · rw [List.lookup_cons, beq_false_of_ne q] at z
                    exact List.mem_cons_of_mem _ (ih z)
              exact key fs e0
            rw [q4b] at hm
            obtain ⟨p, hp, e⟩ := List.mem_map.mp hm
            rw [← hf, ← e]
            exact no p hp
          exact ⟨ad, N.cl c, dx, fv, u, rfl, q2, q6, T, hno, l1, w2.here sm1 l2⟩
      · exact w1.elim
  · exact w1.elim
/-- the class as a value -/
def Xt.val (N : Nm) : Xt → V
  | .own c => .ref (N.cl c)
  | .ve => .ty "ValueError"
def Xt.vl (N : Nm) : Xt → Value
  | .own c => .ref (N.cl c)
  | .ve => .type "ValueError"
def tXts (N : Nm) (ts : List Xt) : TA := fun _ H Q => Q (ts.map (Xt.val N)) H
theorem xt_cls (N : Nm) (t : Xt) : ClsV (t.val N) (t.vl N) := by
  cases t with
  | own c => exact .own _
  | ve => exact .ty _
theorem ve_boot : bootBuiltins "ValueError" = some (.type "ValueError") := by decide +kernel
/-- what isinstance says of it -/
def XtIn (T : Tab) (t : Xt) : Prop := match t with
  | .own c => ∃ x, T.ecn[c]? = some x
  | .ve => True
theorem xts_ok (g : Gd W T n c X) (w : WOK W T n Y) : ∀ {ts : List Xt} {es : List PySem.Expr}, xtsB T c ts es = true → PA X es (tXts W.N ts) ∧ ∀ t ∈ ts, XtIn T t
  | [], es, h => by
    cases es with
    | nil => exact ⟨PA.imp pa_nil fun _ _ _ q => q, fun t ht => by cases ht⟩
    | cons e es => simp [xtsB] at h
  | t :: ts, es, h => by
    cases es with
    | nil => cases t <;> simp [xtsB] at h
    | cons e es =>
      cases e with
      | Name nm p =>
        cases t with
        | own k =>
          simp only [xtsB, Bool.and_eq_true, decide_eq_true_eq] at h
          obtain ⟨⟨⟨h1, h2⟩, h3⟩, h4⟩ := h
          obtain ⟨ih, io⟩ := xts_ok g w h4
          have z := w.xnm k nm h1
          refine ⟨PA.imp (pa_cons (pe_glob (v := .ref (W.N.cl k)) (g.gl h2) (by rw [g.hm]; exact z.gC) rfl (okn_d h3).1) ih) fun _ _ _ q => q, fun t ht => ?_⟩
          rcases List.mem_cons.mp ht with e | ht
          · rw [e]; exact ⟨nm, h1⟩
          · exact io t ht
        | ve =>
          simp only [xtsB, Bool.and_eq_true, decide_eq_true_eq] at h
          obtain ⟨⟨h1, h2⟩, h4⟩ := h
          subst h1
          obtain ⟨a1, a2, a3, a4⟩ := g.bl w h2
          obtain ⟨ih, io⟩ := xts_ok g w h4
          refine ⟨PA.imp (pa_cons (pe_bltn (v := .ty "ValueError") a1 a2 ve_boot rfl a3 a4) ih) fun _ _ _ q => q, fun t ht => ?_⟩
          rcases List.mem_cons.mp ht with e | ht
          · rw [e]; trivial
          · exact io t ht
      | _ => cases t <;> simp [xtsB] at h
theorem xt_kit (w : WOK W T n Y) {c : Nat} {k : EC} (hk : W.N.ec c = some k) {t : Xt} (ht : XtIn T t) : PySem.W.kitOne W.N.K (.ref (W.N.cl c)) (t.vl W.N) = some (xtIn k.sup t) := by
  have z := w.ecN c k hk
  cases t with
  | own c2 =>
    obtain ⟨x, hx⟩ := ht
    have y := w.xnm c2 x hx
    have s := z.sub c2 x hx
    obtain ⟨x1, hx1⟩ := z.inT
    have s1 := z.sub c x1 hx1
    obtain ⟨cd, hcd, _⟩ := PySem.W.any_some y.hdC
    show PySem.W.kitOne W.N.K (.ref (W.N.cl c)) (.ref (W.N.cl c2)) = some (k.sup.contains c2)
    unfold PySem.W.kitOne
    split
    · rename_i e
      have e : W.N.cl c = W.N.cl c2 := Value.ref.inj (beq_iff_eq.mp e)
      rw [← e, s1, z.self] at s
      exact s
    · unfold PySem.W.kitCls
      have : ((PySem.W.clsIn W.N.K (W.N.cl c2)).isSome && PySem.W.typeIn W.N.K (.ref (W.N.cl c2)) == some (.type "type")) = true := by rw [hcd, y.tyC]; rfl
      simp only [this]
      exact s
  | ve =>
    show PySem.W.kitOne W.N.K (.ref (W.N.cl c)) (.type "ValueError") = some true
    have e : (Value.ref (W.N.cl c) == Value.type "ValueError") = false := by simp
    unfold PySem.W.kitOne
    rw [e, if_neg Bool.false_ne_true]
    unfold PySem.W.kitCls
    have : PySem.W.kitMeta "ValueError" = true := by decide +kernel
    simp only [this]
    exact z.ve
theorem xt_any (w : WOK W T n Y) {c : Nat} {k : EC} (hk : W.N.ec c = some k) : ∀ {ts : List Xt}, (∀ t ∈ ts, XtIn T t) → PySem.W.kitAny W.N.K (.ref (W.N.cl c)) (ts.map (Xt.vl W.N)) = some (ts.any (xtIn k.sup))
  | [], _ => rfl
  | t :: ts, h => by
    have a := xt_kit w hk (h t (List.mem_cons_self ..))
    have b := xt_any w hk (ts := ts) fun t ht => h t (List.mem_cons_of_mem _ ht)
    rw [List.map_cons, List.any_cons]
    exact kitAny_cons a (fun e => by rw [e, Bool.false_or]; exact b) fun e => by rw [e, Bool.true_or]
/-- what stands there -/
theorem xis_at {N : Nm} {β : Bt} {S : Sto} {H : Hp} {d : D} {v : V} {ts : List Xt} {Q : VK} (sm : Sim N β S H) (w : Want N (RD N) β H (match d with
    | .ref m => match S[m]? with
      | some (.exn _ sup _) => .ok (.bl (ts.any (xtIn sup))) S
      | _ => .no
    | _ => .no) Q) (r : VR N.K β H d v) : ∃ a c dd k, v = .ref a ∧ H a = some (XO (.ref (N.cl c)) dd a) ∧ XDict H dd ∧ N.ec c = some k ∧ Want N (RD N) β H (.ok (.bl (ts.any (xtIn k.sup))) S) Q := by
  split at w
  · cases r with
    | ref hn =>
      split at w
      · rename_i c sup fs hS
        obtain ⟨a', q1, d', k, q2, q3, q4, q4b, q5⟩ := sm.obj _ _ hS
        rw [hn] at q1; cases q1
        subst q4
        refine ⟨_, c, d', k, rfl, q2, ?_, q3, w⟩
        cases d' with
        | none => exact .inl rfl
        | some dx =>
          obtain ⟨fv, q6, _⟩ := q5
          exact .inr ⟨dx, fv, rfl, q6⟩
      · exact w.elim
  · exact w.elim
section
variable {a : E} {ea : PySem.Expr} {p pos : Pos}
theorem e_xis1 (hK : X.K = W.N.K) (w : WOK W T n Y) (hg : Gl X "isinstance") (hm : X.mg "isinstance" = none) (hn : ("isinstance" : Str) ≠ "__name__") (hdb : (("isinstance" : Str) == ("__debug__" : Str)) = false) {t : Xt} {e2 : PySem.Expr} (h2 : PA X [e2] (tXts W.N [t])) (ht : ∀ u ∈ [t], XtIn T u)
    (hs : starEach [ea, e2] X.env = (false, eval ea X.env) :: starEach [e2] X.env) (hs2 : starEach [e2] X.env = [(false, eval e2 X.env)]) (ha : PE X ea (tE W.N Y a)) : PE X (.Call (.Name "isinstance" p) [ea, e2] [] pos) (tE W.N Y (.xis a true [t])) := by
  have r := call_xis (X := X)
  rw [hK] at r
  refine PE.imp (pe_callB r hg hm isi_boot (pa_cons ha h2 hs) hn hdb hs (by rw [hs2]; rfl)) fun σ H Q h => ?_
  obtain ⟨β, env, S, sm, er, w'⟩ := h
  refine tE_bind (R' := RD W.N) sm er w' fun d S1 β1 H1 v x1 sm1 er1 r1 w1 => ?_
  obtain ⟨ad, c, dd, k, rfl, q1, q2, q3, w2⟩ := xis_at sm1 w1 r1
  have kt := xt_kit w q3 (ht t (List.mem_cons_self ..))
  refine ⟨ad, W.N.cl c, dd, t.val W.N, t.vl W.N, _, rfl, q1, q2, (w.ecN c k q3).xc, xt_cls _ t, kt, ?_⟩
  have e : [t].any (xtIn k.sup) = xtIn k.sup t := by simp
  rw [e] at w2
  exact w2.here sm1 (.bl _)
theorem e_xisT (hK : X.K = W.N.K) (w : WOK W T n Y) (hg : Gl X "isinstance") (hm : X.mg "isinstance" = none) (hn : ("isinstance" : Str) ≠ "__name__") (hdb : (("isinstance" : Str) == ("__debug__" : Str)) = false) {ts : List Xt} {es : List PySem.Expr} {j : Nat} {p2 : Pos} (h2 : PA X es (tXts W.N ts)) (ht : ∀ u ∈ ts, XtIn T u) (hl : ts.length ≤ 100)
    (hs : starEach (ea :: [PySem.Expr.Tuple es j p2]) X.env = (false, eval ea X.env) :: starEach [PySem.Expr.Tuple es j p2] X.env) (ha : PE X ea (tE W.N Y a)) : PE X (.Call (.Name "isinstance" p) [ea, .Tuple es j p2] [] pos) (tE W.N Y (.xis a false ts)) := by
  have r := call_xisT (X := X)
  rw [hK] at r
  refine PE.imp (pe_callB r hg hm isi_boot (pa_cons ha (pa_cons (pe_tup h2) pa_nil) hs) hn hdb hs) fun σ H Q h => ?_
  obtain ⟨β, env, S, sm, er, w'⟩ := h
  refine tE_bind (R' := RD W.N) sm er w' fun d S1 β1 H1 v x1 sm1 er1 r1 w1 => ?_
  obtain ⟨ad, c, dd, k, rfl, q1, q2, q3, w2⟩ := xis_at sm1 w1 r1
  refine ⟨by rw [List.length_map, sizeLine_eq]; omega, fun tp htp => ?_⟩
  refine ⟨ad, W.N.cl c, dd, tp, ts.map (Xt.val W.N), ts.map (Xt.vl W.N), _, rfl, upd_same, ?_, ?_, (w.ecN c k q3).xc, ?_, xt_any w q3 ht, ?_⟩
  · rw [upd_ne (ne_of_none q1 htp)]; exact q1
  · rcases q2 with z | ⟨dx, fv, z1, z2⟩
    · exact .inl z
    · exact .inr ⟨dx, fv, z1, by rw [upd_ne (ne_of_none z2 htp)]; exact z2⟩
  · clear hl h2 ht w1 w2 w' r
    induction ts with
    | nil => exact .nil
    | cons t ts ih => exact .cons (xt_cls _ t) ih
  · exact Want.at (R := RD W.N) (a := .bl _) (S := S1) w2 (.lay htp) (sm1.lay htp) (.bl _)
end
mutual
theorem sndE : ∀ (a : E) (W : Wd) (w : WOK W T n Y) (c : Sc) (e : PySem.Expr), chkE T a c e = true → ∀ X, Gd W T n c X → PET X W.N Y a e
  | .var i, W, w, c, e, h, X, g => by
    unfold chkE at h
    split at h
    · rename_i x pos
      simp only [Bool.and_eq_true, decide_eq_true_eq] at h
      obtain ⟨⟨h1, h2⟩, h3⟩ := h
      have p : PE X (.Name x pos) (tE W.N Y (.var i)) := e_var (by rw [g.hN]; exact h1) (g.vis h2) (okn_d h3).1 (okn_d h3).2.1
      exact ⟨p, t_of g.hK p fun _ => rfl⟩
    · cases h
  | .con d, W, w, c, e, h, X, g => by
    unfold chkE at h
    split at h
    · obtain ⟨v, h1, h2⟩ := con_ok (W := W) (X := X) h
      exact PET.of g.hK (e_con (Y := Y) h1 h2) fun _ => rfl
    · cases h
  | .glob gi, W, w, c, e, h, X, g => by
    unfold chkE at h
    split at h
    · simp only [Bool.and_eq_true, decide_eq_true_eq] at h
      obtain ⟨⟨h1, h2⟩, h3⟩ := h
      obtain ⟨u, v, e1, e2, e3⟩ := w.gv gi _ h1
      exact PET.of g.hK (e_glob (Y := Y) (pe_glob (g.gl h2) (by rw [g.hm]; exact e1) e2 (okn_d h3).1) e3) fun _ => rfl
    · cases h
  | .bin op a b, W, w, c, e, h, X, g => by
    unfold chkE at h
    split at h
    · simp only [Bool.and_eq_true, decide_eq_true_eq] at h
      obtain ⟨⟨h1, h2⟩, h3⟩ := h
      subst h1
      exact PET.of g.hK (e_bin g.hK (sndE a _ w c _ h2 X g).e (sndE b _ w c _ h3 X g).e) fun _ => rfl
    · cases h
  | .una op a, W, w, c, e, h, X, g => by
    unfold chkE at h
    split at h
    · simp only [Bool.and_eq_true, decide_eq_true_eq] at h
      obtain ⟨⟨h1, h2⟩, h3⟩ := h
      subst h1
      exact PET.of g.hK (e_una (sndE a _ w c _ h3 X g).e) fun _ => by cases op <;> first | rfl | exact absurd rfl h2
    · cases h
  | .cmp op a b, W, w, c, e, h, X, g => by
    unfold chkE at h
    split at h
    · simp only [Bool.and_eq_true, decide_eq_true_eq, Bool.not_eq_true'] at h
      obtain ⟨⟨⟨h1, h2⟩, h3⟩, h4⟩ := h
      subst h1
      exact ⟨e_cmp g.hK g.hW g.hu h2 (sndE a _ w c _ h3 X g).e (sndE b _ w c _ h4 X g).e, t_cmp g.hK g.hW g.hu h2 (sndE a _ w c _ h3 X g).e (sndE b _ w c _ h4 X g).e⟩
    · cases h
  | .chain op op' a b d, W, w, c, e, h, X, g => by
    unfold chkE at h
    split at h
    · simp only [Bool.and_eq_true, decide_eq_true_eq, Bool.not_eq_true'] at h
      obtain ⟨⟨⟨⟨⟨h1, h2⟩, h3⟩, h4⟩, h5⟩, h6⟩ := h
      subst h1 h2
      exact ⟨e_chain g.hK g.hW g.hu h3 (sndE a _ w c _ h4 X g).e (sndE b _ w c _ h5 X g).e (sndE d _ w c _ h6 X g).e, t_chain g.hK g.hW g.hu h3 (sndE a _ w c _ h4 X g).e (sndE b _ w c _ h5 X g).e (sndE d _ w c _ h6 X g).e⟩
    · cases h
  | .and_ es, W, w, c, e, h, X, g => by
    unfold chkE at h
    split at h
    · simp only [Bool.and_eq_true, decide_eq_true_eq] at h
      obtain ⟨p1, p2⟩ := (sndEs es _ w c _ h.1 X g).an h.2 _
      exact ⟨p1, p2.pt⟩
    · cases h
  | .or_ es, W, w, c, e, h, X, g => by
    unfold chkE at h
    split at h
    · simp only [Bool.and_eq_true, decide_eq_true_eq] at h
      obtain ⟨p1, p2⟩ := (sndEs es _ w c _ h.1 X g).on h.2 _
      exact ⟨p1, p2.pt⟩
    · cases h
  | .not_ a, W, w, c, e, h, X, g => by
    unfold chkE at h
    split at h
    · have p := sndE a _ w c _ h X g
      exact ⟨e_not g.hK p.e, t_not p.t⟩
    · cases h
  | .ite t a b, W, w, c, e, h, X, g => by
    unfold chkE at h
    split at h
    · simp only [Bool.and_eq_true] at h
      obtain ⟨⟨h1, h2⟩, h3⟩ := h
      have p1 := sndE t _ w c _ h1 X g
      have p2 := sndE a _ w c _ h2 X g
      have p3 := sndE b _ w c _ h3 X g
      exact ⟨e_ite p1.t p2.e p3.e, t_ite p1.t p2.t p3.t⟩
    · cases h
  | .tup es, W, w, c, e, h, X, g => by
    unfold chkE at h
    split at h
    · exact PET.of g.hK (e_tup (sndEs es _ w c _ h X g).a) fun _ => rfl
    · cases h
  | .lst es, W, w, c, e, h, X, g => by
    unfold chkE at h
    split at h
    · exact PET.of g.hK (e_lst (sndEs es _ w c _ h X g).a) fun _ => rfl
    · cases h
  | .idx a i, W, w, c, e, h, X, g => by
    unfold chkE at h
    split at h
    · simp only [Bool.and_eq_true] at h
      have hu := g.hu
      exact PET.of g.hK (e_idx g.hK g.hW (by omega) (plain_ix h.2) (sndE a _ w c _ h.1 X g).e (sndE i _ w c _ h.2 X g).e) fun _ => rfl
    · cases h
  | .slc a hl hh lo hi, W, w, c, e, h, X, g => by
    unfold chkE at h
    split at h
    · rename_i x l u p2 pos
      simp only [Bool.and_eq_true] at h
      obtain ⟨⟨h1, h2⟩, h3⟩ := h
      have pa := (sndE a _ w c _ h1 X g).e
      split at h2
      · have p1 := (sndE lo _ w c _ h2 X g).e
        split at h3
        · exact PET.of g.hK (e_slc11 (p2 := p2) g.hK pa p1 (sndE hi _ w c _ h3 X g).e) fun _ => rfl
        · exact PET.of g.hK (e_slc10 (hi := hi) (p2 := p2) g.hK pa p1) fun _ => rfl
        · cases h3
      · split at h3
        · exact PET.of g.hK (e_slc01 (lo := lo) (p2 := p2) g.hK pa (sndE hi _ w c _ h3 X g).e) fun _ => rfl
        · exact PET.of g.hK (e_slc00 (lo := lo) (hi := hi) (p2 := p2) g.hK pa) fun _ => rfl
        · cases h3
      · cases h2
    · cases h
  | .call f es, W, w, c, e, h, X, g => by
    unfold chkE at h
    split at h
    · rename_i x p0 args pos
      simp only [Bool.and_eq_true, decide_eq_true_eq] at h
      obtain ⟨⟨⟨⟨h1, h2⟩, h3⟩, hcm⟩, h4⟩ := h
      have L := sndEs es _ w c _ h4 X g
      have ca := g.called hcm w h1
      cases args with
      | nil =>
        cases es with
        | nil =>
          exact PET.of g.hK (e_call0 (pos := pos) (p := p0) g.tk ca (g.gl h2) (okn_d h3).1) fun _ => rfl
        | cons a es => simp [chkEs] at h4
      | cons e1 r =>
        have hs := star_all h4 X.env
        have hs1 : starEach (e1 :: r) X.env = (false, eval e1 X.env) :: starEach r X.env ∧ (backTo pos (starEach r X.env)).any (·.1) = false := by
          cases es with
          | nil => simp [chkEs] at h4
          | cons a es =>
            unfold chkEs at h4
            simp only [Bool.and_eq_true] at h4
            exact ⟨nostar h4.1 _ _, back_all (star_all h4.2 _)⟩
        exact PET.of g.hK (e_call (pos := pos) (p := p0) g.tk ca (g.gl h2) (okn_d h3).1 hs1.1 hs1.2 L.a) fun _ => rfl
    · cases h
  | .bm m a es, W, w, c, e, h, X, g => by
    unfold chkE at h
    split at h
    · rename_i o nm apos args cpos
      simp only [Bool.and_eq_true, decide_eq_true_eq] at h
      obtain ⟨⟨⟨⟨⟨h1, h2⟩, h3⟩, h4⟩, h5⟩, h6⟩ := h
      subst h1
      have pa := (sndE a _ w c _ h5 X g).e
      have L := sndEs es _ w c _ h6 X g
      cases args with
      | nil =>
        cases es with
        | nil =>
          exact PET.of g.hK (e_bm0 (pos := cpos) (apos := apos) (m := m) g.hK g.hW g.hu pa (atB_ok h2 _ _ _) h3) fun _ => rfl
        | cons a es => simp [chkEs] at h6
      | cons e1 r =>
        have hs := star_all h6 X.env
        have hs1 : starEach (e1 :: r) X.env = (false, eval e1 X.env) :: starEach r X.env ∧ (backTo cpos (starEach r X.env)).any (·.1) = false := by
          cases es with
          | nil => simp [chkEs] at h6
          | cons a es =>
            unfold chkEs at h6
            simp only [Bool.and_eq_true] at h6
            exact ⟨nostar h6.1 _ _, back_all (star_all h6.2 _)⟩
        exact PET.of g.hK (e_bm (pos := cpos) (apos := apos) (m := m) g.hK g.hW g.hu pa L.a (atB_ok h2 _ _ _) (by
          rw [back_all' hs, Bool.true_and]
          rw [Bool.and_eq_true]
          refine ⟨rfl, decide_eq_true ?_⟩
          have h4' : (e1 :: r).length < 20 := h4
          show (e1 :: r).length + 0 + 0 < 30
          omega) h3 hs1.1 hs1.2) fun _ => rfl
    · cases h
  | .bi f es, W, w, c, e, h, X, g => by
    unfold chkE at h
    split at h
    · rename_i x p0 e1 r pos
      simp only [Bool.and_eq_true, decide_eq_true_eq] at h
      obtain ⟨⟨⟨h1, h2⟩, hcm⟩, h4⟩ := h
      subst h1
      obtain ⟨a1, a2, a3, a4⟩ := g.bl w h2
      have L := sndEs es _ w c _ h4 X g
      have hs1 : starEach (e1 :: r) X.env = (false, eval e1 X.env) :: starEach r X.env ∧ (backTo pos (starEach r X.env)).any (·.1) = false := by
        cases es with
        | nil => simp [chkEs] at h4
        | cons a es =>
          unfold chkEs at h4
          simp only [Bool.and_eq_true] at h4
          exact ⟨nostar h4.1 _ _, back_all (star_all h4.2 _)⟩
      exact PET.of g.hK (e_bi (f := f) (pos := pos) (p := p0) g.hK g.hW g.hu (g.calm hcm) a1 a2 (bi_boot f) a3 a4 hs1.1 hs1.2 L.a) fun _ => rfl
    · cases h
  | .isi a one ts, W, w, c, e, h, X, g => by
    unfold chkE at h
    split at h
    · rename_i x p0 e1 e2 pos
      simp only [Bool.and_eq_true, decide_eq_true_eq] at h
      obtain ⟨⟨⟨h1, h2⟩, h3⟩, h4⟩ := h
      subst h1
      obtain ⟨a1, a2, a3, a4⟩ := g.bl w h2
      have pa := (sndE a _ w c _ h3 X g).e
      split at h4
      · rename_i nm p2
        cases ts with
        | nil => simp [tysB] at h4
        | cons t ts =>
          cases ts with
          | cons t2 ts => cases t <;> simp [tysB] at h4
          | nil =>
            cases t with
            | own c => simp [tysB] at h4
            | b k =>
              simp only [tysB, Bool.and_eq_true, decide_eq_true_eq] at h4
              obtain ⟨⟨⟨q1, q2⟩, q3⟩, _⟩ := h4
              subst q1
              obtain ⟨b1, b2, b3, b4⟩ := g.bl w q3
              exact PET.of g.hK (e_isi1 (k := k) (pos := pos) (p := p0) (p2 := p2) g.hK a1 a2 isi_boot a3 a4 b1 b2 (kt_boot q2) b3 b4 (nostar h3 _ _) pa) fun _ => rfl
      · rename_i es k p2
        simp only [Bool.and_eq_true, decide_eq_true_eq] at h4
        obtain ⟨⟨q1, q2⟩, q3⟩ := h4
        obtain ⟨r1, r2⟩ := tys_ok g w q1
        exact PET.of g.hK (e_isiT (k := k) (pos := pos) (p := p0) (p2 := p2) g.hK a1 a2 isi_boot a3 a4 r1 r2 q3 q2 (nostar h3 _ _) pa) fun _ => rfl
      · cases h4
    · cases h
  | .comp own tg it ifs elt, W, w, c, e, h, X, g => by
    unfold chkE at h
    split at h
    · rename_i e' t i fs scope pos
      simp only [Bool.and_eq_true, decide_eq_true_eq] at h
      obtain ⟨⟨⟨⟨⟨⟨hcm, h1⟩, h2⟩, h3⟩, h4⟩, h5⟩, h6⟩ := h
      have ok : BlkOk X.N X.env.scope scope own := by rw [g.hN, g.hsc]; exact blkOk_by h1
      exact PET.of g.hK (e_comp (pos := pos) g.hK (g.calm hcm) g.nd (sndI it _ w c _ _ h2 X g) ok (fun s H C cl fp => tg_ok (g.blk ok s H C cl fp) hcm h3) (fun s H C cl fp => (sndEs ifs _ (w.with (fun _ _ _ => False) fun _ => True) _ _ h5 _ (g.blk ok s H C cl fp)).i h4) (fun s H C cl fp => (sndE elt _ (w.with (fun _ _ _ => False) fun _ => True) _ _ h6 _ (g.blk ok s H C cl fp)).e) (no_fold h2 _) (tg_in h3)) fun _ => rfl
    · cases h
  | .dnew t, W, w, c, e, h, X, g => by
    unfold chkE at h
    split at h
    · have p := e_dnew (X := X) (N := W.N) (Y := Y) g.hW t
      exact ⟨p _, t_of g.hK (p _) fun _ => rfl⟩
    · cases h
  | .attr a f, W, w, c, e, h, X, g => by
    unfold chkE at h
    split at h
    · simp only [Bool.and_eq_true, decide_eq_true_eq] at h
      obtain ⟨⟨h1, h2⟩, h3⟩ := h
      exact PET.of g.hK (e_attr g.hK (fun c k q => let z := w.ecN c k q; ⟨z.xc, z.no⟩) w.inj (w.fnm f _ h1) (sndE a _ w c _ h3 X g).e (atB_ok h2 _ _ _)) fun _ => rfl
    · cases h
  | .xis a one ts, W, w, c, e, h, X, g => by
    unfold chkE at h
    split at h
    · rename_i x p0 e1 e2 pos
      simp only [Bool.and_eq_true, decide_eq_true_eq] at h
      obtain ⟨⟨⟨h1, h2⟩, h3⟩, h4⟩ := h
      subst h1
      obtain ⟨a1, a2, a3, a4⟩ := g.bl w h2
      have pa := (sndE a _ w c _ h3 X g).e
      split at h4
      · rename_i nm p2
        obtain ⟨t, rfl⟩ : ∃ t, ts = [t] := by
          cases ts with
          | nil => simp [xtsB] at h4
          | cons t r =>
            cases r with
            | nil => exact ⟨t, rfl⟩
            | cons t2 r => cases t <;> simp [xtsB] at h4
        exact PET.of g.hK (e_xis1 g.hK w a1 a2 a3 a4 (xts_ok g w h4).1 (xts_ok g w h4).2 (nostar h3 _ _) rfl pa) fun _ => rfl
      · rename_i es k p2
        simp only [Bool.and_eq_true, decide_eq_true_eq] at h4
        exact PET.of g.hK (e_xisT g.hK w a1 a2 a3 a4 (xts_ok g w h4.1).1 (xts_ok g w h4.1).2 h4.2 (nostar h3 _ _) pa) fun _ => rfl
      · cases h4
    · cases h
  | .make _ _, W, w, c, e, h, X, g => by cases h
  | .meth _ _ _, W, w, c, e, h, X, g => by cases h
  | .dsp es, W, w, c, e, h, X, g => by
    unfold chkE at h
    split at h
    · rename_i ks vs pos
      simp only [Bool.and_eq_true, decide_eq_true_eq] at h
      obtain ⟨⟨h1, h2⟩, h3⟩ := h
      exact PET.of g.hK (e_dsp (sndPs es _ w c ks vs h1 X g pos) h2 h3) fun _ => rfl
    · cases h
  | .join a b, W, w, c, e, h, X, g => by
    unfold chkE at h
    split at h
    · rename_i o nm apos x cpos
      simp only [Bool.and_eq_true, decide_eq_true_eq] at h
      obtain ⟨⟨⟨⟨h1, h2⟩, h3⟩, h4⟩, h5⟩ := h
      subst h1
      exact PET.of g.hK (e_join (pos := cpos) (apos := apos) g.hK (sndE a _ w c _ h4 X g).e (sndE b _ w c _ h5 X g).e (nostar h5 _ _) (atB_ok h2 _ _ _) h3) fun _ => rfl
    · cases h
  | .lrev a, W, w, c, e, h, X, g => by
    unfold chkE at h
    split at h
    · rename_i x p y p2 z pos2 pos
      simp only [Bool.and_eq_true, decide_eq_true_eq] at h
      obtain ⟨⟨⟨⟨⟨h1, h2⟩, h3⟩, h4⟩, hcm⟩, h5⟩ := h
      subst h1 h2
      obtain ⟨a1, a2⟩ := g.bl w h3
      obtain ⟨b1, b2⟩ := g.bl w h4
      exact PET.of g.hK (e_lrev (pos := pos) (pos2 := pos2) (p := p) (p2 := p2) g.hK (g.calm hcm) a1 a2.1 b1 b2.1 (sndE a _ w c _ h5 X g).e (nostar h5 _ _)) fun _ => rfl
    · cases h
theorem sndEs : ∀ (es : Es) (W : Wd) (w : WOK W T n Y) (c : Sc) (l : List PySem.Expr), chkEs T es c l = true → ∀ X, Gd W T n c X → LST X W.N Y es l
  | .nil, W, w, c, l, h, X, g => by
    unfold chkEs at h
    split at h
    · exact ⟨es_nil, fun z => absurd rfl z, fun z => absurd rfl z, fun _ => ifs_nil⟩
    · cases h
  | .cons a es, W, w, c, l, h, X, g => by
    unfold chkEs at h
    split at h
    · rename_i e r
      rw [Bool.and_eq_true] at h
      have p := sndE a _ w c _ h.1 X g
      have L := sndEs es _ w c _ h.2 X g
      refine ⟨es_cons (nostar h.1 _ _) p.e L.a, fun _ pos => ?_, fun _ pos => ?_, fun hl => ?_⟩
      · cases r with
        | nil =>
          cases es with
          | nil => exact ⟨an_one p.e, ant_one p.t⟩
          | cons b es => simp [chkEs] at h
        | cons e2 r =>
          cases es with
          | nil => simp [chkEs] at h
          | cons b es =>
            obtain ⟨q1, q2⟩ := L.an (by simp) pos
            exact ⟨an_cons g.hK p.e q1, ant_cons p.t q2⟩
      · cases r with
        | nil =>
          cases es with
          | nil => exact ⟨on_one p.e, ont_one p.t⟩
          | cons b es => simp [chkEs] at h
        | cons e2 r =>
          cases es with
          | nil => simp [chkEs] at h
          | cons b es =>
            obtain ⟨q1, q2⟩ := L.on (by simp) pos
            exact ⟨on_cons g.hK p.e q1, ont_cons p.t q2⟩
      · cases r with
        | nil => exact ifs_one p.t
        | cons e2 r => simp at hl
    · cases h
theorem sndPs : ∀ (es : Es) (W : Wd) (w : WOK W T n Y) (c : Sc) (ks : List (Option PySem.Expr)) (vs : List PySem.Expr), chkPs T es c ks vs = true → ∀ X, Gd W T n c X → ∀ pos, PPR X pos W.N Y es ks vs
  | .nil, W, w, c, ks, vs, h, X, g, pos => by
    unfold chkPs at h
    split at h
    · exact ps_nil
    · cases h
  | .cons a .nil, W, w, c, ks, vs, h, X, g, pos => by
    unfold chkPs at h
    split at h <;> cases h
  | .cons a (.cons b es), W, w, c, ks, vs, h, X, g, pos => by
    unfold chkPs at h
    split at h
    · simp only [Bool.and_eq_true] at h
      exact ps_cons (sndE a _ w c _ h.1.1 X g).e (sndE b _ w c _ h.1.2 X g).e (sndPs es _ w c _ _ h.2 X g pos)
    · cases h
theorem sndI : ∀ (it : I) (W : Wd) (w : WOK W T n Y) (c : Sc) (t e : PySem.Expr), chkI T it c t e = true → ∀ X, Gd W T n c X → PI X t e (tI W.N Y it)
  | .val a, W, w, c, t, e, h, X, g => i_val g.hK g.hW (sndE a _ w c _ h X g).e
  | .rng1 a, W, w, c, t, e, h, X, g => by
    unfold chkI at h
    split at h
    · simp only [Bool.and_eq_true, decide_eq_true_eq] at h
      obtain ⟨⟨h1, h2⟩, h3⟩ := h
      subst h1
      obtain ⟨a1, a2, a3, a4⟩ := g.bl w h2
      exact i_rng1 a1 a2 (nostar h3 _ _) (sndE a _ w c _ h3 X g).e
    · cases h
  | .rng2 a b, W, w, c, t, e, h, X, g => by
    unfold chkI at h
    split at h
    · simp only [Bool.and_eq_true, decide_eq_true_eq] at h
      obtain ⟨⟨⟨h1, h2⟩, h3⟩, h4⟩ := h
      subst h1
      obtain ⟨a1, a2, a3, a4⟩ := g.bl w h2
      exact i_rng2 a1 a2 (by rw [nostar h3 _ _, nostar h4 _ _]; rfl) (nostar h4 _ _) (sndE a _ w c _ h3 X g).e (sndE b _ w c _ h4 X g).e
    · cases h
  | .enu a, W, w, c, t, e, h, X, g => by
    unfold chkI at h
    split at h
    · simp only [Bool.and_eq_true, decide_eq_true_eq] at h
      obtain ⟨⟨h1, h2⟩, h3⟩ := h
      subst h1
      obtain ⟨a1, a2, a3, a4⟩ := g.bl w h2
      exact i_enu g.hK a1 a2 (nostar h3 _ _) (sndE a _ w c _ h3 X g).e
    · cases h
  | .zip a b, W, w, c, t, e, h, X, g => by
    unfold chkI at h
    split at h
    · simp only [Bool.and_eq_true, decide_eq_true_eq] at h
      obtain ⟨⟨⟨h1, h2⟩, h3⟩, h4⟩ := h
      subst h1
      obtain ⟨a1, a2, a3, a4⟩ := g.bl w h2
      exact i_zip g.hK a1 a2 (nostar h3 _ _) (nostar h4 _ _) (sndE a _ w c _ h3 X g).e (sndE b _ w c _ h4 X g).e
    · cases h
end
end
end Mi

namespace Mi
open PySem L2 PySem.Spec PyProof.Rows RZ

def isComp : PySem.Expr → Bool
  | .ListComp _ _ _ _ => true
  | .SetComp _ _ _ _ => true
  | .DictComp _ _ _ _ _ => true
  | _ => false
/-- how a comprehension is given to a name -/
def swB (c : Sc) (x : Str) (p : Pos) : PySem.Expr → Bool
  | .ListComp _ _ s q => decide (c.sc.names.lookup x = some .local) && (p.line == q.line) && !(s.names.any fun (n, k) => n == x && (k == .local || k == .cell))
  | _ => false
/-- a name that a comprehension reads -/
def cellB (c : Sc) (x : Str) : PySem.Expr → Bool
  | .ListComp _ _ _ _ => decide (c.sc.names.lookup x = some .cell)
  | _ => false
theorem sw_cell {elt : PySem.Expr} {gs : List Comprehension} {scope : Scope} {pos py : Pos} {y : Str} {l : Nat} {env : PySem.Env} (hk : env.scope.kind = .function) (hy : env.scope.names.lookup y = some .cell) : swapsWith (.ListComp elt gs scope pos) (some (.Name y py)) l env = pure false := by
  have ky : env.kindOf y = some .cell := hy
  have hb : env.blockKind = .function := by unfold PySem.Env.blockKind; rw [hk]; rfl
  unfold swapsWith
  simp only [hb, ky]
  rfl
def isTupE : PySem.Expr → Bool
  | .Tuple _ _ _ => true
  | _ => false
def isStarE : PySem.Expr → Bool
  | .Starred _ _ => true
  | _ => false
mutual
def chkC (T : Tab) : C → Sc → Stmt → Bool
  | .set i a, c, s => match s with
    | .Assign [.Name x p] e _ => decide (T.N[i]? = some x) && c.st x && chkE T a c e && (!isComp e || swB c x p e || cellB c x e)
    | _ => false
  | .aug i op a, c, s => match s with
    | .AugAssign (.Name x _) o e _ => decide (T.N[i]? = some x) && c.st x && decide (op = o) && chkE T a c e
    | _ => false
  | .setT is a, c, s => match s with
    | .Assign [.Tuple es k p] e _ => c.calm && tgB T c none (.tup is) (.Tuple es k p) && chkE T a c e && !isComp e && !isTupE e
    | _ => false
  | .par i j a b, c, s => match s with
    | .Assign [.Tuple [.Name x px, .Name y py] _ pt] (.Tuple [e1, e2] _ _) _ => c.calm && decide (T.N[i]? = some x) && decide (T.N[j]? = some y) && decide (i ≠ j) && decide (x ≠ y) && decide (c.sc.names.lookup x = some .local) && decide (c.sc.names.lookup y = some .local) && (px.line == py.line)
        && chkE T a c e1 && chkE T b c e2 && !([e1, e2].all (foldedForSure 8)) && !([e1, e2].all (constantsAlone 8))
    | _ => false
  | .setIx o i a, c, s => match s with
    | .Assign [.Subscript eo ei _] e _ => chkE T a c e && chkE T o c eo && chkE T i c ei && !isComp e
    | _ => false
  | .ex a, c, s => match s with
    | .Expr e _ => chkE T a c e && !isComp e
    | _ => false
  | .ret a, c, s => match s with
    | .Return (some e) _ => chkE T a c e
    | _ => false
  | .retN, _, s => match s with
    | .Return none _ => true
    | _ => false
  | .pass, _, s => match s with
    | .Pass _ => true
    | _ => false
  | .brk, _, s => match s with
    | .Break _ => true
    | _ => false
  | .cnt, _, s => match s with
    | .Continue _ => true
    | _ => false
  | .ifS t a b, c, s => match s with
    | .If e x y _ => chkE T t c e && chkCs T a c x && chkCs T b c y
    | _ => false
  | .forS tg it b, c, s => match s with
    | .For t i x [] _ => c.calm && chkI T it c t i && tgB T c none tg t && chkCs T b c x
    | _ => false
  | .whl t b, c, s => match s with
    | .While e x [] _ => chkE T t c e && chkCs T b c x
    | _ => false
  | .rai k es, c, s => match s with
    | .Raise (some (.Call (.Name x _) args [] _)) none _ => c.calm && decide (T.ecn[k]? = some x) && glB c.sc x && okn x && chkEs T es c args
    | _ => false
  | .tryS b k j ss, c, s => match s with
    | .Try [st] [.ExceptHandler (some (.Name x _)) (some m) (s0 :: sr) _] [] [] _ => c.calm && decide (T.ecn[k]? = some x) && glB c.sc x && okn x && decide (T.N[j]? = some m) && decide (c.sc.names.lookup m = some .local) && chkCs T ss { c with calm := false } (s0 :: sr) && (match b, st with
      | .ex a, .Expr e _ => chkE T a c e && !isComp e
      | .set i a, .Assign [.Name y _] e _ => decide (T.N[i]? = some y) && c.st y && chkE T a c e && !isComp e
      | _, _ => false)
    | _ => false
  | .setAt _ _ _, _, _ => false
  | .doc, _, _ => false
def chkCs (T : Tab) : Cs → Sc → List Stmt → Bool
  | .nil, _, l => match l with
    | [] => true
    | _ => false
  | .cons a as, c, l => match l with
    | s :: r => chkC T a c s && chkCs T as c r
    | _ => false
end

section
variable {W : Wd} {T : Tab} {n : Nat} {c : Sc} {X : Cx} {Y : Fs}
theorem sw_none {e : PySem.Expr} (h : isComp e = false) (t : Option PySem.Expr) (l : Nat) (env : PySem.Env) : swapsWith e t l env = pure false := by
  cases e <;> first
    | rfl
    | cases h
theorem sw_sole {e tg : PySem.Expr} (h : isComp e = false) (l : Nat) (env : PySem.Env) : swapsWithSole [tg] e l env = pure false := by
  unfold swapsWithSole
  exact sw_none h _ _ _
theorem sw_sub {e eo ei : PySem.Expr} {p : Pos} (h : isComp e = false) (l : Nat) (env : PySem.Env) : swapsWithSole [.Subscript eo ei p] e l env = pure false := sw_sole h _ _
theorem asg_sub {T : Tab} {i : E} {c : Sc} {eo ei : PySem.Expr} {p : Pos} {env : PySem.Env} (h : chkE T i c ei = true) (v : Value) : assign (.Subscript eo ei p) env v = (do
      let ov ← holding [v] (eval eo env)
      let iv ← holding [v, ov] (eval ei env)
      standAt p
      holding [v, ov, iv] (setItem ov iv v)
      release [v, ov, iv] []) := by
  cases ei <;> first
    | rfl
    | (cases i <;> simp [chkE] at h)
theorem swapped_none {e tg : PySem.Expr} {env : PySem.Env} (h : isTupE e = false) : swappedStores [tg] e env = pure none := by
  cases tg <;> cases e <;> first
    | rfl
    | cases h
theorem swapped_sub {e eo ei : PySem.Expr} {p : Pos} {env : PySem.Env} : swappedStores [.Subscript eo ei p] e env = pure none := rfl
theorem swapped_par {x y : Str} {px py pt pt2 : Pos} {kt k2 : Nat} {e1 e2 : PySem.Expr} {env : PySem.Env} (hk : env.scope.kind = .function) (hx : env.scope.names.lookup x = some .local) (hy : env.scope.names.lookup y = some .local) (hl : (px.line == py.line) = true) (hxy : x ≠ y)
    (h1 : isStarE e1 = false) (h2 : isStarE e2 = false) (h3 : [e1, e2].all (foldedForSure 8) = false) (h4 : [e1, e2].all (constantsAlone 8) = false) :
    swappedStores [.Tuple [.Name x px, .Name y py] kt pt] (.Tuple [e1, e2] k2 pt2) env = pure (some [x, y]) := by
  have hb : env.blockKind = .function := by unfold Env.blockKind; rw [hk]; rfl
  have kx : env.kindOf x = some .local := hx
  have ky : env.kindOf y = some .local := hy
  have hl' : (py.line == px.line) = true := by simpa using (by simpa using hl : px.line = py.line).symm
  unfold swappedStores
  simp only [hb, h3, h4]
  simp [kx, ky, hl', Expr.pos, hxy, Ne.symm hxy]
  rw [if_neg (by
    rintro (z | z)
    · cases e1 <;> first | exact absurd z Bool.false_ne_true | exact absurd h1 (by simp [isStarE])
    · cases e2 <;> first | exact absurd z Bool.false_ne_true | exact absurd h2 (by simp [isStarE]))]
  have hl2 : py.line = px.line := by simpa using hl'
  have hd : ([x, y] : List Str).eraseDups.length = 2 := by
    have hyx : (y == x) = false := by simpa using Ne.symm hxy
    simp [List.eraseDups_cons, hyx, Ne.symm hxy]
  simp [List.filterMap, kx, ky, hl2, Expr.pos, hd]

/-- where statements run -/
structure GdS (W : Wd) (T : Tab) (n : Nat) (c : Sc) (X : Cx) : Prop extends Gd W T n c X where
  ho : ∀ τ, W.N.ok τ
  stk : X.stack = X.env :: X.outer
  frm : X.env.frame = some X.env.locals
theorem GdS.tr (g : GdS W T n c X) (pn : List (Addr × Obj)) (xe : Value → Shared → Prop) (V : WX) (σ : L2.St) (tk : Takes (X.tr pn xe) V) (po : PassesOwn (model X.prog X.w) X.A X.env xe) : Gd (W.with (fun k d H => V k d σ H) fun τ => τ = σ) T n c (X.tr pn xe) where
  hP := g.hP
  hw := g.hw
  hK := g.hK
  hW := ⟨g.hW.p, g.hW.w⟩
  hm := g.hm
  hb := g.hb
  calm := g.calm
  room := g.room
  hu := g.hu
  nd := g.nd
  hN := g.hN
  hsc := g.hsc
  knd := g.knd
  st := g.st
  po := po
  tk := tk.imp fun k d τ H h => by
    obtain ⟨rfl, h⟩ := h
    exact h
theorem GdS.suite (g : GdS W T n c X) (a : Addr) (pn : List (Addr × Obj)) : GdS W.calm T n { c with calm := false } (X.suite a pn) where
  hP := g.hP
  hw := g.hw
  hK := g.hK
  hW := ⟨g.hW.p, g.hW.w⟩
  hm := g.hm
  hb := g.hb
  calm := fun z => nomatch z
  room := fun z => nomatch z
  hu := g.hu
  nd := g.nd
  hN := g.hN
  hsc := g.hsc
  knd := g.knd
  st := g.st
  po := PassesOwn.never
  tk := fun _ _ ⟨_, _, _, _, _, _, _, _, _, _, _, _, _, _, _, _, _, z⟩ => z.elim
  ho := fun _ => trivial
  stk := g.stk
  frm := g.frm
/-! ### raise -/
theorem rai_fs {N : Nm} {β : Bt} {H : Hp} {ds : List D} {vs : List V} (r : VRs N.K β H ds vs) : ∀ l : List (Nat × Nat), Paired (fun (p : Nat × D) (q : Str × V) => N.fnm p.1 = q.1 ∧ VR N.K β H p.2 q.2) (l.map fun p => (p.1, (ds[p.2]?).getD .non)) (l.map fun p => (N.fnm p.1, (vs[p.2]?).getD .non))
  | [] => .nil
  | p :: l => by
    refine .cons ⟨rfl, ?_⟩ (rai_fs r l)
    show VR N.K β H ((ds[p.2]?).getD .non) ((vs[p.2]?).getD .non)
    cases hd : ds[p.2]? with
    | none => rw [r.getNone hd]; exact .non
    | some d =>
      obtain ⟨v, h1, h2⟩ := r.get hd
      rw [h1]
      exact h2
theorem s_rai {k : Nat} {es : Es} {e : PySem.Expr} {ta : TA} {pos : Pos} (w : WOK W T n Y) (g : GdS W T n c X) (hcm : c.calm = true) (ht : ∀ σ H Q, tEs W.N Y es σ H Q → ta σ H Q)
    (hp : ∀ (q : EC), Y.ec k = some q → PMk X e (tMkX (W.N.cl k) q.np (fun ws => q.fs.map fun p => (W.N.fnm p.1, (ws[p.2]?).getD .non)) ta)) : PS X (.Raise (some e) none pos) (tS W.N Y (.rai k es)) := by
  constructor
  intro pins s σ H D I h
  obtain ⟨β, env, S, sm, er, w0⟩ := h
  unfold exec at w0
  cases hk : Y.ec k with
  | none => rw [hk] at w0; exact w0.elim
  | some q =>
    rw [hk] at w0
    refine (ps_raise (pos := pos) (g.calm hcm) g.tk (hp q hk)).run pins s σ H D I ?_
    refine ht σ H _ (tEs_bind (R' := RF W.N) sm er w0 fun ds S1 β1 H1 vs x1 sm1 er1 r1 w1 => ?_)
    split at w1
    · rename_i hl
      refine ⟨by rw [← r1.length]; exact hl, fun h0 => ⟨er1.ok, ?_⟩, fun d h0 hd => ⟨er1.ok, ?_⟩⟩
      · refine w1 β1 H1 none (.refl _ _) sm1 ?_
        have : q.fs = [] := by
          cases hq : q.fs with
          | nil => rfl
          | cons p l => rw [hq] at h0; cases h0
        show q.fs.map _ = []
        rw [this]; rfl
      · refine w1 β1 _ (some d) (.lay hd) (sm1.lay hd) ⟨_, upd_same, ?_⟩
        exact rai_fs (r1.nxt sm1 (.lay hd)) q.fs
    · exact w1.elim
theorem sE_try {i : Nat} {a : E} {ea : PySem.Expr} {pn : List (Addr × Obj)} {xe : Value → Shared → Prop} {V : WX} (h : ∀ σ, PE (X.tr pn xe) ea (tE (W.N.with (fun k d H => V k d σ H) fun τ => τ = σ) Y a)) : PE (X.tr pn xe) ea (fun σ H Q => tE (W.N.with (fun k d H => V k d σ H) fun τ => τ = σ) Y a σ H Q) :=
  ⟨fun pins s σ H Q I q => (h σ).run pins s σ H Q I q⟩
/-- the body of a try: one statement -/
def tBody (N : Nm) (Y : Fs) (b : C) (V : WX) : TS := fun D σ H => ∃ β env S, Sim N β S H ∧ EnvR N β H env σ ∧ Want (N.with (fun k d H => V k d σ H) fun τ => τ = σ) (RF N) β H (exec Y b env S) (endQ D)
theorem s_try {b : C} {k j : Nat} {ss : Cs} {st s0 : Stmt} {sr : List Stmt} {x m : Str} {np pos' pos : Pos} (w : WOK W T n Y) (g : GdS W T n c X) (hx : T.ecn[k]? = some x) (hgl : glB c.sc x = true) (hok : okn x = true) (hj : T.N[j]? = some m) (hm : c.sc.names.lookup m = some .local)
    (hs : ∀ (a : Addr) (pn : List (Addr × Obj)), PSs (X.suite a pn) (s0 :: sr) (tSs W.calm.N Y ss))
    (hb : ∀ (V : WX) (pn : List (Addr × Obj)) (xe : Value → Shared → Prop), Takes (X.tr pn xe) V → PassesOwn (model X.prog X.w) X.A X.env xe → PS (X.tr pn xe) st (tBody W.N Y b V)) :
    PS X (.Try [st] [.ExceptHandler (some (.Name x np)) (some m) (s0 :: sr) pos'] [] [] pos) (tS W.N Y (.tryS b k j ss)) := by
  have z := w.xnm k x hx
  have hk : X.env.kindOf m = some .local := by
    show X.env.scope.names.lookup m = some .local
    rw [g.hsc]; exact hm
  have q := ps_hold (pos := pos) (pos' := pos') (np := np) (i := j) (c := .ref (W.N.cl k)) (Wo := WN W.N) (tb := tBody W.N Y b) (ts := tSs W.calm.N Y ss) g.stk g.frm g.nd (by rw [g.hN]; exact hj) hk ⟨g.gl hgl, (okn_d hok).1, .inl (by rw [g.hm]; exact z.gC)⟩ g.tk (fun V pn xe tk po => pss_one (hb V pn xe tk po)) hs
  refine PS.imp q fun D σ H h => ?_
  obtain ⟨β, env, S, sm, er, w0⟩ := h
  refine ⟨β, env, S, sm, er, ?_⟩
  unfold exec at w0
  cases ho : exec Y b env S with
  | ok fl S1 =>
    rw [ho] at w0
    exact fun b' h' t x1 s1 r1 => w0 b' h' t x1 s1.back r1
  | no => rw [ho] at w0; exact w0.elim
  | exc c' fs S1 =>
    rw [ho] at w0
    intro β1 H1 d x1 sm1 xf
    have sm1 := sm1.back
    have xf : XF W.N β1 H1 d fs := xf
    cases hc : Y.ec c' with
    | none => simp only [hc] at w0; exact w0.elim
    | some q =>
      simp only [hc] at w0
      have hq := (w.ecY c' q hc).1
      have y := w.ecN c' q hq
      have em := PySem.W.exm_ref (K := X.K) (C := W.N.cl k) (by rw [g.hK]; exact z.exC) (by rw [g.hK]; exact z.hdC) (by rw [g.hK]; exact z.tyC) (by rw [g.hK]; exact y.sub k x hx)
      refine ⟨_, em, fun ht a ha => ?_, fun hf => ?_⟩
      · rw [if_pos ht] at w0
        split at w0
        · rename_i hfs
          have qo : OR W.N (ins β1 S1.length a) (upd H1 a (XO (.ref (W.N.cl c')) d a)) a (.exn c' q.sup fs) := by
            refine ⟨d, q, upd_same, hq, rfl, hfs, ?_⟩
            exact xf.nxt sm1 (Nxt.new sm1 ha)
          have sm2 := sm1.new ha qo
          have x2 := x1.trans (Nxt.new (o := XO (.ref (W.N.cl c')) d a) sm1 ha)
          have er2 : EnvR W.N (ins β1 S1.length a) (upd H1 a (XO (.ref (W.N.cl c')) d a)) (env.set j (some (.ref S1.length))) (σ.set j (some (.ref a))) := (er.nxt sm x2).set g.ho (.ref (if_pos rfl))
          refine ⟨_, _, _, sm2.with, er2.with trivial, Want.bindC (R' := RF W.N) w0 fun fl S2 _ β3 H3 t x3 sm3 r3 w3 => ?_⟩
          have x4 := x2.trans x3
          cases fl with
          | nx env3 =>
            cases t with
            | nx σ3 =>
              have r3 : EnvR W.calm.N β3 H3 env3 σ3 := r3
              exact Want.at (R := RF W.N) (t := FV.nx (σ3.set j none)) w3 x4 sm3 ((r3.back (g.ho _)).clear g.ho)
            | _ => exact r3.elim
          | rt d3 =>
            cases t with
            | rt v3 => exact Want.at (R := RF W.N) (Q := endQ D) (t := FV.rt v3) w3 x4 sm3 r3
            | _ => exact r3.elim
          | bk env3 =>
            cases t with
            | bk σ3 =>
              have r3 : EnvR W.calm.N β3 H3 env3 σ3 := r3
              exact Want.at (R := RF W.N) (Q := endQ D) (t := FV.bk (σ3.set j none)) w3 x4 sm3 ((r3.back (g.ho _)).clear g.ho)
            | _ => exact r3.elim
          | ct env3 =>
            cases t with
            | ct σ3 =>
              have r3 : EnvR W.calm.N β3 H3 env3 σ3 := r3
              exact Want.at (R := RF W.N) (Q := endQ D) (t := FV.ct (σ3.set j none)) w3 x4 sm3 ((r3.back (g.ho _)).clear g.ho)
            | _ => exact r3.elim
        · exact w0.elim
      · rw [if_neg (by rw [hf]; exact Bool.false_ne_true)] at w0
        exact ⟨er.ok, w0 β1 H1 d x1 sm1 xf⟩
mutual
theorem sndC : ∀ (a : C) (W : Wd) (w : WOK W T n Y) (c : Sc) (X : Cx) (g : GdS W T n c X) (s : Stmt), chkC T a c s = true → PS X s (tS W.N Y a)
  | .aug i op a, W, w, c, X, g, s, h => by
    unfold chkC at h
    split at h
    · simp only [Bool.and_eq_true, decide_eq_true_eq] at h
      obtain ⟨⟨⟨h1, h2⟩, h3⟩, h4⟩ := h
      subst h3
      obtain ⟨b1, b2⟩ := g.st _ h2
      exact s_aug g.ho g.nd (by rw [g.hN]; exact h1) b1 b2 (sndE a _ w c _ h4 X g.toGd).e
    · cases h
  | .set i a, W, w, c, X, g, s, h => by
    unfold chkC at h
    split at h
    · rename_i x p e pos
      simp only [Bool.and_eq_true, decide_eq_true_eq] at h
      obtain ⟨⟨⟨h1, h2⟩, h3⟩, h4⟩ := h
      obtain ⟨b1, b2⟩ := g.st x h2
      cases hc : isComp e with
      | false => exact s_set g.ho g.nd (by rw [g.hN]; exact h1) b1 b2 (sw_none hc _ _ _) (sndE a _ w c e h3 X g.toGd).e
      | true =>
        rw [hc] at h4
        have h4 : swB c x p e = true ∨ cellB c x e = true := by simpa using h4
        rcases h4 with h4 | h4
        rotate_left
        · cases e with
          | ListComp e' gs scope q => exact s_set g.ho g.nd (by rw [g.hN]; exact h1) b1 b2 (sw_cell g.knd (by rw [g.hsc]; exact of_decide_eq_true h4)) (sndE a _ w c _ h3 X g.toGd).e
          | _ => cases h4
        cases e with
        | ListComp e' gs scope q =>
          cases a with
          | comp own tg it ifs elt =>
            unfold chkE at h3
            split at h3
            · rename_i e0 e1 t i' fs sc' pos' heq
              cases heq
              simp only [Bool.and_eq_true, decide_eq_true_eq] at h3
              obtain ⟨⟨⟨⟨⟨⟨q0, q1⟩, q2⟩, q3⟩, q4⟩, q5⟩, q6⟩ := h3
              have ok : BlkOk X.N X.env.scope scope own := by rw [g.hN, g.hsc]; exact blkOk_by q1
              unfold swB at h4
              simp only [Bool.and_eq_true, decide_eq_true_eq, Bool.not_eq_true'] at h4
              obtain ⟨⟨r1, r2⟩, r3⟩ := h4
              exact s_setLc g.ho g.hK (g.calm q0) g.nd (by rw [g.hN]; exact h1) (by rw [g.hsc]; exact r1) (sw_true g.knd (by rw [g.hsc]; exact r1) r2 r3) (sndI it _ w c _ _ q2 X g.toGd) ok (fun s H C cl fp => tg_ok (g.blk ok s H C cl fp) q0 q3) (fun s H C cl fp => (sndEs ifs _ (w.with (fun _ _ _ => False) fun _ => True) _ _ q5 _ (g.blk ok s H C cl fp)).i q4) (fun s H C cl fp => (sndE elt _ (w.with (fun _ _ _ => False) fun _ => True) _ _ q6 _ (g.blk ok s H C cl fp)).e) (no_fold q2 _) (tg_in q3)
            · cases h3
          | _ => simp [chkE] at h3
        | SetComp _ _ _ _ => cases h4
        | DictComp _ _ _ _ _ => cases h4
        | _ => cases hc
    · cases h
  | .setT is a, W, w, c, X, g, s, h => by
    unfold chkC at h
    split at h
    · rename_i es k p e pos
      simp only [Bool.and_eq_true, Bool.not_eq_true'] at h
      obtain ⟨⟨⟨⟨h0, h1⟩, h2⟩, h3⟩, h4⟩ := h
      exact s_setT g.ho (tg_ok g.toGd h0 h1) g.hK (sw_sole h3 _ _) (swapped_none h4) rfl (sndE a _ w c e h2 X g.toGd).e
    · cases h
  | .par i j a b, W, w, c, X, g, s, h => by
    unfold chkC at h
    split at h
    · simp only [Bool.and_eq_true, decide_eq_true_eq, Bool.not_eq_true'] at h
      obtain ⟨⟨⟨⟨⟨⟨⟨⟨⟨⟨⟨h0, h1⟩, h2⟩, h3⟩, h4⟩, h5⟩, h6⟩, h7⟩, h8⟩, h9⟩, h10⟩, h11⟩ := h
      refine s_par g.ho (g.calm h0) g.nd (by rw [g.hN]; exact h1) (by rw [g.hN]; exact h2) h3 (by rw [g.hsc]; exact h5) (by rw [g.hsc]; exact h6) (sndE a _ w c _ h8 X g.toGd).e (sndE b _ w c _ h9 X g.toGd).e (nostar h8 _ _) (nostar h9 _ _) ?_
      have ns : ∀ {a : E} {e : PySem.Expr}, chkE T a c e = true → isStarE e = false := fun {a e} h => by
        cases e <;> first
          | rfl
          | (cases a <;> simp [chkE] at h)
      exact swapped_par g.knd (by rw [g.hsc]; exact h5) (by rw [g.hsc]; exact h6) h7 h4 (ns h8) (ns h9) h10 h11
    · cases h
  | .setIx o i a, W, w, c, X, g, s, h => by
    unfold chkC at h
    split at h
    · simp only [Bool.and_eq_true, Bool.not_eq_true'] at h
      obtain ⟨⟨⟨h1, h2⟩, h3⟩, h4⟩ := h
      have hu := g.hu
      exact s_setIx g.hK g.hW (by omega) (sndE o _ w c _ h2 X g.toGd).e (sndE i _ w c _ h3 X g.toGd).e (sndE a _ w c _ h1 X g.toGd).e (asg_sub h3) (sw_sub h4 _ _) swapped_sub rfl
    · cases h
  | .ex a, W, w, c, X, g, s, h => by
    unfold chkC at h
    split at h
    · simp only [Bool.and_eq_true, Bool.not_eq_true'] at h
      exact s_ex (sw_none h.2 _ _ _) (sndE a _ w c _ h.1 X g.toGd).e
    · cases h
  | .ret a, W, w, c, X, g, s, h => by
    unfold chkC at h
    split at h
    · exact s_ret (sndE a _ w c _ h X g.toGd).e
    · cases h
  | .retN, W, w, c, X, g, s, h => by
    unfold chkC at h
    split at h
    · exact s_retN
    · cases h
  | .pass, W, w, c, X, g, s, h => by
    unfold chkC at h
    split at h
    · exact s_pass
    · cases h
  | .brk, W, w, c, X, g, s, h => by
    unfold chkC at h
    split at h
    · exact s_brk
    · cases h
  | .cnt, W, w, c, X, g, s, h => by
    unfold chkC at h
    split at h
    · exact s_cnt
    · cases h
  | .ifS t a b, W, w, c, X, g, s, h => by
    unfold chkC at h
    split at h
    · simp only [Bool.and_eq_true] at h
      exact s_if (sndE t _ w c _ h.1.1 X g.toGd).t (sndCs a _ w _ _ g _ h.1.2) (sndCs b _ w _ _ g _ h.2)
    · cases h
  | .forS tg it b, W, w, c, X, g, s, h => by
    unfold chkC at h
    split at h
    · simp only [Bool.and_eq_true] at h
      exact s_for g.ho g.hK g.po (g.calm h.1.1.1) (sndI it _ w c _ _ h.1.1.2 X g.toGd) (tg_ok g.toGd h.1.1.1 h.1.2) (sndCs b _ w _ _ g _ h.2) (no_fold h.1.1.2 _)
    · cases h
  | .whl t b, W, w, c, X, g, s, h => by
    unfold chkC at h
    split at h
    · simp only [Bool.and_eq_true] at h
      exact s_whl g.po (sndE t _ w c _ h.1 X g.toGd).t (sndCs b _ w _ _ g _ h.2)
    · cases h
  | .rai k es, W, w, c, X, g, s, h => by
    unfold chkC at h
    split at h
    · rename_i x p args p2 pos
      simp only [Bool.and_eq_true, decide_eq_true_eq] at h
      obtain ⟨⟨⟨⟨h0, h1⟩, h2⟩, h3⟩, h4⟩ := h
      have z := w.xnm k x h1
      have L := sndEs es _ w c _ h4 X g.toGd
      cases args with
      | nil =>
        cases es with
        | nil =>
          refine s_rai w g h0 (ta := tNil) (fun σ H Q q => ?_) fun q hq => ?_
          · obtain ⟨β, env, S, sm, er, w0⟩ := q
            exact Want.here (R := RDs W.N) (a := []) (t := []) w0 sm .nil
          · obtain ⟨hq1, hn⟩ := w.ecY k q hq
            have y := w.ecN k q hq1
            obtain ⟨fI, fd, ps, i1, i2, i3, i4, i5⟩ := y.ini
            exact pmk_x0 (by rw [g.hK]; exact y.xc.ox) (by rw [g.hK]; exact i1) (by rw [g.hK]; exact i2) (by rw [g.hP, g.hw, g.hK, g.hm, g.hb]; exact i3) ((g.room h0).mono (by omega)) (by rw [g.hK]; exact i4) i5 (g.gl h2) (by rw [g.hm]; exact z.gC) (okn_d h3).1
        | cons a es => simp [chkEs] at h4
      | cons e1 r =>
        have hs1 : starEach (e1 :: r) X.env = (false, eval e1 X.env) :: starEach r X.env ∧ (backTo p2 (starEach r X.env)).any (·.1) = false := by
          cases es with
          | nil => simp [chkEs] at h4
          | cons a es =>
            unfold chkEs at h4
            simp only [Bool.and_eq_true] at h4
            exact ⟨nostar h4.1 _ _, back_all (star_all h4.2 _)⟩
        refine s_rai w g h0 (ta := tEs W.N Y es) (fun σ H Q q => q) fun q hq => ?_
        obtain ⟨hq1, hn⟩ := w.ecY k q hq
        have y := w.ecN k q hq1
        obtain ⟨fI, fd, ps, i1, i2, i3, i4, i5⟩ := y.ini
        exact pmk_x (by rw [g.hK]; exact y.xc.ox) (by rw [g.hK]; exact i1) (by rw [g.hK]; exact i2) (by rw [g.hP, g.hw, g.hK, g.hm, g.hb]; exact i3) ((g.room h0).mono (by omega)) (by rw [g.hK]; exact i4) i5 (g.gl h2) (by rw [g.hm]; exact z.gC) (okn_d h3).1 L.a hs1.1 hs1.2
    · cases h
  | .tryS b k j ss, W, w, c, X, g, s, h => by
    unfold chkC at h
    split at h
    · rename_i st x np m s0 sr pos' pos
      simp only [Bool.and_eq_true, decide_eq_true_eq] at h
      obtain ⟨⟨⟨⟨⟨⟨⟨h0, h1⟩, h2⟩, h3⟩, h4⟩, h5⟩, h6⟩, h7⟩ := h
      refine s_try w g h1 h2 h3 h4 h5 (fun a pn => sndCs ss _ (w.with (fun _ _ _ => False) fun _ => True) _ _ (g.suite a pn) _ h6) fun V pn xe tk po => ?_
      split at h7
      · rename_i a e pe
        simp only [Bool.and_eq_true, Bool.not_eq_true'] at h7
        have p := sE_try (i := 0) (V := V) (pn := pn) (xe := xe) fun σ => (sndE a _ (w.with (fun k d H => V k d σ H) fun τ => τ = σ) c _ h7.1 _ (g.tr pn xe V σ tk po)).e
        refine PS.imp (ps_expr p (sw_none h7.2 _ _ _)) fun D σ H q => ?_
        obtain ⟨β, env, S, sm, er, w0⟩ := q
        refine tE_bind (R' := RF W.N) sm.with (er.with rfl) w0 fun d S1 β1 H1 v x1 sm1 er1 r1 w1 => ?_
        exact Want.here (R := RF W.N) (t := FV.nx σ) w1 sm1 (er1.back (g.ho _))
      · rename_i i a y p0 e pe
        simp only [Bool.and_eq_true, decide_eq_true_eq, Bool.not_eq_true'] at h7
        obtain ⟨⟨⟨k1, k2⟩, k3⟩, k4⟩ := h7
        obtain ⟨b1, b2⟩ := g.st y k2
        have p := sE_try (i := 0) (V := V) (pn := pn) (xe := xe) fun σ => (sndE a _ (w.with (fun k d H => V k d σ H) fun τ => τ = σ) c _ k3 _ (g.tr pn xe V σ tk po)).e
        refine PS.imp (ps_set (X := X.tr pn xe) (i := i) g.nd (by show X.N[i]? = _; rw [g.hN]; exact k1) b1 p (sw_none k4 _ _ _) b2) fun D σ H q => ?_
        obtain ⟨β, env, S, sm, er, w0⟩ := q
        refine tE_bind (R' := RF W.N) sm.with (er.with rfl) w0 fun d S1 β1 H1 v x1 sm1 er1 r1 w1 => ?_
        exact Want.here (R := RF W.N) (t := FV.nx (σ.set i (some v))) w1 sm1 ((er1.back (g.ho _)).set g.ho r1)
      · cases h7
    · cases h
  | .setAt _ _ _, W, w, c, X, g, s, h => by cases h
  | .doc, W, w, c, X, g, s, h => by cases h
theorem sndCs : ∀ (as : Cs) (W : Wd) (w : WOK W T n Y) (c : Sc) (X : Cx) (g : GdS W T n c X) (l : List Stmt), chkCs T as c l = true → PSs X l (tSs W.N Y as)
  | .nil, W, w, c, X, g, l, h => by
    unfold chkCs at h
    split at h
    · exact ss_nil
    · cases h
  | .cons a as, W, w, c, X, g, l, h => by
    unfold chkCs at h
    split at h
    · rw [Bool.and_eq_true] at h
      exact ss_cons (sndC a _ w _ _ g _ h.1) (sndCs as _ w _ _ g _ h.2)
    · cases h
end
end
end Mi

namespace Mi
open PySem L2 PySem.Spec PyProof.Rows RZ

/-- the names of a text -/
structure T0 where
  fns : List Str
  gv : List Str
  bl : List Str
  ecn : List Str := []
  fnm : List Str := []
def T0.tab (t : T0) (N : List Str) : Tab := ⟨N, t.fns, t.gv, t.bl, t.ecn, t.fnm⟩
/-- the fields' names -/
def nmOf (l : List Str) (f : Nat) : Str := match l[f]? with
  | some x => x
  | none => ⟨#[1200000 + f]⟩
theorem nmOf_at {l : List Str} {f : Nat} {x : Str} (h : l[f]? = some x) : nmOf l f = x := by unfold nmOf; rw [h]
theorem nmOf_inj {l : List Str} (h : l.Nodup) (h2 : ∀ x ∈ l, x.cps.size ≠ 1) (f g : Nat) (e : nmOf l f = nmOf l g) : f = g := by
  unfold nmOf at e
  cases hf : l[f]? with
  | some x =>
    rw [hf] at e
    cases hg : l[g]? with
    | some y =>
      rw [hg] at e
      simp only at e
      subst e
      exact nodup_ix h hf hg
    | none =>
      rw [hg] at e
      simp only at e
      have := h2 x (List.mem_of_getElem? hf)
      rw [e] at this
      exact absurd rfl this
  | none =>
    rw [hf] at e
    cases hg : l[g]? with
    | some y =>
      rw [hg] at e
      simp only at e
      have := h2 y (List.mem_of_getElem? hg)
      rw [← e] at this
      exact absurd rfl this
    | none =>
      rw [hg] at e
      simp only at e
      injection e with e
      have e := congrArg Array.toList e
      simp at e
      exact e
def fnB (t : T0) (fi : FI) (st : Stmt) : Bool := scopeB fi.N fi.ps (defScope st) && chkCs (t.tab fi.N) fi.b (scF (defScope st)) (defBody st)
structure FnAt (K : PySem.W.Frag) (mg : Str → Option Value) (t : T0) (fi : FI) : Prop where
  ex : ∃ (f : Addr) (fd : FuncData) (st : Stmt), mg fi.nm = some (.ref f) ∧ Fun K fi.nm fi.nm st f fd ∧ Binds K fd fi.ps [] ∧ fnB t fi st = true

theorem env_start {N : Nm} {β : Bt} {H : Hp} {ds : List D} {vs : List V} (ho : ∀ τ, N.ok τ) (r : VRs N.K β H ds vs) (n : Nat) : EnvR N β H (ds.map some ++ List.replicate (n - ds.length) none) (vs.map some ++ List.replicate (n - vs.length) none) :=
  ⟨by simp [r.length], fun i d h => by
    by_cases hi : i < ds.length
    · rw [List.getElem?_append_left (by simpa using hi), List.getElem?_map] at h
      obtain ⟨d', e1, e2⟩ := Option.map_eq_some_iff.mp h
      cases e2
      obtain ⟨v, e3, r3⟩ := r.get e1
      have hi' : i < vs.length := by rw [← r.length]; exact hi
      exact ⟨v, by rw [List.getElem?_append_left (by simpa using hi'), List.getElem?_map, e3]; rfl, r3⟩
    · rw [List.getElem?_append_right (by simpa using hi), List.getElem?_replicate] at h
      split at h
      · cases h
      · exact (by cases h), ho _⟩
theorem step_ok {W : Wd} {t : T0} {n : Nat} {Y : Fs} {fi : FI} {f : Addr} {fd : FuncData} {st : Stmt} (F : Fun W.N.K fi.nm fi.nm st f fd) (hB : fnB t fi st = true) (hPW : W.P = W.N.P ∧ W.w = W.N.w) (w : WOK W (t.tab fi.N) n Y) :
    FnOk W.P W.w W.N.K W.mg W.base (L2.CX W.P W.w) (n + 1) f fd fi.ps (spF W.N (runF Y fi)) := by
  unfold fnB at hB
  rw [Bool.and_eq_true] at hB
  have S := scope_ok hB.1
  refine F.okX S (fun vs H Q E h => ?_) (fun cdv A outer s H vs Q E hr h => ?_)
  · obtain ⟨β, S', ds, sm, r, w'⟩ := h
    unfold runF at w'
    split at w'
    · rename_i hl
      rw [← r.length]; exact hl
    · exact w'.elim
  · obtain ⟨β, S', ds, sm, r, w'⟩ := h
    unfold runF at w'
    split at w'
    · rename_i hl
      refine ⟨tSs (W.with E fun _ => True).N Y fi.b, sndCs fi.b _ (w.with E fun _ => True) _ _ ?_ _ hB.2, ?_⟩
      · exact {
          hP := rfl, hw := rfl, hK := rfl, hW := ⟨hPW.1, hPW.2⟩, hm := rfl, hb := rfl, calm := fun _ => rfl
          room := fun _ => hr
          hu := by
            have := hr.un
            show (A.deeper (envOfC fi.nm (defScope st) s.heap.objs.size f cdv)).units + 65 < cLine
            omega
          nd := S.nd
          hN := rfl
          hsc := rfl
          knd := S.kind
          st := fun x hx => by
            have hx : stB (defScope st) x = true := hx
            refine ⟨?_, .inl rfl⟩
            unfold stB at hx
            split at hx
            · rename_i e; exact .inl e
            · rename_i e; exact .inr e
            · cases hx
          po := passes_of rfl
          tk := (takes_of rfl rfl rfl rfl).imp fun _ _ _ _ z => z.2
          ho := fun _ => trivial
          stk := rfl
          frm := rfl }
      · refine ⟨β, _, S', sm.with, env_start (N := (W.with E fun _ => True).N) (fun _ => trivial) r fi.N.length, Want.bind (R' := RD W.N) w' fun fl S1 _ β1 H1 tt x1 sm1 rr w1 => ?_⟩
        cases fl with
        | rt d =>
          cases tt with
          | rt v => exact Want.here (R := RD W.N) (a := d) (S := S1) w1 sm1 rr
          | _ => exact rr.elim
        | nx env =>
          cases tt with
          | nx σ => exact Want.here (R := RD W.N) (a := .non) (S := S1) w1 sm1 .non
          | _ => exact rr.elim
        | bk env => exact w1.elim
        | ct env => exact w1.elim
    · exact w'.elim

/-- a class of exceptions of the text: its __init__ -/
structure XAt (K : PySem.W.Frag) (mg : Str → Option Value) (t : T0) (cl : Nat → Addr) (c : Nat) (k : EC) : Prop where
  xc : XCls K (cl c)
  ini : ∃ (fI : Addr) (fd : FuncData) (qual : Str) (st : Stmt) (N : List Str) (B : Addr) (Bx : Str) (fl : List (Str × Nat)), PySem.W.findIn K (.ref (cl c)) "__init__" = some (some (.ref fI)) ∧ PySem.W.typeIn K (.ref fI) = some (.type "function") ∧
    Fun K "__init__" qual st fI fd ∧ iniB N Bx fl st = true ∧ mg Bx = some (.ref B) ∧ XBase K B ∧ Binds K fd N [] ∧ k.np = N.length - 1 ∧ (∀ ws, iniMk ws fl [] = k.fs.map fun p => (nmOf t.fnm p.1, (ws[p.2]?).getD .non)) ∧ ∀ p ∈ fl, PySem.W.findIn K (.ref (cl c)) p.1 = some none
  no : ∀ p ∈ k.fs, PySem.W.findIn K (.ref (cl c)) (nmOf t.fnm p.1) = some none
  self : k.sup.contains c = true
  sub : ∀ c2 x2, t.ecn[c2]? = some x2 → PySem.W.subIn K (.ref (cl c)) (.ref (cl c2)) = some (k.sup.contains c2)
  ve : PySem.W.subIn K (.ref (cl c)) (.type "ValueError") = some true
  inT : ∃ x, t.ecn[c]? = some x
/-- the facts of a text's top -/
structure TopOK (K : PySem.W.Frag) (mg : Str → Option Value) (t : T0) (cl : Nat → Addr) (G : Gi) : Prop where
  fns : ∀ (i : Nat) (fi : FI), G.fns[i]? = some fi → FnAt K mg t fi
  nms : t.fns = G.fns.map (·.nm)
  gv : ∀ (g : Nat) (x : Str), t.gv[g]? = some x → ∃ u v, mg x = some u ∧ RelV v u ∧ ∀ β H, VR K β H (G.gv g) v
  bl : ∀ x ∈ t.bl, mg x = none
  xn : ∀ c x, t.ecn[c]? = some x → XNm K mg x (cl c)
  ec : ∀ c k, G.ec c = some k → XAt K mg t cl c k
  fd : t.fnm.Nodup ∧ ∀ x ∈ t.fnm, x.cps.size ≠ 1
theorem all_fns {W : Wd} {t : T0} {G : Gi} (O : TopOK W.N.K W.mg t W.N.cl G) (hE : W.N.ec = G.ec) (hM : W.N.fnm = nmOf t.fnm) (hPW : W.P = W.N.P ∧ W.w = W.N.w) : ∀ (n : Nat) (i : Nat) (fi : FI), G.fns[i]? = some fi → ∀ (f : Addr) (fd : FuncData) (st : Stmt), Fun W.N.K fi.nm fi.nm st f fd → fnB t fi st = true → FnOk W.P W.w W.N.K W.mg W.base (L2.CX W.P W.w) n f fd fi.ps (spF W.N (fnN G n i)) := by
  have mk : ∀ (n : Nat) (F : Nat → List D → Sto → Out D) (M : Nat → List D → Sto → Out D) (ec : Nat → Option EC), (∀ c k, ec c = some k → G.ec c = some k ∧ 2 ≤ n) →
      (∀ (i : Nat) (fi : FI), G.fns[i]? = some fi → ∀ (f : Addr) (fd : FuncData) (st : Stmt), Fun W.N.K fi.nm fi.nm st f fd → fnB t fi st = true → FnOk W.P W.w W.N.K W.mg W.base (L2.CX W.P W.w) n f fd fi.ps (spF W.N (F i))) →
      ∀ N, WOK W (t.tab N) n ⟨F, M, G.gv, ec⟩ := fun n F M ec hec h N => {
    xnm := O.xn
    ecY := fun c k q => by rw [hE]; exact hec c k q
    ecN := fun c k q => by
      rw [hE] at q
      have z := O.ec c k q
      obtain ⟨fI, fd, qual, st, N, B, Bx, fl, i1, i2, i3, i4, i5, i6, i7, i8, i9, i10⟩ := z.ini
      have key := ini_ok (P := W.P) (w := W.w) (mg := W.mg) (base := W.base) (k := 0) i3 i4 z.xc.ox i6 i5 i10
      have hN := (iniEnd_len i4).2.1
      refine ⟨z.xc, ⟨fI, fd, N, i1, i2, ?_, i7, by rw [i8]; omega⟩, fun p hp => by rw [hM]; exact z.no p hp, z.self, z.sub, z.ve, z.inT⟩
      rw [hM, i8]
      have e : (fun ws => iniMk ws fl []) = fun ws => k.fs.map fun p => (nmOf t.fnm p.1, (ws[p.2]?).getD .non) := funext i9
      rw [← e]
      exact key
    fnm := fun f x q => by rw [hM]; exact nmOf_at q
    inj := fun f g q => by rw [hM] at q; exact nmOf_inj O.fd.1 O.fd.2 f g q
    fn := fun i x hx => by
      have hx : t.fns[i]? = some x := hx
      rw [O.nms, List.getElem?_map] at hx
      obtain ⟨fi, e1, e2⟩ := Option.map_eq_some_iff.mp hx
      subst e2
      obtain ⟨f, fd, st, h1, h2, h3, h4⟩ := (O.fns i fi e1).ex
      exact ⟨f, fd, fi.ps, h1, h2.kp, h i fi e1 f fd st h2 h4, h3⟩
    gv := O.gv
    bl := O.bl }
  have no : ∀ (i : Nat) (fi : FI), G.fns[i]? = some fi → ∀ (f : Addr) (fd : FuncData) (st : Stmt), Fun W.N.K fi.nm fi.nm st f fd → fnB t fi st = true → FnOk W.P W.w W.N.K W.mg W.base (L2.CX W.P W.w) 0 f fd fi.ps (spF W.N fun _ _ => .no) := fun i fi _ f fd st _ _ =>
    ⟨fun vs H Q E ⟨_, _, _, _, _, w⟩ => w.elim, fun A outer s H args us vs Q E _ _ _ _ ⟨_, _, _, _, _, w⟩ => w.elim⟩
  intro n
  induction n with
  | zero => exact no
  | succ n ih =>
    intro i fi e f fd st F hB
    cases n with
    | zero =>
      have h := step_ok F hB hPW (mk 0 (fun _ _ _ => .no) (fun _ _ _ => .no) (fun _ => none) (fun _ _ z => nomatch z) no fi.N)
      refine h.imp fun vs H Q E hs => ?_
      obtain ⟨β, S, ds, sm, r, w⟩ := hs
      refine ⟨β, S, ds, sm, r, ?_⟩
      unfold fnN at w
      rw [e] at w
      exact w
    | succ n =>
      have h := step_ok F hB hPW (mk (n + 1) (fnN G (n + 1)) (fnN G n) (ecAt G n) (fun c k q => by cases n with | zero => cases q | succ n => exact ⟨q, by omega⟩) ih fi.N)
      refine h.imp fun vs H Q E hs => ?_
      obtain ⟨β, S, ds, sm, r, w⟩ := hs
      refine ⟨β, S, ds, sm, r, ?_⟩
      unfold fnN at w
      rw [e] at w
      exact w

/-- the law's promise -/
def spLaw (K : PySem.W.Frag) : Sp := fun vs H Q _ => ∃ (a : Addr) (ns : List Int), vs = [.ref a] ∧ Only H ∧ SqL K H a (ns.map V.int) ∧ ns.length ≤ 63 ∧ ∀ H', Q (.bl true) H'
theorem ints_vr {K : PySem.W.Frag} {β : Bt} {H : Hp} : ∀ ns : List Int, VRs K β H (ns.map D.int) (ns.map V.int)
  | [] => .nil
  | n :: ns => .cons (.int n) (ints_vr ns)
theorem law_sp {N : Nm} {F : List D → Sto → Out D} (h : ∀ ns : List Int, ns.length ≤ 63 → ∃ S, F [.rol (ns.map D.int)] [] = .ok (.bl true) S) (vs : List V) (H : Hp) (Q : VK) (E : XK) (q : spLaw N.K vs H Q E) : spF N F vs H Q E := by
  obtain ⟨a, ns, rfl, hO, hS, hl, k⟩ := q
  obtain ⟨S, e⟩ := h ns hl
  have rol : ROL N.K H a (ns.map V.int) := by
    rcases hS with (hS | hS) | hS
    · rcases hO a with z | ⟨o, xs, z⟩ <;> rw [hS] at z <;> cases z
    · exact .inl hS
    · exact .inr hS
  refine ⟨fun _ => none, [], [.rol (ns.map D.int)], ⟨fun n o h => (by simp at h), fun n a h => (by cases h), fun m n a h => (by cases h)⟩, .cons (.rol rol (ints_vr ns)) .nil, ?_⟩
  rw [e]
  intro β' H' t _ _ r
  cases r
  exact k H'
theorem law_fn {W : Wd} {t : T0} {G : Gi} {n i : Nat} {fi : FI} (O : TopOK W.N.K W.mg t W.N.cl G) (hE : W.N.ec = G.ec) (hM : W.N.fnm = nmOf t.fnm) (hPW : W.P = W.N.P ∧ W.w = W.N.w) (e : G.fns[i]? = some fi) {f : Addr} {fd : FuncData} {st : Stmt} (F : Fun W.N.K fi.nm fi.nm st f fd) (hB : fnB t fi st = true)
    (h : ∀ ns : List Int, ns.length ≤ 63 → ∃ S, fnN G n i [.rol (ns.map D.int)] [] = .ok (.bl true) S) : FnOk W.P W.w W.N.K W.mg W.base (L2.CX W.P W.w) n f fd fi.ps (spLaw W.N.K) :=
  (all_fns O hE hM hPW n i fi e f fd st F hB).imp (law_sp h)
theorem walk {l : PySem.W.OpenLaw} {n : Nat} {x : Str} {q : Program} {loose : List Str} {XP : (Str → Option Value) → Heap → Prop} {YP : World → Heap → Prop} {d : DefRec} {K : Params → PySem.W.Frag} (hn : l.most = some 63) (hdf : d.params.defaults = [])
    (hr : Room n callerA)
    (hY : ∀ (w : World) (h : Heap), YP w h → (K w.params).In h)
    (F : ∀ (w : World) (mg : Str → Option Value) (fa : Addr) (h : Heap), (K w.params).In h → h.Ns mainGlobals mg → mg d.name = some (.ref fa) →
      ∃ fd : FuncData, (∀ (s : Shared) (u : Value), BindsTo s fd ⟨[u], []⟩ [(x, u)]) ∧ ∀ base : Heap, (K w.params).In base → base.Ns mainGlobals mg → FnOk l.prog w (K w.params) mg base (L2.CX l.prog w) n fa fd [x] (spLaw (K w.params))) :
    PySem.W.WalkO q loose XP YP l.row.toRowW d [] (fun f vs => PySem.call f vs) :=
  L2.walk_of (n := 63) (k := n) (x := x) (CX := fun w => L2.CX l.prog w) (sp := fun w => spLaw (K w.params)) hn (by decide) hdf hr hY F (fun _ _ a ns hl hO hS => ⟨a, ns, rfl, hO, hS, hl, fun _ => rfl⟩) fun _ _ _ _ _ ⟨_, _, _, _, _, _, _, _, _, _, _, _, z⟩ => z
end Mi

/-! The evaluator's equations, one for each form, for proofs that run it by hand. -/
namespace Mi
open PySem L2
section
variable {Y : Fs} {env : Env} {S : Sto}
@[simp] theorem bind_ok {α β : Type} {a : α} {f : α → Sto → Out β} : (Out.ok a S).bind f = f a S := rfl
@[simp] theorem bind_exc {α β : Type} {c : Nat} {fs : List (Nat × D)} {f : α → Sto → Out β} : (Out.exc c fs S).bind f = .exc c fs S := rfl
@[simp] theorem bind_no {α β : Type} {f : α → Sto → Out β} : (Out.no : Out α).bind f = .no := rfl
theorem bind_bind {α β γ : Type} (o : Out α) (f : α → Sto → Out β) (g : β → Sto → Out γ) : (o.bind f).bind g = o.bind fun a s => (f a s).bind g := by cases o <;> rfl
@[simp] theorem ev_var {i : Nat} {d : D} (h : env[i]? = some (some d)) : ev Y (.var i) env S = .ok d S := by simp only [ev, h]
@[simp] theorem ev_con {c : D} : ev Y (.con c) env S = .ok c S := by simp only [ev]
@[simp] theorem ev_glob {g : Nat} : ev Y (.glob g) env S = .ok (Y.gv g) S := by simp only [ev]
@[simp] theorem ev_bin {op : Operator} {a b : E} : ev Y (.bin op a b) env S = (ev Y a env S).bind fun x S1 => (ev Y b env S1).bind fun y S2 => binD op x y S2 := by simp only [ev]
@[simp] theorem ev_una {op : UnaryOp} {a : E} : ev Y (.una op a) env S = (ev Y a env S).bind fun x S1 => unD op x S1 := by simp only [ev]
@[simp] theorem ev_cmp {op : CmpOp} {a b : E} : ev Y (.cmp op a b) env S = (ev Y a env S).bind fun x S1 => (ev Y b env S1).bind fun y S2 => obl (cmpD op x y S2) S2 := by simp only [ev]
@[simp] theorem ev_and {es : Es} : ev Y (.and_ es) env S = evAnd Y es env S := by simp only [ev]
@[simp] theorem ev_or {es : Es} : ev Y (.or_ es) env S = evOr Y es env S := by simp only [ev]
@[simp] theorem ev_not {a : E} : ev Y (.not_ a) env S = (ev Y a env S).bind fun x S1 => obl ((truthD S1 x).map (!·)) S1 := by simp only [ev]
@[simp] theorem ev_ite {c a b : E} : ev Y (.ite c a b) env S = (ev Y c env S).bind fun x S1 => match truthD S1 x with
    | some true => ev Y a env S1
    | some false => ev Y b env S1
    | none => .no := by rw [ev] <;> rfl
@[simp] theorem ev_tup {es : Es} : ev Y (.tup es) env S = (evs Y es env S).bind fun xs S1 => if xs.length ≤ lim then .ok (.tup xs) S1 else .no := by simp only [ev]
@[simp] theorem ev_lst {es : Es} : ev Y (.lst es) env S = (evs Y es env S).bind fun xs S1 => if xs.length ≤ lim then new S1 (.lst xs) else .no := by simp only [ev]
@[simp] theorem ev_idx {a i : E} : ev Y (.idx a i) env S = (ev Y a env S).bind fun x S1 => (ev Y i env S1).bind fun y S2 => idxD x y S2 := by simp only [ev]
@[simp] theorem ev_call {f : Nat} {es : Es} : ev Y (.call f es) env S = (evs Y es env S).bind fun xs S1 => Y.f f xs S1 := by simp only [ev]
@[simp] theorem ev_bm {m : BM} {a : E} {es : Es} : ev Y (.bm m a es) env S = (ev Y a env S).bind fun x S1 => if bmK m x S1 = true then (evs Y es env S1).bind fun xs S2 => bmD m x xs S2 else .no := by simp only [ev]
@[simp] theorem ev_bi {f : BI} {es : Es} : ev Y (.bi f es) env S = (evs Y es env S).bind fun xs S1 => biD f xs S1 := by simp only [ev]
@[simp] theorem ev_isi {a : E} {o : Bool} {ts : List Ty} : ev Y (.isi a o ts) env S = (ev Y a env S).bind fun x S1 => obl (isTys S1 x ts) S1 := by simp only [ev]
@[simp] theorem ev_dsp {es : Es} : ev Y (.dsp es) env S = (evs Y es env S).bind fun ds S1 => match pairsD ds with
    | some kvs => if kvs.length ≤ 15 then new S1 (.dK (mergeD [] kvs)) else .no
    | none => .no := by rw [ev] <;> rfl
@[simp] theorem ev_join {a e : E} : ev Y (.join a e) env S = (ev Y a env S).bind fun x S1 => match x with
    | .str s => (ev Y e env S1).bind fun y S2 => joinD (.str s) y S2
    | _ => .no := by rw [ev] <;> rfl
@[simp] theorem ev_lrev {a : E} : ev Y (.lrev a) env S = (ev Y a env S).bind fun x S1 => match seqAt S1 x with
    | some xs => new S1 (.lst xs.reverse)
    | none => .no := by rw [ev] <;> rfl
@[simp] theorem ev_dnew {t : Bool} : ev Y (.dnew t) env S = new S (if t then .dT [] else .dK []) := by rw [ev]
@[simp] theorem ev_slc00 {a lo hi : E} : ev Y (.slc a false false lo hi) env S = (ev Y a env S).bind fun x S1 => slcD x none none S1 := by rw [ev]
@[simp] theorem ev_slc10 {a lo hi : E} : ev Y (.slc a true false lo hi) env S = (ev Y a env S).bind fun x S1 => (ev Y lo env S1).bind fun y S2 => match y with
    | .int i => slcD x (some i) none S2
    | _ => .no := by rw [ev] <;> rfl
@[simp] theorem ev_slc01 {a lo hi : E} : ev Y (.slc a false true lo hi) env S = (ev Y a env S).bind fun x S1 => (ev Y hi env S1).bind fun y S2 => match y with
    | .int i => slcD x none (some i) S2
    | _ => .no := by rw [ev] <;> rfl
@[simp] theorem ev_slc11 {a lo hi : E} : ev Y (.slc a true true lo hi) env S = (ev Y a env S).bind fun x S1 => (ev Y lo env S1).bind fun y S2 => match y with
    | .int i => (ev Y hi env S2).bind fun z S3 => match z with
      | .int j => slcD x (some i) (some j) S3
      | _ => .no
    | _ => .no := by rw [ev] <;> rfl
@[simp] theorem ev_chain {op op' : CmpOp} {a b c : E} : ev Y (.chain op op' a b c) env S = (ev Y a env S).bind fun x S1 => (ev Y b env S1).bind fun y S2 => match cmpD op x y S2 with
    | some true => (ev Y c env S2).bind fun z S3 => obl (cmpD op' y z S3) S3
    | some false => .ok (.bl false) S2
    | none => .no := by rw [ev] <;> rfl
@[simp] theorem ev_attr {a : E} {f : Nat} : ev Y (.attr a f) env S = (ev Y a env S).bind fun x S1 => match x with
    | .ref n => match S1[n]? with
      | some (.exn _ _ fs) => oD (getF fs f) S1
      | _ => .no
    | _ => .no := by rw [ev] <;> rfl
@[simp] theorem ev_xis {a : E} {o : Bool} {ts : List Xt} : ev Y (.xis a o ts) env S = (ev Y a env S).bind fun x S1 => match x with
    | .ref n => match S1[n]? with
      | some (.exn _ sup _) => .ok (.bl (ts.any (xtIn sup))) S1
      | _ => .no
    | _ => .no := by rw [ev] <;> rfl
theorem ev_comp {own : List (Str × Nat)} {tg : Tg} {it : I} {ifs : Es} {elt : E} : ev Y (.comp own tg it ifs elt) env S = (evI Y it env S).bind fun J S1 =>
      (compN (itNext J) (asg tg) (fun e s => (evIfs Y ifs e s).calm) (fun e s => (ev Y elt e s).calm) (wipeD env (own.map (·.2))) (lim + 2) 0 [] S1).bind fun xs S2 => new S2 (.lst xs) := by rw [ev]
@[simp] theorem evIfs_nil : evIfs Y .nil env S = .ok true S := by rw [evIfs]
@[simp] theorem evIfs_cons {e : E} {es : Es} : evIfs Y (.cons e es) env S = (ev Y e env S).bind fun x S1 => match truthD S1 x with
    | some b => .ok b S1
    | none => .no := by rw [evIfs] <;> rfl
@[simp] theorem evI_val {e : E} : evI Y (.val e) env S = (ev Y e env S).bind fun x S1 => match x with
    | .tup xs => .ok (.tup xs) S1
    | .str x => .ok (.chars x) S1
    | x => match seqAt S1 x with
      | some _ => .ok (.seq x) S1
      | none => match dtLen S1 x with
        | some (n, m) => .ok (.keys n m) S1
        | none => .no := by rw [evI] <;> rfl
@[simp] theorem evs_nil : evs Y .nil env S = .ok [] S := by simp only [evs]
@[simp] theorem evs_cons {e : E} {es : Es} : evs Y (.cons e es) env S = (ev Y e env S).bind fun x S1 => (evs Y es env S1).bind fun xs S2 => .ok (x :: xs) S2 := by simp only [evs]
@[simp] theorem evAnd_one {e : E} : evAnd Y (.cons e .nil) env S = ev Y e env S := by simp only [evAnd]
@[simp] theorem evAnd_cons {e e' : E} {es : Es} : evAnd Y (.cons e (.cons e' es)) env S = (ev Y e env S).bind fun x S1 => match truthD S1 x with
      | some true => evAnd Y (.cons e' es) env S1
      | some false => .ok x S1
      | none => .no := by rw [evAnd] <;> rfl
@[simp] theorem evOr_one {e : E} : evOr Y (.cons e .nil) env S = ev Y e env S := by simp only [evOr]
@[simp] theorem evOr_cons {e e' : E} {es : Es} : evOr Y (.cons e (.cons e' es)) env S = (ev Y e env S).bind fun x S1 => match truthD S1 x with
      | some true => .ok x S1
      | some false => evOr Y (.cons e' es) env S1
      | none => .no := by rw [evOr] <;> rfl
@[simp] theorem evI_rng1 {e : E} : evI Y (.rng1 e) env S = (ev Y e env S).bind fun x S1 => match x with
    | .int j => if -(2 ^ 62) ≤ j ∧ j < 2 ^ 62 then .ok (.rng 0 j.toNat) S1 else .no
    | _ => .no := by rw [evI] <;> rfl
@[simp] theorem exec_set {i : Nat} {e : E} : exec Y (.set i e) env S = (ev Y e env S).bind fun x S1 => .ok (.nx (env.set i (some x))) S1 := by simp only [exec]
@[simp] theorem exec_par {i j : Nat} {a b : E} : exec Y (.par i j a b) env S = (ev Y a env S).bind fun x S1 => (ev Y b env S1).bind fun y S2 => .ok (.nx ((env.set i (some x)).set j (some y))) S2 := by simp only [exec]
@[simp] theorem exec_ret {e : E} : exec Y (.ret e) env S = (ev Y e env S).bind fun x S1 => .ok (.rt x) S1 := by simp only [exec]
@[simp] theorem exec_retN : exec Y .retN env S = .ok (.rt .non) S := by simp only [exec]
@[simp] theorem exec_ex {e : E} : exec Y (.ex e) env S = (ev Y e env S).bind fun _ S1 => .ok (.nx env) S1 := by simp only [exec]
@[simp] theorem exec_if {c : E} {a b : Cs} : exec Y (.ifS c a b) env S = (evT Y c env S).bind fun t S1 => match t with
    | true => execs Y a env S1
    | false => execs Y b env S1 := by rw [exec] <;> rfl
theorem exec_for {tg : Tg} {it : I} {b : Cs} : exec Y (.forS tg it b) env S = (evI Y it env S).bind fun J S1 => forN (itNext J) (asg tg) (fun e s => execs Y b e s) (lim + 2) 0 env S1 := by simp only [exec]
@[simp] theorem execs_nil : execs Y .nil env S = .ok (.nx env) S := by simp only [execs]
@[simp] theorem execs_cons {c : C} {cs : Cs} : execs Y (.cons c cs) env S = (exec Y c env S).bind fun fl S1 => match fl with
    | .nx env1 => execs Y cs env1 S1
    | fl => .ok fl S1 := by rw [execs] <;> rfl
end
/-! the operations -/
section
variable {S : Sto}
theorem small_mod {a b : Int} (h0 : 0 < b) (h1 : b < 18446744073709551616) : small64 (a % b) = true := by
  have := Int.emod_nonneg a (Int.ne_of_gt h0)
  have := Int.emod_lt_of_pos a h0
  simp only [small64, decide_eq_true_eq]; omega
theorem small_lit {i : Int} (h0 : -18446744073709551616 < i) (h1 : i < 18446744073709551616) : small64 i = true := by
  simp only [small64, decide_eq_true_eq]; omega
@[simp] theorem binD_addI {i j : Int} : binD .Add (.int i) (.int j) S = .ok (.int (i + j)) S := rfl
@[simp] theorem binD_sub {i j : Int} : binD .Sub (.int i) (.int j) S = .ok (.int (i - j)) S := rfl
theorem binD_mulL {i j : Int} (h : small64 i = true) : binD .Mult (.int i) (.int j) S = .ok (.int (i * j)) S := by
  show (if (small64 i || small64 j || wide2 i j) = true then _ else _) = _
  rw [h, Bool.true_or, Bool.true_or, if_pos rfl]
theorem binD_mulR {i j : Int} (h : small64 j = true) : binD .Mult (.int i) (.int j) S = .ok (.int (i * j)) S := by
  show (if (small64 i || small64 j || wide2 i j) = true then _ else _) = _
  rw [h, Bool.or_true, Bool.true_or, if_pos rfl]
theorem binD_mod {i j : Int} (h : 0 < j) : binD .Mod (.int i) (.int j) S = .ok (.int (i % j)) S := if_pos h
theorem binD_fdiv {i j : Int} (h : 0 < j) (h1 : j < 18446744073709551616) : binD .FloorDiv (.int i) (.int j) S = .ok (.int (i / j)) S := if_pos ⟨h, h1⟩
theorem binD_mulW {i j : Int} (h : wide2 i j = true) : binD .Mult (.int i) (.int j) S = .ok (.int (i * j)) S := by
  show (if (small64 i || small64 j || wide2 i j) = true then _ else _) = _
  rw [h, Bool.or_true, if_pos rfl]
theorem binD_mulS {x : Str} {k : Int} (h : 0 ≤ k ∧ k ≤ 1000 ∧ x.length ≤ 1000) : binD .Mult (.str x) (.int k) S = .ok (.str (PySem.Txt.mul x k)) S := if_pos h
theorem binD_repE {xs : List D} {k : Int} : binD .Mult (.tup xs) (.int k) S = if k = 1 then .ok (.tup xs) S else if 1 ≤ xs.length ∧ 2 ≤ k ∧ k ≤ 1000 ∧ xs.length ≤ 1000 then .ok (.tup (List.replicate k.toNat xs).flatten) S else .no := rfl
theorem binD_repT1 {xs : List D} : binD .Mult (.tup xs) (.int 1) S = .ok (.tup xs) S := by rw [binD_repE, if_pos rfl]
theorem binD_repT {xs : List D} {k : Int} (h1 : 1 ≤ xs.length) (h2 : 2 ≤ k) (h3 : k ≤ 1000) (h4 : xs.length ≤ 1000) : binD .Mult (.tup xs) (.int k) S = .ok (.tup (List.replicate k.toNat xs).flatten) S := by
  rw [binD_repE, if_neg (by omega), if_pos ⟨h1, h2, h3, h4⟩]
@[simp] theorem binD_addR {m n : Nat} : binD .Add (.ref m) (.ref n) S = match lstAt S m, lstAt S n with
    | some xs, some ys => if xs.length + ys.length ≤ lim then new S (.lst (xs ++ ys)) else .no
    | _, _ => .no := rfl
@[simp] theorem binD_addT {xs ys : List D} : binD .Add (.tup xs) (.tup ys) S = if xs.length + ys.length ≤ lim then .ok (.tup (xs ++ ys)) S else .no := rfl
@[simp] theorem unD_int {i : Int} : unD .USub (.int i) S = .ok (.int (-i)) S := rfl
@[simp] theorem obl_some {b : Bool} : obl (some b) S = .ok (.bl b) S := rfl
@[simp] theorem obl_none : obl none S = .no := rfl
@[simp] theorem cmpD_eq {a b : D} : cmpD .Eq a b S = eqD S a b := rfl
@[simp] theorem cmpD_ne {a b : D} : cmpD .NotEq a b S = (eqD S a b).map (!·) := rfl
@[simp] theorem cmpD_in {a b : D} : cmpD .In a b S = inD S a b := rfl
@[simp] theorem cmpD_notin {a b : D} : cmpD .NotIn a b S = (inD S a b).map (!·) := rfl
@[simp] theorem cmpD_is {a : D} : cmpD .Is a .non S = some a.isNon := rfl
@[simp] theorem cmpD_isnot {a : D} : cmpD .IsNot a .non S = some (!a.isNon) := rfl
@[simp] theorem cmpD_lt {i j : Int} : cmpD .Lt (.int i) (.int j) S = some (decide (i < j)) := rfl
@[simp] theorem cmpD_le {i j : Int} : cmpD .LtE (.int i) (.int j) S = some (decide (i ≤ j)) := rfl
@[simp] theorem cmpD_gt {i j : Int} : cmpD .Gt (.int i) (.int j) S = some (decide (j < i)) := rfl
@[simp] theorem cmpD_ge {i j : Int} : cmpD .GtE (.int i) (.int j) S = some (decide (j ≤ i)) := rfl
@[simp] theorem inD_tup {a : D} {xs : List D} : inD S a (.tup xs) = anyEq S a xs := rfl
@[simp] theorem inD_rol {a : D} {xs : List D} : inD S a (.rol xs) = anyEq S a xs := rfl
@[simp] theorem inD_ref {a : D} {n : Nat} : inD S a (.ref n) = match S[n]? with
    | some (.lst xs) => anyEq S a xs
    | some (.dK kvs) => match a.key with
      | some k => some (kvs.any fun kv => decide (kv.1 = k))
      | none => none
    | some (.dT kvs) => match a.keyTB with
      | some k => some (kvs.any fun kv => decide (kv.1 = k))
      | none => none
    | _ => none := rfl
@[simp] theorem idxD_tup {xs : List D} {k : Int} : idxD (.tup xs) (.int k) S = oD (atI xs k) S := rfl
@[simp] theorem idxD_rol {xs : List D} {k : Int} : idxD (.rol xs) (.int k) S = oD (atI xs k) S := rfl
@[simp] theorem idxD_ref {n : Nat} {i : D} : idxD (.ref n) i S = match S[n]? with
    | some (.lst xs) => (match i with
      | .int k => oD (atI xs k) S
      | _ => .no)
    | some (.dK kvs) => (match i.key with
      | some k => oD (getK kvs k) S
      | none => .no)
    | some (.dT kvs) => (match i.keyTB with
      | some k => oD (getK kvs k) S
      | none => .no)
    | _ => .no := rfl
@[simp] theorem oD_some_ {d : D} : oD (some d) S = .ok d S := rfl
@[simp] theorem oD_none_ : oD none S = .no := rfl
@[simp] theorem new_eq {o : MO} : new S o = .ok (.ref S.length) (S ++ [o]) := rfl
@[simp] theorem slcD_tup {xs : List D} {lo hi : Option Int} : slcD (.tup xs) lo hi S = .ok (.tup (cutD xs lo hi)) S := rfl
@[simp] theorem slcD_str {z : Str} {lo hi : Option Int} : slcD (.str z) lo hi S = if z.length ≤ lim then .ok (.str (cutS z lo hi)) S else .no := rfl
@[simp] theorem slcD_rol {xs : List D} {lo hi : Option Int} : slcD (.rol xs) lo hi S = new S (.lst (cutD xs lo hi)) := rfl
@[simp] theorem cmpD_is_bl {a b : Bool} : cmpD .Is (.bl a) (.bl b) S = some (decide (a = b)) := rfl
@[simp] theorem cmpD_isnot_bl {a b : Bool} : cmpD .IsNot (.bl a) (.bl b) S = some (!decide (a = b)) := rfl
@[simp] theorem augD_add {i j : Int} : augD .Add (.int i) (.int j) S = .ok (.int (i + j)) S := rfl
@[simp] theorem augD_sub {i j : Int} : augD .Sub (.int i) (.int j) S = .ok (.int (i - j)) S := rfl
@[simp] theorem lstAt_last {xs : List D} : lstAt (S ++ [.lst xs]) S.length = some xs := by simp [lstAt]
@[simp] theorem evT_eq {Y : Fs} {e : E} {env : Env} : evT Y e env S = (ev Y e env S).bind fun x S1 => match truthD S1 x with
  | some b => .ok b S1
  | none => .no := rfl
@[simp] theorem truthD_non : truthD S .non = some false := rfl
@[simp] theorem truthD_bl {b : Bool} : truthD S (.bl b) = some b := rfl
@[simp] theorem truthD_int {i : Int} : truthD S (.int i) = some (i != 0) := rfl
@[simp] theorem truthD_tup {xs : List D} : truthD S (.tup xs) = some (!xs.isEmpty) := rfl
@[simp] theorem isNon_non : D.isNon .non = true := rfl
@[simp] theorem isNon_bl {b : Bool} : D.isNon (.bl b) = false := rfl
@[simp] theorem isNon_int {b : Int} : D.isNon (.int b) = false := rfl
@[simp] theorem isNon_str {b : Str} : D.isNon (.str b) = false := rfl
@[simp] theorem isNon_tup {b : List D} : D.isNon (.tup b) = false := rfl
@[simp] theorem isNon_ref {b : Nat} : D.isNon (.ref b) = false := rfl
theorem bi_len {d : D} {n : Nat} (h : lenD S d = some n) : biD .len [d] S = .ok (.int n) S := by simp only [biD, h]
@[simp] theorem bi_min {i j : Int} : biD .min2 [.int i, .int j] S = .ok (.int (if j < i then j else i)) S := rfl
@[simp] theorem bi_max {i j : Int} : biD .max2 [.int i, .int j] S = .ok (.int (if j > i then j else i)) S := rfl
@[simp] theorem lenD_rol {xs : List D} : lenD S (.rol xs) = some xs.length := rfl
@[simp] theorem lenD_tup {xs : List D} : lenD S (.tup xs) = some xs.length := rfl
@[simp] theorem lenD_ref {n : Nat} : lenD S (.ref n) = match S[n]? with
    | some (.lst xs) => some xs.length
    | _ => none := rfl
@[simp] theorem truthD_ref {n : Nat} : truthD S (.ref n) = match S[n]? with
    | some (.lst xs) => some (!xs.isEmpty)
    | some (.dK kvs) => some (!kvs.isEmpty)
    | _ => none := rfl
@[simp] theorem bmK_ref {m : BM} {n : Nat} : bmK m (.ref n) S = match S[n]? with
    | some (.lst _) => (match m with
      | .get1 => false
      | .get2 => false
      | .update => false
      | _ => true)
    | some (.dK _) => (match m with
      | .get1 => true
      | .get2 => true
      | .update => true
      | _ => false)
    | some (.dT _) => (match m with
      | .get2 => true
      | _ => false)
    | _ => false := rfl
@[simp] theorem bm_append {n : Nat} {d : D} : bmD .append (.ref n) [d] S = match S[n]? with
    | some (.lst xs) => if xs.length < lim then .ok .non (S.set n (.lst (xs ++ [d]))) else .no
    | _ => .no := by simp only [bmD]; split <;> simp_all
@[simp] theorem bm_clear {n : Nat} : bmD .clear (.ref n) [] S = match S[n]? with
    | some (.lst xs) => .ok .non (S.set n (.lst []))
    | _ => .no := by
  unfold bmD
  simp only
  cases S[n]? with
  | none => rfl
  | some o => cases o <;> rfl
@[simp] theorem bm_extT {n : Nat} {ys : List D} : bmD .extend (.ref n) [.tup ys] S = match S[n]? with
    | some (.lst xs) => if xs.length + ys.length ≤ lim then .ok .non (S.set n (.lst (xs ++ ys))) else .no
    | _ => .no := by
  unfold bmD
  simp only
  cases S[n]? with
  | none => rfl
  | some o => cases o <;> rfl
@[simp] theorem bm_extR {n k : Nat} : bmD .extend (.ref n) [.ref k] S = match S[n]? with
    | some (.lst xs) => (match lstAt S k with
        | some ys => if xs.length + ys.length ≤ lim then .ok .non (S.set n (.lst (xs ++ ys))) else .no
        | none => .no)
    | _ => .no := by
  unfold bmD
  simp only
  cases S[n]? with
  | none => rfl
  | some o => cases o <;> rfl
@[simp] theorem bm_pop {n : Nat} : bmD .pop (.ref n) [] S = match S[n]? with
    | some (.lst xs) => (match xs[xs.length - 1]? with
        | some d => .ok d (S.set n (.lst xs.dropLast))
        | none => .no)
    | _ => .no := by
  unfold bmD
  simp only
  cases S[n]? with
  | none => rfl
  | some o => cases o <;> rfl
@[simp] theorem bm_popAt {n : Nat} {i : Int} : bmD .popAt (.ref n) [.int i] S = match S[n]? with
    | some (.lst xs) => (match ixN xs.length i with
        | some k => (match xs[k]? with
          | some d => .ok d (S.set n (.lst (xs.eraseIdx k)))
          | none => .no)
        | none => .no)
    | _ => .no := by
  unfold bmD
  simp only
  cases S[n]? with
  | none => rfl
  | some o => cases o <;> rfl
theorem bm_get1 {n : Nat} {k : D} {kvs : List (Key × D)} {q : Key} (h : S[n]? = some (.dK kvs)) (hq : k.key = some q) : bmD .get1 (.ref n) [k] S = .ok ((getK kvs q).getD .non) S := by simp [bmD, h, getB, hq]
theorem bm_update {n k : Nat} {kvs more : List (Key × D)} (h : S[n]? = some (.dK kvs)) (h2 : S[k]? = some (.dK more)) (hne : n ≠ k) (hl : kvs.length + more.length ≤ lim) : bmD .update (.ref n) [.ref k] S = .ok .non (S.set n (.dK (mergeD kvs more))) := by
  simp [bmD, h, h2, hne, hl]
theorem bm_index {n : Nat} {d : D} : bmD .index (.ref n) [d] S = match S[n]? with
    | some (.lst xs) => (match toPy S 40 d, xs.mapM (toPy S 39) with
        | some y, some ys => (match ys.findIdx? fun z => PyData.eqv z y with
          | some j => .ok (.int (j : Nat)) S
          | none => .no)
        | _, _ => .no)
    | _ => .no := by
  unfold bmD
  simp only
  cases S[n]? with
  | none => rfl
  | some o => cases o <;> rfl
theorem atI_mem {α : Type} {xs : List α} {k : Int} (h0 : 0 ≤ k) (h1 : k < xs.length) : ∃ d, d ∈ xs ∧ atI xs k = some d := by
  have hk : k.toNat < xs.length := by omega
  refine ⟨xs[k.toNat], List.getElem_mem hk, ?_⟩
  have : ixN xs.length k = some k.toNat := by
    unfold ixN
    rw [if_pos h0, if_pos h1]
  simp [atI, this, hk]
end
theorem ofStr_inj {a b : String} : Str.ofString a = Str.ofString b ↔ a = b := by
  constructor
  · intro h
    rw [Str.ofString_eq_toList, Str.ofString_eq_toList] at h
    have h2 : a.toList.map Char.toNat = b.toList.map Char.toNat := by
      have := congrArg (fun s : Str => s.cps.toList) h
      simpa using this
    have h3 : a.toList = b.toList := by
      refine (List.map_inj_right ?_).mp h2
      intro x y e
      exact Char.toNat_inj.mp e
    rw [← String.toList_inj]; exact h3
  · intro h; rw [h]
@[simp] theorem ofStr_eq {a b : String} : (Str.ofString a = Str.ofString b) = (a = b) := propext ofStr_inj
@[simp] theorem ofStr_beq {a b : String} : (Str.ofString a == Str.ofString b) = decide (a = b) := by
  rw [Bool.eq_iff_iff, beq_iff_eq, decide_eq_true_eq, ofStr_inj]
@[simp] theorem strOk_of {a : String} : PyData.strOk (Str.ofString a) = true := by
  unfold PyData.strOk
  rw [Str.ofString_eq_toList]
  simp [Array.all_eq_true_iff_forall_mem]
  intro c hc
  have := c.valid
  unfold Char.toNat
  have h1 : c.val.toNat < 55296 ∨ 57343 < c.val.toNat ∧ c.val.toNat < 1114112 := this
  omega
theorem eqD_of {S : Sto} {a b : D} {x y : PyData} (h : toPy S 40 a = some x) (h' : toPy S 40 b = some y) : eqD S a b = some (PyData.eqv x y) := by simp only [eqD, h, h']
/-- it ends well, and so (an inductive, so that nobody runs it by unfolding) -/
inductive Out.Ok {α : Type} : Out α → (α → Sto → Prop) → Prop
  | mk {a : α} {S : Sto} {P : α → Sto → Prop} : P a S → Out.Ok (.ok a S) P
@[simp] theorem Ok_ok {α : Type} {a : α} {S : Sto} {P : α → Sto → Prop} : (Out.ok a S).Ok P = P a S := propext ⟨fun h => by cases h with | mk h => exact h, fun h => .mk h⟩
theorem Out.Ok.ex {α : Type} {o : Out α} {P : α → Sto → Prop} (h : o.Ok P) : ∃ a S, o = .ok a S ∧ P a S := by
  cases h with
  | mk h => exact ⟨_, _, rfl, h⟩
theorem fnN_succ (G : Gi) (n f : Nat) (ds : List D) (S : Sto) {fi : FI} (h : G.fns[f]? = some fi) : ∃ Y : Fs, Y.f = fnN G n ∧ Y.gv = G.gv ∧ (2 ≤ n → Y.ec = G.ec) ∧ fnN G (n + 1) f ds S = runF Y fi ds S := by
  cases n with
  | zero => exact ⟨⟨fun _ _ _ => .no, fun _ _ _ => .no, G.gv, fun _ => none⟩, by funext f ds S; rw [fnN], rfl, fun z => by omega, by simp only [fnN, h]⟩
  | succ n => exact ⟨⟨fnN G (n + 1), fnN G n, G.gv, ecAt G n⟩, rfl, rfl, fun z => by cases n with | zero => omega | succ n => rfl, by simp only [fnN, h]⟩
/-- a loop over a range that goes on at every step -/
theorem forN_rng {as : D → Env → Option Env} {body : Env → Sto → Out Fl} {lo : Int} {k : Nat} (P : Env → Prop)
    (step : ∀ i env S, P env → i < k → ∃ env1, as (.int (lo + i)) env = some env1 ∧ ∃ env2 S2, body env1 S = .ok (.nx env2) S2 ∧ P env2) :
    ∀ f i env S, P env → k - i < f → ∃ env' S', forN (itNext (.rng lo k)) as body f i env S = .ok (.nx env') S' ∧ P env'
  | 0, i, env, S, h, hf => absurd hf (Nat.not_lt_zero _)
  | f + 1, i, env, S, h, hf => by
    unfold forN
    by_cases hi : i < k
    · obtain ⟨env1, e1, env2, S2, e2, h2⟩ := step i env S h hi
      obtain ⟨env', S', e3, h3⟩ := forN_rng P step f (i + 1) env2 S2 h2 (by omega)
      exact ⟨env', S', by simp only [itNext, hi, if_true, e1, e2, bind_ok, e3], h3⟩
    · exact ⟨env, S, by simp only [itNext, hi, if_false], h⟩
end Mi

/-! Rules that go through a def's body statement by statement. -/
namespace Mi
open PySem L2
structure Kt where
  nx : Env → Sto → Prop
  rt : D → Sto → Prop
  bk : Env → Sto → Prop := fun _ _ => False
  ct : Env → Sto → Prop := fun _ _ => False
  xc : Nat → List (Nat × D) → Sto → Prop := fun _ _ _ => False
inductive Out.F : Out Fl → Kt → Prop
  | nx {e : Env} {S : Sto} {k : Kt} : k.nx e S → Out.F (.ok (.nx e) S) k
  | rt {d : D} {S : Sto} {k : Kt} : k.rt d S → Out.F (.ok (.rt d) S) k
  | bk {e : Env} {S : Sto} {k : Kt} : k.bk e S → Out.F (.ok (.bk e) S) k
  | ct {e : Env} {S : Sto} {k : Kt} : k.ct e S → Out.F (.ok (.ct e) S) k
  | xc {c : Nat} {fs : List (Nat × D)} {S : Sto} {k : Kt} : k.xc c fs S → Out.F (.exc c fs S) k
/-- an outcome, or an exception -/
inductive Out.X {α : Type} : Out α → (α → Sto → Prop) → (Nat → List (Nat × D) → Sto → Prop) → Prop
  | ok {a : α} {S : Sto} {P : α → Sto → Prop} {E : Nat → List (Nat × D) → Sto → Prop} : P a S → Out.X (.ok a S) P E
  | exc {c : Nat} {fs : List (Nat × D)} {S : Sto} {P : α → Sto → Prop} {E : Nat → List (Nat × D) → Sto → Prop} : E c fs S → Out.X (.exc c fs S) P E
@[simp] theorem X_ok {α : Type} {a : α} {S : Sto} {P : α → Sto → Prop} {E : Nat → List (Nat × D) → Sto → Prop} : (Out.ok a S).X P E = P a S := propext ⟨fun h => by cases h with | ok h => exact h, fun h => .ok h⟩
@[simp] theorem X_exc {α : Type} {c : Nat} {fs : List (Nat × D)} {S : Sto} {P : α → Sto → Prop} {E : Nat → List (Nat × D) → Sto → Prop} : (Out.exc c fs S : Out α).X P E = E c fs S := propext ⟨fun h => by cases h with | exc h => exact h, fun h => .exc h⟩
@[simp] theorem F_xc {c : Nat} {fs : List (Nat × D)} {S : Sto} {k : Kt} : (Out.exc c fs S).F k = k.xc c fs S := propext ⟨fun h => by cases h with | xc h => exact h, fun h => .xc h⟩
@[simp] theorem F_nx {e : Env} {S : Sto} {k : Kt} : (Out.ok (.nx e) S).F k = k.nx e S := propext ⟨fun h => by cases h with | nx h => exact h, fun h => .nx h⟩
@[simp] theorem F_rt {e : D} {S : Sto} {k : Kt} : (Out.ok (.rt e) S).F k = k.rt e S := propext ⟨fun h => by cases h with | rt h => exact h, fun h => .rt h⟩
@[simp] theorem F_bk {e : Env} {S : Sto} {k : Kt} : (Out.ok (.bk e) S).F k = k.bk e S := propext ⟨fun h => by cases h with | bk h => exact h, fun h => .bk h⟩
@[simp] theorem F_ct {e : Env} {S : Sto} {k : Kt} : (Out.ok (.ct e) S).F k = k.ct e S := propext ⟨fun h => by cases h with | ct h => exact h, fun h => .ct h⟩
theorem F_imp {o : Out Fl} {k k' : Kt} (h : o.F k) (h1 : ∀ e s, k.nx e s → k'.nx e s) (h2 : ∀ e s, k.rt e s → k'.rt e s) (h3 : ∀ e s, k.bk e s → k'.bk e s) (h4 : ∀ e s, k.ct e s → k'.ct e s) (h5 : ∀ c fs s, k.xc c fs s → k'.xc c fs s := by first | exact fun _ _ _ h => h | exact fun _ _ _ h => h.elim) : o.F k' := by
  cases h with
  | nx h => exact .nx (h1 _ _ h)
  | rt h => exact .rt (h2 _ _ h)
  | bk h => exact .bk (h3 _ _ h)
  | ct h => exact .ct (h4 _ _ h)
  | xc h => exact .xc (h5 _ _ _ h)
theorem Ok_imp {α : Type} {o : Out α} {P Q : α → Sto → Prop} (h : o.Ok P) (f : ∀ a S, P a S → Q a S) : o.Ok Q := by
  cases h with
  | mk h => exact .mk (f _ _ h)
theorem Ok_bind {α β : Type} {o : Out α} {f : α → Sto → Out β} {P : β → Sto → Prop} (h : o.Ok fun a S => (f a S).Ok P) : (o.bind f).Ok P := by
  cases h with
  | mk h => exact h
theorem F_bind {α : Type} {o : Out α} {f : α → Sto → Out Fl} {k : Kt} (h : o.Ok fun a S => (f a S).F k) : (o.bind f).F k := by
  cases h with
  | mk h => exact h
theorem F_seq {o : Out Fl} {f : Env → Sto → Out Fl} {k : Kt} (h : o.F { k with nx := fun e s => (f e s).F k }) : (o.bind fun fl S1 => match fl with
    | .nx env1 => f env1 S1
    | fl => .ok fl S1).F k := by
  cases h with
  | nx h => exact h
  | rt h => exact .rt h
  | bk h => exact .bk h
  | ct h => exact .ct h
  | xc h => exact .xc h
section
variable {Y : Fs} {env : Env} {S : Sto} {cs : Cs} {k : Kt}
theorem w_nil (h : k.nx env S) : (execs Y .nil env S).F k := by simp only [execs]; exact .nx h
theorem w_cons {c : C} (h : (exec Y c env S).F { k with nx := fun e s => (execs Y cs e s).F k }) : (execs Y (.cons c cs) env S).F k := by
  rw [execs]
  generalize exec Y c env S = o at h ⊢
  cases h with
  | nx h => exact h
  | rt h => exact .rt h
  | bk h => exact .bk h
  | ct h => exact .ct h
  | xc h => exact .xc h
theorem w_set {i : Nat} {e : E} {bb : Cs} (hb : bb = .cons (.set i e) cs) (h : (ev Y e env S).Ok fun d S1 => (execs Y cs (env.set i (some d)) S1).F k) : (execs Y bb env S).F k := by
  subst hb
  refine w_cons ?_
  rw [exec]
  exact F_bind (Ok_imp h fun _ _ q => .nx q)
theorem w_aug {i : Nat} {op : Operator} {e : E} {x : D} {bb : Cs} (hb : bb = .cons (.aug i op e) cs) (hx : env[i]? = some (some x)) (h : (ev Y e env S).Ok fun y S1 => (augD op x y S1).Ok fun z S2 => (execs Y cs (env.set i (some z)) S2).F k) : (execs Y bb env S).F k := by
  subst hb
  refine w_cons ?_
  rw [exec]
  simp only [hx]
  exact F_bind (Ok_imp h fun _ _ q => F_bind (Ok_imp q fun _ _ q => .nx q))
theorem w_setT {is : List Nat} {e : E} {bb : Cs} (hb : bb = .cons (.setT is e) cs) (h : (ev Y e env S).Ok fun d S1 => match asgS S1 is d env with
    | some env1 => (execs Y cs env1 S1).F k
    | none => False) : (execs Y bb env S).F k := by
  subst hb
  refine w_cons ?_
  rw [exec]
  refine F_bind (Ok_imp h fun d S1 q => ?_)
  cases he : asgS S1 is d env with
  | none => simp only [he] at q
  | some env1 => simp only [he] at q ⊢; exact .nx q
theorem w_par {i j : Nat} {a b : E} {bb : Cs} (hb : bb = .cons (.par i j a b) cs) (h : (ev Y a env S).Ok fun x S1 => (ev Y b env S1).Ok fun y S2 => (execs Y cs ((env.set i (some x)).set j (some y)) S2).F k) : (execs Y bb env S).F k := by
  subst hb
  refine w_cons ?_
  rw [exec]
  exact F_bind (Ok_imp h fun _ _ q => F_bind (Ok_imp q fun _ _ q => .nx q))
theorem w_setIx {o i e : E} {bb : Cs} (hb : bb = .cons (.setIx o i e) cs) (h : (ev Y e env S).Ok fun x S1 => (ev Y o env S1).Ok fun a S2 => (ev Y i env S2).Ok fun q S3 => match setD a q x S3 with
    | some S4 => (execs Y cs env S4).F k
    | none => False) : (execs Y bb env S).F k := by
  subst hb
  refine w_cons ?_
  rw [exec]
  refine F_bind (Ok_imp h fun x S1 q => F_bind (Ok_imp q fun a S2 q => F_bind (Ok_imp q fun d S3 q => ?_)))
  cases he : setD a d x S3 with
  | none => simp only [he] at q
  | some S4 => simp only [he] at q ⊢; exact .nx q
theorem w_ex {e : E} {bb : Cs} (hb : bb = .cons (.ex e) cs) (h : (ev Y e env S).Ok fun _ S1 => (execs Y cs env S1).F k) : (execs Y bb env S).F k := by
  subst hb
  refine w_cons ?_
  rw [exec]
  exact F_bind (Ok_imp h fun _ _ q => .nx q)
theorem w_ret {e : E} {bb : Cs} (hb : bb = .cons (.ret e) cs) (h : (ev Y e env S).Ok k.rt) : (execs Y bb env S).F k := by
  subst hb
  refine w_cons ?_
  rw [exec]
  exact F_bind (Ok_imp h fun _ _ q => .rt q)
theorem w_retN {bb : Cs} (hb : bb = .cons .retN cs) (h : k.rt .non S) : (execs Y bb env S).F k := by
  subst hb
  refine w_cons ?_
  rw [exec]
  exact .rt h
theorem w_pass {bb : Cs} (hb : bb = .cons .pass cs) (h : (execs Y cs env S).F k) : (execs Y bb env S).F k := by
  subst hb
  refine w_cons ?_
  rw [exec]
  exact .nx h
theorem w_doc {bb : Cs} (hb : bb = .cons .doc cs) (h : (execs Y cs env S).F k) : (execs Y bb env S).F k := by
  subst hb
  refine w_cons ?_
  rw [exec]
  exact .nx h
theorem w_brk {bb : Cs} (hb : bb = .cons .brk cs) (h : k.bk env S) : (execs Y bb env S).F k := by
  subst hb
  refine w_cons ?_
  rw [exec]
  exact .bk h
theorem w_cnt {bb : Cs} (hb : bb = .cons .cnt cs) (h : k.ct env S) : (execs Y bb env S).F k := by
  subst hb
  refine w_cons ?_
  rw [exec]
  exact .ct h
theorem w_if {c : E} {a b : Cs} {bb : Cs} (hb : bb = .cons (.ifS c a b) cs) (h : (ev Y c env S).Ok fun x S1 => match truthD S1 x with
    | some true => (execs Y a env S1).F { k with nx := fun e s => (execs Y cs e s).F k }
    | some false => (execs Y b env S1).F { k with nx := fun e s => (execs Y cs e s).F k }
    | none => False) : (execs Y bb env S).F k := by
  subst hb
  refine w_cons ?_
  rw [exec]
  refine F_bind ?_
  rw [evT_eq]
  refine Ok_bind (Ok_imp h fun x S1 q => ?_)
  generalize truthD S1 x = t at q ⊢
  match t, q with
  | some true, q => exact .mk q
  | some false, q => exact .mk q
  | none, q => exact q.elim
theorem w_for {tg : Tg} {it : I} {b : Cs} {bb : Cs} (hb : bb = .cons (.forS tg it b) cs) (h : (evI Y it env S).Ok fun J S1 => (forN (itNext J) (asg tg) (fun e s => execs Y b e s) (lim + 2) 0 env S1).F { k with nx := fun e s => (execs Y cs e s).F k }) : (execs Y bb env S).F k := by
  subst hb
  refine w_cons ?_
  rw [exec]
  exact F_bind h
theorem w_whl {c : E} {b : Cs} {bb : Cs} (hb : bb = .cons (.whl c b) cs) (h : (whlN (fun e s => evT Y c e s) (fun e s => execs Y b e s) (lim + 2) env S).F { k with nx := fun e s => (execs Y cs e s).F k }) : (execs Y bb env S).F k := by
  subst hb
  refine w_cons ?_
  rw [exec]
  exact h
/-! ### exceptions -/
theorem X_imp {α : Type} {o : Out α} {P Q : α → Sto → Prop} {E E' : Nat → List (Nat × D) → Sto → Prop} (h : o.X P E) (f : ∀ a S, P a S → Q a S) (g : ∀ c fs S, E c fs S → E' c fs S) : o.X Q E' := by
  cases h with
  | ok h => exact .ok (f _ _ h)
  | exc h => exact .exc (g _ _ _ h)
theorem X_of {α : Type} {o : Out α} {P : α → Sto → Prop} {E : Nat → List (Nat × D) → Sto → Prop} (h : o.Ok P) : o.X P E := by
  cases h with
  | mk h => exact .ok h
theorem X_bind {α β : Type} {o : Out α} {f : α → Sto → Out β} {P : β → Sto → Prop} {E : Nat → List (Nat × D) → Sto → Prop} (h : o.X (fun a S => (f a S).X P E) E) : (o.bind f).X P E := by
  cases h with
  | ok h => exact h
  | exc h => exact .exc h
theorem X_bindF {α : Type} {o : Out α} {f : α → Sto → Out Fl} {k : Kt} (h : o.X (fun a S => (f a S).F k) k.xc) : (o.bind f).F k := by
  cases h with
  | ok h => exact h
  | exc h => exact .xc h
theorem w_setX {i : Nat} {e : E} {bb : Cs} (hb : bb = .cons (.set i e) cs) (h : (ev Y e env S).X (fun d S1 => (execs Y cs (env.set i (some d)) S1).F k) k.xc) : (execs Y bb env S).F k := by
  subst hb
  refine w_cons ?_
  rw [exec]
  exact X_bindF (X_imp h (fun _ _ q => .nx q) fun _ _ _ q => q)
theorem w_retX {e : E} {bb : Cs} (hb : bb = .cons (.ret e) cs) (h : (ev Y e env S).X k.rt k.xc) : (execs Y bb env S).F k := by
  subst hb
  refine w_cons ?_
  rw [exec]
  exact X_bindF (X_imp h (fun _ _ q => .rt q) fun _ _ _ q => q)
theorem w_exX {e : E} {bb : Cs} (hb : bb = .cons (.ex e) cs) (h : (ev Y e env S).X (fun _ S1 => (execs Y cs env S1).F k) k.xc) : (execs Y bb env S).F k := by
  subst hb
  refine w_cons ?_
  rw [exec]
  exact X_bindF (X_imp h (fun _ _ q => .nx q) fun _ _ _ q => q)
theorem w_rai {c : Nat} {es : Es} {bb : Cs} {q : EC} (hb : bb = .cons (.rai c es) cs) (hq : Y.ec c = some q) (h : (evs Y es env S).X (fun ds S1 => ds.length = q.np ∧ k.xc c (q.fs.map fun p => (p.1, (ds[p.2]?).getD .non)) S1) k.xc) : (execs Y bb env S).F k := by
  subst hb
  refine w_cons ?_
  rw [exec, hq]
  refine X_bindF (X_imp h (fun ds S1 z => ?_) fun _ _ _ z => z)
  rw [if_pos z.1]
  exact .xc z.2
/-- what a clause does with an exception -/
def Caught (Y : Fs) (c j : Nat) (s cs : Cs) (env : Env) (k : Kt) (c' : Nat) (fs : List (Nat × D)) (S1 : Sto) : Prop := ∃ q, Y.ec c' = some q ∧ (q.sup.contains c = true → fs.map (·.1) = q.fs.map (·.1) ∧ (execs Y s (env.set j (some (.ref S1.length))) (S1 ++ [.exn c' q.sup fs])).F ⟨fun e S2 => (execs Y cs (e.set j none) S2).F k, k.rt, fun e S2 => k.bk (e.set j none) S2, fun e S2 => k.ct (e.set j none) S2, fun _ _ _ => False⟩) ∧ (q.sup.contains c = false → k.xc c' fs S1)
theorem w_try {b : C} {c j : Nat} {s : Cs} {bb : Cs} (hb : bb = .cons (.tryS b c j s) cs) (h : (exec Y b env S).F ⟨fun e S1 => (execs Y cs e S1).F k, k.rt, k.bk, k.ct, Caught Y c j s cs env k⟩) : (execs Y bb env S).F k := by
  subst hb
  refine w_cons ?_
  rw [exec]
  generalize exec Y b env S = o at h ⊢
  cases h with
  | nx h => exact .nx h
  | rt h => exact .rt h
  | bk h => exact .bk h
  | ct h => exact .ct h
  | xc h =>
    obtain ⟨q, hq, h1, h2⟩ := h
    simp only [hq]
    cases hc : q.sup.contains _ with
    | false => simp only [Bool.false_eq_true, if_false]; exact .xc (h2 hc)
    | true =>
      obtain ⟨h3, h4⟩ := h1 hc
      simp only [if_true, h3]
      generalize execs Y s _ _ = o2 at h4 ⊢
      cases h4 with
      | nx z => exact .nx z
      | rt z => exact .rt z
      | bk z => exact .bk z
      | ct z => exact .ct z
      | xc z => exact z.elim
theorem x_ex {e : E} (h : (ev Y e env S).X (fun _ S1 => k.nx env S1) k.xc) : (exec Y (.ex e) env S).F k := by
  rw [exec]
  exact X_bindF (X_imp h (fun _ _ q => .nx q) fun _ _ _ q => q)
theorem x_set {i : Nat} {e : E} (h : (ev Y e env S).X (fun d S1 => k.nx (env.set i (some d)) S1) k.xc) : (exec Y (.set i e) env S).F k := by
  rw [exec]
  exact X_bindF (X_imp h (fun _ _ q => .nx q) fun _ _ _ q => q)
end
theorem run_ok {G : Gi} {n f : Nat} {ds : List D} {S : Sto} {P : D → Sto → Prop} (fi : FI) (hi : G.fns[f]? = some fi) (hl : (decide (ds.length = fi.ps.length)) = true)
    (h : ∀ Y : Fs, Y.f = fnN G n → Y.gv = G.gv → (execs Y fi.b (ds.map some ++ List.replicate (fi.N.length - ds.length) none) S).F ⟨fun _ S => P .non S, P, fun _ _ => False, fun _ _ => False, fun _ _ _ => False⟩) : (fnN G (n + 1) f ds S).Ok P := by
  obtain ⟨Y, hf, hg, _, e⟩ := fnN_succ G n f ds S hi
  rw [e]
  unfold runF
  rw [if_pos (of_decide_eq_true hl)]
  have q := h Y hf hg
  refine Ok_bind ?_
  generalize execs Y fi.b (ds.map some ++ List.replicate (fi.N.length - ds.length) none) S = o at q ⊢
  cases q with
  | nx q => exact .mk (.mk q)
  | rt q => exact .mk (.mk q)
  | bk q => exact q.elim
  | ct q => exact q.elim
  | xc q => exact q.elim
/-- a def that may raise -/
theorem run_okX {G : Gi} {n f : Nat} {ds : List D} {S : Sto} {P : D → Sto → Prop} {E : Nat → List (Nat × D) → Sto → Prop} {F : Nat → List D → Sto → Out D} (hF : fnN G (n + 3) = F) (fi : FI) (hi : G.fns[f]? = some fi) (hl : (decide (ds.length = fi.ps.length)) = true)
    (h : ∀ Y : Fs, Y.f = fnN G (n + 2) → Y.gv = G.gv → Y.ec = G.ec → (execs Y fi.b (ds.map some ++ List.replicate (fi.N.length - ds.length) none) S).F ⟨fun _ S => P .non S, P, fun _ _ => False, fun _ _ => False, E⟩) : (F f ds S).X P E := by
  subst hF
  obtain ⟨Y, hf, hg, he, e⟩ := fnN_succ G (n + 2) f ds S hi
  rw [e]
  unfold runF
  rw [if_pos (of_decide_eq_true hl)]
  have q := h Y hf hg (he (by omega))
  refine X_bind ?_
  generalize execs Y fi.b (ds.map some ++ List.replicate (fi.N.length - ds.length) none) S = o at q ⊢
  cases q with
  | nx q => exact .ok (.ok q)
  | rt q => exact .ok (.ok q)
  | bk q => exact q.elim
  | ct q => exact q.elim
  | xc q => exact .exc q

/-! comparing data -/
@[simp] theorem q_none_none : PyData.eqv .none .none = true := by simp only [PyData.eqv]
@[simp] theorem q_none_bool {y : Bool} : PyData.eqv .none (.bool y) = false := by simp only [PyData.eqv]
@[simp] theorem q_none_int {y : Int} : PyData.eqv .none (.int y) = false := by simp only [PyData.eqv]
@[simp] theorem q_none_str {y : Str} : PyData.eqv .none (.str y) = false := by simp only [PyData.eqv]
@[simp] theorem q_none_list {y : List PyData} : PyData.eqv .none (.list y) = false := by simp only [PyData.eqv]
@[simp] theorem q_none_tuple {y : List PyData} : PyData.eqv .none (.tuple y) = false := by simp only [PyData.eqv]
@[simp] theorem q_bool_none {x : Bool} : PyData.eqv (.bool x) .none = false := by simp only [PyData.eqv]
@[simp] theorem q_bool_bool {x : Bool} {y : Bool} : PyData.eqv (.bool x) (.bool y) = (x == y) := by simp only [PyData.eqv]
@[simp] theorem q_bool_int {x : Bool} {y : Int} : PyData.eqv (.bool x) (.int y) = ((if x = true then (1 : Int) else 0) == y) := by simp only [PyData.eqv]
@[simp] theorem q_bool_str {x : Bool} {y : Str} : PyData.eqv (.bool x) (.str y) = false := by simp only [PyData.eqv]
@[simp] theorem q_bool_list {x : Bool} {y : List PyData} : PyData.eqv (.bool x) (.list y) = false := by simp only [PyData.eqv]
@[simp] theorem q_bool_tuple {x : Bool} {y : List PyData} : PyData.eqv (.bool x) (.tuple y) = false := by simp only [PyData.eqv]
@[simp] theorem q_int_none {x : Int} : PyData.eqv (.int x) .none = false := by simp only [PyData.eqv]
@[simp] theorem q_int_bool {x : Int} {y : Bool} : PyData.eqv (.int x) (.bool y) = (x == (if y = true then (1 : Int) else 0)) := by simp only [PyData.eqv]
@[simp] theorem q_int_int {x : Int} {y : Int} : PyData.eqv (.int x) (.int y) = (x == y) := by simp only [PyData.eqv]
@[simp] theorem q_int_str {x : Int} {y : Str} : PyData.eqv (.int x) (.str y) = false := by simp only [PyData.eqv]
@[simp] theorem q_int_list {x : Int} {y : List PyData} : PyData.eqv (.int x) (.list y) = false := by simp only [PyData.eqv]
@[simp] theorem q_int_tuple {x : Int} {y : List PyData} : PyData.eqv (.int x) (.tuple y) = false := by simp only [PyData.eqv]
@[simp] theorem q_str_none {x : Str} : PyData.eqv (.str x) .none = false := by simp only [PyData.eqv]
@[simp] theorem q_str_bool {x : Str} {y : Bool} : PyData.eqv (.str x) (.bool y) = false := by simp only [PyData.eqv]
@[simp] theorem q_str_int {x : Str} {y : Int} : PyData.eqv (.str x) (.int y) = false := by simp only [PyData.eqv]
@[simp] theorem q_str_str {x : Str} {y : Str} : PyData.eqv (.str x) (.str y) = (x == y) := by simp only [PyData.eqv]
@[simp] theorem q_str_list {x : Str} {y : List PyData} : PyData.eqv (.str x) (.list y) = false := by simp only [PyData.eqv]
@[simp] theorem q_str_tuple {x : Str} {y : List PyData} : PyData.eqv (.str x) (.tuple y) = false := by simp only [PyData.eqv]
@[simp] theorem q_list_none {x : List PyData} : PyData.eqv (.list x) .none = false := by simp only [PyData.eqv]
@[simp] theorem q_list_bool {x : List PyData} {y : Bool} : PyData.eqv (.list x) (.bool y) = false := by simp only [PyData.eqv]
@[simp] theorem q_list_int {x : List PyData} {y : Int} : PyData.eqv (.list x) (.int y) = false := by simp only [PyData.eqv]
@[simp] theorem q_list_str {x : List PyData} {y : Str} : PyData.eqv (.list x) (.str y) = false := by simp only [PyData.eqv]
@[simp] theorem q_list_list {x : List PyData} {y : List PyData} : PyData.eqv (.list x) (.list y) = PyData.eqvAll x y := by simp only [PyData.eqv]
@[simp] theorem q_list_tuple {x : List PyData} {y : List PyData} : PyData.eqv (.list x) (.tuple y) = false := by simp only [PyData.eqv]
@[simp] theorem q_tuple_none {x : List PyData} : PyData.eqv (.tuple x) .none = false := by simp only [PyData.eqv]
@[simp] theorem q_tuple_bool {x : List PyData} {y : Bool} : PyData.eqv (.tuple x) (.bool y) = false := by simp only [PyData.eqv]
@[simp] theorem q_tuple_int {x : List PyData} {y : Int} : PyData.eqv (.tuple x) (.int y) = false := by simp only [PyData.eqv]
@[simp] theorem q_tuple_str {x : List PyData} {y : Str} : PyData.eqv (.tuple x) (.str y) = false := by simp only [PyData.eqv]
@[simp] theorem q_tuple_list {x : List PyData} {y : List PyData} : PyData.eqv (.tuple x) (.list y) = false := by simp only [PyData.eqv]
@[simp] theorem q_tuple_tuple {x : List PyData} {y : List PyData} : PyData.eqv (.tuple x) (.tuple y) = PyData.eqvAll x y := by simp only [PyData.eqv]
@[simp] theorem qA_nil : PyData.eqvAll [] [] = true := by simp only [PyData.eqvAll]
@[simp] theorem qA_cons {x y : PyData} {xs ys : List PyData} : PyData.eqvAll (x :: xs) (y :: ys) = (PyData.eqv x y && PyData.eqvAll xs ys) := by simp only [PyData.eqvAll]
@[simp] theorem qA_nc {y : PyData} {ys : List PyData} : PyData.eqvAll [] (y :: ys) = false := by simp only [PyData.eqvAll]
@[simp] theorem qA_cn {y : PyData} {ys : List PyData} : PyData.eqvAll (y :: ys) [] = false := by simp only [PyData.eqvAll]
/-- only new things stand behind -/
def Ext (S S' : Sto) : Prop := ∃ T, S' = S ++ T
@[simp] theorem Ext_refl (S : Sto) : Ext S S := ⟨[], by simp⟩
@[simp] theorem Ext_app (S T : Sto) : Ext S (S ++ T) := ⟨T, rfl⟩
theorem Ext.trans {S S1 S2 : Sto} (a : Ext S S1) (b : Ext S1 S2) : Ext S S2 := by
  obtain ⟨T, rfl⟩ := a
  obtain ⟨U, rfl⟩ := b
  exact ⟨T ++ U, by simp⟩
theorem Ext.at {S S' : Sto} (h : Ext S S') {n : Nat} {o : MO} (e : S[n]? = some o) : S'[n]? = some o := by
  obtain ⟨T, rfl⟩ := h
  rw [List.getElem?_append_left (List.getElem?_eq_some_iff.mp e).1]
  exact e
/-- loops -/
theorem forN_inv {nx : Nat → Sto → Option (Option D)} {as : D → Env → Option Env} {body : Env → Sto → Out Fl} {k : Kt} (Inv : Nat → Env → Sto → Prop) (m : Nat) (el : Nat → D)
    (hn : ∀ i env S, Inv i env S → i < m → nx i S = some (some (el i))) (he : ∀ env S, Inv m env S → nx m S = some none)
    (hs : ∀ i env S, Inv i env S → i < m → ∃ env1, as (el i) env = some env1 ∧ (body env1 S).F ⟨Inv (i + 1), k.rt, k.nx, Inv (i + 1), k.xc⟩)
    (hf : ∀ env S, Inv m env S → k.nx env S) : ∀ f i env S, Inv i env S → i ≤ m → m - i < f → (forN nx as body f i env S).F k
  | 0, i, env, S, h, hi, q => absurd q (Nat.not_lt_zero _)
  | f + 1, i, env, S, h, hi, q => by
    unfold forN
    by_cases hlt : i < m
    · obtain ⟨env1, e1, hb⟩ := hs i env S h hlt
      rw [hn i env S h hlt]
      simp only [e1]
      generalize body env1 S = o at hb ⊢
      cases hb with
      | nx hb => exact forN_inv Inv m el hn he hs hf f (i + 1) _ _ hb hlt (by omega)
      | ct hb => exact forN_inv Inv m el hn he hs hf f (i + 1) _ _ hb hlt (by omega)
      | bk hb => exact .nx hb
      | rt hb => exact .rt hb
      | xc hb => exact .xc hb
    · have : i = m := Nat.le_antisymm hi (Nat.not_lt.mp hlt)
      subst this
      rw [he env S h]
      exact .nx (hf env S h)
theorem compN_inv {nx : Nat → Sto → Option (Option D)} {as : D → Env → Option Env} {tt : Env → Sto → Out Bool} {elt : Env → Sto → Out D} {env : Env} {P : List D → Sto → Prop} (Inv : Nat → List D → Sto → Prop) (m : Nat) (el : Nat → D) (hm : m ≤ lim)
    (hn : ∀ i acc S, Inv i acc S → i < m → nx i S = some (some (el i))) (he : ∀ acc S, Inv m acc S → nx m S = some none)
    (hs : ∀ i acc S, Inv i acc S → i < m → ∃ env1, as (el i) env = some env1 ∧ (tt env1 S).Ok fun b S1 => match b with
      | false => Inv (i + 1) acc S1
      | true => (elt env1 S1).Ok fun y S2 => Inv (i + 1) (acc ++ [y]) S2)
    (hf : ∀ acc S, Inv m acc S → P acc S) : ∀ f i acc S, Inv i acc S → acc.length ≤ i → i ≤ m → m - i < f → (compN nx as tt elt env f i acc S).Ok P
  | 0, i, acc, S, h, ha, hi, q => absurd q (Nat.not_lt_zero _)
  | f + 1, i, acc, S, h, ha, hi, q => by
    unfold compN
    by_cases hlt : i < m
    · obtain ⟨env1, e1, hb⟩ := hs i acc S h hlt
      rw [hn i acc S h hlt]
      simp only [e1]
      generalize tt env1 S = o at hb ⊢
      cases hb with
      | @mk b S1 _ hb =>
        cases b with
        | false => exact compN_inv Inv m el hm hn he hs hf f (i + 1) acc S1 hb (by omega) hlt (by omega)
        | true =>
          have hb : (elt env1 S1).Ok fun y S2 => Inv (i + 1) (acc ++ [y]) S2 := hb
          show ((elt env1 S1).bind fun y S2 => if acc.length < lim then compN nx as tt elt env f (i + 1) (acc ++ [y]) S2 else .no).Ok P
          generalize elt env1 S1 = o2 at hb ⊢
          cases hb with
          | @mk y S2 _ hb =>
            show (if acc.length < lim then _ else _ : Out (List D)).Ok P
            rw [if_pos (by omega)]
            exact compN_inv Inv m el hm hn he hs hf f (i + 1) (acc ++ [y]) S2 hb (by rw [List.length_append, List.length_singleton]; omega) hlt (by omega)
    · have : i = m := Nat.le_antisymm hi (Nat.not_lt.mp hlt)
      subst this
      rw [he acc S h]
      exact .mk (hf acc S h)
theorem whlN_inv {c : Env → Sto → Out Bool} {body : Env → Sto → Out Fl} {k : Kt} (Inv : Nat → Env → Sto → Prop)
    (hs : ∀ m env S, Inv m env S → (c env S).Ok fun b S1 => match b with
      | false => k.nx env S1
      | true => (body env S1).F ⟨fun e s => ∃ m', m' < m ∧ Inv m' e s, k.rt, k.nx, fun e s => ∃ m', m' < m ∧ Inv m' e s, k.xc⟩) : ∀ f m env S, Inv m env S → m < f → (whlN c body f env S).F k
  | 0, m, env, S, h, q => absurd q (Nat.not_lt_zero _)
  | f + 1, m, env, S, h, q => by
    unfold whlN
    have hb := hs m env S h
    generalize c env S = o at hb ⊢
    cases hb with
    | @mk b S1 _ hb =>
      cases b with
      | false => exact .nx hb
      | true =>
        have hb : (body env S1).F ⟨fun e s => ∃ m', m' < m ∧ Inv m' e s, k.rt, k.nx, fun e s => ∃ m', m' < m ∧ Inv m' e s, k.xc⟩ := hb
        show ((body env S1).bind fun fl S2 => match fl with
          | .nx env2 => whlN c body f env2 S2
          | .ct env2 => whlN c body f env2 S2
          | .bk env2 => .ok (.nx env2) S2
          | .rt d => .ok (.rt d) S2).F k
        generalize body env S1 = o2 at hb ⊢
        cases hb with
        | nx hb =>
          obtain ⟨m', hm, hi⟩ := hb
          exact whlN_inv Inv hs f m' _ _ hi (by omega)
        | ct hb =>
          obtain ⟨m', hm, hi⟩ := hb
          exact whlN_inv Inv hs f m' _ _ hi (by omega)
        | bk hb => exact .nx hb
        | rt hb => exact .rt hb
        | xc hb => exact .xc hb
theorem evI_head {Y : Fs} {env : Env} {S : Sto} {i : Nat} {a b : Int} (A B : Nat) {xs : List D} (h : env[i]? = some (some (.rol xs))) (ha : a = A) (hb : b = B) (hA : A ≤ 1000000) (hB : B ≤ 1000000) :
    evI Y (.rng1 (.bi .max2 (.cons (.con (.int a)) (.cons (.bi .min2 (.cons (.bi .len (.cons (.var i) .nil)) (.cons (.con (.int b)) .nil))) .nil)))) env S = .ok (.rng 0 (max A (min xs.length B))) S := by
  subst ha hb
  rw [evI_rng1]
  have e : (if (1 : Int) * (if (B : Int) < (xs.length : Int) then (B : Int) else (xs.length : Int)) > (A : Int) then (if (B : Int) < (xs.length : Int) then (B : Int) else (xs.length : Int)) else (A : Int)) = ((max A (min xs.length B) : Nat) : Int) := by
    rw [Int.one_mul]
    split <;> split <;> omega
  rw [Int.one_mul] at e
  simp only [ev_bi, evs_cons, ev_con, bind_ok, ev_var h, evs_nil, bi_len lenD_rol, bi_min, bi_max]
  rw [e, if_pos (by omega)]
  rfl
theorem call_ok {Y : Fs} {env : Env} {S : Sto} {f : Nat} {es : Es} {P : D → Sto → Prop} (h : (evs Y es env S).Ok fun ds S1 => (Y.f f ds S1).Ok P) : (ev Y (.call f es) env S).Ok P := by
  rw [ev_call]
  exact Ok_bind h
theorem for_rng {lo : Int} {m j : Nat} {body : Env → Sto → Out Fl} {k : Kt} {env : Env} {S : Sto} (Inv : Nat → Env → Sto → Prop) (hm : m ≤ lim) (h0 : Inv 0 env S)
    (hs : ∀ i env S, Inv i env S → i < m → (body (env.set j (some (.int (lo + i)))) S).F ⟨Inv (i + 1), k.rt, k.nx, Inv (i + 1), k.xc⟩)
    (hf : ∀ env S, Inv m env S → k.nx env S) : (forN (itNext (.rng lo m)) (asg (.nm j)) body (lim + 2) 0 env S).F k := by
  refine forN_inv Inv m (fun i => .int (lo + (i : Int))) ?_ ?_ ?_ hf (lim + 2) 0 env S h0 (Nat.zero_le _) (by omega)
  · intro i e S hI hi
    simp only [itNext, if_pos hi]
  · intro e S hI
    simp only [itNext, if_neg (Nat.lt_irrefl _)]
  · intro i e S hI hi
    exact ⟨_, rfl, hs i e S hI hi⟩
theorem set_last {S : Sto} {a b : MO} : (S ++ [a]).set S.length b = S ++ [b] := by simp
/-- a loop over a tuple -/
theorem for_tup {xs : List D} {tg : Tg} {body : Env → Sto → Out Fl} {k : Kt} {env : Env} {S : Sto} (Inv : Nat → Env → Sto → Prop) (hm : xs.length ≤ lim) (h0 : Inv 0 env S)
    (hs : ∀ i (h : i < xs.length) env S, Inv i env S → ∃ env1, asg tg xs[i] env = some env1 ∧ (body env1 S).F ⟨Inv (i + 1), k.rt, k.nx, Inv (i + 1), k.xc⟩)
    (hf : ∀ env S, Inv xs.length env S → k.nx env S) : (forN (itNext (.tup xs)) (asg tg) body (lim + 2) 0 env S).F k := by
  refine forN_inv Inv xs.length (fun i => xs[i]?.getD .non) ?_ ?_ ?_ hf (lim + 2) 0 env S h0 (Nat.zero_le _) (by omega)
  · intro i e S hI hi
    simp [itNext, hi]
  · intro e S hI
    simp [itNext]
  · intro i e S hI hi
    obtain ⟨env1, e1, h⟩ := hs i hi e S hI
    exact ⟨env1, by simp [hi, e1], h⟩
/-- a loop over a list that nobody writes meanwhile -/
theorem for_lst {xs : List D} {r : Nat} {tg : Tg} {body : Env → Sto → Out Fl} {k : Kt} {env : Env} {S : Sto} (Inv : Nat → Env → Sto → Prop) (hm : xs.length ≤ lim) (h0 : Inv 0 env S)
    (hr : ∀ i env S, Inv i env S → S[r]? = some (.lst xs))
    (hs : ∀ i (h : i < xs.length) env S, Inv i env S → ∃ env1, asg tg xs[i] env = some env1 ∧ (body env1 S).F ⟨Inv (i + 1), k.rt, k.nx, Inv (i + 1), k.xc⟩)
    (hf : ∀ env S, Inv xs.length env S → k.nx env S) : (forN (itNext (.seq (.ref r))) (asg tg) body (lim + 2) 0 env S).F k := by
  refine forN_inv Inv xs.length (fun i => xs[i]?.getD .non) ?_ ?_ ?_ hf (lim + 2) 0 env S h0 (Nat.zero_le _) (by omega)
  · intro i e S hI hi
    simp [itNext, seqAt, lstAt, hr i e S hI, hi]
  · intro e S hI
    simp [itNext, seqAt, lstAt, hr _ e S hI]
  · intro i e S hI hi
    obtain ⟨env1, e1, h⟩ := hs i hi e S hI
    exact ⟨env1, by simp [hi, e1], h⟩
/-- a comprehension that changes nothing -/
theorem comp_go {xs : List D} {nx : Nat → Sto → Option (Option D)} {as : D → Env → Option Env} {tt : Env → Sto → Out Bool} {elt : Env → Sto → Out D} {env : Env} {S : Sto} {en : D → Env} {p : D → Bool} {g : D → D} (hm : xs.length ≤ lim)
    (hn : ∀ i, nx i S = some xs[i]?) (ha : ∀ x ∈ xs, as x env = some (en x)) (ht : ∀ x ∈ xs, tt (en x) S = .ok (p x) S) (he : ∀ x ∈ xs, p x = true → elt (en x) S = .ok (g x) S) :
    ∀ f i acc, acc.length ≤ i → i ≤ xs.length → xs.length - i < f → compN nx as tt elt env f i acc S = .ok (acc ++ ((xs.drop i).filter p).map g) S
  | 0, i, acc, h1, h2, h3 => absurd h3 (Nat.not_lt_zero _)
  | f + 1, i, acc, h1, h2, h3 => by
    unfold compN
    rw [hn]
    by_cases hi : i < xs.length
    · have hx : xs[i] ∈ xs := List.getElem_mem hi
      rw [List.getElem?_eq_getElem hi, List.drop_eq_getElem_cons hi]
      simp only [ha _ hx, ht _ hx, bind_ok]
      cases hp : p xs[i] with
      | false =>
        simp only
        rw [comp_go hm hn ha ht he f (i + 1) acc (by omega) hi (by omega), List.filter_cons_of_neg (by rw [hp]; exact Bool.false_ne_true)]
      | true =>
        simp only [he _ hx hp, bind_ok]
        rw [if_pos (by omega), comp_go hm hn ha ht he f (i + 1) _ (by rw [List.length_append, List.length_singleton]; omega) hi (by omega), List.filter_cons_of_pos hp]
        simp
    · have e : xs[i]? = none := by simp; omega
      rw [e]
      have e2 : xs.drop i = [] := by simp; omega
      simp [e2]
theorem comp_pure {xs : List D} {nx : Nat → Sto → Option (Option D)} {as : D → Env → Option Env} {tt : Env → Sto → Out Bool} {elt : Env → Sto → Out D} {env : Env} {S : Sto} (en : D → Env) (p : D → Bool) (g : D → D) (hm : xs.length ≤ lim)
    (hn : ∀ i, nx i S = some xs[i]?) (ha : ∀ x ∈ xs, as x env = some (en x)) (ht : ∀ x ∈ xs, tt (en x) S = .ok (p x) S) (he : ∀ x ∈ xs, p x = true → elt (en x) S = .ok (g x) S) :
    compN nx as tt elt env (lim + 2) 0 [] S = .ok ((xs.filter p).map g) S := by
  have q := comp_go hm hn ha ht he (lim + 2) 0 [] (Nat.le_refl _) (Nat.zero_le _) (by omega)
  simpa using q
/-- the same, with the level's name hidden (else Lean may run the def while it looks at the goal) -/
theorem run_okF {G : Gi} {n f : Nat} {ds : List D} {S : Sto} {P : D → Sto → Prop} {F : Nat → List D → Sto → Out D} (hF : fnN G (n + 1) = F) (fi : FI) (hi : G.fns[f]? = some fi) (hl : (decide (ds.length = fi.ps.length)) = true)
    (h : ∀ Y : Fs, Y.f = fnN G n → Y.gv = G.gv → (execs Y fi.b (ds.map some ++ List.replicate (fi.N.length - ds.length) none) S).F ⟨fun _ S => P .non S, P, fun _ _ => False, fun _ _ => False, fun _ _ _ => False⟩) : (F f ds S).Ok P := by
  subst hF
  exact run_ok fi hi hl h
end Mi

namespace My
open PySem L2 Mi
def stm (i : Nat) : Stmt := PySem.Challenge.pw_eachstepsame_k65_moves_one_by_one.main.body.getD i (.Pass ⟨0, 0, 0, 0⟩)
def f0_0 : Cs := (.cons (.ret (.var 5)) .nil)
def f0_1 : Cs := (.cons (.set 2 (.comp [("place", 3), ("source", 4)] (.tup [3, 4]) (.val (.var 2)) .nil (.tup (.cons (.var 3) (.cons (.idx (.lst (.cons (.var 4) (.cons (.var 1) .nil))) (.bi .int1 (.cons (.cmp .Eq (.var 4) (.var 9)) .nil))) .nil))))) .nil)
def f0_2 : Cs := (.cons (.ex (.bm .append (.var 5) (.cons (.tup (.cons (.con (.str "move")) (.cons (.var 1) (.cons (.var 9) .nil)))) .nil))) f0_1)
def f0_3 : Cs := (.cons (.set 9 (.idx (.idx (.var 2) (.con (.int (0)))) (.con (.int (0))))) f0_2)
def f0_4 : Cs := (.cons (.ifS (.cmp .Eq (.var 7) (.lst .nil)) f0_3 .nil) .nil)
def f0_5 : Cs := (.cons (.set 2 (.comp [("one", 8)] (.nm 8) (.val (.var 2)) (.cons (.cmp .NotIn (.var 8) (.var 7)) .nil) (.var 8))) f0_4)
def f0_6 : Cs := (.cons (.ex (.bm .extend (.var 5) (.cons (.comp [("place", 3), ("source", 4)] (.tup [3, 4]) (.val (.var 7)) .nil (.tup (.cons (.con (.str "move")) (.cons (.var 3) (.cons (.var 4) .nil))))) .nil))) f0_5)
def f0_7 : Cs := (.cons (.set 7 (.comp [("one", 8)] (.nm 8) (.val (.var 2)) (.cons (.cmp .NotIn (.idx (.var 8) (.con (.int (0)))) (.var 6)) .nil) (.var 8))) f0_6)
def f0_8 : Cs := (.cons (.set 6 (.comp [("place", 3), ("source", 4)] (.tup [3, 4]) (.val (.var 2)) .nil (.var 4))) f0_7)
def f0_9 : Cs := (.cons (.whl (.cmp .NotEq (.var 2) (.lst .nil)) f0_8) f0_0)
def f0_10 : Cs := (.cons (.set 5 (.lst .nil)) f0_9)
def f0_11 : Cs := (.cons (.set 2 (.comp [("place", 3), ("source", 4)] (.tup [3, 4]) (.val (.var 0)) (.cons (.cmp .NotEq (.var 3) (.var 4)) .nil) (.tup (.cons (.var 3) (.cons (.var 4) .nil))))) f0_10)
/-- moves_in_row -/
def f0 : FI := ⟨"moves_in_row", ["pairs", "spare", "left", "place", "source", "rows", "read", "ready", "one", "first"], ["pairs", "spare"],
    f0_11⟩
def f1_0 : Cs := (.cons (.ret (.con (.int (0)))) .nil)
def f1_1 : Cs := (.cons (.ret (.idx (.var 0) (.var 1))) .nil)
def f1_2 : Cs := (.cons (.ifS (.cmp .Lt (.var 1) (.bi .len (.cons (.var 0) .nil))) f1_1 .nil) f1_0)
/-- cell_at -/
def f1 : FI := ⟨"_law_cell_at", ["_law_script", "_law_k"], ["_law_script", "_law_k"],
    f1_2⟩
def f2_0 : Cs := (.cons (.ret (.bin .Mod (.bin .Mult (.var 2) (.var 2)) (.con (.int (2147483587))))) .nil)
def f2_1 : Cs := (.cons (.set 2 (.bin .Mod (.bin .Add (.bin .Add (.bin .Mult (.bin .Mod (.bin .Mult (.var 2) (.var 2)) (.con (.int (2147483629)))) (.con (.int (16807)))) (.bin .Mult (.var 1) (.con (.int (104729))))) (.con (.int (11)))) (.con (.int (2147483587))))) f2_0)
def f2_2 : Cs := (.cons (.set 2 (.bin .Mod (.bin .Add (.bin .Add (.bin .Mult (.bin .Mod (.var 0) (.con (.int (2147483629)))) (.con (.int (48271)))) (.bin .Mult (.var 1) (.con (.int (7919))))) (.con (.int (104729)))) (.con (.int (2147483629))))) f2_1)
/-- mixed -/
def f2 : FI := ⟨"_law_mixed", ["_law_cell", "_law_k", "_law_number"], ["_law_cell", "_law_k"],
    f2_2⟩
def f3_0 : Cs := (.cons (.ret (.slc (.var 2) false true (.con .non) (.var 1))) .nil)
def f3_1 : Cs := (.cons (.ex (.bm .append (.var 2) (.cons (.bin .Mod (.call 2 (.cons (.bi .len (.cons (.var 2) .nil)) (.cons (.var 1) .nil))) (.con (.int (1009)))) .nil))) .nil)
def f3_2 : Cs := (.cons (.whl (.cmp .Lt (.bi .len (.cons (.var 2) .nil)) (.var 1)) f3_1) f3_0)
def f3_3 : Cs := (.cons (.ex (.bm .append (.var 2) (.cons (.bin .Mod (.call 2 (.cons (.var 3) (.cons (.bi .len (.cons (.var 2) .nil)) .nil))) (.con (.int (1009)))) .nil))) .nil)
def f3_4 : Cs := (.cons (.set 4 (.bin .FloorDiv (.var 4) (.con (.int (1009))))) .nil)
def f3_5 : Cs := (.cons (.ex (.bm .append (.var 2) (.cons (.bin .Mod (.var 4) (.con (.int (1009)))) .nil))) f3_4)
def f3_6 : Cs := (.cons (.ifS (.cmp .Gt (.var 4) (.con (.int (0)))) f3_5 .nil) .nil)
def f3_7 : Cs := (.cons (.ifS (.cmp .Lt (.var 3) (.bin .Pow (.con (.int (10))) (.con (.int (18))))) f3_3 f3_6) .nil)
def f3_8 : Cs := (.cons (.forS (.nm 5) (.rng1 (.con (.int (40)))) f3_7) .nil)
def f3_9 : Cs := (.cons (.set 4 (.var 3)) f3_8)
def f3_10 : Cs := (.cons (.forS (.nm 3) (.val (.var 0)) f3_9) f3_2)
def f3_11 : Cs := (.cons (.set 2 (.lst .nil)) f3_10)
/-- numbers -/
def f3 : FI := ⟨"_law_numbers", ["_law_cells", "_law_many", "_law_found", "_law_cell", "_law_left", "_law_k"], ["_law_cells", "_law_many"],
    f3_11⟩
def f4_0 : Cs := (.cons (.ret (.bm .popAt (.var 0) (.cons (.con (.int (0))) .nil))) .nil)
def f4_1 : Cs := (.cons (.ret (.con (.int (0)))) .nil)
def f4_2 : Cs := (.cons (.ifS (.cmp .Eq (.var 0) (.lst .nil)) f4_1 .nil) f4_0)
/-- take -/
def f4 : FI := ⟨"_law_take", ["_law_left"], ["_law_left"],
    f4_2⟩
def f5_0 : Cs := (.cons (.ret (.var 5)) .nil)
def f5_1 : Cs := (.cons (.setIx (.var 5) (.var 11) (.tup (.cons (.idx (.idx (.var 5) (.var 11)) (.con (.int (0)))) (.cons (.idx (.idx (.var 5) (.var 10)) (.con (.int (0)))) .nil)))) .nil)
def f5_2 : Cs := (.cons (.setIx (.var 5) (.var 10) (.tup (.cons (.idx (.idx (.var 5) (.var 10)) (.con (.int (0)))) (.cons (.idx (.idx (.var 5) (.var 11)) (.con (.int (0)))) .nil)))) f5_1)
def f5_3 : Cs := (.cons (.set 11 (.bin .Mod (.call 4 (.cons (.var 0) .nil)) (.bi .len (.cons (.var 5) .nil)))) f5_2)
def f5_4 : Cs := (.cons (.set 10 (.bin .Mod (.call 4 (.cons (.var 0) .nil)) (.bi .len (.cons (.var 5) .nil)))) f5_3)
def f5_5 : Cs := (.cons (.ifS (.cmp .Gt (.bi .len (.cons (.var 5) .nil)) (.con (.int (1)))) f5_4 .nil) .nil)
def f5_6 : Cs := (.cons (.forS (.nm 6) (.rng1 (.bin .Mod (.call 4 (.cons (.var 0) .nil)) (.con (.int (4))))) f5_5) f5_0)
def f5_7 : Cs := (.cons (.ex (.bm .append (.var 5) (.cons (.tup (.cons (.var 7) (.cons (.var 9) .nil))) .nil))) .nil)
def f5_8 : Cs := (.cons (.set 9 (.idx (.lst (.cons (.tup (.cons (.con (.str "num")) (.cons (.bin .Sub (.var 8) (.con (.int (500)))) .nil))) (.cons (.tup (.cons (.con (.str "truth")) (.cons (.cmp .Eq (.bin .Mod (.bin .FloorDiv (.var 8) (.con (.int (8)))) (.con (.int (2)))) (.con (.int (1)))) .nil))) (.cons (.tup (.cons (.con (.str "num")) (.cons (.con (.int (0))) .nil))) .nil)))) (.bin .Mod (.bin .FloorDiv (.var 8) (.con (.int (16)))) (.con (.int (3)))))) .nil)
def f5_9 : Cs := (.cons (.set 9 (.idx (.idx (.var 5) (.bin .Mod (.bin .FloorDiv (.var 8) (.con (.int (8)))) (.bi .len (.cons (.var 5) .nil)))) (.con (.int (0))))) .nil)
def f5_10 : Cs := (.cons (.ifS (.and_ (.cons (.cmp .Lt (.bin .Mod (.var 8) (.con (.int (8)))) (.con (.int (5)))) (.cons (.cmp .NotEq (.var 5) (.lst .nil)) .nil))) f5_9 .nil) .nil)
def f5_11 : Cs := (.cons (.ifS (.cmp .Eq (.bin .Mod (.var 8) (.con (.int (8)))) (.con (.int (0)))) f5_8 f5_10) f5_7)
def f5_12 : Cs := (.cons (.set 9 (.idx (.var 4) (.bin .Mod (.bin .FloorDiv (.var 8) (.con (.int (8)))) (.con (.int (10)))))) f5_11)
def f5_13 : Cs := (.cons (.set 8 (.call 4 (.cons (.var 0) .nil))) f5_12)
def f5_14 : Cs := (.cons (.set 7 (.bm .popAt (.var 1) (.cons (.bin .Mod (.call 4 (.cons (.var 0) .nil)) (.bi .len (.cons (.var 1) .nil))) .nil))) f5_13)
def f5_15 : Cs := (.cons (.forS (.nm 6) (.rng1 (.bin .Mod (.call 4 (.cons (.var 0) .nil)) (.con (.int (9))))) f5_14) f5_6)
def f5_16 : Cs := (.cons (.set 5 (.lst .nil)) f5_15)
def f5_17 : Cs := (.cons (.set 4 (.bi .lst1 (.cons (.var 1) .nil))) f5_16)
def f5_18 : Cs := (.cons (.set 1 (.bin .Add (.comp [("_law_r", 2)] (.nm 2) (.rng1 (.con (.int (4)))) .nil (.tup (.cons (.con (.str "reg")) (.cons (.var 2) .nil)))) (.comp [("_law_f", 3)] (.nm 3) (.rng1 (.con (.int (6)))) .nil (.tup (.cons (.con (.str "frame")) (.cons (.var 3) .nil)))))) f5_17)
/-- pairs -/
def f5 : FI := ⟨"_law_pairs", ["_law_left", "_law_places", "_law_r", "_law_f", "_law_every", "_law_pairs_here", "_law_k", "_law_place", "_law_number", "_law_source", "_law_one", "_law_other"], ["_law_left"],
    f5_18⟩
def f6_0 : Cs := (.cons (.ret (.tup (.cons (.con (.str "constant")) (.cons (.var 1) .nil)))) .nil)
def f6_1 : Cs := (.cons (.ret (.bm .get2 (.var 0) (.cons (.var 1) (.cons (.tup (.cons (.con (.str "was")) (.cons (.var 1) .nil))) .nil)))) .nil)
def f6_2 : Cs := (.cons (.ifS (.or_ (.cons (.cmp .Eq (.idx (.var 1) (.con (.int (0)))) (.con (.str "reg"))) (.cons (.cmp .Eq (.idx (.var 1) (.con (.int (0)))) (.con (.str "frame"))) .nil))) f6_1 .nil) f6_0)
/-- at -/
def f6 : FI := ⟨"_law_at", ["_law_held", "_law_source"], ["_law_held", "_law_source"],
    f6_2⟩
def f7_0 : Cs := (.cons (.ret (.var 5)) .nil)
def f7_1 : Cs := (.cons (.set 5 (.bin .Add (.var 5) (.con (.int (1))))) .nil)
def f7_2 : Cs := (.cons (.ifS (.cmp .In (.var 8) (.var 7)) f7_1 .nil) .nil)
def f7_3 : Cs := (.cons (.set 8 (.idx (.var 1) (.var 8))) .nil)
def f7_4 : Cs := (.cons (.ex (.bm .append (.var 7) (.cons (.var 8) .nil))) f7_3)
def f7_5 : Cs := (.cons (.setIx (.var 4) (.var 8) (.con (.bl true))) f7_4)
def f7_6 : Cs := (.cons (.whl (.and_ (.cons (.cmp .In (.var 8) (.var 1)) (.cons (.cmp .NotIn (.var 8) (.var 4)) .nil))) f7_5) f7_2)
def f7_7 : Cs := (.cons (.set 8 (.var 6)) f7_6)
def f7_8 : Cs := (.cons (.set 7 (.lst .nil)) f7_7)
def f7_9 : Cs := (.cons (.forS (.nm 6) (.val (.var 1)) f7_8) f7_0)
def f7_10 : Cs := (.cons (.set 5 (.con (.int (0)))) f7_9)
def f7_11 : Cs := (.cons (.set 4 (.dnew true)) f7_10)
def f7_12 : Cs := (.cons (.set 1 (.bi .dictT (.cons (.comp [("_law_place", 2), ("_law_source", 3)] (.tup [2, 3]) (.val (.var 0)) (.cons (.cmp .NotEq (.var 2) (.var 3)) .nil) (.tup (.cons (.var 2) (.cons (.var 3) .nil)))) .nil))) f7_11)
/-- rings -/
def f7 : FI := ⟨"_law_rings", ["_law_pairs_here", "_law_onward", "_law_place", "_law_source", "_law_seen", "_law_rings_here", "_law_start", "_law_line", "_law_here"], ["_law_pairs_here"],
    f7_12⟩
def f8_0 : Cs := (.cons (.ret (.cmp .Eq (.bi .len (.cons (.var 11) .nil)) (.bin .Add (.bi .len (.cons (.var 10) .nil)) (.var 9)))) .nil)
def f8_1 : Cs := (.cons (.ex (.bm .clear (.var 3) .nil)) f8_0)
def f8_2 : Cs := (.cons (.set 11 (.call 0 (.cons (.var 0) (.cons (.var 1) .nil)))) f8_1)
def f8_3 : Cs := (.cons (.ret (.con (.bl false))) .nil)
def f8_4 : Cs := (.cons (.ifS (.or_ (.cons (.cmp .NotEq (.bi .len (.cons (.var 3) .nil)) (.bin .Add (.bi .len (.cons (.var 10) .nil)) (.var 9))) (.cons (.cmp .NotEq (.bm .count (.var 5) (.cons (.var 1) .nil)) (.var 9)) .nil))) f8_3 .nil) f8_2)
def f8_5 : Cs := (.cons (.set 10 (.comp [("_law_place", 7), ("_law_source", 8)] (.tup [7, 8]) (.val (.var 0)) (.cons (.cmp .NotEq (.var 7) (.var 8)) .nil) (.var 7))) f8_4)
def f8_6 : Cs := (.cons (.set 9 (.call 7 (.cons (.var 0) .nil))) f8_5)
def f8_7 : Cs := (.cons (.ret (.con (.bl false))) .nil)
def f8_8 : Cs := (.cons (.ifS (.or_ (.cons (.cmp .NotEq (.call 6 (.cons (.var 4) (.cons (.var 7) .nil))) (.call 6 (.cons (.dnew true) (.cons (.var 8) .nil)))) (.cons (.cmp .NotEq (.bm .count (.var 5) (.cons (.var 7) .nil)) (.bi .int1 (.cons (.cmp .NotEq (.var 7) (.var 8)) .nil))) .nil))) f8_7 .nil) .nil)
def f8_9 : Cs := (.cons (.forS (.tup [7, 8]) (.val (.var 0)) f8_8) f8_6)
def f8_10 : Cs := (.cons (.ex (.bm .append (.var 5) (.cons (.idx (.var 6) (.con (.int (1)))) .nil))) .nil)
def f8_11 : Cs := (.cons (.setIx (.var 4) (.idx (.var 6) (.con (.int (1)))) (.call 6 (.cons (.var 4) (.cons (.idx (.var 6) (.con (.int (2)))) .nil)))) f8_10)
def f8_12 : Cs := (.cons (.ret (.con (.bl false))) .nil)
def f8_13 : Cs := (.cons (.ifS (.or_ (.cons (.not_ (.isi (.var 6) true [.b .tuple])) (.cons (.cmp .NotEq (.bi .len (.cons (.var 6) .nil)) (.con (.int (3)))) (.cons (.cmp .NotEq (.idx (.var 6) (.con (.int (0)))) (.con (.str "move"))) .nil)))) f8_12 .nil) f8_11)
def f8_14 : Cs := (.cons (.forS (.nm 6) (.val (.var 3)) f8_13) f8_9)
def f8_15 : Cs := (.cons (.set 5 (.lst .nil)) f8_14)
def f8_16 : Cs := (.cons (.set 4 (.dnew true)) f8_15)
def f8_17 : Cs := (.cons (.ret (.con (.bl false))) .nil)
def f8_18 : Cs := (.cons (.ifS (.or_ (.cons (.not_ (.isi (.var 3) true [.b .list])) (.cons (.cmp .NotEq (.var 2) (.var 0)) .nil))) f8_17 .nil) f8_16)
def f8_19 : Cs := (.cons (.set 3 (.call 0 (.cons (.var 2) (.cons (.var 1) .nil)))) f8_18)
def f8_20 : Cs := (.cons (.set 2 (.bi .lst1 (.cons (.var 0) .nil))) f8_19)
/-- right -/
def f8 : FI := ⟨"_law_right", ["_law_pairs_here", "_law_spare", "_law_handed", "_law_rows", "_law_held", "_law_written", "_law_row", "_law_place", "_law_source", "_law_rings_here", "_law_moved", "_law_again"], ["_law_pairs_here", "_law_spare"],
    f8_20⟩
def f9_0 : Cs := (.cons (.ret (.con (.bl true))) .nil)
def f9_1 : Cs := (.cons (.ret (.con (.bl false))) .nil)
def f9_2 : Cs := (.cons (.ifS (.not_ (.call 8 (.cons (.call 5 (.cons (.var 3) .nil)) (.cons (.var 1) .nil)))) f9_1 .nil) .nil)
def f9_3 : Cs := (.cons (.set 3 (.call 3 (.cons (.lst (.cons (.call 1 (.cons (.var 0) (.cons (.var 2) .nil))) (.cons (.call 1 (.cons (.var 0) (.cons (.bin .Add (.var 2) (.con (.int (1)))) .nil))) .nil))) (.cons (.con (.int (60))) .nil)))) f9_2)
def f9_4 : Cs := (.cons (.forS (.nm 2) (.rng1 (.bi .max2 (.cons (.con (.int (1))) (.cons (.bi .min2 (.cons (.bi .len (.cons (.var 0) .nil)) (.cons (.con (.int (20))) .nil))) .nil)))) f9_3) f9_0)
def f9_5 : Cs := (.cons (.set 1 (.tup (.cons (.con (.str "reg")) (.cons (.bin .Add (.con (.int (4))) (.bin .Mod (.call 1 (.cons (.var 0) (.cons (.con (.int (1))) .nil))) (.con (.int (4))))) .nil)))) f9_4)
/-- law -/
def f9 : FI := ⟨"law", ["_law_script", "_law_spare", "_law_k", "_law_left"], ["_law_script"],
    f9_5⟩
def gv : Nat → D
  | _ => .non
def ecl : List (Option EC) := []
def ec (c : Nat) : Option EC := (ecl[c]?).getD none
def G : Gi := ⟨[f0, f1, f2, f3, f4, f5, f6, f7, f8, f9], gv, fun _ => "", ec⟩
def t0 : T0 := ⟨["moves_in_row", "_law_cell_at", "_law_mixed", "_law_numbers", "_law_take", "_law_pairs", "_law_at", "_law_rings", "_law_right", "law"], [], ["dict", "int", "isinstance", "len", "list", "max", "min", "range", "tuple"], [], []⟩
theorem c0 : fnB t0 f0 (stm 1) = true := by decide +kernel
theorem c1 : fnB t0 f1 (stm 3) = true := by decide +kernel
theorem c2 : fnB t0 f2 (stm 4) = true := by decide +kernel
theorem c3 : fnB t0 f3 (stm 5) = true := by decide +kernel
theorem c4 : fnB t0 f4 (stm 6) = true := by decide +kernel
theorem c5 : fnB t0 f5 (stm 7) = true := by decide +kernel
theorem c6 : fnB t0 f6 (stm 8) = true := by decide +kernel
theorem c7 : fnB t0 f7 (stm 9) = true := by decide +kernel
theorem c8 : fnB t0 f8 (stm 10) = true := by decide +kernel
theorem c9 : fnB t0 f9 (stm 11) = true := by decide +kernel
end My

/-! Rings of a table of moves: plain lists, no program in sight. -/
namespace Rg
open Classical
variable {α : Type}
/-- where a place's value comes from -/
noncomputable def nx (l : List (α × α)) (p : α) : Option α := (l.find? fun x => decide (x.1 = p)).map (·.2)
noncomputable def it (l : List (α × α)) : Nat → α → Option α
  | 0, p => some p
  | n + 1, p => (it l n p).bind (nx l)
theorem it_add {l : List (α × α)} (m : Nat) {p : α} : ∀ n, it l (m + n) p = (it l m p).bind (it l n)
  | 0 => by cases it l m p <;> rfl
  | n + 1 => by
    show (it l (m + n) p).bind (nx l) = _
    rw [it_add m n]
    cases it l m p <;> rfl
def Cy (l : List (α × α)) (p : α) : Prop := ∃ n, 1 ≤ n ∧ it l n p = some p
theorem Cy.mul {l : List (α × α)} {p : α} {n : Nat} (h : it l n p = some p) : ∀ m, it l (n * m) p = some p
  | 0 => rfl
  | m + 1 => by
    rw [Nat.mul_succ, it_add, Cy.mul h m]
    exact h
theorem it_none {l : List (α × α)} {p : α} {k : Nat} (h : it l k p = none) (n : Nat) : it l (k + n) p = none := by rw [it_add, h]; rfl
theorem Cy.ex {l : List (α × α)} {p : α} (h : Cy l p) (k : Nat) : ∃ q, it l k p = some q := by
  obtain ⟨n, h1, h2⟩ := h
  cases e : it l k p with
  | some q => exact ⟨q, rfl⟩
  | none =>
    have h3 := Cy.mul h2 (k + 1)
    have : n * (k + 1) = k + (n * (k + 1) - k) := by
      have : k + 1 ≤ n * (k + 1) := Nat.le_mul_of_pos_left _ h1
      omega
    rw [this, it_none e] at h3
    cases h3
/-- from a place on its ring one comes back -/
theorem Cy.back {l : List (α × α)} {p q : α} (h : Cy l p) {k : Nat} (e : it l k p = some q) : ∃ m, it l m q = some p := by
  obtain ⟨n, h1, h2⟩ := h
  have h3 := Cy.mul h2 (k + 1)
  have : n * (k + 1) = k + (n * (k + 1) - k) := by
    have : k + 1 ≤ n * (k + 1) := Nat.le_mul_of_pos_left _ h1
    omega
  rw [this, it_add, e] at h3
  exact ⟨_, h3⟩
theorem Cy.on {l : List (α × α)} {p q : α} (h : Cy l p) {k : Nat} (e : it l k p = some q) : Cy l q := by
  obtain ⟨m, hm⟩ := h.back e
  obtain ⟨n, h1, h2⟩ := h
  refine ⟨m + (n + k), by omega, ?_⟩
  rw [it_add, hm]
  show it l (n + k) p = some q
  rw [it_add, h2]
  exact e
theorem nx_mem {l : List (α × α)} {p q : α} (h : nx l p = some q) : (p, q) ∈ l := by
  obtain ⟨x, h1, h2⟩ := Option.map_eq_some_iff.mp h
  have h3 := List.find?_some h1
  have h4 := List.mem_of_find?_eq_some h1
  have h3 : x.1 = p := of_decide_eq_true h3
  rw [← h2, ← h3]
  exact h4
theorem nx_of {l : List (α × α)} (hn : (l.map (·.1)).Nodup) {p q : α} (h : (p, q) ∈ l) : nx l p = some q := by
  induction l with
  | nil => cases h
  | cons x l ih =>
    unfold nx
    rw [List.find?_cons]
    rw [List.map_cons, List.nodup_cons] at hn
    rcases List.mem_cons.mp h with e | h
    · subst e
      simp
    · by_cases e : x.1 = p
      · exact absurd (List.mem_map.mpr ⟨(p, q), h, e.symm⟩) hn.1
      · rw [decide_eq_false e]
        exact ih hn.2 h
theorem nx_none {l : List (α × α)} {p : α} (h : p ∉ l.map (·.1)) : nx l p = none := by
  cases e : nx l p with
  | none => rfl
  | some q => exact absurd (List.mem_map.mpr ⟨_, nx_mem e, rfl⟩) h
theorem nx_some {l : List (α × α)} {p : α} (h : p ∈ l.map (·.1)) : ∃ q, nx l p = some q := by
  cases e : nx l p with
  | some q => exact ⟨q, rfl⟩
  | none =>
    obtain ⟨x, h1, h2⟩ := List.mem_map.mp h
    unfold nx at e
    rw [Option.map_eq_none_iff, List.find?_eq_none] at e
    exact absurd (decide_eq_true h2) (e x h1)
variable (ρ : α → Nat)
/-- the first one of its ring -/
def Le (l : List (α × α)) (p : α) : Prop := Cy l p ∧ ∀ n q, it l n p = some q → ρ p ≤ ρ q
noncomputable def R (l : List (α × α)) : Nat := l.countP fun x => decide (Le ρ l x.1)
variable {ρ}
theorem Cy.read {l : List (α × α)} {p q : α} (h : Cy l p) {k : Nat} (e : it l k p = some q) : q ∈ l.map (·.2) := by
  have key : ∀ {k : Nat}, 1 ≤ k → it l k p = some q → q ∈ l.map (·.2) := by
    intro k hk e
    cases k with
    | zero => omega
    | succ k =>
      obtain ⟨x, h1, h2⟩ := Option.bind_eq_some_iff.mp (show (it l k p).bind (nx l) = some q from e)
      exact List.mem_map.mpr ⟨_, nx_mem h2, rfl⟩
  cases k with
  | zero =>
    cases e
    obtain ⟨n, h1, h2⟩ := h
    exact key h1 h2
  | succ k => exact key (by omega) e
/-- what nobody reads may go -/
theorem R_drop {l : List (α × α)} (hn : (l.map (·.1)).Nodup) : R ρ (l.filter fun x => decide (x.1 ∈ l.map (·.2))) = R ρ l := by
  generalize hl : (l.filter fun x => decide (x.1 ∈ l.map (·.2))) = l'
  have sub : ∀ x, x ∈ l' ↔ x ∈ l ∧ x.1 ∈ l.map (·.2) := fun x => by rw [← hl, List.mem_filter, decide_eq_true_eq]
  have hn' : (l'.map (·.1)).Nodup := by
    rw [← hl]
    exact List.Nodup.sublist ((List.filter_sublist).map _) hn
  have up : ∀ {p q}, nx l' p = some q → nx l p = some q := fun h => nx_of hn ((sub _).mp (nx_mem h)).1
  have ups : ∀ {k p q}, it l' k p = some q → it l k p = some q := by
    intro k
    induction k with
    | zero => exact fun h => h
    | succ k ih =>
      intro p q h
      obtain ⟨x, h1, h2⟩ := Option.bind_eq_some_iff.mp (show (it l' k p).bind (nx l') = some q from h)
      show (it l k p).bind (nx l) = some q
      rw [ih h1]
      exact up h2
  have dn : ∀ {p}, Cy l p → ∀ k, it l' k p = it l k p := by
    intro p h k
    induction k with
    | zero => rfl
    | succ k ih =>
      show (it l' k p).bind (nx l') = (it l k p).bind (nx l)
      rw [ih]
      obtain ⟨q, hq⟩ := h.ex k
      obtain ⟨r, hr⟩ := h.ex (k + 1)
      have hr' : (it l k p).bind (nx l) = some r := hr
      rw [hq] at hr' ⊢
      show nx l' q = nx l q
      have hr' : nx l q = some r := hr'
      rw [hr']
      exact nx_of hn' ((sub _).mpr ⟨nx_mem hr', h.read hq⟩)
  have le : ∀ p, Le ρ l' p ↔ Le ρ l p := by
    intro p
    constructor
    · rintro ⟨⟨n, h1, h2⟩, h3⟩
      have c : Cy l p := ⟨n, h1, ups h2⟩
      exact ⟨c, fun k q e => h3 k q (by rw [dn c]; exact e)⟩
    · rintro ⟨c, h3⟩
      obtain ⟨n, h1, h2⟩ := id c
      exact ⟨⟨n, h1, by rw [dn c]; exact h2⟩, fun k q e => h3 k q (ups e)⟩
  unfold R
  rw [← hl, List.countP_filter]
  refine List.countP_congr fun x hx => ?_
  rw [hl]
  simp only [Bool.and_eq_true, decide_eq_true_eq, le]
  exact ⟨fun h => h.1, fun h => ⟨h, h.1.read (k := 0) rfl⟩⟩
/-! ### tables in which all is read -/
theorem sub_of_len : ∀ {l m : List α}, l.Nodup → (∀ x ∈ l, x ∈ m) → m.length ≤ l.length → (∀ x ∈ m, x ∈ l) ∧ m.Nodup
  | [], m, _, _, h => by
    have : m = [] := List.length_eq_zero_iff.mp (by simpa using h)
    subst this
    exact ⟨fun x hx => hx, List.nodup_nil⟩
  | a :: l, m, hn, hs, hl => by
    obtain ⟨m1, m2, rfl⟩ := List.append_of_mem (hs a (List.mem_cons_self ..))
    rw [List.nodup_cons] at hn
    have h2 : ∀ x ∈ l, x ∈ m1 ++ m2 := fun x hx => by
      have := hs x (List.mem_cons_of_mem _ hx)
      simp only [List.mem_append, List.mem_cons] at this ⊢
      rcases this with h | rfl | h
      · exact .inl h
      · exact absurd hx hn.1
      · exact .inr h
    obtain ⟨h3, h4⟩ := sub_of_len hn.2 h2 (by simp at hl ⊢; omega)
    constructor
    · intro x hx
      simp only [List.mem_append, List.mem_cons] at hx
      rcases hx with h | rfl | h
      · exact List.mem_cons_of_mem _ (h3 x (List.mem_append_left _ h))
      · exact List.mem_cons_self ..
      · exact List.mem_cons_of_mem _ (h3 x (List.mem_append_right _ h))
    · have ha : a ∉ m1 ++ m2 := fun h => hn.1 (h3 a h)
      rw [List.nodup_append] at h4 ⊢
      simp only [List.mem_append, not_or] at ha
      refine ⟨h4.1, List.nodup_cons.mpr ⟨ha.2, h4.2.1⟩, fun x hx y hy => ?_⟩
      rcases List.mem_cons.mp hy with rfl | hy
      · exact fun e => ha.1 (e ▸ hx)
      · exact h4.2.2 x hx y hy
end Rg

namespace Rg
open Classical
variable {α : Type} {ρ : α → Nat}
theorem len_of_sub : ∀ {l m : List α}, l.Nodup → (∀ x ∈ l, x ∈ m) → l.length ≤ m.length
  | [], m, _, _ => Nat.zero_le _
  | a :: l, m, hn, hs => by
    obtain ⟨m1, m2, rfl⟩ := List.append_of_mem (hs a (List.mem_cons_self ..))
    rw [List.nodup_cons] at hn
    have h2 : ∀ x ∈ l, x ∈ m1 ++ m2 := fun x hx => by
      have := hs x (List.mem_cons_of_mem _ hx)
      simp only [List.mem_append, List.mem_cons] at this ⊢
      rcases this with h | rfl | h
      · exact .inl h
      · exact absurd hx hn.1
      · exact .inr h
    have := len_of_sub hn.2 h2
    simp at this ⊢
    omega
theorem twice {n : Nat} {f : Nat → α} {m : List α} (h : ∀ k, f k ∈ m) : ∃ i j, i < j ∧ f i = f j := by
  apply Classical.byContradiction
  intro hc
  have hn : ((List.range (m.length + 1)).map f).Nodup := by
    refine List.Pairwise.map f (fun a b (h : a < b) => ?_) List.pairwise_lt_range
    exact fun e => hc ⟨a, b, h, e⟩
  have := len_of_sub hn (m := m) fun x hx => by
    obtain ⟨k, _, rfl⟩ := List.mem_map.mp hx
    exact h k
  simp at this
  omega
theorem one_from {l : List (α × α)} (hn : (l.map (·.2)).Nodup) {p p' q : α} (h1 : (p, q) ∈ l) (h2 : (p', q) ∈ l) : p = p' := by
  induction l with
  | nil => cases h1
  | cons x l ih =>
    rw [List.map_cons, List.nodup_cons] at hn
    rcases List.mem_cons.mp h1 with e1 | h1
    · rcases List.mem_cons.mp h2 with e2 | h2
      · rw [← e1] at e2
        cases e2; rfl
      · exact absurd (List.mem_map.mpr ⟨_, h2, by rw [← e1]⟩) hn.1
    · rcases List.mem_cons.mp h2 with e2 | h2
      · exact absurd (List.mem_map.mpr ⟨_, h1, by rw [← e2]⟩) hn.1
      · exact ih hn.2 h1 h2
/-- a table in which each place is read: all are on rings -/
theorem full_cy {l : List (α × α)} (hn : (l.map (·.1)).Nodup) (hs : (l.map (·.2)).Nodup) (hsub : ∀ x ∈ l.map (·.2), x ∈ l.map (·.1)) {p : α} (hp : p ∈ l.map (·.1)) : Cy l p := by
  have ex : ∀ k, ∃ q, it l k p = some q ∧ q ∈ l.map (·.1) := by
    intro k
    induction k with
    | zero => exact ⟨p, rfl, hp⟩
    | succ k ih =>
      obtain ⟨q, h1, h2⟩ := ih
      obtain ⟨r, h3⟩ := nx_some h2
      refine ⟨r, ?_, hsub r (List.mem_map.mpr ⟨_, nx_mem h3, rfl⟩)⟩
      show (it l k p).bind (nx l) = some r
      rw [h1]
      exact h3
  obtain ⟨i, j, hij, e⟩ := twice (n := 0) (f := fun k => (ex k).choose) (m := l.map (·.1)) fun k => (ex k).choose_spec.2
  have e1 : it l i p = it l j p := by
    have a := (ex i).choose_spec.1
    have b := (ex j).choose_spec.1
    rw [a, b]
    exact congrArg some e
  have key : ∀ i j, i < j → it l i p = it l j p → it l (j - i) p = some p := by
    intro i
    induction i with
    | zero => intro j _ e; rw [Nat.sub_zero]; exact e.symm
    | succ i ih =>
      intro j hj e
      obtain ⟨j, rfl⟩ : ∃ k, j = k + 1 := ⟨j - 1, by omega⟩
      have : j + 1 - (i + 1) = j - i := by omega
      rw [this]
      refine ih j (by omega) ?_
      obtain ⟨q, h1, _⟩ := ex i
      obtain ⟨r, h2, _⟩ := ex j
      obtain ⟨u, h3, _⟩ := ex (i + 1)
      have h4 : nx l q = some u := by
        have : (it l i p).bind (nx l) = some u := h3
        rw [h1] at this
        exact this
      have h5 : nx l r = some u := by
        have : (it l j p).bind (nx l) = some u := e.symm.trans h3
        rw [h2] at this
        exact this
      rw [h1, h2, one_from hs (nx_mem h4) (nx_mem h5)]
  exact ⟨j - i, by omega, key i j hij e1⟩
/-- one ring is opened -/
theorem R_break {l : List (α × α)} {fst s0 spare : α} {rest : List (α × α)} (hl : l = (fst, s0) :: rest) (hn : (l.map (·.1)).Nodup) (hall : ∀ x ∈ l.map (·.1), x ∈ l.map (·.2)) (hρ : ∀ x ∈ l.map (·.1), ρ fst ≤ ρ x) (hi : ∀ x ∈ l.map (·.1), ρ fst = ρ x → fst = x) (hsp : spare ∉ l.map (·.1)) :
    R ρ (l.map fun x => (x.1, if x.2 = fst then spare else x.2)) + 1 = R ρ l := by
  obtain ⟨hsub, hs⟩ := sub_of_len hn hall (by simp)
  generalize hl' : (l.map fun x => (x.1, if x.2 = fst then spare else x.2)) = l'
  have hpl : l'.map (·.1) = l.map (·.1) := by rw [← hl', List.map_map]; rfl
  have hn' : (l'.map (·.1)).Nodup := by rw [hpl]; exact hn
  have hf : fst ∈ l.map (·.1) := by rw [hl]; simp
  have nx' : ∀ {p q}, nx l p = some q → nx l' p = some (if q = fst then spare else q) := fun {p q} h => by
    refine nx_of hn' ?_
    rw [← hl']
    exact List.mem_map.mpr ⟨_, nx_mem h, rfl⟩
  have nxb : ∀ {p r}, nx l' p = some r → ∃ q, nx l p = some q ∧ r = if q = fst then spare else q := fun {p r} h => by
    have h1 := nx_mem h
    rw [← hl'] at h1
    obtain ⟨x, hx, e⟩ := List.mem_map.mp h1
    cases e
    exact ⟨x.2, nx_of hn hx, rfl⟩
  have nsp : nx l' spare = none := nx_none (by rw [hpl]; exact hsp)
  have inP : ∀ {k p q}, p ∈ l.map (·.1) → it l k p = some q → q ∈ l.map (·.1) := by
    intro k
    induction k with
    | zero => intro p q hp e; cases e; exact hp
    | succ k ih =>
      intro p q hp e
      obtain ⟨x, h1, h2⟩ := Option.bind_eq_some_iff.mp (show (it l k p).bind (nx l) = some q from e)
      exact hsub q (List.mem_map.mpr ⟨_, nx_mem h2, rfl⟩)
  have cy := fun {p} (hp : p ∈ l.map (·.1)) => full_cy hn hs hsub hp
  have lf : Le ρ l fst := ⟨cy hf, fun k q e => hρ q (inP hf e)⟩
  have le : ∀ p ∈ l.map (·.1), Le ρ l p ↔ (p = fst ∨ Le ρ l' p) := by
    intro p hp
    constructor
    · rintro ⟨c, h⟩
      by_cases e : p = fst
      · exact .inl e
      · refine .inr ?_
        have nf : ∀ k, it l k p ≠ some fst := fun k h2 => e (hi p hp (Nat.le_antisymm (hρ p hp) (h k fst h2))).symm
        have same : ∀ k, it l' k p = it l k p := by
          intro k
          induction k with
          | zero => rfl
          | succ k ih =>
            show (it l' k p).bind (nx l') = (it l k p).bind (nx l)
            rw [ih]
            obtain ⟨q, hq⟩ := c.ex k
            obtain ⟨r, hr⟩ := c.ex (k + 1)
            have hr2 : (it l k p).bind (nx l) = some r := hr
            rw [hq] at hr2 ⊢
            have hr3 : nx l q = some r := hr2
            show nx l' q = nx l q
            rw [nx' hr3, hr3, if_neg (fun z => nf (k + 1) (by rw [hr, z]))]
        obtain ⟨n, h1, h2⟩ := c
        exact ⟨⟨n, h1, by rw [same]; exact h2⟩, fun k q e => h k q (by rw [← same]; exact e)⟩
    · rintro (rfl | ⟨c, h⟩)
      · exact lf
      · have same : ∀ k, it l k p = it l' k p := by
          intro k
          induction k with
          | zero => rfl
          | succ k ih =>
            show (it l k p).bind (nx l) = (it l' k p).bind (nx l')
            rw [ih]
            obtain ⟨q, hq⟩ := c.ex k
            obtain ⟨r, hr⟩ := c.ex (k + 1)
            obtain ⟨r2, hr2⟩ := c.ex (k + 1 + 1)
            have h3 : nx l' q = some r := by
              have : (it l' k p).bind (nx l') = some r := hr
              rw [hq] at this
              exact this
            have h4 : nx l' r = some r2 := by
              have : (it l' (k + 1) p).bind (nx l') = some r2 := hr2
              rw [hr] at this
              exact this
            obtain ⟨u, h5, h6⟩ := nxb h3
            rw [hq]
            show nx l q = nx l' q
            by_cases e : u = fst
            · rw [if_pos e] at h6
              rw [h6, nsp] at h4
              cases h4
            · rw [if_neg e] at h6
              rw [h3, h5, h6]
        exact ⟨cy hp, fun k q e => h k q (by rw [← same]; exact e)⟩
  have nf' : ¬ Le ρ l' fst := by
    rintro ⟨c, h⟩
    obtain ⟨n, h1, h2⟩ := c
    obtain ⟨n, rfl⟩ : ∃ m, n = m + 1 := ⟨n - 1, by omega⟩
    obtain ⟨q, h3, h4⟩ := Option.bind_eq_some_iff.mp (show (it l' n fst).bind (nx l') = some fst from h2)
    obtain ⟨u, h5, h6⟩ := nxb h4
    by_cases e : u = fst
    · rw [if_pos e] at h6
      exact hsp (h6 ▸ hf)
    · rw [if_neg e] at h6
      exact e h6.symm
  have e1 : R ρ l' = l.countP fun x => decide (Le ρ l' x.1) := by
    unfold R
    conv => lhs; rw [← hl', List.countP_map]
    rw [hl']
    rfl
  rw [e1]
  unfold R
  have hnot : fst ∉ rest.map (·.1) := by
    rw [hl, List.map_cons, List.nodup_cons] at hn
    exact hn.1
  have e2 : (l.countP fun x => decide (Le ρ l x.1)) = (rest.countP fun x => decide (Le ρ l x.1)) + 1 := by
    conv => lhs; arg 2; rw [hl]
    rw [List.countP_cons_of_pos (by simpa using lf)]
  have e3 : (l.countP fun x => decide (Le ρ l' x.1)) = rest.countP fun x => decide (Le ρ l' x.1) := by
    conv => lhs; arg 2; rw [hl]
    rw [List.countP_cons_of_neg (by simpa using nf')]
  rw [e2, e3]
  congr 1
  refine List.countP_congr fun x hx => ?_
  have hxp : x.1 ∈ l.map (·.1) := by rw [hl]; exact List.mem_map.mpr ⟨x, List.mem_cons_of_mem _ hx, rfl⟩
  have hne : x.1 ≠ fst := fun e => hnot (e ▸ List.mem_map.mpr ⟨x, hx, rfl⟩)
  simp only [decide_eq_true_eq]
  rw [le x.1 hxp]
  exact ⟨fun h => .inr h, fun h => h.resolve_left hne⟩
end Rg

namespace Rg
open Classical
variable {α : Type} {ρ : α → Nat} {l : List (α × α)}
theorem countP_or {β : Type} {A B : β → Prop} [DecidablePred A] [DecidablePred B] (h : ∀ x, ¬ (A x ∧ B x)) : ∀ l : List β, (l.countP fun x => decide (A x ∨ B x)) = (l.countP fun x => decide (A x)) + l.countP fun x => decide (B x)
  | [] => rfl
  | x :: l => by
    rw [List.countP_cons, List.countP_cons, List.countP_cons, countP_or h l]
    by_cases a : A x
    · have b : ¬ B x := fun b => h x ⟨a, b⟩
      simp [a, b]; omega
    · by_cases b : B x
      · simp [a, b]; omega
      · simp [a, b]
theorem count_one {A : α × α → Prop} [DecidablePred A] {p : α} : ∀ {l : List (α × α)}, (l.map (·.1)).Nodup → p ∈ l.map (·.1) → (∀ x ∈ l, A x ↔ x.1 = p) → (l.countP fun x => decide (A x)) = 1
  | [], _, h, _ => by cases h
  | x :: l, hn, hp, h => by
    rw [List.map_cons, List.nodup_cons] at hn
    rw [List.countP_cons]
    by_cases e : x.1 = p
    · have : (l.countP fun x => decide (A x)) = 0 := by
        rw [List.countP_eq_zero]
        intro y hy
        have := h y (List.mem_cons_of_mem _ hy)
        rw [decide_eq_true_eq, this]
        exact fun z => hn.1 (List.mem_map.mpr ⟨y, hy, z.trans e.symm⟩)
      rw [this, if_pos (by rw [decide_eq_true_eq]; exact (h x (List.mem_cons_self ..)).mpr e)]
    · have hp : p ∈ l.map (·.1) := by
        rw [List.map_cons, List.mem_cons] at hp
        exact hp.resolve_left fun z => e z.symm
      rw [if_neg (by rw [decide_eq_true_eq, h x (List.mem_cons_self ..)]; exact e), count_one hn.2 hp fun y hy => h y (List.mem_cons_of_mem _ hy)]
theorem min_ex {Q : Nat → Prop} : ∀ n, Q n → ∃ m, Q m ∧ ∀ k, Q k → m ≤ k := by
  intro n
  induction n using Nat.strongRecOn with
  | ind n ih =>
    intro h
    by_cases e : ∃ k, k < n ∧ Q k
    · obtain ⟨k, h1, h2⟩ := e
      exact ih k h1 h2
    · exact ⟨n, h, fun k hk => Nat.le_of_not_lt fun z => e ⟨k, z, hk⟩⟩
/-- what was seen so far -/
structure Seen (ρ : α → Nat) (l : List (α × α)) (seen : List α) (cnt : Nat) : Prop where
  dom : ∀ q ∈ seen, q ∈ l.map (·.1)
  cl : ∀ q ∈ seen, ∀ x, nx l q = some x → x ∈ l.map (·.1) → x ∈ seen
  cnt : cnt = l.countP fun x => decide (Le ρ l x.1 ∧ x.1 ∈ seen)
/-- the way from a start -/
structure Way (l : List (α × α)) (seen line : List α) (start here : α) : Prop where
  path : ∀ k q, line[k]? = some q → it l k start = some q
  here : it l line.length start = some here
  dom : ∀ q ∈ line, q ∈ l.map (·.1)
  nd : line.Nodup
  apart : ∀ q ∈ line, q ∉ seen
theorem Way.zero {seen : List α} {start : α} : Way l seen [] start start := ⟨fun k q h => (by simp at h), rfl, fun q h => (nomatch h), List.nodup_nil, fun q h => (nomatch h)⟩
theorem Way.step {seen line : List α} {start here nxt : α} (w : Way l seen line start here) (h1 : here ∈ l.map (·.1)) (h2 : here ∉ seen) (h3 : here ∉ line) (h4 : nx l here = some nxt) : Way l seen (line ++ [here]) start nxt := by
  refine ⟨fun k q h => ?_, ?_, fun q h => ?_, ?_, fun q h => ?_⟩
  · by_cases hk : k < line.length
    · rw [List.getElem?_append_left hk] at h
      exact w.path k q h
    · have hl := (List.getElem?_eq_some_iff.mp h).1
      simp at hl
      have : k = line.length := by omega
      subst this
      simp at h
      rw [← h]
      exact w.here
  · rw [List.length_append, List.length_singleton]
    show (it l line.length start).bind (nx l) = some nxt
    rw [w.here]
    exact h4
  · rcases List.mem_append.mp h with h | h
    · exact w.dom q h
    · rw [List.mem_singleton.mp h]; exact h1
  · rw [List.nodup_append]
    exact ⟨w.nd, by simp, fun x hx y hy => by rw [List.mem_singleton.mp hy]; exact fun e => h3 (e ▸ hx)⟩
  · rcases List.mem_append.mp h with h | h
    · exact w.apart q h
    · rw [List.mem_singleton.mp h]; exact h2
theorem at_of {line : List α} {q : α} (h : q ∈ line) : ∃ k, k < line.length ∧ line[k]? = some q := by
  obtain ⟨k, hk, e⟩ := List.mem_iff_getElem.mp h
  exact ⟨k, hk, by rw [List.getElem?_eq_getElem hk, e]⟩
theorem Way.next {seen line : List α} {start here q x : α} (w : Way l seen line start here) (h : q ∈ line) (e : nx l q = some x) : x ∈ line ∨ x = here := by
  obtain ⟨k, hk, hq⟩ := at_of h
  have h1 : it l (k + 1) start = some x := by
    show (it l k start).bind (nx l) = some x
    rw [w.path k q hq]
    exact e
  by_cases hl : k + 1 < line.length
  · have h2 := w.path (k + 1) line[k + 1] (List.getElem?_eq_getElem hl)
    rw [h1] at h2
    cases h2
    exact .inl (List.getElem_mem hl)
  · have : k + 1 = line.length := by omega
    rw [this, w.here] at h1
    cases h1
    exact .inr rfl
theorem walk_end {seen line : List α} {cnt : Nat} {start here : α} (hn : (l.map (·.1)).Nodup) (hi : ∀ p ∈ l.map (·.1), ∀ q ∈ l.map (·.1), ρ p = ρ q → p = q) (s : Seen ρ l seen cnt) (w : Way l seen line start here) (hx : here ∉ l.map (·.1) ∨ here ∈ seen ∨ here ∈ line) :
    Seen ρ l (seen ++ line) (cnt + if here ∈ line then 1 else 0) := by
  refine ⟨fun q h => ?_, fun q h x e hd => ?_, ?_⟩
  · rcases List.mem_append.mp h with h | h
    · exact s.dom q h
    · exact w.dom q h
  · rcases List.mem_append.mp h with h | h
    · exact List.mem_append_left _ (s.cl q h x e hd)
    · rcases w.next h e with h | rfl
      · exact List.mem_append_right _ h
      · rcases hx with h | h | h
        · exact absurd hd h
        · exact List.mem_append_left _ h
        · exact List.mem_append_right _ h
  have e1 : (l.countP fun x => decide (Le ρ l x.1 ∧ x.1 ∈ seen ++ line)) = (l.countP fun x => decide (Le ρ l x.1 ∧ x.1 ∈ seen)) + l.countP fun x => decide (Le ρ l x.1 ∧ x.1 ∈ line) := by
    rw [← countP_or (A := fun x : α × α => Le ρ l x.1 ∧ x.1 ∈ seen) (B := fun x : α × α => Le ρ l x.1 ∧ x.1 ∈ line) (fun x h => w.apart _ h.2.2 h.1.2) l]
    refine List.countP_congr fun x _ => ?_
    simp only [decide_eq_true_eq, List.mem_append]
    constructor
    · rintro ⟨h, h1 | h1⟩
      · exact .inl ⟨h, h1⟩
      · exact .inr ⟨h, h1⟩
    · rintro (⟨h, h1⟩ | ⟨h, h1⟩)
      · exact ⟨h, .inl h1⟩
      · exact ⟨h, .inr h1⟩
  rw [e1, ← s.cnt]
  congr 1
  have late : ∀ {a q}, line[a]? = some q → ∀ {k x}, a ≤ k → it l k start = some x → it l (k - a) q = some x := fun {a q} ha {k x} hk hx => by
    have : k = a + (k - a) := by omega
    rw [this, it_add, w.path a q ha] at hx
    exact hx
  by_cases hh : here ∈ line
  · rw [if_pos hh]
    symm
    obtain ⟨j, hj, ej⟩ := at_of hh
    have cyh : Cy l here := ⟨line.length - j, by omega, late ej (by omega) w.here⟩
    have inl : ∀ k q, it l k here = some q → q ∈ line := by
      intro k
      induction k with
      | zero => intro q e; cases e; exact hh
      | succ k ih =>
        intro q e
        obtain ⟨x, h1, h2⟩ := Option.bind_eq_some_iff.mp (show (it l k here).bind (nx l) = some q from e)
        rcases w.next (ih x h1) h2 with h | rfl
        · exact h
        · exact hh
    obtain ⟨m, ⟨k0, q0, g1, g2⟩, g3⟩ := min_ex (Q := fun n => ∃ k q, it l k here = some q ∧ ρ q = n) (ρ here) ⟨0, here, rfl, rfl⟩
    have le0 : Le ρ l q0 := ⟨cyh.on g1, fun n q e => by
      have : it l (k0 + n) here = some q := by rw [it_add, g1]; exact e
      have := g3 (ρ q) ⟨_, q, this, rfl⟩
      omega⟩
    refine count_one (A := fun x : α × α => Le ρ l x.1 ∧ x.1 ∈ line) hn (p := q0) (w.dom q0 (inl k0 q0 g1)) fun x hx => ⟨fun ⟨h1, h2⟩ => ?_, fun e => ?_⟩
    · have key : ∀ {p p' : α} {a b : Nat}, line[a]? = some p → line[b]? = some p' → a ≤ b → Le ρ l p → Le ρ l p' → ρ p = ρ p' := fun {p p' a b} ha hb hab lp lp' => by
        have h3 := late ha hab (w.path b p' hb)
        obtain ⟨m, h4⟩ := lp.1.back h3
        exact Nat.le_antisymm (lp.2 _ _ h3) (lp'.2 _ _ h4)
      obtain ⟨a, ha, ea⟩ := at_of h2
      obtain ⟨b, hb, eb⟩ := at_of (inl k0 q0 g1)
      refine hi _ (w.dom _ h2) _ (w.dom _ (inl k0 q0 g1)) ?_
      by_cases hab : a ≤ b
      · exact key ea eb hab h1 le0
      · exact (key eb ea (by omega) le0 h1).symm
    · rw [e]
      exact ⟨le0, inl k0 q0 g1⟩
  · rw [if_neg hh]
    symm
    rw [List.countP_eq_zero]
    intro x hx'
    rw [decide_eq_true_eq]
    rintro ⟨⟨c, _⟩, h2⟩
    obtain ⟨a, ha, ea⟩ := at_of h2
    have h3 := late ea (by omega) w.here
    have ch := c.on h3
    obtain ⟨m, h4⟩ := c.back h3
    rcases hx with h | h | h
    · obtain ⟨q, hq⟩ := ch.ex 1
      have hq : nx l here = some q := hq
      rw [nx_none h] at hq
      cases hq
    · have stay : ∀ k q, it l k here = some q → q ∈ seen := by
        intro k
        induction k with
        | zero => intro q e; cases e; exact h
        | succ k ih =>
          intro q e
          obtain ⟨y, h5, h6⟩ := Option.bind_eq_some_iff.mp (show (it l k here).bind (nx l) = some q from e)
          refine s.cl y (ih y h5) q h6 ?_
          obtain ⟨z, hz⟩ := (ch.on e).ex 1
          have hz : nx l q = some z := hz
          exact List.mem_map.mpr ⟨_, nx_mem hz, rfl⟩
      exact w.apart _ h2 (stay m _ h4)
    · exact hh h
theorem Seen.start : Seen ρ l [] 0 := ⟨fun q h => (nomatch h), fun q h => (nomatch h), by
  symm
  rw [List.countP_eq_zero]
  intro x _
  simp⟩
theorem Seen.all {seen : List α} {cnt : Nat} (s : Seen ρ l seen cnt) (h : ∀ q ∈ l.map (·.1), q ∈ seen) : cnt = R ρ l := by
  rw [s.cnt]
  unfold R
  refine List.countP_congr fun x hx => ?_
  simp only [decide_eq_true_eq]
  exact ⟨fun z => z.1, fun z => ⟨z, h _ (List.mem_map.mpr ⟨x, hx, rfl⟩)⟩⟩
end Rg

namespace My
open PySem L2 Mi
/-- places, sources -/
inductive So where
  | reg (r : Int) | fr (r : Int) | num (i : Int) | tru (b : Bool)
  deriving DecidableEq
def So.D : So → Mi.D
  | .reg r => .tup [.str "reg", .int r]
  | .fr r => .tup [.str "frame", .int r]
  | .num r => .tup [.str "num", .int r]
  | .tru b => .tup [.str "truth", .bl b]
def So.isP : So → Bool
  | .reg _ => true
  | .fr _ => true
  | _ => false
def So.py : So → PyData
  | .reg r => .tuple [.str "reg", .int r]
  | .fr r => .tuple [.str "frame", .int r]
  | .num r => .tuple [.str "num", .int r]
  | .tru b => .tuple [.str "truth", .bool b]
def prD (x : So × So) : Mi.D := .tup [x.1.D, x.2.D]
def prP (x : So × So) : PyData := .tuple [x.1.py, x.2.py]
theorem So.toPy (a : So) (S : Sto) (n : Nat) : Mi.toPy S (n + 2) a.D = some a.py := by cases a <;> simp [So.D, So.py, Mi.toPy]
theorem pr_py (x : So × So) (S : Sto) (n : Nat) : Mi.toPy S (n + 3) (prD x) = some (prP x) := by
  have h1 := x.1.toPy S n
  have h2 := x.2.toPy S n
  show (([x.1.D, x.2.D] : List Mi.D).mapM (Mi.toPy S (n + 2))).map PyData.tuple = _
  rw [List.mapM_cons, h1, List.mapM_cons, h2]
  rfl
theorem ofStr_ne {a b : String} (h : a ≠ b) : (Str.ofString a == Str.ofString b) = false := by rw [ofStr_beq]; exact decide_eq_false h
theorem So.eqv (a b : So) : PyData.eqv a.py b.py = decide (a = b) := by
  cases a <;> cases b <;> simp [So.py, ofStr_beq] <;> first | rfl | (rename_i b c; cases b <;> cases c <;> rfl)
theorem pr_eqv (x y : So × So) : PyData.eqv (prP x) (prP y) = decide (x = y) := by
  obtain ⟨a, b⟩ := x
  obtain ⟨c, d⟩ := y
  simp [prP, So.eqv, Prod.ext_iff]
theorem eq_so {S : Sto} (a b : So) : eqD S a.D b.D = some (decide (a = b)) := by
  rw [eqD_of (a.toPy S 38) (b.toPy S 38), So.eqv]
theorem mapM_of {α β γ : Type} {f : α → Option β} {g : γ → α} {h : γ → β} (e : ∀ c, f (g c) = some (h c)) : ∀ l : List γ, (l.map g).mapM f = some (l.map h)
  | [] => rfl
  | c :: l => by rw [List.map_cons, List.mapM_cons, e, mapM_of e l]; rfl
theorem in_so {S : Sto} (a : So) (l : List So) : anyEq S a.D (l.map So.D) = some (decide (a ∈ l)) := by
  unfold anyEq
  rw [a.toPy S 38, mapM_of (fun c => So.toPy c S 37) l]
  simp only
  congr 1
  induction l with
  | nil => rfl
  | cons b l ih =>
    rw [List.map_cons, List.any_cons, ih, So.eqv]
    by_cases h : b = a
    · simp [h]
    · have h' : ¬ a = b := fun e => h e.symm
      simp [h, h']
theorem in_pr {S : Sto} (a : So × So) (l : List (So × So)) : anyEq S (prD a) (l.map prD) = some (decide (a ∈ l)) := by
  unfold anyEq
  rw [pr_py a S 37, mapM_of (fun c => pr_py c S 36) l]
  simp only
  congr 1
  induction l with
  | nil => rfl
  | cons b l ih =>
    rw [List.map_cons, List.any_cons, ih, pr_eqv]
    by_cases h : b = a
    · simp [h]
    · have h' : ¬ a = b := fun e => h e.symm
      simp [h, h']
theorem prs_py (l : List (So × So)) (S : Sto) (n : Nat) : (l.map prD).mapM (Mi.toPy S (n + 3)) = some (l.map prP) := mapM_of (fun c => pr_py c S n) l
theorem prs_eqv : ∀ l : List (So × So), PyData.eqvAll (l.map prP) (l.map prP) = true
  | [] => by simp
  | x :: l => by simp [pr_eqv, prs_eqv l]
theorem eq_prs {S : Sto} {p q : Nat} {l : List (So × So)} (hp : S[p]? = some (.lst (l.map prD))) (hq : S[q]? = some (.lst (l.map prD))) : eqD S (.ref p) (.ref q) = some true := by
  have t : ∀ k, S[k]? = some (.lst (l.map prD)) → Mi.toPy S 40 (.ref k) = some (.list (l.map prP)) := fun k hk => by simp only [Mi.toPy, hk, prs_py l S 36]; rfl
  rw [eqD_of (t p hp) (t q hq), q_list_list, prs_eqv]
theorem eq_prn {S : Sto} {p q : Nat} {l : List (So × So)} (hp : S[p]? = some (.lst (l.map prD))) (hq : S[q]? = some (.lst [])) : eqD S (.ref p) (.ref q) = some l.isEmpty := by
  have t1 : Mi.toPy S 40 (.ref p) = some (.list (l.map prP)) := by simp only [Mi.toPy, hp, prs_py l S 36]; rfl
  have t2 : Mi.toPy S 40 (.ref q) = some (.list []) := by simp [Mi.toPy, hq]
  rw [eqD_of t1 t2, q_list_list]
  cases l <;> simp
theorem eq_ii {S : Sto} {i j : Int} : eqD S (.int i) (.int j) = some (i == j) := by
  rw [eqD_of (x := .int i) (y := .int j) rfl rfl, q_int_int]
theorem eq_ss {S : Sto} {a b : String} : eqD S (.str a) (.str b) = some (decide (a = b)) := by
  rw [eqD_of (x := .str a) (y := .str b) (by simp [Mi.toPy]) (by simp [Mi.toPy]), q_str_str, ofStr_beq]
/-! keys -/
def So.key : So → List Key
  | .reg r => [.inr (Str.ofString "reg"), .inl r]
  | .fr r => [.inr (Str.ofString "frame"), .inl r]
  | .num r => [.inr (Str.ofString "num"), .inl r]
  | .tru b => [.inr (Str.ofString "truth"), .inl (if b = true then 1 else 0)]
theorem So.keyTB (a : So) : a.D.keyTB = some a.key := by cases a <;> rfl
theorem So.keyT {a : So} (h : a.isP = true) : a.D.keyT = some a.key := by cases a <;> first | rfl | cases h
theorem So.keyD {a : So} (h : a.isP = true) : D.tup (a.key.map Mi.keyD) = a.D := by cases a <;> first | rfl | cases h
theorem str_inj {a b : String} (h : Str.ofString a = Str.ofString b) : a = b := by
  have := ofStr_beq (a := a) (b := b)
  rw [h] at this
  simpa using this
theorem So.key_inj {a b : So} (h : a.key = b.key) : a = b := by
  cases a <;> cases b <;> simp only [So.key, List.cons.injEq, Sum.inr.injEq, Sum.inl.injEq, and_true] at h <;> first
    | (obtain ⟨_, rfl⟩ := h; rfl)
    | (exact absurd (str_inj h.1) (by decide))
    | skip
  rename_i b c
  obtain ⟨_, h⟩ := h
  cases b <;> cases c <;> first | rfl | simp at h
end My

namespace My
open PySem L2 Mi
/-- nothing else is changed -/
def Fr (r : Nat) (S S' : Sto) : Prop := ∀ n o, n ≠ r → S[n]? = some o → S'[n]? = some o
theorem Fr.refl (r : Nat) (S : Sto) : Fr r S S := fun n o _ h => h
theorem Fr.app {r : Nat} {S : Sto} (T : Sto) : Fr r S (S ++ T) := fun n o _ h => by
  rw [List.getElem?_append_left (List.getElem?_eq_some_iff.mp h).1]; exact h
theorem Fr.trans {r : Nat} {S S1 S2 : Sto} (a : Fr r S S1) (b : Fr r S1 S2) : Fr r S S2 := fun n o hn h => b n o hn (a n o hn h)
theorem Fr.set {r : Nat} {S : Sto} {o : MO} : Fr r S (S.set r o) := fun n o hn h => by
  rw [List.getElem?_set_ne (Ne.symm hn)]; exact h
theorem Fr.ext {r : Nat} {S S' : Sto} (h : Ext S S') : Fr r S S' := by
  obtain ⟨T, rfl⟩ := h
  exact Fr.app T
/-- a list of numbers -/
def Nl (r : Nat) (S : Sto) : Prop := ∃ ns : List Int, S[r]? = some (.lst (ns.map .int))
theorem Nl.ext {r : Nat} {S S' : Sto} (h : Nl r S) (e : Ext S S') : Nl r S' := by
  obtain ⟨ns, h⟩ := h
  exact ⟨ns, e.at h⟩
theorem Nl.lt {r : Nat} {S : Sto} (h : Nl r S) : r < S.length := by
  obtain ⟨ns, h⟩ := h
  exact (List.getElem?_eq_some_iff.mp h).1
def Gl (r : Nat) (S S' : Sto) : Prop := Nl r S' ∧ Fr r S S'
theorem Gl.trans {r : Nat} {S S1 S2 : Sto} (a : Gl r S S1) (b : Gl r S1 S2) : Gl r S S2 := ⟨b.1, a.2.trans b.2⟩
theorem Gl.ext {r : Nat} {S S1 S2 : Sto} (a : Gl r S S1) (b : Ext S1 S2) : Gl r S S2 := ⟨a.1.ext b, a.2.trans (.ext b)⟩
theorem Gl.of {r : Nat} {S S1 : Sto} (a : Nl r S) (b : Ext S S1) : Gl r S S1 := ⟨a.ext b, .ext b⟩
def mix1 (c k : Int) : Int := (c % 2147483629 * 48271 + k * 7919 + 104729) % 2147483629
def mix2 (c k : Int) : Int := (mix1 c k * mix1 c k % 2147483629 * 16807 + k * 104729 + 11) % 2147483587
def mixV (c k : Int) : Int := mix2 c k * mix2 c k % 2147483587
theorem mixed_ok (n : Nat) (c k : Int) (S : Sto) : fnN G (n + 1) 2 [.int c, .int k] S = .ok (.int (mixV c k)) S := by
  have h : (fnN G (n + 1) 2 [.int c, .int k] S).Ok fun d S' => S' = S ∧ d = .int (mixV c k) := by
    refine run_ok f2 rfl rfl fun Y hf hg => ?_
    simp [f2]
    refine w_set rfl ?_
    simp [-Out.bind, binD_mod, binD_mulL, binD_mulR, small_mod, small_lit]
    refine w_set rfl ?_
    simp [-Out.bind, binD_mod, binD_mulL, binD_mulR, small_mod, small_lit]
    refine w_ret rfl ?_
    simp [-Out.bind, binD_mod, binD_mulL, binD_mulR, small_mod, small_lit, mixV, mix2, mix1]
  obtain ⟨d, S', e, rfl, rfl⟩ := h.ex
  exact e
theorem pow18 {S : Sto} : binD .Pow (.int 10) (.int 18) S = .ok (.int 1000000000000000000) S := by
  have h : binD .Pow (.int 10) (.int 18) S = (if (0 : Int) ≤ 18 ∧ (18 : Int) ≤ 1000000 ∧ (10 : Int).natAbs < 2 ^ 64 then Out.ok (.int ((10 : Int) ^ (18 : Int).toNat)) S else .no) := rfl
  rw [h, if_pos (by decide)]
  rfl
theorem at_nat {xs : List D} {k : Nat} (h : k < xs.length) : atI xs (k : Int) = some xs[k] := by
  obtain ⟨d, hd, e⟩ := atI_mem (xs := xs) (k := (k : Int)) (by omega) (by omega)
  rw [e]
  unfold atI ixN at e
  simp at e
  have h0 : ¬ ((k : Int) < 0) := by omega
  simp [h0, h] at e
  rw [← e]
theorem at_0 {a : D} {xs : List D} : atI (a :: xs) 0 = some a := at_nat (xs := a :: xs) (k := 0) (by simp)
theorem at_1 {a b : D} {xs : List D} : atI (a :: b :: xs) 1 = some b := at_nat (xs := a :: b :: xs) (k := 1) (by simp)
theorem at_2 {a b c : D} {xs : List D} : atI (a :: b :: c :: xs) 2 = some c := at_nat (xs := a :: b :: c :: xs) (k := 2) (by simp)
/-- one cell -/
theorem cell_ok (n : Nat) {cs : List Int} {k : Int} (h0 : 0 ≤ k) (S : Sto) : (fnN G (n + 1) 1 [.rol (cs.map .int), .int k] S).Ok fun v S' => S' = S ∧ ∃ x, v = .int x := by
  generalize hF : fnN G (n + 1) = F
  refine run_okF hF f1 rfl rfl fun Y hf hg => ?_
  simp [f1]
  refine w_if rfl ?_
  by_cases hk : k < cs.length
  · obtain ⟨d, hd, e⟩ := atI_mem (xs := cs.map D.int) (k := k) h0 (by simpa using hk)
    obtain ⟨x, _, rfl⟩ := List.mem_map.mp hd
    simp [-Out.bind, bi_len, hk]
    refine w_ret rfl ?_
    simp [-Out.bind, e]
  · simp [-Out.bind, bi_len, hk]
    refine w_ret rfl ?_
    simp [-Out.bind]
theorem eq_ints {S : Sto} {p q : Nat} {ns : List Int} (hp : S[p]? = some (.lst (ns.map .int))) (hq : S[q]? = some (.lst [])) : eqD S (.ref p) (.ref q) = some ns.isEmpty := by
  have t1 : toPy S 40 (.ref p) = some (.list (ns.map .int)) := by simp only [toPy, hp, mapM_of (f := toPy S 39) (g := D.int) (h := PyData.int) (fun _ => rfl)]; rfl
  have t2 : toPy S 40 (.ref q) = some (.list []) := by simp [toPy, hq]
  rw [eqD_of t1 t2, q_list_list]
  cases ns <;> simp
/-- the next number -/
theorem take_ok (n : Nat) {r : Nat} {S : Sto} (h : Nl r S) : (fnN G (n + 1) 4 [.ref r] S).Ok fun v S' => Gl r S S' ∧ ∃ x : Int, v = .int x := by
  generalize hF : fnN G (n + 1) = F
  refine run_okF hF f4 rfl rfl fun Y hf hg => ?_
  simp only [f4]
  refine w_if rfl ?_
  show (ev Y _ [some (.ref r)] S).Ok _
  obtain ⟨ns, hns⟩ := id h
  have x1 : Ext S (S ++ [.lst []]) := Ext_app _ _
  have hq := x1.at hns
  have ee := eq_ints hq (q := S.length) (by simp)
  rw [ev_cmp, ev_var (d := .ref r) rfl, bind_ok, ev_lst, evs_nil, bind_ok, if_pos (by simp [lim]), new_eq, bind_ok, cmpD_eq, ee, obl_some, Ok_ok, truthD_bl]
  have g1 := Gl.of h x1
  generalize S ++ [MO.lst []] = S1 at g1 hq
  cases ns with
  | nil =>
    refine w_ret rfl ?_
    rw [ev_con, Ok_ok]
    exact ⟨g1, 0, rfl⟩
  | cons x ns =>
    refine w_nil (w_ret rfl ?_)
    have hlt := (List.getElem?_eq_some_iff.mp hq).1
    have ep : ev Y (.bm .popAt (.var 0) (.cons (.con (.int (0))) .nil)) [some (.ref r)] S1 = .ok (.int x) (S1.set r (.lst (ns.map .int))) := by
      simp [-Out.bind, hq, bmD, ixN]
    show (ev Y _ [some (.ref r)] S1).Ok _
    rw [ep, Ok_ok]
    exact ⟨g1.trans ⟨⟨ns, List.getElem?_set_self hlt⟩, Fr.set⟩, x, rfl⟩
end My

namespace My
open PySem L2 Mi
/-- a list of some numbers -/
def Nk (p m : Nat) (S : Sto) : Prop := ∃ ns : List Int, S[p]? = some (.lst (ns.map .int)) ∧ ns.length ≤ m
theorem app_ok {Y : Fs} {env : Mi.Env} {S S1 : Sto} {p m : Nat} {i : Nat} {e : E} {x : Int} (hv : env[i]? = some (some (.ref p))) (hp : Nk p m S) (hm : m < 1000) (he : ev Y e env S = .ok (.int x) S) :
    (ev Y (.bm .append (.var i) (.cons e .nil)) env S).Ok fun _ S' => Nk p (m + 1) S' ∧ Fr p S S' := by
  obtain ⟨ns, h1, h2⟩ := hp
  have hlt := (List.getElem?_eq_some_iff.mp h1).1
  have hl : (ns.map D.int).length < lim := by simp [lim]; omega
  rw [ev_bm, ev_var hv, bind_ok]
  have hk : bmK .append (.ref p) S = true := by simp [h1]
  rw [if_pos hk, evs_cons, he, bind_ok, evs_nil, bind_ok, bind_ok, bm_append, h1]
  simp only
  rw [if_pos hl, Ok_ok]
  exact ⟨⟨ns ++ [x], by simp [List.getElem?_set_self hlt], by simp; omega⟩, Fr.set⟩
theorem numbers_ok (n : Nat) {a b : Int} {q : Nat} {S : Sto} (hq : S[q]? = some (.lst [.int a, .int b])) : (fnN G (n + 2) 3 [.ref q, .int 60] S).Ok fun v S' => ∃ r, v = .ref r ∧ Nl r S' := by
  generalize hF : fnN G (n + 2) = F
  refine run_okF hF f3 rfl rfl fun Y hf hg => ?_
  simp only [f3]
  refine w_set rfl ?_
  rw [ev_lst, evs_nil, bind_ok, if_pos (by simp [lim]), new_eq, Ok_ok]
  show (execs Y f3_10 [some (.ref q), some (.int 60), some (.ref S.length), none, none, none] (S ++ [.lst []])).F _
  have hqp : q ≠ S.length := Nat.ne_of_lt (List.getElem?_eq_some_iff.mp hq).1
  have hq1 := (Ext_app S [.lst []]).at hq
  have hp1 : Nk S.length 0 (S ++ [.lst []]) := ⟨[], by simp, by simp⟩
  generalize S ++ [MO.lst []] = S1 at hq1 hp1
  generalize S.length = p at hqp hp1
  refine w_for rfl ?_
  have eI : evI Y (.val (.var 0)) [some (.ref q), some (.int 60), some (.ref p), none, none, none] S1 = .ok (.seq (.ref q)) S1 := by
    rw [evI_val, ev_var (d := .ref q) rfl, bind_ok]
    simp [seqAt, lstAt, hq1]
  rw [eI, Ok_ok]
  refine for_lst (xs := [.int a, .int b]) (fun i e S' => S'[q]? = some (.lst [.int a, .int b]) ∧ Nk p (40 * i) S' ∧ ∃ x y z, e = [some (.ref q), some (.int 60), some (.ref p), x, y, z]) (by simp [lim]) ⟨hq1, hp1, _, _, _, rfl⟩ (fun i e S' h => h.1) ?_ ?_
  · rintro i hi e S2 ⟨hq2, hp2, x, y, z, rfl⟩
    have hi2 : i < 2 := by simpa using hi
    obtain ⟨c, hc⟩ : ∃ c : Int, ([.int a, .int b] : List D)[i] = .int c := by
      have : i = 0 ∨ i = 1 := by omega
      rcases this with rfl | rfl <;> exact ⟨_, rfl⟩
    rw [hc]
    refine ⟨_, rfl, ?_⟩
    show (execs Y f3_9 [some (.ref q), some (.int 60), some (.ref p), some (.int c), y, z] S2).F _
    refine w_set rfl ?_
    rw [ev_var (d := .int c) rfl, Ok_ok]
    show (execs Y f3_8 [some (.ref q), some (.int 60), some (.ref p), some (.int c), some (.int c), z] S2).F _
    refine w_for rfl ?_
    rw [evI_rng1, ev_con, bind_ok]
    simp only
    rw [if_pos (by decide), Ok_ok]
    refine for_rng (m := (40 : Int).toNat) (fun j e S' => S'[q]? = some (.lst [.int a, .int b]) ∧ Nk p (40 * i + j) S' ∧ ∃ (u : Int) (w : Option D), e = [some (.ref q), some (.int 60), some (.ref p), some (.int c), some (.int u), w]) (by decide) ⟨hq2, hp2, _, _, rfl⟩ ?_ ?_
    · rintro j e S3 ⟨hq3, hp3, u, w, rfl⟩ hj
      have hj : j < 40 := hj
      rw [Int.zero_add]
      show (execs Y f3_7 [some (.ref q), some (.int 60), some (.ref p), some (.int c), some (.int u), some (.int j)] S3).F _
      have v2 : ([some (.ref q), some (.int 60), some (.ref p), some (.int c), some (.int u), some (.int j)] : Mi.Env)[2]? = some (some (.ref p)) := rfl
      have v3 : ([some (.ref q), some (.int 60), some (.ref p), some (.int c), some (.int u), some (.int j)] : Mi.Env)[3]? = some (some (.int c)) := rfl
      have v4 : ([some (.ref q), some (.int 60), some (.ref p), some (.int c), some (.int u), some (.int j)] : Mi.Env)[4]? = some (some (.int u)) := rfl
      refine w_if rfl ?_
      simp only [ev_cmp, ev_var v3, bind_ok, ev_bin, ev_con, pow18, cmpD_lt, obl_some, Ok_ok, truthD_bl]
      by_cases hc1 : c < 1000000000000000000
      · rw [decide_eq_true hc1]
        refine w_ex rfl ?_
        obtain ⟨ns, hns, hnl⟩ := id hp3
        have ee : ev Y (.bin .Mod (.call 2 (.cons (.var 3) (.cons (.bi .len (.cons (.var 2) .nil)) .nil))) (.con (.int (1009)))) [some (.ref q), some (.int 60), some (.ref p), some (.int c), some (.int u), some (.int j)] S3 = .ok (.int (mixV c ns.length % 1009)) S3 := by
          simp [-Out.bind, hf, mixed_ok, bi_len, hns, binD_mod]
        refine Ok_imp (app_ok (S1 := S3) v2 hp3 (by omega) ee) ?_
        rintro d S4 ⟨h5, h6⟩
        exact w_nil (w_nil ⟨h6 _ _ hqp hq3, h5, _, _, rfl⟩)
      · rw [decide_eq_false hc1]
        refine w_if rfl ?_
        simp only [ev_cmp, ev_var v4, bind_ok, ev_con, cmpD_gt, obl_some, Ok_ok, truthD_bl]
        by_cases hu : 0 < u
        · rw [decide_eq_true hu]
          refine w_ex rfl ?_
          have ee : ev Y (.bin .Mod (.var 4) (.con (.int (1009)))) [some (.ref q), some (.int 60), some (.ref p), some (.int c), some (.int u), some (.int j)] S3 = .ok (.int (u % 1009)) S3 := by
            simp [-Out.bind, binD_mod]
          refine Ok_imp (app_ok (S1 := S3) v2 hp3 (by omega) ee) ?_
          rintro d S4 ⟨h5, h6⟩
          refine w_set rfl ?_
          simp only [ev_bin, ev_var v4, ev_con, bind_ok, binD_fdiv (i := u) (j := 1009) (by decide) (by decide), Ok_ok]
          exact w_nil (w_nil (w_nil ⟨h6 _ _ hqp hq3, h5, _, _, rfl⟩))
        · rw [decide_eq_false hu]
          obtain ⟨ns, h5, h6⟩ := hp3
          exact w_nil (w_nil (w_nil ⟨hq3, ⟨ns, h5, by omega⟩, _, _, rfl⟩))
    · rintro e S3 ⟨hq3, hp3, u, w, rfl⟩
      exact w_nil ⟨hq3, hp3, _, _, _, rfl⟩
  · rintro e S2 ⟨hq2, hp2, x, y, z, rfl⟩
    have hp2 : Nk p 80 S2 := hp2
    refine w_whl rfl ?_
    refine whlN_inv (fun m e S' => (∃ ns : List Int, S'[p]? = some (.lst (ns.map .int)) ∧ ns.length ≤ 80 ∧ 80 - ns.length ≤ m) ∧ ∃ x y z, e = [some (.ref q), some (.int 60), some (.ref p), x, y, z]) ?_ (lim + 2) 80 _ _ ?_ (by simp only [lim]; omega)
    · rintro m e S3 ⟨⟨ns, h5, h6, h7⟩, x, y, z, rfl⟩
      have v2 : ([some (.ref q), some (.int 60), some (.ref p), x, y, z] : Mi.Env)[2]? = some (some (.ref p)) := rfl
      have v1 : ([some (.ref q), some (.int 60), some (.ref p), x, y, z] : Mi.Env)[1]? = some (some (.int 60)) := rfl
      have el : biD .len [.ref p] S3 = .ok (.int ns.length) S3 := by
        rw [bi_len (n := ns.length) (by simp [h5])]
      simp only [evT_eq, ev_cmp, ev_bi, evs_cons, evs_nil, ev_var v2, ev_var v1, bind_ok, el, cmpD_lt, obl_some, truthD_bl, Ok_ok]
      by_cases hc : (ns.length : Int) < 60
      · rw [decide_eq_true hc]
        simp only
        refine w_ex rfl ?_
        have ee : ev Y (.bin .Mod (.call 2 (.cons (.bi .len (.cons (.var 2) .nil)) (.cons (.var 1) .nil))) (.con (.int (1009)))) [some (.ref q), some (.int 60), some (.ref p), x, y, z] S3 = .ok (.int (mixV ns.length 60 % 1009)) S3 := by
          simp [-Out.bind, hf, mixed_ok, el, binD_mod]
        have hlt := (List.getElem?_eq_some_iff.mp h5).1
        have hk : bmK .append (.ref p) S3 = true := by simp [h5]
        rw [ev_bm, ev_var v2, bind_ok, if_pos hk, evs_cons, ee, bind_ok, evs_nil, bind_ok, bind_ok, bm_append, h5]
        simp only
        rw [if_pos (by simp [lim]; omega), Ok_ok]
        refine w_nil ⟨m - 1, by omega, ⟨ns ++ [mixV ns.length 60 % 1009], by simp [List.getElem?_set_self hlt], by simp; omega, by simp; omega⟩, _, _, _, rfl⟩
      · rw [decide_eq_false hc]
        simp only
        refine w_ret rfl ?_
        rw [ev_slc01, ev_var v2, bind_ok, ev_var v1, bind_ok]
        simp only
        have es : slcD (.ref p) none (some 60) S3 = .ok (.ref S3.length) (S3 ++ [.lst (cutD (ns.map .int) none (some 60))]) := by
          simp [slcD, seqAt, lstAt, h5]
        rw [es, Ok_ok]
        refine ⟨_, rfl, (ns.drop (HT.sIx ns.length 0 none)).take (HT.sIx ns.length ns.length (some 60) - HT.sIx ns.length 0 none), ?_⟩
        simp [cutD, List.map_drop, List.map_take]
    · obtain ⟨ns, h5, h6⟩ := hp2
      exact ⟨⟨ns, h5, h6, by omega⟩, _, _, _, rfl⟩
end My

namespace My
open PySem L2 Mi
def allP : List So := [.reg 0, .reg 1, .reg 2, .reg 3, .fr 0, .fr 1, .fr 2, .fr 3, .fr 4, .fr 5]
theorem allP_P : ∀ x ∈ allP, x.isP = true := by decide
theorem allP_nd : allP.Nodup := by decide
/-- a comprehension of pairs with a word -/
theorem comp_w {Y : Fs} {env : Mi.Env} {S : Sto} {x : Str} {j m : Nat} {w : String} (hm : m ≤ 100) (hj : j < env.length) : ev Y (.comp [(x, j)] (.nm j) (.rng1 (.con (.int m))) .nil (.tup (.cons (.con (.str w)) (.cons (.var j) .nil)))) env S = .ok (.ref S.length) (S ++ [.lst ((List.range m).map fun k : Nat => .tup [.str w, .int k])]) := by
  rw [ev_comp, evI_rng1, ev_con, bind_ok]
  simp only
  rw [if_pos (by omega), bind_ok]
  have c := comp_pure (S := S) (xs := (List.range m).map fun k : Nat => D.int k) (nx := itNext (.rng 0 m)) (as := asg (.nm j)) (tt := fun e s => (evIfs Y .nil e s).calm) (elt := fun e s => (ev Y (.tup (.cons (.con (.str w)) (.cons (.var j) .nil))) e s).calm) (env := wipeD env [j]) (fun d => (wipeD env [j]).set j (some d)) (fun _ => true) (fun d => .tup [.str w, d]) (by simp [lim]; omega) (fun i => ?_) (fun d hd => rfl) (fun d hd => by simp [-Out.bind]) (fun d hd _ => ?_)
  · have e1 : (([(x, j)] : List (Str × Nat)).map (·.2)) = [j] := rfl
    have e2 : (m : Int).toNat = m := by omega
    rw [e1, e2, c, bind_ok, new_eq]
    congr 3
    rw [List.filter_eq_self.mpr (fun _ _ => rfl), List.map_map]
    rfl
  · by_cases hi : i < m
    · simp [itNext, hi]
    · simp [itNext, hi]
  · have hv : ((wipeD env [j]).set j (some d))[j]? = some (some d) := by
      rw [List.getElem?_set_self]
      have : (wipeD env [j]).length = env.length := by simp [wipeD]
      omega
    simp only [ev_tup, evs_cons, evs_nil, ev_con, ev_var hv, bind_ok, List.length_cons, List.length_nil]
    rw [if_pos (by simp [lim])]
    rfl
theorem places_at {Y : Fs} {env : Mi.Env} {S : Sto} (hl : env.length = 12) : ev Y (.bin .Add (.comp [("_law_r", 2)] (.nm 2) (.rng1 (.con (.int (4)))) .nil (.tup (.cons (.con (.str "reg")) (.cons (.var 2) .nil)))) (.comp [("_law_f", 3)] (.nm 3) (.rng1 (.con (.int (6)))) .nil (.tup (.cons (.con (.str "frame")) (.cons (.var 3) .nil))))) env S =
    .ok (.ref (S.length + 2)) (S ++ [.lst ((List.range 4).map fun k : Nat => .tup [.str "reg", .int k])] ++ [.lst ((List.range 6).map fun k : Nat => .tup [.str "frame", .int k])] ++ [.lst (allP.map So.D)]) := by
  have a := comp_w (Y := Y) (env := env) (S := S) (x := "_law_r") (j := 2) (m := 4) (w := "reg") (by omega) (by omega)
  have b := comp_w (Y := Y) (env := env) (S := S ++ [.lst ((List.range 4).map fun k : Nat => .tup [.str "reg", .int k])]) (x := "_law_f") (j := 3) (m := 6) (w := "frame") (by omega) (by omega)
  have a' : ev Y (.comp [("_law_r", 2)] (.nm 2) (.rng1 (.con (.int 4))) .nil (.tup (.cons (.con (.str "reg")) (.cons (.var 2) .nil)))) env S = _ := a
  have b' : ev Y (.comp [("_law_f", 3)] (.nm 3) (.rng1 (.con (.int 6))) .nil (.tup (.cons (.con (.str "frame")) (.cons (.var 3) .nil)))) env (S ++ [.lst ((List.range 4).map fun k : Nat => .tup [.str "reg", .int k])]) = _ := b
  rw [ev_bin, a', bind_ok, b', bind_ok, binD_addR]
  have l1 : lstAt (S ++ [.lst ((List.range 4).map fun k : Nat => D.tup [.str "reg", .int k])] ++ [.lst ((List.range 6).map fun k : Nat => D.tup [.str "frame", .int k])]) S.length = some ((List.range 4).map fun k : Nat => .tup [.str "reg", .int k]) := by
    simp [lstAt]
  rw [l1, lstAt_last]
  simp only
  rw [if_pos (by simp [lim]), new_eq]
  congr 1
  · simp
/-- the things that the law draws with -/
structure Dr (r pl ev pp : Nat) (rest : List So) (l : List (So × So)) (S : Sto) : Prop where
  num : Nl r S
  pl : S[pl]? = some (.lst (rest.map So.D))
  ev : S[ev]? = some (.lst (allP.map So.D))
  pp : S[pp]? = some (.lst (l.map prD))
structure Ap (r pl ev pp : Nat) : Prop where
  a1 : pl ≠ r
  a2 : ev ≠ r
  a3 : pp ≠ r
  a4 : ev ≠ pl
  a5 : pp ≠ pl
  a6 : ev ≠ pp
theorem Dr.gl {r pl ev pp : Nat} {rest : List So} {l : List (So × So)} {S S' : Sto} (d : Dr r pl ev pp rest l S) (a : Ap r pl ev pp) (g : Gl r S S') : Dr r pl ev pp rest l S' :=
  ⟨g.1, g.2 _ _ a.a1 d.pl, g.2 _ _ a.a2 d.ev, g.2 _ _ a.a3 d.pp⟩
theorem Dr.ext {r pl ev pp : Nat} {rest : List So} {l : List (So × So)} {S S' : Sto} (d : Dr r pl ev pp rest l S) (g : Ext S S') : Dr r pl ev pp rest l S' :=
  ⟨d.num.ext g, g.at d.pl, g.at d.ev, g.at d.pp⟩
/-- a number below another one, drawn -/
theorem drawn {n : Nat} {Y : Fs} {env : Mi.Env} {r : Nat} {S : Sto} (hf : Y.f = fnN G (n + 1)) (hv : env[0]? = some (some (.ref r))) (h : Nl r S) : (ev Y (.call 4 (.cons (.var 0) .nil)) env S).Ok fun v S' => Gl r S S' ∧ ∃ x : Int, v = .int x := by
  rw [ev_call, evs_cons, ev_var hv, bind_ok, evs_nil, bind_ok, bind_ok, hf]
  exact take_ok n h
theorem md {x m : Int} (h : 0 < m) : ∃ k : Nat, x % m = (k : Int) ∧ (k : Int) < m := ⟨(x % m).toNat, by have := Int.emod_nonneg x (Int.ne_of_gt h); omega, by have := Int.emod_nonneg x (Int.ne_of_gt h); have := Int.emod_lt_of_pos x h; omega⟩
theorem at_map {α : Type} {f : α → D} {l : List α} {k : Nat} (h : k < l.length) : atI (l.map f) (k : Int) = some (f l[k]) := by
  rw [at_nat (by simpa using h)]
  simp
theorem ixN_nat {n k : Nat} (h : k < n) : ixN n (k : Int) = some k := by
  have h0 : ¬ ((k : Int) < 0) := by omega
  simp [ixN, h0, h]
end My

namespace My
open PySem L2 Mi
theorem comp_swap {l : List (So × So)} {i : Nat} {s : So} (h : i < l.length) : (l.set i (l[i].1, s)).map (·.1) = l.map (·.1) := by
  rw [List.map_set]
  have : (l.map (·.1))[i]'(by simpa using h) = l[i].1 := by simp
  rw [← this]
  exact List.set_getElem_self _
section
variable {Y : Fs} {n r pl ev pp : Nat} {rest : List So} {l : List (So × So)} {S : Sto} {k : Kt}
/-- a source is drawn -/
theorem source_ok (a : Ap r pl ev pp) (d : Dr r pl ev pp rest l S) (hl : l.length ≤ 8) {p7 : D} {num : Int} {s0 : So} {a2 a3 a6 a10 a11 : Option D}
    (h : ∀ S' s, Ext S S' → (execs Y f5_7 [some (.ref r), some (.ref pl), a2, a3, some (.ref ev), some (.ref pp), a6, some p7, some (.int num), some (So.D s), a10, a11] S').F k) :
    (execs Y f5_11 [some (.ref r), some (.ref pl), a2, a3, some (.ref ev), some (.ref pp), a6, some p7, some (.int num), some (So.D s0), a10, a11] S).F k := by
  have v8 : ([some (.ref r), some (.ref pl), a2, a3, some (.ref ev), some (.ref pp), a6, some p7, some (.int num), some (So.D s0), a10, a11] : Mi.Env)[8]? = some (some (.int num)) := rfl
  have v5 : ([some (.ref r), some (.ref pl), a2, a3, some (.ref ev), some (.ref pp), a6, some p7, some (.int num), some (So.D s0), a10, a11] : Mi.Env)[5]? = some (some (.ref pp)) := rfl
  refine w_if rfl ?_
  simp only [ev_cmp, ev_bin, ev_var v8, ev_con, bind_ok, binD_mod (j := 8) (by decide), cmpD_eq, eq_ii, obl_some, Ok_ok, truthD_bl]
  cases hc : num % 8 == 0 with
  | true =>
    simp only
    refine w_set rfl ?_
    obtain ⟨j, hj, hj3⟩ := md (x := num / 16) (m := 3) (by decide)
    have ee : Mi.ev Y (.idx (.lst (.cons (.tup (.cons (.con (.str "num")) (.cons (.bin .Sub (.var 8) (.con (.int (500)))) .nil))) (.cons (.tup (.cons (.con (.str "truth")) (.cons (.cmp .Eq (.bin .Mod (.bin .FloorDiv (.var 8) (.con (.int (8)))) (.con (.int (2)))) (.con (.int (1)))) .nil))) (.cons (.tup (.cons (.con (.str "num")) (.cons (.con (.int (0))) .nil))) .nil)))) (.bin .Mod (.bin .FloorDiv (.var 8) (.con (.int (16)))) (.con (.int (3))))) [some (.ref r), some (.ref pl), a2, a3, some (.ref ev), some (.ref pp), a6, some p7, some (.int num), some (So.D s0), a10, a11] S =
        .ok (([So.num (num - 500), .tru (num / 8 % 2 == 1), .num 0].map So.D)[j]'(by simp; omega)) (S ++ [.lst ([So.num (num - 500), .tru (num / 8 % 2 == 1), .num 0].map So.D)]) := by
      have hj' : j < 3 := by omega
      have ea := at_nat (xs := [So.num (num - 500), .tru (num / 8 % 2 == 1), .num 0].map So.D) (k := j) (by simp; omega)
      simp only [ev_idx, ev_lst, evs_cons, evs_nil, ev_tup, ev_bin, ev_cmp, ev_con, ev_var v8, bind_ok, binD_sub, binD_fdiv (i := num) (j := 8) (by decide) (by decide), binD_fdiv (i := num) (j := 16) (by decide) (by decide), binD_mod (j := 2) (by decide), binD_mod (j := 3) (by decide), cmpD_eq, eq_ii, obl_some, List.length_cons, List.length_nil, if_pos (show 0 + 1 + 1 ≤ lim by simp [lim]), if_pos (show 0 + 1 + 1 + 1 ≤ lim by simp [lim]), new_eq]
      rw [hj, idxD_ref]
      have e0 : (S ++ [MO.lst [D.tup [.str "num", .int (num - 500)], .tup [.str "truth", .bl (num / 8 % 2 == 1)], .tup [.str "num", .int 0]]])[S.length]? = some (.lst ([So.num (num - 500), .tru (num / 8 % 2 == 1), .num 0].map So.D)) := by simp [So.D]
      rw [e0]
      simp only
      rw [ea]
      rfl
    rw [ee, Ok_ok]
    rw [List.getElem_map]
    exact w_nil (h _ _ (Ext_app _ _))
  | false =>
    simp only
    refine w_if rfl ?_
    by_cases h5 : num % 8 < 5
    · have eg : Mi.ev Y (.and_ (.cons (.cmp .Lt (.bin .Mod (.var 8) (.con (.int (8)))) (.con (.int (5)))) (.cons (.cmp .NotEq (.var 5) (.lst .nil)) .nil))) [some (.ref r), some (.ref pl), a2, a3, some (.ref ev), some (.ref pp), a6, some p7, some (.int num), some (So.D s0), a10, a11] S = .ok (.bl (!l.isEmpty)) (S ++ [.lst []]) := by
        have en := eq_prn (S := S ++ [.lst []]) (p := pp) (q := S.length) ((Ext_app _ _).at d.pp) (by simp)
        simp only [ev_and, evAnd_cons, evAnd_one, ev_cmp, ev_bin, ev_var v8, ev_var v5, ev_con, ev_lst, evs_nil, bind_ok, binD_mod (j := 8) (by decide), cmpD_lt, obl_some, truthD_bl, decide_eq_true h5]
        rw [if_pos (by simp [lim]), new_eq, bind_ok, cmpD_ne, en]
        rfl
      rw [eg, Ok_ok, truthD_bl]
      have x1 : Ext S (S ++ [.lst []]) := Ext_app _ _
      have d1 := d.ext x1
      generalize S ++ [MO.lst []] = S1 at x1 d1
      cases l with
      | nil => exact w_nil (w_nil (h _ _ x1))
      | cons q l =>
        refine w_set rfl ?_
        have hpos : (0 : Int) < ((q :: l).length : Int) := by simp
        obtain ⟨j, hj, hjl⟩ := md (x := num / 8) (m := ((q :: l).length : Int)) hpos
        have hj' : j < (q :: l).length := by omega
        have ee : Mi.ev Y (.idx (.idx (.var 5) (.bin .Mod (.bin .FloorDiv (.var 8) (.con (.int (8)))) (.bi .len (.cons (.var 5) .nil)))) (.con (.int (0)))) [some (.ref r), some (.ref pl), a2, a3, some (.ref ev), some (.ref pp), a6, some p7, some (.int num), some (So.D s0), a10, a11] S1 = .ok (So.D (q :: l)[j].1) S1 := by
          have el : biD .len [.ref pp] S1 = .ok (.int ((q :: l).length : Nat)) S1 := bi_len (by simp [d1.pp])
          simp only [ev_idx, ev_bin, ev_bi, evs_cons, evs_nil, ev_var v5, ev_var v8, ev_con, bind_ok, el, binD_fdiv (i := num) (j := 8) (by decide) (by decide), binD_mod hpos]
          rw [hj, idxD_ref, d1.pp]
          simp only
          rw [at_map hj', oD_some_, bind_ok]
          simp only [prD, idxD_tup, at_0, oD_some_]
        rw [ee, Ok_ok]
        exact w_nil (w_nil (h _ _ x1))
    · have eg : Mi.ev Y (.and_ (.cons (.cmp .Lt (.bin .Mod (.var 8) (.con (.int (8)))) (.con (.int (5)))) (.cons (.cmp .NotEq (.var 5) (.lst .nil)) .nil))) [some (.ref r), some (.ref pl), a2, a3, some (.ref ev), some (.ref pp), a6, some p7, some (.int num), some (So.D s0), a10, a11] S = .ok (.bl false) S := by
        simp only [ev_and, evAnd_cons, evAnd_one, ev_cmp, ev_bin, ev_var v8, ev_con, bind_ok, binD_mod (j := 8) (by decide), cmpD_lt, obl_some, truthD_bl, decide_eq_false h5]
      rw [eg, Ok_ok, truthD_bl]
      exact w_nil (w_nil (h _ _ (Ext_refl _)))
end
end My

namespace My
open PySem L2 Mi
/-- what the law draws -/
def Good (l : List (So × So)) : Prop := (l.map (·.1)).Nodup ∧ (∀ x ∈ l, x.1 ∈ allP) ∧ l.length ≤ 8
theorem map_er {α β : Type} (f : α → β) : ∀ (l : List α) (j : Nat), (l.map f).eraseIdx j = (l.eraseIdx j).map f
  | [], j => by simp
  | a :: r, 0 => by simp
  | a :: r, j + 1 => by
    have ih := map_er f r j
    simp [ih]
theorem nd_erase {xs : List So} {ys : List So} {k : Nat} (h : k < ys.length) (hn : (xs ++ ys).Nodup) : (xs ++ [ys[k]] ++ ys.eraseIdx k).Nodup := by
  rw [List.nodup_append] at hn
  obtain ⟨h1, h2, h3⟩ := hn
  have hk : ys[k] ∈ ys := List.getElem_mem h
  have hs : ∀ x ∈ ys.eraseIdx k, x ∈ ys := fun x hx => List.mem_of_mem_eraseIdx hx
  have hne : ys[k] ∉ ys.eraseIdx k := by
    intro hx
    rw [List.mem_eraseIdx_iff_getElem] at hx
    obtain ⟨i, hi, hik, e⟩ := hx
    have pw := List.pairwise_iff_getElem.mp h2
    rcases Nat.lt_trichotomy i k with z | z | z
    · exact pw i k hi h z e
    · exact hik z
    · exact pw k i h hi z e.symm
  rw [List.nodup_append, List.nodup_append]
  refine ⟨⟨h1, by simp, fun x hx y hy => ?_⟩, h2.sublist (List.eraseIdx_sublist ..), fun x hx y hy => ?_⟩
  · rw [List.mem_singleton.mp hy]
    exact h3 x hx _ hk
  · rcases List.mem_append.mp hx with hx | hx
    · exact h3 x hx y (hs y hy)
    · rw [List.mem_singleton.mp hx]
      exact fun e => hne (e ▸ hy)
section
variable {Y : Fs} {n r pl ev pp : Nat} {S : Sto}
/-- one pair more -/
theorem pair_step {rest : List So} {l : List (So × So)} (hf : Y.f = fnN G (n + 1)) (a : Ap r pl ev pp) (d : Dr r pl ev pp rest l S) (hn : (l.map (·.1) ++ rest).Nodup) (hp : ∀ x ∈ l.map (·.1) ++ rest, x ∈ allP) (hl : l.length ≤ 7) (hr : 1 ≤ rest.length) {k : Kt} {a2 a3 a6 a7 a8 a9 a10 a11 : Option D}
    (hk : ∀ S' rest' l' b7 b8 b9, Dr r pl ev pp rest' l' S' → (l'.map (·.1) ++ rest').Nodup → (∀ x ∈ l'.map (·.1) ++ rest', x ∈ allP) → l'.length = l.length + 1 → rest'.length + 1 = rest.length → k.nx [some (.ref r), some (.ref pl), a2, a3, some (.ref ev), some (.ref pp), a6, b7, b8, b9, a10, a11] S') :
    (execs Y f5_14 [some (.ref r), some (.ref pl), a2, a3, some (.ref ev), some (.ref pp), a6, a7, a8, a9, a10, a11] S).F k := by
  refine w_set rfl ?_
  obtain ⟨_, S1, e1, g1, x, rfl⟩ := (drawn (Y := Y) (env := [some (.ref r), some (.ref pl), a2, a3, some (.ref ev), some (.ref pp), a6, a7, a8, a9, a10, a11]) hf rfl d.num).ex
  have d1 := d.gl a g1
  obtain ⟨j, hj, hjl⟩ := md (x := x) (m := (rest.length : Int)) (by omega)
  have hj' : j < rest.length := by omega
  have hlt := (List.getElem?_eq_some_iff.mp d1.pl).1
  have ee : Mi.ev Y (.bm .popAt (.var 1) (.cons (.bin .Mod (.call 4 (.cons (.var 0) .nil)) (.bi .len (.cons (.var 1) .nil))) .nil)) [some (.ref r), some (.ref pl), a2, a3, some (.ref ev), some (.ref pp), a6, a7, a8, a9, a10, a11] S = .ok (So.D rest[j]) (S1.set pl (.lst ((rest.eraseIdx j).map So.D))) := by
    have el : biD .len [.ref pl] S1 = .ok (.int (rest.length : Nat)) S1 := bi_len (by simp [d1.pl])
    have hk : bmK .popAt (.ref pl) S = true := by simp [d.pl]
    rw [ev_bm, ev_var (d := .ref pl) rfl, bind_ok, if_pos hk, evs_cons, ev_bin, e1, bind_ok, ev_bi, evs_cons, ev_var (d := .ref pl) rfl, bind_ok, evs_nil, bind_ok, bind_ok, el, bind_ok, binD_mod (by omega), bind_ok, evs_nil, bind_ok, bind_ok, hj]
    simp only [bmD, d1.pl, List.length_map, ixN_nat hj', List.getElem?_map, List.getElem?_eq_getElem hj', Option.map_some]
    congr 3
    rw [map_er]
  rw [ee, Ok_ok]
  have d2 : Dr r pl ev pp (rest.eraseIdx j) l (S1.set pl (.lst ((rest.eraseIdx j).map So.D))) := by
    obtain ⟨ns, hns⟩ := d1.num
    exact ⟨⟨ns, by rw [List.getElem?_set_ne a.a1]; exact hns⟩, List.getElem?_set_self hlt, by rw [List.getElem?_set_ne (Ne.symm a.a4)]; exact d1.ev, by rw [List.getElem?_set_ne (Ne.symm a.a5)]; exact d1.pp⟩
  generalize S1.set pl (MO.lst ((rest.eraseIdx j).map So.D)) = S2 at d2
  show (execs Y f5_13 [some (.ref r), some (.ref pl), a2, a3, some (.ref ev), some (.ref pp), a6, some (So.D rest[j]), a8, a9, a10, a11] S2).F k
  refine w_set rfl ?_
  obtain ⟨_, S3, e3, g3, num, rfl⟩ := (drawn (Y := Y) (env := [some (.ref r), some (.ref pl), a2, a3, some (.ref ev), some (.ref pp), a6, some (So.D rest[j]), a8, a9, a10, a11]) hf rfl d2.num).ex
  rw [e3, Ok_ok]
  have d3 := d2.gl a g3
  show (execs Y f5_12 [some (.ref r), some (.ref pl), a2, a3, some (.ref ev), some (.ref pp), a6, some (So.D rest[j]), some (.int num), a9, a10, a11] S3).F k
  refine w_set rfl ?_
  obtain ⟨i, hi, hil⟩ := md (x := num / 8) (m := 10) (by decide)
  have hi' : i < allP.length := by simp [allP]; omega
  have e4 : Mi.ev Y (.idx (.var 4) (.bin .Mod (.bin .FloorDiv (.var 8) (.con (.int (8)))) (.con (.int (10))))) [some (.ref r), some (.ref pl), a2, a3, some (.ref ev), some (.ref pp), a6, some (So.D rest[j]), some (.int num), a9, a10, a11] S3 = .ok (So.D allP[i]) S3 := by
    rw [ev_idx, ev_var (d := .ref ev) rfl, bind_ok, ev_bin, ev_bin, ev_var (d := .int num) rfl, bind_ok, ev_con, bind_ok, binD_fdiv (by decide) (by decide), bind_ok, ev_con, bind_ok, binD_mod (by decide), bind_ok, hi, idxD_ref, d3.ev]
    simp only
    rw [at_map hi', oD_some_]
  rw [e4, Ok_ok]
  show (execs Y f5_11 [some (.ref r), some (.ref pl), a2, a3, some (.ref ev), some (.ref pp), a6, some (So.D rest[j]), some (.int num), some (So.D allP[i]), a10, a11] S3).F k
  refine source_ok a d3 (by omega) fun S4 s x4 => ?_
  have d4 := d3.ext x4
  refine w_ex rfl ?_
  have hlt4 := (List.getElem?_eq_some_iff.mp d4.pp).1
  have e5 : Mi.ev Y (.bm .append (.var 5) (.cons (.tup (.cons (.var 7) (.cons (.var 9) .nil))) .nil)) [some (.ref r), some (.ref pl), a2, a3, some (.ref ev), some (.ref pp), a6, some (So.D rest[j]), some (.int num), some (So.D s), a10, a11] S4 = .ok .non (S4.set pp (.lst ((l ++ [(rest[j], s)]).map prD))) := by
    have hk : bmK .append (.ref pp) S4 = true := by simp [d4.pp]
    rw [ev_bm, ev_var (d := .ref pp) rfl, bind_ok, if_pos hk, evs_cons, ev_tup, evs_cons, ev_var (d := So.D rest[j]) rfl, bind_ok, evs_cons, ev_var (d := So.D s) rfl, bind_ok, evs_nil, bind_ok, bind_ok, bind_ok, if_pos (by simp [lim]), bind_ok, evs_nil, bind_ok, bind_ok, bm_append, d4.pp]
    simp only
    rw [if_pos (by simp [lim]; omega)]
    simp [prD]
  rw [e5, Ok_ok]
  refine w_nil (hk _ (rest.eraseIdx j) (l ++ [(rest[j], s)]) _ _ _ ?_ ?_ ?_ (by simp) ?_)
  · obtain ⟨ns, hns⟩ := d4.num
    exact ⟨⟨ns, by rw [List.getElem?_set_ne a.a3]; exact hns⟩, by rw [List.getElem?_set_ne a.a5]; exact d4.pl, by rw [List.getElem?_set_ne (Ne.symm a.a6)]; exact d4.ev, List.getElem?_set_self hlt4⟩
  · have := nd_erase hj' hn
    simpa using this
  · intro y hy
    refine hp y ?_
    simp only [List.map_append, List.map_cons, List.map_nil, List.mem_append, List.mem_singleton] at hy ⊢
    rcases hy with (hy | rfl) | hy
    · exact .inl hy
    · exact .inr (List.getElem_mem hj')
    · exact .inr (List.mem_of_mem_eraseIdx hy)
  · rw [List.length_eraseIdx]
    rw [if_pos hj']
    omega
/-- two pairs exchanged -/
theorem swap_step {rest : List So} {l : List (So × So)} (hf : Y.f = fnN G (n + 1)) (a : Ap r pl ev pp) (d : Dr r pl ev pp rest l S) {k : Kt} {a2 a3 a6 a7 a8 a9 a10 a11 : Option D}
    (hk : ∀ S' l' b10 b11, Dr r pl ev pp rest l' S' → l'.map (·.1) = l.map (·.1) → k.nx [some (.ref r), some (.ref pl), a2, a3, some (.ref ev), some (.ref pp), a6, a7, a8, a9, b10, b11] S') :
    (execs Y f5_5 [some (.ref r), some (.ref pl), a2, a3, some (.ref ev), some (.ref pp), a6, a7, a8, a9, a10, a11] S).F k := by
  refine w_if rfl ?_
  have el : ∀ {S : Sto} {l : List (So × So)}, Dr r pl ev pp rest l S → biD .len [.ref pp] S = .ok (.int (l.length : Nat)) S := fun d => bi_len (by simp [d.pp])
  have v5 : ∀ a10 a11 : Option D, ([some (.ref r), some (.ref pl), a2, a3, some (.ref ev), some (.ref pp), a6, a7, a8, a9, a10, a11] : Mi.Env)[5]? = some (some (.ref pp)) := fun _ _ => rfl
  simp only [ev_cmp, ev_bi, evs_cons, evs_nil, ev_var (v5 a10 a11), bind_ok, el d, ev_con, cmpD_gt, obl_some, Ok_ok, truthD_bl]
  by_cases hc : (1 : Int) < l.length
  · rw [decide_eq_true hc]
    refine w_set rfl ?_
    obtain ⟨_, S1, e1, g1, x, rfl⟩ := (drawn (Y := Y) (env := [some (.ref r), some (.ref pl), a2, a3, some (.ref ev), some (.ref pp), a6, a7, a8, a9, a10, a11]) hf rfl d.num).ex
    have d1 := d.gl a g1
    obtain ⟨i, hi, hil⟩ := md (x := x) (m := (l.length : Int)) (by omega)
    simp only [ev_bin, e1, bind_ok, ev_bi, evs_cons, evs_nil, ev_var (v5 a10 a11), el d1, binD_mod (show (0 : Int) < (l.length : Nat) by omega), hi, Ok_ok]
    show (execs Y f5_3 [some (.ref r), some (.ref pl), a2, a3, some (.ref ev), some (.ref pp), a6, a7, a8, a9, some (.int i), a11] S1).F _
    refine w_set rfl ?_
    obtain ⟨_, S2, e2, g2, y, rfl⟩ := (drawn (Y := Y) (env := [some (.ref r), some (.ref pl), a2, a3, some (.ref ev), some (.ref pp), a6, a7, a8, a9, some (.int i), a11]) hf rfl d1.num).ex
    have d2 := d1.gl a g2
    obtain ⟨j, hj, hjl⟩ := md (x := y) (m := (l.length : Int)) (by omega)
    simp only [ev_bin, e2, bind_ok, ev_bi, evs_cons, evs_nil, ev_var (v5 (some (.int i)) a11), el d2, binD_mod (show (0 : Int) < (l.length : Nat) by omega), hj, Ok_ok]
    show (execs Y f5_2 [some (.ref r), some (.ref pl), a2, a3, some (.ref ev), some (.ref pp), a6, a7, a8, a9, some (.int i), some (.int j)] S2).F _
    have one : ∀ {l2 : List (So × So)} {S2 : Sto} {u v : Nat} {iu iv : Nat} {bb cs : Cs} {k : Kt}, Dr r pl ev pp rest l2 S2 → u < l2.length → v < l2.length → ([some (.ref r), some (.ref pl), a2, a3, some (.ref ev), some (.ref pp), a6, a7, a8, a9, some (.int i), some (.int j)] : Mi.Env)[iu]? = some (some (.int u)) → ([some (.ref r), some (.ref pl), a2, a3, some (.ref ev), some (.ref pp), a6, a7, a8, a9, some (.int i), some (.int j)] : Mi.Env)[iv]? = some (some (.int v)) →
        bb = .cons (.setIx (.var 5) (.var iu) (.tup (.cons (.idx (.idx (.var 5) (.var iu)) (.con (.int (0)))) (.cons (.idx (.idx (.var 5) (.var iv)) (.con (.int (0)))) .nil)))) cs → (∀ S3 l3, Dr r pl ev pp rest l3 S3 → l3.map (·.1) = l2.map (·.1) → (execs Y cs [some (.ref r), some (.ref pl), a2, a3, some (.ref ev), some (.ref pp), a6, a7, a8, a9, some (.int i), some (.int j)] S3).F k) → (execs Y bb [some (.ref r), some (.ref pl), a2, a3, some (.ref ev), some (.ref pp), a6, a7, a8, a9, some (.int i), some (.int j)] S2).F k := by
      intro l2 S2 u v iu iv bb cs k d2 hu hv vu vv hb hk
      refine w_setIx hb ?_
      have hlt := (List.getElem?_eq_some_iff.mp d2.pp).1
      have es : setD (.ref pp) (.int u) (D.tup [So.D l2[u].1, So.D l2[v].1]) S2 = some (S2.set pp (.lst ((l2.set u (l2[u].1, l2[v].1)).map prD))) := by
        simp only [setD, d2.pp, List.length_map, ixN_nat hu]
        rw [List.map_set]
        rfl
      simp only [ev_tup, evs_cons, evs_nil, ev_idx, ev_var (v5 (some (.int i)) (some (.int j))), ev_var vu, ev_var vv, ev_con, bind_ok, idxD_ref, d2.pp, at_map hu, at_map hv, oD_some_, prD, idxD_tup, at_0, List.length_cons, List.length_nil, if_pos (show 0 + 1 + 1 ≤ lim by simp [lim]), Ok_ok]
      rw [es]
      refine hk _ _ ?_ (comp_swap (s := l2[v].1) hu)
      obtain ⟨ns, hns⟩ := d2.num
      exact ⟨⟨ns, by rw [List.getElem?_set_ne a.a3]; exact hns⟩, by rw [List.getElem?_set_ne a.a5]; exact d2.pl, by rw [List.getElem?_set_ne (Ne.symm a.a6)]; exact d2.ev, List.getElem?_set_self hlt⟩
    refine one (u := i) (v := j) d2 (by omega) (by omega) rfl rfl rfl fun S3 l3 d3 h3 => ?_
    have hl3 : l3.length = l.length := by
      have := congrArg List.length h3
      simpa using this
    refine one (u := j) (v := i) d3 (by omega) (by omega) rfl rfl rfl fun S4 l4 d4 h4 => ?_
    exact w_nil (w_nil (hk _ _ _ _ d4 (h4.trans h3)))
  · rw [decide_eq_false hc]
    exact w_nil (w_nil (hk _ _ _ _ d rfl))
end
end My

namespace My
open PySem L2 Mi
theorem pairs_ok (n : Nat) {r : Nat} {S : Sto} (h : Nl r S) : (fnN G (n + 2) 5 [.ref r] S).Ok fun v S' => ∃ q l, v = .ref q ∧ S'[q]? = some (.lst (l.map prD)) ∧ Good l := by
  generalize hF : fnN G (n + 2) = F
  refine run_okF hF f5 rfl rfl fun Y hf hg => ?_
  simp only [f5]
  refine w_set rfl ?_
  show (Mi.ev Y _ [some (.ref r), none, none, none, none, none, none, none, none, none, none, none] S).Ok _
  rw [places_at (Y := Y) (env := [some (.ref r), none, none, none, none, none, none, none, none, none, none, none]) (S := S) rfl, Ok_ok]
  have hrl := h.lt
  have x1 : Ext S (S ++ [.lst ((List.range 4).map fun k : Nat => D.tup [.str "reg", .int k])] ++ [.lst ((List.range 6).map fun k : Nat => D.tup [.str "frame", .int k])] ++ [.lst (allP.map So.D)]) := ((Ext_app _ _).trans (Ext_app _ _)).trans (Ext_app _ _)
  have p1 : (S ++ [.lst ((List.range 4).map fun k : Nat => D.tup [.str "reg", .int k])] ++ [.lst ((List.range 6).map fun k : Nat => D.tup [.str "frame", .int k])] ++ [.lst (allP.map So.D)])[S.length + 2]? = some (.lst (allP.map So.D)) := by
    rw [List.getElem?_append_right (by simp)]
    simp
  have hpl : r < S.length + 2 := by omega
  generalize hS1 : S ++ [.lst ((List.range 4).map fun k : Nat => D.tup [.str "reg", .int k])] ++ [.lst ((List.range 6).map fun k : Nat => D.tup [.str "frame", .int k])] ++ [MO.lst (allP.map So.D)] = S1 at x1 p1
  generalize S.length + 2 = pl at p1 hpl
  have n1 := h.ext x1
  show (execs Y f5_17 [some (.ref r), some (.ref pl), none, none, none, none, none, none, none, none, none, none] S1).F _
  refine w_set rfl ?_
  have e2 : Mi.ev Y (.bi .lst1 (.cons (.var 1) .nil)) [some (.ref r), some (.ref pl), none, none, none, none, none, none, none, none, none, none] S1 = .ok (.ref S1.length) (S1 ++ [.lst (allP.map So.D)]) := by
    rw [ev_bi, evs_cons, ev_var (d := .ref pl) rfl, bind_ok, evs_nil, bind_ok, bind_ok]
    simp [biD, seqAt, lstAt, p1]
  rw [e2, Ok_ok]
  have x2 : Ext S1 (S1 ++ [.lst (allP.map So.D)]) := Ext_app _ _
  have p2 : (S1 ++ [MO.lst (allP.map So.D)])[S1.length]? = some (.lst (allP.map So.D)) := by simp
  have hpv : pl < S1.length := (List.getElem?_eq_some_iff.mp p1).1
  have p1 := x2.at p1
  have n2 := n1.ext x2
  generalize S1 ++ [MO.lst (allP.map So.D)] = S2 at x2 p2 p1 n2
  generalize S1.length = pv at p2 hpv
  show (execs Y f5_16 [some (.ref r), some (.ref pl), none, none, some (.ref pv), none, none, none, none, none, none, none] S2).F _
  refine w_set rfl ?_
  rw [ev_lst, evs_nil, bind_ok, if_pos (by simp [lim]), new_eq, Ok_ok]
  have x3 : Ext S2 (S2 ++ [.lst []]) := Ext_app _ _
  have p3 : (S2 ++ [MO.lst []])[S2.length]? = some (.lst (([] : List (So × So)).map prD)) := by simp
  have hpp : pv < S2.length := (List.getElem?_eq_some_iff.mp p2).1
  have d3 : Dr r pl pv S2.length allP [] (S2 ++ [.lst []]) := ⟨n2.ext x3, x3.at p1, x3.at p2, p3⟩
  have a : Ap r pl pv S2.length := ⟨by omega, by omega, by omega, by omega, by omega, by omega⟩
  generalize S2 ++ [MO.lst []] = S3 at d3
  generalize S2.length = pp at d3 a
  show (execs Y f5_15 [some (.ref r), some (.ref pl), none, none, some (.ref pv), some (.ref pp), none, none, none, none, none, none] S3).F _
  refine w_for rfl ?_
  obtain ⟨_, S4, e4, g4, x, rfl⟩ := (drawn (n := n) (Y := Y) (env := [some (.ref r), some (.ref pl), none, none, some (.ref pv), some (.ref pp), none, none, none, none, none, none]) hf rfl d3.num).ex
  have d4 := d3.gl a g4
  obtain ⟨m, hm, hm9⟩ := md (x := x) (m := 9) (by decide)
  rw [evI_rng1, ev_bin, e4, bind_ok, ev_con, bind_ok, binD_mod (by decide), bind_ok, hm]
  simp only
  rw [if_pos (by omega), Ok_ok, Int.toNat_natCast]
  refine for_rng (fun i e S' => ∃ rest l, Dr r pl pv pp rest l S' ∧ (l.map (·.1) ++ rest).Nodup ∧ (∀ x ∈ l.map (·.1) ++ rest, x ∈ allP) ∧ l.length = i ∧ l.length + rest.length = 10 ∧ ∃ a6 a7 a8 a9, e = [some (.ref r), some (.ref pl), none, none, some (.ref pv), some (.ref pp), a6, a7, a8, a9, none, none]) (by simp only [lim]; omega) ⟨allP, [], d4, by simpa using allP_nd, fun x hx => by simpa using hx, rfl, rfl, _, _, _, _, rfl⟩ ?_ ?_
  · rintro i e S5 ⟨rest, l, d5, h1, h2, h3, h4, a6, a7, a8, a9, rfl⟩ hi
    refine pair_step (n := n) hf a d5 h1 h2 (by omega) (by omega) fun S6 rest' l' b7 b8 b9 d6 h5 h6 h7 h8 => ?_
    exact ⟨rest', l', d6, h5, h6, by omega, by omega, _, _, _, _, rfl⟩
  · rintro e S5 ⟨rest, l, d5, h1, h2, h3, h4, a6, a7, a8, a9, rfl⟩
    have hl8 : l.length ≤ 8 := by omega
    have hnd : (l.map (·.1)).Nodup := (List.nodup_append.mp h1).1
    have hall : ∀ x ∈ l.map (·.1), x ∈ allP := fun x hx => h2 x (List.mem_append_left _ hx)
    clear h1 h2 h3 h4 d4 d3 g4 e4
    show (execs Y f5_6 [some (.ref r), some (.ref pl), none, none, some (.ref pv), some (.ref pp), a6, a7, a8, a9, none, none] S5).F _
    refine w_for rfl ?_
    obtain ⟨_, S6, e6, g6, y, rfl⟩ := (drawn (n := n) (Y := Y) (env := [some (.ref r), some (.ref pl), none, none, some (.ref pv), some (.ref pp), a6, a7, a8, a9, none, none]) hf rfl d5.num).ex
    have d6 := d5.gl a g6
    obtain ⟨m2, hm2, hm4⟩ := md (x := y) (m := 4) (by decide)
    rw [evI_rng1, ev_bin, e6, bind_ok, ev_con, bind_ok, binD_mod (by decide), bind_ok, hm2]
    simp only
    rw [if_pos (by omega), Ok_ok, Int.toNat_natCast]
    refine for_rng (fun i e S' => ∃ l2, Dr r pl pv pp rest l2 S' ∧ l2.map (·.1) = l.map (·.1) ∧ ∃ a6 a7 a8 a9 a10 a11, e = [some (.ref r), some (.ref pl), none, none, some (.ref pv), some (.ref pp), a6, a7, a8, a9, a10, a11]) (by simp only [lim]; omega) ⟨l, d6, rfl, _, _, _, _, _, _, rfl⟩ ?_ ?_
    · rintro i e S7 ⟨l2, d7, h5, a6, a7, a8, a9, a10, a11, rfl⟩ hi
      refine swap_step (n := n) hf a d7 fun S8 l3 b10 b11 d8 h6 => ?_
      exact ⟨l3, d8, h6.trans h5, _, _, _, _, _, _, rfl⟩
    · rintro e S7 ⟨l2, d7, h5, a6, a7, a8, a9, a10, a11, rfl⟩
      refine w_ret rfl ?_
      rw [ev_var (d := .ref pp) rfl, Ok_ok]
      refine ⟨pp, l2, rfl, d7.pp, by rw [h5]; exact hnd, fun x hx => hall _ (by rw [← h5]; exact List.mem_map.mpr ⟨x, hx, rfl⟩), ?_⟩
      have := congrArg List.length h5
      simp at this
      omega
end My

namespace My
open PySem L2 Mi Rg
/-- moves done one behind the other: which source's old value a place then holds -/
def run (f : So → So) (rows : List (So × So)) : So → So := rows.foldl (fun f r x => if x = r.1 then f r.2 else f x) f
theorem run_app (f : So → So) (a b : List (So × So)) : run f (a ++ b) = run (run f a) b := List.foldl_append
theorem run_other : ∀ {rs : List (So × So)} {f : So → So} {x : So}, x ∉ rs.map (·.1) → run f rs x = f x
  | [], _, _, _ => rfl
  | r :: rs, f, x, h => by
    rw [List.map_cons, List.mem_cons, not_or] at h
    show run (fun x => if x = r.1 then f r.2 else f x) rs x = f x
    rw [run_other h.2, if_neg h.1]
theorem run_par : ∀ {rs : List (So × So)} {f : So → So}, (rs.map (·.1)).Nodup → (∀ r ∈ rs, r.1 ∉ rs.map (·.2)) → ∀ r ∈ rs, run f rs r.1 = f r.2
  | [], _, _, _, r, h => nomatch h
  | q :: rs, f, hn, hr, r, h => by
    rw [List.map_cons, List.nodup_cons] at hn
    show run (fun x => if x = q.1 then f q.2 else f x) rs r.1 = f r.2
    rcases List.mem_cons.mp h with rfl | h
    · rw [run_other hn.1, if_pos rfl]
    · rw [run_par hn.2 (fun r hr' z => hr r (List.mem_cons_of_mem _ hr') (List.mem_cons_of_mem _ z)) r h]
      have : r.2 ≠ q.1 := fun e => hr q (List.mem_cons_self ..) (List.mem_map.mpr ⟨r, List.mem_cons_of_mem _ h, e⟩)
      rw [if_neg this]
theorem same_place {l : List (So × So)} (hn : (l.map (·.1)).Nodup) {x y : So × So} (hx : x ∈ l) (hy : y ∈ l) (e : x.1 = y.1) : x = y := by
  induction l with
  | nil => cases hx
  | cons z l ih =>
    rw [List.map_cons, List.nodup_cons] at hn
    rcases List.mem_cons.mp hx with e1 | h1
    · rcases List.mem_cons.mp hy with e2 | h2
      · rw [e1, e2]
      · exact (hn.1 (List.mem_map.mpr ⟨y, h2, by rw [← e, e1]⟩)).elim
    · rcases List.mem_cons.mp hy with e2 | h2
      · exact (hn.1 (List.mem_map.mpr ⟨x, h1, by rw [e, e2]⟩)).elim
      · exact ih hn.2 h1 h2
theorem count_nd {l : List So} {x : So} (hn : l.Nodup) (h : x ∈ l) : l.count x = 1 := by
  induction l with
  | nil => cases h
  | cons a l ih =>
    rw [List.nodup_cons] at hn
    rw [List.count_cons]
    rcases List.mem_cons.mp h with rfl | h
    · rw [List.count_eq_zero_of_not_mem hn.1]
      simp
    · have : ¬ a = x := fun e => hn.1 (e ▸ h)
      rw [ih hn.2 h]
      simp [this]
/-- which are ready, which are not -/
def rdy (l : List (So × So)) : List (So × So) := l.filter fun x => decide (x.1 ∉ l.map (·.2))
def stay (l : List (So × So)) : List (So × So) := l.filter fun x => decide (x.1 ∈ l.map (·.2))
def opened (l : List (So × So)) (a sp : So) : List (So × So) := l.map fun x => (x.1, if x.2 = a then sp else x.2)
theorem mem_rdy {l : List (So × So)} {x : So × So} : x ∈ rdy l ↔ x ∈ l ∧ x.1 ∉ l.map (·.2) := by
  unfold rdy
  rw [List.mem_filter, decide_eq_true_eq]
theorem mem_stay {l : List (So × So)} {x : So × So} : x ∈ stay l ↔ x ∈ l ∧ x.1 ∈ l.map (·.2) := by
  unfold stay
  rw [List.mem_filter, decide_eq_true_eq]
theorem len_parts (l : List (So × So)) : (rdy l).length + (stay l).length = l.length := by
  unfold rdy stay
  have key : ∀ (p : So × So → Bool) (m : List (So × So)), (m.filter fun x => !p x).length + (m.filter p).length = m.length := by
    intro p m
    induction m with
    | nil => rfl
    | cons x m ih =>
      rw [List.filter_cons, List.filter_cons]
      cases p x <;> simp <;> omega
  have := key (fun x => decide (x.1 ∈ l.map (·.2))) l
  rw [← this]
  congr 2
  refine List.filter_congr fun x _ => ?_
  simp
def rank (mv : List (So × So)) (p : So) : Nat := (mv.map (·.1)).idxOf p
structure MI (mv : List (So × So)) (sp : So) (left rows : List (So × So)) : Prop where
  so : left.Pairwise fun a b => rank mv a.1 < rank mv b.1
  sub : ∀ p ∈ left.map (·.1), p ∈ mv.map (·.1)
  src : ∀ x ∈ left, x.1 ∉ rows.map (·.1) ∧ (x.1, run id rows x.2) ∈ mv
  done : ∀ x ∈ mv, x.1 ∉ left.map (·.1) → run id rows x.1 = x.2 ∧ (rows.map (·.1)).count x.1 = 1
  wr : ∀ r ∈ rows, r.1 = sp ∨ r.1 ∈ mv.map (·.1)
  cnt : (rows.map (·.1)).count sp + R (rank mv) left = R (rank mv) mv
  len : rows.length + left.length = mv.length + (rows.map (·.1)).count sp
theorem MI.nd {mv : List (So × So)} {sp : So} {left rows : List (So × So)} (m : MI mv sp left rows) : (left.map (·.1)).Nodup := by
  rw [List.Nodup, List.pairwise_map]
  exact m.so.imp fun {a b} h e => by rw [e] at h; omega
theorem rank_inj {mv : List (So × So)} {p q : So} (hp : p ∈ mv.map (·.1)) (h : rank mv p = rank mv q) : p = q := by
  unfold rank at h
  have h1 := List.idxOf_lt_length_of_mem hp
  have e1 := List.getElem_idxOf h1
  have h2 : (mv.map (·.1)).idxOf q < (mv.map (·.1)).length := by rw [← h]; exact h1
  have e2 := List.getElem_idxOf h2
  rw [← e1, ← e2]
  congr 1
theorem MI.start {mv : List (So × So)} {sp : So} (hn : (mv.map (·.1)).Nodup) : MI mv sp mv [] where
  so := by
    rw [List.pairwise_iff_getElem]
    intro i j hi hj hij
    unfold rank
    have key : ∀ (k : Nat) (hk : k < mv.length), (mv.map (·.1)).idxOf mv[k].1 = k := by
      intro k hk
      have e : mv[k].1 = (mv.map (·.1))[k]'(by simpa using hk) := by simp
      rw [e]
      exact List.Nodup.idxOf_getElem hn k (by simpa using hk)
    rw [key i hi, key j hj]
    exact hij
  sub := fun p h => h
  src := fun x h => ⟨(fun z => nomatch z), h⟩
  done := fun x h h2 => absurd (List.mem_map.mpr ⟨x, h, rfl⟩) h2
  wr := fun r h => nomatch h
  cnt := by simp
  len := by simp
end My

namespace My
open PySem L2 Mi Rg
theorem R_dec {ρ : So → Nat} {l : List (So × So)} (hn : (l.map (·.1)).Nodup) : R ρ (stay l) = R ρ l := by
  rw [← R_drop (ρ := ρ) hn]
  congr 1
  unfold stay
  refine List.filter_congr fun x _ => ?_
  by_cases h : x.1 ∈ l.map (·.2) <;> simp [h]
section
variable {mv left rows : List (So × So)} {sp : So}
/-- the ready ones are moved -/
theorem MI.stepA (hn : (mv.map (·.1)).Nodup) (hsp : sp ∉ mv.map (·.1)) (m : MI mv sp left rows) : MI mv sp (stay left) (rows ++ rdy left) := by
  have hln := m.nd
  have hrs : ((rdy left).map (·.1)).Nodup := hln.sublist ((List.filter_sublist).map _)
  have hr1 : ∀ x ∈ rdy left, x ∈ left := fun x hx => (mem_rdy.mp hx).1
  have hrp : ∀ p ∈ (rdy left).map (·.1), p ∈ left.map (·.1) := fun p hp => by
    obtain ⟨x, h1, h2⟩ := List.mem_map.mp hp
    exact List.mem_map.mpr ⟨x, hr1 x h1, h2⟩
  have hpar : ∀ r ∈ rdy left, r.1 ∉ (rdy left).map (·.2) := fun r hr z => by
    obtain ⟨x, h1, h2⟩ := List.mem_map.mp z
    exact (mem_rdy.mp hr).2 (List.mem_map.mpr ⟨x, hr1 x h1, h2⟩)
  have nosp : sp ∉ (rdy left).map (·.1) := fun h => hsp (m.sub sp (hrp sp h))
  refine ⟨?_, ?_, ?_, ?_, ?_, ?_, ?_⟩
  · exact m.so.sublist List.filter_sublist
  · intro p hp
    obtain ⟨x, h1, h2⟩ := List.mem_map.mp hp
    exact m.sub p (List.mem_map.mpr ⟨x, (mem_stay.mp h1).1, h2⟩)
  · intro x hx
    obtain ⟨hx1, hx2⟩ := mem_stay.mp hx
    obtain ⟨h1, h2⟩ := m.src x hx1
    constructor
    · rw [List.map_append, List.mem_append, not_or]
      refine ⟨h1, fun z => ?_⟩
      obtain ⟨y, h3, h4⟩ := List.mem_map.mp z
      exact (mem_rdy.mp h3).2 (by rw [h4]; exact hx2)
    · rw [run_app, run_other]
      · exact h2
      · intro z
        obtain ⟨y, h3, h4⟩ := List.mem_map.mp z
        exact (mem_rdy.mp h3).2 (by rw [h4]; exact List.mem_map.mpr ⟨x, hx1, rfl⟩)
  · intro x hx hno
    rw [run_app, List.map_append, List.count_append]
    by_cases h : x.1 ∈ left.map (·.1)
    · obtain ⟨y, h1, h2⟩ := List.mem_map.mp h
      have hy : y ∈ rdy left := mem_rdy.mpr ⟨h1, fun z => hno (List.mem_map.mpr ⟨y, mem_stay.mpr ⟨h1, z⟩, h2⟩)⟩
      obtain ⟨h3, h4⟩ := m.src y h1
      have e := same_place hn hx h4 h2.symm
      constructor
      · rw [← h2, run_par hrs hpar y hy, e]
      · rw [← h2, List.count_eq_zero_of_not_mem h3, count_nd hrs (List.mem_map.mpr ⟨y, hy, rfl⟩)]
    · obtain ⟨h1, h2⟩ := m.done x hx h
      have h3 : x.1 ∉ (rdy left).map (·.1) := fun z => h (hrp _ z)
      exact ⟨by rw [run_other h3, h1], by rw [h2, List.count_eq_zero_of_not_mem h3]⟩
  · intro r hr
    rcases List.mem_append.mp hr with hr | hr
    · exact m.wr r hr
    · exact .inr (m.sub _ (hrp _ (List.mem_map.mpr ⟨r, hr, rfl⟩)))
  · rw [List.map_append, List.count_append, List.count_eq_zero_of_not_mem nosp, R_dec hln]
    exact m.cnt
  · rw [List.map_append, List.count_append, List.count_eq_zero_of_not_mem nosp, List.length_append]
    have := len_parts left
    have := m.len
    omega
/-- a ring is opened -/
theorem MI.stepB {a s0 : So} {rest : List (So × So)} (hn : (mv.map (·.1)).Nodup) (hsp : sp ∉ mv.map (·.1)) (hl : left = (a, s0) :: rest) (hr : rdy left = []) (m : MI mv sp left rows) : MI mv sp (opened left a sp) (rows ++ [(sp, a)]) := by
  have hln := m.nd
  have hall : ∀ x ∈ left.map (·.1), x ∈ left.map (·.2) := by
    intro x hx
    obtain ⟨y, h1, rfl⟩ := List.mem_map.mp hx
    apply Classical.byContradiction
    intro h
    have : y ∈ rdy left := mem_rdy.mpr ⟨h1, h⟩
    rw [hr] at this
    cases this
  obtain ⟨hsub, hs⟩ := sub_of_len hln hall (by simp)
  have hspl : sp ∉ left.map (·.1) := fun h => hsp (m.sub sp h)
  have hpl : (opened left a sp).map (·.1) = left.map (·.1) := by unfold opened; rw [List.map_map]; rfl
  have ha : a ∈ left.map (·.1) := by rw [hl]; simp
  have hr2 : ∀ x, run id (rows ++ [(sp, a)]) x = if x = sp then run id rows a else run id rows x := fun x => by rw [run_app]; rfl
  refine ⟨?_, ?_, ?_, ?_, ?_, ?_, ?_⟩
  · unfold opened
    rw [List.pairwise_map]
    exact m.so
  · rw [hpl]
    exact m.sub
  · intro x hx
    obtain ⟨y, h1, rfl⟩ := List.mem_map.mp hx
    obtain ⟨h2, h3⟩ := m.src y h1
    have hy : y.1 ≠ sp := fun e => hspl (e ▸ List.mem_map.mpr ⟨y, h1, rfl⟩)
    constructor
    · rw [List.map_append, List.mem_append, not_or]
      exact ⟨h2, by simpa using hy⟩
    · rw [hr2]
      by_cases e : y.2 = a
      · simp only [e, if_true]
        rw [← e]
        exact h3
      · have hne : y.2 ≠ sp := fun z => hspl (hsub sp (z ▸ List.mem_map.mpr ⟨y, h1, rfl⟩))
        simp only [if_neg e, if_neg hne]
        exact h3
  · intro x hx hno
    rw [hpl] at hno
    obtain ⟨h1, h2⟩ := m.done x hx hno
    have hne : x.1 ≠ sp := fun e => hsp (e ▸ List.mem_map.mpr ⟨x, hx, rfl⟩)
    constructor
    · rw [hr2, if_neg hne, h1]
    · rw [List.map_append, List.count_append, h2]
      have : ¬ sp = x.1 := fun e => hne e.symm
      simp [List.count_cons, this]
  · intro r hr
    rcases List.mem_append.mp hr with hr | hr
    · exact m.wr r hr
    · rw [List.mem_singleton.mp hr]
      exact .inl rfl
  · have hb := R_break (ρ := rank mv) hl hln hall (fun x hx => ?_) (fun x hx e => rank_inj (m.sub a ha) e) hspl
    · have hb' : R (rank mv) (opened left a sp) + 1 = R (rank mv) left := by
        rw [← hb]
        congr 2
        unfold opened
        refine List.map_congr_left fun x _ => ?_
        by_cases h : x.2 = a <;> simp [h]
      rw [List.map_append, List.count_append]
      have := m.cnt
      simp [List.count_cons]
      omega
    · obtain ⟨y, h1, rfl⟩ := List.mem_map.mp hx
      rw [hl] at h1
      rcases List.mem_cons.mp h1 with rfl | h1
      · exact Nat.le_refl _
      · have := m.so
        rw [hl, List.pairwise_cons] at this
        exact Nat.le_of_lt (this.1 y h1)
  · rw [List.map_append, List.count_append, List.length_append]
    have := m.len
    have : (opened left a sp).length = left.length := by simp [opened]
    simp [List.count_cons]
    omega
end
/-- how many turns are left at most -/
def meas (l : List (So × So)) : Nat := 2 * l.length + if rdy l = [] then 1 else 0
theorem meas_A {l : List (So × So)} (h : rdy l ≠ []) : meas (stay l) < meas l := by
  have h1 := len_parts l
  have h2 : 1 ≤ (rdy l).length := by
    cases hr : rdy l with
    | nil => exact absurd hr h
    | cons x r => simp
  unfold meas
  rw [if_neg h]
  split <;> omega
theorem meas_B {l : List (So × So)} {a s0 sp : So} {rest : List (So × So)} (hl : l = (a, s0) :: rest) (hsp : sp ≠ a) (h : rdy l = []) : meas (opened l a sp) < meas l := by
  have h1 : (opened l a sp).length = l.length := by simp [opened]
  have h2 : rdy (opened l a sp) ≠ [] := by
    intro e
    have : (a, if s0 = a then sp else s0) ∈ rdy (opened l a sp) := by
      refine mem_rdy.mpr ⟨?_, ?_⟩
      · unfold opened
        rw [hl]
        exact List.mem_map.mpr ⟨(a, s0), List.mem_cons_self .., rfl⟩
      · intro z
        obtain ⟨x, h3, h4⟩ := List.mem_map.mp z
        obtain ⟨y, h5, h6⟩ := List.mem_map.mp h3
        subst h6
        by_cases e : y.2 = a
        · simp only [e, if_true] at h4
          exact hsp h4
        · simp only [if_neg e] at h4
          exact e h4
    rw [e] at this
    cases this
  unfold meas
  rw [if_neg h2, if_pos h]
  omega
/-- the moves, once more -/
structure MR (pairs : List (So × So)) (sp : So) (rows : List (So × So)) : Prop where
  val : ∀ x ∈ pairs, run id rows x.1 = x.2
  one : ∀ x ∈ pairs, (rows.map (·.1)).count x.1 = if x.1 = x.2 then 0 else 1
  wr : ∀ r ∈ rows, r.1 = sp ∨ r.1 ∈ pairs.map (·.1)
  ring : (rows.map (·.1)).count sp = R (rank (pairs.filter fun x => decide (x.1 ≠ x.2))) (pairs.filter fun x => decide (x.1 ≠ x.2))
  len : rows.length = (pairs.filter fun x => decide (x.1 ≠ x.2)).length + (rows.map (·.1)).count sp
theorem MI.fin {pairs rows : List (So × So)} {sp : So} (hn : (pairs.map (·.1)).Nodup) (hsp : sp ∉ pairs.map (·.1)) (m : MI (pairs.filter fun x => decide (x.1 ≠ x.2)) sp [] rows) : MR pairs sp rows := by
  have hm : ∀ x, x ∈ (pairs.filter fun x => decide (x.1 ≠ x.2)) ↔ x ∈ pairs ∧ x.1 ≠ x.2 := fun x => by rw [List.mem_filter, decide_eq_true_eq]
  have unw : ∀ x ∈ pairs, x.1 = x.2 → x.1 ∉ rows.map (·.1) := by
    intro x hx e z
    obtain ⟨r, h1, h2⟩ := List.mem_map.mp z
    rcases m.wr r h1 with h | h
    · exact hsp (by rw [← h, h2]; exact List.mem_map.mpr ⟨x, hx, rfl⟩)
    · obtain ⟨y, h3, h4⟩ := List.mem_map.mp h
      obtain ⟨h5, h6⟩ := (hm y).mp h3
      have := same_place hn h5 hx (h4.trans h2)
      rw [this] at h6
      exact h6 e
  refine ⟨fun x hx => ?_, fun x hx => ?_, fun r hr => ?_, ?_, ?_⟩
  · by_cases e : x.1 = x.2
    · rw [run_other (unw x hx e)]
      exact e
    · exact (m.done x ((hm x).mpr ⟨hx, e⟩) (fun z => nomatch z)).1
  · by_cases e : x.1 = x.2
    · rw [if_pos e, List.count_eq_zero_of_not_mem (unw x hx e)]
    · rw [if_neg e]
      exact (m.done x ((hm x).mpr ⟨hx, e⟩) (fun z => nomatch z)).2
  · rcases m.wr r hr with h | h
    · exact .inl h
    · obtain ⟨y, h3, h4⟩ := List.mem_map.mp h
      exact .inr (List.mem_map.mpr ⟨y, ((hm y).mp h3).1, h4⟩)
  · have := m.cnt
    simpa [R] using this
  · have := m.len
    simpa using this
end My

namespace My
open PySem L2 Mi Rg
section
variable {Y : Fs} {env : Mi.Env} {S : Sto} {own : List (Str × Nat)} {tg : Tg} {it : I} {ifs : Es} {elt : E}
theorem comp_of {α : Type} {l : List α} {f : α → D} {en : α → Mi.Env} {P : α → Bool} {g : α → D} {q : Nat} (hl : l.length ≤ lim) (hI : evI Y it env S = .ok (.seq (.ref q)) S) (hq : S[q]? = some (.lst (l.map f))) (ha : ∀ x ∈ l, asg tg (f x) (wipeD env (own.map (·.2))) = some (en x)) (ht : ∀ x ∈ l, evIfs Y ifs (en x) S = .ok (P x) S) (he : ∀ x ∈ l, P x = true → ev Y elt (en x) S = .ok (g x) S) :
    ev Y (.comp own tg it ifs elt) env S = .ok (.ref S.length) (S ++ [.lst ((l.filter P).map g)]) := by
  rw [ev_comp, hI, bind_ok]
  have c : (compN (itNext (.seq (.ref q))) (asg tg) (fun e s => (evIfs Y ifs e s).calm) (fun e s => (ev Y elt e s).calm) (wipeD env (own.map (·.2))) (lim + 2) 0 [] S).Ok fun xs S' => S' = S ∧ xs = (l.filter P).map g := by
    refine compN_inv (fun i acc S' => S' = S ∧ acc = ((l.take i).filter P).map g) l.length (fun i => (l.map f)[i]?.getD .non) hl ?_ ?_ ?_ ?_ (lim + 2) 0 [] S ⟨rfl, by simp⟩ (Nat.le_refl _) (Nat.zero_le _) (by omega)
    · rintro i acc S' ⟨rfl, _⟩ hi
      simp [itNext, seqAt, lstAt, hq, hi]
    · rintro acc S' ⟨rfl, _⟩
      simp [itNext, seqAt, lstAt, hq]
    · rintro i acc S' ⟨rfl, rfl⟩ hi
      have hx : l[i] ∈ l := List.getElem_mem hi
      refine ⟨en l[i], ?_, ?_⟩
      · have : (l.map f)[i]?.getD .non = f l[i] := by simp [hi]
        rw [this]
        exact ha _ hx
      · simp only [ht _ hx, calm_ok, Ok_ok]
        rw [List.take_succ_eq_append_getElem hi, List.filter_append]
        cases hp : P l[i] with
        | false => exact ⟨by trivial, by simp [hp]⟩
        | true =>
          show ((ev Y elt (en l[i]) S').calm).Ok _
          rw [he _ hx hp, calm_ok, Ok_ok]
          exact ⟨rfl, by simp [hp]⟩
    · rintro acc S' ⟨rfl, rfl⟩
      rw [List.take_length]
      exact ⟨rfl, rfl⟩
  obtain ⟨_, _, e, rfl, rfl⟩ := c.ex
  rw [e, bind_ok, new_eq]
theorem comp_ext {α : Type} {l : List α} {f : α → D} {en : α → Mi.Env} {g : α → D} {q : Nat} (hl : l.length ≤ lim) (hI : evI Y it env S = .ok (.seq (.ref q)) S) (hq : S[q]? = some (.lst (l.map f))) (ha : ∀ x ∈ l, asg tg (f x) (wipeD env (own.map (·.2))) = some (en x)) (he : ∀ x ∈ l, ∀ S', Ext S S' → (ev Y elt (en x) S').Ok fun v S'' => Ext S' S'' ∧ v = g x) :
    (ev Y (.comp own tg it .nil elt) env S).Ok fun v S' => ∃ k, v = .ref k ∧ S'[k]? = some (.lst (l.map g)) ∧ Ext S S' ∧ S.length ≤ k := by
  rw [ev_comp, hI, bind_ok]
  refine Ok_bind ?_
  refine compN_inv (fun i acc S' => Ext S S' ∧ acc = (l.take i).map g) l.length (fun i => (l.map f)[i]?.getD .non) hl ?_ ?_ ?_ ?_ (lim + 2) 0 [] S ⟨Ext_refl _, by simp⟩ (Nat.le_refl _) (Nat.zero_le _) (by omega)
  · rintro i acc S' ⟨x, _⟩ hi
    simp [itNext, seqAt, lstAt, x.at hq, hi]
  · rintro acc S' ⟨x, _⟩
    simp [itNext, seqAt, lstAt, x.at hq]
  · rintro i acc S' ⟨x, rfl⟩ hi
    have hx : l[i] ∈ l := List.getElem_mem hi
    refine ⟨en l[i], ?_, ?_⟩
    · have : (l.map f)[i]?.getD .non = f l[i] := by simp [hi]
      rw [this]
      exact ha _ hx
    · obtain ⟨v, S2, e2, x2, rfl⟩ := (he _ hx S' x).ex
      simp only [evIfs_nil, calm_ok, Ok_ok, e2]
      exact ⟨x.trans x2, by rw [List.take_succ_eq_append_getElem hi, List.map_append]; rfl⟩
  · rintro acc S' ⟨x, rfl⟩
    rw [List.take_length, new_eq, Ok_ok]
    refine ⟨_, rfl, by simp, x.trans (Ext_app _ _), ?_⟩
    obtain ⟨T, rfl⟩ := x
    simp
theorem seq_I {q i : Nat} {xs : List D} (hv : env[i]? = some (some (.ref q))) (hq : S[q]? = some (.lst xs)) : evI Y (.val (.var i)) env S = .ok (.seq (.ref q)) S := by
  rw [evI_val, ev_var hv, bind_ok]
  simp [seqAt, lstAt, hq]
end
def roD (x : So × So) : D := .tup [.str "move", x.1.D, x.2.D]
theorem map_snd (l : List (So × So)) : (l.map (·.2)).map So.D = l.map fun x => So.D x.2 := by rw [List.map_map]; rfl
theorem stay_eq (l : List (So × So)) : (l.filter fun x => decide (x ∉ rdy l)) = stay l := by
  unfold stay
  refine List.filter_congr fun x hx => ?_
  by_cases h : x.1 ∈ l.map (·.2)
  · have : x ∉ rdy l := fun z => (mem_rdy.mp z).2 h
    rw [decide_eq_true this, decide_eq_true h]
  · have : ¬ x ∉ rdy l := fun z => z (mem_rdy.mpr ⟨hx, h⟩)
    rw [decide_eq_false this, decide_eq_false h]
end My

namespace My
open PySem L2 Mi Rg
/-- all that was there stays -/
def Kp (S S' : Sto) : Prop := ∀ (n : Nat) (o : MO), S[n]? = some o → S'[n]? = some o
theorem Kp.refl (S : Sto) : Kp S S := fun n o h => h
theorem Kp.trans {S S1 S2 : Sto} (a : Kp S S1) (b : Kp S1 S2) : Kp S S2 := fun n o h => b n o (a n o h)
theorem Kp.ext {S S' : Sto} (h : Ext S S') : Kp S S' := fun n o e => h.at e
theorem Kp.set {S S1 : Sto} {r : Nat} {o : MO} (h : Kp S S1) (hr : S.length ≤ r) : Kp S (S1.set r o) := fun n o e => by
  have hn := (List.getElem?_eq_some_iff.mp e).1
  rw [List.getElem?_set_ne (by omega)]
  exact h n o e
section
variable {Y : Fs} {S S0 : Sto} {L Rw : Nat} {mv left rows : List (So × So)} {sp : So} {pr : D} {a b c d e f : Option D}
/-- one turn of the moves -/
theorem turn_ok (hn : (mv.map (·.1)).Nodup) (hsp : sp ∉ mv.map (·.1)) (hb : mv.length ≤ 8) (hL : S[L]? = some (.lst (left.map prD))) (hR : S[Rw]? = some (.lst (rows.map roD))) (hne : L ≠ Rw) (hk0 : Kp S0 S) (hr0 : S0.length ≤ Rw) (hl0 : left ≠ []) (hrows : rows.length ≤ 100) (m : MI mv sp left rows) {k : Kt}
    (hk : ∀ S' L' left' rows' a b c d e f, S'[L']? = some (.lst (left'.map prD)) → S'[Rw]? = some (.lst (rows'.map roD)) → L' ≠ Rw → Kp S0 S' → MI mv sp left' rows' → meas left' < meas left → k.nx [some pr, some sp.D, some (.ref L'), a, b, some (.ref Rw), c, d, e, f] S') :
    (execs Y f0_8 [some pr, some sp.D, some (.ref L), a, b, some (.ref Rw), c, d, e, f] S).F k := by
  have hll : left.length ≤ 8 := by
    have h1 := len_of_sub m.nd m.sub
    simp at h1
    omega
  have hlim : left.length ≤ lim := by simp [lim]; omega
  have hrl := (List.getElem?_eq_some_iff.mp hR).1
  refine w_set rfl ?_
  have e1 := comp_of (Y := Y) (env := [some pr, some sp.D, some (.ref L), a, b, some (.ref Rw), c, d, e, f]) (S := S) (own := [("place", 3), ("source", 4)]) (tg := .tup [3, 4]) (it := .val (.var 2)) (ifs := .nil) (elt := .var 4) (l := left) (f := prD) (en := fun x => [some pr, some sp.D, some (.ref L), some x.1.D, some x.2.D, some (.ref Rw), c, d, e, f]) (P := fun _ => true) (g := fun x => So.D x.2) hlim (seq_I rfl hL) hL (fun x _ => rfl) (fun x _ => evIfs_nil) (fun x _ _ => ev_var rfl)
  rw [e1, Ok_ok]
  have er : (left.filter fun _ => true).map (fun x => So.D x.2) = (left.map (·.2)).map So.D := by rw [List.filter_eq_self.mpr (fun _ _ => rfl), map_snd]
  rw [er]
  show (execs Y f0_7 [some pr, some sp.D, some (.ref L), a, b, some (.ref Rw), some (.ref S.length), d, e, f] (S ++ [.lst ((left.map (·.2)).map So.D)])).F k
  have x1 : Ext S (S ++ [.lst ((left.map (·.2)).map So.D)]) := Ext_app _ _
  have q1 : (S ++ [MO.lst ((left.map (·.2)).map So.D)])[S.length]? = some (.lst ((left.map (·.2)).map So.D)) := by simp
  have hL1 := x1.at hL
  have hR1 := x1.at hR
  have hk1 := hk0.trans (.ext x1)
  generalize S ++ [MO.lst ((left.map (·.2)).map So.D)] = S1 at x1 q1 hL1 hR1 hk1
  generalize S.length = rd at q1
  refine w_set rfl ?_
  have e2 := comp_of (Y := Y) (env := [some pr, some sp.D, some (.ref L), a, b, some (.ref Rw), some (.ref rd), d, e, f]) (S := S1) (own := [("one", 8)]) (tg := .nm 8) (it := .val (.var 2)) (ifs := .cons (.cmp .NotIn (.idx (.var 8) (.con (.int (0)))) (.var 6)) .nil) (elt := .var 8) (l := left) (f := prD) (en := fun x => [some pr, some sp.D, some (.ref L), a, b, some (.ref Rw), some (.ref rd), d, some (prD x), f]) (P := fun x => decide (x.1 ∉ left.map (·.2))) (g := prD) hlim (seq_I rfl hL1) hL1 (fun x _ => rfl) (fun x _ => by
    rw [evIfs_cons, ev_cmp, ev_idx, ev_var (d := prD x) rfl, bind_ok, ev_con, bind_ok]
    simp only [prD, idxD_tup, at_0, oD_some_, bind_ok]
    rw [ev_var (d := .ref rd) rfl, bind_ok, cmpD_notin, inD_ref, q1]
    simp only [in_so, Option.map_some, obl_some, bind_ok, truthD_bl]
    congr 1
    simp) (fun x _ _ => ev_var rfl)
  rw [e2, Ok_ok]
  show (execs Y f0_6 [some pr, some sp.D, some (.ref L), a, b, some (.ref Rw), some (.ref rd), some (.ref S1.length), e, f] (S1 ++ [.lst ((rdy left).map prD)])).F k
  have x2 : Ext S1 (S1 ++ [.lst ((rdy left).map prD)]) := Ext_app _ _
  have q2 : (S1 ++ [MO.lst ((rdy left).map prD)])[S1.length]? = some (.lst ((rdy left).map prD)) := by simp
  have hL2 := x2.at hL1
  have hR2 := x2.at hR1
  have hk2 := hk1.trans (.ext x2)
  have hne2 : S1.length ≠ Rw := Nat.ne_of_gt (List.getElem?_eq_some_iff.mp hR1).1
  generalize S1 ++ [MO.lst ((rdy left).map prD)] = S2 at x2 q2 hL2 hR2 hk2
  generalize S1.length = ry at q2 hne2
  have hrd : (rdy left).length ≤ 8 := by have := len_parts left; omega
  refine w_ex rfl ?_
  have e3 := comp_of (Y := Y) (env := [some pr, some sp.D, some (.ref L), a, b, some (.ref Rw), some (.ref rd), some (.ref ry), e, f]) (S := S2) (own := [("place", 3), ("source", 4)]) (tg := .tup [3, 4]) (it := .val (.var 7)) (ifs := .nil) (elt := .tup (.cons (.con (.str "move")) (.cons (.var 3) (.cons (.var 4) .nil)))) (l := rdy left) (f := prD) (en := fun x => [some pr, some sp.D, some (.ref L), some x.1.D, some x.2.D, some (.ref Rw), some (.ref rd), some (.ref ry), e, f]) (P := fun _ => true) (g := roD) (by simp [lim]; omega) (seq_I rfl q2) q2 (fun x _ => rfl) (fun x _ => evIfs_nil) (fun x _ _ => by
    rw [ev_tup, evs_cons, ev_con, bind_ok, evs_cons, ev_var (d := x.1.D) rfl, bind_ok, evs_cons, ev_var (d := x.2.D) rfl, bind_ok, evs_nil, bind_ok, bind_ok, bind_ok, bind_ok, if_pos (by simp [lim])]
    rfl)
  rw [List.filter_eq_self.mpr (fun _ _ => rfl)] at e3
  have hR3 : (S2 ++ [MO.lst ((rdy left).map roD)])[Rw]? = some (.lst (rows.map roD)) := (Ext_app _ _).at hR2
  have hlt3 := (List.getElem?_eq_some_iff.mp hR3).1
  have e4 : ev Y (.bm .extend (.var 5) (.cons (.comp [("place", 3), ("source", 4)] (.tup [3, 4]) (.val (.var 7)) .nil (.tup (.cons (.con (.str "move")) (.cons (.var 3) (.cons (.var 4) .nil))))) .nil)) [some pr, some sp.D, some (.ref L), a, b, some (.ref Rw), some (.ref rd), some (.ref ry), e, f] S2 = .ok .non ((S2 ++ [MO.lst ((rdy left).map roD)]).set Rw (MO.lst ((rows ++ rdy left).map roD))) := by
    have hkk : bmK .extend (.ref Rw) S2 = true := by simp [hR2]
    rw [ev_bm, ev_var (d := .ref Rw) rfl, bind_ok, if_pos hkk, evs_cons, e3, bind_ok, evs_nil, bind_ok, bind_ok, bm_extR, hR3]
    simp only [lstAt_last]
    rw [if_pos (by simp [lim]; omega), List.map_append]
  rw [e4, Ok_ok]
  have hR4 : ((S2 ++ [MO.lst ((rdy left).map roD)]).set Rw (MO.lst ((rows ++ rdy left).map roD)))[Rw]? = some (.lst ((rows ++ rdy left).map roD)) := List.getElem?_set_self hlt3
  have hk4 : Kp S0 ((S2 ++ [MO.lst ((rdy left).map roD)]).set Rw (MO.lst ((rows ++ rdy left).map roD))) := Kp.set (hk2.trans (.ext (Ext_app _ _))) hr0
  have hL4 : ((S2 ++ [MO.lst ((rdy left).map roD)]).set Rw (MO.lst ((rows ++ rdy left).map roD)))[L]? = some (.lst (left.map prD)) := by
    rw [List.getElem?_set_ne (Ne.symm hne)]
    exact (Ext_app _ _).at hL2
  have q4 : ((S2 ++ [MO.lst ((rdy left).map roD)]).set Rw (MO.lst ((rows ++ rdy left).map roD)))[ry]? = some (.lst ((rdy left).map prD)) := by
    rw [List.getElem?_set_ne (Ne.symm hne2)]
    exact (Ext_app _ _).at q2
  generalize (S2 ++ [MO.lst ((rdy left).map roD)]).set Rw (MO.lst ((rows ++ rdy left).map roD)) = S4 at hR4 hk4 hL4 q4
  show (execs Y f0_5 [some pr, some sp.D, some (.ref L), a, b, some (.ref Rw), some (.ref rd), some (.ref ry), e, f] S4).F k
  refine w_set rfl ?_
  have e5 := comp_of (Y := Y) (env := [some pr, some sp.D, some (.ref L), a, b, some (.ref Rw), some (.ref rd), some (.ref ry), e, f]) (S := S4) (own := [("one", 8)]) (tg := .nm 8) (it := .val (.var 2)) (ifs := .cons (.cmp .NotIn (.var 8) (.var 7)) .nil) (elt := .var 8) (l := left) (f := prD) (en := fun x => [some pr, some sp.D, some (.ref L), a, b, some (.ref Rw), some (.ref rd), some (.ref ry), some (prD x), f]) (P := fun x => decide (x ∉ rdy left)) (g := prD) hlim (seq_I rfl hL4) hL4 (fun x _ => rfl) (fun x _ => by
    rw [evIfs_cons, ev_cmp, ev_var (d := prD x) rfl, bind_ok, ev_var (d := .ref ry) rfl, bind_ok, cmpD_notin, inD_ref, q4]
    simp only [in_pr, Option.map_some, obl_some, bind_ok, truthD_bl]
    congr 1
    simp) (fun x _ _ => ev_var rfl)
  rw [stay_eq] at e5
  rw [e5, Ok_ok]
  have x5 : Ext S4 (S4 ++ [.lst ((stay left).map prD)]) := Ext_app _ _
  have hL5 : (S4 ++ [MO.lst ((stay left).map prD)])[S4.length]? = some (.lst ((stay left).map prD)) := by simp
  have hR5 := x5.at hR4
  have q5 := x5.at q4
  have hk5 := hk4.trans (.ext x5)
  have hne5 : S4.length ≠ Rw := Nat.ne_of_gt (List.getElem?_eq_some_iff.mp hR4).1
  generalize S4 ++ [MO.lst ((stay left).map prD)] = S5 at x5 hL5 hR5 q5 hk5
  generalize S4.length = L5 at hL5 hne5
  show (execs Y f0_4 [some pr, some sp.D, some (.ref L5), a, b, some (.ref Rw), some (.ref rd), some (.ref ry), e, f] S5).F k
  refine w_if rfl ?_
  have x6 : Ext S5 (S5 ++ [.lst []]) := Ext_app _ _
  have en := eq_prn (S := S5 ++ [.lst []]) (p := ry) (q := S5.length) (x6.at q5) (by simp)
  rw [ev_cmp, ev_var (d := .ref ry) rfl, bind_ok, ev_lst, evs_nil, bind_ok, if_pos (by simp [lim]), new_eq, bind_ok, cmpD_eq, en, obl_some, Ok_ok, truthD_bl]
  have hL6 := x6.at hL5
  have hR6 := x6.at hR5
  have hk6 := hk5.trans (.ext x6)
  generalize S5 ++ [MO.lst []] = S6 at x6 hL6 hR6 hk6
  cases hre : (rdy left).isEmpty with
  | false =>
    have hr : rdy left ≠ [] := fun z => by rw [z] at hre; cases hre
    exact w_nil (w_nil (hk _ _ _ _ _ _ _ _ _ _ hL6 hR6 hne5 hk6 (m.stepA hn hsp) (meas_A hr)))
  | true =>
    have hr : rdy left = [] := List.isEmpty_iff.mp hre
    have hst : stay left = left := by
      unfold stay
      rw [List.filter_eq_self]
      intro x hx
      rw [decide_eq_true_eq]
      apply Classical.byContradiction
      intro h
      have : x ∈ rdy left := mem_rdy.mpr ⟨hx, h⟩
      rw [hr] at this
      cases this
    rw [hst] at hL6
    rw [hr, List.append_nil] at hR6
    obtain ⟨a0, s0, rest, hle⟩ : ∃ a0 s0 rest, left = (a0, s0) :: rest := by
      cases left with
      | nil => exact absurd rfl hl0
      | cons x r => exact ⟨x.1, x.2, r, rfl⟩
    have haS : a0 ≠ sp := fun z => hsp (m.sub _ (by rw [hle, ← z]; simp))
    simp only
    refine w_set rfl ?_
    have e6 : ev Y (.idx (.idx (.var 2) (.con (.int (0)))) (.con (.int (0)))) [some pr, some sp.D, some (.ref L5), a, b, some (.ref Rw), some (.ref rd), some (.ref ry), e, f] S6 = .ok a0.D S6 := by
      rw [ev_idx, ev_idx, ev_var (d := .ref L5) rfl, bind_ok, ev_con, bind_ok, idxD_ref, hL6, hle]
      simp only [List.map_cons, at_0, oD_some_, bind_ok, ev_con, prD, idxD_tup]
    rw [e6, Ok_ok]
    show (execs Y f0_2 [some pr, some sp.D, some (.ref L5), a, b, some (.ref Rw), some (.ref rd), some (.ref ry), e, some a0.D] S6).F _
    refine w_ex rfl ?_
    have hlt6 := (List.getElem?_eq_some_iff.mp hR6).1
    have e7 : ev Y (.bm .append (.var 5) (.cons (.tup (.cons (.con (.str "move")) (.cons (.var 1) (.cons (.var 9) .nil)))) .nil)) [some pr, some sp.D, some (.ref L5), a, b, some (.ref Rw), some (.ref rd), some (.ref ry), e, some a0.D] S6 = .ok .non (S6.set Rw (MO.lst ((rows ++ [(sp, a0)]).map roD))) := by
      have hkk : bmK .append (.ref Rw) S6 = true := by simp [hR6]
      rw [ev_bm, ev_var (d := .ref Rw) rfl, bind_ok, if_pos hkk, evs_cons, ev_tup, evs_cons, ev_con, bind_ok, evs_cons, ev_var (d := sp.D) rfl, bind_ok, evs_cons, ev_var (d := a0.D) rfl, bind_ok, evs_nil, bind_ok, bind_ok, bind_ok, bind_ok, if_pos (by simp [lim]), bind_ok, evs_nil, bind_ok, bind_ok, bm_append, hR6]
      simp only
      rw [if_pos (by simp [lim]; omega), List.map_append]
      rfl
    rw [e7, Ok_ok]
    have hR7 : (S6.set Rw (MO.lst ((rows ++ [(sp, a0)]).map roD)))[Rw]? = some (.lst ((rows ++ [(sp, a0)]).map roD)) := List.getElem?_set_self hlt6
    have hL7 : (S6.set Rw (MO.lst ((rows ++ [(sp, a0)]).map roD)))[L5]? = some (.lst (left.map prD)) := by
      rw [List.getElem?_set_ne (Ne.symm hne5)]
      exact hL6
    have hk7 : Kp S0 (S6.set Rw (MO.lst ((rows ++ [(sp, a0)]).map roD))) := Kp.set hk6 hr0
    generalize S6.set Rw (MO.lst ((rows ++ [(sp, a0)]).map roD)) = S7 at hR7 hL7 hk7
    show (execs Y f0_1 [some pr, some sp.D, some (.ref L5), a, b, some (.ref Rw), some (.ref rd), some (.ref ry), e, some a0.D] S7).F _
    refine w_set rfl ?_
    refine Ok_imp (comp_ext (Y := Y) (env := [some pr, some sp.D, some (.ref L5), a, b, some (.ref Rw), some (.ref rd), some (.ref ry), e, some a0.D]) (S := S7) (own := [("place", 3), ("source", 4)]) (tg := .tup [3, 4]) (it := .val (.var 2)) (l := left) (f := prD) (en := fun x => [some pr, some sp.D, some (.ref L5), some x.1.D, some x.2.D, some (.ref Rw), some (.ref rd), some (.ref ry), e, some a0.D]) (g := fun x => prD (x.1, if x.2 = a0 then sp else x.2)) hlim (seq_I rfl hL7) hL7 (fun x _ => rfl) ?_) ?_
    · intro x hx S' x'
      have h1 : ev Y (.idx (.lst (.cons (.var 4) (.cons (.var 1) .nil))) (.bi .int1 (.cons (.cmp .Eq (.var 4) (.var 9)) .nil))) [some pr, some sp.D, some (.ref L5), some x.1.D, some x.2.D, some (.ref Rw), some (.ref rd), some (.ref ry), e, some a0.D] S' = .ok (So.D (if x.2 = a0 then sp else x.2)) (S' ++ [.lst [x.2.D, sp.D]]) := by
        rw [ev_idx, ev_lst, evs_cons, ev_var (d := x.2.D) rfl, bind_ok, evs_cons, ev_var (d := sp.D) rfl, bind_ok, evs_nil, bind_ok, bind_ok, bind_ok, if_pos (by simp [lim]), new_eq, bind_ok, ev_bi, evs_cons, ev_cmp, ev_var (d := x.2.D) rfl, bind_ok, ev_var (d := a0.D) rfl, bind_ok, cmpD_eq, eq_so, obl_some, bind_ok, evs_nil, bind_ok, bind_ok]
        have ei : ∀ t : Bool, biD .int1 [.bl t] (S' ++ [.lst [x.2.D, sp.D]]) = .ok (.int (if t then 1 else 0)) (S' ++ [.lst [x.2.D, sp.D]]) := fun _ => rfl
        rw [ei, bind_ok, idxD_ref]
        by_cases h : x.2 = a0
        · simp [h, at_1]
        · simp [h, at_0]
      rw [ev_tup, evs_cons, ev_var (d := x.1.D) rfl, bind_ok, evs_cons, h1, bind_ok, evs_nil, bind_ok, bind_ok, bind_ok, if_pos (by simp [lim]), Ok_ok]
      exact ⟨Ext_app _ _, rfl⟩
    · rintro v S8 ⟨L8, rfl, q8, x8, hge⟩
      have hL8 : S8[L8]? = some (.lst ((opened left a0 sp).map prD)) := by
        rw [q8]
        unfold opened
        rw [List.map_map]
        rfl
      have hne8 : L8 ≠ Rw := by
        have := (List.getElem?_eq_some_iff.mp hR7).1
        omega
      refine w_nil (w_nil ?_)
      exact hk S8 L8 (opened left a0 sp) (rows ++ [(sp, a0)]) _ _ _ _ _ _ hL8 (x8.at hR7) hne8 (hk7.trans (.ext x8)) (m.stepB hn hsp hle hr) (meas_B hle (fun z => haS z.symm) hr)
end
end My

namespace My
open PySem L2 Mi Rg
theorem MI.rows_len {mv left rows : List (So × So)} {sp : So} (m : MI mv sp left rows) : rows.length ≤ 2 * mv.length := by
  have h1 := m.cnt
  have h2 := m.len
  have h3 : R (rank mv) mv ≤ mv.length := by unfold R; exact List.countP_le_length
  omega
/-- the moves are told -/
theorem moves_ok (n : Nat) {pairs : List (So × So)} {sp : So} {q : Nat} {S : Sto} (hg : Good pairs) (hsp : sp ∉ pairs.map (·.1)) (hq : S[q]? = some (.lst (pairs.map prD))) : (fnN G (n + 1) 0 [.ref q, sp.D] S).Ok fun v S' => ∃ r rows, v = .ref r ∧ S'[r]? = some (.lst (rows.map roD)) ∧ MR pairs sp rows ∧ Kp S S' ∧ S.length ≤ r ∧ rows.length ≤ 16 := by
  have hnm : ((pairs.filter fun x => decide (x.1 ≠ x.2)).map (·.1)).Nodup := hg.1.sublist ((List.filter_sublist).map _)
  have hlm : (pairs.filter fun x => decide (x.1 ≠ x.2)).length ≤ 8 := Nat.le_trans (List.length_filter_le _ _) hg.2.2
  have hspm : sp ∉ (pairs.filter fun x => decide (x.1 ≠ x.2)).map (·.1) := fun h => hsp ((List.filter_sublist.map _).mem h)
  generalize hF : fnN G (n + 1) = F
  refine run_okF hF f0 rfl rfl fun Y hf hgv => ?_
  simp only [f0]
  refine w_set rfl ?_
  show (ev Y _ [some (.ref q), some sp.D, none, none, none, none, none, none, none, none] S).Ok _
  have e1 := comp_of (Y := Y) (env := [some (.ref q), some sp.D, none, none, none, none, none, none, none, none]) (S := S) (own := [("place", 3), ("source", 4)]) (tg := .tup [3, 4]) (it := .val (.var 0)) (ifs := .cons (.cmp .NotEq (.var 3) (.var 4)) .nil) (elt := .tup (.cons (.var 3) (.cons (.var 4) .nil))) (l := pairs) (f := prD) (en := fun x => [some (.ref q), some sp.D, none, some x.1.D, some x.2.D, none, none, none, none, none]) (P := fun x => decide (x.1 ≠ x.2)) (g := prD) (by have := hg.2.2; simp [lim]; omega) (seq_I rfl hq) hq (fun x _ => rfl) (fun x _ => by
    rw [evIfs_cons, ev_cmp, ev_var (d := x.1.D) rfl, bind_ok, ev_var (d := x.2.D) rfl, bind_ok, cmpD_ne, eq_so]
    simp only [Option.map_some, obl_some, bind_ok, truthD_bl]
    congr 1
    simp) (fun x _ _ => by
    rw [ev_tup, evs_cons, ev_var (d := x.1.D) rfl, bind_ok, evs_cons, ev_var (d := x.2.D) rfl, bind_ok, evs_nil, bind_ok, bind_ok, bind_ok, if_pos (by simp [lim])]
    rfl)
  rw [e1, Ok_ok]
  show (execs Y f0_10 [some (.ref q), some sp.D, some (.ref S.length), none, none, none, none, none, none, none] (S ++ [.lst ((pairs.filter fun x => decide (x.1 ≠ x.2)).map prD)])).F _
  generalize hmv : (pairs.filter fun x => decide (x.1 ≠ x.2)) = mv at hnm hlm hspm
  refine w_set rfl ?_
  rw [ev_lst, evs_nil, bind_ok, if_pos (by simp [lim]), new_eq, Ok_ok]
  have q2 : (S ++ [MO.lst (mv.map prD)] ++ [MO.lst []])[S.length]? = some (.lst (mv.map prD)) := (Ext_app _ _).at (by simp)
  have r2 : (S ++ [MO.lst (mv.map prD)] ++ [MO.lst []])[(S ++ [MO.lst (mv.map prD)]).length]? = some (.lst (([] : List (So × So)).map roD)) := by simp
  have k2 : Kp S (S ++ [MO.lst (mv.map prD)] ++ [MO.lst []]) := .ext ((Ext_app _ _).trans (Ext_app _ _))
  have hne : S.length ≠ (S ++ [MO.lst (mv.map prD)]).length := by simp
  have hge : S.length ≤ (S ++ [MO.lst (mv.map prD)]).length := by simp
  show (execs Y f0_9 [some (.ref q), some sp.D, some (.ref S.length), none, none, some (.ref (S ++ [MO.lst (mv.map prD)]).length), none, none, none, none] (S ++ [MO.lst (mv.map prD)] ++ [MO.lst []])).F _
  generalize S ++ [MO.lst (mv.map prD)] ++ [MO.lst []] = S2 at q2 r2 k2
  generalize (S ++ [MO.lst (mv.map prD)]).length = Rw at r2 hne hge
  refine w_whl rfl ?_
  refine whlN_inv (fun i e S' => ∃ L left rows a b c d e' f, e = [some (.ref q), some sp.D, some (.ref L), a, b, some (.ref Rw), c, d, e', f] ∧ S'[L]? = some (.lst (left.map prD)) ∧ S'[Rw]? = some (.lst (rows.map roD)) ∧ L ≠ Rw ∧ Kp S S' ∧ MI mv sp left rows ∧ meas left ≤ i) ?_ (lim + 2) (meas mv) _ _ ⟨S.length, mv, [], _, _, _, _, _, _, rfl, q2, r2, hne, k2, .start hnm, Nat.le_refl _⟩ ?_
  · rintro i e S3 ⟨L, left, rows, a, b, c, d, e', f, rfl, q3, r3, hne3, k3, m, hi⟩
    have x4 : Ext S3 (S3 ++ [.lst []]) := Ext_app _ _
    have en := eq_prn (S := S3 ++ [.lst []]) (p := L) (q := S3.length) (x4.at q3) (by simp)
    rw [evT_eq, ev_cmp, ev_var (d := .ref L) rfl, bind_ok, ev_lst, evs_nil, bind_ok, if_pos (by simp [lim]), new_eq, bind_ok, cmpD_ne, en]
    simp only [Option.map_some, obl_some, bind_ok, truthD_bl, Ok_ok]
    have q4 := x4.at q3
    have r4 := x4.at r3
    have k4 := k3.trans (.ext x4)
    generalize S3 ++ [MO.lst []] = S4 at q4 r4 k4
    cases hle : left.isEmpty with
    | true =>
      have hl : left = [] := List.isEmpty_iff.mp hle
      subst hl
      simp only [Bool.not_true]
      refine w_ret rfl ?_
      rw [ev_var (d := .ref Rw) rfl, Ok_ok]
      refine ⟨Rw, rows, rfl, r4, ?_, k4, hge, by have := m.rows_len; omega⟩
      subst hmv
      exact m.fin hg.1 hsp
    | false =>
      have hl : left ≠ [] := fun z => by rw [z] at hle; cases hle
      simp only [Bool.not_false]
      refine turn_ok hnm hspm hlm q4 r4 hne3 k4 hge hl (by have := m.rows_len; omega) m fun S' L' left' rows' a b c d e f h1 h2 h3 h4 h5 h6 => ?_
      exact ⟨meas left', by omega, L', left', rows', a, b, c, d, e, f, rfl, h1, h2, h3, h4, h5, Nat.le_refl _⟩
  · have : meas mv ≤ 17 := by
      unfold meas
      split <;> omega
    simp only [lim]
    omega
end My

namespace My
open PySem L2 Mi Rg
/-- what a place held ahead of all, a constant -/
def W (s : So) : D := if s.isP = true then .tup [.str "was", s.D] else .tup [.str "constant", s.D]
theorem W_py (s : So) : ∃ p, PyData.eqv p p = true ∧ ∀ S n, toPy S (n + 3) (W s) = some p := by
  unfold W
  split
  · refine ⟨.tuple [.str "was", s.py], by simp [So.eqv], fun S n => ?_⟩
    show (([.str "was", s.D] : List D).mapM (toPy S (n + 2))).map PyData.tuple = _
    rw [List.mapM_cons, show toPy S (n + 2) (.str "was") = some (.str "was") by simp [toPy], List.mapM_cons, s.toPy S n]
    rfl
  · refine ⟨.tuple [.str "constant", s.py], by simp [So.eqv], fun S n => ?_⟩
    show (([.str "constant", s.D] : List D).mapM (toPy S (n + 2))).map PyData.tuple = _
    rw [List.mapM_cons, show toPy S (n + 2) (.str "constant") = some (.str "constant") by simp [toPy], List.mapM_cons, s.toPy S n]
    rfl
theorem eq_W {S : Sto} (s : So) : eqD S (W s) (W s) = some true := by
  obtain ⟨p, e, h⟩ := W_py s
  rw [eqD_of (h S 37) (h S 37), e]
theorem get2T {S : Sto} {n : Nat} {kvs : List (List Key × D)} {k d : D} {q : List Key} (h : S[n]? = some (.dT kvs)) (hk : k.keyTB = some q) : bmD .get2 (.ref n) [k, d] S = .ok ((getK kvs q).getD d) S := by
  simp only [bmD, h, getB, hk, Option.map_some]
theorem at_ok (n : Nat) {h : Nat} {kvs : List (List Key × D)} {S : Sto} (hh : S[h]? = some (.dT kvs)) (s : So) : fnN G (n + 1) 6 [.ref h, s.D] S = .ok (if s.isP = true then (getK kvs s.key).getD (W s) else W s) S := by
  have q : (fnN G (n + 1) 6 [.ref h, s.D] S).Ok fun v S' => S' = S ∧ v = if s.isP = true then (getK kvs s.key).getD (W s) else W s := by
    generalize hF : fnN G (n + 1) = F
    refine run_okF hF f6 rfl rfl fun Y hf hg => ?_
    simp only [f6]
    refine w_if rfl ?_
    show (ev Y _ [some (.ref h), some s.D] S).Ok _
    have hg : ∀ w : String, ev Y (.cmp .Eq (.idx (.var 1) (.con (.int (0)))) (.con (.str w))) [some (.ref h), some s.D] S = .ok (.bl (match s with
        | .reg _ => decide ("reg" = w)
        | .fr _ => decide ("frame" = w)
        | .num _ => decide ("num" = w)
        | .tru _ => decide ("truth" = w))) S := by
      intro w
      rw [ev_cmp, ev_idx, ev_var (d := s.D) rfl, bind_ok, ev_con, bind_ok]
      cases s <;> simp only [So.D, idxD_tup, at_0, oD_some_, bind_ok, ev_con, cmpD_eq, eq_ss, obl_some]
    have hor : ev Y (.or_ (.cons (.cmp .Eq (.idx (.var 1) (.con (.int (0)))) (.con (.str "reg"))) (.cons (.cmp .Eq (.idx (.var 1) (.con (.int (0)))) (.con (.str "frame"))) .nil))) [some (.ref h), some s.D] S = .ok (.bl s.isP) S := by
      rw [ev_or, evOr_cons, hg, bind_ok]
      simp only [truthD_bl]
      cases s <;> simp [So.isP, -ev_cmp, hg]
    rw [hor, Ok_ok, truthD_bl]
    cases hp : s.isP with
    | true =>
      simp only
      refine w_ret rfl ?_
      show (ev Y _ [some (.ref h), some s.D] S).Ok _
      have hk : bmK .get2 (.ref h) S = true := by simp [hh]
      rw [ev_bm, ev_var (d := .ref h) rfl, bind_ok, if_pos hk, evs_cons, ev_var (d := s.D) rfl, bind_ok, evs_cons, ev_tup, evs_cons, ev_con, bind_ok, evs_cons, ev_var (d := s.D) rfl, bind_ok, evs_nil, bind_ok, bind_ok, bind_ok, if_pos (by simp [lim]), bind_ok, evs_nil, bind_ok, bind_ok, bind_ok, get2T hh s.keyTB, Ok_ok]
      refine ⟨rfl, ?_⟩
      rw [if_pos trivial]
      unfold W
      rw [if_pos hp]
    | false =>
      simp only
      refine w_nil (w_ret rfl ?_)
      show (ev Y _ [some (.ref h), some s.D] S).Ok _
      rw [ev_tup, evs_cons, ev_con, bind_ok, evs_cons, ev_var (d := s.D) rfl, bind_ok, evs_nil, bind_ok, bind_ok, bind_ok, if_pos (by simp [lim]), Ok_ok]
      refine ⟨rfl, ?_⟩
      unfold W
      simp only [hp]
      rfl
  obtain ⟨_, _, e, rfl, rfl⟩ := q.ex
  exact e
/-- the dict tells which source's old value a place holds -/
def HI (kvs : List (List Key × D)) (f : So → So) : Prop := ∀ x : So, x.isP = true → (getK kvs x.key).getD (W x) = W (f x)
theorem HI.zero : HI [] id := fun x _ => rfl
theorem getK_put {κ : Type} [DecidableEq κ] (kvs : List (κ × D)) (k k' : κ) (d : D) : getK (putKD kvs k d) k' = if k' = k then some d else getK kvs k' := by
  unfold putKD
  by_cases h : (kvs.any fun kv => decide (kv.1 = k)) = true
  · rw [if_pos h]
    induction kvs with
    | nil => simp at h
    | cons p kvs ih =>
      unfold getK at ih ⊢
      rw [List.map_cons, List.find?_cons, List.find?_cons]
      by_cases e : p.1 = k
      · simp only [if_pos e]
        by_cases e2 : k' = k
        · subst e2
          simp [e]
        · have : ¬ p.1 = k' := fun z => e2 (z.symm.trans e)
          simp only [decide_eq_false this, if_neg e2]
          clear ih h
          induction kvs with
          | nil => rfl
          | cons q kvs ih =>
            rw [List.map_cons, List.find?_cons, List.find?_cons]
            by_cases e3 : q.1 = k
            · have : ¬ q.1 = k' := fun z => e2 (z.symm.trans e3)
              simp only [if_pos e3, decide_eq_false this]
              exact ih
            · simp only [if_neg e3]
              by_cases e4 : q.1 = k'
              · simp [e4]
              · simp only [decide_eq_false e4]
                exact ih
      · simp only [if_neg e]
        have h' : (kvs.any fun kv => decide (kv.1 = k)) = true := by simpa [e] using h
        by_cases e2 : p.1 = k'
        · have : ¬ k' = k := fun z => e (e2.trans z)
          simp [e2, this]
        · simp only [decide_eq_false e2]
          exact ih h'
  · rw [if_neg h]
    unfold getK
    rw [List.find?_append]
    have hn : kvs.find? (fun kv => decide (kv.1 = k)) = none := by
      rw [List.find?_eq_none]
      intro x hx e
      exact h (List.any_eq_true.mpr ⟨x, hx, e⟩)
    by_cases e : k' = k
    · subst e
      rw [hn]
      simp
    · rw [if_neg e]
      have : ¬ k = k' := fun z => e z.symm
      simp [this]
theorem HI.put {kvs : List (List Key × D)} {f : So → So} {p : So} {s : So} (h : HI kvs f) (hp : p.isP = true) : HI (putKD kvs p.key (W (f s))) (fun x => if x = p then f s else f x) := fun x hx => by
  rw [getK_put]
  by_cases e : x = p
  · subst e
    simp
  · have : ¬ x.key = p.key := fun z => e (So.key_inj z)
    rw [if_neg this]
    simp only [if_neg e]
    exact h x hx
theorem putKD_len {κ : Type} [DecidableEq κ] (kvs : List (κ × D)) (k : κ) (d : D) : (putKD kvs k d).length ≤ kvs.length + 1 := by
  unfold putKD
  split <;> simp
/-- how often -/
theorem count_so {S : Sto} {r : Nat} {l : List So} {p : So} (h : S[r]? = some (.lst (l.map So.D))) : bmD .count (.ref r) [p.D] S = .ok (.int (l.count p : Nat)) S := by
  simp only [bmD, h]
  rw [p.toPy S 38, mapM_of (fun c => So.toPy c S 37) l]
  simp only
  congr 3
  rw [List.countP_map, List.count_eq_countP]
  refine List.countP_congr fun x _ => ?_
  simp [So.eqv]
end My

namespace My
open PySem L2 Mi Rg
/-- the dict of where a place's value comes from; the one of what was seen -/
def onT (mv : List (So × So)) : List (List Key × D) := mv.map fun x => (x.1.key, x.2.D)
def seT (l : List So) : List (List Key × D) := l.map fun x => (x.key, .bl true)
theorem put_new {kvs : List (List Key × D)} {k : List Key} {d : D} (h : k ∉ kvs.map (·.1)) : putKD kvs k d = kvs ++ [(k, d)] := by
  unfold putKD
  rw [if_neg]
  intro z
  obtain ⟨x, h1, h2⟩ := List.any_eq_true.mp z
  exact h (List.mem_map.mpr ⟨x, h1, of_decide_eq_true h2⟩)
theorem merge_nd : ∀ {more acc : List (List Key × D)}, ((acc ++ more).map (·.1)).Nodup → mergeTD acc more = acc ++ more
  | [], acc, _ => by simp [mergeTD]
  | x :: more, acc, h => by
    have h1 : x.1 ∉ acc.map (·.1) := by
      rw [List.map_append, List.map_cons, List.nodup_append] at h
      intro z
      exact h.2.2 _ z _ (List.mem_cons_self ..) rfl
    show mergeTD (putKD acc x.1 x.2) more = _
    rw [put_new h1, merge_nd (by simpa using h)]
    simp
theorem keys_nd {l : List So} (h : l.Nodup) : (l.map So.key).Nodup := by
  rw [List.Nodup, List.pairwise_map]
  exact h.imp fun {a b} n e => n (So.key_inj e)
theorem onT_keys (mv : List (So × So)) : (onT mv).map (·.1) = (mv.map (·.1)).map So.key := by unfold onT; rw [List.map_map, List.map_map]; rfl
theorem onT_any (mv : List (So × So)) (a : So) : ((onT mv).any fun kv => decide (kv.1 = a.key)) = decide (a ∈ mv.map (·.1)) := by
  rw [Bool.eq_iff_iff, List.any_eq_true, decide_eq_true_eq]
  constructor
  · rintro ⟨x, h1, h2⟩
    obtain ⟨y, h3, rfl⟩ := List.mem_map.mp h1
    rw [decide_eq_true_eq] at h2
    rw [← So.key_inj h2]
    exact List.mem_map.mpr ⟨y, h3, rfl⟩
  · intro h
    obtain ⟨y, h3, rfl⟩ := List.mem_map.mp h
    exact ⟨_, List.mem_map.mpr ⟨y, h3, rfl⟩, by simp⟩
theorem seT_any (l : List So) (a : So) : ((seT l).any fun kv => decide (kv.1 = a.key)) = decide (a ∈ l) := by
  rw [Bool.eq_iff_iff, List.any_eq_true, decide_eq_true_eq]
  constructor
  · rintro ⟨x, h1, h2⟩
    obtain ⟨y, h3, rfl⟩ := List.mem_map.mp h1
    rw [decide_eq_true_eq] at h2
    rw [← So.key_inj h2]
    exact h3
  · intro h
    exact ⟨_, List.mem_map.mpr ⟨a, h, rfl⟩, by simp⟩
theorem onT_get (a : So) : ∀ mv : List (So × So), getK (onT mv) a.key = (nx mv a).map So.D
  | [] => rfl
  | x :: mv => by
    have ih := onT_get a mv
    unfold getK nx onT at ih ⊢
    rw [List.map_cons, List.find?_cons, List.find?_cons]
    by_cases e : x.1 = a
    · simp [e]
    · have : ¬ x.1.key = a.key := fun z => e (So.key_inj z)
      have h0 : @decide (x.1 = a) (Classical.propDecidable _) = false := @decide_eq_false _ (Classical.propDecidable _) e
      simp only [decide_eq_false this, h0]
      exact ih
theorem seT_put {l : List So} {a : So} (h : a ∉ l) : putKD (seT l) a.key (.bl true) = seT (l ++ [a]) := by
  rw [put_new, seT, seT, List.map_append]
  · rfl
  · intro z
    obtain ⟨x, h1, h2⟩ := List.mem_map.mp z
    obtain ⟨y, h3, rfl⟩ := List.mem_map.mp h1
    exact h (So.key_inj h2 ▸ h3)
theorem pairs_T {mv : List (So × So)} (h : ∀ x ∈ mv, x.1.isP = true) : pairsT (mv.map prD) = some (onT mv) := by
  unfold pairsT
  induction mv with
  | nil => rfl
  | cons x mv ih =>
    rw [List.map_cons, List.mapM_cons, ih fun y hy => h y (List.mem_cons_of_mem _ hy)]
    have : pairT (prD x) = some (x.1.key, x.2.D) := by
      show (x.1.D.keyT.map fun q => (q, x.2.D)) = _
      rw [So.keyT (h x (List.mem_cons_self ..))]
      rfl
    rw [this]
    rfl
theorem Way.first {l : List (So × So)} {seen line : List So} {start here : So} (w : Way l seen line start here) (h : line ≠ []) : start ∈ line := by
  cases line with
  | nil => exact absurd rfl h
  | cons a line =>
    have := w.path 0 a rfl
    cases this
    exact List.mem_cons_self ..
section
variable {Y : Fs} {mv : List (So × So)} {on sn ln : Nat} {pr : D} {cnt : Nat} {seen : List So} {start : So}
/-- one ring, or what leads to one -/
theorem line_ok {S S0 : Sto} {a2 a3 : Option D} (hk0 : Kp S0 S) (hr1 : S0.length ≤ sn) (hr2 : S0.length ≤ ln) (hn : (mv.map (·.1)).Nodup) (hP : ∀ x ∈ mv, x.1.isP = true) (hl : mv.length ≤ 8) (hs : seen.Nodup) (hd : ∀ q ∈ seen, q ∈ mv.map (·.1)) (ho : S[on]? = some (.dT (onT mv))) (hse : S[sn]? = some (.dT (seT seen))) (hli : S[ln]? = some (.lst [])) (hne1 : on ≠ sn) (hne2 : on ≠ ln) (hne3 : sn ≠ ln) {k : Kt}
    (hk : ∀ S' line here, S'[on]? = some (.dT (onT mv)) → S'[sn]? = some (.dT (seT (seen ++ line))) → S'[ln]? = some (.lst (line.map So.D)) → Way mv seen line start here → (here ∉ mv.map (·.1) ∨ here ∈ seen ∨ here ∈ line) → Kp S0 S' → k.nx [some pr, some (.ref on), a2, a3, some (.ref sn), some (.int cnt), some start.D, some (.ref ln), some here.D] S') :
    (whlN (fun e s => evT Y (.and_ (.cons (.cmp .In (.var 8) (.var 1)) (.cons (.cmp .NotIn (.var 8) (.var 4)) .nil))) e s) (fun e s => execs Y f7_5 e s) (lim + 2) [some pr, some (.ref on), a2, a3, some (.ref sn), some (.int cnt), some start.D, some (.ref ln), some start.D] S).F k := by
  refine whlN_inv (fun i e S' => ∃ line here, e = [some pr, some (.ref on), a2, a3, some (.ref sn), some (.int cnt), some start.D, some (.ref ln), some here.D] ∧ S'[on]? = some (.dT (onT mv)) ∧ S'[sn]? = some (.dT (seT (seen ++ line))) ∧ S'[ln]? = some (.lst (line.map So.D)) ∧ Way mv seen line start here ∧ i + line.length = mv.length ∧ Kp S0 S') ?_ (lim + 2) mv.length _ _ ⟨[], start, rfl, ho, by simpa using hse, hli, .zero, by simp, hk0⟩ (by simp only [lim]; omega)
  rintro i e S1 ⟨line, here, rfl, ho1, hs1, hl1, w, hi, kk⟩
  have c1 : ev Y (.cmp .In (.var 8) (.var 1)) [some pr, some (.ref on), a2, a3, some (.ref sn), some (.int cnt), some start.D, some (.ref ln), some here.D] S1 = .ok (.bl (decide (here ∈ mv.map (·.1)))) S1 := by
    rw [ev_cmp, ev_var (d := here.D) rfl, bind_ok, ev_var (d := .ref on) rfl, bind_ok]
    show obl (inD S1 here.D (.ref on)) S1 = _
    unfold inD
    simp only [ho1, So.keyTB, onT_any, obl_some]
  have c2 : ev Y (.cmp .NotIn (.var 8) (.var 4)) [some pr, some (.ref on), a2, a3, some (.ref sn), some (.int cnt), some start.D, some (.ref ln), some here.D] S1 = .ok (.bl (!decide (here ∈ seen ++ line))) S1 := by
    rw [ev_cmp, ev_var (d := here.D) rfl, bind_ok, ev_var (d := .ref sn) rfl, bind_ok]
    show obl ((inD S1 here.D (.ref sn)).map (!·)) S1 = _
    unfold inD
    simp only [hs1, So.keyTB, seT_any, Option.map_some, obl_some]
  rw [evT_eq, ev_and, evAnd_cons, c1, bind_ok]
  simp only [truthD_bl]
  by_cases h1 : here ∈ mv.map (·.1)
  · rw [decide_eq_true h1]
    simp only
    rw [evAnd_one, c2, bind_ok]
    simp only [truthD_bl, Ok_ok]
    by_cases h2 : here ∈ seen ++ line
    · rw [decide_eq_true h2]
      simp only [Bool.not_true]
      exact hk S1 line here ho1 hs1 hl1 w (.inr (List.mem_append.mp h2)) kk
    · rw [decide_eq_false h2]
      simp only [Bool.not_false]
      have h3 : here ∉ seen := fun z => h2 (List.mem_append_left _ z)
      have h4 : here ∉ line := fun z => h2 (List.mem_append_right _ z)
      obtain ⟨x0, hx0, hx1⟩ := List.mem_map.mp h1
      have hp : here.isP = true := by rw [← hx1]; exact hP x0 hx0
      have hlt : (seen ++ line).length < mv.length := by
        have hnd : (seen ++ line ++ [here]).Nodup := by
          rw [List.nodup_append]
          refine ⟨?_, by simp, fun x hx y hy => by rw [List.mem_singleton.mp hy]; exact fun z => h2 (z ▸ hx)⟩
          rw [List.nodup_append]
          exact ⟨hs, w.nd, fun x hx y hy z => w.apart y hy (z ▸ hx)⟩
        have hsub : ∀ x ∈ seen ++ line ++ [here], x ∈ mv.map (·.1) := by
          intro x hx
          rcases List.mem_append.mp hx with hx | hx
          · rcases List.mem_append.mp hx with hx | hx
            · exact hd x hx
            · exact w.dom x hx
          · rw [List.mem_singleton.mp hx]; exact h1
        have := len_of_sub hnd hsub
        simp at this ⊢
        omega
      refine w_setIx rfl ?_
      rw [ev_con, Ok_ok, ev_var (d := .ref sn) rfl, Ok_ok, ev_var (d := here.D) rfl, Ok_ok]
      have es : setD (.ref sn) here.D (.bl true) S1 = some (S1.set sn (.dT (seT (seen ++ line ++ [here])))) := by
        simp only [setD, hs1, So.keyT hp]
        rw [if_pos (by simp only [seT, List.length_map, lim]; omega), seT_put h2]
      rw [es]
      have ho2 : (S1.set sn (.dT (seT (seen ++ line ++ [here]))))[on]? = some (.dT (onT mv)) := by rw [List.getElem?_set_ne (Ne.symm hne1)]; exact ho1
      have hs2 : (S1.set sn (.dT (seT (seen ++ line ++ [here]))))[sn]? = some (.dT (seT (seen ++ line ++ [here]))) := List.getElem?_set_self (List.getElem?_eq_some_iff.mp hs1).1
      have hl2 : (S1.set sn (.dT (seT (seen ++ line ++ [here]))))[ln]? = some (.lst (line.map So.D)) := by rw [List.getElem?_set_ne hne3]; exact hl1
      have kk2 : Kp S0 (S1.set sn (.dT (seT (seen ++ line ++ [here])))) := kk.set hr1
      generalize S1.set sn (.dT (seT (seen ++ line ++ [here]))) = S2 at ho2 hs2 hl2 kk2
      simp only
      show (execs Y f7_4 [some pr, some (.ref on), a2, a3, some (.ref sn), some (.int cnt), some start.D, some (.ref ln), some here.D] S2).F _
      refine w_ex rfl ?_
      have ll : line.length < 1000 := by omega
      have ea : ev Y (.bm .append (.var 7) (.cons (.var 8) .nil)) [some pr, some (.ref on), a2, a3, some (.ref sn), some (.int cnt), some start.D, some (.ref ln), some here.D] S2 = .ok .non (S2.set ln (.lst ((line ++ [here]).map So.D))) := by
        have hkk : bmK .append (.ref ln) S2 = true := by simp [hl2]
        rw [ev_bm, ev_var (d := .ref ln) rfl, bind_ok, if_pos hkk, evs_cons, ev_var (d := here.D) rfl, bind_ok, evs_nil, bind_ok, bind_ok, bm_append, hl2]
        simp only
        rw [if_pos (by simp [lim]; omega), List.map_append]
        rfl
      rw [ea, Ok_ok]
      have ho3 : (S2.set ln (.lst ((line ++ [here]).map So.D)))[on]? = some (.dT (onT mv)) := by rw [List.getElem?_set_ne (Ne.symm hne2)]; exact ho2
      have hs3 : (S2.set ln (.lst ((line ++ [here]).map So.D)))[sn]? = some (.dT (seT (seen ++ line ++ [here]))) := by rw [List.getElem?_set_ne (Ne.symm hne3)]; exact hs2
      have hl3 : (S2.set ln (.lst ((line ++ [here]).map So.D)))[ln]? = some (.lst ((line ++ [here]).map So.D)) := List.getElem?_set_self (List.getElem?_eq_some_iff.mp hl2).1
      have kk3 : Kp S0 (S2.set ln (.lst ((line ++ [here]).map So.D))) := kk2.set hr2
      generalize S2.set ln (MO.lst ((line ++ [here]).map So.D)) = S3 at ho3 hs3 hl3 kk3
      show (execs Y f7_3 [some pr, some (.ref on), a2, a3, some (.ref sn), some (.int cnt), some start.D, some (.ref ln), some here.D] S3).F _
      refine w_set rfl ?_
      obtain ⟨y, hy⟩ := nx_some h1
      rw [ev_idx, ev_var (d := .ref on) rfl, bind_ok, ev_var (d := here.D) rfl, bind_ok]
      have ei : idxD (.ref on) here.D S3 = .ok y.D S3 := by
        unfold idxD
        simp only [ho3, So.keyTB, onT_get, hy, Option.map_some, oD_some_]
      rw [ei, Ok_ok]
      refine w_nil ⟨i - 1, ?_, line ++ [here], y, rfl, ho3, by rw [← List.append_assoc]; exact hs3, hl3, w.step h1 h3 h4 hy, ?_, kk3⟩
      · simp at hlt; omega
      · simp at hlt ⊢; omega
  · rw [decide_eq_false h1]
    simp only [bind_ok, truthD_bl, Ok_ok]
    exact hk S1 line here ho1 hs1 hl1 w (.inl h1) kk
/-- how many rings -/
theorem rings_ok (n : Nat) {pairs : List (So × So)} {q : Nat} {S : Sto} (hg : Good pairs) (hq : S[q]? = some (.lst (pairs.map prD))) : (fnN G (n + 1) 7 [.ref q] S).Ok fun v S' => v = .int (R (rank (pairs.filter fun x => decide (x.1 ≠ x.2))) (pairs.filter fun x => decide (x.1 ≠ x.2)) : Nat) ∧ Kp S S' := by
  have hnm : ((pairs.filter fun x => decide (x.1 ≠ x.2)).map (·.1)).Nodup := hg.1.sublist ((List.filter_sublist).map _)
  have hlm : (pairs.filter fun x => decide (x.1 ≠ x.2)).length ≤ 8 := Nat.le_trans (List.length_filter_le _ _) hg.2.2
  have hpm : ∀ x ∈ (pairs.filter fun x => decide (x.1 ≠ x.2)), x.1.isP = true := fun x hx => allP_P _ (hg.2.1 x (List.mem_filter.mp hx).1)
  generalize hF : fnN G (n + 1) = F
  refine run_okF hF f7 rfl rfl fun Y hf hgv => ?_
  simp only [f7]
  refine w_set rfl ?_
  show (ev Y _ [some (.ref q), none, none, none, none, none, none, none, none] S).Ok _
  have e1 := comp_of (Y := Y) (env := [some (.ref q), none, none, none, none, none, none, none, none]) (S := S) (own := [("_law_place", 2), ("_law_source", 3)]) (tg := .tup [2, 3]) (it := .val (.var 0)) (ifs := .cons (.cmp .NotEq (.var 2) (.var 3)) .nil) (elt := .tup (.cons (.var 2) (.cons (.var 3) .nil))) (l := pairs) (f := prD) (en := fun x => [some (.ref q), none, some x.1.D, some x.2.D, none, none, none, none, none]) (P := fun x => decide (x.1 ≠ x.2)) (g := prD) (by have := hg.2.2; simp [lim]; omega) (seq_I rfl hq) hq (fun x _ => rfl) (fun x _ => by
    rw [evIfs_cons, ev_cmp, ev_var (d := x.1.D) rfl, bind_ok, ev_var (d := x.2.D) rfl, bind_ok, cmpD_ne, eq_so]
    simp only [Option.map_some, obl_some, bind_ok, truthD_bl]
    congr 1
    simp) (fun x _ _ => by
    rw [ev_tup, evs_cons, ev_var (d := x.1.D) rfl, bind_ok, evs_cons, ev_var (d := x.2.D) rfl, bind_ok, evs_nil, bind_ok, bind_ok, bind_ok, if_pos (by simp [lim])]
    rfl)
  generalize hmv : (pairs.filter fun x => decide (x.1 ≠ x.2)) = mv at hnm hlm hpm e1
  have e2 : biD .dictT [.ref S.length] (S ++ [MO.lst (mv.map prD)]) = .ok (.ref (S ++ [MO.lst (mv.map prD)]).length) (S ++ [MO.lst (mv.map prD)] ++ [.dT (onT mv)]) := by
    have : seqAt (S ++ [MO.lst (mv.map prD)]) (.ref S.length) = some (mv.map prD) := by simp [seqAt, lstAt]
    simp only [biD, this, Option.bind_some, pairs_T hpm, new_eq]
    rw [merge_nd (by simpa [onT_keys] using keys_nd hnm)]
    rfl
  rw [ev_bi, evs_cons, e1, bind_ok, evs_nil, bind_ok, bind_ok, e2, Ok_ok]
  have o1 : (S ++ [MO.lst (mv.map prD)] ++ [.dT (onT mv)])[(S ++ [MO.lst (mv.map prD)]).length]? = some (.dT (onT mv)) := by simp
  have k1 : Kp S (S ++ [MO.lst (mv.map prD)] ++ [.dT (onT mv)]) := .ext ((Ext_app _ _).trans (Ext_app _ _))
  have hge : S.length ≤ (S ++ [MO.lst (mv.map prD)]).length := by simp
  show (execs Y f7_11 [some (.ref q), some (.ref (S ++ [MO.lst (mv.map prD)]).length), none, none, none, none, none, none, none] (S ++ [MO.lst (mv.map prD)] ++ [.dT (onT mv)])).F _
  generalize S ++ [MO.lst (mv.map prD)] ++ [MO.dT (onT mv)] = S1 at o1 k1
  generalize (S ++ [MO.lst (mv.map prD)]).length = on at o1 hge
  refine w_set rfl ?_
  rw [ev_dnew, new_eq, Ok_ok]
  have o2 : (S1 ++ [MO.dT []])[on]? = some (.dT (onT mv)) := (Ext_app _ _).at o1
  have s2 : (S1 ++ [MO.dT []])[S1.length]? = some (.dT (seT [])) := by simp [seT]
  have k2 : Kp S (S1 ++ [MO.dT []]) := k1.trans (.ext (Ext_app _ _))
  have hlt1 : on < S1.length := (List.getElem?_eq_some_iff.mp o1).1
  show (execs Y f7_10 [some (.ref q), some (.ref on), none, none, some (.ref S1.length), none, none, none, none] (S1 ++ [MO.dT []])).F _
  generalize S1 ++ [MO.dT []] = S2 at o2 s2 k2
  generalize S1.length = sn at s2 hlt1
  refine w_set rfl ?_
  rw [ev_con, Ok_ok]
  show (execs Y f7_9 [some (.ref q), some (.ref on), none, none, some (.ref sn), some (.int 0), none, none, none] S2).F _
  refine w_for rfl ?_
  have eI : evI Y (.val (.var 1)) [some (.ref q), some (.ref on), none, none, some (.ref sn), some (.int 0), none, none, none] S2 = .ok (.keys on mv.length) S2 := by
    rw [evI_val, ev_var (d := .ref on) rfl, bind_ok]
    have h1 : seqAt S2 (.ref on) = none := by simp [seqAt, lstAt, o2]
    simp only [h1, dtLen, o2, onT, List.length_map]
  rw [eI, Ok_ok]
  refine forN_inv (fun i e S' => ∃ seen cnt a6 a7 a8, e = [some (.ref q), some (.ref on), none, none, some (.ref sn), some (.int ((cnt : Nat) : Int)), a6, a7, a8] ∧ S'[on]? = some (.dT (onT mv)) ∧ S'[sn]? = some (.dT (seT seen)) ∧ Seen (rank mv) mv seen cnt ∧ seen.Nodup ∧ (∀ p ∈ (mv.take i).map (·.1), p ∈ seen) ∧ Kp S S') mv.length (fun i => ((mv.map fun x => x.1.D)[i]?).getD .non) ?_ ?_ ?_ ?_ (lim + 2) 0 _ S2 ⟨[], 0, none, none, none, rfl, o2, s2, .start, List.nodup_nil, (fun p hp => by simp at hp), k2⟩ (Nat.zero_le _) (by simp only [lim]; omega)
  · rintro i e S3 ⟨seen, cnt, a6, a7, a8, rfl, o3, _⟩ hi
    have hd : D.tup (mv[i].1.key.map keyD) = mv[i].1.D := So.keyD (hpm _ (List.getElem_mem hi))
    simp only [itNext, o3]
    rw [if_pos (by simp [onT])]
    simp [onT, hi, hd]
  · rintro e S3 ⟨seen, cnt, a6, a7, a8, rfl, o3, _⟩
    simp only [itNext, o3]
    rw [if_pos (by simp [onT])]
    simp [onT]
  · rintro i e S3 ⟨seen, cnt, a6, a7, a8, rfl, o3, s3, hsn, hnd, hin, k3⟩ hi
    have hst : ((mv.map fun x => x.1.D)[i]?).getD .non = mv[i].1.D := by simp [hi]
    rw [hst]
    have hmem : mv[i].1 ∈ mv.map (·.1) := List.mem_map.mpr ⟨_, List.getElem_mem hi, rfl⟩
    have htk : mv.take (i + 1) = mv.take i ++ [mv[i]] := List.take_succ_eq_append_getElem hi
    generalize hsta : mv[i].1 = start at hmem
    refine ⟨_, rfl, ?_⟩
    show (execs Y f7_8 [some (.ref q), some (.ref on), none, none, some (.ref sn), some (.int cnt), some start.D, a7, a8] S3).F _
    refine w_set rfl ?_
    rw [ev_lst, evs_nil, bind_ok, if_pos (by simp [lim]), new_eq, Ok_ok]
    have o4 : (S3 ++ [MO.lst []])[on]? = some (.dT (onT mv)) := (Ext_app _ _).at o3
    have s4 : (S3 ++ [MO.lst []])[sn]? = some (.dT (seT seen)) := (Ext_app _ _).at s3
    have l4 : (S3 ++ [MO.lst []])[S3.length]? = some (.lst []) := by simp
    have k4 : Kp S (S3 ++ [MO.lst []]) := k3.trans (.ext (Ext_app _ _))
    have hlt3 : sn < S3.length := (List.getElem?_eq_some_iff.mp s3).1
    show (execs Y f7_7 [some (.ref q), some (.ref on), none, none, some (.ref sn), some (.int cnt), some start.D, some (.ref S3.length), a8] (S3 ++ [MO.lst []])).F _
    generalize S3 ++ [MO.lst []] = S4 at o4 s4 l4 k4
    generalize S3.length = ln at l4 hlt3
    refine w_set rfl ?_
    rw [ev_var (d := start.D) rfl, Ok_ok]
    show (execs Y f7_6 [some (.ref q), some (.ref on), none, none, some (.ref sn), some (.int cnt), some start.D, some (.ref ln), some start.D] S4).F _
    refine w_whl rfl ?_
    refine line_ok (start := start) (seen := seen) (k := _) k4 (by omega) (by omega) hnm hpm hlm hnd hsn.dom o4 s4 l4 (by omega) (by omega) (by omega) fun S5 line here o5 s5 l5 w hx k5 => ?_
    have hend := walk_end (ρ := rank mv) hnm (fun p hp q hq e => rank_inj hp e) hsn w hx
    have hnd5 : (seen ++ line).Nodup := by
      rw [List.nodup_append]
      exact ⟨hnd, w.nd, fun x hx y hy z => w.apart y hy (z ▸ hx)⟩
    have hst5 : start ∈ seen ++ line := by
      by_cases hl : line = []
      · subst hl
        have h0 : here = start := by
          have := w.here
          cases this
          rfl
        rw [h0] at hx
        rcases hx with h | h | h
        · exact absurd hmem h
        · simpa using h
        · cases h
      · exact List.mem_append_right _ (Way.first w hl)
    have hin5 : ∀ p ∈ (mv.take (i + 1)).map (·.1), p ∈ seen ++ line := by
      intro p hp
      rw [htk, List.map_append, List.mem_append] at hp
      rcases hp with hp | hp
      · exact List.mem_append_left _ (hin p hp)
      · simp only [List.map_cons, List.map_nil, List.mem_singleton] at hp
        rw [hp, hsta]
        exact hst5
    show (execs Y f7_2 [some (.ref q), some (.ref on), none, none, some (.ref sn), some (.int cnt), some start.D, some (.ref ln), some here.D] S5).F _
    refine w_if rfl ?_
    rw [ev_cmp, ev_var (d := here.D) rfl, bind_ok, ev_var (d := .ref ln) rfl, bind_ok, cmpD_in, inD_ref, l5]
    simp only [in_so, obl_some, Ok_ok, truthD_bl]
    by_cases hh : here ∈ line
    · rw [decide_eq_true hh]
      rw [if_pos hh] at hend
      simp only
      refine w_set rfl ?_
      rw [ev_bin, ev_var (d := .int cnt) rfl, bind_ok, ev_con, bind_ok, binD_addI, Ok_ok]
      exact w_nil (w_nil ⟨_, _, _, _, _, rfl, o5, s5, hend, hnd5, hin5, k5⟩)
    · rw [decide_eq_false hh]
      rw [if_neg hh] at hend
      exact w_nil (w_nil ⟨_, _, _, _, _, rfl, o5, s5, hend, hnd5, hin5, k5⟩)
  · rintro e S3 ⟨seen, cnt, a6, a7, a8, rfl, o3, s3, hsn, hnd, hin, k3⟩
    rw [List.take_length] at hin
    refine w_ret rfl ?_
    rw [ev_var (d := .int cnt) rfl, Ok_ok, hsn.all hin]
    subst hmv
    exact ⟨rfl, k3⟩
end
end My

namespace My
open PySem L2 Mi Rg
theorem eq_ss' {S : Sto} {a b : String} : eqD S (.str a) (.str b) = some (decide (a = b)) := eq_ss
/-- what is written, row by row -/
structure Wd (hd wr : Nat) (f : So → So) (ps : List So) (S : Sto) : Prop where
  held : ∃ kvs, S[hd]? = some (.dT kvs) ∧ HI kvs f ∧ kvs.length ≤ ps.length
  wr : S[wr]? = some (.lst (ps.map So.D))
theorem Wd.kp {hd wr : Nat} {f : So → So} {ps : List So} {S S' : Sto} (w : Wd hd wr f ps S) (h : Kp S S') : Wd hd wr f ps S' := by
  obtain ⟨⟨kvs, h1, h2, h3⟩, h4⟩ := w
  exact ⟨⟨kvs, h _ _ h1, h2, h3⟩, h _ _ h4⟩
section
variable {Y : Fs} {pairs rows : List (So × So)} {sp : So} {q h rr hd wr : Nat} {n : Nat}
/-- one row -/
theorem row_ok {S S0 : Sto} {f : So → So} {ps : List So} {x : So × So} {b7 b8 b9 b10 b11 : Option D} (hf : Y.f = fnN G (n + 1)) (hx : x.1.isP = true) (hs : x.2.isP = false → f x.2 = x.2) (hl : ps.length ≤ 16) (w : Wd hd wr f ps S) (hne : hd ≠ wr) (hk0 : Kp S0 S) (h1 : S0.length ≤ hd) (h2 : S0.length ≤ wr) {k : Kt}
    (hk : ∀ S', Wd hd wr (fun y => if y = x.1 then f x.2 else f y) (ps ++ [x.1]) S' → Kp S0 S' → k.nx [some (.ref q), some sp.D, some (.ref h), some (.ref rr), some (.ref hd), some (.ref wr), some (roD x), b7, b8, b9, b10, b11] S') :
    (execs Y f8_13 [some (.ref q), some sp.D, some (.ref h), some (.ref rr), some (.ref hd), some (.ref wr), some (roD x), b7, b8, b9, b10, b11] S).F k := by
  obtain ⟨⟨kvs, w1, w2, w3⟩, w4⟩ := w
  refine w_if rfl ?_
  have c1 : ev Y (.not_ (.isi (.var 6) true [.b .tuple])) [some (.ref q), some sp.D, some (.ref h), some (.ref rr), some (.ref hd), some (.ref wr), some (roD x), b7, b8, b9, b10, b11] S = .ok (.bl false) S := by
    rw [ev_not, ev_isi, ev_var (d := roD x) rfl, bind_ok]
    rfl
  have c2 : ev Y (.cmp .NotEq (.bi .len (.cons (.var 6) .nil)) (.con (.int (3)))) [some (.ref q), some sp.D, some (.ref h), some (.ref rr), some (.ref hd), some (.ref wr), some (roD x), b7, b8, b9, b10, b11] S = .ok (.bl false) S := by
    rw [ev_cmp, ev_bi, evs_cons, ev_var (d := roD x) rfl, bind_ok, evs_nil, bind_ok, bind_ok, bi_len (n := 3) rfl, bind_ok, ev_con, bind_ok, cmpD_ne, eq_ii]
    rfl
  have c3 : ev Y (.cmp .NotEq (.idx (.var 6) (.con (.int (0)))) (.con (.str "move"))) [some (.ref q), some sp.D, some (.ref h), some (.ref rr), some (.ref hd), some (.ref wr), some (roD x), b7, b8, b9, b10, b11] S = .ok (.bl false) S := by
    rw [ev_cmp, ev_idx, ev_var (d := roD x) rfl, bind_ok, ev_con, bind_ok, roD, idxD_tup, at_0, oD_some_, bind_ok, ev_con, bind_ok, cmpD_ne, eq_ss]
    rfl
  rw [ev_or, evOr_cons, c1, bind_ok]
  simp only [truthD_bl]
  rw [evOr_cons, c2, bind_ok]
  simp only [truthD_bl]
  rw [evOr_one, c3, Ok_ok, truthD_bl]
  simp only
  refine w_nil (w_setIx rfl ?_)
  have ea := at_ok (n := n) (S := S) w1 x.2
  have hv : (if x.2.isP = true then (getK kvs x.2.key).getD (W x.2) else W x.2) = W (f x.2) := by
    by_cases e : x.2.isP = true
    · rw [if_pos e]
      exact w2 _ e
    · rw [if_neg e, hs (by simpa using e)]
  rw [hv] at ea
  have e2 : ev Y (.call 6 (.cons (.var 4) (.cons (.idx (.var 6) (.con (.int (2)))) .nil))) [some (.ref q), some sp.D, some (.ref h), some (.ref rr), some (.ref hd), some (.ref wr), some (roD x), b7, b8, b9, b10, b11] S = .ok (W (f x.2)) S := by
    rw [ev_call, evs_cons, ev_var (d := .ref hd) rfl, bind_ok, evs_cons, ev_idx, ev_var (d := roD x) rfl, bind_ok, ev_con, bind_ok, roD, idxD_tup, at_2, oD_some_, bind_ok, evs_nil, bind_ok, bind_ok, bind_ok, hf]
    exact ea
  have e3 : ∀ S', ev Y (.idx (.var 6) (.con (.int (1)))) [some (.ref q), some sp.D, some (.ref h), some (.ref rr), some (.ref hd), some (.ref wr), some (roD x), b7, b8, b9, b10, b11] S' = .ok x.1.D S' := fun S' => by
    rw [ev_idx, ev_var (d := roD x) rfl, bind_ok, ev_con, bind_ok, roD, idxD_tup, at_1, oD_some_]
  rw [e2, Ok_ok, ev_var (d := .ref hd) rfl, Ok_ok, e3, Ok_ok]
  have es : setD (.ref hd) x.1.D (W (f x.2)) S = some (S.set hd (.dT (putKD kvs x.1.key (W (f x.2))))) := by
    simp only [setD, w1, So.keyT hx]
    rw [if_pos (by simp only [lim]; omega)]
  rw [es]
  simp only
  have g1 : (S.set hd (.dT (putKD kvs x.1.key (W (f x.2)))))[hd]? = some (.dT (putKD kvs x.1.key (W (f x.2)))) := List.getElem?_set_self (List.getElem?_eq_some_iff.mp w1).1
  have g2 : (S.set hd (.dT (putKD kvs x.1.key (W (f x.2)))))[wr]? = some (.lst (ps.map So.D)) := by rw [List.getElem?_set_ne hne]; exact w4
  have k1 : Kp S0 (S.set hd (.dT (putKD kvs x.1.key (W (f x.2))))) := hk0.set h1
  generalize S.set hd (MO.dT (putKD kvs x.1.key (W (f x.2)))) = S1 at g1 g2 k1
  show (execs Y f8_10 [some (.ref q), some sp.D, some (.ref h), some (.ref rr), some (.ref hd), some (.ref wr), some (roD x), b7, b8, b9, b10, b11] S1).F _
  refine w_ex rfl ?_
  have ep : ev Y (.bm .append (.var 5) (.cons (.idx (.var 6) (.con (.int (1)))) .nil)) [some (.ref q), some sp.D, some (.ref h), some (.ref rr), some (.ref hd), some (.ref wr), some (roD x), b7, b8, b9, b10, b11] S1 = .ok .non (S1.set wr (.lst ((ps ++ [x.1]).map So.D))) := by
    have hkk : bmK .append (.ref wr) S1 = true := by simp [g2]
    rw [ev_bm, ev_var (d := .ref wr) rfl, bind_ok, if_pos hkk, evs_cons, e3, bind_ok, evs_nil, bind_ok, bind_ok, bm_append, g2]
    simp only
    rw [if_pos (by simp [lim]; omega), List.map_append]
    rfl
  rw [ep, Ok_ok]
  refine w_nil (hk _ ⟨⟨putKD kvs x.1.key (W (f x.2)), ?_, w2.put hx, ?_⟩, ?_⟩ (k1.set h2))
  · rw [List.getElem?_set_ne (Ne.symm hne)]; exact g1
  · have := putKD_len kvs x.1.key (W (f x.2))
    rw [List.length_append, List.length_singleton]
    omega
  · exact List.getElem?_set_self (List.getElem?_eq_some_iff.mp g2).1
/-- all rows -/
theorem rows_loop {S S0 : Sto} {b6 b7 b8 b9 b10 b11 : Option D} (hf : Y.f = fnN G (n + 1)) (hP : ∀ r ∈ rows, r.1.isP = true) (hl : rows.length ≤ 16) (hr : S[rr]? = some (.lst (rows.map roD))) (hr0 : rr < S0.length) (w : Wd hd wr id [] S) (hne : hd ≠ wr) (hk0 : Kp S0 S) (h1 : S0.length ≤ hd) (h2 : S0.length ≤ wr) (hr2 : S0[rr]? = some (.lst (rows.map roD))) {k : Kt}
    (hk : ∀ S' b6, Wd hd wr (run id rows) (rows.map (·.1)) S' → Kp S0 S' → k.nx [some (.ref q), some sp.D, some (.ref h), some (.ref rr), some (.ref hd), some (.ref wr), b6, b7, b8, b9, b10, b11] S') :
    (forN (itNext (.seq (.ref rr))) (asg (.nm 6)) (fun e s => execs Y f8_13 e s) (lim + 2) 0 [some (.ref q), some sp.D, some (.ref h), some (.ref rr), some (.ref hd), some (.ref wr), b6, b7, b8, b9, b10, b11] S).F k := by
  refine for_lst (xs := rows.map roD) (fun i e S' => Wd hd wr (run id (rows.take i)) ((rows.take i).map (·.1)) S' ∧ Kp S0 S' ∧ ∃ b6, e = [some (.ref q), some sp.D, some (.ref h), some (.ref rr), some (.ref hd), some (.ref wr), b6, b7, b8, b9, b10, b11]) (by simp [lim]; omega) ⟨w, hk0, _, rfl⟩ (fun i e S' hh => hh.2.1 _ _ hr2) ?_ ?_
  · rintro i hi e S1 ⟨w1, k1, b6, rfl⟩
    have hi' : i < rows.length := by simpa using hi
    have hg : (rows.map roD)[i] = roD rows[i] := by simp
    rw [hg]
    refine ⟨_, rfl, ?_⟩
    have htk : rows.take (i + 1) = rows.take i ++ [rows[i]] := List.take_succ_eq_append_getElem hi'
    have hm := List.getElem_mem hi'
    generalize rows[i] = x at hm htk
    refine row_ok (n := n) hf (hP x hm) (fun z => ?_) (by simp; omega) w1 hne k1 h1 h2 fun S' w2 k2 => ⟨?_, k2, _, rfl⟩
    · refine run_other fun z2 => ?_
      obtain ⟨y, h3, h4⟩ := List.mem_map.mp z2
      have := hP y (List.mem_of_mem_take h3)
      rw [h4, z] at this
      cases this
    · rw [htk, run_app, List.map_append]
      exact w2
  · rintro e S1 ⟨w1, k1, b6, rfl⟩
    rw [List.length_map, List.take_length] at w1
    exact hk S1 _ w1 k1
/-- all pairs -/
theorem pairs_loop {S : Sto} {b6 b7 b8 b9 b10 b11 : Option D} (hf : Y.f = fnN G (n + 1)) (hg : Good pairs) (hq : S[q]? = some (.lst (pairs.map prD))) (m : MR pairs sp rows) (w : Wd hd wr (run id rows) (rows.map (·.1)) S) {k : Kt}
    (hk : ∀ S' b7 b8, Kp S S' → k.nx [some (.ref q), some sp.D, some (.ref h), some (.ref rr), some (.ref hd), some (.ref wr), b6, b7, b8, b9, b10, b11] S') :
    (forN (itNext (.seq (.ref q))) (asg (.tup [7, 8])) (fun e s => execs Y f8_8 e s) (lim + 2) 0 [some (.ref q), some sp.D, some (.ref h), some (.ref rr), some (.ref hd), some (.ref wr), b6, b7, b8, b9, b10, b11] S).F k := by
  refine for_lst (xs := pairs.map prD) (fun i e S' => Kp S S' ∧ ∃ b7 b8, e = [some (.ref q), some sp.D, some (.ref h), some (.ref rr), some (.ref hd), some (.ref wr), b6, b7, b8, b9, b10, b11]) (by have := hg.2.2; simp [lim]; omega) ⟨.refl _, _, _, rfl⟩ (fun i e S' hh => hh.1 _ _ hq) ?_ ?_
  · rintro i hi e S1 ⟨k1, b7, b8, rfl⟩
    have hi' : i < pairs.length := by simpa using hi
    have hgx : (pairs.map prD)[i] = prD pairs[i] := by simp
    rw [hgx]
    have hm := List.getElem_mem hi'
    generalize pairs[i] = x at hm
    refine ⟨[some (.ref q), some sp.D, some (.ref h), some (.ref rr), some (.ref hd), some (.ref wr), b6, some x.1.D, some x.2.D, b9, b10, b11], rfl, ?_⟩
    obtain ⟨⟨kvs, w1, w2, w3⟩, w4⟩ := w.kp k1
    refine w_if rfl ?_
    have hp := allP_P _ (hg.2.1 x hm)
    have a1 : ev Y (.call 6 (.cons (.var 4) (.cons (.var 7) .nil))) [some (.ref q), some sp.D, some (.ref h), some (.ref rr), some (.ref hd), some (.ref wr), b6, some x.1.D, some x.2.D, b9, b10, b11] S1 = .ok (W x.2) S1 := by
      rw [ev_call, evs_cons, ev_var (d := .ref hd) rfl, bind_ok, evs_cons, ev_var (d := x.1.D) rfl, bind_ok, evs_nil, bind_ok, bind_ok, bind_ok, hf]
      have := at_ok (n := n) (S := S1) w1 x.1
      rw [if_pos hp, w2 _ hp, m.val x hm] at this
      exact this
    have a2 : ev Y (.call 6 (.cons (.dnew true) (.cons (.var 8) .nil))) [some (.ref q), some sp.D, some (.ref h), some (.ref rr), some (.ref hd), some (.ref wr), b6, some x.1.D, some x.2.D, b9, b10, b11] S1 = .ok (W x.2) (S1 ++ [.dT []]) := by
      rw [ev_call, evs_cons, ev_dnew, new_eq, bind_ok, evs_cons, ev_var (d := x.2.D) rfl, bind_ok, evs_nil, bind_ok, bind_ok, bind_ok, hf]
      have := at_ok (n := n) (S := S1 ++ [.dT []]) (h := S1.length) (kvs := []) (by simp) x.2
      have hz : (if x.2.isP = true then (getK [] x.2.key).getD (W x.2) else W x.2) = W x.2 := by
        by_cases z : x.2.isP = true
        · rw [if_pos z]; rfl
        · rw [if_neg z]
      rw [hz] at this
      exact this
    have k2 : Kp S (S1 ++ [.dT []]) := k1.trans (.ext (Ext_app _ _))
    have w5 := (Ext_app S1 [.dT []]).at w4
    have c1 : ev Y (.cmp .NotEq (.call 6 (.cons (.var 4) (.cons (.var 7) .nil))) (.call 6 (.cons (.dnew true) (.cons (.var 8) .nil)))) [some (.ref q), some sp.D, some (.ref h), some (.ref rr), some (.ref hd), some (.ref wr), b6, some x.1.D, some x.2.D, b9, b10, b11] S1 = .ok (.bl false) (S1 ++ [.dT []]) := by
      rw [ev_cmp, a1, bind_ok, a2, bind_ok, cmpD_ne, eq_W]
      rfl
    rw [ev_or, evOr_cons, c1, bind_ok]
    generalize S1 ++ [MO.dT []] = S2 at k2 w5
    simp only [truthD_bl]
    have hkk : bmK .count (.ref wr) S2 = true := by simp [w5]
    have c2 : ev Y (.cmp .NotEq (.bm .count (.var 5) (.cons (.var 7) .nil)) (.bi .int1 (.cons (.cmp .NotEq (.var 7) (.var 8)) .nil))) [some (.ref q), some sp.D, some (.ref h), some (.ref rr), some (.ref hd), some (.ref wr), b6, some x.1.D, some x.2.D, b9, b10, b11] S2 = .ok (.bl false) S2 := by
      rw [ev_cmp, ev_bm, ev_var (d := .ref wr) rfl, bind_ok, if_pos hkk, evs_cons, ev_var (d := x.1.D) rfl, bind_ok, evs_nil, bind_ok, bind_ok, count_so w5, bind_ok, ev_bi, evs_cons, ev_cmp, ev_var (d := x.1.D) rfl, bind_ok, ev_var (d := x.2.D) rfl, bind_ok, cmpD_ne, eq_so]
      simp only [Option.map_some, obl_some, bind_ok, evs_nil]
      have ei : ∀ t : Bool, biD .int1 [.bl t] S2 = .ok (.int (if t then 1 else 0)) S2 := fun _ => rfl
      rw [ei, bind_ok, cmpD_ne, eq_ii, m.one x hm]
      by_cases z : x.1 = x.2
      · simp [z]
      · simp [z]
    rw [evOr_one, c2, Ok_ok, truthD_bl]
    simp only
    exact w_nil (w_nil ⟨k2, _, _, rfl⟩)
  · rintro e S1 ⟨k1, b7, b8, rfl⟩
    exact hk S1 _ _ k1
end
end My

namespace My
open PySem L2 Mi Rg
theorem len_ref {S : Sto} {n : Nat} {xs : List D} (h : S[n]? = some (.lst xs)) : biD .len [.ref n] S = .ok (.int xs.length) S := bi_len (by simp [lenD, h])
/-- one table of moves -/
theorem right_ok (n : Nat) {pairs : List (So × So)} {sp : So} {q : Nat} {S : Sto} (hg : Good pairs) (hsP : sp.isP = true) (hsp : sp ∉ pairs.map (·.1)) (hq : S[q]? = some (.lst (pairs.map prD))) : (fnN G (n + 2) 8 [.ref q, sp.D] S).Ok fun v S' => v = .bl true := by
  generalize hF : fnN G (n + 2) = F
  refine run_okF hF f8 rfl rfl fun Y hf hgv => ?_
  simp only [f8]
  refine w_set rfl ?_
  show (ev Y _ [some (.ref q), some sp.D, none, none, none, none, none, none, none, none, none, none] S).Ok _
  have e1 : ev Y (.bi .lst1 (.cons (.var 0) .nil)) [some (.ref q), some sp.D, none, none, none, none, none, none, none, none, none, none] S = .ok (.ref S.length) (S ++ [.lst (pairs.map prD)]) := by
    rw [ev_bi, evs_cons, ev_var (d := .ref q) rfl, bind_ok, evs_nil, bind_ok, bind_ok]
    simp [biD, seqAt, lstAt, hq]
  rw [e1, Ok_ok]
  have q1 := (Ext_app S [.lst (pairs.map prD)]).at hq
  have h1 : (S ++ [MO.lst (pairs.map prD)])[S.length]? = some (.lst (pairs.map prD)) := by simp
  show (execs Y f8_19 [some (.ref q), some sp.D, some (.ref S.length), none, none, none, none, none, none, none, none, none] (S ++ [.lst (pairs.map prD)])).F _
  generalize S ++ [MO.lst (pairs.map prD)] = S1 at q1 h1
  generalize S.length = h at h1
  refine w_set rfl ?_
  refine call_ok ?_
  rw [evs_cons, ev_var (d := .ref h) rfl, bind_ok, evs_cons, ev_var (d := sp.D) rfl, bind_ok, evs_nil, bind_ok, bind_ok, Ok_ok, hf]
  refine Ok_imp (moves_ok n hg hsp h1) ?_
  rintro v S2 ⟨rr, rows, rfl, r2, m, k2, hge2, hlen⟩
  have q2 := k2 _ _ q1
  have h2 := k2 _ _ h1
  have hwP : ∀ r ∈ rows, r.1.isP = true := by
    intro r hr
    rcases m.wr r hr with e | e
    · rw [e]; exact hsP
    · obtain ⟨x, h3, h4⟩ := List.mem_map.mp e
      rw [← h4]
      exact allP_P _ (hg.2.1 x h3)
  show (execs Y f8_18 [some (.ref q), some sp.D, some (.ref h), some (.ref rr), none, none, none, none, none, none, none, none] S2).F _
  refine w_if rfl ?_
  have c1 : ev Y (.not_ (.isi (.var 3) true [.b .list])) [some (.ref q), some sp.D, some (.ref h), some (.ref rr), none, none, none, none, none, none, none, none] S2 = .ok (.bl false) S2 := by
    rw [ev_not, ev_isi, ev_var (d := .ref rr) rfl, bind_ok]
    simp [isTys, isTy, tyName, tyLe, r2]
  have c2 : ev Y (.cmp .NotEq (.var 2) (.var 0)) [some (.ref q), some sp.D, some (.ref h), some (.ref rr), none, none, none, none, none, none, none, none] S2 = .ok (.bl false) S2 := by
    rw [ev_cmp, ev_var (d := .ref h) rfl, bind_ok, ev_var (d := .ref q) rfl, bind_ok, cmpD_ne, eq_prs h2 q2]
    rfl
  rw [ev_or, evOr_cons, c1, bind_ok]
  simp only [truthD_bl]
  rw [evOr_one, c2, Ok_ok, truthD_bl]
  simp only
  refine w_nil ?_
  show (execs Y f8_16 [some (.ref q), some sp.D, some (.ref h), some (.ref rr), none, none, none, none, none, none, none, none] S2).F _
  refine w_set rfl ?_
  rw [ev_dnew, new_eq, Ok_ok]
  show (execs Y f8_15 [some (.ref q), some sp.D, some (.ref h), some (.ref rr), some (.ref S2.length), none, none, none, none, none, none, none] (S2 ++ [.dT []])).F _
  refine w_set rfl ?_
  rw [ev_lst, evs_nil, bind_ok, if_pos (by simp [lim]), new_eq, Ok_ok]
  have x3 : Ext S2 (S2 ++ [.dT []] ++ [.lst []]) := (Ext_app _ _).trans (Ext_app _ _)
  have w3 : Wd S2.length (S2 ++ [MO.dT []]).length id [] (S2 ++ [.dT []] ++ [.lst []]) := ⟨⟨[], (Ext_app _ _).at (by simp), .zero, by simp⟩, by simp⟩
  have hne : S2.length ≠ (S2 ++ [MO.dT []]).length := by simp
  have hge : S2.length ≤ (S2 ++ [MO.dT []]).length := by simp
  have hge0 : S2.length ≤ S2.length := Nat.le_refl _
  have hrl2 : rr < S2.length := (List.getElem?_eq_some_iff.mp r2).1
  show (execs Y f8_14 [some (.ref q), some sp.D, some (.ref h), some (.ref rr), some (.ref S2.length), some (.ref (S2 ++ [MO.dT []]).length), none, none, none, none, none, none] (S2 ++ [.dT []] ++ [.lst []])).F _
  have k3 : Kp S2 (S2 ++ [MO.dT []] ++ [MO.lst []]) := .ext x3
  generalize S2 ++ [MO.dT []] ++ [MO.lst []] = S3 at x3 w3 k3
  generalize (S2 ++ [MO.dT []]).length = wr at w3 hne hge
  generalize hhd : S2.length = hd at w3 hne hge hge0
  refine w_for rfl ?_
  rw [seq_I (q := rr) rfl (k3 _ _ r2), Ok_ok]
  refine rows_loop (n := n) hf hwP hlen (k3 _ _ r2) hrl2 w3 hne k3 (by omega) (by omega) r2 fun S4 b6 w4 k4 => ?_
  show (execs Y f8_9 [some (.ref q), some sp.D, some (.ref h), some (.ref rr), some (.ref hd), some (.ref wr), b6, none, none, none, none, none] S4).F _
  refine w_for rfl ?_
  have q4 := k4 _ _ q2
  rw [seq_I (q := q) rfl q4, Ok_ok]
  refine pairs_loop (n := n) hf hg q4 m w4 fun S5 b7 b8 k5 => ?_
  have q5 := k5 _ _ q4
  have r5 := k5 _ _ (k4 _ _ r2)
  have w5 := (w4.kp k5).wr
  show (execs Y f8_6 [some (.ref q), some sp.D, some (.ref h), some (.ref rr), some (.ref hd), some (.ref wr), b6, b7, b8, none, none, none] S5).F _
  refine w_set rfl ?_
  refine call_ok ?_
  rw [evs_cons, ev_var (d := .ref q) rfl, bind_ok, evs_nil, bind_ok, Ok_ok, hf]
  refine Ok_imp (rings_ok n hg q5) ?_
  rintro v S6 ⟨rfl, k6⟩
  have hR := m.ring
  have hL := m.len
  generalize hmv : (pairs.filter fun x => decide (x.1 ≠ x.2)) = mv at hR hL
  generalize hRR : R (rank mv) mv = rg at hR
  have q6 := k6 _ _ q5
  have r6 := k6 _ _ r5
  have w6 := k6 _ _ w5
  show (execs Y f8_5 [some (.ref q), some sp.D, some (.ref h), some (.ref rr), some (.ref hd), some (.ref wr), b6, b7, b8, some (.int rg), none, none] S6).F _
  refine w_set rfl ?_
  have e7 := comp_of (Y := Y) (env := [some (.ref q), some sp.D, some (.ref h), some (.ref rr), some (.ref hd), some (.ref wr), b6, b7, b8, some (.int rg), none, none]) (S := S6) (own := [("_law_place", 7), ("_law_source", 8)]) (tg := .tup [7, 8]) (it := .val (.var 0)) (ifs := .cons (.cmp .NotEq (.var 7) (.var 8)) .nil) (elt := .var 7) (l := pairs) (f := prD) (en := fun x => [some (.ref q), some sp.D, some (.ref h), some (.ref rr), some (.ref hd), some (.ref wr), b6, some x.1.D, some x.2.D, some (.int rg), none, none]) (P := fun x => decide (x.1 ≠ x.2)) (g := fun x => x.1.D) (by have := hg.2.2; simp [lim]; omega) (seq_I rfl q6) q6 (fun x _ => rfl) (fun x _ => by
    rw [evIfs_cons, ev_cmp, ev_var (d := x.1.D) rfl, bind_ok, ev_var (d := x.2.D) rfl, bind_ok, cmpD_ne, eq_so]
    simp only [Option.map_some, obl_some, bind_ok, truthD_bl]
    congr 1
    simp) (fun x _ _ => ev_var rfl)
  rw [hmv] at e7
  rw [e7, Ok_ok]
  have k7 : Kp S6 (S6 ++ [.lst (mv.map fun x => x.1.D)]) := .ext (Ext_app _ _)
  have m7 : (S6 ++ [MO.lst (mv.map fun x => x.1.D)])[S6.length]? = some (.lst (mv.map fun x => x.1.D)) := by simp
  have q7 := k7 _ _ q6
  have r7 := k7 _ _ r6
  have w7 := k7 _ _ w6
  have hrl6 : rr < S6.length := (List.getElem?_eq_some_iff.mp r6).1
  show (execs Y f8_4 [some (.ref q), some sp.D, some (.ref h), some (.ref rr), some (.ref hd), some (.ref wr), b6, b7, b8, some (.int rg), some (.ref S6.length), none] (S6 ++ [.lst (mv.map fun x => x.1.D)])).F _
  generalize S6 ++ [MO.lst (mv.map fun x => x.1.D)] = S7 at k7 m7 q7 r7 w7
  generalize S6.length = mo at m7 hrl6
  have hrows : ((rows.map roD).length : Int) = ((mv.map fun x => x.1.D).length : Int) + (rg : Int) := by
    rw [List.length_map, List.length_map]
    omega
  refine w_if rfl ?_
  have c3 : ev Y (.cmp .NotEq (.bi .len (.cons (.var 3) .nil)) (.bin .Add (.bi .len (.cons (.var 10) .nil)) (.var 9))) [some (.ref q), some sp.D, some (.ref h), some (.ref rr), some (.ref hd), some (.ref wr), b6, b7, b8, some (.int rg), some (.ref mo), none] S7 = .ok (.bl false) S7 := by
    rw [ev_cmp, ev_bi, evs_cons, ev_var (d := .ref rr) rfl, bind_ok, evs_nil, bind_ok, bind_ok, len_ref r7, bind_ok, ev_bin, ev_bi, evs_cons, ev_var (d := .ref mo) rfl, bind_ok, evs_nil, bind_ok, bind_ok, len_ref m7, bind_ok, ev_var (d := .int rg) rfl, bind_ok, binD_addI, bind_ok, cmpD_ne, eq_ii, hrows]
    simp
  have hkk : bmK .count (.ref wr) S7 = true := by simp [w7]
  have c4 : ev Y (.cmp .NotEq (.bm .count (.var 5) (.cons (.var 1) .nil)) (.var 9)) [some (.ref q), some sp.D, some (.ref h), some (.ref rr), some (.ref hd), some (.ref wr), b6, b7, b8, some (.int rg), some (.ref mo), none] S7 = .ok (.bl false) S7 := by
    rw [ev_cmp, ev_bm, ev_var (d := .ref wr) rfl, bind_ok, if_pos hkk, evs_cons, ev_var (d := sp.D) rfl, bind_ok, evs_nil, bind_ok, bind_ok, count_so w7, bind_ok, ev_var (d := .int rg) rfl, bind_ok, cmpD_ne, eq_ii, hR]
    simp
  rw [ev_or, evOr_cons, c3, bind_ok]
  simp only [truthD_bl]
  rw [evOr_one, c4, Ok_ok, truthD_bl]
  simp only
  refine w_nil ?_
  show (execs Y f8_2 [some (.ref q), some sp.D, some (.ref h), some (.ref rr), some (.ref hd), some (.ref wr), b6, b7, b8, some (.int rg), some (.ref mo), none] S7).F _
  refine w_set rfl ?_
  refine call_ok ?_
  rw [evs_cons, ev_var (d := .ref q) rfl, bind_ok, evs_cons, ev_var (d := sp.D) rfl, bind_ok, evs_nil, bind_ok, bind_ok, Ok_ok, hf]
  refine Ok_imp (moves_ok n hg hsp q7) ?_
  rintro v S8 ⟨ag, rows2, rfl, a8, m2, k8, hge8, hlen2⟩
  have hR2 := m2.ring
  have hL2 := m2.len
  rw [hmv] at hR2 hL2
  rw [hRR] at hR2
  have m8 := k8 _ _ m7
  have r8 := k8 _ _ r7
  have hmo7 : mo < S7.length := (List.getElem?_eq_some_iff.mp m7).1
  show (execs Y f8_1 [some (.ref q), some sp.D, some (.ref h), some (.ref rr), some (.ref hd), some (.ref wr), b6, b7, b8, some (.int rg), some (.ref mo), some (.ref ag)] S8).F _
  refine w_ex rfl ?_
  have hkc : bmK .clear (.ref rr) S8 = true := by simp [r8]
  rw [ev_bm, ev_var (d := .ref rr) rfl, bind_ok, if_pos hkc, evs_nil, bind_ok, bm_clear, r8]
  simp only [Ok_ok]
  have m9 : (S8.set rr (.lst []))[mo]? = some (.lst (mv.map fun x => x.1.D)) := by rw [List.getElem?_set_ne (by omega)]; exact m8
  have a9 : (S8.set rr (.lst []))[ag]? = some (.lst (rows2.map roD)) := by rw [List.getElem?_set_ne (by omega)]; exact a8
  generalize S8.set rr (MO.lst []) = S9 at m9 a9
  show (execs Y f8_0 [some (.ref q), some sp.D, some (.ref h), some (.ref rr), some (.ref hd), some (.ref wr), b6, b7, b8, some (.int rg), some (.ref mo), some (.ref ag)] S9).F _
  refine w_ret rfl ?_
  have hrows2 : ((rows2.map roD).length : Int) = ((mv.map fun x => x.1.D).length : Int) + (rg : Int) := by
    rw [List.length_map, List.length_map]
    omega
  rw [ev_cmp, ev_bi, evs_cons, ev_var (d := .ref ag) rfl, bind_ok, evs_nil, bind_ok, bind_ok, len_ref a9, bind_ok, ev_bin, ev_bi, evs_cons, ev_var (d := .ref mo) rfl, bind_ok, evs_nil, bind_ok, bind_ok, len_ref m9, bind_ok, ev_var (d := .int rg) rfl, bind_ok, binD_addI, bind_ok, cmpD_eq, eq_ii, hrows2]
  simp
/-- the law -/
theorem law_true : ∀ ns : List Int, ns.length ≤ 63 → ∃ S, fnN G 60 9 [.rol (ns.map D.int)] [] = .ok (.bl true) S := by
  intro ns hns
  have h : (fnN G (57 + 3) 9 [.rol (ns.map D.int)] []).Ok fun v S => v = .bl true := by
    generalize hF : fnN G (57 + 3) = F
    refine run_okF hF f9 rfl rfl fun Y hf hgv => ?_
    simp only [f9]
    refine w_set rfl ?_
    show (ev Y _ [some (.rol (ns.map D.int)), none, none, none] []).Ok _
    obtain ⟨_, S1, e1, rfl, x, rfl⟩ := (cell_ok (57 + 1) (cs := ns) (k := 1) (by decide) []).ex
    rw [ev_tup, evs_cons, ev_con, bind_ok, evs_cons, ev_bin, ev_con, bind_ok, ev_bin, ev_call, evs_cons, ev_var (d := .rol (ns.map D.int)) rfl, bind_ok, evs_cons, ev_con, bind_ok, evs_nil, bind_ok, bind_ok, bind_ok, hf, e1, bind_ok, ev_con, bind_ok, binD_mod (by decide), bind_ok, binD_addI, bind_ok, evs_nil, bind_ok, bind_ok, bind_ok, if_pos (by simp [lim]), Ok_ok]
    have hsp : ∃ sp : So, D.tup [.str "reg", .int (4 + x % 4)] = sp.D ∧ sp.isP = true ∧ sp ∉ allP := ⟨.reg (4 + x % 4), rfl, rfl, by
      unfold allP
      simp only [List.mem_cons, So.reg.injEq, reduceCtorEq, List.mem_nil_iff, or_false]
      omega⟩
    obtain ⟨sp, es, hp, ha⟩ := hsp
    rw [es]
    show (execs Y f9_4 [some (.rol (ns.map D.int)), some sp.D, none, none] []).F _
    refine w_for rfl ?_
    rw [evI_head (env := [some (.rol (ns.map D.int)), some sp.D, none, none]) (a := 1) (b := 20) 1 20 (xs := ns.map D.int) rfl rfl rfl (by decide) (by decide), Ok_ok]
    refine for_rng (fun i e S' => ∃ b2 b3, e = [some (.rol (ns.map D.int)), some sp.D, b2, b3]) (by simp only [lim]; omega) ⟨_, _, rfl⟩ ?_ ?_
    · rintro i e S2 ⟨b2, b3, rfl⟩ hi
      show (execs Y f9_3 [some (.rol (ns.map D.int)), some sp.D, some (.int (0 + (i : Nat))), b3] S2).F _
      rw [show ((0 : Int) + (i : Nat)) = ((i : Nat) : Int) by omega]
      refine w_set rfl ?_
      refine call_ok ?_
      obtain ⟨_, S3, e3, rfl, y, rfl⟩ := (cell_ok (57 + 1) (cs := ns) (k := (i : Int)) (by omega) S2).ex
      obtain ⟨_, S4, e4, rfl, z, rfl⟩ := (cell_ok (57 + 1) (cs := ns) (k := (i : Int) + 1) (by omega) S3).ex
      rw [evs_cons, ev_lst, evs_cons, ev_call, evs_cons, ev_var (d := .rol (ns.map D.int)) rfl, bind_ok, evs_cons, ev_var (d := .int i) rfl, bind_ok, evs_nil, bind_ok, bind_ok, bind_ok, hf, e3, bind_ok, evs_cons, ev_call, evs_cons, ev_var (d := .rol (ns.map D.int)) rfl, bind_ok, evs_cons, ev_bin, ev_var (d := .int i) rfl, bind_ok, ev_con, bind_ok, binD_addI, bind_ok, evs_nil, bind_ok, bind_ok, bind_ok, hf, e4, bind_ok, evs_nil, bind_ok, bind_ok, bind_ok, if_pos (by simp [lim]), new_eq, bind_ok, evs_cons, ev_con, bind_ok, evs_nil, bind_ok, bind_ok, Ok_ok]
      refine Ok_imp (numbers_ok 57 (a := y) (b := z) (by simp)) ?_
      rintro v S5 ⟨r, rfl, n5⟩
      show (execs Y f9_2 [some (.rol (ns.map D.int)), some sp.D, some (.int i), some (.ref r)] S5).F _
      refine w_if rfl ?_
      rw [ev_not]
      refine Ok_bind (call_ok ?_)
      rw [evs_cons]
      refine Ok_bind (call_ok ?_)
      rw [evs_cons, ev_var (d := .ref r) rfl, bind_ok, evs_nil, bind_ok, Ok_ok, hf]
      refine Ok_imp (pairs_ok 57 n5) ?_
      rintro v S6 ⟨p, l, rfl, p6, hg⟩
      rw [evs_cons, ev_var (d := sp.D) rfl, bind_ok, evs_nil, bind_ok, bind_ok, Ok_ok]
      refine Ok_imp (right_ok 57 hg hp (fun z => ?_) p6) ?_
      · obtain ⟨y, h1, h2⟩ := List.mem_map.mp z
        exact ha (h2 ▸ hg.2.1 y h1)
      · rintro v S7 rfl
        simp only [truthD_bl, Option.map_some, Bool.not_true, obl_some, Ok_ok]
        exact w_nil (w_nil ⟨_, _, rfl⟩)
    · rintro e S2 ⟨b2, b3, rfl⟩
      refine w_ret rfl ?_
      rw [ev_con, Ok_ok]
  obtain ⟨v, S, e, rfl⟩ := h.ex
  exact ⟨S, e⟩
end My

namespace My
open PySem L2 Mi PySem.Spec PyProof.Rows
theorem all_mk {l : PySem.W.OpenLaw} {w : World} {K : PySem.W.Frag} {h : Heap} {mg : Str → Option Value} {fa : Addr} (X : K.In h) (Gn : h.Ns mainGlobals mg) (hfa : mg "law" = some (.ref fa))
    {od0 an0 : Option Addr} {sl0 : Array (Option Value)} {oc0 kV0 dc0 pm0 cd0 ct0 : Value} {a0 : Addr} (n0 : PySem.W.nsIn K mainGlobals "moves_in_row" = some (some (.ref a0))) (l0 : K.lookup a0 = some ⟨oc0, od0, .func (PySem.W.fnOf "moves_in_row" "moves_in_row" (defArgs (stm 1)) (defBody (stm 1)) (defScope (stm 1)) .none kV0 dc0 pm0 an0 cd0 ct0), sl0⟩) (c0 : PySem.W.codeIn K cd0 "moves_in_row" = true) (k0 : PySem.W.keepIn K (.ref a0) = true)
    {od1 an1 : Option Addr} {sl1 : Array (Option Value)} {oc1 kV1 dc1 pm1 cd1 ct1 : Value} {a1 : Addr} (n1 : PySem.W.nsIn K mainGlobals "_law_cell_at" = some (some (.ref a1))) (l1 : K.lookup a1 = some ⟨oc1, od1, .func (PySem.W.fnOf "_law_cell_at" "_law_cell_at" (defArgs (stm 3)) (defBody (stm 3)) (defScope (stm 3)) .none kV1 dc1 pm1 an1 cd1 ct1), sl1⟩) (c1 : PySem.W.codeIn K cd1 "_law_cell_at" = true) (k1 : PySem.W.keepIn K (.ref a1) = true)
    {od2 an2 : Option Addr} {sl2 : Array (Option Value)} {oc2 kV2 dc2 pm2 cd2 ct2 : Value} {a2 : Addr} (n2 : PySem.W.nsIn K mainGlobals "_law_mixed" = some (some (.ref a2))) (l2 : K.lookup a2 = some ⟨oc2, od2, .func (PySem.W.fnOf "_law_mixed" "_law_mixed" (defArgs (stm 4)) (defBody (stm 4)) (defScope (stm 4)) .none kV2 dc2 pm2 an2 cd2 ct2), sl2⟩) (c2 : PySem.W.codeIn K cd2 "_law_mixed" = true) (k2 : PySem.W.keepIn K (.ref a2) = true)
    {od3 an3 : Option Addr} {sl3 : Array (Option Value)} {oc3 kV3 dc3 pm3 cd3 ct3 : Value} {a3 : Addr} (n3 : PySem.W.nsIn K mainGlobals "_law_numbers" = some (some (.ref a3))) (l3 : K.lookup a3 = some ⟨oc3, od3, .func (PySem.W.fnOf "_law_numbers" "_law_numbers" (defArgs (stm 5)) (defBody (stm 5)) (defScope (stm 5)) .none kV3 dc3 pm3 an3 cd3 ct3), sl3⟩) (c3 : PySem.W.codeIn K cd3 "_law_numbers" = true) (k3 : PySem.W.keepIn K (.ref a3) = true)
    {od4 an4 : Option Addr} {sl4 : Array (Option Value)} {oc4 kV4 dc4 pm4 cd4 ct4 : Value} {a4 : Addr} (n4 : PySem.W.nsIn K mainGlobals "_law_take" = some (some (.ref a4))) (l4 : K.lookup a4 = some ⟨oc4, od4, .func (PySem.W.fnOf "_law_take" "_law_take" (defArgs (stm 6)) (defBody (stm 6)) (defScope (stm 6)) .none kV4 dc4 pm4 an4 cd4 ct4), sl4⟩) (c4 : PySem.W.codeIn K cd4 "_law_take" = true) (k4 : PySem.W.keepIn K (.ref a4) = true)
    {od5 an5 : Option Addr} {sl5 : Array (Option Value)} {oc5 kV5 dc5 pm5 cd5 ct5 : Value} {a5 : Addr} (n5 : PySem.W.nsIn K mainGlobals "_law_pairs" = some (some (.ref a5))) (l5 : K.lookup a5 = some ⟨oc5, od5, .func (PySem.W.fnOf "_law_pairs" "_law_pairs" (defArgs (stm 7)) (defBody (stm 7)) (defScope (stm 7)) .none kV5 dc5 pm5 an5 cd5 ct5), sl5⟩) (c5 : PySem.W.codeIn K cd5 "_law_pairs" = true) (k5 : PySem.W.keepIn K (.ref a5) = true)
    {od6 an6 : Option Addr} {sl6 : Array (Option Value)} {oc6 kV6 dc6 pm6 cd6 ct6 : Value} {a6 : Addr} (n6 : PySem.W.nsIn K mainGlobals "_law_at" = some (some (.ref a6))) (l6 : K.lookup a6 = some ⟨oc6, od6, .func (PySem.W.fnOf "_law_at" "_law_at" (defArgs (stm 8)) (defBody (stm 8)) (defScope (stm 8)) .none kV6 dc6 pm6 an6 cd6 ct6), sl6⟩) (c6 : PySem.W.codeIn K cd6 "_law_at" = true) (k6 : PySem.W.keepIn K (.ref a6) = true)
    {od7 an7 : Option Addr} {sl7 : Array (Option Value)} {oc7 kV7 dc7 pm7 cd7 ct7 : Value} {a7 : Addr} (n7 : PySem.W.nsIn K mainGlobals "_law_rings" = some (some (.ref a7))) (l7 : K.lookup a7 = some ⟨oc7, od7, .func (PySem.W.fnOf "_law_rings" "_law_rings" (defArgs (stm 9)) (defBody (stm 9)) (defScope (stm 9)) .none kV7 dc7 pm7 an7 cd7 ct7), sl7⟩) (c7 : PySem.W.codeIn K cd7 "_law_rings" = true) (k7 : PySem.W.keepIn K (.ref a7) = true)
    {od8 an8 : Option Addr} {sl8 : Array (Option Value)} {oc8 kV8 dc8 pm8 cd8 ct8 : Value} {a8 : Addr} (n8 : PySem.W.nsIn K mainGlobals "_law_right" = some (some (.ref a8))) (l8 : K.lookup a8 = some ⟨oc8, od8, .func (PySem.W.fnOf "_law_right" "_law_right" (defArgs (stm 10)) (defBody (stm 10)) (defScope (stm 10)) .none kV8 dc8 pm8 an8 cd8 ct8), sl8⟩) (c8 : PySem.W.codeIn K cd8 "_law_right" = true) (k8 : PySem.W.keepIn K (.ref a8) = true)
    {od9 an9 : Option Addr} {sl9 : Array (Option Value)} {oc9 kV9 dc9 pm9 cd9 ct9 : Value} {a9 : Addr} (n9 : PySem.W.nsIn K mainGlobals "law" = some (some (.ref a9))) (l9 : K.lookup a9 = some ⟨oc9, od9, .func (PySem.W.fnOf "law" "law" (defArgs (stm 11)) (defBody (stm 11)) (defScope (stm 11)) .none kV9 dc9 pm9 an9 cd9 ct9), sl9⟩) (c9 : PySem.W.codeIn K cd9 "law" = true) (k9 : PySem.W.keepIn K (.ref a9) = true)
    (z0 : PySem.W.nsIn K mainGlobals "dict" = some none)
    (z1 : PySem.W.nsIn K mainGlobals "int" = some none)
    (z2 : PySem.W.nsIn K mainGlobals "isinstance" = some none)
    (z3 : PySem.W.nsIn K mainGlobals "len" = some none)
    (z4 : PySem.W.nsIn K mainGlobals "list" = some none)
    (z5 : PySem.W.nsIn K mainGlobals "max" = some none)
    (z6 : PySem.W.nsIn K mainGlobals "min" = some none)
    (z7 : PySem.W.nsIn K mainGlobals "range" = some none)
    (z8 : PySem.W.nsIn K mainGlobals "tuple" = some none) :
    ∃ fd : FuncData, (∀ (s : Shared) (v : Value), BindsTo s fd ⟨[v], []⟩ [("_law_script", v)]) ∧ ∀ base : Heap, K.In base → base.Ns mainGlobals mg → FnOk l.prog w K mg base (L2.CX l.prog w) 60 fa fd ["_law_script"] (spLaw K) := by
  have e := hfa.symm.trans (PySem.W.mg_of X Gn n9)
  cases e
  have F0 := fun_mk (st := stm 1) l0 c0 k0
  have b0 := F0.binds (ps := f0.ps) fun _ _ _ _ _ _ us hl => match us, hl with | [_, _], _ => rfl
  have F1 := fun_mk (st := stm 3) l1 c1 k1
  have b1 := F1.binds (ps := f1.ps) fun _ _ _ _ _ _ us hl => match us, hl with | [_, _], _ => rfl
  have F2 := fun_mk (st := stm 4) l2 c2 k2
  have b2 := F2.binds (ps := f2.ps) fun _ _ _ _ _ _ us hl => match us, hl with | [_, _], _ => rfl
  have F3 := fun_mk (st := stm 5) l3 c3 k3
  have b3 := F3.binds (ps := f3.ps) fun _ _ _ _ _ _ us hl => match us, hl with | [_, _], _ => rfl
  have F4 := fun_mk (st := stm 6) l4 c4 k4
  have b4 := F4.binds (ps := f4.ps) fun _ _ _ _ _ _ us hl => match us, hl with | [_], _ => rfl
  have F5 := fun_mk (st := stm 7) l5 c5 k5
  have b5 := F5.binds (ps := f5.ps) fun _ _ _ _ _ _ us hl => match us, hl with | [_], _ => rfl
  have F6 := fun_mk (st := stm 8) l6 c6 k6
  have b6 := F6.binds (ps := f6.ps) fun _ _ _ _ _ _ us hl => match us, hl with | [_, _], _ => rfl
  have F7 := fun_mk (st := stm 9) l7 c7 k7
  have b7 := F7.binds (ps := f7.ps) fun _ _ _ _ _ _ us hl => match us, hl with | [_], _ => rfl
  have F8 := fun_mk (st := stm 10) l8 c8 k8
  have b8 := F8.binds (ps := f8.ps) fun _ _ _ _ _ _ us hl => match us, hl with | [_, _], _ => rfl
  have F9 := fun_mk (st := stm 11) l9 c9 k9
  have b9 := F9.binds (ps := f9.ps) fun _ _ _ _ _ _ us hl => match us, hl with | [_], _ => rfl
  have O : TopOK K mg t0 (fun c => ([] : List Addr)[c]?.getD 0) G := {
    fd := by decide +kernel
    xn := fun c x hx => nomatch hx
    ec := fun c k hk => by cases hk
    fns := by
      intro i fi hi
      have hm : fi ∈ G.fns := List.mem_of_getElem? hi
      simp only [G, List.mem_cons, List.not_mem_nil, or_false] at hm
      rcases hm with rfl | rfl | rfl | rfl | rfl | rfl | rfl | rfl | rfl | rfl
      · exact ⟨_, _, _, PySem.W.mg_of X Gn n0, F0, b0, My.c0⟩
      · exact ⟨_, _, _, PySem.W.mg_of X Gn n1, F1, b1, My.c1⟩
      · exact ⟨_, _, _, PySem.W.mg_of X Gn n2, F2, b2, My.c2⟩
      · exact ⟨_, _, _, PySem.W.mg_of X Gn n3, F3, b3, My.c3⟩
      · exact ⟨_, _, _, PySem.W.mg_of X Gn n4, F4, b4, My.c4⟩
      · exact ⟨_, _, _, PySem.W.mg_of X Gn n5, F5, b5, My.c5⟩
      · exact ⟨_, _, _, PySem.W.mg_of X Gn n6, F6, b6, My.c6⟩
      · exact ⟨_, _, _, PySem.W.mg_of X Gn n7, F7, b7, My.c7⟩
      · exact ⟨_, _, _, PySem.W.mg_of X Gn n8, F8, b8, My.c8⟩
      · exact ⟨_, _, _, PySem.W.mg_of X Gn n9, F9, b9, My.c9⟩
    nms := rfl
    gv := by
      intro g x hx
      cases hx
    bl := by
      intro x hx
      simp only [t0, List.mem_cons, List.not_mem_nil, or_false] at hx
      rcases hx with rfl | rfl | rfl | rfl | rfl | rfl | rfl | rfl | rfl
      · exact PySem.W.mg_none_of X Gn z0
      · exact PySem.W.mg_none_of X Gn z1
      · exact PySem.W.mg_none_of X Gn z2
      · exact PySem.W.mg_none_of X Gn z3
      · exact PySem.W.mg_none_of X Gn z4
      · exact PySem.W.mg_none_of X Gn z5
      · exact PySem.W.mg_none_of X Gn z6
      · exact PySem.W.mg_none_of X Gn z7
      · exact PySem.W.mg_none_of X Gn z8
    }
  exact ⟨_, fun s v => .of_eq rfl, fun base _ _ => law_fn (W := ⟨l.prog, w, mg, base, ⟨l.prog, w, K, fun c => ([] : List Addr)[c]?.getD 0, nmOf t0.fnm, ec, fun _ _ _ => False, fun _ => True⟩⟩) (t := t0) (G := G) (n := 60) (i := 9) (fi := f9) O rfl rfl ⟨rfl, rfl⟩ rfl F9 My.c9 law_true⟩
end My
open PySem PySem.W PyProof.Rows in
set_option maxRecDepth 100000 in
set_option maxHeartbeats 0 in
theorem PySem.Challenge.cw_eachstepsame_k65_moves_one_by_one_holds : PySem.Challenge.rw_eachstepsame_k65_moves_one_by_one.Holds := by
  w_on; o_law; k_head; (case hw => w_witness2)
  k_fill
  refine Mi.walk (l := PySem.Challenge.rw_eachstepsame_k65_moves_one_by_one) (n := 60) (x := "_law_script") rfl rfl ⟨rfl, by decide, by decide⟩ (fun w h Y => PySem.W.kIn_of Y) ?F
  case F =>
    intro w mg fa h KX G hmg
    refine' My.all_mk KX G hmg ?n0 ?l0 ?c0 ?k0 ?n1 ?l1 ?c1 ?k1 ?n2 ?l2 ?c2 ?k2 ?n3 ?l3 ?c3 ?k3 ?n4 ?l4 ?c4 ?k4 ?n5 ?l5 ?c5 ?k5 ?n6 ?l6 ?c6 ?k6 ?n7 ?l7 ?c7 ?k7 ?n8 ?l8 ?c8 ?k8 ?n9 ?l9 ?c9 ?k9 ?z0 ?z1 ?z2 ?z3 ?z4 ?z5 ?z6 ?z7 ?z8
    (case n0 => k_is)
    (case l0 => k_is)
    (case c0 => k_is)
    (case k0 => k_is)
    (case n1 => k_is)
    (case l1 => k_is)
    (case c1 => k_is)
    (case k1 => k_is)
    (case n2 => k_is)
    (case l2 => k_is)
    (case c2 => k_is)
    (case k2 => k_is)
    (case n3 => k_is)
    (case l3 => k_is)
    (case c3 => k_is)
    (case k3 => k_is)
    (case n4 => k_is)
    (case l4 => k_is)
    (case c4 => k_is)
    (case k4 => k_is)
    (case n5 => k_is)
    (case l5 => k_is)
    (case c5 => k_is)
    (case k5 => k_is)
    (case n6 => k_is)
    (case l6 => k_is)
    (case c6 => k_is)
    (case k6 => k_is)
    (case n7 => k_is)
    (case l7 => k_is)
    (case c7 => k_is)
    (case k7 => k_is)
    (case n8 => k_is)
    (case l8 => k_is)
    (case c8 => k_is)
    (case k8 => k_is)
    (case n9 => k_is)
    (case l9 => k_is)
    (case c9 => k_is)
    (case k9 => k_is)
    (case z0 => k_is)
    (case z1 => k_is)
    (case z2 => k_is)
    (case z3 => k_is)
    (case z4 => k_is)
    (case z5 => k_is)
    (case z6 => k_is)
    (case z7 => k_is)
    (case z8 => k_is)
