import PyProof.Rows.All
import Wide.All
import OpenK.AllK
import Wide.FinOn
import PyProof.EqAt
import PyProof.EqKinds
import PyProof.TupleKey
import PyProof.DictRoadsH
import HandS.NoneIn
import HandS.ForMost
import HandS.ForExc
import HandS.Lambda
import HandS.ExcCtx
import HandS.TupAny
import HandS.Flow
import HandS.IsInst
import HandS.SortInts
import HandS.Conv
import HandS.SetFor
import HandS.SetKeys
import HandS.Deep
import HandS.RaiseMore
import HandS.TupLen
import HandS.Style
import HandS.TupLe
import HandS.TupMul
import PyProof.StrOps2
import KE.KEqDict
import HandS.Dict
import HandS.List
import KE.KRevSl
import KE.KSortedM
import HandS.Replace
import HandS.ReplaceLit
import HandS.SortRule
import HandS.DictTup
import HandS.TryOnly
import HandS.Iter
import KE.GoesMore
import KE.GoesEnum
import PyProof.Draws
import HandS.Zip
import HandS.RevRange
import HandS.Comp
import HandS.Hot
import HandS.CallSlots
import HandS.ClsMeth
import HandS.Defaults
import HandS.Strs
import HandS.DeepEq
import PyProof.Rows.SortShellAny
import HandS.ExcInit
import HandS.ExcIs
import KE.KExcIs
import HandS.ExcField
import HandS.HotCalls
import HandS.Small
import KE.KSortKeySt
import HandS.Words
import HandS.WordsExc
import HandS.Ends
import HandS.EndTab
import HandS.EndBits
import KE.KNestM
import PySem.Challenge.RW_nightwatch_k16_refusals
set_option Elab.async false
set_option linter.all false
set_option maxRecDepth 100000
set_option maxHeartbeats 1000000
namespace Nw
open PySem L2 PySem.Spec PyProof.Rows

/-! ## None is no key of a dict of tuples -/
section
variable {prog : Program} {w : World} {A : Around} {E : Value → Shared → Prop} {s : Shared} {d : Addr} {o : PySem.Obj} {es : Array DictEntry} {ep : Nat}
abbrev TupEs (prog : Program) (w : World) (h : Heap) (es : Array DictEntry) : Prop := ∀ e ∈ es, ∃ b ks, e.key = .ref b ∧ IsTupleKey (mixKind prog w) h ks b
theorem nn_quiet {stored : List Value} {Q : Bool → Shared → Prop} (hs : ∀ v ∈ stored, ∃ b ks, v = .ref b ∧ IsTupleKey (mixKind prog w) s.heap ks b) (q : Q false s) :
    wpAny (model prog w) A (tableMayTell .none stored) Q E s := by
  unfold tableMayTell
  split
  · exact wpAny_pure q
  rw [eqIsQuiet_byValue 8 (by rfl)]
  refine wpAny_bind (wpAny_pure ?_)
  rw [if_neg (by simp)]
  refine wpAny_bind (wpAny_forIn_list _ (fun rest r t => t = s ∧ r = (none, ()) ∧ ∀ v ∈ rest, ∃ b ks, v = .ref b ∧ IsTupleKey (mixKind prog w) s.heap ks b) _ ?_ ?_ _ _ ⟨rfl, rfl, hs⟩)
  · rintro v rest r t ⟨rfl, rfl, hv⟩
    obtain ⟨b, ks, rfl, hk⟩ := hv v List.mem_cons_self
    refine wpAny_bind (wpAny_eqIsQuiet_tuple hk ?_)
    rw [if_neg (by simp)]
    exact wpAny_pure ⟨rfl, rfl, fun u hu => hv u (List.mem_cons_of_mem _ hu)⟩
  · rintro r t ⟨rfl, rfl, _⟩
    exact wpAny_pure q
theorem nn_find {h : Int} {Q : Option Nat → Shared → Prop} (hu : A.units < cLine) (ho : s.heap.get? d = some o) (hd : o.data = .dict es ep) (hk : TupEs prog w s.heap es) (q : Q none s) :
    wpAny (model prog w) A (dictFind d .none h) Q E s := by
  have at_ : ∀ (i : Nat) e, es[i]? = some e → ∃ b ks, e.key = .ref b ∧ IsTupleKey (mixKind prog w) s.heap ks b := fun i e z => hk e (Array.mem_of_getElem? z)
  have hst : ∀ v ∈ (placesWithHash es.size (fun i => es[i]?.map (·.hash)) h).filterMap (fun i => es[i]?.map (·.key)), ∃ b ks, v = .ref b ∧ IsTupleKey (mixKind prog w) s.heap ks b := fun v hv => by
    obtain ⟨i, _, z⟩ := List.mem_filterMap.mp hv
    obtain ⟨e, z1, z2⟩ := Option.map_eq_some_iff.mp z
    obtain ⟨b, ks, e1, e2⟩ := at_ i e z1
    exact ⟨b, ks, by rw [← z2, e1], e2⟩
  unfold dictFind
  try with_reducible refine wpAny_holding ?_
  refine wpAny_bind (wpAny_dictEntries ho hd ?_)
  dsimp only
  by_cases hc : ((Value.none :: (placesWithHash es.size (fun i => es[i]?.map (·.hash)) h).filterMap (fun i => es[i]?.map (·.key))).all carriedByValue) = true
  · rw [if_pos hc]
    -- no key of that hash
    have hnil : (placesWithHash es.size (fun i => es[i]?.map (·.hash)) h) = [] := by
      cases hp : placesWithHash es.size (fun i => es[i]?.map (·.hash)) h with
      | nil => rfl
      | cons i r =>
        exfalso
        have hi : i ∈ placesWithHash es.size (fun i => es[i]?.map (·.hash)) h := by rw [hp]; exact List.mem_cons_self
        unfold placesWithHash at hi
        have hlt := List.mem_range.mp (List.mem_filter.mp hi).1
        obtain ⟨e, he⟩ : ∃ e, es[i]? = some e := ⟨_, Array.getElem?_eq_getElem hlt⟩
        obtain ⟨b, ks, e1, _⟩ := at_ i e he
        rw [hp] at hc
        simp [he, e1, carriedByValue] at hc
    rw [hnil]
    unfold dictWalkPlain
    refine wpAny_bind (wpAny_forIn_list _ (fun rest r t => t = s ∧ r = (none, ()) ∧ rest = []) _ ?_ ?_ _ _ ⟨rfl, rfl, rfl⟩)
    · rintro v rest r t ⟨_, _, z⟩
      cases z
    · rintro r t ⟨rfl, rfl, _⟩
      exact wpAny_pure q
  · rw [if_neg hc]
    by_cases hone : (((placesWithHash es.size (fun i => es[i]?.map (·.hash)) h).filterMap (fun i => es[i]?.map (·.key))) == [Value.none]) = true <;>
    (first | rw [if_pos hone] | rw [if_neg hone]) <;> (first | refine wpAny_bind (wpAny_pure ?_) | refine wpAny_bind (nn_quiet hst ?_)) <;> (
      rw [if_neg (by simp)]
      refine wpAny_bind (wpAny_forIn_list _ (fun rest r t => t = s ∧ r = (none, none)) _ ?_ ?_ _ _ ⟨rfl, rfl⟩)
      · rintro i rest r t ⟨rfl, rfl⟩
        cases he : es[i]? with
        | none => exact wpAny_pure ⟨rfl, rfl⟩
        | some e =>
          obtain ⟨b, ks, e1, e2⟩ := at_ i e he
          dsimp only
          split
          · refine wpAny_bind (wpAny_dictEpoch ho hd (wpAny_bind ?_))
            rw [e1]
            obtain ⟨oo, its, n, g1, g2, g3, _⟩ := e2
            refine SeqAt.EqAt.tuple_none (l := b) (items := its) ⟨oo, g1, g2, n, g3⟩ hu prog w _ _ ?_
            refine wpAny_bind (wpAny_dictEpoch ho hd ?_)
            rw [if_neg (by simp)]
            simp only [Bool.false_eq_true, if_false]
            refine wpAny_bind (wpAny_rule ?_)
            first | rw [if_neg (by simp)] | skip
            first
              | exact wpAny_pure ⟨rfl, rfl⟩
              | exact wpAny_bind (wpAny_pure (wpAny_pure ⟨rfl, rfl⟩))
          · exact wpAny_pure ⟨rfl, rfl⟩
      · rintro r t ⟨rfl, rfl⟩
        exact wpAny_pure q)
theorem nn_get {Q : Option Value → Shared → Prop} (hu : A.units < cLine) (ho : s.heap.get? d = some o) (hd : o.data = .dict es ep) (hk : TupEs prog w s.heap es) (q : ∀ t, Q none { s with toks := t }) :
    wpAny (model prog w) A (dictGet d .none) Q E s := by
  unfold dictGet
  try with_reducible refine wpAny_holding ?_
  refine wpAny_bind (PySem.W.pyHash_slot (T := "NoneType") rfl PySem.F.slot_NoneType_hash PySem.F.entry_NoneType_hash (PySem.F.args_NoneType_hash_1 _) (beq_builtin_none _) (.inl rfl) (wpAny_bind (wpAny_pure (wpAny_bind (wpAny_mkInt (wpAny_pure ⟨_, _, rfl, ?_⟩))))))
  exact wpAny_bind (nn_find hu ho hd hk (wpAny_pure (q _)))
theorem nn_has {Q : Bool → Shared → Prop} (hu : A.units + 1 < cLine) (hs : (d == sysModules) = false) (ht : s.TypeIs (.ref d) "dict") (ho : s.heap.get? d = some o) (hd : o.data = .dict es ep) (hk : TupEs prog w s.heap es) (q : ∀ t, Q false { s with toks := t }) :
    wpAny (model prog w) A (contains (.ref d) .none) Q E s := by
  unfold contains
  try with_reducible refine wpAny_holding ?_
  refine wpAny_bind (wpAny_specialOf ht slot_dict_contains.lookup ?_)
  rw [show (some (Value.builtin "dict.__contains__") == some Value.none) = false from beq_builtin_none _]
  simp only [Bool.false_eq_true, if_false]
  refine wpAny_bind (wpAny_callSpecialUnlessNone?_slot (name := Str.ofString "__contains__") ht slot_dict_contains
    (wpAny_call_entry slot_dict_contains ht entry_dict_contains ?_ (args_dict_contains _ _)))
  show wpAny _ _ (dictGet d .none >>= _) _ _ s
  refine wpAny_bind (nn_get (by exact hu) ho hd hk fun t => ?_)
  show wpAny _ _ (Builtin.Dict.pendingKey? d .none >>= _) _ _ _
  exact wpAny_bind (wpAny_pendingKey_other hs (wpAny_pure ⟨_, rfl, wpAny_truthy_bool (q t)⟩))
end
section
variable {X : Cx} {pins : List (Addr × PySem.Obj)} {σ : L2.St} {H : Hp} {s : Shared} {a : Addr} {kvs : List (List L2.Key × V)} {A : Around} {E : Value → Shared → Prop}
theorem rd_es (I : L2.Inv X pins σ H s) (e : Rd H a (.dT kvs)) : (a == sysModules) = false ∧ s.TypeIs (.ref a) "dict" ∧ ∃ (o : PySem.Obj) (es : Array DictEntry) (ep : Nat), s.heap.get? a = some o ∧ o.data = .dict es ep ∧ TupEs X.prog X.w s.heap es := by
  obtain ⟨_, hd, xs, _, dd⟩ := dt_rd I.hok e
  refine ⟨hd, dd.typeIs, ?_⟩
  obtain ⟨o, es, ep, h1, _, h3, h4, h5, _⟩ := dd
  refine ⟨o, es, ep, h1, h3, fun x hx => ?_⟩
  have : x ∈ xs.map (entryOfKey (tupleKind (mixKind X.prog X.w))) := h4 ▸ Array.mem_toList_iff.mpr hx
  obtain ⟨y, hy, rfl⟩ := List.mem_map.mp this
  exact ⟨y.2.1, y.1, rfl, h5 y hy⟩
theorem t_inNone {Q : Value → Shared → Prop} (hu : A.units + 1 < cLine) (I : L2.Inv X pins σ H s) (e : Rd H a (.dT kvs)) (h : ∀ s', L2.Inv X pins σ H s' → Q (.bool false) s') : wpAny (model X.prog X.w) A (compareOp .In .none (.ref a)) Q E s := by
  obtain ⟨hs, ht, o, es, ep, ho, hd, hk⟩ := rd_es I e
  show wpAny _ _ (do return .bool (← contains (.ref a) .none)) Q E s
  exact wpAny_bind (nn_has hu hs ht ho hd hk fun t => wpAny_pure (h _ (I.tok _)))
theorem t_notInNone {Q : Value → Shared → Prop} (hu : A.units + 1 < cLine) (I : L2.Inv X pins σ H s) (e : Rd H a (.dT kvs)) (h : ∀ s', L2.Inv X pins σ H s' → Q (.bool true) s') : wpAny (model X.prog X.w) A (compareOp .NotIn .none (.ref a)) Q E s := by
  obtain ⟨hs, ht, o, es, ep, ho, hd, hk⟩ := rd_es I e
  show wpAny _ _ (do return .bool !(← contains (.ref a) .none)) Q E s
  exact wpAny_bind (nn_has hu hs ht ho hd hk fun t => wpAny_pure (h _ (I.tok _)))
end
/-! ## a dict beside an empty one -/
/-- a dict of n entries -/
def RawD (h : Heap) (a : Addr) (n : Nat) : Prop := (a == sysModules) = false ∧ ∃ (o : PySem.Obj) (es : Array DictEntry) (ep : Nat), h.get? a = some o ∧ o.cls = .type "dict" ∧ o.data = .dict es ep ∧ es.size = n
section
variable {prog : Program} {w : World} {A : Around} {E : Value → Shared → Prop} {s : Shared} {a b : Addr} {n : Nat}
theorem RawD.ty (h : RawD s.heap a n) : s.TypeIs (.ref a) "dict" := by obtain ⟨_, o, es, ep, h1, h2, _⟩ := h; exact ⟨o, h1, h2⟩
theorem ze_pairs {nm : String} {Q : Bool → Shared → Prop} (da : RawD s.heap a n) (db : RawD s.heap b 0) (q : Q (n == 0) s) : wpAny (model prog w) A (Builtin.Dict.samePairs nm a b) Q E s := by
  obtain ⟨na, oa, es, ep, h1, _, h3, h4⟩ := da
  obtain ⟨nb, ob, fs, fp, g1, _, g3, g4⟩ := db
  unfold Builtin.Dict.samePairs Builtin.Dict.showsAll
  rw [na, nb]
  simp only [Bool.false_eq_true, if_false]
  refine wpAny_bind (wpAny_pure (wpAny_bind (wpAny_pure (wpAny_bind (wpAny_dictEntries h1 h3 ?_)))))
  refine wpAny_bind (wpAny_dictEntries g1 g3 ?_)
  rw [h4, g4]
  by_cases hn : n = 0
  · subst hn
    rw [if_neg (by simp)]
    refine wpAny_bind (wpAny_dictEpoch h1 h3 (wpAny_bind ?_))
    rw [Std.Legacy.Range.forIn_eq_forIn_range']
    refine wpAny_forIn_list _ (fun rest r t => t = s ∧ r = (none, ()) ∧ rest = []) _ ?_ ?_ _ _ ⟨rfl, rfl, by simp [Std.Legacy.Range.size]⟩
    · rintro v rest r t ⟨_, _, z⟩
      cases z
    · rintro r t ⟨rfl, rfl, _⟩
      exact wpAny_pure q
  · rw [if_pos (by simpa using hn)]
    rw [show (n == 0) = false by simpa using hn] at q
    exact wpAny_bind (wpAny_rule (wpAny_pure q))
theorem ze_eq {Q : Value → Shared → Prop} (da : RawD s.heap a n) (db : RawD s.heap b 0) (hu : A.units < cLine) (q : Q (.bool (n == 0)) s) : wpAny (model prog w) A (compareOp .Eq (.ref a) (.ref b)) Q E s := by
  refine wpAny_richCompare_same_room (op := .Eq) da.ty db.ty PySem.F.slot_dict_eq (wpAny_call_entry PySem.F.slot_dict_eq da.ty PySem.F.entry_dict_eq ?_ (PySem.F.args_dict_eq_2 _ _)) hu
  refine wpAny_bind (m := Builtin.Dict.dictSlotArgs "__eq__" ⟨[.ref a, .ref b], []⟩) ?_
  refine wpAny_bind (wpAny_notOrdered_dict da.ty (wpAny_pure ?_))
  refine wpAny_bind (wpAny_isInstance (T := "dict") db.ty PySem.F.sub_dict_dict ?_)
  rw [if_neg (by simp)]
  refine wpAny_bind (wpAny_pure (wpAny_bind (wpAny_pure (wpAny_bind (ze_pairs da db ?_)))))
  exact wpAny_pure ⟨_, rfl, (fun z => nomatch z), by simpa using q⟩
theorem ze_ne {Q : Value → Shared → Prop} (da : RawD s.heap a n) (db : RawD s.heap b 0) (hu : A.units < cLine) (q : Q (.bool (!(n == 0))) s) : wpAny (model prog w) A (compareOp .NotEq (.ref a) (.ref b)) Q E s := by
  refine wpAny_richCompare_same_room (op := .NotEq) da.ty db.ty PySem.F.slot_dict_ne (wpAny_call_entry PySem.F.slot_dict_ne da.ty PySem.F.entry_dict_ne ?_ (PySem.F.args_dict_ne_2 _ _)) hu
  refine wpAny_bind (m := Builtin.Dict.dictSlotArgs "__ne__" ⟨[.ref a, .ref b], []⟩) ?_
  refine wpAny_bind (wpAny_notOrdered_dict da.ty (wpAny_pure ?_))
  refine wpAny_bind (wpAny_isInstance (T := "dict") db.ty PySem.F.sub_dict_dict ?_)
  rw [if_neg (by simp)]
  refine wpAny_bind (wpAny_pure (wpAny_bind (wpAny_pure (wpAny_bind (ze_pairs da db ?_)))))
  exact wpAny_pure ⟨_, rfl, (fun z => nomatch z), by simpa using q⟩
end
section
variable {X : Cx} {pins : List (Addr × PySem.Obj)} {σ : L2.St} {H : Hp} {s : Shared} {a : Addr}
theorem raw_K {kvs : List (L2.Key × V)} (I : L2.Inv X pins σ H s) (e : Rd H a (.dK kvs)) : RawD s.heap a kvs.length := by
  obtain ⟨_, hd, vs, rel, o, es, ep, h1, h2, h3, _, h5, _⟩ := dk_rd I.hok e
  exact ⟨hd, o, es, ep, h1, h2.1, h3, by rw [rel.length, ← h5.length, Array.length_toList]⟩
theorem raw_T {kvs : List (List L2.Key × V)} (I : L2.Inv X pins σ H s) (e : Rd H a (.dT kvs)) : RawD s.heap a kvs.length := by
  obtain ⟨_, hd, xs, rel, o, es, ep, h1, h2, h3, h4, _⟩ := dt_rd I.hok e
  exact ⟨hd, o, es, ep, h1, h2.1, h3, by rw [Paired.length rel, size_of_entries h4]⟩
end
end Nw

set_option Elab.async false
set_option linter.all false
set_option maxRecDepth 100000
namespace Nw
open PySem L2

/-! ## values and objects -/
inductive Val where
  | non
  | bl (b : Bool)
  | int (i : Int)
  | str (s : Str)
  | tup (xs : List Val)
  | obj (i : Nat)
  | fn (k : Nat) (caps : List Val)
  deriving Inhabited, Repr

/-- what the store holds; the flag: locked (read, never written) -/
inductive Obj where
  | lst (l : Bool) (xs : List Val)
  | dK (l : Bool) (kvs : List (Key × Val))
  | dT (l : Bool) (kvs : List (List Key × Val))
  | ins (c : Nat) (fs : List (Nat × Val))
  | exn (c : Nat) (fs : List (Nat × Val))
  deriving Inhabited

abbrev Store := List Obj
abbrev Env := List (Option Val)

structure Exn where
  c : Nat
  fs : List (Nat × Val)

inductive Res (α : Type) where
  | ok (a : α) (S : Store)
  | ex (e : Exn) (S : Store)
  | no

def Res.bind {α β : Type} (r : Res α) (f : α → Store → Res β) : Res β :=
  match r with
  | .ok a S => f a S
  | .ex e S => .ex e S
  | .no => .no
@[simp] theorem Res.bind_ok {α β : Type} (a : α) (S : Store) (f : α → Store → Res β) : (Res.ok a S).bind f = f a S := rfl
@[simp] theorem Res.bind_ex {α β : Type} (e : Exn) (S : Store) (f : α → Store → Res β) : (Res.ex e S : Res α).bind f = .ex e S := rfl
@[simp] theorem Res.bind_no {α β : Type} (f : α → Store → Res β) : (Res.no : Res α).bind f = .no := rfl
def Res.ofO {α : Type} (o : Option α) (S : Store) : Res α := match o with | some a => .ok a S | none => .no
@[simp] theorem Res.ofO_some {α : Type} (a : α) (S : Store) : Res.ofO (some a) S = .ok a S := rfl
@[simp] theorem Res.ofO_none {α : Type} (S : Store) : (Res.ofO none S : Res α) = .no := rfl

inductive Out where
  | nx (e : Env) (S : Store)
  | rt (v : Val) (S : Store)
  | bk (e : Env) (S : Store)
  | ct (e : Env) (S : Store)
  | ex (x : Exn) (e : Env) (S : Store)
  | no

/-! ## small things about the store -/
def sOk (s : Str) : Bool := s.cps.all (· < 0x110000)
def lst? (S : Store) (v : Val) : Option (List Val) := match v with
  | .obj i => match S[i]? with
    | some (.lst _ xs) => some xs
    | _ => none
  | _ => none
/-- the items of a list or a tuple -/
def seq? (S : Store) (v : Val) : Option (List Val) := match v with
  | .tup xs => some xs
  | .obj i => match S[i]? with
    | some (.lst _ xs) => some xs
    | _ => none
  | _ => none

def keyOf : Val → Option Key
  | .int i => some (.inl i)
  | .str s => some (.inr s)
  | _ => none
def keysOf : Val → Option (List Key)
  | .tup xs => xs.mapM keyOf
  | _ => none

def look {κ : Type} [DecidableEq κ] (kvs : List (κ × Val)) (k : κ) : Option Val := (kvs.find? fun kv => decide (kv.1 = k)).map (·.2)
def put {κ : Type} [DecidableEq κ] (kvs : List (κ × Val)) (k : κ) (v : Val) : List (κ × Val) :=
  if (kvs.any fun kv => decide (kv.1 = k)) = true then kvs.map (fun kv => if kv.1 = k then (kv.1, v) else kv) else kvs ++ [(k, v)]
def drop {κ : Type} [DecidableEq κ] (kvs : List (κ × Val)) (k : κ) : List (κ × Val) := kvs.filter fun kv => decide (kv.1 ≠ k)
def merge (kvs more : List (Key × Val)) : List (Key × Val) := more.foldl (fun acc kv => put acc kv.1 kv.2) kvs
def keyV : Key → Val
  | .inl i => .int i
  | .inr s => .str s

def fget (f : Nat) : List (Nat × Val) → Option Val
  | [] => none
  | (g, v) :: r => if g = f then some v else fget f r
def fput (f : Nat) (v : Val) : List (Nat × Val) → List (Nat × Val)
  | [] => [(f, v)]
  | (g, x) :: r => if g = f then (g, v) :: r else (g, x) :: fput f v r

def line : Nat := 16777216

/-- data read off: none, bools, ints, texts, lists, tuples; at most so deep -/
def dat : Nat → Store → Val → Option PyData
  | _, _, .non => some .none
  | _, _, .bl b => some (.bool b)
  | _, _, .int i => some (.int i)
  | _, _, .str s => some (.str s)
  | n + 1, S, .tup xs => (xs.mapM (dat n S)).map .tuple
  | n + 1, S, .obj i => match S[i]? with
    | some (.lst _ xs) => (xs.mapM (dat n S)).map .list
    | _ => none
  | _, _, _ => none
def eqD (S : Store) (v w : Val) : Option Bool := (dat 160 S v).bind fun d => (dat 160 S w).map fun e => PyData.eqv d e

def tru (S : Store) : Val → Option Bool
  | .non => some false
  | .bl b => some b
  | .int i => some (i != 0)
  | .str s => if s.length ≤ line then some ((s.length : Int) != 0) else none
  | .tup xs => some (!xs.isEmpty)
  | .obj i => match S[i]? with
    | some (.lst _ xs) => some (!xs.isEmpty)
    | some (.dK false kvs) => some (!kvs.isEmpty)
    | _ => none
  | .fn _ _ => none

/-! ## operators -/
inductive BinO where | add | sub | mul | fdiv | mod | pow
  deriving DecidableEq
inductive CmpO where | eq | ne | lt | le | gt | ge | mem | nmem | eqd | ned | eqz | nez
  deriving DecidableEq

def addV (S : Store) (x y : Val) : Res Val :=
  match x, y with
  | .int i, .int j => .ok (.int (i + j)) S
  | .str a, .str b => if a.length + b.length ≤ line then .ok (.str (a ++ b)) S else .no
  | .tup xs, .tup ys => if xs.length + ys.length ≤ line then .ok (.tup (xs ++ ys)) S else .no
  | .obj i, .obj j => match S[i]?, S[j]? with
    | some (.lst false xs), some (.lst false ys) => if xs.length + ys.length ≤ line then .ok (.obj S.length) (S ++ [.lst false (xs ++ ys)]) else .no
    | _, _ => .no
  | _, _ => .no
def subV (S : Store) (x y : Val) : Res Val :=
  match x, y with
  | .int i, .int j => .ok (.int (i - j)) S
  | _, _ => .no
/-- a text n times -/
def repS (a : Str) (n : Nat) : Str := ⟨((List.replicate n a.cps.toList).flatten).toArray⟩
def mulV (S : Store) (x y : Val) : Res Val :=
  match x, y with
  | .int i, .int j => if i.natAbs < 2 ^ 64 ∨ j.natAbs < 2 ^ 64 then .ok (.int (i * j)) S else .no
  | .obj i, .int k => match S[i]? with
    | some (.lst false xs) => if -(2 ^ 63) ≤ k ∧ k < 2 ^ 63 ∧ xs.length * k.toNat ≤ line then .ok (.obj S.length) (S ++ [.lst false (List.replicate k.toNat xs).flatten]) else .no
    | _ => .no
  | .tup xs, .int k => if 0 < xs.length ∧ xs.length ≤ 1000 ∧ -1000 ≤ k ∧ k ≤ 1000 then .ok (.tup (List.replicate k.toNat xs).flatten) S else .no
  | .str a, .int k => if a.length ≤ 1000 ∧ -1000 ≤ k ∧ k ≤ 1000 then .ok (.str (repS a k.toNat)) S else .no
  | _, _ => .no
def fdivV (S : Store) (x y : Val) : Res Val :=
  match x, y with
  | .int i, .int j => if 0 < j ∧ j < 1073741824 then .ok (.int (i / j)) S else .no
  | _, _ => .no
def modV (S : Store) (x y : Val) : Res Val :=
  match x, y with
  | .int i, .int j => if 0 < j then .ok (.int (i % j)) S else .no
  | _, _ => .no
def powV (S : Store) (x y : Val) : Res Val :=
  match x, y with
  | .int i, .int j => if 0 ≤ j ∧ j ≤ 1000000 ∧ i.natAbs < 2 ^ 64 then .ok (.int (i ^ j.toNat)) S else .no
  | _, _ => .no
def binV (o : BinO) (S : Store) (x y : Val) : Res Val :=
  match o with
  | .add => addV S x y
  | .sub => subV S x y
  | .mul => mulV S x y
  | .fdiv => fdivV S x y
  | .mod => modV S x y
  | .pow => powV S x y

/-- flat values; == of them -/
def flat : Val → Bool
  | .non => true
  | .bl _ => true
  | .int _ => true
  | .str _ => true
  | _ => false
def eqF : Val → Val → Bool
  | .non, .non => true
  | .bl a, .bl b => a == b
  | .bl a, .int b => (if a then 1 else 0) == b
  | .int a, .bl b => a == (if b then 1 else 0)
  | .int a, .int b => a == b
  | .str a, .str b => a == b
  | _, _ => false

/-- x in y -/
def memV (S : Store) (x y : Val) : Option Bool :=
  match y with
  | .str z => match x with
    | .str ⟨cs⟩ => match cs.toList with
      | [c] => some (decide (c ∈ z.cps.toList))
      | _ => none
    | _ => none
  | .tup ys => if flat x && ys.all flat then some (ys.any fun y => eqF y x)
    else (dat 64 S x).bind fun d => (ys.mapM (dat 63 S)).map fun ds => ds.any fun z => PyData.eqv z d
  | .obj i => match S[i]? with
    | some (.lst _ ys) => if flat x && ys.all flat then some (ys.any fun y => eqF y x)
        else (dat 64 S x).bind fun d => (ys.mapM (dat 63 S)).map fun ds => ds.any fun z => PyData.eqv z d
    | some (.dK _ kvs) => match x with
      | .non => some false
      | x => (keyOf x).map fun k => (look kvs k).isSome
    | some (.dT _ kvs) => match x with
      | .non => some false
      | x => (keysOf x).map fun k => (look kvs k).isSome
    | _ => none
  | _ => none

/-- dicts with keys of one thing, only where they are alike -/
def dEqD (S : Store) (x y : Val) : Option Bool :=
  match x, y with
  | .obj i, .obj j => match S[i]?, S[j]? with
    | some (.dK _ kvs), some (.dK _ kws) => if kvs.length = kws.length ∧ (kvs.all fun kv => match look kws kv.1 with | some w => eqD S kv.2 w == some true | none => false) = true then some true else none
    | _, _ => none
  | _, _ => none

/-- how many entries a dict has -/
def dLen (S : Store) : Val → Option Nat
  | .obj i => match S[i]? with
    | some (.dK _ kvs) => some kvs.length
    | some (.dT _ kvs) => some kvs.length
    | _ => none
  | _ => none
/-- a dict beside an empty one -/
def dEmp (S : Store) (x y : Val) : Option Bool := match dLen S x, dLen S y with
  | some n, some 0 => some (n == 0)
  | _, _ => none

def cmpV (o : CmpO) (S : Store) (x y : Val) : Option Bool :=
  match o with
  | .eqd => dEqD S x y
  | .ned => (dEqD S x y).map not
  | .eqz => dEmp S x y
  | .nez => (dEmp S x y).map not
  | .eq => eqD S x y
  | .ne => (eqD S x y).map not
  | .mem => memV S x y
  | .nmem => (memV S x y).map not
  | .lt => match x, y with | .int i, .int j => some (decide (i < j)) | _, _ => none
  | .le => match x, y with | .int i, .int j => some (decide (i ≤ j)) | _, _ => none
  | .gt => match x, y with | .int i, .int j => some (decide (j < i)) | _, _ => none
  | .ge => match x, y with | .int i, .int j => some (decide (j ≤ i)) | _, _ => none

/-- x[i] -/
def ixV (S : Store) (x i : Val) : Option Val :=
  match x, i with
  | .str z, .int i => if z.length ≤ line then (atI z.cps.toList i).map fun c => .str ⟨#[c]⟩ else none
  | .tup xs, .int i => atI xs i
  | .obj a, i => match S[a]? with
    | some (.lst _ xs) => match i with | .int i => atI xs i | _ => none
    | some (.dK _ kvs) => (keyOf i).bind fun k => look kvs k
    | some (.dT _ kvs) => (keysOf i).bind fun k => look kvs k
    | _ => none
  | _, _ => none

def cut {α : Type} (xs : List α) (lo hi : Option Int) : List α := (xs.drop (HT.sIx xs.length 0 lo)).take (HT.sIx xs.length xs.length hi - HT.sIx xs.length 0 lo)
def slV (S : Store) (x : Val) (lo hi : Option Int) : Res Val :=
  match x with
  | .str z => if z.length ≤ line then .ok (.str (cutS z lo hi)) S else .no
  | .tup xs => .ok (.tup (cut xs lo hi)) S
  | .obj i => match S[i]? with
    | some (.lst _ xs) => .ok (.obj S.length) (S ++ [.lst false (cut xs lo hi)])
    | _ => .no
  | _ => .no
def intOf : Val → Option Int
  | .int i => some i
  | _ => none

/-! ## builtins -/
inductive Ty where | int | bool | str | tuple | list | dict
  deriving DecidableEq
inductive Bi where | len | int_ | str_ | tuple_ | list_ | sorted_ | sum_ | all_ | min1 | min2 | max2 | sset | suml | isi (t : Ty)
  deriving DecidableEq
inductive Bm where | append | extend | pop0 | popL | popD | pop2 | get1 | get2 | setdefault | clear | reverse | index | count | remove | startswith | join | split | lower | isalpha
  deriving DecidableEq
/-- the kind of the object that a method of a built-in type is asked of -/
inductive Kd where | list | dict | str
  deriving DecidableEq
def kdOf (S : Store) : Val → Option Kd
  | .str _ => some .str
  | .obj i => match S[i]? with
    | some (.lst _ _) => some .list
    | some (.dK _ _) => some .dict
    | some (.dT _ _) => some .dict
    | _ => none
  | _ => none

def isiV (t : Ty) (S : Store) : Val → Option Bool
  | .non => some false
  | .bl _ => some (match t with | .int => true | .bool => true | _ => false)
  | .int _ => some (decide (t = .int))
  | .str _ => some (decide (t = .str))
  | .tup _ => some (decide (t = .tuple))
  | .obj i => match S[i]? with
    | some (.lst _ _) => some (decide (t = .list))
    | some (.dK false _) => some (decide (t = .dict))
    | some (.dT false _) => some (decide (t = .dict))
    | _ => none
  | .fn _ _ => none

def insI (i : Int) : List Int → List Int
  | [] => [i]
  | j :: r => if i ≤ j then i :: j :: r else j :: insI i r
def sortI (l : List Int) : List Int := l.foldr insI []
def leS (a b : Str) : Bool := !decide (b.cps.toList < a.cps.toList)
def insS (i : Str) : List Str → List Str
  | [] => [i]
  | j :: r => if leS i j then i :: j :: r else j :: insS i r
def sortS (l : List Str) : List Str := l.foldr insS []
def strOf : Val → Option Str
  | .str s => some s
  | _ => none
def boolOf : Val → Option Bool
  | .bl b => some b
  | _ => none
def minOf : List Int → Option Int
  | [] => none
  | i :: r => some (r.foldl min i)

def lenV (S : Store) (vs : List Val) : Res Val := match vs with
  | [.str s] => if s.length ≤ line then .ok (.int s.length) S else .no
  | [.tup xs] => .ok (.int xs.length) S
  | [.obj i] => match S[i]? with
    | some (.lst _ xs) => .ok (.int xs.length) S
    | some (.dK false kvs) => .ok (.int kvs.length) S
    | some (.dT false kvs) => .ok (.int kvs.length) S
    | _ => .no
  | _ => .no
def intV (S : Store) (vs : List Val) : Res Val := match vs with
  | [.int i] => .ok (.int i) S
  | [.bl b] => .ok (.int (if b then 1 else 0)) S
  | [.str s] => match intText? s with
    | some n => if s.length ≤ 640 then .ok (.int n) S else .no
    | none => .no
  | _ => .no
def strV (S : Store) (vs : List Val) : Res Val := match vs with
  | [.int i] => if i.natAbs.log2 < 1920 then .ok (.str (toString i)) S else .no
  | [.str s] => .ok (.str s) S
  | _ => .no
def tupV (S : Store) (vs : List Val) : Res Val := match vs with
  | [.tup xs] => .ok (.tup xs) S
  | [.obj i] => match S[i]? with
    | some (.lst _ xs) => .ok (.tup xs) S
    | _ => .no
  | _ => .no
def lstV (S : Store) (vs : List Val) : Res Val := match vs with
  | [.tup xs] => .ok (.obj S.length) (S ++ [.lst false xs])
  | [.obj i] => match S[i]? with
    | some (.lst _ xs) => .ok (.obj S.length) (S ++ [.lst false xs])
    | some (.dK _ kvs) => .ok (.obj S.length) (S ++ [.lst false (kvs.map fun kv => keyV kv.1)])
    | some (.dT _ kvs) => .ok (.obj S.length) (S ++ [.lst false (kvs.map fun kv => .tup (kv.1.map keyV))])
    | _ => .no
  | _ => .no
def intPOf : Val → Option (Int × Int)
  | .tup [.int a, .int b] => some (a, b)
  | _ => none
def pairV (p : Int × Int) : Val := .tup [.int p.1, .int p.2]
def leP (a b : Int × Int) : Bool := decide (a.1 < b.1 ∨ a.1 = b.1 ∧ a.2 ≤ b.2)
def insP (i : Int × Int) : List (Int × Int) → List (Int × Int)
  | [] => [i]
  | j :: r => if leP i j then i :: j :: r else j :: insP i r
def sortP (l : List (Int × Int)) : List (Int × Int) := l.foldr insP []
def pairK : List Key → Option (Int × Int)
  | [.inl a, .inl b] => some (a, b)
  | _ => none
def sortV (S : Store) (vs : List Val) : Res Val := match vs with
  | [.obj i] => match S[i]? with
    | some (.lst _ xs) => match xs.mapM intOf with
      | some ns => .ok (.obj S.length) (S ++ [.lst false ((sortI ns).map .int)])
      | none => match xs.mapM strOf with
        | some ss => if ss.length < 64 then .ok (.obj S.length) (S ++ [.lst false ((sortS ss).map .str)]) else .no
        | none => match xs.mapM intPOf with
          | some ps => .ok (.obj S.length) (S ++ [.lst false ((sortP ps).map pairV)])
          | none => .no
    | some (.dT _ kvs) => match kvs.mapM (fun kv => pairK kv.1) with
      | some ps => .ok (.obj S.length) (S ++ [.lst false ((sortP ps).map pairV)])
      | none => .no
    | _ => .no
  | _ => .no
def nubI : List Int → List Int
  | [] => []
  | i :: r => if i ∈ r then nubI r else i :: nubI r
theorem nubI_mem {j : Int} : ∀ {l : List Int}, j ∈ nubI l ↔ j ∈ l
  | [] => by simp [nubI]
  | i :: r => by
    unfold nubI
    split
    · rename_i h
      rw [nubI_mem, List.mem_cons]
      exact ⟨.inr, fun z => z.elim (fun e => e ▸ h) id⟩
    · rw [List.mem_cons, List.mem_cons, nubI_mem]
theorem nubI_nodup : ∀ {l : List Int}, (nubI l).Nodup
  | [] => List.nodup_nil
  | i :: r => by
    unfold nubI
    split
    · exact nubI_nodup
    · rename_i h
      exact List.nodup_cons.mpr ⟨fun z => h (nubI_mem.mp z), nubI_nodup⟩
def nubS : List Str → List Str
  | [] => []
  | i :: r => if i ∈ r then nubS r else i :: nubS r
theorem nubS_mem {j : Str} : ∀ {l : List Str}, j ∈ nubS l ↔ j ∈ l
  | [] => by simp [nubS]
  | i :: r => by
    unfold nubS
    split
    · rename_i h
      rw [nubS_mem, List.mem_cons]
      exact ⟨.inr, fun z => z.elim (fun e => e ▸ h) id⟩
    · rw [List.mem_cons, List.mem_cons, nubS_mem]
theorem nubS_nodup : ∀ {l : List Str}, (nubS l).Nodup
  | [] => List.nodup_nil
  | i :: r => by
    unfold nubS
    split
    · exact nubS_nodup
    · rename_i h
      exact List.nodup_cons.mpr ⟨fun z => h (nubS_mem.mp z), nubS_nodup⟩
/-- sorted(set(l)), l a list of ints, or of texts -/
def ssetV (S : Store) (vs : List Val) : Res Val := match vs with
  | [.obj i] => match S[i]? with
    | some (.lst _ xs) => match xs.mapM intOf with
      | some ns => if ns.length < 4000 ∧ (nubI ns).length < 64 then .ok (.obj S.length) (S ++ [.lst false ((sortI (nubI ns)).map .int)]) else .no
      | none => match xs.mapM strOf with
        | some ss => if ss.length < 4000 then .ok (.obj S.length) (S ++ [.lst false ((sortS (nubS ss)).map .str)]) else .no
        | none => .no
    | _ => .no
  | _ => .no
def sumV (S : Store) (vs : List Val) : Res Val := match vs with
  | [.obj i] => match S[i]? with
    | some (.lst _ xs) => match xs.mapM intOf with
      | some ns => .ok (.int ns.sum) S
      | none => .no
    | _ => .no
  | _ => .no
def allV (S : Store) (vs : List Val) : Res Val := match vs with
  | [.obj i] => match S[i]? with
    | some (.lst _ xs) => match xs.mapM boolOf with
      | some bs => .ok (.bl (bs.all id)) S
      | none => .no
    | _ => .no
  | _ => .no
def min1V (S : Store) (vs : List Val) : Res Val := match vs with
  | [.obj i] => match S[i]? with
    | some (.lst _ xs) => match (xs.mapM intOf).bind minOf with
      | some m => .ok (.int m) S
      | none => .no
    | _ => .no
  | _ => .no
def min2V (S : Store) (vs : List Val) : Res Val := match vs with
  | [.int i, .int j] => .ok (.int (if j < i then j else i)) S
  | _ => .no
def max2V (S : Store) (vs : List Val) : Res Val := match vs with
  | [.int i, .int j] => .ok (.int (if j > i then j else i)) S
  | _ => .no
def isi1V (t : Ty) (S : Store) (vs : List Val) : Res Val := match vs with
  | [v] => Res.ofO ((isiV t S v).map .bl) S
  | _ => .no
/-- sum(lists, []) -/
def sumlV (S : Store) (vs : List Val) : Res Val := match vs with
  | [.obj i, .obj j] => match S[i]?, S[j]? with
    | some (.lst _ xs), some (.lst false ys) => match xs.mapM (lst? S) with
      | some ls => if ys.length + ls.flatten.length ≤ line then (if xs.isEmpty then .ok (.obj j) S else .ok (.obj S.length) (S ++ [.lst false (ys ++ ls.flatten)])) else .no
      | none => .no
    | _, _ => .no
  | _ => .no
def biV (b : Bi) (S : Store) (vs : List Val) : Res Val :=
  match b with
  | .len => lenV S vs
  | .int_ => intV S vs
  | .str_ => strV S vs
  | .tuple_ => tupV S vs
  | .list_ => lstV S vs
  | .sorted_ => sortV S vs
  | .sum_ => sumV S vs
  | .all_ => allV S vs
  | .min1 => min1V S vs
  | .min2 => min2V S vs
  | .max2 => max2V S vs
  | .sset => ssetV S vs
  | .suml => sumlV S vs
  | .isi t => isi1V t S vs

def appV (S : Store) (x : Val) (vs : List Val) : Res Val := match x, vs with
  | .obj i, [v] => match S[i]? with
    | some (.lst false xs) => if xs.length < line then .ok .non (S.set i (.lst false (xs ++ [v]))) else .no
    | _ => .no
  | _, _ => .no
def extV (S : Store) (x : Val) (vs : List Val) : Res Val := match x, vs with
  | .obj i, [.obj j] => match S[i]?, S[j]? with
    | some (.lst false xs), some (.lst false ys) => if xs.length + ys.length ≤ line then .ok .non (S.set i (.lst false (xs ++ ys))) else .no
    | _, _ => .no
  | _, _ => .no
def pop0V (S : Store) (x : Val) (vs : List Val) : Res Val := match x, vs with
  | .obj i, [] => match S[i]? with
    | some (.lst false xs) => match xs[xs.length - 1]? with
      | some y => .ok y (S.set i (.lst false xs.dropLast))
      | none => .no
    | _ => .no
  | _, _ => .no
def popLV (S : Store) (x : Val) (vs : List Val) : Res Val := match x, vs with
  | .obj i, [.int k] => match S[i]? with
    | some (.lst false xs) => if 0 ≤ k ∧ k < 2 ^ 62 then (match xs[k.toNat]? with
      | some y => .ok y (S.set i (.lst false (xs.eraseIdx k.toNat)))
      | none => .no) else .no
    | _ => .no
  | _, _ => .no
def popDV (S : Store) (x : Val) (vs : List Val) : Res Val := match x, vs with
  | .obj i, [k] => match S[i]? with
    | some (.dK false kvs) => match keyOf k with
      | some k => match look kvs k with
        | some v => .ok v (S.set i (.dK false (drop kvs k)))
        | none => .no
      | none => .no
    | some (.dT false kvs) => match keysOf k with
      | some k => match look kvs k with
        | some v => .ok v (S.set i (.dT false (drop kvs k)))
        | none => .no
      | none => .no
    | _ => .no
  | _, _ => .no
def pop2V (S : Store) (x : Val) (vs : List Val) : Res Val := match x, vs with
  | .obj i, [k, d] => match S[i]? with
    | some (.dK false kvs) => match k with
      | .non => .ok d S
      | k => match keyOf k with
        | some k => match look kvs k with
          | some v => .ok v (S.set i (.dK false (drop kvs k)))
          | none => .ok d S
        | none => .no
    | _ => .no
  | _, _ => .no
def getV (S : Store) (x k d : Val) : Res Val := match x with
  | .obj i => match S[i]? with
    | some (.dK _ kvs) => Res.ofO ((keyOf k).map fun k => (look kvs k).getD d) S
    | some (.dT _ kvs) => Res.ofO ((keysOf k).map fun k => (look kvs k).getD d) S
    | _ => .no
  | _ => .no
def get1V (S : Store) (x : Val) (vs : List Val) : Res Val := match vs with
  | [k] => getV S x k .non
  | _ => .no
def get2V (S : Store) (x : Val) (vs : List Val) : Res Val := match vs with
  | [k, d] => getV S x k d
  | _ => .no
def sdefV (S : Store) (x : Val) (vs : List Val) : Res Val := match x, vs with
  | .obj i, [k, d] => match S[i]? with
    | some (.dK false kvs) => match keyOf k with
      | some k => if kvs.length < line then (match look kvs k with
        | some v => .ok v S
        | none => .ok d (S.set i (.dK false (put kvs k d)))) else .no
      | none => .no
    | _ => .no
  | _, _ => .no
def clearV (S : Store) (x : Val) (vs : List Val) : Res Val := match x, vs with
  | .obj i, [] => match S[i]? with
    | some (.lst false _) => .ok .non (S.set i (.lst false []))
    | _ => .no
  | _, _ => .no
def revV (S : Store) (x : Val) (vs : List Val) : Res Val := match x, vs with
  | .obj i, [] => match S[i]? with
    | some (.lst false xs) => .ok .non (S.set i (.lst false xs.reverse))
    | _ => .no
  | _, _ => .no
def indexV (S : Store) (x : Val) (vs : List Val) : Res Val := match x, vs with
  | .obj i, [v] => match S[i]? with
    | some (.lst _ xs) => if flat v && xs.all flat then (match xs.findIdx? fun x => eqF x v with
      | some j => .ok (.int j) S
      | none => .no) else .no
    | _ => .no
  | _, _ => .no
def removeV (S : Store) (x : Val) (vs : List Val) : Res Val := match x, vs with
  | .obj i, [.int k] => match S[i]? with
    | some (.lst false xs) => match xs.mapM intOf with
      | some ns => match ns.findIdx? fun n => n == k with
        | some j => .ok .non (S.set i (.lst false ((ns.eraseIdx j).map .int)))
        | none => .no
      | none => .no
    | _ => .no
  | _, _ => .no
def countV (S : Store) (x : Val) (vs : List Val) : Res Val := match x, vs with
  | .obj i, [.int k] => match S[i]? with
    | some (.lst _ xs) => match xs.mapM intOf with
      | some ns => .ok (.int (ns.count k)) S
      | none => .no
    | _ => .no
  | .obj i, [.bl b] => match S[i]? with
    | some (.lst _ xs) => match xs.mapM boolOf with
      | some bs => .ok (.int (bs.count b)) S
      | none => .no
    | _ => .no
  | .obj i, [.str b] => match S[i]? with
    | some (.lst _ xs) => match xs.mapM strOf with
      | some bs => .ok (.int (bs.count b)) S
      | none => .no
    | _ => .no
  | _, _ => .no
def startsV (S : Store) (x : Val) (vs : List Val) : Res Val := match x, vs with
  | .str a, [.str b] => .ok (.bl (Txt.startswith a b)) S
  | _, _ => .no
def joinV (S : Store) (x : Val) (vs : List Val) : Res Val := match x, vs with
  | .str a, [v] => match (seq? S v).bind fun xs => xs.mapM strOf with
    | some ys => if (ys.map (·.length)).sum + ys.length * a.length ≤ line ∧ sOk (Txt.join a ys) = true then .ok (.str (Txt.join a ys)) S else .no
    | none => .no
  | _, _ => .no
def splitV (S : Store) (x : Val) (vs : List Val) : Res Val := match x, vs with
  | .str a, [.str b] => if (b.length == 0) = false ∧ a.length + 2 ≤ line ∧ ((Txt.split a b).all sOk) = true then .ok (.obj S.length) (S ++ [.lst false ((Txt.split a b).map .str)]) else .no
  | _, _ => .no
def isalphaV (S : Store) (x : Val) (vs : List Val) : Res Val := match x, vs with
  | .str a, [] => .ok (.bl (Txt.isalpha a)) S
  | _, _ => .no
def lowerV (S : Store) (x : Val) (vs : List Val) : Res Val := match x, vs with
  | .str a, [] => if a.length ≤ 5592405 ∧ sOk (Txt.lower a) = true then .ok (.str (Txt.lower a)) S else .no
  | _, _ => .no
def bmV0 (m : Bm) (S : Store) (x : Val) (vs : List Val) : Res Val :=
  match m with
  | .append => appV S x vs
  | .extend => extV S x vs
  | .pop0 => pop0V S x vs
  | .popL => popLV S x vs
  | .popD => popDV S x vs
  | .pop2 => pop2V S x vs
  | .get1 => get1V S x vs
  | .get2 => get2V S x vs
  | .setdefault => sdefV S x vs
  | .clear => clearV S x vs
  | .reverse => revV S x vs
  | .index => indexV S x vs
  | .count => countV S x vs
  | .remove => removeV S x vs
  | .startswith => startsV S x vs
  | .join => joinV S x vs
  | .split => splitV S x vs
  | .lower => lowerV S x vs
  | .isalpha => isalphaV S x vs

/-- the kind that a method wants -/
def bmK : Bm → Kd → Bool
  | .popL, .list => true
  | .popD, .dict => true
  | .pop2, .dict => true
  | .get1, .dict => true
  | .get2, .dict => true
  | .setdefault, .dict => true
  | .startswith, .str => true
  | .join, .str => true
  | .split, .str => true
  | .lower, .str => true
  | .isalpha, .str => true
  | .append, .list => true
  | .extend, .list => true
  | .pop0, .list => true
  | .clear, .list => true
  | .reverse, .list => true
  | .index, .list => true
  | .count, .list => true
  | .remove, .list => true
  | _, _ => false
def bmGo (m : Bm) (S : Store) (x : Val) : Option Kd := (kdOf S x).bind fun k => if bmK m k then some k else none
/-- .. the object still of the kind that it was ahead of the arguments -/
def bmV (m : Bm) (k : Kd) (S : Store) (x : Val) (vs : List Val) : Res Val := if kdOf S x = some k then bmV0 m S x vs else .no

/-! ## what is walked -/
inductive Walk where
  | lst (i : Nat)
  | enm (i : Nat)
  | zp (i j : Nat)
  | zt (xs : List Val) (j : Nat)
  | rv (i n : Nat)
  | its (i : Nat)
  | ks (i : Nat)
  | sq (xs : List Val)
def walkAt (S : Store) (w : Walk) (k : Nat) : Option (Option Val) :=
  match w with
  | .sq xs => some xs[k]?
  | .lst i => (lst? S (.obj i)).map fun xs => xs[k]?
  | .enm i => (lst? S (.obj i)).map fun xs => xs[k]?.map fun x => .tup [.int k, x]
  | .zp i j => (lst? S (.obj i)).bind fun xs => (lst? S (.obj j)).map fun ys => xs[k]?.bind fun x => ys[k]?.map fun y => .tup [x, y]
  | .zt xs j => (lst? S (.obj j)).bind fun ys => if decide (k ≤ xs.length) && decide (k ≤ ys.length) then some (xs[k]?.bind fun x => ys[k]?.map fun y => .tup [x, y]) else none
  | .rv i n => (lst? S (.obj i)).bind fun xs => if k < n then xs[n - 1 - k]?.map some else some none
  | .its i => match S[i]? with
    | some (.dK true kvs) => some (kvs[k]?.map fun kv => .tup [keyV kv.1, kv.2])
    | _ => none
  | .ks i => match S[i]? with
    | some (.dK true kvs) => some (kvs[k]?.map fun kv => keyV kv.1)
    | some (.dT true kvs) => some (kvs[k]?.map fun kv => .tup (kv.1.map keyV))
    | _ => none
inductive ItK where | val | range | enm | zp | rv | items | keys | rvr
  deriving DecidableEq
def rangeL (lo : Int) (n : Nat) : List Val := (List.range n).map fun (k : Nat) => Val.int (lo + (k : Int))
def stepL (lo c : Int) (n : Nat) : List Val := (List.range n).map fun (k : Nat) => Val.int (lo + (k : Int) * c)
def small (i : Int) : Bool := decide (-(2 ^ 62) ≤ i ∧ i < 2 ^ 62)
/-- the walk and a bound of its turns -/
def wkVal (S : Store) (vs : List Val) : Option (Walk × Nat) := match vs with
  | [.tup xs] => some (.sq xs, xs.length)
  | [.str z] => if z.length ≤ line then some (.sq (z.cps.toList.map fun c => .str ⟨#[c]⟩), z.length) else none
  | [.obj i] => (lst? S (.obj i)).map fun xs => (.lst i, xs.length)
  | _ => none
def wkRange (vs : List Val) : Option (Walk × Nat) := match vs with
  | [.int j] => if small j then some (.sq (rangeL 0 j.toNat), j.toNat) else none
  | [.int i, .int j] => if small i && small j then some (.sq (rangeL i (j - i).toNat), (j - i).toNat) else none
  | [.int i, .int j, .int c] => if decide (c ≠ 0) && decide (c.natAbs < 1073741824) && Builtin.Range.small i j c then some (.sq (stepL i c (Builtin.Range.rangeSize i j c).toNat), (Builtin.Range.rangeSize i j c).toNat) else none
  | _ => none
def enumL (xs : List Val) : List Val := xs.mapIdx fun k x => .tup [.int (k : Int), x]
def wkEnm (S : Store) (vs : List Val) : Option (Walk × Nat) := match vs with
  | [.obj i] => (lst? S (.obj i)).map fun xs => (.enm i, xs.length)
  | [.tup xs] => some (.sq (enumL xs), xs.length)
  | _ => none
def zipT (xs ys : List Val) : List Val := (xs.zip ys).map fun p => .tup [p.1, p.2]
def wkZp (S : Store) (vs : List Val) : Option (Walk × Nat) := match vs with
  | [.tup xs, .tup ys] => some (.sq (zipT xs ys), min xs.length ys.length)
  | [.tup xs, .obj j] => (lst? S (.obj j)).map fun ys => (.zt xs j, min xs.length ys.length)
  | [.obj i, .obj j] => (lst? S (.obj i)).bind fun xs => (lst? S (.obj j)).map fun ys => (.zp i j, min xs.length ys.length)
  | _ => none
def wkRv (S : Store) (vs : List Val) : Option (Walk × Nat) := match vs with
  | [.obj i] => (lst? S (.obj i)).map fun xs => (.rv i xs.length, xs.length)
  | _ => none
def wkRvr (vs : List Val) : Option (Walk × Nat) := match vs with
  | [.int j] => if small j then some (.sq (rangeL 0 j.toNat).reverse, j.toNat) else none
  | _ => none
def wkIts (S : Store) (vs : List Val) : Option (Walk × Nat) := match vs with
  | [.obj i] => match S[i]? with
    | some (.dK true kvs) => some (.its i, kvs.length)
    | _ => none
  | _ => none
def wkKs (S : Store) (vs : List Val) : Option (Walk × Nat) := match vs with
  | [.obj i] => match S[i]? with
    | some (.dK true kvs) => some (.ks i, kvs.length)
    | some (.dT true kvs) => some (.ks i, kvs.length)
    | _ => none
  | _ => none
def mkWalk (k : ItK) (S : Store) (vs : List Val) : Option (Walk × Nat) :=
  match k with
  | .val => wkVal S vs
  | .range => wkRange vs
  | .enm => wkEnm S vs
  | .zp => wkZp S vs
  | .rv => wkRv S vs
  | .rvr => wkRvr vs
  | .items => wkIts S vs
  | .keys => wkKs S vs

/-! ## the small syntax -/
/-- a step on the way to a dict: a field, a key -/
inductive Pt where
  | f (n : Nat)
  | k (s : Str)
  | v (j : Nat)
  deriving Inhabited
inductive PyE where
  | c (v : Val)
  | var (i : Nat)
  | bin (o : BinO) (a b : PyE)
  | neg (a : PyE)
  | cmp (o : CmpO) (a b : PyE)
  | inK (neg : Bool) (a : PyE) (ks : List Str)
  | isN (neg : Bool) (a : PyE)
  | isB (neg : Bool) (a b : PyE)
  | chain (o o' : CmpO) (a b c : PyE)
  | and (a b : PyE)
  | or (a b : PyE)
  | not (a : PyE)
  | ite (t a b : PyE)
  | nil
  | cons (a b : PyE)
  | tup (a : PyE)
  | lst (a : PyE)
  | dnewK
  | dnewT
  | disp (a : PyE)
  | dispL (a : PyE)
  | lstR (b : Bool) (s0 : Str) (pf p1 o : PyE) (y z : Str) (q : PyE)
  | idx (a b : PyE)
  | sl (a : PyE) (hl : Bool) (lo : PyE) (hh : Bool) (hi : PyE)
  | fld (a : PyE) (f : Nat)
  | call (f : Nat) (a : PyE) (ds : List Val)
  | new (k f : Nat) (a : PyE) (ds : List Val)
  | meth (a : PyE) (m n : Nat) (as : PyE)
  | bi (b : Bi) (a : PyE)
  | bm (m : Bm) (a as : PyE)
  | comp (elt : PyE) (tp : Bool) (is : List Nat) (k : ItK) (as : PyE) (cond : PyE)
  | lock (i : Nat) (fs : List Pt) (a : PyE)
  | isC (j : Nat) (a : PyE)
  | revL (a : PyE)
  | isX (j : Nat) (a : PyE)
  | isXT (js : List Nat) (a : PyE)
  | xfld (a : PyE) (f : Nat)
  | callH (f : Nat) (a : PyE)
  | sortK (a : PyE) (i : Nat)
  deriving Inhabited

inductive PyS where
  | skip
  | seq (a b : PyS)
  | expr (e : PyE)
  | asg (i : Nat) (e : PyE)
  | asgT (is : List Nat) (e : PyE)
  | asgL (is : List Nat) (e : PyE)
  | setI (o i e : PyE)
  | setF (o : PyE) (f : Nat) (e : PyE)
  | augV (i : Nat) (o : BinO) (e : PyE)
  | augF (a : PyE) (f : Nat) (o : BinO) (e : PyE)
  | ite (c : PyE) (a b : PyS)
  | ret (e : PyE)
  | for_ (tp : Bool) (is : List Nat) (k : ItK) (as : PyE) (b : PyS)
  | whl (c : PyE) (b : PyS)
  | brk
  | cnt
  | raise (k : Nat) (a : PyE)
  | try1 (b : PyS) (k : Nat) (h : PyS)
  | lockS (i : Nat) (fs : List Pt) (b : PyS)
  | raiseF (k : Nat) (a : PyE)
  | tryA (b h : PyS)
  | hnd (k : Nat) (s : Option Nat) (h r : PyS)
  | never
  deriving Inhabited

/-- what is known of the text: methods of classes, their makers, which fields a class may have -/
structure Tab where
  mt : Nat → Nat → Option (Nat × List Val)   -- class, method's name: the def, its defaults
  isF : Nat → Nat → Bool
  catches : Nat → Nat → Option Bool           -- 'except k' takes an exception of class c (none: not known)
  isI : Nat → Nat → Option Bool               -- isinstance(x, j), x of class c
  isX : Nat → Nat → Option Bool               -- isinstance(e, j), e an exception of class c
  xf : Nat → Option (List Nat)                -- what an exception class's maker notes, in order

def setAll (env : Env) : List Nat → Env
  | [] => env
  | i :: r => (setAll env r).set i none
def tgt (tp : Bool) (is : List Nat) (v : Val) (env : Env) : Option Env :=
  if tp then match v with
    | .tup xs => if xs.length = is.length then some ((is.zip xs).foldl (fun e p => e.set p.1 (some p.2)) env) else none
    | _ => none
  else match is with
    | [i] => some (env.set i (some v))
    | _ => none

abbrev Fns := Nat → List Val → Store → Res Val

def optI (v : Val) (S : Store) : Res (Option Int) := match v with
  | .int i => .ok (some i) S
  | _ => .no
/-- what follows of a value's truth -/
def ifV {α : Type} (x : Val) (S : Store) (t f : Res α) : Res α := match tru S x with
  | some true => t
  | some false => f
  | none => .no
def negV (x : Val) (S : Store) : Res Val := match x with | .int i => .ok (.int (-i)) S | _ => .no
def xorB (n b : Bool) : Bool := if n then !b else b
def isNon : Val → Bool
  | .non => true
  | _ => false
def isBV (n : Bool) (x y : Val) (S : Store) : Res Val := match x, y with
  | .bl p, .bl q => .ok (.bl (xorB n (decide (p = q)))) S
  | _, _ => .no
def fldV (G : Tab) (f : Nat) (x : Val) (S : Store) : Res Val := match x with
  | .obj i => match S[i]? with
    | some (.ins c fs) => if G.isF c f then Res.ofO (fget f fs) S else .no
    | _ => .no
  | _ => .no
/-- the method m of x: the def, the defaults -/
def methV (G : Tab) (m : Nat) (x : Val) (S : Store) : Option (Nat × List Val) := match x with
  | .obj i => match S[i]? with
    | some (.ins c fs) => match fget m fs with
      | none => G.mt c m
      | some _ => none
    | _ => none
  | _ => none
def newV (x : Val) (r : Val) (S : Store) : Res Val := match r with
  | .non => .ok x S
  | _ => .no
def ifS (x : Val) (S : Store) (t f : Out) : Out := match tru S x with
  | some true => t
  | some false => f
  | none => .no

/-- a comprehension's turns: n a bound, k the turn, d the list that is made -/
def compW (turn : Val → Store → Res (Option Val)) (w : Walk) (d : Nat) : Nat → Nat → Store → Res Val
  | 0, _, _ => .no
  | n + 1, k, S => match walkAt S w k with
    | none => .no
    | some none => .ok (.obj d) S
    | some (some x) => match turn x S with
      | .ok none S1 => compW turn w d n (k + 1) S1
      | .ok (some y) S1 => match S1[d]? with
        | some (.lst false acc) => if acc.length < line then compW turn w d n (k + 1) (S1.set d (.lst false (acc ++ [y]))) else .no
        | _ => .no
      | _ => .no

/-- a dict display's end -/
def dispV (d : Nat) (acc : List (Key × Val)) (S : Store) : Res Val := match S[d]? with
  | some (.dK false []) => if acc.length ≤ 15 then .ok (.obj d) (S.set d (.dK false (merge [] acc))) else .no
  | _ => .no
/-- a long display: texts and whole numbers by turns with values -/
def pairUp : List Val → Option (List (Key × Val))
  | [] => some []
  | k :: v :: r => match keyOf k, pairUp r with
    | some k, some l => some ((k, v) :: l)
    | _, _ => none
  | _ => none
def dispLV (xs : List Val) (S : Store) : Res Val := match pairUp xs with
  | some kvs => if 17 < kvs.length ∧ kvs.length ≤ 32 then .ok (.obj S.length) (S ++ [.dK false (merge (merge [] (kvs.take 17)) (merge [] (kvs.drop 17)))]) else .no
  | none => .no
/-- text.replace of written texts -/
def repV (S : Store) (x : Val) (y z : Str) : Res Val := match x with
  | .str x => if x.length + (x.length + 1) * z.length ≤ 16777216 ∧ sOk (Txt.replace x y z) = true then .ok (.str (Txt.replace x y z)) S else .no
  | _ => .no
def lstRV (ys : List Val) (S : Store) : Res Val := if ys.length ≤ line then .ok (.obj S.length) (S ++ [.lst false ys]) else .no
def compT (tp : Bool) (is : List Nat) (env : Env) (c e : Env → Store → Res Val) (x : Val) (S : Store) : Res (Option Val) :=
  match tgt tp is x (setAll env is) with
  | none => .no
  | some env' => (c env' S).bind fun t S1 => ifV t S1 ((e env' S1).bind fun y S2 => .ok (some y) S2) (.ok none S1)
def compV (tp : Bool) (is : List Nat) (k : ItK) (env : Env) (c e : Env → Store → Res Val) (vs : List Val) (S : Store) : Res Val :=
  match mkWalk k S vs with
  | none => .no
  | some (w, n) => compW (compT tp is env c e) w S.length (n + 1) 0 (S ++ [.lst false []])
def chainV (o : CmpO) (x y : Val) (S : Store) (t : Res Val) : Res Val := match cmpV o S x y with
  | some true => t
  | some false => .ok (.bl false) S
  | none => .no

/-- the dict that is locked: a name's, or a field of it -/
def lkFs (G : Tab) (env : Env) (S : Store) : List Pt → Val → Option Nat
  | [], .obj a => some a
  | .v j :: fs, .obj a => match env[j]?.getD none with
    | none => none
    | some w => match S[a]? with
      | some (.dT _ kvs) => (keysOf w).bind fun k => (look kvs k).bind (lkFs G env S fs)
      | some (.dK _ kvs) => (keyOf w).bind fun k => (look kvs k).bind (lkFs G env S fs)
      | _ => none
  | .k s :: fs, .obj a => match S[a]? with
    | some (.dK _ kvs) => (look kvs (.inr s)).bind (lkFs G env S fs)
    | _ => none
  | .f f :: fs, .obj a => match S[a]? with
    | some (.ins c gs) => if G.isF c f then (fget f gs).bind (lkFs G env S fs) else none
    | _ => none
  | _, _ => none
def lkOf (G : Tab) (env : Env) (S : Store) (i : Nat) (fs : List Pt) : Option (Nat × Obj) :=
  ((env[i]?.getD none).bind (lkFs G env S fs)).bind fun d => match S[d]? with
    | some (.dK false kvs) => some (d, .dK true kvs)
    | some (.dT false kvs) => some (d, .dT true kvs)
    | _ => none
def unlk (d : Nat) (S : Store) : Option Store := match S[d]? with
  | some (.dK true kvs) => some (S.set d (.dK false kvs))
  | some (.dT true kvs) => some (S.set d (.dT false kvs))
  | _ => none
def lockV (d : Nat) (r : Res Val) : Res Val := match r with
  | .ok v S => match unlk d S with
    | some S' => .ok v S'
    | none => .no
  | _ => .no
def lockO (d : Nat) (o : Out) : Out := match o with
  | .nx e S => match unlk d S with
    | some S' => .nx e S'
    | none => .no
  | .rt v S => match unlk d S with
    | some S' => .rt v S'
    | none => .no
  | _ => .no

/-- xs[::-1] -/
def rvlV (S : Store) (x : Val) : Res Val := match x with
  | .tup xs => .ok (.tup xs.reverse) S
  | .obj i => match S[i]? with
    | some (.lst _ xs) => .ok (.obj S.length) (S ++ [.lst false xs.reverse])
    | _ => .no
  | _ => .no
/-- isinstance(x, C), C a class of the text, x an instance -/
def isCV (G : Tab) (j : Nat) (S : Store) : Val → Option Bool
  | .obj i => match S[i]? with
    | some (.ins c _) => G.isI j c
    | _ => none
  | _ => none
/-- isinstance(e, C), e an exception that is handled -/
def isXV (G : Tab) (j : Nat) (S : Store) : Val → Option Bool
  | .obj i => match S[i]? with
    | some (.exn c _) => G.isX j c
    | _ => none
  | _ => none
/-- isinstance(e, (C, ..)), one class after the other -/
def isXTL (G : Tab) (c : Nat) : List Nat → Option Bool
  | [] => some false
  | j :: r => match G.isX j c with
    | some true => some true
    | some false => isXTL G c r
    | none => none
def isXTV (G : Tab) (js : List Nat) (S : Store) : Val → Option Bool
  | .obj i => match S[i]? with
    | some (.exn c _) => isXTL G c js
    | _ => none
  | _ => none
/-- e.f, e an exception that is handled -/
def xfldV (G : Tab) (f : Nat) (x : Val) (S : Store) : Res Val := match x with
  | .obj i => match S[i]? with
    | some (.exn c fs) => if ((G.xf c).getD []).contains f then Res.ofO (fget f fs) S else .no
    | _ => .no
  | _ => .no
/-- sorted by a key, as it stands where the keys are alike -/
def insK {α : Type} (p : Int × α) : List (Int × α) → List (Int × α)
  | [] => [p]
  | q :: r => if p.1 ≤ q.1 then p :: q :: r else q :: insK p r
def sortK {α : Type} (l : List (Int × α)) : List (Int × α) := l.foldr insK []
def keyAt (i : Nat) : Val → Option Int
  | .tup xs => match xs[i]? with
    | some (.int n) => some n
    | _ => none
  | _ => none
/-- sorted(v, key=lambda x: x[i]) -/
def sortKV (i : Nat) (v : Val) (S : Store) : Res Val := match v with
  | .obj j => match S[j]? with
    | some (.lst _ xs) => match xs.mapM (keyAt i) with
      | some ks => .ok (.obj S.length) (S ++ [.lst false ((sortK (ks.zip xs)).map (·.2))])
      | none => .no
    | _ => .no
  | _ => .no
mutual
def ev (G : Tab) (ft : Fns) : PyE → Env → Store → Res Val
  | .c v, _, S => .ok v S
  | .var i, env, S => Res.ofO (env[i]?.getD none) S
  | .bin o a b, env, S => (ev G ft a env S).bind fun x S1 => (ev G ft b env S1).bind fun y S2 => binV o S2 x y
  | .neg a, env, S => (ev G ft a env S).bind fun x S1 => negV x S1
  | .cmp o a b, env, S => (ev G ft a env S).bind fun x S1 => (ev G ft b env S1).bind fun y S2 => Res.ofO ((cmpV o S2 x y).map .bl) S2
  | .inK n a ks, env, S => (ev G ft a env S).bind fun x S1 => if flat x then .ok (.bl (xorB n (ks.any fun k => eqF (.str k) x))) S1 else .no
  | .isN n a, env, S => (ev G ft a env S).bind fun x S1 => .ok (.bl (xorB n (isNon x))) S1
  | .revL a, env, S => (ev G ft a env S).bind fun x S1 => rvlV S1 x
  | .isC j a, env, S => (ev G ft a env S).bind fun x S1 => Res.ofO ((isCV G j S1 x).map .bl) S1
  | .isX j a, env, S => (ev G ft a env S).bind fun x S1 => Res.ofO ((isXV G j S1 x).map .bl) S1
  | .isXT js a, env, S => (ev G ft a env S).bind fun x S1 => Res.ofO ((isXTV G js S1 x).map .bl) S1
  | .xfld a f, env, S => (ev G ft a env S).bind fun x S1 => xfldV G f x S1
  | .callH f a, env, S => (evA G ft a env S).bind fun vs S1 => ft f vs S1
  | .sortK a i, env, S => (ev G ft a env S).bind fun v S1 => sortKV i v S1
  | .isB n a b, env, S => (ev G ft a env S).bind fun x S1 => (ev G ft b env S1).bind fun y S2 => isBV n x y S2
  | .chain o o' a b c, env, S => (ev G ft a env S).bind fun x S1 => (ev G ft b env S1).bind fun y S2 => chainV o x y S2 ((ev G ft c env S2).bind fun z S3 => Res.ofO ((cmpV o' S3 y z).map .bl) S3)
  | .and a b, env, S => (ev G ft a env S).bind fun x S1 => ifV x S1 (ev G ft b env S1) (.ok x S1)
  | .or a b, env, S => (ev G ft a env S).bind fun x S1 => ifV x S1 (.ok x S1) (ev G ft b env S1)
  | .not a, env, S => (ev G ft a env S).bind fun x S1 => ifV x S1 (.ok (.bl false) S1) (.ok (.bl true) S1)
  | .ite t a b, env, S => (ev G ft t env S).bind fun x S1 => ifV x S1 (ev G ft a env S1) (ev G ft b env S1)
  | .nil, _, _ => .no
  | .cons _ _, _, _ => .no
  | .tup a, env, S => (evA G ft a env S).bind fun xs S1 => if xs.length ≤ line then .ok (.tup xs) S1 else .no
  | .lst a, env, S => (evA G ft a env S).bind fun xs S1 => if xs.length ≤ line then .ok (.obj S1.length) (S1 ++ [.lst false xs]) else .no
  | .dnewK, _, S => .ok (.obj S.length) (S ++ [.dK false []])
  | .dnewT, _, S => .ok (.obj S.length) (S ++ [.dT false []])
  | .disp a, env, S => evP G ft a env S.length [] (S ++ [.dK false []])
  | .dispL a, env, S => (evA G ft a env S).bind fun xs S1 => dispLV xs S1
  | .lstR b s0 pf p1 o y z q, env, S => (if b then (ev G ft pf env S).bind fun v S1 => binV .add S1 (.str s0) v else .ok (.str s0) S).bind fun a S1 => (ev G ft p1 env S1).bind fun c S2 => (ev G ft o env S2).bind fun x S3 => (repV S3 x y z).bind fun r S4 => (evA G ft q env S4).bind fun xs S5 => lstRV (a :: c :: r :: xs) S5
  | .idx a b, env, S => (ev G ft a env S).bind fun x S1 => (ev G ft b env S1).bind fun y S2 => Res.ofO (ixV S2 x y) S2
  | .sl a hl lo hh hi, env, S => (ev G ft a env S).bind fun x S1 => (if hl then (ev G ft lo env S1).bind optI else .ok none S1).bind fun l S2 => (if hh then (ev G ft hi env S2).bind optI else .ok none S2).bind fun h S3 => slV S3 x l h
  | .fld a f, env, S => (ev G ft a env S).bind fun x S1 => fldV G f x S1
  | .call f a ds, env, S => (evA G ft a env S).bind fun vs S1 => ft f (vs ++ ds) S1
  | .new k f a ds, env, S => (evA G ft a env S).bind fun vs S1 => (ft f (.obj S1.length :: (vs ++ ds)) (S1 ++ [.ins k []])).bind fun r S2 => newV (.obj S1.length) r S2
  | .meth a m n as, env, S => (ev G ft a env S).bind fun x S1 => match methV G m x S1 with
    | some (f, ds) => (evA G ft as env S1).bind fun vs S2 => ft f (x :: (vs ++ ds.drop n)) S2
    | none => .no
  | .bi b a, env, S => (evA G ft a env S).bind fun vs S1 => biV b S1 vs
  | .bm m a as, env, S => (ev G ft a env S).bind fun x S1 => match bmGo m S1 x with
    | some k => (evA G ft as env S1).bind fun vs S2 => bmV m k S2 x vs
    | none => .no
  | .comp elt tp is k as cond, env, S => (evA G ft as env S).bind fun vs S1 => compV tp is k env (ev G ft cond) (ev G ft elt) vs S1
  | .lock i fs a, env, S => match lkOf G env S i fs with
    | some (d, o) => lockV d (ev G ft a env (S.set d o))
    | none => .no
def evA (G : Tab) (ft : Fns) : PyE → Env → Store → Res (List Val)
  | .nil, _, S => .ok [] S
  | .cons a b, env, S => (ev G ft a env S).bind fun x S1 => (evA G ft b env S1).bind fun xs S2 => .ok (x :: xs) S2
  | _, _, _ => .no
/-- a dict display's pairs; d the dict -/
def evP (G : Tab) (ft : Fns) : PyE → Env → Nat → List (Key × Val) → Store → Res Val
  | .nil, _, d, acc, S => dispV d acc S
  | .cons a b, env, d, acc, S => (ev G ft a env S).bind fun k S1 => match keyOf k with
    | none => .no
    | some k => evQ G ft b env d acc k S1
  | _, _, _, _, _ => .no
def evQ (G : Tab) (ft : Fns) : PyE → Env → Nat → List (Key × Val) → Key → Store → Res Val
  | .cons a b, env, d, acc, k, S => (ev G ft a env S).bind fun v S1 => evP G ft b env d (acc ++ [(k, v)]) S1
  | _, _, _, _, _, _ => .no
end

def Res.out {α : Type} (r : Res α) (env : Env) (f : α → Store → Out) : Out := match r with
  | .ok a S => f a S
  | .ex x S => .ex x env S
  | .no => .no
@[simp] theorem Res.out_ok {α : Type} (a : α) (S : Store) (env : Env) (f : α → Store → Out) : (Res.ok a S).out env f = f a S := rfl
@[simp] theorem Res.out_ex {α : Type} (e : Exn) (S : Store) (env : Env) (f : α → Store → Out) : (Res.ex e S : Res α).out env f = .ex e env S := rfl
@[simp] theorem Res.out_no {α : Type} (env : Env) (f : α → Store → Out) : (Res.no : Res α).out env f = .no := rfl

/-- a for's turns -/
def forW (body : Env → Store → Out) (tp : Bool) (is : List Nat) (w : Walk) : Nat → Nat → Env → Store → Out
  | 0, _, _, _ => .no
  | n + 1, k, env, S => match walkAt S w k with
    | none => .no
    | some none => .nx env S
    | some (some x) => match tgt tp is x env with
      | none => .no
      | some e => match body e S with
        | .nx e' S' => forW body tp is w n (k + 1) e' S'
        | .ct e' S' => forW body tp is w n (k + 1) e' S'
        | .bk e' S' => .nx e' S'
        | o => o
/-- a while's turns -/
def whlW (c : Env → Store → Res Val) (body : Env → Store → Out) : Nat → Env → Store → Out
  | 0, _, _ => .no
  | n + 1, env, S => (c env S).out env fun v S1 => ifS v S1 (match body env S1 with
        | .nx e' S' => whlW c body n e' S'
        | .ct e' S' => whlW c body n e' S'
        | .bk e' S' => .nx e' S'
        | o => o) (.nx env S1)
def whileBound : Nat := 100000

def setIV (S : Store) (o i v : Val) : Option Store := match o with
  | .obj a => match S[a]?, i with
    | some (.lst false xs), .int i => (ixN xs.length i).map fun j => S.set a (.lst false (xs.set j v))
    | some (.dK false kvs), i => (keyOf i).bind fun k => if kvs.length < line then some (S.set a (.dK false (put kvs k v))) else none
    | some (.dT false kvs), i => (keysOf i).bind fun k => if kvs.length < line then some (S.set a (.dT false (put kvs k v))) else none
    | _, _ => none
  | _ => none
/-- x += y -/
def iaddV (S : Store) (x y : Val) : Res Val :=
  match x, y with
  | .int i, .int j => .ok (.int (i + j)) S
  | .str a, .str b => if a.length + b.length ≤ line then .ok (.str (a ++ b)) S else .no
  | .tup xs, .tup ys => if xs.length + ys.length ≤ line then .ok (.tup (xs ++ ys)) S else .no
  | .obj i, .obj j => match S[i]?, S[j]? with
    | some (.lst false xs), some (.lst false ys) => if xs.length + ys.length ≤ line then .ok (.obj i) (S.set i (.lst false (xs ++ ys))) else .no
    | _, _ => .no
  | _, _ => .no
def augV (o : BinO) (S : Store) (x y : Val) : Res Val :=
  match o with
  | .add => iaddV S x y
  | .sub => subV S x y
  | _ => .no

def setFV (G : Tab) (f : Nat) (env : Env) (v x : Val) (S : Store) : Out := match x with
  | .obj i => match S[i]? with
    | some (.ins c fs) => if G.isF c f && decide (fs.length < 1000) then .nx env (S.set i (.ins c (fput f v fs))) else .no
    | _ => .no
  | _ => .no
/-- x.f op= .. : ahead of the value, and behind it -/
def augF1 (G : Tab) (f : Nat) (x : Val) (S : Store) : Option (Nat × Nat × Val) := match x with
  | .obj i => match S[i]? with
    | some (.ins c fs) => if G.isF c f then (fget f fs).map fun v => (i, c, v) else none
    | _ => none
  | _ => none
def augF2 (f : Nat) (env : Env) (i c : Nat) (z : Val) (S : Store) : Out := match S[i]? with
  | some (.ins c' fs') => if c' = c ∧ fs'.length < 1000 then .nx env (S.set i (.ins c (fput f z fs'))) else .no
  | _ => .no
def noEx (o : Out) : Out := match o with
  | .ex _ _ _ => .no
  | o => o
def tryV (G : Tab) (k : Nat) (h : Env → Store → Out) (o : Out) : Out := match o with
  | .ex x e S => match G.catches k x.c with
    | some true => noEx (h e S)
    | some false => .ex x e S
    | none => .no
  | o => o
def seqV (o : Out) (k : Env → Store → Out) : Out := match o with
  | .nx e S => k e S
  | o => o
def ofNx (o : Option (Env × Store)) : Out := match o with
  | some (e, S) => .nx e S
  | none => .no
def forV (tp : Bool) (is : List Nat) (k : ItK) (body : Env → Store → Out) (env : Env) (vs : List Val) (S : Store) : Out := match mkWalk k S vs with
  | none => .no
  | some (w, n) => forW body tp is w (n + 1) 0 env S

/-- raise C(..), C's maker noting its parts -/
def raiseV (G : Tab) (k : Nat) (env : Env) (vs : List Val) (S : Store) : Out := match G.xf k with
  | some l => if vs.length = l.length then .ex ⟨k, (l.zip vs).reverse⟩ env S else .no
  | none => .no
/-- an except suite's beginning -/
def entS (s : Option Nat) (x : Exn) (e : Env) (S : Store) (k : Env → Store → Out) : Out := match s with
  | none => k e S
  | some i => k (e.set i (some (.obj S.length))) (S ++ [.exn x.c x.fs])
def clrS (s : Option Nat) (e : Env) : Env := match s with
  | none => e
  | some i => e.set i none
/-- .. and its end: nothing is raised in it -/
def hndV (s : Option Nat) (o : Out) : Out := match o with
  | .nx e S => .nx (clrS s e) S
  | .bk e S => .bk (clrS s e) S
  | .ct e S => .ct (clrS s e) S
  | .rt v S => .rt v S
  | .ex _ _ _ => .no
  | .no => .no
def tryB (h : Exn → Env → Store → Out) (o : Out) : Out := match o with
  | .ex x e S => h x e S
  | o => o
mutual
def ex (G : Tab) (ft : Fns) : PyS → Env → Store → Out
  | .skip, env, S => .nx env S
  | .seq a b, env, S => seqV (ex G ft a env S) (ex G ft b)
  | .expr e, env, S => (ev G ft e env S).out env fun _ S1 => .nx env S1
  | .asg i e, env, S => (ev G ft e env S).out env fun v S1 => .nx (env.set i (some v)) S1
  | .asgT is e, env, S => (ev G ft e env S).out env fun v S1 => ofNx ((tgt true is v env).map fun e' => (e', S1))
  | .asgL is e, env, S => (ev G ft e env S).out env fun v S1 => ofNx (((lst? S1 v).bind fun xs => tgt true is (.tup xs) env).map fun e' => (e', S1))
  | .setI o i e, env, S => (ev G ft e env S).out env fun v S1 => (ev G ft o env S1).out env fun x S2 => (ev G ft i env S2).out env fun k S3 => ofNx ((setIV S3 x k v).map fun S4 => (env, S4))
  | .setF o f e, env, S => (ev G ft e env S).out env fun v S1 => (ev G ft o env S1).out env fun x S2 => setFV G f env v x S2
  | .augV i o e, env, S => (Res.ofO (env[i]?.getD none) S).out env fun x S0 => (ev G ft e env S0).out env fun y S1 => (augV o S1 x y).out env fun z S2 => .nx (env.set i (some z)) S2
  | .augF a f o e, env, S => (ev G ft a env S).out env fun x S1 => match augF1 G f x S1 with
    | some (i, c, v) => (ev G ft e env S1).out env fun y S2 => (augV o S2 v y).out env fun z S3 => augF2 f env i c z S3
    | none => .no
  | .ite c a b, env, S => (ev G ft c env S).out env fun v S1 => ifS v S1 (ex G ft a env S1) (ex G ft b env S1)
  | .ret e, env, S => (ev G ft e env S).out env fun v S1 => .rt v S1
  | .for_ tp is k as b, env, S => (evA G ft as env S).out env fun vs S1 => forV tp is k (ex G ft b) env vs S1
  | .whl c b, env, S => whlW (ev G ft c) (ex G ft b) whileBound env S
  | .brk, env, S => .bk env S
  | .cnt, env, S => .ct env S
  | .raise k a, env, S => (evA G ft a env S).out env fun vs S1 => if vs.length ≤ line then .ex ⟨k, []⟩ env S1 else .no
  | .never, _, _ => .no
  | .try1 b k h, env, S => tryV G k (ex G ft h) (ex G ft b env S)
  | .lockS i fs b, env, S => match lkOf G env S i fs with
    | some (d, o) => lockO d (ex G ft b env (S.set d o))
    | none => .no
  | .raiseF k a, env, S => (evA G ft a env S).out env fun vs S1 => raiseV G k env vs S1
  | .tryA b h, env, S => tryB (exH G ft h) (ex G ft b env S)
  | .hnd _ _ _ _, _, _ => .no
/-- the clauses of a try, one behind the other -/
def exH (G : Tab) (ft : Fns) : PyS → Exn → Env → Store → Out
  | .hnd k s h r, x, env, S => match G.catches k x.c with
    | some true => hndV s (entS s x env S (ex G ft h))
    | some false => exH G ft r x env S
    | none => .no
  | .skip, x, env, S => .ex x env S
  | _, _, _, _ => .no
end

/-- a def: its parameters, its names, its body -/
structure Df where
  np : Nat
  nn : Nat
  body : PyS
def fin (o : Out) : Res Val := match o with
  | .nx _ S' => .ok .non S'
  | .rt v S' => .ok v S'
  | .ex x _ S' => .ex x S'
  | _ => .no
def run (G : Tab) (D : List Df) : Nat → Fns
  | 0, _, _, _ => .no
  | n + 1, f, vs, S => match D[f]? with
    | none => .no
    | some d => if vs.length = d.np then fin (ex G (run G D n) d.body (vs.map some ++ List.replicate (d.nn - d.np) none) S) else .no
end Nw

set_option Elab.async false
set_option linter.all false
set_option maxRecDepth 100000
namespace Nw
open PySem L2

structure Cfg where
  K : PySem.W.Frag
  ca : Nat → Addr
  NM : List Str
  nd : NM.Nodup
  tb : List (Addr × Str) := []
  cs : List (Addr × Addr) := []
  hx : List Addr := []
def Cfg.nm (G : Cfg) (f : Nat) : Str := G.NM.getD f Str.empty
theorem Cfg.nm_inj (G : Cfg) {f g : Nat} (hf : f < G.NM.length) (hg : g < G.NM.length) (e : G.nm f = G.nm g) : f = g := by
  unfold Cfg.nm at e
  rw [List.getD_eq_getElem?_getD, List.getD_eq_getElem?_getD, List.getElem?_eq_getElem hf, List.getElem?_eq_getElem hg] at e
  exact (List.getElem_inj G.nd).mp e


/-! ## values -/
mutual
inductive RV (μ : List Addr) (H : Hp) : Val → V → Prop
  | non : RV μ H .non .non
  | bl (b : Bool) : RV μ H (.bl b) (.bl b)
  | int (i : Int) : RV μ H (.int i) (.int i)
  | str {s : Str} (h : sOk s = true) : RV μ H (.str s) (.str s)
  | tup {a : Addr} {xs : List Val} {ys : List V} (h : H a = some (.tup ys)) (r : RVs μ H xs ys) : RV μ H (.tup xs) (.ref a)
  | obj {i : Nat} {a : Addr} (h : μ[i]? = some a) : RV μ H (.obj i) (.ref a)
inductive RVs (μ : List Addr) (H : Hp) : List Val → List V → Prop
  | nil : RVs μ H [] []
  | cons {v : Val} {x : V} {vs : List Val} {xs : List V} (h : RV μ H v x) (t : RVs μ H vs xs) : RVs μ H (v :: vs) (x :: xs)
end

def Up (μ μ' : List Addr) : Prop := ∀ (i : Nat) a, μ[i]? = some a → μ'[i]? = some a
structure KeepT (H H' : Hp) : Prop where
  tu : ∀ a xs, H a = some (.tup xs) → H' a = some (.tup xs)
  xd : ∀ a od ys, H a = some (.frz od (.xd ys)) → H' a = some (.frz od (.xd ys))
structure Keep (H H' : Hp) : Prop where
  t : KeepT H H'
  z : ∀ a od u, H a = some (.frz od u) → H' a = some (.frz od u)
theorem Up.refl (μ : List Addr) : Up μ μ := fun _ _ h => h
theorem Up.trans {a b c : List Addr} (h : Up a b) (k : Up b c) : Up a c := fun i x e => k i x (h i x e)
theorem Up.app (μ : List Addr) (p : Addr) : Up μ (μ ++ [p]) := fun i a h => by
  have hl : i < μ.length := (List.getElem?_eq_some_iff.mp h).1
  rw [List.getElem?_append_left hl]; exact h
theorem Keep.refl (H : Hp) : Keep H H := ⟨⟨fun _ _ h => h, fun _ _ _ h => h⟩, fun _ _ _ h => h⟩
theorem Keep.mk' {H H' : Hp} (t : ∀ a xs, H a = some (.tup xs) → H' a = some (.tup xs)) (z : ∀ a od u, H a = some (.frz od u) → H' a = some (.frz od u)) : Keep H H' := ⟨⟨t, fun a od ys => z a od _⟩, z⟩
theorem Keep.trans {a b c : Hp} (h : Keep a b) (k : Keep b c) : Keep a c := .mk' (fun i x e => k.t.tu i x (h.t.tu i x e)) fun i x y e => k.z i x y (h.z i x y e)
theorem Keep.new {H : Hp} {p : Addr} {o : HO} (h : H p = none) : Keep H (upd H p o) := .mk' (fun a xs e => by
  rw [upd_ne (ne_of_none e h)]; exact e) fun a od u e => by rw [upd_ne (ne_of_none e h)]; exact e
theorem Keep.upd {H : Hp} {p : Addr} {o u : HO} (h : H p = some u) (hu : (∀ xs, u ≠ .tup xs) ∧ ∀ od w, u ≠ .frz od w) : Keep H (upd H p o) := .mk' (fun a xs e => by
  rw [upd_ne (ne_of e h (fun z => hu.1 xs z.symm))]; exact e) fun a od w e => by rw [upd_ne (ne_of e h (fun z => hu.2 od w z.symm))]; exact e

mutual
theorem RV.monoT {μ μ' : List Addr} {H H' : Hp} (u : Up μ μ') (k : KeepT H H') : ∀ (v : Val) (x : V), RV μ H v x → RV μ' H' v x
  | .non, _, h => by cases h; exact .non
  | .bl b, _, h => by cases h; exact .bl b
  | .int i, _, h => by cases h; exact .int i
  | .str s, _, h => by cases h with | str h => exact .str h
  | .tup xs, _, h => by cases h with | tup h r => exact .tup (k.tu _ _ h) (RVs.monoT u k xs _ r)
  | .obj i, _, h => by cases h with | obj h => exact .obj (u _ _ h)
  | .fn _ _, _, h => by cases h
theorem RVs.monoT {μ μ' : List Addr} {H H' : Hp} (u : Up μ μ') (k : KeepT H H') : ∀ (vs : List Val) (xs : List V), RVs μ H vs xs → RVs μ' H' vs xs
  | [], _, h => by cases h; exact .nil
  | v :: vs, _, h => by cases h with | cons h t => exact .cons (RV.monoT u k v _ h) (RVs.monoT u k vs _ t)
end
theorem RV.mono {μ μ' : List Addr} {H H' : Hp} (u : Up μ μ') (k : Keep H H') (v : Val) (x : V) (h : RV μ H v x) : RV μ' H' v x := RV.monoT u k.t v x h
theorem RVs.mono {μ μ' : List Addr} {H H' : Hp} (u : Up μ μ') (k : Keep H H') (vs : List Val) (xs : List V) (h : RVs μ H vs xs) : RVs μ' H' vs xs := RVs.monoT u k.t vs xs h

section
variable {μ μ' : List Addr} {H H' : Hp} {vs ws : List Val} {xs ys : List V} {v : Val} {x : V}
theorem RVs.length : ∀ {vs : List Val} {xs : List V}, RVs μ H vs xs → vs.length = xs.length
  | [], _, h => by cases h; rfl
  | _ :: _, _, h => by cases h with | cons h t => simp [RVs.length t]
theorem RVs.get : ∀ {vs : List Val} {xs : List V} {i : Nat} {v : Val}, RVs μ H vs xs → vs[i]? = some v → ∃ x, xs[i]? = some x ∧ RV μ H v x
  | [], _, _, _, _, e => by simp at e
  | w :: ws, _, 0, v, h, e => by cases h with | cons h t => simp at e; subst e; exact ⟨_, rfl, h⟩
  | w :: ws, _, i + 1, v, h, e => by
    cases h with
    | cons h t =>
      obtain ⟨x, h1, h2⟩ := RVs.get (i := i) (v := v) t (by simpa using e)
      exact ⟨x, by simpa using h1, h2⟩
theorem RVs.app : ∀ {vs ws : List Val} {xs ys : List V}, RVs μ H vs xs → RVs μ H ws ys → RVs μ H (vs ++ ws) (xs ++ ys)
  | [], _, _, _, h, k => by cases h; exact k
  | _ :: _, _, _, _, h, k => by cases h with | cons h t => exact .cons h (RVs.app t k)
theorem RVs.one (h : RV μ H v x) : RVs μ H [v] [x] := .cons h .nil
theorem RVs.drop : ∀ {vs : List Val} {xs : List V} (n : Nat), RVs μ H vs xs → RVs μ H (vs.drop n) (xs.drop n)
  | _, _, 0, h => h
  | [], _, n + 1, h => by cases h; exact .nil
  | _ :: _, _, n + 1, h => by cases h with | cons h t => exact RVs.drop n t
theorem RVs.take : ∀ {vs : List Val} {xs : List V} (n : Nat), RVs μ H vs xs → RVs μ H (vs.take n) (xs.take n)
  | _, _, 0, h => by simp; exact .nil
  | [], _, n + 1, h => by cases h; exact .nil
  | _ :: _, _, n + 1, h => by cases h with | cons h t => exact .cons h (RVs.take n t)
theorem RVs.set : ∀ {vs : List Val} {xs : List V} (i : Nat), RVs μ H vs xs → RV μ H v x → RVs μ H (vs.set i v) (xs.set i x)
  | [], _, _, h, _ => by cases h; exact .nil
  | _ :: _, _, 0, h, k => by cases h with | cons h t => exact .cons k t
  | _ :: _, _, i + 1, h, k => by cases h with | cons h t => exact .cons h (RVs.set i t k)
theorem RVs.rev : ∀ {vs : List Val} {xs : List V}, RVs μ H vs xs → RVs μ H vs.reverse xs.reverse
  | [], _, h => by cases h; exact .nil
  | _ :: _, _, h => by cases h with | cons h t => simp only [List.reverse_cons]; exact RVs.app (RVs.rev t) (.one h)
theorem RVs.erase : ∀ {vs : List Val} {xs : List V} (i : Nat), RVs μ H vs xs → RVs μ H (vs.eraseIdx i) (xs.eraseIdx i)
  | [], _, _, h => by cases h; exact .nil
  | _ :: _, _, 0, h => by cases h with | cons h t => exact t
  | _ :: _, _, i + 1, h => by cases h with | cons h t => exact .cons h (RVs.erase i t)
theorem RVs.dropLast (h : RVs μ H vs xs) : RVs μ H vs.dropLast xs.dropLast := by
  rw [List.dropLast_eq_take, List.dropLast_eq_take, h.length]; exact h.take _
theorem RVs.ints : ∀ {vs : List Val} {xs : List V} {ns : List Int}, RVs μ H vs xs → vs.mapM intOf = some ns → xs = ns.map V.int ∧ vs = ns.map Val.int
  | [], _, ns, h, e => by cases h; simp at e; subst e; exact ⟨rfl, rfl⟩
  | v :: vs, _, ns, h, e => by
    cases h with
    | cons h t =>
      rw [List.mapM_cons] at e
      cases v with
      | int i =>
        cases h
        cases e2 : vs.mapM intOf with
        | none => rw [e2] at e; simp [intOf] at e
        | some ms =>
          rw [e2] at e; simp [intOf] at e; subst e
          obtain ⟨h1, h2⟩ := RVs.ints t e2
          exact ⟨by rw [h1]; rfl, by rw [h2]; rfl⟩
      | _ => simp [intOf] at e
theorem RVs.strs : ∀ {vs : List Val} {xs : List V} {ns : List Str}, RVs μ H vs xs → vs.mapM strOf = some ns → xs = ns.map V.str ∧ vs = ns.map Val.str ∧ ∀ s ∈ ns, sOk s = true
  | [], _, ns, h, e => by cases h; simp at e; subst e; exact ⟨rfl, rfl, by simp⟩
  | v :: vs, _, ns, h, e => by
    cases h with
    | cons h t =>
      rw [List.mapM_cons] at e
      cases v with
      | str i =>
        cases h with
        | str hs =>
        cases e2 : vs.mapM strOf with
        | none => rw [e2] at e; simp [strOf] at e
        | some ms =>
          rw [e2] at e; simp [strOf] at e; subst e
          obtain ⟨h1, h2, h3⟩ := RVs.strs t e2
          exact ⟨by rw [h1]; rfl, by rw [h2]; rfl, by simpa using ⟨hs, h3⟩⟩
      | _ => simp [strOf] at e
theorem RVs.bools : ∀ {vs : List Val} {xs : List V} {ns : List Bool}, RVs μ H vs xs → vs.mapM boolOf = some ns → xs = ns.map V.bl
  | [], _, ns, h, e => by cases h; simp at e; subst e; rfl
  | v :: vs, _, ns, h, e => by
    cases h with
    | cons h t =>
      rw [List.mapM_cons] at e
      cases v with
      | bl i =>
        cases h
        cases e2 : vs.mapM boolOf with
        | none => rw [e2] at e; simp [boolOf] at e
        | some ms =>
          rw [e2] at e; simp [boolOf] at e; subst e
          rw [RVs.bools t e2]; rfl
      | _ => simp [boolOf] at e
theorem RVs.of_ints : ∀ (ns : List Int), RVs μ H (ns.map .int) (ns.map V.int)
  | [] => .nil
  | i :: r => .cons (.int i) (RVs.of_ints r)
theorem RVs.of_strs : ∀ (ns : List Str), (∀ s ∈ ns, sOk s = true) → RVs μ H (ns.map .str) (ns.map V.str)
  | [], _ => .nil
  | i :: r, h => .cons (.str (h i (by simp))) (RVs.of_strs r fun s hs => h s (by simp [hs]))
end

/-! ## dicts' pairs, attributes -/
def RKv {κ : Type} (μ : List Addr) (H : Hp) : List (κ × Val) → List (κ × V) → Prop
  | [], [] => True
  | (k, v) :: r, (k', x) :: r' => k = k' ∧ RV μ H v x ∧ RKv μ H r r'
  | _, _ => False
def kOk : Key → Bool
  | .inl _ => true
  | .inr s => sOk s
def RF (G : Cfg) (μ : List Addr) (H : Hp) : List (Nat × Val) → List (Str × V) → Prop
  | [], [] => True
  | (f, v) :: r, (s, x) :: r' => f < G.NM.length ∧ s = G.nm f ∧ RV μ H v x ∧ RF G μ H r r'
  | _, _ => False
section
variable {G : Cfg} {μ μ' : List Addr} {H H' : Hp} {κ : Type}
theorem RKv.monoT (u : Up μ μ') (k : KeepT H H') : ∀ {a : List (κ × Val)} {b : List (κ × V)}, RKv μ H a b → RKv μ' H' a b
  | [], [], _ => trivial
  | (_, v) :: _, (_, x) :: _, ⟨h1, h2, h3⟩ => ⟨h1, h2.monoT u k v x, RKv.monoT u k h3⟩
  | [], _ :: _, h => h.elim
  | _ :: _, [], h => h.elim
theorem RKv.mono (u : Up μ μ') (k : Keep H H') {a : List (κ × Val)} {b : List (κ × V)} (h : RKv μ H a b) : RKv μ' H' a b := RKv.monoT u k.t h
theorem RKv.length : ∀ {a : List (κ × Val)} {b : List (κ × V)}, RKv μ H a b → a.length = b.length
  | [], [], _ => rfl
  | (_, v) :: _, (_, x) :: _, ⟨h1, h2, h3⟩ => by simp [RKv.length h3]
  | [], _ :: _, h => h.elim
  | _ :: _, [], h => h.elim
theorem RKv.keys : ∀ {a : List (κ × Val)} {b : List (κ × V)}, RKv μ H a b → a.map (·.1) = b.map (·.1)
  | [], [], _ => rfl
  | (_, v) :: _, (_, x) :: _, ⟨h1, h2, h3⟩ => by simp [RKv.keys h3, h1]
  | [], _ :: _, h => h.elim
  | _ :: _, [], h => h.elim
variable [DecidableEq κ]
theorem RKv.look : ∀ {a : List (κ × Val)} {b : List (κ × V)} (k : κ), RKv μ H a b → (∀ v, look a k = some v → ∃ x, valV b k = some x ∧ RV μ H v x) ∧ (look a k = none → valV b k = none)
  | [], [], k, _ => ⟨fun v h => by simp [Nw.look] at h, fun _ => rfl⟩
  | (q, v) :: r, (q', x) :: r', k, ⟨h1, h2, h3⟩ => by
    subst h1
    obtain ⟨i1, i2⟩ := RKv.look k h3
    by_cases e : q = k
    · refine ⟨fun w h => ⟨x, valV_pos e, ?_⟩, fun h => ?_⟩
      · have : Nw.look ((q, v) :: r) k = some v := by simp [Nw.look, List.find?_cons, e]
        rw [this] at h; cases h; exact h2
      · have : Nw.look ((q, v) :: r) k = some v := by simp [Nw.look, List.find?_cons, e]
        rw [this] at h; cases h
    · have ez : Nw.look ((q, v) :: r) k = Nw.look r k := by simp [Nw.look, List.find?_cons, e]
      rw [ez, valV_neg e]
      exact ⟨i1, i2⟩
  | [], _ :: _, _, h => h.elim
  | _ :: _, [], _, h => h.elim
theorem RKv.map_set {k : κ} {v : Val} {x : V} (hv : RV μ H v x) : ∀ {a : List (κ × Val)} {b : List (κ × V)}, RKv μ H a b → RKv μ H (a.map fun kv => if kv.1 = k then (kv.1, v) else kv) (b.map fun kv => if kv.1 = k then (kv.1, x) else kv)
  | [], [], _ => trivial
  | (q, v') :: r, (q', x') :: r', ⟨h1, h2, h3⟩ => by
    subst h1
    simp only [List.map_cons]
    by_cases e : q = k
    · rw [if_pos e, if_pos e]; exact ⟨rfl, hv, RKv.map_set hv h3⟩
    · rw [if_neg e, if_neg e]; exact ⟨rfl, h2, RKv.map_set hv h3⟩
  | [], _ :: _, h => h.elim
  | _ :: _, [], h => h.elim
theorem RKv.app : ∀ {a a' : List (κ × Val)} {b b' : List (κ × V)}, RKv μ H a b → RKv μ H a' b' → RKv μ H (a ++ a') (b ++ b')
  | [], _, [], _, _, h => h
  | (_, _) :: _, _, (_, _) :: _, _, ⟨h1, h2, h3⟩, h => ⟨h1, h2, RKv.app h3 h⟩
  | [], _, _ :: _, _, h, _ => h.elim
  | _ :: _, _, [], _, h, _ => h.elim
theorem RKv.any {k : κ} : ∀ {a : List (κ × Val)} {b : List (κ × V)}, RKv μ H a b → (a.any fun kv => decide (kv.1 = k)) = (b.any fun kv => decide (kv.1 = k))
  | [], [], _ => rfl
  | (_, _) :: _, (_, _) :: _, ⟨h1, _, h3⟩ => by simp [h1, RKv.any h3]
  | [], _ :: _, h => h.elim
  | _ :: _, [], h => h.elim
theorem RKv.put {k : κ} {v : Val} {x : V} {a : List (κ × Val)} {b : List (κ × V)} (h : RKv μ H a b) (hv : RV μ H v x) : RKv μ H (put a k v) (putK b k x) := by
  unfold Nw.put putK
  rw [h.any]
  split
  · exact h.map_set hv
  · exact h.app ⟨rfl, hv, trivial⟩
theorem RKv.drop {k : κ} : ∀ {a : List (κ × Val)} {b : List (κ × V)}, RKv μ H a b → RKv μ H (drop a k) (dropK b k)
  | [], [], _ => trivial
  | (q, v) :: r, (q', x) :: r', ⟨h1, h2, h3⟩ => by
    subst h1
    have ih := RKv.drop (k := k) h3
    unfold Nw.drop dropK at ih ⊢
    simp only [List.filter_cons]
    by_cases e : q = k
    · simp [e]; simpa using ih
    · simp [e]; exact ⟨rfl, h2, by simpa using ih⟩
  | [], _ :: _, h => h.elim
  | _ :: _, [], h => h.elim
theorem RKv.merge : ∀ {m : List (Key × Val)} {n : List (Key × V)} {a : List (Key × Val)} {b : List (Key × V)}, RKv μ H m n → RKv μ H a b → RKv μ H (merge a m) (mergeK b n)
  | [], [], _, _, _, h => h
  | (q, v) :: r, (q', x) :: r', a, b, ⟨h1, h2, h3⟩, h => by
    subst h1
    exact RKv.merge (m := r) (n := r') h3 (h.put h2)
  | [], _ :: _, _, _, h, _ => h.elim
  | _ :: _, [], _, _, h, _ => h.elim

omit [DecidableEq κ]
theorem RF.monoT (u : Up μ μ') (k : KeepT H H') : ∀ {a : List (Nat × Val)} {b : List (Str × V)}, RF G μ H a b → RF G μ' H' a b
  | [], [], _ => trivial
  | (_, v) :: _, (_, x) :: _, ⟨h0, h1, h2, h3⟩ => ⟨h0, h1, h2.monoT u k v x, RF.monoT u k h3⟩
  | [], _ :: _, h => h.elim
  | _ :: _, [], h => h.elim
theorem RF.mono (u : Up μ μ') (k : Keep H H') {a : List (Nat × Val)} {b : List (Str × V)} (h : RF G μ H a b) : RF G μ' H' a b := RF.monoT u k.t h
theorem RF.length : ∀ {a : List (Nat × Val)} {b : List (Str × V)}, RF G μ H a b → a.length = b.length
  | [], [], _ => rfl
  | (_, v) :: _, (_, x) :: _, ⟨_, h1, h2, h3⟩ => by simp [RF.length h3]
  | [], _ :: _, h => h.elim
  | _ :: _, [], h => h.elim
theorem RF.get {f : Nat} (hf : f < G.NM.length) : ∀ {a : List (Nat × Val)} {b : List (Str × V)}, RF G μ H a b → (∀ v, fget f a = some v → ∃ x, b.lookup (G.nm f) = some x ∧ RV μ H v x) ∧ (fget f a = none → b.lookup (G.nm f) = none)
  | [], [], _ => ⟨fun v h => by simp [fget] at h, fun _ => rfl⟩
  | (g, v) :: r, (s, x) :: r', ⟨h0, h1, h2, h3⟩ => by
    subst h1
    obtain ⟨i1, i2⟩ := RF.get hf h3
    by_cases e : g = f
    · subst e
      have e2 : List.lookup (G.nm g) ((G.nm g, x) :: r') = some x := by simp [List.lookup]
      refine ⟨fun w h => ⟨x, e2, ?_⟩, fun h => ?_⟩
      · have z : fget g ((g, v) :: r) = some v := if_pos rfl
        rw [z] at h; cases h; exact h2
      · have z : fget g ((g, v) :: r) = some v := if_pos rfl
        rw [z] at h; cases h
    · have ne : G.nm f ≠ G.nm g := fun z => e (G.nm_inj h0 hf z.symm)
      have e2 : List.lookup (G.nm f) ((G.nm g, x) :: r') = List.lookup (G.nm f) r' := by
        have : (G.nm f == G.nm g) = false := beq_eq_false_iff_ne.mpr ne
        simp [List.lookup, this]
      have z : fget f ((g, v) :: r) = fget f r := if_neg e
      rw [e2, z]
      exact ⟨i1, i2⟩
  | [], _ :: _, h => h.elim
  | _ :: _, [], h => h.elim
theorem RF.put {f : Nat} (hf : f < G.NM.length) {v : Val} {x : V} (hv : RV μ H v x) : ∀ {a : List (Nat × Val)} {b : List (Str × V)}, RF G μ H a b → RF G μ H (fput f v a) (putF (G.nm f) x b)
  | [], [], _ => ⟨hf, rfl, hv, trivial⟩
  | (g, w) :: r, (s, y) :: r', ⟨h0, h1, h2, h3⟩ => by
    subst h1
    show RF G μ H (if g = f then (g, v) :: r else (g, w) :: fput f v r) (if G.nm g = G.nm f then (G.nm g, x) :: r' else (G.nm g, y) :: putF (G.nm f) x r')
    by_cases e : g = f
    · subst e
      rw [if_pos rfl, if_pos rfl]
      exact ⟨hf, rfl, hv, h3⟩
    · have ne : G.nm g ≠ G.nm f := fun z => e (G.nm_inj h0 hf z)
      rw [if_neg e, if_neg ne]
      exact ⟨h0, rfl, h2, RF.put hf hv h3⟩
  | [], _ :: _, h => h.elim
  | _ :: _, [], h => h.elim
end

/-! ## objects, the store -/
/-- a list that the object knows: the script -/
def Lk (K : PySem.W.Frag) (H : Hp) (a : Addr) (ys : List V) : Prop :=
  (∃ o, H a = some (.frz o (.lst ys))) ∨
    ∃ (o : PySem.Obj) (its : Array Value) (n : Nat), K.lookup a = some o ∧ o.cls = .type "list" ∧ o.dict = none ∧ o.data = .seq its n ∧ its.size ≤ sizeLine ∧ Vals ys its.toList
theorem Lk.sq {K : PySem.W.Frag} {H : Hp} {a : Addr} {ys : List V} (h : Lk K H a ys) : SqL K H a ys := by
  rcases h with ⟨o, h⟩ | h
  · exact .inl (.inr ⟨o, h⟩)
  · exact .inr h

def RO (G : Cfg) (μ : List Addr) (H : Hp) (a : Addr) : Obj → Prop
  | .lst false xs => ∃ ys, H a = some (.lst ys) ∧ RVs μ H xs ys
  | .lst true xs => ∃ ys, Lk G.K H a ys ∧ RVs μ H xs ys
  | .dK false kvs => ∃ ys, H a = some (.dK ys) ∧ RKv μ H kvs ys ∧ ∀ p ∈ kvs, kOk p.1 = true
  | .dK true kvs => ∃ od ys, H a = some (.frz od (.dK ys)) ∧ RKv μ H kvs ys ∧ ∀ p ∈ kvs, kOk p.1 = true
  | .dT false kvs => ∃ ys, H a = some (.dT ys) ∧ RKv μ H kvs ys ∧ ∀ p ∈ kvs, ∀ k ∈ p.1, kOk k = true
  | .dT true kvs => ∃ od ys, H a = some (.frz od (.dT ys)) ∧ RKv μ H kvs ys ∧ ∀ p ∈ kvs, ∀ k ∈ p.1, kOk k = true
  | .ins c fs => ∃ dx ys, H a = some (.ins (G.ca c) dx ys) ∧ RF G μ H fs ys
  | .exn c fs => ∃ (oe : PySem.Obj) (vs : Array Value), H a = some (.frz oe (.own a)) ∧ oe.cls = .ref (G.ca c) ∧ oe.data = .fields vs ∧
    ((fs = [] ∧ oe.dict = none) ∨ ∃ dx od ys, oe.dict = some dx ∧ H dx = some (.frz od (.xd ys)) ∧ RF G μ H fs ys)

def isLk : Obj → Bool
  | .lst true _ => true
  | _ => false

/-- an exception that is known, its context None -/
def HotO (H : Hp) (a : Addr) : Prop := ∃ (oe : PySem.Obj) (vs : Array Value), H a = some (.frz oe (.own a)) ∧ oe.data = .fields vs ∧ vs[2]? = some .none
theorem HotO.keep {H H' : Hp} {a : Addr} (h : HotO H a) (k : ∀ a od u, H a = some (.frz od u) → H' a = some (.frz od u)) : HotO H' a :=
  let ⟨oe, vs, h1, h2, h3⟩ := h; ⟨oe, vs, k _ _ _ h1, h2, h3⟩
structure Sim (G : Cfg) (μ : List Addr) (S : Store) (H : Hp) : Prop where
  len : μ.length = S.length
  ob : ∀ (i : Nat) o, S[i]? = some o → ∃ a, μ[i]? = some a ∧ RO G μ H a o
  inj : ∀ (i j : Nat) oi oj a, S[i]? = some oi → S[j]? = some oj → isLk oi = false → isLk oj = false → μ[i]? = some a → μ[j]? = some a → i = j
  tabs : LamX.Tabs G.tb H
  hot : ∀ a ∈ G.hx, HotO H a
/-- the tables stay -/
theorem tabs_imp {T : List (Addr × Str)} {H H' : Hp} (t : LamX.Tabs T H) (e1 : ∀ b ps, H b = some (.tbl ps) → H' b = some (.tbl ps)) (e2 : ∀ b c q, H b = some (LamX.CodeO c q) → H' b = some (LamX.CodeO c q)) : LamX.Tabs T H' := fun p hp => by
  obtain ⟨ps, h1, h2, h3⟩ := t p hp
  refine ⟨ps, e1 _ _ h1, h2, fun pos cv hc => ?_⟩
  obtain ⟨c, q1, q2⟩ := h3 pos cv hc
  exact ⟨c, q1, e2 _ _ _ q2⟩
theorem tabs_upd {T : List (Addr × Str)} {H : Hp} {a : Addr} {ho u : HO} (t : LamX.Tabs T H) (ha : H a = some ho) (h1 : ∀ ps, ho ≠ .tbl ps) (h2 : ∀ c q, ho ≠ LamX.CodeO c q) : LamX.Tabs T (upd H a u) :=
  tabs_imp t (fun b ps e => by rw [upd_ne (fun z => by rw [z, ha] at e; exact h1 ps (Option.some.inj e))]; exact e) fun b c q e => by
    rw [upd_ne (fun z => by rw [z, ha] at e; exact h2 c q (Option.some.inj e))]; exact e

section
variable {G : Cfg} {μ μ' : List Addr} {H H' : Hp} {S : Store} {a p : Addr} {o : Obj}
/-- an unlocked object is tracked at its place, and is no tuple -/
theorem RO.there (r : RO G μ H a o) (n : isLk o = false) : ∃ ho, H a = some ho ∧ (∀ xs, ho ≠ .tup xs) ∧ ∀ od ys, ho ≠ .frz od (.xd ys) := by
  cases o with
  | lst l xs => cases l with
    | false => obtain ⟨ys, h, _⟩ := r; exact ⟨_, h, (fun _ z => by cases z), fun _ _ z => by cases z⟩
    | true => cases n
  | dK l xs => cases l with
    | false => obtain ⟨ys, h, _⟩ := r; exact ⟨_, h, (fun _ z => by cases z), fun _ _ z => by cases z⟩
    | true => obtain ⟨od, ys, h, _⟩ := r; exact ⟨_, h, (fun _ z => by cases z), fun _ _ z => by cases z⟩
  | dT l xs => cases l with
    | false => obtain ⟨ys, h, _⟩ := r; exact ⟨_, h, (fun _ z => by cases z), fun _ _ z => by cases z⟩
    | true => obtain ⟨od, ys, h, _⟩ := r; exact ⟨_, h, (fun _ z => by cases z), fun _ _ z => by cases z⟩
  | ins c fs => obtain ⟨dx, ys, h, _⟩ := r; exact ⟨_, h, (fun _ z => by cases z), fun _ _ z => by cases z⟩
  | exn c fs => obtain ⟨oe, vs, h, _⟩ := r; exact ⟨_, h, (fun _ z => by cases z), fun _ _ z => by cases z⟩
/-- an object's description in another heap -/
theorem RO.monoX (r : RO G μ H a o) (u : Up μ μ') (k : KeepT H H') (e : ∀ ho, (∀ ys, ho ≠ .xd ys) → (∀ ps, ho ≠ .tbl ps) → H a = some ho → H' a = some ho) : RO G μ' H' a o := by
  cases o with
  | lst l xs => cases l with
    | false => obtain ⟨ys, h, q⟩ := r; exact ⟨ys, e _ (fun _ z => by cases z) (fun _ z => by cases z) h, q.monoT u k⟩
    | true =>
      obtain ⟨ys, h, q⟩ := r
      refine ⟨ys, ?_, q.monoT u k⟩
      rcases h with ⟨o, h⟩ | h
      · exact .inl ⟨o, e _ (fun _ z => by cases z) (fun _ z => by cases z) h⟩
      · exact .inr h
  | dK l xs => cases l with
    | false => obtain ⟨ys, h, q, z⟩ := r; exact ⟨ys, e _ (fun _ z => by cases z) (fun _ z => by cases z) h, q.monoT u k, z⟩
    | true => obtain ⟨od, ys, h, q, z⟩ := r; exact ⟨od, ys, e _ (fun _ z => by cases z) (fun _ z => by cases z) h, q.monoT u k, z⟩
  | dT l xs => cases l with
    | false => obtain ⟨ys, h, q, z⟩ := r; exact ⟨ys, e _ (fun _ z => by cases z) (fun _ z => by cases z) h, q.monoT u k, z⟩
    | true => obtain ⟨od, ys, h, q, z⟩ := r; exact ⟨od, ys, e _ (fun _ z => by cases z) (fun _ z => by cases z) h, q.monoT u k, z⟩
  | ins c fs => obtain ⟨dx, ys, h, q⟩ := r; exact ⟨dx, ys, e _ (fun _ z => by cases z) (fun _ z => by cases z) h, q.monoT u k⟩
  | exn c fs =>
    obtain ⟨oe, vs, h, h1, h2, q⟩ := r
    refine ⟨oe, vs, e _ (fun _ z => by cases z) (fun _ z => by cases z) h, h1, h2, ?_⟩
    rcases q with q | ⟨dx, od, ys, q1, q2, q3⟩
    · exact .inl q
    · exact .inr ⟨dx, od, ys, q1, k.xd _ _ _ q2, q3.monoT u k⟩
theorem RO.monoT (r : RO G μ H a o) (u : Up μ μ') (k : KeepT H H') (e : ∀ ho, H a = some ho → H' a = some ho) : RO G μ' H' a o := r.monoX u k fun ho _ _ => e ho

theorem RO.mono (r : RO G μ H a o) (u : Up μ μ') (k : Keep H H') (e : ∀ ho, H a = some ho → H' a = some ho) : RO G μ' H' a o := r.monoT u k.t e
def isFz : Obj → Bool
  | .dK true _ => true
  | .dT true _ => true
  | .exn _ _ => true
  | _ => false
theorem RO.unFz (r : RO G μ H a o) (n : isLk o = false) (z : isFz o = false) : ∃ ho, H a = some ho ∧ (∀ xs, ho ≠ .tup xs) ∧ ∀ od u, ho ≠ .frz od u := by
  cases o with
  | lst l xs => cases l with
    | false => obtain ⟨ys, h, _⟩ := r; exact ⟨_, h, (fun _ z => by cases z), fun _ _ z => by cases z⟩
    | true => cases n
  | dK l xs => cases l with
    | false => obtain ⟨ys, h, _⟩ := r; exact ⟨_, h, (fun _ z => by cases z), fun _ _ z => by cases z⟩
    | true => cases z
  | dT l xs => cases l with
    | false => obtain ⟨ys, h, _⟩ := r; exact ⟨_, h, (fun _ z => by cases z), fun _ _ z => by cases z⟩
    | true => cases z
  | ins c fs => obtain ⟨dx, ys, h, _⟩ := r; exact ⟨_, h, (fun _ z => by cases z), fun _ _ z => by cases z⟩
  | exn c fs => cases z

theorem Sim.lt (s : Sim G μ S H) {i : Nat} (h : i < S.length) : ∃ a, μ[i]? = some a := by
  have : i < μ.length := by rw [s.len]; exact h
  exact ⟨_, List.getElem?_eq_getElem this⟩
def isEx : Obj → Bool
  | .exn _ _ => true
  | _ => false
/-- what lies there is no exception -/
theorem RO.noOwn (r : RO G μ H a o) (n : isLk o = false) (nx : isEx o = false) : ∃ ho, H a = some ho ∧ ∀ od b, ho ≠ .frz od (.own b) := by
  cases o with
  | lst l xs => cases l with
    | false => obtain ⟨ys, h, _⟩ := r; exact ⟨_, h, fun _ _ z => by cases z⟩
    | true => cases n
  | dK l xs => cases l with
    | false => obtain ⟨ys, h, _⟩ := r; exact ⟨_, h, fun _ _ z => by cases z⟩
    | true => obtain ⟨od, ys, h, _⟩ := r; exact ⟨_, h, fun _ _ z => by cases z⟩
  | dT l xs => cases l with
    | false => obtain ⟨ys, h, _⟩ := r; exact ⟨_, h, fun _ _ z => by cases z⟩
    | true => obtain ⟨od, ys, h, _⟩ := r; exact ⟨_, h, fun _ _ z => by cases z⟩
  | ins c fs => obtain ⟨dx, ys, h, _⟩ := r; exact ⟨_, h, fun _ _ z => by cases z⟩
  | exn c fs => cases nx
/-- what lies there is no table, no code -/
theorem RO.noTab (r : RO G μ H a o) (n : isLk o = false) : ∃ ho, H a = some ho ∧ (∀ ps, ho ≠ .tbl ps) ∧ ∀ c q, ho ≠ LamX.CodeO c q := by
  cases o with
  | lst l xs => cases l with
    | false => obtain ⟨ys, h, _⟩ := r; exact ⟨_, h, (fun _ z => by cases z), fun _ _ z => by unfold LamX.CodeO at z; cases z⟩
    | true => cases n
  | dK l xs => cases l with
    | false => obtain ⟨ys, h, _⟩ := r; exact ⟨_, h, (fun _ z => by cases z), fun _ _ z => by unfold LamX.CodeO at z; cases z⟩
    | true => obtain ⟨od, ys, h, _⟩ := r; exact ⟨_, h, (fun _ z => by cases z), fun _ _ z => by unfold LamX.CodeO at z; cases z⟩
  | dT l xs => cases l with
    | false => obtain ⟨ys, h, _⟩ := r; exact ⟨_, h, (fun _ z => by cases z), fun _ _ z => by unfold LamX.CodeO at z; cases z⟩
    | true => obtain ⟨od, ys, h, _⟩ := r; exact ⟨_, h, (fun _ z => by cases z), fun _ _ z => by unfold LamX.CodeO at z; cases z⟩
  | ins c fs => obtain ⟨dx, ys, h, _⟩ := r; exact ⟨_, h, (fun _ z => by cases z), fun _ _ z => by unfold LamX.CodeO at z; cases z⟩
  | exn c fs => obtain ⟨oe, vs, h, _⟩ := r; exact ⟨_, h, (fun _ z => by cases z), fun _ _ z => by unfold LamX.CodeO at z; cases z⟩
/-- nothing of ours changed -/
theorem Sim.keep (s : Sim G μ S H) (k : Keep H H') (e : ∀ b ho, H b = some ho → H' b = some ho) : Sim G μ S H' :=
  ⟨s.len, fun i o h => let ⟨a, h1, h2⟩ := s.ob i o h; ⟨a, h1, RO.mono (o := o) h2 (Up.refl _) k fun ho => e a ho⟩, s.inj, s.tabs.ext e, fun a ha => (s.hot a ha).keep k.z⟩
/-- .. but perhaps an exception's dict -/
theorem Sim.keepX (s : Sim G μ S H) (k : Keep H H') (e : ∀ b ho, (∀ ys, ho ≠ .xd ys) → H b = some ho → H' b = some ho) : Sim G μ S H' :=
  ⟨s.len, fun i o h => let ⟨a, h1, h2⟩ := s.ob i o h; ⟨a, h1, RO.monoX (o := o) h2 (Up.refl _) k.t fun ho n _ => e a ho n⟩, s.inj,
    tabs_imp s.tabs (fun b ps q => e b _ (fun _ z => by cases z) q) fun b c q z => e b _ (fun _ z => by unfold LamX.CodeO at z; cases z) z, fun a ha => (s.hot a ha).keep k.z⟩
/-- a table grew -/
theorem Sim.tabd (s : Sim G μ S H) (k : LamX.ExtN H H') (t : LamX.Tabs G.tb H') : Sim G μ S H' ∧ Keep H H' := by
  have kp : Keep H H' := .mk' (fun a xs e => k a _ e (fun _ z => by cases z)) fun a od u e => k a _ e (fun _ z => by cases z)
  exact ⟨⟨s.len, fun i o h => let ⟨a, h1, h2⟩ := s.ob i o h; ⟨a, h1, RO.monoX (o := o) h2 (Up.refl _) kp.t fun ho _ n e => k a ho e n⟩, s.inj, t, fun a ha => (s.hot a ha).keep kp.z⟩, kp⟩
/-- a new thing that is none of ours (a tuple) -/
theorem Sim.new (s : Sim G μ S H) {u : HO} (h : H p = none) : Sim G μ S (upd H p u) :=
  s.keep (Keep.new h) fun b ho e => by rw [upd_ne (ne_of_none e h)]; exact e
/-- a new object of ours -/
theorem Sim.alloc (s : Sim G μ S H) {u : HO} (h : H p = none) (n : isLk o = false) (r : RO G (μ ++ [p]) (upd H p u) p o) : Sim G (μ ++ [p]) (S ++ [o]) (upd H p u) := by
  have up := Up.app μ p
  have kp : Keep H (upd H p u) := Keep.new h
  have old : ∀ (i : Nat) q, S[i]? = some q → ∃ a, (μ ++ [p])[i]? = some a ∧ RO G (μ ++ [p]) (upd H p u) a q := fun i q e => by
    obtain ⟨a, h1, h2⟩ := s.ob i q e
    exact ⟨a, up _ _ h1, RO.mono (o := q) h2 up kp fun ho z => by rw [upd_ne (ne_of_none z h)]; exact z⟩
  have cs : ∀ (i : Nat) q, (S ++ [o])[i]? = some q → S[i]? = some q ∨ (i = S.length ∧ q = o) := fun i q e => by
    by_cases hi : i < S.length
    · rw [List.getElem?_append_left hi] at e; exact .inl e
    · rw [List.getElem?_append_right (by omega)] at e
      have hz : i - S.length = 0 := by
        by_cases hz : i - S.length = 0
        · exact hz
        · rw [List.getElem?_eq_none (by simp; omega)] at e; cases e
      rw [hz] at e; simp at e
      exact .inr ⟨by omega, e.symm⟩
  refine ⟨by simp [s.len], fun i q e => ?_, fun i j oi oj a ei ej ni nj hi hj => ?_, s.tabs.ext fun b ho e => (by rw [upd_ne (ne_of_none e h)]; exact e), fun a ha => (s.hot a ha).keep kp.z⟩
  · rcases cs i q e with e | ⟨e1, e2⟩
    · exact old i q e
    · subst e1; subst e2
      exact ⟨p, by rw [← s.len]; simp, r⟩
  · have notnew : ∀ (k : Nat) ok, S[k]? = some ok → isLk ok = false → μ[k]? = some a → a ≠ p := fun k ok ek nk hk z => by
      obtain ⟨b, h1, h2⟩ := s.ob k ok ek
      rw [hk] at h1; cases h1
      obtain ⟨ho, h3, _⟩ := RO.there (o := ok) h2 nk
      rw [z, h] at h3; cases h3
    have back : ∀ (k : Nat) ok, S[k]? = some ok → (μ ++ [p])[k]? = some a → μ[k]? = some a := fun k ok ek hk => by
      have : k < S.length := (List.getElem?_eq_some_iff.mp ek).1
      rw [List.getElem?_append_left (by rw [s.len]; exact this)] at hk; exact hk
    rcases cs i oi ei with e1 | ⟨e1, _⟩
    · have hi' := back i oi e1 hi
      rcases cs j oj ej with e2 | ⟨e2, _⟩
      · exact s.inj i j oi oj a e1 e2 ni nj hi' (back j oj e2 hj)
      · subst e2
        rw [← s.len, List.getElem?_append_right (Nat.le_refl _)] at hj
        simp at hj
        exact absurd hj.symm (notnew i oi e1 ni hi')
    · subst e1
      have hp : a = p := by
        rw [← s.len, List.getElem?_append_right (Nat.le_refl _)] at hi
        simpa using hi.symm
      rcases cs j oj ej with e2 | ⟨e2, _⟩
      · exact absurd hp (notnew j oj e2 nj (back j oj e2 hj))
      · exact e2.symm
/-- an object of ours is changed -/
theorem Sim.putT (s : Sim G μ S H) {i : Nat} {o o' : Obj} {u : HO} (e : S[i]? = some o) (n : isLk o = false) (n' : isLk o' = false) (ha : μ[i]? = some a) (r : RO G μ (upd H a u) a o') (nx : isEx o = false := by rfl) : Sim G μ (S.set i o') (upd H a u) ∧ KeepT H (upd H a u) := by
  obtain ⟨b, h1, h2⟩ := s.ob i o e
  rw [ha] at h1; cases h1
  obtain ⟨ho, h3, h4⟩ := RO.there (o := o) h2 n
  have kp : KeepT H (upd H a u) := ⟨fun b xs e => by rw [upd_ne (ne_of e h3 (fun z => h4.1 xs z.symm))]; exact e, fun b od ys e => by rw [upd_ne (ne_of e h3 (fun z => h4.2 od ys z.symm))]; exact e⟩
  have hl : i < S.length := (List.getElem?_eq_some_iff.mp e).1
  obtain ⟨ho2, t1, t2, t3⟩ := RO.noTab (o := o) h2 n
  refine ⟨⟨by simp [s.len], fun j q ej => ?_, fun j k oj ok b ej ek nj nk hj hk => ?_, tabs_upd s.tabs t1 t2 t3, fun b hb => ?_⟩, kp⟩
  · by_cases hj : i = j
    · subst hj
      rw [List.getElem?_set_self hl] at ej; cases ej
      exact ⟨a, ha, r⟩
    · rw [List.getElem?_set_ne hj] at ej
      obtain ⟨b, h5, h6⟩ := s.ob j q ej
      refine ⟨b, h5, ?_⟩
      by_cases hb : b = a
      · subst hb
        by_cases nq : isLk q = false
        · exact absurd (s.inj i j o q b e ej n nq ha h5) hj
        · -- a locked one at the same place: it is of the text
          cases q with
          | lst l xs => cases l with
            | true =>
              obtain ⟨ys, h7, h8⟩ := h6
              refine ⟨ys, ?_, h8.monoT (Up.refl _) kp⟩
              rcases h7 with ⟨ob, h7⟩ | h7
              · rw [h3] at h7
                cases o with
                | lst l2 xs2 => cases l2 with
                  | false => obtain ⟨_, z, _⟩ := h2; rw [h3] at z; cases z; cases h7
                  | true => cases n
                | dK l2 xs2 => cases l2 with
                  | false => obtain ⟨_, z, _⟩ := h2; rw [h3] at z; cases z; cases h7
                  | true => obtain ⟨_, _, z, _⟩ := h2; rw [h3] at z; cases z; cases h7
                | dT l2 xs2 => cases l2 with
                  | false => obtain ⟨_, z, _⟩ := h2; rw [h3] at z; cases z; cases h7
                  | true => obtain ⟨_, _, z, _⟩ := h2; rw [h3] at z; cases z; cases h7
                | ins c fs => obtain ⟨_, _, z, _⟩ := h2; rw [h3] at z; cases z; cases h7
                | exn c fs => obtain ⟨_, _, z, _⟩ := h2; rw [h3] at z; cases z; cases h7
              · exact .inr h7
            | false => exact absurd rfl nq
          | _ => exact absurd rfl nq
      · exact RO.monoT (o := q) h6 (Up.refl _) kp fun ho z => by rw [upd_ne hb]; exact z
  · have old : ∀ (m : Nat) om, (S.set i o')[m]? = some om → isLk om = false → ∃ om', S[m]? = some om' ∧ isLk om' = false := fun m om em nm => by
      by_cases hm : i = m
      · subst hm; exact ⟨o, e, n⟩
      · rw [List.getElem?_set_ne hm] at em; exact ⟨om, em, nm⟩
    obtain ⟨oj', e1, n1⟩ := old j oj ej nj
    obtain ⟨ok', e2, n2⟩ := old k ok ek nk
    exact s.inj j k oj' ok' b e1 e2 n1 n2 hj hk
  · obtain ⟨oe, vs, z1, z2, z3⟩ := s.hot b hb
    have hne : b ≠ a := fun z => by
      rw [z] at z1
      obtain ⟨hq, q1, q2⟩ := RO.noOwn (o := o) h2 n nx
      rw [q1] at z1
      exact q2 _ _ (Option.some.inj z1)
    exact ⟨oe, vs, by rw [upd_ne hne]; exact z1, z2, z3⟩
theorem Sim.put (s : Sim G μ S H) {i : Nat} {o o' : Obj} {u : HO} (e : S[i]? = some o) (n : isLk o = false) (n' : isLk o' = false) (ha : μ[i]? = some a) (r : RO G μ (upd H a u) a o') (nz : isFz o = false := by rfl) : Sim G μ (S.set i o') (upd H a u) ∧ Keep H (upd H a u) := by
  obtain ⟨s1, _⟩ := s.putT e n n' ha r (by cases o <;> first | rfl | cases nz)
  obtain ⟨b, h1, h2⟩ := s.ob i o e
  rw [ha] at h1; cases h1
  obtain ⟨ho, h3, h4⟩ := RO.unFz (o := o) h2 n nz
  exact ⟨s1, Keep.upd h3 h4⟩
end

/-! ## the frame's names -/
structure REnv (μ : List Addr) (H : Hp) (env : Env) (σ : St) : Prop where
  len : env.length = σ.length
  at_ : ∀ (i : Nat) v, env[i]? = some (some v) → ∃ x, σ[i]? = some (some x) ∧ RV μ H v x
section
variable {μ μ' : List Addr} {H H' : Hp} {env : Env} {σ : St}
theorem REnv.monoT (r : REnv μ H env σ) (u : Up μ μ') (k : KeepT H H') : REnv μ' H' env σ :=
  ⟨r.len, fun i v e => let ⟨x, h1, h2⟩ := r.at_ i v e; ⟨x, h1, h2.monoT u k v x⟩⟩
theorem REnv.mono (r : REnv μ H env σ) (u : Up μ μ') (k : Keep H H') : REnv μ' H' env σ := r.monoT u k.t
theorem REnv.set (r : REnv μ H env σ) {i : Nat} {v : Val} {x : V} (h : RV μ H v x) : REnv μ H (env.set i (some v)) (σ.set i (some x)) := by
  refine ⟨by simp [r.len], fun j w e => ?_⟩
  by_cases hj : i = j
  · subst hj
    have hl : i < env.length := by
      have := (List.getElem?_eq_some_iff.mp e).1
      simpa using this
    rw [List.getElem?_set_self hl] at e
    cases e
    exact ⟨x, List.getElem?_set_self (by rw [← r.len]; exact hl), h⟩
  · rw [List.getElem?_set_ne hj] at e
    rw [List.getElem?_set_ne hj]
    exact r.at_ j w e
theorem REnv.clear (r : REnv μ H env σ) {i : Nat} : REnv μ H (env.set i none) (σ.set i none) := by
  refine ⟨by simp [r.len], fun j w e => ?_⟩
  by_cases hj : i = j
  · subst hj
    by_cases hl : i < env.length
    · rw [List.getElem?_set_self hl] at e; cases e
    · rw [List.getElem?_eq_none (by simp; omega)] at e; cases e
  · rw [List.getElem?_set_ne hj] at e
    rw [List.getElem?_set_ne hj]
    exact r.at_ j w e
end

/-! ## readings -/
/-- an exception as it lies behind -/
def RX (G : Cfg) (μ : List Addr) (H : Hp) (e : Exn) (d : Option Addr) : Prop :=
  (e.fs = [] ∧ d = none) ∨ ∃ a ys, d = some a ∧ H a = some (.xd ys) ∧ RF G μ H e.fs ys
def After {α : Type} (G : Cfg) (W : WX) (σ : St) (μ : List Addr) (H : Hp) (r : Res α) (k : α → List Addr → Store → Hp → Prop) : Prop :=
  match r with
  | .ok a S => ∀ μ' H', Up μ μ' → Keep H H' → Sim G μ' S H' → k a μ' S H'
  | .ex e S => ∀ μ' H' d, Up μ μ' → Keep H H' → Sim G μ' S H' → RX G μ' H' e d → W (.ref (G.ca e.c)) d σ H'
  | .no => False
section
variable {α β : Type} {G : Cfg} {W : WX} {σ : St} {μ μ1 : List Addr} {H H1 : Hp} {r : Res α} {k : α → List Addr → Store → Hp → Prop}
theorem After.later (h : After G W σ μ H r k) (u : Up μ μ1) (kp : Keep H H1) : After G W σ μ1 H1 r k := by
  cases r with
  | ok a S => exact fun μ' H' u' k' s => h μ' H' (u.trans u') (kp.trans k') s
  | ex e S => exact fun μ' H' d u' k' s => h μ' H' d (u.trans u') (kp.trans k') s
  | no => exact h
theorem After.bind {f : α → Store → Res β} {k : β → List Addr → Store → Hp → Prop} (h : After G W σ μ H (r.bind f) k) : After G W σ μ H r fun a μ' S' H' => After G W σ μ' H' (f a S') k := by
  cases r with
  | ok a S => exact fun μ' H' u' k' s => After.later (r := f a S) h u' k'
  | ex e S => exact h
  | no => exact h
theorem After.imp {k' : α → List Addr → Store → Hp → Prop} (h : After G W σ μ H r k) (i : ∀ a μ' S' H', Up μ μ' → Keep H H' → Sim G μ' S' H' → k a μ' S' H' → k' a μ' S' H') : After G W σ μ H r k' := by
  cases r with
  | ok a S => exact fun μ' H' u k s => i a μ' S H' u k s (h μ' H' u k s)
  | ex e S => exact h
  | no => exact h
end
abbrev Kv (Q : VK) : Val → List Addr → Store → Hp → Prop := fun v μ _ H => ∀ x, RV μ H v x → Q x H
def lift (G : Cfg) (W : WX) (m : Env → Store → Res Val) : TE := fun σ H Q => ∃ μ env S, Sim G μ S H ∧ REnv μ H env σ ∧ After G W σ μ H (m env S) (Kv Q)
def liftA (G : Cfg) (W : WX) (m : Env → Store → Res (List Val)) : TA := fun σ H Q => ∃ μ env S, Sim G μ S H ∧ REnv μ H env σ ∧ After G W σ μ H (m env S) fun vs μ' _ H' => ∀ xs, RVs μ' H' vs xs → Q xs H'
/-- as a test -/
def tst (m : Env → Store → Res Val) : Env → Store → Res Bool := fun env S => (m env S).bind fun v S1 => Res.ofO (tru S1 v) S1
def liftT (G : Cfg) (W : WX) (m : Env → Store → Res Bool) : TT := fun σ H Q => ∃ μ env S, Sim G μ S H ∧ REnv μ H env σ ∧ After G W σ μ H (m env S) fun b _ _ H' => Q b H'
def AfterO (G : Cfg) (W : WX) (μ : List Addr) (H : Hp) (o : Out) (D : Ends) : Prop :=
  match o with
  | .nx e S => ∀ μ' H' σ', Up μ μ' → Keep H H' → Sim G μ' S H' → REnv μ' H' e σ' → D.nx σ' H'
  | .rt v S => ∀ μ' H' x, Up μ μ' → Keep H H' → Sim G μ' S H' → RV μ' H' v x → D.rt x H'
  | .bk e S => ∀ μ' H' σ', Up μ μ' → Keep H H' → Sim G μ' S H' → REnv μ' H' e σ' → D.bk σ' H'
  | .ct e S => ∀ μ' H' σ', Up μ μ' → Keep H H' → Sim G μ' S H' → REnv μ' H' e σ' → D.ct σ' H'
  | .ex x e S => ∀ μ' H' σ' d, Up μ μ' → Keep H H' → Sim G μ' S H' → REnv μ' H' e σ' → RX G μ' H' x d → W (.ref (G.ca x.c)) d σ' H'
  | .no => False
def liftS (G : Cfg) (W : WX) (m : Env → Store → Out) : TS := fun D σ H => ∃ μ env S, Sim G μ S H ∧ REnv μ H env σ ∧ AfterO G W μ H (m env S) D
theorem AfterO.later {G : Cfg} {W : WX} {μ μ1 : List Addr} {H H1 : Hp} {o : Out} {D : Ends} (h : AfterO G W μ H o D) (u : Up μ μ1) (k : Keep H H1) : AfterO G W μ1 H1 o D := by
  cases o with
  | nx e S => exact fun μ' H' σ' u' k' => h μ' H' σ' (u.trans u') (k.trans k')
  | rt v S => exact fun μ' H' x u' k' => h μ' H' x (u.trans u') (k.trans k')
  | bk e S => exact fun μ' H' σ' u' k' => h μ' H' σ' (u.trans u') (k.trans k')
  | ct e S => exact fun μ' H' σ' u' k' => h μ' H' σ' (u.trans u') (k.trans k')
  | ex x e S => exact fun μ' H' σ' d u' k' => h μ' H' σ' d (u.trans u') (k.trans k')
  | no => exact h

theorem _root_.L2.PE.imp {X : Cx} {e : Expr} {t t' : TE} (h : PE X e t) (i : ∀ σ H Q, t' σ H Q → t σ H Q) : PE X e t' := ⟨fun pins s σ H Q I q => h.run pins s σ H Q I (i σ H Q q)⟩
theorem _root_.L2.PT.imp {X : Cx} {e : Expr} {t t' : TT} (h : PT X e t) (i : ∀ σ H Q, t' σ H Q → t σ H Q) : PT X e t' := ⟨fun pins s σ H Q I q => h.run pins s σ H Q I (i σ H Q q)⟩
theorem _root_.L2.PW.imp {X : Cx} {e : Expr} {t t' : TT} (h : PW X e t) (i : ∀ σ H Q, t' σ H Q → t σ H Q) : PW X e t' := ⟨fun wh pins s σ H Q I q => h.run wh pins s σ H Q I (i σ H Q q)⟩
theorem _root_.L2.PA.imp {X : Cx} {e : List Expr} {t t' : TA} (h : PA X e t) (i : ∀ σ H Q, t' σ H Q → t σ H Q) : PA X e t' := ⟨fun pos pins s σ H Q I q => h.run pos pins s σ H Q I (i σ H Q q)⟩
theorem _root_.L2.PS.imp {X : Cx} {e : Stmt} {t t' : TS} (h : PS X e t) (i : ∀ D σ H, t' D σ H → t D σ H) : PS X e t' := ⟨fun pins s σ H D I q => h.run pins s σ H D I (i D σ H q)⟩
theorem _root_.L2.PSs.imp {X : Cx} {e : List Stmt} {t t' : TS} (h : PSs X e t) (i : ∀ D σ H, t' D σ H → t D σ H) : PSs X e t' := ⟨fun pins s σ H D I q => h.run pins s σ H D I (i D σ H q)⟩
theorem _root_.L2.PE.or {X : Cx} {e : Expr} {t t' : TE} (h : PE X e t) (h' : PE X e t') : PE X e (fun σ H Q => t σ H Q ∨ t' σ H Q) := ⟨fun pins s σ H Q I q => q.elim (h.run pins s σ H Q I) (h'.run pins s σ H Q I)⟩
/-- any of many readings -/
theorem _root_.L2.PE.any {X : Cx} {e : Expr} {ι : Type} {t : ι → TE} (h : ∀ i, PE X e (t i)) : PE X e (fun σ H Q => ∃ i, t i σ H Q) := ⟨fun pins s σ H Q I ⟨i, q⟩ => (h i).run pins s σ H Q I q⟩
end Nw

set_option Elab.async false
set_option linter.all false
set_option maxRecDepth 100000
set_option maxHeartbeats 1000000
namespace Nw
open PySem L2
section
open PySem.Spec PyProof.Rows
/-! tuple * int, a number below 2 -/
theorem tuple_mul0 (l : Addr) (items : Array Value) (n : Nat) (dd : Option Addr) (sl : Array (Option Value)) (x : Int) (u : Tok) (c0 : (decide (x < -(2 ^ 63)) || decide (x ≥ 2 ^ 63)) = false) (c1 : (items.isEmpty || x == 1) = false) (c2 : (decide (x ≤ 0) || items.isEmpty) = true) :
    Meets (Builtin.«tuple.__mul__» ⟨[.ref l, .int x u], []⟩) (fun _ R s => s.heap.get? l = some { cls := .type "tuple", dict := dd, data := .seq items n, slots := sl } ∧
      R (.ok (.ret (Value.ref s.heap.objs.size))) { s with heap := s.heap.push { cls := Value.type "tuple", data := Data.seq #[] }, toks := s.toks }) :=
  .of_wp fun prog w A R s h => by
    obtain ⟨hp, g, d, tk, os⟩ := s
    obtain ⟨hl, h⟩ := h
    have f1 := AutoSeq1.idx_int
    wp_walk using wpAny_loadPart' hl
    repeat (first
      | (refine wpAny_ite_false (decide_eq_false (by rw [c0]; exact Bool.false_ne_true)) ?_; wp_walk using wpAny_loadPart' hl)
      | (refine wpAny_ite_false (decide_eq_false (by rw [c1]; exact Bool.false_ne_true)) ?_; wp_walk using wpAny_loadPart' hl)
      | (refine wpAny_ite_true (decide_eq_true c2) ?_; wp_walk using wpAny_loadPart' hl))
    exact ⟨_, rfl, h⟩
theorem tuple_mul1 (l : Addr) (items : Array Value) (n : Nat) (dd : Option Addr) (sl : Array (Option Value)) (x : Int) (u : Tok) (c0 : (decide (x < -(2 ^ 63)) || decide (x ≥ 2 ^ 63)) = false) (c1 : (items.isEmpty || x == 1) = true) :
    Meets (Builtin.«tuple.__mul__» ⟨[.ref l, .int x u], []⟩) (fun _ R s => s.heap.get? l = some { cls := .type "tuple", dict := dd, data := .seq items n, slots := sl } ∧
      R (.ok (.ret (Value.ref l))) s) :=
  .of_wp fun prog w A R s h => by
    obtain ⟨hp, g, d, tk, os⟩ := s
    obtain ⟨hl, h⟩ := h
    have f1 := AutoSeq1.idx_int
    wp_walk using wpAny_loadPart' hl
    repeat (first
      | (refine wpAny_ite_false (decide_eq_false (by rw [c0]; exact Bool.false_ne_true)) ?_; wp_walk using wpAny_loadPart' hl)
      | (refine wpAny_ite_true (decide_eq_true c1) ?_; wp_walk using wpAny_loadPart' hl))
    exact ⟨_, rfl, h⟩
def rRepS (K : PySem.W.Frag) : R2 := fun x y H Q => ∃ l k xs, x = .ref l ∧ y = .int k ∧ SqT K H l xs ∧ xs ≠ [] ∧ -1000 ≤ k ∧ (k = 1 ∧ Q (.ref l) H ∨ k ≤ 0 ∧ ∀ p, H p = none → Q (.ref p) (upd H p (.tup [])))
theorem op_repS {X : Cx} : OpR X (binaryOp .Mult) (rRepS X.K) := by
  intro pins s σ H x y v u Q I rx ry h
  obtain ⟨l, k, xs, rfl, rfl, hT, hne, h1, q⟩ := h
  cases rx
  obtain ⟨t, rfl⟩ := ry
  obtain ⟨its, r, ⟨⟨cls, dd, data, sl⟩, ho, hc, n, hd⟩, hs⟩ := I.tuple hT
  simp only at hc hd
  subst hc hd
  have hle : its.length = xs.length := r.length.symm
  have hn : its ≠ [] := fun e => hne (by
    rw [e] at hle
    exact List.eq_nil_of_length_eq_zero hle.symm)
  have hi : its.toArray.isEmpty = false := by
    cases its with
    | nil => exact absurd rfl hn
    | cons a b => rfl
  have c0 : (decide (k < -(2 ^ 63)) || decide (k ≥ 2 ^ 63)) = false := by
    rw [decide_eq_false (by omega), decide_eq_false (by omega)] <;> rfl
  rcases q with ⟨e, q⟩ | ⟨e, q⟩
  · have c1 : (its.toArray.isEmpty || k == 1) = true := by rw [e]; simp
    refine wpAny_binaryOp_repeat_ref (T := "tuple") (U := "int") (by decide) ⟨_, ho, rfl⟩ (fun s' => typeIs_int s' k t) noFill_tuple_mul F.fills_int_mul F.slot_int_rmul repeat_tuple F.slot_int_index.lookup
      (call_meets F.slot_int_rmul (typeIs_int s k t) F.entry_int_rmul (F.args_int_rmul_2 _ _) (int_rmul_tuple k t l its.toArray n dd sl)
        ⟨ho, rfl, ⟨_, ho, rfl⟩, call_meets F.slot_tuple_mul ⟨_, ho, rfl⟩ F.entry_tuple_mul (F.args_tuple_mul_2 _ _) (tuple_mul1 l its.toArray n dd sl k t c0 c1) ⟨ho, ?_⟩⟩)
    exact ⟨.ref l, H, I, rfl, q⟩
  · have c1 : (its.toArray.isEmpty || k == 1) = false := by
      rw [hi, Bool.false_or]
      exact beq_eq_false_iff_ne.mpr (by omega)
    have c2 : (decide (k ≤ 0) || its.toArray.isEmpty) = true := by rw [decide_eq_true e]; rfl
    refine wpAny_binaryOp_repeat_ref (T := "tuple") (U := "int") (by decide) ⟨_, ho, rfl⟩ (fun s' => typeIs_int s' k t) noFill_tuple_mul F.fills_int_mul F.slot_int_rmul repeat_tuple F.slot_int_index.lookup
      (call_meets F.slot_int_rmul (typeIs_int s k t) F.entry_int_rmul (F.args_int_rmul_2 _ _) (int_rmul_tuple k t l its.toArray n dd sl)
        ⟨ho, rfl, ⟨_, ho, rfl⟩, call_meets F.slot_tuple_mul ⟨_, ho, rfl⟩ F.entry_tuple_mul (F.args_tuple_mul_2 _ _) (tuple_mul0 l its.toArray n dd sl k t c0 c1 c2) ⟨ho, ?_⟩⟩)
    refine ⟨.ref s.heap.objs.size, _, I.laid (t' := s.toks) (o := .tup []) (fun b ob q => Heap.get?_push_of_some _ q) (Nat.le_refl _) ?_, rfl, q _ (I.hok.fresh (Nat.le_refl _))⟩
    exact ⟨Nat.zero_le _, [], .nil, IsTup.new _ _⟩
end

section
variable {α β : Type} {G : Cfg} {W : WX} {X : Cx} {σ : St} {μ : List Addr} {H : Hp} {S : Store} {Q : VK}

theorem After.here {v : α} {k : α → List Addr → Store → Hp → Prop} (h : After G W σ μ H (.ok v S) k) (s : Sim G μ S H) : k v μ S H := h μ H (Up.refl _) (Keep.refl _) s
/-- a value that is there already -/
theorem After.val {v : Val} {x : V} (h : After G W σ μ H (.ok v S) (Kv Q)) (s : Sim G μ S H) (r : RV μ H v x) : Q x H := h.here s x r
theorem After.ofO {o : Option α} {k : α → List Addr → Store → Hp → Prop} (h : After G W σ μ H (Res.ofO o S) k) : ∃ v, o = some v ∧ After G W σ μ H (.ok v S) k := by
  cases o with
  | none => exact h.elim
  | some v => exact ⟨v, rfl, h⟩
/-- a new object of ours -/
theorem After.alloc {o : Obj} {u : HO} {p : Addr} (h : After G W σ μ H (.ok (.obj S.length) (S ++ [o])) (Kv Q)) (s : Sim G μ S H) (hp : H p = none) (n : isLk o = false) (r : RO G (μ ++ [p]) (upd H p u) p o) : Q (.ref p) (upd H p u) := by
  refine h (μ ++ [p]) (upd H p u) (Up.app _ _) (Keep.new hp) (s.alloc hp n r) _ (.obj ?_)
  rw [← s.len]; simp
theorem After.lst {xs : List Val} {ys : List V} {p : Addr} (h : After G W σ μ H (.ok (.obj S.length) (S ++ [.lst false xs])) (Kv Q)) (s : Sim G μ S H) (r : RVs μ H xs ys) (hp : H p = none) : Q (.ref p) (upd H p (.lst ys)) :=
  h.alloc s hp rfl ⟨ys, upd_same, r.mono (Up.app _ _) (Keep.new hp)⟩
theorem After.tup {xs : List Val} {ys : List V} {p : Addr} (h : After G W σ μ H (.ok (.tup xs) S) (Kv Q)) (s : Sim G μ S H) (r : RVs μ H xs ys) (hp : H p = none) : Q (.ref p) (upd H p (.tup ys)) :=
  h μ (upd H p (.tup ys)) (Up.refl _) (Keep.new hp) (s.new hp) _ (.tup upd_same (r.mono (Up.refl _) (Keep.new hp)))
/-- an object of ours is changed, a value told -/
theorem After.put {i : Nat} {o o' : Obj} {u : HO} {a : Addr} {v : Val} {x : V} (h : After G W σ μ H (.ok v (S.set i o')) (Kv Q)) (s : Sim G μ S H) (e : S[i]? = some o) (n : isLk o = false) (n' : isLk o' = false) (ha : μ[i]? = some a) (r : RO G μ (upd H a u) a o') (rv : RV μ H v x) (nz : isFz o = false := by rfl) : Q x (upd H a u) := by
  obtain ⟨s', k⟩ := s.put e n n' ha r nz
  exact h μ _ (Up.refl _) k s' x (rv.mono (Up.refl _) k)
/-- .. a list -/
theorem Sim.lst (s : Sim G μ S H) {i : Nat} {xs : List Val} (e : S[i]? = some (.lst false xs)) : ∃ a ys, μ[i]? = some a ∧ H a = some (.lst ys) ∧ RVs μ H xs ys := by
  obtain ⟨a, h1, ys, h2, h3⟩ := s.ob i _ e
  exact ⟨a, ys, h1, h2, h3⟩
theorem Sim.lstR (s : Sim G μ S H) {i : Nat} {l : Bool} {xs : List Val} (e : S[i]? = some (.lst l xs)) : ∃ a ys, μ[i]? = some a ∧ SqL G.K H a ys ∧ RVs μ H xs ys := by
  obtain ⟨a, h1, h2⟩ := s.ob i _ e
  cases l with
  | false => obtain ⟨ys, h2, h3⟩ := h2; exact ⟨a, ys, h1, SqL.of h2, h3⟩
  | true => obtain ⟨ys, h2, h3⟩ := h2; exact ⟨a, ys, h1, h2.sq, h3⟩
theorem Sim.dK (s : Sim G μ S H) {i : Nat} {kvs : List (Key × Val)} (e : S[i]? = some (.dK false kvs)) : ∃ a ys, μ[i]? = some a ∧ H a = some (.dK ys) ∧ RKv μ H kvs ys ∧ ∀ p ∈ kvs, kOk p.1 = true := by
  obtain ⟨a, h1, ys, h2, h3⟩ := s.ob i _ e
  exact ⟨a, ys, h1, h2, h3⟩
theorem Sim.dT (s : Sim G μ S H) {i : Nat} {kvs : List (List Key × Val)} (e : S[i]? = some (.dT false kvs)) : ∃ a ys, μ[i]? = some a ∧ H a = some (.dT ys) ∧ RKv μ H kvs ys ∧ ∀ p ∈ kvs, ∀ k ∈ p.1, kOk k = true := by
  obtain ⟨a, h1, ys, h2, h3⟩ := s.ob i _ e
  exact ⟨a, ys, h1, h2, h3⟩
theorem Sim.dKR (s : Sim G μ S H) {i : Nat} {l : Bool} {kvs : List (Key × Val)} (e : S[i]? = some (.dK l kvs)) : ∃ a ys, μ[i]? = some a ∧ Rd H a (.dK ys) ∧ RKv μ H kvs ys ∧ ∀ p ∈ kvs, kOk p.1 = true := by
  obtain ⟨a, h1, h2⟩ := s.ob i _ e
  cases l with
  | false => obtain ⟨ys, h2, h3⟩ := h2; exact ⟨a, ys, h1, .inl h2, h3⟩
  | true => obtain ⟨od, ys, h2, h3⟩ := h2; exact ⟨a, ys, h1, .inr ⟨od, h2⟩, h3⟩
theorem Sim.dTR (s : Sim G μ S H) {i : Nat} {l : Bool} {kvs : List (List Key × Val)} (e : S[i]? = some (.dT l kvs)) : ∃ a ys, μ[i]? = some a ∧ Rd H a (.dT ys) ∧ RKv μ H kvs ys ∧ ∀ p ∈ kvs, ∀ k ∈ p.1, kOk k = true := by
  obtain ⟨a, h1, h2⟩ := s.ob i _ e
  cases l with
  | false => obtain ⟨ys, h2, h3⟩ := h2; exact ⟨a, ys, h1, .inl h2, h3⟩
  | true => obtain ⟨od, ys, h2, h3⟩ := h2; exact ⟨a, ys, h1, .inr ⟨od, h2⟩, h3⟩
theorem Sim.ins (s : Sim G μ S H) {i c : Nat} {fs : List (Nat × Val)} (e : S[i]? = some (.ins c fs)) : ∃ a dx ys, μ[i]? = some a ∧ H a = some (.ins (G.ca c) dx ys) ∧ RF G μ H fs ys := by
  obtain ⟨a, h1, dx, ys, h2, h3⟩ := s.ob i _ e
  exact ⟨a, dx, ys, h1, h2, h3⟩
/-- keys -/
theorem key_rel {v : Val} {x : V} {k : Key} (r : RV μ H v x) (e : keyOf v = some k) : x = kV k ∧ v = keyV k ∧ kOk k = true := by
  cases v with
  | int i => cases r; simp [keyOf] at e; subst e; exact ⟨rfl, rfl, rfl⟩
  | str i => cases r with | str h => simp [keyOf] at e; subst e; exact ⟨rfl, rfl, h⟩
  | _ => simp [keyOf] at e
theorem keys_rel : ∀ {vs : List Val} {xs : List V} {ks : List Key}, RVs μ H vs xs → vs.mapM keyOf = some ks → xs = ks.map kV ∧ vs = ks.map keyV ∧ ∀ k ∈ ks, kOk k = true
  | [], _, ns, h, e => by cases h; simp at e; subst e; exact ⟨rfl, rfl, by simp⟩
  | v :: vs, _, ns, h, e => by
    cases h with
    | cons h t =>
      rw [List.mapM_cons] at e
      cases e1 : keyOf v with
      | none => rw [e1] at e; simp at e
      | some k =>
        cases e2 : vs.mapM keyOf with
        | none => rw [e1, e2] at e; simp at e
        | some ms =>
          rw [e1, e2] at e; simp at e; subst e
          obtain ⟨h1, h2, h3⟩ := keys_rel t e2
          obtain ⟨k1, k2, k3⟩ := key_rel h e1
          exact ⟨by rw [h1, k1]; rfl, by rw [h2, k2]; rfl, by simpa using ⟨k3, h3⟩⟩
theorem keysT_rel {v : Val} {x : V} {ks : List Key} (r : RV μ H v x) (e : keysOf v = some ks) : ∃ b, x = .ref b ∧ H b = some (.tup (ks.map kV)) ∧ ∀ k ∈ ks, kOk k = true := by
  cases v with
  | tup xs =>
    cases r with
    | tup h t =>
      obtain ⟨h1, h2, h3⟩ := keys_rel t e
      exact ⟨_, rfl, by rw [h, h1], h3⟩
  | _ => simp [keysOf] at e
theorem RV.key {k : Key} (h : kOk k = true) : RV μ H (keyV k) (kV k) := by
  cases k with
  | inl i => exact .int i
  | inr s => exact .str h

/-! ## parts -/
theorem one {m : Env → Store → Res Val} {f : Val → Env → Store → Res α} {k : α → List Addr → Store → Hp → Prop}
    (h : ∃ μ env S, Sim G μ S H ∧ REnv μ H env σ ∧ After G W σ μ H ((m env S).bind fun x S1 => f x env S1) k) :
    lift G W m σ H fun x' H1 => ∃ μ env x S, Sim G μ S H1 ∧ REnv μ H1 env σ ∧ RV μ H1 x x' ∧ After G W σ μ H1 (f x env S) k := by
  obtain ⟨μ, env, S, s, e, h⟩ := h
  exact ⟨μ, env, S, s, e, h.bind.imp fun x μ1 S1 H1 u1 k1 s1 h1 x' rx => ⟨μ1, env, x, S1, s1, e.mono u1 k1, rx, h1⟩⟩
theorem oneA {m : Env → Store → Res (List Val)} {f : List Val → Env → Store → Res α} {k : α → List Addr → Store → Hp → Prop}
    (h : ∃ μ env S, Sim G μ S H ∧ REnv μ H env σ ∧ After G W σ μ H ((m env S).bind fun x S1 => f x env S1) k) :
    liftA G W m σ H fun xs H1 => ∃ μ env vs S, Sim G μ S H1 ∧ REnv μ H1 env σ ∧ RVs μ H1 vs xs ∧ After G W σ μ H1 (f vs env S) k := by
  obtain ⟨μ, env, S, s, e, h⟩ := h
  exact ⟨μ, env, S, s, e, h.bind.imp fun x μ1 S1 H1 u1 k1 s1 h1 x' rx => ⟨μ1, env, x, S1, s1, e.mono u1 k1, rx, h1⟩⟩
theorem two {ma mb : Env → Store → Res Val} {f : Val → Val → Env → Store → Res α} {k : α → List Addr → Store → Hp → Prop}
    (h : ∃ μ env S, Sim G μ S H ∧ REnv μ H env σ ∧ After G W σ μ H ((ma env S).bind fun x S1 => (mb env S1).bind fun y S2 => f x y env S2) k) :
    lift G W ma σ H fun x' H1 => lift G W mb σ H1 fun y' H2 => ∃ μ env x y S, Sim G μ S H2 ∧ REnv μ H2 env σ ∧ RV μ H2 x x' ∧ RV μ H2 y y' ∧ After G W σ μ H2 (f x y env S) k := by
  obtain ⟨μ, env, S, s, e, h⟩ := h
  exact ⟨μ, env, S, s, e, h.bind.imp fun x μ1 S1 H1 u1 k1 s1 h1 x' rx => ⟨μ1, env, S1, s1, e.mono u1 k1, h1.bind.imp fun y μ2 S2 H2 u2 k2 s2 h2 y' ry =>
    ⟨μ2, env, x, y, S2, s2, (e.mono u1 k1).mono u2 k2, rx.mono u2 k2 _ _, ry, h2⟩⟩⟩
theorem lift_mono {m : Env → Store → Res Val} {Q' : VK} (h : lift G W m σ H Q) (i : ∀ x H1, Q x H1 → Q' x H1) : lift G W m σ H Q' := by
  obtain ⟨μ, env, S, s, e, h⟩ := h
  exact ⟨μ, env, S, s, e, h.imp fun x μ1 S1 H1 u1 k1 s1 h1 x' rx => i _ _ (h1 x' rx)⟩

/-! ## names, constants -/
def cOk : Val → Bool
  | .str s => sOk s
  | .non => true
  | .bl _ => true
  | .int _ => true
  | _ => false
def cV : Val → V
  | .str s => .str s
  | .non => .non
  | .bl b => .bl b
  | .int i => .int i
  | _ => .non
theorem cV_rel {v : Val} (h : cOk v = true) : RV μ H v (cV v) := by
  cases v with
  | str s => exact .str h
  | non => exact .non
  | bl b => exact .bl b
  | int i => exact .int i
  | _ => cases h
theorem de_c {e : Expr} {v : Val} (hv : cOk v = true) (h : PE X e (tC (cV v))) : PE X e (lift G W fun _ S => .ok v S) :=
  h.imp fun σ H Q ⟨μ, env, S, s, r, q⟩ => q.val s (cV_rel hv)
theorem de_var {e : Expr} {i : Nat} {G' : Tab} {ft : Fns} (h : PE X e (tVar i)) : PE X e (lift G W (ev G' ft (.var i))) := by
  refine h.imp fun σ H Q ⟨μ, env, S, s, r, q⟩ => ?_
  rw [ev] at q
  obtain ⟨v, e, q⟩ := q.ofO
  obtain ⟨x, h1, h2⟩ := r.at_ i v (by
    cases z : env[i]? with
    | none => rw [z] at e; cases e
    | some o => rw [z] at e; simp at e; rw [e])
  exact ⟨x, h1, q.val s h2⟩

/-! ## two-place operators -/
theorem natAbs64 {i : Int} (h : i.natAbs < 2 ^ 64) : -(2 ^ 64) < i ∧ i < 2 ^ 64 := by
  have : (2 : Nat) ^ 64 = 18446744073709551616 := by decide
  omega
theorem line_eq : line = sizeLine := by rw [sizeLine_eq]; rfl

/-- what stands at a two-place operation -/
def St2 (X : Cx) (f : Store → Val → Val → Res Val) : R2 := fun x y H Q => ∃ (G : Cfg) (W : WX) (σ : St) (μ : List Addr) (v w : Val) (S : Store), G.K = X.K ∧ Sim G μ S H ∧ RV μ H v x ∧ RV μ H w y ∧ After G W σ μ H (f S v w) (Kv Q)
theorem sOk_app {a b : Str} (h1 : sOk a = true) (h2 : sOk b = true) : sOk (a ++ b) = true := by
  unfold sOk at h1 h2 ⊢
  show ((a.cps ++ b.cps).all _) = true
  rw [Array.all_append, h1, h2]; rfl
theorem RVs.nil_iff {xs : List Val} {ys : List V} (h : RVs μ H xs ys) : xs = [] ↔ ys = [] := by
  cases h <;> simp
theorem bin_add : OpR X (binaryOp .Add) (St2 X addV) := by
  intro pins s σ H x y u w Q I ru rw_ h
  refine ((op_add.or op_add_str).or (op_catA.or op_cat)) pins s σ H x y u w Q I ru rw_ ?_
  obtain ⟨G, W, σ', μ, v, w', S, hK, sm, r1, r2, h⟩ := h
  unfold addV at h
  split at h
  case h_1 i j => cases r1; cases r2; exact .inl (.inl ⟨_, _, rfl, rfl, h.val sm (.int _)⟩)
  case h_2 a b =>
    cases r1 with
    | str h1 =>
    cases r2 with
    | str h2 =>
    split at h
    · rename_i hl
      exact .inl (.inr ⟨_, _, rfl, rfl, by rw [← line_eq]; exact hl, h.val sm (.str (sOk_app h1 h2))⟩)
    · exact h.elim
  case h_3 xs ys =>
    cases r1 with
    | tup h1 t1 =>
    cases r2 with
    | tup h2 t2 =>
    split at h
    · rename_i hl
      refine .inr (.inl ⟨_, _, _, _, rfl, rfl, SqT.of h1, SqT.of h2, by rw [← line_eq, ← t1.length, ← t2.length]; exact hl, fun e => ?_, fun e1 e2 => ?_, fun e1 e2 p hp => ?_⟩)
      · have e' := t1.nil_iff.mpr e
        subst e'
        exact h.val sm (.tup h2 (by simpa using t2))
      · have e' := t2.nil_iff.mpr e2
        subst e'
        exact h.val sm (.tup h1 (by simpa using t1))
      · exact h.tup sm (t1.app t2) hp
    · exact h.elim
  case h_4 i j =>
    cases r1 with
    | obj h1 =>
    cases r2 with
    | obj h2 =>
    split at h
    · rename_i xs ys e1 e2
      split at h
      · rename_i hl
        obtain ⟨a, zs, g1, g2, g3⟩ := sm.lst e1
        obtain ⟨b, ws, g4, g5, g6⟩ := sm.lst e2
        rw [h1] at g1; cases g1
        rw [h2] at g4; cases g4
        exact .inr (.inr ⟨_, _, _, _, rfl, rfl, g2, g5, by rw [← line_eq, ← g3.length, ← g6.length]; exact hl, fun p hp => h.lst sm (g3.app g6) hp⟩)
      · exact h.elim
    · exact h.elim
  case h_5 => exact h.elim
theorem bin_sub : OpR X (binaryOp .Sub) (St2 X subV) := by
  intro pins s σ H x y u w Q I ru rw_ h
  refine op_sub pins s σ H x y u w Q I ru rw_ ?_
  obtain ⟨G, W, σ', μ, v, w', S, hK, sm, r1, r2, h⟩ := h
  unfold subV at h
  split at h
  · cases r1; cases r2; exact ⟨_, _, rfl, rfl, h.val sm (.int _)⟩
  · exact h.elim
theorem rep_rel {xs : List Val} {ys : List V} (h : RVs μ H xs ys) : ∀ n, RVs μ H (List.replicate n xs).flatten (List.replicate n ys).flatten
  | 0 => .nil
  | n + 1 => by simp only [List.replicate_succ, List.flatten_cons]; exact h.app (rep_rel h n)
theorem foldl_repA (its : List Nat) : ∀ (k : Nat) (acc : List Nat), List.foldl (fun x1 x2 => x1 ++ x2) acc.toArray (List.replicate k its.toArray) = (acc ++ (List.replicate k its).flatten).toArray
  | 0, acc => by simp
  | k + 1, acc => by
    have e : acc.toArray ++ its.toArray = (acc ++ its).toArray := by simp
    have e2 : (acc ++ its) ++ (List.replicate k its).flatten = acc ++ (List.replicate (k + 1) its).flatten := by
      rw [List.replicate_succ, List.flatten_cons, List.append_assoc]
    rw [← e2, ← foldl_repA its k (acc ++ its), ← e, List.replicate_succ, List.foldl_cons]
theorem repS_fold (a : Str) (n : Nat) : (⟨(List.replicate n a.cps).foldl (· ++ ·) #[]⟩ : Str) = repS a n := by
  have h := foldl_repA a.cps.toList n []
  have e : a.cps.toList.toArray = a.cps := by simp
  rw [e, List.nil_append] at h
  unfold repS
  rw [← h]
theorem repS_len (a : Str) (n : Nat) : (repS a n).length = n * a.length := by
  simp [repS, Str.length]
theorem repS_ok {a : Str} (h : sOk a = true) (n : Nat) : sOk (repS a n) = true := by
  unfold sOk at h ⊢
  rw [Array.all_eq_true_iff_forall_mem] at h ⊢
  intro x hx
  simp only [repS, List.mem_toArray, List.mem_flatten] at hx
  obtain ⟨l, hl, hx⟩ := hx
  obtain ⟨_, rfl⟩ := List.mem_replicate.mp hl
  exact h x (by simpa using hx)
def rRepStr : R2 := fun x y H Q => ∃ (a : Str) (k : Int), x = .str a ∧ y = .int k ∧ a.length ≤ 1000 ∧ -1000 ≤ k ∧ k ≤ 1000 ∧ Q (.str (repS a k.toNat)) H
theorem op_repStr : OpR X (binaryOp .Mult) rRepStr := by
  intro pins s σ H x y v u Q I rx ry h
  obtain ⟨a, k, rfl, rfl, h1, h2, h3, q⟩ := h
  obtain ⟨t, rfl⟩ := rx
  obtain ⟨t', rfl⟩ := ry
  have hz : (repS a k.toNat).length ≤ sizeLine := by
    rw [repS_len]
    have : k.toNat * a.length ≤ 1000 * 1000 := Nat.mul_le_mul (by omega) h1
    have e : sizeLine = 16777216 := by decide
    omega
  refine PySem.P.mul_str ?_ (fun _ _ => ?_) (fun _ _ => ?_) ?_
  · have e1 : ¬ k < -(2 ^ 63 : Int) := by omega
    have e2 : ¬ k ≥ 2 ^ 63 := by omega
    rw [decide_eq_false e1, decide_eq_false e2]; rfl
  · intro hc
    rename_i p1 p2
    have hk : 1 ≤ k := by omega
    have h5 : (1000 : Int) ≤ (2 ^ 63 - 1) / k := by
      have : (1000 : Int) * k ≤ 2 ^ 63 - 1 := by omega
      exact (Int.le_ediv_iff_mul_le (by omega)).mpr this
    omega
  · unfold Builtin.Str.tooLong
    have : a.length * k.toNat ≤ 1000 * 1000 := Nat.mul_le_mul h1 (by omega)
    have e : sizeLine = 16777216 := by decide
    simp
    omega
  · have J := I.tok (s.toks + 1)
    split
    · have e0 : k.toNat = 0 := by omega
      have e : Str.empty = repS a k.toNat := by rw [e0]; rfl
      exact ⟨by decide, .str (repS a k.toNat), H, J, ⟨_, by rw [e]⟩, q⟩
    · split
      · rename_i hc
        have e : repS a k.toNat = a := by
          simp at hc
          rcases hc with rfl | hc
          · simp [repS]
          · have hl : a.cps.toList = [] := by
              have : a.cps.toList.length = 0 := by simpa [Str.length] using hc
              exact List.length_eq_zero_iff.mp this
            have h9 : (List.replicate k.toNat a.cps.toList).flatten = [] := by rw [hl]; simp
            unfold repS
            rw [h9]
            have : a = ⟨a.cps.toList.toArray⟩ := by simp
            rw [this, hl]
        rw [e] at q
        exact ⟨.str a, H, I, ⟨t, rfl⟩, q⟩
      · rw [repS_fold]
        exact ⟨hz, .str (repS a k.toNat), H, J, ⟨_, rfl⟩, q⟩
theorem bin_mul : OpR X (binaryOp .Mult) (St2 X mulV) := by
  intro pins s σ H x y u w Q I ru rw_ h
  refine (((op_mul.or op_rep).or (op_repT.or op_repS)).or op_repStr) pins s σ H x y u w Q I ru rw_ ?_
  obtain ⟨G, W, σ', μ, v, w', S, hK, sm, r1, r2, h⟩ := h
  unfold mulV at h
  split at h
  · cases r1; cases r2
    split at h
    · rename_i hc
      refine .inl (.inl (.inl ⟨_, _, rfl, rfl, ?_, h.val sm (.int _)⟩))
      rcases hc with hc | hc
      · exact .inl (natAbs64 hc)
      · exact .inr (natAbs64 hc)
    · exact h.elim
  · cases r1 with
    | obj h1 =>
    cases r2
    split at h
    · rename_i xs e
      split at h
      · rename_i hc
        obtain ⟨a, zs, g1, g2, g3⟩ := sm.lst e
        rw [h1] at g1; cases g1
        exact .inl (.inl (.inr ⟨_, _, _, rfl, rfl, g2, hc.1, hc.2.1, by rw [← line_eq, ← g3.length]; exact hc.2.2, fun p hp => h.lst sm (rep_rel g3 _) hp⟩))
      · exact h.elim
    · exact h.elim
  · cases r1 with
    | tup h1 t1 =>
    cases r2
    split at h
    · rename_i xs k p ys hc
      obtain ⟨c1, c2, c3, c4⟩ := hc
      have hl := t1.length
      have hne : ys ≠ [] := by rintro rfl; simp at hl; subst hl; simp at c1
      by_cases hk : 2 ≤ k
      · exact .inl (.inr (.inl ⟨_, _, _, rfl, rfl, SqT.of h1, hne, hk, c4, by omega, fun p hp => h.tup sm (rep_rel t1 _) hp⟩))
      · refine .inl (.inr (.inr ⟨_, _, _, rfl, rfl, SqT.of h1, hne, c3, ?_⟩))
        by_cases h1k : k = 1
        · subst h1k
          refine .inl ⟨rfl, ?_⟩
          have e : (List.replicate (1 : Int).toNat xs).flatten = xs := by simp
          rw [e] at h
          exact h.val sm (.tup h1 t1)
        · refine .inr ⟨by omega, fun p hp => ?_⟩
          have e0 : k.toNat = 0 := by omega
          have e : (List.replicate k.toNat xs).flatten = [] := by rw [e0]; rfl
          rw [e] at h
          exact h.tup sm .nil hp
    · exact h.elim
  · cases r1 with
    | str hs =>
    cases r2
    split at h
    · rename_i hc
      exact .inr ⟨_, _, rfl, rfl, hc.1, hc.2.1, hc.2.2, h.val sm (.str (repS_ok hs _))⟩
    · exact h.elim
  · exact h.elim
theorem bin_fdiv : OpR X (binaryOp .FloorDiv) (St2 X fdivV) := by
  intro pins s σ H x y u w Q I ru rw_ h
  refine op_fdiv pins s σ H x y u w Q I ru rw_ ?_
  obtain ⟨G, W, σ', μ, v, w', S, hK, sm, r1, r2, h⟩ := h
  unfold fdivV at h
  split at h
  · cases r1; cases r2
    split at h
    · rename_i hc; exact ⟨_, _, rfl, rfl, hc, h.val sm (.int _)⟩
    · exact h.elim
  · exact h.elim
theorem bin_mod : OpR X (binaryOp .Mod) (St2 X modV) := by
  intro pins s σ H x y u w Q I ru rw_ h
  refine op_mod pins s σ H x y u w Q I ru rw_ ?_
  obtain ⟨G, W, σ', μ, v, w', S, hK, sm, r1, r2, h⟩ := h
  unfold modV at h
  split at h
  · cases r1; cases r2
    split at h
    · rename_i hc; exact ⟨_, _, rfl, rfl, hc, h.val sm (.int _)⟩
    · exact h.elim
  · exact h.elim
theorem bin_pow : OpR X (binaryOp .Pow) (St2 X powV) := by
  intro pins s σ H x y u w Q I ru rw_ h
  refine op_pow pins s σ H x y u w Q I ru rw_ ?_
  obtain ⟨G, W, σ', μ, v, w', S, hK, sm, r1, r2, h⟩ := h
  unfold powV at h
  split at h
  · cases r1; cases r2
    split at h
    · rename_i hc; exact ⟨_, _, rfl, rfl, hc, h.val sm (.int _)⟩
    · exact h.elim
  · exact h.elim

def opPy : BinO → Operator
  | .add => .Add | .sub => .Sub | .mul => .Mult | .fdiv => .FloorDiv | .mod => .Mod | .pow => .Pow
theorem bin_all (o : BinO) : OpR X (binaryOp (opPy o)) (St2 X (binV o)) := by
  cases o
  · exact bin_add
  · exact bin_sub
  · exact bin_mul
  · exact bin_fdiv
  · exact bin_mod
  · exact bin_pow
variable {G' : Tab} {ft : Fns}
theorem de_bin {a b : Expr} {pa pb : PyE} {pos : Pos} (o : BinO) (hK : G.K = X.K) (ha : PE X a (lift G W (ev G' ft pa))) (hb : PE X b (lift G W (ev G' ft pb))) : PE X (.BinOp a (opPy o) b pos) (lift G W (ev G' ft (.bin o pa pb))) := by
  refine (pe_op (bin_all o) ha hb).imp fun σ H Q h => ?_
  have h2 := two (f := fun x y _ S => binV o S x y) (by simp only [lift, ev] at h; exact h)
  exact lift_mono h2 fun x H1 h3 => lift_mono h3 fun y H2 ⟨μ, env, v, w, S, s, e, r1, r2, q⟩ => ⟨G, W, σ, μ, v, w, S, hK, s, r1, r2, q⟩
theorem de_neg {a : Expr} {pa : PyE} {pos : Pos} (ha : PE X a (lift G W (ev G' ft pa))) : PE X (.UnaryOp .USub a pos) (lift G W (ev G' ft (.neg pa))) := by
  refine (pe_un un_neg ha).imp fun σ H Q h => ?_
  have h2 := one (f := fun x _ S1 => negV x S1) (by simp only [lift, ev] at h; exact h)
  refine lift_mono h2 fun x H1 ⟨μ, env, v, S, s, e, r, q⟩ => ?_
  cases v with
  | int i => cases r; exact ⟨_, rfl, q.val s (.int _)⟩
  | _ => exact q.elim
end
end Nw

set_option Elab.async false
set_option linter.all false
set_option maxRecDepth 100000
set_option maxHeartbeats 1000000
namespace Nw
open PySem L2

section
variable {α β : Type} {G : Cfg} {W : WX} {X : Cx} {σ : St} {μ : List Addr} {H : Hp} {S : Store} {Q : VK} {G' : Tab} {ft : Fns}

/-! ## data -/
theorem mapM_some {α β : Type} {f : α → Option β} : ∀ {l : List α} {r : List β}, l.mapM f = some r → (∀ x ∈ l, ∃ y ∈ r, f x = some y) ∧ l.length = r.length
  | [], r, e => by simp at e; subst e; simp
  | x :: l, r, e => by
    rw [List.mapM_cons] at e
    cases e1 : f x with
    | none => rw [e1] at e; simp at e
    | some y =>
      cases e2 : l.mapM f with
      | none => rw [e1, e2] at e; simp at e
      | some ys =>
        rw [e1, e2] at e; simp at e; subst e
        obtain ⟨h1, h2⟩ := mapM_some e2
        refine ⟨fun z hz => ?_, by simp [h2]⟩
        rcases List.mem_cons.mp hz with e | hz
        · subst e; exact ⟨y, by simp, e1⟩
        · obtain ⟨w, hw, e3⟩ := h1 z hz
          exact ⟨w, by simp [hw], e3⟩
theorem dats_rel {n : Nat} (ih : ∀ v x d, RV μ H v x → dat n S v = some d → Dp G.K H x d ∧ d.canLay0 = true ∧ d.depth ≤ n) :
    ∀ {vs : List Val} {xs : List V} {ds : List PyData}, RVs μ H vs xs → vs.mapM (dat n S) = some ds → DpAll G.K H xs ds ∧ PyData.canLayAll0 ds = true ∧ PyData.depthAll ds ≤ n
  | [], _, ds, h, e => by cases h; simp at e; subst e; exact ⟨.nil, rfl, Nat.zero_le _⟩
  | v :: vs, _, ds, h, e => by
    cases h with
    | cons h t =>
      rw [List.mapM_cons] at e
      cases e1 : dat n S v with
      | none => rw [e1] at e; simp at e
      | some d =>
        cases e2 : vs.mapM (dat n S) with
        | none => rw [e1, e2] at e; simp at e
        | some ds' =>
          rw [e1, e2] at e; simp at e; subst e
          obtain ⟨a1, a2, a3⟩ := ih _ _ _ h e1
          obtain ⟨b1, b2, b3⟩ := dats_rel ih t e2
          exact ⟨.cons a1 b1, by simp [PyData.canLayAll0, a2, b2], by simp [PyData.depthAll]; omega⟩
theorem dat_rel (s : Sim G μ S H) : ∀ (n : Nat) (v : Val) (x : V) (d : PyData), RV μ H v x → dat n S v = some d → Dp G.K H x d ∧ d.canLay0 = true ∧ d.depth ≤ n
  | n, .non, x, d, r, e => by cases r; cases n <;> (simp [dat] at e; subst e; exact ⟨.non, rfl, Nat.zero_le _⟩)
  | n, .bl b, x, d, r, e => by cases r; cases n <;> (simp [dat] at e; subst e; exact ⟨.bl _, rfl, Nat.zero_le _⟩)
  | n, .int b, x, d, r, e => by cases r; cases n <;> (simp [dat] at e; subst e; exact ⟨.int _, rfl, Nat.zero_le _⟩)
  | n, .str b, x, d, r, e => by
    cases r with
    | str h => cases n <;> (simp [dat] at e; subst e; exact ⟨.str _, by simp [PyData.canLay0]; exact h, Nat.zero_le _⟩)
  | 0, .tup xs, x, d, r, e => by simp [dat] at e
  | n + 1, .tup xs, x, d, r, e => by
    cases r with
    | tup h t =>
      simp only [dat] at e
      cases e2 : xs.mapM (dat n S) with
      | none => rw [e2] at e; cases e
      | some ds =>
        rw [e2] at e; cases e
        obtain ⟨a1, a2, a3⟩ := dats_rel (fun v x d r e => dat_rel s n v x d r e) t e2
        exact ⟨.tup (SqT.of h) a1, by simpa [PyData.canLay0] using a2, by simp [PyData.depth]; omega⟩
  | 0, .obj i, x, d, r, e => by simp [dat] at e
  | n + 1, .obj i, x, d, r, e => by
    cases r with
    | obj h =>
      simp only [dat] at e
      split at e
      · rename_i l xs eo
        cases e2 : xs.mapM (dat n S) with
        | none => rw [e2] at e; cases e
        | some ds =>
          rw [e2] at e; cases e
          obtain ⟨a, ys, g1, g2, g3⟩ := s.lstR eo
          rw [h] at g1; cases g1
          obtain ⟨a1, a2, a3⟩ := dats_rel (fun v x d r e => dat_rel s n v x d r e) g3 e2
          exact ⟨.lst g2 a1, by simpa [PyData.canLay0] using a2, by simp [PyData.depth]; omega⟩
      · cases e
  | n, .fn _ _, x, d, r, e => by cases r
theorem dat_shaped (s : Sim G μ S H) {v : Val} {x : V} {d : PyData} (r : RV μ H v x) (e : dat 64 S v = some d) : Dp G.K H x d ∧ SeqAt.shaped d = true := by
  obtain ⟨h1, h2, h3⟩ := dat_rel s 64 v x d r e
  exact ⟨h1, by unfold SeqAt.shaped; rw [h2, decide_eq_true h3]; rfl⟩

/-- data that can be compared, by themselves -/
def Dshape (d : PyData) : Prop := d.canLay0 = true ∧ d.depth ≤ 160
theorem dat_deep (s : Sim G μ S H) {v : Val} {x : V} {d : PyData} (r : RV μ H v x) (e : dat 160 S v = some d) : Dp G.K H x d ∧ Dshape d := by
  obtain ⟨h1, h2, h3⟩ := dat_rel s 160 v x d r e
  exact ⟨h1, h2, h3⟩
theorem deep_room {A : Around} {d e : PyData} (h : Dshape d) (hu : A.units + 160 < cLine) : A.units + min d.depth e.depth < cLine := by
  have h2 : min d.depth e.depth ≤ d.depth := Nat.min_le_left _ _
  have := h.2
  omega
/-- == and != of such data -/
theorem cmp_deep (hu : X.A.units + 160 < cLine) : OpR X (compareOp .Eq) (fun x y H Q => ∃ d e, Dp X.K H x d ∧ Dp X.K H y e ∧ Dshape d ∧ Dshape e ∧ Q (.bl (PyData.eqv d e)) H) := by
  intro pins s σ H x y v u Q I rx ry ⟨d, e, hd, he, sd, se, q⟩
  obtain ⟨as, r1⟩ := Dp.reads I d x v hd rx
  obtain ⟨bs, r2⟩ := Dp.reads I e y u he ry
  exact SeqAt.compareEq_reads r1 r2 sd.1 se.1 (deep_room sd hu) ⟨.bl _, H, I, rfl, q⟩
theorem cmp_deepN (hu : X.A.units + 160 < cLine) : OpR X (compareOp .NotEq) (fun x y H Q => ∃ d e, Dp X.K H x d ∧ Dp X.K H y e ∧ Dshape d ∧ Dshape e ∧ Q (.bl (!PyData.eqv d e)) H) := by
  intro pins s σ H x y v u Q I rx ry ⟨d, e, hd, he, sd, se, q⟩
  obtain ⟨as, r1⟩ := Dp.reads I d x v hd rx
  obtain ⟨bs, r2⟩ := Dp.reads I e y u he ry
  exact SeqAt.compareNe_reads r1 r2 sd.1 se.1 (deep_room sd hu) ⟨.bl _, H, I, rfl, q⟩

/-- a comparison by values -/
def St2b (X : Cx) (f : Store → Val → Val → Option Bool) : R2 := fun x y H Q => ∃ (G : Cfg) (W : WX) (σ : St) (μ : List Addr) (v w : Val) (S : Store), G.K = X.K ∧ Sim G μ S H ∧ RV μ H v x ∧ RV μ H w y ∧ After G W σ μ H (Res.ofO ((f S v w).map .bl) S) (Kv Q)
theorem After.bool {o : Option Bool} (h : After G W σ μ H (Res.ofO (o.map .bl) S) (Kv Q)) (s : Sim G μ S H) : ∃ b, o = some b ∧ Q (.bl b) H := by
  obtain ⟨v, e, h⟩ := h.ofO
  cases o with
  | none => cases e
  | some b => cases e; exact ⟨b, rfl, h.val s (.bl b)⟩
theorem eqD_rel (s : Sim G μ S H) {v w : Val} {x y : V} {b : Bool} (r1 : RV μ H v x) (r2 : RV μ H w y) (e : eqD S v w = some b) : ∃ d d', Dp G.K H x d ∧ Dp G.K H y d' ∧ Dshape d ∧ Dshape d' ∧ PyData.eqv d d' = b := by
  unfold eqD at e
  cases e1 : dat 160 S v with
  | none => rw [e1] at e; cases e
  | some d =>
    cases e2 : dat 160 S w with
    | none => rw [e1, e2] at e; cases e
    | some d' =>
      rw [e1, e2] at e; cases e
      obtain ⟨a1, a2⟩ := dat_deep s r1 e1
      obtain ⟨b1, b2⟩ := dat_deep s r2 e2
      exact ⟨d, d', a1, b1, a2, b2, rfl⟩
theorem cmp_eq (hu : X.A.units + 160 < cLine) : OpR X (compareOp .Eq) (St2b X (cmpV .eq)) := by
  intro pins s σ H x y u w Q I ru rw_ h
  refine cmp_deep hu pins s σ H x y u w Q I ru rw_ ?_
  obtain ⟨G, W, σ', μ, v, w', S, hK, sm, r1, r2, h⟩ := h
  obtain ⟨b, e, q⟩ := h.bool sm
  obtain ⟨d, d', h1, h2, h3, h4, h5⟩ := eqD_rel sm r1 r2 e
  subst h5
  rw [hK] at h1 h2
  exact ⟨d, d', h1, h2, h3, h4, q⟩
theorem cmp_ne (hu : X.A.units + 160 < cLine) : OpR X (compareOp .NotEq) (St2b X (cmpV .ne)) := by
  intro pins s σ H x y u w Q I ru rw_ h
  refine cmp_deepN hu pins s σ H x y u w Q I ru rw_ ?_
  obtain ⟨G, W, σ', μ, v, w', S, hK, sm, r1, r2, h⟩ := h
  obtain ⟨b, e, q⟩ := h.bool sm
  simp only [cmpV] at e
  cases e1 : eqD S v w' with
  | none => rw [e1] at e; cases e
  | some c =>
    rw [e1] at e; cases e
    obtain ⟨d, d', h1, h2, h3, h4, h5⟩ := eqD_rel sm r1 r2 e1
    subst h5
    rw [hK] at h1 h2
    exact ⟨d, d', h1, h2, h3, h4, q⟩
theorem cmp_int {op : CmpOp} {o : CmpO} {g : Int → Int → Bool} (hop : OpR X (compareOp op) (rI0 fun i j => .bl (g i j)))
    (hv : ∀ S x y, cmpV o S x y = match x, y with | .int i, .int j => some (g i j) | _, _ => none) : OpR X (compareOp op) (St2b X (cmpV o)) := by
  intro pins s σ H x y u w Q I ru rw_ h
  refine hop pins s σ H x y u w Q I ru rw_ ?_
  obtain ⟨G, W, σ', μ, v, w', S, hK, sm, r1, r2, h⟩ := h
  obtain ⟨b, e, q⟩ := h.bool sm
  rw [hv] at e
  split at e
  · cases r1; cases r2; cases e; exact ⟨_, _, rfl, rfl, q⟩
  · cases e
theorem flat_rel {v : Val} {x : V} (r : RV μ H v x) (h : flat v = true) : flatV x = true := by
  cases r <;> first | rfl | cases h
theorem flats_rel : ∀ {vs : List Val} {xs : List V}, RVs μ H vs xs → vs.all flat = true → xs.all flatV = true
  | [], _, h, _ => by cases h; rfl
  | v :: vs, _, h, e => by
    cases h with
    | cons h t =>
      simp only [List.all_cons, Bool.and_eq_true] at e ⊢
      exact ⟨flat_rel h e.1, flats_rel t e.2⟩
theorem eqF_rel {v w : Val} {x y : V} (r1 : RV μ H v x) (r2 : RV μ H w y) (h1 : flat v = true) (h2 : flat w = true) : eqF v w = eqV x y := by
  cases r1 <;> first | (cases h1; done) | (cases r2 <;> first | (cases h2; done) | rfl)
theorem inF_rel {w : Val} {y : V} (r2 : RV μ H w y) (h2 : flat w = true) : ∀ {vs : List Val} {xs : List V}, RVs μ H vs xs → vs.all flat = true → (vs.any fun v => eqF v w) = inV y xs
  | [], _, h, _ => by cases h; rfl
  | v :: vs, _, h, e => by
    cases h with
    | cons h t =>
      simp only [List.all_cons, Bool.and_eq_true] at e
      have ih := inF_rel r2 h2 t e.2
      unfold inV at ih ⊢
      simp only [List.any_cons, ih, eqF_rel h r2 e.1 h2]
/-- y in d by values -/
theorem op_inDict (hu : X.A.units + 1 < cLine) : OpR X (compareOp .In) (fun y x H Q => ∃ a o, x = .ref a ∧ DGet H a y o ∧ Q (.bl o.isSome) H) := by
  intro pins s σ H y x iv u Q I ry rx h
  obtain ⟨a, o, ex, g, q⟩ := h
  subst ex
  obtain rfl : u = Value.ref a := rx
  exact d_in hu I g ry fun s3 I3 => ⟨.bl o.isSome, H, I3, rfl, q⟩
theorem op_notInDict (hu : X.A.units + 1 < cLine) : OpR X (compareOp .NotIn) (fun y x H Q => ∃ a o, x = .ref a ∧ DGet H a y o ∧ Q (.bl (!o.isSome)) H) := by
  intro pins s σ H y x iv u Q I ry rx h
  obtain ⟨a, o, ex, g, q⟩ := h
  subst ex
  obtain rfl : u = Value.ref a := rx
  exact d_notIn hu I g ry fun s3 I3 => ⟨.bl (!o.isSome), H, I3, rfl, q⟩
theorem RKv.lookO {κ : Type} [DecidableEq κ] {a : List (κ × Val)} {b : List (κ × V)} (h : RKv μ H a b) (k : κ) : (Nw.look a k).isSome = (valV b k).isSome := by
  obtain ⟨h1, h2⟩ := h.look k
  cases e : Nw.look a k with
  | none => rw [h2 e]; rfl
  | some v => obtain ⟨x, h3, _⟩ := h1 v e; rw [h3]; rfl
theorem dget_k (s : Sim G μ S H) {i : Nat} {l : Bool} {kvs : List (Key × Val)} {a : Addr} {w : Val} {y : V} {k : Key} (e : S[i]? = some (.dK l kvs)) (ha : μ[i]? = some a) (r : RV μ H w y) (ek : keyOf w = some k) :
    ∃ ys, Rd H a (.dK ys) ∧ RKv μ H kvs ys ∧ DGet H a y (valV ys k) := by
  obtain ⟨b, ys, h1, h2, h3, _⟩ := s.dKR e
  rw [ha] at h1; cases h1
  obtain ⟨h4, _, _⟩ := key_rel r ek
  exact ⟨ys, h2, h3, .inl ⟨ys, k, h2, h4, rfl⟩⟩
theorem dget_t (s : Sim G μ S H) {i : Nat} {l : Bool} {kvs : List (List Key × Val)} {a : Addr} {w : Val} {y : V} {k : List Key} (e : S[i]? = some (.dT l kvs)) (ha : μ[i]? = some a) (r : RV μ H w y) (ek : keysOf w = some k) :
    ∃ ys, Rd H a (.dT ys) ∧ RKv μ H kvs ys ∧ DGet H a y (valV ys k) := by
  obtain ⟨b, ys, h1, h2, h3, _⟩ := s.dTR e
  rw [ha] at h1; cases h1
  obtain ⟨c, h4, h5, _⟩ := keysT_rel r ek
  exact ⟨ys, h2, h3, .inr ⟨ys, k, c, h2, h4, h5, rfl⟩⟩
/-- what x in y asks, of any kind -/
theorem mem_rel (s : Sim G μ S H) {v w : Val} {x y : V} {b : Bool} (r1 : RV μ H v x) (r2 : RV μ H w y) (e : memV S v w = some b) :
    (∃ (c : Nat) (z : Str), x = .str ⟨#[c]⟩ ∧ y = .str z ∧ decide (c ∈ z.cps.toList) = b) ∨
    (∃ p xs, y = .ref p ∧ (SqL G.K H p xs ∨ SqT G.K H p xs) ∧ flatV x = true ∧ xs.all flatV = true ∧ inV x xs = b) ∨
    (∃ d ds, Dp G.K H x d ∧ Dp G.K H y (.list ds) ∧ SeqAt.shaped d = true ∧ SeqAt.shaped (.list ds) = true ∧ (ds.any fun z => PyData.eqv z d) = b) ∨
    (∃ a o, y = .ref a ∧ DGet H a x o ∧ o.isSome = b) ∨
    (∃ a, x = .non ∧ y = .ref a ∧ ((∃ ys, Rd H a (.dK ys)) ∨ ∃ ys, Rd H a (.dT ys)) ∧ b = false) ∨
    (∃ d ds, Dp G.K H x d ∧ Dp G.K H y (.tuple ds) ∧ SeqAt.shaped d = true ∧ SeqAt.shaped (.tuple ds) = true ∧ (ds.any fun z => PyData.eqv z d) = b) := by
  unfold memV at e
  split at e
  · cases r2 with
    | str h2 =>
    split at e
    · rename_i cs
      cases r1 with
      | str h1 =>
      split at e
      · rename_i c hc
        cases e
        refine .inl ⟨c, _, ?_, rfl, rfl⟩
        rw [show cs = #[c] from by rw [← Array.toArray_toList (xs := cs), hc]]
      · cases e
    · cases e
  · rename_i ys
    cases r2 with
    | tup h2 t2 =>
    split at e
    · rename_i hf
      simp only [Bool.and_eq_true] at hf
      cases e
      exact .inr (.inl ⟨_, _, rfl, .inr (SqT.of h2), flat_rel r1 hf.1, flats_rel t2 hf.2, (inF_rel r1 hf.1 t2 hf.2).symm⟩)
    · cases e1 : dat 64 S v with
      | none => rw [e1] at e; cases e
      | some d =>
        cases e2 : ys.mapM (dat 63 S) with
        | none => rw [e1, e2] at e; cases e
        | some ds =>
          rw [e1, e2] at e; cases e
          obtain ⟨a1, a2⟩ := dat_shaped s r1 e1
          have e3 : dat 64 S (.tup ys) = some (.tuple ds) := by simp only [dat, e2]; rfl
          obtain ⟨b1, b2⟩ := dat_shaped s (.tup h2 t2) e3
          exact .inr (.inr (.inr (.inr (.inr ⟨d, ds, a1, b1, a2, b2, rfl⟩))))
  · rename_i i
    cases r2 with
    | obj h2 =>
    split at e
    · rename_i l ys eo
      obtain ⟨a, zs, g1, g2, g3⟩ := s.lstR eo
      rw [h2] at g1; cases g1
      split at e
      · rename_i hf
        simp only [Bool.and_eq_true] at hf
        cases e
        exact .inr (.inl ⟨_, _, rfl, .inl g2, flat_rel r1 hf.1, flats_rel g3 hf.2, (inF_rel r1 hf.1 g3 hf.2).symm⟩)
      · cases e1 : dat 64 S v with
        | none => rw [e1] at e; cases e
        | some d =>
          cases e2 : ys.mapM (dat 63 S) with
          | none => rw [e1, e2] at e; cases e
          | some ds =>
            rw [e1, e2] at e; cases e
            obtain ⟨a1, a2⟩ := dat_shaped s r1 e1
            have e3 : dat 64 S (.obj i) = some (.list ds) := by simp only [dat, eo, e2]; rfl
            obtain ⟨b1, b2⟩ := dat_shaped s (.obj h2) e3
            exact .inr (.inr (.inl ⟨d, ds, a1, b1, a2, b2, rfl⟩))
    · rename_i l kvs eo
      split at e
      · cases e
        cases r1
        obtain ⟨a, ys, g1, g2, _⟩ := s.dKR eo
        rw [h2] at g1; cases g1
        exact .inr (.inr (.inr (.inr (.inl ⟨_, rfl, rfl, .inl ⟨_, g2⟩, rfl⟩))))
      · cases e1 : keyOf v with
        | none => rw [e1] at e; cases e
        | some k =>
          rw [e1] at e; cases e
          obtain ⟨ys, _, g1, g2⟩ := dget_k s eo h2 r1 e1
          exact .inr (.inr (.inr (.inl ⟨_, _, rfl, g2, (g1.lookO k).symm⟩)))
    · rename_i l kvs eo
      split at e
      · cases e
        cases r1
        obtain ⟨a, ys, g1, g2, _⟩ := s.dTR eo
        rw [h2] at g1; cases g1
        exact .inr (.inr (.inr (.inr (.inl ⟨_, rfl, rfl, .inr ⟨_, g2⟩, rfl⟩))))
      · cases e1 : keysOf v with
        | none => rw [e1] at e; cases e
        | some k =>
          rw [e1] at e; cases e
          obtain ⟨ys, _, g1, g2⟩ := dget_t s eo h2 r1 e1
          exact .inr (.inr (.inr (.inl ⟨_, _, rfl, g2, (g1.lookO k).symm⟩)))
    · cases e
  · cases e
theorem op_inDT (hu : X.A.units + 65 < cLine) : OpR X (compareOp .In) (fun x y H Q => ∃ d ds, Dp X.K H x d ∧ Dp X.K H y (.tuple ds) ∧ SeqAt.shaped d = true ∧ SeqAt.shaped (.tuple ds) = true ∧ Q (.bl (ds.any fun z => PyData.eqv z d)) H) := by
  intro pins s σ H x y v u Q I rx ry h
  obtain ⟨d, ds, hd, he, sd, se, q⟩ := h
  obtain ⟨as, r1⟩ := Dp.reads I d x v hd rx
  obtain ⟨bs, r2⟩ := Dp.reads I (.tuple ds) y u he ry
  exact SeqAt.in_tuple_reads r2 r1 (SeqAt.canLay_of_shaped se) (SeqAt.canLay_of_shaped sd) (PyProof.Rows.room_in_shaped sd hu) ⟨.bl _, H, I, rfl, q⟩
theorem op_notInDT (hu : X.A.units + 65 < cLine) : OpR X (compareOp .NotIn) (fun x y H Q => ∃ d ds, Dp X.K H x d ∧ Dp X.K H y (.tuple ds) ∧ SeqAt.shaped d = true ∧ SeqAt.shaped (.tuple ds) = true ∧ Q (.bl (!ds.any fun z => PyData.eqv z d)) H) := by
  intro pins s σ H x y v u Q I rx ry h
  obtain ⟨d, ds, hd, he, sd, se, q⟩ := h
  obtain ⟨as, r1⟩ := Dp.reads I d x v hd rx
  obtain ⟨bs, r2⟩ := Dp.reads I (.tuple ds) y u he ry
  exact SeqAt.notIn_tuple_reads r2 r1 (SeqAt.canLay_of_shaped se) (SeqAt.canLay_of_shaped sd) (PyProof.Rows.room_in_shaped sd hu) ⟨.bl _, H, I, rfl, q⟩
theorem cmp_mem (hu : X.A.units + 161 < cLine) : OpR X (compareOp .In) (St2b X (cmpV .mem)) := by
  intro pins s σ H x y u w Q I ru rw_ h
  obtain ⟨G, W, σ', μ, v, w', S, hK, sm, r1, r2, h⟩ := h
  obtain ⟨b, e, q⟩ := h.bool sm
  rcases mem_rel sm r1 r2 e with ⟨c, z, h1, h2, h3⟩ | ⟨p, xs, h1, h2, h3, h4, h5⟩ | ⟨d, ds, h1, h2, h3, h4, h5⟩ | ⟨a, o, h1, h2, h3⟩ | ⟨a, h1, h2, h3, h4⟩ | ⟨d, ds, h1, h2, h3, h4, h5⟩
  · subst h3; exact op_in_sign pins s σ H x y u w Q I ru rw_ ⟨c, z, h1, h2, q⟩
  · subst h5; rw [hK] at h2; exact op_in_seq pins s σ H x y u w Q I ru rw_ ⟨p, xs, h1, h2, h3, h4, q⟩
  · subst h5; rw [hK] at h1 h2; exact op_inD (by omega) pins s σ H x y u w Q I ru rw_ ⟨d, ds, h1, h2, h3, h4, q⟩
  · subst h3; exact op_inDict (by omega) pins s σ H x y u w Q I ru rw_ ⟨a, o, h1, h2, q⟩
  · subst h1 h2 h4
    obtain rfl : u = Value.none := ru
    obtain rfl : w = Value.ref a := rw_
    rcases h3 with ⟨ys, h3⟩ | ⟨ys, h3⟩
    · exact d_inNone I h3 fun s3 I3 => ⟨.bl false, H, I3, rfl, q⟩
    · exact t_inNone (by omega) I h3 fun s3 I3 => ⟨.bl false, H, I3, rfl, q⟩
  · subst h5; rw [hK] at h1 h2; exact op_inDT (by omega) pins s σ H x y u w Q I ru rw_ ⟨d, ds, h1, h2, h3, h4, q⟩
theorem cmp_nmem (hu : X.A.units + 161 < cLine) : OpR X (compareOp .NotIn) (St2b X (cmpV .nmem)) := by
  intro pins s σ H x y u w Q I ru rw_ h
  obtain ⟨G, W, σ', μ, v, w', S, hK, sm, r1, r2, h⟩ := h
  obtain ⟨b, e, q⟩ := h.bool sm
  simp only [cmpV] at e
  cases e0 : memV S v w' with
  | none => rw [e0] at e; cases e
  | some b0 =>
    rw [e0] at e; cases e
    rcases mem_rel sm r1 r2 e0 with ⟨c, z, h1, h2, h3⟩ | ⟨p, xs, h1, h2, h3, h4, h5⟩ | ⟨d, ds, h1, h2, h3, h4, h5⟩ | ⟨a, o, h1, h2, h3⟩ | ⟨a, h1, h2, h3, h4⟩ | ⟨d, ds, h1, h2, h3, h4, h5⟩
    · subst h3; exact op_notIn_sign pins s σ H x y u w Q I ru rw_ ⟨c, z, h1, h2, q⟩
    · subst h5; rw [hK] at h2; exact op_notIn_seq pins s σ H x y u w Q I ru rw_ ⟨p, xs, h1, h2, h3, h4, q⟩
    · subst h5; rw [hK] at h1 h2; exact op_notInD (by omega) pins s σ H x y u w Q I ru rw_ ⟨d, ds, h1, h2, h3, h4, q⟩
    · subst h3; exact op_notInDict (by omega) pins s σ H x y u w Q I ru rw_ ⟨a, o, h1, h2, q⟩
    · subst h1 h2 h4
      obtain rfl : u = Value.none := ru
      obtain rfl : w = Value.ref a := rw_
      rcases h3 with ⟨ys, h3⟩ | ⟨ys, h3⟩
      · exact d_notInNone I h3 fun s3 I3 => ⟨.bl true, H, I3, rfl, q⟩
      · exact t_notInNone (by omega) I h3 fun s3 I3 => ⟨.bl true, H, I3, rfl, q⟩
    · subst h5; rw [hK] at h1 h2; exact op_notInDT (by omega) pins s σ H x y u w Q I ru rw_ ⟨d, ds, h1, h2, h3, h4, q⟩
/-! ## == of dicts that are alike -/
theorem dEqD_some {v w : Val} {b : Bool} (e : dEqD S v w = some b) : b = true ∧ ∃ i j l l' kvs kws, v = .obj i ∧ w = .obj j ∧ S[i]? = some (.dK l kvs) ∧ S[j]? = some (.dK l' kws) ∧ kvs.length = kws.length ∧
    ∀ kv ∈ kvs, ∃ u, Nw.look kws kv.1 = some u ∧ eqD S kv.2 u = some true := by
  unfold dEqD at e
  split at e
  · split at e
    · rename_i e1 e2
      split at e
      · rename_i hc
        cases e
        refine ⟨rfl, _, _, _, _, _, _, rfl, rfl, e1, e2, hc.1, fun kv hk => ?_⟩
        have q := List.all_eq_true.mp hc.2 kv hk
        split at q
        · rename_i u hu
          exact ⟨u, hu, by simpa using q⟩
        · cases q
      · cases e
    · cases e
  · cases e
theorem dhits {A : Around} {X : Cx} {pins : List (Addr × PySem.Obj)} {σ' : St} {s : Shared} (hu : A.in1.units + 160 < cLine) (hK : G.K = X.K) (I : Inv X pins σ' H s) (sm : Sim G μ S H) {kws : List (Key × Val)} {yws : List (Key × V)} {vws : List (Key × Value)} (r2 : RKv μ H kws yws) (v2 : KV yws vws) :
    ∀ {kvs : List (Key × Val)} {yvs : List (Key × V)} {vvs : List (Key × Value)}, RKv μ H kvs yvs → KV yvs vvs → (∀ kv ∈ kvs, ∃ u, Nw.look kws kv.1 = some u ∧ eqD S kv.2 u = some true) → PySem.W.KeqHits A.in1 s vws vvs true
  | [], [], _, r, v, _ => by cases v; exact .nil
  | [], _ :: _, _, r, _, _ => r.elim
  | _ :: _, [], _, r, _, _ => r.elim
  | (k, v) :: kvs, (k', x) :: yvs, _, r, vv, h => by
    obtain ⟨e1, rv, tr⟩ := r
    cases vv with
    | @cons p q ps qs hv tv =>
      obtain ⟨e2, rx⟩ := hv
      obtain ⟨k2, vx⟩ := q
      simp only at e2 rx
      subst e1 e2
      have ih := dhits hu hK I sm r2 v2 tr tv fun kv hk => h kv (List.mem_cons_of_mem _ hk)
      obtain ⟨u, h1, h2⟩ := h (k, v) (List.mem_cons_self ..)
      obtain ⟨xu, hxu, rvu⟩ := (r2.look k).1 u h1
      have q := v2.val k
      rw [hxu] at q
      cases hvu : valueAt vws k with
      | none => rw [hvu] at q; exact (show False from q).elim
      | some vu =>
        rw [hvu] at q
        obtain ⟨d, d', d1, d2, s1, s2, d3⟩ := eqD_rel sm rv rvu h2
        rw [hK] at d1 d2
        obtain ⟨as, q1⟩ := Dp.reads I d x vx d1 rx
        obtain ⟨bs, q2⟩ := Dp.reads I d' xu vu d2 q
        have ea := SeqAt.eqAt_reads d d' A.in1 s vx vu as bs q1 q2 s1.1 s2.1 (deep_room s1 hu)
        rw [d3] at ea
        exact PySem.W.KeqHits.hit hvu ea ih
theorem dEqD_use (hu : X.A.units + 161 < cLine) {x y : V} {v w' : Val} {b : Bool} {u w : Value} {pins : List (Addr × PySem.Obj)} {σ' : St} {s : Shared} (hK : G.K = X.K) (I : Inv X pins σ' H s) (sm : Sim G μ S H) (ru : RelV x u) (rw_ : RelV y w) (r1 : RV μ H v x) (r2 : RV μ H w' y) (e : dEqD S v w' = some b) :
    b = true ∧ ∃ (a c : Addr) (ka kb : List (Key × Value)), u = .ref a ∧ w = .ref c ∧ (a == sysModules) = false ∧ (c == sysModules) = false ∧ s.heap.DictOf (mixKind X.prog X.w) a ka ∧ s.heap.DictOf (mixKind X.prog X.w) c kb ∧ ka.length = kb.length ∧ PySem.W.KeqHits X.A.in1 s kb ka true := by
  obtain ⟨rfl, i, j, l, l', kvs, kws, rfl, rfl, e1, e2, hl, ha⟩ := dEqD_some e
  refine ⟨rfl, ?_⟩
  cases r1 with
  | obj h1 =>
  cases r2 with
  | obj h2 =>
  obtain ⟨a, ys, g1, g2, g3, _⟩ := sm.dKR e1
  rw [h1] at g1; cases g1
  obtain ⟨c, zs, k1, k2, k3, _⟩ := sm.dKR e2
  rw [h2] at k1; cases k1
  obtain ⟨_, z1, va, ra, da⟩ := dk_rd I.hok g2
  obtain ⟨_, z2, vb, rb, db⟩ := dk_rd I.hok k2
  refine ⟨_, _, va, vb, ru, rw_, z1, z2, da, db, ?_, ?_⟩
  · rw [← ra.length, ← rb.length, ← g3.length, ← k3.length, hl]
  · exact dhits (by simp only [Around.in1_units]; omega) hK I sm k3 rb g3 ra ha
theorem cmp_eqd (hu : X.A.units + 161 < cLine) : OpR X (compareOp .Eq) (St2b X (cmpV .eqd)) := by
  intro pins s σ H x y u w Q I ru rw_ h
  obtain ⟨G, W, σ', μ, v, w', S, hK, sm, r1, r2, h⟩ := h
  obtain ⟨b, e, q⟩ := h.bool sm
  obtain ⟨rfl, a, c, ka, kb, rfl, rfl, z1, z2, da, db, hl, hh⟩ := dEqD_use hu hK I sm ru rw_ r1 r2 e
  exact PySem.W.keq_eq z1 z2 da db (by omega) (fun _ => hh) ⟨.bl true, H, I, by rw [hl]; simp; rfl, q⟩
theorem cmp_ned (hu : X.A.units + 161 < cLine) : OpR X (compareOp .NotEq) (St2b X (cmpV .ned)) := by
  intro pins s σ H x y u w Q I ru rw_ h
  obtain ⟨G, W, σ', μ, v, w', S, hK, sm, r1, r2, h⟩ := h
  obtain ⟨b, e, q⟩ := h.bool sm
  simp only [cmpV] at e
  cases e0 : dEqD S v w' with
  | none => rw [e0] at e; cases e
  | some b0 =>
    rw [e0] at e; cases e
    obtain ⟨rfl, a, c, ka, kb, rfl, rfl, z1, z2, da, db, hl, hh⟩ := dEqD_use hu hK I sm ru rw_ r1 r2 e0
    exact PySem.W.keq_ne z1 z2 da db (by omega) (fun _ => hh) ⟨.bl false, H, I, by rw [hl]; simp; rfl, q⟩
/-! ## a dict beside an empty one -/
theorem dLen_rel (hK : G.K = X.K) {x : V} {v : Val} {u : Value} {n : Nat} {pins : List (Addr × PySem.Obj)} {σ' : St} {s : Shared} (I : Inv X pins σ' H s) (sm : Sim G μ S H) (ru : RelV x u) (r1 : RV μ H v x) (e : dLen S v = some n) : ∃ a, u = .ref a ∧ RawD s.heap a n := by
  unfold dLen at e
  split at e
  · cases r1 with
    | obj h1 =>
    split at e
    · rename_i eo
      cases e
      obtain ⟨a, ys, g1, g2, g3, _⟩ := sm.dKR eo
      rw [h1] at g1; cases g1
      exact ⟨_, ru, by rw [g3.length]; exact raw_K I g2⟩
    · rename_i eo
      cases e
      obtain ⟨a, ys, g1, g2, g3, _⟩ := sm.dTR eo
      rw [h1] at g1; cases g1
      exact ⟨_, ru, by rw [g3.length]; exact raw_T I g2⟩
    · cases e
  · cases e
theorem dEmp_of {x y : Val} {b : Bool} (e : dEmp S x y = some b) : ∃ n, dLen S x = some n ∧ dLen S y = some 0 ∧ b = (n == 0) := by
  unfold dEmp at e
  split at e
  · rename_i e1 e2
    cases e
    exact ⟨_, e1, e2, rfl⟩
  · cases e
theorem cmp_eqz (hu : X.A.units + 161 < cLine) : OpR X (compareOp .Eq) (St2b X (cmpV .eqz)) := by
  intro pins s σ H x y u w Q I ru rw_ h
  obtain ⟨G, W, σ', μ, v, w', S, hK, sm, r1, r2, h⟩ := h
  obtain ⟨b, e, q⟩ := h.bool sm
  obtain ⟨n, e1, e2, rfl⟩ := dEmp_of e
  obtain ⟨a, rfl, d1⟩ := dLen_rel hK I sm ru r1 e1
  obtain ⟨c, rfl, d2⟩ := dLen_rel hK I sm rw_ r2 e2
  exact ze_eq d1 d2 (by omega) ⟨.bl (n == 0), H, I, rfl, q⟩
theorem cmp_nez (hu : X.A.units + 161 < cLine) : OpR X (compareOp .NotEq) (St2b X (cmpV .nez)) := by
  intro pins s σ H x y u w Q I ru rw_ h
  obtain ⟨G, W, σ', μ, v, w', S, hK, sm, r1, r2, h⟩ := h
  obtain ⟨b, e, q⟩ := h.bool sm
  simp only [cmpV] at e
  cases e0 : dEmp S v w' with
  | none => rw [e0] at e; cases e
  | some b0 =>
    rw [e0] at e; cases e
    obtain ⟨n, e1, e2, rfl⟩ := dEmp_of e0
    obtain ⟨a, rfl, d1⟩ := dLen_rel hK I sm ru r1 e1
    obtain ⟨c, rfl, d2⟩ := dLen_rel hK I sm rw_ r2 e2
    exact ze_ne d1 d2 (by omega) ⟨.bl (!(n == 0)), H, I, rfl, q⟩
def cmpPy : CmpO → CmpOp
  | .eq => .Eq | .ne => .NotEq | .lt => .Lt | .le => .LtE | .gt => .Gt | .ge => .GtE | .mem => .In | .nmem => .NotIn | .eqd => .Eq | .ned => .NotEq | .eqz => .Eq | .nez => .NotEq
theorem cmp_all (hu : X.A.units + 161 < cLine) (o : CmpO) : OpR X (compareOp (cmpPy o)) (St2b X (cmpV o)) := by
  cases o
  · exact cmp_eq (by omega)
  · exact cmp_ne (by omega)
  · exact cmp_int op_lt fun S x y => by cases x <;> cases y <;> rfl
  · exact cmp_int op_le fun S x y => by cases x <;> cases y <;> rfl
  · exact cmp_int op_gt fun S x y => by cases x <;> cases y <;> rfl
  · exact cmp_int op_ge fun S x y => by cases x <;> cases y <;> rfl
  · exact cmp_mem hu
  · exact cmp_nmem hu
  · exact cmp_eqd hu
  · exact cmp_ned hu
  · exact cmp_eqz hu
  · exact cmp_nez hu

theorem cmp_read {pa pb : PyE} {σ : St} {H : Hp} (hK : G.K = X.K) (o : CmpO) (h : lift G W (ev G' ft (.cmp o pa pb)) σ H Q) : tOp (St2b X (cmpV o)) (lift G W (ev G' ft pa)) (lift G W (ev G' ft pb)) σ H Q := by
  have h2 := two (f := fun x y _ S2 => Res.ofO ((cmpV o S2 x y).map Val.bl) S2) (by simp only [lift, ev] at h; exact h)
  exact lift_mono h2 fun x H1 h3 => lift_mono h3 fun y H2 ⟨μ, env, v, w, S, s, e, r1, r2, q⟩ => ⟨G, W, σ, μ, v, w, S, hK, s, r1, r2, q⟩
/-- a test of a bool -/
theorem tst_bool {m : Env → Store → Res Val} {σ : St} {H : Hp} {Qb : Bool → Hp → Prop} (hb : ∀ env S v S', m env S = .ok v S' → ∃ b, v = .bl b) (h : liftT G W (tst m) σ H Qb) : lift G W m σ H fun x H1 => ∃ k, x = .bl k ∧ Qb k H1 := by
  obtain ⟨μ, env, S, s, e, h⟩ := h
  refine ⟨μ, env, S, s, e, ?_⟩
  unfold tst at h
  cases em : m env S with
  | no => rw [em] at h; exact h.elim
  | ex x S' => rw [em] at h; exact h
  | ok v S' =>
    rw [em] at h
    obtain ⟨b, rfl⟩ := hb env S v S' em
    exact fun μ' H' u k s' x r => by cases r; exact ⟨b, rfl, h μ' H' u k s'⟩
theorem ofO_bl {o : Option Bool} {S S' : Store} {v : Val} (h : Res.ofO (o.map .bl) S = .ok v S') : ∃ b, v = .bl b := by
  cases o with
  | none => cases h
  | some b => cases h; exact ⟨b, rfl⟩
theorem bind_ok {r : Res α} {f : α → Store → Res β} {v : β} {S : Store} (h : r.bind f = .ok v S) : ∃ a S1, r = .ok a S1 ∧ f a S1 = .ok v S := by
  cases r with
  | ok a S1 => exact ⟨a, S1, rfl, h⟩
  | ex e S1 => cases h
  | no => cases h

variable {a b : Expr} {pa pb : PyE} {pos : Pos}
theorem de_cmp (hu : X.A.units + 161 < cLine) (hK : G.K = X.K) (o : CmpO) (ha : PE X a (lift G W (ev G' ft pa))) (hb : PE X b (lift G W (ev G' ft pb))) (hm : behindInMarks (cmpPy o) b = false) :
    PE X (.Compare a [cmpPy o] [b] pos) (lift G W (ev G' ft (.cmp o pa pb))) :=
  (pe_cmpR (cmp_all hu o) ha hb hm).imp fun σ H Q h => cmp_read hK o h
theorem dt_cmp (hu : X.A.units + 161 < cLine) (hK : G.K = X.K) (o : CmpO) (ha : PE X a (lift G W (ev G' ft pa))) (hb : PE X b (lift G W (ev G' ft pb))) (hm : behindInMarks (cmpPy o) b = false) :
    PT X (.Compare a [cmpPy o] [b] pos) (liftT G W (tst (ev G' ft (.cmp o pa pb)))) := by
  refine (pt_cmpR (cmp_all hu o) ha hb hm).imp fun σ H Q h => ?_
  refine cmp_read hK o (tst_bool (fun env S v S' e => ?_) h)
  simp only [ev] at e
  obtain ⟨_, _, _, e⟩ := bind_ok e
  obtain ⟨_, _, _, e⟩ := bind_ok e
  exact ofO_bl e
end
end Nw

set_option Elab.async false
set_option linter.all false
set_option maxRecDepth 100000
set_option maxHeartbeats 1000000
namespace Nw
open PySem L2

section
variable {α β : Type} {G : Cfg} {W : WX} {X : Cx} {σ : St} {μ : List Addr} {H : Hp} {S : Store} {Q : VK} {G' : Tab} {ft : Fns}
variable {a b c : Expr} {pa pb pc : PyE} {pos : Pos}

/-! ## truth -/
theorem tru_rel (s : Sim G μ S H) {v : Val} {x : V} {k : Bool} (r : RV μ H v x) (e : tru S v = some k) : TruV G.K x H k := by
  cases v with
  | non => cases r; simp [tru] at e; exact e
  | bl b => cases r; simp [tru] at e; exact e.symm
  | int i => cases r; simp [tru] at e; exact e.symm
  | str z =>
    cases r with
    | str h =>
    simp only [tru] at e
    split at e
    · rename_i hl
      cases e; exact ⟨by rw [← line_eq]; exact hl, rfl⟩
    · cases e
  | tup xs =>
    cases r with
    | tup h t =>
    simp only [tru, Option.some.injEq] at e
    subst e
    refine .inr (.inl ⟨_, SqT.of h, ?_⟩)
    cases t <;> rfl
  | obj i =>
    cases r with
    | obj h =>
    simp only [tru] at e
    split at e
    · rename_i l xs eo
      obtain ⟨p, ys, g1, g2, g3⟩ := s.lstR eo
      rw [h] at g1; cases g1
      cases e
      refine .inl ⟨_, g2, ?_⟩
      cases g3 <;> rfl
    · rename_i kvs eo
      obtain ⟨p, ys, g1, g2, g3, _⟩ := s.dK eo
      rw [h] at g1; cases g1
      cases e
      refine .inr (.inr ⟨_, g2, ?_⟩)
      cases kvs <;> cases ys <;> first | rfl | exact g3.elim
    · cases e
  | fn _ _ => cases r
theorem ifV_after {r : Val} {t f : Res α} {k : α → List Addr → Store → Hp → Prop} (h : After G W σ μ H (ifV r S t f) k) : ∃ b, tru S r = some b ∧ After G W σ μ H (if b = true then t else f) k := by
  unfold ifV at h
  split at h
  · rename_i e; exact ⟨true, e, h⟩
  · rename_i e; exact ⟨false, e, h⟩
  · exact h.elim

theorem de_and (hK : G.K = X.K) {rest : List Expr} (ha : PE X a (lift G W (ev G' ft pa))) (hb : PE X (.BoolOp .And (b :: rest) pos) (lift G W (ev G' ft pb))) : PE X (.BoolOp .And (a :: b :: rest) pos) (lift G W (ev G' ft (.and pa pb))) := by
  refine (pe_andT ha hb).imp fun σ H Q h => ?_
  have h2 := one (f := fun x env S1 => ifV x S1 (ev G' ft pb env S1) (.ok x S1)) (by simp only [lift, ev] at h; exact h)
  refine lift_mono h2 fun x H1 ⟨μ, env, v, S, s, e, r, q⟩ => ?_
  obtain ⟨k, e1, q⟩ := ifV_after q
  refine ⟨k, by rw [← hK]; exact tru_rel s r e1, ?_⟩
  cases k with
  | true => exact ⟨μ, env, S, s, e, q⟩
  | false => exact After.val (v := v) q s r
theorem de_or (hK : G.K = X.K) {rest : List Expr} (ha : PE X a (lift G W (ev G' ft pa))) (hb : PE X (.BoolOp .Or (b :: rest) pos) (lift G W (ev G' ft pb))) : PE X (.BoolOp .Or (a :: b :: rest) pos) (lift G W (ev G' ft (.or pa pb))) := by
  refine (pe_orT ha hb).imp fun σ H Q h => ?_
  have h2 := one (f := fun x env S1 => ifV x S1 (.ok x S1) (ev G' ft pb env S1)) (by simp only [lift, ev] at h; exact h)
  refine lift_mono h2 fun x H1 ⟨μ, env, v, S, s, e, r, q⟩ => ?_
  obtain ⟨k, e1, q⟩ := ifV_after q
  refine ⟨k, by rw [← hK]; exact tru_rel s r e1, ?_⟩
  cases k with
  | false => exact ⟨μ, env, S, s, e, q⟩
  | true => exact After.val (v := v) q s r
theorem de_not (hK : G.K = X.K) (ha : PE X a (lift G W (ev G' ft pa))) : PE X (.UnaryOp .Not a pos) (lift G W (ev G' ft (.not pa))) := by
  refine (pe_notT ha).imp fun σ H Q h => ?_
  have h2 := one (f := fun x env S1 => ifV x S1 (Res.ok (Val.bl false) S1) (Res.ok (Val.bl true) S1)) (by simp only [lift, ev] at h; exact h)
  refine lift_mono h2 fun x H1 ⟨μ, env, v, S, s, e, r, q⟩ => ?_
  obtain ⟨k, e1, q⟩ := ifV_after q
  refine ⟨k, by rw [← hK]; exact tru_rel s r e1, ?_⟩
  cases k with
  | false => exact After.val (v := .bl true) q s (.bl _)
  | true => exact After.val (v := .bl false) q s (.bl _)
/-- a test, by its parts -/
theorem tst_one {m : Env → Store → Res Val} {f : Val → Env → Store → Res Val} {Qb : Bool → Hp → Prop} (h : liftT G W (tst fun env S => (m env S).bind fun x S1 => f x env S1) σ H Qb) :
    lift G W m σ H fun x' H1 => ∃ μ env x S, Sim G μ S H1 ∧ REnv μ H1 env σ ∧ RV μ H1 x x' ∧ After G W σ μ H1 ((f x env S).bind fun v S1 => Res.ofO (tru S1 v) S1) fun b _ _ H' => Qb b H' := by
  obtain ⟨μ, env, S, s, e, h⟩ := h
  refine one (f := fun x env S1 => (f x env S1).bind fun v S1 => Res.ofO (tru S1 v) S1) ⟨μ, env, S, s, e, ?_⟩
  unfold tst at h
  dsimp only at h ⊢
  cases em : m env S with
  | no => rw [em] at h; exact h
  | ex x S' => rw [em] at h; exact h
  | ok v S' => rw [em] at h; exact h
/-- .. where the first part is a test, too -/
theorem tst_fst {m : Env → Store → Res Val} {t f : Val → Env → Store → Res Val} {Qb : Bool → Hp → Prop} (h : liftT G W (tst fun env S => (m env S).bind fun x S1 => ifV x S1 (t x env S1) (f x env S1)) σ H Qb) :
    liftT G W (tst m) σ H fun k H1 => ∃ μ env x S, Sim G μ S H1 ∧ REnv μ H1 env σ ∧ tru S x = some k ∧ After G W σ μ H1 ((if k = true then t x env S else f x env S).bind fun v S1 => Res.ofO (tru S1 v) S1) fun b _ _ H' => Qb b H' := by
  obtain ⟨μ, env, S, s, e, h⟩ := h
  refine ⟨μ, env, S, s, e, ?_⟩
  unfold tst at h ⊢
  dsimp only at h ⊢
  cases em : m env S with
  | no => rw [em] at h; exact h
  | ex x S' => rw [em] at h; exact h
  | ok v S' =>
    rw [em] at h
    simp only [Res.bind_ok] at h ⊢
    unfold ifV at h
    cases et : tru S' v with
    | none => rw [et] at h; exact h
    | some k =>
      rw [et] at h
      refine fun μ' H' u kk s' => ⟨μ', env, v, S', s', e.mono u kk, et, ?_⟩
      cases k with
      | true => exact After.later h u kk
      | false => exact After.later h u kk
theorem dw_and {rest : List Expr} (ha : PT X a (liftT G W (tst (ev G' ft pa)))) (hb : PW X (.BoolOp .And (b :: rest) pos) (liftT G W (tst (ev G' ft pb)))) : PW X (.BoolOp .And (a :: b :: rest) pos) (liftT G W (tst (ev G' ft (.and pa pb)))) := by
  refine (pw_and ha hb).imp fun σ H Q h => ?_
  have h2 := tst_fst (t := fun x env S1 => ev G' ft pb env S1) (f := fun x env S1 => .ok x S1) (by simp only [liftT, tst, ev] at h; exact h)
  obtain ⟨μ, env, S, s, e, h2⟩ := h2
  refine ⟨μ, env, S, s, e, h2.imp fun k μ1 S1 H1 u k1 s1 ⟨μ2, env2, x, S2, s2, e2, et, q⟩ => ?_⟩
  cases k with
  | true => exact ⟨μ2, env2, S2, s2, e2, q⟩
  | false =>
    rw [if_neg Bool.false_ne_true] at q ⊢
    simp only [Res.bind_ok, et, Res.ofO_some] at q
    exact q.here s2
theorem dw_or {rest : List Expr} (ha : PT X a (liftT G W (tst (ev G' ft pa)))) (hb : PW X (.BoolOp .Or (b :: rest) pos) (liftT G W (tst (ev G' ft pb)))) : PW X (.BoolOp .Or (a :: b :: rest) pos) (liftT G W (tst (ev G' ft (.or pa pb)))) := by
  refine (pw_or ha hb).imp fun σ H Q h => ?_
  have h2 := tst_fst (t := fun x env S1 => .ok x S1) (f := fun x env S1 => ev G' ft pb env S1) (by simp only [liftT, tst, ev] at h; exact h)
  obtain ⟨μ, env, S, s, e, h2⟩ := h2
  refine ⟨μ, env, S, s, e, h2.imp fun k μ1 S1 H1 u k1 s1 ⟨μ2, env2, x, S2, s2, e2, et, q⟩ => ?_⟩
  cases k with
  | false => exact ⟨μ2, env2, S2, s2, e2, q⟩
  | true =>
    rw [if_pos rfl] at q ⊢
    simp only [Res.bind_ok, et, Res.ofO_some] at q
    exact q.here s2
theorem dt_not (ha : PT X a (liftT G W (tst (ev G' ft pa)))) : PT X (.UnaryOp .Not a pos) (liftT G W (tst (ev G' ft (.not pa)))) := by
  refine (pt_not ha).imp fun σ H Q h => ?_
  have h2 := tst_fst (t := fun x env S1 => Res.ok (Val.bl false) S1) (f := fun x env S1 => Res.ok (Val.bl true) S1) (by simp only [liftT, tst, ev] at h; exact h)
  obtain ⟨μ, env, S, s, e, h2⟩ := h2
  refine ⟨μ, env, S, s, e, h2.imp fun k μ1 S1 H1 u k1 s1 ⟨μ2, env2, x, S2, s2, e2, et, q⟩ => ?_⟩
  cases k with
  | false => exact After.here (v := true) q s2
  | true => exact After.here (v := false) q s2
/-- any other expression as a test -/
theorem dt_any (hK : G.K = X.K) (ha : PE X a (lift G W (ev G' ft pa))) (he : ∀ whole, isTrue a X.env whole = (do let v ← whole; standAt a.pos; holding [v] (truthy v))) : PT X a (liftT G W (tst (ev G' ft pa))) := by
  refine (pt_truth ha he).imp fun σ H Q h => ?_
  have h2 := one (f := fun x env S1 => Res.ofO (tru S1 x) S1) (by simp only [liftT, tst] at h; exact h)
  refine lift_mono h2 fun x H1 ⟨μ, env, v, S, s, e, r, q⟩ => ?_
  obtain ⟨k, ek, q⟩ := q.ofO
  exact ⟨k, by rw [← hK]; exact tru_rel s r ek, q.here s⟩
theorem de_ite (hc : PT X c (liftT G W (tst (ev G' ft pc)))) (ha : PE X a (lift G W (ev G' ft pa))) (hb : PE X b (lift G W (ev G' ft pb))) : PE X (.IfExp c a b pos) (lift G W (ev G' ft (.ite pc pa pb))) := by
  refine (pe_ifExp hc ha hb).imp fun σ H Q h => ?_
  obtain ⟨μ, env, S, s, e, h⟩ := h
  refine ⟨μ, env, S, s, e, ?_⟩
  simp only [ev] at h
  unfold tst
  cases em : ev G' ft pc env S with
  | no => rw [em] at h; exact h
  | ex x S' => rw [em] at h; exact h
  | ok v S' =>
    rw [em] at h
    simp only [Res.bind_ok] at h ⊢
    obtain ⟨k, ek, q⟩ := ifV_after h
    rw [ek]
    refine fun μ' H' u kk s' => ?_
    cases k with
    | true => exact ⟨μ', env, S', s', e.mono u kk, After.later q u kk⟩
    | false => exact ⟨μ', env, S', s', e.mono u kk, After.later q u kk⟩

/-! ## is -/
theorem de_isN {pos' : Pos} {j : Nat} (ha : PE X a (lift G W (ev G' ft pa))) : PE X (.Compare a [.Is] [.Constant .none j pos'] pos) (lift G W (ev G' ft (.isN false pa))) := by
  refine (pe_cmp (pc_isN ha) (by rfl)).imp fun σ H Q h => ?_
  have h2 := one (f := fun x env S1 => Res.ok (Val.bl (xorB false (isNon x))) S1) (by simp only [lift, ev] at h; exact h)
  refine lift_mono h2 fun x H1 ⟨μ, env, v, S, s, e, r, q⟩ => ?_
  have : isNon v = decide (x = .non) := by cases r <;> simp [isNon]
  rw [← this]
  exact After.val (v := .bl _) q s (.bl _)
theorem de_notN {pos' : Pos} {j : Nat} (ha : PE X a (lift G W (ev G' ft pa))) : PE X (.Compare a [.IsNot] [.Constant .none j pos'] pos) (lift G W (ev G' ft (.isN true pa))) := by
  refine (pe_cmp (pc_notN ha) (by rfl)).imp fun σ H Q h => ?_
  have h2 := one (f := fun x env S1 => Res.ok (Val.bl (xorB true (isNon x))) S1) (by simp only [lift, ev] at h; exact h)
  refine lift_mono h2 fun x H1 ⟨μ, env, v, S, s, e, r, q⟩ => ?_
  have : isNon v = decide (x = .non) := by cases r <;> simp [isNon]
  rw [← this]
  exact After.val (v := .bl _) q s (.bl _)
theorem dt_isN {pos' : Pos} {j : Nat} (ha : PE X a (lift G W (ev G' ft pa))) : PT X (.Compare a [.Is] [.Constant .none j pos'] pos) (liftT G W (tst (ev G' ft (.isN false pa)))) := by
  refine (pt_cmp (pc_isN ha) (by rfl)).imp fun σ H Q h => ?_
  have h2 := tst_one (f := fun x env S1 => Res.ok (Val.bl (xorB false (isNon x))) S1) (by simp only [liftT, tst, ev] at h; exact h)
  refine lift_mono h2 fun x H1 ⟨μ, env, v, S, s, e, r, q⟩ => ?_
  have : isNon v = decide (x = .non) := by cases r <;> simp [isNon]
  exact ⟨_, rfl, by rw [← this]; exact After.here (v := isNon v) q s⟩
theorem dt_notN {pos' : Pos} {j : Nat} (ha : PE X a (lift G W (ev G' ft pa))) : PT X (.Compare a [.IsNot] [.Constant .none j pos'] pos) (liftT G W (tst (ev G' ft (.isN true pa)))) := by
  refine (pt_cmp (pc_notN ha) (by rfl)).imp fun σ H Q h => ?_
  have h2 := tst_one (f := fun x env S1 => Res.ok (Val.bl (xorB true (isNon x))) S1) (by simp only [liftT, tst, ev] at h; exact h)
  refine lift_mono h2 fun x H1 ⟨μ, env, v, S, s, e, r, q⟩ => ?_
  have : isNon v = decide (x = .non) := by cases r <;> simp [isNon]
  exact ⟨_, rfl, by rw [← this]; exact After.here (v := !isNon v) q s⟩
theorem bin_isB : OpR X (compareOp .Is) (St2 X fun S x y => isBV false x y S) := by
  intro pins s σ H x y u w Q I ru rw_ h
  refine op_isBl pins s σ H x y u w Q I ru rw_ ?_
  obtain ⟨G, W, σ', μ, v, w', S, hK, sm, r1, r2, h⟩ := h
  unfold isBV at h
  dsimp only at h
  split at h
  · cases r1; cases r2; exact ⟨_, _, rfl, rfl, h.val sm (.bl _)⟩
  · exact h.elim
theorem bin_notB : OpR X (compareOp .IsNot) (St2 X fun S x y => isBV true x y S) := by
  intro pins s σ H x y u w Q I ru rw_ h
  refine op_notBl pins s σ H x y u w Q I ru rw_ ?_
  obtain ⟨G, W, σ', μ, v, w', S, hK, sm, r1, r2, h⟩ := h
  unfold isBV at h
  dsimp only at h
  split at h
  · cases r1; cases r2; exact ⟨_, _, rfl, rfl, h.val sm (.bl _)⟩
  · exact h.elim
theorem isB_read {n : Bool} (hK : G.K = X.K) (h : lift G W (ev G' ft (.isB n pa pb)) σ H Q) : tOp (St2 X fun S x y => isBV n x y S) (lift G W (ev G' ft pa)) (lift G W (ev G' ft pb)) σ H Q := by
  have h2 := two (f := fun x y _ S2 => isBV n x y S2) (by simp only [lift, ev] at h; exact h)
  exact lift_mono h2 fun x H1 h3 => lift_mono h3 fun y H2 ⟨μ, env, v, w, S, s, e, r1, r2, q⟩ => ⟨G, W, σ, μ, v, w, S, hK, s, r1, r2, q⟩
theorem isB_bl {n : Bool} {env : Env} {v : Val} {S S' : Store} (e : ev G' ft (.isB n pa pb) env S = .ok v S') : ∃ b, v = .bl b := by
  simp only [ev] at e
  obtain ⟨x, _, _, e⟩ := bind_ok e
  obtain ⟨y, _, _, e⟩ := bind_ok e
  unfold isBV at e
  split at e
  · cases e; exact ⟨_, rfl⟩
  · cases e
theorem de_isB (hK : G.K = X.K) (ha : PE X a (lift G W (ev G' ft pa))) (hb : PE X b (lift G W (ev G' ft pb))) : PE X (.Compare a [.Is] [b] pos) (lift G W (ev G' ft (.isB false pa pb))) :=
  (pe_cmpR bin_isB ha hb (nomark _)).imp fun σ H Q h => isB_read hK h
theorem de_notB (hK : G.K = X.K) (ha : PE X a (lift G W (ev G' ft pa))) (hb : PE X b (lift G W (ev G' ft pb))) : PE X (.Compare a [.IsNot] [b] pos) (lift G W (ev G' ft (.isB true pa pb))) :=
  (pe_cmpR bin_notB ha hb (nomark _)).imp fun σ H Q h => isB_read hK h
theorem dt_isB (hK : G.K = X.K) (ha : PE X a (lift G W (ev G' ft pa))) (hb : PE X b (lift G W (ev G' ft pb))) : PT X (.Compare a [.Is] [b] pos) (liftT G W (tst (ev G' ft (.isB false pa pb)))) :=
  (pt_cmpR bin_isB ha hb (nomark _)).imp fun σ H Q h => isB_read hK (tst_bool (fun env S v S' e => isB_bl e) h)
theorem dt_notB (hK : G.K = X.K) (ha : PE X a (lift G W (ev G' ft pa))) (hb : PE X b (lift G W (ev G' ft pb))) : PT X (.Compare a [.IsNot] [b] pos) (liftT G W (tst (ev G' ft (.isB true pa pb)))) :=
  (pt_cmpR bin_notB ha hb (nomark _)).imp fun σ H Q h => isB_read hK (tst_bool (fun env S v S' e => isB_bl e) h)

/-! ## chains -/
theorem chain_read (hu : X.A.units + 161 < cLine) (hK : G.K = X.K) {o o' : CmpO} (h : lift G W (ev G' ft (.chain o o' pa pb pc)) σ H Q) : tChain (St2b X (cmpV o)) (St2b X (cmpV o')) (lift G W (ev G' ft pa)) (lift G W (ev G' ft pb)) (lift G W (ev G' ft pc)) σ H Q := by
  have h2 := two (f := fun x y env S2 => chainV o x y S2 ((ev G' ft pc env S2).bind fun z S3 => Res.ofO ((cmpV o' S3 y z).map .bl) S3)) (by simp only [lift, ev] at h; exact h)
  refine lift_mono h2 fun x H1 h3 => lift_mono h3 fun y H2 ⟨μ, env, v, w, S, s, e, r1, r2, q⟩ => ?_
  unfold chainV at q
  cases ec : cmpV o S v w with
  | none => rw [ec] at q; exact q.elim
  | some k =>
    rw [ec] at q
    refine ⟨G, W, σ, μ, v, w, S, hK, s, r1, r2, ?_⟩
    rw [ec]
    refine fun μ1 H3 u1 k1 s1 x' rx => ?_
    cases rx
    refine ⟨k, rfl, ?_⟩
    cases k with
    | false =>
      refine After.val (v := .bl false) (After.later q u1 k1) s1 (.bl _)
    | true =>
      refine ⟨μ1, env, S, s1, e.mono u1 k1, (After.later q u1 k1).bind.imp fun z μ2 S2 H4 u2 k2 s2 h2 z' rz => ⟨G, W, σ, μ2, w, z, S2, hK, s2, (r2.mono u1 k1 _ _).mono u2 k2 _ _, rz, h2⟩⟩
theorem de_chain (hu : X.A.units + 161 < cLine) (hK : G.K = X.K) (o o' : CmpO) (ha : PE X a (lift G W (ev G' ft pa))) (hb : PE X b (lift G W (ev G' ft pb))) (hc : PE X c (lift G W (ev G' ft pc))) (hm : lastMarks [cmpPy o, cmpPy o'] [b, c] = false) :
    PE X (.Compare a [cmpPy o, cmpPy o'] [b, c] pos) (lift G W (ev G' ft (.chain o o' pa pb pc))) :=
  (pe_chain (cmp_all hu o) (cmp_all hu o') ha hb hc hm).imp fun σ H Q h => chain_read hu hK h
theorem dt_chain (hu : X.A.units + 161 < cLine) (hK : G.K = X.K) (o o' : CmpO) (ha : PE X a (lift G W (ev G' ft pa))) (hb : PE X b (lift G W (ev G' ft pb))) (hc : PE X c (lift G W (ev G' ft pc))) (hm : lastMarks [cmpPy o, cmpPy o'] [b, c] = false) :
    PT X (.Compare a [cmpPy o, cmpPy o'] [b, c] pos) (liftT G W (tst (ev G' ft (.chain o o' pa pb pc)))) := by
  refine (pt_chain (cmp_all hu o) (cmp_all hu o') ha hb hc hm).imp fun σ H Q h => chain_read hu hK (tst_bool (fun env S v S' e => ?_) h)
  simp only [ev] at e
  obtain ⟨x, _, _, e⟩ := bind_ok e
  obtain ⟨y, _, _, e⟩ := bind_ok e
  unfold chainV at e
  split at e
  · obtain ⟨z, _, _, e⟩ := bind_ok e; exact ofO_bl e
  · cases e; exact ⟨_, rfl⟩
  · cases e

/-! ## displays, items, slices, fields -/
theorem da_nil : PA X [] (liftA G W (evA G' ft .nil)) := pa_nil.imp fun σ H Q ⟨μ, env, S, s, e, h⟩ => by
  simp only [evA] at h; exact h.here s _ .nil
theorem da_cons {es : List Expr} (ha : PE X a (lift G W (ev G' ft pa))) (hb : PA X es (liftA G W (evA G' ft pb))) (hs : starEach (a :: es) X.env = (false, eval a X.env) :: starEach es X.env) : PA X (a :: es) (liftA G W (evA G' ft (.cons pa pb))) := by
  refine (pa_cons ha hb hs).imp fun σ H Q h => ?_
  obtain ⟨μ, env, S, s, e, h⟩ := h
  simp only [evA] at h
  exact ⟨μ, env, S, s, e, h.bind.imp fun x μ1 S1 H1 u1 k1 s1 h1 x' rx => ⟨μ1, env, S1, s1, e.mono u1 k1, h1.bind.imp fun xs μ2 S2 H2 u2 k2 s2 h2 xs' rxs => h2.here s2 _ (.cons (rx.mono u2 k2 _ _) rxs)⟩⟩
theorem de_tup {es : List Expr} {k : Nat} (ha : PA X es (liftA G W (evA G' ft pa))) : PE X (.Tuple es k pos) (lift G W (ev G' ft (.tup pa))) := by
  refine (pe_tup ha).imp fun σ H Q h => ?_
  have h2 := oneA (f := fun xs env S1 => if xs.length ≤ line then Res.ok (Val.tup xs) S1 else .no) (by simp only [lift, ev] at h; exact h)
  obtain ⟨μ, env, S, s, e, h2⟩ := h2
  refine ⟨μ, env, S, s, e, h2.imp fun vs μ1 S1 H1 u1 k1 s1 h1 xs rxs => ?_⟩
  obtain ⟨μ2, env2, vs2, S2, s2, e2, r2, q⟩ := h1 xs rxs
  split at q
  · rename_i hl
    exact ⟨by rw [← line_eq, ← r2.length]; exact hl, fun p hp => q.tup s2 r2 hp⟩
  · exact q.elim
theorem de_lst {es : List Expr} (ha : PA X es (liftA G W (evA G' ft pa))) : PE X (.List es pos) (lift G W (ev G' ft (.lst pa))) := by
  refine (pe_lst ha).imp fun σ H Q h => ?_
  have h2 := oneA (f := fun xs env S1 => if xs.length ≤ line then Res.ok (Val.obj S1.length) (S1 ++ [.lst false xs]) else .no) (by simp only [lift, ev] at h; exact h)
  obtain ⟨μ, env, S, s, e, h2⟩ := h2
  refine ⟨μ, env, S, s, e, h2.imp fun vs μ1 S1 H1 u1 k1 s1 h1 xs rxs => ?_⟩
  obtain ⟨μ2, env2, vs2, S2, s2, e2, r2, q⟩ := h1 xs rxs
  split at q
  · rename_i hl
    exact ⟨by rw [← line_eq, ← r2.length]; exact hl, fun p hp => q.lst s2 r2 hp⟩
  · exact q.elim
theorem de_dnewK : PE X (.Dict [] [] pos) (lift G W (ev G' ft .dnewK)) := pe_dnewK.imp fun σ H Q ⟨μ, env, S, s, e, h⟩ p hp => by
  simp only [ev] at h
  exact h.alloc s hp rfl ⟨[], upd_same, trivial, by simp⟩
theorem de_dnewT : PE X (.Dict [] [] pos) (lift G W (ev G' ft .dnewT)) := pe_dnewT.imp fun σ H Q ⟨μ, env, S, s, e, h⟩ p hp => by
  simp only [ev] at h
  exact h.alloc s hp rfl ⟨[], upd_same, trivial, by simp⟩
theorem atI_rel {vs : List Val} {xs : List V} {i : Int} {v : Val} (r : RVs μ H vs xs) (e : atI vs i = some v) : ∃ x, atI xs i = some x ∧ RV μ H v x := by
  unfold atI at e ⊢
  rw [← r.length]
  cases e1 : ixN vs.length i with
  | none => rw [e1] at e; cases e
  | some j => rw [e1] at e; exact r.get e
/-- d[k] by values -/
theorem ix_dict (hu : X.A.units + 1 < cLine) : IxR X (fun x y H Q => ∃ a v, x = .ref a ∧ DGet H a y (some v) ∧ Q v H) := by
  intro value slice pins s σ H x y u iv Q I rx ry h hs
  obtain ⟨a, v, ex, g, q⟩ := h
  subst ex
  obtain rfl : u = Value.ref a := rx
  exact PyProof.Rows.tail_any (dict_typeIs I g) PySem.F.slot_dict_getitem.lookup (d_getItem hu I g ry fun w' s3 I3 rw' => ⟨v, H, I3, rw', q⟩) hs
theorem sOk_one {z : Str} {i : Int} {c : Nat} (h : sOk z = true) (e : atI z.cps.toList i = some c) : sOk ⟨#[c]⟩ = true := by
  unfold atI at e
  cases e1 : ixN z.cps.toList.length i with
  | none => rw [e1] at e; cases e
  | some j =>
    rw [e1] at e
    unfold sOk at h ⊢
    have hc : c ∈ z.cps.toList := List.mem_of_getElem? e
    rw [Array.all_eq_true_iff_forall_mem] at h ⊢
    intro x hx
    simp at hx; subst hx
    exact h x (by simpa using hc)
theorem de_idx (hu : X.A.units + 1 < cLine) (hK : G.K = X.K) (ha : PE X a (lift G W (ev G' ft pa))) (hb : PE X b (lift G W (ev G' ft pb))) (hs : PlainIx b) : PE X (.Subscript a b pos) (lift G W (ev G' ft (.idx pa pb))) := by
  refine (pe_ix (IxR.or ix_seq (ix_dict hu)) ha hb hs).imp fun σ H Q h => ?_
  have h2 := two (f := fun x y _ S2 => Res.ofO (ixV S2 x y) S2) (by simp only [lift, ev] at h; exact h)
  refine lift_mono h2 fun x H1 h3 => lift_mono h3 fun y H2 ⟨μ, env, v, w, S, s, e, r1, r2, q⟩ => ?_
  obtain ⟨u, eu, qq⟩ := q.ofO
  clear q
  unfold ixV at eu
  split at eu
  · cases r1 with
    | str h1 =>
    cases r2
    split at eu
    · rename_i hl
      cases e1 : atI (Str.cps _).toList _ with
      | none => rw [e1] at eu; cases eu
      | some c =>
        rw [e1] at eu; cases eu
        exact .inl (.inr (.inr ⟨_, _, c, rfl, rfl, by rw [← line_eq]; exact hl, e1, qq.val s (.str (sOk_one h1 e1))⟩))
    · cases eu
  · cases r1 with
    | tup h1 t1 =>
    cases r2
    obtain ⟨z, e1, r3⟩ := atI_rel t1 eu
    exact .inl (.inr (.inl ⟨_, _, _, z, rfl, rfl, SqT.of h1, e1, qq.val s r3⟩))
  · cases r1 with
    | obj h1 =>
    split at eu
    · rename_i l xs eo
      obtain ⟨p, ys, g1, g2, g3⟩ := s.lstR eo
      rw [h1] at g1; cases g1
      split at eu
      · cases r2
        obtain ⟨z, e1, r3⟩ := atI_rel g3 eu
        exact .inl (.inl ⟨_, _, _, z, rfl, rfl, by rw [← hK]; exact g2, e1, qq.val s r3⟩)
      · cases eu
    · rename_i l kvs eo
      cases e1 : keyOf w with
      | none => rw [e1] at eu; cases eu
      | some k =>
        rw [e1] at eu
        obtain ⟨ys, _, g1, g2⟩ := dget_k s eo h1 r2 e1
        obtain ⟨z, e2, r3⟩ := (g1.look k).1 _ eu
        rw [e2] at g2
        exact .inr ⟨_, z, rfl, g2, qq.val s r3⟩
    · rename_i l kvs eo
      cases e1 : keysOf w with
      | none => rw [e1] at eu; cases eu
      | some k =>
        rw [e1] at eu
        obtain ⟨ys, _, g1, g2⟩ := dget_t s eo h1 r2 e1
        obtain ⟨z, e2, r3⟩ := (g1.look k).1 _ eu
        rw [e2] at g2
        exact .inr ⟨_, z, rfl, g2, qq.val s r3⟩
    · cases eu
  · cases eu
end
end Nw

set_option Elab.async false
set_option linter.all false
set_option maxRecDepth 100000
set_option maxHeartbeats 3200000
namespace Nw
open PySem L2 PySem.Spec PyProof.Rows HT

/-! ## t[::-1], t a tuple -/
section
variable {prog : Program} {w : World} {A : Around} {E : Value → Shared → Prop} {s : Shared}
theorem sliceApplied_rev {sl : Addr} {vs : Value} {n : Nat} {Q : Int × Int × Nat → Shared → Prop} (hs : s.heap.IsSliceOf sl .none .none vs) (ps : IsPart vs (some (-1)))
    (h : Q ((n : Int) - 1, -1, n) s) : wpAny (model prog w) A (Builtin.Slice.sliceApplied (.ref sl) (pure (n : Int))) Q E s := by
  obtain ⟨os, hos, hcs, hds⟩ := id hs
  unfold Builtin.Slice.sliceApplied Builtin.Slice.sliceFields
  refine wpAny_bind (wpAny_bind (wpAny_field hos hds (x := .none) rfl (wpAny_bind (wpAny_field hos hds (x := .none) rfl (wpAny_bind (wpAny_field hos hds (x := vs) rfl (wpAny_pure ?_)))))))
  refine wpAny_bind (slicePart_ ps ?_)
  show wpAny _ _ (if ((-1 : Int) == 0) = true then _ else _) _ _ s
  rw [if_neg (by decide)]
  refine wpAny_bind (slicePart_none (wpAny_bind (slicePart_none (wpAny_bind (wpAny_pure ?_)))))
  show wpAny _ _ (match Builtin.Slice.sliceAdjust none none (-1) (n : Int) with | (lo, hi) => pure (lo, (-1 : Int), Builtin.Slice.slicePlaces lo hi (-1))) _ _ s
  have e1 : Builtin.Slice.sliceAdjust none none (-1) (n : Int) = ((n : Int) - 1, -1) := by
    unfold Builtin.Slice.sliceAdjust
    rfl
  rw [e1]
  show wpAny _ _ (pure ((n : Int) - 1, (-1 : Int), Builtin.Slice.slicePlaces ((n : Int) - 1) (-1) (-1))) _ _ s
  have e2 : Builtin.Slice.slicePlaces ((n : Int) - 1) (-1) (-1) = n := by
    unfold Builtin.Slice.slicePlaces
    have h1 : ¬ ((-1 : Int) > 0) := by omega
    simp only [h1, if_false]
    by_cases h2 : (n : Int) - 1 > -1
    · rw [if_pos h2]
      have : (-(-1) : Int) = 1 := by omega
      rw [this, Int.ediv_one]
      omega
    · rw [if_neg h2]
      omega
  rw [e2]
  exact wpAny_pure h
theorem fm_all {α β : Type} {f : α → Option β} {g : α → β} : ∀ {l : List α}, (∀ m ∈ l, f m = some (g m)) → l.filterMap f = l.map g
  | [], _ => rfl
  | a :: l, h => by
    rw [List.filterMap_cons_some (h a List.mem_cons_self), fm_all fun m hm => h m (List.mem_cons_of_mem _ hm)]
    rfl
theorem pick_rev (xs : Array Value) : ((List.range xs.size).filterMap fun (m : Nat) => xs[(((xs.size : Int) - 1) + (m : Int) * (-1)).toNat]?).toArray = xs.toList.reverse.toArray := by
  congr 1
  refine List.ext_getElem? fun i => ?_
  have e : (List.range xs.size).filterMap (fun (m : Nat) => xs[(((xs.size : Int) - 1) + (m : Int) * (-1)).toNat]?) = (List.range xs.size).map fun m => xs.getD (xs.size - 1 - m) default := by
    refine fm_all fun m hm => ?_
    have hm' : m < xs.size := by simpa using hm
    have e1 : (((xs.size : Int) - 1) + (m : Int) * (-1)).toNat = xs.size - 1 - m := by omega
    rw [e1]
    have h2 : xs.size - 1 - m < xs.size := by omega
    simp [Array.getD, h2]
  rw [e]
  by_cases hi : i < xs.size
  · rw [List.getElem?_map, List.getElem?_range hi, List.getElem?_reverse (by simpa using hi)]
    have h2 : xs.size - 1 - i < xs.size := by omega
    simp [Array.getD, h2]
  · rw [List.getElem?_eq_none (by simp; omega), List.getElem?_eq_none (by simp; omega)]
theorem getItem_tuple_rev {t sl : Addr} {items : Array Value} {vs : Value} {Q : Value → Shared → Prop} (ht : IsTup s.heap t items) (hs : s.heap.IsSliceOf sl .none .none vs) (ps : IsPart vs (some (-1)))
    (h : Q (.ref s.heap.objs.size) { s with heap := s.heap.push { cls := .type "tuple", data := .seq items.toList.reverse.toArray } })
    (hsz : items.size ≤ sizeLine) : wpAny (model prog w) A (getItem (.ref t) (.ref sl)) Q E s := by
  have htake : sizeOk (.seq items.toList.reverse.toArray) := by
    show items.toList.reverse.toArray.size ≤ sizeLine
    simp
    exact hsz
  obtain ⟨os, hos, hcs, hds⟩ := id hs
  have hTs : s.TypeIs (.ref sl) "slice" := ⟨os, hos, hcs⟩
  unfold getItem
  try with_reducible refine wpAny_holding ?_
  first | refine wpAny_bind (wpAny_pure ?_) | skip
  refine wpAny_bind (wpAny_sequenceKey ht.typeIs (by decide) ?_)
  refine wpAny_bind (wpAny_callSpecial?_slot (name := Str.ofString "__getitem__") ht.typeIs PyProof.Rows.slot_tuple_getitem
    (wpAny_call_entry PyProof.Rows.slot_tuple_getitem ht.typeIs entry_tuple_getitem ?_ (args_tuple_getitem _ _)))
  show wpAny _ _ (Builtin.Tuple.tupleItemsOf (.ref t) >>= _) _ _ s
  refine wpAny_bind (tupleItemsOf_ ht ?_)
  refine wpAny_bind (wpAny_typeOf hTs ?_)
  rw [if_pos (by decide)]
  refine wpAny_bind (sliceApplied_rev hs ps ?_)
  have hno : ¬ ((((items.size : Int) - 1) == 0 && (-1 : Int) == 1 && items.size == items.size) = true) := by
    intro q
    rw [Bool.and_eq_true, Bool.and_eq_true] at q
    have q1 : (-1 : Int) = 1 := eq_of_beq q.1.2
    omega
  show wpAny _ _ (if (((items.size : Int) - 1) == 0 && (-1 : Int) == 1 && items.size == items.size) = true then _ else _) _ _ s
  rw [if_neg hno, pick_rev]
  first
    | exact wpAny_bind (m := Builtin.Tuple.tupleExact _) (wpAny_newObj_type (wpAny_pure ⟨_, rfl, wpAny_pure h⟩) htake)
    | exact wpAny_bind (m := Builtin.Tuple.tupleExact _) (wpAny_newObj_type (wpAny_bind (wpAny_pure (wpAny_pure ⟨_, rfl, wpAny_pure h⟩))) htake)
    | exact wpAny_bind (wpAny_bind (m := Builtin.Tuple.tupleExact _) (wpAny_newObj_type (wpAny_pure (wpAny_pure ⟨_, rfl, wpAny_pure h⟩)) htake))
    | exact wpAny_bind (wpAny_bind (m := Builtin.Tuple.tupleExact _) (wpAny_newObj_type (wpAny_pure ⟨_, rfl, wpAny_pure h⟩) htake))
end
section
variable {X : Cx}
def tRevT (K : PySem.W.Frag) (te : TE) : TE := fun σ H Q => te σ H fun x H1 => ∃ a xs, x = .ref a ∧ ((SqL K H1 a xs ∧ ∀ p, H1 p = none → Q (.ref p) (upd H1 p (.lst xs.reverse))) ∨ (SqT K H1 a xs ∧ ∀ p, H1 p = none → Q (.ref p) (upd H1 p (.tup xs.reverse))))
theorem pe_revT {e : Expr} {te : TE} {k : Nat} {p1 p2 p3 pos : Pos} (he : PE X e te) : PE X (.Subscript e (.Slice none none (some (.UnaryOp .USub (.Constant (.int 1) k p1) p2)) p3) pos) (tRevT X.K te) := by
  refine ⟨fun pins s σ H Q I h => ?_⟩
  refine Subscript_ (thn (he.run pins s σ H _ I h) fun v s1 ⟨x, H1, I1, r1, q1⟩ => ?_)
  obtain ⟨a, xs, ex, q⟩ := q1
  subst ex
  cases r1
  have hst : PO X (some (.UnaryOp .USub (.Constant (.int 1) k p1) p2)) (tPart (tUn (rU fun i => .int (-i)) (tC (.int 1)))) := po_some (pe_un un_neg pe_int)
  refine wpAny_Slice (thn (po_none.run pins s1 σ H1 (fun o H2 => o = none ∧ H2 = H1) I1 ⟨rfl, rfl⟩) fun vl s2 ⟨l, H2, I2, pl, el, e2⟩ => ?_)
  subst el e2
  refine thn (po_none.run pins s2 σ H2 (fun o H3 => o = none ∧ H3 = H2) I2 ⟨rfl, rfl⟩) fun vu s3 ⟨u, H3, I3, pu, eu, e3⟩ => ?_
  subst eu e3
  refine thn (hst.run pins s3 σ H3 (fun o H4 => o = some (-1) ∧ H4 = H3) I3 ⟨1, rfl, -1, rfl, rfl, rfl⟩) fun vs s4 ⟨o, H4, I4, ps, eo, e4⟩ => ?_
  subst eo e4
  have I5 : Inv X pins σ H4 { s4 with heap := s4.heap.push { cls := .type "slice", data := .fields #[vl, vu, vs] } } := I4.kept (t' := s4.toks) fun b ob q => Heap.get?_push_of_some _ q
  show wpAny (model X.prog X.w) X.A (subscriptTail e (.Slice none none (some (.UnaryOp .USub (.Constant (.int 1) k p1) p2)) p3) (.ref a) (.ref s4.heap.objs.size)) (EP X pins σ Q) X.xe { s4 with heap := s4.heap.push { cls := .type "slice", data := .fields #[vl, vu, vs] } }
  rcases q with ⟨hx, q⟩ | ⟨hx, q⟩
  · obtain ⟨its, r, ht, hz⟩ := I5.list hx
    have hlen := r.length
    refine tail_any (ops := [.ref a, .ref s4.heap.objs.size]) ht.isList.typeIs (PySem.slot_list_getitem.lookup) ?_ (by with_unfolding_all rfl)
    refine wpAny_getItem_list_slice ht.isList (Heap.IsSliceOf.new _ vl vu vs) pl pu ps (by decide) ?_ (by rw [List.size_toArray]; omega)
    rw [PySem.W.krv_pick]
    refine ⟨.ref _, _, I5.laid (t' := s4.toks) (o := .lst xs.reverse) (fun b ob q => Heap.get?_push_of_some _ q) (Nat.le_refl _) ?_, rfl, q _ (I5.hok.fresh (Nat.le_refl _))⟩
    exact ⟨by rw [List.length_reverse]; exact hz, _, 0, r.reverse, Heap.get?_push_size _ rfl⟩
  · obtain ⟨its, r, ht, hz⟩ := I5.tuple hx
    have hlen := r.length
    cases pl
    cases pu
    refine tail_any (ops := [.ref a, .ref s4.heap.objs.size]) ht.typeIs (PyProof.Rows.slot_tuple_getitem.lookup) ?_ (by with_unfolding_all rfl)
    refine getItem_tuple_rev ht (Heap.IsSliceOf.new _ .none .none vs) ps ?_ (by rw [List.size_toArray]; omega)
    refine ⟨.ref _, _, I5.laid (t' := s4.toks) (o := .tup xs.reverse) (fun b ob q => Heap.get?_push_of_some _ q) (Nat.le_refl _) ?_, rfl, q _ (I5.hok.fresh (Nat.le_refl _))⟩
    exact ⟨by rw [List.length_reverse]; exact hz, _, r.reverse, IsTup.new _ _⟩
end
end Nw

set_option Elab.async false
set_option linter.all false
set_option maxRecDepth 100000
set_option maxHeartbeats 1000000
namespace Nw
open PySem L2

section
variable {α β : Type} {G : Cfg} {W : WX} {X : Cx} {σ : St} {μ : List Addr} {H : Hp} {S : Store} {Q : VK} {G' : Tab} {ft : Fns}
variable {a b c e : Expr} {pa pb pc : PyE} {pos : Pos}

theorem strs_flat (ks : List Str) : (ks.map V.str).all flatV = true := by
  induction ks with
  | nil => rfl
  | cons k r ih => simp only [List.map_cons, List.all_cons, ih]; rfl
theorem inK_rel {ks : List Str} {w : Val} {y : V} (r : RV μ H w y) (hf : flat w = true) : (ks.any fun k => eqF (.str k) w) = inV y (ks.map V.str) := by
  induction ks with
  | nil => rfl
  | cons k t ih =>
    unfold inV at ih ⊢
    simp only [List.map_cons, List.any_cons, ih]
    congr 1
    cases r <;> first | (cases hf; done) | rfl
theorem inK_read {n : Bool} {ks : List Str} {p : Addr} (hp : ∀ H, SqT X.K H p (ks.map V.str)) (h : lift G W (ev G' ft (.inK n pa ks)) σ H Q) : tOp (rIn X.K n) (lift G W (ev G' ft pa)) (tC (.ref p)) σ H Q := by
  have h2 := one (f := fun x _ S1 => if flat x then Res.ok (Val.bl (xorB n (ks.any fun k => eqF (.str k) x))) S1 else .no) (by simp only [lift, ev] at h; exact h)
  refine lift_mono h2 fun x H1 ⟨μ, env, v, S, s, e, r, q⟩ => ?_
  split at q
  · rename_i hf
    refine ⟨p, _, rfl, .inr (hp H1), flat_rel r hf, strs_flat ks, ?_⟩
    have z : After.val q s (.bl _) = After.val q s (.bl _) := rfl
    have q2 : Q (.bl (xorB n (ks.any fun k => eqF (.str k) v))) H1 := After.val q s (.bl _)
    rw [inK_rel r hf] at q2
    cases n <;> exact q2
  · exact q.elim
theorem inK_bl {n : Bool} {ks : List Str} {env : Env} {v : Val} {S S' : Store} (e : ev G' ft (.inK n pa ks) env S = .ok v S') : ∃ b, v = .bl b := by
  simp only [ev] at e
  obtain ⟨x, _, _, e⟩ := bind_ok e
  split at e
  · cases e; exact ⟨_, rfl⟩
  · cases e
theorem de_inK {ks : List Str} {p : Addr} (n : Bool) (hp : ∀ H, SqT X.K H p (ks.map V.str)) (ha : PE X a (lift G W (ev G' ft pa))) (hb : PE X b (tC (.ref p))) (hm : behindInMarks (if n then .NotIn else .In) b = false) :
    PE X (.Compare a [if n then .NotIn else .In] [b] pos) (lift G W (ev G' ft (.inK n pa ks))) := by
  cases n with
  | false => exact (pe_cmpR op_in_seq ha hb hm).imp fun σ H Q h => inK_read hp h
  | true => exact (pe_cmpR op_notIn_seq ha hb hm).imp fun σ H Q h => inK_read hp h
theorem dt_inK {ks : List Str} {p : Addr} (n : Bool) (hp : ∀ H, SqT X.K H p (ks.map V.str)) (ha : PE X a (lift G W (ev G' ft pa))) (hb : PE X b (tC (.ref p))) (hm : behindInMarks (if n then .NotIn else .In) b = false) :
    PT X (.Compare a [if n then .NotIn else .In] [b] pos) (liftT G W (tst (ev G' ft (.inK n pa ks)))) := by
  cases n with
  | false => exact (pt_cmpR op_in_seq ha hb hm).imp fun σ H Q h => inK_read hp (tst_bool (fun env S v S' e => inK_bl e) h)
  | true => exact (pt_cmpR op_notIn_seq ha hb hm).imp fun σ H Q h => inK_read hp (tst_bool (fun env S v S' e => inK_bl e) h)

/-! ## slices -/
theorem cut_rel {vs : List Val} {xs : List V} {lo hi : Option Int} (r : RVs μ H vs xs) : RVs μ H (cut vs lo hi) (cutV xs lo hi) := by
  unfold cut cutV
  rw [r.length]
  exact (r.drop _).take _
theorem sOk_cut {z : Str} {lo hi : Option Int} (h : sOk z = true) : sOk (cutS z lo hi) = true := by
  unfold sOk at h ⊢
  rw [Array.all_eq_true_iff_forall_mem] at h ⊢
  intro x hx
  unfold cutS at hx
  simp only [List.mem_toArray] at hx
  exact h x (by simpa using List.mem_of_mem_drop (List.mem_of_mem_take hx))
def liftO (G : Cfg) (W : WX) (m : Env → Store → Res (Option Int)) : TO := fun σ H Q => ∃ μ env S, Sim G μ S H ∧ REnv μ H env σ ∧ After G W σ μ H (m env S) fun o _ _ H' => Q o H'
theorem do_none : PO X none (liftO G W fun env S => if false then (ev G' ft pa env S).bind optI else .ok none S) :=
  ⟨fun pins s σ H Q I ⟨μ, env, S, sm, e, h⟩ => po_none.run pins s σ H Q I (h.here sm)⟩
theorem do_some (ha : PE X a (lift G W (ev G' ft pa))) : PO X (some a) (liftO G W fun env S => if true then (ev G' ft pa env S).bind optI else .ok none S) := by
  refine ⟨fun pins s σ H Q I h => (po_some ha).run pins s σ H Q I ?_⟩
  obtain ⟨μ, env, S, sm, e, h⟩ := h
  dsimp only at h
  rw [if_pos rfl] at h
  refine ⟨μ, env, S, sm, e, h.bind.imp fun v μ1 S1 H1 u k s1 h1 x r => ?_⟩
  cases v with
  | int i => cases r; exact ⟨i, rfl, h1.here s1⟩
  | _ => exact h1.elim
theorem de_sl {lo hi : Option Expr} {hl hh : Bool} {p2 : Pos} (hK : G.K = X.K) (ha : PE X a (lift G W (ev G' ft pa))) (hlo : PO X lo (liftO G W fun env S => if hl then (ev G' ft pb env S).bind optI else .ok none S))
    (hhi : PO X hi (liftO G W fun env S => if hh then (ev G' ft pc env S).bind optI else .ok none S)) : PE X (.Subscript a (.Slice lo hi none p2) pos) (lift G W (ev G' ft (.sl pa hl pb hh pc))) := by
  refine (pe_slice (SlR.or (SlR.or sl_list sl_tupA) sl_str) ha hlo hhi).imp fun σ H Q h => ?_
  obtain ⟨μ, env, S, s, e, h⟩ := h
  simp only [ev] at h
  refine ⟨μ, env, S, s, e, h.bind.imp fun v μ1 S1 H1 u1 k1 s1 h1 x rx => ⟨μ1, env, S1, s1, e.mono u1 k1, h1.bind.imp fun l μ2 S2 H2 u2 k2 s2 h2 => ⟨μ2, env, S2, s2, (e.mono u1 k1).mono u2 k2, h2.bind.imp fun th μ3 S3 H3 u3 k3 s3 h3 => ?_⟩⟩⟩
  have rx' := (rx.mono u2 k2 _ _).mono u3 k3 _ _
  unfold slV at h3
  split at h3
  · cases rx' with
    | str hs =>
    split at h3
    · rename_i hz
      exact .inr ⟨_, rfl, by rw [← line_eq]; exact hz, h3.val s3 (.str (sOk_cut hs))⟩
    · exact h3.elim
  · cases rx' with
    | tup hs t =>
    refine .inl (.inr ⟨_, _, rfl, SqT.of hs, fun hw => ?_, fun _ p hp => h3.tup s3 (cut_rel t) hp⟩)
    refine h3.val s3 (.tup hs ?_)
    have z : ∀ (xs : List Val) (ys : List V), RVs μ3 H3 xs ys → HT.sIx ys.length 0 l = 0 ∧ HT.sIx ys.length ys.length th = ys.length → cut xs l th = xs := fun xs ys t hw => by
      unfold cut
      rw [t.length, hw.1, hw.2]
      simp [← t.length]
    rw [z _ _ t hw]; exact t
  · cases rx' with
    | obj hs =>
    split at h3
    · rename_i eo
      obtain ⟨p, ys, g1, g2, g3⟩ := s3.lstR eo
      rw [hs] at g1; cases g1
      exact .inl (.inl ⟨_, _, rfl, by rw [← hK]; exact g2, fun p hp => h3.lst s3 (cut_rel g3) hp⟩)
    · exact h3.elim
  · exact h3.elim

theorem de_revL {kk : Nat} {p1 p2 p3 : Pos} (hK : G.K = X.K) (ha : PE X a (lift G W (ev G' ft pa))) : PE X (.Subscript a (.Slice none none (some (.UnaryOp .USub (.Constant (.int 1) kk p1) p2)) p3) pos) (lift G W (ev G' ft (.revL pa))) := by
  refine (pe_revT ha).imp fun σ H Q h => ?_
  have h2 := one (f := fun x _ S1 => rvlV S1 x) (by simp only [lift, ev] at h; exact h)
  refine lift_mono h2 fun y H1 ⟨μ, env, v, S, s, e, r, q⟩ => ?_
  unfold rvlV at q
  split at q
  · cases r with
    | tup h1 t1 => exact ⟨_, _, rfl, .inr ⟨SqT.of h1, fun p hp => q.tup s (RVs.rev t1) hp⟩⟩
  · cases r with
    | obj hs =>
    split at q
    · rename_i eo
      obtain ⟨p, ys, g1, g2, g3⟩ := s.lstR eo
      rw [hs] at g1; cases g1
      exact ⟨_, _, rfl, .inl ⟨by rw [← hK]; exact g2, fun p hp => q.lst s (RVs.rev g3) hp⟩⟩
    · exact q.elim
  · exact q.elim

/-! ## fields -/
/-- what the tables say is true of the text -/
structure ClsOk (G : Cfg) (G' : Tab) : Prop where
  cls : ∀ c f, G'.isF c f = true → Cls G.K (G.ca c)
  fld : ∀ c f, G'.isF c f = true → NoAttr G.K (G.ca c) (G.nm f) ∧ f < G.NM.length
theorem de_fld {f : Nat} {x : Str} (C : ClsOk G G') (hK : G.K = X.K) (hx : G.nm f = x) (ha : PE X a (lift G W (ev G' ft pa))) (hb : attributeBase a x X.env (eval a X.env) = eval a X.env) : PE X (.Attribute a x pos) (lift G W (ev G' ft (.fld pa f))) := by
  refine (pe_fld ha hb).imp fun σ H Q h => ?_
  have h2 := one (f := fun x _ S1 => fldV G' f x S1) (by simp only [lift, ev] at h; exact h)
  refine lift_mono h2 fun y H1 ⟨μ, env, v, S, s, e, r, q⟩ => ?_
  unfold fldV at q
  split at q
  · cases r with
    | obj hs =>
    split at q
    · rename_i c fs eo
      split at q
      · rename_i hF
        obtain ⟨w, ew, q⟩ := q.ofO
        obtain ⟨p, dx, ys, g1, g2, g3⟩ := s.ins eo
        rw [hs] at g1; cases g1
        obtain ⟨n1, n2⟩ := C.fld c f hF
        obtain ⟨z, e1, r1⟩ := (g3.get n2).1 w ew
        rw [← hK, ← hx]
        exact ⟨_, _, dx, ys, z, rfl, g2, C.cls c f hF, n1, e1, q.val s r1⟩
      · exact q.elim
    · exact q.elim
  · exact q.elim

/-! ## a dict's display -/
/-- the pairs of a display, from the left -/
theorem pairs_nil {σ : St} {H : Hp} {d : Nat} {acc : List (Key × Val)} {xs : List (Key × V)} {p : Addr} {μ : List Addr} {env : Env} {S : Store} (s : Sim G μ S H) (r : RKv μ H acc xs) (ok : ∀ q ∈ acc, kOk q.1 = true) (hd : μ[d]? = some p)
    (h : After G W σ μ H (evP G' ft .nil env d acc S) (Kv Q)) : H p = some (.dK []) ∧ xs.length ≤ 15 ∧ Q (.ref p) (upd H p (.dK (mergeK [] xs))) := by
  simp only [evP] at h
  unfold dispV at h
  split at h
  · rename_i eo
    obtain ⟨q, ys, g1, g2, g3, _⟩ := s.dK eo
    rw [hd] at g1; cases g1
    split at h
    · rename_i hl
      have e0 : ys = [] := by cases ys with | nil => rfl | cons _ _ => exact g3.elim
      subst e0
      refine ⟨g2, by rw [← r.length]; exact hl, h.put s eo rfl rfl hd ⟨_, upd_same, ?_, ?_⟩ (.obj hd)⟩
      · have kp : Keep H (upd H p (.dK (mergeK [] xs))) := Keep.upd g2 ⟨(fun _ z => by cases z), (fun _ _ z => by cases z)⟩
        exact (RKv.merge r (a := []) (b := []) trivial).mono (Up.refl _) kp
      · intro z hz
        have : ∀ (m kv : List (Key × Val)), (∀ q ∈ m, kOk q.1 = true) → (∀ q ∈ kv, kOk q.1 = true) → ∀ z ∈ merge kv m, kOk z.1 = true := by
          intro m
          induction m with
          | nil => intro kv _ h2 z hz; exact h2 z hz
          | cons q m ih =>
            intro kv h1 h2 z hz
            refine ih (put kv q.1 q.2) (fun w hw => h1 w (by simp [hw])) (fun w hw => ?_) z hz
            unfold put at hw
            split at hw
            · obtain ⟨y, hy, ey⟩ := List.mem_map.mp hw
              split at ey
              · subst ey; exact h2 y hy
              · subst ey; exact h2 y hy
            · rcases List.mem_append.mp hw with hw | hw
              · exact h2 w hw
              · simp at hw; subst hw; exact h1 q (by simp)
        exact this acc [] ok (by simp) z hz
    · exact h.elim
  · exact h.elim
/-- the display's readings: pairs of trees -/
inductive DispL (G : Cfg) (W : WX) (X : Cx) (G' : Tab) (ft : Fns) : List (Option Expr) → List Expr → PyE → Prop
  | nil : DispL G W X G' ft [] [] .nil
  | cons {k v : Expr} {ks : List (Option Expr)} {vs : List Expr} {pk pv pr : PyE} (hk : PE X k (lift G W (ev G' ft pk))) (hv : PE X v (lift G W (ev G' ft pv))) (t : DispL G W X G' ft ks vs pr) : DispL G W X G' ft (some k :: ks) (v :: vs) (.cons pk (.cons pv pr))
theorem disp_read {ks : List (Option Expr)} {vs : List Expr} {pr : PyE} (h : DispL G W X G' ft ks vs pr) : ∃ trs, PPs X pos ks vs trs ∧ ∀ (σ : St) (H : Hp) (d : Nat) (acc : List (Key × Val)) (xs : List (Key × V)) (p : Addr) (μ : List Addr) (env : Env) (S : Store) (Q : VK) (R : List (V × V) → Hp → Prop),
    Sim G μ S H → REnv μ H env σ → RKv μ H acc xs → (∀ q ∈ acc, kOk q.1 = true) → μ[d]? = some p → After G W σ μ H (evP G' ft pr env d acc S) (Kv Q) →
    (∀ kvs H2, H2 p = some (.dK []) → xs.length + kvs.length ≤ 15 → Q (.ref p) (upd H2 p (.dK (mergeK [] (xs ++ kvs)))) → R (kvs.map (fun kv => (kV kv.1, kv.2))) H2) → tPairs trs σ H R := by
  induction h with
  | nil =>
    refine ⟨[], pps_nil, fun σ H d acc xs p μ env S Q R s e r ok hd q hR => ?_⟩
    obtain ⟨h1, h2, h3⟩ := pairs_nil s r ok hd q
    exact hR [] H h1 (by simpa using h2) (by simpa using h3)
  | cons hk hv t ih =>
    obtain ⟨trs, pp, ih⟩ := ih
    refine ⟨_ :: trs, pps_cons hk hv pp, fun σ H d acc xs p μ env S Q R s e r ok hd q hR => ?_⟩
    simp only [evP] at q
    refine ⟨μ, env, S, s, e, q.bind.imp fun kv μ1 S1 H1 u1 k1 s1 h1 x rx => ?_⟩
    cases ek : keyOf kv with
    | none => rw [ek] at h1; exact h1.elim
    | some k =>
      rw [ek] at h1
      simp only [evQ] at h1
      obtain ⟨ex, _, okk⟩ := key_rel rx ek
      refine ⟨μ1, env, S1, s1, e.mono u1 k1, h1.bind.imp fun v μ2 S2 H2 u2 k2 s2 h2 y ry => ?_⟩
      have r2 := (r.mono u1 k1).mono u2 k2
      refine ih σ H2 d (acc ++ [(k, v)]) (xs ++ [(k, y)]) p μ2 env S2 Q _ s2 ((e.mono u1 k1).mono u2 k2) (r2.app ⟨rfl, ry, trivial⟩) (fun q hq => ?_) (u2 _ _ (u1 _ _ hd)) h2 fun kvs H3 g1 g2 g3 => ?_
      · rcases List.mem_append.mp hq with hq | hq
        · exact ok q hq
        · simp at hq; subst hq; exact okk
      · have := hR ((k, y) :: kvs) H3 g1 (by simp only [List.length_append, List.length_cons, List.length_nil] at g2 ⊢; omega) (by simpa using g3)
        rw [ex]; exact this
theorem de_disp {ks : List (Option Expr)} {vs : List Expr} {pr : PyE} (h : DispL G W X G' ft ks vs pr) (h0 : ks ≠ []) (h15 : ks.length ≤ 15) : PE X (.Dict ks vs pos) (lift G W (ev G' ft (.disp pr))) := by
  have hall : ks.all (·.isSome) = true ∧ ks.length = vs.length := by
    clear h0 h15
    induction h with
    | nil => exact ⟨rfl, rfl⟩
    | cons _ _ _ ih => exact ⟨by simpa using ih.1, by simp [ih.2]⟩
  obtain ⟨trs, pp, hr⟩ := disp_read (pos := pos) h
  refine (pe_disp pp hall.1 hall.2 h0 h15).imp fun σ H Q ⟨μ, env, S, s, e, q⟩ p hp => ?_
  simp only [ev] at q
  have s' : Sim G (μ ++ [p]) (S ++ [.dK false []]) (upd H p (.dK [])) := s.alloc hp rfl ⟨[], upd_same, trivial, by simp⟩
  refine hr σ _ S.length [] [] p _ env _ Q _ s' (e.mono (Up.app _ _) (Keep.new hp)) trivial (by simp) (by rw [← s.len]; simp) (After.later q (Up.app _ _) (Keep.new hp)) fun kvs H2 g1 g2 g3 => ⟨g1, kvs, rfl, by simpa using g2, by simpa using g3⟩
end
end Nw

set_option Elab.async false
set_option linter.all false
set_option maxRecDepth 100000
set_option maxHeartbeats 2000000
/-! ## a dict's display of 18 to 32 pairs: made of two dicts -/
namespace NwZ
open PySem PySem.Spec PyProof.Rows
section
variable {prog : Program} {w : World} {K : Type} [DecidableEq K] {knd : KeyKind prog w K} {A : Around} {E : Value → Shared → Prop} {s : Shared}
theorem put_pairs {d : Addr} {kvs : List (K × Value)} {k : K} {key v : Value} {Q : Unit → Shared → Prop} (hkey : knd.is k key = true) (hm : s.heap.DictOf knd d kvs)
    (hQ : ∀ h', h'.DictOf knd d (stored kvs k v) → Heap.SameBut d s.heap h' → Q () { s with heap := h' })
    (hsz : kvs.length ≤ sizeLine) : wpAny (model prog w) A (dictPut d (knd.hash k) key v) Q E s := by
  obtain ⟨o, es, ep, ho, hc, hd, hk, hp, hn⟩ := hm
  have hes : es.size ≤ sizeLine := by
    have e1 := hp.length
    have e2 : es.toList.length = es.size := by simp
    omega
  unfold dictPut
  refine wpAny_bind (wpAny_dictFind_of hkey ho hd hk ?_)
  have hidx : (es.findIdx? fun e => knd.is k e.key) = kvs.findIdx? fun kv => decide (kv.1 = k) := by
    rw [← hp.findIdx k]; obtain ⟨l⟩ := es; simp
  cases hi : es.findIdx? fun e => knd.is k e.key with
  | some i =>
    refine wpAny_updateDict ho hd (hQ _ ⟨_, _, ep, Heap.get?_update_self _ ho (Obj.isFreed_of_dict (Obj.data_mapDict hd _)),
      hc.mapDict _, Obj.data_mapDict hd _, hk.modify _ _, ?_, ?_⟩ (Heap.SameBut.update ..))
    · rw [stored, if_pos (any_of_findIdx_some (hidx ▸ hi))]
      have hl : (es.toList.findIdx? fun e => knd.is k e.key) = some i := by rw [← hi]; obtain ⟨l⟩ := es; simp
      have z := hp.modify hn hl v
      obtain ⟨l⟩ := es
      simpa using z
    · rw [stored, if_pos (any_of_findIdx_some (hidx ▸ hi)), keys_map_store]; exact hn
  | none =>
    have hnot : k ∉ kvs.map (·.1) := not_mem_of_findIdx_none (hidx ▸ hi)
    have hany : ¬ (kvs.any fun kv => decide (kv.1 = k)) = true := by
      rw [List.any_eq_true]; rintro ⟨kv, hkv, he⟩
      exact hnot (List.mem_map.mpr ⟨kv, hkv, of_decide_eq_true he⟩)
    refine wpAny_updateDictKeys (hz := hes) ho hd (hQ _ ⟨_, _, ep + 1, Heap.get?_update_self _ ho (Obj.isFreed_of_dict (Obj.data_mapDictKeys hd _)),
      hc.mapDictKeys _, Obj.data_mapDictKeys hd _, hk.push hkey _, ?_, ?_⟩ (Heap.SameBut.update ..))
    · rw [stored, if_neg hany]
      have z := hp.append hkey (knd.hash k) v
      obtain ⟨l⟩ := es
      simpa using z
    · rw [stored, if_neg hany, List.map_append, List.nodup_append]
      refine ⟨hn, by simp, ?_⟩
      intro a ha b hb
      simp only [List.map_cons, List.map_nil, List.mem_singleton] at hb
      subst hb
      exact fun e => hnot (e ▸ ha)
/-- a plain dict, merged into one that isn't empty -/
theorem merge_pairs {d o : Addr} {kvs more : List (K × Value)} {Q : Unit → Shared → Prop} (hdo : d ≠ o) (hoS : (o == sysModules) = false) (h0 : kvs ≠ [])
    (hd : s.heap.DictOf knd d kvs) (ho : s.heap.DictOf knd o more)
    (hQ : ∀ h', h'.DictOf knd d (merged kvs more) → Heap.SameBut d s.heap h' → Q () { s with heap := h' })
    (hsz : kvs.length + more.length ≤ sizeLine) : wpAny (model prog w) A (mergeMapping d (.ref o) false) Q E s := by
  obtain ⟨od, esd, epd, hod, hcd, hdd, hkd, hpd, hnd⟩ := id hd
  obtain ⟨oo, eso, epo, hoo, hco, hdo', hko, hpo, hno⟩ := id ho
  have hlen : more.length = eso.size := by rw [← hpo.length]; simp
  unfold mergeMapping
  refine wpAny_bind (wpAny_isInstance ho.typeIs isSubtype_dict_dict ?_)
  simp only [if_true]
  refine wpAny_bind (wpAny_specialOf ho.typeIs PySem.F.slot_dict_iter.lookup ?_)
  refine wpAny_bind (wpAny_pure ?_)
  simp only [beq_self_eq_true]
  rw [if_neg (by rw [hoS]; exact Bool.false_ne_true)]
  refine wpAny_bind (wpAny_dictEntries hod hdd ?_)
  have hne : esd.isEmpty = false := by
    cases q : esd.isEmpty with
    | false => rfl
    | true =>
      exfalso
      have e0 := Array.isEmpty_iff.mp q
      have e1 := hpd.length
      rw [e0] at e1
      exact h0 (List.length_eq_zero_iff.mp (by simpa using e1.symm))
  rw [hne]
  simp only [Bool.false_eq_true, if_false]
  refine wpAny_bind (wpAny_dictEntries hoo hdo' ?_)
  refine wpAny_bind (wpAny_dictEpoch hoo hdo' ?_)
  refine wpAny_bind ?_
  rw [List.range_eq_range']
  refine wpAny_forIn_list _
    (fun rest _ s' => ∃ h' i, s' = { s with heap := h' } ∧ rest = List.range' i (eso.size - i) ∧ i ≤ eso.size ∧ h'.DictOf knd d (merged kvs (more.take i)) ∧ h'.get? o = some oo ∧ Heap.SameBut d s.heap h')
    _ ?_ ?_ _ _ ⟨s.heap, 0, rfl, by simp, Nat.zero_le _, by simpa [merged] using hd, hoo, Heap.SameBut.refl _ _⟩
  · rintro x rest b s' ⟨h', i, rfl, hr, hi, hd', hoo', hs'⟩
    have hlt : i < eso.size := by
      rcases Nat.lt_or_ge i eso.size with h | h
      · exact h
      · rw [Nat.sub_eq_zero_of_le h] at hr; simp at hr
    obtain ⟨rfl, hrest⟩ : x = i ∧ rest = List.range' (i + 1) (eso.size - (i + 1)) := by
      have e : eso.size - i = (eso.size - (i + 1)) + 1 := by omega
      rw [e, List.range'_succ] at hr
      injection hr with h1 h2
      exact ⟨h1, h2⟩
    refine wpAny_bind (wpAny_dictEntries hoo' hdo' ?_)
    rw [Array.getElem?_eq_getElem hlt]
    obtain ⟨kv, hkv⟩ : ∃ kv, more[x]? = some kv := ⟨more[x]'(by rw [hlen]; exact hlt), List.getElem?_eq_getElem _⟩
    obtain ⟨k, v⟩ := kv
    obtain ⟨hkey, hval⟩ := hpo.get? (e := eso[x]) (by simp [hlt]) hkv
    obtain ⟨k', hkey', hhash⟩ := hko eso[x] (Array.getElem_mem hlt)
    obtain rfl : k' = k := knd.inj _ _ _ hkey' hkey
    have hmx : (merged kvs (more.take x)).length ≤ sizeLine := by
      have e1 := merged_length_le kvs (more.take x)
      have e2 : (more.take x).length ≤ more.length := by rw [List.length_take]; omega
      omega
    simp only [Bool.false_eq_true, if_false]
    refine wpAny_bind (wpAny_holding ?_)
    rw [hhash, hval]
    refine put_pairs hkey hd' (fun h'' hd'' hs'' => ?_) hmx
    have hoo'' : h''.get? o = some oo := (hs''.2 o (Ne.symm hdo)).trans hoo'
    refine wpAny_bind (wpAny_dictEpoch hoo'' hdo' ?_)
    rw [if_neg (by simp)]
    exact wpAny_pure ⟨h'', x + 1, rfl, hrest, hlt, by rw [merged_take_succ kvs more x (k', v) hkv]; exact hd'', hoo'', hs'.trans hs''⟩
  · rintro b s' ⟨h', i, rfl, hr, hi, hd', hoo', hs'⟩
    have hin : i = eso.size := by
      rcases Nat.lt_or_ge i eso.size with h | h
      · have e : eso.size - i = (eso.size - (i + 1)) + 1 := by omega
        rw [e, List.range'_succ] at hr; exact nomatch hr
      · exact Nat.le_antisymm hi h
    refine wpAny_pure (hQ h' ?_ hs')
    rw [hin, ← hlen, List.take_length] at hd'; exact hd'
end
abbrev SP := Sem Value × Sem Value
def tagd (l : List SP) : List (Option (Sem Value) × Sem Value) := l.map fun p => (some p.1, p.2)
theorem gather1 (f : (Option (Sem Value) × Sem Value) → (Option Addr × List SP) → Sem (ForInStep (Option Addr × List SP)))
    (hf : ∀ (p : SP) (main : Option Addr) (run : List SP), run.length + 1 < 17 → f (some p.1, p.2) (main, run) = pure (.yield (main, run ++ [p]))) :
    ∀ (items run : List SP) (main : Option Addr), run.length + items.length < 17 → forIn (tagd items) (main, run) f = pure (main, run ++ items)
  | [], run, main, _ => by simp [tagd]
  | p :: rest, run, main, h => by
    unfold tagd
    rw [List.map_cons, List.forIn_cons, hf p main run (by simp at h; omega), pure_bind]
    have z := gather1 f hf rest (run ++ [p]) main (by simp at h ⊢; omega)
    simpa [tagd] using z
theorem gather2 (f : (Option (Sem Value) × Sem Value) → (Option Addr × List SP) → Sem (ForInStep (Option Addr × List SP)))
    (hf : ∀ (p : SP) (main : Option Addr) (run : List SP), run.length + 1 < 17 → f (some p.1, p.2) (main, run) = pure (.yield (main, run ++ [p])))
    (hf2 : ∀ (p : SP) (run : List SP), run.length + 1 = 17 → f (some p.1, p.2) (none, run) = (do let d ← subDict (run ++ [p]); pure (.yield (some d, [])))) (rest : List SP) :
    ∀ (items run : List SP), run.length + items.length = 17 → items ≠ [] → forIn (tagd (items ++ rest)) ((none : Option Addr), run) f = (do let d ← subDict (run ++ items); forIn (tagd rest) (some d, []) f)
  | [], _, _, h => absurd rfl h
  | [p], run, h, _ => by
    unfold tagd
    rw [List.singleton_append, List.map_cons, List.forIn_cons, hf2 p run (by simpa using h), bind_assoc]
    simp only [pure_bind]
  | p :: q :: r, run, h, _ => by
    have z := gather2 f hf hf2 rest (q :: r) (run ++ [p]) (by simp at h ⊢; omega) (by simp)
    unfold tagd at z ⊢
    rw [List.cons_append, List.map_cons, List.forIn_cons, hf p none run (by simp at h; omega), pure_bind]
    simpa using z
theorem display_two (pairs : List SP) (h1 : 17 < pairs.length) (h2 : pairs.length ≤ 32) :
    dictDisplay (pairs.map fun p => (some p.1, p.2)) = (do
      let d ← subDict (pairs.take 17)
      let sub ← holding [.ref d] (subDict (pairs.drop 17))
      (holding [.ref d, .ref sub] (mergeMapping d (.ref sub) false)).onRaise fun x => do let _ ← holding [.ref d, x] (runValue (.builtin "proto.let_go" {}))
      pure (.ref d)) := by
  unfold dictDisplay
  dsimp only
  have e : (pairs.map fun p => (some p.1, p.2)) = tagd (pairs.take 17 ++ pairs.drop 17) := by rw [List.take_append_drop]; rfl
  have hl : (pairs.take 17).length = 17 := by rw [List.length_take]; omega
  have hl2 : (pairs.drop 17).length = pairs.length - 17 := List.length_drop
  rw [e, gather2 _ (fun p main run h => ?_) (fun p run h => ?_) (pairs.drop 17) (pairs.take 17) [] (by simpa using hl) (by intro z; rw [z] at hl; cases hl)]
  · simp only [List.nil_append, bind_assoc]
    congr 1
    funext d
    rw [gather1 _ (fun p main run h => ?_) (pairs.drop 17) [] (some d) (by simp; omega)]
    · have hne : (pairs.drop 17).isEmpty = false := by
        cases q : pairs.drop 17 with
        | nil => rw [q] at hl2; simp at hl2; omega
        | cons a b => rfl
      have h17 : ¬ pairs.length ≤ 17 := by omega
      simp [h17, bind_assoc]
    · have hne : ((run ++ [(p.1, p.2)]).length == 17) = false := by simp; omega
      simp only [hne, Bool.false_eq_true, if_false]
  · have hne : ((run ++ [(p.1, p.2)]).length == 17) = false := by simp; omega
    simp only [hne, Bool.false_eq_true, if_false]
  · have hne : ((run ++ [(p.1, p.2)]).length == 17) = true := by simp; omega
    have hem : (run ++ [(p.1, p.2)]).isEmpty = false := by cases run <;> rfl
    simp [hne, hem, bind_assoc]
    intro hh
    omega
end NwZ
namespace NwZ
open PySem PySem.Spec PyProof.Rows L2
/-- pairs of a display, from the left; each key is known as it comes -/
def tPK : List (TE × TE) → L2.St → Hp → (List (Key × V) → Hp → Prop) → Prop
  | [], _, H, R => R [] H
  | (tk, tv) :: r, σ, H, R => tk σ H fun x H1 => ∃ k, x = kV k ∧ tv σ H1 fun y H2 => tPK r σ H2 fun ps H3 => R ((k, y) :: ps) H3
theorem tPK_app : ∀ {a b : List (TE × TE)} {σ : L2.St} {H : Hp} {R : List (Key × V) → Hp → Prop}, (∀ p ∈ a ++ b, (∀ σ H (P Q : V → Hp → Prop), (∀ x H, P x H → Q x H) → p.1 σ H P → p.1 σ H Q) ∧ ∀ σ H (P Q : V → Hp → Prop), (∀ x H, P x H → Q x H) → p.2 σ H P → p.2 σ H Q) → tPK (a ++ b) σ H R → tPK a σ H fun ps H1 => tPK b σ H1 fun qs H2 => R (ps ++ qs) H2 := by
  intro a
  induction a with
  | nil => intro b σ H R _ h; exact h
  | cons p r ih =>
    obtain ⟨tk, tv⟩ := p
    intro b σ H R mono h
    obtain ⟨m1, m2⟩ := mono (tk, tv) (by simp)
    refine m1 _ _ _ _ (fun x H1 ⟨k, e, q⟩ => ⟨k, e, m2 _ _ _ _ (fun y H2 q2 => ?_) q⟩) h
    exact ih (fun p hp => mono p (List.mem_cons_of_mem _ hp)) q2
inductive PPl (X : Cx) : List (Option Expr) → List Expr → List (TE × TE) → Prop
  | nil : PPl X [] [] []
  | cons {k v : Expr} {ks : List (Option Expr)} {vs : List Expr} {tk tv : TE} {trs : List (TE × TE)} (hk : PE X k tk) (hv : PE X v tv) (t : PPl X ks vs trs) : PPl X (some k :: ks) (v :: vs) ((tk, tv) :: trs)
section
variable {X : Cx} {pins : List (Addr × PySem.Obj)} {σ : L2.St} {H : Hp} {s : Shared} {d : Addr} {pos : Pos}
theorem PPl.pps {ks : List (Option Expr)} {vs : List Expr} {trs : List (TE × TE)} (h : PPl X ks vs trs) : PPs X pos ks vs trs := by
  induction h with
  | nil => exact pps_nil
  | cons hk hv t ih => exact pps_cons hk hv ih
theorem PPl.len {ks : List (Option Expr)} {vs : List Expr} {trs : List (TE × TE)} (h : PPl X ks vs trs) : ks.length = trs.length ∧ vs.length = trs.length ∧ ks.all (·.isSome) = true := by
  induction h with
  | nil => exact ⟨rfl, rfl, rfl⟩
  | cons hk hv t ih => exact ⟨by simp [ih.1], by simp [ih.2.1], by simpa using ih.2.2⟩
theorem PPl.cut {ks : List (Option Expr)} {vs : List Expr} {trs : List (TE × TE)} (h : PPl X ks vs trs) : ∀ n, PPl X (ks.take n) (vs.take n) (trs.take n) ∧ PPl X (ks.drop n) (vs.drop n) (trs.drop n) ∧ (pairTrees ks vs X.env pos).take n = pairTrees (ks.take n) (vs.take n) X.env pos ∧ (pairTrees ks vs X.env pos).drop n = pairTrees (ks.drop n) (vs.drop n) X.env pos := by
  induction h with
  | nil => intro n; simp [pairTrees]; exact .nil
  | cons hk hv t ih =>
    intro n
    cases n with
    | zero => exact ⟨.nil, .cons hk hv t, rfl, rfl⟩
    | succ n =>
      obtain ⟨a, b, c, e⟩ := ih n
      exact ⟨.cons hk hv a, b, by simp [pairTrees, c], by simpa [pairTrees] using e⟩
/-- a dict of ours that nobody knows yet -/
structure Hid (X : Cx) (pins : List (Addr × PySem.Obj)) (H : Hp) (s : Shared) (d : Addr) (accV : List (Key × V)) : Prop where
  fp : FpOk X pins H d
  ns : (d == sysModules) = false
  dd : ∃ acc, s.heap.DictOf (mixKind X.prog X.w) d acc ∧ KV accV acc
theorem dictOf_obj {h : Heap} {acc : List (Key × Value)} (dd : h.DictOf (mixKind X.prog X.w) d acc) : ∃ o, h.get? d = some o ∧ (∀ v, o.data ≠ .cell v) ∧ ∀ h' : Heap, h'.get? d = some o → h'.DictOf (mixKind X.prog X.w) d acc := by
  obtain ⟨o, es, ep, ho, hc, hd, r⟩ := dd
  exact ⟨o, ho, (fun v z => by rw [hd] at z; cases z), fun h' e => ⟨o, es, ep, e, hc, hd, r⟩⟩
/-- some more is evaluated, the hidden dicts stay -/
theorem hid_pin {ds : List Addr} {acc : Addr → List (Key × V)} (I : Inv X pins σ H s) (hh : ∀ d ∈ ds, Hid X pins H s d (acc d)) :
    ∃ pins', Inv X pins' σ H s ∧ ∀ (σ' : L2.St) (H' : Hp) (s' : Shared), Inv X pins' σ' H' s' → Inv X pins σ' H' s' ∧ ∀ d ∈ ds, Hid X pins H' s' d (acc d) := by
  refine ⟨pins ++ pinsAt ds s.heap, I.pinned (fun b hb => (hh b hb).fp) (fun b hb => ?_), fun σ' H' s' J => ⟨J.unpinned, fun d hd => ?_⟩⟩
  · obtain ⟨ac, dd, _⟩ := (hh b hb).dd
    obtain ⟨o, ho, hc, _⟩ := dictOf_obj dd
    exact ⟨o, ho, hc⟩
  · obtain ⟨fp, ns, ac, dd, r⟩ := hh d hd
    obtain ⟨o, ho, hc, st⟩ := dictOf_obj dd
    obtain ⟨p1, p2, _⟩ := J.pin (d, o) (List.mem_append_right _ (List.mem_append_right _ (mem_pinsAt hd ho)))
    exact ⟨⟨p2, fp.2⟩, ns, ac, st _ p1, r⟩
/-- a hidden dict changes -/
theorem hid_turn {d : Addr} {h' : Heap} {t' : Nat} {accV accV' : List (Key × V)} {acc' : List (Key × Value)} (I : Inv X pins σ H s) (hd : Hid X pins H s d accV) (hs : Heap.SameBut d s.heap h') (dd : h'.DictOf (mixKind X.prog X.w) d acc') (r : KV accV' acc') :
    Inv X pins σ H { s with heap := h', toks := t' } ∧ Hid X pins H { s with heap := h', toks := t' } d accV' := by
  obtain ⟨f0, f1, f2, f3, f4, f5⟩ := hd.fp
  exact ⟨I.turned (fun b o hb e => (hs.2 b hb).trans e) f0 f1 f3 f4 f5, ⟨f0, f1, f2, f3, f4, f5⟩, hd.ns, acc', dd, r⟩
theorem KV.len {a : List (Key × V)} {b : List (Key × Value)} (r : KV a b) : b.length = a.length := by
  unfold KV at r
  induction r with
  | nil => rfl
  | cons _ _ ih => simp [ih]
/-- pairs put into a hidden dict as they come -/
theorem sub_loop {ks : List (Option Expr)} {vs : List Expr} {trs : List (TE × TE)} (h : PPl X ks vs trs) : ∀ (s : Shared) (H : Hp) (accV : List (Key × V)) (R : List (Key × V) → Hp → Prop), Inv X pins σ H s → Hid X pins H s d accV → accV.length + ks.length ≤ 99 → tPK trs σ H R →
    wpAny (model X.prog X.w) X.A (forIn (pairTrees ks vs X.env pos) PUnit.unit fun (x : SP) (_ : PUnit) => (do
      let kv ← x.1
      let vv ← holding [kv] x.2
      holding [kv, vv] (dictSet d kv vv)
      pure (ForInStep.yield PUnit.unit) : Sem (ForInStep PUnit))) (fun _ s' => ∃ (more : List (Key × V)) (H' : Hp), Inv X pins σ H' s' ∧ Hid X pins H' s' d (mergeK accV more) ∧ more.length = ks.length ∧ R more H') X.xe s := by
  induction h with
  | nil =>
    intro s H accV R I hd _ ht
    show wpAny _ _ (forIn [] _ _) _ _ _
    rw [List.forIn_nil]
    exact wpAny_pure ⟨[], H, I, hd, rfl, ht⟩
  | @cons k v ks vs tk tv trs hk hv t ih =>
    intro s H accV R I hd hl ht
    show wpAny _ _ (forIn ((_, _) :: pairTrees ks vs X.env pos) _ _) _ _ _
    rw [List.forIn_cons]
    obtain ⟨pins', I', back⟩ := hid_pin (ds := [d]) (acc := fun _ => accV) I (fun b hb => by rw [List.mem_singleton.mp hb]; exact hd)
    refine wpAny_bind ?_
    refine wpAny_bind (thn (hk.run pins' s σ H _ I' ht) fun u s1 ⟨x, H1, I1, rx, k0, ex, q1⟩ => ?_)
    subst ex
    refine wpAny_bind (wpAny_holding (wpAny_bind (thn (hv.run pins' s1 σ H1 _ I1 q1) fun u2 s2 ⟨y, H2, I2, ry, q2⟩ => wpAny_bind (wpAny_standAt (wpAny_pure ?_)))))
    obtain ⟨J, hb⟩ := back σ H2 s2 I2
    have hd2 := hb d (List.mem_singleton.mpr rfl)
    obtain ⟨acc, dd, r⟩ := hd2.dd
    have hl2 : acc.length ≤ sizeLine := by rw [KV.len r, sizeLine_eq]; simp only [List.length_cons] at hl; omega
    refine wpAny_bind (wpAny_holding (wpAny_dictSet_pairs (knd := mixKind X.prog X.w) (k := k0) (hsz := hl2) (kV_is rx) dd fun h' dd' hs' => ?_))
    refine wpAny_pure ?_
    have r' : KV (putK accV k0 y) (stored acc k0 u2) := L2.KV.put r k0 ry
    obtain ⟨J', hd'⟩ := hid_turn (t' := s2.toks + 1) J hd2 hs' dd' r'
    have hlp := length_putK accV k0 y
    refine thn (ih _ H2 (putK accV k0 y) _ J' hd' (by simp only [List.length_cons] at hl; omega) q2) fun _ s3 ⟨more, H3, I3, hd3, e3, q3⟩ => ?_
    exact ⟨(k0, y) :: more, H3, I3, hd3, by simp [e3], q3⟩
/-- pairs evaluated, put nowhere yet -/
theorem pairs_eval {ks : List (Option Expr)} {vs : List Expr} {trs : List (TE × TE)} (h : PPl X ks vs trs) : ∀ (s : Shared) (H : Hp) (R : List (Key × V) → Hp → Prop), Inv X pins σ H s → tPK trs σ H R →
    wpAny (model X.prog X.w) X.A (evalPairs (pairTrees ks vs X.env pos)) (fun ws s' => ∃ (kvs : List (Key × V)) (H' : Hp), Inv X pins σ H' s' ∧ VV (kvs.map fun kv => (kV kv.1, kv.2)) ws ∧ kvs.length = ks.length ∧ R kvs H') X.xe s := by
  induction h with
  | nil => intro s H R I ht; exact pairTrees_nil_walk ⟨[], H, I, .nil, rfl, ht⟩
  | cons hk hv t ih =>
    intro s H R I ht
    refine pairTrees_cons_walk (thn (hk.run pins s σ H _ I ht) fun u s1 ⟨x, H1, I1, rx, k0, ex, q1⟩ => thn (hv.run pins s1 σ H1 _ I1 q1) fun u2 s2 ⟨y, H2, I2, ry, q2⟩ =>
      thn (ih s2 H2 _ I2 q2) fun ws s3 ⟨kvs, H3, I3, rel, e3, q3⟩ => ⟨(k0, y) :: kvs, H3, I3, (by subst ex; exact .cons ⟨rx, ry⟩ rel), by simp [e3], q3⟩)
/-- it is known from now on -/
theorem hid_known {accV : List (Key × V)} (I : Inv X pins σ H s) (hd : Hid X pins H s d accV) (hl : accV.length ≤ sizeLine) : Inv X pins σ (upd H d (.dK accV)) s := by
  obtain ⟨⟨f0, f1, f2, f3, f4, f5⟩, ns, acc, dd, r⟩ := hd
  obtain ⟨o, ho, _⟩ := dictOf_obj dd
  have nd : ∀ b u, H b = some u → b ≠ d := fun b u e z => by rw [z, f0] at e; cases e
  refine I.step (g' := s.gens) (d' := s.drawn) (t' := s.toks) (h' := s.heap) (ch := [d]) (fun b hb => ?_) (fun b o _ _ _ e _ => e) (fun b o _ _ _ e _ => ⟨o.slots, e⟩) (fun b o hc e n => ?_) (fun b o _ e => ⟨o, e⟩)
    (fun b xs e => by rw [upd_ne (nd b _ e)]; exact e) (fun b o u e => by rw [upd_ne (nd b _ e)]; exact e) (fun b ps e => ⟨#[], by rw [upd_ne (nd b _ e), e]; simp⟩) (fun m hm => hm) (fun b u e => ?_) I.bare
  · have e : b = d := by simpa using hb
    subst e
    exact ⟨f3, f1, f4, f5⟩
  · rw [upd_ne (fun z => hc (by simp [z]))]
    exact n
  · by_cases hb : b = d
    · subst hb
      rw [upd_same] at e
      cases e
      exact dk_new hl ns r dd
    · rw [upd_ne hb] at e
      refine (I.hok b u e).stay (fun _ _ _ q => q) (fun c q => ?_) fun c xs q => ?_
      · rw [upd_ne (nd c _ q)]; exact q
      · rw [upd_ne (nd c _ q)]; exact q
/-- a new empty dict, hidden -/
theorem hid_new {t' : Nat} (I : Inv X pins σ H s) : Inv X pins σ H { s with heap := s.heap.push { cls := .type "dict", data := .dict #[] }, toks := t' } ∧ Hid X pins H { s with heap := s.heap.push { cls := .type "dict", data := .dict #[] }, toks := t' } s.heap.objs.size [] :=
  ⟨I.kept (t' := t') fun b o e => Heap.get?_push_of_some _ e, I.fpOk (Nat.le_refl _) (I.hok.fresh (Nat.le_refl _)), beq_eq_false_iff_ne.mpr (Ne.symm (Nat.ne_of_lt I.big)), [], Heap.DictOf.new s.heap, .nil⟩
def MonoT (t : TE) : Prop := ∀ σ H (P Q : V → Hp → Prop), (∀ x H, P x H → Q x H) → t σ H P → t σ H Q
def tDispL (trs : List (TE × TE)) : TE := fun σ H Q => tPK trs σ H fun ps H2 => ∀ p, H2 p = none → Q (.ref p) (upd H2 p (.dK (mergeK (mergeK [] (ps.take 17)) (mergeK [] (ps.drop 17)))))
theorem pe_dispL {ks : List (Option Expr)} {vs : List Expr} {trs : List (TE × TE)} (h : PPl X ks vs trs) (hm : ∀ p ∈ trs, MonoT p.1 ∧ MonoT p.2) (h1 : 17 < ks.length) (h2 : ks.length ≤ 32) : PE X (.Dict ks vs pos) (tDispL trs) := by
  refine ⟨fun pins s σ H Q I q => ?_⟩
  obtain ⟨l1, l2, hall⟩ := h.len
  obtain ⟨c1, c2, e1, e2⟩ := h.cut (pos := pos) 17
  have hpl : (pairTrees ks vs X.env pos).length = ks.length := pairTrees_length ks vs X.env pos hall (by omega)
  have hk1 : (ks.take 17).length = 17 := by rw [List.length_take]; omega
  have hk2 : (ks.drop 17).length = ks.length - 17 := List.length_drop
  have hp1 : (pairTrees (ks.take 17) (vs.take 17) X.env pos).length = 17 := by rw [← e1, List.length_take, hpl]; omega
  have hp2 : (pairTrees (ks.drop 17) (vs.drop 17) X.env pos).length ≤ 15 := by rw [← e2, List.length_drop, hpl]; omega
  unfold tDispL at q
  rw [← List.take_append_drop 17 trs] at q
  have q := tPK_app (fun p hp => hm p (by rw [List.take_append_drop] at hp; exact hp)) q
  rw [arm_eval_Dict, zip_pairTrees ks vs X.env pos hall (by omega), display_two _ (by omega) (by omega), e1, e2]
  refine wpAny_bind (wpAny_standAt ?_)
  -- the first dict
  refine wpAny_bind ?_
  unfold subDict
  refine wpAny_bind (wpAny_alloc ?_)
  obtain ⟨I0, D0⟩ := hid_new (t' := s.toks) I
  generalize hdE : s.heap.objs.size = d at D0
  refine wpAny_bind (wpAny_holding ?_)
  rw [if_neg (by omega)]
  refine wpAny_bind (wpAny_rule ?_)
  refine wpAny_bind (thn (sub_loop (d := d) c1 _ H [] _ I0 D0 (by simp; omega) q) fun _ s1 ⟨ps, H1, I1, D1, lp, q1⟩ => ?_)
  refine wpAny_pure (wpAny_pure ?_)
  -- the second one
  obtain ⟨pins1, J1, back1⟩ := hid_pin (ds := [d]) (acc := fun _ => mergeK [] ps) I1 (fun b hb => by rw [List.mem_singleton.mp hb]; exact D1)
  refine wpAny_bind (wpAny_holding ?_)
  refine wpAny_bind (wpAny_alloc ?_)
  obtain ⟨J2, D2⟩ := hid_new (t' := s1.toks) J1
  generalize hd2E : s1.heap.objs.size = d2 at D2
  obtain ⟨pins2, J3, back2⟩ := hid_pin (ds := [d2]) (acc := fun _ => []) J2 (fun b hb => by rw [List.mem_singleton.mp hb]; exact D2)
  refine wpAny_bind (wpAny_holding ?_)
  rw [if_pos hp2]
  refine wpAny_bind (thn (pairs_eval c2 _ H1 _ J3 q1) fun ws s3 ⟨qs, H3, I3, rel, lq, q3⟩ => ?_)
  obtain ⟨K3, hb3⟩ := back2 σ H3 s3 I3
  obtain ⟨rs, cr, rk⟩ := carries_of (P := X.prog) (w := X.w) rel
  obtain ⟨acc0, dd0, r0⟩ := (hb3 d2 (List.mem_singleton.mpr rfl)).dd
  cases r0
  have hrs : rs.length = qs.length := KV.len rk
  have hsl : (16777216 : Nat) = sizeLine := sizeLine_eq.symm
  refine wpAny_holding ?_
  refine wpAny_bind (wpAny_storeAll (knd := mixKind X.prog X.w) ws rs [] s3 _ cr dd0 (by simp; omega) fun h4 dd4 hs4 => ?_)
  refine wpAny_pure (wpAny_pure ?_)
  obtain ⟨K4, D4⟩ := hid_turn (t' := s3.toks + ws.length) K3 (hb3 d2 (List.mem_singleton.mpr rfl)) hs4 dd4 (rk.merge .nil)
  obtain ⟨K5, hb5⟩ := back1 σ H3 _ K4
  have D5 := hb5 d (List.mem_singleton.mpr rfl)
  obtain ⟨acc, dd, rd⟩ := D5.dd
  -- merged
  have hne : d ≠ d2 := fun z => by
    obtain ⟨ac, da, _⟩ := D1.dd
    obtain ⟨o, ho, _⟩ := dictOf_obj da
    have lt := Heap.lt_size ho
    rw [z, ← hd2E] at lt
    exact Nat.lt_irrefl _ lt
  have nz : (mergeK [] ps) ≠ [] := by
    cases ps with
    | nil => rw [hk1] at lp; cases lp
    | cons p r =>
      have : ∀ (m a : List (Key × V)), a ≠ [] → mergeK a m ≠ [] := by
        intro m
        induction m with
        | nil => intro a ha; exact ha
        | cons q m ih =>
          intro a ha
          refine ih (putK a q.1 q.2) ?_
          unfold putK
          split
          · intro z
            exact ha (List.map_eq_nil_iff.mp z)
          · simp
      exact this r (putK [] p.1 p.2) (by unfold putK; simp)
  have nz' : acc ≠ [] := fun z => by
    have := KV.len rd
    rw [z] at this
    exact nz (List.length_eq_zero_iff.mp this.symm)
  have la : acc.length ≤ 17 := by
    have z1 := KV.len rd
    have z2 := length_mergeK ps []
    simp at z2
    omega
  have lr : (merged [] rs).length ≤ 15 := by
    have z1 := merged_length_le [] rs
    simp at z1
    omega
  refine wpAny_bind (wpAny_onRaise (wpAny_holding ?_))
  refine merge_pairs hne D4.ns nz' dd dd4 (fun h6 dd6 hs6 => ?_) (by omega)
  have r6 : KV (mergeK (mergeK [] ps) (mergeK [] qs)) (merged acc (merged [] rs)) := KV.merge (rk.merge .nil) rd
  obtain ⟨K6, D6⟩ := hid_turn (t' := s3.toks + ws.length) K5 D5 hs6 dd6 r6
  refine wpAny_pure ?_
  have l6 : (mergeK (mergeK [] ps) (mergeK [] qs)).length ≤ sizeLine := by
    have z1 := length_mergeK (mergeK [] qs) (mergeK [] ps)
    have z2 := length_mergeK ps []
    have z3 := length_mergeK qs []
    simp at z2 z3
    omega
  have lps : ps.length = 17 := lp.trans hk1
  have fin := q3 d D6.fp.1
  have t1 : (ps ++ qs).take 17 = ps := by rw [← lps]; simp
  have t2 : (ps ++ qs).drop 17 = qs := by rw [← lps]; simp
  rw [t1, t2] at fin
  exact ⟨.ref d, _, hid_known K6 D6 l6, rfl, fin⟩
end
end NwZ
namespace Nw
open PySem L2 NwZ
section
variable {G : Cfg} {W : WX} {X : Cx} {G' : Tab} {ft : Fns} {pos : Pos} {σ : L2.St} {H : Hp}
theorem lift_monoZ {m : Env → Store → Res Val} : MonoT (lift G W m) := fun σ H P Q i ⟨μ, env, S, s, e, h⟩ => ⟨μ, env, S, s, e, h.imp fun a μ' S' H' _ _ _ k x r => i x H' (k x r)⟩
def constKeys : PyE → Bool
  | .nil => true
  | .cons (.c v) (.cons _ r) => (keyOf v).isSome && constKeys r
  | _ => false
def flatK (kvs : List (Key × Val)) : List Val := kvs.flatMap fun p => [keyV p.1, p.2]
theorem keyOf_keyV (k : Key) : keyOf (keyV k) = some k := by cases k <;> rfl
theorem pairUp_flat : ∀ kvs : List (Key × Val), pairUp (flatK kvs) = some kvs
  | [] => rfl
  | (k, v) :: r => by
    have ih := pairUp_flat r
    simp only [flatK, List.flatMap_cons, List.cons_append, List.nil_append, pairUp, keyOf_keyV]
    unfold flatK at ih
    rw [ih]
theorem merge_ok : ∀ (m kv : List (Key × Val)), (∀ q ∈ m, kOk q.1 = true) → (∀ q ∈ kv, kOk q.1 = true) → ∀ z ∈ merge kv m, kOk z.1 = true := by
  intro m
  induction m with
  | nil => intro kv _ h2 z hz; exact h2 z hz
  | cons q m ih =>
    intro kv h1 h2 z hz
    refine ih (put kv q.1 q.2) (fun w hw => h1 w (by simp [hw])) (fun w hw => ?_) z hz
    unfold put at hw
    split at hw
    · obtain ⟨y, hy, ey⟩ := List.mem_map.mp hw
      split at ey
      · subst ey; exact h2 y hy
      · subst ey; exact h2 y hy
    · rcases List.mem_append.mp hw with hw | hw
      · exact h2 w hw
      · simp at hw; subst hw; exact h1 q (by simp)
theorem RKv.cut {μ : List Addr} : ∀ {a : List (Key × Val)} {b : List (Key × V)} (n : Nat), RKv μ H a b → RKv μ H (a.take n) (b.take n) ∧ RKv μ H (a.drop n) (b.drop n)
  | [], [], n, _ => by simp; exact trivial
  | (_, _) :: _, (_, _) :: _, 0, h => ⟨trivial, h⟩
  | (_, _) :: _, (_, _) :: _, n + 1, ⟨h1, h2, h3⟩ => by
    obtain ⟨x, y⟩ := RKv.cut n h3
    exact ⟨⟨h1, h2, x⟩, y⟩
  | [], _ :: _, _, h => h.elim
  | _ :: _, [], _, h => h.elim
theorem dispL_read {ks : List (Option Expr)} {vs : List Expr} {pr : PyE} (h : DispL G W X G' ft ks vs pr) : constKeys pr = true → ∃ trs, PPl X ks vs trs ∧ (∀ p ∈ trs, MonoT p.1 ∧ MonoT p.2) ∧ ∀ (σ : L2.St) (H : Hp) (acc : List (Key × Val)) (xs : List (Key × V)) (μ : List Addr) (env : Env) (S : Store) (Q : VK) (R : List (Key × V) → Hp → Prop),
    Sim G μ S H → REnv μ H env σ → RKv μ H acc xs → (∀ q ∈ acc, kOk q.1 = true) → After G W σ μ H ((evA G' ft pr env S).bind fun ys S1 => dispLV (flatK acc ++ ys) S1) (Kv Q) →
    (∀ kvs H2, (∀ p, H2 p = none → Q (.ref p) (upd H2 p (.dK (mergeK (mergeK [] ((xs ++ kvs).take 17)) (mergeK [] ((xs ++ kvs).drop 17)))))) → R kvs H2) → tPK trs σ H R := by
  induction h with
  | nil =>
    intro _
    refine ⟨[], .nil, by simp, fun σ H acc xs μ env S Q R s e r ok q hR => hR [] H fun p hp => ?_⟩
    simp only [evA, Res.bind_ok, List.append_nil, dispLV, pairUp_flat] at q
    split at q
    · rename_i hl
      obtain ⟨r1, r2⟩ := RKv.cut 17 r
      have kp : Keep H (upd H p (.dK (mergeK (mergeK [] (xs.take 17)) (mergeK [] (xs.drop 17))))) := Keep.new hp
      have rr : RKv μ H (merge (merge [] (acc.take 17)) (merge [] (acc.drop 17))) (mergeK (mergeK [] (xs.take 17)) (mergeK [] (xs.drop 17))) :=
        RKv.merge (RKv.merge r2 (a := []) (b := []) trivial) (RKv.merge r1 (a := []) (b := []) trivial)
      have okk : ∀ z ∈ merge (merge [] (acc.take 17)) (merge [] (acc.drop 17)), kOk z.1 = true :=
        merge_ok _ _ (merge_ok _ _ (fun q hq => ok q (List.mem_of_mem_drop hq)) (by simp)) (merge_ok _ _ (fun q hq => ok q (List.mem_of_mem_take hq)) (by simp))
      have s' : Sim G (μ ++ [p]) (S ++ [.dK false (merge (merge [] (acc.take 17)) (merge [] (acc.drop 17)))]) (upd H p (.dK (mergeK (mergeK [] (xs.take 17)) (mergeK [] (xs.drop 17))))) :=
        s.alloc hp rfl ⟨_, upd_same, rr.mono (Up.app _ _) kp, okk⟩
      have := q (μ ++ [p]) _ (Up.app _ _) kp s' (.ref p) (.obj (by rw [← s.len]; simp))
      simpa using this
    · exact q.elim
  | @cons k v ks vs pk pv pr hk hv t ih =>
    intro hc
    cases pk with
    | c kv =>
      simp only [constKeys, Bool.and_eq_true, Option.isSome_iff_exists] at hc
      obtain ⟨⟨k0, ek⟩, hc⟩ := hc
      obtain ⟨trs, pp, mm, ih⟩ := ih hc
      refine ⟨_ :: trs, .cons hk hv pp, fun p hp => ?_, fun σ H acc xs μ env S Q R s e r ok q hR => ?_⟩
      · rcases List.mem_cons.mp hp with rfl | hp
        · exact ⟨lift_monoZ, lift_monoZ⟩
        · exact mm p hp
      · simp only [evA, ev, Res.bind_ok] at q
        refine ⟨μ, env, S, s, e, ?_⟩
        simp only [ev]
        intro μ1 H1 u1 k1 s1 x rx
        obtain ⟨ex, ev', okk⟩ := key_rel rx ek
        refine ⟨k0, ex, μ1, env, S, s1, e.mono u1 k1, ?_⟩
        have q1 := After.later q u1 k1
        have q2 : After G W σ μ1 H1 ((ev G' ft pv env S).bind fun y S2 => (evA G' ft pr env S2).bind fun ys S3 => dispLV (flatK acc ++ (kv :: y :: ys)) S3) (Kv Q) := by
          cases er : ev G' ft pv env S with
          | no => rw [er] at q1; exact q1
          | ex x S1 => rw [er] at q1; exact q1
          | ok y S1 =>
            rw [er] at q1
            simp only [Res.bind_ok] at q1 ⊢
            cases er2 : evA G' ft pr env S1 with
            | no => rw [er2] at q1; exact q1
            | ex x S1 => rw [er2] at q1; exact q1
            | ok ys S2 => rw [er2] at q1; exact q1
        refine q2.bind.imp fun y μ2 S2 H2 u2 k2 s2 h2 z rz => ?_
        have r2 := (r.mono u1 k1).mono u2 k2
        refine ih σ H2 (acc ++ [(k0, y)]) (xs ++ [(k0, z)]) μ2 env S2 Q _ s2 ((e.mono u1 k1).mono u2 k2) (r2.app ⟨rfl, rz, trivial⟩) (fun q hq => ?_) ?_ fun kvs H3 g => ?_
        · rcases List.mem_append.mp hq with hq | hq
          · exact ok q hq
          · simp at hq; subst hq; exact okk
        · have e3 : ∀ ys, flatK (acc ++ [(k0, y)]) ++ ys = flatK acc ++ (kv :: y :: ys) := fun ys => by rw [ev']; simp [flatK]
          simpa only [e3] using h2
        · exact hR ((k0, z) :: kvs) H3 (by simpa using g)
    | _ => exact Bool.noConfusion hc
theorem de_dispL {ks : List (Option Expr)} {vs : List Expr} {pr : PyE} (h : DispL G W X G' ft ks vs pr) (hc : constKeys pr = true) (h1 : 17 < ks.length) (h2 : ks.length ≤ 32) : PE X (.Dict ks vs pos) (lift G W (ev G' ft (.dispL pr))) := by
  obtain ⟨trs, pp, mm, hr⟩ := dispL_read h hc
  refine (pe_dispL pp mm h1 h2).imp fun σ H Q ⟨μ, env, S, s, e, q⟩ => ?_
  simp only [ev] at q
  exact hr σ H [] [] μ env S Q _ s e trivial (by simp) (by simpa [flatK] using q) fun kvs H2 g => by simpa using g
end
end Nw

set_option Elab.async false
set_option linter.all false
set_option maxRecDepth 100000
set_option maxHeartbeats 4000000
namespace Nw
open PySem L2 PySem.Spec PyProof.Rows
/-! ## a list display with a text.replace in it, behind an item that gives a token out -/
section
variable {G : Cfg} {W : WX} {X : Cx} {G' : Tab} {ft : Fns}
/-- behind e a token is out -/
def PEB (X : Cx) (e : Expr) (t : TE) : Prop :=
  ∀ (pins : List (Addr × PySem.Obj)) (s : Shared) (σ : L2.St) (H : Hp) (Q : VK), L2.Inv X pins σ H s → t σ H Q → wpAny (model X.prog X.w) X.A (eval e X.env) (fun v s1 => 1 ≤ s1.toks ∧ EP X pins σ Q v s1) X.xe s
theorem peb_str {y : Str} {j : Nat} {c0 : Pos} : PEB X (.Constant (.str y) j c0) (tC (.str y)) := by
  intro pins s σ H Q I h
  exact Calls.Constant_str ⟨by show 1 ≤ s.toks + 1; omega, .str y, H, I.tok _, ⟨s.toks, rfl⟩, h⟩
theorem peb_op {y : Str} {j : Nat} {c0 pos : Pos} {f : Expr} {op : Operator} {r : R2} {tf : TE} (ho : OpR X (binaryOp op) r) (hb : PE X f tf) : PEB X (.BinOp (.Constant (.str y) j c0) op f pos) (tOp r (tC (.str y)) tf) := by
  intro pins s σ H Q I h
  refine wpAny_BinOp (Calls.Constant_str ?_)
  refine wpAny_mono (PySem.wpAny_toks (hb.run pins { s with toks := s.toks + 1 } σ H _ (I.tok _) h)) (fun u s2 q => ?_) fun _ _ z => z.2
  obtain ⟨hk, y', H2, I2, r2, q2⟩ := q
  have hk : s.toks + 1 ≤ s2.toks := hk
  refine wpAny_mono (PySem.wpAny_toks (ho pins s2 σ H2 (.str y) y' (.str y s.toks) u Q I2 ⟨s.toks, rfl⟩ r2 q2)) (fun v s3 q => ?_) fun _ _ z => z.2
  exact ⟨by have := q.1; omega, q.2⟩
theorem pa_consB {e : Expr} {es : List Expr} {te : TE} {ta : TA} (ha : PEB X e te) (hr : PAT X es ta) (hs : starEach (e :: es) X.env = (false, eval e X.env) :: starEach es X.env) : PA X (e :: es) (tCons te ta) := by
  refine ⟨fun pos pins s σ H Q I h => ?_⟩
  rw [hs]
  show wpAny _ _ (spliced ((false, eval e X.env) :: backTo pos (starEach es X.env))) _ _ s
  refine Calls.spliced_cons (thn (ha pins s σ H _ I h) fun u s1 q => ?_)
  obtain ⟨hk, x, H1, I1, r1, q1⟩ := q
  exact thn (hr pos pins s1 σ H1 _ hk I1 q1) fun us s2 ⟨xs, H2, I2, r2, q2⟩ => ⟨x :: xs, H2, I2, .cons r1 r2, q2⟩
theorem PAT.of {es : List Expr} {ta : TA} (h : PA X es ta) : PAT X es ta := fun pos pins s σ H Q _ I q => h.run pos pins s σ H Q I q
theorem PEB.imp {e : Expr} {t u : TE} (h : PEB X e t) (k : ∀ σ H Q, u σ H Q → t σ H Q) : PEB X e u := fun pins s σ H Q I q => h pins s σ H Q I (k σ H Q q)
/-- the first item -/
def fstR (G' : Tab) (ft : Fns) (b : Bool) (s0 : Str) (pf : PyE) (env : Env) (S : Store) : Res Val := if b then (ev G' ft pf env S).bind fun v S1 => binV .add S1 (.str s0) v else .ok (.str s0) S
theorem fst_const {s0 : Str} {pf : PyE} {j : Nat} {c0 : Pos} (hok : sOk s0 = true) : PEB X (.Constant (.str s0) j c0) (lift G W (fstR G' ft false s0 pf)) :=
  peb_str.imp fun σ H Q ⟨μ, env, S, s, e, h⟩ => by
    simp only [fstR, Bool.false_eq_true, if_false] at h
    exact h.val s (.str hok)
theorem fst_sum {s0 : Str} {pf : PyE} {f : Expr} {j : Nat} {c0 pos : Pos} (hK : G.K = X.K) (hok : sOk s0 = true) (hf : PE X f (lift G W (ev G' ft pf))) : PEB X (.BinOp (.Constant (.str s0) j c0) .Add f pos) (lift G W (fstR G' ft true s0 pf)) :=
  (peb_op (bin_all .add) hf).imp fun σ H Q ⟨μ, env, S, s, e, h⟩ => by
    simp only [fstR, if_true] at h
    refine ⟨μ, env, S, s, e, h.bind.imp fun v μ1 S1 H1 u1 k1 s1 h1 v' rv => ?_⟩
    exact ⟨G, W, σ, μ1, .str s0, v, S1, hK, s1, .str hok, rv, h1⟩
theorem de_lstR {b : Bool} {s0 : Str} {e0 e1 o : Expr} {es : List Expr} {pf p1 po pq : PyE} {y z : Str} {j k : Nat} {c0 c1 apos pos lpos : Pos}
    (h0 : PEB X e0 (lift G W (fstR G' ft b s0 pf))) (h1 : PE X e1 (lift G W (ev G' ft p1))) (ho : PE X o (lift G W (ev G' ft po))) (hq : PA X es (liftA G W (evA G' ft pq))) (hyz : (y == z) = false)
    (hst : starEach [.Constant (.str y) j c0, .Constant (.str z) k c1] X.env = [(false, eval (.Constant (.str y) j c0) X.env), (false, eval (.Constant (.str z) k c1) X.env)])
    (hbase : attributeBase o "replace" X.env (eval o X.env) = eval o X.env) (hline : (apos.endLine == pos.line) = true)
    (s0' : starEach (e0 :: e1 :: .Call (.Attribute o "replace" apos) [.Constant (.str y) j c0, .Constant (.str z) k c1] [] pos :: es) X.env = (false, eval e0 X.env) :: starEach (e1 :: .Call (.Attribute o "replace" apos) [.Constant (.str y) j c0, .Constant (.str z) k c1] [] pos :: es) X.env)
    (s1' : starEach (e1 :: .Call (.Attribute o "replace" apos) [.Constant (.str y) j c0, .Constant (.str z) k c1] [] pos :: es) X.env = (false, eval e1 X.env) :: starEach (.Call (.Attribute o "replace" apos) [.Constant (.str y) j c0, .Constant (.str z) k c1] [] pos :: es) X.env)
    (s2' : starEach (.Call (.Attribute o "replace" apos) [.Constant (.str y) j c0, .Constant (.str z) k c1] [] pos :: es) X.env = (false, eval (.Call (.Attribute o "replace" apos) [.Constant (.str y) j c0, .Constant (.str z) k c1] [] pos) X.env) :: starEach es X.env) :
    PE X (.List (e0 :: e1 :: .Call (.Attribute o "replace" apos) [.Constant (.str y) j c0, .Constant (.str z) k c1] [] pos :: es) lpos) (lift G W (ev G' ft (.lstR b s0 pf p1 po y z pq))) := by
  refine (pe_lst (pa_consB h0 (pat_cons (CwR.PET.of h1) (pat_cons (CwR.pet_replC ho hyz hst hbase hline) (PAT.of hq) s2') s1') s0')).imp fun σ H Q h => ?_
  obtain ⟨μ, env, S, s, e, h⟩ := h
  simp only [ev] at h
  refine ⟨μ, env, S, s, e, h.bind.imp fun x μ1 S1 H1 u1 k1 s1 h1 x' rx => ⟨μ1, env, S1, s1, e.mono u1 k1, h1.bind.imp fun v μ2 S2 H2 u2 k2 s2 h2 v' rv => ⟨μ2, env, S2, s2, (e.mono u1 k1).mono u2 k2, h2.bind.imp fun w μ3 S3 H3 u3 k3 s3 h3 w' rw => ?_⟩⟩⟩
  cases w with
  | str t =>
    cases rw
    simp only [repV] at h3
    split at h3
    · rename_i hb
      simp only [Res.bind_ok] at h3
      refine ⟨t, rfl, hb.1, μ3, env, S3, s3, ((e.mono u1 k1).mono u2 k2).mono u3 k3, h3.bind.imp fun xs μ4 S4 H4 u4 k4 s4 h4 xs' rxs => ?_⟩
      unfold lstRV at h4
      split at h4
      · rename_i hl
        have rr : RVs μ4 H4 (x :: v :: .str (Txt.replace t y z) :: xs) (x' :: v' :: .str (Txt.replace t y z) :: xs') := .cons (((rx.mono u2 k2 _ _).mono u3 k3 _ _).mono u4 k4 _ _) (.cons ((rv.mono u3 k3 _ _).mono u4 k4 _ _) (.cons (.str hb.2) rxs))
        exact ⟨by rw [← line_eq, ← rr.length]; exact hl, fun p hp => h4.lst s4 rr hp⟩
      · exact h4.elim
    · exact h3.elim
  | _ => exact h3.elim
end
end Nw

set_option Elab.async false
set_option linter.all false
set_option maxRecDepth 100000
set_option maxHeartbeats 4000000
namespace Nw
open PySem L2 PySem.Spec PyProof.Rows
/-! ## sorted(d), d a dict whose keys are pairs of ints -/
/-- the pair read off its place -/
def pairOf (H : Hp) (x : V) : Int × Int := match x with
  | .ref t => match H t with
    | some (.tup [.int a, .int b]) => (a, b)
    | _ => (0, 0)
  | _ => (0, 0)
section
variable {X : Cx} {H : Hp}
theorem keys_in {kvs : List (List L2.Key × V)} {bs : List Addr} (r : IsKeys H kvs bs) (hk : ∀ kv ∈ kvs, ∃ i j : Int, kv.1 = [.inl i, .inl j]) : ∀ b ∈ bs, ∃ i j : Int, H b = some (.tup [.int i, .int j]) := by
  unfold IsKeys at r
  induction r with
  | nil => intro b hb; cases hb
  | @cons p q ps qs h t ih =>
    intro b hb
    rcases List.mem_cons.mp hb with e | hb
    · obtain ⟨i, j, e2⟩ := hk p List.mem_cons_self
      rw [e2] at h
      subst e
      exact ⟨i, j, h⟩
    · exact ih (fun kv hkv => hk kv (List.mem_cons_of_mem _ hkv)) b hb
theorem cr_sortedDT (hc : X.calm = true) : CallR X (.builtin "sorted") (fun xs H Q => ∃ d kvs, xs = [V.ref d] ∧ Rd H d (.dT kvs) ∧ (∀ kv ∈ kvs, ∃ i j : Int, kv.1 = [.inl i, .inl j]) ∧ ∀ p bs ys, H p = none → IsKeys H kvs bs →
    SrtO.Srtd (ltP (pairOf H)) ys → SrtO.Stb (ltP (pairOf H)) ys (bs.map V.ref) → Q (.ref p) (L2.upd H p (.lst ys))) := by
  intro pins s σ H xs us Q I r ⟨d, kvs, e0, hd, hk, q⟩
  subst e0
  obtain ⟨u, e1, rx⟩ := r.one; subst e1; cases rx
  obtain ⟨z, hs, ks, pr, o, es, ep, ho, hx, hdt, he, hn⟩ := (show ObjOk X.prog X.w H s.heap d (.dT kvs) from hd.ok I.hok); have l1 : es.size = ks.length := size_of_entries he; have l2 : kvs.length = ks.length := Paired.length pr
  refine Calls.call_function_entry kind_sorted plain_sorted entry_sorted (args_sorted1 _) ?_; unfold Builtin.«sorted»
  refine wpAny_bind (m := checkCount "sorted" 1 1 _) (wpAny_pure ?_); refine wpAny_bind (PySem.W.kdu_collect (A := X.A.in1) (kdl_raw hs hx hdt) (I.ok.hd hc) ho (by omega) fun h' tk acc kp it => ?_)
  -- what was collected
  have hl : acc.toList.length = ks.length := by
    rw [Array.length_toList, it.1, l1]
  have ea : acc.toList = (ks.map fun x => x.2.1).map Value.ref := by
    rw [List.map_map]
    apply List.ext_getElem?; intro j; rw [List.getElem?_map]
    cases hj : acc.toList[j]? with
    | none => rw [List.getElem?_eq_none (by have := List.getElem?_eq_none_iff.mp hj; omega)]; rfl
    | some v =>
      obtain ⟨en, h1, h2⟩ := it.2 j v (by rw [← Array.getElem?_toList]; exact hj)
      have g := entry_at he j
      rw [h1] at g
      cases hb : ks[j]? with
      | none => rw [hb] at g; exact nomatch (show some en = none from g)
      | some b => rw [hb] at g; rw [h2, (Option.some.inj g : en = entryOfKey (tupleKind (mixKind X.prog X.w)) b)]; rfl
  obtain ⟨bs, hbs⟩ : ∃ bs, bs = ks.map fun x => x.2.1 := ⟨_, rfl⟩
  rw [← hbs] at ea
  have isk : IsKeys H kvs bs := by rw [hbs]; exact isKeys_of pr
  have hal : acc.toList.length ≤ sizeLine := by omega
  have I1 : L2.Inv X pins σ H { s with heap := h', toks := tk } := I.kept kp
  refine wpAny_bind (wpAny_newList ?_ hal)
  have hoL : (h'.push (seqObj "list" acc.toList.toArray 0)).get? h'.objs.size = some (seqObj "list" acc.toList.toArray 0) := Heap.get?_push_size _ rfl
  show wpAny _ _ _ _ _ { s with heap := h'.push (seqObj "list" acc.toList.toArray 0), toks := tk }
  have pairs : ∀ v ∈ acc.toList, Srt.IsPair h' v (pairOf H (backV v)).1 (pairOf H (backV v)).2 := fun v hv => by
    rw [ea] at hv
    obtain ⟨b, hb, e⟩ := List.mem_map.mp hv
    subst e
    obtain ⟨i, j, hH⟩ := keys_in isk hk b hb
    have e2 : pairOf H (backV (Value.ref b)) = (i, j) := by show pairOf H (V.ref b) = _; simp [pairOf, hH]
    rw [e2]
    obtain ⟨_, its2, r2, o2, ho2, hc2, n2, hd2⟩ := I1.hok _ _ hH
    obtain ⟨u1, u2, e3, ri, rj⟩ := vals2 r2
    subst e3
    obtain ⟨t1, e4⟩ := ri; obtain ⟨t2, e5⟩ := rj
    subst e4 e5
    exact ⟨b, o2, t1, t2, n2, rfl, ho2, hc2, hd2⟩
  refine wpAny_bind (wpAny_holding (wpAny_call_entry slot_list_sort ⟨_, hoL, rfl⟩ entry_list_sort (SrtO.list_sort_ord (SrtO.swo_lex fun v => pairOf H (backV v)) hoL hal (fun h2 => ?_) fun out g1 g2 => ⟨_, rfl, ?_⟩) (args_list_sort _)))
  · refine SrtO.pairs_sortableO (by omega) (fun v hv => (pairs v hv).keeps fun b o e _ => Heap.get?_push_of_some _ e) fun o e c => ?_
    have e' : some o = some (seqObj "list" acc.toList.toArray 0) := e.symm.trans hoL
    cases e'
    exact absurd (Value.type.inj c) (by decide)
  · have perm := g2.perm
    have back : ∀ u ∈ out, ∃ a, u = Value.ref a := fun u hu => by
      have := perm.mem_iff.mp hu
      rw [ea] at this
      obtain ⟨b, _, e⟩ := List.mem_map.mp this
      exact ⟨b, e.symm⟩
    have hb : SrtO.Stb (ltP (pairOf H)) (out.map backV) (bs.map V.ref) := by
      have := SrtO.Stb.map (ltP_swo (pairOf H)) backV g2
      rw [ea, List.map_map] at this
      exact this
    obtain ⟨e', he'⟩ := sortedHeap_at (vs := acc.toList) (out := out.toArray) hoL
    have hlen : (out.map backV).length ≤ sizeLine := by rw [List.length_map, perm.length_eq]; exact hal
    refine wpAny_pure ⟨_, rfl, .ref h'.objs.size, L2.upd H h'.objs.size (.lst (out.map backV)), I1.laid (t' := tk) (fun b u e => ?_) (Nat.le_refl _) (show ObjOk X.prog X.w _ _ _ (.lst (out.map backV)) from ⟨hlen, out, e', vals_back back, he'⟩), rfl, q _ bs _ (I1.hok.fresh (Nat.le_refl _)) isk (SrtO.srtd_map g1) hb⟩
    have hb : b < h'.objs.size := Heap.lt_size e
    rw [sortedHeap_old (Nat.ne_of_lt hb) (by rw [size_push']; exact Nat.lt_succ_of_lt hb)]
    exact Heap.get?_push_of_some _ e
end
end Nw

set_option Elab.async false
set_option linter.all false
set_option maxRecDepth 100000
set_option maxHeartbeats 1000000
namespace Nw
open PySem L2

section
variable {α β : Type} {G : Cfg} {W : WX} {X : Cx} {σ : St} {μ : List Addr} {H : Hp} {S : Store} {Q : VK} {G' : Tab} {ft : Fns}

/-- a built-in's call by values -/
def StA (X : Cx) (f : Store → List Val → Res Val) : List V → Hp → VK → Prop := fun xs H Q => ∃ (G : Cfg) (W : WX) (σ : St) (μ : List Addr) (vs : List Val) (S : Store), G.K = X.K ∧ Sim G μ S H ∧ RVs μ H vs xs ∧ After G W σ μ H (f S vs) (Kv Q)
theorem de_bi {e : Expr} {pa : PyE} {b : Bi} (hK : G.K = X.K) (h : PE X e (tCB (StA X (biV b)) (liftA G W (evA G' ft pa)))) : PE X e (lift G W (ev G' ft (.bi b pa))) := by
  refine h.imp fun σ H Q h => ?_
  have h2 := oneA (f := fun vs _ S1 => biV b S1 vs) (by simp only [lift, ev] at h; exact h)
  obtain ⟨μ, env, S, s, e, h2⟩ := h2
  refine ⟨μ, env, S, s, e, h2.imp fun vs μ1 S1 H1 u1 k1 s1 h1 xs rxs => ?_⟩
  obtain ⟨μ2, env2, vs2, S2, s2, e2, r2, q⟩ := h1 xs rxs
  exact ⟨G, W, σ, μ2, vs2, S2, hK, s2, r2, q⟩
theorem RVs.one_inv {v : Val} {xs : List V} (r : RVs μ H [v] xs) : ∃ x, xs = [x] ∧ RV μ H v x := by
  cases r with | cons h t => cases t; exact ⟨_, rfl, h⟩
theorem RVs.two_inv {v w : Val} {xs : List V} (r : RVs μ H [v, w] xs) : ∃ x y, xs = [x, y] ∧ RV μ H v x ∧ RV μ H w y := by
  cases r with | cons h t => obtain ⟨y, e, h2⟩ := t.one_inv; subst e; exact ⟨_, y, rfl, h, h2⟩
theorem bi_len : CallR X (.builtin "len") (StA X lenV) := by
  intro pins s σ H xs us Q I r h
  obtain ⟨G, W, σ', μ, vs, S, hK, sm, rs, h⟩ := h
  unfold lenV at h
  split at h
  · obtain ⟨x, rfl, rv⟩ := rs.one_inv
    cases rv with
    | str hs =>
    split at h
    · rename_i hl
      exact call_len pins s σ H _ us Q I r ⟨_, _, rfl, ⟨by rw [← line_eq]; exact hl, rfl⟩, h.val sm (.int _)⟩
    · exact h.elim
  · obtain ⟨x, rfl, rv⟩ := rs.one_inv
    cases rv with
    | tup hs t =>
    exact call_len pins s σ H _ us Q I r ⟨_, _, rfl, .inr ⟨_, SqT.of hs, rfl⟩, by rw [← t.length]; exact h.val sm (.int _)⟩
  · obtain ⟨x, rfl, rv⟩ := rs.one_inv
    cases rv with
    | obj hs =>
    split at h
    · rename_i eo
      obtain ⟨p, ys, g1, g2, g3⟩ := sm.lstR eo
      rw [hs] at g1; cases g1
      exact call_len pins s σ H _ us Q I r ⟨_, _, rfl, .inl ⟨_, by rw [← hK]; exact g2, rfl⟩, by rw [← g3.length]; exact h.val sm (.int _)⟩
    · rename_i eo
      obtain ⟨p, ys, g1, g2, g3, _⟩ := sm.dK eo
      rw [hs] at g1; cases g1
      exact call_lenD pins s σ H _ us Q I r ⟨_, _, rfl, g2, by rw [← g3.length]; exact h.val sm (.int _)⟩
    · rename_i eo
      obtain ⟨p, ys, g1, g2, g3, _⟩ := sm.dT eo
      rw [hs] at g1; cases g1
      exact call_len_dT pins s σ H _ us Q I r ⟨_, _, rfl, g2, by rw [← g3.length]; exact h.val sm (.int _)⟩
    · exact h.elim
  · exact h.elim
theorem bi_int : CallR X (.type "int") (StA X intV) := by
  intro pins s σ H xs us Q I r h
  obtain ⟨G, W, σ', μ, vs, S, hK, sm, rs, h⟩ := h
  unfold intV at h
  split at h
  · obtain ⟨x, rfl, rv⟩ := rs.one_inv
    cases rv
    exact call_int1 pins s σ H _ us Q I r (.inl ⟨_, rfl, h.val sm (.int _)⟩)
  · obtain ⟨x, rfl, rv⟩ := rs.one_inv
    cases rv
    exact call_int1 pins s σ H _ us Q I r (.inr ⟨_, rfl, h.val sm (.int _)⟩)
  · obtain ⟨x, rfl, rv⟩ := rs.one_inv
    cases rv with
    | str hs =>
    split at h
    · rename_i n e
      split at h
      · rename_i hl
        exact call_int_str pins s σ H _ us Q I r ⟨_, n, rfl, e, hl, h.val sm (.int _)⟩
      · exact h.elim
    · exact h.elim
  · exact h.elim
theorem sOk_ofString (z : String) : sOk (Str.ofString z) = true := by
  rw [Str.ofString_eq_toList]
  unfold sOk
  rw [Array.all_eq_true_iff_forall_mem]
  intro x hx
  simp only [List.mem_toArray, List.mem_map] at hx
  obtain ⟨c, _, e⟩ := hx
  subst e
  have h := c.valid
  simp only [UInt32.isValidChar, Nat.isValidChar] at h
  have e : c.toNat = c.val.toNat := rfl
  simp only [decide_eq_true_eq]
  omega
theorem bi_str : CallR X (.type "str") (StA X strV) := by
  intro pins s σ H xs us Q I r h
  obtain ⟨G, W, σ', μ, vs, S, hK, sm, rs, h⟩ := h
  unfold strV at h
  split at h
  · obtain ⟨x, rfl, rv⟩ := rs.one_inv
    cases rv
    split at h
    · rename_i hl
      exact call_str_int pins s σ H _ us Q I r ⟨_, rfl, hl, h.val sm (.str (sOk_ofString _))⟩
    · exact h.elim
  · obtain ⟨x, rfl, rv⟩ := rs.one_inv
    cases rv with
    | str hs =>
    exact SkE.call_str_str pins s σ H _ us Q I r ⟨_, rfl, h.val sm (.str hs)⟩
  · exact h.elim
theorem bi_tuple : CallR X (.type "tuple") (StA X tupV) := by
  intro pins s σ H xs us Q I r h
  obtain ⟨G, W, σ', μ, vs, S, hK, sm, rs, h⟩ := h
  unfold tupV at h
  split at h
  · obtain ⟨x, rfl, rv⟩ := rs.one_inv
    cases rv with
    | tup hs t =>
    exact call_tuple_of pins s σ H _ us Q I r ⟨_, _, rfl, .inr ⟨SqT.of hs, h.val sm (.tup hs t)⟩⟩
  · obtain ⟨x, rfl, rv⟩ := rs.one_inv
    cases rv with
    | obj hs =>
    split at h
    · rename_i eo
      obtain ⟨p, ys, g1, g2, g3⟩ := sm.lstR eo
      rw [hs] at g1; cases g1
      exact call_tuple_of pins s σ H _ us Q I r ⟨_, _, rfl, .inl ⟨by rw [← hK]; exact g2, fun l hl => h.tup sm g3 hl⟩⟩
    · exact h.elim
  · exact h.elim
theorem keys_rv : ∀ {kvs : List (Key × Val)} {ys : List (Key × V)}, RKv μ H kvs ys → (∀ p ∈ kvs, kOk p.1 = true) → RVs μ H (kvs.map fun kv => keyV kv.1) (ys.map fun kv => kV kv.1)
  | [], [], _, _ => .nil
  | (k, v) :: r, (k', x) :: r', ⟨h1, h2, h3⟩, ok => by
    subst h1
    exact .cons (RV.key (ok (k, v) (by simp))) (keys_rv h3 fun p hp => ok p (by simp [hp]))
  | [], _ :: _, h, _ => h.elim
  | _ :: _, [], h, _ => h.elim
theorem keyVs : ∀ {ks : List Key}, (∀ k ∈ ks, kOk k = true) → RVs μ H (ks.map keyV) (ks.map kV)
  | [], _ => .nil
  | k :: r, h => .cons (RV.key (h k (by simp))) (keyVs fun z hz => h z (by simp [hz]))
theorem keysT_rv : ∀ {kvs : List (List Key × Val)} {ys : List (List Key × V)} {bs : List Addr}, RKv μ H kvs ys → (∀ p ∈ kvs, ∀ k ∈ p.1, kOk k = true) → IsKeys H ys bs → RVs μ H (kvs.map fun kv => Val.tup (kv.1.map keyV)) (bs.map V.ref)
  | [], [], _, _, _, h => by cases h; exact .nil
  | (k, v) :: r, (k', x) :: r', _, ⟨h1, h2, h3⟩, ok, h => by
    subst h1
    cases h with
    | cons a t => exact .cons (.tup a (keyVs (ok (k, v) (by simp)))) (keysT_rv h3 (fun p hp => ok p (by simp [hp])) t)
  | [], _ :: _, _, h, _, _ => h.elim
  | _ :: _, [], _, h, _, _ => h.elim
theorem bi_list (hc : X.calm = true) : CallR X (.type "list") (StA X lstV) := by
  intro pins s σ H xs us Q I r h
  obtain ⟨G, W, σ', μ, vs, S, hK, sm, rs, h⟩ := h
  unfold lstV at h
  split at h
  · obtain ⟨x, rfl, rv⟩ := rs.one_inv
    cases rv with
    | tup hs t =>
    exact call_list_of pins s σ H _ us Q I r ⟨_, _, rfl, .inr (SqT.of hs), fun l hl => h.lst sm t hl⟩
  · obtain ⟨x, rfl, rv⟩ := rs.one_inv
    cases rv with
    | obj hs =>
    split at h
    · rename_i eo
      obtain ⟨p, ys, g1, g2, g3⟩ := sm.lstR eo
      rw [hs] at g1; cases g1
      exact call_list_of pins s σ H _ us Q I r ⟨_, _, rfl, .inl (by rw [← hK]; exact g2), fun l hl => h.lst sm g3 hl⟩
    · rename_i eo
      obtain ⟨p, ys, g1, g2, g3, g4⟩ := sm.dKR eo
      rw [hs] at g1; cases g1
      exact call_listD hc pins s σ H _ us Q I r ⟨_, _, rfl, g2, fun l hl => h.lst sm (keys_rv g3 g4) hl⟩
    · rename_i eo
      obtain ⟨p, ys, g1, g2, g3, g4⟩ := sm.dTR eo
      rw [hs] at g1; cases g1
      exact call_list_dT hc pins s σ H _ us Q I r ⟨_, _, rfl, g2, fun l bs hl hb => h.lst sm (keysT_rv g3 g4 hb) hl⟩
    · exact h.elim
  · exact h.elim
theorem ins_perm (i : Int) : ∀ l : List Int, (insI i l).Perm (i :: l)
  | [] => .refl _
  | j :: r => by
    unfold insI
    split
    · exact .refl _
    · exact ((ins_perm i r).cons j).trans (.swap i j r)
theorem sort_perm : ∀ l : List Int, (sortI l).Perm l
  | [] => .refl _
  | j :: r => (ins_perm j (sortI r)).trans ((sort_perm r).cons j)
theorem ins_sorted (i : Int) : ∀ {l : List Int}, l.Pairwise (· ≤ ·) → (insI i l).Pairwise (· ≤ ·)
  | [], _ => by simp [insI]
  | j :: r, h => by
    have h2 := List.pairwise_cons.mp h
    unfold insI
    split
    · rename_i hl
      refine List.pairwise_cons.mpr ⟨fun a ha => ?_, h⟩
      rcases List.mem_cons.mp ha with e | ha
      · subst e; exact hl
      · exact Int.le_trans hl (h2.1 a ha)
    · rename_i hl
      refine List.pairwise_cons.mpr ⟨fun a ha => ?_, ins_sorted i h2.2⟩
      rcases List.mem_cons.mp ((ins_perm i r).mem_iff.mp ha) with e | ha
      · subst e; omega
      · exact h2.1 a ha
theorem sort_sorted : ∀ l : List Int, (sortI l).Pairwise (· ≤ ·)
  | [] => List.Pairwise.nil
  | j :: r => ins_sorted j (sort_sorted r)
theorem insS_perm (i : Str) : ∀ l : List Str, (insS i l).Perm (i :: l)
  | [] => .refl _
  | j :: r => by
    unfold insS
    split
    · exact .refl _
    · exact ((insS_perm i r).cons j).trans (.swap i j r)
theorem sortS_perm : ∀ l : List Str, (sortS l).Perm l
  | [] => .refl _
  | j :: r => (insS_perm j (sortS r)).trans ((sortS_perm r).cons j)
theorem leS_iff {a b : Str} : leS a b = true ↔ a.cps.toList ≤ b.cps.toList := by
  unfold leS
  simp [List.not_lt]
theorem leS_trans {a b c : Str} (h1 : leS a b = true) (h2 : leS b c = true) : leS a c = true := leS_iff.mpr (List.le_trans (leS_iff.mp h1) (leS_iff.mp h2))
theorem leS_total {a b : Str} (h : leS a b ≠ true) : leS b a = true := by
  rw [Ne, leS_iff] at h
  exact leS_iff.mpr ((List.le_total a.cps.toList b.cps.toList).resolve_left h)
theorem leS_anti {a b : Str} (h1 : leS a b = true) (h2 : leS b a = true) : a = b := by
  have := List.le_antisymm (leS_iff.mp h1) (leS_iff.mp h2)
  cases a; cases b
  simp at this
  rw [this]
theorem insS_sorted (i : Str) : ∀ {l : List Str}, l.Pairwise (fun a b => leS a b = true) → (insS i l).Pairwise (fun a b => leS a b = true)
  | [], _ => by simp [insS]
  | j :: r, h => by
    have h2 := List.pairwise_cons.mp h
    unfold insS
    split
    · rename_i hl
      refine List.pairwise_cons.mpr ⟨fun a ha => ?_, h⟩
      rcases List.mem_cons.mp ha with e | ha
      · subst e; exact hl
      · exact leS_trans hl (h2.1 a ha)
    · rename_i hl
      refine List.pairwise_cons.mpr ⟨fun a ha => ?_, insS_sorted i h2.2⟩
      rcases List.mem_cons.mp ((insS_perm i r).mem_iff.mp ha) with e | ha
      · subst e; exact leS_total hl
      · exact h2.1 a ha
theorem sortS_sorted : ∀ l : List Str, (sortS l).Pairwise (fun a b => leS a b = true)
  | [] => List.Pairwise.nil
  | j :: r => insS_sorted j (sortS_sorted r)
theorem risingS_pw : ∀ {l : List Str} {p : Str}, PyProof.Rows.risingS p l = true → (∀ x ∈ l, leS p x = true) ∧ l.Pairwise (fun a b => leS a b = true)
  | [], p, _ => ⟨by simp, .nil⟩
  | x :: r, p, h => by
    simp only [PyProof.Rows.risingS, Bool.and_eq_true] at h
    obtain ⟨h1, h2⟩ := h
    have hx : leS p x = true := by
      unfold leS
      rw [PyProof.Rows.ltCps_eq] at h1
      exact h1
    obtain ⟨i1, i2⟩ := risingS_pw h2
    refine ⟨fun y hy => ?_, List.pairwise_cons.mpr ⟨i1, i2⟩⟩
    rcases List.mem_cons.mp hy with e | hy
    · subst e; exact hx
    · exact leS_trans hx (i1 y hy)
theorem sortedS_pw : ∀ {l : List Str}, PyProof.Rows.sortedS l = true → l.Pairwise (fun a b => leS a b = true)
  | [], _ => .nil
  | x :: r, h => List.pairwise_cons.mpr (risingS_pw h)
theorem insP_perm (i : Int × Int) : ∀ l : List (Int × Int), (insP i l).Perm (i :: l)
  | [] => .refl _
  | j :: r => by
    unfold insP
    split
    · exact .refl _
    · exact ((insP_perm i r).cons j).trans (.swap i j r)
theorem sortP_perm : ∀ l : List (Int × Int), (sortP l).Perm l
  | [] => .refl _
  | j :: r => (insP_perm j (sortP r)).trans ((sortP_perm r).cons j)
theorem leP_iff {a b : Int × Int} : leP a b = true ↔ a.1 < b.1 ∨ a.1 = b.1 ∧ a.2 ≤ b.2 := by simp [leP]
theorem leP_trans {a b c : Int × Int} (h1 : leP a b = true) (h2 : leP b c = true) : leP a c = true := by rw [leP_iff] at *; omega
theorem leP_total {a b : Int × Int} (h : leP a b ≠ true) : leP b a = true := by rw [Ne, leP_iff] at h; rw [leP_iff]; omega
theorem leP_anti {a b : Int × Int} (h1 : leP a b = true) (h2 : leP b a = true) : a = b := by
  rw [leP_iff] at h1 h2
  obtain ⟨a1, a2⟩ := a
  obtain ⟨b1, b2⟩ := b
  simp only at h1 h2
  rw [show a1 = b1 by omega, show a2 = b2 by omega]
theorem insP_sorted (i : Int × Int) : ∀ {l : List (Int × Int)}, l.Pairwise (fun a b => leP a b = true) → (insP i l).Pairwise (fun a b => leP a b = true)
  | [], _ => by simp [insP]
  | j :: r, h => by
    have h2 := List.pairwise_cons.mp h
    unfold insP
    split
    · rename_i hl
      refine List.pairwise_cons.mpr ⟨fun a ha => ?_, h⟩
      rcases List.mem_cons.mp ha with e | ha
      · subst e; exact hl
      · exact leP_trans hl (h2.1 a ha)
    · rename_i hl
      refine List.pairwise_cons.mpr ⟨fun a ha => ?_, insP_sorted i h2.2⟩
      rcases List.mem_cons.mp ((insP_perm i r).mem_iff.mp ha) with e | ha
      · subst e; exact leP_total hl
      · exact h2.1 a ha
theorem sortP_sorted : ∀ l : List (Int × Int), (sortP l).Pairwise (fun a b => leP a b = true)
  | [] => List.Pairwise.nil
  | j :: r => insP_sorted j (sortP_sorted r)
theorem pairV_of {v : Val} {p : Int × Int} (h : intPOf v = some p) : v = pairV p := by
  unfold intPOf at h
  split at h
  · cases h; rfl
  · cases h
theorem pairs_of : ∀ {vs : List Val} {ps : List (Int × Int)}, vs.mapM intPOf = some ps → vs = ps.map pairV
  | [], ps, h => by cases h; rfl
  | v :: vs, ps, h => by
    rw [List.mapM_cons] at h
    cases e1 : intPOf v with
    | none => rw [e1] at h; cases h
    | some p =>
      cases e2 : vs.mapM intPOf with
      | none => rw [e1, e2] at h; cases h
      | some qs =>
        rw [e1, e2] at h
        cases h
        rw [List.map_cons, ← pairV_of e1, ← pairs_of e2]
/-- a pair at its place -/
def PairAt (H : Hp) (x : V) (p : Int × Int) : Prop := ∃ t, x = V.ref t ∧ H t = some (.tup [.int p.1, .int p.2])
theorem RVs.pairs : ∀ {ps : List (Int × Int)} {xs : List V}, RVs μ H (ps.map pairV) xs → Paired (PairAt H) xs ps
  | [], xs, r => by cases r; exact .nil
  | p :: ps, xs, r => by
    cases r with
    | cons r1 r2 =>
    refine .cons ?_ (RVs.pairs r2)
    cases r1 with
    | tup h1 h2 =>
    cases h2 with
    | cons a1 a2 =>
    cases a2 with
    | cons b1 b2 =>
    cases b2
    cases a1
    cases b1
    exact ⟨_, rfl, h1⟩
theorem PairAt.rv {x : V} {p : Int × Int} (h : PairAt H x p) : RV μ H (pairV p) x := by
  obtain ⟨t, rfl, e⟩ := h
  exact .tup e (.cons (.int _) (.cons (.int _) .nil))
theorem PairAt.fn {x : V} {p q : Int × Int} (h : PairAt H x p) (h2 : PairAt H x q) : p = q := by
  obtain ⟨t, rfl, e⟩ := h
  obtain ⟨t2, e2, e3⟩ := h2
  cases e2
  rw [e] at e3
  injection e3 with e3
  injection e3 with e3
  injection e3 with e4 e5
  injection e4 with e4
  injection e5 with e5
  injection e5 with e5
  exact Prod.ext e4 e5
theorem pairs_rv : ∀ {xs : List V} {ps : List (Int × Int)}, Paired (PairAt H) xs ps → RVs μ H (ps.map pairV) xs
  | _, _, .nil => .nil
  | _, _, .cons h t => .cons h.rv (pairs_rv t)
theorem PairAt.of {x : V} {p : Int × Int} (h : PairAt H x p) : pairOf H x = p := by
  obtain ⟨t, rfl, e⟩ := h
  simp [pairOf, e]
theorem paired_all {α β : Type} {F : α → β → Prop} {xs : List α} {ys : List β} (h : Paired F xs ys) : ∀ x ∈ xs, ∃ y, F x y := by
  induction h with
  | nil => intro x hx; cases hx
  | cons h1 h2 ih =>
    intro x hx
    rcases List.mem_cons.mp hx with e | hx
    · subst e; exact ⟨_, h1⟩
    · exact ih x hx
theorem paired_map {xs : List V} {ps : List (Int × Int)} (h : Paired (PairAt H) xs ps) : xs.map (pairOf H) = ps := by
  induction h with
  | nil => rfl
  | cons h1 h2 ih => rw [List.map_cons, h1.of, ih]
theorem map_paired : ∀ {xs : List V}, (∀ x ∈ xs, ∃ p, PairAt H x p) → Paired (PairAt H) xs (xs.map (pairOf H))
  | [], _ => .nil
  | x :: xs, h => by
    obtain ⟨p, hp⟩ := h x List.mem_cons_self
    exact .cons (by rw [hp.of]; exact hp) (map_paired fun y hy => h y (List.mem_cons_of_mem _ hy))
theorem lexB_le {a b : Int × Int} (h : SrtO.lexB b a = false) : leP a b = true := by
  rw [leP_iff]
  have := SrtO.lexB_no.mp h
  omega
theorem pairK_of : ∀ {kvs : List (List Key × Val)} {ps : List (Int × Int)}, (kvs.mapM fun kv => pairK kv.1) = some ps → (kvs.map fun kv => Val.tup (kv.1.map keyV)) = ps.map pairV ∧ ∀ kv ∈ kvs, ∃ i j : Int, kv.1 = [.inl i, .inl j]
  | [], ps, h => by cases h; exact ⟨rfl, fun _ h => by cases h⟩
  | (k, v) :: r, ps, h => by
    rw [List.mapM_cons] at h
    cases e1 : pairK k with
    | none => simp [e1] at h
    | some p =>
      cases e2 : r.mapM fun kv => pairK kv.1 with
      | none => simp [e1, e2] at h
      | some qs =>
        simp [e1, e2] at h
        subst h
        obtain ⟨h1, h2⟩ := pairK_of e2
        have hk : k = [.inl p.1, .inl p.2] := by
          unfold pairK at e1
          split at e1
          · cases e1; rfl
          · cases e1
        refine ⟨by rw [List.map_cons, List.map_cons, h1, hk]; rfl, fun kv hkv => ?_⟩
        rcases List.mem_cons.mp hkv with e | hkv
        · subst e; exact ⟨_, _, hk⟩
        · exact h2 kv hkv
theorem rkv_keys {κ : Type} : ∀ {kvs : List (κ × Val)} {ys : List (κ × V)}, RKv μ H kvs ys → ∀ y ∈ ys, ∃ kv ∈ kvs, kv.1 = y.1
  | [], [], _, y, hy => by cases hy
  | (k, v) :: r, (k', x) :: r', ⟨h1, h2, h3⟩, y, hy => by
    rcases List.mem_cons.mp hy with e | hy
    · subst e; exact ⟨_, List.mem_cons_self, h1⟩
    · obtain ⟨kv, a, b⟩ := rkv_keys h3 y hy
      exact ⟨kv, List.mem_cons_of_mem _ a, b⟩
  | [], _ :: _, h, _, _ => h.elim
  | _ :: _, [], h, _, _ => h.elim
theorem bi_sorted (hc : X.calm = true) : CallR X (.builtin "sorted") (StA X sortV) := by
  intro pins s σ H xs us Q I r h
  obtain ⟨G, W, σ', μ, vs, S, hK, sm, rs, h⟩ := h
  unfold sortV at h
  split at h
  · obtain ⟨x, rfl, rv⟩ := rs.one_inv
    cases rv with
    | obj hs =>
    split at h
    · rename_i eo
      obtain ⟨p, ys, g1, g2, g3⟩ := sm.lstR eo
      rw [hs] at g1; cases g1
      split at h
      · rename_i ns en
        obtain ⟨e1, e2⟩ := g3.ints en
        subst e1
        refine cr_sortedI pins s σ H _ us Q I r ⟨_, ns, rfl, by rw [← hK]; exact g2, fun ns' l pm pw hl => ?_⟩
        have e3 : ns' = sortI ns := PySem.W.ksm_same (pm.trans (sort_perm ns).symm) pw (sort_sorted ns)
        subst e3
        exact h.lst sm (RVs.of_ints _) hl
      · split at h
        · rename_i ss es
          obtain ⟨e1, e2, e3⟩ := g3.strs es
          subst e1
          split at h
          · rename_i hz
            refine cr_sortedS pins s σ H _ us Q I r ⟨_, ss, rfl, by rw [← hK]; exact g2, hz, fun ss' l pm pw hl => ?_⟩
            have e4 : ss' = sortS ss := List.Perm.eq_of_pairwise (fun a b _ _ h1 h2 => leS_anti h1 h2) (sortedS_pw pw) (sortS_sorted ss) (pm.trans (sortS_perm ss).symm)
            subst e4
            exact h.lst sm (RVs.of_strs _ fun z hz => e3 z ((sortS_perm ss).mem_iff.mp hz)) hl
          · exact h.elim
        · split at h
          · rename_i ps ep
            have e1 := pairs_of ep
            subst e1
            have pr := g3.pairs
            have all := paired_all pr
            refine cr_sortedPO pins s σ H _ us Q I r ⟨_, ys, pairOf H, rfl, by rw [← hK]; exact g2, fun x hx => ?_, fun zs p hs hb hp => ?_⟩
            · obtain ⟨q, t, rfl, e⟩ := all x hx
              have hq : pairOf H (V.ref t) = q := PairAt.of ⟨t, rfl, e⟩
              exact ⟨t, rfl, by rw [hq]; exact e⟩
            · have hz : zs.map (pairOf H) = sortP ps := by
                refine List.Perm.eq_of_pairwise (fun a b _ _ h1 h2 => leP_anti h1 h2) ?_ (sortP_sorted ps) ?_
                · exact List.pairwise_map.mpr (hs.imp fun h => lexB_le h)
                · exact ((hb.perm.map (pairOf H)).trans (by rw [paired_map pr])).trans (sortP_perm ps).symm
              have pz := map_paired (H := H) fun x hx => all x (hb.perm.mem_iff.mp hx)
              rw [hz] at pz
              exact h.lst sm (pairs_rv pz) hp
          · exact h.elim
    · rename_i eo
      split at h
      · rename_i ps ep
        obtain ⟨p, ys, g1, g2, g3, g4⟩ := sm.dTR eo
        rw [hs] at g1; cases g1
        obtain ⟨k1, k2⟩ := pairK_of ep
        refine cr_sortedDT hc pins s σ H _ us Q I r ⟨_, ys, rfl, g2, fun y hy => ?_, fun d bs zs hp hb hs1 hs2 => ?_⟩
        · obtain ⟨kv, a, b⟩ := rkv_keys g3 y hy
          obtain ⟨i, j, e⟩ := k2 kv a
          exact ⟨i, j, by rw [← b, e]⟩
        · have rk : RVs μ H (ps.map pairV) (bs.map V.ref) := by rw [← k1]; exact keysT_rv g3 g4 hb
          have pr := rk.pairs
          have all := paired_all pr
          have hz : zs.map (pairOf H) = sortP ps := by
            refine List.Perm.eq_of_pairwise (fun a b _ _ h1 h2 => leP_anti h1 h2) ?_ (sortP_sorted ps) ?_
            · exact List.pairwise_map.mpr (hs1.imp fun h => lexB_le h)
            · exact ((hs2.perm.map (pairOf H)).trans (by rw [paired_map pr])).trans (sortP_perm ps).symm
          have pz := map_paired (H := H) fun x hx => all x (hs2.perm.mem_iff.mp hx)
          rw [hz] at pz
          exact h.lst sm (pairs_rv pz) hp
      · exact h.elim
    · exact h.elim
  · exact h.elim
theorem bi_sum (hc : X.calm = true) : CallR X (.builtin "sum") (StA X sumV) := by
  intro pins s σ H xs us Q I r h
  obtain ⟨G, W, σ', μ, vs, S, hK, sm, rs, h⟩ := h
  unfold sumV at h
  split at h
  · obtain ⟨x, rfl, rv⟩ := rs.one_inv
    cases rv with
    | obj hs =>
    split at h
    · rename_i eo
      obtain ⟨p, ys, g1, g2, g3⟩ := sm.lstR eo
      rw [hs] at g1; cases g1
      split at h
      · rename_i ns en
        obtain ⟨e1, e2⟩ := g3.ints en
        subst e1
        exact cr_sum hc pins s σ H _ us Q I r ⟨_, ns, rfl, by rw [← hK]; exact g2, h.val sm (.int _)⟩
      · exact h.elim
    · exact h.elim
  · exact h.elim
theorem bi_all (hc : X.calm = true) : CallR X (.builtin "all") (StA X allV) := by
  intro pins s σ H xs us Q I r h
  obtain ⟨G, W, σ', μ, vs, S, hK, sm, rs, h⟩ := h
  unfold allV at h
  split at h
  · obtain ⟨x, rfl, rv⟩ := rs.one_inv
    cases rv with
    | obj hs =>
    split at h
    · rename_i eo
      obtain ⟨p, ys, g1, g2, g3⟩ := sm.lstR eo
      rw [hs] at g1; cases g1
      split at h
      · rename_i ns en
        have e1 := g3.bools en
        subst e1
        exact cr_all hc pins s σ H _ us Q I r ⟨_, ns, rfl, by rw [← hK]; exact g2, h.val sm (.bl _)⟩
      · exact h.elim
    · exact h.elim
  · exact h.elim
theorem min_fold : ∀ (r : List Int) (i : Int), r.foldl min i ∈ i :: r ∧ ∀ y ∈ i :: r, r.foldl min i ≤ y
  | [], i => by simp
  | j :: r, i => by
    obtain ⟨h1, h2⟩ := min_fold r (min i j)
    simp only [List.foldl_cons]
    refine ⟨?_, fun y hy => ?_⟩
    · rcases List.mem_cons.mp h1 with e | h
      · rw [e]
        by_cases hij : i ≤ j
        · rw [Int.min_eq_left hij]; simp
        · rw [Int.min_eq_right (by omega)]; simp
      · simp [h]
    · have hm := h2 (min i j) (by simp)
      rcases List.mem_cons.mp hy with e | hy
      · subst e; exact Int.le_trans hm (Int.min_le_left _ _)
      · rcases List.mem_cons.mp hy with e | hy
        · subst e; exact Int.le_trans hm (Int.min_le_right _ _)
        · exact h2 y (by simp [hy])
theorem bi_min1 (hc : X.calm = true) : CallR X (.builtin "min") (StA X min1V) := by
  intro pins s σ H xs us Q I r h
  obtain ⟨G, W, σ', μ, vs, S, hK, sm, rs, h⟩ := h
  unfold min1V at h
  split at h
  · obtain ⟨x, rfl, rv⟩ := rs.one_inv
    cases rv with
    | obj hs =>
    split at h
    · rename_i eo
      obtain ⟨p, ys, g1, g2, g3⟩ := sm.lstR eo
      rw [hs] at g1; cases g1
      split at h
      · rename_i m en
        obtain ⟨ns, en, em⟩ := Option.bind_eq_some_iff.mp en
        obtain ⟨e1, e2⟩ := g3.ints en
        subst e1
        cases ns with
        | nil => cases em
        | cons i r' =>
          cases em
          obtain ⟨m1, m2⟩ := min_fold r' i
          refine cr_min hc pins s σ H _ us Q I r ⟨_, _, rfl, by rw [← hK]; exact g2, by simp, fun m hm hle => ?_⟩
          have : m = r'.foldl min i := Int.le_antisymm (hle _ m1) (m2 m hm)
          subst this
          exact h.val sm (.int _)
      · exact h.elim
    · exact h.elim
  · exact h.elim
theorem bi_min2 (hc : X.calm = true) : CallR X (.builtin "min") (StA X min2V) := by
  intro pins s σ H xs us Q I r h
  obtain ⟨G, W, σ', μ, vs, S, hK, sm, rs, h⟩ := h
  unfold min2V at h
  split at h
  · obtain ⟨x, y, rfl, r1, r2⟩ := rs.two_inv
    cases r1; cases r2
    exact call_min2 hc pins s σ H _ us Q I r ⟨_, _, rfl, h.val sm (.int _)⟩
  · exact h.elim
theorem bi_max2 (hc : X.calm = true) : CallR X (.builtin "max") (StA X max2V) := by
  intro pins s σ H xs us Q I r h
  obtain ⟨G, W, σ', μ, vs, S, hK, sm, rs, h⟩ := h
  unfold max2V at h
  split at h
  · obtain ⟨x, y, rfl, r1, r2⟩ := rs.two_inv
    cases r1; cases r2
    exact call_max2 hc pins s σ H _ us Q I r ⟨_, _, rfl, h.val sm (.int _)⟩
  · exact h.elim

/-! ## isinstance -/
def tyN : Ty → String
  | .int => "int" | .bool => "bool" | .str => "str" | .tuple => "tuple" | .list => "list" | .dict => "dict"
theorem kit_all (n : String) (t : Ty) (b : Bool) (K : PySem.W.Frag) (h : kitB n (tyN t) = some b) : PySem.W.kitOne K (.type n) (.type (tyN t)) = some b := kit_ty h
theorem isi_rel (sm : Sim G μ S H) {v : Val} {x : V} {t : Ty} {b : Bool} (r : RV μ H v x) (e : isiV t S v = some b) : ∃ n, TyX G.K H x (.type n) ∧ kitB n (tyN t) = some b := by
  cases v with
  | non => cases r; simp [isiV] at e; subst e; exact ⟨"NoneType", .base .non, by cases t <;> decide +kernel⟩
  | bl z => cases r; simp [isiV] at e; subst e; exact ⟨"bool", .base (.bl _), by cases t <;> decide +kernel⟩
  | int z => cases r; simp [isiV] at e; subst e; exact ⟨"int", .base (.int _), by cases t <;> decide +kernel⟩
  | str z => cases r with | str hs => simp [isiV] at e; subst e; exact ⟨"str", .base (.str _), by cases t <;> decide +kernel⟩
  | tup z => cases r with | tup hs tt => simp [isiV] at e; subst e; exact ⟨"tuple", .base (.tup hs), by cases t <;> decide +kernel⟩
  | obj i =>
    cases r with
    | obj hs =>
    simp only [isiV] at e
    split at e
    · rename_i l xs eo
      cases e
      obtain ⟨p, g1, g2⟩ := sm.ob i _ eo
      rw [hs] at g1; cases g1
      refine ⟨"list", ?_, by cases t <;> decide +kernel⟩
      cases l with
      | false => obtain ⟨ys, g2, _⟩ := g2; exact .base (.lst g2)
      | true =>
        obtain ⟨ys, g2, _⟩ := g2
        rcases g2 with ⟨o, g2⟩ | ⟨o, its, n, g2, g3, _⟩
        · exact .base (.frz g2)
        · exact .kList g2 g3
    · rename_i eo
      cases e
      obtain ⟨p, ys, g1, g2, _⟩ := sm.dK eo
      rw [hs] at g1; cases g1
      exact ⟨"dict", .base (.dK g2), by cases t <;> decide +kernel⟩
    · rename_i eo
      cases e
      obtain ⟨p, ys, g1, g2, _⟩ := sm.dT eo
      rw [hs] at g1; cases g1
      exact ⟨"dict", .base (.dT g2), by cases t <;> decide +kernel⟩
    · cases e
  | fn _ _ => cases r
theorem de_isi {e : Expr} {pa : PyE} {t : Ty} {a b : Expr} {te : TE} (hK : G.K = X.K) (ha : PE X a (lift G W (ev G' ft pa)))
    (h : PE X e (tCB (rIsi X.K) (tCons (lift G W (ev G' ft pa)) (tCons (tC (.ty (tyN t))) tNil)))) : PE X e (lift G W (ev G' ft (.bi (.isi t) (.cons pa .nil)))) := by
  refine h.imp fun σ H Q h => ?_
  have h2 := one (f := fun v _ S1 => Res.ofO ((isiV t S1 v).map Val.bl) S1) (k := Kv Q) (by
    obtain ⟨μ, env, S, s, e, h⟩ := h
    refine ⟨μ, env, S, s, e, ?_⟩
    simp only [ev, evA] at h
    have e2 : (((ev G' ft pa env S).bind fun x S1 => (Res.ok [] S1).bind fun xs S2 => Res.ok (x :: xs) S2).bind fun vs S1 => biV (Bi.isi t) S1 vs) = ((ev G' ft pa env S).bind fun x S1 => Res.ofO (Option.map Val.bl (isiV t S1 x)) S1) := by
      cases ev G' ft pa env S <;> rfl
    rw [e2] at h
    exact h)
  refine lift_mono h2 fun x H1 ⟨μ, env, v, S, s, e, r, q⟩ => ?_
  obtain ⟨b, eb, q⟩ := q.bool s
  obtain ⟨n, t1, t2⟩ := isi_rel s r eb
  rw [hK] at t1
  exact ⟨x, _, _, _, b, rfl, .ty _, t1, kit_all n t b _ t2, q⟩
/-- what isinstance asks of the class of an instance -/
structure InsI (K : PySem.W.Frag) (C : Addr) : Prop where
  cl : Cls K C
  ha : PySem.W.findIn K (.ref C) "__class__" = some (some (.builtin "object.__class__"))
  hn : PySem.W.specialIn K (.builtin "object.__class__") "__get__" = some (some (.builtin "getset_descriptor.__get__"))
  htk : PySem.W.takesIn K (.builtin "object.__class__") = some true
  hm : PySem.W.mroIn K C (.type "object") = some true
theorem de_isC {e : Expr} {pa : PyE} {j : Nat} (hK : G.K = X.K) (hi : ∀ c b, G'.isI j c = some b → InsI X.K (G.ca c) ∧ PySem.W.kitOne X.K (.ref (G.ca c)) (.ref (G.ca j)) = some b)
    (h : PE X e (tCB (rIsi X.K) (tCons (lift G W (ev G' ft pa)) (tCons (tC (.ref (G.ca j))) tNil)))) : PE X e (lift G W (ev G' ft (.isC j pa))) := by
  refine h.imp fun σ H Q h => ?_
  have h2 := one (f := fun v _ S1 => Res.ofO ((isCV G' j S1 v).map Val.bl) S1) (k := Kv Q) (by simp only [lift, ev] at h; exact h)
  refine lift_mono h2 fun x H1 ⟨μ, env, v, S, s, e, r, q⟩ => ?_
  obtain ⟨b, eb, q2⟩ := q.bool s
  unfold isCV at eb
  split at eb
  · split at eb
    · rename_i i c fs eo
      cases r with
      | obj hs =>
      obtain ⟨p, g1, dx, ys, g2, g3⟩ := s.ob _ _ eo
      rw [hs] at g1; cases g1
      obtain ⟨k1, k2⟩ := hi _ _ eb
      exact ⟨_, _, _, _, b, rfl, .own _, .base (.ins g2 k1.cl k1.ha k1.hn k1.htk k1.hm), k2, q2⟩
    · cases eb
  · cases eb
end
end Nw

set_option Elab.async false
set_option linter.all false
set_option maxRecDepth 100000
set_option maxHeartbeats 1000000
namespace Nw
open PySem L2

section
variable {α β : Type} {G : Cfg} {W : WX} {X : Cx} {σ : St} {μ : List Addr} {H : Hp} {S : Store} {Q : VK} {G' : Tab} {ft : Fns}

/-- a method's call by values -/
def StM (X : Cx) (f : Store → Val → List Val → Res Val) : V → List V → Hp → VK → Prop := fun x xs H Q => ∃ (G : Cfg) (W : WX) (σ : St) (μ : List Addr) (v : Val) (vs : List Val) (S : Store), G.K = X.K ∧ Sim G μ S H ∧ RV μ H v x ∧ RVs μ H vs xs ∧ After G W σ μ H (f S v vs) (Kv Q)
theorem bmGo_of {m : Bm} {v : Val} {k : Kd} (h : bmGo m S v = some k) : kdOf S v = some k ∧ bmK m k = true := by
  unfold bmGo at h
  cases e : kdOf S v with
  | none => rw [e] at h; cases h
  | some k' =>
    rw [e] at h
    simp only [Option.bind_some] at h
    split at h
    · rename_i e2; cases h; exact ⟨rfl, e2⟩
    · cases h
theorem bm_read {m : Bm} {pa ps : PyE} {T : Val → V → List Addr → Store → Hp → Prop} {R : V → List V → Hp → VK → Prop}
    (hT : ∀ μ S H v x k, Sim G μ S H → RV μ H v x → kdOf S v = some k → bmK m k = true → T v x μ S H)
    (hR : ∀ μ S H v x vs xs k (Q : VK), Sim G μ S H → RV μ H v x → RVs μ H vs xs → kdOf S v = some k → bmK m k = true → After G W σ μ H (bmV0 m S v vs) (Kv Q) → R x xs H Q)
    (h : lift G W (ev G' ft (.bm m pa ps)) σ H Q) : lift G W (ev G' ft pa) σ H fun x H1 => (∃ v μ S, T v x μ S H1) ∧ liftA G W (evA G' ft ps) σ H1 fun xs H2 => R x xs H2 Q := by
  have h2 := one (f := fun x env S1 => match bmGo m S1 x with
    | some k => (evA G' ft ps env S1).bind fun vs S2 => bmV m k S2 x vs
    | none => .no) (by simp only [lift, ev] at h; exact h)
  refine lift_mono h2 fun x H1 ⟨μ, env, v, S, s, e, r, q⟩ => ?_
  cases eg : bmGo m S v with
  | none => rw [eg] at q; exact q.elim
  | some k =>
    rw [eg] at q
    obtain ⟨k1, k2⟩ := bmGo_of eg
    refine ⟨⟨v, μ, S, hT μ S H1 v x k s r k1 k2⟩, μ, env, S, s, e, q.bind.imp fun vs μ1 S1 H2 u1 kp s1 h1 xs rxs => ?_⟩
    unfold bmV at h1
    split at h1
    · rename_i k3
      exact hR μ1 S1 H2 v x vs xs k Q s1 (r.mono u1 kp _ _) rxs k3 k2 h1
    · exact h1.elim
theorem ty_list (s : Sim G μ S H) {v : Val} {x : V} (r : RV μ H v x) (k : kdOf S v = some .list) : tyV G.K "list" x H := by
  unfold kdOf at k
  split at k
  · cases k
  · cases r with
    | obj hs =>
    split at k
    · rename_i eo
      obtain ⟨p, ys, g1, g2, _⟩ := s.lstR eo
      rw [hs] at g1; cases g1
      exact .inl ⟨rfl, ys, g2⟩
    · cases k
    · cases k
    · cases k
  · cases k
theorem ty_str (s : Sim G μ S H) {v : Val} {x : V} (r : RV μ H v x) (k : kdOf S v = some .str) : tyV G.K "str" x H := by
  unfold kdOf at k
  split at k
  · cases r; rfl
  · split at k <;> cases k
  · cases k
theorem ty_dict (s : Sim G μ S H) {v : Val} {x : V} (r : RV μ H v x) (k : kdOf S v = some .dict) : ∃ a, x = .ref a ∧ IsD H a := by
  unfold kdOf at k
  split at k
  · cases k
  · cases r with
    | obj hs =>
    split at k
    · cases k
    · rename_i eo
      obtain ⟨p, ys, g1, g2, _⟩ := s.dKR eo
      rw [hs] at g1; cases g1
      exact ⟨_, rfl, .inl ⟨ys, g2⟩⟩
    · rename_i eo
      obtain ⟨p, ys, g1, g2, _⟩ := s.dTR eo
      rw [hs] at g1; cases g1
      exact ⟨_, rfl, .inr ⟨ys, g2⟩⟩
    · cases k
  · cases k
/-- a method of a list or of a text, with arguments and without -/
theorem de_bmT {m : Bm} {e : Expr} {pa ps : PyE} {T : String} {k : Kd} (hK : G.K = X.K) (hk : ∀ k', bmK m k' = true → k' = k) (hT : ∀ {μ S H} {v : Val} {x : V}, Sim G μ S H → RV μ H v x → kdOf S v = some k → tyV G.K T x H)
    (h : PE X e (tBM X.K T (StM X (bmV0 m)) (lift G W (ev G' ft pa)) (liftA G W (evA G' ft ps)))) : PE X e (lift G W (ev G' ft (.bm m pa ps))) := by
  refine h.imp fun σ H Q h => ?_
  have h2 := bm_read (T := fun v x μ S H => tyV G.K T x H) (R := StM X (bmV0 m)) (fun μ S H v x k' s r h1 h2 => hT s r (hk k' h2 ▸ h1)) (fun μ S H v x vs xs k' Q s r rs _ _ q => ⟨G, W, σ, μ, v, vs, S, hK, s, r, rs, q⟩) h
  exact lift_mono h2 fun x H1 ⟨⟨_, _, _, ty⟩, q⟩ => ⟨by rw [← hK]; exact ty, q⟩
theorem de_bmT0 {m : Bm} {e : Expr} {pa : PyE} {T : String} {k : Kd} (hK : G.K = X.K) (hk : ∀ k', bmK m k' = true → k' = k) (hT : ∀ {μ S H} {v : Val} {x : V}, Sim G μ S H → RV μ H v x → kdOf S v = some k → tyV G.K T x H)
    (h : PE X e (tBM0 X.K T (StM X (bmV0 m)) (lift G W (ev G' ft pa)))) : PE X e (lift G W (ev G' ft (.bm m pa .nil))) := by
  refine h.imp fun σ H Q h => ?_
  have h2 := bm_read (T := fun v x μ S H => tyV G.K T x H) (R := StM X (bmV0 m)) (fun μ S H v x k' s r h1 h2 => hT s r (hk k' h2 ▸ h1)) (fun μ S H v x vs xs k' Q s r rs _ _ q => ⟨G, W, σ, μ, v, vs, S, hK, s, r, rs, q⟩) h
  refine lift_mono h2 fun x H1 ⟨⟨_, _, _, ty⟩, q⟩ => ⟨by rw [← hK]; exact ty, ?_⟩
  obtain ⟨μ, env, S, s, e, q⟩ := q
  simp only [evA] at q
  exact q.here s [] .nil

theorem Keep.lst {H : Hp} {p : Addr} {ys : List V} {o : HO} (g : H p = some (.lst ys)) : Keep H (L2.upd H p o) := Keep.upd g ⟨(by intro _ z; cases z), (by intro _ _ z; cases z)⟩
theorem Keep.dK {H : Hp} {p : Addr} {ys : List (Key × V)} {o : HO} (g : H p = some (.dK ys)) : Keep H (L2.upd H p o) := Keep.upd g ⟨(by intro _ z; cases z), (by intro _ _ z; cases z)⟩
theorem Keep.dT {H : Hp} {p : Addr} {ys : List (List Key × V)} {o : HO} (g : H p = some (.dT ys)) : Keep H (L2.upd H p o) := Keep.upd g ⟨(by intro _ z; cases z), (by intro _ _ z; cases z)⟩
theorem Keep.ins {H : Hp} {p C dx : Addr} {ys : List (Str × V)} {o : HO} (g : H p = some (.ins C dx ys)) : Keep H (L2.upd H p o) := Keep.upd g ⟨(by intro _ z; cases z), (by intro _ _ z; cases z)⟩
theorem mt_app : MtR X "list.append" (StM X appV) := by
  intro pins s σ H x xs u us Q I rx r h
  obtain ⟨G, W, σ', μ, v, vs, S, hK, sm, rv, rs, h⟩ := h
  unfold appV at h
  split at h
  · cases rv with
    | obj hs =>
    obtain ⟨y, rfl, ry⟩ := rs.one_inv
    split at h
    · rename_i xs' eo
      split at h
      · rename_i hl
        obtain ⟨p, ys, g1, g2, g3⟩ := sm.lst eo
        rw [hs] at g1; cases g1
        refine mt_append pins s σ H _ _ u us Q I rx r ⟨_, ys, y, rfl, rfl, g2, by rw [← line_eq, ← g3.length]; exact hl, ?_⟩
        exact h.put sm eo rfl rfl hs ⟨_, upd_same, (g3.app (.one ry)).mono (Up.refl _) (Keep.lst g2)⟩ .non
      · exact h.elim
    · exact h.elim
  · exact h.elim
theorem mt_ext : MtR X "list.extend" (StM X extV) := by
  intro pins s σ H x xs u us Q I rx r h
  obtain ⟨G, W, σ', μ, v, vs, S, hK, sm, rv, rs, h⟩ := h
  unfold extV at h
  split at h
  · cases rv with
    | obj hs =>
    obtain ⟨y, rfl, ry⟩ := rs.one_inv
    cases ry with
    | obj hs2 =>
    split at h
    · rename_i xs' ys' eo eo2
      split at h
      · rename_i hl
        obtain ⟨p, ys, g1, g2, g3⟩ := sm.lst eo
        rw [hs] at g1; cases g1
        obtain ⟨p2, zs, f1, f2, f3⟩ := sm.lst eo2
        rw [hs2] at f1; cases f1
        refine mt_extend pins s σ H _ _ u us Q I rx r ⟨_, _, ys, zs, rfl, rfl, g2, f2, by rw [← line_eq, ← g3.length, ← f3.length]; exact hl, ?_⟩
        exact h.put sm eo rfl rfl hs ⟨_, upd_same, (g3.app f3).mono (Up.refl _) (Keep.lst g2)⟩ .non
      · exact h.elim
    · exact h.elim
  · exact h.elim
theorem mt_pop0 : MtR X "list.pop" (StM X pop0V) := by
  intro pins s σ H x xs u us Q I rx r h
  obtain ⟨G, W, σ', μ, v, vs, S, hK, sm, rv, rs, h⟩ := h
  unfold pop0V at h
  split at h
  · cases rv with
    | obj hs =>
    cases rs
    split at h
    · rename_i xs' eo
      split at h
      · rename_i y ey
        obtain ⟨p, ys, g1, g2, g3⟩ := sm.lst eo
        rw [hs] at g1; cases g1
        obtain ⟨z, ez, rz⟩ := g3.get ey
        refine mt_pop pins s σ H _ _ u us Q I rx r ⟨_, ys, z, rfl, rfl, g2, by rw [← g3.length]; exact ez, ?_⟩
        exact h.put sm eo rfl rfl hs ⟨_, upd_same, g3.dropLast.mono (Up.refl _) (Keep.lst g2)⟩ rz
      · exact h.elim
    · exact h.elim
  · exact h.elim
theorem mt_popL : MtR X "list.pop" (StM X popLV) := by
  intro pins s σ H x xs u us Q I rx r h
  obtain ⟨G, W, σ', μ, v, vs, S, hK, sm, rv, rs, h⟩ := h
  unfold popLV at h
  split at h
  · cases rv with
    | obj hs =>
    obtain ⟨y, rfl, ry⟩ := rs.one_inv
    cases ry
    split at h
    · rename_i xs' eo
      split at h
      · rename_i hk
        split at h
        · rename_i y ey
          obtain ⟨p, ys, g1, g2, g3⟩ := sm.lst eo
          rw [hs] at g1; cases g1
          obtain ⟨z, ez, rz⟩ := g3.get ey
          have hlt := (List.getElem?_eq_some_iff.mp ez).1
          refine mt_popAt pins s σ H _ _ u us Q I rx r ⟨_, ys, _, _, z, rfl, rfl, g2, by omega, by omega, seqIndex_of hk.1 (by omega), ez, ?_⟩
          exact h.put sm eo rfl rfl hs ⟨_, upd_same, (g3.erase _).mono (Up.refl _) (Keep.lst g2)⟩ rz
        · exact h.elim
      · exact h.elim
    · exact h.elim
  · exact h.elim
theorem mt_clr : MtR X "list.clear" (StM X clearV) := by
  intro pins s σ H x xs u us Q I rx r h
  obtain ⟨G, W, σ', μ, v, vs, S, hK, sm, rv, rs, h⟩ := h
  unfold clearV at h
  split at h
  · cases rv with
    | obj hs =>
    cases rs
    split at h
    · rename_i xs' eo
      obtain ⟨p, ys, g1, g2, g3⟩ := sm.lst eo
      rw [hs] at g1; cases g1
      refine mt_clear pins s σ H _ _ u us Q I rx r ⟨_, ys, rfl, rfl, g2, ?_⟩
      exact h.put sm eo rfl rfl hs ⟨_, upd_same, .nil⟩ .non
    · exact h.elim
  · exact h.elim
theorem mt_rev : MtR X "list.reverse" (StM X revV) := by
  intro pins s σ H x xs u us Q I rx r h
  obtain ⟨G, W, σ', μ, v, vs, S, hK, sm, rv, rs, h⟩ := h
  unfold revV at h
  split at h
  · cases rv with
    | obj hs =>
    cases rs
    split at h
    · rename_i xs' eo
      obtain ⟨p, ys, g1, g2, g3⟩ := sm.lst eo
      rw [hs] at g1; cases g1
      refine mt_reverse pins s σ H _ _ u us Q I rx r ⟨_, ys, rfl, rfl, g2, ?_⟩
      exact h.put sm eo rfl rfl hs ⟨_, upd_same, g3.rev.mono (Up.refl _) (Keep.lst g2)⟩ .non
    · exact h.elim
  · exact h.elim
theorem mt_idx : MtR X "list.index" (StM X indexV) := by
  intro pins s σ H x xs u us Q I rx r h
  obtain ⟨G, W, σ', μ, v, vs, S, hK, sm, rv, rs, h⟩ := h
  unfold indexV at h
  split at h
  · cases rv with
    | obj hs =>
    obtain ⟨y, rfl, ry⟩ := rs.one_inv
    split at h
    · rename_i l xs' eo
      split at h
      · rename_i hf
        simp only [Bool.and_eq_true] at hf
        split at h
        · rename_i j ej
          obtain ⟨p, ys, g1, g2, g3⟩ := sm.lstR eo
          rw [hs] at g1; cases g1
          obtain ⟨hj, h1, h2⟩ := List.findIdx?_eq_some_iff_getElem.mp ej
          have e1 : xs'[j]? = some xs'[j] := List.getElem?_eq_getElem hj
          obtain ⟨z, ez, rz⟩ := g3.get e1
          have fl : ∀ (m : Nat) (hm : m < xs'.length), flat xs'[m] = true := fun m hm => List.all_eq_true.mp hf.2 _ (List.getElem_mem hm)
          refine mt_index pins s σ H _ _ u us Q I rx r ⟨_, ys, y, j, z, rfl, rfl, by rw [← hK]; exact g2, flat_rel ry hf.1, flats_rel g3 hf.2, ez, ?_, fun m z' hm em => ?_, h.val sm (.int _)⟩
          · rw [← eqF_rel rz ry (fl j hj) hf.1]; exact h1
          · have hm' : m < xs'.length := by omega
            obtain ⟨z2, e2, r2⟩ := g3.get (List.getElem?_eq_getElem hm')
            rw [em] at e2; cases e2
            rw [← eqF_rel r2 ry (fl m hm') hf.1]
            exact eq_false_of_ne_true (h2 m hm)
        · exact h.elim
      · exact h.elim
    · exact h.elim
  · exact h.elim
theorem mt_rem : MtR X "list.remove" (StM X removeV) := by
  intro pins s σ H x xs u us Q I rx r h
  obtain ⟨G, W, σ', μ, v, vs, S, hK, sm, rv, rs, h⟩ := h
  unfold removeV at h
  split at h
  · cases rv with
    | obj hs =>
    obtain ⟨y, rfl, ry⟩ := rs.one_inv
    cases ry
    split at h
    · rename_i xs' eo
      split at h
      · rename_i ns en
        split at h
        · rename_i j ej
          obtain ⟨p, ys, g1, g2, g3⟩ := sm.lst eo
          rw [hs] at g1; cases g1
          obtain ⟨e1, e2⟩ := g3.ints en
          subst e1
          obtain ⟨hj, h1, h2⟩ := List.findIdx?_eq_some_iff_getElem.mp ej
          refine mt_remove pins s σ H _ _ u us Q I rx r ⟨_, ns, _, j, rfl, rfl, g2, ?_, fun m hm em => ?_, ?_⟩
          · rw [List.getElem?_eq_getElem hj, beq_iff_eq.mp h1]
          · have hm' : m < ns.length := by omega
            rw [List.getElem?_eq_getElem hm'] at em
            exact h2 m hm (by simpa using em)
          · exact h.put sm eo rfl rfl hs ⟨_, upd_same, RVs.of_ints _⟩ .non
        · exact h.elim
      · exact h.elim
    · exact h.elim
  · exact h.elim
/-! list.count of a truth among truths -/
def eqb (b : Bool) (v : Value) : Bool := match v with
  | .bool c => c == b
  | _ => false
theorem eqb_gives {A : Around} {s : Shared} {b : Bool} : ∀ {ns : List Bool} {us : List Value}, Vals (ns.map V.bl) us → ∀ y ∈ us, SeqAt.EqAt A s y (.bool b) (eqb b y)
  | [], _, .nil => fun y hy => by cases hy
  | n :: ns, _, .cons r h => fun y hy => by
    rcases List.mem_cons.mp hy with e | e
    · have r' : _ = Value.bool n := r
      rw [e, r']
      exact SeqAt.EqAt.bool_bool n b
    · exact eqb_gives h y e
theorem eqb_count {b : Bool} : ∀ {ns : List Bool} {us : List Value}, Vals (ns.map V.bl) us → us.countP (eqb b) = ns.count b
  | [], _, .nil => rfl
  | n :: ns, _, .cons r h => by
    have ih := eqb_count (b := b) h
    have r' : _ = Value.bool n := r
    subst r'
    rw [List.countP_cons, List.count_cons, ih]
    rfl
theorem mt_lcountB : MtR X "list.count" (fun x xs H Q => ∃ (p : Addr) (ns : List Bool) (b : Bool), x = .ref p ∧ xs = [.bl b] ∧ SqL X.K H p (ns.map V.bl) ∧ Q (.int (ns.count b : Nat)) H) := by
  intro pins s σ H x xs v us Q I rx rxs h
  obtain ⟨p, ns, b, rfl, rfl, hs, q⟩ := h
  cases rx
  obtain ⟨u, rfl, ru⟩ := rxs.one
  obtain rfl : u = Value.bool b := ru
  obtain ⟨its, rv, ⟨⟨cls, dd, data, sl⟩, n, ho, hc, hdn, hd⟩, hlen⟩ := I.list hs
  simp only at hc hd
  subst hc hd
  refine call_meets PySem.F.slot_list_count ⟨_, ho, rfl⟩ PySem.F.entry_list_count (PySem.F.args_list_count_2 _ _)
    (SeqAt.list_countAt p its.toArray n dd sl (.bool b) (eqb b)) ⟨ho, fun y hy => eqb_gives rv y (by simpa using hy), ?_⟩
  have ec : its.toArray.toList.countP (eqb b) = ns.count b := eqb_count rv
  refine ⟨.int (ns.count b : Nat), H, I.tok _, ⟨s.toks, ?_⟩, q⟩
  show Value.int ((its.toArray.toList.countP (eqb b) : Nat) : Int) s.toks = Value.int ((ns.count b : Nat) : Int) s.toks
  rw [ec]
/-! list.count of a text among texts -/
theorem cnt_same (b : Str) : ∀ ns : List Str, Spec.countIn (.str b) (ns.map PyData.str) = ((ns.count b : Nat) : Int)
  | [] => rfl
  | n :: ns => by
    have ih := cnt_same b ns
    rw [List.map_cons, Spec.countIn, ih, List.count_cons]
    simp only [Spec.same]
    rcases Bool.eq_false_or_eq_true (n == b) with hb | hb <;> simp only [hb, Bool.false_eq_true, if_true, if_false] <;> push_cast <;> omega
theorem mt_lcountT : MtR X "list.count" (fun x xs H Q => ∃ (p : Addr) (ns : List Str) (b : Str), x = .ref p ∧ xs = [.str b] ∧ SqL X.K H p (ns.map V.str) ∧ Q (.int (ns.count b : Nat)) H) := by
  intro pins s σ H x xs v us Q I rx rxs h
  obtain ⟨p, ns, b, rfl, rfl, hs, q⟩ := h
  cases rx
  obtain ⟨u, rfl, ru⟩ := rxs.one
  obtain ⟨t, rfl⟩ := ru
  obtain ⟨its, rv, hl, hlen⟩ := I.list hs
  obtain ⟨o, n, ho, hc, hdn, hd⟩ := hl
  refine PyProof.Rows.count_list_strs ⟨o, ho, hc, n, hd⟩ (strs_of_vals rv) ?_
  rw [cnt_same]
  exact ⟨.int (ns.count b : Nat), H, I.tok _, ⟨s.toks, rfl⟩, q⟩
theorem mt_cnt : MtR X "list.count" (StM X countV) := by
  intro pins s σ H x xs u us Q I rx r h
  obtain ⟨G, W, σ', μ, v, vs, S, hK, sm, rv, rs, h⟩ := h
  unfold countV at h
  split at h
  · cases rv with
    | obj hs =>
    obtain ⟨y, rfl, ry⟩ := rs.one_inv
    cases ry
    split at h
    · rename_i xs' eo
      split at h
      · rename_i ns en
        obtain ⟨p, ys, g1, g2, g3⟩ := sm.lstR eo
        rw [hs] at g1; cases g1
        obtain ⟨e1, e2⟩ := g3.ints en
        subst e1
        exact mt_lcount pins s σ H _ _ u us Q I rx r ⟨_, ns, _, rfl, rfl, by rw [← hK]; exact g2, h.val sm (.int _)⟩
      · exact h.elim
    · exact h.elim
  · cases rv with
    | obj hs =>
    obtain ⟨y, rfl, ry⟩ := rs.one_inv
    cases ry
    split at h
    · rename_i xs' eo
      split at h
      · rename_i ns en
        obtain ⟨p, ys, g1, g2, g3⟩ := sm.lstR eo
        rw [hs] at g1; cases g1
        have e1 := g3.bools en
        subst e1
        exact mt_lcountB pins s σ H _ _ u us Q I rx r ⟨_, ns, _, rfl, rfl, by rw [← hK]; exact g2, h.val sm (.int _)⟩
      · exact h.elim
    · exact h.elim
  · cases rv with
    | obj hs =>
    obtain ⟨y, rfl, ry⟩ := rs.one_inv
    cases ry
    split at h
    · rename_i xs' eo
      split at h
      · rename_i ns en
        obtain ⟨p, ys, g1, g2, g3⟩ := sm.lstR eo
        rw [hs] at g1; cases g1
        obtain ⟨e1, _, _⟩ := g3.strs en
        subst e1
        exact mt_lcountT pins s σ H _ _ u us Q I rx r ⟨_, ns, _, rfl, rfl, by rw [← hK]; exact g2, h.val sm (.int _)⟩
      · exact h.elim
    · exact h.elim
  · exact h.elim
theorem mt_sw : MtR X "str.startswith" (StM X startsV) := by
  intro pins s σ H x xs u us Q I rx r h
  obtain ⟨G, W, σ', μ, v, vs, S, hK, sm, rv, rs, h⟩ := h
  unfold startsV at h
  split at h
  · cases rv
    obtain ⟨y, rfl, ry⟩ := rs.one_inv
    cases ry
    exact mt_startswith pins s σ H _ _ u us Q I rx r ⟨_, _, rfl, rfl, h.val sm (.bl _)⟩
  · exact h.elim
theorem mt_alpha : MtR X "str.isalpha" (StM X isalphaV) := by
  intro pins s σ H x xs u us Q I rx r h
  obtain ⟨G, W, σ', μ, v, vs, S, hK, sm, rv, rs, h⟩ := h
  unfold isalphaV at h
  split at h
  · cases rv
    cases rs
    exact mt_isalpha pins s σ H _ _ u us Q I rx r ⟨_, rfl, rfl, trivial, h.val sm (.bl _)⟩
  · exact h.elim
end
end Nw

set_option Elab.async false
set_option linter.all false
set_option maxRecDepth 100000
set_option maxHeartbeats 1000000
namespace Nw
open PySem L2 PySem.Spec PyProof.Rows

/-! ## d.pop(k), k a tuple -/
section
variable {prog : Program} {w : World} {K : Type} [DecidableEq K] {knd : HeapKind prog w K} {A : Around} {E : Value → Shared → Prop} {s : Shared}
theorem popH_meets {d b : Addr} {k : K} (hd : (d == sysModules) = false) :
    MeetsIn prog w (Builtin.«dict.pop» ⟨[.ref d, .ref b], []⟩) (fun A R s => ∃ xs p, knd.room A.in1 ∧ knd.is s.heap k b ∧ s.heap.DictOfH knd d xs ∧ xs.length ≤ sizeLine ∧ atKey xs k = some p ∧
      ∀ h' tk, h'.DictOfH knd d (DT.dropH xs k) → Heap.SameBut d s.heap h' → R (.ok (.ret p.2)) { s with heap := h', toks := tk }) :=
  .of_wp fun A R s ⟨xs, p, hu, hk, hm, hl, hp, q⟩ => by
    obtain ⟨o, es, ep, ho, hc, hdat, he, his, hn⟩ := id hm
    have hes := size_of_entries he
    have hne : es.isEmpty = false := by
      cases xs with
      | nil => simp [atKey] at hp
      | cons x r =>
        have : es.size ≠ 0 := by rw [hes]; simp
        simpa using this
    have hpart : (keyPart (Value.ref b)).isSome = false := rfl
    unfold Builtin.«dict.pop»
    refine wpAny_bind ?_
    unfold Builtin.Dict.keyAndDefault
    refine wpAny_bind (wpAny_notOrdered_dict hm.typeIs ?_)
    refine wpAny_pure (a := (d, Value.ref b, none)) ?_
    simp only [hpart, Bool.false_eq_true, if_false]
    refine wpAny_bind (wpAny_dictEntries ho hdat (wpAny_bind (wpAny_pure ?_)))
    rw [hne]
    simp only [Bool.false_eq_true, if_false]
    refine wpAny_bind (DT.takeH hu hk hm hl (fun z => by rw [hp] at z; cases z) fun p' e hp' ev h' hm' hs' => ?_)
    rw [hp] at hp'
    cases hp'
    simp only [Option.isNone_some, Bool.false_eq_true, if_false]
    exact wpAny_bind (wpAny_letGo (wpAny_pure ⟨e.val, rfl, by rw [ev]; exact q h' _ hm' hs'⟩))
end
section
variable {X : Cx} {pins : List (Addr × PySem.Obj)} {σ : L2.St} {H : Hp} {s : Shared} {A : Around} {E : Value → Shared → Prop}
theorem popT1 {a b : Addr} {kvs : List (List L2.Key × V)} {k : List L2.Key} {v : V} {Q : Value → Shared → Prop} (hu : A.units + 1 < cLine) (I : L2.Inv X pins σ H s) (ha : H a = some (.dT kvs)) (hb : H b = some (.tup (k.map kV))) (hv : valV kvs k = some v)
    (q : ∀ u s', L2.Inv X pins σ (upd H a (.dT (dropK kvs k))) s' → RelV v u → Q u s') : wpAny (model X.prog X.w) A (call (.builtin "dict.pop") [.ref a, .ref b]) Q E s := by
  obtain ⟨z, hd, xs, rel, dd⟩ := dt_of I.hok ha
  have hl : xs.length ≤ sizeLine := by rw [← Paired.length rel]; exact z
  have r := rel.val k
  rw [hv] at r
  obtain ⟨p, hp⟩ : ∃ p, atKey xs k = some p := by
    cases e : atKey xs k with
    | none => rw [e] at r; exact (show False from r).elim
    | some p => exact ⟨p, rfl⟩
  rw [hp] at r
  refine call_meetsIn PySem.F.slot_dict_pop dd.typeIs PySem.F.entry_dict_pop (PySem.F.args_dict_pop_2 _ _) (popH_meets (knd := tupleKind (mixKind X.prog X.w)) (k := k) hd)
    ⟨xs, p, tupleKind_room_in1 hu, key_of I.hok hb, dd, hl, hp, fun h' tk dd' hs => ?_⟩
  obtain ⟨o, es, ep, g1, g2, g3, g4, _, g5⟩ := dd'
  exact q p.2 _ (d_write I (by rw [ha]; exact True.intro) hs ⟨o, g1⟩ ⟨Nat.le_trans (dropK_le kvs k) z, hd, _, (DX.KT_drop k rel).keeps (fun c ys ec => (by rw [upd_ne (ne_of ec ha (fun z => nomatch z))]; exact ec)), o, es, ep, g1, g2, g3, g4, g5⟩) r
variable {o e : Expr} {apos cpos : Pos} {td ty : TE}
/-- d.pop(k), the key there -/
def tPop1 (td ty : TE) : TE := fun σ H Q => td σ H fun x H1 => ∃ a, x = .ref a ∧ IsD H1 a ∧ ty σ H1 fun y H2 => (∃ kvs k v, H2 a = some (.dK kvs) ∧ y = kV k ∧ valV kvs k = some v ∧ Q v (upd H2 a (.dK (dropK kvs k)))) ∨
  ∃ kvs k b v, H2 a = some (.dT kvs) ∧ y = .ref b ∧ H2 b = some (.tup (k.map kV)) ∧ valV kvs k = some v ∧ Q v (upd H2 a (.dT (dropK kvs k)))
theorem pe_pop1 (hu : X.A.units + 1 < cLine) (ho : PE X o td) (he : PE X e ty) (m : M1 X o "pop" apos e cpos) : PE X (.Call (.Attribute o "pop" apos) [e] [] cpos) (tPop1 td ty) := by
  refine ⟨fun pins s σ H Q I h => ?_⟩
  refine wpAny_Call_method m.base m.few m.line PySem.F.plainAttrs_dict PySem.F.slot_dict_pop PySem.F.type_dict_pop (thn (ho.run pins s σ H _ I h) fun u s1 ⟨x, H1, I1, rx, a, ex, d, q1⟩ => ?_)
  subst ex
  obtain rfl : u = Value.ref a := rx
  obtain ⟨t1, t2, _⟩ := isD_at I1 d
  refine ⟨t1, t2, ?_⟩
  rw [m.trees]
  refine Calls.callWith_builtin rfl (Calls.evalArgs_plain (Calls.spliced_cons (thn (he.run pins s1 σ H1 _ I1 q1) fun iv s2 ⟨y, H2, I2, ry, q2⟩ => Calls.spliced_nil ?_)))
  rcases q2 with ⟨kvs, k, v, ea, ey, l, q2⟩ | ⟨kvs, k, b, v, ea, ey, eb, l, q2⟩
  · subst ey
    exact d_pop I2 ea ry l (.inl rfl) fun w' s3 I3 rw' => ⟨v, _, I3, rw', q2⟩
  · subst ey
    obtain rfl : iv = Value.ref b := ry
    exact popT1 hu I2 ea eb l fun w' s3 I3 rw' => ⟨v, _, I3, rw', q2⟩
end
end Nw

set_option Elab.async false
set_option linter.all false
set_option maxRecDepth 100000
set_option maxHeartbeats 1000000
namespace Nw
open PySem L2
section
open PySem.Spec PyProof.Rows
/-! d.pop(None, x) -/
theorem pairs_none {P : Program} {w : World} {es : List DictEntry} {vs : List (Key × Value)} (p : Pairs (mixKind P w) es vs) : Pairs (noneKind P w) es (vs.map fun kv => (some kv.1, kv.2)) := by
  induction p with
  | nil => exact .nil
  | cons h1 h2 _ ih => exact .cons h1 h2 ih
theorem dict_none {P : Program} {w : World} {h : Heap} {a : Addr} {vs : List (Key × Value)} (d : h.DictOf (mixKind P w) a vs) : h.DictOf (noneKind P w) a (vs.map fun kv => (some kv.1, kv.2)) := by
  obtain ⟨o, es, ep, ho, hx, hdt, hk, hp, hn⟩ := d
  refine ⟨o, es, ep, ho, hx, hdt, fun e he => ?_, pairs_none hp, ?_⟩
  · obtain ⟨k, h1, h2⟩ := hk e he
    exact ⟨some k, h1, h2⟩
  · have : ((vs.map fun kv => ((some kv.1 : Option Key), kv.2)).map (·.1)) = (vs.map (·.1)).map some := by rw [List.map_map, List.map_map]; rfl
    rw [this]
    exact List.Pairwise.map _ (fun a b h e => h (Option.some.inj e)) hn
theorem none_at : ∀ (vs : List (Key × Value)), valueAt (vs.map fun kv => ((some kv.1 : Option Key), kv.2)) none = none
  | [] => rfl
  | (k, v) :: vs => by
    have ih := none_at vs
    unfold valueAt at ih ⊢
    rw [List.map_cons, List.find?_cons]
    simpa using ih
section
variable {X : Cx} {pins : List (Addr × PySem.Obj)} {σ : L2.St} {H : Hp} {s : Shared} {a : Addr} {kvs : List (Key × V)} {A : Around} {E : Value → Shared → Prop}
theorem d_popN {r : Value} {Q : Value → Shared → Prop} (I : L2.Inv X pins σ H s) (e : H a = some (.dK kvs)) (h : ∀ s', L2.Inv X pins σ H s' → Q r s') :
    wpAny (model X.prog X.w) A (call (.builtin "dict.pop") [.ref a, .none, r]) Q E s := by
  obtain ⟨z, hd, vs, rel, dd⟩ := dk_of I.hok e
  have dn := dict_none dd
  exact call_meetsIn PySem.F.slot_dict_pop dd.typeIs PySem.F.entry_dict_pop (PySem.F.args_dict_pop_3 _ _ _) (meets_dict_pop_default (noneKind X.prog X.w) (k := none) a (show (noneKind X.prog X.w).is none Value.none = true from rfl) hd rfl r) ⟨_, dn, none_at vs, h _ (I.tok _)⟩
end
def tDPop3 (td ty tx : TE) : TE := fun σ H Q => td σ H fun x H1 => ∃ a, x = .ref a ∧ IsD H1 a ∧ ty σ H1 fun y H2 => tx σ H2 fun z H3 => ∃ kvs, H3 a = some (.dK kvs) ∧ ((∃ k, y = kV k ∧
  (∀ v, valV kvs k = some v → Q v (upd H3 a (.dK (dropK kvs k)))) ∧ (valV kvs k = none → Q z H3)) ∨ (y = .non ∧ Q z H3))
section
variable {X : Cx} {o e f : Expr} {apos cpos : Pos} {td ty tx : TE}
theorem pe_dpop3 (ho : PE X o td) (he : PE X e ty) (hf : PE X f tx) (m : M2 X o "pop" apos e f cpos) : PE X (.Call (.Attribute o "pop" apos) [e, f] [] cpos) (tDPop3 td ty tx) := by
  refine ⟨fun pins s σ H Q I h => ?_⟩
  refine wpAny_Call_method m.base m.few m.line PySem.F.plainAttrs_dict PySem.F.slot_dict_pop PySem.F.type_dict_pop (thn (ho.run pins s σ H _ I h) fun u s1 ⟨x, H1, I1, rx, a, ex, d, q1⟩ => ?_)
  subst ex
  obtain rfl : u = Value.ref a := rx
  obtain ⟨t1, t2, _⟩ := isD_at I1 d
  refine ⟨t1, t2, ?_⟩
  rw [m.trees]
  refine Calls.callWith_builtin rfl (Calls.evalArgs_plain (Calls.spliced_cons (thn (he.run pins s1 σ H1 _ I1 q1) fun iv s2 ⟨y, H2, I2, ry, q2⟩ =>
    Calls.spliced_cons (thn (hf.run pins s2 σ H2 _ I2 q2) fun fv s3 ⟨z, H3, I3, rz, kvs, ea, q3⟩ => Calls.spliced_nil ?_))))
  rcases q3 with ⟨k, ey, q3, q4⟩ | ⟨ey, q3⟩
  · subst ey
    cases l : valV kvs k with
    | some v => exact d_pop I3 ea ry l (.inr ⟨fv, rfl⟩) fun w' s4 I4 rw' => ⟨v, _, I4, rw', q3 v l⟩
    | none => exact d_popD I3 ea ry l fun s4 I4 => ⟨z, H3, I4, rz, q4 l⟩
  · subst ey
    obtain rfl : iv = Value.none := ry
    exact d_popN I3 ea fun s4 I4 => ⟨z, H3, I4, rz, q3⟩
end
end

section
variable {α β : Type} {G : Cfg} {W : WX} {X : Cx} {σ : St} {μ : List Addr} {H : Hp} {S : Store} {Q : VK} {G' : Tab} {ft : Fns}
variable {o e f : Expr} {pa pb pc : PyE} {apos cpos : Pos}

theorem liftA_one {F : List V → Hp → Prop} (h : liftA G W (evA G' ft (.cons pa .nil)) σ H F) : lift G W (ev G' ft pa) σ H fun y H2 => F [y] H2 := by
  have h2 := one (f := fun x env S1 => (evA G' ft .nil env S1).bind fun xs S2 => .ok (x :: xs) S2) (by simp only [liftA, evA] at h; exact h)
  refine lift_mono h2 fun x H1 ⟨μ, env, v, S, s, e, r, q⟩ => ?_
  simp only [evA, Res.bind_ok] at q
  exact q.here s _ (.cons r .nil)
theorem liftA_two {F : List V → Hp → Prop} (h : liftA G W (evA G' ft (.cons pa (.cons pb .nil))) σ H F) : lift G W (ev G' ft pa) σ H fun y H2 => lift G W (ev G' ft pb) σ H2 fun z H3 => F [y, z] H3 := by
  have h2 := two (f := fun x y env S1 => .ok [x, y] S1) (ma := ev G' ft pa) (mb := ev G' ft pb) (α := List Val) (G := G) (W := W) (σ := σ) (H := H) (k := fun vs μ' _ H' => ∀ xs, RVs μ' H' vs xs → F xs H') (by
    obtain ⟨μ, env, S, s, e, h⟩ := h
    refine ⟨μ, env, S, s, e, ?_⟩
    simp only [evA, Res.bind_ok] at h
    have eq : ∀ (r : Res Val) (f : Val → Store → Res (List Val)) (x : Val), (r.bind f).bind (fun xs S2 => .ok (x :: xs) S2) = r.bind fun a S => (f a S).bind fun xs S2 => .ok (x :: xs) S2 := by
      intro r f x
      cases r <;> rfl
    simp only [eq, Res.bind_ok] at h
    exact h)
  refine lift_mono h2 fun x H1 h3 => lift_mono h3 fun y H2 ⟨μ, env, v, w, S, s, e, r1, r2, q⟩ => ?_
  exact q.here s _ (.cons r1 (.cons r2 .nil))

abbrev TDict : Val → V → List Addr → Store → Hp → Prop := fun _ x _ _ H => ∃ a, x = .ref a ∧ IsD H a
def RGet1 : V → List V → Hp → VK → Prop := fun x xs H Q => ∃ y a o, xs = [y] ∧ x = .ref a ∧ DGet H a y o ∧ Q (o.getD .non) H
def RGet2 : V → List V → Hp → VK → Prop := fun x xs H Q => ∃ y z a o, xs = [y, z] ∧ x = .ref a ∧ DGet H a y o ∧ Q (o.getD z) H
theorem getV_rel {v w d : Val} {x y z : V} (h : After G W σ μ H (getV S v w d) (Kv Q)) (sm : Sim G μ S H) (rv : RV μ H v x) (ry : RV μ H w y) (rz : RV μ H d z) : ∃ a o, x = .ref a ∧ DGet H a y o ∧ Q (o.getD z) H := by
  unfold getV at h
  split at h
  · cases rv with
    | obj hs =>
    split at h
    · rename_i eo
      obtain ⟨u, e1, e2⟩ := h.ofO
      cases ek : keyOf w with
      | none => rw [ek] at e1; cases e1
      | some k =>
      rw [ek] at e1
      simp only [Option.map_some] at e1
      cases e1
      obtain ⟨ys, _, g1, g2⟩ := dget_k sm eo hs ry ek
      refine ⟨_, _, rfl, g2, ?_⟩
      obtain ⟨l1, l2⟩ := g1.look k
      cases el : look _ k with
      | none => rw [el] at e2; rw [l2 el]; exact e2.val sm rz
      | some u =>
        obtain ⟨x, l3, l4⟩ := l1 u el
        rw [el] at e2; rw [l3]; exact e2.val sm l4
    · rename_i eo
      obtain ⟨u, e1, e2⟩ := h.ofO
      cases ek : keysOf w with
      | none => rw [ek] at e1; cases e1
      | some k =>
      rw [ek] at e1
      simp only [Option.map_some] at e1
      cases e1
      obtain ⟨ys, _, g1, g2⟩ := dget_t sm eo hs ry ek
      refine ⟨_, _, rfl, g2, ?_⟩
      obtain ⟨l1, l2⟩ := g1.look k
      cases el : look _ k with
      | none => rw [el] at e2; rw [l2 el]; exact e2.val sm rz
      | some u =>
        obtain ⟨x, l3, l4⟩ := l1 u el
        rw [el] at e2; rw [l3]; exact e2.val sm l4
    · exact h.elim
  · exact h.elim
theorem bmK_dict {m : Bm} (h : bmK m .dict = true) {k : Kd} (hm : ∀ k', bmK m k' = true → k' = .dict) (h2 : bmK m k = true) : k = .dict := hm k h2
theorem de_get1 (hu : X.A.units + 1 < cLine) (ho : PE X o (lift G W (ev G' ft pa))) (he : PE X e (lift G W (ev G' ft pb))) (m : M1 X o "get" apos e cpos) : PE X (.Call (.Attribute o "get" apos) [e] [] cpos) (lift G W (ev G' ft (.bm .get1 pa (.cons pb .nil)))) := by
  refine (pe_dget1 hu ho he m).imp fun σ H Q h => ?_
  have h2 := bm_read (T := TDict) (R := RGet1) (fun μ S H v x k s r h1 h2 => ty_dict s r (by rw [h1]; cases k <;> first | rfl | cases h2)) (fun μ S H v x vs xs k Q sm rv rs _ _ q => by
    unfold bmV0 get1V at q
    simp only at q
    split at q
    · obtain ⟨y, rfl, ry⟩ := rs.one_inv
      obtain ⟨a, o, h1, h2, h3⟩ := getV_rel q sm rv ry .non
      exact ⟨y, a, o, rfl, h1, h2, h3⟩
    · exact q.elim) h
  refine lift_mono h2 fun x H1 ⟨⟨_, _, _, a, e1, e2⟩, q⟩ => ⟨a, e1, e2, lift_mono (liftA_one q) fun y H2 ⟨y', a', o, h1, h3, h4, h5⟩ => ?_⟩
  cases h1
  rw [e1] at h3; cases h3
  exact ⟨o, h4, h5⟩
theorem de_get2 (hu : X.A.units + 1 < cLine) (ho : PE X o (lift G W (ev G' ft pa))) (he : PE X e (lift G W (ev G' ft pb))) (hf : PE X f (lift G W (ev G' ft pc))) (m : M2 X o "get" apos e f cpos) : PE X (.Call (.Attribute o "get" apos) [e, f] [] cpos) (lift G W (ev G' ft (.bm .get2 pa (.cons pb (.cons pc .nil))))) := by
  refine (pe_dget2 hu ho he hf m).imp fun σ H Q h => ?_
  have h2 := bm_read (T := TDict) (R := RGet2) (fun μ S H v x k s r h1 h2 => ty_dict s r (by rw [h1]; cases k <;> first | rfl | cases h2)) (fun μ S H v x vs xs k Q sm rv rs _ _ q => by
    unfold bmV0 get2V at q
    simp only at q
    split at q
    · obtain ⟨y, z, rfl, ry, rz⟩ := rs.two_inv
      obtain ⟨a, o, h1, h2, h3⟩ := getV_rel q sm rv ry rz
      exact ⟨y, z, a, o, rfl, h1, h2, h3⟩
    · exact q.elim) h
  refine lift_mono h2 fun x H1 ⟨⟨_, _, _, a, e1, e2⟩, q⟩ => ⟨a, e1, e2, lift_mono (liftA_two q) fun y H2 q2 => lift_mono q2 fun z H3 ⟨y', z', a', o, h1, h3, h4, h5⟩ => ?_⟩
  cases h1
  rw [e1] at h3; cases h3
  exact ⟨o, h4, h5⟩
theorem drop_ok {kvs : List (Key × Val)} {k : Key} (h : ∀ p ∈ kvs, kOk p.1 = true) : ∀ p ∈ drop kvs k, kOk p.1 = true := fun p hp => h p (List.mem_filter.mp hp).1
theorem put_ok {kvs : List (Key × Val)} {k : Key} {v : Val} (h : ∀ p ∈ kvs, kOk p.1 = true) (hk : kOk k = true) : ∀ p ∈ put kvs k v, kOk p.1 = true := by
  intro p hp
  unfold put at hp
  split at hp
  · obtain ⟨q, h1, h2⟩ := List.mem_map.mp hp
    split at h2
    · rw [← h2]; exact h q h1
    · rw [← h2]; exact h q h1
  · rcases List.mem_append.mp hp with h1 | h1
    · exact h p h1
    · rw [List.mem_singleton.mp h1]; exact hk
theorem putT_ok {kvs : List (List Key × Val)} {k : List Key} {v : Val} (h : ∀ p ∈ kvs, ∀ k ∈ p.1, kOk k = true) (hk : ∀ i ∈ k, kOk i = true) : ∀ p ∈ put kvs k v, ∀ k ∈ p.1, kOk k = true := by
  intro p hp
  unfold put at hp
  split at hp
  · obtain ⟨q, h1, h2⟩ := List.mem_map.mp hp
    split at h2
    · rw [← h2]; exact h q h1
    · rw [← h2]; exact h q h1
  · rcases List.mem_append.mp hp with h1 | h1
    · exact h p h1
    · rw [List.mem_singleton.mp h1]; exact hk
def RPop1 : V → List V → Hp → VK → Prop := fun x xs H Q => ∃ y a, xs = [y] ∧ x = .ref a ∧ ((∃ kvs k v, H a = some (.dK kvs) ∧ y = kV k ∧ valV kvs k = some v ∧ Q v (L2.upd H a (.dK (dropK kvs k)))) ∨
  ∃ kvs k b v, H a = some (.dT kvs) ∧ y = .ref b ∧ H b = some (.tup (k.map kV)) ∧ valV kvs k = some v ∧ Q v (L2.upd H a (.dT (dropK kvs k))))
theorem dropT_ok {kvs : List (List Key × Val)} {k : List Key} (h : ∀ p ∈ kvs, ∀ i ∈ p.1, kOk i = true) : ∀ p ∈ drop kvs k, ∀ i ∈ p.1, kOk i = true := fun p hp => h p (List.mem_filter.mp hp).1
theorem de_pop1 (hu : X.A.units + 1 < cLine) (ho : PE X o (lift G W (ev G' ft pa))) (he : PE X e (lift G W (ev G' ft pb))) (m : M1 X o "pop" apos e cpos) : PE X (.Call (.Attribute o "pop" apos) [e] [] cpos) (lift G W (ev G' ft (.bm .popD pa (.cons pb .nil)))) := by
  refine (pe_pop1 hu ho he m).imp fun σ H Q h => ?_
  have h2 := bm_read (T := TDict) (R := RPop1) (fun μ S H v x k s r h1 h2 => ty_dict s r (by rw [h1]; cases k <;> first | rfl | cases h2)) (fun μ S H v x vs xs k Q sm rv rs _ _ q => by
    unfold bmV0 popDV at q
    simp only at q
    split at q
    · obtain ⟨y, rfl, ry⟩ := rs.one_inv
      cases rv with
      | obj hs =>
      split at q
      · rename_i eo
        split at q
        · rename_i ek
          split at q
          · rename_i el
            obtain ⟨p, ys, g1, g2, g3, g4⟩ := sm.dK eo
            rw [hs] at g1; cases g1
            obtain ⟨k1, _, k3⟩ := key_rel ry ek
            obtain ⟨u, l1, l2⟩ := (g3.look _).1 _ el
            refine ⟨y, _, rfl, rfl, .inl ⟨ys, _, u, g2, k1, l1, ?_⟩⟩
            exact q.put sm eo rfl rfl hs ⟨_, upd_same, g3.drop.mono (Up.refl _) (Keep.dK g2), drop_ok g4⟩ l2
          · exact q.elim
        · exact q.elim
      · rename_i eo
        split at q
        · rename_i ek
          split at q
          · rename_i el
            obtain ⟨p, ys, g1, g2, g3, g4⟩ := sm.dT eo
            rw [hs] at g1; cases g1
            obtain ⟨b, k1, k2, k3⟩ := keysT_rel ry ek
            obtain ⟨u, l1, l2⟩ := (g3.look _).1 _ el
            refine ⟨y, _, rfl, rfl, .inr ⟨ys, _, b, u, g2, k1, k2, l1, ?_⟩⟩
            exact q.put sm eo rfl rfl hs ⟨_, upd_same, g3.drop.mono (Up.refl _) (Keep.dT g2), dropT_ok g4⟩ l2
          · exact q.elim
        · exact q.elim
      · exact q.elim
    · exact q.elim) h
  refine lift_mono h2 fun x H1 ⟨⟨_, _, _, a, e1, e2⟩, q⟩ => ⟨a, e1, e2, lift_mono (liftA_one q) fun y H2 ⟨y', a', h1, h3, h4⟩ => ?_⟩
  cases h1
  rw [e1] at h3; cases h3
  exact h4
def RPop2 : V → List V → Hp → VK → Prop := fun x xs H Q => ∃ y z a, xs = [y, z] ∧ x = .ref a ∧ ∃ kvs, H a = some (.dK kvs) ∧ ((∃ k, y = kV k ∧
  (∀ v, valV kvs k = some v → Q v (L2.upd H a (.dK (dropK kvs k)))) ∧ (valV kvs k = none → Q z H)) ∨ (y = .non ∧ Q z H))
theorem de_pop2 (ho : PE X o (lift G W (ev G' ft pa))) (he : PE X e (lift G W (ev G' ft pb))) (hf : PE X f (lift G W (ev G' ft pc))) (m : M2 X o "pop" apos e f cpos) : PE X (.Call (.Attribute o "pop" apos) [e, f] [] cpos) (lift G W (ev G' ft (.bm .pop2 pa (.cons pb (.cons pc .nil))))) := by
  refine (pe_dpop3 ho he hf m).imp fun σ H Q h => ?_
  have h2 := bm_read (T := TDict) (R := RPop2) (fun μ S H v x k s r h1 h2 => ty_dict s r (by rw [h1]; cases k <;> first | rfl | cases h2)) (fun μ S H v x vs xs k Q sm rv rs _ _ q => by
    unfold bmV0 pop2V at q
    simp only at q
    split at q
    · obtain ⟨y, z, rfl, ry, rz⟩ := rs.two_inv
      cases rv with
      | obj hs =>
      split at q
      · rename_i eo
        obtain ⟨p, ys, g1, g2, g3, g4⟩ := sm.dK eo
        rw [hs] at g1; cases g1
        split at q
        · cases ry
          exact ⟨_, z, _, rfl, rfl, ys, g2, .inr ⟨rfl, q.val sm rz⟩⟩
        · split at q
          · rename_i ek
            obtain ⟨k1, _, k3⟩ := key_rel ry ek
            obtain ⟨l1, l2⟩ := g3.look _
            refine ⟨y, z, _, rfl, rfl, ys, g2, .inl ⟨_, k1, fun v hv => ?_, fun hn => ?_⟩⟩
            · split at q
              · rename_i el
                obtain ⟨u, l3, l4⟩ := l1 _ el
                rw [hv] at l3; cases l3
                exact q.put sm eo rfl rfl hs ⟨_, upd_same, g3.drop.mono (Up.refl _) (Keep.dK g2), drop_ok g4⟩ l4
              · rename_i el
                rw [l2 el] at hv; cases hv
            · split at q
              · rename_i el
                obtain ⟨u, l3, l4⟩ := l1 _ el
                rw [hn] at l3; cases l3
              · exact q.val sm rz
          · exact q.elim
      · exact q.elim
    · exact q.elim) h
  refine lift_mono h2 fun x H1 ⟨⟨_, _, _, a, e1, e2⟩, q⟩ => ⟨a, e1, e2, lift_mono (liftA_two q) fun y H2 q2 => lift_mono q2 fun z H3 ⟨y', z', a', h1, h3, h4⟩ => ?_⟩
  cases h1
  rw [e1] at h3; cases h3
  exact h4
def RSetd : V → List V → Hp → VK → Prop := fun x xs H Q => ∃ y z a, xs = [y, z] ∧ x = .ref a ∧ ∃ (kvs : List (Key × V)) (k : Key), H a = some (.dK kvs) ∧ y = kV k ∧ kvs.length < sizeLine ∧
  (∀ v, valV kvs k = some v → Q v H) ∧ (valV kvs k = none → Q z (L2.upd H a (.dK (putK kvs k z))))
theorem de_sdef (ho : PE X o (lift G W (ev G' ft pa))) (he : PE X e (lift G W (ev G' ft pb))) (hf : PE X f (lift G W (ev G' ft pc))) (m : M2 X o "setdefault" apos e f cpos) : PE X (.Call (.Attribute o "setdefault" apos) [e, f] [] cpos) (lift G W (ev G' ft (.bm .setdefault pa (.cons pb (.cons pc .nil))))) := by
  refine (pe_dsetd ho he hf m).imp fun σ H Q h => ?_
  have h2 := bm_read (T := TDict) (R := RSetd) (fun μ S H v x k s r h1 h2 => ty_dict s r (by rw [h1]; cases k <;> first | rfl | cases h2)) (fun μ S H v x vs xs k Q sm rv rs _ _ q => by
    unfold bmV0 sdefV at q
    simp only at q
    split at q
    · obtain ⟨y, z, rfl, ry, rz⟩ := rs.two_inv
      cases rv with
      | obj hs =>
      split at q
      · rename_i eo
        split at q
        · rename_i ek
          split at q
          · rename_i hl
            obtain ⟨p, ys, g1, g2, g3, g4⟩ := sm.dK eo
            rw [hs] at g1; cases g1
            obtain ⟨k1, _, k3⟩ := key_rel ry ek
            obtain ⟨l1, l2⟩ := g3.look _
            refine ⟨y, z, _, rfl, rfl, ys, _, g2, k1, by rw [← line_eq, ← g3.length]; exact hl, fun v hv => ?_, fun hn => ?_⟩
            · split at q
              · rename_i el
                obtain ⟨u, l3, l4⟩ := l1 _ el
                rw [hv] at l3; cases l3
                exact q.val sm l4
              · rename_i el
                rw [l2 el] at hv; cases hv
            · split at q
              · rename_i el
                obtain ⟨u, l3, l4⟩ := l1 _ el
                rw [hn] at l3; cases l3
              · exact q.put sm eo rfl rfl hs ⟨_, upd_same, (g3.put rz).mono (Up.refl _) (Keep.dK g2), put_ok g4 k3⟩ rz
          · exact q.elim
        · exact q.elim
      · exact q.elim
    · exact q.elim) h
  refine lift_mono h2 fun x H1 ⟨⟨_, _, _, a, e1, e2⟩, q⟩ => ⟨a, e1, e2, lift_mono (liftA_two q) fun y H2 q2 => lift_mono q2 fun z H3 ⟨y', z', a', h1, h3, h4⟩ => ?_⟩
  cases h1
  rw [e1] at h3; cases h3
  exact h4

/-! join, split, lower -/
theorem mt_jn : MtR X "str.join" (StM X joinV) := by
  intro pins s σ H x xs u us Q I rx r h
  obtain ⟨G, W, σ', μ, v, vs, S, hK, sm, rv, rs, h⟩ := h
  unfold joinV at h
  split at h
  · rename_i a w
    cases rv
    obtain ⟨y, rfl, ry⟩ := rs.one_inv
    split at h
    · rename_i ws ew
      split at h
      · rename_i hz
        cases eq : seq? S w with
        | none => rw [eq] at ew; cases ew
        | some xs =>
        rw [eq] at ew
        simp only [Option.bind_some] at ew
        have go : ∃ p, y = .ref p ∧ (SqL X.K H p (ws.map V.str) ∨ SqT X.K H p (ws.map V.str)) := by
          unfold seq? at eq
          split at eq
          · cases eq
            cases ry with
            | tup h1 h2 =>
              obtain ⟨e1, _, _⟩ := h2.strs ew
              subst e1
              exact ⟨_, rfl, .inr (SqT.of h1)⟩
          · cases ry with
            | obj hs =>
            split at eq
            · rename_i eo
              cases eq
              obtain ⟨p, ys, g1, g2, g3⟩ := sm.lstR eo
              rw [hs] at g1; cases g1
              obtain ⟨e1, _, _⟩ := g3.strs ew
              subst e1
              exact ⟨_, rfl, .inl (by rw [← hK]; exact g2)⟩
            · cases eq
          · cases eq
        obtain ⟨p, rfl, go⟩ := go
        exact mt_join pins s σ H _ _ u us Q I rx r ⟨_, p, ws, rfl, rfl, go, hz.1, h.val sm (.str hz.2)⟩
      · exact h.elim
    · exact h.elim
  · exact h.elim
theorem mt_spl : MtR X "str.split" (StM X splitV) := by
  intro pins s σ H x xs u us Q I rx r h
  obtain ⟨G, W, σ', μ, v, vs, S, hK, sm, rv, rs, h⟩ := h
  unfold splitV at h
  split at h
  · cases rv
    obtain ⟨y, rfl, ry⟩ := rs.one_inv
    cases ry
    split at h
    · rename_i hz
      refine mt_split pins s σ H _ _ u us Q I rx r ⟨_, _, rfl, rfl, hz.1, hz.2.1, fun p hp => ?_⟩
      exact h.lst sm (RVs.of_strs _ fun s hs => List.all_eq_true.mp hz.2.2 s hs) hp
    · exact h.elim
  · exact h.elim
theorem mt_lwr : MtR X "str.lower" (StM X lowerV) := by
  intro pins s σ H x xs u us Q I rx r h
  obtain ⟨G, W, σ', μ, v, vs, S, hK, sm, rv, rs, h⟩ := h
  unfold lowerV at h
  split at h
  · cases rv
    cases rs
    split at h
    · rename_i hz
      exact mt_lower pins s σ H _ _ u us Q I rx r ⟨_, rfl, rfl, hz.1, h.val sm (.str hz.2)⟩
    · exact h.elim
  · exact h.elim
end
end Nw

set_option Elab.async false
set_option linter.all false
set_option maxRecDepth 100000
set_option maxHeartbeats 1000000
namespace Nw
open PySem L2 PySem.Spec PyProof.Rows

/-! ## t += u, tuples -/
section
variable {prog : Program} {w : World} {A : Around} {E : Value → Shared → Prop} {s : Shared}
theorem noI_tuple_add : typeLookup (.type "tuple") (dunderI "add") = pure none := by rw [typeLookup_type, builtinLookup_eq_fast]; kernel_rfl
theorem itup_of {t b : Addr} {vs ws : List Value} {Q : Value → Shared → Prop} (ht : IsTup s.heap t vs.toArray) (hb : IsTup s.heap b ws.toArray)
    (h0 : vs = [] → Q (.ref b) s) (h1 : vs ≠ [] → ws = [] → Q (.ref t) s) (h2 : vs ≠ [] → ws ≠ [] → Q (.ref s.heap.objs.size) { s with heap := s.heap.push { cls := .type "tuple", data := .seq (vs ++ ws).toArray } })
    (hl : vs.length + ws.length ≤ sizeLine) : wpAny (model prog w) A (inplaceOp .Add (.ref t) (.ref b)) Q E s := by
  obtain ⟨⟨cls, dd, data, sl⟩, ho, hc, n, hd⟩ := id ht
  obtain ⟨⟨cls2, dd2, data2, sl2⟩, go, gc, n2, gd⟩ := id hb
  simp only at hc hd gc gd
  subst hc hd gc gd
  have ea : vs.toArray ++ ws.toArray = (vs ++ ws).toArray := by simp
  refine wpAny_inplaceOp_concat ⟨_, ho, rfl⟩ ⟨_, go, rfl⟩ noI_tuple_add noFill_tuple_add seq_tuple_add ?_
  by_cases hv : vs = []
  · refine call_meets PySem.F.slot_tuple_add ⟨_, ho, rfl⟩ PySem.F.entry_tuple_add (PySem.F.args_tuple_add_2 _ _) (tuple_addW0 t b vs.toArray ws.toArray n n2 dd dd2 sl sl2 (by simp [hv])) ⟨ho, go, h0 hv⟩
  by_cases hw : ws = []
  · exact call_meets PySem.F.slot_tuple_add ⟨_, ho, rfl⟩ PySem.F.entry_tuple_add (PySem.F.args_tuple_add_2 _ _) (tuple_addW1 t b vs.toArray ws.toArray n n2 dd dd2 sl sl2 (by simpa using hv) (by simp [hw])) ⟨ho, go, h1 hv hw⟩
  · refine call_meets PySem.F.slot_tuple_add ⟨_, ho, rfl⟩ PySem.F.entry_tuple_add (PySem.F.args_tuple_add_2 _ _) (tuple_addW2 t b vs.toArray ws.toArray n n2 dd dd2 sl sl2 (by simpa using hv) (by simpa using hw) (by simpa using hl)) ⟨ho, go, ?_⟩
    rw [ea]
    exact h2 hv hw
end
section
variable {X : Cx}
theorem iop_catA : OpR X (inplaceOp .Add) (rCatA X.K) := by
  intro pins s σ H x y v u Q I rx ry h
  obtain ⟨a, b, xs, ys, rfl, rfl, ha, hb, hz, q0, q1, q2⟩ := h
  cases rx
  cases ry
  obtain ⟨its, r1, p1, _⟩ := I.tuple ha
  obtain ⟨its2, r2, p2, _⟩ := I.tuple hb
  refine itup_of p1 p2 (fun z => ⟨.ref b, H, I, rfl, q0 (r1.nil_iff.mp z)⟩) (fun z z2 => ⟨.ref a, H, I, rfl, q1 (fun c => z (r1.nil_iff.mpr c)) (r2.nil_iff.mp z2)⟩) (fun z z2 => ?_) (by rw [← r1.length, ← r2.length]; exact hz)
  refine ⟨.ref s.heap.objs.size, _, I.laid (t' := s.toks) (o := .tup (xs ++ ys)) (fun c ob q => Heap.get?_push_of_some _ q) (Nat.le_refl _) ⟨by rw [List.length_append]; exact hz, _, r1.append r2, IsTup.new _ _⟩, rfl, ?_⟩
  exact q2 (fun c => z (r1.nil_iff.mpr c)) (fun c => z2 (r2.nil_iff.mpr c)) _ (I.hok.fresh (Nat.le_refl _))
end
end Nw

set_option Elab.async false
set_option linter.all false
set_option maxRecDepth 100000
set_option maxHeartbeats 1000000
namespace Nw
open PySem L2

section
variable {α β : Type} {G : Cfg} {W : WX} {X : Cx} {σ : St} {μ : List Addr} {H : Hp} {S : Store} {Q : VK} {G' : Tab} {ft : Fns}
variable {o e f : Expr} {pa pb pc : PyE} {p q : PyS} {apos cpos pos pos' tpos : Pos} {D : Ends} {env : Env} {st : Stmt} {sts : List Stmt}

theorem outA {r : Res α} {f : α → Store → Out} (h : AfterO G W μ H (r.out env f) D) (e : REnv μ H env σ) : After G W σ μ H r fun a μ' S' H' => AfterO G W μ' H' (f a S') D := by
  cases r with
  | ok a S => exact fun μ' H' u k s => AfterO.later (o := f a S) h u k
  | ex x S => exact fun μ' H' d u k s => h μ' H' σ d u k s (e.mono u k)
  | no => exact h
theorem oneS {m : Env → Store → Res Val} {f : Val → Env → Store → Out}
    (h : ∃ μ env S, Sim G μ S H ∧ REnv μ H env σ ∧ AfterO G W μ H ((m env S).out env fun x S1 => f x env S1) D) :
    lift G W m σ H fun x' H1 => ∃ μ env x S, Sim G μ S H1 ∧ REnv μ H1 env σ ∧ RV μ H1 x x' ∧ AfterO G W μ H1 (f x env S) D := by
  obtain ⟨μ, env, S, s, e, h⟩ := h
  exact ⟨μ, env, S, s, e, (outA h e).imp fun x μ1 S1 H1 u1 k1 s1 h1 x' rx => ⟨μ1, env, x, S1, s1, e.mono u1 k1, rx, h1⟩⟩
theorem oneSA {m : Env → Store → Res (List Val)} {f : List Val → Env → Store → Out}
    (h : ∃ μ env S, Sim G μ S H ∧ REnv μ H env σ ∧ AfterO G W μ H ((m env S).out env fun x S1 => f x env S1) D) :
    liftA G W m σ H fun xs H1 => ∃ μ env vs S, Sim G μ S H1 ∧ REnv μ H1 env σ ∧ RVs μ H1 vs xs ∧ AfterO G W μ H1 (f vs env S) D := by
  obtain ⟨μ, env, S, s, e, h⟩ := h
  exact ⟨μ, env, S, s, e, (outA h e).imp fun x μ1 S1 H1 u1 k1 s1 h1 x' rx => ⟨μ1, env, x, S1, s1, e.mono u1 k1, rx, h1⟩⟩

theorem dss_nil : PSs X [] (liftS G W (ex G' ft .skip)) := pss_nil.imp fun D σ H ⟨μ, env, S, s, e, h⟩ => h μ H σ (Up.refl _) (Keep.refl _) s e
theorem ds_skip (h : PS X st tNext) : PS X st (liftS G W (ex G' ft .skip)) := h.imp fun D σ H ⟨μ, env, S, s, e, h⟩ => h μ H σ (Up.refl _) (Keep.refl _) s e
theorem dss_cons (h1 : PS X st (liftS G W (ex G' ft p))) (h2 : PSs X sts (liftS G W (ex G' ft q))) : PSs X (st :: sts) (liftS G W (ex G' ft (.seq p q))) := by
  refine (pss_cons h1 h2).imp fun D σ H ⟨μ, env, S, s, e, h⟩ => ⟨μ, env, S, s, e, ?_⟩
  simp only [ex] at h
  cases eo : ex G' ft p env S with
  | nx e' S' =>
    rw [eo] at h
    exact fun μ' H' σ' u k s' e'' => ⟨μ', e', S', s', e'', h.later u k⟩
  | rt v S' => rw [eo] at h; exact h
  | bk v S' => rw [eo] at h; exact h
  | ct v S' => rw [eo] at h; exact h
  | ex x v S' => rw [eo] at h; exact h
  | no => rw [eo] at h; exact h
theorem dss_one (h1 : PS X st (liftS G W (ex G' ft p))) : PSs X [st] (liftS G W (ex G' ft p)) := pss_one h1
theorem ds_brk : PS X (.Break pos) (liftS G W (ex G' ft .brk)) := ps_break.imp fun D σ H ⟨μ, env, S, s, e, h⟩ => h μ H σ (Up.refl _) (Keep.refl _) s e
theorem ds_cnt : PS X (.Continue pos) (liftS G W (ex G' ft .cnt)) := ps_continue.imp fun D σ H ⟨μ, env, S, s, e, h⟩ => h μ H σ (Up.refl _) (Keep.refl _) s e
theorem ds_pass : PS X (.Pass pos) (liftS G W (ex G' ft .skip)) := ds_skip ps_pass
theorem ds_doc {x j} : PS X (.Expr (.Constant (.str x) j pos) pos') (liftS G W (ex G' ft .skip)) := ds_skip ps_doc
theorem ds_expr (he : PE X e (lift G W (ev G' ft pa))) (hs : swapsWith e none pos.line X.env = pure false) : PS X (.Expr e pos) (liftS G W (ex G' ft (.expr pa))) := by
  refine (ps_expr he hs).imp fun D σ H h => ?_
  have h2 := oneS (f := fun x env S1 => .nx env S1) (by simp only [liftS, ex] at h; exact h)
  exact lift_mono h2 fun x H1 ⟨μ, env, v, S, s, e, r, q⟩ => q μ H1 σ (Up.refl _) (Keep.refl _) s e
theorem ds_ret (he : PE X e (lift G W (ev G' ft pa))) : PS X (.Return (some e) pos) (liftS G W (ex G' ft (.ret pa))) := by
  refine (ps_ret he).imp fun D σ H h => ?_
  have h2 := oneS (f := fun x env S1 => .rt x S1) (by simp only [liftS, ex] at h; exact h)
  exact lift_mono h2 fun x H1 ⟨μ, env, v, S, s, e, r, q⟩ => q μ H1 x (Up.refl _) (Keep.refl _) s r
theorem ds_retN : PS X (.Return none pos) (liftS G W (ex G' ft (.ret (.c .non)))) := by
  refine ps_retN.imp fun D σ H ⟨μ, env, S, s, e, h⟩ => ?_
  simp only [ex, ev, Res.out_ok] at h
  exact h μ H .non (Up.refl _) (Keep.refl _) s .non
theorem ds_if {c : Expr} {a b : List Stmt} (hc : PT X c (liftT G W (tst (ev G' ft pa)))) (ha : PSs X a (liftS G W (ex G' ft p))) (hb : PSs X b (liftS G W (ex G' ft q))) : PS X (.If c a b pos) (liftS G W (ex G' ft (.ite pa p q))) := by
  refine (ps_if hc ha hb).imp fun D σ H ⟨μ, env, S, s, e, h⟩ => ?_
  simp only [ex] at h
  have h1 := outA h e
  refine ⟨μ, env, S, s, e, ?_⟩
  unfold tst
  cases er : ev G' ft pa env S with
  | no => rw [er] at h1; exact h1.elim
  | ex x S1 => rw [er] at h1; exact h1
  | ok v S1 =>
    rw [er] at h1
    simp only [Res.bind_ok]
    cases et : tru S1 v with
    | none =>
      rw [er] at h
      simp only [Res.out_ok, ifS, et] at h
      exact h.elim
    | some b =>
      simp only [Res.ofO_some]
      intro μ' H' u k s'
      have h2 := h1 μ' H' u k s'
      simp only [ifS, et] at h2
      cases b with
      | true => exact ⟨μ', env, S1, s', e.mono u k, h2⟩
      | false => exact ⟨μ', env, S1, s', e.mono u k, h2⟩
theorem ds_asg {i : Nat} {x : Str} (hN : X.N.Nodup) (hi : X.N[i]? = some x) (hx : Loc X.env.scope x) (he : PE X e (lift G W (ev G' ft pa))) (hs : swapsWith e (some (.Name x pos')) pos.line X.env = pure false) (hf : X.fn x = true ∨ X.env.scope.names.lookup x = some .local) :
    PS X (.Assign [.Name x pos'] e pos) (liftS G W (ex G' ft (.asg i pa))) := by
  refine (ps_set hN hi hx he hs hf).imp fun D σ H h => ?_
  have h2 := oneS (f := fun x env S1 => .nx (env.set i (some x)) S1) (by simp only [liftS, ex] at h; exact h)
  exact lift_mono h2 fun x H1 ⟨μ, env, v, S, s, e, r, q⟩ => q μ H1 _ (Up.refl _) (Keep.refl _) s (e.set r)

/-! several names -/
def gNs : List Nat → TGs
  | [] => gNil
  | i :: r => gCons (gName i) (gNs r)
theorem gNs_of : ∀ {is : List Nat} {xs : List V} {σ : St} {H : Hp} {Q : St → Hp → Prop}, xs.length = is.length → Q ((is.zip xs).foldl (fun σ p => σ.set p.1 (some p.2)) σ) H → gNs is xs σ H Q
  | [], [], _, _, _, _, q => ⟨rfl, q⟩
  | i :: r, x :: xs, σ, H, Q, hl, q => ⟨x, xs, rfl, gNs_of (is := r) (by simpa using hl) q⟩
  | [], _ :: _, _, _, _, hl, _ => by simp at hl
  | _ :: _, [], _, _, _, hl, _ => by simp at hl
theorem REnv.sets : ∀ {is : List Nat} {vs : List Val} {xs : List V} {env : Env} {σ : St}, RVs μ H vs xs → REnv μ H env σ → REnv μ H ((is.zip vs).foldl (fun e p => e.set p.1 (some p.2)) env) ((is.zip xs).foldl (fun σ p => σ.set p.1 (some p.2)) σ)
  | [], _, _, _, _, _, e => by simpa using e
  | i :: r, [], _, _, _, h, e => by cases h; simpa using e
  | i :: r, v :: vs, _, _, _, h, e => by
    cases h with
    | cons h t => simp only [List.zip_cons_cons, List.foldl_cons]; exact REnv.sets t (e.set h)
/-- a target: one name, or a tuple of names -/
def gT (K : PySem.W.Frag) (tp : Bool) (is : List Nat) : TG := fun v σ H Q => if tp then gTup K is.length (gNs is) v σ H Q else ∃ i, is = [i] ∧ gName i v σ H Q
theorem tgt_rel {tp : Bool} {is : List Nat} {v : Val} {x : V} {env env' : Env} {Q : St → Hp → Prop} (hK : G.K = X.K) (h : tgt tp is v env = some env') (r : RV μ H v x) (e : REnv μ H env σ) (q : ∀ σ', REnv μ H env' σ' → Q σ' H) : gT X.K tp is x σ H Q := by
  unfold tgt at h
  unfold gT
  cases tp with
  | true =>
    rw [if_pos rfl] at h ⊢
    split at h
    · cases r with
      | tup h1 h2 =>
      split at h
      · rename_i hl
        cases h
        exact ⟨_, _, rfl, SqT.of h1, by rw [← h2.length]; exact hl, gNs_of (by rw [← h2.length]; exact hl) (q _ (REnv.sets h2 e))⟩
      · cases h
    · cases h
  | false =>
    rw [if_neg Bool.false_ne_true] at h ⊢
    split at h
    · cases h
      exact ⟨_, rfl, q _ (e.set r)⟩
    · cases h
theorem ds_asgT {tg : Expr} {is : List Nat} (hK : G.K = X.K) (he : PE X e (lift G W (ev G' ft pa))) (hg : PG X tg (gT X.K true is)) (hs : swapsWithSole [tg] e pos.line X.env = pure false) (hw : swappedStores [tg] e X.env = pure none)
    (h1 : (assignEach [tg] X.env).map (·.2) = [assign tg X.env]) : PS X (.Assign [tg] e pos) (liftS G W (ex G' ft (.asgT is pa))) := by
  refine (ps_asg he hg hs hw h1).imp fun D σ H h => ?_
  have h2 := oneS (f := fun v env S1 => ofNx ((tgt true is v env).map fun e' => (e', S1))) (by simp only [liftS, ex] at h; exact h)
  refine lift_mono h2 fun x H1 ⟨μ, env, v, S, s, e, r, q⟩ => ?_
  cases et : tgt true is v env with
  | none => rw [et] at q; exact q.elim
  | some e' =>
    rw [et] at q
    exact tgt_rel hK et r e fun σ' e2 => q μ H1 σ' (Up.refl _) (Keep.refl _) s e2
/-- names from a list -/
def gTL (K : PySem.W.Frag) (is : List Nat) : TG := fun v σ H Q => gLst K is.length (gNs is) v σ H Q
theorem tgtL_rel {is : List Nat} {v : Val} {x : V} {env env' : Env} {Q : St → Hp → Prop} (hK : G.K = X.K) (s : Sim G μ S H) (h : ((lst? S v).bind fun xs => tgt true is (.tup xs) env) = some env') (r : RV μ H v x) (e : REnv μ H env σ) (q : ∀ σ', REnv μ H env' σ' → Q σ' H) : gTL X.K is x σ H Q := by
  unfold lst? at h
  split at h
  · rename_i i
    cases r with
    | obj hs =>
    split at h
    · rename_i l xs eo
      obtain ⟨p, ys, g1, g2, g3⟩ := s.lstR eo
      rw [hs] at g1; cases g1
      simp only [Option.bind_some, tgt, if_true] at h
      split at h
      · rename_i hl
        cases h
        exact ⟨_, _, rfl, by rw [← hK]; exact g2, by rw [← g3.length]; exact hl, gNs_of (by rw [← g3.length]; exact hl) (q _ (REnv.sets g3 e))⟩
      · cases h
    · cases h
  · cases h
theorem ds_asgL {tg : Expr} {is : List Nat} (hK : G.K = X.K) (he : PE X e (lift G W (ev G' ft pa))) (hg : PG X tg (gTL X.K is)) (hs : swapsWithSole [tg] e pos.line X.env = pure false) (hw : swappedStores [tg] e X.env = pure none)
    (h1 : (assignEach [tg] X.env).map (·.2) = [assign tg X.env]) : PS X (.Assign [tg] e pos) (liftS G W (ex G' ft (.asgL is pa))) := by
  refine (ps_asg he hg hs hw h1).imp fun D σ H h => ?_
  have h2 := oneS (f := fun v env S1 => ofNx (((lst? S1 v).bind fun xs => tgt true is (.tup xs) env).map fun e' => (e', S1))) (by simp only [liftS, ex] at h; exact h)
  refine lift_mono h2 fun x H1 ⟨μ, env, v, S, s, e, r, q⟩ => ?_
  cases et : ((lst? S v).bind fun xs => tgt true is (.tup xs) env) with
  | none => rw [et] at q; exact q.elim
  | some e' =>
    rw [et] at q
    exact tgtL_rel hK s et r e fun σ' e2 => q μ H1 σ' (Up.refl _) (Keep.refl _) s e2
/-- two names at once -/
theorem ds_par {i j : Nat} {x y : Str} {a b : Expr} {px py pt : Pos} {kt k2 pt2} (hK : G.K = X.K) (hc : X.calm = true) (hN : X.N.Nodup) (hi : X.N[i]? = some x) (hj : X.N[j]? = some y) (hij : i ≠ j)
    (hx : X.env.scope.names.lookup x = some .local) (hy : X.env.scope.names.lookup y = some .local) (ha : PA X [a, b] (liftA G W (evA G' ft pa)))
    (hw : swappedStores [.Tuple [.Name x px, .Name y py] kt pt] (.Tuple [a, b] k2 pt2) X.env = pure (some [x, y]))
    (hs : swapsWithSole [.Tuple [.Name x px, .Name y py] kt pt] (.Tuple [a, b] k2 pt2) pos.line X.env = pure false) :
    PS X (.Assign [.Tuple [.Name x px, .Name y py] kt pt] (.Tuple [a, b] k2 pt2) pos) (liftS G W (ex G' ft (.asgT [i, j] (.tup pa)))) := by
  refine (ps_par hc hN hi hj hij hx hy ha hw hs).imp fun D σ H ⟨μ, env, S, s, e, h⟩ => ?_
  simp only [ex, ev] at h
  have h1 := (outA h e).bind
  refine ⟨μ, env, S, s, e, h1.imp fun vs μ1 S1 H1 u1 k1 s1 q xs rs => ?_⟩
  split at q
  · have q2 := q.here s1
    cases et : tgt true [i, j] (.tup vs) env with
    | none => rw [et] at q2; exact q2.elim
    | some e' =>
      rw [et] at q2
      unfold tgt at et
      rw [if_pos rfl] at et
      simp only at et
      split at et
      · rename_i hl
        cases et
        match vs, hl with
        | [v, w], _ =>
        obtain ⟨a, b, rfl, ra, rb⟩ := rs.two_inv
        exact ⟨a, b, rfl, q2 μ1 H1 _ (Up.refl _) (Keep.refl _) s1 (((e.mono u1 k1).set ra).set rb)⟩
      · cases et
  · exact q.elim

/-! stores -/
def StSet (X : Cx) : TSet := fun o i v H Q => ∃ (G : Cfg) (μ : List Addr) (S S' : Store) (vo vi vv : Val), G.K = X.K ∧ Sim G μ S H ∧ RV μ H vo o ∧ RV μ H vi i ∧ RV μ H vv v ∧ setIV S vo vi vv = some S' ∧ ∀ H', Keep H H' → Sim G μ S' H' → Q H'
theorem set_all (hu : X.A.units + 1 < cLine) : PSet X (StSet X) := by
  intro pins s σ H o i v ov iv u Q I ro ri rv h
  obtain ⟨G, μ, S, S', vo, vi, vv, hK, sm, r1, r2, r3, h, q⟩ := h
  unfold setIV at h
  split at h
  · cases r1 with
    | obj hs =>
    split at h
    · rename_i xs k eo
      cases r2
      obtain ⟨j, ej, e2⟩ := Option.map_eq_some_iff.mp h
      subst e2
      obtain ⟨p, ys, g1, g2, g3⟩ := sm.lst eo
      rw [hs] at g1; cases g1
      obtain ⟨s2, k2⟩ := sm.put (o' := .lst false (xs.set j vv)) (u := .lst (ys.set j v)) eo rfl rfl hs ⟨_, upd_same, (g3.set j r3).mono (Up.refl _) (Keep.lst g2)⟩
      exact set_list pins s σ H _ _ v ov iv u Q I ro ri rv ⟨_, ys, k, j, rfl, rfl, g2, by rw [← g3.length]; exact ej, q _ k2 s2⟩
    · rename_i ii kvs eo
      obtain ⟨k, ek, e2⟩ := Option.bind_eq_some_iff.mp h
      split at e2
      · rename_i hl
        cases e2
        obtain ⟨p, ys, g1, g2, g3, g4⟩ := sm.dK eo
        rw [hs] at g1; cases g1
        obtain ⟨k1, _, k3⟩ := key_rel r2 ek
        cases ro
        obtain ⟨s2, k2⟩ := sm.put (o' := .dK false (put kvs k vv)) (u := .dK (putK ys k v)) eo rfl rfl hs ⟨_, upd_same, (g3.put r3).mono (Up.refl _) (Keep.dK g2), put_ok g4 k3⟩
        exact d_setItem hu I (.inl ⟨ys, k, g2, k1, by rw [← line_eq, ← g3.length]; exact hl, rfl⟩) ri rv fun s' I' => ⟨_, I', q _ k2 s2⟩
      · cases e2
    · rename_i ii kvs eo
      obtain ⟨k, ek, e2⟩ := Option.bind_eq_some_iff.mp h
      split at e2
      · rename_i hl
        cases e2
        obtain ⟨p, ys, g1, g2, g3, g4⟩ := sm.dT eo
        rw [hs] at g1; cases g1
        obtain ⟨b, k1, kb, k3⟩ := keysT_rel r2 ek
        cases ro
        obtain ⟨s2, k2⟩ := sm.put (o' := .dT false (put kvs k vv)) (u := .dT (putK ys k v)) eo rfl rfl hs ⟨_, upd_same, (g3.put r3).mono (Up.refl _) (Keep.dT g2), putT_ok g4 k3⟩
        exact d_setItem hu I (.inr ⟨ys, k, b, g2, k1, kb, by rw [← line_eq, ← g3.length]; exact hl, rfl⟩) ri rv fun s' I' => ⟨_, I', q _ k2 s2⟩
      · cases e2
    · cases h
  · cases h
theorem ds_setI {i : Expr} (hu : X.A.units + 1 < cLine) (hK : G.K = X.K) (he : PE X e (lift G W (ev G' ft pc))) (ho : PE X o (lift G W (ev G' ft pa))) (hi : PE X i (lift G W (ev G' ft pb)))
    (ha : ∀ v, assign (.Subscript o i tpos) X.env v = (do
      let ov ← holding [v] (eval o X.env)
      let iv ← holding [v, ov] (eval i X.env)
      standAt tpos
      holding [v, ov, iv] (setItem ov iv v)
      release [v, ov, iv] [])) (hs : swapsWithSole [.Subscript o i tpos] e pos.line X.env = pure false) (hw : swappedStores [.Subscript o i tpos] e X.env = pure none)
    (h1 : (assignEach [.Subscript o i tpos] X.env).map (·.2) = [assign (.Subscript o i tpos) X.env]) : PS X (.Assign [.Subscript o i tpos] e pos) (liftS G W (ex G' ft (.setI pa pb pc))) := by
  refine (ps_asg he (pg_sub ho hi (set_all hu) ha) hs hw h1).imp fun D σ H h => ?_
  have h2 := oneS (f := fun v env S1 => (ev G' ft pa env S1).out env fun x S2 => (ev G' ft pb env S2).out env fun k S3 => ofNx ((setIV S3 x k v).map fun S4 => (env, S4))) (by simp only [liftS, ex] at h; exact h)
  refine lift_mono h2 fun v' H1 ⟨μ1, env1, v, S1, s1, e1, r1, q1⟩ => ?_
  -- the object, the index
  refine ⟨μ1, env1, S1, s1, e1, (outA q1 e1).imp fun x μ2 S2 H2 u2 k2 s2 q2 x' rx => ?_⟩
  refine ⟨μ2, env1, S2, s2, e1.mono u2 k2, (outA q2 (e1.mono u2 k2)).imp fun k μ3 S3 H3 u3 k3 s3 q3 k' rk => ?_⟩
  cases et : setIV S3 x k v with
  | none => rw [et] at q3; exact q3.elim
  | some S4 =>
    rw [et] at q3
    exact ⟨G, μ3, S3, S4, x, k, v, hK, s3, rx.mono u3 k3 _ _, rk, (r1.mono u2 k2 _ _).mono u3 k3 _ _, et, fun H' k4 s4 => q3 μ3 H' σ (Up.refl _) k4 s4 (((e1.mono u2 k2).mono u3 k3).mono (Up.refl _) k4)⟩

/-! attributes -/
theorem ds_setF {fd : Nat} (hK : G.K = X.K) (hf : fd < G.NM.length) (hc : ∀ c, G'.isF c fd = true → Cls G.K (G.ca c) ∧ NoAttr G.K (G.ca c) (G.nm fd)) (he : PE X e (lift G W (ev G' ft pb))) (ho : PE X o (lift G W (ev G' ft pa)))
    (hs : swapsWith e (some (.Attribute o (G.nm fd) pos')) pos.line X.env = pure false) : PS X (.Assign [.Attribute o (G.nm fd) pos'] e pos) (liftS G W (ex G' ft (.setF pa fd pb))) := by
  refine (ps_fld ho he hs).imp fun D σ H h => ?_
  have h2 := oneS (f := fun v env S1 => (ev G' ft pa env S1).out env fun x S2 => setFV G' fd env v x S2) (by simp only [liftS, ex] at h; exact h)
  refine lift_mono h2 fun v' H1 ⟨μ1, env1, v, S1, s1, e1, r1, q1⟩ => ?_
  refine ⟨μ1, env1, S1, s1, e1, (outA q1 e1).imp fun x μ2 S2 H2 u2 k2 s2 q2 x' rx => ?_⟩
  unfold setFV at q2
  split at q2
  · cases rx with
    | obj hs =>
    split at q2
    · rename_i c fs eo
      split at q2
      · rename_i hh
        simp only [Bool.and_eq_true, decide_eq_true_eq] at hh
        obtain ⟨p, dx, ys, g1, g2, g3⟩ := s2.ins eo
        rw [hs] at g1; cases g1
        obtain ⟨c1, c2⟩ := hc c hh.1
        obtain ⟨s3, k3⟩ := s2.put (o' := .ins c (fput fd v fs)) (u := .ins (G.ca c) dx (putF (G.nm fd) v' ys)) eo rfl rfl hs ⟨_, _, upd_same, (g3.put hf (r1.mono u2 k2 _ _)).mono (Up.refl _) (Keep.ins g2)⟩
        exact ⟨_, _, dx, ys, rfl, g2, hK ▸ c1, hK ▸ c2, by rw [← g3.length]; exact hh.2, q2 μ2 _ σ (Up.refl _) k3 s3 ((e1.mono u2 k2).mono (Up.refl _) k3)⟩
      · exact q2.elim
    · exact q2.elim
  · exact q2.elim

/-! op= -/
def StOp (X : Cx) (f : Store → Val → Val → Res Val) : V → V → Hp → VK → Prop := fun x y H Q => ∃ (G : Cfg) (W : WX) (σ : St) (μ : List Addr) (v w : Val) (S : Store), G.K = X.K ∧ Sim G μ S H ∧ RV μ H v x ∧ RV μ H w y ∧ After G W σ μ H (f S v w) (Kv Q)
theorem iop_addAll : PIp X .Add (StOp X iaddV) := by
  intro pins s σ H x y v u Q I rx ry h
  obtain ⟨G, W, σ', μ, a, b, S, hK, sm, r1, r2, h⟩ := h
  unfold iaddV at h
  split at h
  · cases r1; cases r2
    exact iop_add pins s σ H _ _ v u Q I rx ry ⟨_, _, rfl, rfl, h.val sm (.int _)⟩
  · cases r1 with
    | str h1 =>
    cases r2 with
    | str h2 =>
    split at h
    · rename_i hl
      exact iop_add_str pins s σ H _ _ v u Q I rx ry ⟨_, _, rfl, rfl, hl, h.val sm (.str (sOk_app h1 h2))⟩
    · exact h.elim
  · cases r1 with
    | tup h1 t1 =>
    cases r2 with
    | tup h2 t2 =>
    split at h
    · rename_i hl
      refine iop_catA pins s σ H _ _ v u Q I rx ry ⟨_, _, _, _, rfl, rfl, SqT.of h1, SqT.of h2, by rw [← line_eq, ← t1.length, ← t2.length]; exact hl, fun e => ?_, fun e1 e2 => ?_, fun e1 e2 p hp => ?_⟩
      · have e' := t1.nil_iff.mpr e
        subst e'
        exact h.val sm (.tup h2 (by simpa using t2))
      · have e' := t2.nil_iff.mpr e2
        subst e'
        exact h.val sm (.tup h1 (by simpa using t1))
      · exact h.tup sm (t1.app t2) hp
    · exact h.elim
  · cases r1 with
    | obj hs =>
    cases r2 with
    | obj hs2 =>
    split at h
    · rename_i xs' ys' eo eo2
      split at h
      · rename_i hl
        obtain ⟨p, ys, g1, g2, g3⟩ := sm.lst eo
        rw [hs] at g1; cases g1
        obtain ⟨p2, zs, f1, f2, f3⟩ := sm.lst eo2
        rw [hs2] at f1; cases f1
        refine iop_ext pins s σ H _ _ v u Q I rx ry ⟨_, _, ys, zs, rfl, rfl, g2, f2, by rw [← line_eq, ← g3.length, ← f3.length]; exact hl, ?_⟩
        exact h.put sm eo rfl rfl hs ⟨_, upd_same, (g3.app f3).mono (Up.refl _) (Keep.lst g2)⟩ (.obj hs)
      · exact h.elim
    · exact h.elim
  · exact h.elim
theorem iop_subAll : PIp X .Sub (StOp X subV) := by
  intro pins s σ H x y v u Q I rx ry h
  obtain ⟨G, W, σ', μ, a, b, S, hK, sm, r1, r2, h⟩ := h
  unfold subV at h
  split at h
  · cases r1; cases r2
    exact iop_sub pins s σ H _ _ v u Q I rx ry ⟨_, _, rfl, rfl, h.val sm (.int _)⟩
  · exact h.elim
def augPy : BinO → Operator
  | .sub => .Sub
  | _ => .Add
def augOk : BinO → Bool
  | .add => true
  | .sub => true
  | _ => false
theorem iop_all {b : BinO} (hb : augOk b = true) : PIp X (augPy b) (StOp X (augV b)) := by
  cases b <;> first | exact iop_addAll | exact iop_subAll | cases hb
theorem ds_augV {i : Nat} {x : Str} {b : BinO} (hb : augOk b = true) (hK : G.K = X.K) (hN : X.N.Nodup) (hi : X.N[i]? = some x) (hx : Loc X.env.scope x) (he : PE X e (lift G W (ev G' ft pa))) (hf : X.fn x = true ∨ X.env.scope.names.lookup x = some .local) :
    PS X (.AugAssign (.Name x pos') (augPy b) e pos) (liftS G W (ex G' ft (.augV i b pa))) := by
  refine (ps_aug hN hi hx he (iop_all hb) hf).imp fun D σ H ⟨μ, env, S, s, e, h⟩ => ?_
  simp only [ex] at h
  cases ev' : env[i]?.getD none with
  | none => rw [ev'] at h; exact h.elim
  | some v =>
    rw [ev'] at h
    simp only [Res.ofO_some, Res.out_ok] at h
    have e1 : env[i]? = some (some v) := by
      cases e2 : env[i]? with
      | none => rw [e2] at ev'; cases ev'
      | some w => rw [e2] at ev'; cases ev'; rfl
    obtain ⟨x', h1, h2⟩ := e.at_ i v e1
    refine ⟨x', h1, μ, env, S, s, e, (outA h e).imp fun y μ1 S1 H1 u1 k1 s1 q1 y' ry => ?_⟩
    refine ⟨G, W, σ, μ1, v, y, S1, hK, s1, h2.mono u1 k1 _ _, ry, (outA q1 (e.mono u1 k1)).imp fun z μ2 S2 H2 u2 k2 s2 q2 z' rz => ?_⟩
    exact q2 μ2 H2 _ (Up.refl _) (Keep.refl _) s2 (((e.mono u1 k1).mono u2 k2).set rz)
theorem ds_augF {fd : Nat} {b : BinO} (hb : augOk b = true) (hK : G.K = X.K) (hf : fd < G.NM.length) (hc : ∀ c, G'.isF c fd = true → Cls G.K (G.ca c) ∧ NoAttr G.K (G.ca c) (G.nm fd)) (ho : PE X o (lift G W (ev G' ft pa))) (he : PE X e (lift G W (ev G' ft pb))) :
    PS X (.AugAssign (.Attribute o (G.nm fd) tpos) (augPy b) e pos) (liftS G W (ex G' ft (.augF pa fd b pb))) := by
  refine (ps_fldaug ho he (iop_all hb)).imp fun D σ H h => ?_
  have h2 := oneS (f := fun x env S1 => match augF1 G' fd x S1 with
    | some (i, c, v) => (ev G' ft pb env S1).out env fun y S2 => (augV b S2 v y).out env fun z S3 => augF2 fd env i c z S3
    | none => .no) (by simp only [liftS, ex] at h; exact h)
  refine lift_mono h2 fun x' H1 ⟨μ1, env, x, S1, s1, e1, rx, q1⟩ => ?_
  cases ea : augF1 G' fd x S1 with
  | none => rw [ea] at q1; exact q1.elim
  | some t =>
    obtain ⟨i, c, v⟩ := t
    rw [ea] at q1
    simp only at q1
    unfold augF1 at ea
    split at ea
    · split at ea
      · rename_i c' fs eo
        split at ea
        · rename_i hF
          obtain ⟨v', ev', e2⟩ := Option.map_eq_some_iff.mp ea
          cases e2
          cases rx with
          | obj hs =>
          obtain ⟨p, dx, ys, g1, g2, g3⟩ := s1.ins eo
          rw [hs] at g1; cases g1
          obtain ⟨c1, c2⟩ := hc _ hF
          obtain ⟨w, l1, l2⟩ := (g3.get hf).1 v ev'
          refine ⟨_, _, dx, ys, w, rfl, g2, hK ▸ c1, hK ▸ c2, l1, μ1, env, S1, s1, e1, (outA q1 e1).imp fun y μ2 S2 H2 u2 k2 s2 q2 y' ry => ?_⟩
          refine ⟨G, W, σ, μ2, v, y, S2, hK, s2, l2.mono u2 k2 _ _, ry, (outA q2 (e1.mono u2 k2)).imp fun z μ3 S3 H3 u3 k3 s3 q3 z' rz => ?_⟩
          unfold augF2 at q3
          split at q3
          · rename_i c3 fs3 eo3
            split at q3
            · rename_i hh
              obtain ⟨rfl, hl⟩ := hh
              obtain ⟨p3, dx3, ys3, j1, j2, j3⟩ := s3.ins eo3
              have hs3 := u3 _ _ (u2 _ _ hs)
              rw [hs3] at j1; cases j1
              obtain ⟨s4, k4⟩ := s3.put (o' := .ins c3 (fput fd z fs3)) (u := .ins (G.ca c3) dx3 (putF (G.nm fd) z' ys3)) eo3 rfl rfl hs3 ⟨_, _, upd_same, (j3.put hf rz).mono (Up.refl _) (Keep.ins j2)⟩
              exact ⟨dx3, ys3, j2, by rw [← j3.length]; exact hl, q3 μ3 _ σ (Up.refl _) k4 s4 (((e1.mono u2 k2).mono u3 k3).mono (Up.refl _) k4)⟩
            · exact q3.elim
          · exact q3.elim
        · cases ea
      · cases ea
    · cases ea
end
end Nw

set_option Elab.async false
set_option linter.all false
set_option maxRecDepth 100000
set_option maxHeartbeats 3200000
namespace Nw
open PySem L2 PySem.Spec PyProof.Rows

/-! ## enumerate(tuple) -/
set_option maxHeartbeats 3200000 in
theorem meets_enumT (t : Addr) (items : Array Value) :
    Meets (Builtin.«enumerate.__new__» ⟨[.type "enumerate", .ref t], []⟩) (fun _ R s => s.heap.IsTuple t items ∧
      R (.ok (.ret (.ref (s.heap.push { cls := .type "tuple_iterator", data := .fields #[.ref t, .int 0 0] }).objs.size)))
        { s with heap := (s.heap.push { cls := .type "tuple_iterator", data := .fields #[.ref t, .int 0 0] }).push { cls := .type "enumerate", data := .fields #[.none, .bool false, .ref s.heap.objs.size, rawInt 0, .none, .none] } }) :=
  .of_wp fun prog w A R s h => by
    obtain ⟨hp, g, d, tk, os⟩ := s; obtain ⟨h1, h⟩ := h
    have hsub := sub_enumerate
    have B := begins_tuple t items
    have q1 : ∀ {A' : Around} {E : Value → Shared → Prop} {Q : Value → Shared → Prop}, Q (.ref hp.objs.size) ⟨hp.push { cls := .type "tuple_iterator", data := .fields #[.ref t, .int 0 0] }, g, d, tk, os⟩ → wpAny (model prog w) A' (pyIter (.ref t)) Q E ⟨hp, g, d, tk, os⟩ :=
      fun q => B.iter prog w _ _ ⟨hp, g, d, tk, os⟩ _ h1 q
    wp_walk using q1
    refine wpAny_stack_any fun st => wpAny_pure ?_
    split
    · rename_i c _ _ _ _ _
      cases (c == Value.type "enumerate")
      · wp_walk using q1
        exact ⟨_, rfl, h⟩
      · wp_walk using q1
        exact ⟨_, rfl, h⟩
    · wp_walk using q1
      exact ⟨_, rfl, h⟩
section
variable {prog : Program} {w : World} {A : Around} {E : Value → Shared → Prop} {s : Shared}
theorem call_enumT {t : Addr} {items : Array Value} {Q : Value → Shared → Prop} (hL : s.heap.IsTuple t items)
    (h : ∀ h', IsEnum h' (s.heap.objs.size + 1) s.heap.objs.size 0 .none → h'.IsTupleIter s.heap.objs.size t 0 → h'.objs.size = s.heap.objs.size + 2 →
      (∀ b o, s.heap.get? b = some o → h'.get? b = some o) → Q (.ref (s.heap.objs.size + 1)) { s with heap := h' }) :
    wpAny (model prog w) A (call (.type "enumerate") [.ref t]) Q E s := by
  refine callType_new F.called_enumerate (by decide) (F.typeCall_enumerate_1 _) (F.newCall_enumerate_1 _) (fun obj => F.args_object_init_2 obj _) F.entry_enumerate_new
    (meets_enumT t items) ⟨hL, ?_⟩
  have hz : (s.heap.push { cls := .type "tuple_iterator", data := .fields #[.ref t, .int 0 0] }).objs.size = s.heap.objs.size + 1 := Heap.size_push ..
  show _ ∧ _
  rw [hz]
  have he : IsEnum ((s.heap.push { cls := .type "tuple_iterator", data := .fields #[.ref t, .int 0 0] }).push
      { cls := .type "enumerate", data := .fields #[.none, .bool false, .ref s.heap.objs.size, rawInt 0, .none, .none] }) (s.heap.objs.size + 1) s.heap.objs.size 0 .none := by
    have := Heap.get?_push_size (s.heap.push { cls := .type "tuple_iterator", data := .fields #[.ref t, .int 0 0] })
      (o := { cls := .type "enumerate", data := .fields #[.none, .bool false, .ref s.heap.objs.size, rawInt 0, .none, .none] }) rfl
    rw [hz] at this; exact this
  refine ⟨⟨_, he, rfl⟩, h _ he ⟨_, Heap.get?_push_of_some _ (Heap.get?_push_size _ rfl), rfl, rfl⟩ (by rw [Heap.size_push, hz]) fun b o x => Heap.get?_push_of_some _ (Heap.get?_push_of_some _ x)⟩
end
/-- the tuple at a, each item in a new pair -/
def Itet (K : PySem.W.Frag) (a : Addr) : It :=
  ⟨fun i H => ∃ (xs : List V) (x : V), SqT K H a xs ∧ xs[i]? = some x, fun i H v H' => ∃ T x, v = .ref T ∧ H T = none ∧ H' = upd H T (.tup [.int (i : Nat), x]) ∧ ∀ xs, SqT K H a xs → xs[i]? = some x, fun i H => ∃ xs : List V, SqT K H a xs ∧ xs.length ≤ i⟩
theorem turn_enumT {P : Program} {w : World} {K : PySem.W.Frag} {elts : List Expr} {kk : Nat} {tpos : Pos} (a e it : Addr) :
    Turn P w K (.Tuple elts kk tpos) (Itet K a) [e, it] e (fun i h => (∃ old, IsEnum h e it ((i : Nat) : Int) old) ∧ h.IsTupleIter it a i ∧ e ≠ it) where
  mem := by simp
  obj := fun i h st b hb => by
    obtain ⟨⟨old, he⟩, ⟨o, ho, hc, hd⟩, _⟩ := st
    have e' : b = e ∨ b = it := by simpa using hb
    rcases e' with z | z
    · rw [z]; exact ⟨_, he, fun v q => nomatch q⟩
    · rw [z]; exact ⟨o, ho, fun v q => by rw [hd] at q; cases q⟩
  keep := fun i h h' st k => let ⟨⟨old, he⟩, hi, hne⟩ := st; ⟨⟨old, k e (by simp) _ he⟩, hi.at fun o q => k it (by simp) o q, hne⟩
  item := by
    intro X hP hw hK hc i pins s σ H E I hf st hg
    subst hP hw hK
    obtain ⟨⟨old, he⟩, hit, hne⟩ := st
    obtain ⟨xs, x, hq, hx⟩ := hg
    obtain ⟨its, rv, p, hz⟩ := I.tuple hq
    have p' : s.heap.IsTuple a its.toArray := p
    obtain ⟨u, hu, ru⟩ := rv.get hx
    have hel : e < s.heap.objs.size := Heap.lt_size he
    have hil : it < s.heap.objs.size := by obtain ⟨_, q, _⟩ := hit; exact Heap.lt_size q
    have hea : e ≠ a := fun z => by
      obtain ⟨o, ho, hc', _⟩ := p'
      rw [← z, he] at ho
      cases ho
      injection hc' with h9
      exact absurd h9 (by decide +kernel)
    have hia : a ≠ it := fun z => by
      obtain ⟨o, ho, hc', _⟩ := p'
      obtain ⟨o2, ho2, hc2, _⟩ := hit
      rw [z, ho2] at ho
      cases ho
      rw [hc2] at hc'
      injection hc' with h9
      exact absurd h9 (by decide +kernel)
    have D := Draws.tuple (prog := X.prog) (w := X.w) (A := X.A.in1) (show X.A.in1.handled = none from I.ok.hd hc) it a hia its.toArray
    have hil2 : i < its.toArray.size := by
      have := (List.getElem?_eq_some_iff.mp hu).1
      simpa using this
    refine wpAny_pyNext_enum_itemD D he ⟨hit, p'⟩ hil2 hne (by simp [hne, hea]) fun y h' tk hPy ho hst' hT hsz hk => ?_
    obtain ⟨hit', _⟩ := hst'
    have hy : y = u := by
      have h1 : its.toArray[i]? = some y := hPy
      simp [hu] at h1
      exact h1.symm
    subst hy
    refine ⟨_, rfl, wpAny_letOwnedTupleGo_enum (s := { s with heap := h', toks := tk + 1 }) ho fun h'' he' sb => ?_⟩
    have hT2 : h''.get? s.heap.objs.size = some { cls := .type "tuple", data := .seq #[.int i tk, y] } := (sb.2 _ (Nat.ne_of_gt hel)).trans hT
    have new : ObjOk X.prog X.w (upd H s.heap.objs.size (.tup [.int (i : Nat), x])) h'' s.heap.objs.size (.tup [.int (i : Nat), x]) :=
      ⟨by show 2 ≤ sizeLine; decide, [.int i tk, y], .cons ⟨_, rfl⟩ (.cons ru .nil), ⟨_, hT2, rfl, _, rfl⟩⟩
    have I1 : Inv X pins σ (upd H s.heap.objs.size (.tup [.int (i : Nat), x])) { s with heap := h'', toks := tk + 1 } :=
      I.turnedNew (ch := [e, it]) (fun b ob hb q => (sb.2 b (fun z => hb (by simp [z]))).trans (hk b ob (fun z => hb (by simp [z])) (fun z => hb (by simp [z])) q)) hf (Nat.le_refl _) new
    refine ⟨.ref s.heap.objs.size, _, I1, rfl, ⟨_, x, rfl, I.hok.fresh (Nat.le_refl _), rfl, fun ys hy => by rw [I.tuple_inj hy hq]; exact hx⟩, ⟨⟨y, ?_⟩, hit'.at fun o q => (sb.2 it (Ne.symm hne)).trans q, hne⟩, fun b hb => ?_⟩
    · have e1 : ((i + 1 : Nat) : Int) = (i : Int) + 1 := by omega
      rw [e1]; exact he'
    · have hb' : b < s.heap.objs.size := by
        have e' : b = e ∨ b = it := by simpa using hb
        rcases e' with z | z
        · rw [z]; exact hel
        · rw [z]; exact hil
      rw [upd_ne (Nat.ne_of_lt hb')]
      exact (hf b hb).1
  done := by
    intro X hP hw hK hc i pins s σ H E I hf st hg
    subst hP hw hK
    obtain ⟨⟨old, he⟩, hit, hne⟩ := st
    obtain ⟨xs, hq, hx⟩ := hg
    obtain ⟨its, rv, p, hz⟩ := I.tuple hq
    have p' : s.heap.IsTuple a its.toArray := p
    obtain ⟨f0, f1, f2, f3, f4, f5⟩ := hf it (by simp)
    have hl := rv.length
    have hT : s.TypeIs (.ref e) "enumerate" := ⟨_, he, rfl⟩
    unfold pyNext
    refine wpAny_bind (wpAny_attempt (wpAny_callSpecial?_slot (name := Str.ofString "__next__") hT F.slot_enumerate_next
      (wpAny_call_entry F.slot_enumerate_next hT F.entry_enumerate_next ?_ (F.args_enumerate_next_1 _))))
    show wpAny _ _ (field (.ref e) 2 >>= _) _ _ _
    refine wpAny_bind (wpAny_field he rfl (x := .ref it) rfl ?_)
    refine wpAny_bind (wpAny_nextOf_tuple_end (A := X.A.in1) (show X.A.in1.handled = none from I.ok.hd hc) hit p' (by simp; omega) fun h' x he' hx' => ?_)
    obtain ⟨o, ho, hc'⟩ := hx'
    refine wpAny_bind (wpAny_isInstance (T := "StopIteration") (b := true) ⟨o, ho, hc'⟩ isSubtype_stop ?_)
    exact wpAny_pure ⟨rfl, I.turned (t' := s.toks) (fun b o hb q => he' b o hb q) f0 f1 f3 f4 f5⟩
  self := fun A i s Q E st h => let ⟨⟨_, he⟩, _⟩ := st; wpAny_pyIter_enum he h
def iEnum2 (K : PySem.W.Frag) (ta : TA) : TI := fun σ H R => ta σ H fun vs H1 => ∃ a xs, vs = [.ref a] ∧ ((SqL K H1 a xs ∧ R (Ite K a) H1) ∨ (SqT K H1 a xs ∧ R (Itet K a) H1))
theorem pi_enum2 {X : Cx} {e : Expr} {ta : TA} {p pos tpos : Pos} {elts : List Expr} {kk : Nat} (hg : Gl X "enumerate") (hm : X.mg "enumerate" = none) (ha : PA X [e] ta) (hs : starEach [e] X.env = [(false, eval e X.env)] := by rfl) :
    PI X (.Tuple elts kk tpos) (.Call (.Name "enumerate" p) [e] [] pos) (iEnum2 X.K ta) := by
  refine ⟨fun pins s σ H R I h => ?_⟩
  refine Call_ (ld_blt I hg hm boot_enumerate (PyProof.Rows.callWith_type1 (thn (ha.run pos pins s σ H _ I h) fun us s1 ⟨vs, H1, I1, r1, q1⟩ => ?_) hs rfl))
  obtain ⟨a, xs, ex, q⟩ := q1
  subst ex
  cases r1 with
  | cons r rr =>
    cases rr
    cases r
    have fp2 : ∀ b ∈ [s1.heap.objs.size + 1, s1.heap.objs.size], FpOk X pins H1 b := fun b hb => by
      have e' : b = s1.heap.objs.size + 1 ∨ b = s1.heap.objs.size := by simpa using hb
      have hle : s1.heap.objs.size ≤ b := by
        rcases e' with z | z
        · rw [z]; exact Nat.le_add_right _ _
        · rw [z]; exact Nat.le_refl _
      exact I1.fpOk hle (I1.hok.fresh hle)
    rcases q with ⟨hq, q⟩ | ⟨hq, q⟩
    · obtain ⟨its, rv, p', hz⟩ := I1.list hq
      refine call_enumerate_list p'.isList fun h' he hit hsz hk => wpAny_pyIter_enum he ?_
      exact ⟨s1.heap.objs.size + 1, [s1.heap.objs.size + 1, s1.heap.objs.size], _, _, H1, rfl, I1.kept (t' := s1.toks) hk, turn_enum a (s1.heap.objs.size + 1) s1.heap.objs.size, ⟨⟨.none, he⟩, hit, Nat.succ_ne_self _⟩, fp2, q⟩
    · obtain ⟨its, rv, p', hz⟩ := I1.tuple hq
      refine call_enumT (show s1.heap.IsTuple a its.toArray from p') fun h' he hit hsz hk => wpAny_pyIter_enum he ?_
      exact ⟨s1.heap.objs.size + 1, [s1.heap.objs.size + 1, s1.heap.objs.size], _, _, H1, rfl, I1.kept (t' := s1.toks) hk, turn_enumT a (s1.heap.objs.size + 1) s1.heap.objs.size, ⟨⟨.none, he⟩, hit, Nat.succ_ne_self _⟩, fp2, q⟩
end Nw

set_option Elab.async false
set_option linter.all false
set_option maxRecDepth 100000
set_option maxHeartbeats 1000000
/-! zip of a tuple and a list; zip of lists, of tuples, of a tuple and a list in one rule -/
namespace Nw
open PySem PySem.Spec PyProof.Rows L2
/-- a tuple's items and a list's as it stands at each turn -/
def ItzM (K : PySem.W.Frag) (a b : Addr) : It :=
  ⟨fun i H => ∃ (xs ys : List V) (x y : V), SqT K H a xs ∧ SqL K H b ys ∧ xs[i]? = some x ∧ ys[i]? = some y,
    fun i H v H' => ∃ T x y, v = .ref T ∧ H T = none ∧ H' = upd H T (.tup [x, y]) ∧ (∀ xs, SqT K H a xs → xs[i]? = some x) ∧ ∀ ys, SqL K H b ys → ys[i]? = some y,
    fun i H => ∃ xs ys : List V, SqT K H a xs ∧ SqL K H b ys ∧ i ≤ xs.length ∧ i ≤ ys.length ∧ (i = xs.length ∨ i = ys.length)⟩
theorem sep_of {z TI TO i1 i2 a b : Addr} (D : ZipApart z TI TO i1 i2 a b) : ZipSep2 z TI TO i1 i2 [i1, a] [i2, b] where
  TIz := D.TIz
  TOz := D.TOz
  TITO := D.TITO
  TIi1 := D.TIi1
  mem1 := by simp
  zf1 := by simp; exact ⟨D.i1z.symm, D.l1z.symm⟩
  Tf1 := by simp; exact ⟨D.TOi1, D.l1TO.symm⟩
  TIi2 := D.TIi2
  mem2 := by simp
  zf2 := by simp; exact ⟨D.i2z.symm, D.l2z.symm⟩
  Tf2 := by simp; exact ⟨D.TOi2, D.l2TO.symm⟩
  sep1_2 := by simp; exact ⟨D.i12, D.l2i1.symm⟩
  sep2_1 := by simp; exact ⟨D.i12.symm, D.l1i2.symm⟩
theorem turn_zipM {P : Program} {w : World} {K : PySem.W.Frag} {elts : List Expr} {kk : Nat} {tpos : Pos} {a b z TI TO i1 i2 : Addr} (D : ZipApart z TI TO i1 i2 a b) :
    Turn P w K (.Tuple elts kk tpos) (ItzM K a b) [z, TI, TO, i1, i2] z (fun i h => IsZip h z TI TO .none ∧ IsPair h TI (.ref i1) (.ref i2) ∧ (∃ x y, IsPair h TO x y) ∧ h.IsTupleIter i1 a i ∧ h.IsListIter i2 b i) where
  mem := by simp
  obj := fun i h st c hc => by
    obtain ⟨hz, hTI, ⟨x, y, hTO⟩, ⟨o1, e1, _, d1⟩, ⟨o2, e2, _, d2⟩⟩ := st
    have e' : c = z ∨ c = TI ∨ c = TO ∨ c = i1 ∨ c = i2 := by simpa using hc
    rcases e' with q | q | q | q | q
    · rw [q]; exact ⟨_, hz, fun v q => nomatch q⟩
    · rw [q]; exact ⟨_, hTI, fun v q => nomatch q⟩
    · rw [q]; exact ⟨_, hTO, fun v q => nomatch q⟩
    · rw [q]; exact ⟨o1, e1, fun v q => by rw [d1] at q; cases q⟩
    · rw [q]; exact ⟨o2, e2, fun v q => by rw [d2] at q; cases q⟩
  keep := fun i h h' st k => by
    obtain ⟨hz, hTI, ⟨x, y, hTO⟩, h1, h2⟩ := st
    exact ⟨k z (by simp) _ hz, k TI (by simp) _ hTI, ⟨x, y, k TO (by simp) _ hTO⟩, h1.at fun o q => k i1 (by simp) o q, h2.at fun o q => k i2 (by simp) o q⟩
  item := by
    intro X hP hw hK hc i pins s σ H E I hf st hg
    subst hP hw hK
    obtain ⟨hz, hTI, ⟨x0, y0, hTO⟩, h1, h2⟩ := st
    obtain ⟨xs, ys, x, y, hqx, hqy, hx, hy⟩ := hg
    obtain ⟨its, rv, p, _⟩ := I.tuple hqx
    obtain ⟨its2, rv2, p2, _⟩ := I.list hqy
    obtain ⟨u, hu, ru⟩ := rv.get hx
    obtain ⟨u2, hu2, ru2⟩ := rv2.get hy
    have hzl : z < s.heap.objs.size := Heap.lt_size hz
    have hh : X.A.in1.handled = none := I.ok.hd hc
    have l1 : i < its.toArray.size := by have := (List.getElem?_eq_some_iff.mp hu).1; simpa using this
    have l2 : i < its2.toArray.size := by have := (List.getElem?_eq_some_iff.mp hu2).1; simpa using this
    refine wpAny_pyNext_zipD2_item (sep_of D) (Draws.tuple hh i1 a D.l1i1 its.toArray) (Draws.list hh i2 b D.l2i2 its2.toArray) hz hTI hTO ⟨h1, p⟩ ⟨h2, p2.isList⟩ l1 l2 fun x1 x2 h' tk y1 y2 z' TO' st1 st2 hT hsz hk => ?_
    have e1 : x1 = u := by
      have y1 : its.toArray[i]? = some x1 := y1
      simp [hu] at y1
      exact y1.symm
    have e2 : x2 = u2 := by
      have y2 : its2.toArray[i]? = some x2 := y2
      simp [hu2] at y2
      exact y2.symm
    subst e1 e2
    refine ⟨_, rfl, wpAny_letOwnedTupleGo_zip (s := { s with heap := h', toks := tk }) z' fun h'' z'' sb => ?_⟩
    have hT2 : h''.get? s.heap.objs.size = some { cls := .type "tuple", data := .seq #[x1, x2] } := (sb.2 _ (Nat.ne_of_gt hzl)).trans hT
    have new : ObjOk X.prog X.w (upd H s.heap.objs.size (.tup [x, y])) h'' s.heap.objs.size (.tup [x, y]) :=
      ⟨by show 2 ≤ sizeLine; decide, [x1, x2], .cons ru (.cons ru2 .nil), ⟨_, hT2, rfl, _, rfl⟩⟩
    have I1 : Inv X pins σ (upd H s.heap.objs.size (.tup [x, y])) { s with heap := h'', toks := tk } :=
      I.turnedNew (t' := tk) (ch := [z, TI, TO, i1, i2]) (fun c o hb q => (sb.2 c (fun q' => hb (by simp [q']))).trans (hk c o (fun q' => hb (by simp [q'])) (fun q' => hb (by simp [q'])) (fun q' => hb (by simp [q'])) (fun q' => hb (by simp [q'])) q)) hf (Nat.le_refl _) new
    refine ⟨.ref s.heap.objs.size, _, I1, rfl, ⟨_, x, y, rfl, I.hok.fresh (Nat.le_refl _), rfl, fun l hl => by rw [I.tuple_inj hl hqx]; exact hx, fun l hl => by rw [I.list_inj hl hqy]; exact hy⟩, ⟨z'', ?_, ⟨x1, x2, ?_⟩, ?_, ?_⟩, fun c hcm => ?_⟩
    · exact (sb.2 _ D.TIz).trans (hk _ _ D.TIz D.TITO D.TIi1 D.TIi2 hTI)
    · exact (sb.2 _ D.TOz).trans TO'
    · exact st1.1.at fun o q => (sb.2 _ D.i1z).trans q
    · exact st2.1.at fun o q => (sb.2 _ D.i2z).trans q
    · have hlt : c < s.heap.objs.size := by
        have e' : c = z ∨ c = TI ∨ c = TO ∨ c = i1 ∨ c = i2 := by simpa using hcm
        rcases e' with q | q | q | q | q
        · rw [q]; exact hzl
        · rw [q]; exact Heap.lt_size hTI
        · rw [q]; exact Heap.lt_size hTO
        · rw [q]; obtain ⟨_, e1, _⟩ := h1; exact Heap.lt_size e1
        · rw [q]; obtain ⟨_, e2, _⟩ := h2; exact Heap.lt_size e2
      rw [upd_ne (Nat.ne_of_lt hlt)]
      exact (hf c hcm).1
  done := by
    intro X hP hw hK hc i pins s σ H E I hf st hg
    subst hP hw hK
    obtain ⟨hz, hTI, ⟨x0, y0, hTO⟩, h1, h2⟩ := st
    obtain ⟨xs, ys, hqx, hqy, b1, b2, hend⟩ := hg
    obtain ⟨its, rv, p, _⟩ := I.tuple hqx
    obtain ⟨its2, rv2, p2, _⟩ := I.list hqy
    have l1 := rv.length
    have l2 := rv2.length
    have hh : X.A.in1.handled = none := I.ok.hd hc
    have he : i = its.toArray.size ∨ i = its2.toArray.size := by simp; omega
    exact wpAny_pyNext_zipD2_end (sep_of D) (Draws.tuple hh i1 a D.l1i1 its.toArray) (Draws.list hh i2 b D.l2i2 its2.toArray) hz hTI hTO ⟨h1, p⟩ ⟨h2, p2.isList⟩ (by simp; omega) (by simp; omega) he fun h' tk hk => ⟨rfl, I.turnedL (t' := tk) (ch := [z, TI, TO, i1, i2]) (fun c o hb q =>
      hk c o (fun q' => hb (by simp [q'])) (fun q' => hb (by simp [q'])) (fun q' => hb (by simp [q'])) (fun q' => hb (by simp [q'])) q) hf⟩
  self := fun A i s Q E st h => wpAny_pyIter_zip st.1 h

def iZip3 (K : PySem.W.Frag) (ta : TA) : TI := fun σ H R => ta σ H fun vs H1 => ∃ a b xs ys, vs = [.ref a, .ref b] ∧ ((SqL K H1 a xs ∧ SqL K H1 b ys ∧ R (Itz K a b) H1) ∨ (SqT K H1 a xs ∧ SqT K H1 b ys ∧ R (RZ.ItzT K a b) H1) ∨ (SqT K H1 a xs ∧ SqL K H1 b ys ∧ R (ItzM K a b) H1))
theorem pi_zip3 {X : Cx} {e e2 : Expr} {ta : TA} {p pos tpos : Pos} {elts : List Expr} {kk : Nat} (hg : Gl X "zip") (hm : X.mg "zip" = none) (ha : PA X [e, e2] ta)
    (hs : starEach [e, e2] X.env = (false, eval e X.env) :: starEach [e2] X.env := by rfl) (hpl : (backTo pos (starEach [e2] X.env)).any (·.1) = false := by rfl) :
    PI X (.Tuple elts kk tpos) (.Call (.Name "zip" p) [e, e2] [] pos) (iZip3 X.K ta) := by
  refine ⟨fun pins s σ H R I h => ?_⟩
  refine Call_ (ld_blt I hg hm PyProof.Rows.boot_zip (PyProof.Rows.callWith_type1 (thn (ha.run pos pins s σ H _ I h) fun us s1 ⟨vs, H1, I1, r1, q1⟩ => ?_) hs hpl))
  obtain ⟨a, b, xs, ys, ex, q1⟩ := q1
  subst ex
  cases r1 with
  | cons r rr =>
  cases rr with
  | cons r' rr =>
  cases rr
  cases r
  cases r'
  have fresh5 : ∀ c, c ∈ [s1.heap.objs.size + 4, s1.heap.objs.size + 2, s1.heap.objs.size + 3, s1.heap.objs.size, s1.heap.objs.size + 1] → FpOk X pins H1 c := fun c hcm => by
    have e' : c = s1.heap.objs.size + 4 ∨ c = s1.heap.objs.size + 2 ∨ c = s1.heap.objs.size + 3 ∨ c = s1.heap.objs.size ∨ c = s1.heap.objs.size + 1 := by simpa using hcm
    have hle : s1.heap.objs.size ≤ c := by
      rcases e' with z | z | z | z | z
      · rw [z]; exact Nat.le_add_right _ _
      · rw [z]; exact Nat.le_add_right _ _
      · rw [z]; exact Nat.le_add_right _ _
      · rw [z]; exact Nat.le_refl _
      · rw [z]; exact Nat.le_add_right _ _
    exact I1.fpOk hle (I1.hok.fresh hle)
  rcases q1 with ⟨hqx, hqy, q⟩ | ⟨hqx, hqy, q⟩ | ⟨hqx, hqy, q⟩
  · obtain ⟨its, rv, p1, _⟩ := I1.list hqx
    obtain ⟨its2, rv2, p2, _⟩ := I1.list hqy
    refine call_zip_2 p1.isList p2.isList fun h' hz hTI hTO h1 h2 hsz hk => wpAny_pyIter_zip hz ?_
    have I2 : Inv X pins σ H1 { s1 with heap := h' } := I1.kept (t' := s1.toks) hk
    exact ⟨_, _, _, _, H1, rfl, I2, turn_zip (PySem.W.ktu_apart s1.heap.objs.size a b p1.lt p2.lt), ⟨hz, hTI, ⟨_, _, hTO⟩, h1, h2⟩, fresh5, q⟩
  · obtain ⟨its, rv, p1, _⟩ := I1.tuple hqx
    obtain ⟨its2, rv2, p2, _⟩ := I1.tuple hqy
    obtain ⟨o1, ho1, _⟩ := id p1
    obtain ⟨o2, ho2, _⟩ := id p2
    refine RZ.call_zipT (show s1.heap.IsTuple a its.toArray from p1) (show s1.heap.IsTuple b its2.toArray from p2) fun h' hz hTI hTO h1 h2 hsz hk => wpAny_pyIter_zip hz ?_
    have I2 : Inv X pins σ H1 { s1 with heap := h' } := I1.kept (t' := s1.toks) hk
    exact ⟨_, _, _, _, H1, rfl, I2, RZ.turn_zipT (PySem.W.ktu_apart s1.heap.objs.size a b (Heap.lt_size ho1) (Heap.lt_size ho2)), ⟨hz, hTI, ⟨_, _, hTO⟩, h1, h2⟩, fresh5, q⟩
  · obtain ⟨its, rv, p1, _⟩ := I1.tuple hqx
    obtain ⟨its2, rv2, p2, _⟩ := I1.list hqy
    obtain ⟨o1, ho1, _⟩ := id p1
    refine zip_begins2 (begins_tuple a its.toArray) (begins_list b its2.toArray) p1 p2.isList fun h' hz hTI hTO h1 h2 hsz hk => wpAny_pyIter_zip hz ?_
    have I2 : Inv X pins σ H1 { s1 with heap := h' } := I1.kept (t' := s1.toks) hk
    exact ⟨_, _, _, _, H1, rfl, I2, turn_zipM (PySem.W.ktu_apart s1.heap.objs.size a b (Heap.lt_size ho1) p2.lt), ⟨hz, hTI, ⟨_, _, hTO⟩, ⟨_, h1, rfl, rfl⟩, ⟨_, h2, rfl, rfl⟩⟩, fresh5, q⟩
end Nw

set_option Elab.async false
set_option linter.all false
set_option maxRecDepth 100000
set_option maxHeartbeats 1000000
namespace Nw
open PySem L2

section
variable {α β : Type} {G : Cfg} {W : WX} {X : Cx} {σ : St} {μ : List Addr} {H : Hp} {S : Store} {Q : VK} {G' : Tab} {ft : Fns}
variable {o e f : Expr} {pa pb pc : PyE} {p q : PyS} {apos cpos pos pos' tpos : Pos} {D : Ends} {env : Env} {st : Stmt} {sts : List Stmt}

/-! while -/
theorem whl_turn {c : Env → Store → Res Val} {body : Env → Store → Out} {n : Nat} (s : Sim G μ S H) (e : REnv μ H env σ) (h : AfterO G W μ H (whlW c body (n + 1) env S) D) :
    liftT G W (tst c) σ H fun b H1 => if b = true then liftS G W body { D with nx := fun σ' H' => ∃ μ env S, Sim G μ S H' ∧ REnv μ H' env σ' ∧ AfterO G W μ H' (whlW c body n env S) D, ct := fun σ' H' => ∃ μ env S, Sim G μ S H' ∧ REnv μ H' env σ' ∧ AfterO G W μ H' (whlW c body n env S) D, bk := D.nx } σ H1 else D.nx σ H1 := by
  unfold whlW at h
  have h1 := outA h e
  refine ⟨μ, env, S, s, e, ?_⟩
  unfold tst
  cases er : c env S with
  | no => rw [er] at h1; exact h1.elim
  | ex x S1 => rw [er] at h1; exact h1
  | ok v S1 =>
    rw [er] at h1
    simp only [Res.bind_ok]
    cases et : tru S1 v with
    | none =>
      rw [er] at h
      simp only [Res.out_ok, ifS, et] at h
      exact h.elim
    | some b =>
      simp only [Res.ofO_some]
      intro μ' H' u k s'
      have h2 := h1 μ' H' u k s'
      simp only [ifS, et] at h2
      cases b with
      | false => exact h2 μ' H' σ (Up.refl _) (Keep.refl _) s' (e.mono u k)
      | true =>
        simp only [if_true]
        refine ⟨μ', env, S1, s', e.mono u k, ?_⟩
        cases eb : body env S1 with
        | nx e' S' =>
          rw [eb] at h2
          exact fun μ2 H2 σ2 u2 k2 s2 e2 => ⟨μ2, e', S', s2, e2, AfterO.later (o := whlW c body n e' S') h2 u2 k2⟩
        | ct e' S' =>
          rw [eb] at h2
          exact fun μ2 H2 σ2 u2 k2 s2 e2 => ⟨μ2, e', S', s2, e2, AfterO.later (o := whlW c body n e' S') h2 u2 k2⟩
        | bk e' S' => rw [eb] at h2; exact h2
        | rt v S' => rw [eb] at h2; exact h2
        | ex x e' S' => rw [eb] at h2; exact h2
        | no => rw [eb] at h2; exact h2.elim
theorem ds_whl {c : Expr} {body : List Stmt} (hp : PassesOwn (model X.prog X.w) X.A X.env X.xe) (hc : PT X c (liftT G W (tst (ev G' ft pa)))) (hb : PSs X body (liftS G W (ex G' ft p))) : PS X (.While c body [] pos) (liftS G W (ex G' ft (.whl pa p))) := by
  refine (ps_while hp hc hb).imp fun D σ H ⟨μ, env, S, s, e, h⟩ => ?_
  simp only [ex] at h
  refine ⟨fun m σ H => ∃ μ env S, Sim G μ S H ∧ REnv μ H env σ ∧ AfterO G W μ H (whlW (ev G' ft pa) (ex G' ft p) m env S) D, ⟨whileBound, μ, env, S, s, e, h⟩, ?_⟩
  rintro m σ' H' ⟨μ', env', S', s', e', h'⟩
  cases m with
  | zero => exact h'.elim
  | succ n =>
    obtain ⟨μ1, env1, S1, s1, e1, h1⟩ := whl_turn s' e' h'
    refine ⟨μ1, env1, S1, s1, e1, h1.imp fun b μ2 S2 H2 u2 k2 s2 h2 => ?_⟩
    cases b with
    | false => exact h2
    | true =>
      simp only [if_true] at h2 ⊢
      exact ⟨_, fun σ3 H3 h3 => ⟨n, Nat.lt_succ_self n, h3⟩, h2⟩

/-! what is walked -/
def ItOk (G : Cfg) (μ : List Addr) (H : Hp) (w : Walk) (J : It) : Prop := ∀ μ' H' S' i, Up μ μ' → Keep H H' → Sim G μ' S' H' →
  (∀ v, walkAt S' w i = some (some v) → J.go i H' ∧ ∀ x H'', J.yld i H' x H'' → Keep H' H'' ∧ Sim G μ' S' H'' ∧ RV μ' H'' v x) ∧ (walkAt S' w i = some none → J.stop i H')
def iG (G : Cfg) (W : WX) (k : ItK) (m : Env → Store → Res (List Val)) : TI := fun σ H R => ∃ μ env S, Sim G μ S H ∧ REnv μ H env σ ∧ After G W σ μ H (m env S) fun vs μ' S' H' => Sim G μ' S' H' → ∃ w n, mkWalk k S' vs = some (w, n) ∧ ∀ J, ItOk G μ' H' w J → R J H'
theorem lst?_of {v : Val} {xs : List Val} (h : lst? S v = some xs) : ∃ i l, v = .obj i ∧ S[i]? = some (.lst l xs) := by
  unfold lst? at h
  split at h
  · split at h
    · rename_i eo
      cases h
      exact ⟨_, _, rfl, eo⟩
    · cases h
  · cases h
theorem sql_one {K : PySem.W.Frag} (hK : G.K = K) (s : Sim G μ S H) {i : Nat} {xs : List Val} {a : Addr} (h : lst? S (.obj i) = some xs) (ha : μ[i]? = some a) : ∃ ys, SqL K H a ys ∧ RVs μ H xs ys := by
  obtain ⟨j, l, e1, e2⟩ := lst?_of h
  cases e1
  obtain ⟨b, ys, g1, g2, g3⟩ := s.lstR e2
  rw [ha] at g1; cases g1
  exact ⟨ys, by rw [← hK]; exact g2, g3⟩
theorem ItOk.lst {K : PySem.W.Frag} (hK : G.K = K) {i : Nat} {a : Addr} (ha : μ[i]? = some a) : ItOk G μ H (.lst i) (Itl K a) := by
  intro μ' H' S' j u k s
  refine ⟨fun v e => ?_, fun e => ?_⟩
  · simp only [walkAt] at e
    obtain ⟨xs, e1, e2⟩ := Option.map_eq_some_iff.mp e
    obtain ⟨ys, h1, h2⟩ := sql_one hK s e1 (u _ _ ha)
    obtain ⟨x, h3, h4⟩ := h2.get e2
    refine ⟨⟨ys, x, h1, h3⟩, fun x' H'' ⟨hh, hx⟩ => ?_⟩
    subst hh
    have := hx ys h1
    rw [h3] at this; cases this
    exact ⟨Keep.refl _, s, h4⟩
  · simp only [walkAt] at e
    obtain ⟨xs, e1, e2⟩ := Option.map_eq_some_iff.mp e
    obtain ⟨ys, h1, h2⟩ := sql_one hK s e1 (u _ _ ha)
    exact ⟨ys, h1, by rw [← h2.length]; exact List.getElem?_eq_none_iff.mp e2⟩
theorem ItOk.tup {K : PySem.W.Frag} {a : Addr} {xs : List Val} {ys : List V} (ha : H a = some (.tup ys)) (r : RVs μ H xs ys) : ItOk G μ H (.sq xs) (Itt K a) := by
  intro μ' H' S' j u k s
  have h1 : SqT K H' a ys := SqT.of (k.t.tu _ _ ha)
  have r' := r.mono u k
  refine ⟨fun v e => ?_, fun e => ?_⟩
  · simp only [walkAt, Option.some.injEq] at e
    obtain ⟨x, h3, h4⟩ := r'.get e
    refine ⟨⟨ys, x, h1, h3⟩, fun x' H'' ⟨hh, hx⟩ => ?_⟩
    subst hh
    have := hx ys h1
    rw [h3] at this; cases this
    exact ⟨Keep.refl _, s, h4⟩
  · simp only [walkAt, Option.some.injEq] at e
    exact ⟨ys, h1, by rw [← r.length]; exact List.getElem?_eq_none_iff.mp e⟩
theorem ItOk.enmT {K : PySem.W.Frag} {a : Addr} {xs : List Val} {ys : List V} (ha : H a = some (.tup ys)) (r : RVs μ H xs ys) : ItOk G μ H (.sq (enumL xs)) (Itet K a) := by
  intro μ' H' S' j u k s
  have h1 : SqT K H' a ys := SqT.of (k.t.tu _ _ ha)
  have r' := r.mono u k
  refine ⟨fun v e => ?_, fun e => ?_⟩
  · simp only [walkAt, Option.some.injEq, enumL, List.getElem?_mapIdx] at e
    obtain ⟨w, e3, e4⟩ := Option.map_eq_some_iff.mp e
    subst e4
    obtain ⟨x, h3, h4⟩ := r'.get e3
    refine ⟨⟨ys, x, h1, h3⟩, fun x' H'' ⟨T, x2, hv, hT, hh, hx⟩ => ?_⟩
    have := hx ys h1
    rw [h3] at this; cases this
    subst hh; subst hv
    have kp := Keep.new (o := .tup [.int (j : Nat), x]) hT
    exact ⟨kp, s.new hT, .tup upd_same (.cons (.int _) (.cons (h4.mono (Up.refl _) kp _ _) .nil))⟩
  · simp only [walkAt, Option.some.injEq, enumL, List.getElem?_mapIdx, Option.map_eq_none_iff] at e
    exact ⟨ys, h1, by rw [← r.length]; exact List.getElem?_eq_none_iff.mp e⟩
theorem ItOk.rng {lo : Int} {n : Nat} : ItOk G μ H (.sq (rangeL lo n)) (Itr lo n) := by
  intro μ' H' S' j u k s
  refine ⟨fun v e => ?_, fun e => ?_⟩
  · simp only [walkAt, Option.some.injEq, rangeL, List.getElem?_map] at e
    obtain ⟨x, h3, h4⟩ := Option.map_eq_some_iff.mp e
    have hj : j < n := by
      have := (List.getElem?_eq_some_iff.mp h3).1
      simpa using this
    have hx : x = j := by
      have := (List.getElem?_eq_some_iff.mp h3).2
      simpa using this.symm
    subst hx
    refine ⟨hj, fun x' H'' ⟨hh, hx⟩ => ?_⟩
    subst hh
    subst hx
    subst h4
    exact ⟨Keep.refl _, s, .int _⟩
  · simp only [walkAt, Option.some.injEq, rangeL, List.getElem?_map, Option.map_eq_none_iff] at e
    have := List.getElem?_eq_none_iff.mp e
    show n ≤ j
    simpa using this
theorem ItOk.step {lo c : Int} {n : Nat} : ItOk G μ H (.sq (stepL lo c n)) (Itc lo c n) := by
  intro μ' H' S' j u k s
  refine ⟨fun v e => ?_, fun e => ?_⟩
  · simp only [walkAt, Option.some.injEq, stepL, List.getElem?_map] at e
    obtain ⟨x, h3, h4⟩ := Option.map_eq_some_iff.mp e
    have hj : j < n := by
      have := (List.getElem?_eq_some_iff.mp h3).1
      simpa using this
    have hx : x = j := by
      have := (List.getElem?_eq_some_iff.mp h3).2
      simpa using this.symm
    subst hx
    refine ⟨hj, fun x' H'' ⟨hh, hx⟩ => ?_⟩
    subst hh
    subst hx
    subst h4
    exact ⟨Keep.refl _, s, .int _⟩
  · simp only [walkAt, Option.some.injEq, stepL, List.getElem?_map, Option.map_eq_none_iff] at e
    have := List.getElem?_eq_none_iff.mp e
    show n ≤ j
    simpa using this
theorem ItOk.rngC {n : Nat} : ItOk G μ H (.sq (rangeL 0 n).reverse) (Itc (0 + ((n : Nat) : Int) - 1) (-1) n) := by
  have hl : (rangeL 0 n).length = n := by simp [rangeL]
  intro μ' H' S' j u k s
  refine ⟨fun v e => ?_, fun e => ?_⟩
  · simp only [walkAt, Option.some.injEq] at e
    have hj : j < n := by
      have := (List.getElem?_eq_some_iff.mp e).1
      rwa [List.length_reverse, hl] at this
    rw [List.getElem?_reverse (by rw [hl]; exact hj), hl] at e
    simp only [rangeL, List.getElem?_map] at e
    obtain ⟨x, h3, h4⟩ := Option.map_eq_some_iff.mp e
    have hx : x = n - 1 - j := by
      have := (List.getElem?_eq_some_iff.mp h3).2
      simpa using this.symm
    refine ⟨hj, fun x' H'' ⟨hh, hx'⟩ => ?_⟩
    subst hh
    subst hx'
    subst h4
    have e2 : 0 + (n : Int) - 1 + (j : Int) * -1 = 0 + (x : Int) := by rw [hx]; omega
    rw [e2]
    exact ⟨Keep.refl _, s, .int _⟩
  · simp only [walkAt, Option.some.injEq] at e
    have := List.getElem?_eq_none_iff.mp e
    rw [List.length_reverse, hl] at this
    exact this
theorem ItOk.str {z : Str} (hz : sOk z = true) : ItOk G μ H (.sq (z.cps.toList.map fun c => .str ⟨#[c]⟩)) (Its z) := by
  intro μ' H' S' j u k s
  refine ⟨fun v e => ?_, fun e => ?_⟩
  · simp only [walkAt, Option.some.injEq, List.getElem?_map] at e
    obtain ⟨c, h3, h4⟩ := Option.map_eq_some_iff.mp e
    have h5 : z.cps[j]? = some c := by simpa using h3
    have hj : j < z.cps.size := (Array.getElem?_eq_some_iff.mp h5).1
    refine ⟨hj, fun x' H'' ⟨hh, c', hx, hv⟩ => ?_⟩
    subst hh
    rw [h5] at hx; cases hx
    subst hv; subst h4
    refine ⟨Keep.refl _, s, .str ?_⟩
    unfold sOk at hz ⊢
    have : c ∈ z.cps := by
      have := (Array.getElem?_eq_some_iff.mp h5)
      obtain ⟨h1, h2⟩ := this
      rw [← h2]; exact Array.getElem_mem h1
    have := Array.all_eq_true'.mp hz c this
    simpa using this
  · simp only [walkAt, Option.some.injEq, List.getElem?_map, Option.map_eq_none_iff] at e
    have := List.getElem?_eq_none_iff.mp e
    show z.cps.size ≤ j
    simpa using this
theorem ItOk.enm {K : PySem.W.Frag} (hK : G.K = K) {i : Nat} {a : Addr} (ha : μ[i]? = some a) : ItOk G μ H (.enm i) (Ite K a) := by
  intro μ' H' S' j u k s
  refine ⟨fun v e => ?_, fun e => ?_⟩
  · simp only [walkAt] at e
    obtain ⟨xs, e1, e2⟩ := Option.map_eq_some_iff.mp e
    obtain ⟨w, e3, e4⟩ := Option.map_eq_some_iff.mp e2
    subst e4
    obtain ⟨ys, h1, h2⟩ := sql_one hK s e1 (u _ _ ha)
    obtain ⟨x, h3, h4⟩ := h2.get e3
    refine ⟨⟨ys, x, h1, h3⟩, fun x' H'' ⟨T, x2, hv, hT, hh, hx⟩ => ?_⟩
    have := hx ys h1
    rw [h3] at this; cases this
    subst hh; subst hv
    have kp := Keep.new (o := .tup [.int (j : Nat), x]) hT
    exact ⟨kp, s.new hT, .tup upd_same (.cons (.int _) (.cons (h4.mono (Up.refl _) kp _ _) .nil))⟩
  · simp only [walkAt] at e
    obtain ⟨xs, e1, e2⟩ := Option.map_eq_some_iff.mp e
    obtain ⟨ys, h1, h2⟩ := sql_one hK s e1 (u _ _ ha)
    exact ⟨ys, h1, by rw [← h2.length]; exact List.getElem?_eq_none_iff.mp (Option.map_eq_none_iff.mp e2)⟩
theorem ItOk.zp {K : PySem.W.Frag} (hK : G.K = K) {i j : Nat} {a b : Addr} (ha : μ[i]? = some a) (hb : μ[j]? = some b) : ItOk G μ H (.zp i j) (Itz K a b) := by
  intro μ' H' S' n u k s
  refine ⟨fun v e => ?_, fun e => ?_⟩
  · simp only [walkAt] at e
    obtain ⟨xs, e1, e2⟩ := Option.bind_eq_some_iff.mp e
    obtain ⟨ys, e3, e4⟩ := Option.map_eq_some_iff.mp e2
    obtain ⟨x, e5, e6⟩ := Option.bind_eq_some_iff.mp e4
    obtain ⟨y, e7, e8⟩ := Option.map_eq_some_iff.mp e6
    subst e8
    obtain ⟨xs', h1, h2⟩ := sql_one hK s e1 (u _ _ ha)
    obtain ⟨ys', g1, g2⟩ := sql_one hK s e3 (u _ _ hb)
    obtain ⟨x', h3, h4⟩ := h2.get e5
    obtain ⟨y', g3, g4⟩ := g2.get e7
    refine ⟨⟨xs', ys', x', y', h1, g1, h3, g3⟩, fun v' H'' ⟨T, x2, y2, hv, hT, hh, hx, hy⟩ => ?_⟩
    have := hx xs' h1
    rw [h3] at this; cases this
    have := hy ys' g1
    rw [g3] at this; cases this
    subst hh; subst hv
    have kp := Keep.new (o := .tup [x', y']) hT
    exact ⟨kp, s.new hT, .tup upd_same (.cons (h4.mono (Up.refl _) kp _ _) (.cons (g4.mono (Up.refl _) kp _ _) .nil))⟩
  · simp only [walkAt] at e
    obtain ⟨xs, e1, e2⟩ := Option.bind_eq_some_iff.mp e
    obtain ⟨ys, e3, e4⟩ := Option.map_eq_some_iff.mp e2
    obtain ⟨xs', h1, h2⟩ := sql_one hK s e1 (u _ _ ha)
    obtain ⟨ys', g1, g2⟩ := sql_one hK s e3 (u _ _ hb)
    refine ⟨xs', ys', h1, g1, ?_⟩
    rw [← h2.length, ← g2.length]
    cases e5 : xs[n]? with
    | none => exact .inl (List.getElem?_eq_none_iff.mp e5)
    | some x =>
      rw [e5] at e4
      simp only [Option.bind_some, Option.map_eq_none_iff] at e4
      exact .inr (List.getElem?_eq_none_iff.mp e4)
theorem ItOk.zpT {K : PySem.W.Frag} {a b : Addr} {xs ws : List Val} {ys zs : List V} (ha : H a = some (.tup ys)) (r : RVs μ H xs ys) (hb : H b = some (.tup zs)) (r2 : RVs μ H ws zs) : ItOk G μ H (.sq (zipT xs ws)) (RZ.ItzT K a b) := by
  intro μ' H' S' n u k s
  have h1 : SqT K H' a ys := SqT.of (k.t.tu _ _ ha)
  have g1 : SqT K H' b zs := SqT.of (k.t.tu _ _ hb)
  have r' := r.mono u k
  have r2' := r2.mono u k
  refine ⟨fun v e => ?_, fun e => ?_⟩
  · simp only [walkAt, Option.some.injEq, zipT, List.getElem?_map] at e
    obtain ⟨p, e3, e4⟩ := Option.map_eq_some_iff.mp e
    obtain ⟨e5, e6⟩ := List.getElem?_zip_eq_some.mp e3
    subst e4
    obtain ⟨x', h3, h4⟩ := r'.get e5
    obtain ⟨y', g3, g4⟩ := r2'.get e6
    refine ⟨⟨ys, zs, x', y', h1, g1, h3, g3⟩, fun v' H'' ⟨T, x2, y2, hv, hT, hh, hx, hy⟩ => ?_⟩
    have := hx ys h1
    rw [h3] at this; cases this
    have := hy zs g1
    rw [g3] at this; cases this
    subst hh; subst hv
    have kp := Keep.new (o := .tup [x', y']) hT
    exact ⟨kp, s.new hT, .tup upd_same (.cons (h4.mono (Up.refl _) kp _ _) (.cons (g4.mono (Up.refl _) kp _ _) .nil))⟩
  · simp only [walkAt, Option.some.injEq, zipT, List.getElem?_map, Option.map_eq_none_iff] at e
    have e := List.getElem?_eq_none_iff.mp e
    rw [List.length_zip] at e
    refine ⟨ys, zs, h1, g1, ?_⟩
    rw [← r.length, ← r2.length]
    omega
theorem ItOk.zt {K : PySem.W.Frag} (hK : G.K = K) {j : Nat} {a b : Addr} {xs : List Val} {ys : List V} (ha : H a = some (.tup ys)) (r : RVs μ H xs ys) (hb : μ[j]? = some b) : ItOk G μ H (.zt xs j) (ItzM K a b) := by
  intro μ' H' S' n u k s
  have h1 : SqT K H' a ys := SqT.of (k.t.tu _ _ ha)
  have r' := r.mono u k
  refine ⟨fun v e => ?_, fun e => ?_⟩
  · simp only [walkAt] at e
    obtain ⟨ws, e3, e4⟩ := Option.bind_eq_some_iff.mp e
    split at e4
    · simp only [Option.some.injEq] at e4
      obtain ⟨x, e5, e6⟩ := Option.bind_eq_some_iff.mp e4
      obtain ⟨y, e7, e8⟩ := Option.map_eq_some_iff.mp e6
      subst e8
      obtain ⟨zs, g1, g2⟩ := sql_one hK s e3 (u _ _ hb)
      obtain ⟨x', h3, h4⟩ := r'.get e5
      obtain ⟨y', g3, g4⟩ := g2.get e7
      refine ⟨⟨ys, zs, x', y', h1, g1, h3, g3⟩, fun v' H'' ⟨T, x2, y2, hv, hT, hh, hx, hy⟩ => ?_⟩
      have := hx ys h1
      rw [h3] at this; cases this
      have := hy zs g1
      rw [g3] at this; cases this
      subst hh; subst hv
      have kp := Keep.new (o := .tup [x', y']) hT
      exact ⟨kp, s.new hT, .tup upd_same (.cons (h4.mono (Up.refl _) kp _ _) (.cons (g4.mono (Up.refl _) kp _ _) .nil))⟩
    · cases e4
  · simp only [walkAt] at e
    obtain ⟨ws, e3, e4⟩ := Option.bind_eq_some_iff.mp e
    split at e4
    · rename_i hb2
      simp only [Bool.and_eq_true, decide_eq_true_eq] at hb2
      simp only [Option.some.injEq] at e4
      obtain ⟨zs, g1, g2⟩ := sql_one hK s e3 (u _ _ hb)
      refine ⟨ys, zs, h1, g1, ?_⟩
      rw [← r.length, ← g2.length]
      refine ⟨hb2.1, hb2.2, ?_⟩
      cases e5 : xs[n]? with
      | none => have := List.getElem?_eq_none_iff.mp e5; exact .inl (by omega)
      | some x =>
        rw [e5] at e4
        simp only [Option.bind_some, Option.map_eq_none_iff] at e4
        have := List.getElem?_eq_none_iff.mp e4
        exact .inr (by omega)
    · cases e4
theorem ItOk.rv {K : PySem.W.Frag} (hK : G.K = K) {i n : Nat} {a : Addr} (ha : μ[i]? = some a) : ItOk G μ H (.rv i n) (Itv K a n) := by
  intro μ' H' S' j u k s
  refine ⟨fun v e => ?_, fun e => ?_⟩
  · simp only [walkAt] at e
    obtain ⟨xs, e1, e2⟩ := Option.bind_eq_some_iff.mp e
    split at e2
    · rename_i hj
      obtain ⟨w, e3, e4⟩ := Option.map_eq_some_iff.mp e2
      cases e4
      obtain ⟨ys, h1, h2⟩ := sql_one hK s e1 (u _ _ ha)
      obtain ⟨x, h3, h4⟩ := h2.get e3
      refine ⟨⟨hj, ys, x, h1, h3⟩, fun x' H'' ⟨hh, hx⟩ => ?_⟩
      subst hh
      have := hx ys h1
      rw [h3] at this; cases this
      exact ⟨Keep.refl _, s, h4⟩
    · cases e2
  · simp only [walkAt] at e
    obtain ⟨xs, e1, e2⟩ := Option.bind_eq_some_iff.mp e
    show n ≤ j
    split at e2
    · obtain ⟨w, e3, e4⟩ := Option.map_eq_some_iff.mp e2
      cases e4
    · rename_i hj; omega

/-! iterables -/
/-- readings of an iterable are joined -/
theorem pi_or {tg : Expr} {wi wi' : TI} (h : PI X tg e wi) (h' : PI X tg e wi') : PI X tg e (fun σ H R => wi σ H R ∨ wi' σ H R) := ⟨fun pins s σ H R I q => q.elim (h.run pins s σ H R I) (h'.run pins s σ H R I)⟩
theorem pi_imp {tg : Expr} {wi wi' : TI} (h : PI X tg e wi) (i : ∀ σ H R, wi' σ H R → wi σ H R) : PI X tg e wi' := ⟨fun pins s σ H R I q => h.run pins s σ H R I (i σ H R q)⟩
theorem iG_one {k : ItK} {R : It → Hp → Prop} (h : iG G W k (evA G' ft (.cons pa .nil)) σ H R) : ∃ μ env S, Sim G μ S H ∧ REnv μ H env σ ∧ After G W σ μ H (ev G' ft pa env S) fun v μ' S' H' => Sim G μ' S' H' → ∃ w n, mkWalk k S' [v] = some (w, n) ∧ ∀ J, ItOk G μ' H' w J → R J H' := by
  obtain ⟨μ, env, S, s, e, h⟩ := h
  simp only [evA] at h
  refine ⟨μ, env, S, s, e, h.bind.imp fun v μ1 S1 H1 u1 k1 s1 q s1' => ?_⟩
  simp only [Res.bind_ok] at q
  exact q.here s1' s1'
theorem di_val {tg : Expr} (hK : G.K = X.K) (he : PE X e (lift G W (ev G' ft pa))) : PI X tg e (iG G W .val (evA G' ft (.cons pa .nil))) := by
  refine pi_imp (pi_or (pi_list he) (pi_or (pi_tup he) (pi_str he))) fun σ H R h => ?_
  obtain ⟨μ, env, S, s, e, h⟩ := iG_one h
  cases er : ev G' ft pa env S with
  | no => rw [er] at h; exact h.elim
  | ex x S1 => rw [er] at h; exact .inl ⟨μ, env, S, s, e, by rw [er]; exact h⟩
  | ok v S1 =>
    rw [er] at h
    cases v with
    | tup xs =>
      refine .inr (.inl ⟨μ, env, S, s, e, ?_⟩)
      rw [er]
      intro μ' H' u k s' x r
      obtain ⟨w, n, h1, h2⟩ := h μ' H' u k s' s'
      simp only [mkWalk, wkVal, Option.some.injEq, Prod.mk.injEq] at h1
      obtain ⟨rfl, rfl⟩ := h1
      cases r with
      | tup g1 g2 => exact ⟨_, rfl, ⟨_, SqT.of g1⟩, h2 _ (ItOk.tup g1 g2)⟩
    | str z =>
      refine .inr (.inr ⟨μ, env, S, s, e, ?_⟩)
      rw [er]
      intro μ' H' u k s' x r
      obtain ⟨w, n, h1, h2⟩ := h μ' H' u k s' s'
      cases r with
      | str hz =>
      simp only [mkWalk, wkVal] at h1
      split at h1
      · cases h1
        exact ⟨z, rfl, h2 _ (ItOk.str hz)⟩
      · cases h1
    | obj i =>
      refine .inl ⟨μ, env, S, s, e, ?_⟩
      rw [er]
      intro μ' H' u k s' x r
      obtain ⟨w, n, h1, h2⟩ := h μ' H' u k s' s'
      cases r with
      | obj hs =>
      simp only [mkWalk, wkVal] at h1
      obtain ⟨xs, e1, e2⟩ := Option.map_eq_some_iff.mp h1
      cases e2
      obtain ⟨ys, g1, g2⟩ := sql_one hK s' e1 hs
      exact ⟨_, rfl, ⟨ys, g1⟩, h2 _ (ItOk.lst hK hs)⟩
    | non => exact .inl ⟨μ, env, S, s, e, by rw [er]; intro μ' H' u k s' x r; obtain ⟨w, n, h1, h2⟩ := h μ' H' u k s' s'; cases h1⟩
    | bl _ => exact .inl ⟨μ, env, S, s, e, by rw [er]; intro μ' H' u k s' x r; obtain ⟨w, n, h1, h2⟩ := h μ' H' u k s' s'; cases h1⟩
    | int _ => exact .inl ⟨μ, env, S, s, e, by rw [er]; intro μ' H' u k s' x r; obtain ⟨w, n, h1, h2⟩ := h μ' H' u k s' s'; cases h1⟩
    | fn _ _ => exact .inl ⟨μ, env, S, s, e, by rw [er]; intro μ' H' u k s' x r; obtain ⟨w, n, h1, h2⟩ := h μ' H' u k s' s'; cases h1⟩
theorem iG_liftA {k : ItK} {m : Env → Store → Res (List Val)} {R : It → Hp → Prop} {F : List V → Hp → Prop} (h : iG G W k m σ H R) (i : ∀ vs μ' S' H' xs, Sim G μ' S' H' → RVs μ' H' vs xs → (∃ w n, mkWalk k S' vs = some (w, n) ∧ ∀ J, ItOk G μ' H' w J → R J H') → F xs H') : liftA G W m σ H F := by
  obtain ⟨μ, env, S, s, e, h⟩ := h
  exact ⟨μ, env, S, s, e, h.imp fun vs μ1 S1 H1 u1 k1 s1 q xs r => i vs μ1 S1 H1 xs s1 r (q s1)⟩
theorem small_of {i : Int} (h : small i = true) : -(2 ^ 62) ≤ i ∧ i < 2 ^ 62 := of_decide_eq_true h
theorem vs_one {k : ItK} {R : It → Hp → Prop} {F : List V → Hp → Prop} (h : iG G W k (evA G' ft (.cons pa .nil)) σ H R) (i : ∀ v μ' S' H' x, Sim G μ' S' H' → RV μ' H' v x → (∃ w n, mkWalk k S' [v] = some (w, n) ∧ ∀ J, ItOk G μ' H' w J → R J H') → F [x] H') : liftA G W (evA G' ft (.cons pa .nil)) σ H F := by
  obtain ⟨μ, env, S, s, e, h⟩ := iG_one h
  refine ⟨μ, env, S, s, e, ?_⟩
  simp only [evA]
  cases er : ev G' ft pa env S with
  | no => rw [er] at h; exact h.elim
  | ex x S1 => rw [er] at h; exact h
  | ok v S1 =>
    rw [er] at h
    intro μ1 H1 u1 k1 s1 xs r
    obtain ⟨x, rfl, rx⟩ := r.one_inv
    exact i v μ1 S1 H1 x s1 rx (h μ1 H1 u1 k1 s1 s1)
theorem vs_two {k : ItK} {R : It → Hp → Prop} {F : List V → Hp → Prop} (h : iG G W k (evA G' ft (.cons pa (.cons pb .nil))) σ H R) (i : ∀ v w μ' S' H' x y, Sim G μ' S' H' → RV μ' H' v x → RV μ' H' w y → (∃ wk n, mkWalk k S' [v, w] = some (wk, n) ∧ ∀ J, ItOk G μ' H' wk J → R J H') → F [x, y] H') : liftA G W (evA G' ft (.cons pa (.cons pb .nil))) σ H F := by
  obtain ⟨μ, env, S, s, e, h⟩ := h
  refine ⟨μ, env, S, s, e, ?_⟩
  simp only [evA] at h ⊢
  cases er : ev G' ft pa env S with
  | no => rw [er] at h; exact h.elim
  | ex x S1 => rw [er] at h; exact h
  | ok v S1 =>
    rw [er] at h
    simp only [Res.bind_ok] at h ⊢
    cases er2 : ev G' ft pb env S1 with
    | no => rw [er2] at h; exact h.elim
    | ex x S1 => rw [er2] at h; exact h
    | ok w S2 =>
      rw [er2] at h
      intro μ1 H1 u1 k1 s1 xs r
      obtain ⟨x, y, rfl, rx, ry⟩ := r.two_inv
      exact i v w μ1 S2 H1 x y s1 rx ry (h μ1 H1 u1 k1 s1 s1)
theorem di_range1 {tg a : Expr} {p pos : Pos} {pa : PyE} (hg : Gl X "range") (hm : X.mg "range" = none) (ha : PA X [a] (liftA G W (evA G' ft (.cons pa .nil)))) (hs : starEach [a] X.env = [(false, eval a X.env)]) : PI X tg (.Call (.Name "range" p) [a] [] pos) (iG G W .range (evA G' ft (.cons pa .nil))) := by
  refine pi_imp (pi_range1 hg hm ha hs) fun σ H R h => vs_one h fun v μ S H x s r ⟨w, n, h1, h2⟩ => ?_
  cases v with
  | int j =>
    cases r
    simp only [mkWalk, wkRange] at h1
    split at h1
    · rename_i hj
      cases h1
      obtain ⟨j1, j2⟩ := small_of hj
      exact ⟨_, rfl, j1, j2, h2 _ ItOk.rng⟩
    · cases h1
  | _ => cases h1
theorem di_range2 {tg a b : Expr} {p pos : Pos} {pa pb : PyE} (hg : Gl X "range") (hm : X.mg "range" = none) (ha : PA X [a, b] (liftA G W (evA G' ft (.cons pa (.cons pb .nil))))) (hs : starEach [a, b] X.env = [(false, eval a X.env), (false, eval b X.env)]) (hs2 : starEach [b] X.env = [(false, eval b X.env)]) : PI X tg (.Call (.Name "range" p) [a, b] [] pos) (iG G W .range (evA G' ft (.cons pa (.cons pb .nil)))) := by
  refine pi_imp (pi_range2 hg hm ha hs hs2) fun σ H R h => vs_two h fun v w μ S H x y s r r2 ⟨wk, n, h1, h2⟩ => ?_
  cases v with
  | int i =>
    cases w with
    | int j =>
      cases r; cases r2
      simp only [mkWalk, wkRange] at h1
      split at h1
      · rename_i hj
        cases h1
        simp only [Bool.and_eq_true] at hj
        obtain ⟨j1, j2⟩ := small_of hj.1
        obtain ⟨j3, j4⟩ := small_of hj.2
        exact ⟨_, _, rfl, ⟨j1, j2, j3, j4⟩, h2 _ ItOk.rng⟩
      · cases h1
    | _ => cases h1
  | _ => cases h1
theorem vs_three {pa pb pc : PyE} {σ : St} {H : Hp} {k : ItK} {R : It → Hp → Prop} {F : List V → Hp → Prop} (h : iG G W k (evA G' ft (.cons pa (.cons pb (.cons pc .nil)))) σ H R) (i : ∀ u v w μ' S' H' x y z, Sim G μ' S' H' → RV μ' H' u x → RV μ' H' v y → RV μ' H' w z → (∃ wk n, mkWalk k S' [u, v, w] = some (wk, n) ∧ ∀ J, ItOk G μ' H' wk J → R J H') → F [x, y, z] H') : liftA G W (evA G' ft (.cons pa (.cons pb (.cons pc .nil)))) σ H F := by
  obtain ⟨μ, env, S, s, e, h⟩ := h
  refine ⟨μ, env, S, s, e, ?_⟩
  simp only [evA] at h ⊢
  cases er : ev G' ft pa env S with
  | no => rw [er] at h; exact h.elim
  | ex x S1 => rw [er] at h; exact h
  | ok v S1 =>
    rw [er] at h
    simp only [Res.bind_ok] at h ⊢
    cases er2 : ev G' ft pb env S1 with
    | no => rw [er2] at h; exact h.elim
    | ex x S1 => rw [er2] at h; exact h
    | ok w S2 =>
      rw [er2] at h
      simp only [Res.bind_ok] at h ⊢
      cases er3 : ev G' ft pc env S2 with
      | no => rw [er3] at h; exact h.elim
      | ex x S1 => rw [er3] at h; exact h
      | ok w2 S3 =>
        rw [er3] at h
        intro μ1 H1 u1 k1 s1 xs r
        cases r with
        | cons rx r =>
          obtain ⟨y, z, rfl, ry, rz⟩ := r.two_inv
          exact i v w w2 μ1 S3 H1 _ y z s1 rx ry rz (h μ1 H1 u1 k1 s1 s1)
theorem di_range3 {tg a b c : Expr} {p pos : Pos} {pa pb pc : PyE} (hg : Gl X "range") (hm : X.mg "range" = none) (ha : PA X [a, b, c] (liftA G W (evA G' ft (.cons pa (.cons pb (.cons pc .nil)))))) (hs : starEach [a, b, c] X.env = (false, eval a X.env) :: starEach [b, c] X.env) (hpl : ∀ pos, (backTo pos (starEach [b, c] X.env)).any (·.1) = false) : PI X tg (.Call (.Name "range" p) [a, b, c] [] pos) (iG G W .range (evA G' ft (.cons pa (.cons pb (.cons pc .nil))))) := by
  refine pi_imp (pi_range3 hg hm ha hs (hpl _)) fun σ H R h => vs_three h fun u v w μ S H x y z s rx ry rz ⟨wk, n, h1, h2⟩ => ?_
  cases u with
  | int i =>
    cases v with
    | int j =>
      cases w with
      | int c =>
        cases rx; cases ry; cases rz
        simp only [mkWalk, wkRange] at h1
        split at h1
        · rename_i hj
          cases h1
          simp only [Bool.and_eq_true, decide_eq_true_eq] at hj
          exact ⟨_, _, _, _, rfl, ⟨hj.1.1, hj.1.2, hj.2, PyProof.Rows.rangeSize_toNat _ _ _⟩, h2 _ ItOk.step⟩
        · cases h1
      | _ => cases h1
    | _ => cases h1
  | _ => cases h1
theorem di_enm {a : Expr} {p pos : Pos} {pa : PyE} {elts : List Expr} {kk : Nat} (hK : G.K = X.K) (hg : Gl X "enumerate") (hm : X.mg "enumerate" = none) (ha : PA X [a] (liftA G W (evA G' ft (.cons pa .nil)))) (hs : starEach [a] X.env = [(false, eval a X.env)]) : PI X (.Tuple elts kk tpos) (.Call (.Name "enumerate" p) [a] [] pos) (iG G W .enm (evA G' ft (.cons pa .nil))) := by
  refine pi_imp (pi_enum2 hg hm ha hs) fun σ H R h => vs_one h fun v μ S H x s r ⟨w, n, h1, h2⟩ => ?_
  cases v with
  | obj i =>
    cases r with
    | obj hs =>
    simp only [mkWalk, wkEnm] at h1
    obtain ⟨xs, e1, e2⟩ := Option.map_eq_some_iff.mp h1
    cases e2
    obtain ⟨ys, g1, g2⟩ := sql_one hK s e1 hs
    exact ⟨_, ys, rfl, .inl ⟨g1, h2 _ (ItOk.enm hK hs)⟩⟩
  | tup xs =>
    cases r with
    | tup g1 g2 =>
    simp only [mkWalk, wkEnm] at h1
    cases h1
    exact ⟨_, _, rfl, .inr ⟨SqT.of g1, h2 _ (ItOk.enmT g1 g2)⟩⟩
  | _ => cases h1
theorem di_rv {tg a : Expr} {p pos : Pos} {pa : PyE} (hK : G.K = X.K) (hg : Gl X "reversed") (hm : X.mg "reversed" = none) (ha : PA X [a] (liftA G W (evA G' ft (.cons pa .nil)))) (hs : starEach [a] X.env = [(false, eval a X.env)]) : PI X tg (.Call (.Name "reversed" p) [a] [] pos) (iG G W .rv (evA G' ft (.cons pa .nil))) := by
  refine pi_imp (pi_reversed hg hm ha hs) fun σ H R h => vs_one h fun v μ S H x s r ⟨w, n, h1, h2⟩ => ?_
  cases v with
  | obj i =>
    cases r with
    | obj hs =>
    simp only [mkWalk, wkRv] at h1
    obtain ⟨xs, e1, e2⟩ := Option.map_eq_some_iff.mp h1
    cases e2
    obtain ⟨ys, g1, g2⟩ := sql_one hK s e1 hs
    exact ⟨_, ys, rfl, g1, h2 _ (by rw [← g2.length]; exact ItOk.rv hK hs)⟩
  | _ => cases h1
theorem di_rvr {tg a : Expr} {p p2 pos pos2 : Pos} {pa : PyE} (hg : Gl X "reversed") (hm : X.mg "reversed" = none) (hg2 : Gl X "range") (hm2 : X.mg "range" = none) (ha : PE X a (lift G W (ev G' ft pa))) (na : starEach [a] X.env = (false, eval a X.env) :: starEach [] X.env) : PI X tg (.Call (.Name "reversed" p) [.Call (.Name "range" p2) [a] [] pos2] [] pos) (iG G W .rvr (evA G' ft (.cons pa .nil))) := by
  refine pi_imp (pi_revR hg hm (prg_1 hg2 hm2 ha na)) fun σ H R h => ?_
  obtain ⟨μ, env, S, s, e, h⟩ := iG_one h
  refine ⟨μ, env, S, s, e, h.imp fun v μ1 S1 H1 u1 k1 s1 q x rx => ?_⟩
  obtain ⟨w, n, h1, h2⟩ := q s1
  cases v with
  | int j =>
    cases rx
    simp only [mkWalk, wkRvr] at h1
    split at h1
    · rename_i hj
      cases h1
      obtain ⟨j1, j2⟩ := small_of hj
      refine ⟨_, rfl, by omega, by omega, j1, j2, ?_⟩
      have e0 : (j - 0).toNat = j.toNat := by rw [Int.sub_zero]
      rw [e0]
      exact h2 _ ItOk.rngC
    · cases h1
  | _ => cases h1
theorem di_zp {a b : Expr} {p pos : Pos} {pa pb : PyE} {elts : List Expr} {kk : Nat} (hK : G.K = X.K) (hg : Gl X "zip") (hm : X.mg "zip" = none) (ha : PA X [a, b] (liftA G W (evA G' ft (.cons pa (.cons pb .nil))))) (hs : starEach [a, b] X.env = (false, eval a X.env) :: starEach [b] X.env) (hpl : (backTo pos (starEach [b] X.env)).any (·.1) = false) : PI X (.Tuple elts kk tpos) (.Call (.Name "zip" p) [a, b] [] pos) (iG G W .zp (evA G' ft (.cons pa (.cons pb .nil)))) := by
  refine pi_imp (pi_zip3 hg hm ha hs hpl) fun σ H R h => vs_two h fun v w μ S H x y s r r2 ⟨wk, n, h1, h2⟩ => ?_
  cases v with
  | obj i =>
    cases w with
    | obj j =>
      cases r with
      | obj hs =>
      cases r2 with
      | obj hs2 =>
      simp only [mkWalk, wkZp] at h1
      obtain ⟨xs, e1, e2⟩ := Option.bind_eq_some_iff.mp h1
      obtain ⟨ys, e3, e4⟩ := Option.map_eq_some_iff.mp e2
      cases e4
      obtain ⟨xs', g1, g2⟩ := sql_one hK s e1 hs
      obtain ⟨ys', g3, g4⟩ := sql_one hK s e3 hs2
      exact ⟨_, _, xs', ys', rfl, .inl ⟨g1, g3, h2 _ (ItOk.zp hK hs hs2)⟩⟩
    | _ => cases h1
  | tup xs =>
    cases r with
    | tup g1 g2 =>
    cases w with
    | tup ws =>
      cases r2 with
      | tup k1 k2 =>
      simp only [mkWalk, wkZp] at h1
      cases h1
      exact ⟨_, _, _, _, rfl, .inr (.inl ⟨SqT.of g1, SqT.of k1, h2 _ (ItOk.zpT g1 g2 k1 k2)⟩)⟩
    | obj j =>
      cases r2 with
      | obj hs2 =>
      simp only [mkWalk, wkZp] at h1
      obtain ⟨ys, e3, e4⟩ := Option.map_eq_some_iff.mp h1
      cases e4
      obtain ⟨ys', g3, g4⟩ := sql_one hK s e3 hs2
      exact ⟨_, _, _, _, rfl, .inr (.inr ⟨SqT.of g1, g3, h2 _ (ItOk.zt hK g1 g2 hs2)⟩)⟩
    | _ => cases h1
  | _ => cases h1

/-! for -/
theorem for_turn {tp : Bool} {is : List Nat} {body : Env → Store → Out} {w : Walk} {n i : Nat} {J : It} {μ0 : List Addr} {H0 : Hp} (hK : G.K = X.K) (hJ : ItOk G μ0 H0 w J) (u0 : Up μ0 μ) (k0 : Keep H0 H) (s : Sim G μ S H) (e : REnv μ H env σ) (h : AfterO G W μ H (forW body tp is w (n + 1) i env S) D) :
    (J.stop i H ∧ D.nx σ H) ∨ (J.go i H ∧ ∀ x H', J.yld i H x H' → gT X.K tp is x σ H' fun σ2 H2 => liftS G W body { D with
        nx := fun σ' H' => ∃ μ env S, Up μ0 μ ∧ Keep H0 H' ∧ Sim G μ S H' ∧ REnv μ H' env σ' ∧ AfterO G W μ H' (forW body tp is w n (i + 1) env S) D,
        ct := fun σ' H' => ∃ μ env S, Up μ0 μ ∧ Keep H0 H' ∧ Sim G μ S H' ∧ REnv μ H' env σ' ∧ AfterO G W μ H' (forW body tp is w n (i + 1) env S) D, bk := D.nx } σ2 H2) := by
  unfold forW at h
  obtain ⟨j1, j2⟩ := hJ μ H S i u0 k0 s
  cases ew : walkAt S w i with
  | none => rw [ew] at h; exact h.elim
  | some ov =>
    rw [ew] at h
    cases ov with
    | none => exact .inl ⟨j2 ew, h μ H σ (Up.refl _) (Keep.refl _) s e⟩
    | some v =>
      obtain ⟨g1, g2⟩ := j1 v ew
      refine .inr ⟨g1, fun x H' y => ?_⟩
      obtain ⟨k1, s1, r1⟩ := g2 x H' y
      simp only at h
      cases et : tgt tp is v env with
      | none => rw [et] at h; exact h.elim
      | some e' =>
        rw [et] at h
        simp only at h
        refine tgt_rel hK et r1 (e.mono (Up.refl _) k1) fun σ' e2 => ⟨μ, e', S, s1, e2, ?_⟩
        have h3 := h.later (Up.refl _) k1
        cases eb : body e' S with
        | nx e3 S3 =>
          rw [eb] at h3
          exact fun μ2 H2 σ2 u2 k2 s2 e2 => ⟨μ2, e3, S3, u0.trans u2, (k0.trans k1).trans k2, s2, e2, AfterO.later (o := forW body tp is w n (i + 1) e3 S3) h3 u2 k2⟩
        | ct e3 S3 =>
          rw [eb] at h3
          exact fun μ2 H2 σ2 u2 k2 s2 e2 => ⟨μ2, e3, S3, u0.trans u2, (k0.trans k1).trans k2, s2, e2, AfterO.later (o := forW body tp is w n (i + 1) e3 S3) h3 u2 k2⟩
        | bk e3 S3 => rw [eb] at h3; exact h3
        | rt v S3 => rw [eb] at h3; exact h3
        | ex x e3 S3 => rw [eb] at h3; exact h3
        | no => rw [eb] at h3; exact h3.elim
theorem ds_for {tp : Bool} {is : List Nat} {k : ItK} {tg iter : Expr} {body : List Stmt} (hp : PassesOwn (model X.prog X.w) X.A X.env X.xe) (hc : X.calm = true) (hK : G.K = X.K) (hi : PI X tg iter (iG G W k (evA G' ft pa))) (hg : PG X tg (gT X.K tp is)) (hb : PSs X body (liftS G W (ex G' ft p)))
    (hs : ∀ x, foldedSetIterable iter X.env x = pure x) : PS X (.For tg iter body [] pos) (liftS G W (ex G' ft (.for_ tp is k pa p))) := by
  refine (ps_for hp hc hi hg hb hs).imp fun D σ H ⟨μ, env, S, s, e, h⟩ => ?_
  simp only [ex] at h
  refine ⟨μ, env, S, s, e, (outA h e).imp fun vs μ1 S1 H1 u1 k1 s1 h1 s1' => ?_⟩
  unfold forV at h1
  split at h1
  · exact h1.elim
  · rename_i w n ew
    refine ⟨w, n, ew, fun J hJ => ?_⟩
    refine ⟨fun i m σ' H' => ∃ μ env S, Up μ1 μ ∧ Keep H1 H' ∧ Sim G μ S H' ∧ REnv μ H' env σ' ∧ AfterO G W μ H' (forW (ex G' ft p) tp is w m i env S) D, ⟨n + 1, μ1, env, S1, Up.refl _, Keep.refl _, s1, e.mono u1 k1, h1⟩, ?_⟩
    rintro i m σ2 H2 ⟨μ2, env2, S2, u2, k2, s2, e2, h2⟩
    cases m with
    | zero => exact h2.elim
    | succ m =>
      rcases for_turn hK hJ u2 k2 s2 e2 h2 with q | ⟨q1, q2⟩
      · exact .inl q
      · exact .inr ⟨q1, _, fun σ' H' h3 => ⟨m, Nat.lt_succ_self m, h3⟩, q2⟩
end
end Nw

set_option Elab.async false
set_option linter.all false
set_option maxRecDepth 100000
set_option maxHeartbeats 1000000
namespace Nw
open PySem L2

section
variable {α β : Type} {G : Cfg} {W : WX} {X : Cx} {σ : St} {μ : List Addr} {H : Hp} {S : Store} {Q : VK} {G' : Tab} {ft : Fns}
variable {o e f : Expr} {pa pb pc : PyE} {p q : PyS} {apos cpos pos pos' tpos : Pos} {D : Ends} {env : Env} {st : Stmt} {sts : List Stmt}

/-! a comprehension -/
theorem wipe_get (σ : St) : ∀ (vs : List Nat) (j : Nat), (wipe σ vs)[j]? = if j ∈ vs then (if j < σ.length then some none else none) else σ[j]?
  | [], j => by simp [wipe]
  | v :: vs, j => by
    have ih := wipe_get σ vs j
    unfold wipe
    by_cases hv : v = j
    · subst hv
      rw [List.getElem?_set_self']
      simp only [List.mem_cons, true_or, if_true]
      rw [ih]
      by_cases hl : v < σ.length
      · by_cases hm : v ∈ vs
        · simp [hm, hl]
        · simp [hm, hl]
      · by_cases hm : v ∈ vs
        · simp [hm, hl]
        · simp [hm, hl]
    · rw [List.getElem?_set_ne hv, ih]
      have : j ∈ v :: vs ↔ j ∈ vs := by
        constructor
        · intro h
          rcases List.mem_cons.mp h with h | h
          · exact absurd h.symm hv
          · exact h
        · exact List.mem_cons_of_mem _
      by_cases hm : j ∈ vs
      · simp [this, hm]
      · simp [this, hm]
theorem wipe_wipe (σ : St) (vs : List Nat) : wipe (wipe σ vs) vs = wipe σ vs := by
  apply List.ext_getElem?
  intro j
  rw [wipe_get, wipe_get, wipe_length]
  by_cases hm : j ∈ vs <;> simp [hm]
theorem wipe_set (σ : St) {vs : List Nat} {i : Nat} {x : Option V} (hi : i ∈ vs) : wipe (σ.set i x) vs = wipe σ vs := by
  apply List.ext_getElem?
  intro j
  rw [wipe_get, wipe_get, List.length_set]
  by_cases hm : j ∈ vs
  · simp [hm]
  · have : i ≠ j := fun e => hm (e ▸ hi)
    simp only [hm, if_false]
    rw [List.getElem?_set_ne this]
theorem wipe_sets {vs : List Nat} : ∀ (ps : List (Nat × V)) (σ : St), (∀ p ∈ ps, p.1 ∈ vs) → wipe (ps.foldl (fun σ p => σ.set p.1 (some p.2)) σ) vs = wipe σ vs
  | [], σ, _ => rfl
  | p :: ps, σ, h => by
    simp only [List.foldl_cons]
    rw [wipe_sets ps _ fun q hq => h q (List.mem_cons_of_mem _ hq), wipe_set σ (h p List.mem_cons_self)]
theorem REnv.wipe (r : REnv μ H env σ) : ∀ (is : List Nat), REnv μ H (setAll env is) (L2.wipe σ is)
  | [] => r
  | i :: is => (REnv.wipe r is).clear
theorem tgt_rel2 {tp : Bool} {is : List Nat} {v : Val} {x : V} {env env' : Env} {Q : St → Hp → Prop} (hK : G.K = X.K) (h : tgt tp is v env = some env') (r : RV μ H v x) (e : REnv μ H env σ) (q : ∀ σ', REnv μ H env' σ' → L2.wipe σ' is = L2.wipe σ is → Q σ' H) : gT X.K tp is x σ H Q := by
  unfold tgt at h
  unfold gT
  cases tp with
  | true =>
    rw [if_pos rfl] at h ⊢
    split at h
    · cases r with
      | tup h1 h2 =>
      split at h
      · rename_i hl
        cases h
        exact ⟨_, _, rfl, SqT.of h1, by rw [← h2.length]; exact hl, gNs_of (by rw [← h2.length]; exact hl) (q _ (REnv.sets h2 e) (wipe_sets _ _ fun p hp => (List.of_mem_zip hp).1))⟩
      · cases h
    · cases h
  | false =>
    rw [if_neg Bool.false_ne_true] at h ⊢
    split at h
    · cases h
      exact ⟨_, rfl, q _ (e.set r) (wipe_set _ (by simp))⟩
    · cases h
abbrev W0 : WX := fun _ _ _ _ => False
theorem takes0 {X : Cx} : L2N.Takes X W0 := fun u s' ⟨a, B, sI, pins, σ, H, cls, d, e, I, nb, up, sky, na, os, ag, w⟩ => w.elim
theorem after0 {r : Res α} {v : α} {S' : Store} (h : r = .ok v S') (k : α → List Addr → Store → Hp → Prop) (q : ∀ μ' H', Up μ μ' → Keep H H' → Sim G μ' S' H' → k v μ' S' H') : After G W0 σ μ H r k := by
  rw [h]; exact q

/-- one turn of the block -/
theorem comp_turn {is : List Nat} {tp : Bool} {c el : Env → Store → Res Val} {w : Walk} {d n i : Nat} {Dl : Addr} {J : It} {μ0 : List Addr} {H0 : Hp} (hK : G.K = X.K) (hJ : ItOk G μ0 H0 w J) (hd : μ0[d]? = some Dl) (u0 : Up μ0 μ) (k0 : Keep H0 H) (s : Sim G μ S H)
    (e : REnv μ H env σ) (h : After G W σ μ H (compW (compT tp is env c el) w d (n + 1) i S) (Kv Q)) :
    (J.stop i H ∧ Q (.ref Dl) H) ∨ (J.go i H ∧ ∀ x H', J.yld i H x H' → gT X.K tp is x (L2.wipe σ is) H' fun σ2 H2 => L2.wipe σ2 is = L2.wipe σ is ∧ liftT G W0 (tst c) σ2 H2 fun b H3 =>
      if b = true then lift G W0 el σ2 H3 fun y H4 => ∃ acc, H4 Dl = some (.lst acc) ∧ acc.length < sizeLine ∧ (∃ μ env S, Up μ0 μ ∧ Keep H0 (L2.upd H4 Dl (.lst (acc ++ [y]))) ∧ Sim G μ S (L2.upd H4 Dl (.lst (acc ++ [y]))) ∧ REnv μ (L2.upd H4 Dl (.lst (acc ++ [y]))) env σ ∧
          After G W σ μ (L2.upd H4 Dl (.lst (acc ++ [y]))) (compW (compT tp is env c el) w d n (i + 1) S) (Kv Q))
      else ∃ μ env S, Up μ0 μ ∧ Keep H0 H3 ∧ Sim G μ S H3 ∧ REnv μ H3 env σ ∧ After G W σ μ H3 (compW (compT tp is env c el) w d n (i + 1) S) (Kv Q)) := by
  unfold compW at h
  obtain ⟨j1, j2⟩ := hJ μ H S i u0 k0 s
  cases ew : walkAt S w i with
  | none => rw [ew] at h; exact h.elim
  | some ov =>
    rw [ew] at h
    cases ov with
    | none => exact .inl ⟨j2 ew, h.val s (.obj (u0 _ _ hd))⟩
    | some v =>
      obtain ⟨g1, g2⟩ := j1 v ew
      refine .inr ⟨g1, fun x H' y => ?_⟩
      obtain ⟨k1, s1, r1⟩ := g2 x H' y
      simp only at h
      cases et : tgt tp is v (setAll env is) with
      | none =>
        have z : compT tp is env c el v S = .no := by unfold compT; rw [et]
        rw [z] at h; exact h.elim
      | some e' =>
        refine tgt_rel2 hK et r1 ((e.mono (Up.refl _) k1).wipe is) fun σ' e2 hw => ⟨by rw [hw, wipe_wipe], μ, e', S, s1, e2, ?_⟩
        -- the tests
        cases ec : c e' S with
        | no =>
          have z : compT tp is env c el v S = .no := by unfold compT; rw [et]; simp only [ec, Res.bind_no]
          rw [z] at h; exact h.elim
        | ex xx S1 =>
          have z : compT tp is env c el v S = .ex xx S1 := by unfold compT; rw [et]; simp only [ec, Res.bind_ex]
          rw [z] at h; exact h.elim
        | ok t S1 =>
          cases etr : tru S1 t with
          | none =>
            have z : compT tp is env c el v S = .no := by unfold compT; rw [et]; simp only [ec, Res.bind_ok, ifV, etr]
            rw [z] at h; exact h.elim
          | some b =>
            unfold tst
            rw [ec]
            simp only [Res.bind_ok, etr, Res.ofO_some]
            intro μ2 H2 u2 k2 s2
            cases b with
            | false =>
              have z : compT tp is env c el v S = .ok none S1 := by unfold compT; rw [et]; simp only [ec, Res.bind_ok, ifV, etr]
              rw [z] at h
              simp only [Bool.false_eq_true, if_false]
              exact ⟨μ2, env, S1, u0.trans u2, (k0.trans k1).trans k2, s2, (e.mono (Up.refl _) k1).mono u2 k2, After.later h u2 (k1.trans k2)⟩
            | true =>
              simp only [if_true]
              refine ⟨μ2, e', S1, s2, e2.mono u2 k2, ?_⟩
              cases ee : el e' S1 with
              | no =>
                have z : compT tp is env c el v S = .no := by unfold compT; rw [et]; simp only [ec, Res.bind_ok, ifV, etr, ee, Res.bind_no]
                rw [z] at h; exact h.elim
              | ex xx S2 =>
                have z : compT tp is env c el v S = .ex xx S2 := by unfold compT; rw [et]; simp only [ec, Res.bind_ok, ifV, etr, ee, Res.bind_ex]
                rw [z] at h; exact h.elim
              | ok yv S2 =>
                have z : compT tp is env c el v S = .ok (some yv) S2 := by unfold compT; rw [et]; simp only [ec, Res.bind_ok, ifV, etr, ee]
                rw [z] at h
                simp only at h
                intro μ3 H3 u3 k3 s3 y' ry
                cases ed : S2[d]? with
                | none => rw [ed] at h; exact h.elim
                | some ob =>
                  rw [ed] at h
                  split at h
                  · rename_i acc eo
                    cases eo
                    split at h
                    · rename_i hl
                      obtain ⟨pD, ys, q1, q2, q3⟩ := s3.lst ed
                      have hdl : μ3[d]? = some Dl := u3 _ _ (u2 _ _ (u0 _ _ hd))
                      rw [hdl] at q1; cases q1
                      obtain ⟨s4, k4⟩ := s3.put (o' := .lst false (acc ++ [yv])) (u := .lst (ys ++ [y'])) ed rfl rfl hdl ⟨_, upd_same, (q3.app (.one ry)).mono (Up.refl _) (Keep.lst q2)⟩
                      refine ⟨ys, q2, by rw [← line_eq, ← q3.length]; exact hl, μ3, env, _, (u0.trans u2).trans u3, ((k0.trans k1).trans (k2.trans k3)).trans k4, s4, (((e.mono (Up.refl _) k1).mono u2 k2).mono u3 k3).mono (Up.refl _) k4, ?_⟩
                      exact After.later h (u2.trans u3) ((k1.trans (k2.trans k3)).trans k4)
                    · exact h.elim
                  · exact h.elim
theorem lc_read {elt : PyE} {tp : Bool} {is : List Nat} {k : ItK} {as cond : PyE} {own : List (Str × Nat)} (hK : G.K = X.K) (ho : own.map (·.2) = is) (h : lift G W (ev G' ft (.comp elt tp is k as cond)) σ H Q) :
    tLc (iG G W k (evA G' ft as)) (gT X.K tp is) (liftT G W0 (tst (ev G' ft cond))) (lift G W0 (ev G' ft elt)) (own.map (·.2)) σ H Q := by
  rw [ho]
  obtain ⟨μ, env, S, s, e, h⟩ := h
  simp only [ev] at h
  refine ⟨μ, env, S, s, e, h.bind.imp fun vs μ1 S1 H1 u1 k1 s1 h1 s1' => ?_⟩
  unfold compV at h1
  split at h1
  · exact h1.elim
  · rename_i w n ew
    refine ⟨w, n, ew, fun J hJ Dl hD => ?_⟩
    have sA : Sim G (μ1 ++ [Dl]) (S1 ++ [.lst false []]) (L2.upd H1 Dl (.lst [])) := s1.alloc hD rfl ⟨[], upd_same, .nil⟩
    have uA := Up.app μ1 Dl
    have kA : Keep H1 (L2.upd H1 Dl (.lst [])) := Keep.new hD
    have hd : (μ1 ++ [Dl])[S1.length]? = some Dl := by rw [← s1.len]; simp
    have hJ' : ItOk G (μ1 ++ [Dl]) (L2.upd H1 Dl (.lst [])) w J := fun μ' H' S' i u k s => hJ μ' H' S' i (uA.trans u) (kA.trans k) s
    refine ⟨fun i m H' => ∃ μ' env' S', Up (μ1 ++ [Dl]) μ' ∧ Keep (L2.upd H1 Dl (.lst [])) H' ∧ Sim G μ' S' H' ∧ REnv μ' H' env' σ ∧ After G W σ μ' H' (compW (compT tp is env' (ev G' ft cond) (ev G' ft elt)) w S1.length m i S') (Kv Q), ⟨n + 1, μ1 ++ [Dl], env, _, Up.refl _, Keep.refl _, sA, (e.mono u1 k1).mono uA kA, After.later h1 uA kA⟩, ?_⟩
    rintro i m H2 ⟨μ2, env2, S2, u2, k2, s2, e2, h2⟩
    cases m with
    | zero => exact h2.elim
    | succ m =>
      rcases comp_turn hK hJ' hd u2 k2 s2 e2 h2 with q | ⟨q1, q2⟩
      · exact .inl q
      · exact .inr ⟨q1, _, fun H' h3 => ⟨m, Nat.lt_succ_self m, h3⟩, q2⟩
theorem pts_true {X : Cx} : PTs X [] (liftT G W0 (tst (ev G' ft (.c (.bl true))))) := ⟨fun pins s σ H Q I ⟨μ, env, S, sm, e, h⟩ => (pts_nil (X := X)).run pins s σ H Q I (by
  simp only [tst, ev, Res.bind_ok, tru, Res.ofO_some] at h
  exact h μ H (Up.refl _) (Keep.refl _) sm)⟩
theorem de_comp {elt tg iter : Expr} {ifs : List Expr} {scope : Scope} {own : List (Str × Nat)} {pelt : PyE} {tp : Bool} {is : List Nat} {k : ItK} {as cond : PyE} (hc : X.calm = true) (hN : X.N.Nodup) (hK : G.K = X.K) (hi : PI X tg iter (iG G W k (evA G' ft as))) (ok : BlkOk X.N X.env.scope scope own) (hown : own.map (·.2) = is)
    (hg : ∀ (s : Shared) (H : Hp) (C : Addr) (cl : List (Str × Addr)) (fp : List Addr), PG (X.blk s H scope (compEnvC scope cl C X.env) fp) tg (gT X.K tp is)) (ht : ∀ (s : Shared) (H : Hp) (C : Addr) (cl : List (Str × Addr)) (fp : List Addr), PTs (X.blk s H scope (compEnvC scope cl C X.env) fp) ifs (liftT G W0 (tst (ev G' ft cond))))
    (he : ∀ (s : Shared) (H : Hp) (C : Addr) (cl : List (Str × Addr)) (fp : List Addr), PE (X.blk s H scope (compEnvC scope cl C X.env) fp) elt (lift G W0 (ev G' ft pelt))) (hs : ∀ x, foldedSetIterable iter X.env x = pure x) :
    PE X (.ListComp elt [⟨tg, iter, ifs, 0⟩] scope pos) (lift G W (ev G' ft (.comp pelt tp is k as cond))) :=
  (pe_lc hc hN hi ok hg ht he hs).imp fun σ H Q h => lc_read hK hown h
theorem ds_asgLc {i : Nat} {y : Str} {py : Pos} {elt tg iter : Expr} {ifs : List Expr} {scope : Scope} {own : List (Str × Nat)} {spos : Pos} {pelt : PyE} {tp : Bool} {is : List Nat} {k : ItK} {as cond : PyE} (hc : X.calm = true) (hN : X.N.Nodup) (hy : X.N[i]? = some y) (hyl : X.env.scope.names.lookup y = some .local)
    (hsw : swapsWith (.ListComp elt [⟨tg, iter, ifs, 0⟩] scope pos) (some (.Name y py)) spos.line X.env = pure true) (hK : G.K = X.K) (hi : PI X tg iter (iG G W k (evA G' ft as))) (ok : BlkOk X.N X.env.scope scope own) (hown : own.map (·.2) = is)
    (hg : ∀ (s : Shared) (H : Hp) (C : Addr) (cl : List (Str × Addr)) (fp : List Addr), PG (X.blk s H scope (compEnvC scope cl C X.env) fp) tg (gT X.K tp is)) (ht : ∀ (s : Shared) (H : Hp) (C : Addr) (cl : List (Str × Addr)) (fp : List Addr), PTs (X.blk s H scope (compEnvC scope cl C X.env) fp) ifs (liftT G W0 (tst (ev G' ft cond))))
    (he : ∀ (s : Shared) (H : Hp) (C : Addr) (cl : List (Str × Addr)) (fp : List Addr), PE (X.blk s H scope (compEnvC scope cl C X.env) fp) elt (lift G W0 (ev G' ft pelt))) (hs : ∀ x, foldedSetIterable iter X.env x = pure x) :
    PS X (.Assign [.Name y py] (.ListComp elt [⟨tg, iter, ifs, 0⟩] scope pos) spos) (liftS G W (ex G' ft (.asg i (.comp pelt tp is k as cond)))) := by
  refine (ps_setLc hc hN hy hyl hsw hi ok hg ht he hs).imp fun D σ H h => ?_
  have h2 := oneS (f := fun x env S1 => .nx (env.set i (some x)) S1) (by simp only [liftS, ex] at h; exact h)
  exact lc_read hK hown (lift_mono h2 fun x H1 ⟨μ, env, v, S, s, e, r, q⟩ => q μ H1 _ (Up.refl _) (Keep.refl _) s (e.set r))
end
end Nw

set_option Elab.async false
set_option linter.all false
set_option maxRecDepth 100000
set_option maxHeartbeats 4000000
namespace Nw
open PySem L2 PySem.Spec PyProof.Rows
/-! ## [.. for .. in range(n)] where an exception is handled whose context is None -/
/-- what is handled is known in H -/
def HotK (A : Around) (H : Hp) : Prop := ∃ a, A.handled = some (.ref a) ∧ HotO H a
theorem HotK.at_ {X : Cx} {pins : List (Addr × PySem.Obj)} {σ : L2.St} {H : Hp} {s : Shared} (h : HotK X.A H) (I : L2.Inv X pins σ H s) : ∃ a, HotX.HotAt X.A a s.heap := by
  obtain ⟨a, h1, oe, vs, h2, h3, h4⟩ := h
  exact ⟨a, h1, oe, vs, (I.hok a _ h2).1, h3, h4⟩
/-- a range's iterator has come -/
def RngI (X : Cx) (pins : List (Addr × PySem.Obj)) (σ : L2.St) (R : It → Hp → Prop) (v : Value) (s : Shared) : Prop :=
  ∃ (it : Addr) (n : Nat) (H : Hp), v = .ref it ∧ L2.Inv X pins σ H s ∧ IsRangeIter s.heap it 0 n 1 ∧ FpOk X pins H it ∧ R (Itr 0 n) H
section
variable {X : Cx} {tg : Expr}
theorem rng_come {pins : List (Addr × PySem.Obj)} {σ : L2.St} {H : Hp} {s : Shared} {R : It → Hp → Prop} {a : Expr} {ta : TA} {p pos : Pos} (hg : Gl X "range") (hm : X.mg "range" = none) (ha : PA X [a] ta) (hs : starEach [a] X.env = [(false, eval a X.env)]) (I : L2.Inv X pins σ H s) (h : iRng1 ta σ H R) :
    wpAny (model X.prog X.w) X.A (eval (.Call (.Name "range" p) [a] [] pos) X.env) (fun v s1 => wpAny (model X.prog X.w) X.A (pyIter v) (RngI X pins σ R) X.xe s1) X.xe s := by
  refine Call_ (ld_blt I hg hm boot_range (PyProof.Rows.callWith_type1 (thn (ha.run pos pins s σ H _ I h) fun us s1 z => ?_) hs rfl))
  obtain ⟨vs, H1, J, rv, k, ek, k1, k2, q⟩ := z
  subst ek
  cases rv with
  | cons r rr =>
  cases rr
  obtain ⟨t, rfl⟩ := r
  refine call_range_1 ?_
  refine wpAny_pyIter_range (IsRange.new ..) (small_one (by omega) (by omega) k1 k2) ?_
  have up : ∀ (b : Addr) (o u : PySem.Obj), s1.heap.get? b = some o → (s1.heap.push u).get? b = some o := fun b o u e => Heap.get?_push_of_some _ e
  refine ⟨_, k.toNat, H1, rfl, (J.kept (fun b o e => up b o _ e)).kept fun b o e => Heap.get?_push_of_some _ e, ?_, ?_, q⟩
  · have e2 : ((k.toNat : Nat) : Int) = Builtin.Range.rangeSize 0 k 1 := by rw [rangeSize_one]; split <;> omega
    rw [e2]
    exact Heap.get?_push_size _ rfl
  · exact (J.kept (fun b o e => up b o _ e)).fpOk (Nat.le_refl _) ((J.kept (fun b o e => up b o _ e)).hok.fresh (Nat.le_refl _))
/-- the reading -/
def tLcK (A : Around) (wi : TI) (g : TG) (tt : TT) (te : TE) (vs : List Nat) : TE := fun σ H Q => wi σ H fun J H1 => ∀ D, H1 D = none → ∃ W : Nat → Nat → Hp → Prop, (∃ m, W 0 m (L2.upd H1 D (.lst []))) ∧ (∀ i m H, W i m H → HotK A H) ∧
  ∀ i m H, W i m H → (J.stop i H ∧ Q (.ref D) H) ∨ (J.go i H ∧ ∃ Nx : Hp → Prop, (∀ H', Nx H' → ∃ m', m' < m ∧ W (i + 1) m' H') ∧ ∀ x H', J.yld i H x H' → g x (wipe σ vs) H' fun σ2 H2 => wipe σ2 vs = wipe σ vs ∧ tt σ2 H2 fun b H3 =>
    if b = true then te σ2 H3 fun y H4 => ∃ acc, H4 D = some (.lst acc) ∧ acc.length < sizeLine ∧ Nx (L2.upd H4 D (.lst (acc ++ [y]))) else Nx H3)
theorem pe_lcK {elt a : Expr} {ifs : List Expr} {scope : Scope} {own : List (Str × Nat)} {p cpos pos : Pos} {ta : TA} {g : TG} {tt : TT} {te : TE} (hN : X.N.Nodup) (hgl : Gl X "range") (hm : X.mg "range" = none) (ha : PA X [a] ta) (hst : starEach [a] X.env = [(false, eval a X.env)]) (ok : BlkOk X.N X.env.scope scope own)
    (hg : ∀ (s : Shared) (H : Hp) (C : Addr) (cl : List (Str × Addr)) (fp : List Addr), PG (X.blk s H scope (compEnvC scope cl C X.env) fp) tg g) (ht : ∀ (s : Shared) (H : Hp) (C : Addr) (cl : List (Str × Addr)) (fp : List Addr), PTs (X.blk s H scope (compEnvC scope cl C X.env) fp) ifs tt)
    (he : ∀ (s : Shared) (H : Hp) (C : Addr) (cl : List (Str × Addr)) (fp : List Addr), PE (X.blk s H scope (compEnvC scope cl C X.env) fp) elt te) (hfs : ∀ x, foldedSetIterable (.Call (.Name "range" p) [a] [] cpos) X.env x = pure x) :
    PE X (.ListComp elt [⟨tg, .Call (.Name "range" p) [a] [] cpos, ifs, 0⟩] scope pos) (tLcK X.A (iRng1 ta) g tt te (own.map (·.2))) := by
  refine ⟨fun pins s σ H Q I hq => ?_⟩
  rw [eval_ListComp]
  have caught : ∀ y ∈ scope.names, y.2 = .free → ∃ c, X.env.cells.lookup y.1 = some c := fun y hy e => (ok.free y hy e).elim (fun z => I.ok.has _ (.inl z)) fun z => I.ok.has _ (.inr z)
  refine wpAny_comprehension_free (use := none) rfl hfs (closure_ok caught) ok.kind (fun y hy e => by rw [ok.uniq y hy, e]) (thn (rng_come hgl hm ha hst I hq) fun xv s1 hx => thn hx fun itv s2 h2 => ?_)
  obtain ⟨it, n, H2, e, I2, sit, fit, q⟩ := h2
  subst e
  refine wpAny_newObj_type (newEnv_comp ?_) (by show 0 ≤ sizeLine; decide)
  obtain ⟨D, hD⟩ : ∃ D, D = s2.heap.objs.size := ⟨_, rfl⟩
  have dn : H2 D = none := I2.hok.fresh (Nat.le_of_eq hD.symm)
  obtain ⟨W, ⟨m0, w0⟩, wh, turn⟩ := q D dn
  rw [← hD]
  obtain ⟨s3, hs3⟩ : ∃ s3 : Shared, s3 = { s2 with heap := s2.heap.push { cls := .type "list", data := .seq ([] : List Value).toArray } } := ⟨_, rfl⟩
  have hp3 : s3.heap = s2.heap.push { cls := .type "list", data := .seq ([] : List Value).toArray } := by rw [hs3]
  have I3 : L2.Inv X pins σ (L2.upd H2 D (.lst [])) s3 := by
    rw [hs3]
    refine I2.laid (t' := s2.toks) (fun b o z => Heap.get?_push_of_some _ z) (Nat.le_of_eq hD.symm) ⟨Nat.zero_le _, [], 0, .nil, ?_⟩
    rw [hD]
    exact Heap.get?_push_size _ rfl
  have it2 : it < s2.heap.objs.size := Heap.lt_size sit
  have fit3 : FpOk X pins (L2.upd H2 D (.lst [])) it := ⟨by rw [upd_ne (by rw [hD]; exact Nat.ne_of_lt it2)]; exact fit.1, fit.2⟩
  have it3 : it < s3.heap.objs.size := by rw [hp3, Heap.size_push]; exact Nat.lt_succ_of_lt it2
  have sit3 : IsRangeIter s3.heap it 0 n 1 := by rw [hp3]; exact Heap.get?_push_of_some _ sit
  have fps : ∀ b ∈ [it], FpOk X pins (L2.upd H2 D (.lst [])) b ∧ b < s3.heap.objs.size := fun b hb => by
    rw [List.mem_singleton.mp hb]
    exact ⟨fit3, it3⟩
  have I4 := block_start I3 ok hN fps
  obtain ⟨cells, hcells⟩ : ∃ cells, cells = cellsFrom (s3.heap.objs.size + 1) scope.names (cloFrom X.env.cells scope.names []) := ⟨_, rfl⟩
  obtain ⟨ce, hce⟩ : ∃ ce, ce = compEnvC scope cells s3.heap.objs.size X.env := ⟨_, rfl⟩
  have pg := hg s3 (L2.upd H2 D (.lst [])) s3.heap.objs.size cells [it]
  have pt := ht s3 (L2.upd H2 D (.lst [])) s3.heap.objs.size cells [it]
  have pe := he s3 (L2.upd H2 D (.lst [])) s3.heap.objs.size cells [it]
  rw [← hcells] at I4
  rw [← hce] at I4 pg pt pe
  have cL : ce.locals = s3.heap.objs.size := by rw [hce]; rfl
  obtain ⟨s4, hs4⟩ : ∃ s4 : Shared, s4 = { s3 with heap := pushCells (s3.heap.push { cls := .type "dict", data := .dict #[] }) scope.names } := ⟨_, rfl⟩
  rw [← hs4] at I4
  have sit4 : IsRangeIter s4.heap it 0 n 1 := by rw [hs4]; exact pushCells_keeps _ _ _ _ (Heap.get?_push_of_some _ sit3)
  -- the iterator in the block
  have mine : ∀ {σ' : L2.St} {H' : Hp} {s' : Shared}, L2.Inv (X.blk s3 (L2.upd H2 D (.lst [])) scope ce [it]) [] σ' H' s' → H' it = none → FpOk (X.blk s3 (L2.upd H2 D (.lst [])) scope ce [it]) [] H' it := fun {σ' H' s'} J hn =>
    ⟨hn, (J.ok.exf it (List.mem_singleton.mpr rfl)).1, J.ok.exfs it (List.mem_singleton.mpr rfl), .inl (List.mem_singleton.mpr rfl), fun x c z => (J.ok.exf it (List.mem_singleton.mpr rfl)).2 x c z, fun p hp => absurd (show p ∈ ([] : List (Addr × PySem.Obj)) ++ [] from hp) (by simp)⟩
  have walk : codeAny (model X.prog X.w) X.A (.compLoop (.ListComp elt [⟨tg, .Call (.Name "range" p) [a] [] cpos, ifs, 0⟩] scope pos) 0 (.ref it) (.ref D) ce) (compPost (model X.prog X.w) X.A X.xe none (EP X pins σ Q) (.ref D) s3.heap.objs.size) s4 := by
    have fin0 : (wipe σ (own.map (·.2))).length = σ.length := wipe_length _ _
    refine compLoop_any (fun m s' => ∃ (i : Nat) (H' : Hp), L2.Inv (X.blk s3 (L2.upd H2 D (.lst [])) scope ce [it]) [] (wipe σ (own.map (·.2))) H' s' ∧ IsRangeIter s'.heap it ((i : Nat) : Int) ((n : Int) - ((i : Nat) : Int)) 1 ∧ H' it = none ∧ W i m H') ?_ m0 ⟨0, _, I4, by simpa using sit4, fit3.1, w0⟩
    rintro m s5 ⟨i, H5, I5, sit5, n5, w5⟩
    obtain ⟨f0, f1, f2, f3, f4, f5⟩ := mine I5 n5
    rcases turn i m H5 w5 with ⟨stop, qq⟩ | ⟨go, Nx, hNx, step⟩
    · -- its end
      obtain ⟨ax, hot⟩ := (wh i m H5 w5).at_ (X := X.blk s3 (L2.upd H2 D (.lst [])) scope ce [it]) I5
      have stop' : n ≤ i := stop
      have td : wpAny (model X.prog X.w) X.A (pyNext (.ref it)) (fun r s6 => r = none ∧ L2.Inv (X.blk s3 (L2.upd H2 D (.lst [])) scope ce [it]) [] (wipe σ (own.map (·.2))) H5 s6) (fun _ _ => False) s5 :=
        HotX.pyNext_range_end_hot hot sit5 (by omega) fun h' eb => ⟨rfl, I5.turned (t' := s5.toks) (fun b o _ e => eb b o e) f0 f1 f3 f4 f5⟩
      refine thnF td fun r s6 ⟨hr, I6⟩ => ?_
      subst hr
      have I7 : L2.Inv X pins σ H5 s6 := I3.call' (ch := [it]) I6.os I6.base I6.hok I6.bare fun b hb => by
        rw [List.mem_singleton.mp hb]
        exact ⟨fit3.2.2.2.1, fit3.2.1, fit3.2.2.2.2.1, fit3.2.2.2.2.2⟩
      have nC : H5 s3.heap.objs.size = none := by
        have z : H5 ce.locals = none := I6.free
        rw [cL] at z
        exact z
      obtain ⟨mm, hn, _⟩ := I6.loc
      have hn : s6.heap.Ns ce.locals mm := hn
      rw [cL] at hn
      obtain ⟨g0, g1, g2, g3, g4, g5⟩ := I3.fpOk (Nat.le_refl _) nC
      exact ⟨mm, hn, fun h3 sb => ⟨.ref D, H5, I7.turned (t' := s6.toks) (fun b o hb e => (sb.2 b hb).trans e) g0 g1 g3 g4 g5, rfl, qq⟩⟩
    · have go' : i < n := go
      have ti : wpAny (model X.prog X.w) X.A (pyNext (.ref it)) (fun r s6 => ∃ u, r = some u ∧ wpAny (model X.prog X.w) X.A (letOwnedTupleGo tg (.ref it) u) (fun _ s7 => L2.Inv (X.blk s3 (L2.upd H2 D (.lst [])) scope ce [it]) [] (wipe σ (own.map (·.2))) H5 s7 ∧ RelV (.int (0 + (i : Int))) u ∧
          IsRangeIter s7.heap it (((i + 1 : Nat)) : Int) ((n : Int) - (((i + 1 : Nat)) : Int)) 1) (fun _ _ => False) s6) (fun _ _ => False) s5 := by
        refine wpAny_pyNext_range_item sit5 (by omega) fun h' st' sb => ?_
        have st2 : IsRangeIter h' it (((i + 1 : Nat)) : Int) ((n : Int) - (((i + 1 : Nat)) : Int)) 1 := by
          have z1 : ((i : Nat) : Int) + 1 = (((i + 1 : Nat)) : Int) := by omega
          have z2 : (n : Int) - ((i : Nat) : Int) - 1 = (n : Int) - (((i + 1 : Nat)) : Int) := by omega
          rw [← z2, ← z1]
          exact st'
        have J : L2.Inv (X.blk s3 (L2.upd H2 D (.lst [])) scope ce [it]) [] (wipe σ (own.map (·.2))) H5 { s5 with heap := h', toks := s5.toks + 1 } := I5.turned (fun b o hb e => (sb.2 b hb).trans e) f0 f1 f3 f4 f5
        refine ⟨_, rfl, go_of (s := { s5 with heap := h', toks := s5.toks + 1 }) (n := "range_iterator") st2 rfl rfl (by decide) ⟨J, ⟨s5.toks, ?_⟩, st2⟩⟩
        rw [Int.zero_add]
      refine thnF ti fun r s6 ⟨u, hr, h6⟩ => ?_
      subst hr
      refine thnF h6 fun _ s7 ⟨I7, r7, st7⟩ => ?_
      have own1 : ∀ b ∈ [it], FpOk (X.blk s3 (L2.upd H2 D (.lst [])) scope ce [it]) [] H5 b := fun b hb => by
        rw [List.mem_singleton.mp hb]
        exact mine I7 n5
      have there7 : ∀ b ∈ [it], ∃ o, s7.heap.get? b = some o ∧ ∀ v, o.data ≠ .cell v := fun b hb => by
        rw [List.mem_singleton.mp hb]
        exact ⟨_, st7, fun v z => by cases (show Data.fields _ = Data.cell v from z)⟩
      have I7' := I7.pinned own1 there7
      refine thnF (pg.run _ s7 _ H5 _ u _ I7' r7 (step _ H5 ⟨rfl, rfl⟩)) fun _ s8 ⟨σ8, H8, I8, hw8, q8⟩ => ?_
      refine thnF (pt.run _ s8 σ8 H8 _ I8 q8) fun b s9 ⟨H9, I9, q9⟩ => ?_
      have fin : ∀ {s' : Shared} {H' : Hp}, L2.Inv (X.blk s3 (L2.upd H2 D (.lst [])) scope ce [it]) ([] ++ pinsAt [it] s7.heap) σ8 H' s' → Nx H' →
          ∃ m', m' < m ∧ ∃ (j : Nat) (H' : Hp), L2.Inv (X.blk s3 (L2.upd H2 D (.lst [])) scope ce [it]) [] (wipe σ (own.map (·.2))) H' s' ∧ IsRangeIter s'.heap it ((j : Nat) : Int) ((n : Int) - ((j : Nat) : Int)) 1 ∧ H' it = none ∧ W j m' H' := fun {s' H'} J nx => by
        obtain ⟨m', lt, w'⟩ := hNx H' nx
        have pin := J.pin (it, _) (List.mem_append_right _ (List.mem_append_right _ (mem_pinsAt (List.mem_singleton.mpr rfl) st7)))
        have len8 : (wipe σ (own.map (·.2))).length = σ8.length := by rw [← hw8, wipe_length]
        exact ⟨m', lt, i + 1, H', (J.unpinned (pins := [])).weak len8 fun j v e => by
          rw [← hw8] at e
          exact (wipe_some e).1, pin.1, pin.2.1, w'⟩
      cases b with
      | false =>
        simp only [Bool.false_eq_true, if_false] at q9 ⊢
        exact fin I9 q9
      | true =>
        simp only [if_true] at q9 ⊢
        refine thnF (pe.run _ s9 σ8 H9 _ I9 q9) fun z s10 ⟨yv, H10, I10, r10, acc, hD10, hz10, nx⟩ => ?_
        exact app_ok (X := X.blk s3 (L2.upd H2 D (.lst [])) scope ce [it]) I10 hD10 hz10 r10 fun s11 I11 => fin I11 nx
  have begin_ : codeAny (model X.prog X.w) X.A (.compStart (.ListComp elt [⟨tg, .Call (.Name "range" p) [a] [] cpos, ifs, 0⟩] scope pos) 0 (.ref it) (.ref D) ce) (compPost (model X.prog X.w) X.A X.xe none (EP X pins σ Q) (.ref D) s3.heap.objs.size) s4 :=
    codeAny_compStart_list walk (wpAny_pyIter_rangeiter sit4 walk)
  rw [hce, hcells, hs4] at begin_
  subst hs3
  exact begin_
end
section
variable {X : Cx} {G : Cfg} {W : WX} {G' : Tab} {ft : Fns} {σ : L2.St} {H : Hp} {Q : VK}
theorem lc_readK {elt cond pa : PyE} {is : List Nat} {own : List (Str × Nat)} (hK : G.K = X.K) (hx : ∃ a ∈ G.hx, X.A.handled = some (.ref a)) (ho : own.map (·.2) = is) (h : lift G W (ev G' ft (.comp elt false is .range (.cons pa .nil) cond)) σ H Q) :
    tLcK X.A (iRng1 (liftA G W (evA G' ft (.cons pa .nil)))) (gT X.K false is) (liftT G W0 (tst (ev G' ft cond))) (lift G W0 (ev G' ft elt)) (own.map (·.2)) σ H Q := by
  have rd : tLcK X.A (iG G W .range (evA G' ft (.cons pa .nil))) (gT X.K false is) (liftT G W0 (tst (ev G' ft cond))) (lift G W0 (ev G' ft elt)) (own.map (·.2)) σ H Q := by
    rw [ho]
    obtain ⟨μ, env, S, s, e, h⟩ := h
    simp only [ev] at h
    refine ⟨μ, env, S, s, e, h.bind.imp fun vs μ1 S1 H1 u1 k1 s1 h1 s1' => ?_⟩
    unfold compV at h1
    split at h1
    · exact h1.elim
    · rename_i w n ew
      refine ⟨w, n, ew, fun J hJ Dl hD => ?_⟩
      have sA : Sim G (μ1 ++ [Dl]) (S1 ++ [.lst false []]) (L2.upd H1 Dl (.lst [])) := s1.alloc hD rfl ⟨[], upd_same, .nil⟩
      have uA := Up.app μ1 Dl
      have kA : Keep H1 (L2.upd H1 Dl (.lst [])) := Keep.new hD
      have hd : (μ1 ++ [Dl])[S1.length]? = some Dl := by rw [← s1.len]; simp
      have hJ' : ItOk G (μ1 ++ [Dl]) (L2.upd H1 Dl (.lst [])) w J := fun μ' H' S' i u k s => hJ μ' H' S' i (uA.trans u) (kA.trans k) s
      refine ⟨fun i m H' => ∃ μ' env' S', Up (μ1 ++ [Dl]) μ' ∧ Keep (L2.upd H1 Dl (.lst [])) H' ∧ Sim G μ' S' H' ∧ REnv μ' H' env' σ ∧ After G W σ μ' H' (compW (compT false is env' (ev G' ft cond) (ev G' ft elt)) w S1.length m i S') (Kv Q), ⟨n + 1, μ1 ++ [Dl], env, _, Up.refl _, Keep.refl _, sA, (e.mono u1 k1).mono uA kA, After.later h1 uA kA⟩, ?_, ?_⟩
      · rintro i m H2 ⟨μ2, env2, S2, u2, k2, s2, e2, h2⟩
        obtain ⟨a, ha, hh⟩ := hx
        exact ⟨a, hh, s2.hot a ha⟩
      · rintro i m H2 ⟨μ2, env2, S2, u2, k2, s2, e2, h2⟩
        cases m with
        | zero => exact h2.elim
        | succ m =>
          rcases comp_turn hK hJ' hd u2 k2 s2 e2 h2 with q | ⟨q1, q2⟩
          · exact .inl q
          · exact .inr ⟨q1, _, fun H' h3 => ⟨m, Nat.lt_succ_self m, h3⟩, q2⟩
  unfold tLcK at rd ⊢
  refine vs_one rd fun v μ S H x s r ⟨w, n, h1, h2⟩ => ?_
  cases v with
  | int j =>
    cases r
    simp only [mkWalk, wkRange] at h1
    split at h1
    · rename_i hj
      cases h1
      obtain ⟨j1, j2⟩ := small_of hj
      exact ⟨_, rfl, j1, j2, h2 _ ItOk.rng⟩
    · cases h1
  | _ => cases h1
theorem de_compK {elt tg a : Expr} {ifs : List Expr} {scope : Scope} {own : List (Str × Nat)} {pelt pa cond : PyE} {is : List Nat} {p cpos pos : Pos} (hN : X.N.Nodup) (hK : G.K = X.K) (hx : ∃ a ∈ G.hx, X.A.handled = some (.ref a)) (hgl : Gl X "range") (hm : X.mg "range" = none) (ha : PA X [a] (liftA G W (evA G' ft (.cons pa .nil))))
    (hst : starEach [a] X.env = [(false, eval a X.env)]) (ok : BlkOk X.N X.env.scope scope own) (hown : own.map (·.2) = is)
    (hg : ∀ (s : Shared) (H : Hp) (C : Addr) (cl : List (Str × Addr)) (fp : List Addr), PG (X.blk s H scope (compEnvC scope cl C X.env) fp) tg (gT X.K false is)) (ht : ∀ (s : Shared) (H : Hp) (C : Addr) (cl : List (Str × Addr)) (fp : List Addr), PTs (X.blk s H scope (compEnvC scope cl C X.env) fp) ifs (liftT G W0 (tst (ev G' ft cond))))
    (he : ∀ (s : Shared) (H : Hp) (C : Addr) (cl : List (Str × Addr)) (fp : List Addr), PE (X.blk s H scope (compEnvC scope cl C X.env) fp) elt (lift G W0 (ev G' ft pelt))) (hfs : ∀ x, foldedSetIterable (.Call (.Name "range" p) [a] [] cpos) X.env x = pure x) :
    PE X (.ListComp elt [⟨tg, .Call (.Name "range" p) [a] [] cpos, ifs, 0⟩] scope pos) (lift G W (ev G' ft (.comp pelt false is .range (.cons pa .nil) cond))) :=
  (pe_lcK hN hgl hm ha hst ok hg ht he hfs).imp fun σ H Q h => lc_readK hK hx hown h
end
end Nw

set_option Elab.async false
set_option linter.all false
set_option maxRecDepth 100000
set_option maxHeartbeats 1000000
namespace Nw
open PySem L2

/-! room for calls, with two steps to spare for an instance's making -/
structure RoomS (k : Nat) (A : Around) : Prop where
  hd : A.handled = none
  dp : A.depth + 3 * k + 7 < recursionLimit
  un : A.units + 16 * k + 210 < cLine
theorem RoomS.to {k : Nat} {A : Around} (r : RoomS k A) : Room k A := ⟨r.hd, by have := r.dp; omega, by have := r.un; omega⟩
theorem RoomS.make {k : Nat} {A : Around} (r : RoomS k A) (C : Addr) (us : List Value) (kw : List (Str × Value)) : Room k (A.under (.builtin "type.__call__" ⟨.ref C :: us, kw⟩)) :=
  ⟨r.hd, by rw [make_depth]; have := r.dp; omega, by rw [make_units]; have := r.un; omega⟩
theorem RoomS.of {k : Nat} {A : Around} (r : Room (k + 1) A) (env : PySem.Env) : RoomS k (A.deeper env) :=
  ⟨r.hd, (by have := r.dp; show A.depth + 1 + 3 * k + 7 < _; omega), (by have := r.un; show A.units + 3 + 16 * k + 210 < _; omega)⟩
section
open PySem.Spec PyProof.Rows
/-- a def by its body, which is told of that room -/
theorem fn_ofS {P : Program} {w : World} {K : PySem.W.Frag} {mg : Str → Option Value} {base : Heap} {k : Nat} {f : Addr} {name qual : Str} {params : Arguments} {body : List Stmt} {scope : Scope} {dV kV doc pm cdv ct oc : Value} {an od : Option Addr}
    {osl : Array (Option Value)} {N ps : List Str} {sp : Sp} (lk : K.lookup f = some ⟨oc, od, .func (PySem.W.fnOf name qual params body scope dV kV doc pm an cdv ct), osl⟩) (hcd : PySem.W.codeIn K cdv qual = true) (S : FnScope N ps scope)
    (len : ∀ vs H Q E, sp vs H Q E → vs.length = ps.length)
    (hbody : ∀ (A : Around) (outer : List PySem.Env) (s : Shared) (H : Hp) (vs : List V) (Q : VK) (E : XK), RoomS k (A.deeper (envOfC qual scope s.heap.objs.size f cdv)) → sp vs H Q E →
      ∃ t, PSs (cxOf (L2N.CX P w) P w K mg base N qual scope f cdv A outer s H E) body t ∧ t { nx := fun _ H' => Q .non H', rt := Q } (L2.start N vs) H) :
    FnOk P w K mg base (L2N.CX P w) (k + 1) f (PySem.W.fnOf name qual params body scope dV kV doc pm an cdv ct) ps sp where
  len := len
  run := fun A outer s H args us vs Q E room e0 bt rv hs => by
    have hlen := len _ _ _ _ hs
    have inK : K.In s.heap := e0.mod.kin.keeps fun b o e => (e0.bs b o e).1
    have free : s.heap.NoLimit := e0.mod.nolimit.keeps fun b o e => (e0.bs b o e).1
    have kinds : ∀ y ∈ ps.zip us, scope.names.lookup y.1 = some .local ∨
        (scope.names.lookup y.1 = some .cell ∧ ((cellsFrom (s.heap.objs.size + 1) scope.names []).lookup y.1).isSome = true) := fun ⟨n, v⟩ hy =>
      (S.par n (List.of_mem_zip hy).1).elim .inl fun q => .inr ⟨q, PySem.W.cellsFrom_some _ _ _ (.inl q)⟩
    refine codeAny_call_function room.depth (inK _ _ lk) rfl S.co S.gen rfl (PySem.W.codeRec_of inK hcd) (bt _ _ _ _ ?_)
    refine wpAny_newFunctionEnv_cells S.kind kinds fun env he s1 x => ?_
    subst he
    refine ⟨free.keeps x.toInCall.keep, codeAny_func ?_⟩
    obtain ⟨t, ht, hq⟩ := hbody A outer s H vs Q E (RoomS.of room _) hs
    have I : L2.Inv (cxOf (L2N.CX P w) P w K mg base N qual scope f cdv A outer s H E) [] (L2.start N vs) H s1 := inv_start S room.hd e0 hlen rv x
    refine wpAny_mono (ht.run [] s1 (L2.start N vs) H _ I hq) (fun fl s' hs' => ?_) fun _ _ z => z
    have out : ∀ {σ' : L2.St} {H' : Hp} {v : V} {u : Value}, L2.Inv (cxOf (L2N.CX P w) P w K mg base N qual scope f cdv A outer s H E) [] σ' H' s' → RelV v u → Q v H' → CE outer P w H s Q u s' :=
      fun {σ' H' v u} J r' q' => ⟨v, H', J.os, J.bare, J.base, J.hok, r', q'⟩
    cases fl with
    | ret u => obtain ⟨v, σ', H', J, r', q'⟩ := hs'; exact out J r' q'
    | next => obtain ⟨σ', H', J, q'⟩ := hs'; exact out (v := .non) (u := Value.none) J rfl q'
    | brk => obtain ⟨_, _, _, z⟩ := hs'; exact z.elim
    | cont => obtain ⟨_, _, _, z⟩ := hs'; exact z.elim
end

/-! calls whose exceptions are wished for at the caller's slots -/
section
variable {X : Cx} {CX : CXT} {k : Nat} {f C : Addr} {fd : FuncData} {ps : List Str} {sp : Sp} {dvs : List V} {ds : List Value} {E : St → XK} {x m : Str} {p pos apos : Pos} {e o : Expr} {es : List Expr} {ta : TE} {t : TA}
theorem pe_callSD0 (F : FnOk X.prog X.w X.K X.mg X.base CX k f fd ps sp) (hr : Room k X.A) (hg : Gl X x) (hm : X.mg x = some (.ref f)) (hk : PySem.W.keepIn X.K (.ref f) = true) (hb : Binds X.K fd ps ds) (hd : Vals dvs ds) (hx : ∀ σ, PassesAt CX X σ (E σ))
    (hdb : (x == ("__debug__" : Str)) = false) : PE X (.Call (.Name x p) [] [] pos) (tCallSD sp dvs E tNil) := by
  refine ⟨fun pins s σ H Q I h => ?_⟩
  refine wpAny_Call_Name_kw (ld_glob I hg hm ?_ hdb)
  exact PySem.W.callWith_K0 I.kIn hk (run_fnSD (us := []) F hr hb hd (hx σ) I .nil h)
def tMethSD (C : Addr) (m : Str) (sp : Sp) (dvs : List V) (E : St → XK) (ta : TE) (t : TA) : TE := fun σ H Q => ta σ H fun x H1 => ∃ a dx fs, x = .ref a ∧ H1 a = some (.ins C dx fs) ∧ fs.lookup m = none ∧
  t σ H1 fun vs H2 => sp (x :: (vs ++ dvs)) H2 Q (E σ)
theorem pe_methSD {pl : Sem Bool} (he : PE X o ta) (c : Cls X.K C) (hm : Meth X.K C m f) (F : FnOk X.prog X.w X.K X.mg X.base CX k f fd ps sp) (hr : Room k X.A) (hb : Binds X.K fd ps ds) (hd : Vals dvs ds) (hx : ∀ σ, PassesAt CX X σ (E σ)) (ha : PA X (e :: es) t)
    (hst : starEach (e :: es) X.env = (false, eval e X.env) :: starEach es X.env) (hpl : (backTo pos (starEach es X.env)).any (·.1) = false)
    (ht : eval (.Call (.Attribute o m apos) (e :: es) [] pos) X.env = (do
      let ov ← eval o X.env
      standAt apos.atName
      let (f, first) ← holding [ov] (getMethod ov m pl)
      callWith pos f first (backTo pos (starEach (e :: es) X.env)) (backToKw pos (keywordEach [] X.env)))) :
    PE X (.Call (.Attribute o m apos) (e :: es) [] pos) (tMethSD C m sp dvs E ta t) := by
  refine ⟨fun pins s σ H Q I h => ?_⟩
  refine PySem.W.methodCall_KW (pl := pl) (thn (he.run pins s σ H _ I h) fun u s1 ⟨x, H1, I1, rx, a, dx, fs, ex, ea, l, q⟩ => ?_) ht
  subst ex
  obtain rfl : u = Value.ref a := rx
  refine getmeth_ok I1 ea c hm l ?_
  refine PySem.W.callWith_K (first := [.ref a]) (h₀ := X.base) I.ok.mod.kin hm.kp (thn (ha.run pos pins s1 σ H1 _ I1 q) fun us s2 ⟨vs, H2, I2, r, q2⟩ => ⟨I2.kIn, ?_⟩) hst hpl
  exact run_fnSD (us := .ref a :: us) (vs := .ref a :: vs) F hr hb hd (hx σ) I2 (.cons rfl r) q2
theorem pe_methSD0 {pl : Sem Bool} (he : PE X o ta) (c : Cls X.K C) (hm : Meth X.K C m f) (F : FnOk X.prog X.w X.K X.mg X.base CX k f fd ps sp) (hr : Room k X.A) (hb : Binds X.K fd ps ds) (hd : Vals dvs ds) (hx : ∀ σ, PassesAt CX X σ (E σ))
    (ht : eval (.Call (.Attribute o m apos) [] [] pos) X.env = (do
      let ov ← eval o X.env
      standAt apos.atName
      let (f, first) ← holding [ov] (getMethod ov m pl)
      callWith pos f first (backTo pos (starEach [] X.env)) (backToKw pos (keywordEach [] X.env)))) :
    PE X (.Call (.Attribute o m apos) [] [] pos) (tMethSD C m sp dvs E ta tNil) := by
  refine ⟨fun pins s σ H Q I h => ?_⟩
  refine PySem.W.methodCall_KW (pl := pl) (thn (he.run pins s σ H _ I h) fun u s1 ⟨x, H1, I1, rx, a, dx, fs, ex, ea, l, q⟩ => ?_) ht
  subst ex
  obtain rfl : u = Value.ref a := rx
  refine getmeth_ok I1 ea c hm l ?_
  exact PySem.W.callWith_K0 (first := [.ref a]) I1.kIn hm.kp (run_fnSD (us := [.ref a]) (vs := [.ref a]) F hr hb hd (hx σ) I1 (.cons rfl .nil) q)
theorem run_makeS {pins : List (Addr × PySem.Obj)} {σ : St} {H : Hp} {s : Shared} {Q : VK} {us : List Value} {vs : List V} (M : Mk X.K C f) (F : FnOk X.prog X.w X.K X.mg X.base CX k f fd ps sp) (hr : RoomS k X.A) (hb : Binds X.K fd ps ds) (hd : Vals dvs ds)
    (hx : PassesAt CX X σ (E σ)) (I : L2.Inv X pins σ H s) (r : Vals vs us)
    (h : ∀ x dx, H x = none → H dx = none → dx ≠ x → sp (.ref x :: (vs ++ dvs)) (upd (upd H dx (.own x)) x (.ins C dx [])) (fun v H2 => v = .non ∧ Q (.ref x) H2) (E σ)) :
    wpAny (model X.prog X.w) X.A (call (.ref C) us) (EP X pins σ Q) X.xe s := by
  have hq := h (s.heap.objs.size + 1) s.heap.objs.size (I.hok.fresh (Nat.le_succ _)) (I.hok.fresh (Nat.le_refl _)) (Nat.ne_of_lt (Nat.lt_succ_self _))
  have I2 := Inv.made (C := C) I
  have r2 : Vals (V.ref (s.heap.objs.size + 1) :: (vs ++ dvs)) (Value.ref (s.heap.objs.size + 1) :: (us ++ ds)) := .cons rfl (r.append hd)
  have hl : (Value.ref (s.heap.objs.size + 1) :: us ++ ds).length = ps.length := by
    have e := r2.length
    rw [F.len _ _ _ _ hq] at e
    exact e.symm
  refine wpAny_call (make_map (f := f) I.kIn M.makes M.init (beq_iff_eq.mp M.fn) (codeAny_mono (F.run _ X.stack _ _ ⟨Value.ref (s.heap.objs.size + 1) :: us, []⟩ (Value.ref (s.heap.objs.size + 1) :: (us ++ ds)) _ _ (E σ) (hr.make C us [])
    (I2.env0.make C us []) (hb _ (Value.ref (s.heap.objs.size + 1) :: us) I2.kIn hl) r2 hq) fun r s' hq' => ?_))
  cases r with
  | error e => exact hx pins _ _ e s' I2 hq'
  | ok fl =>
    cases fl with
    | ret u =>
      obtain ⟨v, H', I3, rv, ev, q3⟩ := I2.after hq'
      subst ev
      exact ⟨rv, ⟨V.ref (s.heap.objs.size + 1), H', I3, rfl, q3⟩⟩
    | next => exact False.elim hq'
    | brk => exact False.elim hq'
    | cont => exact False.elim hq'
def tMakeS (C : Addr) (sp : Sp) (dvs : List V) (E : St → XK) (t : TA) : TE := fun σ H Q => t σ H fun vs H1 => ∀ x dx, H1 x = none → H1 dx = none → dx ≠ x →
  sp (.ref x :: (vs ++ dvs)) (upd (upd H1 dx (.own x)) x (.ins C dx [])) (fun v H2 => v = .non ∧ Q (.ref x) H2) (E σ)
theorem pe_makeS (M : Mk X.K C f) (F : FnOk X.prog X.w X.K X.mg X.base CX k f fd ps sp) (hr : RoomS k X.A) (hg : Gl X x) (hm : X.mg x = some (.ref C)) (hb : Binds X.K fd ps ds) (hd : Vals dvs ds) (hx : ∀ σ, PassesAt CX X σ (E σ))
    (ha : PA X (e :: es) t) (hdb : (x == ("__debug__" : Str)) = false) (he : starEach (e :: es) X.env = (false, eval e X.env) :: starEach es X.env) (hpl : (backTo pos (starEach es X.env)).any (·.1) = false) :
    PE X (.Call (.Name x p) (e :: es) [] pos) (tMakeS C sp dvs E t) := by
  refine ⟨fun pins s σ H Q I h => ?_⟩
  refine wpAny_Call_Name_kw (ld_glob I hg hm ?_ hdb)
  refine PySem.W.callWith_K (h₀ := X.base) I.ok.mod.kin M.kp (thn (ha.run pos pins s σ H _ I h) fun us s1 ⟨vs, H1, I1, r, q⟩ => ⟨I1.kIn, ?_⟩) he hpl
  exact run_makeS M F hr hb hd (hx σ) I1 r q
theorem pe_makeS0 (M : Mk X.K C f) (F : FnOk X.prog X.w X.K X.mg X.base CX k f fd ps sp) (hr : RoomS k X.A) (hg : Gl X x) (hm : X.mg x = some (.ref C)) (hb : Binds X.K fd ps ds) (hd : Vals dvs ds) (hx : ∀ σ, PassesAt CX X σ (E σ))
    (hdb : (x == ("__debug__" : Str)) = false) : PE X (.Call (.Name x p) [] [] pos) (tMakeS C sp dvs E tNil) := by
  refine ⟨fun pins s σ H Q I h => ?_⟩
  refine wpAny_Call_Name_kw (ld_glob I hg hm ?_ hdb)
  exact PySem.W.callWith_K0 I.kIn M.kp (run_makeS (us := []) M F hr hb hd (hx σ) I .nil h)
end

section
variable {α β : Type} {G : Cfg} {W : WX} {X : Cx} {σ : St} {μ : List Addr} {H : Hp} {S : Store} {Q : VK} {G' : Tab} {ft : Fns}
variable {o e : Expr} {es : List Expr} {pa pb pc : PyE} {p q : PyS} {apos cpos pos pos' tpos : Pos} {D : Ends} {env : Env} {st : Stmt} {sts : List Stmt}
variable {k : Nat} {fa C : Addr} {fd : FuncData} {ps : List Str} {ds : List Val} {us : List Value} {x : Str} {f : Nat}

abbrev WofE (E : XK) : WX := fun cls d _ H => E cls d H
/-- what the def f promises -/
def SpF (G : Cfg) (ft : Fns) (f : Nat) : Sp := fun xs H Q E => ∃ μ vs S, Sim G μ S H ∧ RVs μ H vs xs ∧ After G (WofE E) [] μ H (ft f vs S) (Kv Q)
theorem After.wish {W W' : WX} {σ' : St} {α : Type} {r : Res α} {k : α → List Addr → Store → Hp → Prop} (h : After G W σ μ H r k) (i : ∀ c d H, W c d σ H → W' c d σ' H) : After G W' σ' μ H r k := by
  cases r with
  | ok a S => exact h
  | ex e S => exact fun μ' H' d u k s r => i _ _ _ (h μ' H' d u k s r)
  | no => exact h
theorem dVs_rel : ∀ {vs : List Val}, vs.all cOk = true → RVs μ H vs (vs.map cV)
  | [], _ => .nil
  | v :: vs, h => by
    simp only [List.all_cons, Bool.and_eq_true] at h
    exact .cons (cV_rel h.1) (dVs_rel h.2)
/-- the defaults of a call -/
structure DefsOk (K : PySem.W.Frag) (fd : FuncData) (ps : List Str) (ds : List Val) : Prop where
  ok : ds.all cOk = true
  at_ : ∃ us, Binds K fd ps us ∧ Vals (ds.map cV) us

theorem call_read {t : TA} (hd : ds.all cOk = true) (h : lift G W (ev G' ft (.call f pa ds)) σ H Q) : tCallSD (SpF G ft f) (ds.map cV) (WE W) (liftA G W (evA G' ft pa)) σ H Q := by
  have h2 := oneA (f := fun vs env S1 => ft f (vs ++ ds) S1) (by simp only [lift, ev] at h; exact h)
  obtain ⟨μ, env, S, s, e, h2⟩ := h2
  refine ⟨μ, env, S, s, e, h2.imp fun vs μ1 S1 H1 u1 k1 s1 q xs r => ?_⟩
  obtain ⟨μ2, env2, vs2, S2, s2, e2, r2, q2⟩ := q xs r
  exact ⟨μ2, vs2 ++ ds, S2, s2, r2.app (dVs_rel hd), q2.wish fun _ _ _ z => z⟩
theorem de_call (F : FnOk X.prog X.w X.K X.mg X.base (L2N.CX X.prog X.w) k fa fd ps (SpF G ft f)) (tk : L2N.Takes X W) (hr : Room k X.A) (hg : Gl X x) (hm : X.mg x = some (.ref fa)) (hk : PySem.W.keepIn X.K (.ref fa) = true) (hd : DefsOk X.K fd ps ds)
    (ha : PA X (e :: es) (liftA G W (evA G' ft pa))) (hdb : (x == ("__debug__" : Str)) = false) (he : starEach (e :: es) X.env = (false, eval e X.env) :: starEach es X.env) (hpl : (backTo pos (starEach es X.env)).any (·.1) = false) :
    PE X (.Call (.Name x apos) (e :: es) [] pos) (lift G W (ev G' ft (.call f pa ds))) := by
  obtain ⟨d1, us, d2, d3⟩ := hd
  exact (pe_callSD F hr hg hm hk d2 d3 (fun σ => L2N.passAt tk σ) ha hdb he hpl).imp fun σ H Q h => call_read (t := tNil) d1 h
theorem de_call0 (F : FnOk X.prog X.w X.K X.mg X.base (L2N.CX X.prog X.w) k fa fd ps (SpF G ft f)) (tk : L2N.Takes X W) (hr : Room k X.A) (hg : Gl X x) (hm : X.mg x = some (.ref fa)) (hk : PySem.W.keepIn X.K (.ref fa) = true) (hd : DefsOk X.K fd ps ds)
    (hdb : (x == ("__debug__" : Str)) = false) : PE X (.Call (.Name x apos) [] [] pos) (lift G W (ev G' ft (.call f .nil ds))) := by
  obtain ⟨d1, us, d2, d3⟩ := hd
  refine (pe_callSD0 F hr hg hm hk d2 d3 (fun σ => L2N.passAt tk σ) hdb).imp fun σ H Q h => ?_
  obtain ⟨μ, env, S, s, e, h2⟩ := call_read (t := tNil) d1 h
  exact (by simp only [evA] at h2; exact h2.here s [] .nil)

/-! new instances -/
theorem new_read {c : Nat} (hd : ds.all cOk = true) (h : lift G W (ev G' ft (.new c f pa ds)) σ H Q) : liftA G W (evA G' ft pa) σ H fun xs H1 => ∀ x dx, H1 x = none → H1 dx = none → dx ≠ x →
    SpF G ft f (.ref x :: (xs ++ ds.map cV)) (upd (upd H1 dx (.own x)) x (.ins (G.ca c) dx [])) (fun v H2 => v = .non ∧ Q (.ref x) H2) (WE W σ) := by
  have h2 := oneA (f := fun vs env S1 => (ft f (.obj S1.length :: (vs ++ ds)) (S1 ++ [.ins c []])).bind fun r S2 => newV (.obj S1.length) r S2) (by simp only [lift, ev] at h; exact h)
  obtain ⟨μ, env, S, s, e, h2⟩ := h2
  refine ⟨μ, env, S, s, e, h2.imp fun vs μ1 S1 H1 u1 k1 s1 q xs r a dx ha hdx ne => ?_⟩
  obtain ⟨μ2, env2, vs2, S2, s2, e2, r2, q2⟩ := q xs r
  have s3 : Sim G μ2 S2 (upd H1 dx (.own a)) := s2.new hdx
  have k3 : Keep H1 (upd H1 dx (.own a)) := Keep.new hdx
  have ha3 : upd H1 dx (.own a) a = none := by rw [upd_ne (Ne.symm ne)]; exact ha
  have s4 : Sim G (μ2 ++ [a]) (S2 ++ [.ins c []]) (upd (upd H1 dx (.own a)) a (.ins (G.ca c) dx [])) := s3.alloc ha3 rfl ⟨dx, [], upd_same, trivial⟩
  have k4 := k3.trans (Keep.new (o := .ins (G.ca c) dx []) ha3)
  have u4 := Up.app μ2 a
  refine ⟨μ2 ++ [a], .obj S2.length :: (vs2 ++ ds), _, s4, .cons (.obj (by rw [← s2.len]; simp)) ((r2.mono u4 k4).app (dVs_rel hd)), ?_⟩
  refine ((q2.later u4 k4).bind.imp fun v μ5 S5 H5 u5 k5 s5 q5 w rw => ?_).wish fun _ _ _ z => z
  unfold newV at q5
  split at q5
  · cases rw
    exact ⟨rfl, q5.val s5 (.obj (u5 _ _ (by rw [← s2.len]; simp)))⟩
  · exact q5.elim
theorem de_new {c : Nat} (M : Mk X.K (G.ca c) fa) (F : FnOk X.prog X.w X.K X.mg X.base (L2N.CX X.prog X.w) k fa fd ps (SpF G ft f)) (tk : L2N.Takes X W) (hr : RoomS k X.A) (hg : Gl X x) (hm : X.mg x = some (.ref (G.ca c))) (hd : DefsOk X.K fd ps ds)
    (ha : PA X (e :: es) (liftA G W (evA G' ft pa))) (hdb : (x == ("__debug__" : Str)) = false) (he : starEach (e :: es) X.env = (false, eval e X.env) :: starEach es X.env) (hpl : (backTo pos (starEach es X.env)).any (·.1) = false) :
    PE X (.Call (.Name x apos) (e :: es) [] pos) (lift G W (ev G' ft (.new c f pa ds))) := by
  obtain ⟨d1, us, d2, d3⟩ := hd
  exact (pe_makeS M F hr hg hm d2 d3 (fun σ => L2N.passAt tk σ) ha hdb he hpl).imp fun σ H Q h => new_read d1 h
theorem de_new0 {c : Nat} (M : Mk X.K (G.ca c) fa) (F : FnOk X.prog X.w X.K X.mg X.base (L2N.CX X.prog X.w) k fa fd ps (SpF G ft f)) (tk : L2N.Takes X W) (hr : RoomS k X.A) (hg : Gl X x) (hm : X.mg x = some (.ref (G.ca c))) (hd : DefsOk X.K fd ps ds)
    (hdb : (x == ("__debug__" : Str)) = false) : PE X (.Call (.Name x apos) [] [] pos) (lift G W (ev G' ft (.new c f .nil ds))) := by
  obtain ⟨d1, us, d2, d3⟩ := hd
  refine (pe_makeS0 M F hr hg hm d2 d3 (fun σ => L2N.passAt tk σ) hdb).imp fun σ H Q h => ?_
  obtain ⟨μ, env, S, s, e, h2⟩ := new_read d1 h
  exact (by simp only [evA] at h2; exact h2.here s [] .nil)

/-! methods -/
/-- the method's def for the instances of one class -/
structure MethOk (X : Cx) (G : Cfg) (G' : Tab) (ft : Fns) (k m n c : Nat) (fds : Nat × List Val) : Prop where
  ok : ∃ fa fd ps, Cls X.K (G.ca c) ∧ Meth X.K (G.ca c) (G.nm m) fa ∧ FnOk X.prog X.w X.K X.mg X.base (L2N.CX X.prog X.w) k fa fd ps (SpF G ft fds.1) ∧ DefsOk X.K fd ps (fds.2.drop n)
/-- the reading of o.m(..), the class known -/
def tMc (G : Cfg) (W : WX) (G' : Tab) (ft : Fns) (pa ps : PyE) (m n c : Nat) : TE := fun σ H Q => ∃ fds, G'.mt c m = some fds ∧ ∃ μ env S, Sim G μ S H ∧ REnv μ H env σ ∧ After G W σ μ H (ev G' ft pa env S) fun x μ' S' H' =>
  Sim G μ' S' H' → ∃ i fs, x = .obj i ∧ S'[i]? = some (.ins c fs) ∧ fget m fs = none ∧ liftA G W (evA G' ft ps) σ H' fun xs H2 => ∀ x', RV μ' H' x x' → SpF G ft fds.1 (x' :: (xs ++ (fds.2.drop n).map cV)) H2 Q (WE W σ)
theorem meth_read {m n c0 : Nat} {fds0 : Nat × List Val} (h0 : G'.mt c0 m = some fds0) (hd : ∀ c fds, G'.mt c m = some fds → (fds.2.drop n).all cOk = true) (h : lift G W (ev G' ft (.meth pa m n pb)) σ H Q) : ∃ c, tMc G W G' ft pa pb m n c σ H Q := by
  obtain ⟨μ, env, S, s, e, h⟩ := h
  simp only [ev] at h
  have h1 := h.bind
  cases er : ev G' ft pa env S with
  | no => rw [er] at h1; exact h1.elim
  | ex xx S1 =>
    rw [er] at h1
    exact ⟨c0, fds0, h0, μ, env, S, s, e, by rw [er]; exact h1⟩
  | ok v S1 =>
    rw [er] at h1
    cases em : methV G' m v S1 with
    | none =>
      refine ⟨c0, fds0, h0, μ, env, S, s, e, ?_⟩
      rw [er]
      intro μ' H' u k s' _
      have := h1 μ' H' u k s'
      simp only [em] at this
      exact this.elim
    | some fds =>
      have em' := em
      unfold methV at em
      split at em
      · rename_i i
        split at em
        · rename_i c fs eo
          split at em
          · rename_i ef
            refine ⟨c, fds, em, μ, env, S, s, e, ?_⟩
            rw [er]
            intro μ' H' u k s' _
            have h2 := h1 μ' H' u k s'
            simp only [em'] at h2
            refine ⟨i, fs, rfl, eo, ef, μ', env, S1, s', e.mono u k, h2.bind.imp fun vs μ2 S2 H2 u2 k2 s2 q xs r x' rx => ?_⟩
            exact ⟨μ2, _, S2, s2, .cons (rx.mono u2 k2 _ _) (r.app (dVs_rel (hd c fds em))), q.wish fun _ _ _ z => z⟩
          · cases em
        · cases em
      · cases em
theorem mc_read {m n c : Nat} {fds : Nat × List Val} (hm : m < G.NM.length) (he : G'.mt c m = some fds) (h : tMc G W G' ft pa pb m n c σ H Q) :
    tMethSD (G.ca c) (G.nm m) (SpF G ft fds.1) ((fds.2.drop n).map cV) (WE W) (lift G W (ev G' ft pa)) (liftA G W (evA G' ft pb)) σ H Q := by
  obtain ⟨fds', he', μ, env, S, s, e, h⟩ := h
  rw [he] at he'; cases he'
  refine ⟨μ, env, S, s, e, h.imp fun x μ1 S1 H1 u1 k1 s1 q x' rx => ?_⟩
  obtain ⟨i, fs, rfl, eo, ef, q⟩ := q s1
  have rx' := rx
  cases rx with
  | obj hs =>
  obtain ⟨a, dx, ys, g1, g2, g3⟩ := s1.ins eo
  rw [hs] at g1; cases g1
  refine ⟨_, dx, ys, rfl, g2, (g3.get hm).2 ef, ?_⟩
  obtain ⟨μ2, env2, S2, s2, e2, q⟩ := q
  exact ⟨μ2, env2, S2, s2, e2, q.imp fun vs μ3 S3 H3 u3 k3 s3 q3 xs r => q3 xs r _ rx'⟩
theorem never {t : TE} {e : Expr} {X : Cx} (h : ∀ σ H Q, ¬ t σ H Q) : PE X e t := ⟨fun _ _ σ H Q _ q => (h σ H Q q).elim⟩
theorem de_meth {pl : Sem Bool} {m n c0 : Nat} {fds0 : Nat × List Val} (h0 : G'.mt c0 m = some fds0) (hd : ∀ c fds, G'.mt c m = some fds → MethOk X G G' ft k m n c fds) (hm : m < G.NM.length) (tk : L2N.Takes X W) (hr : Room k X.A)
    (ho : PE X o (lift G W (ev G' ft pa))) (ha : PA X (e :: es) (liftA G W (evA G' ft pb)))
    (hst : starEach (e :: es) X.env = (false, eval e X.env) :: starEach es X.env) (hpl : (backTo pos (starEach es X.env)).any (·.1) = false)
    (ht : eval (.Call (.Attribute o (G.nm m) apos) (e :: es) [] pos) X.env = (do
      let ov ← eval o X.env
      standAt apos.atName
      let (f, first) ← holding [ov] (getMethod ov (G.nm m) pl)
      callWith pos f first (backTo pos (starEach (e :: es) X.env)) (backToKw pos (keywordEach [] X.env)))) :
    PE X (.Call (.Attribute o (G.nm m) apos) (e :: es) [] pos) (lift G W (ev G' ft (.meth pa m n pb))) := by
  have hd' : ∀ c fds, G'.mt c m = some fds → (fds.2.drop n).all cOk = true := fun c fds he => by
    obtain ⟨fa, fd, ps, _, _, _, d⟩ := hd c fds he
    exact d.ok
  refine (PE.any (t := fun c => tMc G W G' ft pa pb m n c) fun c => ?_).imp fun σ H Q h => meth_read h0 hd' h
  cases he : G'.mt c m with
  | none => exact never fun σ H Q ⟨fds, z, _⟩ => by rw [he] at z; cases z
  | some fds =>
    obtain ⟨fa, fd, ps, c1, c2, F, d1, us, d2, d3⟩ := hd c fds he
    exact (pe_methSD ho c1 c2 F hr d2 d3 (fun σ => L2N.passAt tk σ) ha hst hpl ht).imp fun σ H Q h => mc_read hm he h
theorem de_meth0 {pl : Sem Bool} {m n c0 : Nat} {fds0 : Nat × List Val} (h0 : G'.mt c0 m = some fds0) (hd : ∀ c fds, G'.mt c m = some fds → MethOk X G G' ft k m n c fds) (hm : m < G.NM.length) (tk : L2N.Takes X W) (hr : Room k X.A)
    (ho : PE X o (lift G W (ev G' ft pa)))
    (ht : eval (.Call (.Attribute o (G.nm m) apos) [] [] pos) X.env = (do
      let ov ← eval o X.env
      standAt apos.atName
      let (f, first) ← holding [ov] (getMethod ov (G.nm m) pl)
      callWith pos f first (backTo pos (starEach [] X.env)) (backToKw pos (keywordEach [] X.env)))) :
    PE X (.Call (.Attribute o (G.nm m) apos) [] [] pos) (lift G W (ev G' ft (.meth pa m n .nil))) := by
  have hd' : ∀ c fds, G'.mt c m = some fds → (fds.2.drop n).all cOk = true := fun c fds he => by
    obtain ⟨fa, fd, ps, _, _, _, d⟩ := hd c fds he
    exact d.ok
  refine (PE.any (t := fun c => tMc G W G' ft pa .nil m n c) fun c => ?_).imp fun σ H Q h => meth_read h0 hd' h
  cases he : G'.mt c m with
  | none => exact never fun σ H Q ⟨fds, z, _⟩ => by rw [he] at z; cases z
  | some fds =>
    obtain ⟨fa, fd, ps, c1, c2, F, d1, us, d2, d3⟩ := hd c fds he
    refine (pe_methSD0 ho c1 c2 F hr d2 d3 (fun σ => L2N.passAt tk σ) ht).imp fun σ H Q h => ?_
    refine lift_mono (mc_read hm he h) fun x H1 ⟨a, dx, fs, q1, q2, q3, q4⟩ => ⟨a, dx, fs, q1, q2, q3, ?_⟩
    obtain ⟨μ, env, S, s, e, h2⟩ := q4
    simp only [evA] at h2
    exact h2.here s [] .nil
end
end Nw

set_option Elab.async false
set_option linter.all false
set_option maxRecDepth 100000
set_option maxHeartbeats 4000000
namespace Nw
open PySem L2
/-! ## an exception's object more that is known to be handled -/
def Cfg.heat (G : Cfg) (a : Addr) : Cfg := { G with hx := a :: G.hx }
def Cfg.heatS (G : Cfg) (sl : Option Nat) (a : Addr) : Cfg := match sl with
  | none => G
  | some _ => G.heat a
section
variable {G : Cfg} {a : Addr} {μ : List Addr} {H : Hp} {S : Store}
theorem rf_heat : ∀ {x : List (Nat × Val)} {y : List (Str × V)}, RF (G.heat a) μ H x y ↔ RF G μ H x y
  | [], [] => Iff.rfl
  | (_, _) :: _, (_, _) :: _ => ⟨fun ⟨h0, h1, h2, h3⟩ => ⟨h0, h1, h2, rf_heat.mp h3⟩, fun ⟨h0, h1, h2, h3⟩ => ⟨h0, h1, h2, rf_heat.mpr h3⟩⟩
  | [], _ :: _ => Iff.rfl
  | _ :: _, [] => Iff.rfl
theorem ro_heat {b : Addr} {o : Obj} : RO (G.heat a) μ H b o ↔ RO G μ H b o := by
  cases o with
  | lst l xs => cases l <;> exact Iff.rfl
  | dK l xs => cases l <;> exact Iff.rfl
  | dT l xs => cases l <;> exact Iff.rfl
  | ins c fs => exact ⟨fun ⟨dx, ys, h, q⟩ => ⟨dx, ys, h, rf_heat.mp q⟩, fun ⟨dx, ys, h, q⟩ => ⟨dx, ys, h, rf_heat.mpr q⟩⟩
  | exn c fs => exact ⟨fun ⟨oe, vs, h, h1, h2, q⟩ => ⟨oe, vs, h, h1, h2, q.imp id fun ⟨dx, od, ys, q1, q2, q3⟩ => ⟨dx, od, ys, q1, q2, rf_heat.mp q3⟩⟩, fun ⟨oe, vs, h, h1, h2, q⟩ => ⟨oe, vs, h, h1, h2, q.imp id fun ⟨dx, od, ys, q1, q2, q3⟩ => ⟨dx, od, ys, q1, q2, rf_heat.mpr q3⟩⟩⟩
theorem Sim.warm (s : Sim G μ S H) (h : HotO H a) : Sim (G.heat a) μ S H :=
  ⟨s.len, fun i o e => let ⟨b, h1, h2⟩ := s.ob i o e; ⟨b, h1, ro_heat.mpr h2⟩, s.inj, s.tabs, fun b hb => by
    rcases List.mem_cons.mp hb with rfl | hb
    · exact h
    · exact s.hot b hb⟩
theorem Sim.cool (s : Sim (G.heat a) μ S H) : Sim G μ S H :=
  ⟨s.len, fun i o e => let ⟨b, h1, h2⟩ := s.ob i o e; ⟨b, h1, ro_heat.mp h2⟩, s.inj, s.tabs, fun b hb => s.hot b (List.mem_cons_of_mem _ hb)⟩
theorem rx_heat {e : Exn} {d : Option Addr} : RX (G.heat a) μ H e d ↔ RX G μ H e d :=
  ⟨fun h => h.imp id fun ⟨b, ys, h1, h2, h3⟩ => ⟨b, ys, h1, h2, rf_heat.mp h3⟩, fun h => h.imp id fun ⟨b, ys, h1, h2, h3⟩ => ⟨b, ys, h1, h2, rf_heat.mpr h3⟩⟩
theorem afterO_warm {W : WX} {o : Out} {D : Ends} (h : AfterO G W μ H o D) : AfterO (G.heat a) W μ H o D := by
  cases o with
  | nx e S => exact fun μ' H' σ' u k s => h μ' H' σ' u k s.cool
  | rt v S => exact fun μ' H' x u k s => h μ' H' x u k s.cool
  | bk e S => exact fun μ' H' σ' u k s => h μ' H' σ' u k s.cool
  | ct e S => exact fun μ' H' σ' u k s => h μ' H' σ' u k s.cool
  | ex x e S => exact fun μ' H' σ' d u k s r rx => h μ' H' σ' d u k s.cool r (rx_heat.mp rx)
  | no => exact h
theorem spF_cool {ft : Fns} {f : Nat} {vs : List V} {Q : VK} {E : XK} (h : SpF (G.heat a) ft f vs H Q E) : SpF G ft f vs H Q E := by
  obtain ⟨μ, vs', S, s, r, h⟩ := h
  refine ⟨μ, vs', S, s.cool, r, ?_⟩
  have hot := s.hot a List.mem_cons_self
  cases e : ft f vs' S with
  | ok v S' =>
    rw [e] at h
    exact fun μ' H' u k s' => h μ' H' u k (s'.warm (hot.keep k.z))
  | ex x S' =>
    rw [e] at h
    exact fun μ' H' d u k s' rx => h μ' H' d u k (s'.warm (hot.keep k.z)) (rx_heat.mpr rx)
  | no => rw [e] at h; exact h
end
end Nw

set_option Elab.async false
set_option linter.all false
set_option maxRecDepth 100000
set_option maxHeartbeats 1000000
namespace Nw
open PySem L2

/-! C.m(e, ..): a def read off a class -/
section
variable {X : Cx} {CX : CXT} {k : Nat} {f C g : Addr} {fd : FuncData} {ps : List Str} {sp : Sp} {dvs : List V} {ds : List Value} {E : St → XK} {x m : Str} {p pos apos : Pos} {e o : Expr} {es : List Expr} {ta : TE} {t : TA} {mc : Value}
theorem getmethcv_ok {pl : Sem Bool} {pins : List (Addr × PySem.Obj)} {σ : St} {H : Hp} {s : Shared} {A : Around} {E : Value → Shared → Prop} {v : V} {u : Value} {Q : Value × List Value → Shared → Prop} (I : L2.Inv X pins σ H s) (r : ClX.CRead X.K C mc) (c : ClX.CVal X.K C mc m v u) (h : ∀ s', L2.Inv X pins σ H s' → Q (u, []) s') :
    wpAny (model X.prog X.w) A (getMethod (.ref C) m pl) Q E s := PySem.W.method_cls I.kIn r.ga (ClX.getcval_ok I r c h)
theorem pe_clsSD {pl : Sem Bool} (r : ClX.CRead X.K C mc) (c : ClX.CVal X.K C mc m (.ref g) (.ref g)) (F : FnOk X.prog X.w X.K X.mg X.base CX k g fd ps sp) (hr : Room k X.A) (hg : Gl X x) (hm : X.mg x = some (.ref C)) (hk : PySem.W.keepIn X.K (.ref g) = true) (hb : Binds X.K fd ps ds) (hd : Vals dvs ds) (hx : ∀ σ, PassesAt CX X σ (E σ))
    (ha : PA X (e :: es) t) (hdb : (x == ("__debug__" : Str)) = false) (hst : starEach (e :: es) X.env = (false, eval e X.env) :: starEach es X.env) (hpl : (backTo pos (starEach es X.env)).any (·.1) = false)
    (ht : eval (.Call (.Attribute (.Name x p) m apos) (e :: es) [] pos) X.env = (do
      let ov ← eval (.Name x p) X.env
      standAt apos.atName
      let (f, first) ← holding [ov] (getMethod ov m pl)
      callWith pos f first (backTo pos (starEach (e :: es) X.env)) (backToKw pos (keywordEach [] X.env)))) :
    PE X (.Call (.Attribute (.Name x p) m apos) (e :: es) [] pos) (tCallSD sp dvs E t) := by
  have he : PE X (.Name x p) (tC (.ref C)) := pe_glob hg hm rfl hdb
  refine ⟨fun pins s σ H Q I h => ?_⟩
  refine PySem.W.methodCall_KW (pl := pl) (thn (he.run pins s σ H (fun v H1 => v = .ref C ∧ H1 = H) I ⟨rfl, rfl⟩) fun u s1 ⟨v, H1, I1, rv, ev, eh⟩ => ?_) ht
  subst ev eh
  obtain rfl : u = Value.ref C := rv
  refine getmethcv_ok I1 r c fun s2 I2 => ?_
  refine PySem.W.callWith_K (first := []) (h₀ := X.base) I2.ok.mod.kin hk (thn (ha.run pos pins s2 σ _ _ I2 h) fun us s3 ⟨vs, H2, I3, r3, q2⟩ => ⟨I3.kIn, ?_⟩) hst hpl
  exact run_fnSD F hr hb hd (hx σ) I3 r3 q2
end
section
variable {α β : Type} {G : Cfg} {W : WX} {X : Cx} {σ : St} {μ : List Addr} {H : Hp} {S : Store} {Q : VK} {G' : Tab} {ft : Fns}
variable {f k : Nat} {fa C : Addr} {fd : FuncData} {ps : List Str} {ds : List Val} {x m : Str} {p apos pos : Pos} {e : Expr} {es : List Expr} {pa : PyE} {mc : Value}
theorem de_cls {pl : Sem Bool} (r : ClX.CRead X.K C mc) (c : ClX.CVal X.K C mc m (.ref fa) (.ref fa)) (F : FnOk X.prog X.w X.K X.mg X.base (L2N.CX X.prog X.w) k fa fd ps (SpF G ft f)) (tk : L2N.Takes X W) (hr : Room k X.A) (hg : Gl X x) (hm : X.mg x = some (.ref C)) (hk : PySem.W.keepIn X.K (.ref fa) = true) (hd : DefsOk X.K fd ps ds)
    (ha : PA X (e :: es) (liftA G W (evA G' ft pa))) (hdb : (x == ("__debug__" : Str)) = false) (he : starEach (e :: es) X.env = (false, eval e X.env) :: starEach es X.env) (hpl : (backTo pos (starEach es X.env)).any (·.1) = false)
    (ht : eval (.Call (.Attribute (.Name x p) m apos) (e :: es) [] pos) X.env = (do
      let ov ← eval (.Name x p) X.env
      standAt apos.atName
      let (f, first) ← holding [ov] (getMethod ov m pl)
      callWith pos f first (backTo pos (starEach (e :: es) X.env)) (backToKw pos (keywordEach [] X.env)))) :
    PE X (.Call (.Attribute (.Name x p) m apos) (e :: es) [] pos) (lift G W (ev G' ft (.call f pa ds))) := by
  obtain ⟨d1, us, d2, d3⟩ := hd
  exact (pe_clsSD r c F hr hg hm hk d2 d3 (fun σ => L2N.passAt tk σ) ha hdb he hpl ht).imp fun σ H Q h => call_read (t := tNil) d1 h
end
end Nw

set_option Elab.async false
set_option linter.all false
set_option maxRecDepth 100000
set_option maxHeartbeats 1000000
namespace Nw
open PySem L2

/-! ## dicts that are walked: locked -/
section
variable {α β : Type} {G : Cfg} {W : WX} {X : Cx} {σ : St} {μ : List Addr} {H : Hp} {S : Store} {Q : VK} {G' : Tab} {ft : Fns}
variable {e o : Expr} {pa : PyE} {apos cpos tpos : Pos}
theorem RKv.get {κ : Type} : ∀ {a : List (κ × Val)} {b : List (κ × V)} {j : Nat} {k : κ} {v : Val}, RKv μ H a b → a[j]? = some (k, v) → ∃ x, b[j]? = some (k, x) ∧ RV μ H v x
  | [], [], _, _, _, _, e => by simp at e
  | (q, w) :: r, (q', y) :: r', 0, k, v, ⟨h1, h2, h3⟩, e => by
    simp at e
    obtain ⟨rfl, rfl⟩ := e
    subst h1
    exact ⟨y, rfl, h2⟩
  | (q, w) :: r, (q', y) :: r', j + 1, k, v, ⟨h1, h2, h3⟩, e => by
    obtain ⟨x, e1, e2⟩ := RKv.get (j := j) h3 (by simpa using e)
    exact ⟨x, by simpa using e1, e2⟩
  | [], _ :: _, _, _, _, h, _ => h.elim
  | _ :: _, [], _, _, _, h, _ => h.elim
theorem locked_one (s : Sim G μ S H) {i : Nat} {kvs : List (Key × Val)} {a : Addr} {od : PySem.Obj} {ys : List (Key × V)} (e : S[i]? = some (.dK true kvs)) (ha : μ[i]? = some a) (hH : H a = some (.frz od (.dK ys))) : RKv μ H kvs ys ∧ ∀ p ∈ kvs, kOk p.1 = true := by
  obtain ⟨b, g1, od', ys', g2, g3, g4⟩ := s.ob i _ e
  rw [ha] at g1; cases g1
  rw [hH] at g2; cases g2
  exact ⟨g3, g4⟩
theorem ItOk.its {i : Nat} {a : Addr} {od : PySem.Obj} {ys : List (Key × V)} (ha : μ[i]? = some a) (hH : H a = some (.frz od (.dK ys))) : ItOk G μ H (.its i) (Iti a od ys) := by
  intro μ' H' S' j u k s
  have hH' := k.z _ _ _ hH
  refine ⟨fun v e => ?_, fun e => ?_⟩
  · simp only [walkAt] at e
    split at e
    · rename_i kvs eo
      obtain ⟨r1, r2⟩ := locked_one s eo (u _ _ ha) hH'
      obtain ⟨kv, e1, e2⟩ := Option.map_eq_some_iff.mp (Option.some.inj e)
      obtain ⟨kk, vv⟩ := kv
      subst e2
      obtain ⟨x, e3, e4⟩ := r1.get e1
      refine ⟨⟨hH', (List.getElem?_eq_some_iff.mp e3).1⟩, fun x' H'' ⟨T, k2, v2, hv, hx, hT, hh⟩ => ?_⟩
      rw [e3] at hv; cases hv
      subst hh; subst hx
      have kp := Keep.new (o := .tup [kV kk, x]) hT
      exact ⟨kp, s.new hT, .tup upd_same (.cons (RV.key (r2 _ (List.mem_of_getElem? e1))) (.cons (e4.mono (Up.refl _) kp _ _) .nil))⟩
    · cases e
  · simp only [walkAt] at e
    split at e
    · rename_i kvs eo
      obtain ⟨r1, r2⟩ := locked_one s eo (u _ _ ha) hH'
      exact ⟨hH', by rw [← r1.length]; exact List.getElem?_eq_none_iff.mp (Option.map_eq_none_iff.mp (Option.some.inj e))⟩
    · cases e
theorem ItOk.ks {i : Nat} {a : Addr} {od : PySem.Obj} {ys : List (Key × V)} (ha : μ[i]? = some a) (hH : H a = some (.frz od (.dK ys))) : ItOk G μ H (.ks i) (Itk a od ys) := by
  intro μ' H' S' j u k s
  have hH' := k.z _ _ _ hH
  have notT : ∀ {kvs : List (List Key × Val)}, S'[i]? ≠ some (.dT true kvs) := fun {kvs} eo => by
    obtain ⟨b, g1, od', ys', g2, _⟩ := s.ob i _ eo
    rw [u _ _ ha] at g1; cases g1
    rw [hH'] at g2; cases g2
  refine ⟨fun v e => ?_, fun e => ?_⟩
  · simp only [walkAt] at e
    split at e
    · rename_i kvs eo
      obtain ⟨r1, r2⟩ := locked_one s eo (u _ _ ha) hH'
      obtain ⟨kv, e1, e2⟩ := Option.map_eq_some_iff.mp (Option.some.inj e)
      obtain ⟨kk, vv⟩ := kv
      subst e2
      obtain ⟨x, e3, e4⟩ := r1.get e1
      refine ⟨⟨hH', (List.getElem?_eq_some_iff.mp e3).1⟩, fun x' H'' ⟨hh, k2, v2, hv, hx⟩ => ?_⟩
      rw [e3] at hv; cases hv
      subst hh; subst hx
      exact ⟨Keep.refl _, s, RV.key (r2 _ (List.mem_of_getElem? e1))⟩
    · rename_i kvs eo
      exact absurd eo notT
    · cases e
  · simp only [walkAt] at e
    split at e
    · rename_i kvs eo
      obtain ⟨r1, r2⟩ := locked_one s eo (u _ _ ha) hH'
      exact ⟨hH', by rw [← r1.length]; exact List.getElem?_eq_none_iff.mp (Option.map_eq_none_iff.mp (Option.some.inj e))⟩
    · rename_i kvs eo
      exact absurd eo notT
    · cases e
theorem keys_rvk : ∀ {k : List Key}, (∀ i ∈ k, kOk i = true) → RVs μ H (k.map keyV) (k.map kV)
  | [], _ => .nil
  | i :: k, h => .cons (RV.key (h i List.mem_cons_self)) (keys_rvk fun j hj => h j (List.mem_cons_of_mem _ hj))
theorem ItOk.kst {i : Nat} {a : Addr} {od : PySem.Obj} {ys : List (List Key × V)} (ha : μ[i]? = some a) (hH : H a = some (.frz od (.dT ys))) : ItOk G μ H (.ks i) (Itkt a od ys) := by
  intro μ' H' S' j u k s
  have hH' := k.z _ _ _ hH
  have notK : ∀ {kvs : List (Key × Val)}, S'[i]? ≠ some (.dK true kvs) := fun {kvs} eo => by
    obtain ⟨b, g1, od', ys', g2, _⟩ := s.ob i _ eo
    rw [u _ _ ha] at g1; cases g1
    rw [hH'] at g2; cases g2
  have one : ∀ {kvs : List (List Key × Val)}, S'[i]? = some (.dT true kvs) → RKv μ' H' kvs ys ∧ ∀ p ∈ kvs, ∀ k ∈ p.1, kOk k = true := fun {kvs} eo => by
    obtain ⟨b, g1, od', ys', g2, g3, g4⟩ := s.ob i _ eo
    rw [u _ _ ha] at g1; cases g1
    rw [hH'] at g2; cases g2
    exact ⟨g3, g4⟩
  refine ⟨fun v e => ?_, fun e => ?_⟩
  · simp only [walkAt] at e
    split at e
    · rename_i kvs eo
      exact absurd eo notK
    · rename_i kvs eo
      obtain ⟨r1, r2⟩ := one eo
      obtain ⟨kv, e1, e2⟩ := Option.map_eq_some_iff.mp (Option.some.inj e)
      obtain ⟨kk, vv⟩ := kv
      subst e2
      obtain ⟨x, e3, e4⟩ := r1.get e1
      refine ⟨⟨hH', (List.getElem?_eq_some_iff.mp e3).1⟩, fun x' H'' ⟨hh, k2, v2, q, hv, hx, hq⟩ => ?_⟩
      rw [e3] at hv; cases hv
      subst hh; subst hx
      exact ⟨Keep.refl _, s, .tup hq (keys_rvk (r2 _ (List.mem_of_getElem? e1)))⟩
    · cases e
  · simp only [walkAt] at e
    split at e
    · rename_i kvs eo
      exact absurd eo notK
    · rename_i kvs eo
      obtain ⟨r1, r2⟩ := one eo
      exact ⟨hH', by rw [← r1.length]; exact List.getElem?_eq_none_iff.mp (Option.map_eq_none_iff.mp (Option.some.inj e))⟩
    · cases e
theorem di_items {elts : List Expr} {kk : Nat} (he : PE X o (lift G W (ev G' ft pa))) (hb : attributeBase o "items" X.env (eval o X.env) = eval o X.env) (hl : (apos.endLine == cpos.line) = true) :
    PI X (.Tuple elts kk tpos) (.Call (.Attribute o "items" apos) [] [] cpos) (iG G W .items (evA G' ft (.cons pa .nil))) := by
  refine pi_imp (pi_items he hb hl) fun σ H R h => ?_
  obtain ⟨μ, env, S, s, e, h⟩ := iG_one h
  refine ⟨μ, env, S, s, e, h.imp fun v μ1 S1 H1 u1 k1 s1 h1 => ?_⟩
  intro x rx
  obtain ⟨w, n, h2, h3⟩ := h1 s1
  simp only [mkWalk] at h2
  unfold wkIts at h2
  split at h2
  · rename_i vs j hj
    cases hj
    split at h2
    · rename_i i kvs eo
      cases h2
      cases rx with
      | obj ha =>
      obtain ⟨b, g1, od, ys, g2, g3, g4⟩ := s1.ob _ _ eo
      rw [ha] at g1; cases g1
      exact ⟨_, od, ys, rfl, g2, h3 _ (ItOk.its ha g2)⟩
    · cases h2
  · cases h2
theorem di_keys {tg : Expr} (he : PE X o (lift G W (ev G' ft pa))) : PI X tg o (iG G W .keys (evA G' ft (.cons pa .nil))) := by
  refine pi_imp (pi_keys he) fun σ H R h => ?_
  obtain ⟨μ, env, S, s, e, h⟩ := iG_one h
  refine ⟨μ, env, S, s, e, h.imp fun v μ1 S1 H1 u1 k1 s1 h1 => ?_⟩
  intro x rx
  obtain ⟨w, n, h2, h3⟩ := h1 s1
  simp only [mkWalk] at h2
  unfold wkKs at h2
  split at h2
  · rename_i vs j hj
    cases hj
    split at h2
    · rename_i i kvs eo
      cases h2
      cases rx with
      | obj ha =>
      obtain ⟨b, g1, od, ys, g2, g3, g4⟩ := s1.ob _ _ eo
      rw [ha] at g1; cases g1
      exact ⟨_, od, rfl, .inl ⟨ys, g2, h3 _ (ItOk.ks ha g2)⟩⟩
    · rename_i i kvs eo
      cases h2
      cases rx with
      | obj ha =>
      obtain ⟨b, g1, od, ys, g2, g3, g4⟩ := s1.ob _ _ eo
      rw [ha] at g1; cases g1
      exact ⟨_, od, rfl, .inr ⟨ys, g2, h3 _ (ItOk.kst ha g2)⟩⟩
    · cases h2
  · cases h2

/-! ## a lock -/
theorem lkOf_some {T : Tab} {env : Env} {i : Nat} {fs : List Pt} {d : Nat} {o : Obj} (h : lkOf T env S i fs = some (d, o)) : (∃ kvs, S[d]? = some (.dK false kvs) ∧ o = .dK true kvs) ∨ ∃ kvs, S[d]? = some (.dT false kvs) ∧ o = .dT true kvs := by
  unfold lkOf at h
  obtain ⟨d', _, h2⟩ := Option.bind_eq_some_iff.mp h
  split at h2
  · rename_i eo; cases h2; exact .inl ⟨_, eo, rfl⟩
  · rename_i eo; cases h2; exact .inr ⟨_, eo, rfl⟩
  · cases h2
def isDct : HO → Prop
  | .dK _ => True
  | .dT _ => True
  | _ => False
/-- locked -/
theorem Sim.locks (s : Sim G μ S H) {d : Nat} {o : Obj} (e : (∃ kvs, S[d]? = some (.dK false kvs) ∧ o = .dK true kvs) ∨ ∃ kvs, S[d]? = some (.dT false kvs) ∧ o = .dT true kvs) : ∃ a u, μ[d]? = some a ∧ H a = some u ∧ isDct u ∧ ∀ od, Sim G μ (S.set d o) (L2.upd H a (.frz od u)) ∧ Keep H (L2.upd H a (.frz od u)) := by
  rcases e with ⟨kvs, e, rfl⟩ | ⟨kvs, e, rfl⟩
  · obtain ⟨a, h1, ys, h2, h3, h4⟩ := s.ob d _ e
    refine ⟨a, .dK ys, h1, h2, trivial, fun od => ?_⟩
    exact s.put (o' := .dK true kvs) e rfl rfl h1 ⟨od, ys, upd_same, h3.mono (Up.refl _) (Keep.dK h2), h4⟩
  · obtain ⟨a, h1, ys, h2, h3, h4⟩ := s.ob d _ e
    refine ⟨a, .dT ys, h1, h2, trivial, fun od => ?_⟩
    exact s.put (o' := .dT true kvs) e rfl rfl h1 ⟨od, ys, upd_same, h3.mono (Up.refl _) (Keep.dT h2), h4⟩
theorem keepT_frz {a : Addr} {od : PySem.Obj} {u : HO} (hu : isDct u) (hH : H a = some (.frz od u)) : KeepT H (L2.upd H a u) := ⟨fun b xs h => by
  rw [upd_ne (fun z => by rw [z, hH] at h; cases h)]; exact h, fun b od' ys h => by
  rw [upd_ne (fun z => by rw [z, hH] at h; cases h; exact hu.elim)]; exact h⟩
theorem lockedT_one (s : Sim G μ S H) {i : Nat} {kvs : List (List Key × Val)} {a : Addr} {od : PySem.Obj} {ys : List (List Key × V)} (e : S[i]? = some (.dT true kvs)) (ha : μ[i]? = some a) (hH : H a = some (.frz od (.dT ys))) : RKv μ H kvs ys ∧ ∀ p ∈ kvs, ∀ k ∈ p.1, kOk k = true := by
  obtain ⟨b, g1, od', ys', g2, g3, g4⟩ := s.ob i _ e
  rw [ha] at g1; cases g1
  rw [hH] at g2; cases g2
  exact ⟨g3, g4⟩
/-- unlocked -/
theorem Sim.unlocks (s : Sim G μ S H) {d : Nat} {S' : Store} {a : Addr} {od : PySem.Obj} {u : HO} (hu : isDct u) (e : unlk d S = some S') (ha : μ[d]? = some a) (hH : H a = some (.frz od u)) : Sim G μ S' (L2.upd H a u) ∧ KeepT H (L2.upd H a u) := by
  have kt := keepT_frz hu hH
  unfold unlk at e
  split at e
  · rename_i kvs eo
    cases e
    obtain ⟨b, g1, od', ys', g2, g3, g4⟩ := s.ob d _ eo
    rw [ha] at g1; cases g1
    rw [hH] at g2; cases g2
    exact s.putT (o' := .dK false kvs) eo rfl rfl ha ⟨ys', upd_same, g3.monoT (Up.refl _) kt, g4⟩
  · rename_i kvs eo
    cases e
    obtain ⟨b, g1, od', ys', g2, g3, g4⟩ := s.ob d _ eo
    rw [ha] at g1; cases g1
    rw [hH] at g2; cases g2
    exact s.putT (o' := .dT false kvs) eo rfl rfl ha ⟨ys', upd_same, g3.monoT (Up.refl _) kt, g4⟩
  · cases e
theorem keep_round {H1 H2 : Hp} {a : Addr} {od : PySem.Obj} {u : HO} (hu : isDct u) (h : H a = some u) (k : Keep (L2.upd H a (.frz od u)) H2) : Keep H (L2.upd H2 a u) := by
  refine .mk' (fun b xs e => ?_) fun b o w e => ?_
  · have hb : b ≠ a := fun z => by rw [z, h] at e; cases e; exact hu.elim
    rw [upd_ne hb]
    exact k.t.tu b xs (by rw [upd_ne hb]; exact e)
  · have hb : b ≠ a := fun z => by rw [z, h] at e; cases e; exact hu.elim
    rw [upd_ne hb]
    exact k.z b o w (by rw [upd_ne hb]; exact e)
theorem isDct.mut {u : HO} (hu : isDct u) : Mut (some u) := by cases u <;> first | trivial | exact hu.elim
theorem lock_read {i : Nat} {fs : List Pt} (h : lift G W (ev G' ft (.lock i fs pa)) σ H Q) : tLockE (lift G W (ev G' ft pa)) σ H Q := by
  obtain ⟨μ, env, S, s, e, h⟩ := h
  simp only [ev] at h
  split at h
  · rename_i d o el
    obtain ⟨a, u, h1, h2, hu, h3⟩ := s.locks (lkOf_some el)
    refine ⟨a, u, h2, hu.mut, fun od => ?_⟩
    obtain ⟨s1, k1⟩ := h3 od
    refine ⟨μ, env, _, s1, e.mono (Up.refl _) k1, ?_⟩
    cases er : ev G' ft pa env (S.set d o) with
    | no => rw [er] at h; exact h.elim
    | ex x S1 => rw [er] at h; exact h.elim
    | ok v S1 =>
      rw [er] at h
      simp only [lockV] at h
      split at h
      · rename_i S2 eu
        intro μ' H' up k s' x rx
        have hz := k.z _ _ _ (show (L2.upd H a (.frz od u)) a = _ from upd_same)
        obtain ⟨s2, kt⟩ := s'.unlocks hu eu (up _ _ h1) hz
        exact ⟨hz, h μ' _ up (keep_round (H1 := H) hu h2 k) s2 x (rx.monoT (Up.refl _) kt)⟩
      · exact h.elim
  · exact h.elim
theorem de_lock {i : Nat} {fs : List Pt} (he : PE X e (lift G W (ev G' ft pa))) : PE X e (lift G W (ev G' ft (.lock i fs pa))) := (pe_lock he).imp fun σ H Q h => lock_read h
theorem ds_lock {i : Nat} {fs : List Pt} {st : Stmt} {p : PyS} (he : PS X st (liftS G W (ex G' ft p))) : PS X st (liftS G W (ex G' ft (.lockS i fs p))) := by
  refine (ps_lock he).imp fun D σ H h => ?_
  obtain ⟨μ, env, S, s, e, h⟩ := h
  simp only [ex] at h
  split at h
  · rename_i d o el
    obtain ⟨a, u, h1, h2, hu, h3⟩ := s.locks (lkOf_some el)
    refine ⟨a, u, h2, hu.mut, fun od => ?_⟩
    obtain ⟨s1, k1⟩ := h3 od
    refine ⟨μ, env, _, s1, e.mono (Up.refl _) k1, ?_⟩
    cases er : ex G' ft p env (S.set d o) with
    | no => rw [er] at h; exact h.elim
    | ex x e' S1 => rw [er] at h; exact h.elim
    | bk e' S1 => rw [er] at h; exact h.elim
    | ct e' S1 => rw [er] at h; exact h.elim
    | nx e' S1 =>
      rw [er] at h
      simp only [lockO] at h
      split at h
      · rename_i S2 eu
        intro μ' H' σ' up k s' r'
        have hz := k.z _ _ _ (show (L2.upd H a (.frz od u)) a = _ from upd_same)
        obtain ⟨s2, kt⟩ := s'.unlocks hu eu (up _ _ h1) hz
        exact ⟨hz, h μ' _ σ' up (keep_round (H1 := H) hu h2 k) s2 (r'.monoT (Up.refl _) kt)⟩
      · exact h.elim
    | rt v S1 =>
      rw [er] at h
      simp only [lockO] at h
      split at h
      · rename_i S2 eu
        intro μ' H' x up k s' rx
        have hz := k.z _ _ _ (show (L2.upd H a (.frz od u)) a = _ from upd_same)
        obtain ⟨s2, kt⟩ := s'.unlocks hu eu (up _ _ h1) hz
        exact ⟨hz, h μ' _ x up (keep_round (H1 := H) hu h2 k) s2 (rx.monoT (Up.refl _) kt)⟩
      · exact h.elim
  · exact h.elim
end
end Nw

set_option Elab.async false
set_option linter.all false
set_option maxRecDepth 100000
set_option maxHeartbeats 3200000
namespace Nw
open PySem L2 PySem.Spec PyProof.Rows

/-! ## set(l) of a list of ints, so that it can be sorted -/
section
variable {P : Program} {w : World} {A : Around} {E : Value → Shared → Prop} {s : Shared}
/-- the heap with an empty set behind it -/
abbrev withSet (w : World) (h : Heap) : Heap := h.push { cls := .type "set", dict := none, data := .set #[] 0 (.fresh 0 0 (!w.params.followText "set-order")) }
theorem nw_set_init {l : Addr} {items : Array Value} (ns : List Int) (hh : A.handled = none) (hl : s.heap.IsList l items) (hit : IntsAre items.toList ns) (hb : ns.length + 1 < scanBound) :
    codeAny (model P w) A (.call (.builtin "set.__init__") ⟨[.ref s.heap.objs.size, .ref l], []⟩) (wants (fun r s₂ => r = .none ∧ ∃ h' tk c, s₂ = { s with heap := h', toks := tk } ∧ SetR w h' s.heap.objs.size (fun j => decide (j ∈ ns)) c ∧
      (∀ b o, s.heap.get? b = some o → h'.get? b = some o)) E) { s with heap := withSet w s.heap } := by
  have hisz : items.size = ns.length := by
    have q := IntsAre.length hit
    rw [Array.length_toList] at q
    exact q
  have hS : (withSet w s.heap).get? s.heap.objs.size = some { cls := .type "set", dict := none, data := .set #[] 0 (.fresh 0 0 (!w.params.followText "set-order")) } := Heap.get?_push_size _ rfl
  have hT : Shared.TypeIs { s with heap := withSet w s.heap } (.ref s.heap.objs.size) "set" := ⟨_, hS, rfl⟩
  refine codeAny_call_builtin PySem.F.called_set.init.plain PySem.F.entry_set_init (check_set_init_1 hT ?_)
  obtain ⟨ol, hol, hcl, nl, hdl⟩ := hl
  obtain ⟨ocls, odict, odata, oslots⟩ := ol
  simp only at hcl hdl
  subst hcl; subst hdl
  have hol' : (withSet w s.heap).get? l = some { cls := .type "list", dict := odict, data := .seq items nl, slots := oslots } := Heap.get?_push_of_some _ hol
  have hsls := PySem.F.sub_list_set
  have hslf := PySem.F.sub_list_frozenset
  have hne : (Value.type "list" == Value.type "dict") = false := by decide
  have hl1 : (withSet w s.heap).IsList l items := ⟨_, hol', rfl, nl, rfl⟩
  unfold Builtin.«set.__init__» noKeywords Builtin.Frozenset.updateFrom
  generalize hPI : pyIter = PI
  wp_walk
  subst hPI
  refine wpAny_pyIter_list hl1 ?_
  refine wpAny_bind (wpAny_runValue ?_)
  have hlS : l < s.heap.objs.size := Heap.lt_size hol
  have hz1 : (withSet w s.heap).objs.size = s.heap.objs.size + 1 := Heap.size_push ..
  have hh3 : A.in1.in1.handled = none := by simp [hh]
  have hneI : l ≠ (withSet w s.heap).objs.size := by rw [hz1]; exact Nat.ne_of_lt (Nat.lt_succ_of_lt hlS)
  have hSf : s.heap.objs.size ∉ [(withSet w s.heap).objs.size, l] := by
    rw [hz1]
    simp only [List.mem_cons, List.not_mem_nil, or_false, not_or]
    exact ⟨Nat.ne_of_lt (Nat.lt_succ_self _), Nat.ne_of_gt hlS⟩
  refine set_update_ints ((Walks.list hh3 _ l hneI items).toS) s.heap.objs.size hSf ns hisz hb ?hval (items.size - 0) 0 _ (by omega) (Nat.zero_le _) ⟨⟨_, Heap.get?_push_size _ rfl, rfl, rfl⟩, (hl1.push _)⟩ ?hS0 ?hR
  case hS0 =>
    have hget : ((withSet w s.heap).push { cls := .type "list_iterator", data := .fields #[.ref l, .int 0 0] }).get? s.heap.objs.size = some { cls := .type "set", dict := none, data := .set #[] 0 (.fresh 0 0 (!w.params.followText "set-order")) } := Heap.get?_push_of_some _ hS
    exact ⟨0, Nat.le_refl 0, setR_new_at hget⟩
  case hval =>
    intro i v hv
    have hi : i < ns.length := by rw [← hisz]; exact (Array.getElem?_eq_some_iff.mp hv).1
    obtain ⟨t, e⟩ := PyProof.Rows.IntsAre.int_at hit i v (by rw [Array.getElem?_toList]; exact hv)
    refine ⟨ns[i], t, List.getElem?_eq_getElem hi, ?_⟩
    rw [e, List.getD_eq_getElem?_getD, List.getElem?_eq_getElem hi] <;> rfl
  case hR =>
    intro s' c' hm _ hS'
    obtain ⟨h', g2, d', tk', os'⟩ := s'
    obtain rfl : g2 = s.gens := hm.gens
    obtain rfl : d' = s.drawn := hm.drawn
    obtain rfl : os' = s.os := hm.os
    show wpAny _ _ _ _ _ _
    refine wpAny_pure ?_
    show wpAny _ _ (ret Value.none) _ _ _
    refine wpAny_pure ⟨rfl, h', tk', c', rfl, hS', fun b o e => ?_⟩
    have hb0 : b < s.heap.objs.size := Heap.lt_size e
    refine hm.heap b o ?_ (Heap.get?_push_of_some _ (Heap.get?_push_of_some _ e))
    simp only [List.mem_cons, List.not_mem_nil, or_false, not_or]
    exact ⟨Nat.ne_of_lt hb0, by rw [hz1]; exact Nat.ne_of_lt (Nat.lt_succ_of_lt hb0)⟩
theorem nw_set_list {l : Addr} {items : Array Value} (ns : List Int) {Q : Value → Shared → Prop} (hh : A.handled = none) (hl : s.heap.IsList l items) (hit : IntsAre items.toList ns) (hb : ns.length + 1 < scanBound)
    (h : ∀ (h' : Heap) (tk c : Nat), SetR w h' s.heap.objs.size (fun j => decide (j ∈ ns)) c → (∀ b o, s.heap.get? b = some o → h'.get? b = some o) → Q (.ref s.heap.objs.size) { s with heap := h', toks := tk }) :
    wpAny (model P w) A (call (.type "set") [.ref l]) Q E s := by
  obtain ⟨c, tl, hmro⟩ := PySem.F.called_set.mro
  have hmade := PySem.F.called_set.made
  have hsub := PySem.F.called_set.sub
  refine wpAny_call (codeAny_of_tree ?_)
  show wpAny _ _ (callAny (.type "set") _) _ _ _
  refine wpAny_pure ⟨Code.quiet_builtin _ (by decide +kernel), codeAny_builtin PySem.F.entry_type_call ?_⟩
  rw [Around.under_plain (weight_type_call_type "set" [.ref l] []) rfl]
  have h1 := PySem.F.called_set.notType
  have h2 := PySem.F.called_set.canCreate
  have hct := PySem.F.typeCall_set_1 (.ref l)
  repeat (any_goals (first | assumption | wp_step))
  refine codeAny_mono (code_set_led1 (.ref l) (E := E) (Q₁ := fun obj s₁ => obj = .ref s.heap.objs.size ∧ s₁ = { s with heap := withSet w s.heap }) ⟨rfl, rfl⟩) fun r s₁ hr => ?_
  cases r with
  | error e => exact hr
  | ok fl =>
    cases fl with
    | ret obj =>
      obtain ⟨rfl, rfl⟩ := hr
      have hS : (withSet w s.heap).get? s.heap.objs.size = some { cls := .type "set", dict := none, data := .set #[] 0 (.fresh 0 0 (!w.params.followText "set-order")) } := Heap.get?_push_size _ rfl
      have hT : Shared.TypeIs { s with heap := withSet w s.heap } (.ref s.heap.objs.size) "set" := ⟨_, hS, rfl⟩
      have hli := PySem.F.called_set.init.lookup
      have hbi := PySem.F.called_set.init.bind (.ref s.heap.objs.size)
      repeat (any_goals (first | assumption | wp_step))
      refine codeAny_mono (nw_set_init (s := s) (E := E) ns (by simpa using hh) hl hit hb) fun r₂ s₂ hr₂ => ?_
      cases r₂ with
      | error e => exact hr₂
      | ok fl₂ =>
        cases fl₂ with
        | ret r =>
          obtain ⟨rfl, h', tk, c', rfl, hS', hk'⟩ := hr₂
          repeat (any_goals (first | assumption | wp_step))
          exact h _ _ _ hS' hk'
        | _ => exact hr₂.elim
    | _ => exact hr.elim
end
theorem perm_of_same {a b : List Int} (ha : a.Nodup) (hb : b.Nodup) (h : ∀ j, j ∈ a ↔ j ∈ b) : a.Perm b := (List.perm_ext_iff_of_nodup ha hb).mpr h
theorem setR_count {w : World} {h : Heap} {a : Addr} {ns : List Int} {c : Nat} (R : SetR w h a (fun j => decide (j ∈ ns)) c) : c = (nubI ns).length := by
  obtain ⟨o, es, ep, t, ho, h1, h2, h3, h4, h5, h6, h7, h8, h9⟩ := R
  have p := perm_of_same h4 nubI_nodup fun j => by rw [← h5 j, nubI_mem, decide_eq_true_eq]
  have q := p.length_eq
  rw [List.length_map, Array.length_toList] at q
  omega
/-- set(l) of a list of ints -/
def rSetLI (K : PySem.W.Frag) (w : World) : List V → Hp → VK → Prop := fun xs H Q => ∃ a ns, xs = [V.ref a] ∧ SqL K H a (ns.map V.int) ∧ ns.length < 4000 ∧
  ∀ p, H p = none → Q (.ref p) (upd H p (SetO w p (fun j => decide (j ∈ ns)) (nubI ns).length))
section
variable {X : Cx} {G : Cfg} {W : WX} {T : Tab} {ft : Fns}
theorem cr_setLI (hc : X.calm = true) : CallR X (.type "set") (rSetLI X.K X.w) := by
  intro pins s σ H vs us Q I r h
  obtain ⟨a, ns, rfl, hs, h64, q⟩ := h
  obtain ⟨its, rv, hl, _⟩ := I.list hs
  rw [Vals.ref1 r]
  refine nw_set_list ns (I.ok.hd hc) hl.isList (by simpa using Vals.ints rv) (by show ns.length + 1 < 4096; omega) fun h' tk c R hk => ?_
  have e := setR_count R
  subst e
  exact ⟨.ref _, upd H s.heap.objs.size (SetO X.w s.heap.objs.size (fun j => decide (j ∈ ns)) (nubI ns).length), I.laid (t' := tk) hk (Nat.le_refl _) (setO_new R), rfl, q _ (I.hok.fresh (Nat.le_refl _))⟩
end
end Nw

set_option Elab.async false
set_option linter.all false
set_option maxRecDepth 100000
set_option maxHeartbeats 3200000
namespace Nw
open PySem L2 PySem.Spec PyProof.Rows

/-! ## sets of texts, whose table can be walked -/
def txK (e : Int × Value) : Str := match e.2 with | .str k _ => k | _ => Str.empty
def TxE (w : World) (e : Int × Value) : Prop := ∃ k u, e.2 = Value.str k u ∧ e.1 = hashStr w k
def SetX (w : World) (h : Heap) (a : Addr) (M : Str → Bool) (n : Nat) : Prop :=
  ∃ o es ep t, h.get? a = some o ∧ o.ExactSet ∧ o.data = .set es ep t ∧ ((∀ e ∈ es.toList, TxE w e) ∧ (es.toList.map txK).Nodup ∧ (∀ k, M k = true ↔ k ∈ es.toList.map txK)) ∧
    (es.size < scanBound ∧ t.fits es.size = true ∧ es.size = n) ∧ Ris t.place.toList ∧ (w.params.followText "set-order" = true ∨ t.led = true)
section
variable {P : Program} {w : World} {h h' : Heap} {a : Addr} {M : Str → Bool} {n : Nat}
theorem SetX.at (R : SetX w h a M n) (k : ∀ o, h.get? a = some o → h'.get? a = some o) : SetX w h' a M n := by
  obtain ⟨o, es, ep, t, e1, r⟩ := R
  exact ⟨o, es, ep, t, k o e1, r⟩
theorem SetX.congr {M' : Str → Bool} (R : SetX w h a M n) (e : ∀ k, M' k = M k) : SetX w h a M' n := (funext e : M' = M) ▸ R
theorem tx_elems {l : List (Int × Value)} (g : ∀ e ∈ l, TxE w e) : ElemsOf (strKind P w) l := fun e he => by
  obtain ⟨k, u, e1, e2⟩ := g e he
  exact ⟨⟨k, by rw [e1]; exact strKind_is P w k u, e2⟩, by rw [e1] <;> rfl⟩
theorem tx_is {e : Int × Value} (g : TxE w e) (k : Str) : (strKind P w).is k e.2 = true ↔ txK e = k := by
  obtain ⟨k1, u, e1, _⟩ := g
  unfold txK
  rw [e1]
  show ((k1 == k) = true) ↔ k1 = k
  exact beq_iff_eq
theorem tx_mem {l : List (Int × Value)} (g : ∀ e ∈ l, TxE w e) (k : Str) : k ∈ l.map txK ↔ ∃ e ∈ l, (strKind P w).is k e.2 = true :=
  ⟨fun z => by
    obtain ⟨e, he, q⟩ := List.mem_map.mp z
    exact ⟨e, he, (tx_is (g e he) k).2 q⟩, fun ⟨e, he, q⟩ => List.mem_map.mpr ⟨e, he, (tx_is (g e he) k).1 q⟩⟩
end
section
variable {P : Program} {w : World} {A : Around} {E : Value → Shared → Prop} {s : Shared} {a : Addr} {M : Str → Bool} {n : Nat}
theorem setX_tail {g : Bool → Sem Unit} (hg : ∀ (b : Bool) (s1 : Shared) (Q1 : Unit → Shared → Prop), Q1 () s1 → wpAny (model P w) A (g b) Q1 E s1)
    {o : PySem.Obj} {es : Array (Int × Value)} {ep : Nat} {t : SetTable} (e1 : s.heap.get? a = some o) (ex : o.ExactSet) (e2 : o.data = .set es ep t)
    {es1 : Array (Int × Value)} {t1 : SetTable} {M1 : Str → Bool} (K1 : (∀ e ∈ es1.toList, TxE w e) ∧ (es1.toList.map txK).Nodup ∧ (∀ k, M1 k = true ↔ k ∈ es1.toList.map txK))
    (b1 : es1.size < scanBound) (f1 : t1.fits es1.size = true) (r1 : Ris t1.place.toList) (l1 : w.params.followText "set-order" = true ∨ t1.led = true) {wd : Bool} {R : Option Bool → Shared → Prop}
    (hR : ∀ h1, Heap.SameBut a s.heap h1 → SetX w h1 a M1 es1.size → R (some true) { s with heap := h1 }) :
    wpAny (model P w) A (do
        storeSet a es1 t1
        if (!wd && t1.tooFull) = true then do
            g (relayAll t1 es1 (SetTable.grown es1.size)).2.2
            storeSet a (relayAll t1 es1 (SetTable.grown es1.size)).1 (relayAll t1 es1 (SetTable.grown es1.size)).2.1
            pure (some true)
          else pure (some true)) R E s := by
  obtain ⟨k1, k2, k3⟩ := K1
  have q1 := store_at (es' := es1) (t' := t1) e1 e2
  have sb := Heap.SameBut.update s.heap a (Obj.putSet es1 t1)
  refine wpAny_bind (wpAny_storeSet_of e1 e2 ?_ (fits_of_scanBound b1))
  split
  · have pm := relayAll_perm t1 es1 (SetTable.grown es1.size)
    have pf := relayAll_fits t1 es1 (SetTable.grown es1.size)
    have pr := relayAll_ris t1 es1 (SetTable.grown es1.size)
    have pl := relayAll_led t1 es1 (SetTable.grown es1.size)
    generalize relayAll t1 es1 (SetTable.grown es1.size) = Y at pm pf pr pl ⊢
    obtain ⟨es2, t2, gv⟩ := Y
    dsimp only at pm pf pr pl ⊢
    have z2 : es2.size = es1.size := by rw [← Array.length_toList, pm.length_eq, Array.length_toList]
    have b2 : es2.size < scanBound := by rw [z2]; exact b1
    refine wpAny_bind (hg _ _ _ ?_)
    refine wpAny_bind (wpAny_storeSet_of q1 rfl ?_ (fits_of_scanBound b2))
    have q2 := store_at (es' := es2) (t' := t2) q1 rfl
    refine wpAny_pure (hR _ (sb.trans (Heap.SameBut.update _ a _)) ?_)
    exact ⟨_, es2, _, t2, q2, ex, rfl, ⟨fun e he => k1 e (pm.mem_iff.mp he), (pm.map txK).nodup_iff.mpr k2, fun k => (k3 k).trans (pm.map txK).mem_iff.symm⟩, ⟨b2, pf, z2⟩, pr, l1.imp id fun z => by rw [pl]; exact z⟩
  · exact wpAny_pure (hR _ sb ⟨_, es1, _, t1, q1, ex, rfl, ⟨k1, k2, k3⟩, ⟨b1, f1, rfl⟩, r1, l1⟩)
theorem setX_add {k : Str} {u : Tok} {Q : Bool → Shared → Prop} (R : SetX w s.heap a M n) (room : n + 1 < scanBound)
    (hQ : ∀ h1, Heap.SameBut a s.heap h1 → SetX w h1 a (fun j => M j || decide (j = k)) (if M k = true then n else n + 1) → Q (!M k) { s with heap := h1 }) :
    wpAny (model P w) A (setAddHashed a (.str k u) ((strKind P w).hash k)) Q E s := by
  obtain ⟨o, es, ep, t, e1, ex, e2, ⟨g, nd, hm⟩, ⟨hb, hf, hn⟩, hr, hl⟩ := R
  have ik : (strKind P w).is k (.str k u) = true := strKind_is P w k u
  have sc : (Value.str k u).scannable = true := rfl
  have el : ElemsOf (strKind P w) es.toList := tx_elems g
  unfold setAddHashed setAddHashedIn
  refine wpAny_holding (wpAny_bind (wpAny_setState_of e1 e2 hf ?_))
  dsimp only
  rw [byScan_of sc hb el]
  simp only [↓reduceIte]
  unfold setAddByScan
  refine wpAny_bind ?_
  refine wpAny_bind (wpAny_rule ?_)
  refine wpAny_bind (wpAny_setScan_of ik e1 e2 hf el ?_)
  cases fi : List.findIdx? (fun e => (strKind P w).is k e.2) es.toList with
  | some j =>
    dsimp only
    obtain ⟨hj, pj, _⟩ := List.findIdx?_eq_some_iff_getElem.mp fi
    have mk : M k = true := (hm k).2 ((tx_mem (P := P) (w := w) g k).2 ⟨es.toList[j], List.getElem_mem hj, pj⟩)
    refine wpAny_pure (wpAny_pure ?_)
    have q := hQ s.heap (Heap.SameBut.refl a s.heap) ⟨o, es, ep, t, e1, ex, e2, ⟨g, nd, fun i => by
      rw [Bool.or_eq_true, decide_eq_true_eq, ← hm i]
      exact ⟨fun z => z.elim id (fun e => e ▸ mk), .inl⟩⟩, ⟨hb, hf, by rw [if_pos mk]; exact hn⟩, hr, hl⟩
    rw [mk] at q
    exact q
  | none =>
    dsimp only
    have nk : k ∉ es.toList.map txK := fun z => by
      obtain ⟨e, he, q⟩ := (tx_mem (P := P) (w := w) g k).1 z
      have c := List.findIdx?_eq_none_iff.mp fi e he
      rw [q] at c
      cases c
    have mk : M k = false := by
      cases q : M k with
      | true => exact absurd ((hm k).1 q) nk
      | false => rfl
    have gw : ∀ (b : Bool) {s1 : Shared} {Q1 : Unit → Shared → Prop}, Q1 () s1 → wpAny (model P w) A (match b with | true => rule "set.scan.the-table-gave-way" | false => pure ()) Q1 E s1 :=
      fun b s1 Q1 q => by cases b <;> first | exact wpAny_pure q | exact wpAny_rule q
    have pm := layNew_perm t es ((strKind P w).hash k) (.str k u)
    have f1 := layNew_fits t es ((strKind P w).hash k) (.str k u)
    have r1 := layNew_ris t es ((strKind P w).hash k) (.str k u) hr
    have l1 := layNew_led t es ((strKind P w).hash k) (.str k u)
    generalize layNew t es ((strKind P w).hash k) (.str k u) = Y at pm f1 r1 l1 ⊢
    obtain ⟨es1, t1, wd, gv⟩ := Y
    dsimp only at pm f1 r1 l1 ⊢
    rw [Array.toList_push] at pm
    have pc : es1.toList.Perm (((strKind P w).hash k, Value.str k u) :: es.toList) := pm.trans (List.perm_append_singleton _ _)
    have pk : (es1.toList.map txK).Perm (k :: es.toList.map txK) := pc.map txK
    have K1 : (∀ e ∈ es1.toList, TxE w e) ∧ (es1.toList.map txK).Nodup ∧ (∀ i, (M i || decide (i = k)) = true ↔ i ∈ es1.toList.map txK) := ⟨fun e he => by
      rcases List.mem_cons.mp (pc.mem_iff.mp he) with z | z
      · rw [z]; exact ⟨k, u, rfl, rfl⟩
      · exact g e z, pk.nodup_iff.mpr (List.nodup_cons.mpr ⟨nk, nd⟩), fun i => by
      rw [Bool.or_eq_true, decide_eq_true_eq, hm i, pk.mem_iff, List.mem_cons]
      exact Or.comm⟩
    have z1 : es1.size = n + 1 := by rw [← Array.length_toList, pc.length_eq, List.length_cons, Array.length_toList, hn]
    have b1 : es1.size < scanBound := by rw [z1]; exact room
    have led : w.params.followText "set-order" = true ∨ t1.led = true := hl.imp id fun z => by rw [l1]; exact z
    have fin : ∀ h1, Heap.SameBut a s.heap h1 → SetX w h1 a (fun j => M j || decide (j = k)) es1.size → Q true { s with heap := h1 } := fun h1 sb r => by
      have q := hQ h1 sb
      rw [mk] at q
      rw [z1] at r
      exact q r
    refine wpAny_bind (gw _ ?_)
    split
    · refine wpAny_bind ?_
      rw [hashByValue_scannable 8 sc]
      refine wpAny_pure ?_
      refine setX_tail ?_ e1 ex e2 K1 b1 ?_ ?_ ?_ ?_
      · intro b s1 Q1 q; cases b <;> first | exact wpAny_pure q | exact wpAny_rule q
      · first | (split <;> first | exact f1 | exact SetTable.fits_plain_off f1) | exact f1
      · first | (split <;> exact r1) | exact r1
      · first | (split <;> exact led) | exact led
      · intro h1 sb r; dsimp only; exact wpAny_pure (fin h1 sb r)
    · refine wpAny_bind (wpAny_pure ?_)
      simp only [↓reduceIte]
      refine setX_tail ?_ e1 ex e2 K1 b1 f1 r1 led ?_
      · intro b s1 Q1 q; cases b <;> first | exact wpAny_pure q | exact wpAny_rule q
      · intro h1 sb r; dsimp only; exact wpAny_pure (fin h1 sb r)
end
theorem setX_at {w : World} {h : Heap} {a : Addr} {ks : List Str} (e1 : h.get? a = some { cls := .type "set", dict := none, data := .set #[] 0 (.fresh 0 0 (!w.params.followText "set-order")) }) : SetX w h a (fun j => decide (j ∈ ks.take 0)) 0 :=
  ⟨_, #[], 0, _, e1, ⟨rfl, rfl, rfl⟩, rfl, ⟨(fun e he => by simp at he), (by simp), (fun k => by simp)⟩, ⟨(by decide), (by rfl), rfl⟩, List.Pairwise.nil, by
    show _ ∨ (!w.params.followText "set-order") = true
    cases w.params.followText "set-order" <;> simp⟩
section
variable {P : Program} {w : World} {A : Around} {E : Value → Shared → Prop} {s : Shared}
theorem setX_update {I : Addr} {fp wr : List Addr} {Gg : Array GenState → Array GenState → Prop} {n : Nat} {Pv : Nat → Value → Prop} {St : Nat → Shared → Prop} {R : Result → Shared → Prop}
    (W : WalksS P w A.in1 I fp wr Gg n Pv St) (p : Addr) (hp : p ∉ fp) (ks : List Str) (hn : n = ks.length) (hb : ks.length + 1 < scanBound) (hval : ∀ i v, Pv i v → ∃ k t, ks[i]? = some k ∧ v = .str k t) :
    ∀ (m i : Nat) (s : Shared), n - i = m → i ≤ n → St i s → (∃ c, c ≤ i ∧ SetX w s.heap p (fun j => decide (j ∈ ks.take i)) c) →
      (∀ s' c, Moved (p :: wr) Gg s s' → c ≤ n → SetX w s'.heap p (fun j => decide (j ∈ ks)) c → R (.ok (.ret .none)) s') →
      codeAny (model P w) A (.builtin "set.update.loop" ⟨[.ref p, .ref I], []⟩) R s := by
  have pw : p ∉ wr := fun h => hp (W.sub _ h)
  have sub : ∀ b ∈ wr, b ∈ p :: wr := fun b hb => List.mem_cons_of_mem _ hb
  intro m
  induction m with
  | zero =>
    intro i s hm hi hst ⟨c, hc, X0⟩ hR
    obtain rfl : i = n := by omega
    refine codeAny_builtin F.entry_set_update_loop ?_
    rw [Around.under_plainId F.plain_set_update_loop _]
    show wpAny _ A.in1 (pyNext (.ref I) >>= _) _ _ s
    refine wpAny_bind (W.done s _ _ hst fun s' mv => ?_)
    show wpAny _ A.in1 (ret Value.none) _ _ s'
    rw [List.take_of_length_le (show ks.length ≤ i by omega)] at X0
    exact wpAny_pure (hR s' c (mv.mono sub) hc (X0.at fun o e => mv.heap p o pw e))
  | succ m ih =>
    intro i s hm hi hst ⟨c, hc, X0⟩ hR
    have lt : i < n := by omega
    refine codeAny_builtin F.entry_set_update_loop ?_
    rw [Around.under_plainId F.plain_set_update_loop _]
    show wpAny _ A.in1 (pyNext (.ref I) >>= _) _ _ s
    refine wpAny_bind (W.item i s _ _ lt hst fun v s' pv hst' mv => ?_)
    obtain ⟨z, t, hz, rfl⟩ := hval i v pv
    have X1 : SetX w s'.heap p (fun j => decide (j ∈ ks.take i)) c := X0.at fun o e => mv.heap p o pw e
    show wpAny _ A.in1 (holding [Value.str z t] (setAdd p (.str z t)) >>= _) _ _ s'
    refine wpAny_bind (wpAny_holding ?_)
    unfold setAdd
    refine wpAny_holding ?_
    refine wpAny_bind ((strKind P w).pyHash (k := z) (strKind_is _ _ _ _) ?_)
    refine setX_add (s := { s' with toks := s'.toks + 1 }) X1 (by omega) fun h1 sb X2 => ?_
    have X3 : SetX w h1 p (fun j => decide (j ∈ ks.take (i + 1))) (if decide (z ∈ ks.take i) = true then c else c + 1) := X2.congr fun j => by
      rw [List.take_add_one, hz]
      simp [List.mem_append]
    have c3 : (if decide (z ∈ ks.take i) = true then c else c + 1) ≤ i + 1 := by
      split <;> omega
    refine wpAny_pure ⟨plainId_quiet F.plain_set_update_loop _, ih (i + 1) _ (by omega) lt (W.frame _ s' _ _ hst' (Nat.le_succ _) fun b hb o e => ?_) ⟨_, c3, X3⟩ fun s2 c2 mv2 h2 X4 => ?_⟩
    · rw [sb.2 b (fun h : b = p => hp (by rw [← h]; exact hb))]; exact e
    · refine hR s2 c2 (Moved.trans W.gtrans ((mv.mono sub).then_heap (Nat.le_succ _) fun b o hb e => ?_) mv2) h2 X4
      rw [sb.2 b (fun h : b = p => hb (by rw [h]; exact List.mem_cons_self))]; exact e
theorem nwx_init {l : Addr} {items : Array Value} (ks : List Str) (hh : A.handled = none) (hl : s.heap.IsList l items) (hit : StrsAre items.toList ks) (hb : ks.length + 1 < scanBound) :
    codeAny (model P w) A (.call (.builtin "set.__init__") ⟨[.ref s.heap.objs.size, .ref l], []⟩) (wants (fun r s₂ => r = .none ∧ ∃ h' tk c, s₂ = { s with heap := h', toks := tk } ∧ SetX w h' s.heap.objs.size (fun j => decide (j ∈ ks)) c ∧
      (∀ b o, s.heap.get? b = some o → h'.get? b = some o)) E) { s with heap := withSet w s.heap } := by
  have sz : items.size = ks.length := by
    have q := hit.length
    rw [Array.length_toList] at q
    exact q
  have hS : (withSet w s.heap).get? s.heap.objs.size = some { cls := .type "set", dict := none, data := .set #[] 0 (.fresh 0 0 (!w.params.followText "set-order")) } := Heap.get?_push_size _ rfl
  have hT : Shared.TypeIs { s with heap := withSet w s.heap } (.ref s.heap.objs.size) "set" := ⟨_, hS, rfl⟩
  refine codeAny_call_builtin PySem.F.called_set.init.plain PySem.F.entry_set_init (check_set_init_1 hT ?_)
  obtain ⟨ol, hol, hcl, nl, hdl⟩ := hl
  obtain ⟨ocls, odict, odata, oslots⟩ := ol
  simp only at hcl hdl
  subst hcl; subst hdl
  have hol' : (withSet w s.heap).get? l = some { cls := .type "list", dict := odict, data := .seq items nl, slots := oslots } := Heap.get?_push_of_some _ hol
  have hsls := PySem.F.sub_list_set
  have hslf := PySem.F.sub_list_frozenset
  have hne : (Value.type "list" == Value.type "dict") = false := by decide
  have hl1 : (withSet w s.heap).IsList l items := ⟨_, hol', rfl, nl, rfl⟩
  unfold Builtin.«set.__init__» noKeywords Builtin.Frozenset.updateFrom
  generalize hPI : pyIter = PI
  wp_walk
  subst hPI
  refine wpAny_pyIter_list hl1 ?_
  refine wpAny_bind (wpAny_runValue ?_)
  have hlS : l < s.heap.objs.size := Heap.lt_size hol
  have hz1 : (withSet w s.heap).objs.size = s.heap.objs.size + 1 := Heap.size_push ..
  have hh3 : A.in1.in1.handled = none := by simp [hh]
  have hneI : l ≠ (withSet w s.heap).objs.size := by rw [hz1]; exact Nat.ne_of_lt (Nat.lt_succ_of_lt hlS)
  have hSf : s.heap.objs.size ∉ [(withSet w s.heap).objs.size, l] := by
    rw [hz1]
    simp only [List.mem_cons, List.not_mem_nil, or_false, not_or]
    exact ⟨Nat.ne_of_lt (Nat.lt_succ_self _), Nat.ne_of_gt hlS⟩
  refine setX_update ((Walks.list hh3 _ l hneI items).toS) s.heap.objs.size hSf ks sz hb ?hval (items.size - 0) 0 _ (by omega) (Nat.zero_le _) ⟨⟨_, Heap.get?_push_size _ rfl, rfl, rfl⟩, (hl1.push _)⟩ ?hS0 ?hR
  case hS0 =>
    have hget : ((withSet w s.heap).push { cls := .type "list_iterator", data := .fields #[.ref l, .int 0 0] }).get? s.heap.objs.size = some { cls := .type "set", dict := none, data := .set #[] 0 (.fresh 0 0 (!w.params.followText "set-order")) } := Heap.get?_push_of_some _ hS
    exact ⟨0, Nat.le_refl 0, setX_at hget⟩
  case hval =>
    intro i v hv
    have hi : i < ks.length := by rw [← sz]; exact (Array.getElem?_eq_some_iff.mp hv).1
    obtain ⟨t, e⟩ := SS.strs_at hit i v (by rw [Array.getElem?_toList]; exact hv)
    refine ⟨ks[i], t, List.getElem?_eq_getElem hi, ?_⟩
    rw [e, List.getD_eq_getElem?_getD, List.getElem?_eq_getElem hi] <;> rfl
  case hR =>
    intro s' c' hm _ hS'
    obtain ⟨h', g2, d', tk', os'⟩ := s'
    obtain rfl : g2 = s.gens := hm.gens
    obtain rfl : d' = s.drawn := hm.drawn
    obtain rfl : os' = s.os := hm.os
    show wpAny _ _ _ _ _ _
    refine wpAny_pure ?_
    show wpAny _ _ (ret Value.none) _ _ _
    refine wpAny_pure ⟨rfl, h', tk', c', rfl, hS', fun b o e => ?_⟩
    have hb0 : b < s.heap.objs.size := Heap.lt_size e
    refine hm.heap b o ?_ (Heap.get?_push_of_some _ (Heap.get?_push_of_some _ e))
    simp only [List.mem_cons, List.not_mem_nil, or_false, not_or]
    exact ⟨Nat.ne_of_lt hb0, by rw [hz1]; exact Nat.ne_of_lt (Nat.lt_succ_of_lt hb0)⟩
theorem nwx_set {l : Addr} {items : Array Value} (ks : List Str) {Q : Value → Shared → Prop} (hh : A.handled = none) (hl : s.heap.IsList l items) (hit : StrsAre items.toList ks) (hb : ks.length + 1 < scanBound)
    (h : ∀ (h' : Heap) (tk c : Nat), SetX w h' s.heap.objs.size (fun j => decide (j ∈ ks)) c → (∀ b o, s.heap.get? b = some o → h'.get? b = some o) → Q (.ref s.heap.objs.size) { s with heap := h', toks := tk }) :
    wpAny (model P w) A (call (.type "set") [.ref l]) Q E s := by
  obtain ⟨c, tl, hmro⟩ := PySem.F.called_set.mro
  have hmade := PySem.F.called_set.made
  have hsub := PySem.F.called_set.sub
  refine wpAny_call (codeAny_of_tree ?_)
  show wpAny _ _ (callAny (.type "set") _) _ _ _
  refine wpAny_pure ⟨Code.quiet_builtin _ (by decide +kernel), codeAny_builtin PySem.F.entry_type_call ?_⟩
  rw [Around.under_plain (weight_type_call_type "set" [.ref l] []) rfl]
  have h1 := PySem.F.called_set.notType
  have h2 := PySem.F.called_set.canCreate
  have hct := PySem.F.typeCall_set_1 (.ref l)
  repeat (any_goals (first | assumption | wp_step))
  refine codeAny_mono (code_set_led1 (.ref l) (E := E) (Q₁ := fun obj s₁ => obj = .ref s.heap.objs.size ∧ s₁ = { s with heap := withSet w s.heap }) ⟨rfl, rfl⟩) fun r s₁ hr => ?_
  cases r with
  | error e => exact hr
  | ok fl =>
    cases fl with
    | ret obj =>
      obtain ⟨rfl, rfl⟩ := hr
      have hS : (withSet w s.heap).get? s.heap.objs.size = some { cls := .type "set", dict := none, data := .set #[] 0 (.fresh 0 0 (!w.params.followText "set-order")) } := Heap.get?_push_size _ rfl
      have hT : Shared.TypeIs { s with heap := withSet w s.heap } (.ref s.heap.objs.size) "set" := ⟨_, hS, rfl⟩
      have hli := PySem.F.called_set.init.lookup
      have hbi := PySem.F.called_set.init.bind (.ref s.heap.objs.size)
      repeat (any_goals (first | assumption | wp_step))
      refine codeAny_mono (nwx_init (s := s) (E := E) ks (by simpa using hh) hl hit hb) fun r₂ s₂ hr₂ => ?_
      cases r₂ with
      | error e => exact hr₂
      | ok fl₂ =>
        cases fl₂ with
        | ret r =>
          obtain ⟨rfl, h', tk, c', rfl, hS', hk'⟩ := hr₂
          repeat (any_goals (first | assumption | wp_step))
          exact h _ _ _ hS' hk'
        | _ => exact hr₂.elim
    | _ => exact hr.elim
/-- sorted(a set of texts) -/
theorem nwx_sorted {a : Addr} {M : Str → Bool} {n : Nat} {Q : Value → Shared → Prop} (R : SetX w s.heap a M n) (hh : A.handled = none)
    (hQ : ∀ s' p (out : Array Value) (c : Nat) (ks : List Str), (∀ b o, s.heap.get? b = some o → s'.heap.get? b = some o) → s'.gens = s.gens → s'.os = s.os → s.heap.objs.size ≤ p →
      s'.heap.get? p = some (seqObj "list" out c) → StrsAre out.toList ks → sortedS ks = true → ks.Nodup → (∀ k, k ∈ ks ↔ M k = true) → ks.length = n → Q (.ref p) s') :
    wpAny (model P w) A (call (.builtin "sorted") [.ref a]) Q E s := by
  obtain ⟨o, es, ep, t, ho, ex, hd, ⟨g, nd, hm⟩, ⟨hb, hf, hn⟩, hr, hl⟩ := R
  refine Calls.call_function_entry kind_sorted plain_sorted entry_sorted (args_sorted1 _) ?_
  unfold Builtin.«sorted»
  refine wpAny_bind (m := checkCount "sorted" 1 1 _) (wpAny_pure ?_)
  refine wpAny_bind (collect_set (A := A.in1) hh ⟨o, ho, ex.1, hd⟩ hf hb hr hl fun s1 vs k1 hz g1 o1 pm => ?_)
  have lv : vs.length = n := by rw [pm.length_eq, List.length_map, Array.length_toList]; exact hn
  have hI : StrsAre vs (vs.map PyProof.Rows.strOf) := strsAre_map vs fun v hv => by
    obtain ⟨e, he, q⟩ := List.mem_map.mp (pm.mem_iff.mp hv)
    obtain ⟨k, u, h1, _⟩ := g e he
    exact ⟨k, u, by rw [← q]; exact h1⟩
  have ez : es.toList.map (fun e => PyProof.Rows.strOf e.2) = es.toList.map txK := List.map_congr_left fun e he => by
    obtain ⟨k, u, h1, _⟩ := g e he
    unfold txK
    rw [h1]
    rfl
  have pk : (vs.map PyProof.Rows.strOf).Perm (es.toList.map txK) := by
    have q := pm.map PyProof.Rows.strOf
    rw [List.map_map] at q
    rw [← ez]
    exact q
  have hsz : vs.length ≤ sizeLine := by
    rw [lv, ← hn]
    exact fits_of_scanBound hb
  refine wpAny_bind (wpAny_newList ?_ hsz)
  have hoL : (s1.heap.push (seqObj "list" vs.toArray 0)).get? s1.heap.objs.size = some (seqObj "list" vs.toArray 0) := Heap.get?_push_size _ rfl
  refine wpAny_bind (wpAny_holding (wpAny_call_entry slot_list_sort ⟨_, hoL, rfl⟩ entry_list_sort (list_sort_treeKAny strKind_oneLt hoL hI.keysOf (fun v₁ v₂ rest e => keyKind_strs (by rw [← e]; exact hI)) hsz fun st' hp hs => ?_) (args_list_sort _)))
  obtain ⟨ks, a1, a2, a3⟩ := sorted_out_str hI hp hs
  obtain ⟨c, hc⟩ := sortedHeap_at (vs := vs) (out := (arrOf st').map (·.2)) hoL
  have pn : ks.Perm (es.toList.map txK) := a2.trans pk
  refine ⟨_, rfl, wpAny_pure ⟨_, rfl, hQ _ s1.heap.objs.size _ c ks (fun b u e => ?_) g1 o1 hz hc a1 a3 (pn.nodup_iff.mpr nd) (fun k => by rw [pn.mem_iff, ← hm k]) ?_⟩⟩
  · have q := k1 b u e
    have hlt := Heap.lt_size q
    show (sortedHeap (s1.heap.push (seqObj "list" vs.toArray 0)) s1.heap.objs.size vs _).get? b = some u
    rw [sortedHeap_old (Nat.ne_of_lt hlt) (by rw [size_push']; exact Nat.lt_succ_of_lt hlt)]
    exact Heap.get?_push_of_some _ q
  · rw [pn.length_eq, List.length_map, Array.length_toList]; exact hn
end
/-- the set of texts at a -/
def SetXO (w : World) (a : Addr) (M : Str → Bool) (n : Nat) : HO := .ext fun h => SetX w h a M n
/-- set(l) of a list of ints or of texts -/
def rSetX (K : PySem.W.Frag) (w : World) : List V → Hp → VK → Prop := fun xs H Q => ∃ (a : Addr) (ks : List Str), xs = [V.ref a] ∧ SqL K H a (ks.map V.str) ∧ ks.length < 4000 ∧
  ∀ p n, H p = none → Q (.ref p) (upd H p (SetXO w p (fun j => decide (j ∈ ks)) n))
def rSet2 (K : PySem.W.Frag) (w : World) : List V → Hp → VK → Prop := fun xs H Q => rSetLI K w xs H Q ∨ rSetX K w xs H Q
def rSortX (w : World) : List V → Hp → VK → Prop := fun vs H Q => ∃ (a : Addr) (M : Str → Bool) (n : Nat), vs = [V.ref a] ∧ H a = some (SetXO w a M n) ∧
  ∀ (ks : List Str) (p : Addr), sortedS ks = true → ks.Nodup → (∀ k, k ∈ ks ↔ M k = true) → H p = none → Q (.ref p) (upd H p (.lst (ks.map V.str)))
def rSort2 (w : World) : List V → Hp → VK → Prop := fun xs H Q => rSortedSet w xs H Q ∨ rSortX w xs H Q
section
variable {X : Cx} {G : Cfg} {W : WX} {T : Tab} {ft : Fns}
theorem setXO_new {w : World} {P : Program} {H : Hp} {h : Heap} {a : Addr} {M : Str → Bool} {n : Nat} (R : SetX w h a M n) : ObjOk P w H h a (SetXO w a M n) := by
  have ⟨o, _, _, _, ho, _⟩ := R
  exact ⟨R, ⟨o, ho⟩, fun _ _ p k => SetX.at p k⟩
theorem setXO_get {pins : List (Addr × PySem.Obj)} {σ : L2.St} {H : Hp} {s : Shared} {a : Addr} {M : Str → Bool} {n : Nat} (I : L2.Inv X pins σ H s) (ha : H a = some (SetXO X.w a M n)) : SetX X.w s.heap a M n := (I.hok a _ ha).1
theorem cr_set2 (hc : X.calm = true) : CallR X (.type "set") (rSet2 X.K X.w) := by
  intro pins s σ H vs us Q I r h
  rcases h with h | ⟨a, ks, rfl, hs, h4, q⟩
  · exact cr_setLI hc pins s σ H vs us Q I r h
  · obtain ⟨its, rv, hl, _⟩ := I.list hs
    rw [Vals.ref1 r]
    refine nwx_set ks (I.ok.hd hc) hl.isList (by simpa using rv.strs) (by show ks.length + 1 < 4096; omega) fun h' tk c R hk => ?_
    exact ⟨.ref _, upd H s.heap.objs.size (SetXO X.w s.heap.objs.size (fun j => decide (j ∈ ks)) c), I.laid (t' := tk) hk (Nat.le_refl _) (setXO_new R), rfl, q _ c (I.hok.fresh (Nat.le_refl _))⟩
theorem cr_sort2 (hc : X.calm = true) : CallR X (.builtin "sorted") (rSort2 X.w) := by
  intro pins s σ H vs us Q I r h
  rcases h with h | ⟨a, M, n, rfl, ha, q⟩
  · exact cr_sortedSet hc pins s σ H vs us Q I r h
  · have R := setXO_get I ha
    have hn4 : n < scanBound := by
      obtain ⟨_, _, _, _, _, _, _, _, ⟨b1, _, b2⟩, _⟩ := R
      omega
    rw [Vals.ref1 r]
    refine nwx_sorted R (I.ok.hd hc) fun s' p out c ks k g o hp hg hi hs nd hm hl => ?_
    have hlen : (ks.map V.str).length ≤ sizeLine := by rw [List.length_map, hl]; exact fits_of_scanBound hn4
    have hn : H p = none := I.hok.fresh hp
    have J : L2.Inv X pins σ (upd H p (.lst (ks.map V.str))) { s with heap := s'.heap, gens := s'.gens, drawn := s'.drawn, toks := s'.toks } :=
      I.call (ch := []) (Un.laid k hp hn) (I.hok.laid k hp ⟨hlen, out.toList, c, vals_of_strs hi, hg⟩) (by rw [g]; exact I.bare) (fun _ z => nomatch z)
    have e : s' = { s with heap := s'.heap, gens := s'.gens, drawn := s'.drawn, toks := s'.toks } := by
      cases s'
      cases s
      cases o
      rfl
    rw [e]
    exact ⟨.ref p, _, J, rfl, q ks p hs nd hm hn⟩
theorem de_sset {e : Expr} {pa : PyE} (hK : G.K = X.K)
    (h : PE X e (tCB (rSort2 X.w) (tCons (tCB (rSet2 X.K X.w) (tCons (lift G W (ev T ft pa)) tNil)) tNil))) : PE X e (lift G W (ev T ft (.bi .sset (.cons pa .nil)))) := by
  refine h.imp fun σ H Q h => ?_
  have h2 := one (f := fun v _ S1 => ssetV S1 [v]) (k := Kv Q) (by
    obtain ⟨μ, env, S, s, e, h⟩ := h
    refine ⟨μ, env, S, s, e, ?_⟩
    simp only [ev, evA] at h
    have e2 : (((ev T ft pa env S).bind fun x S1 => (Res.ok [] S1).bind fun xs S2 => Res.ok (x :: xs) S2).bind fun vs S1 => biV .sset S1 vs) = ((ev T ft pa env S).bind fun x S1 => ssetV S1 [x]) := by
      cases ev T ft pa env S <;> rfl
    rw [e2] at h
    exact h)
  refine lift_mono h2 fun x H1 ⟨μ, env, v, S, sm, e, r, q⟩ => ?_
  unfold ssetV at q
  split at q
  · rename_i i hv
    cases hv
    cases r with
    | obj hs =>
    split at q
    · rename_i eo
      obtain ⟨p, ys, g1, g2, g3⟩ := sm.lstR eo
      rw [hs] at g1; cases g1
      split at q
      · rename_i ns en
        obtain ⟨e1, e2⟩ := g3.ints en
        subst e1
        split at q
        · rename_i hb
          refine .inl ⟨_, ns, rfl, by rw [← hK]; exact g2, hb.1, fun p1 hp1 => .inl ⟨p1, _, _, rfl, upd_same, hb.2, fun ns' l pw hm hlen hp => ?_⟩⟩
          have pm : ns'.Perm (nubI ns) := perm_of_same (pw.imp (fun h => Int.ne_of_lt h)) nubI_nodup fun j => by rw [hm j, nubI_mem, decide_eq_true_eq]
          have e3 : ns' = sortI (nubI ns) := PySem.W.ksm_same (pm.trans (sort_perm _).symm) (pw.imp (fun h => Int.le_of_lt h)) (sort_sorted _)
          subst e3
          exact (q.later (Up.refl _) (Keep.new hp1)).lst (sm.new hp1) (RVs.of_ints _) hp
        · exact q.elim
      · split at q
        · rename_i ss es
          obtain ⟨e1, e2, e3⟩ := g3.strs es
          subst e1
          split at q
          · rename_i hb
            refine .inr ⟨_, ss, rfl, by rw [← hK]; exact g2, hb, fun p1 n hp1 => .inr ⟨p1, _, _, rfl, upd_same, fun ks l pw nd hm hp => ?_⟩⟩
            have pm : ks.Perm (nubS ss) := (List.perm_ext_iff_of_nodup nd nubS_nodup).mpr fun j => by rw [hm j, nubS_mem, decide_eq_true_eq]
            have e4 : ks = sortS (nubS ss) := List.Perm.eq_of_pairwise (fun a b _ _ h1 h2 => leS_anti h1 h2) (sortedS_pw pw) (sortS_sorted _) (pm.trans (sortS_perm _).symm)
            subst e4
            exact (q.later (Up.refl _) (Keep.new hp1)).lst (sm.new hp1) (RVs.of_strs _ fun z hz => e3 z (nubS_mem.mp ((sortS_perm _).mem_iff.mp hz))) hp
          · exact q.elim
        · exact q.elim
    · exact q.elim
  · exact q.elim
end
end Nw

set_option Elab.async false
set_option linter.all false
set_option maxRecDepth 100000
set_option maxHeartbeats 3200000
namespace Nw
open PySem L2 PySem.Spec PyProof.Rows

/-! ## an exception that is held by a name -/
section
variable {X : Cx} {pins : List (Addr × PySem.Obj)} {σ : L2.St} {H : Hp} {s : Shared} {a : Addr}
/-- an exception is tracked, for good -/
theorem inv_hold {oe : PySem.Obj} {vs : Array Value} (I : L2.Inv X pins σ H s) (h0 : X.s_0.heap.get? a = none) (ha : s.heap.get? a = some oe) (hd : oe.data = .fields vs) (na : H a = none) (nL : a ≠ X.env.locals) (np : ∀ p ∈ X.pn ++ pins, p.1 ≠ a) :
    L2.Inv X pins σ (upd H a (.frz oe (.own a))) s where
  ok := I.ok
  os := I.os
  bare := I.bare
  base := {
    keep := I.base.keep
    slot := I.base.slot
    free := fun b o e n hx => by
      rw [upd_ne (fun z => by rw [z, h0] at e; cases e)]
      exact I.base.free b o e n hx
    there := I.base.there
    tups := fun b xs e => by
      have q := I.base.tups b xs e
      rw [upd_ne (ne_of_none q na)]
      exact q
    frzs := fun b o u e => by
      have q := I.base.frzs b o u e
      rw [upd_ne (ne_of_none q na)]
      exact q
    tbls := fun b ps e => by
      obtain ⟨m, q⟩ := I.base.tbls b ps e
      exact ⟨m, by rw [upd_ne (ne_of_none q na)]; exact q⟩ }
  loc := I.loc
  cell := I.cell
  free := by rw [upd_ne (Ne.symm nL)]; exact I.free
  freeC := fun x c e => by
    rw [upd_ne (fun z => by
      obtain ⟨v, o, ho, hv⟩ := I.cell x c e
      rw [z, ha] at ho
      cases ho
      rw [hd] at hv
      cases hv)]
    exact I.freeC x c e
  pin := fun p hp => by
    obtain ⟨q1, q2, q3⟩ := I.pin p hp
    exact ⟨q1, by rw [upd_ne (np p hp)]; exact q2, q3⟩
  hok := fun b o e => by
    by_cases hb : b = a
    · subst hb
      rw [upd_same] at e
      cases e
      exact ⟨ha, oe, ha⟩
    · rw [upd_ne hb] at e
      exact (I.hok b o e).stay (fun _ _ _ q => q) (fun c q => by rw [upd_ne (ne_of_none q na)]; exact q) fun c xs q => by rw [upd_ne (ne_of_none q na)]; exact q
  len := I.len
/-- its dict, too -/
theorem inv_freeze {ys : List (Str × V)} (I : L2.Inv X pins σ H s) (e0 : H a = some (.xd ys)) : ∃ od, L2.Inv X pins σ (upd H a (.frz od (.xd ys))) s := by
  obtain ⟨mA, ⟨od, es, ep, ho, hr⟩, rel⟩ := I.hok a _ e0
  have nn : ∀ {b : Addr}, H b = none → b ≠ a := fun {b} n z => by rw [z, e0] at n; cases n
  have no : ∀ {b : Addr} {u : HO}, H b = some u → (∀ zs, u ≠ .xd zs) → b ≠ a := fun {b u} q n z => by
    rw [z, e0] at q
    exact n ys (Option.some.inj q).symm
  refine ⟨od, ?_⟩
  exact {
    ok := I.ok
    os := I.os
    bare := I.bare
    base := {
      keep := I.base.keep
      slot := I.base.slot
      free := fun b o e n hx => by
        have q := I.base.free b o e n hx
        rw [upd_ne (nn q)]
        exact q
      there := I.base.there
      tups := fun b xs e => by
        have q := I.base.tups b xs e
        rw [upd_ne (no q fun _ z => by cases z)]
        exact q
      frzs := fun b o u e => by
        have q := I.base.frzs b o u e
        rw [upd_ne (no q fun _ z => by cases z)]
        exact q
      tbls := fun b ps e => by
        obtain ⟨m, q⟩ := I.base.tbls b ps e
        exact ⟨m, by rw [upd_ne (no q fun _ z => by cases z)]; exact q⟩ }
    loc := I.loc
    cell := I.cell
    free := by rw [upd_ne (nn I.free)]; exact I.free
    freeC := fun x c e => by rw [upd_ne (nn (I.freeC x c e))]; exact I.freeC x c e
    pin := fun p hp => by
      obtain ⟨q1, q2, q3⟩ := I.pin p hp
      exact ⟨q1, by rw [upd_ne (nn q2)]; exact q2, q3⟩
    hok := fun b o e => by
      by_cases hb : b = a
      · subst hb
        rw [upd_same] at e
        cases e
        exact ⟨ho, mA, ⟨od, es, ep, ho, hr⟩, rel⟩
      · rw [upd_ne hb] at e
        exact (I.hok b o e).stay (fun _ _ _ q => q) (fun c q => by rw [upd_ne (no q fun _ z => by cases z)]; exact q) fun c xs q => by rw [upd_ne (no q fun _ z => by cases z)]; exact q
    len := I.len }
/-- an exception that was caught gets a name -/
theorem exn_enter {G : Cfg} {μ : List Addr} {S : Store} {x : Exn} {d : Option Addr} {oe : PySem.Obj} {vs : Array Value} (I : L2.Inv X pins σ H s) (h0 : X.s_0.heap.get? a = none) (ha : s.heap.get? a = some oe) (hz : L2N.Zn (.ref (G.ca x.c)) d oe) (hd : oe.data = .fields vs) (na : H a = none) (nL : a ≠ X.env.locals)
    (np : ∀ p ∈ X.pn ++ pins, p.1 ≠ a) (sm : Sim G μ S H) (rx : RX G μ H x d) : ∃ H', L2.Inv X pins σ H' s ∧ Sim G (μ ++ [a]) (S ++ [.exn x.c x.fs]) H' ∧ Keep H H' ∧ HotO H' a := by
  rcases rx with ⟨e1, e2⟩ | ⟨dx, ys, e1, e2, e3⟩
  · refine ⟨_, inv_hold I h0 ha hd na nL np, ?_, Keep.new na, ⟨oe, vs, upd_same, hd, hz.2.2 _ hd⟩⟩
    exact sm.alloc (o := .exn x.c x.fs) na rfl ⟨oe, vs, upd_same, hz.1, hd, .inl ⟨e1, by rw [hz.2.1, e2]⟩⟩
  · obtain ⟨od, I1⟩ := inv_freeze I e2
    have n1 : upd H dx (.frz od (.xd ys)) a = none := by
      rw [upd_ne (fun z => by rw [← z, na] at e2; cases e2)]
      exact na
    have k1 : Keep H (upd H dx (.frz od (.xd ys))) := Keep.upd e2 ⟨(fun _ z => by cases z), fun _ _ z => by cases z⟩
    have s1 : Sim G μ S (upd H dx (.frz od (.xd ys))) := sm.keepX k1 fun b ho hn e => by
      rw [upd_ne (fun z => by rw [z, e2] at e; exact hn ys (Option.some.inj e).symm)]
      exact e
    refine ⟨_, inv_hold I1 h0 ha hd n1 nL np, ?_, k1.trans (Keep.new n1), ⟨oe, vs, upd_same, hd, hz.2.2 _ hd⟩⟩
    refine s1.alloc (o := .exn x.c x.fs) n1 rfl ⟨oe, vs, upd_same, hz.1, hd, .inr ⟨dx, od, ys, by rw [hz.2.1, e1], ?_, ?_⟩⟩
    · rw [upd_ne (ne_of_none upd_same n1)]
      exact upd_same
    · exact e3.mono (Up.app _ _) (k1.trans (Keep.new n1))

/-! ### an except suite's frame -/
theorem inv_suite (I : L2.Inv X pins σ H s) (a : Addr) : L2.Inv (X.suite a (X.pn ++ pins)) [] σ H s where
  ok := I.ok.suite a _
  os := I.os
  bare := I.bare
  base := I.base
  loc := I.loc
  cell := I.cell
  free := I.free
  freeC := I.freeC
  pin := fun p hp => I.pin p (by simpa using hp)
  hok := I.hok
  len := I.len
theorem inv_back {pn' : List (Addr × PySem.Obj)} (ok : X.Ok) (I : L2.Inv (X.suite a (X.pn ++ pins)) pn' σ H s) : L2.Inv X pins σ H s where
  ok := ok
  os := I.os
  bare := I.bare
  base := I.base
  loc := I.loc
  cell := I.cell
  free := I.free
  freeC := I.freeC
  pin := fun p hp => I.pin p (List.mem_append_left _ hp)
  hok := I.hok
  len := I.len
end
/-- a clause's name -/
inductive NmOk (X : Cx) : Option Nat → Option Str → Prop
  | no : NmOk X none none
  | so {i : Nat} {n : Str} (hi : X.N[i]? = some n) (hl : X.env.kindOf n = some .local) : NmOk X (some i) (some n)
inductive HdsA (X : Cx) (G : Cfg) (T : Tab) (ft : Fns) : List ExceptHandler → PyS → Prop
  | nil : HdsA X G T ft [] .skip
  | cons {x : Str} {c : Nat} {nm : Option Str} {sl : Option Nat} {b₀ : Stmt} {suite : List Stmt} {np p' : Pos} {hds : List ExceptHandler} {h r : PyS} (hc : Names X x (.ref (G.ca c)))
      (hcat : ∀ d b, T.catches c d = some b → PySem.W.exmOne X.K (.ref (G.ca d)) (.ref (G.ca c)) = some b) (hn : NmOk X sl nm)
      (hsu : ∀ (a : Addr) (pn : List (Addr × PySem.Obj)), PSs (X.suite a pn) (b₀ :: suite) (liftS (G.heatS sl a) W0 (ex T ft h))) (t : HdsA X G T ft hds r) :
      HdsA X G T ft (.ExceptHandler (some (.Name x np)) nm (b₀ :: suite) p' :: hds) (.hnd c sl h r)
/-- what follows a suite: its name goes -/
def endD (sl : Option Nat) (D : Ends) : Ends := match sl with
  | none => D
  | some i => { nx := fun σ H => D.nx (σ.set i none) H, rt := D.rt, bk := fun σ H => D.bk (σ.set i none) H, ct := fun σ H => D.ct (σ.set i none) H }
theorem after_hnd {G : Cfg} {W : WX} {μ : List Addr} {H : Hp} {sl : Option Nat} {o : Out} {D : Ends} (h : AfterO G W μ H (hndV sl o) D) : AfterO G W0 μ H o (endD sl D) := by
  cases sl with
  | none => cases o with
    | ex x e S => exact h.elim
    | no => exact h.elim
    | _ => exact h
  | some i => cases o with
    | nx e S => exact fun μ' H' σ' u k s r => h μ' H' (σ'.set i none) u k s r.clear
    | rt v S => exact h
    | bk e S => exact fun μ' H' σ' u k s r => h μ' H' (σ'.set i none) u k s r.clear
    | ct e S => exact fun μ' H' σ' u k s r => h μ' H' (σ'.set i none) u k s r.clear
    | ex x e S => exact h.elim
    | no => exact h.elim

section
variable {X : Cx} {G : Cfg} {T : Tab} {ft : Fns} {W : WX} {body : List Stmt} {hds : List ExceptHandler} {h₀ : ExceptHandler} {pos : Pos} {pb ph : PyS}
theorem ds_tryA (hst : X.stack = X.env :: X.outer) (hfm : X.env.frame = some X.env.locals) (hxe : X.ex = []) (hN : X.N.Nodup) (tk : L2N.Takes X W)
    (hb : ∀ (W' : WX) (pn : List (Addr × PySem.Obj)) (xe : Value → Shared → Prop), L2N.Takes (X.tr pn xe) W' → PassesOwn (model X.prog X.w) X.A X.env xe → PSs (X.tr pn xe) body (liftS G W' (ex T ft pb)))
    (hh : HdsA X G T ft (h₀ :: hds) ph) : PS X (.Try body (h₀ :: hds) [] [] pos) (liftS G W (ex T ft (.tryA pb ph))) := by
  refine ⟨fun pins s σ H D I ⟨μ, env, S, sm, re, hq⟩ => ?_⟩
  have iok := I.ok
  have frm : X.A.frames = some (X.env :: X.outer) := by rw [iok.frames, hst]
  let W1 : WX := fun cls d σ' H' => ∃ (μ' : List Addr) (env' : Env) (S' : Store) (x : Exn), cls = .ref (G.ca x.c) ∧ Sim G μ' S' H' ∧ REnv μ' H' env' σ' ∧ RX G μ' H' x d ∧ AfterO G W μ' H' (exH T ft ph x env' S') D
  have rd : liftS G W1 (ex T ft pb) D σ H := by
    refine ⟨μ, env, S, sm, re, ?_⟩
    simp only [ex] at hq
    cases eo : ex T ft pb env S with
    | ex x e1 S1 =>
      rw [eo] at hq
      intro μ' H' σ' d u k s' r' rx
      exact ⟨μ', e1, S1, x, rfl, s', r', rx, AfterO.later (o := exH T ft ph x e1 S1) hq u k⟩
    | nx e' S' => rw [eo] at hq; exact hq
    | rt v S' => rw [eo] at hq; exact hq
    | bk e' S' => rw [eo] at hq; exact hq
    | ct e' S' => rw [eo] at hq; exact hq
    | no => rw [eo] at hq; exact hq
  refine wpAny_Try_except ?_
  have run := (hb W1 (X.pn ++ pins) (fun y t1 => wpAny (model X.prog X.w) X.A (noteFrame y X.env)
      (fun _ t2 => wpAny (model X.prog X.w) X.A (setFlight y none)
        (fun _ t3 => wpAny (model X.prog X.w) X.A (handleBy y X.env (h₀ :: hds)) (SP X pins D) X.xe t3) X.xe t2) X.xe t1)
    (fun u t xx => ?_) PassesOwn.looking).run [] s σ H D (I.toTry _) rd
  · refine wpAny_mono run (fun f t hsp => ?_) fun _ _ z => z
    cases f with
    | next =>
      obtain ⟨σ', H', J, q⟩ := hsp
      exact wpAny_execs_nil ⟨σ', H', J.ofTry iok, q⟩
    | brk =>
      obtain ⟨σ', H', J, q⟩ := hsp
      exact ⟨σ', H', J.ofTry iok, q⟩
    | cont =>
      obtain ⟨σ', H', J, q⟩ := hsp
      exact ⟨σ', H', J.ofTry iok, q⟩
    | ret u =>
      obtain ⟨v, σ', H', J, r, q⟩ := hsp
      exact ⟨v, σ', H', J.ofTry iok, r, q⟩
  -- what the body raises
  obtain ⟨a, B, sI, pins', σ', H', cls, d, rfl, J0, below, upS, sky, na, os, ag, μ1, env1, S1, x, ec, sm1, re1, rx, hw⟩ := xx
  subst ec
  have J := J0.ofTry iok
  rw [hst] at sky
  show wpAny (model X.prog X.w) X.A (noteFrame (.ref a) X.env) _ _ _
  refine L2N.Sky.land L2N.Zn.steady frm hfm sky fun hA flA upA => ?_
  have JA : L2.Inv X pins σ' H' { t with heap := hA } := J.landed below flA.1 (upS.trans upA) os ag
  obtain ⟨oA, vA, eA, zA, dA⟩ := flA.there
  have off : a ∉ frs (X.env :: X.outer) := fun hm => by
    obtain ⟨_, o', e', hnf⟩ := flA.2.2.1.mem hm
    rw [eA] at e'
    cases e'
    exact hnf _ dA
  have nL : a ≠ X.env.locals := fun z => off (List.mem_filterMap.mpr ⟨X.env, List.mem_cons_self, by rw [hfm, z]⟩)
  have hsI : sI.heap.get? a = none := by
    cases e : sI.heap.get? a with
    | none => rfl
    | some o =>
      have q := below a o e (by rw [hst]; exact off)
      rw [flA.2.1] at q
      cases q
  have h0 : X.s_0.heap.get? a = none := by
    cases e : X.s_0.heap.get? a with
    | none => rfl
    | some o =>
      obtain ⟨o', q⟩ := J.base.there a o e (by rw [hxe]; simp)
      rw [hsI] at q
      cases q
  have np : ∀ p ∈ X.pn ++ pins, p.1 ≠ a := fun p hp z => by
    have q := (J.pin p hp).1
    rw [z, hsI] at q
    cases q
  have SA := inv_suite JA a
  have all : ∀ {hs' : List ExceptHandler} {ph' : PyS}, HdsA X G T ft hs' ph' → AfterO G W μ1 H' (exH T ft ph' x env1 S1) D →
      wpAny (model X.prog X.w) X.A (handleBy (.ref a) X.env hs') (SP X pins D) X.xe { t with heap := hA } := by
    intro hs' ph' hk
    induction hk with
    | nil =>
      intro q
      simp only [exH] at q
      have wish := q μ1 H' σ' d (Up.refl _) (Keep.refl _) sm1 re1 rx
      refine wpAny_handleBy_nil ?_
      obtain ⟨_, _, _, o1, v1, tb, ob, w1, g1, _, g3, g4, _⟩ := id flA
      unfold PySem.passOn
      refine wpAny_bind (wpAny_field g1 g3 g4 ?_)
      rw [if_neg (by simp)]
      have off2 : wpAny (model X.prog X.w) X.A (setFlight (.ref a) X.env.frame)
          (fun _ t4 => wpAny (model X.prog X.w) X.A (throw (.ref a) : Sem Flow) (SP X pins D) X.xe t4) X.xe { t with heap := hA } := by
        rw [hfm]
        refine HandSPX.setFlight_upZ flA fun hB fB uB => wpAny_throw (tk _ _ ?_)
        exact ⟨a, B, sI, pins, σ', H', .ref (G.ca x.c), d, rfl, J, below, (upS.trans upA).trans uB, .inr (.inr (by rw [hst]; exact fB)), na, os, ag, wish⟩
      first
        | exact wpAny_bind (wpAny_pure (wpAny_bind off2))
        | exact wpAny_bind off2
    | @cons y c nm sl b₀ suite np1 p' hds2 h r hc hcat hn hsu tl ih =>
      intro q
      simp only [exH] at q
      refine wpAny_handleBy_cons (codeAny_handlers_test ?_) (by intro z; cases z)
      have LT : PySem.W.Looks (model X.prog X.w) hA (typeOf (.ref a)) (.ref (G.ca x.c)) := fun A Q E s k q => wpAny_typeOf_ref (k _ _ eA) (by rw [zA.1]; exact q)
      have name : ∀ {Q : Value → Shared → Prop} {E : Value → Shared → Prop}, Q (.ref (G.ca c)) { t with heap := hA } → wpAny (model X.prog X.w) (X.A.mark (some (.ref a))) (eval (.Name y np1) X.env) Q E { t with heap := hA } := fun {Q E} qq => by
        obtain ⟨c1, c2, c3 | ⟨c3, c4, c5⟩⟩ := hc
        · exact ld_glob (X := X.suite a (X.pn ++ pins)) SA c1 c3 qq c2
        · exact ld_blt (X := X.suite a (X.pn ++ pins)) SA c1 c3 c4 qq c5 c2
      split at q
      · -- taken
        rename_i hct
        have LM := PySem.W.exm_one (M := model X.prog X.w) JA.kIn LT (hcat _ _ hct)
        refine name (LM.here ?_)
        cases hn with
        | no =>
          refine codeAny_handlers_suite ?_
          refine HandSPX.lands_againZ flA fun hB fB uB => ?_
          have JB : L2.Inv X pins σ' H' { t with heap := hB } := J.landed below fB.1 ((upS.trans upA).trans uB) os ag
          refine wpAny_mono ((hsu a (X.pn ++ pins)).run [] _ σ' H' D (inv_suite JB a) ⟨μ1, env1, S1, sm1, re1, after_hnd q⟩) (fun f t6 hsp => ?_) fun _ _ z => z.elim
          cases f with
          | next => obtain ⟨σ6, H6, I6, q6⟩ := hsp; exact ⟨σ6, H6, inv_back iok I6, q6⟩
          | brk => obtain ⟨σ6, H6, I6, q6⟩ := hsp; exact ⟨σ6, H6, inv_back iok I6, q6⟩
          | cont => obtain ⟨σ6, H6, I6, q6⟩ := hsp; exact ⟨σ6, H6, inv_back iok I6, q6⟩
          | ret u => obtain ⟨v6, σ6, H6, I6, r6, q6⟩ := hsp; exact ⟨v6, σ6, H6, inv_back iok I6, r6, q6⟩
        | @so i n hi hl =>
          refine codeAny_handlers_suite_as ?_
          refine HandSPX.lands_againZ flA fun hB fB uB => ?_
          have JB : L2.Inv X pins σ' H' { t with heap := hB } := J.landed below fB.1 ((upS.trans upA).trans uB) os ag
          obtain ⟨oB, vB, eB, zB, dB⟩ := fB.there
          obtain ⟨H2, J2, sm2, k2, hot2⟩ := exn_enter (G := G) JB h0 eB zB dB na nL np sm1 rx
          refine store_ok (X := X.suite a (X.pn ++ pins)) (v := .ref a) (inv_suite J2 a) hN hi (.inl hl) rfl (fun t5 I5 => ?_) (.inr hl)
          have re2 : REnv (μ1 ++ [a]) H2 (env1.set i (some (.obj S1.length))) (σ'.set i (some (.ref a))) := (re1.mono (Up.app _ _) k2).set (.obj (by rw [← sm1.len]; simp))
          have gone : ∀ {σ6 : L2.St} {H6 : Hp} {t6 : Shared} {Q : Shared → Prop}, L2.Inv (X.suite a (X.pn ++ pins)) [] σ6 H6 t6 → (∀ t7, L2.Inv X pins (σ6.set i none) H6 t7 → Q t7) →
              wpAny (model X.prog X.w) X.A (do bindName X.env n .none; unbindBehindTheSuite X.env n p') (fun _ t7 => Q t7) X.xe t6 := fun I6 qq => gone_ok (inv_back iok I6) hN hi hl qq
          refine wpAny_mono ((hsu a (X.pn ++ pins)).run [] t5 _ H2 _ I5 ⟨μ1 ++ [a], _, _, sm2.warm hot2, re2, afterO_warm (AfterO.later (o := ex T ft h (env1.set i (some (.obj S1.length))) (S1 ++ [.exn x.c x.fs])) (after_hnd q) (Up.app _ _) k2)⟩) (fun f t6 hsp => ?_) fun _ _ z => z.elim
          cases f with
          | next => obtain ⟨σ6, H6, I6, q6⟩ := hsp; exact gone I6 fun t7 I7 => ⟨_, H6, I7, q6⟩
          | brk => obtain ⟨σ6, H6, I6, q6⟩ := hsp; exact gone I6 fun t7 I7 => ⟨_, H6, I7, q6⟩
          | cont => obtain ⟨σ6, H6, I6, q6⟩ := hsp; exact gone I6 fun t7 I7 => ⟨_, H6, I7, q6⟩
          | ret u => obtain ⟨v6, σ6, H6, I6, r6, q6⟩ := hsp; exact gone I6 fun t7 I7 => ⟨v6, _, H6, I7, r6, q6⟩
      · -- not taken
        rename_i hct
        have LM := PySem.W.exm_one (M := model X.prog X.w) JA.kIn LT (hcat _ _ hct)
        refine name (LM.here ?_)
        show wpAny _ X.A (handleBy (.ref a) X.env hds2) _ _ _
        exact ih q
      · exact q.elim
  exact all hh hw
end
end Nw

set_option Elab.async false
set_option linter.all false
set_option maxRecDepth 100000
set_option maxHeartbeats 3200000
namespace Nw
open PySem L2 PySem.Spec PyProof.Rows

/-! ## e.f, isinstance(e, C) of an exception that a name holds -/
def XDat (H : Hp) (oe : PySem.Obj) : Option (List (Str × V)) → Prop
  | none => oe.dict = none
  | some l => ∃ dx od, oe.dict = some dx ∧ H dx = some (.frz od (.xd l))
/-- an exception of the class at C stands at a, with what was noted in it -/
def XAt (H : Hp) (a C : Addr) (ys : Option (List (Str × V))) : Prop :=
  ∃ (oe : PySem.Obj) (vs : Array Value), H a = some (.frz oe (.own a)) ∧ oe.cls = .ref C ∧ oe.data = .fields vs ∧ XDat H oe ys
section
variable {X : Cx} {pins : List (Addr × PySem.Obj)} {σ : L2.St} {H : Hp} {s : Shared} {a C : Addr} {G : Cfg} {G' : Tab} {ft : Fns} {W : WX} {μ : List Addr} {S : Store} {Q : VK}
theorem XAt.inst {ys : Option (List (Str × V))} (x : XAt H a C ys) (I : L2.Inv X pins σ H s) : ∃ oe od, PySem.W.InstAt s.heap a oe C od ∧ ∀ l, ys = some l → ∃ o, od = some o ∧ ∀ f v, l.lookup f = some v → ∃ u, PySem.W.lookIn f o = some (some u) ∧ RelV v u := by
  obtain ⟨oe, vs, e1, e2, e3, e4⟩ := x
  obtain ⟨ha, _⟩ : ObjOk X.prog X.w H s.heap a (.frz oe (.own a)) := I.hok a _ e1
  have nc : PySem.W.notCls oe = true := by
    unfold PySem.W.notCls
    rw [e3]
  cases ys with
  | none =>
    have e4' : oe.dict = none := e4
    exact ⟨oe, none, ⟨ha, e2, nc, by rw [e4']; exact trivial⟩, fun l z => by cases z⟩
  | some l =>
    obtain ⟨dx, od, g1, g2⟩ := e4
    obtain ⟨_, mA, hns, hr⟩ : ObjOk X.prog X.w H s.heap dx (.frz od (.xd l)) := I.hok dx _ g2
    obtain ⟨o, ho, hl⟩ := lookIn_ns hns
    refine ⟨oe, some o, ⟨ha, e2, nc, by rw [g1]; exact ho⟩, fun l' z => ?_⟩
    cases z
    refine ⟨o, rfl, fun f v hv => ?_⟩
    have q := hr f
    rw [hv] at q
    obtain ⟨u, hu, ru⟩ := RelO.some_of (v := v) (o := mA f) q
    exact ⟨u, by rw [hl, hu], ru⟩
theorem exn_at (sm : Sim G μ S H) {i c : Nat} {fs : List (Nat × Val)} {p : Addr} (e : S[i]? = some (.exn c fs)) (hp : μ[i]? = some p) : (fs = [] ∧ XAt H p (G.ca c) none) ∨ ∃ ys, RF G μ H fs ys ∧ XAt H p (G.ca c) (some ys) := by
  obtain ⟨b, g1, oe, vs, g2, g3, g4, g5⟩ := sm.ob i _ e
  rw [hp] at g1
  cases g1
  rcases g5 with ⟨h1, h2⟩ | ⟨dx, od, ys, h1, h2, h3⟩
  · exact .inl ⟨h1, oe, vs, g2, g3, g4, h2⟩
  · exact .inr ⟨ys, h3, oe, vs, g2, g3, g4, dx, od, h1, h2⟩
/-- what the tables say of exceptions' parts -/
structure XfOk (G : Cfg) (G' : Tab) : Prop where
  at_ : ∀ c l f, G'.xf c = some l → l.contains f = true → XfC G.K (G.ca c) ∧ PySem.W.findIn G.K (.ref (G.ca c)) (G.nm f) = some none ∧ f < G.NM.length
def tXfT (K : PySem.W.Frag) (f : Str) (te : TE) : TE := fun σ H Q => te σ H fun x H1 => ∃ (a C : Addr) (ys : List (Str × V)) (v : V), x = .ref a ∧ XfC K C ∧ PySem.W.findIn K (.ref C) f = some none ∧ XAt H1 a C (some ys) ∧ ys.lookup f = some v ∧ Q v H1
theorem pe_xft {e : Expr} {te : TE} {f : Str} {pos : Pos} (he : PE X e te) (hb : attributeBase e f X.env (eval e X.env) = eval e X.env) : PE X (.Attribute e f pos) (tXfT X.K f te) := by
  refine ⟨fun pins s σ H Q I h => attr_of hb (thn (he.run pins s σ H _ I h) fun u s1 hh => ?_)⟩
  obtain ⟨x, H1, I1, rx, a, C, ys, v, ex, T, hno, hx, hl, q⟩ := hh
  subst ex
  obtain rfl : u = Value.ref a := rx
  obtain ⟨oe, od, J, k⟩ := hx.inst I1
  obtain ⟨o, rfl, k2⟩ := k _ rfl
  obtain ⟨w, k3, rw_⟩ := k2 f v hl
  exact HandSPX.exc_get I1.kIn J T.ga T.gg T.exC (PySem.W.findObj_own T.hdC hno rfl k3) (handed_of rw_) ⟨v, H1, I1.tok _, rw_, q⟩
theorem de_xfld {a : Expr} {pa : PyE} {f : Nat} {x : Str} {pos : Pos} (C : XfOk G G') (hK : G.K = X.K) (hx : G.nm f = x) (ha : PE X a (lift G W (ev G' ft pa))) (hb : attributeBase a x X.env (eval a X.env) = eval a X.env) : PE X (.Attribute a x pos) (lift G W (ev G' ft (.xfld pa f))) := by
  refine (pe_xft ha hb).imp fun σ H Q h => ?_
  have h2 := one (f := fun x _ S1 => xfldV G' f x S1) (by simp only [lift, ev] at h; exact h)
  refine lift_mono h2 fun y H1 ⟨μ, env, v, S, s, e, r, q⟩ => ?_
  unfold xfldV at q
  split at q
  · cases r with
    | obj hs =>
    split at q
    · rename_i c fs eo
      split at q
      · rename_i hF
        obtain ⟨w, ew, q⟩ := q.ofO
        cases el : G'.xf c with
        | none => rw [el] at hF; cases hF
        | some l =>
          rw [el] at hF
          obtain ⟨t1, t2, t3⟩ := C.at_ c l f el hF
          rcases exn_at s eo hs with ⟨z, _⟩ | ⟨ys, g1, g2⟩
          · rw [z] at ew; cases ew
          · obtain ⟨z, e1, r1⟩ := (g1.get t3).1 w ew
            rw [← hK, ← hx]
            exact ⟨_, _, ys, z, rfl, t1, t2, g2, e1, q.val s r1⟩
      · exact q.elim
    · exact q.elim
  · exact q.elim
/-- isinstance(e, c) -/
def rIsX (K : PySem.W.Frag) : List V → Hp → VK → Prop := fun xs H Q => ∃ (a D : Addr) (c : V) (cv : Value) (b : Bool) (ys : Option (List (Str × V))), xs = [.ref a, c] ∧ ClsV c cv ∧ ExcC K D ∧ XAt H a D ys ∧ PySem.W.kitOne K (.ref D) cv = some b ∧ Q (.bl b) H
theorem call_isX : CallR X (.builtin "isinstance") (rIsX X.K) := by
  intro pins s σ H xs us Q I r h
  obtain ⟨a, D, c, cv, b, ys, rfl, k, C, hx, e, q⟩ := h
  obtain ⟨u1, u2, rfl, r1, r2⟩ := vals2 r
  have e2 := k.eq r2
  subst e2
  obtain rfl : u1 = Value.ref a := r1
  obtain ⟨oe, od, J, _⟩ := hx.inst I
  obtain ⟨cd, hcd, _⟩ := PySem.W.any_some C.hd
  exact PySem.W.kia_one (PySem.W.kitx_exc (by rw [hcd]; rfl) C.hg C.hk C.hs C.ha C.hn C.ht C.hm) I.kIn J e (fun z => nomatch z) fun tk => ⟨.bl b, H, I.tok tk, rfl, q⟩
theorem de_isX {e : Expr} {pa : PyE} {j : Nat} {c : V} {cv : Value} (hK : G.K = X.K) (hc : ClsV c cv) (hi : ∀ d b, G'.isX j d = some b → ExcC X.K (G.ca d) ∧ PySem.W.kitOne X.K (.ref (G.ca d)) cv = some b)
    (h : PE X e (tCB (rIsX X.K) (tCons (lift G W (ev G' ft pa)) (tCons (tC c) tNil)))) : PE X e (lift G W (ev G' ft (.isX j pa))) := by
  refine h.imp fun σ H Q h => ?_
  have h2 := one (f := fun v _ S1 => Res.ofO ((isXV G' j S1 v).map Val.bl) S1) (k := Kv Q) (by simp only [lift, ev] at h; exact h)
  refine lift_mono h2 fun x H1 ⟨μ, env, v, S, s, e, r, q⟩ => ?_
  obtain ⟨b, eb, q2⟩ := q.bool s
  unfold isXV at eb
  split at eb
  · split at eb
    · rename_i i d fs eo
      cases r with
      | obj hs =>
      obtain ⟨k1, k2⟩ := hi _ _ eb
      rcases exn_at s eo hs with ⟨_, g⟩ | ⟨ys, _, g⟩
      · exact ⟨_, _, c, cv, b, none, rfl, hc, k1, g, k2, q2⟩
      · exact ⟨_, _, c, cv, b, some ys, rfl, hc, k1, g, k2, q2⟩
    · cases eb
  · cases eb
end

/-! ## raise of a class whose maker notes what it is made of -/
section
variable {X : Cx} {P : Program} {w : World} {K : PySem.W.Frag} {mg : Str → Option Value} {base : Heap} {C : Addr}
/-- what the maker keeps: the named things, one by one -/
def spInit (K : PySem.W.Frag) (C : Addr) (l : List Str) : Sp := fun vs H Q _ => ∃ (a : Addr) (ws : List V), vs = .ref a :: ws ∧ ws.length = l.length ∧ OexC K C ∧ (∀ f ∈ l, PySem.W.findIn K (.ref C) f = some none) ∧ H a = some (exo a C none) ∧
  ∀ (d : Addr) (H' : Hp), H d = none → d ≠ a → H' a = some (exo a C (some d)) → H' d = some (exd d (l.zip ws).reverse) → (∀ b, b ≠ a → b ≠ d → H' b = H b) → Q .non H'
/-- Base.__init__(self, ..), Base an own class that has the built-in one -/
theorem pe_wei {B : Addr} {x : Str} {e : Expr} {es : List Expr} {ta : TA} {p1 p2 pos : Pos} {pl : Sem Bool} (r : ClX.CRead X.K B (.type "type")) (c : PySem.W.findCls X.K (.ref B) (.type "type") "__init__" = some (.val (.builtin "ValueError.__init__")))
    (hg : Gl X x) (hm : X.mg x = some (.ref B)) (hdb : (x == ("__debug__" : Str)) = false) (ha : PA X (e :: es) ta)
    (ht : eval (.Call (.Attribute (.Name x p1) "__init__" p2) (e :: es) [] pos) X.env = (do
      let ov ← eval (.Name x p1) X.env
      standAt p2.atName
      let (f, first) ← holding [ov] (getMethod ov "__init__" pl)
      callWith pos f first (backTo pos (starEach (e :: es) X.env)) (backToKw pos (keywordEach [] X.env))))
    (hst : starEach (e :: es) X.env = (false, eval e X.env) :: starEach es X.env) (hpl : (backTo pos (starEach es X.env)).any (·.1) = false) :
    PE X (.Call (.Attribute (.Name x p1) "__init__" p2) (e :: es) [] pos) (tVeI X.K ta) := by
  have hn : PE X (.Name x p1) (tC (.ref B)) := pe_glob hg hm rfl hdb
  refine ⟨fun pins s σ H Q I h => ?_⟩
  refine PySem.W.methodCall_KW (pl := pl) (thn (hn.run pins s σ H (fun v H1 => v = .ref B ∧ H1 = H) I ⟨rfl, rfl⟩) fun u s1 ⟨v, H1, I1, rv, ev_, eh⟩ => ?_) ht
  subst ev_ eh
  obtain rfl : u = Value.ref B := rv
  refine PySem.W.method_cls I1.kIn r.ga (PySem.W.cls_value I1.kIn r.rd c (by decide) ?_)
  refine PyProof.Rows.callWith_method1 (thn (ha.run pos pins _ σ _ _ (I1.tok _) h) fun us s2 ⟨vs, H2, I2, r2, a, C, ws, ev2, hl, T, ea, q⟩ => ?_) hst hpl
  subst ev2
  cases r2 with
  | @cons _ u0 _ ur ra rw' =>
    obtain rfl : u0 = Value.ref a := ra
    refine oinit_ok T I2 ea ?_ fun s3 J => ⟨.non, H2, J, rfl, q⟩
    rw [← Paired.length rw', sizeLine_eq]
    omega
end
end Nw

set_option Elab.async false
set_option linter.all false
set_option maxRecDepth 100000
set_option maxHeartbeats 4000000
namespace Nw
open PySem L2 PySem.Spec PyProof.Rows
/-! ## exceptions that are made where nothing is handled: their context is None -/
section
variable {X : Cx} {x : Str} {p pos : Pos} {e : Expr} {es : List Expr} {t : TA} {D : Addr}
/-- an own exception without a maker -/
theorem pmk_ownN {bs : List Value} {b newI iniI : String} (F : ExcBaseFacts b newI iniI bs) (q : PySem.W.excIn X.K D bs newI = true) (gD : X.mg x = some (.ref D)) (kD : PySem.W.keepIn X.K (.ref D) = true) (rD : Raises X (.ref D)) (hx : Gl X x) (ha : PA X (e :: es) t)
    (h1 : (x == ("__debug__" : Str)) = false) (h2 : starEach (e :: es) X.env = (false, eval e X.env) :: starEach es X.env) (h3 : (backTo pos (starEach es X.env)).any (·.1) = false) :
    L2N.PMk X (.Call (.Name x p) (e :: es) [] pos) (fun σ H Q => t σ H fun vs H1 => vs.length ≤ sizeLine ∧ Q (.ref D) none H1) := fun pins s σ H Q I hq =>
  wpAny_Call_Name_kw (ld_glob I hx gD (PySem.W.callWith_K (h₀ := X.base) I.ok.mod.kin kD (thn (ha.run pos pins s σ H _ I hq) fun us s1 z => by
    obtain ⟨vs, H1, J, rv, hl, z⟩ := z
    refine ⟨J.kIn, ?_⟩
    obtain ⟨_, _, _, _, _, _, _, _, _, _, _, _, _, _, _, _, mN, hC, hN, hni, TT⟩ := exc_obj J.kIn q
    show wpAny _ _ (call (.ref D) us) _ _ _
    exact wpAny_call_exc_subT F TT hC hN hni (fun g a hm => L2N.mk_of J hm rD z (J.hok.gone hm.new)) (by rw [← rv.length]; exact hl)) h2 h3) h1)
/-- .. with one that notes parts -/
theorem pmk_oexN {CX : CXT} {fM : Addr} {k : Nat} {fd : FuncData} {ps : List Str} {sp : Sp} (T : OexC X.K D) (iD : PySem.W.findIn X.K (.ref D) "__init__" = some (some (.ref fM))) (tM : PySem.W.typeIn X.K (.ref fM) = some (.type "function"))
    (FM : FnOk X.prog X.w X.K X.mg X.base CX k fM fd ps sp) (room : Room (k + 1) X.A) (bM : Binds X.K fd ps []) (quiet : Passes CX X (fun _ _ _ => False)) (hx : Gl X x) (gD : X.mg x = some (.ref D)) (ha : PA X (e :: es) t)
    (h1 : (x == ("__debug__" : Str)) = false) (h2 : starEach (e :: es) X.env = (false, eval e X.env) :: starEach es X.env) (h3 : (backTo pos (starEach es X.env)).any (·.1) = false) :
    L2N.PMk X (.Call (.Name x p) (e :: es) [] pos) (tMkO D sp [] t) := fun pins s σ H Q I hq0 => by
  obtain ⟨_, _, _, _, bm, _, _, _, _, _, _, _, _, _, _, hC, hbm⟩ := T.cls
  refine wpAny_Call_Name_kw (ld_glob I hx gD (PySem.W.callWith_K (h₀ := X.base) I.ok.mod.kin T.kC (thn (ha.run pos pins s σ H _ I hq0) fun us s1 z => ?_) h2 h3) h1)
  obtain ⟨vs, H1, J, rv, hz, told⟩ := z
  refine ⟨J.kIn, ?_⟩
  show wpAny _ _ (call (.ref D) us) _ _ _
  obtain ⟨hh, gg, dd, tt, oo⟩ := s1
  obtain ⟨a, ea⟩ : ∃ a, a = hh.objs.size + 1 := ⟨_, rfl⟩
  have fresh : hh.objs.size ≤ a := by rw [ea]; exact Nat.le_succ _
  have na : H1 a = none := J.hok.fresh fresh
  have hq := told a na
  rw [List.append_nil] at hq
  have grow : ∀ b o, hh.get? b = some o → ((hh.push (PySem.W.kdv_tup us)).push (PySem.HandSPX.excO D hh.objs.size)).get? b = some o := fun b o z => Heap.get?_push_of_some _ (Heap.get?_push_of_some _ z)
  have there : ((hh.push (PySem.W.kdv_tup us)).push (PySem.HandSPX.excO D hh.objs.size)).get? a = some (PySem.HandSPX.excO D hh.objs.size) := by rw [ea]; heap_get
  have J2 : L2.Inv X pins σ (L2.upd H1 a (exo a D none)) ⟨(hh.push (PySem.W.kdv_tup us)).push (PySem.HandSPX.excO D hh.objs.size), gg, dd, tt, oo⟩ := J.laid (t' := tt) (a := a) (o := exo a D none) grow fresh (exo_ok there)
  have rv2 : Vals (V.ref a :: vs) (Value.ref a :: us) := .cons rfl rv
  have len : (Value.ref a :: us ++ []).length = ps.length := by
    rw [List.append_nil, ← FM.len _ _ _ _ hq]
    exact rv2.length.symm
  have few : us.length ≤ sizeLine := by
    have := rv.length
    rw [sizeLine_eq]
    omega
  have bb := bM _ (Value.ref a :: us) J2.kIn len
  rw [List.append_nil] at bb
  subst ea
  refine wpAny_call (PySem.HandSPX.call_own F.excBase_ValueError (fun Y => PySem.HandSPX.refsVE_contains Y bm hbm) (J.kIn _ _ hC) (PySem.W.looks_findIn J.kIn iD) (fun self => PySem.W.bind_fn J.kIn self tM) few (codeAny_mono
    (FM.run _ X.stack _ _ ⟨Value.ref (hh.objs.size + 1) :: us, []⟩ _ _ _ (fun _ _ _ => False) (room.make D us []) (J2.env0.make D us []) bb rv2 hq) fun r s2 hr => ?_))
  cases r with
  | error er => exact quiet pins σ _ _ er s2 J2 hr
  | ok fl =>
    cases fl with
    | next => exact hr.elim
    | brk => exact hr.elim
    | cont => exact hr.elim
    | ret u =>
      obtain ⟨v, H2, os2, bare2, un2, hok2, ru, ev, d, fs, e1, e2, e3, z⟩ := hr
      subst ev
      obtain ⟨h4, g4, d4, t4, o4⟩ := s2
      obtain ⟨t0, Gh, J4, kG, gn, hoe, nn⟩ := mk_end0 (d2 := d4) (t2 := t4) J fresh grow un2 hok2 os2 bare2 e1 e2 e3
      refine ⟨ru, ⟨hh.objs.size + 1, _, _, ⟨Gh, g4, d4, t4, o4⟩, _, .ref D, some d, rfl, J4, kG, gn, hoe, ⟨rfl, rfl, fun ws hv => ?_⟩, rfl, rfl, nn, rfl, bare2, raises_own T.exC T.tyC, z⟩⟩
      cases hv
      rfl
end
end Nw

set_option Elab.async false
set_option linter.all false
set_option maxRecDepth 100000
set_option maxHeartbeats 4000000
namespace Nw
open PySem L2
section
variable {X : Cx} {G : Cfg} {W : WX} {G' : Tab} {ft : Fns}
/-- constants, one by one -/
def tCs : List V → TA
  | [] => tNil
  | c :: r => tCons (tC c) (tCs r)
theorem tCs_at {cs : List V} {σ : St} {H : Hp} {Q : List V → Hp → Prop} (h : Q cs H) : tCs cs σ H Q := by
  induction cs generalizing Q with
  | nil => exact h
  | cons c r ih => exact ih (Q := fun xs H2 => Q (c :: xs) H2) h
/-- isinstance(e, (c, ..)) -/
def rIsXT (K : PySem.W.Frag) : List V → Hp → VK → Prop := fun xs H Q => ∃ (a D tp : Addr) (cs : List V) (us : List Value) (b : Bool) (ys : Option (List (Str × V))), xs = [.ref a, .ref tp] ∧ H tp = some (.tup cs) ∧ Paired ClsV cs us ∧ ExcC K D ∧ XAt H a D ys ∧ PySem.W.kitAny K (.ref D) us = some b ∧ Q (.bl b) H
theorem call_isXT : CallR X (.builtin "isinstance") (rIsXT X.K) := by
  intro pins s σ H xs us Q I r h
  obtain ⟨a, D, tp, cs, ws, b, ys, rfl, hT, k, C, hx, e, q⟩ := h
  obtain ⟨u1, u2, rfl, r1, r2⟩ := vals2 r
  cases (show u2 = Value.ref tp from r2)
  obtain rfl : u1 = Value.ref a := r1
  obtain ⟨oe, od, J, _⟩ := hx.inst I
  obtain ⟨cd, hcd, _⟩ := PySem.W.any_some C.hd
  obtain ⟨_, its, rv, o, h1, h2, n, h3⟩ := (show ObjOk X.prog X.w H s.heap tp (.tup cs) from I.hok tp _ hT)
  have e3 := ClsV.all k rv
  subst e3
  obtain ⟨oc, od2, dt, sl⟩ := o
  simp only at h2 h3
  subst h2 h3
  exact PySem.W.kia_tup (PySem.W.kitx_exc (by rw [hcd]; rfl) C.hg C.hk C.hs C.ha C.hn C.ht C.hm) I.kIn J h1 e (fun z => nomatch z) fun tk => ⟨.bl b, H, I.tok tk, rfl, q⟩
theorem de_isXT {e : Expr} {pa : PyE} {js : List Nat} {cs : List V} {us : List Value} (hK : G.K = X.K) (hl : cs.length ≤ sizeLine) (hc : Paired ClsV cs us) (hi : ∀ d b, isXTL G' d js = some b → ExcC X.K (G.ca d) ∧ PySem.W.kitAny X.K (.ref (G.ca d)) us = some b)
    (h : PE X e (tCB (rIsXT X.K) (tCons (lift G W (ev G' ft pa)) (tCons (tTup (tCs cs)) tNil)))) : PE X e (lift G W (ev G' ft (.isXT js pa))) := by
  refine h.imp fun σ H Q h => ?_
  have h2 := one (f := fun v _ S1 => Res.ofO ((isXTV G' js S1 v).map Val.bl) S1) (k := Kv Q) (by simp only [lift, ev] at h; exact h)
  refine lift_mono h2 fun x H1 ⟨μ, env, v, S, s, e, r, q⟩ => ?_
  refine tCs_at ⟨hl, fun p hp => ?_⟩
  have s2 := s.new (u := .tup cs) hp
  obtain ⟨b, eb, q2⟩ := (q.later (Up.refl _) (Keep.new (o := .tup cs) hp)).bool s2
  unfold isXTV at eb
  split at eb
  · split at eb
    · rename_i i d fs eo
      cases r with
      | obj hs =>
      obtain ⟨k1, k2⟩ := hi _ _ eb
      rcases exn_at s2 eo hs with ⟨_, g⟩ | ⟨ys, _, g⟩
      · exact ⟨_, _, p, cs, us, b, none, rfl, upd_same, hc, k1, g, k2, q2⟩
      · exact ⟨_, _, p, cs, us, b, some ys, rfl, upd_same, hc, k1, g, k2, q2⟩
    · cases eb
  · cases eb
end
end Nw

set_option Elab.async false
set_option linter.all false
set_option maxRecDepth 100000
set_option maxHeartbeats 3200000
namespace Nw
open PySem L2 PySem.Spec PyProof.Rows

/-! ## raise C(e, ..) -/
section
variable {G : Cfg} {μ : List Addr} {H : Hp}
theorem RF.app : ∀ {a a' : List (Nat × Val)} {b b' : List (Str × V)}, RF G μ H a b → RF G μ H a' b' → RF G μ H (a ++ a') (b ++ b')
  | [], _, [], _, _, h => h
  | (_, _) :: _, _, (_, _) :: _, _, ⟨h1, h2, h3, h4⟩, h => ⟨h1, h2, h3, h4.app h⟩
  | [], _, _ :: _, _, z, _ => z.elim
  | _ :: _, _, [], _, z, _ => z.elim
theorem RF.zips : ∀ {l : List Nat} {vs : List Val} {xs : List V}, (∀ f ∈ l, f < G.NM.length) → RVs μ H vs xs → RF G μ H (l.zip vs).reverse ((l.map G.nm).zip xs).reverse
  | [], _, _, _, _ => trivial
  | f :: l, _, _, hf, .nil => trivial
  | f :: l, _, _, hf, .cons h t => by
    simp only [List.zip_cons_cons, List.map_cons, List.reverse_cons]
    exact (RF.zips (fun g hg => hf g (List.mem_cons_of_mem _ hg)) t).app ⟨hf f List.mem_cons_self, rfl, h, trivial⟩
end
theorem liftA_monoB {G : Cfg} {W : WX} {m : Env → Store → Res (List Val)} {σ : L2.St} {H : Hp} {Q Q' : List V → Hp → Prop} (h : liftA G W m σ H Q) (i : ∀ xs H', Q xs H' → Q' xs H') : liftA G W m σ H Q' := by
  obtain ⟨μ, env, S, s, e, h⟩ := h
  exact ⟨μ, env, S, s, e, h.imp fun vs μ1 S1 H1 u k s1 q xs r => i _ _ (q xs r)⟩
section
variable {X : Cx} {G : Cfg} {G' : Tab} {ft : Fns} {W : WX} {x : Str} {p pos pos' : Pos} {e : Expr} {es : List Expr} {c : Nat} {a : PyE} {l : List Nat} {fI : Addr} {fd : FuncData} {ps : List Str}
theorem ds_raiseF (hc : X.calm = true) (tk : L2N.Takes X W) (T : OexC X.K (G.ca c)) (el : G'.xf c = some l) (h10 : l.length ≤ 10) (hno : ∀ f ∈ l, PySem.W.findIn X.K (.ref (G.ca c)) (G.nm f) = some none) (hlt : ∀ f ∈ l, f < G.NM.length)
    (iC : PySem.W.findIn X.K (.ref (G.ca c)) "__init__" = some (some (.ref fI))) (tI : PySem.W.typeIn X.K (.ref fI) = some (.type "function"))
    (F1 : FnOk X.prog X.w X.K X.mg X.base (L2N.CX X.prog X.w) 1 fI fd ps (spInit X.K (G.ca c) (l.map G.nm))) (hr : Room 2 X.A) (hb : Binds X.K fd ps []) (hg : Gl X x) (hm : X.mg x = some (.ref (G.ca c)))
    (ha : PA X (e :: es) (liftA G W (evA G' ft a))) (hdb : (x == ("__debug__" : Str)) = false) (he : starEach (e :: es) X.env = (false, eval e X.env) :: starEach es X.env) (hpl : (backTo pos (starEach es X.env)).any (·.1) = false) :
    PS X (.Raise (some (.Call (.Name x p) (e :: es) [] pos)) none pos') (liftS G W (ex G' ft (.raiseF c a))) := by
  have quiet : Passes (L2N.CX X.prog X.w) X (fun _ _ _ => False) := fun _ _ _ _ _ _ _ ⟨_, _, _, _, _, _, _, _, _, _, _, _, z⟩ => z.elim
  refine (L2N.ps_raise hc tk (pmk_oexN T iC tI F1 hr hb quiet hg hm ha hdb he hpl)).imp fun D σ H h => ?_
  have h2 := oneSA (f := fun vs env S1 => raiseV G' c env vs S1) (by simp only [liftS, ex] at h; exact h)
  refine liftA_monoB h2 fun xs H1 ⟨μ, env, vs, S, s, re, rs, q⟩ => ?_
  unfold raiseV at q
  rw [el] at q
  simp only at q
  split at q
  · rename_i hlen
    have hx : xs.length = l.length := by rw [← rs.length, hlen]
    refine ⟨by omega, fun b nb => ⟨b, xs, by simp, by simp [hx], T, fun f hf => ?_, upd_same, fun d H' nd db e1 e2 e3 => ?_⟩⟩
    · obtain ⟨g, hg', rfl⟩ := List.mem_map.mp hf
      exact hno g hg'
    · have nd1 : H1 d = none := by rw [upd_ne db] at nd; exact nd
      refine ⟨rfl, d, _, e1, e2, nd1, ?_⟩
      have eq : upd (del H' b) d (.xd ((l.map G.nm).zip xs).reverse) = upd H1 d (.xd ((l.map G.nm).zip xs).reverse) := by
        funext y
        by_cases hy : y = d
        · subst hy; rw [upd_same, upd_same]
        · rw [upd_ne hy, upd_ne hy]
          by_cases hz : y = b
          · subst hz; rw [del_same, nb]
          · rw [del_ne hz, e3 y hz hy, upd_ne hz]
      rw [eq]
      exact q μ _ σ (some d) (Up.refl _) (Keep.new nd1) (s.new nd1) (re.mono (Up.refl _) (Keep.new nd1)) (.inr ⟨d, _, rfl, upd_same, RF.zips hlt (rs.mono (Up.refl _) (Keep.new nd1) _ _)⟩)
  · exact q.elim
end

/-! ## defs that are called while an exception is handled -/
structure FnW (P : Program) (w : World) (K : PySem.W.Frag) (mg : Str → Option Value) (base : Heap) (k : Nat) (f : Addr) (fd : FuncData) (ps : List Str) (sp : Sp) : Prop where
  len : ∀ vs H Q E, sp vs H Q E → vs.length = ps.length
  run : ∀ (A : Around) (outer : List PySem.Env) (s : Shared) (H : Hp) (args : Args) (us : List Value) (vs : List V) (Q : VK) (E : XK), L2H.RoomH k A → Env0 P w K mg base A outer s H → BindsTo s fd args (ps.zip us) → Vals vs us → sp vs H Q E →
    codeAny (model P w) A (.call (.ref f) args) (CR (L2N.CX P w) outer P w H s Q E) s
/-- such a def's frame -/
def cxW (P : Program) (w : World) (K : PySem.W.Frag) (mg : Str → Option Value) (base : Heap) (N : List Str) (qual : Str) (scope : Scope) (f : Addr) (cd : Value) (A : Around) (outer : List PySem.Env) (s : Shared) (H : Hp) (E : XK) : Cx :=
  { cxOf (L2N.CX P w) P w K mg base N qual scope f cd A outer s H E with calm := false }
theorem fnw_of {P : Program} {w : World} {K : PySem.W.Frag} {mg : Str → Option Value} {base : Heap} {k : Nat} {f : Addr} {name qual : Str} {params : Arguments} {body : List Stmt} {scope : Scope} {dV kV doc pm cdv ct oc : Value} {an od : Option Addr}
    {osl : Array (Option Value)} {N ps : List Str} {sp : Sp} (lk : K.lookup f = some ⟨oc, od, .func (PySem.W.fnOf name qual params body scope dV kV doc pm an cdv ct), osl⟩) (hcd : PySem.W.codeIn K cdv qual = true) (S : FnScope N ps scope)
    (len : ∀ vs H Q E, sp vs H Q E → vs.length = ps.length)
    (hbody : ∀ (A : Around) (outer : List PySem.Env) (s : Shared) (H : Hp) (vs : List V) (Q : VK) (E : XK), L2H.RoomH k (A.deeper (envOfC qual scope s.heap.objs.size f cdv)) → sp vs H Q E →
      ∃ t, PSs (cxW P w K mg base N qual scope f cdv A outer s H E) body t ∧ t { nx := fun _ H' => Q .non H', rt := Q } (L2.start N vs) H) :
    FnW P w K mg base (k + 1) f (PySem.W.fnOf name qual params body scope dV kV doc pm an cdv ct) ps sp where
  len := len
  run := fun A outer s H args us vs Q E room e0 bt rv hs => by
    have hlen := len _ _ _ _ hs
    have inK : K.In s.heap := e0.mod.kin.keeps fun b o e => (e0.bs b o e).1
    have free : s.heap.NoLimit := e0.mod.nolimit.keeps fun b o e => (e0.bs b o e).1
    have kinds : ∀ y ∈ ps.zip us, scope.names.lookup y.1 = some .local ∨
        (scope.names.lookup y.1 = some .cell ∧ ((cellsFrom (s.heap.objs.size + 1) scope.names []).lookup y.1).isSome = true) := fun ⟨n, v⟩ hy =>
      (S.par n (List.of_mem_zip hy).1).elim .inl fun q => .inr ⟨q, PySem.W.cellsFrom_some _ _ _ (.inl q)⟩
    refine codeAny_call_function room.depth (inK _ _ lk) rfl S.co S.gen rfl (PySem.W.codeRec_of inK hcd) (bt _ _ _ _ ?_)
    refine wpAny_newFunctionEnv_cells S.kind kinds fun env he s1 x => ?_
    subst he
    refine ⟨free.keeps x.toInCall.keep, codeAny_func ?_⟩
    obtain ⟨t, ht, hq⟩ := hbody A outer s H vs Q E (room.deeper _) hs
    have e0' : Env0 P w K mg base { A with handled := none } outer s H := ⟨e0.frames, e0.mod, e0.bs, e0.bsz, e0.funs, e0.frf, e0.hok, e0.bare⟩
    have I0 := inv_start (CX := L2N.CX P w) (qual := qual) (f := f) (cd := cdv) (A := { A with handled := none }) (E := E) S rfl e0' hlen rv x
    have I : L2.Inv (cxW P w K mg base N qual scope f cdv A outer s H E) [] (L2.start N vs) H s1 :=
      { ok := ⟨I0.ok.mod, I0.ok.kind, I0.ok.glob, I0.ok.blt, I0.ok.above, I0.ok.inj, I0.ok.has, I0.ok.cab, (fun z => Bool.noConfusion (show false = true from z)), Around.frames_deeper e0.frames, I0.ok.stk, I0.ok.exf, I0.ok.bs, I0.ok.bsz, I0.ok.noex, I0.ok.exfs, I0.ok.funs, I0.ok.frf⟩
        os := I0.os
        bare := I0.bare
        base := I0.base
        loc := I0.loc
        cell := I0.cell
        free := I0.free
        freeC := I0.freeC
        pin := I0.pin
        hok := I0.hok
        len := I0.len }
    refine wpAny_mono (ht.run [] s1 (L2.start N vs) H _ I hq) (fun fl s' hs' => ?_) fun _ _ z => z
    have out : ∀ {σ' : L2.St} {H' : Hp} {v : V} {u : Value}, L2.Inv (cxW P w K mg base N qual scope f cdv A outer s H E) [] σ' H' s' → RelV v u → Q v H' → CE outer P w H s Q u s' :=
      fun {σ' H' v u} J r' q' => ⟨v, H', J.os, J.bare, J.base, J.hok, r', q'⟩
    cases fl with
    | ret u => obtain ⟨v, σ', H', J, r', q'⟩ := hs'; exact out J r' q'
    | next => obtain ⟨σ', H', J, q'⟩ := hs'; exact out (v := .non) (u := Value.none) J rfl q'
    | brk => obtain ⟨_, _, _, z⟩ := hs'; exact z.elim
    | cont => obtain ⟨_, _, _, z⟩ := hs'; exact z.elim
section
variable {X : Cx} {k : Nat} {f : Addr} {fd : FuncData} {ps : List Str} {sp : Sp} {E : L2.St → XK} {x : Str} {p pos : Pos} {e : Expr} {es : List Expr} {t : TA}
theorem pe_callW (F : FnW X.prog X.w X.K X.mg X.base k f fd ps sp) (hr : L2H.RoomH k X.A) (hg : Gl X x) (hm : X.mg x = some (.ref f)) (hk : PySem.W.keepIn X.K (.ref f) = true) (hb : Binds X.K fd ps []) (hx : ∀ σ, PassesAt (L2N.CX X.prog X.w) X σ (E σ))
    (ha : PA X (e :: es) t) (hdb : (x == ("__debug__" : Str)) = false) (he : starEach (e :: es) X.env = (false, eval e X.env) :: starEach es X.env) (hpl : (backTo pos (starEach es X.env)).any (·.1) = false) :
    PE X (.Call (.Name x p) (e :: es) [] pos) (tCallSD sp [] E t) where
  run := fun pins s σ H Q I h => by
    refine wpAny_Call_Name_kw (ld_glob I hg hm ?_ hdb)
    refine PySem.W.callWith_K (h₀ := X.base) I.ok.mod.kin hk (thn (ha.run pos pins s σ H _ I h) fun us s1 ⟨vs, H1, I1, rv, q⟩ => ⟨I1.kIn, ?_⟩) he hpl
    have q : sp vs H1 Q (E σ) := by simpa using q
    have hl : us.length = ps.length := by rw [← rv.length]; exact F.len _ _ _ _ q
    have bt := hb s1 us I1.kIn (by rw [List.append_nil]; exact hl)
    rw [List.append_nil] at bt
    refine wpAny_call (codeAny_mono (F.run X.A X.stack s1 H1 ⟨us, []⟩ us vs Q (E σ) hr I1.env0 bt rv q) fun r s' hq => ?_)
    cases r with
    | error er => exact hx σ pins H1 s1 er s' I1 hq
    | ok fl => cases fl with
      | ret u => exact I1.after hq
      | next => exact hq.elim
      | brk => exact hq.elim
      | cont => exact hq.elim
end
section
variable {X : Cx} {G : Cfg} {G' : Tab} {ft : Fns} {W : WX} {k f : Nat} {fa : Addr} {fd : FuncData} {ps : List Str} {x : Str} {p pos : Pos} {e : Expr} {es : List Expr} {pa : PyE}
theorem evH_eq : ev G' ft (.callH f pa) = ev G' ft (.call f pa []) := by
  funext env S
  simp only [ev, List.append_nil]
theorem de_callH (F : FnW X.prog X.w X.K X.mg X.base k fa fd ps (SpF G ft f)) (tk : L2N.Takes X W) (hr : L2H.RoomH k X.A) (hg : Gl X x) (hm : X.mg x = some (.ref fa)) (hk : PySem.W.keepIn X.K (.ref fa) = true) (hb : Binds X.K fd ps [])
    (ha : PA X (e :: es) (liftA G W (evA G' ft pa))) (hdb : (x == ("__debug__" : Str)) = false) (he : starEach (e :: es) X.env = (false, eval e X.env) :: starEach es X.env) (hpl : (backTo pos (starEach es X.env)).any (·.1) = false) :
    PE X (.Call (.Name x p) (e :: es) [] pos) (lift G W (ev G' ft (.callH f pa))) := by
  rw [evH_eq]
  exact (pe_callW F hr hg hm hk hb (fun σ => L2N.passAt tk σ) ha hdb he hpl).imp fun σ H Q h => call_read (ds := []) (t := tNil) rfl h
end
end Nw

set_option Elab.async false
set_option linter.all false
set_option maxRecDepth 100000
set_option maxHeartbeats 3200000
namespace Nw
open PySem L2 PySem.Spec PyProof.Rows

/-! ## sum(lists, []) -/
section
variable {prog : Program} {w : World} {A : Around} {R : Result → Shared → Prop} {I : Addr} {fp wr : List Addr} {P : Nat → Value → Prop} {St : Nat → Heap → Prop}
theorem add_two {E : Value → Shared → Prop} {s : Shared} {l b : Addr} {vs ws : List Value} {Q : Value → Shared → Prop} (hl : s.heap.IsList l vs.toArray) (hb : s.heap.IsList b ws.toArray) (hz : vs.length + ws.length ≤ sizeLine)
    (h : Q (.ref s.heap.objs.size) { s with heap := s.heap.push { cls := .type "list", data := .seq (vs ++ ws).toArray } }) : wpAny (model prog w) A (binaryOp .Add (.ref l) (.ref b)) Q E s := by
  obtain ⟨⟨c1, d1, t1, sl1⟩, g1, k1, n1, e1⟩ := id hl
  obtain ⟨⟨c2, d2, t2, sl2⟩, g2, k2, n2, e2⟩ := id hb
  simp only at k1 e1 k2 e2
  subst k1 e1 k2 e2
  have e : vs.toArray ++ ws.toArray = (vs ++ ws).toArray := by simp
  refine concat_meets ⟨_, g1, rfl⟩ ⟨_, g2, rfl⟩ noFill_list_add seq_list_add PySem.F.slot_list_add PySem.F.entry_list_add (PySem.F.args_list_add_2 _ _)
    (list_addW l b vs.toArray ws.toArray n1 n2 d1 d2 sl1 sl2 (by simpa using hz)) ⟨g1, g2, ?_⟩
  rw [e]
  exact h
abbrev stList (T : Addr) (c : Nat) : PySem.Obj := { cls := .type "list", dict := none, data := .seq #[.ref T] c, slots := #[] }
theorem sumL_loop (L : List (Addr × List Value)) (W : Walks prog w A.in1 I fp wr L.length P St) (hval : ∀ i v, P i v → ∃ p, L[i]? = some p ∧ v = .ref p.1) (hw : ∀ p ∈ L, p.1 ∉ wr) (S : Addr) (hSf : S ∉ fp) (hSl : ∀ p ∈ L, p.1 ≠ S) (hwS : ∀ b ∈ wr, b < S) :
    ∀ (k i : Nat) (s : Shared) (T : Addr) (acc : List Value) (c : Nat), L.length - i = k → i ≤ L.length → St i s.heap → s.heap.get? S = some (stList T c) → s.heap.IsList T acc.toArray → T ∉ wr → T ≠ S → (∀ p ∈ L, s.heap.IsList p.1 p.2.toArray) →
      acc.length + ((L.drop i).flatMap (·.2)).length ≤ sizeLine →
      (∀ h' tk T', (∀ b o, b ∉ wr → b ≠ S → s.heap.get? b = some o → h'.get? b = some o) → ((i = L.length ∧ T' = T) ∨ (i < L.length ∧ S < T' ∧ h'.get? T' = some { cls := .type "list", data := .seq (acc ++ (L.drop i).flatMap (·.2)).toArray })) → R (.ok (.ret (.ref T'))) { s with heap := h', toks := tk }) →
      codeAny (model prog w) A (.builtin "sum.loop" ⟨[.ref I, .ref S, rawInt 2, rawInt 0], []⟩) R s := by
  have hSw : S ∉ wr := fun h => hSf (W.sub _ h)
  intro k
  induction k with
  | zero =>
    intro i s T acc c hk hi st hS hT hTw hTS hL hz hR
    obtain rfl : i = L.length := by omega
    refine codeAny_builtin PySem.F.entry_sum_loop ?_
    rw [Around.under_plainId PySem.F.plain_sum_loop _]
    show wpAny _ A.in1 (seqItems? (.ref S) >>= _) _ _ s
    refine wpAny_bind (wpAny_seqItems hS rfl ?_)
    show wpAny _ A.in1 (tryCatch (pyNext (.ref I)) _ >>= _) _ _ s
    refine wpAny_bind (wpAny_tryCatch (W.done s _ _ st fun h' tk hk' => ?_))
    exact wpAny_pure (hR h' tk T (fun b o hb _ e => hk' b o hb e) (.inl ⟨rfl, rfl⟩))
  | succ k ih =>
    intro i s T acc c hk hi st hS hT hTw hTS hL hz hR
    have hlt : i < L.length := by omega
    obtain ⟨p, hp⟩ : ∃ p, L[i]? = some p := ⟨_, List.getElem?_eq_getElem hlt⟩
    have hpL : p ∈ L := List.mem_of_getElem? hp
    have hd : L.drop i = p :: L.drop (i + 1) := by
      rw [List.drop_eq_getElem_cons hlt]
      congr 1
      rw [List.getElem?_eq_getElem hlt] at hp
      exact Option.some.inj hp
    refine codeAny_builtin PySem.F.entry_sum_loop ?_
    rw [Around.under_plainId PySem.F.plain_sum_loop _]
    show wpAny _ A.in1 (seqItems? (.ref S) >>= _) _ _ s
    refine wpAny_bind (wpAny_seqItems hS rfl ?_)
    show wpAny _ A.in1 (tryCatch (pyNext (.ref I)) _ >>= _) _ _ s
    refine wpAny_bind (wpAny_tryCatch (W.item i s _ _ hlt st fun v h' tk hP st' hk' => ?_))
    obtain ⟨p', hp', rfl⟩ := hval i v hP
    rw [hp] at hp'
    cases hp'
    have hS1 := hk' S _ hSw hS
    have hT1 : h'.IsList T acc.toArray := by
      obtain ⟨o, e1, e2⟩ := hT
      exact ⟨o, hk' T o hTw e1, e2⟩
    have hL1 : ∀ q ∈ L, h'.IsList q.1 q.2.toArray := fun q hq => by
      obtain ⟨o, e1, e2⟩ := hL q hq
      exact ⟨o, hk' q.1 o (hw q hq) e1, e2⟩
    have hSlt := Heap.lt_size hS1
    have hz1 : acc.length + p.2.length ≤ sizeLine := by rw [hd] at hz; simp at hz; omega
    show wpAny _ A.in1 ((holding [Value.ref p.1] (binaryOp .Add (.ref T) (.ref p.1))).attempt >>= _) _ _ _
    refine wpAny_bind (wpAny_attempt (wpAny_holding (add_two hT1 (hL1 p hpL) hz1 ?_)))
    generalize hN : h'.objs.size = N at hSlt
    have hS2 : (h'.push { cls := .type "list", data := .seq (acc ++ p.2).toArray }).get? S = some (stList T c) := Heap.get?_push_of_some _ hS1
    have hN2 : (h'.push { cls := .type "list", data := .seq (acc ++ p.2).toArray }).get? N = some { cls := .type "list", data := .seq (acc ++ p.2).toArray } := by rw [← hN]; exact Heap.get?_push_size _ rfl
    show wpAny _ A.in1 (updateSeq S (fun _ => #[.ref N]) >>= _) _ _ _
    refine wpAny_bind ?_
    refine wpAny_updateSeq hS2 rfl ?_
    have hS3 := Heap.get?_update_self (Obj.mapSeq fun _ => #[Value.ref N]) hS2 rfl
    refine wpAny_bind (wpAny_letGo ?_)
    refine wpAny_bind ?_
    refine wpAny_updateSeq hS3 rfl ?_
    have other : ∀ b o, b ≠ S → h'.get? b = some o → (((h'.push { cls := .type "list", data := .seq (acc ++ p.2).toArray }).update S (Obj.mapSeq fun _ => #[Value.ref N])).update S (Obj.mapSeq fun _ => #[Value.ref N])).get? b = some o := fun b o hb e =>
      (Heap.get?_update_other _ _ (Ne.symm hb)).trans ((Heap.get?_update_other _ _ (Ne.symm hb)).trans (Heap.get?_push_of_some _ e))
    have hN3 : (((h'.push { cls := .type "list", data := .seq (acc ++ p.2).toArray }).update S (Obj.mapSeq fun _ => #[Value.ref N])).update S (Obj.mapSeq fun _ => #[Value.ref N])).get? N = some { cls := .type "list", data := .seq (acc ++ p.2).toArray } :=
      (Heap.get?_update_other _ _ (Nat.ne_of_lt hSlt)).trans ((Heap.get?_update_other _ _ (Nat.ne_of_lt hSlt)).trans hN2)
    have hNw : N ∉ wr := fun z => absurd (hwS N z) (Nat.not_lt.mpr (Nat.le_of_lt hSlt))
    refine wpAny_pure ⟨plainId_quiet PySem.F.plain_sum_loop _, ih (i + 1) _ N (acc ++ p.2) _ (by omega) hlt (W.frame _ _ _ st' fun b hb o e => other b o (fun z => hSf (z ▸ hb)) e) (Heap.get?_update_self _ hS3 rfl) ⟨_, hN3, rfl, _, rfl⟩ hNw (Nat.ne_of_gt hSlt)
      (fun q hq => by obtain ⟨o, e1, e2⟩ := hL1 q hq; exact ⟨o, other q.1 o (hSl q hq) e1, e2⟩) (by rw [hd] at hz; simp at hz ⊢; omega) fun h'' tk'' T'' k2 hT2 => ?_⟩
    refine hR h'' tk'' T'' (fun b o hb hbS e => k2 b o hb hbS (other b o hbS (hk' b o hb e))) (.inr ⟨hlt, ?_⟩)
    rcases hT2 with ⟨e1, e2⟩ | ⟨e1, e2, e3⟩
    · subst e2
      refine ⟨hSlt, ?_⟩
      rw [k2 _ _ hNw (Nat.ne_of_gt hSlt) hN3, hd, List.flatMap_cons, e1, List.drop_length]
      simp
    · refine ⟨e2, ?_⟩
      rw [e3, hd, List.flatMap_cons]
      simp
end
section
variable {prog : Program} {w : World} {A : Around} {E : Value → Shared → Prop} {s : Shared}
theorem args_sum2 (a b : Value) : argsOk "sum" ⟨[a, b], []⟩ := by unfold argsOk; kernel_rfl
theorem sum_lists {l a : Addr} {L : List (Addr × List Value)} {acc : List Value} {Q : Value → Shared → Prop} (hh : A.handled = none) (hl : s.heap.IsList l (L.map fun p => Value.ref p.1).toArray) (ha : s.heap.IsList a acc.toArray) (hL : ∀ p ∈ L, s.heap.IsList p.1 p.2.toArray)
    (hz : acc.length + (L.flatMap (·.2)).length ≤ sizeLine)
    (h : ∀ h' tk T, (∀ b o, s.heap.get? b = some o → h'.get? b = some o) → ((L = [] ∧ T = a) ∨ (L ≠ [] ∧ s.heap.objs.size ≤ T ∧ h'.get? T = some { cls := .type "list", data := .seq (acc ++ L.flatMap (·.2)).toArray })) → Q (.ref T) { s with heap := h', toks := tk }) :
    wpAny (model prog w) A (call (.builtin "sum") [.ref l, .ref a]) Q E s := by
  refine call_function_tree PySem.F.kind_sum PySem.F.plain_sum PySem.F.entry_sum (args_sum2 _ _) ?_
  unfold Builtin.«sum»
  simp only [List.length_cons, List.length_nil]
  rw [if_neg (by decide)]
  refine wpAny_bind (wpAny_of_eq (show Builtin.Builtins.bindParams "sum" ["start"] 0 { pos := [.ref a] } = pure [some (.ref a)] from rfl) ?_)
  have hlt : l < s.heap.objs.size := by obtain ⟨_, e, _⟩ := hl; exact Heap.lt_size e
  have alt : a < s.heap.objs.size := by obtain ⟨_, e, _⟩ := ha; exact Heap.lt_size e
  refine wpAny_bind (wpAny_pyIter_list hl ?_)
  refine wpAny_bind (wpAny_pure ?_)
  have aT : ∀ {hp : Heap} {o : PySem.Obj}, hp.get? a = some o → o.cls = .type "list" → ∀ (g : Array GenState) (d : Drawn) (t : Nat) (os : OsState), Shared.TypeIs ⟨hp, g, d, t, os⟩ (.ref a) "list" := fun e c g d t os => ⟨_, e, c⟩
  obtain ⟨oa, ea, ca, na, da⟩ := id ha
  have ea1 : (s.heap.push { cls := .type "list_iterator", data := .fields #[.ref l, .int 0 0] }).get? a = some oa := Heap.get?_push_of_some _ ea
  simp only [List.forIn_cons, List.forIn_nil]
  refine wpAny_bind (wpAny_bind (wpAny_bind (wpAny_isInstance (T := "list") (b := false) (aT ea1 ca _ _ _ _) PySem.F.sub_list_str ?_)))
  simp only [Bool.false_eq_true, if_false]
  refine wpAny_pure (wpAny_bind (wpAny_bind (wpAny_isInstance (T := "list") (b := false) (aT ea1 ca _ _ _ _) PySem.F.sub_list_bytes ?_)))
  simp only [Bool.false_eq_true, if_false]
  refine wpAny_pure (wpAny_bind (wpAny_bind (wpAny_isInstance (T := "list") (b := false) (aT ea1 ca _ _ _ _) PySem.F.sub_list_bytearray ?_)))
  simp only [Bool.false_eq_true, if_false]
  refine wpAny_pure (wpAny_pure ?_)
  refine wpAny_bind (wpAny_newObj_type ?_)
  have hz1 : (s.heap.push { cls := .type "list_iterator", data := .fields #[.ref l, .int 0 0] }).objs.size = s.heap.objs.size + 1 := Heap.size_push ..
  have ltI : s.heap.objs.size < (s.heap.push { cls := .type "list_iterator", data := .fields #[.ref l, .int 0 0] }).objs.size := by rw [hz1]; exact Nat.lt_succ_self _
  have up : ∀ b o, s.heap.get? b = some o → ((s.heap.push { cls := .type "list_iterator", data := .fields #[.ref l, .int 0 0] }).push (stList a 0)).get? b = some o := fun b o e => Heap.get?_push_of_some _ (Heap.get?_push_of_some _ e)
  have old : ∀ {b : Addr} {o : PySem.Obj}, s.heap.get? b = some o → b < s.heap.objs.size := fun e => Heap.lt_size e
  have isl : ∀ {b : Addr} {xs : Array Value}, s.heap.IsList b xs → ((s.heap.push { cls := .type "list_iterator", data := .fields #[.ref l, .int 0 0] }).push (stList a 0)).IsList b xs := fun ⟨o, e, r⟩ => ⟨o, up _ _ e, r⟩
  have W := Walks.list (prog := prog) (w := w) (A := A.in1) hh s.heap.objs.size l (Nat.ne_of_lt hlt) (L.map fun p => Value.ref p.1).toArray
  have lz : (L.map fun p => Value.ref p.1).toArray.size = L.length := by simp
  rw [lz] at W
  refine wpAny_pure ⟨plainId_quiet PySem.F.plain_sum_loop _, sumL_loop L W (fun i v hv => ?_) (fun p hp => ?_) (s.heap.push { cls := .type "list_iterator", data := .fields #[.ref l, .int 0 0] }).objs.size ?_ (fun p hp => ?_) (fun b hb => ?_) L.length 0 _ a acc 0 (by omega) (Nat.zero_le _) ⟨⟨_, Heap.get?_push_of_some _ (Heap.get?_push_size _ rfl), rfl, rfl⟩, isl hl⟩ ?_ (isl ha) ?_ ?_ (fun p hp => isl (hL p hp)) (by simpa using hz) fun h' tk T hk hT => ?_⟩
  · have hv' : (L.map fun p => Value.ref p.1)[i]? = some v := by simpa using hv
    rw [List.getElem?_map] at hv'
    cases e : L[i]? with
    | none => rw [e] at hv'; cases hv'
    | some p => rw [e] at hv'; cases hv'; exact ⟨p, rfl, rfl⟩
  · obtain ⟨_, e, _⟩ := hL p hp
    intro z
    exact Nat.ne_of_lt (old e) (List.mem_singleton.mp z)
  · intro z
    rcases List.mem_cons.mp z with z | z
    · exact Nat.ne_of_gt ltI z
    · exact Nat.ne_of_gt (Nat.lt_trans hlt ltI) (List.mem_singleton.mp z)
  · obtain ⟨_, e, _⟩ := hL p hp
    exact Nat.ne_of_lt (Nat.lt_trans (old e) ltI)
  · rw [List.mem_singleton.mp hb]
    exact ltI
  · exact Heap.get?_push_size _ rfl
  · intro z
    exact Nat.ne_of_lt alt (List.mem_singleton.mp z)
  · exact Nat.ne_of_lt (Nat.lt_trans alt ltI)
  · refine h h' tk T (fun b o e => hk b o (fun z => Nat.ne_of_lt (old e) (List.mem_singleton.mp z)) (Nat.ne_of_lt (Nat.lt_trans (old e) ltI)) (up b o e)) ?_
    rcases hT with ⟨e1, e2⟩ | ⟨e1, e2, e3⟩
    · exact .inl ⟨List.length_eq_zero_iff.mp e1.symm, e2⟩
    · exact .inr ⟨(fun z => by rw [z] at e1; exact Nat.lt_irrefl _ e1), Nat.le_of_lt (Nat.lt_trans ltI e2), by simpa using e3⟩
end
section
variable {X : Cx} {G : Cfg} {W : WX} {μ : List Addr} {H : Hp} {S : Store} {Q : VK}
theorem lists_rel {pins : List (Addr × PySem.Obj)} {σ : L2.St} {s : Shared} (hK : G.K = X.K) (sm : Sim G μ S H) (I : L2.Inv X pins σ H s) : ∀ {xs : List Val} {zs : List V} {ls : List (List Val)} {us : List Value}, RVs μ H xs zs → xs.mapM (lst? S) = some ls → Vals zs us →
    ∃ L : List (Addr × List Value), us = L.map (fun p => Value.ref p.1) ∧ (∀ p ∈ L, s.heap.IsList p.1 p.2.toArray) ∧ L.length = xs.length ∧ ∃ ws : List V, Vals ws (L.flatMap (·.2)) ∧ RVs μ H ls.flatten ws
  | [], _, ls, _, .nil, e, .nil => by
    simp at e
    subst e
    exact ⟨[], rfl, (fun _ h => by cases h), rfl, [], .nil, .nil⟩
  | x :: xs, _, ls, _, .cons h t, e, .cons r u => by
    rw [List.mapM_cons] at e
    obtain ⟨l1, e1, e⟩ := Option.bind_eq_some_iff.mp e
    obtain ⟨l2, e2, e⟩ := Option.bind_eq_some_iff.mp e
    cases e
    obtain ⟨L, g1, g2, g3, ws, g4, g5⟩ := lists_rel hK sm I t e2 u
    unfold lst? at e1
    split at e1
    · split at e1
      · rename_i i b l eo
        cases e1
        cases h with
        | @obj _ p hs =>
        obtain ⟨p', ys, k1, k2, k3⟩ := sm.lstR eo
        obtain rfl : p = p' := by rw [hs] at k1; exact Option.some.inj k1
        rw [hK] at k2
        obtain ⟨its, rv, pl, _⟩ := I.list k2
        obtain rfl : _ = Value.ref p := r
        refine ⟨(p, its) :: L, by rw [g1]; rfl, fun q hq => ?_, by simp [g3], ys ++ ws, ?_, ?_⟩
        · rcases List.mem_cons.mp hq with z | z
          · rw [z]; exact pl.isList
          · exact g2 q z
        · rw [List.flatMap_cons]
          exact rv.append g4
        · rw [List.flatten_cons]
          exact k3.app g5
      · cases e1
    · cases e1
theorem bi_suml (hc : X.calm = true) : CallR X (.builtin "sum") (StA X sumlV) := by
  intro pins s σ H xs us Q I r h
  obtain ⟨G, W, σ', μ, vs, S, hK, sm, rs, h⟩ := h
  unfold sumlV at h
  split at h
  · obtain ⟨x, y, rfl, r1, r2⟩ := rs.two_inv
    cases r1 with
    | @obj _ p1 h1 => cases r2 with
    | @obj _ p2 h2 =>
    split at h
    · rename_i l xs' ys eo eo2
      split at h
      · rename_i ls em
        split at h
        · rename_i hz
          obtain ⟨p1', zs, k1, k2, k3⟩ := sm.lstR eo
          obtain rfl : p1 = p1' := by rw [h1] at k1; exact Option.some.inj k1
          obtain ⟨p2', k4, ws2, k5, k6⟩ := sm.ob _ _ eo2
          obtain rfl : p2 = p2' := by rw [h2] at k4; exact Option.some.inj k4
          rw [hK] at k2
          obtain ⟨its, rv, pl, _⟩ := I.list k2
          obtain ⟨its2, rv2, pl2, _⟩ := I.list (SqL.of k5)
          obtain ⟨L, g1, g2, g3, ws, g4, g5⟩ := lists_rel hK sm I k3 em rv
          subst g1
          obtain ⟨u1, u2, rfl, q1, q2⟩ := vals2 r
          obtain rfl : u1 = Value.ref p1 := q1
          obtain rfl : u2 = Value.ref p2 := q2
          have l1 : its2.length = ys.length := by rw [← rv2.length, k6.length]
          have l2 : (L.flatMap (·.2)).length = ls.flatten.length := by rw [← g4.length, g5.length]
          rw [line_eq] at hz
          refine sum_lists (I.ok.hd hc) pl.isList pl2.isList g2 (by rw [l1, l2]; exact hz) fun h' tk T hk hT => ?_
          rcases hT with ⟨e1, e2⟩ | ⟨e1, e2, e3⟩
          · subst e2
            have : xs' = [] := by
              cases xs' with
              | nil => rfl
              | cons _ _ => rw [e1] at g3; cases g3
            subst this
            exact ⟨.ref T, H, I.kept hk, rfl, h.val sm (.obj h2)⟩
          · have : xs'.isEmpty = false := by
              cases xs' with
              | nil => exact absurd (List.length_eq_zero_iff.mp g3) e1
              | cons _ _ => rfl
            rw [this] at h
            have hn : H T = none := I.hok.fresh e2
            refine ⟨.ref T, upd H T (.lst (ws2 ++ ws)), I.laid (t' := tk) hk e2 ⟨?_, _, 0, rv2.append g4, e3⟩, rfl, h.lst sm (k6.app g5) hn⟩
            rw [List.length_append, ← k6.length, ← g5.length]
            exact hz
        · exact h.elim
      · exact h.elim
    · exact h.elim
  · exact h.elim
end
end Nw

set_option Elab.async false
set_option linter.all false
set_option maxRecDepth 100000
set_option maxHeartbeats 1000000
namespace Nw
open PySem L2

/-! what is seen of the text, by cases -/
def isStar : Expr → Bool
  | .Starred _ _ => true
  | _ => false
theorem star_cons {e : Expr} {es : List Expr} {env : PySem.Env} (h : isStar e = false) : starEach (e :: es) env = (false, eval e env) :: starEach es env := by
  cases e <;> first | rfl | cases h
theorem star_plain {pos : Pos} {env : PySem.Env} : ∀ {es : List Expr}, es.all (fun e => !isStar e) = true → (backTo pos (starEach es env)).any (·.1) = false ∧ (backTo pos (starEach es env)).all (fun x => !x.1) = true
  | [], _ => ⟨rfl, rfl⟩
  | e :: es, h => by
    simp only [List.all_cons, Bool.and_eq_true, Bool.not_eq_true'] at h
    obtain ⟨h1, h2⟩ := star_plain (pos := pos) (env := env) h.2
    rw [star_cons h.1]
    exact ⟨by show (false || _) = false; exact h1, by show (true && _) = true; exact h2⟩
def superish : Expr → Bool
  | .Call (.Name x _) [] [] _ => decide (x = ("super" : Str))
  | _ => false
theorem base_of {o : Expr} {m : Str} {env : PySem.Env} (h : superish o = false) : attributeBase o m env (eval o env) = eval o env := by
  unfold attributeBase
  split
  · rename_i x _ _
    have hx : (x != ("super" : Str)) = true := by
      have h : ¬ x = ("super" : Str) := by simpa [superish] using h
      simpa using h
    simp only [hx, Bool.true_or, if_true]
  · rfl
def compish : Expr → Bool
  | .ListComp .. => true
  | .SetComp .. => true
  | .DictComp .. => true
  | _ => false
theorem sw_of {e : Expr} {t : Option Expr} {l : Nat} {env : PySem.Env} (h : compish e = false) : swapsWith e t l env = pure false := by
  cases e <;> first | rfl | cases h
theorem sws_of {e t : Expr} {l : Nat} {env : PySem.Env} (h : compish e = false) : swapsWithSole [t] e l env = pure false := sw_of h
def tuplish : Expr → Bool
  | .Tuple .. => true
  | _ => false
def seqish : Expr → Bool
  | .Tuple .. => true
  | .List .. => true
  | .Starred .. => true
  | _ => false
theorem sst_t {e t : Expr} {env : PySem.Env} (h : seqish t = false) : swappedStores [t] e env = pure none := by
  cases t <;> first | rfl | cases h
theorem sst_v {e t : Expr} {env : PySem.Env} (h : tuplish e = false) : swappedStores [t] e env = pure none := by
  cases t <;> cases e <;> first | rfl | cases h
theorem asg_one {t : Expr} {env : PySem.Env} (h : isStar t = false) : (assignEach [t] env).map (·.2) = [assign t env] := by
  cases t <;> first | rfl | cases h
theorem asg_cons {t : Expr} {es : List Expr} {env : PySem.Env} (h : isStar t = false) : assignEach (t :: es) env = (false, assign t env) :: assignEach es env := by
  cases t <;> first | rfl | cases h
theorem asg_len {env : PySem.Env} : ∀ {es : List Expr}, es.all (fun e => !isStar e) = true → (assignEach es env).length = es.length ∧ (assignEach es env).findIdx? (·.1) = none
  | [], _ => ⟨rfl, rfl⟩
  | e :: es, h => by
    simp only [List.all_cons, Bool.and_eq_true, Bool.not_eq_true'] at h
    obtain ⟨h1, h2⟩ := asg_len (env := env) h.2
    rw [asg_cons h.1]
    refine ⟨by simp [h1], ?_⟩
    rw [List.findIdx?_cons]
    simp [h2]
def setish : Expr → Bool
  | .Set .. => true
  | _ => false
theorem fold_of {e : Expr} {env : PySem.Env} (h : setish e = false) : ∀ x, foldedSetIterable e env x = pure x := by
  intro x
  cases e <;> first | rfl | cases h
def slicish : Expr → Bool
  | .Slice .. => true
  | _ => false
theorem plainIx_of {e : Expr} (h : slicish e = false) : PlainIx e := by
  intro o i
  cases e <;> first | rfl | cases h
theorem sub_of {o i : Expr} {pos : Pos} {env : PySem.Env} (h : slicish i = false) : ∀ v, assign (.Subscript o i pos) env v = (do
      let ov ← holding [v] (eval o env)
      let iv ← holding [v, ov] (eval i env)
      standAt pos
      holding [v, ov, iv] (setItem ov iv v)
      release [v, ov, iv] []) := by
  intro v
  cases i <;> first | rfl | cases h
theorem few_of {pos : Pos} {env : PySem.Env} {es : List Expr} (h : es.all (fun e => !isStar e) = true) (hl : es.length < 30) : ((backTo pos (starEach es env)).all (fun x => !x.1) && (backToKw pos (keywordEach [] env)).all (fun x => x.1.isSome)
    && decide (es.length + ([] : List Keyword).length + (if ([] : List Keyword).isEmpty then 0 else 1) < 30)) = true := by
  rw [(star_plain h).2]
  simp [keywordEach, backToKw, hl]
theorem meth_ht {o : Expr} {m : Str} {apos pos : Pos} {es : List Expr} {env : PySem.Env} (hb : superish o = false) (h : es.all (fun e => !isStar e) = true) (hl : es.length < 30) (hp : (apos.endLine == pos.line) = true) : eval (.Call (.Attribute o m apos) es [] pos) env = (do
      let ov ← eval o env
      standAt apos.atName
      let (f, first) ← holding [ov] (getMethod ov m (do return (← importBound o env).getD true))
      callWith pos f first (backTo pos (starEach es env)) (backToKw pos (keywordEach [] env))) := by
  rw [PySem.arm_eval_Call, base_of hb]
  have hform : methodCallForm (es.length + ([] : List Keyword).length) (backTo pos (starEach es env)) (backToKw pos (keywordEach [] env)) = true := by
    unfold methodCallForm
    have := few_of (pos := pos) (env := env) h hl
    rw [(star_plain h).2]
    simp [keywordEach, backToKw, hl]
  have hpos : methodCallPos true o env apos pos = pure pos := by unfold methodCallPos; simp [hp]
  unfold methodCall
  rw [hform, hpos]
  simp only [calleeOf, if_true]
  congr 1
def testish : Expr → Bool
  | .UnaryOp .Not _ _ => true
  | .BoolOp .. => true
  | .IfExp .. => true
  | .Compare .. => true
  | _ => false
theorem true_of {e : Expr} {env : PySem.Env} (h : testish e = false) : ∀ whole, isTrue e env whole = (do let v ← whole; standAt e.pos; holding [v] (truthy v)) := by
  intro whole
  cases e with
  | UnaryOp op x p => cases op <;> first | rfl | cases h
  | _ => first | rfl | cases h
theorem pe_one {X : Cx} {op : PySem.BoolOp} {b : Expr} {pos : Pos} {t : TE} (h : PE X b t) : PE X (.BoolOp op [b] pos) t := ⟨fun pins s σ H Q I q => h.run pins s σ H Q I q⟩
end Nw

set_option Elab.async false
set_option linter.all false
set_option maxRecDepth 100000
set_option maxHeartbeats 4000000
namespace Nw
open PySem L2 PySem.Spec PyProof.Rows
/-! ## sorted(xs, key=lambda x: x[i]) -/
section
variable {α β : Type}
theorem insK_filter (p : Int × α) (c : Int) : ∀ l : List (Int × α), (insK p l).filter (fun q => q.1 == c) = (p :: l).filter fun q => q.1 == c
  | [] => rfl
  | q :: r => by
    unfold insK
    split
    · rfl
    · rename_i hn
      have hlt : q.1 < p.1 := by omega
      rw [List.filter_cons, insK_filter p c r]
      by_cases hp : p.1 = c
      · have hq : (q.1 == c) = false := by
          rw [beq_eq_false_iff_ne]; omega
        have hp' : (p.1 == c) = true := by simpa using hp
        simp [List.filter_cons, hq, hp']
      · have hp' : (p.1 == c) = false := by simpa using hp
        simp [List.filter_cons, hp']
theorem sortK_filter (c : Int) : ∀ l : List (Int × α), (sortK l).filter (fun q => q.1 == c) = l.filter fun q => q.1 == c
  | [] => rfl
  | p :: l => by
    show (insK p (sortK l)).filter _ = _
    rw [insK_filter, List.filter_cons, List.filter_cons, sortK_filter c l]
theorem mem_insK {p q : Int × α} : ∀ {l : List (Int × α)}, q ∈ insK p l ↔ q = p ∨ q ∈ l
  | [] => by simp [insK]
  | x :: r => by
    unfold insK
    split
    · simp
    · simp only [List.mem_cons, mem_insK (l := r)]
      constructor
      · rintro (h | h | h)
        · exact .inr (.inl h)
        · exact .inl h
        · exact .inr (.inr h)
      · rintro (h | h | h)
        · exact .inr (.inl h)
        · exact .inl h
        · exact .inr (.inr h)
theorem mem_sortK {q : Int × α} : ∀ {l : List (Int × α)}, q ∈ sortK l ↔ q ∈ l
  | [] => Iff.rfl
  | p :: l => by
    show q ∈ insK p (sortK l) ↔ _
    rw [mem_insK, mem_sortK (l := l), List.mem_cons]
theorem insK_sorted (p : Int × α) : ∀ {l : List (Int × α)}, l.Pairwise (fun a b => a.1 ≤ b.1) → (insK p l).Pairwise fun a b => a.1 ≤ b.1
  | [], _ => List.pairwise_singleton _ _
  | q :: r, h => by
    have h2 := List.pairwise_cons.mp h
    unfold insK
    split
    · rename_i hn
      refine List.pairwise_cons.mpr ⟨fun a ha => ?_, h⟩
      rcases List.mem_cons.mp ha with rfl | ha
      · exact hn
      · exact Int.le_trans hn (h2.1 a ha)
    · rename_i hn
      refine List.pairwise_cons.mpr ⟨fun a ha => ?_, insK_sorted p h2.2⟩
      rcases mem_insK.mp ha with rfl | ha
      · omega
      · exact h2.1 a ha
theorem sortK_sorted : ∀ l : List (Int × α), (sortK l).Pairwise fun a b => a.1 ≤ b.1
  | [] => .nil
  | p :: l => insK_sorted p (sortK_sorted l)
theorem sk_unique : ∀ (l m : List (Int × α)), l.Pairwise (fun a b => a.1 ≤ b.1) → m.Pairwise (fun a b => a.1 ≤ b.1) → (∀ c, l.filter (fun p => p.1 == c) = m.filter fun p => p.1 == c) → l = m
  | [], [], _, _, _ => rfl
  | [], q :: r, _, _, h => by
    have e := h q.1
    simp at e
  | p :: l, [], _, _, h => by
    have e := h p.1
    simp at e
  | p :: l, q :: r, hl, hm, h => by
    have hl2 := List.pairwise_cons.mp hl
    have hm2 := List.pairwise_cons.mp hm
    have hp : p ∈ q :: r := by
      have : p ∈ (q :: r).filter fun x => x.1 == p.1 := by
        rw [← h p.1]; simp
      exact (List.mem_filter.mp this).1
    have hq : q ∈ p :: l := by
      have : q ∈ (p :: l).filter fun x => x.1 == q.1 := by
        rw [h q.1]; simp
      exact (List.mem_filter.mp this).1
    have e1 : q.1 ≤ p.1 := by
      rcases List.mem_cons.mp hp with e | e
      · rw [e]; exact Int.le_refl _
      · exact hm2.1 p e
    have e2 : p.1 ≤ q.1 := by
      rcases List.mem_cons.mp hq with e | e
      · rw [e]; exact Int.le_refl _
      · exact hl2.1 q e
    have e3 : p.1 = q.1 := Int.le_antisymm e2 e1
    have e4 : p = q := by
      have e := h p.1
      rw [List.filter_cons, List.filter_cons, if_pos (by simp), if_pos (by simp [e3])] at e
      exact (List.cons.inj e).1
    subst e4
    congr 1
    refine sk_unique l r hl2.2 hm2.2 fun c => ?_
    have e := h c
    rw [List.filter_cons, List.filter_cons] at e
    split at e
    · exact (List.cons.inj e).2
    · exact e
theorem insK_map (g : α → β) (p : Int × α) : ∀ l : List (Int × α), insK (p.1, g p.2) (l.map fun q => (q.1, g q.2)) = (insK p l).map fun q => (q.1, g q.2)
  | [] => rfl
  | q :: r => by
    have ih := insK_map g p r
    simp only [insK, List.map_cons]
    split
    · rfl
    · rw [List.map_cons, ih]
theorem sortK_map (g : α → β) : ∀ l : List (Int × α), sortK (l.map fun q => (q.1, g q.2)) = (sortK l).map fun q => (q.1, g q.2)
  | [] => rfl
  | p :: l => by
    show insK (p.1, g p.2) (sortK (l.map fun q => (q.1, g q.2))) = (insK p (sortK l)).map _
    rw [sortK_map g l, insK_map]
theorem zip_mapR (g : α → β) : ∀ (ks : List Int) (l : List α), ks.zip (l.map g) = (ks.zip l).map fun q => (q.1, g q.2)
  | [], _ => rfl
  | _ :: _, [] => rfl
  | k :: ks, a :: l => by
    rw [List.map_cons, List.zip_cons_cons, List.zip_cons_cons, List.map_cons, zip_mapR g ks l]
theorem sortK_zip (g : α → β) (ks : List Int) (l : List α) : ((sortK (ks.zip (l.map g))).map (·.2)) = ((sortK (ks.zip l)).map (·.2)).map g := by
  rw [zip_mapR, sortK_map, List.map_map, List.map_map]
  rfl
theorem sortK_mem {ks : List Int} {l : List α} {a : α} (h : a ∈ (sortK (ks.zip l)).map (·.2)) : a ∈ l := by
  obtain ⟨p, hp, rfl⟩ := List.mem_map.mp h
  exact (List.of_mem_zip (mem_sortK.mp hp)).2
end
theorem rvs_pairs {μ : List Addr} {H : Hp} : ∀ {vs : List Val} {xs : List V}, RVs μ H vs xs → ∃ l : List (Val × V), vs = l.map (·.1) ∧ xs = l.map (·.2) ∧ ∀ p ∈ l, RV μ H p.1 p.2
  | [], _, h => by cases h; exact ⟨[], rfl, rfl, by simp⟩
  | v :: vs, _, h => by
    cases h with
    | cons h t =>
      rename_i x xs
      obtain ⟨l, e1, e2, e3⟩ := rvs_pairs t
      exact ⟨(v, x) :: l, by rw [List.map_cons, ← e1], by rw [List.map_cons, ← e2], fun p hp => by
        rcases List.mem_cons.mp hp with rfl | hp
        · exact h
        · exact e3 p hp⟩
theorem rvs_of_pairs {μ : List Addr} {H : Hp} : ∀ {l : List (Val × V)}, (∀ p ∈ l, RV μ H p.1 p.2) → RVs μ H (l.map (·.1)) (l.map (·.2))
  | [], _ => .nil
  | p :: l, h => .cons (h p List.mem_cons_self) (rvs_of_pairs fun q hq => h q (List.mem_cons_of_mem _ hq))
theorem vals_pairs : ∀ {xs : List V} {us : List Value}, Vals xs us → ∃ l : List (V × Value), xs = l.map (·.1) ∧ us = l.map (·.2) ∧ ∀ p ∈ l, RelV p.1 p.2
  | [], _, h => by cases h; exact ⟨[], rfl, rfl, by simp⟩
  | v :: vs, _, h => by
    cases h with
    | cons h t =>
      rename_i x xs
      obtain ⟨l, e1, e2, e3⟩ := vals_pairs t
      exact ⟨(v, x) :: l, by rw [List.map_cons, ← e1], by rw [List.map_cons, ← e2], fun p hp => by
        rcases List.mem_cons.mp hp with rfl | hp
        · exact h
        · exact e3 p hp⟩
theorem vals_of_pairs : ∀ {l : List (V × Value)}, (∀ p ∈ l, RelV p.1 p.2) → Vals (l.map (·.1)) (l.map (·.2))
  | [], _ => .nil
  | p :: l, h => .cons (h p List.mem_cons_self) (vals_of_pairs fun q hq => h q (List.mem_cons_of_mem _ hq))
/-- the sorted values are those of the sorted things -/
theorem rvs_sortK {μ : List Addr} {H : Hp} {vs : List Val} {xs : List V} (r : RVs μ H vs xs) (ks : List Int) : RVs μ H ((sortK (ks.zip vs)).map (·.2)) ((sortK (ks.zip xs)).map (·.2)) := by
  obtain ⟨l, rfl, rfl, h⟩ := rvs_pairs r
  rw [sortK_zip, sortK_zip]
  exact rvs_of_pairs fun p hp => h p (sortK_mem hp)
theorem vals_sortK {xs : List V} {us : List Value} (r : Vals xs us) (ks : List Int) : Vals ((sortK (ks.zip xs)).map (·.2)) ((sortK (ks.zip us)).map (·.2)) := by
  obtain ⟨l, rfl, rfl, h⟩ := vals_pairs r
  rw [sortK_zip, sortK_zip]
  exact vals_of_pairs fun p hp => h p (sortK_mem hp)

/-! ### the key's call -/
/-- the lambda's names: its parameter alone -/
structure LamK (scope : Scope) (y : Str) : Prop where
  kind : scope.kind = .function
  co : scope.isCoroutine = false
  gen : scope.isGenerator = false
  names : scope.names = [(y, .local)]
def lamKB (scope : Scope) (y : Str) : Bool := decide (scope.kind = .function) && !scope.isCoroutine && !scope.isGenerator && decide (scope.names = [(y, .local)])
theorem lamK_by {scope : Scope} {y : Str} (h : lamKB scope y = true) : LamK scope y := by
  unfold lamKB at h
  simp only [Bool.and_eq_true, Bool.not_eq_true', decide_eq_true_eq] at h
  exact ⟨h.1.1.1, h.1.1.2, h.1.2, h.2⟩
section
variable {prog : Program} {w : World} {A : Around} {E : Value → Shared → Prop} {s : Shared} {Q : Value → Shared → Prop}
theorem lamK_call {f c' a : Addr} {qual y : Str} {params : Arguments} {i : Int} {kd : Nat} {p1 p2 p3 : Pos} {scope : Scope} {pm ctv : Value} {oc : PySem.Obj} {vs : Array Value} {tq : Tok} {its : Array Value} {j : Nat} {k : Int} {t : Tok}
    (ho : s.heap.get? f = some (PySem.W.kla_obj "<lambda>" qual params (.Subscript (.Name y p1) (.Constant (.int i) kd p2) p3) scope [] pm c' ctv))
    (hc : s.heap.get? c' = some oc) (hd : oc.data = .fields vs) (hq : vs[1]? = some (.str qual tq))
    (hb : bindArgs (PySem.W.kla_fn "<lambda>" qual params (.Subscript (.Name y p1) (.Constant (.int i) kd p2) p3) scope [] pm (.ref c') ctv) ⟨[.ref a], []⟩ = pure [(y, .ref a)])
    (L : LamK scope y) (hn : (y == ("__debug__" : Str)) = false) (ht : IsTup s.heap a its) (hlo : -(2 ^ 63) ≤ i) (hhi : i < 2 ^ 63) (hj : seqIndex? i its.size = some j) (hx : its[j]? = some (.int k t))
    (lim : s.heap.NoLimit) (hr : A.depth < recursionLimit)
    (h : ∀ h' tk, (∀ b o, s.heap.get? b = some o → h'.get? b = some o) → Q (.int k t) { s with heap := h', toks := tk }) :
    wpAny (model prog w) A (call (.ref f) [.ref a]) Q E s := by
  refine wpAny_call (codeAny_mono (R := fun r s' => ∃ v, r = .ok (.ret v) ∧ Q v s') ?_ fun r s' ⟨v, e, q⟩ => by rw [e]; exact q)
  refine PySem.W.kla_callFunE hr ho rfl L.co L.gen rfl ⟨c', oc, vs, tq, rfl, hc, hd, hq⟩ ?_
  rw [hb]
  refine wpAny_pure (wpAny_newFunctionEnv (fun x hx => by rw [L.names] at hx; simp at hx; rw [hx]; intro z; cases z) (fun x hx => by simp at hx; rw [hx, L.names]; simp) (fun h₁ hns hsb => ⟨lim.fresh _ hsb, ?_⟩) L.kind)
  have kp : ∀ b o, s.heap.get? b = some o → h₁.get? b = some o := fun b o e => hsb.extBut b o (Nat.ne_of_lt (Heap.lt_size e)) (Heap.get?_push_of_some _ e)
  show codeAny _ _ (.expr _ (PySem.W.envX qual scope s.heap.objs.size f (.ref c') [])) _ _
  refine PySem.W.kla_codeExpr ?_
  refine Subscript_ (wpAny_Name (wpAny_loadName_local (m := fun x => [(y, Value.ref a)].reverse.lookup x) (v := .ref a) L.kind (by show scope.names.lookup y = _; rw [L.names]; simp) hns (by simp) ?_) hn)
  refine wpAny_Constant_int ?_
  refine subscriptTail_builtinR (T := "tuple") (id := "tuple.__getitem__") (x := .int k t) (ht.keeps kp).typeIs slot_tuple_getitem.lookup (getItem_tuple (j := j) (ht.keeps kp) hlo hhi hj hx ⟨rfl, ?_⟩) rfl
  exact ⟨_, rfl, h h₁ _ kp⟩
end
/-! ### the heap but for one frame's dict -/
def allObjs (h : Heap) (L : Addr) : List (Addr × PySem.Obj) := (List.range h.objs.size).filterMap fun b => if b = L then none else (h.get? b).map fun o => (b, o)
theorem mem_allObjs {h : Heap} {L b : Addr} {o : PySem.Obj} (e : h.get? b = some o) (n : b ≠ L) : (b, o) ∈ allObjs h L :=
  List.mem_filterMap.mpr ⟨b, List.mem_range.mpr (Heap.lt_size e), by rw [if_neg n, e]; rfl⟩
theorem of_allObjs {h : Heap} {L : Addr} {p : Addr × PySem.Obj} (hp : p ∈ allObjs h L) : h.get? p.1 = some p.2 ∧ p.1 ≠ L := by
  obtain ⟨b, _, e⟩ := List.mem_filterMap.mp hp
  by_cases n : b = L
  · rw [if_pos n] at e; cases e
  · rw [if_neg n] at e
    cases e2 : h.get? b with
    | none => rw [e2] at e; cases e
    | some o => rw [e2] at e; cases e; exact ⟨e2, n⟩
theorem objOk_there {P : Program} {w : World} {H : Hp} {h : Heap} {a : Addr} {o : HO} (x : ObjOk P w H h a o) : ∃ u, h.get? a = some u := by
  cases o with
  | lst xs => obtain ⟨_, _, _, _, e⟩ := x; exact ⟨_, e⟩
  | tup xs => obtain ⟨_, _, _, p⟩ := x; obtain ⟨_, e, _⟩ := p; exact ⟨_, e⟩
  | dK kvs => obtain ⟨_, _, _, _, o, _, _, e, _⟩ := x; exact ⟨_, e⟩
  | dT kvs => obtain ⟨_, _, _, _, o, _, _, e, _⟩ := x; exact ⟨_, e⟩
  | set S n => obtain ⟨o, _, _, _, e, _⟩ := x; exact ⟨_, e⟩
  | ins C dx fs => obtain ⟨_, _, _, e, _⟩ := x; exact ⟨_, e⟩
  | own y => obtain ⟨_, e⟩ := x; exact ⟨_, e⟩
  | xd fs => obtain ⟨_, ⟨_, _, _, e, _⟩, _⟩ := x; exact ⟨_, e⟩
  | rng lo hi => obtain ⟨_, _, _, e⟩ := x; exact ⟨_, e⟩
  | frz ob u => obtain ⟨e, _⟩ := x; exact ⟨_, e⟩
  | tbl ps => exact ⟨_, (show h.get? a = some _ from x)⟩
  | met f y => exact ⟨_, (show h.get? a = some _ from x)⟩
  | ext φ => obtain ⟨_, ⟨_, e⟩, _⟩ := x; exact ⟨_, e⟩
section
variable {X : Cx} {pins : List (Addr × PySem.Obj)} {σ : L2.St} {H : Hp} {s : Shared}
/-- a new list, all else is kept (but the frame's dict is another one of the same names) -/
theorem inv_newLst {h' : Heap} {tk : Nat} {D : Addr} {zs : List V} {its : List Value} {n : Nat} (I : L2.Inv X pins σ H s) (k : ∀ b o, b ≠ X.env.locals → s.heap.get? b = some o → h'.get? b = some o) (ns : ∀ m, s.heap.Ns X.env.locals m → h'.Ns X.env.locals m)
    (hD : s.heap.get? D = none) (nD : D ≠ X.env.locals) (hz : zs.length ≤ sizeLine) (r : Vals zs its) (hi : h'.get? D = some { cls := .type "list", data := .seq its.toArray n }) :
    H D = none ∧ L2.Inv X pins σ (upd H D (.lst zs)) { s with heap := h', toks := tk } := by
  have nH : H D = none := by
    cases e : H D with
    | none => rfl
    | some u =>
      obtain ⟨o, q⟩ := objOk_there (I.hok D u e)
      rw [hD] at q; cases q
  refine ⟨nH, ?_⟩
  have nb : ∀ b o, s.heap.get? b = some o → b ≠ D := fun b o e z => by rw [z, hD] at e; cases e
  have nu : ∀ b u, H b = some u → b ≠ D := fun b u e => ne_of_none e nH
  have nL : ∀ b u, H b = some u → b ≠ X.env.locals := fun b u e => ne_of_none e I.free
  refine I.step (g' := s.gens) (d' := s.drawn) (ch := []) (fun b hb => absurd hb (by simp)) (fun b o h1 _ _ e _ => k b o h1 e) (fun b o h1 _ _ e _ => ⟨o.slots, k b o h1 e⟩)
    (fun b o _ e n => by rw [upd_ne (nb b o e)]; exact n) (fun b o _ e => ?_) (fun b xs e => by rw [upd_ne (nu b _ e)]; exact e) (fun b o u e => by rw [upd_ne (nu b _ e)]; exact e) (fun b qs e => ⟨#[], by rw [upd_ne (nu b _ e), e]; simp⟩) ns (fun b u e => ?_) I.bare
  · by_cases hb : b = X.env.locals
    · obtain ⟨m, hn, _⟩ := I.loc
      obtain ⟨o', _, _, e', _⟩ := ns m hn
      exact ⟨o', by rw [hb]; exact e'⟩
    · exact ⟨o, k b o hb e⟩
  · by_cases hb : b = D
    · subst hb
      rw [upd_same] at e
      cases e
      exact ⟨hz, its, n, r, hi⟩
    · rw [upd_ne hb] at e
      refine (I.hok b u e).stay (fun d v hd q => k d v ?_ q) (fun d q => by rw [upd_ne (nu d _ q)]; exact q) fun d xs q => by rw [upd_ne (nu d _ q)]; exact q
      rcases hd with z | z
      · rw [z]; exact nL b u e
      · exact nL d _ z
/-- sorted(l, key=f), f a lambda x: x[i] -/
theorem sortK_run {f c' p : Addr} {qual y : Str} {params : Arguments} {i : Int} {kd : Nat} {p1 p2 p3 : Pos} {scope : Scope} {pm ctv : Value} {oc : PySem.Obj} {vs : Array Value} {tq : Tok} {ks : List Int} {ys : List V} {Q : VK}
    (I : L2.Inv X pins σ H s)
    (ho : s.heap.get? f = some (PySem.W.kla_obj "<lambda>" qual params (.Subscript (.Name y p1) (.Constant (.int i) kd p2) p3) scope [] pm c' ctv))
    (hc : s.heap.get? c' = some oc) (hd : oc.data = .fields vs) (hq : vs[1]? = some (.str qual tq))
    (hb : ∀ a : Addr, bindArgs (PySem.W.kla_fn "<lambda>" qual params (.Subscript (.Name y p1) (.Constant (.int i) kd p2) p3) scope [] pm (.ref c') ctv) ⟨[.ref a], []⟩ = pure [(y, .ref a)])
    (L : LamK scope y) (hn : (y == ("__debug__" : Str)) = false) (hlo : -(2 ^ 63) ≤ i) (hhi : i < 2 ^ 63)
    (hl : SqL X.K H p ys) (hlen : ks.length = ys.length) (hkey : ∀ (j : Nat) (v : V) (k : Int), ys[j]? = some v → ks[j]? = some k → ∃ a xs, v = .ref a ∧ SqT X.K H a xs ∧ atI xs i = some (.int k))
    (hr : X.A.in1.in1.depth < recursionLimit)
    (h : ∀ D, H D = none → Q (.ref D) (upd H D (.lst ((sortK (ks.zip ys)).map (·.2))))) :
    wpAny (model X.prog X.w) X.A (call (.builtin "sorted") [.ref p] [(Str.ofString "key", .ref f)]) (EP X pins σ Q) X.xe s := by
  obtain ⟨us, rv, il, hz⟩ := I.list hl
  obtain ⟨m, hns, _⟩ := I.loc
  obtain ⟨oL, esL, epL, hoL, hdL, _⟩ := id hns
  have nL : ∀ b o, s.heap.get? b = some o → (∀ es ep, o.data ≠ .dict es ep) → b ≠ X.env.locals := fun b o e n z => by
    rw [z, hoL] at e
    cases e
    exact n _ _ hdL
  have F : Fr ({ objs := #[] } : Heap) X.env.locals s.heap m := ⟨hns, fun b o e => by have := Heap.lt_size e; simp at this, Nat.zero_le _⟩
  have none0 : ∀ b : Addr, ({ objs := #[] } : Heap).get? b = none := fun b => Heap.get?_none_of_le (Nat.zero_le _)
  have N : News ({ objs := #[] } : Heap) X.env.locals s.heap (allObjs s.heap X.env.locals) := fun q hq => ⟨(of_allObjs hq).1, (of_allObjs hq).2, none0 _⟩
  have lim : s.heap.NoLimit := I.nolimit
  obtain ⟨mc, hl1, hl2⟩ := id lim
  have hul := rv.length
  refine ksk_sortedSt (kz := ks) (b := false) F N il.isList (by omega) (by omega) (ksk_s1 _ _) (fun x => ksk_l1 _ _) (fun x => ksk_t1 _ _) (fun j v k hv hk h1 tk own F1 N1 => ?_) fun D h' tk out c F' N' hD ko => ?_
  · -- the key's call
    obtain ⟨x, ex, rx⟩ : ∃ x, ys[j]? = some x ∧ RelV x v := by
      obtain ⟨l, e1, e2, e3⟩ := vals_pairs rv
      rw [e2, List.getElem?_map] at hv
      cases el : l[j]? with
      | none => rw [el] at hv; cases hv
      | some q =>
        rw [el] at hv
        cases hv
        exact ⟨q.1, by rw [e1, List.getElem?_map, el]; rfl, e3 q (List.mem_of_getElem? el)⟩
    obtain ⟨a, xs, rfl, ht, hat⟩ := hkey j x k ex hk
    cases rx
    obtain ⟨its, r2, pl, hz2⟩ := I.tuple ht
    obtain ⟨j2, g1, g2, g3, g4, g5⟩ := atI_get hat
    obtain ⟨u, eu, ru⟩ := r2.get g2
    obtain ⟨t, rfl⟩ := ru
    have get1 : ∀ b o, s.heap.get? b = some o → (∀ es ep, o.data ≠ .dict es ep) → h1.get? b = some o := fun b o e n => (N1 (b, o) (List.mem_append_left _ (mem_allObjs e (nL b o e n)))).1
    have hl2' := r2.length
    have tup1 : IsTup h1 a its.toArray := by
      obtain ⟨ot, e1, e2, n, e3⟩ := pl
      exact ⟨ot, get1 _ _ e1 (fun es ep z => by rw [e3] at z; cases z), e2, n, e3⟩
    have lim1 : h1.NoLimit := I.ok.mod.nolimit.keeps fun b o e => by
      have e2 := I.bk b o e
      exact (N1 (b, o) (List.mem_append_left _ (mem_allObjs e2 (Nat.ne_of_lt (Nat.lt_of_lt_of_le (Nat.lt_of_lt_of_le (Heap.lt_size e) I.ok.bsz) I.ok.above))))).1
    refine lamK_call (s := { s with heap := h1, toks := tk }) (get1 _ _ ho fun es ep z => by cases z) (get1 _ _ hc fun es ep z => by rw [hd] at z; cases z) hd hq (hb a) L hn tup1 hlo hhi (j := j2) (by rw [List.size_toArray, ← hl2']; exact g1) (by simpa using eu) lim1 hr fun h2 tk2 k2 => ?_
    refine KskEnd.intro (news' := allObjs s.heap X.env.locals ++ own) ⟨?_, fun b o e => (by rw [none0] at e; cases e), Nat.zero_le _⟩ (fun q hq => ⟨k2 _ _ (N1 q hq).1, (N1 q hq).2⟩) fun q hq => hq
    obtain ⟨o, es, ep, e1, e2⟩ := F1.ns
    exact ⟨o, es, ep, k2 _ _ e1, e2⟩
  · -- the new list
    obtain ⟨ps, pm, eo, po, pf⟩ := ko
    have ep : ps = sortK (ks.zip us) := by
      refine sk_unique _ _ ?_ (sortK_sorted _) fun c => by rw [sortK_filter]; exact pf c
      exact po.imp fun z => by simpa using z
    have hDn := N' (D, seqObj "list" out c) (.head _)
    have hD0 : s.heap.get? D = none := by
      cases e : s.heap.get? D with
      | none => rfl
      | some o => exact absurd (hD _ (mem_allObjs e hDn.2.1)) (Nat.lt_irrefl _)
    have eo2 : out.toList = (sortK (ks.zip us)).map (·.2) := by rw [eo, ep]
    have rz := vals_sortK rv ks
    rw [← eo2] at rz
    have lz : ((sortK (ks.zip ys)).map (·.2)).length ≤ sizeLine := by
      rw [rz.length, eo, List.length_map, pm.length_eq, List.length_zip]
      omega
    obtain ⟨nH, I2⟩ := inv_newLst (tk := tk) I (h' := h') (fun b o hb e => (N' (b, o) (List.mem_cons_of_mem _ (mem_allObjs e hb))).1) (fun m' hm' => by
      have e1 : m' = m := funext fun x => hm'.agree hns x
      rw [e1]; exact F'.ns) hD0 hDn.2.1 lz (its := out.toList) (n := c) rz (by rw [Array.toArray_toList]; exact hDn.1)
    exact ⟨.ref D, _, I2, rfl, h D nH⟩
end
/-- what is known of the text's def for a lambda to be made: its code object, its table -/
structure LamF (X : Cx) (T : List (Addr × Str)) : Prop where
  ex : ∃ c P, X.env.code = .ref c ∧ LamX.TabB X.base X.mg c P ∧ (P, X.env.qual ++ "<lambda>") ∈ T ∧ ∀ p ∈ T, p.1 = P → p.2 = X.env.qual ++ "<lambda>"
/-- how a lambda of one parameter binds -/
def Bind1 (params : Arguments) (body : Expr) (scope : Scope) (y : Str) : Prop := ∀ (q : Str) (pm cv ctv v : Value), bindArgs (PySem.W.kla_fn "<lambda>" q params body scope [] pm cv ctv) ⟨[v], []⟩ = pure [(y, v)]
theorem bind1_of {y : Str} {ps : Pos} {body : Expr} {scope : Scope} : Bind1 ⟨[], [⟨y, none, ps⟩], none, [], [], none, []⟩ body scope y := fun q pm cv ctv v => by
  have e : seqItems? Value.none = pure none := rfl
  simp [bindArgs, e]
section
variable {G : Cfg} {W : WX} {X : Cx} {G' : Tab} {ft : Fns} {pe : PyE} {T : List (Addr × Str)}
theorem key_some {S : Store} {i : Nat} {v : Val} {k : Int} (h : keyAt i v = some k) : ∃ xs, v = .tup xs ∧ xs[i]? = some (.int k) := by
  unfold keyAt at h
  split at h
  · rename_i xs
    split at h
    · rename_i n e
      cases h
      exact ⟨xs, rfl, e⟩
    · cases h
  · cases h
theorem keys_get : ∀ {xs : List Val} {ks : List Int} {i : Nat}, xs.mapM (keyAt i) = some ks → ks.length = xs.length ∧ ∀ (j : Nat) (v : Val) (k : Int), xs[j]? = some v → ks[j]? = some k → keyAt i v = some k
  | [], ks, i, h => by simp at h; subst h; exact ⟨rfl, fun j v k e => by simp at e⟩
  | x :: xs, ks, i, h => by
    rw [List.mapM_cons] at h
    cases e1 : keyAt i x with
    | none => rw [e1] at h; simp at h
    | some k0 =>
      cases e2 : xs.mapM (keyAt i) with
      | none => rw [e1, e2] at h; simp at h
      | some kr =>
        rw [e1, e2] at h; simp at h; subst h
        obtain ⟨h1, h2⟩ := keys_get e2
        refine ⟨by simp [h1], fun j v k ev ek => ?_⟩
        cases j with
        | zero => simp at ev ek; subst ev ek; exact e1
        | succ j => exact h2 j v k (by simpa using ev) (by simpa using ek)
theorem de_sortK {y : Str} {e : Expr} {params : Arguments} {i : Nat} {kd : Nat} {p1 p2 p3 lpos kpos p pos : Pos} {scope : Scope}
    (hK : G.K = X.K) (he : PE X e (lift G W (ev G' ft pe))) (hg : Gl X "sorted") (hm : X.mg "sorted" = none) (F : LamF X G.tb) (L : LamK scope y) (hn : (y == ("__debug__" : Str)) = false)
    (hdef : defaultsOf params X.env = ([], [])) (hb : Bind1 params (.Subscript (.Name y p1) (.Constant (.int i) kd p2) p3) scope y) (hi : i < 1000) (hr : X.A.depth < recursionLimit)
    (hst : starEach [e] X.env = (false, eval e X.env) :: starEach [] X.env) :
    PE X (.Call (.Name "sorted" p) [e] [⟨some "key", .Lambda params (.Subscript (.Name y p1) (.Constant (.int i) kd p2) p3) scope lpos, kpos⟩] pos) (lift G W (ev G' ft (.sortK pe i))) := by
  refine ⟨fun pins s σ H Q I h => ?_⟩
  obtain ⟨μ, env, S, sm, re, h⟩ := h
  simp only [ev] at h
  refine wpAny_Call_Name_kw (ld_blt I hg hm (u := .builtin "sorted") (by rfl) ?_ (by decide) (by decide))
  have hbt : backTo pos (starEach [e] X.env) = (false, eval e X.env) :: backTo pos (starEach [] X.env) := by rw [hst]; rfl
  refine PyProof.Rows.callWith_kw (rest := []) ?_ hbt (by rw [hbt]; rfl) rfl rfl
  rw [hbt]
  refine Calls.spliced_cons (thn (he.run pins s σ H (fun x H1 => ∃ μ1 S1 v, Sim G μ1 S1 H1 ∧ RV μ1 H1 v x ∧ After G W σ μ1 H1 (sortKV i v S1) (Kv Q)) I ⟨μ, env, S, sm, re, h.bind.imp fun v μ1 S1 H1 _ _ s1 q x rx => ⟨μ1, S1, v, s1, rx, q⟩⟩) fun u s1 ⟨x, H1, I1, r1, μ1, S1, v, sm1, rv, q1⟩ => Calls.spliced_nil ?_)
  obtain ⟨c, P, f1, f2, f3, f4⟩ := F.ex
  show wpAny _ _ (evalAll [do let v ← eval (.Lambda params (.Subscript (.Name y p1) (.Constant (.int i) kd p2) p3) scope lpos) X.env; standAt pos; pure v]) _ _ _
  have nofree : ∀ z ∈ scope.names, z.2 ≠ .free := fun z hz => by rw [L.names] at hz; simp at hz; rw [hz]; intro e; cases e
  have clo : cloFrom X.env.cells scope.names [] = [] := by rw [L.names]; rfl
  refine wpAny_evalAll_cons (wpAny_bind (LamX.lam_make2 I1 f2 f1 f3 f4 sm1.tabs hdef (fun z hz e => absurd e (nofree z hz)) fun f c' pm ctv H2 s2 I2 ex2 tb2 hf nf _ hc' => wpAny_bind (wpAny_standAt (wpAny_pure (wpAny_evalAll_nil ?_)))))
  rw [clo] at hf
  show wpAny _ _ (call (.builtin "sorted") [u] [(Str.ofString "key", .ref f)]) _ _ _
  obtain ⟨sm2, k2⟩ := sm1.tabd ex2 tb2
  have q2 := q1.later (Up.refl _) k2
  have rv2 := rv.mono (Up.refl _) k2
  obtain ⟨⟨oc, vs, t, g1, g2, g3⟩, _, _⟩ := I2.hok c' _ hc'
  unfold sortKV at q2
  split at q2
  · rename_i j
    split at q2
    · rename_i l xs eo
      split at q2
      · rename_i ks ek
        obtain ⟨a, ys, h1, h2, h3⟩ := sm2.lstR eo
        cases rv2 with
        | obj ha =>
        rw [h1] at ha; cases ha
        cases r1
        obtain ⟨kl, kg⟩ := keys_get ek
        have hl := h3.length
        refine sortK_run (i := (i : Int)) (ks := ks) I2 hf g1 g2 g3 (fun a => hb _ _ _ _ _) L hn (by omega) (by omega) (by rw [← hK]; exact h2) (by omega) (fun j2 v2 k2 e1 e2 => ?_) (by exact hr) fun D hD => ?_
        · have hj : j2 < xs.length := by rw [hl]; exact (List.getElem?_eq_some_iff.mp e1).1
          obtain ⟨xs2, ex2, ek2⟩ := key_some (S := S1) (kg j2 xs[j2] k2 (List.getElem?_eq_getElem hj) e2)
          obtain ⟨v3, e3, r3⟩ := h3.get (List.getElem?_eq_getElem hj)
          rw [e1] at e3; cases e3
          rw [ex2] at r3
          cases r3 with
          | tup t1 t2 =>
          rename_i a2 ys2
          obtain ⟨v4, e4, r4⟩ := t2.get ek2
          cases r4
          exact ⟨a2, ys2, rfl, SqT.of t1, atI_nat e4⟩
        · exact q2.lst sm2 (rvs_sortK h3 ks) hD
      · exact q2.elim
    · exact q2.elim
  · exact q2.elim
end
end Nw

set_option Elab.async false
set_option linter.all false
set_option maxRecDepth 100000
set_option maxHeartbeats 2000000
namespace Nw
open PySem L2

/-- what is known of the names: the frame's names, its scope, whose cells are its own -/
structure Kx where
  N : List Str
  sc : Scope
  fnB : Str → Bool
  hot : Bool := false
  lam : Bool := false
  kn : Bool := false
def Kx.lk (kx : Kx) (x : Str) : Option NameKind := kx.sc.names.lookup x
def Kx.vis (kx : Kx) (x : Str) : Bool := match kx.lk x with
  | some .local => true
  | some .cell => true
  | some .free => true
  | _ => false
def Kx.gl (kx : Kx) (x : Str) : Bool := match kx.lk x with
  | some .globalImplicit => !(x == ("__debug__" : Str))
  | _ => false
def Kx.loc (kx : Kx) (x : Str) : Bool := match kx.lk x with
  | some .local => true
  | some .cell => kx.fnB x
  | _ => false
def Kx.isLoc (kx : Kx) (x : Str) : Bool := match kx.lk x with
  | some .local => true
  | _ => false
def Kx.isCell (kx : Kx) (x : Str) : Bool := match kx.lk x with
  | some .cell => true
  | _ => false
def hotC (k : ItK) (as : PyE) (tp : Bool) : Bool := !tp && (match k, as with
  | .range, .cons _ .nil => true
  | _, _ => false)
def Kx.blk (kx : Kx) (scope : Scope) : Kx := { N := kx.N, sc := relS scope kx.sc, fnB := fun x => scope.names.lookup x == some .cell, hot := kx.hot, kn := kx.kn }
/-- the law's tables -/
structure Tb where
  NM : List Str
  fns : List (Str × Nat)
  cls : List (Str × (Nat × Nat))
  dss : List (Nat × List Val)
  bl : List Str
  cst : List (Str × List Str)
  mts : List (Nat × Nat)
  cn : List Nat
  exs : List (Str × Nat)
  exr : List Nat
  gc : List (Str × Val)
  cfn : List ((Str × Str) × Nat)
  isc : List (Str × Nat)
  xis : List (Str × Nat)
  hfn : List (Str × Nat)
  xrs : List Nat

def posOk (x : Str) : Bool := !(x == ("__debug__" : Str)) && !(x == ("__classdict__" : Str))
def cE (v : Val) : Expr → Bool
  | .Constant .none _ _ => (match v with | .non => true | _ => false)
  | .Constant (.bool b) _ _ => (match v with | .bl c => b == c | _ => false)
  | .Constant (.int b) _ _ => (match v with | .int c => b == c | _ => false)
  | .Constant (.str b) _ _ => (match v with | .str c => decide (b = c) && sOk c | _ => false)
  | _ => false
def varE (kx : Kx) (i : Nat) : Expr → Bool
  | .Name x _ => decide (kx.N[i]? = some x) && kx.vis x && posOk x
  | _ => false
def nostar (es : List Expr) : Bool := es.all fun e => !isStar e
def biN (b : Bi) (x : Str) (n : Nat) : Bool := match b with
  | .len => decide (x = ("len" : Str)) && n == 1
  | .int_ => decide (x = ("int" : Str)) && n == 1
  | .str_ => decide (x = ("str" : Str)) && n == 1
  | .tuple_ => decide (x = ("tuple" : Str)) && n == 1
  | .list_ => decide (x = ("list" : Str)) && n == 1
  | .sorted_ => decide (x = ("sorted" : Str)) && n == 1
  | .sum_ => decide (x = ("sum" : Str)) && n == 1
  | .all_ => decide (x = ("all" : Str)) && n == 1
  | .min1 => decide (x = ("min" : Str)) && n == 1
  | .min2 => decide (x = ("min" : Str)) && n == 2
  | .max2 => decide (x = ("max" : Str)) && n == 2
  | .sset => false
  | .suml => false
  | .isi _ => false
def bmN (m : Bm) (x : Str) (n : Nat) : Bool := match m with
  | .append => decide (x = ("append" : Str)) && n == 1
  | .extend => decide (x = ("extend" : Str)) && n == 1
  | .pop0 => decide (x = ("pop" : Str)) && n == 0
  | .popL => decide (x = ("pop" : Str)) && n == 1
  | .clear => decide (x = ("clear" : Str)) && n == 0
  | .reverse => decide (x = ("reverse" : Str)) && n == 0
  | .index => decide (x = ("index" : Str)) && n == 1
  | .count => decide (x = ("count" : Str)) && n == 1
  | .remove => decide (x = ("remove" : Str)) && n == 1
  | .startswith => decide (x = ("startswith" : Str)) && n == 1
  | .join => decide (x = ("join" : Str)) && n == 1
  | .split => decide (x = ("split" : Str)) && n == 1
  | .lower => decide (x = ("lower" : Str)) && n == 0
  | .isalpha => decide (x = ("isalpha" : Str)) && n == 0
  | _ => false
def namesT : List Expr → List Nat → Kx → Bool
  | [], [], _ => true
  | .Name x _ :: es, i :: is, kx => decide (kx.N[i]? = some x) && kx.loc x && namesT es is kx
  | _, _, _ => false
def tgtB (kx : Kx) (tp : Bool) (is : List Nat) (e : Expr) : Bool := match tp, is, e with
  | false, [i], .Name x _ => decide (kx.N[i]? = some x) && kx.loc x
  | true, is, .Tuple es _ _ => namesT es is kx
  | _, _, _ => false
def ownOf (N : List Str) (is : List Nat) : List (Str × Nat) := is.filterMap fun i => N[i]?.map fun x => (x, i)
def isTup : Expr → Bool
  | .Tuple .. => true
  | _ => false
def biCool : Bi → Bool
  | .list_ => false
  | .sorted_ => false
  | .sum_ => false
  | .all_ => false
  | .min1 => false
  | .min2 => false
  | .max2 => false
  | .sset => false
  | .suml => false
  | _ => true
def noneE : Expr → Bool
  | .Constant .none _ _ => true
  | _ => false
def isEmp {α : Type} : List α → Bool
  | [] => true
  | _ => false

/-- what a set is made of -/
def setArg : List Expr → List Expr
  | [.Call (.Name _ _) [e] [] _] => [e]
  | _ => []
def biArgs (b : Bi) (es : List Expr) : List Expr := match b with
  | .isi _ => es.take 1
  | .sset => setArg es
  | .suml => es
  | .len => es
  | .int_ => es
  | .str_ => es
  | .tuple_ => es
  | .list_ => es
  | .sorted_ => es
  | .sum_ => es
  | .all_ => es
  | .min1 => es
  | .min2 => es
  | .max2 => es
def setB (Z : Tb) (kx : Kx) (x : Str) : List Expr → Bool
  | [.Call (.Name y _) [e] [] _] => !isStar e && decide (x = ("sorted" : Str)) && decide (y = ("set" : Str)) && kx.gl y && Z.bl.contains y
  | _ => false
def isiB (Z : Tb) (kx : Kx) (t : Ty) (x : Str) : List Expr → Bool
  | [_, .Name y _] => decide (x = ("isinstance" : Str)) && kx.gl y && Z.bl.contains y && decide (y = (tyN t : Str))
  | _ => false
def sumlB (x : Str) : List Expr → Bool
  | [_, .List [] _] => decide (x = ("sum" : Str))
  | _ => false
def biB (Z : Tb) (kx : Kx) (b : Bi) (x : Str) (es : List Expr) : Bool := match b with
  | .isi t => isiB Z kx t x es
  | .sset => setB Z kx x es
  | .suml => sumlB x es
  | .len => biN .len x es.length
  | .int_ => biN .int_ x es.length
  | .str_ => biN .str_ x es.length
  | .tuple_ => biN .tuple_ x es.length
  | .list_ => biN .list_ x es.length
  | .sorted_ => biN .sorted_ x es.length
  | .sum_ => biN .sum_ x es.length
  | .all_ => biN .all_ x es.length
  | .min1 => biN .min1 x es.length
  | .min2 => biN .min2 x es.length
  | .max2 => biN .max2 x es.length
def dEq : Val → Val → Bool
  | .non, .non => true
  | .bl a, .bl b => a == b
  | .int a, .int b => a == b
  | .str a, .str b => decide (a = b)
  | _, _ => false
def dsEq : List Val → List Val → Bool
  | [], [] => true
  | a :: as, b :: bs => dEq a b && dsEq as bs
  | _, _ => false
theorem dEq_eq {a b : Val} (h : dEq a b = true) : a = b := by
  cases a <;> cases b <;> simp [dEq] at h <;> first | rfl | (subst h; rfl)
theorem dsEq_eq : ∀ {a b : List Val}, dsEq a b = true → a = b
  | [], [], _ => rfl
  | a :: as, b :: bs, h => by
    simp only [dsEq, Bool.and_eq_true] at h
    rw [dEq_eq h.1, dsEq_eq h.2]
  | [], _ :: _, h => by cases h
  | _ :: _, [], h => by cases h
/-- the defaults that a call fills up with -/
def dsOk (Z : Tb) (f : Nat) (ds : List Val) : Bool := isEmp ds || Z.dss.any fun p => p.1 == f && dsEq p.2 ds
/-- a global constant -/
def gcB (Z : Tb) (kx : Kx) (v : Val) : Expr → Bool
  | .Name x _ => kx.gl x && (match Z.gc.lookup x with | some u => dEq u v | none => false)
  | _ => false
/-- names of exceptions' classes, one by one -/
def xisB (gl : Str → Bool) (t : List (Str × Nat)) : List Expr → List Nat → Bool
  | .Name y _ :: es, j :: js => gl y && decide (t.lookup y = some j) && xisB gl t es js
  | [], [] => true
  | _, _ => false
mutual
def okE (Z : Tb) (T : Tab) : Kx → PyE → Expr → Bool
  | kx, .c v, e => cE v e || gcB Z kx v e
  | kx, .var i, e => varE kx i e
  | kx, .bin o a b, e => match e with
    | .BinOp l op r _ => decide (op = opPy o) && okE Z T kx a l && okE Z T kx b r
    | _ => false
  | kx, .neg a, e => match e with
    | .UnaryOp .USub x _ => okE Z T kx a x
    | _ => false
  | kx, .cmp o a b, e => match e with
    | .Compare l [op] [r] _ => decide (op = cmpPy o) && !behindInMarks op r && okE Z T kx a l && okE Z T kx b r
    | _ => false
  | kx, .inK n a ks, e => match e with
    | .Compare l [op] [.Name x _] _ => decide (op = (if n then .NotIn else .In)) && kx.gl x && decide (Z.cst.lookup x = some ks) && okE Z T kx a l
    | _ => false
  | kx, .isN n a, e => match e with
    | .Compare l [op] [r] _ => decide (op = (if n then .IsNot else .Is)) && noneE r && okE Z T kx a l
    | _ => false
  | kx, .isB n a b, e => match e with
    | .Compare l [op] [r] _ => decide (op = (if n then .IsNot else .Is)) && okE Z T kx a l && okE Z T kx b r
    | _ => false
  | kx, .chain o o' a b c, e => match e with
    | .Compare l [op, op'] [r, r'] _ => decide (op = cmpPy o) && decide (op' = cmpPy o') && !lastMarks [op, op'] [r, r'] && okE Z T kx a l && okE Z T kx b r && okE Z T kx c r'
    | _ => false
  | kx, .and a b, e => match e with
    | .BoolOp .And (e1 :: e2 :: rest) pos => okE Z T kx a e1 && (if isEmp rest then okE Z T kx b e2 else okE Z T kx b (.BoolOp .And (e2 :: rest) pos))
    | _ => false
  | kx, .or a b, e => match e with
    | .BoolOp .Or (e1 :: e2 :: rest) pos => okE Z T kx a e1 && (if isEmp rest then okE Z T kx b e2 else okE Z T kx b (.BoolOp .Or (e2 :: rest) pos))
    | _ => false
  | kx, .not a, e => match e with
    | .UnaryOp .Not x _ => okE Z T kx a x
    | _ => false
  | kx, .ite t a b, e => match e with
    | .IfExp x y z _ => okE Z T kx t x && okE Z T kx a y && okE Z T kx b z
    | _ => false
  | kx, .tup a, e => match e with
    | .Tuple es _ _ => okA Z T kx a es
    | _ => false
  | kx, .lst a, e => match e with
    | .List es _ => okA Z T kx a es
    | _ => false
  | kx, .dnewK, e => match e with
    | .Dict [] [] _ => true
    | _ => false
  | kx, .dnewT, e => match e with
    | .Dict [] [] _ => true
    | _ => false
  | kx, .disp a, e => match e with
    | .Dict ks vs _ => !isEmp ks && decide (ks.length ≤ 15) && okP Z T kx a ks vs
    | _ => false
  | kx, .lstR b s0 pf p1 po y z pq, e => match e with
    | .List (e0 :: e1 :: .Call (.Attribute (.Name nm np) at_ apos) [.Constant (.str y') _ _, .Constant (.str z') _ _] [] pos :: es) _ => decide (at_ = ("replace" : Str)) && decide (y = y') && decide (z = z') && !(y == z) && sOk s0 && (apos.endLine == pos.line) && !isStar e1 && (match e0 with
        | .Constant (.str s') _ _ => !b && decide (s' = s0)
        | .BinOp (.Constant (.str s') _ _) .Add f _ => b && decide (s' = s0) && okE Z T kx pf f
        | _ => false) && okE Z T kx p1 e1 && okE Z T kx po (.Name nm np) && okA Z T kx pq es
    | _ => false
  | kx, .dispL a, e => match e with
    | .Dict ks vs _ => decide (17 < ks.length) && decide (ks.length ≤ 32) && constKeys a && okP Z T kx a ks vs
    | _ => false
  | kx, .idx a b, e => match e with
    | .Subscript x y _ => !slicish y && okE Z T kx a x && okE Z T kx b y
    | _ => false
  | kx, .sl a hl lo hh hi, e => match e with
    | .Subscript x (.Slice l h none _) _ => okE Z T kx a x && (hl == l.isSome) && (hh == h.isSome) && (match l with | some l => okE Z T kx lo l | none => true) && (match h with | some h => okE Z T kx hi h | none => true)
    | _ => false
  | kx, .revL a, e => match e with
    | .Subscript x (.Slice none none (some (.UnaryOp .USub (.Constant (.int 1) _ _) _)) _) _ => okE Z T kx a x
    | _ => false
  | kx, .fld a f, e => match e with
    | .Attribute o x _ => decide (Z.NM[f]? = some x) && !superish o && okE Z T kx a o
    | _ => false
  | kx, .call f a ds, e => match e with
    | .Call (.Name x _) es [] _ => !kx.hot && kx.gl x && decide (Z.fns.lookup x = some f) && nostar es && okA Z T kx a es && dsOk Z f ds
    | .Call (.Attribute (.Name x _) m apos) es [] pos => !kx.hot && kx.gl x && decide (Z.cfn.lookup (x, m) = some f) && nostar es && !isEmp es && decide (es.length < 30) && (apos.endLine == pos.line) && okA Z T kx a es && dsOk Z f ds
    | _ => false
  | kx, .new c f a ds, e => match e with
    | .Call (.Name x _) es [] _ => !kx.hot && kx.gl x && decide (Z.cls.lookup x = some (c, f)) && nostar es && okA Z T kx a es && dsOk Z f ds
    | _ => false
  | kx, .meth a m n as, e => match e with
    | .Call (.Attribute o x apos) es [] pos => !kx.hot && decide (Z.NM[m]? = some x) && !superish o && nostar es && decide (es.length < 30) && (apos.endLine == pos.line) && decide (es.length = n) && Z.mts.contains (m, n) && (Z.cn.any fun c => (T.mt c m).isSome) && okE Z T kx a o && okA Z T kx as es
    | _ => false
  | kx, .bi b a, e => match e with
    | .Call (.Name x _) es [] _ => (biCool b || !kx.hot) && kx.gl x && Z.bl.contains x && nostar es && okA Z T kx a (biArgs b es) && biB Z kx b x es
    | _ => false
  | kx, .bm m a as, e => match e with
    | .Call (.Attribute o x apos) es [] pos => !superish o && nostar es && decide (es.length < 30) && (apos.endLine == pos.line) && okE Z T kx a o && okA Z T kx as es && (match m with
      | .get1 => decide (x = ("get" : Str)) && es.length == 1
      | .get2 => decide (x = ("get" : Str)) && es.length == 2
      | .popD => decide (x = ("pop" : Str)) && es.length == 1
      | .pop2 => decide (x = ("pop" : Str)) && es.length == 2
      | .setdefault => decide (x = ("setdefault" : Str)) && es.length == 2
      | m => bmN m x es.length)
    | _ => false
  | kx, .comp elt tp is k as cond, e => match e with
    | .ListComp el [⟨tg, iter, ifs, 0⟩] scope _ => (!kx.hot || (kx.kn && hotC k as tp)) && !setish iter && blkC kx.N kx.sc scope (ownOf kx.N is) && decide ((ownOf kx.N is).map (·.2) = is) && tgtB (kx.blk scope) tp is tg && okI Z T kx k as iter tg && okE Z T (kx.blk scope) elt el && (match ifs with
      | [] => (match cond with | .c (.bl true) => true | _ => false)
      | [c] => okE Z T (kx.blk scope) cond c
      | _ => false)
    | _ => false
  | kx, .isC j a, e => match e with
    | .Call (.Name x _) [e1, .Name y _] [] _ => decide (x = ("isinstance" : Str)) && kx.gl x && Z.bl.contains x && !isStar e1 && okE Z T kx a e1 && kx.gl y && decide (Z.isc.lookup y = some j)
    | _ => false
  | kx, .isX j a, e => match e with
    | .Call (.Name x _) [e1, .Name y _] [] _ => decide (x = ("isinstance" : Str)) && kx.gl x && Z.bl.contains x && !isStar e1 && okE Z T kx a e1 && kx.gl y && decide (Z.xis.lookup y = some j)
    | _ => false
  | kx, .isXT js a, e => match e with
    | .Call (.Name x _) [e1, .Tuple es _ _] [] _ => decide (x = ("isinstance" : Str)) && kx.gl x && Z.bl.contains x && !isStar e1 && okE Z T kx a e1 && !js.isEmpty && decide (js.length ≤ 64) && xisB kx.gl Z.xis es js
    | _ => false
  | kx, .xfld a f, e => match e with
    | .Attribute o x _ => decide (Z.NM[f]? = some x) && !superish o && okE Z T kx a o
    | _ => false
  | kx, .callH f a, e => match e with
    | .Call (.Name x _) (e1 :: es) [] _ => kx.gl x && decide (Z.hfn.lookup x = some f) && nostar (e1 :: es) && okA Z T kx a (e1 :: es)
    | _ => false
  | kx, .sortK a i, e => match e with
    | .Call (.Name x _) [e1] [⟨some kn, .Lambda ⟨[], [⟨y, none, _⟩], none, [], [], none, []⟩ (.Subscript (.Name y2 _) (.Constant (.int i2) _ _) _) scope _, _⟩] _ =>
      !kx.hot && kx.gl x && decide (x = ("sorted" : Str)) && Z.bl.contains x && kx.lam && !isStar e1 && decide (kn = ("key" : Str)) && decide (y2 = y) && decide (i2 = (i : Int)) && decide (i < 1000) && lamKB scope y && !(y == ("__debug__" : Str)) && okE Z T kx a e1
    | _ => false
  | kx, .lock _ _ a, e => !testish e && !compish e && okE Z T kx a e
  | _, .nil, _ => true
  | _, .cons _ _, _ => false
def okA (Z : Tb) (T : Tab) : Kx → PyE → List Expr → Bool
  | kx, .nil, es => isEmp es
  | kx, .cons a b, es => match es with
    | e :: es => !isStar e && okE Z T kx a e && okA Z T kx b es
    | [] => false
  | _, _, _ => false
def okP (Z : Tb) (T : Tab) : Kx → PyE → List (Option Expr) → List Expr → Bool
  | kx, .nil, ks, vs => isEmp ks && isEmp vs
  | kx, .cons a b, ks, vs => match ks with
    | some k :: ks => okE Z T kx a k && okQ Z T kx b ks vs
    | _ => false
  | _, _, _, _ => false
def okQ (Z : Tb) (T : Tab) : Kx → PyE → List (Option Expr) → List Expr → Bool
  | kx, .cons a b, ks, vs => match vs with
    | v :: vs => okE Z T kx a v && okP Z T kx b ks vs
    | _ => false
  | _, _, _, _ => false
def okI (Z : Tb) (T : Tab) : Kx → ItK → PyE → Expr → Expr → Bool
  | kx, k, .cons a b, iter, tg => match k with
    | .val => (match b with | .nil => okE Z T kx a iter | _ => false)
    | .range => (match iter with
      | .Call (.Name x _) (e :: es) [] _ => decide (x = ("range" : Str)) && kx.gl x && Z.bl.contains x && !isStar e && okE Z T kx a e && okA Z T kx b es && decide (es.length ≤ 2) && nostar es
      | _ => false)
    | .enm => (match iter with
      | .Call (.Name x _) (e :: es) [] _ => decide (x = ("enumerate" : Str)) && kx.gl x && Z.bl.contains x && !isStar e && okE Z T kx a e && okA Z T kx b es && isEmp es && isTup tg
      | _ => false)
    | .zp => (match iter with
      | .Call (.Name x _) (e :: es) [] _ => decide (x = ("zip" : Str)) && kx.gl x && Z.bl.contains x && !isStar e && okE Z T kx a e && okA Z T kx b es && decide (es.length = 1) && isTup tg && nostar es
      | _ => false)
    | .keys => (match b with | .nil => okE Z T kx a iter | _ => false)
    | .items => (match b, iter with
      | .nil, .Call (.Attribute o x apos) [] [] cpos => decide (x = ("items" : Str)) && !superish o && (apos.endLine == cpos.line) && isTup tg && okE Z T kx a o
      | _, _ => false)
    | .rvr => (match b, iter with
      | .nil, .Call (.Name x _) [.Call (.Name y _) [e] [] _] [] _ => decide (x = ("reversed" : Str)) && kx.gl x && Z.bl.contains x && decide (y = ("range" : Str)) && kx.gl y && Z.bl.contains y && !isStar e && okE Z T kx a e
      | _, _ => false)
    | .rv => (match iter with
      | .Call (.Name x _) (e :: es) [] _ => decide (x = ("reversed" : Str)) && kx.gl x && Z.bl.contains x && !isStar e && okE Z T kx a e && okA Z T kx b es && isEmp es
      | _ => false)
  | _, _, _, _, _ => false
end
end Nw

set_option Elab.async false
set_option linter.all false
set_option maxRecDepth 100000
set_option maxHeartbeats 4000000
namespace Nw
open PySem L2

structure Sx (Z : Tb) (T : Tab) (G : Cfg) (ft : Fns) (k : Nat) (X : Cx) : Prop where
  hK : G.K = X.K
  hNM : G.NM = Z.NM
  hN : X.N.Nodup
  hu : X.A.units + 161 < cLine
  fld : ClsOk G T
  bl : ∀ x, Z.bl.contains x = true → X.mg x = none
  fns : ∀ x f, Z.fns.lookup x = some f → ∃ fa fd ps, X.mg x = some (.ref fa) ∧ PySem.W.keepIn X.K (.ref fa) = true ∧ FnOk X.prog X.w X.K X.mg X.base (L2N.CX X.prog X.w) k fa fd ps (SpF G ft f) ∧ ∀ ds, dsOk Z f ds = true → DefsOk X.K fd ps ds
  cls : ∀ x c f, Z.cls.lookup x = some (c, f) → ∃ fa fd ps, X.mg x = some (.ref (G.ca c)) ∧ Mk X.K (G.ca c) fa ∧ FnOk X.prog X.w X.K X.mg X.base (L2N.CX X.prog X.w) k fa fd ps (SpF G ft f) ∧ ∀ ds, dsOk Z f ds = true → DefsOk X.K fd ps ds
  cst : ∀ x ks, Z.cst.lookup x = some ks → ∃ p, X.mg x = some (.ref p) ∧ ∀ H, SqT X.K H p (ks.map V.str)
  mts : ∀ m n c fds, Z.mts.contains (m, n) = true → T.mt c m = some fds → MethOk X G T ft k m n c fds
  exs : ∀ x c, Z.exs.lookup x = some c → X.mg x = some (.ref (G.ca c))
  exr : ∀ c, Z.exr.contains c = true → PySem.W.keepIn X.K (.ref (G.ca c)) = true ∧ Raises X (.ref (G.ca c)) ∧ ∃ B newId initId bmB, ExcBaseFacts B newId initId bmB ∧ PySem.W.excIn X.K (G.ca c) bmB newId = true
  cat : ∀ j c b, T.catches j c = some b → PySem.W.exmOne X.K (.ref (G.ca c)) (.ref (G.ca j)) = some b
  gc : ∀ x v, Z.gc.lookup x = some v → ∃ u, X.mg x = some u ∧ RelV (cV v) u ∧ cOk v = true
  cfn : ∀ x m f, Z.cfn.lookup (x, m) = some f → ∃ C fa fd ps, X.mg x = some (.ref C) ∧ ClX.CRead X.K C (.type "type") ∧ ClX.CVal X.K C (.type "type") m (.ref fa) (.ref fa) ∧ PySem.W.keepIn X.K (.ref fa) = true ∧ FnOk X.prog X.w X.K X.mg X.base (L2N.CX X.prog X.w) k fa fd ps (SpF G ft f) ∧ ∀ ds, dsOk Z f ds = true → DefsOk X.K fd ps ds
  isi : ∀ y j, Z.isc.lookup y = some j → X.mg y = some (.ref (G.ca j)) ∧ ∀ c b, T.isI j c = some b → InsI X.K (G.ca c) ∧ PySem.W.kitOne X.K (.ref (G.ca c)) (.ref (G.ca j)) = some b
  xfk : XfOk G T
  xis : ∀ y j, Z.xis.lookup y = some j → ∃ (c : V) (u : Value), ClsV c u ∧ RelV c u ∧ (X.mg y = some u ∨ (X.mg y = none ∧ bootBuiltins y = some u ∧ y ≠ "__name__")) ∧ ∀ d b, T.isX j d = some b → ExcC X.K (G.ca d) ∧ PySem.W.kitOne X.K (.ref (G.ca d)) u = some b
  fnh : ∀ x f, Z.hfn.lookup x = some f → ∃ fa fd ps, X.mg x = some (.ref fa) ∧ PySem.W.keepIn X.K (.ref fa) = true ∧ FnW X.prog X.w X.K X.mg X.base k fa fd ps (SpF G ft f) ∧ L2.Binds X.K fd ps []
  xrs : ∀ c, Z.xrs.contains c = true → ∃ l fI fd ps, T.xf c = some l ∧ l.length ≤ 10 ∧ OexC X.K (G.ca c) ∧ (∀ f ∈ l, PySem.W.findIn X.K (.ref (G.ca c)) (G.nm f) = some none ∧ f < G.NM.length) ∧ PySem.W.findIn X.K (.ref (G.ca c)) "__init__" = some (some (.ref fI)) ∧ PySem.W.typeIn X.K (.ref fI) = some (.type "function") ∧
    FnOk X.prog X.w X.K X.mg X.base (L2N.CX X.prog X.w) 1 fI fd ps (spInit X.K (G.ca c) (l.map G.nm)) ∧ L2.Binds X.K fd ps []
structure Ev (G : Cfg) (kx : Kx) (k : Nat) (X : Cx) : Prop where
  N : X.N = kx.N
  sc : X.env.scope = kx.sc
  fn : X.fn = kx.fnB
  cool : kx.hot = false → RoomS k X.A ∧ X.calm = true
  warm : L2H.RoomH k X.A
  k1 : 2 ≤ k
  lam : kx.lam = true → LamF X G.tb
  hotx : kx.kn = true → ∃ a ∈ G.hx, X.A.handled = some (.ref a)

section
variable {Z : Tb} {T : Tab} {G : Cfg} {ft : Fns} {k : Nat} {X : Cx} {kx : Kx} {W : WX}
theorem Sx.blk (h : Sx Z T G ft k X) (s : Shared) (H : Hp) (scope : Scope) (cenv : PySem.Env) (fp : List Addr) : Sx Z T G ft k (X.blk s H scope cenv fp) :=
  ⟨h.hK, h.hNM, h.hN, h.hu, h.fld, h.bl, h.fns, h.cls, h.cst, fun m n c fds h1 h2 => ⟨(h.mts m n c fds h1 h2).ok⟩, h.exs, h.exr, h.cat, h.gc, h.cfn, h.isi, h.xfk, h.xis, h.fnh, h.xrs⟩
theorem Ev.blk (h : Ev G kx k X) (s : Shared) (H : Hp) (scope : Scope) (cl : List (Str × Addr)) (C : Addr) (fp : List Addr) : Ev G (kx.blk scope) k (X.blk s H scope (compEnvC scope cl C X.env) fp) :=
  ⟨h.N, by show relS scope X.env.scope = relS scope kx.sc; rw [h.sc], rfl, h.cool, h.warm, h.k1, (fun e => Bool.noConfusion e), h.hotx⟩
theorem Ev.lk (h : Ev G kx k X) (x : Str) : X.env.scope.names.lookup x = kx.lk x := by rw [h.sc]; rfl
theorem Ev.vis (h : Ev G kx k X) {x : Str} (v : kx.vis x = true) : Vis X.env.scope x := by
  unfold Vis
  rw [h.lk x]
  unfold Kx.vis at v
  split at v <;> first | (rename_i e; rw [e]; simp; done) | cases v
theorem Ev.gl (h : Ev G kx k X) {x : Str} (v : kx.gl x = true) : Gl X x ∧ (x == ("__debug__" : Str)) = false := by
  unfold Gl
  show X.env.scope.names.lookup x = _ ∧ _
  rw [h.lk x]
  unfold Kx.gl at v
  split at v
  · rename_i e; exact ⟨e, by simpa using v⟩
  · cases v
theorem Ev.loc (h : Ev G kx k X) {x : Str} (v : kx.loc x = true) : L2.Loc X.env.scope x ∧ (X.fn x = true ∨ X.env.scope.names.lookup x = some .local) := by
  unfold L2.Loc
  rw [h.lk x, h.fn]
  unfold Kx.loc at v
  split at v
  · rename_i e; rw [e]; exact ⟨.inl rfl, .inr rfl⟩
  · rename_i e; rw [e]; exact ⟨.inr rfl, .inl v⟩
  · cases v
theorem Ev.ix (h : Ev G kx k X) {i : Nat} {x : Str} (v : kx.N[i]? = some x) : X.N[i]? = some x := by rw [h.N]; exact v
theorem Sx.nm (h : Sx Z T G ft k X) {f : Nat} {x : Str} (v : Z.NM[f]? = some x) : G.nm f = x ∧ f < G.NM.length := by
  rw [← h.hNM] at v
  exact ⟨by unfold Cfg.nm; rw [List.getD_eq_getElem?_getD, v]; rfl, (List.getElem?_eq_some_iff.mp v).1⟩

theorem dt_ite {c a b : Expr} {pc pa pb : PyE} {pos : Pos} (hc : PT X c (liftT G W (tst (ev T ft pc)))) (ha : PT X a (liftT G W (tst (ev T ft pa)))) (hb : PT X b (liftT G W (tst (ev T ft pb)))) : PT X (.IfExp c a b pos) (liftT G W (tst (ev T ft (.ite pc pa pb)))) := by
  refine ⟨fun pins s σ H Q I h => ?_⟩
  have h2 := tst_fst (t := fun _ env S1 => ev T ft pa env S1) (f := fun _ env S1 => ev T ft pb env S1) (by
    have e : (fun env S => (ev T ft pc env S).bind fun x S1 => ifV x S1 (ev T ft pa env S1) (ev T ft pb env S1)) = ev T ft (.ite pc pa pb) := by
      funext env S; simp only [ev]
    rw [e]; exact h)
  show wpAny _ _ (do if ← isTrue c X.env (eval c X.env) then isTrue a X.env (eval a X.env) else isTrue b X.env (eval b X.env)) _ _ _
  refine wpAny_bind (thn (hc.run pins s σ H _ I h2) fun d s1 ⟨H1, I1, μ, env, x, S, sm, e, et, q⟩ => ?_)
  cases d with
  | true => exact ha.run pins s1 σ H1 Q I1 ⟨μ, env, S, sm, e, q⟩
  | false => exact hb.run pins s1 σ H1 Q I1 ⟨μ, env, S, sm, e, q⟩
theorem pw_bool {op : PySem.BoolOp} {es : List Expr} {pos : Pos} {t : TT} (h : PT X (.BoolOp op es pos) t) : PW X (.BoolOp op es pos) t := ⟨fun _ pins s σ H Q I q => h.run pins s σ H Q I q⟩

/-- an expression, as a value and as a test -/
def GE (Z : Tb) (T : Tab) (G : Cfg) (ft : Fns) (k : Nat) (p : PyE) : Prop := ∀ kx X W e, Sx Z T G ft k X → Ev G kx k X → L2N.Takes X W → okE Z T kx p e = true → PE X e (lift G W (ev T ft p)) ∧ PT X e (liftT G W (tst (ev T ft p)))
def GA (Z : Tb) (T : Tab) (G : Cfg) (ft : Fns) (k : Nat) (p : PyE) : Prop := ∀ kx X W es, Sx Z T G ft k X → Ev G kx k X → L2N.Takes X W → okA Z T kx p es = true → PA X es (liftA G W (evA T ft p))
def GP (Z : Tb) (T : Tab) (G : Cfg) (ft : Fns) (k : Nat) (p : PyE) : Prop := ∀ kx X W ks vs, Sx Z T G ft k X → Ev G kx k X → L2N.Takes X W → okP Z T kx p ks vs = true → DispL G W X T ft ks vs p
structure Gd (Z : Tb) (T : Tab) (G : Cfg) (ft : Fns) (k : Nat) (p : PyE) : Prop where
  ge : GE Z T G ft k p
  ga : GA Z T G ft k p
  gp : GP Z T G ft k p
  hd : ∀ a b, p = PyE.cons a b → GE Z T G ft k a ∧ GA Z T G ft k b ∧ GP Z T G ft k b ∧ ∀ c d, b = PyE.cons c d → GE Z T G ft k c ∧ GP Z T G ft k d ∧ GA Z T G ft k d

/-- no test form -/
theorem both (hx : Sx Z T G ft k X) {e : Expr} {p : PyE} (h : PE X e (lift G W (ev T ft p))) (ht : testish e = false) : PE X e (lift G W (ev T ft p)) ∧ PT X e (liftT G W (tst (ev T ft p))) := ⟨h, dt_any hx.hK h (true_of ht)⟩
theorem Gd.of {p : PyE} (e : GE Z T G ft k p) (ha : ∀ kx es, okA Z T kx p es = false) (hp : ∀ kx ks vs, okP Z T kx p ks vs = false) (hn : ∀ a b, p ≠ PyE.cons a b) : Gd Z T G ft k p :=
  ⟨e, fun kx X W es _ _ _ h => (by rw [ha] at h; exact Bool.noConfusion h), fun kx X W ks vs _ _ _ h => (by rw [hp] at h; exact Bool.noConfusion h), fun a b h => absurd h (hn a b)⟩

theorem cE_ok {v : Val} {e : Expr} (h : cE v e = true) : cOk v = true ∧ PE X e (tC (cV v)) ∧ testish e = false := by
  unfold cE at h
  split at h
  · split at h
    · exact ⟨rfl, pe_non, rfl⟩
    · cases h
  · split at h
    · have := eq_of_beq h; subst this; exact ⟨rfl, pe_bl, rfl⟩
    · cases h
  · split at h
    · have := eq_of_beq h; subst this; exact ⟨rfl, pe_int, rfl⟩
    · cases h
  · split at h
    · simp only [Bool.and_eq_true, decide_eq_true_eq] at h
      obtain ⟨h1, h2⟩ := h
      subst h1
      exact ⟨h2, pe_str, rfl⟩
    · cases h
  · cases h
theorem g_c (v : Val) : Gd Z T G ft k (.c v) := Gd.of (fun kx X W e hx hv tk h => by
  simp only [okE, Bool.or_eq_true] at h
  rcases h with h | h
  · obtain ⟨h1, h2, h3⟩ := cE_ok (X := X) h
    exact both hx (by have := de_c (G := G) (W := W) h1 h2; simpa only [ev] using this) h3
  · unfold gcB at h
    split at h
    · rename_i x p
      simp only [Bool.and_eq_true] at h
      obtain ⟨h1, h2⟩ := h
      split at h2
      · rename_i u hu
        obtain rfl := dEq_eq h2
        obtain ⟨g1, g2⟩ := hv.gl h1
        obtain ⟨u', q1, q2, q3⟩ := hx.gc _ _ hu
        have hb : PE X (.Name x p) (tC (cV u)) := pe_glob g1 q1 q2 g2
        exact both hx (by have := de_c (G := G) (W := W) q3 hb; simpa only [ev] using this) rfl
      · cases h2
    · cases h) (fun _ _ => rfl) (fun _ _ _ => rfl) (fun _ _ h => by cases h)
theorem g_var (i : Nat) : Gd Z T G ft k (.var i) := Gd.of (fun kx X W e hx hv tk h => by
  simp only [okE] at h
  unfold varE at h
  split at h
  · simp only [Bool.and_eq_true, decide_eq_true_eq] at h
    obtain ⟨⟨h1, h2⟩, h3⟩ := h
    unfold posOk at h3
    simp only [Bool.and_eq_true, Bool.not_eq_true'] at h3
    exact both hx (de_var (pe_var (hv.ix h1) (hv.vis h2) h3.1 h3.2)) rfl
  · cases h) (fun _ _ => rfl) (fun _ _ _ => rfl) (fun _ _ h => by cases h)
theorem g_bin (o : BinO) {a b : PyE} (ha : Gd Z T G ft k a) (hb : Gd Z T G ft k b) : Gd Z T G ft k (.bin o a b) := Gd.of (fun kx X W e hx hv tk h => by
  simp only [okE] at h
  split at h
  · simp only [Bool.and_eq_true, decide_eq_true_eq] at h
    obtain ⟨⟨h1, h2⟩, h3⟩ := h
    subst h1
    exact both hx (de_bin o hx.hK (ha.ge kx X W _ hx hv tk h2).1 (hb.ge kx X W _ hx hv tk h3).1) rfl
  · cases h) (fun _ _ => rfl) (fun _ _ _ => rfl) (fun _ _ h => by cases h)
theorem g_neg {a : PyE} (ha : Gd Z T G ft k a) : Gd Z T G ft k (.neg a) := Gd.of (fun kx X W e hx hv tk h => by
  simp only [okE] at h
  split at h
  · exact both hx (de_neg (ha.ge kx X W _ hx hv tk h).1) rfl
  · cases h) (fun _ _ => rfl) (fun _ _ _ => rfl) (fun _ _ h => by cases h)
theorem g_cmp (o : CmpO) {a b : PyE} (ha : Gd Z T G ft k a) (hb : Gd Z T G ft k b) : Gd Z T G ft k (.cmp o a b) := Gd.of (fun kx X W e hx hv tk h => by
  simp only [okE] at h
  split at h
  · simp only [Bool.and_eq_true, decide_eq_true_eq, Bool.not_eq_true'] at h
    obtain ⟨⟨⟨h1, h2⟩, h3⟩, h4⟩ := h
    subst h1
    exact ⟨de_cmp hx.hu hx.hK o (ha.ge kx X W _ hx hv tk h3).1 (hb.ge kx X W _ hx hv tk h4).1 h2, dt_cmp hx.hu hx.hK o (ha.ge kx X W _ hx hv tk h3).1 (hb.ge kx X W _ hx hv tk h4).1 h2⟩
  · cases h) (fun _ _ => rfl) (fun _ _ _ => rfl) (fun _ _ h => by cases h)
theorem g_inK (n : Bool) (ks : List Str) {a : PyE} (ha : Gd Z T G ft k a) : Gd Z T G ft k (.inK n a ks) := Gd.of (fun kx X W e hx hv tk h => by
  simp only [okE] at h
  split at h
  · rename_i l op x p1 p2
    simp only [Bool.and_eq_true, decide_eq_true_eq] at h
    obtain ⟨⟨⟨h1, h2⟩, h3⟩, h4⟩ := h
    subst h1
    obtain ⟨g1, g2⟩ := hv.gl h2
    obtain ⟨p, q1, q2⟩ := hx.cst _ _ h3
    have hb : PE X (.Name x p1) (tC (.ref p)) := pe_glob g1 q1 rfl g2
    exact ⟨de_inK n q2 (ha.ge kx X W _ hx hv tk h4).1 hb rfl, dt_inK n q2 (ha.ge kx X W _ hx hv tk h4).1 hb rfl⟩
  · cases h) (fun _ _ => rfl) (fun _ _ _ => rfl) (fun _ _ h => by cases h)
theorem noneE_ok {r : Expr} (h : noneE r = true) : ∃ j p, r = .Constant .none j p := by
  unfold noneE at h
  split at h
  · exact ⟨_, _, rfl⟩
  · cases h
theorem g_isN (n : Bool) {a : PyE} (ha : Gd Z T G ft k a) : Gd Z T G ft k (.isN n a) := Gd.of (fun kx X W e hx hv tk h => by
  simp only [okE] at h
  split at h
  · simp only [Bool.and_eq_true, decide_eq_true_eq] at h
    obtain ⟨⟨h1, h2⟩, h3⟩ := h
    subst h1
    obtain ⟨j, p, rfl⟩ := noneE_ok h2
    cases n with
    | true => exact ⟨de_notN (ha.ge kx X W _ hx hv tk h3).1, dt_notN (ha.ge kx X W _ hx hv tk h3).1⟩
    | false => exact ⟨de_isN (ha.ge kx X W _ hx hv tk h3).1, dt_isN (ha.ge kx X W _ hx hv tk h3).1⟩
  · cases h) (fun _ _ => rfl) (fun _ _ _ => rfl) (fun _ _ h => by cases h)
theorem g_isB (n : Bool) {a b : PyE} (ha : Gd Z T G ft k a) (hb : Gd Z T G ft k b) : Gd Z T G ft k (.isB n a b) := Gd.of (fun kx X W e hx hv tk h => by
  simp only [okE] at h
  split at h
  · simp only [Bool.and_eq_true, decide_eq_true_eq] at h
    obtain ⟨⟨h1, h2⟩, h3⟩ := h
    subst h1
    cases n with
    | true => exact ⟨de_notB hx.hK (ha.ge kx X W _ hx hv tk h2).1 (hb.ge kx X W _ hx hv tk h3).1, dt_notB hx.hK (ha.ge kx X W _ hx hv tk h2).1 (hb.ge kx X W _ hx hv tk h3).1⟩
    | false => exact ⟨de_isB hx.hK (ha.ge kx X W _ hx hv tk h2).1 (hb.ge kx X W _ hx hv tk h3).1, dt_isB hx.hK (ha.ge kx X W _ hx hv tk h2).1 (hb.ge kx X W _ hx hv tk h3).1⟩
  · cases h) (fun _ _ => rfl) (fun _ _ _ => rfl) (fun _ _ h => by cases h)
theorem g_chain (o o' : CmpO) {a b c : PyE} (ha : Gd Z T G ft k a) (hb : Gd Z T G ft k b) (hc : Gd Z T G ft k c) : Gd Z T G ft k (.chain o o' a b c) := Gd.of (fun kx X W e hx hv tk h => by
  simp only [okE] at h
  split at h
  · simp only [Bool.and_eq_true, decide_eq_true_eq, Bool.not_eq_true'] at h
    obtain ⟨⟨⟨⟨⟨h1, h2⟩, h3⟩, h4⟩, h5⟩, h6⟩ := h
    subst h1 h2
    exact ⟨de_chain hx.hu hx.hK o o' (ha.ge kx X W _ hx hv tk h4).1 (hb.ge kx X W _ hx hv tk h5).1 (hc.ge kx X W _ hx hv tk h6).1 h3, dt_chain hx.hu hx.hK o o' (ha.ge kx X W _ hx hv tk h4).1 (hb.ge kx X W _ hx hv tk h5).1 (hc.ge kx X W _ hx hv tk h6).1 h3⟩
  · cases h) (fun _ _ => rfl) (fun _ _ _ => rfl) (fun _ _ h => by cases h)
theorem isEmp_nil {α : Type} {l : List α} (h : isEmp l = true) : l = [] := by
  cases l with
  | nil => rfl
  | cons _ _ => cases h
theorem g_and {a b : PyE} (ha : Gd Z T G ft k a) (hb : Gd Z T G ft k b) : Gd Z T G ft k (.and a b) := Gd.of (fun kx X W e hx hv tk h => by
  simp only [okE] at h
  split at h
  · simp only [Bool.and_eq_true] at h
    obtain ⟨h1, h2⟩ := h
    have A := ha.ge kx X W _ hx hv tk h1
    split at h2
    · rename_i he
      obtain rfl := isEmp_nil he
      have B := hb.ge kx X W _ hx hv tk h2
      exact ⟨de_and hx.hK A.1 (pe_one B.1), (dw_and A.2 (pw_and1 B.2)).pt⟩
    · have B := hb.ge kx X W _ hx hv tk h2
      exact ⟨de_and hx.hK A.1 B.1, (dw_and A.2 (pw_bool B.2)).pt⟩
  · cases h) (fun _ _ => rfl) (fun _ _ _ => rfl) (fun _ _ h => by cases h)
theorem g_or {a b : PyE} (ha : Gd Z T G ft k a) (hb : Gd Z T G ft k b) : Gd Z T G ft k (.or a b) := Gd.of (fun kx X W e hx hv tk h => by
  simp only [okE] at h
  split at h
  · simp only [Bool.and_eq_true] at h
    obtain ⟨h1, h2⟩ := h
    have A := ha.ge kx X W _ hx hv tk h1
    split at h2
    · rename_i he
      obtain rfl := isEmp_nil he
      have B := hb.ge kx X W _ hx hv tk h2
      exact ⟨de_or hx.hK A.1 (pe_one B.1), (dw_or A.2 (pw_or1 B.2)).pt⟩
    · have B := hb.ge kx X W _ hx hv tk h2
      exact ⟨de_or hx.hK A.1 B.1, (dw_or A.2 (pw_bool B.2)).pt⟩
  · cases h) (fun _ _ => rfl) (fun _ _ _ => rfl) (fun _ _ h => by cases h)
theorem g_not {a : PyE} (ha : Gd Z T G ft k a) : Gd Z T G ft k (.not a) := Gd.of (fun kx X W e hx hv tk h => by
  simp only [okE] at h
  split at h
  · have A := ha.ge kx X W _ hx hv tk h
    exact ⟨de_not hx.hK A.1, dt_not A.2⟩
  · cases h) (fun _ _ => rfl) (fun _ _ _ => rfl) (fun _ _ h => by cases h)
theorem g_ite {t a b : PyE} (ht : Gd Z T G ft k t) (ha : Gd Z T G ft k a) (hb : Gd Z T G ft k b) : Gd Z T G ft k (.ite t a b) := Gd.of (fun kx X W e hx hv tk h => by
  simp only [okE] at h
  split at h
  · simp only [Bool.and_eq_true] at h
    obtain ⟨⟨h1, h2⟩, h3⟩ := h
    have C := ht.ge kx X W _ hx hv tk h1
    have A := ha.ge kx X W _ hx hv tk h2
    have B := hb.ge kx X W _ hx hv tk h3
    exact ⟨de_ite C.2 A.1 B.1, dt_ite C.2 A.2 B.2⟩
  · cases h) (fun _ _ => rfl) (fun _ _ _ => rfl) (fun _ _ h => by cases h)
theorem g_tup {a : PyE} (ha : Gd Z T G ft k a) : Gd Z T G ft k (.tup a) := Gd.of (fun kx X W e hx hv tk h => by
  simp only [okE] at h
  split at h
  · exact both hx (de_tup (ha.ga kx X W _ hx hv tk h)) rfl
  · cases h) (fun _ _ => rfl) (fun _ _ _ => rfl) (fun _ _ h => by cases h)
theorem g_lst {a : PyE} (ha : Gd Z T G ft k a) : Gd Z T G ft k (.lst a) := Gd.of (fun kx X W e hx hv tk h => by
  simp only [okE] at h
  split at h
  · exact both hx (de_lst (ha.ga kx X W _ hx hv tk h)) rfl
  · cases h) (fun _ _ => rfl) (fun _ _ _ => rfl) (fun _ _ h => by cases h)
theorem g_dnewK : Gd Z T G ft k .dnewK := Gd.of (fun kx X W e hx hv tk h => by
  simp only [okE] at h
  split at h
  · exact both hx de_dnewK rfl
  · cases h) (fun _ _ => rfl) (fun _ _ _ => rfl) (fun _ _ h => by cases h)
theorem g_dnewT : Gd Z T G ft k .dnewT := Gd.of (fun kx X W e hx hv tk h => by
  simp only [okE] at h
  split at h
  · exact both hx de_dnewT rfl
  · cases h) (fun _ _ => rfl) (fun _ _ _ => rfl) (fun _ _ h => by cases h)
theorem g_disp {a : PyE} (ha : Gd Z T G ft k a) : Gd Z T G ft k (.disp a) := Gd.of (fun kx X W e hx hv tk h => by
  simp only [okE] at h
  split at h
  · simp only [Bool.and_eq_true, decide_eq_true_eq, Bool.not_eq_true'] at h
    obtain ⟨⟨h1, h2⟩, h3⟩ := h
    exact both hx (de_disp (ha.gp kx X W _ _ hx hv tk h3) (fun z => by rw [z] at h1; cases h1) h2) rfl
  · cases h) (fun _ _ => rfl) (fun _ _ _ => rfl) (fun _ _ h => by cases h)
theorem g_dispL {a : PyE} (ha : Gd Z T G ft k a) : Gd Z T G ft k (.dispL a) := Gd.of (fun kx X W e hx hv tk h => by
  simp only [okE] at h
  split at h
  · simp only [Bool.and_eq_true, decide_eq_true_eq] at h
    obtain ⟨⟨⟨h1, h2⟩, h3⟩, h4⟩ := h
    exact both hx (de_dispL (ha.gp kx X W _ _ hx hv tk h4) h3 h1 h2) rfl
  · cases h) (fun _ _ => rfl) (fun _ _ _ => rfl) (fun _ _ h => by cases h)
theorem g_lstR (b : Bool) (s0 y z : Str) {pf p1 po pq : PyE} (hf : Gd Z T G ft k pf) (h1 : Gd Z T G ft k p1) (ho : Gd Z T G ft k po) (hq : Gd Z T G ft k pq) : Gd Z T G ft k (.lstR b s0 pf p1 po y z pq) := Gd.of (fun kx X W e hx hv tk h => by
  simp only [okE] at h
  split at h
  · rename_i e0 e1 nm np at_ apos y' j c0 z' kk c1 pos es lpos
    simp only [Bool.and_eq_true, decide_eq_true_eq, Bool.not_eq_true'] at h
    obtain ⟨⟨⟨⟨⟨⟨⟨⟨⟨⟨a1, a2⟩, a3⟩, a4⟩, a5⟩, a6⟩, a7⟩, a8⟩, a9⟩, a10⟩, a11⟩ := h
    subst a1 a2 a3
    have h0 : PEB X e0 (lift G W (fstR T ft b s0 pf)) ∧ isStar e0 = false := by
      split at a8
      · simp only [Bool.and_eq_true, decide_eq_true_eq, Bool.not_eq_true'] at a8
        obtain ⟨b1, b2⟩ := a8
        subst b1 b2
        exact ⟨fst_const a5, rfl⟩
      · simp only [Bool.and_eq_true, decide_eq_true_eq] at a8
        obtain ⟨⟨b1, b2⟩, b3⟩ := a8
        subst b1 b2
        exact ⟨fst_sum hx.hK a5 (hf.ge kx X W _ hx hv tk b3).1, rfl⟩
      · cases a8
    exact both hx (de_lstR h0.1 (h1.ge kx X W _ hx hv tk a9).1 (ho.ge kx X W _ hx hv tk a10).1 (hq.ga kx X W _ hx hv tk a11) a4 rfl rfl a6 (star_cons h0.2) (star_cons a7) (star_cons rfl)) rfl
  · cases h) (fun _ _ => rfl) (fun _ _ _ => rfl) (fun _ _ h => by cases h)
theorem g_idx {a b : PyE} (ha : Gd Z T G ft k a) (hb : Gd Z T G ft k b) : Gd Z T G ft k (.idx a b) := Gd.of (fun kx X W e hx hv tk h => by
  simp only [okE] at h
  split at h
  · simp only [Bool.and_eq_true, Bool.not_eq_true'] at h
    obtain ⟨⟨h1, h2⟩, h3⟩ := h
    exact both hx (de_idx (by have := hx.hu; omega) hx.hK (ha.ge kx X W _ hx hv tk h2).1 (hb.ge kx X W _ hx hv tk h3).1 (plainIx_of h1)) rfl
  · cases h) (fun _ _ => rfl) (fun _ _ _ => rfl) (fun _ _ h => by cases h)
theorem g_fld (f : Nat) {a : PyE} (ha : Gd Z T G ft k a) : Gd Z T G ft k (.fld a f) := Gd.of (fun kx X W e hx hv tk h => by
  simp only [okE] at h
  split at h
  · simp only [Bool.and_eq_true, decide_eq_true_eq, Bool.not_eq_true'] at h
    obtain ⟨⟨h1, h2⟩, h3⟩ := h
    exact both hx (de_fld hx.fld hx.hK (hx.nm h1).1 (ha.ge kx X W _ hx hv tk h3).1 (base_of h2)) rfl
  · cases h) (fun _ _ => rfl) (fun _ _ _ => rfl) (fun _ _ h => by cases h)
theorem g_sl {a lo hi : PyE} (hl hh : Bool) (ha : Gd Z T G ft k a) (hlo : Gd Z T G ft k lo) (hhi : Gd Z T G ft k hi) : Gd Z T G ft k (.sl a hl lo hh hi) := Gd.of (fun kx X W e hx hv tk h => by
  simp only [okE] at h
  split at h
  · rename_i x l r p2 p
    simp only [Bool.and_eq_true, beq_iff_eq] at h
    obtain ⟨⟨⟨⟨h1, e1⟩, e2⟩, h2⟩, h3⟩ := h
    subst e1 e2
    cases l with
    | none => cases r with
      | none => exact both hx (de_sl (hl := false) (hh := false) hx.hK (ha.ge kx X W _ hx hv tk h1).1 do_none do_none) rfl
      | some r => exact both hx (de_sl (hl := false) (hh := true) hx.hK (ha.ge kx X W _ hx hv tk h1).1 do_none (do_some (hhi.ge kx X W _ hx hv tk h3).1)) rfl
    | some l => cases r with
      | none => exact both hx (de_sl (hl := true) (hh := false) hx.hK (ha.ge kx X W _ hx hv tk h1).1 (do_some (hlo.ge kx X W _ hx hv tk h2).1) do_none) rfl
      | some r => exact both hx (de_sl (hl := true) (hh := true) hx.hK (ha.ge kx X W _ hx hv tk h1).1 (do_some (hlo.ge kx X W _ hx hv tk h2).1) (do_some (hhi.ge kx X W _ hx hv tk h3).1)) rfl
  · cases h) (fun _ _ => rfl) (fun _ _ _ => rfl) (fun _ _ h => by cases h)
theorem g_revL {a : PyE} (ha : Gd Z T G ft k a) : Gd Z T G ft k (.revL a) := Gd.of (fun kx X W e hx hv tk h => by
  simp only [okE] at h
  split at h
  · exact both hx (de_revL hx.hK (ha.ge kx X W _ hx hv tk h).1) rfl
  · cases h) (fun _ _ => rfl) (fun _ _ _ => rfl) (fun _ _ h => by cases h)
theorem g_nil : Gd Z T G ft k .nil := ⟨fun kx X W e hx hv tk h => ⟨never fun σ H Q ⟨μ, env, S, s, e, h⟩ => by simp only [ev] at h; exact h, ⟨fun pins s σ H Q I ⟨μ, env, S, sm, e, h⟩ => by unfold tst at h; simp only [ev, Res.bind_no] at h; exact h.elim⟩⟩,
  fun kx X W es hx hv tk h => by simp only [okA] at h; rw [isEmp_nil h]; exact da_nil,
  fun kx X W ks vs hx hv tk h => by simp only [okP, Bool.and_eq_true] at h; rw [isEmp_nil h.1, isEmp_nil h.2]; exact .nil,
  fun a b h => by cases h⟩
theorem g_cons {a b : PyE} (ha : Gd Z T G ft k a) (hb : Gd Z T G ft k b) : Gd Z T G ft k (.cons a b) where
  ge := fun kx X W e hx hv tk h => by simp only [okE] at h; cases h
  ga := fun kx X W es hx hv tk h => by
    simp only [okA] at h
    split at h
    · simp only [Bool.and_eq_true, Bool.not_eq_true'] at h
      obtain ⟨⟨h1, h2⟩, h3⟩ := h
      exact da_cons (ha.ge kx X W _ hx hv tk h2).1 (hb.ga kx X W _ hx hv tk h3) (star_cons h1)
    · cases h
  gp := fun kx X W ks vs hx hv tk h => by
    simp only [okP] at h
    split at h
    · simp only [Bool.and_eq_true] at h
      obtain ⟨h1, h2⟩ := h
      cases b with
      | cons c d =>
        simp only [okQ] at h2
        split at h2
        · simp only [Bool.and_eq_true] at h2
          obtain ⟨h2, h3⟩ := h2
          obtain ⟨q1, q2, q3, q4⟩ := hb.hd c d rfl
          exact .cons (ha.ge kx X W _ hx hv tk h1).1 (q1 kx X W _ hx hv tk h2).1 (q3 kx X W _ _ hx hv tk h3)
        · cases h2
      | _ => simp [okQ] at h2
    · cases h
  hd := fun a' b' h => by
    cases h
    exact ⟨ha.ge, hb.ga, hb.gp, fun c d h => let ⟨q1, q2, q3, q4⟩ := hb.hd c d h; ⟨q1, q3, q2⟩⟩
end
end Nw

set_option Elab.async false
set_option linter.all false
set_option maxRecDepth 100000
set_option maxHeartbeats 4000000
namespace Nw
open PySem L2
section
variable {Z : Tb} {T : Tab} {G : Cfg} {ft : Fns} {k : Nat} {X : Cx} {kx : Kx} {W : WX}

theorem Ev.room (h : Ev G kx k X) (h0 : kx.hot = false) : RoomS k X.A := (h.cool h0).1
theorem Ev.room0 (h : Ev G kx k X) (h0 : kx.hot = false) : Room k X.A := (h.cool h0).1.to
theorem Ev.calm (h : Ev G kx k X) (h0 : kx.hot = false) : X.calm = true := (h.cool h0).2
theorem nostar_hd {e : Expr} {es : List Expr} (h : nostar (e :: es) = true) : isStar e = false ∧ nostar es = true := by
  unfold nostar at h ⊢
  simp only [List.all_cons, Bool.and_eq_true, Bool.not_eq_true'] at h
  exact h
theorem okA_nil {a : PyE} {Z : Tb} {T : Tab} {kx : Kx} (h : okA Z T kx a [] = true) : a = .nil := by
  cases a with
  | nil => rfl
  | cons _ _ => simp [okA] at h
  | _ => simp [okA] at h
theorem okA_cons {a : PyE} {Z : Tb} {T : Tab} {kx : Kx} {e : Expr} {es : List Expr} (h : okA Z T kx a (e :: es) = true) : ∃ p q, a = .cons p q ∧ isStar e = false ∧ okE Z T kx p e = true ∧ okA Z T kx q es = true := by
  cases a with
  | cons p q =>
    simp only [okA, Bool.and_eq_true, Bool.not_eq_true'] at h
    exact ⟨p, q, rfl, h.1.1, h.1.2, h.2⟩
  | nil => simp [okA, isEmp] at h
  | _ => simp [okA] at h
theorem g_call (f : Nat) (ds : List Val) {a : PyE} (ha : Gd Z T G ft k a) : Gd Z T G ft k (.call f a ds) := Gd.of (fun kx X W e hx hv tk h => by
  simp only [okE] at h
  split at h
  · rename_i x p1 es p2
    simp only [Bool.and_eq_true, decide_eq_true_eq, Bool.not_eq_true'] at h
    obtain ⟨⟨⟨⟨⟨h0, h1⟩, h2⟩, h3⟩, h4⟩, h5⟩ := h
    obtain ⟨g1, g2⟩ := hv.gl h1
    obtain ⟨fa, fd, ps, q1, q2, q3, q4⟩ := hx.fns x f h2
    have A := ha.ga kx X W _ hx hv tk h4
    cases es with
    | nil =>
      obtain rfl := okA_nil h4
      exact both hx (de_call0 q3 tk (hv.room0 h0) g1 q1 q2 (q4 ds h5) g2) rfl
    | cons e es =>
      obtain ⟨s1, s2⟩ := nostar_hd h3
      exact both hx (de_call q3 tk (hv.room0 h0) g1 q1 q2 (q4 ds h5) A g2 (star_cons s1) (star_plain s2).1) rfl
  · rename_i x p1 m apos es pos
    simp only [Bool.and_eq_true, decide_eq_true_eq, Bool.not_eq_true'] at h
    obtain ⟨⟨⟨⟨⟨⟨⟨⟨h0, h1⟩, h2⟩, h3⟩, h6⟩, h7⟩, h8⟩, h4⟩, h5⟩ := h
    obtain ⟨g1, g2⟩ := hv.gl h1
    obtain ⟨C, fa, fd, ps, q1, q2, q3, q4, q5, q6⟩ := hx.cfn x m f h2
    have A := ha.ga kx X W _ hx hv tk h4
    cases es with
    | nil => cases h6
    | cons e es =>
      obtain ⟨s1, s2⟩ := nostar_hd h3
      exact both hx (de_cls q2 q3 q5 tk (hv.room0 h0) g1 q1 q4 (q6 ds h5) A g2 (star_cons s1) (star_plain s2).1 (meth_ht rfl h3 h7 h8)) rfl
  · cases h) (fun _ _ => rfl) (fun _ _ _ => rfl) (fun _ _ h => by cases h)
theorem g_new (c f : Nat) (ds : List Val) {a : PyE} (ha : Gd Z T G ft k a) : Gd Z T G ft k (.new c f a ds) := Gd.of (fun kx X W e hx hv tk h => by
  simp only [okE] at h
  split at h
  · rename_i x p1 es p2
    simp only [Bool.and_eq_true, decide_eq_true_eq, Bool.not_eq_true'] at h
    obtain ⟨⟨⟨⟨⟨h0, h1⟩, h2⟩, h3⟩, h4⟩, h5⟩ := h
    obtain ⟨g1, g2⟩ := hv.gl h1
    obtain ⟨fa, fd, ps, q1, q2, q3, q4⟩ := hx.cls x c f h2
    have A := ha.ga kx X W _ hx hv tk h4
    cases es with
    | nil =>
      obtain rfl := okA_nil h4
      exact both hx (de_new0 q2 q3 tk (hv.room h0) g1 q1 (q4 ds h5) g2) rfl
    | cons e es =>
      obtain ⟨s1, s2⟩ := nostar_hd h3
      exact both hx (de_new q2 q3 tk (hv.room h0) g1 q1 (q4 ds h5) A g2 (star_cons s1) (star_plain s2).1) rfl
  · cases h) (fun _ _ => rfl) (fun _ _ _ => rfl) (fun _ _ h => by cases h)
theorem g_meth (m n : Nat) {a as : PyE} (ha : Gd Z T G ft k a) (has : Gd Z T G ft k as) : Gd Z T G ft k (.meth a m n as) := Gd.of (fun kx X W e hx hv tk h => by
  simp only [okE] at h
  split at h
  · rename_i o x apos es pos
    simp only [Bool.and_eq_true, decide_eq_true_eq, Bool.not_eq_true'] at h
    obtain ⟨⟨⟨⟨⟨⟨⟨⟨⟨⟨h0, h1⟩, h2⟩, h3⟩, h4⟩, h5⟩, h6⟩, h7⟩, h8⟩, h9⟩, h10⟩ := h
    obtain ⟨n1, n2⟩ := hx.nm h1
    subst n1
    obtain ⟨c0, _, c1⟩ := List.any_eq_true.mp h8
    obtain ⟨fds0, c2⟩ := Option.isSome_iff_exists.mp c1
    have O := (ha.ge kx X W _ hx hv tk h9).1
    have A := has.ga kx X W _ hx hv tk h10
    have M : ∀ c fds, T.mt c m = some fds → MethOk X G T ft k m n c fds := fun c fds he => hx.mts m n c fds h7 he
    cases es with
    | nil =>
      obtain rfl := okA_nil h10
      exact both hx (de_meth0 c2 M n2 tk (hv.room0 h0) O (meth_ht h2 h3 h4 h5)) rfl
    | cons e es =>
      obtain ⟨s1, s2⟩ := nostar_hd h3
      exact both hx (de_meth c2 M n2 tk (hv.room0 h0) O A (star_cons s1) (star_plain s2).1 (meth_ht h2 h3 h4 h5)) rfl
  · cases h) (fun _ _ => rfl) (fun _ _ _ => rfl) (fun _ _ h => by cases h)

theorem biN_one {es : List Expr} {n : Nat} {x y : Str} (h : (decide (x = y) && es.length == n) = true) (hn : n ≠ 0) : x = y ∧ ∃ e r, es = e :: r := by
  simp only [Bool.and_eq_true, decide_eq_true_eq, beq_iff_eq] at h
  refine ⟨h.1, ?_⟩
  cases es with
  | nil => exact absurd h.2.symm hn
  | cons e r => exact ⟨e, r, rfl⟩
theorem biCool_ok {b : Bi} {h : Bool} (e : (biCool b || !h) = true) (c : biCool b = false) : h = false := by
  rw [c] at e
  simpa using e
theorem g_bi (b : Bi) {a : PyE} (ha : Gd Z T G ft k a) : Gd Z T G ft k (.bi b a) := Gd.of (fun kx X W e hx hv tk h => by
  simp only [okE] at h
  split at h
  · rename_i x p1 es p2
    simp only [Bool.and_eq_true] at h
    obtain ⟨⟨⟨⟨⟨h0, h1⟩, h2⟩, h3⟩, h4⟩, h5⟩ := h
    obtain ⟨g1, g2⟩ := hv.gl h1
    have hm := hx.bl x h2
    have A := ha.ga kx X W _ hx hv tk h4
    have key : ∀ (id : String) (y : Str), x = y → (∃ e r, es = e :: r) → bootBuiltins y = some (.builtin id) → y ≠ "__name__" → PA X es (liftA G W (evA T ft a)) → CallR X (.builtin id) (StA X (biV b)) →
        PE X (.Call (.Name x p1) es [] p2) (lift G W (ev T ft (.bi b a))) := fun id y e1 ⟨e, r, e2⟩ hb hn A C => by
      subst e1 e2
      obtain ⟨s1, s2⟩ := nostar_hd h3
      exact de_bi hx.hK (pe_callB C g1 hm hb A hn g2 (star_cons s1) (star_plain s2).1)
    have keyT : ∀ (id : String) (y : Str), x = y → (∃ e r, es = e :: r) → bootBuiltins y = some (.type id) → y ≠ "__name__" → PA X es (liftA G W (evA T ft a)) → CallR X (.type id) (StA X (biV b)) →
        PE X (.Call (.Name x p1) es [] p2) (lift G W (ev T ft (.bi b a))) := fun id y e1 ⟨e, r, e2⟩ hb hn A C => by
      subst e1 e2
      obtain ⟨s1, s2⟩ := nostar_hd h3
      exact de_bi hx.hK (pe_callTy C g1 hm hb A hn g2 (star_cons s1) (star_plain s2).1)
    refine both hx ?_ rfl
    cases b with
    | isi t =>
      simp only [biB] at h5
      unfold isiB at h5
      split at h5
      · rename_i e1 y p3
        simp only [Bool.and_eq_true, decide_eq_true_eq] at h5
        obtain ⟨⟨⟨k1, k2⟩, k3⟩, k4⟩ := h5
        subst k1
        obtain ⟨p, q, rfl, s1, w1, w2⟩ := okA_cons (es := []) (show okA Z T kx a [e1] = true from h4)
        obtain rfl := okA_nil w2
        obtain ⟨gy1, gy2⟩ := hv.gl k2
        have hmy := hx.bl y k3
        have P := ((ha.hd p .nil rfl).1 kx X W _ hx hv tk w1).1
        have Ty : PE X (.Name y p3) (tC (.ty (tyN t))) := by
          subst k4
          refine pe_bltn (u := .type (tyN t)) gy1 hmy ?_ rfl ?_ gy2
          · cases t <;> decide +kernel
          · cases t <;> decide +kernel
        refine de_isi (a := e1) (b := e1) (te := fun _ _ _ => True) hx.hK P ?_
        exact pe_callB call_isi g1 hm (by decide +kernel) (pa_cons P (pa_cons Ty pa_nil (star_cons rfl)) (star_cons s1)) (by decide +kernel) g2 (star_cons s1) rfl
      · cases h5
    | sset =>
      simp only [biB] at h5
      unfold setB at h5
      split at h5
      · rename_i y p3 e1 p4
        simp only [Bool.and_eq_true, decide_eq_true_eq, Bool.not_eq_true'] at h5
        obtain ⟨⟨⟨⟨k1, k2⟩, k3⟩, k4⟩, k5⟩ := h5
        subst k2 k3
        obtain ⟨p, q, rfl, s1, w1, w2⟩ := okA_cons (es := []) (show okA Z T kx a [e1] = true from h4)
        obtain rfl := okA_nil w2
        obtain ⟨gy1, gy2⟩ := hv.gl k4
        have hmy := hx.bl _ k5
        have P := ((ha.hd p .nil rfl).1 kx X W _ hx hv tk w1).1
        have hc := hv.calm (biCool_ok h0 rfl)
        have Q1 := pe_callTy (pos := p4) (p := p3) (cr_set2 hc) gy1 hmy (by decide +kernel) (pa_cons P pa_nil (star_cons s1)) (by decide +kernel) gy2 (star_cons s1) rfl
        exact de_sset hx.hK (pe_callB (cr_sort2 hc) g1 hm (by decide +kernel) (pa_cons Q1 pa_nil (star_cons rfl)) (by decide +kernel) g2 (star_cons rfl) rfl)
      · cases h5
    | suml =>
      simp only [biB] at h5
      unfold sumlB at h5
      split at h5
      · exact key "sum" _ (of_decide_eq_true h5) ⟨_, _, rfl⟩ (by decide +kernel) (by decide +kernel) A (bi_suml (hv.calm (biCool_ok h0 rfl)))
      · cases h5
    | len => obtain ⟨e1, e2⟩ := biN_one (y := ("len" : Str)) h5 (by decide); exact key "len" _ e1 e2 (by decide +kernel) (by decide +kernel) A bi_len
    | int_ => obtain ⟨e1, e2⟩ := biN_one (y := ("int" : Str)) h5 (by decide); exact keyT "int" _ e1 e2 (by decide +kernel) (by decide +kernel) A bi_int
    | str_ => obtain ⟨e1, e2⟩ := biN_one (y := ("str" : Str)) h5 (by decide); exact keyT "str" _ e1 e2 (by decide +kernel) (by decide +kernel) A bi_str
    | tuple_ => obtain ⟨e1, e2⟩ := biN_one (y := ("tuple" : Str)) h5 (by decide); exact keyT "tuple" _ e1 e2 (by decide +kernel) (by decide +kernel) A bi_tuple
    | list_ => obtain ⟨e1, e2⟩ := biN_one (y := ("list" : Str)) h5 (by decide); exact keyT "list" _ e1 e2 (by decide +kernel) (by decide +kernel) A (bi_list (hv.calm (biCool_ok h0 rfl)))
    | sorted_ => obtain ⟨e1, e2⟩ := biN_one (y := ("sorted" : Str)) h5 (by decide); exact key "sorted" _ e1 e2 (by decide +kernel) (by decide +kernel) A (bi_sorted (hv.calm (biCool_ok h0 rfl)))
    | sum_ => obtain ⟨e1, e2⟩ := biN_one (y := ("sum" : Str)) h5 (by decide); exact key "sum" _ e1 e2 (by decide +kernel) (by decide +kernel) A (bi_sum (hv.calm (biCool_ok h0 rfl)))
    | all_ => obtain ⟨e1, e2⟩ := biN_one (y := ("all" : Str)) h5 (by decide); exact key "all" _ e1 e2 (by decide +kernel) (by decide +kernel) A (bi_all (hv.calm (biCool_ok h0 rfl)))
    | min1 => obtain ⟨e1, e2⟩ := biN_one (y := ("min" : Str)) h5 (by decide); exact key "min" _ e1 e2 (by decide +kernel) (by decide +kernel) A (bi_min1 (hv.calm (biCool_ok h0 rfl)))
    | min2 => obtain ⟨e1, e2⟩ := biN_one (y := ("min" : Str)) h5 (by decide); exact key "min" _ e1 e2 (by decide +kernel) (by decide +kernel) A (bi_min2 (hv.calm (biCool_ok h0 rfl)))
    | max2 => obtain ⟨e1, e2⟩ := biN_one (y := ("max" : Str)) h5 (by decide); exact key "max" _ e1 e2 (by decide +kernel) (by decide +kernel) A (bi_max2 (hv.calm (biCool_ok h0 rfl)))
  · cases h) (fun _ _ => rfl) (fun _ _ _ => rfl) (fun _ _ h => by cases h)
theorem g_isC (j : Nat) {a : PyE} (ha : Gd Z T G ft k a) : Gd Z T G ft k (.isC j a) := Gd.of (fun kx X W e hx hv tk h => by
  simp only [okE] at h
  split at h
  · rename_i x p1 e1 y p3 p2
    simp only [Bool.and_eq_true, decide_eq_true_eq, Bool.not_eq_true'] at h
    obtain ⟨⟨⟨⟨⟨⟨h1, h2⟩, h3⟩, h4⟩, h5⟩, h6⟩, h7⟩ := h
    subst h1
    obtain ⟨g1, g2⟩ := hv.gl h2
    have hm := hx.bl _ h3
    obtain ⟨gy1, gy2⟩ := hv.gl h6
    obtain ⟨q1, q2⟩ := hx.isi _ _ h7
    have P := (ha.ge kx X W _ hx hv tk h5).1
    have Ty : PE X (.Name y p3) (tC (.ref (G.ca j))) := pe_glob gy1 q1 rfl gy2
    refine both hx (de_isC hx.hK q2 ?_) rfl
    exact pe_callB call_isi g1 hm (by decide +kernel) (pa_cons P (pa_cons Ty pa_nil (star_cons rfl)) (star_cons h4)) (by decide +kernel) g2 (star_cons h4) rfl
  · cases h) (fun _ _ => rfl) (fun _ _ _ => rfl) (fun _ _ h => by cases h)
theorem g_isX (j : Nat) {a : PyE} (ha : Gd Z T G ft k a) : Gd Z T G ft k (.isX j a) := Gd.of (fun kx X W e hx hv tk h => by
  simp only [okE] at h
  split at h
  · rename_i x p1 e1 y p3 p2
    simp only [Bool.and_eq_true, decide_eq_true_eq, Bool.not_eq_true'] at h
    obtain ⟨⟨⟨⟨⟨⟨h1, h2⟩, h3⟩, h4⟩, h5⟩, h6⟩, h7⟩ := h
    subst h1
    obtain ⟨g1, g2⟩ := hv.gl h2
    have hm := hx.bl _ h3
    obtain ⟨gy1, gy2⟩ := hv.gl h6
    obtain ⟨c, u, q1, q2, q3, q4⟩ := hx.xis _ _ h7
    have P := (ha.ge kx X W _ hx hv tk h5).1
    have Ty : PE X (.Name y p3) (tC c) := by
      rcases q3 with q3 | ⟨q3, q5, q6⟩
      · exact pe_glob gy1 q3 q2 gy2
      · exact pe_bltn gy1 q3 q5 q2 q6 gy2
    refine both hx (de_isX hx.hK q1 q4 ?_) rfl
    exact pe_callB call_isX g1 hm (by decide +kernel) (pa_cons P (pa_cons Ty pa_nil (star_cons rfl)) (star_cons h4)) (by decide +kernel) g2 (star_cons h4) rfl
  · cases h) (fun _ _ => rfl) (fun _ _ _ => rfl) (fun _ _ h => by cases h)
theorem xis_at (hx : Sx Z T G ft k X) (hv : Ev G kx k X) : ∀ {es : List Expr} {js : List Nat}, xisB kx.gl Z.xis es js = true → ∃ (cs : List V) (us : List Value), Paired ClsV cs us ∧ PA X es (tCs cs) ∧ cs.length = js.length ∧ ∀ d b, isXTL T d js = some b → (js ≠ [] → ExcC X.K (G.ca d)) ∧ PySem.W.kitAny X.K (.ref (G.ca d)) us = some b
  | [], [], _ => ⟨[], [], .nil, pa_nil, rfl, fun d b e => ⟨fun z => absurd rfl z, e⟩⟩
  | .Name y p :: es, j :: js, h => by
    simp only [xisB, Bool.and_eq_true, decide_eq_true_eq] at h
    obtain ⟨⟨h1, h2⟩, h3⟩ := h
    obtain ⟨gy1, gy2⟩ := hv.gl h1
    obtain ⟨c, u, q1, q2, q3, q4⟩ := hx.xis _ _ h2
    obtain ⟨cs, us, i1, i2, i3, i4⟩ := xis_at hx hv h3
    have Ty : PE X (.Name y p) (tC c) := by
      rcases q3 with q3 | ⟨q3, q5, q6⟩
      · exact pe_glob gy1 q3 q2 gy2
      · exact pe_bltn gy1 q3 q5 q2 q6 gy2
    refine ⟨c :: cs, u :: us, .cons q1 i1, pa_cons Ty i2 (star_cons rfl), by simp [i3], fun d b e => ?_⟩
    unfold isXTL at e
    cases e1 : T.isX j d with
    | none => rw [e1] at e; cases e
    | some b1 =>
      rw [e1] at e
      obtain ⟨k1, k2⟩ := q4 d b1 e1
      refine ⟨fun _ => k1, ?_⟩
      unfold PySem.W.kitAny
      rw [k2]
      cases b1 with
      | true => exact e
      | false => exact (i4 d b e).2
  | [], _ :: _, h => by simp [xisB] at h
  | e :: es, [], h => by cases e <;> simp [xisB] at h
theorem g_isXT (js : List Nat) {a : PyE} (ha : Gd Z T G ft k a) : Gd Z T G ft k (.isXT js a) := Gd.of (fun kx X W e hx hv tk h => by
  simp only [okE] at h
  split at h
  · rename_i x p1 e1 es p3 p4 p2
    simp only [Bool.and_eq_true, decide_eq_true_eq, Bool.not_eq_true'] at h
    obtain ⟨⟨⟨⟨⟨⟨⟨h1, h2⟩, h3⟩, h4⟩, h5⟩, h6⟩, h7⟩, h8⟩ := h
    subst h1
    obtain ⟨g1, g2⟩ := hv.gl h2
    have hm := hx.bl _ h3
    obtain ⟨cs, us, i1, i2, i3, i4⟩ := xis_at hx hv h8
    have P := (ha.ge kx X W _ hx hv tk h5).1
    have hj : js ≠ [] := fun z => by subst z; cases h6
    refine both hx (de_isXT hx.hK (by rw [i3]; have e : sizeLine = 16777216 := by decide
                                      omega) i1 (fun d b e => ⟨(i4 d b e).1 hj, (i4 d b e).2⟩) ?_) rfl
    exact pe_callB call_isXT g1 hm (by decide +kernel) (pa_cons P (pa_cons (pe_tup i2) pa_nil (star_cons rfl)) (star_cons h4)) (by decide +kernel) g2 (star_cons h4) rfl
  · cases h) (fun _ _ => rfl) (fun _ _ _ => rfl) (fun _ _ h => by cases h)
theorem g_xfld (f : Nat) {a : PyE} (ha : Gd Z T G ft k a) : Gd Z T G ft k (.xfld a f) := Gd.of (fun kx X W e hx hv tk h => by
  simp only [okE] at h
  split at h
  · simp only [Bool.and_eq_true, decide_eq_true_eq, Bool.not_eq_true'] at h
    obtain ⟨⟨h1, h2⟩, h3⟩ := h
    exact both hx (de_xfld hx.xfk hx.hK (hx.nm h1).1 (ha.ge kx X W _ hx hv tk h3).1 (base_of h2)) rfl
  · cases h) (fun _ _ => rfl) (fun _ _ _ => rfl) (fun _ _ h => by cases h)
theorem g_sortK (i : Nat) {a : PyE} (ha : Gd Z T G ft k a) : Gd Z T G ft k (.sortK a i) := Gd.of (fun kx X W e hx hv tk h => by
  simp only [okE] at h
  split at h
  · rename_i x p e1 kn y yp y2 p1 i2 kd p2 p3 scope lpos kpos pos
    simp only [Bool.and_eq_true, decide_eq_true_eq, Bool.not_eq_true'] at h
    obtain ⟨⟨⟨⟨⟨⟨⟨⟨⟨⟨⟨⟨h0, h1⟩, h2⟩, h3⟩, h4⟩, h5⟩, h6⟩, h7⟩, h8⟩, h9⟩, h10⟩, h11⟩, h12⟩ := h
    subst h2 h6 h7 h8
    obtain ⟨g1, g2⟩ := hv.gl h1
    exact both hx (de_sortK hx.hK (ha.ge kx X W _ hx hv tk h12).1 g1 (hx.bl _ h3) (hv.lam h4) (lamK_by h10) h11 rfl bind1_of h9 (hv.room0 h0).depth (star_cons h5)) rfl
  · cases h) (fun _ _ => rfl) (fun _ _ _ => rfl) (fun _ _ h => by cases h)
theorem g_callH (f : Nat) {a : PyE} (ha : Gd Z T G ft k a) : Gd Z T G ft k (.callH f a) := Gd.of (fun kx X W e hx hv tk h => by
  simp only [okE] at h
  split at h
  · simp only [Bool.and_eq_true, decide_eq_true_eq] at h
    obtain ⟨⟨⟨h1, h2⟩, h3⟩, h4⟩ := h
    obtain ⟨g1, g2⟩ := hv.gl h1
    obtain ⟨fa, fd, ps, q1, q2, q3, q4⟩ := hx.fnh _ f h2
    obtain ⟨s1, s2⟩ := nostar_hd h3
    exact both hx (de_callH q3 tk hv.warm g1 q1 q2 q4 (ha.ga kx X W _ hx hv tk h4) g2 (star_cons s1) (star_plain s2).1) rfl
  · cases h) (fun _ _ => rfl) (fun _ _ _ => rfl) (fun _ _ h => by cases h)
end
end Nw

set_option Elab.async false
set_option linter.all false
set_option maxRecDepth 100000
set_option maxHeartbeats 4000000
namespace Nw
open PySem L2
section
variable {Z : Tb} {T : Tab} {G : Cfg} {ft : Fns} {k : Nat} {X : Cx} {kx : Kx} {W : WX}

theorem len1 {es : List Expr} {x y : Str} {n : Nat} (h : (decide (x = y) && es.length == n) = true) : x = y ∧ es.length = n := by
  simpa only [Bool.and_eq_true, decide_eq_true_eq, beq_iff_eq] using h
theorem g_bm (m : Bm) {a as : PyE} (ha : Gd Z T G ft k a) (has : Gd Z T G ft k as) : Gd Z T G ft k (.bm m a as) := Gd.of (fun kx X W e hx hv tk h => by
  simp only [okE] at h
  split at h
  · rename_i o x apos es pos
    simp only [Bool.and_eq_true, decide_eq_true_eq, Bool.not_eq_true'] at h
    obtain ⟨⟨⟨⟨⟨⟨h1, h2⟩, h3⟩, h4⟩, h5⟩, h6⟩, h7⟩ := h
    have O := (ha.ge kx X W _ hx hv tk h5).1
    have A := has.ga kx X W _ hx hv tk h6
    have hu : X.A.units + 1 < cLine := by have := hx.hu; omega
    refine both hx ?_ rfl
    have key1 : ∀ {id T1 : String} {kd : Kd} {y : Str}, x = y → es.length = 1 → (∀ k', bmK m k' = true → k' = kd) → (∀ {μ S H} {v : Val} {x : V}, Sim G μ S H → RV μ H v x → kdOf S v = some kd → tyV G.K T1 x H) → PlainAttrs T1 → Slot T1 y id → typeOf (.builtin id) = pure (.type "method_descriptor") → MtR X id (StM X (bmV0 m)) →
        PE X (.Call (.Attribute o x apos) es [] pos) (lift G W (ev T ft (.bm m a as))) := fun {id T1 kd y} e1 e2 hk hT pa sl ty mt => by
      subst e1
      match es, e2 with
      | [e], _ =>
      obtain ⟨s1, s2⟩ := nostar_hd h2
      exact de_bmT hx.hK hk hT (pe_bm pa sl ty mt O A (base_of h1) (few_of h2 h3) h4 (star_cons s1) (star_plain s2).1)
    have key0 : ∀ {id T1 : String} {kd : Kd} {y : Str}, x = y → es.length = 0 → (∀ k', bmK m k' = true → k' = kd) → (∀ {μ S H} {v : Val} {x : V}, Sim G μ S H → RV μ H v x → kdOf S v = some kd → tyV G.K T1 x H) → PlainAttrs T1 → Slot T1 y id → typeOf (.builtin id) = pure (.type "method_descriptor") → MtR X id (StM X (bmV0 m)) →
        PE X (.Call (.Attribute o x apos) es [] pos) (lift G W (ev T ft (.bm m a as))) := fun {id T1 kd y} e1 e2 hk hT pa sl ty mt => by
      subst e1
      obtain rfl := List.length_eq_zero_iff.mp e2
      obtain rfl := okA_nil h6
      exact de_bmT0 hx.hK hk hT (pe_bm0 pa sl ty mt O (base_of h1) h4)
    have d1 : ∀ {y : Str}, x = y → es.length = 1 → ∃ e p, es = [e] ∧ as = .cons p .nil ∧ PE X e (lift G W (ev T ft p)) ∧ M1 X o y apos e pos := fun {y} e1 e2 => by
      subst e1
      match es, e2 with
      | [e], _ =>
      obtain ⟨p, q, rfl, s1, w1, w2⟩ := okA_cons h6
      obtain rfl := okA_nil w2
      exact ⟨e, p, rfl, rfl, ((has.hd p .nil rfl).1 kx X W _ hx hv tk w1).1, base_of h1, few_of h2 h3, h4, by rw [star_cons s1]; rfl⟩
    have d2 : ∀ {y : Str}, x = y → es.length = 2 → ∃ e f p q, es = [e, f] ∧ as = .cons p (.cons q .nil) ∧ PE X e (lift G W (ev T ft p)) ∧ PE X f (lift G W (ev T ft q)) ∧ M2 X o y apos e f pos := fun {y} e1 e2 => by
      subst e1
      match es, e2 with
      | [e, f], _ =>
      obtain ⟨p, q, rfl, s1, w1, w2⟩ := okA_cons h6
      obtain ⟨p2, q2, rfl, s2, w3, w4⟩ := okA_cons w2
      obtain rfl := okA_nil w4
      obtain ⟨g1, _, _, g2⟩ := has.hd p _ rfl
      exact ⟨e, f, p, p2, rfl, rfl, (g1 kx X W _ hx hv tk w1).1, ((g2 p2 .nil rfl).1 kx X W _ hx hv tk w3).1, base_of h1, few_of h2 h3, h4, by rw [star_cons s1, star_cons s2]; rfl⟩
    cases m with
    | append => obtain ⟨e1, e2⟩ := len1 (y := ("append" : Str)) h7; exact key1 e1 e2 (kd := .list) (by intro k' h; cases k' <;> first | rfl | cases h ) (fun s r k => ty_list s r k) F.plainAttrs_list F.slot_list_append F.type_list_append mt_app
    | extend => obtain ⟨e1, e2⟩ := len1 (y := ("extend" : Str)) h7; exact key1 e1 e2 (kd := .list) (by intro k' h; cases k' <;> first | rfl | cases h ) (fun s r k => ty_list s r k) F.plainAttrs_list F.slot_list_extend F.type_list_extend mt_ext
    | pop0 => obtain ⟨e1, e2⟩ := len1 (y := ("pop" : Str)) h7; exact key0 e1 e2 (kd := .list) (by intro k' h; cases k' <;> first | rfl | cases h ) (fun s r k => ty_list s r k) F.plainAttrs_list F.slot_list_pop F.type_list_pop mt_pop0
    | popL => obtain ⟨e1, e2⟩ := len1 (y := ("pop" : Str)) h7; exact key1 e1 e2 (kd := .list) (by intro k' h; cases k' <;> first | rfl | cases h ) (fun s r k => ty_list s r k) F.plainAttrs_list F.slot_list_pop F.type_list_pop mt_popL
    | clear => obtain ⟨e1, e2⟩ := len1 (y := ("clear" : Str)) h7; exact key0 e1 e2 (kd := .list) (by intro k' h; cases k' <;> first | rfl | cases h ) (fun s r k => ty_list s r k) F.plainAttrs_list F.slot_list_clear F.type_list_clear mt_clr
    | reverse => obtain ⟨e1, e2⟩ := len1 (y := ("reverse" : Str)) h7; exact key0 e1 e2 (kd := .list) (by intro k' h; cases k' <;> first | rfl | cases h ) (fun s r k => ty_list s r k) F.plainAttrs_list F.slot_list_reverse F.type_list_reverse mt_rev
    | index => obtain ⟨e1, e2⟩ := len1 (y := ("index" : Str)) h7; exact key1 e1 e2 (kd := .list) (by intro k' h; cases k' <;> first | rfl | cases h ) (fun s r k => ty_list s r k) F.plainAttrs_list F.slot_list_index F.type_list_index mt_idx
    | count => obtain ⟨e1, e2⟩ := len1 (y := ("count" : Str)) h7; exact key1 e1 e2 (kd := .list) (by intro k' h; cases k' <;> first | rfl | cases h ) (fun s r k => ty_list s r k) F.plainAttrs_list F.slot_list_count F.type_list_count mt_cnt
    | remove => obtain ⟨e1, e2⟩ := len1 (y := ("remove" : Str)) h7; exact key1 e1 e2 (kd := .list) (by intro k' h; cases k' <;> first | rfl | cases h ) (fun s r k => ty_list s r k) F.plainAttrs_list F.slot_list_remove F.type_list_remove mt_rem
    | startswith => obtain ⟨e1, e2⟩ := len1 (y := ("startswith" : Str)) h7; exact key1 e1 e2 (kd := .str) (by intro k' h; cases k' <;> first | rfl | cases h ) (fun s r k => ty_str s r k) F.plainAttrs_str F.slot_str_startswith F.type_str_startswith mt_sw
    | join => obtain ⟨e1, e2⟩ := len1 (y := ("join" : Str)) h7; exact key1 e1 e2 (kd := .str) (by intro k' h; cases k' <;> first | rfl | cases h ) (fun s r k => ty_str s r k) F.plainAttrs_str F.slot_str_join F.type_str_join mt_jn
    | split => obtain ⟨e1, e2⟩ := len1 (y := ("split" : Str)) h7; exact key1 e1 e2 (kd := .str) (by intro k' h; cases k' <;> first | rfl | cases h ) (fun s r k => ty_str s r k) F.plainAttrs_str F.slot_str_split F.type_str_split mt_spl
    | lower => obtain ⟨e1, e2⟩ := len1 (y := ("lower" : Str)) h7; exact key0 e1 e2 (kd := .str) (by intro k' h; cases k' <;> first | rfl | cases h ) (fun s r k => ty_str s r k) F.plainAttrs_str F.slot_str_lower F.type_str_lower mt_lwr
    | isalpha => obtain ⟨e1, e2⟩ := len1 (y := ("isalpha" : Str)) h7; exact key0 e1 e2 (kd := .str) (by intro k' h; cases k' <;> first | rfl | cases h ) (fun s r k => ty_str s r k) F.plainAttrs_str F.slot_str_isalpha F.type_str_isalpha mt_alpha
    | get1 =>
      obtain ⟨e1, e2⟩ := len1 (y := ("get" : Str)) h7
      obtain ⟨e, p, rfl, rfl, P, M⟩ := d1 e1 e2
      subst e1
      exact de_get1 hu O P M
    | get2 =>
      obtain ⟨e1, e2⟩ := len1 (y := ("get" : Str)) h7
      obtain ⟨e, f, p, q, rfl, rfl, P, P2, M⟩ := d2 e1 e2
      subst e1
      exact de_get2 hu O P P2 M
    | popD =>
      obtain ⟨e1, e2⟩ := len1 (y := ("pop" : Str)) h7
      obtain ⟨e, p, rfl, rfl, P, M⟩ := d1 e1 e2
      subst e1
      exact de_pop1 (by have := hx.hu; omega) O P M
    | pop2 =>
      obtain ⟨e1, e2⟩ := len1 (y := ("pop" : Str)) h7
      obtain ⟨e, f, p, q, rfl, rfl, P, P2, M⟩ := d2 e1 e2
      subst e1
      exact de_pop2 O P P2 M
    | setdefault =>
      obtain ⟨e1, e2⟩ := len1 (y := ("setdefault" : Str)) h7
      obtain ⟨e, f, p, q, rfl, rfl, P, P2, M⟩ := d2 e1 e2
      subst e1
      exact de_sdef O P P2 M
  · cases h) (fun _ _ => rfl) (fun _ _ _ => rfl) (fun _ _ h => by cases h)

/-! targets, iterables, comprehensions -/
theorem namesT_ok (hx : Sx Z T G ft k X) (hv : Ev G kx k X) (es : List Expr) : ∀ (is : List Nat), namesT es is kx = true → PGs X es (gNs is) ∧ es.length = is.length ∧ es.all (fun e => !isStar e) = true := by
  induction es with
  | nil =>
    intro is h
    cases is with
    | nil => exact ⟨pgs_nil, rfl, rfl⟩
    | cons i is => simp [namesT] at h
  | cons e es ih =>
    intro is h
    cases is with
    | nil => cases e <;> simp [namesT] at h
    | cons i is =>
      cases e with
      | Name x p =>
        simp only [namesT, Bool.and_eq_true, decide_eq_true_eq] at h
        obtain ⟨⟨h1, h2⟩, h3⟩ := h
        obtain ⟨r1, r2, r3⟩ := ih is h3
        obtain ⟨l1, l2⟩ := hv.loc h2
        refine ⟨pgs_cons (pg_name hx.hN (hv.ix h1) l1 l2) r1 (by rw [asg_cons rfl]; rfl), by simp [r2], ?_⟩
        simp only [List.all_cons, r3]
        rfl
      | _ => simp [namesT] at h
theorem PG.imp {X : Cx} {e : Expr} {t t' : TG} (h : PG X e t) (i : ∀ v σ H Q, t' v σ H Q → t v σ H Q) : PG X e t' := ⟨fun pins s σ H v u Q I r q => h.run pins s σ H v u Q I r (i v σ H Q q)⟩
theorem tgtB_ok (hx : Sx Z T G ft k X) (hv : Ev G kx k X) {tp : Bool} (h0 : kx.hot = false ∨ tp = false) {is : List Nat} {e : Expr} (h : tgtB kx tp is e = true) : PG X e (gT X.K tp is) := by
  unfold tgtB at h
  split at h
  · simp only [Bool.and_eq_true, decide_eq_true_eq] at h
    obtain ⟨l1, l2⟩ := hv.loc h.2
    refine PG.imp (pg_name hx.hN (hv.ix h.1) l1 l2) fun v σ H Q q => ?_
    unfold gT at q
    rw [if_neg Bool.false_ne_true] at q
    obtain ⟨i, hi, q⟩ := q
    cases hi
    exact q
  · obtain ⟨r1, r2, r3⟩ := namesT_ok hx hv _ _ h
    obtain ⟨a1, a2⟩ := asg_len (env := X.env) r3
    refine PG.imp (pg_tup (hv.calm (h0.elim id fun z => Bool.noConfusion z)) r1 a1 a2) fun v σ H Q q => ?_
    unfold gT at q
    rw [if_pos rfl] at q
    rw [r2]
    exact q
  · cases h
theorem tgtL_ok (hx : Sx Z T G ft k X) (hv : Ev G kx k X) (h0 : kx.hot = false) {is : List Nat} {e : Expr} (h : tgtB kx true is e = true) : PG X e (gTL X.K is) := by
  unfold tgtB at h
  split at h
  · rename_i hh; cases hh
  · obtain ⟨r1, r2, r3⟩ := namesT_ok hx hv _ _ h
    obtain ⟨a1, a2⟩ := asg_len (env := X.env) r3
    refine PG.imp (pg_lst (hv.calm h0) r1 a1 a2) fun v σ H Q q => ?_
    unfold gTL at q
    rw [r2]
    exact q
  · cases h
theorem isTup_ok {e : Expr} (h : isTup e = true) : ∃ es k p, e = .Tuple es k p := by
  unfold isTup at h
  split at h
  · exact ⟨_, _, _, rfl⟩
  · cases h
theorem okI_ok (hx : Sx Z T G ft k X) (hv : Ev G kx k X) (tk : L2N.Takes X W) {kd : ItK} {as : PyE} {iter tg : Expr} (has : Gd Z T G ft k as) (h : okI Z T kx kd as iter tg = true) : PI X tg iter (iG G W kd (evA T ft as)) := by
  cases as with
  | cons a b =>
    have hh := has.hd a b rfl
    have GAll := has.ga
    simp only [okI] at h
    cases kd with
    | val =>
      simp only at h
      split at h
      · exact di_val hx.hK (hh.1 kx X W _ hx hv tk h).1
      · cases h
    | range =>
      simp only at h
      split at h
      · rename_i x p e es pos
        simp only [Bool.and_eq_true, decide_eq_true_eq, Bool.not_eq_true'] at h
        obtain ⟨⟨⟨⟨⟨⟨⟨h1, h2⟩, h3⟩, h4⟩, h5⟩, h6⟩, h7⟩, h8⟩ := h
        obtain ⟨g1, g2⟩ := hv.gl h2
        have hm := hx.bl x h3
        subst h1
        have A := GAll kx X W (e :: es) hx hv tk (by simp only [okA, Bool.and_eq_true, Bool.not_eq_true']; exact ⟨⟨h4, h5⟩, h6⟩)
        match es, h7 with
        | [], _ =>
          obtain rfl := okA_nil h6
          exact di_range1 g1 hm A (by rw [star_cons h4]; rfl)
        | [f], _ =>
          obtain ⟨p2, q2, rfl, s2, w3, w4⟩ := okA_cons h6
          obtain rfl := okA_nil w4
          exact di_range2 g1 hm A (by rw [star_cons h4, star_cons s2]; rfl) (by rw [star_cons s2]; rfl)
        | [f, g], _ =>
          obtain ⟨p2, q2, rfl, s2, w3, w4⟩ := okA_cons h6
          obtain ⟨p3, q3, rfl, s3, w5, w6⟩ := okA_cons w4
          obtain rfl := okA_nil w6
          exact di_range3 g1 hm A (by rw [star_cons h4]) (fun pos => by rw [star_cons s2, star_cons s3]; rfl)
        | _ :: _ :: _ :: _, h7 => simp at h7
      · cases h
    | enm =>
      simp only at h
      split at h
      · rename_i x p e es pos
        simp only [Bool.and_eq_true, decide_eq_true_eq, Bool.not_eq_true'] at h
        obtain ⟨⟨⟨⟨⟨⟨⟨h1, h2⟩, h3⟩, h4⟩, h5⟩, h6⟩, h7⟩, h8⟩ := h
        obtain ⟨g1, g2⟩ := hv.gl h2
        have hm := hx.bl x h3
        subst h1
        obtain rfl := isEmp_nil h7
        obtain ⟨ets, ek, ep, rfl⟩ := isTup_ok h8
        have A := GAll kx X W [e] hx hv tk (by simp only [okA, Bool.and_eq_true, Bool.not_eq_true']; exact ⟨⟨h4, h5⟩, h6⟩)
        obtain rfl := okA_nil h6
        exact di_enm hx.hK g1 hm A (by rw [star_cons h4]; rfl)
      · cases h
    | zp =>
      simp only at h
      split at h
      · rename_i x p e es pos
        simp only [Bool.and_eq_true, decide_eq_true_eq, Bool.not_eq_true'] at h
        obtain ⟨⟨⟨⟨⟨⟨⟨⟨h1, h2⟩, h3⟩, h4⟩, h5⟩, h6⟩, h7⟩, h8⟩, h9⟩ := h
        obtain ⟨g1, g2⟩ := hv.gl h2
        have hm := hx.bl x h3
        subst h1
        obtain ⟨ets, ek, ep, rfl⟩ := isTup_ok h8
        have A := GAll kx X W (e :: es) hx hv tk (by simp only [okA, Bool.and_eq_true, Bool.not_eq_true']; exact ⟨⟨h4, h5⟩, h6⟩)
        match es, h7 with
        | [f], _ =>
          obtain ⟨p2, q2, rfl, s2, w3, w4⟩ := okA_cons h6
          obtain rfl := okA_nil w4
          exact di_zp hx.hK g1 hm A (star_cons h4) (star_plain h9).1
      · cases h
    | rv =>
      simp only at h
      split at h
      · rename_i x p e es pos
        simp only [Bool.and_eq_true, decide_eq_true_eq, Bool.not_eq_true'] at h
        obtain ⟨⟨⟨⟨⟨⟨h1, h2⟩, h3⟩, h4⟩, h5⟩, h6⟩, h7⟩ := h
        obtain ⟨g1, g2⟩ := hv.gl h2
        have hm := hx.bl x h3
        subst h1
        obtain rfl := isEmp_nil h7
        have A := GAll kx X W [e] hx hv tk (by simp only [okA, Bool.and_eq_true, Bool.not_eq_true']; exact ⟨⟨h4, h5⟩, h6⟩)
        obtain rfl := okA_nil h6
        exact di_rv hx.hK g1 hm A (by rw [star_cons h4]; rfl)
      · cases h
    | rvr =>
      simp only at h
      split at h
      · rename_i x p y p2 e pos2 pos
        simp only [Bool.and_eq_true, decide_eq_true_eq, Bool.not_eq_true'] at h
        obtain ⟨⟨⟨⟨⟨⟨⟨h1, h2⟩, h3⟩, h4⟩, h5⟩, h6⟩, h7⟩, h8⟩ := h
        obtain ⟨g1, g2⟩ := hv.gl h2
        obtain ⟨gy1, gy2⟩ := hv.gl h5
        have hm := hx.bl x h3
        have hm2 := hx.bl y h6
        subst h1 h4
        exact di_rvr g1 hm gy1 hm2 (hh.1 kx X W _ hx hv tk h8).1 (star_cons h7)
      · cases h
    | keys =>
      simp only at h
      split at h
      · exact di_keys (hh.1 kx X W _ hx hv tk h).1
      · cases h
    | items =>
      simp only at h
      split at h
      · simp only [Bool.and_eq_true, decide_eq_true_eq, Bool.not_eq_true'] at h
        obtain ⟨⟨⟨⟨h1, h2⟩, h3⟩, h4⟩, h5⟩ := h
        subst h1
        obtain ⟨ets, ek, ep, rfl⟩ := isTup_ok h4
        exact di_items (hh.1 kx X W _ hx hv tk h5).1 (base_of h2) h3
      · cases h
  | _ => simp [okI] at h
/-- range(n), its argument seen -/
theorem okI_rng (hx : Sx Z T G ft k X) (hv : Ev G kx k X) (tk : L2N.Takes X W) {pa : PyE} {iter tg : Expr} (has : Gd Z T G ft k (.cons pa .nil)) (h : okI Z T kx .range (.cons pa .nil) iter tg = true) :
    ∃ p e pos, iter = .Call (.Name "range" p) [e] [] pos ∧ Gl X "range" ∧ X.mg "range" = none ∧ PA X [e] (liftA G W (evA T ft (.cons pa .nil))) ∧ starEach [e] X.env = [(false, eval e X.env)] := by
  simp only [okI] at h
  split at h
  · rename_i x p e es pos
    simp only [Bool.and_eq_true, decide_eq_true_eq, Bool.not_eq_true'] at h
    obtain ⟨⟨⟨⟨⟨⟨⟨h1, h2⟩, h3⟩, h4⟩, h5⟩, h6⟩, h7⟩, h8⟩ := h
    have e0 : es = [] := isEmp_nil (by simpa only [okA] using h6)
    subst e0 h1
    obtain ⟨g1, g2⟩ := hv.gl h2
    have A := has.ga kx X W [e] hx hv tk (by simp only [okA, Bool.and_eq_true, Bool.not_eq_true']; exact ⟨⟨h4, h5⟩, rfl⟩)
    exact ⟨p, e, pos, rfl, g1, hx.bl _ h3, A, star_cons h4⟩
  · cases h
/-- what a comprehension needs, seen once -/
theorem comp_parts (hx : Sx Z T G ft k X) (hv : Ev G kx k X) {elt : PyE} {tp : Bool} {is : List Nat} {kd : ItK} {as cond : PyE} {e : Expr} (hel : Gd Z T G ft k elt) (has : Gd Z T G ft k as) (hco : Gd Z T G ft k cond) (tk : L2N.Takes X W) (h : okE Z T kx (.comp elt tp is kd as cond) e = true) :
    (kx.hot = false ∨ (kx.kn = true ∧ hotC kd as tp = true)) ∧ ∃ el tg iter ifs scope pos, okI Z T kx kd as iter tg = true ∧ e = .ListComp el [⟨tg, iter, ifs, 0⟩] scope pos ∧ PI X tg iter (iG G W kd (evA T ft as)) ∧ BlkOk X.N X.env.scope scope (ownOf kx.N is) ∧ (ownOf kx.N is).map (·.2) = is ∧
    (∀ (s : Shared) (H : Hp) (C : Addr) (cl : List (Str × Addr)) (fp : List Addr), PG (X.blk s H scope (compEnvC scope cl C X.env) fp) tg (gT X.K tp is)) ∧
    (∀ (s : Shared) (H : Hp) (C : Addr) (cl : List (Str × Addr)) (fp : List Addr), PTs (X.blk s H scope (compEnvC scope cl C X.env) fp) ifs (liftT G W0 (tst (ev T ft cond)))) ∧
    (∀ (s : Shared) (H : Hp) (C : Addr) (cl : List (Str × Addr)) (fp : List Addr), PE (X.blk s H scope (compEnvC scope cl C X.env) fp) el (lift G W0 (ev T ft elt))) ∧ (∀ x, foldedSetIterable iter X.env x = pure x) := by
  simp only [okE] at h
  split at h
  · rename_i el tg iter ifs scope pos
    simp only [Bool.and_eq_true, decide_eq_true_eq, Bool.not_eq_true'] at h
    obtain ⟨⟨⟨⟨⟨⟨⟨h0, h1⟩, h2⟩, h3⟩, h4⟩, h5⟩, h6⟩, h7⟩ := h
    have h0 : kx.hot = false ∨ (kx.kn = true ∧ hotC kd as tp = true) := by simpa only [Bool.or_eq_true, Bool.not_eq_true', Bool.and_eq_true] using h0
    refine ⟨h0, el, tg, iter, ifs, scope, pos, h5, rfl, okI_ok hx hv tk has h5, blkOk_by (by rw [hv.N, hv.sc]; exact h2), h3, fun s H C cl fp => ?_, fun s H C cl fp => ?_, fun s H C cl fp => ?_, fold_of h1⟩
    · exact tgtB_ok (hx.blk s H scope _ fp) (hv.blk s H scope cl C fp) (h0.imp id fun z => by
        have := z.2
        unfold hotC at this
        simp only [Bool.and_eq_true, Bool.not_eq_true'] at this
        exact this.1) h4
    · split at h7
      · split at h7
        · exact pts_true
        · cases h7
      · exact pts_one (hco.ge (kx.blk scope) _ W0 _ (hx.blk s H scope _ fp) (hv.blk s H scope cl C fp) takes0 h7).2
      · cases h7
    · exact (hel.ge (kx.blk scope) _ W0 _ (hx.blk s H scope _ fp) (hv.blk s H scope cl C fp) takes0 h6).1
  · cases h
theorem g_comp {elt : PyE} (tp : Bool) (is : List Nat) (kd : ItK) {as cond : PyE} (hel : Gd Z T G ft k elt) (has : Gd Z T G ft k as) (hco : Gd Z T G ft k cond) : Gd Z T G ft k (.comp elt tp is kd as cond) := Gd.of (fun kx X W e hx hv tk h => by
  obtain ⟨h0, el, tg, iter, ifs, scope, pos, hi, rfl, c1, c2, c3, c4, c5, c6, c7⟩ := comp_parts hx hv hel has hco tk h
  rcases h0 with h0 | ⟨h0, h0'⟩
  · exact both hx (de_comp (hv.calm h0) hx.hN hx.hK c1 c2 c3 c4 c5 c6 c7) rfl
  · unfold hotC at h0'
    simp only [Bool.and_eq_true, Bool.not_eq_true'] at h0'
    obtain ⟨rfl, h0'⟩ := h0'
    split at h0'
    · obtain ⟨p, e, cpos, rfl, r1, r2, r3, r4⟩ := okI_rng hx hv tk has hi
      exact both hx (de_compK hx.hN hx.hK (hv.hotx h0) r1 r2 r3 r4 c2 c3 c4 c5 c6 c7) rfl
    · cases h0') (fun _ _ => rfl) (fun _ _ _ => rfl) (fun _ _ h => by cases h)

theorem g_lock (i : Nat) (fs : List Pt) {a : PyE} (ha : Gd Z T G ft k a) : Gd Z T G ft k (.lock i fs a) := Gd.of (fun kx X W e hx hv tk h => by
  simp only [okE, Bool.and_eq_true, Bool.not_eq_true'] at h
  exact both hx (de_lock (ha.ge kx X W e hx hv tk h.2).1) h.1.1) (fun _ _ => rfl) (fun _ _ _ => rfl) (fun _ _ h => by cases h)

/-- THE SOUNDNESS of expressions -/
theorem good (Z : Tb) (T : Tab) (G : Cfg) (ft : Fns) (k : Nat) : ∀ p : PyE, Gd Z T G ft k p
  | .c v => g_c v
  | .var i => g_var i
  | .bin o a b => g_bin o (good Z T G ft k a) (good Z T G ft k b)
  | .neg a => g_neg (good Z T G ft k a)
  | .cmp o a b => g_cmp o (good Z T G ft k a) (good Z T G ft k b)
  | .inK n a ks => g_inK n ks (good Z T G ft k a)
  | .isN n a => g_isN n (good Z T G ft k a)
  | .isB n a b => g_isB n (good Z T G ft k a) (good Z T G ft k b)
  | .chain o o' a b c => g_chain o o' (good Z T G ft k a) (good Z T G ft k b) (good Z T G ft k c)
  | .and a b => g_and (good Z T G ft k a) (good Z T G ft k b)
  | .or a b => g_or (good Z T G ft k a) (good Z T G ft k b)
  | .not a => g_not (good Z T G ft k a)
  | .ite t a b => g_ite (good Z T G ft k t) (good Z T G ft k a) (good Z T G ft k b)
  | .nil => g_nil
  | .cons a b => g_cons (good Z T G ft k a) (good Z T G ft k b)
  | .tup a => g_tup (good Z T G ft k a)
  | .lst a => g_lst (good Z T G ft k a)
  | .dnewK => g_dnewK
  | .dnewT => g_dnewT
  | .disp a => g_disp (good Z T G ft k a)
  | .dispL a => g_dispL (good Z T G ft k a)
  | .lstR b s0 pf p1 po y z q => g_lstR b s0 y z (good Z T G ft k pf) (good Z T G ft k p1) (good Z T G ft k po) (good Z T G ft k q)
  | .idx a b => g_idx (good Z T G ft k a) (good Z T G ft k b)
  | .sl a hl lo hh hi => g_sl hl hh (good Z T G ft k a) (good Z T G ft k lo) (good Z T G ft k hi)
  | .fld a f => g_fld f (good Z T G ft k a)
  | .call f a ds => g_call f ds (good Z T G ft k a)
  | .new c f a ds => g_new c f ds (good Z T G ft k a)
  | .meth a m n as => g_meth m n (good Z T G ft k a) (good Z T G ft k as)
  | .bi b a => g_bi b (good Z T G ft k a)
  | .bm m a as => g_bm m (good Z T G ft k a) (good Z T G ft k as)
  | .isC j a => g_isC j (good Z T G ft k a)
  | .revL a => g_revL (good Z T G ft k a)
  | .isX j a => g_isX j (good Z T G ft k a)
  | .isXT js a => g_isXT js (good Z T G ft k a)
  | .xfld a f => g_xfld f (good Z T G ft k a)
  | .callH f a => g_callH f (good Z T G ft k a)
  | .sortK a i => g_sortK i (good Z T G ft k a)
  | .lock i fs a => g_lock i fs (good Z T G ft k a)
  | .comp elt tp is kd as cond => g_comp tp is kd (good Z T G ft k elt) (good Z T G ft k as) (good Z T G ft k cond)
end
end Nw

set_option Elab.async false
set_option linter.all false
set_option maxRecDepth 100000
set_option maxHeartbeats 4000000
namespace Nw
open PySem L2

/-! statements: the checker -/
def Kx.hotter (kx : Kx) : Kx := { kx with hot := true, kn := false }
/-- .. its exception by a name -/
def Kx.hotS (kx : Kx) (s : Option Nat) : Kx := { kx with hot := true, kn := s.isSome }
def lcOk (kx : Kx) (x : Str) (px : Pos) : Expr → Bool
  | .ListComp _ _ scope pos => kx.isLoc x && decide (kx.sc.kind = .function) && (px.line == pos.line) && !(scope.names.any fun (n, k) => n == x && (k == .local || k == .cell))
  | _ => false
def nmOk (kx : Kx) : Option Nat → Option Str → Bool
  | none, none => true
  | some i, some n => decide (kx.N[i]? = some n) && kx.isLoc n
  | _, _ => false
mutual
def okS (Z : Tb) (T : Tab) : Kx → PyS → Stmt → Bool
  | _, .never, _ => true
  | kx, .skip, st => match st with
    | .Pass _ => true
    | .Expr (.Constant (.str _) _ _) _ => true
    | _ => false
  | kx, .expr a, st => match st with
    | .Expr e _ => okE Z T kx a e && !compish e
    | _ => false
  | kx, .asg i a, st => match st with
    | .Assign [.Name x px] e _ => decide (kx.N[i]? = some x) && kx.loc x && okE Z T kx a e && (!compish e || kx.isCell x || (!kx.hot && lcOk kx x px e))
    | _ => false
  | kx, .asgT is a, st => match st with
    | .Assign [.Tuple es _ _] e _ => !kx.hot && namesT es is kx && okE Z T kx a e && !compish e && !tuplish e
    | _ => false
  | kx, .asgL is a, st => match st with
    | .Assign [.Tuple es _ _] e _ => !kx.hot && namesT es is kx && okE Z T kx a e && !compish e && !tuplish e
    | _ => false
  | kx, .setI o i a, st => match st with
    | .Assign [.Subscript o' i' _] e _ => !slicish i' && okE Z T kx a e && okE Z T kx o o' && okE Z T kx i i'
    | _ => false
  | kx, .setF o f a, st => match st with
    | .Assign [.Attribute o' x _] e _ => decide (Z.NM[f]? = some x) && okE Z T kx a e && okE Z T kx o o'
    | _ => false
  | kx, .augV i b a, st => match st with
    | .AugAssign (.Name x _) op e _ => decide (op = augPy b) && augOk b && decide (kx.N[i]? = some x) && kx.loc x && okE Z T kx a e
    | _ => false
  | kx, .augF o f b a, st => match st with
    | .AugAssign (.Attribute o' x _) op e _ => decide (op = augPy b) && augOk b && decide (Z.NM[f]? = some x) && okE Z T kx o o' && okE Z T kx a e
    | _ => false
  | kx, .ite c p q, st => match st with
    | .If c' as bs _ => okE Z T kx c c' && okB Z T kx p as && okB Z T kx q bs
    | _ => false
  | kx, .ret a, st => match st with
    | .Return (some e) _ => okE Z T kx a e
    | .Return none _ => (match a with | .c .non => true | _ => false)
    | _ => false
  | kx, .for_ tp is k as b, st => match st with
    | .For tg iter body [] _ => !kx.hot && !setish iter && tgtB kx tp is tg && okI Z T kx k as iter tg && okB Z T kx b body
    | _ => false
  | kx, .whl c b, st => match st with
    | .While c' body [] _ => !kx.hot && okE Z T kx c c' && okB Z T kx b body
    | _ => false
  | _, .brk, st => match st with
    | .Break _ => true
    | _ => false
  | _, .cnt, st => match st with
    | .Continue _ => true
    | _ => false
  | kx, .raise k a, st => match st with
    | .Raise (some (.Call (.Name x _) (e :: es) [] _)) none _ => !kx.hot && kx.gl x && decide (Z.exs.lookup x = some k) && Z.exr.contains k && nostar (e :: es) && okA Z T kx a (e :: es)
    | _ => false
  | kx, .try1 b k h, st => match st with
    | .Try body [.ExceptHandler (some (.Name x _)) none (s0 :: suite) _] [] [] _ => kx.gl x && decide (Z.exs.lookup x = some k) && okB Z T kx b body && okB Z T kx.hotter h (s0 :: suite)
    | _ => false
  | kx, .lockS _ _ b, st => okS Z T kx b st
  | kx, .raiseF k a, st => match st with
    | .Raise (some (.Call (.Name x _) (e :: es) [] _)) none _ => !kx.hot && kx.gl x && decide (Z.exs.lookup x = some k) && Z.xrs.contains k && nostar (e :: es) && okA Z T kx a (e :: es)
    | _ => false
  | kx, .tryA b h, st => match st with
    | .Try body (h₀ :: hds) [] [] _ => okB Z T kx b body && okH Z T kx h (h₀ :: hds)
    | _ => false
  | _, .hnd _ _ _ _, _ => false
  | _, .seq _ _, _ => false
/-- the clauses of a try -/
def okH (Z : Tb) (T : Tab) : Kx → PyS → List ExceptHandler → Bool
  | _, .skip, hds => isEmp hds
  | kx, .hnd k s h r, hds => match hds with
    | .ExceptHandler (some (.Name x _)) nm (s0 :: suite) _ :: hds => kx.gl x && decide (Z.exs.lookup x = some k) && nmOk kx s nm && okB Z T (kx.hotS s) h (s0 :: suite) && okH Z T kx r hds
    | _ => false
  | _, _, _ => false
def okB (Z : Tb) (T : Tab) : Kx → PyS → List Stmt → Bool
  | _, .never, _ => true
  | _, .skip, sts => isEmp sts
  | kx, .seq a b, sts => match sts with
    | st :: sts => okS Z T kx a st && okB Z T kx b sts
    | [] => false
  | _, _, _ => false
end

section
variable {Z : Tb} {T : Tab} {G : Cfg} {ft : Fns} {k : Nat} {X : Cx} {kx : Kx} {W : WX}

theorem liftA_mono {m : Env → Store → Res (List Val)} {σ : St} {H : Hp} {Q Q' : List V → Hp → Prop} (h : liftA G W m σ H Q) (i : ∀ xs H', Q xs H' → Q' xs H') : liftA G W m σ H Q' := by
  obtain ⟨μ, env, S, s, e, h⟩ := h
  exact ⟨μ, env, S, s, e, h.imp fun vs μ1 S1 H1 u k s1 q xs r => i _ _ (q xs r)⟩
/-- what statements need, too -/
structure Es (G : Cfg) (kx : Kx) (k : Nat) (X : Cx) : Prop where
  ev : Ev G kx k X
  pass : kx.hot = false → PassesOwn (model X.prog X.w) X.A X.env X.xe
  stk : X.stack = X.env :: X.outer
  exn : X.ex = []
  frm : X.env.frame = some X.env.locals
theorem Sx.tr (h : Sx Z T G ft k X) (pn : List (Addr × PySem.Obj)) (xe : Value → Shared → Prop) : Sx Z T G ft k (X.tr pn xe) :=
  ⟨h.hK, h.hNM, h.hN, h.hu, h.fld, h.bl, h.fns, h.cls, h.cst, fun m n c fds h1 h2 => ⟨(h.mts m n c fds h1 h2).ok⟩, h.exs, h.exr, h.cat, h.gc, h.cfn, h.isi, h.xfk, h.xis, h.fnh, h.xrs⟩
theorem Es.tr (h : Es G kx k X) {pn : List (Addr × PySem.Obj)} {xe : Value → Shared → Prop} (p : PassesOwn (model X.prog X.w) X.A X.env xe) : Es G kx k (X.tr pn xe) :=
  ⟨⟨h.ev.N, h.ev.sc, h.ev.fn, h.ev.cool, h.ev.warm, h.ev.k1, (fun e => ⟨(h.ev.lam e).ex⟩), h.ev.hotx⟩, fun _ => p, h.stk, h.exn, h.frm⟩
theorem Sx.suite (h : Sx Z T G ft k X) (a : Addr) (pn : List (Addr × PySem.Obj)) : Sx Z T G ft k (X.suite a pn) :=
  ⟨h.hK, h.hNM, h.hN, h.hu, h.fld, h.bl, h.fns, h.cls, h.cst, fun m n c fds h1 h2 => ⟨(h.mts m n c fds h1 h2).ok⟩, h.exs, h.exr, h.cat, h.gc, h.cfn, h.isi, h.xfk, h.xis, h.fnh, h.xrs⟩
theorem Es.suite (h : Es G kx k X) (a : Addr) (pn : List (Addr × PySem.Obj)) : Es G kx.hotter k (X.suite a pn) :=
  ⟨⟨h.ev.N, h.ev.sc, h.ev.fn, (fun z => Bool.noConfusion (show true = false from z)), ⟨h.ev.warm.dp, h.ev.warm.un⟩, h.ev.k1, (fun e => ⟨(h.ev.lam e).ex⟩), fun z => Bool.noConfusion (show false = true from z)⟩, (fun z => Bool.noConfusion (show true = false from z)), h.stk, h.exn, h.frm⟩

theorem FnW.cool {P : Program} {w : World} {K : PySem.W.Frag} {mg : Str → Option Value} {base : Heap} {fa : Addr} {fd : FuncData} {ps : List Str} {i : Nat} {a : Addr} (F : FnW P w K mg base k fa fd ps (SpF G ft i)) : FnW P w K mg base k fa fd ps (SpF (G.heat a) ft i) where
  len := fun vs H Q E q => F.len vs H Q E (spF_cool q)
  run := fun A outer s H args us vs Q E hr he hb hv q => F.run A outer s H args us vs Q E hr he hb hv (spF_cool q)
theorem Sx.warm (h : Sx Z T G ft k X) (a : Addr) : Sx Z T (G.heat a) ft k X where
  hK := h.hK
  hNM := h.hNM
  hN := h.hN
  hu := h.hu
  fld := ⟨h.fld.cls, h.fld.fld⟩
  bl := h.bl
  fns := fun x f e => let ⟨fa, fd, ps, m, kp, F, d⟩ := h.fns x f e; ⟨fa, fd, ps, m, kp, F.imp fun _ _ _ _ => spF_cool, d⟩
  cls := fun x c f e => let ⟨fa, fd, ps, m, kp, F, d⟩ := h.cls x c f e; ⟨fa, fd, ps, m, kp, F.imp fun _ _ _ _ => spF_cool, d⟩
  cst := h.cst
  mts := fun m n c fds h1 h2 => let ⟨fa, fd, ps, q1, q2, F, d⟩ := (h.mts m n c fds h1 h2).ok; ⟨fa, fd, ps, q1, q2, F.imp fun _ _ _ _ => spF_cool, d⟩
  exs := h.exs
  exr := h.exr
  cat := h.cat
  gc := h.gc
  cfn := fun x m f e => let ⟨C, fa, fd, ps, q1, q2, q3, q4, F, d⟩ := h.cfn x m f e; ⟨C, fa, fd, ps, q1, q2, q3, q4, F.imp fun _ _ _ _ => spF_cool, d⟩
  isi := h.isi
  xfk := ⟨h.xfk.at_⟩
  xis := h.xis
  fnh := fun x f e => let ⟨fa, fd, ps, m, kp, F, d⟩ := h.fnh x f e; ⟨fa, fd, ps, m, kp, F.cool, d⟩
  xrs := h.xrs
theorem Sx.warmS (h : Sx Z T G ft k X) (s : Option Nat) (a : Addr) : Sx Z T (G.heatS s a) ft k X := by
  cases s with
  | none => exact h
  | some i => exact h.warm a
theorem Es.suiteS (h : Es G kx k X) (s : Option Nat) (a : Addr) (pn : List (Addr × PySem.Obj)) : Es (G.heatS s a) (kx.hotS s) k (X.suite a pn) := by
  cases s with
  | none => exact h.suite a pn
  | some i =>
    exact ⟨⟨h.ev.N, h.ev.sc, h.ev.fn, (fun z => Bool.noConfusion (show true = false from z)), ⟨h.ev.warm.dp, h.ev.warm.un⟩, h.ev.k1, (fun e => ⟨(h.ev.lam e).ex⟩), fun _ => ⟨a, List.mem_cons_self, rfl⟩⟩, (fun z => Bool.noConfusion (show true = false from z)), h.stk, h.exn, h.frm⟩

theorem ds_never {st : Stmt} : PS X st (liftS G W (ex T ft .never)) := ⟨fun pins s σ H D I ⟨μ, env, S, sm, e, h⟩ => by simp only [ex] at h; exact h.elim⟩
theorem dss_never {sts : List Stmt} : PSs X sts (liftS G W (ex T ft .never)) := ⟨fun pins s σ H D I ⟨μ, env, S, sm, e, h⟩ => by simp only [ex] at h; exact h.elim⟩
theorem ds_raise {x : Str} {p pos pos' : Pos} {e : Expr} {es : List Expr} {c : Nat} {a : PyE} (hc : X.calm = true) (tk : L2N.Takes X W) {C : Addr} (hC : G.ca c = C) {bmB : List Value} {B newId initId : String} (F : ExcBaseFacts B newId initId bmB) (q : PySem.W.excIn X.K C bmB newId = true) (gC : X.mg x = some (.ref C))
    (kC : PySem.W.keepIn X.K (.ref C) = true) (r : Raises X (.ref C)) (hg : Gl X x) (ha : PA X (e :: es) (liftA G W (evA T ft a))) (hdb : (x == ("__debug__" : Str)) = false)
    (he : starEach (e :: es) X.env = (false, eval e X.env) :: starEach es X.env) (hpl : (backTo pos (starEach es X.env)).any (·.1) = false) :
    PS X (.Raise (some (.Call (.Name x p) (e :: es) [] pos)) none pos') (liftS G W (ex T ft (.raise c a))) := by
  refine (L2N.ps_raise hc tk (pmk_ownN F q gC kC r hg ha hdb he hpl)).imp fun D σ H h => ?_
  have h2 := oneSA (f := fun vs env S1 => if vs.length ≤ line then .ex ⟨c, []⟩ env S1 else .no) (by simp only [liftS, ex] at h; exact h)
  refine liftA_mono h2 fun xs H1 ⟨μ, env, vs, S, s, e, rs, q⟩ => ?_
  split at q
  · rename_i hl
    refine ⟨?_, ?_⟩
    · rw [← rs.length, sizeLine_eq]
      exact hl
    · rw [← hC]
      exact q μ H1 σ none (Up.refl _) (Keep.refl _) s e (.inl ⟨rfl, rfl⟩)
  · exact q.elim
theorem AfterO.noEx {W' : WX} {μ : List Addr} {H : Hp} {o : Out} {D : Ends} (h : AfterO G W μ H (noEx o) D) : AfterO G W' μ H o D := by
  cases o with
  | nx e S => exact h
  | rt v S => exact h
  | bk e S => exact h
  | ct e S => exact h
  | ex x e S => exact h.elim
  | no => exact h.elim
theorem try1_eq {c : Nat} {pb ph : PyS} (env : Env) (S : Store) : ex T ft (.try1 pb c ph) env S = ex T ft (.tryA pb (.hnd c none ph .skip)) env S := by
  simp only [ex]
  cases ex T ft pb env S with
  | ex x e S1 =>
    simp only [tryV, tryB, exH]
    cases T.catches c x.c with
    | none => rfl
    | some b =>
      cases b with
      | false => simp only [exH]
      | true =>
        simp only [entS]
        cases ex T ft ph e S1 <;> rfl
  | _ => rfl
theorem ds_try {x : Str} {c : Nat} {body suite : List Stmt} {b0 : Stmt} {np pos pos' : Pos} {pb ph : PyS} (hs : X.stack = X.env :: X.outer) (hf : X.env.frame = some X.env.locals) (hx : X.ex = []) (hN : X.N.Nodup) (hn : Names X x (.ref (G.ca c))) (tk : L2N.Takes X W)
    (hcat : ∀ d b, T.catches c d = some b → PySem.W.exmOne X.K (.ref (G.ca d)) (.ref (G.ca c)) = some b)
    (hb : ∀ (W : WX) (pn : List (Addr × PySem.Obj)) (xe : Value → Shared → Prop), L2N.Takes (X.tr pn xe) W → PassesOwn (model X.prog X.w) X.A X.env xe → PSs (X.tr pn xe) body (liftS G W (ex T ft pb)))
    (hsu : ∀ (a : Addr) (pn : List (Addr × PySem.Obj)), PSs (X.suite a pn) (b0 :: suite) (liftS G W0 (ex T ft ph))) :
    PS X (.Try body [.ExceptHandler (some (.Name x np)) none (b0 :: suite) pos'] [] [] pos) (liftS G W (ex T ft (.try1 pb c ph))) := by
  have e : ex T ft (.try1 pb c ph) = ex T ft (.tryA pb (.hnd c none ph .skip)) := by
    funext env S
    exact try1_eq env S
  rw [e]
  exact ds_tryA hs hf hx hN tk hb (.cons hn hcat .no hsu .nil)

def GS (Z : Tb) (T : Tab) (G : Cfg) (ft : Fns) (k : Nat) (p : PyS) : Prop := ∀ kx X W st, Sx Z T G ft k X → Es G kx k X → L2N.Takes X W → okS Z T kx p st = true → PS X st (liftS G W (ex T ft p))
def GB (Z : Tb) (T : Tab) (G : Cfg) (ft : Fns) (k : Nat) (p : PyS) : Prop := ∀ kx X W sts, Sx Z T G ft k X → Es G kx k X → L2N.Takes X W → okB Z T kx p sts = true → PSs X sts (liftS G W (ex T ft p))
structure GSB (Z : Tb) (T : Tab) (G : Cfg) (ft : Fns) (k : Nat) (p : PyS) : Prop where
  s : GS Z T G ft k p
  b : GB Z T G ft k p
  h : ∀ kx X hds, Sx Z T G ft k X → Es G kx k X → okH Z T kx p hds = true → HdsA X G T ft hds p
theorem GSB.of {p : PyS} (s : GS Z T G ft k p) (hb : ∀ kx sts, okB Z T kx p sts = false) (hh : ∀ kx hds, okH Z T kx p hds = false := by intros; simp only [okH]) : GSB Z T G ft k p :=
  ⟨s, fun kx X W sts _ _ _ h => (by rw [hb] at h; exact Bool.noConfusion h), fun kx X hds _ _ h => (by rw [hh] at h; exact Bool.noConfusion h)⟩
/-- an expression -/
theorem gE {p : PyE} {e : Expr} (hx : Sx Z T G ft k X) (hv : Es G kx k X) (tk : L2N.Takes X W) (h : okE Z T kx p e = true) : PE X e (lift G W (ev T ft p)) := ((good Z T G ft k p).ge kx X W e hx hv.ev tk h).1
theorem gT' {p : PyE} {e : Expr} (hx : Sx Z T G ft k X) (hv : Es G kx k X) (tk : L2N.Takes X W) (h : okE Z T kx p e = true) : PT X e (liftT G W (tst (ev T ft p))) := ((good Z T G ft k p).ge kx X W e hx hv.ev tk h).2

theorem s_never : GSB Z T G ft k .never := ⟨fun _ _ _ _ _ _ _ _ => ds_never, fun _ _ _ _ _ _ _ _ => dss_never, fun _ _ _ _ _ h => by simp only [okH] at h; exact Bool.noConfusion h⟩
theorem s_skip : GSB Z T G ft k .skip where
  s := fun kx X W st hx hv tk h => by
    unfold okS at h
    split at h
    · exact ds_pass
    · exact ds_doc
    · cases h
  b := fun kx X W sts hx hv tk h => by
    simp only [okB] at h
    rw [isEmp_nil h]
    exact dss_nil
  h := fun kx X hds hx hv h => by
    simp only [okH] at h
    rw [isEmp_nil h]
    exact .nil
theorem s_seq {a b : PyS} (ha : GSB Z T G ft k a) (hb : GSB Z T G ft k b) : GSB Z T G ft k (.seq a b) := ⟨fun kx X W st hx hv tk h => by simp [okS] at h,
  (fun kx X W sts hx hv tk h => by
    simp only [okB] at h
    split at h
    · simp only [Bool.and_eq_true] at h
      exact dss_cons (ha.s kx X W _ hx hv tk h.1) (hb.b kx X W _ hx hv tk h.2)
    · cases h),
  fun kx X hds hx hv h => by simp only [okH] at h; exact Bool.noConfusion h⟩
theorem s_expr (a : PyE) : GSB Z T G ft k (.expr a) := .of (fun kx X W st hx hv tk h => by
  simp only [okS] at h
  split at h
  · simp only [Bool.and_eq_true, Bool.not_eq_true'] at h
    exact ds_expr (gE hx hv tk h.1) (sw_of h.2)
  · cases h) (fun _ _ => by simp only [okB])
theorem lcOk_ok {x : Str} {px : Pos} {e : Expr} (h : lcOk kx x px e = true) : ∃ el gs scope pos, e = .ListComp el gs scope pos ∧ kx.isLoc x = true ∧ kx.sc.kind = .function ∧ (px.line == pos.line) = true ∧ (scope.names.any fun (n, k) => n == x && (k == .local || k == .cell)) = false := by
  unfold lcOk at h
  split at h
  · simp only [Bool.and_eq_true, decide_eq_true_eq, Bool.not_eq_true'] at h
    exact ⟨_, _, _, _, rfl, h.1.1.1, h.1.1.2, h.1.2, h.2⟩
  · cases h
theorem okE_comp {a : PyE} {el : Expr} {gs : List Comprehension} {scope : Scope} {pos : Pos} (h : okE Z T kx a (.ListComp el gs scope pos) = true) : a = .nil ∨ ∃ elt tp is kd as cond, a = .comp elt tp is kd as cond := by
  cases a with
  | nil => exact .inl rfl
  | comp elt tp is kd as cond => exact .inr ⟨_, _, _, _, _, _, rfl⟩
  | lock i fs b => simp [okE, compish] at h
  | _ => simp [okE, cE, varE, gcB] at h
theorem Ev.isLoc (h : Ev G kx k X) {x : Str} (v : kx.isLoc x = true) : X.env.scope.names.lookup x = some .local := by
  rw [h.lk x]
  unfold Kx.isLoc at v
  split at v
  · assumption
  · cases v
theorem Ev.isCell (h : Ev G kx k X) {x : Str} (v : kx.isCell x = true) : X.env.scope.names.lookup x = some .cell := by
  rw [h.lk x]
  unfold Kx.isCell at v
  split at v
  · assumption
  · cases v
theorem sw_cell {e : Expr} {x : Str} {p : Pos} {l : Nat} {env : PySem.Env} (h : env.scope.names.lookup x = some .cell) : swapsWith e (some (.Name x p)) l env = pure false := by
  have hk : (env.kindOf x == some .local) = false := by
    have : env.kindOf x = some .cell := h
    rw [this]; rfl
  unfold swapsWith
  cases e <;> first | rfl | simp only [hk, Bool.and_false, Bool.false_and]
theorem s_asg (i : Nat) (a : PyE) : GSB Z T G ft k (.asg i a) := .of (fun kx X W st hx hv tk h => by
  simp only [okS] at h
  split at h
  · rename_i x px e pos
    simp only [Bool.and_eq_true, decide_eq_true_eq, Bool.or_eq_true, Bool.not_eq_true'] at h
    obtain ⟨⟨⟨h1, h2⟩, h3⟩, h4⟩ := h
    obtain ⟨l1, l2⟩ := hv.ev.loc h2
    rcases h4 with (h4 | h4) | h4
    · exact ds_asg hx.hN (hv.ev.ix h1) l1 (gE hx hv tk h3) (sw_of h4) l2
    · exact ds_asg hx.hN (hv.ev.ix h1) l1 (gE hx hv tk h3) (sw_cell (hv.ev.isCell h4)) l2
    · obtain ⟨h0, h4⟩ := h4
      obtain ⟨el, gs, scope, cpos, rfl, q1, q2, q3, q4⟩ := lcOk_ok h4
      rcases okE_comp h3 with rfl | ⟨elt, tp, is, kd, as, cond, rfl⟩
      · exact ⟨fun pins s σ H D I ⟨μ, env, S, sm, e, h⟩ => by simp only [ex, ev] at h; exact h.elim⟩
      · obtain ⟨_, el', tg, iter, ifs, scope', pos', _, he, c1, c2, c3, c4, c5, c6, c7⟩ := comp_parts hx hv.ev (good Z T G ft k elt) (good Z T G ft k as) (good Z T G ft k cond) tk h3
        cases he
        have hl := hv.ev.isLoc q1
        exact ds_asgLc (hv.ev.calm h0) hx.hN (hv.ev.ix h1) hl (sw_true (by rw [hv.ev.sc]; exact q2) hl q3 q4) hx.hK c1 c2 c3 c4 c5 c6 c7
  · cases h) (fun _ _ => by simp only [okB])
theorem s_asgT (is : List Nat) (a : PyE) : GSB Z T G ft k (.asgT is a) := .of (fun kx X W st hx hv tk h => by
  simp only [okS] at h
  split at h
  · rename_i es kt pt e pos
    simp only [Bool.and_eq_true, Bool.not_eq_true'] at h
    obtain ⟨⟨⟨⟨h0, h1⟩, h2⟩, h3⟩, h4⟩ := h
    exact ds_asgT hx.hK (gE hx hv tk h2) (tgtB_ok (tp := true) hx hv.ev (.inl h0) h1) (sws_of h3) (sst_v h4) (asg_one rfl)
  · cases h) (fun _ _ => by simp only [okB])
theorem s_asgL (is : List Nat) (a : PyE) : GSB Z T G ft k (.asgL is a) := .of (fun kx X W st hx hv tk h => by
  simp only [okS] at h
  split at h
  · rename_i es kt pt e pos
    simp only [Bool.and_eq_true, Bool.not_eq_true'] at h
    obtain ⟨⟨⟨⟨h0, h1⟩, h2⟩, h3⟩, h4⟩ := h
    exact ds_asgL hx.hK (gE hx hv tk h2) (tgtL_ok hx hv.ev h0 h1) (sws_of h3) (sst_v h4) (asg_one rfl)
  · cases h) (fun _ _ => by simp only [okB])
theorem s_setI (o i a : PyE) : GSB Z T G ft k (.setI o i a) := .of (fun kx X W st hx hv tk h => by
  simp only [okS] at h
  split at h
  · rename_i o' i' tp e pos
    simp only [Bool.and_eq_true, Bool.not_eq_true'] at h
    obtain ⟨⟨⟨h1, h2⟩, h3⟩, h4⟩ := h
    have hu := hx.hu
    refine ds_setI (by omega) hx.hK (gE hx hv tk h2) (gE hx hv tk h3) (gE hx hv tk h4) (sub_of h1) ?_ (sst_t rfl) (asg_one rfl)
    unfold swapsWithSole swapsWith
    cases e <;> rfl
  · cases h) (fun _ _ => by simp only [okB])
theorem s_setF (o : PyE) (f : Nat) (a : PyE) : GSB Z T G ft k (.setF o f a) := .of (fun kx X W st hx hv tk h => by
  simp only [okS] at h
  split at h
  · rename_i o' x tp e pos
    simp only [Bool.and_eq_true, decide_eq_true_eq] at h
    obtain ⟨⟨h1, h2⟩, h3⟩ := h
    obtain ⟨n1, n2⟩ := hx.nm h1
    subst n1
    refine ds_setF hx.hK n2 (fun c hc => ⟨hx.fld.cls c f hc, (hx.fld.fld c f hc).1⟩) (gE hx hv tk h2) (gE hx hv tk h3) ?_
    unfold swapsWith
    cases e <;> rfl
  · cases h) (fun _ _ => by simp only [okB])
theorem s_augV (i : Nat) (b : BinO) (a : PyE) : GSB Z T G ft k (.augV i b a) := .of (fun kx X W st hx hv tk h => by
  simp only [okS] at h
  split at h
  · simp only [Bool.and_eq_true, decide_eq_true_eq] at h
    obtain ⟨⟨⟨⟨h1, h2⟩, h3⟩, h4⟩, h5⟩ := h
    subst h1
    obtain ⟨l1, l2⟩ := hv.ev.loc h4
    exact ds_augV h2 hx.hK hx.hN (hv.ev.ix h3) l1 (gE hx hv tk h5) l2
  · cases h) (fun _ _ => by simp only [okB])
theorem s_augF (o : PyE) (f : Nat) (b : BinO) (a : PyE) : GSB Z T G ft k (.augF o f b a) := .of (fun kx X W st hx hv tk h => by
  simp only [okS] at h
  split at h
  · simp only [Bool.and_eq_true, decide_eq_true_eq] at h
    obtain ⟨⟨⟨⟨h1, h2⟩, h3⟩, h4⟩, h5⟩ := h
    subst h1
    obtain ⟨n1, n2⟩ := hx.nm h3
    subst n1
    exact ds_augF h2 hx.hK n2 (fun c hc => ⟨hx.fld.cls c f hc, (hx.fld.fld c f hc).1⟩) (gE hx hv tk h4) (gE hx hv tk h5)
  · cases h) (fun _ _ => by simp only [okB])
theorem s_ite (c : PyE) {p q : PyS} (hp : GSB Z T G ft k p) (hq : GSB Z T G ft k q) : GSB Z T G ft k (.ite c p q) := .of (fun kx X W st hx hv tk h => by
  simp only [okS] at h
  split at h
  · simp only [Bool.and_eq_true] at h
    obtain ⟨⟨h1, h2⟩, h3⟩ := h
    exact ds_if (gT' hx hv tk h1) (hp.b kx X W _ hx hv tk h2) (hq.b kx X W _ hx hv tk h3)
  · cases h) (fun _ _ => by simp only [okB])
theorem s_ret (a : PyE) : GSB Z T G ft k (.ret a) := .of (fun kx X W st hx hv tk h => by
  simp only [okS] at h
  split at h
  · exact ds_ret (gE hx hv tk h)
  · split at h
    · exact ds_retN
    · cases h
  · cases h) (fun _ _ => by simp only [okB])
theorem s_for (tp : Bool) (is : List Nat) (kd : ItK) (as : PyE) {b : PyS} (hb : GSB Z T G ft k b) : GSB Z T G ft k (.for_ tp is kd as b) := .of (fun kx X W st hx hv tk h => by
  simp only [okS] at h
  split at h
  · simp only [Bool.and_eq_true, Bool.not_eq_true'] at h
    obtain ⟨⟨⟨⟨h0, h1⟩, h2⟩, h3⟩, h4⟩ := h
    exact ds_for (hv.pass h0) (hv.ev.calm h0) hx.hK (okI_ok hx hv.ev tk (good Z T G ft k as) h3) (tgtB_ok hx hv.ev (.inl h0) h2) (hb.b kx X W _ hx hv tk h4) (fold_of h1)
  · cases h) (fun _ _ => by simp only [okB])
theorem s_whl (c : PyE) {b : PyS} (hb : GSB Z T G ft k b) : GSB Z T G ft k (.whl c b) := .of (fun kx X W st hx hv tk h => by
  simp only [okS] at h
  split at h
  · simp only [Bool.and_eq_true, Bool.not_eq_true'] at h
    obtain ⟨⟨h0, h1⟩, h2⟩ := h
    exact ds_whl (hv.pass h0) (gT' hx hv tk h1) (hb.b kx X W _ hx hv tk h2)
  · cases h) (fun _ _ => by simp only [okB])
theorem s_brk : GSB Z T G ft k .brk := .of (fun kx X W st hx hv tk h => by
  simp only [okS] at h
  split at h
  · exact ds_brk
  · cases h) (fun _ _ => by simp only [okB])
theorem s_cnt : GSB Z T G ft k .cnt := .of (fun kx X W st hx hv tk h => by
  simp only [okS] at h
  split at h
  · exact ds_cnt
  · cases h) (fun _ _ => by simp only [okB])
theorem s_raise (c : Nat) (a : PyE) : GSB Z T G ft k (.raise c a) := .of (fun kx X W st hx hv tk h => by
  simp only [okS] at h
  split at h
  · simp only [Bool.and_eq_true, decide_eq_true_eq, Bool.not_eq_true'] at h
    obtain ⟨⟨⟨⟨⟨h0, h1⟩, h2⟩, h3⟩, h4⟩, h5⟩ := h
    obtain ⟨g1, g2⟩ := hv.ev.gl h1
    obtain ⟨q1, q2, B, newId, initId, bmB, F, q3⟩ := hx.exr c h3
    obtain ⟨s1, s2⟩ := nostar_hd h4
    exact ds_raise (hv.ev.calm h0) tk rfl F q3 (hx.exs _ _ h2) q1 q2 g1 ((good Z T G ft k a).ga kx X W _ hx hv.ev tk h5) g2 (star_cons s1) (star_plain s2).1
  · cases h) (fun _ _ => by simp only [okB])
theorem s_try (c : Nat) {b h : PyS} (hb : GSB Z T G ft k b) (hh : GSB Z T G ft k h) : GSB Z T G ft k (.try1 b c h) := .of (fun kx X W st hx hv tk h => by
  simp only [okS] at h
  split at h
  · simp only [Bool.and_eq_true, decide_eq_true_eq] at h
    obtain ⟨⟨⟨h1, h2⟩, h3⟩, h4⟩ := h
    obtain ⟨g1, g2⟩ := hv.ev.gl h1
    exact ds_try hv.stk hv.frm hv.exn hx.hN ⟨g1, g2, .inl (hx.exs _ _ h2)⟩ tk (fun d b e => hx.cat _ _ _ e) (fun W pn xe tk' p => hb.b kx _ W _ (hx.tr pn xe) (hv.tr p) tk' h3) (fun a pn => hh.b kx.hotter _ W0 _ (hx.suite a pn) (hv.suite a pn) takes0 h4)
  · cases h) (fun _ _ => by simp only [okB])

theorem s_lock (i : Nat) (fs : List Pt) {b : PyS} (hb : GSB Z T G ft k b) : GSB Z T G ft k (.lockS i fs b) := .of (fun kx X W st hx hv tk h => by
  simp only [okS] at h
  exact ds_lock (hb.s kx X W st hx hv tk h)) (fun _ _ => by simp only [okB])

theorem s_raiseF (c : Nat) (a : PyE) : GSB Z T G ft k (.raiseF c a) := .of (fun kx X W st hx hv tk h => by
  simp only [okS] at h
  split at h
  · simp only [Bool.and_eq_true, decide_eq_true_eq, Bool.not_eq_true'] at h
    obtain ⟨⟨⟨⟨⟨h0, h1⟩, h2⟩, h3⟩, h4⟩, h5⟩ := h
    obtain ⟨g1, g2⟩ := hv.ev.gl h1
    obtain ⟨l, fI, fd, ps, q1, q2, q3, q4, q5, q6, q7, q8⟩ := hx.xrs c h3
    obtain ⟨s1, s2⟩ := nostar_hd h4
    have k1 := hv.ev.k1
    exact ds_raiseF (hv.ev.calm h0) tk q3 q1 q2 (fun f hf => (q4 f hf).1) (fun f hf => (q4 f hf).2) q5 q6 q7 ((hv.ev.room0 h0).mono (by omega)) q8 g1 (hx.exs _ _ h2) ((good Z T G ft k a).ga kx X W _ hx hv.ev tk h5) g2 (star_cons s1) (star_plain s2).1
  · cases h) (fun _ _ => by simp only [okB])
theorem nmOk_ok (hv : Es G kx k X) {s : Option Nat} {nm : Option Str} (h : nmOk kx s nm = true) : NmOk X s nm := by
  unfold nmOk at h
  split at h
  · exact .no
  · simp only [Bool.and_eq_true, decide_eq_true_eq] at h
    exact .so (hv.ev.ix h.1) (hv.ev.isLoc h.2)
  · cases h
theorem s_hnd (c : Nat) (s : Option Nat) {h r : PyS} (hh : ∀ G', GSB Z T G' ft k h) (hr : GSB Z T G ft k r) : GSB Z T G ft k (.hnd c s h r) :=
  ⟨fun kx X W st _ _ _ z => (by simp only [okS] at z; exact Bool.noConfusion z), fun kx X W sts _ _ _ z => (by simp only [okB] at z; exact Bool.noConfusion z), fun kx X hds hx hv z => by
    simp only [okH] at z
    split at z
    · simp only [Bool.and_eq_true, decide_eq_true_eq] at z
      obtain ⟨⟨⟨⟨h1, h2⟩, h3⟩, h4⟩, h5⟩ := z
      obtain ⟨g1, g2⟩ := hv.ev.gl h1
      exact .cons ⟨g1, g2, .inl (hx.exs _ _ h2)⟩ (fun d b e => hx.cat _ _ _ e) (nmOk_ok hv h3) (fun a pn => (hh _).b (kx.hotS s) _ W0 _ ((hx.suite a pn).warmS s a) (hv.suiteS s a pn) takes0 h4) (hr.h kx X _ hx hv h5)
    · cases z⟩
theorem s_tryA {b h : PyS} (hb : GSB Z T G ft k b) (hh : GSB Z T G ft k h) : GSB Z T G ft k (.tryA b h) := .of (fun kx X W st hx hv tk z => by
  simp only [okS] at z
  split at z
  · simp only [Bool.and_eq_true] at z
    exact ds_tryA hv.stk hv.frm hv.exn hx.hN tk (fun W pn xe tk' p => hb.b kx _ W _ (hx.tr pn xe) (hv.tr p) tk' z.1) (hh.h kx X _ hx hv z.2)
  · cases z) (fun _ _ => by simp only [okB])
theorem goodG (Z : Tb) (T : Tab) (ft : Fns) (k : Nat) : ∀ (p : PyS) (G : Cfg), GSB Z T G ft k p
  | .skip, G => s_skip
  | .seq a b, G => s_seq (goodG Z T ft k a G) (goodG Z T ft k b G)
  | .expr a, G => s_expr a
  | .asg i a, G => s_asg i a
  | .asgT is a, G => s_asgT is a
  | .asgL is a, G => s_asgL is a
  | .setI o i a, G => s_setI o i a
  | .setF o f a, G => s_setF o f a
  | .augV i b a, G => s_augV i b a
  | .augF o f b a, G => s_augF o f b a
  | .ite c p q, G => s_ite c (goodG Z T ft k p G) (goodG Z T ft k q G)
  | .ret a, G => s_ret a
  | .for_ tp is kd as b, G => s_for tp is kd as (goodG Z T ft k b G)
  | .whl c b, G => s_whl c (goodG Z T ft k b G)
  | .brk, G => s_brk
  | .cnt, G => s_cnt
  | .raise c a, G => s_raise c a
  | .try1 b c h, G => s_try c (goodG Z T ft k b G) (goodG Z T ft k h G)
  | .lockS i fs b, G => s_lock i fs (goodG Z T ft k b G)
  | .raiseF c a, G => s_raiseF c a
  | .tryA b h, G => s_tryA (goodG Z T ft k b G) (goodG Z T ft k h G)
  | .hnd c s h r, G => s_hnd c s (goodG Z T ft k h) (goodG Z T ft k r G)
  | .never, G => s_never
theorem goodS (Z : Tb) (T : Tab) (G : Cfg) (ft : Fns) (k : Nat) (p : PyS) : GSB Z T G ft k p := goodG Z T ft k p G
end
end Nw

set_option Elab.async false
set_option linter.all false
set_option maxRecDepth 100000
set_option maxHeartbeats 4000000
namespace Nw
open PySem L2

/-! ## the maker of an exception class that notes what it is made of -/
/-- self.f = f, one behind the other -/
def tInit (K : PySem.W.Frag) : List (Str × Nat) → TS
  | [] => tNext
  | (f, i) :: r => tSeq (tOst K f (tVar 0) (tVar i)) (tInit K r)
/-- under way: what is noted so far; H0 the heap ahead -/
def StE (H0 H : Hp) (a C : Addr) (acc : List (Str × V)) : Prop :=
  (acc = [] ∧ H a = some (exo a C none) ∧ ∀ b, b ≠ a → H b = H0 b) ∨ ∃ d, H0 d = none ∧ d ≠ a ∧ H a = some (exo a C (some d)) ∧ H d = some (exd d acc) ∧ ∀ b, b ≠ a → b ≠ d → H b = H0 b
theorem tInit_ok {K : PySem.W.Frag} {C a : Addr} {H0 : Hp} (T : OexC K C) {D : Ends} {σ : L2.St} (h0 : σ[0]? = some (some (.ref a))) (fin : List (Str × V)) (hD : ∀ d H', H0 d = none → d ≠ a → H' a = some (exo a C (some d)) → H' d = some (exd d fin) → (∀ b, b ≠ a → b ≠ d → H' b = H0 b) → D.nx σ H') :
    ∀ (l : List (Str × Nat)) (ws : List V) (acc : List (Str × V)) (H : Hp), ws.length = l.length → (∀ (j : Nat) f i, l[j]? = some (f, i) → σ[i]? = some ws[j]? ) → (∀ p ∈ l, PySem.W.findIn K (.ref C) p.1 = some none) → acc.length + l.length ≤ 900 → (l = [] → acc ≠ []) →
      ((l.map (·.1)).zip ws).reverse ++ acc = fin → StE H0 H a C acc → tInit K l D σ H := by
  intro l
  induction l with
  | nil =>
    intro ws acc H hl hs hn hz hne he st
    cases ws with
    | cons _ _ => cases hl
    | nil =>
      have he' : acc = fin := by simpa using he
      subst he'
      rcases st with ⟨z, _⟩ | ⟨d, g1, g2, g3, g4, g5⟩
      · exact absurd z (hne rfl)
      · exact hD d H g1 g2 g3 g4 g5
  | cons p l ih =>
    obtain ⟨f, i⟩ := p
    intro ws acc H hl hs hn hz hne he st
    cases ws with
    | nil => cases hl
    | cons w ws =>
      have hi := hs 0 f i rfl
      have he2 : ((l.map (·.1)).zip ws).reverse ++ ((f, w) :: acc) = fin := by
        rw [← he]
        simp
      have next : ∀ H2, StE H0 H2 a C ((f, w) :: acc) → tInit K l D σ H2 := fun H2 s2 => by
        refine ih ws ((f, w) :: acc) H2 (by simpa using hl) (fun j g k e => ?_) (fun p hp => hn p (List.mem_cons_of_mem _ hp)) (by simp at hz ⊢; omega) (fun _ z => by cases z) he2 s2
        have q := hs (j + 1) g k (by simpa using e)
        simpa using q
      refine ⟨w, by simpa using hi, .ref a, h0, a, C, rfl, T, hn _ List.mem_cons_self, ?_⟩
      rcases st with ⟨e1, e2, e3⟩ | ⟨d, g1, g2, g3, g4, g5⟩
      · subst e1
        refine .inl ⟨e2, fun d nd da => next _ (.inr ⟨d, ?_, da, upd_same, ?_, fun b hb hd => ?_⟩)⟩
        · rw [← e3 d da]; exact nd
        · rw [upd_ne da, upd_same]
        · rw [upd_ne hb, upd_ne hd, e3 b hb]
      · refine .inr ⟨d, acc, g3, g4, by simp at hz; omega, next _ (.inr ⟨d, g1, g2, ?_, upd_same, fun b hb hd => ?_⟩)⟩
        · rw [upd_ne (Ne.symm g2)]; exact g3
        · rw [upd_ne hd]; exact g5 b hb hd
def initTail : List Str → List Stmt → Bool
  | [], [] => true
  | f :: l, .Assign [.Attribute (.Name s _) f' _] (.Name g _) _ :: r => decide (s = ("self" : Str)) && decide (f' = f) && decide (g = f) && !(f == ("__debug__" : Str)) && !(f == ("__classdict__" : Str)) && initTail l r
  | _, _ => false
def slots (j : Nat) : List Str → List (Str × Nat)
  | [] => []
  | f :: l => (f, j) :: slots (j + 1) l
theorem slots_get : ∀ {l : List Str} {j n : Nat} {f : Str} {i : Nat}, (slots j l)[n]? = some (f, i) → i = j + n ∧ l[n]? = some f
  | [], _, _, _, _, h => by simp [slots] at h
  | g :: l, j, 0, f, i, h => by simp [slots] at h; exact ⟨h.2.symm, by simp [h.1]⟩
  | g :: l, j, n + 1, f, i, h => by
    simp [slots] at h
    obtain ⟨h1, h2⟩ := slots_get h
    exact ⟨by omega, by simpa using h2⟩
theorem slots_fst : ∀ {l : List Str} {j : Nat}, (slots j l).map (·.1) = l
  | [], _ => rfl
  | f :: l, j => by simp [slots, slots_fst]
theorem slots_len : ∀ {l : List Str} {j : Nat}, (slots j l).length = l.length
  | [], _ => rfl
  | f :: l, j => by simp [slots, slots_len]
theorem slots_mem {l : List Str} {j : Nat} {p : Str × Nat} (h : p ∈ slots j l) : p.1 ∈ l := by
  have : p.1 ∈ (slots j l).map (·.1) := List.mem_map_of_mem h
  rwa [slots_fst] at this
theorem tail_ok {X : Cx} (hv : ∀ x ∈ X.N, Vis X.env.scope x) (h0 : X.N[0]? = some ("self" : Str)) : ∀ {l : List Str} {sts : List Stmt} {j : Nat}, initTail l sts = true → (∀ n f, l[n]? = some f → X.N[j + n]? = some f) → PSs X sts (tInit X.K (slots j l)) := by
  intro l
  induction l with
  | nil =>
    intro sts j h hN
    cases sts with
    | nil => exact pss_nil
    | cons _ _ => simp [initTail] at h
  | cons f l ih =>
    intro sts j h hN
    unfold initTail at h
    split at h
    · exact absurd ‹f :: l = []› (by simp)
    · rename_i f1 l1 s p1 f2 p2 g p3 p4 r hl
      cases hl
      simp only [Bool.and_eq_true, decide_eq_true_eq, Bool.not_eq_true'] at h
      obtain ⟨⟨⟨⟨⟨h1, h2⟩, h3⟩, h4⟩, h5⟩, h6⟩ := h
      subst h1 h2 h3
      have hj := hN 0 _ rfl
      refine pss_cons (ps_ost (pe_var h0 (hv _ (List.mem_of_getElem? h0))) (pe_var hj (hv _ (List.mem_of_getElem? hj)) h4 h5)) (ih h6 fun n g e => ?_)
      have := hN (n + 1) g (by simpa using e)
      rw [show j + 1 + n = j + (n + 1) by omega]
      exact this
    · cases h
/-- the whole check of such a maker; B the class whose maker it calls first -/
def okInit (B : Str) (l : List Str) (st : Stmt) : Bool := match defBody st with
  | .Expr (.Call (.Attribute (.Name b _) i apos) [.Name s _, .Constant (.str _) _ _] [] pos) _ :: r => decide (b = B) && decide (i = ("__init__" : Str)) && decide (s = ("self" : Str)) && (apos.endLine == pos.line) && !(B == ("__debug__" : Str)) && decide ((defScope st).names.lookup B = some .globalImplicit) && !isEmp l && decide (l.length ≤ 10) && initTail l r
  | _ => false
theorem fn_init {P : Program} {w : World} {K : PySem.W.Frag} {mg : Str → Option Value} {base : Heap} {B : Str} {l : List Str} {st : Stmt} {C fI Bc : Addr} {name qual : Str} {dV kV doc pm cdv ct oc : Value} {an od : Option Addr} {osl : Array (Option Value)}
    (lk : K.lookup fI = some ⟨oc, od, .func (PySem.W.fnOf name qual (defArgs st) (defBody st) (defScope st) dV kV doc pm an cdv ct), osl⟩) (hcd : PySem.W.codeIn K cdv qual = true) (S : FnScope ("self" :: l) ("self" :: l) (defScope st)) (ok : okInit B l st = true)
    (mB : mg B = some (.ref Bc)) (rB : ClX.CRead K Bc (.type "type")) (cB : PySem.W.findCls K (.ref Bc) (.type "type") "__init__" = some (.val (.builtin "ValueError.__init__"))) :
    FnOk P w K mg base (L2N.CX P w) 1 fI (PySem.W.fnOf name qual (defArgs st) (defBody st) (defScope st) dV kV doc pm an cdv ct) ("self" :: l) (spInit K C l) := by
  unfold okInit at ok
  split at ok
  · rename_i b p1 i apos s p2 z j p3 pos p4 r hbd
    simp only [Bool.and_eq_true, decide_eq_true_eq, Bool.not_eq_true'] at ok
    obtain ⟨⟨⟨⟨⟨⟨⟨⟨k1, k2⟩, k3⟩, k4⟩, k5⟩, k6⟩, k7⟩, k8⟩, k9⟩ := ok
    subst k1 k2 k3
    refine fn_of (k := 0) lk hcd S (fun vs H Q E ⟨a, ws, e, hl, _⟩ => by rw [e]; simp [hl]) fun A outer s H vs Q E hr ⟨a, ws, e, hl, T, hno, ea, q⟩ => ?_
    subst e
    have vis : ∀ x ∈ ("self" :: l : List Str), Vis (defScope st) x := fun x hx => by
      rcases S.par x hx with k | k
      · exact .inl k
      · exact .inr (.inl k)
    rw [hbd]
    refine ⟨_, pss_cons (ps_expr (pe_wei (X := cxOf (L2N.CX P w) P w K mg base ("self" :: l) qual (defScope st) fI cdv A outer s H E) rB cB k6 mB k5 (pa_cons (pe_var (i := 0) rfl (vis _ List.mem_cons_self)) (pa_cons pe_str pa_nil (star_cons rfl)) (star_cons rfl)) (meth_ht rfl rfl (by simp) k4) (star_cons rfl) rfl)) (tail_ok (j := 1) vis rfl k9 fun n f e => by
      rw [show 1 + n = n + 1 by omega]
      show ("self" :: l : List Str)[n + 1]? = some f
      simpa using e), ?_⟩
    refine ⟨.ref a, rfl, a, C, [.str z], rfl, by simp, T, ea, ?_⟩
    refine tInit_ok (H0 := H) T rfl (l.zip ws).reverse (fun d H' h1 h2 h3 h4 h5 => q d H' h1 h2 h3 h4 h5) _ ws [] H (by rw [slots_len]; exact hl) (fun n f i e => ?_) (fun p hp => hno _ (slots_mem hp)) (by rw [slots_len]; simp; omega) (fun z => ?_) (by rw [slots_fst]; simp) (.inl ⟨rfl, ea, fun b _ => rfl⟩)
    · obtain ⟨e1, e2⟩ := slots_get e
      subst e1
      have hn : n < ws.length := by rw [hl]; exact (List.getElem?_eq_some_iff.mp e2).1
      rw [List.getElem?_eq_getElem hn]
      unfold L2.start
      rw [List.getElem?_append_left (by simp; omega)]
      rw [show 1 + n = n + 1 by omega]
      simp [hn]
    · cases l with
      | nil => cases k7
      | cons _ _ => cases z
  · cases ok
end Nw

set_option Elab.async false
set_option linter.all false
set_option maxRecDepth 100000
set_option maxHeartbeats 4000000
namespace Nw
open PySem L2

/-! defs -/
def namesIn (sc : Scope) (ps : List Str) : Bool := ps.all fun x => decide (sc.names.lookup x = some .local) || decide (sc.names.lookup x = some .cell)
def scOk (N ps : List Str) (sc : Scope) : Bool := decide (sc.kind = .function) && !sc.isCoroutine && !sc.isGenerator && decide N.Nodup && decide (N.take ps.length = ps) && namesIn sc ps && sc.names.all (fun y => decide (y.2 ≠ .free))
theorem scOk_ok {N ps : List Str} {sc : Scope} (h : scOk N ps sc = true) : FnScope N ps sc := by
  unfold scOk namesIn at h
  simp only [Bool.and_eq_true, decide_eq_true_eq, Bool.not_eq_true', List.all_eq_true, Bool.or_eq_true] at h
  obtain ⟨⟨⟨⟨⟨⟨h1, h2⟩, h3⟩, h4⟩, h5⟩, h6⟩, h7⟩ := h
  exact ⟨h1, h2, h3, h4, h5, h6, h7⟩
/-- the whole check of a def of the text -/
def okD (Z : Tb) (T : Tab) (d : Df) (N ps : List Str) (st : Stmt) : Bool :=
  scOk N ps (defScope st) && decide (ps.length = d.np) && decide (N.length = d.nn) && okB Z T ⟨N, defScope st, fun _ => true, false, false, false⟩ d.body (defBody st)
/-- .. of one in which lambdas are made -/
def okDl (Z : Tb) (T : Tab) (d : Df) (N ps : List Str) (st : Stmt) : Bool :=
  scOk N ps (defScope st) && decide (ps.length = d.np) && decide (N.length = d.nn) && okB Z T { N := N, sc := defScope st, fnB := fun _ => true, lam := true } d.body (defBody st)
/-- .. of one that is called while an exception is handled -/
def okDh (Z : Tb) (T : Tab) (d : Df) (N ps : List Str) (st : Stmt) : Bool :=
  scOk N ps (defScope st) && decide (ps.length = d.np) && decide (N.length = d.nn) && okB Z T ⟨N, defScope st, fun _ => true, true, false, false⟩ d.body (defBody st)
/-- a def as it stands behind the top -/
structure Fd (K : PySem.W.Frag) (x qual : Str) (st : Stmt) (f : Addr) (fd : FuncData) : Prop where
  ex : ∃ (oc : Value) (od : Option Addr) (dV kV doc pm : Value) (an : Option Addr) (cdv ct : Value) (osl : Array (Option Value)),
    fd = PySem.W.fnOf x qual (defArgs st) (defBody st) (defScope st) dV kV doc pm an cdv ct ∧ K.lookup f = some ⟨oc, od, .func fd, osl⟩ ∧ PySem.W.codeIn K cdv qual = true
theorem fd_mk {K : PySem.W.Frag} {x qual : Str} {st : Stmt} {f : Addr} {oc : Value} {od an : Option Addr} {osl : Array (Option Value)} {dV kV doc pm cdv ct : Value} (l : K.lookup f = some ⟨oc, od, .func (PySem.W.fnOf x qual (defArgs st) (defBody st) (defScope st) dV kV doc pm an cdv ct), osl⟩)
    (c : PySem.W.codeIn K cdv qual = true) : Fd K x qual st f (PySem.W.fnOf x qual (defArgs st) (defBody st) (defScope st) dV kV doc pm an cdv ct) := ⟨⟨oc, od, dV, kV, doc, pm, an, cdv, ct, osl, rfl, l, c⟩⟩
structure DefOk (K : PySem.W.Frag) (Z : Tb) (T : Tab) (d : Df) (f : Addr) (fd : FuncData) (ps : List Str) : Prop where
  ex : ∃ x qual st N, Fd K x qual st f fd ∧ okD Z T d N ps st = true
structure DefOkH (K : PySem.W.Frag) (Z : Tb) (T : Tab) (d : Df) (f : Addr) (fd : FuncData) (ps : List Str) : Prop where
  ex : ∃ x qual st N, Fd K x qual st f fd ∧ okDh Z T d N ps st = true
/-- its code object and the code's table -/
structure LamD (G : Cfg) (fd : FuncData) (qual : Str) : Prop where
  ex : ∃ c P, fd.code = .ref c ∧ (c, P) ∈ G.cs ∧ (P, qual ++ ".<locals>." ++ "<lambda>") ∈ G.tb ∧ ∀ p ∈ G.tb, p.1 = P → p.2 = qual ++ ".<locals>." ++ "<lambda>"
structure DefOkL (G : Cfg) (Z : Tb) (T : Tab) (d : Df) (f : Addr) (fd : FuncData) (ps : List Str) : Prop where
  ex : ∃ x qual st N, Fd G.K x qual st f fd ∧ okDl Z T d N ps st = true ∧ LamD G fd qual
def DefQ (G : Cfg) (Z : Tb) (T : Tab) (d : Df) (f : Addr) (fd : FuncData) (ps : List Str) : Prop := DefOk G.K Z T d f fd ps ∨ DefOkL G Z T d f fd ps
/-- all that is known of a law's text -/
structure LawF (mg : Str → Option Value) (Z : Tb) (T : Tab) (D : List Df) (G : Cfg) (fa : Nat → Addr) (fd : Nat → FuncData) (ps : Nat → List Str) : Prop where
  hNM : G.NM = Z.NM
  fld : ClsOk G T
  bl : ∀ x, Z.bl.contains x = true → mg x = none
  df : ∀ i d, D[i]? = some d → DefQ G Z T d (fa i) (fd i) (ps i)
  fns : ∀ x f, Z.fns.lookup x = some f → mg x = some (.ref (fa f)) ∧ PySem.W.keepIn G.K (.ref (fa f)) = true ∧ ∀ ds, dsOk Z f ds = true → DefsOk G.K (fd f) (ps f) ds
  cls : ∀ x c f, Z.cls.lookup x = some (c, f) → mg x = some (.ref (G.ca c)) ∧ Mk G.K (G.ca c) (fa f) ∧ ∀ ds, dsOk Z f ds = true → DefsOk G.K (fd f) (ps f) ds
  cst : ∀ x ks, Z.cst.lookup x = some ks → ∃ p, mg x = some (.ref p) ∧ ∀ H, SqT G.K H p (ks.map V.str)
  mts : ∀ m n c fds, Z.mts.contains (m, n) = true → T.mt c m = some fds → Cls G.K (G.ca c) ∧ Meth G.K (G.ca c) (G.nm m) (fa fds.1) ∧ DefsOk G.K (fd fds.1) (ps fds.1) (fds.2.drop n)
  exs : ∀ x c, Z.exs.lookup x = some c → mg x = some (.ref (G.ca c))
  exr : ∀ c, Z.exr.contains c = true → PySem.W.keepIn G.K (.ref (G.ca c)) = true ∧ PySem.W.subIn G.K (.ref (G.ca c)) (.type "BaseException") = some true ∧ PySem.W.typeIn G.K (.ref (G.ca c)) = some (.type "type") ∧
    ∃ B newId initId bmB, ExcBaseFacts B newId initId bmB ∧ PySem.W.excIn G.K (G.ca c) bmB newId = true
  cat : ∀ j c b, T.catches j c = some b → PySem.W.exmOne G.K (.ref (G.ca c)) (.ref (G.ca j)) = some b
  gc : ∀ x v, Z.gc.lookup x = some v → ∃ u, mg x = some u ∧ RelV (cV v) u ∧ cOk v = true
  cfn : ∀ x m f, Z.cfn.lookup (x, m) = some f → ∃ C, mg x = some (.ref C) ∧ ClX.CRead G.K C (.type "type") ∧ ClX.CVal G.K C (.type "type") m (.ref (fa f)) (.ref (fa f)) ∧ PySem.W.keepIn G.K (.ref (fa f)) = true ∧ ∀ ds, dsOk Z f ds = true → DefsOk G.K (fd f) (ps f) ds
  isi : ∀ y j, Z.isc.lookup y = some j → mg y = some (.ref (G.ca j)) ∧ ∀ c b, T.isI j c = some b → InsI G.K (G.ca c) ∧ PySem.W.kitOne G.K (.ref (G.ca c)) (.ref (G.ca j)) = some b
  xfk : XfOk G T
  xis : ∀ y j, Z.xis.lookup y = some j → ∃ (c : V) (u : Value), ClsV c u ∧ RelV c u ∧ (mg y = some u ∨ (mg y = none ∧ bootBuiltins y = some u ∧ y ≠ "__name__")) ∧ ∀ d b, T.isX j d = some b → ExcC G.K (G.ca d) ∧ PySem.W.kitOne G.K (.ref (G.ca d)) u = some b
  fnh : ∀ x f, Z.hfn.lookup x = some f → mg x = some (.ref (fa f)) ∧ PySem.W.keepIn G.K (.ref (fa f)) = true ∧ L2.Binds G.K (fd f) (ps f) [] ∧ ∃ d, D[f]? = some d ∧ DefOkH G.K Z T d (fa f) (fd f) (ps f)
  xrs : ∀ c, Z.xrs.contains c = true → ∃ l fI fd ps, T.xf c = some l ∧ l.length ≤ 10 ∧ OexC G.K (G.ca c) ∧ (∀ f ∈ l, PySem.W.findIn G.K (.ref (G.ca c)) (G.nm f) = some none ∧ f < G.NM.length) ∧ PySem.W.findIn G.K (.ref (G.ca c)) "__init__" = some (some (.ref fI)) ∧ PySem.W.typeIn G.K (.ref fI) = some (.type "function") ∧
    (∀ (P : Program) (w : World) (base : Heap), FnOk P w G.K mg base (L2N.CX P w) 1 fI fd ps (spInit G.K (G.ca c) (l.map G.nm))) ∧ L2.Binds G.K fd ps []

section
variable {P : Program} {w : World} {mg : Str → Option Value} {base : Heap} {Z : Tb} {T : Tab} {D : List Df} {G : Cfg} {fa : Nat → Addr} {fd : Nat → FuncData} {ps : Nat → List Str}

theorem renv_start {μ : List Addr} {H : Hp} {N : List Str} {vs : List Val} {xs : List V} {n : Nat} (r : RVs μ H vs xs) (h : N.length - xs.length = n) : REnv μ H (vs.map some ++ List.replicate n none) (L2.start N xs) := by
  unfold L2.start
  rw [h]
  have hl := r.length
  refine ⟨by simp [hl], fun i v hv => ?_⟩
  by_cases hi : i < vs.length
  · rw [List.getElem?_append_left (by simpa using hi), List.getElem?_map] at hv
    rw [List.getElem?_append_left (by simpa [← hl] using hi), List.getElem?_map]
    cases e : vs[i]? with
    | none => rw [e] at hv; cases hv
    | some a =>
      rw [e] at hv
      cases hv
      obtain ⟨x, hx, rx⟩ := r.get e
      exact ⟨x, by rw [hx]; rfl, rx⟩
  · rw [List.getElem?_append_right (by simpa using Nat.le_of_not_lt hi), List.getElem?_replicate] at hv
    split at hv <;> cases hv
theorem out_run {E : XK} {μ : List Addr} {H : Hp} {o : Out} {Q : VK} (h : After G (WofE E) [] μ H (fin o) (Kv Q)) : AfterO G (WofE E) μ H o { nx := fun _ H' => Q .non H', rt := Q } := by
  cases o with
  | nx e S => exact fun μ' H' σ' u k s r => h μ' H' u k s _ .non
  | rt v S => exact fun μ' H' x u k s r => h μ' H' u k s _ r
  | bk e S => exact h.elim
  | ct e S => exact h.elim
  | ex x e S => exact fun μ' H' σ' d u k s r rx => h μ' H' d u k s rx
  | no => exact h.elim
theorem run_some {n i : Nat} {d : Df} {vs : List Val} {S : Store} (h : D[i]? = some d) (hl : vs.length = d.np) : run T D (n + 1) i vs S = fin (ex T (run T D n) d.body (vs.map some ++ List.replicate (d.nn - d.np) none) S) := by
  simp only [run, h, if_pos hl]
theorem run_no {n i : Nat} {vs : List Val} {S : Store} (h : D[i]? = none) : run T D n i vs S = .no := by
  cases n with
  | zero => rfl
  | succ n => simp only [run, h]
theorem run_len {n i : Nat} {d : Df} {vs : List Val} {S : Store} (h : D[i]? = some d) (hl : ¬ vs.length = d.np) : run T D n i vs S = .no := by
  cases n with
  | zero => rfl
  | succ n => simp only [run, h, if_neg hl]

theorem room_hu {k : Nat} {A : Around} (r : Room k A) : A.units + 161 < cLine := by have := r.un; omega
/-- EVERY def, by the fuel -/
theorem all_ok (L : LawF mg Z T D G fa fd ps) (TB : ∀ p ∈ G.cs, LamX.TabB base mg p.1 p.2) : ∀ n, (∀ i, FnOk P w G.K mg base (L2N.CX P w) (n + 2) (fa i) (fd i) (ps i) (SpF G (run T D n) i)) ∧
    ∀ x i, Z.hfn.lookup x = some i → FnW P w G.K mg base (n + 2) (fa i) (fd i) (ps i) (SpF G (run T D n) i) := by
  intro n
  induction n with
  | zero =>
    exact ⟨fun i => ⟨fun vs H Q E ⟨μ, vs', S, s, r, h⟩ => h.elim, fun A outer s H args us vs Q E _ _ _ _ ⟨μ, vs', S, sm, r, h⟩ => h.elim⟩,
      fun x i _ => ⟨fun vs H Q E ⟨μ, vs', S, s, r, h⟩ => h.elim, fun A outer s H args us vs Q E _ _ _ _ ⟨μ, vs', S, sm, r, h⟩ => h.elim⟩⟩
  | succ n ih =>
    have sx : ∀ (X : Cx), X.K = G.K → X.mg = mg → X.prog = P → X.w = w → X.base = base → X.N.Nodup → X.A.units + 161 < cLine → Sx Z T G (run T D n) (n + 2) X := by
      intro X e1 e2 e3 e4 e5 hN hu
      subst e2 e3 e4 e5
      exact ⟨e1.symm, L.hNM, hN, hu, L.fld, L.bl,
        fun y f hy => let ⟨q1, q2, q3⟩ := L.fns y f hy; ⟨_, _, _, q1, e1 ▸ q2, e1 ▸ ih.1 f, e1 ▸ q3⟩,
        fun y c f hy => let ⟨q1, q2, q3⟩ := L.cls y c f hy; ⟨_, _, _, q1, e1 ▸ q2, e1 ▸ ih.1 f, e1 ▸ q3⟩, e1 ▸ L.cst,
        fun m n' c fds h1 h2 => let ⟨q1, q2, q3⟩ := L.mts m n' c fds h1 h2; ⟨_, _, _, e1 ▸ q1, e1 ▸ q2, e1 ▸ ih.1 fds.1, e1 ▸ q3⟩, L.exs,
        fun c hc => let ⟨q1, q2, q3, q4⟩ := L.exr c hc; ⟨e1 ▸ q1, raises_own (e1 ▸ q2) (e1 ▸ q3), e1 ▸ q4⟩, e1 ▸ L.cat, L.gc,
        fun y m f hy => let ⟨C, q1, q2, q3, q4, q5⟩ := L.cfn y m f hy; ⟨C, _, _, _, q1, e1 ▸ q2, e1 ▸ q3, e1 ▸ q4, e1 ▸ ih.1 f, e1 ▸ q5⟩, e1 ▸ L.isi,
        L.xfk, e1 ▸ L.xis, fun y f hy => let ⟨q1, q2, q3, d, q4, q5⟩ := L.fnh y f hy; ⟨_, _, _, q1, e1 ▸ q2, e1 ▸ ih.2 y f hy, e1 ▸ q3⟩,
        fun c hc => let ⟨l, fI, fd, ps, q1, q2, q3, q4, q5, q6, q7, q8⟩ := L.xrs c hc; ⟨l, fI, fd, ps, q1, q2, e1 ▸ q3, e1 ▸ q4, e1 ▸ q5, e1 ▸ q6, e1 ▸ q7 _ _ _, e1 ▸ q8⟩⟩
    refine ⟨fun i => ?_, fun x i hx => ?_⟩
    · cases hd : D[i]? with
      | none => exact ⟨fun vs H Q E ⟨μ, vs', S, s, r, h⟩ => (by rw [run_no hd] at h; exact h.elim), fun A outer s H args us vs Q E _ _ _ _ ⟨μ, vs', S, sm, r, h⟩ => (by rw [run_no hd] at h; exact h.elim)⟩
      | some d =>
        obtain ⟨x, qual, st, N, lm, F, hok, hlm⟩ : ∃ x qual st N lm, Fd G.K x qual st (fa i) (fd i) ∧ (scOk N (ps i) (defScope st) && decide ((ps i).length = d.np) && decide (N.length = d.nn) && okB Z T ⟨N, defScope st, fun _ => true, false, lm, false⟩ d.body (defBody st)) = true ∧ (lm = true → LamD G (fd i) qual) := by
          rcases L.df i d hd with q | q
          · obtain ⟨x, qual, st, N, F, hok⟩ := q.ex
            exact ⟨x, qual, st, N, false, F, hok, fun z => Bool.noConfusion z⟩
          · obtain ⟨x, qual, st, N, F, hok, hl⟩ := q.ex
            exact ⟨x, qual, st, N, true, F, hok, fun _ => hl⟩
        obtain ⟨oc, od, dV, kV, doc, pm, an, cdv, ct, osl, e, lk, hcd⟩ := F.ex
        simp only [Bool.and_eq_true, decide_eq_true_eq] at hok
        obtain ⟨⟨⟨k1, k2⟩, k3⟩, k4⟩ := hok
        have SC := scOk_ok k1
        rw [e] at lk ⊢
        refine fn_ofS (k := n + 2) lk hcd SC (fun vs H Q E ⟨μ, vs', S, s, r, h⟩ => ?_) (fun A outer s H vs Q E hr ⟨μ, vs', S, sm, r, h⟩ => ?_)
        · by_cases hl : vs'.length = d.np
          · rw [← r.length, hl, k2]
          · rw [run_len hd hl] at h; exact h.elim
        · by_cases hl : vs'.length = d.np
          · rw [run_some hd hl] at h
            have h2 := out_run h
            refine ⟨liftS G (WofE E) (ex T (run T D n) d.body), ?_, μ, _, S, sm, renv_start r ?_, h2⟩
            · refine (goodS Z T G (run T D n) (n + 2) d.body).b ⟨N, defScope st, fun _ => true, false, lm, false⟩ _ (WofE E) _ (sx _ rfl rfl rfl rfl rfl SC.nd (room_hu hr.to))
                ⟨⟨rfl, rfl, rfl, fun _ => ⟨hr, rfl⟩, (L2H.roomH_of hr.to).mono (by omega), by omega, (fun z => ?_), fun z => Bool.noConfusion (show false = true from z)⟩, fun _ => passes_of rfl, rfl, rfl, rfl⟩ (L2N.takes_of rfl rfl rfl rfl) k4
              obtain ⟨c, P, q1, q2, q3, q4⟩ := (hlm z).ex
              rw [e] at q1
              exact ⟨c, P, q1, TB _ q2, q3, q4⟩
            · rw [← k3, ← r.length, hl]
          · rw [run_len hd hl] at h; exact h.elim
    · obtain ⟨_, _, _, d, hd, hk⟩ := L.fnh x i hx
      obtain ⟨x', qual, st, N, F, hok⟩ := hk.ex
      obtain ⟨oc, od, dV, kV, doc, pm, an, cdv, ct, osl, e, lk, hcd⟩ := F.ex
      unfold okDh at hok
      simp only [Bool.and_eq_true, decide_eq_true_eq] at hok
      obtain ⟨⟨⟨k1, k2⟩, k3⟩, k4⟩ := hok
      have SC := scOk_ok k1
      rw [e] at lk ⊢
      refine fnw_of (k := n + 2) lk hcd SC (fun vs H Q E ⟨μ, vs', S, s, r, h⟩ => ?_) (fun A outer s H vs Q E hr ⟨μ, vs', S, sm, r, h⟩ => ?_)
      · by_cases hl : vs'.length = d.np
        · rw [← r.length, hl, k2]
        · rw [run_len hd hl] at h; exact h.elim
      · by_cases hl : vs'.length = d.np
        · rw [run_some hd hl] at h
          have h2 := out_run h
          refine ⟨liftS G (WofE E) (ex T (run T D n) d.body), ?_, μ, _, S, sm, renv_start r ?_, h2⟩
          · have hu : (A.deeper (PyProof.Rows.envOfC qual (defScope st) s.heap.objs.size (fa i) cdv)).units + 161 < cLine := by have := hr.un; omega
            exact (goodS Z T G (run T D n) (n + 2) d.body).b ⟨N, defScope st, fun _ => true, true, false, false⟩ _ (WofE E) _ (sx _ rfl rfl rfl rfl rfl SC.nd hu)
              ⟨⟨rfl, rfl, rfl, (fun z => Bool.noConfusion (show true = false from z)), hr.mono (by omega), by omega, (fun z => Bool.noConfusion (show false = true from z)), fun z => Bool.noConfusion (show false = true from z)⟩, (fun z => Bool.noConfusion (show true = false from z)), rfl, rfl, rfl⟩ (L2N.takes_of rfl rfl rfl rfl) k4
          · rw [← k3, ← r.length, hl]
        · rw [run_len hd hl] at h; exact h.elim
end
end Nw

set_option Elab.async false
set_option linter.all false
set_option maxRecDepth 100000
set_option maxHeartbeats 4000000
namespace Nw
open PySem L2

/-! the law's end -/
def spLaw (K : PySem.W.Frag) : Sp := fun vs H Q _ => ∃ (a : Addr) (ns : List Int), vs = [.ref a] ∧ Lk K H a (ns.map V.int) ∧ ns.length ≤ 63 ∧ ∀ H', Q (.bl true) H'
theorem lk_of {K : PySem.W.Frag} {H : Hp} {a : Addr} {xs : List V} (hO : Only H) (h : SqL K H a xs) : Lk K H a xs := by
  rcases h with (h | h) | h
  · rcases hO a with n | ⟨o, ys, n⟩
    · rw [n] at h; cases h
    · rw [n] at h; cases h
  · exact .inl h
  · exact .inr h
theorem sim_law {G : Cfg} {H : Hp} {a : Addr} {ns : List Int} (h : Lk G.K H a (ns.map V.int)) (ht : LamX.Tabs G.tb H) (hh : G.hx = []) : Sim G [a] [.lst true (ns.map .int)] H where
  len := rfl
  ob := fun i o e => by
    match i with
    | 0 => cases e; exact ⟨a, rfl, _, h, RVs.of_ints ns⟩
    | i + 1 => cases e
  inj := fun i j oi oj b ei ej ni nj _ _ => by
    match i with
    | 0 => cases ei; cases ni
    | i + 1 => cases ei
  tabs := ht
  hot := fun b hb => by rw [hh] at hb; cases hb
structure LawAt (mg : Str → Option Value) (K : PySem.W.Frag) (Z : Tb) (T : Tab) (D : List Df) (iL : Nat) (x : Str) (f : Addr) (cs : List (Addr × Addr) := []) : Prop where
  ex : ∃ (G : Cfg) (fa : Nat → Addr) (fd : Nat → FuncData) (ps : Nat → List Str), G.K = K ∧ LawF mg Z T D G fa fd ps ∧ fa iL = f ∧ ps iL = [x] ∧ (∀ (s : Shared) (u : Value), BindsTo s (fd iL) ⟨[u], []⟩ [(x, u)]) ∧ G.cs = cs ∧ G.hx = [] ∧ ∀ p ∈ G.tb, ∃ c, (c, p.1) ∈ G.cs
/-- the script is known, the tables are empty -/
def spLawL (K : PySem.W.Frag) (cs : List (Addr × Addr)) : Sp := fun vs H Q _ => ∃ (a : Addr) (ns : List Int), vs = [.ref a] ∧ Lk K H a (ns.map V.int) ∧ ns.length ≤ 63 ∧ (∀ p ∈ cs, H p.2 = some (.tbl #[])) ∧ ∀ H', Q (.bl true) H'
theorem law_okL {P : Program} {w : World} {mg : Str → Option Value} {K : PySem.W.Frag} {Z : Tb} {T : Tab} {D : List Df} {iL n : Nat} {x : Str} {f : Addr} {cs : List (Addr × Addr)} (L : LawAt mg K Z T D iL x f cs)
    (HL : ∀ ns : List Int, ns.length ≤ 63 → ∃ S, run T D n iL [.obj 0] [.lst true (ns.map .int)] = .ok (.bl true) S) :
    ∃ fd : FuncData, (∀ (s : Shared) (u : Value), BindsTo s fd ⟨[u], []⟩ [(x, u)]) ∧ ∀ base : Heap, K.In base → base.Ns mainGlobals mg → (∀ p ∈ cs, LamX.TabB base mg p.1 p.2) → FnOk P w K mg base (L2N.CX P w) (n + 2) f fd [x] (spLawL K cs) := by
  obtain ⟨G, fa, fd, ps, rfl, LF, rfl, hp, hb, rfl, hh, ht⟩ := L.ex
  refine ⟨fd iL, hb, fun base _ _ TB => ?_⟩
  rw [← hp]
  refine ((all_ok LF TB n).1 iL).imp fun vs H Q E ⟨a, ns, e1, e2, e3, e4, q⟩ => ?_
  subst e1
  obtain ⟨S, hr⟩ := HL ns e3
  refine ⟨[a], [.obj 0], [.lst true (ns.map .int)], sim_law e2 (fun p hp => ?_) hh, .one (.obj (by rfl)), ?_⟩
  · obtain ⟨c, hc⟩ := ht p hp
    exact LamX.TabS.nil (e4 _ hc)
  rw [hr]
  intro μ' H' u k s v rv
  cases rv
  exact q H'
theorem law_walk {l : PySem.W.OpenLaw} {q : Program} {loose : List Str} {XP : (Str → Option Value) → Heap → Prop} {YP : World → Heap → Prop} {d : DefRec} {K : Params → PySem.W.Frag} {Z : Tb} {T : Tab} {D : List Df} {iL : Nat} {x : Str} (n : Nat) (hr : Room (n + 2) callerA)
    (hn : l.most = some 63) (hdf : d.params.defaults = [])
    (HL : ∀ ns : List Int, ns.length ≤ 63 → ∃ S, run T D n iL [.obj 0] [.lst true (ns.map .int)] = .ok (.bl true) S)
    (hY : ∀ (w : World) (h : Heap), YP w h → (K w.params).In h)
    (F : ∀ (w : World) (mg : Str → Option Value) (fa : Addr) (h : Heap), (K w.params).In h → h.Ns mainGlobals mg → mg d.name = some (.ref fa) → LawAt mg (K w.params) Z T D iL x fa) :
    PySem.W.WalkO q loose XP YP l.row.toRowW d [] (fun f vs => PySem.call f vs) :=
  L2.walk_of (n := 63) (k := n + 2) (x := x) (CX := fun w => L2N.CX l.prog w) (sp := fun w => spLawL (K w.params) []) hn (by decide) hdf hr hY (fun w mg fa h k1 k2 k3 => by
      obtain ⟨fd, q1, q2⟩ := law_okL (F w mg fa h k1 k2 k3) HL
      exact ⟨fd, q1, fun base b1 b2 => q2 base b1 b2 (fun p hp => nomatch hp)⟩)
    (fun _ _ a ns hl hO hS => ⟨a, ns, rfl, lk_of hO hS, hl, (fun p hp => nomatch hp), fun _ => rfl⟩) fun w H s e s' ⟨_, _, _, _, _, _, _, _, _, _, _, _, z⟩ => z
/-! ### a law whose text makes lambdas -/
/-- the script may be any list -/
def spLawT (K : PySem.W.Frag) (cs : List (Addr × Addr)) : Sp := fun vs H Q _ => ∃ (a : Addr) (ns : List Int), vs = [.ref a] ∧ SqL K H a (ns.map V.int) ∧ ns.length ≤ 63 ∧ (∀ p ∈ cs, H p.2 = some (.tbl #[])) ∧ ∀ H', Q (.bl true) H'
/-- a list that is held may be told to be any -/
theorem fn_thaw {P : Program} {w : World} {K : PySem.W.Frag} {mg : Str → Option Value} {base : Heap} {k : Nat} {f : Addr} {fd : FuncData} {ps : List Str} {cs : List (Addr × Addr)} (F : FnOk P w K mg base (L2N.CX P w) k f fd ps (spLawL K cs)) (hl : ps.length = 1) :
    FnOk P w K mg base (L2N.CX P w) k f fd ps (spLawT K cs) := by
  refine ⟨fun vs H Q E ⟨a, ns, e, _⟩ => by rw [e, hl]; rfl, fun A outer s H args us vs Q E hr e0 hb rv ⟨a, ns, ev, hS, hn, hT, hQ⟩ => ?_⟩
  have easy : Lk K H a (ns.map V.int) → codeAny (model P w) A (.call (.ref f) args) (CR (L2N.CX P w) outer P w H s Q E) s := fun h => F.run A outer s H args us vs Q E hr e0 hb rv ⟨a, ns, ev, h, hn, hT, hQ⟩
  rcases hS with (hS | hS) | hS
  · -- a plain list: held for the call
    obtain ⟨hz, its, n, r, ho⟩ := e0.hok a _ hS
    obtain ⟨u, hu⟩ : ∃ u : HO, u = .frz { cls := .type "list", data := .seq its.toArray n } (.lst (ns.map V.int)) := ⟨_, rfl⟩
    have na : ∀ b, H b = none → b ≠ a := fun b e z => by rw [z, hS] at e; cases e
    have at_ : ∀ b, b ≠ a → L2.upd H a u b = H b := fun b hb => upd_ne hb
    have stay : ∀ (H1 H2 : Hp) (h1 : Heap), HOk P w H1 h1 → (∀ b, b ≠ a → H2 b = H1 b) → (∀ v, H1 a = some v → (∀ x, v ≠ .own x) ∧ ∀ xs, v ≠ .tup xs) → (∀ v, H2 a = some v → ObjOk P w H2 h1 a v) → HOk P w H2 h1 := fun H1 H2 h1 k1 k2 k3 k4 b v e => by
      by_cases hb : b = a
      · subst hb; exact k4 v e
      · rw [k2 b hb] at e
        refine (k1 b v e).stay (fun c w' _ q => q) (fun c q => ?_) fun c xs q => ?_
        · by_cases hc : c = a
          · subst hc; exact absurd rfl ((k3 _ q).1 b)
          · rw [k2 c hc]; exact q
        · by_cases hc : c = a
          · subst hc; exact absurd rfl ((k3 _ q).2 xs)
          · rw [k2 c hc]; exact q
    have e1 : Env0 P w K mg base A outer s (L2.upd H a u) := {
      frames := e0.frames
      mod := e0.mod
      bs := fun b o e => ⟨(e0.bs b o e).1, by rw [at_ b (na b (e0.bs b o e).2)]; exact (e0.bs b o e).2⟩
      bsz := e0.bsz
      funs := e0.funs
      frf := fun b hb => by rw [at_ b (na b (e0.frf b hb))]; exact e0.frf b hb
      hok := stay H _ _ e0.hok at_ (fun v e => by rw [hS] at e; cases e; exact ⟨(fun _ z => by cases z), fun _ z => by cases z⟩) fun v e => by
        rw [upd_same, hu] at e; cases e
        exact ⟨ho, hz, its, n, r, ho⟩
      bare := e0.bare }
    have hT' : ∀ p ∈ cs, L2.upd H a u p.2 = some (.tbl #[]) := fun p hp => by
      rw [at_ _ (fun z => by have q := hT p hp; rw [z, hS] at q; cases q)]
      exact hT p hp
    refine codeAny_mono (F.run A outer s (L2.upd H a u) args us vs (fun v _ => v = .bl true) (fun _ _ _ => False) hr e1 hb rv ⟨a, ns, ev, .inl ⟨_, by rw [upd_same, hu]⟩, hn, hT', fun _ => rfl⟩) fun rs s' hq => ?_
    cases rs with
    | error e => obtain ⟨_, _, _, _, _, _, _, _, _, _, _, _, z⟩ := hq; exact z.elim
    | ok fl =>
      cases fl with
      | next => exact False.elim hq
      | brk => exact False.elim hq
      | cont => exact False.elim hq
      | ret v =>
        -- its post says nothing of the heap
        obtain ⟨v', H', os, bare, un, hok', r', q⟩ := hq
        have ha' : H' a = some (.frz { cls := .type "list", data := .seq its.toArray n } (.lst (ns.map V.int))) := un.frzs a _ _ (by rw [upd_same, hu])
        have at2 : ∀ b, b ≠ a → L2.upd H' a (.lst (ns.map V.int)) b = H' b := fun b hb => upd_ne hb
        have hQ' : Q v' (L2.upd H' a (.lst (ns.map V.int))) := by
          rw [show v' = .bl true from q]
          exact hQ _
        refine ⟨v', L2.upd H' a (.lst (ns.map V.int)), os, bare, {
          keep := fun b o e n h1 h2 => un.keep b o e (by rw [at_ b (na b n)]; exact n) h1 h2
          slot := fun b o e n h1 h2 => un.slot b o e (by rw [at_ b (na b n)]; exact n) h1 h2
          free := fun b o e n h1 => by
            rw [at2 b (na b n)]
            exact un.free b o e (by rw [at_ b (na b n)]; exact n) h1
          there := un.there
          tups := fun b xs e => by
            have hb : b ≠ a := fun z => by rw [z, hS] at e; cases e
            rw [at2 b hb]
            exact un.tups b xs (by rw [at_ b hb]; exact e)
          frzs := fun b o v e => by
            have hb : b ≠ a := fun z => by rw [z, hS] at e; cases e
            rw [at2 b hb]
            exact un.frzs b o v (by rw [at_ b hb]; exact e)
          tbls := fun b ps e => by
            have hb : b ≠ a := fun z => by rw [z, hS] at e; cases e
            rw [at2 b hb]
            exact un.tbls b ps (by rw [at_ b hb]; exact e) }, ?_, r', hQ'⟩
        refine stay H' _ _ hok' at2 (fun v e => by rw [ha'] at e; cases e; exact ⟨(fun _ z => by cases z), fun _ z => by cases z⟩) fun v e => ?_
        rw [upd_same] at e; cases e
        exact (hok' a _ ha').2
  · exact easy (.inl hS)
  · exact easy (.inr hS)
/-- where a law's tables stand -/
def TabsOf (ts : List Addr) (K : PySem.W.Frag) (cs : List (Addr × Addr)) : Prop := ∀ p ∈ cs, K.lookup p.2 = none ∧ p.2 ∈ ts ∧ PySem.W.codeHdIn K p.1 p.2 = true
theorem law_walkT {l : PySem.W.OpenLaw} {q : Program} {loose : List Str} {XP : (Str → Option Value) → Heap → Prop} {YP : World → Heap → Prop} {d : DefRec} {K : Params → PySem.W.Frag} {Z : Tb} {T : Tab} {D : List Df} {iL : Nat} {x : Str} {ts : List Addr} (n : Nat) (hr : Room (n + 2) callerA)
    (hn : l.most = some 63) (hdf : d.params.defaults = [])
    (HL : ∀ ns : List Int, ns.length ≤ 63 → ∃ S, run T D n iL [.obj 0] [.lst true (ns.map .int)] = .ok (.bl true) S)
    (hY : ∀ (w : World) (h : Heap), YP w h → (K w.params).In h ∧ ∀ P ∈ ts, h.get? P = some (PySem.W.tabObj #[]))
    (F : ∀ (w : World) (mg : Str → Option Value) (fa : Addr) (h : Heap), (K w.params).In h → h.Ns mainGlobals mg → mg d.name = some (.ref fa) → ∃ cs, TabsOf ts (K w.params) cs ∧ LawAt mg (K w.params) Z T D iL x fa cs) :
    PySem.W.WalkO q loose XP YP l.row.toRowW d [] (fun f vs => PySem.call f vs) := by
  refine Att.attach_callB hn hdf fun w s₀ s₁ mg mb fa o pm cd doc a vs ns G Y ho hd hcd hmg hobj hints hlen hbits hg => ?_
  obtain ⟨KX, TX⟩ := hY w _ Y
  obtain ⟨cs, ht, L⟩ := F w mg fa _ KX G.T.g hmg
  obtain ⟨fd, hb, hF⟩ := law_okL (P := l.prog) (w := w) L HL
  exact LamX.law_callTs (sp := spLawT (K w.params) cs) (cs := cs) KX G.T.g G.T.b G.T.builtins G.T.nolimit hg (fun p hp => TX _ (ht p hp).2.1) (fun p hp => (ht p hp).1) (fun p hp => PySem.W.codeHd_of_K KX (ht p hp).2.2) G.T.bmain hobj hints (Nat.le_trans hlen (by decide)) hr (fun base b1 b2 b3 => fn_thaw (hF base b1 b2 b3) rfl) hb
    (fun H hH hS => ⟨a, ns, rfl, hS, hlen, hH, fun _ => rfl⟩) fun H e s' ⟨_, _, _, _, _, _, _, _, _, _, _, _, z⟩ => z
/-- the code object of a def with a table -/
theorem tab_code {K : PySem.W.Frag} {x : Str} {f c P : Addr} {oc : Value} {od : Option Addr} {fd : FuncData} {sl : Array (Option Value)} (h1 : PySem.W.nsIn K mainGlobals x = some (some (.ref f))) (h2 : K.lookup f = some ⟨oc, od, .func fd, sl⟩) (h3 : PySem.W.tabIn K x = some (c, P)) : fd.code = .ref c := by
  unfold PySem.W.tabIn at h3
  rw [h1] at h3
  simp only [h2] at h3
  split at h3
  · rename_i c2 e
    split at h3
    · split at h3
      · cases h3; exact e
      · cases h3
    · cases h3
  · cases h3
theorem ds_none {K : PySem.W.Frag} {Z : Tb} {fd : FuncData} {ps : List Str} {f : Nat} (h : (Z.dss.any fun p => p.1 == f) = false) (B : Binds K fd ps []) : ∀ ds, dsOk Z f ds = true → DefsOk K fd ps ds := by
  intro ds hd
  unfold dsOk at hd
  simp only [Bool.or_eq_true] at hd
  rcases hd with hd | hd
  · rw [isEmp_nil hd]
    exact ⟨rfl, [], B, .nil⟩
  · obtain ⟨p, hp, hq⟩ := List.any_eq_true.mp hd
    have := List.any_eq_false.mp h p hp
    simp only [Bool.and_eq_true] at hq
    exact absurd hq.1 this
theorem defs_nil {K : PySem.W.Frag} {fd : FuncData} {ps : List Str} (B : Binds K fd ps []) (n : Nat) : DefsOk K fd ps (([] : List Val).drop n) := by
  rw [List.drop_nil]
  exact ⟨rfl, [], B, .nil⟩
theorem sqt_of {K : PySem.W.Frag} {H : Hp} {p : Addr} {qd : Option Addr} {its : Array Value} {n : Nat} {sl : Array (Option Value)} {ks : List Str} (h : K.lookup p = some ⟨.type "tuple", qd, .seq its n, sl⟩) (hz : its.size ≤ sizeLine) (hv : Vals (ks.map V.str) its.toList) : SqT K H p (ks.map V.str) :=
  .inr ⟨_, its, n, h, rfl, rfl, hz, hv⟩
/-- the defaults that calls fill up with -/
theorem ds_some {K : PySem.W.Frag} {Z : Tb} {fd : FuncData} {ps : List Str} {f : Nat} (h : ∀ p ∈ Z.dss, p.1 = f → DefsOk K fd ps p.2) (B : Binds K fd ps []) : ∀ ds, dsOk Z f ds = true → DefsOk K fd ps ds := by
  intro ds hd
  unfold dsOk at hd
  simp only [Bool.or_eq_true] at hd
  rcases hd with hd | hd
  · rw [isEmp_nil hd]
    exact ⟨rfl, [], B, .nil⟩
  · obtain ⟨p, hp, hq⟩ := List.any_eq_true.mp hd
    simp only [Bool.and_eq_true, beq_iff_eq] at hq
    rw [← dsEq_eq hq.2]
    exact h p hp hq.1
theorem binds_full {K : PySem.W.Frag} {fd : FuncData} {ps : List Str} (h : ∃ us, Vals [] us ∧ Binds K fd ps us) : Binds K fd ps [] := by
  obtain ⟨us, h1, h2⟩ := h
  cases h1
  exact h2
theorem defs_of {K : PySem.W.Frag} {fd : FuncData} {ps : List Str} {ds : List Val} {dvs : List V} (h : ∃ us, Vals dvs us ∧ Binds K fd ps us) (e : ds.map cV = dvs) (hc : ds.all cOk = true) : DefsOk K fd ps ds := by
  obtain ⟨us, h1, h2⟩ := h
  exact ⟨hc, us, h2, by rw [e]; exact h1⟩
/-- what an except clause takes -/
theorem exm_gen {K : PySem.W.Frag} {x j : Addr} {b : Bool} (h1 : PySem.W.subIn K (.ref j) (.type "BaseException") = some true) (h2 : PySem.W.isClsIn K j = true) (h3 : PySem.W.typeIn K (.ref j) = some (.type "type")) (h4 : PySem.W.subIn K (.ref x) (.ref j) = some b) :
    PySem.W.exmOne K (.ref x) (.ref j) = some b := by
  have g1 : (PySem.W.subIn K (.ref j) (.type "BaseException") == some true) = true := by rw [h1]; rfl
  have h2' : (PySem.W.clsIn K j).isSome = true := h2
  have g2 : ((PySem.W.clsIn K j).isSome && PySem.W.typeIn K (.ref j) == some (.type "type")) = true := by rw [h2', h3]; rfl
  unfold PySem.W.exmOne
  rw [if_pos g1]
  show (if _ then _ else _) = _
  rw [if_pos g2]
  exact h4
theorem kit_gen {K : PySem.W.Frag} {x j : Addr} {b : Bool} (h1 : (x == j) = false) (h2 : PySem.W.isClsIn K j = true) (h3 : PySem.W.typeIn K (.ref j) = some (.type "type")) (h4 : PySem.W.subIn K (.ref x) (.ref j) = some b) :
    PySem.W.kitOne K (.ref x) (.ref j) = some b := by
  have h0 : ((Value.ref x) == (Value.ref j)) = false := by
    have : x ≠ j := by simpa using h1
    rw [beq_eq_false_iff_ne]
    intro e; injection e with e; exact this e
  have h2' : (PySem.W.clsIn K j).isSome = true := h2
  have g2 : ((PySem.W.clsIn K j).isSome && PySem.W.typeIn K (.ref j) == some (.type "type")) = true := by rw [h2', h3]; rfl
  unfold PySem.W.kitOne
  rw [if_neg (by rw [h0]; decide)]
  show (if _ then _ else _) = _
  rw [if_pos g2]
  exact h4
theorem kit_self {K : PySem.W.Frag} {x : Addr} : PySem.W.kitOne K (.ref x) (.ref x) = some true := by
  unfold PySem.W.kitOne
  rw [if_pos (by simp)]
theorem kit_typ {K : PySem.W.Frag} {x : Addr} {t : String} {b : Bool} (h1 : PySem.W.kitMeta t = true) (h2 : PySem.W.subIn K (.ref x) (.type t) = some b) : PySem.W.kitOne K (.ref x) (.type t) = some b := by
  have h0 : ((Value.ref x) == (Value.type t)) = false := by
    rw [beq_eq_false_iff_ne]
    intro e
    cases e
  unfold PySem.W.kitOne
  rw [if_neg (by rw [h0]; decide)]
  show (if _ then _ else _) = _
  rw [if_pos h1]
  exact h2
/-! tables, by their rows -/
def AllP {α β : Type} (P : α → β → Prop) : List (α × β) → Prop
  | [] => True
  | (a, b) :: r => P a b ∧ AllP P r
theorem AllP.get {α β : Type} [BEq α] [LawfulBEq α] {P : α → β → Prop} : ∀ {l : List (α × β)}, AllP P l → ∀ x y, l.lookup x = some y → P x y
  | [], _, _, _, h => by cases h
  | (a, b) :: r, ⟨h1, h2⟩, x, y, h => by
    rw [List.lookup_cons] at h
    split at h
    · rename_i e
      cases h
      rw [eq_of_beq e]
      exact h1
    · exact h2.get x y h
def AllQ {α : Type} (P : α → Prop) : List α → Prop
  | [] => True
  | a :: r => P a ∧ AllQ P r
theorem AllQ.mem {α : Type} {P : α → Prop} : ∀ {l : List α}, AllQ P l → ∀ x, x ∈ l → P x
  | [], _, _, h => by cases h
  | a :: r, ⟨h1, h2⟩, x, h => by
    rcases List.mem_cons.mp h with rfl | h
    · exact h1
    · exact h2.mem x h
theorem AllQ.has {α : Type} [BEq α] [LawfulBEq α] {P : α → Prop} {l : List α} (h : AllQ P l) : ∀ x, l.contains x = true → P x := fun x hx => h.mem x (List.contains_iff_mem.mp hx)
def AllI (P : Nat → Df → Prop) : Nat → List Df → Prop
  | _, [] => True
  | n, d :: r => P n d ∧ AllI P (n + 1) r
theorem AllI.get {P : Nat → Df → Prop} : ∀ {l : List Df} {n : Nat}, AllI P n l → ∀ i d, l[i]? = some d → P (n + i) d
  | [], _, _, _, _, h => by cases h
  | a :: r, n, ⟨h1, h2⟩, i, d, h => by
    cases i with
    | zero => cases h; exact h1
    | succ i => rw [show n + (i + 1) = n + 1 + i by omega]; exact h2.get i d h
theorem AllI.get0 {P : Nat → Df → Prop} {l : List Df} (h : AllI P 0 l) (i : Nat) (d : Df) (e : l[i]? = some d) : P i d := by
  have := h.get i d e
  rwa [Nat.zero_add] at this
end Nw

set_option Elab.async false
set_option maxRecDepth 100000
namespace Nw.k16
open PySem L2 Nw
/-! the defs of the text, as terms -/
def b3 : PyS :=
  (.seq (.ite (.cmp .lt (.var 1) (.bi .len (.cons (.var 0) .nil))) (.seq (.ret (.idx (.var 0) (.var 1))) .skip) .skip) (.seq (.ret (.c (.int 0))) .skip))
def b4_1 : PyS :=
  (.seq (.ite (.cmp .eq (.var 0) (.c (.int 5))) (.seq (.raiseF 6 (.cons (.var 1) (.cons (.var 2) .nil))) .skip) .skip) (.seq (.raiseF 7 (.cons (.var 3) .nil)) .skip))
def b4_2 : PyS :=
  (.seq (.ite (.cmp .eq (.var 0) (.c (.int 4))) (.seq (.raiseF 5 (.cons (.var 1) .nil)) .skip) .skip) b4_1)
def b4_3 : PyS :=
  (.seq (.ite (.cmp .eq (.var 0) (.c (.int 3))) (.seq (.raise 4 (.cons (.c (.str "words")) .nil)) .skip) .skip) b4_2)
def b4_4 : PyS :=
  (.seq (.ite (.cmp .eq (.var 0) (.c (.int 2))) (.seq (.raise 3 (.cons (.c (.str "words")) .nil)) .skip) .skip) b4_3)
def b4_5 : PyS :=
  (.seq (.ite (.cmp .eq (.var 0) (.c (.int 1))) (.seq (.raise 2 (.cons (.c (.str "words")) .nil)) .skip) .skip) b4_4)
def b4 : PyS :=
  (.seq (.ite (.cmp .eq (.var 0) (.c (.int 0))) (.seq (.raise 1 (.cons (.c (.str "words")) .nil)) .skip) .skip) b4_5)
def b5_1 : PyS :=
  (.seq (.asg 1 (.bin .add (.var 1) (.lst (.cons (.isX 3 (.var 0)) (.cons (.isX 4 (.var 0)) (.cons (.isX 5 (.var 0)) (.cons (.isX 6 (.var 0)) .nil))))))) (.seq (.ret (.bin .add (.var 1) (.lst (.cons (.isX 7 (.var 0)) .nil)))) .skip))
def b5 : PyS :=
  (.seq (.asg 1 (.lst (.cons (.isX 1 (.var 0)) (.cons (.isX 2 (.var 0)) .nil)))) b5_1)
def b6 : PyS :=
  (.seq (.tryA (.seq (.expr (.call 4 (.cons (.var 0) (.cons (.var 1) (.cons (.var 2) (.cons (.var 3) .nil)))) [])) .skip) (.hnd 5 (some 4) (.seq (.ret (.lst (.cons (.xfld (.var 4) 0) .nil))) .skip) (.hnd 6 (some 4) (.seq (.ret (.lst (.cons (.xfld (.var 4) 0) (.cons (.xfld (.var 4) 1) .nil)))) .skip) (.hnd 7 (some 4) (.seq (.ret (.lst (.cons (.xfld (.var 4) 2) .nil))) .skip) (.hnd 0 none (.seq (.ret (.lst .nil)) .skip) .skip))))) (.seq (.ret (.lst (.cons (.c (.str "nothing")) .nil))) .skip))
def b7 : PyS :=
  (.seq (.tryA (.seq (.expr (.call 4 (.cons (.var 0) (.cons (.var 1) (.cons (.var 2) (.cons (.var 3) .nil)))) [])) .skip) (.hnd 0 (some 4) (.seq (.ret (.and (.isX 1000 (.var 4)) (.cmp .eq (.callH 5 (.cons (.var 4) .nil)) (.comp (.cmp .eq (.var 5) (.var 0)) false [5] .range (.cons (.c (.int 7)) .nil) (.c (.bl true)))))) .skip) .skip)) (.seq (.ret (.c (.bl false))) .skip))
def b8_1 : PyS :=
  (.seq (.ite (.cmp .ne (.call 6 (.cons (.var 4) (.cons (.var 1) (.cons (.var 2) (.cons (.var 3) .nil)))) []) (.var 5)) (.seq (.ret (.c (.bl false))) .skip) .skip) .skip)
def b8_2 : PyS :=
  (.seq (.ite (.not (.call 7 (.cons (.var 4) (.cons (.var 1) (.cons (.var 2) (.cons (.var 3) .nil)))) [])) (.seq (.ret (.c (.bl false))) .skip) .skip) b8_1)
def b8_3 : PyS :=
  (.seq (.asg 5 (.idx (.lst (.cons (.lst .nil) (.cons (.lst .nil) (.cons (.lst .nil) (.cons (.lst .nil) (.cons (.lst (.cons (.var 1) .nil)) (.cons (.lst (.cons (.var 1) (.cons (.var 2) .nil))) (.cons (.lst (.cons (.var 3) .nil)) .nil)))))))) (.var 4))) b8_2)
def b8_4 : PyS :=
  (.seq (.for_ false [4] .range (.cons (.c (.int 7)) .nil) b8_3) (.seq (.ret (.c (.bl true))) .skip))
def b8_5 : PyS :=
  (.seq (.asg 3 (.bin .mod (.call 3 (.cons (.var 0) (.cons (.c (.int 2)) .nil)) []) (.c (.int 1000)))) b8_4)
def b8_6 : PyS :=
  (.seq (.asg 2 (.idx (.lst (.cons (.c (.str "deep")) (.cons (.c (.str "names")) (.cons (.c (.str "give")) (.cons (.c (.str "groups")) .nil))))) (.bin .mod (.call 3 (.cons (.var 0) (.cons (.c (.int 1)) .nil)) []) (.c (.int 4))))) b8_5)
def b8 : PyS :=
  (.seq (.asg 1 (.bin .add (.c (.int 1)) (.bin .mod (.call 3 (.cons (.var 0) (.cons (.c (.int 0)) .nil)) []) (.c (.int 1000))))) b8_6)
def D : List Df := [⟨1, 6, b8⟩, ⟨1, 6, b8⟩, ⟨1, 6, b8⟩, ⟨2, 2, b3⟩, ⟨4, 4, b4⟩, ⟨1, 2, b5⟩, ⟨4, 5, b6⟩, ⟨4, 6, b7⟩, ⟨1, 6, b8⟩]
def mtT : List ((Nat × Nat) × (Nat × List Val)) := []
def fT : List (Nat × Nat) := []
def caT : List ((Nat × Nat) × Bool) := [((7, 7), true), ((7, 1), false), ((7, 4), false), ((7, 6), false), ((7, 5), false), ((7, 2), false), ((7, 3), false), ((1, 7), false), ((1, 1), true), ((1, 4), false), ((1, 6), false), ((1, 5), false), ((1, 2), false), ((1, 3), false), ((4, 7), false), ((4, 1), false), ((4, 4), true), ((4, 6), false), ((4, 5), false), ((4, 2), false), ((4, 3), false), ((6, 7), false), ((6, 1), false), ((6, 4), false), ((6, 6), true), ((6, 5), false), ((6, 2), false), ((6, 3), false), ((5, 7), false), ((5, 1), false), ((5, 4), false), ((5, 6), false), ((5, 5), true), ((5, 2), false), ((5, 3), false), ((2, 7), false), ((2, 1), false), ((2, 4), false), ((2, 6), false), ((2, 5), false), ((2, 2), true), ((2, 3), false), ((3, 7), false), ((3, 1), false), ((3, 4), false), ((3, 6), false), ((3, 5), false), ((3, 2), false), ((3, 3), true), ((0, 7), true), ((0, 1), true), ((0, 4), true), ((0, 6), true), ((0, 5), true), ((0, 2), true), ((0, 3), true)]
def isT : List ((Nat × Nat) × Bool) := []
def xisT : List ((Nat × Nat) × Bool) := [((7, 7), true), ((7, 1), false), ((7, 4), false), ((7, 6), false), ((7, 5), false), ((7, 2), false), ((7, 3), false), ((1, 7), false), ((1, 1), true), ((1, 4), false), ((1, 6), false), ((1, 5), false), ((1, 2), false), ((1, 3), false), ((4, 7), false), ((4, 1), false), ((4, 4), true), ((4, 6), false), ((4, 5), false), ((4, 2), false), ((4, 3), false), ((6, 7), false), ((6, 1), false), ((6, 4), false), ((6, 6), true), ((6, 5), false), ((6, 2), false), ((6, 3), false), ((5, 7), false), ((5, 1), false), ((5, 4), false), ((5, 6), false), ((5, 5), true), ((5, 2), false), ((5, 3), false), ((2, 7), false), ((2, 1), false), ((2, 4), false), ((2, 6), false), ((2, 5), false), ((2, 2), true), ((2, 3), false), ((3, 7), false), ((3, 1), false), ((3, 4), false), ((3, 6), false), ((3, 5), false), ((3, 2), false), ((3, 3), true), ((1000, 7), true), ((1000, 1), true), ((1000, 4), true), ((1000, 6), true), ((1000, 5), true), ((1000, 2), true), ((1000, 3), true)]
def xfT : List (Nat × List Nat) := [(7, [2]), (6, [0, 1]), (5, [0])]
def T : Tab := ⟨fun c m => mtT.lookup (c, m), fun c f => fT.contains (c, f), fun j c => caT.lookup (j, c), fun j c => isT.lookup (j, c), fun j c => xisT.lookup (j, c), fun c => xfT.lookup c⟩
theorem r3 (n : Nat) (x0 x1 : Val) (S : Store) : run T D (n + 1) 3 [x0, x1] S = fin (ex T (run T D n) b3 [some x0, some x1] S) := rfl
theorem r4 (n : Nat) (x0 x1 x2 x3 : Val) (S : Store) : run T D (n + 1) 4 [x0, x1, x2, x3] S = fin (ex T (run T D n) b4 [some x0, some x1, some x2, some x3] S) := rfl
theorem r5 (n : Nat) (x0 : Val) (S : Store) : run T D (n + 1) 5 [x0] S = fin (ex T (run T D n) b5 [some x0, none] S) := rfl
theorem r6 (n : Nat) (x0 x1 x2 x3 : Val) (S : Store) : run T D (n + 1) 6 [x0, x1, x2, x3] S = fin (ex T (run T D n) b6 [some x0, some x1, some x2, some x3, none] S) := rfl
theorem r7 (n : Nat) (x0 x1 x2 x3 : Val) (S : Store) : run T D (n + 1) 7 [x0, x1, x2, x3] S = fin (ex T (run T D n) b7 [some x0, some x1, some x2, some x3, none, none] S) := rfl
theorem r8 (n : Nat) (x0 : Val) (S : Store) : run T D (n + 1) 8 [x0] S = fin (ex T (run T D n) b8 [some x0, none, none, none, none, none] S) := rfl
end Nw.k16

set_option Elab.async false
set_option linter.all false
set_option maxRecDepth 100000
set_option maxHeartbeats 4000000
namespace Nw
open PySem L2

/-! ## what a run ends with -/
def Res.wp {α : Type} (r : Res α) (P : α → Store → Prop) (E : Exn → Store → Prop) : Prop := match r with
  | .ok a S => P a S
  | .ex e S => E e S
  | .no => False
structure Po where
  nx : Env → Store → Prop
  rt : Val → Store → Prop
  bk : Env → Store → Prop
  ct : Env → Store → Prop
  ex : Exn → Env → Store → Prop
def Out.wp (o : Out) (Q : Po) : Prop := match o with
  | .nx e S => Q.nx e S
  | .rt v S => Q.rt v S
  | .bk e S => Q.bk e S
  | .ct e S => Q.ct e S
  | .ex x e S => Q.ex x e S
  | .no => False
abbrev noX : Exn → Store → Prop := fun _ _ => False
section
variable {α β : Type} {P P' : α → Store → Prop} {E E' : Exn → Store → Prop} {S : Store} {Q Q' : Po} {env : Env} {G : Tab} {ft : Fns}
theorem Res.wp.mono {r : Res α} (h : r.wp P E) (hp : ∀ a S, P a S → P' a S) (he : ∀ e S, E e S → E' e S) : r.wp P' E' := by
  cases r with
  | ok a S => exact hp _ _ h
  | ex e S => exact he _ _ h
  | no => exact h
/-- a call's promise, used -/
theorem Res.wp.then {r : Res α} (h : r.wp P noX) (hp : ∀ a S, P a S → P' a S) : r.wp P' E' := h.mono hp fun _ _ z => z.elim
theorem Out.wp.mono {o : Out} (h : o.wp Q) (h1 : ∀ e S, Q.nx e S → Q'.nx e S) (h2 : ∀ v S, Q.rt v S → Q'.rt v S) (h3 : ∀ e S, Q.bk e S → Q'.bk e S) (h4 : ∀ e S, Q.ct e S → Q'.ct e S) (h5 : ∀ x e S, Q.ex x e S → Q'.ex x e S) : o.wp Q' := by
  cases o with
  | nx e S => exact h1 _ _ h
  | rt v S => exact h2 _ _ h
  | bk e S => exact h3 _ _ h
  | ct e S => exact h4 _ _ h
  | ex x e S => exact h5 _ _ _ h
  | no => exact h
@[simp] theorem wp_bind {r : Res β} {f : β → Store → Res α} : (r.bind f).wp P E ↔ r.wp (fun a S => (f a S).wp P E) E := by cases r <;> exact Iff.rfl
@[simp] theorem wp_ok {a : α} : (Res.ok a S).wp P E ↔ P a S := Iff.rfl
@[simp] theorem wp_ex {e : Exn} : (Res.ex e S : Res α).wp P E ↔ E e S := Iff.rfl
@[simp] theorem wp_no : (Res.no : Res α).wp P E ↔ False := Iff.rfl
theorem wp_ofO {o : Option α} : (Res.ofO o S).wp P E ↔ ∃ a, o = some a ∧ P a S := by
  cases o with
  | none => simp [Res.ofO]
  | some a => simp [Res.ofO]
@[simp] theorem wp_out {r : Res α} {f : α → Store → Out} : (r.out env f).wp Q ↔ r.wp (fun a S => (f a S).wp Q) (fun e S => Q.ex e env S) := by cases r <;> exact Iff.rfl
@[simp] theorem wp_seq {o : Out} {k : Env → Store → Out} : (seqV o k).wp Q ↔ o.wp { Q with nx := fun e S => (k e S).wp Q } := by cases o <;> exact Iff.rfl
@[simp] theorem wp_nx {e : Env} : (Out.nx e S).wp Q ↔ Q.nx e S := Iff.rfl
@[simp] theorem wp_rt {v : Val} : (Out.rt v S).wp Q ↔ Q.rt v S := Iff.rfl
@[simp] theorem wp_bk {e : Env} : (Out.bk e S).wp Q ↔ Q.bk e S := Iff.rfl
@[simp] theorem wp_ct {e : Env} : (Out.ct e S).wp Q ↔ Q.ct e S := Iff.rfl
@[simp] theorem wp_xx {x : Exn} {e : Env} : (Out.ex x e S).wp Q ↔ Q.ex x e S := Iff.rfl
@[simp] theorem wp_nno : (Out.no).wp Q ↔ False := Iff.rfl
@[simp] theorem wp_fin {o : Out} {P : Val → Store → Prop} : (fin o).wp P E ↔ o.wp { nx := fun _ S => P .non S, rt := P, bk := fun _ _ => False, ct := fun _ _ => False, ex := fun x _ S => E x S } := by cases o <;> exact Iff.rfl
@[simp] theorem wp_ifS {b : Bool} {t f : Out} : (ifS (.bl b) S t f).wp Q ↔ (b = true → t.wp Q) ∧ (b = false → f.wp Q) := by
  cases b <;> simp [ifS, tru]
@[simp] theorem ifV_and {p q : Bool} : ifV (.bl p) S (.ok (Val.bl q) S) (.ok (Val.bl p) S) = .ok (.bl (p && q)) S := by cases p <;> rfl
@[simp] theorem ifV_or {p q : Bool} : ifV (.bl p) S (.ok (Val.bl p) S) (.ok (Val.bl q) S) = .ok (.bl (p || q)) S := by cases p <;> rfl
@[simp] theorem ifV_not {p : Bool} : ifV (.bl p) S (.ok (Val.bl false) S) (.ok (Val.bl true) S) = .ok (.bl (!p)) S := by cases p <;> rfl
theorem wp_ifV {b : Bool} {t f : Res α} : (ifV (.bl b) S t f).wp P E ↔ (b = true → t.wp P E) ∧ (b = false → f.wp P E) := by
  cases b <;> simp [ifV, tru]
theorem ifV_true {t f : Res α} : ifV (.bl true) S t f = t := rfl
theorem ifV_false {t f : Res α} : ifV (.bl false) S t f = f := rfl

/-! operators, by kinds -/
@[simp] theorem add_int {i j : Int} : binV .add S (.int i) (.int j) = .ok (.int (i + j)) S := rfl
@[simp] theorem sub_int {i j : Int} : binV .sub S (.int i) (.int j) = .ok (.int (i - j)) S := rfl
theorem wp_ite {c : Prop} [Decidable c] {r : Res α} : (if c then r else .no).wp P E ↔ c ∧ r.wp P E := by
  by_cases h : c <;> simp [h]
@[simp] theorem wp_mul {i j : Int} {P : Val → Store → Prop} : (binV .mul S (.int i) (.int j)).wp P E ↔ (i.natAbs < 2 ^ 64 ∨ j.natAbs < 2 ^ 64) ∧ P (.int (i * j)) S := wp_ite
@[simp] theorem wp_fdiv {i j : Int} {P : Val → Store → Prop} : (binV .fdiv S (.int i) (.int j)).wp P E ↔ (0 < j ∧ j < 1073741824) ∧ P (.int (i / j)) S := wp_ite
@[simp] theorem wp_mod {i j : Int} {P : Val → Store → Prop} : (binV .mod S (.int i) (.int j)).wp P E ↔ 0 < j ∧ P (.int (i % j)) S := wp_ite
@[simp] theorem wp_pow {i j : Int} {P : Val → Store → Prop} : (binV .pow S (.int i) (.int j)).wp P E ↔ (0 ≤ j ∧ j ≤ 1000000 ∧ i.natAbs < 2 ^ 64) ∧ P (.int (i ^ j.toNat)) S := wp_ite
@[simp] theorem wp_addS {a b : Str} {P : Val → Store → Prop} : (binV .add S (.str a) (.str b)).wp P E ↔ a.length + b.length ≤ line ∧ P (.str (a ++ b)) S := wp_ite
@[simp] theorem wp_addT {a b : List Val} {P : Val → Store → Prop} : (binV .add S (.tup a) (.tup b)).wp P E ↔ a.length + b.length ≤ line ∧ P (.tup (a ++ b)) S := wp_ite
theorem wp_addL {i j : Nat} {xs ys : List Val} {P : Val → Store → Prop} (h1 : S[i]? = some (.lst false xs)) (h2 : S[j]? = some (.lst false ys)) (hl : xs.length + ys.length ≤ line) (h : P (.obj S.length) (S ++ [.lst false (xs ++ ys)])) : (binV .add S (.obj i) (.obj j)).wp P E := by
  show (addV S (.obj i) (.obj j)).wp P E
  simp only [addV, h1, h2, if_pos hl, wp_ok]
  exact h
@[simp] theorem eqv_bb {a b : Bool} : PyData.eqv (.bool a) (.bool b) = (a == b) := by cases a <;> cases b <;> rfl
@[simp] theorem pcmp_lt {i j : Int} : cmpV .lt S (.int i) (.int j) = some (decide (i < j)) := rfl
@[simp] theorem pcmp_le {i j : Int} : cmpV .le S (.int i) (.int j) = some (decide (i ≤ j)) := rfl
@[simp] theorem pcmp_gt {i j : Int} : cmpV .gt S (.int i) (.int j) = some (decide (j < i)) := rfl
@[simp] theorem pcmp_ge {i j : Int} : cmpV .ge S (.int i) (.int j) = some (decide (j ≤ i)) := rfl
@[simp] theorem pcmp_mem {x y : Val} : cmpV .mem S x y = memV S x y := rfl
@[simp] theorem pcmp_nmem {x y : Val} : cmpV .nmem S x y = (memV S x y).map not := rfl
@[simp] theorem pcmp_eq {x y : Val} : cmpV .eq S x y = eqD S x y := rfl
@[simp] theorem pcmp_ne {x y : Val} : cmpV .ne S x y = (eqD S x y).map not := rfl
end
def optR {α β : Type} (o : Option α) (k : α → Res β) : Res β := match o with
  | some a => k a
  | none => .no
@[simp] theorem optR_some {α β : Type} (a : α) (k : α → Res β) : optR (some a) k = k a := rfl
@[simp] theorem optR_none {α β : Type} (k : α → Res β) : optR none k = .no := rfl
def optO {α : Type} (o : Option α) (k : α → Out) : Out := match o with
  | some a => k a
  | none => .no
@[simp] theorem optO_some {α : Type} (a : α) (k : α → Out) : optO (some a) k = k a := rfl
@[simp] theorem optO_none {α : Type} (k : α → Out) : optO none k = .no := rfl
/-! equations, one a form -/
section
variable {G : Tab} {ft : Fns} {env : Env} {S : Store}
@[simp] theorem ev_c {v : Val} : ev G ft (.c v) env S = .ok v S := by first | (simp only [ev]; done) | (conv => lhs; unfold ev)
@[simp] theorem ev_var {i : Nat} : ev G ft (.var i) env S = Res.ofO (env[i]?.getD none) S := by first | (simp only [ev]; done) | (conv => lhs; unfold ev)
@[simp] theorem ev_bin {o : BinO} {a : PyE} {b : PyE} : ev G ft (.bin o a b) env S = (ev G ft a env S).bind fun x S1 => (ev G ft b env S1).bind fun y S2 => binV o S2 x y := by first | (simp only [ev]; done) | (conv => lhs; unfold ev)
@[simp] theorem ev_neg {a : PyE} : ev G ft (.neg a) env S = (ev G ft a env S).bind fun x S1 => negV x S1 := by first | (simp only [ev]; done) | (conv => lhs; unfold ev)
@[simp] theorem ev_cmp {o : CmpO} {a : PyE} {b : PyE} : ev G ft (.cmp o a b) env S = (ev G ft a env S).bind fun x S1 => (ev G ft b env S1).bind fun y S2 => Res.ofO ((cmpV o S2 x y).map .bl) S2 := by first | (simp only [ev]; done) | (conv => lhs; unfold ev)
@[simp] theorem ev_inK {n : Bool} {a : PyE} {ks : List Str} : ev G ft (.inK n a ks) env S = (ev G ft a env S).bind fun x S1 => if flat x then .ok (.bl (xorB n (ks.any fun k => eqF (.str k) x))) S1 else .no := by first | (simp only [ev]; done) | (conv => lhs; unfold ev)
@[simp] theorem ev_isN {n : Bool} {a : PyE} : ev G ft (.isN n a) env S = (ev G ft a env S).bind fun x S1 => .ok (.bl (xorB n (isNon x))) S1 := by first | (simp only [ev]; done) | (conv => lhs; unfold ev)
@[simp] theorem ev_isC {j : Nat} {a : PyE} : ev G ft (.isC j a) env S = (ev G ft a env S).bind fun x S1 => Res.ofO ((isCV G j S1 x).map .bl) S1 := by first | (simp only [ev]; done) | (conv => lhs; unfold ev)
@[simp] theorem ev_revL {a : PyE} : ev G ft (.revL a) env S = (ev G ft a env S).bind fun x S1 => rvlV S1 x := by first | (simp only [ev]; done) | (conv => lhs; unfold ev)
@[simp] theorem ev_isX {j : Nat} {a : PyE} : ev G ft (.isX j a) env S = (ev G ft a env S).bind fun x S1 => Res.ofO ((isXV G j S1 x).map .bl) S1 := by first | (simp only [ev]; done) | (conv => lhs; unfold ev)
@[simp] theorem ev_isXT {js : List Nat} {a : PyE} : ev G ft (.isXT js a) env S = (ev G ft a env S).bind fun x S1 => Res.ofO ((isXTV G js S1 x).map .bl) S1 := by first | (simp only [ev]; done) | (conv => lhs; unfold ev)
@[simp] theorem ev_xfld {a : PyE} {f : Nat} : ev G ft (.xfld a f) env S = (ev G ft a env S).bind fun x S1 => xfldV G f x S1 := by first | (simp only [ev]; done) | (conv => lhs; unfold ev)
@[simp] theorem ev_callH {f : Nat} {a : PyE} : ev G ft (.callH f a) env S = (evA G ft a env S).bind fun vs S1 => ft f vs S1 := by first | (simp only [ev]; done) | (conv => lhs; unfold ev)
@[simp] theorem ev_sortK {i : Nat} {a : PyE} : ev G ft (.sortK a i) env S = (ev G ft a env S).bind fun v S1 => sortKV i v S1 := by first | (simp only [ev]; done) | (conv => lhs; unfold ev)
@[simp] theorem ev_isB {n : Bool} {a : PyE} {b : PyE} : ev G ft (.isB n a b) env S = (ev G ft a env S).bind fun x S1 => (ev G ft b env S1).bind fun y S2 => isBV n x y S2 := by first | (simp only [ev]; done) | (conv => lhs; unfold ev)
@[simp] theorem ev_chain {o : CmpO} {o' : CmpO} {a : PyE} {b : PyE} {c : PyE} : ev G ft (.chain o o' a b c) env S = (ev G ft a env S).bind fun x S1 => (ev G ft b env S1).bind fun y S2 => chainV o x y S2 ((ev G ft c env S2).bind fun z S3 => Res.ofO ((cmpV o' S3 y z).map .bl) S3) := by first | (simp only [ev]; done) | (conv => lhs; unfold ev)
@[simp] theorem ev_and {a : PyE} {b : PyE} : ev G ft (.and a b) env S = (ev G ft a env S).bind fun x S1 => ifV x S1 (ev G ft b env S1) (.ok x S1) := by first | (simp only [ev]; done) | (conv => lhs; unfold ev)
@[simp] theorem ev_or {a : PyE} {b : PyE} : ev G ft (.or a b) env S = (ev G ft a env S).bind fun x S1 => ifV x S1 (.ok x S1) (ev G ft b env S1) := by first | (simp only [ev]; done) | (conv => lhs; unfold ev)
@[simp] theorem ev_not {a : PyE} : ev G ft (.not a) env S = (ev G ft a env S).bind fun x S1 => ifV x S1 (.ok (.bl false) S1) (.ok (.bl true) S1) := by first | (simp only [ev]; done) | (conv => lhs; unfold ev)
@[simp] theorem ev_ite {t : PyE} {a : PyE} {b : PyE} : ev G ft (.ite t a b) env S = (ev G ft t env S).bind fun x S1 => ifV x S1 (ev G ft a env S1) (ev G ft b env S1) := by first | (simp only [ev]; done) | (conv => lhs; unfold ev)
@[simp] theorem ev_tup {a : PyE} : ev G ft (.tup a) env S = (evA G ft a env S).bind fun xs S1 => if xs.length ≤ line then .ok (.tup xs) S1 else .no := by first | (simp only [ev]; done) | (conv => lhs; unfold ev)
@[simp] theorem ev_lst {a : PyE} : ev G ft (.lst a) env S = (evA G ft a env S).bind fun xs S1 => if xs.length ≤ line then .ok (.obj S1.length) (S1 ++ [.lst false xs]) else .no := by first | (simp only [ev]; done) | (conv => lhs; unfold ev)
@[simp] theorem ev_dnewK  : ev G ft (.dnewK) env S = .ok (.obj S.length) (S ++ [.dK false []]) := by first | (simp only [ev]; done) | (conv => lhs; unfold ev)
@[simp] theorem ev_dnewT  : ev G ft (.dnewT) env S = .ok (.obj S.length) (S ++ [.dT false []]) := by first | (simp only [ev]; done) | (conv => lhs; unfold ev)
@[simp] theorem ev_disp {a : PyE} : ev G ft (.disp a) env S = evP G ft a env S.length [] (S ++ [.dK false []]) := by first | (simp only [ev]; done) | (conv => lhs; unfold ev)
@[simp] theorem ev_dispL {a : PyE} : ev G ft (.dispL a) env S = (evA G ft a env S).bind fun xs S1 => dispLV xs S1 := by first | (simp only [ev]; done) | (conv => lhs; unfold ev)
@[simp] theorem ev_lstR {b : Bool} {s0 : Str} {pf p1 o q : PyE} {y z : Str} : ev G ft (.lstR b s0 pf p1 o y z q) env S = (if b then (ev G ft pf env S).bind fun v S1 => binV .add S1 (.str s0) v else .ok (.str s0) S).bind fun a S1 => (ev G ft p1 env S1).bind fun c S2 => (ev G ft o env S2).bind fun x S3 => (repV S3 x y z).bind fun r S4 => (evA G ft q env S4).bind fun xs S5 => lstRV (a :: c :: r :: xs) S5 := by first | (simp only [ev]; done) | (conv => lhs; unfold ev)
@[simp] theorem ev_idx {a : PyE} {b : PyE} : ev G ft (.idx a b) env S = (ev G ft a env S).bind fun x S1 => (ev G ft b env S1).bind fun y S2 => Res.ofO (ixV S2 x y) S2 := by first | (simp only [ev]; done) | (conv => lhs; unfold ev)
@[simp] theorem ev_sl {a : PyE} {hl : Bool} {lo : PyE} {hh : Bool} {hi : PyE} : ev G ft (.sl a hl lo hh hi) env S = (ev G ft a env S).bind fun x S1 => (if hl then (ev G ft lo env S1).bind optI else .ok none S1).bind fun l S2 => (if hh then (ev G ft hi env S2).bind optI else .ok none S2).bind fun h S3 => slV S3 x l h := by first | (simp only [ev]; done) | (conv => lhs; unfold ev)
@[simp] theorem ev_fld {a : PyE} {f : Nat} : ev G ft (.fld a f) env S = (ev G ft a env S).bind fun x S1 => fldV G f x S1 := by first | (simp only [ev]; done) | (conv => lhs; unfold ev)
@[simp] theorem ev_call {f : Nat} {a : PyE} {ds : List Val} : ev G ft (.call f a ds) env S = (evA G ft a env S).bind fun vs S1 => ft f (vs ++ ds) S1 := by first | (simp only [ev]; done) | (conv => lhs; unfold ev)
@[simp] theorem ev_new {k : Nat} {f : Nat} {a : PyE} {ds : List Val} : ev G ft (.new k f a ds) env S = (evA G ft a env S).bind fun vs S1 => (ft f (.obj S1.length :: (vs ++ ds)) (S1 ++ [.ins k []])).bind fun r S2 => newV (.obj S1.length) r S2 := by first | (simp only [ev]; done) | (conv => lhs; unfold ev)
@[simp] theorem ev_meth {a : PyE} {m : Nat} {n : Nat} {as : PyE} : ev G ft (.meth a m n as) env S = (ev G ft a env S).bind fun x S1 => optR (methV G m x S1) fun p => (evA G ft as env S1).bind fun vs S2 => ft p.1 (x :: (vs ++ p.2.drop n)) S2 := by
  simp only [ev]
  refine congrArg _ (funext fun x => funext fun S1 => ?_)
  cases methV G m x S1 <;> rfl
@[simp] theorem ev_bi {b : Bi} {a : PyE} : ev G ft (.bi b a) env S = (evA G ft a env S).bind fun vs S1 => biV b S1 vs := by first | (simp only [ev]; done) | (conv => lhs; unfold ev)
@[simp] theorem ev_bm {m : Bm} {a : PyE} {as : PyE} : ev G ft (.bm m a as) env S = (ev G ft a env S).bind fun x S1 => optR (bmGo m S1 x) fun k => (evA G ft as env S1).bind fun vs S2 => bmV m k S2 x vs := by
  simp only [ev]
  refine congrArg _ (funext fun x => funext fun S1 => ?_)
  cases bmGo m S1 x <;> rfl
@[simp] theorem ev_comp {elt : PyE} {tp : Bool} {is : List Nat} {k : ItK} {as : PyE} {cond : PyE} : ev G ft (.comp elt tp is k as cond) env S = (evA G ft as env S).bind fun vs S1 => compV tp is k env (ev G ft cond) (ev G ft elt) vs S1 := by first | (simp only [ev]; done) | (conv => lhs; unfold ev)
@[simp] theorem ex_skip  : ex G ft (.skip) env S = .nx env S := by first | (simp only [ex]; done) | (conv => lhs; unfold ex)
@[simp] theorem ex_seq {a : PyS} {b : PyS} : ex G ft (.seq a b) env S = seqV (ex G ft a env S) (ex G ft b) := by first | (simp only [ex]; done) | (conv => lhs; unfold ex)
@[simp] theorem ex_expr {e : PyE} : ex G ft (.expr e) env S = (ev G ft e env S).out env fun _ S1 => .nx env S1 := by first | (simp only [ex]; done) | (conv => lhs; unfold ex)
@[simp] theorem ex_asg {i : Nat} {e : PyE} : ex G ft (.asg i e) env S = (ev G ft e env S).out env fun v S1 => .nx (env.set i (some v)) S1 := by first | (simp only [ex]; done) | (conv => lhs; unfold ex)
@[simp] theorem ex_asgT {is : List Nat} {e : PyE} : ex G ft (.asgT is e) env S = (ev G ft e env S).out env fun v S1 => ofNx ((tgt true is v env).map fun e' => (e', S1)) := by first | (simp only [ex]; done) | (conv => lhs; unfold ex)
@[simp] theorem ex_asgL {is : List Nat} {e : PyE} : ex G ft (.asgL is e) env S = (ev G ft e env S).out env fun v S1 => ofNx (((lst? S1 v).bind fun xs => tgt true is (.tup xs) env).map fun e' => (e', S1)) := by first | (simp only [ex]; done) | (conv => lhs; unfold ex)
@[simp] theorem ex_setI {o : PyE} {i : PyE} {e : PyE} : ex G ft (.setI o i e) env S = (ev G ft e env S).out env fun v S1 => (ev G ft o env S1).out env fun x S2 => (ev G ft i env S2).out env fun k S3 => ofNx ((setIV S3 x k v).map fun S4 => (env, S4)) := by first | (simp only [ex]; done) | (conv => lhs; unfold ex)
@[simp] theorem ex_setF {o : PyE} {f : Nat} {e : PyE} : ex G ft (.setF o f e) env S = (ev G ft e env S).out env fun v S1 => (ev G ft o env S1).out env fun x S2 => setFV G f env v x S2 := by first | (simp only [ex]; done) | (conv => lhs; unfold ex)
@[simp] theorem ex_augV {i : Nat} {o : BinO} {e : PyE} : ex G ft (.augV i o e) env S = (Res.ofO (env[i]?.getD none) S).out env fun x S0 => (ev G ft e env S0).out env fun y S1 => (augV o S1 x y).out env fun z S2 => .nx (env.set i (some z)) S2 := by first | (simp only [ex]; done) | (conv => lhs; unfold ex)
@[simp] theorem ex_augF {a : PyE} {f : Nat} {o : BinO} {e : PyE} : ex G ft (.augF a f o e) env S = (ev G ft a env S).out env fun x S1 => optO (augF1 G f x S1) fun p => (ev G ft e env S1).out env fun y S2 => (augV o S2 p.2.2 y).out env fun z S3 => augF2 f env p.1 p.2.1 z S3 := by
  simp only [ex]
  refine congrArg _ (funext fun x => funext fun S1 => ?_)
  cases augF1 G f x S1 <;> rfl
@[simp] theorem ex_ite {c : PyE} {a : PyS} {b : PyS} : ex G ft (.ite c a b) env S = (ev G ft c env S).out env fun v S1 => ifS v S1 (ex G ft a env S1) (ex G ft b env S1) := by first | (simp only [ex]; done) | (conv => lhs; unfold ex)
@[simp] theorem ex_ret {e : PyE} : ex G ft (.ret e) env S = (ev G ft e env S).out env fun v S1 => .rt v S1 := by first | (simp only [ex]; done) | (conv => lhs; unfold ex)
@[simp] theorem ex_for_ {tp : Bool} {is : List Nat} {k : ItK} {as : PyE} {b : PyS} : ex G ft (.for_ tp is k as b) env S = (evA G ft as env S).out env fun vs S1 => forV tp is k (ex G ft b) env vs S1 := by first | (simp only [ex]; done) | (conv => lhs; unfold ex)
@[simp] theorem ex_whl {c : PyE} {b : PyS} : ex G ft (.whl c b) env S = whlW (ev G ft c) (ex G ft b) whileBound env S := by first | (simp only [ex]; done) | (conv => lhs; unfold ex)
@[simp] theorem ex_brk  : ex G ft (.brk) env S = .bk env S := by first | (simp only [ex]; done) | (conv => lhs; unfold ex)
@[simp] theorem ex_cnt  : ex G ft (.cnt) env S = .ct env S := by first | (simp only [ex]; done) | (conv => lhs; unfold ex)
@[simp] theorem ex_raise {k : Nat} {a : PyE} : ex G ft (.raise k a) env S = (evA G ft a env S).out env fun vs S1 => if vs.length ≤ line then .ex ⟨k, []⟩ env S1 else .no := by first | (simp only [ex]; done) | (conv => lhs; unfold ex)
@[simp] theorem ex_try1 {b : PyS} {k : Nat} {h : PyS} : ex G ft (.try1 b k h) env S = tryV G k (ex G ft h) (ex G ft b env S) := by first | (simp only [ex]; done) | (conv => lhs; unfold ex)
@[simp] theorem ex_raiseF {k : Nat} {a : PyE} : ex G ft (.raiseF k a) env S = (evA G ft a env S).out env fun vs S1 => raiseV G k env vs S1 := by first | (simp only [ex]; done) | (conv => lhs; unfold ex)
@[simp] theorem ex_tryA {b h : PyS} : ex G ft (.tryA b h) env S = tryB (exH G ft h) (ex G ft b env S) := by first | (simp only [ex]; done) | (conv => lhs; unfold ex)
@[simp] theorem evA_nil : evA G ft .nil env S = .ok [] S := by simp only [evA]
@[simp] theorem evA_cons {a b : PyE} : evA G ft (.cons a b) env S = (ev G ft a env S).bind fun x S1 => (evA G ft b env S1).bind fun xs S2 => .ok (x :: xs) S2 := by simp only [evA]
end
end Nw

set_option Elab.async false
set_option linter.all false
set_option maxRecDepth 100000
set_option maxHeartbeats 4000000
namespace Nw
open PySem L2

/-! ## the store grows -/
def Le (S S' : Store) : Prop := ∀ (i : Nat) o, S[i]? = some o → S'[i]? = some o
theorem Le.refl (S : Store) : Le S S := fun _ _ h => h
theorem Le.trans {S T U : Store} (h : Le S T) (k : Le T U) : Le S U := fun i o e => k i o (h i o e)
theorem Le.app (S T : Store) : Le S (S ++ T) := fun i o e => by
  rw [List.getElem?_append_left (List.getElem?_eq_some_iff.mp e).1]; exact e
theorem Le.len {S S' : Store} (h : Le S S') : S.length ≤ S'.length := by
  rcases Nat.lt_or_ge S'.length S.length with g | g
  · have e := h S'.length _ (List.getElem?_eq_getElem g)
    rw [List.getElem?_eq_none (Nat.le_refl _)] at e
    cases e
  · exact g
theorem Le.set {S S' : Store} (h : Le S S') {d : Nat} {o : Obj} (hd : S.length ≤ d) : Le S (S'.set d o) := fun i u e => by
  have hi := (List.getElem?_eq_some_iff.mp e).1
  rw [List.getElem?_set_ne (by omega)]
  exact h i u e
theorem at_end (S : Store) (o : Obj) : (S ++ [o])[S.length]? = some o := by simp

/-! ## loops -/
section
variable {Q : Po} {env : Env} {S : Store} {tp : Bool} {is : List Nat} {kd : ItK} {vs : List Val}
theorem wp_forW {body : Env → Store → Out} {w : Walk} (Inv : Nat → Env → Store → Prop) (items : List Val)
    (hwk : ∀ k env S, Inv k env S → walkAt S w k = some items[k]?)
    (hs : ∀ k x env S, items[k]? = some x → Inv k env S → ∃ e, tgt tp is x env = some e ∧ (body e S).wp { Q with nx := Inv (k + 1), ct := Inv (k + 1), bk := Q.nx })
    (he : ∀ env S, Inv items.length env S → Q.nx env S) : ∀ (n k : Nat) (env : Env) (S : Store), items.length < n + k → k ≤ items.length → Inv k env S → (forW body tp is w n k env S).wp Q := by
  intro n
  induction n with
  | zero => intro k env S h1 h2 h3; omega
  | succ n ih =>
    intro k env S h1 h2 h3
    unfold forW
    rw [hwk k env S h3]
    cases e : items[k]? with
    | none =>
      have : k = items.length := by have := List.getElem?_eq_none_iff.mp e; omega
      subst this
      exact he env S h3
    | some x =>
      have hk := (List.getElem?_eq_some_iff.mp e).1
      obtain ⟨e', h4, h5⟩ := hs k x env S e h3
      simp only [h4]
      cases eb : body e' S with
      | nx e2 S2 => rw [eb] at h5; exact ih (k + 1) e2 S2 (by omega) (by omega) h5
      | ct e2 S2 => rw [eb] at h5; exact ih (k + 1) e2 S2 (by omega) (by omega) h5
      | bk e2 S2 => rw [eb] at h5; exact h5
      | rt v S2 => rw [eb] at h5; exact h5
      | ex x e2 S2 => rw [eb] at h5; exact h5
      | no => rw [eb] at h5; exact h5
theorem wp_for {body : Env → Store → Out} {w : Walk} {n : Nat} (Inv : Nat → Env → Store → Prop) (items : List Val) (hw : mkWalk kd S vs = some (w, n)) (hn : items.length ≤ n) (h0 : Inv 0 env S)
    (hwk : ∀ k env S, Inv k env S → walkAt S w k = some items[k]?)
    (hs : ∀ k x env S, items[k]? = some x → Inv k env S → ∃ e, tgt tp is x env = some e ∧ (body e S).wp { Q with nx := Inv (k + 1), ct := Inv (k + 1), bk := Q.nx })
    (he : ∀ env S, Inv items.length env S → Q.nx env S) : (forV tp is kd body env vs S).wp Q := by
  unfold forV
  rw [hw]
  exact wp_forW Inv items hwk hs he (n + 1) 0 env S (by omega) (Nat.zero_le _) h0
theorem wp_whl {c : Env → Store → Res Val} {body : Env → Store → Out} (Inv : Nat → Env → Store → Prop) (m : Nat) (hm : m < whileBound) (h0 : Inv m env S)
    (hs : ∀ k env S, Inv k env S → (c env S).wp (fun v S1 => ∃ b, tru S1 v = some b ∧ (b = true → ∃ j, k = j + 1 ∧ (body env S1).wp { Q with nx := Inv j, ct := Inv j, bk := Q.nx }) ∧ (b = false → Q.nx env S1)) (fun e S => Q.ex e env S)) : (whlW c body whileBound env S).wp Q := by
  have key : ∀ (n m : Nat) (env : Env) (S : Store), m < n → Inv m env S → (whlW c body n env S).wp Q := by
    intro n
    induction n with
    | zero => intro m env S h; omega
    | succ n ih =>
      intro m env S h h0
      unfold whlW
      rw [wp_out]
      refine (hs m env S h0).mono (fun v S1 ⟨b, hb, h1, h2⟩ => ?_) fun _ _ z => z
      unfold ifS
      rw [hb]
      cases b with
      | false => exact h2 rfl
      | true =>
        obtain ⟨j, rfl, h3⟩ := h1 rfl
        simp only
        cases eb : body env S1 with
        | nx e2 S2 => rw [eb] at h3; exact ih j e2 S2 (by omega) h3
        | ct e2 S2 => rw [eb] at h3; exact ih j e2 S2 (by omega) h3
        | bk e2 S2 => rw [eb] at h3; exact h3
        | rt v S2 => rw [eb] at h3; exact h3
        | ex x e2 S2 => rw [eb] at h3; exact h3
        | no => rw [eb] at h3; exact h3
  exact key whileBound m env S hm h0

/-- a comprehension whose turns only add to the store; g: what a turn gives -/
theorem compW_ok {α : Type} {turn : Val → Store → Res (Option Val)} {w : Walk} {d : Nat} (xs : List α) (f : α → Val) (g : α → Option Val) (S0 : Store) (hd : S0.length ≤ d)
    (hwk : ∀ S k, Le S0 S → walkAt S w k = some (xs.map f)[k]?)
    (ht : ∀ x ∈ xs, ∀ S, Le S0 S → ∃ S', turn (f x) S = .ok (g x) S' ∧ Le S S') (hl : xs.length ≤ line) :
    ∀ (n k : Nat) (S : Store) (acc : List Val), xs.length < n + k → k ≤ xs.length → Le S0 S → S[d]? = some (.lst false acc) → acc.length ≤ k →
      ∃ S', compW turn w d n k S = .ok (.obj d) S' ∧ Le S0 S' ∧ S'[d]? = some (.lst false (acc ++ (xs.drop k).filterMap g)) := by
  intro n
  induction n with
  | zero => intro k S acc h1 h2; omega
  | succ n ih =>
    intro k S acc h1 h2 h3 h4 h5
    unfold compW
    rw [hwk S k h3, List.getElem?_map]
    cases e : xs[k]? with
    | none =>
      have : k = xs.length := by have := List.getElem?_eq_none_iff.mp e; omega
      subst this
      refine ⟨S, rfl, h3, ?_⟩
      rw [List.drop_eq_nil_of_le (Nat.le_refl _)]
      simpa using h4
    | some x =>
      have hk := (List.getElem?_eq_some_iff.mp e).1
      have hx : xs[k] = x := (List.getElem?_eq_some_iff.mp e).2
      obtain ⟨S1, t1, l1⟩ := ht x (List.mem_of_getElem? e) S h3
      have hdr : xs.drop k = x :: xs.drop (k + 1) := by rw [List.drop_eq_getElem_cons hk, hx]
      simp only [Option.map_some, t1]
      cases eg : g x with
      | none =>
        obtain ⟨S', r1, r2, r3⟩ := ih (k + 1) S1 acc (by omega) (by omega) (h3.trans l1) (l1 _ _ h4) (by omega)
        refine ⟨S', r1, r2, ?_⟩
        rw [hdr, List.filterMap_cons_none eg]
        exact r3
      | some y =>
        have h6 := l1 _ _ h4
        simp only [h6]
        rw [if_pos (by omega)]
        obtain ⟨S', r1, r2, r3⟩ := ih (k + 1) (S1.set d (.lst false (acc ++ [y]))) (acc ++ [y]) (by omega) (by omega) ((h3.trans l1).set hd)
          (by rw [List.getElem?_set_self (List.getElem?_eq_some_iff.mp h6).1]) (by simp; omega)
        refine ⟨S', r1, r2, ?_⟩
        rw [hdr, List.filterMap_cons_some eg]
        simpa using r3
theorem wp_comp {α : Type} {c e : Env → Store → Res Val} {w : Walk} {n : Nat} {P : Val → Store → Prop} {E : Exn → Store → Prop} (xs : List α) (f : α → Val) (g : α → Option Val) (hw : mkWalk kd S vs = some (w, n)) (hn : xs.length ≤ n) (hl : xs.length ≤ line)
    (hwk : ∀ S' k, Le S S' → walkAt S' w k = some (xs.map f)[k]?)
    (ht : ∀ x ∈ xs, ∀ S1, Le S S1 → (compT tp is env c e (f x) S1).wp (fun y S2 => y = g x ∧ Le S1 S2) noX)
    (h : ∀ S', Le S S' → S'[S.length]? = some (.lst false (xs.filterMap g)) → P (.obj S.length) S') : (compV tp is kd env c e vs S).wp P E := by
  unfold compV
  rw [hw]
  obtain ⟨S', r1, r2, r3⟩ := compW_ok (turn := compT tp is env c e) xs f g S (Nat.le_refl _) hwk (fun x hx S1 h1 => by
    have := ht x hx S1 h1
    cases eo : compT tp is env c e (f x) S1 with
    | ok a S2 => rw [eo] at this; exact ⟨S2, by rw [this.1], this.2⟩
    | ex x S2 => rw [eo] at this; exact this.elim
    | no => rw [eo] at this; exact this.elim) hl (n + 1) 0 (S ++ [.lst false []]) [] (by omega) (Nat.zero_le _) (Le.app _ _) (at_end _ _) (Nat.zero_le _)
  simp only [r1]
  exact h S' r2 (by simpa using r3)
end

/-! ## equality -/
theorem eqvAll_refl : ∀ (ds : List PyData), (∀ d ∈ ds, PyData.eqv d d = true) → PyData.eqvAll ds ds = true
  | [], _ => rfl
  | d :: r, h => by
    unfold PyData.eqvAll
    rw [h d List.mem_cons_self, eqvAll_refl r fun e he => h e (List.mem_cons_of_mem _ he)]
    rfl
section
variable {S : Store}
@[simp] theorem eqD_int {i j : Int} : eqD S (.int i) (.int j) = some (i == j) := rfl
@[simp] theorem eqD_str {i j : Str} : eqD S (.str i) (.str j) = some (i == j) := rfl
@[simp] theorem eqD_bl {i j : Bool} : eqD S (.bl i) (.bl j) = some (i == j) := rfl
@[simp] theorem eqD_nn : eqD S .non .non = some true := rfl
@[simp] theorem eqD_ni {i : Int} : eqD S .non (.int i) = some false := rfl
@[simp] theorem eqD_in {i : Int} : eqD S (.int i) .non = some false := rfl
@[simp] theorem eqD_ns {i : Str} : eqD S .non (.str i) = some false := rfl
@[simp] theorem eqD_sn {i : Str} : eqD S (.str i) .non = some false := rfl
theorem dat_list {i n : Nat} {l : Bool} {xs : List Val} (h : S[i]? = some (.lst l xs)) : dat (n + 1) S (.obj i) = (xs.mapM (dat n S)).map .list := by
  unfold dat
  rw [h]
theorem dat_tup {n : Nat} {xs : List Val} : dat (n + 1) S (.tup xs) = (xs.mapM (dat n S)).map .tuple := by
  conv => lhs; unfold dat
theorem pmapM_some {α β : Type} {f : α → Option β} : ∀ {xs : List α}, (∀ x ∈ xs, (f x).isSome = true) → ∃ ys, xs.mapM f = some ys ∧ ∀ y ∈ ys, ∃ x ∈ xs, f x = some y
  | [], _ => ⟨[], rfl, fun _ h => by cases h⟩
  | x :: xs, h => by
    obtain ⟨y, hy⟩ := Option.isSome_iff_exists.mp (h x List.mem_cons_self)
    obtain ⟨ys, h1, h2⟩ := pmapM_some (fun z hz => h z (List.mem_cons_of_mem _ hz))
    refine ⟨y :: ys, by simp [List.mapM_cons, hy, h1], fun z hz => ?_⟩
    rcases List.mem_cons.mp hz with rfl | hz
    · exact ⟨x, List.mem_cons_self, hy⟩
    · obtain ⟨w, hw, e⟩ := h2 z hz
      exact ⟨w, List.mem_cons_of_mem _ hw, e⟩
theorem dat_self : ∀ (n : Nat) (v : Val) (d : PyData), dat n S v = some d → PyData.eqv d d = true := by
  intro n
  induction n with
  | zero =>
    intro v d h
    cases v <;> simp [dat] at h <;> subst h <;> simp [PyData.eqv]
  | succ n ih =>
    intro v d h
    have key : ∀ (xs : List Val) ds, xs.mapM (dat n S) = some ds → ∀ d ∈ ds, PyData.eqv d d = true := by
      intro xs
      induction xs with
      | nil => intro ds h d hd; cases h; cases hd
      | cons x xs ihx =>
        intro ds h d hd
        rw [List.mapM_cons] at h
        cases e1 : dat n S x with
        | none => simp [e1] at h
        | some y =>
          cases e2 : xs.mapM (dat n S) with
          | none => simp [e1, e2] at h
          | some ys =>
            simp [e1, e2] at h
            subst h
            rcases List.mem_cons.mp hd with rfl | hd
            · exact ih x _ e1
            · exact ihx ys e2 d hd
    cases v with
    | tup xs =>
      rw [dat_tup] at h
      cases e : xs.mapM (dat n S) with
      | none => simp [e] at h
      | some ds =>
        simp [e] at h
        subst h
        simpa [PyData.eqv] using eqvAll_refl ds (key xs ds e)
    | obj i =>
      unfold dat at h
      split at h
      · rename_i l xs hx
        cases e : xs.mapM (dat n S) with
        | none => simp [e] at h
        | some ds =>
          simp [e] at h
          subst h
          simpa [PyData.eqv] using eqvAll_refl ds (key xs ds e)
      · cases h
    | non => simp [dat] at h; subst h; simp [PyData.eqv]
    | bl b => simp [dat] at h; subst h; simp [PyData.eqv]
    | int b => simp [dat] at h; subst h; simp [PyData.eqv]
    | str b => simp [dat] at h; subst h; simp [PyData.eqv]
    | fn a b => simp [dat] at h
theorem mapM_mono {α β : Type} {f g : α → Option β} : ∀ {xs : List α} {ys : List β}, (∀ x ∈ xs, ∀ y, f x = some y → g x = some y) → xs.mapM f = some ys → xs.mapM g = some ys
  | [], ys, _, e => e
  | x :: xs, ys, h, e => by
    rw [List.mapM_cons] at e
    cases e1 : f x with
    | none => simp [e1] at e
    | some y =>
      cases e2 : xs.mapM f with
      | none => simp [e1, e2] at e
      | some zs =>
        simp [e1, e2] at e
        subst e
        rw [List.mapM_cons, h x List.mem_cons_self y e1, mapM_mono (fun z hz => h z (List.mem_cons_of_mem _ hz)) e2]
        rfl
theorem dat_succ : ∀ (n : Nat) (v : Val) (d : PyData), dat n S v = some d → dat (n + 1) S v = some d := by
  intro n
  induction n with
  | zero => intro v d h; cases v <;> simp [dat] at h ⊢ <;> exact h
  | succ n ih =>
    intro v d h
    cases v with
    | tup xs =>
      rw [dat_tup] at h ⊢
      cases e : xs.mapM (dat n S) with
      | none => simp [e] at h
      | some ds => rw [mapM_mono (fun x _ y q => ih x y q) e]; rw [e] at h; exact h
    | obj i =>
      unfold dat at h ⊢
      split at h
      · rename_i l xs hx
        cases e : xs.mapM (dat n S) with
        | none => simp [e] at h
        | some ds => rw [mapM_mono (fun x _ y q => ih x y q) e]; rw [e] at h; exact h
      · cases h
    | fn a b => simp [dat] at h
    | non => simp [dat] at h ⊢; exact h
    | bl b => simp [dat] at h ⊢; exact h
    | int b => simp [dat] at h ⊢; exact h
    | str b => simp [dat] at h ⊢; exact h
theorem dat_mono {n m : Nat} {v : Val} {d : PyData} (h : dat n S v = some d) (l : n ≤ m) : dat m S v = some d := by
  induction m with
  | zero => have : n = 0 := by omega
            subst this; exact h
  | succ m ih =>
    by_cases e : n = m + 1
    · subst e; exact h
    · exact dat_succ m v d (ih (by omega))
theorem eqD_of {n m : Nat} {v w : Val} {d e : PyData} (h1 : dat n S v = some d) (h2 : dat m S w = some e) (l1 : n ≤ 160) (l2 : m ≤ 160) : eqD S v w = some (PyData.eqv d e) := by
  unfold eqD
  rw [dat_mono h1 l1, dat_mono h2 l2]
  rfl
/-- a value that can be compared -/
def Dat (n : Nat) (S : Store) (v : Val) : Prop := (dat n S v).isSome = true
theorem eqD_refl {v : Val} {n : Nat} (h : Dat n S v) (l : n ≤ 160 := by omega) : eqD S v v = some true := by
  obtain ⟨d, hd⟩ := Option.isSome_iff_exists.mp h
  rw [eqD_of hd hd l l, dat_self _ _ _ hd]
theorem eqD_lists {i j : Nat} {l m : Bool} {xs : List Val} (h1 : S[i]? = some (.lst l xs)) (h2 : S[j]? = some (.lst m xs)) (h : ∀ x ∈ xs, Dat 63 S x) : eqD S (.obj i) (.obj j) = some true := by
  obtain ⟨ds, e, _⟩ := pmapM_some h
  have d1 : dat 64 S (.obj i) = some (.list ds) := by rw [dat_list h1, e]; rfl
  have d2 : dat 64 S (.obj j) = some (.list ds) := by rw [dat_list h2, e]; rfl
  rw [eqD_of d1 d2 (by omega) (by omega), dat_self _ _ _ d1]
@[simp] theorem Dat_int {n : Nat} {i : Int} : Dat n S (.int i) := by cases n <;> simp [Dat, dat]
@[simp] theorem Dat_str {n : Nat} {i : Str} : Dat n S (.str i) := by cases n <;> simp [Dat, dat]
@[simp] theorem Dat_bl {n : Nat} {i : Bool} : Dat n S (.bl i) := by cases n <;> simp [Dat, dat]
@[simp] theorem Dat_non {n : Nat} : Dat n S .non := by cases n <;> simp [Dat, dat]
theorem Dat_tup {n : Nat} {xs : List Val} (h : ∀ x ∈ xs, Dat n S x) : Dat (n + 1) S (.tup xs) := by
  obtain ⟨ds, e, _⟩ := pmapM_some h
  unfold Dat
  rw [dat_tup, e]
  rfl
/-- a list and the list of nothing -/
theorem eqD_nil {i j : Nat} {l m : Bool} {xs : List Val} (h1 : S[i]? = some (.lst l xs)) (h2 : S[j]? = some (.lst m [])) (h : ∀ x ∈ xs, Dat 63 S x) : eqD S (.obj i) (.obj j) = some xs.isEmpty := by
  obtain ⟨ds, e, _⟩ := pmapM_some h
  have d1 : dat 64 S (.obj i) = some (.list ds) := by rw [dat_list h1, e]; rfl
  have d2 : dat 64 S (.obj j) = some (.list []) := by rw [dat_list h2]; rfl
  rw [eqD_of d1 d2 (by omega) (by omega)]
  cases xs with
  | nil => cases e; rfl
  | cons x xs =>
    cases ds with
    | nil => rw [List.mapM_cons] at e; cases e1 : dat 63 S x <;> cases e2 : xs.mapM (dat 63 S) <;> simp [e1, e2] at e
    | cons d ds => rfl
end
end Nw

set_option Elab.async false
set_option linter.all false
set_option maxRecDepth 100000
set_option maxHeartbeats 4000000
namespace Nw
open PySem L2
/-! ## more small facts -/
theorem atI_pos {α : Type} {xs : List α} {k : Int} (h : 0 ≤ k) : atI xs k = xs[k.toNat]? := by
  unfold atI ixN
  rw [if_pos h]
  by_cases h1 : k < xs.length
  · rw [if_pos h1]; rfl
  · rw [if_neg h1]
    rw [List.getElem?_eq_none (by omega)]
    rfl
theorem atI_neg {α : Type} {xs : List α} {k : Int} (h : k < 0) (h2 : -(xs.length : Int) ≤ k) : atI xs k = xs[(k + xs.length).toNat]? := by
  unfold atI ixN
  rw [if_neg (by omega), if_pos h2]
  rfl
@[simp] theorem chain_le {i j : Int} {S : Store} {q : Bool} : chainV .le (.int i) (.int j) S (.ok (Val.bl q) S) = .ok (.bl (decide (i ≤ j) && q)) S := by
  unfold chainV; rw [pcmp_le]; cases decide (i ≤ j) <;> rfl
@[simp] theorem chain_lt {i j : Int} {S : Store} {q : Bool} : chainV .lt (.int i) (.int j) S (.ok (Val.bl q) S) = .ok (.bl (decide (i < j) && q)) S := by
  unfold chainV; rw [pcmp_lt]; cases decide (i < j) <;> rfl
theorem seqI {S : Store} {i : Nat} {l : Bool} {xs : List Val} {k : Int} (h : S[i]? = some (.lst l xs)) : ixV S (.obj i) (.int k) = atI xs k := by
  simp [ixV, h]
theorem tupI {S : Store} {xs : List Val} {k : Int} : ixV S (.tup xs) (.int k) = atI xs k := rfl
/-- an item of ints -/
theorem at_ints {ns : List Int} {k : Nat} (h : k < ns.length) : (ns.map Val.int)[k]? = some (.int ns[k]) := by
  rw [List.getElem?_map, List.getElem?_eq_getElem h]; rfl
theorem str_ext {s t : Str} (h : s.cps.toList = t.cps.toList) : s = t := by
  obtain ⟨⟨a⟩⟩ := s
  obtain ⟨⟨b⟩⟩ := t
  simpa using h
theorem str_beq {s t : Str} : (s == t) = (s.cps.toList == t.cps.toList) := by
  rw [Bool.eq_iff_iff]
  simp only [beq_iff_eq]
  exact ⟨fun h => by rw [h], str_ext⟩
theorem str_len {s : Str} : s.length = s.cps.toList.length := by simp [Str.length]
theorem cut_len {z : Str} {lo hi : Option Int} : (cutS z lo hi).length ≤ z.length := by
  unfold cutS
  rw [str_len, str_len]
  simp only [List.length_take, List.length_drop]
  omega
theorem app_len {a b : Str} : (a ++ b).length = a.length + b.length := by
  show (Str.append a b).length = _
  unfold Str.append Str.length
  simp
theorem app_cps {a b : Str} : (a ++ b).cps.toList = a.cps.toList ++ b.cps.toList := by
  show (Str.append a b).cps.toList = _
  unfold Str.append
  simp
theorem join0 : ∀ (l : List Str), (Txt.join (Str.ofString "") l).cps.toList = (l.map fun s => s.cps.toList).flatten := by
  intro l
  show (Builtin.Str.glued (Str.ofString "") l).cps.toList = _
  rw [StrLaws.glued_eq_join]
  have e0 : (Str.ofString "").cps.toList = [] := by decide +kernel
  induction l with
  | nil => rfl
  | cons a r ih =>
    cases r with
    | nil => show a.cps.toList = _; simp
    | cons b r =>
      show (a ++ Str.ofString "" ++ Str.join (Str.ofString "") (b :: r)).cps.toList = _
      rw [app_cps, app_cps, e0, ih]
      simp
theorem line_eq0 : line = 16777216 := rfl
theorem strI {S : Store} {z : Str} {i : Int} (h0 : 0 ≤ i) (h1 : i < z.length) (h2 : z.length ≤ 1000) : ∃ c, ixV S (.str z) (.int i) = some (.str ⟨#[c]⟩) := by
  have h3 : z.length ≤ line := by rw [line_eq0]; omega
  have h4 : i.toNat < z.cps.toList.length := by rw [← str_len]; omega
  refine ⟨z.cps.toList[i.toNat], ?_⟩
  simp only [ixV, h3, if_true]
  rw [atI_pos h0, List.getElem?_eq_getElem h4]
  rfl
@[simp] theorem optI_int {i : Int} {S : Store} : optI (.int i) S = .ok (some i) S := rfl
theorem slS {S : Store} {z : Str} {lo hi : Option Int} (h : z.length ≤ 1000) : slV S (.str z) lo hi = .ok (.str (cutS z lo hi)) S := by
  have h3 : z.length ≤ line := by rw [line_eq0]; omega
  simp only [slV, h3, if_true]
theorem str1_len {c : Nat} : (⟨#[c]⟩ : Str).length = 1 := rfl
theorem lineq : line = 16777216 := rfl
theorem mapM_map {α β : Type} {f : β → Option α} {g : α → β} (h : ∀ a, f (g a) = some a) : ∀ l : List α, (l.map g).mapM f = some l
  | [] => rfl
  | a :: r => by
    have := mapM_map h r
    rw [List.map_cons, List.mapM_cons, h, this]
    rfl
theorem mapM_bls (l : List Bool) : (l.map Val.bl).mapM boolOf = some l := mapM_map (f := boolOf) (g := Val.bl) (fun _ => rfl) l
theorem mapM_ints (l : List Int) : (l.map Val.int).mapM intOf = some l := mapM_map (f := intOf) (g := Val.int) (fun _ => rfl) l
theorem mapM_strs (l : List Str) : (l.map Val.str).mapM strOf = some l := mapM_map (f := strOf) (g := Val.str) (fun _ => rfl) l
theorem allV_ok {S : Store} {i : Nat} {l : Bool} {bs : List Bool} (h : S[i]? = some (.lst l (bs.map .bl))) : allV S [.obj i] = .ok (.bl (bs.all id)) S := by
  simp only [allV, h, mapM_bls]
theorem filterMap_some {α β : Type} {h : α → β} {l : List α} : l.filterMap (fun c => some (h c)) = l.map h := by
  induction l with
  | nil => rfl
  | cons a r ih => simp [List.filterMap_cons, ih]
theorem filterMap_empty {α β : Type} {p : α → Bool} {f : α → β} {l : List α} : (l.filterMap fun c => if p c then none else some (f c)).isEmpty = l.all p := by
  induction l with
  | nil => rfl
  | cons a r ih =>
    cases h : p a with
    | true => rw [List.filterMap_cons_none (by simp [h]), ih]; simp [h]
    | false => rw [List.filterMap_cons_some (b := f a) (by simp [h])]; simp [h]
/-- a truth, whatever it is -/
theorem some_bl {b : Bool} {P : Val → Prop} (h : P (.bl b)) : ∃ a, (some b = some false ∧ Val.bl false = a ∨ some b = some true ∧ Val.bl true = a) ∧ P a := ⟨.bl b, by cases b <;> simp, h⟩
theorem walk_str {S : Store} {t : Str} (h : t.length ≤ 1000) : mkWalk .val S [.str t] = some (.sq (t.cps.toList.map fun c => .str ⟨#[c]⟩), t.length) := by
  have : t.length ≤ line := by rw [lineq]; omega
  simp [mkWalk, wkVal, this]
@[simp] theorem at0 {S : Store} {a : Obj} {r : List Obj} : (S ++ a :: r)[S.length]? = some a := by simp
@[simp] theorem at1 {S : Store} {a b : Obj} {r : List Obj} : (S ++ a :: b :: r)[S.length + 1]? = some b := by
  rw [List.getElem?_append_right (by omega)]; simp
/-- two lists put together, the store left in the dark -/
theorem wp_addL' {S : Store} {i j : Nat} {xs ys : List Val} {P : Val → Store → Prop} {E : Exn → Store → Prop} (h1 : S[i]? = some (.lst false xs)) (h2 : S[j]? = some (.lst false ys)) (hl : xs.length + ys.length ≤ line)
    (h : ∀ S' q, Le S S' → S'[q]? = some (.lst false (xs ++ ys)) → S.length ≤ q → P (.obj q) S') : (binV .add S (.obj i) (.obj j)).wp P E :=
  wp_addL h1 h2 hl (h _ _ (Le.app _ _) (at_end _ _) (Nat.le_refl _))
theorem any_strs {t : Str} : ∀ {l : List Str}, (l.map Val.str).any (fun y => eqF y (.str t)) = l.any fun k => k == t
  | [] => rfl
  | a :: r => by rw [List.map_cons, List.any_cons, List.any_cons, any_strs]; rfl
theorem flat_strs : ∀ {l : List Str}, (l.map Val.str).all flat = true
  | [] => rfl
  | a :: r => by rw [List.map_cons, List.all_cons, flat_strs]; rfl
theorem mem_strs {S : Store} {i : Nat} {l : Bool} {ks : List Str} {t : Str} (h : S[i]? = some (.lst l (ks.map .str))) : memV S (.str t) (.obj i) = some (ks.any fun k => k == t) := by
  simp only [memV, h, flat_strs, any_strs, flat, Bool.and_self, if_true]
/-- what is asked of each value: it can be looked at -/
def Lk0 (S : Store) (v : Val) : Prop := match v with
  | .fn _ _ => False
  | .obj i => (∃ l xs, S[i]? = some (.lst l xs)) ∨ (∃ kvs, S[i]? = some (.dK false kvs))
  | .str t => t.length ≤ 1000
  | _ => True
theorem Lk0.le {S S' : Store} {v : Val} (h : Lk0 S v) (l : Le S S') : Lk0 S' v := by
  cases v with
  | obj i =>
    rcases h with ⟨b, xs, h⟩ | ⟨k, h⟩
    · exact .inl ⟨b, xs, l _ _ h⟩
    · exact .inr ⟨k, l _ _ h⟩
  | _ => exact h
def isS : Val → Bool
  | .str _ => true
  | _ => false
theorem isi_str {S : Store} {v : Val} (h : Lk0 S v) : isiV .str S v = some (isS v) := by
  cases v with
  | obj i =>
    rcases h with ⟨b, xs, h⟩ | ⟨k, h⟩
    · simp [isiV, h, isS]
    · simp [isiV, h, isS]
  | fn _ _ => exact h.elim
  | _ => simp [isiV, isS]
def isN : Val → Bool
  | .int _ => true
  | .bl _ => true
  | _ => false
theorem isi_int {S : Store} {v : Val} (h : Lk0 S v) : isiV .int S v = some (isN v) := by
  cases v with
  | obj i =>
    rcases h with ⟨b, xs, h⟩ | ⟨k, h⟩
    · simp [isiV, h, isN]
    · simp [isiV, h, isN]
  | fn _ _ => exact h.elim
  | _ => simp [isiV, isN]
def isB : Val → Bool
  | .bl _ => true
  | _ => false
theorem isi_bool {S : Store} {v : Val} (h : Lk0 S v) : isiV .bool S v = some (isB v) := by
  cases v with
  | obj i =>
    rcases h with ⟨b, xs, h⟩ | ⟨k, h⟩
    · simp [isiV, h, isB]
    · simp [isiV, h, isB]
  | fn _ _ => exact h.elim
  | _ => simp [isiV, isB]
end Nw

set_option Elab.async false
set_option linter.all false
set_option maxRecDepth 100000
set_option maxHeartbeats 4000000
namespace Nw
open PySem L2
/-! ## dicts, by their keys -/
section
variable {κ : Type} [DecidableEq κ] {kvs : List (κ × Val)} {k k' : κ} {v : Val}
theorem look_nil : look ([] : List (κ × Val)) k = none := rfl
theorem look_cons {q : κ} {x : Val} {r : List (κ × Val)} : look ((q, x) :: r) k = if q = k then some x else look r k := by
  unfold look
  by_cases h : q = k
  · rw [List.find?_cons_of_pos (by simpa using h), if_pos h]; rfl
  · rw [List.find?_cons_of_neg (by simpa using h), if_neg h]
theorem look_app_none {m : List (κ × Val)} (h : look kvs k = none) : look (kvs ++ m) k = look m k := by
  induction kvs with
  | nil => rfl
  | cons a r ih =>
    obtain ⟨q, x⟩ := a
    rw [look_cons] at h
    rw [List.cons_append, look_cons]
    split at h
    · cases h
    · rename_i hq; rw [if_neg hq]; exact ih h
theorem look_app_some {m : List (κ × Val)} (h : look kvs k = some v) : look (kvs ++ m) k = some v := by
  induction kvs with
  | nil => cases h
  | cons a r ih =>
    obtain ⟨q, x⟩ := a
    rw [look_cons] at h
    rw [List.cons_append, look_cons]
    split at h
    · rename_i hq; rw [if_pos hq]; exact h
    · rename_i hq; rw [if_neg hq]; exact ih h
theorem any_look : (kvs.any fun kv => decide (kv.1 = k)) = (look kvs k).isSome := by
  induction kvs with
  | nil => rfl
  | cons a r ih =>
    obtain ⟨q, x⟩ := a
    rw [List.any_cons, look_cons, ih]
    by_cases h : q = k <;> simp [h]
theorem look_put : look (put kvs k v) k' = if k' = k then some v else look kvs k' := by
  unfold put
  rw [any_look]
  by_cases h : (look kvs k).isSome = true
  · rw [if_pos h]
    induction kvs with
    | nil => cases h
    | cons a r ih =>
      obtain ⟨q, x⟩ := a
      rw [List.map_cons]
      rw [look_cons] at h
      by_cases hq : q = k
      · subst hq
        simp only [if_true]
        rw [look_cons, look_cons]
        by_cases hk : q = k'
        · simp [hk]
        · rw [if_neg hk, if_neg hk, if_neg (fun z => hk z.symm)]
          by_cases h2 : (look r q).isSome = true
          · rw [ih h2, if_neg (fun z => hk z.symm)]
          · have : r.map (fun kv => if kv.1 = q then (kv.1, v) else kv) = r := by
              have : ∀ kv ∈ r, (if kv.1 = q then (kv.1, v) else kv) = kv := fun kv hkv => by
                rw [if_neg]
                intro e
                apply h2
                rw [← any_look, List.any_eq_true]
                exact ⟨kv, hkv, by simpa using e⟩
              rw [List.map_congr_left this, List.map_id']
            rw [this]
      · rw [if_neg hq] at h
        simp only [hq, if_false]
        rw [look_cons, look_cons, ih h]
        by_cases hk : q = k'
        · rw [if_pos hk, if_pos hk, if_neg (fun z => hq (hk.trans z))]
        · rw [if_neg hk, if_neg hk]
  · rw [if_neg h]
    have hn : look kvs k = none := by cases e : look kvs k <;> simp [e] at h ⊢
    by_cases hk : k' = k
    · subst hk
      rw [look_app_none hn, look_cons]; simp
    · rw [if_neg hk]
      cases e : look kvs k' with
      | none => rw [look_app_none e, look_cons, if_neg (fun z => hk z.symm)]; rfl
      | some x => exact look_app_some e
theorem put_len : (put kvs k v).length ≤ kvs.length + 1 := by
  unfold put
  split <;> simp
theorem look_drop : look (drop kvs k) k' = if k' = k then none else look kvs k' := by
  unfold drop
  induction kvs with
  | nil => simp [look_nil]
  | cons a r ih =>
    obtain ⟨q, x⟩ := a
    by_cases hq : q = k
    · subst hq
      rw [List.filter_cons_of_neg (by simp), ih, look_cons]
      by_cases hk : k' = q
      · rw [if_pos hk, if_pos hk]
      · rw [if_neg hk, if_neg hk, if_neg (fun z => hk z.symm)]
    · rw [List.filter_cons_of_pos (by simpa using hq), look_cons, look_cons, ih]
      by_cases hk : q = k'
      · rw [if_pos hk, if_pos hk, if_neg (fun z => hq (hk.trans z))]
      · rw [if_neg hk, if_neg hk]
theorem drop_len : (drop kvs k).length ≤ kvs.length := List.length_filter_le _ _
end
@[simp] theorem keyOf_int {i : Int} : keyOf (.int i) = some (.inl i) := rfl
@[simp] theorem keyOf_str {i : Str} : keyOf (.str i) = some (.inr i) := rfl
theorem erase_ix {ns : List Int} {k : Int} (h : k ∈ ns) : ∃ j, ns.findIdx? (fun n => n == k) = some j ∧ ns.eraseIdx j = ns.erase k := by
  induction ns with
  | nil => cases h
  | cons a r ih =>
    rw [List.findIdx?_cons]
    by_cases e : a = k
    · subst e; exact ⟨0, by simp, by simp⟩
    · have hk : k ∈ r := by rcases List.mem_cons.mp h with h | h; exact absurd h.symm e; exact h
      obtain ⟨j, h1, h2⟩ := ih hk
      refine ⟨j + 1, by simp [e, h1], ?_⟩
      rw [List.eraseIdx_cons_succ, h2, List.erase_cons_tail (by simpa using e)]
theorem ne_ob {S : Store} {i j : Nat} {o u : Obj} (h : S[i]? = some o) (k : S[j]? = some u) (n : o ≠ u) : i ≠ j := fun e => by
  subst e; rw [h] at k; cases k; exact n rfl
theorem lt_ob {S : Store} {i : Nat} {o : Obj} (h : S[i]? = some o) : i < S.length := (List.getElem?_eq_some_iff.mp h).1
theorem set_ne {S : Store} {i j : Nat} {o u : Obj} (h : S[i]? = some o) (n : i ≠ j) : (S.set j u)[i]? = some o := by
  rw [List.getElem?_set_ne (fun z => n z.symm)]; exact h
theorem set_eq {S : Store} {j : Nat} {o u : Obj} (h : S[j]? = some o) : (S.set j u)[j]? = some u := by
  rw [List.getElem?_set_self (lt_ob h)]
theorem app_at {S T : Store} {i : Nat} {o : Obj} (h : S[i]? = some o) : (S ++ T)[i]? = some o := Le.app S T i o h
/-- the store, but for some places -/
def Same (p : Nat → Prop) (S S' : Store) : Prop := ∀ (i : Nat) o, S[i]? = some o → ¬ p i → S'[i]? = some o

/-! ## lines -/
def fup {α β : Type} [DecidableEq α] (f : α → β) (a : α) (b : β) : α → β := fun x => if x = a then b else f x
@[simp] theorem fup_same {α β : Type} [DecidableEq α] {f : α → β} {a : α} {b : β} : fup f a b a = b := by simp [fup]
theorem fup_ne {α β : Type} [DecidableEq α] {f : α → β} {a x : α} {b : β} (h : x ≠ a) : fup f a b x = f x := by simp [fup, h]
structure LAt (S : Store) (c p r s : Nat) (kr ks : List (Key × Val)) (R : Str → List Int) (P : Int → Option Str) (n : Nat) : Prop where
  ob : S[p]? = some (.ins c [(0, .obj r), (1, .obj s)])
  rd : S[r]? = some (.dK false kr)
  sd : S[s]? = some (.dK false ks)
  rs : r ≠ s
  row : ∀ b, (look kr (.inr b) = none ∧ R b = []) ∨ ∃ l, look kr (.inr b) = some (.obj l) ∧ S[l]? = some (.lst false ((R b).map .int))
  inj : ∀ b b' l, look kr (.inr b) = some (.obj l) → look kr (.inr b') = some (.obj l) → b = b'
  st : ∀ w, look ks (.inl w) = (P w).map .str
  lr : kr.length ≤ n
  ls : ks.length ≤ n
  lR : ∀ b, (R b).length ≤ n
/-- the places that lines may write -/
def Lp (r s : Nat) (kr : List (Key × Val)) (i : Nat) : Prop := i = r ∨ i = s ∨ ∃ b, look kr (.inr b) = some (.obj i)
theorem LAt.le {S S' : Store} {c p r s n : Nat} {kr ks : List (Key × Val)} {R : Str → List Int} {P : Int → Option Str} (h : LAt S c p r s kr ks R P n) (l : Le S S') : LAt S' c p r s kr ks R P n :=
  ⟨l _ _ h.ob, l _ _ h.rd, l _ _ h.sd, h.rs, fun b => (h.row b).imp id fun ⟨q, h1, h2⟩ => ⟨q, h1, l _ _ h2⟩, h.inj, h.st, h.lr, h.ls, h.lR⟩
theorem LAt.more {S : Store} {c p r s n m : Nat} {kr ks : List (Key × Val)} {R : Str → List Int} {P : Int → Option Str} (h : LAt S c p r s kr ks R P n) (l : n ≤ m) : LAt S c p r s kr ks R P m :=
  ⟨h.ob, h.rd, h.sd, h.rs, h.row, h.inj, h.st, Nat.le_trans h.lr l, Nat.le_trans h.ls l, fun b => Nat.le_trans (h.lR b) l⟩
end Nw

set_option Elab.async false
set_option linter.all false
set_option maxRecDepth 100000
set_option maxHeartbeats 4000000
namespace Nw
open PySem L2
/-! ## sorting -/
theorem pleS_iff {a b : Str} : leS a b = true ↔ a.cps.toList ≤ b.cps.toList := by
  unfold leS
  rw [Bool.not_eq_true', decide_eq_false_iff_not]
  exact List.not_lt
theorem pleS_total (a b : Str) : leS a b = true ∨ leS b a = true := by rw [pleS_iff, pleS_iff]; exact List.le_total _ _
theorem pleS_trans {a b c : Str} (h : leS a b = true) (k : leS b c = true) : leS a c = true := by rw [pleS_iff] at *; exact List.le_trans h k
theorem pleS_anti {a b : Str} (h : leS a b = true) (k : leS b a = true) : a = b := by rw [pleS_iff] at *; exact str_ext (List.le_antisymm h k)
theorem pinsS_perm (a : Str) : ∀ l : List Str, (insS a l).Perm (a :: l)
  | [] => List.Perm.refl _
  | b :: r => by
    unfold insS
    split
    · exact List.Perm.refl _
    · exact ((pinsS_perm a r).cons b).trans (List.Perm.swap a b r)
theorem psortS_perm : ∀ l : List Str, (sortS l).Perm l
  | [] => List.Perm.refl _
  | a :: r => (pinsS_perm a (sortS r)).trans ((psortS_perm r).cons a)
theorem pinsS_sorted (a : Str) : ∀ l : List Str, l.Pairwise (fun a b => leS a b = true) → (insS a l).Pairwise (fun a b => leS a b = true)
  | [], _ => by simp [insS]
  | b :: r, h => by
    unfold insS
    have h2 := List.pairwise_cons.mp h
    split
    · rename_i hab
      refine List.pairwise_cons.mpr ⟨fun c hc => ?_, h⟩
      rcases List.mem_cons.mp hc with rfl | hc
      · exact hab
      · exact pleS_trans hab (h2.1 c hc)
    · rename_i hab
      refine List.pairwise_cons.mpr ⟨fun c hc => ?_, pinsS_sorted a r h2.2⟩
      rcases List.mem_cons.mp ((pinsS_perm a r).mem_iff.mp hc) with rfl | hc
      · exact (pleS_total c b).resolve_left hab
      · exact h2.1 c hc
theorem psortS_sorted : ∀ l : List Str, (sortS l).Pairwise (fun a b => leS a b = true)
  | [] => List.Pairwise.nil
  | a :: r => pinsS_sorted a _ (psortS_sorted r)
theorem sortS_uniq {l m : List Str} (h : l.Perm m) (s : m.Pairwise (fun a b => leS a b = true)) : sortS l = m :=
  List.Perm.eq_of_pairwise (fun a b _ _ x y => pleS_anti x y) (psortS_sorted l) s ((psortS_perm l).trans h)
/-- a sorted part of a list, got at two roads -/
theorem sortS_filter {l bs : List Str} {p : Str → Bool} (nd : l.Nodup) (nb : bs.Nodup) (h : ∀ b, b ∈ l ↔ b ∈ bs ∧ p b = true) : sortS l = (sortS bs).filter p := by
  refine sortS_uniq ?_ ((psortS_sorted bs).filter p)
  refine (List.perm_ext_iff_of_nodup nd ?_).mpr fun b => ?_
  · exact ((psortS_perm bs).nodup_iff.mpr nb).filter p
  · rw [List.mem_filter, (psortS_perm bs).mem_iff]; exact h b
theorem insI_perm (a : Int) : ∀ l : List Int, (insI a l).Perm (a :: l)
  | [] => List.Perm.refl _
  | b :: r => by
    unfold insI
    split
    · exact List.Perm.refl _
    · exact ((insI_perm a r).cons b).trans (List.Perm.swap a b r)
theorem sortI_perm : ∀ l : List Int, (sortI l).Perm l
  | [] => List.Perm.refl _
  | a :: r => (insI_perm a (sortI r)).trans ((sortI_perm r).cons a)
theorem insI_sorted (a : Int) : ∀ l : List Int, l.Pairwise (fun a b => a ≤ b) → (insI a l).Pairwise (fun a b => a ≤ b)
  | [], _ => by simp [insI]
  | b :: r, h => by
    unfold insI
    have h2 := List.pairwise_cons.mp h
    split
    · rename_i hab
      refine List.pairwise_cons.mpr ⟨fun c hc => ?_, h⟩
      rcases List.mem_cons.mp hc with rfl | hc
      · exact hab
      · exact Int.le_trans hab (h2.1 c hc)
    · rename_i hab
      refine List.pairwise_cons.mpr ⟨fun c hc => ?_, insI_sorted a r h2.2⟩
      rcases List.mem_cons.mp ((insI_perm a r).mem_iff.mp hc) with rfl | hc
      · omega
      · exact h2.1 c hc
theorem sortI_sorted : ∀ l : List Int, (sortI l).Pairwise (fun a b => a ≤ b)
  | [] => List.Pairwise.nil
  | a :: r => insI_sorted a _ (sortI_sorted r)
theorem sortI_uniq {l m : List Int} (h : l.Perm m) (s : m.Pairwise (fun a b => a ≤ b)) : sortI l = m :=
  List.Perm.eq_of_pairwise (fun a b _ _ x y => Int.le_antisymm x y) (sortI_sorted l) s ((sortI_perm l).trans h)
theorem sortV_ints {S : Store} {i : Nat} {l : Bool} {ns : List Int} (h : S[i]? = some (.lst l (ns.map .int))) : sortV S [.obj i] = .ok (.obj S.length) (S ++ [.lst false ((sortI ns).map .int)]) := by
  simp only [sortV, h, mapM_ints]
theorem sortV_strs {S : Store} {i : Nat} {l : Bool} {ss : List Str} (h : S[i]? = some (.lst l (ss.map .str))) (hl : ss.length < 64) : sortV S [.obj i] = .ok (.obj S.length) (S ++ [.lst false ((sortS ss).map .str)]) := by
  cases ss with
  | nil => simp [sortV, h, sortI, sortS]
  | cons a r =>
    have : ((a :: r).map Val.str).mapM intOf = none := by simp [List.mapM_cons, intOf]
    simp only [sortV, h, this, mapM_strs, hl, if_true]

/-! ## lists of ints -/
theorem ints_nil' {S : Store} {i : Nat} {l : Bool} {xs : List Int} (h : S[i]? = some (.lst l (xs.map .int))) : eqD (S ++ [.lst false []]) (.obj i) (.obj S.length) = some xs.isEmpty := by
  have h1 := Le.app S [Obj.lst false []] _ _ h
  rw [eqD_nil h1 (at_end _ _) (fun x hx => by obtain ⟨y, _, rfl⟩ := List.mem_map.mp hx; simp)]
  cases xs <;> rfl
theorem eq_ints {S : Store} {i j : Nat} {l m : Bool} {xs : List Int} (h : S[i]? = some (.lst l (xs.map .int))) (k : S[j]? = some (.lst m (xs.map .int))) : eqD S (.obj i) (.obj j) = some true :=
  eqD_lists h k fun x hx => by obtain ⟨y, _, rfl⟩ := List.mem_map.mp hx; simp
theorem eq_strs {S : Store} {i j : Nat} {l m : Bool} {xs : List Str} (h : S[i]? = some (.lst l (xs.map .str))) (k : S[j]? = some (.lst m (xs.map .str))) : eqD S (.obj i) (.obj j) = some true :=
  eqD_lists h k fun x hx => by obtain ⟨y, _, rfl⟩ := List.mem_map.mp hx; simp
theorem mem_ints {S : Store} {i : Nat} {l : Bool} {ns : List Int} {w : Int} (h : S[i]? = some (.lst l (ns.map .int))) : memV S (.int w) (.obj i) = some (decide (w ∈ ns)) := by
  have hf : (flat (.int w) && (ns.map Val.int).all flat) = true := by
    have : (ns.map Val.int).all flat = true := by rw [List.all_eq_true]; intro x hx; obtain ⟨y, _, rfl⟩ := List.mem_map.mp hx; rfl
    rw [this]; rfl
  simp only [memV, h, hf, if_true]
  congr 1
  rw [List.any_map, Bool.eq_iff_iff]
  simp [eqF]
theorem str_in_ints {S : Store} {i : Nat} {l : Bool} {ns : List Int} {w : Str} (h : S[i]? = some (.lst l (ns.map .int))) : memV S (.str w) (.obj i) = some false := by
  have hf : (flat (.str w) && (ns.map Val.int).all flat) = true := by
    have : (ns.map Val.int).all flat = true := by rw [List.all_eq_true]; intro x hx; obtain ⟨y, _, rfl⟩ := List.mem_map.mp hx; rfl
    rw [this]; rfl
  simp only [memV, h, hf, if_true]
  congr 1
  rw [List.any_map]
  simp [eqF]
theorem app_any {S : Store} {f : Nat} {xs : List Val} {x : Val} {P : Val → Store → Prop} {E : Exn → Store → Prop} (h : S[f]? = some (.lst false xs)) (hl : xs.length < line) (hP : P .non (S.set f (.lst false (xs ++ [x])))) :
    (optR (bmGo .append S (.obj f)) fun k => bmV .append k S (.obj f) [x]).wp P E := by
  have hk : kdOf S (.obj f) = some .list := by simp [kdOf, h]
  have ha : appV S (.obj f) [x] = .ok .non (S.set f (.lst false (xs ++ [x]))) := by simp only [appV, h, if_pos hl]
  simp only [bmGo, hk, Option.bind_some, bmK, if_true, optR_some, bmV, bmV0, ha, wp_ok]
  exact hP

/-! ## who stands where -/
structure WF (R : Str → List Int) (P : Int → Option Str) : Prop where
  mem : ∀ b w, w ∈ R b ↔ P w = some b
  nd : ∀ b, (R b).Nodup
theorem wf_erase {R : Str → List Int} {P : Int → Option Str} (wf : WF R P) {b0 : Str} {w : Int} (hw : P w = some b0) : WF (fup R b0 ((R b0).erase w)) (fup P w none) := by
  refine ⟨fun x z => ?_, fun x => ?_⟩
  · unfold fup
    by_cases hx : x = b0 <;> by_cases hy : z = w
    · subst hx hy
      simp only [if_true]
      constructor
      · intro q; exact absurd rfl ((List.Nodup.mem_erase_iff (wf.nd x)).mp q).1
      · intro q; cases q
    · subst hx
      simp only [hy, if_true, if_false]
      rw [List.Nodup.mem_erase_iff (wf.nd x), wf.mem x z]
      exact ⟨fun q => q.2, fun q => ⟨hy, q⟩⟩
    · subst hy
      simp only [hx, if_true, if_false]
      rw [wf.mem x z, hw]
      exact ⟨fun q => by cases q; exact absurd rfl hx, fun q => by cases q⟩
    · simp only [hx, hy, if_false]; exact wf.mem x z
  · unfold fup
    by_cases hx : x = b0
    · subst hx; simp only [if_true]; exact (wf.nd x).erase w
    · simp only [hx, if_false]; exact wf.nd x
theorem wf_add {R : Str → List Int} {P : Int → Option Str} (wf : WF R P) {b : Str} {w : Int} (hP : P w = none) : WF (fup R b (R b ++ [w])) (fup P w (some b)) := by
  refine ⟨fun x y => ?_, fun x => ?_⟩
  · unfold fup
    by_cases hx : x = b <;> by_cases hy : y = w
    · simp [hx, hy]
    · simp [hx, hy, wf.mem b y]
    · subst hy
      simp [hx, wf.mem x y, hP, Ne.symm hx]
    · simp [hx, hy, wf.mem x y]
  · unfold fup
    by_cases hx : x = b
    · subst hx
      simp only [if_true]
      rw [List.nodup_append]
      refine ⟨wf.nd x, by simp, fun a ha c hc => ?_⟩
      rw [List.mem_singleton] at hc
      subst hc
      rintro rfl
      have := (wf.mem x a).mp ha
      rw [hP] at this; cases this
    · simp only [hx, if_false]; exact wf.nd x
theorem wf_ring {R : Str → List Int} {P : Int → Option Str} (wf : WF R P) {b : Str} : WF (fup R b []) (fun w => if w ∈ R b then none else P w) := by
  refine ⟨fun x y => ?_, fun x => ?_⟩
  · unfold fup
    by_cases hx : x = b
    · subst hx
      by_cases hy : y ∈ R x
      · simp [hy]
      · simp only [if_true, hy, if_false]
        rw [← wf.mem x y]
        simp [hy]
    · simp only [hx, if_false]
      by_cases hy : y ∈ R b
      · simp only [hy, if_true]
        rw [wf.mem x y, (wf.mem b y).mp hy]
        constructor
        · intro q; cases q; exact absurd rfl hx
        · intro q; cases q
      · simp only [hy, if_false]; exact wf.mem x y
  · unfold fup
    by_cases hx : x = b
    · simp [hx]
    · simp only [hx, if_false]; exact wf.nd x

/-! ## names of a dict -/
section
variable {κ : Type} [DecidableEq κ] {kvs : List (κ × Val)} {k : κ} {v : Val}
theorem look_mem (h : look kvs k = some v) : (k, v) ∈ kvs := by
  induction kvs with
  | nil => cases h
  | cons a r ih =>
    obtain ⟨q, x⟩ := a
    rw [look_cons] at h
    split at h
    · rename_i hq; cases h; rw [hq]; exact List.mem_cons_self
    · exact List.mem_cons_of_mem _ (ih h)
theorem mem_look (nd : (kvs.map (·.1)).Nodup) (h : (k, v) ∈ kvs) : look kvs k = some v := by
  induction kvs with
  | nil => cases h
  | cons a r ih =>
    obtain ⟨q, x⟩ := a
    rw [List.map_cons, List.nodup_cons] at nd
    rw [look_cons]
    rcases List.mem_cons.mp h with e | h
    · cases e; rw [if_pos rfl]
    · rw [if_neg]
      · exact ih nd.2 h
      · rintro rfl; exact nd.1 (List.mem_map.mpr ⟨_, h, rfl⟩)
theorem put_keys : (put kvs k v).map (·.1) = if k ∈ kvs.map (·.1) then kvs.map (·.1) else kvs.map (·.1) ++ [k] := by
  have ha : (kvs.any fun kv => decide (kv.1 = k)) = true ↔ k ∈ kvs.map (·.1) := by
    rw [List.any_eq_true, List.mem_map]
    constructor
    · rintro ⟨x, hx, e⟩; exact ⟨x, hx, by simpa using e⟩
    · rintro ⟨x, hx, e⟩; exact ⟨x, hx, by simpa using e⟩
  unfold put
  by_cases h : k ∈ kvs.map (·.1)
  · rw [if_pos (ha.mpr h), if_pos h, List.map_map]
    refine List.map_congr_left fun x _ => ?_
    show (if x.1 = k then (x.1, v) else x).1 = x.1
    split <;> rfl
  · rw [if_neg (fun z => h (ha.mp z)), if_neg h, List.map_append]; rfl
theorem put_nodup (nd : (kvs.map (·.1)).Nodup) : ((put kvs k v).map (·.1)).Nodup := by
  rw [put_keys]
  split
  · exact nd
  · rename_i h
    rw [List.nodup_append]
    refine ⟨nd, by simp, fun a ha c hc => ?_⟩
    rw [List.mem_singleton] at hc
    subst hc
    rintro rfl
    exact h ha
end
def nameOf : Key → Str
  | .inr s => s
  | .inl _ => Str.empty
/-- the keys: each once, all among the names -/
structure KN (bs : List Str) (kr : List (Key × Val)) : Prop where
  nd : (kr.map (·.1)).Nodup
  sub : ∀ k ∈ kr.map (·.1), ∃ b ∈ bs, k = .inr b
theorem KN.nil {bs : List Str} : KN bs [] := ⟨List.nodup_nil, fun k h => by cases h⟩
theorem KN.put {bs : List Str} {kr : List (Key × Val)} (h : KN bs kr) {b : Str} (hb : b ∈ bs) {v : Val} : KN bs (put kr (.inr b) v) := by
  refine ⟨put_nodup h.nd, fun k hk => ?_⟩
  rw [put_keys] at hk
  split at hk
  · exact h.sub k hk
  · rcases List.mem_append.mp hk with hk | hk
    · exact h.sub k hk
    · rw [List.mem_singleton] at hk; exact ⟨b, hb, hk⟩
theorem KN.names {bs : List Str} {kr : List (Key × Val)} (h : KN bs kr) : (kr.map fun kv => nameOf kv.1).Nodup ∧ ∀ b, b ∈ (kr.map fun kv => nameOf kv.1) ↔ ∃ v, look kr (.inr b) = some v := by
  constructor
  · have : (kr.map fun kv => nameOf kv.1) = (kr.map (·.1)).map nameOf := by rw [List.map_map]; rfl
    rw [this]
    have key : ∀ l : List Key, l.Nodup → (∀ k ∈ l, ∃ b ∈ bs, k = .inr b) → (l.map nameOf).Nodup := by
      intro l
      induction l with
      | nil => intro _ _; exact List.nodup_nil
      | cons a r ih =>
        intro nd sub
        rw [List.nodup_cons] at nd
        rw [List.map_cons, List.nodup_cons]
        refine ⟨fun z => ?_, ih nd.2 fun k hk => sub k (List.mem_cons_of_mem _ hk)⟩
        obtain ⟨c, hc, e⟩ := List.mem_map.mp z
        obtain ⟨b1, _, e1⟩ := sub a List.mem_cons_self
        obtain ⟨b2, _, e2⟩ := sub c (List.mem_cons_of_mem _ hc)
        subst e1 e2
        have : b2 = b1 := e
        subst this
        exact nd.1 hc
    exact key _ h.nd h.sub
  · intro b
    rw [List.mem_map]
    constructor
    · rintro ⟨⟨k, v⟩, hm, e⟩
      obtain ⟨b2, _, e2⟩ := h.sub k (List.mem_map.mpr ⟨_, hm, rfl⟩)
      subst e2
      have : b2 = b := e
      subst this
      exact ⟨v, mem_look h.nd hm⟩
    · rintro ⟨v, hv⟩
      exact ⟨_, look_mem hv, rfl⟩

/-! ## locks -/
section
variable {G : Tab} {ft : Fns} {env : Env} {S : Store}
@[simp] theorem ev_lock {i : Nat} {fs : List Pt} {a : PyE} : ev G ft (.lock i fs a) env S = optR (lkOf G env S i fs) fun p => lockV p.1 (ev G ft a env (S.set p.1 p.2)) := by
  simp only [ev]
  cases lkOf G env S i fs <;> rfl
@[simp] theorem ex_lock {i : Nat} {fs : List Pt} {a : PyS} : ex G ft (.lockS i fs a) env S = optO (lkOf G env S i fs) fun p => lockO p.1 (ex G ft a env (S.set p.1 p.2)) := by
  simp only [ex]
  cases lkOf G env S i fs <;> rfl
theorem wp_lockV {d : Nat} {kvs : List (Key × Val)} {r : Res Val} {P : Val → Store → Prop} {E : Exn → Store → Prop} (hd : S[d]? = some (.dK false kvs)) (h : r.wp (fun v S' => Le (S.set d (.dK true kvs)) S' ∧ (Le S (S'.set d (.dK false kvs)) → P v (S'.set d (.dK false kvs)))) noX) : (lockV d r).wp P E := by
  cases r with
  | ok v S' =>
    obtain ⟨h1, h2⟩ := h
    have hl : S'[d]? = some (.dK true kvs) := h1 _ _ (set_eq hd)
    simp only [lockV, unlk, hl]
    refine h2 fun i o e => ?_
    by_cases hi : i = d
    · subst hi; rw [hd] at e; cases e; exact set_eq hl
    · exact set_ne (h1 _ _ (set_ne e hi)) hi
  | ex e S' => exact h.elim
  | no => exact h.elim
theorem wp_lockVT {d : Nat} {kvs : List (List Key × Val)} {r : Res Val} {P : Val → Store → Prop} {E : Exn → Store → Prop} (hd : S[d]? = some (.dT false kvs)) (h : r.wp (fun v S' => Le (S.set d (.dT true kvs)) S' ∧ (Le S (S'.set d (.dT false kvs)) → P v (S'.set d (.dT false kvs)))) noX) : (lockV d r).wp P E := by
  cases r with
  | ok v S' =>
    obtain ⟨h1, h2⟩ := h
    have hl : S'[d]? = some (.dT true kvs) := h1 _ _ (set_eq hd)
    simp only [lockV, unlk, hl]
    refine h2 fun i o e => ?_
    by_cases hi : i = d
    · subst hi; rw [hd] at e; cases e; exact set_eq hl
    · exact set_ne (h1 _ _ (set_ne e hi)) hi
  | ex e S' => exact h.elim
  | no => exact h.elim
end
end Nw

set_option Elab.async false
set_option linter.all false
set_option maxRecDepth 100000
set_option maxHeartbeats 4000000
namespace Nw
open PySem L2
/-! ## clauses of a try -/
section
variable {Q : Po} {G : Tab} {ft : Fns} {env : Env} {S : Store}
@[simp] theorem wp_tryB {h : Exn → Env → Store → Out} {o : Out} : (tryB h o).wp Q ↔ o.wp { Q with ex := fun x e S => (h x e S).wp Q } := by cases o <;> exact Iff.rfl
@[simp] theorem wp_hndV {s : Option Nat} {o : Out} : (hndV s o).wp Q ↔ o.wp { nx := fun e S => Q.nx (clrS s e) S, rt := Q.rt, bk := fun e S => Q.bk (clrS s e) S, ct := fun e S => Q.ct (clrS s e) S, ex := fun _ _ _ => False } := by cases o <;> exact Iff.rfl
theorem exH_yes {k : Nat} {s : Option Nat} {h r : PyS} {x : Exn} (c : G.catches k x.c = some true) : exH G ft (.hnd k s h r) x env S = hndV s (entS s x env S (ex G ft h)) := by simp only [exH, c]
theorem exH_no {k : Nat} {s : Option Nat} {h r : PyS} {x : Exn} (c : G.catches k x.c = some false) : exH G ft (.hnd k s h r) x env S = exH G ft r x env S := by simp only [exH, c]
@[simp] theorem exH_skip {x : Exn} : exH G ft .skip x env S = .ex x env S := by simp only [exH]
end
theorem wp_ite_of {G : Tab} {ft : Fns} {env : Env} {S : Store} {Q : Po} {c : PyE} {a b : PyS} (R : Bool → Store → Prop) (hc : (ev G ft c env S).wp (fun v S1 => ∃ t, v = .bl t ∧ R t S1) (fun e S => Q.ex e env S)) (h1 : ∀ S1, R true S1 → (ex G ft a env S1).wp Q) (h2 : ∀ S1, R false S1 → (ex G ft b env S1).wp Q) : (ex G ft (.ite c a b) env S).wp Q := by
  rw [ex_ite, wp_out]
  refine hc.mono ?_ fun _ _ z => z
  rintro v S1 ⟨t, rfl, q⟩
  rw [wp_ifS]
  exact ⟨fun e => h1 S1 (e ▸ q), fun e => h2 S1 (e ▸ q)⟩
/-! ## texts of the law -/
theorem ofs_inj {a b : String} : (Str.ofString a = Str.ofString b) ↔ a = b := by
  constructor
  · intro h
    rw [Str.ofString_eq_toList, Str.ofString_eq_toList] at h
    injection h with h
    have h := congrArg Array.toList h
    simp only at h
    have h2 : a.toList = b.toList := by
      have inj : ∀ {l m : List Char}, l.map Char.toNat = m.map Char.toNat → l = m := by
        intro l
        induction l with
        | nil => intro m e; cases m with | nil => rfl | cons c m => cases e
        | cons c l ih =>
          intro m e
          cases m with
          | nil => cases e
          | cons d m =>
            simp only [List.map_cons, List.cons.injEq] at e
            rw [ih e.2]
            congr 1
            exact Char.ext (UInt32.toNat_inj.mp e.1)
      exact inj h
    exact String.ext h2
  · intro h; rw [h]
theorem ofs_eq {a b : String} : (Str.ofString a = Str.ofString b) = (a = b) := propext ofs_inj
theorem ofs_beq {a b : String} : (Str.ofString a == Str.ofString b) = decide (a = b) := by
  rw [Bool.eq_iff_iff]
  simp [ofs_inj]
end Nw

set_option Elab.async false
set_option linter.all false
set_option maxRecDepth 100000
set_option maxHeartbeats 4000000
namespace Nw
open PySem L2
/-! ## comprehensions whose items are told by what holds of them -/
theorem compW_R {turn : Val → Store → Res (Option Val)} {w : Walk} {d : Nat} (L : Store) (xs : List Val) (I : List Val → Prop)
    (hwk : ∀ S k, Le L S → walkAt S w k = some xs[k]?) (hd : L.length ≤ d)
    (ht : ∀ (k : Nat) x, xs[k]? = some x → ∀ S acc, Le L S → S[d]? = some (.lst false acc) → acc.length = k → I acc → (turn x S).wp (fun y S' => ∃ z, y = some z ∧ Le S S' ∧ I (acc ++ [z])) noX)
    (hl : xs.length ≤ line) :
    ∀ (n k : Nat) (S : Store) (acc : List Val), xs.length < n + k → k ≤ xs.length → Le L S → S[d]? = some (.lst false acc) → acc.length = k → I acc →
      ∃ acc' S', compW turn w d n k S = .ok (.obj d) S' ∧ Le L S' ∧ S'[d]? = some (.lst false acc') ∧ acc'.length = xs.length ∧ I acc' := by
  intro n
  induction n with
  | zero => intro k S acc h1 h2; omega
  | succ n ih =>
    intro k S acc h1 h2 h3 h4 h5 h6
    unfold compW
    rw [hwk S k h3]
    cases e : xs[k]? with
    | none =>
      have : k = xs.length := by have := List.getElem?_eq_none_iff.mp e; omega
      exact ⟨acc, S, rfl, h3, h4, by omega, h6⟩
    | some x =>
      have hk := (List.getElem?_eq_some_iff.mp e).1
      have := ht k x e S acc h3 h4 h5 h6
      cases eo : turn x S with
      | ok a S2 =>
        rw [eo] at this
        obtain ⟨z, rfl, l, hi⟩ := this
        have hlt : acc.length < line := by omega
        have h7 := l _ _ h4
        simp only [eo, h7, if_pos hlt]
        exact ih (k + 1) _ (acc ++ [z]) (by omega) (by omega) ((h3.trans l).set hd) (set_eq h7) (by simp [h5]) hi
      | ex x S2 => rw [eo] at this; exact this.elim
      | no => rw [eo] at this; exact this.elim
theorem wp_compR {α : Type} {env : Env} {S : Store} {tp : Bool} {is : List Nat} {kd : ItK} {vs : List Val} {c e : Env → Store → Res Val} {w : Walk} {n : Nat} {P : Val → Store → Prop} {E : Exn → Store → Prop} (xs : List α) (f : α → Val) (I : List Val → Prop) (hw : mkWalk kd S vs = some (w, n)) (hn : xs.length ≤ n) (hl : xs.length ≤ line)
    (hwk : ∀ S' k, Le S S' → walkAt S' w k = some (xs.map f)[k]?) (h0 : I [])
    (ht : ∀ (k : Nat) x, xs[k]? = some x → ∀ S1 acc, Le S S1 → acc.length = k → I acc → (compT tp is env c e (f x) S1).wp (fun y S2 => ∃ z, y = some z ∧ Le S1 S2 ∧ I (acc ++ [z])) noX)
    (h : ∀ S' acc, Le S S' → S'[S.length]? = some (.lst false acc) → acc.length = xs.length → I acc → P (.obj S.length) S') : (compV tp is kd env c e vs S).wp P E := by
  unfold compV
  rw [hw]
  obtain ⟨acc, S', r1, r2, r3, r4, r5⟩ := compW_R (turn := compT tp is env c e) (d := S.length) S (xs.map f) I hwk (Nat.le_refl _) (fun k x hx S1 acc l1 e1 hk hi => by
    rw [List.getElem?_map] at hx
    cases hq : xs[k]? with
    | none => rw [hq] at hx; cases hx
    | some x0 =>
      rw [hq] at hx
      cases hx
      exact ht k x0 hq S1 acc l1 hk hi) (by simpa using hl) (n + 1) 0 (S ++ [.lst false []]) [] (by simp; omega) (Nat.zero_le _) (Le.app _ _) (at_end _ _) rfl h0
  simp only [r1]
  exact h S' acc r2 r3 (by simpa using r4) r5
/-! the same, the walk told up to its end -/
theorem compW_B {turn : Val → Store → Res (Option Val)} {w : Walk} {d : Nat} (L : Store) (xs : List Val) (I : List Val → Prop)
    (hwk : ∀ S k, k ≤ xs.length → Le L S → walkAt S w k = some xs[k]?) (hd : L.length ≤ d)
    (ht : ∀ (k : Nat) x, xs[k]? = some x → ∀ S acc, Le L S → S[d]? = some (.lst false acc) → acc.length = k → I acc → (turn x S).wp (fun y S' => ∃ z, y = some z ∧ Le S S' ∧ I (acc ++ [z])) noX)
    (hl : xs.length ≤ line) :
    ∀ (n k : Nat) (S : Store) (acc : List Val), xs.length < n + k → k ≤ xs.length → Le L S → S[d]? = some (.lst false acc) → acc.length = k → I acc →
      ∃ acc' S', compW turn w d n k S = .ok (.obj d) S' ∧ Le L S' ∧ S'[d]? = some (.lst false acc') ∧ acc'.length = xs.length ∧ I acc' := by
  intro n
  induction n with
  | zero => intro k S acc h1 h2; omega
  | succ n ih =>
    intro k S acc h1 h2 h3 h4 h5 h6
    unfold compW
    rw [hwk S k h2 h3]
    cases e : xs[k]? with
    | none =>
      have : k = xs.length := by have := List.getElem?_eq_none_iff.mp e; omega
      exact ⟨acc, S, rfl, h3, h4, by omega, h6⟩
    | some x =>
      have hk := (List.getElem?_eq_some_iff.mp e).1
      have := ht k x e S acc h3 h4 h5 h6
      cases eo : turn x S with
      | ok a S2 =>
        rw [eo] at this
        obtain ⟨z, rfl, l, hi⟩ := this
        have hlt : acc.length < line := by omega
        have h7 := l _ _ h4
        simp only [eo, h7, if_pos hlt]
        exact ih (k + 1) _ (acc ++ [z]) (by omega) (by omega) ((h3.trans l).set hd) (set_eq h7) (by simp [h5]) hi
      | ex x S2 => rw [eo] at this; exact this.elim
      | no => rw [eo] at this; exact this.elim
theorem wp_compB {α : Type} {env : Env} {S : Store} {tp : Bool} {is : List Nat} {kd : ItK} {vs : List Val} {c e : Env → Store → Res Val} {w : Walk} {n : Nat} {P : Val → Store → Prop} {E : Exn → Store → Prop} (xs : List α) (f : α → Val) (I : List Val → Prop) (hw : mkWalk kd S vs = some (w, n)) (hn : xs.length ≤ n) (hl : xs.length ≤ line)
    (hwk : ∀ S' k, k ≤ xs.length → Le S S' → walkAt S' w k = some (xs.map f)[k]?) (h0 : I [])
    (ht : ∀ (k : Nat) x, xs[k]? = some x → ∀ S1 acc, Le S S1 → acc.length = k → I acc → (compT tp is env c e (f x) S1).wp (fun y S2 => ∃ z, y = some z ∧ Le S1 S2 ∧ I (acc ++ [z])) noX)
    (h : ∀ S' acc, Le S S' → S'[S.length]? = some (.lst false acc) → acc.length = xs.length → I acc → P (.obj S.length) S') : (compV tp is kd env c e vs S).wp P E := by
  unfold compV
  rw [hw]
  obtain ⟨acc, S', r1, r2, r3, r4, r5⟩ := compW_B (turn := compT tp is env c e) (d := S.length) S (xs.map f) I (fun S' k hk l => hwk S' k (by simpa using hk) l) (Nat.le_refl _) (fun k x hx S1 acc l1 e1 hk hi => by
    rw [List.getElem?_map] at hx
    cases hq : xs[k]? with
    | none => rw [hq] at hx; cases hx
    | some x0 =>
      rw [hq] at hx
      cases hx
      exact ht k x0 hq S1 acc l1 hk hi) (by simpa using hl) (n + 1) 0 (S ++ [.lst false []]) [] (by simp; omega) (Nat.zero_le _) (Le.app _ _) (at_end _ _) rfl h0
  simp only [r1]
  exact h S' acc r2 r3 (by simpa using r4) r5
end Nw

set_option Elab.async false
set_option linter.all false
set_option maxRecDepth 100000
set_option maxHeartbeats 2000000
namespace Nw.k16
open PySem L2 Nw
def fsOf (w : Nat) (L : Int) (W : Str) (P : Int) : List (Nat × Val) := match w with
  | 4 => [(0, .int L)]
  | 5 => [(1, .str W), (0, .int L)]
  | 6 => [(2, .int P)]
  | _ => []
def duOf (w : Nat) (L : Int) (W : Str) (P : Int) : List Val := match w with
  | 4 => [.int L]
  | 5 => [.int L, .str W]
  | 6 => [.int P]
  | _ => []
section
variable {S : Store} {L P : Int} {W : Str} {n w : Nat}
theorem ways (hw : w < 7) : w = 0 ∨ w = 1 ∨ w = 2 ∨ w = 3 ∨ w = 4 ∨ w = 5 ∨ w = 6 := by omega
theorem lin1 {m : Nat} (h : m ≤ 100) : m ≤ line := by rw [lineq]; omega
theorem sp4w (hw : w < 7) : (run T D (n + 1) 4 [.int w, .int L, .str W, .int P] S).wp (fun _ _ => False) (fun x S' => x = ⟨w + 1, fsOf w L W P⟩ ∧ S' = S) := by
  have l1 : (1 : Nat) ≤ line := lin1 (by omega)
  rw [r4]
  rcases ways hw with rfl | rfl | rfl | rfl | rfl | rfl | rfl <;>
    simp [b4, b4_1, b4_2, b4_3, b4_4, b4_5, l1, fsOf, raiseV, T, xfT, List.lookup]
theorem sp4 (hw : w < 7) : run T D (n + 1) 4 [.int w, .int L, .str W, .int P] S = .ex ⟨w + 1, fsOf w L W P⟩ S := by
  have h := sp4w (S := S) (L := L) (P := P) (W := W) (n := n) hw
  cases e : run T D (n + 1) 4 [.int w, .int L, .str W, .int P] S with
  | ok a S1 => rw [e] at h; exact h.elim
  | no => rw [e] at h; exact h.elim
  | ex x S1 => rw [e] at h; obtain ⟨rfl, rfl⟩ := h; rfl
def isB (j w : Nat) : Bool := decide (j = w + 1)
theorem isx {i j : Nat} {fs : List (Nat × Val)} (hw : w < 7) (hj : j = 1 ∨ j = 2 ∨ j = 3 ∨ j = 4 ∨ j = 5 ∨ j = 6 ∨ j = 7) (hi : S[i]? = some (.exn (w + 1) fs)) : isXV T j S (.obj i) = some (isB j w) := by
  simp only [isXV, hi]
  rcases ways hw with rfl | rfl | rfl | rfl | rfl | rfl | rfl <;> rcases hj with rfl | rfl | rfl | rfl | rfl | rfl | rfl <;> decide
theorem isv {i : Nat} {fs : List (Nat × Val)} (hw : w < 7) (hi : S[i]? = some (.exn (w + 1) fs)) : isXV T 1000 S (.obj i) = some true := by
  simp only [isXV, hi]
  rcases ways hw with rfl | rfl | rfl | rfl | rfl | rfl | rfl <;> decide
theorem lst7 (w : Nat) : ([.bl (isB 1 w), .bl (isB 2 w), .bl (isB 3 w), .bl (isB 4 w), .bl (isB 5 w), .bl (isB 6 w), .bl (isB 7 w)] : List Val) = (List.range 7).map fun k => .bl (k == w) := by
  have e : ∀ a b : Nat, (a == b) = decide (b = a) := fun a b => by
    rw [Bool.eq_iff_iff]
    simp only [beq_iff_eq, decide_eq_true_eq]
    exact eq_comm
  have f : ∀ a b : Nat, decide (a = b) = decide (b = a) := fun a b => by
    rw [Bool.eq_iff_iff]
    simp only [decide_eq_true_eq]
    exact eq_comm
  simp [isB, List.range, List.range.loop, e, f]
theorem sp5 {i : Nat} {fs : List (Nat × Val)} (hw : w < 7) (hi : S[i]? = some (.exn (w + 1) fs)) :
    (run T D (n + 1) 5 [.obj i] S).wp (fun v S' => ∃ j, v = .obj j ∧ Le S S' ∧ S'[j]? = some (.lst false ((List.range 7).map fun k => .bl (k == w)))) noX := by
  rw [r5, ← lst7]
  have l1 : (1 : Nat) ≤ line := lin1 (by omega)
  have l2 : (2 : Nat) ≤ line := lin1 (by omega)
  have l4 : (4 : Nat) ≤ line := lin1 (by omega)
  simp [b5, isx hw _ hi, l2]
  generalize hA : S ++ [Obj.lst false [.bl (isB 1 w), .bl (isB 2 w)]] = A
  have lA : Le S A := by rw [← hA]; exact Le.app _ _
  have nA : A[S.length]? = some (.lst false [.bl (isB 1 w), .bl (isB 2 w)]) := by rw [← hA]; exact at_end _ _
  simp [b5_1, isx hw _ (lA _ _ hi), l4]
  generalize hB : A ++ [Obj.lst false [.bl (isB 3 w), .bl (isB 4 w), .bl (isB 5 w), .bl (isB 6 w)]] = B
  have lB : Le A B := by rw [← hB]; exact Le.app _ _
  have nB : B[A.length]? = some (.lst false [.bl (isB 3 w), .bl (isB 4 w), .bl (isB 5 w), .bl (isB 6 w)]) := by rw [← hB]; exact at_end _ _
  refine wp_addL' (lB _ _ nA) nB (lin1 (by simp)) ?_
  intro C q lC nC _
  simp [isx hw _ (lC _ _ (lB _ _ (lA _ _ hi))), l1]
  generalize hE : C ++ [Obj.lst false [.bl (isB 7 w)]] = E
  have lE : Le C E := by rw [← hE]; exact Le.app _ _
  have nE : E[C.length]? = some (.lst false [.bl (isB 7 w)]) := by rw [← hE]; exact at_end _ _
  refine wp_addL' (lE _ _ nC) nE (lin1 (by simp)) ?_
  intro F q' lF nF _
  exact ⟨_, rfl, (((lA.trans lB).trans lC).trans lE).trans lF, nF⟩
/-! the fields -/
theorem wx_no {G : Tab} {ft : Fns} {env : Env} {Q : Po} {k : Nat} {s : Option Nat} {h r : PyS} {x : Exn} (c : G.catches k x.c = some false) (t : (exH G ft r x env S).wp Q) : (exH G ft (.hnd k s h r) x env S).wp Q := by rw [exH_no c]; exact t
theorem wx_yes {G : Tab} {ft : Fns} {env : Env} {Q : Po} {k : Nat} {s : Option Nat} {h r : PyS} {x : Exn} (c : G.catches k x.c = some true) (t : (hndV s (entS s x env S (ex G ft h))).wp Q) : (exH G ft (.hnd k s h r) x env S).wp Q := by rw [exH_yes c]; exact t
theorem xf4 {i : Nat} {v : Val} (h : S[i]? = some (.exn 5 [(0, v)])) : xfldV T 0 (.obj i) S = .ok v S := by
  have e : ((T.xf 5).getD []).contains 0 = true := by decide
  simp only [xfldV, h, e]; rfl
theorem xf5 {i : Nat} {u v : Val} (h : S[i]? = some (.exn 6 [(1, u), (0, v)])) : xfldV T 0 (.obj i) S = .ok v S ∧ xfldV T 1 (.obj i) S = .ok u S := by
  have e : ((T.xf 6).getD []).contains 0 = true := by decide
  have f : ((T.xf 6).getD []).contains 1 = true := by decide
  simp only [xfldV, h, e, f]; exact ⟨rfl, rfl⟩
theorem xf6 {i : Nat} {v : Val} (h : S[i]? = some (.exn 7 [(2, v)])) : xfldV T 2 (.obj i) S = .ok v S := by
  have e : ((T.xf 7).getD []).contains 2 = true := by decide
  simp only [xfldV, h, e]; rfl
theorem sp6 (hw : w < 7) : (run T D (n + 2) 6 [.int w, .int L, .str W, .int P] S).wp (fun v S' => ∃ j, v = .obj j ∧ Le S S' ∧ S'[j]? = some (.lst false (duOf w L W P))) noX := by
  have l0 : (0 : Nat) ≤ line := lin1 (by omega)
  have l1 : (1 : Nat) ≤ line := lin1 (by omega)
  have l2 : (2 : Nat) ≤ line := lin1 (by omega)
  rw [r6]
  simp only [b6, wp_fin, ex_seq, ex_tryA, ex_expr, ev_call, evA_cons, evA_nil, ev_var]
  simp [sp4 hw]
  have z : ∀ (o : Obj), Le S (S ++ [o]) := fun o => Le.app _ _
  rcases ways hw with rfl | rfl | rfl | rfl | rfl | rfl | rfl
  · refine wx_no rfl (wx_no rfl (wx_no rfl (wx_yes rfl ?_)))
    simp [entS, duOf, z]
  · refine wx_no rfl (wx_no rfl (wx_no rfl (wx_yes rfl ?_)))
    simp [entS, duOf, z]
  · refine wx_no rfl (wx_no rfl (wx_no rfl (wx_yes rfl ?_)))
    simp [entS, duOf, z]
  · refine wx_no rfl (wx_no rfl (wx_no rfl (wx_yes rfl ?_)))
    simp [entS, duOf, z]
  · refine wx_yes rfl ?_
    simp [entS, duOf, fsOf]
    rw [xf4 (at_end _ _)]
    simp [l1]
    exact Le.app _ _
  · refine wx_no rfl (wx_yes rfl ?_)
    simp [entS, duOf, fsOf]
    rw [(xf5 (at_end _ _)).1]
    simp
    rw [(xf5 (at_end _ _)).2]
    simp [l2]
    exact Le.app _ _
  · refine wx_no rfl (wx_no rfl (wx_yes rfl ?_))
    simp [entS, duOf, fsOf]
    rw [xf6 (at_end _ _)]
    simp [l1]
    exact Le.app _ _
theorem rng_at {m k : Nat} {x : Val} (hx : (rangeL 0 m)[k]? = some x) : x = .int (k : Int) ∧ k < m := by
  simp only [rangeL, List.getElem?_map] at hx
  cases hr : (List.range m)[k]? with
  | none => rw [hr] at hx; cases hx
  | some j =>
    rw [hr] at hx
    have h1 := (List.getElem?_eq_some_iff.mp hr).1
    have h2 := (List.getElem?_eq_some_iff.mp hr).2
    simp at h1 h2 hx
    subst h2
    exact ⟨hx.symm, h1⟩
theorem rng_walk {m : Nat} {mi : Int} (hm : mi = (m : Int)) (h : m ≤ 1000) : mkWalk .range S [.int mi] = some (.sq (rangeL 0 m), m) := by
  have : small (m : Int) = true := by simp [small]; omega
  rw [hm]
  simp [mkWalk, wkRange, this]
theorem rng_map {m : Nat} : rangeL 0 m = (List.range m).map fun k : Nat => Val.int k := by simp [rangeL]
theorem catch0 (hw : w < 7) : T.catches 0 (w + 1) = some true := by
  rcases ways hw with rfl | rfl | rfl | rfl | rfl | rfl | rfl <;> decide
theorem sp7 (hw : w < 7) : (run T D (n + 2) 7 [.int w, .int L, .str W, .int P] S).wp (fun v S' => v = .bl true ∧ Le S S') noX := by
  rw [r7]
  simp only [b7, wp_fin, ex_seq, ex_tryA, ex_expr, ev_call, evA_cons, evA_nil, ev_var]
  simp [sp4 hw]
  refine wx_yes (catch0 hw) ?_
  simp only [entS]
  generalize hA : S ++ [Obj.exn (w + 1) (fsOf w L W P)] = A
  have lA : Le S A := by rw [← hA]; exact Le.app _ _
  have nA : A[S.length]? = some (.exn (w + 1) (fsOf w L W P)) := by rw [← hA]; exact at_end _ _
  simp
  rw [isv hw nA]
  simp [ifV_true]
  refine (sp5 (n := n) hw nA).then fun v B ⟨j, e, lB, hj⟩ => ?_
  subst e
  refine wp_comp (List.range 7) (fun k => Val.int k) (fun k => some (.bl (k == w))) (rng_walk (m := 7) rfl (by omega)) (by simp) (lin1 (by simp)) (fun S' k l => by simp [walkAt, rng_map]) (fun k hk S1 l1 => ?_) (fun S' l hS => ?_)
  · have e : ((k : Int) == (w : Int)) = (k == w) := by
      rw [Bool.eq_iff_iff]
      simp only [beq_iff_eq]
      omega
    simp [compT, tgt, setAll, ifV_true, e, Le.refl]
  · rw [filterMap_some] at hS
    rw [eqD_lists (l _ _ hj) hS (fun x hx => by obtain ⟨y, _, rfl⟩ := List.mem_map.mp hx; simp)]
    exact ⟨rfl, (lA.trans lB).trans l⟩
/-! the law -/
theorem sp3 {ns : List Int} {k : Nat} (h : S[0]? = some (.lst true (ns.map .int))) (hk : k < 63) : ∃ c : Int, run T D (n + 1) 3 [.obj 0, .int k] S = .ok (.int c) S := by
  have hw : (run T D (n + 1) 3 [.obj 0, .int k] S).wp (fun v S' => (∃ c : Int, v = .int c) ∧ S' = S) noX := by
    rw [r3]
    simp [b3, biV, lenV, h]
    intro hl
    rw [seqI h, atI_pos (by omega)]
    simp [hl]
  cases e : run T D (n + 1) 3 [.obj 0, .int k] S with
  | ok a S1 => rw [e] at hw; obtain ⟨⟨c, rfl⟩, rfl⟩ := hw; exact ⟨c, rfl⟩
  | no => rw [e] at hw; exact hw.elim
  | ex x S1 => rw [e] at hw; exact hw.elim
theorem dues (hw : w < 7) {env : Env} (h1 : env[1]? = some (some (.int L))) (h2 : env[2]? = some (some (.str W))) (h3 : env[3]? = some (some (.int P))) (h4 : env[4]? = some (some (.int w))) :
    (ev T (run T D n) (.idx (.lst (.cons (.lst .nil) (.cons (.lst .nil) (.cons (.lst .nil) (.cons (.lst .nil) (.cons (.lst (.cons (.var 1) .nil)) (.cons (.lst (.cons (.var 1) (.cons (.var 2) .nil))) (.cons (.lst (.cons (.var 3) .nil)) .nil)))))))) (.var 4)) env S).wp
      (fun v S' => ∃ j, v = .obj j ∧ Le S S' ∧ S'[j]? = some (.lst false (duOf w L W P))) noX := by
  have l0 : (0 : Nat) ≤ line := lin1 (by omega)
  have l1 : (1 : Nat) ≤ line := lin1 (by omega)
  have l2 : (2 : Nat) ≤ line := lin1 (by omega)
  have l7 : (7 : Nat) ≤ line := lin1 (by omega)
  simp [l0, l1, l2, l7, h1, h2, h3, h4]
  generalize hE : (S ++ [Obj.lst false [], Obj.lst false [], Obj.lst false [], Obj.lst false [], Obj.lst false [Val.int L], Obj.lst false [Val.int L, Val.str W], Obj.lst false [Val.int P], Obj.lst false [Val.obj S.length, Val.obj (S.length + 1), Val.obj (S.length + 2), Val.obj (S.length + 3), Val.obj (S.length + 4), Val.obj (S.length + 5), Val.obj (S.length + 6)]]) = E
  have lE : Le S E := by rw [← hE]; exact Le.app _ _
  have at_ : ∀ k, E[S.length + k]? = ([Obj.lst false [], Obj.lst false [], Obj.lst false [], Obj.lst false [], Obj.lst false [Val.int L], Obj.lst false [Val.int L, Val.str W], Obj.lst false [Val.int P], Obj.lst false [Val.obj S.length, Val.obj (S.length + 1), Val.obj (S.length + 2), Val.obj (S.length + 3), Val.obj (S.length + 4), Val.obj (S.length + 5), Val.obj (S.length + 6)]] : List Obj)[k]? := fun k => by
    rw [← hE, List.getElem?_append_right (by omega)]
    congr 1
    omega
  rw [seqI (at_ 7), atI_pos (by omega), Int.toNat_natCast]
  have q := at_ w
  rcases ways hw with rfl | rfl | rfl | rfl | rfl | rfl | rfl <;> exact ⟨_, rfl, lE, q⟩
theorem plainW (ns : List Int) (hn : ns.length ≤ 63) : (run T D 12 8 [.obj 0] [.lst true (ns.map .int)]).wp (fun v _ => v = .bl true) noX := by
  rw [r8]
  simp only [b8, b8_6, b8_5, wp_fin, ex_seq, ex_asg, ev_call, evA_cons, evA_nil, ev_var]
  generalize hS : ([.lst true (ns.map .int)] : Store) = S
  have h0 : S[0]? = some (.lst true (ns.map .int)) := by rw [← hS]; rfl
  have l4 : (4 : Nat) ≤ line := lin1 (by omega)
  obtain ⟨c0, k0⟩ := sp3 (n := 10) (k := 0) h0 (by omega)
  simp at k0
  simp [k0, l4]
  generalize hA : (S ++ [Obj.lst false [Val.str (Str.ofString "deep"), Val.str (Str.ofString "names"), Val.str (Str.ofString "give"), Val.str (Str.ofString "groups")]]) = A
  have lA : Le S A := by rw [← hA]; exact Le.app _ _
  have nA : A[S.length]? = some (.lst false [Val.str (Str.ofString "deep"), Val.str (Str.ofString "names"), Val.str (Str.ofString "give"), Val.str (Str.ofString "groups")]) := by rw [← hA]; exact at_end _ _
  obtain ⟨c1, k1⟩ := sp3 (n := 10) (k := 1) (lA _ _ h0) (by omega)
  simp at k1
  simp [k1]
  obtain ⟨W, hW⟩ : ∃ W, ixV A (.obj S.length) (.int (c1 % 4)) = some (.str W) := by
    rw [seqI nA, atI_pos (by omega)]
    have : (c1 % 4).toNat = 0 ∨ (c1 % 4).toNat = 1 ∨ (c1 % 4).toNat = 2 ∨ (c1 % 4).toNat = 3 := by omega
    rcases this with h | h | h | h <;> rw [h] <;> exact ⟨_, rfl⟩
  simp [hW]
  obtain ⟨c2, k2⟩ := sp3 (n := 10) (k := 2) (lA _ _ h0) (by omega)
  simp at k2
  simp [k2]
  generalize 1 + c0 % 1000 = L
  generalize c2 % 1000 = P
  simp [b8_4]
  refine wp_for (fun k env S' => ∃ a b, env = [some (.obj 0), some (.int L), some (.str W), some (.int P), a, b]) (rangeL 0 7) (rng_walk (m := 7) rfl (by omega)) (by simp [rangeL]) ⟨_, _, rfl⟩ (fun _ _ _ _ => rfl) ?_ ?_
  · rintro w x env B hx ⟨a, b, rfl⟩
    obtain ⟨rfl, hw⟩ := rng_at hx
    refine ⟨_, rfl, ?_⟩
    simp only [b8_3, ex_seq, ex_asg, wp_seq, wp_out]
    refine (dues hw rfl rfl rfl rfl).then fun v C ⟨j, e, lC, hj⟩ => ?_
    subst e
    simp [b8_2]
    refine (sp7 (n := 9) hw).then fun v E ⟨e, lE⟩ => ?_
    subst e
    simp [ifV_true, b8_1]
    refine (sp6 (n := 9) hw).then fun v F ⟨q, e, lF, hq⟩ => ?_
    subst e
    rw [eqD_lists hq (lF _ _ (lE _ _ hj)) (fun x hx => by
      rcases ways hw with rfl | rfl | rfl | rfl | rfl | rfl | rfl <;> simp [duOf] at hx <;> (try (rcases hx with rfl | rfl)) <;> simp_all)]
    simp
  · rintro env B ⟨a, b, rfl⟩
    simp
theorem plain : ∀ ns : List Int, ns.length ≤ 63 → ∃ S, run T D 12 8 [.obj 0] [.lst true (ns.map .int)] = .ok (.bl true) S := fun ns hn => by
  have h := plainW ns hn
  cases e : run T D 12 8 [.obj 0] [.lst true (ns.map .int)] with
  | ok a S1 => rw [e] at h; cases h; exact ⟨S1, rfl⟩
  | no => rw [e] at h; exact h.elim
  | ex x S1 => rw [e] at h; exact h.elim
end
end Nw.k16

set_option Elab.async false
set_option linter.all false
set_option maxRecDepth 100000
set_option maxHeartbeats 4000000
namespace Nw.k16
open PySem L2 Nw
/-! what the text is, checked -/
def top (i : Nat) : Stmt := PySem.Challenge.pw_nightwatch_k16_refusals.main.body.getD i (.Pass ⟨0, 0, 0, 0⟩)
def NM : List Str := ["line", "word", "place"]
def Z : Tb where
  NM := NM
  fns := [("_law_cell_at", 3), ("_law_raised", 4), ("_law_fields", 6), ("_law_taken", 7)]
  cls := []
  dss := []
  bl := ["ValueError", "isinstance", "len", "range"]
  cst := []
  mts := []
  cn := []
  exs := [("WatchError", 0), ("BadClock", 1), ("NotWaiting", 2), ("Over", 3), ("BadDesk", 4), ("BadRow", 5), ("BadProgram", 6), ("BadBook", 7)]
  exr := [1, 2, 3, 4]
  gc := []
  cfn := []
  isc := []
  xis := [("BadBook", 7), ("BadClock", 1), ("BadDesk", 4), ("BadProgram", 6), ("BadRow", 5), ("NotWaiting", 2), ("Over", 3), ("ValueError", 1000)]
  hfn := [("_law_kinds", 5)]
  xrs := [7, 6, 5]
abbrev s2 : Stmt := inClass (top 8) 0
theorem ckI2 : okInit "WatchError" ["place"] s2 = true := by decide +kernel
theorem scI2 : scOk ("self" :: ["place"]) ("self" :: ["place"]) (defScope s2) = true := by decide +kernel
abbrev s1 : Stmt := inClass (top 7) 0
theorem ckI1 : okInit "WatchError" ["line", "word"] s1 = true := by decide +kernel
theorem scI1 : scOk ("self" :: ["line", "word"]) ("self" :: ["line", "word"]) (defScope s1) = true := by decide +kernel
abbrev s0 : Stmt := inClass (top 6) 0
theorem ckI0 : okInit "WatchError" ["line"] s0 = true := by decide +kernel
theorem scI0 : scOk ("self" :: ["line"]) ("self" :: ["line"]) (defScope s0) = true := by decide +kernel
def N3 : List Str := ["_law_script", "_law_k"]
def P3 : List Str := ["_law_script", "_law_k"]
abbrev s3 : Stmt := top 10
theorem ck3 : okD Z T ⟨2, 2, b3⟩ N3 P3 s3 = true := by decide +kernel
def N4 : List Str := ["_law_way", "_law_line", "_law_word", "_law_place"]
def P4 : List Str := ["_law_way", "_law_line", "_law_word", "_law_place"]
abbrev s4 : Stmt := top 11
theorem ck4 : okD Z T ⟨4, 4, b4⟩ N4 P4 s4 = true := by decide +kernel
def N5 : List Str := ["_law_e", "_law_told"]
def P5 : List Str := ["_law_e"]
abbrev s5 : Stmt := top 12
theorem ck5 : okD Z T ⟨1, 2, b5⟩ N5 P5 s5 = true := by decide +kernel
theorem ckh5 : okDh Z T ⟨1, 2, b5⟩ N5 P5 s5 = true := by decide +kernel
def N6 : List Str := ["_law_way", "_law_line", "_law_word", "_law_place", "_law_e"]
def P6 : List Str := ["_law_way", "_law_line", "_law_word", "_law_place"]
abbrev s6 : Stmt := top 13
theorem ck6 : okD Z T ⟨4, 5, b6⟩ N6 P6 s6 = true := by decide +kernel
def N7 : List Str := ["_law_way", "_law_line", "_law_word", "_law_place", "_law_e", "_law_k"]
def P7 : List Str := ["_law_way", "_law_line", "_law_word", "_law_place"]
abbrev s7 : Stmt := top 14
theorem ck7 : okD Z T ⟨4, 6, b7⟩ N7 P7 s7 = true := by decide +kernel
def N8 : List Str := ["_law_script", "_law_line", "_law_word", "_law_place", "_law_way", "_law_due"]
def P8 : List Str := ["_law_script"]
abbrev s8 : Stmt := top 15
theorem ck8 : okD Z T ⟨1, 6, b8⟩ N8 P8 s8 = true := by decide +kernel
theorem nmNd : NM.Nodup := by decide +kernel
theorem facts {K : PySem.W.Frag} {h : Heap} {mg : Str → Option Value} {fa C0 C1 C2 C3 C4 C5 C6 C7 f0 f1 f2 f3 f4 f5 f6 f7 f8 : Addr} (X : K.In h) (G : h.Ns mainGlobals mg) (hfa : mg "law" = some (.ref fa)) {oc0 kV0 dc0 pm0 cd0 ct0 oc1 kV1 dc1 pm1 cd1 ct1 oc2 kV2 dc2 pm2 cd2 ct2 oc3 kV3 dc3 pm3 cd3 ct3 oc4 kV4 dc4 pm4 cd4 ct4 oc5 kV5 dc5 pm5 cd5 ct5 oc6 kV6 dc6 pm6 cd6 ct6 oc7 kV7 dc7 pm7 cd7 ct7 oc8 kV8 dc8 pm8 cd8 ct8 : Value} {od0 an0 od1 an1 od2 an2 od3 an3 od4 an4 od5 an5 od6 an6 od7 an7 od8 an8 : Option Addr} {sl0 sl1 sl2 sl3 sl4 sl5 sl6 sl7 sl8 : Array (Option Value)} {xnm5 xnm6 xnm7 xq5 xq6 xq7 : Str} {xN5 xN6 xN7 : Addr} {xbs5 xbs6 xbs7 xbm5 xbm6 xbm7 xsub5 xsub6 xsub7 : List Value} {xsn5 xsn6 xsn7 : List Str} {xab5 xab6 xab7 : Bool} {xcol5 xcol6 xcol7 : Option Bool} {xdd5 xdd6 xdd7 : Option Addr} {xka5 xka6 xka7 xkb5 xkb6 xkb7 xkc5 xkc6 xkc7 xkd5 xkd6 xkd7 xke5 xke6 xke7 : Option Value}
    (hC0 : PySem.W.nsIn K mainGlobals "WatchError" = some (some (.ref C0)))
    (hC1 : PySem.W.nsIn K mainGlobals "BadClock" = some (some (.ref C1)))
    (hC2 : PySem.W.nsIn K mainGlobals "NotWaiting" = some (some (.ref C2)))
    (hC3 : PySem.W.nsIn K mainGlobals "Over" = some (some (.ref C3)))
    (hC4 : PySem.W.nsIn K mainGlobals "BadDesk" = some (some (.ref C4)))
    (hC5 : PySem.W.nsIn K mainGlobals "BadRow" = some (some (.ref C5)))
    (hC6 : PySem.W.nsIn K mainGlobals "BadProgram" = some (some (.ref C6)))
    (hC7 : PySem.W.nsIn K mainGlobals "BadBook" = some (some (.ref C7)))
    (a0 : PySem.W.findIn K (.ref C5) "__init__" = some (some (.ref f0)))
    (i0 : PySem.W.isFn K (.ref f0) = true)
    (l0 : K.lookup f0 = some ⟨oc0, od0, .func (PySem.W.fnOf "__init__" "BadRow.__init__" (defArgs s0) (defBody s0) (defScope s0) .none kV0 dc0 pm0 an0 cd0 ct0), sl0⟩)
    (c0 : PySem.W.codeIn K cd0 "BadRow.__init__" = true)
    (k0 : PySem.W.keepIn K (.ref f0) = true)
    (a1 : PySem.W.findIn K (.ref C6) "__init__" = some (some (.ref f1)))
    (i1 : PySem.W.isFn K (.ref f1) = true)
    (l1 : K.lookup f1 = some ⟨oc1, od1, .func (PySem.W.fnOf "__init__" "BadProgram.__init__" (defArgs s1) (defBody s1) (defScope s1) .none kV1 dc1 pm1 an1 cd1 ct1), sl1⟩)
    (c1 : PySem.W.codeIn K cd1 "BadProgram.__init__" = true)
    (k1 : PySem.W.keepIn K (.ref f1) = true)
    (a2 : PySem.W.findIn K (.ref C7) "__init__" = some (some (.ref f2)))
    (i2 : PySem.W.isFn K (.ref f2) = true)
    (l2 : K.lookup f2 = some ⟨oc2, od2, .func (PySem.W.fnOf "__init__" "BadBook.__init__" (defArgs s2) (defBody s2) (defScope s2) .none kV2 dc2 pm2 an2 cd2 ct2), sl2⟩)
    (c2 : PySem.W.codeIn K cd2 "BadBook.__init__" = true)
    (k2 : PySem.W.keepIn K (.ref f2) = true)
    (a3 : PySem.W.nsIn K mainGlobals "_law_cell_at" = some (some (.ref f3)))
    (l3 : K.lookup f3 = some ⟨oc3, od3, .func (PySem.W.fnOf "_law_cell_at" "_law_cell_at" (defArgs s3) (defBody s3) (defScope s3) .none kV3 dc3 pm3 an3 cd3 ct3), sl3⟩)
    (c3 : PySem.W.codeIn K cd3 "_law_cell_at" = true)
    (k3 : PySem.W.keepIn K (.ref f3) = true)
    (a4 : PySem.W.nsIn K mainGlobals "_law_raised" = some (some (.ref f4)))
    (l4 : K.lookup f4 = some ⟨oc4, od4, .func (PySem.W.fnOf "_law_raised" "_law_raised" (defArgs s4) (defBody s4) (defScope s4) .none kV4 dc4 pm4 an4 cd4 ct4), sl4⟩)
    (c4 : PySem.W.codeIn K cd4 "_law_raised" = true)
    (k4 : PySem.W.keepIn K (.ref f4) = true)
    (a5 : PySem.W.nsIn K mainGlobals "_law_kinds" = some (some (.ref f5)))
    (l5 : K.lookup f5 = some ⟨oc5, od5, .func (PySem.W.fnOf "_law_kinds" "_law_kinds" (defArgs s5) (defBody s5) (defScope s5) .none kV5 dc5 pm5 an5 cd5 ct5), sl5⟩)
    (c5 : PySem.W.codeIn K cd5 "_law_kinds" = true)
    (k5 : PySem.W.keepIn K (.ref f5) = true)
    (a6 : PySem.W.nsIn K mainGlobals "_law_fields" = some (some (.ref f6)))
    (l6 : K.lookup f6 = some ⟨oc6, od6, .func (PySem.W.fnOf "_law_fields" "_law_fields" (defArgs s6) (defBody s6) (defScope s6) .none kV6 dc6 pm6 an6 cd6 ct6), sl6⟩)
    (c6 : PySem.W.codeIn K cd6 "_law_fields" = true)
    (k6 : PySem.W.keepIn K (.ref f6) = true)
    (a7 : PySem.W.nsIn K mainGlobals "_law_taken" = some (some (.ref f7)))
    (l7 : K.lookup f7 = some ⟨oc7, od7, .func (PySem.W.fnOf "_law_taken" "_law_taken" (defArgs s7) (defBody s7) (defScope s7) .none kV7 dc7 pm7 an7 cd7 ct7), sl7⟩)
    (c7 : PySem.W.codeIn K cd7 "_law_taken" = true)
    (k7 : PySem.W.keepIn K (.ref f7) = true)
    (a8 : PySem.W.nsIn K mainGlobals "law" = some (some (.ref f8)))
    (l8 : K.lookup f8 = some ⟨oc8, od8, .func (PySem.W.fnOf "law" "law" (defArgs s8) (defBody s8) (defScope s8) .none kV8 dc8 pm8 an8 cd8 ct8), sl8⟩)
    (c8 : PySem.W.codeIn K cd8 "law" = true)
    (k8 : PySem.W.keepIn K (.ref f8) = true)
    (z0 : PySem.W.nsIn K mainGlobals "ValueError" = some none)
    (z1 : PySem.W.nsIn K mainGlobals "isinstance" = some none)
    (z2 : PySem.W.nsIn K mainGlobals "len" = some none)
    (z3 : PySem.W.nsIn K mainGlobals "range" = some none)
    (xk1 : PySem.W.keepIn K (.ref C1) = true)
    (xb1 : PySem.W.subIn K (.ref C1) (.type "BaseException") = some true)
    (xt1 : PySem.W.typeIn K (.ref C1) = some (.type "type"))
    (xi1 : PySem.W.excIn K C1 [Value.type "ValueError", Value.type "Exception", Value.type "BaseException", Value.type "object"] "ValueError.__new__" = true)
    (xk2 : PySem.W.keepIn K (.ref C2) = true)
    (xb2 : PySem.W.subIn K (.ref C2) (.type "BaseException") = some true)
    (xt2 : PySem.W.typeIn K (.ref C2) = some (.type "type"))
    (xi2 : PySem.W.excIn K C2 [Value.type "ValueError", Value.type "Exception", Value.type "BaseException", Value.type "object"] "ValueError.__new__" = true)
    (xk3 : PySem.W.keepIn K (.ref C3) = true)
    (xb3 : PySem.W.subIn K (.ref C3) (.type "BaseException") = some true)
    (xt3 : PySem.W.typeIn K (.ref C3) = some (.type "type"))
    (xi3 : PySem.W.excIn K C3 [Value.type "ValueError", Value.type "Exception", Value.type "BaseException", Value.type "object"] "ValueError.__new__" = true)
    (xk4 : PySem.W.keepIn K (.ref C4) = true)
    (xb4 : PySem.W.subIn K (.ref C4) (.type "BaseException") = some true)
    (xt4 : PySem.W.typeIn K (.ref C4) = some (.type "type"))
    (xi4 : PySem.W.excIn K C4 [Value.type "ValueError", Value.type "Exception", Value.type "BaseException", Value.type "object"] "ValueError.__new__" = true)
    (ci7 : PySem.W.isClsIn K C7 = true)
    (cb7 : PySem.W.subIn K (.ref C7) (.type "BaseException") = some true)
    (cy7 : PySem.W.typeIn K (.ref C7) = some (.type "type"))
    (ct7x7 : PySem.W.subIn K (.ref C7) (.ref C7) = some true)
    (ct7x1 : PySem.W.subIn K (.ref C1) (.ref C7) = some false)
    (ct7x4 : PySem.W.subIn K (.ref C4) (.ref C7) = some false)
    (ct7x6 : PySem.W.subIn K (.ref C6) (.ref C7) = some false)
    (ct7x5 : PySem.W.subIn K (.ref C5) (.ref C7) = some false)
    (ct7x2 : PySem.W.subIn K (.ref C2) (.ref C7) = some false)
    (ct7x3 : PySem.W.subIn K (.ref C3) (.ref C7) = some false)
    (ci1 : PySem.W.isClsIn K C1 = true)
    (cb1 : PySem.W.subIn K (.ref C1) (.type "BaseException") = some true)
    (cy1 : PySem.W.typeIn K (.ref C1) = some (.type "type"))
    (ct1x7 : PySem.W.subIn K (.ref C7) (.ref C1) = some false)
    (ct1x1 : PySem.W.subIn K (.ref C1) (.ref C1) = some true)
    (ct1x4 : PySem.W.subIn K (.ref C4) (.ref C1) = some false)
    (ct1x6 : PySem.W.subIn K (.ref C6) (.ref C1) = some false)
    (ct1x5 : PySem.W.subIn K (.ref C5) (.ref C1) = some false)
    (ct1x2 : PySem.W.subIn K (.ref C2) (.ref C1) = some false)
    (ct1x3 : PySem.W.subIn K (.ref C3) (.ref C1) = some false)
    (ci4 : PySem.W.isClsIn K C4 = true)
    (cb4 : PySem.W.subIn K (.ref C4) (.type "BaseException") = some true)
    (cy4 : PySem.W.typeIn K (.ref C4) = some (.type "type"))
    (ct4x7 : PySem.W.subIn K (.ref C7) (.ref C4) = some false)
    (ct4x1 : PySem.W.subIn K (.ref C1) (.ref C4) = some false)
    (ct4x4 : PySem.W.subIn K (.ref C4) (.ref C4) = some true)
    (ct4x6 : PySem.W.subIn K (.ref C6) (.ref C4) = some false)
    (ct4x5 : PySem.W.subIn K (.ref C5) (.ref C4) = some false)
    (ct4x2 : PySem.W.subIn K (.ref C2) (.ref C4) = some false)
    (ct4x3 : PySem.W.subIn K (.ref C3) (.ref C4) = some false)
    (ci6 : PySem.W.isClsIn K C6 = true)
    (cb6 : PySem.W.subIn K (.ref C6) (.type "BaseException") = some true)
    (cy6 : PySem.W.typeIn K (.ref C6) = some (.type "type"))
    (ct6x7 : PySem.W.subIn K (.ref C7) (.ref C6) = some false)
    (ct6x1 : PySem.W.subIn K (.ref C1) (.ref C6) = some false)
    (ct6x4 : PySem.W.subIn K (.ref C4) (.ref C6) = some false)
    (ct6x6 : PySem.W.subIn K (.ref C6) (.ref C6) = some true)
    (ct6x5 : PySem.W.subIn K (.ref C5) (.ref C6) = some false)
    (ct6x2 : PySem.W.subIn K (.ref C2) (.ref C6) = some false)
    (ct6x3 : PySem.W.subIn K (.ref C3) (.ref C6) = some false)
    (ci5 : PySem.W.isClsIn K C5 = true)
    (cb5 : PySem.W.subIn K (.ref C5) (.type "BaseException") = some true)
    (cy5 : PySem.W.typeIn K (.ref C5) = some (.type "type"))
    (ct5x7 : PySem.W.subIn K (.ref C7) (.ref C5) = some false)
    (ct5x1 : PySem.W.subIn K (.ref C1) (.ref C5) = some false)
    (ct5x4 : PySem.W.subIn K (.ref C4) (.ref C5) = some false)
    (ct5x6 : PySem.W.subIn K (.ref C6) (.ref C5) = some false)
    (ct5x5 : PySem.W.subIn K (.ref C5) (.ref C5) = some true)
    (ct5x2 : PySem.W.subIn K (.ref C2) (.ref C5) = some false)
    (ct5x3 : PySem.W.subIn K (.ref C3) (.ref C5) = some false)
    (ci2 : PySem.W.isClsIn K C2 = true)
    (cb2 : PySem.W.subIn K (.ref C2) (.type "BaseException") = some true)
    (cy2 : PySem.W.typeIn K (.ref C2) = some (.type "type"))
    (ct2x7 : PySem.W.subIn K (.ref C7) (.ref C2) = some false)
    (ct2x1 : PySem.W.subIn K (.ref C1) (.ref C2) = some false)
    (ct2x4 : PySem.W.subIn K (.ref C4) (.ref C2) = some false)
    (ct2x6 : PySem.W.subIn K (.ref C6) (.ref C2) = some false)
    (ct2x5 : PySem.W.subIn K (.ref C5) (.ref C2) = some false)
    (ct2x2 : PySem.W.subIn K (.ref C2) (.ref C2) = some true)
    (ct2x3 : PySem.W.subIn K (.ref C3) (.ref C2) = some false)
    (ci3 : PySem.W.isClsIn K C3 = true)
    (cb3 : PySem.W.subIn K (.ref C3) (.type "BaseException") = some true)
    (cy3 : PySem.W.typeIn K (.ref C3) = some (.type "type"))
    (ct3x7 : PySem.W.subIn K (.ref C7) (.ref C3) = some false)
    (ct3x1 : PySem.W.subIn K (.ref C1) (.ref C3) = some false)
    (ct3x4 : PySem.W.subIn K (.ref C4) (.ref C3) = some false)
    (ct3x6 : PySem.W.subIn K (.ref C6) (.ref C3) = some false)
    (ct3x5 : PySem.W.subIn K (.ref C5) (.ref C3) = some false)
    (ct3x2 : PySem.W.subIn K (.ref C2) (.ref C3) = some false)
    (ct3x3 : PySem.W.subIn K (.ref C3) (.ref C3) = some true)
    (ci0 : PySem.W.isClsIn K C0 = true)
    (cb0 : PySem.W.subIn K (.ref C0) (.type "BaseException") = some true)
    (cy0 : PySem.W.typeIn K (.ref C0) = some (.type "type"))
    (ct0x7 : PySem.W.subIn K (.ref C7) (.ref C0) = some true)
    (ct0x1 : PySem.W.subIn K (.ref C1) (.ref C0) = some true)
    (ct0x4 : PySem.W.subIn K (.ref C4) (.ref C0) = some true)
    (ct0x6 : PySem.W.subIn K (.ref C6) (.ref C0) = some true)
    (ct0x5 : PySem.W.subIn K (.ref C5) (.ref C0) = some true)
    (ct0x2 : PySem.W.subIn K (.ref C2) (.ref C0) = some true)
    (ct0x3 : PySem.W.subIn K (.ref C3) (.ref C0) = some true)
    (ega1 : PySem.W.findIn K (.ref C1) "__getattribute__" = some (some (.builtin "BaseException.__getattribute__")))
    (egg1 : PySem.W.findIn K (.ref C1) "__getattr__" = some none)
    (ehd1 : PySem.W.hasDictIn K C1 = true)
    (ecl1 : PySem.W.findIn K (.ref C1) "__class__" = some (some (.builtin "object.__class__")))
    (emr1 : PySem.W.mroIn K C1 (.type "object") = some true)
    (ega2 : PySem.W.findIn K (.ref C2) "__getattribute__" = some (some (.builtin "BaseException.__getattribute__")))
    (egg2 : PySem.W.findIn K (.ref C2) "__getattr__" = some none)
    (ehd2 : PySem.W.hasDictIn K C2 = true)
    (ecl2 : PySem.W.findIn K (.ref C2) "__class__" = some (some (.builtin "object.__class__")))
    (emr2 : PySem.W.mroIn K C2 (.type "object") = some true)
    (ega3 : PySem.W.findIn K (.ref C3) "__getattribute__" = some (some (.builtin "BaseException.__getattribute__")))
    (egg3 : PySem.W.findIn K (.ref C3) "__getattr__" = some none)
    (ehd3 : PySem.W.hasDictIn K C3 = true)
    (ecl3 : PySem.W.findIn K (.ref C3) "__class__" = some (some (.builtin "object.__class__")))
    (emr3 : PySem.W.mroIn K C3 (.type "object") = some true)
    (ega4 : PySem.W.findIn K (.ref C4) "__getattribute__" = some (some (.builtin "BaseException.__getattribute__")))
    (egg4 : PySem.W.findIn K (.ref C4) "__getattr__" = some none)
    (ehd4 : PySem.W.hasDictIn K C4 = true)
    (ecl4 : PySem.W.findIn K (.ref C4) "__class__" = some (some (.builtin "object.__class__")))
    (emr4 : PySem.W.mroIn K C4 (.type "object") = some true)
    (xk5 : PySem.W.keepIn K (.ref C5) = true)
    (xb5 : PySem.W.subIn K (.ref C5) (.type "BaseException") = some true)
    (xt5 : PySem.W.typeIn K (.ref C5) = some (.type "type"))
    (ega5 : PySem.W.findIn K (.ref C5) "__getattribute__" = some (some (.builtin "BaseException.__getattribute__")))
    (egg5 : PySem.W.findIn K (.ref C5) "__getattr__" = some none)
    (ehd5 : PySem.W.hasDictIn K C5 = true)
    (ecl5 : PySem.W.findIn K (.ref C5) "__class__" = some (some (.builtin "object.__class__")))
    (emr5 : PySem.W.mroIn K C5 (.type "object") = some true)
    (xo5 : K.lookup C5 = some (excClassObj xnm5 xq5 C5 xN5 xbs5 xbm5 true xsn5 xsub5 xab5 xcol5 xdd5 xka5 xkb5 xkc5 xkd5 xke5 "ValueError.__new__"))
    (xr5 : PySem.HandSPX.refsVE xbm5 = true)
    (esa5 : PySem.W.findIn K (.ref C5) "__setattr__" = some (some (.builtin "object.__setattr__")))
    (xno5x0 : PySem.W.findIn K (.ref C5) "line" = some none)
    (wrd0 : PySem.W.readsIn K C0 (.type "type") = true)
    (wga0 : PySem.W.specialIn K (.ref C0) "__getattribute__" = some (some (.builtin "type.__getattribute__")))
    (wci0 : PySem.W.findCls K (.ref C0) (.type "type") "__init__" = some (.val (.builtin "ValueError.__init__")))
    (xk6 : PySem.W.keepIn K (.ref C6) = true)
    (xb6 : PySem.W.subIn K (.ref C6) (.type "BaseException") = some true)
    (xt6 : PySem.W.typeIn K (.ref C6) = some (.type "type"))
    (ega6 : PySem.W.findIn K (.ref C6) "__getattribute__" = some (some (.builtin "BaseException.__getattribute__")))
    (egg6 : PySem.W.findIn K (.ref C6) "__getattr__" = some none)
    (ehd6 : PySem.W.hasDictIn K C6 = true)
    (ecl6 : PySem.W.findIn K (.ref C6) "__class__" = some (some (.builtin "object.__class__")))
    (emr6 : PySem.W.mroIn K C6 (.type "object") = some true)
    (xo6 : K.lookup C6 = some (excClassObj xnm6 xq6 C6 xN6 xbs6 xbm6 true xsn6 xsub6 xab6 xcol6 xdd6 xka6 xkb6 xkc6 xkd6 xke6 "ValueError.__new__"))
    (xr6 : PySem.HandSPX.refsVE xbm6 = true)
    (esa6 : PySem.W.findIn K (.ref C6) "__setattr__" = some (some (.builtin "object.__setattr__")))
    (xno6x0 : PySem.W.findIn K (.ref C6) "line" = some none)
    (xno6x1 : PySem.W.findIn K (.ref C6) "word" = some none)
    (xk7 : PySem.W.keepIn K (.ref C7) = true)
    (xb7 : PySem.W.subIn K (.ref C7) (.type "BaseException") = some true)
    (xt7 : PySem.W.typeIn K (.ref C7) = some (.type "type"))
    (ega7 : PySem.W.findIn K (.ref C7) "__getattribute__" = some (some (.builtin "BaseException.__getattribute__")))
    (egg7 : PySem.W.findIn K (.ref C7) "__getattr__" = some none)
    (ehd7 : PySem.W.hasDictIn K C7 = true)
    (ecl7 : PySem.W.findIn K (.ref C7) "__class__" = some (some (.builtin "object.__class__")))
    (emr7 : PySem.W.mroIn K C7 (.type "object") = some true)
    (xo7 : K.lookup C7 = some (excClassObj xnm7 xq7 C7 xN7 xbs7 xbm7 true xsn7 xsub7 xab7 xcol7 xdd7 xka7 xkb7 xkc7 xkd7 xke7 "ValueError.__new__"))
    (xr7 : PySem.HandSPX.refsVE xbm7 = true)
    (esa7 : PySem.W.findIn K (.ref C7) "__setattr__" = some (some (.builtin "object.__setattr__")))
    (xno7x2 : PySem.W.findIn K (.ref C7) "place" = some none)
    (hgt : PySem.W.specialIn K (.builtin "object.__class__") "__get__" = some (some (.builtin "getset_descriptor.__get__")))
    (htk : PySem.W.takesIn K (.builtin "object.__class__") = some true)
    (su7x1 : PySem.W.subIn K (.ref C1) (.ref C7) = some false)
    (ne7x1 : (C1 == C7) = false)
    (su7x4 : PySem.W.subIn K (.ref C4) (.ref C7) = some false)
    (ne7x4 : (C4 == C7) = false)
    (su7x6 : PySem.W.subIn K (.ref C6) (.ref C7) = some false)
    (ne7x6 : (C6 == C7) = false)
    (su7x5 : PySem.W.subIn K (.ref C5) (.ref C7) = some false)
    (ne7x5 : (C5 == C7) = false)
    (su7x2 : PySem.W.subIn K (.ref C2) (.ref C7) = some false)
    (ne7x2 : (C2 == C7) = false)
    (su7x3 : PySem.W.subIn K (.ref C3) (.ref C7) = some false)
    (ne7x3 : (C3 == C7) = false)
    (su1x7 : PySem.W.subIn K (.ref C7) (.ref C1) = some false)
    (ne1x7 : (C7 == C1) = false)
    (su1x4 : PySem.W.subIn K (.ref C4) (.ref C1) = some false)
    (ne1x4 : (C4 == C1) = false)
    (su1x6 : PySem.W.subIn K (.ref C6) (.ref C1) = some false)
    (ne1x6 : (C6 == C1) = false)
    (su1x5 : PySem.W.subIn K (.ref C5) (.ref C1) = some false)
    (ne1x5 : (C5 == C1) = false)
    (su1x2 : PySem.W.subIn K (.ref C2) (.ref C1) = some false)
    (ne1x2 : (C2 == C1) = false)
    (su1x3 : PySem.W.subIn K (.ref C3) (.ref C1) = some false)
    (ne1x3 : (C3 == C1) = false)
    (su4x7 : PySem.W.subIn K (.ref C7) (.ref C4) = some false)
    (ne4x7 : (C7 == C4) = false)
    (su4x1 : PySem.W.subIn K (.ref C1) (.ref C4) = some false)
    (ne4x1 : (C1 == C4) = false)
    (su4x6 : PySem.W.subIn K (.ref C6) (.ref C4) = some false)
    (ne4x6 : (C6 == C4) = false)
    (su4x5 : PySem.W.subIn K (.ref C5) (.ref C4) = some false)
    (ne4x5 : (C5 == C4) = false)
    (su4x2 : PySem.W.subIn K (.ref C2) (.ref C4) = some false)
    (ne4x2 : (C2 == C4) = false)
    (su4x3 : PySem.W.subIn K (.ref C3) (.ref C4) = some false)
    (ne4x3 : (C3 == C4) = false)
    (su6x7 : PySem.W.subIn K (.ref C7) (.ref C6) = some false)
    (ne6x7 : (C7 == C6) = false)
    (su6x1 : PySem.W.subIn K (.ref C1) (.ref C6) = some false)
    (ne6x1 : (C1 == C6) = false)
    (su6x4 : PySem.W.subIn K (.ref C4) (.ref C6) = some false)
    (ne6x4 : (C4 == C6) = false)
    (su6x5 : PySem.W.subIn K (.ref C5) (.ref C6) = some false)
    (ne6x5 : (C5 == C6) = false)
    (su6x2 : PySem.W.subIn K (.ref C2) (.ref C6) = some false)
    (ne6x2 : (C2 == C6) = false)
    (su6x3 : PySem.W.subIn K (.ref C3) (.ref C6) = some false)
    (ne6x3 : (C3 == C6) = false)
    (su5x7 : PySem.W.subIn K (.ref C7) (.ref C5) = some false)
    (ne5x7 : (C7 == C5) = false)
    (su5x1 : PySem.W.subIn K (.ref C1) (.ref C5) = some false)
    (ne5x1 : (C1 == C5) = false)
    (su5x4 : PySem.W.subIn K (.ref C4) (.ref C5) = some false)
    (ne5x4 : (C4 == C5) = false)
    (su5x6 : PySem.W.subIn K (.ref C6) (.ref C5) = some false)
    (ne5x6 : (C6 == C5) = false)
    (su5x2 : PySem.W.subIn K (.ref C2) (.ref C5) = some false)
    (ne5x2 : (C2 == C5) = false)
    (su5x3 : PySem.W.subIn K (.ref C3) (.ref C5) = some false)
    (ne5x3 : (C3 == C5) = false)
    (su2x7 : PySem.W.subIn K (.ref C7) (.ref C2) = some false)
    (ne2x7 : (C7 == C2) = false)
    (su2x1 : PySem.W.subIn K (.ref C1) (.ref C2) = some false)
    (ne2x1 : (C1 == C2) = false)
    (su2x4 : PySem.W.subIn K (.ref C4) (.ref C2) = some false)
    (ne2x4 : (C4 == C2) = false)
    (su2x6 : PySem.W.subIn K (.ref C6) (.ref C2) = some false)
    (ne2x6 : (C6 == C2) = false)
    (su2x5 : PySem.W.subIn K (.ref C5) (.ref C2) = some false)
    (ne2x5 : (C5 == C2) = false)
    (su2x3 : PySem.W.subIn K (.ref C3) (.ref C2) = some false)
    (ne2x3 : (C3 == C2) = false)
    (su3x7 : PySem.W.subIn K (.ref C7) (.ref C3) = some false)
    (ne3x7 : (C7 == C3) = false)
    (su3x1 : PySem.W.subIn K (.ref C1) (.ref C3) = some false)
    (ne3x1 : (C1 == C3) = false)
    (su3x4 : PySem.W.subIn K (.ref C4) (.ref C3) = some false)
    (ne3x4 : (C4 == C3) = false)
    (su3x6 : PySem.W.subIn K (.ref C6) (.ref C3) = some false)
    (ne3x6 : (C6 == C3) = false)
    (su3x5 : PySem.W.subIn K (.ref C5) (.ref C3) = some false)
    (ne3x5 : (C5 == C3) = false)
    (su3x2 : PySem.W.subIn K (.ref C2) (.ref C3) = some false)
    (ne3x2 : (C2 == C3) = false)
    (sv7 : PySem.W.subIn K (.ref C7) (.type "ValueError") = some true)
    (sv1 : PySem.W.subIn K (.ref C1) (.type "ValueError") = some true)
    (sv4 : PySem.W.subIn K (.ref C4) (.type "ValueError") = some true)
    (sv6 : PySem.W.subIn K (.ref C6) (.type "ValueError") = some true)
    (sv5 : PySem.W.subIn K (.ref C5) (.type "ValueError") = some true)
    (sv2 : PySem.W.subIn K (.ref C2) (.type "ValueError") = some true)
    (sv3 : PySem.W.subIn K (.ref C3) (.type "ValueError") = some true) :
    LawAt mg K Z T D 8 "_law_script" fa := by
  have e := (PySem.W.mg_of X G a8).symm.trans hfa
  have e2 : f8 = fa := by injection e with e; injection e
  subst e2
  have F3 := fd_mk (st := s3) l3 c3
  have B3 : Binds K _ P3 [] := Binds.all (fd := (PySem.W.fnOf "_law_cell_at" "_law_cell_at" (defArgs s3) (defBody s3) (defScope s3) .none kV3 dc3 pm3 an3 cd3 ct3)) (ps := P3) fun us hl => match us, hl with | [_, _], _ => rfl
  have F4 := fd_mk (st := s4) l4 c4
  have B4 : Binds K _ P4 [] := Binds.all (fd := (PySem.W.fnOf "_law_raised" "_law_raised" (defArgs s4) (defBody s4) (defScope s4) .none kV4 dc4 pm4 an4 cd4 ct4)) (ps := P4) fun us hl => match us, hl with | [_, _, _, _], _ => rfl
  have F5 := fd_mk (st := s5) l5 c5
  have B5 : Binds K _ P5 [] := Binds.all (fd := (PySem.W.fnOf "_law_kinds" "_law_kinds" (defArgs s5) (defBody s5) (defScope s5) .none kV5 dc5 pm5 an5 cd5 ct5)) (ps := P5) fun us hl => match us, hl with | [_], _ => rfl
  have F6 := fd_mk (st := s6) l6 c6
  have B6 : Binds K _ P6 [] := Binds.all (fd := (PySem.W.fnOf "_law_fields" "_law_fields" (defArgs s6) (defBody s6) (defScope s6) .none kV6 dc6 pm6 an6 cd6 ct6)) (ps := P6) fun us hl => match us, hl with | [_, _, _, _], _ => rfl
  have F7 := fd_mk (st := s7) l7 c7
  have B7 : Binds K _ P7 [] := Binds.all (fd := (PySem.W.fnOf "_law_taken" "_law_taken" (defArgs s7) (defBody s7) (defScope s7) .none kV7 dc7 pm7 an7 cd7 ct7)) (ps := P7) fun us hl => match us, hl with | [_, _, _, _], _ => rfl
  have F8 := fd_mk (st := s8) l8 c8
  have B8 : Binds K _ P8 [] := Binds.all (fd := (PySem.W.fnOf "law" "law" (defArgs s8) (defBody s8) (defScope s8) .none kV8 dc8 pm8 an8 cd8 ct8)) (ps := P8) fun us hl => match us, hl with | [_], _ => rfl
  refine ⟨⟨⟨K, fun i => ([C0, C1, C2, C3, C4, C5, C6, C7] : List Addr).getD i 0, NM, nmNd, [], [], []⟩, fun i => ([f8, f8, f8, f3, f4, f5, f6, f7, f8] : List Addr).getD i 0, fun i => ([(PySem.W.fnOf "law" "law" (defArgs s8) (defBody s8) (defScope s8) .none kV8 dc8 pm8 an8 cd8 ct8), (PySem.W.fnOf "law" "law" (defArgs s8) (defBody s8) (defScope s8) .none kV8 dc8 pm8 an8 cd8 ct8), (PySem.W.fnOf "law" "law" (defArgs s8) (defBody s8) (defScope s8) .none kV8 dc8 pm8 an8 cd8 ct8), (PySem.W.fnOf "_law_cell_at" "_law_cell_at" (defArgs s3) (defBody s3) (defScope s3) .none kV3 dc3 pm3 an3 cd3 ct3), (PySem.W.fnOf "_law_raised" "_law_raised" (defArgs s4) (defBody s4) (defScope s4) .none kV4 dc4 pm4 an4 cd4 ct4), (PySem.W.fnOf "_law_kinds" "_law_kinds" (defArgs s5) (defBody s5) (defScope s5) .none kV5 dc5 pm5 an5 cd5 ct5), (PySem.W.fnOf "_law_fields" "_law_fields" (defArgs s6) (defBody s6) (defScope s6) .none kV6 dc6 pm6 an6 cd6 ct6), (PySem.W.fnOf "_law_taken" "_law_taken" (defArgs s7) (defBody s7) (defScope s7) .none kV7 dc7 pm7 an7 cd7 ct7), (PySem.W.fnOf "law" "law" (defArgs s8) (defBody s8) (defScope s8) .none kV8 dc8 pm8 an8 cd8 ct8)] : List FuncData).getD i (PySem.W.fnOf "law" "law" (defArgs s8) (defBody s8) (defScope s8) .none kV8 dc8 pm8 an8 cd8 ct8), fun i => ([P8, P8, P8, P3, P4, P5, P6, P7, P8] : List (List Str)).getD i [], rfl, ?_, rfl, rfl, fun s u => .of_eq rfl, rfl, rfl, fun p hp => nomatch hp⟩⟩
  refine { hNM := rfl, fld := ?fld, bl := ?bl, df := ?df, fns := ?fns, cls := ?cls, cst := ?cst, mts := ?mts, exs := ?exs, exr := ?exr, cat := ?cat, gc := ?gc, cfn := ?cfn, isi := ?isi, xfk := ?xfk, xis := ?xis, fnh := ?fnh, xrs := ?xrs }
  case fld =>
    exact ⟨fun c f hf => Bool.noConfusion hf, fun c f hf => Bool.noConfusion hf⟩
  case bl => exact AllQ.has (P := fun x => mg x = none) ⟨PySem.W.mg_none_of X G z0, PySem.W.mg_none_of X G z1, PySem.W.mg_none_of X G z2, PySem.W.mg_none_of X G z3, trivial⟩
  case df => exact AllI.get0 (l := D) ⟨.inl ⟨⟨_, _, s8, N8, F8, ck8⟩⟩, .inl ⟨⟨_, _, s8, N8, F8, ck8⟩⟩, .inl ⟨⟨_, _, s8, N8, F8, ck8⟩⟩, .inl ⟨⟨_, _, s3, N3, F3, ck3⟩⟩, .inl ⟨⟨_, _, s4, N4, F4, ck4⟩⟩, .inl ⟨⟨_, _, s5, N5, F5, ck5⟩⟩, .inl ⟨⟨_, _, s6, N6, F6, ck6⟩⟩, .inl ⟨⟨_, _, s7, N7, F7, ck7⟩⟩, .inl ⟨⟨_, _, s8, N8, F8, ck8⟩⟩, trivial⟩
  case fns =>
    exact AllP.get ⟨⟨PySem.W.mg_of X G a3, k3, ds_none rfl B3⟩, ⟨PySem.W.mg_of X G a4, k4, ds_none rfl B4⟩, ⟨PySem.W.mg_of X G a6, k6, ds_none rfl B6⟩, ⟨PySem.W.mg_of X G a7, k7, ds_none rfl B7⟩, trivial⟩
  case cls =>
    intro x c f hx; cases hx
  case cst =>
    intro x ks hx; cases hx
  case gc =>
    intro x v hx; cases hx
  case cfn =>
    intro x m f hx; cases hx
  case mts =>
    intro m n c fds hx; cases hx
  case exs =>
    exact AllP.get ⟨PySem.W.mg_of X G hC0, PySem.W.mg_of X G hC1, PySem.W.mg_of X G hC2, PySem.W.mg_of X G hC3, PySem.W.mg_of X G hC4, PySem.W.mg_of X G hC5, PySem.W.mg_of X G hC6, PySem.W.mg_of X G hC7, trivial⟩
  case exr =>
    exact AllQ.has ⟨⟨xk1, xb1, xt1, _, _, _, _, PySem.F.excBase_ValueError, xi1⟩, ⟨xk2, xb2, xt2, _, _, _, _, PySem.F.excBase_ValueError, xi2⟩, ⟨xk3, xb3, xt3, _, _, _, _, PySem.F.excBase_ValueError, xi3⟩, ⟨xk4, xb4, xt4, _, _, _, _, PySem.F.excBase_ValueError, xi4⟩, trivial⟩
  case cat =>
    have A : AllP (fun (p : Nat × Nat) (b : Bool) => PySem.W.exmOne K (.ref ((fun i => ([C0, C1, C2, C3, C4, C5, C6, C7] : List Addr).getD i 0) p.2)) (.ref ((fun i => ([C0, C1, C2, C3, C4, C5, C6, C7] : List Addr).getD i 0) p.1)) = some b) caT := ⟨exm_gen cb7 ci7 cy7 ct7x7, exm_gen cb7 ci7 cy7 ct7x1, exm_gen cb7 ci7 cy7 ct7x4, exm_gen cb7 ci7 cy7 ct7x6, exm_gen cb7 ci7 cy7 ct7x5, exm_gen cb7 ci7 cy7 ct7x2, exm_gen cb7 ci7 cy7 ct7x3, exm_gen cb1 ci1 cy1 ct1x7, exm_gen cb1 ci1 cy1 ct1x1, exm_gen cb1 ci1 cy1 ct1x4, exm_gen cb1 ci1 cy1 ct1x6, exm_gen cb1 ci1 cy1 ct1x5, exm_gen cb1 ci1 cy1 ct1x2, exm_gen cb1 ci1 cy1 ct1x3, exm_gen cb4 ci4 cy4 ct4x7, exm_gen cb4 ci4 cy4 ct4x1, exm_gen cb4 ci4 cy4 ct4x4, exm_gen cb4 ci4 cy4 ct4x6, exm_gen cb4 ci4 cy4 ct4x5, exm_gen cb4 ci4 cy4 ct4x2, exm_gen cb4 ci4 cy4 ct4x3, exm_gen cb6 ci6 cy6 ct6x7, exm_gen cb6 ci6 cy6 ct6x1, exm_gen cb6 ci6 cy6 ct6x4, exm_gen cb6 ci6 cy6 ct6x6, exm_gen cb6 ci6 cy6 ct6x5, exm_gen cb6 ci6 cy6 ct6x2, exm_gen cb6 ci6 cy6 ct6x3, exm_gen cb5 ci5 cy5 ct5x7, exm_gen cb5 ci5 cy5 ct5x1, exm_gen cb5 ci5 cy5 ct5x4, exm_gen cb5 ci5 cy5 ct5x6, exm_gen cb5 ci5 cy5 ct5x5, exm_gen cb5 ci5 cy5 ct5x2, exm_gen cb5 ci5 cy5 ct5x3, exm_gen cb2 ci2 cy2 ct2x7, exm_gen cb2 ci2 cy2 ct2x1, exm_gen cb2 ci2 cy2 ct2x4, exm_gen cb2 ci2 cy2 ct2x6, exm_gen cb2 ci2 cy2 ct2x5, exm_gen cb2 ci2 cy2 ct2x2, exm_gen cb2 ci2 cy2 ct2x3, exm_gen cb3 ci3 cy3 ct3x7, exm_gen cb3 ci3 cy3 ct3x1, exm_gen cb3 ci3 cy3 ct3x4, exm_gen cb3 ci3 cy3 ct3x6, exm_gen cb3 ci3 cy3 ct3x5, exm_gen cb3 ci3 cy3 ct3x2, exm_gen cb3 ci3 cy3 ct3x3, exm_gen cb0 ci0 cy0 ct0x7, exm_gen cb0 ci0 cy0 ct0x1, exm_gen cb0 ci0 cy0 ct0x4, exm_gen cb0 ci0 cy0 ct0x6, exm_gen cb0 ci0 cy0 ct0x5, exm_gen cb0 ci0 cy0 ct0x2, exm_gen cb0 ci0 cy0 ct0x3, trivial⟩
    exact fun j c b hb => A.get (j, c) b hb
  case isi =>
    intro y j hy; cases hy
  case xfk =>
    have A : AllP (fun (c : Nat) (l : List Nat) => AllQ (fun f => XfC K ((([C0, C1, C2, C3, C4, C5, C6, C7] : List Addr).getD c 0)) ∧ PySem.W.findIn K (.ref ((([C0, C1, C2, C3, C4, C5, C6, C7] : List Addr).getD c 0))) (NM.getD f Str.empty) = some none ∧ f < NM.length) l) xfT := ⟨⟨⟨⟨ega7, egg7, xb7, ehd7⟩, xno7x2, by decide⟩, trivial⟩, ⟨⟨⟨ega6, egg6, xb6, ehd6⟩, xno6x0, by decide⟩, ⟨⟨ega6, egg6, xb6, ehd6⟩, xno6x1, by decide⟩, trivial⟩, ⟨⟨⟨ega5, egg5, xb5, ehd5⟩, xno5x0, by decide⟩, trivial⟩, trivial⟩
    exact ⟨fun c l f h1 h2 => (A.get c l h1).has f h2⟩
  case xis =>
    have A : AllP (fun (y : Str) (j : Nat) => ∃ (c : V) (u : Value), ClsV c u ∧ RelV c u ∧ (mg y = some u ∨ (mg y = none ∧ bootBuiltins y = some u ∧ y ≠ "__name__")) ∧ ∀ d b, T.isX j d = some b → ExcC K ((([C0, C1, C2, C3, C4, C5, C6, C7] : List Addr).getD d 0)) ∧ PySem.W.kitOne K (.ref ((([C0, C1, C2, C3, C4, C5, C6, C7] : List Addr).getD d 0))) u = some b) Z.xis := ⟨⟨.ref C7, .ref C7, .own _, rfl, .inl (PySem.W.mg_of X G hC7), fun d b hb => AllP.get (P := fun (p : Nat × Nat) (b : Bool) => p.1 = 7 → ExcC K ((([C0, C1, C2, C3, C4, C5, C6, C7] : List Addr).getD p.2 0)) ∧ PySem.W.kitOne K (.ref ((([C0, C1, C2, C3, C4, C5, C6, C7] : List Addr).getD p.2 0))) (.ref C7 : Value) = some b) (l := xisT) ⟨fun _ => ⟨⟨ega7, egg7, xb7, ehd7, ecl7, hgt, htk, emr7⟩, kit_self⟩, fun _ => ⟨⟨ega1, egg1, xb1, ehd1, ecl1, hgt, htk, emr1⟩, kit_gen ne7x1 ci7 cy7 su7x1⟩, fun _ => ⟨⟨ega4, egg4, xb4, ehd4, ecl4, hgt, htk, emr4⟩, kit_gen ne7x4 ci7 cy7 su7x4⟩, fun _ => ⟨⟨ega6, egg6, xb6, ehd6, ecl6, hgt, htk, emr6⟩, kit_gen ne7x6 ci7 cy7 su7x6⟩, fun _ => ⟨⟨ega5, egg5, xb5, ehd5, ecl5, hgt, htk, emr5⟩, kit_gen ne7x5 ci7 cy7 su7x5⟩, fun _ => ⟨⟨ega2, egg2, xb2, ehd2, ecl2, hgt, htk, emr2⟩, kit_gen ne7x2 ci7 cy7 su7x2⟩, fun _ => ⟨⟨ega3, egg3, xb3, ehd3, ecl3, hgt, htk, emr3⟩, kit_gen ne7x3 ci7 cy7 su7x3⟩, fun e => absurd e (by decide), fun e => absurd e (by decide), fun e => absurd e (by decide), fun e => absurd e (by decide), fun e => absurd e (by decide), fun e => absurd e (by decide), fun e => absurd e (by decide), fun e => absurd e (by decide), fun e => absurd e (by decide), fun e => absurd e (by decide), fun e => absurd e (by decide), fun e => absurd e (by decide), fun e => absurd e (by decide), fun e => absurd e (by decide), fun e => absurd e (by decide), fun e => absurd e (by decide), fun e => absurd e (by decide), fun e => absurd e (by decide), fun e => absurd e (by decide), fun e => absurd e (by decide), fun e => absurd e (by decide), fun e => absurd e (by decide), fun e => absurd e (by decide), fun e => absurd e (by decide), fun e => absurd e (by decide), fun e => absurd e (by decide), fun e => absurd e (by decide), fun e => absurd e (by decide), fun e => absurd e (by decide), fun e => absurd e (by decide), fun e => absurd e (by decide), fun e => absurd e (by decide), fun e => absurd e (by decide), fun e => absurd e (by decide), fun e => absurd e (by decide), fun e => absurd e (by decide), fun e => absurd e (by decide), fun e => absurd e (by decide), fun e => absurd e (by decide), fun e => absurd e (by decide), fun e => absurd e (by decide), fun e => absurd e (by decide), fun e => absurd e (by decide), fun e => absurd e (by decide), fun e => absurd e (by decide), fun e => absurd e (by decide), fun e => absurd e (by decide), fun e => absurd e (by decide), fun e => absurd e (by decide), trivial⟩ (7, d) b hb rfl⟩, ⟨.ref C1, .ref C1, .own _, rfl, .inl (PySem.W.mg_of X G hC1), fun d b hb => AllP.get (P := fun (p : Nat × Nat) (b : Bool) => p.1 = 1 → ExcC K ((([C0, C1, C2, C3, C4, C5, C6, C7] : List Addr).getD p.2 0)) ∧ PySem.W.kitOne K (.ref ((([C0, C1, C2, C3, C4, C5, C6, C7] : List Addr).getD p.2 0))) (.ref C1 : Value) = some b) (l := xisT) ⟨fun e => absurd e (by decide), fun e => absurd e (by decide), fun e => absurd e (by decide), fun e => absurd e (by decide), fun e => absurd e (by decide), fun e => absurd e (by decide), fun e => absurd e (by decide), fun _ => ⟨⟨ega7, egg7, xb7, ehd7, ecl7, hgt, htk, emr7⟩, kit_gen ne1x7 ci1 cy1 su1x7⟩, fun _ => ⟨⟨ega1, egg1, xb1, ehd1, ecl1, hgt, htk, emr1⟩, kit_self⟩, fun _ => ⟨⟨ega4, egg4, xb4, ehd4, ecl4, hgt, htk, emr4⟩, kit_gen ne1x4 ci1 cy1 su1x4⟩, fun _ => ⟨⟨ega6, egg6, xb6, ehd6, ecl6, hgt, htk, emr6⟩, kit_gen ne1x6 ci1 cy1 su1x6⟩, fun _ => ⟨⟨ega5, egg5, xb5, ehd5, ecl5, hgt, htk, emr5⟩, kit_gen ne1x5 ci1 cy1 su1x5⟩, fun _ => ⟨⟨ega2, egg2, xb2, ehd2, ecl2, hgt, htk, emr2⟩, kit_gen ne1x2 ci1 cy1 su1x2⟩, fun _ => ⟨⟨ega3, egg3, xb3, ehd3, ecl3, hgt, htk, emr3⟩, kit_gen ne1x3 ci1 cy1 su1x3⟩, fun e => absurd e (by decide), fun e => absurd e (by decide), fun e => absurd e (by decide), fun e => absurd e (by decide), fun e => absurd e (by decide), fun e => absurd e (by decide), fun e => absurd e (by decide), fun e => absurd e (by decide), fun e => absurd e (by decide), fun e => absurd e (by decide), fun e => absurd e (by decide), fun e => absurd e (by decide), fun e => absurd e (by decide), fun e => absurd e (by decide), fun e => absurd e (by decide), fun e => absurd e (by decide), fun e => absurd e (by decide), fun e => absurd e (by decide), fun e => absurd e (by decide), fun e => absurd e (by decide), fun e => absurd e (by decide), fun e => absurd e (by decide), fun e => absurd e (by decide), fun e => absurd e (by decide), fun e => absurd e (by decide), fun e => absurd e (by decide), fun e => absurd e (by decide), fun e => absurd e (by decide), fun e => absurd e (by decide), fun e => absurd e (by decide), fun e => absurd e (by decide), fun e => absurd e (by decide), fun e => absurd e (by decide), fun e => absurd e (by decide), fun e => absurd e (by decide), fun e => absurd e (by decide), fun e => absurd e (by decide), fun e => absurd e (by decide), fun e => absurd e (by decide), fun e => absurd e (by decide), fun e => absurd e (by decide), fun e => absurd e (by decide), trivial⟩ (1, d) b hb rfl⟩, ⟨.ref C4, .ref C4, .own _, rfl, .inl (PySem.W.mg_of X G hC4), fun d b hb => AllP.get (P := fun (p : Nat × Nat) (b : Bool) => p.1 = 4 → ExcC K ((([C0, C1, C2, C3, C4, C5, C6, C7] : List Addr).getD p.2 0)) ∧ PySem.W.kitOne K (.ref ((([C0, C1, C2, C3, C4, C5, C6, C7] : List Addr).getD p.2 0))) (.ref C4 : Value) = some b) (l := xisT) ⟨fun e => absurd e (by decide), fun e => absurd e (by decide), fun e => absurd e (by decide), fun e => absurd e (by decide), fun e => absurd e (by decide), fun e => absurd e (by decide), fun e => absurd e (by decide), fun e => absurd e (by decide), fun e => absurd e (by decide), fun e => absurd e (by decide), fun e => absurd e (by decide), fun e => absurd e (by decide), fun e => absurd e (by decide), fun e => absurd e (by decide), fun _ => ⟨⟨ega7, egg7, xb7, ehd7, ecl7, hgt, htk, emr7⟩, kit_gen ne4x7 ci4 cy4 su4x7⟩, fun _ => ⟨⟨ega1, egg1, xb1, ehd1, ecl1, hgt, htk, emr1⟩, kit_gen ne4x1 ci4 cy4 su4x1⟩, fun _ => ⟨⟨ega4, egg4, xb4, ehd4, ecl4, hgt, htk, emr4⟩, kit_self⟩, fun _ => ⟨⟨ega6, egg6, xb6, ehd6, ecl6, hgt, htk, emr6⟩, kit_gen ne4x6 ci4 cy4 su4x6⟩, fun _ => ⟨⟨ega5, egg5, xb5, ehd5, ecl5, hgt, htk, emr5⟩, kit_gen ne4x5 ci4 cy4 su4x5⟩, fun _ => ⟨⟨ega2, egg2, xb2, ehd2, ecl2, hgt, htk, emr2⟩, kit_gen ne4x2 ci4 cy4 su4x2⟩, fun _ => ⟨⟨ega3, egg3, xb3, ehd3, ecl3, hgt, htk, emr3⟩, kit_gen ne4x3 ci4 cy4 su4x3⟩, fun e => absurd e (by decide), fun e => absurd e (by decide), fun e => absurd e (by decide), fun e => absurd e (by decide), fun e => absurd e (by decide), fun e => absurd e (by decide), fun e => absurd e (by decide), fun e => absurd e (by decide), fun e => absurd e (by decide), fun e => absurd e (by decide), fun e => absurd e (by decide), fun e => absurd e (by decide), fun e => absurd e (by decide), fun e => absurd e (by decide), fun e => absurd e (by decide), fun e => absurd e (by decide), fun e => absurd e (by decide), fun e => absurd e (by decide), fun e => absurd e (by decide), fun e => absurd e (by decide), fun e => absurd e (by decide), fun e => absurd e (by decide), fun e => absurd e (by decide), fun e => absurd e (by decide), fun e => absurd e (by decide), fun e => absurd e (by decide), fun e => absurd e (by decide), fun e => absurd e (by decide), fun e => absurd e (by decide), fun e => absurd e (by decide), fun e => absurd e (by decide), fun e => absurd e (by decide), fun e => absurd e (by decide), fun e => absurd e (by decide), fun e => absurd e (by decide), trivial⟩ (4, d) b hb rfl⟩, ⟨.ref C6, .ref C6, .own _, rfl, .inl (PySem.W.mg_of X G hC6), fun d b hb => AllP.get (P := fun (p : Nat × Nat) (b : Bool) => p.1 = 6 → ExcC K ((([C0, C1, C2, C3, C4, C5, C6, C7] : List Addr).getD p.2 0)) ∧ PySem.W.kitOne K (.ref ((([C0, C1, C2, C3, C4, C5, C6, C7] : List Addr).getD p.2 0))) (.ref C6 : Value) = some b) (l := xisT) ⟨fun e => absurd e (by decide), fun e => absurd e (by decide), fun e => absurd e (by decide), fun e => absurd e (by decide), fun e => absurd e (by decide), fun e => absurd e (by decide), fun e => absurd e (by decide), fun e => absurd e (by decide), fun e => absurd e (by decide), fun e => absurd e (by decide), fun e => absurd e (by decide), fun e => absurd e (by decide), fun e => absurd e (by decide), fun e => absurd e (by decide), fun e => absurd e (by decide), fun e => absurd e (by decide), fun e => absurd e (by decide), fun e => absurd e (by decide), fun e => absurd e (by decide), fun e => absurd e (by decide), fun e => absurd e (by decide), fun _ => ⟨⟨ega7, egg7, xb7, ehd7, ecl7, hgt, htk, emr7⟩, kit_gen ne6x7 ci6 cy6 su6x7⟩, fun _ => ⟨⟨ega1, egg1, xb1, ehd1, ecl1, hgt, htk, emr1⟩, kit_gen ne6x1 ci6 cy6 su6x1⟩, fun _ => ⟨⟨ega4, egg4, xb4, ehd4, ecl4, hgt, htk, emr4⟩, kit_gen ne6x4 ci6 cy6 su6x4⟩, fun _ => ⟨⟨ega6, egg6, xb6, ehd6, ecl6, hgt, htk, emr6⟩, kit_self⟩, fun _ => ⟨⟨ega5, egg5, xb5, ehd5, ecl5, hgt, htk, emr5⟩, kit_gen ne6x5 ci6 cy6 su6x5⟩, fun _ => ⟨⟨ega2, egg2, xb2, ehd2, ecl2, hgt, htk, emr2⟩, kit_gen ne6x2 ci6 cy6 su6x2⟩, fun _ => ⟨⟨ega3, egg3, xb3, ehd3, ecl3, hgt, htk, emr3⟩, kit_gen ne6x3 ci6 cy6 su6x3⟩, fun e => absurd e (by decide), fun e => absurd e (by decide), fun e => absurd e (by decide), fun e => absurd e (by decide), fun e => absurd e (by decide), fun e => absurd e (by decide), fun e => absurd e (by decide), fun e => absurd e (by decide), fun e => absurd e (by decide), fun e => absurd e (by decide), fun e => absurd e (by decide), fun e => absurd e (by decide), fun e => absurd e (by decide), fun e => absurd e (by decide), fun e => absurd e (by decide), fun e => absurd e (by decide), fun e => absurd e (by decide), fun e => absurd e (by decide), fun e => absurd e (by decide), fun e => absurd e (by decide), fun e => absurd e (by decide), fun e => absurd e (by decide), fun e => absurd e (by decide), fun e => absurd e (by decide), fun e => absurd e (by decide), fun e => absurd e (by decide), fun e => absurd e (by decide), fun e => absurd e (by decide), trivial⟩ (6, d) b hb rfl⟩, ⟨.ref C5, .ref C5, .own _, rfl, .inl (PySem.W.mg_of X G hC5), fun d b hb => AllP.get (P := fun (p : Nat × Nat) (b : Bool) => p.1 = 5 → ExcC K ((([C0, C1, C2, C3, C4, C5, C6, C7] : List Addr).getD p.2 0)) ∧ PySem.W.kitOne K (.ref ((([C0, C1, C2, C3, C4, C5, C6, C7] : List Addr).getD p.2 0))) (.ref C5 : Value) = some b) (l := xisT) ⟨fun e => absurd e (by decide), fun e => absurd e (by decide), fun e => absurd e (by decide), fun e => absurd e (by decide), fun e => absurd e (by decide), fun e => absurd e (by decide), fun e => absurd e (by decide), fun e => absurd e (by decide), fun e => absurd e (by decide), fun e => absurd e (by decide), fun e => absurd e (by decide), fun e => absurd e (by decide), fun e => absurd e (by decide), fun e => absurd e (by decide), fun e => absurd e (by decide), fun e => absurd e (by decide), fun e => absurd e (by decide), fun e => absurd e (by decide), fun e => absurd e (by decide), fun e => absurd e (by decide), fun e => absurd e (by decide), fun e => absurd e (by decide), fun e => absurd e (by decide), fun e => absurd e (by decide), fun e => absurd e (by decide), fun e => absurd e (by decide), fun e => absurd e (by decide), fun e => absurd e (by decide), fun _ => ⟨⟨ega7, egg7, xb7, ehd7, ecl7, hgt, htk, emr7⟩, kit_gen ne5x7 ci5 cy5 su5x7⟩, fun _ => ⟨⟨ega1, egg1, xb1, ehd1, ecl1, hgt, htk, emr1⟩, kit_gen ne5x1 ci5 cy5 su5x1⟩, fun _ => ⟨⟨ega4, egg4, xb4, ehd4, ecl4, hgt, htk, emr4⟩, kit_gen ne5x4 ci5 cy5 su5x4⟩, fun _ => ⟨⟨ega6, egg6, xb6, ehd6, ecl6, hgt, htk, emr6⟩, kit_gen ne5x6 ci5 cy5 su5x6⟩, fun _ => ⟨⟨ega5, egg5, xb5, ehd5, ecl5, hgt, htk, emr5⟩, kit_self⟩, fun _ => ⟨⟨ega2, egg2, xb2, ehd2, ecl2, hgt, htk, emr2⟩, kit_gen ne5x2 ci5 cy5 su5x2⟩, fun _ => ⟨⟨ega3, egg3, xb3, ehd3, ecl3, hgt, htk, emr3⟩, kit_gen ne5x3 ci5 cy5 su5x3⟩, fun e => absurd e (by decide), fun e => absurd e (by decide), fun e => absurd e (by decide), fun e => absurd e (by decide), fun e => absurd e (by decide), fun e => absurd e (by decide), fun e => absurd e (by decide), fun e => absurd e (by decide), fun e => absurd e (by decide), fun e => absurd e (by decide), fun e => absurd e (by decide), fun e => absurd e (by decide), fun e => absurd e (by decide), fun e => absurd e (by decide), fun e => absurd e (by decide), fun e => absurd e (by decide), fun e => absurd e (by decide), fun e => absurd e (by decide), fun e => absurd e (by decide), fun e => absurd e (by decide), fun e => absurd e (by decide), trivial⟩ (5, d) b hb rfl⟩, ⟨.ref C2, .ref C2, .own _, rfl, .inl (PySem.W.mg_of X G hC2), fun d b hb => AllP.get (P := fun (p : Nat × Nat) (b : Bool) => p.1 = 2 → ExcC K ((([C0, C1, C2, C3, C4, C5, C6, C7] : List Addr).getD p.2 0)) ∧ PySem.W.kitOne K (.ref ((([C0, C1, C2, C3, C4, C5, C6, C7] : List Addr).getD p.2 0))) (.ref C2 : Value) = some b) (l := xisT) ⟨fun e => absurd e (by decide), fun e => absurd e (by decide), fun e => absurd e (by decide), fun e => absurd e (by decide), fun e => absurd e (by decide), fun e => absurd e (by decide), fun e => absurd e (by decide), fun e => absurd e (by decide), fun e => absurd e (by decide), fun e => absurd e (by decide), fun e => absurd e (by decide), fun e => absurd e (by decide), fun e => absurd e (by decide), fun e => absurd e (by decide), fun e => absurd e (by decide), fun e => absurd e (by decide), fun e => absurd e (by decide), fun e => absurd e (by decide), fun e => absurd e (by decide), fun e => absurd e (by decide), fun e => absurd e (by decide), fun e => absurd e (by decide), fun e => absurd e (by decide), fun e => absurd e (by decide), fun e => absurd e (by decide), fun e => absurd e (by decide), fun e => absurd e (by decide), fun e => absurd e (by decide), fun e => absurd e (by decide), fun e => absurd e (by decide), fun e => absurd e (by decide), fun e => absurd e (by decide), fun e => absurd e (by decide), fun e => absurd e (by decide), fun e => absurd e (by decide), fun _ => ⟨⟨ega7, egg7, xb7, ehd7, ecl7, hgt, htk, emr7⟩, kit_gen ne2x7 ci2 cy2 su2x7⟩, fun _ => ⟨⟨ega1, egg1, xb1, ehd1, ecl1, hgt, htk, emr1⟩, kit_gen ne2x1 ci2 cy2 su2x1⟩, fun _ => ⟨⟨ega4, egg4, xb4, ehd4, ecl4, hgt, htk, emr4⟩, kit_gen ne2x4 ci2 cy2 su2x4⟩, fun _ => ⟨⟨ega6, egg6, xb6, ehd6, ecl6, hgt, htk, emr6⟩, kit_gen ne2x6 ci2 cy2 su2x6⟩, fun _ => ⟨⟨ega5, egg5, xb5, ehd5, ecl5, hgt, htk, emr5⟩, kit_gen ne2x5 ci2 cy2 su2x5⟩, fun _ => ⟨⟨ega2, egg2, xb2, ehd2, ecl2, hgt, htk, emr2⟩, kit_self⟩, fun _ => ⟨⟨ega3, egg3, xb3, ehd3, ecl3, hgt, htk, emr3⟩, kit_gen ne2x3 ci2 cy2 su2x3⟩, fun e => absurd e (by decide), fun e => absurd e (by decide), fun e => absurd e (by decide), fun e => absurd e (by decide), fun e => absurd e (by decide), fun e => absurd e (by decide), fun e => absurd e (by decide), fun e => absurd e (by decide), fun e => absurd e (by decide), fun e => absurd e (by decide), fun e => absurd e (by decide), fun e => absurd e (by decide), fun e => absurd e (by decide), fun e => absurd e (by decide), trivial⟩ (2, d) b hb rfl⟩, ⟨.ref C3, .ref C3, .own _, rfl, .inl (PySem.W.mg_of X G hC3), fun d b hb => AllP.get (P := fun (p : Nat × Nat) (b : Bool) => p.1 = 3 → ExcC K ((([C0, C1, C2, C3, C4, C5, C6, C7] : List Addr).getD p.2 0)) ∧ PySem.W.kitOne K (.ref ((([C0, C1, C2, C3, C4, C5, C6, C7] : List Addr).getD p.2 0))) (.ref C3 : Value) = some b) (l := xisT) ⟨fun e => absurd e (by decide), fun e => absurd e (by decide), fun e => absurd e (by decide), fun e => absurd e (by decide), fun e => absurd e (by decide), fun e => absurd e (by decide), fun e => absurd e (by decide), fun e => absurd e (by decide), fun e => absurd e (by decide), fun e => absurd e (by decide), fun e => absurd e (by decide), fun e => absurd e (by decide), fun e => absurd e (by decide), fun e => absurd e (by decide), fun e => absurd e (by decide), fun e => absurd e (by decide), fun e => absurd e (by decide), fun e => absurd e (by decide), fun e => absurd e (by decide), fun e => absurd e (by decide), fun e => absurd e (by decide), fun e => absurd e (by decide), fun e => absurd e (by decide), fun e => absurd e (by decide), fun e => absurd e (by decide), fun e => absurd e (by decide), fun e => absurd e (by decide), fun e => absurd e (by decide), fun e => absurd e (by decide), fun e => absurd e (by decide), fun e => absurd e (by decide), fun e => absurd e (by decide), fun e => absurd e (by decide), fun e => absurd e (by decide), fun e => absurd e (by decide), fun e => absurd e (by decide), fun e => absurd e (by decide), fun e => absurd e (by decide), fun e => absurd e (by decide), fun e => absurd e (by decide), fun e => absurd e (by decide), fun e => absurd e (by decide), fun _ => ⟨⟨ega7, egg7, xb7, ehd7, ecl7, hgt, htk, emr7⟩, kit_gen ne3x7 ci3 cy3 su3x7⟩, fun _ => ⟨⟨ega1, egg1, xb1, ehd1, ecl1, hgt, htk, emr1⟩, kit_gen ne3x1 ci3 cy3 su3x1⟩, fun _ => ⟨⟨ega4, egg4, xb4, ehd4, ecl4, hgt, htk, emr4⟩, kit_gen ne3x4 ci3 cy3 su3x4⟩, fun _ => ⟨⟨ega6, egg6, xb6, ehd6, ecl6, hgt, htk, emr6⟩, kit_gen ne3x6 ci3 cy3 su3x6⟩, fun _ => ⟨⟨ega5, egg5, xb5, ehd5, ecl5, hgt, htk, emr5⟩, kit_gen ne3x5 ci3 cy3 su3x5⟩, fun _ => ⟨⟨ega2, egg2, xb2, ehd2, ecl2, hgt, htk, emr2⟩, kit_gen ne3x2 ci3 cy3 su3x2⟩, fun _ => ⟨⟨ega3, egg3, xb3, ehd3, ecl3, hgt, htk, emr3⟩, kit_self⟩, fun e => absurd e (by decide), fun e => absurd e (by decide), fun e => absurd e (by decide), fun e => absurd e (by decide), fun e => absurd e (by decide), fun e => absurd e (by decide), fun e => absurd e (by decide), trivial⟩ (3, d) b hb rfl⟩, ⟨.ty _, _, .ty "ValueError", rfl, .inr ⟨PySem.W.mg_none_of X G z0, by decide +kernel, by decide +kernel⟩, fun d b hb => AllP.get (P := fun (p : Nat × Nat) (b : Bool) => p.1 = 1000 → ExcC K ((([C0, C1, C2, C3, C4, C5, C6, C7] : List Addr).getD p.2 0)) ∧ PySem.W.kitOne K (.ref ((([C0, C1, C2, C3, C4, C5, C6, C7] : List Addr).getD p.2 0))) (.type "ValueError" : Value) = some b) (l := xisT) ⟨fun e => absurd e (by decide), fun e => absurd e (by decide), fun e => absurd e (by decide), fun e => absurd e (by decide), fun e => absurd e (by decide), fun e => absurd e (by decide), fun e => absurd e (by decide), fun e => absurd e (by decide), fun e => absurd e (by decide), fun e => absurd e (by decide), fun e => absurd e (by decide), fun e => absurd e (by decide), fun e => absurd e (by decide), fun e => absurd e (by decide), fun e => absurd e (by decide), fun e => absurd e (by decide), fun e => absurd e (by decide), fun e => absurd e (by decide), fun e => absurd e (by decide), fun e => absurd e (by decide), fun e => absurd e (by decide), fun e => absurd e (by decide), fun e => absurd e (by decide), fun e => absurd e (by decide), fun e => absurd e (by decide), fun e => absurd e (by decide), fun e => absurd e (by decide), fun e => absurd e (by decide), fun e => absurd e (by decide), fun e => absurd e (by decide), fun e => absurd e (by decide), fun e => absurd e (by decide), fun e => absurd e (by decide), fun e => absurd e (by decide), fun e => absurd e (by decide), fun e => absurd e (by decide), fun e => absurd e (by decide), fun e => absurd e (by decide), fun e => absurd e (by decide), fun e => absurd e (by decide), fun e => absurd e (by decide), fun e => absurd e (by decide), fun e => absurd e (by decide), fun e => absurd e (by decide), fun e => absurd e (by decide), fun e => absurd e (by decide), fun e => absurd e (by decide), fun e => absurd e (by decide), fun e => absurd e (by decide), fun _ => ⟨⟨ega7, egg7, xb7, ehd7, ecl7, hgt, htk, emr7⟩, kit_typ (by decide +kernel) sv7⟩, fun _ => ⟨⟨ega1, egg1, xb1, ehd1, ecl1, hgt, htk, emr1⟩, kit_typ (by decide +kernel) sv1⟩, fun _ => ⟨⟨ega4, egg4, xb4, ehd4, ecl4, hgt, htk, emr4⟩, kit_typ (by decide +kernel) sv4⟩, fun _ => ⟨⟨ega6, egg6, xb6, ehd6, ecl6, hgt, htk, emr6⟩, kit_typ (by decide +kernel) sv6⟩, fun _ => ⟨⟨ega5, egg5, xb5, ehd5, ecl5, hgt, htk, emr5⟩, kit_typ (by decide +kernel) sv5⟩, fun _ => ⟨⟨ega2, egg2, xb2, ehd2, ecl2, hgt, htk, emr2⟩, kit_typ (by decide +kernel) sv2⟩, fun _ => ⟨⟨ega3, egg3, xb3, ehd3, ecl3, hgt, htk, emr3⟩, kit_typ (by decide +kernel) sv3⟩, trivial⟩ (1000, d) b hb rfl⟩, trivial⟩
    exact fun y j hy => A.get y j hy
  case fnh =>
    have A : AllP (fun (x : Str) (f : Nat) => mg x = some (.ref ((fun i => ([f8, f8, f8, f3, f4, f5, f6, f7, f8] : List Addr).getD i 0) f)) ∧ PySem.W.keepIn K (.ref ((fun i => ([f8, f8, f8, f3, f4, f5, f6, f7, f8] : List Addr).getD i 0) f)) = true ∧ L2.Binds K ((fun i => ([(PySem.W.fnOf "law" "law" (defArgs s8) (defBody s8) (defScope s8) .none kV8 dc8 pm8 an8 cd8 ct8), (PySem.W.fnOf "law" "law" (defArgs s8) (defBody s8) (defScope s8) .none kV8 dc8 pm8 an8 cd8 ct8), (PySem.W.fnOf "law" "law" (defArgs s8) (defBody s8) (defScope s8) .none kV8 dc8 pm8 an8 cd8 ct8), (PySem.W.fnOf "_law_cell_at" "_law_cell_at" (defArgs s3) (defBody s3) (defScope s3) .none kV3 dc3 pm3 an3 cd3 ct3), (PySem.W.fnOf "_law_raised" "_law_raised" (defArgs s4) (defBody s4) (defScope s4) .none kV4 dc4 pm4 an4 cd4 ct4), (PySem.W.fnOf "_law_kinds" "_law_kinds" (defArgs s5) (defBody s5) (defScope s5) .none kV5 dc5 pm5 an5 cd5 ct5), (PySem.W.fnOf "_law_fields" "_law_fields" (defArgs s6) (defBody s6) (defScope s6) .none kV6 dc6 pm6 an6 cd6 ct6), (PySem.W.fnOf "_law_taken" "_law_taken" (defArgs s7) (defBody s7) (defScope s7) .none kV7 dc7 pm7 an7 cd7 ct7), (PySem.W.fnOf "law" "law" (defArgs s8) (defBody s8) (defScope s8) .none kV8 dc8 pm8 an8 cd8 ct8)] : List FuncData).getD i (PySem.W.fnOf "law" "law" (defArgs s8) (defBody s8) (defScope s8) .none kV8 dc8 pm8 an8 cd8 ct8)) f) ((fun i => ([P8, P8, P8, P3, P4, P5, P6, P7, P8] : List (List Str)).getD i []) f) [] ∧ ∃ d, D[f]? = some d ∧ DefOkH K Z T d ((fun i => ([f8, f8, f8, f3, f4, f5, f6, f7, f8] : List Addr).getD i 0) f) ((fun i => ([(PySem.W.fnOf "law" "law" (defArgs s8) (defBody s8) (defScope s8) .none kV8 dc8 pm8 an8 cd8 ct8), (PySem.W.fnOf "law" "law" (defArgs s8) (defBody s8) (defScope s8) .none kV8 dc8 pm8 an8 cd8 ct8), (PySem.W.fnOf "law" "law" (defArgs s8) (defBody s8) (defScope s8) .none kV8 dc8 pm8 an8 cd8 ct8), (PySem.W.fnOf "_law_cell_at" "_law_cell_at" (defArgs s3) (defBody s3) (defScope s3) .none kV3 dc3 pm3 an3 cd3 ct3), (PySem.W.fnOf "_law_raised" "_law_raised" (defArgs s4) (defBody s4) (defScope s4) .none kV4 dc4 pm4 an4 cd4 ct4), (PySem.W.fnOf "_law_kinds" "_law_kinds" (defArgs s5) (defBody s5) (defScope s5) .none kV5 dc5 pm5 an5 cd5 ct5), (PySem.W.fnOf "_law_fields" "_law_fields" (defArgs s6) (defBody s6) (defScope s6) .none kV6 dc6 pm6 an6 cd6 ct6), (PySem.W.fnOf "_law_taken" "_law_taken" (defArgs s7) (defBody s7) (defScope s7) .none kV7 dc7 pm7 an7 cd7 ct7), (PySem.W.fnOf "law" "law" (defArgs s8) (defBody s8) (defScope s8) .none kV8 dc8 pm8 an8 cd8 ct8)] : List FuncData).getD i (PySem.W.fnOf "law" "law" (defArgs s8) (defBody s8) (defScope s8) .none kV8 dc8 pm8 an8 cd8 ct8)) f) ((fun i => ([P8, P8, P8, P3, P4, P5, P6, P7, P8] : List (List Str)).getD i []) f)) Z.hfn := ⟨⟨PySem.W.mg_of X G a5, k5, B5, _, rfl, ⟨_, _, s5, N5, F5, ckh5⟩⟩, trivial⟩
    exact fun x f hx => A.get x f hx
  case xrs =>
    have A : AllQ (fun c => ∃ l fI fd ps, T.xf c = some l ∧ l.length ≤ 10 ∧ OexC K ((([C0, C1, C2, C3, C4, C5, C6, C7] : List Addr).getD c 0)) ∧ (∀ f ∈ l, PySem.W.findIn K (.ref ((([C0, C1, C2, C3, C4, C5, C6, C7] : List Addr).getD c 0))) (NM.getD f Str.empty) = some none ∧ f < NM.length) ∧ PySem.W.findIn K (.ref ((([C0, C1, C2, C3, C4, C5, C6, C7] : List Addr).getD c 0))) "__init__" = some (some (.ref fI)) ∧ PySem.W.typeIn K (.ref fI) = some (.type "function") ∧ (∀ (P : Program) (w : World) (base : Heap), FnOk P w K mg base (L2N.CX P w) 1 fI fd ps (spInit K ((([C0, C1, C2, C3, C4, C5, C6, C7] : List Addr).getD c 0)) (l.map fun f => NM.getD f Str.empty))) ∧ L2.Binds K fd ps []) Z.xrs := ⟨⟨[2], f2, _, _, rfl, by decide, ⟨⟨_, _, _, _, _, _, _, _, _, _, _, _, _, _, _, xo7, xr7⟩, esa7, xb7, xt7, xk7⟩, fun f hf => AllQ.mem (P := fun f => PySem.W.findIn K (.ref C7) (NM.getD f Str.empty) = some none ∧ f < NM.length) (l := [2]) ⟨⟨xno7x2, by decide⟩, trivial⟩ f hf, a2, eq_of_beq i2, fun P w base => fn_init l2 c2 (scOk_ok scI2) ckI2 (PySem.W.mg_of X G hC0) ⟨wrd0, wga0⟩ wci0, Binds.all (ps := "self" :: ["place"]) fun us hl => match us, hl with | [_, _], _ => rfl⟩, ⟨[0, 1], f1, _, _, rfl, by decide, ⟨⟨_, _, _, _, _, _, _, _, _, _, _, _, _, _, _, xo6, xr6⟩, esa6, xb6, xt6, xk6⟩, fun f hf => AllQ.mem (P := fun f => PySem.W.findIn K (.ref C6) (NM.getD f Str.empty) = some none ∧ f < NM.length) (l := [0, 1]) ⟨⟨xno6x0, by decide⟩, ⟨xno6x1, by decide⟩, trivial⟩ f hf, a1, eq_of_beq i1, fun P w base => fn_init l1 c1 (scOk_ok scI1) ckI1 (PySem.W.mg_of X G hC0) ⟨wrd0, wga0⟩ wci0, Binds.all (ps := "self" :: ["line", "word"]) fun us hl => match us, hl with | [_, _, _], _ => rfl⟩, ⟨[0], f0, _, _, rfl, by decide, ⟨⟨_, _, _, _, _, _, _, _, _, _, _, _, _, _, _, xo5, xr5⟩, esa5, xb5, xt5, xk5⟩, fun f hf => AllQ.mem (P := fun f => PySem.W.findIn K (.ref C5) (NM.getD f Str.empty) = some none ∧ f < NM.length) (l := [0]) ⟨⟨xno5x0, by decide⟩, trivial⟩ f hf, a0, eq_of_beq i0, fun P w base => fn_init l0 c0 (scOk_ok scI0) ckI0 (PySem.W.mg_of X G hC0) ⟨wrd0, wga0⟩ wci0, Binds.all (ps := "self" :: ["line"]) fun us hl => match us, hl with | [_, _], _ => rfl⟩, trivial⟩
    exact fun c hc => A.has c hc
end Nw.k16

open PySem PySem.W PyProof.Rows
set_option maxHeartbeats 0 in
theorem PySem.Challenge.cw_nightwatch_k16_refusals_holds : PySem.Challenge.rw_nightwatch_k16_refusals.Holds := by
  w_on; o_law; k_head; (case hw => w_witness2)
  k_fill
  refine Nw.law_walk (l := PySem.Challenge.rw_nightwatch_k16_refusals) (D := Nw.k16.D) (T := Nw.k16.T) (Z := Nw.k16.Z) (iL := 8) (x := "_law_script") 12 ⟨rfl, by decide, by decide⟩ rfl rfl Nw.k16.plain (fun w h Y => PySem.W.kIn_of Y) ?F
  case F =>
    intro w mg fa h KX G hmg
    refine' Nw.k16.facts KX G hmg ?hC0 ?hC1 ?hC2 ?hC3 ?hC4 ?hC5 ?hC6 ?hC7 ?a0 ?i0 ?l0 ?c0 ?k0 ?a1 ?i1 ?l1 ?c1 ?k1 ?a2 ?i2 ?l2 ?c2 ?k2 ?a3 ?l3 ?c3 ?k3 ?a4 ?l4 ?c4 ?k4 ?a5 ?l5 ?c5 ?k5 ?a6 ?l6 ?c6 ?k6 ?a7 ?l7 ?c7 ?k7 ?a8 ?l8 ?c8 ?k8 ?z0 ?z1 ?z2 ?z3 ?xk1 ?xb1 ?xt1 ?xi1 ?xk2 ?xb2 ?xt2 ?xi2 ?xk3 ?xb3 ?xt3 ?xi3 ?xk4 ?xb4 ?xt4 ?xi4 ?ci7 ?cb7 ?cy7 ?ct7x7 ?ct7x1 ?ct7x4 ?ct7x6 ?ct7x5 ?ct7x2 ?ct7x3 ?ci1 ?cb1 ?cy1 ?ct1x7 ?ct1x1 ?ct1x4 ?ct1x6 ?ct1x5 ?ct1x2 ?ct1x3 ?ci4 ?cb4 ?cy4 ?ct4x7 ?ct4x1 ?ct4x4 ?ct4x6 ?ct4x5 ?ct4x2 ?ct4x3 ?ci6 ?cb6 ?cy6 ?ct6x7 ?ct6x1 ?ct6x4 ?ct6x6 ?ct6x5 ?ct6x2 ?ct6x3 ?ci5 ?cb5 ?cy5 ?ct5x7 ?ct5x1 ?ct5x4 ?ct5x6 ?ct5x5 ?ct5x2 ?ct5x3 ?ci2 ?cb2 ?cy2 ?ct2x7 ?ct2x1 ?ct2x4 ?ct2x6 ?ct2x5 ?ct2x2 ?ct2x3 ?ci3 ?cb3 ?cy3 ?ct3x7 ?ct3x1 ?ct3x4 ?ct3x6 ?ct3x5 ?ct3x2 ?ct3x3 ?ci0 ?cb0 ?cy0 ?ct0x7 ?ct0x1 ?ct0x4 ?ct0x6 ?ct0x5 ?ct0x2 ?ct0x3 ?ega1 ?egg1 ?ehd1 ?ecl1 ?emr1 ?ega2 ?egg2 ?ehd2 ?ecl2 ?emr2 ?ega3 ?egg3 ?ehd3 ?ecl3 ?emr3 ?ega4 ?egg4 ?ehd4 ?ecl4 ?emr4 ?xk5 ?xb5 ?xt5 ?ega5 ?egg5 ?ehd5 ?ecl5 ?emr5 ?xo5 ?xr5 ?esa5 ?xno5x0 ?wrd0 ?wga0 ?wci0 ?xk6 ?xb6 ?xt6 ?ega6 ?egg6 ?ehd6 ?ecl6 ?emr6 ?xo6 ?xr6 ?esa6 ?xno6x0 ?xno6x1 ?xk7 ?xb7 ?xt7 ?ega7 ?egg7 ?ehd7 ?ecl7 ?emr7 ?xo7 ?xr7 ?esa7 ?xno7x2 ?hgt ?htk ?su7x1 ?ne7x1 ?su7x4 ?ne7x4 ?su7x6 ?ne7x6 ?su7x5 ?ne7x5 ?su7x2 ?ne7x2 ?su7x3 ?ne7x3 ?su1x7 ?ne1x7 ?su1x4 ?ne1x4 ?su1x6 ?ne1x6 ?su1x5 ?ne1x5 ?su1x2 ?ne1x2 ?su1x3 ?ne1x3 ?su4x7 ?ne4x7 ?su4x1 ?ne4x1 ?su4x6 ?ne4x6 ?su4x5 ?ne4x5 ?su4x2 ?ne4x2 ?su4x3 ?ne4x3 ?su6x7 ?ne6x7 ?su6x1 ?ne6x1 ?su6x4 ?ne6x4 ?su6x5 ?ne6x5 ?su6x2 ?ne6x2 ?su6x3 ?ne6x3 ?su5x7 ?ne5x7 ?su5x1 ?ne5x1 ?su5x4 ?ne5x4 ?su5x6 ?ne5x6 ?su5x2 ?ne5x2 ?su5x3 ?ne5x3 ?su2x7 ?ne2x7 ?su2x1 ?ne2x1 ?su2x4 ?ne2x4 ?su2x6 ?ne2x6 ?su2x5 ?ne2x5 ?su2x3 ?ne2x3 ?su3x7 ?ne3x7 ?su3x1 ?ne3x1 ?su3x4 ?ne3x4 ?su3x6 ?ne3x6 ?su3x5 ?ne3x5 ?su3x2 ?ne3x2 ?sv7 ?sv1 ?sv4 ?sv6 ?sv5 ?sv2 ?sv3
    (case hC0 => k_is)
    (case hC1 => k_is)
    (case hC2 => k_is)
    (case hC3 => k_is)
    (case hC4 => k_is)
    (case hC5 => k_is)
    (case hC6 => k_is)
    (case hC7 => k_is)
    (case a0 => k_is)
    (case i0 => k_is)
    (case l0 => k_is)
    (case c0 => k_is)
    (case k0 => k_is)
    (case a1 => k_is)
    (case i1 => k_is)
    (case l1 => k_is)
    (case c1 => k_is)
    (case k1 => k_is)
    (case a2 => k_is)
    (case i2 => k_is)
    (case l2 => k_is)
    (case c2 => k_is)
    (case k2 => k_is)
    (case a3 => k_is)
    (case l3 => k_is)
    (case c3 => k_is)
    (case k3 => k_is)
    (case a4 => k_is)
    (case l4 => k_is)
    (case c4 => k_is)
    (case k4 => k_is)
    (case a5 => k_is)
    (case l5 => k_is)
    (case c5 => k_is)
    (case k5 => k_is)
    (case a6 => k_is)
    (case l6 => k_is)
    (case c6 => k_is)
    (case k6 => k_is)
    (case a7 => k_is)
    (case l7 => k_is)
    (case c7 => k_is)
    (case k7 => k_is)
    (case a8 => k_is)
    (case l8 => k_is)
    (case c8 => k_is)
    (case k8 => k_is)
    (case z0 => k_is)
    (case z1 => k_is)
    (case z2 => k_is)
    (case z3 => k_is)
    (case xk1 => k_is)
    (case xb1 => k_is)
    (case xt1 => k_is)
    (case xi1 => k_exc)
    (case xk2 => k_is)
    (case xb2 => k_is)
    (case xt2 => k_is)
    (case xi2 => k_exc)
    (case xk3 => k_is)
    (case xb3 => k_is)
    (case xt3 => k_is)
    (case xi3 => k_exc)
    (case xk4 => k_is)
    (case xb4 => k_is)
    (case xt4 => k_is)
    (case xi4 => k_exc)
    (case ci7 => k_is)
    (case cb7 => k_is)
    (case cy7 => k_is)
    (case ct7x7 => first | rfl | k_is)
    (case ct7x1 => first | rfl | k_is)
    (case ct7x4 => first | rfl | k_is)
    (case ct7x6 => first | rfl | k_is)
    (case ct7x5 => first | rfl | k_is)
    (case ct7x2 => first | rfl | k_is)
    (case ct7x3 => first | rfl | k_is)
    (case ci1 => k_is)
    (case cb1 => k_is)
    (case cy1 => k_is)
    (case ct1x7 => first | rfl | k_is)
    (case ct1x1 => first | rfl | k_is)
    (case ct1x4 => first | rfl | k_is)
    (case ct1x6 => first | rfl | k_is)
    (case ct1x5 => first | rfl | k_is)
    (case ct1x2 => first | rfl | k_is)
    (case ct1x3 => first | rfl | k_is)
    (case ci4 => k_is)
    (case cb4 => k_is)
    (case cy4 => k_is)
    (case ct4x7 => first | rfl | k_is)
    (case ct4x1 => first | rfl | k_is)
    (case ct4x4 => first | rfl | k_is)
    (case ct4x6 => first | rfl | k_is)
    (case ct4x5 => first | rfl | k_is)
    (case ct4x2 => first | rfl | k_is)
    (case ct4x3 => first | rfl | k_is)
    (case ci6 => k_is)
    (case cb6 => k_is)
    (case cy6 => k_is)
    (case ct6x7 => first | rfl | k_is)
    (case ct6x1 => first | rfl | k_is)
    (case ct6x4 => first | rfl | k_is)
    (case ct6x6 => first | rfl | k_is)
    (case ct6x5 => first | rfl | k_is)
    (case ct6x2 => first | rfl | k_is)
    (case ct6x3 => first | rfl | k_is)
    (case ci5 => k_is)
    (case cb5 => k_is)
    (case cy5 => k_is)
    (case ct5x7 => first | rfl | k_is)
    (case ct5x1 => first | rfl | k_is)
    (case ct5x4 => first | rfl | k_is)
    (case ct5x6 => first | rfl | k_is)
    (case ct5x5 => first | rfl | k_is)
    (case ct5x2 => first | rfl | k_is)
    (case ct5x3 => first | rfl | k_is)
    (case ci2 => k_is)
    (case cb2 => k_is)
    (case cy2 => k_is)
    (case ct2x7 => first | rfl | k_is)
    (case ct2x1 => first | rfl | k_is)
    (case ct2x4 => first | rfl | k_is)
    (case ct2x6 => first | rfl | k_is)
    (case ct2x5 => first | rfl | k_is)
    (case ct2x2 => first | rfl | k_is)
    (case ct2x3 => first | rfl | k_is)
    (case ci3 => k_is)
    (case cb3 => k_is)
    (case cy3 => k_is)
    (case ct3x7 => first | rfl | k_is)
    (case ct3x1 => first | rfl | k_is)
    (case ct3x4 => first | rfl | k_is)
    (case ct3x6 => first | rfl | k_is)
    (case ct3x5 => first | rfl | k_is)
    (case ct3x2 => first | rfl | k_is)
    (case ct3x3 => first | rfl | k_is)
    (case ci0 => k_is)
    (case cb0 => k_is)
    (case cy0 => k_is)
    (case ct0x7 => first | rfl | k_is)
    (case ct0x1 => first | rfl | k_is)
    (case ct0x4 => first | rfl | k_is)
    (case ct0x6 => first | rfl | k_is)
    (case ct0x5 => first | rfl | k_is)
    (case ct0x2 => first | rfl | k_is)
    (case ct0x3 => first | rfl | k_is)
    (case ega1 => k_is)
    (case egg1 => k_is)
    (case ehd1 => k_is)
    (case ecl1 => k_is)
    (case emr1 => k_is)
    (case ega2 => k_is)
    (case egg2 => k_is)
    (case ehd2 => k_is)
    (case ecl2 => k_is)
    (case emr2 => k_is)
    (case ega3 => k_is)
    (case egg3 => k_is)
    (case ehd3 => k_is)
    (case ecl3 => k_is)
    (case emr3 => k_is)
    (case ega4 => k_is)
    (case egg4 => k_is)
    (case ehd4 => k_is)
    (case ecl4 => k_is)
    (case emr4 => k_is)
    (case xk5 => k_is)
    (case xb5 => k_is)
    (case xt5 => k_is)
    (case ega5 => k_is)
    (case egg5 => k_is)
    (case ehd5 => k_is)
    (case ecl5 => k_is)
    (case emr5 => k_is)
    (case xo5 => k_is)
    (case xr5 => decide +kernel)
    (case esa5 => k_is)
    (case xno5x0 => k_is)
    (case wrd0 => k_is)
    (case wga0 => k_is)
    (case wci0 => k_is)
    (case xk6 => k_is)
    (case xb6 => k_is)
    (case xt6 => k_is)
    (case ega6 => k_is)
    (case egg6 => k_is)
    (case ehd6 => k_is)
    (case ecl6 => k_is)
    (case emr6 => k_is)
    (case xo6 => k_is)
    (case xr6 => decide +kernel)
    (case esa6 => k_is)
    (case xno6x0 => k_is)
    (case xno6x1 => k_is)
    (case xk7 => k_is)
    (case xb7 => k_is)
    (case xt7 => k_is)
    (case ega7 => k_is)
    (case egg7 => k_is)
    (case ehd7 => k_is)
    (case ecl7 => k_is)
    (case emr7 => k_is)
    (case xo7 => k_is)
    (case xr7 => decide +kernel)
    (case esa7 => k_is)
    (case xno7x2 => k_is)
    (case hgt => k_is)
    (case htk => k_is)
    (case su7x1 => first | rfl | k_is)
    (case ne7x1 => first | rfl | k_is)
    (case su7x4 => first | rfl | k_is)
    (case ne7x4 => first | rfl | k_is)
    (case su7x6 => first | rfl | k_is)
    (case ne7x6 => first | rfl | k_is)
    (case su7x5 => first | rfl | k_is)
    (case ne7x5 => first | rfl | k_is)
    (case su7x2 => first | rfl | k_is)
    (case ne7x2 => first | rfl | k_is)
    (case su7x3 => first | rfl | k_is)
    (case ne7x3 => first | rfl | k_is)
    (case su1x7 => first | rfl | k_is)
    (case ne1x7 => first | rfl | k_is)
    (case su1x4 => first | rfl | k_is)
    (case ne1x4 => first | rfl | k_is)
    (case su1x6 => first | rfl | k_is)
    (case ne1x6 => first | rfl | k_is)
    (case su1x5 => first | rfl | k_is)
    (case ne1x5 => first | rfl | k_is)
    (case su1x2 => first | rfl | k_is)
    (case ne1x2 => first | rfl | k_is)
    (case su1x3 => first | rfl | k_is)
    (case ne1x3 => first | rfl | k_is)
    (case su4x7 => first | rfl | k_is)
    (case ne4x7 => first | rfl | k_is)
    (case su4x1 => first | rfl | k_is)
    (case ne4x1 => first | rfl | k_is)
    (case su4x6 => first | rfl | k_is)
    (case ne4x6 => first | rfl | k_is)
    (case su4x5 => first | rfl | k_is)
    (case ne4x5 => first | rfl | k_is)
    (case su4x2 => first | rfl | k_is)
    (case ne4x2 => first | rfl | k_is)
    (case su4x3 => first | rfl | k_is)
    (case ne4x3 => first | rfl | k_is)
    (case su6x7 => first | rfl | k_is)
    (case ne6x7 => first | rfl | k_is)
    (case su6x1 => first | rfl | k_is)
    (case ne6x1 => first | rfl | k_is)
    (case su6x4 => first | rfl | k_is)
    (case ne6x4 => first | rfl | k_is)
    (case su6x5 => first | rfl | k_is)
    (case ne6x5 => first | rfl | k_is)
    (case su6x2 => first | rfl | k_is)
    (case ne6x2 => first | rfl | k_is)
    (case su6x3 => first | rfl | k_is)
    (case ne6x3 => first | rfl | k_is)
    (case su5x7 => first | rfl | k_is)
    (case ne5x7 => first | rfl | k_is)
    (case su5x1 => first | rfl | k_is)
    (case ne5x1 => first | rfl | k_is)
    (case su5x4 => first | rfl | k_is)
    (case ne5x4 => first | rfl | k_is)
    (case su5x6 => first | rfl | k_is)
    (case ne5x6 => first | rfl | k_is)
    (case su5x2 => first | rfl | k_is)
    (case ne5x2 => first | rfl | k_is)
    (case su5x3 => first | rfl | k_is)
    (case ne5x3 => first | rfl | k_is)
    (case su2x7 => first | rfl | k_is)
    (case ne2x7 => first | rfl | k_is)
    (case su2x1 => first | rfl | k_is)
    (case ne2x1 => first | rfl | k_is)
    (case su2x4 => first | rfl | k_is)
    (case ne2x4 => first | rfl | k_is)
    (case su2x6 => first | rfl | k_is)
    (case ne2x6 => first | rfl | k_is)
    (case su2x5 => first | rfl | k_is)
    (case ne2x5 => first | rfl | k_is)
    (case su2x3 => first | rfl | k_is)
    (case ne2x3 => first | rfl | k_is)
    (case su3x7 => first | rfl | k_is)
    (case ne3x7 => first | rfl | k_is)
    (case su3x1 => first | rfl | k_is)
    (case ne3x1 => first | rfl | k_is)
    (case su3x4 => first | rfl | k_is)
    (case ne3x4 => first | rfl | k_is)
    (case su3x6 => first | rfl | k_is)
    (case ne3x6 => first | rfl | k_is)
    (case su3x5 => first | rfl | k_is)
    (case ne3x5 => first | rfl | k_is)
    (case su3x2 => first | rfl | k_is)
    (case ne3x2 => first | rfl | k_is)
    (case sv7 => k_is)
    (case sv1 => k_is)
    (case sv4 => k_is)
    (case sv6 => k_is)
    (case sv5 => k_is)
    (case sv2 => k_is)
    (case sv3 => k_is)
