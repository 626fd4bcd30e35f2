import PyProof.Rows.All
import Wide.All
import OpenK.AllK
import Wide.FinOn
import PyProof.TupleKey
import PyProof.P3Eq
import HandS.ForMost
import HandS.Walk
import HandS.Style
import HandS.Deep
import HandS.Conv
import HandS.TupAny
import HandS.NoneIn
import HandS.Flow
import HandS.IsInst
import HandS.Zip
import HandS.Defaults
import HandS.Wide
import HandS.HeadHook3
import HandS.Nested
import KE.GoesMore
import KE.GoesEnum
import HandS.HeadHook4
import HandS.SortInts
import KE.KTupSum
import KE.DataMinMax
import KE.SortData
import HandS.SortKw
import PyProof.Rows.StrIntSpec
import HandS.FStr
import KE.IntText
import HandS.DictComp
import HandS.Strs
import HandS.WideBits
import KE.SortKeyHeap
import KE.KDictCopyH
import KE.KDictSum
import HandS.TupMul
import PyProof.StrLawsIn
import HandS.Ends
import HandS.More
import HandS.Head0
import HandS.Head1
import HandS.Head2
import HandS.HeadEnd
import HandS.HeadWalk
import PySem.Challenge.RW_gateworks_k56_whole_weights_and_balances
set_option Elab.async false
set_option linter.all false
set_option maxRecDepth 100000
set_option maxHeartbeats 0
/-! The evaluator, part T: nested tuples as keys of dicts. -/
namespace Ev
open PySem PySem.Spec PyProof.Rows L2

inductive D where
  | non | bl (b : Bool) | int (i : Int) | str (x : Str) | tup (xs : List D) | lst (xs : List D)

mutual
def D.beq : D → D → Bool
  | .non, .non => true
  | .bl a, .bl b => a == b
  | .int a, .int b => decide (a = b)
  | .str a, .str b => decide (a = b)
  | .tup a, .tup b => D.beqs a b
  | .lst a, .lst b => D.beqs a b
  | _, _ => false
def D.beqs : List D → List D → Bool
  | [], [] => true
  | a :: as, b :: bs => D.beq a b && D.beqs as bs
  | _, _ => false
end
mutual
theorem D.beq_eq : ∀ {a b : D}, D.beq a b = true → a = b
  | .non, .non, _ => rfl
  | .bl a, .bl b, h => by rw [show a = b from by simpa [D.beq] using h]
  | .int a, .int b, h => by rw [show a = b from by simpa [D.beq] using h]
  | .str a, .str b, h => by rw [show a = b from by simpa [D.beq] using h]
  | .tup a, .tup b, h => by rw [D.beqs_eq (a := a) (b := b) (by simpa [D.beq] using h)]
  | .lst a, .lst b, h => by rw [D.beqs_eq (a := a) (b := b) (by simpa [D.beq] using h)]
  | .non, .bl _, h | .non, .int _, h | .non, .str _, h | .non, .tup _, h | .non, .lst _, h => by simp [D.beq] at h
  | .bl _, .non, h | .bl _, .int _, h | .bl _, .str _, h | .bl _, .tup _, h | .bl _, .lst _, h => by simp [D.beq] at h
  | .int _, .non, h | .int _, .bl _, h | .int _, .str _, h | .int _, .tup _, h | .int _, .lst _, h => by simp [D.beq] at h
  | .str _, .non, h | .str _, .bl _, h | .str _, .int _, h | .str _, .tup _, h | .str _, .lst _, h => by simp [D.beq] at h
  | .tup _, .non, h | .tup _, .bl _, h | .tup _, .int _, h | .tup _, .str _, h | .tup _, .lst _, h => by simp [D.beq] at h
  | .lst _, .non, h | .lst _, .bl _, h | .lst _, .int _, h | .lst _, .str _, h | .lst _, .tup _, h => by simp [D.beq] at h
theorem D.beqs_eq : ∀ {a b : List D}, D.beqs a b = true → a = b
  | [], [], _ => rfl
  | a :: as, b :: bs, h => by
    have h' : D.beq a b = true ∧ D.beqs as bs = true := by simpa [D.beqs] using h
    rw [D.beq_eq h'.1, D.beqs_eq h'.2]
  | [], _ :: _, h => by simp [D.beqs] at h
  | _ :: _, [], h => by simp [D.beqs] at h
end
mutual
theorem D.beq_refl : ∀ a : D, D.beq a a = true
  | .non => by simp [D.beq]
  | .bl a => by simp [D.beq]
  | .int a => by simp [D.beq]
  | .str a => by simp [D.beq]
  | .tup a => by simp [D.beq, D.beqs_refl a]
  | .lst a => by simp [D.beq, D.beqs_refl a]
theorem D.beqs_refl : ∀ a : List D, D.beqs a a = true
  | [] => by simp [D.beqs]
  | a :: as => by simp [D.beqs, D.beq_refl a, D.beqs_refl as]
end
instance : DecidableEq D := fun a b => match h : D.beq a b with
  | true => .isTrue (D.beq_eq h)
  | false => .isFalse fun e => by rw [e, D.beq_refl] at h; cases h

mutual
/-- ints, texts and tuples of such, n deep at most -/
inductive IsK (h : Heap) : Nat → D → Value → Prop
  | int {n : Nat} (i : Int) (t : Tok) : IsK h n (.int i) (.int i t)
  | str {n : Nat} (x : Str) (t : Tok) : PyData.strOk x = true → IsK h n (.str x) (.str x t)
  | tup {n : Nat} {a : Addr} {o : Obj} {items : Array Value} {c : Nat} {ds : List D} : h.get? a = some o → o.cls = .type "tuple" → o.data = .seq items c → IsKs h n ds items.toList → IsK h (n + 1) (.tup ds) (.ref a)
inductive IsKs (h : Heap) : Nat → List D → List Value → Prop
  | nil {n : Nat} : IsKs h n [] []
  | cons {n : Nat} {d : D} {v : Value} {ds : List D} {vs : List Value} : IsK h n d v → IsKs h n ds vs → IsKs h n (d :: ds) (v :: vs)
end
mutual
theorem IsK.inj {h : Heap} : ∀ {n m : Nat} {d e : D} {v : Value}, IsK h n d v → IsK h m e v → d = e
  | _, _, _, _, _, .int i t, q => by cases q; rfl
  | _, _, _, _, _, .str i t _, q => by cases q; rfl
  | _, _, _, _, _, .tup h1 _ h3 r, q => by
    cases q with
    | tup g1 _ g3 q =>
      rw [h1] at g1; cases g1
      rw [h3] at g3; cases g3
      rw [IsKs.inj r q]
theorem IsKs.inj {h : Heap} : ∀ {n m : Nat} {d e : List D} {v : List Value}, IsKs h n d v → IsKs h m e v → d = e
  | _, _, _, _, _, .nil, q => by cases q; rfl
  | _, _, _, _, _, .cons a r, q => by
    cases q with
    | cons b q => rw [IsK.inj a b, IsKs.inj r q]
end
mutual
theorem IsK.keeps {h h' : Heap} (k : ∀ a o its n, h.get? a = some o → o.data = .seq its n → h'.get? a = some o) : ∀ {n : Nat} {d : D} {v : Value}, IsK h n d v → IsK h' n d v
  | _, _, _, .int i t => .int i t
  | _, _, _, .str i t e => .str i t e
  | _, _, _, .tup h1 h2 h3 r => .tup (k _ _ _ _ h1 h3) h2 h3 (IsKs.keeps k r)
theorem IsKs.keeps {h h' : Heap} (k : ∀ a o its n, h.get? a = some o → o.data = .seq its n → h'.get? a = some o) : ∀ {n : Nat} {d : List D} {v : List Value}, IsKs h n d v → IsKs h' n d v
  | _, _, _, .nil => .nil
  | _, _, _, .cons a r => .cons (IsK.keeps k a) (IsKs.keeps k r)
end
mutual
def hashD (w : World) : D → Int
  | .int i => hashInt i
  | .str x => hashStr w x
  | .tup ds => reduceHash (Builtin.Tuple.tupleHashOf (hashDs w ds))
  | _ => 0
def hashDs (w : World) : List D → List Int
  | [] => []
  | d :: ds => hashD w d :: hashDs w ds
end
mutual
def drawsD : D → Nat
  | .tup ds => drawsDs ds + 1
  | _ => 1
def drawsDs : List D → Nat
  | [] => 0
  | d :: ds => drawsD d + drawsDs ds
end
theorem hashDs_append (w : World) : ∀ a b : List D, hashDs w (a ++ b) = hashDs w a ++ hashDs w b
  | [], _ => rfl
  | d :: ds, b => by rw [List.cons_append, hashDs, hashDs, hashDs_append w ds b]; rfl
theorem drawsDs_append : ∀ a b : List D, drawsDs (a ++ b) = drawsDs a + drawsDs b
  | [], b => by simp [drawsDs]
  | d :: ds, b => by rw [List.cons_append, drawsDs, drawsDs, drawsDs_append ds b]; omega

section
variable {prog : Program} {w : World}

theorem pyHash_K : ∀ (n : Nat) {d : D} {v : Value} {A : Around} {E : Value → Shared → Prop} {s : Shared} {Q : Int → Shared → Prop}, A.units + 2 * n < cLine → IsK s.heap n d v → Q (hashD w d) { s with toks := s.toks + drawsD d } →
    wpAny (model prog w) A (pyHash v) Q E s := by
  intro n
  induction n with
  | zero =>
    intro d v A E s Q hu hk h
    cases hk with
    | int i t => exact wpAny_pyHash_int h
    | str x t _ => exact wpAny_pyHash_str h
  | succ n ih =>
    intro d v A E s Q hu hk h
    cases hk with
    | int i t => exact wpAny_pyHash_int h
    | str x t _ => exact wpAny_pyHash_str h
    | @tup _ a o items c ds ho hc hd hi =>
      have hT : s.TypeIs (.ref a) "tuple" := ⟨o, ho, hc⟩
      unfold pyHash
      first | unfold pyHashByItsType | skip
      first | refine wpAny_bind (wpAny_cRoomFor_or (.inr (by omega)) ?_) | skip
      refine wpAny_bind (wpAny_specialOf hT F.slot_tuple_hash.lookup ?_)
      show wpAny _ _ (if (some (Value.builtin "tuple.__hash__") == some Value.none) = true then _ else _) Q E s
      rw [if_neg (by rw [beq_builtin_none]; exact Bool.false_ne_true)]
      refine wpAny_bind (wpAny_specialOf hT F.slot_tuple_hash.lookup ?_)
      show wpAny _ _ (callSpecialIfBoundUnlessNone? (.ref a) "__hash__" _ >>= _) Q E s
      refine wpAny_bind (wpAny_callSpecialIfBoundUnlessNone?_slot hT F.slot_tuple_hash (wpAny_call_entry F.slot_tuple_hash hT F.entry_tuple_hash ?_ (F.args_tuple_hash_1 _)))
      show wpAny _ _ (Builtin.Tuple.tupleItemsOf (.ref a) >>= _) _ _ s
      refine wpAny_bind (wpAny_tupleItemsOf ho hd ?_)
      refine wpAny_bind ?_
      rw [← Array.forIn_toList]
      refine wpAny_forIn_list _
        (fun rest (b : Array Int) s' => ∃ done left, ds = done ++ left ∧ IsKs s.heap n left rest ∧ b.toList = hashDs w done ∧ s' = { s with toks := s.toks + drawsDs done })
        _ ?_ ?_ _ _ ⟨[], ds, rfl, hi, rfl, rfl⟩
      · rintro x rest b s' ⟨done, left, rfl, hl, hb, rfl⟩
        cases hl with
        | @cons _ k _ ks' _ h1 hl' =>
          refine wpAny_bind (ih (by show A.units + 1 + 2 * n < cLine; omega) h1 ?_)
          exact wpAny_pure ⟨done ++ [k], ks', by simp, hl', by simp [hb, hashDs_append, hashDs], by simp [drawsDs_append, drawsDs, Nat.add_assoc]⟩
      · rintro b s' ⟨done, left, rfl, hl, hb, rfl⟩
        cases hl
        rw [List.append_nil] at h
        show wpAny _ _ (retInt (Builtin.Tuple.tupleHashOf b.toList)) _ _ _
        rw [hb]
        refine wpAny_ret_mkInt ?_
        show wpAny _ _ (if (decide (-(2 : Int) ^ 63 ≤ Builtin.Tuple.tupleHashOf (hashDs w done)) && decide (Builtin.Tuple.tupleHashOf (hashDs w done) < 2 ^ 63)) = true then _ else _) Q E _
        simp only [hashD, drawsD] at h
        unfold reduceHash at h
        by_cases hr : (decide (-(2 : Int) ^ 63 ≤ Builtin.Tuple.tupleHashOf (hashDs w done)) && decide (Builtin.Tuple.tupleHashOf (hashDs w done) < 2 ^ 63)) = true
        · rw [if_pos hr]
          rw [if_pos hr] at h
          exact wpAny_pure (by simpa [Nat.add_assoc] using h)
        · rw [if_neg hr]
          rw [if_neg hr] at h
          exact wpAny_bind (wpAny_rule (wpAny_pure (by simpa [Nat.add_assoc] using h)))

mutual
def D.py : D → PyData
  | .non => .none
  | .bl b => .bool b
  | .int i => .int i
  | .str x => .str x
  | .tup ds => .tuple (D.pys ds)
  | .lst ds => .list (D.pys ds)
def D.pys : List D → List PyData
  | [] => []
  | d :: ds => d.py :: D.pys ds
end
mutual
theorem IsK.reads {h : Heap} : ∀ {n : Nat} {d : D} {v : Value}, IsK h n d v → ∃ as, Reads h v d.py as
  | _, _, _, .int i t => ⟨_, by simp only [D.py]; exact Reads.int i t⟩
  | _, _, _, .str x t _ => ⟨_, by simp only [D.py]; exact Reads.str x t⟩
  | _, _, _, .tup h1 h2 h3 r => by
    obtain ⟨as, q⟩ := IsKs.reads r
    exact ⟨_, by simp only [D.py]; exact Reads.tuple h1 h2 h3 q⟩
theorem IsKs.reads {h : Heap} : ∀ {n : Nat} {d : List D} {v : List Value}, IsKs h n d v → ∃ as, ReadsAll h v (D.pys d) as
  | _, _, _, .nil => ⟨_, by simp only [D.pys]; exact ReadsAll.nil⟩
  | _, _, _, .cons a r => by
    obtain ⟨as, q⟩ := IsK.reads a
    obtain ⟨bs, q2⟩ := IsKs.reads r
    exact ⟨_, by simp only [D.pys]; exact ReadsAll.cons q q2⟩
end
mutual
theorem IsK.lay {h : Heap} : ∀ {n : Nat} {d : D} {v : Value}, IsK h n d v → d.py.canLay0 = true ∧ d.py.depth ≤ n
  | _, _, _, .int i t => by simp [D.py, PyData.canLay0, PyData.depth]
  | _, _, _, .str x t e => by simp [D.py, PyData.canLay0, PyData.depth, e]
  | _, _, _, .tup h1 h2 h3 r => by
    have q := IsKs.lay r
    simp only [D.py, PyData.canLay0, PyData.depth]
    exact ⟨q.1, Nat.succ_le_succ q.2⟩
theorem IsKs.lay {h : Heap} : ∀ {n : Nat} {d : List D} {v : List Value}, IsKs h n d v → PyData.canLayAll0 (D.pys d) = true ∧ PyData.depthAll (D.pys d) ≤ n
  | _, _, _, .nil => by simp [D.pys, PyData.canLayAll0, PyData.depthAll]
  | _, _, _, .cons a r => by
    have q := IsK.lay a
    have q2 := IsKs.lay r
    simp only [D.pys, PyData.canLayAll0, PyData.depthAll, Bool.and_eq_true]
    exact ⟨⟨q.1, q2.1⟩, Nat.max_le.mpr ⟨q.2, q2.2⟩⟩
end
mutual
theorem IsK.eqv {h g : Heap} : ∀ {n m : Nat} {d e : D} {v u : Value}, IsK h n d v → IsK g m e u → PyData.eqv d.py e.py = decide (d = e)
  | _, _, _, _, _, _, .int i t, q => by
    cases q <;> simp [D.py, PyData.eqv, Bool.beq_eq_decide_eq]
  | _, _, _, _, _, _, .str x t _, q => by
    cases q <;> simp [D.py, PyData.eqv, Bool.beq_eq_decide_eq]
  | _, _, _, _, _, _, .tup h1 h2 h3 r, q => by
    cases q with
    | int => simp [D.py, PyData.eqv]
    | str => simp [D.py, PyData.eqv]
    | tup g1 g2 g3 q =>
      simp only [D.py, PyData.eqv]
      rw [IsKs.eqv r q]
      simp
theorem IsKs.eqv {h g : Heap} : ∀ {n m : Nat} {d e : List D} {v u : List Value}, IsKs h n d v → IsKs g m e u → PyData.eqvAll (D.pys d) (D.pys e) = decide (d = e)
  | _, _, _, _, _, _, .nil, q => by cases q <;> simp [D.pys, PyData.eqvAll]
  | _, _, _, _, _, _, .cons a r, q => by
    cases q with
    | nil => simp [D.pys, PyData.eqvAll]
    | cons b q =>
      simp only [D.pys, PyData.eqvAll]
      rw [IsK.eqv a b, IsKs.eqv r q]
      simp
end
theorem quiet_K : ∀ (n k : Nat) {d : D} {v : Value} {A : Around} {E : Value → Shared → Prop} {s : Shared} {Q : Bool → Shared → Prop}, n ≤ k → IsK s.heap n d v → Q true s →
    wpAny (model prog w) A (eqIsQuiet k v) Q E s := by
  intro n
  induction n with
  | zero =>
    intro k d v A E s Q hk hx h
    cases hx with
    | int i t => rw [eqIsQuiet_byValue _ rfl]; exact wpAny_pure h
    | str x t _ => rw [eqIsQuiet_byValue _ rfl]; exact wpAny_pure h
  | succ n ih =>
    intro k d v A E s Q hk hx h
    cases hx with
    | int i t => rw [eqIsQuiet_byValue _ rfl]; exact wpAny_pure h
    | str x t _ => rw [eqIsQuiet_byValue _ rfl]; exact wpAny_pure h
    | @tup _ a o items c ds ho hc hd hi =>
      have hT : s.TypeIs (.ref a) "tuple" := ⟨o, ho, hc⟩
      obtain ⟨k, rfl⟩ : ∃ k', k = k' + 1 := ⟨k - 1, by omega⟩
      unfold eqIsQuiet
      refine wpAny_bind (wpAny_specialOf hT F.slot_tuple_eq.lookup ?_)
      show wpAny _ _ (isInstance (.ref a) (.type "tuple") >>= _) _ _ s
      refine wpAny_bind (wpAny_isInstance hT isSubtype_tuple_tuple ?_)
      simp only [Bool.not_true, Bool.false_eq_true, if_false]
      refine wpAny_bind (wpAny_seqItems ho hd ?_)
      refine wpAny_bind ?_
      show wpAny _ _ (forIn items _ _) _ _ s
      rw [← Array.forIn_toList]
      refine wpAny_forIn_list _ (fun rest r s' => r.1 = none ∧ s' = s ∧ ∃ left, IsKs s.heap n left rest) _ ?_ ?_ _ _ ⟨rfl, rfl, _, hi⟩
      · rintro v rest r s' ⟨hr, rfl, left, hall⟩
        cases hall with
        | cons h1 h2 =>
          refine wpAny_bind (ih k (by omega) h1 ?_)
          simp only [Bool.not_true, Bool.false_eq_true, if_false]
          exact wpAny_pure ⟨rfl, rfl, _, h2⟩
      · rintro ⟨r1, r2⟩ s' ⟨hr, rfl, _⟩
        simp only at hr
        subst hr
        exact wpAny_pure h
end

/-- keys that are tuples of ints, texts, tuples, up to eight deep -/
def treeKind (prog : Program) (w : World) : HeapKind prog w D where
  is := fun h d a => IsK h 8 d (.ref a)
  hash := hashD w
  draws := drawsD
  room := fun A => A.units + 32 < cLine
  inj := fun hx hy => IsK.inj hx hy
  keeps := fun {h h' k a d o es ep} x ho hd hs => IsK.keeps (fun b ob its n e1 e2 => by
    refine (hs.2 b ?_).trans e1
    rintro rfl
    rw [ho] at e1; cases e1
    rw [hd] at e2; cases e2) x
  pyHash := fun {A E s k a Q} hu hk h => pyHash_K 8 (by omega) hk h
  eqBool := fun {A E s x y a b Q} hu hx hy h => by
    obtain ⟨as, r1⟩ := IsK.reads hx
    obtain ⟨bs, r2⟩ := IsK.reads hy
    have l1 := IsK.lay hx
    have l2 := IsK.lay hy
    refine PySem.SeqAt.eqBoolOverData prog w A E s _ _ _ _ as bs Q r1 r2 l1.1 l2.1 ?_ ?_
    · have : min x.py.depth y.py.depth ≤ x.py.depth := Nat.min_le_left _ _
      omega
    · rw [IsK.eqv hx hy]; exact h
  quiet := fun {A E s k a Q} hk h => quiet_K 8 8 (Nat.le_refl _) hk h
end Ev

/-! The evaluator, part A: values, the heap's likeness, steps. -/
namespace Ev
open PySem PySem.Spec PyProof.Rows L2

/-- the built-in types that isinstance asks for -/
inductive Tn where
  | int | bool | non | str | tup | lst | dct
  deriving DecidableEq
def Tn.name : Tn → String
  | .int => "int" | .bool => "bool" | .non => "NoneType" | .str => "str" | .tup => "tuple" | .lst => "list" | .dct => "dict"
inductive RV where
  | d (x : D) | o (n : Nat) | t (n : Tn) | fn (φ : List D → Option D)

inductive Ob where
  | lst (xs : List D) | dct (kvs : List (D × D)) | dcx (kvs : List (D × D)) | ins (c : Str) (fs : List (Str × RV))

/-- a tuple of the written part -/
def KT (K : PySem.W.Frag) (a : Addr) (xs : List V) : Prop :=
  ∃ (o : Obj) (its : Array Value) (n : Nat), K.lookup a = some o ∧ o.cls = .type "tuple" ∧ o.dict = none ∧ o.data = .seq its n ∧ its.size ≤ sizeLine ∧ Vals xs its.toList
theorem KT.sq {K : PySem.W.Frag} {H : Hp} {a : Addr} {xs : List V} (h : KT K a xs) : SqT K H a xs := let ⟨o, its, n, h1, h2, _, h3, h4, h5⟩ := h; .inr ⟨o, its, n, h1, h2, h3, h4, h5⟩

/-- a tuple known to the object, which has no dict -/
def RdT (H : Hp) (a : Addr) (vs : List V) : Prop := ∃ o : Obj, o.dict = none ∧ H a = some (.frz o (.tup vs))
theorem RdT.rd {H : Hp} {a : Addr} {vs : List V} (h : RdT H a vs) : Rd H a (.tup vs) := let ⟨o, _, e⟩ := h; .inr ⟨o, e⟩

/-- a list of the written part -/
def KL (K : PySem.W.Frag) (a : Addr) (xs : List V) : Prop :=
  ∃ (o : Obj) (its : Array Value) (n : Nat), K.lookup a = some o ∧ o.cls = .type "list" ∧ o.dict = none ∧ o.data = .seq its n ∧ its.size ≤ sizeLine ∧ Vals xs its.toList

mutual
inductive Rep (K : PySem.W.Frag) (H : Hp) (R : List Addr) : D → V → Prop
  | non : Rep K H R .non .non
  | bl (b : Bool) : Rep K H R (.bl b) (.bl b)
  | int (i : Int) : Rep K H R (.int i) (.int i)
  | str (x : Str) : Rep K H R (.str x) (.str x)
  | tup {a : Addr} {vs : List V} {ds : List D} : RdT H a vs → a ∉ R → Reps K H R ds vs → Rep K H R (.tup ds) (.ref a)
  | tupK {a : Addr} {vs : List V} {ds : List D} : KT K a vs → Reps K H R ds vs → Rep K H R (.tup ds) (.ref a)
  | lst {a : Addr} {vs : List V} {ds : List D} : Rd H a (.lst vs) → a ∉ R → Reps K H R ds vs → Rep K H R (.lst ds) (.ref a)
  | lstK {a : Addr} {vs : List V} {ds : List D} : KL K a vs → Reps K H R ds vs → Rep K H R (.lst ds) (.ref a)
inductive Reps (K : PySem.W.Frag) (H : Hp) (R : List Addr) : List D → List V → Prop
  | nil : Reps K H R [] []
  | cons {d : D} {v : V} {ds : List D} {vs : List V} : Rep K H R d v → Reps K H R ds vs → Reps K H R (d :: ds) (v :: vs)
end

/-- no table of code objects -/
def NoT (o : HO) : Prop := ∀ ps, o ≠ .tbl ps
theorem noT_tup {vs : List V} : NoT (.tup vs) := fun _ z => by cases z
theorem noT_lst {vs : List V} : NoT (.lst vs) := fun _ z => by cases z
theorem noT_ext {φ : Heap → Prop} : NoT (.ext φ) := fun _ z => by cases z
theorem Rd.mono {H H' : Hp} {a : Addr} {u : HO} (h : Rd H a u) (hu : NoT u) (k : ∀ o, H a = some o → NoT o → H' a = some o) : Rd H' a u := by
  rcases h with h | ⟨o, h⟩
  · exact .inl (k _ h hu)
  · exact .inr ⟨o, k _ h fun _ z => by cases z⟩
theorem RdT.mono {H H' : Hp} {a : Addr} {vs : List V} (h : RdT H a vs) (k : ∀ o, H a = some o → NoT o → H' a = some o) : RdT H' a vs :=
  let ⟨o, n, e⟩ := h; ⟨o, n, k _ e fun _ z => by cases z⟩
theorem Rd.ne {H : Hp} {a : Addr} {u : HO} (h : Rd H a u) : H a ≠ none := by
  rcases h with h | ⟨o, h⟩ <;> rw [h] <;> intro z <;> cases z

mutual
/-- a value stays: what stands outside R is kept, what comes to R was free -/
theorem Rep.mono {K : PySem.W.Frag} {H H' : Hp} {R R' : List Addr} (k : ∀ a o, a ∉ R → H a = some o → NoT o → H' a = some o) (f : ∀ a, a ∈ R' → a ∈ R ∨ H a = none) :
    ∀ {d : D} {v : V}, Rep K H R d v → Rep K H' R' d v
  | _, _, .non => .non
  | _, _, .bl b => .bl b
  | _, _, .int i => .int i
  | _, _, .str x => .str x
  | _, _, .tup h n r => .tup (RdT.mono h fun o e => k _ o n e) (fun z => (f _ z).elim n fun e => Rd.ne h.rd e) (Reps.mono k f r)
  | _, _, .tupK h r => .tupK h (Reps.mono k f r)
  | _, _, .lst h n r => .lst (Rd.mono h noT_lst fun o e => k _ o n e) (fun z => (f _ z).elim n fun e => Rd.ne h e) (Reps.mono k f r)
  | _, _, .lstK h r => .lstK h (Reps.mono k f r)
theorem Reps.mono {K : PySem.W.Frag} {H H' : Hp} {R R' : List Addr} (k : ∀ a o, a ∉ R → H a = some o → NoT o → H' a = some o) (f : ∀ a, a ∈ R' → a ∈ R ∨ H a = none) :
    ∀ {ds : List D} {vs : List V}, Reps K H R ds vs → Reps K H' R' ds vs
  | _, _, .nil => .nil
  | _, _, .cons h r => .cons (Rep.mono k f h) (Reps.mono k f r)
end
theorem Reps.length {K : PySem.W.Frag} {H : Hp} {R : List Addr} : ∀ {ds : List D} {vs : List V}, Reps K H R ds vs → ds.length = vs.length
  | _, _, .nil => rfl
  | _, _, .cons _ r => congrArg Nat.succ r.length
theorem Reps.append {K : PySem.W.Frag} {H : Hp} {R : List Addr} : ∀ {ds es : List D} {vs us : List V}, Reps K H R ds vs → Reps K H R es us → Reps K H R (ds ++ es) (vs ++ us)
  | _, _, _, _, .nil, s => s
  | _, _, _, _, .cons h r, s => .cons h (r.append s)
theorem Reps.get {K : PySem.W.Frag} {H : Hp} {R : List Addr} : ∀ {ds : List D} {vs : List V} {i : Nat} {d : D}, Reps K H R ds vs → ds[i]? = some d → ∃ v, vs[i]? = some v ∧ Rep K H R d v
  | _, _, _, _, .nil, e => by simp at e
  | _, _, 0, _, .cons h _, e => by simp at e; subst e; exact ⟨_, rfl, h⟩
  | _, _, i + 1, d, .cons _ r, e => by
    obtain ⟨v, h1, h2⟩ := Reps.get (i := i) (d := d) r (by simpa using e)
    exact ⟨v, by simpa using h1, h2⟩
theorem Reps.take {K : PySem.W.Frag} {H : Hp} {R : List Addr} : ∀ {ds : List D} {vs : List V} (n : Nat), Reps K H R ds vs → Reps K H R (ds.take n) (vs.take n)
  | _, _, 0, _ => .nil
  | _, _, _ + 1, .nil => .nil
  | _, _, n + 1, .cons h r => .cons h (r.take n)
theorem Reps.drop {K : PySem.W.Frag} {H : Hp} {R : List Addr} : ∀ {ds : List D} {vs : List V} (n : Nat), Reps K H R ds vs → Reps K H R (ds.drop n) (vs.drop n)
  | _, _, 0, r => r
  | _, _, _ + 1, .nil => .nil
  | _, _, n + 1, .cons _ r => r.drop n
theorem Reps.reverse {K : PySem.W.Frag} {H : Hp} {R : List Addr} : ∀ {ds : List D} {vs : List V}, Reps K H R ds vs → Reps K H R ds.reverse vs.reverse
  | _, _, .nil => .nil
  | _, _, .cons h r => by rw [List.reverse_cons, List.reverse_cons]; exact r.reverse.append (.cons h .nil)
theorem Reps.set {K : PySem.W.Frag} {H : Hp} {R : List Addr} {d : D} {v : V} (h : Rep K H R d v) : ∀ {ds : List D} {vs : List V} (i : Nat), Reps K H R ds vs → Reps K H R (ds.set i d) (vs.set i v)
  | _, _, _, .nil => .nil
  | _, _, 0, .cons _ r => .cons h r
  | _, _, i + 1, .cons g r => .cons g (Reps.set h i r)

/-! ### functions -/
/-- a function's captured cells, the captured names, its code object and name -/
structure Clo where
  n : Nat
  cl : List (Str × Addr)
  fr : List Str
  c : Addr
  q : Str
/-- what goes through a whole run: the tables of code objects; which objects are functions, and of what -/
structure Tbs where
  tabs : List NdefX.NTab
  fn : Addr → Obj → Clo → (List (Option D) → List D → Option D) → Prop
def UH : HO := .ext fun _ => True
/-- the object at a is o, and stays so -/
def Fz (H : Hp) (a : Addr) (o : Obj) : Prop := H a = some (.frz o UH)
theorem noT_frz {o : Obj} {u : HO} : NoT (.frz o u) := fun _ z => by cases z
/-- the captured cells, known -/
structure CellsF (H : Hp) (R : List Addr) (cl : List (Str × Addr)) (fr : List Str) (ws : List (Option V)) : Prop where
  len : ws.length = fr.length
  all : ∀ y c, cl.lookup y = some c → c ∉ R ∧ ∃ (o : Obj) (v : Option Value), Fz H c o ∧ o.data = .cell v
  inj : ∀ x y c, cl.lookup x = some c → cl.lookup y = some c → x = y
  has : ∀ (i : Nat) (y : Str), fr[i]? = some y → ∃ c, cl.lookup y = some c ∧ ∀ v, ws[i]? = some (some v) → ∃ (u : Value) (o : Obj), RelV v u ∧ Fz H c o ∧ o.data = .cell (some u)
theorem CellsF.mono {H H' : Hp} {R R' : List Addr} {cl : List (Str × Addr)} {fr : List Str} {ws : List (Option V)} (k : ∀ a o, a ∉ R → H a = some o → NoT o → H' a = some o) (f : ∀ a, a ∈ R' → a ∈ R ∨ H a = none) (c : CellsF H R cl fr ws) : CellsF H' R' cl fr ws where
  len := c.len
  all := fun y a e => by
    obtain ⟨h1, o, v, h2, h3⟩ := c.all y a e
    exact ⟨fun z => (f _ z).elim h1 fun e => (by rw [show H a = some _ from h2] at e; cases e), o, v, k _ _ h1 h2 noT_frz, h3⟩
  inj := c.inj
  has := fun i y e => by
    obtain ⟨a, h1, h2⟩ := c.has i y e
    refine ⟨a, h1, fun v ev => ?_⟩
    obtain ⟨u, o, h3, h4, h5⟩ := h2 v ev
    exact ⟨u, o, h3, k _ _ (c.all y a h1).1 h4 noT_frz, h5⟩
/-- captured values that are told -/
abbrev ROpts (K : PySem.W.Frag) (H : Hp) (R : List Addr) : List (Option D) → List (Option V) → Prop := Paired fun d v => ∀ x, d = some x → ∃ y, v = some y ∧ Rep K H R x y
/-- a function at f -/
def FunAt (tb : Tbs) (K : PySem.W.Frag) (H : Hp) (R : List Addr) (φ : List D → Option D) (f : Addr) : Prop :=
  ∃ (o : Obj) (C : Clo) (ψ : List (Option D) → List D → Option D) (ws : List (Option V)) (wd : List (Option D)), tb.fn f o C ψ ∧ Fz H f o ∧ f ∉ R ∧ H C.c = some (LamX.CodeO C.c C.q) ∧ C.c ∉ R ∧ CellsF H R C.cl C.fr ws ∧ ROpts K H R wd ws ∧ (fun ds => if ds.length = C.n then ψ wd ds else none) = φ
theorem FunAt.mono {tb : Tbs} {K : PySem.W.Frag} {H H' : Hp} {R R' : List Addr} {φ : List D → Option D} {f : Addr} (k : ∀ a o, a ∉ R → H a = some o → NoT o → H' a = some o) (g : ∀ a, a ∈ R' → a ∈ R ∨ H a = none) (r : FunAt tb K H R φ f) : FunAt tb K H' R' φ f := by
  obtain ⟨o, C, ψ, ws, wd, h1, h2, h3, h4, h5, h6, h7, h8⟩ := r
  refine ⟨o, C, ψ, ws, wd, h1, k _ _ h3 h2 noT_frz, fun z => (g _ z).elim h3 fun e => (by rw [show H f = some _ from h2] at e; cases e), k _ _ h5 h4 noT_ext, fun z => (g _ z).elim h5 fun e => (by rw [h4] at e; cases e), h6.mono k g, Paired.mapP h7 fun d v z x hx => ?_, h8⟩
  obtain ⟨y, e1, e2⟩ := z x hx
  exact ⟨y, e1, Rep.mono k g e2⟩
def RepV (tb : Tbs) (K : PySem.W.Frag) (H : Hp) (R m : List Addr) : RV → V → Prop
  | .d x, v => Rep K H R x v
  | .o n, v => ∃ a, m[n]? = some a ∧ v = .ref a
  | .t n, v => v = .ty n.name
  | .fn φ, v => ∃ f, v = .ref f ∧ FunAt tb K H R φ f

/-! ### the store -/
def RepF (tb : Tbs) (K : PySem.W.Frag) (H : Hp) (R m : List Addr) : List (Str × RV) → List (Str × V) → Prop := Paired fun p q => p.1 = q.1 ∧ RepV tb K H R m p.2 q.2

/-- the object of a dict whose keys are trees -/
def DX (P : Program) (w : World) (a : Addr) (xs : List (D × Addr × Value)) : Heap → Prop := fun h =>
  ∃ o es ep, h.get? a = some o ∧ o.ExactDict ∧ o.data = .dict es ep ∧ es.toList = xs.map (entryOfKey (treeKind P w)) ∧ (xs.map (·.1)).Nodup ∧ xs.length ≤ sizeLine ∧ (a == sysModules) = false
/-- nested no deeper than n, ints, texts, tuples alone -/
def D.isKey : Nat → D → Bool
  | _, .int _ => true
  | _, .str x => PyData.strOk x
  | n + 1, .tup ds => ds.all (D.isKey n)
  | _, _ => false
def D.ofKey : Key → D
  | .inl i => .int i
  | .inr x => .str x

def RepO (tb : Tbs) (P : Program) (w : World) (K : PySem.W.Frag) (H : Hp) (R m : List Addr) : Ob → Addr → Prop
  | .lst ds, a => ∃ vs, H a = some (.lst vs) ∧ Reps K H R ds vs
  | .dct kvs, a => ∃ kv', H a = some (.dK kv') ∧ Paired (fun (p : D × D) (q : Key × V) => p.1 = D.ofKey q.1 ∧ Rep K H R p.2 q.2) kvs kv'
  | .dcx kvs, a => ∃ xs, H a = some (.ext (DX P w a xs)) ∧ Paired (fun (p : D × D) (q : D × Addr × Value) => p.1 = q.1 ∧ Rep K H R p.1 (.ref q.2.1) ∧ D.isKey 8 p.1 = true ∧ ∃ v, RelV v q.2.2 ∧ Rep K H R p.2 v) kvs xs
  | .ins c fs, a => ∃ dx vfs, H a = some (.ins (He.ga K c) dx vfs) ∧ RepF tb K H R m fs vfs ∧ Cls K (He.ga K c) ∧ ∀ p ∈ fs, NoAttr K (He.ga K c) p.1

/-- the tables of code objects: each stands, holds code objects of the right names, and is set apart from R -/
def TabsR (tb : Tbs) (H : Hp) (R : List Addr) : Prop := ∀ p ∈ tb.tabs, p.1 ∉ R ∧ ∃ ps : Array Value, H p.1 = some (.tbl ps) ∧ TriplesOk ps.toList ∧ ∀ (pos : Pos) (cv : Value), codeAmong pos ps.toList = some cv → ∃ c, cv = .ref c ∧ c ∉ R ∧ H c = some (LamX.CodeO c (p.2 pos.line pos.col))
theorem TabsR.mono {tb : Tbs} {H H' : Hp} {R R' : List Addr} (t : TabsR tb H R) (k : ∀ a o, a ∉ R → H a = some o → H' a = some o) (f : ∀ a, a ∈ R' → a ∈ R ∨ H a = none) : TabsR tb H' R' := fun p hp => by
  obtain ⟨h1, ps, h2, h3, h4⟩ := t p hp
  refine ⟨fun z => (f _ z).elim h1 fun e => (by rw [h2] at e; cases e), ps, k _ _ h1 h2, h3, fun pos cv hc => ?_⟩
  obtain ⟨c, e1, e2, e3⟩ := h4 pos cv hc
  exact ⟨c, e1, fun z => (f _ z).elim e2 fun e => (by rw [e3] at e; cases e), k _ _ e2 e3⟩

structure Sim (tb : Tbs) (P : Program) (w : World) (K : PySem.W.Frag) (H : Hp) (R m : List Addr) (S : List Ob) : Prop where
  nd : m.Nodup
  sub : ∀ a ∈ m, a ∈ R
  live : ∀ a ∈ R, H a ≠ none
  len : m.length = S.length
  at_ : ∀ (n : Nat) (a : Addr) (o : Ob), m[n]? = some a → S[n]? = some o → RepO tb P w K H R m o a
  tabs : TabsR tb H R

structure Ext (H : Hp) (R m : List Addr) (H' : Hp) (R' m' : List Addr) : Prop where
  pre : ∃ e, m' = m ++ e
  sub : ∀ a ∈ R, a ∈ R'
  fresh : ∀ a ∈ R', a ∈ R ∨ H a = none
  freshM : ∀ a ∈ m', a ∈ m ∨ H a = none
  keep : ∀ a o, a ∉ m → H a = some o → NoT o → H' a = some o
  live : ∀ a, H a ≠ none → H' a ≠ none

section
variable {P : Program} {w : World} {K : PySem.W.Frag} {H H1 H2 H' : Hp} {R R1 R2 R' m m1 m2 m' : List Addr} {S S' : List Ob}
theorem Ext.refl : Ext H R m H R m := ⟨⟨[], by simp⟩, fun _ h => h, fun _ h => .inl h, fun _ h => .inl h, fun _ _ _ h _ => h, fun _ h => h⟩
theorem Ext.trans (a : Ext H R m H1 R1 m1) (b : Ext H1 R1 m1 H2 R2 m2) : Ext H R m H2 R2 m2 where
  pre := by
    obtain ⟨e, rfl⟩ := a.pre
    obtain ⟨f, rfl⟩ := b.pre
    exact ⟨e ++ f, by simp⟩
  sub := fun c h => b.sub c (a.sub c h)
  fresh := fun c h => by
    rcases b.fresh c h with z | z
    · exact a.fresh c z
    · refine .inr ?_
      cases q : H c with
      | none => rfl
      | some o => exact absurd z (a.live c (by rw [q]; intro z; cases z))
  freshM := fun c h => by
    rcases b.freshM c h with z | z
    · exact a.freshM c z
    · refine .inr ?_
      cases q : H c with
      | none => rfl
      | some o => exact absurd z (a.live c (by rw [q]; intro z; cases z))
  keep := fun c o n e t => by
    refine b.keep c o (fun z => ?_) (a.keep c o n e t) t
    rcases a.freshM c z with y | y
    · exact n y
    · rw [e] at y; cases y
  live := fun c h => b.live c (a.live c h)
theorem Ext.memM (e : Ext H R m H' R' m') {a : Addr} (h : a ∈ m) : a ∈ m' := by
  obtain ⟨x, rfl⟩ := e.pre
  exact List.mem_append_left _ h
theorem Ext.idx (e : Ext H R m H' R' m') {n : Nat} {a : Addr} (h : m[n]? = some a) : m'[n]? = some a := by
  obtain ⟨x, rfl⟩ := e.pre
  obtain ⟨hn, _⟩ := List.getElem?_eq_some_iff.mp h
  rw [List.getElem?_append_left hn]; exact h

theorem Rep.ext {d : D} {v : V} (e : Ext H R m H' R' m') (hs : ∀ a ∈ m, a ∈ R) (r : Rep K H R d v) : Rep K H' R' d v :=
  Rep.mono (fun a o n q t => e.keep a o (fun z => n (hs a z)) q t) e.fresh r
theorem Reps.ext {d : List D} {v : List V} (e : Ext H R m H' R' m') (hs : ∀ a ∈ m, a ∈ R) (r : Reps K H R d v) : Reps K H' R' d v :=
  Reps.mono (fun a o n q t => e.keep a o (fun z => n (hs a z)) q t) e.fresh r
theorem RepV.ext {d : RV} {v : V} (e : Ext H R m H' R' m') (hs : ∀ a ∈ m, a ∈ R) (r : RepV tb K H R m d v) : RepV tb K H' R' m' d v := by
  cases d with
  | d x => exact Rep.ext e hs r
  | o n =>
    obtain ⟨a, h1, h2⟩ := r
    exact ⟨a, e.idx h1, h2⟩
  | t n => exact r
  | fn φ =>
    obtain ⟨f, h1, h2⟩ := r
    exact ⟨f, h1, h2.mono (fun a o n q t => e.keep a o (fun z => n (hs a z)) q t) e.fresh⟩
theorem RepF.ext {fs : List (Str × RV)} {vs : List (Str × V)} (e : Ext H R m H' R' m') (hs : ∀ a ∈ m, a ∈ R) (r : RepF tb K H R m fs vs) : RepF tb K H' R' m' fs vs :=
  Paired.mapP r fun _ _ z => ⟨z.1, RepV.ext e hs z.2⟩
/-- an owned thing, if its own object stays -/
theorem RepO.ext {o : Ob} {a : Addr} (e : Ext H R m H' R' m') (hs : ∀ a ∈ m, a ∈ R) (r : RepO tb P w K H R m o a) (k : H' a = H a) : RepO tb P w K H' R' m' o a := by
  cases o with
  | lst ds =>
    obtain ⟨vs, h, r⟩ := r
    exact ⟨vs, k.trans h, Reps.ext e hs r⟩
  | dct kvs =>
    obtain ⟨vs, h, r⟩ := r
    exact ⟨vs, k.trans h, Paired.mapP r fun _ _ z => ⟨z.1, Rep.ext e hs z.2⟩⟩
  | dcx kvs =>
    obtain ⟨vs, h, r⟩ := r
    exact ⟨vs, k.trans h, Paired.mapP r fun _ _ ⟨z1, z2, z3, v, z4, z5⟩ => ⟨z1, Rep.ext e hs z2, z3, v, z4, Rep.ext e hs z5⟩⟩
  | ins c fs =>
    obtain ⟨dx, vfs, h, r, c⟩ := r
    exact ⟨dx, vfs, k.trans h, RepF.ext e hs r, c⟩

/-! ### a new thing that is not owned -/
theorem Ext.new {p : Addr} {o : HO} (n : H p = none) : Ext H R m (upd H p o) R m where
  pre := ⟨[], by simp⟩
  sub := fun _ h => h
  fresh := fun _ h => .inl h
  freshM := fun _ h => .inl h
  keep := fun a o _ h _ => by rw [upd_ne (ne_of_none h n)]; exact h
  live := fun a h => by
    by_cases q : a = p
    · subst q; exact absurd n h
    · rw [upd_ne q]; exact h
theorem Sim.notR (s : Sim tb P w K H R m S) {p : Addr} (n : H p = none) : p ∉ R := fun h => s.live p h n
theorem Sim.new {p : Addr} {o : HO} (s : Sim tb P w K H R m S) (n : H p = none) : Sim tb P w K (upd H p o) R m S where
  tabs := s.tabs.mono (fun a o _ e => by rw [upd_ne (ne_of_none e n)]; exact e) fun _ h => .inl h
  nd := s.nd
  sub := s.sub
  live := fun a h => (Ext.new n).live a (s.live a h) (R := R) (m := m)
  len := s.len
  at_ := fun i a ob h1 h2 => RepO.ext (Ext.new n) s.sub (s.at_ i a ob h1 h2) (upd_ne fun z => s.live a (s.sub a (List.mem_of_getElem? h1)) (by rw [z]; exact n))
/-- a new thing that is owned -/
theorem Ext.own {p : Addr} {o : HO} (n : H p = none) : Ext H R m (upd H p o) (p :: R) (m ++ [p]) where
  pre := ⟨[p], rfl⟩
  sub := fun _ h => List.mem_cons_of_mem _ h
  fresh := fun a h => (List.mem_cons.mp h).elim (fun z => .inr (by rw [z]; exact n)) .inl
  freshM := fun a h => (List.mem_append.mp h).elim .inl fun z => .inr (by rw [List.mem_singleton.mp z]; exact n)
  keep := fun a o _ h _ => by rw [upd_ne (ne_of_none h n)]; exact h
  live := fun a h => by
    by_cases q : a = p
    · subst q; exact absurd n h
    · rw [upd_ne q]; exact h
theorem Sim.own {p : Addr} {o : HO} {ob : Ob} (s : Sim tb P w K H R m S) (n : H p = none) (r : RepO tb P w K (upd H p o) (p :: R) (m ++ [p]) ob p) : Sim tb P w K (upd H p o) (p :: R) (m ++ [p]) (S ++ [ob]) where
  tabs := s.tabs.mono (fun a o _ e => by rw [upd_ne (ne_of_none e n)]; exact e) fun a h => (List.mem_cons.mp h).elim (fun z => .inr (by rw [z]; exact n)) .inl
  nd := by
    rw [List.nodup_append]
    refine ⟨s.nd, by simp, fun a ha b hb => ?_⟩
    rw [List.mem_singleton.mp hb]
    rintro rfl
    exact s.notR n (s.sub _ ha)
  sub := fun a h => (List.mem_append.mp h).elim (fun z => List.mem_cons_of_mem _ (s.sub a z)) fun z => by rw [List.mem_singleton.mp z]; exact List.mem_cons_self
  live := fun a h => by
    by_cases q : a = p
    · subst q; rw [upd_same]; intro z; cases z
    · rw [upd_ne q]
      exact s.live a ((List.mem_cons.mp h).resolve_left q)
  len := by rw [List.length_append, List.length_append, s.len]; rfl
  at_ := fun i a o' h1 h2 => by
    by_cases hi : i < m.length
    · rw [List.getElem?_append_left hi] at h1
      rw [List.getElem?_append_left (by rw [← s.len]; exact hi)] at h2
      exact RepO.ext (Ext.own n) s.sub (s.at_ i a o' h1 h2) (upd_ne fun z => s.live a (s.sub a (List.mem_of_getElem? h1)) (by rw [z]; exact n))
    · have hl : i < (m ++ [p]).length := (List.getElem?_eq_some_iff.mp h1).1
      rw [List.length_append, List.length_singleton] at hl
      have e : i = m.length := by omega
      subst e
      rw [List.getElem?_append_right (Nat.le_refl _), Nat.sub_self] at h1
      rw [s.len, List.getElem?_append_right (Nat.le_refl _), Nat.sub_self] at h2
      cases h1; cases h2
      exact r
/-- an owned thing is changed -/
theorem Ext.chg {a : Addr} {o : HO} (h : a ∈ m) (hl : H a ≠ none) : Ext H R m (upd H a o) R m where
  pre := ⟨[], by simp⟩
  sub := fun _ h => h
  fresh := fun _ h => .inl h
  freshM := fun _ h => .inl h
  keep := fun b o n e _ => by rw [upd_ne fun z => n (by rw [z]; exact h)]; exact e
  live := fun b h => by
    by_cases q : b = a
    · subst q; rw [upd_same]; intro z; cases z
    · rw [upd_ne q]; exact h
theorem Sim.chg {a : Addr} {o : HO} {ob : Ob} {n : Nat} (s : Sim tb P w K H R m S) (hn : m[n]? = some a) (r : RepO tb P w K (upd H a o) R m ob a) : Sim tb P w K (upd H a o) R m (S.set n ob) where
  tabs := s.tabs.mono (fun b o hb e => by rw [upd_ne fun z => hb (by rw [z]; exact s.sub a (List.mem_of_getElem? hn))]; exact e) fun _ h => .inl h
  nd := s.nd
  sub := s.sub
  live := fun b h => (Ext.chg (R := R) (List.mem_of_getElem? hn) (s.live a (s.sub a (List.mem_of_getElem? hn)))).live b (s.live b h)
  len := by rw [List.length_set]; exact s.len
  at_ := fun i b o' h1 h2 => by
    by_cases e : i = n
    · subst e
      rw [hn] at h1; cases h1
      have hi : i < S.length := by rw [← s.len]; exact (List.getElem?_eq_some_iff.mp hn).1
      rw [List.getElem?_set_self hi] at h2
      cases h2
      exact r
    · rw [List.getElem?_set_ne (Ne.symm e)] at h2
      have ne : b ≠ a := by
        rintro rfl
        have h3 := List.getElem?_eq_some_iff.mp h1
        have h4 := List.getElem?_eq_some_iff.mp hn
        exact e ((List.getElem_inj s.nd).mp (h3.2.trans h4.2.symm))
      exact RepO.ext (Ext.chg (List.mem_of_getElem? hn) (s.live a (s.sub a (List.mem_of_getElem? hn)))) s.sub (s.at_ i b o' h1 h2) (upd_ne ne)
end

/-! ### slots -/
abbrev Env' := List (Option RV)
structure RepE (tb : Tbs) (K : PySem.W.Frag) (H : Hp) (R m : List Addr) (ρ : Env') (σ : List (Option V)) : Prop where
  len : ρ.length = σ.length
  at_ : ∀ (i : Nat) (r : RV), ρ[i]? = some (some r) → ∃ v, σ[i]? = some (some v) ∧ RepV tb K H R m r v
theorem RepE.ext {K : PySem.W.Frag} {H H' : Hp} {R R' m m' : List Addr} {ρ : Env'} {σ : List (Option V)} (e : Ext H R m H' R' m') (hs : ∀ a ∈ m, a ∈ R) (r : RepE tb K H R m ρ σ) : RepE tb K H' R' m' ρ σ :=
  ⟨r.len, fun i x h => let ⟨v, h1, h2⟩ := r.at_ i x h; ⟨v, h1, RepV.ext e hs h2⟩⟩
theorem RepE.set {K : PySem.W.Frag} {H : Hp} {R m : List Addr} {ρ : Env'} {σ : List (Option V)} (r : RepE tb K H R m ρ σ) (i : Nat) {x : RV} {v : V} (h : RepV tb K H R m x v) : RepE tb K H R m (ρ.set i (some x)) (σ.set i (some v)) := by
  refine ⟨by rw [List.length_set, List.length_set, r.len], fun j y e => ?_⟩
  by_cases q : j = i
  · subst q
    have hj : j < ρ.length := by
      have := (List.getElem?_eq_some_iff.mp e).1
      rwa [List.length_set] at this
    rw [List.getElem?_set_self hj] at e
    cases e
    exact ⟨v, List.getElem?_set_self (by rw [← r.len]; exact hj), h⟩
  · rw [List.getElem?_set_ne (Ne.symm q)] at e
    obtain ⟨u, h1, h2⟩ := r.at_ j y e
    exact ⟨u, by rw [List.getElem?_set_ne (Ne.symm q)]; exact h1, h2⟩
end Ev

/-! The evaluator, part B: what an expression's function promises; operators. -/
namespace Ev
open PySem PySem.Spec PyProof.Rows L2

abbrev Sto := List Ob
abbrev Fe (α : Type) := Env' → Sto → Option (α × Sto)
abbrev Lim : Nat := 16777216
theorem lim_eq : (sizeLine : Nat) = Lim := sizeLine_eq

/-! ### readings -/
def TV (tb : Tbs) (X : Cx) (f : Fe RV) : TE := fun σ H Q => ∃ (ρ : Env') (R m : List Addr) (S : Sto) (r : RV) (S' : Sto), RepE tb X.K H R m ρ σ ∧ Sim tb X.prog X.w X.K H R m S ∧ f ρ S = some (r, S') ∧
  ∀ v H' R' m', Ext H R m H' R' m' → Sim tb X.prog X.w X.K H' R' m' S' → RepV tb X.K H' R' m' r v → Q v H'
/-- a new list, owned by none -/
def TL (tb : Tbs) (X : Cx) (f : Fe (List D)) : TE := fun σ H Q => ∃ (ρ : Env') (R m : List Addr) (S : Sto) (r : List D) (S' : Sto), RepE tb X.K H R m ρ σ ∧ Sim tb X.prog X.w X.K H R m S ∧ f ρ S = some (r, S') ∧
  ∀ a vs H' R' m', Ext H R m H' R' m' → Sim tb X.prog X.w X.K H' R' m' S' → H' a = none → Reps X.K H' R' r vs → r.length ≤ Lim → Q (.ref a) (upd H' a (.lst vs))
def TB (tb : Tbs) (X : Cx) (f : Fe Bool) : TT := fun σ H Q => ∃ (ρ : Env') (R m : List Addr) (S : Sto) (r : Bool) (S' : Sto), RepE tb X.K H R m ρ σ ∧ Sim tb X.prog X.w X.K H R m S ∧ f ρ S = some (r, S') ∧
  ∀ H' R' m', Ext H R m H' R' m' → Sim tb X.prog X.w X.K H' R' m' S' → Q r H'
inductive RepVs (tb : Tbs) (K : PySem.W.Frag) (H : Hp) (R m : List Addr) : List RV → List V → Prop
  | nil : RepVs tb K H R m [] []
  | cons {r : RV} {v : V} {rs : List RV} {vs : List V} : RepV tb K H R m r v → RepVs tb K H R m rs vs → RepVs tb K H R m (r :: rs) (v :: vs)
def TAs (tb : Tbs) (X : Cx) (f : Fe (List RV)) : TA := fun σ H Q => ∃ (ρ : Env') (R m : List Addr) (S : Sto) (r : List RV) (S' : Sto), RepE tb X.K H R m ρ σ ∧ Sim tb X.prog X.w X.K H R m S ∧ f ρ S = some (r, S') ∧
  ∀ vs H' R' m', Ext H R m H' R' m' → Sim tb X.prog X.w X.K H' R' m' S' → RepVs tb X.K H' R' m' r vs → Q vs H'
theorem RepVs.ext {K : PySem.W.Frag} {H H' : Hp} {R R' m m' : List Addr} (e : Ext H R m H' R' m') (hs : ∀ a ∈ m, a ∈ R) : ∀ {rs : List RV} {vs : List V}, RepVs tb K H R m rs vs → RepVs tb K H' R' m' rs vs
  | _, _, .nil => .nil
  | _, _, .cons h r => .cons (h.ext e hs) (r.ext e hs)

theorem pe_weak {X : Cx} {e : Expr} {t t' : TE} (h : PE X e t) (w : ∀ σ H Q, t' σ H Q → t σ H Q) : PE X e t' := ⟨fun pins s σ H Q I q => h.run pins s σ H Q I (w _ _ _ q)⟩
theorem pt_weak {X : Cx} {e : Expr} {t t' : TT} (h : PT X e t) (w : ∀ σ H Q, t' σ H Q → t σ H Q) : PT X e t' := ⟨fun pins s σ H Q I q => h.run pins s σ H Q I (w _ _ _ q)⟩
theorem ps_weak {X : Cx} {e : Stmt} {t t' : TS} (h : PS X e t) (w : ∀ D σ H, t' D σ H → t D σ H) : PS X e t' := ⟨fun pins s σ H D I q => h.run pins s σ H D I (w _ _ _ q)⟩
theorem pss_weak {X : Cx} {e : List Stmt} {t t' : TS} (h : PSs X e t) (w : ∀ D σ H, t' D σ H → t D σ H) : PSs X e t' := ⟨fun pins s σ H D I q => h.run pins s σ H D I (w _ _ _ q)⟩
theorem pa_weak {X : Cx} {e : List Expr} {t t' : TA} (h : PA X e t) (w : ∀ σ H Q, t' σ H Q → t σ H Q) : PA X e t' := ⟨fun pos pins s σ H Q I q => h.run pos pins s σ H Q I (w _ _ _ q)⟩

/-! ### combinators: two in a row -/
def fBind {α β : Type} (f : Fe α) (k : α → Fe β) : Fe β := fun ρ S => (f ρ S).bind fun p => k p.1 ρ p.2
def fMap {α β : Type} (f : Fe α) (k : α → Sto → Option β) : Fe β := fun ρ S => (f ρ S).bind fun p => (k p.1 p.2).bind fun y => some (y, p.2)
theorem bind_some {α β : Type} {o : Option α} {k : α → Option β} {r : β} (h : o.bind k = some r) : ∃ x, o = some x ∧ k x = some r := by
  cases o with
  | none => cases h
  | some x => exact ⟨x, rfl, h⟩
theorem fBind_some {α β : Type} {f : Fe α} {k : α → Fe β} {ρ : Env'} {S : Sto} {r : β × Sto} (h : fBind f k ρ S = some r) : ∃ x S1, f ρ S = some (x, S1) ∧ k x ρ S1 = some r := by
  obtain ⟨⟨x, S1⟩, h1, h2⟩ := bind_some h
  exact ⟨x, S1, h1, h2⟩
theorem fMap_some {α β : Type} {f : Fe α} {k : α → Sto → Option β} {ρ : Env'} {S S' : Sto} {r : β} (h : fMap f k ρ S = some (r, S')) : ∃ x, f ρ S = some (x, S') ∧ k x S' = some r := by
  obtain ⟨⟨x, S1⟩, h1, h2⟩ := bind_some h
  obtain ⟨y, h3, h4⟩ := bind_some h2
  cases h4
  exact ⟨x, h1, h3⟩

/-! ### constants, slots -/
def eC (d : D) : Fe RV := fun _ S => some (.d d, S)
def eVar (i : Nat) : Fe RV := fun ρ S => match ρ[i]? with
  | some (some r) => some (r, S)
  | _ => none
section
variable {X : Cx} {a b c : Expr} {pos : Pos} {f g h : Fe RV}
theorem e_int {i j} : PE X (.Constant (.int i) j pos) (TV tb X (eC (.int i))) := pe_weak pe_int fun σ H Q ⟨ρ, R, m, S, r, S', hE, hS, e, k⟩ => by
  cases e
  exact k _ _ _ _ .refl hS (.int i)
theorem e_bl {i j} : PE X (.Constant (.bool i) j pos) (TV tb X (eC (.bl i))) := pe_weak pe_bl fun σ H Q ⟨ρ, R, m, S, r, S', hE, hS, e, k⟩ => by
  cases e
  exact k _ _ _ _ .refl hS (.bl i)
theorem e_non {j} : PE X (.Constant .none j pos) (TV tb X (eC .non)) := pe_weak pe_non fun σ H Q ⟨ρ, R, m, S, r, S', hE, hS, e, k⟩ => by
  cases e
  exact k _ _ _ _ .refl hS .non
theorem e_str {i j} : PE X (.Constant (.str i) j pos) (TV tb X (eC (.str i))) := pe_weak pe_str fun σ H Q ⟨ρ, R, m, S, r, S', hE, hS, e, k⟩ => by
  cases e
  exact k _ _ _ _ .refl hS (.str i)
theorem e_var {i : Nat} {x : Str} (hN : X.N[i]? = some x) (hv : Vis X.env.scope x) (hd : (x == ("__debug__" : Str)) = false) (hcd : (x == ("__classdict__" : Str)) = false) : PE X (.Name x pos) (TV tb X (eVar i)) :=
  pe_weak (pe_var hN hv hd hcd) fun σ H Q ⟨ρ, R, m, S, r, S', hE, hS, e, k⟩ => by
    unfold eVar at e
    split at e
    · rename_i r' hr
      cases e
      obtain ⟨v, h1, h2⟩ := hE.at_ _ _ hr
      exact ⟨v, h1, k _ _ _ _ .refl hS h2⟩
    · cases e
/-- a constant of the module: an int, a text, a tuple -/
theorem e_glob {x : Str} {v : V} {u : Value} {d : D} (hg : Gl X x) (hm : X.mg x = some u) (r : RelV v u) (hr : ∀ H, Rep X.K H [] d v) (ht : ∀ H R, Rep X.K H [] d v → Rep X.K H R d v) (hd : (x == ("__debug__" : Str)) = false) : PE X (.Name x pos) (TV tb X (eC d)) :=
  pe_weak (pe_glob hg hm r hd) fun σ H Q ⟨ρ, R, m, S, r, S', hE, hS, e, k⟩ => by
    cases e
    exact k _ _ _ _ .refl hS (ht H R (hr H))

/-! ### operators on values -/
abbrev Op2 := RV → RV → Sto → Option RV
def OpV (tb : Tbs) (X : Cx) (r : R2) (op : Op2) : Prop := ∀ (H : Hp) (R m : List Addr) (S : Sto) (x y : RV) (v u : V) (res : RV), Sim tb X.prog X.w X.K H R m S → RepV tb X.K H R m x v → RepV tb X.K H R m y u → op x y S = some res →
  ∀ Q : VK, (∀ v' H', Ext H R m H' R m → Sim tb X.prog X.w X.K H' R m S → RepV tb X.K H' R m res v' → Q v' H') → r v u H Q
def eBin (op : Op2) (f g : Fe RV) : Fe RV := fBind f fun x => fMap g fun y S => op x y S
theorem tv_bin {r : R2} {op : Op2} (hv : OpV tb X r op) {σ : L2.St} {H : Hp} {Q : VK} (h : TV tb X (eBin op f g) σ H Q) : tOp r (TV tb X f) (TV tb X g) σ H Q := by
  obtain ⟨ρ, R, m, S, res, S', hE, hS, e, k⟩ := h
  obtain ⟨x, S1, e1, e2⟩ := fBind_some e
  obtain ⟨y, e3, e4⟩ := fMap_some e2
  refine ⟨ρ, R, m, S, x, S1, hE, hS, e1, fun v H1 R1 m1 x1 s1 r1 => ?_⟩
  refine ⟨ρ, R1, m1, S1, y, S', hE.ext x1 hS.sub, s1, e3, fun u H2 R2 m2 x2 s2 r2 => ?_⟩
  exact hv H2 R2 m2 S' x y v u res s2 (r1.ext x2 s1.sub) r2 e4 Q fun v' H' x3 s3 r3 => k v' H' R2 m2 ((x1.trans x2).trans x3) s3 r3
theorem e_bin {op : Operator} {r : R2} {vop : Op2} (hr : OpR X (binaryOp op) r) (hv : OpV tb X r vop) (ha : PE X a (TV tb X f)) (hb : PE X b (TV tb X g)) : PE X (.BinOp a op b pos) (TV tb X (eBin vop f g)) :=
  pe_weak (pe_op hr ha hb) fun _ _ _ h => tv_bin hv h
theorem e_cmp {op : CmpOp} {r : R2} {vop : Op2} (hr : OpR X (compareOp op) r) (hv : OpV tb X r vop) (ha : PE X a (TV tb X f)) (hb : PE X b (TV tb X g)) (hm : behindInMarks op b = false) : PE X (.Compare a [op] [b] pos) (TV tb X (eBin vop f g)) :=
  pe_weak (pe_cmpR hr ha hb hm) fun _ _ _ h => tv_bin hv h

def isBl : RV → Option Bool
  | .d (.bl b) => some b
  | _ => none
def fTest (f : Fe RV) : Fe Bool := fMap f fun x _ => isBl x
theorem isBl_rep {K : PySem.W.Frag} {H : Hp} {R m : List Addr} {r : RV} {v : V} {k : Bool} (e : isBl r = some k) (h : RepV tb K H R m r v) : v = .bl k := by
  unfold isBl at e
  split at e
  · cases e
    cases h
    rfl
  · cases e
theorem tb_of {σ : L2.St} {H : Hp} {Q : Bool → Hp → Prop} (h : TB tb X (fTest f) σ H Q) : TV tb X f σ H fun x H' => ∃ k, x = .bl k ∧ Q k H' := by
  obtain ⟨ρ, R, m, S, res, S', hE, hS, e, k⟩ := h
  obtain ⟨x, e1, e2⟩ := fMap_some e
  exact ⟨ρ, R, m, S, x, S', hE, hS, e1, fun v H' R' m' x1 s1 r1 => ⟨res, isBl_rep e2 r1, k H' R' m' x1 s1⟩⟩
theorem t_cmp {op : CmpOp} {r : R2} {vop : Op2} (hr : OpR X (compareOp op) r) (hv : OpV tb X r vop) (ha : PE X a (TV tb X f)) (hb : PE X b (TV tb X g)) (hm : behindInMarks op b = false) : PT X (.Compare a [op] [b] pos) (TB tb X (fTest (eBin vop f g))) :=
  pt_weak (pt_cmpR hr ha hb hm) fun σ H Q h => by
    have q := tb_of h
    exact tv_bin hv q

/-! ### chains a < b < c -/
def eChain (op op' : Op2) (f g h : Fe RV) : Fe RV := fBind f fun x => fBind g fun y => fun ρ S => (op x y S).bind fun z => match isBl z with
  | some true => fMap h (fun w S => op' y w S) ρ S
  | some false => some (.d (.bl false), S)
  | none => none
theorem tv_chain {r r' : R2} {op op' : Op2} (hv : OpV tb X r op) (hv' : OpV tb X r' op') {σ : L2.St} {H : Hp} {Q : VK} (q : TV tb X (eChain op op' f g h) σ H Q) : tChain r r' (TV tb X f) (TV tb X g) (TV tb X h) σ H Q := by
  obtain ⟨ρ, R, m, S, res, S', hE, hS, e, k⟩ := q
  obtain ⟨x, S1, e1, e2⟩ := fBind_some e
  obtain ⟨y, S2, e3, e4⟩ := fBind_some e2
  obtain ⟨z, e5, e6⟩ := bind_some e4
  refine ⟨ρ, R, m, S, x, S1, hE, hS, e1, fun v H1 R1 m1 x1 s1 r1 => ?_⟩
  refine ⟨ρ, R1, m1, S1, y, S2, hE.ext x1 hS.sub, s1, e3, fun u H2 R2 m2 x2 s2 r2 => ?_⟩
  refine hv H2 R2 m2 S2 x y v u z s2 (r1.ext x2 s1.sub) r2 e5 _ fun v' H3 x3 s3 r3 => ?_
  cases q : isBl z with
  | none => rw [q] at e6; cases e6
  | some kb =>
    rw [q] at e6
    refine ⟨kb, isBl_rep q r3, ?_⟩
    cases kb with
    | false =>
      rw [if_neg Bool.false_ne_true]
      cases e6
      exact k _ _ _ _ ((x1.trans x2).trans x3) s3 (.bl false)
    | true =>
      rw [if_pos rfl]
      obtain ⟨w, e7, e8⟩ := fMap_some e6
      refine ⟨ρ, R2, m2, S2, w, S', ((hE.ext x1 hS.sub).ext x2 s1.sub).ext x3 s2.sub, s3, e7, fun u' H4 R4 m4 x4 s4 r4 => ?_⟩
      exact hv' H4 R4 m4 S' y w u u' res s4 ((r2.ext x3 s2.sub).ext x4 s3.sub) r4 e8 Q fun v5 H5 x5 s5 r5 => k v5 H5 R4 m4 ((((x1.trans x2).trans x3).trans x4).trans x5) s5 r5
theorem e_chain {op op' : CmpOp} {r r' : R2} {vop vop' : Op2} (hr : OpR X (compareOp op) r) (hv : OpV tb X r vop) (hr' : OpR X (compareOp op') r') (hv' : OpV tb X r' vop') (ha : PE X a (TV tb X f)) (hb : PE X b (TV tb X g)) (hc : PE X c (TV tb X h)) (hm : lastMarks [op, op'] [b, c] = false) :
    PE X (.Compare a [op, op'] [b, c] pos) (TV tb X (eChain vop vop' f g h)) := pe_weak (pe_chain hr hr' ha hb hc hm) fun _ _ _ q => tv_chain hv hv' q
theorem t_chain {op op' : CmpOp} {r r' : R2} {vop vop' : Op2} (hr : OpR X (compareOp op) r) (hv : OpV tb X r vop) (hr' : OpR X (compareOp op') r') (hv' : OpV tb X r' vop') (ha : PE X a (TV tb X f)) (hb : PE X b (TV tb X g)) (hc : PE X c (TV tb X h)) (hm : lastMarks [op, op'] [b, c] = false) :
    PT X (.Compare a [op, op'] [b, c] pos) (TB tb X (fTest (eChain vop vop' f g h))) := pt_weak (pt_chain hr hr' ha hb hc hm) fun _ _ _ q => tv_chain hv hv' (tb_of q)

/-! ### and, or, not, if -/
def fAnd (f g : Fe Bool) : Fe Bool := fBind f fun x => if x = true then g else fun _ S => some (false, S)
def fOr (f g : Fe Bool) : Fe Bool := fBind f fun x => if x = true then fun _ S => some (true, S) else g
def fNot (f : Fe Bool) : Fe Bool := fMap f fun x _ => some (!x)
def fIf {α : Type} (t : Fe Bool) (f g : Fe α) : Fe α := fBind t fun x => if x = true then f else g
variable {t u : Fe Bool} {rest : List Expr}
theorem t_and1 (ha : PT X a (TB tb X t)) : PW X (.BoolOp .And [a] pos) (TB tb X t) := pw_and1 ha
theorem t_or1 (ha : PT X a (TB tb X t)) : PW X (.BoolOp .Or [a] pos) (TB tb X t) := pw_or1 ha
theorem pw_weak {X : Cx} {e : Expr} {t t' : TT} (h : PW X e t) (w : ∀ σ H Q, t' σ H Q → t σ H Q) : PW X e t' := ⟨fun wh pins s σ H Q I q => h.run wh pins s σ H Q I (w _ _ _ q)⟩
theorem t_and (ha : PT X a (TB tb X t)) (hb : PW X (.BoolOp .And (b :: rest) pos) (TB tb X u)) : PW X (.BoolOp .And (a :: b :: rest) pos) (TB tb X (fAnd t u)) := pw_weak (pw_and ha hb) fun σ H Q h => by
  obtain ⟨ρ, R, m, S, res, S', hE, hS, e, k⟩ := h
  obtain ⟨x, S1, e1, e2⟩ := fBind_some e
  refine ⟨ρ, R, m, S, x, S1, hE, hS, e1, fun H1 R1 m1 x1 s1 => ?_⟩
  cases x with
  | true =>
    rw [if_pos rfl] at e2 ⊢
    exact ⟨ρ, R1, m1, S1, res, S', hE.ext x1 hS.sub, s1, e2, fun H2 R2 m2 x2 s2 => k H2 R2 m2 (x1.trans x2) s2⟩
  | false =>
    rw [if_neg Bool.false_ne_true] at e2 ⊢
    cases e2
    exact k H1 R1 m1 x1 s1
theorem t_or (ha : PT X a (TB tb X t)) (hb : PW X (.BoolOp .Or (b :: rest) pos) (TB tb X u)) : PW X (.BoolOp .Or (a :: b :: rest) pos) (TB tb X (fOr t u)) := pw_weak (pw_or ha hb) fun σ H Q h => by
  obtain ⟨ρ, R, m, S, res, S', hE, hS, e, k⟩ := h
  obtain ⟨x, S1, e1, e2⟩ := fBind_some e
  refine ⟨ρ, R, m, S, x, S1, hE, hS, e1, fun H1 R1 m1 x1 s1 => ?_⟩
  cases x with
  | false =>
    rw [if_neg Bool.false_ne_true] at e2 ⊢
    exact ⟨ρ, R1, m1, S1, res, S', hE.ext x1 hS.sub, s1, e2, fun H2 R2 m2 x2 s2 => k H2 R2 m2 (x1.trans x2) s2⟩
  | true =>
    rw [if_pos rfl] at e2 ⊢
    cases e2
    exact k H1 R1 m1 x1 s1
theorem t_not (ha : PT X a (TB tb X t)) : PT X (.UnaryOp .Not a pos) (TB tb X (fNot t)) := pt_weak (pt_not ha) fun σ H Q h => by
  obtain ⟨ρ, R, m, S, res, S', hE, hS, e, k⟩ := h
  obtain ⟨x, e1, e2⟩ := fMap_some e
  cases e2
  exact ⟨ρ, R, m, S, x, S', hE, hS, e1, k⟩
theorem e_if {c : Expr} (hc : PT X c (TB tb X t)) (ha : PE X a (TV tb X f)) (hb : PE X b (TV tb X g)) : PE X (.IfExp c a b pos) (TV tb X (fIf t f g)) := pe_weak (pe_ifExp hc ha hb) fun σ H Q h => by
  obtain ⟨ρ, R, m, S, res, S', hE, hS, e, k⟩ := h
  obtain ⟨x, S1, e1, e2⟩ := fBind_some e
  refine ⟨ρ, R, m, S, x, S1, hE, hS, e1, fun H1 R1 m1 x1 s1 => ?_⟩
  cases x with
  | true =>
    rw [if_pos rfl] at e2 ⊢
    exact ⟨ρ, R1, m1, S1, res, S', hE.ext x1 hS.sub, s1, e2, fun v H2 R2 m2 x2 s2 r2 => k v H2 R2 m2 (x1.trans x2) s2 r2⟩
  | false =>
    rw [if_neg Bool.false_ne_true] at e2 ⊢
    exact ⟨ρ, R1, m1, S1, res, S', hE.ext x1 hS.sub, s1, e2, fun v H2 R2 m2 x2 s2 r2 => k v H2 R2 m2 (x1.trans x2) s2 r2⟩
/-- .. as values: bools, the last one any -/
def eAnd (f g : Fe RV) : Fe RV := fBind f fun x => match isBl x with
  | some true => g
  | some false => fun _ S => some (.d (.bl false), S)
  | none => fun _ _ => none
def eOr (f g : Fe RV) : Fe RV := fBind f fun x => match isBl x with
  | some true => fun _ S => some (.d (.bl true), S)
  | some false => g
  | none => fun _ _ => none
def eNot (f : Fe RV) : Fe RV := fMap f fun x _ => (isBl x).map fun k => .d (.bl !k)
theorem e_and (ha : PE X a (TV tb X f)) (hb : PE X (.BoolOp .And (b :: rest) pos) (TV tb X g)) : PE X (.BoolOp .And (a :: b :: rest) pos) (TV tb X (eAnd f g)) := pe_weak (pe_and ha hb) fun σ H Q h => by
  obtain ⟨ρ, R, m, S, res, S', hE, hS, e, k⟩ := h
  obtain ⟨x, S1, e1, e2⟩ := fBind_some e
  refine ⟨ρ, R, m, S, x, S1, hE, hS, e1, fun v H1 R1 m1 x1 s1 r1 => ?_⟩
  cases q : isBl x with
  | none => simp only [q] at e2; cases e2
  | some kb =>
    simp only [q] at e2
    refine ⟨kb, isBl_rep q r1, ?_⟩
    cases kb with
    | true =>
      rw [if_pos rfl]
      exact ⟨ρ, R1, m1, S1, res, S', hE.ext x1 hS.sub, s1, e2, fun v H2 R2 m2 x2 s2 r2 => k v H2 R2 m2 (x1.trans x2) s2 r2⟩
    | false =>
      rw [if_neg Bool.false_ne_true]
      cases e2
      exact k _ H1 R1 m1 x1 s1 (.bl false)
theorem e_or (ha : PE X a (TV tb X f)) (hb : PE X (.BoolOp .Or (b :: rest) pos) (TV tb X g)) : PE X (.BoolOp .Or (a :: b :: rest) pos) (TV tb X (eOr f g)) := pe_weak (pe_or ha hb) fun σ H Q h => by
  obtain ⟨ρ, R, m, S, res, S', hE, hS, e, k⟩ := h
  obtain ⟨x, S1, e1, e2⟩ := fBind_some e
  refine ⟨ρ, R, m, S, x, S1, hE, hS, e1, fun v H1 R1 m1 x1 s1 r1 => ?_⟩
  cases q : isBl x with
  | none => simp only [q] at e2; cases e2
  | some kb =>
    simp only [q] at e2
    refine ⟨kb, isBl_rep q r1, ?_⟩
    cases kb with
    | false =>
      rw [if_neg Bool.false_ne_true]
      exact ⟨ρ, R1, m1, S1, res, S', hE.ext x1 hS.sub, s1, e2, fun v H2 R2 m2 x2 s2 r2 => k v H2 R2 m2 (x1.trans x2) s2 r2⟩
    | true =>
      rw [if_pos rfl]
      cases e2
      exact k _ H1 R1 m1 x1 s1 (.bl true)
theorem e_one {op} (ha : PE X a (TV tb X f)) : PE X (.BoolOp op [a] pos) (TV tb X f) := pe_one ha
theorem e_not (ha : PE X a (TV tb X f)) : PE X (.UnaryOp .Not a pos) (TV tb X (eNot f)) := pe_weak (pe_not ha) fun σ H Q h => by
  obtain ⟨ρ, R, m, S, res, S', hE, hS, e, k⟩ := h
  obtain ⟨x, e1, e2⟩ := fMap_some e
  refine ⟨ρ, R, m, S, x, S', hE, hS, e1, fun v H1 R1 m1 x1 s1 r1 => ?_⟩
  cases q : isBl x with
  | none => rw [q] at e2; cases e2
  | some kb =>
    rw [q] at e2
    cases e2
    exact ⟨kb, isBl_rep q r1, k _ _ _ _ x1 s1 (.bl _)⟩
end
end Ev

/-! The evaluator, part Tup: new tuples, known to the object. -/
namespace Ev
open PySem PySem.Spec PyProof.Rows L2
section
variable {X : Cx}
def tTupX (t : TA) : TE := fun σ H Q => t σ H fun xs H1 => xs.length ≤ sizeLine ∧ ∀ (p : Addr) (o : Obj), H1 p = none → o.dict = none → Q (.ref p) (upd H1 p (.frz o (.tup xs)))
theorem pe_tupX {es : List Expr} {t : TA} {pos : Pos} {x1} (h : PA X es t) : PE X (.Tuple es x1 pos) (tTupX t) := by
  refine ⟨fun pins s σ H Q I hq => ?_⟩
  refine wpAny_Tuple_spliced (thn (h.run pos pins s σ H _ I hq) fun us s1 ⟨xs, H1, I1, r, z, q⟩ => ⟨by rw [← r.length]; exact z, ?_⟩)
  refine ⟨.ref s1.heap.objs.size, upd H1 s1.heap.objs.size (.frz _ (.tup xs)), I1.laid (t' := s1.toks) (fun b u e => Heap.get?_push_of_some _ e) (Nat.le_refl _) ⟨Heap.get?_push_size _ rfl, z, us, r, ⟨_, Heap.get?_push_size _ rfl, rfl, _, rfl⟩⟩, rfl, q _ _ (I1.hok.fresh (Nat.le_refl _)) rfl⟩
theorem call_tuple_ofX : CallR X (.type "tuple") (fun xs H Q => ∃ p ys, xs = [.ref p] ∧ ((SqL X.K H p ys ∧ ∀ (l : Addr) (o : Obj), H l = none → o.dict = none → Q (.ref l) (upd H l (.frz o (.tup ys)))) ∨ (SqT X.K H p ys ∧ Q (.ref p) H))) := by
  intro pins s σ H xs us Q I r h
  obtain ⟨p, ys, rfl, h⟩ := h
  obtain ⟨u, rfl, rx⟩ := vals1 r
  cases rx
  rcases h with ⟨hq, q⟩ | ⟨hq, q⟩
  · obtain ⟨its, r', pl, hz⟩ := I.list hq
    refine call_tuple_list pl.isList (fun h' kp => ?_) (by rw [List.size_toArray, ← r'.length]; exact hz)
    have I1 : Inv X pins σ H { s with heap := h' } := I.kept (t' := s.toks) kp
    exact ⟨.ref h'.objs.size, upd H h'.objs.size (.frz _ (.tup ys)), I1.laid (t' := s.toks) (fun b o e => Heap.get?_push_of_some _ e) (Nat.le_refl _) ⟨Heap.get?_push_size _ rfl, hz, its, r', IsTup.new _ _⟩, rfl, q _ _ (I1.hok.fresh (Nat.le_refl _)) rfl⟩
  · obtain ⟨its, r', pl, hz⟩ := I.tuple hq
    exact call_tuple_same pl ⟨.ref p, H, I, rfl, q⟩
def tTupRgX (te : L2.St → Hp → (Int → Int → Hp → Prop) → Prop) : TE := fun σ H Q => te σ H fun a b H1 => RgOk a b ∧ ∀ (q : Addr) (o : Obj), H1 q = none → o.dict = none → Q (.ref q) (upd H1 q (.frz o (.tup (rgV a b))))
theorem pe_tupRgX {e : Expr} {te : L2.St → Hp → (Int → Int → Hp → Prop) → Prop} {p pos : Pos} (hc : X.calm = true) (hg : Gl X "tuple") (hm : X.mg "tuple" = none) (he : PRg X e te) (na : starEach [e] X.env = (false, eval e X.env) :: starEach [] X.env := by rfl) : PE X (.Call (.Name "tuple" p) [e] [] pos) (tTupRgX te) := by
  refine ⟨fun pins s σ H Q I h => ?_⟩
  refine Call_ (ld_blt I hg hm boot_tuple (PyProof.Rows.callWith_type1 (args_cons (thn (he pins s σ H _ I h) fun x s1 ⟨r, a, b, t, u, v, H1, ex, hr, I1, ok, q⟩ => args_nil ?_) na) na))
  subst ex
  obtain ⟨b1, b2, b3, b4, b5⟩ := ok
  refine call_tuple_range (n := (b - a).toNat) (I1.ok.hd hc) hr (small_one b1 b2 b3 b4) (rangeSize_nat a b) b5 fun h' tk acc hk hi => ?_
  have I2 : Inv X pins σ H1 { s1 with heap := h', toks := tk } := I1.kept hk
  refine ⟨.ref h'.objs.size, upd H1 h'.objs.size (.frz _ (.tup (rgV a b))), I2.laid (t' := tk) (fun c o e => Heap.get?_push_of_some _ e) (Nat.le_refl _) ⟨Heap.get?_push_size _ rfl, ?_, acc.toList, vals_rg hi, ?_⟩, rfl, q _ _ (I2.hok.fresh (Nat.le_refl _)) rfl⟩
  · rw [rgV_length, sizeLine_eq]; omega
  · rw [Array.toArray_toList]; exact IsTup.new _ _
def rSlX (K : PySem.W.Frag) : V → Option Int → Option Int → Hp → VK → Prop := fun x lo hi H Q => ∃ a xs, x = .ref a ∧ SqT K H a xs ∧
  (HT.sIx xs.length 0 lo = 0 ∧ HT.sIx xs.length xs.length hi = xs.length → Q (.ref a) H) ∧ (¬ (HT.sIx xs.length 0 lo = 0 ∧ HT.sIx xs.length xs.length hi = xs.length) → ∀ (p : Addr) (o : Obj), H p = none → o.dict = none → Q (.ref p) (upd H p (.frz o (.tup (cutV xs lo hi)))))
theorem sl_tupX : SlR X (rSlX X.K) := by
  intro pins s σ H x v vl vu lo hi sl Q I rx hs pl pu h
  obtain ⟨a, xs, rfl, hx, q1, q2⟩ := h
  cases rx
  obtain ⟨its, r, ht, hz⟩ := I.tuple hx
  have hlen : its.toArray.size = xs.length := by rw [List.size_toArray]; exact r.length.symm
  refine ⟨"tuple", _, PyProof.Rows.slot_tuple_getitem.lookup, ht.typeIs, ?_⟩
  by_cases hw : HT.sIx xs.length 0 lo = 0 ∧ HT.sIx xs.length xs.length hi = xs.length
  · exact getItem_tuple_whole ht hs pl pu (by rw [hlen]; exact hw) ⟨.ref a, H, I, rfl, q1 hw⟩
  · refine HT.getItem_tuple_cut ht hs pl pu (by rw [hlen]; exact hw) ?_ (by rw [hlen]; exact hz)
    rw [hlen]
    exact ⟨.ref s.heap.objs.size, _, I.laid (t' := s.toks) (o := .frz _ (.tup (cutV xs lo hi))) (fun b ob q => Heap.get?_push_of_some _ q) (Nat.le_refl _) ⟨Heap.get?_push_size _ rfl, Nat.le_trans (cutV_length xs lo hi) hz, _, (r.drop (HT.sIx xs.length 0 lo)).take (HT.sIx xs.length xs.length hi - HT.sIx xs.length 0 lo), IsTup.new _ _⟩, rfl, q2 hw _ _ (I.hok.fresh (Nat.le_refl _)) rfl⟩
def rCatX (K : PySem.W.Frag) : R2 := fun x y H Q => ∃ a b xs ys, x = .ref a ∧ y = .ref b ∧ SqT K H a xs ∧ SqT K H b ys ∧ xs.length + ys.length ≤ sizeLine ∧
  (xs = [] → Q (.ref b) H) ∧ (xs ≠ [] → ys = [] → Q (.ref a) H) ∧ (xs ≠ [] → ys ≠ [] → ∀ (p : Addr) (o : Obj), H p = none → o.dict = none → Q (.ref p) (upd H p (.frz o (.tup (xs ++ ys)))))
theorem op_catX : OpR X (binaryOp .Add) (rCatX X.K) := by
  intro pins s σ H x y v u Q I rx ry h
  obtain ⟨a, b, xs, ys, rfl, rfl, ha, hb, hz, q0, q1, q2⟩ := h
  cases rx
  cases ry
  obtain ⟨its, r1, p1, _⟩ := I.tuple ha
  obtain ⟨its2, r2, p2, _⟩ := I.tuple hb
  by_cases hx : xs = []
  · subst hx
    cases r1
    exact cat_tup0 p1 p2 ⟨.ref b, H, I, rfl, q0 rfl⟩
  · refine HT.cat_tup p1 p2 (fun z => hx (r1.nil_iff.mp z)) (fun z => ⟨.ref a, H, I, rfl, q1 hx (r2.nil_iff.mp z)⟩) (fun z => ?_) (by rw [← r1.length, ← r2.length]; exact hz)
    exact ⟨.ref s.heap.objs.size, _, I.laid (t' := s.toks) (o := .frz _ (.tup (xs ++ ys))) (fun b ob q => Heap.get?_push_of_some _ q) (Nat.le_refl _) ⟨Heap.get?_push_size _ rfl, by rw [List.length_append]; exact hz, _, r1.append r2, IsTup.new _ _⟩, rfl, q2 hx (fun w => z (r2.nil_iff.mpr w)) _ _ (I.hok.fresh (Nat.le_refl _)) rfl⟩
end
end Ev

/-! The evaluator, part C: operators on values, subscripts. -/
namespace Ev
open PySem PySem.Spec PyProof.Rows L2

/-! ### reading values -/
mutual
theorem Rep.dp {K : PySem.W.Frag} {H : Hp} {R : List Addr} : ∀ {d : D} {v : V}, Rep K H R d v → Dp K H v d.py
  | _, _, .non => by simp only [D.py]; exact Dp.non
  | _, _, .bl b => by simp only [D.py]; exact Dp.bl b
  | _, _, .int i => by simp only [D.py]; exact Dp.int i
  | _, _, .str x => by simp only [D.py]; exact Dp.str x
  | _, _, .tup h _ r => by simp only [D.py]; exact Dp.tup (.inl h.rd) (Reps.dp r)
  | _, _, .tupK h r => by
    simp only [D.py]
    exact Dp.tup h.sq (Reps.dp r)
  | _, _, .lst h _ r => by simp only [D.py]; exact Dp.lst (.inl h) (Reps.dp r)
  | _, _, .lstK h r => by simp only [D.py]; exact Dp.lst (.inr h) (Reps.dp r)
theorem Reps.dp {K : PySem.W.Frag} {H : Hp} {R : List Addr} : ∀ {d : List D} {v : List V}, Reps K H R d v → DpAll K H v (D.pys d)
  | _, _, .nil => by simp only [D.pys]; exact DpAll.nil
  | _, _, .cons h r => by simp only [D.pys]; exact DpAll.cons (Rep.dp h) (Reps.dp r)
end
def lookL (r : RV) (S : Sto) : Option (List D) := match r with
  | .d (.lst ds) => some ds
  | .o n => match S[n]? with
    | some (.lst ds) => some ds
    | _ => none
  | _ => none
def lookT : RV → Option (List D)
  | .d (.tup ds) => some ds
  | _ => none
/-- a list or a tuple -/
def lookQ (r : RV) (S : Sto) : Option (List D) := match lookL r S with
  | some ds => some ds
  | none => lookT r
/-- any data, owned lists too -/
def look (r : RV) (S : Sto) : Option D := match r with
  | .d x => some x
  | .o n => (match S[n]? with
    | some (.lst ds) => some (.lst ds)
    | _ => none)
  | .t _ => none
  | .fn _ => none
section
variable {P : Program} {w : World} {K : PySem.W.Frag} {H : Hp} {R m : List Addr} {S : Sto} {r : RV} {v : V} {ds : List D} {d : D}
theorem Rep.isT (h : Rep K H R (.tup ds) v) : ∃ a vs, v = .ref a ∧ SqT K H a vs ∧ Reps K H R ds vs := by
  cases h with
  | tup h n r => exact ⟨_, _, rfl, .inl h.rd, r⟩
  | tupK h r => exact ⟨_, _, rfl, h.sq, r⟩
theorem Rep.isL (h : Rep K H R (.lst ds) v) : ∃ a vs, v = .ref a ∧ SqL K H a vs ∧ Reps K H R ds vs := by
  cases h with
  | lst h n r => exact ⟨_, _, rfl, .inl h, r⟩
  | lstK h r => exact ⟨_, _, rfl, .inr h, r⟩
theorem lookL_view (hS : Sim tb P w K H R m S) (h : RepV tb K H R m r v) (e : lookL r S = some ds) : ∃ a vs, v = .ref a ∧ SqL K H a vs ∧ Reps K H R ds vs := by
  unfold lookL at e
  split at e
  · cases e
    exact Rep.isL h
  · rename_i n
    split at e
    · rename_i hn
      cases e
      obtain ⟨a, h1, rfl⟩ := h
      obtain ⟨vs, h2, h3⟩ := hS.at_ n a _ h1 hn
      exact ⟨a, vs, rfl, SqL.of h2, h3⟩
    · cases e
  · cases e
theorem lookT_view (h : RepV tb K H R m r v) (e : lookT r = some ds) : ∃ a vs, v = .ref a ∧ SqT K H a vs ∧ Reps K H R ds vs := by
  unfold lookT at e
  split at e
  · cases e
    exact Rep.isT h
  · cases e
theorem lookQ_view (hS : Sim tb P w K H R m S) (h : RepV tb K H R m r v) (e : lookQ r S = some ds) : ∃ a vs, v = .ref a ∧ (SqL K H a vs ∨ SqT K H a vs) ∧ Reps K H R ds vs := by
  unfold lookQ at e
  split at e
  · rename_i hl
    cases e
    obtain ⟨a, vs, h1, h2, h3⟩ := lookL_view hS h hl
    exact ⟨a, vs, h1, .inl h2, h3⟩
  · obtain ⟨a, vs, h1, h2, h3⟩ := lookT_view h e
    exact ⟨a, vs, h1, .inr h2, h3⟩
theorem look_dp (hS : Sim tb P w K H R m S) (h : RepV tb K H R m r v) (e : look r S = some d) : Dp K H v d.py := by
  unfold look at e
  split at e
  · cases e
    exact Rep.dp h
  · split at e
    · rename_i hn
      cases e
      obtain ⟨a, h1, rfl⟩ := h
      obtain ⟨vs, h2, h3⟩ := hS.at_ _ a _ h1 hn
      simp only [D.py]
      exact Dp.lst (SqL.of h2) (Reps.dp h3)
    · cases e
  · cases e
  · cases e
end

/-! ### operators -/
def Op2.or (a b : Op2) : Op2 := fun x y S => match a x y S with
  | some r => some r
  | none => b x y S
section
variable {X : Cx} {f g : Fe RV} {a b : Expr} {pos : Pos}
theorem OpV.or {r r' : R2} {p q : Op2} (h : OpV tb X r p) (h' : OpV tb X r' q) : OpV tb X (fun x y H Q => r x y H Q ∨ r' x y H Q) (p.or q) := by
  intro H R m S x y v u res hS hx hy e Q k
  unfold Op2.or at e
  split at e
  · rename_i z hz
    cases e
    exact .inl (h H R m S x y v u _ hS hx hy hz Q k)
  · exact .inr (h' H R m S x y v u _ hS hx hy e Q k)
def vI (p : Int → Int → Bool) (gg : Int → Int → D) : Op2 := fun x y _ => match x, y with
  | .d (.int i), .d (.int j) => if p i j = true then some (.d (gg i j)) else none
  | _, _ => none
theorem vI_some {p : Int → Int → Bool} {gg : Int → Int → D} {x y : RV} {S : Sto} {res : RV} (h : vI p gg x y S = some res) : ∃ i j, x = .d (.int i) ∧ y = .d (.int j) ∧ p i j = true ∧ res = .d (gg i j) := by
  unfold vI at h
  split at h
  · split at h
    · rename_i i j hp
      cases h
      exact ⟨i, j, rfl, rfl, hp, rfl⟩
    · cases h
  · cases h
theorem opv_I {C : Int → Int → Prop} {gg : Int → Int → Int} {p : Int → Int → Bool} (hp : ∀ i j, p i j = true → C i j) : OpV tb X (rI C fun i j => .int (gg i j)) (vI p fun i j => .int (gg i j)) := by
  intro H R m S x y v u res hS hx hy e Q k
  obtain ⟨i, j, rfl, rfl, h1, rfl⟩ := vI_some e
  cases hx; cases hy
  exact ⟨i, j, rfl, rfl, hp i j h1, k _ _ .refl hS (.int _)⟩
theorem opv_I0 {gg : Int → Int → Int} : OpV tb X (rI0 fun i j => .int (gg i j)) (vI (fun _ _ => true) fun i j => .int (gg i j)) := by
  intro H R m S x y v u res hS hx hy e Q k
  obtain ⟨i, j, rfl, rfl, h1, rfl⟩ := vI_some e
  cases hx; cases hy
  exact ⟨i, j, rfl, rfl, k _ _ .refl hS (.int _)⟩
theorem opv_B0 {gg : Int → Int → Bool} : OpV tb X (rI0 fun i j => .bl (gg i j)) (vI (fun _ _ => true) fun i j => .bl (gg i j)) := by
  intro H R m S x y v u res hS hx hy e Q k
  obtain ⟨i, j, rfl, rfl, h1, rfl⟩ := vI_some e
  cases hx; cases hy
  exact ⟨i, j, rfl, rfl, k _ _ .refl hS (.bl _)⟩
def vAddI : Op2 := vI (fun _ _ => true) fun i j => .int (i + j)
def vSub : Op2 := vI (fun _ _ => true) fun i j => .int (i - j)
def pMul (i j : Int) : Bool := (decide (-(2 ^ 64) < i) && decide (i < 2 ^ 64)) || (decide (-(2 ^ 64) < j) && decide (j < 2 ^ 64))
def vMul : Op2 := vI pMul fun i j => .int (i * j)
def pDiv (_ j : Int) : Bool := decide (0 < j) && decide (j < 1073741824)
def vDiv : Op2 := vI pDiv fun i j => .int (i / j)
def vMod : Op2 := vI (fun _ j => decide (0 < j)) fun i j => .int (i % j)
def pPow (i j : Int) : Bool := decide (0 ≤ j) && (decide (j ≤ 1000000) && decide (i.natAbs < 2 ^ 64))
def vPow : Op2 := vI pPow fun i j => .int (i ^ j.toNat)
def vShl : Op2 := vI pPow fun i j => .int (i * 2 ^ j.toNat)
def vShr : Op2 := vI (fun _ j => decide (0 ≤ j)) fun i j => .int (i / 2 ^ j.toNat)
def vAnd : Op2 := vI (fun _ _ => true) fun i j => .int (Builtin.bitAnd i j)
def vOr : Op2 := vI (fun _ _ => true) fun i j => .int (Builtin.bitOr i j)
def vXor : Op2 := vI (fun _ _ => true) fun i j => .int (Builtin.bitXor i j)
theorem ov_sub : OpV tb X (rI0 fun i j => .int (i - j)) vSub := opv_I0
theorem ov_mul : OpV tb X (rI CMul fun i j => .int (i * j)) vMul := opv_I fun i j h => by
  simp only [pMul, Bool.or_eq_true, Bool.and_eq_true, decide_eq_true_eq] at h
  exact h
theorem ov_div : OpV tb X (rI CDiv fun i j => .int (i / j)) vDiv := opv_I fun i j h => by
  simp only [pDiv, Bool.and_eq_true, decide_eq_true_eq] at h
  exact h
theorem ov_mod : OpV tb X (rI (fun _ j => 0 < j) fun i j => .int (i % j)) vMod := opv_I fun i j h => of_decide_eq_true h
theorem ov_pow : OpV tb X (rI CPow fun i j => .int (i ^ j.toNat)) vPow := opv_I fun i j h => by
  simp only [pPow, Bool.and_eq_true, decide_eq_true_eq] at h
  exact h
theorem ov_shl : OpV tb X (rI CPow fun i j => .int (i * 2 ^ j.toNat)) vShl := opv_I fun i j h => by
  simp only [pPow, Bool.and_eq_true, decide_eq_true_eq] at h
  exact h
theorem ov_shr : OpV tb X (rI (fun _ j => 0 ≤ j) fun i j => .int (i / 2 ^ j.toNat)) vShr := opv_I fun i j h => of_decide_eq_true h
theorem ov_and : OpV tb X (rI0 fun i j => .int (Builtin.bitAnd i j)) vAnd := opv_I0
theorem ov_or : OpV tb X (rI0 fun i j => .int (Builtin.bitOr i j)) vOr := opv_I0
theorem ov_xor : OpV tb X (rI0 fun i j => .int (Builtin.bitXor i j)) vXor := opv_I0

/-- tuples put together -/
def vCat : Op2 := fun x y _ => match x, y with
  | .d (.tup a), .d (.tup b) => if a.length + b.length ≤ Lim then some (.d (.tup (a ++ b))) else none
  | _, _ => none
theorem ov_cat : OpV tb X (rCatX X.K) vCat := by
  intro H R m S x y v u res hS hx hy e Q k
  unfold vCat at e
  split at e
  · rename_i a b
    split at e
    · rename_i hl
      cases e
      obtain ⟨p, vs, rfl, h1, h2⟩ := Rep.isT hx
      obtain ⟨q, us, rfl, h3, h4⟩ := Rep.isT hy
      refine ⟨p, q, vs, us, rfl, rfl, h1, h3, by rw [← h2.length, ← h4.length, lim_eq]; exact hl, fun e1 => ?_, fun e1 e2 => ?_, fun e1 e2 c o hc ho => ?_⟩
      · subst e1
        cases h2
        exact k _ _ .refl hS hy
      · subst e2
        cases h4
        rw [List.append_nil] at k
        exact k _ _ .refl hS hx
      · refine k _ _ (.new hc) (hS.new hc) (.tup ⟨o, ho, upd_same⟩ (hS.notR hc) ?_)
        exact (h2.ext (Ext.new hc) hS.sub).append (h4.ext (Ext.new hc) hS.sub)
    · cases e
  · cases e
def vAdd : Op2 := vAddI.or vCat
theorem ov_add : OpV tb X (fun x y H Q => rI0 (fun i j => .int (i + j)) x y H Q ∨ rCatX X.K x y H Q) vAdd := OpV.or opv_I0 ov_cat
theorem or_add : OpR X (binaryOp .Add) (fun x y H Q => rI0 (fun i j => .int (i + j)) x y H Q ∨ rCatX X.K x y H Q) := OpR.or op_add op_catX

/-! ### comparisons -/
def vLt : Op2 := vI (fun _ _ => true) fun i j => .bl (decide (i < j))
def vLe : Op2 := vI (fun _ _ => true) fun i j => .bl (decide (i ≤ j))
def vGt : Op2 := vI (fun _ _ => true) fun i j => .bl (decide (j < i))
def vGe : Op2 := vI (fun _ _ => true) fun i j => .bl (decide (j ≤ i))
theorem ov_lt : OpV tb X (rI0 fun i j => .bl (decide (i < j))) vLt := opv_B0
theorem ov_le : OpV tb X (rI0 fun i j => .bl (decide (i ≤ j))) vLe := opv_B0
theorem ov_gt : OpV tb X (rI0 fun i j => .bl (decide (j < i))) vGt := opv_B0
theorem ov_ge : OpV tb X (rI0 fun i j => .bl (decide (j ≤ i))) vGe := opv_B0

def D.ok (d : D) : Bool := SeqAt.shaped d.py
def D.eqv (a b : D) : Bool := PyData.eqv a.py b.py
def vData (gg : D → D → Bool) : Op2 := fun x y S => match look x S, look y S with
  | some a, some b => if (a.ok && b.ok) = true then some (.d (.bl (gg a b))) else none
  | _, _ => none
theorem vData_some {gg : D → D → Bool} {x y : RV} {S : Sto} {res : RV} (h : vData gg x y S = some res) : ∃ a b, look x S = some a ∧ look y S = some b ∧ a.ok = true ∧ b.ok = true ∧ res = .d (.bl (gg a b)) := by
  unfold vData at h
  split at h
  · rename_i a b h1 h2
    split at h
    · rename_i hp
      cases h
      rw [Bool.and_eq_true] at hp
      exact ⟨a, b, h1, h2, hp.1, hp.2, rfl⟩
    · cases h
  · cases h
def vEq : Op2 := vData D.eqv
def vNe : Op2 := vData fun a b => !D.eqv a b
theorem ov_eq : OpV tb X (rEqD X.K) vEq := by
  intro H R m S x y v u res hS hx hy e Q k
  obtain ⟨a, b, h1, h2, h3, h4, rfl⟩ := vData_some e
  exact ⟨a.py, b.py, look_dp hS hx h1, look_dp hS hy h2, h3, h4, k _ _ .refl hS (.bl _)⟩
theorem ov_ne : OpV tb X (rNeD X.K) vNe := by
  intro H R m S x y v u res hS hx hy e Q k
  obtain ⟨a, b, h1, h2, h3, h4, rfl⟩ := vData_some e
  exact ⟨a.py, b.py, look_dp hS hx h1, look_dp hS hy h2, h3, h4, k _ _ .refl hS (.bl _)⟩

/-- x in a list or a tuple -/
def rInT (K : PySem.W.Frag) (ng : Bool) : R2 := fun x y H Q => ∃ d ds, Dp K H x d ∧ Dp K H y (.tuple ds) ∧ SeqAt.shaped d = true ∧ SeqAt.shaped (.tuple ds) = true ∧ Q (.bl (if ng = true then !(ds.any fun z => PyData.eqv z d) else ds.any fun z => PyData.eqv z d)) H
theorem op_inT (hu : X.A.units + 65 < cLine) : OpR X (compareOp .In) (rInT X.K false) := by
  intro pins s σ H x y v u Q I rx ry h
  obtain ⟨d, ds, hd, he, sd, se, q⟩ := h
  obtain ⟨as, r1⟩ := Dp.reads I d x v hd rx
  obtain ⟨bs, r2⟩ := Dp.reads I (.tuple ds) y u he ry
  exact SeqAt.in_tuple_reads r2 r1 (SeqAt.canLay_of_shaped se) (SeqAt.canLay_of_shaped sd) (room_in_shaped sd hu) ⟨.bl _, H, I, rfl, q⟩
theorem op_notInT (hu : X.A.units + 65 < cLine) : OpR X (compareOp .NotIn) (rInT X.K true) := by
  intro pins s σ H x y v u Q I rx ry h
  obtain ⟨d, ds, hd, he, sd, se, q⟩ := h
  obtain ⟨as, r1⟩ := Dp.reads I d x v hd rx
  obtain ⟨bs, r2⟩ := Dp.reads I (.tuple ds) y u he ry
  exact SeqAt.notIn_tuple_reads r2 r1 (SeqAt.canLay_of_shaped se) (SeqAt.canLay_of_shaped sd) (room_in_shaped sd hu) ⟨.bl _, H, I, rfl, q⟩
theorem pys_any (d : D) : ∀ ds : List D, ((D.pys ds).any fun z => PyData.eqv z d.py) = ds.any fun z => D.eqv z d
  | [] => by simp [D.pys]
  | z :: ds => by simp [D.pys, pys_any d ds, D.eqv]
def inD (d : D) (ds : List D) : Bool := ds.any fun z => D.eqv z d
def vInL (ng : Bool) : Op2 := fun x y S => match look x S, lookL y S with
  | some d, some ds => if (d.ok && (D.lst ds).ok) = true then some (.d (.bl (if ng = true then !inD d ds else inD d ds))) else none
  | _, _ => none
def vInT (ng : Bool) : Op2 := fun x y S => match look x S, lookT y with
  | some d, some ds => if (d.ok && (D.tup ds).ok) = true then some (.d (.bl (if ng = true then !inD d ds else inD d ds))) else none
  | _, _ => none
theorem lookL_dp {P : Program} {w : World} {K : PySem.W.Frag} {H : Hp} {R m : List Addr} {S : Sto} {r : RV} {v : V} {ds : List D} (hS : Sim tb P w K H R m S) (h : RepV tb K H R m r v) (e : lookL r S = some ds) : Dp K H v (.list (D.pys ds)) := by
  obtain ⟨a, vs, rfl, h1, h2⟩ := lookL_view hS h e
  exact Dp.lst h1 (Reps.dp h2)
theorem lookT_dp {K : PySem.W.Frag} {H : Hp} {R m : List Addr} {r : RV} {v : V} {ds : List D} (h : RepV tb K H R m r v) (e : lookT r = some ds) : Dp K H v (.tuple (D.pys ds)) := by
  obtain ⟨a, vs, rfl, h1, h2⟩ := lookT_view h e
  exact Dp.tup h1 (Reps.dp h2)
theorem ov_inL : OpV tb X (rInD X.K) (vInL false) := by
  intro H R m S x y v u res hS hx hy e Q k
  unfold vInL at e
  split at e
  · rename_i d ds h1 h2
    split at e
    · rename_i hp
      cases e
      rw [Bool.and_eq_true] at hp
      refine ⟨d.py, D.pys ds, look_dp hS hx h1, lookL_dp hS hy h2, hp.1, hp.2, ?_⟩
      rw [pys_any]
      exact k _ _ .refl hS (.bl _)
    · cases e
  · cases e
theorem ov_notInL : OpV tb X (rNotInD X.K) (vInL true) := by
  intro H R m S x y v u res hS hx hy e Q k
  unfold vInL at e
  split at e
  · rename_i d ds h1 h2
    split at e
    · rename_i hp
      cases e
      rw [Bool.and_eq_true] at hp
      refine ⟨d.py, D.pys ds, look_dp hS hx h1, lookL_dp hS hy h2, hp.1, hp.2, ?_⟩
      rw [pys_any]
      exact k _ _ .refl hS (.bl _)
    · cases e
  · cases e
theorem ov_inT (ng : Bool) : OpV tb X (rInT X.K ng) (vInT ng) := by
  intro H R m S x y v u res hS hx hy e Q k
  unfold vInT at e
  split at e
  · rename_i d ds h1 h2
    split at e
    · rename_i hp
      cases e
      rw [Bool.and_eq_true] at hp
      refine ⟨d.py, D.pys ds, look_dp hS hx h1, lookT_dp hy h2, hp.1, hp.2, ?_⟩
      rw [pys_any]
      exact k _ _ .refl hS (.bl _)
    · cases e
  · cases e

/-- is None, is True -/
def vIsN (ng : Bool) : Op2 := fun x y _ => match y with
  | .d .non => some (.d (.bl (match x with
    | .d .non => !ng
    | _ => ng)))
  | _ => none
def vIsB (ng : Bool) : Op2 := fun x y _ => match x, y with
  | .d (.bl a), .d (.bl b) => some (.d (.bl (if ng = true then !decide (a = b) else decide (a = b))))
  | _, _ => none
theorem isN_rep {K : PySem.W.Frag} {H : Hp} {R m : List Addr} {x : RV} {v : V} (h : RepV tb K H R m x v) : decide (v = .non) = (match x with
    | .d .non => true
    | _ => false) := by
  cases x with
  | o n =>
    obtain ⟨a, _, rfl⟩ := h
    simp
  | t n =>
    cases h
    simp
  | fn φ =>
    obtain ⟨a, rfl, _⟩ := h
    simp
  | d x => cases h <;> simp
theorem ov_isN : OpV tb X (fun x y H Q => y = .non ∧ Q (.bl (decide (x = .non))) H) (vIsN false) := by
  intro H R m S x y v u res hS hx hy e Q k
  unfold vIsN at e
  split at e
  · cases e
    cases hy
    refine ⟨rfl, ?_⟩
    rw [isN_rep hx]
    refine k _ _ .refl hS ?_
    cases x with
    | o n => exact .bl _
    | t n => exact .bl _
    | fn φ => exact .bl _
    | d x => cases x <;> exact .bl _
  · cases e
theorem ov_notN : OpV tb X (fun x y H Q => y = .non ∧ Q (.bl (!decide (x = .non))) H) (vIsN true) := by
  intro H R m S x y v u res hS hx hy e Q k
  unfold vIsN at e
  split at e
  · cases e
    cases hy
    refine ⟨rfl, ?_⟩
    rw [isN_rep hx]
    refine k _ _ .refl hS ?_
    cases x with
    | o n => exact .bl _
    | t n => exact .bl _
    | fn φ => exact .bl _
    | d x => cases x <;> exact .bl _
  · cases e
theorem ov_isB : OpV tb X rIsB (vIsB false) := by
  intro H R m S x y v u res hS hx hy e Q k
  unfold vIsB at e
  split at e
  · cases e
    cases hx; cases hy
    exact ⟨_, _, rfl, rfl, k _ _ .refl hS (.bl _)⟩
  · cases e
theorem ov_notB : OpV tb X rNotB (vIsB true) := by
  intro H R m S x y v u res hS hx hy e Q k
  unfold vIsB at e
  split at e
  · cases e
    cases hx; cases hy
    exact ⟨_, _, rfl, rfl, k _ _ .refl hS (.bl _)⟩
  · cases e

/-! ### -a -/
def eNeg (f : Fe RV) : Fe RV := fMap f fun x _ => match x with
  | .d (.int i) => some (.d (.int (-i)))
  | _ => none
theorem e_neg (ha : PE X a (TV tb X f)) : PE X (.UnaryOp .USub a pos) (TV tb X (eNeg f)) := pe_weak (pe_un un_neg ha) fun σ H Q h => by
  obtain ⟨ρ, R, m, S, res, S', hE, hS, e, k⟩ := h
  obtain ⟨x, e1, e2⟩ := fMap_some e
  refine ⟨ρ, R, m, S, x, S', hE, hS, e1, fun v H1 R1 m1 x1 s1 r1 => ?_⟩
  split at e2
  · cases e2
    cases r1
    exact ⟨_, rfl, k _ _ _ _ x1 s1 (.int _)⟩
  · cases e2

/-! ### subscripts -/
def vIx : Op2 := fun x y S => match y with
  | .d (.int i) => (match lookQ x S with
    | some ds => (atI ds i).map RV.d
    | none => match x with
      | .d (.str z) => if z.length ≤ Lim then (atI z.cps.toList i).map fun c => .d (.str ⟨#[c]⟩) else none
      | _ => none)
  | _ => none
theorem Reps.atI {K : PySem.W.Frag} {H : Hp} {R : List Addr} {ds : List D} {vs : List V} {i : Int} {d : D} (r : Reps K H R ds vs) (e : atI ds i = some d) : ∃ v, L2.atI vs i = some v ∧ Rep K H R d v := by
  unfold L2.atI at e ⊢
  obtain ⟨j, h1, h2⟩ := Option.bind_eq_some_iff.mp e
  obtain ⟨v, h3, h4⟩ := r.get h2
  rw [r.length] at h1
  exact ⟨v, by rw [h1]; exact h3, h4⟩
theorem ov_ix : OpV tb X (rIx X.K) vIx := by
  intro H R m S x y v u res hS hx hy e Q k
  unfold vIx at e
  split at e
  · rename_i i
    cases hy
    split at e
    · rename_i ds hq
      obtain ⟨d, h1, rfl⟩ := Option.map_eq_some_iff.mp e
      obtain ⟨a, vs, rfl, h2, h3⟩ := lookQ_view hS hx hq
      obtain ⟨z, h4, h5⟩ := h3.atI h1
      rcases h2 with h2 | h2
      · exact .inl ⟨a, vs, i, z, rfl, rfl, h2, h4, k _ _ .refl hS h5⟩
      · exact .inr (.inl ⟨a, vs, i, z, rfl, rfl, h2, h4, k _ _ .refl hS h5⟩)
    · split at e
      · rename_i z _
        split at e
        · rename_i hl
          obtain ⟨c, h1, rfl⟩ := Option.map_eq_some_iff.mp e
          cases hx
          exact .inr (.inr ⟨z, i, c, rfl, rfl, by rw [lim_eq]; exact hl, h1, k _ _ .refl hS (.str _)⟩)
        · cases e
      · cases e
  · cases e
end
end Ev

/-! The evaluator, part D: argument lists, displays, calls of built-ins, methods of lists, slices, truth. -/
namespace Ev
open PySem PySem.Spec PyProof.Rows L2

/-! ### argument lists -/
def aNil : Fe (List RV) := fun _ S => some ([], S)
def aCons (f : Fe RV) (g : Fe (List RV)) : Fe (List RV) := fBind f fun x => fMap g fun xs _ => some (x :: xs)
section
variable {X : Cx} {e o : Expr} {es : List Expr} {pos : Pos} {f g : Fe RV} {h : Fe (List RV)}
theorem a_nil : PA X [] (TAs tb X aNil) := pa_weak pa_nil fun σ H Q ⟨ρ, R, m, S, r, S', hE, hS, e, k⟩ => by
  cases e
  exact k _ _ _ _ .refl hS .nil
theorem a_cons (ha : PE X e (TV tb X f)) (hr : PA X es (TAs tb X h)) (hs : starEach (e :: es) X.env = (false, eval e X.env) :: starEach es X.env) : PA X (e :: es) (TAs tb X (aCons f h)) :=
  pa_weak (pa_cons ha hr hs) fun σ H Q q => by
    obtain ⟨ρ, R, m, S, r, S', hE, hS, e, k⟩ := q
    obtain ⟨x, S1, e1, e2⟩ := fBind_some e
    obtain ⟨xs, e3, e4⟩ := fMap_some e2
    cases e4
    refine ⟨ρ, R, m, S, x, S1, hE, hS, e1, fun v H1 R1 m1 x1 s1 r1 => ?_⟩
    refine ⟨ρ, R1, m1, S1, xs, S', hE.ext x1 hS.sub, s1, e3, fun vs H2 R2 m2 x2 s2 r2 => ?_⟩
    exact k _ _ _ _ (x1.trans x2) s2 (.cons (r1.ext x2 s1.sub) r2)
def dsOf : List RV → Option (List D)
  | [] => some []
  | .d x :: r => (dsOf r).map fun xs => x :: xs
  | _ :: _ => none
theorem dsOf_reps {K : PySem.W.Frag} {H : Hp} {R m : List Addr} : ∀ {rs : List RV} {vs : List V} {ds : List D}, RepVs tb K H R m rs vs → dsOf rs = some ds → Reps K H R ds vs
  | _, _, _, .nil, e => by cases e; exact .nil
  | .d x :: r, _, _, .cons h t, e => by
    obtain ⟨xs, h1, rfl⟩ := Option.map_eq_some_iff.mp (show (dsOf r).map (fun xs => x :: xs) = some _ from e)
    exact .cons h (dsOf_reps t h1)
  | .o n :: r, _, _, .cons h t, e => by cases e
  | .t n :: r, _, _, .cons h t, e => by cases e
  | .fn _ :: r, _, _, .cons h t, e => by cases e
def aDs (h : Fe (List RV)) : Fe (List D) := fMap h fun rs _ => match dsOf rs with
  | some ds => if ds.length ≤ Lim then some ds else none
  | none => none
def eTup (h : Fe (List RV)) : Fe RV := fMap (aDs h) fun ds _ => some (.d (.tup ds))
theorem aDs_some {h : Fe (List RV)} {ρ : Env'} {S S' : Sto} {ds : List D} (q : aDs h ρ S = some (ds, S')) : ∃ rs, h ρ S = some (rs, S') ∧ dsOf rs = some ds ∧ ds.length ≤ Lim := by
  obtain ⟨rs, e1, e2⟩ := fMap_some q
  split at e2
  · rename_i ds' hd
    split at e2
    · rename_i hl
      cases e2
      exact ⟨rs, e1, hd, hl⟩
    · cases e2
  · cases e2
theorem e_tup {kk} (ha : PA X es (TAs tb X h)) : PE X (.Tuple es kk pos) (TV tb X (eTup h)) := pe_weak (pe_tupX ha) fun σ H Q q => by
  obtain ⟨ρ, R, m, S, r, S', hE, hS, e, k⟩ := q
  obtain ⟨ds, e1, e2⟩ := fMap_some e
  cases e2
  obtain ⟨rs, e3, e4, e5⟩ := aDs_some e1
  refine ⟨ρ, R, m, S, rs, S', hE, hS, e3, fun vs H1 R1 m1 x1 s1 r1 => ?_⟩
  have rr := dsOf_reps r1 e4
  refine ⟨by rw [← rr.length, lim_eq]; exact e5, fun p o hp ho => ?_⟩
  exact k _ _ _ _ (x1.trans (.new hp)) (s1.new hp) (.tup ⟨o, ho, upd_same⟩ (s1.notR hp) (rr.ext (.new hp) s1.sub))
/-- a list display: new, owned by none -/
theorem e_lst (ha : PA X es (TAs tb X h)) : PE X (.List es pos) (TL tb X (aDs h)) := pe_weak (pe_lst ha) fun σ H Q q => by
  obtain ⟨ρ, R, m, S, ds, S', hE, hS, e, k⟩ := q
  obtain ⟨rs, e3, e4, e5⟩ := aDs_some e
  refine ⟨ρ, R, m, S, rs, S', hE, hS, e3, fun vs H1 R1 m1 x1 s1 r1 => ?_⟩
  have rr := dsOf_reps r1 e4
  exact ⟨by rw [← rr.length, lim_eq]; exact e5, fun p hp => k _ _ _ _ _ x1 s1 hp rr e5⟩
/-- a new list as a value that none changes; as an owned one -/
def eVal (f : Fe (List D)) : Fe RV := fMap f fun ds _ => some (.d (.lst ds))
def eObj (f : Fe (List D)) : Fe RV := fun ρ S => (f ρ S).bind fun p => some (.o p.2.length, p.2 ++ [.lst p.1])
theorem e_val {f : Fe (List D)} (ha : PE X e (TL tb X f)) : PE X e (TV tb X (eVal f)) := pe_weak ha fun σ H Q q => by
  obtain ⟨ρ, R, m, S, r, S', hE, hS, e, k⟩ := q
  obtain ⟨ds, e1, e2⟩ := fMap_some e
  cases e2
  refine ⟨ρ, R, m, S, ds, S', hE, hS, e1, fun a vs H1 R1 m1 x1 s1 hn r1 hl => ?_⟩
  exact k _ _ _ _ (x1.trans (.new hn)) (s1.new hn) (.lst (.inl upd_same) (s1.notR hn) (r1.ext (.new hn) s1.sub))
theorem e_obj {f : Fe (List D)} (ha : PE X e (TL tb X f)) : PE X e (TV tb X (eObj f)) := pe_weak ha fun σ H Q q => by
  obtain ⟨ρ, R, m, S, r, S', hE, hS, e, k⟩ := q
  obtain ⟨⟨ds, S1⟩, e1, e2⟩ := bind_some e
  cases e2
  refine ⟨ρ, R, m, S, ds, S1, hE, hS, e1, fun a vs H1 R1 m1 x1 s1 hn r1 hl => ?_⟩
  refine k _ _ _ _ (x1.trans (.own hn)) (s1.own hn ⟨vs, upd_same, r1.ext (.own hn) s1.sub⟩) ⟨a, ?_, rfl⟩
  rw [← s1.len, List.getElem?_append_right (Nat.le_refl _), Nat.sub_self]
  rfl

/-! ### built-ins by values -/
abbrev Oc := List RV → Sto → Option RV
def CaV (tb : Tbs) (X : Cx) (r : List V → Hp → VK → Prop) (op : Oc) : Prop := ∀ (H : Hp) (R m : List Addr) (S : Sto) (rs : List RV) (vs : List V) (res : RV), Sim tb X.prog X.w X.K H R m S → RepVs tb X.K H R m rs vs → op rs S = some res →
  ∀ Q : VK, (∀ v' H', Ext H R m H' R m → Sim tb X.prog X.w X.K H' R m S → RepV tb X.K H' R m res v' → Q v' H') → r vs H Q
def eCall (op : Oc) (h : Fe (List RV)) : Fe RV := fMap h op
theorem tv_call {r : List V → Hp → VK → Prop} {op : Oc} (hv : CaV tb X r op) {σ : L2.St} {H : Hp} {Q : VK} (q : TV tb X (eCall op h) σ H Q) : tCB r (TAs tb X h) σ H Q := by
  obtain ⟨ρ, R, m, S, res, S', hE, hS, e, k⟩ := q
  obtain ⟨rs, e1, e2⟩ := fMap_some e
  refine ⟨ρ, R, m, S, rs, S', hE, hS, e1, fun vs H1 R1 m1 x1 s1 r1 => ?_⟩
  exact hv H1 R1 m1 S' rs vs res s1 r1 e2 Q fun v' H' x2 s2 r2 => k _ _ _ _ (x1.trans x2) s2 r2
/-- one that gives a new list -/
abbrev Ol := List RV → Sto → Option (List D)
def CaL (tb : Tbs) (X : Cx) (r : List V → Hp → VK → Prop) (op : Ol) : Prop := ∀ (H : Hp) (R m : List Addr) (S : Sto) (rs : List RV) (vs : List V) (res : List D), Sim tb X.prog X.w X.K H R m S → RepVs tb X.K H R m rs vs → op rs S = some res →
  ∀ Q : VK, (∀ a us, H a = none → Reps X.K H R res us → res.length ≤ Lim → Q (.ref a) (upd H a (.lst us))) → r vs H Q
def lCall (op : Ol) (h : Fe (List RV)) : Fe (List D) := fMap h op
theorem tl_call {r : List V → Hp → VK → Prop} {op : Ol} (hv : CaL tb X r op) {σ : L2.St} {H : Hp} {Q : VK} (q : TL tb X (lCall op h) σ H Q) : tCB r (TAs tb X h) σ H Q := by
  obtain ⟨ρ, R, m, S, res, S', hE, hS, e, k⟩ := q
  obtain ⟨rs, e1, e2⟩ := fMap_some e
  refine ⟨ρ, R, m, S, rs, S', hE, hS, e1, fun vs H1 R1 m1 x1 s1 r1 => ?_⟩
  exact hv H1 R1 m1 S' rs vs res s1 r1 e2 Q fun a us hn r2 hl => k a us H1 R1 m1 x1 s1 hn r2 hl

def Oc.or (p q : Oc) : Oc := fun rs S => match p rs S with
  | some x => some x
  | none => q rs S
theorem CaV.or {r r' : List V → Hp → VK → Prop} {p q : Oc} (h1 : CaV tb X r p) (h2 : CaV tb X r' q) : CaV tb X (fun xs H Q => r xs H Q ∨ r' xs H Q) (Oc.or p q) := by
  intro H R m S rs vs res hS hr e Q k
  unfold Oc.or at e
  split at e
  · rename_i z hz
    cases e
    exact .inl (h1 H R m S rs vs _ hS hr hz Q k)
  · exact .inr (h2 H R m S rs vs _ hS hr e Q k)
theorem rep1 {K : PySem.W.Frag} {H : Hp} {R m : List Addr} {x : RV} {vs : List V} (h : RepVs tb K H R m [x] vs) : ∃ v, vs = [v] ∧ RepV tb K H R m x v := by
  cases h with
  | cons h t => cases t; exact ⟨_, rfl, h⟩
theorem rep2 {K : PySem.W.Frag} {H : Hp} {R m : List Addr} {x y : RV} {vs : List V} (h : RepVs tb K H R m [x, y] vs) : ∃ v u, vs = [v, u] ∧ RepV tb K H R m x v ∧ RepV tb K H R m y u := by
  cases h with
  | cons h t =>
    cases t with
    | cons h2 t => cases t; exact ⟨_, _, rfl, h, h2⟩

/-- len -/
def bLen : Oc := fun rs S => match rs with
  | [x] => (match lookQ x S with
    | some ds => some (.d (.int ds.length))
    | none => match x with
      | .d (.str z) => if z.length ≤ Lim then some (.d (.int z.length)) else none
      | _ => none)
  | _ => none
theorem cv_len : CaV tb X (fun xs H Q => ∃ x n, xs = [x] ∧ LenV X.K x H n ∧ Q (.int n) H) bLen := by
  intro H R m S rs vs res hS hr e Q k
  unfold bLen at e
  split at e
  · rename_i x
    obtain ⟨v, rfl, hx⟩ := rep1 hr
    split at e
    · rename_i ds hq
      cases e
      obtain ⟨a, us, rfl, h1, h2⟩ := lookQ_view hS hx hq
      refine ⟨_, ds.length, rfl, ?_, k _ _ .refl hS (.int _)⟩
      rcases h1 with h1 | h1
      · exact .inl ⟨us, h1, h2.length⟩
      · exact .inr ⟨us, h1, h2.length⟩
    · split at e
      · rename_i z _
        split at e
        · rename_i hl
          cases e
          cases hx
          exact ⟨_, z.length, rfl, ⟨by rw [lim_eq]; exact hl, rfl⟩, k _ _ .refl hS (.int _)⟩
        · cases e
      · cases e
  · cases e

/-- bools, ints of a list -/
def blsOf : List D → Option (List Bool)
  | [] => some []
  | .bl b :: r => (blsOf r).map fun xs => b :: xs
  | _ :: _ => none
def intsOf : List D → Option (List Int)
  | [] => some []
  | .int b :: r => (intsOf r).map fun xs => b :: xs
  | _ :: _ => none
theorem blsOf_eq : ∀ {ds : List D} {bs : List Bool}, blsOf ds = some bs → ds = bs.map D.bl
  | [], _, e => by cases e; rfl
  | .bl b :: r, _, e => by
    obtain ⟨xs, h1, rfl⟩ := Option.map_eq_some_iff.mp (show (blsOf r).map (fun xs => b :: xs) = some _ from e)
    rw [blsOf_eq h1]; rfl
  | .non :: _, _, e | .int _ :: _, _, e | .str _ :: _, _, e | .tup _ :: _, _, e | .lst _ :: _, _, e => by cases e
theorem intsOf_eq : ∀ {ds : List D} {bs : List Int}, intsOf ds = some bs → ds = bs.map D.int
  | [], _, e => by cases e; rfl
  | .int b :: r, _, e => by
    obtain ⟨xs, h1, rfl⟩ := Option.map_eq_some_iff.mp (show (intsOf r).map (fun xs => b :: xs) = some _ from e)
    rw [intsOf_eq h1]; rfl
  | .non :: _, _, e | .bl _ :: _, _, e | .str _ :: _, _, e | .tup _ :: _, _, e | .lst _ :: _, _, e => by cases e
theorem reps_bls {K : PySem.W.Frag} {H : Hp} {R : List Addr} : ∀ {bs : List Bool} {vs : List V}, Reps K H R (bs.map D.bl) vs → vs = bs.map V.bl
  | [], _, h => by cases h; rfl
  | b :: bs, _, h => by
    cases h with
    | cons h t => cases h; rw [reps_bls t]; rfl
theorem reps_ints {K : PySem.W.Frag} {H : Hp} {R : List Addr} : ∀ {bs : List Int} {vs : List V}, Reps K H R (bs.map D.int) vs → vs = bs.map V.int
  | [], _, h => by cases h; rfl
  | b :: bs, _, h => by
    cases h with
    | cons h t => cases h; rw [reps_ints t]; rfl
def bBools (gg : List Bool → Bool) : Oc := fun rs S => match rs with
  | [x] => (match lookL x S with
    | some ds => (blsOf ds).map fun bs => .d (.bl (gg bs))
    | none => none)
  | _ => none
def bInts (gg : List Int → Int) : Oc := fun rs S => match rs with
  | [x] => (match lookL x S with
    | some ds => (intsOf ds).map fun bs => .d (.int (gg bs))
    | none => none)
  | _ => none
theorem bBools_some {gg : List Bool → Bool} {K : PySem.W.Frag} {P : Program} {w : World} {H : Hp} {R m : List Addr} {S : Sto} {rs : List RV} {vs : List V} {res : RV} (hS : Sim tb P w K H R m S) (hr : RepVs tb K H R m rs vs) (e : bBools gg rs S = some res) :
    ∃ a bs, vs = [.ref a] ∧ SqL K H a (bs.map V.bl) ∧ res = .d (.bl (gg bs)) := by
  unfold bBools at e
  split at e
  · obtain ⟨v, rfl, hx⟩ := rep1 hr
    split at e
    · rename_i ds hq
      obtain ⟨bs, h1, rfl⟩ := Option.map_eq_some_iff.mp e
      obtain ⟨a, us, rfl, h2, h3⟩ := lookL_view hS hx hq
      rw [blsOf_eq h1] at h3
      rw [reps_bls h3] at h2
      exact ⟨a, bs, rfl, h2, rfl⟩
    · cases e
  · cases e
theorem bInts_some {gg : List Int → Int} {K : PySem.W.Frag} {P : Program} {w : World} {H : Hp} {R m : List Addr} {S : Sto} {rs : List RV} {vs : List V} {res : RV} (hS : Sim tb P w K H R m S) (hr : RepVs tb K H R m rs vs) (e : bInts gg rs S = some res) :
    ∃ a bs, vs = [.ref a] ∧ SqL K H a (bs.map V.int) ∧ res = .d (.int (gg bs)) := by
  unfold bInts at e
  split at e
  · obtain ⟨v, rfl, hx⟩ := rep1 hr
    split at e
    · rename_i ds hq
      obtain ⟨bs, h1, rfl⟩ := Option.map_eq_some_iff.mp e
      obtain ⟨a, us, rfl, h2, h3⟩ := lookL_view hS hx hq
      rw [intsOf_eq h1] at h3
      rw [reps_ints h3] at h2
      exact ⟨a, bs, rfl, h2, rfl⟩
    · cases e
  · cases e
theorem cv_all : CaV tb X (rAll X.K) (bBools fun bs => bs.all id) := by
  intro H R m S rs vs res hS hr e Q k
  obtain ⟨a, bs, rfl, h1, rfl⟩ := bBools_some hS hr e
  exact ⟨a, bs, rfl, h1, k _ _ .refl hS (.bl _)⟩
theorem cv_any : CaV tb X (rAny X.K) (bBools fun bs => bs.any id) := by
  intro H R m S rs vs res hS hr e Q k
  obtain ⟨a, bs, rfl, h1, rfl⟩ := bBools_some hS hr e
  exact ⟨a, bs, rfl, h1, k _ _ .refl hS (.bl _)⟩
theorem cv_sum : CaV tb X (rSum X.K) (bInts List.sum) := by
  intro H R m S rs vs res hS hr e Q k
  obtain ⟨a, bs, rfl, h1, rfl⟩ := bInts_some hS hr e
  exact ⟨a, bs, rfl, h1, k _ _ .refl hS (.int _)⟩
/-- int -/
def bInt : Oc := fun rs _ => match rs with
  | [.d (.int i)] => some (.d (.int i))
  | [.d (.bl b)] => some (.d (.int (if b then 1 else 0)))
  | _ => none
theorem cv_int : CaV tb X (fun xs H Q => (∃ i, xs = [.int i] ∧ Q (.int i) H) ∨ ∃ k, xs = [.bl k] ∧ Q (.int (if k then 1 else 0)) H) bInt := by
  intro H R m S rs vs res hS hr e Q k
  unfold bInt at e
  split at e
  · cases e
    obtain ⟨v, rfl, hx⟩ := rep1 hr
    cases hx
    exact .inl ⟨_, rfl, k _ _ .refl hS (.int _)⟩
  · cases e
    obtain ⟨v, rfl, hx⟩ := rep1 hr
    cases hx
    exact .inr ⟨_, rfl, k _ _ .refl hS (.int _)⟩
  · cases e
/-- tuple -/
def bTup : Oc := fun rs S => match rs with
  | [x] => (lookQ x S).map fun ds => .d (.tup ds)
  | _ => none
theorem cv_tup : CaV tb X (fun xs H Q => ∃ p ys, xs = [.ref p] ∧ ((SqL X.K H p ys ∧ ∀ l o, H l = none → o.dict = none → Q (.ref l) (upd H l (.frz o (.tup ys)))) ∨ (SqT X.K H p ys ∧ Q (.ref p) H))) bTup := by
  intro H R m S rs vs res hS hr e Q k
  unfold bTup at e
  split at e
  · obtain ⟨v, rfl, hx⟩ := rep1 hr
    obtain ⟨ds, h1, rfl⟩ := Option.map_eq_some_iff.mp e
    unfold lookQ at h1
    split at h1
    · rename_i ds' hq
      cases h1
      obtain ⟨a, us, rfl, h2, h3⟩ := lookL_view hS hx hq
      refine ⟨a, us, rfl, .inl ⟨h2, fun l o hl ho => k _ _ (.new hl) (hS.new hl) ?_⟩⟩
      exact .tup ⟨o, ho, upd_same⟩ (hS.notR hl) (h3.ext (.new hl) hS.sub)
    · unfold lookT at h1
      split at h1
      · cases h1
        obtain ⟨a, us, rfl, h2, h3⟩ := Rep.isT hx
        exact ⟨a, us, rfl, .inr ⟨h2, k _ _ .refl hS hx⟩⟩
      · cases h1
  · cases e
/-- list -/
theorem sq_len {X : Cx} {pins : List (Addr × Obj)} {s : Shared} {σ : L2.St} {H : Hp} (I : Inv X pins σ H s) {a : Addr} {xs : List V} (h : SqL X.K H a xs ∨ SqT X.K H a xs) : xs.length ≤ sizeLine := by
  rcases h with h | h
  · obtain ⟨_, _, _, h⟩ := I.list h; exact h
  · obtain ⟨_, _, _, h⟩ := I.tuple h; exact h
def bLst : Ol := fun rs S => match rs with
  | [x] => (match lookQ x S with
    | some ds => if ds.length ≤ Lim then some ds else none
    | none => none)
  | _ => none
theorem cl_lst : CaL tb X (fun xs H Q => ∃ p ys, xs = [.ref p] ∧ (SqL X.K H p ys ∨ SqT X.K H p ys) ∧ ∀ l, H l = none → Q (.ref l) (upd H l (.lst ys))) bLst := by
  intro H R m S rs vs res hS hr e Q k
  unfold bLst at e
  split at e
  · obtain ⟨v, rfl, hx⟩ := rep1 hr
    split at e
    · rename_i ds hq
      split at e
      · rename_i hl
        cases e
        obtain ⟨a, us, rfl, h2, h3⟩ := lookQ_view hS hx hq
        exact ⟨a, us, rfl, h2, fun l hn => k l us hn h3 hl⟩
      · cases e
    · cases e
  · cases e
/-- isinstance -/
def tyOf (x : RV) (S : Sto) : Option Tn := match x with
  | .d .non => some .non
  | .d (.bl _) => some .bool
  | .d (.int _) => some .int
  | .d (.str _) => some .str
  | .d (.tup _) => some .tup
  | .d (.lst _) => some .lst
  | .o n => (match S[n]? with
    | some (.lst _) => some .lst
    | _ => none)
  | .t _ => none
  | .fn _ => none
def Tn.is (a b : Tn) : Bool := decide (a = b) || (decide (a = .bool) && decide (b = .int))
theorem kit_tn (a b : Tn) : kitB a.name b.name = some (a.is b) := by cases a <;> cases b <;> decide +kernel
def bIsi : Oc := fun rs S => match rs with
  | [x, .t b] => (tyOf x S).map fun a => .d (.bl (a.is b))
  | _ => none
theorem tyOf_x {P : Program} {w : World} {K : PySem.W.Frag} {H : Hp} {R m : List Addr} {S : Sto} {x : RV} {v : V} {a : Tn} (hS : Sim tb P w K H R m S) (h : RepV tb K H R m x v) (e : tyOf x S = some a) : TyX K H v (.type a.name) := by
  unfold tyOf at e
  split at e
  · cases e; cases h; exact .base .non
  · cases e; cases h; exact .base (.bl _)
  · cases e; cases h; exact .base (.int _)
  · cases e; cases h; exact .base (.str _)
  · cases e
    cases h with
    | tup h n r =>
      obtain ⟨o, _, h⟩ := h
      exact .fTuple h
    | tupK h r =>
      obtain ⟨o, its, n, h1, h2, _⟩ := h
      exact .kTuple h1 h2
  · cases e
    cases h with
    | lst h n r =>
      rcases h with h | ⟨o, h⟩
      · exact .base (.lst h)
      · exact .base (.frz h)
    | lstK h r =>
      obtain ⟨o, its, n, h1, h2, _⟩ := h
      exact .kList h1 h2
  · split at e
    · rename_i hn
      cases e
      obtain ⟨b, h1, rfl⟩ := h
      obtain ⟨vs, h2, h3⟩ := hS.at_ _ b _ h1 hn
      exact .base (.lst h2)
    · cases e
  · cases e
  · cases e
theorem cv_isi : CaV tb X (rIsi X.K) bIsi := by
  intro H R m S rs vs res hS hr e Q k
  unfold bIsi at e
  split at e
  · rename_i x b
    obtain ⟨a, h1, rfl⟩ := Option.map_eq_some_iff.mp e
    obtain ⟨v, u, rfl, hx, hy⟩ := rep2 hr
    cases (show u = .ty b.name from hy)
    exact ⟨v, _, _, _, a.is b, rfl, .ty _, tyOf_x hS hx h1, kit_ty (kit_tn a b), k _ _ .refl hS (.bl _)⟩
  · cases e
/-- max, min of two, abs -/
def bII (gg : Int → Int → Int) : Oc := fun rs _ => match rs with
  | [.d (.int i), .d (.int j)] => some (.d (.int (gg i j)))
  | _ => none
theorem cv_max2 : CaV tb X (fun xs H Q => ∃ i j, xs = [.int i, .int j] ∧ Q (.int (if j > i then j else i)) H) (bII fun i j => if j > i then j else i) := by
  intro H R m S rs vs res hS hr e Q k
  unfold bII at e
  split at e
  · cases e
    obtain ⟨v, u, rfl, hx, hy⟩ := rep2 hr
    cases hx; cases hy
    exact ⟨_, _, rfl, k _ _ .refl hS (.int _)⟩
  · cases e
theorem cv_min2 : CaV tb X (fun xs H Q => ∃ i j, xs = [.int i, .int j] ∧ Q (.int (if j < i then j else i)) H) (bII fun i j => if j < i then j else i) := by
  intro H R m S rs vs res hS hr e Q k
  unfold bII at e
  split at e
  · cases e
    obtain ⟨v, u, rfl, hx, hy⟩ := rep2 hr
    cases hx; cases hy
    exact ⟨_, _, rfl, k _ _ .refl hS (.int _)⟩
  · cases e
def bAbs : Oc := fun rs _ => match rs with
  | [.d (.int i)] => some (.d (.int (if i < 0 then -i else i)))
  | _ => none
theorem cv_abs : CaV tb X (fun xs H Q => ∃ i, xs = [.int i] ∧ Q (.int (if i < 0 then -i else i)) H) bAbs := by
  intro H R m S rs vs res hS hr e Q k
  unfold bAbs at e
  split at e
  · cases e
    obtain ⟨v, rfl, hx⟩ := rep1 hr
    cases hx
    exact ⟨_, rfl, k _ _ .refl hS (.int _)⟩
  · cases e

/-! ### a type's name as a value -/
def eTy (t : Tn) : Fe RV := fun _ S => some (.t t, S)
theorem e_ty {x : Str} {t : Tn} (hg : Gl X x) (hm : X.mg x = none) (hv : bootBuiltins x = some (.type t.name)) (hn : x ≠ "__name__") (hd : (x == ("__debug__" : Str)) = false) : PE X (.Name x pos) (TV tb X (eTy t)) :=
  pe_weak (pe_bltn (v := .ty t.name) hg hm hv rfl hn hd) fun σ H Q ⟨ρ, R, m, S, r, S', hE, hS, e, k⟩ => by
    cases e
    exact k _ _ _ _ .refl hS rfl

/-! ### methods of lists -/
def isObjL (r : RV) (S : Sto) : Option (Nat × List D) := match r with
  | .o n => (match S[n]? with
    | some (.lst ds) => some (n, ds)
    | _ => none)
  | _ => none
theorem objL_view {P : Program} {w : World} {K : PySem.W.Frag} {H : Hp} {R m : List Addr} {S : Sto} {r : RV} {v : V} {n : Nat} {ds : List D} (hS : Sim tb P w K H R m S) (h : RepV tb K H R m r v) (e : isObjL r S = some (n, ds)) :
    ∃ a vs, v = .ref a ∧ m[n]? = some a ∧ H a = some (.lst vs) ∧ Reps K H R ds vs ∧ S[n]? = some (.lst ds) := by
  unfold isObjL at e
  split at e
  · split at e
    · rename_i hn
      cases e
      obtain ⟨a, h1, rfl⟩ := h
      obtain ⟨vs, h2, h3⟩ := hS.at_ _ a _ h1 hn
      exact ⟨a, vs, rfl, h1, h2, h3, hn⟩
    · cases e
  · cases e
theorem tyL_of {K : PySem.W.Frag} {H : Hp} {a : Addr} {vs : List V} (h : H a = some (.lst vs)) : tyV K "list" (.ref a) H := .inl ⟨rfl, _, SqL.of h⟩
theorem chg_lst {P : Program} {w : World} {K : PySem.W.Frag} {H : Hp} {R m : List Addr} {S : Sto} {a : Addr} {n : Nat} {ds : List D} {vs us : List V} (hS : Sim tb P w K H R m S) (hn : m[n]? = some a) (h : H a = some (.lst vs)) (r : Reps K H R ds us) :
    Ext H R m (upd H a (.lst us)) R m ∧ Sim tb P w K (upd H a (.lst us)) R m (S.set n (.lst ds)) := by
  have hm := List.mem_of_getElem? hn
  have x := Ext.chg (H := H) (R := R) (o := .lst us) hm (by rw [h]; intro z; cases z)
  exact ⟨x, hS.chg hn ⟨us, upd_same, r.ext x hS.sub⟩⟩
/-- a method with no argument that changes the list -/
def eMl0 (op : List D → Option (RV × List D)) (f : Fe RV) : Fe RV := fun ρ S => (f ρ S).bind fun p => (isObjL p.1 p.2).bind fun q => (op q.2).bind fun z => some (z.1, p.2.set q.1 (.lst z.2))
def eMl1 (op : List D → RV → Sto → Option (RV × List D)) (f g : Fe RV) : Fe RV := fun ρ S => (f ρ S).bind fun p => (isObjL p.1 p.2).bind fun q => (g ρ p.2).bind fun y => (isObjL p.1 y.2).bind fun q2 => (op q2.2 y.1 y.2).bind fun z => some (z.1, y.2.set q2.1 (.lst z.2))
theorem tv_ml0 {r : V → List V → Hp → VK → Prop} {op : List D → Option (RV × List D)} (hv : ∀ (H : Hp) (R m : List Addr) (a : Addr) (vs : List V) (ds : List D) (z : RV × List D) (Q : VK), Reps X.K H R ds vs → H a = some (.lst vs) → op ds = some z →
      (∀ v us, RepV tb X.K H R m z.1 v → Reps X.K H R z.2 us → Q v (upd H a (.lst us))) → r (.ref a) [] H Q) {σ : L2.St} {H : Hp} {Q : VK} (q : TV tb X (eMl0 op f) σ H Q) : tBM0 X.K "list" r (TV tb X f) σ H Q := by
  obtain ⟨ρ, R, m, S, res, S', hE, hS, e, k⟩ := q
  obtain ⟨⟨x, S1⟩, e1, e2⟩ := bind_some e
  obtain ⟨⟨n, ds⟩, e3, e4⟩ := bind_some e2
  obtain ⟨z, e5, e6⟩ := bind_some e4
  cases e6
  refine ⟨ρ, R, m, S, x, S1, hE, hS, e1, fun v H1 R1 m1 x1 s1 r1 => ?_⟩
  obtain ⟨a, vs, rfl, h1, h2, h3, h4⟩ := objL_view s1 r1 e3
  refine ⟨tyL_of h2, hv H1 R1 m1 a vs ds z Q h3 h2 e5 fun v us hz hu => ?_⟩
  obtain ⟨x2, s2⟩ := chg_lst s1 h1 h2 hu
  exact k _ _ _ _ (x1.trans x2) s2 (hz.ext x2 s1.sub)
theorem tv_ml1 {r : V → List V → Hp → VK → Prop} {op : List D → RV → Sto → Option (RV × List D)} (hv : ∀ (H : Hp) (R m : List Addr) (S : Sto) (a : Addr) (vs : List V) (ds : List D) (y : RV) (yv : V) (z : RV × List D) (Q : VK), Sim tb X.prog X.w X.K H R m S → Reps X.K H R ds vs → H a = some (.lst vs) → RepV tb X.K H R m y yv → op ds y S = some z →
      (∀ v us, RepV tb X.K H R m z.1 v → Reps X.K H R z.2 us → Q v (upd H a (.lst us))) → r (.ref a) [yv] H Q) {σ : L2.St} {H : Hp} {Q : VK} (q : TV tb X (eMl1 op f g) σ H Q) : tBM X.K "list" r (TV tb X f) (TAs tb X (aCons g aNil)) σ H Q := by
  obtain ⟨ρ, R, m, S, res, S', hE, hS, e, k⟩ := q
  obtain ⟨⟨x, S1⟩, e1, e2⟩ := bind_some e
  obtain ⟨⟨n, ds⟩, e3, e4⟩ := bind_some e2
  obtain ⟨⟨y, S2⟩, e5, e6⟩ := bind_some e4
  obtain ⟨⟨n2, ds2⟩, e7, e8⟩ := bind_some e6
  obtain ⟨z, e9, e10⟩ := bind_some e8
  cases e10
  refine ⟨ρ, R, m, S, x, S1, hE, hS, e1, fun v H1 R1 m1 x1 s1 r1 => ?_⟩
  obtain ⟨a, vs, rfl, h1, h2, h3, h4⟩ := objL_view s1 r1 e3
  refine ⟨tyL_of h2, ρ, R1, m1, S1, [y], S2, hE.ext x1 hS.sub, s1, ?_, fun ws H2 R2 m2 x2 s2 r2 => ?_⟩
  · show aCons g aNil ρ S1 = some ([y], S2)
    unfold aCons fBind fMap aNil
    rw [e5]
    rfl
  obtain ⟨yv, rfl, ry⟩ := rep1 r2
  obtain ⟨a', vs', ea, g1, g2, g3, g4⟩ := objL_view s2 (r1.ext x2 s1.sub) e7
  cases ea
  refine hv H2 R2 m2 S2 a vs' ds2 y yv z Q s2 g3 g2 ry e9 fun v us hz hu => ?_
  obtain ⟨x3, s3⟩ := chg_lst s2 g1 g2 hu
  exact k _ _ _ _ ((x1.trans x2).trans x3) s3 (hz.ext x3 s2.sub)
def oPop (ds : List D) : Option (RV × List D) := (ds[ds.length - 1]?).map fun d => (.d d, ds.dropLast)
theorem Reps.dropLast {K : PySem.W.Frag} {H : Hp} {R : List Addr} {ds : List D} {vs : List V} (r : Reps K H R ds vs) : Reps K H R ds.dropLast vs.dropLast := by
  rw [List.dropLast_eq_take, List.dropLast_eq_take, r.length]
  exact r.take _
def oRev (ds : List D) : Option (RV × List D) := some (.d .non, ds.reverse)
def oApp (ds : List D) (y : RV) (_ : Sto) : Option (RV × List D) := match y with
  | .d d => if ds.length < Lim then some (.d .non, ds ++ [d]) else none
  | _ => none
def oExt (ds : List D) (y : RV) (S : Sto) : Option (RV × List D) := match y with
  | .d (.lst es) => if ds.length + es.length ≤ Lim then some (.d .non, ds ++ es) else none
  | _ => none
variable {apos cpos : Pos}
theorem e_pop (ho : PE X o (TV tb X f)) (hb : attributeBase o "pop" X.env (eval o X.env) = eval o X.env) (hl : (apos.endLine == cpos.line) = true) : PE X (.Call (.Attribute o "pop" apos) [] [] cpos) (TV tb X (eMl0 oPop f)) :=
  pe_weak (pe_bm0 PySem.F.plainAttrs_list PySem.F.slot_list_pop PySem.F.type_list_pop mt_pop ho hb hl) fun σ H Q q => by
    refine tv_ml0 (fun H R m a vs ds z Q hr ha e k => ?_) q
    obtain ⟨d, h1, rfl⟩ := Option.map_eq_some_iff.mp e
    obtain ⟨v, h2, h3⟩ := hr.get h1
    exact ⟨a, vs, v, rfl, rfl, ha, by rw [← hr.length]; exact h2, k v _ h3 hr.dropLast⟩
theorem e_reverse (ho : PE X o (TV tb X f)) (hb : attributeBase o "reverse" X.env (eval o X.env) = eval o X.env) (hl : (apos.endLine == cpos.line) = true) : PE X (.Call (.Attribute o "reverse" apos) [] [] cpos) (TV tb X (eMl0 oRev f)) :=
  pe_weak (pe_bm0 PySem.F.plainAttrs_list PySem.F.slot_list_reverse PySem.F.type_list_reverse mt_reverse ho hb hl) fun σ H Q q => by
    refine tv_ml0 (fun H R m a vs ds z Q hr ha e k => ?_) q
    cases e
    exact ⟨a, vs, rfl, rfl, ha, k .non _ .non hr.reverse⟩
theorem e_append (ho : PE X o (TV tb X f)) (ha : PE X e (TV tb X g)) (hb : attributeBase o "append" X.env (eval o X.env) = eval o X.env) (hl : (apos.endLine == cpos.line) = true) (hs : starEach [e] X.env = (false, eval e X.env) :: starEach [] X.env) :
    PE X (.Call (.Attribute o "append" apos) [e] [] cpos) (TV tb X (eMl1 oApp f g)) := by
  have hA : PA X [e] (TAs tb X (aCons g aNil)) := a_cons ha a_nil hs
  refine pe_weak (pe_bm PySem.F.plainAttrs_list PySem.F.slot_list_append PySem.F.type_list_append mt_append ho hA hb (by rw [hs]; rfl) hl hs rfl) fun σ H Q q => ?_
  refine tv_ml1 (fun H R m S a vs ds y yv z Q hS hr ha ry e k => ?_) q
  unfold oApp at e
  split at e
  · split at e
    · rename_i hl
      cases e
      exact ⟨a, vs, yv, rfl, rfl, ha, by rw [← hr.length, lim_eq]; exact hl, k .non _ .non (hr.append (.cons ry .nil))⟩
    · cases e
  · cases e
theorem e_append_one : True := trivial
end

/-! ### truth -/
def vTru (x : RV) (S : Sto) : Option Bool := match x with
  | .d .non => some false
  | .d (.bl b) => some b
  | .d (.int i) => some (i != 0)
  | .d (.str z) => if z.length ≤ Lim then some ((z.length : Int) != 0) else none
  | _ => (lookQ x S).map fun ds => !ds.isEmpty
theorem tru_view {P : Program} {w : World} {K : PySem.W.Frag} {H : Hp} {R m : List Addr} {S : Sto} {x : RV} {v : V} {b : Bool} (hS : Sim tb P w K H R m S) (h : RepV tb K H R m x v) (e : vTru x S = some b) : TruV K v H b := by
  unfold vTru at e
  split at e
  · cases e; cases h; exact rfl
  · cases e; cases h; exact rfl
  · cases e; cases h; exact rfl
  · split at e
    · rename_i hl
      cases e; cases h
      exact ⟨by rw [lim_eq]; exact hl, rfl⟩
    · cases e
  · obtain ⟨ds, h1, rfl⟩ := Option.map_eq_some_iff.mp e
    obtain ⟨a, us, rfl, h2, h3⟩ := lookQ_view hS h h1
    have he : ds.isEmpty = us.isEmpty := by cases h3 <;> rfl
    rcases h2 with h2 | h2
    · exact .inl ⟨us, h2, by rw [he]⟩
    · exact .inr (.inl ⟨us, h2, by rw [he]⟩)
def fTru (f : Fe RV) : Fe Bool := fMap f vTru
/-- what isTrue does with an expression that is no not, and, or, if, comparison -/
def plainT : Expr → Bool
  | .UnaryOp .Not _ _ => false
  | .BoolOp _ _ _ => false
  | .IfExp _ _ _ _ => false
  | .Compare _ _ _ _ => false
  | _ => true
theorem plainT_eq {e : Expr} {env : Env} (h : plainT e = true) (whole : Sem Value) : isTrue e env whole = (do let v ← whole; standAt e.pos; holding [v] (truthy v)) := by
  cases e with
  | UnaryOp op _ _ => cases op <;> first | rfl | cases h
  | BoolOp => cases h
  | IfExp => cases h
  | Compare => cases h
  | _ => rfl
theorem t_tru {X : Cx} {e : Expr} {f : Fe RV} (ha : PE X e (TV tb X f)) (he : plainT e = true) : PT X e (TB tb X (fTru f)) := pt_weak (pt_truth ha (plainT_eq he)) fun σ H Q q => by
  obtain ⟨ρ, R, m, S, res, S', hE, hS, e, k⟩ := q
  obtain ⟨x, e1, e2⟩ := fMap_some e
  exact ⟨ρ, R, m, S, x, S', hE, hS, e1, fun v H1 R1 m1 x1 s1 r1 => ⟨res, tru_view s1 r1 e2, k _ _ _ x1 s1⟩⟩

/-! ### slices -/
def cutD {α : Type} (xs : List α) (lo hi : Option Int) : List α := (xs.drop (HT.sIx xs.length 0 lo)).take (HT.sIx xs.length xs.length hi - HT.sIx xs.length 0 lo)
theorem Reps.cut {K : PySem.W.Frag} {H : Hp} {R : List Addr} {ds : List D} {vs : List V} (r : Reps K H R ds vs) (lo hi : Option Int) : Reps K H R (cutD ds lo hi) (cutV vs lo hi) := by
  unfold cutD cutV
  rw [r.length]
  exact (r.drop _).take _
abbrev Fo := Env' → Sto → Option (Option Int × Sto)
def TOp (tb : Tbs) (X : Cx) (f : Fo) : TO := fun σ H Q => ∃ (ρ : Env') (R m : List Addr) (S : Sto) (r : Option Int) (S' : Sto), RepE tb X.K H R m ρ σ ∧ Sim tb X.prog X.w X.K H R m S ∧ f ρ S = some (r, S') ∧
  ∀ H' R' m', Ext H R m H' R' m' → Sim tb X.prog X.w X.K H' R' m' S' → Q r H'
theorem po_weak {X : Cx} {e : Option Expr} {t t' : TO} (h : PO X e t) (w : ∀ σ H Q, t' σ H Q → t σ H Q) : PO X e t' := ⟨fun pins s σ H Q I q => h.run pins s σ H Q I (w _ _ _ q)⟩
def oNo : Fo := fun _ S => some (none, S)
def oSome (f : Fe RV) : Fo := fMap f fun x _ => match x with
  | .d (.int i) => some (some i)
  | _ => none
theorem o_none {X : Cx} : PO X none (TOp tb X oNo) := po_weak po_none fun σ H Q ⟨ρ, R, m, S, r, S', hE, hS, e, k⟩ => by
  cases e
  exact k _ _ _ .refl hS
theorem o_some {X : Cx} {e : Expr} {f : Fe RV} (h : PE X e (TV tb X f)) : PO X (some e) (TOp tb X (oSome f)) := po_weak (po_some h) fun σ H Q ⟨ρ, R, m, S, r, S', hE, hS, e, k⟩ => by
  obtain ⟨x, e1, e2⟩ := fMap_some e
  refine ⟨ρ, R, m, S, x, S', hE, hS, e1, fun v H1 R1 m1 x1 s1 r1 => ?_⟩
  split at e2
  · cases e2
    cases r1
    exact ⟨_, rfl, k _ _ _ x1 s1⟩
  · cases e2
/-- a slice of a tuple: a value -/
def fSl (f : Fe RV) (lo hi : Fo) : Fe (RV × Option Int × Option Int) := fBind f fun x => fBind lo fun l => fMap hi fun h _ => some (x, l, h)
def eSlT (f : Fe RV) (lo hi : Fo) : Fe RV := fMap (fSl f lo hi) fun z _ => (lookT z.1).map fun ds => .d (.tup (cutD ds z.2.1 z.2.2))
/-- of a list: new -/
def lSlL (f : Fe RV) (lo hi : Fo) : Fe (List D) := fMap (fSl f lo hi) fun z S => match lookL z.1 S with
  | some ds => if ds.length ≤ Lim then some (cutD ds z.2.1 z.2.2) else none
  | none => none
theorem cutD_len {α : Type} (xs : List α) (lo hi : Option Int) : (cutD xs lo hi).length ≤ xs.length := by
  unfold cutD
  rw [List.length_take, List.length_drop]
  omega
theorem cut_whole {α : Type} {xs : List α} {lo hi : Option Int} (h : HT.sIx xs.length 0 lo = 0 ∧ HT.sIx xs.length xs.length hi = xs.length) : cutD xs lo hi = xs := by
  unfold cutD
  rw [h.1, h.2]
  simp
theorem fSl_some {f : Fe RV} {lo hi : Fo} {ρ : Env'} {S S' : Sto} {z : RV × Option Int × Option Int} (h : fSl f lo hi ρ S = some (z, S')) : ∃ S1 S2, f ρ S = some (z.1, S1) ∧ lo ρ S1 = some (z.2.1, S2) ∧ hi ρ S2 = some (z.2.2, S') := by
  obtain ⟨x, S1, h1, h2⟩ := fBind_some h
  obtain ⟨l, S2, h3, h4⟩ := fBind_some h2
  obtain ⟨u, h5, h6⟩ := fMap_some h4
  cases h6
  exact ⟨S1, S2, h1, h3, h5⟩
theorem e_slT {X : Cx} {e : Expr} {f : Fe RV} {lo hi : Option Expr} {l u : Fo} {p2 pos : Pos} (he : PE X e (TV tb X f)) (hl : PO X lo (TOp tb X l)) (hu : PO X hi (TOp tb X u)) : PE X (.Subscript e (.Slice lo hi none p2) pos) (TV tb X (eSlT f l u)) :=
  pe_weak (pe_slice sl_tupX he hl hu) fun σ H Q ⟨ρ, R, m, S, r, S', hE, hS, e, k⟩ => by
    obtain ⟨z, e1, e2⟩ := fMap_some e
    obtain ⟨ds, e3, rfl⟩ := Option.map_eq_some_iff.mp e2
    obtain ⟨S1, S2, h1, h2, h3⟩ := fSl_some e1
    refine ⟨ρ, R, m, S, z.1, S1, hE, hS, h1, fun v H1 R1 m1 x1 s1 r1 => ?_⟩
    refine ⟨ρ, R1, m1, S1, z.2.1, S2, hE.ext x1 hS.sub, s1, h2, fun H2 R2 m2 x2 s2 => ?_⟩
    refine ⟨ρ, R2, m2, S2, z.2.2, S', (hE.ext x1 hS.sub).ext x2 s1.sub, s2, h3, fun H3 R3 m3 x3 s3 => ?_⟩
    have r3 := (r1.ext x2 s1.sub).ext x3 s2.sub
    obtain ⟨a, vs, rfl, h4, h5⟩ := lookT_view r3 e3
    refine ⟨a, vs, rfl, h4, fun hw => ?_, fun hw p o hp ho => ?_⟩
    · rw [← h5.length] at hw
      rw [cut_whole hw] at k
      refine k _ _ _ _ ((x1.trans x2).trans x3) s3 ?_
      unfold lookT at e3
      split at e3
      · rename_i z1 ds' hz
        cases e3
        rw [hz] at r3
        exact r3
      · cases e3
    · exact k _ _ _ _ (((x1.trans x2).trans x3).trans (.new hp)) (s3.new hp) (.tup ⟨o, ho, upd_same⟩ (s3.notR hp) ((h5.cut _ _).ext (.new hp) s3.sub))
theorem e_slL {X : Cx} {e : Expr} {f : Fe RV} {lo hi : Option Expr} {l u : Fo} {p2 pos : Pos} (he : PE X e (TV tb X f)) (hl : PO X lo (TOp tb X l)) (hu : PO X hi (TOp tb X u)) : PE X (.Subscript e (.Slice lo hi none p2) pos) (TL tb X (lSlL f l u)) :=
  pe_weak (pe_slice sl_list he hl hu) fun σ H Q ⟨ρ, R, m, S, r, S', hE, hS, e, k⟩ => by
    obtain ⟨z, e1, e2⟩ := fMap_some e
    obtain ⟨S1, S2, h1, h2, h3⟩ := fSl_some e1
    split at e2
    · rename_i ds e3
      split at e2
      · rename_i hlen
        cases e2
        refine ⟨ρ, R, m, S, z.1, S1, hE, hS, h1, fun v H1 R1 m1 x1 s1 r1 => ?_⟩
        refine ⟨ρ, R1, m1, S1, z.2.1, S2, hE.ext x1 hS.sub, s1, h2, fun H2 R2 m2 x2 s2 => ?_⟩
        refine ⟨ρ, R2, m2, S2, z.2.2, S', (hE.ext x1 hS.sub).ext x2 s1.sub, s2, h3, fun H3 R3 m3 x3 s3 => ?_⟩
        have r3 := (r1.ext x2 s1.sub).ext x3 s2.sub
        obtain ⟨a, vs, rfl, h4, h5⟩ := lookL_view s3 r3 e3
        exact ⟨a, vs, rfl, h4, fun p hp => k _ _ _ _ _ ((x1.trans x2).trans x3) s3 hp (h5.cut _ _) (Nat.le_trans (cutD_len _ _ _) hlen)⟩
      · cases e2
    · cases e2
/-- xs[::-1] of a list -/
def lRev (f : Fe RV) : Fe (List D) := fMap f fun x S => match lookL x S with
  | some ds => if ds.length ≤ Lim then some ds.reverse else none
  | none => none
theorem e_revL {X : Cx} {e : Expr} {f : Fe RV} {k : Nat} {p1 p2 p3 pos : Pos} (he : PE X e (TV tb X f)) : PE X (.Subscript e (.Slice none none (some (.UnaryOp .USub (.Constant (.int 1) k p1) p2)) p3) pos) (TL tb X (lRev f)) :=
  pe_weak (pe_revL he) fun σ H Q ⟨ρ, R, m, S, r, S', hE, hS, e, k⟩ => by
    obtain ⟨x, e1, e2⟩ := fMap_some e
    split at e2
    · rename_i ds e3
      split at e2
      · rename_i hlen
        cases e2
        refine ⟨ρ, R, m, S, x, S', hE, hS, e1, fun v H1 R1 m1 x1 s1 r1 => ?_⟩
        obtain ⟨a, vs, rfl, h4, h5⟩ := lookL_view s1 r1 e3
        exact ⟨a, vs, rfl, h4, fun p hp => k _ _ _ _ _ x1 s1 hp h5.reverse (by rw [List.length_reverse]; exact hlen)⟩
      · cases e2
    · cases e2
end Ev

/-! The evaluator, part E: what is walked, targets, comprehensions. -/
namespace Ev
open PySem PySem.Spec PyProof.Rows L2

/-! ### a source: what a loop walks; an owned list must stand as it was at each turn -/
structure Src where
  ds : List D
  gd : Option Nat
def Src.ok (s : Src) (S : Sto) : Bool := match s.gd with
  | none => true
  | some n => match S[n]? with
    | some (.lst es) => decide (es = s.ds)
    | _ => false
theorem Src.ok_at {s : Src} {S : Sto} {n : Nat} (h : s.ok S = true) (e : s.gd = some n) : S[n]? = some (.lst s.ds) := by
  unfold Src.ok at h
  rw [e] at h
  simp only at h
  split at h
  · rename_i es he
    rw [he, of_decide_eq_true h]
  · cases h
/-- what a walk gives: a value, or (lz) a new pair that is only unpacked -/
def RepL (lz : Bool) (K : PySem.W.Frag) (H : Hp) (R : List Addr) (d : D) (v : V) : Prop := Rep K H R d v ∨ (lz = true ∧ ∃ (a : Addr) (vs : List V) (ds : List D), d = .tup ds ∧ v = .ref a ∧ SqT K H a vs ∧ Reps K H R ds vs)
def RepVL (lz : Bool) (tb : Tbs) (K : PySem.W.Frag) (H : Hp) (R m : List Addr) (r : RV) (v : V) : Prop := match r with
  | .d d => RepL lz K H R d v
  | _ => RepV tb K H R m r v
theorem RepVL.of {lz : Bool} {tb : Tbs} {K : PySem.W.Frag} {H : Hp} {R m : List Addr} {r : RV} {v : V} (h : RepV tb K H R m r v) : RepVL lz tb K H R m r v := by
  cases r with
  | d d => exact .inl h
  | _ => exact h
theorem RepVL.get {tb : Tbs} {K : PySem.W.Frag} {H : Hp} {R m : List Addr} {r : RV} {v : V} (h : RepVL false tb K H R m r v) : RepV tb K H R m r v := by
  cases r with
  | d d => exact h.elim id fun z => by cases z.1
  | _ => exact h
theorem RepL.isT {lz : Bool} {K : PySem.W.Frag} {H : Hp} {R : List Addr} {ds : List D} {v : V} (h : RepL lz K H R (.tup ds) v) : ∃ a vs, v = .ref a ∧ SqT K H a vs ∧ Reps K H R ds vs := by
  rcases h with h | ⟨_, a, vs, es, e, h1, h2, h3⟩
  · exact Rep.isT h
  · cases e
    exact ⟨a, vs, h1, h2, h3⟩
theorem RepL.isL {lz : Bool} {K : PySem.W.Frag} {H : Hp} {R : List Addr} {ds : List D} {v : V} (h : RepL lz K H R (.lst ds) v) : ∃ a vs, v = .ref a ∧ SqL K H a vs ∧ Reps K H R ds vs := by
  rcases h with h | ⟨_, a, vs, es, e, h1, h2, h3⟩
  · exact Rep.isL h
  · cases e
def WalkOK (tb : Tbs) (X : Cx) (lz : Bool) (J : It) (s : Src) (H0 : Hp) (R0 m0 : List Addr) : Prop := ∃ (G : Hp → Prop) (Y : Nat → Hp → V → Hp → Prop), Walk J s.ds.length G Y ∧
  (∀ H R m S, Ext H0 R0 m0 H R m → Sim tb X.prog X.w X.K H R m S → s.ok S = true → G H) ∧
  (∀ i H R m S x H', i < s.ds.length → Ext H0 R0 m0 H R m → Sim tb X.prog X.w X.K H R m S → s.ok S = true → Y i H x H' → ∃ d, s.ds[i]? = some d ∧ Ext H R m H' R m ∧ Sim tb X.prog X.w X.K H' R m S ∧ RepL lz X.K H' R d x)
def TIs (tb : Tbs) (X : Cx) (lz : Bool) (f : Fe Src) : TI := fun σ H R' => ∃ (ρ : Env') (R m : List Addr) (S : Sto) (s : Src) (S' : Sto), RepE tb X.K H R m ρ σ ∧ Sim tb X.prog X.w X.K H R m S ∧ f ρ S = some (s, S') ∧
  ∀ J H' R1 m1, Ext H R m H' R1 m1 → Sim tb X.prog X.w X.K H' R1 m1 S' → WalkOK tb X lz J s H' R1 m1 → R' J H'
theorem pi_weak {X : Cx} {tg e : Expr} {t t' : TI} (h : PI X tg e t) (w : ∀ σ H Q, t' σ H Q → t σ H Q) : PI X tg e t' := ⟨fun pins s σ H Q I q => h.run pins s σ H Q I (w _ _ _ q)⟩
theorem pi_or {X : Cx} {tg e : Expr} {t t' : TI} (h : PI X tg e t) (h' : PI X tg e t') : PI X tg e (fun σ H Q => t σ H Q ∨ t' σ H Q) := ⟨fun pins s σ H Q I q => q.elim (h.run pins s σ H Q I) (h'.run pins s σ H Q I)⟩

/-- a list or a tuple as a source -/
def srcOf (x : RV) (S : Sto) : Option Src := match x with
  | .o n => (match S[n]? with
    | some (.lst ds) => some ⟨ds, some n⟩
    | _ => none)
  | .d (.lst ds) => some ⟨ds, none⟩
  | .d (.tup ds) => some ⟨ds, none⟩
  | _ => none
def sSeq (f : Fe RV) : Fe Src := fMap f srcOf
section
variable {X : Cx} {tg l : Expr} {f : Fe RV}
theorem walkLd {K : PySem.W.Frag} {P : Program} {w : World} {H0 : Hp} {R0 m0 : List Addr} {S0 : Sto} {v : V} {ds : List D} (hS : Sim tb P w K H0 R0 m0 S0) (h : Rep K H0 R0 (.lst ds) v) :
    ∃ a vs, v = .ref a ∧ SqL K H0 a vs ∧ Reps K H0 R0 ds vs ∧ (∀ H R m S, Ext H0 R0 m0 H R m → Sim tb P w K H R m S → SqL K H a vs ∧ Reps K H R ds vs) := by
  cases h with
  | lst h n r => exact ⟨_, _, rfl, .inl h, r, fun H R m S x s => ⟨.inl (Rd.mono h (by intro _ z; cases z) fun o q => x.keep _ o (fun z => n (hS.sub _ z)) q), r.ext x hS.sub⟩⟩
  | lstK h r => exact ⟨_, _, rfl, .inr h, r, fun H R m S x s => ⟨.inr h, r.ext x hS.sub⟩⟩
/-- a list that stands (owned, or not) walks -/
theorem walkL {K : PySem.W.Frag} {P : Program} {w : World} {H0 : Hp} {R0 m0 : List Addr} {S0 : Sto} {x : RV} {v : V} {ds : List D} (hS : Sim tb P w K H0 R0 m0 S0) (h : RepV tb K H0 R0 m0 x v) (e : lookL x S0 = some ds) :
    ∃ a vs s, v = .ref a ∧ SqL K H0 a vs ∧ srcOf x S0 = some s ∧ s.ds = ds ∧ Reps K H0 R0 ds vs ∧ s.ok S0 = true ∧ (∀ H R m S, Ext H0 R0 m0 H R m → Sim tb P w K H R m S → s.ok S = true → ∃ us, SqL K H a us ∧ Reps K H R ds us) := by
  unfold lookL at e
  split at e
  · cases e
    obtain ⟨a, vs, h1, h2, h3, h4⟩ := walkLd hS h
    exact ⟨a, vs, ⟨ds, none⟩, h1, h2, rfl, rfl, h3, rfl, fun H R m S x s ok => ⟨vs, h4 H R m S x s⟩⟩
  · rename_i n
    split at e
    · rename_i hn
      cases e
      obtain ⟨a, h1, rfl⟩ := h
      obtain ⟨vs, h2, h3⟩ := hS.at_ n a _ h1 hn
      refine ⟨a, vs, ⟨ds, some n⟩, rfl, SqL.of h2, ?_, rfl, h3, ?_, fun H R m S x s ok => ?_⟩
      · show (match S0[n]? with
          | some (.lst ds) => some (⟨ds, some n⟩ : Src)
          | _ => none) = _
        rw [hn]
      · show (match S0[n]? with
          | some (.lst es) => decide (es = ds)
          | _ => false) = true
        rw [hn]
        exact decide_eq_true rfl
      · have hs := Src.ok_at ok rfl
        obtain ⟨us, h4, h5⟩ := s.at_ n a _ (x.idx h1) hs
        exact ⟨us, SqL.of h4, h5⟩
    · cases e
  · cases e
theorem walkT {K : PySem.W.Frag} {P : Program} {w : World} {H0 : Hp} {R0 m0 : List Addr} {S0 : Sto} {v : V} {ds : List D} (hS : Sim tb P w K H0 R0 m0 S0) (h : Rep K H0 R0 (.tup ds) v) :
    ∃ a vs, v = .ref a ∧ SqT K H0 a vs ∧ Reps K H0 R0 ds vs ∧ (∀ H R m S, Ext H0 R0 m0 H R m → Sim tb P w K H R m S → SqT K H a vs ∧ Reps K H R ds vs) := by
  cases h with
  | tup h n r => exact ⟨_, _, rfl, .inl h.rd, r, fun H R m S x s => ⟨.inl (RdT.mono h fun o q => x.keep _ o (fun z => n (hS.sub _ z)) q).rd, r.ext x hS.sub⟩⟩
  | tupK h r => exact ⟨_, _, rfl, h.sq, r, fun H R m S x s => ⟨h.sq, r.ext x hS.sub⟩⟩
/-- a walk over a list from outside, item by item -/
theorem sqL_inj {K : PySem.W.Frag} {H : Hp} {a : Addr} {vs us : List V} {P : Program} {w : World} {h : Heap} (hok : HOk P w H h) (hk : K.In h) (x : SqL K H a vs) (y : SqL K H a us) : vs = us := by
  have to : ∀ {zs : List V}, SqL K H a zs → ∃ (its : List Value) (o : Obj) (n : Nat), Vals zs its ∧ h.get? a = some o ∧ o.data = .seq its.toArray n := fun {zs} q => by
    rcases q with q | ⟨o, its, n, h1, _, _, h2, _, h3⟩
    · obtain ⟨_, its, n, r, e⟩ := q.ok hok
      exact ⟨its, _, n, r, e, rfl⟩
    · exact ⟨its.toList, o, n, h3, hk a o h1, by simpa using h2⟩
  obtain ⟨i1, o1, n1, r1, e1, d1⟩ := to x
  obtain ⟨i2, o2, n2, r2, e2, d2⟩ := to y
  rw [e1] at e2; cases e2
  rw [d1] at d2
  injection d2 with d3 _
  have : i1 = i2 := by simpa using congrArg Array.toList d3
  subst this
  exact r1.inj r2
theorem i_seq (hl : PE X l (TV tb X f)) : PI X tg l (TIs tb X lz (sSeq f)) := pi_weak (pi_or (pi_list (tg := tg) hl) (pi_tup (tg := tg) hl)) fun σ H R' q => by
  obtain ⟨ρ, R, m, S, s, S', hE, hS, e, k⟩ := q
  obtain ⟨x, e1, e2⟩ := fMap_some e
  have hx : (∃ ds, lookL x S' = some ds) ∨ ∃ ds, x = .d (.tup ds) := by
    unfold srcOf at e2
    split at e2
    · split at e2
      · rename_i n ds hn
        exact .inl ⟨ds, by unfold lookL; simp only [hn]⟩
      · cases e2
    · exact .inl ⟨_, rfl⟩
    · exact .inr ⟨_, rfl⟩
    · cases e2
  rcases hx with ⟨ds, hl⟩ | ⟨ds, rfl⟩
  · left
    refine ⟨ρ, R, m, S, x, S', hE, hS, e1, fun v H1 R1 m1 x1 s1 r1 => ?_⟩
    obtain ⟨a, vs, s', rfl, h1, h2, h3, h4, h5, h6⟩ := walkL s1 r1 hl
    rw [e2] at h2; cases h2
    refine ⟨a, rfl, ⟨vs, h1⟩, k _ _ _ _ x1 s1 ?_⟩
    refine ⟨fun H => ∃ us, SqL X.K H a us ∧ us.length = s.ds.length, fun i H x H' => H' = H ∧ ∀ us, SqL X.K H a us → us[i]? = some x, ⟨fun i H hi ⟨us, g1, g2⟩ => ?_, fun H ⟨us, g1, g2⟩ => ⟨us, g1, by omega⟩, fun i H x H' hi g y => y⟩, fun H R m S x s ok => ?_, fun i H R m S x H' hi xt st ok y => ?_⟩
    · have hj : i < us.length := by omega
      exact ⟨us, us[i], g1, by simp [hj]⟩
    · obtain ⟨us, g1, g2⟩ := h6 H R m S x s ok
      exact ⟨us, g1, by rw [h3, ← g2.length]⟩
    · obtain ⟨us, g1, g2⟩ := h6 H R m S xt st ok
      obtain ⟨rfl, y⟩ := y
      rw [h3] at hi ⊢
      have hd : ds[i]? = some ds[i] := by simp [hi]
      obtain ⟨u, g3, g4⟩ := g2.get hd
      have g5 := y us g1
      rw [g3] at g5; cases g5
      exact ⟨_, hd, .refl, st, .inl g4⟩
  · right
    cases e2
    refine ⟨ρ, R, m, S, _, S', hE, hS, e1, fun v H1 R1 m1 x1 s1 r1 => ?_⟩
    obtain ⟨a, vs, rfl, h1, h2, h3⟩ := walkT s1 r1
    refine ⟨a, rfl, ⟨vs, h1⟩, k _ _ _ _ x1 s1 ?_⟩
    refine ⟨fun H => SqT X.K H a vs, YAt vs, by show Walk _ ds.length _ _; rw [h2.length]; exact walk_tup, fun H R m S x s ok => (h3 H R m S x s).1, fun i H R m S x H' hi xt st ok y => ?_⟩
    obtain ⟨rfl, y⟩ := y
    have g2 := (h3 _ R m S xt st).2
    have hd : ds[i]? = some ds[i] := by simp [show i < ds.length from hi]
    obtain ⟨u, g3, g4⟩ := g2.get hd
    rw [g3] at y; cases y
    exact ⟨_, hd, .refl, st, .inl g4⟩

/-! ### range -/
def rng (lo : Int) (n : Nat) : List D := (List.range n).map fun (i : Nat) => .int (lo + (i : Int))
theorem rng_at (lo : Int) {n i : Nat} (h : i < n) : (rng lo n)[i]? = some (.int (lo + i)) := by
  unfold rng
  simp [h]
theorem rng_len (lo : Int) (n : Nat) : (rng lo n).length = n := by unfold rng; simp
def small62 (i : Int) : Bool := decide (-(2 ^ 62) ≤ i) && decide (i < 2 ^ 62)
theorem small62_ok {i : Int} (h : small62 i = true) : -(2 ^ 62) ≤ i ∧ i < 2 ^ 62 := by
  unfold small62 at h
  rw [Bool.and_eq_true, decide_eq_true_eq, decide_eq_true_eq] at h
  exact h
def oR1 (rs : List RV) (_ : Sto) : Option Src := match rs with
  | [.d (.int j)] => if small62 j = true then some ⟨rng 0 j.toNat, none⟩ else none
  | _ => none
def oR2 (rs : List RV) (_ : Sto) : Option Src := match rs with
  | [.d (.int i), .d (.int j)] => if (small62 i && small62 j) = true then some ⟨rng i (j - i).toNat, none⟩ else none
  | _ => none
/-- a range downwards by ones -/
def rngD (lo : Int) (n : Nat) : List D := (List.range n).map fun (i : Nat) => .int (lo - (i : Int))
def oR3 (rs : List RV) (_ : Sto) : Option Src := match rs with
  | [.d (.int i), .d (.int j), .d (.int (-1))] => if (small62 i && small62 j) = true then some ⟨rngD i (i - j).toNat, none⟩ else none
  | _ => none
theorem walkOK_rng (lo : Int) (n : Nat) (H0 : Hp) (R0 m0 : List Addr) : WalkOK tb X lz (Itr lo n) ⟨rng lo n, none⟩ H0 R0 m0 := by
  refine ⟨fun _ => True, YFn fun i => .int (lo + i), by show Walk _ (rng lo n).length _ _; rw [rng_len]; exact walk_range, fun _ _ _ _ _ _ _ => trivial, fun i H R m S x H' hi xt st ok y => ?_⟩
  obtain ⟨rfl, rfl⟩ := y
  rw [rng_len] at hi
  exact ⟨_, rng_at lo hi, .refl, st, .inl (.int _)⟩
variable {a b c : Expr} {pos p : Pos} {h : Fe (List RV)}
theorem i_range1 (hg : Gl X "range") (hm : X.mg "range" = none) (ha : PA X [a] (TAs tb X h)) (hs : starEach [a] X.env = [(false, eval a X.env)]) : PI X tg (.Call (.Name "range" p) [a] [] pos) (TIs tb X lz (fMap h oR1)) :=
  pi_weak (pi_range1 hg hm ha hs) fun σ H R' q => by
    obtain ⟨ρ, R, m, S, s, S', hE, hS, e, k⟩ := q
    obtain ⟨rs, e1, e2⟩ := fMap_some e
    refine ⟨ρ, R, m, S, rs, S', hE, hS, e1, fun vs H1 R1 m1 x1 s1 r1 => ?_⟩
    unfold oR1 at e2
    split at e2
    · split at e2
      · rename_i j hj
        cases e2
        obtain ⟨v, rfl, hv⟩ := rep1 r1
        cases hv
        have q := small62_ok hj
        exact ⟨j, rfl, q.1, q.2, k _ _ _ _ x1 s1 (walkOK_rng 0 _ _ _ _)⟩
      · cases e2
    · cases e2
theorem i_range2 (hg : Gl X "range") (hm : X.mg "range" = none) (ha : PA X [a, b] (TAs tb X h)) (hs : starEach [a, b] X.env = [(false, eval a X.env), (false, eval b X.env)]) (hs2 : starEach [b] X.env = [(false, eval b X.env)]) : PI X tg (.Call (.Name "range" p) [a, b] [] pos) (TIs tb X lz (fMap h oR2)) :=
  pi_weak (pi_range2 hg hm ha hs hs2) fun σ H R' q => by
    obtain ⟨ρ, R, m, S, s, S', hE, hS, e, k⟩ := q
    obtain ⟨rs, e1, e2⟩ := fMap_some e
    refine ⟨ρ, R, m, S, rs, S', hE, hS, e1, fun vs H1 R1 m1 x1 s1 r1 => ?_⟩
    unfold oR2 at e2
    split at e2
    · split at e2
      · rename_i i j hj
        cases e2
        obtain ⟨v, u, rfl, hv, hu⟩ := rep2 r1
        cases hv; cases hu
        rw [Bool.and_eq_true] at hj
        have q1 := small62_ok hj.1
        have q2 := small62_ok hj.2
        exact ⟨i, j, rfl, ⟨q1.1, q1.2, q2.1, q2.2⟩, k _ _ _ _ x1 s1 (walkOK_rng i _ _ _ _)⟩
      · cases e2
    · cases e2

/-! ### zip of two lists, of two tuples -/
def zipD : List D → List D → List D
  | a :: as, b :: bs => .tup [a, b] :: zipD as bs
  | _, _ => []
theorem zipD_len : ∀ as bs : List D, (zipD as bs).length = min as.length bs.length
  | [], _ => by simp [zipD]
  | _ :: _, [] => by simp [zipD]
  | a :: as, b :: bs => by simp [zipD, zipD_len as bs]
theorem zipD_at : ∀ {as bs : List D} {i : Nat} {a b : D}, as[i]? = some a → bs[i]? = some b → (zipD as bs)[i]? = some (.tup [a, b])
  | [], _, _, _, _, h, _ => by simp at h
  | _ :: _, [], _, _, _, _, h => by simp at h
  | x :: as, y :: bs, 0, a, b, h1, h2 => by
    simp at h1 h2
    subst h1; subst h2
    rfl
  | x :: as, y :: bs, i + 1, a, b, h1, h2 => by
    simp at h1 h2
    show (zipD as bs)[i]? = _
    exact zipD_at h1 h2
/-- zip of two values that are both lists, or both tuples (none of them owned) -/
def oZip (rs : List RV) (_ : Sto) : Option Src := match rs with
  | [.d (.lst as), .d (.lst bs)] => some ⟨zipD as bs, none⟩
  | [.d (.tup as), .d (.tup bs)] => some ⟨zipD as bs, none⟩
  | _ => none
/-- a new pair at each turn -/
theorem pair_turn {H H' : Hp} {R m : List Addr} {S : Sto} {T : Addr} {x y : V} {a b : D} (st : Sim tb X.prog X.w X.K H R m S) (hT : H T = none) (e : H' = upd H T (.tup [x, y])) (ra : Rep X.K H R a x) (rb : Rep X.K H R b y) :
    Ext H R m H' R m ∧ Sim tb X.prog X.w X.K H' R m S ∧ RepL true X.K H' R (.tup [a, b]) (.ref T) := by
  subst e
  refine ⟨.new hT, st.new hT, .inr ⟨rfl, T, [x, y], [a, b], rfl, rfl, .inl (.inl upd_same), .cons ?_ (.cons ?_ .nil)⟩⟩
  · exact ra.ext (Ext.new (m := m) hT) st.sub
  · exact rb.ext (Ext.new (m := m) hT) st.sub
theorem min_split {i a b : Nat} (h : i < min a b) : i < a ∧ i < b := by omega
theorem i_zip {elts : List Expr} {kk : Nat} {tpos : Pos} (hg : Gl X "zip") (hm : X.mg "zip" = none) (ha : PA X [a, b] (TAs tb X h)) (hs : starEach [a, b] X.env = (false, eval a X.env) :: starEach [b] X.env) (hpl : (backTo pos (starEach [b] X.env)).any (·.1) = false) :
    PI X (.Tuple elts kk tpos) (.Call (.Name "zip" p) [a, b] [] pos) (TIs tb X true (fMap h oZip)) :=
  pi_weak (RZ.pi_zipA hg hm ha hs hpl) fun σ H R' q => by
    obtain ⟨ρ, R, m, S, s, S', hE, hS, e, k⟩ := q
    obtain ⟨rs, e1, e2⟩ := fMap_some e
    refine ⟨ρ, R, m, S, rs, S', hE, hS, e1, fun vs H1 R1 m1 x1 s1 r1 => ?_⟩
    unfold oZip at e2
    split at e2
    · rename_i as bs
      cases e2
      obtain ⟨v, u, rfl, hv, hu⟩ := rep2 r1
      obtain ⟨ax, vx, rfl, hx, rx, kx⟩ := walkLd s1 hv
      obtain ⟨ay, vy, rfl, hy, ry, ky⟩ := walkLd s1 hu
      refine ⟨ax, ay, vx, vy, rfl, .inl ⟨hx, hy, k _ _ _ _ x1 s1 ?_⟩⟩
      refine ⟨_, _, walk_zip (K := X.K) (a := ax) (b := ay) (xs := vx) (ys := vy) (n := (zipD as bs).length) (by rw [zipD_len, rx.length, ry.length]), fun H R m S x s ok => ⟨(kx H R m S x s).1, (ky H R m S x s).1⟩, fun i H R m S x H' hi xt st ok y => ?_⟩
      obtain ⟨T, x0, y0, rfl, hT, eH, g1, g2⟩ := y
      obtain ⟨hi1, hi2⟩ := min_split (show i < min as.length bs.length by rw [← zipD_len]; exact hi)
      have hd1 : as[i]? = some as[i] := by simp [hi1]
      have hd2 : bs[i]? = some bs[i] := by simp [hi2]
      obtain ⟨u1, g3, g4⟩ := (rx.ext xt s1.sub).get hd1
      obtain ⟨u2, g5, g6⟩ := (ry.ext xt s1.sub).get hd2
      have g1 : vx[i]? = some x0 := g1
      have g2 : vy[i]? = some y0 := g2
      rw [g3] at g1; cases g1
      rw [g5] at g2; cases g2
      exact ⟨_, zipD_at hd1 hd2, pair_turn st hT eH g4 g6⟩
    · rename_i as bs
      cases e2
      obtain ⟨v, u, rfl, hv, hu⟩ := rep2 r1
      obtain ⟨ax, vx, rfl, hx, rx, kx⟩ := walkT s1 hv
      obtain ⟨ay, vy, rfl, hy, ry, ky⟩ := walkT s1 hu
      refine ⟨ax, ay, vx, vy, rfl, .inr ⟨hx, hy, k _ _ _ _ x1 s1 ?_⟩⟩
      refine ⟨fun H => SqT X.K H ax vx ∧ SqT X.K H ay vy, YPair (fun i => vx[i]?) (fun i => vy[i]?), ⟨fun i H hi g => ?_, fun H g => ⟨vx, vy, g.1, g.2, ?_⟩, fun i H x H' hi g y => ?_⟩, fun H R m S x s ok => ⟨(kx H R m S x s).1, (ky H R m S x s).1⟩, fun i H R m S x H' hi xt st ok y => ?_⟩
      · obtain ⟨hi1, hi2⟩ := min_split (show i < min as.length bs.length by rw [← zipD_len]; exact hi)
        rw [rx.length] at hi1
        rw [ry.length] at hi2
        exact ⟨vx, vy, vx[i], vy[i], g.1, g.2, by simp [hi1], by simp [hi2]⟩
      · show vx.length ≤ (zipD as bs).length ∨ vy.length ≤ (zipD as bs).length
        rw [zipD_len, rx.length, ry.length]
        omega
      · obtain ⟨T, x0, y0, h1, h2, h3, h4, h5⟩ := y
        exact ⟨T, x0, y0, h1, h2, h3, h4 vx g.1, h5 vy g.2⟩
      · obtain ⟨T, x0, y0, rfl, hT, eH, g1, g2⟩ := y
        obtain ⟨hi1, hi2⟩ := min_split (show i < min as.length bs.length by rw [← zipD_len]; exact hi)
        have hd1 : as[i]? = some as[i] := by simp [hi1]
        have hd2 : bs[i]? = some bs[i] := by simp [hi2]
        obtain ⟨u1, g3, g4⟩ := ((kx H R m S xt st).2).get hd1
        obtain ⟨u2, g5, g6⟩ := ((ky H R m S xt st).2).get hd2
        have g1 : vx[i]? = some x0 := g1
        have g2 : vy[i]? = some y0 := g2
        rw [g3] at g1; cases g1
        rw [g5] at g2; cases g2
        exact ⟨_, zipD_at hd1 hd2, pair_turn st hT eH g4 g6⟩
    · cases e2
end
end Ev

/-! The evaluator, part I: enumerate over a tuple; over what a source is. -/
namespace Ev
open PySem PySem.Spec PyProof.Rows L2

def IteT (K : PySem.W.Frag) (a : Addr) : It :=
  ⟨fun i H => ∃ (xs : List V) (x : V), SqT K H a xs ∧ xs[i]? = some x, fun i H v H' => ∃ T x, v = .ref T ∧ H T = none ∧ H' = upd H T (.tup [.int (i : Nat), x]) ∧ ∀ xs, SqT K H a xs → xs[i]? = some x, fun i H => ∃ xs : List V, SqT K H a xs ∧ xs.length ≤ i⟩
theorem turn_enumT {P : Program} {w : World} {K : PySem.W.Frag} {elts : List Expr} {kk : Nat} {tpos : Pos} (a e it : Addr) :
    Turn P w K (.Tuple elts kk tpos) (IteT K a) [e, it] e (fun i h => (∃ old, IsEnum h e it ((i : Nat) : Int) old) ∧ h.IsTupleIter it a i ∧ e ≠ it) where
  mem := List.mem_cons_self
  obj := fun i h st b hb => by
    obtain ⟨⟨old, he⟩, ⟨o, ho, hc, hd⟩, _⟩ := st
    rcases List.mem_cons.mp hb with z | z
    · subst z; exact ⟨_, he, fun v q => nomatch q⟩
    · have z := List.mem_singleton.mp z
      subst z; exact ⟨o, ho, fun v q => by rw [hd] at q; cases q⟩
  keep := fun i h h' st k => by
    obtain ⟨⟨old, he⟩, hi, hne⟩ := st
    exact ⟨⟨old, k e List.mem_cons_self _ he⟩, hi.at fun o q => k it (List.mem_cons_of_mem _ List.mem_cons_self) o q, hne⟩
  item := by
    intro X hP hw hK hc i pins s σ H E I hf st hg
    subst hP hw hK
    obtain ⟨⟨old, he⟩, hit, hne⟩ := st
    obtain ⟨xs, x, hq, hx⟩ := hg
    obtain ⟨its, rv, p, hz⟩ := I.tuple hq
    obtain ⟨u, hu, ru⟩ := rv.get hx
    have p' : s.heap.IsTuple a its.toArray := p
    have hel : e < s.heap.objs.size := Heap.lt_size he
    have hil : it < s.heap.objs.size := by obtain ⟨_, q, _⟩ := hit; exact Heap.lt_size q
    have hai : a ≠ it := by
      rintro rfl
      obtain ⟨o1, q1, q2, _⟩ := id hit
      obtain ⟨o2, q3, q4, _⟩ := id p
      rw [q1] at q3; cases q3
      rw [q2] at q4
      exact absurd q4 (by decide)
    have hea : e ≠ a := by
      rintro rfl
      obtain ⟨o2, q3, q4, _⟩ := id p
      rw [he] at q3; cases q3
      have q5 : Value.type "enumerate" = Value.type "tuple" := q4
      exact absurd q5 (by decide)
    have hlt : i < its.toArray.size := by
      rw [List.size_toArray]
      exact (List.getElem?_eq_some_iff.mp hu).1
    have Dr := Draws.tuple (prog := X.prog) (w := X.w) (A := X.A.in1) (I.ok.hd hc) it a hai its.toArray
    refine wpAny_pyNext_enum_itemD Dr he ⟨hit, p'⟩ hlt hne (by simp [hne, hea]) fun z h' tk hP ho st' hT hsz hk => ?_
    have ez : z = u := by
      have q : its.toArray[i]? = some z := hP
      rw [show its.toArray[i]? = its[i]? from by simp, hu] at q
      exact (Option.some.inj q).symm
    subst ez
    refine ⟨_, rfl, wpAny_letOwnedTupleGo_enum (s := { s with heap := h', toks := tk + 1 }) ho fun h'' he' sb => ?_⟩
    have hT2 : h''.get? s.heap.objs.size = some { cls := .type "tuple", data := .seq #[.int i tk, z] } := (sb.2 _ (Nat.ne_of_gt hel)).trans hT
    have new : ObjOk X.prog X.w (upd H s.heap.objs.size (.tup [.int (i : Nat), x])) h'' s.heap.objs.size (.tup [.int (i : Nat), x]) :=
      ⟨by show 2 ≤ sizeLine; decide, [.int i tk, z], .cons ⟨_, rfl⟩ (.cons ru .nil), ⟨_, hT2, rfl, _, rfl⟩⟩
    have notin : ∀ b, b ∉ [e, it] → b ≠ e ∧ b ≠ it := fun b hb => ⟨fun z => hb (by rw [z]; exact List.mem_cons_self), fun z => hb (by rw [z]; exact List.mem_cons_of_mem _ List.mem_cons_self)⟩
    have I1 : Inv X pins σ (upd H s.heap.objs.size (.tup [.int (i : Nat), x])) { s with heap := h'', toks := tk + 1 } :=
      I.turnedNew (ch := [e, it]) (fun b ob hb q => (sb.2 b (notin b hb).1).trans (hk b ob (notin b hb).1 (notin b hb).2 q)) hf (Nat.le_refl _) new
    refine ⟨.ref s.heap.objs.size, _, I1, rfl, ⟨_, x, rfl, I.hok.fresh (Nat.le_refl _), rfl, fun ys hy => by rw [I.tuple_inj hy hq]; exact hx⟩, ⟨⟨z, ?_⟩, st'.1.at fun o q => (sb.2 it (Ne.symm hne)).trans q, hne⟩, fun b hb => ?_⟩
    · have e1 : ((i + 1 : Nat) : Int) = (i : Int) + 1 := by omega
      rw [e1]; exact he'
    · have hb' : b < s.heap.objs.size := by
        rcases List.mem_cons.mp hb with z | z
        · rw [z]; exact hel
        · rw [List.mem_singleton.mp z]; exact hil
      rw [upd_ne (Nat.ne_of_lt hb')]
      exact (hf b hb).1
  done := by
    intro X hP hw hK hc i pins s σ H E I hf st hg
    subst hP hw hK
    obtain ⟨⟨old, he⟩, hit, hne⟩ := st
    obtain ⟨xs, hq, hx⟩ := hg
    obtain ⟨its, rv, p, hz⟩ := I.tuple hq
    have p' : s.heap.IsTuple a its.toArray := p
    obtain ⟨f0, f1, f2, f3, f4, f5⟩ := hf it (List.mem_cons_of_mem _ List.mem_cons_self)
    have hl := rv.length
    have hT : s.TypeIs (.ref e) "enumerate" := ⟨_, he, rfl⟩
    unfold pyNext
    refine wpAny_bind (wpAny_attempt (wpAny_callSpecial?_slot (name := Str.ofString "__next__") hT F.slot_enumerate_next
      (wpAny_call_entry F.slot_enumerate_next hT F.entry_enumerate_next ?_ (F.args_enumerate_next_1 _))))
    show wpAny _ _ (field (.ref e) 2 >>= _) _ _ _
    refine wpAny_bind (wpAny_field he rfl (x := .ref it) rfl ?_)
    refine wpAny_bind (wpAny_nextOf_tuple_end (A := X.A.in1) (I.ok.hd hc) hit p' (by simp; omega) fun h' x he' hx' => ?_)
    obtain ⟨o, ho, hc'⟩ := hx'
    refine wpAny_bind (wpAny_isInstance (T := "StopIteration") (b := true) ⟨o, ho, hc'⟩ isSubtype_stop ?_)
    exact wpAny_pure ⟨rfl, I.turned (t' := s.toks) (fun b o hb q => he' b o hb q) f0 f1 f3 f4 f5⟩
  self := fun A i s Q E st h => by
    obtain ⟨⟨_, he⟩, _⟩ := st
    exact wpAny_pyIter_enum he h
theorem meets_enumT (l : Addr) (items : Array Value) :
    Meets (Builtin.«enumerate.__new__» ⟨[.type "enumerate", .ref l], []⟩) (fun _ R s => s.heap.IsTuple l items ∧
      R (.ok (.ret (.ref (s.heap.push { cls := .type "tuple_iterator", data := .fields #[.ref l, .int 0 0] }).objs.size)))
        { s with heap := (s.heap.push { cls := .type "tuple_iterator", data := .fields #[.ref l, .int 0 0] }).push { cls := .type "enumerate", data := .fields #[.none, .bool false, .ref s.heap.objs.size, rawInt 0, .none, .none] } }) :=
  .of_wp fun prog w A R s h => by
    obtain ⟨hp, g, d, tk, os⟩ := s
    obtain ⟨hl, h⟩ := h
    have hsub := sub_enumerate
    have q1 : ∀ {A' : Around} {E : Value → Shared → Prop} {Q : Value → Shared → Prop}, Q (.ref hp.objs.size) ⟨hp.push { cls := .type "tuple_iterator", data := .fields #[.ref l, .int 0 0] }, g, d, tk, os⟩ → wpAny (model prog w) A' (pyIter (.ref l)) Q E ⟨hp, g, d, tk, os⟩ :=
      fun q => wpAny_pyIter_tuple (s := ⟨hp, g, d, tk, os⟩) hl q
    wp_walk using q1
    refine wpAny_stack_any fun st => wpAny_pure ?_
    split
    · rename_i c _ _ _ _ _
      cases (c == Value.type "enumerate") <;> (wp_walk using q1; exact ⟨_, rfl, h⟩)
    · wp_walk using q1
      exact ⟨_, rfl, h⟩
theorem call_enumT {prog : Program} {w : World} {A : Around} {E : Value → Shared → Prop} {s : Shared} {l : Addr} {items : Array Value} {Q : Value → Shared → Prop} (hL : s.heap.IsTuple l items)
    (h : ∀ h', IsEnum h' (s.heap.objs.size + 1) s.heap.objs.size 0 .none → h'.IsTupleIter s.heap.objs.size l 0 → (∀ b o, s.heap.get? b = some o → h'.get? b = some o) → Q (.ref (s.heap.objs.size + 1)) { s with heap := h' }) :
    wpAny (model prog w) A (call (.type "enumerate") [.ref l]) Q E s := by
  refine callType_new F.called_enumerate (by decide) (F.typeCall_enumerate_1 _) (F.newCall_enumerate_1 _) (fun obj => F.args_object_init_2 obj _) F.entry_enumerate_new (meets_enumT l items) ⟨hL, ?_⟩
  have hz : (s.heap.push { cls := .type "tuple_iterator", data := .fields #[.ref l, .int 0 0] }).objs.size = s.heap.objs.size + 1 := Heap.size_push ..
  show _ ∧ _
  rw [hz]
  have he : IsEnum ((s.heap.push { cls := .type "tuple_iterator", data := .fields #[.ref l, .int 0 0] }).push
      { cls := .type "enumerate", data := .fields #[.none, .bool false, .ref s.heap.objs.size, rawInt 0, .none, .none] }) (s.heap.objs.size + 1) s.heap.objs.size 0 .none := by
    have := Heap.get?_push_size (s.heap.push { cls := .type "tuple_iterator", data := .fields #[.ref l, .int 0 0] })
      (o := { cls := .type "enumerate", data := .fields #[.none, .bool false, .ref s.heap.objs.size, rawInt 0, .none, .none] }) rfl
    rw [hz] at this
    exact this
  exact ⟨⟨_, he, rfl⟩, h _ he ⟨_, Heap.get?_push_of_some _ (Heap.get?_push_size _ rfl), rfl, rfl⟩ fun b o x => Heap.get?_push_of_some _ (Heap.get?_push_of_some _ x)⟩
def iEnumT (K : PySem.W.Frag) (ta : TA) : TI := fun σ H R => ta σ H fun vs H1 => ∃ a xs, vs = [.ref a] ∧ SqT K H1 a xs ∧ R (IteT K a) H1
theorem pi_enumT {X : Cx} {e : Expr} {ta : TA} {p pos tpos : Pos} {elts : List Expr} {kk : Nat} (hg : Gl X "enumerate") (hm : X.mg "enumerate" = none) (ha : PA X [e] ta) (hs : starEach [e] X.env = [(false, eval e X.env)]) :
    PI X (.Tuple elts kk tpos) (.Call (.Name "enumerate" p) [e] [] pos) (iEnumT X.K ta) := by
  refine ⟨fun pins s σ H R I h => ?_⟩
  refine Call_ (ld_blt I hg hm boot_enumerate (PyProof.Rows.callWith_type1 (thn (ha.run pos pins s σ H _ I h) fun us s1 ⟨vs, H1, I1, r1, q1⟩ => ?_) hs rfl))
  obtain ⟨a, xs, ex, hq, q⟩ := q1
  subst ex
  obtain ⟨u, rfl, r⟩ := r1.one
  cases r
  obtain ⟨its, rv, p', hz⟩ := I1.tuple hq
  refine call_enumT (show s1.heap.IsTuple a its.toArray from p') fun h' he hit hk => wpAny_pyIter_enum he ?_
  have I2 : Inv X pins σ H1 { s1 with heap := h' } := I1.kept (t' := s1.toks) hk
  refine ⟨s1.heap.objs.size + 1, [s1.heap.objs.size + 1, s1.heap.objs.size], _, _, H1, rfl, I2, turn_enumT a (s1.heap.objs.size + 1) s1.heap.objs.size, ⟨⟨.none, he⟩, hit, Nat.succ_ne_self _⟩, fun b hb => ?_, q⟩
  have hle : s1.heap.objs.size ≤ b := by
    rcases List.mem_cons.mp hb with z | z
    · rw [z]; exact Nat.le_succ _
    · rw [List.mem_singleton.mp z]; exact Nat.le_refl _
  exact I1.fpOk hle (I1.hok.fresh hle)

/-! ### enumerate of a list that none owns, or of a tuple -/
def enumD (i : Nat) : List D → List D
  | [] => []
  | d :: ds => .tup [.int i, d] :: enumD (i + 1) ds
theorem enumD_len : ∀ (ds : List D) (i : Nat), (enumD i ds).length = ds.length
  | [], _ => rfl
  | d :: ds, i => by simp [enumD, enumD_len ds (i + 1)]
theorem enumD_at : ∀ {ds : List D} {k i : Nat} {d : D}, ds[i]? = some d → (enumD k ds)[i]? = some (.tup [.int ((k + i : Nat) : Int), d])
  | [], _, _, _, h => by simp at h
  | x :: ds, k, 0, d, h => by
    simp at h
    subst h
    rfl
  | x :: ds, k, i + 1, d, h => by
    show (enumD (k + 1) ds)[i]? = _
    rw [enumD_at (k := k + 1) (by simpa using h)]
    rw [show k + 1 + i = k + (i + 1) by omega]
def oEnum (rs : List RV) (_ : Sto) : Option Src := match rs with
  | [.d (.lst as)] => some ⟨enumD 0 as, none⟩
  | [.d (.tup as)] => some ⟨enumD 0 as, none⟩
  | _ => none
theorem i_enum {X : Cx} {a : Expr} {h : Fe (List RV)} {elts : List Expr} {kk : Nat} {tpos p pos : Pos} (hg : Gl X "enumerate") (hm : X.mg "enumerate" = none) (ha : PA X [a] (TAs tb X h)) (hs : starEach [a] X.env = [(false, eval a X.env)]) :
    PI X (.Tuple elts kk tpos) (.Call (.Name "enumerate" p) [a] [] pos) (TIs tb X true (fMap h oEnum)) :=
  pi_weak (pi_or (pi_enum hg hm ha hs) (pi_enumT hg hm ha hs)) fun σ H R' q => by
    obtain ⟨ρ, R, m, S, s, S', hE, hS, e, k⟩ := q
    obtain ⟨rs, e1, e2⟩ := fMap_some e
    have cs : (∃ as, rs = [.d (.lst as)] ∧ s = ⟨enumD 0 as, none⟩) ∨ ∃ as, rs = [.d (.tup as)] ∧ s = ⟨enumD 0 as, none⟩ := by
      unfold oEnum at e2
      split at e2
      · cases e2; exact .inl ⟨_, rfl, rfl⟩
      · cases e2; exact .inr ⟨_, rfl, rfl⟩
      · cases e2
    rcases cs with ⟨as, rfl, rfl⟩ | ⟨as, rfl, rfl⟩
    · left
      refine ⟨ρ, R, m, S, _, S', hE, hS, e1, fun vs H1 R1 m1 x1 s1 r1 => ?_⟩
      obtain ⟨v, rfl, hv⟩ := rep1 r1
      obtain ⟨ax, vx, rfl, hx, rx, kx⟩ := walkLd s1 hv
      refine ⟨ax, vx, rfl, hx, k _ _ _ _ x1 s1 ?_⟩
      refine ⟨_, _, by show Walk _ (enumD 0 as).length _ _; rw [enumD_len, rx.length]; exact walk_enum (K := X.K) (a := ax) (xs := vx), fun H R m S x s ok => (kx H R m S x s).1, fun i H R m S x H' hi xt st ok y => ?_⟩
      obtain ⟨T, x0, y0, rfl, hT, eH, g1, g2⟩ := y
      have hi1 : i < as.length := by rw [← enumD_len as 0]; exact hi
      have hd1 : as[i]? = some as[i] := by simp [hi1]
      obtain ⟨u1, g3, g4⟩ := (rx.ext xt s1.sub).get hd1
      have g1 : some (V.int (i : Nat)) = some x0 := g1
      have g2 : vx[i]? = some y0 := g2
      cases g1
      rw [g3] at g2; cases g2
      have g5 := enumD_at (k := 0) hd1
      rw [Nat.zero_add] at g5
      exact ⟨_, g5, pair_turn st hT eH (.int _) g4⟩
    · right
      refine ⟨ρ, R, m, S, _, S', hE, hS, e1, fun vs H1 R1 m1 x1 s1 r1 => ?_⟩
      obtain ⟨v, rfl, hv⟩ := rep1 r1
      obtain ⟨ax, vx, rfl, hx, rx, kx⟩ := walkT s1 hv
      refine ⟨ax, vx, rfl, hx, k _ _ _ _ x1 s1 ?_⟩
      refine ⟨fun H => SqT X.K H ax vx, YPair (fun i => some (.int (i : Nat))) (fun i => vx[i]?), ⟨fun i H hi g => ?_, fun H g => ⟨vx, g, ?_⟩, fun i H x H' hi g y => ?_⟩, fun H R m S x s ok => (kx H R m S x s).1, fun i H R m S x H' hi xt st ok y => ?_⟩
      · have hi1 : i < vx.length := by rw [← rx.length, ← enumD_len as 0]; exact hi
        exact ⟨vx, vx[i], g, by simp [hi1]⟩
      · show vx.length ≤ (enumD 0 as).length
        rw [enumD_len, rx.length]
        exact Nat.le_refl _
      · obtain ⟨T, x0, h1, h2, h3, h4⟩ := y
        exact ⟨T, .int (i : Nat), x0, h1, h2, h3, rfl, h4 vx g⟩
      · obtain ⟨T, x0, y0, rfl, hT, eH, g1, g2⟩ := y
        have hi1 : i < as.length := by rw [← enumD_len as 0]; exact hi
        have hd1 : as[i]? = some as[i] := by simp [hi1]
        obtain ⟨u1, g3, g4⟩ := ((kx H R m S xt st).2).get hd1
        have g1 : some (V.int (i : Nat)) = some x0 := g1
        have g2 : vx[i]? = some y0 := g2
        cases g1
        rw [g3] at g2; cases g2
        have g5 := enumD_at (k := 0) hd1
        rw [Nat.zero_add] at g5
        exact ⟨_, g5, pair_turn st hT eH (.int _) g4⟩
end Ev

/-! The evaluator, part F: targets, comprehensions. -/
namespace Ev
open PySem PySem.Spec PyProof.Rows L2

/-! ### targets: gg stores into the slots at sl -/
abbrev Gt := RV → Env' → Option Env'
def TGr (tb : Tbs) (X : Cx) (lz : Bool) (sl : List Nat) (gg : Gt) : TG := fun v σ H Q => ∃ (ρ : Env') (R m : List Addr) (S : Sto) (r : RV) (ρ' : Env'), RepE tb X.K H R m ρ σ ∧ Sim tb X.prog X.w X.K H R m S ∧ RepVL lz tb X.K H R m r v ∧ gg r ρ = some ρ' ∧
  ∀ σ', RepE tb X.K H R m ρ' σ' → (∀ vs : List Nat, (∀ i ∈ sl, i ∈ vs) → wipe σ' vs = wipe σ vs) → Q σ' H
def TGrs (tb : Tbs) (X : Cx) (sl : List Nat) (gg : List D → Env' → Option Env') : TGs := fun us σ H Q => ∃ (ρ : Env') (R m : List Addr) (S : Sto) (ds : List D) (ρ' : Env'), RepE tb X.K H R m ρ σ ∧ Sim tb X.prog X.w X.K H R m S ∧ Reps X.K H R ds us ∧ gg ds ρ = some ρ' ∧
  ∀ σ', RepE tb X.K H R m ρ' σ' → (∀ vs : List Nat, (∀ i ∈ sl, i ∈ vs) → wipe σ' vs = wipe σ vs) → Q σ' H
theorem wipe_set {σ : L2.St} {i : Nat} {o : Option V} : ∀ {vs : List Nat}, i ∈ vs → wipe (σ.set i o) vs = wipe σ vs
  | v :: vs, h => by
    show (wipe (σ.set i o) vs).set v none = (wipe σ vs).set v none
    by_cases q : v = i
    · subst q
      by_cases hv : v ∈ vs
      · rw [wipe_set hv]
      · have e : ∀ {vs : List Nat}, v ∉ vs → wipe (σ.set v o) vs = (wipe σ vs).set v o := by
          intro vs
          induction vs with
          | nil => intro _; rfl
          | cons u us ih =>
            intro hn
            show (wipe (σ.set v o) us).set u none = ((wipe σ us).set u none).set v o
            rw [ih (fun z => hn (List.mem_cons_of_mem _ z)), List.set_comm _ _ (fun z => hn (by rw [z]; exact List.mem_cons_self))]
        rw [e hv, List.set_set]
    · rw [wipe_set ((List.mem_cons.mp h).resolve_left (Ne.symm q))]
theorem wipe_none {σ : L2.St} {i : Nat} : ∀ {vs : List Nat}, i ∈ vs → (wipe σ vs).set i none = wipe σ vs
  | v :: vs, h => by
    show ((wipe σ vs).set v none).set i none = (wipe σ vs).set v none
    by_cases q : i = v
    · subst q; rw [List.set_set]
    · rw [List.set_comm _ _ (Ne.symm q), wipe_none ((List.mem_cons.mp h).resolve_left q)]
theorem wipe_idem {σ : L2.St} {ws : List Nat} : ∀ {vs : List Nat}, (∀ i ∈ vs, i ∈ ws) → wipe (wipe σ ws) vs = wipe σ ws
  | [], _ => rfl
  | v :: vs, h => by
    show (wipe (wipe σ ws) vs).set v none = _
    rw [wipe_idem fun i hi => h i (List.mem_cons_of_mem _ hi), wipe_none (h v List.mem_cons_self)]
theorem pg_weak {X : Cx} {e : Expr} {t t' : TG} (h : PG X e t) (w : ∀ v σ H Q, t' v σ H Q → t v σ H Q) : PG X e t' := ⟨fun pins s σ H v u Q I r q => h.run pins s σ H v u Q I r (w _ _ _ _ q)⟩
theorem pgs_weak {X : Cx} {e : List Expr} {t t' : TGs} (h : PGs X e t) (w : ∀ v σ H Q, t' v σ H Q → t v σ H Q) : PGs X e t' := ⟨fun pins s σ H v u Q I r q => h.run pins s σ H v u Q I r (w _ _ _ _ q)⟩
theorem pg_or {X : Cx} {e : Expr} {t t' : TG} (h : PG X e t) (h' : PG X e t') : PG X e (fun v σ H Q => t v σ H Q ∨ t' v σ H Q) := ⟨fun pins s σ H v u Q I r q => q.elim (h.run pins s σ H v u Q I r) (h'.run pins s σ H v u Q I r)⟩
def gN (i : Nat) : Gt := fun r ρ => some (ρ.set i (some r))
section
variable {X : Cx} {pos : Pos}
theorem g_name {i : Nat} {x : Str} (hN : X.N.Nodup) (hi : X.N[i]? = some x) (hx : Loc X.env.scope x) (hf : X.fn x = true ∨ X.env.scope.names.lookup x = some .local) : PG X (.Name x pos) (TGr tb X false [i] (gN i)) :=
  pg_weak (pg_name hN hi hx hf) fun v σ H Q ⟨ρ, R, m, S, r, ρ', hE, hS, hr, e, k⟩ => by
    cases e
    exact k _ (hE.set i hr.get) fun vs h => wipe_set (h i List.mem_cons_self)
def gsNil : List D → Env' → Option Env' := fun ds ρ => match ds with
  | [] => some ρ
  | _ => none
def gsCons (gg : Gt) (gs : List D → Env' → Option Env') : List D → Env' → Option Env' := fun ds ρ => match ds with
  | d :: r => (gg (.d d) ρ).bind fun ρ1 => gs r ρ1
  | [] => none
theorem gs_nil : PGs X [] (TGrs tb X [] gsNil) := pgs_weak pgs_nil fun v σ H Q ⟨ρ, R, m, S, ds, ρ', hE, hS, hr, e, k⟩ => by
  unfold gsNil at e
  split at e
  · cases e
    cases hr
    exact ⟨rfl, k _ hE fun _ _ => rfl⟩
  · cases e
theorem gs_cons {e : Expr} {es : List Expr} {gg : Gt} {gs : List D → Env' → Option Env'} {sl sl' : List Nat} (h1 : PG X e (TGr tb X lz sl gg)) (h2 : PGs X es (TGrs tb X sl' gs)) (hs : (assignEach (e :: es) X.env).map (·.2) = assign e X.env :: (assignEach es X.env).map (·.2)) :
    PGs X (e :: es) (TGrs tb X (sl ++ sl') (gsCons gg gs)) := pgs_weak (pgs_cons h1 h2 hs) fun v σ H Q ⟨ρ, R, m, S, ds, ρ', hE, hS, hr, e, k⟩ => by
  unfold gsCons at e
  split at e
  · obtain ⟨ρ1, e1, e2⟩ := bind_some e
    cases hr with
    | cons h t =>
      refine ⟨_, _, rfl, ρ, R, m, S, .d _, ρ1, hE, hS, .inl h, e1, fun σ1 hE1 w1 => ?_⟩
      refine ⟨ρ1, R, m, S, _, ρ', hE1, hS, t, e2, fun σ2 hE2 w2 => ?_⟩
      exact k _ hE2 fun vs hv => (w2 vs fun i hi => hv i (List.mem_append_right _ hi)).trans (w1 vs fun i hi => hv i (List.mem_append_left _ hi))
  · cases e
/-- a tuple, or a list that none owns, unpacked -/
def gTp (n : Nat) (gs : List D → Env' → Option Env') : Gt := fun r ρ => match r with
  | .d (.tup ds) => if ds.length = n then gs ds ρ else none
  | .d (.lst ds) => if ds.length = n then gs ds ρ else none
  | _ => none
theorem g_tup {es : List Expr} {k n : Nat} {gs : List D → Env' → Option Env'} {sl : List Nat} (hc : X.calm = true) (h : PGs X es (TGrs tb X sl gs)) (hn : (assignEach es X.env).length = n) (hst : (assignEach es X.env).findIdx? (·.1) = none) :
    PG X (.Tuple es k pos) (TGr tb X lz sl (gTp n gs)) := pg_weak (pg_or (pg_tup hc h hn hst) (pg_unl hc h hn hst)) fun v σ H Q ⟨ρ, R, m, S, r, ρ', hE, hS, hr, e, k⟩ => by
  unfold gTp at e
  split at e
  · split at e
    · rename_i hl
      left
      obtain ⟨a, vs, rfl, h1, h2⟩ := RepL.isT hr
      exact ⟨a, vs, rfl, h1, by rw [← h2.length]; exact hl, ρ, R, m, S, _, ρ', hE, hS, h2, e, k⟩
    · cases e
  · split at e
    · rename_i hl
      right
      obtain ⟨a, vs, rfl, h1, h2⟩ := RepL.isL hr
      exact ⟨a, vs, rfl, h1, by rw [← h2.length]; exact hl, ρ, R, m, S, _, ρ', hE, hS, h2, e, k⟩
    · cases e
  · cases e
end

/-! ### a thing set apart: neither owned nor referred to -/
theorem Ext.res {H : Hp} {R m : List Addr} {p : Addr} {o : HO} (n : H p = none) : Ext H R m (upd H p o) (p :: R) m where
  pre := ⟨[], by simp⟩
  sub := fun _ h => List.mem_cons_of_mem _ h
  fresh := fun a h => (List.mem_cons.mp h).elim (fun z => .inr (by rw [z]; exact n)) .inl
  freshM := fun _ h => .inl h
  keep := fun a o _ h _ => by rw [upd_ne (ne_of_none h n)]; exact h
  live := fun a h => by
    by_cases q : a = p
    · subst q; exact absurd n h
    · rw [upd_ne q]; exact h
section
variable {P : Program} {w : World} {K : PySem.W.Frag} {H H' : Hp} {R R' m m' : List Addr} {S S' : Sto} {p : Addr} {o : HO}
theorem Sim.res (s : Sim tb P w K H R m S) (n : H p = none) : Sim tb P w K (upd H p o) (p :: R) m S where
  tabs := s.tabs.mono (fun a o _ e => by rw [upd_ne (ne_of_none e n)]; exact e) fun a h => (List.mem_cons.mp h).elim (fun z => .inr (by rw [z]; exact n)) .inl
  nd := s.nd
  sub := fun a h => List.mem_cons_of_mem _ (s.sub a h)
  live := fun a h => by
    by_cases q : a = p
    · subst q; rw [upd_same]; intro z; cases z
    · rw [upd_ne q]; exact s.live a ((List.mem_cons.mp h).resolve_left q)
  len := s.len
  at_ := fun i a ob h1 h2 => RepO.ext (Ext.res n) s.sub (s.at_ i a ob h1 h2) (upd_ne fun z => s.live a (s.sub a (List.mem_of_getElem? h1)) (by rw [z]; exact n))
def er (H : Hp) (p : Addr) : Hp := fun b => if b = p then none else H b
theorem er_ne {b : Addr} (h : b ≠ p) : er H p b = H b := if_neg h
theorem er_same : er H p p = none := if_pos rfl
theorem er_upd (h : H p = some o) : upd (er H p) p o = H := by
  funext b
  by_cases q : b = p
  · subst q; rw [upd_same, h]
  · rw [upd_ne q, er_ne q]
theorem Rep.er (hp : p ∈ R) {d : D} {v : V} (r : Rep K H R d v) : Rep K (er H p) (R.filter (· ≠ p)) d v :=
  Rep.mono (fun a o n e _ => by rw [er_ne (fun z => n (by rw [z]; exact hp))]; exact e) (fun a h => .inl (List.mem_filter.mp h).1) r
theorem Reps.er (hp : p ∈ R) {d : List D} {v : List V} (r : Reps K H R d v) : Reps K (er H p) (R.filter (· ≠ p)) d v :=
  Reps.mono (fun a o n e _ => by rw [er_ne (fun z => n (by rw [z]; exact hp))]; exact e) (fun a h => .inl (List.mem_filter.mp h).1) r
theorem RepV.er (hp : p ∈ R) {d : RV} {v : V} (r : RepV tb K H R m d v) : RepV tb K (er H p) (R.filter (· ≠ p)) m d v := by
  cases d with
  | d x => exact Rep.er hp r
  | o n => exact r
  | t n => exact r
  | fn φ =>
    obtain ⟨f, h1, h2⟩ := r
    exact ⟨f, h1, h2.mono (fun a o n e _ => by rw [er_ne (fun z => n (by rw [z]; exact hp))]; exact e) (fun a h => .inl (List.mem_filter.mp h).1)⟩
/-- .. given up again -/
theorem unres (n : H p = none) (hm : p ∉ m) (s : Sim tb P w K H R m S) (x : Ext (upd H p o) (p :: R) m H' R' m') (s' : Sim tb P w K H' R' m' S') :
    Ext H R m (er H' p) (R'.filter (· ≠ p)) m' ∧ Sim tb P w K (er H' p) (R'.filter (· ≠ p)) m' S' ∧ p ∈ R' ∧ p ∉ m' := by
  have hp : p ∈ R' := x.sub p List.mem_cons_self
  have hm' : p ∉ m' := fun h => (x.freshM p h).elim hm (fun z => by rw [upd_same] at z; cases z)
  have ne : ∀ a, H a ≠ none → a ≠ p := fun a h z => h (by rw [z]; exact n)
  refine ⟨⟨x.pre, fun a h => ?_, fun a h => ?_, fun a h => ?_, fun a o h e nt => ?_, fun a h => ?_⟩, ⟨s'.nd, fun a h => ?_, fun a h => ?_, s'.len, fun i a ob h1 h2 => ?_, s'.tabs.mono (fun a o ha e => by rw [er_ne (fun z => ha (by rw [z]; exact hp))]; exact e) fun a h => .inl (List.mem_filter.mp h).1⟩, hp, hm'⟩
  · exact List.mem_filter.mpr ⟨x.sub a (List.mem_cons_of_mem _ h), decide_eq_true (ne a (s.live a h))⟩
  · obtain ⟨h1, h2⟩ := List.mem_filter.mp h
    have h2 := of_decide_eq_true h2
    rcases x.fresh a h1 with z | z
    · exact .inl ((List.mem_cons.mp z).resolve_left h2)
    · rw [upd_ne h2] at z; exact .inr z
  · rcases x.freshM a h with z | z
    · exact .inl z
    · have q : a ≠ p := fun q => by rw [q, upd_same] at z; cases z
      rw [upd_ne q] at z
      exact .inr z
  · have q := ne a (by rw [e]; intro z; cases z)
    rw [er_ne q]
    exact x.keep a o h (by rw [upd_ne q]; exact e) nt
  · have q := ne a h
    rw [er_ne q]
    exact x.live a (by rw [upd_ne q]; exact h)
  · exact List.mem_filter.mpr ⟨s'.sub a h, decide_eq_true fun z => hm' (by rw [← z]; exact h)⟩
  · obtain ⟨h1, h2⟩ := List.mem_filter.mp h
    rw [er_ne (of_decide_eq_true h2)]
    exact s'.live a h1
  · have q : a ≠ p := fun z => hm' (by rw [← z]; exact List.mem_of_getElem? h1)
    have r := s'.at_ i a ob h1 h2
    cases ob with
    | lst ds =>
      obtain ⟨vs, g1, g2⟩ := r
      exact ⟨vs, (er_ne q).trans g1, g2.er hp⟩
    | dct kvs =>
      obtain ⟨vs, g1, g2⟩ := r
      exact ⟨vs, (er_ne q).trans g1, Paired.mapP g2 fun _ _ z => ⟨z.1, z.2.er hp⟩⟩
    | dcx kvs =>
      obtain ⟨vs, g1, g2⟩ := r
      exact ⟨vs, (er_ne q).trans g1, Paired.mapP g2 fun _ _ ⟨z1, z2, z3, v, z4, z5⟩ => ⟨z1, z2.er hp, z3, v, z4, z5.er hp⟩⟩
    | ins c fs =>
      obtain ⟨dx, vfs, g1, g2, g3⟩ := r
      exact ⟨dx, vfs, (er_ne q).trans g1, Paired.mapP g2 fun _ _ z => ⟨z.1, RepV.er hp z.2⟩, g3⟩
end

/-! ### comprehensions -/
def wipeE (ρ : Env') : List Nat → Env'
  | [] => ρ
  | v :: vs => (wipeE ρ vs).set v none
theorem RepE.none_ {K : PySem.W.Frag} {H : Hp} {R m : List Addr} {ρ : Env'} {σ : List (Option V)} (r : RepE tb K H R m ρ σ) (i : Nat) : RepE tb K H R m (ρ.set i none) (σ.set i none) := by
  refine ⟨by rw [List.length_set, List.length_set, r.len], fun j y e => ?_⟩
  by_cases q : j = i
  · subst q
    have hj : j < ρ.length := by
      have := (List.getElem?_eq_some_iff.mp e).1
      rwa [List.length_set] at this
    rw [List.getElem?_set_self hj] at e
    cases e
  · rw [List.getElem?_set_ne (Ne.symm q)] at e
    obtain ⟨u, h1, h2⟩ := r.at_ j y e
    exact ⟨u, by rw [List.getElem?_set_ne (Ne.symm q)]; exact h1, h2⟩
theorem RepE.wipe {K : PySem.W.Frag} {H : Hp} {R m : List Addr} {ρ : Env'} {σ : List (Option V)} (r : RepE tb K H R m ρ σ) : ∀ vs : List Nat, RepE tb K H R m (wipeE ρ vs) (L2.wipe σ vs)
  | [] => r
  | v :: vs => (r.wipe vs).none_ v
def fTrue : Fe Bool := fun _ S => some (true, S)
/-- the turns -/
def lcGo (s : Src) (gg : Gt) (t : Fe Bool) (f : Fe RV) (ρ : Env') : List D → Sto → Option (List D × Sto)
  | [], S => if s.ok S = true then some ([], S) else none
  | d :: ds, S => if s.ok S = true then (gg (.d d) ρ).bind fun ρ1 => (t ρ1 S).bind fun b => if b.1 = true then (f ρ1 b.2).bind fun y => match y.1 with
      | .d v => (lcGo s gg t f ρ ds y.2).bind fun r => some (v :: r.1, r.2)
      | _ => none
    else lcGo s gg t f ρ ds b.2 else none
def lLc (src : Fe Src) (gg : Gt) (t : Fe Bool) (f : Fe RV) (vs : List Nat) : Fe (List D) := fun ρ S => (src ρ S).bind fun p => if p.1.ds.length ≤ Lim then lcGo p.1 gg t f (wipeE ρ vs) p.1.ds p.2 else none
theorem lcGo_len {s : Src} {gg : Gt} {t : Fe Bool} {f : Fe RV} {ρ : Env'} : ∀ {ds : List D} {S S' : Sto} {r : List D}, lcGo s gg t f ρ ds S = some (r, S') → r.length ≤ ds.length
  | [], S, S', r, h => by
    unfold lcGo at h
    split at h
    · cases h; exact Nat.le_refl _
    · cases h
  | d :: ds, S, S', r, h => by
    unfold lcGo at h
    split at h
    · obtain ⟨ρ1, e1, h⟩ := bind_some h
      obtain ⟨b, e2, h⟩ := bind_some h
      split at h
      · obtain ⟨y, e3, h⟩ := bind_some h
        split at h
        · obtain ⟨z, e4, h⟩ := bind_some h
          cases h
          exact Nat.succ_le_succ (lcGo_len (S' := z.2) (r := z.1) e4)
        · cases h
      · exact Nat.le_succ_of_le (lcGo_len h)
    · cases h
section
variable {X : Cx}
/-- the reading of a comprehension -/
theorem tl_lc {src : Fe Src} {gg : Gt} {sl vs : List Nat} {t : Fe Bool} {f : Fe RV} (hsl : ∀ i ∈ sl, i ∈ vs) {σ : L2.St} {H : Hp} {Q : VK} (q : TL tb X (lLc src gg t f vs) σ H Q) : tLc (TIs tb X lz src) (TGr tb X lz sl gg) (TB tb X t) (TV tb X f) vs σ H Q := by
  obtain ⟨ρ, R, m, S, res, S', hE, hS, e, k⟩ := q
  obtain ⟨⟨s, S1⟩, e1, e2⟩ := bind_some e
  split at e2
  · rename_i hlim
    refine ⟨ρ, R, m, S, s, S1, hE, hS, e1, fun J H1 R1 m1 x1 s1 wk => ?_⟩
    obtain ⟨G, Y, wJ, hG, hY⟩ := wk
    intro D hD
    have hDm1 : D ∉ m1 := fun z => s1.live D (s1.sub D z) hD
    -- the invariant, on the heap without the new list
    refine lc_it wJ (fun i Hc => ∃ (H2 : Hp) (R2 m2 : List Addr) (S2 : Sto) (acc : List Ev.D) (us : List V) (r : List Ev.D), H2 D = none ∧ D ∉ m2 ∧ Hc = upd H2 D (.lst us) ∧ Ext H1 R1 m1 H2 R2 m2 ∧ Sim tb X.prog X.w X.K H2 R2 m2 S2 ∧
      Reps X.K H2 R2 acc us ∧ acc.length ≤ i ∧ lcGo s gg t f (wipeE ρ vs) (s.ds.drop i) S2 = some (r, S') ∧ res = acc ++ r) ?_ ?_ ?_ ?_
    · exact ⟨H1, R1, m1, S1, [], [], res, hD, hDm1, rfl, .refl, s1, .nil, Nat.le_refl _, e2, rfl⟩
    · rintro i Hc hi ⟨H2, R2, m2, S2, acc, us, r, hn, hm, rfl, x2, s2, ra, hl, eg, eres⟩
      have ok : s.ok S2 = true := by
        cases hd : s.ds.drop i with
        | nil => rw [hd] at eg; unfold lcGo at eg; split at eg; assumption; cases eg
        | cons d ds => rw [hd] at eg; unfold lcGo at eg; split at eg; assumption; cases eg
      exact hG _ _ _ _ (x2.trans (.res hn)) (s2.res hn) ok
    · rintro i x Hc H' hi ⟨H2, R2, m2, S2, acc, us, r, hn, hm, rfl, x2, s2, ra, hl, eg, eres⟩ y
      have hdrop : s.ds.drop i = s.ds[i] :: s.ds.drop (i + 1) := List.drop_eq_getElem_cons hi
      rw [hdrop] at eg
      unfold lcGo at eg
      split at eg
      · rename_i ok
        obtain ⟨ρ1, e3, eg⟩ := bind_some eg
        obtain ⟨⟨b, S3⟩, e4, eg⟩ := bind_some eg
        obtain ⟨d, g1, x3, s3, rd⟩ := hY i _ _ _ _ x H' hi (x2.trans (.res hn)) (s2.res hn) ok y
        have hd : d = s.ds[i] := by
          rw [List.getElem?_eq_getElem hi] at g1
          exact (Option.some.inj g1).symm
        subst hd
        have xall := (x2.trans (.res hn)).trans x3
        have hE' : RepE tb X.K H' (D :: R2) m2 (wipeE ρ vs) (wipe σ vs) := ((hE.ext x1 hS.sub).ext xall s1.sub).wipe vs
        refine ⟨wipeE ρ vs, D :: R2, m2, S2, .d s.ds[i], ρ1, hE', s3, rd, e3, fun σ2 hE2 hw => ⟨(hw vs hsl).trans (wipe_idem fun _ h => h), ?_⟩⟩
        refine ⟨ρ1, D :: R2, m2, S2, b, S3, hE2, s3, e4, fun H3 R3 m3 x4 s4 => ?_⟩
        cases b with
        | false =>
          rw [if_neg Bool.false_ne_true]
          simp only [Bool.false_eq_true, if_false] at eg
          obtain ⟨x5, s5, hp5, hm5⟩ := unres hn hm s2 (x3.trans x4) s4
          have r5 : Reps X.K (er H3 D) (R3.filter (· ≠ D)) acc us := by
            have := Reps.ext ((Ext.res (o := .lst us) hn).trans (x3.trans x4)) s2.sub ra
            exact this.er hp5
          refine ⟨er H3 D, _, m3, S3, acc, us, r, er_same, hm5, ?_, x2.trans x5, s5, r5, Nat.le_succ_of_le hl, eg, eres⟩
          rw [er_upd]
          exact x4.keep D _ hm (x3.keep D _ hm upd_same noT_lst) noT_lst
        | true =>
          rw [if_pos rfl]
          simp only [if_true] at eg
          obtain ⟨⟨yv, S4⟩, e5, eg⟩ := bind_some eg
          simp only at eg
          split at eg
          · rename_i v
            obtain ⟨⟨r', S5⟩, e6, eg⟩ := bind_some eg
            cases eg
            refine ⟨ρ1, R3, m3, S3, .d v, S4, hE2.ext x4 s3.sub, s4, e5, fun yy H4 R4 m4 x5 s5 ry => ?_⟩
            have hm3 : D ∉ m3 := fun z => (x4.freshM D z).elim hm fun q => by
              rw [x3.keep D _ hm upd_same noT_lst] at q; cases q
            have hk : H4 D = some (.lst us) := x5.keep D _ hm3 (x4.keep D _ hm (x3.keep D _ hm upd_same noT_lst) noT_lst) noT_lst
            have xx := (x3.trans x4).trans x5
            obtain ⟨x6, s6, hp6, hm6⟩ := unres hn hm s2 xx s5
            have r6 : Reps X.K (Ev.er H4 D) (R4.filter (· ≠ D)) acc us := (Reps.ext ((Ext.res (o := .lst us) hn).trans xx) s2.sub ra).er hp6
            have hlen : us.length < sizeLine := by
              have h1 := ra.length
              have h2 : i < Lim := Nat.lt_of_lt_of_le hi hlim
              rw [lim_eq]
              omega
            refine ⟨us, hk, hlen, Ev.er H4 D, _, m4, S4, acc ++ [v], us ++ [yy], r', er_same, hm6, ?_, x2.trans x6, s6, r6.append (.cons (Rep.er hp6 ry) .nil), ?_, e6, ?_⟩
            · funext b
              by_cases q : b = D
              · subst q; rw [upd_same, upd_same]
              · rw [upd_ne q, upd_ne q, er_ne q]
            · rw [List.length_append, List.length_singleton]; omega
            · rw [eres, List.append_assoc]; rfl
          · cases eg
      · cases eg
    · rintro Hc ⟨H2, R2, m2, S2, acc, us, r, hn, hm, rfl, x2, s2, ra, hl, eg, eres⟩
      rw [List.drop_length] at eg
      unfold lcGo at eg
      split at eg
      · cases eg
        rw [List.append_nil] at eres
        subst eres
        exact k _ _ _ _ _ (x1.trans x2) s2 hn ra (Nat.le_trans hl hlim)
      · cases eg
  · cases e2
theorem ts_nil : PTs X [] (TB tb X fTrue) := ⟨fun pins s σ H Q I q => pts_nil.run pins s σ H Q I (by
  obtain ⟨ρ, R, m, S, res, S', hE, hS, e, k⟩ := q
  cases e
  exact k _ _ _ .refl hS)⟩
theorem ts_one {c : Expr} {t : Fe Bool} (h : PT X c (TB tb X t)) : PTs X [c] (TB tb X t) := pts_one h
theorem e_lc {elt tg iter : Expr} {ifs : List Expr} {scope : Scope} {own : List (Str × Nat)} {pos : Pos} {src : Fe Src} {gg : Gt} {sl : List Nat} {t : Fe Bool} {f : Fe RV} (hc : X.calm = true) (hN : X.N.Nodup) (hi : PI X tg iter (TIs tb X lz src)) (ok : BlkOk X.N X.env.scope scope own) (hsl : ∀ i ∈ sl, i ∈ own.map (·.2))
    (hg : ∀ (s : Shared) (H : Hp) (C : Addr) (cl : List (Str × Addr)) (fp : List Addr), PG (X.blk s H scope (compEnvC scope cl C X.env) fp) tg (TGr tb X lz sl gg)) (ht : ∀ (s : Shared) (H : Hp) (C : Addr) (cl : List (Str × Addr)) (fp : List Addr), PTs (X.blk s H scope (compEnvC scope cl C X.env) fp) ifs (TB tb X t))
    (he : ∀ (s : Shared) (H : Hp) (C : Addr) (cl : List (Str × Addr)) (fp : List Addr), PE (X.blk s H scope (compEnvC scope cl C X.env) fp) elt (TV tb X f)) (hs : ∀ x, foldedSetIterable iter X.env x = pure x) :
    PE X (.ListComp elt [⟨tg, iter, ifs, 0⟩] scope pos) (TL tb X (lLc src gg t f (own.map (·.2)))) := pe_weak (pe_lc hc hN hi ok hg ht he hs) fun σ H Q q => tl_lc hsl q
end
end Ev

/-! The evaluator, part G: statements, loops. -/
namespace Ev
open PySem PySem.Spec PyProof.Rows L2

inductive Fl where
  | nx | rt (r : RV) | bk | ct
abbrev Fs := Env' → Sto → Option (Fl × Env' × Sto)
def EndOK (tb : Tbs) (X : Cx) (D : Ends) (fl : Fl) (ρ' : Env') (S' : Sto) (H : Hp) (R m : List Addr) : Prop := ∀ σ' H' R' m', Ext H R m H' R' m' → Sim tb X.prog X.w X.K H' R' m' S' → RepE tb X.K H' R' m' ρ' σ' → match fl with
  | .nx => D.nx σ' H'
  | .rt r => ∀ v, RepV tb X.K H' R' m' r v → D.rt v H'
  | .bk => D.bk σ' H'
  | .ct => D.ct σ' H'
def TSf (tb : Tbs) (X : Cx) (f : Fs) : TS := fun D σ H => ∃ (ρ : Env') (R m : List Addr) (S : Sto) (fl : Fl) (ρ' : Env') (S' : Sto), RepE tb X.K H R m ρ σ ∧ Sim tb X.prog X.w X.K H R m S ∧ f ρ S = some (fl, ρ', S') ∧ EndOK tb X D fl ρ' S' H R m
theorem EndOK.ext {X : Cx} {D : Ends} {fl : Fl} {ρ' : Env'} {S' : Sto} {H H' : Hp} {R m R' m' : List Addr} (k : EndOK tb X D fl ρ' S' H R m) (x : Ext H R m H' R' m') : EndOK tb X D fl ρ' S' H' R' m' :=
  fun σ2 H2 R2 m2 x2 s2 e2 => k σ2 H2 R2 m2 (x.trans x2) s2 e2

section
variable {X : Cx} {pos : Pos} {st : Stmt} {rest : List Stmt} {e : Expr} {f g : Fe RV} {F G : Fs}
def sNil : Fs := fun ρ S => some (.nx, ρ, S)
def sSeq2 (F G : Fs) : Fs := fun ρ S => (F ρ S).bind fun z => match z.1 with
  | .nx => G z.2.1 z.2.2
  | _ => some z
theorem ss_nil : PSs X [] (TSf tb X sNil) := pss_weak pss_nil fun D σ H ⟨ρ, R, m, S, fl, ρ', S', hE, hS, e, k⟩ => by
  cases e
  exact k _ _ _ _ .refl hS hE
theorem ss_cons (h1 : PS X st (TSf tb X F)) (h2 : PSs X rest (TSf tb X G)) : PSs X (st :: rest) (TSf tb X (sSeq2 F G)) := pss_weak (pss_cons h1 h2) fun D σ H ⟨ρ, R, m, S, fl, ρ', S', hE, hS, e, k⟩ => by
  obtain ⟨⟨fl1, ρ1, S1⟩, e1, e2⟩ := bind_some e
  refine ⟨ρ, R, m, S, fl1, ρ1, S1, hE, hS, e1, fun σ1 H1 R1 m1 x1 s1 E1 => ?_⟩
  cases fl1 with
  | nx => exact ⟨ρ1, R1, m1, S1, fl, ρ', S', E1, s1, e2, k.ext x1⟩
  | rt r => cases e2; exact k σ1 H1 R1 m1 x1 s1 E1
  | bk => cases e2; exact k σ1 H1 R1 m1 x1 s1 E1
  | ct => cases e2; exact k σ1 H1 R1 m1 x1 s1 E1
def sPass : Fs := fun ρ S => some (.nx, ρ, S)
def sBreak : Fs := fun ρ S => some (.bk, ρ, S)
def sCont : Fs := fun ρ S => some (.ct, ρ, S)
theorem s_pass : PS X (.Pass pos) (TSf tb X sPass) := ps_weak ps_pass fun D σ H ⟨ρ, R, m, S, fl, ρ', S', hE, hS, e, k⟩ => by
  cases e
  exact k _ _ _ _ .refl hS hE
theorem s_break : PS X (.Break pos) (TSf tb X sBreak) := ps_weak ps_break fun D σ H ⟨ρ, R, m, S, fl, ρ', S', hE, hS, e, k⟩ => by
  cases e
  exact k _ _ _ _ .refl hS hE
theorem s_cont : PS X (.Continue pos) (TSf tb X sCont) := ps_weak ps_continue fun D σ H ⟨ρ, R, m, S, fl, ρ', S', hE, hS, e, k⟩ => by
  cases e
  exact k _ _ _ _ .refl hS hE
/-- never come to -/
def sNo : Fs := fun _ _ => none
theorem s_no : PS X st (TSf tb X sNo) := ps_weak ps_never fun D σ H ⟨ρ, R, m, S, fl, ρ', S', hE, hS, e, k⟩ => by cases e
def sRet (f : Fe RV) : Fs := fun ρ S => (f ρ S).bind fun p => some (.rt p.1, ρ, p.2)
theorem s_ret (he : PE X e (TV tb X f)) : PS X (.Return (some e) pos) (TSf tb X (sRet f)) := ps_weak (ps_ret he) fun D σ H ⟨ρ, R, m, S, fl, ρ', S', hE, hS, e, k⟩ => by
  obtain ⟨⟨x, S1⟩, e1, e2⟩ := bind_some e
  cases e2
  refine ⟨ρ, R, m, S, x, S1, hE, hS, e1, fun v H1 R1 m1 x1 s1 r1 => ?_⟩
  exact k σ H1 R1 m1 x1 s1 (hE.ext x1 hS.sub) v r1
def sRetN : Fs := fun ρ S => some (.rt (.d .non), ρ, S)
theorem s_retN : PS X (.Return none pos) (TSf tb X sRetN) := ps_weak ps_retN fun D σ H ⟨ρ, R, m, S, fl, ρ', S', hE, hS, e, k⟩ => by
  cases e
  exact k _ _ _ _ .refl hS hE _ .non
def sExpr (f : Fe RV) : Fs := fun ρ S => (f ρ S).bind fun p => some (.nx, ρ, p.2)
theorem s_expr (he : PE X e (TV tb X f)) (hs : swapsWith e none pos.line X.env = pure false) : PS X (.Expr e pos) (TSf tb X (sExpr f)) := ps_weak (ps_expr he hs) fun D σ H ⟨ρ, R, m, S, fl, ρ', S', hE, hS, e, k⟩ => by
  obtain ⟨⟨x, S1⟩, e1, e2⟩ := bind_some e
  cases e2
  exact ⟨ρ, R, m, S, x, S1, hE, hS, e1, fun v H1 R1 m1 x1 s1 r1 => k σ H1 R1 m1 x1 s1 (hE.ext x1 hS.sub)⟩
def sIf (t : Fe Bool) (F G : Fs) : Fs := fun ρ S => (t ρ S).bind fun p => if p.1 = true then F ρ p.2 else G ρ p.2
theorem s_if {c : Expr} {a b : List Stmt} {t : Fe Bool} (hc : PT X c (TB tb X t)) (ha : PSs X a (TSf tb X F)) (hb : PSs X b (TSf tb X G)) : PS X (.If c a b pos) (TSf tb X (sIf t F G)) := ps_weak (ps_if hc ha hb) fun D σ H ⟨ρ, R, m, S, fl, ρ', S', hE, hS, e, k⟩ => by
  obtain ⟨⟨x, S1⟩, e1, e2⟩ := bind_some e
  refine ⟨ρ, R, m, S, x, S1, hE, hS, e1, fun H1 R1 m1 x1 s1 => ?_⟩
  cases x with
  | true =>
    rw [if_pos rfl]
    exact ⟨ρ, R1, m1, S1, fl, ρ', S', hE.ext x1 hS.sub, s1, e2, k.ext x1⟩
  | false =>
    rw [if_neg Bool.false_ne_true]
    exact ⟨ρ, R1, m1, S1, fl, ρ', S', hE.ext x1 hS.sub, s1, e2, k.ext x1⟩
/-- target = value -/
def sAsg (f : Fe RV) (gg : Gt) : Fs := fun ρ S => (f ρ S).bind fun p => (gg p.1 ρ).bind fun ρ1 => some (.nx, ρ1, p.2)
theorem asg_w {te : TE} {sl : List Nat} {gg : Gt} (hte : ∀ σ H Q, TV tb X f σ H Q → te σ H Q) : ∀ D σ H, TSf tb X (sAsg f gg) D σ H → tAsg te (TGr tb X lz sl gg) D σ H := fun D σ H ⟨ρ, R, m, S, fl, ρ', S', hE, hS, e, k⟩ => by
  obtain ⟨⟨x, S1⟩, e1, e2⟩ := bind_some e
  obtain ⟨ρ1, e3, e4⟩ := bind_some e2
  cases e4
  refine hte _ _ _ ⟨ρ, R, m, S, x, S1, hE, hS, e1, fun v H1 R1 m1 x1 s1 r1 => ?_⟩
  exact ⟨ρ, R1, m1, _, x, _, hE.ext x1 hS.sub, s1, .of r1, e3, fun σ' hE' _ => k σ' H1 R1 m1 x1 s1 hE'⟩
theorem s_asg {tg : Expr} {sl : List Nat} {gg : Gt} (he : PE X e (TV tb X f)) (hg : PG X tg (TGr tb X lz sl gg)) (hs : swapsWithSole [tg] e pos.line X.env = pure false) (hw : swappedStores [tg] e X.env = pure none) (h1 : (assignEach [tg] X.env).map (·.2) = [assign tg X.env]) :
    PS X (.Assign [tg] e pos) (TSf tb X (sAsg f gg)) := ps_weak (ps_asg he hg hs hw h1) (asg_w fun _ _ _ h => h)
theorem s_set {i : Nat} {x : Str} {pos' : Pos} (hN : X.N.Nodup) (hi : X.N[i]? = some x) (hx : Loc X.env.scope x) (he : PE X e (TV tb X f)) (hs : swapsWith e (some (.Name x pos')) pos.line X.env = pure false) (hf : X.fn x = true ∨ X.env.scope.names.lookup x = some .local) :
    PS X (.Assign [.Name x pos'] e pos) (TSf tb X (sAsg f (gN i))) := ps_weak (ps_set hN hi hx he hs hf) fun D σ H ⟨ρ, R, m, S, fl, ρ', S', hE, hS, e, k⟩ => by
  obtain ⟨⟨x, S1⟩, e1, e2⟩ := bind_some e
  cases e2
  refine ⟨ρ, R, m, S, x, S1, hE, hS, e1, fun v H1 R1 m1 x1 s1 r1 => ?_⟩
  exact k _ H1 R1 m1 x1 s1 ((hE.ext x1 hS.sub).set i r1)
/-- name = [..] with the comprehension's own way to store -/
theorem s_setLc {i : Nat} {y : Str} {py : Pos} {elt tg iter : Expr} {ifs : List Expr} {scope : Scope} {own : List (Str × Nat)} {spos : Pos} {src : Fe Src} {gg : Gt} {sl : List Nat} {t : Fe Bool} (hc : X.calm = true) (hN : X.N.Nodup) (hy : X.N[i]? = some y) (hyl : X.env.scope.names.lookup y = some .local)
    (hsw : swapsWith (.ListComp elt [⟨tg, iter, ifs, 0⟩] scope pos) (some (.Name y py)) spos.line X.env = pure true) (hi : PI X tg iter (TIs tb X lz src)) (ok : BlkOk X.N X.env.scope scope own) (hsl : ∀ i ∈ sl, i ∈ own.map (·.2))
    (hg : ∀ (s : Shared) (H : Hp) (C : Addr) (cl : List (Str × Addr)) (fp : List Addr), PG (X.blk s H scope (compEnvC scope cl C X.env) fp) tg (TGr tb X lz sl gg)) (ht : ∀ (s : Shared) (H : Hp) (C : Addr) (cl : List (Str × Addr)) (fp : List Addr), PTs (X.blk s H scope (compEnvC scope cl C X.env) fp) ifs (TB tb X t))
    (he : ∀ (s : Shared) (H : Hp) (C : Addr) (cl : List (Str × Addr)) (fp : List Addr), PE (X.blk s H scope (compEnvC scope cl C X.env) fp) elt (TV tb X f)) (hs : ∀ x, foldedSetIterable iter X.env x = pure x) {h : Fe RV}
    (hh : ∀ σ H Q, TV tb X h σ H Q → TL tb X (lLc src gg t f (own.map (·.2))) σ H Q) :
    PS X (.Assign [.Name y py] (.ListComp elt [⟨tg, iter, ifs, 0⟩] scope pos) spos) (TSf tb X (sAsg h (gN i))) := ps_weak (ps_setLc hc hN hy hyl hsw hi ok hg ht he hs) fun D σ H ⟨ρ, R, m, S, fl, ρ', S', hE, hS, e, k⟩ => by
  obtain ⟨⟨x, S1⟩, e1, e2⟩ := bind_some e
  cases e2
  refine tl_lc hsl (hh _ _ _ ⟨ρ, R, m, S, x, S1, hE, hS, e1, fun v H1 R1 m1 x1 s1 r1 => ?_⟩)
  exact k _ H1 R1 m1 x1 s1 ((hE.ext x1 hS.sub).set i r1)
theorem tv_val {l : Fe (List D)} : ∀ σ H Q, TV tb X (eVal l) σ H Q → TL tb X l σ H Q := fun σ H Q q => by
  obtain ⟨ρ, R, m, S, r, S', hE, hS, e, k⟩ := q
  obtain ⟨ds, e1, e2⟩ := fMap_some e
  cases e2
  refine ⟨ρ, R, m, S, ds, S', hE, hS, e1, fun a vs H1 R1 m1 x1 s1 hn r1 hl => ?_⟩
  exact k _ _ _ _ (x1.trans (.new hn)) (s1.new hn) (.lst (.inl upd_same) (s1.notR hn) (r1.ext (.new hn) s1.sub))
theorem tv_obj {l : Fe (List D)} : ∀ σ H Q, TV tb X (eObj l) σ H Q → TL tb X l σ H Q := fun σ H Q q => by
  obtain ⟨ρ, R, m, S, r, S', hE, hS, e, k⟩ := q
  obtain ⟨⟨ds, S1⟩, e1, e2⟩ := bind_some e
  cases e2
  refine ⟨ρ, R, m, S, ds, S1, hE, hS, e1, fun a vs H1 R1 m1 x1 s1 hn r1 hl => ?_⟩
  refine k _ _ _ _ (x1.trans (.own hn)) (s1.own hn ⟨vs, upd_same, r1.ext (.own hn) s1.sub⟩) ⟨a, ?_, rfl⟩
  rw [← s1.len, List.getElem?_append_right (Nat.le_refl _), Nat.sub_self]
  rfl
/-- a, b = x, y with plain local names -/
def sPar (i j : Nat) (h : Fe (List RV)) : Fs := fun ρ S => (h ρ S).bind fun p => match p.1 with
  | [x, y] => some (.nx, (ρ.set i (some x)).set j (some y), p.2)
  | _ => none
theorem s_par {i j : Nat} {x y : Str} {a b : Expr} {px py pt : Pos} {kt k2 pt2} {h : Fe (List RV)} (hc : X.calm = true) (hN : X.N.Nodup) (hi : X.N[i]? = some x) (hj : X.N[j]? = some y) (hij : i ≠ j) (hx : X.env.scope.names.lookup x = some .local) (hy : X.env.scope.names.lookup y = some .local) (ha : PA X [a, b] (TAs tb X h))
    (hw : swappedStores [.Tuple [.Name x px, .Name y py] kt pt] (.Tuple [a, b] k2 pt2) X.env = pure (some [x, y])) (hs : swapsWithSole [.Tuple [.Name x px, .Name y py] kt pt] (.Tuple [a, b] k2 pt2) pos.line X.env = pure false) :
    PS X (.Assign [.Tuple [.Name x px, .Name y py] kt pt] (.Tuple [a, b] k2 pt2) pos) (TSf tb X (sPar i j h)) := ps_weak (ps_par hc hN hi hj hij hx hy ha hw hs) fun D σ H ⟨ρ, R, m, S, fl, ρ', S', hE, hS, e, k⟩ => by
  obtain ⟨⟨rs, S1⟩, e1, e2⟩ := bind_some e
  refine ⟨ρ, R, m, S, rs, S1, hE, hS, e1, fun vs H1 R1 m1 x1 s1 r1 => ?_⟩
  simp only at e2
  split at e2
  · cases e2
    obtain ⟨v, u, rfl, rv, ru⟩ := rep2 r1
    exact ⟨v, u, rfl, k _ H1 R1 m1 x1 s1 (((hE.ext x1 hS.sub).set i rv).set j ru)⟩
  · cases e2
/-- name op= e -/
def sAug (i : Nat) (op : Op2) (f : Fe RV) : Fs := fun ρ S => (eVar i ρ S).bind fun a => (f ρ S).bind fun p => (op a.1 p.1 p.2).bind fun z => some (.nx, ρ.set i (some z), p.2)
theorem s_aug {i : Nat} {x : Str} {op : Operator} {r : R2} {vop : Op2} {pos' : Pos} (hN : X.N.Nodup) (hi : X.N[i]? = some x) (hx : Loc X.env.scope x) (he : PE X e (TV tb X f)) (ho : OpR X (inplaceOp op) r) (hv : OpV tb X r vop) (hf : X.fn x = true ∨ X.env.scope.names.lookup x = some .local) :
    PS X (.AugAssign (.Name x pos') op e pos) (TSf tb X (sAug i vop f)) := ps_weak (ps_aug (ti := r) hN hi hx he (fun pins s σ H x y v u Q I r1 r2 h => ho pins s σ H x y v u Q I r1 r2 h) hf) fun D σ H ⟨ρ, R, m, S, fl, ρ', S', hE, hS, e, k⟩ => by
  obtain ⟨⟨a, S0⟩, e1, e2⟩ := bind_some e
  obtain ⟨⟨y, S1⟩, e3, e4⟩ := bind_some e2
  obtain ⟨z, e5, e6⟩ := bind_some e4
  cases e6
  unfold eVar at e1
  split at e1
  · rename_i ra hra
    cases e1
    obtain ⟨va, h1, h2⟩ := hE.at_ _ _ hra
    refine ⟨va, h1, ρ, R, m, S, y, S1, hE, hS, e3, fun u H1 R1 m1 x1 s1 r1 => ?_⟩
    refine hv H1 R1 m1 S1 _ y va u z s1 (h2.ext x1 hS.sub) r1 e5 _ fun v' H' x2 s2 r2 => ?_
    exact k _ H' R1 m1 (x1.trans x2) s2 (((hE.ext x1 hS.sub).ext x2 s1.sub).set i r2)
  · cases e1

/-! ### for -/
def foGo (s : Src) (gg : Gt) (F : Fs) : List D → Fs
  | [], ρ, S => if s.ok S = true then some (.nx, ρ, S) else none
  | d :: ds, ρ, S => if s.ok S = true then (gg (.d d) ρ).bind fun ρ1 => (F ρ1 S).bind fun z => match z.1 with
      | .nx => foGo s gg F ds z.2.1 z.2.2
      | .ct => foGo s gg F ds z.2.1 z.2.2
      | .bk => some (.nx, z.2)
      | .rt r => some (.rt r, z.2)
    else none
def sFor (src : Fe Src) (gg : Gt) (F : Fs) : Fs := fun ρ S => (src ρ S).bind fun p => foGo p.1 gg F p.1.ds ρ p.2
theorem s_for {tg iter : Expr} {body : List Stmt} {src : Fe Src} {sl : List Nat} {gg : Gt} (hp : PassesOwn (model X.prog X.w) X.A X.env X.xe) (hc : X.calm = true) (hi : PI X tg iter (TIs tb X lz src)) (hg : PG X tg (TGr tb X lz sl gg)) (hb : PSs X body (TSf tb X F)) (hs : ∀ x, foldedSetIterable iter X.env x = pure x) :
    PS X (.For tg iter body [] pos) (TSf tb X (sFor src gg F)) := ps_weak (ps_for hp hc hi hg hb hs) fun D σ H ⟨ρ, R, m, S, fl, ρ', S', hE, hS, e, k⟩ => by
  obtain ⟨⟨s, S1⟩, e1, e2⟩ := bind_some e
  refine ⟨ρ, R, m, S, s, S1, hE, hS, e1, fun J H1 R1 m1 x1 s1 wk => ?_⟩
  obtain ⟨G, Y, wJ, hG, hY⟩ := wk
  have okd : ∀ {ds : List Ev.D} {ρ2 : Env'} {S2 : Sto} {z}, foGo s gg F ds ρ2 S2 = some z → s.ok S2 = true := by
    intro ds ρ2 S2 z q
    cases ds with
    | nil => unfold foGo at q; split at q; assumption; cases q
    | cons d ds => unfold foGo at q; split at q; assumption; cases q
  refine for_it wJ (fun i σ2 H2 => ∃ (ρ2 : Env') (R2 m2 : List Addr) (S2 : Sto), Ext H1 R1 m1 H2 R2 m2 ∧ Sim tb X.prog X.w X.K H2 R2 m2 S2 ∧ RepE tb X.K H2 R2 m2 ρ2 σ2 ∧ foGo s gg F (s.ds.drop i) ρ2 S2 = some (fl, ρ', S') ∧ EndOK tb X D fl ρ' S' H2 R2 m2) ?_ ?_ ?_ ?_
  · exact ⟨ρ, R1, m1, S1, .refl, s1, hE.ext x1 hS.sub, e2, k.ext x1⟩
  · rintro i σ2 H2 hi ⟨ρ2, R2, m2, S2, x2, s2, E2, q, kk⟩
    exact hG _ _ _ _ x2 s2 (okd q)
  · rintro i x σ2 H2 H' hi ⟨ρ2, R2, m2, S2, x2, s2, E2, q, kk⟩ y
    have hdrop : s.ds.drop i = s.ds[i] :: s.ds.drop (i + 1) := List.drop_eq_getElem_cons hi
    rw [hdrop] at q
    have ok := okd q
    unfold foGo at q
    rw [if_pos ok] at q
    obtain ⟨ρ3, e3, q⟩ := bind_some q
    obtain ⟨⟨fl3, ρ4, S4⟩, e4, q⟩ := bind_some q
    obtain ⟨d, g1, x3, s3, rd⟩ := hY i _ _ _ _ x H' hi x2 s2 ok y
    have hd : d = s.ds[i] := by
      rw [List.getElem?_eq_getElem hi] at g1
      exact (Option.some.inj g1).symm
    subst hd
    refine ⟨ρ2, R2, m2, S2, .d s.ds[i], ρ3, E2.ext x3 s2.sub, s3, rd, e3, fun σ3 E3 _ => ?_⟩
    refine ⟨ρ3, R2, m2, S2, fl3, ρ4, S4, E3, s3, e4, fun σ4 H4 R4 m4 x4 s4 E4 => ?_⟩
    have xx := x3.trans x4
    cases fl3 with
    | nx => exact ⟨ρ4, R4, m4, S4, x2.trans xx, s4, E4, q, kk.ext xx⟩
    | ct => exact ⟨ρ4, R4, m4, S4, x2.trans xx, s4, E4, q, kk.ext xx⟩
    | bk => cases q; exact kk σ4 H4 R4 m4 xx s4 E4
    | rt r =>
      cases q
      exact fun v rv => kk σ4 H4 R4 m4 xx s4 E4 v rv
  · rintro σ2 H2 ⟨ρ2, R2, m2, S2, x2, s2, E2, q, kk⟩
    rw [List.drop_length] at q
    have ok := okd q
    unfold foGo at q
    rw [if_pos ok] at q
    cases q
    exact kk σ2 H2 R2 m2 .refl s2 E2

/-! ### while -/
def whGo (t : Fe Bool) (F : Fs) : Nat → Fs
  | 0, _, _ => none
  | n + 1, ρ, S => (t ρ S).bind fun p => if p.1 = true then (F ρ p.2).bind fun z => match z.1 with
      | .nx => whGo t F n z.2.1 z.2.2
      | .ct => whGo t F n z.2.1 z.2.2
      | .bk => some (.nx, z.2)
      | .rt r => some (.rt r, z.2)
    else some (.nx, ρ, p.2)
theorem s_while {c : Expr} {body : List Stmt} {t : Fe Bool} {n : Nat} (hp : PassesOwn (model X.prog X.w) X.A X.env X.xe) (hc : PT X c (TB tb X t)) (hb : PSs X body (TSf tb X F)) : PS X (.While c body [] pos) (TSf tb X (whGo t F n)) := ps_weak (ps_while hp hc hb) fun D σ H ⟨ρ, R, m, S, fl, ρ', S', hE, hS, e, k⟩ => by
  refine ⟨fun i σ2 H2 => ∃ (ρ2 : Env') (R2 m2 : List Addr) (S2 : Sto), Sim tb X.prog X.w X.K H2 R2 m2 S2 ∧ RepE tb X.K H2 R2 m2 ρ2 σ2 ∧ whGo t F i ρ2 S2 = some (fl, ρ', S') ∧ EndOK tb X D fl ρ' S' H2 R2 m2, ⟨n, ρ, R, m, S, hS, hE, e, k⟩, ?_⟩
  rintro i σ2 H2 ⟨ρ2, R2, m2, S2, s2, E2, q, kk⟩
  cases i with
  | zero => cases q
  | succ i =>
    unfold whGo at q
    obtain ⟨⟨b, S3⟩, e1, q⟩ := bind_some q
    refine ⟨ρ2, R2, m2, S2, b, S3, E2, s2, e1, fun H3 R3 m3 x3 s3 => ?_⟩
    cases b with
    | false =>
      rw [if_neg Bool.false_ne_true]
      simp only [Bool.false_eq_true, if_false] at q
      cases q
      exact kk σ2 H3 R3 m3 x3 s3 (E2.ext x3 s2.sub)
    | true =>
      rw [if_pos rfl]
      simp only [if_true] at q
      obtain ⟨⟨fl3, ρ4, S4⟩, e4, q⟩ := bind_some q
      refine ⟨fun σ' H' => ∃ (ρ2 : Env') (R2 m2 : List Addr) (S2 : Sto), Sim tb X.prog X.w X.K H' R2 m2 S2 ∧ RepE tb X.K H' R2 m2 ρ2 σ' ∧ whGo t F i ρ2 S2 = some (fl, ρ', S') ∧ EndOK tb X D fl ρ' S' H' R2 m2, fun σ' H' w => ⟨i, Nat.lt_succ_self _, w⟩, ?_⟩
      refine ⟨ρ2, R3, m3, S3, fl3, ρ4, S4, E2.ext x3 s2.sub, s3, e4, fun σ4 H4 R4 m4 x4 s4 E4 => ?_⟩
      have xx := x3.trans x4
      cases fl3 with
      | nx => exact ⟨ρ4, R4, m4, S4, s4, E4, q, kk.ext xx⟩
      | ct => exact ⟨ρ4, R4, m4, S4, s4, E4, q, kk.ext xx⟩
      | bk => cases q; exact kk σ4 H4 R4 m4 xx s4 E4
      | rt r =>
        cases q
        exact fun v rv => kk σ4 H4 R4 m4 xx s4 E4 v rv

/-! ### o[i] = e in an owned list -/
def sSubL (fo fi fe : Fe RV) : Fs := fun ρ S => (fe ρ S).bind fun v => (fo ρ v.2).bind fun o => (fi ρ o.2).bind fun i => (isObjL o.1 i.2).bind fun q => match v.1, i.1 with
  | .d d, .d (.int k) => (ixN q.2.length k).bind fun j => some (.nx, ρ, i.2.set q.1 (.lst (q.2.set j d)))
  | _, _ => none
theorem s_subL {o i : Expr} {fo fi : Fe RV} {pos' : Pos} (ho : PE X o (TV tb X fo)) (hi : PE X i (TV tb X fi)) (he : PE X e (TV tb X f))
    (ha : ∀ v, assign (.Subscript o i pos') X.env v = (do
      let ov ← holding [v] (eval o X.env)
      let iv ← holding [v, ov] (eval i X.env)
      standAt pos'
      holding [v, ov, iv] (setItem ov iv v)
      release [v, ov, iv] [])) (hs : swapsWithSole [.Subscript o i pos'] e pos.line X.env = pure false) (hw : swappedStores [.Subscript o i pos'] e X.env = pure none) (h1 : (assignEach [.Subscript o i pos'] X.env).map (·.2) = [assign (.Subscript o i pos') X.env]) :
    PS X (.Assign [.Subscript o i pos'] e pos) (TSf tb X (sSubL fo fi f)) := ps_weak (ps_asg he (pg_sub ho hi set_list ha) hs hw h1) fun D σ H ⟨ρ, R, m, S, fl, ρ', S', hE, hS, e, k⟩ => by
  obtain ⟨⟨v, S1⟩, e1, ea⟩ := bind_some e
  obtain ⟨⟨ov, S2⟩, e2, eb⟩ := bind_some ea
  obtain ⟨⟨iv, S3⟩, e3, ec⟩ := bind_some eb
  obtain ⟨⟨n, ds⟩, e4, ed⟩ := bind_some ec
  clear e ea eb ec
  refine ⟨ρ, R, m, S, v, S1, hE, hS, e1, fun vv H1 R1 m1 x1 s1 r1 => ?_⟩
  have E1 := hE.ext x1 hS.sub
  refine ⟨ρ, R1, m1, S1, ov, S2, E1, s1, e2, fun oo H2 R2 m2 x2 s2 r2 => ?_⟩
  have E2 := E1.ext x2 s1.sub
  refine ⟨ρ, R2, m2, S2, iv, S3, E2, s2, e3, fun ii H3 R3 m3 x3 s3 r3 => ?_⟩
  have E3 := E2.ext x3 s2.sub
  simp only at ed
  split at ed
  · rename_i d kk
    obtain ⟨j, e5, ee⟩ := bind_some ed
    cases ee
    obtain ⟨a, vs, rfl, h1, h2, h3, h4⟩ := objL_view s3 (r2.ext x3 s2.sub) e4
    cases r3
    have rd : Rep X.K H3 R3 d vv := RepV.ext x3 s2.sub (RepV.ext x2 s1.sub r1)
    obtain ⟨x4, s4⟩ := chg_lst s3 h1 h2 (Reps.set rd j h3)
    exact ⟨a, vs, kk, j, rfl, rfl, h2, by rw [← h3.length]; exact e5, k _ _ _ _ (((x1.trans x2).trans x3).trans x4) s4 (E3.ext x4 s3.sub)⟩
  · cases ed
end
end Ev

/-! The evaluator, part H: defs, their calls; instances; dicts whose keys are trees. -/
namespace Ev
open PySem PySem.Spec PyProof.Rows L2

/-! ### what a pure def gives: a value, or a new list -/
inductive PR where
  | v (x : D) | l (xs : List D)
structure Keep (H H' : Hp) : Prop where
  keep : ∀ a o, H a = some o → NoT o → H' a = some o
  live : ∀ a, H a ≠ none → H' a ≠ none
theorem Keep.ext {H H' : Hp} {R m : List Addr} (k : Keep H H') : Ext H R m H' R m where
  pre := ⟨[], by simp⟩
  sub := fun _ h => h
  fresh := fun _ h => .inl h
  freshM := fun _ h => .inl h
  keep := fun a o _ h t => k.keep a o h t
  live := k.live
theorem RepO.noT {P : Program} {w : World} {K : PySem.W.Frag} {H : Hp} {R m : List Addr} {ob : Ob} {a : Addr} {o : HO} (r : RepO tb P w K H R m ob a) (h : H a = some o) : NoT o := by
  cases ob with
  | lst ds => obtain ⟨vs, g, _⟩ := r; rw [h] at g; cases g; intro _ z; cases z
  | dct ds => obtain ⟨vs, g, _⟩ := r; rw [h] at g; cases g; intro _ z; cases z
  | dcx ds => obtain ⟨vs, g, _⟩ := r; rw [h] at g; cases g; intro _ z; cases z
  | ins c fs => obtain ⟨dx, vs, g, _⟩ := r; rw [h] at g; cases g; intro _ z; cases z
theorem Sim.keep {P : Program} {w : World} {K : PySem.W.Frag} {H H' : Hp} {R m : List Addr} {S : Sto} (s : Sim tb P w K H R m S) (k : Keep H H') (t : TabsR tb H' R) : Sim tb P w K H' R m S where
  nd := s.nd
  sub := s.sub
  live := fun a h => (Keep.ext k (R := R) (m := m)).live a (s.live a h)
  len := s.len
  at_ := fun i a ob h1 h2 => RepO.ext (Keep.ext k) s.sub (s.at_ i a ob h1 h2) (by
    cases q : H a with
    | none => exact absurd q (s.live a (s.sub a (List.mem_of_getElem? h1)))
    | some o => exact k.keep a o q ((s.at_ i a ob h1 h2).noT q))
  tabs := t
def spP (tb : Tbs) (K : PySem.W.Frag) (n : Nat) (Fn : List D → Option PR) : Sp := fun vs H Q _ => ∃ (R : List Addr) (ds : List D) (r : PR), (∀ a ∈ R, H a ≠ none) ∧ TabsR tb H R ∧ Reps K H R ds vs ∧ ds.length = n ∧ Fn ds = some r ∧ match r with
  | .v x => ∀ v H', Keep H H' → TabsR tb H' R → Rep K H' R x v → Q v H'
  | .l xs => ∀ H1 a us, Keep H H1 → TabsR tb H1 R → H1 a = none → Reps K H1 R xs us → xs.length ≤ Lim → Q (.ref a) (upd H1 a (.lst us))
def spF (tb : Tbs) (K : PySem.W.Frag) (n : Nat) (Fn : List RV → Option PR) : Sp := fun vs H Q _ => ∃ (R : List Addr) (rs : List RV) (r : PR), (∀ a ∈ R, H a ≠ none) ∧ TabsR tb H R ∧ RepVs tb K H R [] rs vs ∧ rs.length = n ∧ Fn rs = some r ∧ match r with
  | .v x => ∀ v H', Keep H H' → TabsR tb H' R → Rep K H' R x v → Q v H'
  | .l xs => ∀ H1 a us, Keep H H1 → TabsR tb H1 R → H1 a = none → Reps K H1 R xs us → xs.length ≤ Lim → Q (.ref a) (upd H1 a (.lst us))
def spS (tb : Tbs) (P : Program) (w : World) (K : PySem.W.Frag) (n : Nat) (Fn : List RV → Sto → Option (RV × Sto)) : Sp := fun vs H Q _ => ∃ (R m : List Addr) (S : Sto) (rs : List RV) (r : RV) (S' : Sto), Sim tb P w K H R m S ∧ RepVs tb K H R m rs vs ∧ rs.length = n ∧ Fn rs S = some (r, S') ∧
  ∀ v H' R' m', Ext H R m H' R' m' → Sim tb P w K H' R' m' S' → RepV tb K H' R' m' r v → Q v H'
theorem RepVs.length {K : PySem.W.Frag} {H : Hp} {R m : List Addr} : ∀ {rs : List RV} {vs : List V}, RepVs tb K H R m rs vs → rs.length = vs.length
  | _, _, .nil => rfl
  | _, _, .cons _ r => congrArg Nat.succ r.length
theorem dsOf_len : ∀ {rs : List RV} {ds : List D}, dsOf rs = some ds → rs.length = ds.length
  | [], _, e => by cases e; rfl
  | .d x :: r, _, e => by
    obtain ⟨xs, h1, rfl⟩ := Option.map_eq_some_iff.mp (show (dsOf r).map (fun xs => x :: xs) = some _ from e)
    exact congrArg Nat.succ (dsOf_len h1)
  | .o _ :: _, _, e => by cases e
  | .t _ :: _, _, e => by cases e
  | .fn _ :: _, _, e => by cases e

/-! ### the calls -/
def oP (n : Nat) (Fn : List D → Option PR) (rs : List RV) : Option PR := (dsOf rs).bind fun ds => if ds.length = n then Fn ds else none
def eCallP (n : Nat) (Fn : List D → Option PR) (h : Fe (List RV)) : Fe RV := fMap h fun rs _ => (oP n Fn rs).bind fun r => match r with
  | .v x => some (.d x)
  | .l xs => some (.d (.lst xs))
def lCallP (n : Nat) (Fn : List D → Option PR) (h : Fe (List RV)) : Fe (List D) := fMap h fun rs _ => (oP n Fn rs).bind fun r => match r with
  | .v _ => none
  | .l xs => some xs
def eCallS (n : Nat) (Fn : List RV → Sto → Option (RV × Sto)) (h : Fe (List RV)) : Fe RV := fBind h fun rs => fun _ S => if rs.length = n then Fn rs S else none
section
variable {X : Cx} {e o : Expr} {es : List Expr} {pos p apos : Pos} {x m : Str} {h : Fe (List RV)} {f fo : Fe RV} {fd : FuncData} {ps : List Str} {k n : Nat} {fa C : Addr} {FP : List D → Option PR} {FS : List RV → Sto → Option (RV × Sto)} {E : XK}
theorem oP_some {rs : List RV} {r : PR} (q : oP n FP rs = some r) : ∃ ds, dsOf rs = some ds ∧ ds.length = n ∧ FP ds = some r := by
  obtain ⟨ds, e1, e2⟩ := bind_some q
  split at e2
  · rename_i hl
    exact ⟨ds, e1, hl, e2⟩
  · cases e2
theorem tv_callP {σ : L2.St} {H : Hp} {Q : VK} (q : TV tb X (eCallP n FP h) σ H Q) : tCall (spP tb X.K n FP) [] E (TAs tb X h) σ H Q := by
  obtain ⟨ρ, R, m, S, res, S', hE, hS, e, k⟩ := q
  obtain ⟨rs, e1, e2⟩ := fMap_some e
  obtain ⟨r, e3, e4⟩ := bind_some e2
  obtain ⟨ds, e5, hl, e6⟩ := oP_some e3
  refine ⟨ρ, R, m, S, rs, S', hE, hS, e1, fun vs H1 R1 m1 x1 s1 r1 => ?_⟩
  show spP tb X.K n FP (vs ++ []) H1 Q E
  rw [List.append_nil]
  refine ⟨R1, ds, r, s1.live, s1.tabs, dsOf_reps r1 e5, hl, e6, ?_⟩
  cases r with
  | v x =>
    cases e4
    exact fun v H' kp kt rx => k v H' R1 m1 (x1.trans kp.ext) (s1.keep kp kt) rx
  | l xs =>
    cases e4
    exact fun H2 a us kp kt hn ru hl => k _ _ R1 m1 ((x1.trans kp.ext).trans (.new hn)) ((s1.keep kp kt).new hn) (.lst (.inl upd_same) ((s1.keep kp kt).notR hn) (ru.ext (Ext.new (m := m1) hn) (s1.keep kp kt).sub))
theorem tl_callP {σ : L2.St} {H : Hp} {Q : VK} (q : TL tb X (lCallP n FP h) σ H Q) : tCall (spP tb X.K n FP) [] E (TAs tb X h) σ H Q := by
  obtain ⟨ρ, R, m, S, res, S', hE, hS, e, k⟩ := q
  obtain ⟨rs, e1, e2⟩ := fMap_some e
  obtain ⟨r, e3, e4⟩ := bind_some e2
  obtain ⟨ds, e5, hl, e6⟩ := oP_some e3
  refine ⟨ρ, R, m, S, rs, S', hE, hS, e1, fun vs H1 R1 m1 x1 s1 r1 => ?_⟩
  show spP tb X.K n FP (vs ++ []) H1 Q E
  rw [List.append_nil]
  refine ⟨R1, ds, r, s1.live, s1.tabs, dsOf_reps r1 e5, hl, e6, ?_⟩
  cases r with
  | v x => cases e4
  | l xs =>
    cases e4
    exact fun H2 a us kp kt hn ru hl => k a us H2 R1 m1 (x1.trans kp.ext) (s1.keep kp kt) hn ru hl
theorem tv_callS {σ : L2.St} {H : Hp} {Q : VK} (q : TV tb X (eCallS n FS h) σ H Q) : tCall (spS tb X.prog X.w X.K n FS) [] E (TAs tb X h) σ H Q := by
  obtain ⟨ρ, R, m, S, res, S', hE, hS, e, k⟩ := q
  obtain ⟨rs, S1, e1, e2⟩ := fBind_some e
  split at e2
  · rename_i hl
    refine ⟨ρ, R, m, S, rs, S1, hE, hS, e1, fun vs H1 R1 m1 x1 s1 r1 => ?_⟩
    show spS tb X.prog X.w X.K n FS (vs ++ []) H1 Q E
    rw [List.append_nil]
    exact ⟨R1, m1, S1, rs, res, S', s1, r1, hl, e2, fun v H' R' m' x2 s2 r2 => k v H' R' m' (x1.trans x2) s2 r2⟩
  · cases e2
theorem e_callP (F : FnOk X.prog X.w X.K X.mg X.base CX0 k fa fd ps (spP tb X.K n FP)) (hr : Room k X.A) (hg : Gl X x) (hm : X.mg x = some (.ref fa)) (hk : PySem.W.keepIn X.K (.ref fa) = true) (hb : Binds X.K fd ps [])
    (ha : PA X (e :: es) (TAs tb X h)) (hdb : (x == ("__debug__" : Str)) = false) (he : starEach (e :: es) X.env = (false, eval e X.env) :: starEach es X.env) (hpl : (backTo pos (starEach es X.env)).any (·.1) = false) :
    PE X (.Call (.Name x p) (e :: es) [] pos) (TV tb X (eCallP n FP h)) := pe_weak (pe_call F hr hg hm hk hb .nil pass0 ha hdb he hpl) fun _ _ _ => tv_callP
theorem l_callP (F : FnOk X.prog X.w X.K X.mg X.base CX0 k fa fd ps (spP tb X.K n FP)) (hr : Room k X.A) (hg : Gl X x) (hm : X.mg x = some (.ref fa)) (hk : PySem.W.keepIn X.K (.ref fa) = true) (hb : Binds X.K fd ps [])
    (ha : PA X (e :: es) (TAs tb X h)) (hdb : (x == ("__debug__" : Str)) = false) (he : starEach (e :: es) X.env = (false, eval e X.env) :: starEach es X.env) (hpl : (backTo pos (starEach es X.env)).any (·.1) = false) :
    PE X (.Call (.Name x p) (e :: es) [] pos) (TL tb X (lCallP n FP h)) := pe_weak (pe_call F hr hg hm hk hb .nil pass0 ha hdb he hpl) fun _ _ _ => tl_callP
theorem e_callS (F : FnOk X.prog X.w X.K X.mg X.base CX0 k fa fd ps (spS tb X.prog X.w X.K n FS)) (hr : Room k X.A) (hg : Gl X x) (hm : X.mg x = some (.ref fa)) (hk : PySem.W.keepIn X.K (.ref fa) = true) (hb : Binds X.K fd ps [])
    (ha : PA X (e :: es) (TAs tb X h)) (hdb : (x == ("__debug__" : Str)) = false) (he : starEach (e :: es) X.env = (false, eval e X.env) :: starEach es X.env) (hpl : (backTo pos (starEach es X.env)).any (·.1) = false) :
    PE X (.Call (.Name x p) (e :: es) [] pos) (TV tb X (eCallS n FS h)) := pe_weak (pe_call F hr hg hm hk hb .nil pass0 ha hdb he hpl) fun _ _ _ => tv_callS

/-! ### instances -/
def isIns (r : RV) (S : Sto) : Option (Nat × Str × List (Str × RV)) := match r with
  | .o n => (match S[n]? with
    | some (.ins c fs) => some (n, c, fs)
    | _ => none)
  | _ => none
theorem ins_view {P : Program} {w : World} {K : PySem.W.Frag} {H : Hp} {R m : List Addr} {S : Sto} {r : RV} {v : V} {n : Nat} {c : Str} {fs : List (Str × RV)} (hS : Sim tb P w K H R m S) (h : RepV tb K H R m r v) (q : isIns r S = some (n, c, fs)) :
    ∃ a dx vfs, v = .ref a ∧ m[n]? = some a ∧ H a = some (.ins (He.ga K c) dx vfs) ∧ RepF tb K H R m fs vfs ∧ Cls K (He.ga K c) ∧ (∀ p ∈ fs, NoAttr K (He.ga K c) p.1) ∧ S[n]? = some (.ins c fs) := by
  unfold isIns at q
  split at q
  · split at q
    · rename_i hn
      cases q
      obtain ⟨a, h1, rfl⟩ := h
      obtain ⟨dx, vfs, h2, h3, h4, h5⟩ := hS.at_ _ a _ h1 hn
      exact ⟨a, dx, vfs, rfl, h1, h2, h3, h4, h5, hn⟩
    · cases q
  · cases q
def lkF (f : Str) : List (Str × RV) → Option RV
  | [] => none
  | (g, x) :: r => if f = g then some x else lkF f r
theorem lkF_mem {f : Str} : ∀ {fs : List (Str × RV)} {x : RV}, lkF f fs = some x → (f, x) ∈ fs
  | (g, y) :: r, x, h => by
    unfold lkF at h
    split at h
    · rename_i e
      cases h
      rw [e]
      exact List.mem_cons_self
    · exact List.mem_cons_of_mem _ (lkF_mem h)
theorem lkF_rep {K : PySem.W.Frag} {H : Hp} {R m : List Addr} {f : Str} : ∀ {fs : List (Str × RV)} {vs : List (Str × V)} {x : RV}, RepF tb K H R m fs vs → lkF f fs = some x → ∃ v, vs.lookup f = some v ∧ RepV tb K H R m x v
  | (g, y) :: r, _, x, .cons (b := q) h t, e => by
    unfold lkF at e
    obtain ⟨h1, h2⟩ := h
    split at e
    · rename_i eg
      cases e
      refine ⟨q.2, ?_, h2⟩
      have hb : (f == q.1) = true := by rw [← h1, eg]; exact beq_self_eq_true _
      obtain ⟨q1, q2⟩ := q
      simp only [List.lookup]
      rw [hb]
    · rename_i eg
      obtain ⟨v, h3, h4⟩ := lkF_rep t e
      refine ⟨v, ?_, h4⟩
      have hb : (f == q.1) = false := by rw [← h1]; exact beq_eq_false_iff_ne.mpr eg
      obtain ⟨q1, q2⟩ := q
      simp only [List.lookup]
      rw [hb]
      exact h3
theorem lkF_none {K : PySem.W.Frag} {H : Hp} {R m : List Addr} {f : Str} : ∀ {fs : List (Str × RV)} {vs : List (Str × V)}, RepF tb K H R m fs vs → lkF f fs = none → vs.lookup f = none
  | [], _, .nil, _ => rfl
  | (g, y) :: r, _, .cons (b := q) h t, e => by
    unfold lkF at e
    split at e
    · cases e
    · rename_i eg
      have hb : (f == q.1) = false := by rw [← h.1]; exact beq_eq_false_iff_ne.mpr eg
      obtain ⟨q1, q2⟩ := q
      simp only [List.lookup]
      rw [hb]
      exact lkF_none t e
def eFld (f : Str) (g : Fe RV) : Fe RV := fMap g fun x S => (isIns x S).bind fun q => lkF f q.2.2
theorem e_fld {f : Str} {g : Fe RV} (he : PE X e (TV tb X g)) (hb : attributeBase e f X.env (eval e X.env) = eval e X.env) : PE X (.Attribute e f pos) (TV tb X (eFld f g)) := pe_weak (pe_fld he hb) fun σ H Q q => by
  obtain ⟨ρ, R, m, S, res, S', hE, hS, e, k⟩ := q
  obtain ⟨x, e1, e2⟩ := fMap_some e
  obtain ⟨⟨n, c, fs⟩, e3, e4⟩ := bind_some e2
  refine ⟨ρ, R, m, S, x, S', hE, hS, e1, fun v H1 R1 m1 x1 s1 r1 => ?_⟩
  obtain ⟨a, dx, vfs, rfl, h1, h2, h3, h4, h5, h6⟩ := ins_view s1 r1 e3
  obtain ⟨u, h7, h8⟩ := lkF_rep h3 e4
  exact ⟨a, _, dx, vfs, u, rfl, h2, h4, h5 _ (lkF_mem e4), h7, k _ _ _ _ x1 s1 h8⟩
def putR (f : Str) (v : RV) : List (Str × RV) → List (Str × RV)
  | [] => [(f, v)]
  | (g, x) :: r => if g = f then (g, v) :: r else (g, x) :: putR f v r
theorem putR_rep {K : PySem.W.Frag} {H : Hp} {R m : List Addr} {f : Str} {x : RV} {v : V} (hx : RepV tb K H R m x v) : ∀ {fs : List (Str × RV)} {vs : List (Str × V)}, RepF tb K H R m fs vs → RepF tb K H R m (putR f x fs) (putF f v vs)
  | [], _, .nil => .cons ⟨rfl, hx⟩ .nil
  | (g, y) :: r, _, .cons (b := q) h t => by
    obtain ⟨q1, q2⟩ := q
    obtain ⟨h1, h2⟩ := h
    simp only at h1
    subst h1
    unfold putR putF
    by_cases eg : g = f
    · rw [if_pos eg, if_pos eg]; exact .cons ⟨rfl, hx⟩ t
    · rw [if_neg eg, if_neg eg]; exact .cons ⟨rfl, h2⟩ (putR_rep hx t)
theorem putR_mem {f : Str} {v : RV} : ∀ {fs : List (Str × RV)} {p : Str × RV}, p ∈ putR f v fs → p.1 = f ∨ ∃ y, (p.1, y) ∈ fs
  | [], p, h => by
    have := List.mem_singleton.mp h
    subst this
    exact .inl rfl
  | (g, y) :: r, p, h => by
    unfold putR at h
    split at h
    · rename_i eg
      rcases List.mem_cons.mp h with z | z
      · subst z; exact .inl eg
      · exact .inr ⟨p.2, List.mem_cons_of_mem _ z⟩
    · rcases List.mem_cons.mp h with z | z
      · subst z; exact .inr ⟨y, List.mem_cons_self⟩
      · rcases putR_mem z with z | ⟨y', z⟩
        · exact .inl z
        · exact .inr ⟨y', List.mem_cons_of_mem _ z⟩
/-- o.f = e; cs: the classes that know no attribute f -/
def sFld (cs : List Str) (f : Str) (fo fe : Fe RV) : Fs := fun ρ S => (fe ρ S).bind fun v => (fo ρ v.2).bind fun o => (isIns o.1 o.2).bind fun q => if q.2.1 ∈ cs ∧ q.2.2.length < 1000 then some (.nx, ρ, o.2.set q.1 (.ins q.2.1 (putR f v.1 q.2.2))) else none
theorem s_fld {cs : List Str} {fl : Str} {fo fe : Fe RV} {value : Expr} {pos' : Pos} (hcs : ∀ c ∈ cs, NoAttr X.K (He.ga X.K c) fl) (ho : PE X o (TV tb X fo)) (hv : PE X value (TV tb X fe)) (hs : swapsWith value (some (.Attribute o fl pos')) pos.line X.env = pure false) :
    PS X (.Assign [.Attribute o fl pos'] value pos) (TSf tb X (sFld cs fl fo fe)) := ps_weak (ps_fld ho hv hs) fun D σ H ⟨ρ, R, m, S, fl2, ρ', S', hE, hS, e, k⟩ => by
  obtain ⟨⟨v, S1⟩, e1, ea⟩ := bind_some e
  obtain ⟨⟨ov, S2⟩, e2, eb⟩ := bind_some ea
  obtain ⟨⟨n, c, fs⟩, e3, ec⟩ := bind_some eb
  clear e ea eb
  split at ec
  · rename_i hc
    cases ec
    refine ⟨ρ, R, m, S, v, S1, hE, hS, e1, fun vv H1 R1 m1 x1 s1 r1 => ?_⟩
    have E1 := hE.ext x1 hS.sub
    refine ⟨ρ, R1, m1, S1, ov, S2, E1, s1, e2, fun oo H2 R2 m2 x2 s2 r2 => ?_⟩
    obtain ⟨a, dx, vfs, rfl, h1, h2, h3, h4, h5, h6⟩ := ins_view s2 r2 e3
    have hlen : vfs.length = fs.length := (Paired.length h3).symm
    have hm := List.mem_of_getElem? h1
    have x3 := Ext.chg (H := H2) (R := R2) (o := .ins (He.ga X.K c) dx (putF fl vv vfs)) hm (by rw [h2]; intro z; cases z)
    refine ⟨a, _, dx, vfs, rfl, h2, h4, hcs c hc.1, by rw [hlen]; exact hc.2, k _ _ R2 m2 ((x1.trans x2).trans x3) (s2.chg h1 ?_) ((E1.ext x2 s1.sub).ext x3 s2.sub)⟩
    refine ⟨dx, _, upd_same, RepF.ext x3 s2.sub (putR_rep (r1.ext x2 s1.sub) h3), h4, fun p hp => ?_⟩
    rcases putR_mem hp with z | ⟨y, z⟩
    · rw [z]; exact hcs c hc.1
    · exact h5 (p.1, y) z
  · cases ec
/-- C(..): a new instance, its __init__ -/
def eMake (c : Str) (n : Nat) (Fn : List RV → Sto → Option (RV × Sto)) (h : Fe (List RV)) : Fe RV := fun ρ S => (h ρ S).bind fun p => if p.1.length + 1 = n then (Fn (.o p.2.length :: p.1) (p.2 ++ [.ins c []])).bind fun z => match z.1 with
  | .d .non => some (.o p.2.length, z.2)
  | _ => none else none
theorem own_own {P : Program} {w : World} {K : PySem.W.Frag} {H : Hp} {R m : List Addr} {S : Sto} {C a dx : Addr} {c : Str} (s : Sim tb P w K H R m S) (hC : He.ga K c = C) (hc : Cls K C) (ha : H a = none) (hd : H dx = none) (ne : dx ≠ a) :
    Ext H R m (upd (upd H dx (.own a)) a (.ins C dx [])) (a :: R) (m ++ [a]) ∧ Sim tb P w K (upd (upd H dx (.own a)) a (.ins C dx [])) (a :: R) (m ++ [a]) (S ++ [.ins c []]) := by
  have x1 : Ext H R m (upd H dx (.own a)) R m := .new hd
  have s1 : Sim tb P w K (upd H dx (.own a)) R m S := s.new hd
  have ha' : upd H dx (.own a) a = none := by rw [upd_ne (Ne.symm ne)]; exact ha
  refine ⟨x1.trans (.own ha'), s1.own ha' ⟨dx, [], ?_, .nil, ?_, fun p hp => by cases hp⟩⟩
  · rw [upd_same, hC]
  · rw [hC]; exact hc
theorem tv_make {c : Str} (hC : He.ga X.K c = C) (hc : Cls X.K C) {σ : L2.St} {H : Hp} {Q : VK} (q : TV tb X (eMake c n FS h) σ H Q) : tMake C (spS tb X.prog X.w X.K n FS) [] E (TAs tb X h) σ H Q := by
  obtain ⟨ρ, R, m, S, res, S', hE, hS, e, k⟩ := q
  obtain ⟨⟨rs, S1⟩, e1, e2⟩ := bind_some e
  split at e2
  · rename_i hl
    obtain ⟨⟨z, S2⟩, e3, e4⟩ := bind_some e2
    refine ⟨ρ, R, m, S, rs, S1, hE, hS, e1, fun vs H1 R1 m1 x1 s1 r1 a dx ha hd ne => ?_⟩
    obtain ⟨x2, s2⟩ := own_own s1 hC hc ha hd ne
    have hidx : (m1 ++ [a])[S1.length]? = some a := by
      rw [← s1.len, List.getElem?_append_right (Nat.le_refl _), Nat.sub_self]
      rfl
    refine ⟨_, _, _, .o S1.length :: rs, z, S2, s2, ?_, hl, e3, fun v H' R' m' x3 s3 r3 => ?_⟩
    · rw [List.append_nil]
      exact .cons ⟨a, hidx, rfl⟩ (r1.ext x2 s1.sub)
    · simp only at e4
      split at e4
      · cases e4
        cases r3
        exact ⟨rfl, k _ _ _ _ ((x1.trans x2).trans x3) s3 ⟨a, x3.idx hidx, rfl⟩⟩
      · cases e4
  · cases e2
theorem e_make {c : Str} (hC : He.ga X.K c = C) (hc : Cls X.K C) (M : Mk X.K C fa) (F : FnOk X.prog X.w X.K X.mg X.base CX0 k fa fd ps (spS tb X.prog X.w X.K n FS)) (hr : Room (k + 1) X.A) (hg : Gl X x) (hm : X.mg x = some (.ref C)) (hb : Binds X.K fd ps [])
    (ha : PA X (e :: es) (TAs tb X h)) (hdb : (x == ("__debug__" : Str)) = false) (he : starEach (e :: es) X.env = (false, eval e X.env) :: starEach es X.env) (hpl : (backTo pos (starEach es X.env)).any (·.1) = false) :
    PE X (.Call (.Name x p) (e :: es) [] pos) (TV tb X (eMake c n FS h)) := pe_weak (pe_make M F hr hg hm hb .nil pass0 ha hdb he hpl) fun _ _ _ => tv_make hC hc
/-- o.m(..) -/
def eMeth (c m : Str) (n : Nat) (Fn : List RV → Sto → Option (RV × Sto)) (fo : Fe RV) (h : Fe (List RV)) : Fe RV := fun ρ S => (fo ρ S).bind fun o => (isIns o.1 o.2).bind fun q => if q.2.1 = c ∧ (lkF m q.2.2).isNone = true then (h ρ o.2).bind fun p => if p.1.length + 1 = n then Fn (o.1 :: p.1) p.2 else none else none
theorem tv_meth {c : Str} (hC : He.ga X.K c = C) {σ : L2.St} {H : Hp} {Q : VK} (q : TV tb X (eMeth c m n FS fo h) σ H Q) : tMeth C m (spS tb X.prog X.w X.K n FS) [] E (TV tb X fo) (TAs tb X h) σ H Q := by
  obtain ⟨ρ, R, mm, S, res, S', hE, hS, e, k⟩ := q
  obtain ⟨⟨ov, S1⟩, e1, e2⟩ := bind_some e
  obtain ⟨⟨j, c', fs⟩, e3, e4⟩ := bind_some e2
  split at e4
  · rename_i hc
    obtain ⟨⟨rs, S2⟩, e5, e6⟩ := bind_some e4
    split at e6
    · rename_i hl
      obtain ⟨rfl, hno⟩ := hc
      refine ⟨ρ, R, mm, S, ov, S1, hE, hS, e1, fun v H1 R1 m1 x1 s1 r1 => ?_⟩
      obtain ⟨a, dx, vfs, rfl, h1, h2, h3, h4, h5, h6⟩ := ins_view s1 r1 e3
      rw [hC] at h2
      refine ⟨a, dx, vfs, rfl, h2, lkF_none h3 (Option.isNone_iff_eq_none.mp hno), ρ, R1, m1, S1, rs, S2, hE.ext x1 hS.sub, s1, e5, fun vs H2 R2 m2 x2 s2 r2 => ?_⟩
      show spS tb X.prog X.w X.K n FS (V.ref a :: (vs ++ [])) H2 Q E
      rw [List.append_nil]
      exact ⟨R2, m2, S2, ov :: rs, res, S', s2, .cons (r1.ext x2 s1.sub) r2, hl, e6, fun v' H' R' m' x3 s3 r3 => k v' H' R' m' ((x1.trans x2).trans x3) s3 r3⟩
    · cases e6
  · cases e4
theorem e_meth {c : Str} {pl : Sem Bool} (hC : He.ga X.K c = C) (ho : PE X o (TV tb X fo)) (hc : Cls X.K C) (hm : Meth X.K C m fa) (F : FnOk X.prog X.w X.K X.mg X.base CX0 k fa fd ps (spS tb X.prog X.w X.K n FS)) (hr : Room k X.A) (hb : Binds X.K fd ps []) (ha : PA X (e :: es) (TAs tb X h))
    (hst : starEach (e :: es) X.env = (false, eval e X.env) :: starEach es X.env) (hpl : (backTo pos (starEach es X.env)).any (·.1) = false)
    (ht : eval (.Call (.Attribute o m apos) (e :: es) [] pos) X.env = (do
      let ov ← eval o X.env
      standAt apos.atName
      let (f, first) ← holding [ov] (getMethod ov m pl)
      callWith pos f first (backTo pos (starEach (e :: es) X.env)) (backToKw pos (keywordEach [] X.env)))) :
    PE X (.Call (.Attribute o m apos) (e :: es) [] pos) (TV tb X (eMeth c m n FS fo h)) := pe_weak (pe_meth ho hc hm F hr hb .nil pass0 ha hst hpl ht) fun _ _ _ => tv_meth hC
end

/-! ### a def's body -/
def env0 (N : Nat) (rs : List RV) : Env' := rs.map some ++ List.replicate (N - rs.length) none
def runP (N : Nat) (F : Fs) (ds : List D) : Option PR := (F (env0 N (ds.map RV.d)) []).bind fun z => match z.1 with
  | .nx => some (.v .non)
  | .rt (.d x) => some (.v x)
  | .rt (.o n) => (match z.2.2[n]? with
    | some (.lst xs) => if xs.length ≤ Lim then some (.l xs) else none
    | _ => none)
  | _ => none
def runF (N : Nat) (F : Fs) (rs : List RV) : Option PR := (F (env0 N rs) []).bind fun z => match z.1 with
  | .nx => some (.v .non)
  | .rt (.d x) => some (.v x)
  | .rt (.o n) => (match z.2.2[n]? with
    | some (.lst xs) => if xs.length ≤ Lim then some (.l xs) else none
    | _ => none)
  | _ => none
def runS (N : Nat) (F : Fs) (rs : List RV) (S : Sto) : Option (RV × Sto) := (F (env0 N rs) S).bind fun z => match z.1 with
  | .nx => some (.d .non, z.2.2)
  | .rt r => some (r, z.2.2)
  | _ => none
theorem env0_rep {K : PySem.W.Frag} {H : Hp} {R m : List Addr} {rs : List RV} {vs : List V} {N : List Str} (r : RepVs tb K H R m rs vs) : RepE tb K H R m (env0 N.length rs) (L2.start N vs) := by
  unfold env0 L2.start
  have hl := r.length
  refine ⟨by rw [List.length_append, List.length_append, List.length_map, List.length_map, List.length_replicate, List.length_replicate, hl], fun i x h => ?_⟩
  have hget : ∀ {rs : List RV} {vs : List V} {i : Nat} {x : RV}, RepVs tb K H R m rs vs → rs[i]? = some x → ∃ v, vs[i]? = some v ∧ RepV tb K H R m x v := by
    intro rs vs i x r
    induction r generalizing i with
    | nil => intro e; simp at e
    | cons h t ih =>
      intro e
      cases i with
      | zero => simp at e; subst e; exact ⟨_, rfl, h⟩
      | succ i =>
        obtain ⟨v, h1, h2⟩ := ih (i := i) (by simpa using e)
        exact ⟨v, by simpa using h1, h2⟩
  by_cases hi : i < rs.length
  · rw [List.getElem?_append_left (by simpa using hi), List.getElem?_map] at h
    obtain ⟨y, h1, h2⟩ := Option.map_eq_some_iff.mp h
    cases h2
    obtain ⟨v, h3, h4⟩ := hget r h1
    refine ⟨v, ?_, h4⟩
    rw [List.getElem?_append_left (by rw [List.length_map, ← hl]; exact hi), List.getElem?_map, h3]
    rfl
  · rw [List.getElem?_append_right (by simpa using hi), List.getElem?_replicate] at h
    split at h <;> cases h
theorem repVs_of {K : PySem.W.Frag} {H : Hp} {R m : List Addr} : ∀ {ds : List D} {vs : List V}, Reps K H R ds vs → RepVs tb K H R m (ds.map RV.d) vs
  | _, _, .nil => .nil
  | _, _, .cons h r => .cons h (repVs_of r)
theorem sim0 {P : Program} {w : World} {K : PySem.W.Frag} {H : Hp} {R : List Addr} (l : ∀ a ∈ R, H a ≠ none) (t : TabsR tb H R) : Sim tb P w K H R [] [] where
  tabs := t
  nd := List.nodup_nil
  sub := fun a h => by cases h
  live := l
  len := rfl
  at_ := fun n a o h => by simp at h
theorem body_F {X : Cx} {N : List Str} {n : Nat} {F : Fs} {vs : List V} {H : Hp} {Q : VK} {E : XK} (h : spF tb X.K n (runF N.length F) vs H Q E) : TSf tb X F { nx := fun _ H' => Q .non H', rt := Q } (L2.start N vs) H := by
  obtain ⟨R, ds, r, hl, ht, hr, hn, e, k⟩ := h
  obtain ⟨⟨fl, ρ', S'⟩, e1, e2⟩ := bind_some e
  refine ⟨_, R, [], [], fl, ρ', S', env0_rep hr, sim0 hl ht, e1, fun σ' H' R' m' x s E' => ?_⟩
  have kp : Keep H H' := ⟨fun a o q t => x.keep a o (by simp) q t, x.live⟩
  have kt : TabsR tb H' R := s.tabs.mono (fun _ _ _ e => e) fun a h => .inl (x.sub a h)
  have back : ∀ {d : D} {v : V}, Rep X.K H' R' d v → Rep X.K H' R d v := fun q => Rep.mono (fun _ _ _ z _ => z) (fun a z => .inl (x.sub a z)) q
  cases fl with
  | nx => cases e2; exact k .non H' kp kt .non
  | bk => cases e2
  | ct => cases e2
  | rt r' =>
    intro v rv
    cases r' with
    | d x' => cases e2; exact k v H' kp kt (back rv)
    | t t' => cases e2
    | fn φ => cases e2
    | o j =>
      simp only at e2
      split at e2
      · rename_i xs hxs
        split at e2
        · rename_i hlim
          cases e2
          obtain ⟨a, h1, rfl⟩ := rv
          obtain ⟨us, h2, h3⟩ := s.at_ _ a _ h1 hxs
          have hR' : a ∈ R' := s.sub a (List.mem_of_getElem? h1)
          have hna : H a = none := (x.freshM a (List.mem_of_getElem? h1)).elim (fun z => by cases z) id
          have hbn : ∀ {b : Addr} {o : HO}, H b = some o → b ≠ a := fun z y => by rw [y, hna] at z; cases z
          have q := k (er H' a) a us ⟨fun b o z t => by rw [er_ne (hbn z)]; exact kp.keep b o z t, fun b hb => by
              rw [er_ne fun y => hb (by rw [y]; exact hna)]
              exact kp.live b hb⟩
            (s.tabs.mono (fun b o hb e => by rw [er_ne fun y => hb (by rw [y]; exact hR')]; exact e) fun b z => .inl (x.sub b z))
            er_same (Reps.mono (fun b o n z _ => by rw [er_ne fun y => n (by rw [y]; exact hR')]; exact z) (fun b z => .inl (x.sub b z)) h3) hlim
          rw [er_upd h2] at q
          exact q
        · cases e2
      · cases e2
theorem body_P {X : Cx} {N : List Str} {n : Nat} {F : Fs} {vs : List V} {H : Hp} {Q : VK} {E : XK} (h : spP tb X.K n (runP N.length F) vs H Q E) : TSf tb X F { nx := fun _ H' => Q .non H', rt := Q } (L2.start N vs) H := by
  obtain ⟨R, ds, r, hl, ht, hr, hn, e, k⟩ := h
  exact body_F (n := n) (E := E) ⟨R, ds.map RV.d, r, hl, ht, repVs_of hr, by rw [List.length_map]; exact hn, e, k⟩
theorem body_S {X : Cx} {N : List Str} {n : Nat} {F : Fs} {vs : List V} {H : Hp} {Q : VK} {E : XK} (h : spS tb X.prog X.w X.K n (runS N.length F) vs H Q E) : TSf tb X F { nx := fun _ H' => Q .non H', rt := Q } (L2.start N vs) H := by
  obtain ⟨R, m, S, rs, r, S', hS, hr, hn, e, k⟩ := h
  obtain ⟨⟨fl, ρ', S1⟩, e1, e2⟩ := bind_some e
  refine ⟨_, R, m, S, fl, ρ', S1, env0_rep hr, hS, e1, fun σ' H' R' m' x s E' => ?_⟩
  cases fl with
  | nx => cases e2; exact k .non H' R' m' x s .non
  | bk => cases e2
  | ct => cases e2
  | rt r' => cases e2; exact fun v rv => k v H' R' m' x s rv
end Ev

/-! The evaluator, part K: dicts, their keys ints and texts, or trees. -/
namespace Ev
open PySem PySem.Spec PyProof.Rows L2

/-! ### plain tables -/
def dGet (kvs : List (D × D)) (k : D) : Option D := (kvs.find? fun p => decide (p.1 = k)).map (·.2)
def dPut (kvs : List (D × D)) (k v : D) : List (D × D) := if (dGet kvs k).isSome = true then kvs.map (fun p => if p.1 = k then (p.1, v) else p) else kvs ++ [(k, v)]
theorem dGet_cons (p : D × D) (r : List (D × D)) (k : D) : dGet (p :: r) k = if p.1 = k then some p.2 else dGet r k := by
  unfold dGet
  rw [List.find?_cons]
  by_cases e : p.1 = k
  · simp [e]
  · simp [e]
theorem atKey_cons {κ : Type} [DecidableEq κ] (p : κ × Addr × Value) (r : List (κ × Addr × Value)) (k : κ) : atKey (p :: r) k = if p.1 = k then some p.2 else atKey r k := by
  unfold atKey
  rw [List.find?_cons]
  by_cases e : p.1 = k
  · simp [e]
  · simp [e]

section
variable {X : Cx} {pins : List (Addr × Obj)} {σ : L2.St} {H : Hp} {s : Shared} {R m : List Addr}
/-! ### keys -/
mutual
theorem isK_of (I : Inv X pins σ H s) : ∀ {n : Nat} {d : D} {v : V} {u : Value}, Rep X.K H R d v → D.isKey n d = true → RelV v u → IsK s.heap n d u
  | _, .int i, _, _, .int _, _, r => by
    obtain ⟨t, rfl⟩ := r
    exact .int i t
  | _, .str x, _, _, .str _, k, r => by
    obtain ⟨t, rfl⟩ := r
    exact .str x t (by unfold D.isKey at k; exact k)
  | 0, .tup ds, _, _, _, k, _ => by simp [D.isKey] at k
  | n + 1, .tup ds, _, _, h, k, r => by
    obtain ⟨a, vs, rfl, h1, h2⟩ := Rep.isT h
    cases r
    obtain ⟨its, rv, ⟨o, ho, hc, c, hd⟩, _⟩ := I.tuple h1
    refine .tup ho hc hd ?_
    rw [List.toList_toArray]
    exact isKs_of I h2 (by unfold D.isKey at k; exact k) rv
  | _, .non, _, _, _, k, _ => by simp [D.isKey] at k
  | _, .bl _, _, _, _, k, _ => by simp [D.isKey] at k
  | _, .lst _, _, _, _, k, _ => by simp [D.isKey] at k
theorem isKs_of (I : Inv X pins σ H s) : ∀ {n : Nat} {ds : List D} {vs : List V} {us : List Value}, Reps X.K H R ds vs → ds.all (D.isKey n) = true → Vals vs us → IsKs s.heap n ds us
  | _, [], _, _, .nil, _, r => by cases r; exact .nil
  | n, d :: ds, _, _, .cons h t, k, r => by
    rw [List.all_cons, Bool.and_eq_true] at k
    cases r with
    | cons r1 r2 => exact .cons (isK_of I h k.1 r1) (isKs_of I t k.2 r2)
end
def KeysOk (K : PySem.W.Frag) (H : Hp) (R : List Addr) (xs : List (D × Addr × Value)) : Prop := ∀ q ∈ xs, Rep K H R q.1 (.ref q.2.1) ∧ D.isKey 8 q.1 = true
theorem dx_obj {a : Addr} {xs : List (D × Addr × Value)} (I : Inv X pins σ H s) (e : H a = some (.ext (DX X.prog X.w a xs))) : DX X.prog X.w a xs s.heap :=
  (show ObjOk X.prog X.w H s.heap a (.ext (DX X.prog X.w a xs)) from I.hok a _ e).1
theorem dx_of {a : Addr} {xs : List (D × Addr × Value)} (I : Inv X pins σ H s) (e : H a = some (.ext (DX X.prog X.w a xs))) (k : KeysOk X.K H R xs) : s.heap.DictOfH (treeKind X.prog X.w) a xs ∧ xs.length ≤ sizeLine ∧ (a == sysModules) = false := by
  obtain ⟨o, es, ep, h1, h2, h3, h4, h5, h6, h7⟩ := dx_obj I e
  exact ⟨⟨o, es, ep, h1, h2, h3, h4, fun x hx => isK_of I (k x hx).1 (k x hx).2 rfl, h5⟩, h6, h7⟩
theorem dx_ok {P : Program} {w : World} {H' : Hp} {h' : Heap} {a : Addr} {xs : List (D × Addr × Value)} (d : h'.DictOfH (treeKind P w) a xs) (hl : xs.length ≤ sizeLine) (hs : (a == sysModules) = false) : ObjOk P w H' h' a (.ext (DX P w a xs)) := by
  obtain ⟨o, es, ep, h1, h2, h3, h4, _, h5⟩ := d
  refine ⟨⟨o, es, ep, h1, h2, h3, h4, h5, hl, hs⟩, ⟨o, h1⟩, fun g1 g2 q k => ?_⟩
  obtain ⟨o, es, ep, h1, q⟩ := q
  exact ⟨o, es, ep, k _ h1, q⟩
end

/-! ### the rules by values -/
def rInX (P : Program) (w : World) (K : PySem.W.Frag) (ng : Bool) : R2 := fun x y H Q => ∃ (a b : Addr) (d : D) (xs : List (D × Addr × Value)) (R : List Addr), x = .ref b ∧ y = .ref a ∧ H a = some (.ext (DX P w a xs)) ∧ KeysOk K H R xs ∧ Rep K H R d x ∧ D.isKey 8 d = true ∧
  Q (.bl (if ng = true then !(atKey xs d).isSome else (atKey xs d).isSome)) H
def rIxX (P : Program) (w : World) (K : PySem.W.Frag) : R2 := fun x y H Q => ∃ (a b : Addr) (d : D) (xs : List (D × Addr × Value)) (R : List Addr) (p : Addr × Value) (v : V), y = .ref b ∧ x = .ref a ∧ H a = some (.ext (DX P w a xs)) ∧ KeysOk K H R xs ∧ Rep K H R d y ∧ D.isKey 8 d = true ∧
  atKey xs d = some p ∧ RelV v p.2 ∧ Q v H
def tSetX (P : Program) (w : World) (K : PySem.W.Frag) : TSet := fun x y v H Q => ∃ (a b : Addr) (d : D) (xs : List (D × Addr × Value)) (R : List Addr), y = .ref b ∧ x = .ref a ∧ H a = some (.ext (DX P w a xs)) ∧ KeysOk K H R xs ∧ a ∈ R ∧ Rep K H R d y ∧ D.isKey 8 d = true ∧ xs.length < sizeLine ∧
  ∀ u, RelV v u → Q (upd H a (.ext (DX P w a (storedH xs d b u))))
def tNewX (P : Program) (w : World) : TE := fun _ H Q => ∀ p, H p = none → Q (.ref p) (upd H p (.ext (DX P w p [])))
section
variable {X : Cx}
theorem room_X {P : Program} {w : World} {A : Around} (hu : A.units + 65 < cLine) : (treeKind P w).room A.in1 := by
  show A.units + 1 + 32 < cLine
  omega
theorem op_inX (hu : X.A.units + 65 < cLine) : OpR X (compareOp .In) (rInX X.prog X.w X.K false) := by
  intro pins s σ H x y v u Q I rx ry h
  obtain ⟨a, b, d, xs, R, rfl, rfl, e, ks, rd, kd, q⟩ := h
  cases rx; cases ry
  obtain ⟨dd, _, hs⟩ := dx_of I e ks
  exact wpAny_in_heap (room_X hu) (isK_of I rd kd rfl) hs dd ⟨.bl _, H, I.tok _, rfl, q⟩
theorem op_notInX (hu : X.A.units + 65 < cLine) : OpR X (compareOp .NotIn) (rInX X.prog X.w X.K true) := by
  intro pins s σ H x y v u Q I rx ry h
  obtain ⟨a, b, d, xs, R, rfl, rfl, e, ks, rd, kd, q⟩ := h
  cases rx; cases ry
  obtain ⟨dd, _, hs⟩ := dx_of I e ks
  exact wpAny_notIn_heap (room_X hu) (isK_of I rd kd rfl) hs dd ⟨.bl _, H, I.tok _, rfl, q⟩
theorem ix_X (hu : X.A.units + 65 < cLine) : IxR X (rIxX X.prog X.w X.K) := by
  intro value slice pins s σ H x y v u Q I rx ry h hs
  obtain ⟨a, b, d, xs, R, p, z, rfl, rfl, e, ks, rd, kd, hp, rz, q⟩ := h
  cases rx; cases ry
  obtain ⟨dd, _, _⟩ := dx_of I e ks
  exact tail_any dd.typeIs PySem.F.slot_dict_getitem.lookup (wpAny_getItem_heap (room_X hu) (isK_of I rd kd rfl) dd hp ⟨z, H, I.tok _, rz, q⟩) hs
theorem set_X (hu : X.A.units + 65 < cLine) : PSet X (tSetX X.prog X.w X.K) := by
  intro pins s σ H o i v ov iv u Q I ro ri rv h
  obtain ⟨a, b, d, xs, R, rfl, rfl, e, ks, ha, rd, kd, hl, q⟩ := h
  cases ro; cases ri
  obtain ⟨dd, hz, hs⟩ := dx_of I e ks
  refine wpAny_setItem_heap (hsz := hz) (room_X hu) (isK_of I rd kd rfl) dd fun h' dd' hsb => ?_
  have he : ∃ q, h'.get? a = some q := let ⟨q, _, _, hq, _⟩ := dd'; ⟨q, hq⟩
  have hlen : (storedH xs d b u).length ≤ sizeLine := by
    unfold storedH
    split
    · rw [List.length_map]; exact hz
    · rw [List.length_append, List.length_singleton]; omega
  exact ⟨_, d_write I (by rw [e]; exact True.intro) hsb he (dx_ok dd' hlen hs), q u rv⟩
theorem pe_newX {pos : Pos} : PE X (.Dict [] [] pos) (tNewX X.prog X.w) := ⟨fun pins s σ H Q I h =>
  wpAny_Dict_empty ⟨.ref s.heap.objs.size, _, I.laid (a := s.heap.objs.size) (t' := s.toks) (fun _ _ q => Heap.get?_push_of_some _ q) (Nat.le_refl _) (dx_ok (Heap.DictOfH.new s.heap) (Nat.zero_le _) (beq_eq_false_iff_ne.mpr (Nat.ne_of_gt I.big))), rfl, h _ (I.hok.fresh (Nat.le_refl _))⟩⟩
end

/-! ### their evaluator -/
abbrev PX (K : PySem.W.Frag) (H : Hp) (R : List Addr) : List (D × D) → List (D × Addr × Value) → Prop := Paired (fun (p : D × D) (q : D × Addr × Value) => p.1 = q.1 ∧ Rep K H R p.1 (.ref q.2.1) ∧ D.isKey 8 p.1 = true ∧ ∃ v, RelV v q.2.2 ∧ Rep K H R p.2 v)
section
variable {P : Program} {w : World} {K : PySem.W.Frag} {H : Hp} {R m : List Addr} {S : Sto} {r : RV} {v : V} {n : Nat} {kvs : List (D × D)} {xs : List (D × Addr × Value)}
theorem PX.keys : ∀ {kvs : List (D × D)} {xs : List (D × Addr × Value)}, PX K H R kvs xs → KeysOk K H R xs
  | _, _, .nil, q, hq => nomatch hq
  | _, _, .cons h t, q, hq => by
    rcases List.mem_cons.mp hq with e | hq
    · subst e
      obtain ⟨h1, h2, h3, _⟩ := h
      rw [← h1]
      exact ⟨h2, h3⟩
    · exact PX.keys t q hq
theorem PX.at (k : D) : ∀ {kvs : List (D × D)} {xs : List (D × Addr × Value)}, PX K H R kvs xs → (∀ d, dGet kvs k = some d → ∃ p v, atKey xs k = some p ∧ RelV v p.2 ∧ Rep K H R d v) ∧ (dGet kvs k).isSome = (atKey xs k).isSome
  | _, _, .nil => ⟨fun d h => by simp [dGet] at h, rfl⟩
  | _, _, .cons (a := p) (b := q) h t => by
    obtain ⟨h1, h2, h3, v, h4, h5⟩ := h
    rw [dGet_cons, atKey_cons, h1]
    by_cases e : q.1 = k
    · rw [if_pos e, if_pos e]
      exact ⟨fun d hd => by cases hd; exact ⟨_, v, rfl, h4, h5⟩, rfl⟩
    · rw [if_neg e, if_neg e]
      exact PX.at k t
theorem PX.put (k : D) {d : D} {b : Addr} {v : V} {u : Value} (hk : Rep K H R k (.ref b)) (hi : D.isKey 8 k = true) (hv : RelV v u) (hd : Rep K H R d v) (h : PX K H R kvs xs) : PX K H R (dPut kvs k d) (storedH xs k b u) := by
  have q := (PX.at k h).2
  unfold dPut storedH
  rw [q]
  by_cases e : (atKey xs k).isSome = true
  · rw [if_pos e, if_pos e]
    clear q e
    unfold PX at h ⊢
    induction h with
    | nil => exact .nil
    | @cons p q ps qs h t ih =>
      rw [List.map_cons, List.map_cons]
      refine .cons ?_ ih
      obtain ⟨h1, h2, h3, v', h4, h5⟩ := h
      unfold putAt
      by_cases e : p.1 = k
      · rw [if_pos e, if_pos (h1.symm.trans e)]
        exact ⟨h1, h2, h3, v, hv, hd⟩
      · rw [if_neg e, if_neg (fun z => e (h1.trans z))]
        exact ⟨h1, h2, h3, v', h4, h5⟩
  · rw [if_neg e, if_neg e]
    exact Paired.snoc h ⟨rfl, hk, hi, v, hv, hd⟩
def isDX (r : RV) (S : Sto) : Option (Nat × List (D × D)) := match r with
  | .o n => (match S[n]? with
    | some (.dcx kvs) => some (n, kvs)
    | _ => none)
  | _ => none
theorem dx_view (hS : Sim tb P w K H R m S) (h : RepV tb K H R m r v) (e : isDX r S = some (n, kvs)) : ∃ a xs, v = .ref a ∧ m[n]? = some a ∧ H a = some (.ext (DX P w a xs)) ∧ PX K H R kvs xs ∧ S[n]? = some (.dcx kvs) := by
  unfold isDX at e
  split at e
  · split at e
    · rename_i hn
      cases e
      obtain ⟨a, h1, rfl⟩ := h
      obtain ⟨xs, h2, h3⟩ := hS.at_ _ a _ h1 hn
      exact ⟨a, xs, rfl, h1, h2, h3, hn⟩
    · cases e
  · cases e
end
def tKey (r : RV) : Option D := match r with
  | .d (.tup ds) => if D.isKey 8 (.tup ds) = true then some (.tup ds) else none
  | _ => none
theorem tKey_view {K : PySem.W.Frag} {H : Hp} {R m : List Addr} {r : RV} {v : V} {d : D} (h : RepV tb K H R m r v) (e : tKey r = some d) : ∃ b, v = .ref b ∧ Rep K H R d v ∧ D.isKey 8 d = true := by
  unfold tKey at e
  split at e
  · split at e
    · rename_i hk
      cases e
      obtain ⟨b, _, rfl, _⟩ := Rep.isT h
      exact ⟨b, rfl, h, hk⟩
    · cases e
  · cases e
def vInX (ng : Bool) : Op2 := fun x y S => (isDX y S).bind fun q => (tKey x).bind fun d => some (.d (.bl (if ng = true then !(dGet q.2 d).isSome else (dGet q.2 d).isSome)))
def vIxX : Op2 := fun x y S => (isDX x S).bind fun q => (tKey y).bind fun d => (dGet q.2 d).map RV.d
section
variable {X : Cx}
theorem ov_inX (ng : Bool) : OpV tb X (rInX X.prog X.w X.K ng) (vInX ng) := by
  intro H R m S x y v u res hS hx hy e Q k
  obtain ⟨⟨n, kvs⟩, e1, e⟩ := bind_some e
  obtain ⟨d, e2, e⟩ := bind_some e
  cases e
  obtain ⟨a, xs, rfl, h1, h2, h3, h4⟩ := dx_view hS hy e1
  obtain ⟨b, rfl, h5, h6⟩ := tKey_view hx e2
  refine ⟨a, b, d, xs, R, rfl, rfl, h2, h3.keys, h5, h6, ?_⟩
  rw [← (PX.at d h3).2]
  exact k _ _ .refl hS (.bl _)
theorem ov_ixX : OpV tb X (rIxX X.prog X.w X.K) vIxX := by
  intro H R m S x y v u res hS hx hy e Q k
  obtain ⟨⟨n, kvs⟩, e1, e⟩ := bind_some e
  obtain ⟨d, e2, e⟩ := bind_some e
  obtain ⟨z, e3, rfl⟩ := Option.map_eq_some_iff.mp e
  obtain ⟨a, xs, rfl, h1, h2, h3, h4⟩ := dx_view hS hx e1
  obtain ⟨b, rfl, h5, h6⟩ := tKey_view hy e2
  obtain ⟨p, zv, h7, h8, h9⟩ := (PX.at d h3).1 z e3
  exact ⟨a, b, d, xs, R, p, zv, rfl, rfl, h2, h3.keys, h5, h6, h7, h8, k _ _ .refl hS h9⟩
theorem e_ix {r : R2} {op : Op2} {a b : Expr} {f g : Fe RV} {pos : Pos} (hr : IxR X r) (hv : OpV tb X r op) (ha : PE X a (TV tb X f)) (hb : PE X b (TV tb X g)) (hs : PlainIx b) : PE X (.Subscript a b pos) (TV tb X (eBin op f g)) :=
  pe_weak (pe_ix hr ha hb hs) fun σ H Q h => tv_bin hv h
def eNewX : Fe RV := fun _ S => some (.o S.length, S ++ [.dcx []])
theorem e_newX {pos : Pos} : PE X (.Dict [] [] pos) (TV tb X eNewX) := pe_weak pe_newX fun σ H Q ⟨ρ, R, m, S, r, S', hE, hS, e, k⟩ => by
  cases e
  intro p hp
  refine k _ _ _ _ (.own hp) (hS.own hp ⟨[], upd_same, .nil⟩) ⟨p, ?_, rfl⟩
  rw [← hS.len, List.getElem?_append_right (Nat.le_refl _), Nat.sub_self]
  rfl
def sSubX (fo fi fe : Fe RV) : Fs := fun ρ S => (fe ρ S).bind fun v => (fo ρ v.2).bind fun o => (fi ρ o.2).bind fun i => (isDX o.1 i.2).bind fun q => (tKey i.1).bind fun k => match v.1 with
  | .d d => if q.2.length < Lim then some (.nx, ρ, i.2.set q.1 (.dcx (dPut q.2 k d))) else none
  | _ => none
theorem s_subX {o i e : Expr} {fo fi f : Fe RV} {pos pos' : Pos} (hu : X.A.units + 65 < cLine) (ho : PE X o (TV tb X fo)) (hi : PE X i (TV tb X fi)) (he : PE X e (TV tb X f))
    (ha : ∀ v, assign (.Subscript o i pos') X.env v = (do
      let ov ← holding [v] (eval o X.env)
      let iv ← holding [v, ov] (eval i X.env)
      standAt pos'
      holding [v, ov, iv] (setItem ov iv v)
      release [v, ov, iv] [])) (hs : swapsWithSole [.Subscript o i pos'] e pos.line X.env = pure false) (hw : swappedStores [.Subscript o i pos'] e X.env = pure none) (h1 : (assignEach [.Subscript o i pos'] X.env).map (·.2) = [assign (.Subscript o i pos') X.env]) :
    PS X (.Assign [.Subscript o i pos'] e pos) (TSf tb X (sSubX fo fi f)) := ps_weak (ps_asg he (pg_sub ho hi (set_X hu) ha) hs hw h1) fun D σ H ⟨ρ, R, m, S, fl, ρ', S', hE, hS, e, k⟩ => by
  obtain ⟨⟨v, S1⟩, e1, ea⟩ := bind_some e
  obtain ⟨⟨ov, S2⟩, e2, eb⟩ := bind_some ea
  obtain ⟨⟨iv, S3⟩, e3, ec⟩ := bind_some eb
  obtain ⟨⟨n, kvs⟩, e4, ed⟩ := bind_some ec
  obtain ⟨kk, e5, ee⟩ := bind_some ed
  clear e ea eb ec ed
  refine ⟨ρ, R, m, S, v, S1, hE, hS, e1, fun vv H1 R1 m1 x1 s1 r1 => ?_⟩
  have E1 := hE.ext x1 hS.sub
  refine ⟨ρ, R1, m1, S1, ov, S2, E1, s1, e2, fun oo H2 R2 m2 x2 s2 r2 => ?_⟩
  have E2 := E1.ext x2 s1.sub
  refine ⟨ρ, R2, m2, S2, iv, S3, E2, s2, e3, fun ii H3 R3 m3 x3 s3 r3 => ?_⟩
  have E3 := E2.ext x3 s2.sub
  simp only at ee
  split at ee
  · rename_i d
    split at ee
    · rename_i hl
      cases ee
      obtain ⟨a, xs, rfl, h1, h2, h3, h4⟩ := dx_view s3 (r2.ext x3 s2.sub) e4
      obtain ⟨b, rfl, h5, h6⟩ := tKey_view r3 e5
      have rd : Rep X.K H3 R3 d vv := RepV.ext x3 s2.sub (RepV.ext x2 s1.sub r1)
      have hm := List.mem_of_getElem? h1
      have hlen : kvs.length = xs.length := Paired.length h3
      refine ⟨a, b, kk, xs, R3, rfl, rfl, h2, h3.keys, s3.sub _ hm, h5, h6, by rw [lim_eq, ← hlen]; exact hl, fun u hu => ?_⟩
      have x4 := Ext.chg (H := H3) (R := R3) (o := .ext (DX X.prog X.w a (storedH xs kk b u))) hm (by rw [h2]; intro z; cases z)
      refine k _ _ _ _ (((x1.trans x2).trans x3).trans x4) (s3.chg h1 ⟨_, upd_same, ?_⟩) (E3.ext x4 s3.sub)
      exact Paired.mapP (PX.put kk h5 h6 hu rd h3) fun _ _ ⟨z1, z2, z3, v, z4, z5⟩ => ⟨z1, Rep.ext x4 s3.sub z2, z3, v, z4, Rep.ext x4 s3.sub z5⟩
    · cases ee
  · cases ee
end
end Ev

/-! The evaluator, part L: a tuple backwards. -/
namespace Ev
open PySem PySem.Spec PyProof.Rows L2

section
variable {prog : Program} {w : World} {A : Around} {E : Value → Shared → Prop} {s : Shared}
theorem back_pick (xs : Array Value) : ((List.range xs.size).filterMap fun (m : Nat) => xs[(((xs.size : Int) - 1) + (m : Int) * (-1)).toNat]?).toArray = xs.toList.reverse.toArray := by
  congr 1
  refine List.ext_getElem? fun i => ?_
  have hall : ∀ (l : List Nat) (f : Nat → Option Value) (g : Nat → Value), (∀ m ∈ l, f m = some (g m)) → l.filterMap f = l.map g := by
    intro l f g
    induction l with
    | nil => intro _; rfl
    | cons a l ih =>
      intro h
      rw [List.filterMap_cons, h a List.mem_cons_self, List.map_cons, ih fun m hm => h m (List.mem_cons_of_mem _ hm)]
  rw [hall (List.range xs.size) _ (fun m => xs.toList.getD (xs.size - 1 - m) default) fun m hm => ?_]
  · by_cases hi : i < xs.size
    · rw [List.getElem?_map, List.getElem?_range hi, List.getElem?_reverse (by simpa using hi)]
      have : xs.size - 1 - i < xs.toList.length := by simp; omega
      simp only [Option.map_some, Array.length_toList]
      rw [List.getElem?_eq_getElem this, List.getD_eq_getElem?_getD, List.getElem?_eq_getElem this]
      rfl
    · rw [List.getElem?_eq_none (by simp; omega), List.getElem?_eq_none (by simp; omega)]
  · have hm := List.mem_range.mp hm
    have e : (((xs.size : Int) - 1) + (m : Int) * (-1)).toNat = xs.size - 1 - m := by omega
    rw [e]
    have : xs.size - 1 - m < xs.toList.length := by simp; omega
    rw [List.getD_eq_getElem?_getD, List.getElem?_eq_getElem this, ← Array.getElem?_toList, List.getElem?_eq_getElem this]
    rfl
theorem getItem_tuple_back {t sl : Addr} {items : Array Value} {vs : Value} {Q : Value → Shared → Prop} (ht : IsTup s.heap t items) (hs : s.heap.IsSliceOf sl .none .none vs) (ps : IsPart vs (some (-1)))
    (h : Q (.ref s.heap.objs.size) { s with heap := s.heap.push { cls := .type "tuple", data := .seq items.toList.reverse.toArray } })
    (hsz : items.size ≤ sizeLine) : wpAny (model prog w) A (getItem (.ref t) (.ref sl)) Q E s := by
  have htake : sizeOk (.seq items.toList.reverse.toArray) := by
    show items.toList.reverse.toArray.size ≤ sizeLine
    simpa using hsz
  obtain ⟨os, hos, hcs, hds⟩ := id hs
  have hTs : s.TypeIs (.ref sl) "slice" := ⟨os, hos, hcs⟩
  unfold getItem
  try with_reducible refine wpAny_holding ?_
  first | refine wpAny_bind (wpAny_pure ?_) | skip
  refine wpAny_bind (wpAny_sequenceKey ht.typeIs (by decide) ?_)
  refine wpAny_bind (wpAny_callSpecial?_slot (name := Str.ofString "__getitem__") ht.typeIs PyProof.Rows.slot_tuple_getitem
    (wpAny_call_entry PyProof.Rows.slot_tuple_getitem ht.typeIs entry_tuple_getitem ?_ (args_tuple_getitem _ _)))
  show wpAny _ _ (Builtin.Tuple.tupleItemsOf (.ref t) >>= _) _ _ s
  refine wpAny_bind (tupleItemsOf_ ht ?_)
  refine wpAny_bind (wpAny_typeOf hTs ?_)
  rw [if_pos (by decide)]
  refine wpAny_bind ?_
  unfold Builtin.Slice.sliceApplied Builtin.Slice.sliceFields
  refine wpAny_bind (wpAny_bind (wpAny_field hos hds (x := .none) rfl (wpAny_bind (wpAny_field hos hds (x := .none) rfl (wpAny_bind (wpAny_field hos hds (x := vs) rfl (wpAny_pure ?_)))))))
  refine wpAny_bind (HT.slicePart_ ps ?_)
  show wpAny _ _ (if ((-1 : Int) == 0) = true then _ else _) _ _ s
  rw [if_neg (by decide)]
  refine wpAny_bind (slicePart_none (wpAny_bind (slicePart_none (wpAny_bind (wpAny_pure ?_)))))
  show wpAny _ _ (pure ((items.size : Int) - 1, (-1 : Int), Builtin.Slice.slicePlaces ((items.size : Int) - 1) (-1) (-1))) _ _ s
  have hp : Builtin.Slice.slicePlaces ((items.size : Int) - 1) (-1) (-1) = items.size := by
    unfold Builtin.Slice.slicePlaces
    have h1 : ¬ ((-1 : Int) > 0) := by omega
    simp only [h1, if_false, show -(-1 : Int) = 1 from rfl, Int.ediv_one]
    split <;> omega
  rw [hp]
  refine wpAny_pure ?_
  show wpAny _ _ (if (((items.size : Int) - 1) == 0 && (-1 : Int) == 1 && items.size == items.size) = true then _ else _) _ _ s
  rw [if_neg (by simp), back_pick]
  first
    | exact wpAny_bind (m := Builtin.Tuple.tupleExact _) (wpAny_newObj_type (wpAny_pure ⟨_, rfl, wpAny_pure h⟩) htake)
    | exact wpAny_bind (m := Builtin.Tuple.tupleExact _) (wpAny_newObj_type (wpAny_bind (wpAny_pure (wpAny_pure ⟨_, rfl, wpAny_pure h⟩))) htake)
    | exact wpAny_bind (wpAny_bind (m := Builtin.Tuple.tupleExact _) (wpAny_newObj_type (wpAny_pure (wpAny_pure ⟨_, rfl, wpAny_pure h⟩)) htake))
    | exact wpAny_bind (wpAny_bind (m := Builtin.Tuple.tupleExact _) (wpAny_newObj_type (wpAny_pure ⟨_, rfl, wpAny_pure h⟩) htake))
end

def tRevT (K : PySem.W.Frag) (te : TE) : TE := fun σ H Q => te σ H fun x H1 => ∃ a xs, x = .ref a ∧ SqT K H1 a xs ∧ ∀ p o, H1 p = none → o.dict = none → Q (.ref p) (upd H1 p (.frz o (.tup xs.reverse)))
theorem pe_revT {X : Cx} {e : Expr} {te : TE} {k : Nat} {p1 p2 p3 pos : Pos} (he : PE X e te) : PE X (.Subscript e (.Slice none none (some (.UnaryOp .USub (.Constant (.int 1) k p1) p2)) p3) pos) (tRevT X.K te) := by
  refine ⟨fun pins s σ H Q I h => ?_⟩
  refine Subscript_ (thn (he.run pins s σ H _ I h) fun v s1 ⟨x, H1, I1, r1, q1⟩ => ?_)
  obtain ⟨a, xs, ex, hx, q⟩ := q1
  subst ex
  cases r1
  have hst : PO X (some (.UnaryOp .USub (.Constant (.int 1) k p1) p2)) (tPart (tUn (rU fun i => .int (-i)) (tC (.int 1)))) := po_some (pe_un un_neg pe_int)
  refine wpAny_Slice (thn (po_none.run pins s1 σ H1 (fun o H2 => o = none ∧ H2 = H1) I1 ⟨rfl, rfl⟩) fun vl s2 ⟨l, H2, I2, pl, el, e2⟩ => ?_)
  subst el e2
  refine thn (po_none.run pins s2 σ H2 (fun o H3 => o = none ∧ H3 = H2) I2 ⟨rfl, rfl⟩) fun vu s3 ⟨u, H3, I3, pu, eu, e3⟩ => ?_
  subst eu e3
  refine thn (hst.run pins s3 σ H3 (fun o H4 => o = some (-1) ∧ H4 = H3) I3 ⟨1, rfl, -1, rfl, rfl, rfl⟩) fun vs s4 ⟨o, H4, I4, ps, eo, e4⟩ => ?_
  subst eo e4
  have I5 : Inv X pins σ H4 { s4 with heap := s4.heap.push { cls := .type "slice", data := .fields #[vl, vu, vs] } } := I4.kept (t' := s4.toks) fun b ob q => Heap.get?_push_of_some _ q
  cases pl
  cases pu
  obtain ⟨its, r, ht, hz⟩ := I5.tuple hx
  have hlen := r.length
  show wpAny (model X.prog X.w) X.A (subscriptTail e (.Slice none none (some (.UnaryOp .USub (.Constant (.int 1) k p1) p2)) p3) (.ref a) (.ref s4.heap.objs.size)) (EP X pins σ Q) X.xe { s4 with heap := s4.heap.push { cls := .type "slice", data := .fields #[.none, .none, vs] } }
  refine tail_any (ops := [.ref a, .ref s4.heap.objs.size]) ht.typeIs PyProof.Rows.slot_tuple_getitem.lookup ?_ (by with_unfolding_all rfl)
  refine getItem_tuple_back ht (Heap.IsSliceOf.new _ .none .none vs) ps ?_ (by rw [List.size_toArray]; omega)
  refine ⟨.ref _, _, I5.laid (t' := s4.toks) (o := .frz _ (.tup xs.reverse)) (fun b ob q => Heap.get?_push_of_some _ q) (Nat.le_refl _) ⟨Heap.get?_push_size _ rfl, ?_⟩, rfl, q _ _ (I5.hok.fresh (Nat.le_refl _)) rfl⟩
  exact ⟨by rw [List.length_reverse]; exact hz, _, r.reverse, _, Heap.get?_push_size _ rfl, rfl, _, rfl⟩
def eRevT (f : Fe RV) : Fe RV := fMap f fun x _ => (lookT x).map fun ds => .d (.tup ds.reverse)
theorem e_revT {X : Cx} {e : Expr} {f : Fe RV} {k : Nat} {p1 p2 p3 pos : Pos} (he : PE X e (TV tb X f)) : PE X (.Subscript e (.Slice none none (some (.UnaryOp .USub (.Constant (.int 1) k p1) p2)) p3) pos) (TV tb X (eRevT f)) :=
  pe_weak (pe_revT he) fun σ H Q ⟨ρ, R, m, S, r, S', hE, hS, e, k⟩ => by
    obtain ⟨x, e1, e2⟩ := fMap_some e
    obtain ⟨ds, e3, rfl⟩ := Option.map_eq_some_iff.mp e2
    refine ⟨ρ, R, m, S, x, S', hE, hS, e1, fun v H1 R1 m1 x1 s1 r1 => ?_⟩
    obtain ⟨a, vs, rfl, h4, h5⟩ := lookT_view r1 e3
    exact ⟨a, vs, rfl, h4, fun p o hp ho => k _ _ _ _ (x1.trans (.new hp)) (s1.new hp) (.tup ⟨o, ho, upd_same⟩ (s1.notR hp) (h5.reverse.ext (.new hp) s1.sub))⟩
end Ev

/-! The evaluator, part R: functions as values. -/
namespace Ev
open PySem PySem.Spec PyProof.Rows L2

/-! ### a heap that knows more -/
/-- H' is H, and the objects at cs are known too -/
structure More (cs : List Addr) (H H' : Hp) : Prop where
  out : ∀ b, b ∉ cs → H' b = H b
  none : ∀ b ∈ cs, H b = Option.none
  fz : ∀ b ∈ cs, ∃ o, Fz H' b o
section
variable {cs : List Addr} {H H' H1 H1' : Hp} {P : Program} {w : World} {K : PySem.W.Frag} {h h1 : Heap} {R fs : List Addr}
theorem More.nin (m : More cs H H') {b : Addr} {o : HO} (e : H b = some o) : b ∉ cs := fun z => by rw [m.none b z] at e; cases e
theorem More.to (m : More cs H H') {b : Addr} {o : HO} (e : H b = some o) : H' b = some o := by rw [m.out b (m.nin e)]; exact e
theorem More.fro (m : More cs H H') {b : Addr} {o : HO} (e : H' b = some o) (n : ∀ u, o ≠ .frz u UH) : H b = some o := by
  by_cases z : b ∈ cs
  · obtain ⟨u, q⟩ := m.fz b z
    rw [show H' b = _ from q] at e
    cases e
    exact absurd rfl (n u)
  · rw [← m.out b z]; exact e
theorem More.hno (m : More cs H H') {b : Addr} (e : H' b = Option.none) : H b = Option.none := by
  by_cases z : b ∈ cs
  · exact m.none b z
  · rw [← m.out b z]; exact e
theorem More.up (m : More cs H H') (ok : HOk P w H h) (k : ∀ b ∈ cs, ∀ o, Fz H' b o → h.get? b = some o) : HOk P w H' h := fun b u e => by
  by_cases z : b ∈ cs
  · obtain ⟨o, q⟩ := m.fz b z
    have e' := k b z o q
    rw [show H' b = _ from q] at e
    cases e
    exact ⟨e', True.intro, ⟨o, e'⟩, fun _ _ _ _ => True.intro⟩
  · rw [m.out b z] at e
    exact (ok b u e).stay (fun _ _ _ q => q) (fun _ q => m.to q) fun _ _ q => m.to q
theorem More.down (m : More cs H H') (ok : HOk P w H' h) : HOk P w H h := fun b u e =>
  (ok b u (m.to e)).stay (fun _ _ _ q => q) (fun _ q => m.fro q fun _ z => by cases z) fun _ _ q => m.fro q fun _ z => by cases z
theorem fz_get {a : Addr} {o : Obj} (ok : HOk P w H h) (e : Fz H a o) : h.get? a = some o := (show ObjOk P w H h a (.frz o UH) from ok a _ e).1
/-- what is told of the greater heap, told of the lesser -/
theorem Un.less (m : More cs H H') (ok : HOk P w H' h) (ok1 : HOk P w H1' h1) (u : Un fs [] H' H1' h h1) (nf : ∀ b ∈ cs, b ∉ fs) : ∃ H1, More cs H1 H1' ∧ Un fs [] H H1 h h1 := by
  refine ⟨fun b => if b ∈ cs then Option.none else H1' b, ⟨fun b z => (if_neg z).symm, fun b z => if_pos z, fun b z => ?_⟩, ?_⟩
  · obtain ⟨o, q⟩ := m.fz b z
    exact ⟨o, u.frzs b o UH q⟩
  have atc : ∀ b ∈ cs, ∀ o, h.get? b = some o → h1.get? b = some o := fun b z o e => by
    obtain ⟨o', q⟩ := m.fz b z
    have e1 := fz_get ok q
    rw [e] at e1
    cases e1
    exact fz_get ok1 (u.frzs b _ UH q)
  have nn : ∀ {b : Addr}, b ∉ cs → H b = none → H' b = none := fun z n => (m.out _ z).trans n
  refine ⟨fun b o e n nfs _ => ?_, fun b o e n hfs _ => ?_, fun b o e n hx => ?_, fun b o e hx => u.there b o e hx, fun b xs e => ?_, fun b o v e => ?_, fun b ps e => ?_⟩
  · by_cases z : b ∈ cs
    · exact atc b z o e
    · exact u.keep b o e (nn z n) nfs (by simp)
  · have z : b ∉ cs := fun z => nf b z hfs
    exact u.slot b o e (nn z n) hfs (by simp)
  · by_cases z : b ∈ cs
    · exact if_pos z
    · exact (if_neg z).trans (u.free b o e (nn z n) hx)
  · exact (if_neg (m.nin e)).trans (u.tups b xs (m.to e))
  · exact (if_neg (m.nin e)).trans (u.frzs b o v (m.to e))
  · obtain ⟨more, q⟩ := u.tbls b ps (m.to e)
    exact ⟨more, (if_neg (m.nin e)).trans q⟩
/-- .. of the lesser, told of the greater -/
theorem Un.more (m : More cs H H') (ok : HOk P w H' h) (u : Un fs [] H H1 h h1) (nf : ∀ b ∈ cs, b ∉ fs) : ∃ H1', More cs H1 H1' ∧ Un fs [] H' H1' h h1 ∧ (∀ b ∈ cs, ∀ o, Fz H1' b o → h1.get? b = some o) ∧ (∀ b ∈ cs, H1' b = H' b) := by
  have atc : ∀ b ∈ cs, H1 b = none := fun b z => by
    obtain ⟨o, q⟩ := m.fz b z
    exact u.free b o (fz_get ok q) (m.none b z) (by simp)
  refine ⟨fun b => if b ∈ cs then H' b else H1 b, ⟨fun b z => if_neg z, atc, fun b z => ?_⟩, ?_, fun b z o q => ?_, fun b z => if_pos z⟩
  · obtain ⟨o, q⟩ := m.fz b z
    exact ⟨o, (if_pos z).trans q⟩
  · refine ⟨fun b o e n nfs hx => u.keep b o e (m.hno n) nfs hx, fun b o e n hfs hx => u.slot b o e (m.hno n) hfs hx, fun b o e n hx => ?_, fun b o e hx => u.there b o e hx, fun b xs e => ?_, fun b o v e => ?_, fun b ps e => ?_⟩
    · have z : b ∉ cs := fun z => by
        obtain ⟨o, q⟩ := m.fz b z
        rw [show H' b = _ from q] at n
        cases n
      exact (if_neg z).trans (u.free b o e (m.hno n) hx)
    · have q := m.fro e fun _ z => by cases z
      exact (if_neg (m.nin q)).trans (u.tups b xs q)
    · by_cases z : b ∈ cs
      · exact (if_pos z).trans e
      · exact (if_neg z).trans (u.frzs b o v ((m.out b z).symm.trans e))
    · have q := m.fro e fun _ z => by cases z
      obtain ⟨more, q2⟩ := u.tbls b ps q
      exact ⟨more, (if_neg (m.nin q)).trans q2⟩
  · have q' : H' b = some (.frz o UH) := (if_pos z).symm.trans q
    exact u.keep b o (fz_get ok q') (m.none b z) (nf b z) (by simp)

/-! ### data in both -/
theorem More.rd (m : More cs H H') {a : Addr} {u : HO} (n : u ≠ UH) (n2 : ∀ o, u ≠ .frz o UH) (r : Rd H' a u) : Rd H a u := by
  rcases r with r | ⟨o, r⟩
  · exact .inl (m.fro r n2)
  · exact .inr ⟨o, m.fro r fun _ z => by cases z; exact n rfl⟩
theorem uh_tup {vs : List V} : HO.tup vs ≠ UH := fun z => by unfold UH at z; cases z
theorem uh_lst {vs : List V} : HO.lst vs ≠ UH := fun z => by unfold UH at z; cases z
theorem More.rdT (m : More cs H H') {a : Addr} {vs : List V} (h : RdT H' a vs) : RdT H a vs :=
  let ⟨o, n, e⟩ := h; ⟨o, n, m.fro e fun _ z => by cases z⟩
mutual
theorem More.rep (m : More cs H H') : ∀ {d : D} {v : V}, Rep K H' R d v → Rep K H R d v
  | _, _, .non => .non
  | _, _, .bl b => .bl b
  | _, _, .int i => .int i
  | _, _, .str x => .str x
  | _, _, .tup h n r => .tup (m.rdT h) n (More.reps m r)
  | _, _, .tupK h r => .tupK h (More.reps m r)
  | _, _, .lst h n r => .lst (m.rd uh_lst (fun _ z => by cases z) h) n (More.reps m r)
  | _, _, .lstK h r => .lstK h (More.reps m r)
theorem More.reps (m : More cs H H') : ∀ {d : List D} {v : List V}, Reps K H' R d v → Reps K H R d v
  | _, _, .nil => .nil
  | _, _, .cons h r => .cons (More.rep m h) (More.reps m r)
end
theorem More.repU (m : More cs H H') {d : D} {v : V} (r : Rep K H R d v) : Rep K H' R d v := Rep.mono (fun _ _ _ e _ => m.to e) (fun _ z => .inl z) r
theorem More.repsU (m : More cs H H') {d : List D} {v : List V} (r : Reps K H R d v) : Reps K H' R d v := Reps.mono (fun _ _ _ e _ => m.to e) (fun _ z => .inl z) r
theorem noFrz_code {c : Addr} {q : Str} (o : Obj) : LamX.CodeO c q ≠ .frz o UH := fun z => by unfold LamX.CodeO at z; cases z
theorem More.tabs (m : More cs H H') {tb : Tbs} (t : TabsR tb H' R) : TabsR tb H R := fun p hp => by
  obtain ⟨h1, ps, h2, h3, h4⟩ := t p hp
  refine ⟨h1, ps, m.fro h2 (fun _ z => by cases z), h3, fun pos cv hc => ?_⟩
  obtain ⟨c, e1, e2, e3⟩ := h4 pos cv hc
  exact ⟨c, e1, e2, m.fro e3 noFrz_code⟩
theorem More.tabsU (m : More cs H H') {tb : Tbs} (t : TabsR tb H R) : TabsR tb H' R := t.mono (fun _ _ _ e => m.to e) fun _ z => .inl z
theorem More.live (m : More cs H H') (l : ∀ a ∈ R, H a ≠ Option.none) : ∀ a ∈ R, H' a ≠ Option.none := fun a z q => l a z (m.hno q)
theorem More.keepU (m : More cs H H') (m1 : More cs H1 H1') (k : Keep H H1) (s : ∀ b ∈ cs, H1' b = H' b) : Keep H' H1' := by
  refine ⟨fun a o e t => ?_, fun a n => ?_⟩
  · by_cases z : a ∈ cs
    · rw [s a z]; exact e
    · rw [m1.out a z]
      exact k.keep a o ((m.out a z).symm.trans e) t
  · by_cases z : a ∈ cs
    · rw [s a z]; exact n
    · rw [m1.out a z]
      exact k.live a fun y => n ((m.out a z).trans y)
theorem More.keep (m : More cs H H') (m1 : More cs H1 H1') (k : Keep H' H1') : Keep H H1 := by
  refine ⟨fun a o e t => ?_, fun a n => ?_⟩
  · rw [← m1.out a (m.nin e)]
    exact k.keep a o (m.to e) t
  · cases q : H a with
    | none => exact absurd q n
    | some o =>
      rw [← m1.out a (m.nin q)]
      exact k.live a (by rw [m.to q]; intro z; cases z)
end

/-! ### promises of functions -/
/-- the function's object o at f keeps sp: sp ws, ws what its captured cells hold -/
structure COk (P : Program) (w : World) (K : PySem.W.Frag) (mg : Str → Option Value) (base : Heap) (k : Nat) (f : Addr) (o : Obj) (C : Clo) (sp : List (Option V) → Sp) : Prop where
  obj : ∃ (oc : Value) (od : Option Addr) (fd : FuncData) (sl : Array (Option Value)), o = ⟨oc, od, .func fd, sl⟩
  run : ∀ (A : Around) (outer : List Env) (s : Shared) (H : Hp) (us : List Value) (vs : List V) (ws : List (Option V)) (Q : VK) (E : XK), Room k A → Env0 P w K mg base A outer s H → s.heap.get? f = some o → s.heap.CodeRec (.ref C.c) C.q →
    NdefX.CellsAt C.cl C.fr ws s.heap H → Vals vs us → sp ws vs H Q E → codeAny (model P w) A (.call (.ref f) ⟨us, []⟩) (CR CX0 outer P w H s Q E) s
def spC (tb : Tbs) (K : PySem.W.Frag) (n : Nat) (ψ : List (Option D) → List D → Option D) : List (Option V) → Sp := fun ws vs H Q _ => ∃ (R : List Addr) (wd : List (Option D)) (ds : List D) (r : D),
  (∀ a ∈ R, H a ≠ none) ∧ TabsR tb H R ∧ ROpts K H R wd ws ∧ Reps K H R ds vs ∧ ds.length = n ∧ ψ wd ds = some r ∧ ∀ v H', Keep H H' → TabsR tb H' R → Rep K H' R r v → Q v H'
/-- which objects are functions: those that keep their promises -/
def Tbs.of (P : Program) (w : World) (K : PySem.W.Frag) (mg : Str → Option Value) (base : Heap) (k : Nat) (tabs : List NdefX.NTab) : Tbs where
  tabs := tabs
  fn := fun f o C ψ => COk P w K mg base k f o C (spC ⟨tabs, fun _ _ _ _ => False⟩ K C.n ψ)
/-- .. as the rules use it -/
def FnsOk (tb : Tbs) (P : Program) (w : World) (K : PySem.W.Frag) (mg : Str → Option Value) (base : Heap) (k : Nat) : Prop := ∀ f o C ψ, tb.fn f o C ψ → COk P w K mg base k f o C (spC tb K C.n ψ)
def FnsMk (tb : Tbs) (P : Program) (w : World) (K : PySem.W.Frag) (mg : Str → Option Value) (base : Heap) (k : Nat) : Prop := ∀ f o C ψ, COk P w K mg base k f o C (spC tb K C.n ψ) → tb.fn f o C ψ
theorem fnsMk_of {P : Program} {w : World} {K : PySem.W.Frag} {mg : Str → Option Value} {base : Heap} {k : Nat} {tabs : List NdefX.NTab} : FnsMk (Tbs.of P w K mg base k tabs) P w K mg base k := fun _ _ _ _ h => h
theorem fnsOk_of {P : Program} {w : World} {K : PySem.W.Frag} {mg : Str → Option Value} {base : Heap} {k : Nat} {tabs : List NdefX.NTab} : FnsOk (Tbs.of P w K mg base k tabs) P w K mg base k := fun _ _ _ _ h => h

/-! ### the captured cells' addresses -/
def csOf (cl : List (Str × Addr)) : List Addr := cl.filterMap fun p => cl.lookup p.1
theorem csOf_mem {cl : List (Str × Addr)} {c : Addr} : c ∈ csOf cl ↔ ∃ y, cl.lookup y = some c := by
  unfold csOf
  rw [List.mem_filterMap]
  exact ⟨fun ⟨p, _, e⟩ => ⟨p.1, e⟩, fun ⟨y, e⟩ => ⟨(y, c), PySem.mem_of_lookup e, e⟩⟩
section
variable {cs : List Addr} {H H' H1 H1' : Hp} {P : Program} {w : World} {K : PySem.W.Frag} {h h1 : Heap} {R fs : List Addr} {mg : Str → Option Value} {base : Heap} {A : Around} {outer : List Env} {s s' : Shared}
theorem env0_down (m : More cs H H') (e : Env0 P w K mg base A outer s H') : Env0 P w K mg base A outer s H :=
  ⟨e.frames, e.mod, fun b o q => ⟨(e.bs b o q).1, m.hno (e.bs b o q).2⟩, e.bsz, e.funs, fun b z => m.hno (e.frf b z), m.down e.hok, e.bare⟩
theorem fz_nfr (m : More cs H H') (e : ∀ b ∈ fs, H' b = none) : ∀ b ∈ cs, b ∉ fs := fun b z y => by
  obtain ⟨o, q⟩ := m.fz b z
  have z' := (e b y).symm.trans q
  cases z'
/-- a call under the lesser heap, seen under the greater -/
theorem ce_up {Q : VK} {u : Value} (m : More cs H H') (e0 : Env0 P w K mg base A outer s H') (c : CE outer P w H s Q u s') : CE outer P w H' s (fun v H1' => ∃ H1, More cs H1 H1' ∧ (∀ b ∈ cs, H1' b = H' b) ∧ Q v H1) u s' := by
  obtain ⟨v, H1, os, bare, un, hok, r, q⟩ := c
  obtain ⟨H1', m1, un1, g, eq⟩ := Un.more m e0.hok un (fz_nfr m e0.frf)
  exact ⟨v, H1', os, bare, un1, m1.up hok g, r, H1, m1, eq, q⟩
/-- .. the other way -/
theorem ce_down {Q : VK} {u : Value} (m : More cs H H') (e0 : Env0 P w K mg base A outer s H') (c : CE outer P w H' s Q u s') : CE outer P w H s (fun v H1 => ∃ H1', More cs H1 H1' ∧ Q v H1') u s' := by
  obtain ⟨v, H1', os, bare, un, hok, r, q⟩ := c
  obtain ⟨H1, m1, un1⟩ := Un.less m e0.hok hok un (fz_nfr m e0.frf)
  exact ⟨v, H1, os, bare, un1, m1.down hok, r, H1', m1, q⟩
theorem ce_imp {Q Q' : VK} {u : Value} (c : CE outer P w H s Q u s') (h : ∀ v H1, Q v H1 → Q' v H1) : CE outer P w H s Q' u s' := by
  obtain ⟨v, H1, os, bare, un, hok, r, q⟩ := c
  exact ⟨v, H1, os, bare, un, hok, r, h _ _ q⟩
end
/-- the lesser heap -/
def dropH (cs : List Addr) (H : Hp) : Hp := fun b => if b ∈ cs then none else H b
theorem more_drop {cs : List Addr} {H : Hp} (f : ∀ b ∈ cs, ∃ o, Fz H b o) : More cs (dropH cs H) H := ⟨fun b z => (if_neg z).symm, fun b z => if_pos z, f⟩
theorem CellsF.at_ {H H1 : Hp} {R : List Addr} {cl : List (Str × Addr)} {fr : List Str} {ws : List (Option V)} {P : Program} {w : World} {h : Heap} (c : CellsF H R cl fr ws) (m : More (csOf cl) H1 H) (ok : HOk P w H h) : NdefX.CellsAt cl fr ws h H1 where
  len := c.len
  all := fun y a e => by
    obtain ⟨_, o, v, h2, h3⟩ := c.all y a e
    exact ⟨m.none a (csOf_mem.mpr ⟨y, e⟩), v, o, fz_get ok h2, h3⟩
  inj := c.inj
  has := fun i y e => by
    obtain ⟨a, h1, h2⟩ := c.has i y e
    refine ⟨a, h1, fun v ev => ?_⟩
    obtain ⟨u, o, h3, h4, h5⟩ := h2 v ev
    exact ⟨u, h3, o, fz_get ok h4, h5⟩
theorem codeO_rec {P : Program} {w : World} {H : Hp} {h : Heap} {c : Addr} {q : Str} (hok : HOk P w H h) (e : H c = some (LamX.CodeO c q)) : h.CodeRec (.ref c) q := NdefX.codeO_at hok e

/-! ### f(..), f a function value -/
def eCallF (i : Nat) (h : Fe (List RV)) : Fe RV := fun ρ S => match ρ[i]? with
  | some (some (.fn φ)) => (h ρ S).bind fun p => (dsOf p.1).bind fun ds => (φ ds).map fun r => (.d r, p.2)
  | _ => none
theorem e_callF {X : Cx} {tb : Tbs} {k i : Nat} {x : Str} {e : Expr} {es : List Expr} {p pos : Pos} {h : Fe (List RV)} (F : FnsOk tb X.prog X.w X.K X.mg X.base k) (hr : Room k X.A) (hN : X.N[i]? = some x) (hv : Vis X.env.scope x) (ha : PA X (e :: es) (TAs tb X h))
    (hd : (x == ("__debug__" : Str)) = false) (hcd : (x == ("__classdict__" : Str)) = false)
    (he : starEach (e :: es) X.env = (false, eval e X.env) :: starEach es X.env) (hpl : (backTo pos (starEach es X.env)).any (·.1) = false) :
    PE X (.Call (.Name x p) (e :: es) [] pos) (TV tb X (eCallF i h)) := by
  refine ⟨fun pins s σ H Q I q => ?_⟩
  obtain ⟨ρ, R, m, S, res, S', hE, hS, ev, k'⟩ := q
  unfold eCallF at ev
  split at ev
  · rename_i φ hρ
    obtain ⟨⟨rs, S1⟩, e1, e2⟩ := bind_some ev
    obtain ⟨ds, e3, e4⟩ := bind_some e2
    obtain ⟨r, e5, e6⟩ := Option.map_eq_some_iff.mp e4
    cases e6
    obtain ⟨v0, hs, f, ev0, fa⟩ := hE.at_ i _ hρ
    subst ev0
    have fnAt : ∀ {H : Hp} {R : List Addr} {s : Shared} {σ : List (Option V)}, FunAt tb X.K H R φ f → Inv X pins σ H s → PySem.W.FnAt f s.heap := fun fa I => by
      obtain ⟨o, C, ψ, ws, wd, h1, h2, _⟩ := fa
      have ok := F f o C ψ h1
      obtain ⟨oc, od, fd, sl, eo⟩ := ok.obj
      exact ⟨oc, od, fd, sl, by rw [← eo]; exact fz_get I.hok h2⟩
    refine wpAny_Call_Name_kw (thn ((pe_var (pos := p) (i := i) hN hv hd hcd).run pins s σ H (fun v H1 => v = .ref f ∧ H1 = H) I ⟨.ref f, hs, rfl, rfl⟩) fun u s1 ⟨v, H1, I1, r1, q1⟩ => ?_)
    obtain ⟨ev, eH⟩ := q1
    subst ev
    subst eH
    obtain rfl : u = Value.ref f := r1
    refine PySem.W.callWith_F (first := []) (fnAt fa I1) (thn (ha.run pos pins s1 σ H1 (fun vs H2 => ∃ R' m', Ext H1 R m H2 R' m' ∧ Sim tb X.prog X.w X.K H2 R' m' S1 ∧ RepVs tb X.K H2 R' m' rs vs) I1 ⟨ρ, R, m, S, rs, S1, hE, hS, e1, fun vs H2 R' m' x2 s2 r2 => ⟨R', m', x2, s2, r2⟩⟩) fun us s2 ⟨vs, H2, I2, r, R', m', x2, S2, r2⟩ => ?_) he hpl
    have fa2 : FunAt tb X.K H2 R' φ f := fa.mono (fun a o n q t => x2.keep a o (fun z => n (hS.sub a z)) q t) x2.fresh
    refine ⟨fnAt fa2 I2, ?_⟩
    obtain ⟨o, C, ψ, ws, wd, h1, h2, h3, h4, h5, h6, h7, h8⟩ := fa2
    have ok := F f o C ψ h1
    subst h8
    dsimp only at e5
    split at e5
    · rename_i hn
      have fz : ∀ b ∈ csOf C.cl, ∃ o, Fz H2 b o := fun b z => by
        obtain ⟨y, e⟩ := csOf_mem.mp z
        obtain ⟨_, o, _, q, _⟩ := h6.all y b e
        exact ⟨o, q⟩
      have M := more_drop fz
      have E0 := I2.env0
      show wpAny _ _ (call (.ref f) us) _ _ _
      have rds := dsOf_reps r2 e3
      refine wpAny_call (codeAny_mono (ok.run X.A X.stack s2 (dropH (csOf C.cl) H2) us vs ws (fun v H' => Keep (dropH (csOf C.cl) H2) H' ∧ TabsR tb H' R' ∧ Rep X.K H' R' _ v) (fun _ _ _ => False) hr (env0_down M E0) (fz_get I2.hok h2) (codeO_rec I2.hok h4) (h6.at_ M I2.hok) r
        ⟨R', wd, ds, _, fun a z q => ?_, M.tabs S2.tabs, Paired.mapP h7 fun d v z x hx => (let ⟨y, e1, e2⟩ := z x hx; ⟨y, e1, M.rep e2⟩), M.reps rds, hn, e5, fun v H' a b c => ⟨a, b, c⟩⟩) fun r s' hq => ?_)
      · by_cases z2 : a ∈ csOf C.cl
        · obtain ⟨y, e⟩ := csOf_mem.mp z2
          exact (h6.all y a e).1 z
        · exact S2.live a z ((if_neg z2).symm.trans q)
      · cases r with
        | error e => exact hq.elim
        | ok fl =>
          cases fl with
          | ret u =>
            refine I2.after (ce_imp (ce_up M E0 hq) fun v H3' ⟨H3, m3, eq, kp, kt, rv⟩ => ?_)
            have kp' := M.keepU m3 kp eq
            have kt' := m3.tabsU kt
            exact k' v H3' R' m' (x2.trans kp'.ext) (S2.keep kp' kt') (m3.repU rv)
          | next => exact False.elim hq
          | brk => exact False.elim hq
          | cont => exact False.elim hq
    · cases e5
  · cases ev
end Ev

/-! The evaluator, part S: closures: made, handed to a def. -/
namespace Ev
open PySem PySem.Spec PyProof.Rows L2

/-! ### closures among the arguments -/
abbrev IsC := Addr → Obj → Clo → Prop
def ClAt (is : IsC) (R : List Addr) (H : Hp) (f : Addr) : Prop := ∃ (o : Obj) (C : Clo), is f o C ∧ Fz H f o ∧ f ∉ R ∧ H C.c = some (LamX.CodeO C.c C.q) ∧ C.c ∉ R
theorem ClAt.ext {is : IsC} {H H' : Hp} {R R' m m' : List Addr} {f : Addr} (e : Ext H R m H' R' m') (hs : ∀ a ∈ m, a ∈ R) (c : ClAt is R H f) : ClAt is R' H' f := by
  obtain ⟨o, C, h1, h2, h3, h4, h5⟩ := c
  exact ⟨o, C, h1, e.keep _ _ (fun z => h3 (hs _ z)) h2 noT_frz, fun z => (e.fresh _ z).elim h3 fun q => (by rw [show H f = some _ from h2] at q; cases q), e.keep _ _ (fun z => h5 (hs _ z)) h4 noT_ext, fun z => (e.fresh _ z).elim h5 fun q => (by rw [h4] at q; cases q)⟩
abbrev ClAts (R : List Addr) (H : Hp) : List IsC → List Addr → Prop := Paired fun is f => ClAt is R H f
theorem ClAts.ext {H H' : Hp} {R R' m m' : List Addr} {l : List IsC} {fs : List Addr} (e : Ext H R m H' R' m') (hs : ∀ a ∈ m, a ∈ R) (c : ClAts R H l fs) : ClAts R' H' l fs := Paired.mapP c fun _ _ z => z.ext e hs
/-- arguments, then closures just made -/
def TAc (tb : Tbs) (X : Cx) (f : Fe (List RV)) (l : List IsC) : TA := fun σ H Q => ∃ (ρ : Env') (R m : List Addr) (S : Sto) (r : List RV) (S' : Sto), RepE tb X.K H R m ρ σ ∧ Sim tb X.prog X.w X.K H R m S ∧ f ρ S = some (r, S') ∧
  ∀ vs fs H' R' m', Ext H R m H' R' m' → Sim tb X.prog X.w X.K H' R' m' S' → RepVs tb X.K H' R' m' r vs → ClAts R' H' l fs → Q (vs ++ fs.map V.ref) H'
/-- a closure is made -/
def tMk (tb : Tbs) (X : Cx) (is : IsC) : TE := fun σ H Q => ∃ (R m : List Addr) (S : Sto), Sim tb X.prog X.w X.K H R m S ∧ ∀ f H', Ext H R m H' R m → Sim tb X.prog X.w X.K H' R m S → ClAt is R H' f → Q (.ref f) H'
section
variable {X : Cx} {e : Expr} {es : List Expr} {f : Fe RV} {h : Fe (List RV)} {l : List IsC} {is : IsC} {tb : Tbs}
theorem ac_nil : PA X [] (TAc tb X aNil []) := pa_weak pa_nil fun σ H Q ⟨ρ, R, m, S, r, S', hE, hS, e, k⟩ => by
  cases e
  exact k [] [] _ _ _ .refl hS .nil .nil
theorem ac_mk (ha : PE X e (tMk tb X is)) (hr : PA X es (TAc tb X aNil l)) (hs : starEach (e :: es) X.env = (false, eval e X.env) :: starEach es X.env) : PA X (e :: es) (TAc tb X aNil (is :: l)) :=
  pa_weak (pa_cons ha hr hs) fun σ H Q q => by
    obtain ⟨ρ, R, m, S, r, S', hE, hS, e, k⟩ := q
    cases e
    refine ⟨R, m, S, hS, fun f H1 x1 s1 c1 => ⟨ρ, R, m, S, [], S, hE.ext x1 hS.sub, s1, rfl, fun vs fs H2 R2 m2 x2 s2 r2 c2 => ?_⟩⟩
    cases r2
    exact k [] (f :: fs) H2 R2 m2 (x1.trans x2) s2 .nil (.cons (c1.ext x2 s1.sub) c2)
theorem ac_cons (ha : PE X e (TV tb X f)) (hr : PA X es (TAc tb X h l)) (hs : starEach (e :: es) X.env = (false, eval e X.env) :: starEach es X.env) : PA X (e :: es) (TAc tb X (aCons f h) l) :=
  pa_weak (pa_cons ha hr hs) fun σ H Q q => by
    obtain ⟨ρ, R, m, S, r, S', hE, hS, e, k⟩ := q
    obtain ⟨x, S1, e1, e2⟩ := fBind_some e
    obtain ⟨xs, e3, e4⟩ := fMap_some e2
    cases e4
    refine ⟨ρ, R, m, S, x, S1, hE, hS, e1, fun v H1 R1 m1 x1 s1 r1 => ?_⟩
    refine ⟨ρ, R1, m1, S1, xs, S', hE.ext x1 hS.sub, s1, e3, fun vs fs H2 R2 m2 x2 s2 r2 c2 => ?_⟩
    exact k (v :: vs) fs _ _ _ (x1.trans x2) s2 (.cons (r1.ext x2 s1.sub) r2) c2
end

/-! ### the cells come to be known -/
def upH (cs : List Addr) (h : Heap) (H : Hp) : Hp := fun b => if b ∈ cs then (match h.get? b with
  | some o => some (.frz o UH)
  | none => H b) else H b
theorem more_up {cs : List Addr} {h : Heap} {H : Hp} (n : ∀ b ∈ cs, H b = none) (t : ∀ b ∈ cs, ∃ o, h.get? b = some o) : More cs H (upH cs h H) :=
  ⟨fun b z => if_neg z, n, fun b z => by
    obtain ⟨o, e⟩ := t b z
    refine ⟨o, ?_⟩
    unfold Fz upH
    rw [if_pos z, e]⟩
theorem upH_get {cs : List Addr} {h : Heap} {H : Hp} {b : Addr} {o : Obj} (z : b ∈ cs) (e : h.get? b = some o) : Fz (upH cs h H) b o := by
  unfold Fz upH
  rw [if_pos z, e]
structure Psi where
  n : Nat
  ψ : List (Option D) → List D → Option D
  js : List Nat
def slotD (ρ : Env') (j : Nat) : Option D := match ρ[j]? with
  | some (some (.d x)) => some x
  | _ => none
def Psi.at_ (p : Psi) (ρ : Env') : RV := .fn fun ds => if ds.length = p.n then p.ψ (p.js.map (slotD ρ)) ds else none
/-- the closure is of this frame -/
structure PsiOk (tb : Tbs) (X : Cx) (is : IsC) (p : Psi) : Prop where
  ok : ∀ f o C, is f o C → tb.fn f o C p.ψ ∧ C.n = p.n ∧ (X.Ok → NdefX.Caps X C.cl C.fr p.js)
section
variable {X : Cx} {tb : Tbs} {pins : List (Addr × Obj)} {σ : L2.St} {H : Hp} {s : Shared} {R m : List Addr} {S : Sto} {ρ : Env'}
theorem own_cells (hfn : ∀ y, X.fn y = true) (I : Inv X pins σ H s) : ∀ b ∈ csOf X.env.cells, H b = none ∧ (∃ o v, s.heap.get? b = some o ∧ o.data = .cell v) ∧ X.s_0.heap.objs.size ≤ b ∧ b ∉ frs X.stack := fun b z => by
  obtain ⟨y, e⟩ := csOf_mem.mp z
  obtain ⟨v, o, e1, e2⟩ := I.cell y b e
  have ge := I.ok.cab y b (hfn y) e
  refine ⟨I.freeC y b e, ⟨o, v, e1, e2⟩, ge, fun hb => ?_⟩
  have hne : b ≠ X.env.locals := fun q => by
    obtain ⟨m, ⟨o', es, ep, ho, hx, hd, _⟩, _⟩ := I.loc
    rw [← q, e1] at ho
    cases ho
    rw [e2] at hx
    cases hx
  have hfs : b ∉ X.fs := fun hb => by
    obtain ⟨_, o, ho, _⟩ := I.ok.funs.mem hb
    exact absurd (Nat.lt_of_lt_of_le (Heap.lt_size ho) ge) (Nat.lt_irrefl _)
  rcases I.ok.stk with k | ⟨k, kf⟩
  · rw [k] at hb
    exact hfs hb
  · rw [k] at hb
    rcases List.mem_filterMap.mp hb with ⟨env, he, hf⟩
    rcases List.mem_cons.mp he with rfl | he
    · rw [kf] at hf
      cases hf
      exact hne rfl
    · exact hfs (List.mem_filterMap.mpr ⟨env, he, hf⟩)
theorem ropts {js : List Nat} (hE : RepE tb X.K H R m ρ σ) : ROpts X.K H R (js.map (slotD ρ)) (js.map (NdefX.slotAt σ)) := by
  induction js with
  | nil => exact .nil
  | cons j js ih =>
    refine .cons (fun x hx => ?_) ih
    unfold slotD at hx
    split at hx
    · rename_i y hy
      cases hx
      obtain ⟨v, h1, h2⟩ := hE.at_ j _ hy
      exact ⟨v, NdefX.slotAt_of h1, h2⟩
    · cases hx
theorem fun_at (hfn : ∀ y, X.fn y = true) (I : Inv X pins σ H s) (hS : Sim tb X.prog X.w X.K H R m S) (hE : RepE tb X.K H R m ρ σ) {is : IsC} {p : Psi} {f : Addr} (ok : PsiOk tb X is p) (c : ClAt is R H f) (M : More (csOf X.env.cells) H (upH (csOf X.env.cells) s.heap H)) :
    RepV tb X.K (upH (csOf X.env.cells) s.heap H) R [] (p.at_ ρ) (.ref f) := by
  obtain ⟨o, C, h1, h2, h3, h4, h5⟩ := c
  obtain ⟨k1, k2, k3⟩ := ok.ok f o C h1
  have cp := k3 I.ok
  have CA := NdefX.cells_of I cp
  have mem : ∀ {y c}, C.cl.lookup y = some c → c ∈ csOf X.env.cells := fun e => csOf_mem.mpr ⟨_, cp.sub _ _ e⟩
  refine ⟨f, rfl, o, C, p.ψ, p.js.map (NdefX.slotAt σ), p.js.map (slotD ρ), k1, M.to h2, h3, M.to h4, h5, ⟨CA.len, fun y c e => ?_, CA.inj, fun i y e => ?_⟩, Paired.mapP (ropts hE) fun d v z x hx => ?_, ?_⟩
  · obtain ⟨n, v, o, e1, e2⟩ := CA.all y c e
    exact ⟨fun z => hS.live c z n, o, v, upH_get (mem e) e1, e2⟩
  · obtain ⟨c, e1, e2⟩ := CA.has i y e
    refine ⟨c, e1, fun v ev => ?_⟩
    obtain ⟨u, r, o, e3, e4⟩ := e2 v ev
    exact ⟨u, o, r, upH_get (mem e1) e3, e4⟩
  · obtain ⟨y, e1, e2⟩ := z x hx
    exact ⟨y, e1, M.repU e2⟩
  · show (fun ds : List D => if ds.length = C.n then p.ψ (p.js.map (slotD ρ)) ds else none) = _
    rw [k2]
theorem funs_at (hfn : ∀ y, X.fn y = true) (I : Inv X pins σ H s) (hS : Sim tb X.prog X.w X.K H R m S) (hE : RepE tb X.K H R m ρ σ) {l : List IsC} {ps : List Psi} {fs : List Addr} (ok : Paired (fun is p => PsiOk tb X is p) l ps) (c : ClAts R H l fs) (M : More (csOf X.env.cells) H (upH (csOf X.env.cells) s.heap H)) :
    RepVs tb X.K (upH (csOf X.env.cells) s.heap H) R [] (ps.map (·.at_ ρ)) (fs.map V.ref) := by
  induction ok generalizing fs with
  | nil => cases c; exact .nil
  | cons h1 t ih =>
    cases c with
    | cons c1 c2 => exact .cons (fun_at hfn I hS hE h1 c1 M) (ih c2)
end

/-! ### g(.., closures) -/
def eCallC (n : Nat) (FF : List RV → Option PR) (ps : List Psi) (h : Fe (List RV)) : Fe RV := fun ρ S => (h ρ S).bind fun q => if (q.1 ++ ps.map (·.at_ ρ)).length = n then (FF (q.1 ++ ps.map (·.at_ ρ))).bind fun r => (match r with
  | .v x => some (.d x, q.2)
  | .l _ => none) else none
def allD : List RV → Bool
  | [] => true
  | .d _ :: r => allD r
  | _ => false
theorem repVs_d {tb : Tbs} {K : PySem.W.Frag} {H H' : Hp} {R m m' : List Addr} (k : ∀ {d v}, Rep K H R d v → Rep K H' R d v) : ∀ {rs : List RV} {vs : List V}, allD rs = true → RepVs tb K H R m rs vs → RepVs tb K H' R m' rs vs
  | _, _, _, .nil => .nil
  | .d x :: r, _, e, .cons h t => .cons (k h) (repVs_d k e t)
  | .o _ :: r, _, e, .cons h t => by cases e
  | .t _ :: r, _, e, .cons h t => by cases e
  | .fn _ :: r, _, e, .cons h t => by cases e
theorem RepVs.append {tb : Tbs} {K : PySem.W.Frag} {H : Hp} {R m : List Addr} : ∀ {a b : List RV} {u v : List V}, RepVs tb K H R m a u → RepVs tb K H R m b v → RepVs tb K H R m (a ++ b) (u ++ v)
  | _, _, _, _, .nil, s => s
  | _, _, _, _, .cons h r, s => .cons h (r.append s)
def aD (h : Fe (List RV)) : Fe (List RV) := fMap h fun rs _ => if allD rs = true then some rs else none
theorem e_callC {X : Cx} {tb : Tbs} {fa : Addr} {fd : FuncData} {pn : List Str} {k n : Nat} {x : Str} {e : Expr} {es : List Expr} {p pos : Pos} {h : Fe (List RV)} {l : List IsC} {ps : List Psi} {FF : List RV → Option PR}
    (F : FnOk X.prog X.w X.K X.mg X.base CX0 k fa fd pn (spF tb X.K n FF)) (hr : Room k X.A) (hg : Gl X x) (hm : X.mg x = some (.ref fa)) (hk : PySem.W.keepIn X.K (.ref fa) = true) (hb : Binds X.K fd pn []) (hfn : ∀ y, X.fn y = true)
    (ha : PA X (e :: es) (TAc tb X h l)) (hP : Paired (fun is p => PsiOk tb X is p) l ps) (hdb : (x == ("__debug__" : Str)) = false)
    (he : starEach (e :: es) X.env = (false, eval e X.env) :: starEach es X.env) (hpl : (backTo pos (starEach es X.env)).any (·.1) = false) :
    PE X (.Call (.Name x p) (e :: es) [] pos) (TV tb X (eCallC n FF ps (aD h))) := by
  refine ⟨fun pins s σ H Q I q => ?_⟩
  obtain ⟨ρ, R, m, S, res, S', hE, hS, ev, k'⟩ := q
  obtain ⟨⟨rs, S1⟩, e0, e2⟩ := bind_some ev
  obtain ⟨rs', e1, e1'⟩ := fMap_some e0
  split at e1'
  · rename_i hD
    cases e1'
    split at e2
    · rename_i hn
      obtain ⟨r, e3, e4⟩ := bind_some e2
      cases r with
      | l xs => cases e4
      | v y =>
        cases e4
        refine wpAny_Call_Name_kw (ld_glob I hg hm ?_ hdb)
        refine PySem.W.callWith_K (h₀ := X.base) I.ok.mod.kin hk (thn (ha.run pos pins s σ H (fun vs H1 => ∃ us fs R' m', vs = us ++ fs.map V.ref ∧ Ext H R m H1 R' m' ∧ Sim tb X.prog X.w X.K H1 R' m' S1 ∧ RepVs tb X.K H1 R' m' rs us ∧ ClAts R' H1 l fs) I ⟨ρ, R, m, S, rs, S1, hE, hS, e1, fun vs fs H1 R' m' x1 s1 r1 c1 => ⟨vs, fs, R', m', rfl, x1, s1, r1, c1⟩⟩)
          fun us s1 ⟨vs, H1, I1, rv, vs1, fs, R', m', evs, x1, s1', r1, c1⟩ => ⟨I1.kIn, ?_⟩) he hpl
        subst evs
        have OC := own_cells hfn I1
        have M := more_up (h := s1.heap) (fun b z => (OC b z).1) fun b z => (let ⟨_, ⟨o, _, e, _⟩, _⟩ := OC b z; ⟨o, e⟩)
        have E1 := I1.env0
        have hok' : HOk X.prog X.w (upH (csOf X.env.cells) s1.heap H1) s1.heap := M.up I1.hok fun b z o q => by
          obtain ⟨_, ⟨o', _, e, _⟩, _⟩ := OC b z
          have q2 := upH_get (H := H1) z e
          have q3 := (show upH (csOf X.env.cells) s1.heap H1 b = _ from q).symm.trans q2
          cases q3
          exact e
        have E0 : Env0 X.prog X.w X.K X.mg X.base X.A X.stack s1 (upH (csOf X.env.cells) s1.heap H1) :=
          ⟨E1.frames, E1.mod, fun b o q => ⟨(E1.bs b o q).1, (M.out b fun z => absurd (Nat.lt_of_lt_of_le (Nat.lt_of_lt_of_le (Heap.lt_size q) I1.ok.bsz) (OC b z).2.2.1) (Nat.lt_irrefl _)).trans (E1.bs b o q).2⟩, E1.bsz, E1.funs, fun b z => (M.out b fun y => (OC b y).2.2.2 z).trans (E1.frf b z), hok', E1.bare⟩
        have RA : RepVs tb X.K (upH (csOf X.env.cells) s1.heap H1) R' [] (rs ++ ps.map (·.at_ ρ)) (vs1 ++ fs.map V.ref) :=
          RepVs.append (repVs_d (fun q => M.repU q) hD r1) (funs_at hfn I1 s1' (hE.ext x1 hS.sub) hP c1 M)
        show wpAny _ _ (call (.ref fa) us) _ _ _
        have hus : us.length = pn.length := by
          have q := F.len _ _ _ (fun _ _ _ => False) (show spF tb X.K n FF (vs1 ++ fs.map V.ref) (upH (csOf X.env.cells) s1.heap H1) (fun v H' => Keep (upH (csOf X.env.cells) s1.heap H1) H' ∧ TabsR tb H' R' ∧ Rep X.K H' R' y v) (fun _ _ _ => False) from ⟨R', _, .v y, M.live s1'.live, M.tabsU s1'.tabs, RA, hn, e3, fun v H' a b c => ⟨a, b, c⟩⟩)
          rw [← rv.length]
          exact q
        have hb' := hb s1 us I1.kIn (by rw [List.append_nil]; exact hus)
        rw [List.append_nil] at hb'
        refine wpAny_call (codeAny_mono (F.run X.A X.stack s1 (upH (csOf X.env.cells) s1.heap H1) ⟨us, []⟩ us _ (fun v H' => Keep (upH (csOf X.env.cells) s1.heap H1) H' ∧ TabsR tb H' R' ∧ Rep X.K H' R' y v) (fun _ _ _ => False) hr E0 hb' rv
          ⟨R', _, .v y, M.live s1'.live, M.tabsU s1'.tabs, RA, hn, e3, fun v H' a b c => ⟨a, b, c⟩⟩) fun r s' hq => ?_)
        cases r with
        | error e => exact hq.elim
        | ok fl =>
          cases fl with
          | ret u =>
            refine I1.after (ce_imp (ce_down M E0 hq) fun v H3 ⟨H3', m3, kp, kt, rv⟩ => ?_)
            have kp' := M.keep m3 kp
            have kt' := m3.tabs kt
            exact k' v H3 R' m' (x1.trans kp'.ext) (s1'.keep kp' kt') (m3.rep rv)
          | next => exact False.elim hq
          | brk => exact False.elim hq
          | cont => exact False.elim hq
    · cases e2
  · cases e1'
end Ev

/-! The evaluator, part U: lambdas. -/
namespace Ev
open PySem PySem.Spec PyProof.Rows L2

def isLam (X : Cx) (params : Arguments) (body : Expr) (scope : Scope) (n : Nat) (fr : List Str) : IsC := fun _ o C => ∃ (pm ctv : Value),
  o = PySem.W.kla_obj "<lambda>" (X.env.qual ++ "<lambda>") params body scope (cloFrom X.env.cells scope.names []) pm C.c ctv ∧ C.cl = cloFrom X.env.cells scope.names [] ∧ C.q = X.env.qual ++ "<lambda>" ∧ C.n = n ∧ C.fr = fr
section
variable {X : Cx} {tb : Tbs}
/-- a lambda is made -/
theorem e_lam {nm : Nat → Nat → Str} {c P : Addr} {params : Arguments} {body : Expr} {scope : Scope} {pos : Pos} {n : Nat} {fr : List Str} (TB : LamX.TabB X.base X.mg c P) (hcode : X.env.code = .ref c) (hm : (P, nm) ∈ tb.tabs) (hu : ∀ p ∈ tb.tabs, p.2 = nm)
    (hn : nm pos.line pos.col = X.env.qual ++ "<lambda>") (hdef : defaultsOf params X.env = ([], [])) (hfree : ∀ y ∈ scope.names, y.2 = .free → X.env.scope.names.lookup y.1 = some .cell ∨ X.env.scope.names.lookup y.1 = some .free) :
    PE X (.Lambda params body scope pos) (tMk tb X (isLam X params body scope n fr)) := by
  refine ⟨fun pins s σ H Q I q => ?_⟩
  obtain ⟨R, m, S, hS, k⟩ := q
  obtain ⟨nR, ps, hP, ht, ha⟩ := hS.tabs _ hm
  refine PySem.W.kla_eval hdef ?_
  have hfree' : ∀ y ∈ scope.names, y.2 = .free → ∃ c, X.env.cells.lookup y.1 = some c := fun y hy e => (hfree y hy e).elim (fun z => I.ok.has _ (.inl z)) fun z => I.ok.has _ (.inr z)
  have bP : s.heap.BuiltinsAt X.mg P := TB.bm.keeps I.bk
  have hP' : s.heap.get? P = some { cls := .none, data := .fields ps } := I.hok P _ hP
  -- the object comes to be known
  have last : ∀ {c' : Addr} {ctv : Value} {h' : Heap} {tk : Nat} {H1 : Hp}, Inv X pins σ H1 { s with heap := h', toks := tk } → Keep H H1 → TabsR tb H1 R → H1 c' = some (LamX.CodeO c' (X.env.qual ++ "<lambda>")) → c' ∉ R →
      EP X pins σ Q (.ref h'.objs.size) { s with heap := h'.push (PySem.W.kla_obj "<lambda>" (X.env.qual ++ "<lambda>") params body scope (cloFrom X.env.cells scope.names []) ((X.mg "__name__").getD .none) c' ctv), toks := tk } := by
    intro c' ctv h' tk H1 I1 kp kt hco nc
    have nF : H1 h'.objs.size = none := I1.hok.fresh (Nat.le_refl _)
    have s1 := hS.keep kp kt
    have e : (h'.push (PySem.W.kla_obj "<lambda>" (X.env.qual ++ "<lambda>") params body scope (cloFrom X.env.cells scope.names []) ((X.mg "__name__").getD .none) c' ctv)).get? h'.objs.size = some (PySem.W.kla_obj "<lambda>" (X.env.qual ++ "<lambda>") params body scope (cloFrom X.env.cells scope.names []) ((X.mg "__name__").getD .none) c' ctv) := Heap.get?_push_size _ rfl
    have I2 : Inv X pins σ (upd H1 h'.objs.size (.frz (PySem.W.kla_obj "<lambda>" (X.env.qual ++ "<lambda>") params body scope (cloFrom X.env.cells scope.names []) ((X.mg "__name__").getD .none) c' ctv) UH)) { s with heap := h'.push (PySem.W.kla_obj "<lambda>" (X.env.qual ++ "<lambda>") params body scope (cloFrom X.env.cells scope.names []) ((X.mg "__name__").getD .none) c' ctv), toks := tk } :=
      I1.laid (a := h'.objs.size) (t' := tk) (fun b u e => Heap.get?_push_of_some _ e) (Nat.le_refl _) ⟨e, True.intro, ⟨_, e⟩, fun _ _ _ _ => True.intro⟩
    refine ⟨.ref h'.objs.size, _, I2, rfl, k _ _ (kp.ext.trans (.new nF)) (s1.new nF) ?_⟩
    exact ⟨_, ⟨n, cloFrom X.env.cells scope.names [], fr, c', X.env.qual ++ "<lambda>"⟩, ⟨_, _, rfl, rfl, rfl, rfl, rfl⟩, upd_same, s1.notR nF, (upd_ne (ne_of_none hco nF)).trans hco, nc⟩
  cases hc : codeAmong pos ps.toList with
  | none =>
    refine PySem.W.kla_makeFunction (mg := X.mg) (c := c) (P := P) (ps := ps) (closure_ok hfree') I.ok.glob (I.mod.glob.keeps I.bk) hcode (TB.code.keeps I.bk) hP' ht hc TB.gP bP fun c' ctv h' tk hx hge hlt hrec htb => ?_
    obtain ⟨c2, oc, vs, t, e2, hoc, hd, hv⟩ := hrec
    cases e2
    have nC : H c' = none := I.hok.fresh hge
    have I1 := LamX.inv_table (q := X.env.qual ++ "<lambda>") (t' := tk) (more := #[rawInt pos.line, rawInt pos.col, .ref c']) (h' := h') I hP (fun b o hb e => hx b o hb e) htb hge ⟨oc, vs, t, hoc, hd, hv⟩
    have hE : ∀ a o, H a = some o → NoT o → upd (upd H P (.tbl (ps ++ #[rawInt pos.line, rawInt pos.col, .ref c']))) c' (LamX.CodeO c' (X.env.qual ++ "<lambda>")) a = some o := fun b o e n => by
      rw [upd_ne (ne_of_none e nC), upd_ne (fun z => n ps (Option.some.inj (e.symm.trans (by rw [z]; exact hP))))]
      exact e
    have eL : (ps ++ #[rawInt pos.line, rawInt pos.col, .ref c']).toList = ps.toList ++ [rawInt pos.line, rawInt pos.col, .ref c'] := by simp
    refine last I1 ⟨hE, fun a z => ?_⟩ (fun p hp => ?_) upd_same (hS.notR nC)
    · by_cases h1 : a = c'
      · rw [h1, upd_same]; intro z; cases z
      · rw [upd_ne h1]
        by_cases h2 : a = P
        · rw [h2, upd_same]; intro z; cases z
        · rw [upd_ne h2]; exact z
    · obtain ⟨a0, ps', a1, a2, a3⟩ := hS.tabs p hp
      refine ⟨a0, ?_⟩
      by_cases hb : p.1 = P
      · rw [hu p hp, hb]
        refine ⟨_, by rw [upd_ne (ne_of_none hP nC), upd_same], by rw [eL]; exact PySem.TriplesOk_snoc _ _ _ _ ht, fun p' cv hcv => ?_⟩
        rw [eL] at hcv
        rcases NdefX.among_app2 _ ht hcv with z | ⟨z, z1, z2⟩
        · obtain ⟨c0, e1, e2, e3⟩ := ha p' cv z
          exact ⟨c0, e1, e2, hE _ _ e3 LamX.codeO_ne⟩
        · refine ⟨c', z, hS.notR nC, ?_⟩
          rw [← z1, ← z2, hn]
          exact upd_same
      · refine ⟨ps', by rw [upd_ne (ne_of_none a1 nC), upd_ne hb]; exact a1, a2, fun p' cv hcv => ?_⟩
        obtain ⟨c0, e1, e2, e3⟩ := a3 p' cv hcv
        exact ⟨c0, e1, e2, hE _ _ e3 LamX.codeO_ne⟩
  | some cv =>
    obtain ⟨c', e, nc, hco⟩ := ha pos cv hc
    subst e
    have hco : H c' = some (LamX.CodeO c' (nm pos.line pos.col)) := hco
    rw [hn] at hco
    refine PySem.W.kla_makeFunctionHit (mg := X.mg) (c := c) (P := P) (ps := ps) (closure_ok hfree') I.ok.glob (I.mod.glob.keeps I.bk) hcode (TB.code.keeps I.bk) hP' ht hc bP fun ctv h' tk hx hsz => ?_
    exact last (I.kept hx) ⟨fun _ _ e _ => e, fun _ z => z⟩ hS.tabs hco nc

/-! ### its promise -/
/-- the reading's names at the entry -/
def env0C (N : Nat) (ds : List D) (wd : List (Option D)) : Env' := ds.map (fun d => some (.d d)) ++ (wd.map (Option.map RV.d) ++ List.replicate (N - ds.length - wd.length) none)
def psiOf (N : Nat) (fb : Fe RV) : List (Option D) → List D → Option D := fun wd ds => (fb (env0C N ds wd) []).bind fun z => match z.1 with
  | .d x => some x
  | _ => none
theorem env0C_rep {K : PySem.W.Frag} {H : Hp} {R : List Addr} {ds : List D} {vs : List V} {wd : List (Option D)} {ws : List (Option V)} {N : List Str} (r : Reps K H R ds vs) (o : ROpts K H R wd ws) : RepE tb K H R [] (env0C N.length ds wd) (NdefX.startF N vs ws) := by
  unfold env0C NdefX.startF
  have hl := r.length
  have h2 : wd.length = ws.length := by
    clear hl r
    induction o with
    | nil => rfl
    | cons _ _ ih => exact congrArg Nat.succ ih
  refine ⟨by simp only [List.length_append, List.length_map, List.length_replicate]; rw [hl, h2], fun i x h => ?_⟩
  by_cases h1 : i < ds.length
  · rw [List.getElem?_append_left (by rw [List.length_map]; exact h1), List.getElem?_map] at h
    obtain ⟨d, e1, e2⟩ := Option.map_eq_some_iff.mp h
    cases e2
    obtain ⟨v, e3, e4⟩ := r.get e1
    exact ⟨v, by rw [List.getElem?_append_left (by rw [List.length_map, ← hl]; exact h1), List.getElem?_map, e3]; rfl, e4⟩
  · rw [List.getElem?_append_right (by rw [List.length_map]; omega), List.length_map] at h
    by_cases h3 : i - ds.length < wd.length
    · rw [List.getElem?_append_left (by rw [List.length_map]; exact h3), List.getElem?_map] at h
      obtain ⟨d, e1, e2⟩ := Option.map_eq_some_iff.mp h
      obtain ⟨y, e3, e4⟩ := Option.map_eq_some_iff.mp e2
      subst e4
      subst e3
      have get : ∀ {wd : List (Option D)} {ws : List (Option V)} {j : Nat}, ROpts K H R wd ws → wd[j]? = some (some y) → ∃ v, ws[j]? = some (some v) ∧ Rep K H R y v := by
        intro wd ws j o
        induction o generalizing j with
        | nil => intro e; simp at e
        | @cons a b l1 l2 hh t ih =>
          intro e
          cases j with
          | zero =>
            simp at e
            obtain ⟨v, e5, e6⟩ := hh y e
            exact ⟨v, by simp [e5], e6⟩
          | succ j =>
            obtain ⟨v, e5, e6⟩ := ih (j := j) (by simpa using e)
            exact ⟨v, by simpa using e5, e6⟩
      obtain ⟨v, e5, e6⟩ := get o e1
      refine ⟨v, ?_, e6⟩
      rw [List.getElem?_append_right (by rw [List.length_map, ← hl]; omega), List.length_map, ← hl, List.getElem?_append_left (by rw [← h2]; exact h3)]
      exact e5
    · rw [List.getElem?_append_right (by rw [List.length_map]; omega), List.getElem?_replicate] at h
      split at h <;> cases h
/-- a function whose body is an expression, by its body -/
theorem lam_ok {P : Program} {w : World} {K : PySem.W.Frag} {mg : Str → Option Value} {base : Heap} {k : Nat} {f : Addr} {C : Clo} {N ps : List Str} {params : Arguments} {body : Expr} {scope : Scope} {fb : Fe RV} {pm ctv : Value}
    (S : NdefX.NScope N ps C.fr scope) (hn : C.n = ps.length) (hb : ∀ (us : List Value), us.length = ps.length → bindArgs (PySem.W.kla_fn "<lambda>" C.q params body scope C.cl pm (.ref C.c) ctv) ⟨us, []⟩ = pure (ps.zip us))
    (hbody : ∀ (A : Around) (outer : List Env) (s : Shared) (H : Hp) (E : XK), Room k (NdefX.ncx CX0 P w K mg base N ⟨"<lambda>", C.q, params, [], scope, C.cl, C.c⟩ f A outer s H E).nox.A →
      PE (NdefX.ncx CX0 P w K mg base N ⟨"<lambda>", C.q, params, [], scope, C.cl, C.c⟩ f A outer s H E).nox body (TV tb (NdefX.ncx CX0 P w K mg base N ⟨"<lambda>", C.q, params, [], scope, C.cl, C.c⟩ f A outer s H E).nox fb)) :
    COk P w K mg base (k + 1) f (PySem.W.kla_obj "<lambda>" C.q params body scope C.cl pm C.c ctv) C (spC tb K C.n (psiOf N.length fb)) := by
  refine ⟨⟨_, _, _, _, rfl⟩, fun A outer s H us vs ws Q E hr e0 ho hrec CA r hsp => ?_⟩
  obtain ⟨R, wd, ds, x, hl, ht, ho', hds, hlen, ev, kk⟩ := hsp
  have hvl : vs.length = ps.length := by rw [← hds.length, hlen, hn]
  have lim : s.heap.NoLimit := e0.mod.nolimit.keeps fun b o e => (e0.bs b o e).1
  refine PySem.W.kla_callFunE hr.depth ho rfl S.co S.gen rfl hrec ?_
  rw [hb us (by rw [← r.length]; exact hvl)]
  refine wpAny_pure (wpAny_newFunctionEnv S.nocell (fun ⟨n, _⟩ hy => S.par n (List.of_mem_zip hy).1) (fun h₁ hns hsb => ⟨lim.fresh _ hsb, ?_⟩) S.kind)
  show codeAny _ _ (.expr body (NdefX.envF ⟨"<lambda>", C.q, params, [], scope, C.cl, C.c⟩ f s.heap.objs.size)) _ _
  have kp : ∀ b o, s.heap.get? b = some o → h₁.get? b = some o := fun b o e => hsb.extBut b o (Nat.ne_of_lt (Heap.lt_size e)) (Heap.get?_push_of_some _ e)
  have I : Inv (NdefX.ncx CX0 P w K mg base N ⟨"<lambda>", C.q, params, [], scope, C.cl, C.c⟩ f A outer s H E) [] (NdefX.startF N vs ws) H { s with heap := h₁, toks := s.toks + (ps.zip us).length } := NdefX.inv_startN S hr.hd e0 hvl r CA hns kp
  obtain ⟨⟨rv, S'⟩, e1, e2⟩ := bind_some (show (fb (env0C N.length ds wd) []).bind _ = some x from ev)
  refine PySem.W.kla_codeExpr (wpAny_mono ((hbody A outer s H E (hr.deeper _)).nox.run [] _ (NdefX.startF N vs ws) H Q I
    ⟨env0C N.length ds wd, R, [], [], rv, S', env0C_rep hds ho', sim0 hl ht, e1, fun v H' R' m' x1 s1 r1 => ?_⟩) (fun v s' hq => ?_) fun e s' hq => hq)
  · cases rv with
    | d y =>
      cases e2
      exact kk v H' ⟨fun a o q t => x1.keep a o (by simp) q t, x1.live⟩ (s1.tabs.mono (fun _ _ _ e => e) fun a h => .inl (x1.sub a h)) (Rep.mono (fun _ _ _ z _ => z) (fun a z => .inl (x1.sub a z)) r1)
    | _ => cases e2
  · obtain ⟨w', H', J, rv, q⟩ := hq
    exact ⟨w', H', J.os, J.bare, J.base, J.hok, rv, q⟩
/-- .. among a def's arguments -/
theorem psi_lam {k : Nat} {N ps fr : List Str} {js : List Nat} {params : Arguments} {body : Expr} {scope : Scope} {fb : Fe RV} (M : FnsMk tb X.prog X.w X.K X.mg X.base (k + 1)) (S : NdefX.NScope N ps fr scope) (hnd : NdefX.ndefB X.env.scope scope fr = true) (hjs : js.map (fun j => X.N[j]?) = fr.map some)
    (hb : ∀ (q : Str) (cl : List (Str × Addr)) (c : Addr) (pm ctv : Value) (us : List Value), us.length = ps.length → bindArgs (PySem.W.kla_fn "<lambda>" q params body scope cl pm (.ref c) ctv) ⟨us, []⟩ = pure (ps.zip us))
    (hbody : ∀ (q : Str) (cl : List (Str × Addr)) (c f : Addr) (A : Around) (outer : List Env) (s : Shared) (H : Hp) (E : XK), Room k (NdefX.ncx CX0 X.prog X.w X.K X.mg X.base N ⟨"<lambda>", q, params, [], scope, cl, c⟩ f A outer s H E).nox.A →
      PE (NdefX.ncx CX0 X.prog X.w X.K X.mg X.base N ⟨"<lambda>", q, params, [], scope, cl, c⟩ f A outer s H E).nox body (TV tb (NdefX.ncx CX0 X.prog X.w X.K X.mg X.base N ⟨"<lambda>", q, params, [], scope, cl, c⟩ f A outer s H E).nox fb)) :
    PsiOk tb X (isLam X params body scope ps.length fr) ⟨ps.length, psiOf N.length fb, js⟩ := by
  refine ⟨fun f o C ⟨pm, ctv, e1, e2, e3, e4, e5⟩ => ⟨M f o C _ ?_, e4, fun ok => ?_⟩⟩
  · subst e1
    rw [← e2, ← e3]
    exact lam_ok (by rw [e5]; exact S) e4 (hb _ _ _ _ _) (hbody _ _ _ f)
  · rw [e2, e5]
    exact NdefX.Caps.made ok (NdefX.ndef_free hnd) (NdefX.ndef_fr hnd) hjs
end
end Ev

/-! The evaluator, part M: the rules in the form that the printed proofs name. -/
namespace Ev
open PySem PySem.Spec PyProof.Rows L2

theorem room65 {k : Nat} {A : Around} (r : Room k A) : A.units + 65 < cLine := by have := r.un; omega
section
variable {X : Cx} {a b c e o : Expr} {es : List Expr} {pos p apos cpos : Pos} {x : Str} {f g fo : Fe RV} {h : Fe (List RV)} {t : Fe Bool}
theorem V (i : Nat) (hN : X.N[i]? = some x := by rfl) (hv : Vis X.env.scope x := by first | exact .inl rfl | exact .inr (.inl rfl) | exact .inr (.inr rfl)) (hd : (x == ("__debug__" : Str)) = false := by decide) (hcd : (x == ("__classdict__" : Str)) = false := by decide) :
    PE X (.Name x pos) (TV tb X (eVar i)) := e_var hN hv hd hcd
theorem TY (tn : Tn) (hm : X.mg x = none) (hg : Gl X x := by rfl) (hv : bootBuiltins x = some (.type tn.name) := by decide +kernel) (hn : x ≠ "__name__" := by decide) (hd : (x == ("__debug__" : Str)) = false := by decide) : PE X (.Name x pos) (TV tb X (eTy tn)) := e_ty hg hm hv hn hd
theorem AC (ha : PE X e (TV tb X f)) (hr : PA X es (TAs tb X h)) (hs : starEach (e :: es) X.env = (false, eval e X.env) :: starEach es X.env := by rfl) : PA X (e :: es) (TAs tb X (aCons f h)) := a_cons ha hr hs

/-- a constant of the module -/
structure Con (K : PySem.W.Frag) (mg : Str → Option Value) (x : Str) (d : D) : Prop where
  ex : ∃ u v, mg x = some u ∧ RelV v u ∧ ∀ H R, Rep K H R d v
theorem GC {d : D} (c : Con X.K X.mg x d) (hg : Gl X x := by rfl) (hd : (x == ("__debug__" : Str)) = false := by decide) : PE X (.Name x pos) (TV tb X (eC d)) := by
  obtain ⟨u, v, h1, h2, h3⟩ := c.ex
  exact e_glob hg h1 h2 (fun H => h3 H []) (fun H R _ => h3 H R) hd

/-! ### built-ins -/
variable (hm : X.mg x = none)
theorem B_len (hm : X.mg "len" = none) (ha : PA X (e :: es) (TAs tb X h)) (hg : Gl X "len" := by rfl) (he : starEach (e :: es) X.env = (false, eval e X.env) :: starEach es X.env := by rfl) (hpl : (backTo pos (starEach es X.env)).any (·.1) = false := by rfl) :
    PE X (.Call (.Name "len" p) (e :: es) [] pos) (TV tb X (eCall bLen h)) := pe_weak (pe_callB call_len hg hm boot_len ha (he := he) (hpl := hpl)) fun _ _ _ => tv_call cv_len
theorem B_isi (hm : X.mg "isinstance" = none) (ha : PA X (e :: es) (TAs tb X h)) (hg : Gl X "isinstance" := by rfl) (he : starEach (e :: es) X.env = (false, eval e X.env) :: starEach es X.env := by rfl) (hpl : (backTo pos (starEach es X.env)).any (·.1) = false := by rfl) :
    PE X (.Call (.Name "isinstance" p) (e :: es) [] pos) (TV tb X (eCall bIsi h)) := pe_weak (pe_callB call_isi hg hm (by decide +kernel) ha (he := he) (hpl := hpl)) fun _ _ _ => tv_call cv_isi
theorem B_all (hm : X.mg "all" = none) (ha : PA X (e :: es) (TAs tb X h)) (hc : X.calm = true := by rfl) (hg : Gl X "all" := by rfl) (he : starEach (e :: es) X.env = (false, eval e X.env) :: starEach es X.env := by rfl) (hpl : (backTo pos (starEach es X.env)).any (·.1) = false := by rfl) :
    PE X (.Call (.Name "all" p) (e :: es) [] pos) (TV tb X (eCall (bBools fun bs => bs.all id) h)) := pe_weak (pe_callB (cr_all hc) hg hm (by decide +kernel) ha (he := he) (hpl := hpl)) fun _ _ _ => tv_call cv_all
theorem B_any (hm : X.mg "any" = none) (ha : PA X (e :: es) (TAs tb X h)) (hc : X.calm = true := by rfl) (hg : Gl X "any" := by rfl) (he : starEach (e :: es) X.env = (false, eval e X.env) :: starEach es X.env := by rfl) (hpl : (backTo pos (starEach es X.env)).any (·.1) = false := by rfl) :
    PE X (.Call (.Name "any" p) (e :: es) [] pos) (TV tb X (eCall (bBools fun bs => bs.any id) h)) := pe_weak (pe_callB (cr_any hc) hg hm (by decide +kernel) ha (he := he) (hpl := hpl)) fun _ _ _ => tv_call cv_any
theorem B_sum (hm : X.mg "sum" = none) (ha : PA X (e :: es) (TAs tb X h)) (hc : X.calm = true := by rfl) (hg : Gl X "sum" := by rfl) (he : starEach (e :: es) X.env = (false, eval e X.env) :: starEach es X.env := by rfl) (hpl : (backTo pos (starEach es X.env)).any (·.1) = false := by rfl) :
    PE X (.Call (.Name "sum" p) (e :: es) [] pos) (TV tb X (eCall (bInts List.sum) h)) := pe_weak (pe_callB (cr_sum hc) hg hm (by decide +kernel) ha (he := he) (hpl := hpl)) fun _ _ _ => tv_call cv_sum
theorem B_abs (hm : X.mg "abs" = none) (ha : PA X (e :: es) (TAs tb X h)) (hg : Gl X "abs" := by rfl) (he : starEach (e :: es) X.env = (false, eval e X.env) :: starEach es X.env := by rfl) (hpl : (backTo pos (starEach es X.env)).any (·.1) = false := by rfl) :
    PE X (.Call (.Name "abs" p) (e :: es) [] pos) (TV tb X (eCall bAbs h)) := pe_weak (pe_callB call_abs hg hm (by decide +kernel) ha (he := he) (hpl := hpl)) fun _ _ _ => tv_call cv_abs
theorem B_max2 (hm : X.mg "max" = none) (ha : PA X (e :: es) (TAs tb X h)) (hc : X.calm = true := by rfl) (hg : Gl X "max" := by rfl) (he : starEach (e :: es) X.env = (false, eval e X.env) :: starEach es X.env := by rfl) (hpl : (backTo pos (starEach es X.env)).any (·.1) = false := by rfl) :
    PE X (.Call (.Name "max" p) (e :: es) [] pos) (TV tb X (eCall (bII fun i j => if j > i then j else i) h)) := pe_weak (pe_callB (call_max2 hc) hg hm (by decide +kernel) ha (he := he) (hpl := hpl)) fun _ _ _ => tv_call cv_max2
theorem B_min2 (hm : X.mg "min" = none) (ha : PA X (e :: es) (TAs tb X h)) (hc : X.calm = true := by rfl) (hg : Gl X "min" := by rfl) (he : starEach (e :: es) X.env = (false, eval e X.env) :: starEach es X.env := by rfl) (hpl : (backTo pos (starEach es X.env)).any (·.1) = false := by rfl) :
    PE X (.Call (.Name "min" p) (e :: es) [] pos) (TV tb X (eCall (bII fun i j => if j < i then j else i) h)) := pe_weak (pe_callB (call_min2 hc) hg hm (by decide +kernel) ha (he := he) (hpl := hpl)) fun _ _ _ => tv_call cv_min2
theorem B_int (hm : X.mg "int" = none) (ha : PA X (e :: es) (TAs tb X h)) (hg : Gl X "int" := by rfl) (he : starEach (e :: es) X.env = (false, eval e X.env) :: starEach es X.env := by rfl) (hpl : (backTo pos (starEach es X.env)).any (·.1) = false := by rfl) :
    PE X (.Call (.Name "int" p) (e :: es) [] pos) (TV tb X (eCall bInt h)) := pe_weak (pe_callTy call_int1 hg hm (by decide +kernel) ha (he := he) (hpl := hpl)) fun _ _ _ => tv_call cv_int
theorem B_tuple (hm : X.mg "tuple" = none) (ha : PA X (e :: es) (TAs tb X h)) (hg : Gl X "tuple" := by rfl) (he : starEach (e :: es) X.env = (false, eval e X.env) :: starEach es X.env := by rfl) (hpl : (backTo pos (starEach es X.env)).any (·.1) = false := by rfl) :
    PE X (.Call (.Name "tuple" p) (e :: es) [] pos) (TV tb X (eCall bTup h)) := pe_weak (pe_callTy call_tuple_ofX hg hm (by decide +kernel) ha (he := he) (hpl := hpl)) fun _ _ _ => tv_call cv_tup
theorem B_list (hm : X.mg "list" = none) (ha : PA X (e :: es) (TAs tb X h)) (hg : Gl X "list" := by rfl) (he : starEach (e :: es) X.env = (false, eval e X.env) :: starEach es X.env := by rfl) (hpl : (backTo pos (starEach es X.env)).any (·.1) = false := by rfl) :
    PE X (.Call (.Name "list" p) (e :: es) [] pos) (TL tb X (lCall bLst h)) := pe_weak (pe_callTy call_list_of hg hm (by decide +kernel) ha (he := he) (hpl := hpl)) fun _ _ _ => tl_call cl_lst

/-! ### defs -/
/-- a def that may be called by its name -/
structure Cal (P : Program) (w : World) (K : PySem.W.Frag) (mg : Str → Option Value) (base : Heap) (k : Nat) (x : Str) (sp : Sp) : Prop where
  ex : ∃ (f : Addr) (fd : FuncData) (ps : List Str), FnOk P w K mg base CX0 k f fd ps sp ∧ mg x = some (.ref f) ∧ PySem.W.keepIn K (.ref f) = true ∧ Binds K fd ps []
/-- a class that may be made by its name; sp: its __init__ -/
structure Mak (P : Program) (w : World) (K : PySem.W.Frag) (mg : Str → Option Value) (base : Heap) (k : Nat) (x : Str) (sp : Sp) : Prop where
  ex : ∃ (f : Addr) (fd : FuncData) (ps : List Str), Mk K (He.ga K x) f ∧ FnOk P w K mg base CX0 k f fd ps sp ∧ mg x = some (.ref (He.ga K x)) ∧ Binds K fd ps []
/-- a method of the class x -/
structure Met (P : Program) (w : World) (K : PySem.W.Frag) (mg : Str → Option Value) (base : Heap) (k : Nat) (x m : Str) (sp : Sp) : Prop where
  ex : ∃ (f : Addr) (fd : FuncData) (ps : List Str), Cls K (He.ga K x) ∧ Meth K (He.ga K x) m f ∧ FnOk P w K mg base CX0 k f fd ps sp ∧ Binds K fd ps []
variable {k n : Nat} {FP : List D → Option PR} {FS : List RV → Sto → Option (RV × Sto)}
theorem CP (c : Cal X.prog X.w X.K X.mg X.base k x (spP tb X.K n FP)) (hr : Room k X.A) (ha : PA X (e :: es) (TAs tb X h)) (hg : Gl X x := by rfl) (hdb : (x == ("__debug__" : Str)) = false := by decide) (he : starEach (e :: es) X.env = (false, eval e X.env) :: starEach es X.env := by rfl) (hpl : (backTo pos (starEach es X.env)).any (·.1) = false := by rfl) :
    PE X (.Call (.Name x p) (e :: es) [] pos) (TV tb X (eCallP n FP h)) := by
  obtain ⟨fa, fd, ps, F, h1, h2, h3⟩ := c.ex
  exact e_callP F hr hg h1 h2 h3 ha hdb he hpl
theorem LP (c : Cal X.prog X.w X.K X.mg X.base k x (spP tb X.K n FP)) (hr : Room k X.A) (ha : PA X (e :: es) (TAs tb X h)) (hg : Gl X x := by rfl) (hdb : (x == ("__debug__" : Str)) = false := by decide) (he : starEach (e :: es) X.env = (false, eval e X.env) :: starEach es X.env := by rfl) (hpl : (backTo pos (starEach es X.env)).any (·.1) = false := by rfl) :
    PE X (.Call (.Name x p) (e :: es) [] pos) (TL tb X (lCallP n FP h)) := by
  obtain ⟨fa, fd, ps, F, h1, h2, h3⟩ := c.ex
  exact l_callP F hr hg h1 h2 h3 ha hdb he hpl
theorem CS (c : Cal X.prog X.w X.K X.mg X.base k x (spS tb X.prog X.w X.K n FS)) (hr : Room k X.A) (ha : PA X (e :: es) (TAs tb X h)) (hg : Gl X x := by rfl) (hdb : (x == ("__debug__" : Str)) = false := by decide) (he : starEach (e :: es) X.env = (false, eval e X.env) :: starEach es X.env := by rfl) (hpl : (backTo pos (starEach es X.env)).any (·.1) = false := by rfl) :
    PE X (.Call (.Name x p) (e :: es) [] pos) (TV tb X (eCallS n FS h)) := by
  obtain ⟨fa, fd, ps, F, h1, h2, h3⟩ := c.ex
  exact e_callS F hr hg h1 h2 h3 ha hdb he hpl
theorem MK {cn : Str} (c : Mak X.prog X.w X.K X.mg X.base k cn (spS tb X.prog X.w X.K n FS)) (hc : Cls X.K (He.ga X.K cn)) (hr : Room (k + 1) X.A) (ha : PA X (e :: es) (TAs tb X h)) (hg : Gl X cn := by rfl) (hdb : (cn == ("__debug__" : Str)) = false := by decide) (he : starEach (e :: es) X.env = (false, eval e X.env) :: starEach es X.env := by rfl) (hpl : (backTo pos (starEach es X.env)).any (·.1) = false := by rfl) :
    PE X (.Call (.Name cn p) (e :: es) [] pos) (TV tb X (eMake cn n FS h)) := by
  obtain ⟨fa, fd, ps, M, F, h1, h3⟩ := c.ex
  exact e_make rfl hc M F hr hg h1 h3 ha hdb he hpl
theorem MT {cn m : Str} {pl : Sem Bool} (c : Met X.prog X.w X.K X.mg X.base k cn m (spS tb X.prog X.w X.K n FS)) (hr : Room k X.A) (ho : PE X o (TV tb X fo)) (ha : PA X (e :: es) (TAs tb X h)) (hst : starEach (e :: es) X.env = (false, eval e X.env) :: starEach es X.env := by rfl) (hpl : (backTo pos (starEach es X.env)).any (·.1) = false := by rfl)
    (ht : eval (.Call (.Attribute o m apos) (e :: es) [] pos) X.env = (do
      let ov ← eval o X.env
      standAt apos.atName
      let (f, first) ← holding [ov] (getMethod ov m pl)
      callWith pos f first (backTo pos (starEach (e :: es) X.env)) (backToKw pos (keywordEach [] X.env))) := by rfl) :
    PE X (.Call (.Attribute o m apos) (e :: es) [] pos) (TV tb X (eMeth cn m n FS fo h)) := by
  obtain ⟨fa, fd, ps, hc, hm, F, h3⟩ := c.ex
  exact e_meth rfl ho hc hm F hr h3 ha hst hpl ht

/-! ### fields, methods of lists -/
theorem FL {fl : Str} (he : PE X e (TV tb X f)) (hb : attributeBase e fl X.env (eval e X.env) = eval e X.env := by rfl) : PE X (.Attribute e fl pos) (TV tb X (eFld fl f)) := e_fld he hb
theorem M_pop (ho : PE X o (TV tb X f)) (hb : attributeBase o "pop" X.env (eval o X.env) = eval o X.env := by rfl) (hl : (apos.endLine == cpos.line) = true := by rfl) : PE X (.Call (.Attribute o "pop" apos) [] [] cpos) (TV tb X (eMl0 oPop f)) := e_pop ho hb hl
theorem M_reverse (ho : PE X o (TV tb X f)) (hb : attributeBase o "reverse" X.env (eval o X.env) = eval o X.env := by rfl) (hl : (apos.endLine == cpos.line) = true := by rfl) : PE X (.Call (.Attribute o "reverse" apos) [] [] cpos) (TV tb X (eMl0 oRev f)) := e_reverse ho hb hl
theorem M_append (ho : PE X o (TV tb X f)) (ha : PE X e (TV tb X g)) (hb : attributeBase o "append" X.env (eval o X.env) = eval o X.env := by rfl) (hl : (apos.endLine == cpos.line) = true := by rfl) (hs : starEach [e] X.env = (false, eval e X.env) :: starEach [] X.env := by rfl) :
    PE X (.Call (.Attribute o "append" apos) [e] [] cpos) (TV tb X (eMl1 oApp f g)) := e_append ho ha hb hl hs

/-! ### operators -/
theorem BO {op : Operator} {r : R2} {vop : Op2} (hr : OpR X (binaryOp op) r) (hv : OpV tb X r vop) (ha : PE X a (TV tb X f)) (hb : PE X b (TV tb X g)) : PE X (.BinOp a op b pos) (TV tb X (eBin vop f g)) := e_bin hr hv ha hb
theorem CM {op : CmpOp} {r : R2} {vop : Op2} (hr : OpR X (compareOp op) r) (hv : OpV tb X r vop) (ha : PE X a (TV tb X f)) (hb : PE X b (TV tb X g)) (hm : behindInMarks op b = false := by rfl) : PE X (.Compare a [op] [b] pos) (TV tb X (eBin vop f g)) := e_cmp hr hv ha hb hm
theorem CT {op : CmpOp} {r : R2} {vop : Op2} (hr : OpR X (compareOp op) r) (hv : OpV tb X r vop) (ha : PE X a (TV tb X f)) (hb : PE X b (TV tb X g)) (hm : behindInMarks op b = false := by rfl) : PT X (.Compare a [op] [b] pos) (TB tb X (fTest (eBin vop f g))) := t_cmp hr hv ha hb hm
theorem CH {op op' : CmpOp} {r r' : R2} {vop vop' : Op2} {g' : Fe RV} (hr : OpR X (compareOp op) r) (hv : OpV tb X r vop) (hr' : OpR X (compareOp op') r') (hv' : OpV tb X r' vop') (ha : PE X a (TV tb X f)) (hb : PE X b (TV tb X g)) (hc : PE X c (TV tb X g')) (hm : lastMarks [op, op'] [b, c] = false := by rfl) :
    PE X (.Compare a [op, op'] [b, c] pos) (TV tb X (eChain vop vop' f g g')) := e_chain hr hv hr' hv' ha hb hc hm
theorem CHT {op op' : CmpOp} {r r' : R2} {vop vop' : Op2} {g' : Fe RV} (hr : OpR X (compareOp op) r) (hv : OpV tb X r vop) (hr' : OpR X (compareOp op') r') (hv' : OpV tb X r' vop') (ha : PE X a (TV tb X f)) (hb : PE X b (TV tb X g)) (hc : PE X c (TV tb X g')) (hm : lastMarks [op, op'] [b, c] = false := by rfl) :
    PT X (.Compare a [op, op'] [b, c] pos) (TB tb X (fTest (eChain vop vop' f g g'))) := t_chain hr hv hr' hv' ha hb hc hm
theorem TR (ha : PE X e (TV tb X f)) (he : plainT e = true := by rfl) : PT X e (TB tb X (fTru f)) := t_tru ha he
theorem or_in (hu : X.A.units + 65 < cLine) : OpR X (compareOp .In) (fun x y H Q => rInD X.K x y H Q ∨ rInT X.K false x y H Q) := OpR.or (op_inD hu) (op_inT hu)
theorem or_nin (hu : X.A.units + 65 < cLine) : OpR X (compareOp .NotIn) (fun x y H Q => rNotInD X.K x y H Q ∨ rInT X.K true x y H Q) := OpR.or (op_notInD hu) (op_notInT hu)
def vIn (ng : Bool) : Op2 := (vInL ng).or (vInT ng)
theorem ov_in : OpV tb X (fun x y H Q => rInD X.K x y H Q ∨ rInT X.K false x y H Q) (vIn false) := OpV.or ov_inL (ov_inT false)
theorem ov_nin : OpV tb X (fun x y H Q => rNotInD X.K x y H Q ∨ rInT X.K true x y H Q) (vIn true) := OpV.or ov_notInL (ov_inT true)
theorem or_eq (hu : X.A.units + 65 < cLine) : OpR X (compareOp .Eq) (rEqD X.K) := op_eqD (by omega)
theorem or_ne (hu : X.A.units + 65 < cLine) : OpR X (compareOp .NotEq) (rNeD X.K) := op_neD (by omega)
theorem IX (ha : PE X a (TV tb X f)) (hb : PE X b (TV tb X g)) (hs : PlainIx b := by intro _ _; rfl) : PE X (.Subscript a b pos) (TV tb X (eBin vIx f g)) := e_ix ix_seq ov_ix ha hb hs
theorem IXX (hu : X.A.units + 65 < cLine) (ha : PE X a (TV tb X f)) (hb : PE X b (TV tb X g)) (hs : PlainIx b := by intro _ _; rfl) : PE X (.Subscript a b pos) (TV tb X (eBin vIxX f g)) := e_ix (ix_X hu) ov_ixX ha hb hs

/-! ### statements, targets -/
theorem SE (he : PE X e (TV tb X f)) (hs : swapsWith e none pos.line X.env = pure false := by rfl) : PS X (.Expr e pos) (TSf tb X (sExpr f)) := s_expr he hs
theorem GN (i : Nat) (hN : X.N.Nodup) (hi : X.N[i]? = some x := by rfl) (hx : Loc X.env.scope x := by first | exact .inl rfl | exact .inr rfl) (hf : X.fn x = true ∨ X.env.scope.names.lookup x = some .local := by first | exact .inl rfl | exact .inr rfl) : PG X (.Name x pos) (TGr tb X false [i] (gN i)) := g_name hN hi hx hf
theorem GS {gg : Gt} {gs : List D → Env' → Option Env'} {sl sl' : List Nat} (h1 : PG X e (TGr tb X lz sl gg)) (h2 : PGs X es (TGrs tb X sl' gs)) (hs : (assignEach (e :: es) X.env).map (·.2) = assign e X.env :: (assignEach es X.env).map (·.2) := by rfl) : PGs X (e :: es) (TGrs tb X (sl ++ sl') (gsCons gg gs)) := gs_cons h1 h2 hs
theorem GT {kk n : Nat} {gs : List D → Env' → Option Env'} {sl : List Nat} (h : PGs X es (TGrs tb X sl gs)) (hc : X.calm = true := by rfl) (hn : (assignEach es X.env).length = n := by rfl) (hst : (assignEach es X.env).findIdx? (·.1) = none := by rfl) : PG X (.Tuple es kk pos) (TGr tb X true sl (gTp n gs)) := g_tup hc h hn hst
theorem SA {tg : Expr} {sl : List Nat} {gg : Gt} (he : PE X e (TV tb X f)) (hg : PG X tg (TGr tb X lz sl gg)) (hs : swapsWithSole [tg] e pos.line X.env = pure false := by rfl) (hw : swappedStores [tg] e X.env = pure none := by rfl) (h1 : (assignEach [tg] X.env).map (·.2) = [assign tg X.env] := by rfl) :
    PS X (.Assign [tg] e pos) (TSf tb X (sAsg f gg)) := s_asg he hg hs hw h1
theorem SS (i : Nat) {pos' : Pos} (hN : X.N.Nodup) (he : PE X e (TV tb X f)) (hi : X.N[i]? = some x := by rfl) (hx : Loc X.env.scope x := by first | exact .inl rfl | exact .inr rfl) (hs : swapsWith e (some (.Name x pos')) pos.line X.env = pure false := by rfl) (hf : X.fn x = true ∨ X.env.scope.names.lookup x = some .local := by first | exact .inl rfl | exact .inr rfl) :
    PS X (.Assign [.Name x pos'] e pos) (TSf tb X (sAsg f (gN i))) := s_set hN hi hx he hs hf
theorem SP (i j : Nat) {x y : Str} {px py pt : Pos} {kt k2 pt2} (hN : X.N.Nodup) (ha : PA X [a, b] (TAs tb X h)) (hc : X.calm = true := by rfl) (hi : X.N[i]? = some x := by rfl) (hj : X.N[j]? = some y := by rfl) (hij : i ≠ j := by decide) (hx : X.env.scope.names.lookup x = some .local := by rfl) (hy : X.env.scope.names.lookup y = some .local := by rfl)
    (hw : swappedStores [.Tuple [.Name x px, .Name y py] kt pt] (.Tuple [a, b] k2 pt2) X.env = pure (some [x, y]) := by rfl) (hs : swapsWithSole [.Tuple [.Name x px, .Name y py] kt pt] (.Tuple [a, b] k2 pt2) pos.line X.env = pure false := by rfl) :
    PS X (.Assign [.Tuple [.Name x px, .Name y py] kt pt] (.Tuple [a, b] k2 pt2) pos) (TSf tb X (sPar i j h)) := s_par hc hN hi hj hij hx hy ha hw hs
theorem SU (i : Nat) {op : Operator} {r : R2} {vop : Op2} {pos' : Pos} (hN : X.N.Nodup) (ho : OpR X (inplaceOp op) r) (hv : OpV tb X r vop) (he : PE X e (TV tb X f)) (hi : X.N[i]? = some x := by rfl) (hx : Loc X.env.scope x := by first | exact .inl rfl | exact .inr rfl) (hf : X.fn x = true ∨ X.env.scope.names.lookup x = some .local := by first | exact .inl rfl | exact .inr rfl) :
    PS X (.AugAssign (.Name x pos') op e pos) (TSf tb X (sAug i vop f)) := s_aug hN hi hx he ho hv hf
theorem SF {cs : List Str} {fl : Str} {pos' : Pos} (hcs : ∀ c ∈ cs, NoAttr X.K (He.ga X.K c) fl) (ho : PE X o (TV tb X fo)) (hv : PE X e (TV tb X f)) (hs : swapsWith e (some (.Attribute o fl pos')) pos.line X.env = pure false := by rfl) :
    PS X (.Assign [.Attribute o fl pos'] e pos) (TSf tb X (sFld cs fl fo f)) := s_fld hcs ho hv hs
theorem SL {pos' : Pos} (ho : PE X o (TV tb X fo)) (hi : PE X a (TV tb X g)) (he : PE X e (TV tb X f))
    (ha : ∀ v, assign (.Subscript o a pos') X.env v = (do
      let ov ← holding [v] (eval o X.env)
      let iv ← holding [v, ov] (eval a X.env)
      standAt pos'
      holding [v, ov, iv] (setItem ov iv v)
      release [v, ov, iv] []) := by intro _; rfl) (hs : swapsWithSole [.Subscript o a pos'] e pos.line X.env = pure false := by rfl) (hw : swappedStores [.Subscript o a pos'] e X.env = pure none := by rfl) (h1 : (assignEach [.Subscript o a pos'] X.env).map (·.2) = [assign (.Subscript o a pos') X.env] := by rfl) :
    PS X (.Assign [.Subscript o a pos'] e pos) (TSf tb X (sSubL fo g f)) := s_subL ho hi he ha hs hw h1
theorem SX {pos' : Pos} (hu : X.A.units + 65 < cLine) (ho : PE X o (TV tb X fo)) (hi : PE X a (TV tb X g)) (he : PE X e (TV tb X f))
    (ha : ∀ v, assign (.Subscript o a pos') X.env v = (do
      let ov ← holding [v] (eval o X.env)
      let iv ← holding [v, ov] (eval a X.env)
      standAt pos'
      holding [v, ov, iv] (setItem ov iv v)
      release [v, ov, iv] []) := by intro _; rfl) (hs : swapsWithSole [.Subscript o a pos'] e pos.line X.env = pure false := by rfl) (hw : swappedStores [.Subscript o a pos'] e X.env = pure none := by rfl) (h1 : (assignEach [.Subscript o a pos'] X.env).map (·.2) = [assign (.Subscript o a pos') X.env] := by rfl) :
    PS X (.Assign [.Subscript o a pos'] e pos) (TSf tb X (sSubX fo g f)) := s_subX hu ho hi he ha hs hw h1
theorem SO {tg iter : Expr} {body : List Stmt} {src : Fe Src} {sl : List Nat} {gg : Gt} {F : Fs} (hp : PassesOwn (model X.prog X.w) X.A X.env X.xe) (hi : PI X tg iter (TIs tb X lz src)) (hg : PG X tg (TGr tb X lz sl gg)) (hb : PSs X body (TSf tb X F)) (hc : X.calm = true := by rfl) (hs : ∀ x, foldedSetIterable iter X.env x = pure x := by intro _; rfl) :
    PS X (.For tg iter body [] pos) (TSf tb X (sFor src gg F)) := s_for hp hc hi hg hb hs

/-! ### sources -/
variable {tg : Expr}
theorem I_range1 (hm : X.mg "range" = none) (ha : PA X [a] (TAs tb X h)) (hg : Gl X "range" := by rfl) (hs : starEach [a] X.env = [(false, eval a X.env)] := by rfl) : PI X tg (.Call (.Name "range" p) [a] [] pos) (TIs tb X lz (fMap h oR1)) := i_range1 hg hm ha hs
theorem I_range2 (hm : X.mg "range" = none) (ha : PA X [a, b] (TAs tb X h)) (hg : Gl X "range" := by rfl) (hs : starEach [a, b] X.env = [(false, eval a X.env), (false, eval b X.env)] := by rfl) (hs2 : starEach [b] X.env = [(false, eval b X.env)] := by rfl) : PI X tg (.Call (.Name "range" p) [a, b] [] pos) (TIs tb X lz (fMap h oR2)) := i_range2 hg hm ha hs hs2
theorem I_zip {elts : List Expr} {kk : Nat} {tpos : Pos} (hm : X.mg "zip" = none) (ha : PA X [a, b] (TAs tb X h)) (hg : Gl X "zip" := by rfl) (hs : starEach [a, b] X.env = (false, eval a X.env) :: starEach [b] X.env := by rfl) (hpl : (backTo pos (starEach [b] X.env)).any (·.1) = false := by rfl) :
    PI X (.Tuple elts kk tpos) (.Call (.Name "zip" p) [a, b] [] pos) (TIs tb X true (fMap h oZip)) := i_zip hg hm ha hs hpl
theorem I_enum {elts : List Expr} {kk : Nat} {tpos : Pos} (hm : X.mg "enumerate" = none) (ha : PA X [a] (TAs tb X h)) (hg : Gl X "enumerate" := by rfl) (hs : starEach [a] X.env = [(false, eval a X.env)] := by rfl) :
    PI X (.Tuple elts kk tpos) (.Call (.Name "enumerate" p) [a] [] pos) (TIs tb X true (fMap h oEnum)) := i_enum hg hm ha hs

/-! ### comprehensions -/
/-- name = [..], plain; owned -/
theorem SC (i : Nat) {y : Str} {py : Pos} {elt tg iter : Expr} {ifs : List Expr} {scope : Scope} {spos : Pos} {src : Fe Src} {gg : Gt} {sl : List Nat} {l : Fe RV} (ow : List (Str × Nat)) (hh : ∀ σ H Q, TV tb X l σ H Q → TL tb X (lLc src gg t f (ow.map (·.2))) σ H Q) (hN : X.N.Nodup) (ok : blkC X.N X.env.scope scope ow = true)
    (hsw : swapsWith (.ListComp elt [⟨tg, iter, ifs, 0⟩] scope pos) (some (.Name y py)) spos.line X.env = pure true) (hi : PI X tg iter (TIs tb X lz src))
    (hg : ∀ (s : Shared) (H : Hp) (C : Addr) (cl : List (Str × Addr)) (fp : List Addr), PG (X.blk s H scope (compEnvC scope cl C X.env) fp) tg (TGr tb X lz sl gg)) (ht : ∀ (s : Shared) (H : Hp) (C : Addr) (cl : List (Str × Addr)) (fp : List Addr), PTs (X.blk s H scope (compEnvC scope cl C X.env) fp) ifs (TB tb X t))
    (he : ∀ (s : Shared) (H : Hp) (C : Addr) (cl : List (Str × Addr)) (fp : List Addr), PE (X.blk s H scope (compEnvC scope cl C X.env) fp) elt (TV tb X f)) (hc : X.calm = true := by rfl) (hy : X.N[i]? = some y := by rfl) (hyl : X.env.scope.names.lookup y = some .local := by rfl) (hsl : ∀ i ∈ sl, i ∈ ow.map (·.2) := by decide) (hs : ∀ x, foldedSetIterable iter X.env x = pure x := by intro _; rfl) :
    PS X (.Assign [.Name y py] (.ListComp elt [⟨tg, iter, ifs, 0⟩] scope pos) spos) (TSf tb X (sAsg l (gN i))) := s_setLc hc hN hy hyl hsw hi (blkOk_by ok) hsl hg ht he hs hh
theorem LC {elt tg iter : Expr} {ifs : List Expr} {scope : Scope} {src : Fe Src} {gg : Gt} {sl : List Nat} (ow : List (Str × Nat)) (hN : X.N.Nodup) (ok : blkC X.N X.env.scope scope ow = true) (hi : PI X tg iter (TIs tb X lz src))
    (hg : ∀ (s : Shared) (H : Hp) (C : Addr) (cl : List (Str × Addr)) (fp : List Addr), PG (X.blk s H scope (compEnvC scope cl C X.env) fp) tg (TGr tb X lz sl gg)) (ht : ∀ (s : Shared) (H : Hp) (C : Addr) (cl : List (Str × Addr)) (fp : List Addr), PTs (X.blk s H scope (compEnvC scope cl C X.env) fp) ifs (TB tb X t))
    (he : ∀ (s : Shared) (H : Hp) (C : Addr) (cl : List (Str × Addr)) (fp : List Addr), PE (X.blk s H scope (compEnvC scope cl C X.env) fp) elt (TV tb X f)) (hc : X.calm = true := by rfl) (hsl : ∀ i ∈ sl, i ∈ ow.map (·.2) := by decide) (hs : ∀ x, foldedSetIterable iter X.env x = pure x := by intro _; rfl) :
    PE X (.ListComp elt [⟨tg, iter, ifs, 0⟩] scope pos) (TL tb X (lLc src gg t f (ow.map (·.2)))) := e_lc hc hN hi (blkOk_by ok) hsl hg ht he hs
end

/-! ### a def keeps its promise -/
section
variable {P : Program} {w : World} {K : PySem.W.Frag} {mg : Str → Option Value} {base : Heap} {x qual : Str} {params : Arguments} {body : List Stmt} {scope : Scope} {f : Addr} {fd : FuncData} {N ps : List Str} {k : Nat} {Fb : Fs}
/-- the context of a def's body -/
abbrev Bx (P : Program) (w : World) (K : PySem.W.Frag) (mg : Str → Option Value) (base : Heap) (N : List Str) (qual : Str) (scope : Scope) (f : Addr) (cdv : Value) (A : Around) (outer : List Env) (s : Shared) (H : Hp) (E : XK) : Cx := (cxOf CX0 P w K mg base N qual scope f cdv A outer s H E).nox
theorem fnP (F : FunD K x qual params body scope [] [] f fd) (S : FnScope N ps scope)
    (hb : ∀ (cdv : Value) (A : Around) (outer : List Env) (s : Shared) (H : Hp) (E : XK), Room k (Bx P w K mg base N qual scope f cdv A outer s H E).A → PSs (Bx P w K mg base N qual scope f cdv A outer s H E) body (TSf tb (Bx P w K mg base N qual scope f cdv A outer s H E) Fb)) :
    FnOk P w K mg base CX0 (k + 1) f fd ps (spP tb K ps.length (runP N.length Fb)) := by
  refine F.ok S (fun vs H Q E h => ?_) fun cdv A outer s H vs Q E hr h => ⟨_, (hb cdv A outer s H E hr).nox, body_P (X := Bx P w K mg base N qual scope f cdv A outer s H E) (N := N) h⟩
  obtain ⟨R, ds, r, _, _, h1, h2, _⟩ := h
  rw [← h1.length, h2]
theorem fnS (F : FunD K x qual params body scope [] [] f fd) (S : FnScope N ps scope)
    (hb : ∀ (cdv : Value) (A : Around) (outer : List Env) (s : Shared) (H : Hp) (E : XK), Room k (Bx P w K mg base N qual scope f cdv A outer s H E).A → PSs (Bx P w K mg base N qual scope f cdv A outer s H E) body (TSf tb (Bx P w K mg base N qual scope f cdv A outer s H E) Fb)) :
    FnOk P w K mg base CX0 (k + 1) f fd ps (spS tb P w K ps.length (runS N.length Fb)) := by
  refine F.ok S (fun vs H Q E h => ?_) fun cdv A outer s H vs Q E hr h => ⟨_, (hb cdv A outer s H E hr).nox, body_S (X := Bx P w K mg base N qual scope f cdv A outer s H E) (N := N) h⟩
  obtain ⟨R, m, S, rs, r, S', _, h1, h2, _⟩ := h
  rw [← h1.length, h2]
/-- a promise of nothing -/
theorem fn0P {n : Nat} {ps : List Str} : FnOk P w K mg base CX0 k f fd ps (spP tb K n fun _ => none) :=
  ⟨(fun vs H Q E ⟨_, _, _, _, _, _, _, e, _⟩ => (nomatch e)), fun A outer s H args us vs Q E _ _ _ _ ⟨_, _, _, _, _, _, _, e, _⟩ => (nomatch e)⟩
theorem fn0S {n : Nat} {ps : List Str} : FnOk P w K mg base CX0 k f fd ps (spS tb P w K n fun _ _ => none) :=
  ⟨(fun vs H Q E ⟨_, _, _, _, _, _, _, _, _, e, _⟩ => (nomatch e)), fun A outer s H args us vs Q E _ _ _ _ ⟨_, _, _, _, _, _, _, _, _, e, _⟩ => (nomatch e)⟩
end

/-! ### constants of the module -/
mutual
def kRep (K : PySem.W.Frag) : Nat → D → Value → Bool
  | _, .non, .none => true
  | _, .bl b, .bool c => b == c
  | _, .int i, .int j _ => decide (i = j)
  | _, .str x, .str y _ => decide (x = y)
  | n + 1, .tup ds, .ref a => (match K.lookup a with
    | some ⟨.type c, none, .seq its _, _⟩ => decide (c = "tuple") && (decide (its.size ≤ sizeLine) && kReps K n ds its.toList)
    | _ => false)
  | _, _, _ => false
def kReps (K : PySem.W.Frag) : Nat → List D → List Value → Bool
  | _, [], [] => true
  | n, d :: ds, v :: vs => kRep K n d v && kReps K n ds vs
  | _, _, _ => false
end
mutual
theorem kRep_ok {K : PySem.W.Frag} : ∀ {n : Nat} {d : D} {u : Value}, kRep K n d u = true → ∃ v, RelV v u ∧ ∀ H R, Rep K H R d v
  | _, .non, .none, _ => ⟨.non, rfl, fun _ _ => .non⟩
  | _, .bl b, .bool c, h => by
    have e : b = c := eq_of_beq (by unfold kRep at h; exact h)
    subst e
    exact ⟨.bl b, rfl, fun _ _ => .bl b⟩
  | _, .int i, .int j t, h => by
    have e : i = j := of_decide_eq_true (by unfold kRep at h; exact h)
    subst e
    exact ⟨.int i, ⟨t, rfl⟩, fun _ _ => .int i⟩
  | _, .str i, .str j t, h => by
    have e : i = j := of_decide_eq_true (by unfold kRep at h; exact h)
    subst e
    exact ⟨.str i, ⟨t, rfl⟩, fun _ _ => .str i⟩
  | n + 1, .tup ds, .ref a, h => by
    unfold kRep at h
    split at h
    · rename_i c its m osl q
      rw [Bool.and_eq_true, Bool.and_eq_true, decide_eq_true_eq, decide_eq_true_eq] at h
      obtain ⟨vs, h1, h2⟩ := kReps_ok h.2.2
      exact ⟨.ref a, rfl, fun H R => .tupK ⟨_, its, m, q, congrArg Value.type h.1, rfl, rfl, h.2.1, h1⟩ (h2 H R)⟩
    · cases h
theorem kReps_ok {K : PySem.W.Frag} : ∀ {n : Nat} {d : List D} {u : List Value}, kReps K n d u = true → ∃ v, Vals v u ∧ ∀ H R, Reps K H R d v
  | _, [], [], _ => ⟨[], .nil, fun _ _ => .nil⟩
  | n, d :: ds, v :: vs, h => by
    unfold kReps at h
    rw [Bool.and_eq_true] at h
    obtain ⟨v1, h1, h2⟩ := kRep_ok h.1
    obtain ⟨v2, h3, h4⟩ := kReps_ok h.2
    exact ⟨v1 :: v2, .cons h1 h3, fun H R => .cons (h2 H R) (h4 H R)⟩
end
/-- the module's name x stands for d -/
def conB (K : PySem.W.Frag) (x : Str) (d : D) : Bool := match PySem.W.nsIn K mainGlobals x with
  | some (some u) => kRep K 8 d u
  | _ => false
theorem con_of {K : PySem.W.Frag} {h : Heap} {mg : Str → Option Value} (X : K.In h) (G : h.Ns mainGlobals mg) {x : Str} {d : D} (c : conB K x d = true) : Con K mg x d := by
  unfold conB at c
  split at c
  · rename_i u q
    obtain ⟨v, h1, h2⟩ := kRep_ok c
    exact ⟨u, v, PySem.W.mg_of X G q, h1, h2⟩
  · cases c
end Ev

/-! The evaluator, part W: closures, in the form that the printed proofs name. -/
namespace Ev
open PySem PySem.Spec PyProof.Rows L2

/-- f(..), f a function value; b: the level is high enough -/
def eCallFh (b : Bool) (i : Nat) (h : Fe (List RV)) : Fe RV := fun ρ S => if b = true then eCallF i h ρ S else none
section
variable {X : Cx} {tb : Tbs} {e : Expr} {es : List Expr} {p pos : Pos} {x : Str} {f : Fe RV} {h : Fe (List RV)}
theorem CF (i : Nat) {b : Bool} {k : Nat} (F : FnsOk tb X.prog X.w X.K X.mg X.base k) (hr : b = true → Room k X.A) (ha : PA X (e :: es) (TAs tb X h)) (hN : X.N[i]? = some x := by rfl) (hv : Vis X.env.scope x := by first | exact .inl rfl | exact .inr (.inl rfl) | exact .inr (.inr rfl))
    (hd : (x == ("__debug__" : Str)) = false := by decide) (hcd : (x == ("__classdict__" : Str)) = false := by decide)
    (he : starEach (e :: es) X.env = (false, eval e X.env) :: starEach es X.env := by rfl) (hpl : (backTo pos (starEach es X.env)).any (·.1) = false := by rfl) :
    PE X (.Call (.Name x p) (e :: es) [] pos) (TV tb X (eCallFh b i h)) := by
  cases b with
  | false =>
    refine ⟨fun pins s σ H Q I q => ?_⟩
    obtain ⟨ρ, R, m, S, r, S', _, _, ev, _⟩ := q
    exact absurd ev (by unfold eCallFh; simp)
  | true => exact e_callF F (hr rfl) hN hv ha hd hcd he hpl
/-- a maker of closures: its code object, its table -/
structure Mkr (tb : Tbs) (mg : Str → Option Value) (base : Heap) (c : Addr) (nm : Nat → Nat → Str) : Prop where
  ex : ∃ P, LamX.TabB base mg c P ∧ (P, nm) ∈ tb.tabs ∧ ∀ p ∈ tb.tabs, p.2 = nm
theorem LM {c : Addr} {nm : Nat → Nat → Str} {params : Arguments} {body : Expr} {scope : Scope} {n : Nat} {fr : List Str} (M : Mkr tb X.mg X.base c nm) (hcode : X.env.code = .ref c := by rfl) (hn : nm pos.line pos.col = X.env.qual ++ "<lambda>" := by rfl)
    (hdef : defaultsOf params X.env = ([], []) := by rfl) (hnd : NdefX.ndefB X.env.scope scope fr = true := by kernel_rfl) : PE X (.Lambda params body scope pos) (tMk tb X (isLam X params body scope n fr)) := by
  obtain ⟨P, h1, h2, h3⟩ := M.ex
  exact e_lam h1 hcode h2 h3 hn hdef (NdefX.ndef_free hnd)
theorem KC {l : List IsC} (ha : PE X e (TV tb X f)) (hr : PA X es (TAc tb X h l)) (hs : starEach (e :: es) X.env = (false, eval e X.env) :: starEach es X.env := by rfl) : PA X (e :: es) (TAc tb X (aCons f h) l) := ac_cons ha hr hs
theorem KM {is : IsC} {l : List IsC} (ha : PE X e (tMk tb X is)) (hr : PA X es (TAc tb X aNil l)) (hs : starEach (e :: es) X.env = (false, eval e X.env) :: starEach es X.env := by rfl) : PA X (e :: es) (TAc tb X aNil (is :: l)) := ac_mk ha hr hs
theorem CC {k n : Nat} {l : List IsC} {ps : List Psi} {FF : List RV → Option PR} (c : Cal X.prog X.w X.K X.mg X.base k x (spF tb X.K n FF)) (hr : Room k X.A) (ha : PA X (e :: es) (TAc tb X h l)) (hP : Paired (fun is p => PsiOk tb X is p) l ps) (hfn : ∀ y, X.fn y = true := by intro _; rfl)
    (hg : Gl X x := by rfl) (hdb : (x == ("__debug__" : Str)) = false := by decide) (he : starEach (e :: es) X.env = (false, eval e X.env) :: starEach es X.env := by rfl) (hpl : (backTo pos (starEach es X.env)).any (·.1) = false := by rfl) :
    PE X (.Call (.Name x p) (e :: es) [] pos) (TV tb X (eCallC n FF ps (aD h))) := by
  obtain ⟨fa, fd, pn, F, h1, h2, h3⟩ := c.ex
  exact e_callC F hr hg h1 h2 h3 hfn ha hP hdb he hpl
end

/-! ### defs that get functions; defs that make closures -/
section
variable {P : Program} {w : World} {K : PySem.W.Frag} {mg : Str → Option Value} {base : Heap} {x qual : Str} {params : Arguments} {body : List Stmt} {scope : Scope} {f : Addr} {fd : FuncData} {N ps : List Str} {k : Nat} {Fb : Fs} {tb : Tbs}
theorem fnF (F : FunD K x qual params body scope [] [] f fd) (S : FnScope N ps scope)
    (hb : ∀ (cdv : Value) (A : Around) (outer : List Env) (s : Shared) (H : Hp) (E : XK), Room k (Bx P w K mg base N qual scope f cdv A outer s H E).A → PSs (Bx P w K mg base N qual scope f cdv A outer s H E) body (TSf tb (Bx P w K mg base N qual scope f cdv A outer s H E) Fb)) :
    FnOk P w K mg base CX0 (k + 1) f fd ps (spF tb K ps.length (runF N.length Fb)) := by
  refine F.ok S (fun vs H Q E h => ?_) fun cdv A outer s H vs Q E hr h => ⟨_, (hb cdv A outer s H E hr).nox, body_F (X := Bx P w K mg base N qual scope f cdv A outer s H E) (N := N) h⟩
  obtain ⟨R, ds, r, _, _, h1, h2, _⟩ := h
  rw [← h1.length, h2]
theorem fn0F {n : Nat} {ps : List Str} : FnOk P w K mg base CX0 k f fd ps (spF tb K n fun _ => none) :=
  ⟨(fun vs H Q E ⟨_, _, _, _, _, _, _, e, _⟩ => (nomatch e)), fun A outer s H args us vs Q E _ _ _ _ ⟨_, _, _, _, _, _, _, e, _⟩ => (nomatch e)⟩
/-- the body's context, the code object known -/
theorem FunD.okc {CX : CXT} {sp : Sp} {at_ : Str × Option Str} (F : FunD K x qual params body scope [] [] (He.fAd K at_) fd) (S : FnScope N ps scope) (len : ∀ vs H Q E, sp vs H Q E → vs.length = ps.length)
    (hbody : ∀ (A : Around) (outer : List Env) (s : Shared) (H : Hp) (vs : List L2.V) (Q : VK) (E : XK), Room k (A.deeper (envOfC qual scope s.heap.objs.size (He.fAd K at_) (.ref (He.codeOf K at_)))) → sp vs H Q E →
      ∃ t, PSs (cxOf CX P w K mg base N qual scope (He.fAd K at_) (.ref (He.codeOf K at_)) A outer s H E) body t ∧ t { nx := fun _ H' => Q .non H', rt := Q } (L2.start N vs) H) : FnOk P w K mg base CX (k + 1) (He.fAd K at_) fd ps sp := by
  obtain ⟨oc, od, dV, kV, doc, pm, an, cdv, ct, osl, rfl, lk, hcd, _, _⟩ := F.ex
  obtain ⟨c, hc⟩ := He.codeIn_ref hcd
  subst hc
  have e := He.codeOf_eq lk (c := c) rfl
  subst e
  exact fn_of lk hcd S len fun A outer s H vs Q E hr hsp => hbody A outer s H vs Q E hr hsp
theorem fnPc {at_ : Str × Option Str} (F : FunD K x qual params body scope [] [] (He.fAd K at_) fd) (S : FnScope N ps scope)
    (hb : ∀ (A : Around) (outer : List Env) (s : Shared) (H : Hp) (E : XK), Room k (Bx P w K mg base N qual scope (He.fAd K at_) (.ref (He.codeOf K at_)) A outer s H E).A → PSs (Bx P w K mg base N qual scope (He.fAd K at_) (.ref (He.codeOf K at_)) A outer s H E) body (TSf tb (Bx P w K mg base N qual scope (He.fAd K at_) (.ref (He.codeOf K at_)) A outer s H E) Fb)) :
    FnOk P w K mg base CX0 (k + 1) (He.fAd K at_) fd ps (spP tb K ps.length (runP N.length Fb)) := by
  refine FunD.okc F S (fun vs H Q E h => ?_) fun A outer s H vs Q E hr h => ⟨_, (hb A outer s H E hr).nox, body_P (X := Bx P w K mg base N qual scope (He.fAd K at_) (.ref (He.codeOf K at_)) A outer s H E) (N := N) h⟩
  obtain ⟨R, ds, r, _, _, h1, h2, _⟩ := h
  rw [← h1.length, h2]
theorem fnSc {at_ : Str × Option Str} (F : FunD K x qual params body scope [] [] (He.fAd K at_) fd) (S : FnScope N ps scope)
    (hb : ∀ (A : Around) (outer : List Env) (s : Shared) (H : Hp) (E : XK), Room k (Bx P w K mg base N qual scope (He.fAd K at_) (.ref (He.codeOf K at_)) A outer s H E).A → PSs (Bx P w K mg base N qual scope (He.fAd K at_) (.ref (He.codeOf K at_)) A outer s H E) body (TSf tb (Bx P w K mg base N qual scope (He.fAd K at_) (.ref (He.codeOf K at_)) A outer s H E) Fb)) :
    FnOk P w K mg base CX0 (k + 1) (He.fAd K at_) fd ps (spS tb P w K ps.length (runS N.length Fb)) := by
  refine FunD.okc F S (fun vs H Q E h => ?_) fun A outer s H vs Q E hr h => ⟨_, (hb A outer s H E hr).nox, body_S (X := Bx P w K mg base N qual scope (He.fAd K at_) (.ref (He.codeOf K at_)) A outer s H E) (N := N) h⟩
  obtain ⟨R, m, S, rs, r, S', _, h1, h2, _⟩ := h
  rw [← h1.length, h2]
/-- the tables at the law's entry -/
theorem tabs0 {tabs : List NdefX.NTab} {fn : Addr → Obj → Clo → (List (Option D) → List D → Option D) → Prop} {H : Hp} (h : ∀ p ∈ tabs, H p.1 = some (.tbl #[])) : TabsR ⟨tabs, fn⟩ H [] := fun p hp =>
  ⟨by simp, #[], h p hp, True.intro, fun pos cv hc => by
    have z : codeAmong pos [] = some cv := hc
    simp [codeAmong] at z⟩
end
end Ev

/-! The evaluator, part X: more built-ins. -/
namespace Ev
open PySem PySem.Spec PyProof.Rows L2

section
variable {X : Cx} {tb : Tbs} {e : Expr} {es : List Expr} {p pos : Pos} {tg a b c : Expr} {h : Fe (List RV)} {f g : Fe RV}
theorem rep3 {K : PySem.W.Frag} {H : Hp} {R m : List Addr} {x y z : RV} {vs : List L2.V} (h : RepVs tb K H R m [x, y, z] vs) : ∃ u v w, vs = [u, v, w] ∧ RepV tb K H R m x u ∧ RepV tb K H R m y v ∧ RepV tb K H R m z w := by
  cases h with
  | cons h1 t => cases t with
    | cons h2 t => cases t with
      | cons h3 t => cases t; exact ⟨_, _, _, rfl, h1, h2, h3⟩
/-! ### range(a, b, -1) -/
theorem rngD_at (lo : Int) {n i : Nat} (h : i < n) : (rngD lo n)[i]? = some (.int (lo - i)) := by
  unfold rngD
  simp [h]
theorem rngD_len (lo : Int) (n : Nat) : (rngD lo n).length = n := by unfold rngD; simp
theorem walkOK_rngD (lo : Int) (n : Nat) (H0 : Hp) (R0 m0 : List Addr) : WalkOK tb X lz (Itc lo (-1) n) ⟨rngD lo n, none⟩ H0 R0 m0 := by
  refine ⟨fun _ => True, YFn fun i => .int (lo + (i : Nat) * (-1)), by show Walk _ (rngD lo n).length _ _; rw [rngD_len]; exact walk_rangeC, fun _ _ _ _ _ _ _ => trivial, fun i H R m S x H' hi xt st ok y => ?_⟩
  obtain ⟨rfl, rfl⟩ := y
  rw [rngD_len] at hi
  have e : (lo + (i : Nat) * (-1) : Int) = lo - i := by omega
  refine ⟨_, rngD_at lo hi, .refl, st, ?_⟩
  refine .inl ?_
  show Rep X.K H' R (.int (lo - i)) (L2.V.int (lo + (i : Nat) * (-1)))
  rw [e]
  exact .int _
theorem i_range3 (hg : Gl X "range") (hm : X.mg "range" = none) (ha : PA X [a, b, c] (TAs tb X h)) (hs : starEach [a, b, c] X.env = (false, eval a X.env) :: starEach [b, c] X.env) (hpl : (backTo pos (starEach [b, c] X.env)).any (·.1) = false) : PI X tg (.Call (.Name "range" p) [a, b, c] [] pos) (TIs tb X lz (fMap h oR3)) :=
  pi_weak (pi_range3 hg hm ha hs hpl) fun σ H R' q => by
    obtain ⟨ρ, R, m, S, s, S', hE, hS, e, k⟩ := q
    obtain ⟨rs, e1, e2⟩ := fMap_some e
    refine ⟨ρ, R, m, S, rs, S', hE, hS, e1, fun vs H1 R1 m1 x1 s1 r1 => ?_⟩
    unfold oR3 at e2
    split at e2
    · split at e2
      · rename_i i j hj
        cases e2
        obtain ⟨v, u, w, rfl, hv, hu, hw⟩ := rep3 r1
        cases hv; cases hu; cases hw
        rw [Bool.and_eq_true] at hj
        have q1 := small62_ok hj.1
        have q2 := small62_ok hj.2
        exact ⟨i, j, -1, _, rfl, RgC.neg q1.1 q1.2 q2.1 q2.2, k _ _ _ _ x1 s1 (walkOK_rngD i _ _ _ _)⟩
      · cases e2
    · cases e2
theorem I_range3 (hm : X.mg "range" = none) (ha : PA X [a, b, c] (TAs tb X h)) (hg : Gl X "range" := by rfl) (hs : starEach [a, b, c] X.env = (false, eval a X.env) :: starEach [b, c] X.env := by rfl) (hpl : (backTo pos (starEach [b, c] X.env)).any (·.1) = false := by rfl) :
    PI X tg (.Call (.Name "range" p) [a, b, c] [] pos) (TIs tb X lz (fMap h oR3)) := i_range3 hg hm ha hs hpl

/-! ### tuple(range(..)), list(range(..)) -/
abbrev Fr := Env' → Sto → Option ((Int × Int) × Sto)
def fRg1 (f : Fe RV) : Fr := fMap f fun x _ => match x with
  | .d (.int j) => if (small62 j && decide (j ≤ 2 ^ 24)) = true then some (0, j) else none
  | _ => none
def fRg2 (f g : Fe RV) : Fr := fBind f fun x => fMap g fun y _ => match x, y with
  | .d (.int i), .d (.int j) => if (small62 i && small62 j && decide (j - i ≤ 2 ^ 24)) = true then some (i, j) else none
  | _, _ => none
theorem rgV_reps {K : PySem.W.Frag} {H : Hp} {R : List Addr} (i j : Int) : Reps K H R (rng i (j - i).toNat) (rgV i j) := by
  unfold rng rgV
  generalize (List.range (j - i).toNat) = l
  induction l with
  | nil => exact .nil
  | cons a l ih => exact .cons (.int _) ih
def TRg (tb : Tbs) (X : Cx) (f : Fr) (σ : L2.St) (H : Hp) (Q : Int → Int → Hp → Prop) : Prop := ∃ (ρ : Env') (R m : List Addr) (S : Sto) (r : Int × Int) (S' : Sto), RepE tb X.K H R m ρ σ ∧ Sim tb X.prog X.w X.K H R m S ∧ f ρ S = some (r, S') ∧
  ∀ H' R' m', Ext H R m H' R' m' → Sim tb X.prog X.w X.K H' R' m' S' → RgOk r.1 r.2 ∧ Q r.1 r.2 H'
theorem rg1 {σ : L2.St} {H : Hp} {Q : Int → Int → Hp → Prop} (q : TRg tb X (fRg1 f) σ H Q) : tRg1 (TV tb X f) σ H fun a b H1 => RgOk a b ∧ Q a b H1 := by
  obtain ⟨ρ, R, m, S, r, S', hE, hS, e, k⟩ := q
  obtain ⟨x, e1, e2⟩ := fMap_some e
  refine ⟨ρ, R, m, S, x, S', hE, hS, e1, fun v H1 R1 m1 x1 s1 r1 => ?_⟩
  split at e2
  · split at e2
    · cases e2
      cases r1
      exact ⟨_, rfl, k H1 R1 m1 x1 s1⟩
    · cases e2
  · cases e2
theorem fRg1_ok {ρ : Env'} {S S' : Sto} {r : Int × Int} (e : fRg1 f ρ S = some (r, S')) : RgOk r.1 r.2 := by
  obtain ⟨x, e1, e2⟩ := fMap_some e
  split at e2
  · split at e2
    · rename_i hj
      cases e2
      rw [Bool.and_eq_true, decide_eq_true_eq] at hj
      have q := small62_ok hj.1
      exact ⟨show -(2 ^ 62) ≤ (0 : Int) by decide, show (0 : Int) < 2 ^ 62 by decide, q.1, q.2, by have := hj.2; simp; omega⟩
    · cases e2
  · cases e2
theorem fRg2_ok {ρ : Env'} {S S' : Sto} {r : Int × Int} (e : fRg2 f g ρ S = some (r, S')) : RgOk r.1 r.2 := by
  obtain ⟨x, S1, e1, e2⟩ := fBind_some e
  obtain ⟨y, e3, e4⟩ := fMap_some e2
  split at e4
  · split at e4
    · rename_i hj
      cases e4
      rw [Bool.and_eq_true, Bool.and_eq_true, decide_eq_true_eq] at hj
      have q := small62_ok hj.1.1
      have q2 := small62_ok hj.1.2
      exact ⟨q.1, q.2, q2.1, q2.2, by have := hj.2; simp; omega⟩
    · cases e4
  · cases e4
theorem rg2 {σ : L2.St} {H : Hp} {Q : Int → Int → Hp → Prop} (q : TRg tb X (fRg2 f g) σ H Q) : tRg2 (TV tb X f) (TV tb X g) σ H fun a b H1 => RgOk a b ∧ Q a b H1 := by
  obtain ⟨ρ, R, m, S, r, S', hE, hS, e, k⟩ := q
  obtain ⟨x, S1, e1, e2⟩ := fBind_some e
  obtain ⟨y, e3, e4⟩ := fMap_some e2
  refine ⟨ρ, R, m, S, x, S1, hE, hS, e1, fun v H1 R1 m1 x1 s1 r1 => ?_⟩
  refine ⟨ρ, R1, m1, S1, y, S', hE.ext x1 hS.sub, s1, e3, fun v2 H2 R2 m2 x2 s2 r2 => ?_⟩
  split at e4
  · split at e4
    · cases e4
      cases r1
      cases r2
      exact ⟨_, _, rfl, rfl, k H2 R2 m2 (x1.trans x2) s2⟩
    · cases e4
  · cases e4
def lRg (f : Fr) : Fe (List D) := fMap f fun r _ => if (r.2 - r.1).toNat ≤ Lim then some (rng r.1 (r.2 - r.1).toNat) else none
def eRgT (f : Fr) : Fe RV := fMap f fun r _ => some (.d (.tup (rng r.1 (r.2 - r.1).toNat)))
structure PRgK (tb : Tbs) (X : Cx) (e : Expr) (f : Fr) : Prop where
  ex : ∃ te, PRg X e te ∧ (∀ (σ : L2.St) (H : Hp) (Q : Int → Int → Hp → Prop), TRg tb X f σ H Q → te σ H fun a b H1 => RgOk a b ∧ Q a b H1)
  ok : ∀ {ρ : Env'} {S S' : Sto} {r : Int × Int}, f ρ S = some (r, S') → RgOk r.1 r.2
theorem RG1 (hm : X.mg "range" = none) (ha : PE X a (TV tb X f)) (hg : Gl X "range" := by rfl) (na : starEach [a] X.env = (false, eval a X.env) :: starEach [] X.env := by rfl) : PRgK tb X (.Call (.Name "range" p) [a] [] pos) (fRg1 f) :=
  ⟨⟨_, prg_1 hg hm ha na, fun _ _ _ => rg1⟩, fRg1_ok⟩
theorem RG2 (hm : X.mg "range" = none) (ha : PE X a (TV tb X f)) (hb : PE X b (TV tb X g)) (hg : Gl X "range" := by rfl) (na : starEach [a, b] X.env = (false, eval a X.env) :: starEach [b] X.env := by rfl) (nb : starEach [b] X.env = (false, eval b X.env) :: starEach [] X.env := by rfl) (hp : (backTo pos (starEach [b] X.env)).any (·.1) = false := by rfl) :
    PRgK tb X (.Call (.Name "range" p) [a, b] [] pos) (fRg2 f g) := ⟨⟨_, prg_2 hg hm ha hb na nb hp, fun _ _ _ => rg2⟩, fRg2_ok⟩
theorem B_listRg {r : Fr} (hm : X.mg "list" = none) (he : PRgK tb X e r) (hc : X.calm = true := by rfl) (hg : Gl X "list" := by rfl) (na : starEach [e] X.env = (false, eval e X.env) :: starEach [] X.env := by rfl) : PE X (.Call (.Name "list" p) [e] [] pos) (TL tb X (lRg r)) := by
  obtain ⟨te, h1, h2⟩ := he.ex
  refine pe_weak (pe_listRg hc hg hm h1 na) fun σ H Q q => h2 σ H (fun a b H1 => ∀ q, H1 q = none → Q (.ref q) (upd H1 q (.lst (rgV a b)))) ?_
  obtain ⟨ρ, R, m, S, ds, S', hE, hS, e, k⟩ := q
  obtain ⟨z, e1, e2⟩ := fMap_some e
  split at e2
  · rename_i hl
    cases e2
    exact ⟨ρ, R, m, S, z, S', hE, hS, e1, fun H1 R1 m1 x1 s1 => ⟨he.ok e1, fun q hq => k q _ H1 R1 m1 x1 s1 hq (rgV_reps _ _) (by rw [rng_len]; exact hl)⟩⟩
  · cases e2
theorem B_tupRg {r : Fr} (hm : X.mg "tuple" = none) (he : PRgK tb X e r) (hc : X.calm = true := by rfl) (hg : Gl X "tuple" := by rfl) (na : starEach [e] X.env = (false, eval e X.env) :: starEach [] X.env := by rfl) : PE X (.Call (.Name "tuple" p) [e] [] pos) (TV tb X (eRgT r)) := by
  obtain ⟨te, h1, h2⟩ := he.ex
  refine pe_weak (pe_tupRgX hc hg hm h1 na) fun σ H Q q => h2 σ H (fun a b H1 => ∀ (q : Addr) (o : Obj), H1 q = none → o.dict = none → Q (.ref q) (upd H1 q (.frz o (.tup (rgV a b))))) ?_
  obtain ⟨ρ, R, m, S, ds, S', hE, hS, e, k⟩ := q
  obtain ⟨z, e1, e2⟩ := fMap_some e
  cases e2
  exact ⟨ρ, R, m, S, z, S', hE, hS, e1, fun H1 R1 m1 x1 s1 => ⟨he.ok e1, fun q o hq ho => k _ _ R1 m1 (x1.trans (.new hq)) (s1.new hq) (.tup ⟨o, ho, upd_same⟩ (s1.notR hq) ((rgV_reps _ _).ext (Ext.new (m := m1) hq) s1.sub))⟩⟩

/-! ### sorted, max, min of a list of ints -/
def insI (i : Int) : List Int → List Int
  | [] => [i]
  | j :: r => if i ≤ j then i :: j :: r else j :: insI i r
def srtI : List Int → List Int
  | [] => []
  | i :: r => insI i (srtI r)
theorem insI_perm (i : Int) : ∀ l : List Int, (insI i l).Perm (i :: l)
  | [] => .refl _
  | j :: r => by
    unfold insI
    split
    · exact .refl _
    · exact ((insI_perm i r).cons j).trans (.swap i j r)
theorem srtI_perm : ∀ l : List Int, (srtI l).Perm l
  | [] => .refl _
  | i :: r => (insI_perm i (srtI r)).trans ((srtI_perm r).cons i)
theorem insI_sorted (i : Int) : ∀ {l : List Int}, l.Pairwise (· ≤ ·) → (insI i l).Pairwise (· ≤ ·)
  | [], _ => by simp [insI]
  | j :: r, h => by
    obtain ⟨h1, h2⟩ := List.pairwise_cons.mp h
    unfold insI
    split
    · rename_i hij
      refine List.pairwise_cons.mpr ⟨fun a ha => ?_, h⟩
      rcases List.mem_cons.mp ha with rfl | ha
      · exact hij
      · exact Int.le_trans hij (h1 a ha)
    · rename_i hij
      refine List.pairwise_cons.mpr ⟨fun a ha => ?_, insI_sorted i h2⟩
      rcases List.mem_cons.mp ((insI_perm i r).mem_iff.mp ha) with rfl | ha
      · omega
      · exact h1 a ha
theorem srtI_sorted : ∀ l : List Int, (srtI l).Pairwise (· ≤ ·)
  | [] => .nil
  | i :: r => insI_sorted i (srtI_sorted r)
theorem sorted_uniq {a b : List Int} (p : a.Perm b) (ha : a.Pairwise (· ≤ ·)) (hb : b.Pairwise (· ≤ ·)) : a = b := p.eq_of_pairwise (fun x y _ _ h1 h2 => Int.le_antisymm h1 h2) ha hb
def bSrt : Ol := fun rs S => match rs with
  | [x] => (match lookL x S with
    | some ds => if ds.length ≤ Lim then (intsOf ds).map fun ns => (srtI ns).map D.int else none
    | none => none)
  | _ => none
theorem reps_intsI {K : PySem.W.Frag} {H : Hp} {R : List Addr} : ∀ (ns : List Int), Reps K H R (ns.map D.int) (ns.map L2.V.int)
  | [] => .nil
  | i :: r => .cons (.int i) (reps_intsI r)
theorem cl_srt : CaL tb X (rSortedI X.K) bSrt := by
  intro H R m S rs vs res hS hr e Q k
  unfold bSrt at e
  split at e
  · rename_i x
    split at e
    · rename_i ds hd
      split at e
      · rename_i hl
        obtain ⟨ns, h1, rfl⟩ := Option.map_eq_some_iff.mp e
        obtain ⟨v, rfl, hx⟩ := rep1 hr
        obtain ⟨a, us, rfl, h2, h3⟩ := lookL_view hS hx hd
        have e1 := intsOf_eq h1
        subst e1
        have e2 := reps_ints h3
        subst e2
        refine ⟨a, ns, rfl, h2, fun ns' p hp hs hn => ?_⟩
        have e3 : ns' = srtI ns := sorted_uniq (hp.trans (srtI_perm ns).symm) hs (srtI_sorted ns)
        subst e3
        exact k p _ hn (reps_intsI _) (by rw [List.length_map, (srtI_perm ns).length_eq]; rw [List.length_map] at hl; exact hl)
      · cases e
    · cases e
  · cases e
def bIntsO (gg : List Int → Option Int) : Oc := fun rs S => match rs with
  | [x] => (match lookL x S with
    | some ds => (intsOf ds).bind fun bs => (gg bs).map fun i => .d (.int i)
    | none => none)
  | _ => none
def maxI : List Int → Option Int
  | [] => none
  | i :: r => (match maxI r with
    | none => some i
    | some j => some (if i < j then j else i))
def minI : List Int → Option Int
  | [] => none
  | i :: r => (match minI r with
    | none => some i
    | some j => some (if j < i then j else i))
theorem maxI_spec : ∀ {l : List Int} {m : Int}, maxI l = some m → m ∈ l ∧ ∀ y ∈ l, y ≤ m
  | [], _, h => by cases h
  | i :: r, m, h => by
    unfold maxI at h
    split at h
    · rename_i hr
      cases h
      have : r = [] := by
        cases r with
        | nil => rfl
        | cons j r =>
          unfold maxI at hr
          split at hr <;> cases hr
      subst this
      simp
    · rename_i j hr
      obtain ⟨h1, h2⟩ := maxI_spec hr
      cases h
      split
      · exact ⟨List.mem_cons_of_mem _ h1, fun y hy => (List.mem_cons.mp hy).elim (fun z => by omega) fun z => h2 y z⟩
      · exact ⟨List.mem_cons_self, fun y hy => (List.mem_cons.mp hy).elim (fun z => by omega) fun z => by have := h2 y z; omega⟩
theorem minI_spec : ∀ {l : List Int} {m : Int}, minI l = some m → m ∈ l ∧ ∀ y ∈ l, m ≤ y
  | [], _, h => by cases h
  | i :: r, m, h => by
    unfold minI at h
    split at h
    · rename_i hr
      cases h
      have : r = [] := by
        cases r with
        | nil => rfl
        | cons j r =>
          unfold minI at hr
          split at hr <;> cases hr
      subst this
      simp
    · rename_i j hr
      obtain ⟨h1, h2⟩ := minI_spec hr
      cases h
      split
      · exact ⟨List.mem_cons_of_mem _ h1, fun y hy => (List.mem_cons.mp hy).elim (fun z => by omega) fun z => h2 y z⟩
      · exact ⟨List.mem_cons_self, fun y hy => (List.mem_cons.mp hy).elim (fun z => by omega) fun z => by have := h2 y z; omega⟩
theorem bIntsO_some {gg : List Int → Option Int} {K : PySem.W.Frag} {P : Program} {w : World} {H : Hp} {R m : List Addr} {S : Sto} {rs : List RV} {vs : List L2.V} {res : RV} (hS : Sim tb P w K H R m S) (hr : RepVs tb K H R m rs vs) (e : bIntsO gg rs S = some res) :
    ∃ (a : Addr) (bs : List Int) (i : Int), vs = [.ref a] ∧ SqL K H a (bs.map L2.V.int) ∧ gg bs = some i ∧ res = .d (.int i) := by
  unfold bIntsO at e
  split at e
  · split at e
    · rename_i ds hd
      obtain ⟨bs, h1, h2⟩ := bind_some e
      obtain ⟨i, h4, rfl⟩ := Option.map_eq_some_iff.mp h2
      obtain ⟨v, rfl, hx⟩ := rep1 hr
      obtain ⟨a, us, rfl, h5, h6⟩ := lookL_view hS hx hd
      have e1 := intsOf_eq h1
      subst e1
      have e2 := reps_ints h6
      subst e2
      exact ⟨a, bs, i, rfl, h5, h4, rfl⟩
    · cases e
  · cases e
theorem cv_maxL : CaV tb X (rMax X.K) (bIntsO maxI) := by
  intro H R m S rs vs res hS hr e Q k
  obtain ⟨a, bs, i, rfl, h1, h2, rfl⟩ := bIntsO_some hS hr e
  obtain ⟨h3, h4⟩ := maxI_spec h2
  refine ⟨a, bs, rfl, h1, List.length_pos_of_mem h3, fun z hz hy => ?_⟩
  rw [show z = i from Int.le_antisymm (h4 z hz) (hy i h3)]
  exact k _ _ .refl hS (.int _)
theorem cv_minL : CaV tb X (rMin X.K) (bIntsO minI) := by
  intro H R m S rs vs res hS hr e Q k
  obtain ⟨a, bs, i, rfl, h1, h2, rfl⟩ := bIntsO_some hS hr e
  obtain ⟨h3, h4⟩ := minI_spec h2
  refine ⟨a, bs, rfl, h1, List.length_pos_of_mem h3, fun z hz hy => ?_⟩
  rw [show z = i from Int.le_antisymm (hy i h3) (h4 z hz)]
  exact k _ _ .refl hS (.int _)
theorem B_sorted (hm : X.mg "sorted" = none) (ha : PA X (e :: es) (TAs tb X h)) (hg : Gl X "sorted" := by rfl) (he : starEach (e :: es) X.env = (false, eval e X.env) :: starEach es X.env := by rfl) (hpl : (backTo pos (starEach es X.env)).any (·.1) = false := by rfl) :
    PE X (.Call (.Name "sorted" p) (e :: es) [] pos) (TL tb X (lCall bSrt h)) := pe_weak (pe_callB cr_sortedI hg hm (by decide +kernel) ha (he := he) (hpl := hpl)) fun _ _ _ => tl_call cl_srt
theorem B_maxL (hm : X.mg "max" = none) (ha : PA X (e :: es) (TAs tb X h)) (hc : X.calm = true := by rfl) (hg : Gl X "max" := by rfl) (he : starEach (e :: es) X.env = (false, eval e X.env) :: starEach es X.env := by rfl) (hpl : (backTo pos (starEach es X.env)).any (·.1) = false := by rfl) :
    PE X (.Call (.Name "max" p) (e :: es) [] pos) (TV tb X (eCall (bIntsO maxI) h)) := pe_weak (pe_callB (cr_max hc) hg hm (by decide +kernel) ha (he := he) (hpl := hpl)) fun _ _ _ => tv_call cv_maxL
theorem B_minL (hm : X.mg "min" = none) (ha : PA X (e :: es) (TAs tb X h)) (hc : X.calm = true := by rfl) (hg : Gl X "min" := by rfl) (he : starEach (e :: es) X.env = (false, eval e X.env) :: starEach es X.env := by rfl) (hpl : (backTo pos (starEach es X.env)).any (·.1) = false := by rfl) :
    PE X (.Call (.Name "min" p) (e :: es) [] pos) (TV tb X (eCall (bIntsO minI) h)) := pe_weak (pe_callB (cr_min hc) hg hm (by decide +kernel) ha (he := he) (hpl := hpl)) fun _ _ _ => tv_call cv_minL
end
end Ev

/-! The evaluator, part Y: sum, sorted, max, min of lists and of tuples of ints. -/
namespace Ev
open PySem PySem.Spec PyProof.Rows L2
open PySem.W (AlikeAll maxD minD maxD_ints minD_ints max_list_data max_tuple_data min_list_data min_tuple_data max_list_default max_tuple_default)

section
variable {X : Cx} {tb : Tbs} {e d : Expr} {es : List Expr} {p pos kpos : Pos} {h : Fe (List RV)} {f g : Fe RV}
/-- what stands at a: a list or a tuple -/
def SqQ (K : PySem.W.Frag) (H : Hp) (a : Addr) (xs : List L2.V) : Prop := SqL K H a xs ∨ SqT K H a xs
def intsQ (rs : List RV) (S : Sto) : Option (List Int) := match rs with
  | [x] => (lookQ x S).bind intsOf
  | _ => none
theorem intsQ_view {K : PySem.W.Frag} {P : Program} {w : World} {H : Hp} {R m : List Addr} {S : Sto} {rs : List RV} {vs : List L2.V} {ns : List Int} (hS : Sim tb P w K H R m S) (hr : RepVs tb K H R m rs vs) (e : intsQ rs S = some ns) :
    ∃ a, vs = [.ref a] ∧ SqQ K H a (ns.map L2.V.int) := by
  unfold intsQ at e
  split at e
  · obtain ⟨ds, h1, h2⟩ := bind_some e
    obtain ⟨v, rfl, hx⟩ := rep1 hr
    obtain ⟨a, us, rfl, h3, h4⟩ := lookQ_view hS hx h1
    have e1 := intsOf_eq h2
    subst e1
    have e2 := reps_ints h4
    subst e2
    exact ⟨a, rfl, h3⟩
  · cases e
def bQ (gg : List Int → Option Int) : Oc := fun rs S => (intsQ rs S).bind fun ns => (gg ns).map fun i => .d (.int i)
theorem bQ_some {gg : List Int → Option Int} {K : PySem.W.Frag} {P : Program} {w : World} {H : Hp} {R m : List Addr} {S : Sto} {rs : List RV} {vs : List L2.V} {res : RV} (hS : Sim tb P w K H R m S) (hr : RepVs tb K H R m rs vs) (e : bQ gg rs S = some res) :
    ∃ (a : Addr) (ns : List Int) (i : Int), vs = [.ref a] ∧ SqQ K H a (ns.map L2.V.int) ∧ gg ns = some i ∧ res = .d (.int i) := by
  obtain ⟨ns, h1, h2⟩ := bind_some e
  obtain ⟨i, h3, rfl⟩ := Option.map_eq_some_iff.mp h2
  obtain ⟨a, h4, h5⟩ := intsQ_view hS hr h1
  exact ⟨a, ns, i, h4, h5, h3, rfl⟩

/-! ### sum -/
def rSumQ (K : PySem.W.Frag) : List L2.V → Hp → VK → Prop := fun vs H Q => ∃ (a : Addr) (ns : List Int), vs = [L2.V.ref a] ∧ SqQ K H a (ns.map L2.V.int) ∧ Q (.int ns.sum) H
theorem cr_sumQ (hc : X.calm = true) : CallR X (.builtin "sum") (rSumQ X.K) := by
  intro pins s σ H vs us Q I r h
  obtain ⟨a, ns, rfl, hs, q⟩ := h
  rcases hs with hs | hs
  · exact cr_sum hc pins s σ H _ us Q I r ⟨a, ns, rfl, hs, q⟩
  · obtain ⟨its, rv, ht, _⟩ := I.tuple hs
    rw [Vals.ref1 r]
    have hi := rv.ints
    obtain ⟨xs, e⟩ := hi.allInts.items
    have hn : numsOf (intItems xs).toList = ns := by rw [← e]; exact hi.numsOf
    rw [nums_intItems] at hn
    have ht' : s.heap.IsTuple a its.toArray := ht
    rw [e] at ht'
    refine PySem.W.ktm_sumG (I.ok.hd hc) ht' fun h' tk t' hk => ?_
    rw [preSum_eq, List.take_of_length_le (by simp), hn]
    exact ⟨.int _, H, I.kept hk, ⟨_, rfl⟩, q⟩
theorem cv_sumQ : CaV tb X (rSumQ X.K) (bQ fun ns => some ns.sum) := by
  intro H R m S rs vs res hS hr e Q k
  obtain ⟨a, ns, i, rfl, h1, h2, rfl⟩ := bQ_some hS hr e
  cases h2
  exact ⟨a, ns, rfl, h1, k _ _ .refl hS (.int _)⟩
theorem B_sumQ (hm : X.mg "sum" = none) (ha : PA X (e :: es) (TAs tb X h)) (hc : X.calm = true := by rfl) (hg : Gl X "sum" := by rfl) (he : starEach (e :: es) X.env = (false, eval e X.env) :: starEach es X.env := by rfl) (hpl : (backTo pos (starEach es X.env)).any (·.1) = false := by rfl) :
    PE X (.Call (.Name "sum" p) (e :: es) [] pos) (TV tb X (eCall (bQ fun ns => some ns.sum) h)) := pe_weak (pe_callB (cr_sumQ hc) hg hm (by decide +kernel) ha (he := he) (hpl := hpl)) fun _ _ _ => tv_call cv_sumQ

/-! ### max, min, by data -/
theorem reads_ints {hp : Heap} : ∀ {vs : List Value} {ns : List Int}, IntsAre vs ns → ∃ as, ReadsAll hp vs (ns.map PyData.int) as
  | _, _, .nil => ⟨_, .nil⟩
  | _, _, .cons n t r => let ⟨_, q⟩ := reads_ints r; ⟨_, .cons (.int n t) q⟩
theorem alike_intsA (ns : List Int) : AlikeAll (ns.map PyData.int) := by
  refine ⟨fun x hx y hy => ?_, fun x hx => ?_⟩
  · obtain ⟨i, _, rfl⟩ := List.mem_map.mp hx
    obtain ⟨j, _, rfl⟩ := List.mem_map.mp hy
    rfl
  · obtain ⟨i, _, rfl⟩ := List.mem_map.mp hx
    intro z
    cases z
theorem depth_ints : ∀ ns : List Int, PyData.depthAll (ns.map PyData.int) ≤ 1
  | [] => by simp [PyData.depthAll]
  | n :: ns => by
    have := depth_ints ns
    simp only [List.map_cons, PyData.depthAll, PyData.depth]
    omega
theorem maxI_fold (n : Int) : ∀ ns : List Int, maxI (n :: ns) = some (ns.foldl max n) := by
  have key : ∀ (ns : List Int) (n : Int), (ns.foldl max n ∈ n :: ns) ∧ ∀ y ∈ n :: ns, y ≤ ns.foldl max n := by
    intro ns
    induction ns with
    | nil => intro n; simp
    | cons a ns ih =>
      intro n
      obtain ⟨h1, h2⟩ := ih (max n a)
      rw [List.foldl_cons]
      refine ⟨?_, fun y hy => ?_⟩
      · rcases List.mem_cons.mp h1 with e | e
        · rw [e]
          by_cases q : n ≤ a
          · rw [Int.max_eq_right q]; simp
          · rw [Int.max_eq_left (by omega)]; simp
        · exact List.mem_cons_of_mem _ (List.mem_cons_of_mem _ e)
      · have h3 := h2 (max n a) List.mem_cons_self
        rcases List.mem_cons.mp hy with rfl | hy
        · omega
        · rcases List.mem_cons.mp hy with rfl | hy
          · omega
          · exact h2 y (List.mem_cons_of_mem _ hy)
  intro ns
  cases e : maxI (n :: ns) with
  | none =>
    unfold maxI at e
    split at e <;> cases e
  | some m =>
    obtain ⟨h1, h2⟩ := maxI_spec e
    obtain ⟨h3, h4⟩ := key ns n
    exact congrArg some (Int.le_antisymm (h4 m h1) (h2 _ h3))
theorem minI_fold (n : Int) : ∀ ns : List Int, minI (n :: ns) = some (ns.foldl min n) := by
  have key : ∀ (ns : List Int) (n : Int), (ns.foldl min n ∈ n :: ns) ∧ ∀ y ∈ n :: ns, ns.foldl min n ≤ y := by
    intro ns
    induction ns with
    | nil => intro n; simp
    | cons a ns ih =>
      intro n
      obtain ⟨h1, h2⟩ := ih (min n a)
      rw [List.foldl_cons]
      refine ⟨?_, fun y hy => ?_⟩
      · rcases List.mem_cons.mp h1 with e | e
        · rw [e]
          by_cases q : n ≤ a
          · rw [Int.min_eq_left q]; simp
          · rw [Int.min_eq_right (by omega)]; simp
        · exact List.mem_cons_of_mem _ (List.mem_cons_of_mem _ e)
      · have h3 := h2 (min n a) List.mem_cons_self
        rcases List.mem_cons.mp hy with rfl | hy
        · omega
        · rcases List.mem_cons.mp hy with rfl | hy
          · omega
          · exact h2 y (List.mem_cons_of_mem _ hy)
  intro ns
  cases e : minI (n :: ns) with
  | none =>
    unfold minI at e
    split at e <;> cases e
  | some m =>
    obtain ⟨h1, h2⟩ := minI_spec e
    obtain ⟨h3, h4⟩ := key ns n
    exact congrArg some (Int.le_antisymm (h2 _ h3) (h4 m h1))
def rMaxQ (K : PySem.W.Frag) (gg : List Int → Option Int) : List L2.V → Hp → VK → Prop := fun vs H Q => ∃ (a : Addr) (ns : List Int) (i : Int), vs = [L2.V.ref a] ∧ SqQ K H a (ns.map L2.V.int) ∧ gg ns = some i ∧ Q (.int i) H
theorem reads_int_inv {hp : Heap} {v : Value} {i : Int} {bs : List Addr} (r : Reads hp v (.int i) bs) : L2.RelV (.int i) v := by
  cases r
  exact ⟨_, rfl⟩
theorem cr_maxQ (hc : X.calm = true) (hu : X.A.units + 65 < cLine) : CallR X (.builtin "max") (rMaxQ X.K maxI) := by
  intro pins s σ H vs us Q I r h
  obtain ⟨a, ns, i, rfl, hs, hg, q⟩ := h
  rw [Vals.ref1 r]
  cases ns with
  | nil => cases hg
  | cons n ns =>
    rw [maxI_fold] at hg
    cases hg
    have dp := depth_ints (n :: ns)
    rcases hs with hs | hs
    · obtain ⟨its, rv, hl, _⟩ := I.list hs
      obtain ⟨as, hr⟩ := reads_ints (hp := s.heap) rv.ints
      refine max_list_data (x := .int n) (xs := ns.map .int) (I.ok.hd hc) hl.isList hr (alike_intsA (n :: ns)) (by show X.A.units + 1 + PyData.depthAll ((n :: ns).map PyData.int) < cLine; omega) fun j v h' tk bs e1 r1 hk => ?_
      rw [maxD_ints] at r1
      exact ⟨_, H, I.kept hk, reads_int_inv r1, q⟩
    · obtain ⟨its, rv, ht, _⟩ := I.tuple hs
      obtain ⟨as, hr⟩ := reads_ints (hp := s.heap) rv.ints
      refine max_tuple_data (x := .int n) (xs := ns.map .int) (I.ok.hd hc) ht hr (alike_intsA (n :: ns)) (by show X.A.units + 1 + PyData.depthAll ((n :: ns).map PyData.int) < cLine; omega) fun j v h' tk bs e1 r1 hk => ?_
      rw [maxD_ints] at r1
      exact ⟨_, H, I.kept hk, reads_int_inv r1, q⟩
theorem cr_minQ (hc : X.calm = true) (hu : X.A.units + 65 < cLine) : CallR X (.builtin "min") (rMaxQ X.K minI) := by
  intro pins s σ H vs us Q I r h
  obtain ⟨a, ns, i, rfl, hs, hg, q⟩ := h
  rw [Vals.ref1 r]
  cases ns with
  | nil => cases hg
  | cons n ns =>
    rw [minI_fold] at hg
    cases hg
    have dp := depth_ints (n :: ns)
    rcases hs with hs | hs
    · obtain ⟨its, rv, hl, _⟩ := I.list hs
      obtain ⟨as, hr⟩ := reads_ints (hp := s.heap) rv.ints
      refine min_list_data (x := .int n) (xs := ns.map .int) (I.ok.hd hc) hl.isList hr (alike_intsA (n :: ns)) (by show X.A.units + 1 + PyData.depthAll ((n :: ns).map PyData.int) < cLine; omega) fun j v h' tk bs e1 r1 hk => ?_
      rw [minD_ints] at r1
      exact ⟨_, H, I.kept hk, reads_int_inv r1, q⟩
    · obtain ⟨its, rv, ht, _⟩ := I.tuple hs
      obtain ⟨as, hr⟩ := reads_ints (hp := s.heap) rv.ints
      refine min_tuple_data (x := .int n) (xs := ns.map .int) (I.ok.hd hc) ht hr (alike_intsA (n :: ns)) (by show X.A.units + 1 + PyData.depthAll ((n :: ns).map PyData.int) < cLine; omega) fun j v h' tk bs e1 r1 hk => ?_
      rw [minD_ints] at r1
      exact ⟨_, H, I.kept hk, reads_int_inv r1, q⟩
theorem cv_rMaxQ {gg : List Int → Option Int} : CaV tb X (rMaxQ X.K gg) (bQ gg) := by
  intro H R m S rs vs res hS hr e Q k
  obtain ⟨a, ns, i, rfl, h1, h2, rfl⟩ := bQ_some hS hr e
  exact ⟨a, ns, i, rfl, h1, h2, k _ _ .refl hS (.int _)⟩
theorem B_maxQ (hu : X.A.units + 65 < cLine) (hm : X.mg "max" = none) (ha : PA X (e :: es) (TAs tb X h)) (hc : X.calm = true := by rfl) (hg : Gl X "max" := by rfl) (he : starEach (e :: es) X.env = (false, eval e X.env) :: starEach es X.env := by rfl) (hpl : (backTo pos (starEach es X.env)).any (·.1) = false := by rfl) :
    PE X (.Call (.Name "max" p) (e :: es) [] pos) (TV tb X (eCall (bQ maxI) h)) := pe_weak (pe_callB (cr_maxQ hc hu) hg hm (by decide +kernel) ha (he := he) (hpl := hpl)) fun _ _ _ => tv_call cv_rMaxQ
theorem B_minQ (hu : X.A.units + 65 < cLine) (hm : X.mg "min" = none) (ha : PA X (e :: es) (TAs tb X h)) (hc : X.calm = true := by rfl) (hg : Gl X "min" := by rfl) (he : starEach (e :: es) X.env = (false, eval e X.env) :: starEach es X.env := by rfl) (hpl : (backTo pos (starEach es X.env)).any (·.1) = false := by rfl) :
    PE X (.Call (.Name "min" p) (e :: es) [] pos) (TV tb X (eCall (bQ minI) h)) := pe_weak (pe_callB (cr_minQ hc hu) hg hm (by decide +kernel) ha (he := he) (hpl := hpl)) fun _ _ _ => tv_call cv_rMaxQ

/-! ### max(.., default=d) -/
def rMaxDf (K : PySem.W.Frag) : List L2.V → List L2.V → Hp → VK → Prop := fun vs zs H Q => ∃ (a : Addr) (ns : List Int) (d : Int), vs = [L2.V.ref a] ∧ zs = [.int d] ∧ SqQ K H a (ns.map L2.V.int) ∧ Q (.int ((maxI ns).getD d)) H
theorem vals1 {v : L2.V} {us : List Value} (r : Vals [v] us) : ∃ u, us = [u] ∧ L2.RelV v u := by
  cases r with
  | cons h t => cases t; exact ⟨_, rfl, h⟩
theorem cr_maxDf (hc : X.calm = true) (hu : X.A.units + 65 < cLine) : CallRK X (.builtin "max") [("default" : Str)] (rMaxDf X.K) := by
  intro pins s σ H vs zs us ws Q I r rz h
  obtain ⟨a, ns, d, rfl, rfl, hs, q⟩ := h
  rw [Vals.ref1 r]
  obtain ⟨u, rfl, ru⟩ := vals1 rz
  have dp := depth_ints ns
  have one : ∀ (y : PyData) (ys : List PyData) (v : Value) (h' : Heap) (tk : Nat) (bs : List Addr), ns.map PyData.int = y :: ys → Reads h' v (maxD y ys) bs → (∀ b o, s.heap.get? b = some o → h'.get? b = some o) → EP X pins σ Q v { s with heap := h', toks := tk } := by
    intro y ys v h' tk bs e r1 hk
    cases ns with
    | nil => cases e
    | cons n ns =>
      cases e
      rw [maxD_ints] at r1
      rw [maxI_fold] at q
      exact ⟨_, H, I.kept hk, reads_int_inv r1, q⟩
  have zero : ns.map PyData.int = [] → ∀ (h' : Heap) (tk : Nat), (∀ b o, s.heap.get? b = some o → h'.get? b = some o) → EP X pins σ Q u { s with heap := h', toks := tk } := by
    intro e h' tk hk
    cases ns with
    | nil => exact ⟨_, H, I.kept hk, ru, q⟩
    | cons n ns => cases e
  rcases hs with hs | hs
  · obtain ⟨its, rv, hl, _⟩ := I.list hs
    obtain ⟨as, hr⟩ := reads_ints (hp := s.heap) rv.ints
    exact max_list_default (I.ok.hd hc) hl.isList hr (alike_intsA ns) (by omega) (fun e h' tk hk => zero e h' tk hk) fun y ys j v h' tk bs e _ r1 hk => one y ys v h' tk bs e r1 hk
  · obtain ⟨its, rv, ht, _⟩ := I.tuple hs
    obtain ⟨as, hr⟩ := reads_ints (hp := s.heap) rv.ints
    exact max_tuple_default (I.ok.hd hc) ht hr (alike_intsA ns) (by omega) (fun e h' tk hk => zero e h' tk hk) fun y ys j v h' tk bs e _ r1 hk => one y ys v h' tk bs e r1 hk
def eMaxDf (h : Fe (List RV)) (g : Fe RV) : Fe RV := fBind h fun rs => fMap g fun y S => match y with
  | .d (.int d) => (intsQ rs S).map fun ns => .d (.int ((maxI ns).getD d))
  | _ => none
theorem B_maxDf (hu : X.A.units + 65 < cLine) (hm : X.mg "max" = none) (ha : PA X (e :: es) (TAs tb X h)) (hd : PE X d (TV tb X g)) (hc : X.calm = true := by rfl) (hg : Gl X "max" := by rfl)
    (he : backTo pos (starEach (e :: es) X.env) = (false, eval e X.env) :: backTo pos (starEach es X.env) := by rfl) (hpl : (backTo pos (starEach (e :: es) X.env)).any (·.1) = false := by rfl)
    (hall : (backToKw pos (keywordEach [⟨some "default", d, kpos⟩] X.env)).all (·.1.isSome) = true := by rfl) (hnone : (backToKw pos (keywordEach [⟨some "default", d, kpos⟩] X.env)).any (·.1.isNone) = false := by rfl) (hks : (backToKw pos (keywordEach [⟨some "default", d, kpos⟩] X.env)).filterMap (·.1) = [("default" : Str)] := by rfl) :
    PE X (.Call (.Name "max" p) (e :: es) [⟨some "default", d, kpos⟩] pos) (TV tb X (eMaxDf h g)) :=
  pe_weak (pe_callBK (cr_maxDf hc hu) hg hm (by decide +kernel) ha (pk_cons hd pk_nil) (he := he) (hpl := hpl) (hall := hall) (hnone := hnone) (hks := hks)) fun σ H Q q => by
    obtain ⟨ρ, R, m, S, r, S', hE, hS, ev, k⟩ := q
    obtain ⟨rs, S1, e1, e2⟩ := fBind_some ev
    obtain ⟨y, e3, e4⟩ := fMap_some e2
    refine ⟨ρ, R, m, S, rs, S1, hE, hS, e1, fun vs H1 R1 m1 x1 s1 r1 => ?_⟩
    refine ⟨ρ, R1, m1, S1, y, S', hE.ext x1 hS.sub, s1, e3, fun v H2 R2 m2 x2 s2 r2 => ?_⟩
    show rMaxDf X.K vs (v :: []) H2 Q
    split at e4
    · obtain ⟨ns, e5, rfl⟩ := Option.map_eq_some_iff.mp e4
      have r1' : RepVs tb X.K H2 R2 m2 rs vs := r1.ext x2 s1.sub
      obtain ⟨a, rfl, h1⟩ := intsQ_view s2 r1' e5
      cases r2
      exact ⟨a, ns, _, rfl, rfl, h1, k _ H2 R2 m2 (x1.trans x2) s2 (.int _)⟩
    · cases e4
end
end Ev

/-! The evaluator, part Z: sorted of a tuple of ints. -/
namespace Ev
open PySem PySem.Spec PyProof.Rows L2
section
variable {prog : Program} {w : World} {A : Around} {E : Value → Shared → Prop} {s : Shared}
theorem collect_tup {l : Addr} {vs : List Value} {Q : List Value → Shared → Prop} (hl : s.heap.IsTuple l vs.toArray)
    (h : Q vs { s with heap := (s.heap.push (seqObj "list" #[] 0)).update s.heap.objs.size (Obj.mapSeq (· ++ vs.toArray)) }) (hsz : vs.length ≤ sizeLine) :
    wpAny (model prog w) A (collect (.ref l)) Q E s := by
  obtain ⟨o, ho, hc, n, hd⟩ := id hl
  unfold collect
  refine wpAny_bind (wpAny_runValue (codeAny_builtin entry_proto_collect' ?_))
  show wpAny _ _ (do again (.builtin "list.__iadd__" ⟨[← newList [], .ref l], []⟩)) _ _ s
  refine wpAny_bind (wpAny_newList (wpAny_pure ⟨Code.quiet_builtin _ (by decide +kernel), codeAny_builtin entry_list_iadd' ?_⟩))
  show wpAny _ _ (Builtin.List.listExtendWith (.ref s.heap.objs.size) (.ref l) (.ref s.heap.objs.size)) _ _ { s with heap := s.heap.push (seqObj "list" #[] 0) }
  unfold Builtin.List.listExtendWith
  have ho' : (s.heap.push (seqObj "list" #[] 0)).get? l = some o := Heap.get?_push_of_some _ ho
  refine wpAny_bind (wpAny_typeOf (T := "tuple") ⟨o, ho', hc⟩ ?_)
  have ht : (Value.type "tuple" == Value.type "tuple") = true := by rfl
  rw [if_pos (by rw [ht]; simp)]
  refine wpAny_bind (listItems_at ho' hd ?_)
  refine wpAny_bind (listItems_at (xs := #[]) (n := 0) (Heap.get?_push_size _ rfl) rfl ?_)
  rw [if_neg (by simp)]
  refine wpAny_bind (listUpdate_at (xs := #[]) (n := 0) (Heap.get?_push_size _ rfl) rfl ?_ (Nat.zero_le _) (by show (#[] ++ vs.toArray).size ≤ sizeLine + 1; simp only [Array.size_append, List.size_toArray, List.length_nil]; omega))
  refine wpAny_pure ?_
  show wpAny (model prog w) A (do
      let o ← load s.heap.objs.size
      match o.data with
      | .seq xs _ => pure xs.toList
      | _ => unsupported "internal:collect") Q E { s with heap := (s.heap.push (seqObj "list" #[] 0)).update s.heap.objs.size (Obj.mapSeq (· ++ vs.toArray)) }
  refine wpAny_bind (wpAny_load (get?_update_seq (Heap.get?_push_size _ rfl) _) ?_)
  show wpAny _ _ (pure ((#[] : Array Value) ++ vs.toArray).toList) Q E _
  rw [show ((#[] : Array Value) ++ vs.toArray).toList = vs by simp]
  exact wpAny_pure h
open SrtO in
theorem sorted_ordT {l : Addr} {vs : List Value} {ltv : Value → Value → Bool} {Q : Value → Shared → Prop} (O : Swo ltv) (hl : s.heap.IsTuple l vs.toArray) (hz : vs.length ≤ sizeLine)
    (hS : 2 ≤ vs.length → ∀ (h₁ : Heap) (a : Addr), h₁.get? a = some (seqObj "list" vs.toArray 0) → (∀ b o, s.heap.get? b = some o → b ≠ a ∧ h₁.get? b = some o) → SortableO prog w A.in1.in1 { s with heap := h₁ } a vs ltv)
    (h : ∀ out : List Value, Srtd ltv out → Stb ltv out vs → Q (.ref (s.heap.objs.size + 1)) { s with heap := sortedAll s.heap vs out.toArray }) :
    wpAny (model prog w) A (call (.builtin "sorted") [.ref l]) Q E s := by
  refine Calls.call_function_entry kind_sorted plain_sorted entry_sorted (args_sorted1 _) ?_
  unfold Builtin.«sorted»
  refine wpAny_bind (m := checkCount "sorted" 1 1 _) (wpAny_pure ?_)
  refine wpAny_bind (collect_tup hl ?_ hz)
  refine wpAny_bind (wpAny_newList ?_ hz)
  have hsz : ((s.heap.push (seqObj "list" #[] 0)).update s.heap.objs.size (Obj.mapSeq (· ++ vs.toArray))).objs.size = s.heap.objs.size + 1 := by
    rw [Heap.size_update, size_push']
  have hoL : (((s.heap.push (seqObj "list" #[] 0)).update s.heap.objs.size (Obj.mapSeq (· ++ vs.toArray))).push (seqObj "list" vs.toArray 0)).get? (s.heap.objs.size + 1) = some (seqObj "list" vs.toArray 0) := by
    rw [← hsz]; exact Heap.get?_push_size _ rfl
  have keep : ∀ b o, s.heap.get? b = some o → b ≠ s.heap.objs.size + 1 ∧ (((s.heap.push (seqObj "list" #[] 0)).update s.heap.objs.size (Obj.mapSeq (· ++ vs.toArray))).push (seqObj "list" vs.toArray 0)).get? b = some o := fun b o q => by
    have hlt : b < s.heap.objs.size := Heap.lt_size q
    refine ⟨Nat.ne_of_lt (Nat.lt_succ_of_lt hlt), Heap.get?_push_of_some _ ?_⟩
    rw [Heap.get?_update_ne _ _ _ _ (Nat.ne_of_lt hlt)]
    exact Heap.get?_push_of_some _ q
  show wpAny _ _ _ _ _ { s with heap := ((s.heap.push (seqObj "list" #[] 0)).update s.heap.objs.size (Obj.mapSeq (· ++ vs.toArray))).push (seqObj "list" vs.toArray 0) }
  rw [hsz]
  refine wpAny_bind (wpAny_holding (wpAny_call_entry slot_list_sort ⟨_, hoL, rfl⟩ entry_list_sort (list_sort_ord O hoL hz (fun h2 => hS h2 _ _ hoL keep) fun out hs hb => ⟨_, rfl, ?_⟩) (args_list_sort _)))
  exact wpAny_pure ⟨_, rfl, h out hs hb⟩
end
section
variable {X : Cx} {tb : Tbs} {e : Expr} {es : List Expr} {p pos : Pos} {h : Fe (List RV)}
def rSortedQ (K : PySem.W.Frag) : List L2.V → Hp → VK → Prop := fun vs H Q => ∃ (a : Addr) (ns : List Int), vs = [L2.V.ref a] ∧ SqQ K H a (ns.map L2.V.int) ∧ ∀ (p : Addr), H p = none → Q (.ref p) (upd H p (.lst ((srtI ns).map L2.V.int)))
theorem cr_sortedQ : CallR X (.builtin "sorted") (rSortedQ X.K) := by
  intro pins s σ H vs us Q I r h
  obtain ⟨a, ns, rfl, hs, q⟩ := h
  rcases hs with hs | hs
  · refine cr_sortedI pins s σ H _ us Q I r ⟨a, ns, rfl, hs, fun ns' p hp hso hn => ?_⟩
    have e3 : ns' = srtI ns := sorted_uniq (hp.trans (srtI_perm ns).symm) hso (srtI_sorted ns)
    subst e3
    exact q p hn
  · obtain ⟨its, rv, hl, hz⟩ := I.tuple hs
    rw [Vals.ref1 r]
    have hi := rv.ints
    refine sorted_ordT SrtO.swo_int hl (by rw [← rv.length]; exact hz) (fun h2 h₁ a' _ _ => SrtO.ints_sortable hi h2) fun out h1 h2 => ?_
    obtain ⟨k1, k2, k3⟩ := SrtO.ints_out hi h1 h2
    obtain ⟨ep, he'⟩ := PyProof.Rows.sortedAll_at s.heap its out.toArray
    have e3 : out.map SrtO.iv = srtI ns := sorted_uniq (k2.trans (srtI_perm ns).symm) k3 (srtI_sorted ns)
    have hlen : ((srtI ns).map L2.V.int).length ≤ sizeLine := by
      rw [List.length_map, (srtI_perm ns).length_eq]
      rw [List.length_map] at hz
      exact hz
    rw [e3] at k1
    exact ⟨.ref _, upd H (s.heap.objs.size + 1) (.lst ((srtI ns).map L2.V.int)), I.laid (t' := s.toks) (fun _ _ => PyProof.Rows.sortedAll_old) (Nat.le_succ _) ⟨hlen, out, ep, vals_of_ints k1, he'⟩, rfl, q _ (I.hok.fresh (Nat.le_succ _))⟩
def bSrtQ : Ol := fun rs S => (intsQ rs S).bind fun ns => if ns.length ≤ Lim then some ((srtI ns).map D.int) else none
theorem cl_srtQ : CaL tb X (rSortedQ X.K) bSrtQ := by
  intro H R m S rs vs res hS hr e Q k
  obtain ⟨ns, h1, h2⟩ := bind_some e
  split at h2
  · rename_i hl
    cases h2
    obtain ⟨a, h4, h5⟩ := intsQ_view hS hr h1
    exact ⟨a, ns, h4, h5, fun p hn => k p _ hn (reps_intsI _) (by rw [List.length_map, (srtI_perm ns).length_eq]; exact hl)⟩
  · cases h2
theorem B_sortedQ (hm : X.mg "sorted" = none) (ha : PA X (e :: es) (TAs tb X h)) (hg : Gl X "sorted" := by rfl) (he : starEach (e :: es) X.env = (false, eval e X.env) :: starEach es X.env := by rfl) (hpl : (backTo pos (starEach es X.env)).any (·.1) = false := by rfl) :
    PE X (.Call (.Name "sorted" p) (e :: es) [] pos) (TL tb X (lCall bSrtQ h)) := pe_weak (pe_callB cr_sortedQ hg hm (by decide +kernel) ha (he := he) (hpl := hpl)) fun _ _ _ => tl_call cl_srtQ
end
end Ev

/-! The evaluator, part J: an int by f'{..:b}'. -/
namespace Ev
open PySem PySem.Spec PyProof.Rows L2
open PySem.Builtin PySem.Builtin.Float
/-- the digits by two -/
def binS (n : Nat) : Str := ⟨((Nat.toDigits 2 n).map Char.toNat).toArray⟩
theorem bin_len (n : Nat) : (Nat.toDigits 2 n).length ≤ n + 1 := tDigits_len_le 2 n
section
variable {prog : Program} {w : World} {A : Around} {E : Value → Shared → Prop} {s : Shared}
def fB : FormatSpec := match parseFormatSpec ("b" : Str).cps.toList "int" 62 with
  | .ok f => f
  | _ => { fill := 32, align := 62 }
theorem fB_p : parseFormatSpec ("b" : Str).cps.toList "int" 62 = .ok fB := by rfl
theorem fld_b (a : Nat) : intField' fB (decide ((a : Int) < 0)) [] ((Nat.toDigits 2 (a : Int).natAbs).map fun c => (if (98 : Nat) == 88 then c.toUpper else c).toNat) [] 4 = binS a := by
  have hw : fB.width = none := by rfl
  have hgr : fB.grouping = none := by rfl
  have hsg : fB.sign = none := by rfl
  have hfi : fB.fill = 32 := by rfl
  have hali : fB.align = 62 := by rfl
  have e1 : decide ((a : Int) < 0) = false := by simp
  have e2 : ((Nat.toDigits 2 (a : Int).natAbs).map fun c => (if (98 : Nat) == 88 then c.toUpper else c).toNat) = (Nat.toDigits 2 a).map Char.toNat := by simp
  rw [e1, e2]
  unfold intField' binS
  rw [hw, hgr, hsg, hfi, hali]
  generalize (Nat.toDigits 2 a).map Char.toNat = ds
  have e3 : ∀ n : Nat, (-1 - (n : Int)).toNat = 0 := fun n => by omega
  cases ds with
  | nil => rfl
  | cons c r =>
    simp [e3]
    omega
theorem wpAny_eqL {α : Type} {M : Model} {A : Around} {E : Value → Shared → Prop} {s : Shared} {t t' : Sem α} {Q : α → Shared → Prop} (h : t = t') (w : wpAny M A t' Q E s) : wpAny M A t Q E s := by rw [h]; exact w
theorem field_b {a : Nat} {t : Tok} {Q : Value → Shared → Prop} (hz0 : (Nat.toDigits 2 a).length ≤ sizeLine)
    (h : ∀ t' k, Q (.str (binS a) t') { s with toks := k }) : wpAny (model prog w) A (formatField (.int (a : Int) t) ("b" : Str)) Q E s := by
  have hty : fB.type = some 98 := by rfl
  have hpr : fB.precision = none := by rfl
  have hz : fB.noNeg0 = false := by rfl
  have hal : fB.alt = false := by rfl
  have hw : fB.width = none := by rfl
  have hgr : fB.grouping = none := by rfl
  have hsg : fB.sign = none := by rfl
  have hfi : fB.fill = 32 := by rfl
  have hali : fB.align = 62 := by rfl
  have hne : (("b" : Str).length == 0) = false := by decide
  have hasc : ((("b" : Str).cps.toList.drop 1).any (· ≥ 128) || (("b" : Str).cps.getD 0 0 ≥ 128 && !([60, 62, 61, 94] : List Nat).contains (("b" : Str).cps.getD 1 0))) = false := by decide
  show wpAny _ _ (holding [.int (a : Int) t] (pyFormat (.int (a : Int) t) ("b" : Str))) Q E s
  refine wpAny_holding ?_
  unfold pyFormat
  refine wpAny_bind (wpAny_mkStr ?_ (by decide))
  refine wpAny_bind (m := callSpecial? (.int (a : Int) t) (Str.ofString "__format__") [.str ("b" : Str) s.toks]) (wpAny_callSpecial?_slot (name := Str.ofString "__format__") (typeIs_int _ (a : Int) t) slot_int_format ?_)
  refine wpAny_call (codeAny_call_builtin slot_int_format.plain entry_int_format (slot_int_format.check _ _ _ _ _ _ _ _ (typeIs_int _ (a : Int) t) (args_int_format _ _) ?_))
  unfold Builtin.«int.__format__»
  simp only [selfAndOne, noKeywords, Int.intOfSelf, asInt?, asStr?, List.isEmpty_nil, if_true, pure_bind, bind_pure, bind_assoc, hne, hasc, Bool.false_eq_true, if_false,
    show (Value.str ("b" : Str) s.toks == Value.none) = false from rfl]
  refine wpAny_bind (wpAny_typeNameOf (T := "str") (typeIs_str _ _ _) (by decide) fun _ => ?_)
  first | refine wpAny_bind (wpAny_typeNameOfCut_int ?_) | refine wpAny_bind (wpAny_typeNameOf_int ?_)
  simp only [fB_p, hty]
  rw [if_pos (by decide)]
  refine wpAny_eqL (t' := retStr (intField' fB (decide ((a : Int) < 0)) [] ((Nat.toDigits 2 (a : Int).natAbs).map fun c => (if (98 : Nat) == 88 then c.toUpper else c).toNat) [] 4)) (by rfl) ?_
  rw [fld_b]
  unfold retStr
  refine wpAny_bind (wpAny_mkStr (wpAny_pure ?_) ?_)
  · refine wpAny_bind (wpAny_isInstance (typeIs_str _ _ _) isSubtype_str_str (wpAny_pure ?_))
    exact h _ _
  · show ((Nat.toDigits 2 a).map Char.toNat).toArray.size ≤ sizeLine
    rw [List.size_toArray, List.length_map]
    exact hz0
end
section
variable {X : Cx}
def tFmtB (te : TE) : TE := fun σ H Q => te σ H fun x H1 => ∃ a : Nat, x = .int (a : Int) ∧ (Nat.toDigits 2 a).length ≤ sizeLine ∧ Q (.str (binS a)) H1
theorem pe_fmtB {e : Expr} {te : TE} {k : Nat} {pos p1 p2 p3 : Pos} (he : PE X e te) : PE X (.JoinedStr [.FormattedValue e (-1) (some (.JoinedStr [.Constant (.str "b") k p1] p2)) pos] p3) (tFmtB te) := by
  refine ⟨fun pins s σ H Q I h => ?_⟩
  show wpAny _ _ (eval (.FormattedValue e (-1) (some (.JoinedStr [.Constant (.str "b") k p1] p2)) pos) X.env) _ _ s
  rw [arm_eval_FormattedValue]
  refine wpAny_bind (thn (he.run pins s σ H _ I h) fun v s1 hv => ?_)
  obtain ⟨x, H1, I1, r1, a, rfl, hz, q⟩ := hv
  obtain ⟨t, rfl⟩ := r1
  refine wpAny_bind (wpAny_standAt ?_)
  refine wpAny_bind (wpAny_holding (wpAny_pure ?_))
  have hb : PE X (.Constant (.str "b") k p1) (tC (.str "b")) := pe_str
  refine wpAny_bind (wpAny_holding (thn (hb.run pins s1 σ H1 (fun y H2 => y = .str "b" ∧ H2 = H1) I1 ⟨rfl, rfl⟩) fun u s2 ⟨y, H2, I2, r2, ey, eH⟩ => ?_))
  subst ey
  subst eH
  obtain ⟨t2, rfl⟩ := r2
  refine wpAny_bind (wpAny_standAt ?_)
  exact field_b hz fun t' k => ⟨.str (binS a), _, I2.tok _, ⟨_, rfl⟩, q⟩
end
end Ev

/-! The evaluator, part P: comprehensions with two fors: the new list is owned. -/
namespace Ev
open PySem PySem.Spec PyProof.Rows L2
/-- the turns of the inner for: the list stands at n0 -/
def lc2In (n0 : Nat) (s1 : Src) (g1 : Gt) (t1 : Fe Bool) (f : Fe RV) (ρ : Env') : List D → Sto → Option Sto
  | [], S => if s1.ok S = true then some S else none
  | d :: ds, S => if s1.ok S = true then (g1 (.d d) ρ).bind fun ρ2 => (t1 ρ2 S).bind fun b => if b.1 = true then (f ρ2 b.2).bind fun y => match y.1, y.2[n0]? with
      | .d v, some (.lst acc) => if acc.length < Lim then lc2In n0 s1 g1 t1 f ρ ds (y.2.set n0 (.lst (acc ++ [v]))) else none
      | _, _ => none
    else lc2In n0 s1 g1 t1 f ρ ds b.2 else none
/-- .. of the outer for -/
def lc2Go (n0 : Nat) (s : Src) (gg : Gt) (t : Fe Bool) (src1 : Fe Src) (g1 : Gt) (t1 : Fe Bool) (f : Fe RV) (vs1 : List Nat) (ρ : Env') : List D → Sto → Option Sto
  | [], S => if s.ok S = true then some S else none
  | d :: ds, S => if s.ok S = true then (gg (.d d) ρ).bind fun ρ1 => (t ρ1 S).bind fun b => if b.1 = true then
      (src1 ρ1 b.2).bind fun p => (lc2In n0 p.1 g1 t1 f (wipeE ρ1 vs1) p.1.ds p.2).bind fun S4 => lc2Go n0 s gg t src1 g1 t1 f vs1 ρ ds S4
    else lc2Go n0 s gg t src1 g1 t1 f vs1 ρ ds b.2 else none
def eLc2 (src : Fe Src) (gg : Gt) (t : Fe Bool) (src1 : Fe Src) (g1 : Gt) (t1 : Fe Bool) (f : Fe RV) (vs vs1 : List Nat) : Fe RV := fun ρ S => (src ρ S).bind fun p => (lc2Go p.2.length p.1 gg t src1 g1 t1 f vs1 (wipeE ρ vs) p.1.ds (p.2 ++ [.lst []])).bind fun S' => some (.o p.2.length, S')
section
variable {X : Cx} {tb : Tbs}
theorem drop_at {α : Type} {l : List α} {i : Nat} (hi : i < l.length) : l.drop i = l[i] :: l.drop (i + 1) := List.drop_eq_getElem_cons hi
theorem tl2_core {src src1 : Fe Src} {gg g1 : Gt} {sl sl1 vs vs1 : List Nat} {t t1 : Fe Bool} {f : Fe RV} (hsl : ∀ i ∈ sl, i ∈ vs) (hsl1 : ∀ i ∈ sl1, i ∈ vs1) {σ : L2.St} {H : Hp} {Q : VK} {ρ : Env'} {R m : List Addr} {S S1 S' : Sto} {s : Src}
    (hE : RepE tb X.K H R m ρ σ) (hS : Sim tb X.prog X.w X.K H R m S) (e1 : src ρ S = some (s, S1)) (e3 : lc2Go S1.length s gg t src1 g1 t1 f vs1 (wipeE ρ vs) s.ds (S1 ++ [.lst []]) = some S')
    (k : ∀ (D : Addr) (H1 : Hp) (R1 m1 : List Addr) (H2 : Hp) (R2 m2 : List Addr), H1 D = none → Ext H R m H1 R1 m1 → Sim tb X.prog X.w X.K H1 R1 m1 S1 → Ext (upd H1 D (.lst [])) (D :: R1) (m1 ++ [D]) H2 R2 m2 → Sim tb X.prog X.w X.K H2 R2 m2 S' → Q (.ref D) H2) :
    tLc2 (TIs tb X lz src) (TGr tb X lz sl gg) (TB tb X t) (TIs tb X lz1 src1) (TGr tb X lz1 sl1 g1) (TB tb X t1) (TV tb X f) vs vs1 σ H Q := by
  refine ⟨ρ, R, m, S, s, S1, hE, hS, e1, fun J H1 R1 m1 x1 s1 wk => ?_⟩
  obtain ⟨G, Y, wJ, hG, hY⟩ := wk
  intro D hD
  have n0m : (m1 ++ [D])[S1.length]? = some D := by rw [← s1.len]; simp
  -- the invariant of the outer turns
  let Pv : Nat → Hp → Prop := fun i H2 => ∃ (R2 m2 : List Addr) (S2 : Sto), Ext (upd H1 D (.lst [])) (D :: R1) (m1 ++ [D]) H2 R2 m2 ∧ Sim tb X.prog X.w X.K H2 R2 m2 S2 ∧ lc2Go S1.length s gg t src1 g1 t1 f vs1 (wipeE ρ vs) (s.ds.drop i) S2 = some S'
  have own : Ext H1 R1 m1 (upd H1 D (.lst [])) (D :: R1) (m1 ++ [D]) := .own hD
  refine ⟨fun i mm H2 => mm = s.ds.length - i ∧ i ≤ s.ds.length ∧ Pv i H2, ⟨s.ds.length, by simp, Nat.zero_le _, _, _, _, .refl, s1.own (ob := .lst []) hD ⟨[], upd_same, .nil⟩, e3⟩, ?_⟩
  rintro i mm H2 ⟨rfl, hi, R2, m2, S2, x2, s2, eg⟩
  have ok : s.ok S2 = true := by
    cases hd : s.ds.drop i with
    | nil => rw [hd] at eg; unfold lc2Go at eg; split at eg; assumption; cases eg
    | cons d ds => rw [hd] at eg; unfold lc2Go at eg; split at eg; assumption; cases eg
  have xD : Ext H1 R1 m1 H2 R2 m2 := own.trans x2
  have g2 := hG _ _ _ _ xD s2 ok
  by_cases hlt : i < s.ds.length
  · refine .inr ⟨wJ.goes i H2 hlt g2, Pv (i + 1), fun H' p' => ⟨s.ds.length - (i + 1), by omega, rfl, hlt, p'⟩, fun x H' y => ?_⟩
    have y := wJ.yields i H2 x H' hlt g2 y
    obtain ⟨d, g3, x3, s3, rd⟩ := hY i _ _ _ _ x H' hlt xD s2 ok y
    have hd : d = s.ds[i] := by
      rw [List.getElem?_eq_getElem hlt] at g3
      exact (Option.some.inj g3).symm
    subst hd
    rw [drop_at hlt] at eg
    unfold lc2Go at eg
    rw [if_pos ok] at eg
    obtain ⟨ρ1, e5, eg⟩ := bind_some eg
    obtain ⟨⟨b, S3⟩, e6, eg⟩ := bind_some eg
    have hE' : RepE tb X.K H' R2 m2 (wipeE ρ vs) (wipe σ vs) := ((hE.ext x1 hS.sub).ext (xD.trans x3) s1.sub).wipe vs
    refine ⟨wipeE ρ vs, R2, m2, S2, .d s.ds[i], ρ1, hE', s3, rd, e5, fun σ2 hE2 hw => ⟨(hw vs hsl).trans (wipe_idem fun _ h => h), ?_⟩⟩
    refine ⟨ρ1, R2, m2, S2, b, S3, hE2, s3, e6, fun H3 R3 m3 x4 s4 => ?_⟩
    cases b with
    | false =>
      rw [if_neg Bool.false_ne_true]
      simp only [Bool.false_eq_true, if_false] at eg
      exact ⟨R3, m3, S3, (x2.trans x3).trans x4, s4, eg⟩
    | true =>
      rw [if_pos rfl]
      simp only [if_true] at eg
      obtain ⟨⟨s', S4⟩, e7, eg⟩ := bind_some eg
      obtain ⟨S5, e8, eg⟩ := bind_some eg
      refine ⟨ρ1, R3, m3, S3, s', S4, hE2.ext x4 s3.sub, s4, e7, fun J1 H4 R4 m4 x5 s5 wk1 => ?_⟩
      obtain ⟨G1, Y1, wJ1, hG1, hY1⟩ := wk1
      let Pv1 : Nat → Hp → Prop := fun j H6 => ∃ (R6 m6 : List Addr) (S6 : Sto), Ext H4 R4 m4 H6 R6 m6 ∧ Sim tb X.prog X.w X.K H6 R6 m6 S6 ∧ lc2In S1.length s' g1 t1 f (wipeE ρ1 vs1) (s'.ds.drop j) S6 = some S5
      refine ⟨fun j kk H6 => kk = s'.ds.length - j ∧ j ≤ s'.ds.length ∧ Pv1 j H6, ⟨s'.ds.length, by simp, Nat.zero_le _, _, _, _, .refl, s5, e8⟩, ?_⟩
      rintro j kk H6 ⟨rfl, hj, R6, m6, S6, x6, s6, ei⟩
      have ok1 : s'.ok S6 = true := by
        cases hd : s'.ds.drop j with
        | nil => rw [hd] at ei; unfold lc2In at ei; split at ei; assumption; cases ei
        | cons d ds => rw [hd] at ei; unfold lc2In at ei; split at ei; assumption; cases ei
      have g6 := hG1 _ _ _ _ x6 s6 ok1
      by_cases hlt1 : j < s'.ds.length
      · refine .inr ⟨wJ1.goes j H6 hlt1 g6, Pv1 (j + 1), fun H' p' => ⟨s'.ds.length - (j + 1), by omega, rfl, hlt1, p'⟩, fun x H7 y => ?_⟩
        have y := wJ1.yields j H6 x H7 hlt1 g6 y
        obtain ⟨d, g7, x7, s7, rd7⟩ := hY1 j _ _ _ _ x H7 hlt1 x6 s6 ok1 y
        have hd : d = s'.ds[j] := by
          rw [List.getElem?_eq_getElem hlt1] at g7
          exact (Option.some.inj g7).symm
        subst hd
        rw [drop_at hlt1] at ei
        unfold lc2In at ei
        rw [if_pos ok1] at ei
        obtain ⟨ρ2, e9, ei⟩ := bind_some ei
        obtain ⟨⟨b1, S7⟩, e10, ei⟩ := bind_some ei
        have hE7 : RepE tb X.K H7 R6 m6 (wipeE ρ1 vs1) (wipe σ2 vs1) := ((hE2.ext (x4.trans x5) s3.sub).ext (x6.trans x7) s5.sub).wipe vs1
        refine ⟨wipeE ρ1 vs1, R6, m6, S6, .d s'.ds[j], ρ2, hE7, s7, rd7, e9, fun σ3 hE3 hw1 => ⟨(hw1 vs1 hsl1).trans (wipe_idem fun _ h => h), ?_⟩⟩
        refine ⟨ρ2, R6, m6, S6, b1, S7, hE3, s7, e10, fun H8 R8 m8 x8 s8 => ?_⟩
        cases b1 with
        | false =>
          rw [if_neg Bool.false_ne_true]
          simp only [Bool.false_eq_true, if_false] at ei
          exact ⟨R8, m8, S7, (x6.trans x7).trans x8, s8, ei⟩
        | true =>
          rw [if_pos rfl]
          simp only [if_true] at ei
          obtain ⟨⟨yv, S9⟩, e11, ei⟩ := bind_some ei
          simp only at ei
          split at ei
          · rename_i v acc hacc
            split at ei
            · rename_i hl
              refine ⟨ρ2, R8, m8, S7, .d v, S9, hE3.ext x8 s7.sub, s8, e11, fun yy H9 R9 m9 x9 s9 ry => ?_⟩
              have hall : Ext (upd H1 D (.lst [])) (D :: R1) (m1 ++ [D]) H9 R9 m9 := ((((((x2.trans x3).trans x4).trans x5).trans x6).trans x7).trans x8).trans x9
              have hidx : m9[S1.length]? = some D := hall.idx n0m
              obtain ⟨us, h1, h2⟩ := s9.at_ _ D _ hidx hacc
              refine ⟨us, h1, by rw [lim_eq]; rw [← h2.length]; omega, R9, m9, S9.set S1.length (.lst (acc ++ [v])), ((x6.trans x7).trans (x8.trans x9)).trans (.chg (List.mem_of_getElem? hidx) (by rw [h1]; intro z; cases z)), ?_, ei⟩
              refine s9.chg hidx ⟨us ++ [yy], upd_same, ?_⟩
              have hx : Ext H9 R9 m9 (upd H9 D (.lst (us ++ [yy]))) R9 m9 := .chg (List.mem_of_getElem? hidx) (by rw [h1]; intro z; cases z)
              exact (h2.ext hx s9.sub).append (.cons (Rep.ext hx s9.sub ry) .nil)
            · cases ei
          · cases ei
      · have ej : j = s'.ds.length := by omega
        subst ej
        refine .inl ⟨wJ1.stops H6 g6, R6, m6, S6, (((x2.trans x3).trans x4).trans x5).trans x6, s6, ?_⟩
        rw [List.drop_length] at ei
        unfold lc2In at ei
        rw [if_pos ok1] at ei
        cases ei
        exact eg
  · have ei : i = s.ds.length := by omega
    subst ei
    rw [List.drop_length] at eg
    unfold lc2Go at eg
    rw [if_pos ok] at eg
    cases eg
    exact .inl ⟨wJ.stops H2 g2, k D H1 R1 m1 H2 R2 m2 hD x1 s1 x2 s2⟩
theorem tv_lc2 {src src1 : Fe Src} {gg g1 : Gt} {sl sl1 vs vs1 : List Nat} {t t1 : Fe Bool} {f : Fe RV} (hsl : ∀ i ∈ sl, i ∈ vs) (hsl1 : ∀ i ∈ sl1, i ∈ vs1) {σ : L2.St} {H : Hp} {Q : VK} (q : TV tb X (eLc2 src gg t src1 g1 t1 f vs vs1) σ H Q) :
    tLc2 (TIs tb X lz src) (TGr tb X lz sl gg) (TB tb X t) (TIs tb X lz1 src1) (TGr tb X lz1 sl1 g1) (TB tb X t1) (TV tb X f) vs vs1 σ H Q := by
  obtain ⟨ρ, R, m, S, res, S', hE, hS, e, k⟩ := q
  obtain ⟨⟨s, S1⟩, e1, e2⟩ := bind_some e
  obtain ⟨Sf, e3, e4⟩ := bind_some e2
  cases e4
  refine tl2_core hsl hsl1 hE hS e1 e3 fun D H1 R1 m1 H2 R2 m2 hD x1 s1 x2 s2 => ?_
  exact k (.ref D) H2 R2 m2 (x1.trans ((Ext.own hD).trans x2)) s2 ⟨D, x2.idx (by rw [← s1.len]; simp), rfl⟩
/-! ### the rules -/
theorem LC2 {elt tg iter tg1 iter1 : Expr} {ifs ifs1 : List Expr} {scope : Scope} {pos : Pos} {src src1 : Fe Src} {gg g1 : Gt} {sl sl1 : List Nat} {t t1 : Fe Bool} {f : Fe RV} (ow : List (Str × Nat)) (vs1 : List Nat) (hN : X.N.Nodup) (ok : blkC X.N X.env.scope scope ow = true) (hi : PI X tg iter (TIs tb X lz src))
    (hg : ∀ (s : Shared) (H : Hp) (C : Addr) (cl : List (Str × Addr)) (fp : List Addr), PG (X.blk s H scope (compEnvC scope cl C X.env) fp) tg (TGr tb X lz sl gg)) (ht : ∀ (s : Shared) (H : Hp) (C : Addr) (cl : List (Str × Addr)) (fp : List Addr), PTs (X.blk s H scope (compEnvC scope cl C X.env) fp) ifs (TB tb X t))
    (hi1 : ∀ (s : Shared) (H : Hp) (C : Addr) (cl : List (Str × Addr)) (fp : List Addr), PI (X.blk s H scope (compEnvC scope cl C X.env) fp) tg1 iter1 (TIs tb X lz1 src1))
    (hg1 : ∀ (s : Shared) (H : Hp) (C : Addr) (cl : List (Str × Addr)) (fp : List Addr), PG (X.blk s H scope (compEnvC scope cl C X.env) fp) tg1 (TGr tb X lz1 sl1 g1)) (ht1 : ∀ (s : Shared) (H : Hp) (C : Addr) (cl : List (Str × Addr)) (fp : List Addr), PTs (X.blk s H scope (compEnvC scope cl C X.env) fp) ifs1 (TB tb X t1))
    (he : ∀ (s : Shared) (H : Hp) (C : Addr) (cl : List (Str × Addr)) (fp : List Addr), PE (X.blk s H scope (compEnvC scope cl C X.env) fp) elt (TV tb X f)) (hc : X.calm = true := by rfl) (hsl : ∀ i ∈ sl, i ∈ ow.map (·.2) := by decide) (hsl1 : ∀ i ∈ sl1, i ∈ vs1 := by decide) (hv : ∀ i ∈ vs1, i ∈ ow.map (·.2) := by decide)
    (hs : ∀ x, foldedSetIterable iter X.env x = pure x := by intro _; rfl) (hs1 : ∀ env x, foldedSetIterable iter1 env x = pure x := by intro _ _; rfl) :
    PE X (.ListComp elt [⟨tg, iter, ifs, 0⟩, ⟨tg1, iter1, ifs1, 0⟩] scope pos) (TV tb X (eLc2 src gg t src1 g1 t1 f (ow.map (·.2)) vs1)) :=
  pe_weak (pe_lc2 hc hN hi (blkOk_by ok) hv hg ht hi1 hg1 ht1 he hs hs1) fun σ H Q q => tv_lc2 hsl hsl1 q
theorem SC2 (i : Nat) {y : Str} {py : Pos} {elt tg iter tg1 iter1 : Expr} {ifs ifs1 : List Expr} {scope : Scope} {pos spos : Pos} {src src1 : Fe Src} {gg g1 : Gt} {sl sl1 : List Nat} {t t1 : Fe Bool} {f : Fe RV} (ow : List (Str × Nat)) (vs1 : List Nat) (hN : X.N.Nodup) (ok : blkC X.N X.env.scope scope ow = true)
    (hsw : swapsWith (.ListComp elt [⟨tg, iter, ifs, 0⟩, ⟨tg1, iter1, ifs1, 0⟩] scope pos) (some (.Name y py)) spos.line X.env = pure true) (hi : PI X tg iter (TIs tb X lz src))
    (hg : ∀ (s : Shared) (H : Hp) (C : Addr) (cl : List (Str × Addr)) (fp : List Addr), PG (X.blk s H scope (compEnvC scope cl C X.env) fp) tg (TGr tb X lz sl gg)) (ht : ∀ (s : Shared) (H : Hp) (C : Addr) (cl : List (Str × Addr)) (fp : List Addr), PTs (X.blk s H scope (compEnvC scope cl C X.env) fp) ifs (TB tb X t))
    (hi1 : ∀ (s : Shared) (H : Hp) (C : Addr) (cl : List (Str × Addr)) (fp : List Addr), PI (X.blk s H scope (compEnvC scope cl C X.env) fp) tg1 iter1 (TIs tb X lz1 src1))
    (hg1 : ∀ (s : Shared) (H : Hp) (C : Addr) (cl : List (Str × Addr)) (fp : List Addr), PG (X.blk s H scope (compEnvC scope cl C X.env) fp) tg1 (TGr tb X lz1 sl1 g1)) (ht1 : ∀ (s : Shared) (H : Hp) (C : Addr) (cl : List (Str × Addr)) (fp : List Addr), PTs (X.blk s H scope (compEnvC scope cl C X.env) fp) ifs1 (TB tb X t1))
    (he : ∀ (s : Shared) (H : Hp) (C : Addr) (cl : List (Str × Addr)) (fp : List Addr), PE (X.blk s H scope (compEnvC scope cl C X.env) fp) elt (TV tb X f)) (hc : X.calm = true := by rfl) (hy : X.N[i]? = some y := by rfl) (hyl : X.env.scope.names.lookup y = some .local := by rfl) (hsl : ∀ i ∈ sl, i ∈ ow.map (·.2) := by decide) (hsl1 : ∀ i ∈ sl1, i ∈ vs1 := by decide) (hv : ∀ i ∈ vs1, i ∈ ow.map (·.2) := by decide)
    (hs : ∀ x, foldedSetIterable iter X.env x = pure x := by intro _; rfl) (hs1 : ∀ env x, foldedSetIterable iter1 env x = pure x := by intro _ _; rfl) :
    PS X (.Assign [.Name y py] (.ListComp elt [⟨tg, iter, ifs, 0⟩, ⟨tg1, iter1, ifs1, 0⟩] scope pos) spos) (TSf tb X (sAsg (eLc2 src gg t src1 g1 t1 f (ow.map (·.2)) vs1) (gN i))) := by
  refine ps_weak (ps_setLc2 hc hN hy hyl hsw hi (blkOk_by ok) hv hg ht hi1 hg1 ht1 he hs hs1) fun D σ H ⟨ρ, R, m, S, fl, ρ', S', hE, hS, e, k⟩ => ?_
  obtain ⟨⟨x, S1⟩, e1, e2⟩ := bind_some e
  cases e2
  refine tv_lc2 hsl hsl1 ⟨ρ, R, m, S, x, S1, hE, hS, e1, fun v H1 R1 m1 x1 s1 r1 => ?_⟩
  exact k _ H1 R1 m1 x1 s1 ((hE.ext x1 hS.sub).set i r1)
end
end Ev

/-! The evaluator, part V: f'{e:b}'.count('1'); dict comprehensions with keys of ints and texts (owned); list of such a dict. -/
namespace Ev
open PySem PySem.Spec PyProof.Rows L2
/-! ### ones -/
def vOnes : RV → Sto → Option RV := fun x _ => match x with
  | .d (.int a) => if 0 ≤ a ∧ (Nat.toDigits 2 a.toNat).length ≤ Lim then some (.d (.int (Txt.count (binS a.toNat) "1"))) else none
  | _ => none
def eOnes (f : Fe RV) : Fe RV := fMap f vOnes
section
variable {X : Cx} {tb : Tbs} {e : Expr} {f : Fe RV}
theorem e_ones {k k2 : Nat} {apos pos p0 p1 p2 p3 p4 : Pos} (he : PE X e (TV tb X f)) (hs : starEach [.Constant (.str "1") k2 p4] X.env = [(false, eval (.Constant (.str "1") k2 p4) X.env)] := by rfl)
    (hbase : attributeBase (.JoinedStr [.FormattedValue e (-1) (some (.JoinedStr [.Constant (.str "b") k p1] p2)) p0] p3) "count" X.env (eval (.JoinedStr [.FormattedValue e (-1) (some (.JoinedStr [.Constant (.str "b") k p1] p2)) p0] p3) X.env) = eval (.JoinedStr [.FormattedValue e (-1) (some (.JoinedStr [.Constant (.str "b") k p1] p2)) p0] p3) X.env := by rfl)
    (hline : (apos.endLine == pos.line) = true := by rfl) :
    PE X (.Call (.Attribute (.JoinedStr [.FormattedValue e (-1) (some (.JoinedStr [.Constant (.str "b") k p1] p2)) p0] p3) "count" apos) [.Constant (.str "1") k2 p4] [] pos) (TV tb X (eOnes f)) := by
  refine pe_weak (pe_m1 F.slot_str_count F.type_str_count mt_count (pe_fmtB he) pe_str hs hbase hline) fun σ H Q q => ?_
  obtain ⟨ρ, R, m, S, res, S', hE, hS, e, k⟩ := q
  obtain ⟨x, e1, e2⟩ := fMap_some e
  refine ⟨ρ, R, m, S, x, S', hE, hS, e1, fun v H1 R1 m1 x1 s1 r1 => ?_⟩
  unfold vOnes at e2
  split at e2
  · rename_i a
    split at e2
    · rename_i hc
      cases e2
      cases r1
      refine ⟨a.toNat, by rw [Int.toNat_of_nonneg hc.1], by rw [lim_eq]; exact hc.2, ⟨_, rfl⟩, _, _, rfl, rfl, ?_⟩
      exact k _ H1 R1 m1 x1 s1 (.int _)
    · cases e2
  · cases e2
end
/-! ### dict comprehensions -/
def D.toK : D → Option Key
  | .int i => some (.inl i)
  | .str x => some (.inr x)
  | _ => none
theorem D.toK_of {d : D} {k : Key} (h : d.toK = some k) : d = D.ofKey k := by
  unfold D.toK at h
  split at h
  · cases h; rfl
  · cases h; rfl
  · cases h
theorem ofKey_inj {a b : Key} : D.ofKey a = D.ofKey b ↔ a = b := by
  cases a <;> cases b <;> simp [D.ofKey]
abbrev DRel (K : PySem.W.Frag) (H : Hp) (R : List Addr) : List (D × D) → List (Key × L2.V) → Prop := Paired (fun (p : D × D) (q : Key × L2.V) => p.1 = D.ofKey q.1 ∧ Rep K H R p.2 q.2)
section
variable {K : PySem.W.Frag} {H : Hp} {R : List Addr}
theorem DRel.len : ∀ {a : List (D × D)} {b : List (Key × L2.V)}, DRel K H R a b → a.length = b.length
  | _, _, .nil => rfl
  | _, _, .cons _ r => congrArg Nat.succ (DRel.len r)
theorem DRel.isS {k : Key} : ∀ {a : List (D × D)} {b : List (Key × L2.V)}, DRel K H R a b → (dGet a (D.ofKey k)).isSome = b.any fun kv => decide (kv.1 = k)
  | _, _, .nil => rfl
  | (p :: a), (q :: b), .cons h r => by
    rw [dGet_cons, List.any_cons, ← DRel.isS r, h.1]
    by_cases e : q.1 = k
    · rw [if_pos (by rw [e])]; simp [e]
    · rw [if_neg (fun z => e (ofKey_inj.mp z))]; simp [e]
theorem DRel.map {k : Key} {d : D} {v : L2.V} (hv : Rep K H R d v) : ∀ {a : List (D × D)} {b : List (Key × L2.V)}, DRel K H R a b → DRel K H R (a.map fun p => if p.1 = D.ofKey k then (p.1, d) else p) (b.map fun kv => if kv.1 = k then (kv.1, v) else kv)
  | _, _, .nil => .nil
  | (p :: a), (q :: b), .cons h r => by
    refine .cons ?_ (DRel.map hv r)
    show (if p.1 = D.ofKey k then (p.1, d) else p).1 = D.ofKey (if q.1 = k then (q.1, v) else q).1 ∧ Rep K H R (if p.1 = D.ofKey k then (p.1, d) else p).2 (if q.1 = k then (q.1, v) else q).2
    by_cases e : q.1 = k
    · have e' : p.1 = D.ofKey k := by rw [h.1, e]
      rw [if_pos e', if_pos e]
      exact ⟨h.1, hv⟩
    · have e' : p.1 ≠ D.ofKey k := fun z => e (ofKey_inj.mp (h.1.symm.trans z))
      rw [if_neg e', if_neg e]
      exact h
theorem DRel.app : ∀ {a c : List (D × D)} {b d : List (Key × L2.V)}, DRel K H R a b → DRel K H R c d → DRel K H R (a ++ c) (b ++ d)
  | _, _, _, _, .nil, s => s
  | _, _, _, _, .cons h r, s => .cons h (DRel.app r s)
theorem DRel.put {k : Key} {d : D} {v : L2.V} (hv : Rep K H R d v) {a : List (D × D)} {b : List (Key × L2.V)} (h : DRel K H R a b) : DRel K H R (dPut a (D.ofKey k) d) (putK b k v) := by
  unfold dPut putK
  rw [DRel.isS h]
  by_cases e : (b.any fun kv => decide (kv.1 = k)) = true
  · rw [if_pos e, if_pos e]
    exact DRel.map hv h
  · rw [if_neg e, if_neg e]
    exact h.app (.cons ⟨rfl, hv⟩ .nil)
theorem DRel.keys : ∀ {a : List (D × D)} {b : List (Key × L2.V)}, DRel K H R a b → Reps K H R (a.map (·.1)) (b.map fun kv => kV kv.1)
  | _, _, .nil => .nil
  | (p :: a), (q :: b), .cons h r => by
    refine .cons ?_ (DRel.keys r)
    show Rep K H R p.1 (kV q.1)
    rw [h.1]
    obtain ⟨k, v⟩ := q
    cases k with
    | inl i => exact .int i
    | inr x => exact .str x
end
def dcAt (n0 : Nat) (k v : RV) (S : Sto) : Option (D × D × List (D × D)) := match k, v, S[n0]? with
  | .d kd, .d vd, some (.dct kvs) => if kd.toK.isSome = true ∧ kvs.length < Lim then some (kd, vd, kvs) else none
  | _, _, _ => none
theorem dcAt_some {n0 : Nat} {k v : RV} {S : Sto} {q : D × D × List (D × D)} (h : dcAt n0 k v S = some q) : k = .d q.1 ∧ v = .d q.2.1 ∧ S[n0]? = some (.dct q.2.2) ∧ q.1.toK.isSome = true ∧ q.2.2.length < Lim := by
  unfold dcAt at h
  split at h
  · rename_i e
    split at h
    · rename_i hc
      cases h
      exact ⟨rfl, rfl, e, hc.1, hc.2⟩
    · cases h
  · cases h
def dcGo (n0 : Nat) (s : Src) (gg : Gt) (t : Fe Bool) (fk fv : Fe RV) (ρ : Env') : List D → Sto → Option Sto
  | [], S => if s.ok S = true then some S else none
  | d :: ds, S => if s.ok S = true then (gg (.d d) ρ).bind fun ρ1 => (t ρ1 S).bind fun b => if b.1 = true then (fk ρ1 b.2).bind fun k => (fv ρ1 k.2).bind fun v => (dcAt n0 k.1 v.1 v.2).bind fun q => dcGo n0 s gg t fk fv ρ ds (v.2.set n0 (.dct (dPut q.2.2 q.1 q.2.1)))
    else dcGo n0 s gg t fk fv ρ ds b.2 else none
def eDc (src : Fe Src) (gg : Gt) (t : Fe Bool) (fk fv : Fe RV) (vs : List Nat) : Fe RV := fun ρ S => (src ρ S).bind fun p => (dcGo p.2.length p.1 gg t fk fv (wipeE ρ vs) p.1.ds (p.2 ++ [.dct []])).bind fun S' => some (.o p.2.length, S')
section
variable {X : Cx} {tb : Tbs}
theorem tv_dc {src : Fe Src} {gg : Gt} {sl vs : List Nat} {t : Fe Bool} {fk fv : Fe RV} (hsl : ∀ i ∈ sl, i ∈ vs) {σ : L2.St} {H : Hp} {Q : VK} (q : TV tb X (eDc src gg t fk fv vs) σ H Q) :
    tDc (TIs tb X lz src) (TGr tb X lz sl gg) (TB tb X t) (TV tb X fk) (TV tb X fv) vs σ H Q := by
  obtain ⟨ρ, R, m, S, res, S', hE, hS, e, k⟩ := q
  obtain ⟨⟨s, S1⟩, e1, e2⟩ := bind_some e
  obtain ⟨Sf, e3, e4⟩ := bind_some e2
  cases e4
  refine ⟨ρ, R, m, S, s, S1, hE, hS, e1, fun J H1 R1 m1 x1 s1 wk => ?_⟩
  obtain ⟨G, Y, wJ, hG, hY⟩ := wk
  intro D hD
  have n0m : (m1 ++ [D])[S1.length]? = some D := by rw [← s1.len]; simp
  let Pv : Nat → Hp → Prop := fun i H2 => ∃ (R2 m2 : List Addr) (S2 : Sto), Ext (upd H1 D (.dK [])) (D :: R1) (m1 ++ [D]) H2 R2 m2 ∧ Sim tb X.prog X.w X.K H2 R2 m2 S2 ∧ dcGo S1.length s gg t fk fv (wipeE ρ vs) (s.ds.drop i) S2 = some S'
  have own : Ext H1 R1 m1 (upd H1 D (.dK [])) (D :: R1) (m1 ++ [D]) := .own hD
  refine ⟨fun i mm H2 => mm = s.ds.length - i ∧ i ≤ s.ds.length ∧ Pv i H2, ⟨s.ds.length, by simp, Nat.zero_le _, _, _, _, .refl, s1.own (ob := .dct []) hD ⟨[], upd_same, .nil⟩, e3⟩, ?_⟩
  rintro i mm H2 ⟨rfl, hi, R2, m2, S2, x2, s2, eg⟩
  have ok : s.ok S2 = true := by
    cases hd : s.ds.drop i with
    | nil => rw [hd] at eg; unfold dcGo at eg; split at eg; assumption; cases eg
    | cons d ds => rw [hd] at eg; unfold dcGo at eg; split at eg; assumption; cases eg
  have xD : Ext H1 R1 m1 H2 R2 m2 := own.trans x2
  have g2 := hG _ _ _ _ xD s2 ok
  by_cases hlt : i < s.ds.length
  · refine .inr ⟨wJ.goes i H2 hlt g2, Pv (i + 1), fun H' p' => ⟨s.ds.length - (i + 1), by omega, rfl, hlt, p'⟩, fun x H' y => ?_⟩
    have y := wJ.yields i H2 x H' hlt g2 y
    obtain ⟨d, g3, x3, s3, rd⟩ := hY i _ _ _ _ x H' hlt xD s2 ok y
    have hd : d = s.ds[i] := by
      rw [List.getElem?_eq_getElem hlt] at g3
      exact (Option.some.inj g3).symm
    subst hd
    rw [drop_at hlt] at eg
    unfold dcGo at eg
    rw [if_pos ok] at eg
    obtain ⟨ρ1, e5, eg⟩ := bind_some eg
    obtain ⟨⟨b, S3⟩, e6, eg⟩ := bind_some eg
    have hE' : RepE tb X.K H' R2 m2 (wipeE ρ vs) (wipe σ vs) := ((hE.ext x1 hS.sub).ext (xD.trans x3) s1.sub).wipe vs
    refine ⟨wipeE ρ vs, R2, m2, S2, .d s.ds[i], ρ1, hE', s3, rd, e5, fun σ2 hE2 hw => ⟨(hw vs hsl).trans (wipe_idem fun _ h => h), ?_⟩⟩
    refine ⟨ρ1, R2, m2, S2, b, S3, hE2, s3, e6, fun H3 R3 m3 x4 s4 => ?_⟩
    cases b with
    | false =>
      rw [if_neg Bool.false_ne_true]
      simp only [Bool.false_eq_true, if_false] at eg
      exact ⟨R3, m3, S3, (x2.trans x3).trans x4, s4, eg⟩
    | true =>
      rw [if_pos rfl]
      simp only [if_true] at eg
      obtain ⟨⟨kk, S4⟩, e7, eg⟩ := bind_some eg
      obtain ⟨⟨vv, S5⟩, e8, eg⟩ := bind_some eg
      obtain ⟨⟨kd, vd, kvs⟩, e9, eg9⟩ := bind_some eg
      obtain ⟨rfl, rfl, hk, hl⟩ := dcAt_some e9
      refine ⟨ρ1, R3, m3, S3, .d kd, S4, hE2.ext x4 s3.sub, s4, e7, fun yy H4 R4 m4 x5 s5 ry => ?_⟩
      refine ⟨ρ1, R4, m4, S4, .d vd, S5, (hE2.ext x4 s3.sub).ext x5 s4.sub, s5, e8, fun zz H5 R5 m5 x6 s6 rz => ?_⟩
      have hall : Ext (upd H1 D (.dK [])) (D :: R1) (m1 ++ [D]) H5 R5 m5 := (((x2.trans x3).trans x4).trans x5).trans x6
      have hidx : m5[S1.length]? = some D := hall.idx n0m
      obtain ⟨us, h1, h2⟩ := s6.at_ _ D _ hidx hk
      obtain ⟨key, hkey⟩ := Option.isSome_iff_exists.mp hl.1
      have hkd := Ev.D.toK_of hkey
      subst hkd
      have hyk : yy = kV key := by
        have ry' : Rep X.K H4 R4 (Ev.D.ofKey key) yy := ry
        cases key with
        | inl j => cases ry'; rfl
        | inr j => cases ry'; rfl
      refine ⟨us, key, hyk, h1, by rw [lim_eq, ← DRel.len h2]; exact hl.2, R5, m5, S5.set S1.length (.dct (dPut kvs (Ev.D.ofKey key) vd)), hall.trans (.chg (List.mem_of_getElem? hidx) (by rw [h1]; intro z; cases z)), ?_, eg9⟩
      have hx : Ext H5 R5 m5 (upd H5 D (.dK (putK us key zz))) R5 m5 := .chg (List.mem_of_getElem? hidx) (by rw [h1]; intro z; cases z)
      refine s6.chg hidx ⟨putK us key zz, upd_same, ?_⟩
      refine DRel.put (Rep.ext hx s6.sub rz) ?_
      exact Paired.mapP h2 fun _ _ z => ⟨z.1, Rep.ext hx s6.sub z.2⟩
  · have ei : i = s.ds.length := by omega
    subst ei
    rw [List.drop_length] at eg
    unfold dcGo at eg
    rw [if_pos ok] at eg
    cases eg
    exact .inl ⟨wJ.stops H2 g2, k (.ref D) H2 R2 m2 (x1.trans xD) s2 ⟨D, x2.idx n0m, rfl⟩⟩
theorem DC {kx vx tg iter : Expr} {ifs : List Expr} {scope : Scope} {pos : Pos} {src : Fe Src} {gg : Gt} {sl : List Nat} {t : Fe Bool} {fk fv : Fe RV} (ow : List (Str × Nat)) (hN : X.N.Nodup) (ok : blkC X.N X.env.scope scope ow = true) (hi : PI X tg iter (TIs tb X lz src))
    (hg : ∀ (s : Shared) (H : Hp) (C : Addr) (cl : List (Str × Addr)) (fp : List Addr), PG (X.blk s H scope (compEnvC scope cl C X.env) fp) tg (TGr tb X lz sl gg)) (ht : ∀ (s : Shared) (H : Hp) (C : Addr) (cl : List (Str × Addr)) (fp : List Addr), PTs (X.blk s H scope (compEnvC scope cl C X.env) fp) ifs (TB tb X t))
    (hk : ∀ (s : Shared) (H : Hp) (C : Addr) (cl : List (Str × Addr)) (fp : List Addr), PE (X.blk s H scope (compEnvC scope cl C X.env) fp) kx (TV tb X fk))
    (he : ∀ (s : Shared) (H : Hp) (C : Addr) (cl : List (Str × Addr)) (fp : List Addr), PE (X.blk s H scope (compEnvC scope cl C X.env) fp) vx (TV tb X fv)) (hc : X.calm = true := by rfl) (hsl : ∀ i ∈ sl, i ∈ ow.map (·.2) := by decide)
    (hs : ∀ x, foldedSetIterable iter X.env x = pure x := by intro _; rfl) :
    PE X (.DictComp kx vx [⟨tg, iter, ifs, 0⟩] scope pos) (TV tb X (eDc src gg t fk fv (ow.map (·.2)))) :=
  pe_weak (pe_dc hc hN hi (blkOk_by ok) hg ht hk he hs) fun σ H Q q => tv_dc hsl q
/-- list(d), d an owned dict -/
def bLstD : Ol := fun rs S => match rs with
  | [.o n] => (match S[n]? with
    | some (.dct kvs) => if kvs.length ≤ Lim then some (kvs.map (·.1)) else none
    | _ => none)
  | _ => none
theorem cl_lstD : CaL tb X (fun xs H Q => ∃ (a : Addr) (kvs : List (Key × L2.V)), xs = [.ref a] ∧ Rd H a (.dK kvs) ∧ ∀ p, H p = none → Q (.ref p) (upd H p (.lst (kvs.map fun kv => kV kv.1)))) bLstD := by
  intro H R m S rs vs res hS hr e Q k
  unfold bLstD at e
  split at e
  · rename_i n
    split at e
    · rename_i kvs hn
      split at e
      · rename_i hl
        cases e
        obtain ⟨v, rfl, a, h1, rfl⟩ := rep1 hr
        obtain ⟨us, h2, h3⟩ := hS.at_ _ a _ h1 hn
        exact ⟨a, us, rfl, .inl h2, fun p hp => k p _ hp (DRel.keys h3) (by rw [List.length_map]; exact hl)⟩
      · cases e
    · cases e
  · cases e
theorem B_listD {e : Expr} {es : List Expr} {p pos : Pos} {h : Fe (List RV)} (hm : X.mg "list" = none) (ha : PA X (e :: es) (TAs tb X h)) (hc : X.calm = true := by rfl) (hg : Gl X "list" := by rfl) (he : starEach (e :: es) X.env = (false, eval e X.env) :: starEach es X.env := by rfl) (hpl : (backTo pos (starEach es X.env)).any (·.1) = false := by rfl) :
    PE X (.Call (.Name "list" p) (e :: es) [] pos) (TL tb X (lCall bLstD h)) := pe_weak (pe_callTy (call_listD hc) hg hm (by decide +kernel) ha (he := he) (hpl := hpl)) fun _ _ _ => tl_call cl_lstD
end

/-! ### comprehensions with two fors: the list is given up at the end -/
def RV.below (n : Nat) : RV → Bool
  | .o k => decide (k < n)
  | _ => true
def Ob.below (n : Nat) : Ob → Bool
  | .ins _ fs => fs.all fun p => p.2.below n
  | _ => true
section
variable {P : Program} {w : World} {K : PySem.W.Frag} {tb : Tbs} {H H' : Hp} {R R' m : List Addr} {S S' : Sto} {p : Addr} {o : HO} {ob : Ob}
theorem RepV.cut {d : RV} {v : L2.V} (hb : d.below m.length = true) (r : RepV tb K H R (m ++ [p]) d v) : RepV tb K H R m d v := by
  cases d with
  | d x => exact r
  | t n => exact r
  | fn φ => exact r
  | o n =>
    obtain ⟨a, h1, h2⟩ := r
    rw [List.getElem?_append_left (of_decide_eq_true hb)] at h1
    exact ⟨a, h1, h2⟩
theorem unown (n : H p = none) (s : Sim tb P w K H R m S) (x : Ext (upd H p o) (p :: R) (m ++ [p]) H' R' (m ++ [p])) (s' : Sim tb P w K H' R' (m ++ [p]) (S' ++ [ob])) (hb : S'.all (Ob.below m.length) = true) :
    Ext H R m (er H' p) (R'.filter (· ≠ p)) m ∧ Sim tb P w K (er H' p) (R'.filter (· ≠ p)) m S' ∧ p ∈ R' := by
  have hp : p ∈ R' := x.sub p List.mem_cons_self
  have hm : p ∉ m := fun z => s.notR n (s.sub p z)
  have ne : ∀ a, H a ≠ none → a ≠ p := fun a h z => h (by rw [z]; exact n)
  have hl : m.length = S'.length := by have := s'.len; simp at this; exact this
  refine ⟨⟨⟨[], by simp⟩, fun a h => ?_, fun a h => ?_, fun a h => .inl h, fun a o h e nt => ?_, fun a h => ?_⟩, ⟨s.nd, fun a h => ?_, fun a h => ?_, hl, fun i a ob h1 h2 => ?_, s'.tabs.mono (fun a o ha e => by rw [er_ne (fun z => ha (by rw [z]; exact hp))]; exact e) fun a h => .inl (List.mem_filter.mp h).1⟩, hp⟩
  · exact List.mem_filter.mpr ⟨x.sub a (List.mem_cons_of_mem _ h), decide_eq_true (ne a (s.live a h))⟩
  · obtain ⟨h1, h2⟩ := List.mem_filter.mp h
    have h2 := of_decide_eq_true h2
    rcases x.fresh a h1 with z | z
    · exact .inl ((List.mem_cons.mp z).resolve_left h2)
    · rw [upd_ne h2] at z; exact .inr z
  · have q := ne a (by rw [e]; intro z; cases z)
    rw [er_ne q]
    refine x.keep a o (fun z => ?_) (by rw [upd_ne q]; exact e) nt
    rcases List.mem_append.mp z with z | z
    · exact h z
    · exact q (List.mem_singleton.mp z)
  · have q := ne a h
    rw [er_ne q]
    exact x.live a (by rw [upd_ne q]; exact h)
  · exact List.mem_filter.mpr ⟨s'.sub a (List.mem_append_left _ h), decide_eq_true fun z => hm (by rw [← z]; exact h)⟩
  · obtain ⟨h1, h2⟩ := List.mem_filter.mp h
    rw [er_ne (of_decide_eq_true h2)]
    exact s'.live a h1
  · have q : a ≠ p := fun z => hm (by rw [← z]; exact List.mem_of_getElem? h1)
    have hi : i < m.length := (List.getElem?_eq_some_iff.mp h1).1
    have r := s'.at_ i a ob (by rw [List.getElem?_append_left hi]; exact h1) (by rw [List.getElem?_append_left (by rw [← hl]; exact hi)]; exact h2)
    cases ob with
    | lst ds =>
      obtain ⟨vs, g1, g2⟩ := r
      exact ⟨vs, (er_ne q).trans g1, g2.er hp⟩
    | dct kvs =>
      obtain ⟨vs, g1, g2⟩ := r
      exact ⟨vs, (er_ne q).trans g1, Paired.mapP g2 fun _ _ z => ⟨z.1, z.2.er hp⟩⟩
    | dcx kvs =>
      obtain ⟨vs, g1, g2⟩ := r
      exact ⟨vs, (er_ne q).trans g1, Paired.mapP g2 fun _ _ ⟨z1, z2, z3, v, z4, z5⟩ => ⟨z1, z2.er hp, z3, v, z4, z5.er hp⟩⟩
    | ins c fs =>
      obtain ⟨dx, vfs, g1, g2, g3⟩ := r
      have hbe := List.all_eq_true.mp hb _ (List.mem_of_getElem? h2)
      have hbf := List.all_eq_true.mp hbe
      refine ⟨dx, vfs, (er_ne q).trans g1, ?_, g3⟩
      have : ∀ {a : List (Str × RV)} {b : List (Str × L2.V)}, (∀ z ∈ a, z.2.below m.length = true) → RepF tb K H' R' (m ++ [p]) a b → RepF tb K (er H' p) (R'.filter (· ≠ p)) m a b := by
        intro a b ha hr
        induction hr with
        | nil => exact .nil
        | cons h _ ih =>
          exact .cons ⟨h.1, (RepV.er hp h.2).cut (ha _ List.mem_cons_self)⟩ (ih fun z hz => ha z (List.mem_cons_of_mem _ hz))
      exact this hbf g2
end
def endK (n0 : Nat) (S' : Sto) : Option (List D × Sto) := match S'.reverse with
  | .lst acc :: r => if (r.length = n0 ∧ r.all (Ob.below n0) = true) ∧ acc.length ≤ Lim then some (acc, r.reverse) else none
  | _ => none
theorem endK_some {n0 : Nat} {S' S1 : Sto} {acc : List D} (h : endK n0 S' = some (acc, S1)) : S' = S1 ++ [.lst acc] ∧ S1.length = n0 ∧ S1.all (Ob.below n0) = true ∧ acc.length ≤ Lim := by
  unfold endK at h
  split at h
  · rename_i acc' r e
    split at h
    · rename_i hc
      cases h
      have := congrArg List.reverse e
      rw [List.reverse_reverse, List.reverse_cons] at this
      refine ⟨this, by rw [List.length_reverse]; exact hc.1.1, ?_, hc.2⟩
      rw [List.all_reverse]; exact hc.1.2
    · cases h
  · cases h
theorem endK_ {n0 : Nat} {S1 : Sto} {acc : List D} (h1 : S1.length = n0) (h2 : S1.all (Ob.below n0) = true) (h3 : acc.length ≤ Lim) : endK n0 (S1 ++ [.lst acc]) = some (acc, S1) := by
  unfold endK
  rw [List.reverse_append]
  show (if (S1.reverse.length = n0 ∧ S1.reverse.all (Ob.below n0) = true) ∧ acc.length ≤ Lim then some (acc, S1.reverse.reverse) else none) = _
  rw [if_pos ⟨⟨by rw [List.length_reverse]; exact h1, by rw [List.all_reverse]; exact h2⟩, h3⟩, List.reverse_reverse]
def lLc2 (src : Fe Src) (gg : Gt) (t : Fe Bool) (src1 : Fe Src) (g1 : Gt) (t1 : Fe Bool) (f : Fe RV) (vs vs1 : List Nat) : Fe (List D) := fun ρ S => (src ρ S).bind fun p => (lc2Go p.2.length p.1 gg t src1 g1 t1 f vs1 (wipeE ρ vs) p.1.ds (p.2 ++ [.lst []])).bind (endK p.2.length)
section
variable {X : Cx} {tb : Tbs}
theorem tl_lc2 {src src1 : Fe Src} {gg g1 : Gt} {sl sl1 vs vs1 : List Nat} {t t1 : Fe Bool} {f : Fe RV} (hsl : ∀ i ∈ sl, i ∈ vs) (hsl1 : ∀ i ∈ sl1, i ∈ vs1) {σ : L2.St} {H : Hp} {Q : VK} (q : TL tb X (lLc2 src gg t src1 g1 t1 f vs vs1) σ H Q) :
    tLc2 (TIs tb X lz src) (TGr tb X lz sl gg) (TB tb X t) (TIs tb X lz1 src1) (TGr tb X lz1 sl1 g1) (TB tb X t1) (TV tb X f) vs vs1 σ H Q := by
  obtain ⟨ρ, R, m, S, res, S', hE, hS, e, k⟩ := q
  obtain ⟨⟨s, S1⟩, e1, e2⟩ := bind_some e
  obtain ⟨S2, e3, e4⟩ := bind_some e2
  obtain ⟨h2, h1, h3, h4⟩ := endK_some e4
  have h1' : S'.length = S1.length := h1
  subst h2
  refine tl2_core hsl hsl1 hE hS e1 e3 fun D H1 R1 m1 H2 R2 m2 hD x1 s1 x2 s2 => ?_
  have hl : m2 = m1 ++ [D] := by
    obtain ⟨ex, hex⟩ := x2.pre
    have a1 := s2.len
    have a2 := s1.len
    rw [hex] at a1
    simp only [List.length_append, List.length_cons, List.length_nil] at a1
    have : ex = [] := List.length_eq_zero_iff.mp (by
      have a3 : (S' ++ [Ob.lst res]).length = S'.length + 1 := by simp
      omega)
    rw [hex, this, List.append_nil]
  subst hl
  obtain ⟨y1, y2, y3⟩ := unown hD s1 x2 s2 (by rw [s1.len]; exact h3)
  have hlen : (m1 ++ [D]).length = (S' ++ [Ob.lst res]).length := s2.len
  obtain ⟨us, g1, g2⟩ := s2.at_ m1.length D (.lst res) (by simp) (by simp at hlen; rw [hlen]; simp)
  have := k D us (er H2 D) _ m1 (x1.trans y1) y2 er_same (g2.er y3) h4
  rwa [er_upd g1] at this
theorem LC2T {elt tg iter tg1 iter1 : Expr} {ifs ifs1 : List Expr} {scope : Scope} {pos : Pos} {src src1 : Fe Src} {gg g1 : Gt} {sl sl1 : List Nat} {t t1 : Fe Bool} {f : Fe RV} (ow : List (Str × Nat)) (vs1 : List Nat) (hN : X.N.Nodup) (ok : blkC X.N X.env.scope scope ow = true) (hi : PI X tg iter (TIs tb X lz src))
    (hg : ∀ (s : Shared) (H : Hp) (C : Addr) (cl : List (Str × Addr)) (fp : List Addr), PG (X.blk s H scope (compEnvC scope cl C X.env) fp) tg (TGr tb X lz sl gg)) (ht : ∀ (s : Shared) (H : Hp) (C : Addr) (cl : List (Str × Addr)) (fp : List Addr), PTs (X.blk s H scope (compEnvC scope cl C X.env) fp) ifs (TB tb X t))
    (hi1 : ∀ (s : Shared) (H : Hp) (C : Addr) (cl : List (Str × Addr)) (fp : List Addr), PI (X.blk s H scope (compEnvC scope cl C X.env) fp) tg1 iter1 (TIs tb X lz1 src1))
    (hg1 : ∀ (s : Shared) (H : Hp) (C : Addr) (cl : List (Str × Addr)) (fp : List Addr), PG (X.blk s H scope (compEnvC scope cl C X.env) fp) tg1 (TGr tb X lz1 sl1 g1)) (ht1 : ∀ (s : Shared) (H : Hp) (C : Addr) (cl : List (Str × Addr)) (fp : List Addr), PTs (X.blk s H scope (compEnvC scope cl C X.env) fp) ifs1 (TB tb X t1))
    (he : ∀ (s : Shared) (H : Hp) (C : Addr) (cl : List (Str × Addr)) (fp : List Addr), PE (X.blk s H scope (compEnvC scope cl C X.env) fp) elt (TV tb X f)) (hc : X.calm = true := by rfl) (hsl : ∀ i ∈ sl, i ∈ ow.map (·.2) := by decide) (hsl1 : ∀ i ∈ sl1, i ∈ vs1 := by decide) (hv : ∀ i ∈ vs1, i ∈ ow.map (·.2) := by decide)
    (hs : ∀ x, foldedSetIterable iter X.env x = pure x := by intro _; rfl) (hs1 : ∀ env x, foldedSetIterable iter1 env x = pure x := by intro _ _; rfl) :
    PE X (.ListComp elt [⟨tg, iter, ifs, 0⟩, ⟨tg1, iter1, ifs1, 0⟩] scope pos) (TL tb X (lLc2 src gg t src1 g1 t1 f (ow.map (·.2)) vs1)) :=
  pe_weak (pe_lc2 hc hN hi (blkOk_by ok) hv hg ht hi1 hg1 ht1 he hs hs1) fun σ H Q q => tl_lc2 hsl hsl1 q
theorem SC2T (i : Nat) {y : Str} {py : Pos} {elt tg iter tg1 iter1 : Expr} {ifs ifs1 : List Expr} {scope : Scope} {pos spos : Pos} {src src1 : Fe Src} {gg g1 : Gt} {sl sl1 : List Nat} {t t1 : Fe Bool} {f : Fe RV} {l : Fe RV} (ow : List (Str × Nat)) (vs1 : List Nat) (hh : ∀ σ H Q, TV tb X l σ H Q → TL tb X (lLc2 src gg t src1 g1 t1 f (ow.map (·.2)) vs1) σ H Q) (hN : X.N.Nodup) (ok : blkC X.N X.env.scope scope ow = true)
    (hsw : swapsWith (.ListComp elt [⟨tg, iter, ifs, 0⟩, ⟨tg1, iter1, ifs1, 0⟩] scope pos) (some (.Name y py)) spos.line X.env = pure true) (hi : PI X tg iter (TIs tb X lz src))
    (hg : ∀ (s : Shared) (H : Hp) (C : Addr) (cl : List (Str × Addr)) (fp : List Addr), PG (X.blk s H scope (compEnvC scope cl C X.env) fp) tg (TGr tb X lz sl gg)) (ht : ∀ (s : Shared) (H : Hp) (C : Addr) (cl : List (Str × Addr)) (fp : List Addr), PTs (X.blk s H scope (compEnvC scope cl C X.env) fp) ifs (TB tb X t))
    (hi1 : ∀ (s : Shared) (H : Hp) (C : Addr) (cl : List (Str × Addr)) (fp : List Addr), PI (X.blk s H scope (compEnvC scope cl C X.env) fp) tg1 iter1 (TIs tb X lz1 src1))
    (hg1 : ∀ (s : Shared) (H : Hp) (C : Addr) (cl : List (Str × Addr)) (fp : List Addr), PG (X.blk s H scope (compEnvC scope cl C X.env) fp) tg1 (TGr tb X lz1 sl1 g1)) (ht1 : ∀ (s : Shared) (H : Hp) (C : Addr) (cl : List (Str × Addr)) (fp : List Addr), PTs (X.blk s H scope (compEnvC scope cl C X.env) fp) ifs1 (TB tb X t1))
    (he : ∀ (s : Shared) (H : Hp) (C : Addr) (cl : List (Str × Addr)) (fp : List Addr), PE (X.blk s H scope (compEnvC scope cl C X.env) fp) elt (TV tb X f)) (hc : X.calm = true := by rfl) (hy : X.N[i]? = some y := by rfl) (hyl : X.env.scope.names.lookup y = some .local := by rfl) (hsl : ∀ i ∈ sl, i ∈ ow.map (·.2) := by decide) (hsl1 : ∀ i ∈ sl1, i ∈ vs1 := by decide) (hv : ∀ i ∈ vs1, i ∈ ow.map (·.2) := by decide)
    (hs : ∀ x, foldedSetIterable iter X.env x = pure x := by intro _; rfl) (hs1 : ∀ env x, foldedSetIterable iter1 env x = pure x := by intro _ _; rfl) :
    PS X (.Assign [.Name y py] (.ListComp elt [⟨tg, iter, ifs, 0⟩, ⟨tg1, iter1, ifs1, 0⟩] scope pos) spos) (TSf tb X (sAsg l (gN i))) := by
  refine ps_weak (ps_setLc2 hc hN hy hyl hsw hi (blkOk_by ok) hv hg ht hi1 hg1 ht1 he hs hs1) fun D σ H ⟨ρ, R, m, S, fl, ρ', S', hE, hS, e, k⟩ => ?_
  obtain ⟨⟨x, S1⟩, e1, e2⟩ := bind_some e
  cases e2
  refine tl_lc2 hsl hsl1 (hh _ _ _ ⟨ρ, R, m, S, x, S1, hE, hS, e1, fun v H1 R1 m1 x1 s1 r1 => ?_⟩)
  exact k _ H1 R1 m1 x1 s1 ((hE.ext x1 hS.sub).set i r1)
end
end Ev

/-! The evaluator, part AB: owned lists handed to defs that change nothing. -/
namespace Ev
open PySem PySem.Spec PyProof.Rows L2
mutual
/-- no list in it -/
def D.noL : D → Bool
  | .lst _ => false
  | .tup ds => D.noLs ds
  | _ => true
def D.noLs : List D → Bool
  | [] => true
  | d :: ds => d.noL && D.noLs ds
end
def lookDs : List RV → Sto → Option (List D)
  | [], _ => some []
  | r :: rs, S => (look r S).bind fun d => (lookDs rs S).map fun ds => d :: ds
def oPX (n : Nat) (Fn : List D → Option PR) (rs : List RV) (S : Sto) : Option RV := (lookDs rs S).bind fun ds => if ds.length = n then (Fn ds).bind fun r => match r with
  | .v x => if x.noL = true then some (.d x) else none
  | .l _ => none
  else none
def eCallPX (n : Nat) (Fn : List D → Option PR) (h : Fe (List RV)) : Fe RV := fMap h fun rs S => oPX n Fn rs S
section
variable {P : Program} {w : World} {K : PySem.W.Frag} {tb : Tbs} {H : Hp} {R R' m : List Addr} {S : Sto}
/-- the addresses of the owned things handed over -/
def ownAt (m : List Addr) (rs : List RV) : List Addr := rs.filterMap fun r => match r with
  | .o n => m[n]?
  | _ => none
theorem ownAt_lst (hS : Sim tb P w K H R m S) : ∀ {rs : List RV} {ds : List D}, lookDs rs S = some ds → ∀ a ∈ ownAt m rs, ∃ us, H a = some (.lst us)
  | [], _, _, a, h => by simp [ownAt] at h
  | r :: rs, ds, e, a, h => by
    unfold lookDs at e
    obtain ⟨d, e1, e2⟩ := bind_some e
    obtain ⟨ds', e3, rfl⟩ := Option.map_eq_some_iff.mp e2
    unfold ownAt at h
    rw [List.filterMap_cons] at h
    cases r with
    | d x => exact ownAt_lst hS e3 a h
    | t n => exact ownAt_lst hS e3 a h
    | fn f => exact ownAt_lst hS e3 a h
    | o n =>
      simp only at h
      cases hm : m[n]? with
      | none => rw [hm] at h; exact ownAt_lst hS e3 a h
      | some b =>
        rw [hm] at h
        rcases List.mem_cons.mp h with rfl | h
        · unfold look at e1
          split at e1
          · rename_i q; cases q
          · rename_i k q
            cases q
            split at e1
            · rename_i us hn
              obtain ⟨vs, h1, h2⟩ := hS.at_ n a _ hm hn
              exact ⟨vs, h1⟩
            · cases e1
          · cases e1
          · cases e1
        · exact ownAt_lst hS e3 a h
theorem Rep.down (hs : ∀ a ∈ R', a ∈ R) {d : D} {v : L2.V} (r : Rep K H R d v) : Rep K H R' d v := Rep.mono (fun _ _ _ e _ => e) (fun a h => .inl (hs a h)) r
theorem Reps.down (hs : ∀ a ∈ R', a ∈ R) {d : List D} {v : List L2.V} (r : Reps K H R d v) : Reps K H R' d v := Reps.mono (fun _ _ _ e _ => e) (fun a h => .inl (hs a h)) r
theorem lookDs_reps (hS : Sim tb P w K H R m S) (hs : ∀ a ∈ R', a ∈ R) : ∀ {rs : List RV} {vs : List L2.V} {ds : List D}, RepVs tb K H R m rs vs → lookDs rs S = some ds → (∀ a ∈ ownAt m rs, a ∉ R') → Reps K H R' ds vs
  | _, _, _, .nil, e, _ => by cases e; exact .nil
  | r :: rs, _, ds, .cons (v := v) h t, e, ho => by
    unfold lookDs at e
    obtain ⟨d, e1, e2⟩ := bind_some e
    obtain ⟨ds', e3, rfl⟩ := Option.map_eq_some_iff.mp e2
    refine .cons ?_ (lookDs_reps hS hs t e3 fun a ha => ho a ?_)
    · cases r with
      | d x => cases e1; exact Rep.down hs h
      | t n => cases e1
      | fn f => cases e1
      | o n =>
        obtain ⟨a, h1, rfl⟩ := h
        have hn : a ∉ R' := ho a (by unfold ownAt; rw [List.filterMap_cons]; simp only [h1]; exact List.mem_cons_self)
        unfold look at e1
        split at e1
        · rename_i q; cases q
        · rename_i k q
          cases q
          split at e1
          · rename_i us hn2
            cases e1
            obtain ⟨vs, h3, h4⟩ := hS.at_ n a _ h1 hn2
            exact .lst (.inl h3) hn (Reps.down hs h4)
          · cases e1
        · cases e1
        · cases e1
    · unfold ownAt at ha ⊢
      rw [List.filterMap_cons]
      split
      · exact ha
      · exact List.mem_cons_of_mem _ ha
mutual
theorem Rep.up (hu : ∀ a ∈ R, a ∈ R' ∨ ∃ us, H a = some (.lst us)) : ∀ {d : D} {v : L2.V}, d.noL = true → Rep K H R' d v → Rep K H R d v
  | _, _, _, .non => .non
  | _, _, _, .bl b => .bl b
  | _, _, _, .int i => .int i
  | _, _, _, .str x => .str x
  | _, _, q, .tup h n r => .tup h (fun z => (hu _ z).elim n fun ⟨us, e⟩ => by obtain ⟨o, _, h⟩ := h; rw [h] at e; cases e) (Reps.up hu (by unfold D.noL at q; exact q) r)
  | _, _, q, .tupK h r => .tupK h (Reps.up hu (by unfold D.noL at q; exact q) r)
  | _, _, q, .lst _ _ _ => by simp [D.noL] at q
  | _, _, q, .lstK _ _ => by simp [D.noL] at q
theorem Reps.up (hu : ∀ a ∈ R, a ∈ R' ∨ ∃ us, H a = some (.lst us)) : ∀ {d : List D} {v : List L2.V}, D.noLs d = true → Reps K H R' d v → Reps K H R d v
  | _, _, _, .nil => .nil
  | _, _, q, .cons h r => by
    unfold D.noLs at q
    rw [Bool.and_eq_true] at q
    exact .cons (Rep.up hu q.1 h) (Reps.up hu q.2 r)
end
end
section
variable {X : Cx} {tb : Tbs} {e : Expr} {es : List Expr} {pos p : Pos} {x : Str} {h : Fe (List RV)} {fd : FuncData} {ps : List Str} {k n : Nat} {fa : Addr} {FP : List D → Option PR} {E : XK}
theorem tv_callPX {σ : L2.St} {H : Hp} {Q : VK} (q : TV tb X (eCallPX n FP h) σ H Q) : tCall (spP tb X.K n FP) [] E (TAs tb X h) σ H Q := by
  obtain ⟨ρ, R, m, S, res, S', hE, hS, e, kk⟩ := q
  obtain ⟨rs, e1, e2⟩ := fMap_some e
  obtain ⟨ds, e3, e4⟩ := bind_some e2
  split at e4
  · rename_i hl
    obtain ⟨r, e5, e6⟩ := bind_some e4
    refine ⟨ρ, R, m, S, rs, S', hE, hS, e1, fun vs H1 R1 m1 x1 s1 r1 => ?_⟩
    show spP tb X.K n FP (vs ++ []) H1 Q E
    rw [List.append_nil]
    cases r with
    | l xs => cases e6
    | v y =>
      simp only at e6
      split at e6
      · rename_i hno
        cases e6
        have own := ownAt_lst s1 e3
        have hsub : ∀ a ∈ R1.filter (fun a => decide (a ∉ ownAt m1 rs)), a ∈ R1 := fun a ha => (List.mem_filter.mp ha).1
        have hup : ∀ a ∈ R1, a ∈ R1.filter (fun a => decide (a ∉ ownAt m1 rs)) ∨ ∃ us, H1 a = some (.lst us) := fun a ha => by
          by_cases hc : a ∈ ownAt m1 rs
          · exact .inr (own a hc)
          · exact .inl (List.mem_filter.mpr ⟨ha, decide_eq_true hc⟩)
        refine ⟨_, ds, .v y, fun a ha => s1.live a (hsub a ha), s1.tabs.mono (fun a o ha e => e) (fun a h => .inl (hsub a h)), lookDs_reps s1 hsub r1 e3 (fun a ha hc => of_decide_eq_true (List.mem_filter.mp hc).2 ha), hl, e5, fun v H' kp kt rx => ?_⟩
        have hup' : ∀ a ∈ R1, a ∈ R1.filter (fun a => decide (a ∉ ownAt m1 rs)) ∨ ∃ us, H' a = some (.lst us) := fun a ha => (hup a ha).imp id fun ⟨us, e⟩ => ⟨us, kp.keep a _ e noT_lst⟩
        have kt' : TabsR tb H' R1 := fun p hp => by
          obtain ⟨h1, ps, h2, h3, h4⟩ := kt p hp
          refine ⟨fun z => (hup' _ z).elim h1 fun ⟨us, e⟩ => (by rw [h2] at e; cases e), ps, h2, h3, fun pos cv hc => ?_⟩
          obtain ⟨c, g1, g2, g3⟩ := h4 pos cv hc
          exact ⟨c, g1, fun z => (hup' _ z).elim g2 fun ⟨us, e⟩ => (by rw [g3] at e; cases e), g3⟩
        exact kk v H' R1 m1 (x1.trans kp.ext) (s1.keep kp kt') (Rep.up hup' hno rx)
      · cases e6
  · cases e4
theorem CPX (c : Cal X.prog X.w X.K X.mg X.base k x (spP tb X.K n FP)) (hr : Room k X.A) (ha : PA X (e :: es) (TAs tb X h)) (hg : Gl X x := by rfl) (hdb : (x == ("__debug__" : Str)) = false := by decide) (he : starEach (e :: es) X.env = (false, eval e X.env) :: starEach es X.env := by rfl) (hpl : (backTo pos (starEach es X.env)).any (·.1) = false := by rfl) :
    PE X (.Call (.Name x p) (e :: es) [] pos) (TV tb X (eCallPX n FP h)) := by
  obtain ⟨fa, fd, ps, F, h1, h2, h3⟩ := c.ex
  exact pe_weak (pe_call F hr hg h1 h2 h3 .nil pass0 ha hdb he hpl) fun _ _ _ => tv_callPX
end
/-! ### its value -/
theorem eCallPX_ {n : Nat} {FP : List D → Option PR} {la : Fe (List RV)} {ρ : Env'} {S : Sto} : eCallPX n FP la ρ S = (la ρ S).bind (fun z => (oPX n FP z.1 z.2).bind fun y => some (y, z.2)) := (rfl)
theorem oPX_ {n : Nat} {FP : List D → Option PR} {rs : List RV} {S : Sto} {ds : List D} {x : D} (h1 : lookDs rs S = some ds) (h2 : ds.length = n) (h3 : FP ds = some (.v x)) (h4 : x.noL = true) : oPX n FP rs S = some (.d x) := by
  unfold oPX
  rw [h1, Option.bind_some, if_pos h2, h3, Option.bind_some]
  exact if_pos h4
theorem lookDs_n {S : Sto} : lookDs [] S = some [] := (rfl)
theorem lookDs_d {d : D} {rs : List RV} {S : Sto} : lookDs (.d d :: rs) S = (lookDs rs S).map fun ds => d :: ds := (rfl)
theorem lookDs_o {n : Nat} {ds : List D} {rs : List RV} {S : Sto} (h : S[n]? = some (.lst ds)) : lookDs (.o n :: rs) S = (lookDs rs S).map fun es => .lst ds :: es := by
  show (look (.o n) S).bind _ = _
  unfold look
  simp only [h]
  rfl
end Ev

/-! The evaluator, part AC: dicts with keys of ints and texts; extend, index, pop(i), bit_length; chains of three. -/
namespace Ev
open PySem PySem.Spec PyProof.Rows L2
def isDK (r : RV) (S : Sto) : Option (Nat × List (D × D)) := match r with
  | .o n => (match S[n]? with
    | some (.dct kvs) => some (n, kvs)
    | _ => none)
  | _ => none
def kKey (r : RV) : Option D := match r with
  | .d x => if x.toK.isSome = true then some x else none
  | _ => none
section
variable {P : Program} {w : World} {K : PySem.W.Frag} {tb : Tbs} {H : Hp} {R m : List Addr} {S : Sto} {r : RV} {v : L2.V} {n : Nat} {kvs : List (D × D)} {d : D}
theorem dk_view (hS : Sim tb P w K H R m S) (h : RepV tb K H R m r v) (e : isDK r S = some (n, kvs)) : ∃ a kv', v = .ref a ∧ m[n]? = some a ∧ H a = some (.dK kv') ∧ DRel K H R kvs kv' ∧ S[n]? = some (.dct kvs) := by
  unfold isDK at e
  split at e
  · split at e
    · rename_i hn
      cases e
      obtain ⟨a, h1, rfl⟩ := h
      obtain ⟨xs, h2, h3⟩ := hS.at_ _ a _ h1 hn
      exact ⟨a, xs, rfl, h1, h2, h3, hn⟩
    · cases e
  · cases e
theorem rep_key {k : Key} (h : Rep K H R (Ev.D.ofKey k) v) : v = kV k := by
  cases k with
  | inl j => cases h; rfl
  | inr j => cases h; rfl
theorem kKey_view (h : RepV tb K H R m r v) (e : kKey r = some d) : ∃ k, v = kV k ∧ d = Ev.D.ofKey k := by
  unfold kKey at e
  split at e
  · split at e
    · rename_i hk
      cases e
      obtain ⟨k, hk⟩ := Option.isSome_iff_exists.mp hk
      have := Ev.D.toK_of hk
      subst this
      exact ⟨k, rep_key h, rfl⟩
    · cases e
  · cases e
theorem DRel.at (k : Key) : ∀ {kvs : List (D × D)} {kv' : List (Key × L2.V)}, DRel K H R kvs kv' → (∀ d, dGet kvs (Ev.D.ofKey k) = some d → ∃ v, valV kv' k = some v ∧ Rep K H R d v) ∧ (dGet kvs (Ev.D.ofKey k)).isSome = (valV kv' k).isSome
  | _, _, .nil => ⟨fun d h => by simp [dGet] at h, rfl⟩
  | _, _, .cons (a := p) (b := q) h t => by
    have e2 : ∀ qs : List (Key × L2.V), valV (q :: qs) k = if q.1 = k then some q.2 else valV qs k := fun qs => by
      unfold valV
      rw [List.find?_cons]
      by_cases e : q.1 = k <;> simp [e]
    rw [dGet_cons, e2, h.1]
    by_cases e : q.1 = k
    · rw [if_pos (by rw [e]), if_pos e]
      exact ⟨fun d hd => by cases hd; exact ⟨q.2, rfl, h.2⟩, rfl⟩
    · rw [if_neg (fun z => e (ofKey_inj.mp z)), if_neg e]
      exact DRel.at k t
end
def vIxK : Op2 := fun x y S => (isDK x S).bind fun q => (kKey y).bind fun d => (dGet q.2 d).map RV.d
def vInK (ng : Bool) : Op2 := fun x y S => (isDK y S).bind fun q => (kKey x).bind fun d => some (.d (.bl (if ng = true then !(dGet q.2 d).isSome else (dGet q.2 d).isSome)))
def rInK (ng : Bool) : R2 := fun x y H Q => ∃ (a : Addr) (o : Option L2.V), y = .ref a ∧ DGet H a x o ∧ Q (.bl (if ng = true then !o.isSome else o.isSome)) H
def rIxK : R2 := fun x y H Q => ∃ (a : Addr) (v : L2.V), x = .ref a ∧ DGet H a y (some v) ∧ Q v H
section
variable {X : Cx} {tb : Tbs} {a b c o e : Expr} {f g h fo fi : Fe RV} {pos apos cpos p : Pos}
theorem op_inK (hu : X.A.units + 65 < cLine) : OpR X (compareOp .In) (rInK false) := by
  intro pins s σ H x y v u Q I rx ry h
  obtain ⟨a, o, rfl, e, q⟩ := h
  cases ry
  exact d_in (by omega) I e rx fun s' I' => ⟨.bl _, H, I', rfl, q⟩
theorem op_ninK (hu : X.A.units + 65 < cLine) : OpR X (compareOp .NotIn) (rInK true) := by
  intro pins s σ H x y v u Q I rx ry h
  obtain ⟨a, o, rfl, e, q⟩ := h
  cases ry
  exact d_notIn (by omega) I e rx fun s' I' => ⟨.bl _, H, I', rfl, q⟩
theorem ov_inK (ng : Bool) : OpV tb X (rInK ng) (vInK ng) := by
  intro H R m S x y v u res hS hx hy e Q k
  obtain ⟨⟨n, kvs⟩, e1, e⟩ := bind_some e
  obtain ⟨d, e2, e⟩ := bind_some e
  cases e
  obtain ⟨a, kv', rfl, h1, h2, h3, h4⟩ := dk_view hS hy e1
  obtain ⟨key, rfl, rfl⟩ := kKey_view hx e2
  refine ⟨a, valV kv' key, rfl, DGet.k h2, ?_⟩
  rw [← (DRel.at key h3).2]
  exact k _ _ .refl hS (.bl _)
theorem IXK (hu : X.A.units + 65 < cLine) (ha : PE X a (TV tb X f)) (hb : PE X b (TV tb X g)) (hs : NoSl b := by intro _ _; rfl) : PE X (.Subscript a b pos) (TV tb X (eBin vIxK f g)) :=
  pe_weak (pe_dget (by omega) ha hb hs) fun σ H Q q => by
    have hv : OpV tb X rIxK vIxK := by
      intro H R m S x y v u res hS hx hy e Q k
      obtain ⟨⟨n, kvs⟩, e1, e⟩ := bind_some e
      obtain ⟨d, e2, e⟩ := bind_some e
      obtain ⟨z, e3, rfl⟩ := Option.map_eq_some_iff.mp e
      obtain ⟨a, kv', rfl, h1, h2, h3, h4⟩ := dk_view hS hx e1
      obtain ⟨key, rfl, rfl⟩ := kKey_view hy e2
      obtain ⟨w, h5, h6⟩ := (DRel.at key h3).1 z e3
      exact ⟨a, w, rfl, h5 ▸ DGet.k h2, k _ _ .refl hS h6⟩
    exact tv_bin hv q
def eNewK : Fe RV := fun _ S => some (.o S.length, S ++ [.dct []])
theorem e_newK : PE X (.Dict [] [] pos) (TV tb X eNewK) := pe_weak pe_dnewK fun σ H Q ⟨ρ, R, m, S, r, S', hE, hS, e, k⟩ => by
  cases e
  intro p hp
  refine k _ _ _ _ (.own hp) (hS.own hp ⟨[], upd_same, .nil⟩) ⟨p, ?_, rfl⟩
  rw [← hS.len, List.getElem?_append_right (Nat.le_refl _), Nat.sub_self]
  rfl
def sSubK (fo fi fe : Fe RV) : Fs := fun ρ S => (fe ρ S).bind fun v => (fo ρ v.2).bind fun o => (fi ρ o.2).bind fun i => (isDK o.1 i.2).bind fun q => (kKey i.1).bind fun k => match v.1 with
  | .d d => if q.2.length < Lim then some (.nx, ρ, i.2.set q.1 (.dct (dPut q.2 k d))) else none
  | _ => none
theorem SK {pos' : Pos} {f : Fe RV} (hu : X.A.units + 65 < cLine) (ho : PE X o (TV tb X fo)) (hi : PE X a (TV tb X fi)) (he : PE X e (TV tb X f)) (hs : swapsWith e (some (.Subscript o a pos')) pos.line X.env = pure false := by rfl) :
    PS X (.Assign [.Subscript o a pos'] e pos) (TSf tb X (sSubK fo fi f)) := ps_weak (ps_dput (by omega) ho hi he hs) fun D σ H ⟨ρ, R, m, S, fl, ρ', S', hE, hS, e, k⟩ => by
  obtain ⟨⟨v, S1⟩, e1, ea⟩ := bind_some e
  obtain ⟨⟨ov, S2⟩, e2, eb⟩ := bind_some ea
  obtain ⟨⟨iv, S3⟩, e3, ec⟩ := bind_some eb
  obtain ⟨⟨n, kvs⟩, e4, ed⟩ := bind_some ec
  obtain ⟨kk, e5, ee⟩ := bind_some ed
  clear e ea eb ec ed
  refine ⟨ρ, R, m, S, v, S1, hE, hS, e1, fun vv H1 R1 m1 x1 s1 r1 => ?_⟩
  have E1 := hE.ext x1 hS.sub
  refine ⟨ρ, R1, m1, S1, ov, S2, E1, s1, e2, fun oo H2 R2 m2 x2 s2 r2 => ?_⟩
  have E2 := E1.ext x2 s1.sub
  refine ⟨ρ, R2, m2, S2, iv, S3, E2, s2, e3, fun ii H3 R3 m3 x3 s3 r3 => ?_⟩
  have E3 := E2.ext x3 s2.sub
  simp only at ee
  split at ee
  · rename_i d
    split at ee
    · rename_i hl
      cases ee
      obtain ⟨a, kv', rfl, h1, h2, h3, h4⟩ := dk_view s3 (r2.ext x3 s2.sub) e4
      obtain ⟨key, rfl, rfl⟩ := kKey_view r3 e5
      have rd : Rep X.K H3 R3 d vv := RepV.ext x3 s2.sub (RepV.ext x2 s1.sub r1)
      have hm := List.mem_of_getElem? h1
      have x4 := Ext.chg (H := H3) (R := R3) (o := .dK (putK kv' key vv)) hm (by rw [h2]; intro z; cases z)
      refine ⟨a, upd H3 a (.dK (putK kv' key vv)), rfl, .inl ⟨kv', key, h2, rfl, by rw [lim_eq, ← DRel.len h3]; exact hl, rfl⟩, ?_⟩
      refine k _ _ _ _ (((x1.trans x2).trans x3).trans x4) (s3.chg h1 ⟨_, upd_same, ?_⟩) (E3.ext x4 s3.sub)
      exact Paired.mapP (DRel.put (k := key) rd h3) fun _ _ z => ⟨z.1, Rep.ext x4 s3.sub z.2⟩
    · cases ee
  · cases ee
/-! ### displays of one or two pairs -/
def kPair (k v : RV) : Option (D × D) := match k, v with
  | .d x, .d y => if x.toK.isSome = true then some (x, y) else none
  | _, _ => none
theorem kPair_some {k v : RV} {q : D × D} (h : kPair k v = some q) : k = .d q.1 ∧ v = .d q.2 ∧ ∃ key, q.1 = Ev.D.ofKey key := by
  unfold kPair at h
  split at h
  · split at h
    · rename_i hk
      cases h
      obtain ⟨key, hk⟩ := Option.isSome_iff_exists.mp hk
      exact ⟨rfl, rfl, key, Ev.D.toK_of hk⟩
    · cases h
  · cases h
def eDis1 (fk fv : Fe RV) : Fe RV := fun ρ S => (fk ρ (S ++ [.dct []])).bind fun k => (fv ρ k.2).bind fun v => (kPair k.1 v.1).bind fun q => match v.2[S.length]? with
  | some (.dct []) => some (.o S.length, v.2.set S.length (.dct [q]))
  | _ => none
theorem e_dis1 (hk : PE X a (TV tb X f)) (hv : PE X b (TV tb X g)) : PE X (.Dict [some a] [b] pos) (TV tb X (eDis1 f g)) :=
  pe_weak (pe_disp (pps_cons hk hv pps_nil) rfl rfl (by simp) (by simp)) fun σ H Q ⟨ρ, R, m, S, r, S', hE, hS, e, kk⟩ => by
    obtain ⟨⟨kv, S1⟩, e1, e⟩ := bind_some e
    obtain ⟨⟨vv, S2⟩, e2, e⟩ := bind_some e
    obtain ⟨q, e3, ee⟩ := bind_some e
    obtain ⟨rfl, rfl, key, hkey⟩ := kPair_some e3
    simp only at ee
    split at ee
    · rename_i hn
      cases ee
      intro p hp
      have x0 : Ext H R m (upd H p (.dK [])) (p :: R) (m ++ [p]) := .own hp
      have s0 := hS.own (o := .dK []) (ob := .dct []) hp ⟨[], upd_same, .nil⟩
      refine ⟨ρ, p :: R, m ++ [p], S ++ [.dct []], .d q.1, S1, hE.ext x0 hS.sub, s0, e1, fun kx H1 R1 m1 x1 s1 r1 => ?_⟩
      refine ⟨ρ, R1, m1, S1, .d q.2, S2, (hE.ext x0 hS.sub).ext x1 s0.sub, s1, e2, fun vx H2 R2 m2 x2 s2 r2 => ?_⟩
      have hidx : m2[S.length]? = some p := (x1.trans x2).idx (by rw [← hS.len]; simp)
      obtain ⟨us, h1, h2⟩ := s2.at_ _ p _ hidx hn
      cases h2
      have r1' : Rep X.K H2 R2 q.1 kx := RepV.ext (d := .d q.1) x2 s1.sub r1
      rw [hkey] at r1'
      have ek := rep_key r1'
      subst ek
      refine ⟨h1, [(key, vx)], rfl, by simp, ?_⟩
      have x3 := Ext.chg (H := H2) (R := R2) (o := .dK (mergeK [] [(key, vx)])) (List.mem_of_getElem? hidx) (by rw [h1]; intro z; cases z)
      refine kk _ _ _ _ (((x0.trans x1).trans x2).trans x3) (s2.chg hidx ⟨_, upd_same, ?_⟩) ⟨p, x3.idx hidx, rfl⟩
      exact .cons ⟨hkey, Rep.ext x3 s2.sub r2⟩ .nil
    · cases ee
def eDis2 (fk fv fk2 fv2 : Fe RV) : Fe RV := fun ρ S => (fk ρ (S ++ [.dct []])).bind fun k => (fv ρ k.2).bind fun v => (kPair k.1 v.1).bind fun q => (fk2 ρ v.2).bind fun k2 => (fv2 ρ k2.2).bind fun v2 => (kPair k2.1 v2.1).bind fun q2 => match v2.2[S.length]? with
  | some (.dct []) => some (.o S.length, v2.2.set S.length (.dct (dPut [q] q2.1 q2.2)))
  | _ => none
theorem e_dis2 {a2 b2 : Expr} {f2 g2 : Fe RV} (hk : PE X a (TV tb X f)) (hv : PE X b (TV tb X g)) (hk2 : PE X a2 (TV tb X f2)) (hv2 : PE X b2 (TV tb X g2)) : PE X (.Dict [some a, some a2] [b, b2] pos) (TV tb X (eDis2 f g f2 g2)) :=
  pe_weak (pe_disp (pps_cons hk hv (pps_cons hk2 hv2 pps_nil)) rfl rfl (by simp) (by simp)) fun σ H Q ⟨ρ, R, m, S, r, S', hE, hS, e, kk⟩ => by
    obtain ⟨⟨kv, S1⟩, e1, e⟩ := bind_some e
    obtain ⟨⟨vv, S2⟩, e2, e⟩ := bind_some e
    obtain ⟨q, e3, e⟩ := bind_some e
    obtain ⟨⟨kv2, S3⟩, e4, e⟩ := bind_some e
    obtain ⟨⟨vv2, S4⟩, e5, e⟩ := bind_some e
    obtain ⟨q2, e6, ee⟩ := bind_some e
    obtain ⟨rfl, rfl, key, hkey⟩ := kPair_some e3
    obtain ⟨rfl, rfl, key2, hkey2⟩ := kPair_some e6
    simp only at ee
    split at ee
    · rename_i hn
      cases ee
      intro p hp
      have x0 : Ext H R m (upd H p (.dK [])) (p :: R) (m ++ [p]) := .own hp
      have s0 := hS.own (o := .dK []) (ob := .dct []) hp ⟨[], upd_same, .nil⟩
      have E0 := hE.ext x0 hS.sub
      refine ⟨ρ, p :: R, m ++ [p], S ++ [.dct []], .d q.1, S1, E0, s0, e1, fun kx H1 R1 m1 x1 s1 r1 => ?_⟩
      have E1 := E0.ext x1 s0.sub
      refine ⟨ρ, R1, m1, S1, .d q.2, S2, E1, s1, e2, fun vx H2 R2 m2 x2 s2 r2 => ?_⟩
      have E2 := E1.ext x2 s1.sub
      refine ⟨ρ, R2, m2, S2, .d q2.1, S3, E2, s2, e4, fun kx2 H3 R3 m3 x3 s3 r3 => ?_⟩
      have E3 := E2.ext x3 s2.sub
      refine ⟨ρ, R3, m3, S3, .d q2.2, S4, E3, s3, e5, fun vx2 H4 R4 m4 x4 s4 r4 => ?_⟩
      have hidx : m4[S.length]? = some p := (((x1.trans x2).trans x3).trans x4).idx (by rw [← hS.len]; simp)
      obtain ⟨us, h1, h2⟩ := s4.at_ _ p _ hidx hn
      cases h2
      have r1' : Rep X.K H4 R4 q.1 kx := RepV.ext (d := .d q.1) x4 s3.sub (RepV.ext (d := .d q.1) x3 s2.sub (RepV.ext (d := .d q.1) x2 s1.sub r1))
      have r2' : Rep X.K H4 R4 q.2 vx := RepV.ext (d := .d q.2) x4 s3.sub (RepV.ext (d := .d q.2) x3 s2.sub r2)
      have r3' : Rep X.K H4 R4 q2.1 kx2 := RepV.ext (d := .d q2.1) x4 s3.sub r3
      rw [hkey] at r1'
      rw [hkey2] at r3'
      have ek := rep_key r1'
      have ek2 := rep_key r3'
      subst ek ek2
      refine ⟨h1, [(key, vx), (key2, vx2)], rfl, by simp, ?_⟩
      have x5 := Ext.chg (H := H4) (R := R4) (o := .dK (mergeK [] [(key, vx), (key2, vx2)])) (List.mem_of_getElem? hidx) (by rw [h1]; intro z; cases z)
      refine kk _ _ _ _ (((((x0.trans x1).trans x2).trans x3).trans x4).trans x5) (s4.chg hidx ⟨_, upd_same, ?_⟩) ⟨p, x5.idx hidx, rfl⟩
      have : DRel X.K H4 R4 (dPut [q] q2.1 q2.2) (putK [(key, vx)] key2 vx2) := by
        rw [hkey2]
        exact DRel.put r4 (.cons ⟨hkey, r2'⟩ .nil)
      exact Paired.mapP this fun _ _ z => ⟨z.1, Rep.ext x5 s4.sub z.2⟩
    · cases ee
/-! ### bit_length -/
def vBits : RV → Sto → Option RV := fun x _ => match x with
  | .d (.int i) => some (.d (.int (Builtin.Int.intBits i : Nat)))
  | _ => none
def eBits (f : Fe RV) : Fe RV := fMap f vBits
theorem e_bits (ho : PE X o (TV tb X f)) (hbase : attributeBase o "bit_length" X.env (eval o X.env) = eval o X.env := by rfl) (hline : (apos.endLine == pos.line) = true := by rfl) : PE X (.Call (.Attribute o "bit_length" apos) [] [] pos) (TV tb X (eBits f)) :=
  pe_weak (pe_bits ho hbase hline) fun σ H Q ⟨ρ, R, m, S, r, S', hE, hS, e, k⟩ => by
    obtain ⟨x, e1, e2⟩ := fMap_some e
    refine ⟨ρ, R, m, S, x, S', hE, hS, e1, fun v H1 R1 m1 x1 s1 r1 => ?_⟩
    unfold vBits at e2
    split at e2
    · cases e2
      cases r1
      exact ⟨_, rfl, k _ H1 R1 m1 x1 s1 (.int _)⟩
    · cases e2
/-! ### pop(i) -/
def oPopAt (ds : List D) (y : RV) (_ : Sto) : Option (RV × List D) := match y with
  | .d (.int i) => if -(2 ^ 63) ≤ i ∧ i < 2 ^ 63 then (ixN ds.length i).bind fun k => (ds[k]?).map fun d => (.d d, ds.eraseIdx k) else none
  | _ => none
theorem Reps.erase {K : PySem.W.Frag} {H : Hp} {R : List Addr} : ∀ {ds : List D} {vs : List L2.V} (i : Nat), Reps K H R ds vs → Reps K H R (ds.eraseIdx i) (vs.eraseIdx i)
  | _, _, _, .nil => .nil
  | _, _, 0, .cons _ r => r
  | _, _, i + 1, .cons h r => .cons h (Reps.erase i r)
theorem ixN_seq {i : Int} {n k : Nat} (h : ixN n i = some k) : seqIndex? i n = some k := by
  unfold ixN at h
  unfold seqIndex?
  split at h
  · split at h
    · cases h
      rename_i h1 h2
      first
        | simp only []; rw [if_neg (by omega)]; rw [if_pos (by omega)]
        | (split <;> simp_all <;> omega)
        | (simp_all; omega)
    · cases h
  · split at h
    · cases h
      rename_i h1 h2
      first
        | (split <;> simp_all <;> omega)
        | (simp_all; omega)
    · cases h
theorem e_popAt (ho : PE X o (TV tb X f)) (ha : PE X e (TV tb X g)) (hb : attributeBase o "pop" X.env (eval o X.env) = eval o X.env := by rfl) (hl : (apos.endLine == cpos.line) = true := by rfl) (hs : starEach [e] X.env = (false, eval e X.env) :: starEach [] X.env := by rfl) :
    PE X (.Call (.Attribute o "pop" apos) [e] [] cpos) (TV tb X (eMl1 oPopAt f g)) := by
  have hA : PA X [e] (TAs tb X (aCons g aNil)) := a_cons ha a_nil hs
  refine pe_weak (pe_bm PySem.F.plainAttrs_list PySem.F.slot_list_pop PySem.F.type_list_pop mt_popAt ho hA hb (by rw [hs]; rfl) hl hs rfl) fun σ H Q q => ?_
  refine tv_ml1 (fun H R m S a vs ds y yv z Q hS hr ha ry e k => ?_) q
  unfold oPopAt at e
  split at e
  · split at e
    · rename_i i hi
      obtain ⟨j, e1, e2⟩ := bind_some e
      obtain ⟨d, e3, rfl⟩ := Option.map_eq_some_iff.mp e2
      cases ry
      obtain ⟨v, h2, h3⟩ := hr.get e3
      exact ⟨a, vs, i, j, v, rfl, rfl, ha, hi.1, hi.2, by rw [← hr.length]; exact ixN_seq e1, h2, k v _ h3 (Reps.erase j hr)⟩
    · cases e
  · cases e
/-! ### extend by a new list -/
def eExt (f : Fe RV) (l : Fe (List D)) : Fe RV := fun ρ S => (f ρ S).bind fun p => (isObjL p.1 p.2).bind fun q => (l ρ p.2).bind fun y => (isObjL p.1 y.2).bind fun q2 => if q2.2.length + y.1.length ≤ Lim then some (.d .non, y.2.set q2.1 (.lst (q2.2 ++ y.1))) else none
theorem e_ext {l : Fe (List D)} (ho : PE X o (TV tb X f)) (ha : PE X e (TL tb X l)) (hb : attributeBase o "extend" X.env (eval o X.env) = eval o X.env := by rfl) (hl : (apos.endLine == cpos.line) = true := by rfl) (hs : starEach [e] X.env = (false, eval e X.env) :: starEach [] X.env := by rfl) :
    PE X (.Call (.Attribute o "extend" apos) [e] [] cpos) (TV tb X (eExt f l)) := by
  refine pe_weak (pe_bm PySem.F.plainAttrs_list PySem.F.slot_list_extend PySem.F.type_list_extend mt_extend ho (pa_cons ha pa_nil hs) hb (by rw [hs]; rfl) hl hs rfl) fun σ H Q q => ?_
  obtain ⟨ρ, R, m, S, res, S', hE, hS, e, k⟩ := q
  obtain ⟨⟨x, S1⟩, e1, e2⟩ := bind_some e
  obtain ⟨⟨n, ds⟩, e3, e4⟩ := bind_some e2
  obtain ⟨⟨y, S2⟩, e5, e6⟩ := bind_some e4
  obtain ⟨⟨n2, ds2⟩, e7, e8⟩ := bind_some e6
  split at e8
  · rename_i hlen
    cases e8
    refine ⟨ρ, R, m, S, x, S1, hE, hS, e1, fun v H1 R1 m1 x1 s1 r1 => ?_⟩
    obtain ⟨a, vs, rfl, h1, h2, h3, h4⟩ := objL_view s1 r1 e3
    refine ⟨tyL_of h2, ρ, R1, m1, S1, y, S2, hE.ext x1 hS.sub, s1, e5, fun b us H2 R2 m2 x2 s2 hn ru hl2 => ?_⟩
    obtain ⟨a', vs', ea, g1, g2, g3, g4⟩ := objL_view s2 (r1.ext x2 s1.sub) e7
    cases ea
    have xn : Ext H2 R2 m2 (upd H2 b (.lst us)) R2 m2 := .new hn
    have sn := s2.new (o := .lst us) hn
    have hab : a ≠ b := fun z => by rw [z, hn] at g2; cases g2
    have ga : (upd H2 b (.lst us)) a = some (.lst vs') := by rw [upd_ne hab]; exact g2
    refine ⟨a, b, vs', us, rfl, rfl, ga, upd_same, by rw [← g3.length, ← ru.length, lim_eq]; exact hlen, ?_⟩
    obtain ⟨x3, s3⟩ := chg_lst sn g1 ga ((g3.ext xn s2.sub).append (ru.ext xn s2.sub))
    exact k _ _ _ _ (((x1.trans x2).trans xn).trans x3) s3 .non
  · cases e8
/-! ### index in a tuple of ints -/
theorem flat_intsV (ys : List Int) : (ys.map L2.V.int).all flatV = true := by
  rw [List.all_map]
  exact List.all_eq_true.mpr fun _ _ => rfl
theorem mt_tup_indexI : MtR X "tuple.index" (fun x xs H Q => ∃ p, ∃ ys : List Int, ∃ (z : Int) (j : Nat), x = .ref p ∧ xs = [.int z] ∧ SqT X.K H p (ys.map V.int) ∧ ys[j]? = some z ∧ (∀ m, m < j → ys[m]? ≠ some z) ∧ Q (.int (j : Nat)) H) := by
  intro pins s σ H x xs v us Q I rx rs h
  obtain ⟨p, ys, z, j, rfl, rfl, hq, hy, hno, q⟩ := h
  cases rx
  obtain ⟨u, rfl, t, rfl⟩ := vals1 rs
  obtain ⟨its, r, pl, hz⟩ := I.tuple hq
  obtain ⟨⟨cls, dd, dt, sl⟩, ho, hc, n, hd⟩ := pl
  simp only at hc hd
  subst hc
  subst hd
  have hl : its.toArray.size = ys.length := by rw [List.size_toArray, ← r.length, List.length_map]
  have hj : j < its.toArray.size := by rw [hl]; exact (List.getElem?_eq_some_iff.mp hy).1
  have at' : ∀ (m : Nat) (hm : m < its.toArray.size), ∃ y t', ys[m]? = some y ∧ its.toArray[m] = Value.int y t' := fun m hm => by
    have hm' : m < ys.length := by rw [← hl]; exact hm
    obtain ⟨w, hw, t', hw'⟩ := r.get (i := m) (x := .int ys[m]) (by simp [hm'])
    refine ⟨ys[m], t', List.getElem?_eq_getElem hm', ?_⟩
    have e := (List.getElem?_eq_some_iff.mp hw).2
    rw [← hw', ← e]
    simp
  refine call_meets PySem.F.slot_tuple_index ⟨_, ho, rfl⟩ PySem.F.entry_tuple_index (PySem.F.args_tuple_index_2 _ _) (TI.tuple_indexAt p its.toArray n dd sl (.int z t) (eqU (.int z)) j hj ?_ ?_)
    ⟨ho, fun w hw => mem_eqAt (x := .int z) ⟨t, rfl⟩ rfl r (flat_intsV ys) w (by simpa using hw), ⟨.int (j : Nat), H, I.tok _, ⟨_, rfl⟩, q⟩⟩
  · obtain ⟨y, t', h1, h2⟩ := at' j hj
    rw [hy] at h1
    cases h1
    rw [h2]
    show decide (z = z) = true
    simp
  · intro m hm hmj
    obtain ⟨y, t', h1, h2⟩ := at' m hm
    rw [h2]
    show decide (y = z) = false
    exact decide_eq_false fun e => hno m hmj (e ▸ h1)
/-- the first place of an int -/
def firstI (z : Int) : List Int → Option Nat
  | [] => none
  | y :: ys => if y = z then some 0 else (firstI z ys).map (· + 1)
theorem firstI_spec {z : Int} : ∀ {ys : List Int} {j : Nat}, firstI z ys = some j → ys[j]? = some z ∧ ∀ m, m < j → ys[m]? ≠ some z
  | [], _, h => by cases h
  | y :: ys, j, h => by
    unfold firstI at h
    split at h
    · rename_i e
      cases h
      exact ⟨by simp [e], fun m hm => by omega⟩
    · rename_i e
      obtain ⟨i, h1, rfl⟩ := Option.map_eq_some_iff.mp h
      obtain ⟨h2, h3⟩ := firstI_spec h1
      refine ⟨by simpa using h2, fun m hm => ?_⟩
      cases m with
      | zero => simp [e]
      | succ m => simpa using h3 m (by omega)
def vIdx (x y : RV) (S : Sto) : Option RV := match y with
  | .d (.int z) => (lookT x).bind fun ds => (intsOf ds).bind fun ns => (firstI z ns).map fun (j : Nat) => .d (.int j)
  | _ => none
def eIdx (f g : Fe RV) : Fe RV := fBind f fun x => fMap g fun y S => vIdx x y S
/-- a tuple that has no dict -/
def NoD (K : PySem.W.Frag) (H : Hp) (a : Addr) : Prop := ∃ vs, RdT H a vs ∨ KT K a vs
theorem NoD.is {X : Cx} {pins : List (Addr × Obj)} {σ : L2.St} {H : Hp} {s : Shared} {a : Addr} (I : Inv X pins σ H s) (h : NoD X.K H a) : s.TypeIs (.ref a) "tuple" ∧ ∀ b, Value.ref a = .ref b → ∃ ob, s.heap.get? b = some ob ∧ ob.dict = none := by
  obtain ⟨vs, ⟨o, hd, e⟩ | ⟨o, its, n, h1, h2, h3, _⟩⟩ := h
  · obtain ⟨e1, _, its, _, ob, e2, hc, _⟩ := (show ObjOk X.prog X.w H s.heap a (.frz o (.tup vs)) from I.hok a _ e)
    rw [e1] at e2
    cases e2
    exact ⟨⟨o, e1, hc⟩, fun b z => by cases z; exact ⟨o, e1, hd⟩⟩
  · exact ⟨⟨o, I.kIn a o h1, h2⟩, fun b z => by cases z; exact ⟨o, I.kIn _ o h1, h3⟩⟩
theorem Rep.noD {K : PySem.W.Frag} {H : Hp} {R : List Addr} {ds : List D} {v : L2.V} (h : Rep K H R (.tup ds) v) : ∃ a, v = .ref a ∧ NoD K H a := by
  cases h with
  | tup h _ _ => exact ⟨_, rfl, _, .inl h⟩
  | tupK h _ => exact ⟨_, rfl, _, .inr h⟩
def tIdx (K : PySem.W.Frag) (to te : TE) : TE := fun σ H Q => to σ H fun x H1 => (∃ a, x = .ref a ∧ NoD K H1 a) ∧ te σ H1 fun y H2 => ∃ p, ∃ ys : List Int, ∃ (z : Int) (j : Nat), x = .ref p ∧ y = .int z ∧ SqT K H2 p (ys.map V.int) ∧ ys[j]? = some z ∧ (∀ m, m < j → ys[m]? ≠ some z) ∧ Q (.int (j : Nat)) H2
theorem pe_idx {to te : TE} (ho : PE X o to) (he : PE X e te) (hbase : attributeBase o "index" X.env (eval o X.env) = eval o X.env) (hline : (apos.endLine == pos.line) = true) (hs : starEach [e] X.env = [(false, eval e X.env)]) :
    PE X (.Call (.Attribute o "index" apos) [e] [] pos) (tIdx X.K to te) := by
  refine ⟨fun pins s σ H Q I h => ?_⟩
  refine PySem.Call_method1 hbase hs hline (thn (ho.run pins s σ H _ I h) fun v s1 ⟨x, H1, I1, r1, q1⟩ => ?_)
  obtain ⟨⟨a, rfl, hn⟩, q1⟩ := q1
  cases r1
  obtain ⟨ty, nd⟩ := hn.is I1
  refine ⟨"tuple", _, PySem.F.plainAttrs_tuple, PySem.F.slot_tuple_index, PySem.F.type_tuple_index, ty, nd, Calls.callWith_builtin rfl (Calls.evalArgs_plain (Calls.spliced_cons ?_))⟩
  refine thn (he.run pins s1 σ H1 _ I1 q1) fun u s2 ⟨y, H2, I2, r2, q2⟩ => Calls.spliced_nil ?_
  obtain ⟨p, ys, z, j, e1, rfl, h1, h2, h3, q⟩ := q2
  exact mt_tup_indexI pins s2 σ H2 (.ref a) [.int z] (.ref a) [u] Q I2 rfl (.cons r2 .nil) ⟨p, ys, z, j, e1, rfl, h1, h2, h3, q⟩
theorem e_idx (ho : PE X o (TV tb X f)) (ha : PE X e (TV tb X g)) (hb : attributeBase o "index" X.env (eval o X.env) = eval o X.env := by rfl) (hl : (apos.endLine == pos.line) = true := by rfl) (hs : starEach [e] X.env = [(false, eval e X.env)] := by rfl) :
    PE X (.Call (.Attribute o "index" apos) [e] [] pos) (TV tb X (eIdx f g)) := by
  refine pe_weak (pe_idx ho ha hb hl hs) fun σ H Q q => ?_
  obtain ⟨ρ, R, m, S, res, S', hE, hS, ev, k⟩ := q
  obtain ⟨x, S1, e1, e2⟩ := fBind_some ev
  obtain ⟨y, e3, e4⟩ := fMap_some e2
  refine ⟨ρ, R, m, S, x, S1, hE, hS, e1, fun v H1 R1 m1 x1 s1 r1 => ?_⟩
  unfold vIdx at e4
  split at e4
  · rename_i z
    obtain ⟨ds, e5, e6⟩ := bind_some e4
    obtain ⟨ns, e7, e8⟩ := bind_some e6
    obtain ⟨j, e9, rfl⟩ := Option.map_eq_some_iff.mp e8
    have ex : x = .d (.tup ds) := by
      unfold lookT at e5
      split at e5
      · cases e5; rfl
      · cases e5
    subst ex
    refine ⟨Rep.noD r1, ρ, R1, m1, S1, .d (.int z), S', hE.ext x1 hS.sub, s1, e3, fun ws H2 R2 m2 x2 s2 r2 => ?_⟩
    cases r2
    obtain ⟨a, vs, rfl, g1, g2⟩ := lookT_view (r1.ext x2 s1.sub) e5
    rw [intsOf_eq e7] at g2
    have hv := reps_ints g2
    subst hv
    obtain ⟨f1, f2⟩ := firstI_spec e9
    exact ⟨a, ns, z, j, rfl, rfl, g1, f1, f2, k _ _ _ _ (x1.trans x2) s2 (.int _)⟩
  · cases e4
/-! ### chains of three -/
/-- a op1 b op2 c op3 d -/
def tChain3 (r r' r'' : R2) (ta tb tc td : TE) : TE := fun σ H Q => ta σ H fun x H1 => tb σ H1 fun y H2 => r x y H2 fun z H3 => ∃ k, z = .bl k ∧
  (if k = true then tc σ H3 fun w' H4 => r' y w' H4 fun z2 H5 => ∃ k2, z2 = .bl k2 ∧ (if k2 = true then td σ H5 fun u' H6 => r'' w' u' H6 Q else Q (.bl false) H5) else Q (.bl false) H3)
theorem pe_chain3 {d : Expr} {op op' op'' : CmpOp} {r r' r'' : R2} {ta tb tc td : TE} (ho : OpR X (compareOp op) r) (ho' : OpR X (compareOp op') r') (ho'' : OpR X (compareOp op'') r'') (ha : PE X a ta) (hb : PE X b tb) (hc : PE X c tc) (hd : PE X d td)
    (hm : lastMarks [op, op', op''] [b, c, d] = false) : PE X (.Compare a [op, op', op''] [b, c, d] pos) (tChain3 r r' r'' ta tb tc td) := by
  refine ⟨fun pins s σ H Q I h => ?_⟩
  refine Compare_chain (thn (ha.run pins s σ H _ I h) fun v s1 ⟨x, H1, I1, r1, q1⟩ => chain_link (thn (hb.run pins s1 σ H1 _ I1 q1) fun u s2 ⟨y, H2, I2, r2, q2⟩ =>
    thn (ho pins s2 σ H2 x y v u _ I2 r1 r2 q2) fun d s3 ⟨z, H3, I3, r3, k, e, q3⟩ => ?_)) hm
  subst e
  cases r3
  refine wpAny_truthy_bool ?_
  cases k with
  | false => exact ite_ff ⟨.bl false, H3, I3, rfl, q3⟩
  | true =>
    refine ite_tt (chain_link (thn (hc.run pins s3 σ H3 _ I3 q3) fun w' s4 ⟨z', H4, I4, r4, q4⟩ => thn (ho' pins s4 σ H4 y z' u w' _ I4 r2 r4 q4) fun d' s5 ⟨z2, H5, I5, r5, k2, e2, q5⟩ => ?_))
    subst e2
    cases r5
    refine wpAny_truthy_bool ?_
    cases k2 with
    | false => exact ite_ff ⟨.bl false, H5, I5, rfl, q5⟩
    | true => exact ite_tt (chain_last (thn (hd.run pins s5 σ H5 _ I5 q5) fun u' s6 ⟨z3, H6, I6, r6, q6⟩ => ho'' pins s6 σ H6 z' z3 w' u' Q I6 r4 r6 q6))
theorem pt_chain3 {d : Expr} {op op' op'' : CmpOp} {r r' r'' : R2} {ta tb tc td : TE} (ho : OpR X (compareOp op) r) (ho' : OpR X (compareOp op') r') (ho'' : OpR X (compareOp op'') r'') (ha : PE X a ta) (hb : PE X b tb) (hc : PE X c tc) (hd : PE X d td)
    (hm : lastMarks [op, op', op''] [b, c, d] = false) : PT X (.Compare a [op, op', op''] [b, c, d] pos) (tTest (tChain3 r r' r'' ta tb tc td)) := by
  refine ⟨fun pins s σ H Q I h => ?_⟩
  refine isTrue_chain (thn (ha.run pins s σ H _ I h) fun v s1 ⟨x, H1, I1, r1, q1⟩ => test_link (thn (hb.run pins s1 σ H1 _ I1 q1) fun u s2 ⟨y, H2, I2, r2, q2⟩ =>
    thn (ho pins s2 σ H2 x y v u _ I2 r1 r2 q2) fun d s3 ⟨z, H3, I3, r3, k, e, q3⟩ => ?_)) hm
  subst e
  cases r3
  refine wpAny_truthy_bool ?_
  cases k with
  | false =>
    obtain ⟨k', e', q'⟩ := q3
    cases e'
    exact ite_ff ⟨H3, I3, q'⟩
  | true =>
    refine ite_tt (test_link (thn (hc.run pins s3 σ H3 _ I3 q3) fun w' s4 ⟨z', H4, I4, r4, q4⟩ => thn (ho' pins s4 σ H4 y z' u w' _ I4 r2 r4 q4) fun d' s5 ⟨z2, H5, I5, r5, k2, e2, q5⟩ => ?_))
    subst e2
    cases r5
    refine wpAny_truthy_bool ?_
    cases k2 with
    | false =>
      obtain ⟨k', e', q'⟩ := q5
      cases e'
      exact ite_ff ⟨H5, I5, q'⟩
    | true =>
      refine ite_tt (test_last (thn (hd.run pins s5 σ H5 _ I5 q5) fun u' s6 ⟨z3, H6, I6, r6, q6⟩ => thn (ho'' pins s6 σ H6 z' z3 w' u' _ I6 r4 r6 q6) fun d'' s7 ⟨z4, H7, I7, r7, k3, e3, q7⟩ => ?_))
      subst e3
      cases r7
      exact wpAny_truthy_bool ⟨H7, I7, q7⟩
def eChain3 (op op' op'' : Op2) (f g h i : Fe RV) : Fe RV := fBind f fun x => fBind g fun y => fun ρ S => (op x y S).bind fun z => match isBl z with
  | some true => fBind h (fun w => fun ρ S => (op' y w S).bind fun z2 => match isBl z2 with
    | some true => fMap i (fun u S => op'' w u S) ρ S
    | some false => some (.d (.bl false), S)
    | none => none) ρ S
  | some false => some (.d (.bl false), S)
  | none => none
theorem tv_chain3 {r r' r'' : R2} {vop vop' vop'' : Op2} {i : Fe RV} (hv : OpV tb X r vop) (hv' : OpV tb X r' vop') (hv'' : OpV tb X r'' vop'') {σ : L2.St} {H : Hp} {Q : VK} (q : TV tb X (eChain3 vop vop' vop'' f g h i) σ H Q) : tChain3 r r' r'' (TV tb X f) (TV tb X g) (TV tb X h) (TV tb X i) σ H Q := by
  obtain ⟨ρ, R, m, S, res, S', hE, hS, e, k⟩ := q
  obtain ⟨x, S1, e1, e2⟩ := fBind_some e
  obtain ⟨y, S2, e3, e4⟩ := fBind_some e2
  obtain ⟨z, e5, e6⟩ := bind_some e4
  refine ⟨ρ, R, m, S, x, S1, hE, hS, e1, fun v H1 R1 m1 x1 s1 r1 => ?_⟩
  refine ⟨ρ, R1, m1, S1, y, S2, hE.ext x1 hS.sub, s1, e3, fun u H2 R2 m2 x2 s2 r2 => ?_⟩
  refine hv H2 R2 m2 S2 x y v u z s2 (r1.ext x2 s1.sub) r2 e5 _ fun v' H3 x3 s3 r3 => ?_
  cases q : isBl z with
  | none => rw [q] at e6; cases e6
  | some kb =>
    rw [q] at e6
    refine ⟨kb, isBl_rep q r3, ?_⟩
    cases kb with
    | false =>
      rw [if_neg Bool.false_ne_true]
      cases e6
      exact k _ _ _ _ ((x1.trans x2).trans x3) s3 (.bl false)
    | true =>
      rw [if_pos rfl]
      obtain ⟨w, S3, e7, e8⟩ := fBind_some e6
      refine ⟨ρ, R2, m2, S2, w, S3, ((hE.ext x1 hS.sub).ext x2 s1.sub).ext x3 s2.sub, s3, e7, fun u' H4 R4 m4 x4 s4 r4 => ?_⟩
      obtain ⟨z2, e9, e10⟩ := bind_some e8
      refine hv' H4 R4 m4 S3 y w u u' z2 s4 ((r2.ext x3 s2.sub).ext x4 s3.sub) r4 e9 _ fun v5 H5 x5 s5 r5 => ?_
      cases q2 : isBl z2 with
      | none => rw [q2] at e10; cases e10
      | some kb2 =>
        rw [q2] at e10
        refine ⟨kb2, isBl_rep q2 r5, ?_⟩
        cases kb2 with
        | false =>
          rw [if_neg Bool.false_ne_true]
          cases e10
          exact k _ _ _ _ ((((x1.trans x2).trans x3).trans x4).trans x5) s5 (.bl false)
        | true =>
          rw [if_pos rfl]
          obtain ⟨t, e11, e12⟩ := fMap_some e10
          refine ⟨ρ, R4, m4, S3, t, S', ((((hE.ext x1 hS.sub).ext x2 s1.sub).ext x3 s2.sub).ext x4 s3.sub).ext x5 s4.sub, s5, e11, fun u6 H6 R6 m6 x6 s6 r6 => ?_⟩
          exact hv'' H6 R6 m6 S' w t u' u6 res s6 ((r4.ext x5 s4.sub).ext x6 s5.sub) r6 e12 Q fun v7 H7 x7 s7 r7 => k v7 H7 R6 m6 ((((((x1.trans x2).trans x3).trans x4).trans x5).trans x6).trans x7) s7 r7
theorem e_chain3 {d : Expr} {i : Fe RV} {op op' op'' : CmpOp} {r r' r'' : R2} {vop vop' vop'' : Op2} (hr : OpR X (compareOp op) r) (hv : OpV tb X r vop) (hr' : OpR X (compareOp op') r') (hv' : OpV tb X r' vop') (hr'' : OpR X (compareOp op'') r'') (hv'' : OpV tb X r'' vop'')
    (ha : PE X a (TV tb X f)) (hb : PE X b (TV tb X g)) (hc : PE X c (TV tb X h)) (hd : PE X d (TV tb X i)) (hm : lastMarks [op, op', op''] [b, c, d] = false := by with_unfolding_all rfl) :
    PE X (.Compare a [op, op', op''] [b, c, d] pos) (TV tb X (eChain3 vop vop' vop'' f g h i)) := pe_weak (pe_chain3 hr hr' hr'' ha hb hc hd hm) fun _ _ _ q => tv_chain3 hv hv' hv'' q
theorem t_chain3 {d : Expr} {i : Fe RV} {op op' op'' : CmpOp} {r r' r'' : R2} {vop vop' vop'' : Op2} (hr : OpR X (compareOp op) r) (hv : OpV tb X r vop) (hr' : OpR X (compareOp op') r') (hv' : OpV tb X r' vop') (hr'' : OpR X (compareOp op'') r'') (hv'' : OpV tb X r'' vop'')
    (ha : PE X a (TV tb X f)) (hb : PE X b (TV tb X g)) (hc : PE X c (TV tb X h)) (hd : PE X d (TV tb X i)) (hm : lastMarks [op, op', op''] [b, c, d] = false := by with_unfolding_all rfl) :
    PT X (.Compare a [op, op', op''] [b, c, d] pos) (TB tb X (fTest (eChain3 vop vop' vop'' f g h i))) := pt_weak (pt_chain3 hr hr' hr'' ha hb hc hd hm) fun _ _ _ q => tv_chain3 hv hv' hv'' (tb_of q)
end
end Ev

/-! The evaluator, part AD: sorted(.., key=a lambda that captures nothing). -/
namespace Ev
open PySem PySem.Spec PyProof.Rows L2

def mapO (φ : D → Option D) : List D → Option (List D)
  | [] => some []
  | d :: ds => (φ d).bind fun k => (mapO φ ds).bind fun ks => some (k :: ks)
theorem mapO_len {φ : D → Option D} : ∀ {ds ks : List D}, mapO φ ds = some ks → ks.length = ds.length
  | [], _, h => by cases h; rfl
  | d :: ds, _, h => by
    obtain ⟨k, _, h⟩ := bind_some h
    obtain ⟨ks, h1, h⟩ := bind_some h
    cases h
    rw [List.length_cons, List.length_cons, mapO_len h1]
theorem mapO_at {φ : D → Option D} : ∀ {ds ks : List D} {i : Nat} {d : D}, mapO φ ds = some ks → ds[i]? = some d → ∃ k, φ d = some k ∧ ks[i]? = some k
  | [], _, _, _, _, e => by simp at e
  | x :: ds, _, i, d, h, e => by
    obtain ⟨k, h0, h⟩ := bind_some h
    obtain ⟨ks, h1, h⟩ := bind_some h
    cases h
    cases i with
    | zero => simp at e; subst e; exact ⟨k, h0, rfl⟩
    | succ i =>
      obtain ⟨y, q1, q2⟩ := mapO_at (i := i) (d := d) h1 (by simpa using e)
      exact ⟨y, q1, by simpa using q2⟩
/-- keys that may be sorted: tuples, alike, not deep -/
def keysOk (ks : List D) : Bool := ks.all fun a => (match a with
  | .tup (_ :: _) => true
  | _ => false) && decide (a.py.depth ≤ 8) && ks.all fun b => PySem.W.alike a.py b.py
noncomputable def sortK (ds ks : List D) : List D := ((ds.zip ks).mergeSort (PySem.W.dataLe false fun x : D × D => x.2.py)).map (·.1)
noncomputable def srtK (φ : List D → Option D) (ds : List D) : Option (List D) := (mapO (fun d => φ [d]) ds).bind fun ks => if keysOk ks = true ∧ ds.length ≤ Lim then some (sortK ds ks) else none

/-! ### the rule -/
theorem eachPair {tb : Tbs} {K : PySem.W.Frag} {H : Hp} {R : List Addr} : ∀ {ds ks : List D} {vs : List L2.V} {us : List Value}, Reps K H R ds vs → Vals vs us → ks.length = ds.length → PySem.W.EachIs (fun u (x : D × D) => ∃ v, RelV v u ∧ Rep K H R x.1 v) us (ds.zip ks)
  | [], ks, _, _, .nil, r, _ => by cases r; exact .nil
  | d :: ds, [], _, _, .cons h t, r, e => by simp at e
  | d :: ds, k :: ks, _, _, .cons h t, r, e => by
    cases r with
    | cons r1 r2 => exact .cons ⟨_, r1, h⟩ (eachPair (tb := tb) t r2 (by simpa using e))
theorem eachKey {K : PySem.W.Frag} {H : Hp} {h : Heap} {R : List Addr} (rd : ∀ (d : D) (v : L2.V) (u : Value), Rep K H R d v → RelV v u → ∃ as, Reads h u d.py as) : ∀ {ks : List D} {vs : List L2.V} {us : List Value}, Reps K H R ks vs → Vals vs us → PySem.W.EachIs (fun u d => ∃ as, Reads h u d as) us (ks.map D.py)
  | [], _, _, .nil, r => by cases r; exact .nil
  | k :: ks, _, _, .cons h t, r => by
    cases r with
    | cons r1 r2 => exact .cons (rd _ _ _ h r1) (eachKey rd t r2)
theorem eachOut {K : PySem.W.Frag} {H : Hp} {R : List Addr} : ∀ {xs : List (D × D)} {us : List Value}, PySem.W.EachIs (fun u (x : D × D) => ∃ v, RelV v u ∧ Rep K H R x.1 v) us xs → ∃ vs, Vals vs us ∧ Reps K H R (xs.map (·.1)) vs
  | [], _, .nil => ⟨[], .nil, .nil⟩
  | x :: xs, _, .cons ⟨v, h1, h2⟩ t => by
    obtain ⟨vs, h3, h4⟩ := eachOut t
    exact ⟨v :: vs, .cons h1 h3, .cons h2 h4⟩
theorem Vals.at_ : ∀ {vs : List L2.V} {us : List Value} {i : Nat} {u : Value}, Vals vs us → us[i]? = some u → ∃ v, vs[i]? = some v ∧ RelV v u
  | [], _, _, _, r, e => by cases r; simp at e
  | v :: vs, _, i, u, r, e => by
    cases r with
    | cons r1 r2 =>
      cases i with
      | zero => simp at e; subst e; exact ⟨v, rfl, r1⟩
      | succ i =>
        obtain ⟨w, q1, q2⟩ := Vals.at_ (i := i) r2 (by simpa using e)
        exact ⟨w, by simpa using q1, q2⟩
theorem Vals.snoc : ∀ {vs : List L2.V} {us : List Value} {v : L2.V} {u : Value}, Vals vs us → RelV v u → Vals (vs ++ [v]) (us ++ [u])
  | [], _, _, _, r, h => by cases r; exact .cons h .nil
  | x :: vs, _, v, u, r, h => by
    cases r with
    | cons r1 r2 => exact .cons r1 (Vals.snoc r2 h)
theorem Reps.snoc {K : PySem.W.Frag} {H : Hp} {R : List Addr} : ∀ {ds : List D} {vs : List L2.V} {d : D} {v : L2.V}, Reps K H R ds vs → Rep K H R d v → Reps K H R (ds ++ [d]) (vs ++ [v])
  | _, _, _, _, .nil, h => .cons h .nil
  | _, _, _, _, .cons h1 t, h => .cons h1 (Reps.snoc t h)
def erase (h : Heap) (a : Addr) : Heap := h.update a fun o => { o with data := .freed }
theorem erase_at {h : Heap} {a : Addr} : (erase h a).get? a = none := by
  cases q : (erase h a).get? a with
  | none => rfl
  | some o =>
    obtain ⟨h1, h2⟩ := (Heap.get?_eq_some _ _ _).mp q
    unfold erase at h1
    rw [Heap.objs_update_self] at h1
    cases z : h.objs[a]? with
    | none => rw [z] at h1; cases h1
    | some o' => rw [z] at h1; cases h1; cases h2
theorem erase_ne {h : Heap} {a b : Addr} (n : b ≠ a) : (erase h a).get? b = h.get? b := Heap.get?_update_ne _ _ _ _ n
/-- the copy that is sorted, as it stands -/
def stillO (c : Addr) (o : Obj) : HO := .ext fun h => h.get? c = some o
def rSK (tb : Tbs) (X : Cx) : List L2.V → List L2.V → Hp → VK → Prop := fun xs zs H Q => ∃ (a g : Addr) (R m : List Addr) (S : Sto) (its : List D) (vl : List L2.V) (φ : List D → Option D) (r : List D), xs = [.ref a] ∧ zs = [.ref g] ∧ Sim tb X.prog X.w X.K H R m S ∧ SqL X.K H a vl ∧ Reps X.K H R its vl ∧
  FunAt tb X.K H R φ g ∧ srtK φ its = some r ∧ ∀ (p : Addr) (us : List L2.V) (H' : Hp), Ext H R m H' R m → Sim tb X.prog X.w X.K H' R m S → H' p = none → Reps X.K H' R r us → r.length ≤ Lim → Q (.ref p) (upd H' p (.lst us))
theorem cr_sortedK {tb : Tbs} {X : Cx} {k : Nat} (F : FnsOk tb X.prog X.w X.K X.mg X.base k) (hr : Room (k + 2) X.A) : CallRK X (.builtin "sorted") [Str.ofString "key"] (rSK tb X) := by
  intro pins s σ H xs zs us ws Q I rx rz h
  obtain ⟨a, g, R, m, S, its, vl, φ, r, rfl, rfl, hS, hL, rL, fa, hsr, q⟩ := h
  obtain ⟨ks, hks, h2⟩ := bind_some hsr
  split at h2
  · rename_i hh
    obtain ⟨hok, hlim⟩ := hh
    cases h2
    obtain ⟨itv, rv, hl, hz⟩ := I.list hL
    rw [Vals.ref1 rx, Vals.ref1 rz]
    show wpAny _ _ (call (.builtin "sorted") [.ref a] [(Str.ofString "key", .ref g)]) _ _ _
    have hzl : itv.length ≤ sizeLine := by rw [← rv.length]; exact hz
    have hle : its.length = itv.length := by rw [rL.length, rv.length]
    have hkl := mapO_len hks
    refine PySem.W.sorted_of_sort hl.isList hzl (ksk_s1 _ _) (fun _ => ksk_l1 _ _) fun E' => ?_
    rw [ksk_t1]
    generalize hc : s.heap.objs.size + 1 = c
    have hcH : H c = none := I.hok.fresh (by omega)
    have hat : (PySem.W.copyHeap s.heap itv).get? c = some (seqObj "list" itv.toArray 0) := by rw [← hc]; exact PySem.W.copyHeap_at s.heap itv
    have hco : c < (PySem.W.copyHeap s.heap itv).objs.size := Heap.lt_size hat
    unfold ksk_tree
    refine wpAny_bind (listItems_at hat rfl ?_)
    refine wpAny_bind (listUpdate_at hat rfl ?_ (by rw [List.size_toArray]; exact hzl) (Nat.zero_le _))
    obtain ⟨e1, ho1⟩ : ∃ e1, ((PySem.W.copyHeap s.heap itv).update c (Obj.mapSeq fun _ => (#[] : Array Value))).get? c = some (seqObj "list" #[] e1) := ⟨_, get?_update_seq hat fun _ => #[]⟩
    refine wpAny_bind (seqEpoch_at ho1 rfl ?_)
    refine wpAny_bind (wpAny_newTuple ?_ (by show itv.length ≤ _; exact hzl))
    refine wpAny_bind (wpAny_newList ?_ (Nat.zero_le _))
    refine wpAny_holding ?_
    show wpAny _ _ (ksk_rest c (.ref g) false itv.toArray e1 (.ref (Heap.push _ _).objs.size)) _ _ _
    generalize hM : (((PySem.W.copyHeap s.heap itv).update c (Obj.mapSeq fun _ => (#[] : Array Value))).push { cls := .type "tuple", data := .seq itv.toArray }) = hM'
    have hMat : hM'.get? c = some (seqObj "list" #[] e1) := by rw [← hM]; exact Heap.get?_push_of_some _ ho1
    have hMold : ∀ b o, s.heap.get? b = some o → hM'.get? b = some o := fun b o e => by
      have hb : b ≠ c := fun z => absurd (Heap.lt_size e) (by rw [z, ← hc]; exact Nat.not_lt.mpr (Nat.le_succ _))
      rw [← hM]
      exact Heap.get?_push_of_some _ ((Heap.get?_update_ne _ _ _ _ hb).trans (PySem.W.copyHeap_old e))
    have hkc : hM'.objs.size ≠ c := Nat.ne_of_gt (Heap.lt_size hMat)
    generalize hkS : hM'.objs.size = kS at *
    have I1 : Inv X pins σ (upd H c (stillO c (seqObj "list" #[] e1))) { s with heap := hM', toks := s.toks } := I.laid (a := c) (t' := s.toks) hMold (by omega) ⟨hMat, ⟨_, hMat⟩, fun h1 h2 q k => k _ q⟩
    have hkn : upd H c (stillO c (seqObj "list" #[] e1)) kS = none := I1.hok.fresh (Nat.le_of_eq hkS)
    have hkH : H kS = none := by rw [← upd_ne (H := H) (o := stillO c (seqObj "list" #[] e1)) hkc]; exact hkn
    have I2 : Inv X pins σ (upd (upd H c (stillO c (seqObj "list" #[] e1))) kS (.lst [])) { s with heap := hM'.push { cls := .type "list", data := .seq #[] }, toks := s.toks } := I1.laid (a := kS) (t' := s.toks) (fun _ _ e => Heap.get?_push_of_some _ e) (Nat.le_of_eq hkS) ⟨Nat.zero_le _, [], 0, .nil, by rw [← hkS]; exact Heap.get?_push_size _ rfl⟩
    have kp0 : Keep H (upd (upd H c (stillO c (seqObj "list" #[] e1))) kS (.lst [])) := ⟨fun b o e _ => by rw [upd_ne (ne_of_none e hkH), upd_ne (ne_of_none e hcH)]; exact e, fun b n => by
      cases e : H b with
      | none => exact absurd e n
      | some o => rw [upd_ne (ne_of_none e hkH), upd_ne (ne_of_none e hcH), e]; intro z; cases z⟩
    have t2 : TabsR tb (upd (upd H c (stillO c (seqObj "list" #[] e1))) kS (.lst [])) (c :: kS :: R) := hS.tabs.mono (fun b o _ e => by rw [upd_ne (ne_of_none e hkH), upd_ne (ne_of_none e hcH)]; exact e) fun b hb => by
      rcases List.mem_cons.mp hb with rfl | hb
      · exact .inr hcH
      · rcases List.mem_cons.mp hb with rfl | hb
        · exact .inr hkH
        · exact .inl hb
    have gR : ∀ b, b ∈ c :: kS :: R → b ∈ R ∨ H b = none := fun b hb => by
      rcases List.mem_cons.mp hb with rfl | hb
      · exact .inr hcH
      · rcases List.mem_cons.mp hb with rfl | hb
        · exact .inr hkH
        · exact .inl hb
    unfold ksk_rest
    refine wpAny_bind (wpAny_rule ?_)
    first
      | rw [List.forIn_toArray]
      | (rw [← Array.forIn_toList]; simp only [List.toList_toArray])
      | rw [← Array.forIn_toList]
    refine wpAny_bind (ksk_fold (fun i s' => ∃ (H' : Hp) (kvs : List L2.V), Inv X pins σ H' s' ∧ Keep H H' ∧ H' c = some (stillO c (seqObj "list" #[] e1)) ∧ H' kS = some (.lst kvs) ∧ TabsR tb H' (c :: kS :: R) ∧ Reps X.K H' (c :: kS :: R) (ks.take i) kvs) itv 0 _
      ⟨_, [], I2, kp0, by rw [upd_ne (Ne.symm hkc), upd_same], upd_same, t2, by rw [List.take_zero]; exact .nil⟩ ?step ?done)
    case step =>
      rintro j x s' hx ⟨H', kvs, I', kp, hHc, hHk, ht, hrk⟩
      simp only [Nat.zero_add] at hrk ⊢
      obtain ⟨v, hv, rxv⟩ := Vals.at_ rv hx
      have hj : j < its.length := by rw [hle]; exact (List.getElem?_eq_some_iff.mp hx).1
      obtain ⟨y, hy, hyk⟩ := mapO_at (i := j) hks (List.getElem?_eq_getElem hj)
      obtain ⟨v', hv', rep⟩ := rL.get (i := j) (List.getElem?_eq_getElem hj)
      rw [hv] at hv'
      cases hv'
      have rep' := Rep.mono (fun b o _ e t => kp.keep b o e t) gR rep
      have fa' := fa.mono (fun b o _ e t => kp.keep b o e t) gR
      obtain ⟨o, C, ψ, ws2, wd, f1, f2, f3, f4, f5, f6, f7, f8⟩ := fa'
      have ok := F g o C ψ f1
      subst f8
      dsimp only at hy
      split at hy
      · rename_i hn
        have fz : ∀ b ∈ csOf C.cl, ∃ o, Fz H' b o := fun b z => by
          obtain ⟨y, e⟩ := csOf_mem.mp z
          obtain ⟨_, o, _, q, _⟩ := f6.all y b e
          exact ⟨o, q⟩
        have M := more_drop fz
        have E1 := I'.env0
        have E0 : Env0 X.prog X.w X.K X.mg X.base X.A.in1.in1 X.stack s' H' := ⟨E1.frames, E1.mod, E1.bs, E1.bsz, E1.funs, E1.frf, E1.hok, E1.bare⟩
        have live : ∀ b ∈ c :: kS :: R, H' b ≠ none := fun b hb => by
          rcases List.mem_cons.mp hb with rfl | hb
          · rw [hHc]; intro z; cases z
          · rcases List.mem_cons.mp hb with rfl | hb
            · rw [hHk]; intro z; cases z
            · exact kp.live b (hS.live b hb)
        refine wpAny_bind (wpAny_attempt (wpAny_mono (Q := EP X pins σ fun v H3' => Keep H' H3' ∧ TabsR tb H3' (c :: kS :: R) ∧ Rep X.K H3' (c :: kS :: R) y v) (E := fun _ _ => False) (wpAny_call (codeAny_mono (ok.run X.A.in1.in1 X.stack s' (dropH (csOf C.cl) H') [x] [v] ws2 (fun v H'' => Keep (dropH (csOf C.cl) H') H'' ∧ TabsR tb H'' (c :: kS :: R) ∧ Rep X.K H'' (c :: kS :: R) y v) (fun _ _ _ => False) hr.in1.in1 (env0_down M E0) (fz_get I'.hok f2) (codeO_rec I'.hok f4) (f6.at_ M I'.hok) (.cons rxv .nil)
          ⟨c :: kS :: R, wd, [its[j]], y, fun b z q => ?_, M.tabs ht, Paired.mapP f7 fun d v z x hx => (let ⟨y, e1, e2⟩ := z x hx; ⟨y, e1, M.rep e2⟩), .cons (M.rep rep') .nil, hn, hy, fun v H' a b c => ⟨a, b, c⟩⟩) fun r s'' hq => ?_)) (fun u s'' hq => ?_) fun _ _ hF => hF.elim))
        · by_cases z2 : b ∈ csOf C.cl
          · obtain ⟨y, e⟩ := csOf_mem.mp z2
            exact (f6.all y b e).1 z
          · exact live b z ((if_neg z2).symm.trans q)
        · cases r with
          | error e => exact hq.elim
          | ok fl =>
            cases fl with
            | ret u =>
              refine I'.after (ce_imp (ce_up M E0 hq) fun v H3' ⟨H3, m3, eq, kp3, kt, rv⟩ => ?_)
              exact ⟨M.keepU m3 kp3 eq, m3.tabsU kt, m3.repU rv⟩
            | next => exact False.elim hq
            | brk => exact False.elim hq
            | cont => exact False.elim hq
        · obtain ⟨v3, H3, I3, r3, kp3, ht3, rep3⟩ := hq
          try dsimp only
          have hk3 : H3 kS = some (.lst kvs) := kp3.keep _ _ hHk noT_lst
          obtain ⟨hz3, kits, n3, rvk, hob⟩ := (show ObjOk X.prog X.w H3 s''.heap kS (.lst kvs) from I3.hok kS _ hk3)
          have hkvs : kvs.length ≤ its.length := by
            rw [← hrk.length, List.length_take]
            omega
          have hb1 : kits.length ≤ itv.length := by rw [← rvk.length, ← hle]; exact hkvs
          refine wpAny_bind (listUpdate_at hob rfl ?_ (by rw [List.size_toArray]; exact Nat.le_trans hb1 hzl) (by rw [Array.size_push, List.size_toArray]; exact Nat.succ_le_succ (Nat.le_trans hb1 hzl)))
          have s1 := Heap.SameBut.update s''.heap kS (Obj.mapSeq (·.push u))
          obtain ⟨c2, hc2⟩ : ∃ c2, (s''.heap.update kS (Obj.mapSeq (·.push u))).get? kS = some (seqObj "list" (kits.toArray.push u) c2) := ⟨_, get?_update_seq hob (·.push u)⟩
          have hlen : (kvs ++ [v3]).length ≤ sizeLine := by
            have hj2 : kvs.length = j := by rw [← hrk.length, List.length_take]; omega
            rw [List.length_append, List.length_singleton, hj2]
            have : its.length ≤ sizeLine := by rw [hle]; exact hzl
            omega
          have I4 : Inv X pins σ (upd H3 kS (.lst (kvs ++ [v3]))) { s'' with heap := s''.heap.update kS (Obj.mapSeq (·.push u)), toks := s''.toks } := I3.write (x := kS) (e := kS) (t' := s''.toks) (by rw [hk3]; exact True.intro) (.inl rfl) (fun b o hb e => (s1.2 b hb).trans e) ⟨_, hc2⟩ ⟨hlen, kits ++ [u], c2, Vals.snoc rvk r3, by rw [hc2]; simp [seqObj]⟩
          have up3 : ∀ b o, b ∉ c :: kS :: R → H3 b = some o → NoT o → upd H3 kS (.lst (kvs ++ [v3])) b = some o := fun b o hb e _ => by
            rw [upd_ne fun z => hb (by rw [z]; simp)]; exact e
          refine wpAny_pure ⟨rfl, upd H3 kS (.lst (kvs ++ [v3])), kvs ++ [v3], I4, ⟨fun b o e t => ?_, fun b n => ?_⟩, ?_, upd_same, ?_, ?_⟩
          · rw [upd_ne (ne_of_none e hkH)]
            exact kp3.keep b o (kp.keep b o e t) t
          · by_cases hb : b = kS
            · rw [hb, upd_same]; intro z; cases z
            · rw [upd_ne hb]
              exact kp3.live b (kp.live b n)
          · rw [upd_ne (Ne.symm hkc)]
            exact kp3.keep _ _ hHc noT_ext
          · exact ht3.mono (fun b o hb e => by rw [upd_ne fun z => hb (by rw [z]; simp)]; exact e) fun _ h => .inl h
          · have ek : ks.take (j + 1) = ks.take j ++ [y] := by rw [List.take_add_one, hyk]; simp
            rw [ek]
            refine Reps.snoc (Reps.mono up3 (fun _ h => .inl h) (Reps.mono (fun b o _ e t => kp3.keep b o e t) (fun _ h => .inl h) hrk)) (Rep.mono up3 (fun _ h => .inl h) rep3)
      · cases hy
    case done =>
      rintro s' ⟨H', kvs, I', kp, hHc, hHk, ht, hrk⟩
      have etake : ks.take (0 + itv.length) = ks := List.take_of_length_le (by omega)
      rw [etake] at hrk
      obtain ⟨hz3, kits, n3, rvk, hob⟩ := (show ObjOk X.prog X.w H' s'.heap kS (.lst kvs) from I'.hok kS _ hHk)
      have hck : s'.heap.get? c = some (seqObj "list" #[] e1) := (show ObjOk X.prog X.w H' s'.heap c (stillO c (seqObj "list" #[] e1)) from I'.hok c _ hHc).1
      try dsimp only
      refine wpAny_bind (listItems_at hob rfl ?_)
      have hkk : kits.length = itv.length := by rw [← rvk.length, ← hrk.length, hkl, hle]
      have ek := eachKey (h := s'.heap) (fun d v u r rel => Dp.reads I' d.py v u r.dp rel) hrk rvk
      have hmem : ∀ d ∈ ks, (∃ x l, d = .tup (x :: l)) ∧ d.py.depth ≤ 8 ∧ ∀ e ∈ ks, PySem.W.alike d.py e.py = true := fun d hd => by
        have z := List.all_eq_true.mp hok d hd
        rw [Bool.and_eq_true, Bool.and_eq_true, decide_eq_true_eq] at z
        refine ⟨?_, z.1.2, fun e he => List.all_eq_true.mp z.2 e he⟩
        have z1 := z.1.1
        split at z1
        · exact ⟨_, _, rfl⟩
        · cases z1
      have hal : PySem.W.AllAlike (ks.map D.py) := fun d hd d' hd' => by
        obtain ⟨x, hx, rfl⟩ := List.mem_map.mp hd
        obtain ⟨x', hx', rfl⟩ := List.mem_map.mp hd'
        exact (hmem x hx).2.2 x' hx'
      have hsk : PySem.W.Sortable (ks.map D.py) := .inl fun d hd => by
        obtain ⟨x, hx, rfl⟩ := List.mem_map.mp hd
        obtain ⟨y, l, rfl⟩ := (hmem x hx).1
        exact ⟨y.py, D.pys l, by simp only [D.py, D.pys]⟩
      have hdep : ∀ d, d ∈ ks.map D.py → X.A.in1.in1.units + d.depth < cLine := fun d hd => by
        obtain ⟨x, hx, rfl⟩ := List.mem_map.mp hd
        have h1 := (hmem x hx).2.1
        have h2 := hr.un
        show X.A.units + 1 + 1 + _ < _
        omega
      have ep := eachPair (tb := tb) rL rv hkl
      have stay0 : PySem.W.KeepsBut c (erase s'.heap kS) s'.heap := fun b o _ e => by
        by_cases hb : b = kS
        · rw [hb, erase_at] at e; cases e
        · rw [← erase_ne hb]; exact e
      refine PySem.W.keyH_end (b := false) (κ := PySem.W.dataKind s'.heap (ks.map D.py)) (h₁ := erase s'.heap kS) (keys := kits.toArray) (e := n3) stay0 erase_at hob hck hkc (PySem.W.SortsAt.data (s := s') (by rw [List.toList_toArray]; exact ek) hal hsk hdep) (by rw [List.size_toArray]; exact hkk) hzl fun h' tk c2 kb nk => ⟨rfl, ?_⟩
      rw [List.toList_toArray] at nk
      have ezip : (its.zip ks).map (fun x : D × D => x.2.py) = ks.map D.py := by
        rw [show (fun x : D × D => x.2.py) = D.py ∘ Prod.snd from rfl, ← List.map_map, List.map_snd_zip (by omega)]
      have ko : PySem.W.KeyedOut false ((its.zip ks).map fun x : D × D => x.2.py) itv (PySem.W.sortVals (PySem.W.dataKind s'.heap (ks.map D.py)) false kits itv) := by
        rw [ezip]
        exact ⟨s'.heap, kits, hal, rfl, ek⟩
      have eo := PySem.W.keyedOut_each (bs := its.zip ks) (fun x : D × D => x.2.py) ko ep
      obtain ⟨vs, o1, o2⟩ := eachOut eo
      have stay : ∀ b o, b ≠ kS → b ≠ c → s'.heap.get? b = some o → h'.get? b = some o := fun b o h1 h2 e => kb b o h2 ((erase_ne h1).trans e)
      have nk' : ∀ {b o}, H' b = some o → (∀ x, o ≠ .lst x) → b ≠ kS := fun e n z => by
        rw [z, hHk] at e
        exact n _ (Option.some.inj e).symm
      have nc' : ∀ {b o}, H' b = some o → (∀ x, o ≠ .ext x) → b ≠ c := fun e n z => by
        rw [z, hHc] at e
        exact n _ (Option.some.inj e).symm
      have nn : ∀ {b}, H' b = none → b ≠ kS ∧ b ≠ c := fun e => ⟨fun z => (by rw [z, hHk] at e; cases e), fun z => (by rw [z, hHc] at e; cases e)⟩
      have H3e : ∀ b, b ≠ kS → b ≠ c → upd (fun b => if b = kS ∨ b = c then none else H' b) c (.lst vs) b = H' b := fun b h1 h2 => by
        rw [upd_ne h2]
        exact if_neg fun z => z.elim h1 h2
      have hRn : ∀ {b}, b ∉ c :: kS :: R → b ≠ kS ∧ b ≠ c := fun n => ⟨fun z => n (by rw [z]; simp), fun z => n (by rw [z]; simp)⟩
      have kp3 : Keep H (fun b => if b = kS ∨ b = c then none else H' b) := ⟨fun b o e t => by
        have h1 : b ≠ kS := ne_of_none e hkH
        have h2 : b ≠ c := ne_of_none e hcH
        show (if _ then _ else _) = _
        rw [if_neg fun z => z.elim h1 h2]
        exact kp.keep b o e t, fun b n => by
        have h1 : b ≠ kS := fun z => n (by rw [z]; exact hkH)
        have h2 : b ≠ c := fun z => n (by rw [z]; exact hcH)
        show (if _ then _ else _) ≠ _
        rw [if_neg fun z => z.elim h1 h2]
        exact kp.live b n⟩
      have ht3 : TabsR tb (fun b => if b = kS ∨ b = c then none else H' b) R := ht.mono (fun b o hb e => by
        show (if _ then _ else _) = _
        rw [if_neg fun z => z.elim (hRn hb).1 (hRn hb).2]
        exact e) fun b hb => .inl (List.mem_cons_of_mem _ (List.mem_cons_of_mem _ hb))
      have lnat : kS ≥ s.heap.objs.size := by
        have h1 := Heap.lt_size hMat
        rw [hkS] at h1
        exact Nat.le_of_lt (Nat.lt_trans (Nat.lt_succ_self _) (by rw [← Nat.succ_eq_add_one] at hc; rw [hc]; exact h1))
      have hlz : vs.length ≤ sizeLine := by
        rw [← o2.length, List.length_map, List.length_mergeSort, List.length_zip, hkl, Nat.min_self, hle]
        exact hzl
      refine ⟨.ref c, upd (fun b => if b = kS ∨ b = c then none else H' b) c (.lst vs), ?_, rfl, q c vs _ kp3.ext (hS.keep kp3 ht3) (if_pos (.inr rfl)) (Reps.mono (fun b o _ e t => kp3.keep b o e t) (fun _ h => .inl h) o2) (by
        show (sortK its ks).length ≤ Lim
        unfold sortK
        rw [List.length_map, List.length_mergeSort, List.length_zip, hkl, Nat.min_self]
        exact hlim)⟩
      refine I'.step (g' := s'.gens) (d' := s'.drawn) (t' := tk) (ch := [kS]) (fun b hb => ?_) (fun b o _ _ hb e n => stay b o (nn n).1 (nn n).2 e) (fun b o _ _ hb e n => ⟨o.slots, stay b o (nn n).1 (nn n).2 e⟩) (fun b o hb e n => (H3e b (nn n).1 (nn n).2).trans n) (fun b o hb e => ?_)
        (fun b xs e => (H3e b (nk' e fun _ z => by cases z) (nc' e fun _ z => by cases z)).trans e) (fun b o u e => (H3e b (nk' e fun _ z => by cases z) (nc' e fun _ z => by cases z)).trans e) (fun b ps e => ⟨#[], by rw [H3e b (nk' e fun _ z => by cases z) (nc' e fun _ z => by cases z), e]; simp⟩) (fun m' hm => ?_) (fun b u e => ?_) I'.bare
      · rw [List.mem_singleton] at hb
        subst hb
        refine ⟨.inr (Nat.le_trans I.sz lnat), fun z => (nn I'.free).1 z.symm, fun x c' e => (nn (I'.freeC x c' e)).1, fun p hp => (nn (I'.pin p hp).2.1).1⟩
      · have h1 : b ≠ kS := fun z => hb (by rw [z]; simp)
        by_cases h2 : b = c
        · rw [h2]; exact ⟨_, nk⟩
        · exact ⟨o, stay b o h1 h2 e⟩
      · obtain ⟨o', es', ep', ho', r'⟩ := hm
        exact ⟨o', es', ep', stay _ _ (nn I'.free).1 (nn I'.free).2 ho', r'⟩
      · by_cases h2 : b = c
        · rw [h2, upd_same] at e
          cases e
          rw [h2]
          exact ⟨hlz, _, c2, o1, nk⟩
        · have h1 : b ≠ kS := fun z => by
            rw [z, upd_ne hkc] at e
            simp at e
          rw [H3e b h1 h2] at e
          refine (I'.hok b u e).stay (fun b' w h3 e3 => ?_) (fun b' h3 => (H3e b' (nk' h3 fun _ z => by cases z) (nc' h3 fun _ z => by cases z)).trans h3) fun b' xs h3 => (H3e b' (nk' h3 fun _ z => by cases z) (nc' h3 fun _ z => by cases z)).trans h3
          rcases h3 with rfl | h3
          · exact stay _ _ h1 h2 e3
          · exact stay _ _ (nk' h3 fun _ z => by cases z) (nc' h3 fun _ z => by cases z) e3
  · cases h2

noncomputable def lSrtK (b : Bool) (ψ : List (Option D) → List D → Option D) (f : Fe RV) : Fe (List D) := fun ρ S => if b = true then (f ρ S).bind fun q => (lookL q.1 q.2).bind fun ds => (srtK (fun xs => if xs.length = 1 then ψ [] xs else none) ds).bind fun r => some (r, q.2) else none
theorem LSK {X : Cx} {tb : Tbs} {e : Expr} {p pos lpos kpos : Pos} {f : Fe RV} {b : Bool} {k : Nat} {params : Arguments} {body : Expr} {scope : Scope} {ψ : List (Option D) → List D → Option D} (F : FnsOk tb X.prog X.w X.K X.mg X.base k) (hr : b = true → Room (k + 2) X.A) (hm : X.mg "sorted" = none)
    (he : PE X e (TV tb X f)) (hl : PE X (.Lambda params body scope lpos) (tMk tb X (isLam X params body scope 1 []))) (hP : PsiOk tb X (isLam X params body scope 1 []) ⟨1, ψ, []⟩) (hcl : cloFrom X.env.cells scope.names [] = [] := by rfl) (hg : Gl X "sorted" := by rfl)
    (h1 : starEach [e] X.env = (false, eval e X.env) :: starEach [] X.env := by rfl) (h2 : backTo pos (starEach [e] X.env) = (false, eval e X.env) :: backTo pos (starEach [] X.env) := by rfl) (h3 : (backTo pos (starEach [e] X.env)).any (·.1) = false := by rfl)
    (hall : (backToKw pos (keywordEach [⟨some "key", .Lambda params body scope lpos, kpos⟩] X.env)).all (·.1.isSome) = true := by rfl) (hnone : (backToKw pos (keywordEach [⟨some "key", .Lambda params body scope lpos, kpos⟩] X.env)).any (·.1.isNone) = false := by rfl) (hks : (backToKw pos (keywordEach [⟨some "key", .Lambda params body scope lpos, kpos⟩] X.env)).filterMap (·.1) = [Str.ofString "key"] := by rfl) :
    PE X (.Call (.Name "sorted" p) [e] [⟨some "key", .Lambda params body scope lpos, kpos⟩] pos) (TL tb X (lSrtK b ψ f)) := by
  cases b with
  | false =>
    refine ⟨fun pins s σ H Q I q => ?_⟩
    obtain ⟨ρ, R, m, S, r, S', _, _, ev, _⟩ := q
    exact absurd ev (by unfold lSrtK; simp)
  | true =>
    refine pe_weak (pe_callBK (cr_sortedK F (hr rfl)) hg hm (by decide +kernel) (a_cons he (a_nil (tb := tb)) h1) (pk_cons hl pk_nil) (he := h2) (hpl := h3) (hall := hall) (hnone := hnone) (hks := hks)) fun σ H Q q => ?_
    obtain ⟨ρ, R, m, S, r, S', hE, hS, ev, k'⟩ := q
    unfold lSrtK at ev
    rw [if_pos rfl] at ev
    obtain ⟨⟨r0, S1⟩, e1, e2⟩ := bind_some ev
    obtain ⟨ds, e3, e4⟩ := bind_some e2
    obtain ⟨r1, e5, e6⟩ := bind_some e4
    cases e6
    refine ⟨ρ, R, m, S, [r0], S1, hE, hS, ?_, fun vs H1 R1 m1 x1 s1 rv => ⟨R1, m1, S1, s1, fun g H2 x2 s2 c2 => ?_⟩⟩
    · show (f ρ S).bind _ = _
      rw [e1]; rfl
    · obtain ⟨v, rfl, hv⟩ := rep1 rv
      obtain ⟨a, vl, hva, hq, hrs⟩ := lookL_view s2 (RepV.ext x2 s1.sub hv) e3
      subst hva
      obtain ⟨o, C, ⟨pm, ctv, c1, c3, c4, c5, c6⟩, f2, f3, f4, f5⟩ := c2
      obtain ⟨k1, k2, _⟩ := hP.ok g o C ⟨pm, ctv, c1, c3, c4, c5, c6⟩
      refine ⟨a, g, R1, m1, S1, ds, vl, _, _, rfl, rfl, s2, hq, hrs, ⟨o, C, ψ, [], [], k1, f2, f3, f4, f5, ?_, .nil, ?_⟩, e5, fun p us H' x3 s3 hn rr hlen => k' p us H' R1 m1 (x1.trans (x2.trans x3)) s3 hn rr hlen⟩
      · rw [c3, hcl, c6]
        exact ⟨rfl, fun y c z => by simp at z, fun x y c z => by simp at z, fun i y z => by simp at z⟩
      · rw [k2]
end Ev

/-! The evaluator, part AE: setdefault of dicts with tree keys; their keys sorted. -/
namespace Ev
open PySem PySem.Spec PyProof.Rows L2

/-! ### d.setdefault(k, v) -/
def tSetdX (P : Program) (w : World) (K : PySem.W.Frag) (to : TE) (t : TA) : TE := fun σ H Q => to σ H fun x H1 => ∃ (a : Addr) (xs : List (D × Addr × Value)), x = .ref a ∧ H1 a = some (.ext (DX P w a xs)) ∧ t σ H1 fun ys H2 => ∃ (b : Addr) (d : D) (z : L2.V) (xs : List (D × Addr × Value)) (R : List Addr), ys = [.ref b, z] ∧ H2 a = some (.ext (DX P w a xs)) ∧
  KeysOk K H2 R xs ∧ Rep K H2 R d (.ref b) ∧ D.isKey 8 d = true ∧ (atKey xs d = none → xs.length < sizeLine) ∧ (∀ p, atKey xs d = some p → ∃ v, RelV v p.2 ∧ Q v H2) ∧ (atKey xs d = none → ∀ u, RelV z u → Q z (upd H2 a (.ext (DX P w a (storedH xs d b u)))))
section
variable {X : Cx} {tb : Tbs} {o e : Expr} {es : List Expr} {to : TE} {t : TA} {apos cpos : Pos}
theorem pe_setdX (hu : X.A.units + 65 < cLine) (ho : PE X o to) (ha : PA X (e :: es) t) (hbase : attributeBase o "setdefault" X.env (eval o X.env) = eval o X.env)
    (hfew : ((backTo cpos (starEach (e :: es) X.env)).all (fun x => !x.1) && (backToKw cpos (keywordEach [] X.env)).all (fun x => x.1.isSome)
      && decide ((e :: es).length + ([] : List Keyword).length + (if ([] : List Keyword).isEmpty then 0 else 1) < 30)) = true)
    (hline : (apos.endLine == cpos.line) = true) (hs : starEach (e :: es) X.env = (false, eval e X.env) :: starEach es X.env) (hplain : (backTo cpos (starEach es X.env)).any (·.1) = false) :
    PE X (.Call (.Attribute o "setdefault" apos) (e :: es) [] cpos) (tSetdX X.prog X.w X.K to t) := by
  refine ⟨fun pins s σ H Q I h => ?_⟩
  refine wpAny_Call_method_late hbase hfew hline rfl (thn (ho.run pins s σ H _ I h) fun v s1 ⟨x, H1, I1, r1, a, xs, ex, hx, q1⟩ => ?_)
  subst ex
  cases r1
  obtain ⟨ob, _, _, h1, h2, _⟩ := dx_obj I1 hx
  refine ⟨"dict", "dict.setdefault", PySem.F.plainAttrs_dict, PySem.F.slot_dict_setdefault, PySem.F.type_dict_setdefault, ⟨ob, h1, h2.1⟩, fun a e2 => ?_, ?_⟩
  · cases e2
    exact ⟨ob, h1, h2.2.1⟩
  · have hA := ha.run cpos pins s1 σ H1 _ I1 q1
    rw [hs] at hA ⊢
    refine Calls.callWith_builtin (by show (false || (backTo cpos (starEach es X.env)).any (·.1)) = false; rw [hplain] <;> rfl) (Calls.evalArgs_plain ?_)
    refine thn hA fun us s2 ⟨vs, H2, I2, r2, b, d, z, xs, R, ey, e, ks, rd, kd, hl, q3, q4⟩ => ?_
    subst ey
    obtain ⟨u1, u2, rfl, ru, rz⟩ := Vals.two r2
    cases ru
    obtain ⟨dd, hz, hsys⟩ := dx_of I2 e ks
    refine call_setdefault_heap (room_X hu) (isK_of I2 rd kd rfl) hsys dd (fun p hp => ?_) (fun hn h' dd' hsb => ?_) hz
    · obtain ⟨v, hv, q5⟩ := q3 p hp
      exact ⟨v, H2, I2.tok _, hv, q5⟩
    · have he : ∃ q, h'.get? a = some q := let ⟨q, _, _, hq, _⟩ := dd'; ⟨q, hq⟩
      have hlen : (storedH xs d b u2).length ≤ sizeLine := by
        unfold storedH
        split
        · rw [List.length_map]; exact hz
        · have := hl hn
          rw [List.length_append, List.length_singleton]; omega
      exact ⟨z, _, d_write I2 (by rw [e]; exact True.intro) hsb he (dx_ok dd' hlen hsys), rz, q4 hn u2 rz⟩
def eSetdX (fo fk fv : Fe RV) : Fe RV := fun ρ S => (fo ρ S).bind fun o => (isDX o.1 o.2).bind fun _ => (fk ρ o.2).bind fun k => (fv ρ k.2).bind fun v => (isDX o.1 v.2).bind fun q => (tKey k.1).bind fun kk => match dGet q.2 kk with
  | some d => some (.d d, v.2)
  | none => match v.1 with
    | .d d => if q.2.length < Lim then some (.d d, v.2.set q.1 (.dcx (dPut q.2 kk d))) else none
    | _ => none
theorem e_setdX {ek ev : Expr} {fo fk fv : Fe RV} (hu : X.A.units + 65 < cLine) (ho : PE X o (TV tb X fo)) (hk : PE X ek (TV tb X fk)) (hv : PE X ev (TV tb X fv)) (hbase : attributeBase o "setdefault" X.env (eval o X.env) = eval o X.env := by rfl)
    (hfew : ((backTo cpos (starEach [ek, ev] X.env)).all (fun x => !x.1) && (backToKw cpos (keywordEach [] X.env)).all (fun x => x.1.isSome)
      && decide (([ek, ev] : List Expr).length + ([] : List Keyword).length + (if ([] : List Keyword).isEmpty then 0 else 1) < 30)) = true := by rfl)
    (hline : (apos.endLine == cpos.line) = true := by rfl) (hs : starEach [ek, ev] X.env = (false, eval ek X.env) :: starEach [ev] X.env := by rfl) (hs2 : starEach [ev] X.env = (false, eval ev X.env) :: starEach [] X.env := by rfl) (hplain : (backTo cpos (starEach [ev] X.env)).any (·.1) = false := by rfl) :
    PE X (.Call (.Attribute o "setdefault" apos) [ek, ev] [] cpos) (TV tb X (eSetdX fo fk fv)) := by
  refine pe_weak (pe_setdX hu ho (a_cons hk (a_cons hv a_nil hs2) hs) hbase hfew hline hs hplain) fun σ H Q ⟨ρ, R, m, S, r, S', hE, hS, ev, k⟩ => ?_
  obtain ⟨⟨ov, S1⟩, e1, ea⟩ := bind_some ev
  obtain ⟨⟨n0, kvs0⟩, e0, eb⟩ := bind_some ea
  obtain ⟨⟨kv, S2⟩, e2, ec⟩ := bind_some eb
  obtain ⟨⟨vv, S3⟩, e3, ed⟩ := bind_some ec
  obtain ⟨⟨n, kvs⟩, e4, ee⟩ := bind_some ed
  obtain ⟨kk, e5, ef⟩ := bind_some ee
  clear ev ea eb ec ed ee
  refine ⟨ρ, R, m, S, ov, S1, hE, hS, e1, fun x H1 R1 m1 x1 s1 r1 => ?_⟩
  obtain ⟨a, xs0, ex, _, hx0, _, _⟩ := dx_view s1 r1 e0
  refine ⟨a, xs0, ex, hx0, ρ, R1, m1, S1, [kv, vv], S3, hE.ext x1 hS.sub, s1, ?_, fun ys H2 R2 m2 x2 s2 r2 => ?_⟩
  · show (fk ρ S1).bind _ = _
    rw [e2, Option.bind_some]
    show ((((fv ρ S2).bind _) : Option _).bind _) = _
    rw [e3]
    rfl
  · obtain ⟨v1, u1, rfl, r3, r4⟩ := rep2 r2
    obtain ⟨a', xs, ea, h1, h2, h3, h4⟩ := dx_view s2 (RepV.ext x2 s1.sub r1) e4
    have eaa : a = a' := by
      rw [ex] at ea
      exact L2.V.ref.inj ea
    subst eaa
    obtain ⟨b, rfl, h5, h6⟩ := tKey_view r3 e5
    have hlen : kvs.length = xs.length := Paired.length h3
    have pat := PX.at kk h3
    have hm := List.mem_of_getElem? h1
    cases hg : dGet kvs kk with
    | some d =>
      rw [hg] at ef
      cases ef
      obtain ⟨p0, v0, g1, g2, g3⟩ := pat.1 d hg
      refine ⟨b, kk, u1, xs, R2, rfl, h2, h3.keys, h5, h6, ?_, fun p hp => ?_, fun hn => ?_⟩
      · intro hn; rw [g1] at hn; cases hn
      · rw [g1] at hp
        cases hp
        exact ⟨v0, g2, k v0 H2 R2 m2 (x1.trans x2) s2 g3⟩
      · rw [g1] at hn; cases hn
    | none =>
      rw [hg] at ef
      simp only at ef
      split at ef
      · rename_i d
        split at ef
        · rename_i hl
          cases ef
          refine ⟨b, kk, u1, xs, R2, rfl, h2, h3.keys, h5, h6, fun _ => by rw [lim_eq, ← hlen]; exact hl, fun p hp => ?_, fun _ u hu => ?_⟩
          · have z := pat.2
            rw [hg, hp] at z
            cases z
          · have rd : Rep X.K H2 R2 d u1 := r4
            have x4 := Ext.chg (H := H2) (R := R2) (o := .ext (DX X.prog X.w a (storedH xs kk b u))) hm (by rw [h2]; intro z; cases z)
            refine k u1 _ R2 m2 ((x1.trans x2).trans x4) (s2.chg h1 ⟨_, upd_same, ?_⟩) (Rep.ext x4 s2.sub rd)
            exact Paired.mapP (PX.put kk h5 h6 hu rd h3) fun _ _ ⟨z1, z2, z3, v, z4, z5⟩ => ⟨z1, Rep.ext x4 s2.sub z2, z3, v, z4, Rep.ext x4 s2.sub z5⟩
        · cases ef
      · cases ef
end
/-! ### sorted(d) -/
noncomputable def sortD (ks : List D) : List D := ks.mergeSort (PySem.W.dataLe false D.py)
mutual
theorem reads_key {X : Cx} {pins : List (Addr × Obj)} {σ : L2.St} {H : Hp} {s : Shared} {R : List Addr} (I : Inv X pins σ H s) : ∀ {n : Nat} {d : D} {v : L2.V} {u : Value}, Rep X.K H R d v → D.isKey n d = true → RelV v u → Reads s.heap u d.py []
  | _, .int i, _, _, .int _, _, r => by
    obtain ⟨t, rfl⟩ := r
    simp only [D.py]
    exact .int i t
  | _, .str x, _, _, .str _, k, r => by
    obtain ⟨t, rfl⟩ := r
    simp only [D.py]
    exact .str x t
  | 0, .tup ds, _, _, _, k, _ => by simp [D.isKey] at k
  | n + 1, .tup ds, _, _, h, k, r => by
    obtain ⟨a, vs, rfl, h1, h2⟩ := Rep.isT h
    cases r
    obtain ⟨its, rv, ⟨o, ho, hc, c, hd⟩, _⟩ := I.tuple h1
    simp only [D.py]
    refine .tuple ho hc hd ?_
    rw [List.toList_toArray]
    exact reads_keys I h2 (by unfold D.isKey at k; exact k) rv
  | _, .non, _, _, _, k, _ => by simp [D.isKey] at k
  | _, .bl _, _, _, _, k, _ => by simp [D.isKey] at k
  | _, .lst _, _, _, _, k, _ => by simp [D.isKey] at k
theorem reads_keys {X : Cx} {pins : List (Addr × Obj)} {σ : L2.St} {H : Hp} {s : Shared} {R : List Addr} (I : Inv X pins σ H s) : ∀ {n : Nat} {ds : List D} {vs : List L2.V} {us : List Value}, Reps X.K H R ds vs → ds.all (D.isKey n) = true → Vals vs us → ReadsAll s.heap us (D.pys ds) []
  | _, [], _, _, .nil, _, r => by cases r; simp only [D.pys]; exact .nil
  | n, d :: ds, _, _, .cons h t, k, r => by
    rw [List.all_cons, Bool.and_eq_true] at k
    simp only [D.pys]
    cases r with
    | cons r1 r2 => exact .cons (as := []) (bs := []) (reads_key I h k.1 r1) (reads_keys I t k.2 r2)
end
def rSX (P : Program) (w : World) (K : PySem.W.Frag) : List L2.V → Hp → VK → Prop := fun vs H Q => ∃ (a : Addr) (R : List Addr) (xs : List (D × Addr × Value)), vs = [.ref a] ∧ H a = some (.ext (DX P w a xs)) ∧ KeysOk K H R xs ∧ keysOk (xs.map (·.1)) = true ∧
  ∀ (p : Addr) (us : List L2.V), H p = none → Reps K H R (sortD (xs.map (·.1))) us → Q (.ref p) (upd H p (.lst us))
theorem outD {K : PySem.W.Frag} {H : Hp} {R : List Addr} : ∀ {xs : List D} {us : List Value}, PySem.W.EachIs (fun u (x : D) => ∃ v, RelV v u ∧ Rep K H R x v) us xs → ∃ vs, Vals vs us ∧ Reps K H R xs vs
  | [], _, .nil => ⟨[], .nil, .nil⟩
  | x :: xs, _, .cons ⟨v, h1, h2⟩ t => by
    obtain ⟨vs, h3, h4⟩ := outD t
    exact ⟨v :: vs, .cons h1 h3, .cons h2 h4⟩
theorem eachXs {K : PySem.W.Frag} {H : Hp} {R : List Addr} {Q : Value → D → Prop} : ∀ {xs : List (D × Addr × Value)}, (∀ q ∈ xs, Q (.ref q.2.1) q.1) → PySem.W.EachIs Q (xs.map fun q => .ref q.2.1) (xs.map (·.1))
  | [], _ => .nil
  | x :: xs, h => .cons (h x List.mem_cons_self) (eachXs (K := K) (H := H) (R := R) fun q hq => h q (List.mem_cons_of_mem _ hq))
theorem obj_there {P : Program} {w : World} {H : Hp} {h : Heap} {a : Addr} {o : HO} (x : ObjOk P w H h a o) : ∃ q, h.get? a = some q := by
  cases o with
  | lst xs => obtain ⟨_, _, _, _, e⟩ := x; exact ⟨_, e⟩
  | tup xs => obtain ⟨_, _, _, ⟨_, e, _⟩⟩ := x; exact ⟨_, e⟩
  | dK kvs => obtain ⟨_, _, _, _, o, _, _, e, _⟩ := x; exact ⟨_, e⟩
  | dT kvs => obtain ⟨_, _, _, _, o, _, _, e, _⟩ := x; exact ⟨_, e⟩
  | set S n => obtain ⟨o, _, _, _, e, _⟩ := x; exact ⟨_, e⟩
  | ins C dx fs => obtain ⟨_, _, _, e, _⟩ := x; exact ⟨_, e⟩
  | own y => obtain ⟨_, e⟩ := x; exact ⟨_, e⟩
  | xd fs => obtain ⟨_, ⟨_, _, _, e, _⟩, _⟩ := x; exact ⟨_, e⟩
  | rng lo hi => obtain ⟨_, _, _, e⟩ := x; exact ⟨_, e⟩
  | frz ob u => obtain ⟨e, _⟩ := x; exact ⟨_, e⟩
  | tbl ps => exact ⟨_, (show h.get? a = some _ from x)⟩
  | met f y => exact ⟨_, (show h.get? a = some _ from x)⟩
  | ext φ => obtain ⟨_, ⟨_, e⟩, _⟩ := x; exact ⟨_, e⟩
theorem cr_sortedX {X : Cx} (hu : X.A.units + 65 < cLine) (hcalm : X.calm = true) : CallR X (.builtin "sorted") (rSX X.prog X.w X.K) := by
  intro pins s σ H vs us Q I r h
  obtain ⟨a, R, xs, rfl, hx, hks, hok, q⟩ := h
  rw [Vals.ref1 r]
  obtain ⟨o, es, ep, h1, h2, h3, h4, h5, h6, h7⟩ := dx_obj I hx
  have hsz : es.size = xs.length := size_of_entries h4
  have raw : s.heap.DictRaw a es ep := ⟨o, h1, h2, h3⟩
  refine PySem.Calls.call_function_entry kind_sorted plain_sorted entry_sorted (args_sorted1 _) ?_
  unfold Builtin.«sorted»
  refine wpAny_bind (m := checkCount "sorted" 1 1 _) (wpAny_pure ?_)
  refine wpAny_bind (PySem.W.kdu_collect (A := X.A.in1) (KdlSrc.rawDict (prog := X.prog) (w := X.w) h7) (I.ok.hd hcalm) raw (by rw [hsz]; exact h6) fun h' tk acc hk hacc => ?_)
  have hl : acc.toList.length = xs.length := by rw [Array.length_toList, hacc.1, hsz]
  have hav : acc.toList = xs.map fun q => .ref q.2.1 := by
    refine List.ext_getElem? fun j => ?_
    by_cases hj : j < xs.length
    · have hj' : j < acc.toList.length := by rw [hl]; exact hj
      obtain ⟨hi, e⟩ := hacc.2 j acc.toList[j] (by rw [← Array.getElem?_toList]; exact List.getElem?_eq_getElem hj')
      rw [List.getElem?_eq_getElem hj', e, List.getElem?_map, List.getElem?_eq_getElem hj]
      have e2 := entry_at h4 j
      rw [Array.getElem?_eq_getElem hi, List.getElem?_eq_getElem hj] at e2
      rw [Option.some.inj e2]
      rfl
    · rw [List.getElem?_eq_none (by rw [hl]; omega), List.getElem?_eq_none (by rw [List.length_map]; omega)]
  refine wpAny_bind (wpAny_newList ?_ (by rw [hl]; exact h6))
  generalize hD : h'.objs.size = D0
  have hat : (h'.push { cls := .type "list", data := .seq acc.toList.toArray }).get? D0 = some (seqObj "list" acc.toList.toArray 0) := by rw [← hD]; exact Heap.get?_push_size _ rfl
  have hold : ∀ b o, s.heap.get? b = some o → b ≠ D0 ∧ (h'.push { cls := .type "list", data := .seq acc.toList.toArray }).get? b = some o ∧ b < (h'.push { cls := .type "list", data := .seq acc.toList.toArray }).objs.size := fun b o e => by
    have e1 := hk b o e
    have e2 : (h'.push { cls := .type "list", data := .seq acc.toList.toArray }).get? b = some o := Heap.get?_push_of_some _ e1
    exact ⟨by rw [← hD]; exact Nat.ne_of_lt (Heap.lt_size e1), e2, Heap.lt_size e2⟩
  have hHn : H D0 = none := by
    cases z : H D0 with
    | none => rfl
    | some u =>
      obtain ⟨o, ho⟩ := obj_there (I.hok D0 u z)
      exact absurd rfl (hold D0 o ho).1
  have mem : ∀ d ∈ xs.map (·.1), (∃ x l, d = .tup (x :: l)) ∧ d.py.depth ≤ 8 ∧ ∀ e ∈ xs.map (·.1), PySem.W.alike d.py e.py = true := fun d hd => by
    have z := List.all_eq_true.mp hok d hd
    rw [Bool.and_eq_true, Bool.and_eq_true, decide_eq_true_eq] at z
    refine ⟨?_, z.1.2, fun e he => List.all_eq_true.mp z.2 e he⟩
    have z1 := z.1.1
    split at z1
    · exact ⟨_, _, rfl⟩
    · cases z1
  have hal : PySem.W.AllAlike ((xs.map (·.1)).map D.py) := fun d hd d' hd' => by
    obtain ⟨x, hx, rfl⟩ := List.mem_map.mp hd
    obtain ⟨x', hx', rfl⟩ := List.mem_map.mp hd'
    exact (mem x hx).2.2 x' hx'
  have hsk : PySem.W.Sortable ((xs.map (·.1)).map D.py) := .inl fun d hd => by
    obtain ⟨x, hx, rfl⟩ := List.mem_map.mp hd
    obtain ⟨y, l, rfl⟩ := (mem x hx).1
    exact ⟨y.py, D.pys l, by simp only [D.py, D.pys]⟩
  have e0 : PySem.W.EachIs (fun u (x : D) => ∃ v, RelV v u ∧ Rep X.K H R x v) acc.toList (xs.map (·.1)) := by
    rw [hav]
    exact eachXs (K := X.K) (H := H) (R := R) fun q hq => ⟨.ref q.2.1, rfl, (hks q hq).1⟩
  have er : PySem.W.EachIs (fun u (x : D) => ∃ as, Reads (h'.push { cls := .type "list", data := .seq acc.toList.toArray }) u x.py as ∧ D0 ∉ as) acc.toList (xs.map (·.1)) := by
    have key := eachXs (K := X.K) (H := H) (R := R) (xs := xs) (Q := fun u (x : D) => ∃ as, Reads (h'.push { cls := .type "list", data := .seq acc.toList.toArray }) u x.py as ∧ D0 ∉ as) fun q hq => ⟨[], PyProof.Rows.Reads.keeps (fun b o e => (hold b o e).2.1) (reads_key I (hks q hq).1 (hks q hq).2 rfl), by simp⟩
    rw [← hav] at key
    exact key
  have hfin : ∀ out : List Value, out.length = (xs.map (·.1)).length → PySem.W.EachIs (fun u (x : D) => ∃ v, RelV v u ∧ Rep X.K H R x v) out (sortD (xs.map (·.1))) → ∀ tk, EP X pins σ Q (.ref D0) { s with heap := sortedHeap (h'.push { cls := .type "list", data := .seq acc.toList.toArray }) D0 acc.toList (List.toArray out), toks := tk } := by
    intro out ho eo tk
    obtain ⟨vs, o1, o2⟩ := outD eo
    obtain ⟨ep2, hs⟩ := sortedHeap_at (vs := acc.toList) (out := List.toArray out) hat
    have keep : ∀ b o, s.heap.get? b = some o → (sortedHeap (h'.push { cls := .type "list", data := .seq acc.toList.toArray }) D0 acc.toList (List.toArray out)).get? b = some o := fun b o e => (sortedHeap_old (hold b o e).1 (hold b o e).2.2).trans (hold b o e).2.1
    have hlz : vs.length ≤ sizeLine := by
      rw [o1.length, ho, List.length_map]
      exact h6
    refine ⟨.ref D0, upd H D0 (.lst vs), I.un (t' := tk) ⟨fun b u q _ _ _ => keep b u q, fun b u q _ _ _ => ⟨u.slots, keep b u q⟩, fun b u q n _ => by rw [upd_ne (hold b u q).1]; exact n, fun b u q _ => ⟨u, keep b u q⟩, fun b xs q => by rw [upd_ne (ne_of_none q hHn)]; exact q, fun b u xs q => by rw [upd_ne (ne_of_none q hHn)]; exact q, fun b ps q => ⟨#[], by rw [upd_ne (ne_of_none q hHn), q]; simp⟩⟩ (fun b u e => ?_), rfl, q D0 vs hHn o2⟩
    by_cases hb : b = D0
    · rw [hb, upd_same] at e
      cases e
      rw [hb]
      exact ⟨hlz, out, ep2, o1, hs⟩
    · rw [upd_ne hb] at e
      exact (I.hok b u e).stay (fun b' w _ e3 => keep b' w e3) (fun b' h3 => by rw [upd_ne (ne_of_none h3 hHn)]; exact h3) fun b' xs h3 => by rw [upd_ne (ne_of_none h3 hHn)]; exact h3
  have hg : wpAny (model X.prog X.w) X.A.in1 (call (.builtin "list.sort") [.ref D0]) (fun _ s' => EP X pins σ Q (.ref D0) s') X.xe { s with heap := h'.push { cls := .type "list", data := .seq acc.toList.toArray }, toks := tk } :=
    PySem.W.list_sort_data (enc := D.py) (bs := xs.map (·.1)) (s := { s with heap := h'.push { cls := .type "list", data := .seq acc.toList.toArray }, toks := tk }) hat e0 er hal hsk (by rw [List.length_map]; exact h6) (fun d hd => by
      have z := (mem d hd).2.1
      show X.A.units + 1 + 1 + _ < _
      omega) fun out ho eo => hfin out ho eo tk
  refine wpAny_bind (wpAny_holding (wpAny_mono hg (fun _ s' x => ?_) fun _ _ e => e))
  exact wpAny_pure ⟨_, rfl, x⟩
section
variable {X : Cx} {tb : Tbs} {e : Expr} {es : List Expr} {p pos : Pos} {h : Fe (List RV)}
theorem PX.fst {K : PySem.W.Frag} {H : Hp} {R : List Addr} : ∀ {kvs : List (D × D)} {xs : List (D × Addr × Value)}, PX K H R kvs xs → xs.map (·.1) = kvs.map (·.1)
  | _, _, .nil => rfl
  | _, _, .cons h t => by rw [List.map_cons, List.map_cons, h.1, PX.fst t]
noncomputable def bSrtX : Ol := fun rs S => match rs with
  | [.o n] => (match S[n]? with
    | some (.dcx kvs) => if keysOk (kvs.map (·.1)) = true ∧ kvs.length ≤ Lim then some (sortD (kvs.map (·.1))) else none
    | _ => none)
  | _ => none
theorem cl_srtX : CaL tb X (rSX X.prog X.w X.K) bSrtX := by
  intro H R m S rs vs res hS hr e Q k
  unfold bSrtX at e
  split at e
  · rename_i n
    split at e
    · rename_i kvs hn
      split at e
      · rename_i hl
        cases e
        obtain ⟨v, rfl, a, h1, rfl⟩ := rep1 hr
        obtain ⟨xs, h2, h3⟩ := hS.at_ _ a _ h1 hn
        have ef := PX.fst h3
        refine ⟨a, R, xs, rfl, h2, PX.keys h3, by rw [ef]; exact hl.1, fun p us hp r => k p us hp (by rw [← ef]; exact r) (by unfold sortD; rw [List.length_mergeSort, List.length_map]; exact hl.2)⟩
      · cases e
    · cases e
  · cases e
theorem B_sortedX (hu : X.A.units + 65 < cLine) (hm : X.mg "sorted" = none) (ha : PA X (e :: es) (TAs tb X h)) (hc : X.calm = true := by rfl) (hg : Gl X "sorted" := by rfl) (he : starEach (e :: es) X.env = (false, eval e X.env) :: starEach es X.env := by rfl) (hpl : (backTo pos (starEach es X.env)).any (·.1) = false := by rfl) :
    PE X (.Call (.Name "sorted" p) (e :: es) [] pos) (TL tb X (lCall bSrtX h)) := pe_weak (pe_callB (cr_sortedX hu hc) hg hm (by decide +kernel) ha (he := he) (hpl := hpl)) fun _ _ _ => tl_call cl_srtX
end
/-! ### tuple * n -/
def rRepX (K : PySem.W.Frag) : R2 := fun x y H Q => ∃ (l : Addr) (n : Int) (xs : List L2.V), x = .ref l ∧ y = .int n ∧ SqT K H l xs ∧ xs ≠ [] ∧ 2 ≤ n ∧ n ≤ 1000 ∧ xs.length ≤ 1000 ∧ ∀ (p : Addr) (o : Obj), H p = none → o.dict = none → Q (.ref p) (upd H p (.frz o (.tup (List.replicate n.toNat xs).flatten)))
theorem op_repX {X : Cx} : OpR X (binaryOp .Mult) (rRepX X.K) := by
  intro pins s σ H x y v u Q I rx ry ⟨l, n, xs, ex, ey, sq, ne, n2, nk, xk, q⟩
  subst ex ey
  cases rx
  obtain ⟨tk, rfl⟩ := ry
  obtain ⟨vs, rv, ⟨⟨oc, od, odt, osl⟩, og, ocl, oe, odd⟩, vz⟩ := I.tuple sq
  dsimp only at ocl odd
  subst ocl odd
  have lv : vs.length = xs.length := rv.length.symm
  have nv : vs ≠ [] := fun z => ne (List.eq_nil_of_length_eq_zero (by rw [← lv, z]; rfl))
  have ev : vs.toArray.isEmpty = false := by
    cases vs with
    | cons _ _ => rfl
    | nil => exact (nv rfl).elim
  have sv : vs.toArray.size = xs.length := by rw [← lv]; exact List.size_toArray ..
  have ml : n.toNat * xs.length ≤ 1000 * 1000 := Nat.mul_le_mul (by omega) xk
  have mi : ((vs.toArray.size : Nat) : Int) * n ≤ 1000000 := by
    have z1 : ((xs.length : Nat) : Int) * n ≤ 1000 * n := Int.mul_le_mul_of_nonneg_right (by omega) (by omega)
    rw [sv]
    omega
  have fl : (List.replicate n.toNat vs).flatten.length ≤ sizeLine := by
    rw [sizeLine_eq, PyProof.Rows.lm_len_rep_flat, lv]
    omega
  have k0 : (decide (n < -(2 ^ 63)) || decide (n ≥ 2 ^ 63)) = false := by simp; omega
  have k1 : (vs.toArray.isEmpty || n == 1) = false := by rw [ev]; simp; omega
  have k2 : (decide (n ≤ 0) || vs.toArray.isEmpty) = false := by rw [ev]; simp; omega
  have k4 : Builtin.Tuple.tupleTooMany (((vs.toArray.size : Nat) : Int) * n) = false := by unfold Builtin.Tuple.tupleTooMany; rw [sizeLine_eq]; exact decide_eq_false (by omega)
  have tyT : s.TypeIs (.ref l) "tuple" := ⟨_, og, rfl⟩
  have run := tuple_mulW l vs.toArray oe od osl n tk k0 k1 k2 (by omega) k4 (by rw [size_rep, List.size_toArray]; exact fl)
  have call2 := fun z => call_meets (prog := X.prog) (w := X.w) (A := X.A) (s := s) (Q := EP X pins σ Q) (E := X.xe) F.slot_tuple_mul tyT F.entry_tuple_mul (F.args_tuple_mul_2 _ _) run ⟨og, z⟩
  refine wpAny_binaryOp_repeat_ref (U := "int") (T := "tuple") (by decide) tyT (fun s' => typeIs_int s' n tk) noFill_tuple_mul F.fills_int_mul F.slot_int_rmul repeat_tuple F.slot_int_index.lookup ?_
  refine call_meets F.slot_int_rmul (typeIs_int s n tk) F.entry_int_rmul (F.args_int_rmul_2 _ _) (int_rmul_tuple n tk l vs.toArray oe od osl) ⟨og, rfl, tyT, call2 ?_⟩
  rw [size_rep]
  have new : ObjOk X.prog X.w (upd H s.heap.objs.size (.frz { cls := Value.type "tuple", data := Data.seq (List.replicate n.toNat vs).flatten.toArray } (.tup (List.replicate n.toNat xs).flatten))) (s.heap.push { cls := Value.type "tuple", data := Data.seq (List.replicate n.toNat vs).flatten.toArray }) s.heap.objs.size (.frz { cls := Value.type "tuple", data := Data.seq (List.replicate n.toNat vs).flatten.toArray } (.tup (List.replicate n.toNat xs).flatten)) :=
    ⟨Heap.get?_push_size _ rfl, by rw [sizeLine_eq, PyProof.Rows.lm_len_rep_flat]; omega, _, rv.rep n.toNat, IsTup.new _ _⟩
  exact ⟨.ref s.heap.objs.size, _, I.laid (t' := s.toks) (fun _ _ z => Heap.get?_push_of_some _ z) (Nat.le_refl _) new, rfl, q _ _ (I.hok.fresh (Nat.le_refl _)) rfl⟩
def vRep : Op2 := fun x y _ => match x, y with
  | .d (.tup a), .d (.int n) => if a ≠ [] ∧ 2 ≤ n ∧ n ≤ 1000 ∧ a.length ≤ 1000 then some (.d (.tup (List.replicate n.toNat a).flatten)) else none
  | _, _ => none
theorem reps_rep {K : PySem.W.Frag} {H : Hp} {R : List Addr} {ds : List D} {vs : List L2.V} (h : Reps K H R ds vs) : ∀ n : Nat, Reps K H R (List.replicate n ds).flatten (List.replicate n vs).flatten
  | 0 => .nil
  | n + 1 => by
    rw [List.replicate_succ, List.replicate_succ, List.flatten_cons, List.flatten_cons]
    exact h.append (reps_rep h n)
theorem ov_rep {X : Cx} {tb : Tbs} : OpV tb X (rRepX X.K) vRep := by
  intro H R m S x y v u res hS hx hy e Q k
  unfold vRep at e
  split at e
  · rename_i a n
    split at e
    · rename_i hh
      obtain ⟨ne, n2, nk, al⟩ := hh
      cases e
      obtain ⟨p, vs, rfl, h1, h2⟩ := Rep.isT hx
      cases hy
      refine ⟨p, n, vs, rfl, rfl, h1, fun z => ?_, n2, nk, by rw [← h2.length]; exact al, fun c o hc ho => ?_⟩
      · subst z
        cases h2
        exact ne rfl
      · exact k _ _ (.new hc) (hS.new hc) (.tup ⟨o, ho, upd_same⟩ (hS.notR hc) (reps_rep (h2.ext (Ext.new hc) hS.sub) _))
    · cases e
  · cases e
def vMulT : Op2 := vMul.or vRep
theorem ov_mulT {X : Cx} {tb : Tbs} : OpV tb X (fun x y H Q => rI CMul (fun i j => .int (i * j)) x y H Q ∨ rRepX X.K x y H Q) vMulT := OpV.or ov_mul ov_rep
theorem or_mulT {X : Cx} : OpR X (binaryOp .Mult) (fun x y H Q => rI CMul (fun i j => .int (i * j)) x y H Q ∨ rRepX X.K x y H Q) := OpR.or op_mul op_repX
/-! ### sorted(a list of tuples) -/
def rSL (K : PySem.W.Frag) : List L2.V → Hp → VK → Prop := fun vs H Q => ∃ (a : Addr) (R : List Addr) (ds : List D) (xs : List L2.V), vs = [.ref a] ∧ SqL K H a xs ∧ Reps K H R ds xs ∧ keysOk ds = true ∧ ds.length ≤ Lim ∧
  ∀ (p : Addr) (us : List L2.V), H p = none → Reps K H R (sortD ds) us → Q (.ref p) (upd H p (.lst us))
theorem eachR {K : PySem.W.Frag} {H : Hp} {R : List Addr} : ∀ {ds : List D} {vs : List L2.V} {us : List Value}, Reps K H R ds vs → Vals vs us → PySem.W.EachIs (fun u (x : D) => ∃ v, RelV v u ∧ Rep K H R x v) us ds
  | [], _, _, .nil, r => by cases r; exact .nil
  | _ :: _, _, _, .cons h t, r => by
    cases r with
    | cons r1 r2 => exact .cons ⟨_, r1, h⟩ (eachR t r2)
theorem eachRd {K : PySem.W.Frag} {H : Hp} {h : Heap} {R : List Addr} (rd : ∀ (d : D) (v : L2.V) (u : Value), Rep K H R d v → RelV v u → ∃ as, Reads h u d.py as) : ∀ {ks : List D} {vs : List L2.V} {us : List Value}, Reps K H R ks vs → Vals vs us → PySem.W.EachIs (fun u (d : D) => ∃ as, Reads h u d.py as) us ks
  | [], _, _, .nil, r => by cases r; exact .nil
  | _ :: _, _, _, .cons h t, r => by
    cases r with
    | cons r1 r2 => exact .cons (rd _ _ _ h r1) (eachRd rd t r2)
section
variable {X : Cx} {tb : Tbs} {e : Expr} {es : List Expr} {p pos : Pos} {h : Fe (List RV)}
theorem cr_sortedL (hu : X.A.units + 65 < cLine) : CallR X (.builtin "sorted") (rSL X.K) := by
  intro pins s σ H vs us Q I r ⟨a, R, ds, xs, ev, sq, rd, ok, lz, q⟩
  subst ev
  rw [Vals.ref1 r]
  obtain ⟨its, rv, pl, hz⟩ := I.list sq
  have mem : ∀ d ∈ ds, (∃ x l, d = .tup (x :: l)) ∧ d.py.depth ≤ 8 ∧ ∀ e ∈ ds, PySem.W.alike d.py e.py = true := fun d hd => by
    have z := List.all_eq_true.mp ok d hd
    rw [Bool.and_eq_true, Bool.and_eq_true, decide_eq_true_eq] at z
    refine ⟨?_, z.1.2, fun e he => List.all_eq_true.mp z.2 e he⟩
    have z1 := z.1.1
    split at z1
    · exact ⟨_, _, rfl⟩
    · cases z1
  have hal : PySem.W.AllAlike (ds.map D.py) := fun d hd d' hd' => by
    obtain ⟨x, hx, rfl⟩ := List.mem_map.mp hd
    obtain ⟨x', hx', rfl⟩ := List.mem_map.mp hd'
    exact (mem x hx).2.2 x' hx'
  have hsk : PySem.W.Sortable (ds.map D.py) := .inl fun d hd => by
    obtain ⟨x, hx, rfl⟩ := List.mem_map.mp hd
    obtain ⟨y, l, rfl⟩ := (mem x hx).1
    exact ⟨y.py, D.pys l, by simp only [D.py, D.pys]⟩
  have hln : ds.length ≤ sizeLine := by rw [rd.length]; exact hz
  refine PySem.W.sorted_data (enc := D.py) (bs := ds) (R := fun u (x : D) => ∃ v, RelV v u ∧ Rep X.K H R x v) pl.isList (eachR rd rv) (eachRd (fun d v u r rel => Dp.reads I d.py v u r.dp rel) rd rv) hal hsk hln (fun d hd => ?_) fun out ho eo => ?_
  · have := (mem d hd).2.1
    omega
  · obtain ⟨vs, o1, o2⟩ := outD eo
    obtain ⟨ep, hat⟩ := PyProof.Rows.sortedAll_at s.heap its out.toArray
    have hlz : vs.length ≤ sizeLine := by rw [o1.length, ho]; exact hln
    exact ⟨.ref _, upd H (s.heap.objs.size + 1) (.lst vs), I.laid (t' := s.toks) (fun _ _ => PyProof.Rows.sortedAll_old) (Nat.le_succ _) ⟨hlz, out, ep, o1, hat⟩, rfl, q _ _ (I.hok.fresh (Nat.le_succ _)) o2⟩
noncomputable def bSrtL : Ol := fun rs S => match rs with
  | [x] => (lookL x S).bind fun ds => if keysOk ds = true ∧ ds.length ≤ Lim then some (sortD ds) else none
  | _ => none
theorem cl_srtL : CaL tb X (rSL X.K) bSrtL := by
  intro H R m S rs vs res hS hr e Q k
  unfold bSrtL at e
  split at e
  · obtain ⟨ds, e1, e2⟩ := bind_some e
    split at e2
    · rename_i hl
      cases e2
      obtain ⟨v, rfl, hx⟩ := rep1 hr
      obtain ⟨a, xs, rfl, h1, h2⟩ := lookL_view hS hx e1
      exact ⟨a, R, ds, xs, rfl, h1, h2, hl.1, hl.2, fun p us hp r => k p us hp r (by unfold sortD; rw [List.length_mergeSort]; exact hl.2)⟩
    · cases e2
  · cases e
theorem B_sortedL (hu : X.A.units + 65 < cLine) (hm : X.mg "sorted" = none) (ha : PA X (e :: es) (TAs tb X h)) (hg : Gl X "sorted" := by rfl) (he : starEach (e :: es) X.env = (false, eval e X.env) :: starEach es X.env := by rfl) (hpl : (backTo pos (starEach es X.env)).any (·.1) = false := by rfl) :
    PE X (.Call (.Name "sorted" p) (e :: es) [] pos) (TL tb X (lCall bSrtL h)) := pe_weak (pe_callB (cr_sortedL hu) hg hm (by decide +kernel) ha (he := he) (hpl := hpl)) fun _ _ _ => tl_call cl_srtL
end
end Ev

/-! The evaluator, part N: reading what is printed; the two defs that each law has. -/
namespace Ev
open PySem PySem.Spec PyProof.Rows L2

/-! ### equality of what is written with ints, texts and tuples -/
mutual
theorem eqv_key : ∀ {n m : Nat} {a b : D}, D.isKey n a = true → D.isKey m b = true → PyData.eqv a.py b.py = decide (a = b)
  | _, _, .int i, b, _, h => by
    cases b with
    | int j => simp [D.py, PyData.eqv, Bool.beq_eq_decide_eq]
    | str j => simp [D.py, PyData.eqv]
    | tup j => simp [D.py, PyData.eqv]
    | non => simp [D.isKey] at h
    | bl => simp [D.isKey] at h
    | lst => simp [D.isKey] at h
  | _, _, .str i, b, _, h => by
    cases b with
    | int j => simp [D.py, PyData.eqv]
    | str j => simp [D.py, PyData.eqv, Bool.beq_eq_decide_eq]
    | tup j => simp [D.py, PyData.eqv]
    | non => simp [D.isKey] at h
    | bl => simp [D.isKey] at h
    | lst => simp [D.isKey] at h
  | 0, _, .tup as, b, h, _ => by simp [D.isKey] at h
  | n + 1, m, .tup as, b, h1, h => by
    cases b with
    | int j => simp [D.py, PyData.eqv]
    | str j => simp [D.py, PyData.eqv]
    | tup bs =>
      cases m with
      | zero => simp [D.isKey] at h
      | succ m =>
        simp only [D.py, PyData.eqv]
        rw [eqv_keys (n := n) (m := m) (by simpa [D.isKey] using h1) (by simpa [D.isKey] using h)]
        simp
    | non => simp [D.isKey] at h
    | bl => simp [D.isKey] at h
    | lst => simp [D.isKey] at h
  | _, _, .non, _, h, _ => by simp [D.isKey] at h
  | _, _, .bl _, _, h, _ => by simp [D.isKey] at h
  | _, _, .lst _, _, h, _ => by simp [D.isKey] at h
theorem eqv_keys : ∀ {n m : Nat} {a b : List D}, (∀ x ∈ a, D.isKey n x = true) → (∀ x ∈ b, D.isKey m x = true) → PyData.eqvAll (D.pys a) (D.pys b) = decide (a = b)
  | _, _, [], [], _, _ => by simp [D.pys, PyData.eqvAll]
  | _, _, [], _ :: _, _, _ => by simp [D.pys, PyData.eqvAll]
  | _, _, _ :: _, [], _, _ => by simp [D.pys, PyData.eqvAll]
  | n, m, a :: as, b :: bs, h1, h2 => by
    simp only [D.pys, PyData.eqvAll]
    rw [eqv_key (n := n) (m := m) (h1 a List.mem_cons_self) (h2 b List.mem_cons_self), eqv_keys (n := n) (m := m) (fun x hx => h1 x (List.mem_cons_of_mem _ hx)) fun x hx => h2 x (List.mem_cons_of_mem _ hx)]
    simp
end

/-! ### what may be compared -/
def D.okN : Nat → D → Bool
  | _, .str x => PyData.strOk x
  | n + 1, .tup ds => ds.all (D.okN n)
  | n + 1, .lst ds => ds.all (D.okN n)
  | 0, .tup _ => false
  | 0, .lst _ => false
  | _, _ => true
mutual
theorem okN_lay : ∀ {n : Nat} {d : D}, D.okN n d = true → d.py.canLay0 = true ∧ d.py.depth ≤ n
  | _, .non, _ => by simp [D.py, PyData.canLay0, PyData.depth]
  | _, .bl _, _ => by simp [D.py, PyData.canLay0, PyData.depth]
  | _, .int _, _ => by simp [D.py, PyData.canLay0, PyData.depth]
  | n, .str x, h => by
    have h' : PyData.strOk x = true := by cases n <;> simpa [D.okN] using h
    simp [D.py, PyData.canLay0, PyData.depth, h']
  | 0, .tup _, h => by simp [D.okN] at h
  | 0, .lst _, h => by simp [D.okN] at h
  | n + 1, .tup ds, h => by
    have q := okNs_lay (n := n) (ds := ds) (by simpa [D.okN] using h)
    simp only [D.py, PyData.canLay0, PyData.depth]
    exact ⟨q.1, Nat.succ_le_succ q.2⟩
  | n + 1, .lst ds, h => by
    have q := okNs_lay (n := n) (ds := ds) (by simpa [D.okN] using h)
    simp only [D.py, PyData.canLay0, PyData.depth]
    exact ⟨q.1, Nat.succ_le_succ q.2⟩
theorem okNs_lay : ∀ {n : Nat} {ds : List D}, (∀ d ∈ ds, D.okN n d = true) → PyData.canLayAll0 (D.pys ds) = true ∧ PyData.depthAll (D.pys ds) ≤ n
  | _, [], _ => by simp [D.pys, PyData.canLayAll0, PyData.depthAll]
  | n, d :: ds, h => by
    have q := okN_lay (h d List.mem_cons_self)
    have q2 := okNs_lay (n := n) (ds := ds) fun x hx => h x (List.mem_cons_of_mem _ hx)
    simp only [D.pys, PyData.canLayAll0, PyData.depthAll, Bool.and_eq_true]
    exact ⟨⟨q.1, q2.1⟩, Nat.max_le.mpr ⟨q.2, q2.2⟩⟩
end
theorem ok_of {n : Nat} {d : D} (h : D.okN n d = true) (hn : n ≤ 64 := by decide) : d.ok = true := by
  have q := okN_lay h
  unfold D.ok SeqAt.shaped
  rw [Bool.and_eq_true, decide_eq_true_eq]
  exact ⟨q.1, Nat.le_trans q.2 hn⟩
theorem key_okN : ∀ {n : Nat} {d : D}, D.isKey n d = true → D.okN n d = true
  | 0, d, h => by cases d <;> simp_all [D.isKey, D.okN]
  | n + 1, d, h => by
    cases d with
    | tup ds => simp only [D.isKey, D.okN, List.all_eq_true] at h ⊢; exact fun x hx => key_okN (h x hx)
    | _ => simp_all [D.isKey, D.okN]
theorem okN_mono : ∀ {n m : Nat} {d : D}, D.okN n d = true → n ≤ m → D.okN m d = true
  | 0, m, d, h, _ => by cases d <;> cases m <;> simp_all [D.okN]
  | n + 1, 0, _, _, h => by omega
  | n + 1, m + 1, d, h, hm => by
    cases d with
    | tup ds => simp only [D.okN, List.all_eq_true] at h ⊢; exact fun x hx => okN_mono (h x hx) (by omega)
    | lst ds => simp only [D.okN, List.all_eq_true] at h ⊢; exact fun x hx => okN_mono (h x hx) (by omega)
    | _ => simpa [D.okN] using h
theorem isKey_mono : ∀ {n m : Nat} {d : D}, D.isKey n d = true → n ≤ m → D.isKey m d = true
  | 0, m, d, h, _ => by cases d <;> cases m <;> simp_all [D.isKey]
  | n + 1, 0, _, _, h => by omega
  | n + 1, m + 1, d, h, hm => by
    cases d with
    | tup ds => simp only [D.isKey, List.all_eq_true] at h ⊢; exact fun x hx => isKey_mono (h x hx) (by omega)
    | _ => simpa [D.isKey] using h
end Ev

/-! The evaluator, part Q: each reading's value by rewriting. -/
namespace Ev
open PySem PySem.Spec PyProof.Rows L2

theorem obind_cong {α β : Type} {a a' : Option α} {f : α → Option β} (h : a = a') : a.bind f = a'.bind f := by rw [h]
section
variable {ρ ρ1 : Env'} {S S1 : Sto} {f g h : Fe RV} {t u : Fe Bool} {F G : Fs} {i n : Nat} {r : RV} {x y : RV} {a b : D} {ds es : List D} {op op' : Op2} {gg : Gt} {rs : List RV} {la lb : Fe (List RV)} {I J : Int} {p q : Bool}
theorem obind_some {α β : Type} {x : α} {k : α → Option β} : (some x).bind k = k x := (rfl)
theorem obind_none {α β : Type} {k : α → Option β} : (none : Option α).bind k = none := (rfl)
theorem omap_some {α β : Type} {x : α} {k : α → β} : (some x).map k = some (k x) := (rfl)
theorem omap_none {α β : Type} {k : α → β} : (none : Option α).map k = none := (rfl)
theorem set_0 {α : Type} {x y : α} {xs : List α} : (x :: xs).set 0 y = y :: xs := (rfl)
theorem set_s {α : Type} {x y : α} {i : Nat} {xs : List α} : (x :: xs).set (i + 1) y = x :: xs.set i y := (rfl)
theorem eC_ : eC a ρ S = some (.d a, S) := (rfl)
theorem eTy_ {k : Tn} : eTy k ρ S = some (.t k, S) := (rfl)
theorem eVar_0 : eVar 0 (some r :: ρ) S = some (r, S) := (rfl)
theorem eVar_s {z : Option RV} : eVar (i + 1) (z :: ρ) S = eVar i ρ S := by unfold eVar; rw [List.getElem?_cons_succ]
def binK (op : Op2) (x : RV) (z : RV × Sto) : Option (RV × Sto) := (op x z.1 z.2).bind fun w => some (w, z.2)
def binJ (op : Op2) (g : Fe RV) (ρ : Env') (z : RV × Sto) : Option (RV × Sto) := (g ρ z.2).bind (binK op z.1)
theorem eBin_ : eBin op f g ρ S = (f ρ S).bind (binJ op g ρ) := (rfl)
theorem binJ_ : binJ op g ρ (x, S) = (g ρ S).bind (binK op x) := (rfl)
theorem binK_ : binK op x (y, S) = (op x y S).bind fun w => some (w, S) := (rfl)
theorem aNil_ : aNil ρ S = some ([], S) := (rfl)
def consJ (h : Fe (List RV)) (ρ : Env') (z : RV × Sto) : Option (List RV × Sto) := (h ρ z.2).bind fun w => some (z.1 :: w.1, w.2)
theorem aCons_ : aCons f la ρ S = (f ρ S).bind (consJ la ρ) := (rfl)
theorem consJ_ : consJ la ρ (x, S) = (la ρ S).bind fun w => some (x :: w.1, w.2) := (rfl)
def mapK {α β : Type} (k : α → Sto → Option β) (z : α × Sto) : Option (β × Sto) := (k z.1 z.2).bind fun y => some (y, z.2)
theorem fMap_ {α β : Type} {f : Fe α} {k : α → Sto → Option β} : fMap f k ρ S = (f ρ S).bind (mapK k) := (rfl)
theorem mapK_ {α β : Type} {k : α → Sto → Option β} {x : α} : mapK k (x, S) = (k x S).bind fun y => some (y, S) := (rfl)
theorem eCall_ {op : Oc} : eCall op la ρ S = (la ρ S).bind (mapK op) := (rfl)
theorem lCall_ {op : Ol} : lCall op la ρ S = (la ρ S).bind (mapK op) := (rfl)
def dsK (z : List RV × Sto) : Option (List D × Sto) := (dsOf z.1).bind fun ds => if ds.length ≤ Lim then some (ds, z.2) else none
theorem aDs_ : aDs la ρ S = (la ρ S).bind dsK := by
  unfold aDs fMap
  congr 1
  funext z
  show ((match dsOf z.1 with
    | some ds => if ds.length ≤ Lim then some ds else none
    | none => none).bind fun y => some (y, z.2)) = (dsOf z.1).bind fun ds => if ds.length ≤ Lim then some (ds, z.2) else none
  cases dsOf z.1 with
  | none => rfl
  | some ds =>
    show (if ds.length ≤ Lim then some ds else none).bind (fun y => some (y, z.2)) = if ds.length ≤ Lim then some (ds, z.2) else none
    by_cases h : ds.length ≤ Lim
    · rw [if_pos h, if_pos h]; rfl
    · rw [if_neg h, if_neg h]; rfl
theorem dsK_ : dsK (rs, S) = (dsOf rs).bind fun ds => if ds.length ≤ Lim then some (ds, S) else none := (rfl)
theorem dsOf_nil : dsOf [] = some [] := (rfl)
theorem dsOf_cons : dsOf (.d a :: rs) = (dsOf rs).map fun xs => a :: xs := (rfl)
theorem eTup_ : eTup la ρ S = (aDs la ρ S).bind fun z => some (.d (.tup z.1), z.2) := (rfl)
theorem eVal_ {l : Fe (List D)} : eVal l ρ S = (l ρ S).bind fun z => some (.d (.lst z.1), z.2) := (rfl)
theorem eObj_ {l : Fe (List D)} : eObj l ρ S = (l ρ S).bind fun z => some (.o z.2.length, z.2 ++ [.lst z.1]) := (rfl)
def ifK {α : Type} (f g : Fe α) (ρ : Env') (z : Bool × Sto) : Option (α × Sto) := (if z.1 = true then f else g) ρ z.2
theorem fIf_ : fIf t f g ρ S = (t ρ S).bind (ifK f g ρ) := (rfl)
theorem ifK_t {α : Type} {f g : Fe α} : ifK f g ρ (true, S) = f ρ S := (rfl)
theorem ifK_f {α : Type} {f g : Fe α} : ifK f g ρ (false, S) = g ρ S := (rfl)
def tstK (z : RV × Sto) : Option (Bool × Sto) := (isBl z.1).bind fun k => some (k, z.2)
theorem fTest_ : fTest f ρ S = (f ρ S).bind tstK := (rfl)
theorem tstK_ : tstK (.d (.bl p), S) = some (p, S) := (rfl)
theorem fTru_ : fTru f ρ S = (f ρ S).bind (mapK vTru) := (rfl)
theorem vTru_bl : vTru (.d (.bl p)) S = some p := (rfl)
theorem vTru_int : vTru (.d (.int I)) S = some (I != 0) := (rfl)
theorem vTru_non : vTru (.d .non) S = some false := (rfl)
theorem vTru_lst : vTru (.d (.lst ds)) S = some (!ds.isEmpty) := (rfl)
theorem vTru_tup : vTru (.d (.tup ds)) S = some (!ds.isEmpty) := (rfl)
def andK (u : Fe Bool) (ρ : Env') (z : Bool × Sto) : Option (Bool × Sto) := (if z.1 = true then u else fun _ S => some (false, S)) ρ z.2
def orK (u : Fe Bool) (ρ : Env') (z : Bool × Sto) : Option (Bool × Sto) := (if z.1 = true then fun _ S => some (true, S) else u) ρ z.2
theorem fAnd_ : fAnd t u ρ S = (t ρ S).bind (andK u ρ) := (rfl)
theorem andK_t : andK u ρ (true, S) = u ρ S := (rfl)
theorem andK_f : andK u ρ (false, S) = some (false, S) := (rfl)
theorem fOr_ : fOr t u ρ S = (t ρ S).bind (orK u ρ) := (rfl)
theorem orK_t : orK u ρ (true, S) = some (true, S) := (rfl)
theorem orK_f : orK u ρ (false, S) = u ρ S := (rfl)
theorem fNot_ : fNot t ρ S = (t ρ S).bind fun z => some (!z.1, z.2) := (rfl)
def eandK (g : Fe RV) (ρ : Env') (z : RV × Sto) : Option (RV × Sto) := (match isBl z.1 with
  | some true => g
  | some false => fun _ S => some (.d (.bl false), S)
  | none => fun _ _ => none) ρ z.2
def eorK (g : Fe RV) (ρ : Env') (z : RV × Sto) : Option (RV × Sto) := (match isBl z.1 with
  | some true => (fun _ S => some (RV.d (.bl true), S) : Fe RV)
  | some false => g
  | none => fun _ _ => none) ρ z.2
theorem eAnd_ : eAnd f g ρ S = (f ρ S).bind (eandK g ρ) := (rfl)
theorem eandK_t : eandK g ρ (.d (.bl true), S) = g ρ S := (rfl)
theorem eandK_f : eandK g ρ (.d (.bl false), S) = some (.d (.bl false), S) := (rfl)
theorem eOr_ : eOr f g ρ S = (f ρ S).bind (eorK g ρ) := (rfl)
theorem eorK_t : eorK g ρ (.d (.bl true), S) = some (.d (.bl true), S) := (rfl)
theorem eorK_f : eorK g ρ (.d (.bl false), S) = g ρ S := (rfl)
def notK (z : RV × Sto) : Option (RV × Sto) := ((isBl z.1).map fun k => RV.d (.bl !k)).bind fun y => some (y, z.2)
theorem eNot_ : eNot f ρ S = (f ρ S).bind notK := (rfl)
theorem notK_ : notK (.d (.bl p), S) = some (.d (.bl !p), S) := (rfl)

/-! operators -/
theorem vAdd_i : vAdd (.d (.int I)) (.d (.int J)) S = some (.d (.int (I + J))) := (rfl)
theorem vAddI_i : vAddI (.d (.int I)) (.d (.int J)) S = some (.d (.int (I + J))) := (rfl)
theorem vAdd_t : vAdd (.d (.tup ds)) (.d (.tup es)) S = if ds.length + es.length ≤ Lim then some (.d (.tup (ds ++ es))) else none := (rfl)
theorem vSub_i : vSub (.d (.int I)) (.d (.int J)) S = some (.d (.int (I - J))) := (rfl)
theorem vMul_i (h : pMul I J = true) : vMul (.d (.int I)) (.d (.int J)) S = some (.d (.int (I * J))) := by
  show (if pMul I J = true then _ else _) = _
  rw [if_pos h]
theorem vDiv_i (h : pDiv I J = true) : vDiv (.d (.int I)) (.d (.int J)) S = some (.d (.int (I / J))) := by
  show (if pDiv I J = true then _ else _) = _
  rw [if_pos h]
theorem vMod_i (h : 0 < J) : vMod (.d (.int I)) (.d (.int J)) S = some (.d (.int (I % J))) := by
  show (if decide (0 < J) = true then _ else _) = _
  rw [if_pos (decide_eq_true h)]
theorem vPow_i (h : pPow I J = true) : vPow (.d (.int I)) (.d (.int J)) S = some (.d (.int (I ^ J.toNat))) := by
  show (if pPow I J = true then _ else _) = _
  rw [if_pos h]
theorem vShl_i (h : pPow I J = true) : vShl (.d (.int I)) (.d (.int J)) S = some (.d (.int (I * 2 ^ J.toNat))) := by
  show (if pPow I J = true then _ else _) = _
  rw [if_pos h]
theorem vShr_i (h : 0 ≤ J) : vShr (.d (.int I)) (.d (.int J)) S = some (.d (.int (I / 2 ^ J.toNat))) := by
  show (if decide (0 ≤ J) = true then _ else _) = _
  rw [if_pos (decide_eq_true h)]
theorem vAnd_i : vAnd (.d (.int I)) (.d (.int J)) S = some (.d (.int (Builtin.bitAnd I J))) := (rfl)
theorem vOr_i : vOr (.d (.int I)) (.d (.int J)) S = some (.d (.int (Builtin.bitOr I J))) := (rfl)
theorem vXor_i : vXor (.d (.int I)) (.d (.int J)) S = some (.d (.int (Builtin.bitXor I J))) := (rfl)
theorem vLt_i : vLt (.d (.int I)) (.d (.int J)) S = some (.d (.bl (decide (I < J)))) := (rfl)
theorem vLe_i : vLe (.d (.int I)) (.d (.int J)) S = some (.d (.bl (decide (I ≤ J)))) := (rfl)
theorem vGt_i : vGt (.d (.int I)) (.d (.int J)) S = some (.d (.bl (decide (J < I)))) := (rfl)
theorem vGe_i : vGe (.d (.int I)) (.d (.int J)) S = some (.d (.bl (decide (J ≤ I)))) := (rfl)
theorem ok_int {i : Int} : D.ok (.int i) = true := ok_of (n := 0) (by simp [D.okN])
theorem ok_bl : D.ok (.bl p) = true := ok_of (n := 0) (by simp [D.okN])
theorem ok_non : D.ok .non = true := ok_of (n := 0) (by simp [D.okN])
theorem eqv_int : D.eqv (.int I) (.int J) = decide (I = J) := by simp [D.eqv, D.py, PyData.eqv, Bool.beq_eq_decide_eq]
theorem vEq_ (h1 : a.ok = true) (h2 : b.ok = true) : vEq (.d a) (.d b) S = some (.d (.bl (D.eqv a b))) := by
  show (if (a.ok && b.ok) = true then _ else _) = _
  rw [h1, h2]
  rfl
theorem vNe_ (h1 : a.ok = true) (h2 : b.ok = true) : vNe (.d a) (.d b) S = some (.d (.bl (!D.eqv a b))) := by
  show (if (a.ok && b.ok) = true then _ else _) = _
  rw [h1, h2]
  rfl
theorem vEq_i : vEq (.d (.int I)) (.d (.int J)) S = some (.d (.bl (decide (I = J)))) := by rw [vEq_ ok_int ok_int, eqv_int]
theorem vNe_i : vNe (.d (.int I)) (.d (.int J)) S = some (.d (.bl (!decide (I = J)))) := by rw [vNe_ ok_int ok_int, eqv_int]
theorem vIsN_non {ng : Bool} : vIsN ng (.d .non) (.d .non) S = some (.d (.bl !ng)) := (rfl)
theorem vIsN_int {ng : Bool} : vIsN ng (.d (.int I)) (.d .non) S = some (.d (.bl ng)) := (rfl)
theorem vIsN_bl {ng : Bool} : vIsN ng (.d (.bl p)) (.d .non) S = some (.d (.bl ng)) := (rfl)
theorem vIsN_str {ng : Bool} {z : Str} : vIsN ng (.d (.str z)) (.d .non) S = some (.d (.bl ng)) := (rfl)
theorem vIsN_tup {ng : Bool} : vIsN ng (.d (.tup ds)) (.d .non) S = some (.d (.bl ng)) := (rfl)
theorem vIsN_lst {ng : Bool} : vIsN ng (.d (.lst ds)) (.d .non) S = some (.d (.bl ng)) := (rfl)
theorem vIn_t {ng : Bool} (h1 : a.ok = true) (h2 : (D.tup ds).ok = true) : vIn ng (.d a) (.d (.tup ds)) S = some (.d (.bl (if ng = true then !inD a ds else inD a ds))) := by
  show (if (a.ok && (D.tup ds).ok) = true then _ else _) = _
  rw [h1, h2]
  rfl
theorem vIn_l {ng : Bool} (h1 : a.ok = true) (h2 : (D.lst ds).ok = true) : vIn ng (.d a) (.d (.lst ds)) S = some (.d (.bl (if ng = true then !inD a ds else inD a ds))) := by
  have e : vInL ng (.d a) (.d (.lst ds)) S = some (.d (.bl (if ng = true then !inD a ds else inD a ds))) := by
    show (if (a.ok && (D.lst ds).ok) = true then _ else _) = _
    rw [h1, h2]
    rfl
  unfold vIn Op2.or
  rw [e]
theorem vIn_o {ng : Bool} (hS : S[n]? = some (.lst ds)) (h1 : a.ok = true) (h2 : (D.lst ds).ok = true) : vIn ng (.d a) (.o n) S = some (.d (.bl (if ng = true then !inD a ds else inD a ds))) := by
  have e : vInL ng (.d a) (.o n) S = some (.d (.bl (if ng = true then !inD a ds else inD a ds))) := by
    unfold vInL look lookL
    simp only [hS]
    rw [h1, h2]
    rfl
  unfold vIn Op2.or
  rw [e]

/-! subscripts, slices -/
theorem lookQ_t : lookQ (.d (.tup ds)) S = some ds := (rfl)
theorem lookQ_l : lookQ (.d (.lst ds)) S = some ds := (rfl)
theorem lookQ_o (h : S[n]? = some (.lst ds)) : lookQ (.o n) S = some ds := by unfold lookQ lookL; simp only [h]
theorem vIx_t : vIx (.d (.tup ds)) (.d (.int I)) S = (atI ds I).map RV.d := (rfl)
theorem vIx_l : vIx (.d (.lst ds)) (.d (.int I)) S = (atI ds I).map RV.d := (rfl)
theorem vIx_o (h : S[n]? = some (.lst ds)) : vIx (.o n) (.d (.int I)) S = (atI ds I).map RV.d := by unfold vIx; simp only [lookQ_o h]
theorem atI_0 {α : Type} {x : α} {xs : List α} : atI (x :: xs) 0 = some x := by
  unfold atI ixN
  rw [if_pos (Int.le_refl 0), if_pos (by rw [List.length_cons]; omega)]
  rfl
theorem atI_1 {α : Type} {x y : α} {xs : List α} : atI (x :: y :: xs) 1 = some y := by
  unfold atI ixN
  rw [if_pos (by decide), if_pos (by rw [List.length_cons, List.length_cons]; omega)]
  rfl
theorem atI_2 {α : Type} {x y z : α} {xs : List α} : atI (x :: y :: z :: xs) 2 = some z := by
  unfold atI ixN
  rw [if_pos (by decide), if_pos (by rw [List.length_cons, List.length_cons, List.length_cons]; omega)]
  rfl
theorem atI_nat {α : Type} {xs : List α} {j : Int} (h0 : 0 ≤ j) : atI xs j = xs[j.toNat]? := by
  unfold atI ixN
  rw [if_pos h0]
  by_cases h1 : j < xs.length
  · rw [if_pos h1]; rfl
  · rw [if_neg h1, List.getElem?_eq_none (by omega)]; rfl

/-! built-ins -/
theorem bLen_t : bLen [.d (.tup ds)] S = some (.d (.int ds.length)) := (rfl)
theorem bLen_l : bLen [.d (.lst ds)] S = some (.d (.int ds.length)) := (rfl)
theorem bLen_o (h : S[n]? = some (.lst ds)) : bLen [.o n] S = some (.d (.int ds.length)) := by unfold bLen; simp only [lookQ_o h]
theorem bInt_i : bInt [.d (.int I)] S = some (.d (.int I)) := (rfl)
theorem bInt_b : bInt [.d (.bl p)] S = some (.d (.int (if p then 1 else 0))) := (rfl)
theorem bIsi_int {k : Tn} : bIsi [.d (.int I), .t k] S = some (.d (.bl (Tn.is .int k))) := (rfl)
theorem bIsi_bl {k : Tn} : bIsi [.d (.bl p), .t k] S = some (.d (.bl (Tn.is .bool k))) := (rfl)
theorem bIsi_str {k : Tn} {z : Str} : bIsi [.d (.str z), .t k] S = some (.d (.bl (Tn.is .str k))) := (rfl)
theorem bIsi_tup {k : Tn} : bIsi [.d (.tup ds), .t k] S = some (.d (.bl (Tn.is .tup k))) := (rfl)
theorem bIsi_lst {k : Tn} : bIsi [.d (.lst ds), .t k] S = some (.d (.bl (Tn.is .lst k))) := (rfl)
theorem bIsi_non {k : Tn} : bIsi [.d .non, .t k] S = some (.d (.bl (Tn.is .non k))) := (rfl)
theorem is_ii : Tn.is .int .int = true := (rfl)
theorem is_ib : Tn.is .int .bool = false := (rfl)
theorem is_it : Tn.is .int .tup = false := (rfl)
theorem is_bi : Tn.is .bool .int = true := (rfl)
theorem is_bb : Tn.is .bool .bool = true := (rfl)
theorem is_tt : Tn.is .tup .tup = true := (rfl)
theorem is_ti : Tn.is .tup .int = false := (rfl)
theorem is_tb : Tn.is .tup .bool = false := (rfl)
theorem is_st : Tn.is .str .tup = false := (rfl)
theorem is_si : Tn.is .str .int = false := (rfl)
theorem is_ss : Tn.is .str .str = true := (rfl)
theorem is_nt : Tn.is .non .tup = false := (rfl)
theorem is_ll : Tn.is .lst .lst = true := (rfl)
theorem is_lt : Tn.is .lst .tup = false := (rfl)
theorem is_tl : Tn.is .tup .lst = false := (rfl)
theorem bTup_l : bTup [.d (.lst ds)] S = some (.d (.tup ds)) := (rfl)
theorem bTup_t : bTup [.d (.tup ds)] S = some (.d (.tup ds)) := (rfl)
theorem bTup_o (h : S[n]? = some (.lst ds)) : bTup [.o n] S = some (.d (.tup ds)) := by unfold bTup; simp only [lookQ_o h]; rfl
theorem bLst_l : bLst [.d (.lst ds)] S = if ds.length ≤ Lim then some ds else none := (rfl)
theorem bLst_t : bLst [.d (.tup ds)] S = if ds.length ≤ Lim then some ds else none := (rfl)
theorem blsOf_map {bs : List Bool} : blsOf (bs.map D.bl) = some bs := by
  induction bs with
  | nil => rfl
  | cons b bs ih => show (blsOf (bs.map D.bl)).map _ = _; rw [ih]; rfl
theorem intsOf_map {bs : List Int} : intsOf (bs.map D.int) = some bs := by
  induction bs with
  | nil => rfl
  | cons b bs ih => show (intsOf (bs.map D.int)).map _ = _; rw [ih]; rfl
theorem bBools_l {k : List Bool → Bool} {bs : List Bool} : bBools k [.d (.lst (bs.map D.bl))] S = some (.d (.bl (k bs))) := by
  show (blsOf (bs.map D.bl)).map _ = _
  rw [blsOf_map]; rfl
theorem bInts_l {k : List Int → Int} {bs : List Int} : bInts k [.d (.lst (bs.map D.int))] S = some (.d (.int (k bs))) := by
  show (intsOf (bs.map D.int)).map _ = _
  rw [intsOf_map]; rfl

/-! owned lists -/
def ml0K (k : List D → Option (RV × List D)) (z : RV × Sto) : Option (RV × Sto) := (isObjL z.1 z.2).bind fun q => (k q.2).bind fun w => some (w.1, z.2.set q.1 (.lst w.2))
theorem eMl0_ {k : List D → Option (RV × List D)} : eMl0 k f ρ S = (f ρ S).bind (ml0K k) := (rfl)
theorem ml0K_ {k : List D → Option (RV × List D)} (h : S[n]? = some (.lst ds)) : ml0K k (.o n, S) = (k ds).bind fun w => some (w.1, S.set n (.lst w.2)) := by
  show (isObjL (.o n) S).bind _ = _
  unfold isObjL
  simp only [h, Option.bind_some]
theorem oRev_ : oRev ds = some (.d .non, ds.reverse) := (rfl)
def ml1J (k : List D → RV → Sto → Option (RV × List D)) (x : RV) (y : RV × Sto) : Option (RV × Sto) := (isObjL x y.2).bind fun q2 => (k q2.2 y.1 y.2).bind fun z => some (z.1, y.2.set q2.1 (.lst z.2))
def ml1K (k : List D → RV → Sto → Option (RV × List D)) (g : Fe RV) (ρ : Env') (p : RV × Sto) : Option (RV × Sto) := (isObjL p.1 p.2).bind fun q => (g ρ p.2).bind (ml1J k p.1)
theorem eMl1_ {k : List D → RV → Sto → Option (RV × List D)} : eMl1 k f g ρ S = (f ρ S).bind (ml1K k g ρ) := (rfl)
theorem ml1K_ {k : List D → RV → Sto → Option (RV × List D)} (h : S[n]? = some (.lst ds)) : ml1K k g ρ (.o n, S) = (g ρ S).bind (ml1J k (.o n)) := by
  show (isObjL (.o n) S).bind _ = _
  unfold isObjL
  simp only [h, Option.bind_some]
theorem ml1J_ {k : List D → RV → Sto → Option (RV × List D)} (h : S[n]? = some (.lst ds)) : ml1J k (.o n) (y, S) = (k ds y S).bind fun z => some (z.1, S.set n (.lst z.2)) := by
  show (isObjL (.o n) S).bind _ = _
  unfold isObjL
  simp only [h, Option.bind_some]
theorem oApp_ (h : ds.length < Lim) : oApp ds (.d a) S = some (.d .non, ds ++ [a]) := by
  show (if ds.length < Lim then _ else _) = _
  rw [if_pos h]

/-! statements -/
theorem sNil_ : sNil ρ S = some (.nx, ρ, S) := (rfl)
def seqK (G : Fs) (z : Fl × Env' × Sto) : Option (Fl × Env' × Sto) := match z.1 with
  | .nx => G z.2.1 z.2.2
  | _ => some z
theorem sSeq_ : sSeq2 F G ρ S = (F ρ S).bind (seqK G) := (rfl)
theorem seqK_nx : seqK G (.nx, ρ, S) = G ρ S := (rfl)
theorem seqK_rt : seqK G (.rt r, ρ, S) = some (.rt r, ρ, S) := (rfl)
theorem seqK_bk : seqK G (.bk, ρ, S) = some (.bk, ρ, S) := (rfl)
theorem seqK_ct : seqK G (.ct, ρ, S) = some (.ct, ρ, S) := (rfl)
def sifK (F G : Fs) (ρ : Env') (z : Bool × Sto) : Option (Fl × Env' × Sto) := if z.1 = true then F ρ z.2 else G ρ z.2
theorem sIf_ : sIf t F G ρ S = (t ρ S).bind (sifK F G ρ) := (rfl)
theorem sifK_t : sifK F G ρ (true, S) = F ρ S := (rfl)
theorem sifK_f : sifK F G ρ (false, S) = G ρ S := (rfl)
def asgK (gg : Gt) (ρ : Env') (z : RV × Sto) : Option (Fl × Env' × Sto) := (gg z.1 ρ).bind fun ρ1 => some (.nx, ρ1, z.2)
theorem sAsg_ : sAsg f gg ρ S = (f ρ S).bind (asgK gg ρ) := (rfl)
theorem asgK_ : asgK gg ρ (x, S) = (gg x ρ).bind fun ρ1 => some (.nx, ρ1, S) := (rfl)
theorem gN_ : gN i x ρ = some (ρ.set i (some x)) := (rfl)
theorem gTp_t {gs : List D → Env' → Option Env'} (h : ds.length = n) : gTp n gs (.d (.tup ds)) ρ = gs ds ρ := by
  show (if ds.length = n then _ else _) = _
  rw [if_pos h]
theorem gsNil_ : gsNil [] ρ = some ρ := (rfl)
theorem gsCons_ {gs : List D → Env' → Option Env'} : gsCons gg gs (a :: ds) ρ = (gg (.d a) ρ).bind fun ρ1 => gs ds ρ1 := (rfl)
theorem sRet_ : sRet f ρ S = (f ρ S).bind fun z => some (.rt z.1, ρ, z.2) := (rfl)
theorem sRetN_ : sRetN ρ S = some (.rt (.d .non), ρ, S) := (rfl)
theorem sExpr_ : sExpr f ρ S = (f ρ S).bind fun z => some (.nx, ρ, z.2) := (rfl)
def parK (i j : Nat) (ρ : Env') (z : List RV × Sto) : Option (Fl × Env' × Sto) := match z.1 with
  | [x, y] => some (.nx, (ρ.set i (some x)).set j (some y), z.2)
  | _ => none
theorem sPar_ {i j : Nat} : sPar i j la ρ S = (la ρ S).bind (parK i j ρ) := (rfl)
theorem parK_ {i j : Nat} : parK i j ρ ([x, y], S) = some (.nx, (ρ.set i (some x)).set j (some y), S) := (rfl)
theorem eSeq_ : sSeq f ρ S = (f ρ S).bind (mapK srcOf) := (rfl)
theorem srcOf_t : srcOf (.d (.tup ds)) S = some ⟨ds, none⟩ := (rfl)
theorem srcOf_l : srcOf (.d (.lst ds)) S = some ⟨ds, none⟩ := (rfl)
theorem oR1_ (h : small62 I = true) : oR1 [.d (.int I)] S = some ⟨rng 0 I.toNat, none⟩ := by
  show (if small62 I = true then _ else _) = _
  rw [if_pos h]
theorem oEnum_t : oEnum [.d (.tup ds)] S = some ⟨enumD 0 ds, none⟩ := (rfl)
theorem oEnum_l : oEnum [.d (.lst ds)] S = some ⟨enumD 0 ds, none⟩ := (rfl)
theorem oZip_t : oZip [.d (.tup ds), .d (.tup es)] S = some ⟨zipD ds es, none⟩ := (rfl)
theorem oZip_l : oZip [.d (.lst ds), .d (.lst es)] S = some ⟨zipD ds es, none⟩ := (rfl)

/-! calls -/
def prV : PR → RV
  | .v x => .d x
  | .l xs => .d (.lst xs)
theorem eCallP_ {FP : List D → Option PR} : eCallP n FP la ρ S = (la ρ S).bind fun z => (oP n FP z.1).bind fun r => some (prV r, z.2) := by
  unfold eCallP fMap
  congr 1
  funext z
  show (((oP n FP z.1).bind fun r => match r with
    | .v x => some (RV.d x)
    | .l xs => some (RV.d (.lst xs))).bind fun y => some (y, z.2)) = (oP n FP z.1).bind fun r => some (prV r, z.2)
  cases oP n FP z.1 with
  | none => rfl
  | some r => cases r <;> rfl
theorem oP1 {FP : List D → Option PR} : oP 1 FP [.d a] = FP [a] := (rfl)
theorem oP2 {FP : List D → Option PR} : oP 2 FP [.d a, .d b] = FP [a, b] := (rfl)
theorem oP3 {FP : List D → Option PR} {c : D} : oP 3 FP [.d a, .d b, .d c] = FP [a, b, c] := (rfl)
theorem prV_v : prV (.v a) = .d a := (rfl)
theorem prV_l : prV (.l ds) = .d (.lst ds) := (rfl)
def callSK (n : Nat) (FS : List RV → Sto → Option (RV × Sto)) (z : List RV × Sto) : Option (RV × Sto) := if z.1.length = n then FS z.1 z.2 else none
theorem eCallS_ {FS : List RV → Sto → Option (RV × Sto)} : eCallS n FS la ρ S = (la ρ S).bind (callSK n FS) := (rfl)
theorem callSK_ {FS : List RV → Sto → Option (RV × Sto)} (h : rs.length = n) : callSK n FS (rs, S) = FS rs S := by
  show (if rs.length = n then _ else _) = _
  rw [if_pos h]
/-! slices -/
theorem cut_from (k : Nat) : cutD ds (some (k : Int)) none = ds.drop k := by
  unfold cutD
  rw [HT.sIx_nat, HT.sIx_none]
  by_cases h : k ≤ ds.length
  · rw [Nat.min_eq_left h, List.take_of_length_le (by rw [List.length_drop]; omega)]
  · rw [Nat.min_eq_right (by omega), List.drop_length, List.drop_eq_nil_of_le (by omega), List.take_nil]
def slK (lo hi : Fo) (ρ : Env') (z : RV × Sto) : Option (RV × Sto) := (fSl (fun _ S => some (z.1, S)) lo hi ρ z.2).bind fun p => ((lookT p.1.1).map fun ds => RV.d (.tup (cutD ds p.1.2.1 p.1.2.2))).bind fun y => some (y, p.2)
theorem eSlT_ {lo hi : Fo} : eSlT f lo hi ρ S = (f ρ S).bind (slK lo hi ρ) := by
  unfold eSlT fMap fSl fBind slK
  cases f ρ S with
  | none => rfl
  | some z => rfl
theorem slK_1 : slK (oSome (eC (.int 1))) oNo ρ (.d (.tup ds), S) = some (.d (.tup (ds.drop 1)), S) := by
  show some (RV.d (.tup (cutD ds (some ((1 : Nat) : Int)) none)), S) = _
  rw [cut_from]
theorem drop_1 {α : Type} {x : α} {xs : List α} : (x :: xs).drop 1 = xs := (rfl)
/-! comprehensions, loops over what none owns -/
def lcC (s : Src) (gg : Gt) (t : Fe Bool) (f : Fe RV) (ρ : Env') (ds : List D) (y : RV × Sto) : Option (List D × Sto) := match y.1 with
  | .d v => (lcGo s gg t f ρ ds y.2).bind fun r => some (v :: r.1, r.2)
  | _ => none
def lcB (s : Src) (gg : Gt) (t : Fe Bool) (f : Fe RV) (ρ ρ1 : Env') (ds : List D) (b : Bool × Sto) : Option (List D × Sto) := if b.1 = true then (f ρ1 b.2).bind (lcC s gg t f ρ ds) else lcGo s gg t f ρ ds b.2
def lcK (gg : Gt) (t : Fe Bool) (f : Fe RV) (ρ : Env') (p : Src × Sto) : Option (List D × Sto) := if p.1.ds.length ≤ Lim then lcGo p.1 gg t f ρ p.1.ds p.2 else none
section
variable {src : Fe Src} {vs : List Nat} {s : Src} {xs : List D}
theorem lLc_ : lLc src gg t f vs ρ S = (src ρ S).bind (lcK gg t f (wipeE ρ vs)) := (rfl)
theorem lcK_ (h : xs.length ≤ Lim) : lcK gg t f ρ (⟨xs, none⟩, S) = lcGo ⟨xs, none⟩ gg t f ρ xs S := by
  show (if xs.length ≤ Lim then _ else _) = _
  rw [if_pos h]
theorem wipe_n : wipeE ρ [] = ρ := (rfl)
theorem wipe_c : wipeE ρ (i :: vs) = (wipeE ρ vs).set i none := (rfl)
theorem lcGo_n : lcGo ⟨xs, none⟩ gg t f ρ [] S = some ([], S) := by
  unfold lcGo
  rw [if_pos (show (⟨xs, none⟩ : Src).ok S = true from rfl)]
theorem lcGo_c : lcGo ⟨xs, none⟩ gg t f ρ (a :: ds) S = (gg (.d a) ρ).bind fun ρ1 => (t ρ1 S).bind (lcB ⟨xs, none⟩ gg t f ρ ρ1 ds) := by
  conv => lhs; unfold lcGo
  rw [if_pos (show (⟨xs, none⟩ : Src).ok S = true from rfl)]
  rfl
theorem lcB_t : lcB s gg t f ρ ρ1 ds (true, S) = (f ρ1 S).bind (lcC s gg t f ρ ds) := (rfl)
theorem lcB_f : lcB s gg t f ρ ρ1 ds (false, S) = lcGo s gg t f ρ ds S := (rfl)
theorem lcC_ : lcC s gg t f ρ ds (.d a, S) = (lcGo s gg t f ρ ds S).bind fun r => some (a :: r.1, r.2) := (rfl)
theorem fTrue_ : fTrue ρ S = some (true, S) := (rfl)
def forK (gg : Gt) (F : Fs) (ρ : Env') (p : Src × Sto) : Option (Fl × Env' × Sto) := foGo p.1 gg F p.1.ds ρ p.2
theorem sFor_ : sFor src gg F ρ S = (src ρ S).bind (forK gg F ρ) := (rfl)
theorem forK_ : forK gg F ρ (s, S) = foGo s gg F s.ds ρ S := (rfl)
def foK (s : Src) (gg : Gt) (F : Fs) (ds : List D) (z : Fl × Env' × Sto) : Option (Fl × Env' × Sto) := match z.1 with
  | .nx => foGo s gg F ds z.2.1 z.2.2
  | .ct => foGo s gg F ds z.2.1 z.2.2
  | .bk => some (.nx, z.2)
  | .rt r => some (.rt r, z.2)
theorem foGo_n : foGo ⟨xs, none⟩ gg F [] ρ S = some (.nx, ρ, S) := by
  unfold foGo
  rw [if_pos (show (⟨xs, none⟩ : Src).ok S = true from rfl)]
theorem foGo_c : foGo ⟨xs, none⟩ gg F (a :: ds) ρ S = (gg (.d a) ρ).bind fun ρ1 => (F ρ1 S).bind (foK ⟨xs, none⟩ gg F ds) := by
  conv => lhs; unfold foGo
  rw [if_pos (show (⟨xs, none⟩ : Src).ok S = true from rfl)]
  rfl
theorem foK_nx : foK s gg F ds (.nx, ρ, S) = foGo s gg F ds ρ S := (rfl)
theorem foK_ct : foK s gg F ds (.ct, ρ, S) = foGo s gg F ds ρ S := (rfl)
theorem foK_bk : foK s gg F ds (.bk, ρ, S) = some (.nx, ρ, S) := (rfl)
theorem foK_rt : foK s gg F ds (.rt r, ρ, S) = some (.rt r, ρ, S) := (rfl)
end
/-! instances -/
theorem isIns_o {c : Str} {fs : List (Str × RV)} (h : S[n]? = some (.ins c fs)) : isIns (.o n) S = some (n, c, fs) := by
  unfold isIns
  simp only [h]
theorem lkF_0 {x : Str} {fs : List (Str × RV)} : lkF x ((x, r) :: fs) = some r := by unfold lkF; rw [if_pos rfl]
theorem lkF_s {x z : Str} {fs : List (Str × RV)} (h : x ≠ z) : lkF x ((z, r) :: fs) = lkF x fs := by
  conv => lhs; unfold lkF
  rw [if_neg h]
/-! chains -/
def chL (op' : Op2) (h : Fe RV) (ρ : Env') (y : RV) (S : Sto) (z : RV) : Option (RV × Sto) := match isBl z with
  | some true => (h ρ S).bind (binK op' y)
  | some false => some (.d (.bl false), S)
  | none => none
def chK (op op' : Op2) (h : Fe RV) (ρ : Env') (x : RV) (y : RV × Sto) : Option (RV × Sto) := (op x y.1 y.2).bind (chL op' h ρ y.1 y.2)
def chJ (op op' : Op2) (g h : Fe RV) (ρ : Env') (x : RV × Sto) : Option (RV × Sto) := (g ρ x.2).bind (chK op op' h ρ x.1)
theorem eChain_ : eChain op op' f g h ρ S = (f ρ S).bind (chJ op op' g h ρ) := (rfl)
theorem chJ_ : chJ op op' g h ρ (x, S) = (g ρ S).bind (chK op op' h ρ x) := (rfl)
theorem chK_ : chK op op' h ρ x (y, S) = (op x y S).bind (chL op' h ρ y S) := (rfl)
theorem chL_t : chL op' h ρ y S (.d (.bl true)) = (h ρ S).bind (binK op' y) := (rfl)
theorem chL_f : chL op' h ρ y S (.d (.bl false)) = some (.d (.bl false), S) := (rfl)
/-! making, methods, fields, dicts -/
section
variable {c m : Str} {FS : List RV → Sto → Option (RV × Sto)} {fs : List (Str × RV)} {j : Nat} {cs : List Str} {fl : Str} {kvs : List (D × D)} {v : RV} {ng : Bool} {fo fi fe : Fe RV}
def makeJ (n : Nat) (z : RV × Sto) : Option (RV × Sto) := match z.1 with
  | .d .non => some (.o n, z.2)
  | _ => none
def makeK (c : Str) (n : Nat) (FS : List RV → Sto → Option (RV × Sto)) (p : List RV × Sto) : Option (RV × Sto) := if p.1.length + 1 = n then (FS (.o p.2.length :: p.1) (p.2 ++ [.ins c []])).bind (makeJ p.2.length) else none
theorem eMake_ : eMake c n FS la ρ S = (la ρ S).bind (makeK c n FS) := (rfl)
theorem makeK_ (h : rs.length + 1 = n) : makeK c n FS (rs, S) = (FS (.o S.length :: rs) (S ++ [.ins c []])).bind (makeJ S.length) := by
  show (if rs.length + 1 = n then _ else _) = _
  rw [if_pos h]
theorem makeJ_ : makeJ n (.d .non, S) = some (.o n, S) := (rfl)
def methJ (n : Nat) (FS : List RV → Sto → Option (RV × Sto)) (o : RV) (p : List RV × Sto) : Option (RV × Sto) := if p.1.length + 1 = n then FS (o :: p.1) p.2 else none
def methK (c m : Str) (n : Nat) (FS : List RV → Sto → Option (RV × Sto)) (la : Fe (List RV)) (ρ : Env') (o : RV × Sto) : Option (RV × Sto) := (isIns o.1 o.2).bind fun q => if q.2.1 = c ∧ (lkF m q.2.2).isNone = true then (la ρ o.2).bind (methJ n FS o.1) else none
theorem eMeth_ : eMeth c m n FS f la ρ S = (f ρ S).bind (methK c m n FS la ρ) := (rfl)
theorem methK_ (hS : S[j]? = some (.ins c fs)) (hm : lkF m fs = none) : methK c m n FS la ρ (.o j, S) = (la ρ S).bind (methJ n FS (.o j)) := by
  show (isIns (.o j) S).bind _ = _
  rw [isIns_o hS, Option.bind_some, if_pos ⟨rfl, by rw [hm]; rfl⟩]
theorem methJ_ (h : rs.length + 1 = n) : methJ n FS x (rs, S) = FS (x :: rs) S := by
  show (if rs.length + 1 = n then _ else _) = _
  rw [if_pos h]
def fldL (cs : List Str) (fl : Str) (ρ : Env') (v : RV) (o : RV × Sto) : Option (Fl × Env' × Sto) := (isIns o.1 o.2).bind fun q => if q.2.1 ∈ cs ∧ q.2.2.length < 1000 then some (.nx, ρ, o.2.set q.1 (.ins q.2.1 (putR fl v q.2.2))) else none
def fldJ (cs : List Str) (fl : Str) (fo : Fe RV) (ρ : Env') (v : RV × Sto) : Option (Fl × Env' × Sto) := (fo ρ v.2).bind (fldL cs fl ρ v.1)
theorem sFld_ : sFld cs fl fo fe ρ S = (fe ρ S).bind (fldJ cs fl fo ρ) := (rfl)
theorem fldJ_ : fldJ cs fl fo ρ (v, S) = (fo ρ S).bind (fldL cs fl ρ v) := (rfl)
theorem fldL_ (hS : S[j]? = some (.ins c fs)) (hc : c ∈ cs) (hl : fs.length < 1000) : fldL cs fl ρ v (.o j, S) = some (.nx, ρ, S.set j (.ins c (putR fl v fs))) := by
  show (isIns (.o j) S).bind _ = _
  rw [isIns_o hS, Option.bind_some, if_pos ⟨hc, hl⟩]
def fldK (fl : Str) (z : RV × Sto) : Option (RV × Sto) := ((isIns z.1 z.2).bind fun q => lkF fl q.2.2).bind fun y => some (y, z.2)
theorem eFld_ : eFld fl f ρ S = (f ρ S).bind (fldK fl) := (rfl)
theorem fldK_ (hS : S[j]? = some (.ins c fs)) (h : lkF fl fs = some y) : fldK fl (.o j, S) = some (y, S) := by
  show ((isIns (.o j) S).bind _).bind _ = _
  rw [isIns_o hS, Option.bind_some, h, Option.bind_some]
theorem eNewX_ : eNewX ρ S = some (.o S.length, S ++ [.dcx []]) := (rfl)
theorem isDX_ (hS : S[j]? = some (.dcx kvs)) : isDX (.o j) S = some (j, kvs) := by
  unfold isDX
  simp only [hS]
theorem tKey_ (h : D.isKey 8 (.tup ds) = true) : tKey (.d (.tup ds)) = some (.tup ds) := if_pos h
theorem vInX_ (hS : S[j]? = some (.dcx kvs)) (h : D.isKey 8 (.tup ds) = true) : vInX ng (.d (.tup ds)) (.o j) S = some (.d (.bl (if ng = true then !(dGet kvs (.tup ds)).isSome else (dGet kvs (.tup ds)).isSome))) := by
  show (isDX (.o j) S).bind _ = _
  rw [isDX_ hS, Option.bind_some, tKey_ h, Option.bind_some]
theorem vIxX_ (hS : S[j]? = some (.dcx kvs)) (h : D.isKey 8 (.tup ds) = true) : vIxX (.o j) (.d (.tup ds)) S = (dGet kvs (.tup ds)).map RV.d := by
  show (isDX (.o j) S).bind _ = _
  rw [isDX_ hS, Option.bind_some, tKey_ h, Option.bind_some]
def sxL (ρ : Env') (v o : RV) (i : RV × Sto) : Option (Fl × Env' × Sto) := (isDX o i.2).bind fun q => (tKey i.1).bind fun k => match v with
  | .d d => if q.2.length < Lim then some (.nx, ρ, i.2.set q.1 (.dcx (dPut q.2 k d))) else none
  | _ => none
def sxK (fi : Fe RV) (ρ : Env') (v : RV) (o : RV × Sto) : Option (Fl × Env' × Sto) := (fi ρ o.2).bind (sxL ρ v o.1)
def sxJ (fo fi : Fe RV) (ρ : Env') (v : RV × Sto) : Option (Fl × Env' × Sto) := (fo ρ v.2).bind (sxK fi ρ v.1)
theorem sSubX_ : sSubX fo fi fe ρ S = (fe ρ S).bind (sxJ fo fi ρ) := (rfl)
theorem sxJ_ : sxJ fo fi ρ (v, S) = (fo ρ S).bind (sxK fi ρ v) := (rfl)
theorem sxK_ : sxK fi ρ v (x, S) = (fi ρ S).bind (sxL ρ v x) := (rfl)
theorem sxL_ (hS : S[j]? = some (.dcx kvs)) (h : D.isKey 8 (.tup ds) = true) (hl : kvs.length < Lim) : sxL ρ (.d a) (.o j) (.d (.tup ds), S) = some (.nx, ρ, S.set j (.dcx (dPut kvs (.tup ds) a))) := by
  show (isDX (.o j) S).bind _ = _
  rw [isDX_ hS, Option.bind_some, tKey_ h, Option.bind_some]
  exact if_pos hl
theorem dGet_put : ∀ (kvs : List (D × D)) (k v i : D), dGet (dPut kvs k v) i = if i = k then some v else dGet kvs i := by
  intro kvs k v i
  have h1 : ∀ kvs : List (D × D), dGet (kvs.map fun p => if p.1 = k then (p.1, v) else p) i = (dGet kvs i).map fun x => if i = k then v else x := by
    intro kvs
    induction kvs with
    | nil => rfl
    | cons p r ih =>
      rw [List.map_cons, dGet_cons, dGet_cons, ih]
      by_cases e : p.1 = k
      · rw [if_pos e]
        by_cases e2 : p.1 = i
        · rw [if_pos e2, if_pos e2, Option.map_some, if_pos (e2.symm.trans e)]
        · rw [if_neg e2, if_neg e2]
      · rw [if_neg e]
        by_cases e2 : p.1 = i
        · rw [if_pos e2, if_pos e2, Option.map_some, if_neg (fun z => e (e2.trans z))]
        · rw [if_neg e2, if_neg e2]
  have h2 : ∀ kvs : List (D × D), dGet kvs k = none → dGet (kvs ++ [(k, v)]) i = if i = k then some v else dGet kvs i := by
    intro kvs
    induction kvs with
    | nil =>
      intro _
      show dGet [(k, v)] i = _
      rw [dGet_cons]
      by_cases e : i = k
      · rw [if_pos e, if_pos e.symm]
      · rw [if_neg e, if_neg (fun z => e z.symm)]
    | cons p r ih =>
      intro h
      rw [dGet_cons] at h
      have hk : p.1 ≠ k := fun z => by rw [if_pos z] at h; cases h
      rw [if_neg hk] at h
      rw [List.cons_append, dGet_cons, dGet_cons, ih h]
      by_cases e : p.1 = i
      · rw [if_pos e, if_pos e, if_neg (fun z => hk (e.trans z))]
      · rw [if_neg e, if_neg e]
  unfold dPut
  cases q : dGet kvs k with
  | none =>
    rw [if_neg (by simp)]
    exact h2 kvs q
  | some x =>
    rw [if_pos (by rfl), h1]
    by_cases e : i = k
    · rw [if_pos e, e, q, Option.map_some, if_pos rfl]
    · rw [if_neg e]
      cases dGet kvs i with
      | none => rfl
      | some y => rw [Option.map_some, if_neg e]
theorem dPut_len (kvs : List (D × D)) (k v : D) : (dPut kvs k v).length ≤ kvs.length + 1 := by
  unfold dPut
  split
  · rw [List.length_map]; omega
  · rw [List.length_append, List.length_singleton]; omega
end
/-! reversals, a call that gives a new list -/
def revK (z : RV × Sto) : Option (List D × Sto) := (match lookL z.1 z.2 with
  | some ds => if ds.length ≤ Lim then some ds.reverse else none
  | none => none).bind fun y => some (y, z.2)
theorem lRev_ : lRev f ρ S = (f ρ S).bind revK := (rfl)
theorem revK_l (h : ds.length ≤ Lim) : revK (.d (.lst ds), S) = some (ds.reverse, S) := by
  show (if ds.length ≤ Lim then some ds.reverse else none).bind _ = _
  rw [if_pos h]
  rfl
def revTK (z : RV × Sto) : Option (RV × Sto) := ((lookT z.1).map fun ds => RV.d (.tup ds.reverse)).bind fun y => some (y, z.2)
theorem eRevT_ : eRevT f ρ S = (f ρ S).bind revTK := (rfl)
theorem revTK_ : revTK (.d (.tup ds), S) = some (.d (.tup ds.reverse), S) := (rfl)
def callLK (n : Nat) (FP : List D → Option PR) (z : List RV × Sto) : Option (List D × Sto) := ((oP n FP z.1).bind fun r => match r with
  | .v _ => none
  | .l xs => some xs).bind fun y => some (y, z.2)
theorem lCallP_ {FP : List D → Option PR} : lCallP n FP la ρ S = (la ρ S).bind (callLK n FP) := (rfl)
theorem callLK_ {FP : List D → Option PR} (h : oP n FP rs = some (.l ds)) : callLK n FP (rs, S) = some (ds, S) := by
  show ((oP n FP rs).bind _).bind _ = _
  rw [h]
  rfl
/-! ends -/
def finP (z : Fl × Env' × Sto) : Option PR := match z.1 with
  | .nx => some (.v .non)
  | .rt (.d x) => some (.v x)
  | .rt (.o n) => (match z.2.2[n]? with
    | some (.lst xs) => if xs.length ≤ Lim then some (.l xs) else none
    | _ => none)
  | _ => none
theorem runP_ {N : Nat} : runP N F ds = (F (env0 N (ds.map RV.d)) []).bind finP := (rfl)
theorem finP_n : finP (.nx, ρ, S) = some (.v .non) := (rfl)
theorem finP_v : finP (.rt (.d a), ρ, S) = some (.v a) := (rfl)
theorem finP_o (h : S[n]? = some (.lst ds)) (hl : ds.length ≤ Lim) : finP (.rt (.o n), ρ, S) = some (.l ds) := by
  unfold finP
  simp only [h]
  rw [if_pos hl]
def finS (z : Fl × Env' × Sto) : Option (RV × Sto) := match z.1 with
  | .nx => some (.d .non, z.2.2)
  | .rt r => some (r, z.2.2)
  | _ => none
theorem runS_ {N : Nat} : runS N F rs S = (F (env0 N rs) S).bind finS := (rfl)
theorem finS_n : finS (.nx, ρ, S) = some (.d .non, S) := (rfl)
theorem finS_r : finS (.rt r, ρ, S) = some (r, S) := (rfl)
end

end Ev
local macro_rules | `(tactic| simp? only [$ls,*]) => `(tactic| simp only [Ev.eC_, Ev.eTy_, Ev.eVar_0, Ev.eVar_s, Ev.eBin_, Ev.binJ_, Ev.binK_, Ev.aNil_, Ev.aCons_, Ev.consJ_, Ev.fMap_, Ev.mapK_, Ev.eCall_, Ev.lCall_, Ev.aDs_, Ev.dsK_, Ev.dsOf_nil, Ev.dsOf_cons, Ev.eTup_, Ev.eVal_, Ev.eObj_, Ev.fIf_, Ev.ifK_t, Ev.ifK_f, Ev.fTest_, Ev.tstK_, Ev.fTru_, Ev.vTru_bl, Ev.vTru_int, Ev.vTru_non, Ev.vTru_lst, Ev.vTru_tup, Ev.fAnd_, Ev.andK_t, Ev.andK_f, Ev.fOr_, Ev.orK_t, Ev.orK_f, Ev.fNot_, Ev.eAnd_, Ev.eandK_t, Ev.eandK_f, Ev.eOr_, Ev.eorK_t, Ev.eorK_f, Ev.eNot_, Ev.notK_, Ev.vAdd_i, Ev.vAddI_i, Ev.vSub_i, Ev.vLt_i, Ev.vLe_i, Ev.vGt_i, Ev.vGe_i, Ev.vEq_i, Ev.vNe_i, Ev.vIsN_non, Ev.vIsN_int, Ev.vIsN_bl, Ev.vIsN_str, Ev.vIsN_tup, Ev.vIsN_lst, Ev.vIx_t, Ev.vIx_l, Ev.atI_0, Ev.atI_1, Ev.atI_2, Ev.bLen_t, Ev.bLen_l, Ev.bInt_i, Ev.bInt_b, Ev.bIsi_int, Ev.bIsi_bl, Ev.bIsi_str, Ev.bIsi_tup, Ev.bIsi_lst, Ev.bIsi_non, Ev.is_ii, Ev.is_ib, Ev.is_it, Ev.is_bi, Ev.is_bb, Ev.is_tt, Ev.is_ti, Ev.is_tb, Ev.is_st, Ev.is_si, Ev.is_ss, Ev.is_nt, Ev.is_ll, Ev.is_lt, Ev.is_tl, Ev.bTup_l, Ev.bTup_t, Ev.bBools_l, Ev.bInts_l, Ev.eMl0_, Ev.eMl1_, Ev.oRev_, Ev.sNil_, Ev.sSeq_, Ev.seqK_nx, Ev.seqK_rt, Ev.seqK_bk, Ev.seqK_ct, Ev.sIf_, Ev.sifK_t, Ev.sifK_f, Ev.sAsg_, Ev.asgK_, Ev.gN_, Ev.gsNil_, Ev.gsCons_, Ev.sRet_, Ev.sRetN_, Ev.sExpr_, Ev.sPar_, Ev.parK_, Ev.eSeq_, Ev.srcOf_t, Ev.srcOf_l, Ev.oEnum_t, Ev.oEnum_l, Ev.oZip_t, Ev.oZip_l, Ev.eCallP_, Ev.oP1, Ev.oP2, Ev.oP3, Ev.prV_v, Ev.prV_l, Ev.eCallS_, Ev.eFld_, Ev.finP_n, Ev.finP_v, Ev.finS_n, Ev.finS_r, Ev.eSlT_, Ev.slK_1, Ev.drop_1, Ev.lLc_, Ev.wipe_n, Ev.wipe_c, Ev.lcGo_n, Ev.lcGo_c, Ev.lcB_t, Ev.lcB_f, Ev.lcC_, Ev.fTrue_, Ev.forK_, Ev.foGo_n, Ev.foGo_c, Ev.foK_nx, Ev.foK_ct, Ev.foK_bk, Ev.foK_rt, Ev.lkF_0, Ev.eChain_, Ev.chJ_, Ev.chK_, Ev.chL_t, Ev.chL_f, Ev.eMake_, Ev.makeJ_, Ev.eMeth_, Ev.sFld_, Ev.fldJ_, Ev.eNewX_, Ev.sSubX_, Ev.sxJ_, Ev.sxK_, decide_true, decide_false, Ev.lRev_, Ev.eRevT_, Ev.revTK_, Ev.lCallP_, Ev.obind_some, Ev.obind_none, Ev.omap_some, Ev.omap_none, List.getElem?_cons_zero, List.getElem?_cons_succ, Ev.set_0, Ev.set_s, if_true, if_false, Bool.false_eq_true, Bool.not_true, Bool.not_false, $ls,*])

/-! The evaluator, part O: loops by invariants; the two defs that each law has. -/
namespace Ev
open PySem PySem.Spec PyProof.Rows L2

theorem foGo_inv {s : Src} {gg : Gt} {F : Fs} (P : Nat → Env' → Sto → Prop) (hok : ∀ i ρ S, P i ρ S → s.ok S = true)
    (step : ∀ i ρ S d, s.ds[i]? = some d → P i ρ S → ∃ ρ1 fl ρ2 S2, gg (.d d) ρ = some ρ1 ∧ F ρ1 S = some (fl, ρ2, S2) ∧ (fl = .nx ∨ fl = .ct) ∧ P (i + 1) ρ2 S2) :
    ∀ (k i : Nat) (ρ : Env') (S : Sto), i + k = s.ds.length → P i ρ S → ∃ ρ' S', foGo s gg F (s.ds.drop i) ρ S = some (.nx, ρ', S') ∧ P s.ds.length ρ' S'
  | 0, i, ρ, S, hi, p => by
    have e : i = s.ds.length := by omega
    subst e
    rw [List.drop_length]
    exact ⟨ρ, S, by unfold foGo; rw [if_pos (hok _ _ _ p)], p⟩
  | k + 1, i, ρ, S, hi, p => by
    have hlt : i < s.ds.length := by omega
    rw [List.drop_eq_getElem_cons hlt]
    obtain ⟨ρ1, fl, ρ2, S2, h1, h2, h3, h4⟩ := step i ρ S s.ds[i] (by simp [hlt]) p
    obtain ⟨ρ', S', h5, h6⟩ := foGo_inv P hok step k (i + 1) ρ2 S2 (by omega) h4
    refine ⟨ρ', S', ?_, h6⟩
    unfold foGo
    rw [if_pos (hok _ _ _ p), h1, Option.bind_some, h2, Option.bind_some]
    rcases h3 with h3 | h3 <;> subst h3 <;> exact h5
theorem sFor_inv {src : Fe Src} {gg : Gt} {F : Fs} {ρ : Env'} {S S1 : Sto} {s : Src} (P : Nat → Env' → Sto → Prop) (hs : src ρ S = some (s, S1)) (h0 : P 0 ρ S1) (hok : ∀ i ρ S, P i ρ S → s.ok S = true)
    (step : ∀ i ρ S d, s.ds[i]? = some d → P i ρ S → ∃ ρ1 fl ρ2 S2, gg (.d d) ρ = some ρ1 ∧ F ρ1 S = some (fl, ρ2, S2) ∧ (fl = .nx ∨ fl = .ct) ∧ P (i + 1) ρ2 S2) :
    ∃ ρ' S', sFor src gg F ρ S = some (.nx, ρ', S') ∧ P s.ds.length ρ' S' := by
  obtain ⟨ρ', S', h1, h2⟩ := foGo_inv P hok step s.ds.length 0 ρ S1 (by omega) h0
  rw [List.drop_zero] at h1
  exact ⟨ρ', S', by unfold sFor; rw [hs, Option.bind_some]; exact h1, h2⟩
/-- a loop over what none owns, as a fold -/
theorem foGo_fold {α : Type} {xs : List D} {gg : Gt} {F : Fs} (P : α → Env' → Sto → Prop) (g : α → D → α) : ∀ (ds : List D), (∀ d ∈ ds, ∀ a ρ S, P a ρ S → ∃ ρ1 ρ2 S2, gg (.d d) ρ = some ρ1 ∧ F ρ1 S = some (.nx, ρ2, S2) ∧ P (g a d) ρ2 S2) →
    ∀ a ρ S, P a ρ S → ∃ ρ' S', foGo ⟨xs, none⟩ gg F ds ρ S = some (.nx, ρ', S') ∧ P (ds.foldl g a) ρ' S'
  | [], _, a, ρ, S, p => ⟨ρ, S, foGo_n, p⟩
  | d :: ds, st, a, ρ, S, p => by
    obtain ⟨ρ1, ρ2, S2, h1, h2, h3⟩ := st d List.mem_cons_self a ρ S p
    obtain ⟨ρ', S', h4, h5⟩ := foGo_fold P g ds (fun x hx => st x (List.mem_cons_of_mem _ hx)) (g a d) ρ2 S2 h3
    exact ⟨ρ', S', by rw [foGo_c, h1, Option.bind_some, h2, Option.bind_some, foK_nx, h4], h5⟩
/-- .. with the turns counted -/
theorem foGo_foldI {α : Type} {xs : List D} {gg : Gt} {F : Fs} (P : Nat → α → Env' → Sto → Prop) (g : α → D → α) : ∀ (ds : List D) (n : Nat), (∀ i d, ds[i]? = some d → ∀ a ρ S, P (n + i) a ρ S → ∃ ρ1 ρ2 S2, gg (.d d) ρ = some ρ1 ∧ F ρ1 S = some (.nx, ρ2, S2) ∧ P (n + i + 1) (g a d) ρ2 S2) →
    ∀ a ρ S, P n a ρ S → ∃ ρ' S', foGo ⟨xs, none⟩ gg F ds ρ S = some (.nx, ρ', S') ∧ P (n + ds.length) (ds.foldl g a) ρ' S'
  | [], n, _, a, ρ, S, p => ⟨ρ, S, foGo_n, p⟩
  | d :: ds, n, st, a, ρ, S, p => by
    obtain ⟨ρ1, ρ2, S2, h1, h2, h3⟩ := st 0 d rfl a ρ S p
    obtain ⟨ρ', S', h4, h5⟩ := foGo_foldI P g ds (n + 1) (fun i x hx a ρ S p => by
      have := st (i + 1) x (by simpa using hx) a ρ S (by rw [show n + (i + 1) = n + 1 + i by omega]; exact p)
      rwa [show n + (i + 1) = n + 1 + i by omega] at this) (g a d) ρ2 S2 h3
    refine ⟨ρ', S', by rw [foGo_c, h1, Option.bind_some, h2, Option.bind_some, foK_nx, h4], ?_⟩
    rw [List.length_cons, List.foldl_cons, show n + (ds.length + 1) = n + 1 + ds.length by omega]
    exact h5
/-- a comprehension that changes nothing -/
theorem lcGo_map {s : Src} {gg : Gt} {t : Fe Bool} {f : Fe RV} {ρ : Env'} {S : Sto} (h : D → D) (ok : s.ok S = true) : ∀ {ds : List D}, (∀ d ∈ ds, ∃ ρ1, gg (.d d) ρ = some ρ1 ∧ t ρ1 S = some (true, S) ∧ f ρ1 S = some (.d (h d), S)) → lcGo s gg t f ρ ds S = some (ds.map h, S)
  | [], _ => by unfold lcGo; rw [if_pos ok]; rfl
  | d :: ds, q => by
    obtain ⟨ρ1, h1, h2, h3⟩ := q d List.mem_cons_self
    unfold lcGo
    rw [if_pos ok, h1, Option.bind_some, h2, Option.bind_some]
    simp only [if_true]
    rw [h3, Option.bind_some, lcGo_map h ok fun x hx => q x (List.mem_cons_of_mem _ hx)]
    rfl
theorem lcGo_mapE {α : Type} {xs : List D} {gg : Gt} {t : Fe Bool} {f : Fe RV} {ρ : Env'} {S : Sto} (e g : α → D) : ∀ {ps : List α}, (∀ p ∈ ps, ∃ ρ1, gg (.d (e p)) ρ = some ρ1 ∧ t ρ1 S = some (true, S) ∧ f ρ1 S = some (.d (g p), S)) → lcGo ⟨xs, none⟩ gg t f ρ (ps.map e) S = some (ps.map g, S)
  | [], _ => lcGo_n
  | p :: ps, q => by
    obtain ⟨ρ1, h1, h2, h3⟩ := q p List.mem_cons_self
    rw [List.map_cons, lcGo_c, h1, Option.bind_some, h2, Option.bind_some, lcB_t, h3, Option.bind_some, lcC_, lcGo_mapE e g fun x hx => q x (List.mem_cons_of_mem _ hx)]
    rfl
/-- a comprehension that changes the store -/
theorem lcGo_inv {xs : List D} {gg : Gt} {t : Fe Bool} {f : Fe RV} {ρ : Env'} (I : Sto → Prop) (R : Nat → D → Prop) : ∀ (ds : List D) (n : Nat), (∀ i d, ds[i]? = some d → ∀ S, I S → ∃ ρ1 v S', gg (.d d) ρ = some ρ1 ∧ t ρ1 S = some (true, S) ∧ f ρ1 S = some (.d v, S') ∧ I S' ∧ R (n + i) v) →
    ∀ S, I S → ∃ vs S', lcGo ⟨xs, none⟩ gg t f ρ ds S = some (vs, S') ∧ I S' ∧ vs.length = ds.length ∧ ∀ i v, vs[i]? = some v → R (n + i) v
  | [], n, _, S, p => ⟨[], S, lcGo_n, p, rfl, fun i v h => by simp at h⟩
  | d :: ds, n, st, S, p => by
    obtain ⟨ρ1, v, S1, h1, h2, h3, h4, h5⟩ := st 0 d rfl S p
    obtain ⟨vs, S', h6, h7, h8, h9⟩ := lcGo_inv I R ds (n + 1) (fun i x hx S p => by
      have := st (i + 1) x (by simpa using hx) S p
      rwa [show n + (i + 1) = n + 1 + i by omega] at this) S1 h4
    refine ⟨v :: vs, S', ?_, h7, by simp [h8], fun i u hu => ?_⟩
    · rw [lcGo_c, h1, Option.bind_some, h2, Option.bind_some, lcB_t, h3, Option.bind_some, lcC_, h6]
      rfl
    · cases i with
      | zero => simp at hu; subst hu; exact h5
      | succ i =>
        have := h9 i u (by simpa using hu)
        rwa [show n + 1 + i = n + (i + 1) by omega] at this
theorem seq_nx {F G : Fs} {ρ ρ1 : Env'} {S S1 : Sto} (h : F ρ S = some (.nx, ρ1, S1)) : sSeq2 F G ρ S = G ρ1 S1 := by
  unfold sSeq2
  rw [h, Option.bind_some]
theorem seq_rt {F G : Fs} {ρ ρ1 : Env'} {S S1 : Sto} {r : RV} (h : F ρ S = some (.rt r, ρ1, S1)) : sSeq2 F G ρ S = some (.rt r, ρ1, S1) := by
  unfold sSeq2
  rw [h, Option.bind_some]
theorem if_t {t : Fe Bool} {F G : Fs} {ρ : Env'} {S S1 : Sto} (h : t ρ S = some (true, S1)) : sIf t F G ρ S = F ρ S1 := by
  unfold sIf
  rw [h, Option.bind_some]
  rfl
theorem if_f {t : Fe Bool} {F G : Fs} {ρ : Env'} {S S1 : Sto} (h : t ρ S = some (false, S1)) : sIf t F G ρ S = G ρ S1 := by
  unfold sIf
  rw [h, Option.bind_some]
  rfl
theorem asg_ {f : Fe RV} {gg : Gt} {ρ ρ1 : Env'} {S S1 : Sto} {r : RV} (h : f ρ S = some (r, S1)) (hg : gg r ρ = some ρ1) : sAsg f gg ρ S = some (.nx, ρ1, S1) := by
  unfold sAsg
  rw [h, Option.bind_some, hg, Option.bind_some]
theorem ret_ {f : Fe RV} {ρ : Env'} {S S1 : Sto} {r : RV} (h : f ρ S = some (r, S1)) : sRet f ρ S = some (.rt r, ρ, S1) := by
  unfold sRet
  rw [h, Option.bind_some]
theorem runP_v {N : Nat} {F : Fs} {ds : List D} {x : D} {ρ : Env'} {S : Sto} (h : F (env0 N (ds.map RV.d)) [] = some (.rt (.d x), ρ, S)) : runP N F ds = some (.v x) := by
  unfold runP
  rw [h, Option.bind_some]
theorem runP_n {N : Nat} {F : Fs} {ds : List D} {ρ : Env'} {S : Sto} (h : F (env0 N (ds.map RV.d)) [] = some (.nx, ρ, S)) : runP N F ds = some (.v .non) := by
  unfold runP
  rw [h, Option.bind_some]
theorem runP_l {N : Nat} {F : Fs} {ds xs : List D} {n : Nat} {ρ : Env'} {S : Sto} (h : F (env0 N (ds.map RV.d)) [] = some (.rt (.o n), ρ, S)) (hS : S[n]? = some (.lst xs)) (hl : xs.length ≤ Lim) : runP N F ds = some (.l xs) := by
  unfold runP
  rw [h, Option.bind_some]
  simp only [hS]
  rw [if_pos hl]
theorem runS_v {N : Nat} {F : Fs} {rs : List RV} {r : RV} {ρ : Env'} {S S' : Sto} (h : F (env0 N rs) S = some (.rt r, ρ, S')) : runS N F rs S = some (r, S') := by
  unfold runS
  rw [h, Option.bind_some]
theorem runS_n {N : Nat} {F : Fs} {rs : List RV} {ρ : Env'} {S S' : Sto} (h : F (env0 N rs) S = some (.nx, ρ, S')) : runS N F rs S = some (.d .non, S') := by
  unfold runS
  rw [h, Option.bind_some]

/-! ### lists of dInts -/
abbrev dInts (is : List Int) : List D := is.map D.int
def takeF : Fs :=
    sSeq2 (sIf (fTest (eBin vEq (eCall bLen (aCons (eVar 0) (aNil))) (eC (.int 0)))) (sSeq2 (sRet (eC (.int 0)))
    (sNil)) (sNil))
    (sSeq2 (sRet (eBin vMod (eCall bInt (aCons (eMl0 oPop (eVar 0)) (aNil))) (eVar 1)))
    (sNil))
def drawsB : Fs :=
    (sSeq2 (sAsg (eBin vMod (eVar 5) (eCall bLen (aCons (eVar 2) (aNil)))) (gN 6))
    (sSeq2 (sAsg (eBin vIx (eVar 2) (eVar 6)) (gN 7))
    (sSeq2 (sAsg (eBin vMod (eCall bInt (aCons (eBin vAdd (eBin vAdd (eBin vAdd (eBin vMul (eVar 4) (eC (.int 48271))) (eBin vMul (eBin vMod (eCall bInt (aCons (eVar 7) (aNil))) (eC (.int 1000003))) (eC (.int 69621)))) (eBin vMul (eVar 5) (eC (.int 7919)))) (eC (.int 11))) (aNil))) (eC (.int 2147483647))) (gN 4))
    (sSeq2 (sAsg (eBin vMod (eCall bInt (aCons (eBin vAdd (eBin vAdd (eBin vMul (eVar 4) (eVar 4)) (eBin vMul (eC (.int 31)) (eVar 4))) (eVar 5)) (aNil))) (eC (.int 1000003))) (gN 8))
    (sSeq2 (sIf (fTest (eBin vGe (eVar 7) (eBin vPow (eC (.int 10)) (eC (.int 18))))) (sSeq2 (sExpr (eMl1 oApp (eVar 3) (eBin vMod (eCall bInt (aCons (eVar 7) (aNil))) (eC (.int 1000)))))
    (sSeq2 (sSubL (eVar 2) (eVar 6) (eBin vDiv (eVar 7) (eC (.int 1000))))
    (sNil))) (sSeq2 (sExpr (eMl1 oApp (eVar 3) (eBin vMod (eCall bInt (aCons (eVar 8) (aNil))) (eC (.int 1000)))))
    (sNil)))
    (sNil))))))
def drawsF : Fs :=
    sSeq2 (sAsg (eObj (lCall bLst (aCons (eVar 0) (aNil)))) (gN 2))
    (sSeq2 (sIf (fTest (eBin vEq (eCall bLen (aCons (eVar 2) (aNil))) (eC (.int 0)))) (sSeq2 (sAsg (eObj (aDs (aCons (eC (.int 7)) (aNil)))) (gN 2))
    (sNil)) (sNil))
    (sSeq2 (sAsg (eObj (aDs (aNil))) (gN 3))
    (sSeq2 (sAsg (eC (.int 12345)) (gN 4))
    (sSeq2 (sFor (fMap (aCons (eVar 1) (aNil)) oR1) (gN 5) drawsB)
    (sSeq2 (sExpr (eMl0 oRev (eVar 3)))
    (sSeq2 (sRet (eVar 3))
    (sNil)))))))

theorem take_ok {S : Sto} {n : Nat} {is : List Int} {lim : Int} (h : S[n]? = some (.lst (dInts is))) (hl : 0 < lim) :
    ∃ v js, runS 2 takeF [.o n, .d (.int lim)] S = some (.d (.int v), S.set n (.lst (dInts js))) ∧ 0 ≤ v ∧ v < lim := by
  have hlen : eCall bLen (aCons (eVar 0) aNil) (env0 2 [.o n, .d (.int lim)]) S = some (.d (.int is.length), S) := by
    show eCall bLen (aCons (eVar 0) aNil) [some (.o n), some (.d (.int lim))] S = _
    simp? only [bLen_o h, List.length_map]
  have ht : fTest (eBin vEq (eCall bLen (aCons (eVar 0) aNil)) (eC (.int 0))) (env0 2 [.o n, .d (.int lim)]) S = some (decide ((is.length : Int) = 0), S) := by
    rw [fTest_, eBin_, hlen]
    simp? only []
  by_cases hne : is = []
  · subst hne
    refine ⟨0, [], ?_, Int.le_refl 0, hl⟩
    have e : S.set n (.lst (dInts [])) = S := by
      obtain ⟨h1, h2⟩ := List.getElem?_eq_some_iff.mp h
      rw [← h2]
      exact List.set_getElem_self h1
    rw [e]
    refine runS_v (ρ := env0 2 [.o n, .d (.int lim)]) ?_
    unfold takeF
    refine seq_rt ?_
    rw [if_t ht]
    exact seq_rt rfl
  · have hz : decide ((is.length : Int) = 0) = false := decide_eq_false fun z => hne (List.length_eq_zero_iff.mp (by omega))
    rw [hz] at ht
    refine ⟨is.getLast hne % lim, is.dropLast, ?_, Int.emod_nonneg _ (by omega), Int.emod_lt_of_pos _ hl⟩
    refine runS_v (ρ := env0 2 [.o n, .d (.int lim)]) ?_
    unfold takeF
    rw [seq_nx (ρ1 := env0 2 [.o n, .d (.int lim)]) (S1 := S) (by rw [if_f ht]; rfl)]
    refine seq_rt (ret_ ?_)
    have hp : oPop (dInts is) = some (.d (.int (is.getLast hne)), dInts is.dropLast) := by
      unfold oPop dInts
      rw [List.getElem?_map, List.length_map, ← List.getLast?_eq_getElem?, List.getLast?_eq_some_getLast hne, List.map_dropLast]
      rfl
    show eBin vMod (eCall bInt (aCons (eMl0 oPop (eVar 0)) aNil)) (eVar 1) [some (.o n), some (.d (.int lim))] S = _
    simp? only [ml0K_ h, hp, vMod_i hl]

/-! o[i] = e -/
def subK (fi : Fe RV) (ρ : Env') (v : RV) (o : RV × Sto) : Option (Fl × Env' × Sto) := (fi ρ o.2).bind fun i => (isObjL o.1 i.2).bind fun q => match v, i.1 with
  | .d d, .d (.int k) => (ixN q.2.length k).bind fun j => some (.nx, ρ, i.2.set q.1 (.lst (q.2.set j d)))
  | _, _ => none
def subJ (fo fi : Fe RV) (ρ : Env') (v : RV × Sto) : Option (Fl × Env' × Sto) := (fo ρ v.2).bind (subK fi ρ v.1)
section
variable {ρ : Env'} {S : Sto} {fo fi fe : Fe RV} {v : RV} {n j : Nat} {ds : List D} {d : D} {I : Int}
theorem sSubL_ : sSubL fo fi fe ρ S = (fe ρ S).bind (subJ fo fi ρ) := (rfl)
theorem subJ_ : subJ fo fi ρ (v, S) = (fo ρ S).bind (subK fi ρ v) := (rfl)
def subL (ρ : Env') (v o : RV) (i : RV × Sto) : Option (Fl × Env' × Sto) := (isObjL o i.2).bind fun q => match v, i.1 with
  | .d d, .d (.int k) => (ixN q.2.length k).bind fun j => some (.nx, ρ, i.2.set q.1 (.lst (q.2.set j d)))
  | _, _ => none
theorem subK_ {o : RV} : subK fi ρ v (o, S) = (fi ρ S).bind (subL ρ v o) := (rfl)
theorem subL_ (h : S[n]? = some (.lst ds)) (hj : ixN ds.length I = some j) : subL ρ (.d d) (.o n) (.d (.int I), S) = some (.nx, ρ, S.set n (.lst (ds.set j d))) := by
  show (isObjL (.o n) S).bind _ = _
  unfold isObjL
  simp only [h, Option.bind_some, hj]
end
theorem ok_ints {is : List Int} : D.ok (.lst (dInts is)) = true := ok_of (n := 1) (by simp [D.okN])
theorem atI_ints {is : List Int} {j : Int} (h0 : 0 ≤ j) (h1 : j < is.length) : atI (dInts is) j = some (.int (is.getD j.toNat 0)) := by
  unfold atI ixN
  rw [List.length_map, if_pos h0, if_pos h1, Option.bind_some]
  have h2 : j.toNat < is.length := by omega
  rw [List.getElem?_map, List.getElem?_eq_getElem h2, List.getD_eq_getElem?_getD, List.getElem?_eq_getElem h2]
  rfl
theorem pMul_r {i j : Int} (h : -(2 ^ 64) < j) (h2 : j < 2 ^ 64) : pMul i j = true := by
  unfold pMul
  rw [decide_eq_true h, decide_eq_true h2]
  simp
/-- the state of the loop: k turns done -/
def DrawsP (cnt : Nat) (ns : D) (k : Nat) (ρ : Env') (S : Sto) : Prop := ∃ (c f : Nat) (cs fs : List Int) (mixed : Int) (x5 x6 x7 x8 : Option RV), ρ = [some (.d ns), some (.d (.int cnt)), some (.o c), some (.o f), some (.d (.int mixed)), x5, x6, x7, x8] ∧
  S[c]? = some (.lst (dInts cs)) ∧ cs ≠ [] ∧ S[f]? = some (.lst (dInts fs)) ∧ c ≠ f ∧ fs.length = k ∧ 0 ≤ mixed ∧ mixed < 2147483647
theorem draws_step {cnt : Nat} {ns : D} {k : Nat} {ρ : Env'} {S : Sto} (hk : k < cnt) (hc9 : cnt ≤ 5000) (h : DrawsP cnt ns k ρ S) : ∃ ρ1 fl ρ2 S2, gN 5 (.d (.int k)) ρ = some ρ1 ∧ drawsB ρ1 S = some (fl, ρ2, S2) ∧ (fl = .nx ∨ fl = .ct) ∧ DrawsP cnt ns (k + 1) ρ2 S2 := by
  obtain ⟨c, f, cs, fs, mixed, x5, x6, x7, x8, rfl, hc, hne, hf, hcf, hl, h0, h1⟩ := h
  have hpos : 0 < (cs.length : Int) := by
    have := List.length_pos_iff.mpr hne
    omega
  have hj0 : 0 ≤ (k : Int) % (cs.length : Int) := Int.emod_nonneg _ (by omega)
  have hj1 : (k : Int) % (cs.length : Int) < cs.length := Int.emod_lt_of_pos _ hpos
  have hat := atI_ints hj0 hj1
  have hjn : ((k : Int) % (cs.length : Int)).toNat < cs.length := by omega
  have hix : ixN (dInts cs).length ((k : Int) % (cs.length : Int)) = some ((k : Int) % (cs.length : Int)).toNat := by
    unfold ixN
    rw [List.length_map, if_pos hj0, if_pos hj1]
  generalize hcell : cs.getD ((k : Int) % (cs.length : Int)).toNat 0 = cell at hat
  generalize hm2 : (mixed * 48271 + cell % 1000003 * 69621 + (k : Int) * 7919 + 11) % 2147483647 = mixed'
  have m0 : 0 ≤ mixed' := by rw [← hm2]; exact Int.emod_nonneg _ (by decide)
  have m1 : mixed' < 2147483647 := by rw [← hm2]; exact Int.emod_lt_of_pos _ (by decide)
  have p1 : ∀ i : Int, pMul i 48271 = true := fun i => pMul_r (by decide) (by decide)
  have p2 : ∀ i : Int, pMul i 69621 = true := fun i => pMul_r (by decide) (by decide)
  have p3 : ∀ i : Int, pMul i 7919 = true := fun i => pMul_r (by decide) (by decide)
  have p4 : pMul mixed' mixed' = true := pMul_r (by omega) (by omega)
  have p5 : pMul 31 mixed' = true := pMul_r (by omega) (by omega)
  have q1 : (0 : Int) < 1000003 := by decide
  have q2 : (0 : Int) < 2147483647 := by decide
  have q3 : (0 : Int) < 1000 := by decide
  have q5 : pPow 10 18 = true := by decide
  have q6 : ∀ i : Int, pDiv i 1000 = true := fun i => by unfold pDiv; decide
  have hl2 : (dInts fs).length < Lim := by rw [List.length_map]; unfold Lim; omega
  by_cases hb : (10 : Int) ^ (18 : Int).toNat ≤ cell
  · have hb' : decide ((10 : Int) ^ (18 : Int).toNat ≤ cell) = true := decide_eq_true hb
    have hS1 : (S.set f (.lst (dInts fs ++ [.int (cell % 1000)])))[c]? = some (.lst (dInts cs)) := by rw [List.getElem?_set_ne (Ne.symm hcf)]; exact hc
    refine ⟨_, .nx, [some (.d ns), some (.d (.int cnt)), some (.o c), some (.o f), some (.d (.int mixed')), some (.d (.int k)), some (.d (.int ((k : Int) % (cs.length : Int)))), some (.d (.int cell)), some (.d (.int ((mixed' * mixed' + 31 * mixed' + k) % 1000003)))], (S.set f (.lst (dInts fs ++ [.int (cell % 1000)]))).set c (.lst ((dInts cs).set ((k : Int) % (cs.length : Int)).toNat (.int (cell / 1000)))), rfl, ?_, .inl rfl, ?_⟩
    · unfold drawsB
      simp? only [bLen_o hc, vIx_o hc, List.length_map, vMod_i hpos, hat, vMul_i (p1 _), vMul_i (p2 _), vMul_i (p3 _), vMul_i p4, vMul_i p5, vMod_i q1, vMod_i q2, vMod_i q3, vPow_i q5, vDiv_i (q6 _), hm2, hb', ml1K_ hf, ml1J_ hf, oApp_ hl2, sSubL_, subJ_, subK_, subL_ hS1 hix]
    · refine ⟨c, f, cs.set ((k : Int) % (cs.length : Int)).toNat (cell / 1000), fs ++ [cell % 1000], mixed', _, _, _, _, rfl, ?_, ?_, ?_, hcf, by simp [hl], m0, m1⟩
      · rw [List.getElem?_set_self (by have := (List.getElem?_eq_some_iff.mp hc).1; simpa using this)]
        unfold dInts
        rw [List.map_set]
      · intro z
        have := congrArg List.length z
        rw [List.length_set] at this
        exact hne (List.length_eq_zero_iff.mp this)
      · rw [List.getElem?_set_ne hcf, List.getElem?_set_self (List.getElem?_eq_some_iff.mp hf).1]
        unfold dInts
        rw [List.map_append]
        rfl
  · have hb' : decide ((10 : Int) ^ (18 : Int).toNat ≤ cell) = false := decide_eq_false hb
    refine ⟨_, .nx, [some (.d ns), some (.d (.int cnt)), some (.o c), some (.o f), some (.d (.int mixed')), some (.d (.int k)), some (.d (.int ((k : Int) % (cs.length : Int)))), some (.d (.int cell)), some (.d (.int ((mixed' * mixed' + 31 * mixed' + k) % 1000003)))], S.set f (.lst (dInts fs ++ [.int ((mixed' * mixed' + 31 * mixed' + k) % 1000003 % 1000)])), rfl, ?_, .inl rfl, ?_⟩
    · unfold drawsB
      simp? only [bLen_o hc, vIx_o hc, List.length_map, vMod_i hpos, hat, vMul_i (p1 _), vMul_i (p2 _), vMul_i (p3 _), vMul_i p4, vMul_i p5, vMod_i q1, vMod_i q2, vMod_i q3, vPow_i q5, hm2, hb', ml1K_ hf, ml1J_ hf, oApp_ hl2]
    · refine ⟨c, f, cs, fs ++ [(mixed' * mixed' + 31 * mixed' + k) % 1000003 % 1000], mixed', _, _, _, _, rfl, ?_, hne, ?_, hcf, by simp [hl], m0, m1⟩
      · rw [List.getElem?_set_ne (Ne.symm hcf)]; exact hc
      · rw [List.getElem?_set_self (List.getElem?_eq_some_iff.mp hf).1]
        unfold dInts
        rw [List.map_append]
        rfl
theorem env0_draws {a b : D} : env0 9 [RV.d a, RV.d b] = [some (.d a), some (.d b), none, none, none, none, none, none, none] := rfl
theorem small500 {cnt : Nat} (h : cnt ≤ 5000) : small62 cnt = true := by
  unfold small62
  rw [decide_eq_true (by omega), decide_eq_true (by omega)]
  rfl
theorem draws_loop {cnt : Nat} (hc9 : cnt ≤ 5000) {ns : D} {ρ : Env'} {S : Sto} (h : DrawsP cnt ns 0 ρ S) : ∃ ρ' S', sFor (fMap (aCons (eVar 1) (aNil)) oR1) (gN 5) drawsB ρ S = some (.nx, ρ', S') ∧ DrawsP cnt ns cnt ρ' S' := by
  have hs : fMap (aCons (eVar 1) (aNil)) oR1 ρ S = some (⟨rng 0 cnt, none⟩, S) := by
    obtain ⟨c, f, cs, fs, mixed, x5, x6, x7, x8, rfl, _⟩ := h
    simp? only [oR1_ (small500 hc9)]
    rfl
  have e := sFor_inv (src := fMap (aCons (eVar 1) (aNil)) oR1) (gg := gN 5) (F := drawsB) (DrawsP cnt ns) hs h (fun _ _ _ _ => rfl) fun i ρ S d hd p => by
    have hi : i < cnt := by
      have := (List.getElem?_eq_some_iff.mp hd).1
      rwa [rng_len] at this
    rw [rng_at 0 hi] at hd
    cases hd
    rw [Int.zero_add]
    exact draws_step hi hc9 p
  rw [rng_len] at e
  exact e
/-- behind the first two statements -/
def drawsE : Fs := sSeq2 (sAsg (eObj (aDs (aNil))) (gN 3)) (sSeq2 (sAsg (eC (.int 12345)) (gN 4)) (sSeq2 (sFor (fMap (aCons (eVar 1) (aNil)) oR1) (gN 5) drawsB) (sSeq2 (sExpr (eMl0 oRev (eVar 3))) (sSeq2 (sRet (eVar 3)) sNil))))
theorem drawsE_ok {cnt : Nat} (hc9 : cnt ≤ 5000) {ns : List Int} {c : Nat} {cs : List Int} {S : Sto} (hne : cs ≠ []) (hc : S[c]? = some (.lst (dInts cs))) : ∃ (is : List Int) (ρ2 : Env') (S2 : Sto) (n : Nat),
    drawsE [some (.d (.lst (dInts ns))), some (.d (.int cnt)), some (.o c), none, none, none, none, none, none] S = some (.rt (.o n), ρ2, S2) ∧ S2[n]? = some (.lst (dInts is)) ∧ is.length ≤ Lim := by
  have h0 : ([] : List D).length ≤ Lim := by unfold Lim; decide
  have hlt := (List.getElem?_eq_some_iff.mp hc).1
  obtain ⟨ρ', S', e1, e2⟩ := draws_loop hc9 (ns := .lst (dInts ns)) (ρ := [some (.d (.lst (dInts ns))), some (.d (.int cnt)), some (.o c), some (.o S.length), some (.d (.int 12345)), none, none, none, none]) (S := S ++ [.lst []])
    ⟨c, S.length, cs, [], 12345, none, none, none, none, rfl, by rw [List.getElem?_append_left hlt]; exact hc, hne, by rw [List.getElem?_append_right (Nat.le_refl _), Nat.sub_self]; rfl, by omega, rfl, by decide, by decide⟩
  obtain ⟨c', f, cs', fs, mixed, x5, x6, x7, x8, rfl, _, _, hf, _, hl, _, _⟩ := e2
  refine ⟨fs.reverse, [some (.d (.lst (dInts ns))), some (.d (.int cnt)), some (.o c'), some (.o f), some (.d (.int mixed)), x5, x6, x7, x8], S'.set f (.lst (dInts fs).reverse), f, ?_, ?_, by rw [List.length_reverse, hl]; unfold Lim; omega⟩
  · unfold drawsE
    simp? only [if_pos h0, e1, ml0K_ hf]
  · rw [List.getElem?_set_self (List.getElem?_eq_some_iff.mp hf).1]
    unfold dInts
    rw [List.map_reverse]
theorem draws_ok {cnt : Nat} (hc9 : cnt ≤ 5000) {ns : List Int} (hn : ns.length ≤ 63) : ∃ is : List Int, runP 9 drawsF [.lst (dInts ns), .int cnt] = some (.l (dInts is)) := by
  have h1 : (dInts ns).length ≤ Lim := by rw [List.length_map]; unfold Lim; omega
  have h7 : 1 ≤ Lim := by unfold Lim; decide
  have e : drawsF = sSeq2 (sAsg (eObj (lCall bLst (aCons (eVar 0) (aNil)))) (gN 2)) (sSeq2 (sIf (fTest (eBin vEq (eCall bLen (aCons (eVar 2) (aNil))) (eC (.int 0)))) (sSeq2 (sAsg (eObj (aDs (aCons (eC (.int 7)) (aNil)))) (gN 2)) sNil) sNil) drawsE) := rfl
  have hv : bLen [.o 0] [Ob.lst (dInts ns)] = some (.d (.int (ns.length : Nat))) := by rw [bLen_o (ds := dInts ns) rfl, List.length_map]
  by_cases hne : ns = []
  · obtain ⟨is, ρ2, S2, n, e2, e3, e4⟩ := drawsE_ok hc9 (ns := ns) (c := 1) (cs := [7]) (S := [.lst (dInts ns), .lst [.int 7]]) (by simp) rfl
    refine ⟨is, runP_l (n := n) (ρ := ρ2) (S := S2) ?_ e3 (by rw [List.length_map]; exact e4)⟩
    show drawsF [some (.d (.lst (dInts ns))), some (.d (.int cnt)), none, none, none, none, none, none, none] [] = _
    have hz : decide (((ns.length : Nat) : Int) = 0) = true := decide_eq_true (by rw [hne]; rfl)
    rw [e]
    simp? only [bLst_l, if_pos h1, Nat.zero_add, if_pos h7, List.nil_append, List.length_nil, hv, hz, List.length_cons, List.cons_append]
    exact e2
  · obtain ⟨is, ρ2, S2, n, e2, e3, e4⟩ := drawsE_ok hc9 (ns := ns) (c := 0) (cs := ns) (S := [.lst (dInts ns)]) hne rfl
    refine ⟨is, runP_l (n := n) (ρ := ρ2) (S := S2) ?_ e3 (by rw [List.length_map]; exact e4)⟩
    show drawsF [some (.d (.lst (dInts ns))), some (.d (.int cnt)), none, none, none, none, none, none, none] [] = _
    have hz : decide (((ns.length : Nat) : Int) = 0) = false := decide_eq_false fun z => hne (List.length_eq_zero_iff.mp (by omega))
    rw [e]
    simp? only [bLst_l, if_pos h1, List.nil_append, List.length_nil, hv, hz]
    exact e2
end Ev

/-! Tables of truth as numbers, plain. -/
namespace Tab

/-! ### tables told by a test -/
def tb (N : Nat) (p : Nat → Bool) : Nat := (List.range N).foldl (fun a j => if p j then a ||| 2 ^ j else a) 0
theorem tb_succ (N : Nat) (p : Nat → Bool) : tb (N + 1) p = if p N then tb N p ||| 2 ^ N else tb N p := by
  unfold tb
  rw [List.range_succ, List.foldl_append]
  rfl
theorem tb_bit (N : Nat) (p : Nat → Bool) (j : Nat) : (tb N p).testBit j = (decide (j < N) && p j) := by
  induction N with
  | zero => simp [tb]
  | succ N ih =>
    rw [tb_succ]
    by_cases hj : N = j
    · subst hj
      cases h : p N
      · simp [ih]
      · simp [ih, Nat.testBit_two_pow]
    · have e : decide (j < N + 1) = decide (j < N) := by
        by_cases h : j < N
        · rw [decide_eq_true h, decide_eq_true (by omega)]
        · rw [decide_eq_false h, decide_eq_false (by omega)]
      cases h : p N
      · simp [ih, e]
      · simp [ih, Nat.testBit_two_pow, hj, e]
theorem tb_lt (N : Nat) (p : Nat → Bool) : tb N p < 2 ^ N := by
  refine Nat.lt_pow_two_of_testBit _ fun i hi => ?_
  rw [tb_bit, decide_eq_false (by omega)]
  rfl
theorem ext {N a b : Nat} (ha : a < 2 ^ N) (hb : b < 2 ^ N) (h : ∀ j, j < N → a.testBit j = b.testBit j) : a = b := by
  refine Nat.eq_of_testBit_eq fun j => ?_
  by_cases hj : j < N
  · exact h j hj
  · rw [Nat.testBit_lt_two_pow (Nat.lt_of_lt_of_le ha (Nat.pow_le_pow_right (by decide) (by omega))), Nat.testBit_lt_two_pow (Nat.lt_of_lt_of_le hb (Nat.pow_le_pow_right (by decide) (by omega)))]
theorem bit_ge {N a j : Nat} (ha : a < 2 ^ N) (hj : N ≤ j) : a.testBit j = false := Nat.testBit_lt_two_pow (Nat.lt_of_lt_of_le ha (Nat.pow_le_pow_right (by decide) hj))
theorem tb_eta {N a : Nat} (ha : a < 2 ^ N) : tb N a.testBit = a := ext (tb_lt _ _) ha fun j hj => by rw [tb_bit, decide_eq_true hj]; rfl
theorem tb_congr {N : Nat} {p q : Nat → Bool} (h : ∀ j, j < N → p j = q j) : tb N p = tb N q := ext (tb_lt _ _) (tb_lt _ _) fun j hj => by rw [tb_bit, tb_bit, h j hj]

def full (n : Nat) : Nat := 2 ^ 2 ^ n - 1
theorem full_bit (n j : Nat) : (full n).testBit j = decide (j < 2 ^ n) := Nat.testBit_two_pow_sub_one _ _
theorem full_lt (n : Nat) : full n < 2 ^ 2 ^ n := Nat.sub_lt (Nat.two_pow_pos _) (by decide)
theorem le_full {n t : Nat} : t ≤ full n ↔ t < 2 ^ 2 ^ n := by
  have := Nat.two_pow_pos (2 ^ n)
  unfold full
  omega
def vr (n i : Nat) : Nat := tb (2 ^ n) fun j => j.testBit i
theorem vr_bit (n i j : Nat) : (vr n i).testBit j = (decide (j < 2 ^ n) && j.testBit i) := tb_bit _ _ _
theorem vr_lt (n i : Nat) : vr n i < 2 ^ 2 ^ n := tb_lt _ _

/-! ### one bit of a place -/
theorem add_bit {i j : Nat} : (j + 2 ^ i).testBit i = !j.testBit i := by rw [Nat.add_comm]; exact Nat.testBit_two_pow_add_eq _ _
theorem add_lt {n i j : Nat} (hi : i < n) (hj : j < 2 ^ n) (hb : j.testBit i = false) : j + 2 ^ i < 2 ^ n := by
  obtain ⟨d, rfl⟩ : ∃ d, n = i + (d + 1) := ⟨n - i - 1, by omega⟩
  rw [Nat.testBit_eq_decide_div_mod_eq, decide_eq_false_iff_not] at hb
  have p : 0 < 2 ^ i := Nat.two_pow_pos i
  have h1 : j / 2 ^ i < 2 ^ (d + 1) := by
    rw [Nat.div_lt_iff_lt_mul p, ← Nat.pow_add]
    rwa [Nat.add_comm (d + 1)]
  have h2 : (j + 2 ^ i) / 2 ^ i < 2 ^ (d + 1) := by
    rw [Nat.add_div_right _ p]
    rw [Nat.pow_succ] at h1 ⊢
    omega
  rw [Nat.div_lt_iff_lt_mul p, ← Nat.pow_add] at h2
  rwa [Nat.add_comm (d + 1)] at h2
theorem sub_le {i j : Nat} (hb : j.testBit i = true) : 2 ^ i ≤ j := Nat.ge_two_pow_of_testBit hb
theorem sub_bit {i j : Nat} (hb : j.testBit i = true) : (j - 2 ^ i).testBit i = false := by
  have h : j = (j - 2 ^ i) + 2 ^ i := (Nat.sub_add_cancel (sub_le hb)).symm
  rw [h, add_bit] at hb
  simpa using hb
/-- the place j with the bit i put to b -/
def sb (i b j : Nat) : Nat := if b = 1 then (if j.testBit i then j else j + 2 ^ i) else (if j.testBit i then j - 2 ^ i else j)

/-! ### fixing -/
def fx (n i b t : Nat) : Nat := if b = 1 then (t &&& vr n i) ||| ((t &&& vr n i) >>> 2 ^ i) else (t &&& (full n ^^^ vr n i)) ||| ((t &&& (full n ^^^ vr n i)) <<< 2 ^ i)
theorem fx_bit {n i b t j : Nat} (hi : i < n) : (fx n i b t).testBit j = (decide (j < 2 ^ n) && t.testBit (sb i b j)) := by
  unfold fx sb
  by_cases hb : b = 1
  · rw [if_pos hb, if_pos hb]
    simp only [Nat.testBit_or, Nat.testBit_and, Nat.testBit_shiftRight, vr_bit]
    by_cases hj : j < 2 ^ n
    · cases h : j.testBit i
      · have h1 := add_lt hi hj h
        have h2 : (2 ^ i + j).testBit i = true := by rw [Nat.add_comm, add_bit, h]; rfl
        simp [hj, h2, Nat.add_comm (2 ^ i) j, h1]
        rw [Nat.add_comm] at h2
        simp [h2]
      · have h2 : (2 ^ i + j).testBit i = false := by rw [Nat.add_comm, add_bit, h]; rfl
        simp [hj, h2]
    · have : ¬ (2 ^ i + j < 2 ^ n) := by have := Nat.two_pow_pos i; omega
      simp [hj, this]
  · rw [if_neg hb, if_neg hb]
    simp only [Nat.testBit_or, Nat.testBit_and, Nat.testBit_shiftLeft, vr_bit, Nat.testBit_xor, full_bit]
    by_cases hj : j < 2 ^ n
    · cases h : j.testBit i
      · by_cases h3 : 2 ^ i ≤ j
        · have h4 : (j - 2 ^ i).testBit i = true := by
            have e : j = (j - 2 ^ i) + 2 ^ i := (Nat.sub_add_cancel h3).symm
            rw [e, add_bit] at h
            simpa using h
          have h5 : j - 2 ^ i < 2 ^ n := by have := Nat.two_pow_pos i; omega
          simp [hj, h4, h5]
        · simp [hj, h3]
      · have h3 := sub_le h
        have h4 := sub_bit h
        have h5 : j - 2 ^ i < 2 ^ n := by have := Nat.two_pow_pos i; omega
        simp [hj, h3, h4, h5]
    · by_cases h3 : 2 ^ i ≤ j
      · by_cases h5 : j - 2 ^ i < 2 ^ n
        · cases h4 : (j - 2 ^ i).testBit i
          · have := add_lt hi h5 h4
            rw [Nat.sub_add_cancel h3] at this
            exact absurd this hj
          · simp [hj, h5, h4]
        · simp [hj, h5]
      · simp [hj, h3]
theorem fx_lt {n i b t : Nat} (hi : i < n) : fx n i b t < 2 ^ 2 ^ n := by
  refine Nat.lt_pow_two_of_testBit _ fun j hj => ?_
  rw [fx_bit hi, decide_eq_false (by omega)]
  rfl

/-! ### xors of many -/
def xs : List Nat → Nat
  | [] => 0
  | a :: l => a ^^^ xs l
theorem xs_bit {l : List Nat} {j : Nat} (h : (xs l).testBit j = true) : ∃ a ∈ l, a.testBit j = true := by
  induction l with
  | nil => simp [xs] at h
  | cons a l ih =>
    rw [xs, Nat.testBit_xor] at h
    cases ha : a.testBit j
    · rw [ha] at h
      obtain ⟨b, hb, e⟩ := ih (by simpa using h)
      exact ⟨b, List.mem_cons_of_mem _ hb, e⟩
    · exact ⟨a, List.mem_cons_self, ha⟩
theorem xs_append (a b : List Nat) : xs (a ++ b) = xs a ^^^ xs b := by
  induction a with
  | nil => simp [xs]
  | cons x a ih => rw [List.cons_append, xs, xs, ih, Nat.xor_assoc]
/-- the bits of a number, as powers of two -/
def bits (N t : Nat) : List Nat := (List.range N).filter t.testBit
theorem mem_bits {N t j : Nat} : j ∈ bits N t ↔ j < N ∧ t.testBit j = true := by
  unfold bits
  rw [List.mem_filter, List.mem_range]
theorem xs_bits_bit (t : Nat) : ∀ N j, (xs ((bits N t).map (2 ^ ·))).testBit j = (decide (j < N) && t.testBit j)
  | 0, j => by simp [bits, xs]
  | N + 1, j => by
    have e : bits (N + 1) t = bits N t ++ (if t.testBit N then [N] else []) := by
      unfold bits
      rw [List.range_succ, List.filter_append]
      congr 1
      cases h : t.testBit N <;> simp [h]
    rw [e, List.map_append, xs_append, Nat.testBit_xor, xs_bits_bit t N j]
    by_cases hj : N = j
    · subst hj
      cases h : t.testBit N <;> simp [xs, Nat.testBit_two_pow]
    · have e2 : decide (j < N + 1) = decide (j < N) := by
        by_cases h : j < N
        · rw [decide_eq_true h, decide_eq_true (by omega)]
        · rw [decide_eq_false h, decide_eq_false (by omega)]
      cases h : t.testBit N <;> simp [xs, Nat.testBit_two_pow, hj, e2]
theorem xs_bits {N t : Nat} (h : t < 2 ^ N) : xs ((bits N t).map (2 ^ ·)) = t := by
  refine Nat.eq_of_testBit_eq fun j => ?_
  rw [xs_bits_bit]
  by_cases hj : j < N
  · rw [decide_eq_true hj]; rfl
  · rw [decide_eq_false hj, bit_ge h (by omega)]; rfl
/-- a linear map -/
structure Lin (L : Nat → Nat) : Prop where
  zero : L 0 = 0
  xor : ∀ a b, L (a ^^^ b) = L a ^^^ L b
theorem Lin.xs {L : Nat → Nat} (h : Lin L) : ∀ l, L (Tab.xs l) = Tab.xs (l.map L)
  | [] => h.zero
  | a :: l => by rw [Tab.xs, h.xor, h.xs l]; rfl
theorem Lin.of {L : Nat → Nat} (h : Lin L) {N t : Nat} (ht : t < 2 ^ N) : L t = Tab.xs ((bits N t).map fun a => L (2 ^ a)) := by
  conv => lhs; rw [← xs_bits ht]
  rw [h.xs, List.map_map]
  rfl
theorem Lin.comp {L M : Nat → Nat} (h : Lin L) (g : Lin M) : Lin fun t => L (M t) := ⟨by rw [g.zero, h.zero], fun a b => by rw [g.xor, h.xor]⟩
theorem lin_of_bits {L : Nat → Nat} (h : ∀ a b j, (L (a ^^^ b)).testBit j = ((L a).testBit j ^^ (L b).testBit j)) : Lin L := by
  have hx : ∀ a b, L (a ^^^ b) = L a ^^^ L b := fun a b => Nat.eq_of_testBit_eq fun j => by rw [h, Nat.testBit_xor]
  refine ⟨?_, hx⟩
  have := hx 0 0
  rw [Nat.xor_self, Nat.xor_self] at this
  exact this
theorem lin_fx {n i b : Nat} (hi : i < n) : Lin (fx n i b) := lin_of_bits fun x y j => by
  simp only [fx_bit hi, Nat.testBit_xor]
  cases decide (j < 2 ^ n) <;> simp

/-! ### powers -/
def ps (n i t : Nat) : Nat := (fx n i 0 t &&& (full n ^^^ vr n i)) ||| ((fx n i 0 t ^^^ fx n i 1 t) &&& vr n i)
theorem ps_bit {n i t j : Nat} (hi : i < n) : (ps n i t).testBit j = (decide (j < 2 ^ n) && (if j.testBit i then t.testBit (j - 2 ^ i) ^^ t.testBit j else t.testBit j)) := by
  unfold ps
  simp only [Nat.testBit_or, Nat.testBit_and, Nat.testBit_xor, fx_bit hi, full_bit, vr_bit, sb]
  by_cases hj : j < 2 ^ n
  · cases h : j.testBit i <;> simp [hj]
  · simp [hj]
theorem ps_lt {n i t : Nat} (hi : i < n) : ps n i t < 2 ^ 2 ^ n := by
  refine Nat.lt_pow_two_of_testBit _ fun j hj => ?_
  rw [ps_bit hi, decide_eq_false (by omega)]
  rfl
theorem lin_ps {n i : Nat} (hi : i < n) : Lin (ps n i) := lin_of_bits fun x y j => by
  simp only [ps_bit hi, Nat.testBit_xor]
  cases decide (j < 2 ^ n) <;> cases j.testBit i <;> simp
  cases x.testBit (j - 2 ^ i) <;> cases x.testBit j <;> cases y.testBit (j - 2 ^ i) <;> cases y.testBit j <;> rfl
def pwL (n : Nat) (l : List Nat) (t : Nat) : Nat := l.foldl (fun a i => ps n i a) t
def pw (n t : Nat) : Nat := pwL n (List.range n) t
theorem lin_pwL {n : Nat} : ∀ {l : List Nat}, (∀ i ∈ l, i < n) → Lin (pwL n l)
  | [], _ => ⟨rfl, fun _ _ => rfl⟩
  | i :: l, h => by
    have h1 := lin_pwL (l := l) fun x hx => h x (List.mem_cons_of_mem _ hx)
    have h2 := lin_ps (h i List.mem_cons_self)
    exact ⟨by show pwL n l (ps n i 0) = 0; rw [h2.zero, h1.zero], fun a b => by show pwL n l (ps n i (a ^^^ b)) = pwL n l (ps n i a) ^^^ pwL n l (ps n i b); rw [h2.xor, h1.xor]⟩
theorem lin_pw {n : Nat} : Lin (pw n) := lin_pwL fun i hi => List.mem_range.mp hi
theorem pwL_lt {n : Nat} : ∀ {l : List Nat} {t : Nat}, (∀ i ∈ l, i < n) → t < 2 ^ 2 ^ n → pwL n l t < 2 ^ 2 ^ n
  | [], _, _, h => h
  | i :: l, t, h, ht => pwL_lt (l := l) (fun x hx => h x (List.mem_cons_of_mem _ hx)) (ps_lt (h i List.mem_cons_self))
theorem pw_lt {n t : Nat} (h : t < 2 ^ 2 ^ n) : pw n t < 2 ^ 2 ^ n := pwL_lt (fun i hi => List.mem_range.mp hi) h
/-- by cases of n -/
theorem n4 {P : Nat → Prop} (h1 : P 1) (h2 : P 2) (h3 : P 3) (h4 : P 4) {n : Nat} (a : 1 ≤ n) (b : n ≤ 4) : P n := by
  have : n = 1 ∨ n = 2 ∨ n = 3 ∨ n = 4 := by omega
  rcases this with rfl | rfl | rfl | rfl <;> assumption
theorem pw_pw {n t : Nat} (a : 1 ≤ n) (b : n ≤ 4) (ht : t < 2 ^ 2 ^ n) : pw n (pw n t) = t := by
  have key : ∀ x < 2 ^ n, pw n (pw n (2 ^ x)) = 2 ^ x := n4 (P := fun n => ∀ x < 2 ^ n, pw n (pw n (2 ^ x)) = 2 ^ x) (by decide +kernel) (by decide +kernel) (by decide +kernel) (by decide +kernel) a b
  have L := lin_pw (n := n).comp (lin_pw (n := n))
  have := L.of ht
  rw [this]
  conv => rhs; rw [← xs_bits ht]
  congr 1
  refine List.map_congr_left fun x hx => key x (mem_bits.mp hx).1
/-! ### how many ones -/
def pop (t : Nat) : Nat := if h : t = 0 then 0 else t % 2 + pop (t / 2)
decreasing_by omega
theorem pop_zero : pop 0 = 0 := by unfold pop; rfl
theorem pop_two (t : Nat) : pop t = t % 2 + pop (t / 2) := by
  by_cases h : t = 0
  · subst h; simp [pop_zero]
  · conv => lhs; unfold pop
    rw [dif_neg h]
/-- .. as a sum of bits -/
def cnt (N : Nat) (p : Nat → Bool) : Nat := ((List.range N).map fun j => (p j).toNat).sum
theorem cnt_succ (N : Nat) (p : Nat → Bool) : cnt (N + 1) p = cnt N p + (p N).toNat := by
  unfold cnt
  rw [List.range_succ, List.map_append, List.sum_append]
  simp
theorem cnt_shift (N : Nat) (p : Nat → Bool) : cnt (N + 1) p = (p 0).toNat + cnt N fun j => p (j + 1) := by
  induction N with
  | zero => simp [cnt]
  | succ N ih => rw [cnt_succ, ih, cnt_succ]; omega
theorem pop_cnt : ∀ (N t : Nat), t < 2 ^ N → pop t = cnt N t.testBit
  | 0, t, h => by
    have : t = 0 := by simp at h; omega
    subst this
    rw [pop_zero]
    rfl
  | N + 1, t, h => by
    rw [pop_two, cnt_shift, pop_cnt N (t / 2) (by rw [Nat.pow_succ] at h; omega)]
    have e : (t.testBit 0).toNat = t % 2 := by
      rw [Nat.testBit_zero]
      rcases Nat.mod_two_eq_zero_or_one t with h | h <;> simp [h]
    rw [e]
    have : (fun j => t.testBit (j + 1)) = (t / 2).testBit := by
      funext j
      rw [Nat.testBit_add_one]
    rw [this]
theorem cnt_congr {N : Nat} {p q : Nat → Bool} (h : ∀ j < N, p j = q j) : cnt N p = cnt N q := by
  unfold cnt
  congr 1
  exact List.map_congr_left fun j hj => by rw [h j (List.mem_range.mp hj)]
theorem cnt_le (N : Nat) (p : Nat → Bool) : cnt N p ≤ N := by
  induction N with
  | zero => simp [cnt]
  | succ N ih => rw [cnt_succ]; have := Bool.toNat_le (p N); omega
theorem cnt_not (N : Nat) (p : Nat → Bool) : cnt N (fun j => !p j) + cnt N p = N := by
  induction N with
  | zero => simp [cnt]
  | succ N ih =>
    rw [cnt_succ, cnt_succ]
    have : (!p N).toNat + (p N).toNat = 1 := by cases p N <;> rfl
    omega
theorem cnt_zero {N : Nat} {p : Nat → Bool} (h : cnt N p = 0) : ∀ j < N, p j = false := by
  induction N with
  | zero => intro j hj; omega
  | succ N ih =>
    rw [cnt_succ] at h
    intro j hj
    by_cases e : j = N
    · subst e
      cases q : p j
      · rfl
      · rw [q] at h; simp at h
    · exact ih (by omega) j (by omega)
theorem cnt_all {N : Nat} {p : Nat → Bool} (h : cnt N p = N) : ∀ j < N, p j = true := by
  have h1 := cnt_not N p
  have h2 := cnt_zero (N := N) (p := fun j => !p j) (by omega)
  intro j hj
  have := h2 j hj
  simpa using this
end Tab

/-! The evaluator on tables of truth: numbers that are not negative; loops and comprehensions over what is told by a list. -/
namespace Ev
open PySem PySem.Spec PyProof.Rows L2

end Ev
local macro_rules | `(tactic| dsimp? only [$ls,*]) => `(tactic| simp only [Ev.eC_, Ev.eTy_, Ev.eVar_0, Ev.eVar_s, Ev.eBin_, Ev.binJ_, Ev.binK_, Ev.aNil_, Ev.aCons_, Ev.consJ_, Ev.fMap_, Ev.mapK_, Ev.eCall_, Ev.lCall_, Ev.aDs_, Ev.dsK_, Ev.dsOf_nil, Ev.dsOf_cons, Ev.eTup_, Ev.eVal_, Ev.eObj_, Ev.fIf_, Ev.ifK_t, Ev.ifK_f, Ev.fTest_, Ev.tstK_, Ev.fTru_, Ev.vTru_bl, Ev.vTru_int, Ev.vTru_non, Ev.vTru_lst, Ev.vTru_tup, Ev.fAnd_, Ev.andK_t, Ev.andK_f, Ev.fOr_, Ev.orK_t, Ev.orK_f, Ev.fNot_, Ev.eAnd_, Ev.eandK_t, Ev.eandK_f, Ev.eOr_, Ev.eorK_t, Ev.eorK_f, Ev.eNot_, Ev.notK_, Ev.vAdd_i, Ev.vAddI_i, Ev.vSub_i, Ev.vLt_i, Ev.vLe_i, Ev.vGt_i, Ev.vGe_i, Ev.vEq_i, Ev.vNe_i, Ev.vIsN_non, Ev.vIsN_int, Ev.vIsN_bl, Ev.vIsN_str, Ev.vIsN_tup, Ev.vIsN_lst, Ev.vIx_t, Ev.vIx_l, Ev.atI_0, Ev.atI_1, Ev.atI_2, Ev.bLen_t, Ev.bLen_l, Ev.bInt_i, Ev.bInt_b, Ev.bIsi_int, Ev.bIsi_bl, Ev.bIsi_str, Ev.bIsi_tup, Ev.bIsi_lst, Ev.bIsi_non, Ev.is_ii, Ev.is_ib, Ev.is_it, Ev.is_bi, Ev.is_bb, Ev.is_tt, Ev.is_ti, Ev.is_tb, Ev.is_st, Ev.is_si, Ev.is_ss, Ev.is_nt, Ev.is_ll, Ev.is_lt, Ev.is_tl, Ev.bTup_l, Ev.bTup_t, Ev.bBools_l, Ev.bInts_l, Ev.eMl0_, Ev.eMl1_, Ev.oRev_, Ev.sNil_, Ev.sSeq_, Ev.seqK_nx, Ev.seqK_rt, Ev.seqK_bk, Ev.seqK_ct, Ev.sIf_, Ev.sifK_t, Ev.sifK_f, Ev.sAsg_, Ev.asgK_, Ev.gN_, Ev.gsNil_, Ev.gsCons_, Ev.sRet_, Ev.sRetN_, Ev.sExpr_, Ev.sPar_, Ev.parK_, Ev.eSeq_, Ev.srcOf_t, Ev.srcOf_l, Ev.oEnum_t, Ev.oEnum_l, Ev.oZip_t, Ev.oZip_l, Ev.eCallP_, Ev.oP1, Ev.oP2, Ev.oP3, Ev.prV_v, Ev.prV_l, Ev.eCallS_, Ev.eFld_, Ev.finP_n, Ev.finP_v, Ev.finS_n, Ev.finS_r, Ev.eSlT_, Ev.slK_1, Ev.drop_1, Ev.wipe_n, Ev.wipe_c, Ev.lcGo_n, Ev.lcGo_c, Ev.lcB_t, Ev.lcB_f, Ev.lcC_, Ev.fTrue_, Ev.forK_, Ev.foGo_n, Ev.foGo_c, Ev.foK_nx, Ev.foK_ct, Ev.foK_bk, Ev.foK_rt, Ev.lkF_0, Ev.eChain_, Ev.chJ_, Ev.chK_, Ev.chL_t, Ev.chL_f, Ev.eMake_, Ev.makeJ_, Ev.eMeth_, Ev.sFld_, Ev.fldJ_, Ev.eNewX_, Ev.sSubX_, Ev.sxJ_, Ev.sxK_, decide_true, decide_false, Ev.lRev_, Ev.eRevT_, Ev.revTK_, Ev.lCallP_, Ev.obind_some, Ev.obind_none, Ev.omap_some, Ev.omap_none, List.getElem?_cons_zero, List.getElem?_cons_succ, Ev.set_0, Ev.set_s, if_true, if_false, Bool.false_eq_true, Bool.not_true, Bool.not_false, $ls,*])
namespace Ev
open PySem PySem.Spec PyProof.Rows L2
theorem xor_add_and : ∀ (x y : Nat), (x ^^^ y) + 2 * (x &&& y) = x + y := by
  intro x
  induction x using Nat.strongRecOn with
  | ind x ih =>
    intro y
    by_cases hx : x = 0
    · subst hx; simp
    · have h1 := ih (x / 2) (by omega) (y / 2)
      rw [← Nat.xor_div_two, ← Nat.and_div_two] at h1
      have h2 := Nat.div_add_mod (x ^^^ y) 2
      have h3 := Nat.div_add_mod (x &&& y) 2
      have h4 := Nat.div_add_mod x 2
      have h5 := Nat.div_add_mod y 2
      have e1 : (x ^^^ y) % 2 + 2 * ((x &&& y) % 2) = x % 2 + y % 2 := by
        have a := @Nat.xor_mod_two_pow x y 1
        have b := @Nat.and_mod_two_pow x y 1
        rw [Nat.pow_one] at a b
        rw [a, b]
        rcases Nat.mod_two_eq_zero_or_one x with h | h <;> rcases Nat.mod_two_eq_zero_or_one y with g | g <;> rw [h, g] <;> decide
      omega
theorem bitAnd_n (a b : Nat) : Builtin.bitAnd (a : Int) (b : Int) = ((a &&& b : Nat) : Int) := by
  unfold Builtin.bitAnd
  rw [decide_eq_true (Int.natCast_nonneg a), decide_eq_true (Int.natCast_nonneg b)]
  rfl
theorem bitOr_n (a b : Nat) : Builtin.bitOr (a : Int) (b : Int) = ((a ||| b : Nat) : Int) := by
  unfold Builtin.bitOr Builtin.bitAnd Builtin.bitNot
  rw [decide_eq_false (show ¬ (0 : Int) ≤ -(a : Int) - 1 by omega), decide_eq_false (show ¬ (0 : Int) ≤ -(b : Int) - 1 by omega)]
  have e1 : (-(-(a : Int) - 1) - 1).toNat = a := by omega
  have e2 : (-(-(b : Int) - 1) - 1).toNat = b := by omega
  simp only [e1, e2]
  omega
theorem or_and (x y : Nat) : (x ||| y) = (x ^^^ y) + (x &&& y) := by
  induction x using Nat.strongRecOn generalizing y with
  | ind x ih =>
    by_cases hx : x = 0
    · subst hx; simp
    · have h1 := ih (x / 2) (by omega) (y / 2)
      rw [← Nat.xor_div_two, ← Nat.and_div_two, ← Nat.or_div_two] at h1
      have h2 := Nat.div_add_mod (x ^^^ y) 2
      have h3 := Nat.div_add_mod (x &&& y) 2
      have h4 := Nat.div_add_mod (x ||| y) 2
      have e1 : (x ||| y) % 2 = (x ^^^ y) % 2 + (x &&& y) % 2 := by
        have a := @Nat.xor_mod_two_pow x y 1
        have b := @Nat.and_mod_two_pow x y 1
        have c := @Nat.or_mod_two_pow x y 1
        rw [Nat.pow_one] at a b c
        rw [a, b, c]
        rcases Nat.mod_two_eq_zero_or_one x with h | h <;> rcases Nat.mod_two_eq_zero_or_one y with g | g <;> rw [h, g] <;> decide
      omega
theorem bitXor_n (a b : Nat) : Builtin.bitXor (a : Int) (b : Int) = ((a ^^^ b : Nat) : Int) := by
  unfold Builtin.bitXor
  rw [bitOr_n, bitAnd_n, or_and]
  omega
section
variable {a b : Nat} {S : Sto} {ρ ρ1 : Env'}
theorem and_n : vAnd (.d (.int a)) (.d (.int b)) S = some (.d (.int ((a &&& b : Nat) : Int))) := by rw [vAnd_i, bitAnd_n]
theorem or_n : vOr (.d (.int a)) (.d (.int b)) S = some (.d (.int ((a ||| b : Nat) : Int))) := by rw [vOr_i, bitOr_n]
theorem xor_n : vXor (.d (.int a)) (.d (.int b)) S = some (.d (.int ((a ^^^ b : Nat) : Int))) := by rw [vXor_i, bitXor_n]
theorem and_1 : vAnd (.d (.int a)) (.d (.int 1)) S = some (.d (.int (((a.testBit 0).toNat : Nat) : Int))) := by
  have h := and_n (a := a) (b := 1) (S := S)
  rw [Nat.and_one_is_mod] at h
  have e : (a.testBit 0).toNat = a % 2 := by
    rw [Nat.testBit_zero]
    rcases Nat.mod_two_eq_zero_or_one a with h | h <;> simp [h]
  rw [e]
  exact h
theorem shr_n : vShr (.d (.int a)) (.d (.int b)) S = some (.d (.int ((a >>> b : Nat) : Int))) := by
  rw [vShr_i (Int.natCast_nonneg b), Nat.shiftRight_eq_div_pow]
  rfl
theorem shl_n (ha : a < 2 ^ 64) (hb : b ≤ 1000000) : vShl (.d (.int a)) (.d (.int b)) S = some (.d (.int ((a <<< b : Nat) : Int))) := by
  rw [vShl_i, Nat.shiftLeft_eq]
  · rfl
  · unfold pPow
    rw [decide_eq_true (Int.natCast_nonneg b), decide_eq_true (show (b : Int) ≤ 1000000 by omega), decide_eq_true (show (a : Int).natAbs < 2 ^ 64 by omega)]
    rfl
theorem shl_1 (hb : b ≤ 1000000) : vShl (.d (.int 1)) (.d (.int b)) S = some (.d (.int ((2 ^ b : Nat) : Int))) := by
  have := shl_n (a := 1) (b := b) (S := S) (by decide) hb
  rw [Nat.shiftLeft_eq, Nat.one_mul] at this
  exact this
theorem sub_1 (h : 1 ≤ a) : vSub (.d (.int a)) (.d (.int 1)) S = some (.d (.int ((a - 1 : Nat) : Int))) := by
  rw [vSub_i, Int.ofNat_sub h]
  rfl
theorem dec_toNat {p : Bool} : decide (((p.toNat : Nat) : Int) = 1) = p := by cases p <;> rfl
theorem dec_toNat0 {p : Bool} : decide (((p.toNat : Nat) : Int) = 0) = !p := by cases p <;> rfl
theorem tru_toNat {p : Bool} : vTru (.d (.int ((p.toNat : Nat) : Int))) S = some p := by cases p <;> rfl
theorem shr_bit {t p : Nat} : (t >>> p).testBit 0 = t.testBit p := by rw [Nat.testBit_shiftRight, Nat.add_zero]
theorem small_n (h : a < 2 ^ 62) : small62 (a : Int) = true := by
  unfold small62
  rw [decide_eq_true (by omega), decide_eq_true (by omega)]
  rfl
/-- the numbers below n -/
def nats (n : Nat) : List D := (List.range n).map fun (i : Nat) => D.int (i : Int)
theorem rng_n (n : Nat) : rng 0 n = nats n := by
  unfold rng nats
  refine List.map_congr_left fun i _ => ?_
  rw [Int.zero_add]
theorem nats_len (n : Nat) : (nats n).length = n := by unfold nats; simp
theorem oR1_n (h : a < 2 ^ 62) : oR1 [.d (.int a)] S = some ⟨nats a, none⟩ := by
  rw [oR1_ (small_n h), Int.toNat_natCast, rng_n]
theorem fRg1_n {f : Fe RV} {S1 : Sto} (hf : f ρ S = some (.d (.int a), S1)) (h : a ≤ 1000) : fRg1 f ρ S = some ((0, (a : Int)), S1) := by
  unfold fRg1
  rw [fMap_, hf, obind_some, mapK_]
  simp only
  rw [if_pos (by rw [small_n (by omega), decide_eq_true (by omega)]; rfl)]
  rfl
theorem eRgT_n {f : Fe RV} {S1 : Sto} (hf : f ρ S = some (.d (.int a), S1)) (h : a ≤ 1000) : eRgT (fRg1 f) ρ S = some (.d (.tup (nats a)), S1) := by
  unfold eRgT
  rw [fMap_, fRg1_n hf h, obind_some, mapK_]
  simp only [Int.sub_zero, Int.toNat_natCast, rng_n]
  rfl
theorem lRg_n {f : Fe RV} {S1 : Sto} (hf : f ρ S = some (.d (.int a), S1)) (h : a ≤ 1000) : lRg (fRg1 f) ρ S = some (nats a, S1) := by
  unfold lRg
  rw [fMap_, fRg1_n hf h, obind_some, mapK_]
  simp only [Int.sub_zero, Int.toNat_natCast, rng_n]
  rw [if_pos (by unfold Lim; omega)]
  rfl
/-! ### loops over what a list tells -/
theorem foGo_foldE {α β : Type} {xs : List D} {gg : Gt} {F : Fs} {e : β → D} (P : α → Env' → Sto → Prop) (g : α → β → α) : ∀ (ds : List β), (∀ d ∈ ds, ∀ a ρ S, P a ρ S → ∃ ρ1 ρ2 S2, gg (.d (e d)) ρ = some ρ1 ∧ F ρ1 S = some (.nx, ρ2, S2) ∧ P (g a d) ρ2 S2) →
    ∀ a ρ S, P a ρ S → ∃ ρ' S', foGo ⟨xs, none⟩ gg F (ds.map e) ρ S = some (.nx, ρ', S') ∧ P (ds.foldl g a) ρ' S'
  | [], _, a, ρ, S, p => ⟨ρ, S, foGo_n, p⟩
  | d :: ds, st, a, ρ, S, p => by
    obtain ⟨ρ1, ρ2, S2, h1, h2, h3⟩ := st d List.mem_cons_self a ρ S p
    obtain ⟨ρ', S', h4, h5⟩ := foGo_foldE P g ds (fun x hx => st x (List.mem_cons_of_mem _ hx)) (g a d) ρ2 S2 h3
    exact ⟨ρ', S', by rw [List.map_cons, foGo_c, h1, Option.bind_some, h2, Option.bind_some, foK_nx, h4], h5⟩
/-- a comprehension with a test, that changes nothing -/
theorem lcGo_fm {α : Type} {xs : List D} {gg : Gt} {t : Fe Bool} {f : Fe RV} {ρ : Env'} {S : Sto} (e g : α → D) (c : α → Bool) : ∀ {ps : List α}, (∀ p ∈ ps, ∃ ρ1, gg (.d (e p)) ρ = some ρ1 ∧ t ρ1 S = some (c p, S) ∧ (c p = true → f ρ1 S = some (.d (g p), S))) → lcGo ⟨xs, none⟩ gg t f ρ (ps.map e) S = some ((ps.filter c).map g, S)
  | [], _ => lcGo_n
  | p :: ps, q => by
    obtain ⟨ρ1, h1, h2, h3⟩ := q p List.mem_cons_self
    have ih := lcGo_fm (xs := xs) (gg := gg) (t := t) (f := f) (ρ := ρ) (S := S) e g c (ps := ps) fun x hx => q x (List.mem_cons_of_mem _ hx)
    rw [List.map_cons, lcGo_c, h1, Option.bind_some, h2, Option.bind_some]
    cases hc : c p
    · rw [lcB_f, ih, List.filter_cons_of_neg (by rw [hc]; exact Bool.false_ne_true)]
    · rw [lcB_t, h3 hc, Option.bind_some, lcC_, ih, List.filter_cons_of_pos hc]
      rfl
theorem lLc_fm {α : Type} {src : Fe Src} {gg : Gt} {t : Fe Bool} {f : Fe RV} {vs : List Nat} {S1 : Sto} (e g : α → D) (c : α → Bool) {ps : List α} (hs : src ρ S = some (⟨ps.map e, none⟩, S1)) (hl : ps.length ≤ Lim)
    (q : ∀ p ∈ ps, ∃ ρ1, gg (.d (e p)) (wipeE ρ vs) = some ρ1 ∧ t ρ1 S1 = some (c p, S1) ∧ (c p = true → f ρ1 S1 = some (.d (g p), S1))) : lLc src gg t f vs ρ S = some ((ps.filter c).map g, S1) := by
  rw [lLc_, hs, obind_some, lcK_ (by rw [List.length_map]; exact hl)]
  exact lcGo_fm e g c q
theorem lLc_map {α : Type} {src : Fe Src} {gg : Gt} {f : Fe RV} {vs : List Nat} {S1 : Sto} (e g : α → D) {ps : List α} (hs : src ρ S = some (⟨ps.map e, none⟩, S1)) (hl : ps.length ≤ Lim)
    (q : ∀ p ∈ ps, ∃ ρ1, gg (.d (e p)) (wipeE ρ vs) = some ρ1 ∧ f ρ1 S1 = some (.d (g p), S1)) : lLc src gg fTrue f vs ρ S = some (ps.map g, S1) := by
  rw [lLc_, hs, obind_some, lcK_ (by rw [List.length_map]; exact hl)]
  exact lcGo_mapE e g fun p hp => let ⟨ρ1, h1, h2⟩ := q p hp; ⟨ρ1, h1, rfl, h2⟩
theorem ints_of {α : Type} {l : List α} {g : α → Int} : l.map (fun x => D.int (g x)) = (l.map g).map D.int := by rw [List.map_map]; rfl
theorem map_lim {α β : Type} {l : List α} {g : α → β} (h : l.length ≤ Lim) : (l.map g).length ≤ Lim := by rw [List.length_map]; exact h
/-! ### the keys of a dict display over numbers -/
end
/-! ### ones of a number -/
theorem digits_two : ∀ (f n : Nat) (acc : List Char), n < f → (Nat.toDigitsCore 2 f n acc).length ≤ f + acc.length ∧ ((Nat.toDigitsCore 2 f n acc).map Char.toNat).count 49 = Tab.pop n + (acc.map Char.toNat).count 49
  | 0, n, acc, h => by omega
  | f + 1, n, acc, h => by
    have hd : Nat.digitChar (n % 2) = if n % 2 = 1 then '1' else '0' := by
      rcases Nat.mod_two_eq_zero_or_one n with e | e <;> rw [e] <;> rfl
    have hc : (List.map Char.toNat ((n % 2).digitChar :: acc)).count 49 = n % 2 + (acc.map Char.toNat).count 49 := by
      rw [hd, List.map_cons]
      rcases Nat.mod_two_eq_zero_or_one n with e | e
      · rw [e, if_neg (by decide), List.count_cons_of_ne (by decide)]; omega
      · rw [e, if_pos rfl, show ('1' : Char).toNat = 49 from rfl, List.count_cons_self]; omega
    unfold Nat.toDigitsCore
    simp only
    by_cases h0 : n / 2 = 0
    · rw [if_pos h0]
      refine ⟨by simp; omega, ?_⟩
      rw [hc, Tab.pop_two, h0, Tab.pop_zero]
      omega
    · rw [if_neg h0]
      obtain ⟨h1, h2⟩ := digits_two f (n / 2) ((n % 2).digitChar :: acc) (by omega)
      refine ⟨by simp at h1; omega, ?_⟩
      rw [h2, hc, Tab.pop_two n]
      omega
section
open PySem.StrLaws PySem.Builtin PySem.Builtin.Str
theorem occ_fold (s : Str) (c : Nat) (n : Nat) : ∀ (i : Nat) (st : Array Nat × Nat), i + n = s.length + 1 → st.1.size = (s.cps.toList.take i).count c → st.1.size ≤ i → st.2 ≤ i →
    (forIn (List.range' i n) st (occBody s ⟨#[c]⟩ s.length (s.length + 1))).run.1.size = s.cps.toList.count c := by
  induction n with
  | zero =>
    intro i st hi h1 h2 h3
    show st.1.size = _
    rw [h1, List.take_of_length_le (by rw [Array.length_toList]; show s.length ≤ i; omega)]
  | succ n ih =>
    intro i st hi h1 h2 h3
    rw [List.range'_succ, List.forIn_cons]
    have hl : (⟨#[c]⟩ : Str).length = 1 := rfl
    by_cases hs : i < s.length
    · have hs' : i < s.cps.toList.length := by rw [Array.length_toList]; exact hs
      have hsz : i < s.cps.size := hs
      have sub : subAt s ⟨#[c]⟩ i = decide (s.cps[i] = c) := by
        unfold subAt
        rw [hl]
        have e : s.cps.extract i (i + 1) = #[s.cps[i]] := by
          apply Array.ext
          · simp; omega
          · intro j a b
            simp at b
            subst b
            simp
        rw [e]
        simp [Bool.beq_eq_decide_eq]
      have ht : (s.cps.toList.take (i + 1)).count c = (s.cps.toList.take i).count c + if s.cps[i] = c then 1 else 0 := by
        rw [List.take_succ, List.getElem?_eq_getElem hs', List.count_append]
        simp [List.count_cons]
      unfold occBody
      rw [hl, sub]
      by_cases hc : s.cps[i] = c
      · rw [if_pos ⟨⟨⟨by omega, h3⟩, by omega⟩, decide_eq_true hc⟩]
        refine ih (i + 1) _ (by omega) ?_ ?_ ?_
        · rw [ht, if_pos hc, Array.size_push, h1]
        · rw [Array.size_push]; omega
        · exact Nat.le_refl _
      · rw [if_neg (fun z => hc (of_decide_eq_true z.2))]
        refine ih (i + 1) _ (by omega) ?_ ?_ ?_
        · rw [ht, if_neg hc]; exact h1
        · show st.1.size ≤ i + 1; omega
        · show st.2 ≤ i + 1; omega
    · have hn : n = 0 := by omega
      subst hn
      unfold occBody
      rw [hl, if_neg (fun z => by have := z.1.2; omega)]
      refine ih (i + 1) _ (by omega) ?_ ?_ ?_
      · show st.1.size = _
        rw [h1, List.take_of_length_le (by rw [Array.length_toList]; show s.length ≤ i; omega), List.take_of_length_le (by rw [Array.length_toList]; show s.length ≤ i + 1; omega)]
      · show st.1.size ≤ i + 1; omega
      · show st.2 ≤ i + 1; omega
theorem count_1 (s : Str) (c : Nat) : Txt.count s ⟨#[c]⟩ = (s.cps.toList.count c : Nat) := by
  unfold Txt.count
  rw [occ_eq, Array.length_toList, Nat.sub_zero]
  rw [occ_fold s c (s.length + 1) 0 (#[], 0) (by omega) rfl (Nat.le_refl _) (Nat.le_refl _)]
theorem count_bin (a : Nat) : Txt.count (binS a) "1" = (Tab.pop a : Nat) := by
  have e : ("1" : Str) = ⟨#[49]⟩ := by decide
  rw [e, count_1]
  unfold binS
  simp only
  have := (digits_two (a + 1) a [] (by omega)).2
  unfold Nat.toDigits
  rw [this]
  simp
theorem digits_len (a : Nat) : (Nat.toDigits 2 a).length ≤ a + 1 := by
  have := (digits_two (a + 1) a [] (by omega)).1
  unfold Nat.toDigits
  simpa using this
theorem vOnes_n {a : Nat} {S : Sto} (h : a < Lim) : vOnes (.d (.int a)) S = some (.d (.int ((Tab.pop a : Nat) : Int))) := by
  unfold vOnes
  simp only
  rw [if_pos ⟨Int.natCast_nonneg a, by rw [Int.toNat_natCast]; have := digits_len a; omega⟩, Int.toNat_natCast, count_bin]
end
/-! ### what stands first in a chain of binds -/
section
variable {ρ : Env'} {S S1 : Sto} {γ : Type} {r : Option γ}
theorem for_bind {α β : Type} {xs : List D} {gg : Gt} {F : Fs} {a : α} {k : Fl × Env' × Sto → Option γ} {e : β → D} {ds : List β} (P : α → Env' → Sto → Prop) (g : α → β → α) (h0 : P a ρ S)
    (st : ∀ d ∈ ds, ∀ a ρ S, P a ρ S → ∃ ρ1 ρ2 S2, gg (.d (e d)) ρ = some ρ1 ∧ F ρ1 S = some (.nx, ρ2, S2) ∧ P (g a d) ρ2 S2) (hk : ∀ ρ' S', P (ds.foldl g a) ρ' S' → k (.nx, ρ', S') = r) : (foGo ⟨xs, none⟩ gg F (ds.map e) ρ S).bind k = r := by
  obtain ⟨ρ', S', h1, h2⟩ := foGo_foldE (xs := xs) (gg := gg) (F := F) P g ds st a ρ S h0
  rw [h1, Option.bind_some]
  exact hk ρ' S' h2
theorem lc_bind {α : Type} {src : Fe Src} {gg : Gt} {t : Fe Bool} {f : Fe RV} {vs : List Nat} {k : List D × Sto → Option γ} {ps : List α} (e g : α → D) (c : α → Bool) (hs : src ρ S = some (⟨ps.map e, none⟩, S1)) (hl : ps.length ≤ Lim)
    (q : ∀ p ∈ ps, ∃ ρ1, gg (.d (e p)) (wipeE ρ vs) = some ρ1 ∧ t ρ1 S1 = some (c p, S1) ∧ (c p = true → f ρ1 S1 = some (.d (g p), S1))) (hk : k ((ps.filter c).map g, S1) = r) : (lLc src gg t f vs ρ S).bind k = r := by
  rw [lLc_fm e g c hs hl q, Option.bind_some]
  exact hk
theorem lcm_bind {α : Type} {src : Fe Src} {gg : Gt} {f : Fe RV} {vs : List Nat} {k : List D × Sto → Option γ} {ps : List α} (e g : α → D) (hs : src ρ S = some (⟨ps.map e, none⟩, S1)) (hl : ps.length ≤ Lim)
    (q : ∀ p ∈ ps, ∃ ρ1, gg (.d (e p)) (wipeE ρ vs) = some ρ1 ∧ f ρ1 S1 = some (.d (g p), S1)) (hk : k (ps.map g, S1) = r) : (lLc src gg fTrue f vs ρ S).bind k = r := by
  rw [lLc_map e g hs hl q, Option.bind_some]
  exact hk
end
/-! ### what holds of the value -/
def Wp {γ : Type} (o : Option γ) (Q : γ → Prop) : Prop := ∃ x, o = some x ∧ Q x
section
variable {ρ : Env'} {S S1 : Sto} {γ : Type} {Q : γ → Prop}
theorem wp_eq {γ : Type} {o : Option γ} {r : γ} (h : Wp o fun x => x = r) : o = some r := by
  obtain ⟨x, h1, h2⟩ := h
  rw [h1, h2]
theorem wp_some {γ : Type} {x : γ} {Q : γ → Prop} (h : Q x) : Wp (some x) Q := ⟨x, rfl, h⟩
theorem wp_for {α β : Type} {xs : List D} {gg : Gt} {F : Fs} {a : α} {k : Fl × Env' × Sto → Option γ} {e : β → D} {ds : List β} (P : α → Env' → Sto → Prop) (g : α → β → α) (h0 : P a ρ S)
    (st : ∀ d ∈ ds, ∀ a ρ S, P a ρ S → Wp ((gg (.d (e d)) ρ).bind fun ρ1 => F ρ1 S) fun z => (z.1 = .nx ∨ z.1 = .ct) ∧ P (g a d) z.2.1 z.2.2) (hk : ∀ ρ' S', P (ds.foldl g a) ρ' S' → Wp (k (.nx, ρ', S')) Q) : Wp ((foGo ⟨xs, none⟩ gg F (ds.map e) ρ S).bind k) Q := by
  have key : ∀ (ds : List β), (∀ d ∈ ds, ∀ a ρ S, P a ρ S → Wp ((gg (.d (e d)) ρ).bind fun ρ1 => F ρ1 S) fun z => (z.1 = .nx ∨ z.1 = .ct) ∧ P (g a d) z.2.1 z.2.2) → ∀ a ρ S, P a ρ S → ∃ ρ' S', foGo ⟨xs, none⟩ gg F (ds.map e) ρ S = some (.nx, ρ', S') ∧ P (ds.foldl g a) ρ' S' := by
    intro ds
    induction ds with
    | nil => intro _ a ρ S h; exact ⟨ρ, S, foGo_n, h⟩
    | cons d ds ih =>
      intro st a ρ S h
      obtain ⟨⟨fl, ρ2, S2⟩, h1, h2, h3⟩ := st d List.mem_cons_self a ρ S h
      obtain ⟨ρ1, e1, e2⟩ := bind_some h1
      obtain ⟨ρ', S', h4, h5⟩ := ih (fun x hx => st x (List.mem_cons_of_mem _ hx)) (g a d) ρ2 S2 h3
      refine ⟨ρ', S', ?_, h5⟩
      rw [List.map_cons, foGo_c, e1, Option.bind_some, e2, Option.bind_some]
      rcases h2 with h2 | h2 <;> simp only at h2 <;> subst h2
      · rw [foK_nx, h4]
      · rw [foK_ct, h4]
  obtain ⟨ρ', S', h1, h2⟩ := key ds st a ρ S h0
  rw [h1, Option.bind_some]
  exact hk ρ' S' h2
theorem wp_lc {α : Type} {src : Fe Src} {gg : Gt} {t : Fe Bool} {f : Fe RV} {vs : List Nat} {k : List D × Sto → Option γ} {ps : List α} (e g : α → D) (c : α → Bool) (hs : src ρ S = some (⟨ps.map e, none⟩, S1)) (hl : ps.length ≤ Lim)
    (q : ∀ p ∈ ps, Wp ((gg (.d (e p)) (wipeE ρ vs)).bind fun ρ1 => (t ρ1 S1).bind fun b => if b.1 = true then (f ρ1 b.2).bind fun y => some (true, y) else some (false, RV.d .non, b.2)) fun z => z.1 = c p ∧ z.2.2 = S1 ∧ (c p = true → z.2.1 = .d (g p))) (hk : Wp (k ((ps.filter c).map g, S1)) Q) : Wp ((lLc src gg t f vs ρ S).bind k) Q := by
  rw [lLc_, hs, obind_some, lcK_ (by rw [List.length_map]; exact hl)]
  have key : ∀ (ps' : List α), (∀ p ∈ ps', p ∈ ps) → lcGo ⟨ps.map e, none⟩ gg t f (wipeE ρ vs) (ps'.map e) S1 = some ((ps'.filter c).map g, S1) := by
    intro ps'
    induction ps' with
    | nil => intro _; exact lcGo_n
    | cons p ps' ih =>
      intro hm
      have ih := ih fun x hx => hm x (List.mem_cons_of_mem _ hx)
      obtain ⟨⟨b, y, S2⟩, h1, h2, h3, h4⟩ := q p (hm p List.mem_cons_self)
      obtain ⟨ρ1, e1, h1⟩ := bind_some h1
      obtain ⟨⟨b', S3⟩, e2, h1⟩ := bind_some h1
      simp only at h2 h3 h4
      subst h2 h3
      rw [List.map_cons, lcGo_c, e1, Option.bind_some, e2, Option.bind_some]
      cases b' with
      | false =>
        simp only [Bool.false_eq_true, if_false, Option.some.injEq, Prod.mk.injEq] at h1
        obtain ⟨hb, _, hS⟩ := h1
        subst hS
        rw [lcB_f, ih, List.filter_cons_of_neg (by rw [← hb]; exact Bool.false_ne_true)]
      | true =>
        simp only [if_true] at h1
        obtain ⟨⟨y', S4⟩, e3, h1⟩ := bind_some h1
        simp only [Option.some.injEq, Prod.mk.injEq] at h1
        obtain ⟨hb, hy, hS⟩ := h1
        subst hy hS
        have hy := h4 hb.symm
        subst hy
        rw [lcB_t, e3, Option.bind_some, lcC_, ih, List.filter_cons_of_pos hb.symm]
        rfl
  rw [key ps fun _ h => h, Option.bind_some]
  exact hk
theorem wp_lcm {α : Type} {src : Fe Src} {gg : Gt} {f : Fe RV} {vs : List Nat} {k : List D × Sto → Option γ} {ps : List α} (e g : α → D) (hs : src ρ S = some (⟨ps.map e, none⟩, S1)) (hl : ps.length ≤ Lim)
    (q : ∀ p ∈ ps, Wp ((gg (.d (e p)) (wipeE ρ vs)).bind fun ρ1 => f ρ1 S1) fun z => z.2 = S1 ∧ z.1 = .d (g p)) (hk : Wp (k (ps.map g, S1)) Q) : Wp ((lLc src gg fTrue f vs ρ S).bind k) Q := by
  rw [lLc_map e g hs hl fun p hp => ?_, Option.bind_some]
  · exact hk
  · obtain ⟨⟨y, S2⟩, h1, h2, h3⟩ := q p hp
    obtain ⟨ρ1, e1, e2⟩ := bind_some h1
    simp only at h2 h3
    subst h2 h3
    exact ⟨ρ1, e1, e2⟩
end
theorem wp_forL {ρ : Env'} {S : Sto} {γ : Type} {Q : γ → Prop} {β : Type} {xs : List D} {gg : Gt} {F : Fs} {k : Fl × Env' × Sto → Option γ} {e : β → D} {ds : List β} (P : List β → Env' → Sto → Prop) (h0 : P [] ρ S)
    (st : ∀ done d rest, ds = done ++ d :: rest → ∀ ρ S, P done ρ S → Wp ((gg (.d (e d)) ρ).bind fun ρ1 => F ρ1 S) fun z => (z.1 = .nx ∨ z.1 = .ct) ∧ P (done ++ [d]) z.2.1 z.2.2) (hk : ∀ ρ' S', P ds ρ' S' → Wp (k (.nx, ρ', S')) Q) : Wp ((foGo ⟨xs, none⟩ gg F (ds.map e) ρ S).bind k) Q := by
  have key : ∀ (rest done : List β), ds = done ++ rest → ∀ ρ S, P done ρ S → ∃ ρ' S', foGo ⟨xs, none⟩ gg F (rest.map e) ρ S = some (.nx, ρ', S') ∧ P ds ρ' S' := by
    intro rest
    induction rest with
    | nil => intro done e ρ S h; rw [List.append_nil] at e; subst e; exact ⟨ρ, S, foGo_n, h⟩
    | cons d rest ih =>
      intro done e ρ S h
      obtain ⟨⟨fl, ρ2, S2⟩, h1, h2, h3⟩ := st done d rest e ρ S h
      obtain ⟨ρ1, e1, e2⟩ := bind_some h1
      obtain ⟨ρ', S', h4, h5⟩ := ih (done ++ [d]) (by rw [e, List.append_assoc]; rfl) ρ2 S2 h3
      refine ⟨ρ', S', ?_, h5⟩
      rw [List.map_cons, foGo_c, e1, Option.bind_some, e2, Option.bind_some]
      rcases h2 with h2 | h2 <;> simp only at h2 <;> subst h2
      · rw [foK_nx, h4]
      · rw [foK_ct, h4]
  obtain ⟨ρ', S', h1, h2⟩ := key ds [] rfl ρ S h0
  rw [h1, Option.bind_some]
  exact hk ρ' S' h2
theorem split_len {β : Type} {ds done rest : List β} {d : β} (h : ds = done ++ d :: rest) : done.length < ds.length := by rw [h]; simp
theorem split_mem {β : Type} {ds done rest : List β} {d : β} (h : ds = done ++ d :: rest) : d ∈ ds := by rw [h]; simp
theorem ml1K_0 {k : List D → RV → Sto → Option (RV × List D)} {g : Fe RV} {ρ : Env'} {ds : List D} {T : Sto} : ml1K k g ρ (.o 0, .lst ds :: T) = (g ρ (.lst ds :: T)).bind (ml1J k (.o 0)) := ml1K_ rfl
theorem ml1J_0 {k : List D → RV → Sto → Option (RV × List D)} {y : RV} {ds : List D} {T : Sto} : ml1J k (.o 0) (y, .lst ds :: T) = (k ds y (.lst ds :: T)).bind fun z => some (z.1, .lst z.2 :: T) := ml1J_ rfl
end Ev

/-! Readings of the program's defs on tables of truth, the callees given (printed by gen.py), and what they tell. -/
namespace Ev
open PySem PySem.Spec PyProof.Rows L2 Tab
def S_full : Fs :=
    sSeq2 (sRet (eBin vSub (eBin vShl (eC (.int 1)) (eBin vShl (eC (.int 1)) (eVar 0))) (eC (.int 1))))
    (sNil)
def S_variable : Fs :=
    sSeq2 (sAsg (eBin vShl (eBin vSub (eBin vShl (eC (.int 1)) (eBin vShl (eC (.int 1)) (eVar 1))) (eC (.int 1))) (eBin vShl (eC (.int 1)) (eVar 1))) (gN 2))
    (sSeq2 (sAsg (eBin vShl (eC (.int 2)) (eVar 1)) (gN 3))
    (sSeq2 (sAsg (eVar 2) (gN 4))
    (sSeq2 (whGo (fTest (eBin vLt (eVar 3) (eBin vShl (eC (.int 1)) (eVar 0)))) (sSeq2 (sAug 4 vOr (eBin vShl (eVar 4) (eVar 3)))
    (sSeq2 (sAug 3 vMul (eC (.int 2)))
    (sNil))) 100000)
    (sSeq2 (sRet (eVar 4))
    (sNil)))))
def S_digit : Fs :=
    sSeq2 (sRet (eBin vAnd (eBin vShr (eVar 0) (eVar 1)) (eC (.int 1))))
    (sNil)
def S_ones : Fs :=
    sSeq2 (sRet (eOnes (eVar 0)))
    (sNil)
def S_fixed (p_variable : List D → Option PR) (p_full : List D → Option PR) : Fs :=
    sSeq2 (sAsg (eCallP 2 p_variable (aCons (eVar 1) (aCons (eVar 2) (aNil)))) (gN 4))
    (sSeq2 (sAsg (eBin vShl (eC (.int 1)) (eVar 2)) (gN 5))
    (sSeq2 (sIf (fTest (eBin vEq (eVar 3) (eC (.int 1)))) (sSeq2 (sAsg (eBin vAnd (eVar 0) (eVar 4)) (gN 6))
    (sSeq2 (sRet (eBin vOr (eVar 6) (eBin vShr (eVar 6) (eVar 5))))
    (sNil))) (sNil))
    (sSeq2 (sAsg (eBin vAnd (eVar 0) (eBin vXor (eCallP 1 p_full (aCons (eVar 1) (aNil))) (eVar 4))) (gN 7))
    (sSeq2 (sRet (eBin vOr (eVar 7) (eBin vShl (eVar 7) (eVar 5))))
    (sNil)))))
def S_support (p_fixed : List D → Option PR) : Fs :=
    sSeq2 (sRet (eCall bTup (aCons (eVal (lLc (fMap (aCons (eVar 1) (aNil)) oR1) (gN 2) (fTest (eBin vNe (eCallP 4 p_fixed (aCons (eVar 0) (aCons (eVar 1) (aCons (eVar 2) (aCons (eC (.int 0)) (aNil)))))) (eCallP 4 p_fixed (aCons (eVar 0) (aCons (eVar 1) (aCons (eVar 2) (aCons (eC (.int 1)) (aNil)))))))) (eVar 2) [2])) (aNil))))
    (sNil)
def S_table_from (p_full : List D → Option PR) : Fs :=
    sSeq2 (sAsg (eC (.int 0)) (gN 2))
    (sSeq2 (sFor (sSeq (eVar 1)) (gN 3) (sSeq2 (sAug 2 vOr (eBin vShl (eC (.int 1)) (eVar 3)))
    (sNil)))
    (sSeq2 (sRet (eBin vAnd (eVar 2) (eCallP 1 p_full (aCons (eVar 0) (aNil)))))
    (sNil)))
def S_check_asked (p_full : List D → Option PR) : Fs :=
    sSeq2 (sIf (fNot (fTest (eChain vLe vLe (eC (.int 0)) (eVar 1) (eC (.int 5))))) (sSeq2 (sNo)
    (sNil)) (sNil))
    (sSeq2 (sIf (fNot (fTest (eChain vLe vLe (eC (.int 0)) (eVar 0) (eCallP 1 p_full (aCons (eVar 1) (aNil)))))) (sSeq2 (sNo)
    (sNil)) (sNil))
    (sNil))
def S_source : Fs :=
    sSeq2 (sAsg (eVar 1) (gTp 3 (gsCons (gN 3) (gsCons (gN 4) (gsCons (gN 5) (gsNil))))))
    (sSeq2 (sAsg (eBin vXor (eVar 0) (eVar 4)) (gN 6))
    (sSeq2 (sRet (eCall (bInts List.sum) (aCons (eVal (lLc (fMap (aCons (eVar 2) (aNil)) oR1) (gN 7) (fTru (eBin vAnd (eBin vShr (eVar 6) (eVar 7)) (eC (.int 1)))) (eBin vShl (eC (.int 1)) (eBin vIx (eVar 3) (eVar 7))) [7])) (aNil))))
    (sNil)))
def S_change_of (p_digit : List D → Option PR) (p_source : List D → Option PR) (p_table_from : List D → Option PR) : Fs :=
    sSeq2 (sAsg (eVal (lLc (fMap (aCons (eBin vShl (eC (.int 1)) (eVar 1)) (aNil)) oR1) (gN 4) (fTest (eBin vNe (eCallP 2 p_digit (aCons (eVar 0) (aCons (eCallP 3 p_source (aCons (eVar 4) (aCons (eVar 2) (aCons (eVar 1) (aNil))))) (aNil)))) (eBin vIx (eVar 2) (eC (.int 2))))) (eVar 4) [4])) (gN 3))
    (sSeq2 (sRet (eCallP 2 p_table_from (aCons (eVar 1) (aCons (eVar 3) (aNil)))))
    (sNil))
def S_changed (p_check_asked : List D → Option PR) (p_change_of : List D → Option PR) : Fs :=
    sSeq2 (sExpr (eCallP 2 p_check_asked (aCons (eVar 0) (aCons (eVar 1) (aNil)))))
    (sSeq2 (sAsg (eVar 2) (gTp 3 (gsCons (gN 3) (gsCons (gN 4) (gsCons (gN 5) (gsNil))))))
    (sSeq2 (sIf (fOr (fTest (eBin vNe (eVal (lCall bSrtQ (aCons (eVar 3) (aNil)))) (eVal (lRg (fRg1 (eVar 1)))))) (fOr (fNot (fTest (eChain vLe vLt (eC (.int 0)) (eVar 4) (eBin vShl (eC (.int 1)) (eVar 1))))) (fTest (eBin (vIn true) (eVar 5) (eTup (aCons (eC (.int 0)) (aCons (eC (.int 1)) (aNil)))))))) (sSeq2 (sNo)
    (sNil)) (sNil))
    (sSeq2 (sRet (eCallP 3 p_change_of (aCons (eVar 0) (aCons (eVar 1) (aCons (eVar 2) (aNil))))))
    (sNil))))
def S_powers (p_check_asked : List D → Option PR) (p_fixed : List D → Option PR) (p_variable : List D → Option PR) (p_full : List D → Option PR) : Fs :=
    sSeq2 (sExpr (eCallP 2 p_check_asked (aCons (eVar 0) (aCons (eVar 1) (aNil)))))
    (sSeq2 (sAsg (eVar 0) (gN 2))
    (sSeq2 (sFor (fMap (aCons (eVar 1) (aNil)) oR1) (gN 3) (sSeq2 (sAsg (eCallP 4 p_fixed (aCons (eVar 2) (aCons (eVar 1) (aCons (eVar 3) (aCons (eC (.int 0)) (aNil)))))) (gN 4))
    (sSeq2 (sAsg (eCallP 4 p_fixed (aCons (eVar 2) (aCons (eVar 1) (aCons (eVar 3) (aCons (eC (.int 1)) (aNil)))))) (gN 5))
    (sSeq2 (sAsg (eCallP 2 p_variable (aCons (eVar 1) (aCons (eVar 3) (aNil)))) (gN 6))
    (sSeq2 (sAsg (eBin vOr (eBin vAnd (eVar 4) (eBin vXor (eCallP 1 p_full (aCons (eVar 1) (aNil))) (eVar 6))) (eBin vAnd (eBin vXor (eVar 4) (eVar 5)) (eVar 6))) (gN 2))
    (sNil))))))
    (sSeq2 (sRet (eVar 2))
    (sNil))))
def S_degree (p_powers : List D → Option PR) (p_digit : List D → Option PR) (p_ones : List D → Option PR) : Fs :=
    sSeq2 (sAsg (eCallP 2 p_powers (aCons (eVar 0) (aCons (eVar 1) (aNil)))) (gN 2))
    (sSeq2 (sRet (eMaxDf (aCons (eVal (lLc (fMap (aCons (eBin vShl (eC (.int 1)) (eVar 1)) (aNil)) oR1) (gN 3) (fTest (eBin vEq (eCallP 2 p_digit (aCons (eVar 2) (aCons (eVar 3) (aNil)))) (eC (.int 1)))) (eCallP 1 p_ones (aCons (eVar 3) (aNil))) [3])) (aNil)) (eNeg (eC (.int 1)))))
    (sNil))
def S_best_polarity (p_check_asked : List D → Option PR) (p_powers : List D → Option PR) (p_change_of : List D → Option PR) (p_ones : List D → Option PR) : Fs :=
    sSeq2 (sExpr (eCallP 2 p_check_asked (aCons (eVar 0) (aCons (eVar 1) (aNil)))))
    (sSeq2 (sAsg (eRgT (fRg1 (eVar 1))) (gN 2))
    (sSeq2 (sAsg (eC .non) (gN 3))
    (sSeq2 (sFor (fMap (aCons (eBin vShl (eC (.int 1)) (eVar 1)) (aNil)) oR1) (gN 4) (sSeq2 (sAsg (eCallP 2 p_powers (aCons (eCallP 3 p_change_of (aCons (eVar 0) (aCons (eVar 1) (aCons (eTup (aCons (eVar 2) (aCons (eVar 4) (aCons (eC (.int 0)) (aNil))))) (aNil))))) (aCons (eVar 1) (aNil)))) (gN 5))
    (sSeq2 (sIf (fOr (fTest (eBin (vIsN false) (eVar 3) (eC .non))) (fTest (eBin vLt (eCallP 1 p_ones (aCons (eVar 5) (aNil))) (eBin vIx (eVar 3) (eC (.int 0)))))) (sSeq2 (sAsg (eTup (aCons (eCallP 1 p_ones (aCons (eVar 5) (aNil))) (aCons (eVar 4) (aCons (eVar 5) (aNil))))) (gN 3))
    (sNil)) (sNil))
    (sNil))))
    (sSeq2 (sRet (eTup (aCons (eBin vIx (eVar 3) (eC (.int 1))) (aCons (eBin vIx (eVar 3) (eC (.int 2))) (aNil)))))
    (sNil)))))
def S_nearness (p_check_asked : List D → Option PR) (p_digit : List D → Option PR) : Fs :=
    sSeq2 (sExpr (eCallP 2 p_check_asked (aCons (eVar 0) (aCons (eVar 1) (aNil)))))
    (sSeq2 (sAsg (eVal (lLc (fMap (aCons (eBin vShl (eC (.int 1)) (eVar 1)) (aNil)) oR1) (gN 6) (fTrue) (fIf (fTest (eBin vEq (eCallP 2 p_digit (aCons (eVar 0) (aCons (eVar 6) (aNil)))) (eC (.int 1)))) (eNeg (eC (.int 1))) (eC (.int 1))) [6])) (gN 2))
    (sSeq2 (sFor (fMap (aCons (eVar 1) (aNil)) oR1) (gN 3) (sSeq2 (sAsg (eBin vShl (eC (.int 1)) (eVar 3)) (gN 4))
    (sSeq2 (sAsg (eObj (lCall bLst (aCons (eVar 2) (aNil)))) (gN 5))
    (sSeq2 (sFor (fMap (aCons (eBin vShl (eC (.int 1)) (eVar 1)) (aNil)) oR1) (gN 6) (sSeq2 (sIf (fTru (eBin vAnd (eVar 6) (eVar 4))) (sSeq2 (sSubL (eVar 5) (eVar 6) (eBin vSub (eBin vIx (eVar 2) (eBin vXor (eVar 6) (eVar 4))) (eBin vIx (eVar 2) (eVar 6))))
    (sNil)) (sSeq2 (sSubL (eVar 5) (eVar 6) (eBin vAdd (eBin vIx (eVar 2) (eVar 6)) (eBin vIx (eVar 2) (eBin vXor (eVar 6) (eVar 4)))))
    (sNil)))
    (sNil)))
    (sSeq2 (sAsg (eVar 5) (gN 2))
    (sNil))))))
    (sSeq2 (sRet (eCall bTup (aCons (eVar 2) (aNil))))
    (sNil))))
def S_distance (p_nearness : List D → Option PR) : Fs :=
    sSeq2 (sRet (eCall (bQ minI) (aCons (eVal (lLc (sSeq (eCallP 2 p_nearness (aCons (eVar 0) (aCons (eVar 1) (aNil))))) (gN 2) (fTrue) (eBin vDiv (eBin vSub (eBin vShl (eC (.int 1)) (eVar 1)) (eCall bAbs (aCons (eVar 2) (aNil)))) (eC (.int 2))) [2])) (aNil))))
    (sNil)
def S_column (p_fixed : List D → Option PR) : Fs :=
    sSeq2 (sAsg (eVar 0) (gN 4))
    (sSeq2 (sFor (fMap (aCons (eVar 2) (aNil)) oEnum) (gTp 2 (gsCons (gN 5) (gsCons (gN 6) (gsNil)))) (sSeq2 (sAsg (eCallP 4 p_fixed (aCons (eVar 4) (aCons (eVar 1) (aCons (eVar 6) (aCons (eBin vAnd (eBin vShr (eVar 3) (eVar 5)) (eC (.int 1))) (aNil)))))) (gN 4))
    (sNil)))
    (sSeq2 (sRet (eVar 4))
    (sNil)))
def S_squeezed (p_digit : List D → Option PR) (p_table_from : List D → Option PR) : Fs :=
    sSeq2 (sAsg (eObj (aDs (aNil))) (gN 3))
    (sSeq2 (sFor (fMap (aCons (eBin vShl (eC (.int 1)) (eCall bLen (aCons (eVar 2) (aNil)))) (aNil)) oR1) (gN 4) (sSeq2 (sAsg (eCall (bInts List.sum) (aCons (eVal (lLc (fMap (aCons (eVar 2) (aNil)) oEnum) (gTp 2 (gsCons (gN 6) (gsCons (gN 7) (gsNil)))) (fTru (eBin vAnd (eBin vShr (eVar 4) (eVar 6)) (eC (.int 1)))) (eBin vShl (eC (.int 1)) (eVar 7)) [6, 7])) (aNil))) (gN 5))
    (sSeq2 (sIf (fTest (eBin vEq (eCallP 2 p_digit (aCons (eVar 0) (aCons (eVar 5) (aNil)))) (eC (.int 1)))) (sSeq2 (sExpr (eMl1 oApp (eVar 3) (eVar 4)))
    (sNil)) (sNil))
    (sNil))))
    (sSeq2 (sRet (eCallPX 2 p_table_from (aCons (eCall bLen (aCons (eVar 2) (aNil))) (aCons (eVar 3) (aNil)))))
    (sNil)))
def S_parts_of (p_column : List D → Option PR) (p_table_from : List D → Option PR) (p_squeezed : List D → Option PR) (p_digit : List D → Option PR) : Fs :=
    sSeq2 (sAsg (eVal (lLc (fMap (aCons (eBin vShl (eC (.int 1)) (eCall bLen (aCons (eVar 2) (aNil)))) (aNil)) oR1) (gN 9) (fTrue) (eCallP 4 p_column (aCons (eVar 0) (aCons (eVar 1) (aCons (eVar 2) (aCons (eVar 9) (aNil)))))) [9])) (gN 3))
    (sSeq2 (sAsg (eVal (lCall bLstD (aCons (eDc (sSeq (eVar 3)) (gN 10) (fTrue) (eVar 10) (eC (.bl true)) [10]) (aNil)))) (gN 4))
    (sSeq2 (sIf (fTest (eBin vGt (eCall bLen (aCons (eVar 4) (aNil))) (eC (.int 2)))) (sSeq2 (sRet (eC .non))
    (sNil)) (sNil))
    (sSeq2 (sAsg (eVal (lLc (fMap (aCons (eVar 1) (aNil)) oR1) (gN 11) (fTest (eBin (vIn true) (eVar 11) (eVar 2))) (eVar 11) [11])) (gN 5))
    (sSeq2 (sAsg (eCallP 2 p_table_from (aCons (eCall bLen (aCons (eVar 2) (aNil))) (aCons (eVal (lLc (fMap (aCons (eVar 3) (aNil)) oEnum) (gTp 2 (gsCons (gN 9) (gsCons (gN 10) (gsNil)))) (fTest (eBin vNe (eVar 10) (eBin vIx (eVar 3) (eC (.int 0))))) (eVar 9) [9, 10])) (aNil)))) (gN 6))
    (sSeq2 (sAsg (eVal (aDs (aCons (eCallP 3 p_squeezed (aCons (eBin vIx (eVar 4) (eC (.int 0))) (aCons (eVar 1) (aCons (eVar 5) (aNil))))) (aCons (eCallP 3 p_squeezed (aCons (eBin vIx (eVar 4) (eNeg (eC (.int 1)))) (aCons (eVar 1) (aCons (eVar 5) (aNil))))) (aNil))))) (gN 7))
    (sSeq2 (sAsg (eVal (lLc2 (fMap (aCons (eBin vShl (eC (.int 1)) (eCall bLen (aCons (eVar 5) (aNil)))) (aNil)) oR1) (gN 9) (fTrue) (sSeq (eTup (aCons (eC (.int 0)) (aCons (eC (.int 1)) (aNil))))) (gN 12) (fTest (eBin vEq (eCallP 2 p_digit (aCons (eBin vIx (eVar 7) (eVar 12)) (aCons (eVar 9) (aNil)))) (eC (.int 1)))) (eBin vAdd (eBin vMul (eC (.int 2)) (eVar 9)) (eVar 12)) [9, 12] [12])) (gN 8))
    (sSeq2 (sRet (eTup (aCons (eVar 6) (aCons (eCallP 2 p_table_from (aCons (eBin vAdd (eCall bLen (aCons (eVar 5) (aNil))) (eC (.int 1))) (aCons (eVar 8) (aNil)))) (aNil)))))
    (sNil))))))))
def S_parted (p_check_asked : List D → Option PR) (p_parts_of : List D → Option PR) : Fs :=
    sSeq2 (sExpr (eCallP 2 p_check_asked (aCons (eVar 0) (aCons (eVar 1) (aNil)))))
    (sSeq2 (sAsg (eCall (bBools fun bs => bs.all id) (aCons (eVal (lLc (fMap (aCons (eVar 2) (aCons (eSlT (eVar 2) (oSome (eC (.int 1))) (oNo)) (aNil))) oZip) (gTp 2 (gsCons (gN 4) (gsCons (gN 5) (gsNil)))) (fTrue) (eBin vLt (eVar 4) (eVar 5)) [4, 5])) (aNil))) (gN 3))
    (sSeq2 (sIf (fOr (fNot (fTru (eVar 3))) (fOr (fNot (fTest (eChain vLe vLt (eC (.int 2)) (eCall bLen (aCons (eVar 2) (aNil))) (eVar 1)))) (fNot (fTru (eCall (bBools fun bs => bs.all id) (aCons (eVal (lLc (sSeq (eVar 2)) (gN 6) (fTrue) (eChain vLe vLt (eC (.int 0)) (eVar 6) (eVar 1)) [6])) (aNil))))))) (sSeq2 (sNo)
    (sNil)) (sNil))
    (sSeq2 (sRet (eCallP 3 p_parts_of (aCons (eVar 0) (aCons (eVar 1) (aCons (eVar 2) (aNil))))))
    (sNil))))
def S__law_power : Fs :=
    sSeq2 (sAsg (eC (.int 1)) (gN 1))
    (sSeq2 (sFor (fMap (aCons (eVar 0) (aNil)) oR1) (gN 2) (sSeq2 (sAsg (eBin vMul (eVar 1) (eC (.int 2))) (gN 1))
    (sNil)))
    (sSeq2 (sRet (eVar 1))
    (sNil)))
def S__law_table (p__law_take : List RV → Sto → Option (RV × Sto)) (p__law_power : List D → Option PR) : Fs :=
    sSeq2 (sPar 2 3 (aCons (eC (.int 0)) (aCons (eCallS 2 p__law_take (aCons (eVar 0) (aCons (eC (.int 5)) (aNil)))) (aNil))))
    (sSeq2 (sFor (fMap (aCons (eCallP 1 p__law_power (aCons (eVar 1) (aNil))) (aNil)) oR1) (gN 4) (sSeq2 (sAsg (fIf (fTest (eBin vLt (eVar 3) (eC (.int 3)))) (eCallS 2 p__law_take (aCons (eVar 0) (aCons (eC (.int 2)) (aNil)))) (fIf (fTest (eBin vEq (eVar 3) (eC (.int 3)))) (eCall bInt (aCons (eBin vEq (eCallS 2 p__law_take (aCons (eVar 0) (aCons (eC (.int 5)) (aNil)))) (eC (.int 0))) (aNil))) (eCall bInt (aCons (eBin vGt (eCallS 2 p__law_take (aCons (eVar 0) (aCons (eC (.int 5)) (aNil)))) (eC (.int 0))) (aNil))))) (gN 5))
    (sSeq2 (sAsg (eBin vAdd (eBin vMul (eVar 2) (eC (.int 2))) (eVar 5)) (gN 2))
    (sNil))))
    (sSeq2 (sRet (eVar 2))
    (sNil)))
def S__law_digit (p__law_power : List D → Option PR) : Fs :=
    sSeq2 (sRet (eBin vMod (eCall bInt (aCons (eBin vDiv (eVar 0) (eCallP 1 p__law_power (aCons (eVar 1) (aNil)))) (aNil))) (eC (.int 2))))
    (sNil)
def S__law_bits (p__law_power : List D → Option PR) : Fs :=
    sSeq2 (sRet (eCall bTup (aCons (eVal (lLc (fMap (aCons (eVar 1) (aNil)) oR1) (gN 2) (fTrue) (eBin vMod (eCall bInt (aCons (eBin vDiv (eVar 0) (eCallP 1 p__law_power (aCons (eVar 2) (aNil)))) (aNil))) (eC (.int 2))) [2])) (aNil))))
    (sNil)
end Ev

namespace Ev
open PySem PySem.Spec PyProof.Rows L2 Tab

/-- what a def of data tells -/
abbrev Pf := List D → Option PR
abbrev nD (a : Nat) : D := .int (a : Int)
theorem pow_le {n m : Nat} (h : n ≤ m) : 2 ^ n ≤ 2 ^ m := Nat.pow_le_pow_right (by decide) h
theorem lim5 {n : Nat} (h : n ≤ 5) : 2 ^ n ≤ 32 := pow_le h
theorem tab64 {n t : Nat} (hn : n ≤ 5) (ht : t < 2 ^ 2 ^ n) : t < 2 ^ 64 := by
  have h1 : 2 ^ 2 ^ n ≤ 2 ^ 32 := pow_le (lim5 hn)
  have h2 : (2 : Nat) ^ 32 < 2 ^ 64 := by decide
  omega
theorem full_s {n : Nat} (hn : n ≤ 5) : runP 1 S_full [nD n] = some (.v (nD (full n))) := by
  show (S_full [some (.d (nD n))] []).bind finP = _
  unfold S_full nD
  have h1 := lim5 hn
  have h2 := Nat.two_pow_pos (2 ^ n)
  simp? only [shl_1 (show n ≤ 1000000 by omega), shl_1 (show 2 ^ n ≤ 1000000 by omega), sub_1 (show 1 ≤ 2 ^ 2 ^ n by omega)]
  rfl
theorem variable_s {n i : Nat} (hn : n ≤ 5) (hi : i < n) : runP 5 S_variable [nD n, nD i] = some (.v (nD (vr n i))) := by
  have key : ∀ n, n ≤ 5 → ∀ i, i < n → (runP 5 S_variable [nD n, nD i] = some (.v (nD (vr n i)))) := by
    intro n hn i hi
    have : (n = 1 ∧ i = 0) ∨ (n = 2 ∧ (i = 0 ∨ i = 1)) ∨ (n = 3 ∧ (i = 0 ∨ i = 1 ∨ i = 2)) ∨ (n = 4 ∧ (i = 0 ∨ i = 1 ∨ i = 2 ∨ i = 3)) ∨ (n = 5 ∧ (i = 0 ∨ i = 1 ∨ i = 2 ∨ i = 3 ∨ i = 4)) := by omega
    rcases this with ⟨rfl, rfl⟩ | ⟨rfl, rfl | rfl⟩ | ⟨rfl, rfl | rfl | rfl⟩ | ⟨rfl, rfl | rfl | rfl | rfl⟩ | ⟨rfl, rfl | rfl | rfl | rfl | rfl⟩ <;> kernel_rfl
  exact key n hn i hi
theorem digit_s {t p : Nat} : runP 2 S_digit [nD t, nD p] = some (.v (nD (t.testBit p).toNat)) := by
  show (S_digit [some (.d (nD t)), some (.d (nD p))] []).bind finP = _
  unfold S_digit nD
  simp? only [shr_n, and_1, shr_bit]
theorem eOnes_ {f : Fe RV} {ρ : Env'} {S : Sto} : eOnes f ρ S = (f ρ S).bind (mapK vOnes) := (rfl)
theorem ones_s {t : Nat} (h : t < Lim) : runP 1 S_ones [nD t] = some (.v (nD (pop t))) := by
  show (S_ones [some (.d (nD t))] []).bind finP = _
  unfold S_ones nD
  simp? only [eOnes_, vOnes_n h]
theorem oP4 {FP : Pf} {a b c d : D} : oP 4 FP [.d a, .d b, .d c, .d d] = FP [a, b, c, d] := (rfl)
section
variable {pv pf px pc pd po pp pr ps pt pco psq : Pf}
theorem fixed_s {n i b t : Nat} (hn : n ≤ 5) (hi : i < n) (ht : t < 2 ^ 2 ^ n) (hv : pv [nD n, nD i] = some (.v (nD (vr n i)))) (hf : pf [nD n] = some (.v (nD (full n)))) :
    runP 8 (S_fixed pv pf) [nD t, nD n, nD i, nD b] = some (.v (nD (fx n i b t))) := by
  show (S_fixed pv pf [some (.d (nD t)), some (.d (nD n)), some (.d (nD i)), some (.d (nD b)), none, none, none, none] []).bind finP = _
  unfold S_fixed fx
  unfold nD at *
  have h0 : 2 ^ i ≤ 32 := lim5 (by omega)
  have h1 : t &&& (full n ^^^ vr n i) < 2 ^ 64 := Nat.lt_of_le_of_lt Nat.and_le_left (tab64 hn ht)
  by_cases hb : b = 1
  · have hd : decide ((b : Int) = 1) = true := decide_eq_true (by omega)
    simp? only [hv, hf, shl_1 (show i ≤ 1000000 by omega), hd, and_n, or_n, shr_n]
    rw [if_pos hb]
  · have hd : decide ((b : Int) = 1) = false := decide_eq_false (by omega)
    simp? only [hv, hf, shl_1 (show i ≤ 1000000 by omega), hd, and_n, xor_n, shl_n h1 (show 2 ^ i ≤ 1000000 by omega), or_n]
    rw [if_neg hb]
def sup (n t : Nat) : List Nat := (List.range n).filter fun i => decide (fx n i 0 t ≠ fx n i 1 t)
theorem support_s {n t : Nat} (hn : n ≤ 5) (hx : ∀ i b, i < n → px [nD t, nD n, nD i, nD b] = some (.v (nD (fx n i b t)))) :
    runP 3 (S_support px) [nD t, nD n] = some (.v (.tup ((sup n t).map nD))) := by
  show (S_support px [some (.d (nD t)), some (.d (nD n)), none] []).bind finP = _
  unfold S_support
  have h := lLc_fm (src := fMap (aCons (eVar 1) (aNil)) oR1) (gg := gN 2) (t := fTest (eBin vNe (eCallP 4 px (aCons (eVar 0) (aCons (eVar 1) (aCons (eVar 2) (aCons (eC (.int 0)) (aNil)))))) (eCallP 4 px (aCons (eVar 0) (aCons (eVar 1) (aCons (eVar 2) (aCons (eC (.int 1)) (aNil)))))))) (f := eVar 2) (vs := [2])
    (ρ := [some (.d (nD t)), some (.d (nD n)), none]) (S := []) (S1 := []) nD nD (fun i => decide (fx n i 0 t ≠ fx n i 1 t)) (ps := List.range n)
    (by simp? only [oR1_n (show n < 2 ^ 62 by omega)]; rfl) (by rw [List.length_range]; unfold Lim; omega) (fun i hi => by
      have hi := List.mem_range.mp hi
      have e0 : px [nD t, nD n, nD i, .int 0] = _ := hx i 0 hi
      have e1 : px [nD t, nD n, nD i, .int 1] = _ := hx i 1 hi
      refine ⟨[some (.d (nD t)), some (.d (nD n)), some (.d (nD i))], rfl, ?_, fun _ => ?_⟩
      · simp? only [oP4, e0, e1]
        congr 2
        by_cases h : fx n i 0 t = fx n i 1 t
        · rw [h]; simp
        · rw [decide_eq_true h, decide_eq_false (by omega)]; rfl
      · simp? only [])
  dsimp? only [h]
  rfl
/-- the table that is 1 at some places, all of them below N -/
def plc (l : List Nat) : Nat := l.foldl (fun a p => a ||| 2 ^ p) 0
theorem plc_foldl (l : List Nat) : ∀ a, l.foldl (fun a p => a ||| 2 ^ p) a = a ||| plc l := by
  unfold plc
  induction l with
  | nil => intro a; simp
  | cons x l ih => intro a; rw [List.foldl_cons, ih, List.foldl_cons, ih (0 ||| 2 ^ x), Nat.zero_or, Nat.or_assoc]
theorem plc_bit (l : List Nat) (j : Nat) : (plc l).testBit j = decide (j ∈ l) := by
  induction l with
  | nil => simp [plc]
  | cons x l ih =>
    have : plc (x :: l) = 2 ^ x ||| plc l := by
      show l.foldl _ (0 ||| 2 ^ x) = _
      rw [plc_foldl, Nat.zero_or]
    rw [this, Nat.testBit_or, ih, Nat.testBit_two_pow, Bool.eq_iff_iff]
    simp only [Bool.or_eq_true, decide_eq_true_eq, List.mem_cons]
    constructor
    · rintro (h | h)
      · exact .inl h.symm
      · exact .inr h
    · rintro (h | h)
      · exact .inl h.symm
      · exact .inr h
theorem table_from_s {n : Nat} {l : List Nat} {S : Sto} (hn : n ≤ 5) (hl : ∀ p ∈ l, p < 2 ^ n) (hf : pf [nD n] = some (.v (nD (full n)))) :
    runP 4 (S_table_from pf) [nD n, .lst (l.map nD)] = some (.v (nD (tb (2 ^ n) fun j => decide (j ∈ l)))) := by
  show (S_table_from pf [some (.d (nD n)), some (.d (.lst (l.map nD))), none, none] []).bind finP = _
  unfold S_table_from
  obtain ⟨ρ', S', h1, x3, rfl, rfl⟩ := foGo_foldE (xs := l.map nD) (gg := gN 3) (F := sSeq2 (sAug 2 vOr (eBin vShl (eC (.int 1)) (eVar 3))) (sNil)) (e := nD)
    (fun a ρ S => ∃ x3, ρ = [some (.d (nD n)), some (.d (.lst (l.map nD))), some (.d (nD a)), x3] ∧ S = []) (fun a p => a ||| 2 ^ p) l (fun p hp a ρ S ⟨x3, e1, e2⟩ => by
      subst e1 e2
      have hp := hl p hp
      have := lim5 hn
      exact ⟨_, [some (.d (nD n)), some (.d (.lst (l.map nD))), some (.d (nD (a ||| 2 ^ p))), some (.d (nD p))], [], rfl, by
        show sSeq2 (sAug 2 vOr (eBin vShl (eC (.int 1)) (eVar 3))) sNil [some (.d (nD n)), some (.d (.lst (l.map nD))), some (.d (nD a)), some (.d (nD p))] [] = _
        unfold sAug
        simp? only [shl_1 (show p ≤ 1000000 by omega), or_n], some (.d (nD p)), rfl, rfl⟩) 0 [some (.d (nD n)), some (.d (.lst (l.map nD))), some (.d (.int 0)), none] [] ⟨none, rfl, rfl⟩
  simp? only [sFor_, h1, hf, and_n]
  congr 3
  show ((plc l &&& full n : Nat) : Int) = _
  congr 1
  refine Nat.eq_of_testBit_eq fun j => ?_
  rw [Nat.testBit_and, plc_bit, full_bit, tb_bit, Bool.and_comm]
theorem check_s {n t : Nat} (hn : n ≤ 5) (ht : t < 2 ^ 2 ^ n) (hf : pf [nD n] = some (.v (nD (full n)))) : runP 2 (S_check_asked pf) [nD t, nD n] = some (.v .non) := by
  show (S_check_asked pf [some (.d (nD t)), some (.d (nD n))] []).bind finP = _
  unfold S_check_asked
  have h1 : decide ((0 : Int) ≤ (n : Int)) = true := decide_eq_true (by omega)
  have h2 : decide ((n : Int) ≤ 5) = true := decide_eq_true (by omega)
  have h3 : decide ((0 : Int) ≤ (t : Int)) = true := decide_eq_true (by omega)
  have h4 : decide ((t : Int) ≤ ((full n : Nat) : Int)) = true := decide_eq_true (by have := le_full.mpr ht; omega)
  simp? only [h1, h2, h3, h4, hf]
end
section
variable {pv pf px pc pd po pp pr ps pt pco psq : Pf}
theorem eqv_ints : ∀ {a b : List Int}, PyData.eqvAll (D.pys (a.map D.int)) (D.pys (b.map D.int)) = decide (a = b)
  | [], [] => by simp [D.pys, PyData.eqvAll]
  | [], _ :: _ => by simp [D.pys, PyData.eqvAll]
  | _ :: _, [] => by simp [D.pys, PyData.eqvAll]
  | a :: as, b :: bs => by
    simp only [List.map_cons, D.pys, PyData.eqvAll, D.py, PyData.eqv, eqv_ints (a := as) (b := bs)]
    by_cases h : a = b <;> simp [h]
theorem eqv_lints {a b : List Int} : D.eqv (.lst (a.map D.int)) (.lst (b.map D.int)) = decide (a = b) := by
  simp only [D.eqv, D.py, PyData.eqv, eqv_ints]
theorem eqv_tints {a b : List Int} : D.eqv (.tup (a.map D.int)) (.tup (b.map D.int)) = decide (a = b) := by
  simp only [D.eqv, D.py, PyData.eqv, eqv_ints]
theorem ok_tints {is : List Int} : D.ok (.tup (is.map D.int)) = true := ok_of (n := 1) (by simp [D.okN])
theorem nD_map {l : List Nat} : l.map nD = (l.map fun (i : Nat) => (i : Int)).map D.int := by rw [List.map_map]; rfl
theorem nats_ints {n : Nat} : nats n = ((List.range n).map fun (i : Nat) => (i : Int)).map D.int := nD_map
/-! ### changes -/
/-- where a place of the changed table comes from -/
def src (o : List Nat) (w n p : Nat) : Nat := (((List.range n).filter fun i => (p ^^^ w).testBit i).map fun i => 2 ^ (o.getD i 0)).sum
theorem cast_sum (l : List Nat) : (l.map fun (i : Nat) => (i : Int)).sum = ((l.sum : Nat) : Int) := by
  induction l with
  | nil => rfl
  | cons a l ih => simp [ih]
theorem bne_toNat {p : Bool} : (((p.toNat : Nat) : Int) != 0) = p := by cases p <;> rfl
theorem sum_n {l : List Nat} {S : Sto} : bInts List.sum [.d (.lst (l.map nD))] S = some (.d (nD l.sum)) := by
  rw [nD_map, bInts_l, cast_sum]
theorem sum_map {α : Type} {l : List α} {f : α → Nat} {S : Sto} : bInts List.sum [.d (.lst (l.map fun i => nD (f i)))] S = some (.d (nD (l.map f).sum)) := by
  have := sum_n (l := l.map f) (S := S)
  rw [List.map_map] at this
  exact this
theorem atI_n {l : List Nat} {i : Nat} (h : i < l.length) : atI (l.map nD) (i : Int) = some (nD (l.getD i 0)) := by
  rw [atI_nat (Int.natCast_nonneg i), Int.toNat_natCast, List.getElem?_map, List.getElem?_eq_getElem h, List.getD_eq_getElem?_getD, List.getElem?_eq_getElem h]
  rfl
theorem gTp3 {gs : List D → Env' → Option Env'} {x y z : D} {ρ : Env'} : gTp 3 gs (.d (.tup [x, y, z])) ρ = gs [x, y, z] ρ := (rfl)
theorem gTp2' {gs : List D → Env' → Option Env'} {x y : D} {ρ : Env'} : gTp 2 gs (.d (.tup [x, y])) ρ = gs [x, y] ρ := (rfl)
theorem source_s {o : List Nat} {w n p fl : Nat} (hn : n ≤ 5) (ho : o.length = n) (hb : ∀ i ∈ o, i ≤ 1000) : runP 8 S_source [nD p, .tup [.tup (o.map nD), nD w, nD fl], nD n] = some (.v (nD (src o w n p))) := by
  show (S_source [some (.d (nD p)), some (.d (.tup [.tup (o.map nD), nD w, nD fl])), some (.d (nD n)), none, none, none, none, none] []).bind finP = _
  unfold S_source
  dsimp? only [gTp3, xor_n, Option.bind_assoc]
  refine lc_bind (ps := List.range n) nD (fun i => nD (2 ^ (o.getD i 0))) (fun i => (p ^^^ w).testBit i) (S1 := []) (by simp? only [oR1_n (show n < 2 ^ 62 by omega)]; rfl) (by rw [List.length_range]; unfold Lim; omega) (fun i hi => ?_) ?_
  · have hi : i < o.length := by rw [ho]; exact List.mem_range.mp hi
    have hb2 : o.getD i 0 ≤ 1000 := hb _ (by rw [List.getD_eq_getElem?_getD, List.getElem?_eq_getElem hi]; exact List.getElem_mem hi)
    exact ⟨_, rfl, by
      simp? only [shr_n, and_1, shr_bit, bne_toNat], fun _ => by
      simp? only [atI_n hi, shl_1 (show o.getD i 0 ≤ 1000000 by omega)]⟩
  · dsimp? only [sum_map]
    rfl
def chg (o : List Nat) (w fl n t : Nat) : Nat := tb (2 ^ n) fun p => t.testBit (src o w n p) != decide (fl = 1)
theorem chg_lt {o : List Nat} {w fl n t : Nat} : chg o w fl n t < 2 ^ 2 ^ n := tb_lt _ _
theorem tb_filter {N : Nat} {p : Nat → Bool} : (tb N fun j => decide (j ∈ (List.range N).filter p)) = tb N p := tb_congr fun j hj => by
  rw [Bool.eq_iff_iff, decide_eq_true_eq, List.mem_filter, List.mem_range]
  exact ⟨fun h => h.2, fun h => ⟨hj, h⟩⟩
theorem change_of_s {o : List Nat} {w fl n t : Nat} (hn : n ≤ 5) (hfl : fl ≤ 1) (hd : ∀ t p, pd [nD t, nD p] = some (.v (nD (t.testBit p).toNat))) (hs : ∀ p, ps [nD p, .tup [.tup (o.map nD), nD w, nD fl], nD n] = some (.v (nD (src o w n p))))
    (ht : ∀ l : List Nat, (∀ p ∈ l, p < 2 ^ n) → pt [nD n, .lst (l.map nD)] = some (.v (nD (tb (2 ^ n) fun j => decide (j ∈ l))))) :
    runP 5 (S_change_of pd ps pt) [nD t, nD n, .tup [.tup (o.map nD), nD w, nD fl]] = some (.v (nD (chg o w fl n t))) := by
  show (S_change_of pd ps pt [some (.d (nD t)), some (.d (nD n)), some (.d (.tup [.tup (o.map nD), nD w, nD fl])), none, none] []).bind finP = _
  unfold S_change_of
  have h5 := lim5 hn
  dsimp? only [Option.bind_assoc]
  refine lc_bind (ps := List.range (2 ^ n)) nD nD (fun p => t.testBit (src o w n p) != decide (fl = 1)) (S1 := []) (by simp? only [shl_1 (show n ≤ 1000000 by omega), oR1_n (show 2 ^ n < 2 ^ 62 by omega)]; rfl) (by rw [List.length_range]; unfold Lim; omega) (fun p hp => ?_) ?_
  · refine ⟨_, rfl, ?_, fun _ => by simp? only []⟩
    simp? only [hs, hd]
    congr 2
    have : fl = 0 ∨ fl = 1 := by omega
    rcases this with rfl | rfl <;> cases t.testBit (src o w n p) <;> rfl
  · have h := ht ((List.range (2 ^ n)).filter fun p => t.testBit (src o w n p) != decide (fl = 1)) fun p hp => List.mem_range.mp (List.mem_filter.mp hp).1
    rw [tb_filter] at h
    dsimp? only [h]
    rfl
theorem changed_s {o : List Nat} {w fl n t : Nat} (hn : n ≤ 5) (hfl : fl ≤ 1) (hw : w < 2 ^ n) (ho : srtI (o.map fun (i : Nat) => (i : Int)) = (List.range n).map fun (i : Nat) => (i : Int)) (hol : o.length = n) (hc : pc [nD t, nD n] = some (.v .non))
    (hg : pco [nD t, nD n, .tup [.tup (o.map nD), nD w, nD fl]] = some (.v (nD (chg o w fl n t)))) :
    runP 6 (S_changed pc pco) [nD t, nD n, .tup [.tup (o.map nD), nD w, nD fl]] = some (.v (nD (chg o w fl n t))) := by
  show (S_changed pc pco [some (.d (nD t)), some (.d (nD n)), some (.d (.tup [.tup (o.map nD), nD w, nD fl])), none, none, none] []).bind finP = _
  unfold S_changed
  have h5 := lim5 hn
  have e1 : bSrtQ [.d (.tup (o.map nD))] [] = some (nats n) := by
    unfold bSrtQ intsQ
    simp only [lookQ_t, Option.bind_some]
    rw [nD_map, intsOf_map, Option.bind_some, if_pos (by rw [List.length_map, hol]; unfold Lim; omega), ho, nats_ints]
  have e2 : ∀ (a : Option RV) (ρ : Env'), lRg (fRg1 (eVar 1)) (a :: some (.d (.int (n : Int))) :: ρ) [] = some (nats n, []) := fun a ρ => lRg_n rfl (by omega)
  have e3 : vNe (.d (.lst (nats n))) (.d (.lst (nats n))) [] = some (.d (.bl false)) := by
    rw [nats_ints, vNe_ ok_ints ok_ints, eqv_lints]
    simp
  have h1 : decide ((0 : Int) ≤ (w : Int)) = true := decide_eq_true (by omega)
  have h2 : decide ((w : Int) < ((2 ^ n : Nat) : Int)) = true := decide_eq_true (by omega)
  have e4 : vIn true (.d (nD fl)) (.d (.tup [.int 0, .int 1])) [] = some (.d (.bl false)) := by
    have : fl = 0 ∨ fl = 1 := by omega
    rcases this with rfl | rfl <;> kernel_rfl
  dsimp? only [hc, gTp3, e1, e2, e3, h1, h2, shl_1 (show n ≤ 1000000 by omega), List.length_cons, List.length_nil, Nat.zero_add, Nat.reduceAdd, if_pos (show 2 ≤ Lim by unfold Lim; decide), e4, hg, nD]
/-! ### powers, degrees -/
theorem powers_s {n t : Nat} (hn : n ≤ 5) (ht : t < 2 ^ 2 ^ n) (hc : pc [nD t, nD n] = some (.v .non)) (hx : ∀ t i b, t < 2 ^ 2 ^ n → i < n → px [nD t, nD n, nD i, nD b] = some (.v (nD (fx n i b t)))) (hv : ∀ i, i < n → pv [nD n, nD i] = some (.v (nD (vr n i)))) (hf : pf [nD n] = some (.v (nD (full n)))) :
    runP 7 (S_powers pc px pv pf) [nD t, nD n] = some (.v (nD (pw n t))) := by
  show (S_powers pc px pv pf [some (.d (nD t)), some (.d (nD n)), none, none, none, none, none] []).bind finP = _
  unfold S_powers
  dsimp? only [hc, sFor_, oR1_n (show n < 2 ^ 62 by omega), Option.bind_assoc]
  refine for_bind (e := nD) (ds := List.range n) (a := t) (fun a ρ S => a < 2 ^ 2 ^ n ∧ S = [] ∧ ∃ x3 x4 x5 x6, ρ = [some (.d (nD t)), some (.d (nD n)), some (.d (nD a)), x3, x4, x5, x6]) (fun a i => Tab.ps n i a) ⟨ht, rfl, _, _, _, _, rfl⟩ (fun i hi a ρ S ⟨ha, e1, x3, x4, x5, x6, e2⟩ => ?_) fun ρ' S' ⟨ha, e1, x3, x4, x5, x6, e2⟩ => ?_
  · subst e1 e2
    have hi := List.mem_range.mp hi
    have e0 : px [nD a, nD n, nD i, .int 0] = _ := hx a i 0 ha hi
    have e1 : px [nD a, nD n, nD i, .int 1] = _ := hx a i 1 ha hi
    exact ⟨_, _, _, rfl, by
      dsimp? only [oP4, e0, e1, hv i hi, hf, and_n, or_n, xor_n]
      rfl, ps_lt hi, rfl, _, _, _, _, rfl⟩
  · subst e1 e2
    dsimp? only []
    rfl
def deg (n t : Nat) : Int := (maxI (((List.range (2 ^ n)).filter fun p => (pw n t).testBit p).map fun p => ((pop p : Nat) : Int))).getD (-1)
theorem eMaxDf_ {h : Fe (List RV)} {g : Fe RV} {ρ : Env'} {S S1 S2 : Sto} {rs : List RV} {d : Int} {ns : List Int} (h1 : h ρ S = some (rs, S1)) (h2 : g ρ S1 = some (.d (.int d), S2)) (h3 : intsQ rs S2 = some ns) : eMaxDf h g ρ S = some (.d (.int ((maxI ns).getD d)), S2) := by
  unfold eMaxDf fBind
  rw [h1, Option.bind_some]
  show fMap g _ ρ S1 = _
  rw [fMap_, h2, Option.bind_some, mapK_]
  simp only [h3]
  rfl
theorem eNeg_ {f : Fe RV} {ρ : Env'} {S S1 : Sto} {i : Int} (h : f ρ S = some (.d (.int i), S1)) : eNeg f ρ S = some (.d (.int (-i)), S1) := by
  unfold eNeg
  rw [fMap_, h, Option.bind_some, mapK_]
  rfl
theorem degree_s {n t : Nat} (hn : n ≤ 4) (hp : pp [nD t, nD n] = some (.v (nD (pw n t)))) (hd : ∀ t p, pd [nD t, nD p] = some (.v (nD (t.testBit p).toNat))) (ho : ∀ t, t < 2 ^ 16 → po [nD t] = some (.v (nD (pop t)))) :
    runP 4 (S_degree pp pd po) [nD t, nD n] = some (.v (.int (deg n t))) := by
  show (S_degree pp pd po [some (.d (nD t)), some (.d (nD n)), none, none] []).bind finP = _
  unfold S_degree
  have h5 := lim5 (n := n) (by omega)
  have h6 : 2 ^ n ≤ 16 := pow_le (m := 4) hn
  have key : aCons (eVal (lLc (fMap (aCons (eBin vShl (eC (.int 1)) (eVar 1)) (aNil)) oR1) (gN 3) (fTest (eBin vEq (eCallP 2 pd (aCons (eVar 2) (aCons (eVar 3) (aNil)))) (eC (.int 1)))) (eCallP 1 po (aCons (eVar 3) (aNil))) [3])) (aNil)
      [some (.d (nD t)), some (.d (nD n)), some (.d (nD (pw n t))), none] [] = some ([.d (.lst (((List.range (2 ^ n)).filter fun p => (pw n t).testBit p).map fun p => nD (pop p)))], []) := by
    dsimp? only [Option.bind_assoc]
    refine lc_bind (ps := List.range (2 ^ n)) nD (fun p => nD (pop p)) (fun p => (pw n t).testBit p) (S1 := []) (by simp? only [shl_1 (show n ≤ 1000000 by omega), oR1_n (show 2 ^ n < 2 ^ 62 by omega)]; rfl) (by rw [List.length_range]; unfold Lim; omega) (fun p hp => ?_) ?_
    · have hp := List.mem_range.mp hp
      exact ⟨_, rfl, by simp? only [hd, dec_toNat], fun _ => by simp? only [ho p (by omega)]⟩
    · dsimp? only []
  have e2 := eMaxDf_ (g := eNeg (eC (.int 1))) (d := -1) (ns := ((List.range (2 ^ n)).filter fun p => (pw n t).testBit p).map fun p => ((pop p : Nat) : Int)) key rfl (by
    unfold intsQ
    simp only [lookQ_l, Option.bind_some]
    rw [ints_of (g := fun p => ((pop p : Nat) : Int)), intsOf_map])
  dsimp? only [hp, e2]
  rfl
end
end Ev

namespace Ev
open PySem PySem.Spec PyProof.Rows L2 Tab
section
variable {pv pf px pc pd po pp pr ps pt pco psq pn : Pf}
/-! ### polarities -/
def bpS (n t : Nat) (acc : Option (Nat × Nat × Nat)) (w : Nat) : Option (Nat × Nat × Nat) :=
  match acc with
  | none => some (pop (pw n (chg (List.range n) w 0 n t)), w, pw n (chg (List.range n) w 0 n t))
  | some q => if pop (pw n (chg (List.range n) w 0 n t)) < q.1 then some (pop (pw n (chg (List.range n) w 0 n t)), w, pw n (chg (List.range n) w 0 n t)) else some q
def bpD : Option (Nat × Nat × Nat) → D
  | none => .non
  | some q => .tup [nD q.1, nD q.2.1, nD q.2.2]
def bp (n t : Nat) : Option (Nat × Nat × Nat) := (List.range (2 ^ n)).foldl (bpS n t) none
theorem three_le : 3 ≤ Lim := by unfold Lim; decide
theorem two_le : 2 ≤ Lim := by unfold Lim; decide
theorem best_s {n t : Nat} (hn : n ≤ 4) (hc : pc [nD t, nD n] = some (.v .non)) (hg : ∀ w, w < 2 ^ n → pco [nD t, nD n, .tup [.tup (nats n), nD w, .int 0]] = some (.v (nD (chg (List.range n) w 0 n t))))
    (hp : ∀ t, t < 2 ^ 2 ^ n → pp [nD t, nD n] = some (.v (nD (pw n t)))) (ho : ∀ t, t < 2 ^ 16 → po [nD t] = some (.v (nD (pop t)))) {q : Nat × Nat × Nat} (hq : bp n t = some q) :
    runP 6 (S_best_polarity pc pp pco po) [nD t, nD n] = some (.v (.tup [nD q.2.1, nD q.2.2])) := by
  show (S_best_polarity pc pp pco po [some (.d (nD t)), some (.d (nD n)), none, none, none, none] []).bind finP = _
  unfold S_best_polarity
  have h5 := lim5 (n := n) (by omega)
  have h6 : 2 ^ 2 ^ n ≤ 2 ^ 16 := pow_le (pow_le (m := 4) hn)
  have e1 : ∀ (a : Option RV) (ρ : Env'), eRgT (fRg1 (eVar 1)) (a :: some (.d (.int (n : Int))) :: ρ) [] = some (.d (.tup (nats n)), []) := fun a ρ => eRgT_n rfl (by omega)
  dsimp? only [hc, e1, sFor_, shl_1 (show n ≤ 1000000 by omega), oR1_n (show 2 ^ n < 2 ^ 62 by omega), Option.bind_assoc]
  refine for_bind (e := nD) (ds := List.range (2 ^ n)) (a := (none : Option (Nat × Nat × Nat))) (fun acc ρ S => S = [] ∧ ∃ x4 x5, ρ = [some (.d (nD t)), some (.d (nD n)), some (.d (.tup (nats n))), some (.d (bpD acc)), x4, x5]) (bpS n t) ⟨rfl, none, none, rfl⟩ (fun w hw acc ρ S ⟨e1, x4, x5, e2⟩ => ?_) fun ρ' S' ⟨e1, x4, x5, e2⟩ => ?_
  · subst e1 e2
    have hw := List.mem_range.mp hw
    have l1 := hg w hw
    have l2 := hp _ (chg_lt (o := List.range n) (w := w) (fl := 0) (n := n) (t := t))
    have l3 := ho (pw n (chg (List.range n) w 0 n t)) (by have := pw_lt (chg_lt (o := List.range n) (w := w) (fl := 0) (n := n) (t := t)); omega)
    cases acc with
    | none =>
      exact ⟨_, _, _, rfl, by
        dsimp? only [bpD, oP3, List.length_cons, List.length_nil, Nat.zero_add, Nat.reduceAdd, if_pos three_le, l1, l2, l3]
        rfl, rfl, _, _, rfl⟩
    | some q =>
      by_cases hlt : pop (pw n (chg (List.range n) w 0 n t)) < q.1
      · have hd : decide (((pop (pw n (chg (List.range n) w 0 n t)) : Nat) : Int) < ((q.1 : Nat) : Int)) = true := decide_eq_true (by omega)
        refine ⟨_, [some (.d (nD t)), some (.d (nD n)), some (.d (.tup (nats n))), some (.d (bpD (bpS n t (some q) w))), some (.d (nD w)), some (.d (nD (pw n (chg (List.range n) w 0 n t))))], _, rfl, ?_, rfl, _, _, rfl⟩
        unfold bpS
        simp only [if_pos hlt]
        dsimp? only [bpD, oP3, List.length_cons, List.length_nil, Nat.zero_add, Nat.reduceAdd, if_pos three_le, l1, l2, l3, hd]
      · have hd : decide (((pop (pw n (chg (List.range n) w 0 n t)) : Nat) : Int) < ((q.1 : Nat) : Int)) = false := decide_eq_false (by omega)
        refine ⟨_, [some (.d (nD t)), some (.d (nD n)), some (.d (.tup (nats n))), some (.d (bpD (bpS n t (some q) w))), some (.d (nD w)), some (.d (nD (pw n (chg (List.range n) w 0 n t))))], _, rfl, ?_, rfl, _, _, rfl⟩
        unfold bpS
        simp only [if_neg hlt]
        dsimp? only [bpD, oP3, List.length_cons, List.length_nil, Nat.zero_add, Nat.reduceAdd, if_pos three_le, l1, l2, l3, hd]
  · subst e1 e2
    rw [show (List.range (2 ^ n)).foldl (bpS n t) none = some q from hq]
    dsimp? only [bpD, List.length_cons, List.length_nil, Nat.zero_add, Nat.reduceAdd, if_pos two_le]
/-! ### nearness -/
def bf (N i : Nat) (L : List Int) : List Int := (List.range N).map fun p => if p.testBit i then L.getD (p ^^^ 2 ^ i) 0 - L.getD p 0 else L.getD p 0 + L.getD (p ^^^ 2 ^ i) 0
def nr0 (n t : Nat) : List Int := (List.range (2 ^ n)).map fun p => if t.testBit p then -1 else 1
def nr (n t : Nat) : List Int := (List.range n).foldl (fun L i => bf (2 ^ n) i L) (nr0 n t)
theorem bf_len {N i : Nat} {L : List Int} : (bf N i L).length = N := by simp [bf]
theorem foldl_set {f : Nat → Int} : ∀ (N : Nat) (l : List Int), N ≤ l.length → (List.range N).foldl (fun l p => l.set p (f p)) l = (List.range N).map f ++ l.drop N
  | 0, l, _ => by simp
  | N + 1, l, h => by
    rw [List.range_succ, List.foldl_append, foldl_set N l (by omega), List.map_append, List.append_assoc]
    have hN : N < l.length := by omega
    rw [List.drop_eq_getElem_cons hN]
    show (List.map f (List.range N) ++ l[N] :: List.drop (N + 1) l).set N (f N) = _
    rw [List.set_append]
    simp
    rw [List.drop_eq_getElem_cons hN]
    rfl
theorem xor_lt {n i p : Nat} (hi : i < n) (hp : p < 2 ^ n) : p ^^^ 2 ^ i < 2 ^ n := Nat.xor_lt_two_pow hp (Nat.pow_lt_pow_right (by decide) hi)
theorem and_pow {p i : Nat} : (((p &&& 2 ^ i : Nat) : Int) != 0) = p.testBit i := by
  have : (p &&& 2 ^ i = 0) ↔ p.testBit i = false := by
    constructor
    · intro h
      have := congrArg (fun x => x.testBit i) h
      simpa [Nat.testBit_two_pow] using this
    · intro h
      refine Nat.eq_of_testBit_eq fun j => ?_
      rw [Nat.testBit_and, Nat.testBit_two_pow, Nat.zero_testBit]
      by_cases e : i = j
      · subst e; rw [h]; rfl
      · simp [e]
  cases h : p.testBit i
  · rw [this.mpr h]; rfl
  · have : p &&& 2 ^ i ≠ 0 := fun z => by rw [this.mp z] at h; cases h
    simp [this]
theorem atI_L {L : List Int} {i : Nat} (h : i < L.length) : atI (L.map D.int) (i : Int) = some (.int (L.getD i 0)) := by
  rw [atI_nat (Int.natCast_nonneg i), Int.toNat_natCast, List.getElem?_map, List.getElem?_eq_getElem h, List.getD_eq_getElem?_getD, List.getElem?_eq_getElem h]
  rfl
theorem ixN_n {N p : Nat} (h : p < N) : ixN N (p : Int) = some p := by
  unfold ixN
  rw [if_pos (Int.natCast_nonneg p), if_pos (by omega), Int.toNat_natCast]
theorem vIx_look {r : RV} {S : Sto} {ds : List D} {I : Int} (h : lookQ r S = some ds) : vIx r (.d (.int I)) S = (atI ds I).map RV.d := by
  unfold vIx
  simp only [h]
theorem lookQ_om {m : Nat} {S : Sto} {ds : List D} : lookQ (.o m) S = some ds ↔ S[m]? = some (.lst ds) := by
  unfold lookQ lookL
  cases h : S[m]? with
  | none => simp [h, lookT]
  | some o => cases o <;> simp [h, lookT]
theorem lookQ_d {x : D} {S T : Sto} : lookQ (.d x) S = lookQ (.d x) T := by cases x <;> rfl
theorem lookQ_set {r : RV} {S : Sto} {ds : List D} {k : Nat} {o : Ob} (h : lookQ r S = some ds) (hr : r ≠ .o k) : lookQ r (S.set k o) = some ds := by
  cases r with
  | d x => rw [← h]; exact lookQ_d
  | t n => exact h
  | fn f => exact h
  | o m =>
    have : m ≠ k := fun z => hr (by rw [z])
    rw [lookQ_om] at h ⊢
    rw [List.getElem?_set_ne (Ne.symm this)]
    exact h
theorem lookQ_lt {m : Nat} {S : Sto} {ds : List D} (h : lookQ (.o m) S = some ds) : m < S.length := (List.getElem?_eq_some_iff.mp (lookQ_om.mp h)).1
theorem lookQ_app {r : RV} {S T : Sto} {ds : List D} (h : lookQ r S = some ds) : lookQ r (S ++ T) = some ds := by
  cases r with
  | d x => rw [← h]; exact lookQ_d
  | t n => exact h
  | fn f => exact h
  | o m =>
    have := lookQ_lt h
    rw [lookQ_om] at h ⊢
    rw [List.getElem?_append_left this]; exact h
theorem bTup_look {r : RV} {S : Sto} {ds : List D} (h : lookQ r S = some ds) : bTup [r] S = some (.d (.tup ds)) := by
  unfold bTup
  simp only [h]
  rfl
theorem bLst_look {r : RV} {S : Sto} {ds : List D} (h : lookQ r S = some ds) (hl : ds.length ≤ Lim) : bLst [r] S = some ds := by
  unfold bLst
  simp only [h]
  rw [if_pos hl]
theorem nearness_s {n t : Nat} (hn : n ≤ 5) (hc : pc [nD t, nD n] = some (.v .non)) (hd : ∀ t p, pd [nD t, nD p] = some (.v (nD (t.testBit p).toNat))) :
    runP 7 (S_nearness pc pd) [nD t, nD n] = some (.v (.tup ((nr n t).map D.int))) := by
  show (S_nearness pc pd [some (.d (nD t)), some (.d (nD n)), none, none, none, none, none] []).bind finP = _
  unfold S_nearness
  have h5 := lim5 hn
  have h1 := shl_1 (S := []) (show n ≤ 1000000 by omega)
  dsimp? only [hc, Option.bind_assoc]
  refine wp_eq (wp_lcm (ps := List.range (2 ^ n)) nD (fun p => .int (if t.testBit p then -1 else 1)) (S1 := []) (by simp? only [h1, oR1_n (show 2 ^ n < 2 ^ 62 by omega)]; rfl) (by rw [List.length_range]; unfold Lim; omega) (fun p hp => ?_) ?_)
  · have e := eNeg_ (f := eC (.int 1)) (ρ := [some (.d (nD t)), some (.d (nD n)), none, none, none, none, some (.d (nD p))]) (S := []) (S1 := []) (i := 1) rfl
    cases hb : t.testBit p
    · simp? only [hd, dec_toNat, hb]
      exact wp_some ⟨rfl, rfl⟩
    · simp? only [hd, dec_toNat, hb, e]
      exact wp_some ⟨rfl, rfl⟩
  · have e0 : (List.range (2 ^ n)).map (fun p => D.int (if t.testBit p then -1 else 1)) = (nr0 n t).map D.int := by unfold nr0; rw [List.map_map]; rfl
    dsimp? only [e0, sFor_, oR1_n (show n < 2 ^ 62 by omega), Option.bind_assoc]
    refine wp_for (e := nD) (ds := List.range n) (a := nr0 n t) (fun L ρ S => L.length = 2 ^ n ∧ ∃ r x3 x4 x5 x6, lookQ r S = some (L.map D.int) ∧ ρ = [some (.d (nD t)), some (.d (nD n)), some r, x3, x4, x5, x6]) (fun L i => bf (2 ^ n) i L) ⟨by simp [nr0], _, _, _, _, _, rfl, rfl⟩ (fun i hi L ρ S ⟨hl, r, x3, x4, x5, x6, hr, e2⟩ => ?_) fun ρ' S' ⟨hl, r, x3, x4, x5, x6, hr, e2⟩ => ?_
    · subst e2
      have hi := List.mem_range.mp hi
      have hLim : (L.map D.int).length ≤ Lim := by rw [List.length_map, hl]; unfold Lim; omega
      dsimp? only [sFor_, shl_1 (show i ≤ 1000000 by omega), shl_1 (show n ≤ 1000000 by omega), oR1_n (show 2 ^ n < 2 ^ 62 by omega), bLst_look hr hLim, Option.bind_assoc]
      refine wp_for (e := nD) (ds := List.range (2 ^ n)) (a := L) (fun M ρ T => M.length = 2 ^ n ∧ ∃ x6, lookQ r T = some (L.map D.int) ∧ r ≠ .o S.length ∧ T = S ++ [.lst (M.map D.int)] ∧ ρ = [some (.d (nD t)), some (.d (nD n)), some r, some (.d (nD i)), some (.d (nD (2 ^ i))), some (.o S.length), x6])
        (fun M p => M.set p (if p.testBit i then L.getD (p ^^^ 2 ^ i) 0 - L.getD p 0 else L.getD p 0 + L.getD (p ^^^ 2 ^ i) 0)) ⟨hl, _, lookQ_app hr, fun z => by rw [z] at hr; exact absurd (lookQ_lt hr) (Nat.lt_irrefl _), rfl, rfl⟩ (fun p hp M ρ T ⟨hM, x6, hr2, hne, e3, e4⟩ => ?_) fun ρ' S' ⟨hM, x6, hr2, hne, e3, e4⟩ => ?_
      · subst e3 e4
        have hp := List.mem_range.mp hp
        have hx := xor_lt hi hp
        have hS : (S ++ [Ob.lst (M.map D.int)])[S.length]? = some (.lst (M.map D.int)) := by simp
        have hset : ∀ o, (S ++ [Ob.lst (M.map D.int)]).set S.length o = S ++ [o] := fun o => by simp
        have a1 := atI_L (L := L) (i := p) (by omega)
        have a2 := atI_L (L := L) (i := p ^^^ 2 ^ i) (by omega)
        have hix : ixN (M.map D.int).length (p : Int) = some p := ixN_n (by rw [List.length_map]; omega)
        cases hb : p.testBit i
        · dsimp? only [and_n, and_pow, hb, xor_n, vIx_look hr2, a1, a2, sSubL_, subJ_, subK_, subL_ hS hix, hset]
          exact wp_some ⟨.inl rfl, by rw [List.length_set]; exact hM, some (.d (nD p)), lookQ_app hr, hne, by rw [List.map_set], rfl⟩
        · dsimp? only [and_n, and_pow, hb, xor_n, vIx_look hr2, a1, a2, sSubL_, subJ_, subK_, subL_ hS hix, hset]
          exact wp_some ⟨.inl rfl, by rw [List.length_set]; exact hM, some (.d (nD p)), lookQ_app hr, hne, by rw [List.map_set], rfl⟩
      · subst e3 e4
        dsimp? only []
        refine wp_some ⟨.inl rfl, bf_len, _, _, _, _, _, ?_, rfl⟩
        have e : (List.range (2 ^ n)).foldl (fun M p => M.set p (if p.testBit i then L.getD (p ^^^ 2 ^ i) 0 - L.getD p 0 else L.getD p 0 + L.getD (p ^^^ 2 ^ i) 0)) L = bf (2 ^ n) i L := by
          rw [foldl_set _ _ (by omega), List.drop_of_length_le (by omega), List.append_nil]
          rfl
        rw [e, lookQ_om]
        simp
    · subst e2
      dsimp? only [bTup_look hr]
      exact wp_some rfl
end
end Ev

namespace Ev
open PySem PySem.Spec PyProof.Rows L2 Tab
/-! ### two fors, dict displays: their values -/
section
variable {ρ : Env'} {S S1 : Sto}
theorem lc2In_ok {β : Type} {n0 : Nat} {xs : List D} {g1 : Gt} {t1 : Fe Bool} {f : Fe RV} {ρ1 : Env'} (hn : S1.length = n0) (e1 g : β → D) (c : β → Bool) : ∀ (qs : List β) (L : List D),
    (∀ r ∈ qs, ∀ L, ∃ ρ2, g1 (.d (e1 r)) ρ1 = some ρ2 ∧ t1 ρ2 (S1 ++ [.lst L]) = some (c r, S1 ++ [.lst L]) ∧ (c r = true → f ρ2 (S1 ++ [.lst L]) = some (.d (g r), S1 ++ [.lst L]))) → L.length + ((qs.filter c).map g).length ≤ Lim →
    lc2In n0 ⟨xs, none⟩ g1 t1 f ρ1 (qs.map e1) (S1 ++ [.lst L]) = some (S1 ++ [.lst (L ++ (qs.filter c).map g)])
  | [], L, _, _ => by
    unfold lc2In
    rw [List.map_nil]
    simp only [List.filter_nil, List.map_nil, List.append_nil]
    exact if_pos rfl
  | r :: qs, L, h, hl => by
    obtain ⟨ρ2, h1, h2, h3⟩ := h r List.mem_cons_self L
    have hset : ∀ o, (S1 ++ [Ob.lst L]).set n0 o = S1 ++ [o] := fun o => by rw [← hn]; simp
    have hat : (S1 ++ [Ob.lst L])[n0]? = some (.lst L) := by rw [← hn]; simp
    unfold lc2In
    rw [List.map_cons]
    simp only
    rw [if_pos (show (⟨xs, none⟩ : Src).ok _ = true from rfl), h1, Option.bind_some, h2, Option.bind_some]
    cases hc : c r
    · simp only [Bool.false_eq_true, if_false]
      rw [lc2In_ok hn e1 g c qs L (fun x hx => h x (List.mem_cons_of_mem _ hx)) (by rw [List.filter_cons_of_neg (by rw [hc]; exact Bool.false_ne_true)] at hl; exact hl), List.filter_cons_of_neg (by rw [hc]; exact Bool.false_ne_true)]
    · rw [List.filter_cons_of_pos hc, List.map_cons] at hl ⊢
      simp only [if_true, List.length_cons] at hl ⊢
      rw [h3 hc, Option.bind_some]
      simp only [hat]
      rw [if_pos (by omega), hset, lc2In_ok hn e1 g c qs (L ++ [g r]) (fun x hx => h x (List.mem_cons_of_mem _ hx)) (by rw [List.length_append, List.length_singleton]; omega), List.append_assoc]
      rfl
theorem lc2Go_ok {α β : Type} {n0 : Nat} {xs : List D} {gg g1 : Gt} {src1 : Fe Src} {t1 : Fe Bool} {f : Fe RV} {vs1 : List Nat} {ρ0 : Env'} (hn : S1.length = n0) (e : α → D) (qs : α → List β) (e1 : β → D) (c : α → β → Bool) (g : α → β → D) : ∀ (ps : List α) (L : List D),
    (∀ p ∈ ps, ∃ ρ1, gg (.d (e p)) ρ0 = some ρ1 ∧ (∀ L, src1 ρ1 (S1 ++ [.lst L]) = some (⟨(qs p).map e1, none⟩, S1 ++ [.lst L])) ∧ ∀ r ∈ qs p, ∀ L, ∃ ρ2, g1 (.d (e1 r)) (wipeE ρ1 vs1) = some ρ2 ∧ t1 ρ2 (S1 ++ [.lst L]) = some (c p r, S1 ++ [.lst L]) ∧ (c p r = true → f ρ2 (S1 ++ [.lst L]) = some (.d (g p r), S1 ++ [.lst L]))) →
    L.length + (ps.flatMap fun p => ((qs p).filter (c p)).map (g p)).length ≤ Lim → lc2Go n0 ⟨xs, none⟩ gg fTrue src1 g1 t1 f vs1 ρ0 (ps.map e) (S1 ++ [.lst L]) = some (S1 ++ [.lst (L ++ ps.flatMap fun p => ((qs p).filter (c p)).map (g p))])
  | [], L, _, _ => by
    unfold lc2Go
    rw [List.map_nil]
    simp only [List.flatMap_nil, List.append_nil]
    exact if_pos rfl
  | p :: ps, L, h, hl => by
    obtain ⟨ρ1, h1, h2, h3⟩ := h p List.mem_cons_self
    rw [List.flatMap_cons, List.length_append] at hl
    unfold lc2Go
    rw [List.map_cons]
    simp only
    rw [if_pos (show (⟨xs, none⟩ : Src).ok _ = true from rfl), h1, Option.bind_some]
    simp only [fTrue_, Option.bind_some, if_true]
    rw [h2, Option.bind_some]
    simp only
    rw [lc2In_ok hn e1 (g p) (c p) (qs p) L h3 (by omega), Option.bind_some, lc2Go_ok hn e qs e1 c g ps _ (fun x hx => h x (List.mem_cons_of_mem _ hx)) (by rw [List.length_append]; omega), List.flatMap_cons, List.append_assoc]
theorem lLc2_ok {α β : Type} {src : Fe Src} {gg g1 : Gt} {src1 : Fe Src} {t1 : Fe Bool} {f : Fe RV} {vs vs1 : List Nat} {ps : List α} (e : α → D) (qs : α → List β) (e1 : β → D) (c : α → β → Bool) (g : α → β → D) (hs : src ρ S = some (⟨ps.map e, none⟩, S1)) (hb : S1.all (Ob.below S1.length) = true)
    (h : ∀ p ∈ ps, ∃ ρ1, gg (.d (e p)) (wipeE ρ vs) = some ρ1 ∧ (∀ L, src1 ρ1 (S1 ++ [.lst L]) = some (⟨(qs p).map e1, none⟩, S1 ++ [.lst L])) ∧ ∀ r ∈ qs p, ∀ L, ∃ ρ2, g1 (.d (e1 r)) (wipeE ρ1 vs1) = some ρ2 ∧ t1 ρ2 (S1 ++ [.lst L]) = some (c p r, S1 ++ [.lst L]) ∧ (c p r = true → f ρ2 (S1 ++ [.lst L]) = some (.d (g p r), S1 ++ [.lst L])))
    (hl : (ps.flatMap fun p => ((qs p).filter (c p)).map (g p)).length ≤ Lim) : lLc2 src gg fTrue src1 g1 t1 f vs vs1 ρ S = some (ps.flatMap fun p => ((qs p).filter (c p)).map (g p), S1) := by
  unfold lLc2
  rw [hs, Option.bind_some]
  simp only
  rw [lc2Go_ok rfl e qs e1 c g ps [] h (by simpa using hl), Option.bind_some, List.nil_append]
  exact endK_ rfl hb hl
/-- each once, in the order of coming up -/
def ded (l : List Nat) : List Nat := l.foldl (fun acc x => if x ∈ acc then acc else acc ++ [x]) []
theorem dGet_nat {acc : List Nat} {x : Nat} : (dGet (acc.map fun y => (nD y, D.bl true)) (nD x)).isSome = decide (x ∈ acc) := by
  induction acc with
  | nil => rfl
  | cons y acc ih =>
    rw [List.map_cons, dGet_cons]
    by_cases h : y = x
    · subst h; simp
    · have : nD y ≠ nD x := fun z => h (by simp [nD] at z; omega)
      rw [if_neg this, ih]
      simp [Ne.symm h]
theorem dPut_nat {acc : List Nat} {x : Nat} : dPut (acc.map fun y => (nD y, D.bl true)) (nD x) (.bl true) = (if x ∈ acc then acc else acc ++ [x]).map fun y => (nD y, D.bl true) := by
  unfold dPut
  rw [dGet_nat]
  by_cases h : x ∈ acc
  · rw [if_pos (decide_eq_true h), if_pos h, List.map_map]
    refine List.map_congr_left fun y _ => ?_
    rw [Function.comp_apply]
    split <;> rfl
  · rw [if_neg (by simpa using h), if_neg h, List.map_append]
    rfl
theorem ded_step_len (l : List Nat) : ∀ acc : List Nat, (l.foldl (fun acc x => if x ∈ acc then acc else acc ++ [x]) acc).length ≤ acc.length + l.length := by
  induction l with
  | nil => intro acc; simp
  | cons x l ih =>
    intro acc
    rw [List.foldl_cons]
    have := ih (if x ∈ acc then acc else acc ++ [x])
    rw [List.length_cons]
    split at this
    · rename_i h; rw [if_pos h]; omega
    · rename_i h
      rw [if_neg h]
      rw [List.length_append, List.length_singleton] at this
      omega
theorem dcGo_ok {α : Type} {n0 : Nat} {xs : List D} {gg : Gt} {fk fv : Fe RV} {ρ0 : Env'} (hn : S1.length = n0) (e : α → D) (g : α → Nat) : ∀ (ps : List α) (acc : List Nat),
    (∀ p ∈ ps, ∃ ρ1, gg (.d (e p)) ρ0 = some ρ1 ∧ ∀ T, fk ρ1 T = some (.d (nD (g p)), T) ∧ fv ρ1 T = some (.d (.bl true), T)) → acc.length + ps.length < Lim →
    dcGo n0 ⟨xs, none⟩ gg fTrue fk fv ρ0 (ps.map e) (S1 ++ [.dct (acc.map fun y => (nD y, D.bl true))]) = some (S1 ++ [.dct (((ps.map g).foldl (fun acc x => if x ∈ acc then acc else acc ++ [x]) acc).map fun y => (nD y, D.bl true))])
  | [], acc, _, _ => by
    unfold dcGo
    rw [List.map_nil]
    exact if_pos rfl
  | p :: ps, acc, h, hl => by
    obtain ⟨ρ1, h1, h2⟩ := h p List.mem_cons_self
    rw [List.length_cons] at hl
    have hset : ∀ o o', (S1 ++ [o]).set n0 o' = S1 ++ [o'] := fun o o' => by rw [← hn]; simp
    have hat : (S1 ++ [Ob.dct (acc.map fun y => (nD y, D.bl true))])[n0]? = some (.dct (acc.map fun y => (nD y, D.bl true))) := by rw [← hn]; simp
    have hd : dcAt n0 (.d (nD (g p))) (.d (.bl true)) (S1 ++ [Ob.dct (acc.map fun y => (nD y, D.bl true))]) = some (nD (g p), .bl true, acc.map fun y => (nD y, D.bl true)) := by
      unfold dcAt
      simp only [hat]
      rw [if_pos ⟨rfl, by rw [List.length_map]; omega⟩]
    unfold dcGo
    rw [List.map_cons]
    simp only
    rw [if_pos (show (⟨xs, none⟩ : Src).ok _ = true from rfl), h1, Option.bind_some]
    simp only [fTrue_, Option.bind_some, if_true, (h2 _).1, (h2 _).2, hd]
    rw [hset, dPut_nat, dcGo_ok hn e g ps _ (fun x hx => h x (List.mem_cons_of_mem _ hx)) (by
      split
      · omega
      · rw [List.length_append, List.length_singleton]; omega)]
    rfl
theorem eDc_ok {α : Type} {src : Fe Src} {gg : Gt} {fk fv : Fe RV} {vs : List Nat} {ps : List α} (e : α → D) (g : α → Nat) (hs : src ρ S = some (⟨ps.map e, none⟩, S1)) (hl : ps.length < Lim)
    (h : ∀ p ∈ ps, ∃ ρ1, gg (.d (e p)) (wipeE ρ vs) = some ρ1 ∧ ∀ T, fk ρ1 T = some (.d (nD (g p)), T) ∧ fv ρ1 T = some (.d (.bl true), T)) :
    eDc src gg fTrue fk fv vs ρ S = some (.o S1.length, S1 ++ [.dct ((ded (ps.map g)).map fun y => (nD y, D.bl true))]) := by
  unfold eDc
  rw [hs, Option.bind_some]
  simp only
  have := dcGo_ok (S1 := S1) (xs := ps.map e) rfl e g ps [] h (by simpa using hl)
  rw [List.map_nil] at this
  rw [this, Option.bind_some]
  rfl
theorem bLstD_ok {T : Sto} {l : List Nat} (hl : l.length ≤ Lim) : bLstD [.o T.length] (T ++ [.dct (l.map fun y => (nD y, D.bl true))]) = some (l.map nD) := by
  unfold bLstD
  simp only [List.getElem?_append_right (Nat.le_refl _), Nat.sub_self, List.getElem?_cons_zero]
  rw [if_pos (by rw [List.length_map]; exact hl), List.map_map]
  rfl
theorem enumD_n : ∀ (l : List Nat) (k : Nat), enumD k (l.map nD) = (l.zipIdx k).map fun q => .tup [nD q.2, nD q.1]
  | [], _ => rfl
  | x :: l, k => by
    rw [List.map_cons, enumD, enumD_n l (k + 1), List.zipIdx_cons, List.map_cons]
end
end Ev

namespace Ev
open PySem PySem.Spec PyProof.Rows L2 Tab
section
variable {pv pf px pc pd po pp pr ps pt pco psq pn : Pf}
/-! ### distance -/
theorem absI {i : Int} : (if i < 0 then -i else i) = (i.natAbs : Int) := by
  split <;> omega
def dst (n t : Nat) : Option Int := minI ((nr n t).map fun e => (((2 ^ n : Nat) : Int) - (e.natAbs : Int)) / 2)
theorem nr_len {n t : Nat} : (nr n t).length = 2 ^ n := by
  unfold nr
  have : ∀ (l : List Nat) (L : List Int), L.length = 2 ^ n → (l.foldl (fun L i => bf (2 ^ n) i L) L).length = 2 ^ n := by
    intro l
    induction l with
    | nil => intro L h; exact h
    | cons i l ih => intro L h; exact ih _ bf_len
  exact this _ _ (by simp [nr0])
theorem distance_s {n t : Nat} (hn : n ≤ 5) (hp : pn [nD t, nD n] = some (.v (.tup ((nr n t).map D.int)))) {d : Int} (hd : dst n t = some d) : runP 3 (S_distance pn) [nD t, nD n] = some (.v (.int d)) := by
  show (S_distance pn [some (.d (nD t)), some (.d (nD n)), none] []).bind finP = _
  unfold S_distance
  have h5 := lim5 hn
  have p2 : ∀ i : Int, pDiv i 2 = true := fun i => by unfold pDiv; decide
  have ba : ∀ i : Int, bAbs [.d (.int i)] [] = some (.d (.int (i.natAbs : Int))) := fun i => by show some (RV.d (.int (if i < 0 then -i else i))) = _; rw [absI]
  dsimp? only [Option.bind_assoc]
  refine wp_eq (wp_lcm (ps := nr n t) D.int (fun e => .int ((((2 ^ n : Nat) : Int) - (e.natAbs : Int)) / 2)) (S1 := []) (by simp? only [hp]) (by rw [nr_len]; unfold Lim; omega) (fun e he => ?_) ?_)
  · simp? only [shl_1 (show n ≤ 1000000 by omega), ba, vDiv_i (p2 _)]
    exact wp_some ⟨rfl, rfl⟩
  · have e : bQ minI [.d (.lst ((nr n t).map fun e => D.int ((((2 ^ n : Nat) : Int) - (e.natAbs : Int)) / 2)))] [] = some (.d (.int d)) := by
      unfold bQ intsQ
      simp only [lookQ_l, Option.bind_some]
      rw [ints_of (g := fun e : Int => (((2 ^ n : Nat) : Int) - (e.natAbs : Int)) / 2), intsOf_map, Option.bind_some]
      rw [show minI _ = some d from hd]
      rfl
    dsimp? only [e]
    exact wp_some rfl
/-! ### parts -/
def col (n : Nat) (l : List Nat) (p t : Nat) : Nat := l.zipIdx.foldl (fun a q => fx n q.1 (p.testBit q.2).toNat a) t
theorem zipIdx_lt {l : List Nat} {q : Nat × Nat} (h : q ∈ l.zipIdx) : q.1 ∈ l ∧ q.2 < l.length := by
  have h2 := List.mem_zipIdx_iff_getElem?.mp h
  obtain ⟨a, b⟩ := List.getElem?_eq_some_iff.mp h2
  exact ⟨by rw [← b]; exact List.getElem_mem a, a⟩
theorem column_s {n t p : Nat} {l : List Nat} (hn : n ≤ 5) (ht : t < 2 ^ 2 ^ n) (hl : ∀ i ∈ l, i < n) (hx : ∀ t i b, t < 2 ^ 2 ^ n → i < n → px [nD t, nD n, nD i, nD b] = some (.v (nD (fx n i b t)))) :
    runP 7 (S_column px) [nD t, nD n, .tup (l.map nD), nD p] = some (.v (nD (col n l p t))) := by
  show (S_column px [some (.d (nD t)), some (.d (nD n)), some (.d (.tup (l.map nD))), some (.d (nD p)), none, none, none] []).bind finP = _
  unfold S_column
  dsimp? only [sFor_, enumD_n, Option.bind_assoc]
  refine wp_eq (wp_for (ds := l.zipIdx) (e := fun q => .tup [nD q.2, nD q.1]) (a := t) (fun a ρ S => a < 2 ^ 2 ^ n ∧ S = [] ∧ ∃ x5 x6, ρ = [some (.d (nD t)), some (.d (nD n)), some (.d (.tup (l.map nD))), some (.d (nD p)), some (.d (nD a)), x5, x6]) (fun a q => fx n q.1 (p.testBit q.2).toNat a) ⟨ht, rfl, _, _, rfl⟩ (fun q hq a ρ S ⟨ha, e1, x5, x6, e2⟩ => ?_) fun ρ' S' ⟨ha, e1, x5, x6, e2⟩ => ?_)
  · subst e1 e2
    have hq := hl _ (zipIdx_lt hq).1
    have e := hx a q.1 (p.testBit q.2).toNat ha hq
    simp? only [gTp2', shr_n, and_1, shr_bit, oP4, e]
    exact wp_some ⟨.inl rfl, fx_lt hq, rfl, _, _, rfl⟩
  · subst e1 e2
    simp? only []
    exact wp_some rfl
/-- the place of all inputs that has some bits at some inputs -/
def spr (l : List Nat) (p : Nat) : Nat := ((l.zipIdx.filter fun q => p.testBit q.2).map fun q => 2 ^ q.1).sum
def sqz (l : List Nat) (t : Nat) : Nat := tb (2 ^ l.length) fun p => t.testBit (spr l p)
theorem noL_n {a : Nat} : D.noL (nD a) = true := by simp [D.noL]
theorem squeezed_s {n t : Nat} {l : List Nat} (hn : l.length ≤ 5) (hl : ∀ i ∈ l, i < 1000) (hd : ∀ t p, pd [nD t, nD p] = some (.v (nD (t.testBit p).toNat)))
    (ht : ∀ L : List Nat, (∀ p ∈ L, p < 2 ^ l.length) → pt [nD l.length, .lst (L.map nD)] = some (.v (nD (tb (2 ^ l.length) fun j => decide (j ∈ L))))) : runP 8 (S_squeezed pd pt) [nD t, nD n, .tup (l.map nD)] = some (.v (nD (sqz l t))) ∧ runP 8 (S_squeezed pd pt) [nD t, nD n, .lst (l.map nD)] = some (.v (nD (sqz l t))) := by
  have main : ∀ dl : D, (∀ S, bLen [.d dl] S = some (.d (nD l.length))) → (∀ S, oEnum [.d dl] S = some ⟨enumD 0 (l.map nD), none⟩) → runP 8 (S_squeezed pd pt) [nD t, nD n, dl] = some (.v (nD (sqz l t))) := by
    intro dl hlen hen
    show (S_squeezed pd pt [some (.d (nD t)), some (.d (nD n)), some (.d dl), none, none, none, none, none] []).bind finP = _
    unfold S_squeezed
    have h5 := lim5 hn
    dsimp? only [sFor_, hlen, shl_1 (show l.length ≤ 1000000 by omega), oR1_n (show 2 ^ l.length < 2 ^ 62 by omega), List.length_nil, if_pos (Nat.zero_le Lim), List.nil_append, Option.bind_assoc]
    refine wp_eq (wp_forL (ds := List.range (2 ^ l.length)) (e := nD) (fun done ρ S => S = [.lst ((done.filter fun p => t.testBit (spr l p)).map nD)] ∧ ∃ x4 x5 x6 x7, ρ = [some (.d (nD t)), some (.d (nD n)), some (.d dl), some (.o 0), x4, x5, x6, x7]) ⟨rfl, _, _, _, _, rfl⟩
      (fun done p rest hd' ρ S ⟨e1, x4, x5, x6, x7, e2⟩ => ?_) fun ρ' S' ⟨e1, x4, x5, x6, x7, e2⟩ => ?_)
    · subst e1 e2
      have h6 := split_len hd'
      rw [List.length_range] at h6
      have h7 := List.length_filter_le (fun p => t.testBit (spr l p)) done
      have hlen : ((done.filter fun p => t.testBit (spr l p)).map nD).length < Lim := by rw [List.length_map]; unfold Lim; omega
      dsimp? only [hen, Option.bind_assoc]
      refine wp_lc (ps := l.zipIdx) (fun q => .tup [nD q.2, nD q.1]) (fun q => nD (2 ^ q.1)) (fun q => p.testBit q.2) (S1 := [.lst ((done.filter fun p => t.testBit (spr l p)).map nD)]) (by dsimp? only [hen, enumD_n]) (by rw [List.length_zipIdx]; unfold Lim; omega) (fun q hq => ?_) ?_
      · have h8 := hl _ (zipIdx_lt hq).1
        cases hb : p.testBit q.2
        · dsimp? only [gTp2', shr_n, and_1, shr_bit, bne_toNat, hb]
          exact wp_some ⟨rfl, rfl, fun z => by cases z⟩
        · dsimp? only [gTp2', shr_n, and_1, shr_bit, bne_toNat, hb, shl_1 (show q.1 ≤ 1000000 by omega)]
          exact wp_some ⟨rfl, rfl, fun _ => rfl⟩
      · have e : ((l.zipIdx.filter fun q => p.testBit q.2).map fun q => 2 ^ q.1).sum = spr l p := rfl
        rw [List.filter_append]
        cases hb : t.testBit (spr l p)
        · dsimp? only [sum_map, e, hd, dec_toNat, hb]
          refine wp_some ⟨.inl rfl, ?_, _, _, _, _, rfl⟩
          simp [hb]
        · dsimp? only [sum_map, e, hd, dec_toNat, hb, ml1K_0, ml1J_0, oApp_ hlen]
          refine wp_some ⟨.inl rfl, ?_, _, _, _, _, rfl⟩
          simp [hb]
    · subst e1 e2
      have h := ht ((List.range (2 ^ l.length)).filter fun p => t.testBit (spr l p)) fun p hp => List.mem_range.mp (List.mem_filter.mp hp).1
      rw [tb_filter] at h
      have h9 := oPX_ (n := 2) (rs := [.d (nD l.length), .o 0]) (S := [.lst (((List.range (2 ^ l.length)).filter fun p => t.testBit (spr l p)).map nD)]) (by rw [lookDs_d, lookDs_o rfl, lookDs_n]; rfl) rfl h noL_n
      dsimp? only [hlen, eCallPX_, h9]
      exact wp_some rfl
  exact ⟨main _ (fun S => by rw [bLen_t, List.length_map]) (fun S => rfl), main _ (fun S => by rw [bLen_l, List.length_map]) (fun S => rfl)⟩
end
end Ev

namespace Ev
open PySem PySem.Spec PyProof.Rows L2 Tab
section
variable {pv pf px pc pd po pp pr ps pt pco psq pn : Pf}
def cols (n : Nat) (l : List Nat) (t : Nat) : List Nat := (List.range (2 ^ l.length)).map fun p => col n l p t
def restOf (n : Nat) (l : List Nat) : List Nat := (List.range n).filter fun i => decide (i ∉ l)
def prt (n : Nat) (l : List Nat) (t : Nat) : Option (Nat × Nat) :=
  if 2 < (ded (cols n l t)).length then none else some (tb (2 ^ l.length) fun p => decide ((cols n l t).getD p 0 ≠ (cols n l t).getD 0 0),
    tb (2 ^ ((restOf n l).length + 1)) fun q => (sqz (restOf n l) (if q % 2 = 0 then (ded (cols n l t)).getD 0 0 else (ded (cols n l t)).getD ((ded (cols n l t)).length - 1) 0)).testBit (q / 2))
def prtD : Option (Nat × Nat) → D
  | none => .non
  | some q => .tup [nD q.1, nD q.2]
theorem in_nats {l : List Nat} {i : Nat} : inD (nD i) (l.map nD) = decide (i ∈ l) := by
  unfold inD
  rw [List.any_map, Bool.eq_iff_iff, List.any_eq_true, decide_eq_true_eq]
  constructor
  · rintro ⟨x, hx, e⟩
    have e' : D.eqv (nD x) (nD i) = true := e
    rw [eqv_int, decide_eq_true_eq] at e'
    have : x = i := by omega
    exact this ▸ hx
  · intro h
    refine ⟨i, h, ?_⟩
    show D.eqv (nD i) (nD i) = true
    rw [eqv_int]
    simp
theorem ok_nats_t {l : List Nat} : D.ok (.tup (l.map nD)) = true := by rw [nD_map]; exact ok_tints
theorem ok_nats_l {l : List Nat} : D.ok (.lst (l.map nD)) = true := by rw [nD_map]; exact ok_ints
theorem atI_last {l : List Nat} (h : l ≠ []) : atI (l.map nD) (-1) = some (nD (l.getD (l.length - 1) 0)) := by
  have h1 := List.length_pos_iff.mpr h
  have h2 : l.length - 1 < l.length := by omega
  have e : ixN (l.map nD).length (-1) = some (l.length - 1) := by
    unfold ixN
    rw [if_neg (by omega), List.length_map, if_pos (by omega)]
    congr 1
    omega
  unfold atI
  rw [e, Option.bind_some, List.getElem?_map, List.getElem?_eq_getElem h2, List.getD_eq_getElem?_getD, List.getElem?_eq_getElem h2]
  rfl
theorem ded_ne {l : List Nat} (h : l ≠ []) : ded l ≠ [] := by
  have : ∀ (l acc : List Nat), acc ≠ [] → l.foldl (fun acc x => if x ∈ acc then acc else acc ++ [x]) acc ≠ [] := by
    intro l
    induction l with
    | nil => intro acc h; exact h
    | cons x l ih =>
      intro acc h
      rw [List.foldl_cons]
      apply ih
      split
      · exact h
      · simp
  cases l with
  | nil => exact absurd rfl h
  | cons x l => exact this l [x] (by simp)
theorem cols_len {n t : Nat} {l : List Nat} : (cols n l t).length = 2 ^ l.length := by simp [cols]
theorem zip_filter {C : List Nat} {N : Nat} (h : C.length = N) : (tb N fun j => decide (j ∈ (C.zipIdx.filter fun q => decide (q.1 ≠ C.getD 0 0)).map (·.2))) = tb N fun p => decide (C.getD p 0 ≠ C.getD 0 0) := tb_congr fun j hj => by
  congr 1
  rw [eq_iff_iff, List.mem_map]
  constructor
  · rintro ⟨q, hq, rfl⟩
    obtain ⟨h1, h2⟩ := List.mem_filter.mp hq
    have h3 := List.mem_zipIdx_iff_getElem?.mp h1
    rw [List.getD_eq_getElem?_getD, h3]
    exact of_decide_eq_true h2
  · intro hne
    have hl : j < C.length := by omega
    refine ⟨(C[j], j), List.mem_filter.mpr ⟨List.mem_zipIdx_iff_getElem?.mpr (List.getElem?_eq_getElem hl), decide_eq_true ?_⟩, rfl⟩
    rw [List.getD_eq_getElem?_getD, List.getElem?_eq_getElem hl] at hne
    exact hne
theorem parts_of_s {n t : Nat} {l : List Nat} (hn : n ≤ 5) (hl1 : 1 ≤ l.length) (hl : l.length ≤ n) (hlt : ∀ i ∈ l, i < n) (hc : ∀ p, px [nD t, nD n, .tup (l.map nD), nD p] = some (.v (nD (col n l p t))))
    (ht : ∀ m, m ≤ 5 → ∀ L : List Nat, (∀ p ∈ L, p < 2 ^ m) → pt [nD m, .lst (L.map nD)] = some (.v (nD (tb (2 ^ m) fun j => decide (j ∈ L))))) (hs : ∀ t, psq [nD t, nD n, .lst ((restOf n l).map nD)] = some (.v (nD (sqz (restOf n l) t))))
    (hd : ∀ t p, pd [nD t, nD p] = some (.v (nD (t.testBit p).toNat))) (hr : (restOf n l).length + 1 ≤ 5) :
    runP 13 (S_parts_of px pt psq pd) [nD t, nD n, .tup (l.map nD)] = some (.v (prtD (prt n l t))) := by
  show (S_parts_of px pt psq pd [some (.d (nD t)), some (.d (nD n)), some (.d (.tup (l.map nD))), none, none, none, none, none, none, none, none, none, none] []).bind finP = _
  unfold S_parts_of
  have h5 := lim5 (n := l.length) (by omega)
  have h6 := lim5 (n := (restOf n l).length) (by omega)
  have hr1 : (restOf n l).length ≤ n := by
    have := List.length_filter_le (fun i => decide (i ∉ l)) (List.range n)
    rwa [List.length_range] at this
  dsimp? only [Option.bind_assoc]
  refine wp_eq (wp_lcm (ps := List.range (2 ^ l.length)) nD (fun p => nD (col n l p t)) (S1 := []) (by simp? only [List.length_map, shl_1 (show l.length ≤ 1000000 by omega), oR1_n (show 2 ^ l.length < 2 ^ 62 by omega)]; rfl) (by rw [List.length_range]; unfold Lim; omega) (fun p hp => ?_) ?_)
  · simp? only [oP4, hc]
    exact wp_some ⟨rfl, rfl⟩
  · have eCo : (List.range (2 ^ l.length)).map (fun p => nD (col n l p t)) = (cols n l t).map nD := by unfold cols; rw [List.map_map]; rfl
    have hdl : (ded (cols n l t)).length ≤ 2 ^ l.length := by
      have := ded_step_len (cols n l t) []
      rw [cols_len] at this
      simpa [ded] using this
    have hdc := fun ρ : Env' => eDc_ok (S := []) (S1 := []) (src := sSeq (eVar 3)) (gg := gN 10) (fk := eVar 10) (fv := eC (.bl true)) (vs := [10]) (ps := cols n l t) nD id
      (ρ := [some (.d (nD t)), some (.d (nD n)), some (.d (.tup (l.map nD))), some (.d (.lst ((cols n l t).map nD))), none, none, none, none, none, none, none, none, none]) (by dsimp? only []) (by rw [cols_len]; unfold Lim; omega) (fun p _ => ⟨_, rfl, fun T => ⟨rfl, rfl⟩⟩)
    rw [List.map_id, List.length_nil, List.nil_append] at hdc
    have hld := bLstD_ok (T := []) (l := ded (cols n l t)) (by unfold Lim; omega)
    rw [List.length_nil, List.nil_append] at hld
    have hne := ded_ne (l := cols n l t) (fun z => by have := congrArg List.length z; rw [cols_len] at this; simp at this)
    dsimp? only [eCo, hdc [], hld, List.length_map]
    by_cases h2 : 2 < (ded (cols n l t)).length
    · have hd2 : decide ((2 : Int) < ((ded (cols n l t)).length : Nat)) = true := decide_eq_true (by omega)
      dsimp? only [hd2]
      unfold prt
      rw [if_pos h2]
      exact wp_some rfl
    · have hd2 : decide ((2 : Int) < ((ded (cols n l t)).length : Nat)) = false := decide_eq_false (by omega)
      dsimp? only [hd2, Option.bind_assoc]
      refine wp_lc (ps := List.range n) nD nD (fun i => decide (i ∉ l)) (S1 := [.dct ((ded (cols n l t)).map fun y => (nD y, D.bl true))]) (by simp? only [oR1_n (show n < 2 ^ 62 by omega)]; rfl) (by rw [List.length_range]; unfold Lim; omega) (fun i hi => ?_) ?_
      · by_cases hil : i ∈ l
        · have e : decide (i ∉ l) = false := decide_eq_false (fun z => z hil)
          simp? only [vIn_t ok_int ok_nats_t, in_nats, decide_eq_true hil]
          exact wp_some ⟨e.symm, rfl, fun z => by rw [e] at z; cases z⟩
        · have e : decide (i ∉ l) = true := decide_eq_true hil
          simp? only [vIn_t ok_int ok_nats_t, in_nats, decide_eq_false hil]
          exact wp_some ⟨e.symm, rfl, fun _ => rfl⟩
      · have eR : (List.range n).filter (fun i => decide (i ∉ l)) = restOf n l := rfl
        rw [eR]
        dsimp? only [List.length_map, Option.bind_assoc]
        refine wp_lc (ps := (cols n l t).zipIdx) (fun q => .tup [nD q.2, nD q.1]) (fun q => nD q.2) (fun q => decide (q.1 ≠ (cols n l t).getD 0 0)) (S1 := [.dct ((ded (cols n l t)).map fun y => (nD y, D.bl true))]) (by simp? only [enumD_n]) (by rw [List.length_zipIdx, cols_len]; unfold Lim; omega) (fun q hq => ?_) ?_
        · have e0 : atI ((cols n l t).map nD) 0 = some (nD ((cols n l t).getD 0 0)) := atI_n (l := cols n l t) (i := 0) (by rw [cols_len]; exact Nat.two_pow_pos _)
          by_cases h : q.1 = (cols n l t).getD 0 0
          · have e : decide (q.1 ≠ (cols n l t).getD 0 0) = false := decide_eq_false (fun z => z h)
            have e9 : decide (((q.1 : Nat) : Int) = (((cols n l t).getD 0 0 : Nat) : Int)) = true := decide_eq_true (by rw [h])
            simp? only [gTp2', e0, e9]
            exact wp_some ⟨e.symm, rfl, fun z => by rw [e] at z; cases z⟩
          · have e : decide (q.1 ≠ (cols n l t).getD 0 0) = true := decide_eq_true h
            have e9 : decide (((q.1 : Nat) : Int) = (((cols n l t).getD 0 0 : Nat) : Int)) = false := decide_eq_false (by omega)
            simp? only [gTp2', e0, e9]
            exact wp_some ⟨e.symm, rfl, fun _ => rfl⟩
        · have hz : ((cols n l t).zipIdx.filter fun q => decide (q.1 ≠ (cols n l t).getD 0 0)).map (fun q => nD q.2) = (((cols n l t).zipIdx.filter fun q => decide (q.1 ≠ (cols n l t).getD 0 0)).map (·.2)).map nD := by rw [List.map_map]; rfl
          have htf := ht l.length (by omega) (((cols n l t).zipIdx.filter fun q => decide (q.1 ≠ (cols n l t).getD 0 0)).map (·.2)) (fun p hp => by
            obtain ⟨q, hq, rfl⟩ := List.mem_map.mp hp
            have := (zipIdx_lt (List.mem_filter.mp hq).1).2
            rwa [cols_len] at this)
          rw [zip_filter cols_len] at htf
          have e0 : atI ((ded (cols n l t)).map nD) 0 = some (nD ((ded (cols n l t)).getD 0 0)) := atI_n (l := ded (cols n l t)) (i := 0) (List.length_pos_iff.mpr hne)
          have e1 := atI_last hne
          have en := fun ρ S => eNeg_ (f := eC (.int 1)) (ρ := ρ) (S := S) (S1 := S) (i := 1) rfl
          dsimp? only [hz, htf, e0, e1, en, hs, List.length_cons, List.length_nil, Nat.zero_add, Nat.reduceAdd, if_pos (show 2 ≤ Lim by unfold Lim; decide)]
          generalize hs0 : sqz (restOf n l) ((ded (cols n l t)).getD 0 0) = s0
          generalize hs1 : sqz (restOf n l) ((ded (cols n l t)).getD ((ded (cols n l t)).length - 1) 0) = s1
          have p2 : ∀ i : Int, pMul 2 i = true := fun i => by unfold pMul; simp
          have key := lLc2_ok (S1 := [Ob.dct ((ded (cols n l t)).map fun y => (nD y, D.bl true))]) (src := fMap (aCons (eBin vShl (eC (.int 1)) (eCall bLen (aCons (eVar 5) (aNil)))) (aNil)) oR1) (gg := gN 9) (src1 := sSeq (eTup (aCons (eC (.int 0)) (aCons (eC (.int 1)) (aNil))))) (g1 := gN 12) (t1 := fTest (eBin vEq (eCallP 2 pd (aCons (eBin vIx (eVar 7) (eVar 12)) (aCons (eVar 9) (aNil)))) (eC (.int 1)))) (f := eBin vAdd (eBin vMul (eC (.int 2)) (eVar 9)) (eVar 12)) (vs := [9, 12]) (vs1 := [12]) (ps := List.range (2 ^ (restOf n l).length))
            (ρ := [some (.d (nD t)), some (.d (nD n)), some (.d (.tup (l.map nD))), some (.d (.lst ((cols n l t).map nD))), some (.d (.lst ((ded (cols n l t)).map nD))), some (.d (.lst ((restOf n l).map nD))), some (.d (nD (tb (2 ^ l.length) fun p => decide ((cols n l t).getD p 0 ≠ (cols n l t).getD 0 0)))), some (.d (.lst [nD s0, nD s1])), none, none, none, none, none])
            (S := [Ob.dct ((ded (cols n l t)).map fun y => (nD y, D.bl true))]) nD (fun _ => [0, 1]) nD (fun p b => (if b = 0 then s0 else s1).testBit p) (fun p b => nD (2 * p + b)) (by simp? only [List.length_map, shl_1 (show (restOf n l).length ≤ 1000000 by omega), oR1_n (show 2 ^ (restOf n l).length < 2 ^ 62 by omega)]; rfl) rfl
            (fun p hp => ⟨_, rfl, fun L => by simp? only [List.length_cons, List.length_nil, Nat.zero_add, Nat.reduceAdd, if_pos (show 2 ≤ Lim by unfold Lim; decide)]; rfl, fun b hb L => ⟨_, rfl, by
              simp only [List.mem_cons, List.not_mem_nil, or_false] at hb
              rcases hb with rfl | rfl
              · have : atI [nD s0, nD s1] ((0 : Nat) : Int) = some (nD s0) := rfl
                simp? only [this, hd, dec_toNat]
              · have : atI [nD s0, nD s1] ((1 : Nat) : Int) = some (nD s1) := rfl
                simp? only [this, hd, dec_toNat]
                rfl, fun _ => by
              simp? only [vMul_i (p2 _)]
              rfl⟩⟩) (by
              have : ∀ ps : List Nat, (ps.flatMap fun p => (([0, 1] : List Nat).filter fun b => (if b = 0 then s0 else s1).testBit p).map fun b => nD (2 * p + b)).length ≤ 2 * ps.length := by
                intro ps
                induction ps with
                | nil => simp
                | cons p ps ih =>
                  rw [List.flatMap_cons, List.length_append, List.length_map, List.length_cons]
                  have := List.length_filter_le (fun b => (if b = 0 then s0 else s1).testBit p) ([0, 1] : List Nat)
                  simp only [List.length_cons, List.length_nil] at this
                  omega
              have := this (List.range (2 ^ (restOf n l).length))
              rw [List.length_range] at this
              unfold Lim; omega)
          have hfm : ((List.range (2 ^ (restOf n l).length)).flatMap fun p => (([0, 1] : List Nat).filter fun b => (if b = 0 then s0 else s1).testBit p).map fun b => nD (2 * p + b)) = ((List.range (2 ^ (restOf n l).length)).flatMap fun p => (([0, 1] : List Nat).filter fun b => (if b = 0 then s0 else s1).testBit p).map fun b => 2 * p + b).map nD := by
            rw [List.map_flatMap]
            congr 1
            funext p
            rw [List.map_map]
            rfl
          rw [hfm] at key
          have htg := ht ((restOf n l).length + 1) hr ((List.range (2 ^ (restOf n l).length)).flatMap fun p => (([0, 1] : List Nat).filter fun b => (if b = 0 then s0 else s1).testBit p).map fun b => 2 * p + b) (fun q hq => by
            obtain ⟨p, hp, hq⟩ := List.mem_flatMap.mp hq
            obtain ⟨b, hb, rfl⟩ := List.mem_map.mp hq
            have hp := List.mem_range.mp hp
            have hb := (List.mem_filter.mp hb).1
            simp only [List.mem_cons, List.not_mem_nil, or_false] at hb
            rw [Nat.pow_succ]
            omega)
          have e2 : (tb (2 ^ ((restOf n l).length + 1)) fun j => decide (j ∈ (List.range (2 ^ (restOf n l).length)).flatMap fun p => (([0, 1] : List Nat).filter fun b => (if b = 0 then s0 else s1).testBit p).map fun b => 2 * p + b)) = tb (2 ^ ((restOf n l).length + 1)) fun q => (if q % 2 = 0 then s0 else s1).testBit (q / 2) := tb_congr fun j hj => by
            rw [Bool.eq_iff_iff, decide_eq_true_eq, List.mem_flatMap]
            constructor
            · rintro ⟨p, hp, hq⟩
              obtain ⟨b, hb, rfl⟩ := List.mem_map.mp hq
              obtain ⟨hb, hb2⟩ := List.mem_filter.mp hb
              simp only [List.mem_cons, List.not_mem_nil, or_false] at hb
              have e3 : (2 * p + b) / 2 = p := by omega
              have e4 : (2 * p + b) % 2 = b := by omega
              rw [e3, e4]
              exact hb2
            · intro h
              refine ⟨j / 2, List.mem_range.mpr ?_, List.mem_map.mpr ⟨j % 2, List.mem_filter.mpr ⟨?_, h⟩, by omega⟩⟩
              · rw [Nat.pow_succ] at hj; omega
              · simp only [List.mem_cons, List.not_mem_nil, or_false]; omega
          rw [e2] at htg
          have hadd : ((restOf n l).length : Int) + 1 = (((restOf n l).length + 1 : Nat) : Int) := by omega
          dsimp? only [key, List.length_map, hadd, htg, List.length_cons, List.length_nil, Nat.zero_add, Nat.reduceAdd, if_pos (show 2 ≤ Lim by unfold Lim; decide)]
          refine wp_some ?_
          unfold prt
          rw [if_neg h2]
          have hif : ∀ q : Nat, sqz (restOf n l) (if q % 2 = 0 then (ded (cols n l t)).getD 0 0 else (ded (cols n l t)).getD ((ded (cols n l t)).length - 1) 0) = if q % 2 = 0 then s0 else s1 := fun q => by
            split
            · exact hs0
            · exact hs1
          simp only [hif]
          rfl
end
end Ev

namespace Ev
open PySem PySem.Spec PyProof.Rows L2 Tab
section
variable {pv pf px pc pd po pp pr ps pt pco psq pn : Pf}
theorem all_map {α : Type} {l : List α} {f : α → Bool} {S : Sto} : bBools (fun bs => bs.all id) [.d (.lst (l.map fun q => D.bl (f q)))] S = some (.d (.bl (l.all f))) := by
  have : (l.map fun q => D.bl (f q)) = (l.map f).map D.bl := by rw [List.map_map]; rfl
  rw [this, bBools_l, List.all_map]
  rfl
theorem zipD_n : ∀ (a b : List Nat), zipD (a.map nD) (b.map nD) = (a.zip b).map fun q => .tup [nD q.1, nD q.2]
  | [], _ => rfl
  | _ :: _, [] => rfl
  | x :: a, y :: b => by
    rw [List.map_cons, List.map_cons, zipD, zipD_n a b, List.zip_cons_cons, List.map_cons]
theorem parted_s {n t : Nat} {l : List Nat} {r : D} (hn : n ≤ 5) (hl2 : 2 ≤ l.length) (hl : l.length < n) (hlt : ∀ i ∈ l, i < n) (asc : ∀ q ∈ l.zip (l.drop 1), q.1 < q.2) (hc : pc [nD t, nD n] = some (.v .non)) (hp : pr [nD t, nD n, .tup (l.map nD)] = some (.v r)) :
    runP 7 (S_parted pc pr) [nD t, nD n, .tup (l.map nD)] = some (.v r) := by
  show (S_parted pc pr [some (.d (nD t)), some (.d (nD n)), some (.d (.tup (l.map nD))), none, none, none, none] []).bind finP = _
  unfold S_parted
  dsimp? only [hc, Option.bind_assoc]
  refine wp_eq (wp_lcm (ps := l.zip (l.drop 1)) (fun q => .tup [nD q.1, nD q.2]) (fun q => .bl (decide (q.1 < q.2))) (S1 := []) (by simp? only [← List.map_drop, zipD_n]) (by
    have := List.length_zip (l₁ := l) (l₂ := l.drop 1)
    unfold Lim; omega) (fun q hq => ?_) ?_)
  · have : decide (((q.1 : Nat) : Int) < ((q.2 : Nat) : Int)) = decide (q.1 < q.2) := by simp
    simp? only [gTp2', this]
    exact wp_some ⟨rfl, rfl⟩
  · have ea : (l.zip (l.drop 1)).all (fun q => decide (q.1 < q.2)) = true := List.all_eq_true.mpr fun q hq => decide_eq_true (asc q hq)
    have h1 : decide ((2 : Int) ≤ ((l.length : Nat) : Int)) = true := decide_eq_true (by omega)
    have h2 : decide (((l.length : Nat) : Int) < ((n : Nat) : Int)) = true := decide_eq_true (by omega)
    dsimp? only [all_map, ea, vTru_bl, List.length_map, h1, h2, Option.bind_assoc]
    refine wp_lcm (ps := l) nD (fun q => .bl true) (S1 := []) (by simp? only []) (by unfold Lim; omega) (fun q hq => ?_) ?_
    · have h3 : decide ((0 : Int) ≤ ((q : Nat) : Int)) = true := decide_eq_true (by omega)
      have h4 : decide (((q : Nat) : Int) < ((n : Nat) : Int)) = true := decide_eq_true (by have := hlt q hq; omega)
      simp? only [h3, h4]
      exact wp_some ⟨rfl, rfl⟩
    · have eb : bBools (fun bs => bs.all id) [.d (.lst (l.map fun _ => D.bl true))] [] = some (.d (.bl true)) := by
        rw [all_map (f := fun _ => true)]
        simp
      dsimp? only [eb, oP3, hp]
      exact wp_some rfl
/-! ### the law's own defs -/
theorem power_s {n : Nat} (hn : n ≤ 60) : runP 3 S__law_power [nD n] = some (.v (nD (2 ^ n))) := by
  show (S__law_power [some (.d (nD n)), none, none] []).bind finP = _
  unfold S__law_power
  dsimp? only [sFor_, oR1_n (show n < 2 ^ 62 by omega), Option.bind_assoc]
  refine wp_eq (wp_forL (ds := List.range n) (e := nD) (fun done ρ S => S = [] ∧ ∃ x2, ρ = [some (.d (nD n)), some (.d (nD (2 ^ done.length))), x2]) ⟨rfl, _, rfl⟩ (fun done p rest hd ρ S ⟨e1, x2, e2⟩ => ?_) fun ρ' S' ⟨e1, x2, e2⟩ => ?_)
  · subst e1 e2
    have pm : ∀ i : Int, pMul i 2 = true := fun i => pMul_r (by decide) (by decide)
    simp? only [vMul_i (pm _)]
    refine wp_some ⟨.inl rfl, rfl, some (.d (nD p)), ?_⟩
    rw [List.length_append, List.length_singleton, Nat.pow_succ]
    rfl
  · subst e1 e2
    rw [List.length_range]
    simp? only []
    exact wp_some rfl
theorem div_bit {t p : Nat} : (((t / 2 ^ p : Nat) : Int) % 2) = (((t.testBit p).toNat : Nat) : Int) := by
  have : (t.testBit p).toNat = t / 2 ^ p % 2 := by
    rw [Nat.testBit_eq_decide_div_mod_eq]
    rcases Nat.mod_two_eq_zero_or_one (t / 2 ^ p) with h | h <;> simp [h]
  rw [this]
  omega
theorem vDiv_n {a b : Nat} {S : Sto} (h0 : 0 < b) (h : b < 1073741824) : vDiv (.d (.int a)) (.d (.int b)) S = some (.d (.int ((a / b : Nat) : Int))) := by
  rw [vDiv_i]
  · rfl
  · unfold pDiv
    rw [decide_eq_true (show (0 : Int) < (b : Int) by omega), decide_eq_true (by omega)]
    rfl
theorem pow30 {p : Nat} (h : p ≤ 29) : 2 ^ p < 1073741824 := Nat.lt_of_le_of_lt (pow_le h) (by decide)
theorem ldigit_s {t p : Nat} (hp : p ≤ 29) (hw : pr [nD p] = some (.v (nD (2 ^ p)))) : runP 2 (S__law_digit pr) [nD t, nD p] = some (.v (nD (t.testBit p).toNat)) := by
  show (S__law_digit pr [some (.d (nD t)), some (.d (nD p))] []).bind finP = _
  unfold S__law_digit
  simp? only [hw, vDiv_n (Nat.two_pow_pos p) (pow30 hp), vMod_i (show (0 : Int) < 2 by decide), div_bit]
def bitsN (n p : Nat) : List Nat := (List.range n).map fun i => (p.testBit i).toNat
theorem lbits_s {n p : Nat} (hn : n ≤ 29) (hw : ∀ i, i ≤ 29 → pr [nD i] = some (.v (nD (2 ^ i)))) : runP 3 (S__law_bits pr) [nD p, nD n] = some (.v (.tup ((bitsN n p).map nD))) := by
  show (S__law_bits pr [some (.d (nD p)), some (.d (nD n)), none] []).bind finP = _
  unfold S__law_bits
  dsimp? only [Option.bind_assoc]
  refine wp_eq (wp_lcm (ps := List.range n) nD (fun i => nD (p.testBit i).toNat) (S1 := []) (by simp? only [oR1_n (show n < 2 ^ 62 by omega)]; rfl) (by rw [List.length_range]; unfold Lim; omega) (fun i hi => ?_) ?_)
  · have hi := List.mem_range.mp hi
    simp? only [hw i (by omega), vDiv_n (Nat.two_pow_pos i) (pow30 (show i ≤ 29 by omega)), vMod_i (show (0 : Int) < 2 by decide), div_bit]
    exact wp_some ⟨rfl, rfl⟩
  · dsimp? only []
    refine wp_some ?_
    unfold bitsN
    rw [List.map_map]
    rfl
abbrev So (is : List Int) : Sto := [Ob.lst (dInts is)]
/-- what _law_take tells of the draws at 0 -/
def TakeOk (FS : List RV → Sto → Option (RV × Sto)) : Prop := ∀ (is : List Int) (lim : Nat), 0 < lim → ∃ v js, v < lim ∧ FS [.o 0, .d (nD lim)] (So is) = some (.d (nD v), So js)
theorem take_s : TakeOk (runS 2 takeF) := fun is lim h => by
  obtain ⟨v, js, h1, h2, h3⟩ := take_ok (S := So is) (n := 0) (is := is) (lim := lim) rfl (by omega)
  refine ⟨v.toNat, js, by omega, ?_⟩
  show runS 2 takeF [.o 0, .d (.int lim)] (So is) = some (.d (.int (v.toNat : Int)), So js)
  rw [Int.toNat_of_nonneg h2]
  exact h1
theorem ltable_s {FS : List RV → Sto → Option (RV × Sto)} (ht : TakeOk FS) {n : Nat} (hn : n ≤ 5) (hw : pr [nD n] = some (.v (nD (2 ^ n)))) (is : List Int) :
    ∃ t js, t < 2 ^ 2 ^ n ∧ runS 6 (S__law_table FS pr) [.o 0, .d (nD n)] (So is) = some (.d (nD t), So js) := by
  have h5 := lim5 hn
  obtain ⟨kd, j1, h1, e1⟩ := ht is 5 (by decide)
  have e1' : FS [.o 0, .d (.int 5)] (So is) = some (.d (.int (kd : Int)), So j1) := e1
  have main : Wp ((S__law_table FS pr [some (.o 0), some (.d (nD n)), none, none, none, none] (So is)).bind finS) fun z => ∃ t js, t < 2 ^ 2 ^ n ∧ z = (.d (nD t), So js) := by
    unfold S__law_table
    dsimp? only [callSK_ (n := 2) (rs := [.o 0, .d (.int 5)]) rfl, e1', sFor_, hw, oR1_n (show 2 ^ n < 2 ^ 62 by omega), Option.bind_assoc]
    refine wp_forL (ds := List.range (2 ^ n)) (e := nD) (fun done ρ S => ∃ t js x4 x5, t < 2 ^ done.length ∧ S = So js ∧ ρ = [some (.o 0), some (.d (nD n)), some (.d (nD t)), some (.d (nD kd)), x4, x5]) ⟨0, j1, _, _, by decide, rfl, rfl⟩ (fun done p rest hd ρ S ⟨t, js, x4, x5, ht2, e2, e3⟩ => ?_) fun ρ' S' ⟨t, js, x4, x5, ht2, e2, e3⟩ => ?_
    · subst e2 e3
      have pm : ∀ i : Int, pMul i 2 = true := fun i => pMul_r (by decide) (by decide)
      have bound : ∀ b : Nat, b < 2 → t * 2 + b < 2 ^ (done ++ [p]).length := fun b hb => by
        rw [List.length_append, List.length_singleton, Nat.pow_succ]; omega
      by_cases hk : kd < 3
      · have hk1 : decide ((kd : Int) < 3) = true := decide_eq_true (by omega)
        obtain ⟨v, j2, h2, e4⟩ := ht js 2 (by decide)
        have e4' : FS [.o 0, .d (.int 2)] (So js) = some (.d (.int (v : Int)), So j2) := e4
        dsimp? only [hk1, callSK_ (n := 2) (rs := [.o 0, .d (.int 2)]) rfl, e4', vMul_i (pm _)]
        exact wp_some ⟨.inl rfl, t * 2 + v, j2, _, _, bound v h2, rfl, rfl⟩
      · have hk1 : decide ((kd : Int) < 3) = false := decide_eq_false (by omega)
        obtain ⟨v, j2, h2, e4⟩ := ht js 5 (by decide)
        have e4' : FS [.o 0, .d (.int 5)] (So js) = some (.d (.int (v : Int)), So j2) := e4
        by_cases hk2 : kd = 3
        · have hk3 : decide ((kd : Int) = 3) = true := decide_eq_true (by omega)
          dsimp? only [hk1, hk3, callSK_ (n := 2) (rs := [.o 0, .d (.int 5)]) rfl, e4', vMul_i (pm _)]
          cases hv : decide ((v : Int) = 0)
          · exact wp_some ⟨.inl rfl, t * 2 + 0, j2, _, _, bound 0 (by decide), rfl, rfl⟩
          · exact wp_some ⟨.inl rfl, t * 2 + 1, j2, _, _, bound 1 (by decide), rfl, rfl⟩
        · have hk3 : decide ((kd : Int) = 3) = false := decide_eq_false (by omega)
          dsimp? only [hk1, hk3, callSK_ (n := 2) (rs := [.o 0, .d (.int 5)]) rfl, e4', vMul_i (pm _)]
          cases hv : decide ((0 : Int) < (v : Int))
          · exact wp_some ⟨.inl rfl, t * 2 + 0, j2, _, _, bound 0 (by decide), rfl, rfl⟩
          · exact wp_some ⟨.inl rfl, t * 2 + 1, j2, _, _, bound 1 (by decide), rfl, rfl⟩
    · subst e2 e3
      rw [List.length_range] at ht2
      dsimp? only []
      exact wp_some ⟨t, js, ht2, rfl⟩
  obtain ⟨z, h2, t, js, h3, rfl⟩ := main
  exact ⟨t, js, h3, h2⟩
/-! ### tables from a test that is a function -/
def S__law_from (hi : Bool) (p__law_power : List D → Option PR) : Fs :=
    sSeq2 (sAsg (eC (.int 0)) (gN 2))
    (sSeq2 (sFor (fMap (aCons (eBin vSub (eCallP 1 p__law_power (aCons (eVar 0) (aNil))) (eC (.int 1))) (aCons (eNeg (eC (.int 1))) (aCons (eNeg (eC (.int 1))) (aNil)))) oR3) (gN 3) (sSeq2 (sAsg (eBin vAdd (eBin vMul (eVar 2) (eC (.int 2))) (fIf (fTru (eCallFh hi 1 (aCons (eVar 3) (aNil)))) (eC (.int 1)) (eC (.int 0)))) (gN 2))
    (sNil)))
    (sSeq2 (sRet (eVar 2))
    (sNil)))
theorem tb_add (N : Nat) (b : Nat → Bool) : tb (N + 1) b = tb N b + (b N).toNat * 2 ^ N := by
  rw [tb_succ]
  cases h : b N
  · simp
  · simp [Nat.or_two_pow_eq_add_of_lt (tb_lt N b)]
theorem foldl_rev (b : Nat → Bool) : ∀ (N acc : Nat), ((List.range N).reverse).foldl (fun a p => a * 2 + (b p).toNat) acc = acc * 2 ^ N + tb N b
  | 0, acc => by simp [tb]
  | N + 1, acc => by
    rw [List.range_succ, List.reverse_append, List.reverse_singleton, List.singleton_append, List.foldl_cons, foldl_rev b N, tb_add, Nat.pow_succ, Nat.add_mul, Nat.mul_assoc, Nat.mul_comm 2 (2 ^ N)]
    omega
theorem rngD_n (N : Nat) : rngD ((N : Int) - 1) N = ((List.range N).reverse).map nD := by
  unfold rngD
  apply List.ext_getElem
  · simp
  · intro i h1 h2
    simp at h1 h2
    simp only [List.getElem_map, List.getElem_range, List.getElem_reverse, List.length_range, nD, D.int.injEq]
    omega
def callFK (φ : List D → Option D) (p : List RV × Sto) : Option (RV × Sto) := (dsOf p.1).bind fun ds => (φ ds).map fun r => (.d r, p.2)
theorem eCallFh_1 {φ : List D → Option D} {h : Fe (List RV)} {a : Option RV} {ρ : Env'} {S : Sto} : eCallFh true 1 h (a :: some (.fn φ) :: ρ) S = (h (a :: some (.fn φ) :: ρ) S).bind (callFK φ) := (rfl)
theorem callFK_1 {φ : List D → Option D} {x r : D} {S : Sto} (h : φ [x] = some r) : callFK φ ([.d x], S) = some (.d r, S) := by
  unfold callFK
  simp only [dsOf_cons, dsOf_nil, omap_some, obind_some, h]
theorem lfrom_s {b : Nat → Bool} {φ : List D → Option D} {n : Nat} (hn : n ≤ 5) (hw : pr [nD n] = some (.v (nD (2 ^ n)))) (hφ : ∀ p, p < 2 ^ n → φ [nD p] = some (.bl (b p))) :
    runF 4 (S__law_from true pr) [.d (nD n), .fn φ] = some (.v (nD (tb (2 ^ n) b))) := by
  show (S__law_from true pr [some (.d (nD n)), some (.fn φ), none, none] []).bind finP = _
  unfold S__law_from
  have h5 := lim5 hn
  have h6 := Nat.two_pow_pos n
  have en := fun ρ S => eNeg_ (f := eC (.int 1)) (ρ := ρ) (S := S) (S1 := S) (i := 1) rfl
  have e3 : oR3 [.d (.int (((2 ^ n : Nat) : Int) - 1)), .d (.int (-1)), .d (.int (-1))] [] = some ⟨((List.range (2 ^ n)).reverse).map nD, none⟩ := by
    unfold oR3
    simp only
    rw [if_pos]
    · rw [← rngD_n]
      congr 3
      omega
    · have a1 : small62 (((2 ^ n : Nat) : Int) - 1) = true := by
        unfold small62
        rw [decide_eq_true (by omega), decide_eq_true (by omega)]
        rfl
      rw [a1]
      rfl
  dsimp? only [hw, en, e3, sFor_, Option.bind_assoc]
  refine wp_eq (wp_for (ds := (List.range (2 ^ n)).reverse) (e := nD) (a := 0) (fun a ρ S => S = [] ∧ ∃ x3, ρ = [some (.d (nD n)), some (.fn φ), some (.d (nD a)), x3]) (fun a p => a * 2 + (b p).toNat) ⟨rfl, _, rfl⟩ (fun p hp a ρ S ⟨e1, x3, e2⟩ => ?_) fun ρ' S' ⟨e1, x3, e2⟩ => ?_)
  · subst e1 e2
    have hp := List.mem_range.mp (List.mem_reverse.mp hp)
    have pm : ∀ i : Int, pMul i 2 = true := fun i => pMul_r (by decide) (by decide)
    have hf := hφ p hp
    cases hb : b p
    · rw [hb] at hf
      dsimp? only [eCallFh_1, callFK_1 hf, vMul_i (pm _)]
      exact wp_some ⟨.inl rfl, rfl, some (.d (nD p)), rfl⟩
    · rw [hb] at hf
      dsimp? only [eCallFh_1, callFK_1 hf, vMul_i (pm _)]
      exact wp_some ⟨.inl rfl, rfl, some (.d (nD p)), rfl⟩
  · subst e1 e2
    rw [foldl_rev, Nat.zero_mul, Nat.zero_add]
    simp? only []
    exact wp_some rfl
def callCK (S : Sto) (r : PR) : Option (RV × Sto) := match r with
  | .v x => some (.d x, S)
  | .l _ => none
theorem eCallC_d {FF : List RV → Option PR} {p : Psi} {la : Fe (List RV)} {ρ : Env'} {S : Sto} {d : D} (h : la ρ S = some ([.d d], S)) : eCallC 2 FF [p] la ρ S = (FF [.d d, p.at_ ρ]).bind (callCK S) := by
  unfold eCallC
  rw [h, Option.bind_some]
  exact if_pos rfl
theorem callCK_v {S : Sto} {x : D} : callCK S (.v x) = some (.d x, S) := (rfl)
theorem dec_mod {a : Nat} : decide ((a : Int) % 2 = 1) = decide (a % 2 = 1) := by
  by_cases h : a % 2 = 1
  · rw [decide_eq_true h, decide_eq_true (by omega)]
  · rw [decide_eq_false h, decide_eq_false (by omega)]
end
end Ev

/-! Tables of at most four inputs: weights, or a balance of two and two places. Printed by wip/gen/thr.py. -/
namespace Thr
def bals0 : List (List (Nat × Nat × Nat × Nat)) := [[]]
def msks0 : List (List (Nat × Nat)) := [[]]
def wits0 : List Nat := [21, 20]
def bals1 : List (List (Nat × Nat × Nat × Nat)) := [[], []]
def msks1 : List (List (Nat × Nat)) := [[], []]
def wits1 : List Nat := [213, 277, 148, 212]
def bals2 : List (List (Nat × Nat × Nat × Nat)) := [[], [], [], [(0, 3, 1, 2), (1, 2, 0, 3)]]
def msks2 : List (List (Nat × Nat)) := [[], [], [], [(9, 6), (6, 9)]]
def wits2 : List Nat := [1557, 2070, 1941, 2005, 1173, 1621, 2069, 1044, 1492, 1940, 1108, 1172, 1043, 1556]
def bals3 : List (List (Nat × Nat × Nat × Nat)) := [[], [], [], [(0, 3, 1, 2), (1, 2, 0, 3)], [], [(0, 5, 1, 4), (1, 4, 0, 5), (2, 5, 3, 4), (3, 4, 2, 5)], [(0, 6, 2, 4), (2, 4, 0, 6), (1, 6, 2, 5), (1, 6, 3, 4), (2, 5, 1, 6), (3, 4, 1, 6)], [(0, 7,
  1, 6), (0, 7, 2, 5), (0, 7, 3, 4), (1, 6, 0, 7), (2, 5, 0, 7), (3, 4, 0, 7), (1, 7, 3, 5), (3, 5, 1, 7), (2, 7, 3, 6), (3, 6, 2, 7), (4, 7, 5, 6), (5, 6, 4, 7)]]
def msks3 : List (List (Nat × Nat)) := [[], [], [], [(9, 6), (6, 9)], [], [(33, 18), (18, 33), (36, 24), (24, 36)], [(65, 20), (20, 65), (66, 36), (66, 24), (36, 66), (24, 66)], [(129, 66), (129, 36), (129, 24), (66, 129), (36, 129), (24,
  129), (130, 40), (40, 130), (132, 72), (72, 132), (144, 96), (96, 144)]]
def wits3 : List Nat := [10965, 14615, 14486, 14550, 13718, 14166, 17751, 13589, 14037, 17622, 13653, 16854, 16725, 14101, 8342, 11478, 15063, 14679, 14614, 17750, 8213, 11349, 14934, 14421, 14485, 17621, 8277, 8790, 8661,
  11413, 15062, 14933, 14549, 7445, 10581, 13782, 13269, 13717, 16853, 7893, 8406, 7509, 11029, 14678, 13781, 14165, 5205, 8341, 8789, 8405, 11477, 14613, 7316, 10452, 13524, 13140, 13588, 16724, 7764,
  8148, 7251, 10900, 14420, 13523, 14036, 5076, 8212, 8660, 8147, 11348, 14484, 7380, 6996, 6867, 10516, 13268, 13139, 13652, 4308, 7444, 7508, 6995, 10580, 13716, 4179, 7315, 7250, 6866, 10451, 13587,
  7828, 5204, 5075, 8276, 4307, 7892, 8340, 4178, 7763, 8211, 7379, 7443, 7314, 10964]
def bals4 : List (List (Nat × Nat × Nat × Nat)) := [[], [], [], [(0, 3, 1, 2), (1, 2, 0, 3)], [], [(0, 5, 1, 4), (1, 4, 0, 5), (2, 5, 3, 4), (3, 4, 2, 5)], [(0, 6, 2, 4), (2, 4, 0, 6), (1, 6, 2, 5), (1, 6, 3, 4), (2, 5, 1, 6), (3, 4, 1, 6)], [(0, 7,
  1, 6), (0, 7, 2, 5), (0, 7, 3, 4), (1, 6, 0, 7), (2, 5, 0, 7), (3, 4, 0, 7), (1, 7, 3, 5), (3, 5, 1, 7), (2, 7, 3, 6), (3, 6, 2, 7), (4, 7, 5, 6), (5, 6, 4, 7)], [], [(0, 9, 1, 8), (1, 8, 0, 9), (2,
  9, 3, 8), (3, 8, 2, 9), (4, 9, 5, 8), (5, 8, 4, 9), (6, 9, 7, 8), (7, 8, 6, 9)], [(0, 10, 2, 8), (2, 8, 0, 10), (1, 10, 2, 9), (1, 10, 3, 8), (2, 9, 1, 10), (3, 8, 1, 10), (4, 10, 6, 8), (6, 8, 4,
  10), (5, 10, 6, 9), (5, 10, 7, 8), (6, 9, 5, 10), (7, 8, 5, 10)], [(0, 11, 1, 10), (0, 11, 2, 9), (0, 11, 3, 8), (1, 10, 0, 11), (2, 9, 0, 11), (3, 8, 0, 11), (4, 11, 5, 10), (4, 11, 6, 9), (4, 11, 7,
  8), (5, 10, 4, 11), (6, 9, 4, 11), (7, 8, 4, 11), (1, 11, 3, 9), (3, 9, 1, 11), (5, 11, 7, 9), (7, 9, 5, 11), (2, 11, 3, 10), (3, 10, 2, 11), (6, 11, 7, 10), (7, 10, 6, 11), (8, 11, 9, 10), (9, 10, 8,
  11)], [(0, 12, 4, 8), (4, 8, 0, 12), (1, 12, 4, 9), (1, 12, 5, 8), (4, 9, 1, 12), (5, 8, 1, 12), (2, 12, 4, 10), (2, 12, 6, 8), (4, 10, 2, 12), (6, 8, 2, 12), (3, 12, 4, 11), (3, 12, 5, 10), (3, 12,
  6, 9), (3, 12, 7, 8), (4, 11, 3, 12), (5, 10, 3, 12), (6, 9, 3, 12), (7, 8, 3, 12)], [(0, 13, 1, 12), (0, 13, 4, 9), (0, 13, 5, 8), (1, 12, 0, 13), (4, 9, 0, 13), (5, 8, 0, 13), (2, 13, 3, 12), (2,
  13, 4, 11), (2, 13, 5, 10), (2, 13, 6, 9), (2, 13, 7, 8), (3, 12, 2, 13), (4, 11, 2, 13), (5, 10, 2, 13), (6, 9, 2, 13), (7, 8, 2, 13), (1, 13, 5, 9), (5, 9, 1, 13), (3, 13, 5, 11), (3, 13, 7, 9), (5,
  11, 3, 13), (7, 9, 3, 13), (4, 13, 5, 12), (5, 12, 4, 13), (6, 13, 7, 12), (7, 12, 6, 13), (8, 13, 9, 12), (9, 12, 8, 13), (10, 13, 11, 12), (11, 12, 10, 13)], [(0, 14, 2, 12), (0, 14, 4, 10), (0, 14,
  6, 8), (2, 12, 0, 14), (4, 10, 0, 14), (6, 8, 0, 14), (1, 14, 2, 13), (1, 14, 3, 12), (1, 14, 4, 11), (1, 14, 5, 10), (1, 14, 6, 9), (1, 14, 7, 8), (2, 13, 1, 14), (3, 12, 1, 14), (4, 11, 1, 14), (5,
  10, 1, 14), (6, 9, 1, 14), (7, 8, 1, 14), (2, 14, 6, 10), (6, 10, 2, 14), (3, 14, 6, 11), (3, 14, 7, 10), (6, 11, 3, 14), (7, 10, 3, 14), (4, 14, 6, 12), (6, 12, 4, 14), (5, 14, 6, 13), (5, 14, 7,
  12), (6, 13, 5, 14), (7, 12, 5, 14), (8, 14, 10, 12), (10, 12, 8, 14), (9, 14, 10, 13), (9, 14, 11, 12), (10, 13, 9, 14), (11, 12, 9, 14)], [(0, 15, 1, 14), (0, 15, 2, 13), (0, 15, 3, 12), (0, 15, 4,
  11), (0, 15, 5, 10), (0, 15, 6, 9), (0, 15, 7, 8), (1, 14, 0, 15), (2, 13, 0, 15), (3, 12, 0, 15), (4, 11, 0, 15), (5, 10, 0, 15), (6, 9, 0, 15), (7, 8, 0, 15), (1, 15, 3, 13), (1, 15, 5, 11), (1, 15,
  7, 9), (3, 13, 1, 15), (5, 11, 1, 15), (7, 9, 1, 15), (2, 15, 3, 14), (2, 15, 6, 11), (2, 15, 7, 10), (3, 14, 2, 15), (6, 11, 2, 15), (7, 10, 2, 15), (3, 15, 7, 11), (7, 11, 3, 15), (4, 15, 5, 14),
  (4, 15, 6, 13), (4, 15, 7, 12), (5, 14, 4, 15), (6, 13, 4, 15), (7, 12, 4, 15), (5, 15, 7, 13), (7, 13, 5, 15), (6, 15, 7, 14), (7, 14, 6, 15), (8, 15, 9, 14), (8, 15, 10, 13), (8, 15, 11, 12), (9,
  14, 8, 15), (10, 13, 8, 15), (11, 12, 8, 15), (9, 15, 11, 13), (11, 13, 9, 15), (10, 15, 11, 14), (11, 14, 10, 15), (12, 15, 13, 14), (13, 14, 12, 15)]]
def msks4 : List (List (Nat × Nat)) := [[], [], [], [(9, 6), (6, 9)], [], [(33, 18), (18, 33), (36, 24), (24, 36)], [(65, 20), (20, 65), (66, 36), (66, 24), (36, 66), (24, 66)], [(129, 66), (129, 36), (129, 24), (66, 129), (36, 129), (24,
  129), (130, 40), (40, 130), (132, 72), (72, 132), (144, 96), (96, 144)], [], [(513, 258), (258, 513), (516, 264), (264, 516), (528, 288), (288, 528), (576, 384), (384, 576)], [(1025, 260), (260,
  1025), (1026, 516), (1026, 264), (516, 1026), (264, 1026), (1040, 320), (320, 1040), (1056, 576), (1056, 384), (576, 1056), (384, 1056)], [(2049, 1026), (2049, 516), (2049, 264), (1026, 2049), (516,
  2049), (264, 2049), (2064, 1056), (2064, 576), (2064, 384), (1056, 2064), (576, 2064), (384, 2064), (2050, 520), (520, 2050), (2080, 640), (640, 2080), (2052, 1032), (1032, 2052), (2112, 1152), (1152,
  2112), (2304, 1536), (1536, 2304)], [(4097, 272), (272, 4097), (4098, 528), (4098, 288), (528, 4098), (288, 4098), (4100, 1040), (4100, 320), (1040, 4100), (320, 4100), (4104, 2064), (4104, 1056),
  (4104, 576), (4104, 384), (2064, 4104), (1056, 4104), (576, 4104), (384, 4104)], [(8193, 4098), (8193, 528), (8193, 288), (4098, 8193), (528, 8193), (288, 8193), (8196, 4104), (8196, 2064), (8196,
  1056), (8196, 576), (8196, 384), (4104, 8196), (2064, 8196), (1056, 8196), (576, 8196), (384, 8196), (8194, 544), (544, 8194), (8200, 2080), (8200, 640), (2080, 8200), (640, 8200), (8208, 4128),
  (4128, 8208), (8256, 4224), (4224, 8256), (8448, 4608), (4608, 8448), (9216, 6144), (6144, 9216)], [(16385, 4100), (16385, 1040), (16385, 320), (4100, 16385), (1040, 16385), (320, 16385), (16386,
  8196), (16386, 4104), (16386, 2064), (16386, 1056), (16386, 576), (16386, 384), (8196, 16386), (4104, 16386), (2064, 16386), (1056, 16386), (576, 16386), (384, 16386), (16388, 1088), (1088, 16388),
  (16392, 2112), (16392, 1152), (2112, 16392), (1152, 16392), (16400, 4160), (4160, 16400), (16416, 8256), (16416, 4224), (8256, 16416), (4224, 16416), (16640, 5120), (5120, 16640), (16896, 9216),
  (16896, 6144), (9216, 16896), (6144, 16896)], [(32769, 16386), (32769, 8196), (32769, 4104), (32769, 2064), (32769, 1056), (32769, 576), (32769, 384), (16386, 32769), (8196, 32769), (4104, 32769),
  (2064, 32769), (1056, 32769), (576, 32769), (384, 32769), (32770, 8200), (32770, 2080), (32770, 640), (8200, 32770), (2080, 32770), (640, 32770), (32772, 16392), (32772, 2112), (32772, 1152), (16392,
  32772), (2112, 32772), (1152, 32772), (32776, 2176), (2176, 32776), (32784, 16416), (32784, 8256), (32784, 4224), (16416, 32784), (8256, 32784), (4224, 32784), (32800, 8320), (8320, 32800), (32832,
  16512), (16512, 32832), (33024, 16896), (33024, 9216), (33024, 6144), (16896, 33024), (9216, 33024), (6144, 33024), (33280, 10240), (10240, 33280), (33792, 18432), (18432, 33792), (36864, 24576),
  (24576, 36864)]]
def wits4 : List Nat := [76821, 102424, 102295, 102359, 101527, 101975, 127513, 101398, 101846, 127384, 101462, 126616, 126487, 101910, 96151, 99287, 124825, 124441, 124376, 149465, 96022, 99158, 124696, 124183, 124247,
  149336, 96086, 118552, 118423, 99222, 146777, 146648, 124311, 95254, 98390, 123544, 123031, 123479, 148568, 95702, 118168, 117271, 98838, 146393, 145496, 123927, 114967, 118103, 140504, 140120,
  121239, 146328, 95125, 98261, 123286, 122902, 123350, 148439, 95573, 117910, 117013, 98709, 146135, 145238, 123798, 114838, 117974, 140375, 139862, 121110, 146199, 95189, 116758, 116629, 98325,
  144983, 144854, 123414, 114070, 117206, 139223, 138710, 120342, 145431, 113941, 117077, 138965, 138581, 120213, 145302, 95637, 136919, 136790, 118038, 136022, 117654, 140055, 135893, 117525, 139926,
  117141, 139158, 139029, 98773, 58519, 80471, 106009, 105625, 105560, 130649, 102937, 102872, 102488, 102423, 127512, 125273, 124824, 149913, 124505, 124440, 149529, 146841, 124375, 146327, 58390,
  80342, 105880, 105367, 105431, 130520, 102679, 102743, 102230, 102294, 127383, 125144, 124695, 149784, 124118, 124182, 149271, 146583, 124246, 146198, 58454, 62104, 61975, 80406, 109145, 109016,
  105495, 106457, 106008, 131097, 106328, 105879, 130968, 102807, 128409, 128280, 102358, 149912, 149783, 124310, 57622, 79574, 104728, 104215, 104663, 129752, 101143, 101591, 101078, 101526, 126615,
  123608, 123543, 148632, 122582, 123030, 148119, 145047, 123478, 145430, 58070, 61720, 60823, 80022, 108761, 107864, 105111, 105689, 105624, 130713, 104792, 104727, 129816, 102039, 127641, 126744,
  101974, 149528, 148631, 123926, 39703, 61655, 65240, 64856, 83607, 108696, 109209, 105559, 131096, 130712, 127511, 149463, 57493, 79445, 104470, 104086, 104534, 129623, 100885, 101333, 100949, 101397,
  126486, 123221, 123285, 148374, 122453, 122901, 147990, 144789, 123349, 145301, 57941, 61462, 60565, 79893, 108503, 107606, 104982, 105302, 105366, 130455, 104405, 104469, 129558, 101781, 127254,
  126357, 101845, 149270, 148373, 123797, 39574, 61526, 65111, 64598, 83478, 108567, 108951, 105430, 130967, 130454, 127382, 149334, 57557, 60310, 60181, 79509, 107351, 107222, 104598, 103766, 104214,
  129303, 103637, 104085, 129174, 101013, 125718, 125589, 101461, 148118, 147989, 123413, 38806, 60758, 63959, 63446, 82710, 107799, 107415, 104662, 129815, 129302, 126614, 148566, 38677, 60629, 63701,
  63317, 82581, 107670, 107157, 104533, 129557, 129173, 126485, 148437, 58005, 42839, 42710, 61590, 41942, 61206, 64791, 41813, 61077, 64662, 60693, 63894, 63765, 79957, 108695, 108566, 105494, 107798,
  105110, 130647, 107669, 104981, 130518, 104597, 129750, 129621, 101909, 52246, 74198, 96664, 93463, 96599, 119000, 93079, 96215, 118232, 93014, 96150, 118551, 118167, 140568, 111830, 114966, 137367,
  136983, 118102, 140054, 55382, 59032, 52759, 77334, 103385, 103001, 102936, 97112, 99735, 125337, 96728, 99351, 124953, 96663, 119064, 118680, 99286, 146840, 140567, 121238, 37015, 58967, 62552,
  59480, 80919, 106521, 103320, 102871, 128408, 125336, 124823, 146775, 36631, 58583, 61784, 59096, 80535, 106137, 102552, 102487, 127640, 124952, 124439, 146391, 36566, 58518, 62103, 61719, 65304,
  59031, 62616, 62232, 80470, 109208, 106520, 106007, 106136, 105623, 102935, 102422, 124374, 17750, 39702, 43287, 42903, 61654, 64790, 65303, 83606, 109143, 108759, 105558, 127510, 52117, 74069, 96406,
  93334, 96470, 118871, 92821, 95957, 117845, 92885, 96021, 118422, 117909, 140310, 111701, 114837, 137238, 136725, 117973, 139925, 55253, 58774, 52501, 77205, 103127, 102614, 102678, 96854, 99606,
  125079, 96341, 99093, 124566, 96405, 118806, 118293, 99157, 146582, 140309, 121109, 36886, 58838, 62423, 59222, 80790, 106263, 103191, 102742, 128279, 125078, 124694, 146646, 36373, 58325, 61397,
  58709, 80277, 105750, 102165, 102229, 127253, 124565, 124181, 146133, 36437, 58389, 61974, 61461, 65046, 58773, 62358, 61845, 80341, 108950, 106262, 105878, 105749, 105365, 102677, 102293, 124245,
  17621, 39573, 43158, 42645, 61525, 64661, 65045, 83477, 109014, 108501, 105429, 127381, 52181, 49558, 49429, 74133, 93911, 93782, 96534, 90326, 93462, 115863, 90197, 93333, 115734, 92949, 112278,
  112149, 96085, 137366, 137237, 118037, 30742, 52694, 53207, 50006, 74646, 97047, 93975, 96598, 119063, 115862, 118550, 140502, 30613, 52565, 52949, 49877, 74517, 96918, 93717, 96469, 118805, 115733,
  118421, 140373, 55317, 37463, 37334, 58902, 31190, 55830, 59415, 31061, 55701, 59286, 52629, 53142, 53013, 77269, 103319, 103190, 102806, 97046, 99734, 125271, 96917, 99605, 125142, 96533, 118998,
  118869, 99221, 15062, 37014, 40599, 37527, 58966, 62615, 59414, 80918, 106455, 103383, 102870, 124822, 14933, 36885, 40470, 37269, 58837, 62357, 59285, 80789, 106326, 103125, 102741, 124693, 36501,
  18198, 18069, 58453, 43286, 43157, 61589, 40598, 62102, 65238, 40469, 61973, 65109, 58901, 62550, 62421, 80405, 106006, 105877, 102357, 51349, 73301, 94870, 92182, 95318, 117335, 91669, 94805, 116309,
  92117, 95253, 117270, 116757, 138774, 110933, 114069, 136086, 135573, 117205, 139157, 54485, 57238, 50965, 76437, 101207, 100694, 101142, 94934, 98454, 123159, 94421, 97941, 122646, 94869, 116886,
  116373, 98389, 145046, 138773, 120341, 35734, 57686, 60887, 57302, 79638, 104343, 101655, 101590, 126743, 123158, 123542, 145494, 35221, 57173, 59861, 56789, 79125, 103830, 100629, 101077, 125717,
  122645, 123029, 144981, 35669, 57621, 60822, 60309, 63510, 57237, 60438, 59925, 79573, 107414, 104342, 104726, 103829, 104213, 101141, 101525, 123477, 16853, 38805, 42006, 41493, 60757, 63893, 63509,
  82709, 107862, 107349, 104661, 126613, 51797, 49174, 48277, 73749, 93143, 92246, 95766, 89942, 93078, 115095, 89045, 92181, 114198, 92565, 111894, 110997, 95701, 136982, 136085, 117653, 30358, 52310,
  52823, 49238, 74262, 96279, 93591, 96214, 118679, 115094, 118166, 140118, 29461, 51413, 51029, 48341, 73365, 95382, 91797, 95317, 116885, 114197, 117269, 139221, 54933, 36695, 35798, 58134, 30422,
  55446, 58647, 29525, 54549, 57750, 51861, 52374, 51477, 76885, 102551, 101654, 102038, 96278, 99350, 124503, 95381, 98453, 123606, 95765, 118230, 117333, 98837, 14678, 36630, 39831, 37143, 58582,
  62231, 58646, 80534, 105687, 102999, 102486, 124438, 13781, 35733, 38934, 35349, 57685, 60437, 57749, 79637, 104790, 101205, 101589, 123541, 36117, 17814, 16917, 58069, 42902, 42005, 61205, 39830,
  61718, 64854, 38933, 60821, 63957, 58133, 61782, 60885, 80021, 105622, 104725, 101973, 27157, 49109, 46421, 46037, 71061, 90390, 89877, 93013, 112277, 111893, 114965, 136917, 30293, 52245, 52758,
  49557, 50070, 49173, 49686, 46485, 74197, 93974, 93590, 96662, 90389, 93461, 93077, 96149, 118101, 8789, 30741, 31254, 28053, 52693, 53141, 50069, 74645, 97110, 93909, 96597, 118549, 8405, 30357,
  30870, 27285, 52309, 52373, 49685, 74261, 96726, 93141, 96213, 118165, 33429, 15126, 8853, 55381, 37526, 37142, 59030, 31253, 55829, 59478, 30869, 55445, 59094, 52757, 53205, 52821, 77333, 102934,
  96661, 99285, 14613, 36565, 18197, 17813, 39701, 42837, 15125, 37013, 36629, 58517, 61653, 37461, 58965, 62101, 36693, 58581, 61717, 59029, 80469, 102421, 51220, 73172, 94612, 91924, 95060, 116948,
  91540, 94676, 116180, 91988, 95124, 117012, 116628, 138516, 110804, 113940, 135828, 135444, 117076, 139028, 54356, 56980, 50707, 76308, 100820, 100436, 100884, 94547, 98196, 122772, 94163, 97812,
  122388, 94611, 116499, 116115, 98260, 144788, 138515, 120212, 35476, 57428, 60500, 56915, 79380, 103956, 101268, 101332, 126356, 122771, 123284, 145236, 35092, 57044, 59732, 56531, 78996, 103572,
  100500, 100948, 125588, 122387, 122900, 144852, 35540, 57492, 60564, 60180, 63252, 56979, 60051, 59667, 79444, 107156, 103955, 104468, 103571, 104084, 100883, 101396, 123348, 16724, 38676, 41748,
  41364, 60628, 63764, 63251, 82580, 107604, 107220, 104532, 126484, 51668, 48916, 48019, 73620, 92756, 91859, 95508, 89684, 92820, 114708, 88787, 91923, 113811, 92436, 111636, 110739, 95572, 136724,
  135827, 117524, 30100, 52052, 52436, 48851, 74004, 95892, 93204, 95956, 118292, 114707, 117908, 139860, 29203, 51155, 50642, 47954, 73107, 94995, 91410, 95059, 116498, 113810, 117011, 138963, 54804,
  36308, 35411, 57876, 30035, 55188, 58260, 29138, 54291, 57363, 51603, 51987, 51090, 76756, 102164, 101267, 101780, 95891, 99092, 124116, 94994, 98195, 123219, 95507, 117843, 116946, 98708, 14420,
  36372, 39444, 36756, 58324, 61844, 58259, 80276, 105300, 102612, 102228, 124180, 13523, 35475, 38547, 34962, 57427, 60050, 57362, 79379, 104403, 100818, 101331, 123283, 35988, 17556, 16659, 57940,
  42644, 41747, 61076, 39443, 61460, 64596, 38546, 60563, 63699, 57875, 61395, 60498, 79892, 105364, 104467, 101844, 27028, 48980, 46292, 45779, 70932, 90132, 89748, 92884, 112148, 111635, 114836,
  136788, 30164, 52116, 52500, 49428, 49812, 48915, 49299, 46227, 74068, 93716, 93203, 96404, 90131, 93332, 92819, 96020, 117972, 8660, 30612, 30996, 27924, 52564, 53012, 49811, 74516, 96852, 93780,
  96468, 118420, 8147, 30099, 30483, 26898, 52051, 51986, 49298, 74003, 96339, 92754, 95955, 117907, 33300, 14868, 8595, 55252, 37268, 36755, 58772, 30995, 55700, 59220, 30482, 55187, 58707, 52499,
  52947, 52434, 77204, 102676, 96403, 99156, 14484, 36436, 18068, 17555, 39572, 42708, 14867, 36884, 36371, 58388, 61524, 37332, 58836, 61972, 36306, 58323, 61459, 58771, 80340, 102292, 51284, 47764,
  47635, 73236, 91220, 91091, 94740, 88532, 91668, 113172, 88403, 91539, 113043, 92052, 110484, 110355, 95188, 135572, 135443, 117140, 28948, 50900, 50516, 47315, 72852, 94356, 91284, 94804, 116372,
  113171, 116756, 138708, 28819, 50771, 50258, 47186, 72723, 94227, 91026, 94675, 116114, 113042, 116627, 138579, 54420, 34772, 34643, 57108, 28499, 54036, 56724, 28370, 53907, 56595, 50835, 50451,
  50322, 76372, 100628, 100499, 101012, 94355, 97940, 122580, 94226, 97811, 122451, 94739, 116307, 116178, 98324, 13268, 35220, 37908, 34836, 57172, 59924, 56723, 79124, 103764, 100692, 101076, 123028,
  13139, 35091, 37779, 34578, 57043, 59666, 56594, 78995, 103635, 100434, 100947, 122899, 35604, 16404, 16275, 57556, 41492, 41363, 60692, 37907, 60308, 63444, 37778, 60179, 63315, 57107, 59859, 59730,
  79508, 104212, 104083, 101460, 26260, 48212, 45140, 44627, 70164, 88596, 88980, 92116, 110996, 110483, 114068, 136020, 29396, 51348, 50964, 48276, 47892, 47763, 47379, 44691, 73300, 91796, 91283,
  94868, 88595, 92180, 91667, 95252, 117204, 7508, 29460, 29076, 26388, 51412, 51476, 47891, 73364, 94932, 92244, 95316, 117268, 6995, 28947, 28563, 25362, 50899, 50450, 47378, 72851, 94419, 91218,
  94803, 116755, 32532, 13332, 7059, 54484, 35348, 34835, 57236, 29075, 54548, 57300, 28562, 54035, 56787, 50963, 51027, 50514, 76436, 101140, 94867, 98388, 13716, 35668, 16916, 16403, 38804, 41940,
  13331, 35732, 35219, 57620, 60756, 35796, 57684, 60820, 34770, 57171, 60307, 57235, 79572, 101524, 26131, 48083, 44882, 44498, 70035, 88338, 88851, 91987, 110738, 110354, 113939, 135891, 29267, 51219,
  50706, 48018, 47505, 47634, 47121, 44433, 73171, 91409, 91025, 94610, 88337, 91922, 91538, 95123, 117075, 7250, 29202, 28689, 26001, 51154, 51089, 47504, 73106, 94545, 91857, 95058, 117010, 6866,
  28818, 28305, 25233, 50770, 50321, 47120, 72722, 94161, 91089, 94674, 116626, 32403, 13074, 6801, 54355, 34961, 34577, 56978, 28688, 54290, 56913, 28304, 53906, 56529, 50705, 50640, 50256, 76307,
  100882, 94609, 98259, 13587, 35539, 16658, 16274, 38675, 41811, 13073, 35474, 35090, 57491, 60627, 35409, 57426, 60562, 34641, 57042, 60178, 56977, 79443, 101395, 51732, 24020, 23891, 49044, 23123,
  48660, 45972, 22994, 48531, 45843, 48147, 45075, 44946, 73684, 89876, 89747, 92948, 88979, 92564, 111828, 88850, 92435, 111699, 92051, 110931, 110802, 95636, 5204, 27156, 24468, 24084, 49108, 46484,
  45971, 71060, 90324, 89940, 93012, 114964, 5075, 27027, 24339, 23826, 48979, 46226, 45842, 70931, 90195, 89682, 92883, 114835, 30228, 5652, 5523, 52180, 28052, 27923, 52628, 24467, 49556, 50004,
  24338, 49427, 49875, 49043, 46419, 46290, 74132, 93460, 93331, 96084, 4307, 26259, 23187, 22674, 48211, 44690, 45074, 70163, 89043, 88530, 92115, 114067, 29844, 5268, 4371, 51796, 27284, 26387, 51860,
  24083, 49172, 49236, 23186, 48275, 48339, 48659, 46035, 45138, 73748, 93076, 92179, 95700, 8340, 30292, 8852, 5651, 30740, 31188, 5267, 30356, 30420, 27155, 52244, 52692, 52308, 52756, 24018, 49107,
  49555, 49171, 74196, 96148, 4178, 26130, 22929, 22545, 48082, 44432, 44945, 70034, 88785, 88401, 91986, 113938, 29715, 5010, 4113, 51667, 26897, 26000, 51602, 23825, 48914, 48849, 22928, 48017, 47952,
  48530, 45777, 44880, 73619, 92818, 91921, 95571, 8211, 30163, 8594, 5522, 30611, 31059, 5009, 30098, 30033, 27026, 52115, 52563, 52050, 52498, 23889, 48978, 49426, 48913, 74067, 96019, 29331, 3858,
  3729, 51283, 25361, 25232, 50834, 22673, 47762, 47313, 22544, 47633, 47184, 48146, 44625, 44496, 73235, 91666, 91537, 95187, 7443, 29395, 7058, 4370, 29459, 29523, 3857, 28946, 28497, 26258, 51347,
  51411, 50898, 50962, 23121, 48210, 48274, 47761, 73299, 95251, 7314, 29266, 6800, 4112, 29201, 29136, 3728, 28817, 28368, 26129, 51218, 51153, 50769, 50704, 22992, 48081, 48016, 47632, 73170, 95122,
  54868, 14612, 14483, 36500, 13715, 36116, 17748, 13586, 35987, 17619, 35603, 16851, 16722, 58004, 8339, 33428, 15060, 14676, 36564, 39700, 8210, 33299, 14931, 14418, 36435, 39571, 30227, 8787, 8658,
  55316, 37012, 36883, 58452, 7442, 32531, 13779, 13266, 35667, 38803, 29843, 8403, 7506, 54932, 36628, 35731, 58068, 5202, 30291, 30739, 30355, 55380, 58516, 7313, 32402, 13521, 13137, 35538, 38674,
  29714, 8145, 7248, 54803, 36370, 35473, 57939, 5073, 30162, 30610, 30097, 55251, 58387, 29330, 6993, 6864, 54419, 35218, 35089, 57555, 4305, 29394, 29458, 28945, 54483, 57619, 4176, 29265, 29200,
  28816, 54354, 57490, 51731, 27154, 27025, 52179, 26257, 51795, 52243, 26128, 51666, 52114, 51282, 51346, 51217, 76820]
/-- the weights of the inputs that are 1, together; from the input k on -/
def wtF : List Int → Nat → Nat → Int
  | [], _, _ => 0
  | w :: ws, k, p => (if p.testBit k = true then w else 0) + wtF ws (k + 1) p
def wt (ws : List Int) (p : Nat) : Int := wtF ws 0 p
def Makes (n t : Nat) (ws : List Int) (b : Int) : Prop := ∀ p, p < 2 ^ n → t.testBit p = decide (b ≤ wt ws p)
def Bal (n t : Nat) : Prop := ∃ a b c d : Nat, a ≤ b ∧ b < 2 ^ n ∧ c ≤ d ∧ d < 2 ^ n ∧ t.testBit a = true ∧ t.testBit b = true ∧ t.testBit c = false ∧ t.testBit d = false ∧ a &&& b = c &&& d ∧ a ^^^ b = c ^^^ d
theorem wt_pair {a b c d : Nat} (h1 : a &&& b = c &&& d) (h2 : a ^^^ b = c ^^^ d) : ∀ (ws : List Int) (k : Nat), wtF ws k a + wtF ws k b = wtF ws k c + wtF ws k d
  | [], _ => rfl
  | w :: ws, k => by
    have ih := wt_pair h1 h2 ws (k + 1)
    have e1 : (a.testBit k && b.testBit k) = (c.testBit k && d.testBit k) := by rw [← Nat.testBit_and, ← Nat.testBit_and, h1]
    have e2 : (a.testBit k ^^ b.testBit k) = (c.testBit k ^^ d.testBit k) := by rw [← Nat.testBit_xor, ← Nat.testBit_xor, h2]
    unfold wtF
    cases ha : a.testBit k <;> cases hb : b.testBit k <;> cases hc : c.testBit k <;> cases hd : d.testBit k <;> rw [ha, hb, hc, hd] at e1 e2 <;> first | (cases e1; done) | (cases e2; done) | (simp; omega)
theorem no_bal {n t : Nat} {ws : List Int} {b : Int} (h : Makes n t ws b) : ¬ Bal n t := by
  rintro ⟨a, b', c, d, h1, h2, h3, h4, ta, tb, tc, td, e1, e2⟩
  have q := wt_pair e1 e2 ws 0
  rw [h a (by omega), decide_eq_true_eq] at ta
  rw [h b' h2, decide_eq_true_eq] at tb
  rw [h c (by omega), decide_eq_false_iff_not] at tc
  rw [h d h4, decide_eq_false_iff_not] at td
  unfold wt at ta tb tc td
  omega
/-! ### the search -/
def mk (q : Nat × Nat × Nat × Nat) : Nat × Nat := (2 ^ q.1 ||| 2 ^ q.2.1, 2 ^ q.2.2.1 ||| 2 ^ q.2.2.2)
def hasBal : List (Nat × Nat) → Nat → Bool
  | [], _ => false
  | m :: l, u => if u &&& m.1 = m.1 then (if u &&& m.2 = 0 then true else hasBal l u) else hasBal l u
def dec : Nat → Nat → List Int
  | 0, _ => []
  | n + 1, x => (((x % 7 : Nat) : Int) - 3) :: dec n (x / 7)
def okW (n u x : Nat) : Bool := (List.range (2 ^ n)).all fun p => u.testBit p == decide ((((x % 64 : Nat) : Int) - 20) ≤ wt (dec n (x / 64)) p)
def go (n : Nat) : List (List (Nat × Nat)) → Nat → Nat → List Nat → Option (List Nat)
  | [], _, u, x :: ws => if okW n u x = true then some ws else none
  | [], _, _, [] => none
  | l :: B, k, u, ws => (if hasBal l u = true then some ws else go n B (k + 1) u ws).bind fun ws' => if hasBal l (u ||| 2 ^ k) = true then some ws' else go n B (k + 1) (u ||| 2 ^ k) ws'
def okQ (k : Nat) (q : Nat × Nat × Nat × Nat) : Bool := decide (q.1 ≤ q.2.1) && decide (q.2.1 ≤ k) && decide (q.2.2.1 ≤ q.2.2.2) && decide (q.2.2.2 ≤ k) && decide (q.1 &&& q.2.1 = q.2.2.1 &&& q.2.2.2) && decide (q.1 ^^^ q.2.1 = q.2.2.1 ^^^ q.2.2.2)
def okB : List (List (Nat × Nat × Nat × Nat)) → Nat → Bool
  | [], _ => true
  | l :: B, k => l.all (okQ k) && okB B (k + 1)
theorem ok0 : okB bals0 0 = true ∧ bals0.map (·.map mk) = msks0 ∧ bals0.length = 2 ^ 0 ∧ go 0 msks0 0 0 wits0 = some [] := by decide +kernel
theorem ok1 : okB bals1 0 = true ∧ bals1.map (·.map mk) = msks1 ∧ bals1.length = 2 ^ 1 ∧ go 1 msks1 0 0 wits1 = some [] := by decide +kernel
theorem ok2 : okB bals2 0 = true ∧ bals2.map (·.map mk) = msks2 ∧ bals2.length = 2 ^ 2 ∧ go 2 msks2 0 0 wits2 = some [] := by decide +kernel
theorem ok3 : okB bals3 0 = true ∧ bals3.map (·.map mk) = msks3 ∧ bals3.length = 2 ^ 3 ∧ go 3 msks3 0 0 wits3 = some [] := by decide +kernel
theorem ok4 : okB bals4 0 = true ∧ bals4.map (·.map mk) = msks4 ∧ bals4.length = 2 ^ 4 ∧ go 4 msks4 0 0 wits4 = some [] := by decide +kernel
end Thr

/-! Tables of at most four inputs: what the search shows. -/
namespace Thr
theorem bal_at : ∀ {l : List (Nat × Nat × Nat × Nat)} {u : Nat}, hasBal (l.map mk) u = true → ∃ q ∈ l, u.testBit q.1 = true ∧ u.testBit q.2.1 = true ∧ u.testBit q.2.2.1 = false ∧ u.testBit q.2.2.2 = false
  | [], _, h => by cases h
  | q :: l, u, h => by
    unfold hasBal at h
    rw [List.map_cons] at h
    simp only at h
    split at h
    · rename_i h1
      split at h
      · rename_i h2
        have b1 : ∀ i, (u.testBit i && (mk q).1.testBit i) = (mk q).1.testBit i := fun i => by rw [← Nat.testBit_and, h1]
        have b2 : ∀ i, (u.testBit i && (mk q).2.testBit i) = false := fun i => by rw [← Nat.testBit_and, h2, Nat.zero_testBit]
        have m1 : (mk q).1.testBit q.1 = true := by simp [mk, Nat.testBit_or, Nat.testBit_two_pow]
        have m2 : (mk q).1.testBit q.2.1 = true := by simp [mk, Nat.testBit_or, Nat.testBit_two_pow]
        have m3 : (mk q).2.testBit q.2.2.1 = true := by simp [mk, Nat.testBit_or, Nat.testBit_two_pow]
        have m4 : (mk q).2.testBit q.2.2.2 = true := by simp [mk, Nat.testBit_or, Nat.testBit_two_pow]
        have c1 := b1 q.1; have c2 := b1 q.2.1; have c3 := b2 q.2.2.1; have c4 := b2 q.2.2.2
        rw [m1, Bool.and_true] at c1
        rw [m2, Bool.and_true] at c2
        rw [m3, Bool.and_true] at c3
        rw [m4, Bool.and_true] at c4
        exact ⟨q, List.mem_cons_self, c1, c2, c3, c4⟩
      · obtain ⟨q', hq, r⟩ := bal_at h
        exact ⟨q', List.mem_cons_of_mem _ hq, r⟩
    · obtain ⟨q', hq, r⟩ := bal_at h
      exact ⟨q', List.mem_cons_of_mem _ hq, r⟩
theorem bal_of {n t u k : Nat} {l : List (Nat × Nat × Nat × Nat)} (hk : k < 2 ^ n) (hl : l.all (okQ k) = true) (hu : ∀ p, p < k + 1 → t.testBit p = u.testBit p) (h : hasBal (l.map mk) u = true) : Bal n t := by
  obtain ⟨q, hq, a, b, c, d⟩ := bal_at h
  have z := List.all_eq_true.mp hl q hq
  unfold okQ at z
  simp only [Bool.and_eq_true, decide_eq_true_eq] at z
  obtain ⟨⟨⟨⟨⟨z1, z2⟩, z3⟩, z4⟩, z5⟩, z6⟩ := z
  exact ⟨q.1, q.2.1, q.2.2.1, q.2.2.2, z1, by omega, z3, by omega, (hu _ (by omega)).trans a, (hu _ (by omega)).trans b, (hu _ (by omega)).trans c, (hu _ (by omega)).trans d, z5, z6⟩
theorem go_sound {n : Nat} : ∀ (B : List (List (Nat × Nat × Nat × Nat))) (k u : Nat) (ws r : List Nat), okB B k = true → k + B.length = 2 ^ n → u < 2 ^ k → go n (B.map (·.map mk)) k u ws = some r → ∀ t, t < 2 ^ 2 ^ n → (∀ p, p < k → t.testBit p = u.testBit p) → Bal n t ∨ ∃ x, okW n t x = true
  | [], k, u, ws, r, _, hk, hu, h, t, ht, hp => by
    have hk : k = 2 ^ n := by simpa using hk
    subst hk
    have e : t = u := Nat.eq_of_testBit_eq fun i => by
      by_cases hi : i < 2 ^ n
      · exact hp i hi
      · rw [Nat.testBit_lt_two_pow (Nat.lt_of_lt_of_le ht (Nat.pow_le_pow_right (by decide) (by omega))), Nat.testBit_lt_two_pow (Nat.lt_of_lt_of_le hu (Nat.pow_le_pow_right (by decide) (by omega)))]
    subst e
    cases ws with
    | nil => cases h
    | cons x ws =>
      refine .inr ⟨x, ?_⟩
      unfold go at h
      simp only [List.map_nil] at h
      split at h
      · assumption
      · cases h
  | l :: B, k, u, ws, r, hB, hk, hu, h, t, ht, hp => by
    unfold okB at hB
    rw [Bool.and_eq_true] at hB
    rw [List.length_cons] at hk
    have hkn : k < 2 ^ n := by omega
    rw [List.map_cons] at h
    unfold go at h
    cases h1 : (if hasBal (l.map mk) u = true then some ws else go n (B.map (·.map mk)) (k + 1) u ws) with
    | none => rw [h1] at h; cases h
    | some ws' =>
      rw [h1] at h
      simp only [Option.bind_some] at h
      have hk2 : 2 ^ k < 2 ^ (k + 1) := Nat.pow_lt_pow_right (by decide) (by omega)
      have uk : u.testBit k = false := Nat.testBit_lt_two_pow hu
      cases hb : t.testBit k with
      | false =>
        have hp' : ∀ p, p < k + 1 → t.testBit p = u.testBit p := fun p h2 => by
          by_cases e : p = k
          · rw [e, hb, uk]
          · exact hp p (by omega)
        split at h1
        · rename_i h3
          exact .inl (bal_of hkn hB.1 hp' h3)
        · exact go_sound B (k + 1) u ws ws' hB.2 (by omega) (by omega) h1 t ht hp'
      | true =>
        have hp' : ∀ p, p < k + 1 → t.testBit p = (u ||| 2 ^ k).testBit p := fun p h2 => by
          rw [Nat.testBit_or, Nat.testBit_two_pow]
          by_cases e : p = k
          · rw [e, hb, decide_eq_true rfl, Bool.or_true]
          · rw [decide_eq_false (Ne.symm e), Bool.or_false]
            exact hp p (by omega)
        split at h
        · rename_i h3
          exact .inl (bal_of hkn hB.1 hp' h3)
        · exact go_sound B (k + 1) (u ||| 2 ^ k) ws' r hB.2 (by omega) (Nat.or_lt_two_pow (by omega) hk2) h t ht hp'
theorem dec_len : ∀ n x, (dec n x).length = n
  | 0, _ => rfl
  | n + 1, x => by unfold dec; rw [List.length_cons, dec_len]
theorem dec_range : ∀ n x, ∀ w ∈ dec n x, -3 ≤ w ∧ w ≤ 3
  | 0, _, w, h => by cases h
  | n + 1, x, w, h => by
    unfold dec at h
    rcases List.mem_cons.mp h with rfl | h
    · omega
    · exact dec_range n _ w h
theorem okW_makes {n t x : Nat} (h : okW n t x = true) : Makes n t (dec n (x / 64)) (((x % 64 : Nat) : Int) - 20) := fun p hp => by
  have z := List.all_eq_true.mp h p (List.mem_range.mpr hp)
  exact beq_iff_eq.mp z
/-- no balance: weights -/
theorem weights {n t : Nat} (hn : n ≤ 4) (ht : t < 2 ^ 2 ^ n) (h : ¬ Bal n t) : ∃ ws b, ws.length = n ∧ (∀ w ∈ ws, -3 ≤ w ∧ w ≤ 3) ∧ Makes n t ws b := by
  have key : ∀ {B : List (List (Nat × Nat × Nat × Nat))} {M : List (List (Nat × Nat))} {W : List Nat}, (okB B 0 = true ∧ B.map (·.map mk) = M ∧ B.length = 2 ^ n ∧ go n M 0 0 W = some []) → ∃ ws b, ws.length = n ∧ (∀ w ∈ ws, -3 ≤ w ∧ w ≤ 3) ∧ Makes n t ws b := by
    rintro B M W ⟨h1, h2, h3, h4⟩
    subst h2
    rcases go_sound B 0 0 W [] h1 (by omega) (by decide) h4 t ht fun p hp => by omega with z | ⟨x, z⟩
    · exact absurd z h
    · exact ⟨_, _, dec_len _ _, dec_range _ _, okW_makes z⟩
  have : n = 0 ∨ n = 1 ∨ n = 2 ∨ n = 3 ∨ n = 4 := by omega
  rcases this with rfl | rfl | rfl | rfl | rfl
  · exact key ok0
  · exact key ok1
  · exact key ok2
  · exact key ok3
  · exact key ok4
end Thr

/-! Thresholds: what the defs tell, the first part. -/
namespace Ev
open PySem PySem.Spec PyProof.Rows L2 Tab Thr
def S_rises (p_fixed : List D → Option PR) (p_full : List D → Option PR) : Fs :=
    sSeq2 (sRet (eBin vEq (eBin vAnd (eCallP 4 p_fixed (aCons (eVar 0) (aCons (eVar 1) (aCons (eVar 2) (aCons (eC (.int 0)) (aNil)))))) (eBin vXor (eCallP 1 p_full (aCons (eVar 1) (aNil))) (eCallP 4 p_fixed (aCons (eVar 0) (aCons (eVar 1) (aCons (eVar 2) (aCons (eC (.int 1)) (aNil)))))))) (eC (.int 0))))
    (sNil)
def S_falls (p_fixed : List D → Option PR) (p_full : List D → Option PR) : Fs :=
    sSeq2 (sRet (eBin vEq (eBin vAnd (eCallP 4 p_fixed (aCons (eVar 0) (aCons (eVar 1) (aCons (eVar 2) (aCons (eC (.int 1)) (aNil)))))) (eBin vXor (eCallP 1 p_full (aCons (eVar 1) (aNil))) (eCallP 4 p_fixed (aCons (eVar 0) (aCons (eVar 1) (aCons (eVar 2) (aCons (eC (.int 0)) (aNil)))))))) (eC (.int 0))))
    (sNil)
def S_places (p_digit : List D → Option PR) : Fs :=
    sSeq2 (sRet (eCall bTup (aCons (eVal (lLc (fMap (aCons (eBin vShl (eC (.int 1)) (eVar 1)) (aNil)) oR1) (gN 2) (fTest (eBin vEq (eCallP 2 p_digit (aCons (eVar 0) (aCons (eVar 2) (aNil)))) (eC (.int 1)))) (eVar 2) [2])) (aNil))))
    (sNil)
def S_check_asked_thresholds (p_full : List D → Option PR) : Fs :=
    sSeq2 (sIf (fNot (fTest (eChain vLe vLe (eC (.int 0)) (eVar 1) (eC (.int 4))))) (sSeq2 (sNo)
    (sNil)) (sNil))
    (sSeq2 (sIf (fNot (fTest (eChain vLe vLe (eC (.int 0)) (eVar 0) (eCallP 1 p_full (aCons (eVar 1) (aNil)))))) (sSeq2 (sNo)
    (sNil)) (sNil))
    (sNil))
def S_weight_at : Fs :=
    sSeq2 (sRet (eCall (bInts List.sum) (aCons (eVal (lLc (fMap (aCons (eVar 0) (aNil)) oEnum) (gTp 2 (gsCons (gN 2) (gsCons (gN 3) (gsNil)))) (fTru (eBin vAnd (eBin vShr (eVar 1) (eVar 2)) (eC (.int 1)))) (eVar 3) [2, 3])) (aNil))))
    (sNil)
def S_bound_of (p_digit : List D → Option PR) (p_weight_at : List D → Option PR) : Fs :=
    sSeq2 (sAsg (eVal (lLc (fMap (aCons (eBin vShl (eC (.int 1)) (eVar 1)) (aNil)) oR1) (gN 5) (fTest (eBin vEq (eCallP 2 p_digit (aCons (eVar 0) (aCons (eVar 5) (aNil)))) (eC (.int 1)))) (eCallP 2 p_weight_at (aCons (eVar 2) (aCons (eVar 5) (aNil)))) [5])) (gN 3))
    (sSeq2 (sAsg (eVal (lLc (fMap (aCons (eBin vShl (eC (.int 1)) (eVar 1)) (aNil)) oR1) (gN 5) (fTest (eBin vEq (eCallP 2 p_digit (aCons (eVar 0) (aCons (eVar 5) (aNil)))) (eC (.int 0)))) (eCallP 2 p_weight_at (aCons (eVar 2) (aCons (eVar 5) (aNil)))) [5])) (gN 4))
    (sSeq2 (sIf (fNot (fTru (eVar 3))) (sSeq2 (sRet (eBin vAdd (eCall (bQ maxI) (aCons (eVar 4) (aNil))) (eC (.int 1))))
    (sNil)) (sNil))
    (sSeq2 (sRet (fIf (fOr (fNot (fTru (eVar 4))) (fTest (eBin vLt (eCall (bQ maxI) (aCons (eVar 4) (aNil))) (eCall (bQ minI) (aCons (eVar 3) (aNil)))))) (eCall (bQ minI) (aCons (eVar 3) (aNil))) (eC .non)))
    (sNil))))
def S_pair_sums : Fs :=
    sSeq2 (sAsg (eNewX) (gN 1))
    (sSeq2 (sFor (sSeq (eVar 0)) (gN 2) (sSeq2 (sFor (sSeq (eVar 0)) (gN 3) (sSeq2 (sIf (fTest (eBin vLe (eVar 2) (eVar 3))) (sSeq2 (sExpr (eSetdX (eVar 1) (eTup (aCons (eBin vAnd (eVar 2) (eVar 3)) (aCons (eBin vXor (eVar 2) (eVar 3)) (aNil)))) (eTup (aCons (eVar 2) (aCons (eVar 3) (aNil))))))
    (sNil)) (sNil))
    (sNil)))
    (sNil)))
    (sSeq2 (sRet (eVar 1))
    (sNil)))
def S_side_of : Fs :=
    sSeq2 (sAsg (eVar 0) (gTp 2 (gsCons (gN 1) (gsCons (gN 2) (gsNil)))))
    (sSeq2 (sRet (fIf (fTest (eBin vEq (eVar 1) (eVar 2))) (eTup (aCons (eTup (aCons (eVar 1) (aCons (eC (.int 2)) (aNil)))) (aNil))) (eTup (aCons (eTup (aCons (eVar 1) (aCons (eC (.int 1)) (aNil)))) (aCons (eTup (aCons (eVar 2) (aCons (eC (.int 1)) (aNil)))) (aNil))))))
    (sNil))
noncomputable def S_balance_of (p_pair_sums : List RV → Sto → Option (RV × Sto)) (p_places : List D → Option PR) (p_full : List D → Option PR) (p_side_of : List D → Option PR) : Fs :=
    sSeq2 (sAsg (eCallS 1 p_pair_sums (aCons (eCallP 2 p_places (aCons (eVar 0) (aCons (eVar 1) (aNil)))) (aNil))) (gN 2))
    (sSeq2 (sAsg (eCallS 1 p_pair_sums (aCons (eCallP 2 p_places (aCons (eBin vXor (eCallP 1 p_full (aCons (eVar 1) (aNil))) (eVar 0)) (aCons (eVar 1) (aNil)))) (aNil))) (gN 3))
    (sSeq2 (sFor (sSeq (eVal (lCall bSrtX (aCons (eVar 2) (aNil))))) (gN 4) (sSeq2 (sIf (fTest (eBin (vInX false) (eVar 4) (eVar 3))) (sSeq2 (sRet (eTup (aCons (eCallP 1 p_side_of (aCons (eBin vIxX (eVar 2) (eVar 4)) (aNil))) (aCons (eCallP 1 p_side_of (aCons (eBin vIxX (eVar 3) (eVar 4)) (aNil))) (aNil)))))
    (sNil)) (sNil))
    (sNil)))
    (sSeq2 (sRet (eC .non))
    (sNil))))
def S_threshold (p_check_asked_thresholds : List D → Option PR) (p_balance_of : List D → Option PR) (p_all_weights : List D → Option PR) (p_bound_of : List D → Option PR) : Fs :=
    sSeq2 (sExpr (eCallP 2 p_check_asked_thresholds (aCons (eVar 0) (aCons (eVar 1) (aNil)))))
    (sSeq2 (sAsg (eCallP 2 p_balance_of (aCons (eVar 0) (aCons (eVar 1) (aNil)))) (gN 2))
    (sSeq2 (sIf (fTest (eBin (vIsN true) (eVar 2) (eC .non))) (sSeq2 (sRet (eTup (aCons (eC (.str "balance")) (aCons (eBin vIx (eVar 2) (eC (.int 0))) (aCons (eBin vIx (eVar 2) (eC (.int 1))) (aNil))))))
    (sNil)) (sNil))
    (sSeq2 (sFor (sSeq (eCallP 1 p_all_weights (aCons (eVar 1) (aNil)))) (gN 3) (sSeq2 (sAsg (eCallP 3 p_bound_of (aCons (eVar 0) (aCons (eVar 1) (aCons (eVar 3) (aNil))))) (gN 4))
    (sSeq2 (sIf (fTest (eBin (vIsN true) (eVar 4) (eC .non))) (sSeq2 (sRet (eTup (aCons (eC (.str "weights")) (aCons (eVar 3) (aCons (eVar 4) (aNil))))))
    (sNil)) (sNil))
    (sNil))))
    (sSeq2 (sRet (eC .non))
    (sNil)))))
def S_takes_weights (p_check_asked_thresholds : List D → Option PR) (p_weight_at : List D → Option PR) (p_digit : List D → Option PR) : Fs :=
    sSeq2 (sExpr (eCallP 2 p_check_asked_thresholds (aCons (eVar 0) (aCons (eVar 1) (aNil)))))
    (sSeq2 (sIf (fTest (eBin vNe (eCall bLen (aCons (eVar 2) (aNil))) (eVar 1))) (sSeq2 (sRet (eC (.bl false)))
    (sNil)) (sNil))
    (sSeq2 (sRet (eCall (bBools fun bs => bs.all id) (aCons (eVal (lLc (fMap (aCons (eBin vShl (eC (.int 1)) (eVar 1)) (aNil)) oR1) (gN 4) (fTrue) (eBin vEq (eCall bInt (aCons (eBin vGe (eCallP 2 p_weight_at (aCons (eVar 2) (aCons (eVar 4) (aNil)))) (eVar 3)) (aNil))) (eCallP 2 p_digit (aCons (eVar 0) (aCons (eVar 4) (aNil))))) [4])) (aNil))))
    (sNil)))
def S_is_side (p_digit : List D → Option PR) : Fs :=
    sSeq2 (sIf (fNot (fTru (eCall (bBools fun bs => bs.all id) (aCons (eVal (lLc (fMap (aCons (eVar 2) (aCons (eSlT (eVar 2) (oSome (eC (.int 1))) (oNo)) (aNil))) oZip) (gTp 2 (gsCons (gN 4) (gsCons (gN 5) (gsNil)))) (fTrue) (eBin vLt (eBin vIx (eVar 4) (eC (.int 0))) (eBin vIx (eVar 5) (eC (.int 0)))) [4, 5])) (aNil))))) (sSeq2 (sRet (eC (.bl false)))
    (sNil)) (sNil))
    (sSeq2 (sRet (eCall (bBools fun bs => bs.all id) (aCons (eVal (lLc (sSeq (eVar 2)) (gTp 2 (gsCons (gN 6) (gsCons (gN 7) (gsNil)))) (fTrue) (eAnd (eChain vLe vLt (eC (.int 0)) (eVar 6) (eBin vShl (eC (.int 1)) (eVar 1))) (eAnd (eBin vEq (eCallP 2 p_digit (aCons (eVar 0) (aCons (eVar 6) (aNil)))) (eVar 3)) (eBin vGe (eVar 7) (eC (.int 1))))) [6, 7])) (aNil))))
    (sNil))
def S_takes_balance (p_check_asked_thresholds : List D → Option PR) (p_is_side : List D → Option PR) (p_of_input : List D → Option PR) : Fs :=
    sSeq2 (sExpr (eCallP 2 p_check_asked_thresholds (aCons (eVar 0) (aCons (eVar 1) (aNil)))))
    (sSeq2 (sIf (fOr (fNot (fTru (eCallP 4 p_is_side (aCons (eVar 0) (aCons (eVar 1) (aCons (eVar 2) (aCons (eC (.int 1)) (aNil)))))))) (fNot (fTru (eCallP 4 p_is_side (aCons (eVar 0) (aCons (eVar 1) (aCons (eVar 3) (aCons (eC (.int 0)) (aNil))))))))) (sSeq2 (sRet (eC (.bl false)))
    (sNil)) (sNil))
    (sSeq2 (sAsg (eCall (bInts List.sum) (aCons (eVal (lLc (sSeq (eVar 2)) (gTp 2 (gsCons (gN 5) (gsCons (gN 6) (gsNil)))) (fTrue) (eVar 6) [5, 6])) (aNil))) (gN 4))
    (sSeq2 (sIf (fOr (fTest (eBin vLt (eVar 4) (eC (.int 1)))) (fTest (eBin vNe (eVar 4) (eCall (bInts List.sum) (aCons (eVal (lLc (sSeq (eVar 3)) (gTp 2 (gsCons (gN 5) (gsCons (gN 6) (gsNil)))) (fTrue) (eVar 6) [5, 6])) (aNil)))))) (sSeq2 (sRet (eC (.bl false)))
    (sNil)) (sNil))
    (sSeq2 (sRet (eCall (bBools fun bs => bs.all id) (aCons (eVal (lLc (fMap (aCons (eVar 1) (aNil)) oR1) (gN 7) (fTrue) (eBin vEq (eCallP 2 p_of_input (aCons (eVar 2) (aCons (eVar 7) (aNil)))) (eCallP 2 p_of_input (aCons (eVar 3) (aCons (eVar 7) (aNil))))) [7])) (aNil))))
    (sNil)))))
def S_of_input : Fs :=
    sSeq2 (sRet (eCall (bInts List.sum) (aCons (eVal (lLc (sSeq (eVar 0)) (gTp 2 (gsCons (gN 2) (gsCons (gN 3) (gsNil)))) (fTru (eBin vAnd (eBin vShr (eVar 2) (eVar 1)) (eC (.int 1)))) (eVar 3) [2, 3])) (aNil))))
    (sNil)
def S__law_squeezed (p__law_power : List D → Option PR) (p__law_digit : List D → Option PR) : Fs :=
    sSeq2 (sAsg (eC (.int 0)) (gN 3))
    (sSeq2 (sFor (fMap (aCons (eBin vSub (eCallP 1 p__law_power (aCons (eBin vSub (eVar 1) (eC (.int 1))) (aNil))) (eC (.int 1))) (aCons (eNeg (eC (.int 1))) (aCons (eNeg (eC (.int 1))) (aNil)))) oR3) (gN 4) (sSeq2 (sAsg (eBin vMod (eCall bInt (aCons (eVar 4) (aNil))) (eCallP 1 p__law_power (aCons (eVar 2) (aNil)))) (gN 5))
    (sSeq2 (sAsg (eBin vAdd (eBin vMul (eVar 3) (eC (.int 2))) (eCallP 2 p__law_digit (aCons (eVar 0) (aCons (eBin vAdd (eBin vMul (eBin vSub (eVar 4) (eVar 5)) (eC (.int 2))) (eVar 5)) (aNil))))) (gN 3))
    (sNil))))
    (sSeq2 (sRet (eVar 3))
    (sNil)))
noncomputable def S_all_weights (hi : Bool) : Fs :=
    sSeq2 (sAsg (eVal (aDs (aCons (eTup (aNil)) (aNil)))) (gN 1))
    (sSeq2 (sFor (fMap (aCons (eVar 0) (aNil)) oR1) (gN 2) (sSeq2 (sAsg (eVal (lLc2 (sSeq (eVar 1)) (gN 3) (fTrue) (fMap (aCons (eNeg (eC (.int 3))) (aCons (eBin vAdd (eC (.int 3)) (eC (.int 1))) (aNil))) oR2) (gN 4) (fTrue) (eBin vAdd (eVar 3) (eTup (aCons (eVar 4) (aNil)))) [3, 4] [4])) (gN 1))
    (sNil)))
    (sSeq2 (sRet (eVal (lSrtK hi (psiOf 2 (eTup (aCons (eCall (bInts List.sum) (aCons (eVal (lLc (sSeq (eVar 0)) (gN 1) (fTrue) (eCall bAbs (aCons (eVar 1) (aNil))) [1])) (aNil))) (aCons (eVar 0) (aNil))))) (eVar 1))))
    (sNil)))

/-! ### loops that may return -/
section
variable {ρ : Env'} {S : Sto} {γ : Type} {Q : γ → Prop}
theorem wp_forR {β : Type} {xs : List D} {gg : Gt} {F : Fs} {k : Fl × Env' × Sto → Option γ} {e : β → D} {ds : List β} (P : Env' → Sto → Prop) (N : β → Prop) (R : β → RV → Prop) (h0 : P ρ S)
    (st : ∀ d ∈ ds, ∀ ρ S, P ρ S → Wp ((gg (.d (e d)) ρ).bind fun ρ1 => F ρ1 S) fun z => ((z.1 = .nx ∨ z.1 = .ct) ∧ P z.2.1 z.2.2 ∧ N d) ∨ ∃ r, z.1 = .rt r ∧ R d r)
    (h1 : ∀ ρ' S', P ρ' S' → (∀ d ∈ ds, N d) → Wp (k (.nx, ρ', S')) Q) (h2 : ∀ d ∈ ds, ∀ r ρ' S', R d r → Wp (k (.rt r, ρ', S')) Q) : Wp ((foGo ⟨xs, none⟩ gg F (ds.map e) ρ S).bind k) Q := by
  have key : ∀ (ds : List β) (ρ : Env') (S : Sto), P ρ S → (∀ d ∈ ds, ∀ ρ S, P ρ S → Wp ((gg (.d (e d)) ρ).bind fun ρ1 => F ρ1 S) fun z => ((z.1 = .nx ∨ z.1 = .ct) ∧ P z.2.1 z.2.2 ∧ N d) ∨ ∃ r, z.1 = .rt r ∧ R d r) →
      (∃ ρ' S', foGo ⟨xs, none⟩ gg F (ds.map e) ρ S = some (.nx, ρ', S') ∧ P ρ' S' ∧ ∀ d ∈ ds, N d) ∨ ∃ d ∈ ds, ∃ r ρ' S', foGo ⟨xs, none⟩ gg F (ds.map e) ρ S = some (.rt r, ρ', S') ∧ R d r := by
    intro ds
    induction ds with
    | nil => intro ρ S h _; exact .inl ⟨ρ, S, foGo_n, h, fun d hd => by cases hd⟩
    | cons d ds ih =>
      intro ρ S h st
      obtain ⟨⟨fl, ρ2, S2⟩, e0, hz⟩ := st d List.mem_cons_self ρ S h
      obtain ⟨ρ1, e1, e2⟩ := bind_some e0
      rcases hz with ⟨h3, h4, h5⟩ | ⟨r, h3, h4⟩
      · have e3 : foGo ⟨xs, none⟩ gg F ((d :: ds).map e) ρ S = foGo ⟨xs, none⟩ gg F (ds.map e) ρ2 S2 := by
          rw [List.map_cons, foGo_c, e1, Option.bind_some, e2, Option.bind_some]
          rcases h3 with h3 | h3 <;> simp only at h3 <;> subst h3 <;> rfl
        rw [e3]
        rcases ih ρ2 S2 h4 fun x hx => st x (List.mem_cons_of_mem _ hx) with ⟨ρ', S', q1, q2, q3⟩ | ⟨x, hx, r, ρ', S', q1, q2⟩
        · refine .inl ⟨ρ', S', q1, q2, fun x hx => ?_⟩
          rcases List.mem_cons.mp hx with rfl | hx
          · exact h5
          · exact q3 x hx
        · exact .inr ⟨x, List.mem_cons_of_mem _ hx, r, ρ', S', q1, q2⟩
      · simp only at h3
        subst h3
        refine .inr ⟨d, List.mem_cons_self, r, ρ2, S2, ?_, h4⟩
        rw [List.map_cons, foGo_c, e1, Option.bind_some, e2, Option.bind_some, foK_rt]
  rcases key ds ρ S h0 st with ⟨ρ', S', q1, q2, q3⟩ | ⟨d, hd, r, ρ', S', q1, q2⟩
  · rw [q1, Option.bind_some]
    exact h1 ρ' S' q2 q3
  · rw [q1, Option.bind_some]
    exact h2 d hd r ρ' S' q2
end
/-! ### weights -/
abbrev wD (ws : List Int) : D := .tup (ws.map D.int)
theorem wtF_range : ∀ (ws : List Int) (k p : Nat), wtF ws k p = (((List.range ws.length).filter fun i => p.testBit (k + i)).map fun i => ws.getD i 0).sum
  | [], _, _ => rfl
  | w :: ws, k, p => by
    unfold wtF
    rw [wtF_range ws (k + 1) p, List.length_cons, List.range_succ_eq_map, List.filter_cons]
    have e : ((List.map Nat.succ (List.range ws.length)).filter fun i => p.testBit (k + i)).map (fun i => (w :: ws).getD i 0) = ((List.range ws.length).filter fun i => p.testBit (k + 1 + i)).map fun i => ws.getD i 0 := by
      rw [List.filter_map, List.map_map]
      have e1 : ((fun i => p.testBit (k + i)) ∘ Nat.succ) = fun i => p.testBit (k + 1 + i) := funext fun i => by
        show p.testBit (k + (i + 1)) = _
        congr 1
        omega
      rw [e1]
      rfl
    rw [Nat.add_zero]
    cases p.testBit k with
    | true => simp only [if_true]; rw [List.map_cons, List.sum_cons, e]; rfl
    | false => simp only [Bool.false_eq_true, if_false]; rw [e, Int.zero_add]
theorem sum_mapI {α : Type} {l : List α} {f : α → Int} {S : Sto} : bInts List.sum [.d (.lst (l.map fun i => .int (f i)))] S = some (.d (.int (l.map f).sum)) := by
  rw [ints_of, bInts_l]
theorem enumD_range : ∀ (ws : List Int) (k : Nat), enumD k (ws.map D.int) = (List.range ws.length).map fun i => D.tup [nD (k + i), .int (ws.getD i 0)]
  | [], _ => rfl
  | w :: ws, k => by
    rw [List.map_cons, List.length_cons, List.range_succ_eq_map, List.map_cons, List.map_map]
    unfold enumD
    rw [enumD_range ws (k + 1)]
    refine congrArg _ (List.map_congr_left fun i _ => ?_)
    show D.tup [nD (k + 1 + i), _] = D.tup [nD (k + (i + 1)), _]
    rw [show k + 1 + i = k + (i + 1) by omega]
    rfl
theorem weight_at_s {ws : List Int} {p : Nat} (h : ws.length ≤ 1000) : runP 4 S_weight_at [wD ws, nD p] = some (.v (.int (wt ws p))) := by
  show (S_weight_at [some (.d (wD ws)), some (.d (nD p)), none, none] []).bind finP = _
  unfold S_weight_at
  refine wp_eq ?_
  dsimp? only [Option.bind_assoc]
  refine wp_lc (ps := List.range ws.length) (fun i => .tup [nD (0 + i), .int (ws.getD i 0)]) (fun i => .int (ws.getD i 0)) (fun i => p.testBit (0 + i)) (S1 := []) (by simp? only [oEnum_t, enumD_range]) (by rw [List.length_range]; unfold Lim; omega) (fun i hi => ?_) ?_
  · dsimp? only [gTp2', shr_n, and_1, shr_bit, bne_toNat, tru_toNat]
    cases p.testBit (0 + i)
    · exact wp_some ⟨rfl, rfl, fun z => by cases z⟩
    · exact wp_some ⟨rfl, rfl, fun _ => rfl⟩
  · dsimp? only [sum_mapI, ← wtF_range]
    exact wp_some rfl
end Ev

/-! Thresholds: bounds, weights. -/
namespace Ev
open PySem PySem.Spec PyProof.Rows L2 Tab Thr
theorem bQ_ints {gg : List Int → Option Int} {l : List Int} {S : Sto} : bQ gg [.d (.lst (l.map D.int))] S = (gg l).map fun i => .d (.int i) := by
  unfold bQ intsQ
  simp only [lookQ_l, Option.bind_some]
  rw [intsOf_map, Option.bind_some]
theorem maxI_ex {l : List Int} (h : l ≠ []) : ∃ m, maxI l = some m := by
  cases l with
  | nil => exact absurd rfl h
  | cons i r =>
    unfold maxI
    split
    · exact ⟨_, rfl⟩
    · exact ⟨_, rfl⟩
theorem minI_ex {l : List Int} (h : l ≠ []) : ∃ m, minI l = some m := by
  cases l with
  | nil => exact absurd rfl h
  | cons i r =>
    unfold minI
    split
    · exact ⟨_, rfl⟩
    · exact ⟨_, rfl⟩
theorem emp_t {l : List Int} (h : l = []) : (l.map D.int).isEmpty = true := by rw [h]; rfl
theorem emp_f {l : List Int} (h : l ≠ []) : (l.map D.int).isEmpty = false := by
  cases l with
  | nil => exact absurd rfl h
  | cons x l => rfl
def bndD : Option Int → D
  | none => .non
  | some b => .int b
section
variable {pd pw : List D → Option PR}
theorem bound_of_s {t n : Nat} {ws : List Int} (hn : n ≤ 4) (hd : ∀ t p, pd [nD t, nD p] = some (.v (nD (t.testBit p).toNat))) (hv : ∀ p, pw [wD ws, nD p] = some (.v (.int (wt ws p)))) :
    ∃ r : Option Int, runP 6 (S_bound_of pd pw) [nD t, nD n, wD ws] = some (.v (bndD r)) ∧ (∀ b, r = some b → Makes n t ws b) ∧ (r = none → ∀ b, ¬ Makes n t ws b) := by
  have h5 := lim5 (n := n) (by omega)
  have main : Wp ((S_bound_of pd pw [some (.d (nD t)), some (.d (nD n)), some (.d (wD ws)), none, none, none] []).bind finP) fun z => ∃ r : Option Int, z = .v (bndD r) ∧ (∀ b, r = some b → Makes n t ws b) ∧ (r = none → ∀ b, ¬ Makes n t ws b) := by
    unfold S_bound_of
    have sh : ∀ S, vShl (.d (.int 1)) (.d (.int (n : Int))) S = some (.d (.int ((2 ^ n : Nat) : Int))) := fun S => shl_1 (by omega)
    dsimp? only [Option.bind_assoc]
    refine wp_lc (ps := List.range (2 ^ n)) nD (fun p => .int (wt ws p)) (fun p => t.testBit p) (S1 := []) (by simp? only [sh, oR1_n (show 2 ^ n < 2 ^ 62 by omega)]; rfl) (by rw [List.length_range]; unfold Lim; omega) (fun p hp => ?_) ?_
    · have e1 : pd [.int (t : Int), .int (p : Int)] = _ := hd t p
      have e2 : pw [wD ws, .int (p : Int)] = _ := hv p
      dsimp? only [e1, e2, dec_toNat]
      cases t.testBit p
      · exact wp_some ⟨rfl, rfl, fun z => by cases z⟩
      · exact wp_some ⟨rfl, rfl, fun _ => rfl⟩
    dsimp? only [Option.bind_assoc]
    refine wp_lc (ps := List.range (2 ^ n)) nD (fun p => .int (wt ws p)) (fun p => !t.testBit p) (S1 := []) (by simp? only [sh, oR1_n (show 2 ^ n < 2 ^ 62 by omega)]; rfl) (by rw [List.length_range]; unfold Lim; omega) (fun p hp => ?_) ?_
    · have e1 : pd [.int (t : Int), .int (p : Int)] = _ := hd t p
      have e2 : pw [wD ws, .int (p : Int)] = _ := hv p
      dsimp? only [e1, e2, dec_toNat0]
      cases t.testBit p
      · exact wp_some ⟨rfl, rfl, fun _ => rfl⟩
      · exact wp_some ⟨rfl, rfl, fun z => by cases z⟩
    generalize hU : ((List.range (2 ^ n)).filter fun p => t.testBit p) = U
    generalize hV : ((List.range (2 ^ n)).filter fun p => !t.testBit p) = V
    have mU : ∀ p, p < 2 ^ n → t.testBit p = true → wt ws p ∈ U.map (wt ws) := fun p hp h => List.mem_map.mpr ⟨p, by rw [← hU]; exact List.mem_filter.mpr ⟨List.mem_range.mpr hp, h⟩, rfl⟩
    have mV : ∀ p, p < 2 ^ n → t.testBit p = false → wt ws p ∈ V.map (wt ws) := fun p hp h => List.mem_map.mpr ⟨p, by rw [← hV]; exact List.mem_filter.mpr ⟨List.mem_range.mpr hp, by rw [h]; rfl⟩, rfl⟩
    have uU : ∀ x ∈ U.map (wt ws), ∃ p, p < 2 ^ n ∧ t.testBit p = true ∧ wt ws p = x := fun x hx => by
      obtain ⟨p, hp, e⟩ := List.mem_map.mp hx
      rw [← hU] at hp
      exact ⟨p, List.mem_range.mp (List.mem_filter.mp hp).1, (List.mem_filter.mp hp).2, e⟩
    have uV : ∀ x ∈ V.map (wt ws), ∃ p, p < 2 ^ n ∧ t.testBit p = false ∧ wt ws p = x := fun x hx => by
      obtain ⟨p, hp, e⟩ := List.mem_map.mp hx
      rw [← hV] at hp
      exact ⟨p, List.mem_range.mp (List.mem_filter.mp hp).1, by simpa using (List.mem_filter.mp hp).2, e⟩
    rw [ints_of (l := U) (g := wt ws), ints_of (l := V) (g := wt ws)]
    generalize hUW : U.map (wt ws) = A at *
    generalize hVW : V.map (wt ws) = B at *
    have n0 := Nat.two_pow_pos n
    by_cases hA : A = []
    · have hB : B ≠ [] := fun z => by
        cases h0 : t.testBit 0 with
        | true => have := mU 0 n0 h0; rw [hA] at this; cases this
        | false => have := mV 0 n0 h0; rw [z] at this; cases this
      obtain ⟨M, hM⟩ := maxI_ex hB
      have sp := maxI_spec hM
      have d1 : (A.map D.int).isEmpty = true := emp_t hA
      dsimp? only [Bool.not_true, Bool.not_false, d1, bQ_ints, hM, Option.map_some]
      refine wp_some ⟨some (M + 1), rfl, fun b hb => ?_, fun z => by cases z⟩
      cases hb
      intro p hp
      cases h0 : t.testBit p with
      | true => have := mU p hp h0; rw [hA] at this; cases this
      | false =>
        have := sp.2 _ (mV p hp h0)
        exact (decide_eq_false (by omega)).symm
    · have d1 : (A.map D.int).isEmpty = false := emp_f hA
      obtain ⟨m, hm⟩ := minI_ex hA
      have sm := minI_spec hm
      by_cases hB : B = []
      · have d2 : (B.map D.int).isEmpty = true := emp_t hB
        dsimp? only [Bool.not_true, Bool.not_false, d1, d2, bQ_ints, hm, Option.map_some, fOr_, orK_f, orK_t]
        refine wp_some ⟨some m, rfl, fun b hb => ?_, fun z => by cases z⟩
        cases hb
        intro p hp
        cases h0 : t.testBit p with
        | false => have := mV p hp h0; rw [hB] at this; cases this
        | true =>
          have := sm.2 _ (mU p hp h0)
          exact (decide_eq_true (by omega)).symm
      · have d2 : (B.map D.int).isEmpty = false := emp_f hB
        obtain ⟨M, hM⟩ := maxI_ex hB
        have sp := maxI_spec hM
        by_cases hlt : M < m
        · have d3 : decide (M < m) = true := decide_eq_true hlt
          dsimp? only [Bool.not_true, Bool.not_false, d1, d2, bQ_ints, hm, hM, d3, Option.map_some, fOr_, orK_f, orK_t]
          refine wp_some ⟨some m, rfl, fun b hb => ?_, fun z => by cases z⟩
          cases hb
          intro p hp
          cases h0 : t.testBit p with
          | false =>
            have := sp.2 _ (mV p hp h0)
            exact (decide_eq_false (by omega)).symm
          | true =>
            have := sm.2 _ (mU p hp h0)
            exact (decide_eq_true (by omega)).symm
        · have d3 : decide (M < m) = false := decide_eq_false hlt
          dsimp? only [Bool.not_true, Bool.not_false, d1, d2, bQ_ints, hm, hM, d3, Option.map_some, fOr_, orK_f, orK_t]
          refine wp_some ⟨none, rfl, fun b hb => (by cases hb), fun _ b hmk => ?_⟩
          obtain ⟨p, hp, tp, ep⟩ := uU _ sm.1
          obtain ⟨q, hq, tq, eq⟩ := uV _ sp.1
          have z1 := hmk p hp
          have z2 := hmk q hq
          rw [tp, eq_comm, decide_eq_true_eq, ep] at z1
          rw [tq, eq_comm, decide_eq_false_iff_not, eq] at z2
          omega
  obtain ⟨z, e, r, rfl, h1, h2⟩ := main
  exact ⟨r, e, h1, h2⟩
end
end Ev

/-! Thresholds: all weights, sorted. -/
namespace Ev
open PySem PySem.Spec PyProof.Rows L2 Tab Thr
theorem wp_lc2 {ρ : Env'} {S S1 : Sto} {γ : Type} {Q : γ → Prop} {α β : Type} {src : Fe Src} {gg g1 : Gt} {src1 : Fe Src} {t1 : Fe Bool} {f : Fe RV} {vs vs1 : List Nat} {kk : List D × Sto → Option γ} {ps : List α} (e : α → D) (qs : α → List β) (e1 : β → D) (c : α → β → Bool) (g : α → β → D) (hs : src ρ S = some (⟨ps.map e, none⟩, S1)) (hb : S1.all (Ob.below S1.length) = true)
    (h : ∀ p ∈ ps, ∃ ρ1, gg (.d (e p)) (wipeE ρ vs) = some ρ1 ∧ (∀ L, src1 ρ1 (S1 ++ [.lst L]) = some (⟨(qs p).map e1, none⟩, S1 ++ [.lst L])) ∧ ∀ r ∈ qs p, ∀ L, ∃ ρ2, g1 (.d (e1 r)) (wipeE ρ1 vs1) = some ρ2 ∧ t1 ρ2 (S1 ++ [.lst L]) = some (c p r, S1 ++ [.lst L]) ∧ (c p r = true → f ρ2 (S1 ++ [.lst L]) = some (.d (g p r), S1 ++ [.lst L])))
    (hl : (ps.flatMap fun p => ((qs p).filter (c p)).map (g p)).length ≤ Lim) (hk : Wp (kk (ps.flatMap fun p => ((qs p).filter (c p)).map (g p), S1)) Q) : Wp ((lLc2 src gg fTrue src1 g1 t1 f vs vs1 ρ S).bind kk) Q := by
  rw [lLc2_ok e qs e1 c g hs hb h hl, Option.bind_some]
  exact hk
/-- all rows of weights -/
def genW : Nat → List (List Int)
  | 0 => [[]]
  | k + 1 => (genW k).flatMap fun r => (List.range 7).map fun (i : Nat) => r ++ [-3 + (i : Int)]
theorem genW_len : ∀ k, (genW k).length = 7 ^ k
  | 0 => rfl
  | k + 1 => by
    unfold genW
    rw [List.length_flatMap]
    have : ∀ l : List (List Int), (l.map fun r => ((List.range 7).map fun (i : Nat) => r ++ [-3 + (i : Int)]).length).sum = l.length * 7 := by
      intro l
      induction l with
      | nil => rfl
      | cons x l ih => rw [List.map_cons, List.sum_cons, ih, List.length_map, List.length_range, List.length_cons]; omega
    rw [this, genW_len k, Nat.pow_succ]
theorem genW_mem : ∀ {k : Nat} {ws : List Int}, ws ∈ genW k ↔ ws.length = k ∧ ∀ w ∈ ws, -3 ≤ w ∧ w ≤ 3
  | 0, ws => by
    unfold genW
    rw [List.mem_singleton]
    constructor
    · rintro rfl; exact ⟨rfl, fun w h => by cases h⟩
    · rintro ⟨h, _⟩; exact List.length_eq_zero_iff.mp h
  | k + 1, ws => by
    unfold genW
    rw [List.mem_flatMap]
    constructor
    · rintro ⟨r, hr, h⟩
      obtain ⟨i, hi, rfl⟩ := List.mem_map.mp h
      obtain ⟨h1, h2⟩ := genW_mem.mp hr
      have := List.mem_range.mp hi
      refine ⟨by rw [List.length_append, h1]; rfl, fun w hw => ?_⟩
      rcases List.mem_append.mp hw with hw | hw
      · exact h2 w hw
      · rw [List.mem_singleton] at hw; omega
    · rintro ⟨h1, h2⟩
      have hne : ws ≠ [] := fun z => by rw [z] at h1; cases h1
      have hd := List.dropLast_concat_getLast hne
      have hl := h2 _ (List.getLast_mem hne)
      refine ⟨ws.dropLast, genW_mem.mpr ⟨by rw [List.length_dropLast, h1]; rfl, fun w hw => h2 w (List.dropLast_subset _ hw)⟩, List.mem_map.mpr ⟨(ws.getLast hne + 3).toNat, List.mem_range.mpr (by omega), ?_⟩⟩
      rw [show (-3 : Int) + (((ws.getLast hne + 3).toNat : Nat) : Int) = ws.getLast hne by omega]
      exact hd
/-! ### the sorted rows -/
def absW (i : Int) : Int := if i < 0 then -i else i
def keyW (ws : List Int) : D := .tup [.int (ws.map absW).sum, wD ws]
theorem pys_ints : ∀ ws : List Int, D.pys (ws.map D.int) = ws.map PyData.int
  | [] => by simp only [List.map_nil, D.pys]
  | w :: ws => by simp only [List.map_cons, D.pys, D.py, pys_ints ws]
theorem keyW_py (ws : List Int) : (keyW ws).py = .tuple [.int (ws.map absW).sum, .tuple (ws.map PyData.int)] := by
  unfold keyW
  simp only [D.py, D.pys, pys_ints]
theorem depth_intsW : ∀ ws : List Int, PyData.depthAll (ws.map PyData.int) = 0
  | [] => by simp [PyData.depthAll]
  | w :: ws => by simp [PyData.depthAll, PyData.depth, depth_intsW ws]
theorem keysW (Ws : List (List Int)) : keysOk (Ws.map keyW) = true := by
  unfold keysOk
  refine List.all_eq_true.mpr fun d hd => ?_
  obtain ⟨ws, _, rfl⟩ := List.mem_map.mp hd
  rw [Bool.and_eq_true, Bool.and_eq_true]
  refine ⟨⟨rfl, decide_eq_true ?_⟩, List.all_eq_true.mpr fun e he => ?_⟩
  · rw [keyW_py]
    simp [PyData.depth, PyData.depthAll, depth_intsW]
  · obtain ⟨us, _, rfl⟩ := List.mem_map.mp he
    rw [keyW_py, keyW_py]
    simp only [PySem.W.alike, PySem.W.alikeAll, Bool.true_and, Bool.and_true]
    exact PySem.W.alike_ints ws us
theorem wD_inj {a b : List Int} (h : wD a = wD b) : a = b := by
  have h : a.map D.int = b.map D.int := by injection h
  exact List.map_inj_right (fun x y z => by injection z) |>.mp h
theorem sortK_mem {ds ks : List D} (h : ks.length = ds.length) {d : D} : d ∈ sortK ds ks ↔ d ∈ ds := by
  unfold sortK
  have p := (List.mergeSort_perm (ds.zip ks) (PySem.W.dataLe false fun x : D × D => x.2.py)).map (·.1)
  rw [p.mem_iff, List.map_fst_zip (by omega)]
theorem sortK_W (Ws : List (List Int)) : ∃ Us : List (List Int), sortK (Ws.map wD) (Ws.map keyW) = Us.map wD ∧ ∀ ws, ws ∈ Us ↔ ws ∈ Ws := by
  have hl : (Ws.map keyW).length = (Ws.map wD).length := by rw [List.length_map, List.length_map]
  have key : ∀ l : List D, (∀ d ∈ l, ∃ ws, d = wD ws) → ∃ Us : List (List Int), l = Us.map wD := by
    intro l
    induction l with
    | nil => intro _; exact ⟨[], rfl⟩
    | cons d l ih =>
      intro h
      obtain ⟨ws, rfl⟩ := h d List.mem_cons_self
      obtain ⟨Us, rfl⟩ := ih fun x hx => h x (List.mem_cons_of_mem _ hx)
      exact ⟨ws :: Us, rfl⟩
  obtain ⟨Us, hU⟩ := key (sortK (Ws.map wD) (Ws.map keyW)) fun d hd => by
    obtain ⟨ws, _, e⟩ := List.mem_map.mp ((sortK_mem hl).mp hd)
    exact ⟨ws, e.symm⟩
  refine ⟨Us, hU, fun ws => ?_⟩
  have h1 : wD ws ∈ sortK (Ws.map wD) (Ws.map keyW) ↔ wD ws ∈ Ws.map wD := sortK_mem hl
  have h2 : ∀ {L : List (List Int)}, wD ws ∈ L.map wD ↔ ws ∈ L := ⟨fun h => by
    obtain ⟨u, hu, e⟩ := List.mem_map.mp h
    rw [← wD_inj e]; exact hu, fun h => List.mem_map.mpr ⟨ws, h, rfl⟩⟩
  rw [hU, h2, h2] at h1
  exact h1
def psiW : List (Option D) → List D → Option D := psiOf 2 (eTup (aCons (eCall (bInts List.sum) (aCons (eVal (lLc (sSeq (eVar 0)) (gN 1) (fTrue) (eCall bAbs (aCons (eVar 1) (aNil))) [1])) (aNil))) (aCons (eVar 0) (aNil))))
theorem psiW_s {ws : List Int} (h : ws.length ≤ 1000) : psiW [] [wD ws] = some (keyW ws) := by
  show ((eTup _ : Fe RV) [some (.d (wD ws)), none] []).bind _ = _
  refine wp_eq ?_
  dsimp? only [Option.bind_assoc]
  refine wp_lcm (ps := ws) D.int (fun i => .int (absW i)) (S1 := []) (by simp? only []) (by unfold Lim; omega) (fun i _ => ?_) ?_
  · dsimp? only []
    exact wp_some ⟨rfl, rfl⟩
  · dsimp? only [sum_mapI]
    exact wp_some rfl
theorem mapO_W : ∀ {Ws : List (List Int)}, (∀ ws ∈ Ws, ws.length ≤ 1000) → mapO (fun d => (fun xs => if xs.length = 1 then psiW [] xs else none) [d]) (Ws.map wD) = some (Ws.map keyW)
  | [], _ => rfl
  | ws :: Ws, h => by
    have ih := mapO_W (Ws := Ws) fun x hx => h x (List.mem_cons_of_mem _ hx)
    show ((if [wD ws].length = 1 then psiW [] [wD ws] else none).bind fun k => (mapO _ (Ws.map wD)).bind fun ks => some (k :: ks)) = _
    rw [if_pos (show [wD ws].length = 1 from rfl), psiW_s (h ws List.mem_cons_self), Option.bind_some, ih]
    rfl
theorem srtK_W {Ws : List (List Int)} (h : ∀ ws ∈ Ws, ws.length ≤ 1000) (hl : Ws.length ≤ Lim) : ∃ Us : List (List Int), srtK (fun xs => if xs.length = 1 then psiW [] xs else none) (Ws.map wD) = some (Us.map wD) ∧ ∀ ws, ws ∈ Us ↔ ws ∈ Ws := by
  obtain ⟨Us, e, m⟩ := sortK_W Ws
  refine ⟨Us, ?_, m⟩
  unfold srtK
  rw [mapO_W h, Option.bind_some, if_pos ⟨keysW Ws, by rw [List.length_map]; exact hl⟩, e]
theorem cat_t {a b : List D} {S : Sto} (h : a.length + b.length ≤ Lim) : vAdd (.d (.tup a)) (.d (.tup b)) S = some (.d (.tup (a ++ b))) := by
  show (if _ then _ else _) = _
  rw [if_pos h]
theorem genW_next (k : Nat) : ((genW k).flatMap fun r => ((List.range 7).filter fun _ => true).map fun (i : Nat) => wD (r ++ [-3 + (i : Int)])) = (genW (k + 1)).map wD := by
  have e : (List.range 7).filter (fun _ => true) = List.range 7 := List.filter_eq_self.mpr fun _ _ => rfl
  rw [e]
  show _ = ((genW k).flatMap _).map wD
  rw [List.map_flatMap]
  congr 1
theorem all_weights_s {n : Nat} (hn : n ≤ 4) : ∃ Us : List (List Int), runP 5 (S_all_weights true) [nD n] = some (.v (.lst (Us.map wD))) ∧ Us.length ≤ Lim ∧ ∀ ws, ws ∈ Us ↔ ws.length = n ∧ ∀ w ∈ ws, -3 ≤ w ∧ w ≤ 3 := by
  have p7 : ∀ k, k ≤ 4 → 7 ^ k ≤ 2401 := fun k hk => by
    have : k = 0 ∨ k = 1 ∨ k = 2 ∨ k = 3 ∨ k = 4 := by omega
    rcases this with rfl | rfl | rfl | rfl | rfl <;> decide
  have main : Wp ((S_all_weights true [some (.d (nD n)), none, none, none, none] []).bind finP) fun z => ∃ Us : List (List Int), z = .v (.lst (Us.map wD)) ∧ Us.length ≤ Lim ∧ ∀ ws, ws ∈ Us ↔ ws.length = n ∧ ∀ w ∈ ws, -3 ≤ w ∧ w ≤ 3 := by
    unfold S_all_weights
    dsimp? only [sFor_, oR1_n (show n < 2 ^ 62 by omega), Option.bind_assoc]
    refine wp_forL (ds := List.range n) (e := nD) (fun done ρ S => ∃ x2 x3 x4, S = [] ∧ ρ = [some (.d (nD n)), some (.d (.lst ((genW done.length).map wD))), x2, x3, x4]) ⟨_, _, _, rfl, rfl⟩ (fun done d rest hd ρ S ⟨x2, x3, x4, e1, e2⟩ => ?_) fun ρ' S' ⟨x2, x3, x4, e1, e2⟩ => ?_
    · subst e1 e2
      have hk := split_len hd
      rw [List.length_range] at hk
      have hp7 := p7 (done.length + 1) (by omega)
      dsimp? only [Option.bind_assoc]
      refine wp_lc2 (ps := genW done.length) (S1 := []) wD (fun _ => List.range 7) (fun (i : Nat) => D.int (-3 + (i : Int))) (fun _ _ => true) (fun r i => wD (r ++ [-3 + (i : Int)])) (by simp? only []) rfl (fun r hr => ⟨[some (.d (nD n)), some (.d (.lst ((genW done.length).map wD))), some (.d (nD d)), some (.d (wD r)), none], rfl, fun L => rfl, fun i hi L => ⟨[some (.d (nD n)), some (.d (.lst ((genW done.length).map wD))), some (.d (nD d)), some (.d (wD r)), some (.d (.int (-3 + (i : Int))))], rfl, rfl, fun _ => ?_⟩⟩) ?_ ?_
      · have hr4 := (genW_mem.mp hr).1
        have hlim : (r.map D.int).length + [D.int (-3 + (i : Int))].length ≤ Lim := by
          rw [List.length_map, hr4]
          show done.length + 1 ≤ Lim
          unfold Lim; omega
        show (eBin vAdd (eVar 3) (eTup (aCons (eVar 4) aNil))) _ _ = _
        have h1 : ([D.int (-3 + (i : Int))] : List D).length ≤ Lim := by show 1 ≤ Lim; unfold Lim; omega
        simp? only [if_pos h1, cat_t hlim]
        show some (RV.d (.tup (r.map D.int ++ [D.int (-3 + (i : Int))])), _) = some (RV.d (.tup ((r ++ [-3 + (i : Int)]).map D.int)), _)
        rw [List.map_append]
        rfl
      · rw [genW_next, List.length_map, genW_len]
        unfold Lim; omega
      · rw [genW_next]
        dsimp? only []
        exact wp_some ⟨.inl rfl, some (.d (nD d)), x3, x4, rfl, by rw [List.length_append, List.length_singleton]⟩
    · subst e1 e2
      rw [List.length_range]
      obtain ⟨Us, h1, h2⟩ := srtK_W (Ws := genW n) (fun ws hw => by have := (genW_mem.mp hw).1; omega) (by rw [genW_len]; have := p7 n hn; unfold Lim; omega)
      have hs : ∀ x2 x3 x4, lSrtK true psiW (eVar 1) [some (.d (nD n)), some (.d (.lst ((genW n).map wD))), x2, x3, x4] [] = some (Us.map wD, []) := fun x2 x3 x4 => by
        unfold lSrtK
        rw [if_pos rfl]
        show ((srtK (fun xs => if xs.length = 1 then psiW [] xs else none) ((genW n).map wD)).bind _) = _
        rw [h1]
        rfl
      unfold psiW at hs
      have hlen : Us.length ≤ Lim := by
        unfold srtK at h1
        rw [mapO_W (fun ws hw => by have := (genW_mem.mp hw).1; omega), Option.bind_some] at h1
        split at h1
        · have e := congrArg List.length (Option.some.inj h1)
          unfold sortK at e
          rw [List.length_map, List.length_mergeSort, List.length_zip, List.length_map, List.length_map, Nat.min_self, List.length_map, genW_len] at e
          have := p7 n hn
          unfold Lim; omega
        · cases h1
      dsimp? only [hs]
      exact wp_some ⟨Us, rfl, hlen, fun ws => (h2 ws).trans genW_mem⟩
  obtain ⟨z, e, Us, rfl, h1, h2⟩ := main
  exact ⟨Us, e, h1, h2⟩
end Ev

/-! Thresholds: balances. -/
namespace Ev
open PySem PySem.Spec PyProof.Rows L2 Tab Thr
/-! ### setdefault -/
def put1 (kvs : List (D × D)) (k v : D) : List (D × D) := match dGet kvs k with
  | some _ => kvs
  | none => kvs ++ [(k, v)]
theorem dGet_snoc {k k' v : D} : ∀ {kvs : List (D × D)}, dGet (kvs ++ [(k, v)]) k' = match dGet kvs k' with
    | some x => some x
    | none => if k = k' then some v else none
  | [] => by rw [List.nil_append, dGet_cons]; rfl
  | p :: kvs => by
    rw [List.cons_append, dGet_cons, dGet_cons, dGet_snoc (kvs := kvs)]
    by_cases h : p.1 = k'
    · rw [if_pos h, if_pos h]
    · rw [if_neg h, if_neg h]
theorem put1_old {kvs : List (D × D)} {k v k' : D} (h : (dGet kvs k').isSome = true) : (dGet (put1 kvs k v) k').isSome = true := by
  unfold put1
  split
  · exact h
  · rw [dGet_snoc]
    cases e : dGet kvs k' with
    | some x => rfl
    | none => rw [e] at h; cases h
theorem put1_new {kvs : List (D × D)} {k v : D} : (dGet (put1 kvs k v) k).isSome = true := by
  unfold put1
  split
  · rename_i x h; rw [h]; rfl
  · rename_i h; rw [dGet_snoc, h]; simp
theorem put1_mem {kvs : List (D × D)} {k v : D} {q : D × D} (h : q ∈ put1 kvs k v) : q ∈ kvs ∨ q = (k, v) := by
  unfold put1 at h
  split at h
  · exact .inl h
  · rcases List.mem_append.mp h with h | h
    · exact .inl h
    · exact .inr (List.mem_singleton.mp h)
theorem put1_len {kvs : List (D × D)} {k v : D} : (put1 kvs k v).length ≤ kvs.length + 1 := by
  unfold put1
  split
  · omega
  · rw [List.length_append]; exact Nat.le_refl _
theorem eSetdX_ {fo fk fv : Fe RV} {ρ : Env'} {S : Sto} {z : Nat} {kvs : List (D × D)} {ds : List D} {v : D} (h1 : fo ρ S = some (.o z, S)) (hz : S[z]? = some (.dcx kvs)) (h2 : fk ρ S = some (.d (.tup ds), S)) (hk : D.isKey 8 (.tup ds) = true) (h3 : fv ρ S = some (.d v, S)) (hl : kvs.length < Lim) :
    ∃ x, eSetdX fo fk fv ρ S = some (.d x, S.set z (.dcx (put1 kvs (.tup ds) v))) := by
  unfold eSetdX put1
  rw [h1, Option.bind_some]
  simp only
  rw [isDX_ hz, Option.bind_some, h2, Option.bind_some]
  simp only
  rw [h3, Option.bind_some]
  simp only
  rw [isDX_ hz, Option.bind_some, tKey_ hk, Option.bind_some]
  cases e : dGet kvs (.tup ds) with
  | some x =>
    refine ⟨x, ?_⟩
    have : S.set z (.dcx kvs) = S := by
      refine List.ext_getElem? fun i => ?_
      rw [List.getElem?_set]
      by_cases hi : z = i
      · subst hi
        have := (List.getElem?_eq_some_iff.mp hz).1
        rw [if_pos rfl, if_pos this, hz]
      · rw [if_neg hi]
    simp only [this]
  | none =>
    refine ⟨v, ?_⟩
    simp only
    rw [if_pos hl]
    unfold dPut
    rw [e]
    rfl
/-! ### sums of pairs -/
def keyP (a b : Nat) : D := .tup [nD (a &&& b), nD (a ^^^ b)]
def valP (a b : Nat) : D := .tup [nD a, nD b]
structure PS (P : List Nat) (A : Nat → Nat → Prop) (m : Nat) (kvs : List (D × D)) : Prop where
  from_ : ∀ q ∈ kvs, ∃ a b, a ∈ P ∧ b ∈ P ∧ a ≤ b ∧ q = (keyP a b, valP a b)
  has : ∀ a b, A a b → a ≤ b → (dGet kvs (keyP a b)).isSome = true
  len : kvs.length ≤ m
theorem PS.put {P : List Nat} {A A' : Nat → Nat → Prop} {m : Nat} {kvs : List (D × D)} {a b : Nat} (h : PS P A m kvs) (ha : a ∈ P) (hb : b ∈ P) (hab : a ≤ b) (hA : ∀ x y, A' x y → A x y ∨ (x = a ∧ y = b)) : PS P A' (m + 1) (put1 kvs (keyP a b) (valP a b)) where
  from_ := fun q hq => by
    rcases put1_mem hq with hq | rfl
    · exact h.from_ q hq
    · exact ⟨a, b, ha, hb, hab, rfl⟩
  has := fun x y hxy hle => by
    rcases hA x y hxy with z | ⟨rfl, rfl⟩
    · exact put1_old (h.has x y z hle)
    · exact put1_new
  len := Nat.le_trans put1_len (Nat.succ_le_succ h.len)
theorem PS.weak {P : List Nat} {A A' : Nat → Nat → Prop} {m m' : Nat} {kvs : List (D × D)} (h : PS P A m kvs) (hA : ∀ x y, A' x y → x ≤ y → A x y) (hm : m ≤ m') : PS P A' m' kvs := ⟨h.from_, fun x y z le => h.has x y (hA x y z le) le, Nat.le_trans h.len hm⟩
theorem isKey_P {a b : Nat} : D.isKey 8 (keyP a b) = true := rfl
theorem pair_sums_s {P : List Nat} (hP : P.length ≤ 100) (Z : Sto) : ∃ kvs, runS 4 S_pair_sums [.d (.tup (P.map nD))] Z = some (.o Z.length, Z ++ [.dcx kvs]) ∧ PS P (fun a b => a ∈ P ∧ b ∈ P) 10000 kvs := by
  have at_ : ∀ kvs : List (D × D), (Z ++ [Ob.dcx kvs])[Z.length]? = some (.dcx kvs) := fun kvs => by rw [List.getElem?_append_right (Nat.le_refl _), Nat.sub_self]; rfl
  have set_ : ∀ kvs kvs' : List (D × D), (Z ++ [Ob.dcx kvs]).set Z.length (.dcx kvs') = Z ++ [.dcx kvs'] := fun kvs kvs' => by rw [List.set_append_right _ _ (Nat.le_refl _), Nat.sub_self]; rfl
  have main : Wp ((S_pair_sums [some (.d (.tup (P.map nD))), none, none, none] Z).bind finS) fun z => ∃ kvs, z = (.o Z.length, Z ++ [.dcx kvs]) ∧ PS P (fun a b => a ∈ P ∧ b ∈ P) 10000 kvs := by
    unfold S_pair_sums
    have en : ∀ (ρ : Env') (S : Sto), eNewX ρ S = some (.o S.length, S ++ [.dcx []]) := fun _ _ => rfl
    dsimp? only [en, sFor_, Option.bind_assoc]
    refine wp_forL (ds := P) (e := nD) (fun done ρ S => ∃ kvs x2 x3, S = Z ++ [.dcx kvs] ∧ ρ = [some (.d (.tup (P.map nD))), some (.o Z.length), x2, x3] ∧ PS P (fun a b => a ∈ done ∧ b ∈ P) (done.length * P.length) kvs) ⟨[], _, _, rfl, rfl, ⟨fun q hq => (by cases hq), fun a b h => (by cases h.1), Nat.zero_le _⟩⟩ (fun done one rest hd ρ S ⟨kvs, x2, x3, e1, e2, ps⟩ => ?_) fun ρ' S' ⟨kvs, x2, x3, e1, e2, ps⟩ => ?_
    · subst e1 e2
      have h1 : one ∈ P := split_mem hd
      have l1 := split_len hd
      dsimp? only [sFor_, Option.bind_assoc]
      have main2 : Wp ((foGo ⟨P.map nD, none⟩ (gN 3) (sSeq2 (sIf (fTest (eBin vLe (eVar 2) (eVar 3))) (sSeq2 (sExpr (eSetdX (eVar 1) (eTup (aCons (eBin vAnd (eVar 2) (eVar 3)) (aCons (eBin vXor (eVar 2) (eVar 3)) (aNil)))) (eTup (aCons (eVar 2) (aCons (eVar 3) (aNil)))))) (sNil)) (sNil)) (sNil)) (P.map nD) [some (.d (.tup (P.map nD))), some (.o Z.length), some (.d (nD one)), x3] (Z ++ [.dcx kvs])).bind some) fun z => z.1 = .nx ∧ ∃ kvs x2 x3, z.2.2 = Z ++ [.dcx kvs] ∧ z.2.1 = [some (.d (.tup (P.map nD))), some (.o Z.length), x2, x3] ∧ PS P (fun a b => a ∈ done ++ [one] ∧ b ∈ P) ((done ++ [one]).length * P.length) kvs := by
        refine wp_forL (ds := P) (e := nD) (fun done2 ρ S => ∃ kvs x3, S = Z ++ [.dcx kvs] ∧ ρ = [some (.d (.tup (P.map nD))), some (.o Z.length), some (.d (nD one)), x3] ∧ PS P (fun a b => (a ∈ done ∧ b ∈ P) ∨ (a = one ∧ b ∈ done2)) (done.length * P.length + done2.length) kvs) ⟨kvs, _, rfl, rfl, ps.weak (fun a b h _ => h.elim id fun z => (by cases z.2)) (Nat.le_refl _)⟩ (fun done2 other rest2 hd2 ρ S ⟨kvs, x3, e1, e2, ps⟩ => ?_) fun ρ' S' ⟨kvs, x3, e1, e2, ps⟩ => ?_
        · subst e1 e2
          have h2 : other ∈ P := split_mem hd2
          have l2 := split_len hd2
          by_cases hle : one ≤ other
          · have d1 : decide ((one : Int) ≤ (other : Int)) = true := decide_eq_true (by omega)
            have hlen : kvs.length < Lim := by
              have := ps.len
              have a1 : done.length * P.length ≤ 100 * 100 := Nat.mul_le_mul (by omega) hP
              unfold Lim; omega
            have l2' : ([nD (one &&& other), nD (one ^^^ other)] : List D).length ≤ Lim := by show 2 ≤ Lim; unfold Lim; omega
            have l2'' : ([nD one, nD other] : List D).length ≤ Lim := by show 2 ≤ Lim; unfold Lim; omega
            obtain ⟨x, hx⟩ := eSetdX_ (fo := eVar 1) (fk := eTup (aCons (eBin vAnd (eVar 2) (eVar 3)) (aCons (eBin vXor (eVar 2) (eVar 3)) (aNil)))) (fv := eTup (aCons (eVar 2) (aCons (eVar 3) (aNil)))) (ρ := [some (.d (.tup (P.map nD))), some (.o Z.length), some (.d (nD one)), some (.d (nD other))]) (S := Z ++ [.dcx kvs]) (z := Z.length) (kvs := kvs) (ds := [nD (one &&& other), nD (one ^^^ other)]) (v := valP one other) rfl (at_ kvs)
              (by simp? only [and_n, xor_n, if_pos l2']) isKey_P (by simp? only [if_pos l2'']; rfl) hlen
            rw [set_] at hx
            dsimp? only [d1, hx]
            exact wp_some ⟨.inl rfl, _, _, rfl, rfl, (ps.put h1 h2 hle (fun a b h => by
              rcases h with h | ⟨h3, h4⟩
              · exact .inl (.inl h)
              · rcases List.mem_append.mp h4 with h4 | h4
                · exact .inl (.inr ⟨h3, h4⟩)
                · exact .inr ⟨h3, List.mem_singleton.mp h4⟩)).weak (fun a b h _ => h) (by rw [List.length_append, List.length_singleton]; omega)⟩
          · have d1 : decide ((one : Int) ≤ (other : Int)) = false := decide_eq_false (by omega)
            dsimp? only [d1]
            exact wp_some ⟨.inl rfl, _, _, rfl, rfl, ps.weak (fun a b h le => by
              rcases h with h | ⟨h3, h4⟩
              · exact .inl h
              · rcases List.mem_append.mp h4 with h4 | h4
                · exact .inr ⟨h3, h4⟩
                · rw [List.mem_singleton] at h4; omega) (by rw [List.length_append, List.length_singleton]; omega)⟩
        · subst e1 e2
          exact wp_some ⟨rfl, _, _, _, rfl, rfl, ps.weak (fun a b h _ => by
            rcases List.mem_append.mp h.1 with h3 | h3
            · exact .inl ⟨h3, h.2⟩
            · exact .inr ⟨List.mem_singleton.mp h3, h.2⟩) (by rw [List.length_append, List.length_singleton, Nat.succ_mul]; omega)⟩
      obtain ⟨⟨fl, ρ2, S2⟩, e, h2, kvs2, y2, y3, e3, e4, ps2⟩ := main2
      simp only at h2 e3 e4
      subst h2 e3 e4
      rw [Option.bind_fun_some] at e
      rw [e, Option.bind_some]
      dsimp? only []
      exact wp_some ⟨.inl rfl, _, _, _, rfl, rfl, ps2⟩
    · subst e1 e2
      dsimp? only []
      exact wp_some ⟨kvs, rfl, ps.weak (fun a b h _ => h) (by
        have a1 : P.length * P.length ≤ 100 * 100 := Nat.mul_le_mul hP hP
        omega)⟩
  obtain ⟨z, e, kvs, rfl, h⟩ := main
  exact ⟨kvs, e, h⟩
end Ev

/-! Thresholds: balance or weights. -/
namespace Ev
open PySem PySem.Spec PyProof.Rows L2 Tab Thr
abbrev sideD (L : List (Nat × Nat)) : D := .tup (L.map fun q => .tup [nD q.1, nD q.2])
def sideL (a b : Nat) : List (Nat × Nat) := if a = b then [(a, 2)] else [(a, 1), (b, 1)]
theorem side_of_s {a b : Nat} : runP 3 S_side_of [valP a b] = some (.v (sideD (sideL a b))) := by
  show (S_side_of [some (.d (.tup [nD a, nD b])), none, none] []).bind finP = _
  unfold S_side_of
  by_cases h : a = b
  · subst h
    have l1 : ([nD a, .int 2] : List D).length ≤ Lim := by show 2 ≤ Lim; unfold Lim; omega
    have l2 : ([.tup [nD a, .int 2]] : List D).length ≤ Lim := by show 1 ≤ Lim; unfold Lim; omega
    simp? only [gTp2', if_pos l1, if_pos l2]
    unfold sideL
    rw [if_pos rfl]
    rfl
  · have d : decide ((a : Int) = (b : Int)) = false := decide_eq_false (by omega)
    have l1 : ([nD a, .int 1] : List D).length ≤ Lim := by show 2 ≤ Lim; unfold Lim; omega
    have l3 : ([nD b, .int 1] : List D).length ≤ Lim := by show 2 ≤ Lim; unfold Lim; omega
    have l2 : ([.tup [nD a, .int 1], .tup [nD b, .int 1]] : List D).length ≤ Lim := by show 2 ≤ Lim; unfold Lim; omega
    simp? only [gTp2', d, if_pos l1, if_pos l2, if_pos l3]
    unfold sideL
    rw [if_neg h]
    rfl
section
variable {pd pf pc pp pl psd pb pw pa : List D → Option PR} {pps : List RV → Sto → Option (RV × Sto)}
theorem places_s {t n : Nat} (hn : n ≤ 4) (hd : ∀ t p, pd [nD t, nD p] = some (.v (nD (t.testBit p).toNat))) : runP 3 (S_places pd) [nD t, nD n] = some (.v (.tup (((List.range (2 ^ n)).filter fun p => t.testBit p).map nD))) := by
  have h5 := lim5 (n := n) (by omega)
  show (S_places pd [some (.d (nD t)), some (.d (nD n)), none] []).bind finP = _
  unfold S_places
  have sh : ∀ S, vShl (.d (.int 1)) (.d (.int (n : Int))) S = some (.d (.int ((2 ^ n : Nat) : Int))) := fun S => shl_1 (by omega)
  refine wp_eq ?_
  dsimp? only [Option.bind_assoc]
  refine wp_lc (ps := List.range (2 ^ n)) nD nD (fun p => t.testBit p) (S1 := []) (by simp? only [sh, oR1_n (show 2 ^ n < 2 ^ 62 by omega)]; rfl) (by rw [List.length_range]; unfold Lim; omega) (fun p hp => ?_) ?_
  · have e1 : pd [.int (t : Int), .int (p : Int)] = _ := hd t p
    dsimp? only [e1, dec_toNat]
    cases t.testBit p
    · exact wp_some ⟨rfl, rfl, fun z => by cases z⟩
    · exact wp_some ⟨rfl, rfl, fun _ => rfl⟩
  · dsimp? only []
    exact wp_some rfl
theorem check4_s {t n : Nat} (hn : n ≤ 4) (ht : t < 2 ^ 2 ^ n) (hf : pf [nD n] = some (.v (nD (full n)))) : runP 2 (S_check_asked_thresholds pf) [nD t, nD n] = some (.v .non) := by
  show (S_check_asked_thresholds pf [some (.d (nD t)), some (.d (nD n))] []).bind finP = _
  unfold S_check_asked_thresholds
  have d1 : decide ((0 : Int) ≤ (n : Int)) = true := decide_eq_true (by omega)
  have d2 : decide ((n : Int) ≤ 4) = true := decide_eq_true (by omega)
  have d3 : decide ((0 : Int) ≤ (t : Int)) = true := decide_eq_true (by omega)
  have d4 : decide ((t : Int) ≤ (full n : Int)) = true := decide_eq_true (by unfold full; omega)
  have hf : pf [.int (n : Int)] = some (.v (.int (full n : Int))) := hf
  simp? only [d1, d2, d3, d4, hf, Bool.not_true]
theorem keysP {kvs : List (D × D)} {P : List Nat} {A : Nat → Nat → Prop} {m : Nat} (h : PS P A m kvs) : keysOk (kvs.map (·.1)) = true := by
  have form : ∀ d ∈ kvs.map (·.1), ∃ a b, d = keyP a b := fun d hd => by
    obtain ⟨q, hq, rfl⟩ := List.mem_map.mp hd
    obtain ⟨a, b, _, _, _, rfl⟩ := h.from_ q hq
    exact ⟨a, b, rfl⟩
  unfold keysOk
  refine List.all_eq_true.mpr fun d hd => ?_
  obtain ⟨a, b, rfl⟩ := form d hd
  rw [Bool.and_eq_true, Bool.and_eq_true]
  refine ⟨⟨rfl, decide_eq_true ?_⟩, List.all_eq_true.mpr fun e he => ?_⟩
  · simp [keyP, D.py, D.pys, PyData.depth, PyData.depthAll]
  · obtain ⟨c, d, rfl⟩ := form e he
    simp [keyP, D.py, D.pys, PySem.W.alike, PySem.W.alikeAll]
theorem dGet_mem {k v : D} : ∀ {kvs : List (D × D)}, dGet kvs k = some v → (k, v) ∈ kvs
  | [], h => by cases h
  | p :: kvs, h => by
    rw [dGet_cons] at h
    split at h
    · rename_i e
      cases h
      rw [← e]
      exact List.mem_cons_self
    · exact List.mem_cons_of_mem _ (dGet_mem h)
theorem dGet_key {k : D} : ∀ {kvs : List (D × D)}, (dGet kvs k).isSome = true → k ∈ kvs.map (·.1) := fun {kvs} h => by
  cases e : dGet kvs k with
  | none => rw [e] at h; cases h
  | some v => exact List.mem_map.mpr ⟨_, dGet_mem e, rfl⟩
theorem nD_inj' {a b : Nat} (h : nD a = nD b) : a = b := by
  have h : D.int (a : Int) = D.int (b : Int) := h
  injection h with h
  omega
theorem keyP_inj {a b c d : Nat} (h : keyP a b = keyP c d) : a &&& b = c &&& d ∧ a ^^^ b = c ^^^ d := by
  unfold keyP at h
  injection h with h
  injection h with h1 h
  injection h with h2 _
  exact ⟨nD_inj' h1, nD_inj' h2⟩
structure BalAt (n t a b c d : Nat) : Prop where
  ab : a ≤ b
  bn : b < 2 ^ n
  cd : c ≤ d
  dn : d < 2 ^ n
  ta : t.testBit a = true
  tb : t.testBit b = true
  tc : t.testBit c = false
  td : t.testBit d = false
  e1 : a &&& b = c &&& d
  e2 : a ^^^ b = c ^^^ d
theorem BalAt.bal {n t a b c d : Nat} (h : BalAt n t a b c d) : Bal n t := ⟨a, b, c, d, h.ab, h.bn, h.cd, h.dn, h.ta, h.tb, h.tc, h.td, h.e1, h.e2⟩
theorem balance_of_s {t n : Nat} (hn : n ≤ 4) (ht : t < 2 ^ 2 ^ n) (hf : pf [nD n] = some (.v (nD (full n)))) (hpl : ∀ t, pl [nD t, nD n] = some (.v (.tup (((List.range (2 ^ n)).filter fun p => t.testBit p).map nD))))
    (hps : ∀ (P : List Nat) (Z : Sto), P.length ≤ 100 → ∃ kvs, pps [.d (.tup (P.map nD))] Z = some (.o Z.length, Z ++ [.dcx kvs]) ∧ PS P (fun a b => a ∈ P ∧ b ∈ P) 10000 kvs) (hsd : ∀ a b, psd [valP a b] = some (.v (sideD (sideL a b)))) :
    ∃ r, runP 5 (S_balance_of pps pl pf psd) [nD t, nD n] = some (.v r) ∧ ((r = .non ∧ ¬ Bal n t) ∨ ∃ a b c d, BalAt n t a b c d ∧ r = .tup [sideD (sideL a b), sideD (sideL c d)]) := by
  have n16 : 2 ^ n ≤ 16 := pow_le (m := 4) hn
  generalize hU : ((List.range (2 ^ n)).filter fun p => t.testBit p) = U
  generalize hV : ((List.range (2 ^ n)).filter fun p => (full n ^^^ t).testBit p) = V
  have lU : U.length ≤ 100 := by rw [← hU]; have := List.length_filter_le (fun p => t.testBit p) (List.range (2 ^ n)); rw [List.length_range] at this; omega
  have lV : V.length ≤ 100 := by rw [← hV]; have := List.length_filter_le (fun p => (full n ^^^ t).testBit p) (List.range (2 ^ n)); rw [List.length_range] at this; omega
  have mU : ∀ {p}, p ∈ U ↔ p < 2 ^ n ∧ t.testBit p = true := fun {p} => by rw [← hU, List.mem_filter, List.mem_range]
  have mV : ∀ {p}, p ∈ V ↔ p < 2 ^ n ∧ t.testBit p = false := fun {p} => by
    rw [← hV, List.mem_filter, List.mem_range, Nat.testBit_xor, full_bit]
    constructor
    · rintro ⟨h1, h2⟩
      rw [decide_eq_true h1] at h2
      exact ⟨h1, by simpa using h2⟩
    · rintro ⟨h1, h2⟩
      rw [decide_eq_true h1, h2]
      exact ⟨h1, rfl⟩
  have p1 := hpl t
  have p2 := hpl (full n ^^^ t)
  rw [hU] at p1
  rw [hV] at p2
  obtain ⟨k1, s1, ps1⟩ := hps U [] lU
  obtain ⟨k2, s2, ps2⟩ := hps V [.dcx k1] lV
  have p1 : pl [.int (t : Int), .int (n : Int)] = _ := p1
  have p2 : pl [.int ((full n ^^^ t : Nat) : Int), .int (n : Int)] = _ := p2
  have hf : pf [.int (n : Int)] = some (.v (.int (full n : Int))) := hf
  have l1 : k1.length ≤ Lim := by have := ps1.len; unfold Lim; omega
  have key : ∀ l : List D, (∀ d ∈ l, ∃ q : Nat × Nat, q.1 ∈ U ∧ q.2 ∈ U ∧ q.1 ≤ q.2 ∧ d = keyP q.1 q.2) → ∃ L : List (Nat × Nat), l = L.map (fun q => keyP q.1 q.2) ∧ ∀ q ∈ L, q.1 ∈ U ∧ q.2 ∈ U ∧ q.1 ≤ q.2 := by
    intro l
    induction l with
    | nil => intro _; exact ⟨[], rfl, fun q hq => by cases hq⟩
    | cons d l ih =>
      intro h
      obtain ⟨q, h1, h2, h3, rfl⟩ := h d List.mem_cons_self
      obtain ⟨L, rfl, h4⟩ := ih fun x hx => h x (List.mem_cons_of_mem _ hx)
      refine ⟨q :: L, rfl, fun x hx => ?_⟩
      rcases List.mem_cons.mp hx with rfl | hx
      · exact ⟨h1, h2, h3⟩
      · exact h4 x hx
  have perm : (sortD (k1.map (·.1))).Perm (k1.map (·.1)) := List.mergeSort_perm _ _
  obtain ⟨L, hL, mL⟩ := key (sortD (k1.map (·.1))) fun d hd => by
    obtain ⟨q, hq, rfl⟩ := List.mem_map.mp (perm.mem_iff.mp hd)
    obtain ⟨a, b, ha, hb, hab, rfl⟩ := ps1.from_ q hq
    exact ⟨(a, b), ha, hb, hab, rfl⟩
  have hs : bSrtX [.o 0] [.dcx k1, .dcx k2] = some (L.map fun q => keyP q.1 q.2) := by
    unfold bSrtX
    simp only [List.getElem?_cons_zero]
    rw [if_pos ⟨keysP ps1, l1⟩, hL]
  have main : Wp ((S_balance_of pps pl pf psd [some (.d (nD t)), some (.d (nD n)), none, none, none] []).bind finP) fun z => ∃ r, z = .v r ∧ ((r = .non ∧ ¬ Bal n t) ∨ ∃ a b c d, BalAt n t a b c d ∧ r = .tup [sideD (sideL a b), sideD (sideL c d)]) := by
    unfold S_balance_of
    have c1 : ∀ S, callSK 1 pps ([.d (.tup (U.map nD))], S) = pps [.d (.tup (U.map nD))] S := fun S => callSK_ rfl
    have c2 : ∀ S, callSK 1 pps ([.d (.tup (V.map nD))], S) = pps [.d (.tup (V.map nD))] S := fun S => callSK_ rfl
    have s1 : pps [.d (.tup (U.map nD))] [] = some (.o 0, [.dcx k1]) := s1
    have s2 : pps [.d (.tup (V.map nD))] [.dcx k1] = some (.o 1, [.dcx k1, .dcx k2]) := s2
    dsimp? only [p1, p2, hf, xor_n, c1, c2, s1, s2, hs, sFor_, Option.bind_assoc]
    refine wp_forR (ds := L) (e := fun q => keyP q.1 q.2) (fun ρ S => ∃ x4, S = [.dcx k1, .dcx k2] ∧ ρ = [some (.d (nD t)), some (.d (nD n)), some (.o 0), some (.o 1), x4]) (fun q => dGet k2 (keyP q.1 q.2) = none) (fun q r => ∃ a b c d, BalAt n t a b c d ∧ r = .d (.tup [sideD (sideL a b), sideD (sideL c d)])) ⟨_, rfl, rfl⟩ (fun q hq ρ S ⟨x4, e1, e2⟩ => ?_) (fun ρ' S' ⟨x4, e1, e2⟩ hN => ?_) (fun q hq r ρ' S' ⟨a, b, c, d, hb, hr⟩ => ?_)
    · subst e1 e2
      have hin : ∀ S : Sto, S = [.dcx k1, .dcx k2] → vInX false (.d (keyP q.1 q.2)) (.o 1) S = some (.d (.bl (dGet k2 (keyP q.1 q.2)).isSome)) := fun S hS => by subst hS; exact vInX_ rfl isKey_P
      have hin := hin _ rfl
      cases hg : dGet k2 (keyP q.1 q.2) with
      | none =>
        rw [hg] at hin
        dsimp? only [hin, Option.isSome_none]
        exact wp_some (.inl ⟨.inl rfl, ⟨_, rfl, rfl⟩, trivial⟩)
      | some v =>
        rw [hg] at hin
        obtain ⟨q1, q2, q3⟩ := mL q hq
        obtain ⟨v1, hv1⟩ : ∃ v1, dGet k1 (keyP q.1 q.2) = some v1 := by
          have := ps1.has q.1 q.2 ⟨q1, q2⟩ q3
          cases e : dGet k1 (keyP q.1 q.2) with
          | none => rw [e] at this; cases this
          | some x => exact ⟨x, rfl⟩
        obtain ⟨a, b, ha, hb, hab, e1⟩ := ps1.from_ _ (dGet_mem hv1)
        obtain ⟨c, d, hc, hd, hcd, e2⟩ := ps2.from_ _ (dGet_mem hg)
        have e1k := congrArg Prod.fst e1
        have e1v : v1 = valP a b := congrArg Prod.snd e1
        have e2k := congrArg Prod.fst e2
        have e2v : v = valP c d := congrArg Prod.snd e2
        simp only at e1k e2k
        subst e1v e2v
        obtain ⟨w1, w2⟩ := keyP_inj (e1k.symm.trans e2k)
        have i1 : vIxX (.o 0) (.d (keyP q.1 q.2)) [.dcx k1, .dcx k2] = some (.d (valP a b)) := by
          have z : vIxX (.o 0) (.d (keyP q.1 q.2)) [.dcx k1, .dcx k2] = (dGet k1 (keyP q.1 q.2)).map RV.d := vIxX_ rfl isKey_P
          rw [z, hv1]; rfl
        have i2 : vIxX (.o 1) (.d (keyP q.1 q.2)) [.dcx k1, .dcx k2] = some (.d (valP c d)) := by
          have z : vIxX (.o 1) (.d (keyP q.1 q.2)) [.dcx k1, .dcx k2] = (dGet k2 (keyP q.1 q.2)).map RV.d := vIxX_ rfl isKey_P
          rw [z, hg]; rfl
        have l2 : ([sideD (sideL a b), sideD (sideL c d)] : List D).length ≤ Lim := by show 2 ≤ Lim; unfold Lim; omega
        dsimp? only [hin, Option.isSome_some, i1, i2, hsd, if_pos l2]
        refine wp_some (.inr ⟨_, rfl, a, b, c, d, ⟨hab, (mU.mp hb).1, hcd, (mV.mp hd).1, (mU.mp ha).2, (mU.mp hb).2, (mV.mp hc).2, (mV.mp hd).2, w1, w2⟩, rfl⟩)
    · subst e1 e2
      dsimp? only []
      refine wp_some ⟨_, rfl, .inl ⟨rfl, fun ⟨a, b, c, d, hab, hbn, hcd, hdn, ta, tb', tc, td, w1, w2⟩ => ?_⟩⟩
      have ua : a ∈ U := mU.mpr ⟨by omega, ta⟩
      have ub : b ∈ U := mU.mpr ⟨hbn, tb'⟩
      have vc : c ∈ V := mV.mpr ⟨by omega, tc⟩
      have vd : d ∈ V := mV.mpr ⟨hdn, td⟩
      have k1m := dGet_key (ps1.has a b ⟨ua, ub⟩ hab)
      have : keyP a b ∈ L.map fun q => keyP q.1 q.2 := by rw [← hL]; exact perm.mem_iff.mpr k1m
      obtain ⟨q, hq, eq⟩ := List.mem_map.mp this
      have hn2 := hN q hq
      have hs2 := ps2.has c d ⟨vc, vd⟩ hcd
      have ek : keyP q.1 q.2 = keyP c d := by
        rw [eq]
        unfold keyP
        rw [w1, w2]
      rw [ek] at hn2
      rw [hn2] at hs2
      cases hs2
    · subst hr
      dsimp? only []
      exact wp_some ⟨_, rfl, .inr ⟨a, b, c, d, hb, rfl⟩⟩
  obtain ⟨z, e, r, rfl, h⟩ := main
  exact ⟨r, e, h⟩
end
end Ev

/-! Thresholds: the def itself; what takes weights and balances. -/
namespace Ev
open PySem PySem.Spec PyProof.Rows L2 Tab Thr
def ThrR (n t : Nat) (r : D) : Prop := (∃ a b c d, BalAt n t a b c d ∧ r = .tup [.str "balance", sideD (sideL a b), sideD (sideL c d)]) ∨ (¬ Bal n t ∧ ∃ ws b, ws.length = n ∧ (∀ w ∈ ws, -3 ≤ w ∧ w ≤ 3) ∧ Makes n t ws b ∧ r = .tup [.str "weights", wD ws, .int b])
section
variable {pd pf pc pp pl psd pb pw pa pbo ps pof : List D → Option PR}
theorem threshold_s {t n : Nat} {Us : List (List Int)} (hn : n ≤ 4) (ht : t < 2 ^ 2 ^ n) (hc : pc [nD t, nD n] = some (.v .non))
    (hb : ∃ r, pb [nD t, nD n] = some (.v r) ∧ ((r = .non ∧ ¬ Bal n t) ∨ ∃ a b c d, BalAt n t a b c d ∧ r = .tup [sideD (sideL a b), sideD (sideL c d)]))
    (ha : pa [nD n] = some (.v (.lst (Us.map wD)))) (hm : ∀ ws, ws ∈ Us ↔ ws.length = n ∧ ∀ w ∈ ws, -3 ≤ w ∧ w ≤ 3)
    (ho : ∀ ws, ws ∈ Us → ∃ r : Option Int, pbo [nD t, nD n, wD ws] = some (.v (bndD r)) ∧ (∀ b, r = some b → Makes n t ws b) ∧ (r = none → ∀ b, ¬ Makes n t ws b)) :
    ∃ r, runP 5 (S_threshold pc pb pa pbo) [nD t, nD n] = some (.v r) ∧ ThrR n t r := by
  obtain ⟨r0, e0, h0⟩ := hb
  have hc : pc [.int (t : Int), .int (n : Int)] = _ := hc
  have e0 : pb [.int (t : Int), .int (n : Int)] = _ := e0
  have ha : pa [.int (n : Int)] = _ := ha
  have l3 : ∀ x y z : D, ([x, y, z] : List D).length ≤ Lim := fun x y z => by show 3 ≤ Lim; unfold Lim; omega
  have main : Wp ((S_threshold pc pb pa pbo [some (.d (nD t)), some (.d (nD n)), none, none, none] []).bind finP) fun z => ∃ r, z = .v r ∧ ThrR n t r := by
    unfold S_threshold
    rcases h0 with ⟨rfl, nb⟩ | ⟨a, b, c, d, hb, rfl⟩
    · dsimp? only [hc, e0, ha, sFor_, Option.bind_assoc]
      refine wp_forR (ds := Us) (e := wD) (fun ρ S => ∃ x3 x4, S = [] ∧ ρ = [some (.d (nD t)), some (.d (nD n)), some (.d .non), x3, x4]) (fun ws => ∀ b, ¬ Makes n t ws b) (fun ws r => ∃ b, Makes n t ws b ∧ r = .d (.tup [.str "weights", wD ws, .int b])) ⟨_, _, rfl, rfl⟩ (fun ws hw ρ S ⟨x3, x4, e1, e2⟩ => ?_) (fun ρ' S' ⟨x3, x4, e1, e2⟩ hN => ?_) (fun ws hw r ρ' S' ⟨b, hmk, hr⟩ => ?_)
      · subst e1 e2
        obtain ⟨r, e3, h1, h2⟩ := ho ws hw
        have e3 : pbo [.int (t : Int), .int (n : Int), wD ws] = _ := e3
        cases r with
        | none =>
          have e3 : pbo [.int (t : Int), .int (n : Int), wD ws] = some (.v .non) := e3
          dsimp? only [e3, oP3]
          exact wp_some (.inl ⟨.inl rfl, ⟨_, _, rfl, rfl⟩, h2 rfl⟩)
        | some b =>
          have e3 : pbo [.int (t : Int), .int (n : Int), wD ws] = some (.v (.int b)) := e3
          dsimp? only [e3, oP3, if_pos (l3 _ _ _)]
          exact wp_some (.inr ⟨_, rfl, b, h1 b rfl, rfl⟩)
      · subst e1 e2
        obtain ⟨ws, b, h1, h2, h3⟩ := Thr.weights hn ht nb
        exact absurd h3 (hN ws ((hm ws).mpr ⟨h1, h2⟩) b)
      · subst hr
        dsimp? only []
        exact wp_some ⟨_, rfl, .inr ⟨nb, ws, b, ((hm ws).mp hw).1, ((hm ws).mp hw).2, hmk, rfl⟩⟩
    · dsimp? only [hc, e0, if_pos (l3 _ _ _)]
      exact wp_some ⟨_, rfl, .inl ⟨a, b, c, d, hb, rfl⟩⟩
  obtain ⟨z, e, r, rfl, h⟩ := main
  exact ⟨r, e, h⟩
/-! ### weights taken -/
def mkB (n t : Nat) (ws : List Int) (b : Int) : Bool := (List.range (2 ^ n)).all fun p => decide (b ≤ wt ws p) == t.testBit p
theorem mkB_iff {n t : Nat} {ws : List Int} {b : Int} : mkB n t ws b = true ↔ Makes n t ws b := by
  unfold mkB Makes
  rw [List.all_eq_true]
  constructor
  · intro h p hp
    exact (beq_iff_eq.mp (h p (List.mem_range.mpr hp))).symm
  · intro h p hp
    exact beq_iff_eq.mpr (h p (List.mem_range.mp hp)).symm
theorem takes_weights_s {t n : Nat} {ws : List Int} {b : Int} (hn : n ≤ 4) (hl : ws.length = n) (hc : pc [nD t, nD n] = some (.v .non)) (hd : ∀ t p, pd [nD t, nD p] = some (.v (nD (t.testBit p).toNat))) (hv : ∀ p, pw [wD ws, nD p] = some (.v (.int (wt ws p)))) :
    runP 5 (S_takes_weights pc pw pd) [nD t, nD n, wD ws, .int b] = some (.v (.bl (mkB n t ws b))) := by
  have h5 := lim5 (n := n) (by omega)
  show (S_takes_weights pc pw pd [some (.d (nD t)), some (.d (nD n)), some (.d (wD ws)), some (.d (.int b)), none] []).bind finP = _
  unfold S_takes_weights
  have hc : pc [.int (t : Int), .int (n : Int)] = _ := hc
  have sh : ∀ S, vShl (.d (.int 1)) (.d (.int (n : Int))) S = some (.d (.int ((2 ^ n : Nat) : Int))) := fun S => shl_1 (by omega)
  have dl : (!decide (((ws.map D.int).length : Int) = (n : Int))) = false := by rw [List.length_map, hl, decide_eq_true rfl]; rfl
  refine wp_eq ?_
  dsimp? only [hc, dl, Option.bind_assoc]
  refine wp_lcm (ps := List.range (2 ^ n)) nD (fun p => .bl (decide (b ≤ wt ws p) == t.testBit p)) (S1 := []) (by simp? only [sh, oR1_n (show 2 ^ n < 2 ^ 62 by omega)]; rfl) (by rw [List.length_range]; unfold Lim; omega) (fun p hp => ?_) ?_
  · have e1 : pd [.int (t : Int), .int (p : Int)] = _ := hd t p
    have e2 : pw [wD ws, .int (p : Int)] = _ := hv p
    cases hx : decide (b ≤ wt ws p) <;> cases hy : t.testBit p <;> rw [hy] at e1
    all_goals
      dsimp? only [e1, e2, hx]
      exact wp_some ⟨rfl, rfl⟩
  · dsimp? only [all_map]
    exact wp_some rfl
end
end Ev

/-! Thresholds: balances taken; rising, falling. -/
namespace Ev
open PySem PySem.Spec PyProof.Rows L2 Tab Thr
abbrev qD (q : Nat × Nat) : D := .tup [nD q.1, nD q.2]
def ofI (L : List (Nat × Nat)) (i : Nat) : Nat := ((L.filter fun q => q.1.testBit i).map (·.2)).sum
def totL (L : List (Nat × Nat)) : Nat := (L.map (·.2)).sum
def ascL (L : List (Nat × Nat)) : Bool := (L.zip (L.drop 1)).all fun q => decide (q.1.1 < q.2.1)
def sideB (n t : Nat) (L : List (Nat × Nat)) (b : Bool) : Bool := ascL L && L.all fun q => decide (q.1 < 2 ^ n) && (t.testBit q.1 == b) && decide (1 ≤ q.2)
def tkB (n t : Nat) (U V : List (Nat × Nat)) : Bool := sideB n t U true && sideB n t V false && decide (1 ≤ totL U) && decide (totL U = totL V) && (List.range n).all fun i => decide (ofI U i = ofI V i)
theorem zipD_q : ∀ (a b : List (Nat × Nat)), zipD (a.map qD) (b.map qD) = (a.zip b).map fun q => .tup [qD q.1, qD q.2]
  | [], _ => rfl
  | _ :: _, [] => rfl
  | x :: a, y :: b => by
    rw [List.map_cons, List.map_cons, List.zip_cons_cons, List.map_cons, ← zipD_q a b]
    rfl
section
variable {pd pf pc pp pl psd pb pw pa pbo ps pof px : List D → Option PR}
theorem of_input_s {L : List (Nat × Nat)} {i : Nat} (hl : L.length ≤ 1000) : runP 4 S_of_input [sideD L, nD i] = some (.v (nD (ofI L i))) := by
  show (S_of_input [some (.d (sideD L)), some (.d (nD i)), none, none] []).bind finP = _
  unfold S_of_input
  refine wp_eq ?_
  dsimp? only [Option.bind_assoc]
  refine wp_lc (ps := L) qD (fun q => nD q.2) (fun q => q.1.testBit i) (S1 := []) (by simp? only []) (by unfold Lim; omega) (fun q hq => ?_) ?_
  · dsimp? only [gTp2', shr_n, and_1, shr_bit, bne_toNat]
    cases q.1.testBit i
    · exact wp_some ⟨rfl, rfl, fun z => by cases z⟩
    · exact wp_some ⟨rfl, rfl, fun _ => rfl⟩
  · dsimp? only [sum_map]
    exact wp_some rfl
theorem is_side_s {t n : Nat} {L : List (Nat × Nat)} {b : Bool} (hn : n ≤ 4) (hl : L.length ≤ 1000) (hd : ∀ t p, pd [nD t, nD p] = some (.v (nD (t.testBit p).toNat))) : runP 8 (S_is_side pd) [nD t, nD n, sideD L, nD b.toNat] = some (.v (.bl (sideB n t L b))) := by
  have h5 := lim5 (n := n) (by omega)
  show (S_is_side pd [some (.d (nD t)), some (.d (nD n)), some (.d (sideD L)), some (.d (nD b.toNat)), none, none, none, none] []).bind finP = _
  unfold S_is_side
  have sh : ∀ S, vShl (.d (.int 1)) (.d (.int (n : Int))) S = some (.d (.int ((2 ^ n : Nat) : Int))) := fun S => shl_1 (by omega)
  refine wp_eq ?_
  dsimp? only [Option.bind_assoc]
  refine wp_lcm (ps := L.zip (L.drop 1)) (fun q => .tup [qD q.1, qD q.2]) (fun q => .bl (decide (q.1.1 < q.2.1))) (S1 := []) (by
    simp? only [oZip_t]
    have e : (L.map qD).drop 1 = (L.drop 1).map qD := (List.map_drop ..).symm
    show some (_, _) = some (_, _)
    rw [show (L.map fun q => D.tup [nD q.1, nD q.2]) = L.map qD from rfl, e, zipD_q]) (by rw [List.length_zip]; unfold Lim; omega) (fun q hq => ?_) ?_
  · have d : decide ((q.1.1 : Int) < (q.2.1 : Int)) = decide (q.1.1 < q.2.1) := decide_eq_decide.mpr (by omega)
    dsimp? only [gTp2', d]
    exact wp_some ⟨rfl, rfl⟩
  · dsimp? only [all_map]
    unfold sideB
    cases ha : ascL L with
    | false =>
      have ha' : ((L.zip (L.drop 1)).all fun q => decide (q.1.1 < q.2.1)) = false := ha
      dsimp? only [ha', Bool.not_false]
      exact wp_some rfl
    | true =>
      have ha' : ((L.zip (L.drop 1)).all fun q => decide (q.1.1 < q.2.1)) = true := ha
      dsimp? only [ha', Bool.not_true, Option.bind_assoc]
      refine wp_lcm (ps := L) qD (fun q => .bl (decide (q.1 < 2 ^ n) && (t.testBit q.1 == b) && decide (1 ≤ q.2))) (S1 := []) (by simp? only []) (by unfold Lim; omega) (fun q hq => ?_) ?_
      · have e1 : pd [.int (t : Int), .int (q.1 : Int)] = _ := hd t q.1
        have d0 : decide ((0 : Int) ≤ (q.1 : Int)) = true := decide_eq_true (by omega)
        have d1 : decide ((q.1 : Int) < ((2 ^ n : Nat) : Int)) = decide (q.1 < 2 ^ n) := decide_eq_decide.mpr (by omega)
        have d2 : decide ((((t.testBit q.1).toNat : Nat) : Int) = ((b.toNat : Nat) : Int)) = (t.testBit q.1 == b) := by cases t.testBit q.1 <;> cases b <;> rfl
        have d3 : decide ((1 : Int) ≤ (q.2 : Int)) = decide (1 ≤ q.2) := decide_eq_decide.mpr (by omega)
        cases hx : decide (q.1 < 2 ^ n) with
        | false =>
          rw [hx] at d1
          dsimp? only [gTp2', d0, sh, d1]
          exact wp_some ⟨rfl, rfl⟩
        | true =>
          rw [hx] at d1
          cases hy : (t.testBit q.1 == b) with
          | false =>
            rw [hy] at d2
            dsimp? only [gTp2', d0, sh, d1, e1, d2]
            exact wp_some ⟨rfl, rfl⟩
          | true =>
            rw [hy] at d2
            dsimp? only [gTp2', d0, sh, d1, e1, d2, d3]
            exact wp_some ⟨rfl, rfl⟩
      · dsimp? only [all_map]
        exact wp_some rfl
theorem takes_balance_s {t n : Nat} {U V : List (Nat × Nat)} (hn : n ≤ 4) (hU : U.length ≤ 1000) (hV : V.length ≤ 1000) (hc : pc [nD t, nD n] = some (.v .non))
    (h1 : ps [nD t, nD n, sideD U, nD 1] = some (.v (.bl (sideB n t U true)))) (h0 : ps [nD t, nD n, sideD V, nD 0] = some (.v (.bl (sideB n t V false)))) (ho : ∀ L i, L.length ≤ 1000 → pof [sideD L, nD i] = some (.v (nD (ofI L i)))) :
    runP 8 (S_takes_balance pc ps pof) [nD t, nD n, sideD U, sideD V] = some (.v (.bl (tkB n t U V))) := by
  show (S_takes_balance pc ps pof [some (.d (nD t)), some (.d (nD n)), some (.d (sideD U)), some (.d (sideD V)), none, none, none, none] []).bind finP = _
  unfold S_takes_balance
  have hc : pc [.int (t : Int), .int (n : Int)] = _ := hc
  have h1 : ps [.int (t : Int), .int (n : Int), sideD U, .int 1] = _ := h1
  have h0 : ps [.int (t : Int), .int (n : Int), sideD V, .int 0] = _ := h0
  have oP4' : True := trivial
  unfold tkB
  refine wp_eq ?_
  cases hx : sideB n t U true with
  | false =>
    rw [hx] at h1
    dsimp? only [hc, oP4, h1, Bool.not_false, fOr_, orK_t]
    exact wp_some rfl
  | true =>
    rw [hx] at h1
    cases hy : sideB n t V false with
    | false =>
      rw [hy] at h0
      dsimp? only [hc, oP4, h1, h0, Bool.not_false, Bool.not_true, fOr_, orK_t, orK_f]
      exact wp_some rfl
    | true =>
      rw [hy] at h0
      dsimp? only [hc, oP4, h1, h0, Bool.not_false, Bool.not_true, fOr_, orK_t, orK_f, Option.bind_assoc]
      refine wp_lcm (ps := U) qD (fun q => nD q.2) (S1 := []) (by simp? only []) (by unfold Lim; omega) (fun q hq => ?_) ?_
      · dsimp? only [gTp2']
        exact wp_some ⟨rfl, rfl⟩
      · have e1 : (U.map (·.2)).sum = totL U := rfl
        have d1 : decide ((totL U : Int) < 1) = !decide (1 ≤ totL U) := by
          by_cases h : 1 ≤ totL U
          · rw [decide_eq_true h, decide_eq_false (by omega)]; rfl
          · rw [decide_eq_false h, decide_eq_true (by omega)]; rfl
        cases hz : decide (1 ≤ totL U) with
        | false =>
          rw [hz] at d1
          dsimp? only [sum_map, e1, d1, Bool.not_false]
          exact wp_some rfl
        | true =>
          rw [hz] at d1
          dsimp? only [sum_map, e1, d1, Bool.not_true, Option.bind_assoc]
          refine wp_lcm (ps := V) qD (fun q => nD q.2) (S1 := []) (by simp? only []) (by unfold Lim; omega) (fun q hq => ?_) ?_
          · dsimp? only [gTp2']
            exact wp_some ⟨rfl, rfl⟩
          · have e2 : (V.map (·.2)).sum = totL V := rfl
            have d2 : decide ((totL U : Int) = (totL V : Int)) = decide (totL U = totL V) := decide_eq_decide.mpr (by omega)
            cases hw : decide (totL U = totL V) with
            | false =>
              rw [hw] at d2
              dsimp? only [sum_map, e2, d2, Bool.not_false]
              exact wp_some rfl
            | true =>
              rw [hw] at d2
              dsimp? only [sum_map, e2, d2, Bool.not_true, Option.bind_assoc]
              refine wp_lcm (ps := List.range n) nD (fun i => .bl (decide (ofI U i = ofI V i))) (S1 := []) (by simp? only [oR1_n (show n < 2 ^ 62 by omega)]; rfl) (by rw [List.length_range]; unfold Lim; omega) (fun i hi => ?_) ?_
              · have e3 : pof [sideD U, .int (i : Int)] = _ := ho U i hU
                have e4 : pof [sideD V, .int (i : Int)] = _ := ho V i hV
                have d3 : decide ((ofI U i : Int) = (ofI V i : Int)) = decide (ofI U i = ofI V i) := decide_eq_decide.mpr (by omega)
                dsimp? only [e3, e4, d3]
                exact wp_some ⟨rfl, rfl⟩
              · dsimp? only [all_map]
                exact wp_some rfl
/-! ### rising, falling -/
def risB (n i t : Nat) : Bool := decide (fx n i 0 t &&& (full n ^^^ fx n i 1 t) = 0)
def falB (n i t : Nat) : Bool := decide (fx n i 1 t &&& (full n ^^^ fx n i 0 t) = 0)
theorem rises_s {t n i : Nat} (hx : ∀ b, px [nD t, nD n, nD i, nD b] = some (.v (nD (fx n i b t)))) (hf : pf [nD n] = some (.v (nD (full n)))) : runP 3 (S_rises px pf) [nD t, nD n, nD i] = some (.v (.bl (risB n i t))) := by
  show (S_rises px pf [some (.d (nD t)), some (.d (nD n)), some (.d (nD i))] []).bind finP = _
  unfold S_rises
  have x0 : px [.int (t : Int), .int (n : Int), .int (i : Int), .int 0] = _ := hx 0
  have x1 : px [.int (t : Int), .int (n : Int), .int (i : Int), .int 1] = _ := hx 1
  have hf : pf [.int (n : Int)] = _ := hf
  have d : decide (((fx n i 0 t &&& (full n ^^^ fx n i 1 t) : Nat) : Int) = 0) = risB n i t := decide_eq_decide.mpr (by omega)
  simp? only [x0, x1, hf, oP4, xor_n, and_n, d]
theorem falls_s {t n i : Nat} (hx : ∀ b, px [nD t, nD n, nD i, nD b] = some (.v (nD (fx n i b t)))) (hf : pf [nD n] = some (.v (nD (full n)))) : runP 3 (S_falls px pf) [nD t, nD n, nD i] = some (.v (.bl (falB n i t))) := by
  show (S_falls px pf [some (.d (nD t)), some (.d (nD n)), some (.d (nD i))] []).bind finP = _
  unfold S_falls
  have x0 : px [.int (t : Int), .int (n : Int), .int (i : Int), .int 0] = _ := hx 0
  have x1 : px [.int (t : Int), .int (n : Int), .int (i : Int), .int 1] = _ := hx 1
  have hf : pf [.int (n : Int)] = _ := hf
  have d : decide (((fx n i 1 t &&& (full n ^^^ fx n i 0 t) : Nat) : Int) = 0) = falB n i t := decide_eq_decide.mpr (by omega)
  simp? only [x0, x1, hf, oP4, xor_n, and_n, d]
end
end Ev

/-! Thresholds: a table of one input less. -/
namespace Ev
open PySem PySem.Spec PyProof.Rows L2 Tab Thr
def insB (i p : Nat) : Nat := (p - p % 2 ^ i) * 2 + p % 2 ^ i
def squ (n i t : Nat) : Nat := tb (2 ^ (n - 1)) fun p => t.testBit (insB i p)
section
variable {pr pg : List D → Option PR}
theorem squeezed56_s {n i t : Nat} (hn : n ≤ 4) (h1 : 1 ≤ n) (hi : i < n) (hw : ∀ k, k ≤ 29 → pr [nD k] = some (.v (nD (2 ^ k)))) (hg : ∀ p, p ≤ 29 → pg [nD t, nD p] = some (.v (nD (t.testBit p).toNat))) :
    runP 6 (S__law_squeezed pr pg) [nD t, nD n, nD i] = some (.v (nD (squ n i t))) := by
  show (S__law_squeezed pr pg [some (.d (nD t)), some (.d (nD n)), some (.d (nD i)), none, none, none] []).bind finP = _
  unfold S__law_squeezed
  have h5 := lim5 (n := n - 1) (by omega)
  have h6 := Nat.two_pow_pos (n - 1)
  have h8 : 2 ^ (n - 1) ≤ 8 := pow_le (m := 3) (by omega)
  have en := fun ρ S => eNeg_ (f := eC (.int 1)) (ρ := ρ) (S := S) (S1 := S) (i := 1) rfl
  have e3 : oR3 [.d (.int (((2 ^ (n - 1) : Nat) : Int) - 1)), .d (.int (-1)), .d (.int (-1))] [] = some ⟨((List.range (2 ^ (n - 1))).reverse).map nD, none⟩ := by
    unfold oR3
    simp only
    rw [if_pos]
    · rw [← rngD_n]
      congr 3
      omega
    · have a1 : small62 (((2 ^ (n - 1) : Nat) : Int) - 1) = true := by
        unfold small62
        rw [decide_eq_true (by omega), decide_eq_true (by omega)]
        rfl
      rw [a1]
      rfl
  have s1 : ∀ S, vSub (.d (.int (n : Int))) (.d (.int 1)) S = some (.d (.int ((n - 1 : Nat) : Int))) := fun S => sub_1 h1
  have w1 : pr [.int ((n - 1 : Nat) : Int)] = _ := hw (n - 1) (by omega)
  have w2 : pr [.int (i : Int)] = _ := hw i (by omega)
  dsimp? only [s1, w1, en, e3, sFor_, Option.bind_assoc]
  refine wp_eq (wp_for (ds := (List.range (2 ^ (n - 1))).reverse) (e := nD) (a := 0) (fun a ρ S => S = [] ∧ ∃ x4 x5, ρ = [some (.d (nD t)), some (.d (nD n)), some (.d (nD i)), some (.d (nD a)), x4, x5]) (fun a p => a * 2 + (t.testBit (insB i p)).toNat) ⟨rfl, _, _, rfl⟩ (fun p hp a ρ S ⟨e1, x4, x5, e2⟩ => ?_) fun ρ' S' ⟨e1, x4, x5, e2⟩ => ?_)
  · subst e1 e2
    have hp := List.mem_range.mp (List.mem_reverse.mp hp)
    have pm : ∀ i : Int, pMul i 2 = true := fun i => pMul_r (by decide) (by decide)
    have hm : (p : Int) % ((2 ^ i : Nat) : Int) = ((p % 2 ^ i : Nat) : Int) := by omega
    have i0 : (0 : Int) < ((2 ^ i : Nat) : Int) := by have := Nat.two_pow_pos i; omega
    have hle := Nat.mod_le p (2 ^ i)
    have hib : insB i p ≤ 29 := by unfold insB; omega
    have hii : ((p : Int) - ((p % 2 ^ i : Nat) : Int)) * 2 + ((p % 2 ^ i : Nat) : Int) = ((insB i p : Nat) : Int) := by unfold insB; omega
    have g1 : pg [.int (t : Int), .int ((insB i p : Nat) : Int)] = _ := hg _ hib
    dsimp? only [w2, vMod_i i0, hm, vMul_i (pm _), hii, g1]
    exact wp_some ⟨.inl rfl, rfl, _, _, rfl⟩
  · subst e1 e2
    rw [foldl_rev, Nat.zero_mul, Nat.zero_add]
    simp? only []
    exact wp_some rfl
end
end Ev

/-! Thresholds: plain facts. -/
namespace Thr
open Tab Ev
/-! ### one bit of a place -/
theorem pow2_and {i j : Nat} : j &&& 2 ^ i = if j.testBit i = true then 2 ^ i else 0 := by
  apply Nat.eq_of_testBit_eq
  intro k
  rw [Nat.testBit_and, Nat.testBit_two_pow]
  by_cases h : i = k
  · subst h
    cases j.testBit i <;> simp
  · rw [decide_eq_false h, Bool.and_false]
    split
    · rw [Nat.testBit_two_pow, decide_eq_false h]
    · simp
theorem sb_x {i b j : Nat} : sb i b j = if decide (b = 1) = j.testBit i then j else j ^^^ 2 ^ i := by
  unfold sb
  have h := xor_add_and j (2 ^ i)
  rw [pow2_and] at h
  have hle : j.testBit i = true → 2 ^ i ≤ j := fun q => Nat.ge_two_pow_of_testBit q
  by_cases hb : b = 1
  · rw [if_pos hb, decide_eq_true hb]
    cases q : j.testBit i with
    | true => rw [if_pos rfl, if_pos rfl]
    | false =>
      rw [if_neg Bool.false_ne_true, if_neg (by decide)]
      rw [q, if_neg Bool.false_ne_true] at h
      omega
  · rw [if_neg hb, decide_eq_false hb]
    cases q : j.testBit i with
    | false => rw [if_neg Bool.false_ne_true, if_pos rfl]
    | true =>
      rw [if_pos rfl, if_neg (by decide)]
      have := hle q
      rw [q, if_pos rfl] at h
      omega
theorem sb_b {i b j k : Nat} : (sb i b j).testBit k = if k = i then decide (b = 1) else j.testBit k := by
  rw [sb_x]
  by_cases e : decide (b = 1) = j.testBit i
  · rw [if_pos e]
    by_cases h : k = i
    · subst h; rw [if_pos rfl, e]
    · rw [if_neg h]
  · rw [if_neg e, Nat.testBit_xor, Nat.testBit_two_pow]
    by_cases h : k = i
    · subst h
      rw [if_pos rfl]
      generalize decide (b = 1) = x at e ⊢
      rw [decide_eq_true rfl]
      revert e
      cases x <;> cases j.testBit k <;> decide
    · rw [if_neg h, decide_eq_false (fun z => h z.symm)]
      simp
theorem sb_l {n i b j : Nat} (hi : i < n) (hj : j < 2 ^ n) : sb i b j < 2 ^ n := by
  rw [sb_x]
  split
  · exact hj
  · exact Nat.xor_lt_two_pow hj (Nat.pow_lt_pow_right (by decide) hi)
/-! ### sums of weights -/
theorem wtF_app : ∀ (A B : List Int) (k p : Nat), wtF (A ++ B) k p = wtF A k p + wtF B (k + A.length) p
  | [], B, k, p => by rw [List.nil_append, wtF, Int.zero_add, List.length_nil, Nat.add_zero]
  | w :: A, B, k, p => by
    rw [List.cons_append, wtF, wtF, wtF_app A B (k + 1) p, List.length_cons, show k + 1 + A.length = k + (A.length + 1) by omega, Int.add_assoc]
theorem wtF_congr : ∀ (A : List Int) (k k' p q : Nat), (∀ j, j < A.length → p.testBit (k + j) = q.testBit (k' + j)) → wtF A k p = wtF A k' q
  | [], _, _, _, _, _ => rfl
  | w :: A, k, k', p, q, h => by
    have h0 := h 0 (by simp)
    rw [Nat.add_zero, Nat.add_zero] at h0
    unfold wtF
    rw [h0, wtF_congr A (k + 1) (k' + 1) p q fun j hj => by
      have := h (j + 1) (by simp; omega)
      rwa [show k + (j + 1) = k + 1 + j by omega, show k' + (j + 1) = k' + 1 + j by omega] at this]
theorem wtF_neg : ∀ (A : List Int) (k p : Nat), wtF (A.map fun w => 0 - w) k p = - wtF A k p
  | [], _, _ => rfl
  | w :: A, k, p => by
    rw [List.map_cons]
    unfold wtF
    rw [wtF_neg A (k + 1) p]
    split <;> omega
theorem wtF_mul (m : Int) : ∀ (A : List Int) (k p : Nat), wtF (A.map fun w => m * w) k p = m * wtF A k p
  | [], _, _ => by unfold wtF; rw [List.map_nil, Int.mul_zero]
  | w :: A, k, p => by
    rw [List.map_cons]
    unfold wtF
    rw [wtF_mul m A (k + 1) p, Int.mul_add]
    split
    · rfl
    · rw [Int.mul_zero]
theorem wtF_flip {p q : Nat} : ∀ (A : List Int) (k : Nat), (∀ j, j < A.length → q.testBit (k + j) = !p.testBit (k + j)) → wtF A k q = A.sum - wtF A k p
  | [], _, _ => rfl
  | w :: A, k, h => by
    have h0 := h 0 (by simp)
    rw [Nat.add_zero] at h0
    have ih := wtF_flip A (k + 1) fun j hj => by
      have := h (j + 1) (by simp; omega)
      rwa [show k + (j + 1) = k + 1 + j by omega] at this
    unfold wtF
    rw [h0, ih, List.sum_cons]
    cases p.testBit k <;> simp <;> omega
theorem split_at {ws : List Int} {i : Nat} (hi : i < ws.length) : ws = ws.take i ++ ws.getD i 0 :: ws.drop (i + 1) := by
  rw [List.getD_eq_getElem?_getD, List.getElem?_eq_getElem hi, Option.getD_some, List.getElem_cons_drop, List.take_append_drop]
theorem wt_split {ws : List Int} {i : Nat} (hi : i < ws.length) (p : Nat) : wt ws p = wtF (ws.take i) 0 p + ((if p.testBit i = true then ws.getD i 0 else 0) + wtF (ws.drop (i + 1)) (i + 1) p) := by
  have hl : (ws.take i).length = i := by rw [List.length_take]; omega
  unfold wt
  conv => lhs; rw [split_at hi, wtF_app, hl, Nat.zero_add]
  rw [wtF]
/-- one bit put in -/
theorem wt_sb {ws : List Int} {i b : Nat} (hi : i < ws.length) (p q : Nat) (h : ∀ j, j ≠ i → p.testBit j = q.testBit j) (hp : p.testBit i = true) (hq : q.testBit i = false) : wt ws p = wt ws q + ws.getD i 0 := by
  rw [wt_split hi, wt_split hi, hp, hq, if_pos rfl, if_neg Bool.false_ne_true]
  rw [wtF_congr (ws.take i) 0 0 p q fun j hj => by rw [List.length_take] at hj; exact h _ (by omega), wtF_congr (ws.drop (i + 1)) (i + 1) (i + 1) p q fun j hj => h _ (by omega)]
  omega
/-! ### what keeps being a threshold -/
section
variable {n t s : Nat} {ws : List Int} {b : Int}
theorem makes_neg (h : Makes n t ws b) (hs : ∀ p, p < 2 ^ n → s.testBit p = !t.testBit p) : Makes n s (ws.map fun w => 0 - w) (1 - b) := fun p hp => by
  rw [hs p hp, h p hp]
  unfold wt
  rw [wtF_neg]
  by_cases z : b ≤ wtF ws 0 p
  · rw [decide_eq_true z, decide_eq_false (by omega)]; rfl
  · rw [decide_eq_false z, decide_eq_true (by omega)]; rfl
theorem makes_mul {m : Int} (hm : 0 < m) (h : Makes n t ws b) : Makes n t (ws.map fun w => m * w) (m * b) := fun p hp => by
  rw [h p hp]
  unfold wt
  rw [wtF_mul]
  exact decide_eq_decide.mpr ⟨fun z => Int.mul_le_mul_of_nonneg_left z (by omega), fun z => Int.le_of_mul_le_mul_left z hm⟩
theorem makes_dual (h : Makes n t ws b) (hl : ws.length = n) (hs : ∀ p, p < 2 ^ n → s.testBit p = !t.testBit (p ^^^ (2 ^ n - 1))) : Makes n s ws (ws.sum - b + 1) := fun p hp => by
  have n0 := Nat.two_pow_pos n
  have hx : p ^^^ (2 ^ n - 1) < 2 ^ n := Nat.xor_lt_two_pow hp (by omega)
  rw [hs p hp, h _ hx]
  have e : wt ws (p ^^^ (2 ^ n - 1)) = ws.sum - wt ws p := wtF_flip ws 0 fun j hj => by
    rw [Nat.zero_add, Nat.testBit_xor, Nat.testBit_two_pow_sub_one, decide_eq_true (by omega)]
    cases p.testBit j <;> rfl
  rw [e]
  by_cases z : b ≤ ws.sum - wt ws p
  · rw [decide_eq_true z, decide_eq_false (by omega)]; rfl
  · rw [decide_eq_false z, decide_eq_true (by omega)]; rfl
theorem bal_neg (hn : n ≤ 4) (ht : t < 2 ^ 2 ^ n) (hsl : s < 2 ^ 2 ^ n) (hs : ∀ p, p < 2 ^ n → s.testBit p = !t.testBit p) : Bal n s ↔ Bal n t := by
  have key : ∀ {t s : Nat}, t < 2 ^ 2 ^ n → (∀ p, p < 2 ^ n → s.testBit p = !t.testBit p) → Bal n s → Bal n t := fun {t s} ht hs hb => Classical.byContradiction fun nb => by
    obtain ⟨ws, b, _, _, h⟩ := weights hn ht nb
    exact no_bal (makes_neg h hs) hb
  exact ⟨key ht hs, key hsl fun p hp => by rw [hs p hp, Bool.not_not]⟩
theorem bal_dual (hn : n ≤ 4) (ht : t < 2 ^ 2 ^ n) (hsl : s < 2 ^ 2 ^ n) (hs : ∀ p, p < 2 ^ n → s.testBit p = !t.testBit (p ^^^ (2 ^ n - 1))) : Bal n s ↔ Bal n t := by
  have n0 := Nat.two_pow_pos n
  have key : ∀ {t s : Nat}, t < 2 ^ 2 ^ n → (∀ p, p < 2 ^ n → s.testBit p = !t.testBit (p ^^^ (2 ^ n - 1))) → Bal n s → Bal n t := fun {t s} ht hs hb => Classical.byContradiction fun nb => by
    obtain ⟨ws, b, hl, _, h⟩ := weights hn ht nb
    exact no_bal (makes_dual h hl hs) hb
  refine ⟨key ht hs, key hsl fun p hp => ?_⟩
  have hx : p ^^^ (2 ^ n - 1) < 2 ^ n := Nat.xor_lt_two_pow hp (by omega)
  rw [hs _ hx, Nat.xor_assoc, Nat.xor_self, Nat.xor_zero, Bool.not_not]
/-! ### one input less -/
theorem ins_bit : ∀ q < 8, ∀ i < 4, ∀ j < 4, (insB i q).testBit j = if j < i then q.testBit j else if j = i then false else q.testBit (j - 1) := by decide +kernel
theorem ins_lt (a : 1 ≤ n) (hn : n ≤ 4) : ∀ i < n, ∀ q < 2 ^ (n - 1), insB i q < 2 ^ n := n4 (P := fun n => ∀ i < n, ∀ q < 2 ^ (n - 1), insB i q < 2 ^ n) (by decide +kernel) (by decide +kernel) (by decide +kernel) (by decide +kernel) a hn
theorem makes_part {i bit : Nat} (a : 1 ≤ n) (hn : n ≤ 4) (hi : i < n) (hb : bit ≤ 1) (h : Makes n t ws b) (hl : ws.length = n) : Makes (n - 1) (squ n i (fx n i bit t)) (ws.take i ++ ws.drop (i + 1)) (b - (bit : Int) * ws.getD i 0) := fun q hq => by
  have q8 : q < 8 := Nat.lt_of_lt_of_le hq (pow_le (m := 3) (by omega))
  have hin := ins_lt a hn i hi q hq
  have hsb := sb_l (b := bit) hi hin
  unfold squ
  rw [tb_bit, decide_eq_true hq, Bool.true_and, fx_bit hi, decide_eq_true hin, Bool.true_and, h _ hsb]
  have hlt : (ws.take i).length = i := by rw [List.length_take]; omega
  have hld : (ws.drop (i + 1)).length = n - (i + 1) := by rw [List.length_drop]; omega
  have e1 : wtF (ws.take i) 0 (sb i bit (insB i q)) = wtF (ws.take i) 0 q := wtF_congr _ _ _ _ _ fun j hj => by
    rw [hlt] at hj
    rw [Nat.zero_add, sb_b, if_neg (by omega), ins_bit q q8 i (by omega) j (by omega), if_pos hj]
  have e2 : wtF (ws.drop (i + 1)) (i + 1) (sb i bit (insB i q)) = wtF (ws.drop (i + 1)) i q := wtF_congr _ _ _ _ _ fun j hj => by
    rw [hld] at hj
    rw [sb_b, if_neg (by omega), ins_bit q q8 i (by omega) (i + 1 + j) (by omega), if_neg (by omega), if_neg (by omega), show i + 1 + j - 1 = i + j by omega]
  have e3 : wt (ws.take i ++ ws.drop (i + 1)) q = wtF (ws.take i) 0 q + wtF (ws.drop (i + 1)) i q := by
    unfold wt
    rw [wtF_app, hlt, Nat.zero_add]
  rw [wt_split (ws := ws) (i := i) (by omega), e1, e2, e3, sb_b, if_pos rfl]
  have hb2 : bit = 0 ∨ bit = 1 := by omega
  rcases hb2 with rfl | rfl
  · rw [decide_eq_false (by decide : ¬ (0 = 1)), if_neg Bool.false_ne_true]
    exact decide_eq_decide.mpr (by simp)
  · rw [decide_eq_true (by decide : 1 = 1), if_pos rfl]
    exact decide_eq_decide.mpr (by simp; omega)
/-! ### rising, falling -/
theorem ris_ok {i : Nat} (hi : i < n) (h : Makes n t ws b) (hl : ws.length = n) (hw : 0 ≤ ws.getD i 0) : risB n i t = true := decide_eq_true (Nat.eq_of_testBit_eq fun p => by
  rw [Nat.testBit_and, Nat.testBit_xor, full_bit, fx_bit hi, fx_bit hi, Nat.zero_testBit]
  by_cases hp : p < 2 ^ n
  · rw [decide_eq_true hp, Bool.true_and, Bool.true_and, h _ (sb_l hi hp), h _ (sb_l hi hp)]
    have e := wt_sb (b := 0) (i := i) (ws := ws) (by omega) (sb i 1 p) (sb i 0 p) (fun j hj => by rw [sb_b, sb_b, if_neg hj, if_neg hj]) (by rw [sb_b, if_pos rfl]; rfl) (by rw [sb_b, if_pos rfl]; rfl)
    by_cases z : b ≤ wt ws (sb i 0 p)
    · rw [decide_eq_true z, decide_eq_true (by omega)]; rfl
    · rw [decide_eq_false z]; rfl
  · rw [decide_eq_false hp]; rfl)
theorem fal_ok {i : Nat} (hi : i < n) (h : Makes n t ws b) (hl : ws.length = n) (hw : ws.getD i 0 ≤ 0) : falB n i t = true := decide_eq_true (Nat.eq_of_testBit_eq fun p => by
  rw [Nat.testBit_and, Nat.testBit_xor, full_bit, fx_bit hi, fx_bit hi, Nat.zero_testBit]
  by_cases hp : p < 2 ^ n
  · rw [decide_eq_true hp, Bool.true_and, Bool.true_and, h _ (sb_l hi hp), h _ (sb_l hi hp)]
    have e := wt_sb (b := 0) (i := i) (ws := ws) (by omega) (sb i 1 p) (sb i 0 p) (fun j hj => by rw [sb_b, sb_b, if_neg hj, if_neg hj]) (by rw [sb_b, if_pos rfl]; rfl) (by rw [sb_b, if_pos rfl]; rfl)
    by_cases z : b ≤ wt ws (sb i 1 p)
    · rw [decide_eq_true z, decide_eq_true (by omega)]; rfl
    · rw [decide_eq_false z]; rfl
  · rw [decide_eq_false hp]; rfl)
theorem sup_ok {i : Nat} (hi : i < n) (h : Makes n t ws b) (hl : ws.length = n) (hw : ws.getD i 0 = 0) : i ∉ sup n t := fun z => by
  unfold sup at z
  rw [List.mem_filter] at z
  refine of_decide_eq_true z.2 (Nat.eq_of_testBit_eq fun p => ?_)
  rw [fx_bit hi, fx_bit hi]
  by_cases hp : p < 2 ^ n
  · rw [decide_eq_true hp, Bool.true_and, Bool.true_and, h _ (sb_l hi hp), h _ (sb_l hi hp)]
    have e := wt_sb (b := 0) (i := i) (ws := ws) (by omega) (sb i 1 p) (sb i 0 p) (fun j hj => by rw [sb_b, sb_b, if_neg hj, if_neg hj]) (by rw [sb_b, if_pos rfl]; rfl) (by rw [sb_b, if_pos rfl]; rfl)
    rw [e, hw, Int.add_zero]
  · rw [decide_eq_false hp]; rfl
end
end Thr

/-! Thresholds: plain facts about balances and changes. -/
namespace Thr
open Tab Ev
def sideLc (a b k : Nat) : List (Nat × Nat) := if a = b then [(a, 2 * k)] else [(a, k), (b, k)]
theorem sideLc_1 {a b : Nat} : sideL a b = sideLc a b 1 := by
  unfold sideL sideLc
  split <;> rfl
theorem sideLc_2 {a b : Nat} : (sideL a b).map (fun q => (q.1, 2 * q.2)) = sideLc a b 2 := by
  unfold sideL sideLc
  split <;> rfl
theorem sideLc_len {a b k : Nat} : (sideLc a b k).length ≤ 2 := by
  unfold sideLc
  split <;> simp
theorem tot_Lc {a b k : Nat} : totL (sideLc a b k) = 2 * k := by
  unfold sideLc totL
  split <;> simp <;> omega
theorem ofI_Lc {a b k i : Nat} : ofI (sideLc a b k) i = k * ((a.testBit i).toNat + (b.testBit i).toNat) := by
  unfold sideLc ofI
  split
  · rename_i h
    subst h
    cases ha : a.testBit i <;> simp [ha] <;> omega
  · cases ha : a.testBit i <;> cases hb : b.testBit i <;> simp [ha, hb] <;> omega
theorem side_Lc {n t a b k : Nat} {v : Bool} (hk : 1 ≤ k) (hab : a ≤ b) (hb : b < 2 ^ n) (ta : t.testBit a = v) (tb : t.testBit b = v) : sideB n t (sideLc a b k) v = true := by
  unfold sideB sideLc ascL
  split
  · rename_i h
    subst h
    simp [ta, hb]
    omega
  · have h1 : a < b := by omega
    have h2 : a < 2 ^ n := by omega
    simp [ta, tb, hb, h1, h2]
    omega
theorem tk_true {n t a b c d k : Nat} (hk : 1 ≤ k) (hab : a ≤ b) (hb : b < 2 ^ n) (hcd : c ≤ d) (hd : d < 2 ^ n) (ta : t.testBit a = true) (tb : t.testBit b = true) (tc : t.testBit c = false) (td : t.testBit d = false)
    (hs : ∀ i, (a.testBit i).toNat + (b.testBit i).toNat = (c.testBit i).toNat + (d.testBit i).toNat) : tkB n t (sideLc a b k) (sideLc c d k) = true := by
  unfold tkB
  rw [side_Lc hk hab hb ta tb, side_Lc hk hcd hd tc td, tot_Lc, tot_Lc, decide_eq_true (by omega), decide_eq_true rfl]
  refine List.all_eq_true.mpr fun i _ => decide_eq_true ?_
  rw [ofI_Lc, ofI_Lc, hs]
theorem tk_false {n t a b c d k m : Nat} (h : k ≠ m) : tkB n t (sideLc a b k) (sideLc c d m) = false := by
  unfold tkB
  rw [tot_Lc, tot_Lc, decide_eq_false (show ¬ 2 * k = 2 * m by omega), Bool.and_false, Bool.false_and]
theorem sums {a b c d : Nat} (h1 : a &&& b = c &&& d) (h2 : a ^^^ b = c ^^^ d) (i : Nat) : (a.testBit i).toNat + (b.testBit i).toNat = (c.testBit i).toNat + (d.testBit i).toNat := by
  have e1 : (a.testBit i && b.testBit i) = (c.testBit i && d.testBit i) := by rw [← Nat.testBit_and, ← Nat.testBit_and, h1]
  have e2 : (a.testBit i ^^ b.testBit i) = (c.testBit i ^^ d.testBit i) := by rw [← Nat.testBit_xor, ← Nat.testBit_xor, h2]
  revert e1 e2
  cases a.testBit i <;> cases b.testBit i <;> cases c.testBit i <;> cases d.testBit i <;> decide
/-! ### what a balance of a table says of others -/
section
variable {n t s a b c d : Nat}
theorem bal_self (h : BalAt n t a b c d) {k : Nat} (hk : 1 ≤ k) : tkB n t (sideLc a b k) (sideLc c d k) = true := tk_true hk h.ab h.bn h.cd h.dn h.ta h.tb h.tc h.td (sums h.e1 h.e2)
theorem bal_turned (h : BalAt n t a b c d) (hs : ∀ p, p < 2 ^ n → s.testBit p = !t.testBit p) : tkB n s (sideLc c d 1) (sideLc a b 1) = true := by
  have h1 := h.ab; have h2 := h.bn; have h3 := h.cd; have h4 := h.dn
  exact tk_true (Nat.le_refl _) h.cd h.dn h.ab h.bn (by rw [hs _ (by omega), h.tc]; rfl) (by rw [hs _ h4, h.td]; rfl) (by rw [hs _ (by omega), h.ta]; rfl) (by rw [hs _ h2, h.tb]; rfl) fun i => (sums h.e1 h.e2 i).symm
theorem bal_moved {w : Nat} (hw : w < 2 ^ n) (h : BalAt n t a b c d) (hs : ∀ p, p < 2 ^ n → s.testBit p = t.testBit (p ^^^ w)) :
    tkB n s (sideLc (min (a ^^^ w) (b ^^^ w)) (max (a ^^^ w) (b ^^^ w)) 1) (sideLc (min (c ^^^ w) (d ^^^ w)) (max (c ^^^ w) (d ^^^ w)) 1) = true := by
  have h1 := h.ab; have h2 := h.bn; have h3 := h.cd; have h4 := h.dn
  have la : a ^^^ w < 2 ^ n := Nat.xor_lt_two_pow (by omega) hw
  have lb : b ^^^ w < 2 ^ n := Nat.xor_lt_two_pow (by omega) hw
  have lc : c ^^^ w < 2 ^ n := Nat.xor_lt_two_pow (by omega) hw
  have ld : d ^^^ w < 2 ^ n := Nat.xor_lt_two_pow (by omega) hw
  have back : ∀ p, p ^^^ w ^^^ w = p := fun p => by rw [Nat.xor_assoc, Nat.xor_self, Nat.xor_zero]
  have ta : s.testBit (a ^^^ w) = true := by rw [hs _ la, back, h.ta]
  have tb : s.testBit (b ^^^ w) = true := by rw [hs _ lb, back, h.tb]
  have tc : s.testBit (c ^^^ w) = false := by rw [hs _ lc, back, h.tc]
  have td : s.testBit (d ^^^ w) = false := by rw [hs _ ld, back, h.td]
  have mm : ∀ x y : Nat, (min x y = x ∧ max x y = y) ∨ (min x y = y ∧ max x y = x) := fun x y => by omega
  have su : ∀ i, ((a ^^^ w).testBit i).toNat + ((b ^^^ w).testBit i).toNat = ((c ^^^ w).testBit i).toNat + ((d ^^^ w).testBit i).toNat := fun i => by
    have := sums h.e1 h.e2 i
    rw [Nat.testBit_xor, Nat.testBit_xor, Nat.testBit_xor, Nat.testBit_xor]
    revert this
    cases a.testBit i <;> cases b.testBit i <;> cases c.testBit i <;> cases d.testBit i <;> cases w.testBit i <;> decide
  rcases mm (a ^^^ w) (b ^^^ w) with ⟨m1, m2⟩ | ⟨m1, m2⟩ <;> rcases mm (c ^^^ w) (d ^^^ w) with ⟨m3, m4⟩ | ⟨m3, m4⟩ <;> rw [m1, m2, m3, m4]
  · exact tk_true (Nat.le_refl _) (by omega) lb (by omega) ld ta tb tc td su
  · exact tk_true (Nat.le_refl _) (by omega) lb (by omega) lc ta tb td tc fun i => by have := su i; omega
  · exact tk_true (Nat.le_refl _) (by omega) la (by omega) ld tb ta tc td fun i => by have := su i; omega
  · exact tk_true (Nat.le_refl _) (by omega) la (by omega) lc tb ta td tc fun i => by have := su i; omega
end
/-! ### sides sorted -/
theorem py_q (q : Nat × Nat) : (qD q).py = .tuple [.int (q.1 : Int), .int (q.2 : Int)] := by simp only [D.py, D.pys]
theorem le_q (p q : Nat × Nat) : PySem.W.dataLe false D.py (qD p) (qD q) = decide (((p.1 : Nat) : Int) < (q.1 : Int) ∨ (((p.1 : Nat) : Int) = (q.1 : Int) ∧ ((p.2 : Nat) : Int) ≤ (q.2 : Int))) := by
  have e := congrFun (congrFun (PySem.W.dataLe_ii (β := Nat × Nat) (fun p => (p.1 : Int)) (fun p => (p.2 : Int))) p) q
  rw [← e]
  unfold PySem.W.dataLe PySem.W.sortLe
  simp only [py_q]
theorem sort_two {α : Type} (le : α → α → Bool) (x y : α) : [x, y].mergeSort le = if le x y = true then [x, y] else [y, x] := by
  simp [List.mergeSort, List.MergeSort.Internal.splitInTwo, List.merge]
theorem sort_side {a b w : Nat} : sortD (((sideL a b).map fun q => (q.1 ^^^ w, q.2)).map qD) = (sideLc (min (a ^^^ w) (b ^^^ w)) (max (a ^^^ w) (b ^^^ w)) 1).map qD := by
  unfold sideL
  split
  · rename_i h
    subst h
    unfold sortD sideLc
    rw [Nat.min_self, Nat.max_self, if_pos rfl]
    simp [List.mergeSort]
  · rename_i h
    have hx : a ^^^ w ≠ b ^^^ w := fun z => h (by
      have := congrArg (· ^^^ w) z
      simp only [Nat.xor_assoc, Nat.xor_self, Nat.xor_zero] at this
      exact this)
    show sortD [qD (a ^^^ w, 1), qD (b ^^^ w, 1)] = _
    generalize a ^^^ w = x at *
    generalize b ^^^ w = y at *
    unfold sortD sideLc
    rw [if_neg (by omega)]
    rw [sort_two, le_q]
    by_cases hl : x < y
    · rw [decide_eq_true (.inl (by omega)), if_pos rfl, Nat.min_eq_left (by omega), Nat.max_eq_right (by omega)]
      rfl
    · rw [decide_eq_false (by omega), if_neg Bool.false_ne_true, Nat.min_eq_right (by omega), Nat.max_eq_left (by omega)]
      rfl
theorem keys_side (L : List (Nat × Nat)) : keysOk (L.map qD) = true := by
  unfold keysOk
  refine List.all_eq_true.mpr fun d hd => ?_
  obtain ⟨p, _, rfl⟩ := List.mem_map.mp hd
  rw [Bool.and_eq_true, Bool.and_eq_true]
  refine ⟨⟨rfl, decide_eq_true ?_⟩, List.all_eq_true.mpr fun e he => ?_⟩
  · rw [py_q]
    simp [PySem.PyData.depth, PySem.PyData.depthAll]
  · obtain ⟨q, _, rfl⟩ := List.mem_map.mp he
    rw [py_q, py_q]
    simp [PySem.W.alike, PySem.W.alikeAll]
/-! ### changes -/
theorem src_x {n : Nat} (a : 1 ≤ n) (b : n ≤ 4) : ∀ w < 2 ^ n, ∀ p < 2 ^ n, src (List.range n) w n p = p ^^^ w :=
  n4 (P := fun n => ∀ w < 2 ^ n, ∀ p < 2 ^ n, src (List.range n) w n p = p ^^^ w) (by decide +kernel) (by decide +kernel) (by decide +kernel) (by decide +kernel) a b
theorem chg_x {n w fl t p : Nat} (a : 1 ≤ n) (b : n ≤ 4) (hw : w < 2 ^ n) (hp : p < 2 ^ n) : (chg (List.range n) w fl n t).testBit p = (t.testBit (p ^^^ w) != decide (fl = 1)) := by
  unfold chg
  rw [tb_bit, decide_eq_true hp, Bool.true_and, src_x a b w hw p hp]
theorem compl_x {n t p : Nat} (hp : p < 2 ^ n) : (full n ^^^ t).testBit p = !t.testBit p := by
  rw [Nat.testBit_xor, full_bit, decide_eq_true hp]
  cases t.testBit p <;> rfl
theorem full_sub {n t : Nat} (ht : t < 2 ^ 2 ^ n) : full n - t = full n ^^^ t := by
  have h := xor_add_and (full n) t
  have e : full n &&& t = t := Nat.eq_of_testBit_eq fun i => by
    rw [Nat.testBit_and, full_bit]
    by_cases hi : i < 2 ^ n
    · rw [decide_eq_true hi, Bool.true_and]
    · rw [decide_eq_false hi, Nat.testBit_lt_two_pow (Nat.lt_of_lt_of_le ht (Nat.pow_le_pow_right (by decide) (by omega)))]; rfl
  rw [e] at h
  omega
/-- which tables of two inputs are none -/
theorem odd2 : ∀ t < 16, Bal 2 t ↔ t = 6 ∨ t = 9 := by
  have key : ∀ t < 16, ((List.range 4).any fun a => (List.range 4).any fun b => (List.range 4).any fun c => (List.range 4).any fun d => decide (a ≤ b) && decide (c ≤ d) && t.testBit a && t.testBit b && !t.testBit c && !t.testBit d && decide (a &&& b = c &&& d) && decide (a ^^^ b = c ^^^ d)) = decide (t = 6 ∨ t = 9) := by decide +kernel
  intro t ht
  rw [← decide_eq_true_iff (p := t = 6 ∨ t = 9), ← key t ht]
  simp only [List.any_eq_true, List.mem_range, Bool.and_eq_true, decide_eq_true_eq, Bool.not_eq_true']
  constructor
  · rintro ⟨a, b, c, d, h1, h2, h3, h4, ta, tb, tc, td, e1, e2⟩
    exact ⟨a, by omega, b, by omega, c, by omega, d, by omega, ⟨⟨⟨⟨⟨⟨⟨h1, h3⟩, ta⟩, tb⟩, tc⟩, td⟩, e1⟩, e2⟩⟩
  · rintro ⟨a, _, b, hb, c, _, d, hd, ⟨⟨⟨⟨⟨⟨⟨h1, h3⟩, ta⟩, tb⟩, tc⟩, td⟩, e1⟩, e2⟩⟩
    exact ⟨a, b, c, d, h1, by omega, h3, by omega, ta, tb, tc, td, e1, e2⟩
end Thr

/-! Drawn numbers and tables, whatever else the store holds. -/
namespace Ev
open PySem PySem.Spec PyProof.Rows L2 Tab
/-- take, whatever else the store holds -/
def TakeY (FS : List RV → Sto → Option (RV × Sto)) : Prop := ∀ (is : List Int) (lim : Nat) (Z : Sto), 0 < lim → ∃ v js, v < lim ∧ FS [.o 0, .d (nD lim)] (.lst (dInts is) :: Z) = some (.d (nD v), .lst (dInts js) :: Z)
theorem takeY_s : TakeY (runS 2 takeF) := fun is lim Z h => by
  obtain ⟨v, js, h1, h2, h3⟩ := take_ok (S := .lst (dInts is) :: Z) (n := 0) (is := is) (lim := lim) rfl (by omega)
  refine ⟨v.toNat, js, by omega, ?_⟩
  rw [show nD v.toNat = .int v by show D.int _ = _; congr 1; omega]
  exact h1
abbrev SoY (is : List Int) (Z : Sto) : Sto := Ob.lst (dInts is) :: Z
theorem ltableY_s {pr : List D → Option PR} {FS : List RV → Sto → Option (RV × Sto)} (ht : TakeY FS) {n : Nat} (hn : n ≤ 5) (hw : pr [nD n] = some (.v (nD (2 ^ n)))) (is : List Int) (Z : Sto) :
    ∃ t js, t < 2 ^ 2 ^ n ∧ runS 6 (S__law_table FS pr) [.o 0, .d (nD n)] (SoY is Z) = some (.d (nD t), SoY js Z) := by
  have h5 := lim5 hn
  obtain ⟨kd, j1, h1, e1⟩ := ht is 5 Z (by decide)
  have e1' : FS [.o 0, .d (.int 5)] (SoY is Z) = some (.d (.int (kd : Int)), SoY j1 Z) := e1
  have main : Wp ((S__law_table FS pr [some (.o 0), some (.d (nD n)), none, none, none, none] (SoY is Z)).bind finS) fun z => ∃ t js, t < 2 ^ 2 ^ n ∧ z = (.d (nD t), SoY js Z) := by
    unfold S__law_table
    dsimp? only [callSK_ (n := 2) (rs := [.o 0, .d (.int 5)]) rfl, e1', sFor_, hw, oR1_n (show 2 ^ n < 2 ^ 62 by omega), Option.bind_assoc]
    refine wp_forL (ds := List.range (2 ^ n)) (e := nD) (fun done ρ S => ∃ t js x4 x5, t < 2 ^ done.length ∧ S = SoY js Z ∧ ρ = [some (.o 0), some (.d (nD n)), some (.d (nD t)), some (.d (nD kd)), x4, x5]) ⟨0, j1, _, _, by decide, rfl, rfl⟩ (fun done p rest hd ρ S ⟨t, js, x4, x5, ht2, e2, e3⟩ => ?_) fun ρ' S' ⟨t, js, x4, x5, ht2, e2, e3⟩ => ?_
    · subst e2 e3
      have pm : ∀ i : Int, pMul i 2 = true := fun i => pMul_r (by decide) (by decide)
      have bound : ∀ b : Nat, b < 2 → t * 2 + b < 2 ^ (done ++ [p]).length := fun b hb => by
        rw [List.length_append, List.length_singleton, Nat.pow_succ]; omega
      by_cases hk : kd < 3
      · have hk1 : decide ((kd : Int) < 3) = true := decide_eq_true (by omega)
        obtain ⟨v, j2, h2, e4⟩ := ht js 2 Z (by decide)
        have e4' : FS [.o 0, .d (.int 2)] (SoY js Z) = some (.d (.int (v : Int)), SoY j2 Z) := e4
        dsimp? only [hk1, callSK_ (n := 2) (rs := [.o 0, .d (.int 2)]) rfl, e4', vMul_i (pm _)]
        exact wp_some ⟨.inl rfl, t * 2 + v, j2, _, _, bound v h2, rfl, rfl⟩
      · have hk1 : decide ((kd : Int) < 3) = false := decide_eq_false (by omega)
        obtain ⟨v, j2, h2, e4⟩ := ht js 5 Z (by decide)
        have e4' : FS [.o 0, .d (.int 5)] (SoY js Z) = some (.d (.int (v : Int)), SoY j2 Z) := e4
        by_cases hk2 : kd = 3
        · have hk3 : decide ((kd : Int) = 3) = true := decide_eq_true (by omega)
          dsimp? only [hk1, hk3, callSK_ (n := 2) (rs := [.o 0, .d (.int 5)]) rfl, e4', vMul_i (pm _)]
          cases hv : decide ((v : Int) = 0)
          · exact wp_some ⟨.inl rfl, t * 2 + 0, j2, _, _, bound 0 (by decide), rfl, rfl⟩
          · exact wp_some ⟨.inl rfl, t * 2 + 1, j2, _, _, bound 1 (by decide), rfl, rfl⟩
        · have hk3 : decide ((kd : Int) = 3) = false := decide_eq_false (by omega)
          dsimp? only [hk1, hk3, callSK_ (n := 2) (rs := [.o 0, .d (.int 5)]) rfl, e4', vMul_i (pm _)]
          cases hv : decide ((0 : Int) < (v : Int))
          · exact wp_some ⟨.inl rfl, t * 2 + 0, j2, _, _, bound 0 (by decide), rfl, rfl⟩
          · exact wp_some ⟨.inl rfl, t * 2 + 1, j2, _, _, bound 1 (by decide), rfl, rfl⟩
    · subst e2 e3
      rw [List.length_range] at ht2
      dsimp? only []
      exact wp_some ⟨t, js, ht2, rfl⟩
  obtain ⟨z, h2, t, js, h3, rfl⟩ := main
  exact ⟨t, js, h3, h2⟩
end Ev

namespace K56
open PySem PySem.Spec PyProof.Rows L2 Ev
def k_GREATEST : D := .int 3
def k_MOST_INPUTS_classes : D := .int 5
def k_MOST_INPUTS_thresholds : D := .int 4
/-! ### the text -/
def top (i : Nat) : Stmt := PySem.Challenge.pw_gateworks_k56_whole_weights_and_balances.main.body.getD i (.Pass ⟨0, 0, 0, 0⟩)
def sub (s : Stmt) (j : Nat) : Stmt := match s with
  | .ClassDef _ _ _ b _ _ _ _ _ _ _ => b.getD j (.Pass ⟨0, 0, 0, 0⟩)
  | _ => .Pass ⟨0, 0, 0, 0⟩
abbrev st_full : Stmt := (top 4)
abbrev N_full : List Str := ["n"]
theorem sc_full : FnScope N_full ["n"] (defScope st_full) := ⟨rfl, rfl, rfl, by decide +kernel, rfl, by decide +kernel, by decide +kernel⟩
abbrev st_variable : Stmt := (top 5)
abbrev N_variable : List Str := ["n", "i", "block", "width", "table"]
theorem sc_variable : FnScope N_variable ["n", "i"] (defScope st_variable) := ⟨rfl, rfl, rfl, by decide +kernel, rfl, by decide +kernel, by decide +kernel⟩
abbrev st_digit : Stmt := (top 6)
abbrev N_digit : List Str := ["table", "place"]
theorem sc_digit : FnScope N_digit ["table", "place"] (defScope st_digit) := ⟨rfl, rfl, rfl, by decide +kernel, rfl, by decide +kernel, by decide +kernel⟩
abbrev st_fixed : Stmt := (top 7)
abbrev N_fixed : List Str := ["table", "n", "i", "bit", "mask", "shift", "high", "low"]
theorem sc_fixed : FnScope N_fixed ["table", "n", "i", "bit"] (defScope st_fixed) := ⟨rfl, rfl, rfl, by decide +kernel, rfl, by decide +kernel, by decide +kernel⟩
abbrev st_support : Stmt := (top 8)
abbrev N_support : List Str := ["table", "n", "i"]
theorem sc_support : FnScope N_support ["table", "n"] (defScope st_support) := ⟨rfl, rfl, rfl, by decide +kernel, rfl, by decide +kernel, by decide +kernel⟩
abbrev st_rises : Stmt := (top 9)
abbrev N_rises : List Str := ["table", "n", "i"]
theorem sc_rises : FnScope N_rises ["table", "n", "i"] (defScope st_rises) := ⟨rfl, rfl, rfl, by decide +kernel, rfl, by decide +kernel, by decide +kernel⟩
abbrev st_falls : Stmt := (top 10)
abbrev N_falls : List Str := ["table", "n", "i"]
theorem sc_falls : FnScope N_falls ["table", "n", "i"] (defScope st_falls) := ⟨rfl, rfl, rfl, by decide +kernel, rfl, by decide +kernel, by decide +kernel⟩
abbrev st_places : Stmt := (top 11)
abbrev N_places : List Str := ["table", "n", "place"]
theorem sc_places : FnScope N_places ["table", "n"] (defScope st_places) := ⟨rfl, rfl, rfl, by decide +kernel, rfl, by decide +kernel, by decide +kernel⟩
abbrev st_table_from : Stmt := (top 12)
abbrev N_table_from : List Str := ["n", "chosen", "table", "place"]
theorem sc_table_from : FnScope N_table_from ["n", "chosen"] (defScope st_table_from) := ⟨rfl, rfl, rfl, by decide +kernel, rfl, by decide +kernel, by decide +kernel⟩
abbrev st_check_asked_thresholds : Stmt := (top 16)
abbrev N_check_asked_thresholds : List Str := ["table", "n"]
theorem sc_check_asked_thresholds : FnScope N_check_asked_thresholds ["table", "n"] (defScope st_check_asked_thresholds) := ⟨rfl, rfl, rfl, by decide +kernel, rfl, by decide +kernel, by decide +kernel⟩
abbrev st_weight_at : Stmt := (top 18)
abbrev N_weight_at : List Str := ["weights", "place", "i", "weight"]
theorem sc_weight_at : FnScope N_weight_at ["weights", "place"] (defScope st_weight_at) := ⟨rfl, rfl, rfl, by decide +kernel, rfl, by decide +kernel, by decide +kernel⟩
abbrev st_all_weights : Stmt := (top 19)
abbrev N_all_weights : List Str := ["n", "found", "_", "row", "weight"]
theorem sc_all_weights : FnScope N_all_weights ["n"] (defScope st_all_weights) := ⟨rfl, rfl, rfl, by decide +kernel, rfl, by decide +kernel, by decide +kernel⟩
abbrev st_bound_of : Stmt := (top 20)
abbrev N_bound_of : List Str := ["table", "n", "weights", "ups", "downs", "place"]
theorem sc_bound_of : FnScope N_bound_of ["table", "n", "weights"] (defScope st_bound_of) := ⟨rfl, rfl, rfl, by decide +kernel, rfl, by decide +kernel, by decide +kernel⟩
abbrev st_pair_sums : Stmt := (top 21)
abbrev N_pair_sums : List Str := ["chosen", "found", "one", "other"]
theorem sc_pair_sums : FnScope N_pair_sums ["chosen"] (defScope st_pair_sums) := ⟨rfl, rfl, rfl, by decide +kernel, rfl, by decide +kernel, by decide +kernel⟩
abbrev st_side_of : Stmt := (top 22)
abbrev N_side_of : List Str := ["pair", "one", "other"]
theorem sc_side_of : FnScope N_side_of ["pair"] (defScope st_side_of) := ⟨rfl, rfl, rfl, by decide +kernel, rfl, by decide +kernel, by decide +kernel⟩
abbrev st_balance_of : Stmt := (top 23)
abbrev N_balance_of : List Str := ["table", "n", "ups", "downs", "key"]
theorem sc_balance_of : FnScope N_balance_of ["table", "n"] (defScope st_balance_of) := ⟨rfl, rfl, rfl, by decide +kernel, rfl, by decide +kernel, by decide +kernel⟩
abbrev st_threshold : Stmt := (top 24)
abbrev N_threshold : List Str := ["table", "n", "found", "weights", "bound"]
theorem sc_threshold : FnScope N_threshold ["table", "n"] (defScope st_threshold) := ⟨rfl, rfl, rfl, by decide +kernel, rfl, by decide +kernel, by decide +kernel⟩
abbrev st_takes_weights : Stmt := (top 25)
abbrev N_takes_weights : List Str := ["table", "n", "weights", "bound", "place"]
theorem sc_takes_weights : FnScope N_takes_weights ["table", "n", "weights", "bound"] (defScope st_takes_weights) := ⟨rfl, rfl, rfl, by decide +kernel, rfl, by decide +kernel, by decide +kernel⟩
abbrev st_is_side : Stmt := (top 26)
abbrev N_is_side : List Str := ["table", "n", "side", "bit", "first", "second", "place", "count"]
theorem sc_is_side : FnScope N_is_side ["table", "n", "side", "bit"] (defScope st_is_side) := ⟨rfl, rfl, rfl, by decide +kernel, rfl, by decide +kernel, by decide +kernel⟩
abbrev st_takes_balance : Stmt := (top 27)
abbrev N_takes_balance : List Str := ["table", "n", "ups", "downs", "total", "_", "count", "i"]
theorem sc_takes_balance : FnScope N_takes_balance ["table", "n", "ups", "downs"] (defScope st_takes_balance) := ⟨rfl, rfl, rfl, by decide +kernel, rfl, by decide +kernel, by decide +kernel⟩
abbrev st_of_input : Stmt := (top 28)
abbrev N_of_input : List Str := ["side", "i", "place", "count"]
theorem sc_of_input : FnScope N_of_input ["side", "i"] (defScope st_of_input) := ⟨rfl, rfl, rfl, by decide +kernel, rfl, by decide +kernel, by decide +kernel⟩
abbrev st_check_asked_classes : Stmt := (top 31)
abbrev N_check_asked_classes : List Str := ["table", "n"]
theorem sc_check_asked_classes : FnScope N_check_asked_classes ["table", "n"] (defScope st_check_asked_classes) := ⟨rfl, rfl, rfl, by decide +kernel, rfl, by decide +kernel, by decide +kernel⟩
abbrev st_source : Stmt := (top 33)
abbrev N_source : List Str := ["place", "change", "n", "order", "turned", "_", "moved", "i"]
theorem sc_source : FnScope N_source ["place", "change", "n"] (defScope st_source) := ⟨rfl, rfl, rfl, by decide +kernel, rfl, by decide +kernel, by decide +kernel⟩
abbrev st_change_of : Stmt := (top 34)
abbrev N_change_of : List Str := ["table", "n", "change", "chosen", "place"]
theorem sc_change_of : FnScope N_change_of ["table", "n", "change"] (defScope st_change_of) := ⟨rfl, rfl, rfl, by decide +kernel, rfl, by decide +kernel, by decide +kernel⟩
abbrev st_changed : Stmt := (top 35)
abbrev N_changed : List Str := ["table", "n", "change", "order", "turned", "flip"]
theorem sc_changed : FnScope N_changed ["table", "n", "change"] (defScope st_changed) := ⟨rfl, rfl, rfl, by decide +kernel, rfl, by decide +kernel, by decide +kernel⟩
abbrev st__law_draws : Stmt := (top 37)
abbrev N__law_draws : List Str := ["script", "count", "cells", "found", "mixed", "k", "j", "cell", "again"]
theorem sc__law_draws : FnScope N__law_draws ["script", "count"] (defScope st__law_draws) := ⟨rfl, rfl, rfl, by decide +kernel, rfl, by decide +kernel, by decide +kernel⟩
abbrev st__law_take : Stmt := (top 38)
abbrev N__law_take : List Str := ["draws", "limit"]
theorem sc__law_take : FnScope N__law_take ["draws", "limit"] (defScope st__law_take) := ⟨rfl, rfl, rfl, by decide +kernel, rfl, by decide +kernel, by decide +kernel⟩
abbrev st__law_same : Stmt := (top 39)
abbrev N__law_same : List Str := ["found", "due", "k"]
theorem sc__law_same : FnScope N__law_same ["found", "due"] (defScope st__law_same) := ⟨rfl, rfl, rfl, by decide +kernel, rfl, by decide +kernel, by decide +kernel⟩
abbrev st__law_power : Stmt := (top 40)
abbrev N__law_power : List Str := ["n", "found", "k"]
theorem sc__law_power : FnScope N__law_power ["n"] (defScope st__law_power) := ⟨rfl, rfl, rfl, by decide +kernel, rfl, by decide +kernel, by decide +kernel⟩
abbrev st__law_table : Stmt := (top 41)
abbrev N__law_table : List Str := ["draws", "n", "total", "kind", "place", "one"]
theorem sc__law_table : FnScope N__law_table ["draws", "n"] (defScope st__law_table) := ⟨rfl, rfl, rfl, by decide +kernel, rfl, by decide +kernel, by decide +kernel⟩
abbrev st__law_digit : Stmt := (top 42)
abbrev N__law_digit : List Str := ["table", "place"]
theorem sc__law_digit : FnScope N__law_digit ["table", "place"] (defScope st__law_digit) := ⟨rfl, rfl, rfl, by decide +kernel, rfl, by decide +kernel, by decide +kernel⟩
abbrev st__law_bits : Stmt := (top 43)
abbrev N__law_bits : List Str := ["place", "n", "i"]
theorem sc__law_bits : FnScope N__law_bits ["place", "n"] (defScope st__law_bits) := ⟨rfl, rfl, rfl, by decide +kernel, rfl, by decide +kernel, by decide +kernel⟩
abbrev st__law_from : Stmt := (top 44)
abbrev N__law_from : List Str := ["n", "is_one", "total", "place"]
theorem sc__law_from : FnScope N__law_from ["n", "is_one"] (defScope st__law_from) := ⟨rfl, rfl, rfl, by decide +kernel, rfl, by decide +kernel, by decide +kernel⟩
abbrev st__law_squeezed : Stmt := (top 45)
abbrev N__law_squeezed : List Str := ["table", "n", "i", "total", "place", "low"]
theorem sc__law_squeezed : FnScope N__law_squeezed ["table", "n", "i"] (defScope st__law_squeezed) := ⟨rfl, rfl, rfl, by decide +kernel, rfl, by decide +kernel, by decide +kernel⟩
abbrev st_law : Stmt := (top 46)
abbrev N_law : List Str := ["script", "draws", "odd", "turn", "n", "weights", "bound", "table", "told", "turned", "order", "dual", "twice", "w", "moved", "sides", "side", "i", "bit", "part", "rest", "k", "place", "count", "weight"]
theorem sc_law : FnScope N_law ["script"] (defScope st_law) := ⟨rfl, rfl, rfl, by decide +kernel, rfl, by decide +kernel, by decide +kernel⟩
/-! ### what the defs do, by the levels of calls -/
structure Tb where
  hi : Bool
  full : List D → Option PR
  variable_ : List D → Option PR
  digit : List D → Option PR
  fixed : List D → Option PR
  support : List D → Option PR
  rises : List D → Option PR
  falls : List D → Option PR
  places : List D → Option PR
  table_from : List D → Option PR
  check_asked_thresholds : List D → Option PR
  weight_at : List D → Option PR
  all_weights : List D → Option PR
  bound_of : List D → Option PR
  pair_sums : List RV → Sto → Option (RV × Sto)
  side_of : List D → Option PR
  balance_of : List D → Option PR
  threshold : List D → Option PR
  takes_weights : List D → Option PR
  is_side : List D → Option PR
  takes_balance : List D → Option PR
  of_input : List D → Option PR
  check_asked_classes : List D → Option PR
  source : List D → Option PR
  change_of : List D → Option PR
  changed : List D → Option PR
  _law_draws : List D → Option PR
  _law_take : List RV → Sto → Option (RV × Sto)
  _law_same : List D → Option PR
  _law_power : List D → Option PR
  _law_table : List RV → Sto → Option (RV × Sto)
  _law_digit : List D → Option PR
  _law_bits : List D → Option PR
  _law_from : List RV → Option PR
  _law_squeezed : List D → Option PR
  law : List D → Option PR
noncomputable def F_full (L : Tb) (T : Tb) : Fs :=
    sSeq2 (sRet (eBin vSub (eBin vShl (eC (.int 1)) (eBin vShl (eC (.int 1)) (eVar 0))) (eC (.int 1))))
    (sNil)
noncomputable def F_variable (L : Tb) (T : Tb) : Fs :=
    sSeq2 (sAsg (eBin vShl (eBin vSub (eBin vShl (eC (.int 1)) (eBin vShl (eC (.int 1)) (eVar 1))) (eC (.int 1))) (eBin vShl (eC (.int 1)) (eVar 1))) (gN 2))
    (sSeq2 (sAsg (eBin vShl (eC (.int 2)) (eVar 1)) (gN 3))
    (sSeq2 (sAsg (eVar 2) (gN 4))
    (sSeq2 (whGo (fTest (eBin vLt (eVar 3) (eBin vShl (eC (.int 1)) (eVar 0)))) (sSeq2 (sAug 4 vOr (eBin vShl (eVar 4) (eVar 3)))
    (sSeq2 (sAug 3 vMul (eC (.int 2)))
    (sNil))) 100000)
    (sSeq2 (sRet (eVar 4))
    (sNil)))))
noncomputable def F_digit (L : Tb) (T : Tb) : Fs :=
    sSeq2 (sRet (eBin vAnd (eBin vShr (eVar 0) (eVar 1)) (eC (.int 1))))
    (sNil)
noncomputable def F_fixed (L : Tb) (T : Tb) : Fs :=
    sSeq2 (sAsg (eCallP 2 T.variable_ (aCons (eVar 1) (aCons (eVar 2) (aNil)))) (gN 4))
    (sSeq2 (sAsg (eBin vShl (eC (.int 1)) (eVar 2)) (gN 5))
    (sSeq2 (sIf (fTest (eBin vEq (eVar 3) (eC (.int 1)))) (sSeq2 (sAsg (eBin vAnd (eVar 0) (eVar 4)) (gN 6))
    (sSeq2 (sRet (eBin vOr (eVar 6) (eBin vShr (eVar 6) (eVar 5))))
    (sNil))) (sNil))
    (sSeq2 (sAsg (eBin vAnd (eVar 0) (eBin vXor (eCallP 1 T.full (aCons (eVar 1) (aNil))) (eVar 4))) (gN 7))
    (sSeq2 (sRet (eBin vOr (eVar 7) (eBin vShl (eVar 7) (eVar 5))))
    (sNil)))))
noncomputable def F_support (L : Tb) (T : Tb) : Fs :=
    sSeq2 (sRet (eCall bTup (aCons (eVal (lLc (fMap (aCons (eVar 1) (aNil)) oR1) (gN 2) (fTest (eBin vNe (eCallP 4 T.fixed (aCons (eVar 0) (aCons (eVar 1) (aCons (eVar 2) (aCons (eC (.int 0)) (aNil)))))) (eCallP 4 T.fixed (aCons (eVar 0) (aCons (eVar 1) (aCons (eVar 2) (aCons (eC (.int 1)) (aNil)))))))) (eVar 2) [2])) (aNil))))
    (sNil)
noncomputable def F_rises (L : Tb) (T : Tb) : Fs :=
    sSeq2 (sRet (eBin vEq (eBin vAnd (eCallP 4 T.fixed (aCons (eVar 0) (aCons (eVar 1) (aCons (eVar 2) (aCons (eC (.int 0)) (aNil)))))) (eBin vXor (eCallP 1 T.full (aCons (eVar 1) (aNil))) (eCallP 4 T.fixed (aCons (eVar 0) (aCons (eVar 1) (aCons (eVar 2) (aCons (eC (.int 1)) (aNil)))))))) (eC (.int 0))))
    (sNil)
noncomputable def F_falls (L : Tb) (T : Tb) : Fs :=
    sSeq2 (sRet (eBin vEq (eBin vAnd (eCallP 4 T.fixed (aCons (eVar 0) (aCons (eVar 1) (aCons (eVar 2) (aCons (eC (.int 1)) (aNil)))))) (eBin vXor (eCallP 1 T.full (aCons (eVar 1) (aNil))) (eCallP 4 T.fixed (aCons (eVar 0) (aCons (eVar 1) (aCons (eVar 2) (aCons (eC (.int 0)) (aNil)))))))) (eC (.int 0))))
    (sNil)
noncomputable def F_places (L : Tb) (T : Tb) : Fs :=
    sSeq2 (sRet (eCall bTup (aCons (eVal (lLc (fMap (aCons (eBin vShl (eC (.int 1)) (eVar 1)) (aNil)) oR1) (gN 2) (fTest (eBin vEq (eCallP 2 T.digit (aCons (eVar 0) (aCons (eVar 2) (aNil)))) (eC (.int 1)))) (eVar 2) [2])) (aNil))))
    (sNil)
noncomputable def F_table_from (L : Tb) (T : Tb) : Fs :=
    sSeq2 (sAsg (eC (.int 0)) (gN 2))
    (sSeq2 (sFor (sSeq (eVar 1)) (gN 3) (sSeq2 (sAug 2 vOr (eBin vShl (eC (.int 1)) (eVar 3)))
    (sNil)))
    (sSeq2 (sRet (eBin vAnd (eVar 2) (eCallP 1 T.full (aCons (eVar 0) (aNil)))))
    (sNil)))
noncomputable def F_check_asked_thresholds (L : Tb) (T : Tb) : Fs :=
    sSeq2 (sIf (fNot (fTest (eChain vLe vLe (eC (.int 0)) (eVar 1) (eC k_MOST_INPUTS_thresholds)))) (sSeq2 (sNo)
    (sNil)) (sNil))
    (sSeq2 (sIf (fNot (fTest (eChain vLe vLe (eC (.int 0)) (eVar 0) (eCallP 1 T.full (aCons (eVar 1) (aNil)))))) (sSeq2 (sNo)
    (sNil)) (sNil))
    (sNil))
noncomputable def F_weight_at (L : Tb) (T : Tb) : Fs :=
    sSeq2 (sRet (eCall (bInts List.sum) (aCons (eVal (lLc (fMap (aCons (eVar 0) (aNil)) oEnum) (gTp 2 (gsCons (gN 2) (gsCons (gN 3) (gsNil)))) (fTru (eBin vAnd (eBin vShr (eVar 1) (eVar 2)) (eC (.int 1)))) (eVar 3) [2, 3])) (aNil))))
    (sNil)
noncomputable def F_all_weights (L : Tb) (T : Tb) : Fs :=
    sSeq2 (sAsg (eVal (aDs (aCons (eTup (aNil)) (aNil)))) (gN 1))
    (sSeq2 (sFor (fMap (aCons (eVar 0) (aNil)) oR1) (gN 2) (sSeq2 (sAsg (eVal (lLc2 (sSeq (eVar 1)) (gN 3) (fTrue) (fMap (aCons (eNeg (eC k_GREATEST)) (aCons (eBin vAdd (eC k_GREATEST) (eC (.int 1))) (aNil))) oR2) (gN 4) (fTrue) (eBin vAdd (eVar 3) (eTup (aCons (eVar 4) (aNil)))) [3, 4] [4])) (gN 1))
    (sNil)))
    (sSeq2 (sRet (eVal (lSrtK T.hi (psiOf 2 (eTup (aCons (eCall (bInts List.sum) (aCons (eVal (lLc (sSeq (eVar 0)) (gN 1) (fTrue) (eCall bAbs (aCons (eVar 1) (aNil))) [1])) (aNil))) (aCons (eVar 0) (aNil))))) (eVar 1))))
    (sNil)))
noncomputable def F_bound_of (L : Tb) (T : Tb) : Fs :=
    sSeq2 (sAsg (eVal (lLc (fMap (aCons (eBin vShl (eC (.int 1)) (eVar 1)) (aNil)) oR1) (gN 5) (fTest (eBin vEq (eCallP 2 T.digit (aCons (eVar 0) (aCons (eVar 5) (aNil)))) (eC (.int 1)))) (eCallP 2 T.weight_at (aCons (eVar 2) (aCons (eVar 5) (aNil)))) [5])) (gN 3))
    (sSeq2 (sAsg (eVal (lLc (fMap (aCons (eBin vShl (eC (.int 1)) (eVar 1)) (aNil)) oR1) (gN 5) (fTest (eBin vEq (eCallP 2 T.digit (aCons (eVar 0) (aCons (eVar 5) (aNil)))) (eC (.int 0)))) (eCallP 2 T.weight_at (aCons (eVar 2) (aCons (eVar 5) (aNil)))) [5])) (gN 4))
    (sSeq2 (sIf (fNot (fTru (eVar 3))) (sSeq2 (sRet (eBin vAdd (eCall (bQ maxI) (aCons (eVar 4) (aNil))) (eC (.int 1))))
    (sNil)) (sNil))
    (sSeq2 (sRet (fIf (fOr (fNot (fTru (eVar 4))) (fTest (eBin vLt (eCall (bQ maxI) (aCons (eVar 4) (aNil))) (eCall (bQ minI) (aCons (eVar 3) (aNil)))))) (eCall (bQ minI) (aCons (eVar 3) (aNil))) (eC .non)))
    (sNil))))
noncomputable def F_pair_sums (L : Tb) (T : Tb) : Fs :=
    sSeq2 (sAsg (eNewX) (gN 1))
    (sSeq2 (sFor (sSeq (eVar 0)) (gN 2) (sSeq2 (sFor (sSeq (eVar 0)) (gN 3) (sSeq2 (sIf (fTest (eBin vLe (eVar 2) (eVar 3))) (sSeq2 (sExpr (eSetdX (eVar 1) (eTup (aCons (eBin vAnd (eVar 2) (eVar 3)) (aCons (eBin vXor (eVar 2) (eVar 3)) (aNil)))) (eTup (aCons (eVar 2) (aCons (eVar 3) (aNil))))))
    (sNil)) (sNil))
    (sNil)))
    (sNil)))
    (sSeq2 (sRet (eVar 1))
    (sNil)))
noncomputable def F_side_of (L : Tb) (T : Tb) : Fs :=
    sSeq2 (sAsg (eVar 0) (gTp 2 (gsCons (gN 1) (gsCons (gN 2) (gsNil)))))
    (sSeq2 (sRet (fIf (fTest (eBin vEq (eVar 1) (eVar 2))) (eTup (aCons (eTup (aCons (eVar 1) (aCons (eC (.int 2)) (aNil)))) (aNil))) (eTup (aCons (eTup (aCons (eVar 1) (aCons (eC (.int 1)) (aNil)))) (aCons (eTup (aCons (eVar 2) (aCons (eC (.int 1)) (aNil)))) (aNil))))))
    (sNil))
noncomputable def F_balance_of (L : Tb) (T : Tb) : Fs :=
    sSeq2 (sAsg (eCallS 1 T.pair_sums (aCons (eCallP 2 T.places (aCons (eVar 0) (aCons (eVar 1) (aNil)))) (aNil))) (gN 2))
    (sSeq2 (sAsg (eCallS 1 T.pair_sums (aCons (eCallP 2 T.places (aCons (eBin vXor (eCallP 1 T.full (aCons (eVar 1) (aNil))) (eVar 0)) (aCons (eVar 1) (aNil)))) (aNil))) (gN 3))
    (sSeq2 (sFor (sSeq (eVal (lCall bSrtX (aCons (eVar 2) (aNil))))) (gN 4) (sSeq2 (sIf (fTest (eBin (vInX false) (eVar 4) (eVar 3))) (sSeq2 (sRet (eTup (aCons (eCallP 1 T.side_of (aCons (eBin vIxX (eVar 2) (eVar 4)) (aNil))) (aCons (eCallP 1 T.side_of (aCons (eBin vIxX (eVar 3) (eVar 4)) (aNil))) (aNil)))))
    (sNil)) (sNil))
    (sNil)))
    (sSeq2 (sRet (eC .non))
    (sNil))))
noncomputable def F_threshold (L : Tb) (T : Tb) : Fs :=
    sSeq2 (sExpr (eCallP 2 T.check_asked_thresholds (aCons (eVar 0) (aCons (eVar 1) (aNil)))))
    (sSeq2 (sAsg (eCallP 2 T.balance_of (aCons (eVar 0) (aCons (eVar 1) (aNil)))) (gN 2))
    (sSeq2 (sIf (fTest (eBin (vIsN true) (eVar 2) (eC .non))) (sSeq2 (sRet (eTup (aCons (eC (.str "balance")) (aCons (eBin vIx (eVar 2) (eC (.int 0))) (aCons (eBin vIx (eVar 2) (eC (.int 1))) (aNil))))))
    (sNil)) (sNil))
    (sSeq2 (sFor (sSeq (eCallP 1 T.all_weights (aCons (eVar 1) (aNil)))) (gN 3) (sSeq2 (sAsg (eCallP 3 T.bound_of (aCons (eVar 0) (aCons (eVar 1) (aCons (eVar 3) (aNil))))) (gN 4))
    (sSeq2 (sIf (fTest (eBin (vIsN true) (eVar 4) (eC .non))) (sSeq2 (sRet (eTup (aCons (eC (.str "weights")) (aCons (eVar 3) (aCons (eVar 4) (aNil))))))
    (sNil)) (sNil))
    (sNil))))
    (sSeq2 (sRet (eC .non))
    (sNil)))))
noncomputable def F_takes_weights (L : Tb) (T : Tb) : Fs :=
    sSeq2 (sExpr (eCallP 2 T.check_asked_thresholds (aCons (eVar 0) (aCons (eVar 1) (aNil)))))
    (sSeq2 (sIf (fTest (eBin vNe (eCall bLen (aCons (eVar 2) (aNil))) (eVar 1))) (sSeq2 (sRet (eC (.bl false)))
    (sNil)) (sNil))
    (sSeq2 (sRet (eCall (bBools fun bs => bs.all id) (aCons (eVal (lLc (fMap (aCons (eBin vShl (eC (.int 1)) (eVar 1)) (aNil)) oR1) (gN 4) (fTrue) (eBin vEq (eCall bInt (aCons (eBin vGe (eCallP 2 T.weight_at (aCons (eVar 2) (aCons (eVar 4) (aNil)))) (eVar 3)) (aNil))) (eCallP 2 T.digit (aCons (eVar 0) (aCons (eVar 4) (aNil))))) [4])) (aNil))))
    (sNil)))
noncomputable def F_is_side (L : Tb) (T : Tb) : Fs :=
    sSeq2 (sIf (fNot (fTru (eCall (bBools fun bs => bs.all id) (aCons (eVal (lLc (fMap (aCons (eVar 2) (aCons (eSlT (eVar 2) (oSome (eC (.int 1))) (oNo)) (aNil))) oZip) (gTp 2 (gsCons (gN 4) (gsCons (gN 5) (gsNil)))) (fTrue) (eBin vLt (eBin vIx (eVar 4) (eC (.int 0))) (eBin vIx (eVar 5) (eC (.int 0)))) [4, 5])) (aNil))))) (sSeq2 (sRet (eC (.bl false)))
    (sNil)) (sNil))
    (sSeq2 (sRet (eCall (bBools fun bs => bs.all id) (aCons (eVal (lLc (sSeq (eVar 2)) (gTp 2 (gsCons (gN 6) (gsCons (gN 7) (gsNil)))) (fTrue) (eAnd (eChain vLe vLt (eC (.int 0)) (eVar 6) (eBin vShl (eC (.int 1)) (eVar 1))) (eAnd (eBin vEq (eCallP 2 T.digit (aCons (eVar 0) (aCons (eVar 6) (aNil)))) (eVar 3)) (eBin vGe (eVar 7) (eC (.int 1))))) [6, 7])) (aNil))))
    (sNil))
noncomputable def F_takes_balance (L : Tb) (T : Tb) : Fs :=
    sSeq2 (sExpr (eCallP 2 T.check_asked_thresholds (aCons (eVar 0) (aCons (eVar 1) (aNil)))))
    (sSeq2 (sIf (fOr (fNot (fTru (eCallP 4 T.is_side (aCons (eVar 0) (aCons (eVar 1) (aCons (eVar 2) (aCons (eC (.int 1)) (aNil)))))))) (fNot (fTru (eCallP 4 T.is_side (aCons (eVar 0) (aCons (eVar 1) (aCons (eVar 3) (aCons (eC (.int 0)) (aNil))))))))) (sSeq2 (sRet (eC (.bl false)))
    (sNil)) (sNil))
    (sSeq2 (sAsg (eCall (bInts List.sum) (aCons (eVal (lLc (sSeq (eVar 2)) (gTp 2 (gsCons (gN 5) (gsCons (gN 6) (gsNil)))) (fTrue) (eVar 6) [5, 6])) (aNil))) (gN 4))
    (sSeq2 (sIf (fOr (fTest (eBin vLt (eVar 4) (eC (.int 1)))) (fTest (eBin vNe (eVar 4) (eCall (bInts List.sum) (aCons (eVal (lLc (sSeq (eVar 3)) (gTp 2 (gsCons (gN 5) (gsCons (gN 6) (gsNil)))) (fTrue) (eVar 6) [5, 6])) (aNil)))))) (sSeq2 (sRet (eC (.bl false)))
    (sNil)) (sNil))
    (sSeq2 (sRet (eCall (bBools fun bs => bs.all id) (aCons (eVal (lLc (fMap (aCons (eVar 1) (aNil)) oR1) (gN 7) (fTrue) (eBin vEq (eCallP 2 T.of_input (aCons (eVar 2) (aCons (eVar 7) (aNil)))) (eCallP 2 T.of_input (aCons (eVar 3) (aCons (eVar 7) (aNil))))) [7])) (aNil))))
    (sNil)))))
noncomputable def F_of_input (L : Tb) (T : Tb) : Fs :=
    sSeq2 (sRet (eCall (bInts List.sum) (aCons (eVal (lLc (sSeq (eVar 0)) (gTp 2 (gsCons (gN 2) (gsCons (gN 3) (gsNil)))) (fTru (eBin vAnd (eBin vShr (eVar 2) (eVar 1)) (eC (.int 1)))) (eVar 3) [2, 3])) (aNil))))
    (sNil)
noncomputable def F_check_asked_classes (L : Tb) (T : Tb) : Fs :=
    sSeq2 (sIf (fNot (fTest (eChain vLe vLe (eC (.int 0)) (eVar 1) (eC k_MOST_INPUTS_classes)))) (sSeq2 (sNo)
    (sNil)) (sNil))
    (sSeq2 (sIf (fNot (fTest (eChain vLe vLe (eC (.int 0)) (eVar 0) (eCallP 1 T.full (aCons (eVar 1) (aNil)))))) (sSeq2 (sNo)
    (sNil)) (sNil))
    (sNil))
noncomputable def F_source (L : Tb) (T : Tb) : Fs :=
    sSeq2 (sAsg (eVar 1) (gTp 3 (gsCons (gN 3) (gsCons (gN 4) (gsCons (gN 5) (gsNil))))))
    (sSeq2 (sAsg (eBin vXor (eVar 0) (eVar 4)) (gN 6))
    (sSeq2 (sRet (eCall (bInts List.sum) (aCons (eVal (lLc (fMap (aCons (eVar 2) (aNil)) oR1) (gN 7) (fTru (eBin vAnd (eBin vShr (eVar 6) (eVar 7)) (eC (.int 1)))) (eBin vShl (eC (.int 1)) (eBin vIx (eVar 3) (eVar 7))) [7])) (aNil))))
    (sNil)))
noncomputable def F_change_of (L : Tb) (T : Tb) : Fs :=
    sSeq2 (sAsg (eVal (lLc (fMap (aCons (eBin vShl (eC (.int 1)) (eVar 1)) (aNil)) oR1) (gN 4) (fTest (eBin vNe (eCallP 2 T.digit (aCons (eVar 0) (aCons (eCallP 3 T.source (aCons (eVar 4) (aCons (eVar 2) (aCons (eVar 1) (aNil))))) (aNil)))) (eBin vIx (eVar 2) (eC (.int 2))))) (eVar 4) [4])) (gN 3))
    (sSeq2 (sRet (eCallP 2 T.table_from (aCons (eVar 1) (aCons (eVar 3) (aNil)))))
    (sNil))
noncomputable def F_changed (L : Tb) (T : Tb) : Fs :=
    sSeq2 (sExpr (eCallP 2 T.check_asked_classes (aCons (eVar 0) (aCons (eVar 1) (aNil)))))
    (sSeq2 (sAsg (eVar 2) (gTp 3 (gsCons (gN 3) (gsCons (gN 4) (gsCons (gN 5) (gsNil))))))
    (sSeq2 (sIf (fOr (fTest (eBin vNe (eVal (lCall bSrtQ (aCons (eVar 3) (aNil)))) (eVal (lRg (fRg1 (eVar 1)))))) (fOr (fNot (fTest (eChain vLe vLt (eC (.int 0)) (eVar 4) (eBin vShl (eC (.int 1)) (eVar 1))))) (fTest (eBin (vIn true) (eVar 5) (eTup (aCons (eC (.int 0)) (aCons (eC (.int 1)) (aNil)))))))) (sSeq2 (sNo)
    (sNil)) (sNil))
    (sSeq2 (sRet (eCallP 3 T.change_of (aCons (eVar 0) (aCons (eVar 1) (aCons (eVar 2) (aNil))))))
    (sNil))))
noncomputable def F__law_draws (L : Tb) (T : Tb) : Fs :=
    sSeq2 (sAsg (eObj (lCall bLst (aCons (eVar 0) (aNil)))) (gN 2))
    (sSeq2 (sIf (fTest (eBin vEq (eCall bLen (aCons (eVar 2) (aNil))) (eC (.int 0)))) (sSeq2 (sAsg (eObj (aDs (aCons (eC (.int 7)) (aNil)))) (gN 2))
    (sNil)) (sNil))
    (sSeq2 (sAsg (eObj (aDs (aNil))) (gN 3))
    (sSeq2 (sAsg (eC (.int 12345)) (gN 4))
    (sSeq2 (sFor (fMap (aCons (eVar 1) (aNil)) oR1) (gN 5) (sSeq2 (sAsg (eBin vMod (eVar 5) (eCall bLen (aCons (eVar 2) (aNil)))) (gN 6))
    (sSeq2 (sAsg (eBin vIx (eVar 2) (eVar 6)) (gN 7))
    (sSeq2 (sAsg (eBin vMod (eCall bInt (aCons (eBin vAdd (eBin vAdd (eBin vAdd (eBin vMul (eVar 4) (eC (.int 48271))) (eBin vMul (eBin vMod (eCall bInt (aCons (eVar 7) (aNil))) (eC (.int 1000003))) (eC (.int 69621)))) (eBin vMul (eVar 5) (eC (.int 7919)))) (eC (.int 11))) (aNil))) (eC (.int 2147483647))) (gN 4))
    (sSeq2 (sAsg (eBin vMod (eCall bInt (aCons (eBin vAdd (eBin vAdd (eBin vMul (eVar 4) (eVar 4)) (eBin vMul (eC (.int 31)) (eVar 4))) (eVar 5)) (aNil))) (eC (.int 1000003))) (gN 8))
    (sSeq2 (sIf (fTest (eBin vGe (eVar 7) (eBin vPow (eC (.int 10)) (eC (.int 18))))) (sSeq2 (sExpr (eMl1 oApp (eVar 3) (eBin vMod (eCall bInt (aCons (eVar 7) (aNil))) (eC (.int 1000)))))
    (sSeq2 (sSubL (eVar 2) (eVar 6) (eBin vDiv (eVar 7) (eC (.int 1000))))
    (sNil))) (sSeq2 (sExpr (eMl1 oApp (eVar 3) (eBin vMod (eCall bInt (aCons (eVar 8) (aNil))) (eC (.int 1000)))))
    (sNil)))
    (sNil)))))))
    (sSeq2 (sExpr (eMl0 oRev (eVar 3)))
    (sSeq2 (sRet (eVar 3))
    (sNil)))))))
noncomputable def F__law_take (L : Tb) (T : Tb) : Fs :=
    sSeq2 (sIf (fTest (eBin vEq (eCall bLen (aCons (eVar 0) (aNil))) (eC (.int 0)))) (sSeq2 (sRet (eC (.int 0)))
    (sNil)) (sNil))
    (sSeq2 (sRet (eBin vMod (eCall bInt (aCons (eMl0 oPop (eVar 0)) (aNil))) (eVar 1)))
    (sNil))
noncomputable def F__law_same (L : Tb) (T : Tb) : Fs :=
    sSeq2 (sIf (fTest (eBin (vIsN false) (eVar 1) (eC .non))) (sSeq2 (sRet (eBin (vIsN false) (eVar 0) (eC .non)))
    (sNil)) (sNil))
    (sSeq2 (sIf (fTru (eCall bIsi (aCons (eVar 1) (aCons (eTy .bool) (aNil))))) (sSeq2 (sRet (eAnd (eCall bIsi (aCons (eVar 0) (aCons (eTy .bool) (aNil)))) (eBin vEq (eVar 0) (eVar 1))))
    (sNil)) (sNil))
    (sSeq2 (sIf (fTru (eCall bIsi (aCons (eVar 1) (aCons (eTy .int) (aNil))))) (sSeq2 (sRet (eAnd (eCall bIsi (aCons (eVar 0) (aCons (eTy .int) (aNil)))) (eAnd (eNot (eCall bIsi (aCons (eVar 0) (aCons (eTy .bool) (aNil))))) (eBin vEq (eVar 0) (eVar 1)))))
    (sNil)) (sNil))
    (sSeq2 (sIf (fTru (eCall bIsi (aCons (eVar 1) (aCons (eTy .str) (aNil))))) (sSeq2 (sRet (eAnd (eCall bIsi (aCons (eVar 0) (aCons (eTy .str) (aNil)))) (eBin vEq (eVar 0) (eVar 1))))
    (sNil)) (sNil))
    (sSeq2 (sIf (fTru (eCall bIsi (aCons (eVar 1) (aCons (eTy .dct) (aNil))))) (sSeq2 (sRet (eAnd (eCall bIsi (aCons (eVar 0) (aCons (eTy .dct) (aNil)))) (eBin vEq (eVar 0) (eVar 1))))
    (sNil)) (sNil))
    (sSeq2 (sIf (fOr (fTest (eBin vNe (eCall bIsi (aCons (eVar 1) (aCons (eTy .tup) (aNil)))) (eCall bIsi (aCons (eVar 0) (aCons (eTy .tup) (aNil)))))) (fTest (eBin vNe (eCall bIsi (aCons (eVar 1) (aCons (eTy .lst) (aNil)))) (eCall bIsi (aCons (eVar 0) (aCons (eTy .lst) (aNil))))))) (sSeq2 (sRet (eC (.bl false)))
    (sNil)) (sNil))
    (sSeq2 (sRet (eAnd (eBin vEq (eCall bLen (aCons (eVar 0) (aNil))) (eCall bLen (aCons (eVar 1) (aNil)))) (eCall (bBools fun bs => bs.all id) (aCons (eVal (lLc (fMap (aCons (eCall bLen (aCons (eVar 1) (aNil))) (aNil)) oR1) (gN 2) (fTrue) (eCallP 2 T._law_same (aCons (eBin vIx (eVar 0) (eVar 2)) (aCons (eBin vIx (eVar 1) (eVar 2)) (aNil)))) [2])) (aNil)))))
    (sNil)))))))
noncomputable def F__law_power (L : Tb) (T : Tb) : Fs :=
    sSeq2 (sAsg (eC (.int 1)) (gN 1))
    (sSeq2 (sFor (fMap (aCons (eVar 0) (aNil)) oR1) (gN 2) (sSeq2 (sAsg (eBin vMul (eVar 1) (eC (.int 2))) (gN 1))
    (sNil)))
    (sSeq2 (sRet (eVar 1))
    (sNil)))
noncomputable def F__law_table (L : Tb) (T : Tb) : Fs :=
    sSeq2 (sPar 2 3 (aCons (eC (.int 0)) (aCons (eCallS 2 T._law_take (aCons (eVar 0) (aCons (eC (.int 5)) (aNil)))) (aNil))))
    (sSeq2 (sFor (fMap (aCons (eCallP 1 T._law_power (aCons (eVar 1) (aNil))) (aNil)) oR1) (gN 4) (sSeq2 (sAsg (fIf (fTest (eBin vLt (eVar 3) (eC (.int 3)))) (eCallS 2 T._law_take (aCons (eVar 0) (aCons (eC (.int 2)) (aNil)))) (fIf (fTest (eBin vEq (eVar 3) (eC (.int 3)))) (eCall bInt (aCons (eBin vEq (eCallS 2 T._law_take (aCons (eVar 0) (aCons (eC (.int 5)) (aNil)))) (eC (.int 0))) (aNil))) (eCall bInt (aCons (eBin vGt (eCallS 2 T._law_take (aCons (eVar 0) (aCons (eC (.int 5)) (aNil)))) (eC (.int 0))) (aNil))))) (gN 5))
    (sSeq2 (sAsg (eBin vAdd (eBin vMul (eVar 2) (eC (.int 2))) (eVar 5)) (gN 2))
    (sNil))))
    (sSeq2 (sRet (eVar 2))
    (sNil)))
noncomputable def F__law_digit (L : Tb) (T : Tb) : Fs :=
    sSeq2 (sRet (eBin vMod (eCall bInt (aCons (eBin vDiv (eVar 0) (eCallP 1 T._law_power (aCons (eVar 1) (aNil)))) (aNil))) (eC (.int 2))))
    (sNil)
noncomputable def F__law_bits (L : Tb) (T : Tb) : Fs :=
    sSeq2 (sRet (eCall bTup (aCons (eVal (lLc (fMap (aCons (eVar 1) (aNil)) oR1) (gN 2) (fTrue) (eBin vMod (eCall bInt (aCons (eBin vDiv (eVar 0) (eCallP 1 T._law_power (aCons (eVar 2) (aNil)))) (aNil))) (eC (.int 2))) [2])) (aNil))))
    (sNil)
noncomputable def F__law_from (L : Tb) (T : Tb) : Fs :=
    sSeq2 (sAsg (eC (.int 0)) (gN 2))
    (sSeq2 (sFor (fMap (aCons (eBin vSub (eCallP 1 T._law_power (aCons (eVar 0) (aNil))) (eC (.int 1))) (aCons (eNeg (eC (.int 1))) (aCons (eNeg (eC (.int 1))) (aNil)))) oR3) (gN 3) (sSeq2 (sAsg (eBin vAdd (eBin vMul (eVar 2) (eC (.int 2))) (fIf (fTru (eCallFh T.hi 1 (aCons (eVar 3) (aNil)))) (eC (.int 1)) (eC (.int 0)))) (gN 2))
    (sNil)))
    (sSeq2 (sRet (eVar 2))
    (sNil)))
noncomputable def F__law_squeezed (L : Tb) (T : Tb) : Fs :=
    sSeq2 (sAsg (eC (.int 0)) (gN 3))
    (sSeq2 (sFor (fMap (aCons (eBin vSub (eCallP 1 T._law_power (aCons (eBin vSub (eVar 1) (eC (.int 1))) (aNil))) (eC (.int 1))) (aCons (eNeg (eC (.int 1))) (aCons (eNeg (eC (.int 1))) (aNil)))) oR3) (gN 4) (sSeq2 (sAsg (eBin vMod (eCall bInt (aCons (eVar 4) (aNil))) (eCallP 1 T._law_power (aCons (eVar 2) (aNil)))) (gN 5))
    (sSeq2 (sAsg (eBin vAdd (eBin vMul (eVar 3) (eC (.int 2))) (eCallP 2 T._law_digit (aCons (eVar 0) (aCons (eBin vAdd (eBin vMul (eBin vSub (eVar 4) (eVar 5)) (eC (.int 2))) (eVar 5)) (aNil))))) (gN 3))
    (sNil))))
    (sSeq2 (sRet (eVar 3))
    (sNil)))
noncomputable def F_law (L : Tb) (T : Tb) : Fs :=
    sSeq2 (sAsg (eObj (lCallP 2 T._law_draws (aCons (eVar 0) (aCons (eC (.int 400)) (aNil))))) (gN 1))
    (sSeq2 (sAsg (eVal (lLc (fMap (aCons (eC (.int 16)) (aNil)) oR1) (gN 7) (fTest (eBin vEq (eBin vIx (eCallP 2 T.threshold (aCons (eVar 7) (aCons (eC (.int 2)) (aNil)))) (eC (.int 0))) (eC (.str "balance")))) (eVar 7) [7])) (gN 2))
    (sSeq2 (sIf (fTest (eBin vNe (eVar 2) (eVal (aDs (aCons (eC (.int 6)) (aCons (eC (.int 9)) (aNil))))))) (sSeq2 (sRet (eC (.bl false)))
    (sNil)) (sNil))
    (sSeq2 (sFor (fMap (aCons (eC (.int 5)) (aNil)) oR1) (gN 3) (sSeq2 (sAsg (eBin vAdd (eC (.int 1)) (eCallS 2 T._law_take (aCons (eVar 1) (aCons (eC (.int 4)) (aNil))))) (gN 4))
    (sSeq2 (sIf (fTest (eBin vLt (eVar 3) (eC (.int 3)))) (sSeq2 (sAsg (eTup (aCons (eCall bTup (aCons (eVal (lLc (fMap (aCons (eVar 4) (aNil)) oR1) (gN 21) (fTrue) (eBin vSub (eCallS 2 T._law_take (aCons (eVar 1) (aCons (eC (.int 7)) (aNil)))) (eC (.int 3))) [21])) (aNil))) (aCons (eBin vSub (eCallS 2 T._law_take (aCons (eVar 1) (aCons (eC (.int 9)) (aNil)))) (eC (.int 4))) (aNil)))) (gTp 2 (gsCons (gN 5) (gsCons (gN 6) (gsNil)))))
    (sSeq2 (sAsg (eCallC 2 T._law_from [⟨1, psiOf 6 (eBin vGe (eCall (bInts List.sum) (aCons (eVal (lLc (fMap (aCons (eVar 1) (aCons (eCallP 2 L._law_bits (aCons (eVar 0) (aCons (eVar 2) (aNil)))) (aNil))) oZip) (gTp 2 (gsCons (gN 4) (gsCons (gN 5) (gsNil)))) (fTrue) (eBin vMul (eVar 4) (eVar 5)) [4, 5])) (aNil))) (eVar 3)), [5, 4, 6]⟩] (aD (aCons (eVar 4) (aNil)))) (gN 7))
    (sNil))) (sSeq2 (sAsg (eCallS 2 T._law_table (aCons (eVar 1) (aCons (eVar 4) (aNil)))) (gN 7))
    (sNil)))
    (sSeq2 (sAsg (eCallP 2 T.threshold (aCons (eVar 7) (aCons (eVar 4) (aNil)))) (gN 8))
    (sSeq2 (sAsg (eBin vSub (eCallP 1 T.full (aCons (eVar 4) (aNil))) (eVar 7)) (gN 9))
    (sSeq2 (sAsg (eRgT (fRg1 (eVar 4))) (gN 10))
    (sSeq2 (sAsg (eCallP 3 T.changed (aCons (eVar 7) (aCons (eVar 4) (aCons (eTup (aCons (eVar 10) (aCons (eBin vSub (eCallP 1 T._law_power (aCons (eVar 4) (aNil))) (eC (.int 1))) (aCons (eC (.int 1)) (aNil))))) (aNil))))) (gN 11))
    (sSeq2 (sIf (fOr (fTest (eBin vNe (eBin vIx (eCallP 2 T.threshold (aCons (eVar 9) (aCons (eVar 4) (aNil)))) (eC (.int 0))) (eBin vIx (eVar 8) (eC (.int 0))))) (fTest (eBin vNe (eBin vIx (eCallP 2 T.threshold (aCons (eVar 11) (aCons (eVar 4) (aNil)))) (eC (.int 0))) (eBin vIx (eVar 8) (eC (.int 0)))))) (sSeq2 (sRet (eC (.bl false)))
    (sNil)) (sNil))
    (sSeq2 (sIf (fTest (eBin vEq (eBin vIx (eVar 8) (eC (.int 0))) (eC (.str "balance")))) (sSeq2 (sIf (fOr (fTest (eBin (vIsB true) (eCallP 4 T.takes_balance (aCons (eVar 9) (aCons (eVar 4) (aCons (eBin vIx (eVar 8) (eC (.int 2))) (aCons (eBin vIx (eVar 8) (eC (.int 1))) (aNil)))))) (eC (.bl true)))) (fTru (eCallP 4 T.takes_weights (aCons (eVar 7) (aCons (eVar 4) (aCons (eBin vMulT (eTup (aCons (eC (.int 1)) (aNil))) (eVar 4)) (aCons (eC (.int 1)) (aNil)))))))) (sSeq2 (sRet (eC (.bl false)))
    (sNil)) (sNil))
    (sSeq2 (sAsg (eVal (lLc (sSeq (eSlT (eVar 8) (oSome (eC (.int 1))) (oNo))) (gN 16) (fTrue) (eCall bTup (aCons (eVal (lLc (sSeq (eVar 16)) (gTp 2 (gsCons (gN 22) (gsCons (gN 23) (gsNil)))) (fTrue) (eTup (aCons (eVar 22) (aCons (eBin vMul (eC (.int 2)) (eVar 23)) (aNil)))) [22, 23])) (aNil))) [16])) (gN 12))
    (sSeq2 (sIf (fOr (fTest (eBin (vIsB true) (eCallP 4 T.takes_balance (aCons (eVar 7) (aCons (eVar 4) (aCons (eBin vIx (eVar 12) (eC (.int 0))) (aCons (eBin vIx (eVar 12) (eC (.int 1))) (aNil)))))) (eC (.bl true)))) (fTru (eCallP 4 T.takes_balance (aCons (eVar 7) (aCons (eVar 4) (aCons (eBin vIx (eVar 12) (eC (.int 0))) (aCons (eBin vIx (eVar 8) (eC (.int 2))) (aNil)))))))) (sSeq2 (sRet (eC (.bl false)))
    (sNil)) (sNil))
    (sSeq2 (sAsg (eCallS 2 T._law_take (aCons (eVar 1) (aCons (eCallP 1 T._law_power (aCons (eVar 4) (aNil))) (aNil)))) (gN 13))
    (sSeq2 (sAsg (eCallP 3 T.changed (aCons (eVar 7) (aCons (eVar 4) (aCons (eTup (aCons (eVar 10) (aCons (eVar 13) (aCons (eC (.int 0)) (aNil))))) (aNil))))) (gN 14))
    (sSeq2 (sAsg (eObj (aDs (aNil))) (gN 15))
    (sSeq2 (sFor (sSeq (eSlT (eVar 8) (oSome (eC (.int 1))) (oNo))) (gN 16) (sSeq2 (sExpr (eMl1 oApp (eVar 15) (eCall bTup (aCons (eVal (lCall bSrtL (aCons (eVal (lLc (sSeq (eVar 16)) (gTp 2 (gsCons (gN 22) (gsCons (gN 23) (gsNil)))) (fTrue) (eTup (aCons (eCall (bInts List.sum) (aCons (eVal (lLc (fMap (aCons (eVar 4) (aNil)) oR1) (gN 17) (fTest (eBin vNe (eBin vIx (eCallP 2 T._law_bits (aCons (eVar 22) (aCons (eVar 4) (aNil)))) (eVar 17)) (eBin vIx (eCallP 2 T._law_bits (aCons (eVar 13) (aCons (eVar 4) (aNil)))) (eVar 17)))) (eCallP 1 T._law_power (aCons (eVar 17) (aNil))) [17])) (aNil))) (aCons (eVar 23) (aNil)))) [22, 23])) (aNil)))) (aNil)))))
    (sNil)))
    (sSeq2 (sIf (fTest (eBin (vIsB true) (eCallP 4 T.takes_balance (aCons (eVar 14) (aCons (eVar 4) (aCons (eBin vIx (eVar 15) (eC (.int 0))) (aCons (eBin vIx (eVar 15) (eC (.int 1))) (aNil)))))) (eC (.bl true)))) (sSeq2 (sRet (eC (.bl false)))
    (sNil)) (sNil))
    (sSeq2 (sCont)
    (sNil)))))))))) (sNil))
    (sSeq2 (sAsg (eTup (aCons (eBin vIx (eVar 8) (eC (.int 1))) (aCons (eBin vIx (eVar 8) (eC (.int 2))) (aNil)))) (gTp 2 (gsCons (gN 5) (gsCons (gN 6) (gsNil)))))
    (sSeq2 (sFor (fMap (aCons (eVar 4) (aNil)) oR1) (gN 17) (sSeq2 (sIf (fAnd (fNot (fTru (eCallP 3 T.rises (aCons (eVar 7) (aCons (eVar 4) (aCons (eVar 17) (aNil))))))) (fNot (fTru (eCallP 3 T.falls (aCons (eVar 7) (aCons (eVar 4) (aCons (eVar 17) (aNil)))))))) (sSeq2 (sRet (eC (.bl false)))
    (sNil)) (sNil))
    (sSeq2 (sIf (fOr (fAnd (fTest (eBin vGt (eBin vIx (eVar 5) (eVar 17)) (eC (.int 0)))) (fNot (fTru (eCallP 3 T.rises (aCons (eVar 7) (aCons (eVar 4) (aCons (eVar 17) (aNil)))))))) (fOr (fAnd (fTest (eBin vLt (eBin vIx (eVar 5) (eVar 17)) (eC (.int 0)))) (fNot (fTru (eCallP 3 T.falls (aCons (eVar 7) (aCons (eVar 4) (aCons (eVar 17) (aNil)))))))) (fAnd (fTest (eBin vEq (eBin vIx (eVar 5) (eVar 17)) (eC (.int 0)))) (fTest (eBin (vIn false) (eVar 17) (eCallP 2 T.support (aCons (eVar 7) (aCons (eVar 4) (aNil))))))))) (sSeq2 (sRet (eC (.bl false)))
    (sNil)) (sNil))
    (sSeq2 (sFor (sSeq (eTup (aCons (eC (.int 0)) (aCons (eC (.int 1)) (aNil))))) (gN 18) (sSeq2 (sAsg (eCallP 3 T._law_squeezed (aCons (eCallP 4 T.fixed (aCons (eVar 7) (aCons (eVar 4) (aCons (eVar 17) (aCons (eVar 18) (aNil)))))) (aCons (eVar 4) (aCons (eVar 17) (aNil))))) (gN 19))
    (sSeq2 (sAsg (eBin vAdd (eSlT (eVar 5) (oNo) (oSome (eVar 17))) (eSlT (eVar 5) (oSome (eBin vAdd (eVar 17) (eC (.int 1)))) (oNo))) (gN 20))
    (sSeq2 (sIf (fOr (fTest (eBin vNe (eBin vIx (eCallP 2 T.threshold (aCons (eVar 19) (aCons (eBin vSub (eVar 4) (eC (.int 1))) (aNil)))) (eC (.int 0))) (eC (.str "weights")))) (fTest (eBin (vIsB true) (eCallP 4 T.takes_weights (aCons (eVar 19) (aCons (eBin vSub (eVar 4) (eC (.int 1))) (aCons (eVar 20) (aCons (eBin vSub (eVar 6) (eBin vMul (eVar 18) (eBin vIx (eVar 5) (eVar 17)))) (aNil)))))) (eC (.bl true))))) (sSeq2 (sRet (eC (.bl false)))
    (sNil)) (sNil))
    (sNil)))))
    (sNil)))))
    (sSeq2 (sAsg (eBin vAdd (eC (.int 2)) (eCallS 2 T._law_take (aCons (eVar 1) (aCons (eC (.int 5)) (aNil))))) (gN 21))
    (sSeq2 (sIf (fTest (eBin (vIsB true) (eCallP 4 T.takes_weights (aCons (eVar 7) (aCons (eVar 4) (aCons (eCall bTup (aCons (eVal (lLc (sSeq (eVar 5)) (gN 24) (fTrue) (eBin vMul (eVar 21) (eVar 24)) [24])) (aNil))) (aCons (eBin vMul (eVar 21) (eVar 6)) (aNil)))))) (eC (.bl true)))) (sSeq2 (sRet (eC (.bl false)))
    (sNil)) (sNil))
    (sSeq2 (sIf (fTest (eBin (vIsB true) (eCallP 4 T.takes_weights (aCons (eVar 9) (aCons (eVar 4) (aCons (eCall bTup (aCons (eVal (lLc (sSeq (eVar 5)) (gN 24) (fTrue) (eBin vSub (eC (.int 0)) (eVar 24)) [24])) (aNil))) (aCons (eBin vSub (eC (.int 1)) (eVar 6)) (aNil)))))) (eC (.bl true)))) (sSeq2 (sRet (eC (.bl false)))
    (sNil)) (sNil))
    (sNil)))))))))))))))
    (sSeq2 (sRet (eC (.bl true)))
    (sNil)))))
def bot : Tb := ⟨false, fun _ => none, fun _ => none, fun _ => none, fun _ => none, fun _ => none, fun _ => none, fun _ => none, fun _ => none, fun _ => none, fun _ => none, fun _ => none, fun _ => none, fun _ => none, fun _ _ => none, fun _ => none, fun _ => none, fun _ => none, fun _ => none, fun _ => none, fun _ => none, fun _ => none, fun _ => none, fun _ => none, fun _ => none, fun _ => none, fun _ => none, fun _ _ => none, fun _ => none, fun _ => none, fun _ _ => none, fun _ => none, fun _ => none, fun _ => none, fun _ => none, fun _ => none⟩
noncomputable def TT (L : Tb) : Nat → Tb
  | 0 => bot
  | k + 1 => ⟨decide (21 ≤ k), runP 1 (F_full L (TT L k)), runP 5 (F_variable L (TT L k)), runP 2 (F_digit L (TT L k)), runP 8 (F_fixed L (TT L k)), runP 3 (F_support L (TT L k)), runP 3 (F_rises L (TT L k)), runP 3 (F_falls L (TT L k)), runP 3 (F_places L (TT L k)), runP 4 (F_table_from L (TT L k)), runP 2 (F_check_asked_thresholds L (TT L k)), runP 4 (F_weight_at L (TT L k)), runP 5 (F_all_weights L (TT L k)), runP 6 (F_bound_of L (TT L k)), runS 4 (F_pair_sums L (TT L k)), runP 3 (F_side_of L (TT L k)), runP 5 (F_balance_of L (TT L k)), runP 5 (F_threshold L (TT L k)), runP 5 (F_takes_weights L (TT L k)), runP 8 (F_is_side L (TT L k)), runP 8 (F_takes_balance L (TT L k)), runP 4 (F_of_input L (TT L k)), runP 2 (F_check_asked_classes L (TT L k)), runP 8 (F_source L (TT L k)), runP 5 (F_change_of L (TT L k)), runP 6 (F_changed L (TT L k)), runP 9 (F__law_draws L (TT L k)), runS 2 (F__law_take L (TT L k)), runP 3 (F__law_same L (TT L k)), runP 3 (F__law_power L (TT L k)), runS 6 (F__law_table L (TT L k)), runP 2 (F__law_digit L (TT L k)), runP 3 (F__law_bits L (TT L k)), runF 4 (F__law_from L (TT L k)), runP 6 (F__law_squeezed L (TT L k)), runP 25 (F_law L (TT L k))⟩
abbrev LK : Nat := 20
noncomputable def low : Tb := TT bot LK
noncomputable abbrev T : Nat → Tb := TT low
def nm : Nat → Nat → Str := fun l c => if l = 58 ∧ c = 29 then "all_weights.<locals>.<lambda>" else if l = 204 ∧ c = 33 then "law.<locals>.<lambda>" else ""
structure Ct (tb : Tbs) (P : Program) (w : World) (K : PySem.W.Frag) (mg : Str → Option Value) (base : Heap) (T : Tb) (j : Nat) : Prop where
  room : T.hi = true → 2 * LK + 2 ≤ j + 1
  room2 : T.hi = true → 2 * LK + 2 + 2 ≤ j + 1
  fns : FnsOk tb P w K mg base (2 * LK + 2)
  mks : FnsMk tb P w K mg base (2 * LK + 2)
  t_all_weights : Mkr tb mg base (He.codeOf K ("all_weights", none)) nm
  t_law : Mkr tb mg base (He.codeOf K ("law", none)) nm
  b_abs : mg "abs" = none
  b_all : mg "all" = none
  b_bool : mg "bool" = none
  b_dict : mg "dict" = none
  b_enumerate : mg "enumerate" = none
  b_int : mg "int" = none
  b_isinstance : mg "isinstance" = none
  b_len : mg "len" = none
  b_list : mg "list" = none
  b_max : mg "max" = none
  b_min : mg "min" = none
  b_range : mg "range" = none
  b_sorted : mg "sorted" = none
  b_str : mg "str" = none
  b_sum : mg "sum" = none
  b_tuple : mg "tuple" = none
  b_zip : mg "zip" = none
  c_GREATEST : Con K mg "GREATEST" k_GREATEST
  c_MOST_INPUTS_classes : Con K mg "MOST_INPUTS_classes" k_MOST_INPUTS_classes
  c_MOST_INPUTS_thresholds : Con K mg "MOST_INPUTS_thresholds" k_MOST_INPUTS_thresholds
  f_full : Cal P w K mg base j "full" (spP tb K 1 T.full)
  f_variable : Cal P w K mg base j "variable" (spP tb K 2 T.variable_)
  f_digit : Cal P w K mg base j "digit" (spP tb K 2 T.digit)
  f_fixed : Cal P w K mg base j "fixed" (spP tb K 4 T.fixed)
  f_support : Cal P w K mg base j "support" (spP tb K 2 T.support)
  f_rises : Cal P w K mg base j "rises" (spP tb K 3 T.rises)
  f_falls : Cal P w K mg base j "falls" (spP tb K 3 T.falls)
  f_places : Cal P w K mg base j "places" (spP tb K 2 T.places)
  f_table_from : Cal P w K mg base j "table_from" (spP tb K 2 T.table_from)
  f_check_asked_thresholds : Cal P w K mg base j "check_asked_thresholds" (spP tb K 2 T.check_asked_thresholds)
  f_weight_at : Cal P w K mg base j "weight_at" (spP tb K 2 T.weight_at)
  f_all_weights : Cal P w K mg base j "all_weights" (spP tb K 1 T.all_weights)
  f_bound_of : Cal P w K mg base j "bound_of" (spP tb K 3 T.bound_of)
  f_pair_sums : Cal P w K mg base j "pair_sums" (spS tb P w K 1 T.pair_sums)
  f_side_of : Cal P w K mg base j "side_of" (spP tb K 1 T.side_of)
  f_balance_of : Cal P w K mg base j "balance_of" (spP tb K 2 T.balance_of)
  f_threshold : Cal P w K mg base j "threshold" (spP tb K 2 T.threshold)
  f_takes_weights : Cal P w K mg base j "takes_weights" (spP tb K 4 T.takes_weights)
  f_is_side : Cal P w K mg base j "is_side" (spP tb K 4 T.is_side)
  f_takes_balance : Cal P w K mg base j "takes_balance" (spP tb K 4 T.takes_balance)
  f_of_input : Cal P w K mg base j "of_input" (spP tb K 2 T.of_input)
  f_check_asked_classes : Cal P w K mg base j "check_asked_classes" (spP tb K 2 T.check_asked_classes)
  f_source : Cal P w K mg base j "source" (spP tb K 3 T.source)
  f_change_of : Cal P w K mg base j "change_of" (spP tb K 3 T.change_of)
  f_changed : Cal P w K mg base j "changed" (spP tb K 3 T.changed)
  f__law_draws : Cal P w K mg base j "_law_draws" (spP tb K 2 T._law_draws)
  f__law_take : Cal P w K mg base j "_law_take" (spS tb P w K 2 T._law_take)
  f__law_same : Cal P w K mg base j "_law_same" (spP tb K 2 T._law_same)
  f__law_power : Cal P w K mg base j "_law_power" (spP tb K 1 T._law_power)
  f__law_table : Cal P w K mg base j "_law_table" (spS tb P w K 2 T._law_table)
  f__law_digit : Cal P w K mg base j "_law_digit" (spP tb K 2 T._law_digit)
  f__law_bits : Cal P w K mg base j "_law_bits" (spP tb K 2 T._law_bits)
  f__law_from : Cal P w K mg base j "_law_from" (spF tb K 2 T._law_from)
  f__law_squeezed : Cal P w K mg base j "_law_squeezed" (spP tb K 3 T._law_squeezed)
  f_law : Cal P w K mg base j "law" (spP tb K 1 T.law)
section
variable {tb : Tbs} {P : Program} {w : World} {K : PySem.W.Frag} {mg : Str → Option Value} {base : Heap} {j : Nat} {f : Addr} {fd : FuncData} {T : Tb} {L : Tb}
abbrev FnD (K : PySem.W.Frag) (x qual : Str) (st : Stmt) (f : Addr) (fd : FuncData) : Prop := FunD K x qual (defArgs st) (defBody st) (defScope st) [] [] f fd
theorem ok_full (C : Ct tb P w K mg base T j) (CL : Ct tb P w K mg base L (2 * LK)) (F : FnD K "full" "full" st_full f fd) : FnOk P w K mg base CX0 (j + 2) f fd ["n"] (spP tb K 1 (runP 1 (F_full L T))) :=
  fnP (N := N_full) (Fb := F_full L T) F sc_full fun cdv A outer s H E hr => by
    have nd := sc_full.nd
    have hr0 := hr.mono (show j ≤ j + 1 by omega)
    have hu := room65 hr
    exact ss_cons (s_ret (BO op_sub ov_sub (BO op_shl ov_shl (e_int) (BO op_shl ov_shl (e_int) (V 0))) (e_int)))
        (ss_nil)
theorem ok_variable (C : Ct tb P w K mg base T j) (CL : Ct tb P w K mg base L (2 * LK)) (F : FnD K "variable" "variable" st_variable f fd) : FnOk P w K mg base CX0 (j + 2) f fd ["n", "i"] (spP tb K 2 (runP 5 (F_variable L T))) :=
  fnP (N := N_variable) (Fb := F_variable L T) F sc_variable fun cdv A outer s H E hr => by
    have nd := sc_variable.nd
    have hr0 := hr.mono (show j ≤ j + 1 by omega)
    have hu := room65 hr
    exact ss_cons (SS 2 nd (BO op_shl ov_shl (BO op_sub ov_sub (BO op_shl ov_shl (e_int) (BO op_shl ov_shl (e_int) (V 1))) (e_int)) (BO op_shl ov_shl (e_int) (V 1))))
        (ss_cons (SS 3 nd (BO op_shl ov_shl (e_int) (V 1)))
        (ss_cons (SS 4 nd (V 2))
        (ss_cons (s_while .never (CT op_lt ov_lt (V 3) (BO op_shl ov_shl (e_int) (V 0))) (ss_cons (SU 4 nd iop_or ov_or (BO op_shl ov_shl (V 4) (V 3)))
        (ss_cons (SU 3 nd iop_mul ov_mul (e_int))
        (ss_nil))))
        (ss_cons (s_ret (V 4))
        (ss_nil)))))
theorem ok_digit (C : Ct tb P w K mg base T j) (CL : Ct tb P w K mg base L (2 * LK)) (F : FnD K "digit" "digit" st_digit f fd) : FnOk P w K mg base CX0 (j + 2) f fd ["table", "place"] (spP tb K 2 (runP 2 (F_digit L T))) :=
  fnP (N := N_digit) (Fb := F_digit L T) F sc_digit fun cdv A outer s H E hr => by
    have nd := sc_digit.nd
    have hr0 := hr.mono (show j ≤ j + 1 by omega)
    have hu := room65 hr
    exact ss_cons (s_ret (BO op_and ov_and (BO op_shr ov_shr (V 0) (V 1)) (e_int)))
        (ss_nil)
theorem ok_fixed (C : Ct tb P w K mg base T j) (CL : Ct tb P w K mg base L (2 * LK)) (F : FnD K "fixed" "fixed" st_fixed f fd) : FnOk P w K mg base CX0 (j + 2) f fd ["table", "n", "i", "bit"] (spP tb K 4 (runP 8 (F_fixed L T))) :=
  fnP (N := N_fixed) (Fb := F_fixed L T) F sc_fixed fun cdv A outer s H E hr => by
    have nd := sc_fixed.nd
    have hr0 := hr.mono (show j ≤ j + 1 by omega)
    have hu := room65 hr
    exact ss_cons (SS 4 nd (CP C.f_variable hr0 (AC (V 1) (AC (V 2) (a_nil)))))
        (ss_cons (SS 5 nd (BO op_shl ov_shl (e_int) (V 2)))
        (ss_cons (s_if (CT (or_eq hu) ov_eq (V 3) (e_int)) (ss_cons (SS 6 nd (BO op_and ov_and (V 0) (V 4)))
        (ss_cons (s_ret (BO op_or ov_or (V 6) (BO op_shr ov_shr (V 6) (V 5))))
        (ss_nil))) (ss_nil))
        (ss_cons (SS 7 nd (BO op_and ov_and (V 0) (BO op_xor ov_xor (CP C.f_full hr0 (AC (V 1) (a_nil))) (V 4))))
        (ss_cons (s_ret (BO op_or ov_or (V 7) (BO op_shl ov_shl (V 7) (V 5))))
        (ss_nil)))))
theorem ok_support (C : Ct tb P w K mg base T j) (CL : Ct tb P w K mg base L (2 * LK)) (F : FnD K "support" "support" st_support f fd) : FnOk P w K mg base CX0 (j + 2) f fd ["table", "n"] (spP tb K 2 (runP 3 (F_support L T))) :=
  fnP (N := N_support) (Fb := F_support L T) F sc_support fun cdv A outer s H E hr => by
    have nd := sc_support.nd
    have hr0 := hr.mono (show j ≤ j + 1 by omega)
    have hu := room65 hr
    exact ss_cons (s_ret (B_tuple C.b_tuple (AC (e_val (LC [("i", 2)] nd (by kernel_rfl) (I_range1 C.b_range (AC (V 1) (a_nil))) (fun _ _ _ _ _ => GN 2 nd) (fun _ _ _ _ _ => ts_one (CT (or_ne hu) ov_ne (CP C.f_fixed hr0 (AC (V 0) (AC (V 1) (AC (V 2) (AC (e_int) (a_nil)))))) (CP C.f_fixed hr0 (AC (V 0) (AC (V 1) (AC (V 2) (AC (e_int) (a_nil)))))))) (fun _ _ _ _ _ => V 2))) (a_nil))))
        (ss_nil)
theorem ok_rises (C : Ct tb P w K mg base T j) (CL : Ct tb P w K mg base L (2 * LK)) (F : FnD K "rises" "rises" st_rises f fd) : FnOk P w K mg base CX0 (j + 2) f fd ["table", "n", "i"] (spP tb K 3 (runP 3 (F_rises L T))) :=
  fnP (N := N_rises) (Fb := F_rises L T) F sc_rises fun cdv A outer s H E hr => by
    have nd := sc_rises.nd
    have hr0 := hr.mono (show j ≤ j + 1 by omega)
    have hu := room65 hr
    exact ss_cons (s_ret (CM (or_eq hu) ov_eq (BO op_and ov_and (CP C.f_fixed hr0 (AC (V 0) (AC (V 1) (AC (V 2) (AC (e_int) (a_nil)))))) (BO op_xor ov_xor (CP C.f_full hr0 (AC (V 1) (a_nil))) (CP C.f_fixed hr0 (AC (V 0) (AC (V 1) (AC (V 2) (AC (e_int) (a_nil)))))))) (e_int)))
        (ss_nil)
theorem ok_falls (C : Ct tb P w K mg base T j) (CL : Ct tb P w K mg base L (2 * LK)) (F : FnD K "falls" "falls" st_falls f fd) : FnOk P w K mg base CX0 (j + 2) f fd ["table", "n", "i"] (spP tb K 3 (runP 3 (F_falls L T))) :=
  fnP (N := N_falls) (Fb := F_falls L T) F sc_falls fun cdv A outer s H E hr => by
    have nd := sc_falls.nd
    have hr0 := hr.mono (show j ≤ j + 1 by omega)
    have hu := room65 hr
    exact ss_cons (s_ret (CM (or_eq hu) ov_eq (BO op_and ov_and (CP C.f_fixed hr0 (AC (V 0) (AC (V 1) (AC (V 2) (AC (e_int) (a_nil)))))) (BO op_xor ov_xor (CP C.f_full hr0 (AC (V 1) (a_nil))) (CP C.f_fixed hr0 (AC (V 0) (AC (V 1) (AC (V 2) (AC (e_int) (a_nil)))))))) (e_int)))
        (ss_nil)
theorem ok_places (C : Ct tb P w K mg base T j) (CL : Ct tb P w K mg base L (2 * LK)) (F : FnD K "places" "places" st_places f fd) : FnOk P w K mg base CX0 (j + 2) f fd ["table", "n"] (spP tb K 2 (runP 3 (F_places L T))) :=
  fnP (N := N_places) (Fb := F_places L T) F sc_places fun cdv A outer s H E hr => by
    have nd := sc_places.nd
    have hr0 := hr.mono (show j ≤ j + 1 by omega)
    have hu := room65 hr
    exact ss_cons (s_ret (B_tuple C.b_tuple (AC (e_val (LC [("place", 2)] nd (by kernel_rfl) (I_range1 C.b_range (AC (BO op_shl ov_shl (e_int) (V 1)) (a_nil))) (fun _ _ _ _ _ => GN 2 nd) (fun _ _ _ _ _ => ts_one (CT (or_eq hu) ov_eq (CP C.f_digit hr0 (AC (V 0) (AC (V 2) (a_nil)))) (e_int))) (fun _ _ _ _ _ => V 2))) (a_nil))))
        (ss_nil)
theorem ok_table_from (C : Ct tb P w K mg base T j) (CL : Ct tb P w K mg base L (2 * LK)) (F : FnD K "table_from" "table_from" st_table_from f fd) : FnOk P w K mg base CX0 (j + 2) f fd ["n", "chosen"] (spP tb K 2 (runP 4 (F_table_from L T))) :=
  fnP (N := N_table_from) (Fb := F_table_from L T) F sc_table_from fun cdv A outer s H E hr => by
    have nd := sc_table_from.nd
    have hr0 := hr.mono (show j ≤ j + 1 by omega)
    have hu := room65 hr
    exact ss_cons (SS 2 nd (e_int))
        (ss_cons (SO .never (i_seq (V 1)) (GN 3 nd) (ss_cons (SU 2 nd iop_or ov_or (BO op_shl ov_shl (e_int) (V 3)))
        (ss_nil)))
        (ss_cons (s_ret (BO op_and ov_and (V 2) (CP C.f_full hr0 (AC (V 0) (a_nil)))))
        (ss_nil)))
theorem ok_check_asked_thresholds (C : Ct tb P w K mg base T j) (CL : Ct tb P w K mg base L (2 * LK)) (F : FnD K "check_asked" "check_asked" st_check_asked_thresholds f fd) : FnOk P w K mg base CX0 (j + 2) f fd ["table", "n"] (spP tb K 2 (runP 2 (F_check_asked_thresholds L T))) :=
  fnP (N := N_check_asked_thresholds) (Fb := F_check_asked_thresholds L T) F sc_check_asked_thresholds fun cdv A outer s H E hr => by
    have nd := sc_check_asked_thresholds.nd
    have hr0 := hr.mono (show j ≤ j + 1 by omega)
    have hu := room65 hr
    exact ss_cons (s_if (t_not (CHT op_le ov_le op_le ov_le (e_int) (V 1) (GC C.c_MOST_INPUTS_thresholds))) (ss_cons (s_no)
        (ss_nil)) (ss_nil))
        (ss_cons (s_if (t_not (CHT op_le ov_le op_le ov_le (e_int) (V 0) (CP C.f_full hr0 (AC (V 1) (a_nil))))) (ss_cons (s_no)
        (ss_nil)) (ss_nil))
        (ss_nil))
theorem ok_weight_at (C : Ct tb P w K mg base T j) (CL : Ct tb P w K mg base L (2 * LK)) (F : FnD K "weight_at" "weight_at" st_weight_at f fd) : FnOk P w K mg base CX0 (j + 2) f fd ["weights", "place"] (spP tb K 2 (runP 4 (F_weight_at L T))) :=
  fnP (N := N_weight_at) (Fb := F_weight_at L T) F sc_weight_at fun cdv A outer s H E hr => by
    have nd := sc_weight_at.nd
    have hr0 := hr.mono (show j ≤ j + 1 by omega)
    have hu := room65 hr
    exact ss_cons (s_ret (B_sum C.b_sum (AC (e_val (LC [("i", 2), ("weight", 3)] nd (by kernel_rfl) (I_enum C.b_enumerate (AC (V 0) (a_nil))) (fun _ _ _ _ _ => GT (GS (GN 2 nd) (GS (GN 3 nd) (gs_nil)))) (fun _ _ _ _ _ => ts_one (TR (BO op_and ov_and (BO op_shr ov_shr (V 1) (V 2)) (e_int)))) (fun _ _ _ _ _ => V 3))) (a_nil))))
        (ss_nil)
theorem ok_all_weights (C : Ct tb P w K mg base T j) (CL : Ct tb P w K mg base L (2 * LK)) (F : FnD K "all_weights" "all_weights" st_all_weights (He.fAd K ("all_weights", none)) fd) : FnOk P w K mg base CX0 (j + 2) (He.fAd K ("all_weights", none)) fd ["n"] (spP tb K 1 (runP 5 (F_all_weights L T))) :=
  fnPc (N := N_all_weights) (Fb := F_all_weights L T) F sc_all_weights fun A outer s H E hr => by
    have nd := sc_all_weights.nd
    have hr0 := hr.mono (show j ≤ j + 1 by omega)
    have hu := room65 hr
    exact ss_cons (SS 1 nd (e_val (e_lst (AC (e_tup (a_nil)) (a_nil)))))
        (ss_cons (SO .never (I_range1 C.b_range (AC (V 0) (a_nil))) (GN 2 nd) (ss_cons (SC2T 1 [("row", 3), ("weight", 4)] [4] tv_val nd (by kernel_rfl) (sw_true rfl rfl rfl (by kernel_rfl)) (i_seq (V 1)) (fun _ _ _ _ _ => GN 3 nd) (fun _ _ _ _ _ => ts_nil) (fun _ _ _ _ _ => I_range2 C.b_range (AC (e_neg (GC C.c_GREATEST)) (AC (BO or_add ov_add (GC C.c_GREATEST) (e_int)) (a_nil)))) (fun _ _ _ _ _ => GN 4 nd) (fun _ _ _ _ _ => ts_nil) (fun _ _ _ _ _ => BO or_add ov_add (V 3) (e_tup (AC (V 4) (a_nil)))))
        (ss_nil)))
        (ss_cons (s_ret (e_val (LSK C.fns (fun hb => hr.mono (C.room2 hb)) C.b_sorted (V 1) (LM C.t_all_weights) (psi_lam (N := ["row", "weight"]) (ps := ["row"]) (fr := []) (js := []) C.mks (NdefX.nscope_by (by decide +kernel)) (by kernel_rfl) rfl (fun _ _ _ _ _ us hl => match us, hl with | [_], _ => rfl) (fun lq lcl lc lf A outer s H E hr => by
          have nd : (["row", "weight"] : List Str).Nodup := by decide +kernel
          have hr0 := hr.mono (show 2 * LK ≤ 2 * LK + 1 by omega)
          have hu := room65 hr
          exact e_tup (AC (B_sum CL.b_sum (AC (e_val (LC [("weight", 1)] nd (by kernel_rfl) (i_seq (V 0)) (fun _ _ _ _ _ => GN 1 nd) (fun _ _ _ _ _ => ts_nil) (fun _ _ _ _ _ => B_abs CL.b_abs (AC (V 1) (a_nil))))) (a_nil))) (AC (V 0) (a_nil))))))))
        (ss_nil)))
theorem ok_bound_of (C : Ct tb P w K mg base T j) (CL : Ct tb P w K mg base L (2 * LK)) (F : FnD K "bound_of" "bound_of" st_bound_of f fd) : FnOk P w K mg base CX0 (j + 2) f fd ["table", "n", "weights"] (spP tb K 3 (runP 6 (F_bound_of L T))) :=
  fnP (N := N_bound_of) (Fb := F_bound_of L T) F sc_bound_of fun cdv A outer s H E hr => by
    have nd := sc_bound_of.nd
    have hr0 := hr.mono (show j ≤ j + 1 by omega)
    have hu := room65 hr
    exact ss_cons (SC 3 [("place", 5)] tv_val nd (by kernel_rfl) (sw_true rfl rfl rfl (by kernel_rfl)) (I_range1 C.b_range (AC (BO op_shl ov_shl (e_int) (V 1)) (a_nil))) (fun _ _ _ _ _ => GN 5 nd) (fun _ _ _ _ _ => ts_one (CT (or_eq hu) ov_eq (CP C.f_digit hr0 (AC (V 0) (AC (V 5) (a_nil)))) (e_int))) (fun _ _ _ _ _ => CP C.f_weight_at hr0 (AC (V 2) (AC (V 5) (a_nil)))))
        (ss_cons (SC 4 [("place", 5)] tv_val nd (by kernel_rfl) (sw_true rfl rfl rfl (by kernel_rfl)) (I_range1 C.b_range (AC (BO op_shl ov_shl (e_int) (V 1)) (a_nil))) (fun _ _ _ _ _ => GN 5 nd) (fun _ _ _ _ _ => ts_one (CT (or_eq hu) ov_eq (CP C.f_digit hr0 (AC (V 0) (AC (V 5) (a_nil)))) (e_int))) (fun _ _ _ _ _ => CP C.f_weight_at hr0 (AC (V 2) (AC (V 5) (a_nil)))))
        (ss_cons (s_if (t_not (TR (V 3))) (ss_cons (s_ret (BO or_add ov_add (B_maxQ hu C.b_max (AC (V 4) (a_nil))) (e_int)))
        (ss_nil)) (ss_nil))
        (ss_cons (s_ret (e_if (PW.pt (t_or (t_not (TR (V 4))) (t_or1 (CT op_lt ov_lt (B_maxQ hu C.b_max (AC (V 4) (a_nil))) (B_minQ hu C.b_min (AC (V 3) (a_nil))))))) (B_minQ hu C.b_min (AC (V 3) (a_nil))) (e_non)))
        (ss_nil))))
theorem ok_pair_sums (C : Ct tb P w K mg base T j) (CL : Ct tb P w K mg base L (2 * LK)) (F : FnD K "pair_sums" "pair_sums" st_pair_sums f fd) : FnOk P w K mg base CX0 (j + 2) f fd ["chosen"] (spS tb P w K 1 (runS 4 (F_pair_sums L T))) :=
  fnS (N := N_pair_sums) (Fb := F_pair_sums L T) F sc_pair_sums fun cdv A outer s H E hr => by
    have nd := sc_pair_sums.nd
    have hr0 := hr.mono (show j ≤ j + 1 by omega)
    have hu := room65 hr
    exact ss_cons (SS 1 nd (e_newX))
        (ss_cons (SO .never (i_seq (V 0)) (GN 2 nd) (ss_cons (SO .never (i_seq (V 0)) (GN 3 nd) (ss_cons (s_if (CT op_le ov_le (V 2) (V 3)) (ss_cons (SE (e_setdX hu (V 1) (e_tup (AC (BO op_and ov_and (V 2) (V 3)) (AC (BO op_xor ov_xor (V 2) (V 3)) (a_nil)))) (e_tup (AC (V 2) (AC (V 3) (a_nil))))))
        (ss_nil)) (ss_nil))
        (ss_nil)))
        (ss_nil)))
        (ss_cons (s_ret (V 1))
        (ss_nil)))
theorem ok_side_of (C : Ct tb P w K mg base T j) (CL : Ct tb P w K mg base L (2 * LK)) (F : FnD K "side_of" "side_of" st_side_of f fd) : FnOk P w K mg base CX0 (j + 2) f fd ["pair"] (spP tb K 1 (runP 3 (F_side_of L T))) :=
  fnP (N := N_side_of) (Fb := F_side_of L T) F sc_side_of fun cdv A outer s H E hr => by
    have nd := sc_side_of.nd
    have hr0 := hr.mono (show j ≤ j + 1 by omega)
    have hu := room65 hr
    exact ss_cons (SA (V 0) (GT (GS (GN 1 nd) (GS (GN 2 nd) (gs_nil)))))
        (ss_cons (s_ret (e_if (CT (or_eq hu) ov_eq (V 1) (V 2)) (e_tup (AC (e_tup (AC (V 1) (AC (e_int) (a_nil)))) (a_nil))) (e_tup (AC (e_tup (AC (V 1) (AC (e_int) (a_nil)))) (AC (e_tup (AC (V 2) (AC (e_int) (a_nil)))) (a_nil))))))
        (ss_nil))
theorem ok_balance_of (C : Ct tb P w K mg base T j) (CL : Ct tb P w K mg base L (2 * LK)) (F : FnD K "balance_of" "balance_of" st_balance_of f fd) : FnOk P w K mg base CX0 (j + 2) f fd ["table", "n"] (spP tb K 2 (runP 5 (F_balance_of L T))) :=
  fnP (N := N_balance_of) (Fb := F_balance_of L T) F sc_balance_of fun cdv A outer s H E hr => by
    have nd := sc_balance_of.nd
    have hr0 := hr.mono (show j ≤ j + 1 by omega)
    have hu := room65 hr
    exact ss_cons (SS 2 nd (CS C.f_pair_sums hr0 (AC (CP C.f_places hr0 (AC (V 0) (AC (V 1) (a_nil)))) (a_nil))))
        (ss_cons (SS 3 nd (CS C.f_pair_sums hr0 (AC (CP C.f_places hr0 (AC (BO op_xor ov_xor (CP C.f_full hr0 (AC (V 1) (a_nil))) (V 0)) (AC (V 1) (a_nil)))) (a_nil))))
        (ss_cons (SO .never (i_seq (e_val (B_sortedX hu C.b_sorted (AC (V 2) (a_nil))))) (GN 4 nd) (ss_cons (s_if (CT (op_inX hu) (ov_inX false) (V 4) (V 3)) (ss_cons (s_ret (e_tup (AC (CP C.f_side_of hr0 (AC (IXX hu (V 2) (V 4)) (a_nil))) (AC (CP C.f_side_of hr0 (AC (IXX hu (V 3) (V 4)) (a_nil))) (a_nil)))))
        (ss_nil)) (ss_nil))
        (ss_nil)))
        (ss_cons (s_ret (e_non))
        (ss_nil))))
theorem ok_threshold (C : Ct tb P w K mg base T j) (CL : Ct tb P w K mg base L (2 * LK)) (F : FnD K "threshold" "threshold" st_threshold f fd) : FnOk P w K mg base CX0 (j + 2) f fd ["table", "n"] (spP tb K 2 (runP 5 (F_threshold L T))) :=
  fnP (N := N_threshold) (Fb := F_threshold L T) F sc_threshold fun cdv A outer s H E hr => by
    have nd := sc_threshold.nd
    have hr0 := hr.mono (show j ≤ j + 1 by omega)
    have hu := room65 hr
    exact ss_cons (SE (CP C.f_check_asked_thresholds hr0 (AC (V 0) (AC (V 1) (a_nil)))))
        (ss_cons (SS 2 nd (CP C.f_balance_of hr0 (AC (V 0) (AC (V 1) (a_nil)))))
        (ss_cons (s_if (CT op_notN ov_notN (V 2) (e_non)) (ss_cons (s_ret (e_tup (AC (e_str) (AC (IX (V 2) (e_int)) (AC (IX (V 2) (e_int)) (a_nil))))))
        (ss_nil)) (ss_nil))
        (ss_cons (SO .never (i_seq (CP C.f_all_weights hr0 (AC (V 1) (a_nil)))) (GN 3 nd) (ss_cons (SS 4 nd (CP C.f_bound_of hr0 (AC (V 0) (AC (V 1) (AC (V 3) (a_nil))))))
        (ss_cons (s_if (CT op_notN ov_notN (V 4) (e_non)) (ss_cons (s_ret (e_tup (AC (e_str) (AC (V 3) (AC (V 4) (a_nil))))))
        (ss_nil)) (ss_nil))
        (ss_nil))))
        (ss_cons (s_ret (e_non))
        (ss_nil)))))
theorem ok_takes_weights (C : Ct tb P w K mg base T j) (CL : Ct tb P w K mg base L (2 * LK)) (F : FnD K "takes_weights" "takes_weights" st_takes_weights f fd) : FnOk P w K mg base CX0 (j + 2) f fd ["table", "n", "weights", "bound"] (spP tb K 4 (runP 5 (F_takes_weights L T))) :=
  fnP (N := N_takes_weights) (Fb := F_takes_weights L T) F sc_takes_weights fun cdv A outer s H E hr => by
    have nd := sc_takes_weights.nd
    have hr0 := hr.mono (show j ≤ j + 1 by omega)
    have hu := room65 hr
    exact ss_cons (SE (CP C.f_check_asked_thresholds hr0 (AC (V 0) (AC (V 1) (a_nil)))))
        (ss_cons (s_if (CT (or_ne hu) ov_ne (B_len C.b_len (AC (V 2) (a_nil))) (V 1)) (ss_cons (s_ret (e_bl))
        (ss_nil)) (ss_nil))
        (ss_cons (s_ret (B_all C.b_all (AC (e_val (LC [("place", 4)] nd (by kernel_rfl) (I_range1 C.b_range (AC (BO op_shl ov_shl (e_int) (V 1)) (a_nil))) (fun _ _ _ _ _ => GN 4 nd) (fun _ _ _ _ _ => ts_nil) (fun _ _ _ _ _ => CM (or_eq hu) ov_eq (B_int C.b_int (AC (CM op_ge ov_ge (CP C.f_weight_at hr0 (AC (V 2) (AC (V 4) (a_nil)))) (V 3)) (a_nil))) (CP C.f_digit hr0 (AC (V 0) (AC (V 4) (a_nil))))))) (a_nil))))
        (ss_nil)))
theorem ok_is_side (C : Ct tb P w K mg base T j) (CL : Ct tb P w K mg base L (2 * LK)) (F : FnD K "is_side" "is_side" st_is_side f fd) : FnOk P w K mg base CX0 (j + 2) f fd ["table", "n", "side", "bit"] (spP tb K 4 (runP 8 (F_is_side L T))) :=
  fnP (N := N_is_side) (Fb := F_is_side L T) F sc_is_side fun cdv A outer s H E hr => by
    have nd := sc_is_side.nd
    have hr0 := hr.mono (show j ≤ j + 1 by omega)
    have hu := room65 hr
    exact ss_cons (s_if (t_not (TR (B_all C.b_all (AC (e_val (LC [("first", 4), ("second", 5)] nd (by kernel_rfl) (I_zip C.b_zip (AC (V 2) (AC (e_slT (V 2) (o_some (e_int)) (o_none)) (a_nil)))) (fun _ _ _ _ _ => GT (GS (GN 4 nd) (GS (GN 5 nd) (gs_nil)))) (fun _ _ _ _ _ => ts_nil) (fun _ _ _ _ _ => CM op_lt ov_lt (IX (V 4) (e_int)) (IX (V 5) (e_int))))) (a_nil))))) (ss_cons (s_ret (e_bl))
        (ss_nil)) (ss_nil))
        (ss_cons (s_ret (B_all C.b_all (AC (e_val (LC [("place", 6), ("count", 7)] nd (by kernel_rfl) (i_seq (V 2)) (fun _ _ _ _ _ => GT (GS (GN 6 nd) (GS (GN 7 nd) (gs_nil)))) (fun _ _ _ _ _ => ts_nil) (fun _ _ _ _ _ => e_and (CH op_le ov_le op_lt ov_lt (e_int) (V 6) (BO op_shl ov_shl (e_int) (V 1))) (e_and (CM (or_eq hu) ov_eq (CP C.f_digit hr0 (AC (V 0) (AC (V 6) (a_nil)))) (V 3)) (e_one (CM op_ge ov_ge (V 7) (e_int))))))) (a_nil))))
        (ss_nil))
theorem ok_takes_balance (C : Ct tb P w K mg base T j) (CL : Ct tb P w K mg base L (2 * LK)) (F : FnD K "takes_balance" "takes_balance" st_takes_balance f fd) : FnOk P w K mg base CX0 (j + 2) f fd ["table", "n", "ups", "downs"] (spP tb K 4 (runP 8 (F_takes_balance L T))) :=
  fnP (N := N_takes_balance) (Fb := F_takes_balance L T) F sc_takes_balance fun cdv A outer s H E hr => by
    have nd := sc_takes_balance.nd
    have hr0 := hr.mono (show j ≤ j + 1 by omega)
    have hu := room65 hr
    exact ss_cons (SE (CP C.f_check_asked_thresholds hr0 (AC (V 0) (AC (V 1) (a_nil)))))
        (ss_cons (s_if (PW.pt (t_or (t_not (TR (CP C.f_is_side hr0 (AC (V 0) (AC (V 1) (AC (V 2) (AC (e_int) (a_nil)))))))) (t_or1 (t_not (TR (CP C.f_is_side hr0 (AC (V 0) (AC (V 1) (AC (V 3) (AC (e_int) (a_nil))))))))))) (ss_cons (s_ret (e_bl))
        (ss_nil)) (ss_nil))
        (ss_cons (SS 4 nd (B_sum C.b_sum (AC (e_val (LC [("_", 5), ("count", 6)] nd (by kernel_rfl) (i_seq (V 2)) (fun _ _ _ _ _ => GT (GS (GN 5 nd) (GS (GN 6 nd) (gs_nil)))) (fun _ _ _ _ _ => ts_nil) (fun _ _ _ _ _ => V 6))) (a_nil))))
        (ss_cons (s_if (PW.pt (t_or (CT op_lt ov_lt (V 4) (e_int)) (t_or1 (CT (or_ne hu) ov_ne (V 4) (B_sum C.b_sum (AC (e_val (LC [("_", 5), ("count", 6)] nd (by kernel_rfl) (i_seq (V 3)) (fun _ _ _ _ _ => GT (GS (GN 5 nd) (GS (GN 6 nd) (gs_nil)))) (fun _ _ _ _ _ => ts_nil) (fun _ _ _ _ _ => V 6))) (a_nil))))))) (ss_cons (s_ret (e_bl))
        (ss_nil)) (ss_nil))
        (ss_cons (s_ret (B_all C.b_all (AC (e_val (LC [("i", 7)] nd (by kernel_rfl) (I_range1 C.b_range (AC (V 1) (a_nil))) (fun _ _ _ _ _ => GN 7 nd) (fun _ _ _ _ _ => ts_nil) (fun _ _ _ _ _ => CM (or_eq hu) ov_eq (CP C.f_of_input hr0 (AC (V 2) (AC (V 7) (a_nil)))) (CP C.f_of_input hr0 (AC (V 3) (AC (V 7) (a_nil))))))) (a_nil))))
        (ss_nil)))))
theorem ok_of_input (C : Ct tb P w K mg base T j) (CL : Ct tb P w K mg base L (2 * LK)) (F : FnD K "of_input" "of_input" st_of_input f fd) : FnOk P w K mg base CX0 (j + 2) f fd ["side", "i"] (spP tb K 2 (runP 4 (F_of_input L T))) :=
  fnP (N := N_of_input) (Fb := F_of_input L T) F sc_of_input fun cdv A outer s H E hr => by
    have nd := sc_of_input.nd
    have hr0 := hr.mono (show j ≤ j + 1 by omega)
    have hu := room65 hr
    exact ss_cons (s_ret (B_sum C.b_sum (AC (e_val (LC [("place", 2), ("count", 3)] nd (by kernel_rfl) (i_seq (V 0)) (fun _ _ _ _ _ => GT (GS (GN 2 nd) (GS (GN 3 nd) (gs_nil)))) (fun _ _ _ _ _ => ts_one (TR (BO op_and ov_and (BO op_shr ov_shr (V 2) (V 1)) (e_int)))) (fun _ _ _ _ _ => V 3))) (a_nil))))
        (ss_nil)
theorem ok_check_asked_classes (C : Ct tb P w K mg base T j) (CL : Ct tb P w K mg base L (2 * LK)) (F : FnD K "check_asked" "check_asked" st_check_asked_classes f fd) : FnOk P w K mg base CX0 (j + 2) f fd ["table", "n"] (spP tb K 2 (runP 2 (F_check_asked_classes L T))) :=
  fnP (N := N_check_asked_classes) (Fb := F_check_asked_classes L T) F sc_check_asked_classes fun cdv A outer s H E hr => by
    have nd := sc_check_asked_classes.nd
    have hr0 := hr.mono (show j ≤ j + 1 by omega)
    have hu := room65 hr
    exact ss_cons (s_if (t_not (CHT op_le ov_le op_le ov_le (e_int) (V 1) (GC C.c_MOST_INPUTS_classes))) (ss_cons (s_no)
        (ss_nil)) (ss_nil))
        (ss_cons (s_if (t_not (CHT op_le ov_le op_le ov_le (e_int) (V 0) (CP C.f_full hr0 (AC (V 1) (a_nil))))) (ss_cons (s_no)
        (ss_nil)) (ss_nil))
        (ss_nil))
theorem ok_source (C : Ct tb P w K mg base T j) (CL : Ct tb P w K mg base L (2 * LK)) (F : FnD K "source" "source" st_source f fd) : FnOk P w K mg base CX0 (j + 2) f fd ["place", "change", "n"] (spP tb K 3 (runP 8 (F_source L T))) :=
  fnP (N := N_source) (Fb := F_source L T) F sc_source fun cdv A outer s H E hr => by
    have nd := sc_source.nd
    have hr0 := hr.mono (show j ≤ j + 1 by omega)
    have hu := room65 hr
    exact ss_cons (SA (V 1) (GT (GS (GN 3 nd) (GS (GN 4 nd) (GS (GN 5 nd) (gs_nil))))))
        (ss_cons (SS 6 nd (BO op_xor ov_xor (V 0) (V 4)))
        (ss_cons (s_ret (B_sum C.b_sum (AC (e_val (LC [("i", 7)] nd (by kernel_rfl) (I_range1 C.b_range (AC (V 2) (a_nil))) (fun _ _ _ _ _ => GN 7 nd) (fun _ _ _ _ _ => ts_one (TR (BO op_and ov_and (BO op_shr ov_shr (V 6) (V 7)) (e_int)))) (fun _ _ _ _ _ => BO op_shl ov_shl (e_int) (IX (V 3) (V 7))))) (a_nil))))
        (ss_nil)))
theorem ok_change_of (C : Ct tb P w K mg base T j) (CL : Ct tb P w K mg base L (2 * LK)) (F : FnD K "change_of" "change_of" st_change_of f fd) : FnOk P w K mg base CX0 (j + 2) f fd ["table", "n", "change"] (spP tb K 3 (runP 5 (F_change_of L T))) :=
  fnP (N := N_change_of) (Fb := F_change_of L T) F sc_change_of fun cdv A outer s H E hr => by
    have nd := sc_change_of.nd
    have hr0 := hr.mono (show j ≤ j + 1 by omega)
    have hu := room65 hr
    exact ss_cons (SC 3 [("place", 4)] tv_val nd (by kernel_rfl) (sw_true rfl rfl rfl (by kernel_rfl)) (I_range1 C.b_range (AC (BO op_shl ov_shl (e_int) (V 1)) (a_nil))) (fun _ _ _ _ _ => GN 4 nd) (fun _ _ _ _ _ => ts_one (CT (or_ne hu) ov_ne (CP C.f_digit hr0 (AC (V 0) (AC (CP C.f_source hr0 (AC (V 4) (AC (V 2) (AC (V 1) (a_nil))))) (a_nil)))) (IX (V 2) (e_int)))) (fun _ _ _ _ _ => V 4))
        (ss_cons (s_ret (CP C.f_table_from hr0 (AC (V 1) (AC (V 3) (a_nil)))))
        (ss_nil))
theorem ok_changed (C : Ct tb P w K mg base T j) (CL : Ct tb P w K mg base L (2 * LK)) (F : FnD K "changed" "changed" st_changed f fd) : FnOk P w K mg base CX0 (j + 2) f fd ["table", "n", "change"] (spP tb K 3 (runP 6 (F_changed L T))) :=
  fnP (N := N_changed) (Fb := F_changed L T) F sc_changed fun cdv A outer s H E hr => by
    have nd := sc_changed.nd
    have hr0 := hr.mono (show j ≤ j + 1 by omega)
    have hu := room65 hr
    exact ss_cons (SE (CP C.f_check_asked_classes hr0 (AC (V 0) (AC (V 1) (a_nil)))))
        (ss_cons (SA (V 2) (GT (GS (GN 3 nd) (GS (GN 4 nd) (GS (GN 5 nd) (gs_nil))))))
        (ss_cons (s_if (PW.pt (t_or (CT (or_ne hu) ov_ne (e_val (B_sortedQ C.b_sorted (AC (V 3) (a_nil)))) (e_val (B_listRg C.b_list (RG1 C.b_range (V 1))))) (t_or (t_not (CHT op_le ov_le op_lt ov_lt (e_int) (V 4) (BO op_shl ov_shl (e_int) (V 1)))) (t_or1 (CT (or_nin hu) ov_nin (V 5) (e_tup (AC (e_int) (AC (e_int) (a_nil))))))))) (ss_cons (s_no)
        (ss_nil)) (ss_nil))
        (ss_cons (s_ret (CP C.f_change_of hr0 (AC (V 0) (AC (V 1) (AC (V 2) (a_nil))))))
        (ss_nil))))
theorem ok__law_draws (C : Ct tb P w K mg base T j) (CL : Ct tb P w K mg base L (2 * LK)) (F : FnD K "_law_draws" "_law_draws" st__law_draws f fd) : FnOk P w K mg base CX0 (j + 2) f fd ["script", "count"] (spP tb K 2 (runP 9 (F__law_draws L T))) :=
  fnP (N := N__law_draws) (Fb := F__law_draws L T) F sc__law_draws fun cdv A outer s H E hr => by
    have nd := sc__law_draws.nd
    have hr0 := hr.mono (show j ≤ j + 1 by omega)
    have hu := room65 hr
    exact ss_cons (SS 2 nd (e_obj (B_list C.b_list (AC (V 0) (a_nil)))))
        (ss_cons (s_if (CT (or_eq hu) ov_eq (B_len C.b_len (AC (V 2) (a_nil))) (e_int)) (ss_cons (SS 2 nd (e_obj (e_lst (AC (e_int) (a_nil)))))
        (ss_nil)) (ss_nil))
        (ss_cons (SS 3 nd (e_obj (e_lst (a_nil))))
        (ss_cons (SS 4 nd (e_int))
        (ss_cons (SO .never (I_range1 C.b_range (AC (V 1) (a_nil))) (GN 5 nd) (ss_cons (SS 6 nd (BO op_mod ov_mod (V 5) (B_len C.b_len (AC (V 2) (a_nil)))))
        (ss_cons (SS 7 nd (IX (V 2) (V 6)))
        (ss_cons (SS 4 nd (BO op_mod ov_mod (B_int C.b_int (AC (BO or_add ov_add (BO or_add ov_add (BO or_add ov_add (BO op_mul ov_mul (V 4) (e_int)) (BO op_mul ov_mul (BO op_mod ov_mod (B_int C.b_int (AC (V 7) (a_nil))) (e_int)) (e_int))) (BO op_mul ov_mul (V 5) (e_int))) (e_int)) (a_nil))) (e_int)))
        (ss_cons (SS 8 nd (BO op_mod ov_mod (B_int C.b_int (AC (BO or_add ov_add (BO or_add ov_add (BO op_mul ov_mul (V 4) (V 4)) (BO op_mul ov_mul (e_int) (V 4))) (V 5)) (a_nil))) (e_int)))
        (ss_cons (s_if (CT op_ge ov_ge (V 7) (BO op_pow ov_pow (e_int) (e_int))) (ss_cons (SE (M_append (V 3) (BO op_mod ov_mod (B_int C.b_int (AC (V 7) (a_nil))) (e_int))))
        (ss_cons (SL (V 2) (V 6) (BO op_fdiv ov_div (V 7) (e_int)))
        (ss_nil))) (ss_cons (SE (M_append (V 3) (BO op_mod ov_mod (B_int C.b_int (AC (V 8) (a_nil))) (e_int))))
        (ss_nil)))
        (ss_nil)))))))
        (ss_cons (SE (M_reverse (V 3)))
        (ss_cons (s_ret (V 3))
        (ss_nil)))))))
theorem ok__law_take (C : Ct tb P w K mg base T j) (CL : Ct tb P w K mg base L (2 * LK)) (F : FnD K "_law_take" "_law_take" st__law_take f fd) : FnOk P w K mg base CX0 (j + 2) f fd ["draws", "limit"] (spS tb P w K 2 (runS 2 (F__law_take L T))) :=
  fnS (N := N__law_take) (Fb := F__law_take L T) F sc__law_take fun cdv A outer s H E hr => by
    have nd := sc__law_take.nd
    have hr0 := hr.mono (show j ≤ j + 1 by omega)
    have hu := room65 hr
    exact ss_cons (s_if (CT (or_eq hu) ov_eq (B_len C.b_len (AC (V 0) (a_nil))) (e_int)) (ss_cons (s_ret (e_int))
        (ss_nil)) (ss_nil))
        (ss_cons (s_ret (BO op_mod ov_mod (B_int C.b_int (AC (M_pop (V 0)) (a_nil))) (V 1)))
        (ss_nil))
theorem ok__law_same (C : Ct tb P w K mg base T j) (CL : Ct tb P w K mg base L (2 * LK)) (F : FnD K "_law_same" "_law_same" st__law_same f fd) : FnOk P w K mg base CX0 (j + 2) f fd ["found", "due"] (spP tb K 2 (runP 3 (F__law_same L T))) :=
  fnP (N := N__law_same) (Fb := F__law_same L T) F sc__law_same fun cdv A outer s H E hr => by
    have nd := sc__law_same.nd
    have hr0 := hr.mono (show j ≤ j + 1 by omega)
    have hu := room65 hr
    exact ss_cons (s_if (CT op_isN ov_isN (V 1) (e_non)) (ss_cons (s_ret (CM op_isN ov_isN (V 0) (e_non)))
        (ss_nil)) (ss_nil))
        (ss_cons (s_if (TR (B_isi C.b_isinstance (AC (V 1) (AC (TY .bool C.b_bool) (a_nil))))) (ss_cons (s_ret (e_and (B_isi C.b_isinstance (AC (V 0) (AC (TY .bool C.b_bool) (a_nil)))) (e_one (CM (or_eq hu) ov_eq (V 0) (V 1)))))
        (ss_nil)) (ss_nil))
        (ss_cons (s_if (TR (B_isi C.b_isinstance (AC (V 1) (AC (TY .int C.b_int) (a_nil))))) (ss_cons (s_ret (e_and (B_isi C.b_isinstance (AC (V 0) (AC (TY .int C.b_int) (a_nil)))) (e_and (e_not (B_isi C.b_isinstance (AC (V 0) (AC (TY .bool C.b_bool) (a_nil))))) (e_one (CM (or_eq hu) ov_eq (V 0) (V 1))))))
        (ss_nil)) (ss_nil))
        (ss_cons (s_if (TR (B_isi C.b_isinstance (AC (V 1) (AC (TY .str C.b_str) (a_nil))))) (ss_cons (s_ret (e_and (B_isi C.b_isinstance (AC (V 0) (AC (TY .str C.b_str) (a_nil)))) (e_one (CM (or_eq hu) ov_eq (V 0) (V 1)))))
        (ss_nil)) (ss_nil))
        (ss_cons (s_if (TR (B_isi C.b_isinstance (AC (V 1) (AC (TY .dct C.b_dict) (a_nil))))) (ss_cons (s_ret (e_and (B_isi C.b_isinstance (AC (V 0) (AC (TY .dct C.b_dict) (a_nil)))) (e_one (CM (or_eq hu) ov_eq (V 0) (V 1)))))
        (ss_nil)) (ss_nil))
        (ss_cons (s_if (PW.pt (t_or (CT (or_ne hu) ov_ne (B_isi C.b_isinstance (AC (V 1) (AC (TY .tup C.b_tuple) (a_nil)))) (B_isi C.b_isinstance (AC (V 0) (AC (TY .tup C.b_tuple) (a_nil))))) (t_or1 (CT (or_ne hu) ov_ne (B_isi C.b_isinstance (AC (V 1) (AC (TY .lst C.b_list) (a_nil)))) (B_isi C.b_isinstance (AC (V 0) (AC (TY .lst C.b_list) (a_nil)))))))) (ss_cons (s_ret (e_bl))
        (ss_nil)) (ss_nil))
        (ss_cons (s_ret (e_and (CM (or_eq hu) ov_eq (B_len C.b_len (AC (V 0) (a_nil))) (B_len C.b_len (AC (V 1) (a_nil)))) (e_one (B_all C.b_all (AC (e_val (LC [("k", 2)] nd (by kernel_rfl) (I_range1 C.b_range (AC (B_len C.b_len (AC (V 1) (a_nil))) (a_nil))) (fun _ _ _ _ _ => GN 2 nd) (fun _ _ _ _ _ => ts_nil) (fun _ _ _ _ _ => CP C.f__law_same hr0 (AC (IX (V 0) (V 2)) (AC (IX (V 1) (V 2)) (a_nil)))))) (a_nil))))))
        (ss_nil)))))))
theorem ok__law_power (C : Ct tb P w K mg base T j) (CL : Ct tb P w K mg base L (2 * LK)) (F : FnD K "_law_power" "_law_power" st__law_power f fd) : FnOk P w K mg base CX0 (j + 2) f fd ["n"] (spP tb K 1 (runP 3 (F__law_power L T))) :=
  fnP (N := N__law_power) (Fb := F__law_power L T) F sc__law_power fun cdv A outer s H E hr => by
    have nd := sc__law_power.nd
    have hr0 := hr.mono (show j ≤ j + 1 by omega)
    have hu := room65 hr
    exact ss_cons (SS 1 nd (e_int))
        (ss_cons (SO .never (I_range1 C.b_range (AC (V 0) (a_nil))) (GN 2 nd) (ss_cons (SS 1 nd (BO op_mul ov_mul (V 1) (e_int)))
        (ss_nil)))
        (ss_cons (s_ret (V 1))
        (ss_nil)))
theorem ok__law_table (C : Ct tb P w K mg base T j) (CL : Ct tb P w K mg base L (2 * LK)) (F : FnD K "_law_table" "_law_table" st__law_table f fd) : FnOk P w K mg base CX0 (j + 2) f fd ["draws", "n"] (spS tb P w K 2 (runS 6 (F__law_table L T))) :=
  fnS (N := N__law_table) (Fb := F__law_table L T) F sc__law_table fun cdv A outer s H E hr => by
    have nd := sc__law_table.nd
    have hr0 := hr.mono (show j ≤ j + 1 by omega)
    have hu := room65 hr
    exact ss_cons (SP 2 3 nd (AC (e_int) (AC (CS C.f__law_take hr0 (AC (V 0) (AC (e_int) (a_nil)))) (a_nil))))
        (ss_cons (SO .never (I_range1 C.b_range (AC (CP C.f__law_power hr0 (AC (V 1) (a_nil))) (a_nil))) (GN 4 nd) (ss_cons (SS 5 nd (e_if (CT op_lt ov_lt (V 3) (e_int)) (CS C.f__law_take hr0 (AC (V 0) (AC (e_int) (a_nil)))) (e_if (CT (or_eq hu) ov_eq (V 3) (e_int)) (B_int C.b_int (AC (CM (or_eq hu) ov_eq (CS C.f__law_take hr0 (AC (V 0) (AC (e_int) (a_nil)))) (e_int)) (a_nil))) (B_int C.b_int (AC (CM op_gt ov_gt (CS C.f__law_take hr0 (AC (V 0) (AC (e_int) (a_nil)))) (e_int)) (a_nil))))))
        (ss_cons (SS 2 nd (BO or_add ov_add (BO op_mul ov_mul (V 2) (e_int)) (V 5)))
        (ss_nil))))
        (ss_cons (s_ret (V 2))
        (ss_nil)))
theorem ok__law_digit (C : Ct tb P w K mg base T j) (CL : Ct tb P w K mg base L (2 * LK)) (F : FnD K "_law_digit" "_law_digit" st__law_digit f fd) : FnOk P w K mg base CX0 (j + 2) f fd ["table", "place"] (spP tb K 2 (runP 2 (F__law_digit L T))) :=
  fnP (N := N__law_digit) (Fb := F__law_digit L T) F sc__law_digit fun cdv A outer s H E hr => by
    have nd := sc__law_digit.nd
    have hr0 := hr.mono (show j ≤ j + 1 by omega)
    have hu := room65 hr
    exact ss_cons (s_ret (BO op_mod ov_mod (B_int C.b_int (AC (BO op_fdiv ov_div (V 0) (CP C.f__law_power hr0 (AC (V 1) (a_nil)))) (a_nil))) (e_int)))
        (ss_nil)
theorem ok__law_bits (C : Ct tb P w K mg base T j) (CL : Ct tb P w K mg base L (2 * LK)) (F : FnD K "_law_bits" "_law_bits" st__law_bits f fd) : FnOk P w K mg base CX0 (j + 2) f fd ["place", "n"] (spP tb K 2 (runP 3 (F__law_bits L T))) :=
  fnP (N := N__law_bits) (Fb := F__law_bits L T) F sc__law_bits fun cdv A outer s H E hr => by
    have nd := sc__law_bits.nd
    have hr0 := hr.mono (show j ≤ j + 1 by omega)
    have hu := room65 hr
    exact ss_cons (s_ret (B_tuple C.b_tuple (AC (e_val (LC [("i", 2)] nd (by kernel_rfl) (I_range1 C.b_range (AC (V 1) (a_nil))) (fun _ _ _ _ _ => GN 2 nd) (fun _ _ _ _ _ => ts_nil) (fun _ _ _ _ _ => BO op_mod ov_mod (B_int C.b_int (AC (BO op_fdiv ov_div (V 0) (CP C.f__law_power hr0 (AC (V 2) (a_nil)))) (a_nil))) (e_int)))) (a_nil))))
        (ss_nil)
theorem ok__law_from (C : Ct tb P w K mg base T j) (CL : Ct tb P w K mg base L (2 * LK)) (F : FnD K "_law_from" "_law_from" st__law_from f fd) : FnOk P w K mg base CX0 (j + 2) f fd ["n", "is_one"] (spF tb K 2 (runF 4 (F__law_from L T))) :=
  fnF (N := N__law_from) (Fb := F__law_from L T) F sc__law_from fun cdv A outer s H E hr => by
    have nd := sc__law_from.nd
    have hr0 := hr.mono (show j ≤ j + 1 by omega)
    have hu := room65 hr
    exact ss_cons (SS 2 nd (e_int))
        (ss_cons (SO .never (I_range3 C.b_range (AC (BO op_sub ov_sub (CP C.f__law_power hr0 (AC (V 0) (a_nil))) (e_int)) (AC (e_neg (e_int)) (AC (e_neg (e_int)) (a_nil))))) (GN 3 nd) (ss_cons (SS 2 nd (BO or_add ov_add (BO op_mul ov_mul (V 2) (e_int)) (e_if (TR (CF 1 C.fns (fun hb => hr.mono (C.room hb)) (AC (V 3) (a_nil)))) (e_int) (e_int))))
        (ss_nil)))
        (ss_cons (s_ret (V 2))
        (ss_nil)))
theorem ok__law_squeezed (C : Ct tb P w K mg base T j) (CL : Ct tb P w K mg base L (2 * LK)) (F : FnD K "_law_squeezed" "_law_squeezed" st__law_squeezed f fd) : FnOk P w K mg base CX0 (j + 2) f fd ["table", "n", "i"] (spP tb K 3 (runP 6 (F__law_squeezed L T))) :=
  fnP (N := N__law_squeezed) (Fb := F__law_squeezed L T) F sc__law_squeezed fun cdv A outer s H E hr => by
    have nd := sc__law_squeezed.nd
    have hr0 := hr.mono (show j ≤ j + 1 by omega)
    have hu := room65 hr
    exact ss_cons (SS 3 nd (e_int))
        (ss_cons (SO .never (I_range3 C.b_range (AC (BO op_sub ov_sub (CP C.f__law_power hr0 (AC (BO op_sub ov_sub (V 1) (e_int)) (a_nil))) (e_int)) (AC (e_neg (e_int)) (AC (e_neg (e_int)) (a_nil))))) (GN 4 nd) (ss_cons (SS 5 nd (BO op_mod ov_mod (B_int C.b_int (AC (V 4) (a_nil))) (CP C.f__law_power hr0 (AC (V 2) (a_nil)))))
        (ss_cons (SS 3 nd (BO or_add ov_add (BO op_mul ov_mul (V 3) (e_int)) (CP C.f__law_digit hr0 (AC (V 0) (AC (BO or_add ov_add (BO op_mul ov_mul (BO op_sub ov_sub (V 4) (V 5)) (e_int)) (V 5)) (a_nil))))))
        (ss_nil))))
        (ss_cons (s_ret (V 3))
        (ss_nil)))
theorem ok_law (C : Ct tb P w K mg base T j) (CL : Ct tb P w K mg base L (2 * LK)) (F : FnD K "law" "law" st_law (He.fAd K ("law", none)) fd) : FnOk P w K mg base CX0 (j + 2) (He.fAd K ("law", none)) fd ["script"] (spP tb K 1 (runP 25 (F_law L T))) :=
  fnPc (N := N_law) (Fb := F_law L T) F sc_law fun A outer s H E hr => by
    have nd := sc_law.nd
    have hr0 := hr.mono (show j ≤ j + 1 by omega)
    have hu := room65 hr
    exact ss_cons (SS 1 nd (e_obj (LP C.f__law_draws hr0 (AC (V 0) (AC (e_int) (a_nil))))))
        (ss_cons (SC 2 [("table", 7)] tv_val nd (by kernel_rfl) (sw_true rfl rfl rfl (by kernel_rfl)) (I_range1 C.b_range (AC (e_int) (a_nil))) (fun _ _ _ _ _ => GN 7 nd) (fun _ _ _ _ _ => ts_one (CT (or_eq hu) ov_eq (IX (CP C.f_threshold hr0 (AC (V 7) (AC (e_int) (a_nil)))) (e_int)) (e_str))) (fun _ _ _ _ _ => V 7))
        (ss_cons (s_if (CT (or_ne hu) ov_ne (V 2) (e_val (e_lst (AC (e_int) (AC (e_int) (a_nil)))))) (ss_cons (s_ret (e_bl))
        (ss_nil)) (ss_nil))
        (ss_cons (SO .never (I_range1 C.b_range (AC (e_int) (a_nil))) (GN 3 nd) (ss_cons (SS 4 nd (BO or_add ov_add (e_int) (CS C.f__law_take hr0 (AC (V 1) (AC (e_int) (a_nil))))))
        (ss_cons (s_if (CT op_lt ov_lt (V 3) (e_int)) (ss_cons (SA (e_tup (AC (B_tuple C.b_tuple (AC (e_val (LC [("k", 21)] nd (by kernel_rfl) (I_range1 C.b_range (AC (V 4) (a_nil))) (fun _ _ _ _ _ => GN 21 nd) (fun _ _ _ _ _ => ts_nil) (fun _ _ _ _ _ => BO op_sub ov_sub (CS C.f__law_take hr0 (AC (V 1) (AC (e_int) (a_nil)))) (e_int)))) (a_nil))) (AC (BO op_sub ov_sub (CS C.f__law_take hr0 (AC (V 1) (AC (e_int) (a_nil)))) (e_int)) (a_nil)))) (GT (GS (GN 5 nd) (GS (GN 6 nd) (gs_nil)))))
        (ss_cons (SS 7 nd (CC C.f__law_from hr0 (KC (V 4) (KM (LM C.t_law) (ac_nil))) (Paired.cons (psi_lam (N := ["place", "weights", "n", "bound", "a", "b"]) (ps := ["place"]) (fr := ["weights", "n", "bound"]) (js := [5, 4, 6]) C.mks (NdefX.nscope_by (by decide +kernel)) (by kernel_rfl) rfl (fun _ _ _ _ _ us hl => match us, hl with | [_], _ => rfl) (fun lq lcl lc lf A outer s H E hr => by
          have nd : (["place", "weights", "n", "bound", "a", "b"] : List Str).Nodup := by decide +kernel
          have hr0 := hr.mono (show 2 * LK ≤ 2 * LK + 1 by omega)
          have hu := room65 hr
          exact CM op_ge ov_ge (B_sum CL.b_sum (AC (e_val (LC [("a", 4), ("b", 5)] nd (by kernel_rfl) (I_zip CL.b_zip (AC (V 1) (AC (CP CL.f__law_bits hr0 (AC (V 0) (AC (V 2) (a_nil)))) (a_nil)))) (fun _ _ _ _ _ => GT (GS (GN 4 nd) (GS (GN 5 nd) (gs_nil)))) (fun _ _ _ _ _ => ts_nil) (fun _ _ _ _ _ => BO op_mul ov_mul (V 4) (V 5)))) (a_nil))) (V 3))) (Paired.nil))))
        (ss_nil))) (ss_cons (SS 7 nd (CS C.f__law_table hr0 (AC (V 1) (AC (V 4) (a_nil)))))
        (ss_nil)))
        (ss_cons (SS 8 nd (CP C.f_threshold hr0 (AC (V 7) (AC (V 4) (a_nil)))))
        (ss_cons (SS 9 nd (BO op_sub ov_sub (CP C.f_full hr0 (AC (V 4) (a_nil))) (V 7)))
        (ss_cons (SS 10 nd (B_tupRg C.b_tuple (RG1 C.b_range (V 4))))
        (ss_cons (SS 11 nd (CP C.f_changed hr0 (AC (V 7) (AC (V 4) (AC (e_tup (AC (V 10) (AC (BO op_sub ov_sub (CP C.f__law_power hr0 (AC (V 4) (a_nil))) (e_int)) (AC (e_int) (a_nil))))) (a_nil))))))
        (ss_cons (s_if (PW.pt (t_or (CT (or_ne hu) ov_ne (IX (CP C.f_threshold hr0 (AC (V 9) (AC (V 4) (a_nil)))) (e_int)) (IX (V 8) (e_int))) (t_or1 (CT (or_ne hu) ov_ne (IX (CP C.f_threshold hr0 (AC (V 11) (AC (V 4) (a_nil)))) (e_int)) (IX (V 8) (e_int)))))) (ss_cons (s_ret (e_bl))
        (ss_nil)) (ss_nil))
        (ss_cons (s_if (CT (or_eq hu) ov_eq (IX (V 8) (e_int)) (e_str)) (ss_cons (s_if (PW.pt (t_or (CT op_notBl ov_notB (CP C.f_takes_balance hr0 (AC (V 9) (AC (V 4) (AC (IX (V 8) (e_int)) (AC (IX (V 8) (e_int)) (a_nil)))))) (e_bl)) (t_or1 (TR (CP C.f_takes_weights hr0 (AC (V 7) (AC (V 4) (AC (BO or_mulT ov_mulT (e_tup (AC (e_int) (a_nil))) (V 4)) (AC (e_int) (a_nil)))))))))) (ss_cons (s_ret (e_bl))
        (ss_nil)) (ss_nil))
        (ss_cons (SC 12 [("side", 16)] tv_val nd (by kernel_rfl) (sw_true rfl rfl rfl (by kernel_rfl)) (i_seq (e_slT (V 8) (o_some (e_int)) (o_none))) (fun _ _ _ _ _ => GN 16 nd) (fun _ _ _ _ _ => ts_nil) (fun _ _ _ _ _ => B_tuple C.b_tuple (AC (e_val (LC [("place", 22), ("count", 23)] nd (by kernel_rfl) (i_seq (V 16)) (fun _ _ _ _ _ => GT (GS (GN 22 nd) (GS (GN 23 nd) (gs_nil)))) (fun _ _ _ _ _ => ts_nil) (fun _ _ _ _ _ => e_tup (AC (V 22) (AC (BO op_mul ov_mul (e_int) (V 23)) (a_nil)))))) (a_nil))))
        (ss_cons (s_if (PW.pt (t_or (CT op_notBl ov_notB (CP C.f_takes_balance hr0 (AC (V 7) (AC (V 4) (AC (IX (V 12) (e_int)) (AC (IX (V 12) (e_int)) (a_nil)))))) (e_bl)) (t_or1 (TR (CP C.f_takes_balance hr0 (AC (V 7) (AC (V 4) (AC (IX (V 12) (e_int)) (AC (IX (V 8) (e_int)) (a_nil)))))))))) (ss_cons (s_ret (e_bl))
        (ss_nil)) (ss_nil))
        (ss_cons (SS 13 nd (CS C.f__law_take hr0 (AC (V 1) (AC (CP C.f__law_power hr0 (AC (V 4) (a_nil))) (a_nil)))))
        (ss_cons (SS 14 nd (CP C.f_changed hr0 (AC (V 7) (AC (V 4) (AC (e_tup (AC (V 10) (AC (V 13) (AC (e_int) (a_nil))))) (a_nil))))))
        (ss_cons (SS 15 nd (e_obj (e_lst (a_nil))))
        (ss_cons (SO .never (i_seq (e_slT (V 8) (o_some (e_int)) (o_none))) (GN 16 nd) (ss_cons (SE (M_append (V 15) (B_tuple C.b_tuple (AC (e_val (B_sortedL hu C.b_sorted (AC (e_val (LC [("place", 22), ("count", 23)] nd (by kernel_rfl) (i_seq (V 16)) (fun _ _ _ _ _ => GT (GS (GN 22 nd) (GS (GN 23 nd) (gs_nil)))) (fun _ _ _ _ _ => ts_nil) (fun _ _ _ _ _ => e_tup (AC (B_sum C.b_sum (AC (e_val (LC [("i", 17)] nd (by kernel_rfl) (I_range1 C.b_range (AC (V 4) (a_nil))) (fun _ _ _ _ _ => GN 17 nd) (fun _ _ _ _ _ => ts_one (CT (or_ne hu) ov_ne (IX (CP C.f__law_bits hr0 (AC (V 22) (AC (V 4) (a_nil)))) (V 17)) (IX (CP C.f__law_bits hr0 (AC (V 13) (AC (V 4) (a_nil)))) (V 17)))) (fun _ _ _ _ _ => CP C.f__law_power hr0 (AC (V 17) (a_nil))))) (a_nil))) (AC (V 23) (a_nil)))))) (a_nil)))) (a_nil)))))
        (ss_nil)))
        (ss_cons (s_if (CT op_notBl ov_notB (CP C.f_takes_balance hr0 (AC (V 14) (AC (V 4) (AC (IX (V 15) (e_int)) (AC (IX (V 15) (e_int)) (a_nil)))))) (e_bl)) (ss_cons (s_ret (e_bl))
        (ss_nil)) (ss_nil))
        (ss_cons (s_cont)
        (ss_nil)))))))))) (ss_nil))
        (ss_cons (SA (e_tup (AC (IX (V 8) (e_int)) (AC (IX (V 8) (e_int)) (a_nil)))) (GT (GS (GN 5 nd) (GS (GN 6 nd) (gs_nil)))))
        (ss_cons (SO .never (I_range1 C.b_range (AC (V 4) (a_nil))) (GN 17 nd) (ss_cons (s_if (PW.pt (t_and (t_not (TR (CP C.f_rises hr0 (AC (V 7) (AC (V 4) (AC (V 17) (a_nil))))))) (t_and1 (t_not (TR (CP C.f_falls hr0 (AC (V 7) (AC (V 4) (AC (V 17) (a_nil)))))))))) (ss_cons (s_ret (e_bl))
        (ss_nil)) (ss_nil))
        (ss_cons (s_if (PW.pt (t_or (PW.pt (t_and (CT op_gt ov_gt (IX (V 5) (V 17)) (e_int)) (t_and1 (t_not (TR (CP C.f_rises hr0 (AC (V 7) (AC (V 4) (AC (V 17) (a_nil)))))))))) (t_or (PW.pt (t_and (CT op_lt ov_lt (IX (V 5) (V 17)) (e_int)) (t_and1 (t_not (TR (CP C.f_falls hr0 (AC (V 7) (AC (V 4) (AC (V 17) (a_nil)))))))))) (t_or1 (PW.pt (t_and (CT (or_eq hu) ov_eq (IX (V 5) (V 17)) (e_int)) (t_and1 (CT (or_in hu) ov_in (V 17) (CP C.f_support hr0 (AC (V 7) (AC (V 4) (a_nil)))))))))))) (ss_cons (s_ret (e_bl))
        (ss_nil)) (ss_nil))
        (ss_cons (SO .never (i_seq (e_tup (AC (e_int) (AC (e_int) (a_nil))))) (GN 18 nd) (ss_cons (SS 19 nd (CP C.f__law_squeezed hr0 (AC (CP C.f_fixed hr0 (AC (V 7) (AC (V 4) (AC (V 17) (AC (V 18) (a_nil)))))) (AC (V 4) (AC (V 17) (a_nil))))))
        (ss_cons (SS 20 nd (BO or_add ov_add (e_slT (V 5) (o_none) (o_some (V 17))) (e_slT (V 5) (o_some (BO or_add ov_add (V 17) (e_int))) (o_none))))
        (ss_cons (s_if (PW.pt (t_or (CT (or_ne hu) ov_ne (IX (CP C.f_threshold hr0 (AC (V 19) (AC (BO op_sub ov_sub (V 4) (e_int)) (a_nil)))) (e_int)) (e_str)) (t_or1 (CT op_notBl ov_notB (CP C.f_takes_weights hr0 (AC (V 19) (AC (BO op_sub ov_sub (V 4) (e_int)) (AC (V 20) (AC (BO op_sub ov_sub (V 6) (BO op_mul ov_mul (V 18) (IX (V 5) (V 17)))) (a_nil)))))) (e_bl))))) (ss_cons (s_ret (e_bl))
        (ss_nil)) (ss_nil))
        (ss_nil)))))
        (ss_nil)))))
        (ss_cons (SS 21 nd (BO or_add ov_add (e_int) (CS C.f__law_take hr0 (AC (V 1) (AC (e_int) (a_nil))))))
        (ss_cons (s_if (CT op_notBl ov_notB (CP C.f_takes_weights hr0 (AC (V 7) (AC (V 4) (AC (B_tuple C.b_tuple (AC (e_val (LC [("weight", 24)] nd (by kernel_rfl) (i_seq (V 5)) (fun _ _ _ _ _ => GN 24 nd) (fun _ _ _ _ _ => ts_nil) (fun _ _ _ _ _ => BO op_mul ov_mul (V 21) (V 24)))) (a_nil))) (AC (BO op_mul ov_mul (V 21) (V 6)) (a_nil)))))) (e_bl)) (ss_cons (s_ret (e_bl))
        (ss_nil)) (ss_nil))
        (ss_cons (s_if (CT op_notBl ov_notB (CP C.f_takes_weights hr0 (AC (V 9) (AC (V 4) (AC (B_tuple C.b_tuple (AC (e_val (LC [("weight", 24)] nd (by kernel_rfl) (i_seq (V 5)) (fun _ _ _ _ _ => GN 24 nd) (fun _ _ _ _ _ => ts_nil) (fun _ _ _ _ _ => BO op_sub ov_sub (e_int) (V 24)))) (a_nil))) (AC (BO op_sub ov_sub (e_int) (V 6)) (a_nil)))))) (e_bl)) (ss_cons (s_ret (e_bl))
        (ss_nil)) (ss_nil))
        (ss_nil)))))))))))))))
        (ss_cons (s_ret (e_bl))
        (ss_nil)))))
end
/-! ### the head -/
def d_full : He.DefD := ⟨("full", none), "full", "full", defArgs st_full, defBody st_full, defScope st_full, [], []⟩
def d_variable : He.DefD := ⟨("variable", none), "variable", "variable", defArgs st_variable, defBody st_variable, defScope st_variable, [], []⟩
def d_digit : He.DefD := ⟨("digit", none), "digit", "digit", defArgs st_digit, defBody st_digit, defScope st_digit, [], []⟩
def d_fixed : He.DefD := ⟨("fixed", none), "fixed", "fixed", defArgs st_fixed, defBody st_fixed, defScope st_fixed, [], []⟩
def d_support : He.DefD := ⟨("support", none), "support", "support", defArgs st_support, defBody st_support, defScope st_support, [], []⟩
def d_rises : He.DefD := ⟨("rises", none), "rises", "rises", defArgs st_rises, defBody st_rises, defScope st_rises, [], []⟩
def d_falls : He.DefD := ⟨("falls", none), "falls", "falls", defArgs st_falls, defBody st_falls, defScope st_falls, [], []⟩
def d_places : He.DefD := ⟨("places", none), "places", "places", defArgs st_places, defBody st_places, defScope st_places, [], []⟩
def d_table_from : He.DefD := ⟨("table_from", none), "table_from", "table_from", defArgs st_table_from, defBody st_table_from, defScope st_table_from, [], []⟩
def d_check_asked_thresholds : He.DefD := ⟨("check_asked_thresholds", none), "check_asked", "check_asked", defArgs st_check_asked_thresholds, defBody st_check_asked_thresholds, defScope st_check_asked_thresholds, [], []⟩
def d_weight_at : He.DefD := ⟨("weight_at", none), "weight_at", "weight_at", defArgs st_weight_at, defBody st_weight_at, defScope st_weight_at, [], []⟩
def d_all_weights : He.DefD := ⟨("all_weights", none), "all_weights", "all_weights", defArgs st_all_weights, defBody st_all_weights, defScope st_all_weights, [], []⟩
def d_bound_of : He.DefD := ⟨("bound_of", none), "bound_of", "bound_of", defArgs st_bound_of, defBody st_bound_of, defScope st_bound_of, [], []⟩
def d_pair_sums : He.DefD := ⟨("pair_sums", none), "pair_sums", "pair_sums", defArgs st_pair_sums, defBody st_pair_sums, defScope st_pair_sums, [], []⟩
def d_side_of : He.DefD := ⟨("side_of", none), "side_of", "side_of", defArgs st_side_of, defBody st_side_of, defScope st_side_of, [], []⟩
def d_balance_of : He.DefD := ⟨("balance_of", none), "balance_of", "balance_of", defArgs st_balance_of, defBody st_balance_of, defScope st_balance_of, [], []⟩
def d_threshold : He.DefD := ⟨("threshold", none), "threshold", "threshold", defArgs st_threshold, defBody st_threshold, defScope st_threshold, [], []⟩
def d_takes_weights : He.DefD := ⟨("takes_weights", none), "takes_weights", "takes_weights", defArgs st_takes_weights, defBody st_takes_weights, defScope st_takes_weights, [], []⟩
def d_is_side : He.DefD := ⟨("is_side", none), "is_side", "is_side", defArgs st_is_side, defBody st_is_side, defScope st_is_side, [], []⟩
def d_takes_balance : He.DefD := ⟨("takes_balance", none), "takes_balance", "takes_balance", defArgs st_takes_balance, defBody st_takes_balance, defScope st_takes_balance, [], []⟩
def d_of_input : He.DefD := ⟨("of_input", none), "of_input", "of_input", defArgs st_of_input, defBody st_of_input, defScope st_of_input, [], []⟩
def d_check_asked_classes : He.DefD := ⟨("check_asked_classes", none), "check_asked", "check_asked", defArgs st_check_asked_classes, defBody st_check_asked_classes, defScope st_check_asked_classes, [], []⟩
def d_source : He.DefD := ⟨("source", none), "source", "source", defArgs st_source, defBody st_source, defScope st_source, [], []⟩
def d_change_of : He.DefD := ⟨("change_of", none), "change_of", "change_of", defArgs st_change_of, defBody st_change_of, defScope st_change_of, [], []⟩
def d_changed : He.DefD := ⟨("changed", none), "changed", "changed", defArgs st_changed, defBody st_changed, defScope st_changed, [], []⟩
def d__law_draws : He.DefD := ⟨("_law_draws", none), "_law_draws", "_law_draws", defArgs st__law_draws, defBody st__law_draws, defScope st__law_draws, [], []⟩
def d__law_take : He.DefD := ⟨("_law_take", none), "_law_take", "_law_take", defArgs st__law_take, defBody st__law_take, defScope st__law_take, [], []⟩
def d__law_same : He.DefD := ⟨("_law_same", none), "_law_same", "_law_same", defArgs st__law_same, defBody st__law_same, defScope st__law_same, [], []⟩
def d__law_power : He.DefD := ⟨("_law_power", none), "_law_power", "_law_power", defArgs st__law_power, defBody st__law_power, defScope st__law_power, [], []⟩
def d__law_table : He.DefD := ⟨("_law_table", none), "_law_table", "_law_table", defArgs st__law_table, defBody st__law_table, defScope st__law_table, [], []⟩
def d__law_digit : He.DefD := ⟨("_law_digit", none), "_law_digit", "_law_digit", defArgs st__law_digit, defBody st__law_digit, defScope st__law_digit, [], []⟩
def d__law_bits : He.DefD := ⟨("_law_bits", none), "_law_bits", "_law_bits", defArgs st__law_bits, defBody st__law_bits, defScope st__law_bits, [], []⟩
def d__law_from : He.DefD := ⟨("_law_from", none), "_law_from", "_law_from", defArgs st__law_from, defBody st__law_from, defScope st__law_from, [], []⟩
def d__law_squeezed : He.DefD := ⟨("_law_squeezed", none), "_law_squeezed", "_law_squeezed", defArgs st__law_squeezed, defBody st__law_squeezed, defScope st__law_squeezed, [], []⟩
def d_law : He.DefD := ⟨("law", none), "law", "law", defArgs st_law, defBody st_law, defScope st_law, [], []⟩
def fn : List He.DefD := [d_full, d_variable, d_digit, d_fixed, d_support, d_rises, d_falls, d_places, d_table_from, d_check_asked_thresholds, d_weight_at, d_all_weights, d_bound_of, d_pair_sums, d_side_of, d_balance_of, d_threshold, d_takes_weights, d_is_side, d_takes_balance, d_of_input, d_check_asked_classes, d_source, d_change_of, d_changed, d__law_draws, d__law_take, d__law_same, d__law_power, d__law_table, d__law_digit, d__law_bits, d__law_from, d__law_squeezed, d_law]
def fa : List He.Fa := [.glo "full", .glo "variable", .glo "digit", .glo "fixed", .glo "support", .glo "rises", .glo "falls", .glo "places", .glo "table_from", .glo "check_asked_thresholds", .glo "weight_at", .glo "all_weights", .glo "bound_of", .glo "pair_sums", .glo "side_of", .glo "balance_of", .glo "threshold", .glo "takes_weights", .glo "is_side", .glo "takes_balance", .glo "of_input", .glo "check_asked_classes", .glo "source", .glo "change_of", .glo "changed", .glo "_law_draws", .glo "_law_take", .glo "_law_same", .glo "_law_power", .glo "_law_table", .glo "_law_digit", .glo "_law_bits", .glo "_law_from", .glo "_law_squeezed", .glo "law", .free "abs", .free "all", .free "bool", .free "dict", .free "enumerate", .free "int", .free "isinstance", .free "len", .free "list", .free "max", .free "min", .free "range", .free "sorted", .free "str", .free "sum", .free "tuple", .free "zip"]
def ex (K : PySem.W.Frag) : Bool := conB K "GREATEST" k_GREATEST && conB K "MOST_INPUTS_classes" k_MOST_INPUTS_classes && conB K "MOST_INPUTS_thresholds" k_MOST_INPUTS_thresholds
theorem bi_full {K : PySem.W.Frag} {f : Addr} {fd : FuncData} (F : FnD K "full" "full" st_full f fd) : Binds K fd ["n"] [] := FunD.bindsN F fun _ _ _ _ _ _ us hl => match us, hl with | [_], _ => rfl
theorem bi_variable {K : PySem.W.Frag} {f : Addr} {fd : FuncData} (F : FnD K "variable" "variable" st_variable f fd) : Binds K fd ["n", "i"] [] := FunD.bindsN F fun _ _ _ _ _ _ us hl => match us, hl with | [_, _], _ => rfl
theorem bi_digit {K : PySem.W.Frag} {f : Addr} {fd : FuncData} (F : FnD K "digit" "digit" st_digit f fd) : Binds K fd ["table", "place"] [] := FunD.bindsN F fun _ _ _ _ _ _ us hl => match us, hl with | [_, _], _ => rfl
theorem bi_fixed {K : PySem.W.Frag} {f : Addr} {fd : FuncData} (F : FnD K "fixed" "fixed" st_fixed f fd) : Binds K fd ["table", "n", "i", "bit"] [] := FunD.bindsN F fun _ _ _ _ _ _ us hl => match us, hl with | [_, _, _, _], _ => rfl
theorem bi_support {K : PySem.W.Frag} {f : Addr} {fd : FuncData} (F : FnD K "support" "support" st_support f fd) : Binds K fd ["table", "n"] [] := FunD.bindsN F fun _ _ _ _ _ _ us hl => match us, hl with | [_, _], _ => rfl
theorem bi_rises {K : PySem.W.Frag} {f : Addr} {fd : FuncData} (F : FnD K "rises" "rises" st_rises f fd) : Binds K fd ["table", "n", "i"] [] := FunD.bindsN F fun _ _ _ _ _ _ us hl => match us, hl with | [_, _, _], _ => rfl
theorem bi_falls {K : PySem.W.Frag} {f : Addr} {fd : FuncData} (F : FnD K "falls" "falls" st_falls f fd) : Binds K fd ["table", "n", "i"] [] := FunD.bindsN F fun _ _ _ _ _ _ us hl => match us, hl with | [_, _, _], _ => rfl
theorem bi_places {K : PySem.W.Frag} {f : Addr} {fd : FuncData} (F : FnD K "places" "places" st_places f fd) : Binds K fd ["table", "n"] [] := FunD.bindsN F fun _ _ _ _ _ _ us hl => match us, hl with | [_, _], _ => rfl
theorem bi_table_from {K : PySem.W.Frag} {f : Addr} {fd : FuncData} (F : FnD K "table_from" "table_from" st_table_from f fd) : Binds K fd ["n", "chosen"] [] := FunD.bindsN F fun _ _ _ _ _ _ us hl => match us, hl with | [_, _], _ => rfl
theorem bi_check_asked_thresholds {K : PySem.W.Frag} {f : Addr} {fd : FuncData} (F : FnD K "check_asked" "check_asked" st_check_asked_thresholds f fd) : Binds K fd ["table", "n"] [] := FunD.bindsN F fun _ _ _ _ _ _ us hl => match us, hl with | [_, _], _ => rfl
theorem bi_weight_at {K : PySem.W.Frag} {f : Addr} {fd : FuncData} (F : FnD K "weight_at" "weight_at" st_weight_at f fd) : Binds K fd ["weights", "place"] [] := FunD.bindsN F fun _ _ _ _ _ _ us hl => match us, hl with | [_, _], _ => rfl
theorem bi_all_weights {K : PySem.W.Frag} {f : Addr} {fd : FuncData} (F : FnD K "all_weights" "all_weights" st_all_weights f fd) : Binds K fd ["n"] [] := FunD.bindsN F fun _ _ _ _ _ _ us hl => match us, hl with | [_], _ => rfl
theorem bi_bound_of {K : PySem.W.Frag} {f : Addr} {fd : FuncData} (F : FnD K "bound_of" "bound_of" st_bound_of f fd) : Binds K fd ["table", "n", "weights"] [] := FunD.bindsN F fun _ _ _ _ _ _ us hl => match us, hl with | [_, _, _], _ => rfl
theorem bi_pair_sums {K : PySem.W.Frag} {f : Addr} {fd : FuncData} (F : FnD K "pair_sums" "pair_sums" st_pair_sums f fd) : Binds K fd ["chosen"] [] := FunD.bindsN F fun _ _ _ _ _ _ us hl => match us, hl with | [_], _ => rfl
theorem bi_side_of {K : PySem.W.Frag} {f : Addr} {fd : FuncData} (F : FnD K "side_of" "side_of" st_side_of f fd) : Binds K fd ["pair"] [] := FunD.bindsN F fun _ _ _ _ _ _ us hl => match us, hl with | [_], _ => rfl
theorem bi_balance_of {K : PySem.W.Frag} {f : Addr} {fd : FuncData} (F : FnD K "balance_of" "balance_of" st_balance_of f fd) : Binds K fd ["table", "n"] [] := FunD.bindsN F fun _ _ _ _ _ _ us hl => match us, hl with | [_, _], _ => rfl
theorem bi_threshold {K : PySem.W.Frag} {f : Addr} {fd : FuncData} (F : FnD K "threshold" "threshold" st_threshold f fd) : Binds K fd ["table", "n"] [] := FunD.bindsN F fun _ _ _ _ _ _ us hl => match us, hl with | [_, _], _ => rfl
theorem bi_takes_weights {K : PySem.W.Frag} {f : Addr} {fd : FuncData} (F : FnD K "takes_weights" "takes_weights" st_takes_weights f fd) : Binds K fd ["table", "n", "weights", "bound"] [] := FunD.bindsN F fun _ _ _ _ _ _ us hl => match us, hl with | [_, _, _, _], _ => rfl
theorem bi_is_side {K : PySem.W.Frag} {f : Addr} {fd : FuncData} (F : FnD K "is_side" "is_side" st_is_side f fd) : Binds K fd ["table", "n", "side", "bit"] [] := FunD.bindsN F fun _ _ _ _ _ _ us hl => match us, hl with | [_, _, _, _], _ => rfl
theorem bi_takes_balance {K : PySem.W.Frag} {f : Addr} {fd : FuncData} (F : FnD K "takes_balance" "takes_balance" st_takes_balance f fd) : Binds K fd ["table", "n", "ups", "downs"] [] := FunD.bindsN F fun _ _ _ _ _ _ us hl => match us, hl with | [_, _, _, _], _ => rfl
theorem bi_of_input {K : PySem.W.Frag} {f : Addr} {fd : FuncData} (F : FnD K "of_input" "of_input" st_of_input f fd) : Binds K fd ["side", "i"] [] := FunD.bindsN F fun _ _ _ _ _ _ us hl => match us, hl with | [_, _], _ => rfl
theorem bi_check_asked_classes {K : PySem.W.Frag} {f : Addr} {fd : FuncData} (F : FnD K "check_asked" "check_asked" st_check_asked_classes f fd) : Binds K fd ["table", "n"] [] := FunD.bindsN F fun _ _ _ _ _ _ us hl => match us, hl with | [_, _], _ => rfl
theorem bi_source {K : PySem.W.Frag} {f : Addr} {fd : FuncData} (F : FnD K "source" "source" st_source f fd) : Binds K fd ["place", "change", "n"] [] := FunD.bindsN F fun _ _ _ _ _ _ us hl => match us, hl with | [_, _, _], _ => rfl
theorem bi_change_of {K : PySem.W.Frag} {f : Addr} {fd : FuncData} (F : FnD K "change_of" "change_of" st_change_of f fd) : Binds K fd ["table", "n", "change"] [] := FunD.bindsN F fun _ _ _ _ _ _ us hl => match us, hl with | [_, _, _], _ => rfl
theorem bi_changed {K : PySem.W.Frag} {f : Addr} {fd : FuncData} (F : FnD K "changed" "changed" st_changed f fd) : Binds K fd ["table", "n", "change"] [] := FunD.bindsN F fun _ _ _ _ _ _ us hl => match us, hl with | [_, _, _], _ => rfl
theorem bi__law_draws {K : PySem.W.Frag} {f : Addr} {fd : FuncData} (F : FnD K "_law_draws" "_law_draws" st__law_draws f fd) : Binds K fd ["script", "count"] [] := FunD.bindsN F fun _ _ _ _ _ _ us hl => match us, hl with | [_, _], _ => rfl
theorem bi__law_take {K : PySem.W.Frag} {f : Addr} {fd : FuncData} (F : FnD K "_law_take" "_law_take" st__law_take f fd) : Binds K fd ["draws", "limit"] [] := FunD.bindsN F fun _ _ _ _ _ _ us hl => match us, hl with | [_, _], _ => rfl
theorem bi__law_same {K : PySem.W.Frag} {f : Addr} {fd : FuncData} (F : FnD K "_law_same" "_law_same" st__law_same f fd) : Binds K fd ["found", "due"] [] := FunD.bindsN F fun _ _ _ _ _ _ us hl => match us, hl with | [_, _], _ => rfl
theorem bi__law_power {K : PySem.W.Frag} {f : Addr} {fd : FuncData} (F : FnD K "_law_power" "_law_power" st__law_power f fd) : Binds K fd ["n"] [] := FunD.bindsN F fun _ _ _ _ _ _ us hl => match us, hl with | [_], _ => rfl
theorem bi__law_table {K : PySem.W.Frag} {f : Addr} {fd : FuncData} (F : FnD K "_law_table" "_law_table" st__law_table f fd) : Binds K fd ["draws", "n"] [] := FunD.bindsN F fun _ _ _ _ _ _ us hl => match us, hl with | [_, _], _ => rfl
theorem bi__law_digit {K : PySem.W.Frag} {f : Addr} {fd : FuncData} (F : FnD K "_law_digit" "_law_digit" st__law_digit f fd) : Binds K fd ["table", "place"] [] := FunD.bindsN F fun _ _ _ _ _ _ us hl => match us, hl with | [_, _], _ => rfl
theorem bi__law_bits {K : PySem.W.Frag} {f : Addr} {fd : FuncData} (F : FnD K "_law_bits" "_law_bits" st__law_bits f fd) : Binds K fd ["place", "n"] [] := FunD.bindsN F fun _ _ _ _ _ _ us hl => match us, hl with | [_, _], _ => rfl
theorem bi__law_from {K : PySem.W.Frag} {f : Addr} {fd : FuncData} (F : FnD K "_law_from" "_law_from" st__law_from f fd) : Binds K fd ["n", "is_one"] [] := FunD.bindsN F fun _ _ _ _ _ _ us hl => match us, hl with | [_, _], _ => rfl
theorem bi__law_squeezed {K : PySem.W.Frag} {f : Addr} {fd : FuncData} (F : FnD K "_law_squeezed" "_law_squeezed" st__law_squeezed f fd) : Binds K fd ["table", "n", "i"] [] := FunD.bindsN F fun _ _ _ _ _ _ us hl => match us, hl with | [_, _, _], _ => rfl
theorem bi_law {K : PySem.W.Frag} {f : Addr} {fd : FuncData} (F : FnD K "law" "law" st_law f fd) : Binds K fd ["script"] [] := FunD.bindsN F fun _ _ _ _ _ _ us hl => match us, hl with | [_], _ => rfl
section
variable {P : Program} {w : World} {K : PySem.W.Frag} {mg : Str → Option Value} {base h : Heap} {L : Tb}
def tf : List He.Defn := [("all_weights", none), ("law", none)]
abbrev tabs (K : PySem.W.Frag) : List NdefX.NTab := tf.map fun p => ((He.cT K p).2, nm)
abbrev tbs (P : Program) (w : World) (K : PySem.W.Frag) (mg : Str → Option Value) (base : Heap) : Tbs := Tbs.of P w K mg base (2 * LK + 2) (tabs K)
theorem mkr_ok (h : ∀ p ∈ tf.map (He.cT K), LamX.TabB base mg p.1 p.2) {p : He.Defn} (m : p ∈ tf) : Mkr (tbs P w K mg base) mg base (He.codeOf K p) nm :=
  ⟨(He.cT K p).2, h _ (List.mem_map.mpr ⟨p, m, rfl⟩), List.mem_map.mpr ⟨p, m, rfl⟩, fun z hz => by obtain ⟨y, _, rfl⟩ := List.mem_map.mp hz; rfl⟩
theorem ct_bot (X : K.In h) (G : h.Ns mainGlobals mg) (c : He.SaysD fa fn K) (cx : ex K = true) (ht : ∀ p ∈ tf.map (He.cT K), LamX.TabB base mg p.1 p.2) (j : Nat) : Ct (tbs P w K mg base) P w K mg base bot j := {
      room := fun z => by cases z
      room2 := fun z => by cases z
      fns := fnsOk_of
      mks := fnsMk_of
      t_all_weights := mkr_ok ht (by simp [tf])
      t_law := mkr_ok ht (by simp [tf])
      b_abs := He.free_ok X G (c.fact 35 (f := .free "abs") rfl)
      b_all := He.free_ok X G (c.fact 36 (f := .free "all") rfl)
      b_bool := He.free_ok X G (c.fact 37 (f := .free "bool") rfl)
      b_dict := He.free_ok X G (c.fact 38 (f := .free "dict") rfl)
      b_enumerate := He.free_ok X G (c.fact 39 (f := .free "enumerate") rfl)
      b_int := He.free_ok X G (c.fact 40 (f := .free "int") rfl)
      b_isinstance := He.free_ok X G (c.fact 41 (f := .free "isinstance") rfl)
      b_len := He.free_ok X G (c.fact 42 (f := .free "len") rfl)
      b_list := He.free_ok X G (c.fact 43 (f := .free "list") rfl)
      b_max := He.free_ok X G (c.fact 44 (f := .free "max") rfl)
      b_min := He.free_ok X G (c.fact 45 (f := .free "min") rfl)
      b_range := He.free_ok X G (c.fact 46 (f := .free "range") rfl)
      b_sorted := He.free_ok X G (c.fact 47 (f := .free "sorted") rfl)
      b_str := He.free_ok X G (c.fact 48 (f := .free "str") rfl)
      b_sum := He.free_ok X G (c.fact 49 (f := .free "sum") rfl)
      b_tuple := He.free_ok X G (c.fact 50 (f := .free "tuple") rfl)
      b_zip := He.free_ok X G (c.fact 51 (f := .free "zip") rfl)
      c_GREATEST := con_of X G (by unfold ex at cx; simp only [Bool.and_eq_true] at cx; simp only [cx])
      c_MOST_INPUTS_classes := con_of X G (by unfold ex at cx; simp only [Bool.and_eq_true] at cx; simp only [cx])
      c_MOST_INPUTS_thresholds := con_of X G (by unfold ex at cx; simp only [Bool.and_eq_true] at cx; simp only [cx])
      f_full := ⟨by
        obtain ⟨fd, F⟩ := c.def_ 0 (d := d_full) rfl
        exact ⟨_, fd, ["n"], fn0P, He.glo_ok X G (c.fact 0 (f := .glo "full") rfl), F.kp, bi_full F⟩⟩
      f_variable := ⟨by
        obtain ⟨fd, F⟩ := c.def_ 1 (d := d_variable) rfl
        exact ⟨_, fd, ["n", "i"], fn0P, He.glo_ok X G (c.fact 1 (f := .glo "variable") rfl), F.kp, bi_variable F⟩⟩
      f_digit := ⟨by
        obtain ⟨fd, F⟩ := c.def_ 2 (d := d_digit) rfl
        exact ⟨_, fd, ["table", "place"], fn0P, He.glo_ok X G (c.fact 2 (f := .glo "digit") rfl), F.kp, bi_digit F⟩⟩
      f_fixed := ⟨by
        obtain ⟨fd, F⟩ := c.def_ 3 (d := d_fixed) rfl
        exact ⟨_, fd, ["table", "n", "i", "bit"], fn0P, He.glo_ok X G (c.fact 3 (f := .glo "fixed") rfl), F.kp, bi_fixed F⟩⟩
      f_support := ⟨by
        obtain ⟨fd, F⟩ := c.def_ 4 (d := d_support) rfl
        exact ⟨_, fd, ["table", "n"], fn0P, He.glo_ok X G (c.fact 4 (f := .glo "support") rfl), F.kp, bi_support F⟩⟩
      f_rises := ⟨by
        obtain ⟨fd, F⟩ := c.def_ 5 (d := d_rises) rfl
        exact ⟨_, fd, ["table", "n", "i"], fn0P, He.glo_ok X G (c.fact 5 (f := .glo "rises") rfl), F.kp, bi_rises F⟩⟩
      f_falls := ⟨by
        obtain ⟨fd, F⟩ := c.def_ 6 (d := d_falls) rfl
        exact ⟨_, fd, ["table", "n", "i"], fn0P, He.glo_ok X G (c.fact 6 (f := .glo "falls") rfl), F.kp, bi_falls F⟩⟩
      f_places := ⟨by
        obtain ⟨fd, F⟩ := c.def_ 7 (d := d_places) rfl
        exact ⟨_, fd, ["table", "n"], fn0P, He.glo_ok X G (c.fact 7 (f := .glo "places") rfl), F.kp, bi_places F⟩⟩
      f_table_from := ⟨by
        obtain ⟨fd, F⟩ := c.def_ 8 (d := d_table_from) rfl
        exact ⟨_, fd, ["n", "chosen"], fn0P, He.glo_ok X G (c.fact 8 (f := .glo "table_from") rfl), F.kp, bi_table_from F⟩⟩
      f_check_asked_thresholds := ⟨by
        obtain ⟨fd, F⟩ := c.def_ 9 (d := d_check_asked_thresholds) rfl
        exact ⟨_, fd, ["table", "n"], fn0P, He.glo_ok X G (c.fact 9 (f := .glo "check_asked_thresholds") rfl), F.kp, bi_check_asked_thresholds F⟩⟩
      f_weight_at := ⟨by
        obtain ⟨fd, F⟩ := c.def_ 10 (d := d_weight_at) rfl
        exact ⟨_, fd, ["weights", "place"], fn0P, He.glo_ok X G (c.fact 10 (f := .glo "weight_at") rfl), F.kp, bi_weight_at F⟩⟩
      f_all_weights := ⟨by
        obtain ⟨fd, F⟩ := c.def_ 11 (d := d_all_weights) rfl
        exact ⟨_, fd, ["n"], fn0P, He.glo_ok X G (c.fact 11 (f := .glo "all_weights") rfl), F.kp, bi_all_weights F⟩⟩
      f_bound_of := ⟨by
        obtain ⟨fd, F⟩ := c.def_ 12 (d := d_bound_of) rfl
        exact ⟨_, fd, ["table", "n", "weights"], fn0P, He.glo_ok X G (c.fact 12 (f := .glo "bound_of") rfl), F.kp, bi_bound_of F⟩⟩
      f_pair_sums := ⟨by
        obtain ⟨fd, F⟩ := c.def_ 13 (d := d_pair_sums) rfl
        exact ⟨_, fd, ["chosen"], fn0S, He.glo_ok X G (c.fact 13 (f := .glo "pair_sums") rfl), F.kp, bi_pair_sums F⟩⟩
      f_side_of := ⟨by
        obtain ⟨fd, F⟩ := c.def_ 14 (d := d_side_of) rfl
        exact ⟨_, fd, ["pair"], fn0P, He.glo_ok X G (c.fact 14 (f := .glo "side_of") rfl), F.kp, bi_side_of F⟩⟩
      f_balance_of := ⟨by
        obtain ⟨fd, F⟩ := c.def_ 15 (d := d_balance_of) rfl
        exact ⟨_, fd, ["table", "n"], fn0P, He.glo_ok X G (c.fact 15 (f := .glo "balance_of") rfl), F.kp, bi_balance_of F⟩⟩
      f_threshold := ⟨by
        obtain ⟨fd, F⟩ := c.def_ 16 (d := d_threshold) rfl
        exact ⟨_, fd, ["table", "n"], fn0P, He.glo_ok X G (c.fact 16 (f := .glo "threshold") rfl), F.kp, bi_threshold F⟩⟩
      f_takes_weights := ⟨by
        obtain ⟨fd, F⟩ := c.def_ 17 (d := d_takes_weights) rfl
        exact ⟨_, fd, ["table", "n", "weights", "bound"], fn0P, He.glo_ok X G (c.fact 17 (f := .glo "takes_weights") rfl), F.kp, bi_takes_weights F⟩⟩
      f_is_side := ⟨by
        obtain ⟨fd, F⟩ := c.def_ 18 (d := d_is_side) rfl
        exact ⟨_, fd, ["table", "n", "side", "bit"], fn0P, He.glo_ok X G (c.fact 18 (f := .glo "is_side") rfl), F.kp, bi_is_side F⟩⟩
      f_takes_balance := ⟨by
        obtain ⟨fd, F⟩ := c.def_ 19 (d := d_takes_balance) rfl
        exact ⟨_, fd, ["table", "n", "ups", "downs"], fn0P, He.glo_ok X G (c.fact 19 (f := .glo "takes_balance") rfl), F.kp, bi_takes_balance F⟩⟩
      f_of_input := ⟨by
        obtain ⟨fd, F⟩ := c.def_ 20 (d := d_of_input) rfl
        exact ⟨_, fd, ["side", "i"], fn0P, He.glo_ok X G (c.fact 20 (f := .glo "of_input") rfl), F.kp, bi_of_input F⟩⟩
      f_check_asked_classes := ⟨by
        obtain ⟨fd, F⟩ := c.def_ 21 (d := d_check_asked_classes) rfl
        exact ⟨_, fd, ["table", "n"], fn0P, He.glo_ok X G (c.fact 21 (f := .glo "check_asked_classes") rfl), F.kp, bi_check_asked_classes F⟩⟩
      f_source := ⟨by
        obtain ⟨fd, F⟩ := c.def_ 22 (d := d_source) rfl
        exact ⟨_, fd, ["place", "change", "n"], fn0P, He.glo_ok X G (c.fact 22 (f := .glo "source") rfl), F.kp, bi_source F⟩⟩
      f_change_of := ⟨by
        obtain ⟨fd, F⟩ := c.def_ 23 (d := d_change_of) rfl
        exact ⟨_, fd, ["table", "n", "change"], fn0P, He.glo_ok X G (c.fact 23 (f := .glo "change_of") rfl), F.kp, bi_change_of F⟩⟩
      f_changed := ⟨by
        obtain ⟨fd, F⟩ := c.def_ 24 (d := d_changed) rfl
        exact ⟨_, fd, ["table", "n", "change"], fn0P, He.glo_ok X G (c.fact 24 (f := .glo "changed") rfl), F.kp, bi_changed F⟩⟩
      f__law_draws := ⟨by
        obtain ⟨fd, F⟩ := c.def_ 25 (d := d__law_draws) rfl
        exact ⟨_, fd, ["script", "count"], fn0P, He.glo_ok X G (c.fact 25 (f := .glo "_law_draws") rfl), F.kp, bi__law_draws F⟩⟩
      f__law_take := ⟨by
        obtain ⟨fd, F⟩ := c.def_ 26 (d := d__law_take) rfl
        exact ⟨_, fd, ["draws", "limit"], fn0S, He.glo_ok X G (c.fact 26 (f := .glo "_law_take") rfl), F.kp, bi__law_take F⟩⟩
      f__law_same := ⟨by
        obtain ⟨fd, F⟩ := c.def_ 27 (d := d__law_same) rfl
        exact ⟨_, fd, ["found", "due"], fn0P, He.glo_ok X G (c.fact 27 (f := .glo "_law_same") rfl), F.kp, bi__law_same F⟩⟩
      f__law_power := ⟨by
        obtain ⟨fd, F⟩ := c.def_ 28 (d := d__law_power) rfl
        exact ⟨_, fd, ["n"], fn0P, He.glo_ok X G (c.fact 28 (f := .glo "_law_power") rfl), F.kp, bi__law_power F⟩⟩
      f__law_table := ⟨by
        obtain ⟨fd, F⟩ := c.def_ 29 (d := d__law_table) rfl
        exact ⟨_, fd, ["draws", "n"], fn0S, He.glo_ok X G (c.fact 29 (f := .glo "_law_table") rfl), F.kp, bi__law_table F⟩⟩
      f__law_digit := ⟨by
        obtain ⟨fd, F⟩ := c.def_ 30 (d := d__law_digit) rfl
        exact ⟨_, fd, ["table", "place"], fn0P, He.glo_ok X G (c.fact 30 (f := .glo "_law_digit") rfl), F.kp, bi__law_digit F⟩⟩
      f__law_bits := ⟨by
        obtain ⟨fd, F⟩ := c.def_ 31 (d := d__law_bits) rfl
        exact ⟨_, fd, ["place", "n"], fn0P, He.glo_ok X G (c.fact 31 (f := .glo "_law_bits") rfl), F.kp, bi__law_bits F⟩⟩
      f__law_from := ⟨by
        obtain ⟨fd, F⟩ := c.def_ 32 (d := d__law_from) rfl
        exact ⟨_, fd, ["n", "is_one"], fn0F, He.glo_ok X G (c.fact 32 (f := .glo "_law_from") rfl), F.kp, bi__law_from F⟩⟩
      f__law_squeezed := ⟨by
        obtain ⟨fd, F⟩ := c.def_ 33 (d := d__law_squeezed) rfl
        exact ⟨_, fd, ["table", "n", "i"], fn0P, He.glo_ok X G (c.fact 33 (f := .glo "_law_squeezed") rfl), F.kp, bi__law_squeezed F⟩⟩
      f_law := ⟨by
        obtain ⟨fd, F⟩ := c.def_ 34 (d := d_law) rfl
        exact ⟨_, fd, ["script"], fn0P, He.glo_ok X G (c.fact 34 (f := .glo "law") rfl), F.kp, bi_law F⟩⟩
    }
theorem ct_up (X : K.In h) (G : h.Ns mainGlobals mg) (c : He.SaysD fa fn K) (cx : ex K = true) (ht : ∀ p ∈ tf.map (He.cT K), LamX.TabB base mg p.1 p.2) (CL : Ct (tbs P w K mg base) P w K mg base L (2 * LK)) {k : Nat} (C : Ct (tbs P w K mg base) P w K mg base (TT L k) (2 * k)) : Ct (tbs P w K mg base) P w K mg base (TT L (k + 1)) (2 * (k + 1)) := {
      room := fun z => by have := of_decide_eq_true z; simp only [LK]; omega
      room2 := fun z => by have := of_decide_eq_true z; simp only [LK]; omega
      fns := fnsOk_of
      mks := fnsMk_of
      t_all_weights := mkr_ok ht (by simp [tf])
      t_law := mkr_ok ht (by simp [tf])
      b_abs := He.free_ok X G (c.fact 35 (f := .free "abs") rfl)
      b_all := He.free_ok X G (c.fact 36 (f := .free "all") rfl)
      b_bool := He.free_ok X G (c.fact 37 (f := .free "bool") rfl)
      b_dict := He.free_ok X G (c.fact 38 (f := .free "dict") rfl)
      b_enumerate := He.free_ok X G (c.fact 39 (f := .free "enumerate") rfl)
      b_int := He.free_ok X G (c.fact 40 (f := .free "int") rfl)
      b_isinstance := He.free_ok X G (c.fact 41 (f := .free "isinstance") rfl)
      b_len := He.free_ok X G (c.fact 42 (f := .free "len") rfl)
      b_list := He.free_ok X G (c.fact 43 (f := .free "list") rfl)
      b_max := He.free_ok X G (c.fact 44 (f := .free "max") rfl)
      b_min := He.free_ok X G (c.fact 45 (f := .free "min") rfl)
      b_range := He.free_ok X G (c.fact 46 (f := .free "range") rfl)
      b_sorted := He.free_ok X G (c.fact 47 (f := .free "sorted") rfl)
      b_str := He.free_ok X G (c.fact 48 (f := .free "str") rfl)
      b_sum := He.free_ok X G (c.fact 49 (f := .free "sum") rfl)
      b_tuple := He.free_ok X G (c.fact 50 (f := .free "tuple") rfl)
      b_zip := He.free_ok X G (c.fact 51 (f := .free "zip") rfl)
      c_GREATEST := con_of X G (by unfold ex at cx; simp only [Bool.and_eq_true] at cx; simp only [cx])
      c_MOST_INPUTS_classes := con_of X G (by unfold ex at cx; simp only [Bool.and_eq_true] at cx; simp only [cx])
      c_MOST_INPUTS_thresholds := con_of X G (by unfold ex at cx; simp only [Bool.and_eq_true] at cx; simp only [cx])
      f_full := ⟨by
        obtain ⟨fd, F⟩ := c.def_ 0 (d := d_full) rfl
        exact ⟨_, fd, ["n"], ok_full C CL F, He.glo_ok X G (c.fact 0 (f := .glo "full") rfl), F.kp, bi_full F⟩⟩
      f_variable := ⟨by
        obtain ⟨fd, F⟩ := c.def_ 1 (d := d_variable) rfl
        exact ⟨_, fd, ["n", "i"], ok_variable C CL F, He.glo_ok X G (c.fact 1 (f := .glo "variable") rfl), F.kp, bi_variable F⟩⟩
      f_digit := ⟨by
        obtain ⟨fd, F⟩ := c.def_ 2 (d := d_digit) rfl
        exact ⟨_, fd, ["table", "place"], ok_digit C CL F, He.glo_ok X G (c.fact 2 (f := .glo "digit") rfl), F.kp, bi_digit F⟩⟩
      f_fixed := ⟨by
        obtain ⟨fd, F⟩ := c.def_ 3 (d := d_fixed) rfl
        exact ⟨_, fd, ["table", "n", "i", "bit"], ok_fixed C CL F, He.glo_ok X G (c.fact 3 (f := .glo "fixed") rfl), F.kp, bi_fixed F⟩⟩
      f_support := ⟨by
        obtain ⟨fd, F⟩ := c.def_ 4 (d := d_support) rfl
        exact ⟨_, fd, ["table", "n"], ok_support C CL F, He.glo_ok X G (c.fact 4 (f := .glo "support") rfl), F.kp, bi_support F⟩⟩
      f_rises := ⟨by
        obtain ⟨fd, F⟩ := c.def_ 5 (d := d_rises) rfl
        exact ⟨_, fd, ["table", "n", "i"], ok_rises C CL F, He.glo_ok X G (c.fact 5 (f := .glo "rises") rfl), F.kp, bi_rises F⟩⟩
      f_falls := ⟨by
        obtain ⟨fd, F⟩ := c.def_ 6 (d := d_falls) rfl
        exact ⟨_, fd, ["table", "n", "i"], ok_falls C CL F, He.glo_ok X G (c.fact 6 (f := .glo "falls") rfl), F.kp, bi_falls F⟩⟩
      f_places := ⟨by
        obtain ⟨fd, F⟩ := c.def_ 7 (d := d_places) rfl
        exact ⟨_, fd, ["table", "n"], ok_places C CL F, He.glo_ok X G (c.fact 7 (f := .glo "places") rfl), F.kp, bi_places F⟩⟩
      f_table_from := ⟨by
        obtain ⟨fd, F⟩ := c.def_ 8 (d := d_table_from) rfl
        exact ⟨_, fd, ["n", "chosen"], ok_table_from C CL F, He.glo_ok X G (c.fact 8 (f := .glo "table_from") rfl), F.kp, bi_table_from F⟩⟩
      f_check_asked_thresholds := ⟨by
        obtain ⟨fd, F⟩ := c.def_ 9 (d := d_check_asked_thresholds) rfl
        exact ⟨_, fd, ["table", "n"], ok_check_asked_thresholds C CL F, He.glo_ok X G (c.fact 9 (f := .glo "check_asked_thresholds") rfl), F.kp, bi_check_asked_thresholds F⟩⟩
      f_weight_at := ⟨by
        obtain ⟨fd, F⟩ := c.def_ 10 (d := d_weight_at) rfl
        exact ⟨_, fd, ["weights", "place"], ok_weight_at C CL F, He.glo_ok X G (c.fact 10 (f := .glo "weight_at") rfl), F.kp, bi_weight_at F⟩⟩
      f_all_weights := ⟨by
        obtain ⟨fd, F⟩ := c.def_ 11 (d := d_all_weights) rfl
        exact ⟨_, fd, ["n"], ok_all_weights C CL F, He.glo_ok X G (c.fact 11 (f := .glo "all_weights") rfl), F.kp, bi_all_weights F⟩⟩
      f_bound_of := ⟨by
        obtain ⟨fd, F⟩ := c.def_ 12 (d := d_bound_of) rfl
        exact ⟨_, fd, ["table", "n", "weights"], ok_bound_of C CL F, He.glo_ok X G (c.fact 12 (f := .glo "bound_of") rfl), F.kp, bi_bound_of F⟩⟩
      f_pair_sums := ⟨by
        obtain ⟨fd, F⟩ := c.def_ 13 (d := d_pair_sums) rfl
        exact ⟨_, fd, ["chosen"], ok_pair_sums C CL F, He.glo_ok X G (c.fact 13 (f := .glo "pair_sums") rfl), F.kp, bi_pair_sums F⟩⟩
      f_side_of := ⟨by
        obtain ⟨fd, F⟩ := c.def_ 14 (d := d_side_of) rfl
        exact ⟨_, fd, ["pair"], ok_side_of C CL F, He.glo_ok X G (c.fact 14 (f := .glo "side_of") rfl), F.kp, bi_side_of F⟩⟩
      f_balance_of := ⟨by
        obtain ⟨fd, F⟩ := c.def_ 15 (d := d_balance_of) rfl
        exact ⟨_, fd, ["table", "n"], ok_balance_of C CL F, He.glo_ok X G (c.fact 15 (f := .glo "balance_of") rfl), F.kp, bi_balance_of F⟩⟩
      f_threshold := ⟨by
        obtain ⟨fd, F⟩ := c.def_ 16 (d := d_threshold) rfl
        exact ⟨_, fd, ["table", "n"], ok_threshold C CL F, He.glo_ok X G (c.fact 16 (f := .glo "threshold") rfl), F.kp, bi_threshold F⟩⟩
      f_takes_weights := ⟨by
        obtain ⟨fd, F⟩ := c.def_ 17 (d := d_takes_weights) rfl
        exact ⟨_, fd, ["table", "n", "weights", "bound"], ok_takes_weights C CL F, He.glo_ok X G (c.fact 17 (f := .glo "takes_weights") rfl), F.kp, bi_takes_weights F⟩⟩
      f_is_side := ⟨by
        obtain ⟨fd, F⟩ := c.def_ 18 (d := d_is_side) rfl
        exact ⟨_, fd, ["table", "n", "side", "bit"], ok_is_side C CL F, He.glo_ok X G (c.fact 18 (f := .glo "is_side") rfl), F.kp, bi_is_side F⟩⟩
      f_takes_balance := ⟨by
        obtain ⟨fd, F⟩ := c.def_ 19 (d := d_takes_balance) rfl
        exact ⟨_, fd, ["table", "n", "ups", "downs"], ok_takes_balance C CL F, He.glo_ok X G (c.fact 19 (f := .glo "takes_balance") rfl), F.kp, bi_takes_balance F⟩⟩
      f_of_input := ⟨by
        obtain ⟨fd, F⟩ := c.def_ 20 (d := d_of_input) rfl
        exact ⟨_, fd, ["side", "i"], ok_of_input C CL F, He.glo_ok X G (c.fact 20 (f := .glo "of_input") rfl), F.kp, bi_of_input F⟩⟩
      f_check_asked_classes := ⟨by
        obtain ⟨fd, F⟩ := c.def_ 21 (d := d_check_asked_classes) rfl
        exact ⟨_, fd, ["table", "n"], ok_check_asked_classes C CL F, He.glo_ok X G (c.fact 21 (f := .glo "check_asked_classes") rfl), F.kp, bi_check_asked_classes F⟩⟩
      f_source := ⟨by
        obtain ⟨fd, F⟩ := c.def_ 22 (d := d_source) rfl
        exact ⟨_, fd, ["place", "change", "n"], ok_source C CL F, He.glo_ok X G (c.fact 22 (f := .glo "source") rfl), F.kp, bi_source F⟩⟩
      f_change_of := ⟨by
        obtain ⟨fd, F⟩ := c.def_ 23 (d := d_change_of) rfl
        exact ⟨_, fd, ["table", "n", "change"], ok_change_of C CL F, He.glo_ok X G (c.fact 23 (f := .glo "change_of") rfl), F.kp, bi_change_of F⟩⟩
      f_changed := ⟨by
        obtain ⟨fd, F⟩ := c.def_ 24 (d := d_changed) rfl
        exact ⟨_, fd, ["table", "n", "change"], ok_changed C CL F, He.glo_ok X G (c.fact 24 (f := .glo "changed") rfl), F.kp, bi_changed F⟩⟩
      f__law_draws := ⟨by
        obtain ⟨fd, F⟩ := c.def_ 25 (d := d__law_draws) rfl
        exact ⟨_, fd, ["script", "count"], ok__law_draws C CL F, He.glo_ok X G (c.fact 25 (f := .glo "_law_draws") rfl), F.kp, bi__law_draws F⟩⟩
      f__law_take := ⟨by
        obtain ⟨fd, F⟩ := c.def_ 26 (d := d__law_take) rfl
        exact ⟨_, fd, ["draws", "limit"], ok__law_take C CL F, He.glo_ok X G (c.fact 26 (f := .glo "_law_take") rfl), F.kp, bi__law_take F⟩⟩
      f__law_same := ⟨by
        obtain ⟨fd, F⟩ := c.def_ 27 (d := d__law_same) rfl
        exact ⟨_, fd, ["found", "due"], ok__law_same C CL F, He.glo_ok X G (c.fact 27 (f := .glo "_law_same") rfl), F.kp, bi__law_same F⟩⟩
      f__law_power := ⟨by
        obtain ⟨fd, F⟩ := c.def_ 28 (d := d__law_power) rfl
        exact ⟨_, fd, ["n"], ok__law_power C CL F, He.glo_ok X G (c.fact 28 (f := .glo "_law_power") rfl), F.kp, bi__law_power F⟩⟩
      f__law_table := ⟨by
        obtain ⟨fd, F⟩ := c.def_ 29 (d := d__law_table) rfl
        exact ⟨_, fd, ["draws", "n"], ok__law_table C CL F, He.glo_ok X G (c.fact 29 (f := .glo "_law_table") rfl), F.kp, bi__law_table F⟩⟩
      f__law_digit := ⟨by
        obtain ⟨fd, F⟩ := c.def_ 30 (d := d__law_digit) rfl
        exact ⟨_, fd, ["table", "place"], ok__law_digit C CL F, He.glo_ok X G (c.fact 30 (f := .glo "_law_digit") rfl), F.kp, bi__law_digit F⟩⟩
      f__law_bits := ⟨by
        obtain ⟨fd, F⟩ := c.def_ 31 (d := d__law_bits) rfl
        exact ⟨_, fd, ["place", "n"], ok__law_bits C CL F, He.glo_ok X G (c.fact 31 (f := .glo "_law_bits") rfl), F.kp, bi__law_bits F⟩⟩
      f__law_from := ⟨by
        obtain ⟨fd, F⟩ := c.def_ 32 (d := d__law_from) rfl
        exact ⟨_, fd, ["n", "is_one"], ok__law_from C CL F, He.glo_ok X G (c.fact 32 (f := .glo "_law_from") rfl), F.kp, bi__law_from F⟩⟩
      f__law_squeezed := ⟨by
        obtain ⟨fd, F⟩ := c.def_ 33 (d := d__law_squeezed) rfl
        exact ⟨_, fd, ["table", "n", "i"], ok__law_squeezed C CL F, He.glo_ok X G (c.fact 33 (f := .glo "_law_squeezed") rfl), F.kp, bi__law_squeezed F⟩⟩
      f_law := ⟨by
        obtain ⟨fd, F⟩ := c.def_ 34 (d := d_law) rfl
        exact ⟨_, fd, ["script"], ok_law C CL F, He.glo_ok X G (c.fact 34 (f := .glo "law") rfl), F.kp, bi_law F⟩⟩
    }
theorem ct (X : K.In h) (G : h.Ns mainGlobals mg) (c : He.SaysD fa fn K) (cx : ex K = true) (ht : ∀ p ∈ tf.map (He.cT K), LamX.TabB base mg p.1 p.2) (CL : Ct (tbs P w K mg base) P w K mg base L (2 * LK)) : ∀ k : Nat, Ct (tbs P w K mg base) P w K mg base (TT L k) (2 * k)
  | 0 => ct_bot X G c cx ht 0
  | k + 1 => ct_up X G c cx ht CL (ct X G c cx ht CL k)
end
end K56

namespace K56
open PySem PySem.Spec PyProof.Rows L2 Ev
/-! ### the run of the top -/
def loose : List Str := (["GateError", "FormError", "full", "variable", "digit", "fixed", "support", "rises", "falls", "places", "table_from", "MOST_INPUTS_thresholds", "GREATEST", "check_asked", "check_asked_thresholds", "weight_at", "all_weights", "bound_of", "pair_sums", "side_of", "balance_of", "threshold", "takes_weights", "is_side", "takes_balance", "of_input", "MOST_INPUTS_classes", "check_asked_classes", "source", "change_of"] : List Str) ++ (["changed", "_law_draws", "_law_take", "_law_same", "_law_power", "_law_table", "_law_digit", "_law_bits", "_law_from", "_law_squeezed"] : List Str)
abbrev R : PySem.W.OpenRow := PySem.W.OpenLaw.row PySem.Challenge.rw_gateworks_k56_whole_weights_and_balances
abbrev hk : PySem.W.Hook := He.hookX 5 fa fn [] tf ex
def ob (s : PySem.W.SharedT) : He.AlX := He.obsX 5 fa fn [] tf ex (HandSHeadRun.getT s)
theorem ob_eq (s : PySem.W.SharedT) : ob s = hk.obs s.abs := He.obsX_eq (HandSHeadRun.getT_eq s)
theorem run (w : World) : HandSHeadRun.RunEq R (PySem.W.view R.prog [46]) hk ob 4000 loose w := by
  intro os
  kernel_rfl
abbrev tb0 (K : PySem.W.Frag) : Tbs := ⟨tabs K, fun _ _ _ _ => False⟩
theorem facts {w : World} {K : PySem.W.Frag} {h : Heap} {mg : Str → Option Value} {f : Addr} (X : K.In h) (G : h.Ns mainGlobals mg) (hfa : mg ("law" : Str) = some (.ref f)) (c : He.SaysD fa fn K) (cx : ex K = true) :
    ∃ fd : FuncData, (∀ (s : Shared) (v : Value), BindsTo s fd ⟨[v], []⟩ [("script", v)]) ∧ ∀ base : Heap, K.In base → base.Ns mainGlobals mg → (∀ p ∈ tf.map (He.cT K), LamX.TabB base mg p.1 p.2) → FnOk PySem.Challenge.pw_gateworks_k56_whole_weights_and_balances w K mg base CX0 202 f fd ["script"] (spP (tb0 K) K 1 (T 101).law) := by
  obtain ⟨fd, F⟩ := c.def_ 34 (d := d_law) rfl
  have e := hfa.symm.trans (He.glo_ok X G (c.fact 34 (f := .glo "law") rfl))
  cases e
  have b := FunD.bindsA (ps := ["script"]) F fun _ _ _ _ _ _ us hl => match us, hl with | [_], _ => rfl
  exact ⟨fd, fun s v => b s [v] rfl, fun base _ _ ht => by
    have CL0 := ct (P := PySem.Challenge.pw_gateworks_k56_whole_weights_and_balances) (w := w) (mg := mg) (base := base) X G c cx ht (ct_bot X G c cx ht _) LK
    have h1 := ok_law (ct X G c cx ht CL0 100) CL0 F
    exact h1⟩
theorem law_in {K : PySem.W.Frag} {H : Hp} {a : Addr} {ns : List Int} {v : D} {f : List D → Option PR} {E : XK} (hT : ∀ p ∈ tf.map (He.cT K), H p.2 = some (.tbl #[])) (hS : SqL K H a (ns.map V.int)) (e : f [.lst (ns.map D.int)] = some (.v v)) (hv : v = .bl true) : spP (tb0 K) K 1 f [.ref a] H (fun v _ => v = .bl true) E := by
  have r : Reps K H [] (ns.map D.int) (ns.map V.int) := by
    clear hS e
    induction ns with
    | nil => exact .nil
    | cons i ns ih => exact .cons (.int i) ih
  refine ⟨[], [.lst (ns.map D.int)], .v v, (fun a h => by cases h), (tabs0 fun p hp => by obtain ⟨y, hy, rfl⟩ := List.mem_map.mp hp; exact hT _ (List.mem_map.mpr ⟨y, hy, rfl⟩)), .cons ?_ .nil, rfl, e, fun u H' _ _ ru => ?_⟩
  · rcases hS with hS | hS
    · exact .lst hS (by simp) r
    · exact .lstK hS r
  · subst hv
    cases ru
    rfl
end K56

/-! k56: what the program's defs tell. -/
namespace K56
open PySem PySem.Spec PyProof.Rows L2 Ev Tab Thr
theorem e_full {L : Tb} {k : Nat} : (TT L (k + 1)).full = runP 1 (S_full ) := rfl
theorem e_variable {L : Tb} {k : Nat} : (TT L (k + 1)).variable_ = runP 5 (S_variable ) := rfl
theorem e_digit {L : Tb} {k : Nat} : (TT L (k + 1)).digit = runP 2 (S_digit ) := rfl
theorem e_fixed {L : Tb} {k : Nat} : (TT L (k + 1)).fixed = runP 8 (S_fixed (TT L k).variable_ (TT L k).full) := rfl
theorem e_support {L : Tb} {k : Nat} : (TT L (k + 1)).support = runP 3 (S_support (TT L k).fixed) := rfl
theorem e_rises {L : Tb} {k : Nat} : (TT L (k + 1)).rises = runP 3 (S_rises (TT L k).fixed (TT L k).full) := rfl
theorem e_falls {L : Tb} {k : Nat} : (TT L (k + 1)).falls = runP 3 (S_falls (TT L k).fixed (TT L k).full) := rfl
theorem e_places {L : Tb} {k : Nat} : (TT L (k + 1)).places = runP 3 (S_places (TT L k).digit) := rfl
theorem e_table_from {L : Tb} {k : Nat} : (TT L (k + 1)).table_from = runP 4 (S_table_from (TT L k).full) := rfl
theorem e_check_asked_thresholds {L : Tb} {k : Nat} : (TT L (k + 1)).check_asked_thresholds = runP 2 (S_check_asked_thresholds (TT L k).full) := rfl
theorem e_weight_at {L : Tb} {k : Nat} : (TT L (k + 1)).weight_at = runP 4 (S_weight_at ) := rfl
theorem e_bound_of {L : Tb} {k : Nat} : (TT L (k + 1)).bound_of = runP 6 (S_bound_of (TT L k).digit (TT L k).weight_at) := rfl
theorem e_pair_sums {L : Tb} {k : Nat} : (TT L (k + 1)).pair_sums = runS 4 (S_pair_sums ) := rfl
theorem e_side_of {L : Tb} {k : Nat} : (TT L (k + 1)).side_of = runP 3 (S_side_of ) := rfl
theorem e_balance_of {L : Tb} {k : Nat} : (TT L (k + 1)).balance_of = runP 5 (S_balance_of (TT L k).pair_sums (TT L k).places (TT L k).full (TT L k).side_of) := rfl
theorem e_threshold {L : Tb} {k : Nat} : (TT L (k + 1)).threshold = runP 5 (S_threshold (TT L k).check_asked_thresholds (TT L k).balance_of (TT L k).all_weights (TT L k).bound_of) := rfl
theorem e_takes_weights {L : Tb} {k : Nat} : (TT L (k + 1)).takes_weights = runP 5 (S_takes_weights (TT L k).check_asked_thresholds (TT L k).weight_at (TT L k).digit) := rfl
theorem e_is_side {L : Tb} {k : Nat} : (TT L (k + 1)).is_side = runP 8 (S_is_side (TT L k).digit) := rfl
theorem e_takes_balance {L : Tb} {k : Nat} : (TT L (k + 1)).takes_balance = runP 8 (S_takes_balance (TT L k).check_asked_thresholds (TT L k).is_side (TT L k).of_input) := rfl
theorem e_of_input {L : Tb} {k : Nat} : (TT L (k + 1)).of_input = runP 4 (S_of_input ) := rfl
theorem e_check_asked_classes {L : Tb} {k : Nat} : (TT L (k + 1)).check_asked_classes = runP 2 (S_check_asked (TT L k).full) := rfl
theorem e_source {L : Tb} {k : Nat} : (TT L (k + 1)).source = runP 8 (S_source ) := rfl
theorem e_change_of {L : Tb} {k : Nat} : (TT L (k + 1)).change_of = runP 5 (S_change_of (TT L k).digit (TT L k).source (TT L k).table_from) := rfl
theorem e_changed {L : Tb} {k : Nat} : (TT L (k + 1)).changed = runP 6 (S_changed (TT L k).check_asked_classes (TT L k).change_of) := rfl
theorem e__law_power {L : Tb} {k : Nat} : (TT L (k + 1))._law_power = runP 3 (S__law_power ) := rfl
theorem e__law_table {L : Tb} {k : Nat} : (TT L (k + 1))._law_table = runS 6 (S__law_table (TT L k)._law_take (TT L k)._law_power) := rfl
theorem e__law_digit {L : Tb} {k : Nat} : (TT L (k + 1))._law_digit = runP 2 (S__law_digit (TT L k)._law_power) := rfl
theorem e__law_bits {L : Tb} {k : Nat} : (TT L (k + 1))._law_bits = runP 3 (S__law_bits (TT L k)._law_power) := rfl
theorem e__law_squeezed {L : Tb} {k : Nat} : (TT L (k + 1))._law_squeezed = runP 6 (S__law_squeezed (TT L k)._law_power (TT L k)._law_digit) := rfl
theorem e_all_weights {L : Tb} {k : Nat} : (TT L (k + 1)).all_weights = runP 5 (S_all_weights (TT L k).hi) := rfl
theorem e__law_from {L : Tb} {k : Nat} : (TT L (k + 1))._law_from = runF 4 (S__law_from (TT L k).hi (TT L k)._law_power) := rfl
section
variable {L : Tb} {k n t : Nat}
theorem t_full (hn : n ≤ 5) : (TT L (k + 1)).full [nD n] = some (.v (nD (full n))) := by rw [e_full]; exact full_s hn
theorem t_var {i : Nat} (hn : n ≤ 5) (hi : i < n) : (TT L (k + 1)).variable_ [nD n, nD i] = some (.v (nD (vr n i))) := by rw [e_variable]; exact variable_s hn hi
theorem t_digit {t p : Nat} : (TT L (k + 1)).digit [nD t, nD p] = some (.v (nD (t.testBit p).toNat)) := by rw [e_digit]; exact digit_s
theorem t_fixed {i b t : Nat} (hn : n ≤ 5) (hi : i < n) (ht : t < 2 ^ 2 ^ n) : (TT L (k + 2)).fixed [nD t, nD n, nD i, nD b] = some (.v (nD (fx n i b t))) := by rw [e_fixed]; exact fixed_s hn hi ht (t_var hn hi) (t_full hn)
theorem t_support {t : Nat} (hn : n ≤ 5) (ht : t < 2 ^ 2 ^ n) : (TT L (k + 3)).support [nD t, nD n] = some (.v (.tup ((sup n t).map nD))) := by rw [e_support]; exact support_s hn fun i b hi => t_fixed hn hi ht
theorem t_rises {i : Nat} (hn : n ≤ 5) (hi : i < n) (ht : t < 2 ^ 2 ^ n) : (TT L (k + 3)).rises [nD t, nD n, nD i] = some (.v (.bl (risB n i t))) := by rw [e_rises]; exact rises_s (fun b => t_fixed hn hi ht) (t_full hn)
theorem t_falls {i : Nat} (hn : n ≤ 5) (hi : i < n) (ht : t < 2 ^ 2 ^ n) : (TT L (k + 3)).falls [nD t, nD n, nD i] = some (.v (.bl (falB n i t))) := by rw [e_falls]; exact falls_s (fun b => t_fixed hn hi ht) (t_full hn)
theorem t_table_from {l : List Nat} (hn : n ≤ 5) (hl : ∀ p ∈ l, p < 2 ^ n) : (TT L (k + 2)).table_from [nD n, .lst (l.map nD)] = some (.v (nD (tb (2 ^ n) fun j => decide (j ∈ l)))) := by rw [e_table_from]; exact table_from_s (S := []) hn hl (t_full hn)
theorem t_check5 {t : Nat} (hn : n ≤ 5) (ht : t < 2 ^ 2 ^ n) : (TT L (k + 2)).check_asked_classes [nD t, nD n] = some (.v .non) := by rw [e_check_asked_classes]; exact check_s hn ht (t_full hn)
theorem t_check4 {t : Nat} (hn : n ≤ 4) (ht : t < 2 ^ 2 ^ n) : (TT L (k + 2)).check_asked_thresholds [nD t, nD n] = some (.v .non) := by rw [e_check_asked_thresholds]; exact check4_s hn ht (t_full (by omega))
theorem t_source {o : List Nat} {w p fl : Nat} (hn : n ≤ 5) (ho : o.length = n) (hb : ∀ i ∈ o, i ≤ 1000) : (TT L (k + 1)).source [nD p, .tup [.tup (o.map nD), nD w, nD fl], nD n] = some (.v (nD (src o w n p))) := by rw [e_source]; exact source_s hn ho hb
theorem t_change_of {o : List Nat} {w fl t : Nat} (hn : n ≤ 5) (ho : o.length = n) (hb : ∀ i ∈ o, i ≤ 1000) (hfl : fl ≤ 1) : (TT L (k + 3)).change_of [nD t, nD n, .tup [.tup (o.map nD), nD w, nD fl]] = some (.v (nD (chg o w fl n t))) := by rw [e_change_of]; exact change_of_s hn hfl (fun t p => t_digit) (fun p => t_source hn ho hb) fun l hl => t_table_from hn hl
theorem srt_range (hn : n ≤ 5) : srtI ((List.range n).map fun (i : Nat) => (i : Int)) = (List.range n).map fun (i : Nat) => (i : Int) := by
  have : n = 0 ∨ n = 1 ∨ n = 2 ∨ n = 3 ∨ n = 4 ∨ n = 5 := by omega
  rcases this with rfl | rfl | rfl | rfl | rfl | rfl <;> decide +kernel
theorem t_changed {w fl t : Nat} (hn : n ≤ 5) (ht : t < 2 ^ 2 ^ n) (hw : w < 2 ^ n) (hfl : fl ≤ 1) : (TT L (k + 4)).changed [nD t, nD n, .tup [.tup (nats n), nD w, nD fl]] = some (.v (nD (chg (List.range n) w fl n t))) := by rw [e_changed]; exact changed_s hn hfl hw (srt_range hn) List.length_range (t_check5 hn ht) (t_change_of hn List.length_range (fun i hi => by have := List.mem_range.mp hi; omega) hfl)
theorem t_places {t : Nat} (hn : n ≤ 4) : (TT L (k + 2)).places [nD t, nD n] = some (.v (.tup (((List.range (2 ^ n)).filter fun p => t.testBit p).map nD))) := by rw [e_places]; exact places_s hn fun t p => t_digit
theorem t_weight {ws : List Int} {p : Nat} (h : ws.length ≤ 1000) : (TT L (k + 1)).weight_at [wD ws, nD p] = some (.v (.int (wt ws p))) := by rw [e_weight_at]; exact weight_at_s h
theorem t_bound {ws : List Int} (hn : n ≤ 4) (h : ws.length ≤ 1000) : ∃ r : Option Int, (TT L (k + 2)).bound_of [nD t, nD n, wD ws] = some (.v (bndD r)) ∧ (∀ b, r = some b → Makes n t ws b) ∧ (r = none → ∀ b, ¬ Makes n t ws b) := by rw [e_bound_of]; exact bound_of_s hn (fun t p => t_digit) fun p => t_weight h
theorem t_balance (hn : n ≤ 4) (ht : t < 2 ^ 2 ^ n) : ∃ r, (TT L (k + 3)).balance_of [nD t, nD n] = some (.v r) ∧ ((r = .non ∧ ¬ Bal n t) ∨ ∃ a b c d, BalAt n t a b c d ∧ r = .tup [sideD (sideL a b), sideD (sideL c d)]) := by
  rw [e_balance_of]
  exact balance_of_s hn ht (t_full (by omega)) (fun t => t_places hn) (fun P Z hP => by rw [e_pair_sums]; exact pair_sums_s hP Z) fun a b => by rw [e_side_of]; exact side_of_s
theorem t_threshold (hk : 25 ≤ k) (hn : n ≤ 4) (ht : t < 2 ^ 2 ^ n) : ∃ r, (TT L (k + 4)).threshold [nD t, nD n] = some (.v r) ∧ ThrR n t r := by
  have hi : (TT L (k + 2)).hi = true := decide_eq_true (show 21 ≤ k + 1 by omega)
  obtain ⟨Us, e, _, m⟩ := all_weights_s hn
  rw [e_threshold]
  refine threshold_s (Us := Us) hn ht (t_check4 hn ht) (t_balance hn ht) (by rw [e_all_weights, hi]; exact e) m fun ws hw => t_bound hn (by have := ((m ws).mp hw).1; omega)
theorem t_takes_weights {ws : List Int} {b : Int} (hn : n ≤ 4) (ht : t < 2 ^ 2 ^ n) (hl : ws.length = n) : (TT L (k + 3)).takes_weights [nD t, nD n, wD ws, .int b] = some (.v (.bl (mkB n t ws b))) := by
  rw [e_takes_weights]
  exact takes_weights_s hn hl (t_check4 hn ht) (fun t p => t_digit) fun p => t_weight (by omega)
theorem t_of_input {M : List (Nat × Nat)} {i : Nat} (hl : M.length ≤ 1000) : (TT L (k + 1)).of_input [sideD M, nD i] = some (.v (nD (ofI M i))) := by rw [e_of_input]; exact of_input_s hl
theorem t_takes_balance {U V : List (Nat × Nat)} (hn : n ≤ 4) (ht : t < 2 ^ 2 ^ n) (hU : U.length ≤ 1000) (hV : V.length ≤ 1000) : (TT L (k + 3)).takes_balance [nD t, nD n, sideD U, sideD V] = some (.v (.bl (tkB n t U V))) := by
  rw [e_takes_balance]
  refine takes_balance_s hn hU hV (t_check4 hn ht) ?_ ?_ fun M i h => t_of_input h
  · rw [e_is_side]; exact is_side_s (b := true) hn hU fun t p => t_digit
  · rw [e_is_side]; exact is_side_s (b := false) hn hV fun t p => t_digit
theorem t_power (hn : n ≤ 60) : (TT L (k + 1))._law_power [nD n] = some (.v (nD (2 ^ n))) := by rw [e__law_power]; exact power_s hn
theorem t_bits {p : Nat} (hn : n ≤ 29) : (TT L (k + 2))._law_bits [nD p, nD n] = some (.v (.tup ((bitsN n p).map nD))) := by rw [e__law_bits]; exact lbits_s hn fun i hi => t_power (by omega)
theorem t_squeezed {i : Nat} (hn : n ≤ 4) (h1 : 1 ≤ n) (hi : i < n) : (TT L (k + 3))._law_squeezed [nD t, nD n, nD i] = some (.v (nD (squ n i t))) := by
  rw [e__law_squeezed]
  exact squeezed56_s hn h1 hi (fun j hj => t_power (by omega)) fun p hp => by rw [e__law_digit]; exact ldigit_s hp (t_power (by omega))
theorem t_from {b : Nat → Bool} {φ : List D → Option D} (hn : n ≤ 5) (hk : 21 ≤ k) (hφ : ∀ p, p < 2 ^ n → φ [nD p] = some (.bl (b p))) : (TT L (k + 2))._law_from [.d (nD n), .fn φ] = some (.v (nD (tb (2 ^ n) b))) := by
  have e : (TT L (k + 1)).hi = true := decide_eq_true hk
  rw [e__law_from, e]
  exact lfrom_s hn (t_power (by omega)) hφ
end
end K56

/-! k56: what the law's lines need besides. Printed by wip/gen/k56m.py. -/
namespace K56
open PySem PySem.Spec PyProof.Rows L2 Ev Tab Thr
theorem wp_bind {α γ : Type} {x : Option α} {kk : α → Option γ} {R : α → Prop} {Q : γ → Prop} (h : Wp x R) (hk : ∀ y, R y → Wp (kk y) Q) : Wp (x.bind kk) Q := by
  obtain ⟨y, e, r⟩ := h
  rw [e, Option.bind_some]
  exact hk y r
theorem nD_lit {a : Nat} : nD a = .int (a : Int) := rfl
theorem ok_s {z : Str} (h : PyData.strOk z = true) : D.ok (.str z) = true := ok_of (n := 0) (by simp [D.okN, h])
theorem ok_bal : D.ok (.str "balance") = true := ok_s (by decide +kernel)
theorem ok_wts : D.ok (.str "weights") = true := ok_s (by decide +kernel)
theorem eqv_s {a b : Str} : D.eqv (.str a) (.str b) = decide (a = b) := by
  unfold D.eqv
  rfl
theorem eq_bb {S : Sto} : vEq (.d (.str "balance")) (.d (.str "balance")) S = some (.d (.bl true)) := by rw [vEq_ ok_bal ok_bal, eqv_s, decide_eq_true rfl]
theorem eq_wb {S : Sto} : vEq (.d (.str "weights")) (.d (.str "balance")) S = some (.d (.bl false)) := by rw [vEq_ ok_wts ok_bal, eqv_s, decide_eq_false (by decide)]
theorem ne_bb {S : Sto} : vNe (.d (.str "balance")) (.d (.str "balance")) S = some (.d (.bl false)) := by rw [vNe_ ok_bal ok_bal, eqv_s, decide_eq_true rfl]; rfl
theorem ne_ww {S : Sto} : vNe (.d (.str "weights")) (.d (.str "weights")) S = some (.d (.bl false)) := by rw [vNe_ ok_wts ok_wts, eqv_s, decide_eq_true rfl]; rfl
theorem small {i j : Int} (h : i.natAbs < 100000) : pMul i j = true := by
  unfold pMul
  rw [decide_eq_true (show -(2 ^ 64) < i by omega), decide_eq_true (show i < 2 ^ 64 by omega)]
  rfl
/-! ### drawn weights -/
section
variable {FS : List RV → Sto → Option (RV × Sto)} {n : Nat}
theorem wp_drawn (hF : TakeY FS) (hn : n ≤ 5) {γ : Type} {Q : γ → Prop} {kk : List D × Sto → Option γ} {y0 y2 y3 y5 y6 y7 y8 y9 y10 y11 y12 y13 y14 y15 y16 y17 y18 y19 y20 y21 y22 y23 y24 : Option RV} {is : List Int} {Z : Sto}
    (hk : ∀ (ws : List Int) (js : List Int), ws.length = n → (∀ w ∈ ws, -3 ≤ w ∧ w ≤ 3) → Wp (kk (ws.map D.int, SoY js Z)) Q) : Wp ((lLc (fMap (aCons (eVar 4) (aNil)) oR1) (gN 21) (fTrue) (eBin vSub (eCallS 2 FS (aCons (eVar 1) (aCons (eC (.int 7)) (aNil)))) (eC (.int 3))) [21] [y0, some (.o 0), y2, y3, some (.d (nD n)), y5, y6, y7, y8, y9, y10, y11, y12, y13, y14, y15, y16, y17, y18, y19, y20, y21, y22, y23, y24] (SoY is Z)).bind kk) Q := by
  obtain ⟨vs, S', h1, ⟨js, h2⟩, h3, h4⟩ := lcGo_inv (xs := nats n) (gg := gN 21) (t := fTrue) (f := eBin vSub (eCallS 2 FS (aCons (eVar 1) (aCons (eC (.int 7)) (aNil)))) (eC (.int 3))) (ρ := [y0, some (.o 0), y2, y3, some (.d (nD n)), y5, y6, y7, y8, y9, y10, y11, y12, y13, y14, y15, y16, y17, y18, y19, y20, none, y22, y23, y24]) (fun S => ∃ js, S = SoY js Z) (fun _ v => ∃ w : Int, (-3 ≤ w ∧ w ≤ 3) ∧ v = D.int w) (nats n) 0 (fun i d _ S ⟨js, hS⟩ => by
    subst hS
    obtain ⟨c, j2, hc, e2⟩ := hF js 7 Z (by decide)
    have e2 : FS [.o 0, .d (.int 7)] (SoY js Z) = some (.d (nD c), SoY j2 Z) := e2
    refine ⟨_, .int ((c : Int) - 3), SoY j2 Z, rfl, rfl, ?_, ⟨j2, rfl⟩, (c : Int) - 3, ⟨by omega, by omega⟩, rfl⟩
    simp? only [callSK_ (n := 2) (rs := [.o 0, .d (.int 7)]) rfl, e2]) (SoY is Z) ⟨is, rfl⟩
  subst h2
  have key : ∀ vs : List D, (∀ v ∈ vs, ∃ w : Int, (-3 ≤ w ∧ w ≤ 3) ∧ v = D.int w) → ∃ ws : List Int, vs = ws.map D.int ∧ ∀ w ∈ ws, -3 ≤ w ∧ w ≤ 3 := by
    intro vs
    induction vs with
    | nil => intro _; exact ⟨[], rfl, fun c h => by cases h⟩
    | cons v vs ih =>
      intro h
      obtain ⟨w, hw, rfl⟩ := h v List.mem_cons_self
      obtain ⟨ws, rfl, h2⟩ := ih fun x hx => h x (List.mem_cons_of_mem _ hx)
      refine ⟨w :: ws, rfl, fun x hx => ?_⟩
      rcases List.mem_cons.mp hx with rfl | hx
      · exact hw
      · exact h2 x hx
  obtain ⟨ws, rfl, h6⟩ := key vs fun v hv => by
    obtain ⟨i, hi, rfl⟩ := List.getElem_of_mem hv
    exact h4 i _ (List.getElem?_eq_getElem hi)
  have hl : (nats n).length ≤ Lim := by rw [nats_len]; unfold Lim; omega
  have hs : (fMap (aCons (eVar 4) (aNil)) oR1) [y0, some (.o 0), y2, y3, some (.d (nD n)), y5, y6, y7, y8, y9, y10, y11, y12, y13, y14, y15, y16, y17, y18, y19, y20, y21, y22, y23, y24] (SoY is Z) = some (⟨nats n, none⟩, SoY is Z) := by
    simp? only [oR1_n (show n < 2 ^ 62 by omega)]
  rw [lLc_, hs, Option.bind_some, lcK_ hl]
  refine wp_bind ⟨_, h1, rfl⟩ fun y hy => ?_
  subst hy
  exact hk ws js (by rw [List.length_map, nats_len] at h3; exact h3) h6
end
/-! ### the table of weights -/
def psiB (L : Tb) : Fe RV := eBin vGe (eCall (bInts List.sum) (aCons (eVal (lLc (fMap (aCons (eVar 1) (aCons (eCallP 2 L._law_bits (aCons (eVar 0) (aCons (eVar 2) (aNil)))) (aNil))) oZip) (gTp 2 (gsCons (gN 4) (gsCons (gN 5) (gsNil)))) (fTrue) (eBin vMul (eVar 4) (eVar 5)) [4, 5])) (aNil))) (eVar 3)
def fB (ws : List Int) (n : Nat) (b : Int) (p : Nat) : Bool := decide (b ≤ ((ws.zip (bitsN n p)).map fun q => q.1 * (q.2 : Int)).sum)
theorem zipD_i : ∀ (a : List Int) (b : List Nat), zipD (a.map D.int) (b.map nD) = (a.zip b).map fun q => .tup [.int q.1, nD q.2]
  | [], _ => rfl
  | _ :: _, [] => rfl
  | x :: a, y :: b => by
    rw [List.map_cons, List.map_cons, List.zip_cons_cons, List.map_cons, ← zipD_i a b]
    rfl
section
variable {n : Nat}
theorem psi_s {ws : List Int} {b : Int} {p : Nat} (hn : n ≤ 5) (hw : ∀ w ∈ ws, -3 ≤ w ∧ w ≤ 3) (hl : ws.length = n) : psiOf 6 (psiB low) [some (wD ws), some (nD n), some (.int b)] [nD p] = some (.bl (fB ws n b p)) := by
  have e1 : low._law_bits [.int (p : Int), .int (n : Int)] = some (.v (.tup ((bitsN n p).map nD))) := t_bits (L := bot) (k := 18) (by omega)
  show ((psiB low) [some (.d (nD p)), some (.d (wD ws)), some (.d (nD n)), some (.d (.int b)), none, none] []).bind _ = _
  unfold psiB
  refine wp_eq ?_
  dsimp? only [Option.bind_assoc]
  refine wp_lcm (ps := ws.zip (bitsN n p)) (fun q => .tup [.int q.1, nD q.2]) (fun q => .int (q.1 * (q.2 : Int))) (S1 := []) (by simp? only [e1, oZip_t, zipD_i]) (by rw [List.length_zip]; unfold Lim; omega) (fun q hq => ?_) ?_
  · have h1 := hw _ (List.of_mem_zip hq).1
    simp? only [gTp2', vMul_i (small (i := q.1) (j := (q.2 : Int)) (by omega))]
    exact wp_some ⟨rfl, rfl⟩
  · dsimp? only [sum_mapI]
    exact wp_some rfl
theorem table_c {k : Nat} {ws : List Int} {b : Int} (hk : 21 ≤ k) (hn : n ≤ 5) (hw : ∀ w ∈ ws, -3 ≤ w ∧ w ≤ 3) (hl : ws.length = n) {y0 y1 y2 y3 y7 y8 y9 y10 y11 y12 y13 y14 y15 y16 y17 y18 y19 y20 y21 y22 y23 y24 : Option RV} {S : Sto} :
    eCallC 2 (T (k + 2))._law_from [⟨1, psiOf 6 (psiB low), [5, 4, 6]⟩] (aD (aCons (eVar 4) (aNil))) [y0, y1, y2, y3, some (.d (nD n)), some (.d (wD ws)), some (.d (.int b)), y7, y8, y9, y10, y11, y12, y13, y14, y15, y16, y17, y18, y19, y20, y21, y22, y23, y24] S = some (.d (nD (tb (2 ^ n) (fB ws n b))), S) := by
  have hf : (T (k + 2))._law_from [.d (nD n), .fn (fun ds => if ds.length = 1 then psiOf 6 (psiB low) [some (wD ws), some (nD n), some (.int b)] ds else none)] = some (.v (nD (tb (2 ^ n) (fB ws n b)))) := t_from hn hk fun p hp => by
    rw [if_pos (show [nD p].length = 1 from rfl)]
    exact psi_s hn hw hl
  rw [eCallC_d (d := nD n) rfl]
  have e : Psi.at_ ⟨1, psiOf 6 (psiB low), [5, 4, 6]⟩ [y0, y1, y2, y3, some (.d (nD n)), some (.d (wD ws)), some (.d (.int b)), y7, y8, y9, y10, y11, y12, y13, y14, y15, y16, y17, y18, y19, y20, y21, y22, y23, y24] = .fn (fun ds => if ds.length = 1 then psiOf 6 (psiB low) [some (wD ws), some (nD n), some (.int b)] ds else none) := rfl
  rw [e, hf, Option.bind_some, callCK_v]
end
/-! ### sides again -/
section
variable {n w m : Nat} {A B : List (Nat × Nat)} {ws : List Int} {S : Sto} {y0 y1 y2 y3 y4 y5 y6 y7 y8 y9 y10 y11 y12 y13 y14 y15 y16 y17 y18 y19 y20 y21 y22 y23 y24 : Option RV} {z : D}
theorem dbl_c (hA : A.length ≤ 1000) : lLc (sSeq (eVar 16)) (gTp 2 (gsCons (gN 22) (gsCons (gN 23) (gsNil)))) (fTrue) (eTup (aCons (eVar 22) (aCons (eBin vMul (eC (.int 2)) (eVar 23)) (aNil)))) [22, 23] [y0, y1, y2, y3, y4, y5, y6, y7, y8, y9, y10, y11, y12, y13, y14, y15, some (.d (sideD A)), y17, y18, y19, y20, y21, y22, y23, y24] S = some ((A.map fun q => (q.1, 2 * q.2)).map qD, S) := by
  have l2 : ∀ x y : D, ([x, y] : List D).length ≤ Lim := fun x y => by show 2 ≤ Lim; unfold Lim; omega
  have e := lLc_map (src := sSeq (eVar 16)) (gg := gTp 2 (gsCons (gN 22) (gsCons (gN 23) (gsNil)))) (f := eTup (aCons (eVar 22) (aCons (eBin vMul (eC (.int 2)) (eVar 23)) (aNil)))) (vs := [22, 23]) (ρ := [y0, y1, y2, y3, y4, y5, y6, y7, y8, y9, y10, y11, y12, y13, y14, y15, some (.d (sideD A)), y17, y18, y19, y20, y21, y22, y23, y24]) (S := S) (S1 := S) (ps := A) qD (fun q => qD (q.1, 2 * q.2)) (by simp? only []) (by unfold Lim; omega) (fun q hq => by
    refine ⟨[y0, y1, y2, y3, y4, y5, y6, y7, y8, y9, y10, y11, y12, y13, y14, y15, some (.d (sideD A)), y17, y18, y19, y20, y21, some (.d (nD q.1)), some (.d (nD q.2)), y24], rfl, ?_⟩
    simp? only [vMul_i (small (i := 2) (j := (q.2 : Int)) (by decide)), if_pos (l2 _ _)]
    rfl)
  rw [List.map_map]
  exact e
theorem twice_c (hA : A.length ≤ 1000) (hB : B.length ≤ 1000) : lLc (sSeq (eSlT (eVar 8) (oSome (eC (.int 1))) (oNo))) (gN 16) (fTrue) (eCall bTup (aCons (eVal (lLc (sSeq (eVar 16)) (gTp 2 (gsCons (gN 22) (gsCons (gN 23) (gsNil)))) (fTrue) (eTup (aCons (eVar 22) (aCons (eBin vMul (eC (.int 2)) (eVar 23)) (aNil)))) [22, 23])) (aNil))) [16] [y0, y1, y2, y3, y4, y5, y6, y7, some (.d (.tup [z, sideD A, sideD B])), y9, y10, y11, y12, y13, y14, y15, y16, y17, y18, y19, y20, y21, y22, y23, y24] S = some ([sideD (A.map fun q => (q.1, 2 * q.2)), sideD (B.map fun q => (q.1, 2 * q.2))], S) := by
  show _ = some (([A, B] : List (List (Nat × Nat))).map (fun L => sideD (L.map fun q => (q.1, 2 * q.2))), S)
  refine lLc_map (ps := [A, B]) (S1 := S) sideD (fun L => sideD (L.map fun q => (q.1, 2 * q.2))) ?_ (by show 2 ≤ Lim; unfold Lim; omega) fun L hL => ?_
  · simp? only []
    rfl
  · have hl : L.length ≤ 1000 := by
      rcases List.mem_cons.mp hL with rfl | hL
      · exact hA
      · rw [List.mem_singleton] at hL; rw [hL]; exact hB
    refine ⟨[y0, y1, y2, y3, y4, y5, y6, y7, some (.d (.tup [z, sideD A, sideD B])), y9, y10, y11, y12, y13, y14, y15, some (.d (sideD L)), y17, y18, y19, y20, y21, y22, y23, y24], rfl, ?_⟩
    dsimp? only [dbl_c hl]
theorem bits_at {p i : Nat} (hi : i < n) : atI ((bitsN n p).map nD) (i : Int) = some (.int (((p.testBit i).toNat : Nat) : Int)) := by
  rw [atI_n (by simpa [bitsN] using hi)]
  unfold bitsN
  rw [List.getD_eq_getElem?_getD, List.getElem?_map, List.getElem?_range hi]
  rfl
theorem both_ok (a : 1 ≤ n) (b : n ≤ 4) : ∀ v < 2 ^ n, ∀ w < 2 ^ n, (((List.range n).filter fun i => !decide ((((v.testBit i).toNat : Nat) : Int) = (((w.testBit i).toNat : Nat) : Int))).map fun i => 2 ^ i).sum = v ^^^ w :=
  n4 (P := fun n => ∀ v < 2 ^ n, ∀ w < 2 ^ n, (((List.range n).filter fun i => !decide ((((v.testBit i).toNat : Nat) : Int) = (((w.testBit i).toNat : Nat) : Int))).map fun i => 2 ^ i).sum = v ^^^ w) (by decide +kernel) (by decide +kernel) (by decide +kernel) (by decide +kernel) a b
theorem mov_c (a : 1 ≤ n) (b : n ≤ 4) (hw : w < 2 ^ n) (hA : A.length ≤ 1000) (hp : ∀ q ∈ A, q.1 < 2 ^ n) : lLc (sSeq (eVar 16)) (gTp 2 (gsCons (gN 22) (gsCons (gN 23) (gsNil)))) (fTrue) (eTup (aCons (eCall (bInts List.sum) (aCons (eVal (lLc (fMap (aCons (eVar 4) (aNil)) oR1) (gN 17) (fTest (eBin vNe (eBin vIx (eCallP 2 (T 100)._law_bits (aCons (eVar 22) (aCons (eVar 4) (aNil)))) (eVar 17)) (eBin vIx (eCallP 2 (T 100)._law_bits (aCons (eVar 13) (aCons (eVar 4) (aNil)))) (eVar 17)))) (eCallP 1 (T 100)._law_power (aCons (eVar 17) (aNil))) [17])) (aNil))) (aCons (eVar 23) (aNil)))) [22, 23] [y0, y1, y2, y3, some (.d (nD n)), y5, y6, y7, y8, y9, y10, y11, y12, some (.d (nD w)), y14, y15, some (.d (sideD A)), y17, y18, y19, y20, y21, y22, y23, y24] S = some ((A.map fun q => (q.1 ^^^ w, q.2)).map qD, S) := by
  have l2 : ∀ x y : D, ([x, y] : List D).length ≤ Lim := fun x y => by show 2 ≤ Lim; unfold Lim; omega
  rw [List.map_map]
  refine lLc_map (ps := A) (S1 := S) qD (fun q => qD (q.1 ^^^ w, q.2)) (by simp? only []) (by unfold Lim; omega) (fun q hq => ?_)
  refine ⟨[y0, y1, y2, y3, some (.d (nD n)), y5, y6, y7, y8, y9, y10, y11, y12, some (.d (nD w)), y14, y15, some (.d (sideD A)), y17, y18, y19, y20, y21, some (.d (nD q.1)), some (.d (nD q.2)), y24], rfl, ?_⟩
  have hq1 := hp q hq
  have hb := both_ok a b q.1 hq1 w hw
  refine wp_eq ?_
  dsimp? only [Option.bind_assoc]
  refine wp_lc (ps := List.range n) nD (fun i => nD (2 ^ i)) (fun i => !decide ((((q.1.testBit i).toNat : Nat) : Int) = (((w.testBit i).toNat : Nat) : Int))) (S1 := S) (by simp? only [oR1_n (show n < 2 ^ 62 by omega)]; rfl) (by rw [List.length_range]; unfold Lim; omega) (fun i hi => ?_) ?_
  · have hi := List.mem_range.mp hi
    have b1 : (T 100)._law_bits [.int (q.1 : Int), .int (n : Int)] = _ := t_bits (L := low) (k := 98) (by omega)
    have b2 : (T 100)._law_bits [.int (w : Int), .int (n : Int)] = _ := t_bits (L := low) (k := 98) (by omega)
    have b3 : (T 100)._law_power [.int (i : Int)] = some (.v (.int ((2 ^ i : Nat) : Int))) := t_power (L := low) (k := 99) (by omega)
    have i1 := bits_at (p := q.1) hi
    have i2 := bits_at (p := w) hi
    cases hc : decide ((((q.1.testBit i).toNat : Nat) : Int) = (((w.testBit i).toNat : Nat) : Int))
    · dsimp? only [b1, b2, b3, i1, i2, hc]
      exact wp_some ⟨rfl, rfl, fun _ => rfl⟩
    · dsimp? only [b1, b2, b3, i1, i2, hc]
      exact wp_some ⟨rfl, rfl, fun z => by cases z⟩
  · dsimp? only [sum_map, hb, if_pos (l2 _ _)]
    exact wp_some rfl
theorem kw_c (hm : m < 1000) (hl : ws.length ≤ 1000) : lLc (sSeq (eVar 5)) (gN 24) (fTrue) (eBin vMul (eVar 21) (eVar 24)) [24] [y0, y1, y2, y3, y4, some (.d (wD ws)), y6, y7, y8, y9, y10, y11, y12, y13, y14, y15, y16, y17, y18, y19, y20, some (.d (nD m)), y22, y23, y24] S = some ((ws.map fun x => (m : Int) * x).map D.int, S) := by
  rw [List.map_map]
  refine lLc_map (ps := ws) (S1 := S) D.int (fun x => .int ((m : Int) * x)) (by simp? only []) (by unfold Lim; omega) (fun x hx => ?_)
  refine ⟨[y0, y1, y2, y3, y4, some (.d (wD ws)), y6, y7, y8, y9, y10, y11, y12, y13, y14, y15, y16, y17, y18, y19, y20, some (.d (nD m)), y22, y23, some (.d (.int x))], rfl, ?_⟩
  simp? only [vMul_i (small (i := (m : Int)) (j := x) (by omega))]
theorem nw_c (hl : ws.length ≤ 1000) : lLc (sSeq (eVar 5)) (gN 24) (fTrue) (eBin vSub (eC (.int 0)) (eVar 24)) [24] [y0, y1, y2, y3, y4, some (.d (wD ws)), y6, y7, y8, y9, y10, y11, y12, y13, y14, y15, y16, y17, y18, y19, y20, y21, y22, y23, y24] S = some ((ws.map fun x => 0 - x).map D.int, S) := by
  rw [List.map_map]
  refine lLc_map (ps := ws) (S1 := S) D.int (fun x => .int (0 - x)) (by simp? only []) (by unfold Lim; omega) (fun x hx => ?_)
  refine ⟨[y0, y1, y2, y3, y4, some (.d (wD ws)), y6, y7, y8, y9, y10, y11, y12, y13, y14, y15, y16, y17, y18, y19, y20, y21, y22, y23, some (.d (.int x))], rfl, ?_⟩
  simp? only []
end
/-! ### slices -/
theorem sl_to {ws : List Int} {i : Nat} (h : i ≤ ws.length) : Ev.cutD (ws.map D.int) none (some (i : Int)) = (ws.take i).map D.int := by
  unfold Ev.cutD
  rw [HT.sIx_none, HT.sIx_nat, List.length_map, Nat.min_eq_left h, List.drop_zero, Nat.sub_zero, List.map_take]
theorem sl_from {ws : List Int} {i : Nat} : Ev.cutD (ws.map D.int) (some ((i + 1 : Nat) : Int)) none = (ws.drop (i + 1)).map D.int := by
  rw [cut_from, List.map_drop]
end K56

/-! k56: the law. Printed by wip/gen/k56l.py. -/
namespace K56
open PySem PySem.Spec PyProof.Rows L2 Ev Tab Thr
theorem e_law {k : Nat} : (T (k + 1)).law = runP 25 (F_law low (T k)) := rfl
theorem e_draws {k : Nat} : (T (k + 1))._law_draws = runP 9 drawsF := rfl
theorem draws100 {ns : List Int} (h : ns.length ≤ 63) : ∃ is : List Int, (T 100)._law_draws [.lst (dInts ns), .int 400] = some (.l (dInts is)) := by
  rw [e_draws (k := 99)]
  exact draws_ok (cnt := 400) (by decide) h
theorem t_takeY : TakeY (T 100)._law_take := takeY_s
theorem t_tableY {n : Nat} (hn : n ≤ 5) (is : List Int) (Z : Sto) : ∃ t js, t < 2 ^ 2 ^ n ∧ (T 100)._law_table [.o 0, .d (nD n)] (SoY is Z) = some (.d (nD t), SoY js Z) := by
  rw [show (T 100)._law_table = runS 6 (S__law_table (T 99)._law_take (T 99)._law_power) from rfl]
  exact ltableY_s takeY_s hn (t_power (L := low) (k := 98) (by omega)) is Z
theorem oR1_16 {S : Sto} : oR1 [.d (.int 16)] S = some ⟨nats 16, none⟩ := oR1_n (a := 16) (by decide)
theorem oR1_5 {S : Sto} : oR1 [.d (.int 5)] S = some ⟨nats 5, none⟩ := oR1_n (a := 5) (by decide)
theorem n2 {n t a b c d : Nat} (h : BalAt n t a b c d) (a1 : 1 ≤ n) : 2 ≤ n := by
  refine Classical.byContradiction fun z => ?_
  have hn : n = 1 := by omega
  subst hn
  obtain ⟨ab, bn, cd, dn, ta, tb, tc, td, e1, e2⟩ := h
  have p2 : (2 : Nat) ^ 1 = 2 := rfl
  rw [p2] at bn dn
  have hb : b = 0 ∨ b = 1 := by omega
  have hd : d = 0 ∨ d = 1 := by omega
  have ha : a = 0 ∨ a = 1 := by omega
  have hc : c = 0 ∨ c = 1 := by omega
  rcases ha with rfl | rfl <;> rcases hb with rfl | rfl <;> rcases hc with rfl | rfl <;> rcases hd with rfl | rfl <;> first | (rw [ta] at tc; cases tc; done) | (rw [tb] at td; cases td; done) | (rw [ta] at td; cases td; done) | (rw [tb] at tc; cases tc; done) | (revert e1 e2; decide)
theorem flat1 {α : Type} {x : α} : ∀ m : Nat, (List.replicate m [x]).flatten = List.replicate m x
  | 0 => rfl
  | m + 1 => by rw [List.replicate_succ, List.flatten_cons, flat1 m]; rfl
theorem rep1 {n : Nat} (h : 2 ≤ n) (h5 : n ≤ 5) {S : Sto} : vMulT (.d (.tup [.int 1])) (.d (.int (n : Int))) S = some (.d (wD (List.replicate n 1))) := by
  show (if _ then _ else _) = _
  rw [if_pos ⟨by simp, by omega, by omega, by simp⟩]
  have : (List.replicate (n : Int).toNat [D.int 1]).flatten = (List.replicate n 1).map D.int := by
    rw [Int.toNat_natCast, List.map_replicate, flat1]
  rw [this]
theorem plain (ns : List Int) (h : ns.length ≤ 63) : (T 101).law [.lst (ns.map D.int)] = some (.v (.bl true)) := by
  obtain ⟨is, e1⟩ := draws100 h
  have e2 : callLK 2 (T 100)._law_draws ([.d (.lst (dInts ns)), .d (.int 400)], []) = some (dInts is, []) := callLK_ e1
  rw [e_law (k := 100)]
  show (F_law low (T 100) [some (.d (.lst (dInts ns))), none, none, none, none, none, none, none, none, none, none, none, none, none, none, none, none, none, none, none, none, none, none, none, none] []).bind finP = _
  unfold F_law
  generalize hX : some (RV.d (.lst (dInts ns))) = X0 at *
  dsimp? only [← hX, e2, List.length_nil, List.nil_append, sFor_, Option.bind_assoc]
  rw [hX]
  refine wp_eq (wp_lc (ps := List.range 16) nD nD (fun t => decide (t = 6 ∨ t = 9)) (S1 := SoY is []) (by simp? only [oR1_16]; rfl) (by decide) (fun t ht => ?_) ?_)
  · have ht := List.mem_range.mp ht
    obtain ⟨r, er, hr⟩ := t_threshold (L := low) (k := 96) (n := 2) (t := t) (by decide) (by decide) ht
    have er : (T 100).threshold [.int (t : Int), .int 2] = some (.v r) := er
    rcases hr with ⟨a, b, c, d, hb, rfl⟩ | ⟨nb, ws, b, _, _, _, rfl⟩
    · have := (odd2 t ht).mp hb.bal
      dsimp? only [er, eq_bb]
      exact wp_some ⟨(decide_eq_true this).symm, rfl, fun _ => rfl⟩
    · have := fun z => nb ((odd2 t ht).mpr z)
      dsimp? only [er, eq_wb]
      exact wp_some ⟨(decide_eq_false this).symm, rfl, fun z => by rw [decide_eq_false this] at z; cases z⟩
  have e69 : ((List.range 16).filter fun t => decide (t = 6 ∨ t = 9)).map nD = [.int 6, .int 9] := by decide +kernel
  have ne69 : ∀ S, vNe (.d (.lst [.int 6, .int 9])) (.d (.lst [.int 6, .int 9])) S = some (.d (.bl false)) := fun S => by
    have o : D.ok (.lst ([6, 9].map D.int)) = true := ok_ints
    show vNe (.d (.lst ([6, 9].map D.int))) (.d (.lst ([6, 9].map D.int))) S = _
    rw [vNe_ o o]
    rfl
  have l2 : ∀ x y : D, ([x, y] : List D).length ≤ Lim := fun x y => by show 2 ≤ Lim; unfold Lim; omega
  have l3 : ∀ x y z : D, ([x, y, z] : List D).length ≤ Lim := fun x y z => by show 3 ≤ Lim; unfold Lim; omega
  have l1 : ∀ x : D, ([x] : List D).length ≤ Lim := fun x => by show 1 ≤ Lim; unfold Lim; omega
  rw [e69]
  dsimp? only [if_pos (l2 _ _), ne69, oR1_5, sFor_, Option.bind_assoc]
  generalize hX2 : some (RV.d (D.lst [D.int 6, D.int 9])) = X2
  refine wp_forL (ds := List.range 5) (e := nD) (fun done ρ S => ∃ x3 x4 x5 x6 x7 x8 x9 x10 x11 x12 x13 x14 x15 x16 x17 x18 x19 x20 x21 x22 x23 x24 js Z, S = SoY js Z ∧ ρ = [X0, some (.o 0), X2, x3, x4, x5, x6, x7, x8, x9, x10, x11, x12, x13, x14, x15, x16, x17, x18, x19, x20, x21, x22, x23, x24]) ⟨_, _, _, _, _, _, _, _, _, _, _, _, _, _, _, _, _, _, _, _, _, _, is, [], rfl, rfl⟩ (fun done p rest hd ρ S ⟨x3, x4, x5, x6, x7, x8, x9, x10, x11, x12, x13, x14, x15, x16, x17, x18, x19, x20, x21, x22, x23, x24, js, Z, e3, e4⟩ => ?_) fun ρ' S' ⟨x3, x4, x5, x6, x7, x8, x9, x10, x11, x12, x13, x14, x15, x16, x17, x18, x19, x20, x21, x22, x23, x24, js, Z, e3, e4⟩ => ?_
  · subst e3 e4
    obtain ⟨v, j1, hv, t1⟩ := t_takeY js 4 Z (by decide)
    have t1 : (T 100)._law_take [.o 0, .d (.int 4)] (SoY js Z) = some (.d (.int (v : Int)), SoY j1 Z) := t1
    obtain ⟨n, hn⟩ : ∃ n, n = 1 + v := ⟨_, rfl⟩
    have hn1 : (1 : Int) + (v : Int) = (n : Int) := by omega
    have a : 1 ≤ n := by omega
    have b : n ≤ 4 := by omega
    have b5 : n ≤ 5 := by omega
    have n0 := Nat.two_pow_pos n
    have n16 : 2 ^ n ≤ 16 := pow_le (m := 4) b
    dsimp? only [callSK_ (n := 2) (rs := [.o 0, .d (.int 4)]) rfl, t1, hn1, Option.bind_assoc]
    refine wp_bind (R := fun z => z.1 = .nx ∧ ∃ t j5 x5 x6, t < 2 ^ 2 ^ n ∧ z.2.2 = SoY j5 Z ∧ z.2.1 = [X0, some (.o 0), X2, some (.d (nD p)), some (.d (nD n)), x5, x6, some (.d (nD t)), x8, x9, x10, x11, x12, x13, x14, x15, x16, x17, x18, x19, x20, x21, x22, x23, x24]) ?_ ?_
    · by_cases hp : p < 3
      · have d1 : decide ((p : Int) < 3) = true := decide_eq_true (by omega)
        dsimp? only [d1, Option.bind_assoc]
        refine wp_drawn t_takeY b5 fun ws j2 hl hw => ?_
        obtain ⟨c, j3, hc, t2⟩ := t_takeY j2 9 Z (by decide)
        have t2 : (T 100)._law_take [.o 0, .d (.int 9)] (SoY j2 Z) = some (.d (.int (c : Int)), SoY j3 Z) := t2
        have tc := @table_c n 98 ws ((c : Int) - 4) (by decide) b5 hw hl
        unfold psiB at tc
        dsimp? only [callSK_ (n := 2) (rs := [.o 0, .d (.int 9)]) rfl, t2, if_pos (l2 _ _), gTp2', tc]
        exact wp_some ⟨rfl, _, j3, _, _, tb_lt _ _, rfl, rfl⟩
      · have d1 : decide ((p : Int) < 3) = false := decide_eq_false (by omega)
        obtain ⟨t, j2, ht, t2⟩ := t_tableY b5 j1 Z
        have t2 : (T 100)._law_table [.o 0, .d (.int (n : Int))] (SoY j1 Z) = some (.d (.int (t : Int)), SoY j2 Z) := t2
        dsimp? only [d1, callSK_ (n := 2) (rs := [.o 0, .d (.int (n : Int))]) rfl, t2]
        exact wp_some ⟨rfl, t, j2, _, _, ht, rfl, rfl⟩
    · rintro ⟨fl, ρ1, S1⟩ ⟨h1, t, j5, x5, x6, ht, h2, h3⟩
      simp only at h1 h2 h3
      subst h1 h2 h3
      have hf : (T 100).full [.int (n : Int)] = some (.v (.int (full n : Int))) := t_full (L := low) (k := 99) b5
      have hct : full n ^^^ t < 2 ^ 2 ^ n := Nat.xor_lt_two_pow (full_lt n) ht
      have hs : (full n : Int) - (t : Int) = ((full n ^^^ t : Nat) : Int) := by
        have h1 := full_sub ht
        have h2 : t ≤ full n := by unfold full; omega
        omega
      have er : ∀ (a b c d : Option RV) (ρ : Env') (S : Sto), eRgT (fRg1 (eVar 4)) (a :: b :: c :: d :: some (.d (.int (n : Int))) :: ρ) S = some (.d (.tup (nats n)), S) := fun a b c d ρ S => eRgT_n rfl (by omega)
      have pwn : (T 100)._law_power [.int (n : Int)] = some (.v (.int ((2 ^ n : Nat) : Int))) := t_power (L := low) (k := 99) (by omega)
      have hp1 : ((2 ^ n : Nat) : Int) - 1 = ((2 ^ n - 1 : Nat) : Int) := by omega
      have ch1 : (T 100).changed [.int (t : Int), .int (n : Int), .tup [.tup (nats n), .int ((2 ^ n - 1 : Nat) : Int), .int 1]] = some (.v (.int ((chg (List.range n) (2 ^ n - 1) 1 n t : Nat) : Int))) := t_changed (L := low) (k := 96) (fl := 1) b5 ht (by omega) (by decide)
      have hdl : chg (List.range n) (2 ^ n - 1) 1 n t < 2 ^ 2 ^ n := chg_lt
      have b2 : Bal n (full n ^^^ t) ↔ Bal n t := bal_neg b ht hct fun p hp => compl_x hp
      have b3 : Bal n (chg (List.range n) (2 ^ n - 1) 1 n t) ↔ Bal n t := bal_dual b ht hdl fun p hp => by
        rw [chg_x a b (by omega) hp]
        cases t.testBit (p ^^^ (2 ^ n - 1)) <;> rfl
      obtain ⟨r1, er1, hr1⟩ := t_threshold (L := low) (k := 96) (by decide) b ht
      obtain ⟨r2, er2, hr2⟩ := t_threshold (L := low) (k := 96) (by decide) b hct
      obtain ⟨r3, er3, hr3⟩ := t_threshold (L := low) (k := 96) (by decide) b hdl
      have er1 : (T 100).threshold [.int (t : Int), .int (n : Int)] = some (.v r1) := er1
      have er2 : (T 100).threshold [.int ((full n ^^^ t : Nat) : Int), .int (n : Int)] = some (.v r2) := er2
      have er3 : (T 100).threshold [.int ((chg (List.range n) (2 ^ n - 1) 1 n t : Nat) : Int), .int (n : Int)] = some (.v r3) := er3
      generalize hdu : chg (List.range n) (2 ^ n - 1) 1 n t = du at *
      rcases hr1 with ⟨ba, bb, bc, bd, hb1, hr1⟩ | ⟨nb1, ws, bo, hl, hw, hmk, hr1⟩
      · subst hr1
        obtain ⟨u2, v2, hr2⟩ : ∃ x y, r2 = .tup [.str "balance", x, y] := by
          rcases hr2 with ⟨_, _, _, _, _, e⟩ | ⟨z, _⟩
          · exact ⟨_, _, e⟩
          · exact absurd (b2.mpr hb1.bal) z
        obtain ⟨u3, v3, hr3⟩ : ∃ x y, r3 = .tup [.str "balance", x, y] := by
          rcases hr3 with ⟨_, _, _, _, _, e⟩ | ⟨z, _⟩
          · exact ⟨_, _, e⟩
          · exact absurd (b3.mpr hb1.bal) z
        subst hr2 hr3
        have n2' := n2 hb1 a
        have lab : (sideL ba bb).length ≤ 1000 := by rw [sideLc_1]; exact Nat.le_trans sideLc_len (by decide)
        have lcd : (sideL bc bd).length ≤ 1000 := by rw [sideLc_1]; exact Nat.le_trans sideLc_len (by decide)
        have T1 : (T 100).takes_balance [.int ((full n ^^^ t : Nat) : Int), .int (n : Int), sideD (sideL bc bd), sideD (sideL ba bb)] = some (.v (.bl true)) := by
          have e := t_takes_balance (L := low) (k := 97) b hct lcd lab
          rw [sideLc_1, sideLc_1, bal_turned hb1 (fun p hp => compl_x hp)] at e
          rw [sideLc_1, sideLc_1]
          exact e
        have T2 : (T 100).takes_weights [.int (t : Int), .int (n : Int), wD (List.replicate n 1), .int 1] = some (.v (.bl false)) := by
          have e := t_takes_weights (L := low) (k := 97) (ws := List.replicate n 1) (b := 1) b ht (List.length_replicate)
          have z : mkB n t (List.replicate n 1) 1 = false := by
            cases z : mkB n t (List.replicate n 1) 1 with
            | false => rfl
            | true => exact absurd hb1.bal (no_bal (mkB_iff.mp z))
          rw [z] at e
          exact e
        have T3 : (T 100).takes_balance [.int (t : Int), .int (n : Int), sideD ((sideL ba bb).map fun q => (q.1, 2 * q.2)), sideD ((sideL bc bd).map fun q => (q.1, 2 * q.2))] = some (.v (.bl true)) := by
          have e := t_takes_balance (L := low) (k := 97) (U := sideLc ba bb 2) (V := sideLc bc bd 2) b ht (Nat.le_trans sideLc_len (by decide)) (Nat.le_trans sideLc_len (by decide))
          rw [bal_self hb1 (by decide)] at e
          rw [sideLc_2, sideLc_2]
          exact e
        have T4 : (T 100).takes_balance [.int (t : Int), .int (n : Int), sideD ((sideL ba bb).map fun q => (q.1, 2 * q.2)), sideD (sideL bc bd)] = some (.v (.bl false)) := by
          have e := t_takes_balance (L := low) (k := 97) (U := sideLc ba bb 2) (V := sideLc bc bd 1) b ht (Nat.le_trans sideLc_len (by decide)) (Nat.le_trans sideLc_len (by decide))
          rw [tk_false (by decide)] at e
          rw [sideLc_2, sideLc_1]
          exact e
        obtain ⟨w, j6, hww, t3⟩ := t_takeY j5 (2 ^ n) Z n0
        have t3 : (T 100)._law_take [.o 0, .d (.int ((2 ^ n : Nat) : Int))] (SoY j5 Z) = some (.d (.int (w : Int)), SoY j6 Z) := t3
        obtain ⟨S0, hS0⟩ : ∃ S0, S0 = SoY j6 Z := ⟨_, rfl⟩
        rw [← hS0] at t3
        have ch2 : (T 100).changed [.int (t : Int), .int (n : Int), .tup [.tup (nats n), .int (w : Int), .int 0]] = some (.v (.int ((chg (List.range n) w 0 n t : Nat) : Int))) := t_changed (L := low) (k := 96) (fl := 0) b5 ht hww (by decide)
        have lt : ∀ (q : Nat × Nat), q ∈ sideL ba bb → q.1 < 2 ^ n := fun q hq => by
          have h1 := hb1.ab; have h2 := hb1.bn
          unfold sideL at hq
          split at hq
          · rw [List.mem_singleton] at hq; subst hq; show ba < _; omega
          · rcases List.mem_cons.mp hq with rfl | hq
            · show ba < _; omega
            · rw [List.mem_singleton] at hq; subst hq; exact h2
        have lt2 : ∀ (q : Nat × Nat), q ∈ sideL bc bd → q.1 < 2 ^ n := fun q hq => by
          have h1 := hb1.cd; have h2 := hb1.dn
          unfold sideL at hq
          split at hq
          · rw [List.mem_singleton] at hq; subst hq; show bc < _; omega
          · rcases List.mem_cons.mp hq with rfl | hq
            · show bc < _; omega
            · rw [List.mem_singleton] at hq; subst hq; exact h2
        have srt : ∀ (x y : Nat) (S : Sto), bSrtL [.d (.lst (((sideL x y).map fun q => (q.1 ^^^ w, q.2)).map qD))] S = some ((sideLc (min (x ^^^ w) (y ^^^ w)) (max (x ^^^ w) (y ^^^ w)) 1).map qD) := fun x y S => by
          unfold bSrtL lookL
          simp only [Option.bind_some]
          rw [if_pos ⟨keys_side _, by
            rw [List.length_map, List.length_map, sideLc_1]
            have := sideLc_len (a := x) (b := y) (k := 1)
            unfold Lim; omega⟩, sort_side]
        have T5 : (T 100).takes_balance [.int ((chg (List.range n) w 0 n t : Nat) : Int), .int (n : Int), .tup ((sideLc (min (ba ^^^ w) (bb ^^^ w)) (max (ba ^^^ w) (bb ^^^ w)) 1).map qD), .tup ((sideLc (min (bc ^^^ w) (bd ^^^ w)) (max (bc ^^^ w) (bd ^^^ w)) 1).map qD)] = some (.v (.bl true)) := by
          have e := t_takes_balance (L := low) (k := 97) (t := chg (List.range n) w 0 n t) (U := sideLc (min (ba ^^^ w) (bb ^^^ w)) (max (ba ^^^ w) (bb ^^^ w)) 1) (V := sideLc (min (bc ^^^ w) (bd ^^^ w)) (max (bc ^^^ w) (bd ^^^ w)) 1) b chg_lt (Nat.le_trans sideLc_len (by decide)) (Nat.le_trans sideLc_len (by decide))
          rw [bal_moved hww hb1 (fun p hp => by rw [chg_x a b hww hp]; simp)] at e
          exact e
        generalize hmd : chg (List.range n) w 0 n t = md at *
        have l0 : ([] : List D).length ≤ Lim := by show 0 ≤ Lim; omega
        have at_ : ∀ M : List D, (S0 ++ [Ob.lst M])[S0.length]? = some (.lst M) := fun M => by rw [List.getElem?_append_right (Nat.le_refl _), Nat.sub_self]; rfl
        have mk1 : ∀ (M : List D) (g : Fe RV) (ρ : Env'), ml1K oApp g ρ (.o S0.length, S0 ++ [Ob.lst M]) = (g ρ (S0 ++ [Ob.lst M])).bind (ml1J oApp (.o S0.length)) := fun M g ρ => ml1K_ (at_ M)
        have mk2 : ∀ (M : List D) (x : D), M.length < Lim → ml1J oApp (.o S0.length) (.d x, S0 ++ [Ob.lst M]) = some (.d .non, S0 ++ [Ob.lst (M ++ [x])]) := fun M x hM => by
          rw [ml1J_ (at_ M), oApp_ hM, Option.bind_some, List.set_append_right _ _ (Nat.le_refl _), Nat.sub_self]
          rfl
        have vx : ∀ (M : List D) (i : Int), vIx (.o S0.length) (.d (.int i)) (S0 ++ [Ob.lst M]) = (atI M i).map RV.d := fun M i => vIx_o (at_ M)
        have m0 : ∀ x : D, ml1J oApp (.o S0.length) (.d x, S0 ++ [Ob.lst []]) = some (.d .non, S0 ++ [Ob.lst [x]]) := fun x => mk2 [] x (by show 0 < Lim; unfold Lim; omega)
        have m1' : ∀ y x : D, ml1J oApp (.o S0.length) (.d x, S0 ++ [Ob.lst [y]]) = some (.d .non, S0 ++ [Ob.lst [y, x]]) := fun y x => mk2 [y] x (by show 1 < Lim; unfold Lim; omega)
        dsimp? only [er1, hf, hs, er, pwn, hp1, if_pos (l3 _ _ _), if_pos (l1 _), oP3, oP4, ch1, er2, er3, ne_bb, eq_bb, T1, T2, rep1 n2' b5, vIsB, twice_c lab lcd, T3, T4, callSK_ (n := 2) (rs := [.o 0, .d (.int ((2 ^ n : Nat) : Int))]) rfl, t3, ch2, fOr_, orK_f, sFor_, if_pos l0, mk1, mov_c a b hww lab lt, mov_c a b hww lcd lt2, srt, m0, m1', vx, T5]
        have sc : ∀ (ρ : Env') (S : Sto), sCont ρ S = some (.ct, ρ, S) := fun _ _ => rfl
        dsimp? only [sc]
        subst hS0
        exact wp_some ⟨.inr rfl, _, _, _, _, _, _, _, _, _, _, _, _, _, _, _, _, _, _, _, _, _, _, j6, Z ++ [_], rfl, rfl⟩
      · subst hr1
        obtain ⟨u2, v2, hr2⟩ : ∃ x y, r2 = .tup [.str "weights", x, y] := by
          rcases hr2 with ⟨_, _, _, _, hb, _⟩ | ⟨_, _, _, _, _, _, e⟩
          · exact absurd (b2.mp hb.bal) nb1
          · exact ⟨_, _, e⟩
        obtain ⟨u3, v3, hr3⟩ : ∃ x y, r3 = .tup [.str "weights", x, y] := by
          rcases hr3 with ⟨_, _, _, _, hb, _⟩ | ⟨_, _, _, _, _, _, e⟩
          · exact absurd (b3.mp hb.bal) nb1
          · exact ⟨_, _, e⟩
        subst hr2 hr3
        dsimp? only [er1, hf, hs, er, pwn, hp1, if_pos (l3 _ _ _), if_pos (l2 _ _), oP3, ch1, er2, er3, ne_ww, eq_wb, fOr_, orK_f, gTp2', oR1_n (show n < 2 ^ 62 by omega), sFor_, Option.bind_assoc]
        refine wp_forL (ds := List.range n) (e := nD) (fun done ρ S => ∃ z17 z18 z19 z20, S = SoY j5 Z ∧ ρ = [X0, some (.o 0), X2, some (.d (nD p)), some (.d (nD n)), some (.d (wD ws)), some (.d (.int bo)), some (.d (nD t)), some (.d (.tup [.str "weights", wD ws, .int bo])), some (.d (.int ((full n ^^^ t : Nat) : Int))), some (.d (.tup (nats n))), some (.d (.int (du : Int))), x12, x13, x14, x15, x16, z17, z18, z19, z20, x21, x22, x23, x24]) ⟨_, _, _, _, rfl, rfl⟩ (fun done i rest hd ρ S ⟨z17, z18, z19, z20, e3, e4⟩ => ?_) fun ρ' S' ⟨z17, z18, z19, z20, e3, e4⟩ => ?_
        · subst e3 e4
          have hi := List.mem_range.mp (split_mem hd)
          have hil : i < ws.length := by omega
          have R1 : (T 100).rises [.int (t : Int), .int (n : Int), .int (i : Int)] = some (.v (.bl (risB n i t))) := t_rises (L := low) (k := 97) b5 hi ht
          have F1 : (T 100).falls [.int (t : Int), .int (n : Int), .int (i : Int)] = some (.v (.bl (falB n i t))) := t_falls (L := low) (k := 97) b5 hi ht
          have wi := atI_L (L := ws) hil
          have Su : (T 100).support [.int (t : Int), .int (n : Int)] = some (.v (.tup ((sup n t).map nD))) := t_support (L := low) (k := 97) b5 ht
          have X0f : (T 100).fixed [.int (t : Int), .int (n : Int), .int (i : Int), .int 0] = some (.v (.int (fx n i 0 t : Int))) := t_fixed (L := low) (k := 98) (b := 0) b5 hi ht
          have X1f : (T 100).fixed [.int (t : Int), .int (n : Int), .int (i : Int), .int 1] = some (.v (.int (fx n i 1 t : Int))) := t_fixed (L := low) (k := 98) (b := 1) b5 hi ht
          have Q0 : (T 100)._law_squeezed [.int (fx n i 0 t : Int), .int (n : Int), .int (i : Int)] = some (.v (.int (squ n i (fx n i 0 t) : Int))) := t_squeezed (L := low) (k := 97) b a hi
          have Q1 : (T 100)._law_squeezed [.int (fx n i 1 t : Int), .int (n : Int), .int (i : Int)] = some (.v (.int (squ n i (fx n i 1 t) : Int))) := t_squeezed (L := low) (k := 97) b a hi
          have s1 : ∀ S, vSub (.d (.int (n : Int))) (.d (.int 1)) S = some (.d (.int ((n - 1 : Nat) : Int))) := fun S => sub_1 a
          have M0 : Makes (n - 1) (squ n i (fx n i 0 t)) (ws.take i ++ ws.drop (i + 1)) (bo - 0 * ws.getD i 0) := makes_part (bit := 0) a b hi (by decide) hmk hl
          have M1 : Makes (n - 1) (squ n i (fx n i 1 t)) (ws.take i ++ ws.drop (i + 1)) (bo - 1 * ws.getD i 0) := makes_part (bit := 1) a b hi (by decide) hmk hl
          have lr : (ws.take i ++ ws.drop (i + 1)).length = n - 1 := by rw [List.length_append, List.length_take, List.length_drop]; omega
          obtain ⟨g0, h0, H0⟩ : ∃ x y, (T 100).threshold [.int (squ n i (fx n i 0 t) : Int), .int ((n - 1 : Nat) : Int)] = some (.v (.tup [.str "weights", x, y])) := by
            obtain ⟨r, e, hr⟩ := t_threshold (L := low) (k := 96) (n := n - 1) (t := squ n i (fx n i 0 t)) (by decide) (by omega) (tb_lt _ _)
            rcases hr with ⟨_, _, _, _, hb, _⟩ | ⟨_, _, _, _, _, _, rfl⟩
            · exact absurd hb.bal (no_bal M0)
            · exact ⟨_, _, e⟩
          obtain ⟨g1, h1, H1⟩ : ∃ x y, (T 100).threshold [.int (squ n i (fx n i 1 t) : Int), .int ((n - 1 : Nat) : Int)] = some (.v (.tup [.str "weights", x, y])) := by
            obtain ⟨r, e, hr⟩ := t_threshold (L := low) (k := 96) (n := n - 1) (t := squ n i (fx n i 1 t)) (by decide) (by omega) (tb_lt _ _)
            rcases hr with ⟨_, _, _, _, hb, _⟩ | ⟨_, _, _, _, _, _, rfl⟩
            · exact absurd hb.bal (no_bal M1)
            · exact ⟨_, _, e⟩
          have K0 : (T 100).takes_weights [.int (squ n i (fx n i 0 t) : Int), .int ((n - 1 : Nat) : Int), wD (ws.take i ++ ws.drop (i + 1)), .int (bo - 0 * ws.getD i 0)] = some (.v (.bl true)) := by
            have e := t_takes_weights (L := low) (k := 97) (n := n - 1) (t := squ n i (fx n i 0 t)) (ws := ws.take i ++ ws.drop (i + 1)) (b := bo - 0 * ws.getD i 0) (by omega) (tb_lt _ _) lr
            rw [mkB_iff.mpr M0] at e
            exact e
          have K1 : (T 100).takes_weights [.int (squ n i (fx n i 1 t) : Int), .int ((n - 1 : Nat) : Int), wD (ws.take i ++ ws.drop (i + 1)), .int (bo - 1 * ws.getD i 0)] = some (.v (.bl true)) := by
            have e := t_takes_weights (L := low) (k := 97) (n := n - 1) (t := squ n i (fx n i 1 t)) (ws := ws.take i ++ ws.drop (i + 1)) (b := bo - 1 * ws.getD i 0) (by omega) (tb_lt _ _) lr
            rw [mkB_iff.mpr M1] at e
            exact e
          have sl1 : ∀ {y0 y1 y2 y3 y4 y5 y6 y7 y8 y9 y10 y11 y12 y13 y14 y15 y16 y18 y19 y20 y21 y22 y23 y24 : Option RV} (S : Sto), slK oNo (oSome (eVar 17)) [y0, y1, y2, y3, y4, y5, y6, y7, y8, y9, y10, y11, y12, y13, y14, y15, y16, some (.d (nD i)), y18, y19, y20, y21, y22, y23, y24] (.d (wD ws), S) = some (.d (wD (ws.take i)), S) := fun S => by
            show some (RV.d (.tup (Ev.cutD (ws.map D.int) none (some (i : Int)))), S) = _
            rw [sl_to (by omega)]
          have sl2 : ∀ {y0 y1 y2 y3 y4 y5 y6 y7 y8 y9 y10 y11 y12 y13 y14 y15 y16 y18 y19 y20 y21 y22 y23 y24 : Option RV} (S : Sto), slK (oSome (eBin vAdd (eVar 17) (eC (.int 1)))) oNo [y0, y1, y2, y3, y4, y5, y6, y7, y8, y9, y10, y11, y12, y13, y14, y15, y16, some (.d (nD i)), y18, y19, y20, y21, y22, y23, y24] (.d (wD ws), S) = some (.d (wD (ws.drop (i + 1))), S) := fun S => by
            show some (RV.d (.tup (Ev.cutD (ws.map D.int) (some ((i : Int) + 1)) none)), S) = _
            rw [show (i : Int) + 1 = ((i + 1 : Nat) : Int) by omega, sl_from]
          have ct : ∀ S, vAdd (.d (wD (ws.take i))) (.d (wD (ws.drop (i + 1)))) S = some (.d (wD (ws.take i ++ ws.drop (i + 1)))) := fun S => by
            have := cat_t (a := (ws.take i).map D.int) (b := (ws.drop (i + 1)).map D.int) (S := S) (by rw [List.length_map, List.length_map, List.length_take, List.length_drop]; unfold Lim; omega)
            rw [this, ← List.map_append]
          have p0 : ∀ S, vMul (.d (.int 0)) (.d (.int (ws.getD i 0))) S = some (.d (.int (0 * ws.getD i 0))) := fun S => vMul_i (small (by decide))
          have p1 : ∀ S, vMul (.d (.int 1)) (.d (.int (ws.getD i 0))) S = some (.d (.int (1 * ws.getD i 0))) := fun S => vMul_i (small (by decide))
          have vs : ∀ S, vIn false (.d (.int (i : Int))) (.d (.tup ((sup n t).map nD))) S = some (.d (.bl (decide (i ∈ sup n t)))) := fun S => by
            rw [vIn_t ok_int ok_nats_t]
            show some (RV.d (.bl (inD (nD i) ((sup n t).map nD)))) = _
            rw [in_nats]
          have hsign : (0 < ws.getD i 0 ∧ risB n i t = true) ∨ (ws.getD i 0 < 0 ∧ falB n i t = true) ∨ (ws.getD i 0 = 0 ∧ risB n i t = true ∧ falB n i t = true ∧ i ∉ sup n t) := by
            by_cases h1 : 0 < ws.getD i 0
            · exact .inl ⟨h1, ris_ok hi hmk hl (by omega)⟩
            · by_cases h2 : ws.getD i 0 < 0
              · exact .inr (.inl ⟨h2, fal_ok hi hmk hl (by omega)⟩)
              · exact .inr (.inr ⟨by omega, ris_ok hi hmk hl (by omega), fal_ok hi hmk hl (by omega), sup_ok hi hmk hl (by omega)⟩)
          generalize hW : ws.getD i 0 = W at *
          rcases hsign with ⟨w1, w2⟩ | ⟨w1, w2⟩ | ⟨w1, w2, w3, w4⟩
          · have d1 : decide (0 < W) = true := decide_eq_true w1
            have d2 : decide (W < 0) = false := decide_eq_false (by omega)
            have d3 : decide (W = 0) = false := decide_eq_false (by omega)
            rw [w2] at R1
            dsimp? only [R1, F1, Bool.not_true, Bool.not_false, wi, d1, d2, d3, fOr_, orK_f, fAnd_, andK_f, andK_t, oP4, X0f, X1f, Q0, Q1, sl1, sl2, ct, s1, H0, H1, ne_ww, p0, p1, K0, K1, vIsB, if_pos (l2 _ _), sFor_]
            exact wp_some ⟨.inl rfl, _, _, _, _, rfl, rfl⟩
          · have d1 : decide (0 < W) = false := decide_eq_false (by omega)
            have d2 : decide (W < 0) = true := decide_eq_true w1
            have d3 : decide (W = 0) = false := decide_eq_false (by omega)
            rw [w2] at F1
            cases hx : risB n i t <;> rw [hx] at R1
            all_goals
              dsimp? only [R1, F1, Bool.not_true, Bool.not_false, wi, d1, d2, d3, fOr_, orK_f, fAnd_, andK_f, andK_t, oP4, X0f, X1f, Q0, Q1, sl1, sl2, ct, s1, H0, H1, ne_ww, p0, p1, K0, K1, vIsB, if_pos (l2 _ _), sFor_]
              exact wp_some ⟨.inl rfl, _, _, _, _, rfl, rfl⟩
          · have d1 : decide (0 < W) = false := decide_eq_false (by omega)
            have d2 : decide (W < 0) = false := decide_eq_false (by omega)
            have d3 : decide (W = 0) = true := decide_eq_true w1
            have d4 : decide (i ∈ sup n t) = false := decide_eq_false w4
            rw [w2] at R1
            rw [w3] at F1
            dsimp? only [R1, F1, Bool.not_true, Bool.not_false, wi, d1, d2, d3, Su, vs, d4, fOr_, orK_f, fAnd_, andK_f, andK_t, oP4, X0f, X1f, Q0, Q1, sl1, sl2, ct, s1, H0, H1, ne_ww, p0, p1, K0, K1, vIsB, if_pos (l2 _ _), sFor_]
            exact wp_some ⟨.inl rfl, _, _, _, _, rfl, rfl⟩
        · subst e3 e4
          obtain ⟨c, j6, hc, t3⟩ := t_takeY j5 5 Z (by decide)
          have t3 : (T 100)._law_take [.o 0, .d (.int 5)] (SoY j5 Z) = some (.d (.int (c : Int)), SoY j6 Z) := t3
          obtain ⟨m, hm⟩ : ∃ m, m = 2 + c := ⟨_, rfl⟩
          have hm1 : (2 : Int) + (c : Int) = (m : Int) := by omega
          have G1 : (T 100).takes_weights [.int (t : Int), .int (n : Int), wD (ws.map fun x => (m : Int) * x), .int ((m : Int) * bo)] = some (.v (.bl true)) := by
            have e := t_takes_weights (L := low) (k := 97) (n := n) (t := t) (ws := ws.map fun x => (m : Int) * x) (b := (m : Int) * bo) b ht (by rw [List.length_map]; exact hl)
            rw [mkB_iff.mpr (makes_mul (by omega) hmk)] at e
            exact e
          have G2 : (T 100).takes_weights [.int ((full n ^^^ t : Nat) : Int), .int (n : Int), wD (ws.map fun x => 0 - x), .int (1 - bo)] = some (.v (.bl true)) := by
            have e := t_takes_weights (L := low) (k := 97) (n := n) (t := full n ^^^ t) (ws := ws.map fun x => 0 - x) (b := 1 - bo) b hct (by rw [List.length_map]; exact hl)
            rw [mkB_iff.mpr (makes_neg hmk fun p hp => compl_x hp)] at e
            exact e
          have pm : ∀ S, vMul (.d (.int (m : Int))) (.d (.int bo)) S = some (.d (.int ((m : Int) * bo))) := fun S => vMul_i (small (by omega))
          dsimp? only [callSK_ (n := 2) (rs := [.o 0, .d (.int 5)]) rfl, t3, hm1, oP4, kw_c (m := m) (ws := ws) (by omega) (by omega), pm, G1, nw_c (ws := ws) (by omega), G2, vIsB]
          exact wp_some ⟨.inl rfl, _, _, _, _, _, _, _, _, _, _, _, _, _, _, _, _, _, _, _, _, _, _, j6, Z, rfl, rfl⟩
  · subst e3 e4
    dsimp? only []
    exact wp_some rfl
end K56

open PySem PySem.W PySem.Calls PyProof.Rows
theorem PySem.Challenge.cw_gateworks_k56_whole_weights_and_balances_holds : PySem.Challenge.rw_gateworks_k56_whole_weights_and_balances.Holds := by
  w_on; o_law
  refine HandSHeadRun.head_any (r := OpenLaw.row PySem.Challenge.rw_gateworks_k56_whole_weights_and_balances) (q := view (OpenLaw.row PySem.Challenge.rw_gateworks_k56_whole_weights_and_balances).prog [46]) (H := K56.hk) (ob := K56.ob) (M := 4000) (loose := K56.loose) (d := HandSHeadRun.topDef (OpenLaw.row PySem.Challenge.rw_gateworks_k56_whole_weights_and_balances).prog 46) (kwd := []) K56.ob_eq
    (by kernel_rfl) (fun s => by kernel_rfl) K56.run (by kernel_rfl) (by kernel_rfl) (by kernel_rfl) (by rfl) (by first | assumption | decide +kernel) (by decide +kernel) ⟨rfl, rfl, rfl, rfl, rfl, by decide +kernel⟩ ?hw ?hc
  case hw => w_witness2
  case hc =>
    refine LamX.walk_ofTsE (l := PySem.Challenge.rw_gateworks_k56_whole_weights_and_balances) (n := 63) (k := 202) (x := "script") (CX := fun _ => L2.CX0) rfl (by decide) (by kernel_rfl) ⟨rfl, by decide, by decide⟩ ?F (fun _ _ _ _ _ z => z)
    intro w mg fa h Y G hmg0
    obtain ⟨K, KX, c⟩ := Y
    have hmg : mg ("law" : PySem.Str) = some (.ref fa) := by
      have e : (HandSHeadRun.topDef (OpenLaw.row PySem.Challenge.rw_gateworks_k56_whole_weights_and_balances).prog 46).name = ("law" : PySem.Str) := by kernel_rfl
      rw [← e]
      exact hmg0
    obtain ⟨fd, hb, hF⟩ := K56.facts (w := w) KX G hmg c.t.d c.more
    refine ⟨K, KX, fd, K56.tf.map (He.cT K), _, fun p hp => ?_, fun p hp => ?_, fun p hp => ?_, hb, fun H a ns hl _ hT hS => K56.law_in hT hS (K56.plain ns hl) rfl, hF⟩
    · obtain ⟨y, hy, rfl⟩ := List.mem_map.mp hp
      exact c.empty y hy
    · obtain ⟨y, hy, rfl⟩ := List.mem_map.mp hp
      exact c.out y hy
    · obtain ⟨y, hy, rfl⟩ := List.mem_map.mp hp
      exact PySem.W.codeHd_of_K KX (c.hd y hy)
