import PyProof.Rows.All
import Wide.All
import OpenK.AllK
import Wide.FinOn
import PyProof.TupleKey
import PyProof.P3Eq
import HandS.ForMost
import HandS.Walk
import HandS.Style
import HandS.Deep
import HandS.Conv
import HandS.TupAny
import HandS.NoneIn
import HandS.Flow
import HandS.IsInst
import HandS.Zip
import HandS.Defaults
import HandS.Wide
import HandS.HeadHook3
import KE.GoesMore
import KE.GoesEnum
import HandS.Ends
import HandS.More
import HandS.Head0
import HandS.Head1
import HandS.Head2
import HandS.HeadEnd
import HandS.HeadHook4
import PySem.Challenge.RW_gateworks_k61_whole_costs_of_covers
set_option Elab.async false
set_option linter.all false
set_option maxRecDepth 100000
set_option maxHeartbeats 0
/-! The evaluator, part T: nested tuples as keys of dicts. -/
namespace Ev
open PySem PySem.Spec PyProof.Rows L2

inductive D where
  | non | bl (b : Bool) | int (i : Int) | str (x : Str) | tup (xs : List D) | lst (xs : List D)

mutual
def D.beq : D → D → Bool
  | .non, .non => true
  | .bl a, .bl b => a == b
  | .int a, .int b => decide (a = b)
  | .str a, .str b => decide (a = b)
  | .tup a, .tup b => D.beqs a b
  | .lst a, .lst b => D.beqs a b
  | _, _ => false
def D.beqs : List D → List D → Bool
  | [], [] => true
  | a :: as, b :: bs => D.beq a b && D.beqs as bs
  | _, _ => false
end
mutual
theorem D.beq_eq : ∀ {a b : D}, D.beq a b = true → a = b
  | .non, .non, _ => rfl
  | .bl a, .bl b, h => by rw [show a = b from by simpa [D.beq] using h]
  | .int a, .int b, h => by rw [show a = b from by simpa [D.beq] using h]
  | .str a, .str b, h => by rw [show a = b from by simpa [D.beq] using h]
  | .tup a, .tup b, h => by rw [D.beqs_eq (a := a) (b := b) (by simpa [D.beq] using h)]
  | .lst a, .lst b, h => by rw [D.beqs_eq (a := a) (b := b) (by simpa [D.beq] using h)]
  | .non, .bl _, h | .non, .int _, h | .non, .str _, h | .non, .tup _, h | .non, .lst _, h => by simp [D.beq] at h
  | .bl _, .non, h | .bl _, .int _, h | .bl _, .str _, h | .bl _, .tup _, h | .bl _, .lst _, h => by simp [D.beq] at h
  | .int _, .non, h | .int _, .bl _, h | .int _, .str _, h | .int _, .tup _, h | .int _, .lst _, h => by simp [D.beq] at h
  | .str _, .non, h | .str _, .bl _, h | .str _, .int _, h | .str _, .tup _, h | .str _, .lst _, h => by simp [D.beq] at h
  | .tup _, .non, h | .tup _, .bl _, h | .tup _, .int _, h | .tup _, .str _, h | .tup _, .lst _, h => by simp [D.beq] at h
  | .lst _, .non, h | .lst _, .bl _, h | .lst _, .int _, h | .lst _, .str _, h | .lst _, .tup _, h => by simp [D.beq] at h
theorem D.beqs_eq : ∀ {a b : List D}, D.beqs a b = true → a = b
  | [], [], _ => rfl
  | a :: as, b :: bs, h => by
    have h' : D.beq a b = true ∧ D.beqs as bs = true := by simpa [D.beqs] using h
    rw [D.beq_eq h'.1, D.beqs_eq h'.2]
  | [], _ :: _, h => by simp [D.beqs] at h
  | _ :: _, [], h => by simp [D.beqs] at h
end
mutual
theorem D.beq_refl : ∀ a : D, D.beq a a = true
  | .non => by simp [D.beq]
  | .bl a => by simp [D.beq]
  | .int a => by simp [D.beq]
  | .str a => by simp [D.beq]
  | .tup a => by simp [D.beq, D.beqs_refl a]
  | .lst a => by simp [D.beq, D.beqs_refl a]
theorem D.beqs_refl : ∀ a : List D, D.beqs a a = true
  | [] => by simp [D.beqs]
  | a :: as => by simp [D.beqs, D.beq_refl a, D.beqs_refl as]
end
instance : DecidableEq D := fun a b => match h : D.beq a b with
  | true => .isTrue (D.beq_eq h)
  | false => .isFalse fun e => by rw [e, D.beq_refl] at h; cases h

mutual
/-- ints, texts and tuples of such, n deep at most -/
inductive IsK (h : Heap) : Nat → D → Value → Prop
  | int {n : Nat} (i : Int) (t : Tok) : IsK h n (.int i) (.int i t)
  | str {n : Nat} (x : Str) (t : Tok) : PyData.strOk x = true → IsK h n (.str x) (.str x t)
  | tup {n : Nat} {a : Addr} {o : Obj} {items : Array Value} {c : Nat} {ds : List D} : h.get? a = some o → o.cls = .type "tuple" → o.data = .seq items c → IsKs h n ds items.toList → IsK h (n + 1) (.tup ds) (.ref a)
inductive IsKs (h : Heap) : Nat → List D → List Value → Prop
  | nil {n : Nat} : IsKs h n [] []
  | cons {n : Nat} {d : D} {v : Value} {ds : List D} {vs : List Value} : IsK h n d v → IsKs h n ds vs → IsKs h n (d :: ds) (v :: vs)
end
mutual
theorem IsK.inj {h : Heap} : ∀ {n m : Nat} {d e : D} {v : Value}, IsK h n d v → IsK h m e v → d = e
  | _, _, _, _, _, .int i t, q => by cases q; rfl
  | _, _, _, _, _, .str i t _, q => by cases q; rfl
  | _, _, _, _, _, .tup h1 _ h3 r, q => by
    cases q with
    | tup g1 _ g3 q =>
      rw [h1] at g1; cases g1
      rw [h3] at g3; cases g3
      rw [IsKs.inj r q]
theorem IsKs.inj {h : Heap} : ∀ {n m : Nat} {d e : List D} {v : List Value}, IsKs h n d v → IsKs h m e v → d = e
  | _, _, _, _, _, .nil, q => by cases q; rfl
  | _, _, _, _, _, .cons a r, q => by
    cases q with
    | cons b q => rw [IsK.inj a b, IsKs.inj r q]
end
mutual
theorem IsK.keeps {h h' : Heap} (k : ∀ a o its n, h.get? a = some o → o.data = .seq its n → h'.get? a = some o) : ∀ {n : Nat} {d : D} {v : Value}, IsK h n d v → IsK h' n d v
  | _, _, _, .int i t => .int i t
  | _, _, _, .str i t e => .str i t e
  | _, _, _, .tup h1 h2 h3 r => .tup (k _ _ _ _ h1 h3) h2 h3 (IsKs.keeps k r)
theorem IsKs.keeps {h h' : Heap} (k : ∀ a o its n, h.get? a = some o → o.data = .seq its n → h'.get? a = some o) : ∀ {n : Nat} {d : List D} {v : List Value}, IsKs h n d v → IsKs h' n d v
  | _, _, _, .nil => .nil
  | _, _, _, .cons a r => .cons (IsK.keeps k a) (IsKs.keeps k r)
end
mutual
def hashD (w : World) : D → Int
  | .int i => hashInt i
  | .str x => hashStr w x
  | .tup ds => reduceHash (Builtin.Tuple.tupleHashOf (hashDs w ds))
  | _ => 0
def hashDs (w : World) : List D → List Int
  | [] => []
  | d :: ds => hashD w d :: hashDs w ds
end
mutual
def drawsD : D → Nat
  | .tup ds => drawsDs ds + 1
  | _ => 1
def drawsDs : List D → Nat
  | [] => 0
  | d :: ds => drawsD d + drawsDs ds
end
theorem hashDs_append (w : World) : ∀ a b : List D, hashDs w (a ++ b) = hashDs w a ++ hashDs w b
  | [], _ => rfl
  | d :: ds, b => by rw [List.cons_append, hashDs, hashDs, hashDs_append w ds b]; rfl
theorem drawsDs_append : ∀ a b : List D, drawsDs (a ++ b) = drawsDs a + drawsDs b
  | [], b => by simp [drawsDs]
  | d :: ds, b => by rw [List.cons_append, drawsDs, drawsDs, drawsDs_append ds b]; omega

section
variable {prog : Program} {w : World}

theorem pyHash_K : ∀ (n : Nat) {d : D} {v : Value} {A : Around} {E : Value → Shared → Prop} {s : Shared} {Q : Int → Shared → Prop}, A.units + 2 * n < cLine → IsK s.heap n d v → Q (hashD w d) { s with toks := s.toks + drawsD d } →
    wpAny (model prog w) A (pyHash v) Q E s := by
  intro n
  induction n with
  | zero =>
    intro d v A E s Q hu hk h
    cases hk with
    | int i t => exact wpAny_pyHash_int h
    | str x t _ => exact wpAny_pyHash_str h
  | succ n ih =>
    intro d v A E s Q hu hk h
    cases hk with
    | int i t => exact wpAny_pyHash_int h
    | str x t _ => exact wpAny_pyHash_str h
    | @tup _ a o items c ds ho hc hd hi =>
      have hT : s.TypeIs (.ref a) "tuple" := ⟨o, ho, hc⟩
      unfold pyHash
      first | unfold pyHashByItsType | skip
      first | refine wpAny_bind (wpAny_cRoomFor_or (.inr (by omega)) ?_) | skip
      refine wpAny_bind (wpAny_specialOf hT F.slot_tuple_hash.lookup ?_)
      show wpAny _ _ (if (some (Value.builtin "tuple.__hash__") == some Value.none) = true then _ else _) Q E s
      rw [if_neg (by rw [beq_builtin_none]; exact Bool.false_ne_true)]
      refine wpAny_bind (wpAny_specialOf hT F.slot_tuple_hash.lookup ?_)
      show wpAny _ _ (callSpecialIfBoundUnlessNone? (.ref a) "__hash__" _ >>= _) Q E s
      refine wpAny_bind (wpAny_callSpecialIfBoundUnlessNone?_slot hT F.slot_tuple_hash (wpAny_call_entry F.slot_tuple_hash hT F.entry_tuple_hash ?_ (F.args_tuple_hash_1 _)))
      show wpAny _ _ (Builtin.Tuple.tupleItemsOf (.ref a) >>= _) _ _ s
      refine wpAny_bind (wpAny_tupleItemsOf ho hd ?_)
      refine wpAny_bind ?_
      rw [← Array.forIn_toList]
      refine wpAny_forIn_list _
        (fun rest (b : Array Int) s' => ∃ done left, ds = done ++ left ∧ IsKs s.heap n left rest ∧ b.toList = hashDs w done ∧ s' = { s with toks := s.toks + drawsDs done })
        _ ?_ ?_ _ _ ⟨[], ds, rfl, hi, rfl, rfl⟩
      · rintro x rest b s' ⟨done, left, rfl, hl, hb, rfl⟩
        cases hl with
        | @cons _ k _ ks' _ h1 hl' =>
          refine wpAny_bind (ih (by show A.units + 1 + 2 * n < cLine; omega) h1 ?_)
          exact wpAny_pure ⟨done ++ [k], ks', by simp, hl', by simp [hb, hashDs_append, hashDs], by simp [drawsDs_append, drawsDs, Nat.add_assoc]⟩
      · rintro b s' ⟨done, left, rfl, hl, hb, rfl⟩
        cases hl
        rw [List.append_nil] at h
        show wpAny _ _ (retInt (Builtin.Tuple.tupleHashOf b.toList)) _ _ _
        rw [hb]
        refine wpAny_ret_mkInt ?_
        show wpAny _ _ (if (decide (-(2 : Int) ^ 63 ≤ Builtin.Tuple.tupleHashOf (hashDs w done)) && decide (Builtin.Tuple.tupleHashOf (hashDs w done) < 2 ^ 63)) = true then _ else _) Q E _
        simp only [hashD, drawsD] at h
        unfold reduceHash at h
        by_cases hr : (decide (-(2 : Int) ^ 63 ≤ Builtin.Tuple.tupleHashOf (hashDs w done)) && decide (Builtin.Tuple.tupleHashOf (hashDs w done) < 2 ^ 63)) = true
        · rw [if_pos hr]
          rw [if_pos hr] at h
          exact wpAny_pure (by simpa [Nat.add_assoc] using h)
        · rw [if_neg hr]
          rw [if_neg hr] at h
          exact wpAny_bind (wpAny_rule (wpAny_pure (by simpa [Nat.add_assoc] using h)))

mutual
def D.py : D → PyData
  | .non => .none
  | .bl b => .bool b
  | .int i => .int i
  | .str x => .str x
  | .tup ds => .tuple (D.pys ds)
  | .lst ds => .list (D.pys ds)
def D.pys : List D → List PyData
  | [] => []
  | d :: ds => d.py :: D.pys ds
end
mutual
theorem IsK.reads {h : Heap} : ∀ {n : Nat} {d : D} {v : Value}, IsK h n d v → ∃ as, Reads h v d.py as
  | _, _, _, .int i t => ⟨_, by simp only [D.py]; exact Reads.int i t⟩
  | _, _, _, .str x t _ => ⟨_, by simp only [D.py]; exact Reads.str x t⟩
  | _, _, _, .tup h1 h2 h3 r => by
    obtain ⟨as, q⟩ := IsKs.reads r
    exact ⟨_, by simp only [D.py]; exact Reads.tuple h1 h2 h3 q⟩
theorem IsKs.reads {h : Heap} : ∀ {n : Nat} {d : List D} {v : List Value}, IsKs h n d v → ∃ as, ReadsAll h v (D.pys d) as
  | _, _, _, .nil => ⟨_, by simp only [D.pys]; exact ReadsAll.nil⟩
  | _, _, _, .cons a r => by
    obtain ⟨as, q⟩ := IsK.reads a
    obtain ⟨bs, q2⟩ := IsKs.reads r
    exact ⟨_, by simp only [D.pys]; exact ReadsAll.cons q q2⟩
end
mutual
theorem IsK.lay {h : Heap} : ∀ {n : Nat} {d : D} {v : Value}, IsK h n d v → d.py.canLay0 = true ∧ d.py.depth ≤ n
  | _, _, _, .int i t => by simp [D.py, PyData.canLay0, PyData.depth]
  | _, _, _, .str x t e => by simp [D.py, PyData.canLay0, PyData.depth, e]
  | _, _, _, .tup h1 h2 h3 r => by
    have q := IsKs.lay r
    simp only [D.py, PyData.canLay0, PyData.depth]
    exact ⟨q.1, Nat.succ_le_succ q.2⟩
theorem IsKs.lay {h : Heap} : ∀ {n : Nat} {d : List D} {v : List Value}, IsKs h n d v → PyData.canLayAll0 (D.pys d) = true ∧ PyData.depthAll (D.pys d) ≤ n
  | _, _, _, .nil => by simp [D.pys, PyData.canLayAll0, PyData.depthAll]
  | _, _, _, .cons a r => by
    have q := IsK.lay a
    have q2 := IsKs.lay r
    simp only [D.pys, PyData.canLayAll0, PyData.depthAll, Bool.and_eq_true]
    exact ⟨⟨q.1, q2.1⟩, Nat.max_le.mpr ⟨q.2, q2.2⟩⟩
end
mutual
theorem IsK.eqv {h g : Heap} : ∀ {n m : Nat} {d e : D} {v u : Value}, IsK h n d v → IsK g m e u → PyData.eqv d.py e.py = decide (d = e)
  | _, _, _, _, _, _, .int i t, q => by
    cases q <;> simp [D.py, PyData.eqv, Bool.beq_eq_decide_eq]
  | _, _, _, _, _, _, .str x t _, q => by
    cases q <;> simp [D.py, PyData.eqv, Bool.beq_eq_decide_eq]
  | _, _, _, _, _, _, .tup h1 h2 h3 r, q => by
    cases q with
    | int => simp [D.py, PyData.eqv]
    | str => simp [D.py, PyData.eqv]
    | tup g1 g2 g3 q =>
      simp only [D.py, PyData.eqv]
      rw [IsKs.eqv r q]
      simp
theorem IsKs.eqv {h g : Heap} : ∀ {n m : Nat} {d e : List D} {v u : List Value}, IsKs h n d v → IsKs g m e u → PyData.eqvAll (D.pys d) (D.pys e) = decide (d = e)
  | _, _, _, _, _, _, .nil, q => by cases q <;> simp [D.pys, PyData.eqvAll]
  | _, _, _, _, _, _, .cons a r, q => by
    cases q with
    | nil => simp [D.pys, PyData.eqvAll]
    | cons b q =>
      simp only [D.pys, PyData.eqvAll]
      rw [IsK.eqv a b, IsKs.eqv r q]
      simp
end
theorem quiet_K : ∀ (n k : Nat) {d : D} {v : Value} {A : Around} {E : Value → Shared → Prop} {s : Shared} {Q : Bool → Shared → Prop}, n ≤ k → IsK s.heap n d v → Q true s →
    wpAny (model prog w) A (eqIsQuiet k v) Q E s := by
  intro n
  induction n with
  | zero =>
    intro k d v A E s Q hk hx h
    cases hx with
    | int i t => rw [eqIsQuiet_byValue _ rfl]; exact wpAny_pure h
    | str x t _ => rw [eqIsQuiet_byValue _ rfl]; exact wpAny_pure h
  | succ n ih =>
    intro k d v A E s Q hk hx h
    cases hx with
    | int i t => rw [eqIsQuiet_byValue _ rfl]; exact wpAny_pure h
    | str x t _ => rw [eqIsQuiet_byValue _ rfl]; exact wpAny_pure h
    | @tup _ a o items c ds ho hc hd hi =>
      have hT : s.TypeIs (.ref a) "tuple" := ⟨o, ho, hc⟩
      obtain ⟨k, rfl⟩ : ∃ k', k = k' + 1 := ⟨k - 1, by omega⟩
      unfold eqIsQuiet
      refine wpAny_bind (wpAny_specialOf hT F.slot_tuple_eq.lookup ?_)
      show wpAny _ _ (isInstance (.ref a) (.type "tuple") >>= _) _ _ s
      refine wpAny_bind (wpAny_isInstance hT isSubtype_tuple_tuple ?_)
      simp only [Bool.not_true, Bool.false_eq_true, if_false]
      refine wpAny_bind (wpAny_seqItems ho hd ?_)
      refine wpAny_bind ?_
      show wpAny _ _ (forIn items _ _) _ _ s
      rw [← Array.forIn_toList]
      refine wpAny_forIn_list _ (fun rest r s' => r.1 = none ∧ s' = s ∧ ∃ left, IsKs s.heap n left rest) _ ?_ ?_ _ _ ⟨rfl, rfl, _, hi⟩
      · rintro v rest r s' ⟨hr, rfl, left, hall⟩
        cases hall with
        | cons h1 h2 =>
          refine wpAny_bind (ih k (by omega) h1 ?_)
          simp only [Bool.not_true, Bool.false_eq_true, if_false]
          exact wpAny_pure ⟨rfl, rfl, _, h2⟩
      · rintro ⟨r1, r2⟩ s' ⟨hr, rfl, _⟩
        simp only at hr
        subst hr
        exact wpAny_pure h
end

/-- keys that are tuples of ints, texts, tuples, up to eight deep -/
def treeKind (prog : Program) (w : World) : HeapKind prog w D where
  is := fun h d a => IsK h 8 d (.ref a)
  hash := hashD w
  draws := drawsD
  room := fun A => A.units + 32 < cLine
  inj := fun hx hy => IsK.inj hx hy
  keeps := fun {h h' k a d o es ep} x ho hd hs => IsK.keeps (fun b ob its n e1 e2 => by
    refine (hs.2 b ?_).trans e1
    rintro rfl
    rw [ho] at e1; cases e1
    rw [hd] at e2; cases e2) x
  pyHash := fun {A E s k a Q} hu hk h => pyHash_K 8 (by omega) hk h
  eqBool := fun {A E s x y a b Q} hu hx hy h => by
    obtain ⟨as, r1⟩ := IsK.reads hx
    obtain ⟨bs, r2⟩ := IsK.reads hy
    have l1 := IsK.lay hx
    have l2 := IsK.lay hy
    refine PySem.SeqAt.eqBoolOverData prog w A E s _ _ _ _ as bs Q r1 r2 l1.1 l2.1 ?_ ?_
    · have : min x.py.depth y.py.depth ≤ x.py.depth := Nat.min_le_left _ _
      omega
    · rw [IsK.eqv hx hy]; exact h
  quiet := fun {A E s k a Q} hk h => quiet_K 8 8 (Nat.le_refl _) hk h
end Ev

/-! The evaluator, part A: values, the heap's likeness, steps. -/
namespace Ev
open PySem PySem.Spec PyProof.Rows L2

/-- the built-in types that isinstance asks for -/
inductive Tn where
  | int | bool | non | str | tup | lst | dct
  deriving DecidableEq
def Tn.name : Tn → String
  | .int => "int" | .bool => "bool" | .non => "NoneType" | .str => "str" | .tup => "tuple" | .lst => "list" | .dct => "dict"
inductive RV where
  | d (x : D) | o (n : Nat) | t (n : Tn)

inductive Ob where
  | lst (xs : List D) | dct (kvs : List (D × D)) | dcx (kvs : List (D × D)) | ins (c : Str) (fs : List (Str × RV))

/-- a tuple of the written part -/
def KT (K : PySem.W.Frag) (a : Addr) (xs : List V) : Prop :=
  ∃ (o : Obj) (its : Array Value) (n : Nat), K.lookup a = some o ∧ o.cls = .type "tuple" ∧ o.data = .seq its n ∧ its.size ≤ sizeLine ∧ Vals xs its.toList

/-- a list of the written part -/
def KL (K : PySem.W.Frag) (a : Addr) (xs : List V) : Prop :=
  ∃ (o : Obj) (its : Array Value) (n : Nat), K.lookup a = some o ∧ o.cls = .type "list" ∧ o.dict = none ∧ o.data = .seq its n ∧ its.size ≤ sizeLine ∧ Vals xs its.toList

mutual
inductive Rep (K : PySem.W.Frag) (H : Hp) (R : List Addr) : D → V → Prop
  | non : Rep K H R .non .non
  | bl (b : Bool) : Rep K H R (.bl b) (.bl b)
  | int (i : Int) : Rep K H R (.int i) (.int i)
  | str (x : Str) : Rep K H R (.str x) (.str x)
  | tup {a : Addr} {vs : List V} {ds : List D} : Rd H a (.tup vs) → a ∉ R → Reps K H R ds vs → Rep K H R (.tup ds) (.ref a)
  | tupK {a : Addr} {vs : List V} {ds : List D} : KT K a vs → Reps K H R ds vs → Rep K H R (.tup ds) (.ref a)
  | lst {a : Addr} {vs : List V} {ds : List D} : Rd H a (.lst vs) → a ∉ R → Reps K H R ds vs → Rep K H R (.lst ds) (.ref a)
  | lstK {a : Addr} {vs : List V} {ds : List D} : KL K a vs → Reps K H R ds vs → Rep K H R (.lst ds) (.ref a)
inductive Reps (K : PySem.W.Frag) (H : Hp) (R : List Addr) : List D → List V → Prop
  | nil : Reps K H R [] []
  | cons {d : D} {v : V} {ds : List D} {vs : List V} : Rep K H R d v → Reps K H R ds vs → Reps K H R (d :: ds) (v :: vs)
end

def RepV (K : PySem.W.Frag) (H : Hp) (R m : List Addr) : RV → V → Prop
  | .d x, v => Rep K H R x v
  | .o n, v => ∃ a, m[n]? = some a ∧ v = .ref a
  | .t n, v => v = .ty n.name

theorem Rd.mono {H H' : Hp} {a : Addr} {u : HO} (h : Rd H a u) (k : ∀ o, H a = some o → H' a = some o) : Rd H' a u := by
  rcases h with h | ⟨o, h⟩
  · exact .inl (k _ h)
  · exact .inr ⟨o, k _ h⟩
theorem Rd.ne {H : Hp} {a : Addr} {u : HO} (h : Rd H a u) : H a ≠ none := by
  rcases h with h | ⟨o, h⟩ <;> rw [h] <;> intro z <;> cases z

mutual
/-- a value stays: what stands outside R is kept, what comes to R was free -/
theorem Rep.mono {K : PySem.W.Frag} {H H' : Hp} {R R' : List Addr} (k : ∀ a o, a ∉ R → H a = some o → H' a = some o) (f : ∀ a, a ∈ R' → a ∈ R ∨ H a = none) :
    ∀ {d : D} {v : V}, Rep K H R d v → Rep K H' R' d v
  | _, _, .non => .non
  | _, _, .bl b => .bl b
  | _, _, .int i => .int i
  | _, _, .str x => .str x
  | _, _, .tup h n r => .tup (Rd.mono h fun o e => k _ o n e) (fun z => (f _ z).elim n fun e => Rd.ne h e) (Reps.mono k f r)
  | _, _, .tupK h r => .tupK h (Reps.mono k f r)
  | _, _, .lst h n r => .lst (Rd.mono h fun o e => k _ o n e) (fun z => (f _ z).elim n fun e => Rd.ne h e) (Reps.mono k f r)
  | _, _, .lstK h r => .lstK h (Reps.mono k f r)
theorem Reps.mono {K : PySem.W.Frag} {H H' : Hp} {R R' : List Addr} (k : ∀ a o, a ∉ R → H a = some o → H' a = some o) (f : ∀ a, a ∈ R' → a ∈ R ∨ H a = none) :
    ∀ {ds : List D} {vs : List V}, Reps K H R ds vs → Reps K H' R' ds vs
  | _, _, .nil => .nil
  | _, _, .cons h r => .cons (Rep.mono k f h) (Reps.mono k f r)
end
theorem Reps.length {K : PySem.W.Frag} {H : Hp} {R : List Addr} : ∀ {ds : List D} {vs : List V}, Reps K H R ds vs → ds.length = vs.length
  | _, _, .nil => rfl
  | _, _, .cons _ r => congrArg Nat.succ r.length
theorem Reps.append {K : PySem.W.Frag} {H : Hp} {R : List Addr} : ∀ {ds es : List D} {vs us : List V}, Reps K H R ds vs → Reps K H R es us → Reps K H R (ds ++ es) (vs ++ us)
  | _, _, _, _, .nil, s => s
  | _, _, _, _, .cons h r, s => .cons h (r.append s)
theorem Reps.get {K : PySem.W.Frag} {H : Hp} {R : List Addr} : ∀ {ds : List D} {vs : List V} {i : Nat} {d : D}, Reps K H R ds vs → ds[i]? = some d → ∃ v, vs[i]? = some v ∧ Rep K H R d v
  | _, _, _, _, .nil, e => by simp at e
  | _, _, 0, _, .cons h _, e => by simp at e; subst e; exact ⟨_, rfl, h⟩
  | _, _, i + 1, d, .cons _ r, e => by
    obtain ⟨v, h1, h2⟩ := Reps.get (i := i) (d := d) r (by simpa using e)
    exact ⟨v, by simpa using h1, h2⟩
theorem Reps.take {K : PySem.W.Frag} {H : Hp} {R : List Addr} : ∀ {ds : List D} {vs : List V} (n : Nat), Reps K H R ds vs → Reps K H R (ds.take n) (vs.take n)
  | _, _, 0, _ => .nil
  | _, _, _ + 1, .nil => .nil
  | _, _, n + 1, .cons h r => .cons h (r.take n)
theorem Reps.drop {K : PySem.W.Frag} {H : Hp} {R : List Addr} : ∀ {ds : List D} {vs : List V} (n : Nat), Reps K H R ds vs → Reps K H R (ds.drop n) (vs.drop n)
  | _, _, 0, r => r
  | _, _, _ + 1, .nil => .nil
  | _, _, n + 1, .cons _ r => r.drop n
theorem Reps.reverse {K : PySem.W.Frag} {H : Hp} {R : List Addr} : ∀ {ds : List D} {vs : List V}, Reps K H R ds vs → Reps K H R ds.reverse vs.reverse
  | _, _, .nil => .nil
  | _, _, .cons h r => by rw [List.reverse_cons, List.reverse_cons]; exact r.reverse.append (.cons h .nil)
theorem Reps.set {K : PySem.W.Frag} {H : Hp} {R : List Addr} {d : D} {v : V} (h : Rep K H R d v) : ∀ {ds : List D} {vs : List V} (i : Nat), Reps K H R ds vs → Reps K H R (ds.set i d) (vs.set i v)
  | _, _, _, .nil => .nil
  | _, _, 0, .cons _ r => .cons h r
  | _, _, i + 1, .cons g r => .cons g (Reps.set h i r)

/-! ### the store -/
def RepF (K : PySem.W.Frag) (H : Hp) (R m : List Addr) : List (Str × RV) → List (Str × V) → Prop := Paired fun p q => p.1 = q.1 ∧ RepV K H R m p.2 q.2

/-- the object of a dict whose keys are trees -/
def DX (P : Program) (w : World) (a : Addr) (xs : List (D × Addr × Value)) : Heap → Prop := fun h =>
  ∃ o es ep, h.get? a = some o ∧ o.ExactDict ∧ o.data = .dict es ep ∧ es.toList = xs.map (entryOfKey (treeKind P w)) ∧ (xs.map (·.1)).Nodup ∧ xs.length ≤ sizeLine ∧ (a == sysModules) = false
/-- nested no deeper than n, ints, texts, tuples alone -/
def D.isKey : Nat → D → Bool
  | _, .int _ => true
  | _, .str x => PyData.strOk x
  | n + 1, .tup ds => ds.all (D.isKey n)
  | _, _ => false
def D.ofKey : Key → D
  | .inl i => .int i
  | .inr x => .str x

def RepO (P : Program) (w : World) (K : PySem.W.Frag) (H : Hp) (R m : List Addr) : Ob → Addr → Prop
  | .lst ds, a => ∃ vs, H a = some (.lst vs) ∧ Reps K H R ds vs
  | .dct kvs, a => ∃ kv', H a = some (.dK kv') ∧ Paired (fun (p : D × D) (q : Key × V) => p.1 = D.ofKey q.1 ∧ Rep K H R p.2 q.2) kvs kv'
  | .dcx kvs, a => ∃ xs, H a = some (.ext (DX P w a xs)) ∧ Paired (fun (p : D × D) (q : D × Addr × Value) => p.1 = q.1 ∧ Rep K H R p.1 (.ref q.2.1) ∧ D.isKey 8 p.1 = true ∧ ∃ v, RelV v q.2.2 ∧ Rep K H R p.2 v) kvs xs
  | .ins c fs, a => ∃ dx vfs, H a = some (.ins (He.ga K c) dx vfs) ∧ RepF K H R m fs vfs ∧ Cls K (He.ga K c) ∧ ∀ p ∈ fs, NoAttr K (He.ga K c) p.1

structure Sim (P : Program) (w : World) (K : PySem.W.Frag) (H : Hp) (R m : List Addr) (S : List Ob) : Prop where
  nd : m.Nodup
  sub : ∀ a ∈ m, a ∈ R
  live : ∀ a ∈ R, H a ≠ none
  len : m.length = S.length
  at_ : ∀ (n : Nat) (a : Addr) (o : Ob), m[n]? = some a → S[n]? = some o → RepO P w K H R m o a

structure Ext (H : Hp) (R m : List Addr) (H' : Hp) (R' m' : List Addr) : Prop where
  pre : ∃ e, m' = m ++ e
  sub : ∀ a ∈ R, a ∈ R'
  fresh : ∀ a ∈ R', a ∈ R ∨ H a = none
  freshM : ∀ a ∈ m', a ∈ m ∨ H a = none
  keep : ∀ a o, a ∉ m → H a = some o → H' a = some o
  live : ∀ a, H a ≠ none → H' a ≠ none

section
variable {P : Program} {w : World} {K : PySem.W.Frag} {H H1 H2 H' : Hp} {R R1 R2 R' m m1 m2 m' : List Addr} {S S' : List Ob}
theorem Ext.refl : Ext H R m H R m := ⟨⟨[], by simp⟩, fun _ h => h, fun _ h => .inl h, fun _ h => .inl h, fun _ _ _ h => h, fun _ h => h⟩
theorem Ext.trans (a : Ext H R m H1 R1 m1) (b : Ext H1 R1 m1 H2 R2 m2) : Ext H R m H2 R2 m2 where
  pre := by
    obtain ⟨e, rfl⟩ := a.pre
    obtain ⟨f, rfl⟩ := b.pre
    exact ⟨e ++ f, by simp⟩
  sub := fun c h => b.sub c (a.sub c h)
  fresh := fun c h => by
    rcases b.fresh c h with z | z
    · exact a.fresh c z
    · refine .inr ?_
      cases q : H c with
      | none => rfl
      | some o => exact absurd z (a.live c (by rw [q]; intro z; cases z))
  freshM := fun c h => by
    rcases b.freshM c h with z | z
    · exact a.freshM c z
    · refine .inr ?_
      cases q : H c with
      | none => rfl
      | some o => exact absurd z (a.live c (by rw [q]; intro z; cases z))
  keep := fun c o n e => by
    refine b.keep c o (fun z => ?_) (a.keep c o n e)
    rcases a.freshM c z with y | y
    · exact n y
    · rw [e] at y; cases y
  live := fun c h => b.live c (a.live c h)
theorem Ext.memM (e : Ext H R m H' R' m') {a : Addr} (h : a ∈ m) : a ∈ m' := by
  obtain ⟨x, rfl⟩ := e.pre
  exact List.mem_append_left _ h
theorem Ext.idx (e : Ext H R m H' R' m') {n : Nat} {a : Addr} (h : m[n]? = some a) : m'[n]? = some a := by
  obtain ⟨x, rfl⟩ := e.pre
  obtain ⟨hn, _⟩ := List.getElem?_eq_some_iff.mp h
  rw [List.getElem?_append_left hn]; exact h

theorem Rep.ext {d : D} {v : V} (e : Ext H R m H' R' m') (hs : ∀ a ∈ m, a ∈ R) (r : Rep K H R d v) : Rep K H' R' d v :=
  Rep.mono (fun a o n q => e.keep a o (fun z => n (hs a z)) q) e.fresh r
theorem Reps.ext {d : List D} {v : List V} (e : Ext H R m H' R' m') (hs : ∀ a ∈ m, a ∈ R) (r : Reps K H R d v) : Reps K H' R' d v :=
  Reps.mono (fun a o n q => e.keep a o (fun z => n (hs a z)) q) e.fresh r
theorem RepV.ext {d : RV} {v : V} (e : Ext H R m H' R' m') (hs : ∀ a ∈ m, a ∈ R) (r : RepV K H R m d v) : RepV K H' R' m' d v := by
  cases d with
  | d x => exact Rep.ext e hs r
  | o n =>
    obtain ⟨a, h1, h2⟩ := r
    exact ⟨a, e.idx h1, h2⟩
  | t n => exact r
theorem RepF.ext {fs : List (Str × RV)} {vs : List (Str × V)} (e : Ext H R m H' R' m') (hs : ∀ a ∈ m, a ∈ R) (r : RepF K H R m fs vs) : RepF K H' R' m' fs vs :=
  Paired.mapP r fun _ _ z => ⟨z.1, RepV.ext e hs z.2⟩
/-- an owned thing, if its own object stays -/
theorem RepO.ext {o : Ob} {a : Addr} (e : Ext H R m H' R' m') (hs : ∀ a ∈ m, a ∈ R) (r : RepO P w K H R m o a) (k : H' a = H a) : RepO P w K H' R' m' o a := by
  cases o with
  | lst ds =>
    obtain ⟨vs, h, r⟩ := r
    exact ⟨vs, k.trans h, Reps.ext e hs r⟩
  | dct kvs =>
    obtain ⟨vs, h, r⟩ := r
    exact ⟨vs, k.trans h, Paired.mapP r fun _ _ z => ⟨z.1, Rep.ext e hs z.2⟩⟩
  | dcx kvs =>
    obtain ⟨vs, h, r⟩ := r
    exact ⟨vs, k.trans h, Paired.mapP r fun _ _ ⟨z1, z2, z3, v, z4, z5⟩ => ⟨z1, Rep.ext e hs z2, z3, v, z4, Rep.ext e hs z5⟩⟩
  | ins c fs =>
    obtain ⟨dx, vfs, h, r, c⟩ := r
    exact ⟨dx, vfs, k.trans h, RepF.ext e hs r, c⟩

/-! ### a new thing that is not owned -/
theorem Ext.new {p : Addr} {o : HO} (n : H p = none) : Ext H R m (upd H p o) R m where
  pre := ⟨[], by simp⟩
  sub := fun _ h => h
  fresh := fun _ h => .inl h
  freshM := fun _ h => .inl h
  keep := fun a o _ h => by rw [upd_ne (ne_of_none h n)]; exact h
  live := fun a h => by
    by_cases q : a = p
    · subst q; exact absurd n h
    · rw [upd_ne q]; exact h
theorem Sim.notR (s : Sim P w K H R m S) {p : Addr} (n : H p = none) : p ∉ R := fun h => s.live p h n
theorem Sim.new {p : Addr} {o : HO} (s : Sim P w K H R m S) (n : H p = none) : Sim P w K (upd H p o) R m S where
  nd := s.nd
  sub := s.sub
  live := fun a h => (Ext.new n).live a (s.live a h) (R := R) (m := m)
  len := s.len
  at_ := fun i a ob h1 h2 => RepO.ext (Ext.new n) s.sub (s.at_ i a ob h1 h2) (upd_ne fun z => s.live a (s.sub a (List.mem_of_getElem? h1)) (by rw [z]; exact n))
/-- a new thing that is owned -/
theorem Ext.own {p : Addr} {o : HO} (n : H p = none) : Ext H R m (upd H p o) (p :: R) (m ++ [p]) where
  pre := ⟨[p], rfl⟩
  sub := fun _ h => List.mem_cons_of_mem _ h
  fresh := fun a h => (List.mem_cons.mp h).elim (fun z => .inr (by rw [z]; exact n)) .inl
  freshM := fun a h => (List.mem_append.mp h).elim .inl fun z => .inr (by rw [List.mem_singleton.mp z]; exact n)
  keep := fun a o _ h => by rw [upd_ne (ne_of_none h n)]; exact h
  live := fun a h => by
    by_cases q : a = p
    · subst q; exact absurd n h
    · rw [upd_ne q]; exact h
theorem Sim.own {p : Addr} {o : HO} {ob : Ob} (s : Sim P w K H R m S) (n : H p = none) (r : RepO P w K (upd H p o) (p :: R) (m ++ [p]) ob p) : Sim P w K (upd H p o) (p :: R) (m ++ [p]) (S ++ [ob]) where
  nd := by
    rw [List.nodup_append]
    refine ⟨s.nd, by simp, fun a ha b hb => ?_⟩
    rw [List.mem_singleton.mp hb]
    rintro rfl
    exact s.notR n (s.sub _ ha)
  sub := fun a h => (List.mem_append.mp h).elim (fun z => List.mem_cons_of_mem _ (s.sub a z)) fun z => by rw [List.mem_singleton.mp z]; exact List.mem_cons_self
  live := fun a h => by
    by_cases q : a = p
    · subst q; rw [upd_same]; intro z; cases z
    · rw [upd_ne q]
      exact s.live a ((List.mem_cons.mp h).resolve_left q)
  len := by rw [List.length_append, List.length_append, s.len]; rfl
  at_ := fun i a o' h1 h2 => by
    by_cases hi : i < m.length
    · rw [List.getElem?_append_left hi] at h1
      rw [List.getElem?_append_left (by rw [← s.len]; exact hi)] at h2
      exact RepO.ext (Ext.own n) s.sub (s.at_ i a o' h1 h2) (upd_ne fun z => s.live a (s.sub a (List.mem_of_getElem? h1)) (by rw [z]; exact n))
    · have hl : i < (m ++ [p]).length := (List.getElem?_eq_some_iff.mp h1).1
      rw [List.length_append, List.length_singleton] at hl
      have e : i = m.length := by omega
      subst e
      rw [List.getElem?_append_right (Nat.le_refl _), Nat.sub_self] at h1
      rw [s.len, List.getElem?_append_right (Nat.le_refl _), Nat.sub_self] at h2
      cases h1; cases h2
      exact r
/-- an owned thing is changed -/
theorem Ext.chg {a : Addr} {o : HO} (h : a ∈ m) (hl : H a ≠ none) : Ext H R m (upd H a o) R m where
  pre := ⟨[], by simp⟩
  sub := fun _ h => h
  fresh := fun _ h => .inl h
  freshM := fun _ h => .inl h
  keep := fun b o n e => by rw [upd_ne fun z => n (by rw [z]; exact h)]; exact e
  live := fun b h => by
    by_cases q : b = a
    · subst q; rw [upd_same]; intro z; cases z
    · rw [upd_ne q]; exact h
theorem Sim.chg {a : Addr} {o : HO} {ob : Ob} {n : Nat} (s : Sim P w K H R m S) (hn : m[n]? = some a) (r : RepO P w K (upd H a o) R m ob a) : Sim P w K (upd H a o) R m (S.set n ob) where
  nd := s.nd
  sub := s.sub
  live := fun b h => (Ext.chg (R := R) (List.mem_of_getElem? hn) (s.live a (s.sub a (List.mem_of_getElem? hn)))).live b (s.live b h)
  len := by rw [List.length_set]; exact s.len
  at_ := fun i b o' h1 h2 => by
    by_cases e : i = n
    · subst e
      rw [hn] at h1; cases h1
      have hi : i < S.length := by rw [← s.len]; exact (List.getElem?_eq_some_iff.mp hn).1
      rw [List.getElem?_set_self hi] at h2
      cases h2
      exact r
    · rw [List.getElem?_set_ne (Ne.symm e)] at h2
      have ne : b ≠ a := by
        rintro rfl
        have h3 := List.getElem?_eq_some_iff.mp h1
        have h4 := List.getElem?_eq_some_iff.mp hn
        exact e ((List.getElem_inj s.nd).mp (h3.2.trans h4.2.symm))
      exact RepO.ext (Ext.chg (List.mem_of_getElem? hn) (s.live a (s.sub a (List.mem_of_getElem? hn)))) s.sub (s.at_ i b o' h1 h2) (upd_ne ne)
end

/-! ### slots -/
abbrev Env' := List (Option RV)
structure RepE (K : PySem.W.Frag) (H : Hp) (R m : List Addr) (ρ : Env') (σ : List (Option V)) : Prop where
  len : ρ.length = σ.length
  at_ : ∀ (i : Nat) (r : RV), ρ[i]? = some (some r) → ∃ v, σ[i]? = some (some v) ∧ RepV K H R m r v
theorem RepE.ext {K : PySem.W.Frag} {H H' : Hp} {R R' m m' : List Addr} {ρ : Env'} {σ : List (Option V)} (e : Ext H R m H' R' m') (hs : ∀ a ∈ m, a ∈ R) (r : RepE K H R m ρ σ) : RepE K H' R' m' ρ σ :=
  ⟨r.len, fun i x h => let ⟨v, h1, h2⟩ := r.at_ i x h; ⟨v, h1, RepV.ext e hs h2⟩⟩
theorem RepE.set {K : PySem.W.Frag} {H : Hp} {R m : List Addr} {ρ : Env'} {σ : List (Option V)} (r : RepE K H R m ρ σ) (i : Nat) {x : RV} {v : V} (h : RepV K H R m x v) : RepE K H R m (ρ.set i (some x)) (σ.set i (some v)) := by
  refine ⟨by rw [List.length_set, List.length_set, r.len], fun j y e => ?_⟩
  by_cases q : j = i
  · subst q
    have hj : j < ρ.length := by
      have := (List.getElem?_eq_some_iff.mp e).1
      rwa [List.length_set] at this
    rw [List.getElem?_set_self hj] at e
    cases e
    exact ⟨v, List.getElem?_set_self (by rw [← r.len]; exact hj), h⟩
  · rw [List.getElem?_set_ne (Ne.symm q)] at e
    obtain ⟨u, h1, h2⟩ := r.at_ j y e
    exact ⟨u, by rw [List.getElem?_set_ne (Ne.symm q)]; exact h1, h2⟩
end Ev

/-! The evaluator, part B: what an expression's function promises; operators. -/
namespace Ev
open PySem PySem.Spec PyProof.Rows L2

abbrev Sto := List Ob
abbrev Fe (α : Type) := Env' → Sto → Option (α × Sto)
abbrev Lim : Nat := 16777216
theorem lim_eq : (sizeLine : Nat) = Lim := sizeLine_eq

/-! ### readings -/
def TV (X : Cx) (f : Fe RV) : TE := fun σ H Q => ∃ (ρ : Env') (R m : List Addr) (S : Sto) (r : RV) (S' : Sto), RepE X.K H R m ρ σ ∧ Sim X.prog X.w X.K H R m S ∧ f ρ S = some (r, S') ∧
  ∀ v H' R' m', Ext H R m H' R' m' → Sim X.prog X.w X.K H' R' m' S' → RepV X.K H' R' m' r v → Q v H'
/-- a new list, owned by none -/
def TL (X : Cx) (f : Fe (List D)) : TE := fun σ H Q => ∃ (ρ : Env') (R m : List Addr) (S : Sto) (r : List D) (S' : Sto), RepE X.K H R m ρ σ ∧ Sim X.prog X.w X.K H R m S ∧ f ρ S = some (r, S') ∧
  ∀ a vs H' R' m', Ext H R m H' R' m' → Sim X.prog X.w X.K H' R' m' S' → H' a = none → Reps X.K H' R' r vs → r.length ≤ Lim → Q (.ref a) (upd H' a (.lst vs))
def TB (X : Cx) (f : Fe Bool) : TT := fun σ H Q => ∃ (ρ : Env') (R m : List Addr) (S : Sto) (r : Bool) (S' : Sto), RepE X.K H R m ρ σ ∧ Sim X.prog X.w X.K H R m S ∧ f ρ S = some (r, S') ∧
  ∀ H' R' m', Ext H R m H' R' m' → Sim X.prog X.w X.K H' R' m' S' → Q r H'
inductive RepVs (K : PySem.W.Frag) (H : Hp) (R m : List Addr) : List RV → List V → Prop
  | nil : RepVs K H R m [] []
  | cons {r : RV} {v : V} {rs : List RV} {vs : List V} : RepV K H R m r v → RepVs K H R m rs vs → RepVs K H R m (r :: rs) (v :: vs)
def TAs (X : Cx) (f : Fe (List RV)) : TA := fun σ H Q => ∃ (ρ : Env') (R m : List Addr) (S : Sto) (r : List RV) (S' : Sto), RepE X.K H R m ρ σ ∧ Sim X.prog X.w X.K H R m S ∧ f ρ S = some (r, S') ∧
  ∀ vs H' R' m', Ext H R m H' R' m' → Sim X.prog X.w X.K H' R' m' S' → RepVs X.K H' R' m' r vs → Q vs H'
theorem RepVs.ext {K : PySem.W.Frag} {H H' : Hp} {R R' m m' : List Addr} (e : Ext H R m H' R' m') (hs : ∀ a ∈ m, a ∈ R) : ∀ {rs : List RV} {vs : List V}, RepVs K H R m rs vs → RepVs K H' R' m' rs vs
  | _, _, .nil => .nil
  | _, _, .cons h r => .cons (h.ext e hs) (r.ext e hs)

theorem pe_weak {X : Cx} {e : Expr} {t t' : TE} (h : PE X e t) (w : ∀ σ H Q, t' σ H Q → t σ H Q) : PE X e t' := ⟨fun pins s σ H Q I q => h.run pins s σ H Q I (w _ _ _ q)⟩
theorem pt_weak {X : Cx} {e : Expr} {t t' : TT} (h : PT X e t) (w : ∀ σ H Q, t' σ H Q → t σ H Q) : PT X e t' := ⟨fun pins s σ H Q I q => h.run pins s σ H Q I (w _ _ _ q)⟩
theorem ps_weak {X : Cx} {e : Stmt} {t t' : TS} (h : PS X e t) (w : ∀ D σ H, t' D σ H → t D σ H) : PS X e t' := ⟨fun pins s σ H D I q => h.run pins s σ H D I (w _ _ _ q)⟩
theorem pss_weak {X : Cx} {e : List Stmt} {t t' : TS} (h : PSs X e t) (w : ∀ D σ H, t' D σ H → t D σ H) : PSs X e t' := ⟨fun pins s σ H D I q => h.run pins s σ H D I (w _ _ _ q)⟩
theorem pa_weak {X : Cx} {e : List Expr} {t t' : TA} (h : PA X e t) (w : ∀ σ H Q, t' σ H Q → t σ H Q) : PA X e t' := ⟨fun pos pins s σ H Q I q => h.run pos pins s σ H Q I (w _ _ _ q)⟩

/-! ### combinators: two in a row -/
def fBind {α β : Type} (f : Fe α) (k : α → Fe β) : Fe β := fun ρ S => (f ρ S).bind fun p => k p.1 ρ p.2
def fMap {α β : Type} (f : Fe α) (k : α → Sto → Option β) : Fe β := fun ρ S => (f ρ S).bind fun p => (k p.1 p.2).bind fun y => some (y, p.2)
theorem bind_some {α β : Type} {o : Option α} {k : α → Option β} {r : β} (h : o.bind k = some r) : ∃ x, o = some x ∧ k x = some r := by
  cases o with
  | none => cases h
  | some x => exact ⟨x, rfl, h⟩
theorem fBind_some {α β : Type} {f : Fe α} {k : α → Fe β} {ρ : Env'} {S : Sto} {r : β × Sto} (h : fBind f k ρ S = some r) : ∃ x S1, f ρ S = some (x, S1) ∧ k x ρ S1 = some r := by
  obtain ⟨⟨x, S1⟩, h1, h2⟩ := bind_some h
  exact ⟨x, S1, h1, h2⟩
theorem fMap_some {α β : Type} {f : Fe α} {k : α → Sto → Option β} {ρ : Env'} {S S' : Sto} {r : β} (h : fMap f k ρ S = some (r, S')) : ∃ x, f ρ S = some (x, S') ∧ k x S' = some r := by
  obtain ⟨⟨x, S1⟩, h1, h2⟩ := bind_some h
  obtain ⟨y, h3, h4⟩ := bind_some h2
  cases h4
  exact ⟨x, h1, h3⟩

/-! ### constants, slots -/
def eC (d : D) : Fe RV := fun _ S => some (.d d, S)
def eVar (i : Nat) : Fe RV := fun ρ S => match ρ[i]? with
  | some (some r) => some (r, S)
  | _ => none
section
variable {X : Cx} {a b c : Expr} {pos : Pos} {f g h : Fe RV}
theorem e_int {i j} : PE X (.Constant (.int i) j pos) (TV X (eC (.int i))) := pe_weak pe_int fun σ H Q ⟨ρ, R, m, S, r, S', hE, hS, e, k⟩ => by
  cases e
  exact k _ _ _ _ .refl hS (.int i)
theorem e_bl {i j} : PE X (.Constant (.bool i) j pos) (TV X (eC (.bl i))) := pe_weak pe_bl fun σ H Q ⟨ρ, R, m, S, r, S', hE, hS, e, k⟩ => by
  cases e
  exact k _ _ _ _ .refl hS (.bl i)
theorem e_non {j} : PE X (.Constant .none j pos) (TV X (eC .non)) := pe_weak pe_non fun σ H Q ⟨ρ, R, m, S, r, S', hE, hS, e, k⟩ => by
  cases e
  exact k _ _ _ _ .refl hS .non
theorem e_str {i j} : PE X (.Constant (.str i) j pos) (TV X (eC (.str i))) := pe_weak pe_str fun σ H Q ⟨ρ, R, m, S, r, S', hE, hS, e, k⟩ => by
  cases e
  exact k _ _ _ _ .refl hS (.str i)
theorem e_var {i : Nat} {x : Str} (hN : X.N[i]? = some x) (hv : Vis X.env.scope x) (hd : (x == ("__debug__" : Str)) = false) (hcd : (x == ("__classdict__" : Str)) = false) : PE X (.Name x pos) (TV X (eVar i)) :=
  pe_weak (pe_var hN hv hd hcd) fun σ H Q ⟨ρ, R, m, S, r, S', hE, hS, e, k⟩ => by
    unfold eVar at e
    split at e
    · rename_i r' hr
      cases e
      obtain ⟨v, h1, h2⟩ := hE.at_ _ _ hr
      exact ⟨v, h1, k _ _ _ _ .refl hS h2⟩
    · cases e
/-- a constant of the module: an int, a text, a tuple -/
theorem e_glob {x : Str} {v : V} {u : Value} {d : D} (hg : Gl X x) (hm : X.mg x = some u) (r : RelV v u) (hr : ∀ H, Rep X.K H [] d v) (ht : ∀ H R, Rep X.K H [] d v → Rep X.K H R d v) (hd : (x == ("__debug__" : Str)) = false) : PE X (.Name x pos) (TV X (eC d)) :=
  pe_weak (pe_glob hg hm r hd) fun σ H Q ⟨ρ, R, m, S, r, S', hE, hS, e, k⟩ => by
    cases e
    exact k _ _ _ _ .refl hS (ht H R (hr H))

/-! ### operators on values -/
abbrev Op2 := RV → RV → Sto → Option RV
def OpV (X : Cx) (r : R2) (op : Op2) : Prop := ∀ (H : Hp) (R m : List Addr) (S : Sto) (x y : RV) (v u : V) (res : RV), Sim X.prog X.w X.K H R m S → RepV X.K H R m x v → RepV X.K H R m y u → op x y S = some res →
  ∀ Q : VK, (∀ v' H', Ext H R m H' R m → Sim X.prog X.w X.K H' R m S → RepV X.K H' R m res v' → Q v' H') → r v u H Q
def eBin (op : Op2) (f g : Fe RV) : Fe RV := fBind f fun x => fMap g fun y S => op x y S
theorem tv_bin {r : R2} {op : Op2} (hv : OpV X r op) {σ : L2.St} {H : Hp} {Q : VK} (h : TV X (eBin op f g) σ H Q) : tOp r (TV X f) (TV X g) σ H Q := by
  obtain ⟨ρ, R, m, S, res, S', hE, hS, e, k⟩ := h
  obtain ⟨x, S1, e1, e2⟩ := fBind_some e
  obtain ⟨y, e3, e4⟩ := fMap_some e2
  refine ⟨ρ, R, m, S, x, S1, hE, hS, e1, fun v H1 R1 m1 x1 s1 r1 => ?_⟩
  refine ⟨ρ, R1, m1, S1, y, S', hE.ext x1 hS.sub, s1, e3, fun u H2 R2 m2 x2 s2 r2 => ?_⟩
  exact hv H2 R2 m2 S' x y v u res s2 (r1.ext x2 s1.sub) r2 e4 Q fun v' H' x3 s3 r3 => k v' H' R2 m2 ((x1.trans x2).trans x3) s3 r3
theorem e_bin {op : Operator} {r : R2} {vop : Op2} (hr : OpR X (binaryOp op) r) (hv : OpV X r vop) (ha : PE X a (TV X f)) (hb : PE X b (TV X g)) : PE X (.BinOp a op b pos) (TV X (eBin vop f g)) :=
  pe_weak (pe_op hr ha hb) fun _ _ _ h => tv_bin hv h
theorem e_cmp {op : CmpOp} {r : R2} {vop : Op2} (hr : OpR X (compareOp op) r) (hv : OpV X r vop) (ha : PE X a (TV X f)) (hb : PE X b (TV X g)) (hm : behindInMarks op b = false) : PE X (.Compare a [op] [b] pos) (TV X (eBin vop f g)) :=
  pe_weak (pe_cmpR hr ha hb hm) fun _ _ _ h => tv_bin hv h

def isBl : RV → Option Bool
  | .d (.bl b) => some b
  | _ => none
def fTest (f : Fe RV) : Fe Bool := fMap f fun x _ => isBl x
theorem isBl_rep {K : PySem.W.Frag} {H : Hp} {R m : List Addr} {r : RV} {v : V} {k : Bool} (e : isBl r = some k) (h : RepV K H R m r v) : v = .bl k := by
  unfold isBl at e
  split at e
  · cases e
    cases h
    rfl
  · cases e
theorem tb_of {σ : L2.St} {H : Hp} {Q : Bool → Hp → Prop} (h : TB X (fTest f) σ H Q) : TV X f σ H fun x H' => ∃ k, x = .bl k ∧ Q k H' := by
  obtain ⟨ρ, R, m, S, res, S', hE, hS, e, k⟩ := h
  obtain ⟨x, e1, e2⟩ := fMap_some e
  exact ⟨ρ, R, m, S, x, S', hE, hS, e1, fun v H' R' m' x1 s1 r1 => ⟨res, isBl_rep e2 r1, k H' R' m' x1 s1⟩⟩
theorem t_cmp {op : CmpOp} {r : R2} {vop : Op2} (hr : OpR X (compareOp op) r) (hv : OpV X r vop) (ha : PE X a (TV X f)) (hb : PE X b (TV X g)) (hm : behindInMarks op b = false) : PT X (.Compare a [op] [b] pos) (TB X (fTest (eBin vop f g))) :=
  pt_weak (pt_cmpR hr ha hb hm) fun σ H Q h => by
    have q := tb_of h
    exact tv_bin hv q

/-! ### chains a < b < c -/
def eChain (op op' : Op2) (f g h : Fe RV) : Fe RV := fBind f fun x => fBind g fun y => fun ρ S => (op x y S).bind fun z => match isBl z with
  | some true => fMap h (fun w S => op' y w S) ρ S
  | some false => some (.d (.bl false), S)
  | none => none
theorem tv_chain {r r' : R2} {op op' : Op2} (hv : OpV X r op) (hv' : OpV X r' op') {σ : L2.St} {H : Hp} {Q : VK} (q : TV X (eChain op op' f g h) σ H Q) : tChain r r' (TV X f) (TV X g) (TV X h) σ H Q := by
  obtain ⟨ρ, R, m, S, res, S', hE, hS, e, k⟩ := q
  obtain ⟨x, S1, e1, e2⟩ := fBind_some e
  obtain ⟨y, S2, e3, e4⟩ := fBind_some e2
  obtain ⟨z, e5, e6⟩ := bind_some e4
  refine ⟨ρ, R, m, S, x, S1, hE, hS, e1, fun v H1 R1 m1 x1 s1 r1 => ?_⟩
  refine ⟨ρ, R1, m1, S1, y, S2, hE.ext x1 hS.sub, s1, e3, fun u H2 R2 m2 x2 s2 r2 => ?_⟩
  refine hv H2 R2 m2 S2 x y v u z s2 (r1.ext x2 s1.sub) r2 e5 _ fun v' H3 x3 s3 r3 => ?_
  cases q : isBl z with
  | none => rw [q] at e6; cases e6
  | some kb =>
    rw [q] at e6
    refine ⟨kb, isBl_rep q r3, ?_⟩
    cases kb with
    | false =>
      rw [if_neg Bool.false_ne_true]
      cases e6
      exact k _ _ _ _ ((x1.trans x2).trans x3) s3 (.bl false)
    | true =>
      rw [if_pos rfl]
      obtain ⟨w, e7, e8⟩ := fMap_some e6
      refine ⟨ρ, R2, m2, S2, w, S', ((hE.ext x1 hS.sub).ext x2 s1.sub).ext x3 s2.sub, s3, e7, fun u' H4 R4 m4 x4 s4 r4 => ?_⟩
      exact hv' H4 R4 m4 S' y w u u' res s4 ((r2.ext x3 s2.sub).ext x4 s3.sub) r4 e8 Q fun v5 H5 x5 s5 r5 => k v5 H5 R4 m4 ((((x1.trans x2).trans x3).trans x4).trans x5) s5 r5
theorem e_chain {op op' : CmpOp} {r r' : R2} {vop vop' : Op2} (hr : OpR X (compareOp op) r) (hv : OpV X r vop) (hr' : OpR X (compareOp op') r') (hv' : OpV X r' vop') (ha : PE X a (TV X f)) (hb : PE X b (TV X g)) (hc : PE X c (TV X h)) (hm : lastMarks [op, op'] [b, c] = false) :
    PE X (.Compare a [op, op'] [b, c] pos) (TV X (eChain vop vop' f g h)) := pe_weak (pe_chain hr hr' ha hb hc hm) fun _ _ _ q => tv_chain hv hv' q
theorem t_chain {op op' : CmpOp} {r r' : R2} {vop vop' : Op2} (hr : OpR X (compareOp op) r) (hv : OpV X r vop) (hr' : OpR X (compareOp op') r') (hv' : OpV X r' vop') (ha : PE X a (TV X f)) (hb : PE X b (TV X g)) (hc : PE X c (TV X h)) (hm : lastMarks [op, op'] [b, c] = false) :
    PT X (.Compare a [op, op'] [b, c] pos) (TB X (fTest (eChain vop vop' f g h))) := pt_weak (pt_chain hr hr' ha hb hc hm) fun _ _ _ q => tv_chain hv hv' (tb_of q)

/-! ### and, or, not, if -/
def fAnd (f g : Fe Bool) : Fe Bool := fBind f fun x => if x = true then g else fun _ S => some (false, S)
def fOr (f g : Fe Bool) : Fe Bool := fBind f fun x => if x = true then fun _ S => some (true, S) else g
def fNot (f : Fe Bool) : Fe Bool := fMap f fun x _ => some (!x)
def fIf {α : Type} (t : Fe Bool) (f g : Fe α) : Fe α := fBind t fun x => if x = true then f else g
variable {t u : Fe Bool} {rest : List Expr}
theorem t_and1 (ha : PT X a (TB X t)) : PW X (.BoolOp .And [a] pos) (TB X t) := pw_and1 ha
theorem t_or1 (ha : PT X a (TB X t)) : PW X (.BoolOp .Or [a] pos) (TB X t) := pw_or1 ha
theorem pw_weak {X : Cx} {e : Expr} {t t' : TT} (h : PW X e t) (w : ∀ σ H Q, t' σ H Q → t σ H Q) : PW X e t' := ⟨fun wh pins s σ H Q I q => h.run wh pins s σ H Q I (w _ _ _ q)⟩
theorem t_and (ha : PT X a (TB X t)) (hb : PW X (.BoolOp .And (b :: rest) pos) (TB X u)) : PW X (.BoolOp .And (a :: b :: rest) pos) (TB X (fAnd t u)) := pw_weak (pw_and ha hb) fun σ H Q h => by
  obtain ⟨ρ, R, m, S, res, S', hE, hS, e, k⟩ := h
  obtain ⟨x, S1, e1, e2⟩ := fBind_some e
  refine ⟨ρ, R, m, S, x, S1, hE, hS, e1, fun H1 R1 m1 x1 s1 => ?_⟩
  cases x with
  | true =>
    rw [if_pos rfl] at e2 ⊢
    exact ⟨ρ, R1, m1, S1, res, S', hE.ext x1 hS.sub, s1, e2, fun H2 R2 m2 x2 s2 => k H2 R2 m2 (x1.trans x2) s2⟩
  | false =>
    rw [if_neg Bool.false_ne_true] at e2 ⊢
    cases e2
    exact k H1 R1 m1 x1 s1
theorem t_or (ha : PT X a (TB X t)) (hb : PW X (.BoolOp .Or (b :: rest) pos) (TB X u)) : PW X (.BoolOp .Or (a :: b :: rest) pos) (TB X (fOr t u)) := pw_weak (pw_or ha hb) fun σ H Q h => by
  obtain ⟨ρ, R, m, S, res, S', hE, hS, e, k⟩ := h
  obtain ⟨x, S1, e1, e2⟩ := fBind_some e
  refine ⟨ρ, R, m, S, x, S1, hE, hS, e1, fun H1 R1 m1 x1 s1 => ?_⟩
  cases x with
  | false =>
    rw [if_neg Bool.false_ne_true] at e2 ⊢
    exact ⟨ρ, R1, m1, S1, res, S', hE.ext x1 hS.sub, s1, e2, fun H2 R2 m2 x2 s2 => k H2 R2 m2 (x1.trans x2) s2⟩
  | true =>
    rw [if_pos rfl] at e2 ⊢
    cases e2
    exact k H1 R1 m1 x1 s1
theorem t_not (ha : PT X a (TB X t)) : PT X (.UnaryOp .Not a pos) (TB X (fNot t)) := pt_weak (pt_not ha) fun σ H Q h => by
  obtain ⟨ρ, R, m, S, res, S', hE, hS, e, k⟩ := h
  obtain ⟨x, e1, e2⟩ := fMap_some e
  cases e2
  exact ⟨ρ, R, m, S, x, S', hE, hS, e1, k⟩
theorem e_if {c : Expr} (hc : PT X c (TB X t)) (ha : PE X a (TV X f)) (hb : PE X b (TV X g)) : PE X (.IfExp c a b pos) (TV X (fIf t f g)) := pe_weak (pe_ifExp hc ha hb) fun σ H Q h => by
  obtain ⟨ρ, R, m, S, res, S', hE, hS, e, k⟩ := h
  obtain ⟨x, S1, e1, e2⟩ := fBind_some e
  refine ⟨ρ, R, m, S, x, S1, hE, hS, e1, fun H1 R1 m1 x1 s1 => ?_⟩
  cases x with
  | true =>
    rw [if_pos rfl] at e2 ⊢
    exact ⟨ρ, R1, m1, S1, res, S', hE.ext x1 hS.sub, s1, e2, fun v H2 R2 m2 x2 s2 r2 => k v H2 R2 m2 (x1.trans x2) s2 r2⟩
  | false =>
    rw [if_neg Bool.false_ne_true] at e2 ⊢
    exact ⟨ρ, R1, m1, S1, res, S', hE.ext x1 hS.sub, s1, e2, fun v H2 R2 m2 x2 s2 r2 => k v H2 R2 m2 (x1.trans x2) s2 r2⟩
/-- .. as values: bools, the last one any -/
def eAnd (f g : Fe RV) : Fe RV := fBind f fun x => match isBl x with
  | some true => g
  | some false => fun _ S => some (.d (.bl false), S)
  | none => fun _ _ => none
def eOr (f g : Fe RV) : Fe RV := fBind f fun x => match isBl x with
  | some true => fun _ S => some (.d (.bl true), S)
  | some false => g
  | none => fun _ _ => none
def eNot (f : Fe RV) : Fe RV := fMap f fun x _ => (isBl x).map fun k => .d (.bl !k)
theorem e_and (ha : PE X a (TV X f)) (hb : PE X (.BoolOp .And (b :: rest) pos) (TV X g)) : PE X (.BoolOp .And (a :: b :: rest) pos) (TV X (eAnd f g)) := pe_weak (pe_and ha hb) fun σ H Q h => by
  obtain ⟨ρ, R, m, S, res, S', hE, hS, e, k⟩ := h
  obtain ⟨x, S1, e1, e2⟩ := fBind_some e
  refine ⟨ρ, R, m, S, x, S1, hE, hS, e1, fun v H1 R1 m1 x1 s1 r1 => ?_⟩
  cases q : isBl x with
  | none => simp only [q] at e2; cases e2
  | some kb =>
    simp only [q] at e2
    refine ⟨kb, isBl_rep q r1, ?_⟩
    cases kb with
    | true =>
      rw [if_pos rfl]
      exact ⟨ρ, R1, m1, S1, res, S', hE.ext x1 hS.sub, s1, e2, fun v H2 R2 m2 x2 s2 r2 => k v H2 R2 m2 (x1.trans x2) s2 r2⟩
    | false =>
      rw [if_neg Bool.false_ne_true]
      cases e2
      exact k _ H1 R1 m1 x1 s1 (.bl false)
theorem e_or (ha : PE X a (TV X f)) (hb : PE X (.BoolOp .Or (b :: rest) pos) (TV X g)) : PE X (.BoolOp .Or (a :: b :: rest) pos) (TV X (eOr f g)) := pe_weak (pe_or ha hb) fun σ H Q h => by
  obtain ⟨ρ, R, m, S, res, S', hE, hS, e, k⟩ := h
  obtain ⟨x, S1, e1, e2⟩ := fBind_some e
  refine ⟨ρ, R, m, S, x, S1, hE, hS, e1, fun v H1 R1 m1 x1 s1 r1 => ?_⟩
  cases q : isBl x with
  | none => simp only [q] at e2; cases e2
  | some kb =>
    simp only [q] at e2
    refine ⟨kb, isBl_rep q r1, ?_⟩
    cases kb with
    | false =>
      rw [if_neg Bool.false_ne_true]
      exact ⟨ρ, R1, m1, S1, res, S', hE.ext x1 hS.sub, s1, e2, fun v H2 R2 m2 x2 s2 r2 => k v H2 R2 m2 (x1.trans x2) s2 r2⟩
    | true =>
      rw [if_pos rfl]
      cases e2
      exact k _ H1 R1 m1 x1 s1 (.bl true)
theorem e_one {op} (ha : PE X a (TV X f)) : PE X (.BoolOp op [a] pos) (TV X f) := pe_one ha
theorem e_not (ha : PE X a (TV X f)) : PE X (.UnaryOp .Not a pos) (TV X (eNot f)) := pe_weak (pe_not ha) fun σ H Q h => by
  obtain ⟨ρ, R, m, S, res, S', hE, hS, e, k⟩ := h
  obtain ⟨x, e1, e2⟩ := fMap_some e
  refine ⟨ρ, R, m, S, x, S', hE, hS, e1, fun v H1 R1 m1 x1 s1 r1 => ?_⟩
  cases q : isBl x with
  | none => rw [q] at e2; cases e2
  | some kb =>
    rw [q] at e2
    cases e2
    exact ⟨kb, isBl_rep q r1, k _ _ _ _ x1 s1 (.bl _)⟩
end
end Ev

/-! The evaluator, part C: operators on values, subscripts. -/
namespace Ev
open PySem PySem.Spec PyProof.Rows L2

/-! ### reading values -/
mutual
theorem Rep.dp {K : PySem.W.Frag} {H : Hp} {R : List Addr} : ∀ {d : D} {v : V}, Rep K H R d v → Dp K H v d.py
  | _, _, .non => by simp only [D.py]; exact Dp.non
  | _, _, .bl b => by simp only [D.py]; exact Dp.bl b
  | _, _, .int i => by simp only [D.py]; exact Dp.int i
  | _, _, .str x => by simp only [D.py]; exact Dp.str x
  | _, _, .tup h _ r => by simp only [D.py]; exact Dp.tup (.inl h) (Reps.dp r)
  | _, _, .tupK h r => by
    simp only [D.py]
    exact Dp.tup (.inr h) (Reps.dp r)
  | _, _, .lst h _ r => by simp only [D.py]; exact Dp.lst (.inl h) (Reps.dp r)
  | _, _, .lstK h r => by simp only [D.py]; exact Dp.lst (.inr h) (Reps.dp r)
theorem Reps.dp {K : PySem.W.Frag} {H : Hp} {R : List Addr} : ∀ {d : List D} {v : List V}, Reps K H R d v → DpAll K H v (D.pys d)
  | _, _, .nil => by simp only [D.pys]; exact DpAll.nil
  | _, _, .cons h r => by simp only [D.pys]; exact DpAll.cons (Rep.dp h) (Reps.dp r)
end
def lookL (r : RV) (S : Sto) : Option (List D) := match r with
  | .d (.lst ds) => some ds
  | .o n => match S[n]? with
    | some (.lst ds) => some ds
    | _ => none
  | _ => none
def lookT : RV → Option (List D)
  | .d (.tup ds) => some ds
  | _ => none
/-- a list or a tuple -/
def lookQ (r : RV) (S : Sto) : Option (List D) := match lookL r S with
  | some ds => some ds
  | none => lookT r
/-- any data, owned lists too -/
def look (r : RV) (S : Sto) : Option D := match r with
  | .d x => some x
  | .o n => (match S[n]? with
    | some (.lst ds) => some (.lst ds)
    | _ => none)
  | .t _ => none
section
variable {P : Program} {w : World} {K : PySem.W.Frag} {H : Hp} {R m : List Addr} {S : Sto} {r : RV} {v : V} {ds : List D} {d : D}
theorem Rep.isT (h : Rep K H R (.tup ds) v) : ∃ a vs, v = .ref a ∧ SqT K H a vs ∧ Reps K H R ds vs := by
  cases h with
  | tup h n r => exact ⟨_, _, rfl, .inl h, r⟩
  | tupK h r => exact ⟨_, _, rfl, .inr h, r⟩
theorem Rep.isL (h : Rep K H R (.lst ds) v) : ∃ a vs, v = .ref a ∧ SqL K H a vs ∧ Reps K H R ds vs := by
  cases h with
  | lst h n r => exact ⟨_, _, rfl, .inl h, r⟩
  | lstK h r => exact ⟨_, _, rfl, .inr h, r⟩
theorem lookL_view (hS : Sim P w K H R m S) (h : RepV K H R m r v) (e : lookL r S = some ds) : ∃ a vs, v = .ref a ∧ SqL K H a vs ∧ Reps K H R ds vs := by
  unfold lookL at e
  split at e
  · cases e
    exact Rep.isL h
  · rename_i n
    split at e
    · rename_i hn
      cases e
      obtain ⟨a, h1, rfl⟩ := h
      obtain ⟨vs, h2, h3⟩ := hS.at_ n a _ h1 hn
      exact ⟨a, vs, rfl, SqL.of h2, h3⟩
    · cases e
  · cases e
theorem lookT_view (h : RepV K H R m r v) (e : lookT r = some ds) : ∃ a vs, v = .ref a ∧ SqT K H a vs ∧ Reps K H R ds vs := by
  unfold lookT at e
  split at e
  · cases e
    exact Rep.isT h
  · cases e
theorem lookQ_view (hS : Sim P w K H R m S) (h : RepV K H R m r v) (e : lookQ r S = some ds) : ∃ a vs, v = .ref a ∧ (SqL K H a vs ∨ SqT K H a vs) ∧ Reps K H R ds vs := by
  unfold lookQ at e
  split at e
  · rename_i hl
    cases e
    obtain ⟨a, vs, h1, h2, h3⟩ := lookL_view hS h hl
    exact ⟨a, vs, h1, .inl h2, h3⟩
  · obtain ⟨a, vs, h1, h2, h3⟩ := lookT_view h e
    exact ⟨a, vs, h1, .inr h2, h3⟩
theorem look_dp (hS : Sim P w K H R m S) (h : RepV K H R m r v) (e : look r S = some d) : Dp K H v d.py := by
  unfold look at e
  split at e
  · cases e
    exact Rep.dp h
  · split at e
    · rename_i hn
      cases e
      obtain ⟨a, h1, rfl⟩ := h
      obtain ⟨vs, h2, h3⟩ := hS.at_ _ a _ h1 hn
      simp only [D.py]
      exact Dp.lst (SqL.of h2) (Reps.dp h3)
    · cases e
  · cases e
end

/-! ### operators -/
def Op2.or (a b : Op2) : Op2 := fun x y S => match a x y S with
  | some r => some r
  | none => b x y S
section
variable {X : Cx} {f g : Fe RV} {a b : Expr} {pos : Pos}
theorem OpV.or {r r' : R2} {p q : Op2} (h : OpV X r p) (h' : OpV X r' q) : OpV X (fun x y H Q => r x y H Q ∨ r' x y H Q) (p.or q) := by
  intro H R m S x y v u res hS hx hy e Q k
  unfold Op2.or at e
  split at e
  · rename_i z hz
    cases e
    exact .inl (h H R m S x y v u _ hS hx hy hz Q k)
  · exact .inr (h' H R m S x y v u _ hS hx hy e Q k)
def vI (p : Int → Int → Bool) (gg : Int → Int → D) : Op2 := fun x y _ => match x, y with
  | .d (.int i), .d (.int j) => if p i j = true then some (.d (gg i j)) else none
  | _, _ => none
theorem vI_some {p : Int → Int → Bool} {gg : Int → Int → D} {x y : RV} {S : Sto} {res : RV} (h : vI p gg x y S = some res) : ∃ i j, x = .d (.int i) ∧ y = .d (.int j) ∧ p i j = true ∧ res = .d (gg i j) := by
  unfold vI at h
  split at h
  · split at h
    · rename_i i j hp
      cases h
      exact ⟨i, j, rfl, rfl, hp, rfl⟩
    · cases h
  · cases h
theorem opv_I {C : Int → Int → Prop} {gg : Int → Int → Int} {p : Int → Int → Bool} (hp : ∀ i j, p i j = true → C i j) : OpV X (rI C fun i j => .int (gg i j)) (vI p fun i j => .int (gg i j)) := by
  intro H R m S x y v u res hS hx hy e Q k
  obtain ⟨i, j, rfl, rfl, h1, rfl⟩ := vI_some e
  cases hx; cases hy
  exact ⟨i, j, rfl, rfl, hp i j h1, k _ _ .refl hS (.int _)⟩
theorem opv_I0 {gg : Int → Int → Int} : OpV X (rI0 fun i j => .int (gg i j)) (vI (fun _ _ => true) fun i j => .int (gg i j)) := by
  intro H R m S x y v u res hS hx hy e Q k
  obtain ⟨i, j, rfl, rfl, h1, rfl⟩ := vI_some e
  cases hx; cases hy
  exact ⟨i, j, rfl, rfl, k _ _ .refl hS (.int _)⟩
theorem opv_B0 {gg : Int → Int → Bool} : OpV X (rI0 fun i j => .bl (gg i j)) (vI (fun _ _ => true) fun i j => .bl (gg i j)) := by
  intro H R m S x y v u res hS hx hy e Q k
  obtain ⟨i, j, rfl, rfl, h1, rfl⟩ := vI_some e
  cases hx; cases hy
  exact ⟨i, j, rfl, rfl, k _ _ .refl hS (.bl _)⟩
def vAddI : Op2 := vI (fun _ _ => true) fun i j => .int (i + j)
def vSub : Op2 := vI (fun _ _ => true) fun i j => .int (i - j)
def pMul (i j : Int) : Bool := (decide (-(2 ^ 64) < i) && decide (i < 2 ^ 64)) || (decide (-(2 ^ 64) < j) && decide (j < 2 ^ 64))
def vMul : Op2 := vI pMul fun i j => .int (i * j)
def pDiv (_ j : Int) : Bool := decide (0 < j) && decide (j < 1073741824)
def vDiv : Op2 := vI pDiv fun i j => .int (i / j)
def vMod : Op2 := vI (fun _ j => decide (0 < j)) fun i j => .int (i % j)
def pPow (i j : Int) : Bool := decide (0 ≤ j) && (decide (j ≤ 1000000) && decide (i.natAbs < 2 ^ 64))
def vPow : Op2 := vI pPow fun i j => .int (i ^ j.toNat)
def vShl : Op2 := vI pPow fun i j => .int (i * 2 ^ j.toNat)
def vShr : Op2 := vI (fun _ j => decide (0 ≤ j)) fun i j => .int (i / 2 ^ j.toNat)
def vAnd : Op2 := vI (fun _ _ => true) fun i j => .int (Builtin.bitAnd i j)
def vOr : Op2 := vI (fun _ _ => true) fun i j => .int (Builtin.bitOr i j)
def vXor : Op2 := vI (fun _ _ => true) fun i j => .int (Builtin.bitXor i j)
theorem ov_sub : OpV X (rI0 fun i j => .int (i - j)) vSub := opv_I0
theorem ov_mul : OpV X (rI CMul fun i j => .int (i * j)) vMul := opv_I fun i j h => by
  simp only [pMul, Bool.or_eq_true, Bool.and_eq_true, decide_eq_true_eq] at h
  exact h
theorem ov_div : OpV X (rI CDiv fun i j => .int (i / j)) vDiv := opv_I fun i j h => by
  simp only [pDiv, Bool.and_eq_true, decide_eq_true_eq] at h
  exact h
theorem ov_mod : OpV X (rI (fun _ j => 0 < j) fun i j => .int (i % j)) vMod := opv_I fun i j h => of_decide_eq_true h
theorem ov_pow : OpV X (rI CPow fun i j => .int (i ^ j.toNat)) vPow := opv_I fun i j h => by
  simp only [pPow, Bool.and_eq_true, decide_eq_true_eq] at h
  exact h
theorem ov_shl : OpV X (rI CPow fun i j => .int (i * 2 ^ j.toNat)) vShl := opv_I fun i j h => by
  simp only [pPow, Bool.and_eq_true, decide_eq_true_eq] at h
  exact h
theorem ov_shr : OpV X (rI (fun _ j => 0 ≤ j) fun i j => .int (i / 2 ^ j.toNat)) vShr := opv_I fun i j h => of_decide_eq_true h
theorem ov_and : OpV X (rI0 fun i j => .int (Builtin.bitAnd i j)) vAnd := opv_I0
theorem ov_or : OpV X (rI0 fun i j => .int (Builtin.bitOr i j)) vOr := opv_I0
theorem ov_xor : OpV X (rI0 fun i j => .int (Builtin.bitXor i j)) vXor := opv_I0

/-- tuples put together -/
def vCat : Op2 := fun x y _ => match x, y with
  | .d (.tup a), .d (.tup b) => if a.length + b.length ≤ Lim then some (.d (.tup (a ++ b))) else none
  | _, _ => none
theorem ov_cat : OpV X (rCatA X.K) vCat := by
  intro H R m S x y v u res hS hx hy e Q k
  unfold vCat at e
  split at e
  · rename_i a b
    split at e
    · rename_i hl
      cases e
      obtain ⟨p, vs, rfl, h1, h2⟩ := Rep.isT hx
      obtain ⟨q, us, rfl, h3, h4⟩ := Rep.isT hy
      refine ⟨p, q, vs, us, rfl, rfl, h1, h3, by rw [← h2.length, ← h4.length, lim_eq]; exact hl, fun e1 => ?_, fun e1 e2 => ?_, fun e1 e2 c hc => ?_⟩
      · subst e1
        cases h2
        exact k _ _ .refl hS hy
      · subst e2
        cases h4
        rw [List.append_nil] at k
        exact k _ _ .refl hS hx
      · refine k _ _ (.new hc) (hS.new hc) (.tup (.inl upd_same) (hS.notR hc) ?_)
        exact (h2.ext (Ext.new hc) hS.sub).append (h4.ext (Ext.new hc) hS.sub)
    · cases e
  · cases e
def vAdd : Op2 := vAddI.or vCat
theorem ov_add : OpV X (fun x y H Q => rI0 (fun i j => .int (i + j)) x y H Q ∨ rCatA X.K x y H Q) vAdd := OpV.or opv_I0 ov_cat
theorem or_add : OpR X (binaryOp .Add) (fun x y H Q => rI0 (fun i j => .int (i + j)) x y H Q ∨ rCatA X.K x y H Q) := OpR.or op_add op_catA

/-! ### comparisons -/
def vLt : Op2 := vI (fun _ _ => true) fun i j => .bl (decide (i < j))
def vLe : Op2 := vI (fun _ _ => true) fun i j => .bl (decide (i ≤ j))
def vGt : Op2 := vI (fun _ _ => true) fun i j => .bl (decide (j < i))
def vGe : Op2 := vI (fun _ _ => true) fun i j => .bl (decide (j ≤ i))
theorem ov_lt : OpV X (rI0 fun i j => .bl (decide (i < j))) vLt := opv_B0
theorem ov_le : OpV X (rI0 fun i j => .bl (decide (i ≤ j))) vLe := opv_B0
theorem ov_gt : OpV X (rI0 fun i j => .bl (decide (j < i))) vGt := opv_B0
theorem ov_ge : OpV X (rI0 fun i j => .bl (decide (j ≤ i))) vGe := opv_B0

def D.ok (d : D) : Bool := SeqAt.shaped d.py
def D.eqv (a b : D) : Bool := PyData.eqv a.py b.py
def vData (gg : D → D → Bool) : Op2 := fun x y S => match look x S, look y S with
  | some a, some b => if (a.ok && b.ok) = true then some (.d (.bl (gg a b))) else none
  | _, _ => none
theorem vData_some {gg : D → D → Bool} {x y : RV} {S : Sto} {res : RV} (h : vData gg x y S = some res) : ∃ a b, look x S = some a ∧ look y S = some b ∧ a.ok = true ∧ b.ok = true ∧ res = .d (.bl (gg a b)) := by
  unfold vData at h
  split at h
  · rename_i a b h1 h2
    split at h
    · rename_i hp
      cases h
      rw [Bool.and_eq_true] at hp
      exact ⟨a, b, h1, h2, hp.1, hp.2, rfl⟩
    · cases h
  · cases h
def vEq : Op2 := vData D.eqv
def vNe : Op2 := vData fun a b => !D.eqv a b
theorem ov_eq : OpV X (rEqD X.K) vEq := by
  intro H R m S x y v u res hS hx hy e Q k
  obtain ⟨a, b, h1, h2, h3, h4, rfl⟩ := vData_some e
  exact ⟨a.py, b.py, look_dp hS hx h1, look_dp hS hy h2, h3, h4, k _ _ .refl hS (.bl _)⟩
theorem ov_ne : OpV X (rNeD X.K) vNe := by
  intro H R m S x y v u res hS hx hy e Q k
  obtain ⟨a, b, h1, h2, h3, h4, rfl⟩ := vData_some e
  exact ⟨a.py, b.py, look_dp hS hx h1, look_dp hS hy h2, h3, h4, k _ _ .refl hS (.bl _)⟩

/-- x in a list or a tuple -/
def rInT (K : PySem.W.Frag) (ng : Bool) : R2 := fun x y H Q => ∃ d ds, Dp K H x d ∧ Dp K H y (.tuple ds) ∧ SeqAt.shaped d = true ∧ SeqAt.shaped (.tuple ds) = true ∧ Q (.bl (if ng = true then !(ds.any fun z => PyData.eqv z d) else ds.any fun z => PyData.eqv z d)) H
theorem op_inT (hu : X.A.units + 65 < cLine) : OpR X (compareOp .In) (rInT X.K false) := by
  intro pins s σ H x y v u Q I rx ry h
  obtain ⟨d, ds, hd, he, sd, se, q⟩ := h
  obtain ⟨as, r1⟩ := Dp.reads I d x v hd rx
  obtain ⟨bs, r2⟩ := Dp.reads I (.tuple ds) y u he ry
  exact SeqAt.in_tuple_reads r2 r1 (SeqAt.canLay_of_shaped se) (SeqAt.canLay_of_shaped sd) (room_in_shaped sd hu) ⟨.bl _, H, I, rfl, q⟩
theorem op_notInT (hu : X.A.units + 65 < cLine) : OpR X (compareOp .NotIn) (rInT X.K true) := by
  intro pins s σ H x y v u Q I rx ry h
  obtain ⟨d, ds, hd, he, sd, se, q⟩ := h
  obtain ⟨as, r1⟩ := Dp.reads I d x v hd rx
  obtain ⟨bs, r2⟩ := Dp.reads I (.tuple ds) y u he ry
  exact SeqAt.notIn_tuple_reads r2 r1 (SeqAt.canLay_of_shaped se) (SeqAt.canLay_of_shaped sd) (room_in_shaped sd hu) ⟨.bl _, H, I, rfl, q⟩
theorem pys_any (d : D) : ∀ ds : List D, ((D.pys ds).any fun z => PyData.eqv z d.py) = ds.any fun z => D.eqv z d
  | [] => by simp [D.pys]
  | z :: ds => by simp [D.pys, pys_any d ds, D.eqv]
def inD (d : D) (ds : List D) : Bool := ds.any fun z => D.eqv z d
def vInL (ng : Bool) : Op2 := fun x y S => match look x S, lookL y S with
  | some d, some ds => if (d.ok && (D.lst ds).ok) = true then some (.d (.bl (if ng = true then !inD d ds else inD d ds))) else none
  | _, _ => none
def vInT (ng : Bool) : Op2 := fun x y S => match look x S, lookT y with
  | some d, some ds => if (d.ok && (D.tup ds).ok) = true then some (.d (.bl (if ng = true then !inD d ds else inD d ds))) else none
  | _, _ => none
theorem lookL_dp {P : Program} {w : World} {K : PySem.W.Frag} {H : Hp} {R m : List Addr} {S : Sto} {r : RV} {v : V} {ds : List D} (hS : Sim P w K H R m S) (h : RepV K H R m r v) (e : lookL r S = some ds) : Dp K H v (.list (D.pys ds)) := by
  obtain ⟨a, vs, rfl, h1, h2⟩ := lookL_view hS h e
  exact Dp.lst h1 (Reps.dp h2)
theorem lookT_dp {K : PySem.W.Frag} {H : Hp} {R m : List Addr} {r : RV} {v : V} {ds : List D} (h : RepV K H R m r v) (e : lookT r = some ds) : Dp K H v (.tuple (D.pys ds)) := by
  obtain ⟨a, vs, rfl, h1, h2⟩ := lookT_view h e
  exact Dp.tup h1 (Reps.dp h2)
theorem ov_inL : OpV X (rInD X.K) (vInL false) := by
  intro H R m S x y v u res hS hx hy e Q k
  unfold vInL at e
  split at e
  · rename_i d ds h1 h2
    split at e
    · rename_i hp
      cases e
      rw [Bool.and_eq_true] at hp
      refine ⟨d.py, D.pys ds, look_dp hS hx h1, lookL_dp hS hy h2, hp.1, hp.2, ?_⟩
      rw [pys_any]
      exact k _ _ .refl hS (.bl _)
    · cases e
  · cases e
theorem ov_notInL : OpV X (rNotInD X.K) (vInL true) := by
  intro H R m S x y v u res hS hx hy e Q k
  unfold vInL at e
  split at e
  · rename_i d ds h1 h2
    split at e
    · rename_i hp
      cases e
      rw [Bool.and_eq_true] at hp
      refine ⟨d.py, D.pys ds, look_dp hS hx h1, lookL_dp hS hy h2, hp.1, hp.2, ?_⟩
      rw [pys_any]
      exact k _ _ .refl hS (.bl _)
    · cases e
  · cases e
theorem ov_inT (ng : Bool) : OpV X (rInT X.K ng) (vInT ng) := by
  intro H R m S x y v u res hS hx hy e Q k
  unfold vInT at e
  split at e
  · rename_i d ds h1 h2
    split at e
    · rename_i hp
      cases e
      rw [Bool.and_eq_true] at hp
      refine ⟨d.py, D.pys ds, look_dp hS hx h1, lookT_dp hy h2, hp.1, hp.2, ?_⟩
      rw [pys_any]
      exact k _ _ .refl hS (.bl _)
    · cases e
  · cases e

/-- is None, is True -/
def vIsN (ng : Bool) : Op2 := fun x y _ => match y with
  | .d .non => some (.d (.bl (match x with
    | .d .non => !ng
    | _ => ng)))
  | _ => none
def vIsB (ng : Bool) : Op2 := fun x y _ => match x, y with
  | .d (.bl a), .d (.bl b) => some (.d (.bl (if ng = true then !decide (a = b) else decide (a = b))))
  | _, _ => none
theorem isN_rep {K : PySem.W.Frag} {H : Hp} {R m : List Addr} {x : RV} {v : V} (h : RepV K H R m x v) : decide (v = .non) = (match x with
    | .d .non => true
    | _ => false) := by
  cases x with
  | o n =>
    obtain ⟨a, _, rfl⟩ := h
    simp
  | t n =>
    cases h
    simp
  | d x => cases h <;> simp
theorem ov_isN : OpV X (fun x y H Q => y = .non ∧ Q (.bl (decide (x = .non))) H) (vIsN false) := by
  intro H R m S x y v u res hS hx hy e Q k
  unfold vIsN at e
  split at e
  · cases e
    cases hy
    refine ⟨rfl, ?_⟩
    rw [isN_rep hx]
    refine k _ _ .refl hS ?_
    cases x with
    | o n => exact .bl _
    | t n => exact .bl _
    | d x => cases x <;> exact .bl _
  · cases e
theorem ov_notN : OpV X (fun x y H Q => y = .non ∧ Q (.bl (!decide (x = .non))) H) (vIsN true) := by
  intro H R m S x y v u res hS hx hy e Q k
  unfold vIsN at e
  split at e
  · cases e
    cases hy
    refine ⟨rfl, ?_⟩
    rw [isN_rep hx]
    refine k _ _ .refl hS ?_
    cases x with
    | o n => exact .bl _
    | t n => exact .bl _
    | d x => cases x <;> exact .bl _
  · cases e
theorem ov_isB : OpV X rIsB (vIsB false) := by
  intro H R m S x y v u res hS hx hy e Q k
  unfold vIsB at e
  split at e
  · cases e
    cases hx; cases hy
    exact ⟨_, _, rfl, rfl, k _ _ .refl hS (.bl _)⟩
  · cases e
theorem ov_notB : OpV X rNotB (vIsB true) := by
  intro H R m S x y v u res hS hx hy e Q k
  unfold vIsB at e
  split at e
  · cases e
    cases hx; cases hy
    exact ⟨_, _, rfl, rfl, k _ _ .refl hS (.bl _)⟩
  · cases e

/-! ### -a -/
def eNeg (f : Fe RV) : Fe RV := fMap f fun x _ => match x with
  | .d (.int i) => some (.d (.int (-i)))
  | _ => none
theorem e_neg (ha : PE X a (TV X f)) : PE X (.UnaryOp .USub a pos) (TV X (eNeg f)) := pe_weak (pe_un un_neg ha) fun σ H Q h => by
  obtain ⟨ρ, R, m, S, res, S', hE, hS, e, k⟩ := h
  obtain ⟨x, e1, e2⟩ := fMap_some e
  refine ⟨ρ, R, m, S, x, S', hE, hS, e1, fun v H1 R1 m1 x1 s1 r1 => ?_⟩
  split at e2
  · cases e2
    cases r1
    exact ⟨_, rfl, k _ _ _ _ x1 s1 (.int _)⟩
  · cases e2

/-! ### subscripts -/
def vIx : Op2 := fun x y S => match y with
  | .d (.int i) => (match lookQ x S with
    | some ds => (atI ds i).map RV.d
    | none => match x with
      | .d (.str z) => if z.length ≤ Lim then (atI z.cps.toList i).map fun c => .d (.str ⟨#[c]⟩) else none
      | _ => none)
  | _ => none
theorem Reps.atI {K : PySem.W.Frag} {H : Hp} {R : List Addr} {ds : List D} {vs : List V} {i : Int} {d : D} (r : Reps K H R ds vs) (e : atI ds i = some d) : ∃ v, L2.atI vs i = some v ∧ Rep K H R d v := by
  unfold L2.atI at e ⊢
  obtain ⟨j, h1, h2⟩ := Option.bind_eq_some_iff.mp e
  obtain ⟨v, h3, h4⟩ := r.get h2
  rw [r.length] at h1
  exact ⟨v, by rw [h1]; exact h3, h4⟩
theorem ov_ix : OpV X (rIx X.K) vIx := by
  intro H R m S x y v u res hS hx hy e Q k
  unfold vIx at e
  split at e
  · rename_i i
    cases hy
    split at e
    · rename_i ds hq
      obtain ⟨d, h1, rfl⟩ := Option.map_eq_some_iff.mp e
      obtain ⟨a, vs, rfl, h2, h3⟩ := lookQ_view hS hx hq
      obtain ⟨z, h4, h5⟩ := h3.atI h1
      rcases h2 with h2 | h2
      · exact .inl ⟨a, vs, i, z, rfl, rfl, h2, h4, k _ _ .refl hS h5⟩
      · exact .inr (.inl ⟨a, vs, i, z, rfl, rfl, h2, h4, k _ _ .refl hS h5⟩)
    · split at e
      · rename_i z _
        split at e
        · rename_i hl
          obtain ⟨c, h1, rfl⟩ := Option.map_eq_some_iff.mp e
          cases hx
          exact .inr (.inr ⟨z, i, c, rfl, rfl, by rw [lim_eq]; exact hl, h1, k _ _ .refl hS (.str _)⟩)
        · cases e
      · cases e
  · cases e
end
end Ev

/-! The evaluator, part D: argument lists, displays, calls of built-ins, methods of lists, slices, truth. -/
namespace Ev
open PySem PySem.Spec PyProof.Rows L2

/-! ### argument lists -/
def aNil : Fe (List RV) := fun _ S => some ([], S)
def aCons (f : Fe RV) (g : Fe (List RV)) : Fe (List RV) := fBind f fun x => fMap g fun xs _ => some (x :: xs)
section
variable {X : Cx} {e o : Expr} {es : List Expr} {pos : Pos} {f g : Fe RV} {h : Fe (List RV)}
theorem a_nil : PA X [] (TAs X aNil) := pa_weak pa_nil fun σ H Q ⟨ρ, R, m, S, r, S', hE, hS, e, k⟩ => by
  cases e
  exact k _ _ _ _ .refl hS .nil
theorem a_cons (ha : PE X e (TV X f)) (hr : PA X es (TAs X h)) (hs : starEach (e :: es) X.env = (false, eval e X.env) :: starEach es X.env) : PA X (e :: es) (TAs X (aCons f h)) :=
  pa_weak (pa_cons ha hr hs) fun σ H Q q => by
    obtain ⟨ρ, R, m, S, r, S', hE, hS, e, k⟩ := q
    obtain ⟨x, S1, e1, e2⟩ := fBind_some e
    obtain ⟨xs, e3, e4⟩ := fMap_some e2
    cases e4
    refine ⟨ρ, R, m, S, x, S1, hE, hS, e1, fun v H1 R1 m1 x1 s1 r1 => ?_⟩
    refine ⟨ρ, R1, m1, S1, xs, S', hE.ext x1 hS.sub, s1, e3, fun vs H2 R2 m2 x2 s2 r2 => ?_⟩
    exact k _ _ _ _ (x1.trans x2) s2 (.cons (r1.ext x2 s1.sub) r2)
def dsOf : List RV → Option (List D)
  | [] => some []
  | .d x :: r => (dsOf r).map fun xs => x :: xs
  | _ :: _ => none
theorem dsOf_reps {K : PySem.W.Frag} {H : Hp} {R m : List Addr} : ∀ {rs : List RV} {vs : List V} {ds : List D}, RepVs K H R m rs vs → dsOf rs = some ds → Reps K H R ds vs
  | _, _, _, .nil, e => by cases e; exact .nil
  | .d x :: r, _, _, .cons h t, e => by
    obtain ⟨xs, h1, rfl⟩ := Option.map_eq_some_iff.mp (show (dsOf r).map (fun xs => x :: xs) = some _ from e)
    exact .cons h (dsOf_reps t h1)
  | .o n :: r, _, _, .cons h t, e => by cases e
  | .t n :: r, _, _, .cons h t, e => by cases e
def aDs (h : Fe (List RV)) : Fe (List D) := fMap h fun rs _ => match dsOf rs with
  | some ds => if ds.length ≤ Lim then some ds else none
  | none => none
def eTup (h : Fe (List RV)) : Fe RV := fMap (aDs h) fun ds _ => some (.d (.tup ds))
theorem aDs_some {h : Fe (List RV)} {ρ : Env'} {S S' : Sto} {ds : List D} (q : aDs h ρ S = some (ds, S')) : ∃ rs, h ρ S = some (rs, S') ∧ dsOf rs = some ds ∧ ds.length ≤ Lim := by
  obtain ⟨rs, e1, e2⟩ := fMap_some q
  split at e2
  · rename_i ds' hd
    split at e2
    · rename_i hl
      cases e2
      exact ⟨rs, e1, hd, hl⟩
    · cases e2
  · cases e2
theorem e_tup {kk} (ha : PA X es (TAs X h)) : PE X (.Tuple es kk pos) (TV X (eTup h)) := pe_weak (pe_tup ha) fun σ H Q q => by
  obtain ⟨ρ, R, m, S, r, S', hE, hS, e, k⟩ := q
  obtain ⟨ds, e1, e2⟩ := fMap_some e
  cases e2
  obtain ⟨rs, e3, e4, e5⟩ := aDs_some e1
  refine ⟨ρ, R, m, S, rs, S', hE, hS, e3, fun vs H1 R1 m1 x1 s1 r1 => ?_⟩
  have rr := dsOf_reps r1 e4
  refine ⟨by rw [← rr.length, lim_eq]; exact e5, fun p hp => ?_⟩
  exact k _ _ _ _ (x1.trans (.new hp)) (s1.new hp) (.tup (.inl upd_same) (s1.notR hp) (rr.ext (.new hp) s1.sub))
/-- a list display: new, owned by none -/
theorem e_lst (ha : PA X es (TAs X h)) : PE X (.List es pos) (TL X (aDs h)) := pe_weak (pe_lst ha) fun σ H Q q => by
  obtain ⟨ρ, R, m, S, ds, S', hE, hS, e, k⟩ := q
  obtain ⟨rs, e3, e4, e5⟩ := aDs_some e
  refine ⟨ρ, R, m, S, rs, S', hE, hS, e3, fun vs H1 R1 m1 x1 s1 r1 => ?_⟩
  have rr := dsOf_reps r1 e4
  exact ⟨by rw [← rr.length, lim_eq]; exact e5, fun p hp => k _ _ _ _ _ x1 s1 hp rr e5⟩
/-- a new list as a value that none changes; as an owned one -/
def eVal (f : Fe (List D)) : Fe RV := fMap f fun ds _ => some (.d (.lst ds))
def eObj (f : Fe (List D)) : Fe RV := fun ρ S => (f ρ S).bind fun p => some (.o p.2.length, p.2 ++ [.lst p.1])
theorem e_val {f : Fe (List D)} (ha : PE X e (TL X f)) : PE X e (TV X (eVal f)) := pe_weak ha fun σ H Q q => by
  obtain ⟨ρ, R, m, S, r, S', hE, hS, e, k⟩ := q
  obtain ⟨ds, e1, e2⟩ := fMap_some e
  cases e2
  refine ⟨ρ, R, m, S, ds, S', hE, hS, e1, fun a vs H1 R1 m1 x1 s1 hn r1 hl => ?_⟩
  exact k _ _ _ _ (x1.trans (.new hn)) (s1.new hn) (.lst (.inl upd_same) (s1.notR hn) (r1.ext (.new hn) s1.sub))
theorem e_obj {f : Fe (List D)} (ha : PE X e (TL X f)) : PE X e (TV X (eObj f)) := pe_weak ha fun σ H Q q => by
  obtain ⟨ρ, R, m, S, r, S', hE, hS, e, k⟩ := q
  obtain ⟨⟨ds, S1⟩, e1, e2⟩ := bind_some e
  cases e2
  refine ⟨ρ, R, m, S, ds, S1, hE, hS, e1, fun a vs H1 R1 m1 x1 s1 hn r1 hl => ?_⟩
  refine k _ _ _ _ (x1.trans (.own hn)) (s1.own hn ⟨vs, upd_same, r1.ext (.own hn) s1.sub⟩) ⟨a, ?_, rfl⟩
  rw [← s1.len, List.getElem?_append_right (Nat.le_refl _), Nat.sub_self]
  rfl

/-! ### built-ins by values -/
abbrev Oc := List RV → Sto → Option RV
def CaV (X : Cx) (r : List V → Hp → VK → Prop) (op : Oc) : Prop := ∀ (H : Hp) (R m : List Addr) (S : Sto) (rs : List RV) (vs : List V) (res : RV), Sim X.prog X.w X.K H R m S → RepVs X.K H R m rs vs → op rs S = some res →
  ∀ Q : VK, (∀ v' H', Ext H R m H' R m → Sim X.prog X.w X.K H' R m S → RepV X.K H' R m res v' → Q v' H') → r vs H Q
def eCall (op : Oc) (h : Fe (List RV)) : Fe RV := fMap h op
theorem tv_call {r : List V → Hp → VK → Prop} {op : Oc} (hv : CaV X r op) {σ : L2.St} {H : Hp} {Q : VK} (q : TV X (eCall op h) σ H Q) : tCB r (TAs X h) σ H Q := by
  obtain ⟨ρ, R, m, S, res, S', hE, hS, e, k⟩ := q
  obtain ⟨rs, e1, e2⟩ := fMap_some e
  refine ⟨ρ, R, m, S, rs, S', hE, hS, e1, fun vs H1 R1 m1 x1 s1 r1 => ?_⟩
  exact hv H1 R1 m1 S' rs vs res s1 r1 e2 Q fun v' H' x2 s2 r2 => k _ _ _ _ (x1.trans x2) s2 r2
/-- one that gives a new list -/
abbrev Ol := List RV → Sto → Option (List D)
def CaL (X : Cx) (r : List V → Hp → VK → Prop) (op : Ol) : Prop := ∀ (H : Hp) (R m : List Addr) (S : Sto) (rs : List RV) (vs : List V) (res : List D), Sim X.prog X.w X.K H R m S → RepVs X.K H R m rs vs → op rs S = some res →
  ∀ Q : VK, (∀ a us, H a = none → Reps X.K H R res us → res.length ≤ Lim → Q (.ref a) (upd H a (.lst us))) → r vs H Q
def lCall (op : Ol) (h : Fe (List RV)) : Fe (List D) := fMap h op
theorem tl_call {r : List V → Hp → VK → Prop} {op : Ol} (hv : CaL X r op) {σ : L2.St} {H : Hp} {Q : VK} (q : TL X (lCall op h) σ H Q) : tCB r (TAs X h) σ H Q := by
  obtain ⟨ρ, R, m, S, res, S', hE, hS, e, k⟩ := q
  obtain ⟨rs, e1, e2⟩ := fMap_some e
  refine ⟨ρ, R, m, S, rs, S', hE, hS, e1, fun vs H1 R1 m1 x1 s1 r1 => ?_⟩
  exact hv H1 R1 m1 S' rs vs res s1 r1 e2 Q fun a us hn r2 hl => k a us H1 R1 m1 x1 s1 hn r2 hl

def Oc.or (p q : Oc) : Oc := fun rs S => match p rs S with
  | some x => some x
  | none => q rs S
theorem CaV.or {r r' : List V → Hp → VK → Prop} {p q : Oc} (h1 : CaV X r p) (h2 : CaV X r' q) : CaV X (fun xs H Q => r xs H Q ∨ r' xs H Q) (Oc.or p q) := by
  intro H R m S rs vs res hS hr e Q k
  unfold Oc.or at e
  split at e
  · rename_i z hz
    cases e
    exact .inl (h1 H R m S rs vs _ hS hr hz Q k)
  · exact .inr (h2 H R m S rs vs _ hS hr e Q k)
theorem rep1 {K : PySem.W.Frag} {H : Hp} {R m : List Addr} {x : RV} {vs : List V} (h : RepVs K H R m [x] vs) : ∃ v, vs = [v] ∧ RepV K H R m x v := by
  cases h with
  | cons h t => cases t; exact ⟨_, rfl, h⟩
theorem rep2 {K : PySem.W.Frag} {H : Hp} {R m : List Addr} {x y : RV} {vs : List V} (h : RepVs K H R m [x, y] vs) : ∃ v u, vs = [v, u] ∧ RepV K H R m x v ∧ RepV K H R m y u := by
  cases h with
  | cons h t =>
    cases t with
    | cons h2 t => cases t; exact ⟨_, _, rfl, h, h2⟩

/-- len -/
def bLen : Oc := fun rs S => match rs with
  | [x] => (match lookQ x S with
    | some ds => some (.d (.int ds.length))
    | none => match x with
      | .d (.str z) => if z.length ≤ Lim then some (.d (.int z.length)) else none
      | _ => none)
  | _ => none
theorem cv_len : CaV X (fun xs H Q => ∃ x n, xs = [x] ∧ LenV X.K x H n ∧ Q (.int n) H) bLen := by
  intro H R m S rs vs res hS hr e Q k
  unfold bLen at e
  split at e
  · rename_i x
    obtain ⟨v, rfl, hx⟩ := rep1 hr
    split at e
    · rename_i ds hq
      cases e
      obtain ⟨a, us, rfl, h1, h2⟩ := lookQ_view hS hx hq
      refine ⟨_, ds.length, rfl, ?_, k _ _ .refl hS (.int _)⟩
      rcases h1 with h1 | h1
      · exact .inl ⟨us, h1, h2.length⟩
      · exact .inr ⟨us, h1, h2.length⟩
    · split at e
      · rename_i z _
        split at e
        · rename_i hl
          cases e
          cases hx
          exact ⟨_, z.length, rfl, ⟨by rw [lim_eq]; exact hl, rfl⟩, k _ _ .refl hS (.int _)⟩
        · cases e
      · cases e
  · cases e

/-- bools, ints of a list -/
def blsOf : List D → Option (List Bool)
  | [] => some []
  | .bl b :: r => (blsOf r).map fun xs => b :: xs
  | _ :: _ => none
def intsOf : List D → Option (List Int)
  | [] => some []
  | .int b :: r => (intsOf r).map fun xs => b :: xs
  | _ :: _ => none
theorem blsOf_eq : ∀ {ds : List D} {bs : List Bool}, blsOf ds = some bs → ds = bs.map D.bl
  | [], _, e => by cases e; rfl
  | .bl b :: r, _, e => by
    obtain ⟨xs, h1, rfl⟩ := Option.map_eq_some_iff.mp (show (blsOf r).map (fun xs => b :: xs) = some _ from e)
    rw [blsOf_eq h1]; rfl
  | .non :: _, _, e | .int _ :: _, _, e | .str _ :: _, _, e | .tup _ :: _, _, e | .lst _ :: _, _, e => by cases e
theorem intsOf_eq : ∀ {ds : List D} {bs : List Int}, intsOf ds = some bs → ds = bs.map D.int
  | [], _, e => by cases e; rfl
  | .int b :: r, _, e => by
    obtain ⟨xs, h1, rfl⟩ := Option.map_eq_some_iff.mp (show (intsOf r).map (fun xs => b :: xs) = some _ from e)
    rw [intsOf_eq h1]; rfl
  | .non :: _, _, e | .bl _ :: _, _, e | .str _ :: _, _, e | .tup _ :: _, _, e | .lst _ :: _, _, e => by cases e
theorem reps_bls {K : PySem.W.Frag} {H : Hp} {R : List Addr} : ∀ {bs : List Bool} {vs : List V}, Reps K H R (bs.map D.bl) vs → vs = bs.map V.bl
  | [], _, h => by cases h; rfl
  | b :: bs, _, h => by
    cases h with
    | cons h t => cases h; rw [reps_bls t]; rfl
theorem reps_ints {K : PySem.W.Frag} {H : Hp} {R : List Addr} : ∀ {bs : List Int} {vs : List V}, Reps K H R (bs.map D.int) vs → vs = bs.map V.int
  | [], _, h => by cases h; rfl
  | b :: bs, _, h => by
    cases h with
    | cons h t => cases h; rw [reps_ints t]; rfl
def bBools (gg : List Bool → Bool) : Oc := fun rs S => match rs with
  | [x] => (match lookL x S with
    | some ds => (blsOf ds).map fun bs => .d (.bl (gg bs))
    | none => none)
  | _ => none
def bInts (gg : List Int → Int) : Oc := fun rs S => match rs with
  | [x] => (match lookL x S with
    | some ds => (intsOf ds).map fun bs => .d (.int (gg bs))
    | none => none)
  | _ => none
theorem bBools_some {gg : List Bool → Bool} {K : PySem.W.Frag} {P : Program} {w : World} {H : Hp} {R m : List Addr} {S : Sto} {rs : List RV} {vs : List V} {res : RV} (hS : Sim P w K H R m S) (hr : RepVs K H R m rs vs) (e : bBools gg rs S = some res) :
    ∃ a bs, vs = [.ref a] ∧ SqL K H a (bs.map V.bl) ∧ res = .d (.bl (gg bs)) := by
  unfold bBools at e
  split at e
  · obtain ⟨v, rfl, hx⟩ := rep1 hr
    split at e
    · rename_i ds hq
      obtain ⟨bs, h1, rfl⟩ := Option.map_eq_some_iff.mp e
      obtain ⟨a, us, rfl, h2, h3⟩ := lookL_view hS hx hq
      rw [blsOf_eq h1] at h3
      rw [reps_bls h3] at h2
      exact ⟨a, bs, rfl, h2, rfl⟩
    · cases e
  · cases e
theorem bInts_some {gg : List Int → Int} {K : PySem.W.Frag} {P : Program} {w : World} {H : Hp} {R m : List Addr} {S : Sto} {rs : List RV} {vs : List V} {res : RV} (hS : Sim P w K H R m S) (hr : RepVs K H R m rs vs) (e : bInts gg rs S = some res) :
    ∃ a bs, vs = [.ref a] ∧ SqL K H a (bs.map V.int) ∧ res = .d (.int (gg bs)) := by
  unfold bInts at e
  split at e
  · obtain ⟨v, rfl, hx⟩ := rep1 hr
    split at e
    · rename_i ds hq
      obtain ⟨bs, h1, rfl⟩ := Option.map_eq_some_iff.mp e
      obtain ⟨a, us, rfl, h2, h3⟩ := lookL_view hS hx hq
      rw [intsOf_eq h1] at h3
      rw [reps_ints h3] at h2
      exact ⟨a, bs, rfl, h2, rfl⟩
    · cases e
  · cases e
theorem cv_all : CaV X (rAll X.K) (bBools fun bs => bs.all id) := by
  intro H R m S rs vs res hS hr e Q k
  obtain ⟨a, bs, rfl, h1, rfl⟩ := bBools_some hS hr e
  exact ⟨a, bs, rfl, h1, k _ _ .refl hS (.bl _)⟩
theorem cv_any : CaV X (rAny X.K) (bBools fun bs => bs.any id) := by
  intro H R m S rs vs res hS hr e Q k
  obtain ⟨a, bs, rfl, h1, rfl⟩ := bBools_some hS hr e
  exact ⟨a, bs, rfl, h1, k _ _ .refl hS (.bl _)⟩
theorem cv_sum : CaV X (rSum X.K) (bInts List.sum) := by
  intro H R m S rs vs res hS hr e Q k
  obtain ⟨a, bs, rfl, h1, rfl⟩ := bInts_some hS hr e
  exact ⟨a, bs, rfl, h1, k _ _ .refl hS (.int _)⟩
/-- int -/
def bInt : Oc := fun rs _ => match rs with
  | [.d (.int i)] => some (.d (.int i))
  | [.d (.bl b)] => some (.d (.int (if b then 1 else 0)))
  | _ => none
theorem cv_int : CaV X (fun xs H Q => (∃ i, xs = [.int i] ∧ Q (.int i) H) ∨ ∃ k, xs = [.bl k] ∧ Q (.int (if k then 1 else 0)) H) bInt := by
  intro H R m S rs vs res hS hr e Q k
  unfold bInt at e
  split at e
  · cases e
    obtain ⟨v, rfl, hx⟩ := rep1 hr
    cases hx
    exact .inl ⟨_, rfl, k _ _ .refl hS (.int _)⟩
  · cases e
    obtain ⟨v, rfl, hx⟩ := rep1 hr
    cases hx
    exact .inr ⟨_, rfl, k _ _ .refl hS (.int _)⟩
  · cases e
/-- tuple -/
def bTup : Oc := fun rs S => match rs with
  | [x] => (lookQ x S).map fun ds => .d (.tup ds)
  | _ => none
theorem cv_tup : CaV X (fun xs H Q => ∃ p ys, xs = [.ref p] ∧ ((SqL X.K H p ys ∧ ∀ l, H l = none → Q (.ref l) (upd H l (.tup ys))) ∨ (SqT X.K H p ys ∧ Q (.ref p) H))) bTup := by
  intro H R m S rs vs res hS hr e Q k
  unfold bTup at e
  split at e
  · obtain ⟨v, rfl, hx⟩ := rep1 hr
    obtain ⟨ds, h1, rfl⟩ := Option.map_eq_some_iff.mp e
    unfold lookQ at h1
    split at h1
    · rename_i ds' hq
      cases h1
      obtain ⟨a, us, rfl, h2, h3⟩ := lookL_view hS hx hq
      refine ⟨a, us, rfl, .inl ⟨h2, fun l hl => k _ _ (.new hl) (hS.new hl) ?_⟩⟩
      exact .tup (.inl upd_same) (hS.notR hl) (h3.ext (.new hl) hS.sub)
    · unfold lookT at h1
      split at h1
      · cases h1
        obtain ⟨a, us, rfl, h2, h3⟩ := Rep.isT hx
        exact ⟨a, us, rfl, .inr ⟨h2, k _ _ .refl hS hx⟩⟩
      · cases h1
  · cases e
/-- list -/
theorem sq_len {X : Cx} {pins : List (Addr × Obj)} {s : Shared} {σ : L2.St} {H : Hp} (I : Inv X pins σ H s) {a : Addr} {xs : List V} (h : SqL X.K H a xs ∨ SqT X.K H a xs) : xs.length ≤ sizeLine := by
  rcases h with h | h
  · obtain ⟨_, _, _, h⟩ := I.list h; exact h
  · obtain ⟨_, _, _, h⟩ := I.tuple h; exact h
def bLst : Ol := fun rs S => match rs with
  | [x] => (match lookQ x S with
    | some ds => if ds.length ≤ Lim then some ds else none
    | none => none)
  | _ => none
theorem cl_lst : CaL X (fun xs H Q => ∃ p ys, xs = [.ref p] ∧ (SqL X.K H p ys ∨ SqT X.K H p ys) ∧ ∀ l, H l = none → Q (.ref l) (upd H l (.lst ys))) bLst := by
  intro H R m S rs vs res hS hr e Q k
  unfold bLst at e
  split at e
  · obtain ⟨v, rfl, hx⟩ := rep1 hr
    split at e
    · rename_i ds hq
      split at e
      · rename_i hl
        cases e
        obtain ⟨a, us, rfl, h2, h3⟩ := lookQ_view hS hx hq
        exact ⟨a, us, rfl, h2, fun l hn => k l us hn h3 hl⟩
      · cases e
    · cases e
  · cases e
/-- isinstance -/
def tyOf (x : RV) (S : Sto) : Option Tn := match x with
  | .d .non => some .non
  | .d (.bl _) => some .bool
  | .d (.int _) => some .int
  | .d (.str _) => some .str
  | .d (.tup _) => some .tup
  | .d (.lst _) => some .lst
  | .o n => (match S[n]? with
    | some (.lst _) => some .lst
    | _ => none)
  | .t _ => none
def Tn.is (a b : Tn) : Bool := decide (a = b) || (decide (a = .bool) && decide (b = .int))
theorem kit_tn (a b : Tn) : kitB a.name b.name = some (a.is b) := by cases a <;> cases b <;> decide +kernel
def bIsi : Oc := fun rs S => match rs with
  | [x, .t b] => (tyOf x S).map fun a => .d (.bl (a.is b))
  | _ => none
theorem tyOf_x {P : Program} {w : World} {K : PySem.W.Frag} {H : Hp} {R m : List Addr} {S : Sto} {x : RV} {v : V} {a : Tn} (hS : Sim P w K H R m S) (h : RepV K H R m x v) (e : tyOf x S = some a) : TyX K H v (.type a.name) := by
  unfold tyOf at e
  split at e
  · cases e; cases h; exact .base .non
  · cases e; cases h; exact .base (.bl _)
  · cases e; cases h; exact .base (.int _)
  · cases e; cases h; exact .base (.str _)
  · cases e
    cases h with
    | tup h n r =>
      rcases h with h | ⟨o, h⟩
      · exact .base (.tup h)
      · exact .fTuple h
    | tupK h r =>
      obtain ⟨o, its, n, h1, h2, _⟩ := h
      exact .kTuple h1 h2
  · cases e
    cases h with
    | lst h n r =>
      rcases h with h | ⟨o, h⟩
      · exact .base (.lst h)
      · exact .base (.frz h)
    | lstK h r =>
      obtain ⟨o, its, n, h1, h2, _⟩ := h
      exact .kList h1 h2
  · split at e
    · rename_i hn
      cases e
      obtain ⟨b, h1, rfl⟩ := h
      obtain ⟨vs, h2, h3⟩ := hS.at_ _ b _ h1 hn
      exact .base (.lst h2)
    · cases e
  · cases e
theorem cv_isi : CaV X (rIsi X.K) bIsi := by
  intro H R m S rs vs res hS hr e Q k
  unfold bIsi at e
  split at e
  · rename_i x b
    obtain ⟨a, h1, rfl⟩ := Option.map_eq_some_iff.mp e
    obtain ⟨v, u, rfl, hx, hy⟩ := rep2 hr
    cases (show u = .ty b.name from hy)
    exact ⟨v, _, _, _, a.is b, rfl, .ty _, tyOf_x hS hx h1, kit_ty (kit_tn a b), k _ _ .refl hS (.bl _)⟩
  · cases e
/-- max, min of two, abs -/
def bII (gg : Int → Int → Int) : Oc := fun rs _ => match rs with
  | [.d (.int i), .d (.int j)] => some (.d (.int (gg i j)))
  | _ => none
theorem cv_max2 : CaV X (fun xs H Q => ∃ i j, xs = [.int i, .int j] ∧ Q (.int (if j > i then j else i)) H) (bII fun i j => if j > i then j else i) := by
  intro H R m S rs vs res hS hr e Q k
  unfold bII at e
  split at e
  · cases e
    obtain ⟨v, u, rfl, hx, hy⟩ := rep2 hr
    cases hx; cases hy
    exact ⟨_, _, rfl, k _ _ .refl hS (.int _)⟩
  · cases e
theorem cv_min2 : CaV X (fun xs H Q => ∃ i j, xs = [.int i, .int j] ∧ Q (.int (if j < i then j else i)) H) (bII fun i j => if j < i then j else i) := by
  intro H R m S rs vs res hS hr e Q k
  unfold bII at e
  split at e
  · cases e
    obtain ⟨v, u, rfl, hx, hy⟩ := rep2 hr
    cases hx; cases hy
    exact ⟨_, _, rfl, k _ _ .refl hS (.int _)⟩
  · cases e
def bAbs : Oc := fun rs _ => match rs with
  | [.d (.int i)] => some (.d (.int (if i < 0 then -i else i)))
  | _ => none
theorem cv_abs : CaV X (fun xs H Q => ∃ i, xs = [.int i] ∧ Q (.int (if i < 0 then -i else i)) H) bAbs := by
  intro H R m S rs vs res hS hr e Q k
  unfold bAbs at e
  split at e
  · cases e
    obtain ⟨v, rfl, hx⟩ := rep1 hr
    cases hx
    exact ⟨_, rfl, k _ _ .refl hS (.int _)⟩
  · cases e

/-! ### a type's name as a value -/
def eTy (t : Tn) : Fe RV := fun _ S => some (.t t, S)
theorem e_ty {x : Str} {t : Tn} (hg : Gl X x) (hm : X.mg x = none) (hv : bootBuiltins x = some (.type t.name)) (hn : x ≠ "__name__") (hd : (x == ("__debug__" : Str)) = false) : PE X (.Name x pos) (TV X (eTy t)) :=
  pe_weak (pe_bltn (v := .ty t.name) hg hm hv rfl hn hd) fun σ H Q ⟨ρ, R, m, S, r, S', hE, hS, e, k⟩ => by
    cases e
    exact k _ _ _ _ .refl hS rfl

/-! ### methods of lists -/
def isObjL (r : RV) (S : Sto) : Option (Nat × List D) := match r with
  | .o n => (match S[n]? with
    | some (.lst ds) => some (n, ds)
    | _ => none)
  | _ => none
theorem objL_view {P : Program} {w : World} {K : PySem.W.Frag} {H : Hp} {R m : List Addr} {S : Sto} {r : RV} {v : V} {n : Nat} {ds : List D} (hS : Sim P w K H R m S) (h : RepV K H R m r v) (e : isObjL r S = some (n, ds)) :
    ∃ a vs, v = .ref a ∧ m[n]? = some a ∧ H a = some (.lst vs) ∧ Reps K H R ds vs ∧ S[n]? = some (.lst ds) := by
  unfold isObjL at e
  split at e
  · split at e
    · rename_i hn
      cases e
      obtain ⟨a, h1, rfl⟩ := h
      obtain ⟨vs, h2, h3⟩ := hS.at_ _ a _ h1 hn
      exact ⟨a, vs, rfl, h1, h2, h3, hn⟩
    · cases e
  · cases e
theorem tyL_of {K : PySem.W.Frag} {H : Hp} {a : Addr} {vs : List V} (h : H a = some (.lst vs)) : tyV K "list" (.ref a) H := .inl ⟨rfl, _, SqL.of h⟩
theorem chg_lst {P : Program} {w : World} {K : PySem.W.Frag} {H : Hp} {R m : List Addr} {S : Sto} {a : Addr} {n : Nat} {ds : List D} {vs us : List V} (hS : Sim P w K H R m S) (hn : m[n]? = some a) (h : H a = some (.lst vs)) (r : Reps K H R ds us) :
    Ext H R m (upd H a (.lst us)) R m ∧ Sim P w K (upd H a (.lst us)) R m (S.set n (.lst ds)) := by
  have hm := List.mem_of_getElem? hn
  have x := Ext.chg (H := H) (R := R) (o := .lst us) hm (by rw [h]; intro z; cases z)
  exact ⟨x, hS.chg hn ⟨us, upd_same, r.ext x hS.sub⟩⟩
/-- a method with no argument that changes the list -/
def eMl0 (op : List D → Option (RV × List D)) (f : Fe RV) : Fe RV := fun ρ S => (f ρ S).bind fun p => (isObjL p.1 p.2).bind fun q => (op q.2).bind fun z => some (z.1, p.2.set q.1 (.lst z.2))
def eMl1 (op : List D → RV → Sto → Option (RV × List D)) (f g : Fe RV) : Fe RV := fun ρ S => (f ρ S).bind fun p => (isObjL p.1 p.2).bind fun q => (g ρ p.2).bind fun y => (isObjL p.1 y.2).bind fun q2 => (op q2.2 y.1 y.2).bind fun z => some (z.1, y.2.set q2.1 (.lst z.2))
theorem tv_ml0 {r : V → List V → Hp → VK → Prop} {op : List D → Option (RV × List D)} (hv : ∀ (H : Hp) (R m : List Addr) (a : Addr) (vs : List V) (ds : List D) (z : RV × List D) (Q : VK), Reps X.K H R ds vs → H a = some (.lst vs) → op ds = some z →
      (∀ v us, RepV X.K H R m z.1 v → Reps X.K H R z.2 us → Q v (upd H a (.lst us))) → r (.ref a) [] H Q) {σ : L2.St} {H : Hp} {Q : VK} (q : TV X (eMl0 op f) σ H Q) : tBM0 X.K "list" r (TV X f) σ H Q := by
  obtain ⟨ρ, R, m, S, res, S', hE, hS, e, k⟩ := q
  obtain ⟨⟨x, S1⟩, e1, e2⟩ := bind_some e
  obtain ⟨⟨n, ds⟩, e3, e4⟩ := bind_some e2
  obtain ⟨z, e5, e6⟩ := bind_some e4
  cases e6
  refine ⟨ρ, R, m, S, x, S1, hE, hS, e1, fun v H1 R1 m1 x1 s1 r1 => ?_⟩
  obtain ⟨a, vs, rfl, h1, h2, h3, h4⟩ := objL_view s1 r1 e3
  refine ⟨tyL_of h2, hv H1 R1 m1 a vs ds z Q h3 h2 e5 fun v us hz hu => ?_⟩
  obtain ⟨x2, s2⟩ := chg_lst s1 h1 h2 hu
  exact k _ _ _ _ (x1.trans x2) s2 (hz.ext x2 s1.sub)
theorem tv_ml1 {r : V → List V → Hp → VK → Prop} {op : List D → RV → Sto → Option (RV × List D)} (hv : ∀ (H : Hp) (R m : List Addr) (S : Sto) (a : Addr) (vs : List V) (ds : List D) (y : RV) (yv : V) (z : RV × List D) (Q : VK), Sim X.prog X.w X.K H R m S → Reps X.K H R ds vs → H a = some (.lst vs) → RepV X.K H R m y yv → op ds y S = some z →
      (∀ v us, RepV X.K H R m z.1 v → Reps X.K H R z.2 us → Q v (upd H a (.lst us))) → r (.ref a) [yv] H Q) {σ : L2.St} {H : Hp} {Q : VK} (q : TV X (eMl1 op f g) σ H Q) : tBM X.K "list" r (TV X f) (TAs X (aCons g aNil)) σ H Q := by
  obtain ⟨ρ, R, m, S, res, S', hE, hS, e, k⟩ := q
  obtain ⟨⟨x, S1⟩, e1, e2⟩ := bind_some e
  obtain ⟨⟨n, ds⟩, e3, e4⟩ := bind_some e2
  obtain ⟨⟨y, S2⟩, e5, e6⟩ := bind_some e4
  obtain ⟨⟨n2, ds2⟩, e7, e8⟩ := bind_some e6
  obtain ⟨z, e9, e10⟩ := bind_some e8
  cases e10
  refine ⟨ρ, R, m, S, x, S1, hE, hS, e1, fun v H1 R1 m1 x1 s1 r1 => ?_⟩
  obtain ⟨a, vs, rfl, h1, h2, h3, h4⟩ := objL_view s1 r1 e3
  refine ⟨tyL_of h2, ρ, R1, m1, S1, [y], S2, hE.ext x1 hS.sub, s1, ?_, fun ws H2 R2 m2 x2 s2 r2 => ?_⟩
  · show aCons g aNil ρ S1 = some ([y], S2)
    unfold aCons fBind fMap aNil
    rw [e5]
    rfl
  obtain ⟨yv, rfl, ry⟩ := rep1 r2
  obtain ⟨a', vs', ea, g1, g2, g3, g4⟩ := objL_view s2 (r1.ext x2 s1.sub) e7
  cases ea
  refine hv H2 R2 m2 S2 a vs' ds2 y yv z Q s2 g3 g2 ry e9 fun v us hz hu => ?_
  obtain ⟨x3, s3⟩ := chg_lst s2 g1 g2 hu
  exact k _ _ _ _ ((x1.trans x2).trans x3) s3 (hz.ext x3 s2.sub)
def oPop (ds : List D) : Option (RV × List D) := (ds[ds.length - 1]?).map fun d => (.d d, ds.dropLast)
theorem Reps.dropLast {K : PySem.W.Frag} {H : Hp} {R : List Addr} {ds : List D} {vs : List V} (r : Reps K H R ds vs) : Reps K H R ds.dropLast vs.dropLast := by
  rw [List.dropLast_eq_take, List.dropLast_eq_take, r.length]
  exact r.take _
def oRev (ds : List D) : Option (RV × List D) := some (.d .non, ds.reverse)
def oApp (ds : List D) (y : RV) (_ : Sto) : Option (RV × List D) := match y with
  | .d d => if ds.length < Lim then some (.d .non, ds ++ [d]) else none
  | _ => none
def oExt (ds : List D) (y : RV) (S : Sto) : Option (RV × List D) := match y with
  | .d (.lst es) => if ds.length + es.length ≤ Lim then some (.d .non, ds ++ es) else none
  | _ => none
variable {apos cpos : Pos}
theorem e_pop (ho : PE X o (TV X f)) (hb : attributeBase o "pop" X.env (eval o X.env) = eval o X.env) (hl : (apos.endLine == cpos.line) = true) : PE X (.Call (.Attribute o "pop" apos) [] [] cpos) (TV X (eMl0 oPop f)) :=
  pe_weak (pe_bm0 PySem.F.plainAttrs_list PySem.F.slot_list_pop PySem.F.type_list_pop mt_pop ho hb hl) fun σ H Q q => by
    refine tv_ml0 (fun H R m a vs ds z Q hr ha e k => ?_) q
    obtain ⟨d, h1, rfl⟩ := Option.map_eq_some_iff.mp e
    obtain ⟨v, h2, h3⟩ := hr.get h1
    exact ⟨a, vs, v, rfl, rfl, ha, by rw [← hr.length]; exact h2, k v _ h3 hr.dropLast⟩
theorem e_reverse (ho : PE X o (TV X f)) (hb : attributeBase o "reverse" X.env (eval o X.env) = eval o X.env) (hl : (apos.endLine == cpos.line) = true) : PE X (.Call (.Attribute o "reverse" apos) [] [] cpos) (TV X (eMl0 oRev f)) :=
  pe_weak (pe_bm0 PySem.F.plainAttrs_list PySem.F.slot_list_reverse PySem.F.type_list_reverse mt_reverse ho hb hl) fun σ H Q q => by
    refine tv_ml0 (fun H R m a vs ds z Q hr ha e k => ?_) q
    cases e
    exact ⟨a, vs, rfl, rfl, ha, k .non _ .non hr.reverse⟩
theorem e_append (ho : PE X o (TV X f)) (ha : PE X e (TV X g)) (hb : attributeBase o "append" X.env (eval o X.env) = eval o X.env) (hl : (apos.endLine == cpos.line) = true) (hs : starEach [e] X.env = (false, eval e X.env) :: starEach [] X.env) :
    PE X (.Call (.Attribute o "append" apos) [e] [] cpos) (TV X (eMl1 oApp f g)) := by
  have hA : PA X [e] (TAs X (aCons g aNil)) := a_cons ha a_nil hs
  refine pe_weak (pe_bm PySem.F.plainAttrs_list PySem.F.slot_list_append PySem.F.type_list_append mt_append ho hA hb (by rw [hs]; rfl) hl hs rfl) fun σ H Q q => ?_
  refine tv_ml1 (fun H R m S a vs ds y yv z Q hS hr ha ry e k => ?_) q
  unfold oApp at e
  split at e
  · split at e
    · rename_i hl
      cases e
      exact ⟨a, vs, yv, rfl, rfl, ha, by rw [← hr.length, lim_eq]; exact hl, k .non _ .non (hr.append (.cons ry .nil))⟩
    · cases e
  · cases e
theorem e_append_one : True := trivial
end

/-! ### truth -/
def vTru (x : RV) (S : Sto) : Option Bool := match x with
  | .d .non => some false
  | .d (.bl b) => some b
  | .d (.int i) => some (i != 0)
  | .d (.str z) => if z.length ≤ Lim then some ((z.length : Int) != 0) else none
  | _ => (lookQ x S).map fun ds => !ds.isEmpty
theorem tru_view {P : Program} {w : World} {K : PySem.W.Frag} {H : Hp} {R m : List Addr} {S : Sto} {x : RV} {v : V} {b : Bool} (hS : Sim P w K H R m S) (h : RepV K H R m x v) (e : vTru x S = some b) : TruV K v H b := by
  unfold vTru at e
  split at e
  · cases e; cases h; exact rfl
  · cases e; cases h; exact rfl
  · cases e; cases h; exact rfl
  · split at e
    · rename_i hl
      cases e; cases h
      exact ⟨by rw [lim_eq]; exact hl, rfl⟩
    · cases e
  · obtain ⟨ds, h1, rfl⟩ := Option.map_eq_some_iff.mp e
    obtain ⟨a, us, rfl, h2, h3⟩ := lookQ_view hS h h1
    have he : ds.isEmpty = us.isEmpty := by cases h3 <;> rfl
    rcases h2 with h2 | h2
    · exact .inl ⟨us, h2, by rw [he]⟩
    · exact .inr (.inl ⟨us, h2, by rw [he]⟩)
def fTru (f : Fe RV) : Fe Bool := fMap f vTru
/-- what isTrue does with an expression that is no not, and, or, if, comparison -/
def plainT : Expr → Bool
  | .UnaryOp .Not _ _ => false
  | .BoolOp _ _ _ => false
  | .IfExp _ _ _ _ => false
  | .Compare _ _ _ _ => false
  | _ => true
theorem plainT_eq {e : Expr} {env : Env} (h : plainT e = true) (whole : Sem Value) : isTrue e env whole = (do let v ← whole; standAt e.pos; holding [v] (truthy v)) := by
  cases e with
  | UnaryOp op _ _ => cases op <;> first | rfl | cases h
  | BoolOp => cases h
  | IfExp => cases h
  | Compare => cases h
  | _ => rfl
theorem t_tru {X : Cx} {e : Expr} {f : Fe RV} (ha : PE X e (TV X f)) (he : plainT e = true) : PT X e (TB X (fTru f)) := pt_weak (pt_truth ha (plainT_eq he)) fun σ H Q q => by
  obtain ⟨ρ, R, m, S, res, S', hE, hS, e, k⟩ := q
  obtain ⟨x, e1, e2⟩ := fMap_some e
  exact ⟨ρ, R, m, S, x, S', hE, hS, e1, fun v H1 R1 m1 x1 s1 r1 => ⟨res, tru_view s1 r1 e2, k _ _ _ x1 s1⟩⟩

/-! ### slices -/
def cutD {α : Type} (xs : List α) (lo hi : Option Int) : List α := (xs.drop (HT.sIx xs.length 0 lo)).take (HT.sIx xs.length xs.length hi - HT.sIx xs.length 0 lo)
theorem Reps.cut {K : PySem.W.Frag} {H : Hp} {R : List Addr} {ds : List D} {vs : List V} (r : Reps K H R ds vs) (lo hi : Option Int) : Reps K H R (cutD ds lo hi) (cutV vs lo hi) := by
  unfold cutD cutV
  rw [r.length]
  exact (r.drop _).take _
abbrev Fo := Env' → Sto → Option (Option Int × Sto)
def TOp (X : Cx) (f : Fo) : TO := fun σ H Q => ∃ (ρ : Env') (R m : List Addr) (S : Sto) (r : Option Int) (S' : Sto), RepE X.K H R m ρ σ ∧ Sim X.prog X.w X.K H R m S ∧ f ρ S = some (r, S') ∧
  ∀ H' R' m', Ext H R m H' R' m' → Sim X.prog X.w X.K H' R' m' S' → Q r H'
theorem po_weak {X : Cx} {e : Option Expr} {t t' : TO} (h : PO X e t) (w : ∀ σ H Q, t' σ H Q → t σ H Q) : PO X e t' := ⟨fun pins s σ H Q I q => h.run pins s σ H Q I (w _ _ _ q)⟩
def oNo : Fo := fun _ S => some (none, S)
def oSome (f : Fe RV) : Fo := fMap f fun x _ => match x with
  | .d (.int i) => some (some i)
  | _ => none
theorem o_none {X : Cx} : PO X none (TOp X oNo) := po_weak po_none fun σ H Q ⟨ρ, R, m, S, r, S', hE, hS, e, k⟩ => by
  cases e
  exact k _ _ _ .refl hS
theorem o_some {X : Cx} {e : Expr} {f : Fe RV} (h : PE X e (TV X f)) : PO X (some e) (TOp X (oSome f)) := po_weak (po_some h) fun σ H Q ⟨ρ, R, m, S, r, S', hE, hS, e, k⟩ => by
  obtain ⟨x, e1, e2⟩ := fMap_some e
  refine ⟨ρ, R, m, S, x, S', hE, hS, e1, fun v H1 R1 m1 x1 s1 r1 => ?_⟩
  split at e2
  · cases e2
    cases r1
    exact ⟨_, rfl, k _ _ _ x1 s1⟩
  · cases e2
/-- a slice of a tuple: a value -/
def fSl (f : Fe RV) (lo hi : Fo) : Fe (RV × Option Int × Option Int) := fBind f fun x => fBind lo fun l => fMap hi fun h _ => some (x, l, h)
def eSlT (f : Fe RV) (lo hi : Fo) : Fe RV := fMap (fSl f lo hi) fun z _ => (lookT z.1).map fun ds => .d (.tup (cutD ds z.2.1 z.2.2))
/-- of a list: new -/
def lSlL (f : Fe RV) (lo hi : Fo) : Fe (List D) := fMap (fSl f lo hi) fun z S => match lookL z.1 S with
  | some ds => if ds.length ≤ Lim then some (cutD ds z.2.1 z.2.2) else none
  | none => none
theorem cutD_len {α : Type} (xs : List α) (lo hi : Option Int) : (cutD xs lo hi).length ≤ xs.length := by
  unfold cutD
  rw [List.length_take, List.length_drop]
  omega
theorem cut_whole {α : Type} {xs : List α} {lo hi : Option Int} (h : HT.sIx xs.length 0 lo = 0 ∧ HT.sIx xs.length xs.length hi = xs.length) : cutD xs lo hi = xs := by
  unfold cutD
  rw [h.1, h.2]
  simp
theorem fSl_some {f : Fe RV} {lo hi : Fo} {ρ : Env'} {S S' : Sto} {z : RV × Option Int × Option Int} (h : fSl f lo hi ρ S = some (z, S')) : ∃ S1 S2, f ρ S = some (z.1, S1) ∧ lo ρ S1 = some (z.2.1, S2) ∧ hi ρ S2 = some (z.2.2, S') := by
  obtain ⟨x, S1, h1, h2⟩ := fBind_some h
  obtain ⟨l, S2, h3, h4⟩ := fBind_some h2
  obtain ⟨u, h5, h6⟩ := fMap_some h4
  cases h6
  exact ⟨S1, S2, h1, h3, h5⟩
theorem e_slT {X : Cx} {e : Expr} {f : Fe RV} {lo hi : Option Expr} {l u : Fo} {p2 pos : Pos} (he : PE X e (TV X f)) (hl : PO X lo (TOp X l)) (hu : PO X hi (TOp X u)) : PE X (.Subscript e (.Slice lo hi none p2) pos) (TV X (eSlT f l u)) :=
  pe_weak (pe_slice sl_tupA he hl hu) fun σ H Q ⟨ρ, R, m, S, r, S', hE, hS, e, k⟩ => by
    obtain ⟨z, e1, e2⟩ := fMap_some e
    obtain ⟨ds, e3, rfl⟩ := Option.map_eq_some_iff.mp e2
    obtain ⟨S1, S2, h1, h2, h3⟩ := fSl_some e1
    refine ⟨ρ, R, m, S, z.1, S1, hE, hS, h1, fun v H1 R1 m1 x1 s1 r1 => ?_⟩
    refine ⟨ρ, R1, m1, S1, z.2.1, S2, hE.ext x1 hS.sub, s1, h2, fun H2 R2 m2 x2 s2 => ?_⟩
    refine ⟨ρ, R2, m2, S2, z.2.2, S', (hE.ext x1 hS.sub).ext x2 s1.sub, s2, h3, fun H3 R3 m3 x3 s3 => ?_⟩
    have r3 := (r1.ext x2 s1.sub).ext x3 s2.sub
    obtain ⟨a, vs, rfl, h4, h5⟩ := lookT_view r3 e3
    refine ⟨a, vs, rfl, h4, fun hw => ?_, fun hw p hp => ?_⟩
    · rw [← h5.length] at hw
      rw [cut_whole hw] at k
      refine k _ _ _ _ ((x1.trans x2).trans x3) s3 ?_
      unfold lookT at e3
      split at e3
      · rename_i z1 ds' hz
        cases e3
        rw [hz] at r3
        exact r3
      · cases e3
    · exact k _ _ _ _ (((x1.trans x2).trans x3).trans (.new hp)) (s3.new hp) (.tup (.inl upd_same) (s3.notR hp) ((h5.cut _ _).ext (.new hp) s3.sub))
theorem e_slL {X : Cx} {e : Expr} {f : Fe RV} {lo hi : Option Expr} {l u : Fo} {p2 pos : Pos} (he : PE X e (TV X f)) (hl : PO X lo (TOp X l)) (hu : PO X hi (TOp X u)) : PE X (.Subscript e (.Slice lo hi none p2) pos) (TL X (lSlL f l u)) :=
  pe_weak (pe_slice sl_list he hl hu) fun σ H Q ⟨ρ, R, m, S, r, S', hE, hS, e, k⟩ => by
    obtain ⟨z, e1, e2⟩ := fMap_some e
    obtain ⟨S1, S2, h1, h2, h3⟩ := fSl_some e1
    split at e2
    · rename_i ds e3
      split at e2
      · rename_i hlen
        cases e2
        refine ⟨ρ, R, m, S, z.1, S1, hE, hS, h1, fun v H1 R1 m1 x1 s1 r1 => ?_⟩
        refine ⟨ρ, R1, m1, S1, z.2.1, S2, hE.ext x1 hS.sub, s1, h2, fun H2 R2 m2 x2 s2 => ?_⟩
        refine ⟨ρ, R2, m2, S2, z.2.2, S', (hE.ext x1 hS.sub).ext x2 s1.sub, s2, h3, fun H3 R3 m3 x3 s3 => ?_⟩
        have r3 := (r1.ext x2 s1.sub).ext x3 s2.sub
        obtain ⟨a, vs, rfl, h4, h5⟩ := lookL_view s3 r3 e3
        exact ⟨a, vs, rfl, h4, fun p hp => k _ _ _ _ _ ((x1.trans x2).trans x3) s3 hp (h5.cut _ _) (Nat.le_trans (cutD_len _ _ _) hlen)⟩
      · cases e2
    · cases e2
/-- xs[::-1] of a list -/
def lRev (f : Fe RV) : Fe (List D) := fMap f fun x S => match lookL x S with
  | some ds => if ds.length ≤ Lim then some ds.reverse else none
  | none => none
theorem e_revL {X : Cx} {e : Expr} {f : Fe RV} {k : Nat} {p1 p2 p3 pos : Pos} (he : PE X e (TV X f)) : PE X (.Subscript e (.Slice none none (some (.UnaryOp .USub (.Constant (.int 1) k p1) p2)) p3) pos) (TL X (lRev f)) :=
  pe_weak (pe_revL he) fun σ H Q ⟨ρ, R, m, S, r, S', hE, hS, e, k⟩ => by
    obtain ⟨x, e1, e2⟩ := fMap_some e
    split at e2
    · rename_i ds e3
      split at e2
      · rename_i hlen
        cases e2
        refine ⟨ρ, R, m, S, x, S', hE, hS, e1, fun v H1 R1 m1 x1 s1 r1 => ?_⟩
        obtain ⟨a, vs, rfl, h4, h5⟩ := lookL_view s1 r1 e3
        exact ⟨a, vs, rfl, h4, fun p hp => k _ _ _ _ _ x1 s1 hp h5.reverse (by rw [List.length_reverse]; exact hlen)⟩
      · cases e2
    · cases e2
end Ev

/-! The evaluator, part E: what is walked, targets, comprehensions. -/
namespace Ev
open PySem PySem.Spec PyProof.Rows L2

/-! ### a source: what a loop walks; an owned list must stand as it was at each turn -/
structure Src where
  ds : List D
  gd : Option Nat
def Src.ok (s : Src) (S : Sto) : Bool := match s.gd with
  | none => true
  | some n => match S[n]? with
    | some (.lst es) => decide (es = s.ds)
    | _ => false
theorem Src.ok_at {s : Src} {S : Sto} {n : Nat} (h : s.ok S = true) (e : s.gd = some n) : S[n]? = some (.lst s.ds) := by
  unfold Src.ok at h
  rw [e] at h
  simp only at h
  split at h
  · rename_i es he
    rw [he, of_decide_eq_true h]
  · cases h
def WalkOK (X : Cx) (J : It) (s : Src) (H0 : Hp) (R0 m0 : List Addr) : Prop := ∃ (G : Hp → Prop) (Y : Nat → Hp → V → Hp → Prop), Walk J s.ds.length G Y ∧
  (∀ H R m S, Ext H0 R0 m0 H R m → Sim X.prog X.w X.K H R m S → s.ok S = true → G H) ∧
  (∀ i H R m S x H', i < s.ds.length → Ext H0 R0 m0 H R m → Sim X.prog X.w X.K H R m S → s.ok S = true → Y i H x H' → ∃ d, s.ds[i]? = some d ∧ Ext H R m H' R m ∧ Sim X.prog X.w X.K H' R m S ∧ Rep X.K H' R d x)
def TIs (X : Cx) (f : Fe Src) : TI := fun σ H R' => ∃ (ρ : Env') (R m : List Addr) (S : Sto) (s : Src) (S' : Sto), RepE X.K H R m ρ σ ∧ Sim X.prog X.w X.K H R m S ∧ f ρ S = some (s, S') ∧
  ∀ J H' R1 m1, Ext H R m H' R1 m1 → Sim X.prog X.w X.K H' R1 m1 S' → WalkOK X J s H' R1 m1 → R' J H'
theorem pi_weak {X : Cx} {tg e : Expr} {t t' : TI} (h : PI X tg e t) (w : ∀ σ H Q, t' σ H Q → t σ H Q) : PI X tg e t' := ⟨fun pins s σ H Q I q => h.run pins s σ H Q I (w _ _ _ q)⟩
theorem pi_or {X : Cx} {tg e : Expr} {t t' : TI} (h : PI X tg e t) (h' : PI X tg e t') : PI X tg e (fun σ H Q => t σ H Q ∨ t' σ H Q) := ⟨fun pins s σ H Q I q => q.elim (h.run pins s σ H Q I) (h'.run pins s σ H Q I)⟩

/-- a list or a tuple as a source -/
def srcOf (x : RV) (S : Sto) : Option Src := match x with
  | .o n => (match S[n]? with
    | some (.lst ds) => some ⟨ds, some n⟩
    | _ => none)
  | .d (.lst ds) => some ⟨ds, none⟩
  | .d (.tup ds) => some ⟨ds, none⟩
  | _ => none
def sSeq (f : Fe RV) : Fe Src := fMap f srcOf
section
variable {X : Cx} {tg l : Expr} {f : Fe RV}
theorem walkLd {K : PySem.W.Frag} {P : Program} {w : World} {H0 : Hp} {R0 m0 : List Addr} {S0 : Sto} {v : V} {ds : List D} (hS : Sim P w K H0 R0 m0 S0) (h : Rep K H0 R0 (.lst ds) v) :
    ∃ a vs, v = .ref a ∧ SqL K H0 a vs ∧ Reps K H0 R0 ds vs ∧ (∀ H R m S, Ext H0 R0 m0 H R m → Sim P w K H R m S → SqL K H a vs ∧ Reps K H R ds vs) := by
  cases h with
  | lst h n r => exact ⟨_, _, rfl, .inl h, r, fun H R m S x s => ⟨.inl (Rd.mono h fun o q => x.keep _ o (fun z => n (hS.sub _ z)) q), r.ext x hS.sub⟩⟩
  | lstK h r => exact ⟨_, _, rfl, .inr h, r, fun H R m S x s => ⟨.inr h, r.ext x hS.sub⟩⟩
/-- a list that stands (owned, or not) walks -/
theorem walkL {K : PySem.W.Frag} {P : Program} {w : World} {H0 : Hp} {R0 m0 : List Addr} {S0 : Sto} {x : RV} {v : V} {ds : List D} (hS : Sim P w K H0 R0 m0 S0) (h : RepV K H0 R0 m0 x v) (e : lookL x S0 = some ds) :
    ∃ a vs s, v = .ref a ∧ SqL K H0 a vs ∧ srcOf x S0 = some s ∧ s.ds = ds ∧ Reps K H0 R0 ds vs ∧ s.ok S0 = true ∧ (∀ H R m S, Ext H0 R0 m0 H R m → Sim P w K H R m S → s.ok S = true → ∃ us, SqL K H a us ∧ Reps K H R ds us) := by
  unfold lookL at e
  split at e
  · cases e
    obtain ⟨a, vs, h1, h2, h3, h4⟩ := walkLd hS h
    exact ⟨a, vs, ⟨ds, none⟩, h1, h2, rfl, rfl, h3, rfl, fun H R m S x s ok => ⟨vs, h4 H R m S x s⟩⟩
  · rename_i n
    split at e
    · rename_i hn
      cases e
      obtain ⟨a, h1, rfl⟩ := h
      obtain ⟨vs, h2, h3⟩ := hS.at_ n a _ h1 hn
      refine ⟨a, vs, ⟨ds, some n⟩, rfl, SqL.of h2, ?_, rfl, h3, ?_, fun H R m S x s ok => ?_⟩
      · show (match S0[n]? with
          | some (.lst ds) => some (⟨ds, some n⟩ : Src)
          | _ => none) = _
        rw [hn]
      · show (match S0[n]? with
          | some (.lst es) => decide (es = ds)
          | _ => false) = true
        rw [hn]
        exact decide_eq_true rfl
      · have hs := Src.ok_at ok rfl
        obtain ⟨us, h4, h5⟩ := s.at_ n a _ (x.idx h1) hs
        exact ⟨us, SqL.of h4, h5⟩
    · cases e
  · cases e
theorem walkT {K : PySem.W.Frag} {P : Program} {w : World} {H0 : Hp} {R0 m0 : List Addr} {S0 : Sto} {v : V} {ds : List D} (hS : Sim P w K H0 R0 m0 S0) (h : Rep K H0 R0 (.tup ds) v) :
    ∃ a vs, v = .ref a ∧ SqT K H0 a vs ∧ Reps K H0 R0 ds vs ∧ (∀ H R m S, Ext H0 R0 m0 H R m → Sim P w K H R m S → SqT K H a vs ∧ Reps K H R ds vs) := by
  cases h with
  | tup h n r => exact ⟨_, _, rfl, .inl h, r, fun H R m S x s => ⟨.inl (Rd.mono h fun o q => x.keep _ o (fun z => n (hS.sub _ z)) q), r.ext x hS.sub⟩⟩
  | tupK h r => exact ⟨_, _, rfl, .inr h, r, fun H R m S x s => ⟨.inr h, r.ext x hS.sub⟩⟩
/-- a walk over a list from outside, item by item -/
theorem sqL_inj {K : PySem.W.Frag} {H : Hp} {a : Addr} {vs us : List V} {P : Program} {w : World} {h : Heap} (hok : HOk P w H h) (hk : K.In h) (x : SqL K H a vs) (y : SqL K H a us) : vs = us := by
  have to : ∀ {zs : List V}, SqL K H a zs → ∃ (its : List Value) (o : Obj) (n : Nat), Vals zs its ∧ h.get? a = some o ∧ o.data = .seq its.toArray n := fun {zs} q => by
    rcases q with q | ⟨o, its, n, h1, _, _, h2, _, h3⟩
    · obtain ⟨_, its, n, r, e⟩ := q.ok hok
      exact ⟨its, _, n, r, e, rfl⟩
    · exact ⟨its.toList, o, n, h3, hk a o h1, by simpa using h2⟩
  obtain ⟨i1, o1, n1, r1, e1, d1⟩ := to x
  obtain ⟨i2, o2, n2, r2, e2, d2⟩ := to y
  rw [e1] at e2; cases e2
  rw [d1] at d2
  injection d2 with d3 _
  have : i1 = i2 := by simpa using congrArg Array.toList d3
  subst this
  exact r1.inj r2
theorem i_seq (hl : PE X l (TV X f)) : PI X tg l (TIs X (sSeq f)) := pi_weak (pi_or (pi_list (tg := tg) hl) (pi_tup (tg := tg) hl)) fun σ H R' q => by
  obtain ⟨ρ, R, m, S, s, S', hE, hS, e, k⟩ := q
  obtain ⟨x, e1, e2⟩ := fMap_some e
  have hx : (∃ ds, lookL x S' = some ds) ∨ ∃ ds, x = .d (.tup ds) := by
    unfold srcOf at e2
    split at e2
    · split at e2
      · rename_i n ds hn
        exact .inl ⟨ds, by unfold lookL; simp only [hn]⟩
      · cases e2
    · exact .inl ⟨_, rfl⟩
    · exact .inr ⟨_, rfl⟩
    · cases e2
  rcases hx with ⟨ds, hl⟩ | ⟨ds, rfl⟩
  · left
    refine ⟨ρ, R, m, S, x, S', hE, hS, e1, fun v H1 R1 m1 x1 s1 r1 => ?_⟩
    obtain ⟨a, vs, s', rfl, h1, h2, h3, h4, h5, h6⟩ := walkL s1 r1 hl
    rw [e2] at h2; cases h2
    refine ⟨a, rfl, ⟨vs, h1⟩, k _ _ _ _ x1 s1 ?_⟩
    refine ⟨fun H => ∃ us, SqL X.K H a us ∧ us.length = s.ds.length, fun i H x H' => H' = H ∧ ∀ us, SqL X.K H a us → us[i]? = some x, ⟨fun i H hi ⟨us, g1, g2⟩ => ?_, fun H ⟨us, g1, g2⟩ => ⟨us, g1, by omega⟩, fun i H x H' hi g y => y⟩, fun H R m S x s ok => ?_, fun i H R m S x H' hi xt st ok y => ?_⟩
    · have hj : i < us.length := by omega
      exact ⟨us, us[i], g1, by simp [hj]⟩
    · obtain ⟨us, g1, g2⟩ := h6 H R m S x s ok
      exact ⟨us, g1, by rw [h3, ← g2.length]⟩
    · obtain ⟨us, g1, g2⟩ := h6 H R m S xt st ok
      obtain ⟨rfl, y⟩ := y
      rw [h3] at hi ⊢
      have hd : ds[i]? = some ds[i] := by simp [hi]
      obtain ⟨u, g3, g4⟩ := g2.get hd
      have g5 := y us g1
      rw [g3] at g5; cases g5
      exact ⟨_, hd, .refl, st, g4⟩
  · right
    cases e2
    refine ⟨ρ, R, m, S, _, S', hE, hS, e1, fun v H1 R1 m1 x1 s1 r1 => ?_⟩
    obtain ⟨a, vs, rfl, h1, h2, h3⟩ := walkT s1 r1
    refine ⟨a, rfl, ⟨vs, h1⟩, k _ _ _ _ x1 s1 ?_⟩
    refine ⟨fun H => SqT X.K H a vs, YAt vs, by show Walk _ ds.length _ _; rw [h2.length]; exact walk_tup, fun H R m S x s ok => (h3 H R m S x s).1, fun i H R m S x H' hi xt st ok y => ?_⟩
    obtain ⟨rfl, y⟩ := y
    have g2 := (h3 _ R m S xt st).2
    have hd : ds[i]? = some ds[i] := by simp [show i < ds.length from hi]
    obtain ⟨u, g3, g4⟩ := g2.get hd
    rw [g3] at y; cases y
    exact ⟨_, hd, .refl, st, g4⟩

/-! ### range -/
def rng (lo : Int) (n : Nat) : List D := (List.range n).map fun (i : Nat) => .int (lo + (i : Int))
theorem rng_at (lo : Int) {n i : Nat} (h : i < n) : (rng lo n)[i]? = some (.int (lo + i)) := by
  unfold rng
  simp [h]
theorem rng_len (lo : Int) (n : Nat) : (rng lo n).length = n := by unfold rng; simp
def small62 (i : Int) : Bool := decide (-(2 ^ 62) ≤ i) && decide (i < 2 ^ 62)
theorem small62_ok {i : Int} (h : small62 i = true) : -(2 ^ 62) ≤ i ∧ i < 2 ^ 62 := by
  unfold small62 at h
  rw [Bool.and_eq_true, decide_eq_true_eq, decide_eq_true_eq] at h
  exact h
def oR1 (rs : List RV) (_ : Sto) : Option Src := match rs with
  | [.d (.int j)] => if small62 j = true then some ⟨rng 0 j.toNat, none⟩ else none
  | _ => none
def oR2 (rs : List RV) (_ : Sto) : Option Src := match rs with
  | [.d (.int i), .d (.int j)] => if (small62 i && small62 j) = true then some ⟨rng i (j - i).toNat, none⟩ else none
  | _ => none
/-- a range downwards by ones -/
def rngD (lo : Int) (n : Nat) : List D := (List.range n).map fun (i : Nat) => .int (lo - (i : Int))
def oR3 (rs : List RV) (_ : Sto) : Option Src := match rs with
  | [.d (.int i), .d (.int j), .d (.int (-1))] => if (small62 i && small62 j) = true then some ⟨rngD i (i - j).toNat, none⟩ else none
  | _ => none
theorem walkOK_rng (lo : Int) (n : Nat) (H0 : Hp) (R0 m0 : List Addr) : WalkOK X (Itr lo n) ⟨rng lo n, none⟩ H0 R0 m0 := by
  refine ⟨fun _ => True, YFn fun i => .int (lo + i), by show Walk _ (rng lo n).length _ _; rw [rng_len]; exact walk_range, fun _ _ _ _ _ _ _ => trivial, fun i H R m S x H' hi xt st ok y => ?_⟩
  obtain ⟨rfl, rfl⟩ := y
  rw [rng_len] at hi
  exact ⟨_, rng_at lo hi, .refl, st, .int _⟩
variable {a b c : Expr} {pos p : Pos} {h : Fe (List RV)}
theorem i_range1 (hg : Gl X "range") (hm : X.mg "range" = none) (ha : PA X [a] (TAs X h)) (hs : starEach [a] X.env = [(false, eval a X.env)]) : PI X tg (.Call (.Name "range" p) [a] [] pos) (TIs X (fMap h oR1)) :=
  pi_weak (pi_range1 hg hm ha hs) fun σ H R' q => by
    obtain ⟨ρ, R, m, S, s, S', hE, hS, e, k⟩ := q
    obtain ⟨rs, e1, e2⟩ := fMap_some e
    refine ⟨ρ, R, m, S, rs, S', hE, hS, e1, fun vs H1 R1 m1 x1 s1 r1 => ?_⟩
    unfold oR1 at e2
    split at e2
    · split at e2
      · rename_i j hj
        cases e2
        obtain ⟨v, rfl, hv⟩ := rep1 r1
        cases hv
        have q := small62_ok hj
        exact ⟨j, rfl, q.1, q.2, k _ _ _ _ x1 s1 (walkOK_rng 0 _ _ _ _)⟩
      · cases e2
    · cases e2
theorem i_range2 (hg : Gl X "range") (hm : X.mg "range" = none) (ha : PA X [a, b] (TAs X h)) (hs : starEach [a, b] X.env = [(false, eval a X.env), (false, eval b X.env)]) (hs2 : starEach [b] X.env = [(false, eval b X.env)]) : PI X tg (.Call (.Name "range" p) [a, b] [] pos) (TIs X (fMap h oR2)) :=
  pi_weak (pi_range2 hg hm ha hs hs2) fun σ H R' q => by
    obtain ⟨ρ, R, m, S, s, S', hE, hS, e, k⟩ := q
    obtain ⟨rs, e1, e2⟩ := fMap_some e
    refine ⟨ρ, R, m, S, rs, S', hE, hS, e1, fun vs H1 R1 m1 x1 s1 r1 => ?_⟩
    unfold oR2 at e2
    split at e2
    · split at e2
      · rename_i i j hj
        cases e2
        obtain ⟨v, u, rfl, hv, hu⟩ := rep2 r1
        cases hv; cases hu
        rw [Bool.and_eq_true] at hj
        have q1 := small62_ok hj.1
        have q2 := small62_ok hj.2
        exact ⟨i, j, rfl, ⟨q1.1, q1.2, q2.1, q2.2⟩, k _ _ _ _ x1 s1 (walkOK_rng i _ _ _ _)⟩
      · cases e2
    · cases e2

/-! ### zip of two lists, of two tuples -/
def zipD : List D → List D → List D
  | a :: as, b :: bs => .tup [a, b] :: zipD as bs
  | _, _ => []
theorem zipD_len : ∀ as bs : List D, (zipD as bs).length = min as.length bs.length
  | [], _ => by simp [zipD]
  | _ :: _, [] => by simp [zipD]
  | a :: as, b :: bs => by simp [zipD, zipD_len as bs]
theorem zipD_at : ∀ {as bs : List D} {i : Nat} {a b : D}, as[i]? = some a → bs[i]? = some b → (zipD as bs)[i]? = some (.tup [a, b])
  | [], _, _, _, _, h, _ => by simp at h
  | _ :: _, [], _, _, _, _, h => by simp at h
  | x :: as, y :: bs, 0, a, b, h1, h2 => by
    simp at h1 h2
    subst h1; subst h2
    rfl
  | x :: as, y :: bs, i + 1, a, b, h1, h2 => by
    simp at h1 h2
    show (zipD as bs)[i]? = _
    exact zipD_at h1 h2
/-- zip of two values that are both lists, or both tuples (none of them owned) -/
def oZip (rs : List RV) (_ : Sto) : Option Src := match rs with
  | [.d (.lst as), .d (.lst bs)] => some ⟨zipD as bs, none⟩
  | [.d (.tup as), .d (.tup bs)] => some ⟨zipD as bs, none⟩
  | _ => none
/-- a new pair at each turn -/
theorem pair_turn {H H' : Hp} {R m : List Addr} {S : Sto} {T : Addr} {x y : V} {a b : D} (st : Sim X.prog X.w X.K H R m S) (hT : H T = none) (e : H' = upd H T (.tup [x, y])) (ra : Rep X.K H R a x) (rb : Rep X.K H R b y) :
    Ext H R m H' R m ∧ Sim X.prog X.w X.K H' R m S ∧ Rep X.K H' R (.tup [a, b]) (.ref T) := by
  subst e
  refine ⟨.new hT, st.new hT, .tup (.inl upd_same) (st.notR hT) (.cons ?_ (.cons ?_ .nil))⟩
  · exact ra.ext (Ext.new (m := m) hT) st.sub
  · exact rb.ext (Ext.new (m := m) hT) st.sub
theorem min_split {i a b : Nat} (h : i < min a b) : i < a ∧ i < b := by omega
theorem i_zip {elts : List Expr} {kk : Nat} {tpos : Pos} (hg : Gl X "zip") (hm : X.mg "zip" = none) (ha : PA X [a, b] (TAs X h)) (hs : starEach [a, b] X.env = (false, eval a X.env) :: starEach [b] X.env) (hpl : (backTo pos (starEach [b] X.env)).any (·.1) = false) :
    PI X (.Tuple elts kk tpos) (.Call (.Name "zip" p) [a, b] [] pos) (TIs X (fMap h oZip)) :=
  pi_weak (RZ.pi_zipA hg hm ha hs hpl) fun σ H R' q => by
    obtain ⟨ρ, R, m, S, s, S', hE, hS, e, k⟩ := q
    obtain ⟨rs, e1, e2⟩ := fMap_some e
    refine ⟨ρ, R, m, S, rs, S', hE, hS, e1, fun vs H1 R1 m1 x1 s1 r1 => ?_⟩
    unfold oZip at e2
    split at e2
    · rename_i as bs
      cases e2
      obtain ⟨v, u, rfl, hv, hu⟩ := rep2 r1
      obtain ⟨ax, vx, rfl, hx, rx, kx⟩ := walkLd s1 hv
      obtain ⟨ay, vy, rfl, hy, ry, ky⟩ := walkLd s1 hu
      refine ⟨ax, ay, vx, vy, rfl, .inl ⟨hx, hy, k _ _ _ _ x1 s1 ?_⟩⟩
      refine ⟨_, _, walk_zip (K := X.K) (a := ax) (b := ay) (xs := vx) (ys := vy) (n := (zipD as bs).length) (by rw [zipD_len, rx.length, ry.length]), fun H R m S x s ok => ⟨(kx H R m S x s).1, (ky H R m S x s).1⟩, fun i H R m S x H' hi xt st ok y => ?_⟩
      obtain ⟨T, x0, y0, rfl, hT, eH, g1, g2⟩ := y
      obtain ⟨hi1, hi2⟩ := min_split (show i < min as.length bs.length by rw [← zipD_len]; exact hi)
      have hd1 : as[i]? = some as[i] := by simp [hi1]
      have hd2 : bs[i]? = some bs[i] := by simp [hi2]
      obtain ⟨u1, g3, g4⟩ := (rx.ext xt s1.sub).get hd1
      obtain ⟨u2, g5, g6⟩ := (ry.ext xt s1.sub).get hd2
      have g1 : vx[i]? = some x0 := g1
      have g2 : vy[i]? = some y0 := g2
      rw [g3] at g1; cases g1
      rw [g5] at g2; cases g2
      exact ⟨_, zipD_at hd1 hd2, pair_turn st hT eH g4 g6⟩
    · rename_i as bs
      cases e2
      obtain ⟨v, u, rfl, hv, hu⟩ := rep2 r1
      obtain ⟨ax, vx, rfl, hx, rx, kx⟩ := walkT s1 hv
      obtain ⟨ay, vy, rfl, hy, ry, ky⟩ := walkT s1 hu
      refine ⟨ax, ay, vx, vy, rfl, .inr ⟨hx, hy, k _ _ _ _ x1 s1 ?_⟩⟩
      refine ⟨fun H => SqT X.K H ax vx ∧ SqT X.K H ay vy, YPair (fun i => vx[i]?) (fun i => vy[i]?), ⟨fun i H hi g => ?_, fun H g => ⟨vx, vy, g.1, g.2, ?_⟩, fun i H x H' hi g y => ?_⟩, fun H R m S x s ok => ⟨(kx H R m S x s).1, (ky H R m S x s).1⟩, fun i H R m S x H' hi xt st ok y => ?_⟩
      · obtain ⟨hi1, hi2⟩ := min_split (show i < min as.length bs.length by rw [← zipD_len]; exact hi)
        rw [rx.length] at hi1
        rw [ry.length] at hi2
        exact ⟨vx, vy, vx[i], vy[i], g.1, g.2, by simp [hi1], by simp [hi2]⟩
      · show vx.length ≤ (zipD as bs).length ∨ vy.length ≤ (zipD as bs).length
        rw [zipD_len, rx.length, ry.length]
        omega
      · obtain ⟨T, x0, y0, h1, h2, h3, h4, h5⟩ := y
        exact ⟨T, x0, y0, h1, h2, h3, h4 vx g.1, h5 vy g.2⟩
      · obtain ⟨T, x0, y0, rfl, hT, eH, g1, g2⟩ := y
        obtain ⟨hi1, hi2⟩ := min_split (show i < min as.length bs.length by rw [← zipD_len]; exact hi)
        have hd1 : as[i]? = some as[i] := by simp [hi1]
        have hd2 : bs[i]? = some bs[i] := by simp [hi2]
        obtain ⟨u1, g3, g4⟩ := ((kx H R m S xt st).2).get hd1
        obtain ⟨u2, g5, g6⟩ := ((ky H R m S xt st).2).get hd2
        have g1 : vx[i]? = some x0 := g1
        have g2 : vy[i]? = some y0 := g2
        rw [g3] at g1; cases g1
        rw [g5] at g2; cases g2
        exact ⟨_, zipD_at hd1 hd2, pair_turn st hT eH g4 g6⟩
    · cases e2
end
end Ev

/-! The evaluator, part I: enumerate over a tuple; over what a source is. -/
namespace Ev
open PySem PySem.Spec PyProof.Rows L2

def IteT (K : PySem.W.Frag) (a : Addr) : It :=
  ⟨fun i H => ∃ (xs : List V) (x : V), SqT K H a xs ∧ xs[i]? = some x, fun i H v H' => ∃ T x, v = .ref T ∧ H T = none ∧ H' = upd H T (.tup [.int (i : Nat), x]) ∧ ∀ xs, SqT K H a xs → xs[i]? = some x, fun i H => ∃ xs : List V, SqT K H a xs ∧ xs.length ≤ i⟩
theorem turn_enumT {P : Program} {w : World} {K : PySem.W.Frag} {elts : List Expr} {kk : Nat} {tpos : Pos} (a e it : Addr) :
    Turn P w K (.Tuple elts kk tpos) (IteT K a) [e, it] e (fun i h => (∃ old, IsEnum h e it ((i : Nat) : Int) old) ∧ h.IsTupleIter it a i ∧ e ≠ it) where
  mem := List.mem_cons_self
  obj := fun i h st b hb => by
    obtain ⟨⟨old, he⟩, ⟨o, ho, hc, hd⟩, _⟩ := st
    rcases List.mem_cons.mp hb with z | z
    · subst z; exact ⟨_, he, fun v q => nomatch q⟩
    · have z := List.mem_singleton.mp z
      subst z; exact ⟨o, ho, fun v q => by rw [hd] at q; cases q⟩
  keep := fun i h h' st k => by
    obtain ⟨⟨old, he⟩, hi, hne⟩ := st
    exact ⟨⟨old, k e List.mem_cons_self _ he⟩, hi.at fun o q => k it (List.mem_cons_of_mem _ List.mem_cons_self) o q, hne⟩
  item := by
    intro X hP hw hK hc i pins s σ H E I hf st hg
    subst hP hw hK
    obtain ⟨⟨old, he⟩, hit, hne⟩ := st
    obtain ⟨xs, x, hq, hx⟩ := hg
    obtain ⟨its, rv, p, hz⟩ := I.tuple hq
    obtain ⟨u, hu, ru⟩ := rv.get hx
    have p' : s.heap.IsTuple a its.toArray := p
    have hel : e < s.heap.objs.size := Heap.lt_size he
    have hil : it < s.heap.objs.size := by obtain ⟨_, q, _⟩ := hit; exact Heap.lt_size q
    have hai : a ≠ it := by
      rintro rfl
      obtain ⟨o1, q1, q2, _⟩ := id hit
      obtain ⟨o2, q3, q4, _⟩ := id p
      rw [q1] at q3; cases q3
      rw [q2] at q4
      exact absurd q4 (by decide)
    have hea : e ≠ a := by
      rintro rfl
      obtain ⟨o2, q3, q4, _⟩ := id p
      rw [he] at q3; cases q3
      have q5 : Value.type "enumerate" = Value.type "tuple" := q4
      exact absurd q5 (by decide)
    have hlt : i < its.toArray.size := by
      rw [List.size_toArray]
      exact (List.getElem?_eq_some_iff.mp hu).1
    have Dr := Draws.tuple (prog := X.prog) (w := X.w) (A := X.A.in1) (I.ok.hd hc) it a hai its.toArray
    refine wpAny_pyNext_enum_itemD Dr he ⟨hit, p'⟩ hlt hne (by simp [hne, hea]) fun z h' tk hP ho st' hT hsz hk => ?_
    have ez : z = u := by
      have q : its.toArray[i]? = some z := hP
      rw [show its.toArray[i]? = its[i]? from by simp, hu] at q
      exact (Option.some.inj q).symm
    subst ez
    refine ⟨_, rfl, wpAny_letOwnedTupleGo_enum (s := { s with heap := h', toks := tk + 1 }) ho fun h'' he' sb => ?_⟩
    have hT2 : h''.get? s.heap.objs.size = some { cls := .type "tuple", data := .seq #[.int i tk, z] } := (sb.2 _ (Nat.ne_of_gt hel)).trans hT
    have new : ObjOk X.prog X.w (upd H s.heap.objs.size (.tup [.int (i : Nat), x])) h'' s.heap.objs.size (.tup [.int (i : Nat), x]) :=
      ⟨by show 2 ≤ sizeLine; decide, [.int i tk, z], .cons ⟨_, rfl⟩ (.cons ru .nil), ⟨_, hT2, rfl, _, rfl⟩⟩
    have notin : ∀ b, b ∉ [e, it] → b ≠ e ∧ b ≠ it := fun b hb => ⟨fun z => hb (by rw [z]; exact List.mem_cons_self), fun z => hb (by rw [z]; exact List.mem_cons_of_mem _ List.mem_cons_self)⟩
    have I1 : Inv X pins σ (upd H s.heap.objs.size (.tup [.int (i : Nat), x])) { s with heap := h'', toks := tk + 1 } :=
      I.turnedNew (ch := [e, it]) (fun b ob hb q => (sb.2 b (notin b hb).1).trans (hk b ob (notin b hb).1 (notin b hb).2 q)) hf (Nat.le_refl _) new
    refine ⟨.ref s.heap.objs.size, _, I1, rfl, ⟨_, x, rfl, I.hok.fresh (Nat.le_refl _), rfl, fun ys hy => by rw [I.tuple_inj hy hq]; exact hx⟩, ⟨⟨z, ?_⟩, st'.1.at fun o q => (sb.2 it (Ne.symm hne)).trans q, hne⟩, fun b hb => ?_⟩
    · have e1 : ((i + 1 : Nat) : Int) = (i : Int) + 1 := by omega
      rw [e1]; exact he'
    · have hb' : b < s.heap.objs.size := by
        rcases List.mem_cons.mp hb with z | z
        · rw [z]; exact hel
        · rw [List.mem_singleton.mp z]; exact hil
      rw [upd_ne (Nat.ne_of_lt hb')]
      exact (hf b hb).1
  done := by
    intro X hP hw hK hc i pins s σ H E I hf st hg
    subst hP hw hK
    obtain ⟨⟨old, he⟩, hit, hne⟩ := st
    obtain ⟨xs, hq, hx⟩ := hg
    obtain ⟨its, rv, p, hz⟩ := I.tuple hq
    have p' : s.heap.IsTuple a its.toArray := p
    obtain ⟨f0, f1, f2, f3, f4, f5⟩ := hf it (List.mem_cons_of_mem _ List.mem_cons_self)
    have hl := rv.length
    have hT : s.TypeIs (.ref e) "enumerate" := ⟨_, he, rfl⟩
    unfold pyNext
    refine wpAny_bind (wpAny_attempt (wpAny_callSpecial?_slot (name := Str.ofString "__next__") hT F.slot_enumerate_next
      (wpAny_call_entry F.slot_enumerate_next hT F.entry_enumerate_next ?_ (F.args_enumerate_next_1 _))))
    show wpAny _ _ (field (.ref e) 2 >>= _) _ _ _
    refine wpAny_bind (wpAny_field he rfl (x := .ref it) rfl ?_)
    refine wpAny_bind (wpAny_nextOf_tuple_end (A := X.A.in1) (I.ok.hd hc) hit p' (by simp; omega) fun h' x he' hx' => ?_)
    obtain ⟨o, ho, hc'⟩ := hx'
    refine wpAny_bind (wpAny_isInstance (T := "StopIteration") (b := true) ⟨o, ho, hc'⟩ isSubtype_stop ?_)
    exact wpAny_pure ⟨rfl, I.turned (t' := s.toks) (fun b o hb q => he' b o hb q) f0 f1 f3 f4 f5⟩
  self := fun A i s Q E st h => by
    obtain ⟨⟨_, he⟩, _⟩ := st
    exact wpAny_pyIter_enum he h
theorem meets_enumT (l : Addr) (items : Array Value) :
    Meets (Builtin.«enumerate.__new__» ⟨[.type "enumerate", .ref l], []⟩) (fun _ R s => s.heap.IsTuple l items ∧
      R (.ok (.ret (.ref (s.heap.push { cls := .type "tuple_iterator", data := .fields #[.ref l, .int 0 0] }).objs.size)))
        { s with heap := (s.heap.push { cls := .type "tuple_iterator", data := .fields #[.ref l, .int 0 0] }).push { cls := .type "enumerate", data := .fields #[.none, .bool false, .ref s.heap.objs.size, rawInt 0, .none, .none] } }) :=
  .of_wp fun prog w A R s h => by
    obtain ⟨hp, g, d, tk, os⟩ := s
    obtain ⟨hl, h⟩ := h
    have hsub := sub_enumerate
    have q1 : ∀ {A' : Around} {E : Value → Shared → Prop} {Q : Value → Shared → Prop}, Q (.ref hp.objs.size) ⟨hp.push { cls := .type "tuple_iterator", data := .fields #[.ref l, .int 0 0] }, g, d, tk, os⟩ → wpAny (model prog w) A' (pyIter (.ref l)) Q E ⟨hp, g, d, tk, os⟩ :=
      fun q => wpAny_pyIter_tuple (s := ⟨hp, g, d, tk, os⟩) hl q
    wp_walk using q1
    refine wpAny_stack_any fun st => wpAny_pure ?_
    split
    · rename_i c _ _ _ _ _
      cases (c == Value.type "enumerate") <;> (wp_walk using q1; exact ⟨_, rfl, h⟩)
    · wp_walk using q1
      exact ⟨_, rfl, h⟩
theorem call_enumT {prog : Program} {w : World} {A : Around} {E : Value → Shared → Prop} {s : Shared} {l : Addr} {items : Array Value} {Q : Value → Shared → Prop} (hL : s.heap.IsTuple l items)
    (h : ∀ h', IsEnum h' (s.heap.objs.size + 1) s.heap.objs.size 0 .none → h'.IsTupleIter s.heap.objs.size l 0 → (∀ b o, s.heap.get? b = some o → h'.get? b = some o) → Q (.ref (s.heap.objs.size + 1)) { s with heap := h' }) :
    wpAny (model prog w) A (call (.type "enumerate") [.ref l]) Q E s := by
  refine callType_new F.called_enumerate (by decide) (F.typeCall_enumerate_1 _) (F.newCall_enumerate_1 _) (fun obj => F.args_object_init_2 obj _) F.entry_enumerate_new (meets_enumT l items) ⟨hL, ?_⟩
  have hz : (s.heap.push { cls := .type "tuple_iterator", data := .fields #[.ref l, .int 0 0] }).objs.size = s.heap.objs.size + 1 := Heap.size_push ..
  show _ ∧ _
  rw [hz]
  have he : IsEnum ((s.heap.push { cls := .type "tuple_iterator", data := .fields #[.ref l, .int 0 0] }).push
      { cls := .type "enumerate", data := .fields #[.none, .bool false, .ref s.heap.objs.size, rawInt 0, .none, .none] }) (s.heap.objs.size + 1) s.heap.objs.size 0 .none := by
    have := Heap.get?_push_size (s.heap.push { cls := .type "tuple_iterator", data := .fields #[.ref l, .int 0 0] })
      (o := { cls := .type "enumerate", data := .fields #[.none, .bool false, .ref s.heap.objs.size, rawInt 0, .none, .none] }) rfl
    rw [hz] at this
    exact this
  exact ⟨⟨_, he, rfl⟩, h _ he ⟨_, Heap.get?_push_of_some _ (Heap.get?_push_size _ rfl), rfl, rfl⟩ fun b o x => Heap.get?_push_of_some _ (Heap.get?_push_of_some _ x)⟩
def iEnumT (K : PySem.W.Frag) (ta : TA) : TI := fun σ H R => ta σ H fun vs H1 => ∃ a xs, vs = [.ref a] ∧ SqT K H1 a xs ∧ R (IteT K a) H1
theorem pi_enumT {X : Cx} {e : Expr} {ta : TA} {p pos tpos : Pos} {elts : List Expr} {kk : Nat} (hg : Gl X "enumerate") (hm : X.mg "enumerate" = none) (ha : PA X [e] ta) (hs : starEach [e] X.env = [(false, eval e X.env)]) :
    PI X (.Tuple elts kk tpos) (.Call (.Name "enumerate" p) [e] [] pos) (iEnumT X.K ta) := by
  refine ⟨fun pins s σ H R I h => ?_⟩
  refine Call_ (ld_blt I hg hm boot_enumerate (PyProof.Rows.callWith_type1 (thn (ha.run pos pins s σ H _ I h) fun us s1 ⟨vs, H1, I1, r1, q1⟩ => ?_) hs rfl))
  obtain ⟨a, xs, ex, hq, q⟩ := q1
  subst ex
  obtain ⟨u, rfl, r⟩ := r1.one
  cases r
  obtain ⟨its, rv, p', hz⟩ := I1.tuple hq
  refine call_enumT (show s1.heap.IsTuple a its.toArray from p') fun h' he hit hk => wpAny_pyIter_enum he ?_
  have I2 : Inv X pins σ H1 { s1 with heap := h' } := I1.kept (t' := s1.toks) hk
  refine ⟨s1.heap.objs.size + 1, [s1.heap.objs.size + 1, s1.heap.objs.size], _, _, H1, rfl, I2, turn_enumT a (s1.heap.objs.size + 1) s1.heap.objs.size, ⟨⟨.none, he⟩, hit, Nat.succ_ne_self _⟩, fun b hb => ?_, q⟩
  have hle : s1.heap.objs.size ≤ b := by
    rcases List.mem_cons.mp hb with z | z
    · rw [z]; exact Nat.le_succ _
    · rw [List.mem_singleton.mp z]; exact Nat.le_refl _
  exact I1.fpOk hle (I1.hok.fresh hle)

/-! ### enumerate of a list that none owns, or of a tuple -/
def enumD (i : Nat) : List D → List D
  | [] => []
  | d :: ds => .tup [.int i, d] :: enumD (i + 1) ds
theorem enumD_len : ∀ (ds : List D) (i : Nat), (enumD i ds).length = ds.length
  | [], _ => rfl
  | d :: ds, i => by simp [enumD, enumD_len ds (i + 1)]
theorem enumD_at : ∀ {ds : List D} {k i : Nat} {d : D}, ds[i]? = some d → (enumD k ds)[i]? = some (.tup [.int ((k + i : Nat) : Int), d])
  | [], _, _, _, h => by simp at h
  | x :: ds, k, 0, d, h => by
    simp at h
    subst h
    rfl
  | x :: ds, k, i + 1, d, h => by
    show (enumD (k + 1) ds)[i]? = _
    rw [enumD_at (k := k + 1) (by simpa using h)]
    rw [show k + 1 + i = k + (i + 1) by omega]
def oEnum (rs : List RV) (_ : Sto) : Option Src := match rs with
  | [.d (.lst as)] => some ⟨enumD 0 as, none⟩
  | [.d (.tup as)] => some ⟨enumD 0 as, none⟩
  | _ => none
theorem i_enum {X : Cx} {a : Expr} {h : Fe (List RV)} {elts : List Expr} {kk : Nat} {tpos p pos : Pos} (hg : Gl X "enumerate") (hm : X.mg "enumerate" = none) (ha : PA X [a] (TAs X h)) (hs : starEach [a] X.env = [(false, eval a X.env)]) :
    PI X (.Tuple elts kk tpos) (.Call (.Name "enumerate" p) [a] [] pos) (TIs X (fMap h oEnum)) :=
  pi_weak (pi_or (pi_enum hg hm ha hs) (pi_enumT hg hm ha hs)) fun σ H R' q => by
    obtain ⟨ρ, R, m, S, s, S', hE, hS, e, k⟩ := q
    obtain ⟨rs, e1, e2⟩ := fMap_some e
    have cs : (∃ as, rs = [.d (.lst as)] ∧ s = ⟨enumD 0 as, none⟩) ∨ ∃ as, rs = [.d (.tup as)] ∧ s = ⟨enumD 0 as, none⟩ := by
      unfold oEnum at e2
      split at e2
      · cases e2; exact .inl ⟨_, rfl, rfl⟩
      · cases e2; exact .inr ⟨_, rfl, rfl⟩
      · cases e2
    rcases cs with ⟨as, rfl, rfl⟩ | ⟨as, rfl, rfl⟩
    · left
      refine ⟨ρ, R, m, S, _, S', hE, hS, e1, fun vs H1 R1 m1 x1 s1 r1 => ?_⟩
      obtain ⟨v, rfl, hv⟩ := rep1 r1
      obtain ⟨ax, vx, rfl, hx, rx, kx⟩ := walkLd s1 hv
      refine ⟨ax, vx, rfl, hx, k _ _ _ _ x1 s1 ?_⟩
      refine ⟨_, _, by show Walk _ (enumD 0 as).length _ _; rw [enumD_len, rx.length]; exact walk_enum (K := X.K) (a := ax) (xs := vx), fun H R m S x s ok => (kx H R m S x s).1, fun i H R m S x H' hi xt st ok y => ?_⟩
      obtain ⟨T, x0, y0, rfl, hT, eH, g1, g2⟩ := y
      have hi1 : i < as.length := by rw [← enumD_len as 0]; exact hi
      have hd1 : as[i]? = some as[i] := by simp [hi1]
      obtain ⟨u1, g3, g4⟩ := (rx.ext xt s1.sub).get hd1
      have g1 : some (V.int (i : Nat)) = some x0 := g1
      have g2 : vx[i]? = some y0 := g2
      cases g1
      rw [g3] at g2; cases g2
      have g5 := enumD_at (k := 0) hd1
      rw [Nat.zero_add] at g5
      exact ⟨_, g5, pair_turn st hT eH (.int _) g4⟩
    · right
      refine ⟨ρ, R, m, S, _, S', hE, hS, e1, fun vs H1 R1 m1 x1 s1 r1 => ?_⟩
      obtain ⟨v, rfl, hv⟩ := rep1 r1
      obtain ⟨ax, vx, rfl, hx, rx, kx⟩ := walkT s1 hv
      refine ⟨ax, vx, rfl, hx, k _ _ _ _ x1 s1 ?_⟩
      refine ⟨fun H => SqT X.K H ax vx, YPair (fun i => some (.int (i : Nat))) (fun i => vx[i]?), ⟨fun i H hi g => ?_, fun H g => ⟨vx, g, ?_⟩, fun i H x H' hi g y => ?_⟩, fun H R m S x s ok => (kx H R m S x s).1, fun i H R m S x H' hi xt st ok y => ?_⟩
      · have hi1 : i < vx.length := by rw [← rx.length, ← enumD_len as 0]; exact hi
        exact ⟨vx, vx[i], g, by simp [hi1]⟩
      · show vx.length ≤ (enumD 0 as).length
        rw [enumD_len, rx.length]
        exact Nat.le_refl _
      · obtain ⟨T, x0, h1, h2, h3, h4⟩ := y
        exact ⟨T, .int (i : Nat), x0, h1, h2, h3, rfl, h4 vx g⟩
      · obtain ⟨T, x0, y0, rfl, hT, eH, g1, g2⟩ := y
        have hi1 : i < as.length := by rw [← enumD_len as 0]; exact hi
        have hd1 : as[i]? = some as[i] := by simp [hi1]
        obtain ⟨u1, g3, g4⟩ := ((kx H R m S xt st).2).get hd1
        have g1 : some (V.int (i : Nat)) = some x0 := g1
        have g2 : vx[i]? = some y0 := g2
        cases g1
        rw [g3] at g2; cases g2
        have g5 := enumD_at (k := 0) hd1
        rw [Nat.zero_add] at g5
        exact ⟨_, g5, pair_turn st hT eH (.int _) g4⟩
end Ev

/-! The evaluator, part F: targets, comprehensions. -/
namespace Ev
open PySem PySem.Spec PyProof.Rows L2

/-! ### targets: gg stores into the slots at sl -/
abbrev Gt := RV → Env' → Option Env'
def TGr (X : Cx) (sl : List Nat) (gg : Gt) : TG := fun v σ H Q => ∃ (ρ : Env') (R m : List Addr) (S : Sto) (r : RV) (ρ' : Env'), RepE X.K H R m ρ σ ∧ Sim X.prog X.w X.K H R m S ∧ RepV X.K H R m r v ∧ gg r ρ = some ρ' ∧
  ∀ σ', RepE X.K H R m ρ' σ' → (∀ vs : List Nat, (∀ i ∈ sl, i ∈ vs) → wipe σ' vs = wipe σ vs) → Q σ' H
def TGrs (X : Cx) (sl : List Nat) (gg : List D → Env' → Option Env') : TGs := fun us σ H Q => ∃ (ρ : Env') (R m : List Addr) (S : Sto) (ds : List D) (ρ' : Env'), RepE X.K H R m ρ σ ∧ Sim X.prog X.w X.K H R m S ∧ Reps X.K H R ds us ∧ gg ds ρ = some ρ' ∧
  ∀ σ', RepE X.K H R m ρ' σ' → (∀ vs : List Nat, (∀ i ∈ sl, i ∈ vs) → wipe σ' vs = wipe σ vs) → Q σ' H
theorem wipe_set {σ : L2.St} {i : Nat} {o : Option V} : ∀ {vs : List Nat}, i ∈ vs → wipe (σ.set i o) vs = wipe σ vs
  | v :: vs, h => by
    show (wipe (σ.set i o) vs).set v none = (wipe σ vs).set v none
    by_cases q : v = i
    · subst q
      by_cases hv : v ∈ vs
      · rw [wipe_set hv]
      · have e : ∀ {vs : List Nat}, v ∉ vs → wipe (σ.set v o) vs = (wipe σ vs).set v o := by
          intro vs
          induction vs with
          | nil => intro _; rfl
          | cons u us ih =>
            intro hn
            show (wipe (σ.set v o) us).set u none = ((wipe σ us).set u none).set v o
            rw [ih (fun z => hn (List.mem_cons_of_mem _ z)), List.set_comm _ _ (fun z => hn (by rw [z]; exact List.mem_cons_self))]
        rw [e hv, List.set_set]
    · rw [wipe_set ((List.mem_cons.mp h).resolve_left (Ne.symm q))]
theorem wipe_none {σ : L2.St} {i : Nat} : ∀ {vs : List Nat}, i ∈ vs → (wipe σ vs).set i none = wipe σ vs
  | v :: vs, h => by
    show ((wipe σ vs).set v none).set i none = (wipe σ vs).set v none
    by_cases q : i = v
    · subst q; rw [List.set_set]
    · rw [List.set_comm _ _ (Ne.symm q), wipe_none ((List.mem_cons.mp h).resolve_left q)]
theorem wipe_idem {σ : L2.St} {ws : List Nat} : ∀ {vs : List Nat}, (∀ i ∈ vs, i ∈ ws) → wipe (wipe σ ws) vs = wipe σ ws
  | [], _ => rfl
  | v :: vs, h => by
    show (wipe (wipe σ ws) vs).set v none = _
    rw [wipe_idem fun i hi => h i (List.mem_cons_of_mem _ hi), wipe_none (h v List.mem_cons_self)]
theorem pg_weak {X : Cx} {e : Expr} {t t' : TG} (h : PG X e t) (w : ∀ v σ H Q, t' v σ H Q → t v σ H Q) : PG X e t' := ⟨fun pins s σ H v u Q I r q => h.run pins s σ H v u Q I r (w _ _ _ _ q)⟩
theorem pgs_weak {X : Cx} {e : List Expr} {t t' : TGs} (h : PGs X e t) (w : ∀ v σ H Q, t' v σ H Q → t v σ H Q) : PGs X e t' := ⟨fun pins s σ H v u Q I r q => h.run pins s σ H v u Q I r (w _ _ _ _ q)⟩
theorem pg_or {X : Cx} {e : Expr} {t t' : TG} (h : PG X e t) (h' : PG X e t') : PG X e (fun v σ H Q => t v σ H Q ∨ t' v σ H Q) := ⟨fun pins s σ H v u Q I r q => q.elim (h.run pins s σ H v u Q I r) (h'.run pins s σ H v u Q I r)⟩
def gN (i : Nat) : Gt := fun r ρ => some (ρ.set i (some r))
section
variable {X : Cx} {pos : Pos}
theorem g_name {i : Nat} {x : Str} (hN : X.N.Nodup) (hi : X.N[i]? = some x) (hx : Loc X.env.scope x) (hf : X.fn x = true ∨ X.env.scope.names.lookup x = some .local) : PG X (.Name x pos) (TGr X [i] (gN i)) :=
  pg_weak (pg_name hN hi hx hf) fun v σ H Q ⟨ρ, R, m, S, r, ρ', hE, hS, hr, e, k⟩ => by
    cases e
    exact k _ (hE.set i hr) fun vs h => wipe_set (h i List.mem_cons_self)
def gsNil : List D → Env' → Option Env' := fun ds ρ => match ds with
  | [] => some ρ
  | _ => none
def gsCons (gg : Gt) (gs : List D → Env' → Option Env') : List D → Env' → Option Env' := fun ds ρ => match ds with
  | d :: r => (gg (.d d) ρ).bind fun ρ1 => gs r ρ1
  | [] => none
theorem gs_nil : PGs X [] (TGrs X [] gsNil) := pgs_weak pgs_nil fun v σ H Q ⟨ρ, R, m, S, ds, ρ', hE, hS, hr, e, k⟩ => by
  unfold gsNil at e
  split at e
  · cases e
    cases hr
    exact ⟨rfl, k _ hE fun _ _ => rfl⟩
  · cases e
theorem gs_cons {e : Expr} {es : List Expr} {gg : Gt} {gs : List D → Env' → Option Env'} {sl sl' : List Nat} (h1 : PG X e (TGr X sl gg)) (h2 : PGs X es (TGrs X sl' gs)) (hs : (assignEach (e :: es) X.env).map (·.2) = assign e X.env :: (assignEach es X.env).map (·.2)) :
    PGs X (e :: es) (TGrs X (sl ++ sl') (gsCons gg gs)) := pgs_weak (pgs_cons h1 h2 hs) fun v σ H Q ⟨ρ, R, m, S, ds, ρ', hE, hS, hr, e, k⟩ => by
  unfold gsCons at e
  split at e
  · obtain ⟨ρ1, e1, e2⟩ := bind_some e
    cases hr with
    | cons h t =>
      refine ⟨_, _, rfl, ρ, R, m, S, .d _, ρ1, hE, hS, h, e1, fun σ1 hE1 w1 => ?_⟩
      refine ⟨ρ1, R, m, S, _, ρ', hE1, hS, t, e2, fun σ2 hE2 w2 => ?_⟩
      exact k _ hE2 fun vs hv => (w2 vs fun i hi => hv i (List.mem_append_right _ hi)).trans (w1 vs fun i hi => hv i (List.mem_append_left _ hi))
  · cases e
/-- a tuple, or a list that none owns, unpacked -/
def gTp (n : Nat) (gs : List D → Env' → Option Env') : Gt := fun r ρ => match r with
  | .d (.tup ds) => if ds.length = n then gs ds ρ else none
  | .d (.lst ds) => if ds.length = n then gs ds ρ else none
  | _ => none
theorem g_tup {es : List Expr} {k n : Nat} {gs : List D → Env' → Option Env'} {sl : List Nat} (hc : X.calm = true) (h : PGs X es (TGrs X sl gs)) (hn : (assignEach es X.env).length = n) (hst : (assignEach es X.env).findIdx? (·.1) = none) :
    PG X (.Tuple es k pos) (TGr X sl (gTp n gs)) := pg_weak (pg_or (pg_tup hc h hn hst) (pg_unl hc h hn hst)) fun v σ H Q ⟨ρ, R, m, S, r, ρ', hE, hS, hr, e, k⟩ => by
  unfold gTp at e
  split at e
  · split at e
    · rename_i hl
      left
      obtain ⟨a, vs, rfl, h1, h2⟩ := Rep.isT hr
      exact ⟨a, vs, rfl, h1, by rw [← h2.length]; exact hl, ρ, R, m, S, _, ρ', hE, hS, h2, e, k⟩
    · cases e
  · split at e
    · rename_i hl
      right
      obtain ⟨a, vs, rfl, h1, h2⟩ := Rep.isL hr
      exact ⟨a, vs, rfl, h1, by rw [← h2.length]; exact hl, ρ, R, m, S, _, ρ', hE, hS, h2, e, k⟩
    · cases e
  · cases e
end

/-! ### a thing set apart: neither owned nor referred to -/
theorem Ext.res {H : Hp} {R m : List Addr} {p : Addr} {o : HO} (n : H p = none) : Ext H R m (upd H p o) (p :: R) m where
  pre := ⟨[], by simp⟩
  sub := fun _ h => List.mem_cons_of_mem _ h
  fresh := fun a h => (List.mem_cons.mp h).elim (fun z => .inr (by rw [z]; exact n)) .inl
  freshM := fun _ h => .inl h
  keep := fun a o _ h => by rw [upd_ne (ne_of_none h n)]; exact h
  live := fun a h => by
    by_cases q : a = p
    · subst q; exact absurd n h
    · rw [upd_ne q]; exact h
section
variable {P : Program} {w : World} {K : PySem.W.Frag} {H H' : Hp} {R R' m m' : List Addr} {S S' : Sto} {p : Addr} {o : HO}
theorem Sim.res (s : Sim P w K H R m S) (n : H p = none) : Sim P w K (upd H p o) (p :: R) m S where
  nd := s.nd
  sub := fun a h => List.mem_cons_of_mem _ (s.sub a h)
  live := fun a h => by
    by_cases q : a = p
    · subst q; rw [upd_same]; intro z; cases z
    · rw [upd_ne q]; exact s.live a ((List.mem_cons.mp h).resolve_left q)
  len := s.len
  at_ := fun i a ob h1 h2 => RepO.ext (Ext.res n) s.sub (s.at_ i a ob h1 h2) (upd_ne fun z => s.live a (s.sub a (List.mem_of_getElem? h1)) (by rw [z]; exact n))
def er (H : Hp) (p : Addr) : Hp := fun b => if b = p then none else H b
theorem er_ne {b : Addr} (h : b ≠ p) : er H p b = H b := if_neg h
theorem er_same : er H p p = none := if_pos rfl
theorem er_upd (h : H p = some o) : upd (er H p) p o = H := by
  funext b
  by_cases q : b = p
  · subst q; rw [upd_same, h]
  · rw [upd_ne q, er_ne q]
theorem Rep.er (hp : p ∈ R) {d : D} {v : V} (r : Rep K H R d v) : Rep K (er H p) (R.filter (· ≠ p)) d v :=
  Rep.mono (fun a o n e => by rw [er_ne (fun z => n (by rw [z]; exact hp))]; exact e) (fun a h => .inl (List.mem_filter.mp h).1) r
theorem Reps.er (hp : p ∈ R) {d : List D} {v : List V} (r : Reps K H R d v) : Reps K (er H p) (R.filter (· ≠ p)) d v :=
  Reps.mono (fun a o n e => by rw [er_ne (fun z => n (by rw [z]; exact hp))]; exact e) (fun a h => .inl (List.mem_filter.mp h).1) r
theorem RepV.er (hp : p ∈ R) {d : RV} {v : V} (r : RepV K H R m d v) : RepV K (er H p) (R.filter (· ≠ p)) m d v := by
  cases d with
  | d x => exact Rep.er hp r
  | o n => exact r
  | t n => exact r
/-- .. given up again -/
theorem unres (n : H p = none) (hm : p ∉ m) (s : Sim P w K H R m S) (x : Ext (upd H p o) (p :: R) m H' R' m') (s' : Sim P w K H' R' m' S') :
    Ext H R m (er H' p) (R'.filter (· ≠ p)) m' ∧ Sim P w K (er H' p) (R'.filter (· ≠ p)) m' S' ∧ p ∈ R' ∧ p ∉ m' := by
  have hp : p ∈ R' := x.sub p List.mem_cons_self
  have hm' : p ∉ m' := fun h => (x.freshM p h).elim hm (fun z => by rw [upd_same] at z; cases z)
  have ne : ∀ a, H a ≠ none → a ≠ p := fun a h z => h (by rw [z]; exact n)
  refine ⟨⟨x.pre, fun a h => ?_, fun a h => ?_, fun a h => ?_, fun a o h e => ?_, fun a h => ?_⟩, ⟨s'.nd, fun a h => ?_, fun a h => ?_, s'.len, fun i a ob h1 h2 => ?_⟩, hp, hm'⟩
  · exact List.mem_filter.mpr ⟨x.sub a (List.mem_cons_of_mem _ h), decide_eq_true (ne a (s.live a h))⟩
  · obtain ⟨h1, h2⟩ := List.mem_filter.mp h
    have h2 := of_decide_eq_true h2
    rcases x.fresh a h1 with z | z
    · exact .inl ((List.mem_cons.mp z).resolve_left h2)
    · rw [upd_ne h2] at z; exact .inr z
  · rcases x.freshM a h with z | z
    · exact .inl z
    · have q : a ≠ p := fun q => by rw [q, upd_same] at z; cases z
      rw [upd_ne q] at z
      exact .inr z
  · have q := ne a (by rw [e]; intro z; cases z)
    rw [er_ne q]
    exact x.keep a o h (by rw [upd_ne q]; exact e)
  · have q := ne a h
    rw [er_ne q]
    exact x.live a (by rw [upd_ne q]; exact h)
  · exact List.mem_filter.mpr ⟨s'.sub a h, decide_eq_true fun z => hm' (by rw [← z]; exact h)⟩
  · obtain ⟨h1, h2⟩ := List.mem_filter.mp h
    rw [er_ne (of_decide_eq_true h2)]
    exact s'.live a h1
  · have q : a ≠ p := fun z => hm' (by rw [← z]; exact List.mem_of_getElem? h1)
    have r := s'.at_ i a ob h1 h2
    cases ob with
    | lst ds =>
      obtain ⟨vs, g1, g2⟩ := r
      exact ⟨vs, (er_ne q).trans g1, g2.er hp⟩
    | dct kvs =>
      obtain ⟨vs, g1, g2⟩ := r
      exact ⟨vs, (er_ne q).trans g1, Paired.mapP g2 fun _ _ z => ⟨z.1, z.2.er hp⟩⟩
    | dcx kvs =>
      obtain ⟨vs, g1, g2⟩ := r
      exact ⟨vs, (er_ne q).trans g1, Paired.mapP g2 fun _ _ ⟨z1, z2, z3, v, z4, z5⟩ => ⟨z1, z2.er hp, z3, v, z4, z5.er hp⟩⟩
    | ins c fs =>
      obtain ⟨dx, vfs, g1, g2, g3⟩ := r
      exact ⟨dx, vfs, (er_ne q).trans g1, Paired.mapP g2 fun _ _ z => ⟨z.1, RepV.er hp z.2⟩, g3⟩
end

/-! ### comprehensions -/
def wipeE (ρ : Env') : List Nat → Env'
  | [] => ρ
  | v :: vs => (wipeE ρ vs).set v none
theorem RepE.none_ {K : PySem.W.Frag} {H : Hp} {R m : List Addr} {ρ : Env'} {σ : List (Option V)} (r : RepE K H R m ρ σ) (i : Nat) : RepE K H R m (ρ.set i none) (σ.set i none) := by
  refine ⟨by rw [List.length_set, List.length_set, r.len], fun j y e => ?_⟩
  by_cases q : j = i
  · subst q
    have hj : j < ρ.length := by
      have := (List.getElem?_eq_some_iff.mp e).1
      rwa [List.length_set] at this
    rw [List.getElem?_set_self hj] at e
    cases e
  · rw [List.getElem?_set_ne (Ne.symm q)] at e
    obtain ⟨u, h1, h2⟩ := r.at_ j y e
    exact ⟨u, by rw [List.getElem?_set_ne (Ne.symm q)]; exact h1, h2⟩
theorem RepE.wipe {K : PySem.W.Frag} {H : Hp} {R m : List Addr} {ρ : Env'} {σ : List (Option V)} (r : RepE K H R m ρ σ) : ∀ vs : List Nat, RepE K H R m (wipeE ρ vs) (L2.wipe σ vs)
  | [] => r
  | v :: vs => (r.wipe vs).none_ v
def fTrue : Fe Bool := fun _ S => some (true, S)
/-- the turns -/
def lcGo (s : Src) (gg : Gt) (t : Fe Bool) (f : Fe RV) (ρ : Env') : List D → Sto → Option (List D × Sto)
  | [], S => if s.ok S = true then some ([], S) else none
  | d :: ds, S => if s.ok S = true then (gg (.d d) ρ).bind fun ρ1 => (t ρ1 S).bind fun b => if b.1 = true then (f ρ1 b.2).bind fun y => match y.1 with
      | .d v => (lcGo s gg t f ρ ds y.2).bind fun r => some (v :: r.1, r.2)
      | _ => none
    else lcGo s gg t f ρ ds b.2 else none
def lLc (src : Fe Src) (gg : Gt) (t : Fe Bool) (f : Fe RV) (vs : List Nat) : Fe (List D) := fun ρ S => (src ρ S).bind fun p => if p.1.ds.length ≤ Lim then lcGo p.1 gg t f (wipeE ρ vs) p.1.ds p.2 else none
theorem lcGo_len {s : Src} {gg : Gt} {t : Fe Bool} {f : Fe RV} {ρ : Env'} : ∀ {ds : List D} {S S' : Sto} {r : List D}, lcGo s gg t f ρ ds S = some (r, S') → r.length ≤ ds.length
  | [], S, S', r, h => by
    unfold lcGo at h
    split at h
    · cases h; exact Nat.le_refl _
    · cases h
  | d :: ds, S, S', r, h => by
    unfold lcGo at h
    split at h
    · obtain ⟨ρ1, e1, h⟩ := bind_some h
      obtain ⟨b, e2, h⟩ := bind_some h
      split at h
      · obtain ⟨y, e3, h⟩ := bind_some h
        split at h
        · obtain ⟨z, e4, h⟩ := bind_some h
          cases h
          exact Nat.succ_le_succ (lcGo_len (S' := z.2) (r := z.1) e4)
        · cases h
      · exact Nat.le_succ_of_le (lcGo_len h)
    · cases h
section
variable {X : Cx}
/-- the reading of a comprehension -/
theorem tl_lc {src : Fe Src} {gg : Gt} {sl vs : List Nat} {t : Fe Bool} {f : Fe RV} (hsl : ∀ i ∈ sl, i ∈ vs) {σ : L2.St} {H : Hp} {Q : VK} (q : TL X (lLc src gg t f vs) σ H Q) : tLc (TIs X src) (TGr X sl gg) (TB X t) (TV X f) vs σ H Q := by
  obtain ⟨ρ, R, m, S, res, S', hE, hS, e, k⟩ := q
  obtain ⟨⟨s, S1⟩, e1, e2⟩ := bind_some e
  split at e2
  · rename_i hlim
    refine ⟨ρ, R, m, S, s, S1, hE, hS, e1, fun J H1 R1 m1 x1 s1 wk => ?_⟩
    obtain ⟨G, Y, wJ, hG, hY⟩ := wk
    intro D hD
    have hDm1 : D ∉ m1 := fun z => s1.live D (s1.sub D z) hD
    -- the invariant, on the heap without the new list
    refine lc_it wJ (fun i Hc => ∃ (H2 : Hp) (R2 m2 : List Addr) (S2 : Sto) (acc : List Ev.D) (us : List V) (r : List Ev.D), H2 D = none ∧ D ∉ m2 ∧ Hc = upd H2 D (.lst us) ∧ Ext H1 R1 m1 H2 R2 m2 ∧ Sim X.prog X.w X.K H2 R2 m2 S2 ∧
      Reps X.K H2 R2 acc us ∧ acc.length ≤ i ∧ lcGo s gg t f (wipeE ρ vs) (s.ds.drop i) S2 = some (r, S') ∧ res = acc ++ r) ?_ ?_ ?_ ?_
    · exact ⟨H1, R1, m1, S1, [], [], res, hD, hDm1, rfl, .refl, s1, .nil, Nat.le_refl _, e2, rfl⟩
    · rintro i Hc hi ⟨H2, R2, m2, S2, acc, us, r, hn, hm, rfl, x2, s2, ra, hl, eg, eres⟩
      have ok : s.ok S2 = true := by
        cases hd : s.ds.drop i with
        | nil => rw [hd] at eg; unfold lcGo at eg; split at eg; assumption; cases eg
        | cons d ds => rw [hd] at eg; unfold lcGo at eg; split at eg; assumption; cases eg
      exact hG _ _ _ _ (x2.trans (.res hn)) (s2.res hn) ok
    · rintro i x Hc H' hi ⟨H2, R2, m2, S2, acc, us, r, hn, hm, rfl, x2, s2, ra, hl, eg, eres⟩ y
      have hdrop : s.ds.drop i = s.ds[i] :: s.ds.drop (i + 1) := List.drop_eq_getElem_cons hi
      rw [hdrop] at eg
      unfold lcGo at eg
      split at eg
      · rename_i ok
        obtain ⟨ρ1, e3, eg⟩ := bind_some eg
        obtain ⟨⟨b, S3⟩, e4, eg⟩ := bind_some eg
        obtain ⟨d, g1, x3, s3, rd⟩ := hY i _ _ _ _ x H' hi (x2.trans (.res hn)) (s2.res hn) ok y
        have hd : d = s.ds[i] := by
          rw [List.getElem?_eq_getElem hi] at g1
          exact (Option.some.inj g1).symm
        subst hd
        have xall := (x2.trans (.res hn)).trans x3
        have hE' : RepE X.K H' (D :: R2) m2 (wipeE ρ vs) (wipe σ vs) := ((hE.ext x1 hS.sub).ext xall s1.sub).wipe vs
        refine ⟨wipeE ρ vs, D :: R2, m2, S2, .d s.ds[i], ρ1, hE', s3, rd, e3, fun σ2 hE2 hw => ⟨(hw vs hsl).trans (wipe_idem fun _ h => h), ?_⟩⟩
        refine ⟨ρ1, D :: R2, m2, S2, b, S3, hE2, s3, e4, fun H3 R3 m3 x4 s4 => ?_⟩
        cases b with
        | false =>
          rw [if_neg Bool.false_ne_true]
          simp only [Bool.false_eq_true, if_false] at eg
          obtain ⟨x5, s5, hp5, hm5⟩ := unres hn hm s2 (x3.trans x4) s4
          have r5 : Reps X.K (er H3 D) (R3.filter (· ≠ D)) acc us := by
            have := Reps.ext ((Ext.res (o := .lst us) hn).trans (x3.trans x4)) s2.sub ra
            exact this.er hp5
          refine ⟨er H3 D, _, m3, S3, acc, us, r, er_same, hm5, ?_, x2.trans x5, s5, r5, Nat.le_succ_of_le hl, eg, eres⟩
          rw [er_upd]
          exact x4.keep D _ hm (x3.keep D _ hm upd_same)
        | true =>
          rw [if_pos rfl]
          simp only [if_true] at eg
          obtain ⟨⟨yv, S4⟩, e5, eg⟩ := bind_some eg
          simp only at eg
          split at eg
          · rename_i v
            obtain ⟨⟨r', S5⟩, e6, eg⟩ := bind_some eg
            cases eg
            refine ⟨ρ1, R3, m3, S3, .d v, S4, hE2.ext x4 s3.sub, s4, e5, fun yy H4 R4 m4 x5 s5 ry => ?_⟩
            have hm3 : D ∉ m3 := fun z => (x4.freshM D z).elim hm fun q => by
              rw [x3.keep D _ hm upd_same] at q; cases q
            have hk : H4 D = some (.lst us) := x5.keep D _ hm3 (x4.keep D _ hm (x3.keep D _ hm upd_same))
            have xx := (x3.trans x4).trans x5
            obtain ⟨x6, s6, hp6, hm6⟩ := unres hn hm s2 xx s5
            have r6 : Reps X.K (Ev.er H4 D) (R4.filter (· ≠ D)) acc us := (Reps.ext ((Ext.res (o := .lst us) hn).trans xx) s2.sub ra).er hp6
            have hlen : us.length < sizeLine := by
              have h1 := ra.length
              have h2 : i < Lim := Nat.lt_of_lt_of_le hi hlim
              rw [lim_eq]
              omega
            refine ⟨us, hk, hlen, Ev.er H4 D, _, m4, S4, acc ++ [v], us ++ [yy], r', er_same, hm6, ?_, x2.trans x6, s6, r6.append (.cons (Rep.er hp6 ry) .nil), ?_, e6, ?_⟩
            · funext b
              by_cases q : b = D
              · subst q; rw [upd_same, upd_same]
              · rw [upd_ne q, upd_ne q, er_ne q]
            · rw [List.length_append, List.length_singleton]; omega
            · rw [eres, List.append_assoc]; rfl
          · cases eg
      · cases eg
    · rintro Hc ⟨H2, R2, m2, S2, acc, us, r, hn, hm, rfl, x2, s2, ra, hl, eg, eres⟩
      rw [List.drop_length] at eg
      unfold lcGo at eg
      split at eg
      · cases eg
        rw [List.append_nil] at eres
        subst eres
        exact k _ _ _ _ _ (x1.trans x2) s2 hn ra (Nat.le_trans hl hlim)
      · cases eg
  · cases e2
theorem ts_nil : PTs X [] (TB X fTrue) := ⟨fun pins s σ H Q I q => pts_nil.run pins s σ H Q I (by
  obtain ⟨ρ, R, m, S, res, S', hE, hS, e, k⟩ := q
  cases e
  exact k _ _ _ .refl hS)⟩
theorem ts_one {c : Expr} {t : Fe Bool} (h : PT X c (TB X t)) : PTs X [c] (TB X t) := pts_one h
theorem e_lc {elt tg iter : Expr} {ifs : List Expr} {scope : Scope} {own : List (Str × Nat)} {pos : Pos} {src : Fe Src} {gg : Gt} {sl : List Nat} {t : Fe Bool} {f : Fe RV} (hc : X.calm = true) (hN : X.N.Nodup) (hi : PI X tg iter (TIs X src)) (ok : BlkOk X.N X.env.scope scope own) (hsl : ∀ i ∈ sl, i ∈ own.map (·.2))
    (hg : ∀ (s : Shared) (H : Hp) (C : Addr) (cl : List (Str × Addr)) (fp : List Addr), PG (X.blk s H scope (compEnvC scope cl C X.env) fp) tg (TGr X sl gg)) (ht : ∀ (s : Shared) (H : Hp) (C : Addr) (cl : List (Str × Addr)) (fp : List Addr), PTs (X.blk s H scope (compEnvC scope cl C X.env) fp) ifs (TB X t))
    (he : ∀ (s : Shared) (H : Hp) (C : Addr) (cl : List (Str × Addr)) (fp : List Addr), PE (X.blk s H scope (compEnvC scope cl C X.env) fp) elt (TV X f)) (hs : ∀ x, foldedSetIterable iter X.env x = pure x) :
    PE X (.ListComp elt [⟨tg, iter, ifs, 0⟩] scope pos) (TL X (lLc src gg t f (own.map (·.2)))) := pe_weak (pe_lc hc hN hi ok hg ht he hs) fun σ H Q q => tl_lc hsl q
end
end Ev

/-! The evaluator, part G: statements, loops. -/
namespace Ev
open PySem PySem.Spec PyProof.Rows L2

inductive Fl where
  | nx | rt (r : RV) | bk | ct
abbrev Fs := Env' → Sto → Option (Fl × Env' × Sto)
def EndOK (X : Cx) (D : Ends) (fl : Fl) (ρ' : Env') (S' : Sto) (H : Hp) (R m : List Addr) : Prop := ∀ σ' H' R' m', Ext H R m H' R' m' → Sim X.prog X.w X.K H' R' m' S' → RepE X.K H' R' m' ρ' σ' → match fl with
  | .nx => D.nx σ' H'
  | .rt r => ∀ v, RepV X.K H' R' m' r v → D.rt v H'
  | .bk => D.bk σ' H'
  | .ct => D.ct σ' H'
def TSf (X : Cx) (f : Fs) : TS := fun D σ H => ∃ (ρ : Env') (R m : List Addr) (S : Sto) (fl : Fl) (ρ' : Env') (S' : Sto), RepE X.K H R m ρ σ ∧ Sim X.prog X.w X.K H R m S ∧ f ρ S = some (fl, ρ', S') ∧ EndOK X D fl ρ' S' H R m
theorem EndOK.ext {X : Cx} {D : Ends} {fl : Fl} {ρ' : Env'} {S' : Sto} {H H' : Hp} {R m R' m' : List Addr} (k : EndOK X D fl ρ' S' H R m) (x : Ext H R m H' R' m') : EndOK X D fl ρ' S' H' R' m' :=
  fun σ2 H2 R2 m2 x2 s2 e2 => k σ2 H2 R2 m2 (x.trans x2) s2 e2

section
variable {X : Cx} {pos : Pos} {st : Stmt} {rest : List Stmt} {e : Expr} {f g : Fe RV} {F G : Fs}
def sNil : Fs := fun ρ S => some (.nx, ρ, S)
def sSeq2 (F G : Fs) : Fs := fun ρ S => (F ρ S).bind fun z => match z.1 with
  | .nx => G z.2.1 z.2.2
  | _ => some z
theorem ss_nil : PSs X [] (TSf X sNil) := pss_weak pss_nil fun D σ H ⟨ρ, R, m, S, fl, ρ', S', hE, hS, e, k⟩ => by
  cases e
  exact k _ _ _ _ .refl hS hE
theorem ss_cons (h1 : PS X st (TSf X F)) (h2 : PSs X rest (TSf X G)) : PSs X (st :: rest) (TSf X (sSeq2 F G)) := pss_weak (pss_cons h1 h2) fun D σ H ⟨ρ, R, m, S, fl, ρ', S', hE, hS, e, k⟩ => by
  obtain ⟨⟨fl1, ρ1, S1⟩, e1, e2⟩ := bind_some e
  refine ⟨ρ, R, m, S, fl1, ρ1, S1, hE, hS, e1, fun σ1 H1 R1 m1 x1 s1 E1 => ?_⟩
  cases fl1 with
  | nx => exact ⟨ρ1, R1, m1, S1, fl, ρ', S', E1, s1, e2, k.ext x1⟩
  | rt r => cases e2; exact k σ1 H1 R1 m1 x1 s1 E1
  | bk => cases e2; exact k σ1 H1 R1 m1 x1 s1 E1
  | ct => cases e2; exact k σ1 H1 R1 m1 x1 s1 E1
def sPass : Fs := fun ρ S => some (.nx, ρ, S)
def sBreak : Fs := fun ρ S => some (.bk, ρ, S)
def sCont : Fs := fun ρ S => some (.ct, ρ, S)
theorem s_pass : PS X (.Pass pos) (TSf X sPass) := ps_weak ps_pass fun D σ H ⟨ρ, R, m, S, fl, ρ', S', hE, hS, e, k⟩ => by
  cases e
  exact k _ _ _ _ .refl hS hE
theorem s_break : PS X (.Break pos) (TSf X sBreak) := ps_weak ps_break fun D σ H ⟨ρ, R, m, S, fl, ρ', S', hE, hS, e, k⟩ => by
  cases e
  exact k _ _ _ _ .refl hS hE
theorem s_cont : PS X (.Continue pos) (TSf X sCont) := ps_weak ps_continue fun D σ H ⟨ρ, R, m, S, fl, ρ', S', hE, hS, e, k⟩ => by
  cases e
  exact k _ _ _ _ .refl hS hE
/-- never come to -/
def sNo : Fs := fun _ _ => none
theorem s_no : PS X st (TSf X sNo) := ps_weak ps_never fun D σ H ⟨ρ, R, m, S, fl, ρ', S', hE, hS, e, k⟩ => by cases e
def sRet (f : Fe RV) : Fs := fun ρ S => (f ρ S).bind fun p => some (.rt p.1, ρ, p.2)
theorem s_ret (he : PE X e (TV X f)) : PS X (.Return (some e) pos) (TSf X (sRet f)) := ps_weak (ps_ret he) fun D σ H ⟨ρ, R, m, S, fl, ρ', S', hE, hS, e, k⟩ => by
  obtain ⟨⟨x, S1⟩, e1, e2⟩ := bind_some e
  cases e2
  refine ⟨ρ, R, m, S, x, S1, hE, hS, e1, fun v H1 R1 m1 x1 s1 r1 => ?_⟩
  exact k σ H1 R1 m1 x1 s1 (hE.ext x1 hS.sub) v r1
def sRetN : Fs := fun ρ S => some (.rt (.d .non), ρ, S)
theorem s_retN : PS X (.Return none pos) (TSf X sRetN) := ps_weak ps_retN fun D σ H ⟨ρ, R, m, S, fl, ρ', S', hE, hS, e, k⟩ => by
  cases e
  exact k _ _ _ _ .refl hS hE _ .non
def sExpr (f : Fe RV) : Fs := fun ρ S => (f ρ S).bind fun p => some (.nx, ρ, p.2)
theorem s_expr (he : PE X e (TV X f)) (hs : swapsWith e none pos.line X.env = pure false) : PS X (.Expr e pos) (TSf X (sExpr f)) := ps_weak (ps_expr he hs) fun D σ H ⟨ρ, R, m, S, fl, ρ', S', hE, hS, e, k⟩ => by
  obtain ⟨⟨x, S1⟩, e1, e2⟩ := bind_some e
  cases e2
  exact ⟨ρ, R, m, S, x, S1, hE, hS, e1, fun v H1 R1 m1 x1 s1 r1 => k σ H1 R1 m1 x1 s1 (hE.ext x1 hS.sub)⟩
def sIf (t : Fe Bool) (F G : Fs) : Fs := fun ρ S => (t ρ S).bind fun p => if p.1 = true then F ρ p.2 else G ρ p.2
theorem s_if {c : Expr} {a b : List Stmt} {t : Fe Bool} (hc : PT X c (TB X t)) (ha : PSs X a (TSf X F)) (hb : PSs X b (TSf X G)) : PS X (.If c a b pos) (TSf X (sIf t F G)) := ps_weak (ps_if hc ha hb) fun D σ H ⟨ρ, R, m, S, fl, ρ', S', hE, hS, e, k⟩ => by
  obtain ⟨⟨x, S1⟩, e1, e2⟩ := bind_some e
  refine ⟨ρ, R, m, S, x, S1, hE, hS, e1, fun H1 R1 m1 x1 s1 => ?_⟩
  cases x with
  | true =>
    rw [if_pos rfl]
    exact ⟨ρ, R1, m1, S1, fl, ρ', S', hE.ext x1 hS.sub, s1, e2, k.ext x1⟩
  | false =>
    rw [if_neg Bool.false_ne_true]
    exact ⟨ρ, R1, m1, S1, fl, ρ', S', hE.ext x1 hS.sub, s1, e2, k.ext x1⟩
/-- target = value -/
def sAsg (f : Fe RV) (gg : Gt) : Fs := fun ρ S => (f ρ S).bind fun p => (gg p.1 ρ).bind fun ρ1 => some (.nx, ρ1, p.2)
theorem asg_w {te : TE} {sl : List Nat} {gg : Gt} (hte : ∀ σ H Q, TV X f σ H Q → te σ H Q) : ∀ D σ H, TSf X (sAsg f gg) D σ H → tAsg te (TGr X sl gg) D σ H := fun D σ H ⟨ρ, R, m, S, fl, ρ', S', hE, hS, e, k⟩ => by
  obtain ⟨⟨x, S1⟩, e1, e2⟩ := bind_some e
  obtain ⟨ρ1, e3, e4⟩ := bind_some e2
  cases e4
  refine hte _ _ _ ⟨ρ, R, m, S, x, S1, hE, hS, e1, fun v H1 R1 m1 x1 s1 r1 => ?_⟩
  exact ⟨ρ, R1, m1, _, x, _, hE.ext x1 hS.sub, s1, r1, e3, fun σ' hE' _ => k σ' H1 R1 m1 x1 s1 hE'⟩
theorem s_asg {tg : Expr} {sl : List Nat} {gg : Gt} (he : PE X e (TV X f)) (hg : PG X tg (TGr X sl gg)) (hs : swapsWithSole [tg] e pos.line X.env = pure false) (hw : swappedStores [tg] e X.env = pure none) (h1 : (assignEach [tg] X.env).map (·.2) = [assign tg X.env]) :
    PS X (.Assign [tg] e pos) (TSf X (sAsg f gg)) := ps_weak (ps_asg he hg hs hw h1) (asg_w fun _ _ _ h => h)
theorem s_set {i : Nat} {x : Str} {pos' : Pos} (hN : X.N.Nodup) (hi : X.N[i]? = some x) (hx : Loc X.env.scope x) (he : PE X e (TV X f)) (hs : swapsWith e (some (.Name x pos')) pos.line X.env = pure false) (hf : X.fn x = true ∨ X.env.scope.names.lookup x = some .local) :
    PS X (.Assign [.Name x pos'] e pos) (TSf X (sAsg f (gN i))) := ps_weak (ps_set hN hi hx he hs hf) fun D σ H ⟨ρ, R, m, S, fl, ρ', S', hE, hS, e, k⟩ => by
  obtain ⟨⟨x, S1⟩, e1, e2⟩ := bind_some e
  cases e2
  refine ⟨ρ, R, m, S, x, S1, hE, hS, e1, fun v H1 R1 m1 x1 s1 r1 => ?_⟩
  exact k _ H1 R1 m1 x1 s1 ((hE.ext x1 hS.sub).set i r1)
/-- name = [..] with the comprehension's own way to store -/
theorem s_setLc {i : Nat} {y : Str} {py : Pos} {elt tg iter : Expr} {ifs : List Expr} {scope : Scope} {own : List (Str × Nat)} {spos : Pos} {src : Fe Src} {gg : Gt} {sl : List Nat} {t : Fe Bool} (hc : X.calm = true) (hN : X.N.Nodup) (hy : X.N[i]? = some y) (hyl : X.env.scope.names.lookup y = some .local)
    (hsw : swapsWith (.ListComp elt [⟨tg, iter, ifs, 0⟩] scope pos) (some (.Name y py)) spos.line X.env = pure true) (hi : PI X tg iter (TIs X src)) (ok : BlkOk X.N X.env.scope scope own) (hsl : ∀ i ∈ sl, i ∈ own.map (·.2))
    (hg : ∀ (s : Shared) (H : Hp) (C : Addr) (cl : List (Str × Addr)) (fp : List Addr), PG (X.blk s H scope (compEnvC scope cl C X.env) fp) tg (TGr X sl gg)) (ht : ∀ (s : Shared) (H : Hp) (C : Addr) (cl : List (Str × Addr)) (fp : List Addr), PTs (X.blk s H scope (compEnvC scope cl C X.env) fp) ifs (TB X t))
    (he : ∀ (s : Shared) (H : Hp) (C : Addr) (cl : List (Str × Addr)) (fp : List Addr), PE (X.blk s H scope (compEnvC scope cl C X.env) fp) elt (TV X f)) (hs : ∀ x, foldedSetIterable iter X.env x = pure x) {h : Fe RV}
    (hh : ∀ σ H Q, TV X h σ H Q → TL X (lLc src gg t f (own.map (·.2))) σ H Q) :
    PS X (.Assign [.Name y py] (.ListComp elt [⟨tg, iter, ifs, 0⟩] scope pos) spos) (TSf X (sAsg h (gN i))) := ps_weak (ps_setLc hc hN hy hyl hsw hi ok hg ht he hs) fun D σ H ⟨ρ, R, m, S, fl, ρ', S', hE, hS, e, k⟩ => by
  obtain ⟨⟨x, S1⟩, e1, e2⟩ := bind_some e
  cases e2
  refine tl_lc hsl (hh _ _ _ ⟨ρ, R, m, S, x, S1, hE, hS, e1, fun v H1 R1 m1 x1 s1 r1 => ?_⟩)
  exact k _ H1 R1 m1 x1 s1 ((hE.ext x1 hS.sub).set i r1)
theorem tv_val {l : Fe (List D)} : ∀ σ H Q, TV X (eVal l) σ H Q → TL X l σ H Q := fun σ H Q q => by
  obtain ⟨ρ, R, m, S, r, S', hE, hS, e, k⟩ := q
  obtain ⟨ds, e1, e2⟩ := fMap_some e
  cases e2
  refine ⟨ρ, R, m, S, ds, S', hE, hS, e1, fun a vs H1 R1 m1 x1 s1 hn r1 hl => ?_⟩
  exact k _ _ _ _ (x1.trans (.new hn)) (s1.new hn) (.lst (.inl upd_same) (s1.notR hn) (r1.ext (.new hn) s1.sub))
theorem tv_obj {l : Fe (List D)} : ∀ σ H Q, TV X (eObj l) σ H Q → TL X l σ H Q := fun σ H Q q => by
  obtain ⟨ρ, R, m, S, r, S', hE, hS, e, k⟩ := q
  obtain ⟨⟨ds, S1⟩, e1, e2⟩ := bind_some e
  cases e2
  refine ⟨ρ, R, m, S, ds, S1, hE, hS, e1, fun a vs H1 R1 m1 x1 s1 hn r1 hl => ?_⟩
  refine k _ _ _ _ (x1.trans (.own hn)) (s1.own hn ⟨vs, upd_same, r1.ext (.own hn) s1.sub⟩) ⟨a, ?_, rfl⟩
  rw [← s1.len, List.getElem?_append_right (Nat.le_refl _), Nat.sub_self]
  rfl
/-- a, b = x, y with plain local names -/
def sPar (i j : Nat) (h : Fe (List RV)) : Fs := fun ρ S => (h ρ S).bind fun p => match p.1 with
  | [x, y] => some (.nx, (ρ.set i (some x)).set j (some y), p.2)
  | _ => none
theorem s_par {i j : Nat} {x y : Str} {a b : Expr} {px py pt : Pos} {kt k2 pt2} {h : Fe (List RV)} (hc : X.calm = true) (hN : X.N.Nodup) (hi : X.N[i]? = some x) (hj : X.N[j]? = some y) (hij : i ≠ j) (hx : X.env.scope.names.lookup x = some .local) (hy : X.env.scope.names.lookup y = some .local) (ha : PA X [a, b] (TAs X h))
    (hw : swappedStores [.Tuple [.Name x px, .Name y py] kt pt] (.Tuple [a, b] k2 pt2) X.env = pure (some [x, y])) (hs : swapsWithSole [.Tuple [.Name x px, .Name y py] kt pt] (.Tuple [a, b] k2 pt2) pos.line X.env = pure false) :
    PS X (.Assign [.Tuple [.Name x px, .Name y py] kt pt] (.Tuple [a, b] k2 pt2) pos) (TSf X (sPar i j h)) := ps_weak (ps_par hc hN hi hj hij hx hy ha hw hs) fun D σ H ⟨ρ, R, m, S, fl, ρ', S', hE, hS, e, k⟩ => by
  obtain ⟨⟨rs, S1⟩, e1, e2⟩ := bind_some e
  refine ⟨ρ, R, m, S, rs, S1, hE, hS, e1, fun vs H1 R1 m1 x1 s1 r1 => ?_⟩
  simp only at e2
  split at e2
  · cases e2
    obtain ⟨v, u, rfl, rv, ru⟩ := rep2 r1
    exact ⟨v, u, rfl, k _ H1 R1 m1 x1 s1 (((hE.ext x1 hS.sub).set i rv).set j ru)⟩
  · cases e2
/-- name op= e -/
def sAug (i : Nat) (op : Op2) (f : Fe RV) : Fs := fun ρ S => (eVar i ρ S).bind fun a => (f ρ S).bind fun p => (op a.1 p.1 p.2).bind fun z => some (.nx, ρ.set i (some z), p.2)
theorem s_aug {i : Nat} {x : Str} {op : Operator} {r : R2} {vop : Op2} {pos' : Pos} (hN : X.N.Nodup) (hi : X.N[i]? = some x) (hx : Loc X.env.scope x) (he : PE X e (TV X f)) (ho : OpR X (inplaceOp op) r) (hv : OpV X r vop) (hf : X.fn x = true ∨ X.env.scope.names.lookup x = some .local) :
    PS X (.AugAssign (.Name x pos') op e pos) (TSf X (sAug i vop f)) := ps_weak (ps_aug (ti := r) hN hi hx he (fun pins s σ H x y v u Q I r1 r2 h => ho pins s σ H x y v u Q I r1 r2 h) hf) fun D σ H ⟨ρ, R, m, S, fl, ρ', S', hE, hS, e, k⟩ => by
  obtain ⟨⟨a, S0⟩, e1, e2⟩ := bind_some e
  obtain ⟨⟨y, S1⟩, e3, e4⟩ := bind_some e2
  obtain ⟨z, e5, e6⟩ := bind_some e4
  cases e6
  unfold eVar at e1
  split at e1
  · rename_i ra hra
    cases e1
    obtain ⟨va, h1, h2⟩ := hE.at_ _ _ hra
    refine ⟨va, h1, ρ, R, m, S, y, S1, hE, hS, e3, fun u H1 R1 m1 x1 s1 r1 => ?_⟩
    refine hv H1 R1 m1 S1 _ y va u z s1 (h2.ext x1 hS.sub) r1 e5 _ fun v' H' x2 s2 r2 => ?_
    exact k _ H' R1 m1 (x1.trans x2) s2 (((hE.ext x1 hS.sub).ext x2 s1.sub).set i r2)
  · cases e1

/-! ### for -/
def foGo (s : Src) (gg : Gt) (F : Fs) : List D → Fs
  | [], ρ, S => if s.ok S = true then some (.nx, ρ, S) else none
  | d :: ds, ρ, S => if s.ok S = true then (gg (.d d) ρ).bind fun ρ1 => (F ρ1 S).bind fun z => match z.1 with
      | .nx => foGo s gg F ds z.2.1 z.2.2
      | .ct => foGo s gg F ds z.2.1 z.2.2
      | .bk => some (.nx, z.2)
      | .rt r => some (.rt r, z.2)
    else none
def sFor (src : Fe Src) (gg : Gt) (F : Fs) : Fs := fun ρ S => (src ρ S).bind fun p => foGo p.1 gg F p.1.ds ρ p.2
theorem s_for {tg iter : Expr} {body : List Stmt} {src : Fe Src} {sl : List Nat} {gg : Gt} (hp : PassesOwn (model X.prog X.w) X.A X.env X.xe) (hc : X.calm = true) (hi : PI X tg iter (TIs X src)) (hg : PG X tg (TGr X sl gg)) (hb : PSs X body (TSf X F)) (hs : ∀ x, foldedSetIterable iter X.env x = pure x) :
    PS X (.For tg iter body [] pos) (TSf X (sFor src gg F)) := ps_weak (ps_for hp hc hi hg hb hs) fun D σ H ⟨ρ, R, m, S, fl, ρ', S', hE, hS, e, k⟩ => by
  obtain ⟨⟨s, S1⟩, e1, e2⟩ := bind_some e
  refine ⟨ρ, R, m, S, s, S1, hE, hS, e1, fun J H1 R1 m1 x1 s1 wk => ?_⟩
  obtain ⟨G, Y, wJ, hG, hY⟩ := wk
  have okd : ∀ {ds : List Ev.D} {ρ2 : Env'} {S2 : Sto} {z}, foGo s gg F ds ρ2 S2 = some z → s.ok S2 = true := by
    intro ds ρ2 S2 z q
    cases ds with
    | nil => unfold foGo at q; split at q; assumption; cases q
    | cons d ds => unfold foGo at q; split at q; assumption; cases q
  refine for_it wJ (fun i σ2 H2 => ∃ (ρ2 : Env') (R2 m2 : List Addr) (S2 : Sto), Ext H1 R1 m1 H2 R2 m2 ∧ Sim X.prog X.w X.K H2 R2 m2 S2 ∧ RepE X.K H2 R2 m2 ρ2 σ2 ∧ foGo s gg F (s.ds.drop i) ρ2 S2 = some (fl, ρ', S') ∧ EndOK X D fl ρ' S' H2 R2 m2) ?_ ?_ ?_ ?_
  · exact ⟨ρ, R1, m1, S1, .refl, s1, hE.ext x1 hS.sub, e2, k.ext x1⟩
  · rintro i σ2 H2 hi ⟨ρ2, R2, m2, S2, x2, s2, E2, q, kk⟩
    exact hG _ _ _ _ x2 s2 (okd q)
  · rintro i x σ2 H2 H' hi ⟨ρ2, R2, m2, S2, x2, s2, E2, q, kk⟩ y
    have hdrop : s.ds.drop i = s.ds[i] :: s.ds.drop (i + 1) := List.drop_eq_getElem_cons hi
    rw [hdrop] at q
    have ok := okd q
    unfold foGo at q
    rw [if_pos ok] at q
    obtain ⟨ρ3, e3, q⟩ := bind_some q
    obtain ⟨⟨fl3, ρ4, S4⟩, e4, q⟩ := bind_some q
    obtain ⟨d, g1, x3, s3, rd⟩ := hY i _ _ _ _ x H' hi x2 s2 ok y
    have hd : d = s.ds[i] := by
      rw [List.getElem?_eq_getElem hi] at g1
      exact (Option.some.inj g1).symm
    subst hd
    refine ⟨ρ2, R2, m2, S2, .d s.ds[i], ρ3, E2.ext x3 s2.sub, s3, rd, e3, fun σ3 E3 _ => ?_⟩
    refine ⟨ρ3, R2, m2, S2, fl3, ρ4, S4, E3, s3, e4, fun σ4 H4 R4 m4 x4 s4 E4 => ?_⟩
    have xx := x3.trans x4
    cases fl3 with
    | nx => exact ⟨ρ4, R4, m4, S4, x2.trans xx, s4, E4, q, kk.ext xx⟩
    | ct => exact ⟨ρ4, R4, m4, S4, x2.trans xx, s4, E4, q, kk.ext xx⟩
    | bk => cases q; exact kk σ4 H4 R4 m4 xx s4 E4
    | rt r =>
      cases q
      exact fun v rv => kk σ4 H4 R4 m4 xx s4 E4 v rv
  · rintro σ2 H2 ⟨ρ2, R2, m2, S2, x2, s2, E2, q, kk⟩
    rw [List.drop_length] at q
    have ok := okd q
    unfold foGo at q
    rw [if_pos ok] at q
    cases q
    exact kk σ2 H2 R2 m2 .refl s2 E2

/-! ### while -/
def whGo (t : Fe Bool) (F : Fs) : Nat → Fs
  | 0, _, _ => none
  | n + 1, ρ, S => (t ρ S).bind fun p => if p.1 = true then (F ρ p.2).bind fun z => match z.1 with
      | .nx => whGo t F n z.2.1 z.2.2
      | .ct => whGo t F n z.2.1 z.2.2
      | .bk => some (.nx, z.2)
      | .rt r => some (.rt r, z.2)
    else some (.nx, ρ, p.2)
theorem s_while {c : Expr} {body : List Stmt} {t : Fe Bool} {n : Nat} (hp : PassesOwn (model X.prog X.w) X.A X.env X.xe) (hc : PT X c (TB X t)) (hb : PSs X body (TSf X F)) : PS X (.While c body [] pos) (TSf X (whGo t F n)) := ps_weak (ps_while hp hc hb) fun D σ H ⟨ρ, R, m, S, fl, ρ', S', hE, hS, e, k⟩ => by
  refine ⟨fun i σ2 H2 => ∃ (ρ2 : Env') (R2 m2 : List Addr) (S2 : Sto), Sim X.prog X.w X.K H2 R2 m2 S2 ∧ RepE X.K H2 R2 m2 ρ2 σ2 ∧ whGo t F i ρ2 S2 = some (fl, ρ', S') ∧ EndOK X D fl ρ' S' H2 R2 m2, ⟨n, ρ, R, m, S, hS, hE, e, k⟩, ?_⟩
  rintro i σ2 H2 ⟨ρ2, R2, m2, S2, s2, E2, q, kk⟩
  cases i with
  | zero => cases q
  | succ i =>
    unfold whGo at q
    obtain ⟨⟨b, S3⟩, e1, q⟩ := bind_some q
    refine ⟨ρ2, R2, m2, S2, b, S3, E2, s2, e1, fun H3 R3 m3 x3 s3 => ?_⟩
    cases b with
    | false =>
      rw [if_neg Bool.false_ne_true]
      simp only [Bool.false_eq_true, if_false] at q
      cases q
      exact kk σ2 H3 R3 m3 x3 s3 (E2.ext x3 s2.sub)
    | true =>
      rw [if_pos rfl]
      simp only [if_true] at q
      obtain ⟨⟨fl3, ρ4, S4⟩, e4, q⟩ := bind_some q
      refine ⟨fun σ' H' => ∃ (ρ2 : Env') (R2 m2 : List Addr) (S2 : Sto), Sim X.prog X.w X.K H' R2 m2 S2 ∧ RepE X.K H' R2 m2 ρ2 σ' ∧ whGo t F i ρ2 S2 = some (fl, ρ', S') ∧ EndOK X D fl ρ' S' H' R2 m2, fun σ' H' w => ⟨i, Nat.lt_succ_self _, w⟩, ?_⟩
      refine ⟨ρ2, R3, m3, S3, fl3, ρ4, S4, E2.ext x3 s2.sub, s3, e4, fun σ4 H4 R4 m4 x4 s4 E4 => ?_⟩
      have xx := x3.trans x4
      cases fl3 with
      | nx => exact ⟨ρ4, R4, m4, S4, s4, E4, q, kk.ext xx⟩
      | ct => exact ⟨ρ4, R4, m4, S4, s4, E4, q, kk.ext xx⟩
      | bk => cases q; exact kk σ4 H4 R4 m4 xx s4 E4
      | rt r =>
        cases q
        exact fun v rv => kk σ4 H4 R4 m4 xx s4 E4 v rv

/-! ### o[i] = e in an owned list -/
def sSubL (fo fi fe : Fe RV) : Fs := fun ρ S => (fe ρ S).bind fun v => (fo ρ v.2).bind fun o => (fi ρ o.2).bind fun i => (isObjL o.1 i.2).bind fun q => match v.1, i.1 with
  | .d d, .d (.int k) => (ixN q.2.length k).bind fun j => some (.nx, ρ, i.2.set q.1 (.lst (q.2.set j d)))
  | _, _ => none
theorem s_subL {o i : Expr} {fo fi : Fe RV} {pos' : Pos} (ho : PE X o (TV X fo)) (hi : PE X i (TV X fi)) (he : PE X e (TV X f))
    (ha : ∀ v, assign (.Subscript o i pos') X.env v = (do
      let ov ← holding [v] (eval o X.env)
      let iv ← holding [v, ov] (eval i X.env)
      standAt pos'
      holding [v, ov, iv] (setItem ov iv v)
      release [v, ov, iv] [])) (hs : swapsWithSole [.Subscript o i pos'] e pos.line X.env = pure false) (hw : swappedStores [.Subscript o i pos'] e X.env = pure none) (h1 : (assignEach [.Subscript o i pos'] X.env).map (·.2) = [assign (.Subscript o i pos') X.env]) :
    PS X (.Assign [.Subscript o i pos'] e pos) (TSf X (sSubL fo fi f)) := ps_weak (ps_asg he (pg_sub ho hi set_list ha) hs hw h1) fun D σ H ⟨ρ, R, m, S, fl, ρ', S', hE, hS, e, k⟩ => by
  obtain ⟨⟨v, S1⟩, e1, ea⟩ := bind_some e
  obtain ⟨⟨ov, S2⟩, e2, eb⟩ := bind_some ea
  obtain ⟨⟨iv, S3⟩, e3, ec⟩ := bind_some eb
  obtain ⟨⟨n, ds⟩, e4, ed⟩ := bind_some ec
  clear e ea eb ec
  refine ⟨ρ, R, m, S, v, S1, hE, hS, e1, fun vv H1 R1 m1 x1 s1 r1 => ?_⟩
  have E1 := hE.ext x1 hS.sub
  refine ⟨ρ, R1, m1, S1, ov, S2, E1, s1, e2, fun oo H2 R2 m2 x2 s2 r2 => ?_⟩
  have E2 := E1.ext x2 s1.sub
  refine ⟨ρ, R2, m2, S2, iv, S3, E2, s2, e3, fun ii H3 R3 m3 x3 s3 r3 => ?_⟩
  have E3 := E2.ext x3 s2.sub
  simp only at ed
  split at ed
  · rename_i d kk
    obtain ⟨j, e5, ee⟩ := bind_some ed
    cases ee
    obtain ⟨a, vs, rfl, h1, h2, h3, h4⟩ := objL_view s3 (r2.ext x3 s2.sub) e4
    cases r3
    have rd : Rep X.K H3 R3 d vv := RepV.ext x3 s2.sub (RepV.ext x2 s1.sub r1)
    obtain ⟨x4, s4⟩ := chg_lst s3 h1 h2 (Reps.set rd j h3)
    exact ⟨a, vs, kk, j, rfl, rfl, h2, by rw [← h3.length]; exact e5, k _ _ _ _ (((x1.trans x2).trans x3).trans x4) s4 (E3.ext x4 s3.sub)⟩
  · cases ed
end
end Ev

/-! The evaluator, part H: defs, their calls; instances; dicts whose keys are trees. -/
namespace Ev
open PySem PySem.Spec PyProof.Rows L2

/-! ### what a pure def gives: a value, or a new list -/
inductive PR where
  | v (x : D) | l (xs : List D)
def Keep (H H' : Hp) : Prop := ∀ a o, H a = some o → H' a = some o
theorem Keep.ext {H H' : Hp} {R m : List Addr} (k : Keep H H') : Ext H R m H' R m where
  pre := ⟨[], by simp⟩
  sub := fun _ h => h
  fresh := fun _ h => .inl h
  freshM := fun _ h => .inl h
  keep := fun a o _ h => k a o h
  live := fun a h => by
    cases q : H a with
    | none => exact absurd q h
    | some o => rw [k a o q]; intro z; cases z
theorem Sim.keep {P : Program} {w : World} {K : PySem.W.Frag} {H H' : Hp} {R m : List Addr} {S : Sto} (s : Sim P w K H R m S) (k : Keep H H') : Sim P w K H' R m S where
  nd := s.nd
  sub := s.sub
  live := fun a h => (Keep.ext k (R := R) (m := m)).live a (s.live a h)
  len := s.len
  at_ := fun i a ob h1 h2 => RepO.ext (Keep.ext k) s.sub (s.at_ i a ob h1 h2) (by
    cases q : H a with
    | none => exact absurd q (s.live a (s.sub a (List.mem_of_getElem? h1)))
    | some o => exact k a o q)
def spP (K : PySem.W.Frag) (n : Nat) (Fn : List D → Option PR) : Sp := fun vs H Q _ => ∃ (R : List Addr) (ds : List D) (r : PR), (∀ a ∈ R, H a ≠ none) ∧ Reps K H R ds vs ∧ ds.length = n ∧ Fn ds = some r ∧ match r with
  | .v x => ∀ v H', Keep H H' → Rep K H' R x v → Q v H'
  | .l xs => ∀ H1 a us, Keep H H1 → H1 a = none → Reps K H1 R xs us → xs.length ≤ Lim → Q (.ref a) (upd H1 a (.lst us))
def spS (P : Program) (w : World) (K : PySem.W.Frag) (n : Nat) (Fn : List RV → Sto → Option (RV × Sto)) : Sp := fun vs H Q _ => ∃ (R m : List Addr) (S : Sto) (rs : List RV) (r : RV) (S' : Sto), Sim P w K H R m S ∧ RepVs K H R m rs vs ∧ rs.length = n ∧ Fn rs S = some (r, S') ∧
  ∀ v H' R' m', Ext H R m H' R' m' → Sim P w K H' R' m' S' → RepV K H' R' m' r v → Q v H'
theorem RepVs.length {K : PySem.W.Frag} {H : Hp} {R m : List Addr} : ∀ {rs : List RV} {vs : List V}, RepVs K H R m rs vs → rs.length = vs.length
  | _, _, .nil => rfl
  | _, _, .cons _ r => congrArg Nat.succ r.length
theorem dsOf_len : ∀ {rs : List RV} {ds : List D}, dsOf rs = some ds → rs.length = ds.length
  | [], _, e => by cases e; rfl
  | .d x :: r, _, e => by
    obtain ⟨xs, h1, rfl⟩ := Option.map_eq_some_iff.mp (show (dsOf r).map (fun xs => x :: xs) = some _ from e)
    exact congrArg Nat.succ (dsOf_len h1)
  | .o _ :: _, _, e => by cases e
  | .t _ :: _, _, e => by cases e

/-! ### the calls -/
def oP (n : Nat) (Fn : List D → Option PR) (rs : List RV) : Option PR := (dsOf rs).bind fun ds => if ds.length = n then Fn ds else none
def eCallP (n : Nat) (Fn : List D → Option PR) (h : Fe (List RV)) : Fe RV := fMap h fun rs _ => (oP n Fn rs).bind fun r => match r with
  | .v x => some (.d x)
  | .l xs => some (.d (.lst xs))
def lCallP (n : Nat) (Fn : List D → Option PR) (h : Fe (List RV)) : Fe (List D) := fMap h fun rs _ => (oP n Fn rs).bind fun r => match r with
  | .v _ => none
  | .l xs => some xs
def eCallS (n : Nat) (Fn : List RV → Sto → Option (RV × Sto)) (h : Fe (List RV)) : Fe RV := fBind h fun rs => fun _ S => if rs.length = n then Fn rs S else none
section
variable {X : Cx} {e o : Expr} {es : List Expr} {pos p apos : Pos} {x m : Str} {h : Fe (List RV)} {f fo : Fe RV} {fd : FuncData} {ps : List Str} {k n : Nat} {fa C : Addr} {FP : List D → Option PR} {FS : List RV → Sto → Option (RV × Sto)} {E : XK}
theorem oP_some {rs : List RV} {r : PR} (q : oP n FP rs = some r) : ∃ ds, dsOf rs = some ds ∧ ds.length = n ∧ FP ds = some r := by
  obtain ⟨ds, e1, e2⟩ := bind_some q
  split at e2
  · rename_i hl
    exact ⟨ds, e1, hl, e2⟩
  · cases e2
theorem tv_callP {σ : L2.St} {H : Hp} {Q : VK} (q : TV X (eCallP n FP h) σ H Q) : tCall (spP X.K n FP) [] E (TAs X h) σ H Q := by
  obtain ⟨ρ, R, m, S, res, S', hE, hS, e, k⟩ := q
  obtain ⟨rs, e1, e2⟩ := fMap_some e
  obtain ⟨r, e3, e4⟩ := bind_some e2
  obtain ⟨ds, e5, hl, e6⟩ := oP_some e3
  refine ⟨ρ, R, m, S, rs, S', hE, hS, e1, fun vs H1 R1 m1 x1 s1 r1 => ?_⟩
  show spP X.K n FP (vs ++ []) H1 Q E
  rw [List.append_nil]
  refine ⟨R1, ds, r, s1.live, dsOf_reps r1 e5, hl, e6, ?_⟩
  cases r with
  | v x =>
    cases e4
    exact fun v H' kp rx => k v H' R1 m1 (x1.trans kp.ext) (s1.keep kp) rx
  | l xs =>
    cases e4
    exact fun H2 a us kp hn ru hl => k _ _ R1 m1 ((x1.trans kp.ext).trans (.new hn)) ((s1.keep kp).new hn) (.lst (.inl upd_same) ((s1.keep kp).notR hn) (ru.ext (Ext.new (m := m1) hn) (s1.keep kp).sub))
theorem tl_callP {σ : L2.St} {H : Hp} {Q : VK} (q : TL X (lCallP n FP h) σ H Q) : tCall (spP X.K n FP) [] E (TAs X h) σ H Q := by
  obtain ⟨ρ, R, m, S, res, S', hE, hS, e, k⟩ := q
  obtain ⟨rs, e1, e2⟩ := fMap_some e
  obtain ⟨r, e3, e4⟩ := bind_some e2
  obtain ⟨ds, e5, hl, e6⟩ := oP_some e3
  refine ⟨ρ, R, m, S, rs, S', hE, hS, e1, fun vs H1 R1 m1 x1 s1 r1 => ?_⟩
  show spP X.K n FP (vs ++ []) H1 Q E
  rw [List.append_nil]
  refine ⟨R1, ds, r, s1.live, dsOf_reps r1 e5, hl, e6, ?_⟩
  cases r with
  | v x => cases e4
  | l xs =>
    cases e4
    exact fun H2 a us kp hn ru hl => k a us H2 R1 m1 (x1.trans kp.ext) (s1.keep kp) hn ru hl
theorem tv_callS {σ : L2.St} {H : Hp} {Q : VK} (q : TV X (eCallS n FS h) σ H Q) : tCall (spS X.prog X.w X.K n FS) [] E (TAs X h) σ H Q := by
  obtain ⟨ρ, R, m, S, res, S', hE, hS, e, k⟩ := q
  obtain ⟨rs, S1, e1, e2⟩ := fBind_some e
  split at e2
  · rename_i hl
    refine ⟨ρ, R, m, S, rs, S1, hE, hS, e1, fun vs H1 R1 m1 x1 s1 r1 => ?_⟩
    show spS X.prog X.w X.K n FS (vs ++ []) H1 Q E
    rw [List.append_nil]
    exact ⟨R1, m1, S1, rs, res, S', s1, r1, hl, e2, fun v H' R' m' x2 s2 r2 => k v H' R' m' (x1.trans x2) s2 r2⟩
  · cases e2
theorem e_callP (F : FnOk X.prog X.w X.K X.mg X.base CX0 k fa fd ps (spP X.K n FP)) (hr : Room k X.A) (hg : Gl X x) (hm : X.mg x = some (.ref fa)) (hk : PySem.W.keepIn X.K (.ref fa) = true) (hb : Binds X.K fd ps [])
    (ha : PA X (e :: es) (TAs X h)) (hdb : (x == ("__debug__" : Str)) = false) (he : starEach (e :: es) X.env = (false, eval e X.env) :: starEach es X.env) (hpl : (backTo pos (starEach es X.env)).any (·.1) = false) :
    PE X (.Call (.Name x p) (e :: es) [] pos) (TV X (eCallP n FP h)) := pe_weak (pe_call F hr hg hm hk hb .nil pass0 ha hdb he hpl) fun _ _ _ => tv_callP
theorem l_callP (F : FnOk X.prog X.w X.K X.mg X.base CX0 k fa fd ps (spP X.K n FP)) (hr : Room k X.A) (hg : Gl X x) (hm : X.mg x = some (.ref fa)) (hk : PySem.W.keepIn X.K (.ref fa) = true) (hb : Binds X.K fd ps [])
    (ha : PA X (e :: es) (TAs X h)) (hdb : (x == ("__debug__" : Str)) = false) (he : starEach (e :: es) X.env = (false, eval e X.env) :: starEach es X.env) (hpl : (backTo pos (starEach es X.env)).any (·.1) = false) :
    PE X (.Call (.Name x p) (e :: es) [] pos) (TL X (lCallP n FP h)) := pe_weak (pe_call F hr hg hm hk hb .nil pass0 ha hdb he hpl) fun _ _ _ => tl_callP
theorem e_callS (F : FnOk X.prog X.w X.K X.mg X.base CX0 k fa fd ps (spS X.prog X.w X.K n FS)) (hr : Room k X.A) (hg : Gl X x) (hm : X.mg x = some (.ref fa)) (hk : PySem.W.keepIn X.K (.ref fa) = true) (hb : Binds X.K fd ps [])
    (ha : PA X (e :: es) (TAs X h)) (hdb : (x == ("__debug__" : Str)) = false) (he : starEach (e :: es) X.env = (false, eval e X.env) :: starEach es X.env) (hpl : (backTo pos (starEach es X.env)).any (·.1) = false) :
    PE X (.Call (.Name x p) (e :: es) [] pos) (TV X (eCallS n FS h)) := pe_weak (pe_call F hr hg hm hk hb .nil pass0 ha hdb he hpl) fun _ _ _ => tv_callS

/-! ### instances -/
def isIns (r : RV) (S : Sto) : Option (Nat × Str × List (Str × RV)) := match r with
  | .o n => (match S[n]? with
    | some (.ins c fs) => some (n, c, fs)
    | _ => none)
  | _ => none
theorem ins_view {P : Program} {w : World} {K : PySem.W.Frag} {H : Hp} {R m : List Addr} {S : Sto} {r : RV} {v : V} {n : Nat} {c : Str} {fs : List (Str × RV)} (hS : Sim P w K H R m S) (h : RepV K H R m r v) (q : isIns r S = some (n, c, fs)) :
    ∃ a dx vfs, v = .ref a ∧ m[n]? = some a ∧ H a = some (.ins (He.ga K c) dx vfs) ∧ RepF K H R m fs vfs ∧ Cls K (He.ga K c) ∧ (∀ p ∈ fs, NoAttr K (He.ga K c) p.1) ∧ S[n]? = some (.ins c fs) := by
  unfold isIns at q
  split at q
  · split at q
    · rename_i hn
      cases q
      obtain ⟨a, h1, rfl⟩ := h
      obtain ⟨dx, vfs, h2, h3, h4, h5⟩ := hS.at_ _ a _ h1 hn
      exact ⟨a, dx, vfs, rfl, h1, h2, h3, h4, h5, hn⟩
    · cases q
  · cases q
def lkF (f : Str) : List (Str × RV) → Option RV
  | [] => none
  | (g, x) :: r => if f = g then some x else lkF f r
theorem lkF_mem {f : Str} : ∀ {fs : List (Str × RV)} {x : RV}, lkF f fs = some x → (f, x) ∈ fs
  | (g, y) :: r, x, h => by
    unfold lkF at h
    split at h
    · rename_i e
      cases h
      rw [e]
      exact List.mem_cons_self
    · exact List.mem_cons_of_mem _ (lkF_mem h)
theorem lkF_rep {K : PySem.W.Frag} {H : Hp} {R m : List Addr} {f : Str} : ∀ {fs : List (Str × RV)} {vs : List (Str × V)} {x : RV}, RepF K H R m fs vs → lkF f fs = some x → ∃ v, vs.lookup f = some v ∧ RepV K H R m x v
  | (g, y) :: r, _, x, .cons (b := q) h t, e => by
    unfold lkF at e
    obtain ⟨h1, h2⟩ := h
    split at e
    · rename_i eg
      cases e
      refine ⟨q.2, ?_, h2⟩
      have hb : (f == q.1) = true := by rw [← h1, eg]; exact beq_self_eq_true _
      obtain ⟨q1, q2⟩ := q
      simp only [List.lookup]
      rw [hb]
    · rename_i eg
      obtain ⟨v, h3, h4⟩ := lkF_rep t e
      refine ⟨v, ?_, h4⟩
      have hb : (f == q.1) = false := by rw [← h1]; exact beq_eq_false_iff_ne.mpr eg
      obtain ⟨q1, q2⟩ := q
      simp only [List.lookup]
      rw [hb]
      exact h3
theorem lkF_none {K : PySem.W.Frag} {H : Hp} {R m : List Addr} {f : Str} : ∀ {fs : List (Str × RV)} {vs : List (Str × V)}, RepF K H R m fs vs → lkF f fs = none → vs.lookup f = none
  | [], _, .nil, _ => rfl
  | (g, y) :: r, _, .cons (b := q) h t, e => by
    unfold lkF at e
    split at e
    · cases e
    · rename_i eg
      have hb : (f == q.1) = false := by rw [← h.1]; exact beq_eq_false_iff_ne.mpr eg
      obtain ⟨q1, q2⟩ := q
      simp only [List.lookup]
      rw [hb]
      exact lkF_none t e
def eFld (f : Str) (g : Fe RV) : Fe RV := fMap g fun x S => (isIns x S).bind fun q => lkF f q.2.2
theorem e_fld {f : Str} {g : Fe RV} (he : PE X e (TV X g)) (hb : attributeBase e f X.env (eval e X.env) = eval e X.env) : PE X (.Attribute e f pos) (TV X (eFld f g)) := pe_weak (pe_fld he hb) fun σ H Q q => by
  obtain ⟨ρ, R, m, S, res, S', hE, hS, e, k⟩ := q
  obtain ⟨x, e1, e2⟩ := fMap_some e
  obtain ⟨⟨n, c, fs⟩, e3, e4⟩ := bind_some e2
  refine ⟨ρ, R, m, S, x, S', hE, hS, e1, fun v H1 R1 m1 x1 s1 r1 => ?_⟩
  obtain ⟨a, dx, vfs, rfl, h1, h2, h3, h4, h5, h6⟩ := ins_view s1 r1 e3
  obtain ⟨u, h7, h8⟩ := lkF_rep h3 e4
  exact ⟨a, _, dx, vfs, u, rfl, h2, h4, h5 _ (lkF_mem e4), h7, k _ _ _ _ x1 s1 h8⟩
def putR (f : Str) (v : RV) : List (Str × RV) → List (Str × RV)
  | [] => [(f, v)]
  | (g, x) :: r => if g = f then (g, v) :: r else (g, x) :: putR f v r
theorem putR_rep {K : PySem.W.Frag} {H : Hp} {R m : List Addr} {f : Str} {x : RV} {v : V} (hx : RepV K H R m x v) : ∀ {fs : List (Str × RV)} {vs : List (Str × V)}, RepF K H R m fs vs → RepF K H R m (putR f x fs) (putF f v vs)
  | [], _, .nil => .cons ⟨rfl, hx⟩ .nil
  | (g, y) :: r, _, .cons (b := q) h t => by
    obtain ⟨q1, q2⟩ := q
    obtain ⟨h1, h2⟩ := h
    simp only at h1
    subst h1
    unfold putR putF
    by_cases eg : g = f
    · rw [if_pos eg, if_pos eg]; exact .cons ⟨rfl, hx⟩ t
    · rw [if_neg eg, if_neg eg]; exact .cons ⟨rfl, h2⟩ (putR_rep hx t)
theorem putR_mem {f : Str} {v : RV} : ∀ {fs : List (Str × RV)} {p : Str × RV}, p ∈ putR f v fs → p.1 = f ∨ ∃ y, (p.1, y) ∈ fs
  | [], p, h => by
    have := List.mem_singleton.mp h
    subst this
    exact .inl rfl
  | (g, y) :: r, p, h => by
    unfold putR at h
    split at h
    · rename_i eg
      rcases List.mem_cons.mp h with z | z
      · subst z; exact .inl eg
      · exact .inr ⟨p.2, List.mem_cons_of_mem _ z⟩
    · rcases List.mem_cons.mp h with z | z
      · subst z; exact .inr ⟨y, List.mem_cons_self⟩
      · rcases putR_mem z with z | ⟨y', z⟩
        · exact .inl z
        · exact .inr ⟨y', List.mem_cons_of_mem _ z⟩
/-- o.f = e; cs: the classes that know no attribute f -/
def sFld (cs : List Str) (f : Str) (fo fe : Fe RV) : Fs := fun ρ S => (fe ρ S).bind fun v => (fo ρ v.2).bind fun o => (isIns o.1 o.2).bind fun q => if q.2.1 ∈ cs ∧ q.2.2.length < 1000 then some (.nx, ρ, o.2.set q.1 (.ins q.2.1 (putR f v.1 q.2.2))) else none
theorem s_fld {cs : List Str} {fl : Str} {fo fe : Fe RV} {value : Expr} {pos' : Pos} (hcs : ∀ c ∈ cs, NoAttr X.K (He.ga X.K c) fl) (ho : PE X o (TV X fo)) (hv : PE X value (TV X fe)) (hs : swapsWith value (some (.Attribute o fl pos')) pos.line X.env = pure false) :
    PS X (.Assign [.Attribute o fl pos'] value pos) (TSf X (sFld cs fl fo fe)) := ps_weak (ps_fld ho hv hs) fun D σ H ⟨ρ, R, m, S, fl2, ρ', S', hE, hS, e, k⟩ => by
  obtain ⟨⟨v, S1⟩, e1, ea⟩ := bind_some e
  obtain ⟨⟨ov, S2⟩, e2, eb⟩ := bind_some ea
  obtain ⟨⟨n, c, fs⟩, e3, ec⟩ := bind_some eb
  clear e ea eb
  split at ec
  · rename_i hc
    cases ec
    refine ⟨ρ, R, m, S, v, S1, hE, hS, e1, fun vv H1 R1 m1 x1 s1 r1 => ?_⟩
    have E1 := hE.ext x1 hS.sub
    refine ⟨ρ, R1, m1, S1, ov, S2, E1, s1, e2, fun oo H2 R2 m2 x2 s2 r2 => ?_⟩
    obtain ⟨a, dx, vfs, rfl, h1, h2, h3, h4, h5, h6⟩ := ins_view s2 r2 e3
    have hlen : vfs.length = fs.length := (Paired.length h3).symm
    have hm := List.mem_of_getElem? h1
    have x3 := Ext.chg (H := H2) (R := R2) (o := .ins (He.ga X.K c) dx (putF fl vv vfs)) hm (by rw [h2]; intro z; cases z)
    refine ⟨a, _, dx, vfs, rfl, h2, h4, hcs c hc.1, by rw [hlen]; exact hc.2, k _ _ R2 m2 ((x1.trans x2).trans x3) (s2.chg h1 ?_) ((E1.ext x2 s1.sub).ext x3 s2.sub)⟩
    refine ⟨dx, _, upd_same, RepF.ext x3 s2.sub (putR_rep (r1.ext x2 s1.sub) h3), h4, fun p hp => ?_⟩
    rcases putR_mem hp with z | ⟨y, z⟩
    · rw [z]; exact hcs c hc.1
    · exact h5 (p.1, y) z
  · cases ec
/-- C(..): a new instance, its __init__ -/
def eMake (c : Str) (n : Nat) (Fn : List RV → Sto → Option (RV × Sto)) (h : Fe (List RV)) : Fe RV := fun ρ S => (h ρ S).bind fun p => if p.1.length + 1 = n then (Fn (.o p.2.length :: p.1) (p.2 ++ [.ins c []])).bind fun z => match z.1 with
  | .d .non => some (.o p.2.length, z.2)
  | _ => none else none
theorem own_own {P : Program} {w : World} {K : PySem.W.Frag} {H : Hp} {R m : List Addr} {S : Sto} {C a dx : Addr} {c : Str} (s : Sim P w K H R m S) (hC : He.ga K c = C) (hc : Cls K C) (ha : H a = none) (hd : H dx = none) (ne : dx ≠ a) :
    Ext H R m (upd (upd H dx (.own a)) a (.ins C dx [])) (a :: R) (m ++ [a]) ∧ Sim P w K (upd (upd H dx (.own a)) a (.ins C dx [])) (a :: R) (m ++ [a]) (S ++ [.ins c []]) := by
  have x1 : Ext H R m (upd H dx (.own a)) R m := .new hd
  have s1 : Sim P w K (upd H dx (.own a)) R m S := s.new hd
  have ha' : upd H dx (.own a) a = none := by rw [upd_ne (Ne.symm ne)]; exact ha
  refine ⟨x1.trans (.own ha'), s1.own ha' ⟨dx, [], ?_, .nil, ?_, fun p hp => by cases hp⟩⟩
  · rw [upd_same, hC]
  · rw [hC]; exact hc
theorem tv_make {c : Str} (hC : He.ga X.K c = C) (hc : Cls X.K C) {σ : L2.St} {H : Hp} {Q : VK} (q : TV X (eMake c n FS h) σ H Q) : tMake C (spS X.prog X.w X.K n FS) [] E (TAs X h) σ H Q := by
  obtain ⟨ρ, R, m, S, res, S', hE, hS, e, k⟩ := q
  obtain ⟨⟨rs, S1⟩, e1, e2⟩ := bind_some e
  split at e2
  · rename_i hl
    obtain ⟨⟨z, S2⟩, e3, e4⟩ := bind_some e2
    refine ⟨ρ, R, m, S, rs, S1, hE, hS, e1, fun vs H1 R1 m1 x1 s1 r1 a dx ha hd ne => ?_⟩
    obtain ⟨x2, s2⟩ := own_own s1 hC hc ha hd ne
    have hidx : (m1 ++ [a])[S1.length]? = some a := by
      rw [← s1.len, List.getElem?_append_right (Nat.le_refl _), Nat.sub_self]
      rfl
    refine ⟨_, _, _, .o S1.length :: rs, z, S2, s2, ?_, hl, e3, fun v H' R' m' x3 s3 r3 => ?_⟩
    · rw [List.append_nil]
      exact .cons ⟨a, hidx, rfl⟩ (r1.ext x2 s1.sub)
    · simp only at e4
      split at e4
      · cases e4
        cases r3
        exact ⟨rfl, k _ _ _ _ ((x1.trans x2).trans x3) s3 ⟨a, x3.idx hidx, rfl⟩⟩
      · cases e4
  · cases e2
theorem e_make {c : Str} (hC : He.ga X.K c = C) (hc : Cls X.K C) (M : Mk X.K C fa) (F : FnOk X.prog X.w X.K X.mg X.base CX0 k fa fd ps (spS X.prog X.w X.K n FS)) (hr : Room (k + 1) X.A) (hg : Gl X x) (hm : X.mg x = some (.ref C)) (hb : Binds X.K fd ps [])
    (ha : PA X (e :: es) (TAs X h)) (hdb : (x == ("__debug__" : Str)) = false) (he : starEach (e :: es) X.env = (false, eval e X.env) :: starEach es X.env) (hpl : (backTo pos (starEach es X.env)).any (·.1) = false) :
    PE X (.Call (.Name x p) (e :: es) [] pos) (TV X (eMake c n FS h)) := pe_weak (pe_make M F hr hg hm hb .nil pass0 ha hdb he hpl) fun _ _ _ => tv_make hC hc
/-- o.m(..) -/
def eMeth (c m : Str) (n : Nat) (Fn : List RV → Sto → Option (RV × Sto)) (fo : Fe RV) (h : Fe (List RV)) : Fe RV := fun ρ S => (fo ρ S).bind fun o => (isIns o.1 o.2).bind fun q => if q.2.1 = c ∧ (lkF m q.2.2).isNone = true then (h ρ o.2).bind fun p => if p.1.length + 1 = n then Fn (o.1 :: p.1) p.2 else none else none
theorem tv_meth {c : Str} (hC : He.ga X.K c = C) {σ : L2.St} {H : Hp} {Q : VK} (q : TV X (eMeth c m n FS fo h) σ H Q) : tMeth C m (spS X.prog X.w X.K n FS) [] E (TV X fo) (TAs X h) σ H Q := by
  obtain ⟨ρ, R, mm, S, res, S', hE, hS, e, k⟩ := q
  obtain ⟨⟨ov, S1⟩, e1, e2⟩ := bind_some e
  obtain ⟨⟨j, c', fs⟩, e3, e4⟩ := bind_some e2
  split at e4
  · rename_i hc
    obtain ⟨⟨rs, S2⟩, e5, e6⟩ := bind_some e4
    split at e6
    · rename_i hl
      obtain ⟨rfl, hno⟩ := hc
      refine ⟨ρ, R, mm, S, ov, S1, hE, hS, e1, fun v H1 R1 m1 x1 s1 r1 => ?_⟩
      obtain ⟨a, dx, vfs, rfl, h1, h2, h3, h4, h5, h6⟩ := ins_view s1 r1 e3
      rw [hC] at h2
      refine ⟨a, dx, vfs, rfl, h2, lkF_none h3 (Option.isNone_iff_eq_none.mp hno), ρ, R1, m1, S1, rs, S2, hE.ext x1 hS.sub, s1, e5, fun vs H2 R2 m2 x2 s2 r2 => ?_⟩
      show spS X.prog X.w X.K n FS (V.ref a :: (vs ++ [])) H2 Q E
      rw [List.append_nil]
      exact ⟨R2, m2, S2, ov :: rs, res, S', s2, .cons (r1.ext x2 s1.sub) r2, hl, e6, fun v' H' R' m' x3 s3 r3 => k v' H' R' m' ((x1.trans x2).trans x3) s3 r3⟩
    · cases e6
  · cases e4
theorem e_meth {c : Str} {pl : Sem Bool} (hC : He.ga X.K c = C) (ho : PE X o (TV X fo)) (hc : Cls X.K C) (hm : Meth X.K C m fa) (F : FnOk X.prog X.w X.K X.mg X.base CX0 k fa fd ps (spS X.prog X.w X.K n FS)) (hr : Room k X.A) (hb : Binds X.K fd ps []) (ha : PA X (e :: es) (TAs X h))
    (hst : starEach (e :: es) X.env = (false, eval e X.env) :: starEach es X.env) (hpl : (backTo pos (starEach es X.env)).any (·.1) = false)
    (ht : eval (.Call (.Attribute o m apos) (e :: es) [] pos) X.env = (do
      let ov ← eval o X.env
      standAt apos.atName
      let (f, first) ← holding [ov] (getMethod ov m pl)
      callWith pos f first (backTo pos (starEach (e :: es) X.env)) (backToKw pos (keywordEach [] X.env)))) :
    PE X (.Call (.Attribute o m apos) (e :: es) [] pos) (TV X (eMeth c m n FS fo h)) := pe_weak (pe_meth ho hc hm F hr hb .nil pass0 ha hst hpl ht) fun _ _ _ => tv_meth hC
end

/-! ### a def's body -/
def env0 (N : Nat) (rs : List RV) : Env' := rs.map some ++ List.replicate (N - rs.length) none
def runP (N : Nat) (F : Fs) (ds : List D) : Option PR := (F (env0 N (ds.map RV.d)) []).bind fun z => match z.1 with
  | .nx => some (.v .non)
  | .rt (.d x) => some (.v x)
  | .rt (.o n) => (match z.2.2[n]? with
    | some (.lst xs) => if xs.length ≤ Lim then some (.l xs) else none
    | _ => none)
  | _ => none
def runS (N : Nat) (F : Fs) (rs : List RV) (S : Sto) : Option (RV × Sto) := (F (env0 N rs) S).bind fun z => match z.1 with
  | .nx => some (.d .non, z.2.2)
  | .rt r => some (r, z.2.2)
  | _ => none
theorem env0_rep {K : PySem.W.Frag} {H : Hp} {R m : List Addr} {rs : List RV} {vs : List V} {N : List Str} (r : RepVs K H R m rs vs) : RepE K H R m (env0 N.length rs) (L2.start N vs) := by
  unfold env0 L2.start
  have hl := r.length
  refine ⟨by rw [List.length_append, List.length_append, List.length_map, List.length_map, List.length_replicate, List.length_replicate, hl], fun i x h => ?_⟩
  have hget : ∀ {rs : List RV} {vs : List V} {i : Nat} {x : RV}, RepVs K H R m rs vs → rs[i]? = some x → ∃ v, vs[i]? = some v ∧ RepV K H R m x v := by
    intro rs vs i x r
    induction r generalizing i with
    | nil => intro e; simp at e
    | cons h t ih =>
      intro e
      cases i with
      | zero => simp at e; subst e; exact ⟨_, rfl, h⟩
      | succ i =>
        obtain ⟨v, h1, h2⟩ := ih (i := i) (by simpa using e)
        exact ⟨v, by simpa using h1, h2⟩
  by_cases hi : i < rs.length
  · rw [List.getElem?_append_left (by simpa using hi), List.getElem?_map] at h
    obtain ⟨y, h1, h2⟩ := Option.map_eq_some_iff.mp h
    cases h2
    obtain ⟨v, h3, h4⟩ := hget r h1
    refine ⟨v, ?_, h4⟩
    rw [List.getElem?_append_left (by rw [List.length_map, ← hl]; exact hi), List.getElem?_map, h3]
    rfl
  · rw [List.getElem?_append_right (by simpa using hi), List.getElem?_replicate] at h
    split at h <;> cases h
theorem repVs_of {K : PySem.W.Frag} {H : Hp} {R m : List Addr} : ∀ {ds : List D} {vs : List V}, Reps K H R ds vs → RepVs K H R m (ds.map RV.d) vs
  | _, _, .nil => .nil
  | _, _, .cons h r => .cons h (repVs_of r)
theorem sim0 {P : Program} {w : World} {K : PySem.W.Frag} {H : Hp} {R : List Addr} (l : ∀ a ∈ R, H a ≠ none) : Sim P w K H R [] [] where
  nd := List.nodup_nil
  sub := fun a h => by cases h
  live := l
  len := rfl
  at_ := fun n a o h => by simp at h
theorem body_P {X : Cx} {N : List Str} {n : Nat} {F : Fs} {vs : List V} {H : Hp} {Q : VK} {E : XK} (h : spP X.K n (runP N.length F) vs H Q E) : TSf X F { nx := fun _ H' => Q .non H', rt := Q } (L2.start N vs) H := by
  obtain ⟨R, ds, r, hl, hr, hn, e, k⟩ := h
  obtain ⟨⟨fl, ρ', S'⟩, e1, e2⟩ := bind_some e
  refine ⟨_, R, [], [], fl, ρ', S', env0_rep (repVs_of hr), sim0 hl, e1, fun σ' H' R' m' x s E' => ?_⟩
  have kp : Keep H H' := fun a o q => x.keep a o (by simp) q
  have back : ∀ {d : D} {v : V}, Rep X.K H' R' d v → Rep X.K H' R d v := fun q => Rep.mono (fun _ _ _ z => z) (fun a z => .inl (x.sub a z)) q
  cases fl with
  | nx => cases e2; exact k .non H' kp .non
  | bk => cases e2
  | ct => cases e2
  | rt r' =>
    intro v rv
    cases r' with
    | d x' => cases e2; exact k v H' kp (back rv)
    | t t' => cases e2
    | o j =>
      simp only at e2
      split at e2
      · rename_i xs hxs
        split at e2
        · rename_i hlim
          cases e2
          obtain ⟨a, h1, rfl⟩ := rv
          obtain ⟨us, h2, h3⟩ := s.at_ _ a _ h1 hxs
          have hR' : a ∈ R' := s.sub a (List.mem_of_getElem? h1)
          have hna : H a = none := (x.freshM a (List.mem_of_getElem? h1)).elim (fun z => by cases z) id
          have q := k (er H' a) a us (fun b o z => by
            rw [er_ne fun y => by rw [y, hna] at z; cases z]
            exact kp b o z) er_same (Reps.mono (fun b o n z => by rw [er_ne fun y => n (by rw [y]; exact hR')]; exact z) (fun b z => .inl (x.sub b z)) h3) hlim
          rw [er_upd h2] at q
          exact q
        · cases e2
      · cases e2
theorem body_S {X : Cx} {N : List Str} {n : Nat} {F : Fs} {vs : List V} {H : Hp} {Q : VK} {E : XK} (h : spS X.prog X.w X.K n (runS N.length F) vs H Q E) : TSf X F { nx := fun _ H' => Q .non H', rt := Q } (L2.start N vs) H := by
  obtain ⟨R, m, S, rs, r, S', hS, hr, hn, e, k⟩ := h
  obtain ⟨⟨fl, ρ', S1⟩, e1, e2⟩ := bind_some e
  refine ⟨_, R, m, S, fl, ρ', S1, env0_rep hr, hS, e1, fun σ' H' R' m' x s E' => ?_⟩
  cases fl with
  | nx => cases e2; exact k .non H' R' m' x s .non
  | bk => cases e2
  | ct => cases e2
  | rt r' => cases e2; exact fun v rv => k v H' R' m' x s rv
end Ev

/-! The evaluator, part K: dicts, their keys ints and texts, or trees. -/
namespace Ev
open PySem PySem.Spec PyProof.Rows L2

/-! ### plain tables -/
def dGet (kvs : List (D × D)) (k : D) : Option D := (kvs.find? fun p => decide (p.1 = k)).map (·.2)
def dPut (kvs : List (D × D)) (k v : D) : List (D × D) := if (dGet kvs k).isSome = true then kvs.map (fun p => if p.1 = k then (p.1, v) else p) else kvs ++ [(k, v)]
theorem dGet_cons (p : D × D) (r : List (D × D)) (k : D) : dGet (p :: r) k = if p.1 = k then some p.2 else dGet r k := by
  unfold dGet
  rw [List.find?_cons]
  by_cases e : p.1 = k
  · simp [e]
  · simp [e]
theorem atKey_cons {κ : Type} [DecidableEq κ] (p : κ × Addr × Value) (r : List (κ × Addr × Value)) (k : κ) : atKey (p :: r) k = if p.1 = k then some p.2 else atKey r k := by
  unfold atKey
  rw [List.find?_cons]
  by_cases e : p.1 = k
  · simp [e]
  · simp [e]

section
variable {X : Cx} {pins : List (Addr × Obj)} {σ : L2.St} {H : Hp} {s : Shared} {R m : List Addr}
/-! ### keys -/
mutual
theorem isK_of (I : Inv X pins σ H s) : ∀ {n : Nat} {d : D} {v : V} {u : Value}, Rep X.K H R d v → D.isKey n d = true → RelV v u → IsK s.heap n d u
  | _, .int i, _, _, .int _, _, r => by
    obtain ⟨t, rfl⟩ := r
    exact .int i t
  | _, .str x, _, _, .str _, k, r => by
    obtain ⟨t, rfl⟩ := r
    exact .str x t (by unfold D.isKey at k; exact k)
  | 0, .tup ds, _, _, _, k, _ => by simp [D.isKey] at k
  | n + 1, .tup ds, _, _, h, k, r => by
    obtain ⟨a, vs, rfl, h1, h2⟩ := Rep.isT h
    cases r
    obtain ⟨its, rv, ⟨o, ho, hc, c, hd⟩, _⟩ := I.tuple h1
    refine .tup ho hc hd ?_
    rw [List.toList_toArray]
    exact isKs_of I h2 (by unfold D.isKey at k; exact k) rv
  | _, .non, _, _, _, k, _ => by simp [D.isKey] at k
  | _, .bl _, _, _, _, k, _ => by simp [D.isKey] at k
  | _, .lst _, _, _, _, k, _ => by simp [D.isKey] at k
theorem isKs_of (I : Inv X pins σ H s) : ∀ {n : Nat} {ds : List D} {vs : List V} {us : List Value}, Reps X.K H R ds vs → ds.all (D.isKey n) = true → Vals vs us → IsKs s.heap n ds us
  | _, [], _, _, .nil, _, r => by cases r; exact .nil
  | n, d :: ds, _, _, .cons h t, k, r => by
    rw [List.all_cons, Bool.and_eq_true] at k
    cases r with
    | cons r1 r2 => exact .cons (isK_of I h k.1 r1) (isKs_of I t k.2 r2)
end
def KeysOk (K : PySem.W.Frag) (H : Hp) (R : List Addr) (xs : List (D × Addr × Value)) : Prop := ∀ q ∈ xs, Rep K H R q.1 (.ref q.2.1) ∧ D.isKey 8 q.1 = true
theorem dx_obj {a : Addr} {xs : List (D × Addr × Value)} (I : Inv X pins σ H s) (e : H a = some (.ext (DX X.prog X.w a xs))) : DX X.prog X.w a xs s.heap :=
  (show ObjOk X.prog X.w H s.heap a (.ext (DX X.prog X.w a xs)) from I.hok a _ e).1
theorem dx_of {a : Addr} {xs : List (D × Addr × Value)} (I : Inv X pins σ H s) (e : H a = some (.ext (DX X.prog X.w a xs))) (k : KeysOk X.K H R xs) : s.heap.DictOfH (treeKind X.prog X.w) a xs ∧ xs.length ≤ sizeLine ∧ (a == sysModules) = false := by
  obtain ⟨o, es, ep, h1, h2, h3, h4, h5, h6, h7⟩ := dx_obj I e
  exact ⟨⟨o, es, ep, h1, h2, h3, h4, fun x hx => isK_of I (k x hx).1 (k x hx).2 rfl, h5⟩, h6, h7⟩
theorem dx_ok {P : Program} {w : World} {H' : Hp} {h' : Heap} {a : Addr} {xs : List (D × Addr × Value)} (d : h'.DictOfH (treeKind P w) a xs) (hl : xs.length ≤ sizeLine) (hs : (a == sysModules) = false) : ObjOk P w H' h' a (.ext (DX P w a xs)) := by
  obtain ⟨o, es, ep, h1, h2, h3, h4, _, h5⟩ := d
  refine ⟨⟨o, es, ep, h1, h2, h3, h4, h5, hl, hs⟩, ⟨o, h1⟩, fun g1 g2 q k => ?_⟩
  obtain ⟨o, es, ep, h1, q⟩ := q
  exact ⟨o, es, ep, k _ h1, q⟩
end

/-! ### the rules by values -/
def rInX (P : Program) (w : World) (K : PySem.W.Frag) (ng : Bool) : R2 := fun x y H Q => ∃ (a b : Addr) (d : D) (xs : List (D × Addr × Value)) (R : List Addr), x = .ref b ∧ y = .ref a ∧ H a = some (.ext (DX P w a xs)) ∧ KeysOk K H R xs ∧ Rep K H R d x ∧ D.isKey 8 d = true ∧
  Q (.bl (if ng = true then !(atKey xs d).isSome else (atKey xs d).isSome)) H
def rIxX (P : Program) (w : World) (K : PySem.W.Frag) : R2 := fun x y H Q => ∃ (a b : Addr) (d : D) (xs : List (D × Addr × Value)) (R : List Addr) (p : Addr × Value) (v : V), y = .ref b ∧ x = .ref a ∧ H a = some (.ext (DX P w a xs)) ∧ KeysOk K H R xs ∧ Rep K H R d y ∧ D.isKey 8 d = true ∧
  atKey xs d = some p ∧ RelV v p.2 ∧ Q v H
def tSetX (P : Program) (w : World) (K : PySem.W.Frag) : TSet := fun x y v H Q => ∃ (a b : Addr) (d : D) (xs : List (D × Addr × Value)) (R : List Addr), y = .ref b ∧ x = .ref a ∧ H a = some (.ext (DX P w a xs)) ∧ KeysOk K H R xs ∧ a ∈ R ∧ Rep K H R d y ∧ D.isKey 8 d = true ∧ xs.length < sizeLine ∧
  ∀ u, RelV v u → Q (upd H a (.ext (DX P w a (storedH xs d b u))))
def tNewX (P : Program) (w : World) : TE := fun _ H Q => ∀ p, H p = none → Q (.ref p) (upd H p (.ext (DX P w p [])))
section
variable {X : Cx}
theorem room_X {P : Program} {w : World} {A : Around} (hu : A.units + 65 < cLine) : (treeKind P w).room A.in1 := by
  show A.units + 1 + 32 < cLine
  omega
theorem op_inX (hu : X.A.units + 65 < cLine) : OpR X (compareOp .In) (rInX X.prog X.w X.K false) := by
  intro pins s σ H x y v u Q I rx ry h
  obtain ⟨a, b, d, xs, R, rfl, rfl, e, ks, rd, kd, q⟩ := h
  cases rx; cases ry
  obtain ⟨dd, _, hs⟩ := dx_of I e ks
  exact wpAny_in_heap (room_X hu) (isK_of I rd kd rfl) hs dd ⟨.bl _, H, I.tok _, rfl, q⟩
theorem op_notInX (hu : X.A.units + 65 < cLine) : OpR X (compareOp .NotIn) (rInX X.prog X.w X.K true) := by
  intro pins s σ H x y v u Q I rx ry h
  obtain ⟨a, b, d, xs, R, rfl, rfl, e, ks, rd, kd, q⟩ := h
  cases rx; cases ry
  obtain ⟨dd, _, hs⟩ := dx_of I e ks
  exact wpAny_notIn_heap (room_X hu) (isK_of I rd kd rfl) hs dd ⟨.bl _, H, I.tok _, rfl, q⟩
theorem ix_X (hu : X.A.units + 65 < cLine) : IxR X (rIxX X.prog X.w X.K) := by
  intro value slice pins s σ H x y v u Q I rx ry h hs
  obtain ⟨a, b, d, xs, R, p, z, rfl, rfl, e, ks, rd, kd, hp, rz, q⟩ := h
  cases rx; cases ry
  obtain ⟨dd, _, _⟩ := dx_of I e ks
  exact tail_any dd.typeIs PySem.F.slot_dict_getitem.lookup (wpAny_getItem_heap (room_X hu) (isK_of I rd kd rfl) dd hp ⟨z, H, I.tok _, rz, q⟩) hs
theorem set_X (hu : X.A.units + 65 < cLine) : PSet X (tSetX X.prog X.w X.K) := by
  intro pins s σ H o i v ov iv u Q I ro ri rv h
  obtain ⟨a, b, d, xs, R, rfl, rfl, e, ks, ha, rd, kd, hl, q⟩ := h
  cases ro; cases ri
  obtain ⟨dd, hz, hs⟩ := dx_of I e ks
  refine wpAny_setItem_heap (hsz := hz) (room_X hu) (isK_of I rd kd rfl) dd fun h' dd' hsb => ?_
  have he : ∃ q, h'.get? a = some q := let ⟨q, _, _, hq, _⟩ := dd'; ⟨q, hq⟩
  have hlen : (storedH xs d b u).length ≤ sizeLine := by
    unfold storedH
    split
    · rw [List.length_map]; exact hz
    · rw [List.length_append, List.length_singleton]; omega
  exact ⟨_, d_write I (by rw [e]; exact True.intro) hsb he (dx_ok dd' hlen hs), q u rv⟩
theorem pe_newX {pos : Pos} : PE X (.Dict [] [] pos) (tNewX X.prog X.w) := ⟨fun pins s σ H Q I h =>
  wpAny_Dict_empty ⟨.ref s.heap.objs.size, _, I.laid (a := s.heap.objs.size) (t' := s.toks) (fun _ _ q => Heap.get?_push_of_some _ q) (Nat.le_refl _) (dx_ok (Heap.DictOfH.new s.heap) (Nat.zero_le _) (beq_eq_false_iff_ne.mpr (Nat.ne_of_gt I.big))), rfl, h _ (I.hok.fresh (Nat.le_refl _))⟩⟩
end

/-! ### their evaluator -/
abbrev PX (K : PySem.W.Frag) (H : Hp) (R : List Addr) : List (D × D) → List (D × Addr × Value) → Prop := Paired (fun (p : D × D) (q : D × Addr × Value) => p.1 = q.1 ∧ Rep K H R p.1 (.ref q.2.1) ∧ D.isKey 8 p.1 = true ∧ ∃ v, RelV v q.2.2 ∧ Rep K H R p.2 v)
section
variable {P : Program} {w : World} {K : PySem.W.Frag} {H : Hp} {R m : List Addr} {S : Sto} {r : RV} {v : V} {n : Nat} {kvs : List (D × D)} {xs : List (D × Addr × Value)}
theorem PX.keys : ∀ {kvs : List (D × D)} {xs : List (D × Addr × Value)}, PX K H R kvs xs → KeysOk K H R xs
  | _, _, .nil, q, hq => nomatch hq
  | _, _, .cons h t, q, hq => by
    rcases List.mem_cons.mp hq with e | hq
    · subst e
      obtain ⟨h1, h2, h3, _⟩ := h
      rw [← h1]
      exact ⟨h2, h3⟩
    · exact PX.keys t q hq
theorem PX.at (k : D) : ∀ {kvs : List (D × D)} {xs : List (D × Addr × Value)}, PX K H R kvs xs → (∀ d, dGet kvs k = some d → ∃ p v, atKey xs k = some p ∧ RelV v p.2 ∧ Rep K H R d v) ∧ (dGet kvs k).isSome = (atKey xs k).isSome
  | _, _, .nil => ⟨fun d h => by simp [dGet] at h, rfl⟩
  | _, _, .cons (a := p) (b := q) h t => by
    obtain ⟨h1, h2, h3, v, h4, h5⟩ := h
    rw [dGet_cons, atKey_cons, h1]
    by_cases e : q.1 = k
    · rw [if_pos e, if_pos e]
      exact ⟨fun d hd => by cases hd; exact ⟨_, v, rfl, h4, h5⟩, rfl⟩
    · rw [if_neg e, if_neg e]
      exact PX.at k t
theorem PX.put (k : D) {d : D} {b : Addr} {v : V} {u : Value} (hk : Rep K H R k (.ref b)) (hi : D.isKey 8 k = true) (hv : RelV v u) (hd : Rep K H R d v) (h : PX K H R kvs xs) : PX K H R (dPut kvs k d) (storedH xs k b u) := by
  have q := (PX.at k h).2
  unfold dPut storedH
  rw [q]
  by_cases e : (atKey xs k).isSome = true
  · rw [if_pos e, if_pos e]
    clear q e
    unfold PX at h ⊢
    induction h with
    | nil => exact .nil
    | @cons p q ps qs h t ih =>
      rw [List.map_cons, List.map_cons]
      refine .cons ?_ ih
      obtain ⟨h1, h2, h3, v', h4, h5⟩ := h
      unfold putAt
      by_cases e : p.1 = k
      · rw [if_pos e, if_pos (h1.symm.trans e)]
        exact ⟨h1, h2, h3, v, hv, hd⟩
      · rw [if_neg e, if_neg (fun z => e (h1.trans z))]
        exact ⟨h1, h2, h3, v', h4, h5⟩
  · rw [if_neg e, if_neg e]
    exact Paired.snoc h ⟨rfl, hk, hi, v, hv, hd⟩
def isDX (r : RV) (S : Sto) : Option (Nat × List (D × D)) := match r with
  | .o n => (match S[n]? with
    | some (.dcx kvs) => some (n, kvs)
    | _ => none)
  | _ => none
theorem dx_view (hS : Sim P w K H R m S) (h : RepV K H R m r v) (e : isDX r S = some (n, kvs)) : ∃ a xs, v = .ref a ∧ m[n]? = some a ∧ H a = some (.ext (DX P w a xs)) ∧ PX K H R kvs xs ∧ S[n]? = some (.dcx kvs) := by
  unfold isDX at e
  split at e
  · split at e
    · rename_i hn
      cases e
      obtain ⟨a, h1, rfl⟩ := h
      obtain ⟨xs, h2, h3⟩ := hS.at_ _ a _ h1 hn
      exact ⟨a, xs, rfl, h1, h2, h3, hn⟩
    · cases e
  · cases e
end
def tKey (r : RV) : Option D := match r with
  | .d (.tup ds) => if D.isKey 8 (.tup ds) = true then some (.tup ds) else none
  | _ => none
theorem tKey_view {K : PySem.W.Frag} {H : Hp} {R m : List Addr} {r : RV} {v : V} {d : D} (h : RepV K H R m r v) (e : tKey r = some d) : ∃ b, v = .ref b ∧ Rep K H R d v ∧ D.isKey 8 d = true := by
  unfold tKey at e
  split at e
  · split at e
    · rename_i hk
      cases e
      obtain ⟨b, _, rfl, _⟩ := Rep.isT h
      exact ⟨b, rfl, h, hk⟩
    · cases e
  · cases e
def vInX (ng : Bool) : Op2 := fun x y S => (isDX y S).bind fun q => (tKey x).bind fun d => some (.d (.bl (if ng = true then !(dGet q.2 d).isSome else (dGet q.2 d).isSome)))
def vIxX : Op2 := fun x y S => (isDX x S).bind fun q => (tKey y).bind fun d => (dGet q.2 d).map RV.d
section
variable {X : Cx}
theorem ov_inX (ng : Bool) : OpV X (rInX X.prog X.w X.K ng) (vInX ng) := by
  intro H R m S x y v u res hS hx hy e Q k
  obtain ⟨⟨n, kvs⟩, e1, e⟩ := bind_some e
  obtain ⟨d, e2, e⟩ := bind_some e
  cases e
  obtain ⟨a, xs, rfl, h1, h2, h3, h4⟩ := dx_view hS hy e1
  obtain ⟨b, rfl, h5, h6⟩ := tKey_view hx e2
  refine ⟨a, b, d, xs, R, rfl, rfl, h2, h3.keys, h5, h6, ?_⟩
  rw [← (PX.at d h3).2]
  exact k _ _ .refl hS (.bl _)
theorem ov_ixX : OpV X (rIxX X.prog X.w X.K) vIxX := by
  intro H R m S x y v u res hS hx hy e Q k
  obtain ⟨⟨n, kvs⟩, e1, e⟩ := bind_some e
  obtain ⟨d, e2, e⟩ := bind_some e
  obtain ⟨z, e3, rfl⟩ := Option.map_eq_some_iff.mp e
  obtain ⟨a, xs, rfl, h1, h2, h3, h4⟩ := dx_view hS hx e1
  obtain ⟨b, rfl, h5, h6⟩ := tKey_view hy e2
  obtain ⟨p, zv, h7, h8, h9⟩ := (PX.at d h3).1 z e3
  exact ⟨a, b, d, xs, R, p, zv, rfl, rfl, h2, h3.keys, h5, h6, h7, h8, k _ _ .refl hS h9⟩
theorem e_ix {r : R2} {op : Op2} {a b : Expr} {f g : Fe RV} {pos : Pos} (hr : IxR X r) (hv : OpV X r op) (ha : PE X a (TV X f)) (hb : PE X b (TV X g)) (hs : PlainIx b) : PE X (.Subscript a b pos) (TV X (eBin op f g)) :=
  pe_weak (pe_ix hr ha hb hs) fun σ H Q h => tv_bin hv h
def eNewX : Fe RV := fun _ S => some (.o S.length, S ++ [.dcx []])
theorem e_newX {pos : Pos} : PE X (.Dict [] [] pos) (TV X eNewX) := pe_weak pe_newX fun σ H Q ⟨ρ, R, m, S, r, S', hE, hS, e, k⟩ => by
  cases e
  intro p hp
  refine k _ _ _ _ (.own hp) (hS.own hp ⟨[], upd_same, .nil⟩) ⟨p, ?_, rfl⟩
  rw [← hS.len, List.getElem?_append_right (Nat.le_refl _), Nat.sub_self]
  rfl
def sSubX (fo fi fe : Fe RV) : Fs := fun ρ S => (fe ρ S).bind fun v => (fo ρ v.2).bind fun o => (fi ρ o.2).bind fun i => (isDX o.1 i.2).bind fun q => (tKey i.1).bind fun k => match v.1 with
  | .d d => if q.2.length < Lim then some (.nx, ρ, i.2.set q.1 (.dcx (dPut q.2 k d))) else none
  | _ => none
theorem s_subX {o i e : Expr} {fo fi f : Fe RV} {pos pos' : Pos} (hu : X.A.units + 65 < cLine) (ho : PE X o (TV X fo)) (hi : PE X i (TV X fi)) (he : PE X e (TV X f))
    (ha : ∀ v, assign (.Subscript o i pos') X.env v = (do
      let ov ← holding [v] (eval o X.env)
      let iv ← holding [v, ov] (eval i X.env)
      standAt pos'
      holding [v, ov, iv] (setItem ov iv v)
      release [v, ov, iv] [])) (hs : swapsWithSole [.Subscript o i pos'] e pos.line X.env = pure false) (hw : swappedStores [.Subscript o i pos'] e X.env = pure none) (h1 : (assignEach [.Subscript o i pos'] X.env).map (·.2) = [assign (.Subscript o i pos') X.env]) :
    PS X (.Assign [.Subscript o i pos'] e pos) (TSf X (sSubX fo fi f)) := ps_weak (ps_asg he (pg_sub ho hi (set_X hu) ha) hs hw h1) fun D σ H ⟨ρ, R, m, S, fl, ρ', S', hE, hS, e, k⟩ => by
  obtain ⟨⟨v, S1⟩, e1, ea⟩ := bind_some e
  obtain ⟨⟨ov, S2⟩, e2, eb⟩ := bind_some ea
  obtain ⟨⟨iv, S3⟩, e3, ec⟩ := bind_some eb
  obtain ⟨⟨n, kvs⟩, e4, ed⟩ := bind_some ec
  obtain ⟨kk, e5, ee⟩ := bind_some ed
  clear e ea eb ec ed
  refine ⟨ρ, R, m, S, v, S1, hE, hS, e1, fun vv H1 R1 m1 x1 s1 r1 => ?_⟩
  have E1 := hE.ext x1 hS.sub
  refine ⟨ρ, R1, m1, S1, ov, S2, E1, s1, e2, fun oo H2 R2 m2 x2 s2 r2 => ?_⟩
  have E2 := E1.ext x2 s1.sub
  refine ⟨ρ, R2, m2, S2, iv, S3, E2, s2, e3, fun ii H3 R3 m3 x3 s3 r3 => ?_⟩
  have E3 := E2.ext x3 s2.sub
  simp only at ee
  split at ee
  · rename_i d
    split at ee
    · rename_i hl
      cases ee
      obtain ⟨a, xs, rfl, h1, h2, h3, h4⟩ := dx_view s3 (r2.ext x3 s2.sub) e4
      obtain ⟨b, rfl, h5, h6⟩ := tKey_view r3 e5
      have rd : Rep X.K H3 R3 d vv := RepV.ext x3 s2.sub (RepV.ext x2 s1.sub r1)
      have hm := List.mem_of_getElem? h1
      have hlen : kvs.length = xs.length := Paired.length h3
      refine ⟨a, b, kk, xs, R3, rfl, rfl, h2, h3.keys, s3.sub _ hm, h5, h6, by rw [lim_eq, ← hlen]; exact hl, fun u hu => ?_⟩
      have x4 := Ext.chg (H := H3) (R := R3) (o := .ext (DX X.prog X.w a (storedH xs kk b u))) hm (by rw [h2]; intro z; cases z)
      refine k _ _ _ _ (((x1.trans x2).trans x3).trans x4) (s3.chg h1 ⟨_, upd_same, ?_⟩) (E3.ext x4 s3.sub)
      exact Paired.mapP (PX.put kk h5 h6 hu rd h3) fun _ _ ⟨z1, z2, z3, v, z4, z5⟩ => ⟨z1, Rep.ext x4 s3.sub z2, z3, v, z4, Rep.ext x4 s3.sub z5⟩
    · cases ee
  · cases ee
end
end Ev

/-! The evaluator, part L: a tuple backwards. -/
namespace Ev
open PySem PySem.Spec PyProof.Rows L2

section
variable {prog : Program} {w : World} {A : Around} {E : Value → Shared → Prop} {s : Shared}
theorem back_pick (xs : Array Value) : ((List.range xs.size).filterMap fun (m : Nat) => xs[(((xs.size : Int) - 1) + (m : Int) * (-1)).toNat]?).toArray = xs.toList.reverse.toArray := by
  congr 1
  refine List.ext_getElem? fun i => ?_
  have hall : ∀ (l : List Nat) (f : Nat → Option Value) (g : Nat → Value), (∀ m ∈ l, f m = some (g m)) → l.filterMap f = l.map g := by
    intro l f g
    induction l with
    | nil => intro _; rfl
    | cons a l ih =>
      intro h
      rw [List.filterMap_cons, h a List.mem_cons_self, List.map_cons, ih fun m hm => h m (List.mem_cons_of_mem _ hm)]
  rw [hall (List.range xs.size) _ (fun m => xs.toList.getD (xs.size - 1 - m) default) fun m hm => ?_]
  · by_cases hi : i < xs.size
    · rw [List.getElem?_map, List.getElem?_range hi, List.getElem?_reverse (by simpa using hi)]
      have : xs.size - 1 - i < xs.toList.length := by simp; omega
      simp only [Option.map_some, Array.length_toList]
      rw [List.getElem?_eq_getElem this, List.getD_eq_getElem?_getD, List.getElem?_eq_getElem this]
      rfl
    · rw [List.getElem?_eq_none (by simp; omega), List.getElem?_eq_none (by simp; omega)]
  · have hm := List.mem_range.mp hm
    have e : (((xs.size : Int) - 1) + (m : Int) * (-1)).toNat = xs.size - 1 - m := by omega
    rw [e]
    have : xs.size - 1 - m < xs.toList.length := by simp; omega
    rw [List.getD_eq_getElem?_getD, List.getElem?_eq_getElem this, ← Array.getElem?_toList, List.getElem?_eq_getElem this]
    rfl
theorem getItem_tuple_back {t sl : Addr} {items : Array Value} {vs : Value} {Q : Value → Shared → Prop} (ht : IsTup s.heap t items) (hs : s.heap.IsSliceOf sl .none .none vs) (ps : IsPart vs (some (-1)))
    (h : Q (.ref s.heap.objs.size) { s with heap := s.heap.push { cls := .type "tuple", data := .seq items.toList.reverse.toArray } })
    (hsz : items.size ≤ sizeLine) : wpAny (model prog w) A (getItem (.ref t) (.ref sl)) Q E s := by
  have htake : sizeOk (.seq items.toList.reverse.toArray) := by
    show items.toList.reverse.toArray.size ≤ sizeLine
    simpa using hsz
  obtain ⟨os, hos, hcs, hds⟩ := id hs
  have hTs : s.TypeIs (.ref sl) "slice" := ⟨os, hos, hcs⟩
  unfold getItem
  try with_reducible refine wpAny_holding ?_
  first | refine wpAny_bind (wpAny_pure ?_) | skip
  refine wpAny_bind (wpAny_sequenceKey ht.typeIs (by decide) ?_)
  refine wpAny_bind (wpAny_callSpecial?_slot (name := Str.ofString "__getitem__") ht.typeIs PyProof.Rows.slot_tuple_getitem
    (wpAny_call_entry PyProof.Rows.slot_tuple_getitem ht.typeIs entry_tuple_getitem ?_ (args_tuple_getitem _ _)))
  show wpAny _ _ (Builtin.Tuple.tupleItemsOf (.ref t) >>= _) _ _ s
  refine wpAny_bind (tupleItemsOf_ ht ?_)
  refine wpAny_bind (wpAny_typeOf hTs ?_)
  rw [if_pos (by decide)]
  refine wpAny_bind ?_
  unfold Builtin.Slice.sliceApplied Builtin.Slice.sliceFields
  refine wpAny_bind (wpAny_bind (wpAny_field hos hds (x := .none) rfl (wpAny_bind (wpAny_field hos hds (x := .none) rfl (wpAny_bind (wpAny_field hos hds (x := vs) rfl (wpAny_pure ?_)))))))
  refine wpAny_bind (HT.slicePart_ ps ?_)
  show wpAny _ _ (if ((-1 : Int) == 0) = true then _ else _) _ _ s
  rw [if_neg (by decide)]
  refine wpAny_bind (slicePart_none (wpAny_bind (slicePart_none (wpAny_bind (wpAny_pure ?_)))))
  show wpAny _ _ (pure ((items.size : Int) - 1, (-1 : Int), Builtin.Slice.slicePlaces ((items.size : Int) - 1) (-1) (-1))) _ _ s
  have hp : Builtin.Slice.slicePlaces ((items.size : Int) - 1) (-1) (-1) = items.size := by
    unfold Builtin.Slice.slicePlaces
    have h1 : ¬ ((-1 : Int) > 0) := by omega
    simp only [h1, if_false, show -(-1 : Int) = 1 from rfl, Int.ediv_one]
    split <;> omega
  rw [hp]
  refine wpAny_pure ?_
  show wpAny _ _ (if (((items.size : Int) - 1) == 0 && (-1 : Int) == 1 && items.size == items.size) = true then _ else _) _ _ s
  rw [if_neg (by simp), back_pick]
  first
    | exact wpAny_bind (m := Builtin.Tuple.tupleExact _) (wpAny_newObj_type (wpAny_pure ⟨_, rfl, wpAny_pure h⟩) htake)
    | exact wpAny_bind (m := Builtin.Tuple.tupleExact _) (wpAny_newObj_type (wpAny_bind (wpAny_pure (wpAny_pure ⟨_, rfl, wpAny_pure h⟩))) htake)
    | exact wpAny_bind (wpAny_bind (m := Builtin.Tuple.tupleExact _) (wpAny_newObj_type (wpAny_pure (wpAny_pure ⟨_, rfl, wpAny_pure h⟩)) htake))
    | exact wpAny_bind (wpAny_bind (m := Builtin.Tuple.tupleExact _) (wpAny_newObj_type (wpAny_pure ⟨_, rfl, wpAny_pure h⟩) htake))
end

def tRevT (K : PySem.W.Frag) (te : TE) : TE := fun σ H Q => te σ H fun x H1 => ∃ a xs, x = .ref a ∧ SqT K H1 a xs ∧ ∀ p, H1 p = none → Q (.ref p) (upd H1 p (.tup xs.reverse))
theorem pe_revT {X : Cx} {e : Expr} {te : TE} {k : Nat} {p1 p2 p3 pos : Pos} (he : PE X e te) : PE X (.Subscript e (.Slice none none (some (.UnaryOp .USub (.Constant (.int 1) k p1) p2)) p3) pos) (tRevT X.K te) := by
  refine ⟨fun pins s σ H Q I h => ?_⟩
  refine Subscript_ (thn (he.run pins s σ H _ I h) fun v s1 ⟨x, H1, I1, r1, q1⟩ => ?_)
  obtain ⟨a, xs, ex, hx, q⟩ := q1
  subst ex
  cases r1
  have hst : PO X (some (.UnaryOp .USub (.Constant (.int 1) k p1) p2)) (tPart (tUn (rU fun i => .int (-i)) (tC (.int 1)))) := po_some (pe_un un_neg pe_int)
  refine wpAny_Slice (thn (po_none.run pins s1 σ H1 (fun o H2 => o = none ∧ H2 = H1) I1 ⟨rfl, rfl⟩) fun vl s2 ⟨l, H2, I2, pl, el, e2⟩ => ?_)
  subst el e2
  refine thn (po_none.run pins s2 σ H2 (fun o H3 => o = none ∧ H3 = H2) I2 ⟨rfl, rfl⟩) fun vu s3 ⟨u, H3, I3, pu, eu, e3⟩ => ?_
  subst eu e3
  refine thn (hst.run pins s3 σ H3 (fun o H4 => o = some (-1) ∧ H4 = H3) I3 ⟨1, rfl, -1, rfl, rfl, rfl⟩) fun vs s4 ⟨o, H4, I4, ps, eo, e4⟩ => ?_
  subst eo e4
  have I5 : Inv X pins σ H4 { s4 with heap := s4.heap.push { cls := .type "slice", data := .fields #[vl, vu, vs] } } := I4.kept (t' := s4.toks) fun b ob q => Heap.get?_push_of_some _ q
  cases pl
  cases pu
  obtain ⟨its, r, ht, hz⟩ := I5.tuple hx
  have hlen := r.length
  show wpAny (model X.prog X.w) X.A (subscriptTail e (.Slice none none (some (.UnaryOp .USub (.Constant (.int 1) k p1) p2)) p3) (.ref a) (.ref s4.heap.objs.size)) (EP X pins σ Q) X.xe { s4 with heap := s4.heap.push { cls := .type "slice", data := .fields #[.none, .none, vs] } }
  refine tail_any (ops := [.ref a, .ref s4.heap.objs.size]) ht.typeIs PyProof.Rows.slot_tuple_getitem.lookup ?_ (by with_unfolding_all rfl)
  refine getItem_tuple_back ht (Heap.IsSliceOf.new _ .none .none vs) ps ?_ (by rw [List.size_toArray]; omega)
  refine ⟨.ref _, _, I5.laid (t' := s4.toks) (o := .tup xs.reverse) (fun b ob q => Heap.get?_push_of_some _ q) (Nat.le_refl _) ?_, rfl, q _ (I5.hok.fresh (Nat.le_refl _))⟩
  exact ⟨by rw [List.length_reverse]; exact hz, _, r.reverse, _, Heap.get?_push_size _ rfl, rfl, _, rfl⟩
def eRevT (f : Fe RV) : Fe RV := fMap f fun x _ => (lookT x).map fun ds => .d (.tup ds.reverse)
theorem e_revT {X : Cx} {e : Expr} {f : Fe RV} {k : Nat} {p1 p2 p3 pos : Pos} (he : PE X e (TV X f)) : PE X (.Subscript e (.Slice none none (some (.UnaryOp .USub (.Constant (.int 1) k p1) p2)) p3) pos) (TV X (eRevT f)) :=
  pe_weak (pe_revT he) fun σ H Q ⟨ρ, R, m, S, r, S', hE, hS, e, k⟩ => by
    obtain ⟨x, e1, e2⟩ := fMap_some e
    obtain ⟨ds, e3, rfl⟩ := Option.map_eq_some_iff.mp e2
    refine ⟨ρ, R, m, S, x, S', hE, hS, e1, fun v H1 R1 m1 x1 s1 r1 => ?_⟩
    obtain ⟨a, vs, rfl, h4, h5⟩ := lookT_view r1 e3
    exact ⟨a, vs, rfl, h4, fun p hp => k _ _ _ _ (x1.trans (.new hp)) (s1.new hp) (.tup (.inl upd_same) (s1.notR hp) (h5.reverse.ext (.new hp) s1.sub))⟩
end Ev

/-! The evaluator, part M: the rules in the form that the printed proofs name. -/
namespace Ev
open PySem PySem.Spec PyProof.Rows L2

theorem room65 {k : Nat} {A : Around} (r : Room k A) : A.units + 65 < cLine := by have := r.un; omega
section
variable {X : Cx} {a b c e o : Expr} {es : List Expr} {pos p apos cpos : Pos} {x : Str} {f g fo : Fe RV} {h : Fe (List RV)} {t : Fe Bool}
theorem V (i : Nat) (hN : X.N[i]? = some x := by rfl) (hv : Vis X.env.scope x := by first | exact .inl rfl | exact .inr (.inl rfl) | exact .inr (.inr rfl)) (hd : (x == ("__debug__" : Str)) = false := by decide) (hcd : (x == ("__classdict__" : Str)) = false := by decide) :
    PE X (.Name x pos) (TV X (eVar i)) := e_var hN hv hd hcd
theorem TY (tn : Tn) (hm : X.mg x = none) (hg : Gl X x := by rfl) (hv : bootBuiltins x = some (.type tn.name) := by decide +kernel) (hn : x ≠ "__name__" := by decide) (hd : (x == ("__debug__" : Str)) = false := by decide) : PE X (.Name x pos) (TV X (eTy tn)) := e_ty hg hm hv hn hd
theorem AC (ha : PE X e (TV X f)) (hr : PA X es (TAs X h)) (hs : starEach (e :: es) X.env = (false, eval e X.env) :: starEach es X.env := by rfl) : PA X (e :: es) (TAs X (aCons f h)) := a_cons ha hr hs

/-- a constant of the module -/
structure Con (K : PySem.W.Frag) (mg : Str → Option Value) (x : Str) (d : D) : Prop where
  ex : ∃ u v, mg x = some u ∧ RelV v u ∧ ∀ H R, Rep K H R d v
theorem GC {d : D} (c : Con X.K X.mg x d) (hg : Gl X x := by rfl) (hd : (x == ("__debug__" : Str)) = false := by decide) : PE X (.Name x pos) (TV X (eC d)) := by
  obtain ⟨u, v, h1, h2, h3⟩ := c.ex
  exact e_glob hg h1 h2 (fun H => h3 H []) (fun H R _ => h3 H R) hd

/-! ### built-ins -/
variable (hm : X.mg x = none)
theorem B_len (hm : X.mg "len" = none) (ha : PA X (e :: es) (TAs X h)) (hg : Gl X "len" := by rfl) (he : starEach (e :: es) X.env = (false, eval e X.env) :: starEach es X.env := by rfl) (hpl : (backTo pos (starEach es X.env)).any (·.1) = false := by rfl) :
    PE X (.Call (.Name "len" p) (e :: es) [] pos) (TV X (eCall bLen h)) := pe_weak (pe_callB call_len hg hm boot_len ha (he := he) (hpl := hpl)) fun _ _ _ => tv_call cv_len
theorem B_isi (hm : X.mg "isinstance" = none) (ha : PA X (e :: es) (TAs X h)) (hg : Gl X "isinstance" := by rfl) (he : starEach (e :: es) X.env = (false, eval e X.env) :: starEach es X.env := by rfl) (hpl : (backTo pos (starEach es X.env)).any (·.1) = false := by rfl) :
    PE X (.Call (.Name "isinstance" p) (e :: es) [] pos) (TV X (eCall bIsi h)) := pe_weak (pe_callB call_isi hg hm (by decide +kernel) ha (he := he) (hpl := hpl)) fun _ _ _ => tv_call cv_isi
theorem B_all (hm : X.mg "all" = none) (ha : PA X (e :: es) (TAs X h)) (hc : X.calm = true := by rfl) (hg : Gl X "all" := by rfl) (he : starEach (e :: es) X.env = (false, eval e X.env) :: starEach es X.env := by rfl) (hpl : (backTo pos (starEach es X.env)).any (·.1) = false := by rfl) :
    PE X (.Call (.Name "all" p) (e :: es) [] pos) (TV X (eCall (bBools fun bs => bs.all id) h)) := pe_weak (pe_callB (cr_all hc) hg hm (by decide +kernel) ha (he := he) (hpl := hpl)) fun _ _ _ => tv_call cv_all
theorem B_any (hm : X.mg "any" = none) (ha : PA X (e :: es) (TAs X h)) (hc : X.calm = true := by rfl) (hg : Gl X "any" := by rfl) (he : starEach (e :: es) X.env = (false, eval e X.env) :: starEach es X.env := by rfl) (hpl : (backTo pos (starEach es X.env)).any (·.1) = false := by rfl) :
    PE X (.Call (.Name "any" p) (e :: es) [] pos) (TV X (eCall (bBools fun bs => bs.any id) h)) := pe_weak (pe_callB (cr_any hc) hg hm (by decide +kernel) ha (he := he) (hpl := hpl)) fun _ _ _ => tv_call cv_any
theorem B_sum (hm : X.mg "sum" = none) (ha : PA X (e :: es) (TAs X h)) (hc : X.calm = true := by rfl) (hg : Gl X "sum" := by rfl) (he : starEach (e :: es) X.env = (false, eval e X.env) :: starEach es X.env := by rfl) (hpl : (backTo pos (starEach es X.env)).any (·.1) = false := by rfl) :
    PE X (.Call (.Name "sum" p) (e :: es) [] pos) (TV X (eCall (bInts List.sum) h)) := pe_weak (pe_callB (cr_sum hc) hg hm (by decide +kernel) ha (he := he) (hpl := hpl)) fun _ _ _ => tv_call cv_sum
theorem B_abs (hm : X.mg "abs" = none) (ha : PA X (e :: es) (TAs X h)) (hg : Gl X "abs" := by rfl) (he : starEach (e :: es) X.env = (false, eval e X.env) :: starEach es X.env := by rfl) (hpl : (backTo pos (starEach es X.env)).any (·.1) = false := by rfl) :
    PE X (.Call (.Name "abs" p) (e :: es) [] pos) (TV X (eCall bAbs h)) := pe_weak (pe_callB call_abs hg hm (by decide +kernel) ha (he := he) (hpl := hpl)) fun _ _ _ => tv_call cv_abs
theorem B_max2 (hm : X.mg "max" = none) (ha : PA X (e :: es) (TAs X h)) (hc : X.calm = true := by rfl) (hg : Gl X "max" := by rfl) (he : starEach (e :: es) X.env = (false, eval e X.env) :: starEach es X.env := by rfl) (hpl : (backTo pos (starEach es X.env)).any (·.1) = false := by rfl) :
    PE X (.Call (.Name "max" p) (e :: es) [] pos) (TV X (eCall (bII fun i j => if j > i then j else i) h)) := pe_weak (pe_callB (call_max2 hc) hg hm (by decide +kernel) ha (he := he) (hpl := hpl)) fun _ _ _ => tv_call cv_max2
theorem B_min2 (hm : X.mg "min" = none) (ha : PA X (e :: es) (TAs X h)) (hc : X.calm = true := by rfl) (hg : Gl X "min" := by rfl) (he : starEach (e :: es) X.env = (false, eval e X.env) :: starEach es X.env := by rfl) (hpl : (backTo pos (starEach es X.env)).any (·.1) = false := by rfl) :
    PE X (.Call (.Name "min" p) (e :: es) [] pos) (TV X (eCall (bII fun i j => if j < i then j else i) h)) := pe_weak (pe_callB (call_min2 hc) hg hm (by decide +kernel) ha (he := he) (hpl := hpl)) fun _ _ _ => tv_call cv_min2
theorem B_int (hm : X.mg "int" = none) (ha : PA X (e :: es) (TAs X h)) (hg : Gl X "int" := by rfl) (he : starEach (e :: es) X.env = (false, eval e X.env) :: starEach es X.env := by rfl) (hpl : (backTo pos (starEach es X.env)).any (·.1) = false := by rfl) :
    PE X (.Call (.Name "int" p) (e :: es) [] pos) (TV X (eCall bInt h)) := pe_weak (pe_callTy call_int1 hg hm (by decide +kernel) ha (he := he) (hpl := hpl)) fun _ _ _ => tv_call cv_int
theorem B_tuple (hm : X.mg "tuple" = none) (ha : PA X (e :: es) (TAs X h)) (hg : Gl X "tuple" := by rfl) (he : starEach (e :: es) X.env = (false, eval e X.env) :: starEach es X.env := by rfl) (hpl : (backTo pos (starEach es X.env)).any (·.1) = false := by rfl) :
    PE X (.Call (.Name "tuple" p) (e :: es) [] pos) (TV X (eCall bTup h)) := pe_weak (pe_callTy call_tuple_of hg hm (by decide +kernel) ha (he := he) (hpl := hpl)) fun _ _ _ => tv_call cv_tup
theorem B_list (hm : X.mg "list" = none) (ha : PA X (e :: es) (TAs X h)) (hg : Gl X "list" := by rfl) (he : starEach (e :: es) X.env = (false, eval e X.env) :: starEach es X.env := by rfl) (hpl : (backTo pos (starEach es X.env)).any (·.1) = false := by rfl) :
    PE X (.Call (.Name "list" p) (e :: es) [] pos) (TL X (lCall bLst h)) := pe_weak (pe_callTy call_list_of hg hm (by decide +kernel) ha (he := he) (hpl := hpl)) fun _ _ _ => tl_call cl_lst

/-! ### defs -/
/-- a def that may be called by its name -/
structure Cal (P : Program) (w : World) (K : PySem.W.Frag) (mg : Str → Option Value) (base : Heap) (k : Nat) (x : Str) (sp : Sp) : Prop where
  ex : ∃ (f : Addr) (fd : FuncData) (ps : List Str), FnOk P w K mg base CX0 k f fd ps sp ∧ mg x = some (.ref f) ∧ PySem.W.keepIn K (.ref f) = true ∧ Binds K fd ps []
/-- a class that may be made by its name; sp: its __init__ -/
structure Mak (P : Program) (w : World) (K : PySem.W.Frag) (mg : Str → Option Value) (base : Heap) (k : Nat) (x : Str) (sp : Sp) : Prop where
  ex : ∃ (f : Addr) (fd : FuncData) (ps : List Str), Mk K (He.ga K x) f ∧ FnOk P w K mg base CX0 k f fd ps sp ∧ mg x = some (.ref (He.ga K x)) ∧ Binds K fd ps []
/-- a method of the class x -/
structure Met (P : Program) (w : World) (K : PySem.W.Frag) (mg : Str → Option Value) (base : Heap) (k : Nat) (x m : Str) (sp : Sp) : Prop where
  ex : ∃ (f : Addr) (fd : FuncData) (ps : List Str), Cls K (He.ga K x) ∧ Meth K (He.ga K x) m f ∧ FnOk P w K mg base CX0 k f fd ps sp ∧ Binds K fd ps []
variable {k n : Nat} {FP : List D → Option PR} {FS : List RV → Sto → Option (RV × Sto)}
theorem CP (c : Cal X.prog X.w X.K X.mg X.base k x (spP X.K n FP)) (hr : Room k X.A) (ha : PA X (e :: es) (TAs X h)) (hg : Gl X x := by rfl) (hdb : (x == ("__debug__" : Str)) = false := by decide) (he : starEach (e :: es) X.env = (false, eval e X.env) :: starEach es X.env := by rfl) (hpl : (backTo pos (starEach es X.env)).any (·.1) = false := by rfl) :
    PE X (.Call (.Name x p) (e :: es) [] pos) (TV X (eCallP n FP h)) := by
  obtain ⟨fa, fd, ps, F, h1, h2, h3⟩ := c.ex
  exact e_callP F hr hg h1 h2 h3 ha hdb he hpl
theorem LP (c : Cal X.prog X.w X.K X.mg X.base k x (spP X.K n FP)) (hr : Room k X.A) (ha : PA X (e :: es) (TAs X h)) (hg : Gl X x := by rfl) (hdb : (x == ("__debug__" : Str)) = false := by decide) (he : starEach (e :: es) X.env = (false, eval e X.env) :: starEach es X.env := by rfl) (hpl : (backTo pos (starEach es X.env)).any (·.1) = false := by rfl) :
    PE X (.Call (.Name x p) (e :: es) [] pos) (TL X (lCallP n FP h)) := by
  obtain ⟨fa, fd, ps, F, h1, h2, h3⟩ := c.ex
  exact l_callP F hr hg h1 h2 h3 ha hdb he hpl
theorem CS (c : Cal X.prog X.w X.K X.mg X.base k x (spS X.prog X.w X.K n FS)) (hr : Room k X.A) (ha : PA X (e :: es) (TAs X h)) (hg : Gl X x := by rfl) (hdb : (x == ("__debug__" : Str)) = false := by decide) (he : starEach (e :: es) X.env = (false, eval e X.env) :: starEach es X.env := by rfl) (hpl : (backTo pos (starEach es X.env)).any (·.1) = false := by rfl) :
    PE X (.Call (.Name x p) (e :: es) [] pos) (TV X (eCallS n FS h)) := by
  obtain ⟨fa, fd, ps, F, h1, h2, h3⟩ := c.ex
  exact e_callS F hr hg h1 h2 h3 ha hdb he hpl
theorem MK {cn : Str} (c : Mak X.prog X.w X.K X.mg X.base k cn (spS X.prog X.w X.K n FS)) (hc : Cls X.K (He.ga X.K cn)) (hr : Room (k + 1) X.A) (ha : PA X (e :: es) (TAs X h)) (hg : Gl X cn := by rfl) (hdb : (cn == ("__debug__" : Str)) = false := by decide) (he : starEach (e :: es) X.env = (false, eval e X.env) :: starEach es X.env := by rfl) (hpl : (backTo pos (starEach es X.env)).any (·.1) = false := by rfl) :
    PE X (.Call (.Name cn p) (e :: es) [] pos) (TV X (eMake cn n FS h)) := by
  obtain ⟨fa, fd, ps, M, F, h1, h3⟩ := c.ex
  exact e_make rfl hc M F hr hg h1 h3 ha hdb he hpl
theorem MT {cn m : Str} {pl : Sem Bool} (c : Met X.prog X.w X.K X.mg X.base k cn m (spS X.prog X.w X.K n FS)) (hr : Room k X.A) (ho : PE X o (TV X fo)) (ha : PA X (e :: es) (TAs X h)) (hst : starEach (e :: es) X.env = (false, eval e X.env) :: starEach es X.env := by rfl) (hpl : (backTo pos (starEach es X.env)).any (·.1) = false := by rfl)
    (ht : eval (.Call (.Attribute o m apos) (e :: es) [] pos) X.env = (do
      let ov ← eval o X.env
      standAt apos.atName
      let (f, first) ← holding [ov] (getMethod ov m pl)
      callWith pos f first (backTo pos (starEach (e :: es) X.env)) (backToKw pos (keywordEach [] X.env))) := by rfl) :
    PE X (.Call (.Attribute o m apos) (e :: es) [] pos) (TV X (eMeth cn m n FS fo h)) := by
  obtain ⟨fa, fd, ps, hc, hm, F, h3⟩ := c.ex
  exact e_meth rfl ho hc hm F hr h3 ha hst hpl ht

/-! ### fields, methods of lists -/
theorem FL {fl : Str} (he : PE X e (TV X f)) (hb : attributeBase e fl X.env (eval e X.env) = eval e X.env := by rfl) : PE X (.Attribute e fl pos) (TV X (eFld fl f)) := e_fld he hb
theorem M_pop (ho : PE X o (TV X f)) (hb : attributeBase o "pop" X.env (eval o X.env) = eval o X.env := by rfl) (hl : (apos.endLine == cpos.line) = true := by rfl) : PE X (.Call (.Attribute o "pop" apos) [] [] cpos) (TV X (eMl0 oPop f)) := e_pop ho hb hl
theorem M_reverse (ho : PE X o (TV X f)) (hb : attributeBase o "reverse" X.env (eval o X.env) = eval o X.env := by rfl) (hl : (apos.endLine == cpos.line) = true := by rfl) : PE X (.Call (.Attribute o "reverse" apos) [] [] cpos) (TV X (eMl0 oRev f)) := e_reverse ho hb hl
theorem M_append (ho : PE X o (TV X f)) (ha : PE X e (TV X g)) (hb : attributeBase o "append" X.env (eval o X.env) = eval o X.env := by rfl) (hl : (apos.endLine == cpos.line) = true := by rfl) (hs : starEach [e] X.env = (false, eval e X.env) :: starEach [] X.env := by rfl) :
    PE X (.Call (.Attribute o "append" apos) [e] [] cpos) (TV X (eMl1 oApp f g)) := e_append ho ha hb hl hs

/-! ### operators -/
theorem BO {op : Operator} {r : R2} {vop : Op2} (hr : OpR X (binaryOp op) r) (hv : OpV X r vop) (ha : PE X a (TV X f)) (hb : PE X b (TV X g)) : PE X (.BinOp a op b pos) (TV X (eBin vop f g)) := e_bin hr hv ha hb
theorem CM {op : CmpOp} {r : R2} {vop : Op2} (hr : OpR X (compareOp op) r) (hv : OpV X r vop) (ha : PE X a (TV X f)) (hb : PE X b (TV X g)) (hm : behindInMarks op b = false := by rfl) : PE X (.Compare a [op] [b] pos) (TV X (eBin vop f g)) := e_cmp hr hv ha hb hm
theorem CT {op : CmpOp} {r : R2} {vop : Op2} (hr : OpR X (compareOp op) r) (hv : OpV X r vop) (ha : PE X a (TV X f)) (hb : PE X b (TV X g)) (hm : behindInMarks op b = false := by rfl) : PT X (.Compare a [op] [b] pos) (TB X (fTest (eBin vop f g))) := t_cmp hr hv ha hb hm
theorem CH {op op' : CmpOp} {r r' : R2} {vop vop' : Op2} {g' : Fe RV} (hr : OpR X (compareOp op) r) (hv : OpV X r vop) (hr' : OpR X (compareOp op') r') (hv' : OpV X r' vop') (ha : PE X a (TV X f)) (hb : PE X b (TV X g)) (hc : PE X c (TV X g')) (hm : lastMarks [op, op'] [b, c] = false := by rfl) :
    PE X (.Compare a [op, op'] [b, c] pos) (TV X (eChain vop vop' f g g')) := e_chain hr hv hr' hv' ha hb hc hm
theorem CHT {op op' : CmpOp} {r r' : R2} {vop vop' : Op2} {g' : Fe RV} (hr : OpR X (compareOp op) r) (hv : OpV X r vop) (hr' : OpR X (compareOp op') r') (hv' : OpV X r' vop') (ha : PE X a (TV X f)) (hb : PE X b (TV X g)) (hc : PE X c (TV X g')) (hm : lastMarks [op, op'] [b, c] = false := by rfl) :
    PT X (.Compare a [op, op'] [b, c] pos) (TB X (fTest (eChain vop vop' f g g'))) := t_chain hr hv hr' hv' ha hb hc hm
theorem TR (ha : PE X e (TV X f)) (he : plainT e = true := by rfl) : PT X e (TB X (fTru f)) := t_tru ha he
theorem or_in (hu : X.A.units + 65 < cLine) : OpR X (compareOp .In) (fun x y H Q => rInD X.K x y H Q ∨ rInT X.K false x y H Q) := OpR.or (op_inD hu) (op_inT hu)
theorem or_nin (hu : X.A.units + 65 < cLine) : OpR X (compareOp .NotIn) (fun x y H Q => rNotInD X.K x y H Q ∨ rInT X.K true x y H Q) := OpR.or (op_notInD hu) (op_notInT hu)
def vIn (ng : Bool) : Op2 := (vInL ng).or (vInT ng)
theorem ov_in : OpV X (fun x y H Q => rInD X.K x y H Q ∨ rInT X.K false x y H Q) (vIn false) := OpV.or ov_inL (ov_inT false)
theorem ov_nin : OpV X (fun x y H Q => rNotInD X.K x y H Q ∨ rInT X.K true x y H Q) (vIn true) := OpV.or ov_notInL (ov_inT true)
theorem or_eq (hu : X.A.units + 65 < cLine) : OpR X (compareOp .Eq) (rEqD X.K) := op_eqD (by omega)
theorem or_ne (hu : X.A.units + 65 < cLine) : OpR X (compareOp .NotEq) (rNeD X.K) := op_neD (by omega)
theorem IX (ha : PE X a (TV X f)) (hb : PE X b (TV X g)) (hs : PlainIx b := by intro _ _; rfl) : PE X (.Subscript a b pos) (TV X (eBin vIx f g)) := e_ix ix_seq ov_ix ha hb hs
theorem IXX (hu : X.A.units + 65 < cLine) (ha : PE X a (TV X f)) (hb : PE X b (TV X g)) (hs : PlainIx b := by intro _ _; rfl) : PE X (.Subscript a b pos) (TV X (eBin vIxX f g)) := e_ix (ix_X hu) ov_ixX ha hb hs

/-! ### statements, targets -/
theorem SE (he : PE X e (TV X f)) (hs : swapsWith e none pos.line X.env = pure false := by rfl) : PS X (.Expr e pos) (TSf X (sExpr f)) := s_expr he hs
theorem GN (i : Nat) (hN : X.N.Nodup) (hi : X.N[i]? = some x := by rfl) (hx : Loc X.env.scope x := by first | exact .inl rfl | exact .inr rfl) (hf : X.fn x = true ∨ X.env.scope.names.lookup x = some .local := by first | exact .inl rfl | exact .inr rfl) : PG X (.Name x pos) (TGr X [i] (gN i)) := g_name hN hi hx hf
theorem GS {gg : Gt} {gs : List D → Env' → Option Env'} {sl sl' : List Nat} (h1 : PG X e (TGr X sl gg)) (h2 : PGs X es (TGrs X sl' gs)) (hs : (assignEach (e :: es) X.env).map (·.2) = assign e X.env :: (assignEach es X.env).map (·.2) := by rfl) : PGs X (e :: es) (TGrs X (sl ++ sl') (gsCons gg gs)) := gs_cons h1 h2 hs
theorem GT {kk n : Nat} {gs : List D → Env' → Option Env'} {sl : List Nat} (h : PGs X es (TGrs X sl gs)) (hc : X.calm = true := by rfl) (hn : (assignEach es X.env).length = n := by rfl) (hst : (assignEach es X.env).findIdx? (·.1) = none := by rfl) : PG X (.Tuple es kk pos) (TGr X sl (gTp n gs)) := g_tup hc h hn hst
theorem SA {tg : Expr} {sl : List Nat} {gg : Gt} (he : PE X e (TV X f)) (hg : PG X tg (TGr X sl gg)) (hs : swapsWithSole [tg] e pos.line X.env = pure false := by rfl) (hw : swappedStores [tg] e X.env = pure none := by rfl) (h1 : (assignEach [tg] X.env).map (·.2) = [assign tg X.env] := by rfl) :
    PS X (.Assign [tg] e pos) (TSf X (sAsg f gg)) := s_asg he hg hs hw h1
theorem SS (i : Nat) {pos' : Pos} (hN : X.N.Nodup) (he : PE X e (TV X f)) (hi : X.N[i]? = some x := by rfl) (hx : Loc X.env.scope x := by first | exact .inl rfl | exact .inr rfl) (hs : swapsWith e (some (.Name x pos')) pos.line X.env = pure false := by rfl) (hf : X.fn x = true ∨ X.env.scope.names.lookup x = some .local := by first | exact .inl rfl | exact .inr rfl) :
    PS X (.Assign [.Name x pos'] e pos) (TSf X (sAsg f (gN i))) := s_set hN hi hx he hs hf
theorem SP (i j : Nat) {x y : Str} {px py pt : Pos} {kt k2 pt2} (hN : X.N.Nodup) (ha : PA X [a, b] (TAs X h)) (hc : X.calm = true := by rfl) (hi : X.N[i]? = some x := by rfl) (hj : X.N[j]? = some y := by rfl) (hij : i ≠ j := by decide) (hx : X.env.scope.names.lookup x = some .local := by rfl) (hy : X.env.scope.names.lookup y = some .local := by rfl)
    (hw : swappedStores [.Tuple [.Name x px, .Name y py] kt pt] (.Tuple [a, b] k2 pt2) X.env = pure (some [x, y]) := by rfl) (hs : swapsWithSole [.Tuple [.Name x px, .Name y py] kt pt] (.Tuple [a, b] k2 pt2) pos.line X.env = pure false := by rfl) :
    PS X (.Assign [.Tuple [.Name x px, .Name y py] kt pt] (.Tuple [a, b] k2 pt2) pos) (TSf X (sPar i j h)) := s_par hc hN hi hj hij hx hy ha hw hs
theorem SU (i : Nat) {op : Operator} {r : R2} {vop : Op2} {pos' : Pos} (hN : X.N.Nodup) (ho : OpR X (inplaceOp op) r) (hv : OpV X r vop) (he : PE X e (TV X f)) (hi : X.N[i]? = some x := by rfl) (hx : Loc X.env.scope x := by first | exact .inl rfl | exact .inr rfl) (hf : X.fn x = true ∨ X.env.scope.names.lookup x = some .local := by first | exact .inl rfl | exact .inr rfl) :
    PS X (.AugAssign (.Name x pos') op e pos) (TSf X (sAug i vop f)) := s_aug hN hi hx he ho hv hf
theorem SF {cs : List Str} {fl : Str} {pos' : Pos} (hcs : ∀ c ∈ cs, NoAttr X.K (He.ga X.K c) fl) (ho : PE X o (TV X fo)) (hv : PE X e (TV X f)) (hs : swapsWith e (some (.Attribute o fl pos')) pos.line X.env = pure false := by rfl) :
    PS X (.Assign [.Attribute o fl pos'] e pos) (TSf X (sFld cs fl fo f)) := s_fld hcs ho hv hs
theorem SL {pos' : Pos} (ho : PE X o (TV X fo)) (hi : PE X a (TV X g)) (he : PE X e (TV X f))
    (ha : ∀ v, assign (.Subscript o a pos') X.env v = (do
      let ov ← holding [v] (eval o X.env)
      let iv ← holding [v, ov] (eval a X.env)
      standAt pos'
      holding [v, ov, iv] (setItem ov iv v)
      release [v, ov, iv] []) := by intro _; rfl) (hs : swapsWithSole [.Subscript o a pos'] e pos.line X.env = pure false := by rfl) (hw : swappedStores [.Subscript o a pos'] e X.env = pure none := by rfl) (h1 : (assignEach [.Subscript o a pos'] X.env).map (·.2) = [assign (.Subscript o a pos') X.env] := by rfl) :
    PS X (.Assign [.Subscript o a pos'] e pos) (TSf X (sSubL fo g f)) := s_subL ho hi he ha hs hw h1
theorem SX {pos' : Pos} (hu : X.A.units + 65 < cLine) (ho : PE X o (TV X fo)) (hi : PE X a (TV X g)) (he : PE X e (TV X f))
    (ha : ∀ v, assign (.Subscript o a pos') X.env v = (do
      let ov ← holding [v] (eval o X.env)
      let iv ← holding [v, ov] (eval a X.env)
      standAt pos'
      holding [v, ov, iv] (setItem ov iv v)
      release [v, ov, iv] []) := by intro _; rfl) (hs : swapsWithSole [.Subscript o a pos'] e pos.line X.env = pure false := by rfl) (hw : swappedStores [.Subscript o a pos'] e X.env = pure none := by rfl) (h1 : (assignEach [.Subscript o a pos'] X.env).map (·.2) = [assign (.Subscript o a pos') X.env] := by rfl) :
    PS X (.Assign [.Subscript o a pos'] e pos) (TSf X (sSubX fo g f)) := s_subX hu ho hi he ha hs hw h1
theorem SO {tg iter : Expr} {body : List Stmt} {src : Fe Src} {sl : List Nat} {gg : Gt} {F : Fs} (hp : PassesOwn (model X.prog X.w) X.A X.env X.xe) (hi : PI X tg iter (TIs X src)) (hg : PG X tg (TGr X sl gg)) (hb : PSs X body (TSf X F)) (hc : X.calm = true := by rfl) (hs : ∀ x, foldedSetIterable iter X.env x = pure x := by intro _; rfl) :
    PS X (.For tg iter body [] pos) (TSf X (sFor src gg F)) := s_for hp hc hi hg hb hs

/-! ### sources -/
variable {tg : Expr}
theorem I_range1 (hm : X.mg "range" = none) (ha : PA X [a] (TAs X h)) (hg : Gl X "range" := by rfl) (hs : starEach [a] X.env = [(false, eval a X.env)] := by rfl) : PI X tg (.Call (.Name "range" p) [a] [] pos) (TIs X (fMap h oR1)) := i_range1 hg hm ha hs
theorem I_range2 (hm : X.mg "range" = none) (ha : PA X [a, b] (TAs X h)) (hg : Gl X "range" := by rfl) (hs : starEach [a, b] X.env = [(false, eval a X.env), (false, eval b X.env)] := by rfl) (hs2 : starEach [b] X.env = [(false, eval b X.env)] := by rfl) : PI X tg (.Call (.Name "range" p) [a, b] [] pos) (TIs X (fMap h oR2)) := i_range2 hg hm ha hs hs2
theorem I_zip {elts : List Expr} {kk : Nat} {tpos : Pos} (hm : X.mg "zip" = none) (ha : PA X [a, b] (TAs X h)) (hg : Gl X "zip" := by rfl) (hs : starEach [a, b] X.env = (false, eval a X.env) :: starEach [b] X.env := by rfl) (hpl : (backTo pos (starEach [b] X.env)).any (·.1) = false := by rfl) :
    PI X (.Tuple elts kk tpos) (.Call (.Name "zip" p) [a, b] [] pos) (TIs X (fMap h oZip)) := i_zip hg hm ha hs hpl
theorem I_enum {elts : List Expr} {kk : Nat} {tpos : Pos} (hm : X.mg "enumerate" = none) (ha : PA X [a] (TAs X h)) (hg : Gl X "enumerate" := by rfl) (hs : starEach [a] X.env = [(false, eval a X.env)] := by rfl) :
    PI X (.Tuple elts kk tpos) (.Call (.Name "enumerate" p) [a] [] pos) (TIs X (fMap h oEnum)) := i_enum hg hm ha hs

/-! ### comprehensions -/
/-- name = [..], plain; owned -/
theorem SC (i : Nat) {y : Str} {py : Pos} {elt tg iter : Expr} {ifs : List Expr} {scope : Scope} {spos : Pos} {src : Fe Src} {gg : Gt} {sl : List Nat} {l : Fe RV} (ow : List (Str × Nat)) (hh : ∀ σ H Q, TV X l σ H Q → TL X (lLc src gg t f (ow.map (·.2))) σ H Q) (hN : X.N.Nodup) (ok : blkC X.N X.env.scope scope ow = true)
    (hsw : swapsWith (.ListComp elt [⟨tg, iter, ifs, 0⟩] scope pos) (some (.Name y py)) spos.line X.env = pure true) (hi : PI X tg iter (TIs X src))
    (hg : ∀ (s : Shared) (H : Hp) (C : Addr) (cl : List (Str × Addr)) (fp : List Addr), PG (X.blk s H scope (compEnvC scope cl C X.env) fp) tg (TGr X sl gg)) (ht : ∀ (s : Shared) (H : Hp) (C : Addr) (cl : List (Str × Addr)) (fp : List Addr), PTs (X.blk s H scope (compEnvC scope cl C X.env) fp) ifs (TB X t))
    (he : ∀ (s : Shared) (H : Hp) (C : Addr) (cl : List (Str × Addr)) (fp : List Addr), PE (X.blk s H scope (compEnvC scope cl C X.env) fp) elt (TV X f)) (hc : X.calm = true := by rfl) (hy : X.N[i]? = some y := by rfl) (hyl : X.env.scope.names.lookup y = some .local := by rfl) (hsl : ∀ i ∈ sl, i ∈ ow.map (·.2) := by decide) (hs : ∀ x, foldedSetIterable iter X.env x = pure x := by intro _; rfl) :
    PS X (.Assign [.Name y py] (.ListComp elt [⟨tg, iter, ifs, 0⟩] scope pos) spos) (TSf X (sAsg l (gN i))) := s_setLc hc hN hy hyl hsw hi (blkOk_by ok) hsl hg ht he hs hh
theorem LC {elt tg iter : Expr} {ifs : List Expr} {scope : Scope} {src : Fe Src} {gg : Gt} {sl : List Nat} (ow : List (Str × Nat)) (hN : X.N.Nodup) (ok : blkC X.N X.env.scope scope ow = true) (hi : PI X tg iter (TIs X src))
    (hg : ∀ (s : Shared) (H : Hp) (C : Addr) (cl : List (Str × Addr)) (fp : List Addr), PG (X.blk s H scope (compEnvC scope cl C X.env) fp) tg (TGr X sl gg)) (ht : ∀ (s : Shared) (H : Hp) (C : Addr) (cl : List (Str × Addr)) (fp : List Addr), PTs (X.blk s H scope (compEnvC scope cl C X.env) fp) ifs (TB X t))
    (he : ∀ (s : Shared) (H : Hp) (C : Addr) (cl : List (Str × Addr)) (fp : List Addr), PE (X.blk s H scope (compEnvC scope cl C X.env) fp) elt (TV X f)) (hc : X.calm = true := by rfl) (hsl : ∀ i ∈ sl, i ∈ ow.map (·.2) := by decide) (hs : ∀ x, foldedSetIterable iter X.env x = pure x := by intro _; rfl) :
    PE X (.ListComp elt [⟨tg, iter, ifs, 0⟩] scope pos) (TL X (lLc src gg t f (ow.map (·.2)))) := e_lc hc hN hi (blkOk_by ok) hsl hg ht he hs
end

/-! ### a def keeps its promise -/
section
variable {P : Program} {w : World} {K : PySem.W.Frag} {mg : Str → Option Value} {base : Heap} {x qual : Str} {params : Arguments} {body : List Stmt} {scope : Scope} {f : Addr} {fd : FuncData} {N ps : List Str} {k : Nat} {Fb : Fs}
/-- the context of a def's body -/
abbrev Bx (P : Program) (w : World) (K : PySem.W.Frag) (mg : Str → Option Value) (base : Heap) (N : List Str) (qual : Str) (scope : Scope) (f : Addr) (cdv : Value) (A : Around) (outer : List Env) (s : Shared) (H : Hp) (E : XK) : Cx := (cxOf CX0 P w K mg base N qual scope f cdv A outer s H E).nox
theorem fnP (F : FunD K x qual params body scope [] [] f fd) (S : FnScope N ps scope)
    (hb : ∀ (cdv : Value) (A : Around) (outer : List Env) (s : Shared) (H : Hp) (E : XK), Room k (Bx P w K mg base N qual scope f cdv A outer s H E).A → PSs (Bx P w K mg base N qual scope f cdv A outer s H E) body (TSf (Bx P w K mg base N qual scope f cdv A outer s H E) Fb)) :
    FnOk P w K mg base CX0 (k + 1) f fd ps (spP K ps.length (runP N.length Fb)) := by
  refine F.ok S (fun vs H Q E h => ?_) fun cdv A outer s H vs Q E hr h => ⟨_, (hb cdv A outer s H E hr).nox, body_P (X := Bx P w K mg base N qual scope f cdv A outer s H E) (N := N) h⟩
  obtain ⟨R, ds, r, _, h1, h2, _⟩ := h
  rw [← h1.length, h2]
theorem fnS (F : FunD K x qual params body scope [] [] f fd) (S : FnScope N ps scope)
    (hb : ∀ (cdv : Value) (A : Around) (outer : List Env) (s : Shared) (H : Hp) (E : XK), Room k (Bx P w K mg base N qual scope f cdv A outer s H E).A → PSs (Bx P w K mg base N qual scope f cdv A outer s H E) body (TSf (Bx P w K mg base N qual scope f cdv A outer s H E) Fb)) :
    FnOk P w K mg base CX0 (k + 1) f fd ps (spS P w K ps.length (runS N.length Fb)) := by
  refine F.ok S (fun vs H Q E h => ?_) fun cdv A outer s H vs Q E hr h => ⟨_, (hb cdv A outer s H E hr).nox, body_S (X := Bx P w K mg base N qual scope f cdv A outer s H E) (N := N) h⟩
  obtain ⟨R, m, S, rs, r, S', _, h1, h2, _⟩ := h
  rw [← h1.length, h2]
/-- a promise of nothing -/
theorem fn0P {n : Nat} {ps : List Str} : FnOk P w K mg base CX0 k f fd ps (spP K n fun _ => none) :=
  ⟨(fun vs H Q E ⟨_, _, _, _, _, _, e, _⟩ => (nomatch e)), fun A outer s H args us vs Q E _ _ _ _ ⟨_, _, _, _, _, _, e, _⟩ => (nomatch e)⟩
theorem fn0S {n : Nat} {ps : List Str} : FnOk P w K mg base CX0 k f fd ps (spS P w K n fun _ _ => none) :=
  ⟨(fun vs H Q E ⟨_, _, _, _, _, _, _, _, _, e, _⟩ => (nomatch e)), fun A outer s H args us vs Q E _ _ _ _ ⟨_, _, _, _, _, _, _, _, _, e, _⟩ => (nomatch e)⟩
end

/-! ### constants of the module -/
mutual
def kRep (K : PySem.W.Frag) : Nat → D → Value → Bool
  | _, .non, .none => true
  | _, .bl b, .bool c => b == c
  | _, .int i, .int j _ => decide (i = j)
  | _, .str x, .str y _ => decide (x = y)
  | n + 1, .tup ds, .ref a => (match K.lookup a with
    | some ⟨.type c, _, .seq its _, _⟩ => decide (c = "tuple") && (decide (its.size ≤ sizeLine) && kReps K n ds its.toList)
    | _ => false)
  | _, _, _ => false
def kReps (K : PySem.W.Frag) : Nat → List D → List Value → Bool
  | _, [], [] => true
  | n, d :: ds, v :: vs => kRep K n d v && kReps K n ds vs
  | _, _, _ => false
end
mutual
theorem kRep_ok {K : PySem.W.Frag} : ∀ {n : Nat} {d : D} {u : Value}, kRep K n d u = true → ∃ v, RelV v u ∧ ∀ H R, Rep K H R d v
  | _, .non, .none, _ => ⟨.non, rfl, fun _ _ => .non⟩
  | _, .bl b, .bool c, h => by
    have e : b = c := eq_of_beq (by unfold kRep at h; exact h)
    subst e
    exact ⟨.bl b, rfl, fun _ _ => .bl b⟩
  | _, .int i, .int j t, h => by
    have e : i = j := of_decide_eq_true (by unfold kRep at h; exact h)
    subst e
    exact ⟨.int i, ⟨t, rfl⟩, fun _ _ => .int i⟩
  | _, .str i, .str j t, h => by
    have e : i = j := of_decide_eq_true (by unfold kRep at h; exact h)
    subst e
    exact ⟨.str i, ⟨t, rfl⟩, fun _ _ => .str i⟩
  | n + 1, .tup ds, .ref a, h => by
    unfold kRep at h
    split at h
    · rename_i c od its m osl q
      rw [Bool.and_eq_true, Bool.and_eq_true, decide_eq_true_eq, decide_eq_true_eq] at h
      obtain ⟨vs, h1, h2⟩ := kReps_ok h.2.2
      exact ⟨.ref a, rfl, fun H R => .tupK ⟨_, its, m, q, congrArg Value.type h.1, rfl, h.2.1, h1⟩ (h2 H R)⟩
    · cases h
theorem kReps_ok {K : PySem.W.Frag} : ∀ {n : Nat} {d : List D} {u : List Value}, kReps K n d u = true → ∃ v, Vals v u ∧ ∀ H R, Reps K H R d v
  | _, [], [], _ => ⟨[], .nil, fun _ _ => .nil⟩
  | n, d :: ds, v :: vs, h => by
    unfold kReps at h
    rw [Bool.and_eq_true] at h
    obtain ⟨v1, h1, h2⟩ := kRep_ok h.1
    obtain ⟨v2, h3, h4⟩ := kReps_ok h.2
    exact ⟨v1 :: v2, .cons h1 h3, fun H R => .cons (h2 H R) (h4 H R)⟩
end
/-- the module's name x stands for d -/
def conB (K : PySem.W.Frag) (x : Str) (d : D) : Bool := match PySem.W.nsIn K mainGlobals x with
  | some (some u) => kRep K 8 d u
  | _ => false
theorem con_of {K : PySem.W.Frag} {h : Heap} {mg : Str → Option Value} (X : K.In h) (G : h.Ns mainGlobals mg) {x : Str} {d : D} (c : conB K x d = true) : Con K mg x d := by
  unfold conB at c
  split at c
  · rename_i u q
    obtain ⟨v, h1, h2⟩ := kRep_ok c
    exact ⟨u, v, PySem.W.mg_of X G q, h1, h2⟩
  · cases c
end Ev

/-! The evaluator, part N: reading what is printed; the two defs that each law has. -/
namespace Ev
open PySem PySem.Spec PyProof.Rows L2

/-! ### equality of what is written with ints, texts and tuples -/
mutual
theorem eqv_key : ∀ {n m : Nat} {a b : D}, D.isKey n a = true → D.isKey m b = true → PyData.eqv a.py b.py = decide (a = b)
  | _, _, .int i, b, _, h => by
    cases b with
    | int j => simp [D.py, PyData.eqv, Bool.beq_eq_decide_eq]
    | str j => simp [D.py, PyData.eqv]
    | tup j => simp [D.py, PyData.eqv]
    | non => simp [D.isKey] at h
    | bl => simp [D.isKey] at h
    | lst => simp [D.isKey] at h
  | _, _, .str i, b, _, h => by
    cases b with
    | int j => simp [D.py, PyData.eqv]
    | str j => simp [D.py, PyData.eqv, Bool.beq_eq_decide_eq]
    | tup j => simp [D.py, PyData.eqv]
    | non => simp [D.isKey] at h
    | bl => simp [D.isKey] at h
    | lst => simp [D.isKey] at h
  | 0, _, .tup as, b, h, _ => by simp [D.isKey] at h
  | n + 1, m, .tup as, b, h1, h => by
    cases b with
    | int j => simp [D.py, PyData.eqv]
    | str j => simp [D.py, PyData.eqv]
    | tup bs =>
      cases m with
      | zero => simp [D.isKey] at h
      | succ m =>
        simp only [D.py, PyData.eqv]
        rw [eqv_keys (n := n) (m := m) (by simpa [D.isKey] using h1) (by simpa [D.isKey] using h)]
        simp
    | non => simp [D.isKey] at h
    | bl => simp [D.isKey] at h
    | lst => simp [D.isKey] at h
  | _, _, .non, _, h, _ => by simp [D.isKey] at h
  | _, _, .bl _, _, h, _ => by simp [D.isKey] at h
  | _, _, .lst _, _, h, _ => by simp [D.isKey] at h
theorem eqv_keys : ∀ {n m : Nat} {a b : List D}, (∀ x ∈ a, D.isKey n x = true) → (∀ x ∈ b, D.isKey m x = true) → PyData.eqvAll (D.pys a) (D.pys b) = decide (a = b)
  | _, _, [], [], _, _ => by simp [D.pys, PyData.eqvAll]
  | _, _, [], _ :: _, _, _ => by simp [D.pys, PyData.eqvAll]
  | _, _, _ :: _, [], _, _ => by simp [D.pys, PyData.eqvAll]
  | n, m, a :: as, b :: bs, h1, h2 => by
    simp only [D.pys, PyData.eqvAll]
    rw [eqv_key (n := n) (m := m) (h1 a List.mem_cons_self) (h2 b List.mem_cons_self), eqv_keys (n := n) (m := m) (fun x hx => h1 x (List.mem_cons_of_mem _ hx)) fun x hx => h2 x (List.mem_cons_of_mem _ hx)]
    simp
end

/-! ### what may be compared -/
def D.okN : Nat → D → Bool
  | _, .str x => PyData.strOk x
  | n + 1, .tup ds => ds.all (D.okN n)
  | n + 1, .lst ds => ds.all (D.okN n)
  | 0, .tup _ => false
  | 0, .lst _ => false
  | _, _ => true
mutual
theorem okN_lay : ∀ {n : Nat} {d : D}, D.okN n d = true → d.py.canLay0 = true ∧ d.py.depth ≤ n
  | _, .non, _ => by simp [D.py, PyData.canLay0, PyData.depth]
  | _, .bl _, _ => by simp [D.py, PyData.canLay0, PyData.depth]
  | _, .int _, _ => by simp [D.py, PyData.canLay0, PyData.depth]
  | n, .str x, h => by
    have h' : PyData.strOk x = true := by cases n <;> simpa [D.okN] using h
    simp [D.py, PyData.canLay0, PyData.depth, h']
  | 0, .tup _, h => by simp [D.okN] at h
  | 0, .lst _, h => by simp [D.okN] at h
  | n + 1, .tup ds, h => by
    have q := okNs_lay (n := n) (ds := ds) (by simpa [D.okN] using h)
    simp only [D.py, PyData.canLay0, PyData.depth]
    exact ⟨q.1, Nat.succ_le_succ q.2⟩
  | n + 1, .lst ds, h => by
    have q := okNs_lay (n := n) (ds := ds) (by simpa [D.okN] using h)
    simp only [D.py, PyData.canLay0, PyData.depth]
    exact ⟨q.1, Nat.succ_le_succ q.2⟩
theorem okNs_lay : ∀ {n : Nat} {ds : List D}, (∀ d ∈ ds, D.okN n d = true) → PyData.canLayAll0 (D.pys ds) = true ∧ PyData.depthAll (D.pys ds) ≤ n
  | _, [], _ => by simp [D.pys, PyData.canLayAll0, PyData.depthAll]
  | n, d :: ds, h => by
    have q := okN_lay (h d List.mem_cons_self)
    have q2 := okNs_lay (n := n) (ds := ds) fun x hx => h x (List.mem_cons_of_mem _ hx)
    simp only [D.pys, PyData.canLayAll0, PyData.depthAll, Bool.and_eq_true]
    exact ⟨⟨q.1, q2.1⟩, Nat.max_le.mpr ⟨q.2, q2.2⟩⟩
end
theorem ok_of {n : Nat} {d : D} (h : D.okN n d = true) (hn : n ≤ 64 := by decide) : d.ok = true := by
  have q := okN_lay h
  unfold D.ok SeqAt.shaped
  rw [Bool.and_eq_true, decide_eq_true_eq]
  exact ⟨q.1, Nat.le_trans q.2 hn⟩
theorem key_okN : ∀ {n : Nat} {d : D}, D.isKey n d = true → D.okN n d = true
  | 0, d, h => by cases d <;> simp_all [D.isKey, D.okN]
  | n + 1, d, h => by
    cases d with
    | tup ds => simp only [D.isKey, D.okN, List.all_eq_true] at h ⊢; exact fun x hx => key_okN (h x hx)
    | _ => simp_all [D.isKey, D.okN]
theorem okN_mono : ∀ {n m : Nat} {d : D}, D.okN n d = true → n ≤ m → D.okN m d = true
  | 0, m, d, h, _ => by cases d <;> cases m <;> simp_all [D.okN]
  | n + 1, 0, _, _, h => by omega
  | n + 1, m + 1, d, h, hm => by
    cases d with
    | tup ds => simp only [D.okN, List.all_eq_true] at h ⊢; exact fun x hx => okN_mono (h x hx) (by omega)
    | lst ds => simp only [D.okN, List.all_eq_true] at h ⊢; exact fun x hx => okN_mono (h x hx) (by omega)
    | _ => simpa [D.okN] using h
theorem isKey_mono : ∀ {n m : Nat} {d : D}, D.isKey n d = true → n ≤ m → D.isKey m d = true
  | 0, m, d, h, _ => by cases d <;> cases m <;> simp_all [D.isKey]
  | n + 1, 0, _, _, h => by omega
  | n + 1, m + 1, d, h, hm => by
    cases d with
    | tup ds => simp only [D.isKey, List.all_eq_true] at h ⊢; exact fun x hx => isKey_mono (h x hx) (by omega)
    | _ => simpa [D.isKey] using h
end Ev

/-! The evaluator, part Q: each reading's value by rewriting. -/
namespace Ev
open PySem PySem.Spec PyProof.Rows L2

theorem obind_cong {α β : Type} {a a' : Option α} {f : α → Option β} (h : a = a') : a.bind f = a'.bind f := by rw [h]
section
variable {ρ ρ1 : Env'} {S S1 : Sto} {f g h : Fe RV} {t u : Fe Bool} {F G : Fs} {i n : Nat} {r : RV} {x y : RV} {a b : D} {ds es : List D} {op op' : Op2} {gg : Gt} {rs : List RV} {la lb : Fe (List RV)} {I J : Int} {p q : Bool}
theorem obind_some {α β : Type} {x : α} {k : α → Option β} : (some x).bind k = k x := (rfl)
theorem obind_none {α β : Type} {k : α → Option β} : (none : Option α).bind k = none := (rfl)
theorem omap_some {α β : Type} {x : α} {k : α → β} : (some x).map k = some (k x) := (rfl)
theorem omap_none {α β : Type} {k : α → β} : (none : Option α).map k = none := (rfl)
theorem set_0 {α : Type} {x y : α} {xs : List α} : (x :: xs).set 0 y = y :: xs := (rfl)
theorem set_s {α : Type} {x y : α} {i : Nat} {xs : List α} : (x :: xs).set (i + 1) y = x :: xs.set i y := (rfl)
theorem eC_ : eC a ρ S = some (.d a, S) := (rfl)
theorem eTy_ {k : Tn} : eTy k ρ S = some (.t k, S) := (rfl)
theorem eVar_0 : eVar 0 (some r :: ρ) S = some (r, S) := (rfl)
theorem eVar_s {z : Option RV} : eVar (i + 1) (z :: ρ) S = eVar i ρ S := by unfold eVar; rw [List.getElem?_cons_succ]
def binK (op : Op2) (x : RV) (z : RV × Sto) : Option (RV × Sto) := (op x z.1 z.2).bind fun w => some (w, z.2)
def binJ (op : Op2) (g : Fe RV) (ρ : Env') (z : RV × Sto) : Option (RV × Sto) := (g ρ z.2).bind (binK op z.1)
theorem eBin_ : eBin op f g ρ S = (f ρ S).bind (binJ op g ρ) := (rfl)
theorem binJ_ : binJ op g ρ (x, S) = (g ρ S).bind (binK op x) := (rfl)
theorem binK_ : binK op x (y, S) = (op x y S).bind fun w => some (w, S) := (rfl)
theorem aNil_ : aNil ρ S = some ([], S) := (rfl)
def consJ (h : Fe (List RV)) (ρ : Env') (z : RV × Sto) : Option (List RV × Sto) := (h ρ z.2).bind fun w => some (z.1 :: w.1, w.2)
theorem aCons_ : aCons f la ρ S = (f ρ S).bind (consJ la ρ) := (rfl)
theorem consJ_ : consJ la ρ (x, S) = (la ρ S).bind fun w => some (x :: w.1, w.2) := (rfl)
def mapK {α β : Type} (k : α → Sto → Option β) (z : α × Sto) : Option (β × Sto) := (k z.1 z.2).bind fun y => some (y, z.2)
theorem fMap_ {α β : Type} {f : Fe α} {k : α → Sto → Option β} : fMap f k ρ S = (f ρ S).bind (mapK k) := (rfl)
theorem mapK_ {α β : Type} {k : α → Sto → Option β} {x : α} : mapK k (x, S) = (k x S).bind fun y => some (y, S) := (rfl)
theorem eCall_ {op : Oc} : eCall op la ρ S = (la ρ S).bind (mapK op) := (rfl)
theorem lCall_ {op : Ol} : lCall op la ρ S = (la ρ S).bind (mapK op) := (rfl)
def dsK (z : List RV × Sto) : Option (List D × Sto) := (dsOf z.1).bind fun ds => if ds.length ≤ Lim then some (ds, z.2) else none
theorem aDs_ : aDs la ρ S = (la ρ S).bind dsK := by
  unfold aDs fMap
  congr 1
  funext z
  show ((match dsOf z.1 with
    | some ds => if ds.length ≤ Lim then some ds else none
    | none => none).bind fun y => some (y, z.2)) = (dsOf z.1).bind fun ds => if ds.length ≤ Lim then some (ds, z.2) else none
  cases dsOf z.1 with
  | none => rfl
  | some ds =>
    show (if ds.length ≤ Lim then some ds else none).bind (fun y => some (y, z.2)) = if ds.length ≤ Lim then some (ds, z.2) else none
    by_cases h : ds.length ≤ Lim
    · rw [if_pos h, if_pos h]; rfl
    · rw [if_neg h, if_neg h]; rfl
theorem dsK_ : dsK (rs, S) = (dsOf rs).bind fun ds => if ds.length ≤ Lim then some (ds, S) else none := (rfl)
theorem dsOf_nil : dsOf [] = some [] := (rfl)
theorem dsOf_cons : dsOf (.d a :: rs) = (dsOf rs).map fun xs => a :: xs := (rfl)
theorem eTup_ : eTup la ρ S = (aDs la ρ S).bind fun z => some (.d (.tup z.1), z.2) := (rfl)
theorem eVal_ {l : Fe (List D)} : eVal l ρ S = (l ρ S).bind fun z => some (.d (.lst z.1), z.2) := (rfl)
theorem eObj_ {l : Fe (List D)} : eObj l ρ S = (l ρ S).bind fun z => some (.o z.2.length, z.2 ++ [.lst z.1]) := (rfl)
def ifK {α : Type} (f g : Fe α) (ρ : Env') (z : Bool × Sto) : Option (α × Sto) := (if z.1 = true then f else g) ρ z.2
theorem fIf_ : fIf t f g ρ S = (t ρ S).bind (ifK f g ρ) := (rfl)
theorem ifK_t {α : Type} {f g : Fe α} : ifK f g ρ (true, S) = f ρ S := (rfl)
theorem ifK_f {α : Type} {f g : Fe α} : ifK f g ρ (false, S) = g ρ S := (rfl)
def tstK (z : RV × Sto) : Option (Bool × Sto) := (isBl z.1).bind fun k => some (k, z.2)
theorem fTest_ : fTest f ρ S = (f ρ S).bind tstK := (rfl)
theorem tstK_ : tstK (.d (.bl p), S) = some (p, S) := (rfl)
theorem fTru_ : fTru f ρ S = (f ρ S).bind (mapK vTru) := (rfl)
theorem vTru_bl : vTru (.d (.bl p)) S = some p := (rfl)
theorem vTru_int : vTru (.d (.int I)) S = some (I != 0) := (rfl)
theorem vTru_non : vTru (.d .non) S = some false := (rfl)
theorem vTru_lst : vTru (.d (.lst ds)) S = some (!ds.isEmpty) := (rfl)
theorem vTru_tup : vTru (.d (.tup ds)) S = some (!ds.isEmpty) := (rfl)
def andK (u : Fe Bool) (ρ : Env') (z : Bool × Sto) : Option (Bool × Sto) := (if z.1 = true then u else fun _ S => some (false, S)) ρ z.2
def orK (u : Fe Bool) (ρ : Env') (z : Bool × Sto) : Option (Bool × Sto) := (if z.1 = true then fun _ S => some (true, S) else u) ρ z.2
theorem fAnd_ : fAnd t u ρ S = (t ρ S).bind (andK u ρ) := (rfl)
theorem andK_t : andK u ρ (true, S) = u ρ S := (rfl)
theorem andK_f : andK u ρ (false, S) = some (false, S) := (rfl)
theorem fOr_ : fOr t u ρ S = (t ρ S).bind (orK u ρ) := (rfl)
theorem orK_t : orK u ρ (true, S) = some (true, S) := (rfl)
theorem orK_f : orK u ρ (false, S) = u ρ S := (rfl)
theorem fNot_ : fNot t ρ S = (t ρ S).bind fun z => some (!z.1, z.2) := (rfl)
def eandK (g : Fe RV) (ρ : Env') (z : RV × Sto) : Option (RV × Sto) := (match isBl z.1 with
  | some true => g
  | some false => fun _ S => some (.d (.bl false), S)
  | none => fun _ _ => none) ρ z.2
def eorK (g : Fe RV) (ρ : Env') (z : RV × Sto) : Option (RV × Sto) := (match isBl z.1 with
  | some true => (fun _ S => some (RV.d (.bl true), S) : Fe RV)
  | some false => g
  | none => fun _ _ => none) ρ z.2
theorem eAnd_ : eAnd f g ρ S = (f ρ S).bind (eandK g ρ) := (rfl)
theorem eandK_t : eandK g ρ (.d (.bl true), S) = g ρ S := (rfl)
theorem eandK_f : eandK g ρ (.d (.bl false), S) = some (.d (.bl false), S) := (rfl)
theorem eOr_ : eOr f g ρ S = (f ρ S).bind (eorK g ρ) := (rfl)
theorem eorK_t : eorK g ρ (.d (.bl true), S) = some (.d (.bl true), S) := (rfl)
theorem eorK_f : eorK g ρ (.d (.bl false), S) = g ρ S := (rfl)
def notK (z : RV × Sto) : Option (RV × Sto) := ((isBl z.1).map fun k => RV.d (.bl !k)).bind fun y => some (y, z.2)
theorem eNot_ : eNot f ρ S = (f ρ S).bind notK := (rfl)
theorem notK_ : notK (.d (.bl p), S) = some (.d (.bl !p), S) := (rfl)

/-! operators -/
theorem vAdd_i : vAdd (.d (.int I)) (.d (.int J)) S = some (.d (.int (I + J))) := (rfl)
theorem vAddI_i : vAddI (.d (.int I)) (.d (.int J)) S = some (.d (.int (I + J))) := (rfl)
theorem vAdd_t : vAdd (.d (.tup ds)) (.d (.tup es)) S = if ds.length + es.length ≤ Lim then some (.d (.tup (ds ++ es))) else none := (rfl)
theorem vSub_i : vSub (.d (.int I)) (.d (.int J)) S = some (.d (.int (I - J))) := (rfl)
theorem vMul_i (h : pMul I J = true) : vMul (.d (.int I)) (.d (.int J)) S = some (.d (.int (I * J))) := by
  show (if pMul I J = true then _ else _) = _
  rw [if_pos h]
theorem vDiv_i (h : pDiv I J = true) : vDiv (.d (.int I)) (.d (.int J)) S = some (.d (.int (I / J))) := by
  show (if pDiv I J = true then _ else _) = _
  rw [if_pos h]
theorem vMod_i (h : 0 < J) : vMod (.d (.int I)) (.d (.int J)) S = some (.d (.int (I % J))) := by
  show (if decide (0 < J) = true then _ else _) = _
  rw [if_pos (decide_eq_true h)]
theorem vPow_i (h : pPow I J = true) : vPow (.d (.int I)) (.d (.int J)) S = some (.d (.int (I ^ J.toNat))) := by
  show (if pPow I J = true then _ else _) = _
  rw [if_pos h]
theorem vShl_i (h : pPow I J = true) : vShl (.d (.int I)) (.d (.int J)) S = some (.d (.int (I * 2 ^ J.toNat))) := by
  show (if pPow I J = true then _ else _) = _
  rw [if_pos h]
theorem vShr_i (h : 0 ≤ J) : vShr (.d (.int I)) (.d (.int J)) S = some (.d (.int (I / 2 ^ J.toNat))) := by
  show (if decide (0 ≤ J) = true then _ else _) = _
  rw [if_pos (decide_eq_true h)]
theorem vAnd_i : vAnd (.d (.int I)) (.d (.int J)) S = some (.d (.int (Builtin.bitAnd I J))) := (rfl)
theorem vOr_i : vOr (.d (.int I)) (.d (.int J)) S = some (.d (.int (Builtin.bitOr I J))) := (rfl)
theorem vXor_i : vXor (.d (.int I)) (.d (.int J)) S = some (.d (.int (Builtin.bitXor I J))) := (rfl)
theorem vLt_i : vLt (.d (.int I)) (.d (.int J)) S = some (.d (.bl (decide (I < J)))) := (rfl)
theorem vLe_i : vLe (.d (.int I)) (.d (.int J)) S = some (.d (.bl (decide (I ≤ J)))) := (rfl)
theorem vGt_i : vGt (.d (.int I)) (.d (.int J)) S = some (.d (.bl (decide (J < I)))) := (rfl)
theorem vGe_i : vGe (.d (.int I)) (.d (.int J)) S = some (.d (.bl (decide (J ≤ I)))) := (rfl)
theorem ok_int {i : Int} : D.ok (.int i) = true := ok_of (n := 0) (by simp [D.okN])
theorem ok_bl : D.ok (.bl p) = true := ok_of (n := 0) (by simp [D.okN])
theorem ok_non : D.ok .non = true := ok_of (n := 0) (by simp [D.okN])
theorem eqv_int : D.eqv (.int I) (.int J) = decide (I = J) := by simp [D.eqv, D.py, PyData.eqv, Bool.beq_eq_decide_eq]
theorem vEq_ (h1 : a.ok = true) (h2 : b.ok = true) : vEq (.d a) (.d b) S = some (.d (.bl (D.eqv a b))) := by
  show (if (a.ok && b.ok) = true then _ else _) = _
  rw [h1, h2]
  rfl
theorem vNe_ (h1 : a.ok = true) (h2 : b.ok = true) : vNe (.d a) (.d b) S = some (.d (.bl (!D.eqv a b))) := by
  show (if (a.ok && b.ok) = true then _ else _) = _
  rw [h1, h2]
  rfl
theorem vEq_i : vEq (.d (.int I)) (.d (.int J)) S = some (.d (.bl (decide (I = J)))) := by rw [vEq_ ok_int ok_int, eqv_int]
theorem vNe_i : vNe (.d (.int I)) (.d (.int J)) S = some (.d (.bl (!decide (I = J)))) := by rw [vNe_ ok_int ok_int, eqv_int]
theorem vIsN_non {ng : Bool} : vIsN ng (.d .non) (.d .non) S = some (.d (.bl !ng)) := (rfl)
theorem vIsN_int {ng : Bool} : vIsN ng (.d (.int I)) (.d .non) S = some (.d (.bl ng)) := (rfl)
theorem vIsN_bl {ng : Bool} : vIsN ng (.d (.bl p)) (.d .non) S = some (.d (.bl ng)) := (rfl)
theorem vIsN_str {ng : Bool} {z : Str} : vIsN ng (.d (.str z)) (.d .non) S = some (.d (.bl ng)) := (rfl)
theorem vIsN_tup {ng : Bool} : vIsN ng (.d (.tup ds)) (.d .non) S = some (.d (.bl ng)) := (rfl)
theorem vIsN_lst {ng : Bool} : vIsN ng (.d (.lst ds)) (.d .non) S = some (.d (.bl ng)) := (rfl)
theorem vIn_t {ng : Bool} (h1 : a.ok = true) (h2 : (D.tup ds).ok = true) : vIn ng (.d a) (.d (.tup ds)) S = some (.d (.bl (if ng = true then !inD a ds else inD a ds))) := by
  show (if (a.ok && (D.tup ds).ok) = true then _ else _) = _
  rw [h1, h2]
  rfl
theorem vIn_l {ng : Bool} (h1 : a.ok = true) (h2 : (D.lst ds).ok = true) : vIn ng (.d a) (.d (.lst ds)) S = some (.d (.bl (if ng = true then !inD a ds else inD a ds))) := by
  have e : vInL ng (.d a) (.d (.lst ds)) S = some (.d (.bl (if ng = true then !inD a ds else inD a ds))) := by
    show (if (a.ok && (D.lst ds).ok) = true then _ else _) = _
    rw [h1, h2]
    rfl
  unfold vIn Op2.or
  rw [e]
theorem vIn_o {ng : Bool} (hS : S[n]? = some (.lst ds)) (h1 : a.ok = true) (h2 : (D.lst ds).ok = true) : vIn ng (.d a) (.o n) S = some (.d (.bl (if ng = true then !inD a ds else inD a ds))) := by
  have e : vInL ng (.d a) (.o n) S = some (.d (.bl (if ng = true then !inD a ds else inD a ds))) := by
    unfold vInL look lookL
    simp only [hS]
    rw [h1, h2]
    rfl
  unfold vIn Op2.or
  rw [e]

/-! subscripts, slices -/
theorem lookQ_t : lookQ (.d (.tup ds)) S = some ds := (rfl)
theorem lookQ_l : lookQ (.d (.lst ds)) S = some ds := (rfl)
theorem lookQ_o (h : S[n]? = some (.lst ds)) : lookQ (.o n) S = some ds := by unfold lookQ lookL; simp only [h]
theorem vIx_t : vIx (.d (.tup ds)) (.d (.int I)) S = (atI ds I).map RV.d := (rfl)
theorem vIx_l : vIx (.d (.lst ds)) (.d (.int I)) S = (atI ds I).map RV.d := (rfl)
theorem vIx_o (h : S[n]? = some (.lst ds)) : vIx (.o n) (.d (.int I)) S = (atI ds I).map RV.d := by unfold vIx; simp only [lookQ_o h]
theorem atI_0 {α : Type} {x : α} {xs : List α} : atI (x :: xs) 0 = some x := by
  unfold atI ixN
  rw [if_pos (Int.le_refl 0), if_pos (by rw [List.length_cons]; omega)]
  rfl
theorem atI_1 {α : Type} {x y : α} {xs : List α} : atI (x :: y :: xs) 1 = some y := by
  unfold atI ixN
  rw [if_pos (by decide), if_pos (by rw [List.length_cons, List.length_cons]; omega)]
  rfl
theorem atI_2 {α : Type} {x y z : α} {xs : List α} : atI (x :: y :: z :: xs) 2 = some z := by
  unfold atI ixN
  rw [if_pos (by decide), if_pos (by rw [List.length_cons, List.length_cons, List.length_cons]; omega)]
  rfl
theorem atI_nat {α : Type} {xs : List α} {j : Int} (h0 : 0 ≤ j) : atI xs j = xs[j.toNat]? := by
  unfold atI ixN
  rw [if_pos h0]
  by_cases h1 : j < xs.length
  · rw [if_pos h1]; rfl
  · rw [if_neg h1, List.getElem?_eq_none (by omega)]; rfl

/-! built-ins -/
theorem bLen_t : bLen [.d (.tup ds)] S = some (.d (.int ds.length)) := (rfl)
theorem bLen_l : bLen [.d (.lst ds)] S = some (.d (.int ds.length)) := (rfl)
theorem bLen_o (h : S[n]? = some (.lst ds)) : bLen [.o n] S = some (.d (.int ds.length)) := by unfold bLen; simp only [lookQ_o h]
theorem bInt_i : bInt [.d (.int I)] S = some (.d (.int I)) := (rfl)
theorem bInt_b : bInt [.d (.bl p)] S = some (.d (.int (if p then 1 else 0))) := (rfl)
theorem bIsi_int {k : Tn} : bIsi [.d (.int I), .t k] S = some (.d (.bl (Tn.is .int k))) := (rfl)
theorem bIsi_bl {k : Tn} : bIsi [.d (.bl p), .t k] S = some (.d (.bl (Tn.is .bool k))) := (rfl)
theorem bIsi_str {k : Tn} {z : Str} : bIsi [.d (.str z), .t k] S = some (.d (.bl (Tn.is .str k))) := (rfl)
theorem bIsi_tup {k : Tn} : bIsi [.d (.tup ds), .t k] S = some (.d (.bl (Tn.is .tup k))) := (rfl)
theorem bIsi_lst {k : Tn} : bIsi [.d (.lst ds), .t k] S = some (.d (.bl (Tn.is .lst k))) := (rfl)
theorem bIsi_non {k : Tn} : bIsi [.d .non, .t k] S = some (.d (.bl (Tn.is .non k))) := (rfl)
theorem is_ii : Tn.is .int .int = true := (rfl)
theorem is_ib : Tn.is .int .bool = false := (rfl)
theorem is_it : Tn.is .int .tup = false := (rfl)
theorem is_bi : Tn.is .bool .int = true := (rfl)
theorem is_bb : Tn.is .bool .bool = true := (rfl)
theorem is_tt : Tn.is .tup .tup = true := (rfl)
theorem is_ti : Tn.is .tup .int = false := (rfl)
theorem is_tb : Tn.is .tup .bool = false := (rfl)
theorem is_st : Tn.is .str .tup = false := (rfl)
theorem is_si : Tn.is .str .int = false := (rfl)
theorem is_ss : Tn.is .str .str = true := (rfl)
theorem is_nt : Tn.is .non .tup = false := (rfl)
theorem is_ll : Tn.is .lst .lst = true := (rfl)
theorem is_lt : Tn.is .lst .tup = false := (rfl)
theorem is_tl : Tn.is .tup .lst = false := (rfl)
theorem bTup_l : bTup [.d (.lst ds)] S = some (.d (.tup ds)) := (rfl)
theorem bTup_t : bTup [.d (.tup ds)] S = some (.d (.tup ds)) := (rfl)
theorem bTup_o (h : S[n]? = some (.lst ds)) : bTup [.o n] S = some (.d (.tup ds)) := by unfold bTup; simp only [lookQ_o h]; rfl
theorem bLst_l : bLst [.d (.lst ds)] S = if ds.length ≤ Lim then some ds else none := (rfl)
theorem bLst_t : bLst [.d (.tup ds)] S = if ds.length ≤ Lim then some ds else none := (rfl)
theorem blsOf_map {bs : List Bool} : blsOf (bs.map D.bl) = some bs := by
  induction bs with
  | nil => rfl
  | cons b bs ih => show (blsOf (bs.map D.bl)).map _ = _; rw [ih]; rfl
theorem intsOf_map {bs : List Int} : intsOf (bs.map D.int) = some bs := by
  induction bs with
  | nil => rfl
  | cons b bs ih => show (intsOf (bs.map D.int)).map _ = _; rw [ih]; rfl
theorem bBools_l {k : List Bool → Bool} {bs : List Bool} : bBools k [.d (.lst (bs.map D.bl))] S = some (.d (.bl (k bs))) := by
  show (blsOf (bs.map D.bl)).map _ = _
  rw [blsOf_map]; rfl
theorem bInts_l {k : List Int → Int} {bs : List Int} : bInts k [.d (.lst (bs.map D.int))] S = some (.d (.int (k bs))) := by
  show (intsOf (bs.map D.int)).map _ = _
  rw [intsOf_map]; rfl

/-! owned lists -/
def ml0K (k : List D → Option (RV × List D)) (z : RV × Sto) : Option (RV × Sto) := (isObjL z.1 z.2).bind fun q => (k q.2).bind fun w => some (w.1, z.2.set q.1 (.lst w.2))
theorem eMl0_ {k : List D → Option (RV × List D)} : eMl0 k f ρ S = (f ρ S).bind (ml0K k) := (rfl)
theorem ml0K_ {k : List D → Option (RV × List D)} (h : S[n]? = some (.lst ds)) : ml0K k (.o n, S) = (k ds).bind fun w => some (w.1, S.set n (.lst w.2)) := by
  show (isObjL (.o n) S).bind _ = _
  unfold isObjL
  simp only [h, Option.bind_some]
theorem oRev_ : oRev ds = some (.d .non, ds.reverse) := (rfl)
def ml1J (k : List D → RV → Sto → Option (RV × List D)) (x : RV) (y : RV × Sto) : Option (RV × Sto) := (isObjL x y.2).bind fun q2 => (k q2.2 y.1 y.2).bind fun z => some (z.1, y.2.set q2.1 (.lst z.2))
def ml1K (k : List D → RV → Sto → Option (RV × List D)) (g : Fe RV) (ρ : Env') (p : RV × Sto) : Option (RV × Sto) := (isObjL p.1 p.2).bind fun q => (g ρ p.2).bind (ml1J k p.1)
theorem eMl1_ {k : List D → RV → Sto → Option (RV × List D)} : eMl1 k f g ρ S = (f ρ S).bind (ml1K k g ρ) := (rfl)
theorem ml1K_ {k : List D → RV → Sto → Option (RV × List D)} (h : S[n]? = some (.lst ds)) : ml1K k g ρ (.o n, S) = (g ρ S).bind (ml1J k (.o n)) := by
  show (isObjL (.o n) S).bind _ = _
  unfold isObjL
  simp only [h, Option.bind_some]
theorem ml1J_ {k : List D → RV → Sto → Option (RV × List D)} (h : S[n]? = some (.lst ds)) : ml1J k (.o n) (y, S) = (k ds y S).bind fun z => some (z.1, S.set n (.lst z.2)) := by
  show (isObjL (.o n) S).bind _ = _
  unfold isObjL
  simp only [h, Option.bind_some]
theorem oApp_ (h : ds.length < Lim) : oApp ds (.d a) S = some (.d .non, ds ++ [a]) := by
  show (if ds.length < Lim then _ else _) = _
  rw [if_pos h]

/-! statements -/
theorem sNil_ : sNil ρ S = some (.nx, ρ, S) := (rfl)
def seqK (G : Fs) (z : Fl × Env' × Sto) : Option (Fl × Env' × Sto) := match z.1 with
  | .nx => G z.2.1 z.2.2
  | _ => some z
theorem sSeq_ : sSeq2 F G ρ S = (F ρ S).bind (seqK G) := (rfl)
theorem seqK_nx : seqK G (.nx, ρ, S) = G ρ S := (rfl)
theorem seqK_rt : seqK G (.rt r, ρ, S) = some (.rt r, ρ, S) := (rfl)
theorem seqK_bk : seqK G (.bk, ρ, S) = some (.bk, ρ, S) := (rfl)
theorem seqK_ct : seqK G (.ct, ρ, S) = some (.ct, ρ, S) := (rfl)
def sifK (F G : Fs) (ρ : Env') (z : Bool × Sto) : Option (Fl × Env' × Sto) := if z.1 = true then F ρ z.2 else G ρ z.2
theorem sIf_ : sIf t F G ρ S = (t ρ S).bind (sifK F G ρ) := (rfl)
theorem sifK_t : sifK F G ρ (true, S) = F ρ S := (rfl)
theorem sifK_f : sifK F G ρ (false, S) = G ρ S := (rfl)
def asgK (gg : Gt) (ρ : Env') (z : RV × Sto) : Option (Fl × Env' × Sto) := (gg z.1 ρ).bind fun ρ1 => some (.nx, ρ1, z.2)
theorem sAsg_ : sAsg f gg ρ S = (f ρ S).bind (asgK gg ρ) := (rfl)
theorem asgK_ : asgK gg ρ (x, S) = (gg x ρ).bind fun ρ1 => some (.nx, ρ1, S) := (rfl)
theorem gN_ : gN i x ρ = some (ρ.set i (some x)) := (rfl)
theorem gTp_t {gs : List D → Env' → Option Env'} (h : ds.length = n) : gTp n gs (.d (.tup ds)) ρ = gs ds ρ := by
  show (if ds.length = n then _ else _) = _
  rw [if_pos h]
theorem gsNil_ : gsNil [] ρ = some ρ := (rfl)
theorem gsCons_ {gs : List D → Env' → Option Env'} : gsCons gg gs (a :: ds) ρ = (gg (.d a) ρ).bind fun ρ1 => gs ds ρ1 := (rfl)
theorem sRet_ : sRet f ρ S = (f ρ S).bind fun z => some (.rt z.1, ρ, z.2) := (rfl)
theorem sRetN_ : sRetN ρ S = some (.rt (.d .non), ρ, S) := (rfl)
theorem sExpr_ : sExpr f ρ S = (f ρ S).bind fun z => some (.nx, ρ, z.2) := (rfl)
def parK (i j : Nat) (ρ : Env') (z : List RV × Sto) : Option (Fl × Env' × Sto) := match z.1 with
  | [x, y] => some (.nx, (ρ.set i (some x)).set j (some y), z.2)
  | _ => none
theorem sPar_ {i j : Nat} : sPar i j la ρ S = (la ρ S).bind (parK i j ρ) := (rfl)
theorem parK_ {i j : Nat} : parK i j ρ ([x, y], S) = some (.nx, (ρ.set i (some x)).set j (some y), S) := (rfl)
theorem eSeq_ : sSeq f ρ S = (f ρ S).bind (mapK srcOf) := (rfl)
theorem srcOf_t : srcOf (.d (.tup ds)) S = some ⟨ds, none⟩ := (rfl)
theorem srcOf_l : srcOf (.d (.lst ds)) S = some ⟨ds, none⟩ := (rfl)
theorem oR1_ (h : small62 I = true) : oR1 [.d (.int I)] S = some ⟨rng 0 I.toNat, none⟩ := by
  show (if small62 I = true then _ else _) = _
  rw [if_pos h]
theorem oEnum_t : oEnum [.d (.tup ds)] S = some ⟨enumD 0 ds, none⟩ := (rfl)
theorem oEnum_l : oEnum [.d (.lst ds)] S = some ⟨enumD 0 ds, none⟩ := (rfl)
theorem oZip_t : oZip [.d (.tup ds), .d (.tup es)] S = some ⟨zipD ds es, none⟩ := (rfl)
theorem oZip_l : oZip [.d (.lst ds), .d (.lst es)] S = some ⟨zipD ds es, none⟩ := (rfl)

/-! calls -/
def prV : PR → RV
  | .v x => .d x
  | .l xs => .d (.lst xs)
theorem eCallP_ {FP : List D → Option PR} : eCallP n FP la ρ S = (la ρ S).bind fun z => (oP n FP z.1).bind fun r => some (prV r, z.2) := by
  unfold eCallP fMap
  congr 1
  funext z
  show (((oP n FP z.1).bind fun r => match r with
    | .v x => some (RV.d x)
    | .l xs => some (RV.d (.lst xs))).bind fun y => some (y, z.2)) = (oP n FP z.1).bind fun r => some (prV r, z.2)
  cases oP n FP z.1 with
  | none => rfl
  | some r => cases r <;> rfl
theorem oP1 {FP : List D → Option PR} : oP 1 FP [.d a] = FP [a] := (rfl)
theorem oP2 {FP : List D → Option PR} : oP 2 FP [.d a, .d b] = FP [a, b] := (rfl)
theorem oP3 {FP : List D → Option PR} {c : D} : oP 3 FP [.d a, .d b, .d c] = FP [a, b, c] := (rfl)
theorem prV_v : prV (.v a) = .d a := (rfl)
theorem prV_l : prV (.l ds) = .d (.lst ds) := (rfl)
def callSK (n : Nat) (FS : List RV → Sto → Option (RV × Sto)) (z : List RV × Sto) : Option (RV × Sto) := if z.1.length = n then FS z.1 z.2 else none
theorem eCallS_ {FS : List RV → Sto → Option (RV × Sto)} : eCallS n FS la ρ S = (la ρ S).bind (callSK n FS) := (rfl)
theorem callSK_ {FS : List RV → Sto → Option (RV × Sto)} (h : rs.length = n) : callSK n FS (rs, S) = FS rs S := by
  show (if rs.length = n then _ else _) = _
  rw [if_pos h]
/-! slices -/
theorem cut_from (k : Nat) : cutD ds (some (k : Int)) none = ds.drop k := by
  unfold cutD
  rw [HT.sIx_nat, HT.sIx_none]
  by_cases h : k ≤ ds.length
  · rw [Nat.min_eq_left h, List.take_of_length_le (by rw [List.length_drop]; omega)]
  · rw [Nat.min_eq_right (by omega), List.drop_length, List.drop_eq_nil_of_le (by omega), List.take_nil]
def slK (lo hi : Fo) (ρ : Env') (z : RV × Sto) : Option (RV × Sto) := (fSl (fun _ S => some (z.1, S)) lo hi ρ z.2).bind fun p => ((lookT p.1.1).map fun ds => RV.d (.tup (cutD ds p.1.2.1 p.1.2.2))).bind fun y => some (y, p.2)
theorem eSlT_ {lo hi : Fo} : eSlT f lo hi ρ S = (f ρ S).bind (slK lo hi ρ) := by
  unfold eSlT fMap fSl fBind slK
  cases f ρ S with
  | none => rfl
  | some z => rfl
theorem slK_1 : slK (oSome (eC (.int 1))) oNo ρ (.d (.tup ds), S) = some (.d (.tup (ds.drop 1)), S) := by
  show some (RV.d (.tup (cutD ds (some ((1 : Nat) : Int)) none)), S) = _
  rw [cut_from]
theorem drop_1 {α : Type} {x : α} {xs : List α} : (x :: xs).drop 1 = xs := (rfl)
/-! comprehensions, loops over what none owns -/
def lcC (s : Src) (gg : Gt) (t : Fe Bool) (f : Fe RV) (ρ : Env') (ds : List D) (y : RV × Sto) : Option (List D × Sto) := match y.1 with
  | .d v => (lcGo s gg t f ρ ds y.2).bind fun r => some (v :: r.1, r.2)
  | _ => none
def lcB (s : Src) (gg : Gt) (t : Fe Bool) (f : Fe RV) (ρ ρ1 : Env') (ds : List D) (b : Bool × Sto) : Option (List D × Sto) := if b.1 = true then (f ρ1 b.2).bind (lcC s gg t f ρ ds) else lcGo s gg t f ρ ds b.2
def lcK (gg : Gt) (t : Fe Bool) (f : Fe RV) (ρ : Env') (p : Src × Sto) : Option (List D × Sto) := if p.1.ds.length ≤ Lim then lcGo p.1 gg t f ρ p.1.ds p.2 else none
section
variable {src : Fe Src} {vs : List Nat} {s : Src} {xs : List D}
theorem lLc_ : lLc src gg t f vs ρ S = (src ρ S).bind (lcK gg t f (wipeE ρ vs)) := (rfl)
theorem lcK_ (h : xs.length ≤ Lim) : lcK gg t f ρ (⟨xs, none⟩, S) = lcGo ⟨xs, none⟩ gg t f ρ xs S := by
  show (if xs.length ≤ Lim then _ else _) = _
  rw [if_pos h]
theorem wipe_n : wipeE ρ [] = ρ := (rfl)
theorem wipe_c : wipeE ρ (i :: vs) = (wipeE ρ vs).set i none := (rfl)
theorem lcGo_n : lcGo ⟨xs, none⟩ gg t f ρ [] S = some ([], S) := by
  unfold lcGo
  rw [if_pos (show (⟨xs, none⟩ : Src).ok S = true from rfl)]
theorem lcGo_c : lcGo ⟨xs, none⟩ gg t f ρ (a :: ds) S = (gg (.d a) ρ).bind fun ρ1 => (t ρ1 S).bind (lcB ⟨xs, none⟩ gg t f ρ ρ1 ds) := by
  conv => lhs; unfold lcGo
  rw [if_pos (show (⟨xs, none⟩ : Src).ok S = true from rfl)]
  rfl
theorem lcB_t : lcB s gg t f ρ ρ1 ds (true, S) = (f ρ1 S).bind (lcC s gg t f ρ ds) := (rfl)
theorem lcB_f : lcB s gg t f ρ ρ1 ds (false, S) = lcGo s gg t f ρ ds S := (rfl)
theorem lcC_ : lcC s gg t f ρ ds (.d a, S) = (lcGo s gg t f ρ ds S).bind fun r => some (a :: r.1, r.2) := (rfl)
theorem fTrue_ : fTrue ρ S = some (true, S) := (rfl)
def forK (gg : Gt) (F : Fs) (ρ : Env') (p : Src × Sto) : Option (Fl × Env' × Sto) := foGo p.1 gg F p.1.ds ρ p.2
theorem sFor_ : sFor src gg F ρ S = (src ρ S).bind (forK gg F ρ) := (rfl)
theorem forK_ : forK gg F ρ (s, S) = foGo s gg F s.ds ρ S := (rfl)
def foK (s : Src) (gg : Gt) (F : Fs) (ds : List D) (z : Fl × Env' × Sto) : Option (Fl × Env' × Sto) := match z.1 with
  | .nx => foGo s gg F ds z.2.1 z.2.2
  | .ct => foGo s gg F ds z.2.1 z.2.2
  | .bk => some (.nx, z.2)
  | .rt r => some (.rt r, z.2)
theorem foGo_n : foGo ⟨xs, none⟩ gg F [] ρ S = some (.nx, ρ, S) := by
  unfold foGo
  rw [if_pos (show (⟨xs, none⟩ : Src).ok S = true from rfl)]
theorem foGo_c : foGo ⟨xs, none⟩ gg F (a :: ds) ρ S = (gg (.d a) ρ).bind fun ρ1 => (F ρ1 S).bind (foK ⟨xs, none⟩ gg F ds) := by
  conv => lhs; unfold foGo
  rw [if_pos (show (⟨xs, none⟩ : Src).ok S = true from rfl)]
  rfl
theorem foK_nx : foK s gg F ds (.nx, ρ, S) = foGo s gg F ds ρ S := (rfl)
theorem foK_ct : foK s gg F ds (.ct, ρ, S) = foGo s gg F ds ρ S := (rfl)
theorem foK_bk : foK s gg F ds (.bk, ρ, S) = some (.nx, ρ, S) := (rfl)
theorem foK_rt : foK s gg F ds (.rt r, ρ, S) = some (.rt r, ρ, S) := (rfl)
end
/-! instances -/
theorem isIns_o {c : Str} {fs : List (Str × RV)} (h : S[n]? = some (.ins c fs)) : isIns (.o n) S = some (n, c, fs) := by
  unfold isIns
  simp only [h]
theorem lkF_0 {x : Str} {fs : List (Str × RV)} : lkF x ((x, r) :: fs) = some r := by unfold lkF; rw [if_pos rfl]
theorem lkF_s {x z : Str} {fs : List (Str × RV)} (h : x ≠ z) : lkF x ((z, r) :: fs) = lkF x fs := by
  conv => lhs; unfold lkF
  rw [if_neg h]
/-! chains -/
def chL (op' : Op2) (h : Fe RV) (ρ : Env') (y : RV) (S : Sto) (z : RV) : Option (RV × Sto) := match isBl z with
  | some true => (h ρ S).bind (binK op' y)
  | some false => some (.d (.bl false), S)
  | none => none
def chK (op op' : Op2) (h : Fe RV) (ρ : Env') (x : RV) (y : RV × Sto) : Option (RV × Sto) := (op x y.1 y.2).bind (chL op' h ρ y.1 y.2)
def chJ (op op' : Op2) (g h : Fe RV) (ρ : Env') (x : RV × Sto) : Option (RV × Sto) := (g ρ x.2).bind (chK op op' h ρ x.1)
theorem eChain_ : eChain op op' f g h ρ S = (f ρ S).bind (chJ op op' g h ρ) := (rfl)
theorem chJ_ : chJ op op' g h ρ (x, S) = (g ρ S).bind (chK op op' h ρ x) := (rfl)
theorem chK_ : chK op op' h ρ x (y, S) = (op x y S).bind (chL op' h ρ y S) := (rfl)
theorem chL_t : chL op' h ρ y S (.d (.bl true)) = (h ρ S).bind (binK op' y) := (rfl)
theorem chL_f : chL op' h ρ y S (.d (.bl false)) = some (.d (.bl false), S) := (rfl)
/-! making, methods, fields, dicts -/
section
variable {c m : Str} {FS : List RV → Sto → Option (RV × Sto)} {fs : List (Str × RV)} {j : Nat} {cs : List Str} {fl : Str} {kvs : List (D × D)} {v : RV} {ng : Bool} {fo fi fe : Fe RV}
def makeJ (n : Nat) (z : RV × Sto) : Option (RV × Sto) := match z.1 with
  | .d .non => some (.o n, z.2)
  | _ => none
def makeK (c : Str) (n : Nat) (FS : List RV → Sto → Option (RV × Sto)) (p : List RV × Sto) : Option (RV × Sto) := if p.1.length + 1 = n then (FS (.o p.2.length :: p.1) (p.2 ++ [.ins c []])).bind (makeJ p.2.length) else none
theorem eMake_ : eMake c n FS la ρ S = (la ρ S).bind (makeK c n FS) := (rfl)
theorem makeK_ (h : rs.length + 1 = n) : makeK c n FS (rs, S) = (FS (.o S.length :: rs) (S ++ [.ins c []])).bind (makeJ S.length) := by
  show (if rs.length + 1 = n then _ else _) = _
  rw [if_pos h]
theorem makeJ_ : makeJ n (.d .non, S) = some (.o n, S) := (rfl)
def methJ (n : Nat) (FS : List RV → Sto → Option (RV × Sto)) (o : RV) (p : List RV × Sto) : Option (RV × Sto) := if p.1.length + 1 = n then FS (o :: p.1) p.2 else none
def methK (c m : Str) (n : Nat) (FS : List RV → Sto → Option (RV × Sto)) (la : Fe (List RV)) (ρ : Env') (o : RV × Sto) : Option (RV × Sto) := (isIns o.1 o.2).bind fun q => if q.2.1 = c ∧ (lkF m q.2.2).isNone = true then (la ρ o.2).bind (methJ n FS o.1) else none
theorem eMeth_ : eMeth c m n FS f la ρ S = (f ρ S).bind (methK c m n FS la ρ) := (rfl)
theorem methK_ (hS : S[j]? = some (.ins c fs)) (hm : lkF m fs = none) : methK c m n FS la ρ (.o j, S) = (la ρ S).bind (methJ n FS (.o j)) := by
  show (isIns (.o j) S).bind _ = _
  rw [isIns_o hS, Option.bind_some, if_pos ⟨rfl, by rw [hm]; rfl⟩]
theorem methJ_ (h : rs.length + 1 = n) : methJ n FS x (rs, S) = FS (x :: rs) S := by
  show (if rs.length + 1 = n then _ else _) = _
  rw [if_pos h]
def fldL (cs : List Str) (fl : Str) (ρ : Env') (v : RV) (o : RV × Sto) : Option (Fl × Env' × Sto) := (isIns o.1 o.2).bind fun q => if q.2.1 ∈ cs ∧ q.2.2.length < 1000 then some (.nx, ρ, o.2.set q.1 (.ins q.2.1 (putR fl v q.2.2))) else none
def fldJ (cs : List Str) (fl : Str) (fo : Fe RV) (ρ : Env') (v : RV × Sto) : Option (Fl × Env' × Sto) := (fo ρ v.2).bind (fldL cs fl ρ v.1)
theorem sFld_ : sFld cs fl fo fe ρ S = (fe ρ S).bind (fldJ cs fl fo ρ) := (rfl)
theorem fldJ_ : fldJ cs fl fo ρ (v, S) = (fo ρ S).bind (fldL cs fl ρ v) := (rfl)
theorem fldL_ (hS : S[j]? = some (.ins c fs)) (hc : c ∈ cs) (hl : fs.length < 1000) : fldL cs fl ρ v (.o j, S) = some (.nx, ρ, S.set j (.ins c (putR fl v fs))) := by
  show (isIns (.o j) S).bind _ = _
  rw [isIns_o hS, Option.bind_some, if_pos ⟨hc, hl⟩]
def fldK (fl : Str) (z : RV × Sto) : Option (RV × Sto) := ((isIns z.1 z.2).bind fun q => lkF fl q.2.2).bind fun y => some (y, z.2)
theorem eFld_ : eFld fl f ρ S = (f ρ S).bind (fldK fl) := (rfl)
theorem fldK_ (hS : S[j]? = some (.ins c fs)) (h : lkF fl fs = some y) : fldK fl (.o j, S) = some (y, S) := by
  show ((isIns (.o j) S).bind _).bind _ = _
  rw [isIns_o hS, Option.bind_some, h, Option.bind_some]
theorem eNewX_ : eNewX ρ S = some (.o S.length, S ++ [.dcx []]) := (rfl)
theorem isDX_ (hS : S[j]? = some (.dcx kvs)) : isDX (.o j) S = some (j, kvs) := by
  unfold isDX
  simp only [hS]
theorem tKey_ (h : D.isKey 8 (.tup ds) = true) : tKey (.d (.tup ds)) = some (.tup ds) := if_pos h
theorem vInX_ (hS : S[j]? = some (.dcx kvs)) (h : D.isKey 8 (.tup ds) = true) : vInX ng (.d (.tup ds)) (.o j) S = some (.d (.bl (if ng = true then !(dGet kvs (.tup ds)).isSome else (dGet kvs (.tup ds)).isSome))) := by
  show (isDX (.o j) S).bind _ = _
  rw [isDX_ hS, Option.bind_some, tKey_ h, Option.bind_some]
theorem vIxX_ (hS : S[j]? = some (.dcx kvs)) (h : D.isKey 8 (.tup ds) = true) : vIxX (.o j) (.d (.tup ds)) S = (dGet kvs (.tup ds)).map RV.d := by
  show (isDX (.o j) S).bind _ = _
  rw [isDX_ hS, Option.bind_some, tKey_ h, Option.bind_some]
def sxL (ρ : Env') (v o : RV) (i : RV × Sto) : Option (Fl × Env' × Sto) := (isDX o i.2).bind fun q => (tKey i.1).bind fun k => match v with
  | .d d => if q.2.length < Lim then some (.nx, ρ, i.2.set q.1 (.dcx (dPut q.2 k d))) else none
  | _ => none
def sxK (fi : Fe RV) (ρ : Env') (v : RV) (o : RV × Sto) : Option (Fl × Env' × Sto) := (fi ρ o.2).bind (sxL ρ v o.1)
def sxJ (fo fi : Fe RV) (ρ : Env') (v : RV × Sto) : Option (Fl × Env' × Sto) := (fo ρ v.2).bind (sxK fi ρ v.1)
theorem sSubX_ : sSubX fo fi fe ρ S = (fe ρ S).bind (sxJ fo fi ρ) := (rfl)
theorem sxJ_ : sxJ fo fi ρ (v, S) = (fo ρ S).bind (sxK fi ρ v) := (rfl)
theorem sxK_ : sxK fi ρ v (x, S) = (fi ρ S).bind (sxL ρ v x) := (rfl)
theorem sxL_ (hS : S[j]? = some (.dcx kvs)) (h : D.isKey 8 (.tup ds) = true) (hl : kvs.length < Lim) : sxL ρ (.d a) (.o j) (.d (.tup ds), S) = some (.nx, ρ, S.set j (.dcx (dPut kvs (.tup ds) a))) := by
  show (isDX (.o j) S).bind _ = _
  rw [isDX_ hS, Option.bind_some, tKey_ h, Option.bind_some]
  exact if_pos hl
theorem dGet_put : ∀ (kvs : List (D × D)) (k v i : D), dGet (dPut kvs k v) i = if i = k then some v else dGet kvs i := by
  intro kvs k v i
  have h1 : ∀ kvs : List (D × D), dGet (kvs.map fun p => if p.1 = k then (p.1, v) else p) i = (dGet kvs i).map fun x => if i = k then v else x := by
    intro kvs
    induction kvs with
    | nil => rfl
    | cons p r ih =>
      rw [List.map_cons, dGet_cons, dGet_cons, ih]
      by_cases e : p.1 = k
      · rw [if_pos e]
        by_cases e2 : p.1 = i
        · rw [if_pos e2, if_pos e2, Option.map_some, if_pos (e2.symm.trans e)]
        · rw [if_neg e2, if_neg e2]
      · rw [if_neg e]
        by_cases e2 : p.1 = i
        · rw [if_pos e2, if_pos e2, Option.map_some, if_neg (fun z => e (e2.trans z))]
        · rw [if_neg e2, if_neg e2]
  have h2 : ∀ kvs : List (D × D), dGet kvs k = none → dGet (kvs ++ [(k, v)]) i = if i = k then some v else dGet kvs i := by
    intro kvs
    induction kvs with
    | nil =>
      intro _
      show dGet [(k, v)] i = _
      rw [dGet_cons]
      by_cases e : i = k
      · rw [if_pos e, if_pos e.symm]
      · rw [if_neg e, if_neg (fun z => e z.symm)]
    | cons p r ih =>
      intro h
      rw [dGet_cons] at h
      have hk : p.1 ≠ k := fun z => by rw [if_pos z] at h; cases h
      rw [if_neg hk] at h
      rw [List.cons_append, dGet_cons, dGet_cons, ih h]
      by_cases e : p.1 = i
      · rw [if_pos e, if_pos e, if_neg (fun z => hk (e.trans z))]
      · rw [if_neg e, if_neg e]
  unfold dPut
  cases q : dGet kvs k with
  | none =>
    rw [if_neg (by simp)]
    exact h2 kvs q
  | some x =>
    rw [if_pos (by rfl), h1]
    by_cases e : i = k
    · rw [if_pos e, e, q, Option.map_some, if_pos rfl]
    · rw [if_neg e]
      cases dGet kvs i with
      | none => rfl
      | some y => rw [Option.map_some, if_neg e]
theorem dPut_len (kvs : List (D × D)) (k v : D) : (dPut kvs k v).length ≤ kvs.length + 1 := by
  unfold dPut
  split
  · rw [List.length_map]; omega
  · rw [List.length_append, List.length_singleton]; omega
end
/-! reversals, a call that gives a new list -/
def revK (z : RV × Sto) : Option (List D × Sto) := (match lookL z.1 z.2 with
  | some ds => if ds.length ≤ Lim then some ds.reverse else none
  | none => none).bind fun y => some (y, z.2)
theorem lRev_ : lRev f ρ S = (f ρ S).bind revK := (rfl)
theorem revK_l (h : ds.length ≤ Lim) : revK (.d (.lst ds), S) = some (ds.reverse, S) := by
  show (if ds.length ≤ Lim then some ds.reverse else none).bind _ = _
  rw [if_pos h]
  rfl
def revTK (z : RV × Sto) : Option (RV × Sto) := ((lookT z.1).map fun ds => RV.d (.tup ds.reverse)).bind fun y => some (y, z.2)
theorem eRevT_ : eRevT f ρ S = (f ρ S).bind revTK := (rfl)
theorem revTK_ : revTK (.d (.tup ds), S) = some (.d (.tup ds.reverse), S) := (rfl)
def callLK (n : Nat) (FP : List D → Option PR) (z : List RV × Sto) : Option (List D × Sto) := ((oP n FP z.1).bind fun r => match r with
  | .v _ => none
  | .l xs => some xs).bind fun y => some (y, z.2)
theorem lCallP_ {FP : List D → Option PR} : lCallP n FP la ρ S = (la ρ S).bind (callLK n FP) := (rfl)
theorem callLK_ {FP : List D → Option PR} (h : oP n FP rs = some (.l ds)) : callLK n FP (rs, S) = some (ds, S) := by
  show ((oP n FP rs).bind _).bind _ = _
  rw [h]
  rfl
/-! ends -/
def finP (z : Fl × Env' × Sto) : Option PR := match z.1 with
  | .nx => some (.v .non)
  | .rt (.d x) => some (.v x)
  | .rt (.o n) => (match z.2.2[n]? with
    | some (.lst xs) => if xs.length ≤ Lim then some (.l xs) else none
    | _ => none)
  | _ => none
theorem runP_ {N : Nat} : runP N F ds = (F (env0 N (ds.map RV.d)) []).bind finP := (rfl)
theorem finP_n : finP (.nx, ρ, S) = some (.v .non) := (rfl)
theorem finP_v : finP (.rt (.d a), ρ, S) = some (.v a) := (rfl)
theorem finP_o (h : S[n]? = some (.lst ds)) (hl : ds.length ≤ Lim) : finP (.rt (.o n), ρ, S) = some (.l ds) := by
  unfold finP
  simp only [h]
  rw [if_pos hl]
def finS (z : Fl × Env' × Sto) : Option (RV × Sto) := match z.1 with
  | .nx => some (.d .non, z.2.2)
  | .rt r => some (r, z.2.2)
  | _ => none
theorem runS_ {N : Nat} : runS N F rs S = (F (env0 N rs) S).bind finS := (rfl)
theorem finS_n : finS (.nx, ρ, S) = some (.d .non, S) := (rfl)
theorem finS_r : finS (.rt r, ρ, S) = some (r, S) := (rfl)
end

end Ev

/-! The evaluator, part O: loops by invariants; the two defs that each law has. -/
namespace Ev
open PySem PySem.Spec PyProof.Rows L2

theorem foGo_inv {s : Src} {gg : Gt} {F : Fs} (P : Nat → Env' → Sto → Prop) (hok : ∀ i ρ S, P i ρ S → s.ok S = true)
    (step : ∀ i ρ S d, s.ds[i]? = some d → P i ρ S → ∃ ρ1 fl ρ2 S2, gg (.d d) ρ = some ρ1 ∧ F ρ1 S = some (fl, ρ2, S2) ∧ (fl = .nx ∨ fl = .ct) ∧ P (i + 1) ρ2 S2) :
    ∀ (k i : Nat) (ρ : Env') (S : Sto), i + k = s.ds.length → P i ρ S → ∃ ρ' S', foGo s gg F (s.ds.drop i) ρ S = some (.nx, ρ', S') ∧ P s.ds.length ρ' S'
  | 0, i, ρ, S, hi, p => by
    have e : i = s.ds.length := by omega
    subst e
    rw [List.drop_length]
    exact ⟨ρ, S, by unfold foGo; rw [if_pos (hok _ _ _ p)], p⟩
  | k + 1, i, ρ, S, hi, p => by
    have hlt : i < s.ds.length := by omega
    rw [List.drop_eq_getElem_cons hlt]
    obtain ⟨ρ1, fl, ρ2, S2, h1, h2, h3, h4⟩ := step i ρ S s.ds[i] (by simp [hlt]) p
    obtain ⟨ρ', S', h5, h6⟩ := foGo_inv P hok step k (i + 1) ρ2 S2 (by omega) h4
    refine ⟨ρ', S', ?_, h6⟩
    unfold foGo
    rw [if_pos (hok _ _ _ p), h1, Option.bind_some, h2, Option.bind_some]
    rcases h3 with h3 | h3 <;> subst h3 <;> exact h5
theorem sFor_inv {src : Fe Src} {gg : Gt} {F : Fs} {ρ : Env'} {S S1 : Sto} {s : Src} (P : Nat → Env' → Sto → Prop) (hs : src ρ S = some (s, S1)) (h0 : P 0 ρ S1) (hok : ∀ i ρ S, P i ρ S → s.ok S = true)
    (step : ∀ i ρ S d, s.ds[i]? = some d → P i ρ S → ∃ ρ1 fl ρ2 S2, gg (.d d) ρ = some ρ1 ∧ F ρ1 S = some (fl, ρ2, S2) ∧ (fl = .nx ∨ fl = .ct) ∧ P (i + 1) ρ2 S2) :
    ∃ ρ' S', sFor src gg F ρ S = some (.nx, ρ', S') ∧ P s.ds.length ρ' S' := by
  obtain ⟨ρ', S', h1, h2⟩ := foGo_inv P hok step s.ds.length 0 ρ S1 (by omega) h0
  rw [List.drop_zero] at h1
  exact ⟨ρ', S', by unfold sFor; rw [hs, Option.bind_some]; exact h1, h2⟩
/-- a loop over what none owns, as a fold -/
theorem foGo_fold {α : Type} {xs : List D} {gg : Gt} {F : Fs} (P : α → Env' → Sto → Prop) (g : α → D → α) : ∀ (ds : List D), (∀ d ∈ ds, ∀ a ρ S, P a ρ S → ∃ ρ1 ρ2 S2, gg (.d d) ρ = some ρ1 ∧ F ρ1 S = some (.nx, ρ2, S2) ∧ P (g a d) ρ2 S2) →
    ∀ a ρ S, P a ρ S → ∃ ρ' S', foGo ⟨xs, none⟩ gg F ds ρ S = some (.nx, ρ', S') ∧ P (ds.foldl g a) ρ' S'
  | [], _, a, ρ, S, p => ⟨ρ, S, foGo_n, p⟩
  | d :: ds, st, a, ρ, S, p => by
    obtain ⟨ρ1, ρ2, S2, h1, h2, h3⟩ := st d List.mem_cons_self a ρ S p
    obtain ⟨ρ', S', h4, h5⟩ := foGo_fold P g ds (fun x hx => st x (List.mem_cons_of_mem _ hx)) (g a d) ρ2 S2 h3
    exact ⟨ρ', S', by rw [foGo_c, h1, Option.bind_some, h2, Option.bind_some, foK_nx, h4], h5⟩
/-- .. with the turns counted -/
theorem foGo_foldI {α : Type} {xs : List D} {gg : Gt} {F : Fs} (P : Nat → α → Env' → Sto → Prop) (g : α → D → α) : ∀ (ds : List D) (n : Nat), (∀ i d, ds[i]? = some d → ∀ a ρ S, P (n + i) a ρ S → ∃ ρ1 ρ2 S2, gg (.d d) ρ = some ρ1 ∧ F ρ1 S = some (.nx, ρ2, S2) ∧ P (n + i + 1) (g a d) ρ2 S2) →
    ∀ a ρ S, P n a ρ S → ∃ ρ' S', foGo ⟨xs, none⟩ gg F ds ρ S = some (.nx, ρ', S') ∧ P (n + ds.length) (ds.foldl g a) ρ' S'
  | [], n, _, a, ρ, S, p => ⟨ρ, S, foGo_n, p⟩
  | d :: ds, n, st, a, ρ, S, p => by
    obtain ⟨ρ1, ρ2, S2, h1, h2, h3⟩ := st 0 d rfl a ρ S p
    obtain ⟨ρ', S', h4, h5⟩ := foGo_foldI P g ds (n + 1) (fun i x hx a ρ S p => by
      have := st (i + 1) x (by simpa using hx) a ρ S (by rw [show n + (i + 1) = n + 1 + i by omega]; exact p)
      rwa [show n + (i + 1) = n + 1 + i by omega] at this) (g a d) ρ2 S2 h3
    refine ⟨ρ', S', by rw [foGo_c, h1, Option.bind_some, h2, Option.bind_some, foK_nx, h4], ?_⟩
    rw [List.length_cons, List.foldl_cons, show n + (ds.length + 1) = n + 1 + ds.length by omega]
    exact h5
/-- a comprehension that changes nothing -/
theorem lcGo_map {s : Src} {gg : Gt} {t : Fe Bool} {f : Fe RV} {ρ : Env'} {S : Sto} (h : D → D) (ok : s.ok S = true) : ∀ {ds : List D}, (∀ d ∈ ds, ∃ ρ1, gg (.d d) ρ = some ρ1 ∧ t ρ1 S = some (true, S) ∧ f ρ1 S = some (.d (h d), S)) → lcGo s gg t f ρ ds S = some (ds.map h, S)
  | [], _ => by unfold lcGo; rw [if_pos ok]; rfl
  | d :: ds, q => by
    obtain ⟨ρ1, h1, h2, h3⟩ := q d List.mem_cons_self
    unfold lcGo
    rw [if_pos ok, h1, Option.bind_some, h2, Option.bind_some]
    simp only [if_true]
    rw [h3, Option.bind_some, lcGo_map h ok fun x hx => q x (List.mem_cons_of_mem _ hx)]
    rfl
theorem lcGo_mapE {α : Type} {xs : List D} {gg : Gt} {t : Fe Bool} {f : Fe RV} {ρ : Env'} {S : Sto} (e g : α → D) : ∀ {ps : List α}, (∀ p ∈ ps, ∃ ρ1, gg (.d (e p)) ρ = some ρ1 ∧ t ρ1 S = some (true, S) ∧ f ρ1 S = some (.d (g p), S)) → lcGo ⟨xs, none⟩ gg t f ρ (ps.map e) S = some (ps.map g, S)
  | [], _ => lcGo_n
  | p :: ps, q => by
    obtain ⟨ρ1, h1, h2, h3⟩ := q p List.mem_cons_self
    rw [List.map_cons, lcGo_c, h1, Option.bind_some, h2, Option.bind_some, lcB_t, h3, Option.bind_some, lcC_, lcGo_mapE e g fun x hx => q x (List.mem_cons_of_mem _ hx)]
    rfl
/-- a comprehension that changes the store -/
theorem lcGo_inv {xs : List D} {gg : Gt} {t : Fe Bool} {f : Fe RV} {ρ : Env'} (I : Sto → Prop) (R : Nat → D → Prop) : ∀ (ds : List D) (n : Nat), (∀ i d, ds[i]? = some d → ∀ S, I S → ∃ ρ1 v S', gg (.d d) ρ = some ρ1 ∧ t ρ1 S = some (true, S) ∧ f ρ1 S = some (.d v, S') ∧ I S' ∧ R (n + i) v) →
    ∀ S, I S → ∃ vs S', lcGo ⟨xs, none⟩ gg t f ρ ds S = some (vs, S') ∧ I S' ∧ vs.length = ds.length ∧ ∀ i v, vs[i]? = some v → R (n + i) v
  | [], n, _, S, p => ⟨[], S, lcGo_n, p, rfl, fun i v h => by simp at h⟩
  | d :: ds, n, st, S, p => by
    obtain ⟨ρ1, v, S1, h1, h2, h3, h4, h5⟩ := st 0 d rfl S p
    obtain ⟨vs, S', h6, h7, h8, h9⟩ := lcGo_inv I R ds (n + 1) (fun i x hx S p => by
      have := st (i + 1) x (by simpa using hx) S p
      rwa [show n + (i + 1) = n + 1 + i by omega] at this) S1 h4
    refine ⟨v :: vs, S', ?_, h7, by simp [h8], fun i u hu => ?_⟩
    · rw [lcGo_c, h1, Option.bind_some, h2, Option.bind_some, lcB_t, h3, Option.bind_some, lcC_, h6]
      rfl
    · cases i with
      | zero => simp at hu; subst hu; exact h5
      | succ i =>
        have := h9 i u (by simpa using hu)
        rwa [show n + 1 + i = n + (i + 1) by omega] at this
theorem seq_nx {F G : Fs} {ρ ρ1 : Env'} {S S1 : Sto} (h : F ρ S = some (.nx, ρ1, S1)) : sSeq2 F G ρ S = G ρ1 S1 := by
  unfold sSeq2
  rw [h, Option.bind_some]
theorem seq_rt {F G : Fs} {ρ ρ1 : Env'} {S S1 : Sto} {r : RV} (h : F ρ S = some (.rt r, ρ1, S1)) : sSeq2 F G ρ S = some (.rt r, ρ1, S1) := by
  unfold sSeq2
  rw [h, Option.bind_some]
theorem if_t {t : Fe Bool} {F G : Fs} {ρ : Env'} {S S1 : Sto} (h : t ρ S = some (true, S1)) : sIf t F G ρ S = F ρ S1 := by
  unfold sIf
  rw [h, Option.bind_some]
  rfl
theorem if_f {t : Fe Bool} {F G : Fs} {ρ : Env'} {S S1 : Sto} (h : t ρ S = some (false, S1)) : sIf t F G ρ S = G ρ S1 := by
  unfold sIf
  rw [h, Option.bind_some]
  rfl
theorem asg_ {f : Fe RV} {gg : Gt} {ρ ρ1 : Env'} {S S1 : Sto} {r : RV} (h : f ρ S = some (r, S1)) (hg : gg r ρ = some ρ1) : sAsg f gg ρ S = some (.nx, ρ1, S1) := by
  unfold sAsg
  rw [h, Option.bind_some, hg, Option.bind_some]
theorem ret_ {f : Fe RV} {ρ : Env'} {S S1 : Sto} {r : RV} (h : f ρ S = some (r, S1)) : sRet f ρ S = some (.rt r, ρ, S1) := by
  unfold sRet
  rw [h, Option.bind_some]
theorem runP_v {N : Nat} {F : Fs} {ds : List D} {x : D} {ρ : Env'} {S : Sto} (h : F (env0 N (ds.map RV.d)) [] = some (.rt (.d x), ρ, S)) : runP N F ds = some (.v x) := by
  unfold runP
  rw [h, Option.bind_some]
theorem runP_n {N : Nat} {F : Fs} {ds : List D} {ρ : Env'} {S : Sto} (h : F (env0 N (ds.map RV.d)) [] = some (.nx, ρ, S)) : runP N F ds = some (.v .non) := by
  unfold runP
  rw [h, Option.bind_some]
theorem runP_l {N : Nat} {F : Fs} {ds xs : List D} {n : Nat} {ρ : Env'} {S : Sto} (h : F (env0 N (ds.map RV.d)) [] = some (.rt (.o n), ρ, S)) (hS : S[n]? = some (.lst xs)) (hl : xs.length ≤ Lim) : runP N F ds = some (.l xs) := by
  unfold runP
  rw [h, Option.bind_some]
  simp only [hS]
  rw [if_pos hl]
theorem runS_v {N : Nat} {F : Fs} {rs : List RV} {r : RV} {ρ : Env'} {S S' : Sto} (h : F (env0 N rs) S = some (.rt r, ρ, S')) : runS N F rs S = some (r, S') := by
  unfold runS
  rw [h, Option.bind_some]
theorem runS_n {N : Nat} {F : Fs} {rs : List RV} {ρ : Env'} {S S' : Sto} (h : F (env0 N rs) S = some (.nx, ρ, S')) : runS N F rs S = some (.d .non, S') := by
  unfold runS
  rw [h, Option.bind_some]

/-! ### lists of dInts -/
abbrev dInts (is : List Int) : List D := is.map D.int
def takeF : Fs :=
    sSeq2 (sIf (fTest (eBin vEq (eCall bLen (aCons (eVar 0) (aNil))) (eC (.int 0)))) (sSeq2 (sRet (eC (.int 0)))
    (sNil)) (sNil))
    (sSeq2 (sRet (eBin vMod (eCall bInt (aCons (eMl0 oPop (eVar 0)) (aNil))) (eVar 1)))
    (sNil))
def drawsB : Fs :=
    (sSeq2 (sAsg (eBin vMod (eVar 5) (eCall bLen (aCons (eVar 2) (aNil)))) (gN 6))
    (sSeq2 (sAsg (eBin vIx (eVar 2) (eVar 6)) (gN 7))
    (sSeq2 (sAsg (eBin vMod (eCall bInt (aCons (eBin vAdd (eBin vAdd (eBin vAdd (eBin vMul (eVar 4) (eC (.int 48271))) (eBin vMul (eBin vMod (eCall bInt (aCons (eVar 7) (aNil))) (eC (.int 1000003))) (eC (.int 69621)))) (eBin vMul (eVar 5) (eC (.int 7919)))) (eC (.int 11))) (aNil))) (eC (.int 2147483647))) (gN 4))
    (sSeq2 (sAsg (eBin vMod (eCall bInt (aCons (eBin vAdd (eBin vAdd (eBin vMul (eVar 4) (eVar 4)) (eBin vMul (eC (.int 31)) (eVar 4))) (eVar 5)) (aNil))) (eC (.int 1000003))) (gN 8))
    (sSeq2 (sIf (fTest (eBin vGe (eVar 7) (eBin vPow (eC (.int 10)) (eC (.int 18))))) (sSeq2 (sExpr (eMl1 oApp (eVar 3) (eBin vMod (eCall bInt (aCons (eVar 7) (aNil))) (eC (.int 1000)))))
    (sSeq2 (sSubL (eVar 2) (eVar 6) (eBin vDiv (eVar 7) (eC (.int 1000))))
    (sNil))) (sSeq2 (sExpr (eMl1 oApp (eVar 3) (eBin vMod (eCall bInt (aCons (eVar 8) (aNil))) (eC (.int 1000)))))
    (sNil)))
    (sNil))))))
def drawsF : Fs :=
    sSeq2 (sAsg (eObj (lCall bLst (aCons (eVar 0) (aNil)))) (gN 2))
    (sSeq2 (sIf (fTest (eBin vEq (eCall bLen (aCons (eVar 2) (aNil))) (eC (.int 0)))) (sSeq2 (sAsg (eObj (aDs (aCons (eC (.int 7)) (aNil)))) (gN 2))
    (sNil)) (sNil))
    (sSeq2 (sAsg (eObj (aDs (aNil))) (gN 3))
    (sSeq2 (sAsg (eC (.int 12345)) (gN 4))
    (sSeq2 (sFor (fMap (aCons (eVar 1) (aNil)) oR1) (gN 5) drawsB)
    (sSeq2 (sExpr (eMl0 oRev (eVar 3)))
    (sSeq2 (sRet (eVar 3))
    (sNil)))))))

theorem take_ok {S : Sto} {n : Nat} {is : List Int} {lim : Int} (h : S[n]? = some (.lst (dInts is))) (hl : 0 < lim) :
    ∃ v js, runS 2 takeF [.o n, .d (.int lim)] S = some (.d (.int v), S.set n (.lst (dInts js))) ∧ 0 ≤ v ∧ v < lim := by
  have hlen : eCall bLen (aCons (eVar 0) aNil) (env0 2 [.o n, .d (.int lim)]) S = some (.d (.int is.length), S) := by
    show eCall bLen (aCons (eVar 0) aNil) [some (.o n), some (.d (.int lim))] S = _
    simp only [eC_, eTy_, eVar_0, eVar_s, eBin_, binJ_, binK_, aNil_, aCons_, consJ_, fMap_, mapK_, eCall_, lCall_, aDs_, dsK_, dsOf_nil, dsOf_cons, eTup_, eVal_, eObj_, fIf_, ifK_t, ifK_f, fTest_, tstK_, fTru_, vTru_bl, vTru_int, vTru_non, vTru_lst, vTru_tup, fAnd_, andK_t, andK_f, fOr_, orK_t, orK_f, fNot_, eAnd_, eandK_t, eandK_f, eOr_, eorK_t, eorK_f, eNot_, notK_, vAdd_i, vAddI_i, vSub_i, vLt_i, vLe_i, vGt_i, vGe_i, vEq_i, vNe_i, vIsN_non, vIsN_int, vIsN_bl, vIsN_str, vIsN_tup, vIsN_lst, vIx_t, vIx_l, atI_0, atI_1, atI_2, bLen_t, bLen_l, bInt_i, bInt_b, bIsi_int, bIsi_bl, bIsi_str, bIsi_tup, bIsi_lst, bIsi_non, is_ii, is_ib, is_it, is_bi, is_bb, is_tt, is_ti, is_tb, is_st, is_si, is_ss, is_nt, is_ll, is_lt, is_tl, bTup_l, bTup_t, bBools_l, bInts_l, eMl0_, eMl1_, oRev_, sNil_, sSeq_, seqK_nx, seqK_rt, seqK_bk, seqK_ct, sIf_, sifK_t, sifK_f, sAsg_, asgK_, gN_, gsNil_, gsCons_, sRet_, sRetN_, sExpr_, sPar_, parK_, eSeq_, srcOf_t, srcOf_l, oEnum_t, oEnum_l, oZip_t, oZip_l, eCallP_, oP1, oP2, oP3, prV_v, prV_l, eCallS_, eFld_, finP_n, finP_v, finS_n, finS_r, eSlT_, slK_1, drop_1, lLc_, wipe_n, wipe_c, lcGo_n, lcGo_c, lcB_t, lcB_f, lcC_, fTrue_, forK_, foGo_n, foGo_c, foK_nx, foK_ct, foK_bk, foK_rt, lkF_0, eChain_, chJ_, chK_, chL_t, chL_f, eMake_, makeJ_, eMeth_, sFld_, fldJ_, eNewX_, sSubX_, sxJ_, sxK_, decide_true, decide_false, lRev_, eRevT_, revTK_, lCallP_, obind_some, obind_none, omap_some, omap_none, List.getElem?_cons_zero, List.getElem?_cons_succ, set_0, set_s, if_true, if_false, Bool.false_eq_true, Bool.not_true, Bool.not_false, bLen_o h, List.length_map]
  have ht : fTest (eBin vEq (eCall bLen (aCons (eVar 0) aNil)) (eC (.int 0))) (env0 2 [.o n, .d (.int lim)]) S = some (decide ((is.length : Int) = 0), S) := by
    rw [fTest_, eBin_, hlen]
    simp only [eC_, eTy_, eVar_0, eVar_s, eBin_, binJ_, binK_, aNil_, aCons_, consJ_, fMap_, mapK_, eCall_, lCall_, aDs_, dsK_, dsOf_nil, dsOf_cons, eTup_, eVal_, eObj_, fIf_, ifK_t, ifK_f, fTest_, tstK_, fTru_, vTru_bl, vTru_int, vTru_non, vTru_lst, vTru_tup, fAnd_, andK_t, andK_f, fOr_, orK_t, orK_f, fNot_, eAnd_, eandK_t, eandK_f, eOr_, eorK_t, eorK_f, eNot_, notK_, vAdd_i, vAddI_i, vSub_i, vLt_i, vLe_i, vGt_i, vGe_i, vEq_i, vNe_i, vIsN_non, vIsN_int, vIsN_bl, vIsN_str, vIsN_tup, vIsN_lst, vIx_t, vIx_l, atI_0, atI_1, atI_2, bLen_t, bLen_l, bInt_i, bInt_b, bIsi_int, bIsi_bl, bIsi_str, bIsi_tup, bIsi_lst, bIsi_non, is_ii, is_ib, is_it, is_bi, is_bb, is_tt, is_ti, is_tb, is_st, is_si, is_ss, is_nt, is_ll, is_lt, is_tl, bTup_l, bTup_t, bBools_l, bInts_l, eMl0_, eMl1_, oRev_, sNil_, sSeq_, seqK_nx, seqK_rt, seqK_bk, seqK_ct, sIf_, sifK_t, sifK_f, sAsg_, asgK_, gN_, gsNil_, gsCons_, sRet_, sRetN_, sExpr_, sPar_, parK_, eSeq_, srcOf_t, srcOf_l, oEnum_t, oEnum_l, oZip_t, oZip_l, eCallP_, oP1, oP2, oP3, prV_v, prV_l, eCallS_, eFld_, finP_n, finP_v, finS_n, finS_r, eSlT_, slK_1, drop_1, lLc_, wipe_n, wipe_c, lcGo_n, lcGo_c, lcB_t, lcB_f, lcC_, fTrue_, forK_, foGo_n, foGo_c, foK_nx, foK_ct, foK_bk, foK_rt, lkF_0, eChain_, chJ_, chK_, chL_t, chL_f, eMake_, makeJ_, eMeth_, sFld_, fldJ_, eNewX_, sSubX_, sxJ_, sxK_, decide_true, decide_false, lRev_, eRevT_, revTK_, lCallP_, obind_some, obind_none, omap_some, omap_none, List.getElem?_cons_zero, List.getElem?_cons_succ, set_0, set_s, if_true, if_false, Bool.false_eq_true, Bool.not_true, Bool.not_false]
  by_cases hne : is = []
  · subst hne
    refine ⟨0, [], ?_, Int.le_refl 0, hl⟩
    have e : S.set n (.lst (dInts [])) = S := by
      obtain ⟨h1, h2⟩ := List.getElem?_eq_some_iff.mp h
      rw [← h2]
      exact List.set_getElem_self h1
    rw [e]
    refine runS_v (ρ := env0 2 [.o n, .d (.int lim)]) ?_
    unfold takeF
    refine seq_rt ?_
    rw [if_t ht]
    exact seq_rt rfl
  · have hz : decide ((is.length : Int) = 0) = false := decide_eq_false fun z => hne (List.length_eq_zero_iff.mp (by omega))
    rw [hz] at ht
    refine ⟨is.getLast hne % lim, is.dropLast, ?_, Int.emod_nonneg _ (by omega), Int.emod_lt_of_pos _ hl⟩
    refine runS_v (ρ := env0 2 [.o n, .d (.int lim)]) ?_
    unfold takeF
    rw [seq_nx (ρ1 := env0 2 [.o n, .d (.int lim)]) (S1 := S) (by rw [if_f ht]; rfl)]
    refine seq_rt (ret_ ?_)
    have hp : oPop (dInts is) = some (.d (.int (is.getLast hne)), dInts is.dropLast) := by
      unfold oPop dInts
      rw [List.getElem?_map, List.length_map, ← List.getLast?_eq_getElem?, List.getLast?_eq_some_getLast hne, List.map_dropLast]
      rfl
    show eBin vMod (eCall bInt (aCons (eMl0 oPop (eVar 0)) aNil)) (eVar 1) [some (.o n), some (.d (.int lim))] S = _
    simp only [eC_, eTy_, eVar_0, eVar_s, eBin_, binJ_, binK_, aNil_, aCons_, consJ_, fMap_, mapK_, eCall_, lCall_, aDs_, dsK_, dsOf_nil, dsOf_cons, eTup_, eVal_, eObj_, fIf_, ifK_t, ifK_f, fTest_, tstK_, fTru_, vTru_bl, vTru_int, vTru_non, vTru_lst, vTru_tup, fAnd_, andK_t, andK_f, fOr_, orK_t, orK_f, fNot_, eAnd_, eandK_t, eandK_f, eOr_, eorK_t, eorK_f, eNot_, notK_, vAdd_i, vAddI_i, vSub_i, vLt_i, vLe_i, vGt_i, vGe_i, vEq_i, vNe_i, vIsN_non, vIsN_int, vIsN_bl, vIsN_str, vIsN_tup, vIsN_lst, vIx_t, vIx_l, atI_0, atI_1, atI_2, bLen_t, bLen_l, bInt_i, bInt_b, bIsi_int, bIsi_bl, bIsi_str, bIsi_tup, bIsi_lst, bIsi_non, is_ii, is_ib, is_it, is_bi, is_bb, is_tt, is_ti, is_tb, is_st, is_si, is_ss, is_nt, is_ll, is_lt, is_tl, bTup_l, bTup_t, bBools_l, bInts_l, eMl0_, eMl1_, oRev_, sNil_, sSeq_, seqK_nx, seqK_rt, seqK_bk, seqK_ct, sIf_, sifK_t, sifK_f, sAsg_, asgK_, gN_, gsNil_, gsCons_, sRet_, sRetN_, sExpr_, sPar_, parK_, eSeq_, srcOf_t, srcOf_l, oEnum_t, oEnum_l, oZip_t, oZip_l, eCallP_, oP1, oP2, oP3, prV_v, prV_l, eCallS_, eFld_, finP_n, finP_v, finS_n, finS_r, eSlT_, slK_1, drop_1, lLc_, wipe_n, wipe_c, lcGo_n, lcGo_c, lcB_t, lcB_f, lcC_, fTrue_, forK_, foGo_n, foGo_c, foK_nx, foK_ct, foK_bk, foK_rt, lkF_0, eChain_, chJ_, chK_, chL_t, chL_f, eMake_, makeJ_, eMeth_, sFld_, fldJ_, eNewX_, sSubX_, sxJ_, sxK_, decide_true, decide_false, lRev_, eRevT_, revTK_, lCallP_, obind_some, obind_none, omap_some, omap_none, List.getElem?_cons_zero, List.getElem?_cons_succ, set_0, set_s, if_true, if_false, Bool.false_eq_true, Bool.not_true, Bool.not_false, ml0K_ h, hp, vMod_i hl]

/-! o[i] = e -/
def subK (fi : Fe RV) (ρ : Env') (v : RV) (o : RV × Sto) : Option (Fl × Env' × Sto) := (fi ρ o.2).bind fun i => (isObjL o.1 i.2).bind fun q => match v, i.1 with
  | .d d, .d (.int k) => (ixN q.2.length k).bind fun j => some (.nx, ρ, i.2.set q.1 (.lst (q.2.set j d)))
  | _, _ => none
def subJ (fo fi : Fe RV) (ρ : Env') (v : RV × Sto) : Option (Fl × Env' × Sto) := (fo ρ v.2).bind (subK fi ρ v.1)
section
variable {ρ : Env'} {S : Sto} {fo fi fe : Fe RV} {v : RV} {n j : Nat} {ds : List D} {d : D} {I : Int}
theorem sSubL_ : sSubL fo fi fe ρ S = (fe ρ S).bind (subJ fo fi ρ) := (rfl)
theorem subJ_ : subJ fo fi ρ (v, S) = (fo ρ S).bind (subK fi ρ v) := (rfl)
def subL (ρ : Env') (v o : RV) (i : RV × Sto) : Option (Fl × Env' × Sto) := (isObjL o i.2).bind fun q => match v, i.1 with
  | .d d, .d (.int k) => (ixN q.2.length k).bind fun j => some (.nx, ρ, i.2.set q.1 (.lst (q.2.set j d)))
  | _, _ => none
theorem subK_ {o : RV} : subK fi ρ v (o, S) = (fi ρ S).bind (subL ρ v o) := (rfl)
theorem subL_ (h : S[n]? = some (.lst ds)) (hj : ixN ds.length I = some j) : subL ρ (.d d) (.o n) (.d (.int I), S) = some (.nx, ρ, S.set n (.lst (ds.set j d))) := by
  show (isObjL (.o n) S).bind _ = _
  unfold isObjL
  simp only [h, Option.bind_some, hj]
end
theorem ok_ints {is : List Int} : D.ok (.lst (dInts is)) = true := ok_of (n := 1) (by simp [D.okN])
theorem atI_ints {is : List Int} {j : Int} (h0 : 0 ≤ j) (h1 : j < is.length) : atI (dInts is) j = some (.int (is.getD j.toNat 0)) := by
  unfold atI ixN
  rw [List.length_map, if_pos h0, if_pos h1, Option.bind_some]
  have h2 : j.toNat < is.length := by omega
  rw [List.getElem?_map, List.getElem?_eq_getElem h2, List.getD_eq_getElem?_getD, List.getElem?_eq_getElem h2]
  rfl
theorem pMul_r {i j : Int} (h : -(2 ^ 64) < j) (h2 : j < 2 ^ 64) : pMul i j = true := by
  unfold pMul
  rw [decide_eq_true h, decide_eq_true h2]
  simp
/-- the state of the loop: k turns done -/
def DrawsP (ns : D) (k : Nat) (ρ : Env') (S : Sto) : Prop := ∃ (c f : Nat) (cs fs : List Int) (mixed : Int) (x5 x6 x7 x8 : Option RV), ρ = [some (.d ns), some (.d (.int 500)), some (.o c), some (.o f), some (.d (.int mixed)), x5, x6, x7, x8] ∧
  S[c]? = some (.lst (dInts cs)) ∧ cs ≠ [] ∧ S[f]? = some (.lst (dInts fs)) ∧ c ≠ f ∧ fs.length = k ∧ 0 ≤ mixed ∧ mixed < 2147483647
theorem draws_step {ns : D} {k : Nat} {ρ : Env'} {S : Sto} (hk : k < 500) (h : DrawsP ns k ρ S) : ∃ ρ1 fl ρ2 S2, gN 5 (.d (.int k)) ρ = some ρ1 ∧ drawsB ρ1 S = some (fl, ρ2, S2) ∧ (fl = .nx ∨ fl = .ct) ∧ DrawsP ns (k + 1) ρ2 S2 := by
  obtain ⟨c, f, cs, fs, mixed, x5, x6, x7, x8, rfl, hc, hne, hf, hcf, hl, h0, h1⟩ := h
  have hpos : 0 < (cs.length : Int) := by
    have := List.length_pos_iff.mpr hne
    omega
  have hj0 : 0 ≤ (k : Int) % (cs.length : Int) := Int.emod_nonneg _ (by omega)
  have hj1 : (k : Int) % (cs.length : Int) < cs.length := Int.emod_lt_of_pos _ hpos
  have hat := atI_ints hj0 hj1
  have hjn : ((k : Int) % (cs.length : Int)).toNat < cs.length := by omega
  have hix : ixN (dInts cs).length ((k : Int) % (cs.length : Int)) = some ((k : Int) % (cs.length : Int)).toNat := by
    unfold ixN
    rw [List.length_map, if_pos hj0, if_pos hj1]
  generalize hcell : cs.getD ((k : Int) % (cs.length : Int)).toNat 0 = cell at hat
  generalize hm2 : (mixed * 48271 + cell % 1000003 * 69621 + (k : Int) * 7919 + 11) % 2147483647 = mixed'
  have m0 : 0 ≤ mixed' := by rw [← hm2]; exact Int.emod_nonneg _ (by decide)
  have m1 : mixed' < 2147483647 := by rw [← hm2]; exact Int.emod_lt_of_pos _ (by decide)
  have p1 : ∀ i : Int, pMul i 48271 = true := fun i => pMul_r (by decide) (by decide)
  have p2 : ∀ i : Int, pMul i 69621 = true := fun i => pMul_r (by decide) (by decide)
  have p3 : ∀ i : Int, pMul i 7919 = true := fun i => pMul_r (by decide) (by decide)
  have p4 : pMul mixed' mixed' = true := pMul_r (by omega) (by omega)
  have p5 : pMul 31 mixed' = true := pMul_r (by omega) (by omega)
  have q1 : (0 : Int) < 1000003 := by decide
  have q2 : (0 : Int) < 2147483647 := by decide
  have q3 : (0 : Int) < 1000 := by decide
  have q5 : pPow 10 18 = true := by decide
  have q6 : ∀ i : Int, pDiv i 1000 = true := fun i => by unfold pDiv; decide
  have hl2 : (dInts fs).length < Lim := by rw [List.length_map]; unfold Lim; omega
  by_cases hb : (10 : Int) ^ (18 : Int).toNat ≤ cell
  · have hb' : decide ((10 : Int) ^ (18 : Int).toNat ≤ cell) = true := decide_eq_true hb
    have hS1 : (S.set f (.lst (dInts fs ++ [.int (cell % 1000)])))[c]? = some (.lst (dInts cs)) := by rw [List.getElem?_set_ne (Ne.symm hcf)]; exact hc
    refine ⟨_, .nx, [some (.d ns), some (.d (.int 500)), some (.o c), some (.o f), some (.d (.int mixed')), some (.d (.int k)), some (.d (.int ((k : Int) % (cs.length : Int)))), some (.d (.int cell)), some (.d (.int ((mixed' * mixed' + 31 * mixed' + k) % 1000003)))], (S.set f (.lst (dInts fs ++ [.int (cell % 1000)]))).set c (.lst ((dInts cs).set ((k : Int) % (cs.length : Int)).toNat (.int (cell / 1000)))), rfl, ?_, .inl rfl, ?_⟩
    · unfold drawsB
      simp only [eC_, eTy_, eVar_0, eVar_s, eBin_, binJ_, binK_, aNil_, aCons_, consJ_, fMap_, mapK_, eCall_, lCall_, aDs_, dsK_, dsOf_nil, dsOf_cons, eTup_, eVal_, eObj_, fIf_, ifK_t, ifK_f, fTest_, tstK_, fTru_, vTru_bl, vTru_int, vTru_non, vTru_lst, vTru_tup, fAnd_, andK_t, andK_f, fOr_, orK_t, orK_f, fNot_, eAnd_, eandK_t, eandK_f, eOr_, eorK_t, eorK_f, eNot_, notK_, vAdd_i, vAddI_i, vSub_i, vLt_i, vLe_i, vGt_i, vGe_i, vEq_i, vNe_i, vIsN_non, vIsN_int, vIsN_bl, vIsN_str, vIsN_tup, vIsN_lst, vIx_t, vIx_l, atI_0, atI_1, atI_2, bLen_t, bLen_l, bInt_i, bInt_b, bIsi_int, bIsi_bl, bIsi_str, bIsi_tup, bIsi_lst, bIsi_non, is_ii, is_ib, is_it, is_bi, is_bb, is_tt, is_ti, is_tb, is_st, is_si, is_ss, is_nt, is_ll, is_lt, is_tl, bTup_l, bTup_t, bBools_l, bInts_l, eMl0_, eMl1_, oRev_, sNil_, sSeq_, seqK_nx, seqK_rt, seqK_bk, seqK_ct, sIf_, sifK_t, sifK_f, sAsg_, asgK_, gN_, gsNil_, gsCons_, sRet_, sRetN_, sExpr_, sPar_, parK_, eSeq_, srcOf_t, srcOf_l, oEnum_t, oEnum_l, oZip_t, oZip_l, eCallP_, oP1, oP2, oP3, prV_v, prV_l, eCallS_, eFld_, finP_n, finP_v, finS_n, finS_r, eSlT_, slK_1, drop_1, lLc_, wipe_n, wipe_c, lcGo_n, lcGo_c, lcB_t, lcB_f, lcC_, fTrue_, forK_, foGo_n, foGo_c, foK_nx, foK_ct, foK_bk, foK_rt, lkF_0, eChain_, chJ_, chK_, chL_t, chL_f, eMake_, makeJ_, eMeth_, sFld_, fldJ_, eNewX_, sSubX_, sxJ_, sxK_, decide_true, decide_false, lRev_, eRevT_, revTK_, lCallP_, obind_some, obind_none, omap_some, omap_none, List.getElem?_cons_zero, List.getElem?_cons_succ, set_0, set_s, if_true, if_false, Bool.false_eq_true, Bool.not_true, Bool.not_false, bLen_o hc, vIx_o hc, List.length_map, vMod_i hpos, hat, vMul_i (p1 _), vMul_i (p2 _), vMul_i (p3 _), vMul_i p4, vMul_i p5, vMod_i q1, vMod_i q2, vMod_i q3, vPow_i q5, vDiv_i (q6 _), hm2, hb', ml1K_ hf, ml1J_ hf, oApp_ hl2, sSubL_, subJ_, subK_, subL_ hS1 hix]
    · refine ⟨c, f, cs.set ((k : Int) % (cs.length : Int)).toNat (cell / 1000), fs ++ [cell % 1000], mixed', _, _, _, _, rfl, ?_, ?_, ?_, hcf, by simp [hl], m0, m1⟩
      · rw [List.getElem?_set_self (by have := (List.getElem?_eq_some_iff.mp hc).1; simpa using this)]
        unfold dInts
        rw [List.map_set]
      · intro z
        have := congrArg List.length z
        rw [List.length_set] at this
        exact hne (List.length_eq_zero_iff.mp this)
      · rw [List.getElem?_set_ne hcf, List.getElem?_set_self (List.getElem?_eq_some_iff.mp hf).1]
        unfold dInts
        rw [List.map_append]
        rfl
  · have hb' : decide ((10 : Int) ^ (18 : Int).toNat ≤ cell) = false := decide_eq_false hb
    refine ⟨_, .nx, [some (.d ns), some (.d (.int 500)), some (.o c), some (.o f), some (.d (.int mixed')), some (.d (.int k)), some (.d (.int ((k : Int) % (cs.length : Int)))), some (.d (.int cell)), some (.d (.int ((mixed' * mixed' + 31 * mixed' + k) % 1000003)))], S.set f (.lst (dInts fs ++ [.int ((mixed' * mixed' + 31 * mixed' + k) % 1000003 % 1000)])), rfl, ?_, .inl rfl, ?_⟩
    · unfold drawsB
      simp only [eC_, eTy_, eVar_0, eVar_s, eBin_, binJ_, binK_, aNil_, aCons_, consJ_, fMap_, mapK_, eCall_, lCall_, aDs_, dsK_, dsOf_nil, dsOf_cons, eTup_, eVal_, eObj_, fIf_, ifK_t, ifK_f, fTest_, tstK_, fTru_, vTru_bl, vTru_int, vTru_non, vTru_lst, vTru_tup, fAnd_, andK_t, andK_f, fOr_, orK_t, orK_f, fNot_, eAnd_, eandK_t, eandK_f, eOr_, eorK_t, eorK_f, eNot_, notK_, vAdd_i, vAddI_i, vSub_i, vLt_i, vLe_i, vGt_i, vGe_i, vEq_i, vNe_i, vIsN_non, vIsN_int, vIsN_bl, vIsN_str, vIsN_tup, vIsN_lst, vIx_t, vIx_l, atI_0, atI_1, atI_2, bLen_t, bLen_l, bInt_i, bInt_b, bIsi_int, bIsi_bl, bIsi_str, bIsi_tup, bIsi_lst, bIsi_non, is_ii, is_ib, is_it, is_bi, is_bb, is_tt, is_ti, is_tb, is_st, is_si, is_ss, is_nt, is_ll, is_lt, is_tl, bTup_l, bTup_t, bBools_l, bInts_l, eMl0_, eMl1_, oRev_, sNil_, sSeq_, seqK_nx, seqK_rt, seqK_bk, seqK_ct, sIf_, sifK_t, sifK_f, sAsg_, asgK_, gN_, gsNil_, gsCons_, sRet_, sRetN_, sExpr_, sPar_, parK_, eSeq_, srcOf_t, srcOf_l, oEnum_t, oEnum_l, oZip_t, oZip_l, eCallP_, oP1, oP2, oP3, prV_v, prV_l, eCallS_, eFld_, finP_n, finP_v, finS_n, finS_r, eSlT_, slK_1, drop_1, lLc_, wipe_n, wipe_c, lcGo_n, lcGo_c, lcB_t, lcB_f, lcC_, fTrue_, forK_, foGo_n, foGo_c, foK_nx, foK_ct, foK_bk, foK_rt, lkF_0, eChain_, chJ_, chK_, chL_t, chL_f, eMake_, makeJ_, eMeth_, sFld_, fldJ_, eNewX_, sSubX_, sxJ_, sxK_, decide_true, decide_false, lRev_, eRevT_, revTK_, lCallP_, obind_some, obind_none, omap_some, omap_none, List.getElem?_cons_zero, List.getElem?_cons_succ, set_0, set_s, if_true, if_false, Bool.false_eq_true, Bool.not_true, Bool.not_false, bLen_o hc, vIx_o hc, List.length_map, vMod_i hpos, hat, vMul_i (p1 _), vMul_i (p2 _), vMul_i (p3 _), vMul_i p4, vMul_i p5, vMod_i q1, vMod_i q2, vMod_i q3, vPow_i q5, hm2, hb', ml1K_ hf, ml1J_ hf, oApp_ hl2]
    · refine ⟨c, f, cs, fs ++ [(mixed' * mixed' + 31 * mixed' + k) % 1000003 % 1000], mixed', _, _, _, _, rfl, ?_, hne, ?_, hcf, by simp [hl], m0, m1⟩
      · rw [List.getElem?_set_ne (Ne.symm hcf)]; exact hc
      · rw [List.getElem?_set_self (List.getElem?_eq_some_iff.mp hf).1]
        unfold dInts
        rw [List.map_append]
        rfl
theorem env0_draws {a b : D} : env0 9 [RV.d a, RV.d b] = [some (.d a), some (.d b), none, none, none, none, none, none, none] := rfl
theorem small500 : small62 500 = true := by decide
theorem draws_loop {ns : D} {ρ : Env'} {S : Sto} (h : DrawsP ns 0 ρ S) : ∃ ρ' S', sFor (fMap (aCons (eVar 1) (aNil)) oR1) (gN 5) drawsB ρ S = some (.nx, ρ', S') ∧ DrawsP ns 500 ρ' S' := by
  have hs : fMap (aCons (eVar 1) (aNil)) oR1 ρ S = some (⟨rng 0 500, none⟩, S) := by
    obtain ⟨c, f, cs, fs, mixed, x5, x6, x7, x8, rfl, _⟩ := h
    simp only [eC_, eTy_, eVar_0, eVar_s, eBin_, binJ_, binK_, aNil_, aCons_, consJ_, fMap_, mapK_, eCall_, lCall_, aDs_, dsK_, dsOf_nil, dsOf_cons, eTup_, eVal_, eObj_, fIf_, ifK_t, ifK_f, fTest_, tstK_, fTru_, vTru_bl, vTru_int, vTru_non, vTru_lst, vTru_tup, fAnd_, andK_t, andK_f, fOr_, orK_t, orK_f, fNot_, eAnd_, eandK_t, eandK_f, eOr_, eorK_t, eorK_f, eNot_, notK_, vAdd_i, vAddI_i, vSub_i, vLt_i, vLe_i, vGt_i, vGe_i, vEq_i, vNe_i, vIsN_non, vIsN_int, vIsN_bl, vIsN_str, vIsN_tup, vIsN_lst, vIx_t, vIx_l, atI_0, atI_1, atI_2, bLen_t, bLen_l, bInt_i, bInt_b, bIsi_int, bIsi_bl, bIsi_str, bIsi_tup, bIsi_lst, bIsi_non, is_ii, is_ib, is_it, is_bi, is_bb, is_tt, is_ti, is_tb, is_st, is_si, is_ss, is_nt, is_ll, is_lt, is_tl, bTup_l, bTup_t, bBools_l, bInts_l, eMl0_, eMl1_, oRev_, sNil_, sSeq_, seqK_nx, seqK_rt, seqK_bk, seqK_ct, sIf_, sifK_t, sifK_f, sAsg_, asgK_, gN_, gsNil_, gsCons_, sRet_, sRetN_, sExpr_, sPar_, parK_, eSeq_, srcOf_t, srcOf_l, oEnum_t, oEnum_l, oZip_t, oZip_l, eCallP_, oP1, oP2, oP3, prV_v, prV_l, eCallS_, eFld_, finP_n, finP_v, finS_n, finS_r, eSlT_, slK_1, drop_1, lLc_, wipe_n, wipe_c, lcGo_n, lcGo_c, lcB_t, lcB_f, lcC_, fTrue_, forK_, foGo_n, foGo_c, foK_nx, foK_ct, foK_bk, foK_rt, lkF_0, eChain_, chJ_, chK_, chL_t, chL_f, eMake_, makeJ_, eMeth_, sFld_, fldJ_, eNewX_, sSubX_, sxJ_, sxK_, decide_true, decide_false, lRev_, eRevT_, revTK_, lCallP_, obind_some, obind_none, omap_some, omap_none, List.getElem?_cons_zero, List.getElem?_cons_succ, set_0, set_s, if_true, if_false, Bool.false_eq_true, Bool.not_true, Bool.not_false, oR1_ small500]
    rfl
  have e := sFor_inv (src := fMap (aCons (eVar 1) (aNil)) oR1) (gg := gN 5) (F := drawsB) (DrawsP ns) hs h (fun _ _ _ _ => rfl) fun i ρ S d hd p => by
    have hi : i < 500 := by
      have := (List.getElem?_eq_some_iff.mp hd).1
      rwa [rng_len] at this
    rw [rng_at 0 hi] at hd
    cases hd
    rw [Int.zero_add]
    exact draws_step hi p
  rw [rng_len] at e
  exact e
/-- behind the first two statements -/
def drawsE : Fs := sSeq2 (sAsg (eObj (aDs (aNil))) (gN 3)) (sSeq2 (sAsg (eC (.int 12345)) (gN 4)) (sSeq2 (sFor (fMap (aCons (eVar 1) (aNil)) oR1) (gN 5) drawsB) (sSeq2 (sExpr (eMl0 oRev (eVar 3))) (sSeq2 (sRet (eVar 3)) sNil))))
theorem drawsE_ok {ns : List Int} {c : Nat} {cs : List Int} {S : Sto} (hne : cs ≠ []) (hc : S[c]? = some (.lst (dInts cs))) : ∃ (is : List Int) (ρ2 : Env') (S2 : Sto) (n : Nat),
    drawsE [some (.d (.lst (dInts ns))), some (.d (.int 500)), some (.o c), none, none, none, none, none, none] S = some (.rt (.o n), ρ2, S2) ∧ S2[n]? = some (.lst (dInts is)) ∧ is.length ≤ Lim := by
  have h0 : ([] : List D).length ≤ Lim := by unfold Lim; decide
  have hlt := (List.getElem?_eq_some_iff.mp hc).1
  obtain ⟨ρ', S', e1, e2⟩ := draws_loop (ns := .lst (dInts ns)) (ρ := [some (.d (.lst (dInts ns))), some (.d (.int 500)), some (.o c), some (.o S.length), some (.d (.int 12345)), none, none, none, none]) (S := S ++ [.lst []])
    ⟨c, S.length, cs, [], 12345, none, none, none, none, rfl, by rw [List.getElem?_append_left hlt]; exact hc, hne, by rw [List.getElem?_append_right (Nat.le_refl _), Nat.sub_self]; rfl, by omega, rfl, by decide, by decide⟩
  obtain ⟨c', f, cs', fs, mixed, x5, x6, x7, x8, rfl, _, _, hf, _, hl, _, _⟩ := e2
  refine ⟨fs.reverse, [some (.d (.lst (dInts ns))), some (.d (.int 500)), some (.o c'), some (.o f), some (.d (.int mixed)), x5, x6, x7, x8], S'.set f (.lst (dInts fs).reverse), f, ?_, ?_, by rw [List.length_reverse, hl]; unfold Lim; omega⟩
  · unfold drawsE
    simp only [eC_, eTy_, eVar_0, eVar_s, eBin_, binJ_, binK_, aNil_, aCons_, consJ_, fMap_, mapK_, eCall_, lCall_, aDs_, dsK_, dsOf_nil, dsOf_cons, eTup_, eVal_, eObj_, fIf_, ifK_t, ifK_f, fTest_, tstK_, fTru_, vTru_bl, vTru_int, vTru_non, vTru_lst, vTru_tup, fAnd_, andK_t, andK_f, fOr_, orK_t, orK_f, fNot_, eAnd_, eandK_t, eandK_f, eOr_, eorK_t, eorK_f, eNot_, notK_, vAdd_i, vAddI_i, vSub_i, vLt_i, vLe_i, vGt_i, vGe_i, vEq_i, vNe_i, vIsN_non, vIsN_int, vIsN_bl, vIsN_str, vIsN_tup, vIsN_lst, vIx_t, vIx_l, atI_0, atI_1, atI_2, bLen_t, bLen_l, bInt_i, bInt_b, bIsi_int, bIsi_bl, bIsi_str, bIsi_tup, bIsi_lst, bIsi_non, is_ii, is_ib, is_it, is_bi, is_bb, is_tt, is_ti, is_tb, is_st, is_si, is_ss, is_nt, is_ll, is_lt, is_tl, bTup_l, bTup_t, bBools_l, bInts_l, eMl0_, eMl1_, oRev_, sNil_, sSeq_, seqK_nx, seqK_rt, seqK_bk, seqK_ct, sIf_, sifK_t, sifK_f, sAsg_, asgK_, gN_, gsNil_, gsCons_, sRet_, sRetN_, sExpr_, sPar_, parK_, eSeq_, srcOf_t, srcOf_l, oEnum_t, oEnum_l, oZip_t, oZip_l, eCallP_, oP1, oP2, oP3, prV_v, prV_l, eCallS_, eFld_, finP_n, finP_v, finS_n, finS_r, eSlT_, slK_1, drop_1, lLc_, wipe_n, wipe_c, lcGo_n, lcGo_c, lcB_t, lcB_f, lcC_, fTrue_, forK_, foGo_n, foGo_c, foK_nx, foK_ct, foK_bk, foK_rt, lkF_0, eChain_, chJ_, chK_, chL_t, chL_f, eMake_, makeJ_, eMeth_, sFld_, fldJ_, eNewX_, sSubX_, sxJ_, sxK_, decide_true, decide_false, lRev_, eRevT_, revTK_, lCallP_, obind_some, obind_none, omap_some, omap_none, List.getElem?_cons_zero, List.getElem?_cons_succ, set_0, set_s, if_true, if_false, Bool.false_eq_true, Bool.not_true, Bool.not_false, if_pos h0, e1, ml0K_ hf]
  · rw [List.getElem?_set_self (List.getElem?_eq_some_iff.mp hf).1]
    unfold dInts
    rw [List.map_reverse]
theorem draws_ok {ns : List Int} (hn : ns.length ≤ 63) : ∃ is : List Int, runP 9 drawsF [.lst (dInts ns), .int 500] = some (.l (dInts is)) := by
  have h1 : (dInts ns).length ≤ Lim := by rw [List.length_map]; unfold Lim; omega
  have h7 : 1 ≤ Lim := by unfold Lim; decide
  have e : drawsF = sSeq2 (sAsg (eObj (lCall bLst (aCons (eVar 0) (aNil)))) (gN 2)) (sSeq2 (sIf (fTest (eBin vEq (eCall bLen (aCons (eVar 2) (aNil))) (eC (.int 0)))) (sSeq2 (sAsg (eObj (aDs (aCons (eC (.int 7)) (aNil)))) (gN 2)) sNil) sNil) drawsE) := rfl
  have hv : bLen [.o 0] [Ob.lst (dInts ns)] = some (.d (.int (ns.length : Nat))) := by rw [bLen_o (ds := dInts ns) rfl, List.length_map]
  by_cases hne : ns = []
  · obtain ⟨is, ρ2, S2, n, e2, e3, e4⟩ := drawsE_ok (ns := ns) (c := 1) (cs := [7]) (S := [.lst (dInts ns), .lst [.int 7]]) (by simp) rfl
    refine ⟨is, runP_l (n := n) (ρ := ρ2) (S := S2) ?_ e3 (by rw [List.length_map]; exact e4)⟩
    show drawsF [some (.d (.lst (dInts ns))), some (.d (.int 500)), none, none, none, none, none, none, none] [] = _
    have hz : decide (((ns.length : Nat) : Int) = 0) = true := decide_eq_true (by rw [hne]; rfl)
    rw [e]
    simp only [eC_, eTy_, eVar_0, eVar_s, eBin_, binJ_, binK_, aNil_, aCons_, consJ_, fMap_, mapK_, eCall_, lCall_, aDs_, dsK_, dsOf_nil, dsOf_cons, eTup_, eVal_, eObj_, fIf_, ifK_t, ifK_f, fTest_, tstK_, fTru_, vTru_bl, vTru_int, vTru_non, vTru_lst, vTru_tup, fAnd_, andK_t, andK_f, fOr_, orK_t, orK_f, fNot_, eAnd_, eandK_t, eandK_f, eOr_, eorK_t, eorK_f, eNot_, notK_, vAdd_i, vAddI_i, vSub_i, vLt_i, vLe_i, vGt_i, vGe_i, vEq_i, vNe_i, vIsN_non, vIsN_int, vIsN_bl, vIsN_str, vIsN_tup, vIsN_lst, vIx_t, vIx_l, atI_0, atI_1, atI_2, bLen_t, bLen_l, bInt_i, bInt_b, bIsi_int, bIsi_bl, bIsi_str, bIsi_tup, bIsi_lst, bIsi_non, is_ii, is_ib, is_it, is_bi, is_bb, is_tt, is_ti, is_tb, is_st, is_si, is_ss, is_nt, is_ll, is_lt, is_tl, bTup_l, bTup_t, bBools_l, bInts_l, eMl0_, eMl1_, oRev_, sNil_, sSeq_, seqK_nx, seqK_rt, seqK_bk, seqK_ct, sIf_, sifK_t, sifK_f, sAsg_, asgK_, gN_, gsNil_, gsCons_, sRet_, sRetN_, sExpr_, sPar_, parK_, eSeq_, srcOf_t, srcOf_l, oEnum_t, oEnum_l, oZip_t, oZip_l, eCallP_, oP1, oP2, oP3, prV_v, prV_l, eCallS_, eFld_, finP_n, finP_v, finS_n, finS_r, eSlT_, slK_1, drop_1, lLc_, wipe_n, wipe_c, lcGo_n, lcGo_c, lcB_t, lcB_f, lcC_, fTrue_, forK_, foGo_n, foGo_c, foK_nx, foK_ct, foK_bk, foK_rt, lkF_0, eChain_, chJ_, chK_, chL_t, chL_f, eMake_, makeJ_, eMeth_, sFld_, fldJ_, eNewX_, sSubX_, sxJ_, sxK_, decide_true, decide_false, lRev_, eRevT_, revTK_, lCallP_, obind_some, obind_none, omap_some, omap_none, List.getElem?_cons_zero, List.getElem?_cons_succ, set_0, set_s, if_true, if_false, Bool.false_eq_true, Bool.not_true, Bool.not_false, bLst_l, if_pos h1, Nat.zero_add, if_pos h7, List.nil_append, List.length_nil, hv, hz, List.length_cons, List.cons_append]
    exact e2
  · obtain ⟨is, ρ2, S2, n, e2, e3, e4⟩ := drawsE_ok (ns := ns) (c := 0) (cs := ns) (S := [.lst (dInts ns)]) hne rfl
    refine ⟨is, runP_l (n := n) (ρ := ρ2) (S := S2) ?_ e3 (by rw [List.length_map]; exact e4)⟩
    show drawsF [some (.d (.lst (dInts ns))), some (.d (.int 500)), none, none, none, none, none, none, none] [] = _
    have hz : decide (((ns.length : Nat) : Int) = 0) = false := decide_eq_false fun z => hne (List.length_eq_zero_iff.mp (by omega))
    rw [e]
    simp only [eC_, eTy_, eVar_0, eVar_s, eBin_, binJ_, binK_, aNil_, aCons_, consJ_, fMap_, mapK_, eCall_, lCall_, aDs_, dsK_, dsOf_nil, dsOf_cons, eTup_, eVal_, eObj_, fIf_, ifK_t, ifK_f, fTest_, tstK_, fTru_, vTru_bl, vTru_int, vTru_non, vTru_lst, vTru_tup, fAnd_, andK_t, andK_f, fOr_, orK_t, orK_f, fNot_, eAnd_, eandK_t, eandK_f, eOr_, eorK_t, eorK_f, eNot_, notK_, vAdd_i, vAddI_i, vSub_i, vLt_i, vLe_i, vGt_i, vGe_i, vEq_i, vNe_i, vIsN_non, vIsN_int, vIsN_bl, vIsN_str, vIsN_tup, vIsN_lst, vIx_t, vIx_l, atI_0, atI_1, atI_2, bLen_t, bLen_l, bInt_i, bInt_b, bIsi_int, bIsi_bl, bIsi_str, bIsi_tup, bIsi_lst, bIsi_non, is_ii, is_ib, is_it, is_bi, is_bb, is_tt, is_ti, is_tb, is_st, is_si, is_ss, is_nt, is_ll, is_lt, is_tl, bTup_l, bTup_t, bBools_l, bInts_l, eMl0_, eMl1_, oRev_, sNil_, sSeq_, seqK_nx, seqK_rt, seqK_bk, seqK_ct, sIf_, sifK_t, sifK_f, sAsg_, asgK_, gN_, gsNil_, gsCons_, sRet_, sRetN_, sExpr_, sPar_, parK_, eSeq_, srcOf_t, srcOf_l, oEnum_t, oEnum_l, oZip_t, oZip_l, eCallP_, oP1, oP2, oP3, prV_v, prV_l, eCallS_, eFld_, finP_n, finP_v, finS_n, finS_r, eSlT_, slK_1, drop_1, lLc_, wipe_n, wipe_c, lcGo_n, lcGo_c, lcB_t, lcB_f, lcC_, fTrue_, forK_, foGo_n, foGo_c, foK_nx, foK_ct, foK_bk, foK_rt, lkF_0, eChain_, chJ_, chK_, chL_t, chL_f, eMake_, makeJ_, eMeth_, sFld_, fldJ_, eNewX_, sSubX_, sxJ_, sxK_, decide_true, decide_false, lRev_, eRevT_, revTK_, lCallP_, obind_some, obind_none, omap_some, omap_none, List.getElem?_cons_zero, List.getElem?_cons_succ, set_0, set_s, if_true, if_false, Bool.false_eq_true, Bool.not_true, Bool.not_false, bLst_l, if_pos h1, List.nil_append, List.length_nil, hv, hz]
    exact e2
end Ev

namespace K61
open PySem PySem.Spec PyProof.Rows L2 Ev
def k_MOST_COST : D := .int 1000
def k_MOST_FORMS : D := .int 60
def k_MOST_PATTERNS : D := .int 20
def k_NEEDED : D := .tup [.tup [.str "not", .str ""], .tup [.str "nand", .str "", .str ""]]
/-! ### the text -/
def top (i : Nat) : Stmt := PySem.Challenge.pw_gateworks_k61_whole_costs_of_covers.main.body.getD i (.Pass ⟨0, 0, 0, 0⟩)
def sub (s : Stmt) (j : Nat) : Stmt := match s with
  | .ClassDef _ _ _ b _ _ _ _ _ _ _ => b.getD j (.Pass ⟨0, 0, 0, 0⟩)
  | _ => .Pass ⟨0, 0, 0, 0⟩
abbrev st_is_number : Stmt := (top 8)
abbrev N_is_number : List Str := ["thing"]
theorem sc_is_number : FnScope N_is_number ["thing"] (defScope st_is_number) := ⟨rfl, rfl, rfl, by decide +kernel, rfl, by decide +kernel, by decide +kernel⟩
abbrev st_forms_in : Stmt := (top 9)
abbrev N_forms_in : List Str := ["tree", "told", "part"]
theorem sc_forms_in : FnScope N_forms_in ["tree"] (defScope st_forms_in) := ⟨rfl, rfl, rfl, by decide +kernel, rfl, by decide +kernel, by decide +kernel⟩
abbrev st_is_pattern : Stmt := (top 10)
abbrev N_is_pattern : List Str := ["pattern", "part"]
theorem sc_is_pattern : FnScope N_is_pattern ["pattern"] (defScope st_is_pattern) := ⟨rfl, rfl, rfl, by decide +kernel, rfl, by decide +kernel, by decide +kernel⟩
abbrev st_check_asked : Stmt := (top 11)
abbrev N_check_asked : List Str := ["tree", "library", "count", "right", "known", "cost", "_", "pattern"]
theorem sc_check_asked : FnScope N_check_asked ["tree", "library"] (defScope st_check_asked) := ⟨rfl, rfl, rfl, by decide +kernel, rfl, by decide +kernel, by decide +kernel⟩
abbrev st_left_by : Stmt := (top 12)
abbrev N_left_by : List Str := ["pattern", "tree", "found", "one", "other", "first", "second"]
theorem sc_left_by : FnScope N_left_by ["pattern", "tree"] (defScope st_left_by) := ⟨rfl, rfl, rfl, by decide +kernel, rfl, by decide +kernel, by decide +kernel⟩
abbrev st_Cheapest_init : Stmt := (sub (top 13) 0)
abbrev N_Cheapest_init : List Str := ["self", "library"]
theorem sc_Cheapest_init : FnScope N_Cheapest_init ["self", "library"] (defScope st_Cheapest_init) := ⟨rfl, rfl, rfl, by decide +kernel, rfl, by decide +kernel, by decide +kernel⟩
abbrev st_Cheapest_of : Stmt := (sub (top 13) 1)
abbrev N_Cheapest_of : List Str := ["self", "tree", "best", "index", "cost", "pattern", "left", "told", "total", "part", "each"]
theorem sc_Cheapest_of : FnScope N_Cheapest_of ["self", "tree"] (defScope st_Cheapest_of) := ⟨rfl, rfl, rfl, by decide +kernel, rfl, by decide +kernel, by decide +kernel⟩
abbrev st_least_cover : Stmt := (top 14)
abbrev N_least_cover : List Str := ["tree", "library"]
theorem sc_least_cover : FnScope N_least_cover ["tree", "library"] (defScope st_least_cover) := ⟨rfl, rfl, rfl, by decide +kernel, rfl, by decide +kernel, by decide +kernel⟩
abbrev st_cost_by : Stmt := (top 15)
abbrev N_cost_by : List Str := ["tree", "library", "cover", "cost", "pattern", "best", "left", "told", "part", "inner"]
theorem sc_cost_by : FnScope N_cost_by ["tree", "library", "cover"] (defScope st_cost_by) := ⟨rfl, rfl, rfl, by decide +kernel, rfl, by decide +kernel, by decide +kernel⟩
abbrev st_cover_cost : Stmt := (top 16)
abbrev N_cover_cost : List Str := ["tree", "library", "cover"]
theorem sc_cover_cost : FnScope N_cover_cost ["tree", "library", "cover"] (defScope st_cover_cost) := ⟨rfl, rfl, rfl, by decide +kernel, rfl, by decide +kernel, by decide +kernel⟩
abbrev st__law_draws : Stmt := (top 18)
abbrev N__law_draws : List Str := ["script", "count", "cells", "found", "mixed", "k", "j", "cell", "again"]
theorem sc__law_draws : FnScope N__law_draws ["script", "count"] (defScope st__law_draws) := ⟨rfl, rfl, rfl, by decide +kernel, rfl, by decide +kernel, by decide +kernel⟩
abbrev st__law_take : Stmt := (top 19)
abbrev N__law_take : List Str := ["draws", "limit"]
theorem sc__law_take : FnScope N__law_take ["draws", "limit"] (defScope st__law_take) := ⟨rfl, rfl, rfl, by decide +kernel, rfl, by decide +kernel, by decide +kernel⟩
abbrev st__law_same : Stmt := (top 20)
abbrev N__law_same : List Str := ["found", "due", "k"]
theorem sc__law_same : FnScope N__law_same ["found", "due"] (defScope st__law_same) := ⟨rfl, rfl, rfl, by decide +kernel, rfl, by decide +kernel, by decide +kernel⟩
abbrev st__law_tree : Stmt := (top 21)
abbrev N__law_tree : List Str := ["draws", "deep", "kind"]
theorem sc__law_tree : FnScope N__law_tree ["draws", "deep"] (defScope st__law_tree) := ⟨rfl, rfl, rfl, by decide +kernel, rfl, by decide +kernel, by decide +kernel⟩
abbrev st__law_pattern : Stmt := (top 22)
abbrev N__law_pattern : List Str := ["draws", "deep", "kind"]
theorem sc__law_pattern : FnScope N__law_pattern ["draws", "deep"] (defScope st__law_pattern) := ⟨rfl, rfl, rfl, by decide +kernel, rfl, by decide +kernel, by decide +kernel⟩
abbrev st__law_forms : Stmt := (top 23)
abbrev N__law_forms : List Str := ["tree", "told", "part", "row"]
theorem sc__law_forms : FnScope N__law_forms ["tree"] (defScope st__law_forms) := ⟨rfl, rfl, rfl, by decide +kernel, rfl, by decide +kernel, by decide +kernel⟩
abbrev st__law_turned : Stmt := (top 24)
abbrev N__law_turned : List Str := ["draws", "tree", "told", "part"]
theorem sc__law_turned : FnScope N__law_turned ["draws", "tree"] (defScope st__law_turned) := ⟨rfl, rfl, rfl, by decide +kernel, rfl, by decide +kernel, by decide +kernel⟩
abbrev st__law_put : Stmt := (top 25)
abbrev N__law_put : List Str := ["tree", "leaf", "inner", "part"]
theorem sc__law_put : FnScope N__law_put ["tree", "leaf", "inner"] (defScope st__law_put) := ⟨rfl, rfl, rfl, by decide +kernel, rfl, by decide +kernel, by decide +kernel⟩
abbrev st__law_leaves : Stmt := (top 26)
abbrev N__law_leaves : List Str := ["tree", "leaf", "part"]
theorem sc__law_leaves : FnScope N__law_leaves ["tree", "leaf"] (defScope st__law_leaves) := ⟨rfl, rfl, rfl, by decide +kernel, rfl, by decide +kernel, by decide +kernel⟩
abbrev st_law : Stmt := (top 27)
abbrev N_law : List Str := ["script", "draws", "turn", "tree", "inner", "base", "nots", "nands", "cost", "cover", "library", "before", "k", "now", "told", "many", "whole", "price", "pattern"]
theorem sc_law : FnScope N_law ["script"] (defScope st_law) := ⟨rfl, rfl, rfl, by decide +kernel, rfl, by decide +kernel, by decide +kernel⟩
/-! ### what the defs do, by the levels of calls -/
structure Tb where
  is_number : List D → Option PR
  forms_in : List D → Option PR
  is_pattern : List D → Option PR
  check_asked : List D → Option PR
  left_by : List D → Option PR
  Cheapest_init : List RV → Sto → Option (RV × Sto)
  Cheapest_of : List RV → Sto → Option (RV × Sto)
  least_cover : List D → Option PR
  cost_by : List D → Option PR
  cover_cost : List D → Option PR
  _law_draws : List D → Option PR
  _law_take : List RV → Sto → Option (RV × Sto)
  _law_same : List D → Option PR
  _law_tree : List RV → Sto → Option (RV × Sto)
  _law_pattern : List RV → Sto → Option (RV × Sto)
  _law_forms : List D → Option PR
  _law_turned : List RV → Sto → Option (RV × Sto)
  _law_put : List D → Option PR
  _law_leaves : List D → Option PR
  law : List D → Option PR
def F_is_number (T : Tb) : Fs :=
    sSeq2 (sRet (eAnd (eCall bIsi (aCons (eVar 0) (aCons (eTy .int) (aNil)))) (eNot (eCall bIsi (aCons (eVar 0) (aCons (eTy .bool) (aNil)))))))
    (sNil)
def F_forms_in (T : Tb) : Fs :=
    sSeq2 (sIf (fTru (eCallP 1 T.is_number (aCons (eVar 0) (aNil)))) (sSeq2 (sRet (fIf (fTest (eBin vGe (eVar 0) (eC (.int 0)))) (eC (.int 0)) (eC .non)))
    (sNil)) (sNil))
    (sSeq2 (sIf (fOr (fNot (fTru (eCall bIsi (aCons (eVar 0) (aCons (eTy .tup) (aNil)))))) (fOr (fTest (eBin vEq (eCall bLen (aCons (eVar 0) (aNil))) (eC (.int 0)))) (fTest (eBin (vIn true) (eTup (aCons (eBin vIx (eVar 0) (eC (.int 0))) (aCons (eCall bLen (aCons (eVar 0) (aNil))) (aNil)))) (eTup (aCons (eTup (aCons (eC (.str "not")) (aCons (eC (.int 2)) (aNil)))) (aCons (eTup (aCons (eC (.str "nand")) (aCons (eC (.int 3)) (aNil)))) (aNil)))))))) (sSeq2 (sRet (eC .non))
    (sNil)) (sNil))
    (sSeq2 (sAsg (eVal (lLc (sSeq (eSlT (eVar 0) (oSome (eC (.int 1))) (oNo))) (gN 2) (fTrue) (eCallP 1 T.forms_in (aCons (eVar 2) (aNil))) [2])) (gN 1))
    (sSeq2 (sRet (fIf (fTest (eBin (vIn false) (eC .non) (eVar 1))) (eC .non) (eBin vAdd (eC (.int 1)) (eCall (bInts List.sum) (aCons (eVar 1) (aNil))))))
    (sNil))))
def F_is_pattern (T : Tb) : Fs :=
    sSeq2 (sIf (fTest (eBin vEq (eVar 0) (eC (.str "")))) (sSeq2 (sRet (eC (.bl true)))
    (sNil)) (sNil))
    (sSeq2 (sIf (fOr (fNot (fTru (eCall bIsi (aCons (eVar 0) (aCons (eTy .tup) (aNil)))))) (fTest (eBin vEq (eCall bLen (aCons (eVar 0) (aNil))) (eC (.int 0))))) (sSeq2 (sRet (eC (.bl false)))
    (sNil)) (sNil))
    (sSeq2 (sRet (eAnd (eBin (vIn false) (eTup (aCons (eBin vIx (eVar 0) (eC (.int 0))) (aCons (eCall bLen (aCons (eVar 0) (aNil))) (aNil)))) (eTup (aCons (eTup (aCons (eC (.str "not")) (aCons (eC (.int 2)) (aNil)))) (aCons (eTup (aCons (eC (.str "nand")) (aCons (eC (.int 3)) (aNil)))) (aNil))))) (eCall (bBools fun bs => bs.all id) (aCons (eVal (lLc (sSeq (eSlT (eVar 0) (oSome (eC (.int 1))) (oNo))) (gN 1) (fTrue) (eCallP 1 T.is_pattern (aCons (eVar 1) (aNil))) [1])) (aNil)))))
    (sNil)))
def F_check_asked (T : Tb) : Fs :=
    sSeq2 (sAsg (eCallP 1 T.forms_in (aCons (eVar 0) (aNil))) (gN 2))
    (sSeq2 (sIf (fOr (fTest (eBin (vIsN false) (eVar 2) (eC .non))) (fTest (eBin vGt (eVar 2) (eC k_MOST_FORMS)))) (sSeq2 (sNo)
    (sNil)) (sNil))
    (sSeq2 (sAsg (eAnd (eChain vLe vLe (eC (.int 1)) (eCall bLen (aCons (eVar 1) (aNil))) (eC k_MOST_PATTERNS)) (eCall (bBools fun bs => bs.all id) (aCons (eVal (lLc (sSeq (eVar 1)) (gTp 2 (gsCons (gN 5) (gsCons (gN 6) (gsNil)))) (fTrue) (eChain vLe vLe (eC (.int 0)) (eVar 5) (eC k_MOST_COST)) [5, 6])) (aNil)))) (gN 3))
    (sSeq2 (sAsg (eAnd (eVar 3) (eCall (bBools fun bs => bs.all id) (aCons (eVal (lLc (sSeq (eVar 1)) (gTp 2 (gsCons (gN 6) (gsCons (gN 7) (gsNil)))) (fTrue) (eAnd (eBin vNe (eVar 7) (eC (.str ""))) (eCallP 1 T.is_pattern (aCons (eVar 7) (aNil)))) [6, 7])) (aNil)))) (gN 3))
    (sSeq2 (sAsg (eVal (lLc (sSeq (eVar 1)) (gTp 2 (gsCons (gN 6) (gsCons (gN 7) (gsNil)))) (fTrue) (eVar 7) [6, 7])) (gN 4))
    (sSeq2 (sIf (fOr (fNot (fTru (eVar 3))) (fNot (fTru (eCall (bBools fun bs => bs.all id) (aCons (eVal (lLc (sSeq (eC k_NEEDED)) (gN 7) (fTrue) (eBin (vIn false) (eVar 7) (eVar 4)) [7])) (aNil)))))) (sSeq2 (sNo)
    (sNil)) (sNil))
    (sNil))))))
def F_left_by (T : Tb) : Fs :=
    sSeq2 (sIf (fTest (eBin vEq (eVar 0) (eC (.str "")))) (sSeq2 (sRet (eVal (aDs (aCons (eTup (aCons (eVar 1) (aNil))) (aNil)))))
    (sNil)) (sNil))
    (sSeq2 (sIf (fOr (fTru (eCallP 1 T.is_number (aCons (eVar 1) (aNil)))) (fTest (eBin vNe (eBin vIx (eVar 1) (eC (.int 0))) (eBin vIx (eVar 0) (eC (.int 0)))))) (sSeq2 (sRet (eVal (aDs (aNil))))
    (sNil)) (sNil))
    (sSeq2 (sIf (fTest (eBin vEq (eBin vIx (eVar 0) (eC (.int 0))) (eC (.str "not")))) (sSeq2 (sRet (eCallP 2 T.left_by (aCons (eBin vIx (eVar 0) (eC (.int 1))) (aCons (eBin vIx (eVar 1) (eC (.int 1))) (aNil)))))
    (sNil)) (sNil))
    (sSeq2 (sAsg (eObj (aDs (aNil))) (gN 2))
    (sSeq2 (sFor (sSeq (eTup (aCons (eTup (aCons (eBin vIx (eVar 1) (eC (.int 1))) (aCons (eBin vIx (eVar 1) (eC (.int 2))) (aNil)))) (aCons (eTup (aCons (eBin vIx (eVar 1) (eC (.int 2))) (aCons (eBin vIx (eVar 1) (eC (.int 1))) (aNil)))) (aNil))))) (gTp 2 (gsCons (gN 3) (gsCons (gN 4) (gsNil)))) (sSeq2 (sFor (sSeq (eCallP 2 T.left_by (aCons (eBin vIx (eVar 0) (eC (.int 1))) (aCons (eVar 3) (aNil))))) (gN 5) (sSeq2 (sFor (sSeq (eCallP 2 T.left_by (aCons (eBin vIx (eVar 0) (eC (.int 2))) (aCons (eVar 4) (aNil))))) (gN 6) (sSeq2 (sIf (fTest (eBin (vIn true) (eBin vAdd (eVar 5) (eVar 6)) (eVar 2))) (sSeq2 (sExpr (eMl1 oApp (eVar 2) (eBin vAdd (eVar 5) (eVar 6))))
    (sNil)) (sNil))
    (sNil)))
    (sNil)))
    (sNil)))
    (sSeq2 (sRet (eVar 2))
    (sNil))))))
def F_Cheapest_init (T : Tb) : Fs :=
    sSeq2 (sFld ["Cheapest"] "library" (eVar 0) (eVar 1))
    (sSeq2 (sFld ["Cheapest"] "known" (eVar 0) (eNewX))
    (sNil))
def F_Cheapest_of (T : Tb) : Fs :=
    sSeq2 (sIf (fTru (eCallP 1 T.is_number (aCons (eVar 1) (aNil)))) (sSeq2 (sRet (eTup (aCons (eC (.int 0)) (aCons (eTup (aNil)) (aNil)))))
    (sNil)) (sNil))
    (sSeq2 (sIf (fTest (eBin (vInX true) (eVar 1) (eFld "known" (eVar 0)))) (sSeq2 (sAsg (eC .non) (gN 2))
    (sSeq2 (sFor (fMap (aCons (eFld "library" (eVar 0)) (aNil)) oEnum) (gTp 2 (gsCons (gN 3) (gsCons (gTp 2 (gsCons (gN 4) (gsCons (gN 5) (gsNil)))) (gsNil)))) (sSeq2 (sFor (sSeq (eCallP 2 T.left_by (aCons (eVar 5) (aCons (eVar 1) (aNil))))) (gN 6) (sSeq2 (sAsg (eVal (lLc (sSeq (eVar 6)) (gN 9) (fTrue) (eMeth "Cheapest" "of" 2 T.Cheapest_of (eVar 0) (aCons (eVar 9) (aNil))) [9])) (gN 7))
    (sSeq2 (sAsg (eBin vAdd (eVar 4) (eCall (bInts List.sum) (aCons (eVal (lLc (sSeq (eVar 7)) (gN 10) (fTrue) (eBin vIx (eVar 10) (eC (.int 0))) [10])) (aNil)))) (gN 8))
    (sSeq2 (sIf (fOr (fTest (eBin (vIsN false) (eVar 2) (eC .non))) (fTest (eBin vLt (eVar 8) (eBin vIx (eVar 2) (eC (.int 0)))))) (sSeq2 (sAsg (eTup (aCons (eVar 8) (aCons (eTup (aCons (eVar 3) (aCons (eCall bTup (aCons (eVal (lLc (sSeq (eVar 7)) (gN 10) (fTrue) (eBin vIx (eVar 10) (eC (.int 1))) [10])) (aNil))) (aNil)))) (aNil)))) (gN 2))
    (sNil)) (sNil))
    (sNil)))))
    (sNil)))
    (sSeq2 (sSubX (eFld "known" (eVar 0)) (eVar 1) (eVar 2))
    (sNil)))) (sNil))
    (sSeq2 (sRet (eBin vIxX (eFld "known" (eVar 0)) (eVar 1)))
    (sNil)))
def F_least_cover (T : Tb) : Fs :=
    sSeq2 (sExpr (eCallP 2 T.check_asked (aCons (eVar 0) (aCons (eVar 1) (aNil)))))
    (sSeq2 (sRet (eMeth "Cheapest" "of" 2 T.Cheapest_of (eMake "Cheapest" 2 T.Cheapest_init (aCons (eVar 1) (aNil))) (aCons (eVar 0) (aNil))))
    (sNil))
def F_cost_by (T : Tb) : Fs :=
    sSeq2 (sIf (fTru (eCallP 1 T.is_number (aCons (eVar 0) (aNil)))) (sSeq2 (sRet (fIf (fTest (eBin vEq (eVar 2) (eTup (aNil)))) (eC (.int 0)) (eC .non)))
    (sNil)) (sNil))
    (sSeq2 (sIf (fOr (fNot (fTru (eCall bIsi (aCons (eVar 2) (aCons (eTy .tup) (aNil)))))) (fOr (fTest (eBin vNe (eCall bLen (aCons (eVar 2) (aNil))) (eC (.int 2)))) (fNot (fTru (eCall bIsi (aCons (eBin vIx (eVar 2) (eC (.int 1))) (aCons (eTy .tup) (aNil)))))))) (sSeq2 (sRet (eC .non))
    (sNil)) (sNil))
    (sSeq2 (sIf (fOr (fNot (fTru (eCallP 1 T.is_number (aCons (eBin vIx (eVar 2) (eC (.int 0))) (aNil))))) (fNot (fTest (eChain vLe vLt (eC (.int 0)) (eBin vIx (eVar 2) (eC (.int 0))) (eCall bLen (aCons (eVar 1) (aNil))))))) (sSeq2 (sRet (eC .non))
    (sNil)) (sNil))
    (sSeq2 (sAsg (eBin vIx (eVar 1) (eBin vIx (eVar 2) (eC (.int 0)))) (gTp 2 (gsCons (gN 3) (gsCons (gN 4) (gsNil)))))
    (sSeq2 (sAsg (eC .non) (gN 5))
    (sSeq2 (sFor (sSeq (eCallP 2 T.left_by (aCons (eVar 4) (aCons (eVar 0) (aNil))))) (gN 6) (sSeq2 (sIf (fTest (eBin vEq (eCall bLen (aCons (eVar 6) (aNil))) (eCall bLen (aCons (eBin vIx (eVar 2) (eC (.int 1))) (aNil))))) (sSeq2 (sAsg (eVal (lLc (fMap (aCons (eVar 6) (aCons (eBin vIx (eVar 2) (eC (.int 1))) (aNil))) oZip) (gTp 2 (gsCons (gN 8) (gsCons (gN 9) (gsNil)))) (fTrue) (eCallP 3 T.cost_by (aCons (eVar 8) (aCons (eVar 1) (aCons (eVar 9) (aNil))))) [8, 9])) (gN 7))
    (sSeq2 (sIf (fAnd (fTest (eBin (vIn true) (eC .non) (eVar 7))) (fOr (fTest (eBin (vIsN false) (eVar 5) (eC .non))) (fTest (eBin vLt (eBin vAdd (eVar 3) (eCall (bInts List.sum) (aCons (eVar 7) (aNil)))) (eVar 5))))) (sSeq2 (sAsg (eBin vAdd (eVar 3) (eCall (bInts List.sum) (aCons (eVar 7) (aNil)))) (gN 5))
    (sNil)) (sNil))
    (sNil))) (sNil))
    (sNil)))
    (sSeq2 (sRet (eVar 5))
    (sNil)))))))
def F_cover_cost (T : Tb) : Fs :=
    sSeq2 (sExpr (eCallP 2 T.check_asked (aCons (eVar 0) (aCons (eVar 1) (aNil)))))
    (sSeq2 (sRet (eCallP 3 T.cost_by (aCons (eVar 0) (aCons (eVar 1) (aCons (eVar 2) (aNil))))))
    (sNil))
def F__law_draws (T : Tb) : Fs :=
    sSeq2 (sAsg (eObj (lCall bLst (aCons (eVar 0) (aNil)))) (gN 2))
    (sSeq2 (sIf (fTest (eBin vEq (eCall bLen (aCons (eVar 2) (aNil))) (eC (.int 0)))) (sSeq2 (sAsg (eObj (aDs (aCons (eC (.int 7)) (aNil)))) (gN 2))
    (sNil)) (sNil))
    (sSeq2 (sAsg (eObj (aDs (aNil))) (gN 3))
    (sSeq2 (sAsg (eC (.int 12345)) (gN 4))
    (sSeq2 (sFor (fMap (aCons (eVar 1) (aNil)) oR1) (gN 5) (sSeq2 (sAsg (eBin vMod (eVar 5) (eCall bLen (aCons (eVar 2) (aNil)))) (gN 6))
    (sSeq2 (sAsg (eBin vIx (eVar 2) (eVar 6)) (gN 7))
    (sSeq2 (sAsg (eBin vMod (eCall bInt (aCons (eBin vAdd (eBin vAdd (eBin vAdd (eBin vMul (eVar 4) (eC (.int 48271))) (eBin vMul (eBin vMod (eCall bInt (aCons (eVar 7) (aNil))) (eC (.int 1000003))) (eC (.int 69621)))) (eBin vMul (eVar 5) (eC (.int 7919)))) (eC (.int 11))) (aNil))) (eC (.int 2147483647))) (gN 4))
    (sSeq2 (sAsg (eBin vMod (eCall bInt (aCons (eBin vAdd (eBin vAdd (eBin vMul (eVar 4) (eVar 4)) (eBin vMul (eC (.int 31)) (eVar 4))) (eVar 5)) (aNil))) (eC (.int 1000003))) (gN 8))
    (sSeq2 (sIf (fTest (eBin vGe (eVar 7) (eBin vPow (eC (.int 10)) (eC (.int 18))))) (sSeq2 (sExpr (eMl1 oApp (eVar 3) (eBin vMod (eCall bInt (aCons (eVar 7) (aNil))) (eC (.int 1000)))))
    (sSeq2 (sSubL (eVar 2) (eVar 6) (eBin vDiv (eVar 7) (eC (.int 1000))))
    (sNil))) (sSeq2 (sExpr (eMl1 oApp (eVar 3) (eBin vMod (eCall bInt (aCons (eVar 8) (aNil))) (eC (.int 1000)))))
    (sNil)))
    (sNil)))))))
    (sSeq2 (sExpr (eMl0 oRev (eVar 3)))
    (sSeq2 (sRet (eVar 3))
    (sNil)))))))
def F__law_take (T : Tb) : Fs :=
    sSeq2 (sIf (fTest (eBin vEq (eCall bLen (aCons (eVar 0) (aNil))) (eC (.int 0)))) (sSeq2 (sRet (eC (.int 0)))
    (sNil)) (sNil))
    (sSeq2 (sRet (eBin vMod (eCall bInt (aCons (eMl0 oPop (eVar 0)) (aNil))) (eVar 1)))
    (sNil))
def F__law_same (T : Tb) : Fs :=
    sSeq2 (sIf (fTest (eBin (vIsN false) (eVar 1) (eC .non))) (sSeq2 (sRet (eBin (vIsN false) (eVar 0) (eC .non)))
    (sNil)) (sNil))
    (sSeq2 (sIf (fTru (eCall bIsi (aCons (eVar 1) (aCons (eTy .bool) (aNil))))) (sSeq2 (sRet (eAnd (eCall bIsi (aCons (eVar 0) (aCons (eTy .bool) (aNil)))) (eBin vEq (eVar 0) (eVar 1))))
    (sNil)) (sNil))
    (sSeq2 (sIf (fTru (eCall bIsi (aCons (eVar 1) (aCons (eTy .int) (aNil))))) (sSeq2 (sRet (eAnd (eCall bIsi (aCons (eVar 0) (aCons (eTy .int) (aNil)))) (eAnd (eNot (eCall bIsi (aCons (eVar 0) (aCons (eTy .bool) (aNil))))) (eBin vEq (eVar 0) (eVar 1)))))
    (sNil)) (sNil))
    (sSeq2 (sIf (fTru (eCall bIsi (aCons (eVar 1) (aCons (eTy .str) (aNil))))) (sSeq2 (sRet (eAnd (eCall bIsi (aCons (eVar 0) (aCons (eTy .str) (aNil)))) (eBin vEq (eVar 0) (eVar 1))))
    (sNil)) (sNil))
    (sSeq2 (sIf (fTru (eCall bIsi (aCons (eVar 1) (aCons (eTy .dct) (aNil))))) (sSeq2 (sRet (eAnd (eCall bIsi (aCons (eVar 0) (aCons (eTy .dct) (aNil)))) (eBin vEq (eVar 0) (eVar 1))))
    (sNil)) (sNil))
    (sSeq2 (sIf (fOr (fTest (eBin vNe (eCall bIsi (aCons (eVar 1) (aCons (eTy .tup) (aNil)))) (eCall bIsi (aCons (eVar 0) (aCons (eTy .tup) (aNil)))))) (fTest (eBin vNe (eCall bIsi (aCons (eVar 1) (aCons (eTy .lst) (aNil)))) (eCall bIsi (aCons (eVar 0) (aCons (eTy .lst) (aNil))))))) (sSeq2 (sRet (eC (.bl false)))
    (sNil)) (sNil))
    (sSeq2 (sRet (eAnd (eBin vEq (eCall bLen (aCons (eVar 0) (aNil))) (eCall bLen (aCons (eVar 1) (aNil)))) (eCall (bBools fun bs => bs.all id) (aCons (eVal (lLc (fMap (aCons (eCall bLen (aCons (eVar 1) (aNil))) (aNil)) oR1) (gN 2) (fTrue) (eCallP 2 T._law_same (aCons (eBin vIx (eVar 0) (eVar 2)) (aCons (eBin vIx (eVar 1) (eVar 2)) (aNil)))) [2])) (aNil)))))
    (sNil)))))))
def F__law_tree (T : Tb) : Fs :=
    sSeq2 (sAsg (fIf (fTest (eBin vGt (eVar 1) (eC (.int 0)))) (eCallS 2 T._law_take (aCons (eVar 0) (aCons (eC (.int 4)) (aNil)))) (eC (.int 0))) (gN 2))
    (sSeq2 (sIf (fTest (eBin vEq (eVar 2) (eC (.int 0)))) (sSeq2 (sRet (eCallS 2 T._law_take (aCons (eVar 0) (aCons (eC (.int 3)) (aNil)))))
    (sNil)) (sNil))
    (sSeq2 (sIf (fTest (eBin vEq (eVar 2) (eC (.int 1)))) (sSeq2 (sRet (eTup (aCons (eC (.str "not")) (aCons (eCallS 2 T._law_tree (aCons (eVar 0) (aCons (eBin vSub (eVar 1) (eC (.int 1))) (aNil)))) (aNil)))))
    (sNil)) (sNil))
    (sSeq2 (sRet (eTup (aCons (eC (.str "nand")) (aCons (eCallS 2 T._law_tree (aCons (eVar 0) (aCons (eBin vSub (eVar 1) (eC (.int 1))) (aNil)))) (aCons (eCallS 2 T._law_tree (aCons (eVar 0) (aCons (eBin vSub (eVar 1) (eC (.int 1))) (aNil)))) (aNil))))))
    (sNil))))
def F__law_pattern (T : Tb) : Fs :=
    sSeq2 (sAsg (fIf (fTest (eBin vEq (eVar 1) (eC (.int 2)))) (eBin vAdd (eC (.int 1)) (eCallS 2 T._law_take (aCons (eVar 0) (aCons (eC (.int 2)) (aNil))))) (fIf (fTest (eBin vGt (eVar 1) (eC (.int 0)))) (eCallS 2 T._law_take (aCons (eVar 0) (aCons (eC (.int 3)) (aNil)))) (eC (.int 0)))) (gN 2))
    (sSeq2 (sIf (fTest (eBin vEq (eVar 2) (eC (.int 0)))) (sSeq2 (sRet (eC (.str "")))
    (sNil)) (sNil))
    (sSeq2 (sIf (fTest (eBin vEq (eVar 2) (eC (.int 1)))) (sSeq2 (sRet (eTup (aCons (eC (.str "not")) (aCons (eCallS 2 T._law_pattern (aCons (eVar 0) (aCons (eBin vSub (eVar 1) (eC (.int 1))) (aNil)))) (aNil)))))
    (sNil)) (sNil))
    (sSeq2 (sRet (eTup (aCons (eC (.str "nand")) (aCons (eCallS 2 T._law_pattern (aCons (eVar 0) (aCons (eBin vSub (eVar 1) (eC (.int 1))) (aNil)))) (aCons (eCallS 2 T._law_pattern (aCons (eVar 0) (aCons (eBin vSub (eVar 1) (eC (.int 1))) (aNil)))) (aNil))))))
    (sNil))))
def F__law_forms (T : Tb) : Fs :=
    sSeq2 (sIf (fTru (eCall bIsi (aCons (eVar 0) (aCons (eTy .int) (aNil))))) (sSeq2 (sRet (eTup (aCons (eC (.int 0)) (aCons (eC (.int 0)) (aNil)))))
    (sNil)) (sNil))
    (sSeq2 (sAsg (eVal (lLc (sSeq (eSlT (eVar 0) (oSome (eC (.int 1))) (oNo))) (gN 2) (fTrue) (eCallP 1 T._law_forms (aCons (eVar 2) (aNil))) [2])) (gN 1))
    (sSeq2 (sRet (eTup (aCons (eBin vAdd (eCall (bInts List.sum) (aCons (eVal (lLc (sSeq (eVar 1)) (gN 3) (fTrue) (eBin vIx (eVar 3) (eC (.int 0))) [3])) (aNil))) (eCall bInt (aCons (eBin vEq (eBin vIx (eVar 0) (eC (.int 0))) (eC (.str "not"))) (aNil)))) (aCons (eBin vAdd (eCall (bInts List.sum) (aCons (eVal (lLc (sSeq (eVar 1)) (gN 3) (fTrue) (eBin vIx (eVar 3) (eC (.int 1))) [3])) (aNil))) (eCall bInt (aCons (eBin vEq (eBin vIx (eVar 0) (eC (.int 0))) (eC (.str "nand"))) (aNil)))) (aNil)))))
    (sNil)))
def F__law_turned (T : Tb) : Fs :=
    sSeq2 (sIf (fTru (eCall bIsi (aCons (eVar 1) (aCons (eTy .int) (aNil))))) (sSeq2 (sRet (eVar 1))
    (sNil)) (sNil))
    (sSeq2 (sAsg (eVal (lLc (sSeq (eSlT (eVar 1) (oSome (eC (.int 1))) (oNo))) (gN 3) (fTrue) (eCallS 2 T._law_turned (aCons (eVar 0) (aCons (eVar 3) (aNil)))) [3])) (gN 2))
    (sSeq2 (sRet (eBin vAdd (eTup (aCons (eBin vIx (eVar 1) (eC (.int 0))) (aNil))) (eCall bTup (aCons (fIf (fTest (eBin vEq (eCallS 2 T._law_take (aCons (eVar 0) (aCons (eC (.int 2)) (aNil)))) (eC (.int 0)))) (eVal (lRev (eVar 2))) (eVar 2)) (aNil)))))
    (sNil)))
def F__law_put (T : Tb) : Fs :=
    sSeq2 (sIf (fTru (eCall bIsi (aCons (eVar 0) (aCons (eTy .int) (aNil))))) (sSeq2 (sRet (fIf (fTest (eBin vEq (eVar 0) (eVar 1))) (eVar 2) (eVar 0)))
    (sNil)) (sNil))
    (sSeq2 (sRet (eBin vAdd (eTup (aCons (eBin vIx (eVar 0) (eC (.int 0))) (aNil))) (eCall bTup (aCons (eVal (lLc (sSeq (eSlT (eVar 0) (oSome (eC (.int 1))) (oNo))) (gN 3) (fTrue) (eCallP 3 T._law_put (aCons (eVar 3) (aCons (eVar 1) (aCons (eVar 2) (aNil))))) [3])) (aNil)))))
    (sNil))
def F__law_leaves (T : Tb) : Fs :=
    sSeq2 (sIf (fTru (eCall bIsi (aCons (eVar 0) (aCons (eTy .int) (aNil))))) (sSeq2 (sRet (eCall bInt (aCons (eBin vEq (eVar 0) (eVar 1)) (aNil))))
    (sNil)) (sNil))
    (sSeq2 (sRet (eCall (bInts List.sum) (aCons (eVal (lLc (sSeq (eSlT (eVar 0) (oSome (eC (.int 1))) (oNo))) (gN 2) (fTrue) (eCallP 2 T._law_leaves (aCons (eVar 2) (aCons (eVar 1) (aNil)))) [2])) (aNil))))
    (sNil))
def F_law (T : Tb) : Fs :=
    sSeq2 (sAsg (eObj (lCallP 2 T._law_draws (aCons (eVar 0) (aCons (eC (.int 500)) (aNil))))) (gN 1))
    (sSeq2 (sFor (fMap (aCons (eC (.int 4)) (aNil)) oR1) (gN 2) (sSeq2 (sPar 3 4 (aCons (eCallS 2 T._law_tree (aCons (eVar 1) (aCons (eC (.int 3)) (aNil)))) (aCons (eCallS 2 T._law_tree (aCons (eVar 1) (aCons (eC (.int 2)) (aNil)))) (aNil))))
    (sSeq2 (sAsg (eTup (aCons (eTup (aCons (eBin vAdd (eC (.int 1)) (eCallS 2 T._law_take (aCons (eVar 1) (aCons (eC (.int 6)) (aNil))))) (aCons (eTup (aCons (eC (.str "not")) (aCons (eC (.str "")) (aNil)))) (aNil)))) (aCons (eTup (aCons (eBin vAdd (eC (.int 1)) (eCallS 2 T._law_take (aCons (eVar 1) (aCons (eC (.int 6)) (aNil))))) (aCons (eTup (aCons (eC (.str "nand")) (aCons (eC (.str "")) (aCons (eC (.str "")) (aNil))))) (aNil)))) (aNil)))) (gN 5))
    (sSeq2 (sAsg (eCallP 1 T._law_forms (aCons (eVar 3) (aNil))) (gTp 2 (gsCons (gN 6) (gsCons (gN 7) (gsNil)))))
    (sSeq2 (sAsg (eCallP 2 T.least_cover (aCons (eVar 3) (aCons (eVar 5) (aNil)))) (gTp 2 (gsCons (gN 8) (gsCons (gN 9) (gsNil)))))
    (sSeq2 (sIf (fOr (fTest (eBin vNe (eVar 8) (eBin vAdd (eBin vMul (eVar 6) (eBin vIx (eBin vIx (eVar 5) (eC (.int 0))) (eC (.int 0)))) (eBin vMul (eVar 7) (eBin vIx (eBin vIx (eVar 5) (eC (.int 1))) (eC (.int 0))))))) (fTest (eBin vNe (eCallP 3 T.cover_cost (aCons (eVar 3) (aCons (eVar 5) (aCons (eVar 9) (aNil))))) (eVar 8)))) (sSeq2 (sRet (eC (.bl false)))
    (sNil)) (sNil))
    (sSeq2 (sPar 10 11 (aCons (eVar 5) (aCons (eVar 8) (aNil))))
    (sSeq2 (sFor (fMap (aCons (eC (.int 3)) (aNil)) oR1) (gN 12) (sSeq2 (sAsg (eBin vAdd (eVar 10) (eTup (aCons (eTup (aCons (eCallS 2 T._law_take (aCons (eVar 1) (aCons (eC (.int 9)) (aNil)))) (aCons (eCallS 2 T._law_pattern (aCons (eVar 1) (aCons (eC (.int 2)) (aNil)))) (aNil)))) (aNil)))) (gN 10))
    (sSeq2 (sAsg (eCallP 2 T.least_cover (aCons (eVar 3) (aCons (eVar 10) (aNil)))) (gTp 2 (gsCons (gN 13) (gsCons (gN 14) (gsNil)))))
    (sSeq2 (sIf (fOr (fTest (eBin vGt (eVar 13) (eVar 11))) (fOr (fTest (eBin vNe (eCallP 3 T.cover_cost (aCons (eVar 3) (aCons (eVar 10) (aCons (eVar 14) (aNil))))) (eVar 13))) (fTest (eBin vNe (eCallP 3 T.cover_cost (aCons (eVar 3) (aCons (eVar 10) (aCons (eVar 9) (aNil))))) (eVar 8))))) (sSeq2 (sRet (eC (.bl false)))
    (sNil)) (sNil))
    (sSeq2 (sAsg (eVar 13) (gN 11))
    (sNil))))))
    (sSeq2 (sAsg (eBin vAdd (eC (.int 1)) (eCallS 2 T._law_take (aCons (eVar 1) (aCons (eC (.int 6)) (aNil))))) (gN 15))
    (sSeq2 (sIf (fTest (eBin vNe (eBin vIx (eCallP 2 T.least_cover (aCons (eVar 3) (aCons (eCall bTup (aCons (eVal (lLc (sSeq (eVar 10)) (gTp 2 (gsCons (gN 17) (gsCons (gN 18) (gsNil)))) (fTrue) (eTup (aCons (eBin vMul (eVar 15) (eVar 17)) (aCons (eVar 18) (aNil)))) [17, 18])) (aNil))) (aNil)))) (eC (.int 0))) (eBin vMul (eVar 15) (eVar 11)))) (sSeq2 (sRet (eC (.bl false)))
    (sNil)) (sNil))
    (sSeq2 (sIf (fOr (fTest (eBin vNe (eBin vIx (eCallP 2 T.least_cover (aCons (eCallS 2 T._law_turned (aCons (eVar 1) (aCons (eVar 3) (aNil)))) (aCons (eVar 10) (aNil)))) (eC (.int 0))) (eVar 11))) (fTest (eBin vNe (eBin vIx (eCallP 2 T.least_cover (aCons (eVar 3) (aCons (eRevT (eVar 10)) (aNil)))) (eC (.int 0))) (eVar 11)))) (sSeq2 (sRet (eC (.bl false)))
    (sNil)) (sNil))
    (sSeq2 (sAsg (eCallP 3 T._law_put (aCons (eVar 3) (aCons (eC (.int 0)) (aCons (eVar 4) (aNil))))) (gN 16))
    (sSeq2 (sIf (fTest (eBin vGt (eBin vIx (eCallP 2 T.least_cover (aCons (eVar 16) (aCons (eVar 10) (aNil)))) (eC (.int 0))) (eBin vAdd (eVar 11) (eBin vMul (eCallP 2 T._law_leaves (aCons (eVar 3) (aCons (eC (.int 0)) (aNil)))) (eBin vIx (eCallP 2 T.least_cover (aCons (eVar 4) (aCons (eVar 10) (aNil)))) (eC (.int 0))))))) (sSeq2 (sRet (eC (.bl false)))
    (sNil)) (sNil))
    (sSeq2 (sIf (fTest (eBin vNe (eBin vIx (eCallP 2 T.least_cover (aCons (eVar 16) (aCons (eVar 5) (aNil)))) (eC (.int 0))) (eBin vAdd (eVar 8) (eBin vMul (eCallP 2 T._law_leaves (aCons (eVar 3) (aCons (eC (.int 0)) (aNil)))) (eBin vIx (eCallP 2 T.least_cover (aCons (eVar 4) (aCons (eVar 5) (aNil)))) (eC (.int 0))))))) (sSeq2 (sRet (eC (.bl false)))
    (sNil)) (sNil))
    (sSeq2 (sIf (fOr (fTest (eBin vGt (eBin vIx (eCallP 2 T.least_cover (aCons (eTup (aCons (eC (.str "not")) (aCons (eVar 3) (aNil)))) (aCons (eVar 10) (aNil)))) (eC (.int 0))) (eBin vAdd (eVar 11) (eBin vIx (eBin vIx (eVar 5) (eC (.int 0))) (eC (.int 0)))))) (fTest (eBin vGt (eBin vIx (eCallP 2 T.least_cover (aCons (eTup (aCons (eC (.str "nand")) (aCons (eVar 3) (aCons (eVar 4) (aNil))))) (aCons (eVar 10) (aNil)))) (eC (.int 0))) (eBin vAdd (eBin vAdd (eVar 11) (eBin vIx (eCallP 2 T.least_cover (aCons (eVar 4) (aCons (eVar 10) (aNil)))) (eC (.int 0)))) (eBin vIx (eBin vIx (eVar 5) (eC (.int 1))) (eC (.int 0))))))) (sSeq2 (sRet (eC (.bl false)))
    (sNil)) (sNil))
    (sNil))))))))))))))))
    (sSeq2 (sRet (eC (.bl true)))
    (sNil)))
def T : Nat → Tb
  | 0 => ⟨fun _ => none, fun _ => none, fun _ => none, fun _ => none, fun _ => none, fun _ _ => none, fun _ _ => none, fun _ => none, fun _ => none, fun _ => none, fun _ => none, fun _ _ => none, fun _ => none, fun _ _ => none, fun _ _ => none, fun _ => none, fun _ _ => none, fun _ => none, fun _ => none, fun _ => none⟩
  | k + 1 => ⟨runP 1 (F_is_number (T k)), runP 3 (F_forms_in (T k)), runP 2 (F_is_pattern (T k)), runP 8 (F_check_asked (T k)), runP 7 (F_left_by (T k)), runS 2 (F_Cheapest_init (T k)), runS 11 (F_Cheapest_of (T k)), runP 2 (F_least_cover (T k)), runP 10 (F_cost_by (T k)), runP 3 (F_cover_cost (T k)), runP 9 (F__law_draws (T k)), runS 2 (F__law_take (T k)), runP 3 (F__law_same (T k)), runS 3 (F__law_tree (T k)), runS 3 (F__law_pattern (T k)), runP 4 (F__law_forms (T k)), runS 4 (F__law_turned (T k)), runP 4 (F__law_put (T k)), runP 3 (F__law_leaves (T k)), runP 19 (F_law (T k))⟩
structure Ct (P : Program) (w : World) (K : PySem.W.Frag) (mg : Str → Option Value) (base : Heap) (k : Nat) : Prop where
  b_all : mg "all" = none
  b_bool : mg "bool" = none
  b_dict : mg "dict" = none
  b_enumerate : mg "enumerate" = none
  b_int : mg "int" = none
  b_isinstance : mg "isinstance" = none
  b_len : mg "len" = none
  b_list : mg "list" = none
  b_range : mg "range" = none
  b_str : mg "str" = none
  b_sum : mg "sum" = none
  b_tuple : mg "tuple" = none
  b_zip : mg "zip" = none
  c_MOST_COST : Con K mg "MOST_COST" k_MOST_COST
  c_MOST_FORMS : Con K mg "MOST_FORMS" k_MOST_FORMS
  c_MOST_PATTERNS : Con K mg "MOST_PATTERNS" k_MOST_PATTERNS
  c_NEEDED : Con K mg "NEEDED" k_NEEDED
  k_Cheapest : Cls K (He.ga K "Cheapest")
  na_known : ∀ c ∈ (["Cheapest"] : List Str), NoAttr K (He.ga K c) "known"
  na_library : ∀ c ∈ (["Cheapest"] : List Str), NoAttr K (He.ga K c) "library"
  f_is_number : Cal P w K mg base (2 * k) "is_number" (spP K 1 (T k).is_number)
  f_forms_in : Cal P w K mg base (2 * k) "forms_in" (spP K 1 (T k).forms_in)
  f_is_pattern : Cal P w K mg base (2 * k) "is_pattern" (spP K 1 (T k).is_pattern)
  f_check_asked : Cal P w K mg base (2 * k) "check_asked" (spP K 2 (T k).check_asked)
  f_left_by : Cal P w K mg base (2 * k) "left_by" (spP K 2 (T k).left_by)
  m_Cheapest_init : Mak P w K mg base (2 * k) "Cheapest" (spS P w K 2 (T k).Cheapest_init)
  m_Cheapest_of : Met P w K mg base (2 * k) "Cheapest" "of" (spS P w K 2 (T k).Cheapest_of)
  f_least_cover : Cal P w K mg base (2 * k) "least_cover" (spP K 2 (T k).least_cover)
  f_cost_by : Cal P w K mg base (2 * k) "cost_by" (spP K 3 (T k).cost_by)
  f_cover_cost : Cal P w K mg base (2 * k) "cover_cost" (spP K 3 (T k).cover_cost)
  f__law_draws : Cal P w K mg base (2 * k) "_law_draws" (spP K 2 (T k)._law_draws)
  f__law_take : Cal P w K mg base (2 * k) "_law_take" (spS P w K 2 (T k)._law_take)
  f__law_same : Cal P w K mg base (2 * k) "_law_same" (spP K 2 (T k)._law_same)
  f__law_tree : Cal P w K mg base (2 * k) "_law_tree" (spS P w K 2 (T k)._law_tree)
  f__law_pattern : Cal P w K mg base (2 * k) "_law_pattern" (spS P w K 2 (T k)._law_pattern)
  f__law_forms : Cal P w K mg base (2 * k) "_law_forms" (spP K 1 (T k)._law_forms)
  f__law_turned : Cal P w K mg base (2 * k) "_law_turned" (spS P w K 2 (T k)._law_turned)
  f__law_put : Cal P w K mg base (2 * k) "_law_put" (spP K 3 (T k)._law_put)
  f__law_leaves : Cal P w K mg base (2 * k) "_law_leaves" (spP K 2 (T k)._law_leaves)
  f_law : Cal P w K mg base (2 * k) "law" (spP K 1 (T k).law)
section
variable {P : Program} {w : World} {K : PySem.W.Frag} {mg : Str → Option Value} {base : Heap} {k : Nat} {f : Addr} {fd : FuncData}
abbrev FnD (K : PySem.W.Frag) (x qual : Str) (st : Stmt) (f : Addr) (fd : FuncData) : Prop := FunD K x qual (defArgs st) (defBody st) (defScope st) [] [] f fd
theorem ok_is_number (C : Ct P w K mg base k) (F : FnD K "is_number" "is_number" st_is_number f fd) : FnOk P w K mg base CX0 (2 * k + 2) f fd ["thing"] (spP K 1 (T (k + 1)).is_number) :=
  fnP (N := N_is_number) (Fb := F_is_number (T k)) F sc_is_number fun cdv A outer s H E hr => by
    have nd := sc_is_number.nd
    have hr0 := hr.mono (show 2 * k ≤ 2 * k + 1 by omega)
    have hu := room65 hr
    exact ss_cons (s_ret (e_and (B_isi C.b_isinstance (AC (V 0) (AC (TY .int C.b_int) (a_nil)))) (e_one (e_not (B_isi C.b_isinstance (AC (V 0) (AC (TY .bool C.b_bool) (a_nil))))))))
        (ss_nil)
theorem ok_forms_in (C : Ct P w K mg base k) (F : FnD K "forms_in" "forms_in" st_forms_in f fd) : FnOk P w K mg base CX0 (2 * k + 2) f fd ["tree"] (spP K 1 (T (k + 1)).forms_in) :=
  fnP (N := N_forms_in) (Fb := F_forms_in (T k)) F sc_forms_in fun cdv A outer s H E hr => by
    have nd := sc_forms_in.nd
    have hr0 := hr.mono (show 2 * k ≤ 2 * k + 1 by omega)
    have hu := room65 hr
    exact ss_cons (s_if (TR (CP C.f_is_number hr0 (AC (V 0) (a_nil)))) (ss_cons (s_ret (e_if (CT op_ge ov_ge (V 0) (e_int)) (e_int) (e_non)))
        (ss_nil)) (ss_nil))
        (ss_cons (s_if (PW.pt (t_or (t_not (TR (B_isi C.b_isinstance (AC (V 0) (AC (TY .tup C.b_tuple) (a_nil)))))) (t_or (CT (or_eq hu) ov_eq (B_len C.b_len (AC (V 0) (a_nil))) (e_int)) (t_or1 (CT (or_nin hu) ov_nin (e_tup (AC (IX (V 0) (e_int)) (AC (B_len C.b_len (AC (V 0) (a_nil))) (a_nil)))) (e_tup (AC (e_tup (AC (e_str) (AC (e_int) (a_nil)))) (AC (e_tup (AC (e_str) (AC (e_int) (a_nil)))) (a_nil))))))))) (ss_cons (s_ret (e_non))
        (ss_nil)) (ss_nil))
        (ss_cons (SC 1 [("part", 2)] tv_val nd (by kernel_rfl) (sw_true rfl rfl rfl (by kernel_rfl)) (i_seq (e_slT (V 0) (o_some (e_int)) (o_none))) (fun _ _ _ _ _ => GN 2 nd) (fun _ _ _ _ _ => ts_nil) (fun _ _ _ _ _ => CP C.f_forms_in hr0 (AC (V 2) (a_nil))))
        (ss_cons (s_ret (e_if (CT (or_in hu) ov_in (e_non) (V 1)) (e_non) (BO or_add ov_add (e_int) (B_sum C.b_sum (AC (V 1) (a_nil))))))
        (ss_nil))))
theorem ok_is_pattern (C : Ct P w K mg base k) (F : FnD K "is_pattern" "is_pattern" st_is_pattern f fd) : FnOk P w K mg base CX0 (2 * k + 2) f fd ["pattern"] (spP K 1 (T (k + 1)).is_pattern) :=
  fnP (N := N_is_pattern) (Fb := F_is_pattern (T k)) F sc_is_pattern fun cdv A outer s H E hr => by
    have nd := sc_is_pattern.nd
    have hr0 := hr.mono (show 2 * k ≤ 2 * k + 1 by omega)
    have hu := room65 hr
    exact ss_cons (s_if (CT (or_eq hu) ov_eq (V 0) (e_str)) (ss_cons (s_ret (e_bl))
        (ss_nil)) (ss_nil))
        (ss_cons (s_if (PW.pt (t_or (t_not (TR (B_isi C.b_isinstance (AC (V 0) (AC (TY .tup C.b_tuple) (a_nil)))))) (t_or1 (CT (or_eq hu) ov_eq (B_len C.b_len (AC (V 0) (a_nil))) (e_int))))) (ss_cons (s_ret (e_bl))
        (ss_nil)) (ss_nil))
        (ss_cons (s_ret (e_and (CM (or_in hu) ov_in (e_tup (AC (IX (V 0) (e_int)) (AC (B_len C.b_len (AC (V 0) (a_nil))) (a_nil)))) (e_tup (AC (e_tup (AC (e_str) (AC (e_int) (a_nil)))) (AC (e_tup (AC (e_str) (AC (e_int) (a_nil)))) (a_nil))))) (e_one (B_all C.b_all (AC (e_val (LC [("part", 1)] nd (by kernel_rfl) (i_seq (e_slT (V 0) (o_some (e_int)) (o_none))) (fun _ _ _ _ _ => GN 1 nd) (fun _ _ _ _ _ => ts_nil) (fun _ _ _ _ _ => CP C.f_is_pattern hr0 (AC (V 1) (a_nil))))) (a_nil))))))
        (ss_nil)))
theorem ok_check_asked (C : Ct P w K mg base k) (F : FnD K "check_asked" "check_asked" st_check_asked f fd) : FnOk P w K mg base CX0 (2 * k + 2) f fd ["tree", "library"] (spP K 2 (T (k + 1)).check_asked) :=
  fnP (N := N_check_asked) (Fb := F_check_asked (T k)) F sc_check_asked fun cdv A outer s H E hr => by
    have nd := sc_check_asked.nd
    have hr0 := hr.mono (show 2 * k ≤ 2 * k + 1 by omega)
    have hu := room65 hr
    exact ss_cons (SS 2 nd (CP C.f_forms_in hr0 (AC (V 0) (a_nil))))
        (ss_cons (s_if (PW.pt (t_or (CT op_isN ov_isN (V 2) (e_non)) (t_or1 (CT op_gt ov_gt (V 2) (GC C.c_MOST_FORMS))))) (ss_cons (s_no)
        (ss_nil)) (ss_nil))
        (ss_cons (SS 3 nd (e_and (CH op_le ov_le op_le ov_le (e_int) (B_len C.b_len (AC (V 1) (a_nil))) (GC C.c_MOST_PATTERNS)) (e_one (B_all C.b_all (AC (e_val (LC [("cost", 5), ("_", 6)] nd (by kernel_rfl) (i_seq (V 1)) (fun _ _ _ _ _ => GT (GS (GN 5 nd) (GS (GN 6 nd) (gs_nil)))) (fun _ _ _ _ _ => ts_nil) (fun _ _ _ _ _ => CH op_le ov_le op_le ov_le (e_int) (V 5) (GC C.c_MOST_COST)))) (a_nil))))))
        (ss_cons (SS 3 nd (e_and (V 3) (e_one (B_all C.b_all (AC (e_val (LC [("_", 6), ("pattern", 7)] nd (by kernel_rfl) (i_seq (V 1)) (fun _ _ _ _ _ => GT (GS (GN 6 nd) (GS (GN 7 nd) (gs_nil)))) (fun _ _ _ _ _ => ts_nil) (fun _ _ _ _ _ => e_and (CM (or_ne hu) ov_ne (V 7) (e_str)) (e_one (CP C.f_is_pattern hr0 (AC (V 7) (a_nil))))))) (a_nil))))))
        (ss_cons (SS 4 nd (e_val (LC [("_", 6), ("pattern", 7)] nd (by kernel_rfl) (i_seq (V 1)) (fun _ _ _ _ _ => GT (GS (GN 6 nd) (GS (GN 7 nd) (gs_nil)))) (fun _ _ _ _ _ => ts_nil) (fun _ _ _ _ _ => V 7))))
        (ss_cons (s_if (PW.pt (t_or (t_not (TR (V 3))) (t_or1 (t_not (TR (B_all C.b_all (AC (e_val (LC [("pattern", 7)] nd (by kernel_rfl) (i_seq (GC C.c_NEEDED)) (fun _ _ _ _ _ => GN 7 nd) (fun _ _ _ _ _ => ts_nil) (fun _ _ _ _ _ => CM (or_in hu) ov_in (V 7) (V 4)))) (a_nil)))))))) (ss_cons (s_no)
        (ss_nil)) (ss_nil))
        (ss_nil))))))
theorem ok_left_by (C : Ct P w K mg base k) (F : FnD K "left_by" "left_by" st_left_by f fd) : FnOk P w K mg base CX0 (2 * k + 2) f fd ["pattern", "tree"] (spP K 2 (T (k + 1)).left_by) :=
  fnP (N := N_left_by) (Fb := F_left_by (T k)) F sc_left_by fun cdv A outer s H E hr => by
    have nd := sc_left_by.nd
    have hr0 := hr.mono (show 2 * k ≤ 2 * k + 1 by omega)
    have hu := room65 hr
    exact ss_cons (s_if (CT (or_eq hu) ov_eq (V 0) (e_str)) (ss_cons (s_ret (e_val (e_lst (AC (e_tup (AC (V 1) (a_nil))) (a_nil)))))
        (ss_nil)) (ss_nil))
        (ss_cons (s_if (PW.pt (t_or (TR (CP C.f_is_number hr0 (AC (V 1) (a_nil)))) (t_or1 (CT (or_ne hu) ov_ne (IX (V 1) (e_int)) (IX (V 0) (e_int)))))) (ss_cons (s_ret (e_val (e_lst (a_nil))))
        (ss_nil)) (ss_nil))
        (ss_cons (s_if (CT (or_eq hu) ov_eq (IX (V 0) (e_int)) (e_str)) (ss_cons (s_ret (CP C.f_left_by hr0 (AC (IX (V 0) (e_int)) (AC (IX (V 1) (e_int)) (a_nil)))))
        (ss_nil)) (ss_nil))
        (ss_cons (SS 2 nd (e_obj (e_lst (a_nil))))
        (ss_cons (SO .never (i_seq (e_tup (AC (e_tup (AC (IX (V 1) (e_int)) (AC (IX (V 1) (e_int)) (a_nil)))) (AC (e_tup (AC (IX (V 1) (e_int)) (AC (IX (V 1) (e_int)) (a_nil)))) (a_nil))))) (GT (GS (GN 3 nd) (GS (GN 4 nd) (gs_nil)))) (ss_cons (SO .never (i_seq (CP C.f_left_by hr0 (AC (IX (V 0) (e_int)) (AC (V 3) (a_nil))))) (GN 5 nd) (ss_cons (SO .never (i_seq (CP C.f_left_by hr0 (AC (IX (V 0) (e_int)) (AC (V 4) (a_nil))))) (GN 6 nd) (ss_cons (s_if (CT (or_nin hu) ov_nin (BO or_add ov_add (V 5) (V 6)) (V 2)) (ss_cons (SE (M_append (V 2) (BO or_add ov_add (V 5) (V 6))))
        (ss_nil)) (ss_nil))
        (ss_nil)))
        (ss_nil)))
        (ss_nil)))
        (ss_cons (s_ret (V 2))
        (ss_nil))))))
theorem ok_Cheapest_init (C : Ct P w K mg base k) (F : FnD K "__init__" "Cheapest.__init__" st_Cheapest_init f fd) : FnOk P w K mg base CX0 (2 * k + 2) f fd ["self", "library"] (spS P w K 2 (T (k + 1)).Cheapest_init) :=
  fnS (N := N_Cheapest_init) (Fb := F_Cheapest_init (T k)) F sc_Cheapest_init fun cdv A outer s H E hr => by
    have nd := sc_Cheapest_init.nd
    have hr0 := hr.mono (show 2 * k ≤ 2 * k + 1 by omega)
    have hu := room65 hr
    exact ss_cons (SF (cs := ["Cheapest"]) C.na_library (V 0) (V 1))
        (ss_cons (SF (cs := ["Cheapest"]) C.na_known (V 0) (e_newX))
        (ss_nil))
theorem ok_Cheapest_of (C : Ct P w K mg base k) (F : FnD K "of" "Cheapest.of" st_Cheapest_of f fd) : FnOk P w K mg base CX0 (2 * k + 2) f fd ["self", "tree"] (spS P w K 2 (T (k + 1)).Cheapest_of) :=
  fnS (N := N_Cheapest_of) (Fb := F_Cheapest_of (T k)) F sc_Cheapest_of fun cdv A outer s H E hr => by
    have nd := sc_Cheapest_of.nd
    have hr0 := hr.mono (show 2 * k ≤ 2 * k + 1 by omega)
    have hu := room65 hr
    exact ss_cons (s_if (TR (CP C.f_is_number hr0 (AC (V 1) (a_nil)))) (ss_cons (s_ret (e_tup (AC (e_int) (AC (e_tup (a_nil)) (a_nil)))))
        (ss_nil)) (ss_nil))
        (ss_cons (s_if (CT (op_notInX hu) (ov_inX true) (V 1) (FL (V 0))) (ss_cons (SS 2 nd (e_non))
        (ss_cons (SO .never (I_enum C.b_enumerate (AC (FL (V 0)) (a_nil))) (GT (GS (GN 3 nd) (GS (GT (GS (GN 4 nd) (GS (GN 5 nd) (gs_nil)))) (gs_nil)))) (ss_cons (SO .never (i_seq (CP C.f_left_by hr0 (AC (V 5) (AC (V 1) (a_nil))))) (GN 6 nd) (ss_cons (SC 7 [("part", 9)] tv_val nd (by kernel_rfl) (sw_true rfl rfl rfl (by kernel_rfl)) (i_seq (V 6)) (fun _ _ _ _ _ => GN 9 nd) (fun _ _ _ _ _ => ts_nil) (fun _ _ _ _ _ => MT C.m_Cheapest_of hr0 (V 0) (AC (V 9) (a_nil))))
        (ss_cons (SS 8 nd (BO or_add ov_add (V 4) (B_sum C.b_sum (AC (e_val (LC [("each", 10)] nd (by kernel_rfl) (i_seq (V 7)) (fun _ _ _ _ _ => GN 10 nd) (fun _ _ _ _ _ => ts_nil) (fun _ _ _ _ _ => IX (V 10) (e_int)))) (a_nil)))))
        (ss_cons (s_if (PW.pt (t_or (CT op_isN ov_isN (V 2) (e_non)) (t_or1 (CT op_lt ov_lt (V 8) (IX (V 2) (e_int)))))) (ss_cons (SS 2 nd (e_tup (AC (V 8) (AC (e_tup (AC (V 3) (AC (B_tuple C.b_tuple (AC (e_val (LC [("each", 10)] nd (by kernel_rfl) (i_seq (V 7)) (fun _ _ _ _ _ => GN 10 nd) (fun _ _ _ _ _ => ts_nil) (fun _ _ _ _ _ => IX (V 10) (e_int)))) (a_nil))) (a_nil)))) (a_nil)))))
        (ss_nil)) (ss_nil))
        (ss_nil)))))
        (ss_nil)))
        (ss_cons (SX hu (FL (V 0)) (V 1) (V 2))
        (ss_nil)))) (ss_nil))
        (ss_cons (s_ret (IXX hu (FL (V 0)) (V 1)))
        (ss_nil)))
theorem ok_least_cover (C : Ct P w K mg base k) (F : FnD K "least_cover" "least_cover" st_least_cover f fd) : FnOk P w K mg base CX0 (2 * k + 2) f fd ["tree", "library"] (spP K 2 (T (k + 1)).least_cover) :=
  fnP (N := N_least_cover) (Fb := F_least_cover (T k)) F sc_least_cover fun cdv A outer s H E hr => by
    have nd := sc_least_cover.nd
    have hr0 := hr.mono (show 2 * k ≤ 2 * k + 1 by omega)
    have hu := room65 hr
    exact ss_cons (SE (CP C.f_check_asked hr0 (AC (V 0) (AC (V 1) (a_nil)))))
        (ss_cons (s_ret (MT C.m_Cheapest_of hr0 (MK C.m_Cheapest_init C.k_Cheapest hr (AC (V 1) (a_nil))) (AC (V 0) (a_nil))))
        (ss_nil))
theorem ok_cost_by (C : Ct P w K mg base k) (F : FnD K "cost_by" "cost_by" st_cost_by f fd) : FnOk P w K mg base CX0 (2 * k + 2) f fd ["tree", "library", "cover"] (spP K 3 (T (k + 1)).cost_by) :=
  fnP (N := N_cost_by) (Fb := F_cost_by (T k)) F sc_cost_by fun cdv A outer s H E hr => by
    have nd := sc_cost_by.nd
    have hr0 := hr.mono (show 2 * k ≤ 2 * k + 1 by omega)
    have hu := room65 hr
    exact ss_cons (s_if (TR (CP C.f_is_number hr0 (AC (V 0) (a_nil)))) (ss_cons (s_ret (e_if (CT (or_eq hu) ov_eq (V 2) (e_tup (a_nil))) (e_int) (e_non)))
        (ss_nil)) (ss_nil))
        (ss_cons (s_if (PW.pt (t_or (t_not (TR (B_isi C.b_isinstance (AC (V 2) (AC (TY .tup C.b_tuple) (a_nil)))))) (t_or (CT (or_ne hu) ov_ne (B_len C.b_len (AC (V 2) (a_nil))) (e_int)) (t_or1 (t_not (TR (B_isi C.b_isinstance (AC (IX (V 2) (e_int)) (AC (TY .tup C.b_tuple) (a_nil)))))))))) (ss_cons (s_ret (e_non))
        (ss_nil)) (ss_nil))
        (ss_cons (s_if (PW.pt (t_or (t_not (TR (CP C.f_is_number hr0 (AC (IX (V 2) (e_int)) (a_nil))))) (t_or1 (t_not (CHT op_le ov_le op_lt ov_lt (e_int) (IX (V 2) (e_int)) (B_len C.b_len (AC (V 1) (a_nil)))))))) (ss_cons (s_ret (e_non))
        (ss_nil)) (ss_nil))
        (ss_cons (SA (IX (V 1) (IX (V 2) (e_int))) (GT (GS (GN 3 nd) (GS (GN 4 nd) (gs_nil)))))
        (ss_cons (SS 5 nd (e_non))
        (ss_cons (SO .never (i_seq (CP C.f_left_by hr0 (AC (V 4) (AC (V 0) (a_nil))))) (GN 6 nd) (ss_cons (s_if (CT (or_eq hu) ov_eq (B_len C.b_len (AC (V 6) (a_nil))) (B_len C.b_len (AC (IX (V 2) (e_int)) (a_nil)))) (ss_cons (SC 7 [("part", 8), ("inner", 9)] tv_val nd (by kernel_rfl) (sw_true rfl rfl rfl (by kernel_rfl)) (I_zip C.b_zip (AC (V 6) (AC (IX (V 2) (e_int)) (a_nil)))) (fun _ _ _ _ _ => GT (GS (GN 8 nd) (GS (GN 9 nd) (gs_nil)))) (fun _ _ _ _ _ => ts_nil) (fun _ _ _ _ _ => CP C.f_cost_by hr0 (AC (V 8) (AC (V 1) (AC (V 9) (a_nil))))))
        (ss_cons (s_if (PW.pt (t_and (CT (or_nin hu) ov_nin (e_non) (V 7)) (t_and1 (PW.pt (t_or (CT op_isN ov_isN (V 5) (e_non)) (t_or1 (CT op_lt ov_lt (BO or_add ov_add (V 3) (B_sum C.b_sum (AC (V 7) (a_nil)))) (V 5)))))))) (ss_cons (SS 5 nd (BO or_add ov_add (V 3) (B_sum C.b_sum (AC (V 7) (a_nil)))))
        (ss_nil)) (ss_nil))
        (ss_nil))) (ss_nil))
        (ss_nil)))
        (ss_cons (s_ret (V 5))
        (ss_nil)))))))
theorem ok_cover_cost (C : Ct P w K mg base k) (F : FnD K "cover_cost" "cover_cost" st_cover_cost f fd) : FnOk P w K mg base CX0 (2 * k + 2) f fd ["tree", "library", "cover"] (spP K 3 (T (k + 1)).cover_cost) :=
  fnP (N := N_cover_cost) (Fb := F_cover_cost (T k)) F sc_cover_cost fun cdv A outer s H E hr => by
    have nd := sc_cover_cost.nd
    have hr0 := hr.mono (show 2 * k ≤ 2 * k + 1 by omega)
    have hu := room65 hr
    exact ss_cons (SE (CP C.f_check_asked hr0 (AC (V 0) (AC (V 1) (a_nil)))))
        (ss_cons (s_ret (CP C.f_cost_by hr0 (AC (V 0) (AC (V 1) (AC (V 2) (a_nil))))))
        (ss_nil))
theorem ok__law_draws (C : Ct P w K mg base k) (F : FnD K "_law_draws" "_law_draws" st__law_draws f fd) : FnOk P w K mg base CX0 (2 * k + 2) f fd ["script", "count"] (spP K 2 (T (k + 1))._law_draws) :=
  fnP (N := N__law_draws) (Fb := F__law_draws (T k)) F sc__law_draws fun cdv A outer s H E hr => by
    have nd := sc__law_draws.nd
    have hr0 := hr.mono (show 2 * k ≤ 2 * k + 1 by omega)
    have hu := room65 hr
    exact ss_cons (SS 2 nd (e_obj (B_list C.b_list (AC (V 0) (a_nil)))))
        (ss_cons (s_if (CT (or_eq hu) ov_eq (B_len C.b_len (AC (V 2) (a_nil))) (e_int)) (ss_cons (SS 2 nd (e_obj (e_lst (AC (e_int) (a_nil)))))
        (ss_nil)) (ss_nil))
        (ss_cons (SS 3 nd (e_obj (e_lst (a_nil))))
        (ss_cons (SS 4 nd (e_int))
        (ss_cons (SO .never (I_range1 C.b_range (AC (V 1) (a_nil))) (GN 5 nd) (ss_cons (SS 6 nd (BO op_mod ov_mod (V 5) (B_len C.b_len (AC (V 2) (a_nil)))))
        (ss_cons (SS 7 nd (IX (V 2) (V 6)))
        (ss_cons (SS 4 nd (BO op_mod ov_mod (B_int C.b_int (AC (BO or_add ov_add (BO or_add ov_add (BO or_add ov_add (BO op_mul ov_mul (V 4) (e_int)) (BO op_mul ov_mul (BO op_mod ov_mod (B_int C.b_int (AC (V 7) (a_nil))) (e_int)) (e_int))) (BO op_mul ov_mul (V 5) (e_int))) (e_int)) (a_nil))) (e_int)))
        (ss_cons (SS 8 nd (BO op_mod ov_mod (B_int C.b_int (AC (BO or_add ov_add (BO or_add ov_add (BO op_mul ov_mul (V 4) (V 4)) (BO op_mul ov_mul (e_int) (V 4))) (V 5)) (a_nil))) (e_int)))
        (ss_cons (s_if (CT op_ge ov_ge (V 7) (BO op_pow ov_pow (e_int) (e_int))) (ss_cons (SE (M_append (V 3) (BO op_mod ov_mod (B_int C.b_int (AC (V 7) (a_nil))) (e_int))))
        (ss_cons (SL (V 2) (V 6) (BO op_fdiv ov_div (V 7) (e_int)))
        (ss_nil))) (ss_cons (SE (M_append (V 3) (BO op_mod ov_mod (B_int C.b_int (AC (V 8) (a_nil))) (e_int))))
        (ss_nil)))
        (ss_nil)))))))
        (ss_cons (SE (M_reverse (V 3)))
        (ss_cons (s_ret (V 3))
        (ss_nil)))))))
theorem ok__law_take (C : Ct P w K mg base k) (F : FnD K "_law_take" "_law_take" st__law_take f fd) : FnOk P w K mg base CX0 (2 * k + 2) f fd ["draws", "limit"] (spS P w K 2 (T (k + 1))._law_take) :=
  fnS (N := N__law_take) (Fb := F__law_take (T k)) F sc__law_take fun cdv A outer s H E hr => by
    have nd := sc__law_take.nd
    have hr0 := hr.mono (show 2 * k ≤ 2 * k + 1 by omega)
    have hu := room65 hr
    exact ss_cons (s_if (CT (or_eq hu) ov_eq (B_len C.b_len (AC (V 0) (a_nil))) (e_int)) (ss_cons (s_ret (e_int))
        (ss_nil)) (ss_nil))
        (ss_cons (s_ret (BO op_mod ov_mod (B_int C.b_int (AC (M_pop (V 0)) (a_nil))) (V 1)))
        (ss_nil))
theorem ok__law_same (C : Ct P w K mg base k) (F : FnD K "_law_same" "_law_same" st__law_same f fd) : FnOk P w K mg base CX0 (2 * k + 2) f fd ["found", "due"] (spP K 2 (T (k + 1))._law_same) :=
  fnP (N := N__law_same) (Fb := F__law_same (T k)) F sc__law_same fun cdv A outer s H E hr => by
    have nd := sc__law_same.nd
    have hr0 := hr.mono (show 2 * k ≤ 2 * k + 1 by omega)
    have hu := room65 hr
    exact ss_cons (s_if (CT op_isN ov_isN (V 1) (e_non)) (ss_cons (s_ret (CM op_isN ov_isN (V 0) (e_non)))
        (ss_nil)) (ss_nil))
        (ss_cons (s_if (TR (B_isi C.b_isinstance (AC (V 1) (AC (TY .bool C.b_bool) (a_nil))))) (ss_cons (s_ret (e_and (B_isi C.b_isinstance (AC (V 0) (AC (TY .bool C.b_bool) (a_nil)))) (e_one (CM (or_eq hu) ov_eq (V 0) (V 1)))))
        (ss_nil)) (ss_nil))
        (ss_cons (s_if (TR (B_isi C.b_isinstance (AC (V 1) (AC (TY .int C.b_int) (a_nil))))) (ss_cons (s_ret (e_and (B_isi C.b_isinstance (AC (V 0) (AC (TY .int C.b_int) (a_nil)))) (e_and (e_not (B_isi C.b_isinstance (AC (V 0) (AC (TY .bool C.b_bool) (a_nil))))) (e_one (CM (or_eq hu) ov_eq (V 0) (V 1))))))
        (ss_nil)) (ss_nil))
        (ss_cons (s_if (TR (B_isi C.b_isinstance (AC (V 1) (AC (TY .str C.b_str) (a_nil))))) (ss_cons (s_ret (e_and (B_isi C.b_isinstance (AC (V 0) (AC (TY .str C.b_str) (a_nil)))) (e_one (CM (or_eq hu) ov_eq (V 0) (V 1)))))
        (ss_nil)) (ss_nil))
        (ss_cons (s_if (TR (B_isi C.b_isinstance (AC (V 1) (AC (TY .dct C.b_dict) (a_nil))))) (ss_cons (s_ret (e_and (B_isi C.b_isinstance (AC (V 0) (AC (TY .dct C.b_dict) (a_nil)))) (e_one (CM (or_eq hu) ov_eq (V 0) (V 1)))))
        (ss_nil)) (ss_nil))
        (ss_cons (s_if (PW.pt (t_or (CT (or_ne hu) ov_ne (B_isi C.b_isinstance (AC (V 1) (AC (TY .tup C.b_tuple) (a_nil)))) (B_isi C.b_isinstance (AC (V 0) (AC (TY .tup C.b_tuple) (a_nil))))) (t_or1 (CT (or_ne hu) ov_ne (B_isi C.b_isinstance (AC (V 1) (AC (TY .lst C.b_list) (a_nil)))) (B_isi C.b_isinstance (AC (V 0) (AC (TY .lst C.b_list) (a_nil)))))))) (ss_cons (s_ret (e_bl))
        (ss_nil)) (ss_nil))
        (ss_cons (s_ret (e_and (CM (or_eq hu) ov_eq (B_len C.b_len (AC (V 0) (a_nil))) (B_len C.b_len (AC (V 1) (a_nil)))) (e_one (B_all C.b_all (AC (e_val (LC [("k", 2)] nd (by kernel_rfl) (I_range1 C.b_range (AC (B_len C.b_len (AC (V 1) (a_nil))) (a_nil))) (fun _ _ _ _ _ => GN 2 nd) (fun _ _ _ _ _ => ts_nil) (fun _ _ _ _ _ => CP C.f__law_same hr0 (AC (IX (V 0) (V 2)) (AC (IX (V 1) (V 2)) (a_nil)))))) (a_nil))))))
        (ss_nil)))))))
theorem ok__law_tree (C : Ct P w K mg base k) (F : FnD K "_law_tree" "_law_tree" st__law_tree f fd) : FnOk P w K mg base CX0 (2 * k + 2) f fd ["draws", "deep"] (spS P w K 2 (T (k + 1))._law_tree) :=
  fnS (N := N__law_tree) (Fb := F__law_tree (T k)) F sc__law_tree fun cdv A outer s H E hr => by
    have nd := sc__law_tree.nd
    have hr0 := hr.mono (show 2 * k ≤ 2 * k + 1 by omega)
    have hu := room65 hr
    exact ss_cons (SS 2 nd (e_if (CT op_gt ov_gt (V 1) (e_int)) (CS C.f__law_take hr0 (AC (V 0) (AC (e_int) (a_nil)))) (e_int)))
        (ss_cons (s_if (CT (or_eq hu) ov_eq (V 2) (e_int)) (ss_cons (s_ret (CS C.f__law_take hr0 (AC (V 0) (AC (e_int) (a_nil)))))
        (ss_nil)) (ss_nil))
        (ss_cons (s_if (CT (or_eq hu) ov_eq (V 2) (e_int)) (ss_cons (s_ret (e_tup (AC (e_str) (AC (CS C.f__law_tree hr0 (AC (V 0) (AC (BO op_sub ov_sub (V 1) (e_int)) (a_nil)))) (a_nil)))))
        (ss_nil)) (ss_nil))
        (ss_cons (s_ret (e_tup (AC (e_str) (AC (CS C.f__law_tree hr0 (AC (V 0) (AC (BO op_sub ov_sub (V 1) (e_int)) (a_nil)))) (AC (CS C.f__law_tree hr0 (AC (V 0) (AC (BO op_sub ov_sub (V 1) (e_int)) (a_nil)))) (a_nil))))))
        (ss_nil))))
theorem ok__law_pattern (C : Ct P w K mg base k) (F : FnD K "_law_pattern" "_law_pattern" st__law_pattern f fd) : FnOk P w K mg base CX0 (2 * k + 2) f fd ["draws", "deep"] (spS P w K 2 (T (k + 1))._law_pattern) :=
  fnS (N := N__law_pattern) (Fb := F__law_pattern (T k)) F sc__law_pattern fun cdv A outer s H E hr => by
    have nd := sc__law_pattern.nd
    have hr0 := hr.mono (show 2 * k ≤ 2 * k + 1 by omega)
    have hu := room65 hr
    exact ss_cons (SS 2 nd (e_if (CT (or_eq hu) ov_eq (V 1) (e_int)) (BO or_add ov_add (e_int) (CS C.f__law_take hr0 (AC (V 0) (AC (e_int) (a_nil))))) (e_if (CT op_gt ov_gt (V 1) (e_int)) (CS C.f__law_take hr0 (AC (V 0) (AC (e_int) (a_nil)))) (e_int))))
        (ss_cons (s_if (CT (or_eq hu) ov_eq (V 2) (e_int)) (ss_cons (s_ret (e_str))
        (ss_nil)) (ss_nil))
        (ss_cons (s_if (CT (or_eq hu) ov_eq (V 2) (e_int)) (ss_cons (s_ret (e_tup (AC (e_str) (AC (CS C.f__law_pattern hr0 (AC (V 0) (AC (BO op_sub ov_sub (V 1) (e_int)) (a_nil)))) (a_nil)))))
        (ss_nil)) (ss_nil))
        (ss_cons (s_ret (e_tup (AC (e_str) (AC (CS C.f__law_pattern hr0 (AC (V 0) (AC (BO op_sub ov_sub (V 1) (e_int)) (a_nil)))) (AC (CS C.f__law_pattern hr0 (AC (V 0) (AC (BO op_sub ov_sub (V 1) (e_int)) (a_nil)))) (a_nil))))))
        (ss_nil))))
theorem ok__law_forms (C : Ct P w K mg base k) (F : FnD K "_law_forms" "_law_forms" st__law_forms f fd) : FnOk P w K mg base CX0 (2 * k + 2) f fd ["tree"] (spP K 1 (T (k + 1))._law_forms) :=
  fnP (N := N__law_forms) (Fb := F__law_forms (T k)) F sc__law_forms fun cdv A outer s H E hr => by
    have nd := sc__law_forms.nd
    have hr0 := hr.mono (show 2 * k ≤ 2 * k + 1 by omega)
    have hu := room65 hr
    exact ss_cons (s_if (TR (B_isi C.b_isinstance (AC (V 0) (AC (TY .int C.b_int) (a_nil))))) (ss_cons (s_ret (e_tup (AC (e_int) (AC (e_int) (a_nil)))))
        (ss_nil)) (ss_nil))
        (ss_cons (SC 1 [("part", 2)] tv_val nd (by kernel_rfl) (sw_true rfl rfl rfl (by kernel_rfl)) (i_seq (e_slT (V 0) (o_some (e_int)) (o_none))) (fun _ _ _ _ _ => GN 2 nd) (fun _ _ _ _ _ => ts_nil) (fun _ _ _ _ _ => CP C.f__law_forms hr0 (AC (V 2) (a_nil))))
        (ss_cons (s_ret (e_tup (AC (BO or_add ov_add (B_sum C.b_sum (AC (e_val (LC [("row", 3)] nd (by kernel_rfl) (i_seq (V 1)) (fun _ _ _ _ _ => GN 3 nd) (fun _ _ _ _ _ => ts_nil) (fun _ _ _ _ _ => IX (V 3) (e_int)))) (a_nil))) (B_int C.b_int (AC (CM (or_eq hu) ov_eq (IX (V 0) (e_int)) (e_str)) (a_nil)))) (AC (BO or_add ov_add (B_sum C.b_sum (AC (e_val (LC [("row", 3)] nd (by kernel_rfl) (i_seq (V 1)) (fun _ _ _ _ _ => GN 3 nd) (fun _ _ _ _ _ => ts_nil) (fun _ _ _ _ _ => IX (V 3) (e_int)))) (a_nil))) (B_int C.b_int (AC (CM (or_eq hu) ov_eq (IX (V 0) (e_int)) (e_str)) (a_nil)))) (a_nil)))))
        (ss_nil)))
theorem ok__law_turned (C : Ct P w K mg base k) (F : FnD K "_law_turned" "_law_turned" st__law_turned f fd) : FnOk P w K mg base CX0 (2 * k + 2) f fd ["draws", "tree"] (spS P w K 2 (T (k + 1))._law_turned) :=
  fnS (N := N__law_turned) (Fb := F__law_turned (T k)) F sc__law_turned fun cdv A outer s H E hr => by
    have nd := sc__law_turned.nd
    have hr0 := hr.mono (show 2 * k ≤ 2 * k + 1 by omega)
    have hu := room65 hr
    exact ss_cons (s_if (TR (B_isi C.b_isinstance (AC (V 1) (AC (TY .int C.b_int) (a_nil))))) (ss_cons (s_ret (V 1))
        (ss_nil)) (ss_nil))
        (ss_cons (SC 2 [("part", 3)] tv_val nd (by kernel_rfl) (sw_true rfl rfl rfl (by kernel_rfl)) (i_seq (e_slT (V 1) (o_some (e_int)) (o_none))) (fun _ _ _ _ _ => GN 3 nd) (fun _ _ _ _ _ => ts_nil) (fun _ _ _ _ _ => CS C.f__law_turned hr0 (AC (V 0) (AC (V 3) (a_nil)))))
        (ss_cons (s_ret (BO or_add ov_add (e_tup (AC (IX (V 1) (e_int)) (a_nil))) (B_tuple C.b_tuple (AC (e_if (CT (or_eq hu) ov_eq (CS C.f__law_take hr0 (AC (V 0) (AC (e_int) (a_nil)))) (e_int)) (e_val (e_revL (V 2))) (V 2)) (a_nil)))))
        (ss_nil)))
theorem ok__law_put (C : Ct P w K mg base k) (F : FnD K "_law_put" "_law_put" st__law_put f fd) : FnOk P w K mg base CX0 (2 * k + 2) f fd ["tree", "leaf", "inner"] (spP K 3 (T (k + 1))._law_put) :=
  fnP (N := N__law_put) (Fb := F__law_put (T k)) F sc__law_put fun cdv A outer s H E hr => by
    have nd := sc__law_put.nd
    have hr0 := hr.mono (show 2 * k ≤ 2 * k + 1 by omega)
    have hu := room65 hr
    exact ss_cons (s_if (TR (B_isi C.b_isinstance (AC (V 0) (AC (TY .int C.b_int) (a_nil))))) (ss_cons (s_ret (e_if (CT (or_eq hu) ov_eq (V 0) (V 1)) (V 2) (V 0)))
        (ss_nil)) (ss_nil))
        (ss_cons (s_ret (BO or_add ov_add (e_tup (AC (IX (V 0) (e_int)) (a_nil))) (B_tuple C.b_tuple (AC (e_val (LC [("part", 3)] nd (by kernel_rfl) (i_seq (e_slT (V 0) (o_some (e_int)) (o_none))) (fun _ _ _ _ _ => GN 3 nd) (fun _ _ _ _ _ => ts_nil) (fun _ _ _ _ _ => CP C.f__law_put hr0 (AC (V 3) (AC (V 1) (AC (V 2) (a_nil))))))) (a_nil)))))
        (ss_nil))
theorem ok__law_leaves (C : Ct P w K mg base k) (F : FnD K "_law_leaves" "_law_leaves" st__law_leaves f fd) : FnOk P w K mg base CX0 (2 * k + 2) f fd ["tree", "leaf"] (spP K 2 (T (k + 1))._law_leaves) :=
  fnP (N := N__law_leaves) (Fb := F__law_leaves (T k)) F sc__law_leaves fun cdv A outer s H E hr => by
    have nd := sc__law_leaves.nd
    have hr0 := hr.mono (show 2 * k ≤ 2 * k + 1 by omega)
    have hu := room65 hr
    exact ss_cons (s_if (TR (B_isi C.b_isinstance (AC (V 0) (AC (TY .int C.b_int) (a_nil))))) (ss_cons (s_ret (B_int C.b_int (AC (CM (or_eq hu) ov_eq (V 0) (V 1)) (a_nil))))
        (ss_nil)) (ss_nil))
        (ss_cons (s_ret (B_sum C.b_sum (AC (e_val (LC [("part", 2)] nd (by kernel_rfl) (i_seq (e_slT (V 0) (o_some (e_int)) (o_none))) (fun _ _ _ _ _ => GN 2 nd) (fun _ _ _ _ _ => ts_nil) (fun _ _ _ _ _ => CP C.f__law_leaves hr0 (AC (V 2) (AC (V 1) (a_nil)))))) (a_nil))))
        (ss_nil))
theorem ok_law (C : Ct P w K mg base k) (F : FnD K "law" "law" st_law f fd) : FnOk P w K mg base CX0 (2 * k + 2) f fd ["script"] (spP K 1 (T (k + 1)).law) :=
  fnP (N := N_law) (Fb := F_law (T k)) F sc_law fun cdv A outer s H E hr => by
    have nd := sc_law.nd
    have hr0 := hr.mono (show 2 * k ≤ 2 * k + 1 by omega)
    have hu := room65 hr
    exact ss_cons (SS 1 nd (e_obj (LP C.f__law_draws hr0 (AC (V 0) (AC (e_int) (a_nil))))))
        (ss_cons (SO .never (I_range1 C.b_range (AC (e_int) (a_nil))) (GN 2 nd) (ss_cons (SP 3 4 nd (AC (CS C.f__law_tree hr0 (AC (V 1) (AC (e_int) (a_nil)))) (AC (CS C.f__law_tree hr0 (AC (V 1) (AC (e_int) (a_nil)))) (a_nil))))
        (ss_cons (SS 5 nd (e_tup (AC (e_tup (AC (BO or_add ov_add (e_int) (CS C.f__law_take hr0 (AC (V 1) (AC (e_int) (a_nil))))) (AC (e_tup (AC (e_str) (AC (e_str) (a_nil)))) (a_nil)))) (AC (e_tup (AC (BO or_add ov_add (e_int) (CS C.f__law_take hr0 (AC (V 1) (AC (e_int) (a_nil))))) (AC (e_tup (AC (e_str) (AC (e_str) (AC (e_str) (a_nil))))) (a_nil)))) (a_nil)))))
        (ss_cons (SA (CP C.f__law_forms hr0 (AC (V 3) (a_nil))) (GT (GS (GN 6 nd) (GS (GN 7 nd) (gs_nil)))))
        (ss_cons (SA (CP C.f_least_cover hr0 (AC (V 3) (AC (V 5) (a_nil)))) (GT (GS (GN 8 nd) (GS (GN 9 nd) (gs_nil)))))
        (ss_cons (s_if (PW.pt (t_or (CT (or_ne hu) ov_ne (V 8) (BO or_add ov_add (BO op_mul ov_mul (V 6) (IX (IX (V 5) (e_int)) (e_int))) (BO op_mul ov_mul (V 7) (IX (IX (V 5) (e_int)) (e_int))))) (t_or1 (CT (or_ne hu) ov_ne (CP C.f_cover_cost hr0 (AC (V 3) (AC (V 5) (AC (V 9) (a_nil))))) (V 8))))) (ss_cons (s_ret (e_bl))
        (ss_nil)) (ss_nil))
        (ss_cons (SP 10 11 nd (AC (V 5) (AC (V 8) (a_nil))))
        (ss_cons (SO .never (I_range1 C.b_range (AC (e_int) (a_nil))) (GN 12 nd) (ss_cons (SS 10 nd (BO or_add ov_add (V 10) (e_tup (AC (e_tup (AC (CS C.f__law_take hr0 (AC (V 1) (AC (e_int) (a_nil)))) (AC (CS C.f__law_pattern hr0 (AC (V 1) (AC (e_int) (a_nil)))) (a_nil)))) (a_nil)))))
        (ss_cons (SA (CP C.f_least_cover hr0 (AC (V 3) (AC (V 10) (a_nil)))) (GT (GS (GN 13 nd) (GS (GN 14 nd) (gs_nil)))))
        (ss_cons (s_if (PW.pt (t_or (CT op_gt ov_gt (V 13) (V 11)) (t_or (CT (or_ne hu) ov_ne (CP C.f_cover_cost hr0 (AC (V 3) (AC (V 10) (AC (V 14) (a_nil))))) (V 13)) (t_or1 (CT (or_ne hu) ov_ne (CP C.f_cover_cost hr0 (AC (V 3) (AC (V 10) (AC (V 9) (a_nil))))) (V 8)))))) (ss_cons (s_ret (e_bl))
        (ss_nil)) (ss_nil))
        (ss_cons (SS 11 nd (V 13))
        (ss_nil))))))
        (ss_cons (SS 15 nd (BO or_add ov_add (e_int) (CS C.f__law_take hr0 (AC (V 1) (AC (e_int) (a_nil))))))
        (ss_cons (s_if (CT (or_ne hu) ov_ne (IX (CP C.f_least_cover hr0 (AC (V 3) (AC (B_tuple C.b_tuple (AC (e_val (LC [("price", 17), ("pattern", 18)] nd (by kernel_rfl) (i_seq (V 10)) (fun _ _ _ _ _ => GT (GS (GN 17 nd) (GS (GN 18 nd) (gs_nil)))) (fun _ _ _ _ _ => ts_nil) (fun _ _ _ _ _ => e_tup (AC (BO op_mul ov_mul (V 15) (V 17)) (AC (V 18) (a_nil)))))) (a_nil))) (a_nil)))) (e_int)) (BO op_mul ov_mul (V 15) (V 11))) (ss_cons (s_ret (e_bl))
        (ss_nil)) (ss_nil))
        (ss_cons (s_if (PW.pt (t_or (CT (or_ne hu) ov_ne (IX (CP C.f_least_cover hr0 (AC (CS C.f__law_turned hr0 (AC (V 1) (AC (V 3) (a_nil)))) (AC (V 10) (a_nil)))) (e_int)) (V 11)) (t_or1 (CT (or_ne hu) ov_ne (IX (CP C.f_least_cover hr0 (AC (V 3) (AC (e_revT (V 10)) (a_nil)))) (e_int)) (V 11))))) (ss_cons (s_ret (e_bl))
        (ss_nil)) (ss_nil))
        (ss_cons (SS 16 nd (CP C.f__law_put hr0 (AC (V 3) (AC (e_int) (AC (V 4) (a_nil))))))
        (ss_cons (s_if (CT op_gt ov_gt (IX (CP C.f_least_cover hr0 (AC (V 16) (AC (V 10) (a_nil)))) (e_int)) (BO or_add ov_add (V 11) (BO op_mul ov_mul (CP C.f__law_leaves hr0 (AC (V 3) (AC (e_int) (a_nil)))) (IX (CP C.f_least_cover hr0 (AC (V 4) (AC (V 10) (a_nil)))) (e_int))))) (ss_cons (s_ret (e_bl))
        (ss_nil)) (ss_nil))
        (ss_cons (s_if (CT (or_ne hu) ov_ne (IX (CP C.f_least_cover hr0 (AC (V 16) (AC (V 5) (a_nil)))) (e_int)) (BO or_add ov_add (V 8) (BO op_mul ov_mul (CP C.f__law_leaves hr0 (AC (V 3) (AC (e_int) (a_nil)))) (IX (CP C.f_least_cover hr0 (AC (V 4) (AC (V 5) (a_nil)))) (e_int))))) (ss_cons (s_ret (e_bl))
        (ss_nil)) (ss_nil))
        (ss_cons (s_if (PW.pt (t_or (CT op_gt ov_gt (IX (CP C.f_least_cover hr0 (AC (e_tup (AC (e_str) (AC (V 3) (a_nil)))) (AC (V 10) (a_nil)))) (e_int)) (BO or_add ov_add (V 11) (IX (IX (V 5) (e_int)) (e_int)))) (t_or1 (CT op_gt ov_gt (IX (CP C.f_least_cover hr0 (AC (e_tup (AC (e_str) (AC (V 3) (AC (V 4) (a_nil))))) (AC (V 10) (a_nil)))) (e_int)) (BO or_add ov_add (BO or_add ov_add (V 11) (IX (CP C.f_least_cover hr0 (AC (V 4) (AC (V 10) (a_nil)))) (e_int))) (IX (IX (V 5) (e_int)) (e_int))))))) (ss_cons (s_ret (e_bl))
        (ss_nil)) (ss_nil))
        (ss_nil))))))))))))))))
        (ss_cons (s_ret (e_bl))
        (ss_nil)))
end
/-! ### the head -/
def d_is_number : He.DefD := ⟨("is_number", none), "is_number", "is_number", defArgs st_is_number, defBody st_is_number, defScope st_is_number, [], []⟩
def d_forms_in : He.DefD := ⟨("forms_in", none), "forms_in", "forms_in", defArgs st_forms_in, defBody st_forms_in, defScope st_forms_in, [], []⟩
def d_is_pattern : He.DefD := ⟨("is_pattern", none), "is_pattern", "is_pattern", defArgs st_is_pattern, defBody st_is_pattern, defScope st_is_pattern, [], []⟩
def d_check_asked : He.DefD := ⟨("check_asked", none), "check_asked", "check_asked", defArgs st_check_asked, defBody st_check_asked, defScope st_check_asked, [], []⟩
def d_left_by : He.DefD := ⟨("left_by", none), "left_by", "left_by", defArgs st_left_by, defBody st_left_by, defScope st_left_by, [], []⟩
def d_Cheapest_init : He.DefD := ⟨("Cheapest", some ("__init__")), "__init__", "Cheapest.__init__", defArgs st_Cheapest_init, defBody st_Cheapest_init, defScope st_Cheapest_init, [], []⟩
def d_Cheapest_of : He.DefD := ⟨("Cheapest", some ("of")), "of", "Cheapest.of", defArgs st_Cheapest_of, defBody st_Cheapest_of, defScope st_Cheapest_of, [], []⟩
def d_least_cover : He.DefD := ⟨("least_cover", none), "least_cover", "least_cover", defArgs st_least_cover, defBody st_least_cover, defScope st_least_cover, [], []⟩
def d_cost_by : He.DefD := ⟨("cost_by", none), "cost_by", "cost_by", defArgs st_cost_by, defBody st_cost_by, defScope st_cost_by, [], []⟩
def d_cover_cost : He.DefD := ⟨("cover_cost", none), "cover_cost", "cover_cost", defArgs st_cover_cost, defBody st_cover_cost, defScope st_cover_cost, [], []⟩
def d__law_draws : He.DefD := ⟨("_law_draws", none), "_law_draws", "_law_draws", defArgs st__law_draws, defBody st__law_draws, defScope st__law_draws, [], []⟩
def d__law_take : He.DefD := ⟨("_law_take", none), "_law_take", "_law_take", defArgs st__law_take, defBody st__law_take, defScope st__law_take, [], []⟩
def d__law_same : He.DefD := ⟨("_law_same", none), "_law_same", "_law_same", defArgs st__law_same, defBody st__law_same, defScope st__law_same, [], []⟩
def d__law_tree : He.DefD := ⟨("_law_tree", none), "_law_tree", "_law_tree", defArgs st__law_tree, defBody st__law_tree, defScope st__law_tree, [], []⟩
def d__law_pattern : He.DefD := ⟨("_law_pattern", none), "_law_pattern", "_law_pattern", defArgs st__law_pattern, defBody st__law_pattern, defScope st__law_pattern, [], []⟩
def d__law_forms : He.DefD := ⟨("_law_forms", none), "_law_forms", "_law_forms", defArgs st__law_forms, defBody st__law_forms, defScope st__law_forms, [], []⟩
def d__law_turned : He.DefD := ⟨("_law_turned", none), "_law_turned", "_law_turned", defArgs st__law_turned, defBody st__law_turned, defScope st__law_turned, [], []⟩
def d__law_put : He.DefD := ⟨("_law_put", none), "_law_put", "_law_put", defArgs st__law_put, defBody st__law_put, defScope st__law_put, [], []⟩
def d__law_leaves : He.DefD := ⟨("_law_leaves", none), "_law_leaves", "_law_leaves", defArgs st__law_leaves, defBody st__law_leaves, defScope st__law_leaves, [], []⟩
def d_law : He.DefD := ⟨("law", none), "law", "law", defArgs st_law, defBody st_law, defScope st_law, [], []⟩
def fn : List He.DefD := [d_is_number, d_forms_in, d_is_pattern, d_check_asked, d_left_by, d_Cheapest_init, d_Cheapest_of, d_least_cover, d_cost_by, d_cover_cost, d__law_draws, d__law_take, d__law_same, d__law_tree, d__law_pattern, d__law_forms, d__law_turned, d__law_put, d__law_leaves, d_law]
def fa : List He.Fa := [.glo "is_number", .glo "forms_in", .glo "is_pattern", .glo "check_asked", .glo "left_by", .glo "least_cover", .glo "cost_by", .glo "cover_cost", .glo "_law_draws", .glo "_law_take", .glo "_law_same", .glo "_law_tree", .glo "_law_pattern", .glo "_law_forms", .glo "_law_turned", .glo "_law_put", .glo "_law_leaves", .glo "law", .glo "Cheapest", .cls "Cheapest", .mkr "Cheapest", .meth "Cheapest" "of", .noat "Cheapest" "known", .noat "Cheapest" "library", .free "all", .free "bool", .free "dict", .free "enumerate", .free "int", .free "isinstance", .free "len", .free "list", .free "range", .free "str", .free "sum", .free "tuple", .free "zip"]
def ex (K : PySem.W.Frag) : Bool := conB K "MOST_COST" k_MOST_COST && conB K "MOST_FORMS" k_MOST_FORMS && conB K "MOST_PATTERNS" k_MOST_PATTERNS && conB K "NEEDED" k_NEEDED
theorem bi_is_number {K : PySem.W.Frag} {f : Addr} {fd : FuncData} (F : FnD K "is_number" "is_number" st_is_number f fd) : Binds K fd ["thing"] [] := FunD.bindsN F fun _ _ _ _ _ _ us hl => match us, hl with | [_], _ => rfl
theorem bi_forms_in {K : PySem.W.Frag} {f : Addr} {fd : FuncData} (F : FnD K "forms_in" "forms_in" st_forms_in f fd) : Binds K fd ["tree"] [] := FunD.bindsN F fun _ _ _ _ _ _ us hl => match us, hl with | [_], _ => rfl
theorem bi_is_pattern {K : PySem.W.Frag} {f : Addr} {fd : FuncData} (F : FnD K "is_pattern" "is_pattern" st_is_pattern f fd) : Binds K fd ["pattern"] [] := FunD.bindsN F fun _ _ _ _ _ _ us hl => match us, hl with | [_], _ => rfl
theorem bi_check_asked {K : PySem.W.Frag} {f : Addr} {fd : FuncData} (F : FnD K "check_asked" "check_asked" st_check_asked f fd) : Binds K fd ["tree", "library"] [] := FunD.bindsN F fun _ _ _ _ _ _ us hl => match us, hl with | [_, _], _ => rfl
theorem bi_left_by {K : PySem.W.Frag} {f : Addr} {fd : FuncData} (F : FnD K "left_by" "left_by" st_left_by f fd) : Binds K fd ["pattern", "tree"] [] := FunD.bindsN F fun _ _ _ _ _ _ us hl => match us, hl with | [_, _], _ => rfl
theorem bi_Cheapest_init {K : PySem.W.Frag} {f : Addr} {fd : FuncData} (F : FnD K "__init__" "Cheapest.__init__" st_Cheapest_init f fd) : Binds K fd ["self", "library"] [] := FunD.bindsN F fun _ _ _ _ _ _ us hl => match us, hl with | [_, _], _ => rfl
theorem bi_Cheapest_of {K : PySem.W.Frag} {f : Addr} {fd : FuncData} (F : FnD K "of" "Cheapest.of" st_Cheapest_of f fd) : Binds K fd ["self", "tree"] [] := FunD.bindsN F fun _ _ _ _ _ _ us hl => match us, hl with | [_, _], _ => rfl
theorem bi_least_cover {K : PySem.W.Frag} {f : Addr} {fd : FuncData} (F : FnD K "least_cover" "least_cover" st_least_cover f fd) : Binds K fd ["tree", "library"] [] := FunD.bindsN F fun _ _ _ _ _ _ us hl => match us, hl with | [_, _], _ => rfl
theorem bi_cost_by {K : PySem.W.Frag} {f : Addr} {fd : FuncData} (F : FnD K "cost_by" "cost_by" st_cost_by f fd) : Binds K fd ["tree", "library", "cover"] [] := FunD.bindsN F fun _ _ _ _ _ _ us hl => match us, hl with | [_, _, _], _ => rfl
theorem bi_cover_cost {K : PySem.W.Frag} {f : Addr} {fd : FuncData} (F : FnD K "cover_cost" "cover_cost" st_cover_cost f fd) : Binds K fd ["tree", "library", "cover"] [] := FunD.bindsN F fun _ _ _ _ _ _ us hl => match us, hl with | [_, _, _], _ => rfl
theorem bi__law_draws {K : PySem.W.Frag} {f : Addr} {fd : FuncData} (F : FnD K "_law_draws" "_law_draws" st__law_draws f fd) : Binds K fd ["script", "count"] [] := FunD.bindsN F fun _ _ _ _ _ _ us hl => match us, hl with | [_, _], _ => rfl
theorem bi__law_take {K : PySem.W.Frag} {f : Addr} {fd : FuncData} (F : FnD K "_law_take" "_law_take" st__law_take f fd) : Binds K fd ["draws", "limit"] [] := FunD.bindsN F fun _ _ _ _ _ _ us hl => match us, hl with | [_, _], _ => rfl
theorem bi__law_same {K : PySem.W.Frag} {f : Addr} {fd : FuncData} (F : FnD K "_law_same" "_law_same" st__law_same f fd) : Binds K fd ["found", "due"] [] := FunD.bindsN F fun _ _ _ _ _ _ us hl => match us, hl with | [_, _], _ => rfl
theorem bi__law_tree {K : PySem.W.Frag} {f : Addr} {fd : FuncData} (F : FnD K "_law_tree" "_law_tree" st__law_tree f fd) : Binds K fd ["draws", "deep"] [] := FunD.bindsN F fun _ _ _ _ _ _ us hl => match us, hl with | [_, _], _ => rfl
theorem bi__law_pattern {K : PySem.W.Frag} {f : Addr} {fd : FuncData} (F : FnD K "_law_pattern" "_law_pattern" st__law_pattern f fd) : Binds K fd ["draws", "deep"] [] := FunD.bindsN F fun _ _ _ _ _ _ us hl => match us, hl with | [_, _], _ => rfl
theorem bi__law_forms {K : PySem.W.Frag} {f : Addr} {fd : FuncData} (F : FnD K "_law_forms" "_law_forms" st__law_forms f fd) : Binds K fd ["tree"] [] := FunD.bindsN F fun _ _ _ _ _ _ us hl => match us, hl with | [_], _ => rfl
theorem bi__law_turned {K : PySem.W.Frag} {f : Addr} {fd : FuncData} (F : FnD K "_law_turned" "_law_turned" st__law_turned f fd) : Binds K fd ["draws", "tree"] [] := FunD.bindsN F fun _ _ _ _ _ _ us hl => match us, hl with | [_, _], _ => rfl
theorem bi__law_put {K : PySem.W.Frag} {f : Addr} {fd : FuncData} (F : FnD K "_law_put" "_law_put" st__law_put f fd) : Binds K fd ["tree", "leaf", "inner"] [] := FunD.bindsN F fun _ _ _ _ _ _ us hl => match us, hl with | [_, _, _], _ => rfl
theorem bi__law_leaves {K : PySem.W.Frag} {f : Addr} {fd : FuncData} (F : FnD K "_law_leaves" "_law_leaves" st__law_leaves f fd) : Binds K fd ["tree", "leaf"] [] := FunD.bindsN F fun _ _ _ _ _ _ us hl => match us, hl with | [_, _], _ => rfl
theorem bi_law {K : PySem.W.Frag} {f : Addr} {fd : FuncData} (F : FnD K "law" "law" st_law f fd) : Binds K fd ["script"] [] := FunD.bindsN F fun _ _ _ _ _ _ us hl => match us, hl with | [_], _ => rfl
section
variable {P : Program} {w : World} {K : PySem.W.Frag} {mg : Str → Option Value} {base h : Heap}
theorem ct (X : K.In h) (G : h.Ns mainGlobals mg) (c : He.SaysD fa fn K) (cx : ex K = true) : ∀ k : Nat, Ct P w K mg base k
  | 0 => {
      b_all := He.free_ok X G (c.fact 24 (f := .free "all") rfl)
      b_bool := He.free_ok X G (c.fact 25 (f := .free "bool") rfl)
      b_dict := He.free_ok X G (c.fact 26 (f := .free "dict") rfl)
      b_enumerate := He.free_ok X G (c.fact 27 (f := .free "enumerate") rfl)
      b_int := He.free_ok X G (c.fact 28 (f := .free "int") rfl)
      b_isinstance := He.free_ok X G (c.fact 29 (f := .free "isinstance") rfl)
      b_len := He.free_ok X G (c.fact 30 (f := .free "len") rfl)
      b_list := He.free_ok X G (c.fact 31 (f := .free "list") rfl)
      b_range := He.free_ok X G (c.fact 32 (f := .free "range") rfl)
      b_str := He.free_ok X G (c.fact 33 (f := .free "str") rfl)
      b_sum := He.free_ok X G (c.fact 34 (f := .free "sum") rfl)
      b_tuple := He.free_ok X G (c.fact 35 (f := .free "tuple") rfl)
      b_zip := He.free_ok X G (c.fact 36 (f := .free "zip") rfl)
      c_MOST_COST := con_of X G (by unfold ex at cx; simp only [Bool.and_eq_true] at cx; simp only [cx])
      c_MOST_FORMS := con_of X G (by unfold ex at cx; simp only [Bool.and_eq_true] at cx; simp only [cx])
      c_MOST_PATTERNS := con_of X G (by unfold ex at cx; simp only [Bool.and_eq_true] at cx; simp only [cx])
      c_NEEDED := con_of X G (by unfold ex at cx; simp only [Bool.and_eq_true] at cx; simp only [cx])
      k_Cheapest := He.cls_ok (c.fact 19 (f := .cls "Cheapest") rfl)
      na_known := fun z hz => by
        simp only [List.mem_cons, List.not_mem_nil, or_false] at hz
        subst hz
        exact He.noat_ok (c.fact 22 (f := .noat "Cheapest" "known") rfl)
      na_library := fun z hz => by
        simp only [List.mem_cons, List.not_mem_nil, or_false] at hz
        subst hz
        exact He.noat_ok (c.fact 23 (f := .noat "Cheapest" "library") rfl)
      f_is_number := ⟨by
        obtain ⟨fd, F⟩ := c.def_ 0 (d := d_is_number) rfl
        exact ⟨_, fd, ["thing"], fn0P, He.glo_ok X G (c.fact 0 (f := .glo "is_number") rfl), F.kp, bi_is_number F⟩⟩
      f_forms_in := ⟨by
        obtain ⟨fd, F⟩ := c.def_ 1 (d := d_forms_in) rfl
        exact ⟨_, fd, ["tree"], fn0P, He.glo_ok X G (c.fact 1 (f := .glo "forms_in") rfl), F.kp, bi_forms_in F⟩⟩
      f_is_pattern := ⟨by
        obtain ⟨fd, F⟩ := c.def_ 2 (d := d_is_pattern) rfl
        exact ⟨_, fd, ["pattern"], fn0P, He.glo_ok X G (c.fact 2 (f := .glo "is_pattern") rfl), F.kp, bi_is_pattern F⟩⟩
      f_check_asked := ⟨by
        obtain ⟨fd, F⟩ := c.def_ 3 (d := d_check_asked) rfl
        exact ⟨_, fd, ["tree", "library"], fn0P, He.glo_ok X G (c.fact 3 (f := .glo "check_asked") rfl), F.kp, bi_check_asked F⟩⟩
      f_left_by := ⟨by
        obtain ⟨fd, F⟩ := c.def_ 4 (d := d_left_by) rfl
        exact ⟨_, fd, ["pattern", "tree"], fn0P, He.glo_ok X G (c.fact 4 (f := .glo "left_by") rfl), F.kp, bi_left_by F⟩⟩
      m_Cheapest_init := ⟨by
        obtain ⟨fd, F⟩ := c.def_ 5 (d := d_Cheapest_init) rfl
        exact ⟨_, fd, ["self", "library"], He.mkr_ok (c.fact 20 (f := .mkr "Cheapest") rfl), fn0S, He.glo_ok X G (c.fact 18 (f := .glo "Cheapest") rfl), bi_Cheapest_init F⟩⟩
      m_Cheapest_of := ⟨by
        obtain ⟨fd, F⟩ := c.def_ 6 (d := d_Cheapest_of) rfl
        exact ⟨_, fd, ["self", "tree"], He.cls_ok (c.fact 19 (f := .cls "Cheapest") rfl), He.meth_ok (c.fact 21 (f := .meth "Cheapest" "of") rfl), fn0S, bi_Cheapest_of F⟩⟩
      f_least_cover := ⟨by
        obtain ⟨fd, F⟩ := c.def_ 7 (d := d_least_cover) rfl
        exact ⟨_, fd, ["tree", "library"], fn0P, He.glo_ok X G (c.fact 5 (f := .glo "least_cover") rfl), F.kp, bi_least_cover F⟩⟩
      f_cost_by := ⟨by
        obtain ⟨fd, F⟩ := c.def_ 8 (d := d_cost_by) rfl
        exact ⟨_, fd, ["tree", "library", "cover"], fn0P, He.glo_ok X G (c.fact 6 (f := .glo "cost_by") rfl), F.kp, bi_cost_by F⟩⟩
      f_cover_cost := ⟨by
        obtain ⟨fd, F⟩ := c.def_ 9 (d := d_cover_cost) rfl
        exact ⟨_, fd, ["tree", "library", "cover"], fn0P, He.glo_ok X G (c.fact 7 (f := .glo "cover_cost") rfl), F.kp, bi_cover_cost F⟩⟩
      f__law_draws := ⟨by
        obtain ⟨fd, F⟩ := c.def_ 10 (d := d__law_draws) rfl
        exact ⟨_, fd, ["script", "count"], fn0P, He.glo_ok X G (c.fact 8 (f := .glo "_law_draws") rfl), F.kp, bi__law_draws F⟩⟩
      f__law_take := ⟨by
        obtain ⟨fd, F⟩ := c.def_ 11 (d := d__law_take) rfl
        exact ⟨_, fd, ["draws", "limit"], fn0S, He.glo_ok X G (c.fact 9 (f := .glo "_law_take") rfl), F.kp, bi__law_take F⟩⟩
      f__law_same := ⟨by
        obtain ⟨fd, F⟩ := c.def_ 12 (d := d__law_same) rfl
        exact ⟨_, fd, ["found", "due"], fn0P, He.glo_ok X G (c.fact 10 (f := .glo "_law_same") rfl), F.kp, bi__law_same F⟩⟩
      f__law_tree := ⟨by
        obtain ⟨fd, F⟩ := c.def_ 13 (d := d__law_tree) rfl
        exact ⟨_, fd, ["draws", "deep"], fn0S, He.glo_ok X G (c.fact 11 (f := .glo "_law_tree") rfl), F.kp, bi__law_tree F⟩⟩
      f__law_pattern := ⟨by
        obtain ⟨fd, F⟩ := c.def_ 14 (d := d__law_pattern) rfl
        exact ⟨_, fd, ["draws", "deep"], fn0S, He.glo_ok X G (c.fact 12 (f := .glo "_law_pattern") rfl), F.kp, bi__law_pattern F⟩⟩
      f__law_forms := ⟨by
        obtain ⟨fd, F⟩ := c.def_ 15 (d := d__law_forms) rfl
        exact ⟨_, fd, ["tree"], fn0P, He.glo_ok X G (c.fact 13 (f := .glo "_law_forms") rfl), F.kp, bi__law_forms F⟩⟩
      f__law_turned := ⟨by
        obtain ⟨fd, F⟩ := c.def_ 16 (d := d__law_turned) rfl
        exact ⟨_, fd, ["draws", "tree"], fn0S, He.glo_ok X G (c.fact 14 (f := .glo "_law_turned") rfl), F.kp, bi__law_turned F⟩⟩
      f__law_put := ⟨by
        obtain ⟨fd, F⟩ := c.def_ 17 (d := d__law_put) rfl
        exact ⟨_, fd, ["tree", "leaf", "inner"], fn0P, He.glo_ok X G (c.fact 15 (f := .glo "_law_put") rfl), F.kp, bi__law_put F⟩⟩
      f__law_leaves := ⟨by
        obtain ⟨fd, F⟩ := c.def_ 18 (d := d__law_leaves) rfl
        exact ⟨_, fd, ["tree", "leaf"], fn0P, He.glo_ok X G (c.fact 16 (f := .glo "_law_leaves") rfl), F.kp, bi__law_leaves F⟩⟩
      f_law := ⟨by
        obtain ⟨fd, F⟩ := c.def_ 19 (d := d_law) rfl
        exact ⟨_, fd, ["script"], fn0P, He.glo_ok X G (c.fact 17 (f := .glo "law") rfl), F.kp, bi_law F⟩⟩
    }
  | k + 1 => by
    have C := ct X G c cx k
    exact {
      b_all := He.free_ok X G (c.fact 24 (f := .free "all") rfl)
      b_bool := He.free_ok X G (c.fact 25 (f := .free "bool") rfl)
      b_dict := He.free_ok X G (c.fact 26 (f := .free "dict") rfl)
      b_enumerate := He.free_ok X G (c.fact 27 (f := .free "enumerate") rfl)
      b_int := He.free_ok X G (c.fact 28 (f := .free "int") rfl)
      b_isinstance := He.free_ok X G (c.fact 29 (f := .free "isinstance") rfl)
      b_len := He.free_ok X G (c.fact 30 (f := .free "len") rfl)
      b_list := He.free_ok X G (c.fact 31 (f := .free "list") rfl)
      b_range := He.free_ok X G (c.fact 32 (f := .free "range") rfl)
      b_str := He.free_ok X G (c.fact 33 (f := .free "str") rfl)
      b_sum := He.free_ok X G (c.fact 34 (f := .free "sum") rfl)
      b_tuple := He.free_ok X G (c.fact 35 (f := .free "tuple") rfl)
      b_zip := He.free_ok X G (c.fact 36 (f := .free "zip") rfl)
      c_MOST_COST := con_of X G (by unfold ex at cx; simp only [Bool.and_eq_true] at cx; simp only [cx])
      c_MOST_FORMS := con_of X G (by unfold ex at cx; simp only [Bool.and_eq_true] at cx; simp only [cx])
      c_MOST_PATTERNS := con_of X G (by unfold ex at cx; simp only [Bool.and_eq_true] at cx; simp only [cx])
      c_NEEDED := con_of X G (by unfold ex at cx; simp only [Bool.and_eq_true] at cx; simp only [cx])
      k_Cheapest := He.cls_ok (c.fact 19 (f := .cls "Cheapest") rfl)
      na_known := fun z hz => by
        simp only [List.mem_cons, List.not_mem_nil, or_false] at hz
        subst hz
        exact He.noat_ok (c.fact 22 (f := .noat "Cheapest" "known") rfl)
      na_library := fun z hz => by
        simp only [List.mem_cons, List.not_mem_nil, or_false] at hz
        subst hz
        exact He.noat_ok (c.fact 23 (f := .noat "Cheapest" "library") rfl)
      f_is_number := ⟨by
        obtain ⟨fd, F⟩ := c.def_ 0 (d := d_is_number) rfl
        exact ⟨_, fd, ["thing"], ok_is_number C F, He.glo_ok X G (c.fact 0 (f := .glo "is_number") rfl), F.kp, bi_is_number F⟩⟩
      f_forms_in := ⟨by
        obtain ⟨fd, F⟩ := c.def_ 1 (d := d_forms_in) rfl
        exact ⟨_, fd, ["tree"], ok_forms_in C F, He.glo_ok X G (c.fact 1 (f := .glo "forms_in") rfl), F.kp, bi_forms_in F⟩⟩
      f_is_pattern := ⟨by
        obtain ⟨fd, F⟩ := c.def_ 2 (d := d_is_pattern) rfl
        exact ⟨_, fd, ["pattern"], ok_is_pattern C F, He.glo_ok X G (c.fact 2 (f := .glo "is_pattern") rfl), F.kp, bi_is_pattern F⟩⟩
      f_check_asked := ⟨by
        obtain ⟨fd, F⟩ := c.def_ 3 (d := d_check_asked) rfl
        exact ⟨_, fd, ["tree", "library"], ok_check_asked C F, He.glo_ok X G (c.fact 3 (f := .glo "check_asked") rfl), F.kp, bi_check_asked F⟩⟩
      f_left_by := ⟨by
        obtain ⟨fd, F⟩ := c.def_ 4 (d := d_left_by) rfl
        exact ⟨_, fd, ["pattern", "tree"], ok_left_by C F, He.glo_ok X G (c.fact 4 (f := .glo "left_by") rfl), F.kp, bi_left_by F⟩⟩
      m_Cheapest_init := ⟨by
        obtain ⟨fd, F⟩ := c.def_ 5 (d := d_Cheapest_init) rfl
        exact ⟨_, fd, ["self", "library"], He.mkr_ok (c.fact 20 (f := .mkr "Cheapest") rfl), ok_Cheapest_init C F, He.glo_ok X G (c.fact 18 (f := .glo "Cheapest") rfl), bi_Cheapest_init F⟩⟩
      m_Cheapest_of := ⟨by
        obtain ⟨fd, F⟩ := c.def_ 6 (d := d_Cheapest_of) rfl
        exact ⟨_, fd, ["self", "tree"], He.cls_ok (c.fact 19 (f := .cls "Cheapest") rfl), He.meth_ok (c.fact 21 (f := .meth "Cheapest" "of") rfl), ok_Cheapest_of C F, bi_Cheapest_of F⟩⟩
      f_least_cover := ⟨by
        obtain ⟨fd, F⟩ := c.def_ 7 (d := d_least_cover) rfl
        exact ⟨_, fd, ["tree", "library"], ok_least_cover C F, He.glo_ok X G (c.fact 5 (f := .glo "least_cover") rfl), F.kp, bi_least_cover F⟩⟩
      f_cost_by := ⟨by
        obtain ⟨fd, F⟩ := c.def_ 8 (d := d_cost_by) rfl
        exact ⟨_, fd, ["tree", "library", "cover"], ok_cost_by C F, He.glo_ok X G (c.fact 6 (f := .glo "cost_by") rfl), F.kp, bi_cost_by F⟩⟩
      f_cover_cost := ⟨by
        obtain ⟨fd, F⟩ := c.def_ 9 (d := d_cover_cost) rfl
        exact ⟨_, fd, ["tree", "library", "cover"], ok_cover_cost C F, He.glo_ok X G (c.fact 7 (f := .glo "cover_cost") rfl), F.kp, bi_cover_cost F⟩⟩
      f__law_draws := ⟨by
        obtain ⟨fd, F⟩ := c.def_ 10 (d := d__law_draws) rfl
        exact ⟨_, fd, ["script", "count"], ok__law_draws C F, He.glo_ok X G (c.fact 8 (f := .glo "_law_draws") rfl), F.kp, bi__law_draws F⟩⟩
      f__law_take := ⟨by
        obtain ⟨fd, F⟩ := c.def_ 11 (d := d__law_take) rfl
        exact ⟨_, fd, ["draws", "limit"], ok__law_take C F, He.glo_ok X G (c.fact 9 (f := .glo "_law_take") rfl), F.kp, bi__law_take F⟩⟩
      f__law_same := ⟨by
        obtain ⟨fd, F⟩ := c.def_ 12 (d := d__law_same) rfl
        exact ⟨_, fd, ["found", "due"], ok__law_same C F, He.glo_ok X G (c.fact 10 (f := .glo "_law_same") rfl), F.kp, bi__law_same F⟩⟩
      f__law_tree := ⟨by
        obtain ⟨fd, F⟩ := c.def_ 13 (d := d__law_tree) rfl
        exact ⟨_, fd, ["draws", "deep"], ok__law_tree C F, He.glo_ok X G (c.fact 11 (f := .glo "_law_tree") rfl), F.kp, bi__law_tree F⟩⟩
      f__law_pattern := ⟨by
        obtain ⟨fd, F⟩ := c.def_ 14 (d := d__law_pattern) rfl
        exact ⟨_, fd, ["draws", "deep"], ok__law_pattern C F, He.glo_ok X G (c.fact 12 (f := .glo "_law_pattern") rfl), F.kp, bi__law_pattern F⟩⟩
      f__law_forms := ⟨by
        obtain ⟨fd, F⟩ := c.def_ 15 (d := d__law_forms) rfl
        exact ⟨_, fd, ["tree"], ok__law_forms C F, He.glo_ok X G (c.fact 13 (f := .glo "_law_forms") rfl), F.kp, bi__law_forms F⟩⟩
      f__law_turned := ⟨by
        obtain ⟨fd, F⟩ := c.def_ 16 (d := d__law_turned) rfl
        exact ⟨_, fd, ["draws", "tree"], ok__law_turned C F, He.glo_ok X G (c.fact 14 (f := .glo "_law_turned") rfl), F.kp, bi__law_turned F⟩⟩
      f__law_put := ⟨by
        obtain ⟨fd, F⟩ := c.def_ 17 (d := d__law_put) rfl
        exact ⟨_, fd, ["tree", "leaf", "inner"], ok__law_put C F, He.glo_ok X G (c.fact 15 (f := .glo "_law_put") rfl), F.kp, bi__law_put F⟩⟩
      f__law_leaves := ⟨by
        obtain ⟨fd, F⟩ := c.def_ 18 (d := d__law_leaves) rfl
        exact ⟨_, fd, ["tree", "leaf"], ok__law_leaves C F, He.glo_ok X G (c.fact 16 (f := .glo "_law_leaves") rfl), F.kp, bi__law_leaves F⟩⟩
      f_law := ⟨by
        obtain ⟨fd, F⟩ := c.def_ 19 (d := d_law) rfl
        exact ⟨_, fd, ["script"], ok_law C F, He.glo_ok X G (c.fact 17 (f := .glo "law") rfl), F.kp, bi_law F⟩⟩
    }
end
end K61

namespace K61
open PySem PySem.Spec PyProof.Rows L2 Ev
/-! ### the run of the top -/
def loose : List Str := (["GateError", "MapError", "MOST_FORMS", "MOST_PATTERNS", "MOST_COST", "NEEDED", "is_number", "forms_in", "is_pattern", "check_asked", "left_by", "Cheapest", "least_cover", "cost_by", "cover_cost", "_law_draws", "_law_take", "_law_same", "_law_tree", "_law_pattern", "_law_forms", "_law_turned", "_law_put", "_law_leaves"] : List Str)
abbrev R : PySem.W.OpenRow := PySem.W.OpenLaw.row PySem.Challenge.rw_gateworks_k61_whole_costs_of_covers
abbrev hk : PySem.W.Hook := He.hookX 5 fa fn [] [] ex
def ob (s : PySem.W.SharedT) : He.AlX := He.obsX 5 fa fn [] [] ex (HandSHeadRun.getT s)
theorem ob_eq (s : PySem.W.SharedT) : ob s = hk.obs s.abs := He.obsX_eq (HandSHeadRun.getT_eq s)
theorem run (w : World) : HandSHeadRun.RunEq R (PySem.W.view R.prog [27]) hk ob 2000 loose w := by
  intro os
  kernel_rfl
theorem facts {w : World} {K : PySem.W.Frag} {h : Heap} {mg : Str → Option Value} {f : Addr} (X : K.In h) (G : h.Ns mainGlobals mg) (hfa : mg ("law" : Str) = some (.ref f)) (c : He.SaysD fa fn K) (cx : ex K = true) :
    ∃ fd : FuncData, (∀ (s : Shared) (v : Value), BindsTo s fd ⟨[v], []⟩ [("script", v)]) ∧ ∀ base : Heap, K.In base → base.Ns mainGlobals mg → FnOk PySem.Challenge.pw_gateworks_k61_whole_costs_of_covers w K mg base CX0 202 f fd ["script"] (spP K 1 (T 101).law) := by
  obtain ⟨fd, F⟩ := c.def_ 19 (d := d_law) rfl
  have e := hfa.symm.trans (He.glo_ok X G (c.fact 17 (f := .glo "law") rfl))
  cases e
  have b := FunD.bindsA (ps := ["script"]) F fun _ _ _ _ _ _ us hl => match us, hl with | [_], _ => rfl
  exact ⟨fd, fun s v => b s [v] rfl, fun base _ _ => ok_law (ct X G c cx 100) F⟩
theorem law_in {K : PySem.W.Frag} {H : Hp} {a : Addr} {ns : List Int} {v : D} {f : List D → Option PR} {E : XK} (hS : SqL K H a (ns.map V.int)) (e : f [.lst (ns.map D.int)] = some (.v v)) (hv : v = .bl true) : spP K 1 f [.ref a] H (fun v _ => v = .bl true) E := by
  have r : Reps K H [] (ns.map D.int) (ns.map V.int) := by
    clear hS e
    induction ns with
    | nil => exact .nil
    | cons i ns ih => exact .cons (.int i) ih
  refine ⟨[], [.lst (ns.map D.int)], .v v, (fun a h => by cases h), .cons ?_ .nil, rfl, e, fun u H' _ ru => ?_⟩
  · rcases hS with hS | hS
    · exact .lst hS (by simp) r
    · exact .lstK hS r
  · subst hv
    cases ru
    rfl
end K61

namespace K61
open PySem PySem.Spec PyProof.Rows L2 Ev

inductive Tr where
  | lf (i : Nat) | nt (a : Tr) | nd (a b : Tr)
deriving DecidableEq
inductive Pt where
  | ho | nt (a : Pt) | nd (a b : Pt)
deriving DecidableEq
def Tr.d : Tr → D
  | .lf i => .int i
  | .nt a => .tup [.str "not", a.d]
  | .nd a b => .tup [.str "nand", a.d, b.d]
def Pt.d : Pt → D
  | .ho => .str ""
  | .nt a => .tup [.str "not", a.d]
  | .nd a b => .tup [.str "nand", a.d, b.d]
def Tr.dep : Tr → Nat
  | .lf _ => 0
  | .nt a => a.dep + 1
  | .nd a b => max a.dep b.dep + 1
def Pt.dep : Pt → Nat
  | .ho => 0
  | .nt a => a.dep + 1
  | .nd a b => max a.dep b.dep + 1
def Tr.isLf : Tr → Bool
  | .lf _ => true
  | _ => false
def Tr.forms : Tr → Nat
  | .lf _ => 0
  | .nt a => a.forms + 1
  | .nd a b => a.forms + b.forms + 1
def Tr.kids : Tr → List Tr
  | .lf _ => []
  | .nt a => [a]
  | .nd a b => [a, b]
theorem num_lf {k : Nat} {i : Int} : (T (k + 1)).is_number [.int i] = some (.v (.bl true)) := by
  show (F_is_number (T k) [some (.d (.int i))] []).bind finP = _
  unfold F_is_number
  simp only [eC_, eTy_, eVar_0, eVar_s, eBin_, binJ_, binK_, aNil_, aCons_, consJ_, fMap_, mapK_, eCall_, lCall_, aDs_, dsK_, dsOf_nil, dsOf_cons, eTup_, eVal_, eObj_, fIf_, ifK_t, ifK_f, fTest_, tstK_, fTru_, vTru_bl, vTru_int, vTru_non, vTru_lst, vTru_tup, fAnd_, andK_t, andK_f, fOr_, orK_t, orK_f, fNot_, eAnd_, eandK_t, eandK_f, eOr_, eorK_t, eorK_f, eNot_, notK_, vAdd_i, vAddI_i, vSub_i, vLt_i, vLe_i, vGt_i, vGe_i, vEq_i, vNe_i, vIsN_non, vIsN_int, vIsN_bl, vIsN_str, vIsN_tup, vIsN_lst, vIx_t, vIx_l, atI_0, atI_1, atI_2, bLen_t, bLen_l, bInt_i, bInt_b, bIsi_int, bIsi_bl, bIsi_str, bIsi_tup, bIsi_lst, bIsi_non, is_ii, is_ib, is_it, is_bi, is_bb, is_tt, is_ti, is_tb, is_st, is_si, is_ss, is_nt, is_ll, is_lt, is_tl, bTup_l, bTup_t, bBools_l, bInts_l, eMl0_, eMl1_, oRev_, sNil_, sSeq_, seqK_nx, seqK_rt, seqK_bk, seqK_ct, sIf_, sifK_t, sifK_f, sAsg_, asgK_, gN_, gsNil_, gsCons_, sRet_, sRetN_, sExpr_, sPar_, parK_, eSeq_, srcOf_t, srcOf_l, oEnum_t, oEnum_l, oZip_t, oZip_l, eCallP_, oP1, oP2, oP3, prV_v, prV_l, eCallS_, eFld_, finP_n, finP_v, finS_n, finS_r, eSlT_, slK_1, drop_1, lLc_, wipe_n, wipe_c, lcGo_n, lcGo_c, lcB_t, lcB_f, lcC_, fTrue_, forK_, foGo_n, foGo_c, foK_nx, foK_ct, foK_bk, foK_rt, lkF_0, eChain_, chJ_, chK_, chL_t, chL_f, eMake_, makeJ_, eMeth_, sFld_, fldJ_, eNewX_, sSubX_, sxJ_, sxK_, decide_true, decide_false, lRev_, eRevT_, revTK_, lCallP_, obind_some, obind_none, omap_some, omap_none, List.getElem?_cons_zero, List.getElem?_cons_succ, set_0, set_s, if_true, if_false, Bool.false_eq_true, Bool.not_true, Bool.not_false]
theorem num_tup {k : Nat} {ds : List D} : (T (k + 1)).is_number [.tup ds] = some (.v (.bl false)) := by
  show (F_is_number (T k) [some (.d (.tup ds))] []).bind finP = _
  unfold F_is_number
  simp only [eC_, eTy_, eVar_0, eVar_s, eBin_, binJ_, binK_, aNil_, aCons_, consJ_, fMap_, mapK_, eCall_, lCall_, aDs_, dsK_, dsOf_nil, dsOf_cons, eTup_, eVal_, eObj_, fIf_, ifK_t, ifK_f, fTest_, tstK_, fTru_, vTru_bl, vTru_int, vTru_non, vTru_lst, vTru_tup, fAnd_, andK_t, andK_f, fOr_, orK_t, orK_f, fNot_, eAnd_, eandK_t, eandK_f, eOr_, eorK_t, eorK_f, eNot_, notK_, vAdd_i, vAddI_i, vSub_i, vLt_i, vLe_i, vGt_i, vGe_i, vEq_i, vNe_i, vIsN_non, vIsN_int, vIsN_bl, vIsN_str, vIsN_tup, vIsN_lst, vIx_t, vIx_l, atI_0, atI_1, atI_2, bLen_t, bLen_l, bInt_i, bInt_b, bIsi_int, bIsi_bl, bIsi_str, bIsi_tup, bIsi_lst, bIsi_non, is_ii, is_ib, is_it, is_bi, is_bb, is_tt, is_ti, is_tb, is_st, is_si, is_ss, is_nt, is_ll, is_lt, is_tl, bTup_l, bTup_t, bBools_l, bInts_l, eMl0_, eMl1_, oRev_, sNil_, sSeq_, seqK_nx, seqK_rt, seqK_bk, seqK_ct, sIf_, sifK_t, sifK_f, sAsg_, asgK_, gN_, gsNil_, gsCons_, sRet_, sRetN_, sExpr_, sPar_, parK_, eSeq_, srcOf_t, srcOf_l, oEnum_t, oEnum_l, oZip_t, oZip_l, eCallP_, oP1, oP2, oP3, prV_v, prV_l, eCallS_, eFld_, finP_n, finP_v, finS_n, finS_r, eSlT_, slK_1, drop_1, lLc_, wipe_n, wipe_c, lcGo_n, lcGo_c, lcB_t, lcB_f, lcC_, fTrue_, forK_, foGo_n, foGo_c, foK_nx, foK_ct, foK_bk, foK_rt, lkF_0, eChain_, chJ_, chK_, chL_t, chL_f, eMake_, makeJ_, eMeth_, sFld_, fldJ_, eNewX_, sSubX_, sxJ_, sxK_, decide_true, decide_false, lRev_, eRevT_, revTK_, lCallP_, obind_some, obind_none, omap_some, omap_none, List.getElem?_cons_zero, List.getElem?_cons_succ, set_0, set_s, if_true, if_false, Bool.false_eq_true, Bool.not_true, Bool.not_false]
theorem in_not {ng : Bool} {S : Sto} : vIn ng (.d (.tup [.str "not", .int ((2 : Nat) : Int)])) (.d (.tup [.tup [.str "not", .int 2], .tup [.str "nand", .int 3]])) S = some (.d (.bl (!ng))) := by
  cases ng <;> kernel_rfl
theorem in_nand {ng : Bool} {S : Sto} : vIn ng (.d (.tup [.str "nand", .int ((3 : Nat) : Int)])) (.d (.tup [.tup [.str "not", .int 2], .tup [.str "nand", .int 3]])) S = some (.d (.bl (!ng))) := by
  cases ng <;> kernel_rfl
theorem two_lim : 2 ≤ Lim := by unfold Lim; decide
theorem d20 : decide (((2 : Nat) : Int) = 0) = false := by decide
theorem d30 : decide (((3 : Nat) : Int) = 0) = false := by decide
theorem one_lim : 1 ≤ Lim := by unfold Lim; decide
theorem len1 {α : Type} {x : α} : [x].length ≤ Lim := by unfold Lim; simp
theorem len2 {α : Type} {x y : α} : [x, y].length ≤ Lim := by unfold Lim; simp
theorem ok_lints {is : List Int} : D.ok (.lst (is.map D.int)) = true := ok_of (n := 1) (by simp [D.okN])
theorem no_non {is : List Int} : inD .non (is.map D.int) = false := by
  unfold inD
  rw [List.any_eq_false]
  intro x hx
  obtain ⟨i, _, rfl⟩ := List.mem_map.mp hx
  simp [D.eqv, D.py, PyData.eqv]
theorem forms_ok : ∀ (t : Tr) (k : Nat), t.dep < k → (T (k + 1)).forms_in [t.d] = some (.v (.int t.forms)) := by
  intro t
  induction t with
  | lf i =>
    intro k hk
    obtain ⟨k, rfl⟩ : ∃ j, k = j + 1 := ⟨k - 1, by omega⟩
    show (F_forms_in (T (k + 1)) [some (.d (.int i)), none, none] []).bind finP = _
    unfold F_forms_in
    have h : decide ((0 : Int) ≤ (i : Int)) = true := decide_eq_true (by omega)
    simp only [eC_, eTy_, eVar_0, eVar_s, eBin_, binJ_, binK_, aNil_, aCons_, consJ_, fMap_, mapK_, eCall_, lCall_, aDs_, dsK_, dsOf_nil, dsOf_cons, eTup_, eVal_, eObj_, fIf_, ifK_t, ifK_f, fTest_, tstK_, fTru_, vTru_bl, vTru_int, vTru_non, vTru_lst, vTru_tup, fAnd_, andK_t, andK_f, fOr_, orK_t, orK_f, fNot_, eAnd_, eandK_t, eandK_f, eOr_, eorK_t, eorK_f, eNot_, notK_, vAdd_i, vAddI_i, vSub_i, vLt_i, vLe_i, vGt_i, vGe_i, vEq_i, vNe_i, vIsN_non, vIsN_int, vIsN_bl, vIsN_str, vIsN_tup, vIsN_lst, vIx_t, vIx_l, atI_0, atI_1, atI_2, bLen_t, bLen_l, bInt_i, bInt_b, bIsi_int, bIsi_bl, bIsi_str, bIsi_tup, bIsi_lst, bIsi_non, is_ii, is_ib, is_it, is_bi, is_bb, is_tt, is_ti, is_tb, is_st, is_si, is_ss, is_nt, is_ll, is_lt, is_tl, bTup_l, bTup_t, bBools_l, bInts_l, eMl0_, eMl1_, oRev_, sNil_, sSeq_, seqK_nx, seqK_rt, seqK_bk, seqK_ct, sIf_, sifK_t, sifK_f, sAsg_, asgK_, gN_, gsNil_, gsCons_, sRet_, sRetN_, sExpr_, sPar_, parK_, eSeq_, srcOf_t, srcOf_l, oEnum_t, oEnum_l, oZip_t, oZip_l, eCallP_, oP1, oP2, oP3, prV_v, prV_l, eCallS_, eFld_, finP_n, finP_v, finS_n, finS_r, eSlT_, slK_1, drop_1, lLc_, wipe_n, wipe_c, lcGo_n, lcGo_c, lcB_t, lcB_f, lcC_, fTrue_, forK_, foGo_n, foGo_c, foK_nx, foK_ct, foK_bk, foK_rt, lkF_0, eChain_, chJ_, chK_, chL_t, chL_f, eMake_, makeJ_, eMeth_, sFld_, fldJ_, eNewX_, sSubX_, sxJ_, sxK_, decide_true, decide_false, lRev_, eRevT_, revTK_, lCallP_, obind_some, obind_none, omap_some, omap_none, List.getElem?_cons_zero, List.getElem?_cons_succ, set_0, set_s, if_true, if_false, Bool.false_eq_true, Bool.not_true, Bool.not_false, num_lf, h]
    rfl
  | nt a ih => 
    intro k hk
    obtain ⟨k, rfl⟩ : ∃ j, k = j + 1 := ⟨k - 1, by omega⟩
    show (F_forms_in (T (k + 1)) [some (.d (.tup [.str "not", a.d])), none, none] []).bind finP = _
    unfold F_forms_in
    have e := ih k (by unfold Tr.dep at hk; omega)
    have n := vIn_l (S := []) (ng := false) ok_non (ok_lints (is := [(a.forms : Int)]))
    have n2 := no_non (is := [(a.forms : Int)])
    have n3 := bInts_l (S := []) (k := List.sum) (bs := [(a.forms : Int)])
    rw [List.map_cons, List.map_nil] at n n2 n3
    simp only [eC_, eTy_, eVar_0, eVar_s, eBin_, binJ_, binK_, aNil_, aCons_, consJ_, fMap_, mapK_, eCall_, lCall_, aDs_, dsK_, dsOf_nil, dsOf_cons, eTup_, eVal_, eObj_, fIf_, ifK_t, ifK_f, fTest_, tstK_, fTru_, vTru_bl, vTru_int, vTru_non, vTru_lst, vTru_tup, fAnd_, andK_t, andK_f, fOr_, orK_t, orK_f, fNot_, eAnd_, eandK_t, eandK_f, eOr_, eorK_t, eorK_f, eNot_, notK_, vAdd_i, vAddI_i, vSub_i, vLt_i, vLe_i, vGt_i, vGe_i, vEq_i, vNe_i, vIsN_non, vIsN_int, vIsN_bl, vIsN_str, vIsN_tup, vIsN_lst, vIx_t, vIx_l, atI_0, atI_1, atI_2, bLen_t, bLen_l, bInt_i, bInt_b, bIsi_int, bIsi_bl, bIsi_str, bIsi_tup, bIsi_lst, bIsi_non, is_ii, is_ib, is_it, is_bi, is_bb, is_tt, is_ti, is_tb, is_st, is_si, is_ss, is_nt, is_ll, is_lt, is_tl, bTup_l, bTup_t, bBools_l, bInts_l, eMl0_, eMl1_, oRev_, sNil_, sSeq_, seqK_nx, seqK_rt, seqK_bk, seqK_ct, sIf_, sifK_t, sifK_f, sAsg_, asgK_, gN_, gsNil_, gsCons_, sRet_, sRetN_, sExpr_, sPar_, parK_, eSeq_, srcOf_t, srcOf_l, oEnum_t, oEnum_l, oZip_t, oZip_l, eCallP_, oP1, oP2, oP3, prV_v, prV_l, eCallS_, eFld_, finP_n, finP_v, finS_n, finS_r, eSlT_, slK_1, drop_1, lLc_, wipe_n, wipe_c, lcGo_n, lcGo_c, lcB_t, lcB_f, lcC_, fTrue_, forK_, foGo_n, foGo_c, foK_nx, foK_ct, foK_bk, foK_rt, lkF_0, eChain_, chJ_, chK_, chL_t, chL_f, eMake_, makeJ_, eMeth_, sFld_, fldJ_, eNewX_, sSubX_, sxJ_, sxK_, decide_true, decide_false, lRev_, eRevT_, revTK_, lCallP_, obind_some, obind_none, omap_some, omap_none, List.getElem?_cons_zero, List.getElem?_cons_succ, set_0, set_s, if_true, if_false, Bool.false_eq_true, Bool.not_true, Bool.not_false, num_tup, List.length_cons, List.length_nil, Nat.zero_add, Nat.reduceAdd, if_pos two_lim, in_not, d20, lcK_ len1, e, n, n2, n3]
    simp [Tr.forms]; omega
  | nd a b iha ihb =>
    intro k hk
    obtain ⟨k, rfl⟩ : ∃ j, k = j + 1 := ⟨k - 1, by omega⟩
    show (F_forms_in (T (k + 1)) [some (.d (.tup [.str "nand", a.d, b.d])), none, none] []).bind finP = _
    unfold F_forms_in
    have e := iha k (by unfold Tr.dep at hk; omega)
    have e' := ihb k (by unfold Tr.dep at hk; omega)
    have n := vIn_l (S := []) (ng := false) ok_non (ok_lints (is := [(a.forms : Int), (b.forms : Int)]))
    have n2 := no_non (is := [(a.forms : Int), (b.forms : Int)])
    have n3 := bInts_l (S := []) (k := List.sum) (bs := [(a.forms : Int), (b.forms : Int)])
    simp only [List.map_cons, List.map_nil] at n n2 n3
    simp only [eC_, eTy_, eVar_0, eVar_s, eBin_, binJ_, binK_, aNil_, aCons_, consJ_, fMap_, mapK_, eCall_, lCall_, aDs_, dsK_, dsOf_nil, dsOf_cons, eTup_, eVal_, eObj_, fIf_, ifK_t, ifK_f, fTest_, tstK_, fTru_, vTru_bl, vTru_int, vTru_non, vTru_lst, vTru_tup, fAnd_, andK_t, andK_f, fOr_, orK_t, orK_f, fNot_, eAnd_, eandK_t, eandK_f, eOr_, eorK_t, eorK_f, eNot_, notK_, vAdd_i, vAddI_i, vSub_i, vLt_i, vLe_i, vGt_i, vGe_i, vEq_i, vNe_i, vIsN_non, vIsN_int, vIsN_bl, vIsN_str, vIsN_tup, vIsN_lst, vIx_t, vIx_l, atI_0, atI_1, atI_2, bLen_t, bLen_l, bInt_i, bInt_b, bIsi_int, bIsi_bl, bIsi_str, bIsi_tup, bIsi_lst, bIsi_non, is_ii, is_ib, is_it, is_bi, is_bb, is_tt, is_ti, is_tb, is_st, is_si, is_ss, is_nt, is_ll, is_lt, is_tl, bTup_l, bTup_t, bBools_l, bInts_l, eMl0_, eMl1_, oRev_, sNil_, sSeq_, seqK_nx, seqK_rt, seqK_bk, seqK_ct, sIf_, sifK_t, sifK_f, sAsg_, asgK_, gN_, gsNil_, gsCons_, sRet_, sRetN_, sExpr_, sPar_, parK_, eSeq_, srcOf_t, srcOf_l, oEnum_t, oEnum_l, oZip_t, oZip_l, eCallP_, oP1, oP2, oP3, prV_v, prV_l, eCallS_, eFld_, finP_n, finP_v, finS_n, finS_r, eSlT_, slK_1, drop_1, lLc_, wipe_n, wipe_c, lcGo_n, lcGo_c, lcB_t, lcB_f, lcC_, fTrue_, forK_, foGo_n, foGo_c, foK_nx, foK_ct, foK_bk, foK_rt, lkF_0, eChain_, chJ_, chK_, chL_t, chL_f, eMake_, makeJ_, eMeth_, sFld_, fldJ_, eNewX_, sSubX_, sxJ_, sxK_, decide_true, decide_false, lRev_, eRevT_, revTK_, lCallP_, obind_some, obind_none, omap_some, omap_none, List.getElem?_cons_zero, List.getElem?_cons_succ, set_0, set_s, if_true, if_false, Bool.false_eq_true, Bool.not_true, Bool.not_false, num_tup, List.length_cons, List.length_nil, Nat.zero_add, Nat.reduceAdd, if_pos two_lim, in_nand, d30, lcK_ len2, e, e', n, n2, n3]
    simp [Tr.forms]; omega
end K61

namespace K61
open PySem PySem.Spec PyProof.Rows L2 Ev

theorem strOk_a : PyData.strOk "not" = true ∧ PyData.strOk "nand" = true ∧ PyData.strOk "" = true := by decide +kernel
theorem Tr.key : ∀ (t : Tr), D.isKey t.dep t.d = true
  | .lf i => by simp [Tr.d, Tr.dep, D.isKey]
  | .nt a => by
    have h : D.isKey a.dep (.str "not") = true := by cases a.dep <;> simp [D.isKey, strOk_a]
    simp [Tr.d, Tr.dep, D.isKey, h, a.key]
  | .nd a b => by
    have h : D.isKey (max a.dep b.dep) (.str "nand") = true := by cases max a.dep b.dep <;> simp [D.isKey, strOk_a]
    simp only [Tr.d, Tr.dep, D.isKey, List.all_cons, List.all_nil, Bool.and_true, h, Bool.true_and]
    rw [isKey_mono a.key (Nat.le_max_left _ _), isKey_mono b.key (Nat.le_max_right _ _)]
    rfl
theorem Pt.key : ∀ (t : Pt), D.isKey t.dep t.d = true
  | .ho => by simp [Pt.d, Pt.dep, D.isKey, strOk_a]
  | .nt a => by
    have h : D.isKey a.dep (.str "not") = true := by cases a.dep <;> simp [D.isKey, strOk_a]
    simp [Pt.d, Pt.dep, D.isKey, h, a.key]
  | .nd a b => by
    have h : D.isKey (max a.dep b.dep) (.str "nand") = true := by cases max a.dep b.dep <;> simp [D.isKey, strOk_a]
    simp only [Pt.d, Pt.dep, D.isKey, List.all_cons, List.all_nil, Bool.and_true, h, Bool.true_and]
    rw [isKey_mono a.key (Nat.le_max_left _ _), isKey_mono b.key (Nat.le_max_right _ _)]
    rfl
theorem Tr.ok {t : Tr} (h : t.dep ≤ 60) : D.ok t.d = true := ok_of (key_okN t.key) (by omega)
theorem Pt.ok {t : Pt} (h : t.dep ≤ 60) : D.ok t.d = true := ok_of (key_okN t.key) (by omega)
theorem Tr.inj : ∀ {a b : Tr}, a.d = b.d → a = b
  | .lf i, .lf j, h => by simp [Tr.d] at h; rw [show i = j by omega]
  | .nt a, .nt b, h => by simp [Tr.d] at h; rw [Tr.inj h]
  | .nd a b, .nd c d, h => by simp [Tr.d] at h; rw [Tr.inj h.1, Tr.inj h.2]
  | .lf _, .nt _, h => by simp [Tr.d] at h
  | .lf _, .nd _ _, h => by simp [Tr.d] at h
  | .nt _, .lf _, h => by simp [Tr.d] at h
  | .nt _, .nd _ _, h => by simp [Tr.d] at h
  | .nd _ _, .lf _, h => by simp [Tr.d] at h
  | .nd _ _, .nt _, h => by simp [Tr.d] at h
theorem Pt.inj : ∀ {a b : Pt}, a.d = b.d → a = b
  | .ho, .ho, h => rfl
  | .nt a, .nt b, h => by simp [Pt.d] at h; rw [Pt.inj h]
  | .nd a b, .nd c d, h => by simp [Pt.d] at h; rw [Pt.inj h.1, Pt.inj h.2]
  | .ho, .nt _, h => by simp [Pt.d] at h
  | .ho, .nd _ _, h => by simp [Pt.d] at h
  | .nt _, .ho, h => by simp [Pt.d] at h
  | .nt _, .nd _ _, h => by simp [Pt.d] at h
  | .nd _ _, .ho, h => by simp [Pt.d] at h
  | .nd _ _, .nt _, h => by simp [Pt.d] at h

/-! ### is_pattern -/
theorem ok_str0 : D.ok (.str "") = true := ok_of (n := 0) (by simp [D.okN, strOk_a])
theorem ok_strn : D.ok (.str "not") = true := ok_of (n := 0) (by simp [D.okN, strOk_a])
theorem ok_strd : D.ok (.str "nand") = true := ok_of (n := 0) (by simp [D.okN, strOk_a])
theorem eqv_ts {ds : List D} {x : Str} : D.eqv (.tup ds) (.str x) = false := by simp [D.eqv, D.py, PyData.eqv]
theorem eqv_ss {x y : Str} : D.eqv (.str x) (.str y) = decide (x = y) := by simp [D.eqv, D.py, PyData.eqv, Bool.beq_eq_decide_eq]
theorem pat_ok : ∀ (p : Pt) (k : Nat), p.dep ≤ 60 → p.dep < k → (T (k + 1)).is_pattern [p.d] = some (.v (.bl true)) := by
  intro p
  induction p with
  | ho =>
    intro k _ hk
    show (F_is_pattern (T k) [some (.d (.str "")), none] []).bind finP = _
    unfold F_is_pattern
    simp only [eC_, eTy_, eVar_0, eVar_s, eBin_, binJ_, binK_, aNil_, aCons_, consJ_, fMap_, mapK_, eCall_, lCall_, aDs_, dsK_, dsOf_nil, dsOf_cons, eTup_, eVal_, eObj_, fIf_, ifK_t, ifK_f, fTest_, tstK_, fTru_, vTru_bl, vTru_int, vTru_non, vTru_lst, vTru_tup, fAnd_, andK_t, andK_f, fOr_, orK_t, orK_f, fNot_, eAnd_, eandK_t, eandK_f, eOr_, eorK_t, eorK_f, eNot_, notK_, vAdd_i, vAddI_i, vSub_i, vLt_i, vLe_i, vGt_i, vGe_i, vEq_i, vNe_i, vIsN_non, vIsN_int, vIsN_bl, vIsN_str, vIsN_tup, vIsN_lst, vIx_t, vIx_l, atI_0, atI_1, atI_2, bLen_t, bLen_l, bInt_i, bInt_b, bIsi_int, bIsi_bl, bIsi_str, bIsi_tup, bIsi_lst, bIsi_non, is_ii, is_ib, is_it, is_bi, is_bb, is_tt, is_ti, is_tb, is_st, is_si, is_ss, is_nt, is_ll, is_lt, is_tl, bTup_l, bTup_t, bBools_l, bInts_l, eMl0_, eMl1_, oRev_, sNil_, sSeq_, seqK_nx, seqK_rt, seqK_bk, seqK_ct, sIf_, sifK_t, sifK_f, sAsg_, asgK_, gN_, gsNil_, gsCons_, sRet_, sRetN_, sExpr_, sPar_, parK_, eSeq_, srcOf_t, srcOf_l, oEnum_t, oEnum_l, oZip_t, oZip_l, eCallP_, oP1, oP2, oP3, prV_v, prV_l, eCallS_, eFld_, finP_n, finP_v, finS_n, finS_r, eSlT_, slK_1, drop_1, lLc_, wipe_n, wipe_c, lcGo_n, lcGo_c, lcB_t, lcB_f, lcC_, fTrue_, forK_, foGo_n, foGo_c, foK_nx, foK_ct, foK_bk, foK_rt, lkF_0, eChain_, chJ_, chK_, chL_t, chL_f, eMake_, makeJ_, eMeth_, sFld_, fldJ_, eNewX_, sSubX_, sxJ_, sxK_, decide_true, decide_false, lRev_, eRevT_, revTK_, lCallP_, obind_some, obind_none, omap_some, omap_none, List.getElem?_cons_zero, List.getElem?_cons_succ, set_0, set_s, if_true, if_false, Bool.false_eq_true, Bool.not_true, Bool.not_false, vEq_ ok_str0 ok_str0, eqv_ss, decide_true]
  | nt a ih =>
    intro k h6 hk
    obtain ⟨k, rfl⟩ : ∃ j, k = j + 1 := ⟨k - 1, by omega⟩
    have h7 : a.dep ≤ 60 := by unfold Pt.dep at h6; omega
    show (F_is_pattern (T (k + 1)) [some (.d (.tup [.str "not", a.d])), none] []).bind finP = _
    unfold F_is_pattern
    have e := ih k h7 (by unfold Pt.dep at hk; omega)
    have ok : D.ok (.tup [.str "not", a.d]) = true := Pt.ok (t := .nt a) h6
    have n3 := bBools_l (S := []) (k := fun bs => bs.all id) (bs := [true])
    simp only [List.map_cons, List.map_nil] at n3
    simp only [eC_, eTy_, eVar_0, eVar_s, eBin_, binJ_, binK_, aNil_, aCons_, consJ_, fMap_, mapK_, eCall_, lCall_, aDs_, dsK_, dsOf_nil, dsOf_cons, eTup_, eVal_, eObj_, fIf_, ifK_t, ifK_f, fTest_, tstK_, fTru_, vTru_bl, vTru_int, vTru_non, vTru_lst, vTru_tup, fAnd_, andK_t, andK_f, fOr_, orK_t, orK_f, fNot_, eAnd_, eandK_t, eandK_f, eOr_, eorK_t, eorK_f, eNot_, notK_, vAdd_i, vAddI_i, vSub_i, vLt_i, vLe_i, vGt_i, vGe_i, vEq_i, vNe_i, vIsN_non, vIsN_int, vIsN_bl, vIsN_str, vIsN_tup, vIsN_lst, vIx_t, vIx_l, atI_0, atI_1, atI_2, bLen_t, bLen_l, bInt_i, bInt_b, bIsi_int, bIsi_bl, bIsi_str, bIsi_tup, bIsi_lst, bIsi_non, is_ii, is_ib, is_it, is_bi, is_bb, is_tt, is_ti, is_tb, is_st, is_si, is_ss, is_nt, is_ll, is_lt, is_tl, bTup_l, bTup_t, bBools_l, bInts_l, eMl0_, eMl1_, oRev_, sNil_, sSeq_, seqK_nx, seqK_rt, seqK_bk, seqK_ct, sIf_, sifK_t, sifK_f, sAsg_, asgK_, gN_, gsNil_, gsCons_, sRet_, sRetN_, sExpr_, sPar_, parK_, eSeq_, srcOf_t, srcOf_l, oEnum_t, oEnum_l, oZip_t, oZip_l, eCallP_, oP1, oP2, oP3, prV_v, prV_l, eCallS_, eFld_, finP_n, finP_v, finS_n, finS_r, eSlT_, slK_1, drop_1, lLc_, wipe_n, wipe_c, lcGo_n, lcGo_c, lcB_t, lcB_f, lcC_, fTrue_, forK_, foGo_n, foGo_c, foK_nx, foK_ct, foK_bk, foK_rt, lkF_0, eChain_, chJ_, chK_, chL_t, chL_f, eMake_, makeJ_, eMeth_, sFld_, fldJ_, eNewX_, sSubX_, sxJ_, sxK_, decide_true, decide_false, lRev_, eRevT_, revTK_, lCallP_, obind_some, obind_none, omap_some, omap_none, List.getElem?_cons_zero, List.getElem?_cons_succ, set_0, set_s, if_true, if_false, Bool.false_eq_true, Bool.not_true, Bool.not_false, vEq_ ok ok_str0, eqv_ts, List.length_cons, List.length_nil, Nat.zero_add, Nat.reduceAdd, d20, if_pos two_lim, in_not, lcK_ len1, e, n3]
    rfl
  | nd a b iha ihb =>
    intro k h6 hk
    obtain ⟨k, rfl⟩ : ∃ j, k = j + 1 := ⟨k - 1, by omega⟩
    have h7 : a.dep ≤ 60 := by unfold Pt.dep at h6; omega
    have h8 : b.dep ≤ 60 := by unfold Pt.dep at h6; omega
    show (F_is_pattern (T (k + 1)) [some (.d (.tup [.str "nand", a.d, b.d])), none] []).bind finP = _
    unfold F_is_pattern
    have e := iha k h7 (by unfold Pt.dep at hk; omega)
    have e' := ihb k h8 (by unfold Pt.dep at hk; omega)
    have ok : D.ok (.tup [.str "nand", a.d, b.d]) = true := Pt.ok (t := .nd a b) h6
    have n3 := bBools_l (S := []) (k := fun bs => bs.all id) (bs := [true, true])
    simp only [List.map_cons, List.map_nil] at n3
    simp only [eC_, eTy_, eVar_0, eVar_s, eBin_, binJ_, binK_, aNil_, aCons_, consJ_, fMap_, mapK_, eCall_, lCall_, aDs_, dsK_, dsOf_nil, dsOf_cons, eTup_, eVal_, eObj_, fIf_, ifK_t, ifK_f, fTest_, tstK_, fTru_, vTru_bl, vTru_int, vTru_non, vTru_lst, vTru_tup, fAnd_, andK_t, andK_f, fOr_, orK_t, orK_f, fNot_, eAnd_, eandK_t, eandK_f, eOr_, eorK_t, eorK_f, eNot_, notK_, vAdd_i, vAddI_i, vSub_i, vLt_i, vLe_i, vGt_i, vGe_i, vEq_i, vNe_i, vIsN_non, vIsN_int, vIsN_bl, vIsN_str, vIsN_tup, vIsN_lst, vIx_t, vIx_l, atI_0, atI_1, atI_2, bLen_t, bLen_l, bInt_i, bInt_b, bIsi_int, bIsi_bl, bIsi_str, bIsi_tup, bIsi_lst, bIsi_non, is_ii, is_ib, is_it, is_bi, is_bb, is_tt, is_ti, is_tb, is_st, is_si, is_ss, is_nt, is_ll, is_lt, is_tl, bTup_l, bTup_t, bBools_l, bInts_l, eMl0_, eMl1_, oRev_, sNil_, sSeq_, seqK_nx, seqK_rt, seqK_bk, seqK_ct, sIf_, sifK_t, sifK_f, sAsg_, asgK_, gN_, gsNil_, gsCons_, sRet_, sRetN_, sExpr_, sPar_, parK_, eSeq_, srcOf_t, srcOf_l, oEnum_t, oEnum_l, oZip_t, oZip_l, eCallP_, oP1, oP2, oP3, prV_v, prV_l, eCallS_, eFld_, finP_n, finP_v, finS_n, finS_r, eSlT_, slK_1, drop_1, lLc_, wipe_n, wipe_c, lcGo_n, lcGo_c, lcB_t, lcB_f, lcC_, fTrue_, forK_, foGo_n, foGo_c, foK_nx, foK_ct, foK_bk, foK_rt, lkF_0, eChain_, chJ_, chK_, chL_t, chL_f, eMake_, makeJ_, eMeth_, sFld_, fldJ_, eNewX_, sSubX_, sxJ_, sxK_, decide_true, decide_false, lRev_, eRevT_, revTK_, lCallP_, obind_some, obind_none, omap_some, omap_none, List.getElem?_cons_zero, List.getElem?_cons_succ, set_0, set_s, if_true, if_false, Bool.false_eq_true, Bool.not_true, Bool.not_false, vEq_ ok ok_str0, eqv_ts, List.length_cons, List.length_nil, Nat.zero_add, Nat.reduceAdd, d30, if_pos two_lim, in_nand, lcK_ len2, e, e', n3]
    rfl

/-! ### left_by -/
def ins (acc : List (List Tr)) (x : List Tr) : List (List Tr) := if x ∈ acc then acc else acc ++ [x]
def prs (X Y : List (List Tr)) : List (List Tr) := X.flatMap fun f => Y.map fun s => f ++ s
def leftBy : Pt → Tr → List (List Tr)
  | .ho, t => [[t]]
  | .nt p, .nt a => leftBy p a
  | .nd p q, .nd a b => (prs (leftBy p a) (leftBy q b) ++ prs (leftBy p b) (leftBy q a)).foldl ins []
  | _, _ => []
def tD (l : List Tr) : D := .tup (l.map Tr.d)
theorem map_inj : ∀ {a b : List Tr}, a.map Tr.d = b.map Tr.d → a = b
  | [], [], _ => rfl
  | [], _ :: _, h => by simp at h
  | _ :: _, [], h => by simp at h
  | x :: xs, y :: ys, h => by
    simp only [List.map_cons, List.cons.injEq] at h
    rw [Tr.inj h.1, map_inj h.2]
theorem tD_inj {a b : List Tr} (h : tD a = tD b) : a = b := by
  unfold tD at h
  injection h with h
  exact map_inj h
/-- trees no deeper than 50 -/
def sm (l : List Tr) : Prop := ∀ t ∈ l, t.dep ≤ 50
theorem sm_key {l : List Tr} (h : sm l) : D.isKey 51 (tD l) = true := by
  unfold tD
  simp only [D.isKey, List.all_eq_true, List.mem_map, forall_exists_index, and_imp, forall_apply_eq_imp_iff₂]
  exact fun t ht => isKey_mono t.key (h t ht)
theorem sm_ok {l : List Tr} (h : sm l) : D.ok (tD l) = true := ok_of (key_okN (sm_key h))
theorem sms_ok {L : List (List Tr)} (h : ∀ l ∈ L, sm l) : D.ok (.lst (L.map tD)) = true := ok_of (n := 52) (by
  simp only [D.okN, List.all_eq_true, List.mem_map, forall_exists_index, and_imp, forall_apply_eq_imp_iff₂]
  exact fun l hl => key_okN (sm_key (h l hl)))
theorem in_tD {x : List Tr} {acc : List (List Tr)} (hx : sm x) (ha : ∀ l ∈ acc, sm l) : inD (tD x) (acc.map tD) = decide (x ∈ acc) := by
  unfold inD
  rw [List.any_map]
  rw [Bool.eq_iff_iff, List.any_eq_true, decide_eq_true_eq]
  constructor
  · rintro ⟨l, hl, e⟩
    have := eqv_key (sm_key (ha l hl)) (sm_key hx)
    unfold D.eqv at e
    rw [Function.comp_apply, this, decide_eq_true_eq] at e
    rw [← tD_inj e]
    exact hl
  · intro h
    refine ⟨x, h, ?_⟩
    rw [Function.comp_apply]
    unfold D.eqv
    rw [eqv_key (sm_key hx) (sm_key hx)]
    simp
end K61

namespace K61
open PySem PySem.Spec PyProof.Rows L2 Ev

/-! ### left_by: bounds -/
def Pt.wid : Pt → Nat
  | .ho => 1
  | .nt p => p.wid
  | .nd p q => p.wid + q.wid
def Pt.cnt : Pt → Nat
  | .ho => 1
  | .nt p => p.cnt
  | .nd p q => 2 * (p.cnt * q.cnt)
theorem Pt.b0 : ∀ {p : Pt}, p.dep ≤ 0 → p.wid ≤ 1 ∧ p.cnt ≤ 1
  | .ho, _ => ⟨Nat.le_refl _, Nat.le_refl _⟩
  | .nt _, h => by simp [Pt.dep] at h
  | .nd _ _, h => by simp [Pt.dep] at h
theorem Pt.b1 : ∀ {p : Pt}, p.dep ≤ 1 → p.wid ≤ 2 ∧ p.cnt ≤ 2
  | .ho, _ => by simp [Pt.wid, Pt.cnt]
  | .nt a, h => by
    have := Pt.b0 (p := a) (by simp [Pt.dep] at h; omega)
    simp only [Pt.wid, Pt.cnt]; omega
  | .nd a b, h => by
    have h1 := Pt.b0 (p := a) (by simp [Pt.dep] at h; omega)
    have h2 := Pt.b0 (p := b) (by simp [Pt.dep] at h; omega)
    simp only [Pt.wid, Pt.cnt]
    have := Nat.mul_le_mul h1.2 h2.2
    omega
theorem Pt.b2 : ∀ {p : Pt}, p.dep ≤ 2 → p.wid ≤ 4 ∧ p.cnt ≤ 8
  | .ho, _ => by simp [Pt.wid, Pt.cnt]
  | .nt a, h => by
    have := Pt.b1 (p := a) (by simp [Pt.dep] at h; omega)
    simp only [Pt.wid, Pt.cnt]; omega
  | .nd a b, h => by
    have h1 := Pt.b1 (p := a) (by simp [Pt.dep] at h; omega)
    have h2 := Pt.b1 (p := b) (by simp [Pt.dep] at h; omega)
    simp only [Pt.wid, Pt.cnt]
    have := Nat.mul_le_mul h1.2 h2.2
    omega
theorem mem_ins {x y : List Tr} {acc : List (List Tr)} : y ∈ ins acc x ↔ y ∈ acc ∨ y = x := by
  unfold ins
  split
  · rename_i h
    constructor
    · exact .inl
    · rintro (h2 | rfl)
      · exact h2
      · exact h
  · simp
theorem mem_fold : ∀ {l acc : List (List Tr)} {y : List Tr}, y ∈ l.foldl ins acc ↔ y ∈ acc ∨ y ∈ l
  | [], acc, y => by simp
  | x :: l, acc, y => by
    rw [List.foldl_cons, mem_fold, mem_ins, List.mem_cons]
    constructor
    · rintro ((h | h) | h)
      · exact .inl h
      · exact .inr (.inl h)
      · exact .inr (.inr h)
    · rintro (h | h | h)
      · exact .inl (.inl h)
      · exact .inl (.inr h)
      · exact .inr h
theorem len_ins {x : List Tr} {acc : List (List Tr)} : (ins acc x).length ≤ acc.length + 1 := by
  unfold ins
  split
  · omega
  · simp
theorem len_fold : ∀ {l acc : List (List Tr)}, (l.foldl ins acc).length ≤ acc.length + l.length
  | [], acc => by simp
  | x :: l, acc => by
    have h1 := len_fold (l := l) (acc := ins acc x)
    have h2 := len_ins (x := x) (acc := acc)
    rw [List.foldl_cons, List.length_cons]
    omega
theorem len_prs {X Y : List (List Tr)} : (prs X Y).length = X.length * Y.length := by
  unfold prs
  induction X with
  | nil => simp
  | cons x X ih =>
    rw [List.flatMap_cons, List.length_append, List.length_map, List.length_cons, ih, Nat.succ_mul]
    omega
theorem mem_prs {X Y : List (List Tr)} {l : List Tr} : l ∈ prs X Y ↔ ∃ f ∈ X, ∃ s ∈ Y, l = f ++ s := by
  unfold prs
  simp only [List.mem_flatMap, List.mem_map]
  constructor
  · rintro ⟨f, hf, s, hs, rfl⟩; exact ⟨f, hf, s, hs, rfl⟩
  · rintro ⟨f, hf, s, hs, rfl⟩; exact ⟨f, hf, s, hs, rfl⟩
/-- what a match is -/
inductive M : Pt → Tr → List Tr → Prop
  | ho (t : Tr) : M .ho t [t]
  | nt {p : Pt} {a : Tr} {l : List Tr} : M p a l → M (.nt p) (.nt a) l
  | nd {p q : Pt} {a b : Tr} {l m : List Tr} : M p a l → M q b m → M (.nd p q) (.nd a b) (l ++ m)
  | dn {p q : Pt} {a b : Tr} {l m : List Tr} : M p b l → M q a m → M (.nd p q) (.nd a b) (l ++ m)
theorem mem_left : ∀ {p : Pt} {t : Tr} {l : List Tr}, l ∈ leftBy p t ↔ M p t l
  | .ho, t, l => by
    unfold leftBy
    rw [List.mem_singleton]
    constructor
    · rintro rfl; exact .ho t
    · rintro ⟨⟩; rfl
  | .nt p, .lf _, l => by
    unfold leftBy
    constructor
    · intro h; cases h
    · intro h; cases h
  | .nt p, .nd _ _, l => by
    unfold leftBy
    constructor
    · intro h; cases h
    · intro h; cases h
  | .nd p q, .lf _, l => by
    unfold leftBy
    constructor
    · intro h; cases h
    · intro h; cases h
  | .nd p q, .nt _, l => by
    unfold leftBy
    constructor
    · intro h; cases h
    · intro h; cases h
  | .nt p, .nt a, l => by
    unfold leftBy
    rw [mem_left]
    constructor
    · exact .nt
    · intro h; cases h; assumption
  | .nd p q, .nd a b, l => by
    unfold leftBy
    rw [mem_fold, List.mem_append, mem_prs, mem_prs]
    constructor
    · rintro (h | ⟨f, hf, s, hs, rfl⟩ | ⟨f, hf, s, hs, rfl⟩)
      · cases h
      · exact .nd (mem_left.mp hf) (mem_left.mp hs)
      · exact .dn (mem_left.mp hf) (mem_left.mp hs)
    · intro h
      cases h with
      | nd h1 h2 => exact .inr (.inl ⟨_, mem_left.mpr h1, _, mem_left.mpr h2, rfl⟩)
      | dn h1 h2 => exact .inr (.inr ⟨_, mem_left.mpr h1, _, mem_left.mpr h2, rfl⟩)
theorem M.len {p : Pt} {t : Tr} {l : List Tr} (h : M p t l) : l.length = p.wid := by
  induction h with
  | ho => rfl
  | nt _ ih => exact ih
  | nd _ _ i1 i2 => rw [List.length_append, i1, i2]; rfl
  | dn _ _ i1 i2 => rw [List.length_append, i1, i2]; rfl
theorem M.dep {p : Pt} {t : Tr} {l : List Tr} (h : M p t l) : ∀ s ∈ l, s.dep ≤ t.dep := by
  induction h with
  | ho t => intro s hs; rw [List.mem_singleton.mp hs]; exact Nat.le_refl _
  | nt _ ih => intro s hs; have := ih s hs; simp only [Tr.dep]; omega
  | nd _ _ i1 i2 =>
    intro s hs
    simp only [Tr.dep]
    rcases List.mem_append.mp hs with h | h
    · have := i1 s h; omega
    · have := i2 s h; omega
  | dn _ _ i1 i2 =>
    intro s hs
    simp only [Tr.dep]
    rcases List.mem_append.mp hs with h | h
    · have := i1 s h; omega
    · have := i2 s h; omega
theorem left_len : ∀ (p : Pt) (t : Tr), (leftBy p t).length ≤ p.cnt
  | .ho, t => by simp [leftBy, Pt.cnt]
  | .nt p, .lf _ => by simp [leftBy]
  | .nt p, .nd _ _ => by simp [leftBy]
  | .nd p q, .lf _ => by simp [leftBy]
  | .nd p q, .nt _ => by simp [leftBy]
  | .nt p, .nt a => by simp only [leftBy, Pt.cnt]; exact left_len p a
  | .nd p q, .nd a b => by
    simp only [leftBy, Pt.cnt]
    have h1 := len_fold (l := prs (leftBy p a) (leftBy q b) ++ prs (leftBy p b) (leftBy q a)) (acc := [])
    rw [List.length_append, len_prs, len_prs] at h1
    have h2 := Nat.mul_le_mul (left_len p a) (left_len q b)
    have h3 := Nat.mul_le_mul (left_len p b) (left_len q a)
    simp only [List.length_nil] at h1
    omega
theorem left_sm {p : Pt} {t : Tr} (h : t.dep ≤ 50) : ∀ l ∈ leftBy p t, sm l := fun l hl s hs => Nat.le_trans (M.dep (mem_left.mp hl) s hs) h

/-! ### left_by: the loops -/
def B3 : Fs := sSeq2 (sIf (fTest (eBin (vIn true) (eBin vAdd (eVar 5) (eVar 6)) (eVar 2))) (sSeq2 (sExpr (eMl1 oApp (eVar 2) (eBin vAdd (eVar 5) (eVar 6)))) sNil) sNil) sNil
def B2 (T : Tb) : Fs := sSeq2 (sFor (sSeq (eCallP 2 T.left_by (aCons (eBin vIx (eVar 0) (eC (.int 2))) (aCons (eVar 4) aNil)))) (gN 6) B3) sNil
def B1 (T : Tb) : Fs := sSeq2 (sFor (sSeq (eCallP 2 T.left_by (aCons (eBin vIx (eVar 0) (eC (.int 1))) (aCons (eVar 3) aNil)))) (gN 5) (B2 T)) sNil
theorem vAdd_tD {f s : List Tr} {S : Sto} (h : f.length + s.length ≤ Lim) : vAdd (.d (tD f)) (.d (tD s)) S = some (.d (tD (f ++ s))) := by
  unfold tD
  rw [vAdd_t, List.length_map, List.length_map, if_pos h, List.map_append]
section
variable {P Q O1 O2 x6 : Option RV} {f : List Tr} {acc : List (List Tr)}
theorem b3_step {s : List Tr} (hf : sm f) (hs : sm s) (hl : f.length + s.length ≤ Lim) (ha : ∀ l ∈ acc, sm l) (hn : acc.length < Lim) :
    B3 [P, Q, some (.o 0), O1, O2, some (.d (tD f)), some (.d (tD s))] [.lst (acc.map tD)] = some (.nx, [P, Q, some (.o 0), O1, O2, some (.d (tD f)), some (.d (tD s))], [.lst ((ins acc (f ++ s)).map tD)]) := by
  have hfs : sm (f ++ s) := fun t ht => (List.mem_append.mp ht).elim (hf t) (hs t)
  have h1 := vIn_o (ng := true) (S := [.lst (acc.map tD)]) (n := 0) rfl (sm_ok hfs) (sms_ok ha)
  have h2 := in_tD hfs ha
  have h3 : ([Ob.lst (acc.map tD)] : Sto)[0]? = some (.lst (acc.map tD)) := rfl
  have h4 : (acc.map tD).length < Lim := by rw [List.length_map]; exact hn
  unfold B3
  by_cases hm : f ++ s ∈ acc
  · have e : ins acc (f ++ s) = acc := if_pos hm
    rw [e]
    rw [decide_eq_true hm] at h2
    rw [h2] at h1
    simp only [eC_, eTy_, eVar_0, eVar_s, eBin_, binJ_, binK_, aNil_, aCons_, consJ_, fMap_, mapK_, eCall_, lCall_, aDs_, dsK_, dsOf_nil, dsOf_cons, eTup_, eVal_, eObj_, fIf_, ifK_t, ifK_f, fTest_, tstK_, fTru_, vTru_bl, vTru_int, vTru_non, vTru_lst, vTru_tup, fAnd_, andK_t, andK_f, fOr_, orK_t, orK_f, fNot_, eAnd_, eandK_t, eandK_f, eOr_, eorK_t, eorK_f, eNot_, notK_, vAdd_i, vAddI_i, vSub_i, vLt_i, vLe_i, vGt_i, vGe_i, vEq_i, vNe_i, vIsN_non, vIsN_int, vIsN_bl, vIsN_str, vIsN_tup, vIsN_lst, vIx_t, vIx_l, atI_0, atI_1, atI_2, bLen_t, bLen_l, bInt_i, bInt_b, bIsi_int, bIsi_bl, bIsi_str, bIsi_tup, bIsi_lst, bIsi_non, is_ii, is_ib, is_it, is_bi, is_bb, is_tt, is_ti, is_tb, is_st, is_si, is_ss, is_nt, is_ll, is_lt, is_tl, bTup_l, bTup_t, bBools_l, bInts_l, eMl0_, eMl1_, oRev_, sNil_, sSeq_, seqK_nx, seqK_rt, seqK_bk, seqK_ct, sIf_, sifK_t, sifK_f, sAsg_, asgK_, gN_, gsNil_, gsCons_, sRet_, sRetN_, sExpr_, sPar_, parK_, eSeq_, srcOf_t, srcOf_l, oEnum_t, oEnum_l, oZip_t, oZip_l, eCallP_, oP1, oP2, oP3, prV_v, prV_l, eCallS_, eFld_, finP_n, finP_v, finS_n, finS_r, eSlT_, slK_1, drop_1, lLc_, wipe_n, wipe_c, lcGo_n, lcGo_c, lcB_t, lcB_f, lcC_, fTrue_, forK_, foGo_n, foGo_c, foK_nx, foK_ct, foK_bk, foK_rt, lkF_0, eChain_, chJ_, chK_, chL_t, chL_f, eMake_, makeJ_, eMeth_, sFld_, fldJ_, eNewX_, sSubX_, sxJ_, sxK_, decide_true, decide_false, lRev_, eRevT_, revTK_, lCallP_, obind_some, obind_none, omap_some, omap_none, List.getElem?_cons_zero, List.getElem?_cons_succ, set_0, set_s, if_true, if_false, Bool.false_eq_true, Bool.not_true, Bool.not_false, vAdd_tD hl, h1]
  · have e : ins acc (f ++ s) = acc ++ [f ++ s] := if_neg hm
    rw [e, List.map_append]
    rw [decide_eq_false hm] at h2
    rw [h2] at h1
    simp only [eC_, eTy_, eVar_0, eVar_s, eBin_, binJ_, binK_, aNil_, aCons_, consJ_, fMap_, mapK_, eCall_, lCall_, aDs_, dsK_, dsOf_nil, dsOf_cons, eTup_, eVal_, eObj_, fIf_, ifK_t, ifK_f, fTest_, tstK_, fTru_, vTru_bl, vTru_int, vTru_non, vTru_lst, vTru_tup, fAnd_, andK_t, andK_f, fOr_, orK_t, orK_f, fNot_, eAnd_, eandK_t, eandK_f, eOr_, eorK_t, eorK_f, eNot_, notK_, vAdd_i, vAddI_i, vSub_i, vLt_i, vLe_i, vGt_i, vGe_i, vEq_i, vNe_i, vIsN_non, vIsN_int, vIsN_bl, vIsN_str, vIsN_tup, vIsN_lst, vIx_t, vIx_l, atI_0, atI_1, atI_2, bLen_t, bLen_l, bInt_i, bInt_b, bIsi_int, bIsi_bl, bIsi_str, bIsi_tup, bIsi_lst, bIsi_non, is_ii, is_ib, is_it, is_bi, is_bb, is_tt, is_ti, is_tb, is_st, is_si, is_ss, is_nt, is_ll, is_lt, is_tl, bTup_l, bTup_t, bBools_l, bInts_l, eMl0_, eMl1_, oRev_, sNil_, sSeq_, seqK_nx, seqK_rt, seqK_bk, seqK_ct, sIf_, sifK_t, sifK_f, sAsg_, asgK_, gN_, gsNil_, gsCons_, sRet_, sRetN_, sExpr_, sPar_, parK_, eSeq_, srcOf_t, srcOf_l, oEnum_t, oEnum_l, oZip_t, oZip_l, eCallP_, oP1, oP2, oP3, prV_v, prV_l, eCallS_, eFld_, finP_n, finP_v, finS_n, finS_r, eSlT_, slK_1, drop_1, lLc_, wipe_n, wipe_c, lcGo_n, lcGo_c, lcB_t, lcB_f, lcC_, fTrue_, forK_, foGo_n, foGo_c, foK_nx, foK_ct, foK_bk, foK_rt, lkF_0, eChain_, chJ_, chK_, chL_t, chL_f, eMake_, makeJ_, eMeth_, sFld_, fldJ_, eNewX_, sSubX_, sxJ_, sxK_, decide_true, decide_false, lRev_, eRevT_, revTK_, lCallP_, obind_some, obind_none, omap_some, omap_none, List.getElem?_cons_zero, List.getElem?_cons_succ, set_0, set_s, if_true, if_false, Bool.false_eq_true, Bool.not_true, Bool.not_false, vAdd_tD hl, h1, ml1K_ h3, ml1J_ h3, oApp_ h4]
    rfl
end
end K61

namespace K61
open PySem PySem.Spec PyProof.Rows L2 Ev

theorem take_succ' {α : Type} {xs : List α} {i : Nat} {x : α} (h : xs[i]? = some x) : xs.take (i + 1) = xs.take i ++ [x] := by
  rw [List.take_succ, h]; rfl
section
variable {P Q O1 O2 : Option RV} {f : List Tr} {acc : List (List Tr)} {X Y : List (List Tr)}
/-- the innermost loop -/
theorem b2_loop {x6 : Option RV} (hf : sm f) (hfl : f.length ≤ 16) (hY : ∀ l ∈ Y, sm l ∧ l.length ≤ 16) (hYn : Y.length ≤ 16) (ha : ∀ l ∈ acc, sm l) (hn : acc.length ≤ 1000) :
    ∃ x6', foGo ⟨Y.map tD, none⟩ (gN 6) B3 (Y.map tD) [P, Q, some (.o 0), O1, O2, some (.d (tD f)), x6] [.lst (acc.map tD)] = some (.nx, [P, Q, some (.o 0), O1, O2, some (.d (tD f)), x6'], [.lst (((Y.map fun s => f ++ s).foldl ins acc).map tD)]) := by
  have key := foGo_inv (s := ⟨Y.map tD, none⟩) (gg := gN 6) (F := B3) (fun i ρ S => ∃ x6', ρ = [P, Q, some (.o 0), O1, O2, some (.d (tD f)), x6'] ∧ S = [.lst ((((Y.take i).map fun s => f ++ s).foldl ins acc).map tD)]) (fun _ _ _ _ => rfl) (fun i ρ S d hd p => ?_) (Y.map tD).length 0 [P, Q, some (.o 0), O1, O2, some (.d (tD f)), x6] [.lst (acc.map tD)] (by simp) ⟨x6, rfl, rfl⟩
  · obtain ⟨ρ', S', h1, x6', h2, h3⟩ := key
    refine ⟨x6', ?_⟩
    rw [List.drop_zero] at h1
    rw [show (⟨Y.map tD, none⟩ : Src).ds.length = Y.length from List.length_map _, List.take_length] at h3
    rw [← h2, ← h3]
    exact h1
  · obtain ⟨x6', rfl, rfl⟩ := p
    have hd : (Y.map tD)[i]? = some d := hd
    rw [List.getElem?_map] at hd
    obtain ⟨s, hs, rfl⟩ := Option.map_eq_some_iff.mp hd
    obtain ⟨hs1, hs2⟩ := hY s (List.mem_of_getElem? hs)
    have hi : i < Y.length := (List.getElem?_eq_some_iff.mp hs).1
    have hlen := len_fold (l := (Y.take i).map fun s => f ++ s) (acc := acc)
    rw [List.length_map, List.length_take] at hlen
    refine ⟨_, .nx, _, _, rfl, b3_step hf hs1 ?_ ?_ ?_, .inl rfl, some (.d (tD s)), rfl, ?_⟩
    · unfold Lim; omega
    · intro l hl
      rcases mem_fold.mp hl with h | h
      · exact ha l h
      · obtain ⟨z, hz, rfl⟩ := List.mem_map.mp h
        have := (hY z (List.mem_of_mem_take hz)).1
        exact fun t ht => (List.mem_append.mp ht).elim (hf t) (this t)
    · unfold Lim; omega
    · rw [take_succ' hs, List.map_append, List.foldl_append]
      rfl
/-- the middle loop -/
theorem b1_loop {k : Nat} {q : Pt} {b : D} {pd : List D} {r : PR} {x5 x6 : Option RV} (hP : P = some (.d (.tup pd))) (h2 : atI pd 2 = some q.d) (hO : O2 = some (.d b)) (hr : (T k).left_by [q.d, b] = some r) (hv : prV r = .d (.lst (Y.map tD)))
    (hX : ∀ l ∈ X, sm l ∧ l.length ≤ 16) (hXn : X.length ≤ 16) (hY : ∀ l ∈ Y, sm l ∧ l.length ≤ 16) (hYn : Y.length ≤ 16) (ha : ∀ l ∈ acc, sm l) (hn : acc.length ≤ 300) :
    ∃ x5' x6', foGo ⟨X.map tD, none⟩ (gN 5) (B2 (T k)) (X.map tD) [P, Q, some (.o 0), O1, O2, x5, x6] [.lst (acc.map tD)] = some (.nx, [P, Q, some (.o 0), O1, O2, x5', x6'], [.lst (((prs X Y).foldl ins acc).map tD)]) := by
  have key := foGo_inv (s := ⟨X.map tD, none⟩) (gg := gN 5) (F := B2 (T k)) (fun i ρ S => ∃ x5' x6', ρ = [P, Q, some (.o 0), O1, O2, x5', x6'] ∧ S = [.lst (((prs (X.take i) Y).foldl ins acc).map tD)]) (fun _ _ _ _ => rfl) (fun i ρ S d hd p => ?_) (X.map tD).length 0 [P, Q, some (.o 0), O1, O2, x5, x6] [.lst (acc.map tD)] (by simp) ⟨x5, x6, rfl, rfl⟩
  · obtain ⟨ρ', S', h1, x5', x6', h2, h3⟩ := key
    refine ⟨x5', x6', ?_⟩
    rw [List.drop_zero] at h1
    rw [show (⟨X.map tD, none⟩ : Src).ds.length = X.length from List.length_map _, List.take_length] at h3
    rw [← h2, ← h3]
    exact h1
  · obtain ⟨x5', x6', rfl, rfl⟩ := p
    have hd : (X.map tD)[i]? = some d := hd
    rw [List.getElem?_map] at hd
    obtain ⟨f, hf, rfl⟩ := Option.map_eq_some_iff.mp hd
    obtain ⟨hf1, hf2⟩ := hX f (List.mem_of_getElem? hf)
    have hi : i < X.length := (List.getElem?_eq_some_iff.mp hf).1
    have hlen := len_fold (l := prs (X.take i) Y) (acc := acc)
    rw [len_prs, List.length_take] at hlen
    have hm := Nat.mul_le_mul (show min i X.length ≤ 16 by omega) hYn
    obtain ⟨x6'', e⟩ := b2_loop (P := P) (Q := Q) (O1 := O1) (O2 := O2) (f := f) (acc := (prs (X.take i) Y).foldl ins acc) (Y := Y) (x6 := x6') hf1 hf2 hY hYn (by
      intro l hl
      rcases mem_fold.mp hl with h | h
      · exact ha l h
      · obtain ⟨z, hz, s, hs, rfl⟩ := mem_prs.mp h
        have h1 := (hX z (List.mem_of_mem_take hz)).1
        have h2 := (hY s hs).1
        exact fun t ht => (List.mem_append.mp ht).elim (h1 t) (h2 t)) (by omega)
    refine ⟨_, .nx, [P, Q, some (.o 0), O1, O2, some (.d (tD f)), x6''], _, rfl, ?_, .inl rfl, some (.d (tD f)), x6'', rfl, rfl⟩
    subst hP hO
    unfold B2
    simp only [eC_, eTy_, eVar_0, eVar_s, eBin_, binJ_, binK_, aNil_, aCons_, consJ_, fMap_, mapK_, eCall_, lCall_, aDs_, dsK_, dsOf_nil, dsOf_cons, eTup_, eVal_, eObj_, fIf_, ifK_t, ifK_f, fTest_, tstK_, fTru_, vTru_bl, vTru_int, vTru_non, vTru_lst, vTru_tup, fAnd_, andK_t, andK_f, fOr_, orK_t, orK_f, fNot_, eAnd_, eandK_t, eandK_f, eOr_, eorK_t, eorK_f, eNot_, notK_, vAdd_i, vAddI_i, vSub_i, vLt_i, vLe_i, vGt_i, vGe_i, vEq_i, vNe_i, vIsN_non, vIsN_int, vIsN_bl, vIsN_str, vIsN_tup, vIsN_lst, vIx_t, vIx_l, atI_0, atI_1, atI_2, bLen_t, bLen_l, bInt_i, bInt_b, bIsi_int, bIsi_bl, bIsi_str, bIsi_tup, bIsi_lst, bIsi_non, is_ii, is_ib, is_it, is_bi, is_bb, is_tt, is_ti, is_tb, is_st, is_si, is_ss, is_nt, is_ll, is_lt, is_tl, bTup_l, bTup_t, bBools_l, bInts_l, eMl0_, eMl1_, oRev_, sNil_, sSeq_, seqK_nx, seqK_rt, seqK_bk, seqK_ct, sIf_, sifK_t, sifK_f, sAsg_, asgK_, gN_, gsNil_, gsCons_, sRet_, sRetN_, sExpr_, sPar_, parK_, eSeq_, srcOf_t, srcOf_l, oEnum_t, oEnum_l, oZip_t, oZip_l, eCallP_, oP1, oP2, oP3, prV_v, prV_l, eCallS_, eFld_, finP_n, finP_v, finS_n, finS_r, eSlT_, slK_1, drop_1, lLc_, wipe_n, wipe_c, lcGo_n, lcGo_c, lcB_t, lcB_f, lcC_, fTrue_, forK_, foGo_n, foGo_c, foK_nx, foK_ct, foK_bk, foK_rt, lkF_0, eChain_, chJ_, chK_, chL_t, chL_f, eMake_, makeJ_, eMeth_, sFld_, fldJ_, eNewX_, sSubX_, sxJ_, sxK_, decide_true, decide_false, lRev_, eRevT_, revTK_, lCallP_, obind_some, obind_none, omap_some, omap_none, List.getElem?_cons_zero, List.getElem?_cons_succ, set_0, set_s, if_true, if_false, Bool.false_eq_true, Bool.not_true, Bool.not_false, sFor_, h2, hr, hv, e]
    rw [take_succ' hf]
    have hp : prs (X.take i ++ [f]) Y = prs (X.take i) Y ++ Y.map fun s => f ++ s := by
      unfold prs
      rw [List.flatMap_append]
      simp
    rw [hp, List.foldl_append]
end
theorem gTp2 {gs : List D → Env' → Option Env'} {x y : D} {ρ : Env'} : gTp 2 gs (.d (.tup [x, y])) ρ = gs [x, y] ρ := (rfl)
theorem F_left_eq (T : Tb) : F_left_by T = sSeq2 (sIf (fTest (eBin vEq (eVar 0) (eC (.str "")))) (sSeq2 (sRet (eVal (aDs (aCons (eTup (aCons (eVar 1) (aNil))) (aNil))))) (sNil)) (sNil))
    (sSeq2 (sIf (fOr (fTru (eCallP 1 T.is_number (aCons (eVar 1) (aNil)))) (fTest (eBin vNe (eBin vIx (eVar 1) (eC (.int 0))) (eBin vIx (eVar 0) (eC (.int 0)))))) (sSeq2 (sRet (eVal (aDs (aNil)))) (sNil)) (sNil))
    (sSeq2 (sIf (fTest (eBin vEq (eBin vIx (eVar 0) (eC (.int 0))) (eC (.str "not")))) (sSeq2 (sRet (eCallP 2 T.left_by (aCons (eBin vIx (eVar 0) (eC (.int 1))) (aCons (eBin vIx (eVar 1) (eC (.int 1))) (aNil))))) (sNil)) (sNil))
    (sSeq2 (sAsg (eObj (aDs (aNil))) (gN 2))
    (sSeq2 (sFor (sSeq (eTup (aCons (eTup (aCons (eBin vIx (eVar 1) (eC (.int 1))) (aCons (eBin vIx (eVar 1) (eC (.int 2))) (aNil)))) (aCons (eTup (aCons (eBin vIx (eVar 1) (eC (.int 2))) (aCons (eBin vIx (eVar 1) (eC (.int 1))) (aNil)))) (aNil))))) (gTp 2 (gsCons (gN 3) (gsCons (gN 4) (gsNil)))) (B1 T))
    (sSeq2 (sRet (eVar 2)) (sNil)))))) := rfl
theorem nand_ne : decide (("nand" : Str) = "not") = false := by decide +kernel
theorem not_ne : decide (("not" : Str) = "nand") = false := by decide +kernel
theorem zero_lim : 0 ≤ Lim := Nat.zero_le _
theorem left_ok : ∀ (p : Pt) (t : Tr) (k : Nat), p.dep ≤ 2 → t.dep ≤ 50 → p.dep < k → ∃ r, (T (k + 1)).left_by [p.d, t.d] = some r ∧ prV r = .d (.lst ((leftBy p t).map tD)) := by
  intro p
  induction p with
  | ho =>
    intro t k _ _ hk
    refine ⟨.v (.lst [tD [t]]), ?_, by simp [leftBy, prV]⟩
    show (F_left_by (T k) [some (.d (.str "")), some (.d t.d), none, none, none, none, none] []).bind finP = _
    rw [F_left_eq]
    simp only [eC_, eTy_, eVar_0, eVar_s, eBin_, binJ_, binK_, aNil_, aCons_, consJ_, fMap_, mapK_, eCall_, lCall_, aDs_, dsK_, dsOf_nil, dsOf_cons, eTup_, eVal_, eObj_, fIf_, ifK_t, ifK_f, fTest_, tstK_, fTru_, vTru_bl, vTru_int, vTru_non, vTru_lst, vTru_tup, fAnd_, andK_t, andK_f, fOr_, orK_t, orK_f, fNot_, eAnd_, eandK_t, eandK_f, eOr_, eorK_t, eorK_f, eNot_, notK_, vAdd_i, vAddI_i, vSub_i, vLt_i, vLe_i, vGt_i, vGe_i, vEq_i, vNe_i, vIsN_non, vIsN_int, vIsN_bl, vIsN_str, vIsN_tup, vIsN_lst, vIx_t, vIx_l, atI_0, atI_1, atI_2, bLen_t, bLen_l, bInt_i, bInt_b, bIsi_int, bIsi_bl, bIsi_str, bIsi_tup, bIsi_lst, bIsi_non, is_ii, is_ib, is_it, is_bi, is_bb, is_tt, is_ti, is_tb, is_st, is_si, is_ss, is_nt, is_ll, is_lt, is_tl, bTup_l, bTup_t, bBools_l, bInts_l, eMl0_, eMl1_, oRev_, sNil_, sSeq_, seqK_nx, seqK_rt, seqK_bk, seqK_ct, sIf_, sifK_t, sifK_f, sAsg_, asgK_, gN_, gsNil_, gsCons_, sRet_, sRetN_, sExpr_, sPar_, parK_, eSeq_, srcOf_t, srcOf_l, oEnum_t, oEnum_l, oZip_t, oZip_l, eCallP_, oP1, oP2, oP3, prV_v, prV_l, eCallS_, eFld_, finP_n, finP_v, finS_n, finS_r, eSlT_, slK_1, drop_1, lLc_, wipe_n, wipe_c, lcGo_n, lcGo_c, lcB_t, lcB_f, lcC_, fTrue_, forK_, foGo_n, foGo_c, foK_nx, foK_ct, foK_bk, foK_rt, lkF_0, eChain_, chJ_, chK_, chL_t, chL_f, eMake_, makeJ_, eMeth_, sFld_, fldJ_, eNewX_, sSubX_, sxJ_, sxK_, decide_true, decide_false, lRev_, eRevT_, revTK_, lCallP_, obind_some, obind_none, omap_some, omap_none, List.getElem?_cons_zero, List.getElem?_cons_succ, set_0, set_s, if_true, if_false, Bool.false_eq_true, Bool.not_true, Bool.not_false, vEq_ ok_str0 ok_str0, eqv_ss, decide_true, List.length_cons, List.length_nil, Nat.zero_add, if_pos one_lim]
    rfl
  | nt p ih =>
    intro t k h2 h5 hk
    obtain ⟨k, rfl⟩ : ∃ j, k = j + 1 := ⟨k - 1, by omega⟩
    have okp : D.ok (.tup [.str "not", p.d]) = true := Pt.ok (t := .nt p) (by omega)
    cases t with
    | lf i =>
      refine ⟨.v (.lst []), ?_, by simp [leftBy, prV]⟩
      show (F_left_by (T (k + 1)) [some (.d (.tup [.str "not", p.d])), some (.d (.int i)), none, none, none, none, none] []).bind finP = _
      rw [F_left_eq]
      simp only [eC_, eTy_, eVar_0, eVar_s, eBin_, binJ_, binK_, aNil_, aCons_, consJ_, fMap_, mapK_, eCall_, lCall_, aDs_, dsK_, dsOf_nil, dsOf_cons, eTup_, eVal_, eObj_, fIf_, ifK_t, ifK_f, fTest_, tstK_, fTru_, vTru_bl, vTru_int, vTru_non, vTru_lst, vTru_tup, fAnd_, andK_t, andK_f, fOr_, orK_t, orK_f, fNot_, eAnd_, eandK_t, eandK_f, eOr_, eorK_t, eorK_f, eNot_, notK_, vAdd_i, vAddI_i, vSub_i, vLt_i, vLe_i, vGt_i, vGe_i, vEq_i, vNe_i, vIsN_non, vIsN_int, vIsN_bl, vIsN_str, vIsN_tup, vIsN_lst, vIx_t, vIx_l, atI_0, atI_1, atI_2, bLen_t, bLen_l, bInt_i, bInt_b, bIsi_int, bIsi_bl, bIsi_str, bIsi_tup, bIsi_lst, bIsi_non, is_ii, is_ib, is_it, is_bi, is_bb, is_tt, is_ti, is_tb, is_st, is_si, is_ss, is_nt, is_ll, is_lt, is_tl, bTup_l, bTup_t, bBools_l, bInts_l, eMl0_, eMl1_, oRev_, sNil_, sSeq_, seqK_nx, seqK_rt, seqK_bk, seqK_ct, sIf_, sifK_t, sifK_f, sAsg_, asgK_, gN_, gsNil_, gsCons_, sRet_, sRetN_, sExpr_, sPar_, parK_, eSeq_, srcOf_t, srcOf_l, oEnum_t, oEnum_l, oZip_t, oZip_l, eCallP_, oP1, oP2, oP3, prV_v, prV_l, eCallS_, eFld_, finP_n, finP_v, finS_n, finS_r, eSlT_, slK_1, drop_1, lLc_, wipe_n, wipe_c, lcGo_n, lcGo_c, lcB_t, lcB_f, lcC_, fTrue_, forK_, foGo_n, foGo_c, foK_nx, foK_ct, foK_bk, foK_rt, lkF_0, eChain_, chJ_, chK_, chL_t, chL_f, eMake_, makeJ_, eMeth_, sFld_, fldJ_, eNewX_, sSubX_, sxJ_, sxK_, decide_true, decide_false, lRev_, eRevT_, revTK_, lCallP_, obind_some, obind_none, omap_some, omap_none, List.getElem?_cons_zero, List.getElem?_cons_succ, set_0, set_s, if_true, if_false, Bool.false_eq_true, Bool.not_true, Bool.not_false, vEq_ okp ok_str0, eqv_ts, num_lf, List.length_nil, if_pos zero_lim]
    | nd a b =>
      refine ⟨.v (.lst []), ?_, by simp [leftBy, prV]⟩
      show (F_left_by (T (k + 1)) [some (.d (.tup [.str "not", p.d])), some (.d (.tup [.str "nand", a.d, b.d])), none, none, none, none, none] []).bind finP = _
      rw [F_left_eq]
      simp only [eC_, eTy_, eVar_0, eVar_s, eBin_, binJ_, binK_, aNil_, aCons_, consJ_, fMap_, mapK_, eCall_, lCall_, aDs_, dsK_, dsOf_nil, dsOf_cons, eTup_, eVal_, eObj_, fIf_, ifK_t, ifK_f, fTest_, tstK_, fTru_, vTru_bl, vTru_int, vTru_non, vTru_lst, vTru_tup, fAnd_, andK_t, andK_f, fOr_, orK_t, orK_f, fNot_, eAnd_, eandK_t, eandK_f, eOr_, eorK_t, eorK_f, eNot_, notK_, vAdd_i, vAddI_i, vSub_i, vLt_i, vLe_i, vGt_i, vGe_i, vEq_i, vNe_i, vIsN_non, vIsN_int, vIsN_bl, vIsN_str, vIsN_tup, vIsN_lst, vIx_t, vIx_l, atI_0, atI_1, atI_2, bLen_t, bLen_l, bInt_i, bInt_b, bIsi_int, bIsi_bl, bIsi_str, bIsi_tup, bIsi_lst, bIsi_non, is_ii, is_ib, is_it, is_bi, is_bb, is_tt, is_ti, is_tb, is_st, is_si, is_ss, is_nt, is_ll, is_lt, is_tl, bTup_l, bTup_t, bBools_l, bInts_l, eMl0_, eMl1_, oRev_, sNil_, sSeq_, seqK_nx, seqK_rt, seqK_bk, seqK_ct, sIf_, sifK_t, sifK_f, sAsg_, asgK_, gN_, gsNil_, gsCons_, sRet_, sRetN_, sExpr_, sPar_, parK_, eSeq_, srcOf_t, srcOf_l, oEnum_t, oEnum_l, oZip_t, oZip_l, eCallP_, oP1, oP2, oP3, prV_v, prV_l, eCallS_, eFld_, finP_n, finP_v, finS_n, finS_r, eSlT_, slK_1, drop_1, lLc_, wipe_n, wipe_c, lcGo_n, lcGo_c, lcB_t, lcB_f, lcC_, fTrue_, forK_, foGo_n, foGo_c, foK_nx, foK_ct, foK_bk, foK_rt, lkF_0, eChain_, chJ_, chK_, chL_t, chL_f, eMake_, makeJ_, eMeth_, sFld_, fldJ_, eNewX_, sSubX_, sxJ_, sxK_, decide_true, decide_false, lRev_, eRevT_, revTK_, lCallP_, obind_some, obind_none, omap_some, omap_none, List.getElem?_cons_zero, List.getElem?_cons_succ, set_0, set_s, if_true, if_false, Bool.false_eq_true, Bool.not_true, Bool.not_false, vEq_ okp ok_str0, eqv_ts, num_tup, vNe_ ok_strd ok_strn, eqv_ss, nand_ne, List.length_nil, if_pos zero_lim]
    | nt a =>
      obtain ⟨r, e1, e2⟩ := ih a k (by simp [Pt.dep] at h2; omega) (by simp [Tr.dep] at h5; omega) (by simp [Pt.dep] at hk; omega)
      refine ⟨.v (.lst ((leftBy p a).map tD)), ?_, by simp [leftBy, prV]⟩
      show (F_left_by (T (k + 1)) [some (.d (.tup [.str "not", p.d])), some (.d (.tup [.str "not", a.d])), none, none, none, none, none] []).bind finP = _
      rw [F_left_eq]
      simp only [eC_, eTy_, eVar_0, eVar_s, eBin_, binJ_, binK_, aNil_, aCons_, consJ_, fMap_, mapK_, eCall_, lCall_, aDs_, dsK_, dsOf_nil, dsOf_cons, eTup_, eVal_, eObj_, fIf_, ifK_t, ifK_f, fTest_, tstK_, fTru_, vTru_bl, vTru_int, vTru_non, vTru_lst, vTru_tup, fAnd_, andK_t, andK_f, fOr_, orK_t, orK_f, fNot_, eAnd_, eandK_t, eandK_f, eOr_, eorK_t, eorK_f, eNot_, notK_, vAdd_i, vAddI_i, vSub_i, vLt_i, vLe_i, vGt_i, vGe_i, vEq_i, vNe_i, vIsN_non, vIsN_int, vIsN_bl, vIsN_str, vIsN_tup, vIsN_lst, vIx_t, vIx_l, atI_0, atI_1, atI_2, bLen_t, bLen_l, bInt_i, bInt_b, bIsi_int, bIsi_bl, bIsi_str, bIsi_tup, bIsi_lst, bIsi_non, is_ii, is_ib, is_it, is_bi, is_bb, is_tt, is_ti, is_tb, is_st, is_si, is_ss, is_nt, is_ll, is_lt, is_tl, bTup_l, bTup_t, bBools_l, bInts_l, eMl0_, eMl1_, oRev_, sNil_, sSeq_, seqK_nx, seqK_rt, seqK_bk, seqK_ct, sIf_, sifK_t, sifK_f, sAsg_, asgK_, gN_, gsNil_, gsCons_, sRet_, sRetN_, sExpr_, sPar_, parK_, eSeq_, srcOf_t, srcOf_l, oEnum_t, oEnum_l, oZip_t, oZip_l, eCallP_, oP1, oP2, oP3, prV_v, prV_l, eCallS_, eFld_, finP_n, finP_v, finS_n, finS_r, eSlT_, slK_1, drop_1, lLc_, wipe_n, wipe_c, lcGo_n, lcGo_c, lcB_t, lcB_f, lcC_, fTrue_, forK_, foGo_n, foGo_c, foK_nx, foK_ct, foK_bk, foK_rt, lkF_0, eChain_, chJ_, chK_, chL_t, chL_f, eMake_, makeJ_, eMeth_, sFld_, fldJ_, eNewX_, sSubX_, sxJ_, sxK_, decide_true, decide_false, lRev_, eRevT_, revTK_, lCallP_, obind_some, obind_none, omap_some, omap_none, List.getElem?_cons_zero, List.getElem?_cons_succ, set_0, set_s, if_true, if_false, Bool.false_eq_true, Bool.not_true, Bool.not_false, vEq_ okp ok_str0, eqv_ts, num_tup, vNe_ ok_strn ok_strn, vEq_ ok_strn ok_strn, eqv_ss, decide_true, e1, e2]
  | nd p q ihp ihq =>
    intro t k h2 h5 hk
    obtain ⟨k, rfl⟩ : ∃ j, k = j + 1 := ⟨k - 1, by omega⟩
    have okp : D.ok (.tup [.str "nand", p.d, q.d]) = true := Pt.ok (t := .nd p q) (by omega)
    cases t with
    | lf i =>
      refine ⟨.v (.lst []), ?_, by simp [leftBy, prV]⟩
      show (F_left_by (T (k + 1)) [some (.d (.tup [.str "nand", p.d, q.d])), some (.d (.int i)), none, none, none, none, none] []).bind finP = _
      rw [F_left_eq]
      simp only [eC_, eTy_, eVar_0, eVar_s, eBin_, binJ_, binK_, aNil_, aCons_, consJ_, fMap_, mapK_, eCall_, lCall_, aDs_, dsK_, dsOf_nil, dsOf_cons, eTup_, eVal_, eObj_, fIf_, ifK_t, ifK_f, fTest_, tstK_, fTru_, vTru_bl, vTru_int, vTru_non, vTru_lst, vTru_tup, fAnd_, andK_t, andK_f, fOr_, orK_t, orK_f, fNot_, eAnd_, eandK_t, eandK_f, eOr_, eorK_t, eorK_f, eNot_, notK_, vAdd_i, vAddI_i, vSub_i, vLt_i, vLe_i, vGt_i, vGe_i, vEq_i, vNe_i, vIsN_non, vIsN_int, vIsN_bl, vIsN_str, vIsN_tup, vIsN_lst, vIx_t, vIx_l, atI_0, atI_1, atI_2, bLen_t, bLen_l, bInt_i, bInt_b, bIsi_int, bIsi_bl, bIsi_str, bIsi_tup, bIsi_lst, bIsi_non, is_ii, is_ib, is_it, is_bi, is_bb, is_tt, is_ti, is_tb, is_st, is_si, is_ss, is_nt, is_ll, is_lt, is_tl, bTup_l, bTup_t, bBools_l, bInts_l, eMl0_, eMl1_, oRev_, sNil_, sSeq_, seqK_nx, seqK_rt, seqK_bk, seqK_ct, sIf_, sifK_t, sifK_f, sAsg_, asgK_, gN_, gsNil_, gsCons_, sRet_, sRetN_, sExpr_, sPar_, parK_, eSeq_, srcOf_t, srcOf_l, oEnum_t, oEnum_l, oZip_t, oZip_l, eCallP_, oP1, oP2, oP3, prV_v, prV_l, eCallS_, eFld_, finP_n, finP_v, finS_n, finS_r, eSlT_, slK_1, drop_1, lLc_, wipe_n, wipe_c, lcGo_n, lcGo_c, lcB_t, lcB_f, lcC_, fTrue_, forK_, foGo_n, foGo_c, foK_nx, foK_ct, foK_bk, foK_rt, lkF_0, eChain_, chJ_, chK_, chL_t, chL_f, eMake_, makeJ_, eMeth_, sFld_, fldJ_, eNewX_, sSubX_, sxJ_, sxK_, decide_true, decide_false, lRev_, eRevT_, revTK_, lCallP_, obind_some, obind_none, omap_some, omap_none, List.getElem?_cons_zero, List.getElem?_cons_succ, set_0, set_s, if_true, if_false, Bool.false_eq_true, Bool.not_true, Bool.not_false, vEq_ okp ok_str0, eqv_ts, num_lf, List.length_nil, if_pos zero_lim]
    | nt a =>
      refine ⟨.v (.lst []), ?_, by simp [leftBy, prV]⟩
      show (F_left_by (T (k + 1)) [some (.d (.tup [.str "nand", p.d, q.d])), some (.d (.tup [.str "not", a.d])), none, none, none, none, none] []).bind finP = _
      rw [F_left_eq]
      simp only [eC_, eTy_, eVar_0, eVar_s, eBin_, binJ_, binK_, aNil_, aCons_, consJ_, fMap_, mapK_, eCall_, lCall_, aDs_, dsK_, dsOf_nil, dsOf_cons, eTup_, eVal_, eObj_, fIf_, ifK_t, ifK_f, fTest_, tstK_, fTru_, vTru_bl, vTru_int, vTru_non, vTru_lst, vTru_tup, fAnd_, andK_t, andK_f, fOr_, orK_t, orK_f, fNot_, eAnd_, eandK_t, eandK_f, eOr_, eorK_t, eorK_f, eNot_, notK_, vAdd_i, vAddI_i, vSub_i, vLt_i, vLe_i, vGt_i, vGe_i, vEq_i, vNe_i, vIsN_non, vIsN_int, vIsN_bl, vIsN_str, vIsN_tup, vIsN_lst, vIx_t, vIx_l, atI_0, atI_1, atI_2, bLen_t, bLen_l, bInt_i, bInt_b, bIsi_int, bIsi_bl, bIsi_str, bIsi_tup, bIsi_lst, bIsi_non, is_ii, is_ib, is_it, is_bi, is_bb, is_tt, is_ti, is_tb, is_st, is_si, is_ss, is_nt, is_ll, is_lt, is_tl, bTup_l, bTup_t, bBools_l, bInts_l, eMl0_, eMl1_, oRev_, sNil_, sSeq_, seqK_nx, seqK_rt, seqK_bk, seqK_ct, sIf_, sifK_t, sifK_f, sAsg_, asgK_, gN_, gsNil_, gsCons_, sRet_, sRetN_, sExpr_, sPar_, parK_, eSeq_, srcOf_t, srcOf_l, oEnum_t, oEnum_l, oZip_t, oZip_l, eCallP_, oP1, oP2, oP3, prV_v, prV_l, eCallS_, eFld_, finP_n, finP_v, finS_n, finS_r, eSlT_, slK_1, drop_1, lLc_, wipe_n, wipe_c, lcGo_n, lcGo_c, lcB_t, lcB_f, lcC_, fTrue_, forK_, foGo_n, foGo_c, foK_nx, foK_ct, foK_bk, foK_rt, lkF_0, eChain_, chJ_, chK_, chL_t, chL_f, eMake_, makeJ_, eMeth_, sFld_, fldJ_, eNewX_, sSubX_, sxJ_, sxK_, decide_true, decide_false, lRev_, eRevT_, revTK_, lCallP_, obind_some, obind_none, omap_some, omap_none, List.getElem?_cons_zero, List.getElem?_cons_succ, set_0, set_s, if_true, if_false, Bool.false_eq_true, Bool.not_true, Bool.not_false, vEq_ okp ok_str0, eqv_ts, num_tup, vNe_ ok_strn ok_strd, eqv_ss, not_ne, List.length_nil, if_pos zero_lim]
    | nd a b =>
      have hp2 : p.dep ≤ 2 := by simp [Pt.dep] at h2; omega
      have hq2 : q.dep ≤ 2 := by simp [Pt.dep] at h2; omega
      have hpk : p.dep < k := by simp [Pt.dep] at hk; omega
      have hqk : q.dep < k := by simp [Pt.dep] at hk; omega
      have ha5 : a.dep ≤ 50 := by simp [Tr.dep] at h5; omega
      have hb5 : b.dep ≤ 50 := by simp [Tr.dep] at h5; omega
      obtain ⟨r1, e1, v1⟩ := ihp a k hp2 ha5 hpk
      obtain ⟨r2, e2, v2⟩ := ihq b k hq2 hb5 hqk
      obtain ⟨r3, e3, v3⟩ := ihp b k hp2 hb5 hpk
      obtain ⟨r4, e4, v4⟩ := ihq a k hq2 ha5 hqk
      have B : ∀ (p : Pt) (t : Tr), p.dep ≤ 2 → t.dep ≤ 50 → (∀ l ∈ leftBy p t, sm l ∧ l.length ≤ 16) ∧ (leftBy p t).length ≤ 16 := fun p t h1 h2 => by
        have b := Pt.b2 h1
        refine ⟨fun l hl => ⟨left_sm h2 l hl, ?_⟩, ?_⟩
        · rw [M.len (mem_left.mp hl)]; omega
        · have := left_len p t; omega
      have b1 := B p a hp2 ha5
      have b2 := B q b hq2 hb5
      have b3 := B p b hp2 hb5
      have b4 := B q a hq2 ha5
      obtain ⟨y5, y6, l1⟩ := b1_loop (P := some (.d (.tup [.str "nand", p.d, q.d]))) (Q := some (.d (.tup [.str "nand", a.d, b.d]))) (O1 := some (.d a.d)) (O2 := some (.d b.d)) (acc := []) (X := leftBy p a) (Y := leftBy q b) (x5 := none) (x6 := none) (k := k + 1) (q := q) rfl atI_2 rfl e2 v2 b1.1 b1.2 b2.1 b2.2 (fun l h => nomatch h) (by simp)
      have lp := len_fold (l := prs (leftBy p a) (leftBy q b)) (acc := [])
      rw [len_prs] at lp
      have lm := Nat.mul_le_mul b1.2 b2.2
      obtain ⟨z5, z6, l2⟩ := b1_loop (P := some (.d (.tup [.str "nand", p.d, q.d]))) (Q := some (.d (.tup [.str "nand", a.d, b.d]))) (O1 := some (.d b.d)) (O2 := some (.d a.d)) (acc := (prs (leftBy p a) (leftBy q b)).foldl ins []) (X := leftBy p b) (Y := leftBy q a) (x5 := y5) (x6 := y6) (k := k + 1) (q := q) rfl atI_2 rfl e4 v4 b3.1 b3.2 b4.1 b4.2 (fun l h => by
        rcases mem_fold.mp h with h | h
        · cases h
        · obtain ⟨z, hz, s, hs, rfl⟩ := mem_prs.mp h
          exact fun t ht => (List.mem_append.mp ht).elim ((b1.1 z hz).1 t) ((b2.1 s hs).1 t)) (by simp only [List.length_nil] at lp; omega)
      refine ⟨.l ((leftBy (.nd p q) (.nd a b)).map tD), ?_, rfl⟩
      have lf := left_len (.nd p q) (.nd a b)
      have lc := (Pt.b2 h2).2
      have hfin : ∀ ρ, finP (.rt (.o 0), ρ, [.lst ((leftBy (.nd p q) (.nd a b)).map tD)]) = some (.l ((leftBy (.nd p q) (.nd a b)).map tD)) := fun ρ => finP_o rfl (by rw [List.length_map]; unfold Lim; omega)
      have e9 : leftBy (.nd p q) (.nd a b) = (prs (leftBy p b) (leftBy q a)).foldl ins ((prs (leftBy p a) (leftBy q b)).foldl ins []) := by rw [leftBy, List.foldl_append]
      rw [List.map_nil] at l1
      rw [e9] at hfin ⊢
      show (F_left_by (T (k + 1)) [some (.d (.tup [.str "nand", p.d, q.d])), some (.d (.tup [.str "nand", a.d, b.d])), none, none, none, none, none] []).bind finP = _
      rw [F_left_eq]
      simp only [eC_, eTy_, eVar_0, eVar_s, eBin_, binJ_, binK_, aNil_, aCons_, consJ_, fMap_, mapK_, eCall_, lCall_, aDs_, dsK_, dsOf_nil, dsOf_cons, eTup_, eVal_, eObj_, fIf_, ifK_t, ifK_f, fTest_, tstK_, fTru_, vTru_bl, vTru_int, vTru_non, vTru_lst, vTru_tup, fAnd_, andK_t, andK_f, fOr_, orK_t, orK_f, fNot_, eAnd_, eandK_t, eandK_f, eOr_, eorK_t, eorK_f, eNot_, notK_, vAdd_i, vAddI_i, vSub_i, vLt_i, vLe_i, vGt_i, vGe_i, vEq_i, vNe_i, vIsN_non, vIsN_int, vIsN_bl, vIsN_str, vIsN_tup, vIsN_lst, vIx_t, vIx_l, atI_0, atI_1, atI_2, bLen_t, bLen_l, bInt_i, bInt_b, bIsi_int, bIsi_bl, bIsi_str, bIsi_tup, bIsi_lst, bIsi_non, is_ii, is_ib, is_it, is_bi, is_bb, is_tt, is_ti, is_tb, is_st, is_si, is_ss, is_nt, is_ll, is_lt, is_tl, bTup_l, bTup_t, bBools_l, bInts_l, eMl0_, eMl1_, oRev_, sNil_, sSeq_, seqK_nx, seqK_rt, seqK_bk, seqK_ct, sIf_, sifK_t, sifK_f, sAsg_, asgK_, gN_, gsNil_, gsCons_, sRet_, sRetN_, sExpr_, sPar_, parK_, eSeq_, srcOf_t, srcOf_l, oEnum_t, oEnum_l, oZip_t, oZip_l, eCallP_, oP1, oP2, oP3, prV_v, prV_l, eCallS_, eFld_, finP_n, finP_v, finS_n, finS_r, eSlT_, slK_1, drop_1, lLc_, wipe_n, wipe_c, lcGo_n, lcGo_c, lcB_t, lcB_f, lcC_, fTrue_, forK_, foGo_n, foGo_c, foK_nx, foK_ct, foK_bk, foK_rt, lkF_0, eChain_, chJ_, chK_, chL_t, chL_f, eMake_, makeJ_, eMeth_, sFld_, fldJ_, eNewX_, sSubX_, sxJ_, sxK_, decide_true, decide_false, lRev_, eRevT_, revTK_, lCallP_, obind_some, obind_none, omap_some, omap_none, List.getElem?_cons_zero, List.getElem?_cons_succ, set_0, set_s, if_true, if_false, Bool.false_eq_true, Bool.not_true, Bool.not_false, vEq_ okp ok_str0, eqv_ts, num_tup, vNe_ ok_strd ok_strd, vEq_ ok_strd ok_strn, eqv_ss, nand_ne, decide_true, List.length_nil, if_pos zero_lim, List.nil_append, List.length_cons, Nat.zero_add, Nat.reduceAdd, if_pos two_lim, sFor_, gTp2, B1, e1, v1, e3, v3, l1, l2, hfin]
end K61

namespace K61
open PySem PySem.Spec PyProof.Rows L2 Ev

/-! ### libraries, costs, covers -/
abbrev Lib := List (Int × Pt)
def rowD (r : Int × Pt) : D := .tup [.int r.1, r.2.d]
def libD (L : Lib) : D := .tup (L.map rowD)
structure WL (L : Lib) : Prop where
  len : 1 ≤ L.length ∧ L.length ≤ 20
  cost : ∀ r ∈ L, 0 ≤ r.1 ∧ r.1 ≤ 1000
  pat : ∀ r ∈ L, r.2 ≠ .ho ∧ r.2.dep ≤ 2
  n1 : ∃ c, (c, Pt.nt .ho) ∈ L
  n2 : ∃ c, (c, Pt.nd .ho .ho) ∈ L
mutual
/-- a cost that can be reached -/
inductive Ach (L : Lib) : Tr → Int → Prop
  | lf (i : Nat) : Ach L (.lf i) 0
  | no {t : Tr} {r : Int × Pt} {l : List Tr} {c : Int} : r ∈ L → r.2 ≠ .ho → M r.2 t l → Achs L l c → Ach L t (r.1 + c)
inductive Achs (L : Lib) : List Tr → Int → Prop
  | nil : Achs L [] 0
  | cons {t : Tr} {l : List Tr} {c d : Int} : Ach L t c → Achs L l d → Achs L (t :: l) (c + d)
end
def Best (L : Lib) (t : Tr) (c : Int) : Prop := Ach L t c ∧ ∀ c', Ach L t c' → c ≤ c'
mutual
/-- a cover, read one way -/
inductive Cvr (L : Lib) : Tr → D → Int → Prop
  | lf (i : Nat) : Cvr L (.lf i) (.tup []) 0
  | no {t : Tr} {i : Nat} {r : Int × Pt} {l : List Tr} {cs : List D} {c : Int} : L[i]? = some r → r.2 ≠ .ho → M r.2 t l → Cvrs L l cs c → Cvr L t (.tup [.int i, .tup cs]) (r.1 + c)
inductive Cvrs (L : Lib) : List Tr → List D → Int → Prop
  | nil : Cvrs L [] [] 0
  | cons {t : Tr} {l : List Tr} {v : D} {cs : List D} {c d : Int} : Cvr L t v c → Cvrs L l cs d → Cvrs L (t :: l) (v :: cs) (c + d)
end
mutual
theorem Cvr.ach {L : Lib} : ∀ {t : Tr} {v : D} {c : Int}, Cvr L t v c → Ach L t c
  | _, _, _, .lf i => .lf i
  | _, _, _, .no h1 h2 h3 h4 => .no (List.mem_of_getElem? h1) h2 h3 (Cvrs.ach h4)
theorem Cvrs.ach {L : Lib} : ∀ {t : List Tr} {v : List D} {c : Int}, Cvrs L t v c → Achs L t c
  | _, _, _, .nil => .nil
  | _, _, _, .cons h1 h2 => .cons (Cvr.ach h1) (Cvrs.ach h2)
end
theorem M.lt {p : Pt} {t : Tr} {l : List Tr} (h : M p t l) (hp : p ≠ .ho) : ∀ s ∈ l, s.dep < t.dep := by
  cases h with
  | ho => exact absurd rfl hp
  | nt h => intro s hs; have := h.dep s hs; simp only [Tr.dep]; omega
  | nd h1 h2 =>
    intro s hs
    simp only [Tr.dep]
    rcases List.mem_append.mp hs with h | h
    · have := h1.dep s h; omega
    · have := h2.dep s h; omega
  | dn h1 h2 =>
    intro s hs
    simp only [Tr.dep]
    rcases List.mem_append.mp hs with h | h
    · have := h1.dep s h; omega
    · have := h2.dep s h; omega
theorem M.nlf {p : Pt} {i : Nat} {l : List Tr} (h : M p (.lf i) l) : p = .ho := by cases h; rfl
theorem Cvrs.len {L : Lib} : ∀ {t : List Tr} {v : List D} {c : Int}, Cvrs L t v c → t.length = v.length
  | _, _, _, .nil => rfl
  | _, _, _, .cons _ h2 => congrArg Nat.succ h2.len
/-- covers by the first N rows, nested d deep at most -/
def shp (N : Nat) : Nat → D → Bool
  | _, .tup [] => true
  | d + 1, .tup [.int i, .tup cs] => decide (0 ≤ i) && (decide (i < N) && cs.all (shp N d))
  | _, _ => false
theorem shp_mono {N : Nat} : ∀ {d e : Nat} {v : D}, d ≤ e → shp N d v = true → shp N e v = true
  | 0, e, v, _, h => by
    unfold shp at h
    split at h
    · cases e <;> rfl
    · omega
    · cases h
  | d + 1, 0, v, hd, _ => by omega
  | d + 1, e + 1, v, hd, h => by
    unfold shp at h
    split at h
    · rfl
    · rename_i d' i cs he
      have : d' = d := by omega
      subst this
      unfold shp
      simp only [Bool.and_eq_true, List.all_eq_true] at h ⊢
      exact ⟨h.1, h.2.1, fun x hx => shp_mono (by omega) (h.2.2 x hx)⟩
    · cases h
theorem Cvrs.get {L : Lib} : ∀ {t : List Tr} {v : List D} {c : Int}, Cvrs L t v c → ∀ x ∈ v, ∃ s ∈ t, ∃ c', Cvr L s x c'
  | _, _, _, .nil, x, hx => nomatch hx
  | _, _, _, .cons h1 h2, x, hx => by
    rcases List.mem_cons.mp hx with rfl | hx
    · exact ⟨_, List.mem_cons_self, _, h1⟩
    · obtain ⟨s, hs, c', h⟩ := h2.get x hx
      exact ⟨s, List.mem_cons_of_mem _ hs, c', h⟩
theorem Cvr.shp {L : Lib} : ∀ (n : Nat) {t : Tr} {v : D} {c : Int}, t.dep ≤ n → Cvr L t v c → shp L.length n v = true := by
  intro n
  induction n with
  | zero =>
    intro t v c hn h
    cases h with
    | lf i => rfl
    | no h1 h2 h3 h4 =>
      cases t with
      | lf i => exact absurd h3.nlf h2
      | nt a => simp [Tr.dep] at hn
      | nd a b => simp [Tr.dep] at hn
  | succ n ih =>
    intro t v c hn h
    cases h with
    | lf i => rfl
    | no h1 h2 h3 h4 =>
      unfold K61.shp
      have hi := (List.getElem?_eq_some_iff.mp h1).1
      simp only [Bool.and_eq_true, List.all_eq_true, decide_eq_true_eq]
      refine ⟨by omega, by omega, fun x hx => ?_⟩
      obtain ⟨s, hs, c', hc⟩ := h4.get x hx
      exact ih (by have := h3.lt h2 s hs; omega) hc
/-! more rows; fewer -/
mutual
theorem Cvr.more {L E : Lib} : ∀ {t : Tr} {v : D} {c : Int}, Cvr L t v c → Cvr (L ++ E) t v c
  | _, _, _, .lf i => .lf i
  | _, _, _, .no h1 h2 h3 h4 => .no (by rw [List.getElem?_append_left (List.getElem?_eq_some_iff.mp h1).1]; exact h1) h2 h3 (Cvrs.more h4)
theorem Cvrs.more {L E : Lib} : ∀ {t : List Tr} {v : List D} {c : Int}, Cvrs L t v c → Cvrs (L ++ E) t v c
  | _, _, _, .nil => .nil
  | _, _, _, .cons h1 h2 => .cons (Cvr.more h1) (Cvrs.more h2)
end
theorem shp_inv {N d : Nat} {i : Nat} {cs : List D} (h : shp N d (.tup [.int i, .tup cs]) = true) : i < N ∧ ∀ x ∈ cs, ∃ e, shp N e x = true := by
  cases d with
  | zero => simp [shp] at h
  | succ d =>
    unfold shp at h
    simp only [Bool.and_eq_true, List.all_eq_true, decide_eq_true_eq] at h
    exact ⟨by omega, fun x hx => ⟨d, h.2.2 x hx⟩⟩
mutual
theorem Cvr.less {L E : Lib} : ∀ {t : Tr} {v : D} {c : Int}, (∃ d, K61.shp L.length d v = true) → Cvr (L ++ E) t v c → Cvr L t v c
  | _, _, _, _, .lf i => .lf i
  | _, _, _, h, .no h1 h2 h3 h4 => by
    obtain ⟨d, h⟩ := h
    obtain ⟨hi, hc⟩ := shp_inv h
    exact .no (by rw [List.getElem?_append_left hi] at h1; exact h1) h2 h3 (Cvrs.less hc h4)
theorem Cvrs.less {L E : Lib} : ∀ {t : List Tr} {v : List D} {c : Int}, (∀ x ∈ v, ∃ d, K61.shp L.length d x = true) → Cvrs (L ++ E) t v c → Cvrs L t v c
  | _, _, _, _, .nil => .nil
  | _, _, _, h, .cons h1 h2 => .cons (Cvr.less (h _ List.mem_cons_self) h1) (Cvrs.less (fun x hx => h x (List.mem_cons_of_mem _ hx)) h2)
end
theorem shp_okN {N : Nat} : ∀ {d : Nat} {v : D}, shp N d v = true → D.okN (2 * d + 1) v = true
  | 0, v, h => by
    unfold shp at h
    split at h
    · rfl
    · omega
    · cases h
  | d + 1, v, h => by
    unfold shp at h
    split at h
    · simp [D.okN]
    · rename_i d' i cs he
      have : d' = d := by omega
      subst this
      simp only [Bool.and_eq_true, List.all_eq_true] at h
      show D.okN (2 * d' + 2 + 1) _ = true
      simp only [D.okN, List.all_cons, List.all_nil, Bool.and_true, Bool.true_and, List.all_eq_true]
      exact fun x hx => shp_okN (h.2.2 x hx)
    · cases h
end K61

namespace K61
open PySem PySem.Spec PyProof.Rows L2 Ev

/-! ### cost_by -/
def oD : Option Int → D
  | none => .non
  | some c => .int c
def MinAt (L : Lib) (t : Tr) (v : D) (o : Option Int) : Prop := (∀ c, o = some c → Cvr L t v c) ∧ ∀ c, Cvr L t v c → ∃ c', o = some c' ∧ c' ≤ c
inductive MinL (L : Lib) : List Tr → List D → List (Option Int) → Prop
  | nil : MinL L [] [] []
  | cons {t : Tr} {l : List Tr} {v : D} {cs : List D} {o : Option Int} {os : List (Option Int)} : MinAt L t v o → MinL L l cs os → MinL L (t :: l) (v :: cs) (o :: os)
theorem MinL.sound {L : Lib} {l : List Tr} {cs : List D} {os : List (Option Int)} (h : MinL L l cs os) : ∀ {is : List Int}, os = is.map some → Cvrs L l cs is.sum ∧ ∀ c, Cvrs L l cs c → is.sum ≤ c := by
  induction h with
  | nil =>
    intro is e
    cases is with
    | nil => exact ⟨.nil, fun c h => by cases h; simp⟩
    | cons i is => simp at e
  | cons h1 h2 ih =>
    intro is e
    cases is with
    | nil => simp at e
    | cons i is =>
      simp only [List.map_cons, List.cons.injEq] at e
      obtain ⟨rfl, e⟩ := e
      obtain ⟨h3, h4⟩ := ih e
      rw [List.sum_cons]
      refine ⟨.cons (h1.1 i rfl) h3, fun c h => ?_⟩
      cases h with
      | cons g1 g2 =>
        obtain ⟨c', e1, e2⟩ := h1.2 _ g1
        cases e1
        have := h4 _ g2
        omega
theorem MinL.no {L : Lib} {l : List Tr} {cs : List D} {os : List (Option Int)} (h : MinL L l cs os) : none ∈ os → ∀ c, ¬ Cvrs L l cs c := by
  induction h with
  | nil => intro h; cases h
  | cons h1 h2 ih =>
    intro h c g
    cases g with
    | cons g1 g2 =>
      rcases List.mem_cons.mp h with e | h
      · obtain ⟨c', e1, _⟩ := h1.2 _ g1
        rw [← e] at e1
        cases e1
      · exact ih h _ g2
theorem os_cases (os : List (Option Int)) : (∃ is : List Int, os = is.map some) ∨ none ∈ os := by
  induction os with
  | nil => exact .inl ⟨[], rfl⟩
  | cons o os ih =>
    cases o with
    | none => exact .inr List.mem_cons_self
    | some i =>
      rcases ih with ⟨is, rfl⟩ | h
      · exact .inl ⟨i :: is, rfl⟩
      · exact .inr (List.mem_cons_of_mem _ h)
theorem ok_oD {os : List (Option Int)} : D.ok (.lst (os.map oD)) = true := ok_of (n := 1) (by
  simp only [D.okN, List.all_eq_true, List.mem_map, forall_exists_index, and_imp, forall_apply_eq_imp_iff₂]
  intro o _
  cases o <;> rfl)
theorem in_oD {os : List (Option Int)} (h : none ∈ os) : inD .non (os.map oD) = true := by
  unfold inD
  rw [List.any_eq_true]
  exact ⟨.non, List.mem_map.mpr ⟨none, h, rfl⟩, by simp [D.eqv, D.py, PyData.eqv]⟩
theorem oD_some {is : List Int} : (is.map some).map oD = is.map D.int := by simp [oD]
/-- the body of the loop -/
def AT (T : Tb) : Fs := sAsg (eVal (lLc (fMap (aCons (eVar 6) (aCons (eBin vIx (eVar 2) (eC (.int 1))) (aNil))) oZip) (gTp 2 (gsCons (gN 8) (gsCons (gN 9) (gsNil)))) (fTrue) (eCallP 3 T.cost_by (aCons (eVar 8) (aCons (eVar 1) (aCons (eVar 9) (aNil))))) [8, 9])) (gN 7)
def BL (T : Tb) : Fs := sSeq2 (sIf (fTest (eBin vEq (eCall bLen (aCons (eVar 6) (aNil))) (eCall bLen (aCons (eBin vIx (eVar 2) (eC (.int 1))) (aNil))))) (sSeq2 (AT T)
    (sSeq2 (sIf (fAnd (fTest (eBin (vIn true) (eC .non) (eVar 7))) (fOr (fTest (eBin (vIsN false) (eVar 5) (eC .non))) (fTest (eBin vLt (eBin vAdd (eVar 3) (eCall (bInts List.sum) (aCons (eVar 7) (aNil)))) (eVar 5))))) (sSeq2 (sAsg (eBin vAdd (eVar 3) (eCall (bInts List.sum) (aCons (eVar 7) (aNil)))) (gN 5))
    (sNil)) (sNil))
    (sNil))) (sNil))
    (sNil)
def CBok (L : Lib) (k : Nat) (t : Tr) (v : D) : Prop := ∃ o, (T k).cost_by [t.d, libD L, v] = some (.v (oD o)) ∧ MinAt L t v o
theorem told_ok {L : Lib} {k : Nat} {xs : List D} {a b c d e f g : Option RV} : ∀ {l : List Tr} {cs : List D}, l.length = cs.length → (∀ t ∈ l, ∀ v ∈ cs, CBok L k t v) → ∃ os, lcGo ⟨xs, none⟩ (gTp 2 (gsCons (gN 8) (gsCons (gN 9) (gsNil)))) (fTrue) (eCallP 3 (T k).cost_by (aCons (eVar 8) (aCons (eVar 1) (aCons (eVar 9) (aNil)))))
      [a, some (.d (libD L)), b, c, d, e, f, g, none, none] (zipD (l.map Tr.d) cs) [] = some (os.map oD, []) ∧ MinL L l cs os
  | [], [], _, _ => ⟨[], lcGo_n, .nil⟩
  | t :: l, v :: cs, hl, h => by
    obtain ⟨o, h1, h2⟩ := h t List.mem_cons_self v List.mem_cons_self
    obtain ⟨os, h3, h4⟩ := told_ok (xs := xs) (a := a) (b := b) (c := c) (d := d) (e := e) (f := f) (g := g) (L := L) (k := k) (l := l) (cs := cs) (by simpa using hl) fun t ht v hv => h t (List.mem_cons_of_mem _ ht) v (List.mem_cons_of_mem _ hv)
    refine ⟨o :: os, ?_, .cons h2 h4⟩
    rw [List.map_cons, zipD]
    simp only [eC_, eTy_, eVar_0, eVar_s, eBin_, binJ_, binK_, aNil_, aCons_, consJ_, fMap_, mapK_, eCall_, lCall_, aDs_, dsK_, dsOf_nil, dsOf_cons, eTup_, eVal_, eObj_, fIf_, ifK_t, ifK_f, fTest_, tstK_, fTru_, vTru_bl, vTru_int, vTru_non, vTru_lst, vTru_tup, fAnd_, andK_t, andK_f, fOr_, orK_t, orK_f, fNot_, eAnd_, eandK_t, eandK_f, eOr_, eorK_t, eorK_f, eNot_, notK_, vAdd_i, vAddI_i, vSub_i, vLt_i, vLe_i, vGt_i, vGe_i, vEq_i, vNe_i, vIsN_non, vIsN_int, vIsN_bl, vIsN_str, vIsN_tup, vIsN_lst, vIx_t, vIx_l, atI_0, atI_1, atI_2, bLen_t, bLen_l, bInt_i, bInt_b, bIsi_int, bIsi_bl, bIsi_str, bIsi_tup, bIsi_lst, bIsi_non, is_ii, is_ib, is_it, is_bi, is_bb, is_tt, is_ti, is_tb, is_st, is_si, is_ss, is_nt, is_ll, is_lt, is_tl, bTup_l, bTup_t, bBools_l, bInts_l, eMl0_, eMl1_, oRev_, sNil_, sSeq_, seqK_nx, seqK_rt, seqK_bk, seqK_ct, sIf_, sifK_t, sifK_f, sAsg_, asgK_, gN_, gsNil_, gsCons_, sRet_, sRetN_, sExpr_, sPar_, parK_, eSeq_, srcOf_t, srcOf_l, oEnum_t, oEnum_l, oZip_t, oZip_l, eCallP_, oP1, oP2, oP3, prV_v, prV_l, eCallS_, eFld_, finP_n, finP_v, finS_n, finS_r, eSlT_, slK_1, drop_1, lLc_, wipe_n, wipe_c, lcGo_n, lcGo_c, lcB_t, lcB_f, lcC_, fTrue_, forK_, foGo_n, foGo_c, foK_nx, foK_ct, foK_bk, foK_rt, lkF_0, eChain_, chJ_, chK_, chL_t, chL_f, eMake_, makeJ_, eMeth_, sFld_, fldJ_, eNewX_, sSubX_, sxJ_, sxK_, decide_true, decide_false, lRev_, eRevT_, revTK_, lCallP_, obind_some, obind_none, omap_some, omap_none, List.getElem?_cons_zero, List.getElem?_cons_succ, set_0, set_s, if_true, if_false, Bool.false_eq_true, Bool.not_true, Bool.not_false, gTp2, h1, h3]
    rfl
  | [], _ :: _, hl, _ => by simp at hl
  | _ :: _, [], hl, _ => by simp at hl
theorem bLen_tD {l : List Tr} {S : Sto} : bLen [.d (tD l)] S = some (.d (.int (l.length : Nat))) := by unfold tD; rw [bLen_t, List.length_map]
section
variable {L : Lib} {k : Nat} {t : Tr} {i : Nat} {r : Int × Pt} {cs : List D} {l : List Tr} {o : Option Int} {x6 x7 x8 x9 : Option RV}
abbrev RC (L : Lib) (t : Tr) (i : Nat) (r : Int × Pt) (cs : List D) (o : Option Int) (x6 x7 x8 x9 : Option RV) : Env' := [some (.d t.d), some (.d (libD L)), some (.d (.tup [.int (i : Nat), .tup cs])), some (.d (.int r.1)), some (.d r.2.d), some (.d (oD o)), x6, x7, x8, x9]
theorem bl_step (hr : L[i]? = some r) (hp : r.2 ≠ .ho) (hm : M r.2 t l) (hl16 : l.length ≤ 16) (hcb : ∀ s ∈ l, ∀ v ∈ cs, CBok L k s v) (ho : ∀ c, o = some c → Cvr L t (.tup [.int (i : Nat), .tup cs]) c) :
    ∃ o' y7, BL (T k) (RC L t i r cs o (some (.d (tD l))) x7 x8 x9) [] = some (.nx, RC L t i r cs o' (some (.d (tD l))) y7 x8 x9, []) ∧ (∀ c, o' = some c → Cvr L t (.tup [.int (i : Nat), .tup cs]) c) ∧
      (∀ c, o = some c → ∃ c', o' = some c' ∧ c' ≤ c) ∧ ∀ c, Cvrs L l cs c → ∃ c', o' = some c' ∧ c' ≤ r.1 + c := by
  by_cases hlen : l.length = cs.length
  · have hd : decide (((l.length : Nat) : Int) = ((cs.length : Nat) : Int)) = true := decide_eq_true (by rw [hlen])
    obtain ⟨os, h1, h2⟩ := told_ok (xs := zipD (l.map Tr.d) cs) (k := k) (a := some (.d t.d)) (b := some (.d (.tup [.int (i : Nat), .tup cs]))) (c := some (.d (.int r.1))) (d := some (.d r.2.d)) (e := some (.d (oD o))) (f := some (.d (tD l))) (g := x7) hlen hcb
    have hz : (zipD (l.map Tr.d) cs).length ≤ Lim := by
      rw [zipD_len, List.length_map]
      unfold Lim
      omega
    have hz2 : oZip [.d (tD l), .d (.tup cs)] [] = some ⟨zipD (l.map Tr.d) cs, none⟩ := rfl
    have start : AT (T k) (RC L t i r cs o (some (.d (tD l))) x7 x8 x9) [] = some (.nx, RC L t i r cs o (some (.d (tD l))) (some (.d (.lst (os.map oD)))) x8 x9, []) := by
      unfold AT
      simp only [eC_, eTy_, eVar_0, eVar_s, eBin_, binJ_, binK_, aNil_, aCons_, consJ_, fMap_, mapK_, eCall_, lCall_, aDs_, dsK_, dsOf_nil, dsOf_cons, eTup_, eVal_, eObj_, fIf_, ifK_t, ifK_f, fTest_, tstK_, fTru_, vTru_bl, vTru_int, vTru_non, vTru_lst, vTru_tup, fAnd_, andK_t, andK_f, fOr_, orK_t, orK_f, fNot_, eAnd_, eandK_t, eandK_f, eOr_, eorK_t, eorK_f, eNot_, notK_, vAdd_i, vAddI_i, vSub_i, vLt_i, vLe_i, vGt_i, vGe_i, vEq_i, vNe_i, vIsN_non, vIsN_int, vIsN_bl, vIsN_str, vIsN_tup, vIsN_lst, vIx_t, vIx_l, atI_0, atI_1, atI_2, bLen_t, bLen_l, bInt_i, bInt_b, bIsi_int, bIsi_bl, bIsi_str, bIsi_tup, bIsi_lst, bIsi_non, is_ii, is_ib, is_it, is_bi, is_bb, is_tt, is_ti, is_tb, is_st, is_si, is_ss, is_nt, is_ll, is_lt, is_tl, bTup_l, bTup_t, bBools_l, bInts_l, eMl0_, eMl1_, oRev_, sNil_, sSeq_, seqK_nx, seqK_rt, seqK_bk, seqK_ct, sIf_, sifK_t, sifK_f, sAsg_, asgK_, gN_, gsNil_, gsCons_, sRet_, sRetN_, sExpr_, sPar_, parK_, eSeq_, srcOf_t, srcOf_l, oEnum_t, oEnum_l, oZip_t, oZip_l, eCallP_, oP1, oP2, oP3, prV_v, prV_l, eCallS_, eFld_, finP_n, finP_v, finS_n, finS_r, eSlT_, slK_1, drop_1, lLc_, wipe_n, wipe_c, lcGo_n, lcGo_c, lcB_t, lcB_f, lcC_, fTrue_, forK_, foGo_n, foGo_c, foK_nx, foK_ct, foK_bk, foK_rt, lkF_0, eChain_, chJ_, chK_, chL_t, chL_f, eMake_, makeJ_, eMeth_, sFld_, fldJ_, eNewX_, sSubX_, sxJ_, sxK_, decide_true, decide_false, lRev_, eRevT_, revTK_, lCallP_, obind_some, obind_none, omap_some, omap_none, List.getElem?_cons_zero, List.getElem?_cons_succ, set_0, set_s, if_true, if_false, Bool.false_eq_true, Bool.not_true, Bool.not_false, hz2, lcK_ hz, h1]
    have n1 := vIn_l (S := []) (ng := true) ok_non (ok_oD (os := os))
    rcases os_cases os with ⟨is, rfl⟩ | hno
    · obtain ⟨s1, s2⟩ := h2.sound rfl
      rw [oD_some] at n1 start
      rw [no_non] at n1
      have n3 := bInts_l (S := []) (k := List.sum) (bs := is)
      have cv : Cvr L t (.tup [.int (i : Nat), .tup cs]) (r.1 + is.sum) := .no hr hp hm s1
      cases o with
      | none =>
        refine ⟨some (r.1 + is.sum), some (.d (.lst (is.map D.int))), ?_, (fun c e => by cases e; exact cv), (fun c e => by cases e), fun c hc => ⟨_, rfl, by have := s2 c hc; omega⟩⟩
        unfold BL
        simp only [eC_, eTy_, eVar_0, eVar_s, eBin_, binJ_, binK_, aNil_, aCons_, consJ_, fMap_, mapK_, eCall_, lCall_, aDs_, dsK_, dsOf_nil, dsOf_cons, eTup_, eVal_, eObj_, fIf_, ifK_t, ifK_f, fTest_, tstK_, fTru_, vTru_bl, vTru_int, vTru_non, vTru_lst, vTru_tup, fAnd_, andK_t, andK_f, fOr_, orK_t, orK_f, fNot_, eAnd_, eandK_t, eandK_f, eOr_, eorK_t, eorK_f, eNot_, notK_, vAdd_i, vAddI_i, vSub_i, vLt_i, vLe_i, vGt_i, vGe_i, vEq_i, vNe_i, vIsN_non, vIsN_int, vIsN_bl, vIsN_str, vIsN_tup, vIsN_lst, vIx_t, vIx_l, atI_0, atI_1, atI_2, bLen_t, bLen_l, bInt_i, bInt_b, bIsi_int, bIsi_bl, bIsi_str, bIsi_tup, bIsi_lst, bIsi_non, is_ii, is_ib, is_it, is_bi, is_bb, is_tt, is_ti, is_tb, is_st, is_si, is_ss, is_nt, is_ll, is_lt, is_tl, bTup_l, bTup_t, bBools_l, bInts_l, eMl0_, eMl1_, oRev_, sNil_, sSeq_, seqK_nx, seqK_rt, seqK_bk, seqK_ct, sIf_, sifK_t, sifK_f, sAsg_, asgK_, gN_, gsNil_, gsCons_, sRet_, sRetN_, sExpr_, sPar_, parK_, eSeq_, srcOf_t, srcOf_l, oEnum_t, oEnum_l, oZip_t, oZip_l, eCallP_, oP1, oP2, oP3, prV_v, prV_l, eCallS_, eFld_, finP_n, finP_v, finS_n, finS_r, eSlT_, slK_1, drop_1, lLc_, wipe_n, wipe_c, lcGo_n, lcGo_c, lcB_t, lcB_f, lcC_, fTrue_, forK_, foGo_n, foGo_c, foK_nx, foK_ct, foK_bk, foK_rt, lkF_0, eChain_, chJ_, chK_, chL_t, chL_f, eMake_, makeJ_, eMeth_, sFld_, fldJ_, eNewX_, sSubX_, sxJ_, sxK_, decide_true, decide_false, lRev_, eRevT_, revTK_, lCallP_, obind_some, obind_none, omap_some, omap_none, List.getElem?_cons_zero, List.getElem?_cons_succ, set_0, set_s, if_true, if_false, Bool.false_eq_true, Bool.not_true, Bool.not_false, bLen_tD, hd, start, n1, n3, oD]
        rfl
      | some b =>
        by_cases hb : r.1 + is.sum < b
        · have hb' : decide (r.1 + is.sum < b) = true := decide_eq_true hb
          refine ⟨some (r.1 + is.sum), some (.d (.lst (is.map D.int))), ?_, (fun c e => by cases e; exact cv), (fun c e => by cases e; exact ⟨_, rfl, by omega⟩), fun c hc => ⟨_, rfl, by have := s2 c hc; omega⟩⟩
          unfold BL
          simp only [eC_, eTy_, eVar_0, eVar_s, eBin_, binJ_, binK_, aNil_, aCons_, consJ_, fMap_, mapK_, eCall_, lCall_, aDs_, dsK_, dsOf_nil, dsOf_cons, eTup_, eVal_, eObj_, fIf_, ifK_t, ifK_f, fTest_, tstK_, fTru_, vTru_bl, vTru_int, vTru_non, vTru_lst, vTru_tup, fAnd_, andK_t, andK_f, fOr_, orK_t, orK_f, fNot_, eAnd_, eandK_t, eandK_f, eOr_, eorK_t, eorK_f, eNot_, notK_, vAdd_i, vAddI_i, vSub_i, vLt_i, vLe_i, vGt_i, vGe_i, vEq_i, vNe_i, vIsN_non, vIsN_int, vIsN_bl, vIsN_str, vIsN_tup, vIsN_lst, vIx_t, vIx_l, atI_0, atI_1, atI_2, bLen_t, bLen_l, bInt_i, bInt_b, bIsi_int, bIsi_bl, bIsi_str, bIsi_tup, bIsi_lst, bIsi_non, is_ii, is_ib, is_it, is_bi, is_bb, is_tt, is_ti, is_tb, is_st, is_si, is_ss, is_nt, is_ll, is_lt, is_tl, bTup_l, bTup_t, bBools_l, bInts_l, eMl0_, eMl1_, oRev_, sNil_, sSeq_, seqK_nx, seqK_rt, seqK_bk, seqK_ct, sIf_, sifK_t, sifK_f, sAsg_, asgK_, gN_, gsNil_, gsCons_, sRet_, sRetN_, sExpr_, sPar_, parK_, eSeq_, srcOf_t, srcOf_l, oEnum_t, oEnum_l, oZip_t, oZip_l, eCallP_, oP1, oP2, oP3, prV_v, prV_l, eCallS_, eFld_, finP_n, finP_v, finS_n, finS_r, eSlT_, slK_1, drop_1, lLc_, wipe_n, wipe_c, lcGo_n, lcGo_c, lcB_t, lcB_f, lcC_, fTrue_, forK_, foGo_n, foGo_c, foK_nx, foK_ct, foK_bk, foK_rt, lkF_0, eChain_, chJ_, chK_, chL_t, chL_f, eMake_, makeJ_, eMeth_, sFld_, fldJ_, eNewX_, sSubX_, sxJ_, sxK_, decide_true, decide_false, lRev_, eRevT_, revTK_, lCallP_, obind_some, obind_none, omap_some, omap_none, List.getElem?_cons_zero, List.getElem?_cons_succ, set_0, set_s, if_true, if_false, Bool.false_eq_true, Bool.not_true, Bool.not_false, bLen_tD, hd, start, n1, n3, oD, hb']
          rfl
        · have hb' : decide (r.1 + is.sum < b) = false := decide_eq_false hb
          refine ⟨some b, some (.d (.lst (is.map D.int))), ?_, ho, (fun c e => by cases e; exact ⟨_, rfl, by omega⟩), fun c hc => ⟨_, rfl, by have := s2 c hc; omega⟩⟩
          unfold BL
          simp only [eC_, eTy_, eVar_0, eVar_s, eBin_, binJ_, binK_, aNil_, aCons_, consJ_, fMap_, mapK_, eCall_, lCall_, aDs_, dsK_, dsOf_nil, dsOf_cons, eTup_, eVal_, eObj_, fIf_, ifK_t, ifK_f, fTest_, tstK_, fTru_, vTru_bl, vTru_int, vTru_non, vTru_lst, vTru_tup, fAnd_, andK_t, andK_f, fOr_, orK_t, orK_f, fNot_, eAnd_, eandK_t, eandK_f, eOr_, eorK_t, eorK_f, eNot_, notK_, vAdd_i, vAddI_i, vSub_i, vLt_i, vLe_i, vGt_i, vGe_i, vEq_i, vNe_i, vIsN_non, vIsN_int, vIsN_bl, vIsN_str, vIsN_tup, vIsN_lst, vIx_t, vIx_l, atI_0, atI_1, atI_2, bLen_t, bLen_l, bInt_i, bInt_b, bIsi_int, bIsi_bl, bIsi_str, bIsi_tup, bIsi_lst, bIsi_non, is_ii, is_ib, is_it, is_bi, is_bb, is_tt, is_ti, is_tb, is_st, is_si, is_ss, is_nt, is_ll, is_lt, is_tl, bTup_l, bTup_t, bBools_l, bInts_l, eMl0_, eMl1_, oRev_, sNil_, sSeq_, seqK_nx, seqK_rt, seqK_bk, seqK_ct, sIf_, sifK_t, sifK_f, sAsg_, asgK_, gN_, gsNil_, gsCons_, sRet_, sRetN_, sExpr_, sPar_, parK_, eSeq_, srcOf_t, srcOf_l, oEnum_t, oEnum_l, oZip_t, oZip_l, eCallP_, oP1, oP2, oP3, prV_v, prV_l, eCallS_, eFld_, finP_n, finP_v, finS_n, finS_r, eSlT_, slK_1, drop_1, lLc_, wipe_n, wipe_c, lcGo_n, lcGo_c, lcB_t, lcB_f, lcC_, fTrue_, forK_, foGo_n, foGo_c, foK_nx, foK_ct, foK_bk, foK_rt, lkF_0, eChain_, chJ_, chK_, chL_t, chL_f, eMake_, makeJ_, eMeth_, sFld_, fldJ_, eNewX_, sSubX_, sxJ_, sxK_, decide_true, decide_false, lRev_, eRevT_, revTK_, lCallP_, obind_some, obind_none, omap_some, omap_none, List.getElem?_cons_zero, List.getElem?_cons_succ, set_0, set_s, if_true, if_false, Bool.false_eq_true, Bool.not_true, Bool.not_false, bLen_tD, hd, start, n1, n3, oD, hb']
    · rw [in_oD hno] at n1
      refine ⟨o, some (.d (.lst (os.map oD))), ?_, ho, fun c e => ⟨c, e, by omega⟩, fun c hc => absurd hc (h2.no hno c)⟩
      unfold BL
      simp only [eC_, eTy_, eVar_0, eVar_s, eBin_, binJ_, binK_, aNil_, aCons_, consJ_, fMap_, mapK_, eCall_, lCall_, aDs_, dsK_, dsOf_nil, dsOf_cons, eTup_, eVal_, eObj_, fIf_, ifK_t, ifK_f, fTest_, tstK_, fTru_, vTru_bl, vTru_int, vTru_non, vTru_lst, vTru_tup, fAnd_, andK_t, andK_f, fOr_, orK_t, orK_f, fNot_, eAnd_, eandK_t, eandK_f, eOr_, eorK_t, eorK_f, eNot_, notK_, vAdd_i, vAddI_i, vSub_i, vLt_i, vLe_i, vGt_i, vGe_i, vEq_i, vNe_i, vIsN_non, vIsN_int, vIsN_bl, vIsN_str, vIsN_tup, vIsN_lst, vIx_t, vIx_l, atI_0, atI_1, atI_2, bLen_t, bLen_l, bInt_i, bInt_b, bIsi_int, bIsi_bl, bIsi_str, bIsi_tup, bIsi_lst, bIsi_non, is_ii, is_ib, is_it, is_bi, is_bb, is_tt, is_ti, is_tb, is_st, is_si, is_ss, is_nt, is_ll, is_lt, is_tl, bTup_l, bTup_t, bBools_l, bInts_l, eMl0_, eMl1_, oRev_, sNil_, sSeq_, seqK_nx, seqK_rt, seqK_bk, seqK_ct, sIf_, sifK_t, sifK_f, sAsg_, asgK_, gN_, gsNil_, gsCons_, sRet_, sRetN_, sExpr_, sPar_, parK_, eSeq_, srcOf_t, srcOf_l, oEnum_t, oEnum_l, oZip_t, oZip_l, eCallP_, oP1, oP2, oP3, prV_v, prV_l, eCallS_, eFld_, finP_n, finP_v, finS_n, finS_r, eSlT_, slK_1, drop_1, lLc_, wipe_n, wipe_c, lcGo_n, lcGo_c, lcB_t, lcB_f, lcC_, fTrue_, forK_, foGo_n, foGo_c, foK_nx, foK_ct, foK_bk, foK_rt, lkF_0, eChain_, chJ_, chK_, chL_t, chL_f, eMake_, makeJ_, eMeth_, sFld_, fldJ_, eNewX_, sSubX_, sxJ_, sxK_, decide_true, decide_false, lRev_, eRevT_, revTK_, lCallP_, obind_some, obind_none, omap_some, omap_none, List.getElem?_cons_zero, List.getElem?_cons_succ, set_0, set_s, if_true, if_false, Bool.false_eq_true, Bool.not_true, Bool.not_false, bLen_tD, hd, start, n1]
  · have hd : decide (((l.length : Nat) : Int) = ((cs.length : Nat) : Int)) = false := decide_eq_false (by omega)
    refine ⟨o, x7, ?_, ho, fun c e => ⟨c, e, by omega⟩, fun c hc => absurd hc.len hlen⟩
    unfold BL
    simp only [eC_, eTy_, eVar_0, eVar_s, eBin_, binJ_, binK_, aNil_, aCons_, consJ_, fMap_, mapK_, eCall_, lCall_, aDs_, dsK_, dsOf_nil, dsOf_cons, eTup_, eVal_, eObj_, fIf_, ifK_t, ifK_f, fTest_, tstK_, fTru_, vTru_bl, vTru_int, vTru_non, vTru_lst, vTru_tup, fAnd_, andK_t, andK_f, fOr_, orK_t, orK_f, fNot_, eAnd_, eandK_t, eandK_f, eOr_, eorK_t, eorK_f, eNot_, notK_, vAdd_i, vAddI_i, vSub_i, vLt_i, vLe_i, vGt_i, vGe_i, vEq_i, vNe_i, vIsN_non, vIsN_int, vIsN_bl, vIsN_str, vIsN_tup, vIsN_lst, vIx_t, vIx_l, atI_0, atI_1, atI_2, bLen_t, bLen_l, bInt_i, bInt_b, bIsi_int, bIsi_bl, bIsi_str, bIsi_tup, bIsi_lst, bIsi_non, is_ii, is_ib, is_it, is_bi, is_bb, is_tt, is_ti, is_tb, is_st, is_si, is_ss, is_nt, is_ll, is_lt, is_tl, bTup_l, bTup_t, bBools_l, bInts_l, eMl0_, eMl1_, oRev_, sNil_, sSeq_, seqK_nx, seqK_rt, seqK_bk, seqK_ct, sIf_, sifK_t, sifK_f, sAsg_, asgK_, gN_, gsNil_, gsCons_, sRet_, sRetN_, sExpr_, sPar_, parK_, eSeq_, srcOf_t, srcOf_l, oEnum_t, oEnum_l, oZip_t, oZip_l, eCallP_, oP1, oP2, oP3, prV_v, prV_l, eCallS_, eFld_, finP_n, finP_v, finS_n, finS_r, eSlT_, slK_1, drop_1, lLc_, wipe_n, wipe_c, lcGo_n, lcGo_c, lcB_t, lcB_f, lcC_, fTrue_, forK_, foGo_n, foGo_c, foK_nx, foK_ct, foK_bk, foK_rt, lkF_0, eChain_, chJ_, chK_, chL_t, chL_f, eMake_, makeJ_, eMeth_, sFld_, fldJ_, eNewX_, sSubX_, sxJ_, sxK_, decide_true, decide_false, lRev_, eRevT_, revTK_, lCallP_, obind_some, obind_none, omap_some, omap_none, List.getElem?_cons_zero, List.getElem?_cons_succ, set_0, set_s, if_true, if_false, Bool.false_eq_true, Bool.not_true, Bool.not_false, bLen_tD, hd]
end
/-! the loop, the def -/
theorem F_cost_eq (T : Tb) : F_cost_by T = sSeq2 (sIf (fTru (eCallP 1 T.is_number (aCons (eVar 0) (aNil)))) (sSeq2 (sRet (fIf (fTest (eBin vEq (eVar 2) (eTup (aNil)))) (eC (.int 0)) (eC .non)))
    (sNil)) (sNil))
    (sSeq2 (sIf (fOr (fNot (fTru (eCall bIsi (aCons (eVar 2) (aCons (eTy .tup) (aNil)))))) (fOr (fTest (eBin vNe (eCall bLen (aCons (eVar 2) (aNil))) (eC (.int 2)))) (fNot (fTru (eCall bIsi (aCons (eBin vIx (eVar 2) (eC (.int 1))) (aCons (eTy .tup) (aNil)))))))) (sSeq2 (sRet (eC .non))
    (sNil)) (sNil))
    (sSeq2 (sIf (fOr (fNot (fTru (eCallP 1 T.is_number (aCons (eBin vIx (eVar 2) (eC (.int 0))) (aNil))))) (fNot (fTest (eChain vLe vLt (eC (.int 0)) (eBin vIx (eVar 2) (eC (.int 0))) (eCall bLen (aCons (eVar 1) (aNil))))))) (sSeq2 (sRet (eC .non))
    (sNil)) (sNil))
    (sSeq2 (sAsg (eBin vIx (eVar 1) (eBin vIx (eVar 2) (eC (.int 0)))) (gTp 2 (gsCons (gN 3) (gsCons (gN 4) (gsNil)))))
    (sSeq2 (sAsg (eC .non) (gN 5))
    (sSeq2 (sFor (sSeq (eCallP 2 T.left_by (aCons (eVar 4) (aCons (eVar 0) (aNil))))) (gN 6) (BL T))
    (sSeq2 (sRet (eVar 5))
    (sNil))))))) := rfl
theorem bl_loop {L : Lib} {k : Nat} {t : Tr} {i : Nat} {r : Int × Pt} {cs : List D} (hr : L[i]? = some r) (hp : r.2 ≠ .ho) (hd2 : r.2.dep ≤ 2) (hcb : ∀ s : Tr, s.dep < t.dep → ∀ v ∈ cs, CBok L k s v) :
    ∃ o ρ, foGo ⟨(leftBy r.2 t).map tD, none⟩ (gN 6) (BL (T k)) ((leftBy r.2 t).map tD) (RC L t i r cs none none none none none) [] = some (.nx, ρ, []) ∧ ρ[5]? = some (some (.d (oD o))) ∧ MinAt L t (.tup [.int (i : Nat), .tup cs]) o := by
  have key := foGo_inv (s := ⟨(leftBy r.2 t).map tD, none⟩) (gg := gN 6) (F := BL (T k)) (fun j ρ S => ∃ o x6 x7 x8 x9, ρ = RC L t i r cs o x6 x7 x8 x9 ∧ S = [] ∧ (∀ c, o = some c → Cvr L t (.tup [.int (i : Nat), .tup cs]) c) ∧
    ∀ l ∈ (leftBy r.2 t).take j, ∀ c, Cvrs L l cs c → ∃ c', o = some c' ∧ c' ≤ r.1 + c) (fun _ _ _ _ => rfl) (fun j ρ S d hd p => ?_) ((leftBy r.2 t).map tD).length 0 (RC L t i r cs none none none none none) [] (by simp) ⟨none, none, none, none, none, rfl, rfl, (fun c e => nomatch e), fun l hl => by simp at hl⟩
  · obtain ⟨ρ', S', h1, o, x6, x7, x8, x9, rfl, rfl, h2, h3⟩ := key
    rw [show (⟨(leftBy r.2 t).map tD, none⟩ : Src).ds.length = (leftBy r.2 t).length from List.length_map _, List.take_length] at h3
    rw [List.drop_zero] at h1
    refine ⟨o, _, h1, rfl, h2, fun c hc => ?_⟩
    cases hc with
    | no g1 g2 g3 g4 =>
      rw [hr] at g1
      cases g1
      exact h3 _ (mem_left.mpr g3) _ g4
  · obtain ⟨o, x6, x7, x8, x9, rfl, rfl, h2, h3⟩ := p
    have hd : ((leftBy r.2 t).map tD)[j]? = some d := hd
    rw [List.getElem?_map] at hd
    obtain ⟨l, hl, rfl⟩ := Option.map_eq_some_iff.mp hd
    have hm := mem_left.mp (List.mem_of_getElem? hl)
    obtain ⟨o', y7, e1, e2, e3, e4⟩ := bl_step (k := k) (x7 := x7) (x8 := x8) (x9 := x9) hr hp hm (by have := (Pt.b2 hd2).1; rw [hm.len]; omega) (fun s hs v hv => hcb s (hm.lt hp s hs) v hv) h2
    refine ⟨_, .nx, _, _, rfl, e1, .inl rfl, o', _, _, _, _, rfl, rfl, e2, fun l' hl' c hc => ?_⟩
    rw [take_succ' hl] at hl'
    rcases List.mem_append.mp hl' with h | h
    · obtain ⟨c1, e5, e6⟩ := h3 l' h c hc
      obtain ⟨c2, e7, e8⟩ := e3 c1 e5
      exact ⟨c2, e7, by omega⟩
    · rw [List.mem_singleton.mp h] at hc
      exact e4 c hc
theorem ret_var {ρ : Env'} {S : Sto} {i : Nat} {r : RV} (h : ρ[i]? = some (some r)) : eVar i ρ S = some (r, S) := by unfold eVar; rw [h]
theorem num_tr : ∀ {t : Tr} {k : Nat}, t.isLf = false → (T (k + 1)).is_number [t.d] = some (.v (.bl false))
  | .nt a, _, _ => num_tup
  | .nd a b, _, _ => num_tup
theorem d02 : decide (((0 : Nat) : Int) = 2) = false := by decide
theorem d22 : decide (((2 : Nat) : Int) = 2) = true := by decide
theorem shp_cases {N e : Nat} {v : D} (h : shp N e v = true) : v = .tup [] ∨ ∃ (i : Nat) (cs : List D) (d : Nat), v = .tup [.int (i : Nat), .tup cs] ∧ i < N ∧ e = d + 1 ∧ ∀ x ∈ cs, shp N d x = true := by
  unfold shp at h
  split at h
  · exact .inl rfl
  · rename_i d i cs
    simp only [Bool.and_eq_true, List.all_eq_true, decide_eq_true_eq] at h
    exact .inr ⟨i.toNat, cs, d, by rw [Int.toNat_of_nonneg h.1], by omega, rfl, h.2.2⟩
  · cases h
theorem ok_shp {N e : Nat} {v : D} (h : shp N e v = true) (he : e ≤ 20) : D.ok v = true := ok_of (shp_okN h) (by omega)
theorem ok_t0 : D.ok (.tup []) = true := ok_of (n := 1) (by simp [D.okN])
theorem cb_leaf {L : Lib} {j k N e : Nat} {v : D} (hs : shp N e v = true) (he : e ≤ 20) : CBok L (k + 2) (.lf j) v := by
  have okv := ok_shp hs he
  rcases shp_cases hs with rfl | ⟨i, cs, d, rfl, hi, rfl, hc⟩
  · refine ⟨some 0, ?_, fun c e => by cases e; exact .lf j, fun c h => ?_⟩
    · have he : D.eqv (.tup []) (.tup []) = true := by simp [D.eqv, D.py, D.pys, PyData.eqv, PyData.eqvAll]
      show (F_cost_by (T (k + 1)) [some (.d (.int j)), some (.d (libD L)), some (.d (.tup [])), none, none, none, none, none, none, none] []).bind finP = _
      rw [F_cost_eq]
      simp only [eC_, eTy_, eVar_0, eVar_s, eBin_, binJ_, binK_, aNil_, aCons_, consJ_, fMap_, mapK_, eCall_, lCall_, aDs_, dsK_, dsOf_nil, dsOf_cons, eTup_, eVal_, eObj_, fIf_, ifK_t, ifK_f, fTest_, tstK_, fTru_, vTru_bl, vTru_int, vTru_non, vTru_lst, vTru_tup, fAnd_, andK_t, andK_f, fOr_, orK_t, orK_f, fNot_, eAnd_, eandK_t, eandK_f, eOr_, eorK_t, eorK_f, eNot_, notK_, vAdd_i, vAddI_i, vSub_i, vLt_i, vLe_i, vGt_i, vGe_i, vEq_i, vNe_i, vIsN_non, vIsN_int, vIsN_bl, vIsN_str, vIsN_tup, vIsN_lst, vIx_t, vIx_l, atI_0, atI_1, atI_2, bLen_t, bLen_l, bInt_i, bInt_b, bIsi_int, bIsi_bl, bIsi_str, bIsi_tup, bIsi_lst, bIsi_non, is_ii, is_ib, is_it, is_bi, is_bb, is_tt, is_ti, is_tb, is_st, is_si, is_ss, is_nt, is_ll, is_lt, is_tl, bTup_l, bTup_t, bBools_l, bInts_l, eMl0_, eMl1_, oRev_, sNil_, sSeq_, seqK_nx, seqK_rt, seqK_bk, seqK_ct, sIf_, sifK_t, sifK_f, sAsg_, asgK_, gN_, gsNil_, gsCons_, sRet_, sRetN_, sExpr_, sPar_, parK_, eSeq_, srcOf_t, srcOf_l, oEnum_t, oEnum_l, oZip_t, oZip_l, eCallP_, oP1, oP2, oP3, prV_v, prV_l, eCallS_, eFld_, finP_n, finP_v, finS_n, finS_r, eSlT_, slK_1, drop_1, lLc_, wipe_n, wipe_c, lcGo_n, lcGo_c, lcB_t, lcB_f, lcC_, fTrue_, forK_, foGo_n, foGo_c, foK_nx, foK_ct, foK_bk, foK_rt, lkF_0, eChain_, chJ_, chK_, chL_t, chL_f, eMake_, makeJ_, eMeth_, sFld_, fldJ_, eNewX_, sSubX_, sxJ_, sxK_, decide_true, decide_false, lRev_, eRevT_, revTK_, lCallP_, obind_some, obind_none, omap_some, omap_none, List.getElem?_cons_zero, List.getElem?_cons_succ, set_0, set_s, if_true, if_false, Bool.false_eq_true, Bool.not_true, Bool.not_false, num_lf, List.length_nil, if_pos zero_lim, vEq_ okv ok_t0, he]
      rfl
    · cases h with
      | lf => exact ⟨0, rfl, Int.le_refl _⟩
  · refine ⟨none, ?_, (fun c e => nomatch e), fun c h => ?_⟩
    · have he : D.eqv (.tup [.int (i : Nat), .tup cs]) (.tup []) = false := by simp [D.eqv, D.py, D.pys, PyData.eqv, PyData.eqvAll]
      show (F_cost_by (T (k + 1)) [some (.d (.int j)), some (.d (libD L)), some (.d (.tup [.int (i : Nat), .tup cs])), none, none, none, none, none, none, none] []).bind finP = _
      rw [F_cost_eq]
      simp only [eC_, eTy_, eVar_0, eVar_s, eBin_, binJ_, binK_, aNil_, aCons_, consJ_, fMap_, mapK_, eCall_, lCall_, aDs_, dsK_, dsOf_nil, dsOf_cons, eTup_, eVal_, eObj_, fIf_, ifK_t, ifK_f, fTest_, tstK_, fTru_, vTru_bl, vTru_int, vTru_non, vTru_lst, vTru_tup, fAnd_, andK_t, andK_f, fOr_, orK_t, orK_f, fNot_, eAnd_, eandK_t, eandK_f, eOr_, eorK_t, eorK_f, eNot_, notK_, vAdd_i, vAddI_i, vSub_i, vLt_i, vLe_i, vGt_i, vGe_i, vEq_i, vNe_i, vIsN_non, vIsN_int, vIsN_bl, vIsN_str, vIsN_tup, vIsN_lst, vIx_t, vIx_l, atI_0, atI_1, atI_2, bLen_t, bLen_l, bInt_i, bInt_b, bIsi_int, bIsi_bl, bIsi_str, bIsi_tup, bIsi_lst, bIsi_non, is_ii, is_ib, is_it, is_bi, is_bb, is_tt, is_ti, is_tb, is_st, is_si, is_ss, is_nt, is_ll, is_lt, is_tl, bTup_l, bTup_t, bBools_l, bInts_l, eMl0_, eMl1_, oRev_, sNil_, sSeq_, seqK_nx, seqK_rt, seqK_bk, seqK_ct, sIf_, sifK_t, sifK_f, sAsg_, asgK_, gN_, gsNil_, gsCons_, sRet_, sRetN_, sExpr_, sPar_, parK_, eSeq_, srcOf_t, srcOf_l, oEnum_t, oEnum_l, oZip_t, oZip_l, eCallP_, oP1, oP2, oP3, prV_v, prV_l, eCallS_, eFld_, finP_n, finP_v, finS_n, finS_r, eSlT_, slK_1, drop_1, lLc_, wipe_n, wipe_c, lcGo_n, lcGo_c, lcB_t, lcB_f, lcC_, fTrue_, forK_, foGo_n, foGo_c, foK_nx, foK_ct, foK_bk, foK_rt, lkF_0, eChain_, chJ_, chK_, chL_t, chL_f, eMake_, makeJ_, eMeth_, sFld_, fldJ_, eNewX_, sSubX_, sxJ_, sxK_, decide_true, decide_false, lRev_, eRevT_, revTK_, lCallP_, obind_some, obind_none, omap_some, omap_none, List.getElem?_cons_zero, List.getElem?_cons_succ, set_0, set_s, if_true, if_false, Bool.false_eq_true, Bool.not_true, Bool.not_false, num_lf, List.length_nil, if_pos zero_lim, vEq_ okv ok_t0, he]
      rfl
    · cases h with
      | no h1 h2 h3 h4 => exact absurd h3.nlf h2
theorem cb_node {L : Lib} (hL : WL L) {t : Tr} {v : D} {k e : Nat} (hlf : t.isLf = false) (ht : t.dep ≤ 50) (hs : shp L.length e v = true) (he : e ≤ 20) (hcb : ∀ s : Tr, s.dep < t.dep → ∀ v d, d ≤ 20 → shp L.length d v = true → CBok L (k + 4) s v) : CBok L (k + 5) t v := by
  rcases shp_cases hs with rfl | ⟨i, cs, d, rfl, hi, rfl, hc⟩
  · refine ⟨none, ?_, (fun c e => nomatch e), fun c h => ?_⟩
    · show (F_cost_by (T (k + 4)) [some (.d t.d), some (.d (libD L)), some (.d (.tup [])), none, none, none, none, none, none, none] []).bind finP = _
      rw [F_cost_eq]
      simp only [eC_, eTy_, eVar_0, eVar_s, eBin_, binJ_, binK_, aNil_, aCons_, consJ_, fMap_, mapK_, eCall_, lCall_, aDs_, dsK_, dsOf_nil, dsOf_cons, eTup_, eVal_, eObj_, fIf_, ifK_t, ifK_f, fTest_, tstK_, fTru_, vTru_bl, vTru_int, vTru_non, vTru_lst, vTru_tup, fAnd_, andK_t, andK_f, fOr_, orK_t, orK_f, fNot_, eAnd_, eandK_t, eandK_f, eOr_, eorK_t, eorK_f, eNot_, notK_, vAdd_i, vAddI_i, vSub_i, vLt_i, vLe_i, vGt_i, vGe_i, vEq_i, vNe_i, vIsN_non, vIsN_int, vIsN_bl, vIsN_str, vIsN_tup, vIsN_lst, vIx_t, vIx_l, atI_0, atI_1, atI_2, bLen_t, bLen_l, bInt_i, bInt_b, bIsi_int, bIsi_bl, bIsi_str, bIsi_tup, bIsi_lst, bIsi_non, is_ii, is_ib, is_it, is_bi, is_bb, is_tt, is_ti, is_tb, is_st, is_si, is_ss, is_nt, is_ll, is_lt, is_tl, bTup_l, bTup_t, bBools_l, bInts_l, eMl0_, eMl1_, oRev_, sNil_, sSeq_, seqK_nx, seqK_rt, seqK_bk, seqK_ct, sIf_, sifK_t, sifK_f, sAsg_, asgK_, gN_, gsNil_, gsCons_, sRet_, sRetN_, sExpr_, sPar_, parK_, eSeq_, srcOf_t, srcOf_l, oEnum_t, oEnum_l, oZip_t, oZip_l, eCallP_, oP1, oP2, oP3, prV_v, prV_l, eCallS_, eFld_, finP_n, finP_v, finS_n, finS_r, eSlT_, slK_1, drop_1, lLc_, wipe_n, wipe_c, lcGo_n, lcGo_c, lcB_t, lcB_f, lcC_, fTrue_, forK_, foGo_n, foGo_c, foK_nx, foK_ct, foK_bk, foK_rt, lkF_0, eChain_, chJ_, chK_, chL_t, chL_f, eMake_, makeJ_, eMeth_, sFld_, fldJ_, eNewX_, sSubX_, sxJ_, sxK_, decide_true, decide_false, lRev_, eRevT_, revTK_, lCallP_, obind_some, obind_none, omap_some, omap_none, List.getElem?_cons_zero, List.getElem?_cons_succ, set_0, set_s, if_true, if_false, Bool.false_eq_true, Bool.not_true, Bool.not_false, num_tr hlf, List.length_nil, d02]
      rfl
    · cases h with
      | lf => simp [Tr.isLf] at hlf
  · obtain ⟨r, hr⟩ : ∃ r, L[i]? = some r := ⟨L[i], by simp [hi]⟩
    obtain ⟨hp, hd2⟩ := hL.pat r (List.mem_of_getElem? hr)
    obtain ⟨o, ρ, e1, e2, e3⟩ := bl_loop (k := k + 4) hr hp hd2 fun s hs v hv => hcb s hs v d (by omega) (hc v hv)
    refine ⟨o, ?_, e3⟩
    obtain ⟨rl, e4, e5⟩ := left_ok r.2 t (k + 3) hd2 ht (by omega)
    have hat : atI (L.map rowD) ((i : Nat) : Int) = some (.tup [.int r.1, r.2.d]) := by
      rw [atI_nat (show (0 : Int) ≤ ((i : Nat) : Int) by omega), Int.toNat_natCast, List.getElem?_map, hr]
      rfl
    have hix : vIx (.d (libD L)) (.d (.int (i : Nat))) [] = some (.d (.tup [.int r.1, r.2.d])) := by
      unfold libD
      rw [vIx_t, hat]
      rfl
    have hle : bLen [.d (libD L)] [] = some (.d (.int (L.length : Nat))) := by
      unfold libD
      rw [bLen_t, List.length_map]
    have b1 : decide ((0 : Int) ≤ ((i : Nat) : Int)) = true := decide_eq_true (by omega)
    have b2 : decide (((i : Nat) : Int) < ((L.length : Nat) : Int)) = true := decide_eq_true (by omega)
    show (F_cost_by (T (k + 4)) [some (.d t.d), some (.d (libD L)), some (.d (.tup [.int (i : Nat), .tup cs])), none, none, none, none, none, none, none] []).bind finP = _
    rw [F_cost_eq]
    have el : foGo ⟨(leftBy r.2 t).map tD, none⟩ (gN 6) (BL (T (k + 4))) ((leftBy r.2 t).map tD) [some (.d t.d), some (.d (libD L)), some (.d (.tup [.int (i : Nat), .tup cs])), some (.d (.int r.1)), some (.d r.2.d), some (.d .non), none, none, none, none] [] = some (.nx, ρ, []) := e1
    simp only [eC_, eTy_, eVar_0, eVar_s, eBin_, binJ_, binK_, aNil_, aCons_, consJ_, fMap_, mapK_, eCall_, lCall_, aDs_, dsK_, dsOf_nil, dsOf_cons, eTup_, eVal_, eObj_, fIf_, ifK_t, ifK_f, fTest_, tstK_, fTru_, vTru_bl, vTru_int, vTru_non, vTru_lst, vTru_tup, fAnd_, andK_t, andK_f, fOr_, orK_t, orK_f, fNot_, eAnd_, eandK_t, eandK_f, eOr_, eorK_t, eorK_f, eNot_, notK_, vAdd_i, vAddI_i, vSub_i, vLt_i, vLe_i, vGt_i, vGe_i, vEq_i, vNe_i, vIsN_non, vIsN_int, vIsN_bl, vIsN_str, vIsN_tup, vIsN_lst, vIx_t, vIx_l, atI_0, atI_1, atI_2, bLen_t, bLen_l, bInt_i, bInt_b, bIsi_int, bIsi_bl, bIsi_str, bIsi_tup, bIsi_lst, bIsi_non, is_ii, is_ib, is_it, is_bi, is_bb, is_tt, is_ti, is_tb, is_st, is_si, is_ss, is_nt, is_ll, is_lt, is_tl, bTup_l, bTup_t, bBools_l, bInts_l, eMl0_, eMl1_, oRev_, sNil_, sSeq_, seqK_nx, seqK_rt, seqK_bk, seqK_ct, sIf_, sifK_t, sifK_f, sAsg_, asgK_, gN_, gsNil_, gsCons_, sRet_, sRetN_, sExpr_, sPar_, parK_, eSeq_, srcOf_t, srcOf_l, oEnum_t, oEnum_l, oZip_t, oZip_l, eCallP_, oP1, oP2, oP3, prV_v, prV_l, eCallS_, eFld_, finP_n, finP_v, finS_n, finS_r, eSlT_, slK_1, drop_1, lLc_, wipe_n, wipe_c, lcGo_n, lcGo_c, lcB_t, lcB_f, lcC_, fTrue_, forK_, foGo_n, foGo_c, foK_nx, foK_ct, foK_bk, foK_rt, lkF_0, eChain_, chJ_, chK_, chL_t, chL_f, eMake_, makeJ_, eMeth_, sFld_, fldJ_, eNewX_, sSubX_, sxJ_, sxK_, decide_true, decide_false, lRev_, eRevT_, revTK_, lCallP_, obind_some, obind_none, omap_some, omap_none, List.getElem?_cons_zero, List.getElem?_cons_succ, set_0, set_s, if_true, if_false, Bool.false_eq_true, Bool.not_true, Bool.not_false, num_tr hlf, num_lf, List.length_cons, List.length_nil, Nat.zero_add, Nat.reduceAdd, d22, hle, b1, b2, hix, gTp2, sFor_, e4, e5, el, ret_var e2]
theorem cb_ok {L : Lib} (hL : WL L) : ∀ (n : Nat) (t : Tr) (v : D) (e k : Nat), t.dep ≤ n → n ≤ 40 → shp L.length e v = true → e ≤ 20 → n + 5 ≤ k → CBok L k t v := by
  intro n
  induction n with
  | zero =>
    intro t v e k ht hn hs he hk
    obtain ⟨k, rfl⟩ : ∃ j, k = j + 2 := ⟨k - 2, by omega⟩
    cases t with
    | lf j => exact cb_leaf hs he
    | nt a => simp [Tr.dep] at ht
    | nd a b => simp [Tr.dep] at ht
  | succ n ih =>
    intro t v e k ht hn hs he hk
    by_cases hlf : t.isLf = true
    · obtain ⟨k, rfl⟩ : ∃ j, k = j + 2 := ⟨k - 2, by omega⟩
      cases t with
      | lf j => exact cb_leaf hs he
      | nt a => simp [Tr.isLf] at hlf
      | nd a b => simp [Tr.isLf] at hlf
    · obtain ⟨k, rfl⟩ : ∃ j, k = j + 5 := ⟨k - 5, by omega⟩
      exact cb_node hL (by simpa using hlf) (by omega) hs he fun s hsd v d hd hv => ih s v d (k + 4) (by omega) (by omega) hv hd (by omega)
end K61

namespace K61
open PySem PySem.Spec PyProof.Rows L2 Ev

/-! ### Cheapest.of -/
def subs : Tr → List Tr
  | .lf i => [.lf i]
  | .nt a => .nt a :: subs a
  | .nd a b => .nd a b :: (subs a ++ subs b)
theorem subs_self (t : Tr) : t ∈ subs t := by cases t <;> simp [subs]
theorem subs_trans : ∀ {r t s : Tr}, t ∈ subs r → s ∈ subs t → s ∈ subs r
  | .lf i, t, s, h, h2 => by
    simp only [subs, List.mem_singleton] at h
    subst h
    exact h2
  | .nt a, t, s, h, h2 => by
    simp only [subs, List.mem_cons] at h
    rcases h with rfl | h
    · exact h2
    · simp only [subs, List.mem_cons]; exact .inr (subs_trans h h2)
  | .nd a b, t, s, h, h2 => by
    simp only [subs, List.mem_cons, List.mem_append] at h
    rcases h with rfl | h | h
    · exact h2
    · simp only [subs, List.mem_cons, List.mem_append]; exact .inr (.inl (subs_trans h h2))
    · simp only [subs, List.mem_cons, List.mem_append]; exact .inr (.inr (subs_trans h h2))
theorem M.subs {p : Pt} {t : Tr} {l : List Tr} (h : M p t l) : ∀ s ∈ l, s ∈ K61.subs t := by
  induction h with
  | ho t => intro s hs; rw [List.mem_singleton.mp hs]; exact subs_self t
  | nt _ ih => intro s hs; simp only [K61.subs, List.mem_cons]; exact .inr (ih s hs)
  | nd _ _ i1 i2 =>
    intro s hs
    simp only [K61.subs, List.mem_cons, List.mem_append]
    rcases List.mem_append.mp hs with h | h
    · exact .inr (.inl (i1 s h))
    · exact .inr (.inr (i2 s h))
  | dn _ _ i1 i2 =>
    intro s hs
    simp only [K61.subs, List.mem_cons, List.mem_append]
    rcases List.mem_append.mp hs with h | h
    · exact .inr (.inr (i1 s h))
    · exact .inr (.inl (i2 s h))
theorem subs_len : ∀ t : Tr, (subs t).length < 2 ^ (t.dep + 1)
  | .lf i => by simp [subs, Tr.dep]
  | .nt a => by
    have := subs_len a
    simp only [subs, List.length_cons, Tr.dep]
    rw [Nat.pow_succ 2 (a.dep + 1)]
    omega
  | .nd a b => by
    have h1 := subs_len a
    have h2 := subs_len b
    have h3 := Nat.pow_le_pow_right (n := 2) (by decide) (show a.dep + 1 ≤ max a.dep b.dep + 1 by omega)
    have h4 := Nat.pow_le_pow_right (n := 2) (by decide) (show b.dep + 1 ≤ max a.dep b.dep + 1 by omega)
    simp only [subs, List.length_cons, List.length_append, Tr.dep]
    rw [Nat.pow_succ 2 (max a.dep b.dep + 1)]
    omega
theorem nodup_len {α : Type} [DecidableEq α] : ∀ {l m : List α}, l.Nodup → (∀ x ∈ l, x ∈ m) → l.length ≤ m.length
  | [], m, _, _ => Nat.zero_le _
  | a :: l, m, h, hs => by
    rw [List.nodup_cons] at h
    have ha := hs a List.mem_cons_self
    have := nodup_len (l := l) (m := m.erase a) h.2 fun x hx => (List.mem_erase_of_ne (by rintro rfl; exact h.1 hx)).mpr (hs x (List.mem_cons_of_mem _ hx))
    have e := List.length_erase_of_mem ha
    have p := List.length_pos_of_mem ha
    rw [List.length_cons]
    omega
def resD (c : Int) (v : D) : D := .tup [.int c, v]
structure Good (L : Lib) (root : Tr) (kvs : List (D × D)) : Prop where
  val : ∀ k v, dGet kvs k = some v → ∃ t c w, k = t.d ∧ v = resD c w ∧ Best L t c ∧ Cvr L t w c
  nd : (kvs.map (·.1)).Nodup
  sub : ∀ p ∈ kvs, p.1 ∈ (subs root).map Tr.d
abbrev fsOf (L : Lib) (m : Nat) : List (Str × RV) := [("library", .d (libD L)), ("known", .o m)]
structure Inv (L : Lib) (root : Tr) (n m : Nat) (S : Sto) : Prop where
  ne : n ≠ m
  ins : S[n]? = some (.ins "Cheapest" (fsOf L m))
  dct : ∃ kvs, S[m]? = some (.dcx kvs) ∧ Good L root kvs
theorem Good.len {L : Lib} {root : Tr} {kvs : List (D × D)} (g : Good L root kvs) (h : root.dep ≤ 20) : kvs.length < Lim := by
  have h1 := nodup_len g.nd (fun x hx => by
    obtain ⟨p, hp, rfl⟩ := List.mem_map.mp hx
    exact g.sub p hp)
  rw [List.length_map, List.length_map] at h1
  have h2 := subs_len root
  have h3 := Nat.pow_le_pow_right (n := 2) (by decide) (show root.dep + 1 ≤ 21 by omega)
  have h4 : (2 : Nat) ^ 21 = 2097152 := by decide
  unfold Lim
  omega
theorem dGet_none {kvs : List (D × D)} {k : D} : dGet kvs k = none → k ∉ kvs.map (·.1) := by
  induction kvs with
  | nil => intro _; simp
  | cons p r ih =>
    intro h
    rw [dGet_cons] at h
    have hk : p.1 ≠ k := fun z => by rw [if_pos z] at h; cases h
    rw [if_neg hk] at h
    rw [List.map_cons, List.mem_cons, not_or]
    exact ⟨fun z => hk z.symm, ih h⟩
theorem Good.put {L : Lib} {root t : Tr} {kvs : List (D × D)} {c : Int} {w : D} (g : Good L root kvs) (ht : t ∈ subs root) (hb : Best L t c) (hc : Cvr L t w c) : Good L root (dPut kvs t.d (resD c w)) where
  val := fun k v h => by
    rw [dGet_put] at h
    split at h
    · rename_i e
      cases h
      exact ⟨t, c, w, e, rfl, hb, hc⟩
    · exact g.val k v h
  nd := by
    unfold dPut
    split
    · have : (kvs.map fun p => if p.1 = t.d then (p.1, resD c w) else p).map (·.1) = kvs.map (·.1) := by
        rw [List.map_map]
        refine List.map_congr_left fun p _ => ?_
        show (if p.1 = t.d then (p.1, resD c w) else p).1 = p.1
        split <;> rfl
      rw [this]
      exact g.nd
    · rename_i hn
      rw [List.map_append, List.nodup_append]
      refine ⟨g.nd, by simp, fun a ha b hb => ?_⟩
      simp only [List.map_cons, List.map_nil, List.mem_singleton] at hb
      subst hb
      rintro rfl
      have : dGet kvs t.d = none := by
        cases q : dGet kvs t.d with
        | none => rfl
        | some x => rw [q] at hn; exact absurd rfl hn
      exact dGet_none this ha
  sub := fun p hp => by
    unfold dPut at hp
    split at hp
    · obtain ⟨q, hq, rfl⟩ := List.mem_map.mp hp
      split
      · exact g.sub q hq
      · exact g.sub q hq
    · rcases List.mem_append.mp hp with h | h
      · exact g.sub p h
      · rw [List.mem_singleton.mp h]
        exact List.mem_map.mpr ⟨t, ht, rfl⟩
/-- what `of` owes at level k -/
def OfOk (L : Lib) (root : Tr) (n m k : Nat) (t : Tr) : Prop := ∀ S, Inv L root n m S → ∃ c w S', (T k).Cheapest_of [.o n, .d t.d] S = some (.d (resD c w), S') ∧ Inv L root n m S' ∧ Best L t c ∧ Cvr L t w c
inductive OfL (L : Lib) : List Tr → List (Int × D) → Prop
  | nil : OfL L [] []
  | cons {t : Tr} {l : List Tr} {p : Int × D} {ps : List (Int × D)} : Best L t p.1 → Cvr L t p.2 p.1 → OfL L l ps → OfL L (t :: l) (p :: ps)
theorem OfL.cv {L : Lib} {l : List Tr} {ps : List (Int × D)} (h : OfL L l ps) : Cvrs L l (ps.map (·.2)) (ps.map (·.1)).sum := by
  induction h with
  | nil => exact .nil
  | cons h1 h2 _ ih => rw [List.map_cons, List.map_cons, List.sum_cons]; exact .cons h2 ih
theorem OfL.le {L : Lib} {l : List Tr} {ps : List (Int × D)} (h : OfL L l ps) : ∀ c, Achs L l c → (ps.map (·.1)).sum ≤ c := by
  induction h with
  | nil => intro c hc; cases hc; simp
  | cons h1 h2 _ ih =>
    intro c hc
    cases hc with
    | cons g1 g2 =>
      have := h1.2 _ g1
      have := ih _ g2
      rw [List.map_cons, List.sum_cons]
      omega
theorem told_of {L : Lib} {root : Tr} {n m k : Nat} {xs : List D} {a b c d e f g h j : Option RV} : ∀ {l : List Tr} {S : Sto}, (∀ t ∈ l, OfOk L root n m k t) → Inv L root n m S →
    ∃ ps S', lcGo ⟨xs, none⟩ (gN 9) (fTrue) (eMeth "Cheapest" "of" 2 (T k).Cheapest_of (eVar 0) (aCons (eVar 9) (aNil))) [some (.o n), a, b, c, d, e, f, g, h, none, j] (l.map Tr.d) S = some (ps.map fun p => resD p.1 p.2, S') ∧ Inv L root n m S' ∧ OfL L l ps
  | [], S, _, hI => ⟨[], S, lcGo_n, hI, .nil⟩
  | t :: l, S, hall, hI => by
    obtain ⟨c1, w1, S1, h1, h2, h3, h4⟩ := hall t List.mem_cons_self S hI
    obtain ⟨ps, S', h5, h6, h7⟩ := told_of (xs := xs) (a := a) (b := b) (c := c) (d := d) (e := e) (f := f) (g := g) (h := h) (j := j) (l := l) (S := S1) (fun t ht => hall t (List.mem_cons_of_mem _ ht)) h2
    refine ⟨(c1, w1) :: ps, S', ?_, h6, .cons h3 h4 h7⟩
    have hof : lkF "of" (fsOf L m) = none := by
      rw [lkF_s (by decide +kernel), lkF_s (by decide +kernel)]
      rfl
    rw [List.map_cons]
    simp only [eC_, eTy_, eVar_0, eVar_s, eBin_, binJ_, binK_, aNil_, aCons_, consJ_, fMap_, mapK_, eCall_, lCall_, aDs_, dsK_, dsOf_nil, dsOf_cons, eTup_, eVal_, eObj_, fIf_, ifK_t, ifK_f, fTest_, tstK_, fTru_, vTru_bl, vTru_int, vTru_non, vTru_lst, vTru_tup, fAnd_, andK_t, andK_f, fOr_, orK_t, orK_f, fNot_, eAnd_, eandK_t, eandK_f, eOr_, eorK_t, eorK_f, eNot_, notK_, vAdd_i, vAddI_i, vSub_i, vLt_i, vLe_i, vGt_i, vGe_i, vEq_i, vNe_i, vIsN_non, vIsN_int, vIsN_bl, vIsN_str, vIsN_tup, vIsN_lst, vIx_t, vIx_l, atI_0, atI_1, atI_2, bLen_t, bLen_l, bInt_i, bInt_b, bIsi_int, bIsi_bl, bIsi_str, bIsi_tup, bIsi_lst, bIsi_non, is_ii, is_ib, is_it, is_bi, is_bb, is_tt, is_ti, is_tb, is_st, is_si, is_ss, is_nt, is_ll, is_lt, is_tl, bTup_l, bTup_t, bBools_l, bInts_l, eMl0_, eMl1_, oRev_, sNil_, sSeq_, seqK_nx, seqK_rt, seqK_bk, seqK_ct, sIf_, sifK_t, sifK_f, sAsg_, asgK_, gN_, gsNil_, gsCons_, sRet_, sRetN_, sExpr_, sPar_, parK_, eSeq_, srcOf_t, srcOf_l, oEnum_t, oEnum_l, oZip_t, oZip_l, eCallP_, oP1, oP2, oP3, prV_v, prV_l, eCallS_, eFld_, finP_n, finP_v, finS_n, finS_r, eSlT_, slK_1, drop_1, lLc_, wipe_n, wipe_c, lcGo_n, lcGo_c, lcB_t, lcB_f, lcC_, fTrue_, forK_, foGo_n, foGo_c, foK_nx, foK_ct, foK_bk, foK_rt, lkF_0, eChain_, chJ_, chK_, chL_t, chL_f, eMake_, makeJ_, eMeth_, sFld_, fldJ_, eNewX_, sSubX_, sxJ_, sxK_, decide_true, decide_false, lRev_, eRevT_, revTK_, lCallP_, obind_some, obind_none, omap_some, omap_none, List.getElem?_cons_zero, List.getElem?_cons_succ, set_0, set_s, if_true, if_false, Bool.false_eq_true, Bool.not_true, Bool.not_false, methK_ hI.ins hof, methJ_ (n := 2) (rs := [.d t.d]) rfl, h1, h5]
    rfl
end K61

namespace K61
open PySem PySem.Spec PyProof.Rows L2 Ev

def bestD : Option (Int × Nat × List D) → D
  | none => .non
  | some x => .tup [.int x.1, .tup [.int (x.2.1 : Nat), .tup x.2.2]]
abbrev RO (n : Nat) (t : Tr) (o : Option (Int × Nat × List D)) (x3 x4 x5 x6 x7 x8 x9 x10 : Option RV) : Env' := [some (.o n), some (.d t.d), some (.d (bestD o)), x3, x4, x5, x6, x7, x8, x9, x10]
/-- told = [self.of(part) ..] -/
def AO (T : Tb) : Fs := sAsg (eVal (lLc (sSeq (eVar 6)) (gN 9) (fTrue) (eMeth "Cheapest" "of" 2 T.Cheapest_of (eVar 0) (aCons (eVar 9) (aNil))) [9])) (gN 7)
def BI (T : Tb) : Fs := sSeq2 (AO T)
    (sSeq2 (sAsg (eBin vAdd (eVar 4) (eCall (bInts List.sum) (aCons (eVal (lLc (sSeq (eVar 7)) (gN 10) (fTrue) (eBin vIx (eVar 10) (eC (.int 0))) [10])) (aNil)))) (gN 8))
    (sSeq2 (sIf (fOr (fTest (eBin (vIsN false) (eVar 2) (eC .non))) (fTest (eBin vLt (eVar 8) (eBin vIx (eVar 2) (eC (.int 0)))))) (sSeq2 (sAsg (eTup (aCons (eVar 8) (aCons (eTup (aCons (eVar 3) (aCons (eCall bTup (aCons (eVal (lLc (sSeq (eVar 7)) (gN 10) (fTrue) (eBin vIx (eVar 10) (eC (.int 1))) [10])) (aNil))) (aNil)))) (aNil)))) (gN 2))
    (sNil)) (sNil))
    (sNil)))
def BO (T : Tb) : Fs := sSeq2 (sFor (sSeq (eCallP 2 T.left_by (aCons (eVar 5) (aCons (eVar 1) (aNil))))) (gN 6) (BI T)) (sNil)
theorem F_of_eq (T : Tb) : F_Cheapest_of T = sSeq2 (sIf (fTru (eCallP 1 T.is_number (aCons (eVar 1) (aNil)))) (sSeq2 (sRet (eTup (aCons (eC (.int 0)) (aCons (eTup (aNil)) (aNil)))))
    (sNil)) (sNil))
    (sSeq2 (sIf (fTest (eBin (vInX true) (eVar 1) (eFld "known" (eVar 0)))) (sSeq2 (sAsg (eC .non) (gN 2))
    (sSeq2 (sFor (fMap (aCons (eFld "library" (eVar 0)) (aNil)) oEnum) (gTp 2 (gsCons (gN 3) (gsCons (gTp 2 (gsCons (gN 4) (gsCons (gN 5) (gsNil)))) (gsNil)))) (BO T))
    (sSeq2 (sSubX (eFld "known" (eVar 0)) (eVar 1) (eVar 2))
    (sNil)))) (sNil))
    (sSeq2 (sRet (eBin vIxX (eFld "known" (eVar 0)) (eVar 1)))
    (sNil))) := rfl
section
variable {L : Lib} {root : Tr} {n m k : Nat} {t : Tr} {i : Nat} {r : Int × Pt} {l : List Tr} {o : Option (Int × Nat × List D)} {S : Sto} {x6 x7 x8 x9 x10 : Option RV} {xs : List D}
def Snd (L : Lib) (t : Tr) (o : Option (Int × Nat × List D)) : Prop := ∀ x, o = some x → Cvr L t (.tup [.int (x.2.1 : Nat), .tup x.2.2]) x.1
/-- no worse than this row with this match -/
def Cmp (L : Lib) (o : Option (Int × Nat × List D)) (r : Int × Pt) (l : List Tr) : Prop := ∃ x, o = some x ∧ ∀ c, Achs L l c → x.1 ≤ r.1 + c
def Less (o o' : Option (Int × Nat × List D)) : Prop := ∀ x, o = some x → ∃ y, o' = some y ∧ y.1 ≤ x.1
theorem Cmp.less {o o' : Option (Int × Nat × List D)} (h : Cmp L o r l) (g : Less o o') : Cmp L o' r l := by
  obtain ⟨x, hx, h⟩ := h
  obtain ⟨y, hy, h2⟩ := g x hx
  exact ⟨y, hy, fun c hc => by have := h c hc; omega⟩
theorem bi_step (hr : L[i]? = some r) (hp : r.2 ≠ .ho) (hm : M r.2 t l) (hl16 : l.length ≤ 16) (hof : ∀ s ∈ l, OfOk L root n m k s) (hI : Inv L root n m S) (ho : Snd L t o) :
    ∃ o' y7 y8 S', BI (T k) (RO n t o (some (.d (.int (i : Nat)))) (some (.d (.int r.1))) (some (.d r.2.d)) (some (.d (tD l))) x7 x8 none none) S = some (.nx, RO n t o' (some (.d (.int (i : Nat)))) (some (.d (.int r.1))) (some (.d r.2.d)) (some (.d (tD l))) y7 y8 none none, S') ∧
      Inv L root n m S' ∧ Snd L t o' ∧ Less o o' ∧ Cmp L o' r l := by
  obtain ⟨ps, S', h1, h2, h3⟩ := told_of (xs := l.map Tr.d) (a := some (.d t.d)) (b := some (.d (bestD o))) (c := some (.d (.int (i : Nat)))) (d := some (.d (.int r.1))) (e := some (.d r.2.d)) (f := some (.d (tD l))) (g := x7) (h := x8) (j := none) hof hI
  have hn : ps.length = l.length := by
    have := h3.cv.len
    simpa using this.symm
  have hl1 : (l.map Tr.d).length ≤ Lim := by rw [List.length_map]; unfold Lim; omega
  have hl2 : (ps.map fun p => resD p.1 p.2).length ≤ Lim := by rw [List.length_map]; unfold Lim; omega
  have ht : srcOf (.d (tD l)) S = some ⟨l.map Tr.d, none⟩ := rfl
  have start : AO (T k) (RO n t o (some (.d (.int (i : Nat)))) (some (.d (.int r.1))) (some (.d r.2.d)) (some (.d (tD l))) x7 x8 none none) S = some (.nx, RO n t o (some (.d (.int (i : Nat)))) (some (.d (.int r.1))) (some (.d r.2.d)) (some (.d (tD l))) (some (.d (.lst (ps.map fun p => resD p.1 p.2)))) x8 none none, S') := by
    unfold AO
    simp only [eC_, eTy_, eVar_0, eVar_s, eBin_, binJ_, binK_, aNil_, aCons_, consJ_, fMap_, mapK_, eCall_, lCall_, aDs_, dsK_, dsOf_nil, dsOf_cons, eTup_, eVal_, eObj_, fIf_, ifK_t, ifK_f, fTest_, tstK_, fTru_, vTru_bl, vTru_int, vTru_non, vTru_lst, vTru_tup, fAnd_, andK_t, andK_f, fOr_, orK_t, orK_f, fNot_, eAnd_, eandK_t, eandK_f, eOr_, eorK_t, eorK_f, eNot_, notK_, vAdd_i, vAddI_i, vSub_i, vLt_i, vLe_i, vGt_i, vGe_i, vEq_i, vNe_i, vIsN_non, vIsN_int, vIsN_bl, vIsN_str, vIsN_tup, vIsN_lst, vIx_t, vIx_l, atI_0, atI_1, atI_2, bLen_t, bLen_l, bInt_i, bInt_b, bIsi_int, bIsi_bl, bIsi_str, bIsi_tup, bIsi_lst, bIsi_non, is_ii, is_ib, is_it, is_bi, is_bb, is_tt, is_ti, is_tb, is_st, is_si, is_ss, is_nt, is_ll, is_lt, is_tl, bTup_l, bTup_t, bBools_l, bInts_l, eMl0_, eMl1_, oRev_, sNil_, sSeq_, seqK_nx, seqK_rt, seqK_bk, seqK_ct, sIf_, sifK_t, sifK_f, sAsg_, asgK_, gN_, gsNil_, gsCons_, sRet_, sRetN_, sExpr_, sPar_, parK_, eSeq_, srcOf_t, srcOf_l, oEnum_t, oEnum_l, oZip_t, oZip_l, eCallP_, oP1, oP2, oP3, prV_v, prV_l, eCallS_, eFld_, finP_n, finP_v, finS_n, finS_r, eSlT_, slK_1, drop_1, lLc_, wipe_n, wipe_c, lcGo_n, lcGo_c, lcB_t, lcB_f, lcC_, fTrue_, forK_, foGo_n, foGo_c, foK_nx, foK_ct, foK_bk, foK_rt, lkF_0, eChain_, chJ_, chK_, chL_t, chL_f, eMake_, makeJ_, eMeth_, sFld_, fldJ_, eNewX_, sSubX_, sxJ_, sxK_, decide_true, decide_false, lRev_, eRevT_, revTK_, lCallP_, obind_some, obind_none, omap_some, omap_none, List.getElem?_cons_zero, List.getElem?_cons_succ, set_0, set_s, if_true, if_false, Bool.false_eq_true, Bool.not_true, Bool.not_false, ht, lcK_ hl1, h1]
  have m0 : ∀ {a b c d e f g h : Option RV}, lcGo ⟨ps.map fun p => resD p.1 p.2, none⟩ (gN 10) fTrue (eBin vIx (eVar 10) (eC (.int 0))) [some (.o n), a, b, c, d, e, f, g, h, none, none] (ps.map fun p => resD p.1 p.2) S' = some ((ps.map (·.1)).map D.int, S') := by
    intro a b c d e f g h
    rw [List.map_map]
    refine lcGo_mapE (fun p : Int × D => resD p.1 p.2) (D.int ∘ (·.1)) fun p _ => ⟨[some (.o n), a, b, c, d, e, f, g, h, none, some (.d (resD p.1 p.2))], rfl, rfl, ?_⟩
    unfold resD
    simp only [eC_, eTy_, eVar_0, eVar_s, eBin_, binJ_, binK_, aNil_, aCons_, consJ_, fMap_, mapK_, eCall_, lCall_, aDs_, dsK_, dsOf_nil, dsOf_cons, eTup_, eVal_, eObj_, fIf_, ifK_t, ifK_f, fTest_, tstK_, fTru_, vTru_bl, vTru_int, vTru_non, vTru_lst, vTru_tup, fAnd_, andK_t, andK_f, fOr_, orK_t, orK_f, fNot_, eAnd_, eandK_t, eandK_f, eOr_, eorK_t, eorK_f, eNot_, notK_, vAdd_i, vAddI_i, vSub_i, vLt_i, vLe_i, vGt_i, vGe_i, vEq_i, vNe_i, vIsN_non, vIsN_int, vIsN_bl, vIsN_str, vIsN_tup, vIsN_lst, vIx_t, vIx_l, atI_0, atI_1, atI_2, bLen_t, bLen_l, bInt_i, bInt_b, bIsi_int, bIsi_bl, bIsi_str, bIsi_tup, bIsi_lst, bIsi_non, is_ii, is_ib, is_it, is_bi, is_bb, is_tt, is_ti, is_tb, is_st, is_si, is_ss, is_nt, is_ll, is_lt, is_tl, bTup_l, bTup_t, bBools_l, bInts_l, eMl0_, eMl1_, oRev_, sNil_, sSeq_, seqK_nx, seqK_rt, seqK_bk, seqK_ct, sIf_, sifK_t, sifK_f, sAsg_, asgK_, gN_, gsNil_, gsCons_, sRet_, sRetN_, sExpr_, sPar_, parK_, eSeq_, srcOf_t, srcOf_l, oEnum_t, oEnum_l, oZip_t, oZip_l, eCallP_, oP1, oP2, oP3, prV_v, prV_l, eCallS_, eFld_, finP_n, finP_v, finS_n, finS_r, eSlT_, slK_1, drop_1, lLc_, wipe_n, wipe_c, lcGo_n, lcGo_c, lcB_t, lcB_f, lcC_, fTrue_, forK_, foGo_n, foGo_c, foK_nx, foK_ct, foK_bk, foK_rt, lkF_0, eChain_, chJ_, chK_, chL_t, chL_f, eMake_, makeJ_, eMeth_, sFld_, fldJ_, eNewX_, sSubX_, sxJ_, sxK_, decide_true, decide_false, lRev_, eRevT_, revTK_, lCallP_, obind_some, obind_none, omap_some, omap_none, List.getElem?_cons_zero, List.getElem?_cons_succ, set_0, set_s, if_true, if_false, Bool.false_eq_true, Bool.not_true, Bool.not_false]
    rfl
  have m1 : ∀ {a b c d e f g h : Option RV}, lcGo ⟨ps.map fun p => resD p.1 p.2, none⟩ (gN 10) fTrue (eBin vIx (eVar 10) (eC (.int 1))) [some (.o n), a, b, c, d, e, f, g, h, none, none] (ps.map fun p => resD p.1 p.2) S' = some (ps.map (·.2), S') := by
    intro a b c d e f g h
    refine lcGo_mapE (fun p : Int × D => resD p.1 p.2) (·.2) fun p _ => ⟨[some (.o n), a, b, c, d, e, f, g, h, none, some (.d (resD p.1 p.2))], rfl, rfl, ?_⟩
    unfold resD
    simp only [eC_, eTy_, eVar_0, eVar_s, eBin_, binJ_, binK_, aNil_, aCons_, consJ_, fMap_, mapK_, eCall_, lCall_, aDs_, dsK_, dsOf_nil, dsOf_cons, eTup_, eVal_, eObj_, fIf_, ifK_t, ifK_f, fTest_, tstK_, fTru_, vTru_bl, vTru_int, vTru_non, vTru_lst, vTru_tup, fAnd_, andK_t, andK_f, fOr_, orK_t, orK_f, fNot_, eAnd_, eandK_t, eandK_f, eOr_, eorK_t, eorK_f, eNot_, notK_, vAdd_i, vAddI_i, vSub_i, vLt_i, vLe_i, vGt_i, vGe_i, vEq_i, vNe_i, vIsN_non, vIsN_int, vIsN_bl, vIsN_str, vIsN_tup, vIsN_lst, vIx_t, vIx_l, atI_0, atI_1, atI_2, bLen_t, bLen_l, bInt_i, bInt_b, bIsi_int, bIsi_bl, bIsi_str, bIsi_tup, bIsi_lst, bIsi_non, is_ii, is_ib, is_it, is_bi, is_bb, is_tt, is_ti, is_tb, is_st, is_si, is_ss, is_nt, is_ll, is_lt, is_tl, bTup_l, bTup_t, bBools_l, bInts_l, eMl0_, eMl1_, oRev_, sNil_, sSeq_, seqK_nx, seqK_rt, seqK_bk, seqK_ct, sIf_, sifK_t, sifK_f, sAsg_, asgK_, gN_, gsNil_, gsCons_, sRet_, sRetN_, sExpr_, sPar_, parK_, eSeq_, srcOf_t, srcOf_l, oEnum_t, oEnum_l, oZip_t, oZip_l, eCallP_, oP1, oP2, oP3, prV_v, prV_l, eCallS_, eFld_, finP_n, finP_v, finS_n, finS_r, eSlT_, slK_1, drop_1, lLc_, wipe_n, wipe_c, lcGo_n, lcGo_c, lcB_t, lcB_f, lcC_, fTrue_, forK_, foGo_n, foGo_c, foK_nx, foK_ct, foK_bk, foK_rt, lkF_0, eChain_, chJ_, chK_, chL_t, chL_f, eMake_, makeJ_, eMeth_, sFld_, fldJ_, eNewX_, sSubX_, sxJ_, sxK_, decide_true, decide_false, lRev_, eRevT_, revTK_, lCallP_, obind_some, obind_none, omap_some, omap_none, List.getElem?_cons_zero, List.getElem?_cons_succ, set_0, set_s, if_true, if_false, Bool.false_eq_true, Bool.not_true, Bool.not_false]
  have n3 := bInts_l (S := S') (k := List.sum) (bs := ps.map (·.1))
  have cv : Cvr L t (.tup [.int (i : Nat), .tup (ps.map (·.2))]) (r.1 + (ps.map (·.1)).sum) := .no hr hp hm h3.cv
  have two : (2 : Nat) ≤ Lim := two_lim
  cases o with
  | none =>
    refine ⟨some (r.1 + (ps.map (·.1)).sum, i, ps.map (·.2)), some (.d (.lst (ps.map fun p => resD p.1 p.2))), some (.d (.int (r.1 + (ps.map (·.1)).sum))), S', ?_, h2, (fun x e => by cases e; exact cv), (fun x e => nomatch e), ⟨_, rfl, fun c hc => by have := h3.le c hc; omega⟩⟩
    · unfold BI
      simp only [eC_, eTy_, eVar_0, eVar_s, eBin_, binJ_, binK_, aNil_, aCons_, consJ_, fMap_, mapK_, eCall_, lCall_, aDs_, dsK_, dsOf_nil, dsOf_cons, eTup_, eVal_, eObj_, fIf_, ifK_t, ifK_f, fTest_, tstK_, fTru_, vTru_bl, vTru_int, vTru_non, vTru_lst, vTru_tup, fAnd_, andK_t, andK_f, fOr_, orK_t, orK_f, fNot_, eAnd_, eandK_t, eandK_f, eOr_, eorK_t, eorK_f, eNot_, notK_, vAdd_i, vAddI_i, vSub_i, vLt_i, vLe_i, vGt_i, vGe_i, vEq_i, vNe_i, vIsN_non, vIsN_int, vIsN_bl, vIsN_str, vIsN_tup, vIsN_lst, vIx_t, vIx_l, atI_0, atI_1, atI_2, bLen_t, bLen_l, bInt_i, bInt_b, bIsi_int, bIsi_bl, bIsi_str, bIsi_tup, bIsi_lst, bIsi_non, is_ii, is_ib, is_it, is_bi, is_bb, is_tt, is_ti, is_tb, is_st, is_si, is_ss, is_nt, is_ll, is_lt, is_tl, bTup_l, bTup_t, bBools_l, bInts_l, eMl0_, eMl1_, oRev_, sNil_, sSeq_, seqK_nx, seqK_rt, seqK_bk, seqK_ct, sIf_, sifK_t, sifK_f, sAsg_, asgK_, gN_, gsNil_, gsCons_, sRet_, sRetN_, sExpr_, sPar_, parK_, eSeq_, srcOf_t, srcOf_l, oEnum_t, oEnum_l, oZip_t, oZip_l, eCallP_, oP1, oP2, oP3, prV_v, prV_l, eCallS_, eFld_, finP_n, finP_v, finS_n, finS_r, eSlT_, slK_1, drop_1, lLc_, wipe_n, wipe_c, lcGo_n, lcGo_c, lcB_t, lcB_f, lcC_, fTrue_, forK_, foGo_n, foGo_c, foK_nx, foK_ct, foK_bk, foK_rt, lkF_0, eChain_, chJ_, chK_, chL_t, chL_f, eMake_, makeJ_, eMeth_, sFld_, fldJ_, eNewX_, sSubX_, sxJ_, sxK_, decide_true, decide_false, lRev_, eRevT_, revTK_, lCallP_, obind_some, obind_none, omap_some, omap_none, List.getElem?_cons_zero, List.getElem?_cons_succ, set_0, set_s, if_true, if_false, Bool.false_eq_true, Bool.not_true, Bool.not_false, start, lcK_ hl2, m0, m1, n3, bestD, List.length_cons, List.length_nil, Nat.zero_add, Nat.reduceAdd, if_pos two]
      rfl
  | some x =>
    by_cases hb : r.1 + (ps.map (·.1)).sum < x.1
    · have hb' : decide (r.1 + (ps.map (·.1)).sum < x.1) = true := decide_eq_true hb
      refine ⟨some (r.1 + (ps.map (·.1)).sum, i, ps.map (·.2)), some (.d (.lst (ps.map fun p => resD p.1 p.2))), some (.d (.int (r.1 + (ps.map (·.1)).sum))), S', ?_, h2, (fun x e => by cases e; exact cv), (fun y e => by cases e; exact ⟨_, rfl, by show r.1 + _ ≤ _; omega⟩), ⟨_, rfl, fun c hc => by have := h3.le c hc; omega⟩⟩
      · unfold BI
        simp only [eC_, eTy_, eVar_0, eVar_s, eBin_, binJ_, binK_, aNil_, aCons_, consJ_, fMap_, mapK_, eCall_, lCall_, aDs_, dsK_, dsOf_nil, dsOf_cons, eTup_, eVal_, eObj_, fIf_, ifK_t, ifK_f, fTest_, tstK_, fTru_, vTru_bl, vTru_int, vTru_non, vTru_lst, vTru_tup, fAnd_, andK_t, andK_f, fOr_, orK_t, orK_f, fNot_, eAnd_, eandK_t, eandK_f, eOr_, eorK_t, eorK_f, eNot_, notK_, vAdd_i, vAddI_i, vSub_i, vLt_i, vLe_i, vGt_i, vGe_i, vEq_i, vNe_i, vIsN_non, vIsN_int, vIsN_bl, vIsN_str, vIsN_tup, vIsN_lst, vIx_t, vIx_l, atI_0, atI_1, atI_2, bLen_t, bLen_l, bInt_i, bInt_b, bIsi_int, bIsi_bl, bIsi_str, bIsi_tup, bIsi_lst, bIsi_non, is_ii, is_ib, is_it, is_bi, is_bb, is_tt, is_ti, is_tb, is_st, is_si, is_ss, is_nt, is_ll, is_lt, is_tl, bTup_l, bTup_t, bBools_l, bInts_l, eMl0_, eMl1_, oRev_, sNil_, sSeq_, seqK_nx, seqK_rt, seqK_bk, seqK_ct, sIf_, sifK_t, sifK_f, sAsg_, asgK_, gN_, gsNil_, gsCons_, sRet_, sRetN_, sExpr_, sPar_, parK_, eSeq_, srcOf_t, srcOf_l, oEnum_t, oEnum_l, oZip_t, oZip_l, eCallP_, oP1, oP2, oP3, prV_v, prV_l, eCallS_, eFld_, finP_n, finP_v, finS_n, finS_r, eSlT_, slK_1, drop_1, lLc_, wipe_n, wipe_c, lcGo_n, lcGo_c, lcB_t, lcB_f, lcC_, fTrue_, forK_, foGo_n, foGo_c, foK_nx, foK_ct, foK_bk, foK_rt, lkF_0, eChain_, chJ_, chK_, chL_t, chL_f, eMake_, makeJ_, eMeth_, sFld_, fldJ_, eNewX_, sSubX_, sxJ_, sxK_, decide_true, decide_false, lRev_, eRevT_, revTK_, lCallP_, obind_some, obind_none, omap_some, omap_none, List.getElem?_cons_zero, List.getElem?_cons_succ, set_0, set_s, if_true, if_false, Bool.false_eq_true, Bool.not_true, Bool.not_false, start, lcK_ hl2, m0, m1, n3, bestD, hb', List.length_cons, List.length_nil, Nat.zero_add, Nat.reduceAdd, if_pos two]
        rfl
    · have hb' : decide (r.1 + (ps.map (·.1)).sum < x.1) = false := decide_eq_false hb
      refine ⟨some x, some (.d (.lst (ps.map fun p => resD p.1 p.2))), some (.d (.int (r.1 + (ps.map (·.1)).sum))), S', ?_, h2, ho, (fun y e => ⟨y, e, Int.le_refl _⟩), ⟨x, rfl, fun c hc => by have := h3.le c hc; omega⟩⟩
      · unfold BI
        simp only [eC_, eTy_, eVar_0, eVar_s, eBin_, binJ_, binK_, aNil_, aCons_, consJ_, fMap_, mapK_, eCall_, lCall_, aDs_, dsK_, dsOf_nil, dsOf_cons, eTup_, eVal_, eObj_, fIf_, ifK_t, ifK_f, fTest_, tstK_, fTru_, vTru_bl, vTru_int, vTru_non, vTru_lst, vTru_tup, fAnd_, andK_t, andK_f, fOr_, orK_t, orK_f, fNot_, eAnd_, eandK_t, eandK_f, eOr_, eorK_t, eorK_f, eNot_, notK_, vAdd_i, vAddI_i, vSub_i, vLt_i, vLe_i, vGt_i, vGe_i, vEq_i, vNe_i, vIsN_non, vIsN_int, vIsN_bl, vIsN_str, vIsN_tup, vIsN_lst, vIx_t, vIx_l, atI_0, atI_1, atI_2, bLen_t, bLen_l, bInt_i, bInt_b, bIsi_int, bIsi_bl, bIsi_str, bIsi_tup, bIsi_lst, bIsi_non, is_ii, is_ib, is_it, is_bi, is_bb, is_tt, is_ti, is_tb, is_st, is_si, is_ss, is_nt, is_ll, is_lt, is_tl, bTup_l, bTup_t, bBools_l, bInts_l, eMl0_, eMl1_, oRev_, sNil_, sSeq_, seqK_nx, seqK_rt, seqK_bk, seqK_ct, sIf_, sifK_t, sifK_f, sAsg_, asgK_, gN_, gsNil_, gsCons_, sRet_, sRetN_, sExpr_, sPar_, parK_, eSeq_, srcOf_t, srcOf_l, oEnum_t, oEnum_l, oZip_t, oZip_l, eCallP_, oP1, oP2, oP3, prV_v, prV_l, eCallS_, eFld_, finP_n, finP_v, finS_n, finS_r, eSlT_, slK_1, drop_1, lLc_, wipe_n, wipe_c, lcGo_n, lcGo_c, lcB_t, lcB_f, lcC_, fTrue_, forK_, foGo_n, foGo_c, foK_nx, foK_ct, foK_bk, foK_rt, lkF_0, eChain_, chJ_, chK_, chL_t, chL_f, eMake_, makeJ_, eMeth_, sFld_, fldJ_, eNewX_, sSubX_, sxJ_, sxK_, decide_true, decide_false, lRev_, eRevT_, revTK_, lCallP_, obind_some, obind_none, omap_some, omap_none, List.getElem?_cons_zero, List.getElem?_cons_succ, set_0, set_s, if_true, if_false, Bool.false_eq_true, Bool.not_true, Bool.not_false, start, lcK_ hl2, m0, m1, n3, bestD, hb']
        rfl
end
section
variable {L : Lib} {root : Tr} {n m k : Nat} {t : Tr} {i : Nat} {r : Int × Pt} {o : Option (Int × Nat × List D)} {S : Sto} {x3 x4 x5 x6 x7 x8 : Option RV}
theorem Less.refl : Less o o := fun x e => ⟨x, e, Int.le_refl _⟩
theorem Less.trans {a b c : Option (Int × Nat × List D)} (h : Less a b) (g : Less b c) : Less a c := fun x e => by
  obtain ⟨y, e1, h1⟩ := h x e
  obtain ⟨z, e2, h2⟩ := g y e1
  exact ⟨z, e2, by omega⟩
theorem bo_step (hr : L[i]? = some r) (hp : r.2 ≠ .ho) (hd2 : r.2.dep ≤ 2) (ht5 : t.dep ≤ 50) (hof : ∀ s : Tr, s.dep < t.dep → s ∈ subs t → OfOk L root n m (k + 4) s) (hI : Inv L root n m S) (ho : Snd L t o) :
    ∃ o' y6 y7 y8 S', BO (T (k + 4)) (RO n t o (some (.d (.int (i : Nat)))) (some (.d (.int r.1))) (some (.d r.2.d)) x6 x7 x8 none none) S = some (.nx, RO n t o' (some (.d (.int (i : Nat)))) (some (.d (.int r.1))) (some (.d r.2.d)) y6 y7 y8 none none, S') ∧
      Inv L root n m S' ∧ Snd L t o' ∧ Less o o' ∧ ∀ l, M r.2 t l → Cmp L o' r l := by
  obtain ⟨rl, e1, e2⟩ := left_ok r.2 t (k + 3) hd2 ht5 (by omega)
  have key := foGo_inv (s := ⟨(leftBy r.2 t).map tD, none⟩) (gg := gN 6) (F := BI (T (k + 4))) (fun j ρ S => ∃ o' y6 y7 y8, ρ = RO n t o' (some (.d (.int (i : Nat)))) (some (.d (.int r.1))) (some (.d r.2.d)) y6 y7 y8 none none ∧ Inv L root n m S ∧ Snd L t o' ∧ Less o o' ∧
    ∀ l ∈ (leftBy r.2 t).take j, Cmp L o' r l) (fun _ _ _ _ => rfl) (fun j ρ S d hd p => ?_) ((leftBy r.2 t).map tD).length 0 (RO n t o (some (.d (.int (i : Nat)))) (some (.d (.int r.1))) (some (.d r.2.d)) x6 x7 x8 none none) S (by simp) ⟨o, x6, x7, x8, rfl, hI, ho, .refl, fun l hl => by simp at hl⟩
  · obtain ⟨ρ', S', h1, o', y6, y7, y8, rfl, h2, h3, h4, h5⟩ := key
    rw [show (⟨(leftBy r.2 t).map tD, none⟩ : Src).ds.length = (leftBy r.2 t).length from List.length_map _, List.take_length] at h5
    rw [List.drop_zero] at h1
    refine ⟨o', y6, y7, y8, S', ?_, h2, h3, h4, fun l hl => h5 l (mem_left.mpr hl)⟩
    unfold BO
    have h1' : foGo ⟨(leftBy r.2 t).map tD, none⟩ (gN 6) (BI (T (k + 4))) ((leftBy r.2 t).map tD) (RO n t o (some (.d (.int (i : Nat)))) (some (.d (.int r.1))) (some (.d r.2.d)) x6 x7 x8 none none) S = some (.nx, RO n t o' (some (.d (.int (i : Nat)))) (some (.d (.int r.1))) (some (.d r.2.d)) y6 y7 y8 none none, S') := h1
    simp only [eC_, eTy_, eVar_0, eVar_s, eBin_, binJ_, binK_, aNil_, aCons_, consJ_, fMap_, mapK_, eCall_, lCall_, aDs_, dsK_, dsOf_nil, dsOf_cons, eTup_, eVal_, eObj_, fIf_, ifK_t, ifK_f, fTest_, tstK_, fTru_, vTru_bl, vTru_int, vTru_non, vTru_lst, vTru_tup, fAnd_, andK_t, andK_f, fOr_, orK_t, orK_f, fNot_, eAnd_, eandK_t, eandK_f, eOr_, eorK_t, eorK_f, eNot_, notK_, vAdd_i, vAddI_i, vSub_i, vLt_i, vLe_i, vGt_i, vGe_i, vEq_i, vNe_i, vIsN_non, vIsN_int, vIsN_bl, vIsN_str, vIsN_tup, vIsN_lst, vIx_t, vIx_l, atI_0, atI_1, atI_2, bLen_t, bLen_l, bInt_i, bInt_b, bIsi_int, bIsi_bl, bIsi_str, bIsi_tup, bIsi_lst, bIsi_non, is_ii, is_ib, is_it, is_bi, is_bb, is_tt, is_ti, is_tb, is_st, is_si, is_ss, is_nt, is_ll, is_lt, is_tl, bTup_l, bTup_t, bBools_l, bInts_l, eMl0_, eMl1_, oRev_, sNil_, sSeq_, seqK_nx, seqK_rt, seqK_bk, seqK_ct, sIf_, sifK_t, sifK_f, sAsg_, asgK_, gN_, gsNil_, gsCons_, sRet_, sRetN_, sExpr_, sPar_, parK_, eSeq_, srcOf_t, srcOf_l, oEnum_t, oEnum_l, oZip_t, oZip_l, eCallP_, oP1, oP2, oP3, prV_v, prV_l, eCallS_, eFld_, finP_n, finP_v, finS_n, finS_r, eSlT_, slK_1, drop_1, lLc_, wipe_n, wipe_c, lcGo_n, lcGo_c, lcB_t, lcB_f, lcC_, fTrue_, forK_, foGo_n, foGo_c, foK_nx, foK_ct, foK_bk, foK_rt, lkF_0, eChain_, chJ_, chK_, chL_t, chL_f, eMake_, makeJ_, eMeth_, sFld_, fldJ_, eNewX_, sSubX_, sxJ_, sxK_, decide_true, decide_false, lRev_, eRevT_, revTK_, lCallP_, obind_some, obind_none, omap_some, omap_none, List.getElem?_cons_zero, List.getElem?_cons_succ, set_0, set_s, if_true, if_false, Bool.false_eq_true, Bool.not_true, Bool.not_false, sFor_, e1, e2, h1']
  · obtain ⟨o', y6, y7, y8, rfl, h2, h3, h4, h5⟩ := p
    have hd : ((leftBy r.2 t).map tD)[j]? = some d := hd
    rw [List.getElem?_map] at hd
    obtain ⟨l, hl, rfl⟩ := Option.map_eq_some_iff.mp hd
    have hm := mem_left.mp (List.mem_of_getElem? hl)
    obtain ⟨o2, z7, z8, S2, g1, g2, g3, g4, g5⟩ := bi_step (x7 := y7) (x8 := y8) hr hp hm (by have := (Pt.b2 hd2).1; rw [hm.len]; omega) (fun s hs => hof s (hm.lt hp s hs) (hm.subs s hs)) h2 h3
    refine ⟨_, .nx, _, _, rfl, g1, .inl rfl, o2, _, _, _, rfl, g2, g3, h4.trans g4, fun l' hl' => ?_⟩
    rw [take_succ' hl] at hl'
    rcases List.mem_append.mp hl' with h | h
    · exact (h5 l' h).less g4
    · rw [List.mem_singleton.mp h]; exact g5
/-- all rows -/
theorem rows_loop (hL : WL L) (ht5 : t.dep ≤ 50) (hof : ∀ s : Tr, s.dep < t.dep → s ∈ subs t → OfOk L root n m (k + 4) s) (hI : Inv L root n m S) :
    ∃ o' y3 y4 y5 y6 y7 y8 S', foGo ⟨enumD 0 (L.map rowD), none⟩ (gTp 2 (gsCons (gN 3) (gsCons (gTp 2 (gsCons (gN 4) (gsCons (gN 5) (gsNil)))) (gsNil)))) (BO (T (k + 4))) (enumD 0 (L.map rowD)) (RO n t none none none none none none none none none) S = some (.nx, RO n t o' y3 y4 y5 y6 y7 y8 none none, S') ∧
      Inv L root n m S' ∧ Snd L t o' ∧ ∀ r ∈ L, ∀ l, M r.2 t l → Cmp L o' r l := by
  have hlen : (enumD 0 (L.map rowD)).length = L.length := by rw [enumD_len, List.length_map]
  have key := foGo_inv (s := ⟨enumD 0 (L.map rowD), none⟩) (gg := gTp 2 (gsCons (gN 3) (gsCons (gTp 2 (gsCons (gN 4) (gsCons (gN 5) (gsNil)))) (gsNil)))) (F := BO (T (k + 4))) (fun j ρ S => ∃ o' y3 y4 y5 y6 y7 y8, ρ = RO n t o' y3 y4 y5 y6 y7 y8 none none ∧ Inv L root n m S ∧ Snd L t o' ∧
    ∀ r ∈ L.take j, ∀ l, M r.2 t l → Cmp L o' r l) (fun _ _ _ _ => rfl) (fun j ρ S d hd p => ?_) (enumD 0 (L.map rowD)).length 0 (RO n t none none none none none none none none none) S (by simp) ⟨none, none, none, none, none, none, none, rfl, hI, (fun x e => nomatch e), fun r hr => by simp at hr⟩
  · obtain ⟨ρ', S', h1, o', y3, y4, y5, y6, y7, y8, rfl, h2, h3, h5⟩ := key
    rw [show (⟨enumD 0 (L.map rowD), none⟩ : Src).ds.length = L.length from hlen, List.take_length] at h5
    rw [List.drop_zero] at h1
    exact ⟨o', y3, y4, y5, y6, y7, y8, S', h1, h2, h3, h5⟩
  · obtain ⟨o', y3, y4, y5, y6, y7, y8, rfl, h2, h3, h5⟩ := p
    have hd : (enumD 0 (L.map rowD))[j]? = some d := hd
    have hj : j < L.length := by
      have := (List.getElem?_eq_some_iff.mp hd).1
      rwa [hlen] at this
    have hr : L[j]? = some L[j] := by simp [hj]
    have hq := enumD_at (k := 0) (show (L.map rowD)[j]? = some (rowD L[j]) by rw [List.getElem?_map, hr]; rfl)
    rw [hd] at hq
    rw [Nat.zero_add] at hq
    cases hq
    generalize L[j] = r at hr
    obtain ⟨hp, hd2⟩ := hL.pat r (List.mem_of_getElem? hr)
    obtain ⟨o2, z6, z7, z8, S2, g1, g2, g3, g4, g5⟩ := bo_step (k := k) (x6 := y6) (x7 := y7) (x8 := y8) hr hp hd2 ht5 hof h2 h3
    refine ⟨RO n t o' (some (.d (.int (j : Nat)))) (some (.d (.int r.1))) (some (.d r.2.d)) y6 y7 y8 none none, .nx, _, _, rfl, g1, .inl rfl, o2, _, _, _, _, _, _, rfl, g2, g3, fun r' hr' l hl => ?_⟩
    rw [take_succ' hr] at hr'
    rcases List.mem_append.mp hr' with h | h
    · exact (h5 r' h l hl).less g4
    · rw [List.mem_singleton.mp h] at hl ⊢; exact g5 l hl
theorem ach_lf {i : Nat} {c : Int} (h : Ach L (.lf i) c) : c = 0 := by
  cases h with
  | lf => rfl
  | no h1 h2 h3 h4 => exact absurd h3.nlf h2
theorem best_lf {i : Nat} : Best L (.lf i) 0 := ⟨.lf i, fun c h => by rw [ach_lf h]; exact Int.le_refl _⟩
/-- every tree has a cover -/
theorem ach_ex (hL : WL L) : ∀ t : Tr, ∃ c, Ach L t c
  | .lf i => ⟨0, .lf i⟩
  | .nt a => by
    obtain ⟨c, hc⟩ := ach_ex hL a
    obtain ⟨d, hd⟩ := hL.n1
    exact ⟨_, .no hd (by simp) (.nt (.ho a)) (.cons hc .nil)⟩
  | .nd a b => by
    obtain ⟨c, hc⟩ := ach_ex hL a
    obtain ⟨c', hc'⟩ := ach_ex hL b
    obtain ⟨d, hd⟩ := hL.n2
    exact ⟨_, .no hd (by simp) (.nd (.ho a) (.ho b)) (.cons hc (.cons hc' .nil))⟩
theorem of_leaf {j : Nat} : OfOk L root n m (k + 2) (.lf j) := fun S hI => by
  refine ⟨0, .tup [], S, ?_, hI, best_lf, .lf j⟩
  show (F_Cheapest_of (T (k + 1)) [some (.o n), some (.d (.int j)), none, none, none, none, none, none, none, none, none] S).bind finS = _
  rw [F_of_eq]
  simp only [eC_, eTy_, eVar_0, eVar_s, eBin_, binJ_, binK_, aNil_, aCons_, consJ_, fMap_, mapK_, eCall_, lCall_, aDs_, dsK_, dsOf_nil, dsOf_cons, eTup_, eVal_, eObj_, fIf_, ifK_t, ifK_f, fTest_, tstK_, fTru_, vTru_bl, vTru_int, vTru_non, vTru_lst, vTru_tup, fAnd_, andK_t, andK_f, fOr_, orK_t, orK_f, fNot_, eAnd_, eandK_t, eandK_f, eOr_, eorK_t, eorK_f, eNot_, notK_, vAdd_i, vAddI_i, vSub_i, vLt_i, vLe_i, vGt_i, vGe_i, vEq_i, vNe_i, vIsN_non, vIsN_int, vIsN_bl, vIsN_str, vIsN_tup, vIsN_lst, vIx_t, vIx_l, atI_0, atI_1, atI_2, bLen_t, bLen_l, bInt_i, bInt_b, bIsi_int, bIsi_bl, bIsi_str, bIsi_tup, bIsi_lst, bIsi_non, is_ii, is_ib, is_it, is_bi, is_bb, is_tt, is_ti, is_tb, is_st, is_si, is_ss, is_nt, is_ll, is_lt, is_tl, bTup_l, bTup_t, bBools_l, bInts_l, eMl0_, eMl1_, oRev_, sNil_, sSeq_, seqK_nx, seqK_rt, seqK_bk, seqK_ct, sIf_, sifK_t, sifK_f, sAsg_, asgK_, gN_, gsNil_, gsCons_, sRet_, sRetN_, sExpr_, sPar_, parK_, eSeq_, srcOf_t, srcOf_l, oEnum_t, oEnum_l, oZip_t, oZip_l, eCallP_, oP1, oP2, oP3, prV_v, prV_l, eCallS_, eFld_, finP_n, finP_v, finS_n, finS_r, eSlT_, slK_1, drop_1, lLc_, wipe_n, wipe_c, lcGo_n, lcGo_c, lcB_t, lcB_f, lcC_, fTrue_, forK_, foGo_n, foGo_c, foK_nx, foK_ct, foK_bk, foK_rt, lkF_0, eChain_, chJ_, chK_, chL_t, chL_f, eMake_, makeJ_, eMeth_, sFld_, fldJ_, eNewX_, sSubX_, sxJ_, sxK_, decide_true, decide_false, lRev_, eRevT_, revTK_, lCallP_, obind_some, obind_none, omap_some, omap_none, List.getElem?_cons_zero, List.getElem?_cons_succ, set_0, set_s, if_true, if_false, Bool.false_eq_true, Bool.not_true, Bool.not_false, num_lf, List.length_cons, List.length_nil, Nat.zero_add, Nat.reduceAdd, if_pos zero_lim, if_pos two_lim]
  rfl
theorem tr_tup : ∀ {t : Tr}, t.isLf = false → ∃ ds, t.d = .tup ds
  | .nt a, _ => ⟨_, rfl⟩
  | .nd a b, _ => ⟨_, rfl⟩
theorem of_node (hL : WL L) (hlf : t.isLf = false) (hr8 : root.dep ≤ 8) (hsub : t ∈ subs root) (ht : t.dep ≤ 8) (hof : ∀ s : Tr, s.dep < t.dep → s ∈ subs t → OfOk L root n m (k + 4) s) : OfOk L root n m (k + 5) t := fun S hI => by
  obtain ⟨ds, hds⟩ := tr_tup hlf
  have hkey : D.isKey 8 (.tup ds) = true := by rw [← hds]; exact isKey_mono t.key ht
  have hne : ("known" : Str) ≠ "library" := by decide +kernel
  obtain ⟨kvs, hk1, hk2⟩ := hI.dct
  have hkn : lkF "known" (fsOf L m) = some (.o m) := by rw [lkF_s hne, lkF_0]
  have hlb : lkF "library" (fsOf L m) = some (.d (libD L)) := lkF_0
  have hnum : (T (k + 4)).is_number [.tup ds] = some (.v (.bl false)) := num_tup
  have hin : vInX true (.d (.tup ds)) (.o m) S = some (.d (.bl (!(dGet kvs (.tup ds)).isSome))) := by rw [vInX_ hk1 hkey]; rfl
  show ∃ c w S', (F_Cheapest_of (T (k + 4)) [some (.o n), some (.d t.d), none, none, none, none, none, none, none, none, none] S).bind finS = some (.d (resD c w), S') ∧ _
  rw [F_of_eq]
  cases hq : dGet kvs (.tup ds) with
  | some v =>
    obtain ⟨t', c, w, e1, e2, e3, e4⟩ := hk2.val _ _ hq
    rw [← hds] at e1
    have := Tr.inj e1
    subst this
    subst e2
    refine ⟨c, w, S, ?_, hI, e3, e4⟩
    rw [hq] at hin
    have hix : vIxX (.o m) (.d (.tup ds)) S = some (.d (resD c w)) := by rw [vIxX_ hk1 hkey, hq]; rfl
    rw [hds]
    simp only [Option.isSome_some] at hin
    simp only [eC_, eTy_, eVar_0, eVar_s, eBin_, binJ_, binK_, aNil_, aCons_, consJ_, fMap_, mapK_, eCall_, lCall_, aDs_, dsK_, dsOf_nil, dsOf_cons, eTup_, eVal_, eObj_, fIf_, ifK_t, ifK_f, fTest_, tstK_, fTru_, vTru_bl, vTru_int, vTru_non, vTru_lst, vTru_tup, fAnd_, andK_t, andK_f, fOr_, orK_t, orK_f, fNot_, eAnd_, eandK_t, eandK_f, eOr_, eorK_t, eorK_f, eNot_, notK_, vAdd_i, vAddI_i, vSub_i, vLt_i, vLe_i, vGt_i, vGe_i, vEq_i, vNe_i, vIsN_non, vIsN_int, vIsN_bl, vIsN_str, vIsN_tup, vIsN_lst, vIx_t, vIx_l, atI_0, atI_1, atI_2, bLen_t, bLen_l, bInt_i, bInt_b, bIsi_int, bIsi_bl, bIsi_str, bIsi_tup, bIsi_lst, bIsi_non, is_ii, is_ib, is_it, is_bi, is_bb, is_tt, is_ti, is_tb, is_st, is_si, is_ss, is_nt, is_ll, is_lt, is_tl, bTup_l, bTup_t, bBools_l, bInts_l, eMl0_, eMl1_, oRev_, sNil_, sSeq_, seqK_nx, seqK_rt, seqK_bk, seqK_ct, sIf_, sifK_t, sifK_f, sAsg_, asgK_, gN_, gsNil_, gsCons_, sRet_, sRetN_, sExpr_, sPar_, parK_, eSeq_, srcOf_t, srcOf_l, oEnum_t, oEnum_l, oZip_t, oZip_l, eCallP_, oP1, oP2, oP3, prV_v, prV_l, eCallS_, eFld_, finP_n, finP_v, finS_n, finS_r, eSlT_, slK_1, drop_1, lLc_, wipe_n, wipe_c, lcGo_n, lcGo_c, lcB_t, lcB_f, lcC_, fTrue_, forK_, foGo_n, foGo_c, foK_nx, foK_ct, foK_bk, foK_rt, lkF_0, eChain_, chJ_, chK_, chL_t, chL_f, eMake_, makeJ_, eMeth_, sFld_, fldJ_, eNewX_, sSubX_, sxJ_, sxK_, decide_true, decide_false, lRev_, eRevT_, revTK_, lCallP_, obind_some, obind_none, omap_some, omap_none, List.getElem?_cons_zero, List.getElem?_cons_succ, set_0, set_s, if_true, if_false, Bool.false_eq_true, Bool.not_true, Bool.not_false, hnum, fldK_ hI.ins hkn, hin, hix]
  | none =>
    rw [hq] at hin
    simp only [Option.isSome_none] at hin
    obtain ⟨o', y3, y4, y5, y6, y7, y8, S', g1, g2, g3, g4⟩ := rows_loop (k := k) hL (by omega) hof hI
    have hex : ∃ x, o' = some x := by
      cases t with
      | lf j => simp [Tr.isLf] at hlf
      | nt a =>
        obtain ⟨d, hd⟩ := hL.n1
        obtain ⟨x, hx, _⟩ := g4 _ hd _ (.nt (.ho a))
        exact ⟨x, hx⟩
      | nd a b =>
        obtain ⟨d, hd⟩ := hL.n2
        obtain ⟨x, hx, _⟩ := g4 _ hd _ (.nd (.ho a) (.ho b))
        exact ⟨x, hx⟩
    obtain ⟨x, rfl⟩ := hex
    have hcv := g3 x rfl
    have hbest : Best L t x.1 := by
      refine ⟨hcv.ach, fun c' hc' => ?_⟩
      cases hc' with
      | lf j => simp [Tr.isLf] at hlf
      | no h1 h2 h3 h4 =>
        obtain ⟨y, hy, hy2⟩ := g4 _ h1 _ h3
        cases hy
        exact hy2 _ h4
    obtain ⟨kvs', hk1', hk2'⟩ := g2.dct
    have hput := hk2'.put (t := t) (c := x.1) (w := .tup [.int (x.2.1 : Nat), .tup x.2.2]) hsub hbest hcv
    have hlen := hk2'.len (by omega)
    have hm : m < S'.length := (List.getElem?_eq_some_iff.mp hk1').1
    have hS2 : (S'.set m (.dcx (dPut kvs' (.tup ds) (bestD (some x)))))[m]? = some (.dcx (dPut kvs' (.tup ds) (bestD (some x)))) := List.getElem?_set_self hm
    have hins : (S'.set m (.dcx (dPut kvs' (.tup ds) (bestD (some x)))))[n]? = some (.ins "Cheapest" (fsOf L m)) := by rw [List.getElem?_set_ne (Ne.symm g2.ne)]; exact g2.ins
    refine ⟨x.1, .tup [.int (x.2.1 : Nat), .tup x.2.2], S'.set m (.dcx (dPut kvs' (.tup ds) (bestD (some x)))), ?_, ⟨g2.ne, hins, _, hS2, by rw [← hds]; exact hput⟩, hbest, hcv⟩
    have hix : vIxX (.o m) (.d (.tup ds)) (S'.set m (.dcx (dPut kvs' (.tup ds) (bestD (some x))))) = some (.d (bestD (some x))) := by
      rw [vIxX_ hS2 hkey, dGet_put, if_pos rfl]
      rfl
    have hen : oEnum [.d (libD L)] S = some ⟨enumD 0 (L.map rowD), none⟩ := rfl
    have g1' : foGo ⟨enumD 0 (L.map rowD), none⟩ (gTp 2 (gsCons (gN 3) (gsCons (gTp 2 (gsCons (gN 4) (gsCons (gN 5) (gsNil)))) (gsNil)))) (BO (T (k + 4))) (enumD 0 (L.map rowD)) [some (.o n), some (.d (.tup ds)), some (.d .non), none, none, none, none, none, none, none, none] S = some (.nx, [some (.o n), some (.d (.tup ds)), some (.d (bestD (some x))), y3, y4, y5, y6, y7, y8, none, none], S') := by
      rw [← hds]; exact g1
    rw [hds]
    simp only [eC_, eTy_, eVar_0, eVar_s, eBin_, binJ_, binK_, aNil_, aCons_, consJ_, fMap_, mapK_, eCall_, lCall_, aDs_, dsK_, dsOf_nil, dsOf_cons, eTup_, eVal_, eObj_, fIf_, ifK_t, ifK_f, fTest_, tstK_, fTru_, vTru_bl, vTru_int, vTru_non, vTru_lst, vTru_tup, fAnd_, andK_t, andK_f, fOr_, orK_t, orK_f, fNot_, eAnd_, eandK_t, eandK_f, eOr_, eorK_t, eorK_f, eNot_, notK_, vAdd_i, vAddI_i, vSub_i, vLt_i, vLe_i, vGt_i, vGe_i, vEq_i, vNe_i, vIsN_non, vIsN_int, vIsN_bl, vIsN_str, vIsN_tup, vIsN_lst, vIx_t, vIx_l, atI_0, atI_1, atI_2, bLen_t, bLen_l, bInt_i, bInt_b, bIsi_int, bIsi_bl, bIsi_str, bIsi_tup, bIsi_lst, bIsi_non, is_ii, is_ib, is_it, is_bi, is_bb, is_tt, is_ti, is_tb, is_st, is_si, is_ss, is_nt, is_ll, is_lt, is_tl, bTup_l, bTup_t, bBools_l, bInts_l, eMl0_, eMl1_, oRev_, sNil_, sSeq_, seqK_nx, seqK_rt, seqK_bk, seqK_ct, sIf_, sifK_t, sifK_f, sAsg_, asgK_, gN_, gsNil_, gsCons_, sRet_, sRetN_, sExpr_, sPar_, parK_, eSeq_, srcOf_t, srcOf_l, oEnum_t, oEnum_l, oZip_t, oZip_l, eCallP_, oP1, oP2, oP3, prV_v, prV_l, eCallS_, eFld_, finP_n, finP_v, finS_n, finS_r, eSlT_, slK_1, drop_1, lLc_, wipe_n, wipe_c, lcGo_n, lcGo_c, lcB_t, lcB_f, lcC_, fTrue_, forK_, foGo_n, foGo_c, foK_nx, foK_ct, foK_bk, foK_rt, lkF_0, eChain_, chJ_, chK_, chL_t, chL_f, eMake_, makeJ_, eMeth_, sFld_, fldJ_, eNewX_, sSubX_, sxJ_, sxK_, decide_true, decide_false, lRev_, eRevT_, revTK_, lCallP_, obind_some, obind_none, omap_some, omap_none, List.getElem?_cons_zero, List.getElem?_cons_succ, set_0, set_s, if_true, if_false, Bool.false_eq_true, Bool.not_true, Bool.not_false, hnum, fldK_ hI.ins hkn, fldK_ hI.ins hlb, hin, hen, sFor_, g1', fldK_ g2.ins hkn, sxL_ hk1' hkey hlen, fldK_ hins hkn, hix]
    rfl
theorem of_ok (hL : WL L) (hr8 : root.dep ≤ 8) : ∀ (N : Nat) (t : Tr) (k : Nat), t.dep ≤ N → t ∈ subs root → t.dep ≤ 8 → N + 5 ≤ k → OfOk L root n m k t := by
  intro N
  induction N with
  | zero =>
    intro t k ht hs h8 hk
    obtain ⟨k, rfl⟩ : ∃ j, k = j + 2 := ⟨k - 2, by omega⟩
    cases t with
    | lf j => exact of_leaf
    | nt a => simp [Tr.dep] at ht
    | nd a b => simp [Tr.dep] at ht
  | succ N ih =>
    intro t k ht hs h8 hk
    by_cases hlf : t.isLf = true
    · obtain ⟨k, rfl⟩ : ∃ j, k = j + 2 := ⟨k - 2, by omega⟩
      cases t with
      | lf j => exact of_leaf
      | nt a => simp [Tr.isLf] at hlf
      | nd a b => simp [Tr.isLf] at hlf
    · obtain ⟨k, rfl⟩ : ∃ j, k = j + 5 := ⟨k - 5, by omega⟩
      exact of_node hL (by simpa using hlf) hr8 hs h8 fun s hsd hss => ih s (k + 4) (by omega) (subs_trans hs hss) (by omega) (by omega)
end
end K61

namespace K61
open PySem PySem.Spec PyProof.Rows L2 Ev

/-! ### check_asked -/
theorem rows_bl {L : Lib} : L.map (fun _ => D.bl true) = (L.map fun _ => true).map D.bl := by rw [List.map_map]; rfl
theorem all_tt {L : Lib} : (L.map fun _ => true).all id = true := by simp
theorem in_pt {p : Pt} {L : Lib} (hL : WL L) (h : ∃ c, (c, p) ∈ L) : inD p.d (L.map fun r => r.2.d) = true := by
  obtain ⟨c, h⟩ := h
  unfold inD
  rw [List.any_eq_true]
  refine ⟨p.d, List.mem_map.mpr ⟨_, h, rfl⟩, ?_⟩
  unfold D.eqv
  rw [eqv_key p.key p.key]
  simp
theorem ok_pats {L : Lib} (hL : WL L) : D.ok (.lst (L.map fun r => r.2.d)) = true := ok_of (n := 3) (by
  simp only [D.okN, List.all_eq_true, List.mem_map, forall_exists_index, and_imp, forall_apply_eq_imp_iff₂]
  exact fun r hr => okN_mono (key_okN r.2.key) (hL.pat r hr).2)
theorem check_ok {L : Lib} (hL : WL L) {t : Tr} {k : Nat} (h5 : t.dep ≤ 50) (hf : t.forms ≤ 60) (hk : t.dep + 5 ≤ k) : (T (k + 1)).check_asked [t.d, libD L] = some (.v .non) := by
  obtain ⟨k, rfl⟩ : ∃ j, k = j + 4 := ⟨k - 4, by omega⟩
  have e1 : (T (k + 4)).forms_in [t.d] = some (.v (.int t.forms)) := forms_ok t (k + 3) (by omega)
  have hb : decide ((60 : Int) < ((t.forms : Nat) : Int)) = false := decide_eq_false (by omega)
  have hlen : (L.map rowD).length ≤ Lim := by rw [List.length_map]; have := hL.len.2; unfold Lim; omega
  have hs : srcOf (.d (libD L)) ([] : Sto) = some ⟨L.map rowD, none⟩ := rfl
  have hle : bLen [.d (libD L)] [] = some (.d (.int (L.length : Nat))) := by
    unfold libD
    rw [bLen_t, List.length_map]
  have l1 : decide ((1 : Int) ≤ ((L.length : Nat) : Int)) = true := decide_eq_true (by have := hL.len.1; omega)
  have l2 : decide (((L.length : Nat) : Int) ≤ 20) = true := decide_eq_true (by have := hL.len.2; omega)
  have n1 := bBools_l (S := []) (k := fun bs => bs.all id) (bs := L.map fun _ => true)
  rw [all_tt] at n1
  have c1 : ∀ {a b c d e : Option RV}, lcGo ⟨L.map rowD, none⟩ (gTp 2 (gsCons (gN 5) (gsCons (gN 6) (gsNil)))) (fTrue) (eChain vLe vLe (eC (.int 0)) (eVar 5) (eC k_MOST_COST)) [a, b, c, d, e, none, none, none] (L.map rowD) [] = some ((L.map fun _ => true).map D.bl, []) := by
    intro a b c d e
    rw [← rows_bl]
    refine lcGo_mapE rowD (fun _ => D.bl true) fun r hr => ⟨[a, b, c, d, e, some (.d (.int r.1)), some (.d r.2.d), none], rfl, rfl, ?_⟩
    have h1 : decide ((0 : Int) ≤ r.1) = true := decide_eq_true (hL.cost r hr).1
    have h2 : decide (r.1 ≤ 1000) = true := decide_eq_true (hL.cost r hr).2
    simp only [eC_, eTy_, eVar_0, eVar_s, eBin_, binJ_, binK_, aNil_, aCons_, consJ_, fMap_, mapK_, eCall_, lCall_, aDs_, dsK_, dsOf_nil, dsOf_cons, eTup_, eVal_, eObj_, fIf_, ifK_t, ifK_f, fTest_, tstK_, fTru_, vTru_bl, vTru_int, vTru_non, vTru_lst, vTru_tup, fAnd_, andK_t, andK_f, fOr_, orK_t, orK_f, fNot_, eAnd_, eandK_t, eandK_f, eOr_, eorK_t, eorK_f, eNot_, notK_, vAdd_i, vAddI_i, vSub_i, vLt_i, vLe_i, vGt_i, vGe_i, vEq_i, vNe_i, vIsN_non, vIsN_int, vIsN_bl, vIsN_str, vIsN_tup, vIsN_lst, vIx_t, vIx_l, atI_0, atI_1, atI_2, bLen_t, bLen_l, bInt_i, bInt_b, bIsi_int, bIsi_bl, bIsi_str, bIsi_tup, bIsi_lst, bIsi_non, is_ii, is_ib, is_it, is_bi, is_bb, is_tt, is_ti, is_tb, is_st, is_si, is_ss, is_nt, is_ll, is_lt, is_tl, bTup_l, bTup_t, bBools_l, bInts_l, eMl0_, eMl1_, oRev_, sNil_, sSeq_, seqK_nx, seqK_rt, seqK_bk, seqK_ct, sIf_, sifK_t, sifK_f, sAsg_, asgK_, gN_, gsNil_, gsCons_, sRet_, sRetN_, sExpr_, sPar_, parK_, eSeq_, srcOf_t, srcOf_l, oEnum_t, oEnum_l, oZip_t, oZip_l, eCallP_, oP1, oP2, oP3, prV_v, prV_l, eCallS_, eFld_, finP_n, finP_v, finS_n, finS_r, eSlT_, slK_1, drop_1, lLc_, wipe_n, wipe_c, lcGo_n, lcGo_c, lcB_t, lcB_f, lcC_, fTrue_, forK_, foGo_n, foGo_c, foK_nx, foK_ct, foK_bk, foK_rt, lkF_0, eChain_, chJ_, chK_, chL_t, chL_f, eMake_, makeJ_, eMeth_, sFld_, fldJ_, eNewX_, sSubX_, sxJ_, sxK_, decide_true, decide_false, lRev_, eRevT_, revTK_, lCallP_, obind_some, obind_none, omap_some, omap_none, List.getElem?_cons_zero, List.getElem?_cons_succ, set_0, set_s, if_true, if_false, Bool.false_eq_true, Bool.not_true, Bool.not_false, h1, k_MOST_COST, h2]
  have c2 : ∀ {a b c d e f : Option RV}, lcGo ⟨L.map rowD, none⟩ (gTp 2 (gsCons (gN 6) (gsCons (gN 7) (gsNil)))) (fTrue) (eAnd (eBin vNe (eVar 7) (eC (.str ""))) (eCallP 1 (T (k + 4)).is_pattern (aCons (eVar 7) (aNil)))) [a, b, c, d, e, f, none, none] (L.map rowD) [] = some ((L.map fun _ => true).map D.bl, []) := by
    intro a b c d e f
    rw [← rows_bl]
    refine lcGo_mapE rowD (fun _ => D.bl true) fun r hr => ⟨[a, b, c, d, e, f, some (.d (.int r.1)), some (.d r.2.d)], rfl, rfl, ?_⟩
    obtain ⟨hp, hd⟩ := hL.pat r hr
    have h1 : D.eqv r.2.d (.str "") = false := by
      cases hq : r.2 with
      | ho => exact absurd hq hp
      | nt a => simp [Pt.d, D.eqv, D.py, PyData.eqv]
      | nd a b => simp [Pt.d, D.eqv, D.py, PyData.eqv]
    have h2 : (T (k + 4)).is_pattern [r.2.d] = some (.v (.bl true)) := pat_ok r.2 (k + 3) (by omega) (by omega)
    simp only [eC_, eTy_, eVar_0, eVar_s, eBin_, binJ_, binK_, aNil_, aCons_, consJ_, fMap_, mapK_, eCall_, lCall_, aDs_, dsK_, dsOf_nil, dsOf_cons, eTup_, eVal_, eObj_, fIf_, ifK_t, ifK_f, fTest_, tstK_, fTru_, vTru_bl, vTru_int, vTru_non, vTru_lst, vTru_tup, fAnd_, andK_t, andK_f, fOr_, orK_t, orK_f, fNot_, eAnd_, eandK_t, eandK_f, eOr_, eorK_t, eorK_f, eNot_, notK_, vAdd_i, vAddI_i, vSub_i, vLt_i, vLe_i, vGt_i, vGe_i, vEq_i, vNe_i, vIsN_non, vIsN_int, vIsN_bl, vIsN_str, vIsN_tup, vIsN_lst, vIx_t, vIx_l, atI_0, atI_1, atI_2, bLen_t, bLen_l, bInt_i, bInt_b, bIsi_int, bIsi_bl, bIsi_str, bIsi_tup, bIsi_lst, bIsi_non, is_ii, is_ib, is_it, is_bi, is_bb, is_tt, is_ti, is_tb, is_st, is_si, is_ss, is_nt, is_ll, is_lt, is_tl, bTup_l, bTup_t, bBools_l, bInts_l, eMl0_, eMl1_, oRev_, sNil_, sSeq_, seqK_nx, seqK_rt, seqK_bk, seqK_ct, sIf_, sifK_t, sifK_f, sAsg_, asgK_, gN_, gsNil_, gsCons_, sRet_, sRetN_, sExpr_, sPar_, parK_, eSeq_, srcOf_t, srcOf_l, oEnum_t, oEnum_l, oZip_t, oZip_l, eCallP_, oP1, oP2, oP3, prV_v, prV_l, eCallS_, eFld_, finP_n, finP_v, finS_n, finS_r, eSlT_, slK_1, drop_1, lLc_, wipe_n, wipe_c, lcGo_n, lcGo_c, lcB_t, lcB_f, lcC_, fTrue_, forK_, foGo_n, foGo_c, foK_nx, foK_ct, foK_bk, foK_rt, lkF_0, eChain_, chJ_, chK_, chL_t, chL_f, eMake_, makeJ_, eMeth_, sFld_, fldJ_, eNewX_, sSubX_, sxJ_, sxK_, decide_true, decide_false, lRev_, eRevT_, revTK_, lCallP_, obind_some, obind_none, omap_some, omap_none, List.getElem?_cons_zero, List.getElem?_cons_succ, set_0, set_s, if_true, if_false, Bool.false_eq_true, Bool.not_true, Bool.not_false, vNe_ (Pt.ok (show r.2.dep ≤ 60 by omega)) ok_str0, h1, h2]
  have c3 : ∀ {a b c d e f : Option RV}, lcGo ⟨L.map rowD, none⟩ (gTp 2 (gsCons (gN 6) (gsCons (gN 7) (gsNil)))) (fTrue) (eVar 7) [a, b, c, d, e, f, none, none] (L.map rowD) [] = some (L.map fun r => r.2.d, []) := by
    intro a b c d e f
    refine lcGo_mapE rowD (fun r => r.2.d) fun r hr => ⟨[a, b, c, d, e, f, some (.d (.int r.1)), some (.d r.2.d)], rfl, rfl, ?_⟩
    simp only [eC_, eTy_, eVar_0, eVar_s, eBin_, binJ_, binK_, aNil_, aCons_, consJ_, fMap_, mapK_, eCall_, lCall_, aDs_, dsK_, dsOf_nil, dsOf_cons, eTup_, eVal_, eObj_, fIf_, ifK_t, ifK_f, fTest_, tstK_, fTru_, vTru_bl, vTru_int, vTru_non, vTru_lst, vTru_tup, fAnd_, andK_t, andK_f, fOr_, orK_t, orK_f, fNot_, eAnd_, eandK_t, eandK_f, eOr_, eorK_t, eorK_f, eNot_, notK_, vAdd_i, vAddI_i, vSub_i, vLt_i, vLe_i, vGt_i, vGe_i, vEq_i, vNe_i, vIsN_non, vIsN_int, vIsN_bl, vIsN_str, vIsN_tup, vIsN_lst, vIx_t, vIx_l, atI_0, atI_1, atI_2, bLen_t, bLen_l, bInt_i, bInt_b, bIsi_int, bIsi_bl, bIsi_str, bIsi_tup, bIsi_lst, bIsi_non, is_ii, is_ib, is_it, is_bi, is_bb, is_tt, is_ti, is_tb, is_st, is_si, is_ss, is_nt, is_ll, is_lt, is_tl, bTup_l, bTup_t, bBools_l, bInts_l, eMl0_, eMl1_, oRev_, sNil_, sSeq_, seqK_nx, seqK_rt, seqK_bk, seqK_ct, sIf_, sifK_t, sifK_f, sAsg_, asgK_, gN_, gsNil_, gsCons_, sRet_, sRetN_, sExpr_, sPar_, parK_, eSeq_, srcOf_t, srcOf_l, oEnum_t, oEnum_l, oZip_t, oZip_l, eCallP_, oP1, oP2, oP3, prV_v, prV_l, eCallS_, eFld_, finP_n, finP_v, finS_n, finS_r, eSlT_, slK_1, drop_1, lLc_, wipe_n, wipe_c, lcGo_n, lcGo_c, lcB_t, lcB_f, lcC_, fTrue_, forK_, foGo_n, foGo_c, foK_nx, foK_ct, foK_bk, foK_rt, lkF_0, eChain_, chJ_, chK_, chL_t, chL_f, eMake_, makeJ_, eMeth_, sFld_, fldJ_, eNewX_, sSubX_, sxJ_, sxK_, decide_true, decide_false, lRev_, eRevT_, revTK_, lCallP_, obind_some, obind_none, omap_some, omap_none, List.getElem?_cons_zero, List.getElem?_cons_succ, set_0, set_s, if_true, if_false, Bool.false_eq_true, Bool.not_true, Bool.not_false]
  have k1 := vIn_l (S := []) (ng := false) (Pt.ok (t := .nt .ho) (by decide)) (ok_pats hL)
  have k2 := vIn_l (S := []) (ng := false) (Pt.ok (t := .nd .ho .ho) (by decide)) (ok_pats hL)
  rw [in_pt hL hL.n1] at k1
  rw [in_pt hL hL.n2] at k2
  have k1' : vIn false (.d (.tup [.str "not", .str ""])) (.d (.lst (L.map fun r => r.2.d))) [] = some (.d (.bl true)) := k1
  have k2' : vIn false (.d (.tup [.str "nand", .str "", .str ""])) (.d (.lst (L.map fun r => r.2.d))) [] = some (.d (.bl true)) := k2
  have n2 := bBools_l (S := []) (k := fun bs => bs.all id) (bs := [true, true])
  have n2' : bBools (fun bs => bs.all id) [.d (.lst [.bl true, .bl true])] [] = some (.d (.bl true)) := n2
  show (F_check_asked (T (k + 4)) [some (.d t.d), some (.d (libD L)), none, none, none, none, none, none] []).bind finP = _
  unfold F_check_asked
  simp only [eC_, eTy_, eVar_0, eVar_s, eBin_, binJ_, binK_, aNil_, aCons_, consJ_, fMap_, mapK_, eCall_, lCall_, aDs_, dsK_, dsOf_nil, dsOf_cons, eTup_, eVal_, eObj_, fIf_, ifK_t, ifK_f, fTest_, tstK_, fTru_, vTru_bl, vTru_int, vTru_non, vTru_lst, vTru_tup, fAnd_, andK_t, andK_f, fOr_, orK_t, orK_f, fNot_, eAnd_, eandK_t, eandK_f, eOr_, eorK_t, eorK_f, eNot_, notK_, vAdd_i, vAddI_i, vSub_i, vLt_i, vLe_i, vGt_i, vGe_i, vEq_i, vNe_i, vIsN_non, vIsN_int, vIsN_bl, vIsN_str, vIsN_tup, vIsN_lst, vIx_t, vIx_l, atI_0, atI_1, atI_2, bLen_t, bLen_l, bInt_i, bInt_b, bIsi_int, bIsi_bl, bIsi_str, bIsi_tup, bIsi_lst, bIsi_non, is_ii, is_ib, is_it, is_bi, is_bb, is_tt, is_ti, is_tb, is_st, is_si, is_ss, is_nt, is_ll, is_lt, is_tl, bTup_l, bTup_t, bBools_l, bInts_l, eMl0_, eMl1_, oRev_, sNil_, sSeq_, seqK_nx, seqK_rt, seqK_bk, seqK_ct, sIf_, sifK_t, sifK_f, sAsg_, asgK_, gN_, gsNil_, gsCons_, sRet_, sRetN_, sExpr_, sPar_, parK_, eSeq_, srcOf_t, srcOf_l, oEnum_t, oEnum_l, oZip_t, oZip_l, eCallP_, oP1, oP2, oP3, prV_v, prV_l, eCallS_, eFld_, finP_n, finP_v, finS_n, finS_r, eSlT_, slK_1, drop_1, lLc_, wipe_n, wipe_c, lcGo_n, lcGo_c, lcB_t, lcB_f, lcC_, fTrue_, forK_, foGo_n, foGo_c, foK_nx, foK_ct, foK_bk, foK_rt, lkF_0, eChain_, chJ_, chK_, chL_t, chL_f, eMake_, makeJ_, eMeth_, sFld_, fldJ_, eNewX_, sSubX_, sxJ_, sxK_, decide_true, decide_false, lRev_, eRevT_, revTK_, lCallP_, obind_some, obind_none, omap_some, omap_none, List.getElem?_cons_zero, List.getElem?_cons_succ, set_0, set_s, if_true, if_false, Bool.false_eq_true, Bool.not_true, Bool.not_false, e1, k_MOST_FORMS, hb, hle, l1, l2, k_MOST_PATTERNS, hs, lcK_ hlen, c1, n1, c2, c3, k_NEEDED, lcK_ len2, k1', k2', n2']

/-! ### least_cover, cover_cost -/
theorem lib_ne : ("library" : Str) ≠ "known" := by decide +kernel
theorem put_2 {x y : RV} : putR "known" y [(("library" : Str), x)] = [(("library" : Str), x), (("known" : Str), y)] := by
  unfold putR
  rw [if_neg lib_ne]
  rfl
theorem init_ok {L : Lib} {k : Nat} : (T (k + 1)).Cheapest_init [.o 0, .d (libD L)] [.ins "Cheapest" []] = some (.d .non, [.ins "Cheapest" (fsOf L 1), .dcx []]) := by
  show (F_Cheapest_init (T k) [some (.o 0), some (.d (libD L))] [.ins "Cheapest" []]).bind finS = _
  unfold F_Cheapest_init
  have h1 : ([Ob.ins "Cheapest" []] : Sto)[0]? = some (.ins "Cheapest" []) := rfl
  have h2 : ([Ob.ins "Cheapest" [("library", .d (libD L))], .dcx []] : Sto)[0]? = some (.ins "Cheapest" [("library", .d (libD L))]) := rfl
  have hc : ("Cheapest" : Str) ∈ (["Cheapest"] : List Str) := List.mem_singleton.mpr rfl
  have hp : putR "library" (RV.d (libD L)) [] = [(("library" : Str), RV.d (libD L))] := rfl
  have hl1 : ([] : List (Str × RV)).length < 1000 := by decide
  have hl2 : [(("library" : Str), RV.d (libD L))].length < 1000 := by rw [List.length_cons, List.length_nil]; decide
  simp only [eC_, eTy_, eVar_0, eVar_s, eBin_, binJ_, binK_, aNil_, aCons_, consJ_, fMap_, mapK_, eCall_, lCall_, aDs_, dsK_, dsOf_nil, dsOf_cons, eTup_, eVal_, eObj_, fIf_, ifK_t, ifK_f, fTest_, tstK_, fTru_, vTru_bl, vTru_int, vTru_non, vTru_lst, vTru_tup, fAnd_, andK_t, andK_f, fOr_, orK_t, orK_f, fNot_, eAnd_, eandK_t, eandK_f, eOr_, eorK_t, eorK_f, eNot_, notK_, vAdd_i, vAddI_i, vSub_i, vLt_i, vLe_i, vGt_i, vGe_i, vEq_i, vNe_i, vIsN_non, vIsN_int, vIsN_bl, vIsN_str, vIsN_tup, vIsN_lst, vIx_t, vIx_l, atI_0, atI_1, atI_2, bLen_t, bLen_l, bInt_i, bInt_b, bIsi_int, bIsi_bl, bIsi_str, bIsi_tup, bIsi_lst, bIsi_non, is_ii, is_ib, is_it, is_bi, is_bb, is_tt, is_ti, is_tb, is_st, is_si, is_ss, is_nt, is_ll, is_lt, is_tl, bTup_l, bTup_t, bBools_l, bInts_l, eMl0_, eMl1_, oRev_, sNil_, sSeq_, seqK_nx, seqK_rt, seqK_bk, seqK_ct, sIf_, sifK_t, sifK_f, sAsg_, asgK_, gN_, gsNil_, gsCons_, sRet_, sRetN_, sExpr_, sPar_, parK_, eSeq_, srcOf_t, srcOf_l, oEnum_t, oEnum_l, oZip_t, oZip_l, eCallP_, oP1, oP2, oP3, prV_v, prV_l, eCallS_, eFld_, finP_n, finP_v, finS_n, finS_r, eSlT_, slK_1, drop_1, lLc_, wipe_n, wipe_c, lcGo_n, lcGo_c, lcB_t, lcB_f, lcC_, fTrue_, forK_, foGo_n, foGo_c, foK_nx, foK_ct, foK_bk, foK_rt, lkF_0, eChain_, chJ_, chK_, chL_t, chL_f, eMake_, makeJ_, eMeth_, sFld_, fldJ_, eNewX_, sSubX_, sxJ_, sxK_, decide_true, decide_false, lRev_, eRevT_, revTK_, lCallP_, obind_some, obind_none, omap_some, omap_none, List.getElem?_cons_zero, List.getElem?_cons_succ, set_0, set_s, if_true, if_false, Bool.false_eq_true, Bool.not_true, Bool.not_false, fldL_ h1 hc hl1, hp, List.cons_append, List.nil_append, fldL_ h2 hc hl2, put_2, List.length_cons, List.length_nil, Nat.zero_add]
theorem least_ok {L : Lib} (hL : WL L) {t : Tr} {k : Nat} (h8 : t.dep ≤ 8) (hf : t.forms ≤ 60) (hk : t.dep + 8 ≤ k) : ∃ c w, (T (k + 1)).least_cover [t.d, libD L] = some (.v (resD c w)) ∧ Best L t c ∧ Cvr L t w c := by
  obtain ⟨k, rfl⟩ : ∃ j, k = j + 4 := ⟨k - 4, by omega⟩
  have e1 : (T (k + 4)).check_asked [t.d, libD L] = some (.v .non) := check_ok hL (k := k + 3) (by omega) hf (by omega)
  have hI : Inv L t 0 1 [.ins "Cheapest" (fsOf L 1), .dcx []] := ⟨by decide, rfl, [], rfl, ⟨(fun k v h => by simp [dGet] at h), List.nodup_nil, (fun p h => nomatch h)⟩⟩
  obtain ⟨c, w, S', e2, _, e3, e4⟩ := of_ok hL h8 t.dep t (k + 4) (Nat.le_refl _) (subs_self t) h8 (by omega) _ hI
  refine ⟨c, w, ?_, e3, e4⟩
  have hof : lkF "of" (fsOf L 1) = none := by
    rw [lkF_s (by decide +kernel), lkF_s (by decide +kernel)]
    rfl
  have e5 : (T (k + 4)).Cheapest_init [.o 0, .d (libD L)] [.ins "Cheapest" []] = _ := init_ok
  show (F_least_cover (T (k + 4)) [some (.d t.d), some (.d (libD L))] []).bind finP = _
  unfold F_least_cover
  simp only [eC_, eTy_, eVar_0, eVar_s, eBin_, binJ_, binK_, aNil_, aCons_, consJ_, fMap_, mapK_, eCall_, lCall_, aDs_, dsK_, dsOf_nil, dsOf_cons, eTup_, eVal_, eObj_, fIf_, ifK_t, ifK_f, fTest_, tstK_, fTru_, vTru_bl, vTru_int, vTru_non, vTru_lst, vTru_tup, fAnd_, andK_t, andK_f, fOr_, orK_t, orK_f, fNot_, eAnd_, eandK_t, eandK_f, eOr_, eorK_t, eorK_f, eNot_, notK_, vAdd_i, vAddI_i, vSub_i, vLt_i, vLe_i, vGt_i, vGe_i, vEq_i, vNe_i, vIsN_non, vIsN_int, vIsN_bl, vIsN_str, vIsN_tup, vIsN_lst, vIx_t, vIx_l, atI_0, atI_1, atI_2, bLen_t, bLen_l, bInt_i, bInt_b, bIsi_int, bIsi_bl, bIsi_str, bIsi_tup, bIsi_lst, bIsi_non, is_ii, is_ib, is_it, is_bi, is_bb, is_tt, is_ti, is_tb, is_st, is_si, is_ss, is_nt, is_ll, is_lt, is_tl, bTup_l, bTup_t, bBools_l, bInts_l, eMl0_, eMl1_, oRev_, sNil_, sSeq_, seqK_nx, seqK_rt, seqK_bk, seqK_ct, sIf_, sifK_t, sifK_f, sAsg_, asgK_, gN_, gsNil_, gsCons_, sRet_, sRetN_, sExpr_, sPar_, parK_, eSeq_, srcOf_t, srcOf_l, oEnum_t, oEnum_l, oZip_t, oZip_l, eCallP_, oP1, oP2, oP3, prV_v, prV_l, eCallS_, eFld_, finP_n, finP_v, finS_n, finS_r, eSlT_, slK_1, drop_1, lLc_, wipe_n, wipe_c, lcGo_n, lcGo_c, lcB_t, lcB_f, lcC_, fTrue_, forK_, foGo_n, foGo_c, foK_nx, foK_ct, foK_bk, foK_rt, lkF_0, eChain_, chJ_, chK_, chL_t, chL_f, eMake_, makeJ_, eMeth_, sFld_, fldJ_, eNewX_, sSubX_, sxJ_, sxK_, decide_true, decide_false, lRev_, eRevT_, revTK_, lCallP_, obind_some, obind_none, omap_some, omap_none, List.getElem?_cons_zero, List.getElem?_cons_succ, set_0, set_s, if_true, if_false, Bool.false_eq_true, Bool.not_true, Bool.not_false, e1, makeK_ (n := 2) (rs := [.d (libD L)]) rfl, List.length_nil, List.nil_append, e5, methK_ hI.ins hof, methJ_ (n := 2) (rs := [.d t.d]) rfl, e2]
theorem cover_ok {L : Lib} (hL : WL L) {t : Tr} {v : D} {e k : Nat} (h8 : t.dep ≤ 8) (hf : t.forms ≤ 60) (hs : shp L.length e v = true) (he : e ≤ 20) (hk : t.dep + 8 ≤ k) : ∃ o, (T (k + 1)).cover_cost [t.d, libD L, v] = some (.v (oD o)) ∧ MinAt L t v o := by
  obtain ⟨k, rfl⟩ : ∃ j, k = j + 4 := ⟨k - 4, by omega⟩
  have e1 : (T (k + 4)).check_asked [t.d, libD L] = some (.v .non) := check_ok hL (k := k + 3) (by omega) hf (by omega)
  obtain ⟨o, e2, e3⟩ := cb_ok hL t.dep t v e (k + 4) (Nat.le_refl _) (by omega) hs he (by omega)
  refine ⟨o, ?_, e3⟩
  show (F_cover_cost (T (k + 4)) [some (.d t.d), some (.d (libD L)), some (.d v)] []).bind finP = _
  unfold F_cover_cost
  simp only [eC_, eTy_, eVar_0, eVar_s, eBin_, binJ_, binK_, aNil_, aCons_, consJ_, fMap_, mapK_, eCall_, lCall_, aDs_, dsK_, dsOf_nil, dsOf_cons, eTup_, eVal_, eObj_, fIf_, ifK_t, ifK_f, fTest_, tstK_, fTru_, vTru_bl, vTru_int, vTru_non, vTru_lst, vTru_tup, fAnd_, andK_t, andK_f, fOr_, orK_t, orK_f, fNot_, eAnd_, eandK_t, eandK_f, eOr_, eorK_t, eorK_f, eNot_, notK_, vAdd_i, vAddI_i, vSub_i, vLt_i, vLe_i, vGt_i, vGe_i, vEq_i, vNe_i, vIsN_non, vIsN_int, vIsN_bl, vIsN_str, vIsN_tup, vIsN_lst, vIx_t, vIx_l, atI_0, atI_1, atI_2, bLen_t, bLen_l, bInt_i, bInt_b, bIsi_int, bIsi_bl, bIsi_str, bIsi_tup, bIsi_lst, bIsi_non, is_ii, is_ib, is_it, is_bi, is_bb, is_tt, is_ti, is_tb, is_st, is_si, is_ss, is_nt, is_ll, is_lt, is_tl, bTup_l, bTup_t, bBools_l, bInts_l, eMl0_, eMl1_, oRev_, sNil_, sSeq_, seqK_nx, seqK_rt, seqK_bk, seqK_ct, sIf_, sifK_t, sifK_f, sAsg_, asgK_, gN_, gsNil_, gsCons_, sRet_, sRetN_, sExpr_, sPar_, parK_, eSeq_, srcOf_t, srcOf_l, oEnum_t, oEnum_l, oZip_t, oZip_l, eCallP_, oP1, oP2, oP3, prV_v, prV_l, eCallS_, eFld_, finP_n, finP_v, finS_n, finS_r, eSlT_, slK_1, drop_1, lLc_, wipe_n, wipe_c, lcGo_n, lcGo_c, lcB_t, lcB_f, lcC_, fTrue_, forK_, foGo_n, foGo_c, foK_nx, foK_ct, foK_bk, foK_rt, lkF_0, eChain_, chJ_, chK_, chL_t, chL_f, eMake_, makeJ_, eMeth_, sFld_, fldJ_, eNewX_, sSubX_, sxJ_, sxK_, decide_true, decide_false, lRev_, eRevT_, revTK_, lCallP_, obind_some, obind_none, omap_some, omap_none, List.getElem?_cons_zero, List.getElem?_cons_succ, set_0, set_s, if_true, if_false, Bool.false_eq_true, Bool.not_true, Bool.not_false, e1, e2]
end K61

namespace K61
open PySem PySem.Spec PyProof.Rows L2 Ev

/-! ### the law's helpers -/
abbrev So (is : List Int) : Sto := [.lst (dInts is)]
theorem take1 {k : Nat} (is : List Int) {lim : Int} (hl : 0 < lim) : ∃ (v : Int) (js : List Int), (T (k + 1))._law_take [.o 0, .d (.int lim)] (So is) = some (.d (.int v), So js) ∧ 0 ≤ v ∧ v < lim := by
  obtain ⟨v, js, h1, h2, h3⟩ := take_ok (S := So is) (n := 0) (is := is) rfl hl
  exact ⟨v, js, h1, h2, h3⟩
theorem ofN (v : Int) (h : 0 ≤ v) : ∃ i : Nat, v = i := ⟨v.toNat, by omega⟩
theorem tree_ok : ∀ (deep k : Nat) (is : List Int), deep + 2 ≤ k → ∃ (t : Tr) (js : List Int), (T k)._law_tree [.o 0, .d (.int (deep : Nat))] (So is) = some (.d t.d, So js) ∧ t.dep ≤ deep := by
  intro deep
  induction deep with
  | zero =>
    intro k is hk
    obtain ⟨k, rfl⟩ : ∃ j, k = j + 2 := ⟨k - 2, by omega⟩
    obtain ⟨v, js, h1, h2, h3⟩ := take1 (k := k) is (lim := 3) (by decide)
    obtain ⟨i, rfl⟩ := ofN v h2
    refine ⟨.lf i, js, ?_, Nat.le_refl _⟩
    show (F__law_tree (T (k + 1)) [some (.o 0), some (.d (.int ((0 : Nat) : Int))), none] (So is)).bind finS = _
    unfold F__law_tree
    have hd : decide ((0 : Int) < ((0 : Nat) : Int)) = false := by decide
    have hz : decide ((0 : Int) = 0) = true := by decide
    simp only [eC_, eTy_, eVar_0, eVar_s, eBin_, binJ_, binK_, aNil_, aCons_, consJ_, fMap_, mapK_, eCall_, lCall_, aDs_, dsK_, dsOf_nil, dsOf_cons, eTup_, eVal_, eObj_, fIf_, ifK_t, ifK_f, fTest_, tstK_, fTru_, vTru_bl, vTru_int, vTru_non, vTru_lst, vTru_tup, fAnd_, andK_t, andK_f, fOr_, orK_t, orK_f, fNot_, eAnd_, eandK_t, eandK_f, eOr_, eorK_t, eorK_f, eNot_, notK_, vAdd_i, vAddI_i, vSub_i, vLt_i, vLe_i, vGt_i, vGe_i, vEq_i, vNe_i, vIsN_non, vIsN_int, vIsN_bl, vIsN_str, vIsN_tup, vIsN_lst, vIx_t, vIx_l, atI_0, atI_1, atI_2, bLen_t, bLen_l, bInt_i, bInt_b, bIsi_int, bIsi_bl, bIsi_str, bIsi_tup, bIsi_lst, bIsi_non, is_ii, is_ib, is_it, is_bi, is_bb, is_tt, is_ti, is_tb, is_st, is_si, is_ss, is_nt, is_ll, is_lt, is_tl, bTup_l, bTup_t, bBools_l, bInts_l, eMl0_, eMl1_, oRev_, sNil_, sSeq_, seqK_nx, seqK_rt, seqK_bk, seqK_ct, sIf_, sifK_t, sifK_f, sAsg_, asgK_, gN_, gsNil_, gsCons_, sRet_, sRetN_, sExpr_, sPar_, parK_, eSeq_, srcOf_t, srcOf_l, oEnum_t, oEnum_l, oZip_t, oZip_l, eCallP_, oP1, oP2, oP3, prV_v, prV_l, eCallS_, eFld_, finP_n, finP_v, finS_n, finS_r, eSlT_, slK_1, drop_1, lLc_, wipe_n, wipe_c, lcGo_n, lcGo_c, lcB_t, lcB_f, lcC_, fTrue_, forK_, foGo_n, foGo_c, foK_nx, foK_ct, foK_bk, foK_rt, lkF_0, eChain_, chJ_, chK_, chL_t, chL_f, eMake_, makeJ_, eMeth_, sFld_, fldJ_, eNewX_, sSubX_, sxJ_, sxK_, decide_true, decide_false, lRev_, eRevT_, revTK_, lCallP_, obind_some, obind_none, omap_some, omap_none, List.getElem?_cons_zero, List.getElem?_cons_succ, set_0, set_s, if_true, if_false, Bool.false_eq_true, Bool.not_true, Bool.not_false, hd, hz, callSK_ (n := 2) (rs := [.o 0, .d (.int 3)]) rfl, h1]
    rfl
  | succ deep ih =>
    intro k is hk
    obtain ⟨k, rfl⟩ : ∃ j, k = j + 2 := ⟨k - 2, by omega⟩
    obtain ⟨v, js, h1, h2, h3⟩ := take1 (k := k) is (lim := 4) (by decide)
    have hd : decide ((0 : Int) < ((deep + 1 : Nat) : Int)) = true := decide_eq_true (by omega)
    have hs : ((deep + 1 : Nat) : Int) - 1 = ((deep : Nat) : Int) := by omega
    show ∃ (t : Tr) (js : List Int), (F__law_tree (T (k + 1)) [some (.o 0), some (.d (.int ((deep + 1 : Nat) : Int))), none] (So is)).bind finS = _ ∧ _
    unfold F__law_tree
    by_cases v0 : v = 0
    · subst v0
      obtain ⟨u, ks, g1, g2, g3⟩ := take1 (k := k) js (lim := 3) (by decide)
      obtain ⟨i, rfl⟩ := ofN u g2
      refine ⟨.lf i, ks, ?_, Nat.zero_le _⟩
      have hz : decide ((0 : Int) = 0) = true := by decide
      simp only [eC_, eTy_, eVar_0, eVar_s, eBin_, binJ_, binK_, aNil_, aCons_, consJ_, fMap_, mapK_, eCall_, lCall_, aDs_, dsK_, dsOf_nil, dsOf_cons, eTup_, eVal_, eObj_, fIf_, ifK_t, ifK_f, fTest_, tstK_, fTru_, vTru_bl, vTru_int, vTru_non, vTru_lst, vTru_tup, fAnd_, andK_t, andK_f, fOr_, orK_t, orK_f, fNot_, eAnd_, eandK_t, eandK_f, eOr_, eorK_t, eorK_f, eNot_, notK_, vAdd_i, vAddI_i, vSub_i, vLt_i, vLe_i, vGt_i, vGe_i, vEq_i, vNe_i, vIsN_non, vIsN_int, vIsN_bl, vIsN_str, vIsN_tup, vIsN_lst, vIx_t, vIx_l, atI_0, atI_1, atI_2, bLen_t, bLen_l, bInt_i, bInt_b, bIsi_int, bIsi_bl, bIsi_str, bIsi_tup, bIsi_lst, bIsi_non, is_ii, is_ib, is_it, is_bi, is_bb, is_tt, is_ti, is_tb, is_st, is_si, is_ss, is_nt, is_ll, is_lt, is_tl, bTup_l, bTup_t, bBools_l, bInts_l, eMl0_, eMl1_, oRev_, sNil_, sSeq_, seqK_nx, seqK_rt, seqK_bk, seqK_ct, sIf_, sifK_t, sifK_f, sAsg_, asgK_, gN_, gsNil_, gsCons_, sRet_, sRetN_, sExpr_, sPar_, parK_, eSeq_, srcOf_t, srcOf_l, oEnum_t, oEnum_l, oZip_t, oZip_l, eCallP_, oP1, oP2, oP3, prV_v, prV_l, eCallS_, eFld_, finP_n, finP_v, finS_n, finS_r, eSlT_, slK_1, drop_1, lLc_, wipe_n, wipe_c, lcGo_n, lcGo_c, lcB_t, lcB_f, lcC_, fTrue_, forK_, foGo_n, foGo_c, foK_nx, foK_ct, foK_bk, foK_rt, lkF_0, eChain_, chJ_, chK_, chL_t, chL_f, eMake_, makeJ_, eMeth_, sFld_, fldJ_, eNewX_, sSubX_, sxJ_, sxK_, decide_true, decide_false, lRev_, eRevT_, revTK_, lCallP_, obind_some, obind_none, omap_some, omap_none, List.getElem?_cons_zero, List.getElem?_cons_succ, set_0, set_s, if_true, if_false, Bool.false_eq_true, Bool.not_true, Bool.not_false, hd, hz, callSK_ (n := 2) (rs := [.o 0, .d (.int 4)]) rfl, h1, callSK_ (n := 2) (rs := [.o 0, .d (.int 3)]) rfl, g1]
      rfl
    · have z0 : decide (v = 0) = false := decide_eq_false v0
      obtain ⟨t, ks, g1, g2⟩ := ih (k + 1) js (by omega)
      by_cases v1 : v = 1
      · have z1 : decide (v = 1) = true := decide_eq_true v1
        refine ⟨.nt t, ks, ?_, by simp only [Tr.dep]; omega⟩
        simp only [eC_, eTy_, eVar_0, eVar_s, eBin_, binJ_, binK_, aNil_, aCons_, consJ_, fMap_, mapK_, eCall_, lCall_, aDs_, dsK_, dsOf_nil, dsOf_cons, eTup_, eVal_, eObj_, fIf_, ifK_t, ifK_f, fTest_, tstK_, fTru_, vTru_bl, vTru_int, vTru_non, vTru_lst, vTru_tup, fAnd_, andK_t, andK_f, fOr_, orK_t, orK_f, fNot_, eAnd_, eandK_t, eandK_f, eOr_, eorK_t, eorK_f, eNot_, notK_, vAdd_i, vAddI_i, vSub_i, vLt_i, vLe_i, vGt_i, vGe_i, vEq_i, vNe_i, vIsN_non, vIsN_int, vIsN_bl, vIsN_str, vIsN_tup, vIsN_lst, vIx_t, vIx_l, atI_0, atI_1, atI_2, bLen_t, bLen_l, bInt_i, bInt_b, bIsi_int, bIsi_bl, bIsi_str, bIsi_tup, bIsi_lst, bIsi_non, is_ii, is_ib, is_it, is_bi, is_bb, is_tt, is_ti, is_tb, is_st, is_si, is_ss, is_nt, is_ll, is_lt, is_tl, bTup_l, bTup_t, bBools_l, bInts_l, eMl0_, eMl1_, oRev_, sNil_, sSeq_, seqK_nx, seqK_rt, seqK_bk, seqK_ct, sIf_, sifK_t, sifK_f, sAsg_, asgK_, gN_, gsNil_, gsCons_, sRet_, sRetN_, sExpr_, sPar_, parK_, eSeq_, srcOf_t, srcOf_l, oEnum_t, oEnum_l, oZip_t, oZip_l, eCallP_, oP1, oP2, oP3, prV_v, prV_l, eCallS_, eFld_, finP_n, finP_v, finS_n, finS_r, eSlT_, slK_1, drop_1, lLc_, wipe_n, wipe_c, lcGo_n, lcGo_c, lcB_t, lcB_f, lcC_, fTrue_, forK_, foGo_n, foGo_c, foK_nx, foK_ct, foK_bk, foK_rt, lkF_0, eChain_, chJ_, chK_, chL_t, chL_f, eMake_, makeJ_, eMeth_, sFld_, fldJ_, eNewX_, sSubX_, sxJ_, sxK_, decide_true, decide_false, lRev_, eRevT_, revTK_, lCallP_, obind_some, obind_none, omap_some, omap_none, List.getElem?_cons_zero, List.getElem?_cons_succ, set_0, set_s, if_true, if_false, Bool.false_eq_true, Bool.not_true, Bool.not_false, hd, z0, z1, callSK_ (n := 2) (rs := [.o 0, .d (.int 4)]) rfl, h1, hs, callSK_ (n := 2) (rs := [.o 0, .d (.int (deep : Nat))]) rfl, g1, List.length_cons, List.length_nil, Nat.zero_add, Nat.reduceAdd, if_pos two_lim]
        rfl
      · have z1 : decide (v = 1) = false := decide_eq_false v1
        obtain ⟨t2, ls, g3, g4⟩ := ih (k + 1) ks (by omega)
        have three : 3 ≤ Lim := by unfold Lim; decide
        refine ⟨.nd t t2, ls, ?_, by simp only [Tr.dep]; omega⟩
        simp only [eC_, eTy_, eVar_0, eVar_s, eBin_, binJ_, binK_, aNil_, aCons_, consJ_, fMap_, mapK_, eCall_, lCall_, aDs_, dsK_, dsOf_nil, dsOf_cons, eTup_, eVal_, eObj_, fIf_, ifK_t, ifK_f, fTest_, tstK_, fTru_, vTru_bl, vTru_int, vTru_non, vTru_lst, vTru_tup, fAnd_, andK_t, andK_f, fOr_, orK_t, orK_f, fNot_, eAnd_, eandK_t, eandK_f, eOr_, eorK_t, eorK_f, eNot_, notK_, vAdd_i, vAddI_i, vSub_i, vLt_i, vLe_i, vGt_i, vGe_i, vEq_i, vNe_i, vIsN_non, vIsN_int, vIsN_bl, vIsN_str, vIsN_tup, vIsN_lst, vIx_t, vIx_l, atI_0, atI_1, atI_2, bLen_t, bLen_l, bInt_i, bInt_b, bIsi_int, bIsi_bl, bIsi_str, bIsi_tup, bIsi_lst, bIsi_non, is_ii, is_ib, is_it, is_bi, is_bb, is_tt, is_ti, is_tb, is_st, is_si, is_ss, is_nt, is_ll, is_lt, is_tl, bTup_l, bTup_t, bBools_l, bInts_l, eMl0_, eMl1_, oRev_, sNil_, sSeq_, seqK_nx, seqK_rt, seqK_bk, seqK_ct, sIf_, sifK_t, sifK_f, sAsg_, asgK_, gN_, gsNil_, gsCons_, sRet_, sRetN_, sExpr_, sPar_, parK_, eSeq_, srcOf_t, srcOf_l, oEnum_t, oEnum_l, oZip_t, oZip_l, eCallP_, oP1, oP2, oP3, prV_v, prV_l, eCallS_, eFld_, finP_n, finP_v, finS_n, finS_r, eSlT_, slK_1, drop_1, lLc_, wipe_n, wipe_c, lcGo_n, lcGo_c, lcB_t, lcB_f, lcC_, fTrue_, forK_, foGo_n, foGo_c, foK_nx, foK_ct, foK_bk, foK_rt, lkF_0, eChain_, chJ_, chK_, chL_t, chL_f, eMake_, makeJ_, eMeth_, sFld_, fldJ_, eNewX_, sSubX_, sxJ_, sxK_, decide_true, decide_false, lRev_, eRevT_, revTK_, lCallP_, obind_some, obind_none, omap_some, omap_none, List.getElem?_cons_zero, List.getElem?_cons_succ, set_0, set_s, if_true, if_false, Bool.false_eq_true, Bool.not_true, Bool.not_false, hd, z0, z1, callSK_ (n := 2) (rs := [.o 0, .d (.int 4)]) rfl, h1, hs, callSK_ (n := 2) (rs := [.o 0, .d (.int (deep : Nat))]) rfl, g1, g3, List.length_cons, List.length_nil, Nat.zero_add, Nat.reduceAdd, if_pos three]
        rfl
theorem patt_ok : ∀ (deep k : Nat) (is : List Int), deep ≤ 2 → deep + 2 ≤ k → ∃ (p : Pt) (js : List Int), (T k)._law_pattern [.o 0, .d (.int (deep : Nat))] (So is) = some (.d p.d, So js) ∧ p.dep ≤ deep ∧ (deep = 2 → p ≠ .ho) := by
  intro deep
  induction deep with
  | zero =>
    intro k is _ hk
    obtain ⟨k, rfl⟩ : ∃ j, k = j + 2 := ⟨k - 2, by omega⟩
    refine ⟨.ho, is, ?_, Nat.le_refl _, fun h => nomatch h⟩
    show (F__law_pattern (T (k + 1)) [some (.o 0), some (.d (.int ((0 : Nat) : Int))), none] (So is)).bind finS = _
    unfold F__law_pattern
    have hd : decide ((0 : Int) < ((0 : Nat) : Int)) = false := by decide
    have hz : decide ((0 : Int) = 0) = true := by decide
    have h2 : decide (((0 : Nat) : Int) = 2) = false := by decide
    simp only [eC_, eTy_, eVar_0, eVar_s, eBin_, binJ_, binK_, aNil_, aCons_, consJ_, fMap_, mapK_, eCall_, lCall_, aDs_, dsK_, dsOf_nil, dsOf_cons, eTup_, eVal_, eObj_, fIf_, ifK_t, ifK_f, fTest_, tstK_, fTru_, vTru_bl, vTru_int, vTru_non, vTru_lst, vTru_tup, fAnd_, andK_t, andK_f, fOr_, orK_t, orK_f, fNot_, eAnd_, eandK_t, eandK_f, eOr_, eorK_t, eorK_f, eNot_, notK_, vAdd_i, vAddI_i, vSub_i, vLt_i, vLe_i, vGt_i, vGe_i, vEq_i, vNe_i, vIsN_non, vIsN_int, vIsN_bl, vIsN_str, vIsN_tup, vIsN_lst, vIx_t, vIx_l, atI_0, atI_1, atI_2, bLen_t, bLen_l, bInt_i, bInt_b, bIsi_int, bIsi_bl, bIsi_str, bIsi_tup, bIsi_lst, bIsi_non, is_ii, is_ib, is_it, is_bi, is_bb, is_tt, is_ti, is_tb, is_st, is_si, is_ss, is_nt, is_ll, is_lt, is_tl, bTup_l, bTup_t, bBools_l, bInts_l, eMl0_, eMl1_, oRev_, sNil_, sSeq_, seqK_nx, seqK_rt, seqK_bk, seqK_ct, sIf_, sifK_t, sifK_f, sAsg_, asgK_, gN_, gsNil_, gsCons_, sRet_, sRetN_, sExpr_, sPar_, parK_, eSeq_, srcOf_t, srcOf_l, oEnum_t, oEnum_l, oZip_t, oZip_l, eCallP_, oP1, oP2, oP3, prV_v, prV_l, eCallS_, eFld_, finP_n, finP_v, finS_n, finS_r, eSlT_, slK_1, drop_1, lLc_, wipe_n, wipe_c, lcGo_n, lcGo_c, lcB_t, lcB_f, lcC_, fTrue_, forK_, foGo_n, foGo_c, foK_nx, foK_ct, foK_bk, foK_rt, lkF_0, eChain_, chJ_, chK_, chL_t, chL_f, eMake_, makeJ_, eMeth_, sFld_, fldJ_, eNewX_, sSubX_, sxJ_, sxK_, decide_true, decide_false, lRev_, eRevT_, revTK_, lCallP_, obind_some, obind_none, omap_some, omap_none, List.getElem?_cons_zero, List.getElem?_cons_succ, set_0, set_s, if_true, if_false, Bool.false_eq_true, Bool.not_true, Bool.not_false, hd, hz, h2]
    rfl
  | succ deep ih =>
    intro k is h2d hk
    obtain ⟨k, rfl⟩ : ∃ j, k = j + 2 := ⟨k - 2, by omega⟩
    have hd : decide ((0 : Int) < ((deep + 1 : Nat) : Int)) = true := decide_eq_true (by omega)
    have hs : ((deep + 1 : Nat) : Int) - 1 = ((deep : Nat) : Int) := by omega
    have three : 3 ≤ Lim := by unfold Lim; decide
    -- the kind
    have kind : ∃ v js, fIf (fTest (eBin vEq (eVar 1) (eC (.int 2)))) (eBin vAdd (eC (.int 1)) (eCallS 2 (T (k + 1))._law_take (aCons (eVar 0) (aCons (eC (.int 2)) (aNil))))) (fIf (fTest (eBin vGt (eVar 1) (eC (.int 0)))) (eCallS 2 (T (k + 1))._law_take (aCons (eVar 0) (aCons (eC (.int 3)) (aNil)))) (eC (.int 0))) [some (.o 0), some (.d (.int ((deep + 1 : Nat) : Int))), none] (So is) = some (.d (.int v), So js) ∧ (deep + 1 = 2 → v ≠ 0) := by
      by_cases hd2 : deep + 1 = 2
      · have e : decide (((deep + 1 : Nat) : Int) = 2) = true := decide_eq_true (by omega)
        obtain ⟨u, js, g1, g2, g3⟩ := take1 (k := k) is (lim := 2) (by decide)
        refine ⟨1 + u, js, ?_, fun _ => by omega⟩
        simp only [eC_, eTy_, eVar_0, eVar_s, eBin_, binJ_, binK_, aNil_, aCons_, consJ_, fMap_, mapK_, eCall_, lCall_, aDs_, dsK_, dsOf_nil, dsOf_cons, eTup_, eVal_, eObj_, fIf_, ifK_t, ifK_f, fTest_, tstK_, fTru_, vTru_bl, vTru_int, vTru_non, vTru_lst, vTru_tup, fAnd_, andK_t, andK_f, fOr_, orK_t, orK_f, fNot_, eAnd_, eandK_t, eandK_f, eOr_, eorK_t, eorK_f, eNot_, notK_, vAdd_i, vAddI_i, vSub_i, vLt_i, vLe_i, vGt_i, vGe_i, vEq_i, vNe_i, vIsN_non, vIsN_int, vIsN_bl, vIsN_str, vIsN_tup, vIsN_lst, vIx_t, vIx_l, atI_0, atI_1, atI_2, bLen_t, bLen_l, bInt_i, bInt_b, bIsi_int, bIsi_bl, bIsi_str, bIsi_tup, bIsi_lst, bIsi_non, is_ii, is_ib, is_it, is_bi, is_bb, is_tt, is_ti, is_tb, is_st, is_si, is_ss, is_nt, is_ll, is_lt, is_tl, bTup_l, bTup_t, bBools_l, bInts_l, eMl0_, eMl1_, oRev_, sNil_, sSeq_, seqK_nx, seqK_rt, seqK_bk, seqK_ct, sIf_, sifK_t, sifK_f, sAsg_, asgK_, gN_, gsNil_, gsCons_, sRet_, sRetN_, sExpr_, sPar_, parK_, eSeq_, srcOf_t, srcOf_l, oEnum_t, oEnum_l, oZip_t, oZip_l, eCallP_, oP1, oP2, oP3, prV_v, prV_l, eCallS_, eFld_, finP_n, finP_v, finS_n, finS_r, eSlT_, slK_1, drop_1, lLc_, wipe_n, wipe_c, lcGo_n, lcGo_c, lcB_t, lcB_f, lcC_, fTrue_, forK_, foGo_n, foGo_c, foK_nx, foK_ct, foK_bk, foK_rt, lkF_0, eChain_, chJ_, chK_, chL_t, chL_f, eMake_, makeJ_, eMeth_, sFld_, fldJ_, eNewX_, sSubX_, sxJ_, sxK_, decide_true, decide_false, lRev_, eRevT_, revTK_, lCallP_, obind_some, obind_none, omap_some, omap_none, List.getElem?_cons_zero, List.getElem?_cons_succ, set_0, set_s, if_true, if_false, Bool.false_eq_true, Bool.not_true, Bool.not_false, e, callSK_ (n := 2) (rs := [.o 0, .d (.int 2)]) rfl, g1]
      · have e : decide (((deep + 1 : Nat) : Int) = 2) = false := decide_eq_false (by omega)
        obtain ⟨u, js, g1, g2, g3⟩ := take1 (k := k) is (lim := 3) (by decide)
        refine ⟨u, js, ?_, fun h => absurd h hd2⟩
        simp only [eC_, eTy_, eVar_0, eVar_s, eBin_, binJ_, binK_, aNil_, aCons_, consJ_, fMap_, mapK_, eCall_, lCall_, aDs_, dsK_, dsOf_nil, dsOf_cons, eTup_, eVal_, eObj_, fIf_, ifK_t, ifK_f, fTest_, tstK_, fTru_, vTru_bl, vTru_int, vTru_non, vTru_lst, vTru_tup, fAnd_, andK_t, andK_f, fOr_, orK_t, orK_f, fNot_, eAnd_, eandK_t, eandK_f, eOr_, eorK_t, eorK_f, eNot_, notK_, vAdd_i, vAddI_i, vSub_i, vLt_i, vLe_i, vGt_i, vGe_i, vEq_i, vNe_i, vIsN_non, vIsN_int, vIsN_bl, vIsN_str, vIsN_tup, vIsN_lst, vIx_t, vIx_l, atI_0, atI_1, atI_2, bLen_t, bLen_l, bInt_i, bInt_b, bIsi_int, bIsi_bl, bIsi_str, bIsi_tup, bIsi_lst, bIsi_non, is_ii, is_ib, is_it, is_bi, is_bb, is_tt, is_ti, is_tb, is_st, is_si, is_ss, is_nt, is_ll, is_lt, is_tl, bTup_l, bTup_t, bBools_l, bInts_l, eMl0_, eMl1_, oRev_, sNil_, sSeq_, seqK_nx, seqK_rt, seqK_bk, seqK_ct, sIf_, sifK_t, sifK_f, sAsg_, asgK_, gN_, gsNil_, gsCons_, sRet_, sRetN_, sExpr_, sPar_, parK_, eSeq_, srcOf_t, srcOf_l, oEnum_t, oEnum_l, oZip_t, oZip_l, eCallP_, oP1, oP2, oP3, prV_v, prV_l, eCallS_, eFld_, finP_n, finP_v, finS_n, finS_r, eSlT_, slK_1, drop_1, lLc_, wipe_n, wipe_c, lcGo_n, lcGo_c, lcB_t, lcB_f, lcC_, fTrue_, forK_, foGo_n, foGo_c, foK_nx, foK_ct, foK_bk, foK_rt, lkF_0, eChain_, chJ_, chK_, chL_t, chL_f, eMake_, makeJ_, eMeth_, sFld_, fldJ_, eNewX_, sSubX_, sxJ_, sxK_, decide_true, decide_false, lRev_, eRevT_, revTK_, lCallP_, obind_some, obind_none, omap_some, omap_none, List.getElem?_cons_zero, List.getElem?_cons_succ, set_0, set_s, if_true, if_false, Bool.false_eq_true, Bool.not_true, Bool.not_false, e, hd, callSK_ (n := 2) (rs := [.o 0, .d (.int 3)]) rfl, g1]
    obtain ⟨v, js, h1, hv⟩ := kind
    show ∃ (p : Pt) (js : List Int), (F__law_pattern (T (k + 1)) [some (.o 0), some (.d (.int ((deep + 1 : Nat) : Int))), none] (So is)).bind finS = _ ∧ _
    unfold F__law_pattern
    rw [sSeq_, sAsg_, h1]
    by_cases v0 : v = 0
    · have z0 : decide (v = 0) = true := decide_eq_true v0
      refine ⟨.ho, js, ?_, Nat.zero_le _, fun h => absurd v0 (hv h)⟩
      simp only [eC_, eTy_, eVar_0, eVar_s, eBin_, binJ_, binK_, aNil_, aCons_, consJ_, fMap_, mapK_, eCall_, lCall_, aDs_, dsK_, dsOf_nil, dsOf_cons, eTup_, eVal_, eObj_, fIf_, ifK_t, ifK_f, fTest_, tstK_, fTru_, vTru_bl, vTru_int, vTru_non, vTru_lst, vTru_tup, fAnd_, andK_t, andK_f, fOr_, orK_t, orK_f, fNot_, eAnd_, eandK_t, eandK_f, eOr_, eorK_t, eorK_f, eNot_, notK_, vAdd_i, vAddI_i, vSub_i, vLt_i, vLe_i, vGt_i, vGe_i, vEq_i, vNe_i, vIsN_non, vIsN_int, vIsN_bl, vIsN_str, vIsN_tup, vIsN_lst, vIx_t, vIx_l, atI_0, atI_1, atI_2, bLen_t, bLen_l, bInt_i, bInt_b, bIsi_int, bIsi_bl, bIsi_str, bIsi_tup, bIsi_lst, bIsi_non, is_ii, is_ib, is_it, is_bi, is_bb, is_tt, is_ti, is_tb, is_st, is_si, is_ss, is_nt, is_ll, is_lt, is_tl, bTup_l, bTup_t, bBools_l, bInts_l, eMl0_, eMl1_, oRev_, sNil_, sSeq_, seqK_nx, seqK_rt, seqK_bk, seqK_ct, sIf_, sifK_t, sifK_f, sAsg_, asgK_, gN_, gsNil_, gsCons_, sRet_, sRetN_, sExpr_, sPar_, parK_, eSeq_, srcOf_t, srcOf_l, oEnum_t, oEnum_l, oZip_t, oZip_l, eCallP_, oP1, oP2, oP3, prV_v, prV_l, eCallS_, eFld_, finP_n, finP_v, finS_n, finS_r, eSlT_, slK_1, drop_1, lLc_, wipe_n, wipe_c, lcGo_n, lcGo_c, lcB_t, lcB_f, lcC_, fTrue_, forK_, foGo_n, foGo_c, foK_nx, foK_ct, foK_bk, foK_rt, lkF_0, eChain_, chJ_, chK_, chL_t, chL_f, eMake_, makeJ_, eMeth_, sFld_, fldJ_, eNewX_, sSubX_, sxJ_, sxK_, decide_true, decide_false, lRev_, eRevT_, revTK_, lCallP_, obind_some, obind_none, omap_some, omap_none, List.getElem?_cons_zero, List.getElem?_cons_succ, set_0, set_s, if_true, if_false, Bool.false_eq_true, Bool.not_true, Bool.not_false, z0]
      rfl
    · have z0 : decide (v = 0) = false := decide_eq_false v0
      obtain ⟨t, ks, g1, g2, _⟩ := ih (k + 1) js (by omega) (by omega)
      by_cases v1 : v = 1
      · have z1 : decide (v = 1) = true := decide_eq_true v1
        refine ⟨.nt t, ks, ?_, by simp only [Pt.dep]; omega, fun _ => by simp⟩
        simp only [eC_, eTy_, eVar_0, eVar_s, eBin_, binJ_, binK_, aNil_, aCons_, consJ_, fMap_, mapK_, eCall_, lCall_, aDs_, dsK_, dsOf_nil, dsOf_cons, eTup_, eVal_, eObj_, fIf_, ifK_t, ifK_f, fTest_, tstK_, fTru_, vTru_bl, vTru_int, vTru_non, vTru_lst, vTru_tup, fAnd_, andK_t, andK_f, fOr_, orK_t, orK_f, fNot_, eAnd_, eandK_t, eandK_f, eOr_, eorK_t, eorK_f, eNot_, notK_, vAdd_i, vAddI_i, vSub_i, vLt_i, vLe_i, vGt_i, vGe_i, vEq_i, vNe_i, vIsN_non, vIsN_int, vIsN_bl, vIsN_str, vIsN_tup, vIsN_lst, vIx_t, vIx_l, atI_0, atI_1, atI_2, bLen_t, bLen_l, bInt_i, bInt_b, bIsi_int, bIsi_bl, bIsi_str, bIsi_tup, bIsi_lst, bIsi_non, is_ii, is_ib, is_it, is_bi, is_bb, is_tt, is_ti, is_tb, is_st, is_si, is_ss, is_nt, is_ll, is_lt, is_tl, bTup_l, bTup_t, bBools_l, bInts_l, eMl0_, eMl1_, oRev_, sNil_, sSeq_, seqK_nx, seqK_rt, seqK_bk, seqK_ct, sIf_, sifK_t, sifK_f, sAsg_, asgK_, gN_, gsNil_, gsCons_, sRet_, sRetN_, sExpr_, sPar_, parK_, eSeq_, srcOf_t, srcOf_l, oEnum_t, oEnum_l, oZip_t, oZip_l, eCallP_, oP1, oP2, oP3, prV_v, prV_l, eCallS_, eFld_, finP_n, finP_v, finS_n, finS_r, eSlT_, slK_1, drop_1, lLc_, wipe_n, wipe_c, lcGo_n, lcGo_c, lcB_t, lcB_f, lcC_, fTrue_, forK_, foGo_n, foGo_c, foK_nx, foK_ct, foK_bk, foK_rt, lkF_0, eChain_, chJ_, chK_, chL_t, chL_f, eMake_, makeJ_, eMeth_, sFld_, fldJ_, eNewX_, sSubX_, sxJ_, sxK_, decide_true, decide_false, lRev_, eRevT_, revTK_, lCallP_, obind_some, obind_none, omap_some, omap_none, List.getElem?_cons_zero, List.getElem?_cons_succ, set_0, set_s, if_true, if_false, Bool.false_eq_true, Bool.not_true, Bool.not_false, z0, z1, hs, callSK_ (n := 2) (rs := [.o 0, .d (.int (deep : Nat))]) rfl, g1, List.length_cons, List.length_nil, Nat.zero_add, Nat.reduceAdd, if_pos two_lim]
        rfl
      · have z1 : decide (v = 1) = false := decide_eq_false v1
        obtain ⟨t2, ls, g3, g4, _⟩ := ih (k + 1) ks (by omega) (by omega)
        refine ⟨.nd t t2, ls, ?_, by simp only [Pt.dep]; omega, fun _ => by simp⟩
        simp only [eC_, eTy_, eVar_0, eVar_s, eBin_, binJ_, binK_, aNil_, aCons_, consJ_, fMap_, mapK_, eCall_, lCall_, aDs_, dsK_, dsOf_nil, dsOf_cons, eTup_, eVal_, eObj_, fIf_, ifK_t, ifK_f, fTest_, tstK_, fTru_, vTru_bl, vTru_int, vTru_non, vTru_lst, vTru_tup, fAnd_, andK_t, andK_f, fOr_, orK_t, orK_f, fNot_, eAnd_, eandK_t, eandK_f, eOr_, eorK_t, eorK_f, eNot_, notK_, vAdd_i, vAddI_i, vSub_i, vLt_i, vLe_i, vGt_i, vGe_i, vEq_i, vNe_i, vIsN_non, vIsN_int, vIsN_bl, vIsN_str, vIsN_tup, vIsN_lst, vIx_t, vIx_l, atI_0, atI_1, atI_2, bLen_t, bLen_l, bInt_i, bInt_b, bIsi_int, bIsi_bl, bIsi_str, bIsi_tup, bIsi_lst, bIsi_non, is_ii, is_ib, is_it, is_bi, is_bb, is_tt, is_ti, is_tb, is_st, is_si, is_ss, is_nt, is_ll, is_lt, is_tl, bTup_l, bTup_t, bBools_l, bInts_l, eMl0_, eMl1_, oRev_, sNil_, sSeq_, seqK_nx, seqK_rt, seqK_bk, seqK_ct, sIf_, sifK_t, sifK_f, sAsg_, asgK_, gN_, gsNil_, gsCons_, sRet_, sRetN_, sExpr_, sPar_, parK_, eSeq_, srcOf_t, srcOf_l, oEnum_t, oEnum_l, oZip_t, oZip_l, eCallP_, oP1, oP2, oP3, prV_v, prV_l, eCallS_, eFld_, finP_n, finP_v, finS_n, finS_r, eSlT_, slK_1, drop_1, lLc_, wipe_n, wipe_c, lcGo_n, lcGo_c, lcB_t, lcB_f, lcC_, fTrue_, forK_, foGo_n, foGo_c, foK_nx, foK_ct, foK_bk, foK_rt, lkF_0, eChain_, chJ_, chK_, chL_t, chL_f, eMake_, makeJ_, eMeth_, sFld_, fldJ_, eNewX_, sSubX_, sxJ_, sxK_, decide_true, decide_false, lRev_, eRevT_, revTK_, lCallP_, obind_some, obind_none, omap_some, omap_none, List.getElem?_cons_zero, List.getElem?_cons_succ, set_0, set_s, if_true, if_false, Bool.false_eq_true, Bool.not_true, Bool.not_false, z0, z1, hs, callSK_ (n := 2) (rs := [.o 0, .d (.int (deep : Nat))]) rfl, g1, g3, List.length_cons, List.length_nil, Nat.zero_add, Nat.reduceAdd, if_pos three]
        rfl
def Tr.nots : Tr → Int
  | .lf _ => 0
  | .nt a => a.nots + 1
  | .nd a b => a.nots + b.nots
def Tr.nands : Tr → Int
  | .lf _ => 0
  | .nt a => a.nands
  | .nd a b => a.nands + b.nands + 1
theorem three_lim : 3 ≤ Lim := by unfold Lim; decide
theorem nn : decide (("not" : Str) = "not") = true := by decide +kernel
theorem dd : decide (("nand" : Str) = "nand") = true := by decide +kernel
theorem b01 : (if true = true then (1 : Int) else 0) = 1 := rfl
theorem forms2_ok : ∀ (t : Tr) (k : Nat), t.dep < k → (T k)._law_forms [t.d] = some (.v (.tup [.int t.nots, .int t.nands])) := by
  intro t
  induction t with
  | lf i =>
    intro k hk
    obtain ⟨k, rfl⟩ : ∃ j, k = j + 1 := ⟨k - 1, by omega⟩
    show (F__law_forms (T k) [some (.d (.int i)), none, none, none] []).bind finP = _
    unfold F__law_forms
    simp only [eC_, eTy_, eVar_0, eVar_s, eBin_, binJ_, binK_, aNil_, aCons_, consJ_, fMap_, mapK_, eCall_, lCall_, aDs_, dsK_, dsOf_nil, dsOf_cons, eTup_, eVal_, eObj_, fIf_, ifK_t, ifK_f, fTest_, tstK_, fTru_, vTru_bl, vTru_int, vTru_non, vTru_lst, vTru_tup, fAnd_, andK_t, andK_f, fOr_, orK_t, orK_f, fNot_, eAnd_, eandK_t, eandK_f, eOr_, eorK_t, eorK_f, eNot_, notK_, vAdd_i, vAddI_i, vSub_i, vLt_i, vLe_i, vGt_i, vGe_i, vEq_i, vNe_i, vIsN_non, vIsN_int, vIsN_bl, vIsN_str, vIsN_tup, vIsN_lst, vIx_t, vIx_l, atI_0, atI_1, atI_2, bLen_t, bLen_l, bInt_i, bInt_b, bIsi_int, bIsi_bl, bIsi_str, bIsi_tup, bIsi_lst, bIsi_non, is_ii, is_ib, is_it, is_bi, is_bb, is_tt, is_ti, is_tb, is_st, is_si, is_ss, is_nt, is_ll, is_lt, is_tl, bTup_l, bTup_t, bBools_l, bInts_l, eMl0_, eMl1_, oRev_, sNil_, sSeq_, seqK_nx, seqK_rt, seqK_bk, seqK_ct, sIf_, sifK_t, sifK_f, sAsg_, asgK_, gN_, gsNil_, gsCons_, sRet_, sRetN_, sExpr_, sPar_, parK_, eSeq_, srcOf_t, srcOf_l, oEnum_t, oEnum_l, oZip_t, oZip_l, eCallP_, oP1, oP2, oP3, prV_v, prV_l, eCallS_, eFld_, finP_n, finP_v, finS_n, finS_r, eSlT_, slK_1, drop_1, lLc_, wipe_n, wipe_c, lcGo_n, lcGo_c, lcB_t, lcB_f, lcC_, fTrue_, forK_, foGo_n, foGo_c, foK_nx, foK_ct, foK_bk, foK_rt, lkF_0, eChain_, chJ_, chK_, chL_t, chL_f, eMake_, makeJ_, eMeth_, sFld_, fldJ_, eNewX_, sSubX_, sxJ_, sxK_, decide_true, decide_false, lRev_, eRevT_, revTK_, lCallP_, obind_some, obind_none, omap_some, omap_none, List.getElem?_cons_zero, List.getElem?_cons_succ, set_0, set_s, if_true, if_false, Bool.false_eq_true, Bool.not_true, Bool.not_false, List.length_cons, List.length_nil, Nat.zero_add, Nat.reduceAdd, if_pos two_lim]
    rfl
  | nt a ih =>
    intro k hk
    obtain ⟨k, rfl⟩ : ∃ j, k = j + 1 := ⟨k - 1, by omega⟩
    have e := ih k (by unfold Tr.dep at hk; omega)
    have n1 := bInts_l (S := []) (k := List.sum) (bs := [a.nots])
    have n2 := bInts_l (S := []) (k := List.sum) (bs := [a.nands])
    simp only [List.map_cons, List.map_nil, List.sum_cons, List.sum_nil, Int.add_zero] at n1 n2
    show (F__law_forms (T k) [some (.d (.tup [.str "not", a.d])), none, none, none] []).bind finP = _
    unfold F__law_forms
    simp only [eC_, eTy_, eVar_0, eVar_s, eBin_, binJ_, binK_, aNil_, aCons_, consJ_, fMap_, mapK_, eCall_, lCall_, aDs_, dsK_, dsOf_nil, dsOf_cons, eTup_, eVal_, eObj_, fIf_, ifK_t, ifK_f, fTest_, tstK_, fTru_, vTru_bl, vTru_int, vTru_non, vTru_lst, vTru_tup, fAnd_, andK_t, andK_f, fOr_, orK_t, orK_f, fNot_, eAnd_, eandK_t, eandK_f, eOr_, eorK_t, eorK_f, eNot_, notK_, vAdd_i, vAddI_i, vSub_i, vLt_i, vLe_i, vGt_i, vGe_i, vEq_i, vNe_i, vIsN_non, vIsN_int, vIsN_bl, vIsN_str, vIsN_tup, vIsN_lst, vIx_t, vIx_l, atI_0, atI_1, atI_2, bLen_t, bLen_l, bInt_i, bInt_b, bIsi_int, bIsi_bl, bIsi_str, bIsi_tup, bIsi_lst, bIsi_non, is_ii, is_ib, is_it, is_bi, is_bb, is_tt, is_ti, is_tb, is_st, is_si, is_ss, is_nt, is_ll, is_lt, is_tl, bTup_l, bTup_t, bBools_l, bInts_l, eMl0_, eMl1_, oRev_, sNil_, sSeq_, seqK_nx, seqK_rt, seqK_bk, seqK_ct, sIf_, sifK_t, sifK_f, sAsg_, asgK_, gN_, gsNil_, gsCons_, sRet_, sRetN_, sExpr_, sPar_, parK_, eSeq_, srcOf_t, srcOf_l, oEnum_t, oEnum_l, oZip_t, oZip_l, eCallP_, oP1, oP2, oP3, prV_v, prV_l, eCallS_, eFld_, finP_n, finP_v, finS_n, finS_r, eSlT_, slK_1, drop_1, lLc_, wipe_n, wipe_c, lcGo_n, lcGo_c, lcB_t, lcB_f, lcC_, fTrue_, forK_, foGo_n, foGo_c, foK_nx, foK_ct, foK_bk, foK_rt, lkF_0, eChain_, chJ_, chK_, chL_t, chL_f, eMake_, makeJ_, eMeth_, sFld_, fldJ_, eNewX_, sSubX_, sxJ_, sxK_, decide_true, decide_false, lRev_, eRevT_, revTK_, lCallP_, obind_some, obind_none, omap_some, omap_none, List.getElem?_cons_zero, List.getElem?_cons_succ, set_0, set_s, if_true, if_false, Bool.false_eq_true, Bool.not_true, Bool.not_false, lcK_ len1, e, n1, n2, vEq_ ok_strn ok_strn, vEq_ ok_strn ok_strd, eqv_ss, nn, not_ne, List.length_cons, List.length_nil, Nat.zero_add, Nat.reduceAdd, if_pos two_lim]
    simp [Tr.nots, Tr.nands]
  | nd a b iha ihb =>
    intro k hk
    obtain ⟨k, rfl⟩ : ∃ j, k = j + 1 := ⟨k - 1, by omega⟩
    have e := iha k (by unfold Tr.dep at hk; omega)
    have e' := ihb k (by unfold Tr.dep at hk; omega)
    have n1 := bInts_l (S := []) (k := List.sum) (bs := [a.nots, b.nots])
    have n2 := bInts_l (S := []) (k := List.sum) (bs := [a.nands, b.nands])
    simp only [List.map_cons, List.map_nil, List.sum_cons, List.sum_nil, Int.add_zero] at n1 n2
    show (F__law_forms (T k) [some (.d (.tup [.str "nand", a.d, b.d])), none, none, none] []).bind finP = _
    unfold F__law_forms
    simp only [eC_, eTy_, eVar_0, eVar_s, eBin_, binJ_, binK_, aNil_, aCons_, consJ_, fMap_, mapK_, eCall_, lCall_, aDs_, dsK_, dsOf_nil, dsOf_cons, eTup_, eVal_, eObj_, fIf_, ifK_t, ifK_f, fTest_, tstK_, fTru_, vTru_bl, vTru_int, vTru_non, vTru_lst, vTru_tup, fAnd_, andK_t, andK_f, fOr_, orK_t, orK_f, fNot_, eAnd_, eandK_t, eandK_f, eOr_, eorK_t, eorK_f, eNot_, notK_, vAdd_i, vAddI_i, vSub_i, vLt_i, vLe_i, vGt_i, vGe_i, vEq_i, vNe_i, vIsN_non, vIsN_int, vIsN_bl, vIsN_str, vIsN_tup, vIsN_lst, vIx_t, vIx_l, atI_0, atI_1, atI_2, bLen_t, bLen_l, bInt_i, bInt_b, bIsi_int, bIsi_bl, bIsi_str, bIsi_tup, bIsi_lst, bIsi_non, is_ii, is_ib, is_it, is_bi, is_bb, is_tt, is_ti, is_tb, is_st, is_si, is_ss, is_nt, is_ll, is_lt, is_tl, bTup_l, bTup_t, bBools_l, bInts_l, eMl0_, eMl1_, oRev_, sNil_, sSeq_, seqK_nx, seqK_rt, seqK_bk, seqK_ct, sIf_, sifK_t, sifK_f, sAsg_, asgK_, gN_, gsNil_, gsCons_, sRet_, sRetN_, sExpr_, sPar_, parK_, eSeq_, srcOf_t, srcOf_l, oEnum_t, oEnum_l, oZip_t, oZip_l, eCallP_, oP1, oP2, oP3, prV_v, prV_l, eCallS_, eFld_, finP_n, finP_v, finS_n, finS_r, eSlT_, slK_1, drop_1, lLc_, wipe_n, wipe_c, lcGo_n, lcGo_c, lcB_t, lcB_f, lcC_, fTrue_, forK_, foGo_n, foGo_c, foK_nx, foK_ct, foK_bk, foK_rt, lkF_0, eChain_, chJ_, chK_, chL_t, chL_f, eMake_, makeJ_, eMeth_, sFld_, fldJ_, eNewX_, sSubX_, sxJ_, sxK_, decide_true, decide_false, lRev_, eRevT_, revTK_, lCallP_, obind_some, obind_none, omap_some, omap_none, List.getElem?_cons_zero, List.getElem?_cons_succ, set_0, set_s, if_true, if_false, Bool.false_eq_true, Bool.not_true, Bool.not_false, lcK_ len2, e, e', n1, n2, vEq_ ok_strd ok_strn, vEq_ ok_strd ok_strd, eqv_ss, dd, nand_ne, List.length_cons, List.length_nil, Nat.zero_add, Nat.reduceAdd, if_pos two_lim]
    simp [Tr.nots, Tr.nands]
/-- the inputs of nands turned -/
inductive Tw : Tr → Tr → Prop
  | lf (i : Nat) : Tw (.lf i) (.lf i)
  | nt {a b : Tr} : Tw a b → Tw (.nt a) (.nt b)
  | nd {a b c d : Tr} : Tw a c → Tw b d → Tw (.nd a b) (.nd c d)
  | sw {a b c d : Tr} : Tw a c → Tw b d → Tw (.nd a b) (.nd d c)
theorem turn_ok : ∀ (t : Tr) (k : Nat) (is : List Int), t.dep + 2 ≤ k → ∃ (u : Tr) (js : List Int), (T k)._law_turned [.o 0, .d t.d] (So is) = some (.d u.d, So js) ∧ Tw t u := by
  intro t
  induction t with
  | lf i =>
    intro k is hk
    obtain ⟨k, rfl⟩ : ∃ j, k = j + 1 := ⟨k - 1, by omega⟩
    refine ⟨.lf i, is, ?_, .lf i⟩
    show (F__law_turned (T k) [some (.o 0), some (.d (.int i)), none, none] (So is)).bind finS = _
    unfold F__law_turned
    simp only [eC_, eTy_, eVar_0, eVar_s, eBin_, binJ_, binK_, aNil_, aCons_, consJ_, fMap_, mapK_, eCall_, lCall_, aDs_, dsK_, dsOf_nil, dsOf_cons, eTup_, eVal_, eObj_, fIf_, ifK_t, ifK_f, fTest_, tstK_, fTru_, vTru_bl, vTru_int, vTru_non, vTru_lst, vTru_tup, fAnd_, andK_t, andK_f, fOr_, orK_t, orK_f, fNot_, eAnd_, eandK_t, eandK_f, eOr_, eorK_t, eorK_f, eNot_, notK_, vAdd_i, vAddI_i, vSub_i, vLt_i, vLe_i, vGt_i, vGe_i, vEq_i, vNe_i, vIsN_non, vIsN_int, vIsN_bl, vIsN_str, vIsN_tup, vIsN_lst, vIx_t, vIx_l, atI_0, atI_1, atI_2, bLen_t, bLen_l, bInt_i, bInt_b, bIsi_int, bIsi_bl, bIsi_str, bIsi_tup, bIsi_lst, bIsi_non, is_ii, is_ib, is_it, is_bi, is_bb, is_tt, is_ti, is_tb, is_st, is_si, is_ss, is_nt, is_ll, is_lt, is_tl, bTup_l, bTup_t, bBools_l, bInts_l, eMl0_, eMl1_, oRev_, sNil_, sSeq_, seqK_nx, seqK_rt, seqK_bk, seqK_ct, sIf_, sifK_t, sifK_f, sAsg_, asgK_, gN_, gsNil_, gsCons_, sRet_, sRetN_, sExpr_, sPar_, parK_, eSeq_, srcOf_t, srcOf_l, oEnum_t, oEnum_l, oZip_t, oZip_l, eCallP_, oP1, oP2, oP3, prV_v, prV_l, eCallS_, eFld_, finP_n, finP_v, finS_n, finS_r, eSlT_, slK_1, drop_1, lLc_, wipe_n, wipe_c, lcGo_n, lcGo_c, lcB_t, lcB_f, lcC_, fTrue_, forK_, foGo_n, foGo_c, foK_nx, foK_ct, foK_bk, foK_rt, lkF_0, eChain_, chJ_, chK_, chL_t, chL_f, eMake_, makeJ_, eMeth_, sFld_, fldJ_, eNewX_, sSubX_, sxJ_, sxK_, decide_true, decide_false, lRev_, eRevT_, revTK_, lCallP_, obind_some, obind_none, omap_some, omap_none, List.getElem?_cons_zero, List.getElem?_cons_succ, set_0, set_s, if_true, if_false, Bool.false_eq_true, Bool.not_true, Bool.not_false]
    rfl
  | nt a ih =>
    intro k is hk
    obtain ⟨k, rfl⟩ : ∃ j, k = j + 2 := ⟨k - 2, by omega⟩
    obtain ⟨u, js, e1, e2⟩ := ih (k + 1) is (by unfold Tr.dep at hk; omega)
    obtain ⟨v, ks, g1, g2, g3⟩ := take1 (k := k) js (lim := 2) (by decide)
    refine ⟨.nt u, ks, ?_, .nt e2⟩
    show (F__law_turned (T (k + 1)) [some (.o 0), some (.d (.tup [.str "not", a.d])), none, none] (So is)).bind finS = _
    unfold F__law_turned
    by_cases v0 : v = 0
    · have z0 : decide (v = 0) = true := decide_eq_true v0
      simp only [eC_, eTy_, eVar_0, eVar_s, eBin_, binJ_, binK_, aNil_, aCons_, consJ_, fMap_, mapK_, eCall_, lCall_, aDs_, dsK_, dsOf_nil, dsOf_cons, eTup_, eVal_, eObj_, fIf_, ifK_t, ifK_f, fTest_, tstK_, fTru_, vTru_bl, vTru_int, vTru_non, vTru_lst, vTru_tup, fAnd_, andK_t, andK_f, fOr_, orK_t, orK_f, fNot_, eAnd_, eandK_t, eandK_f, eOr_, eorK_t, eorK_f, eNot_, notK_, vAdd_i, vAddI_i, vSub_i, vLt_i, vLe_i, vGt_i, vGe_i, vEq_i, vNe_i, vIsN_non, vIsN_int, vIsN_bl, vIsN_str, vIsN_tup, vIsN_lst, vIx_t, vIx_l, atI_0, atI_1, atI_2, bLen_t, bLen_l, bInt_i, bInt_b, bIsi_int, bIsi_bl, bIsi_str, bIsi_tup, bIsi_lst, bIsi_non, is_ii, is_ib, is_it, is_bi, is_bb, is_tt, is_ti, is_tb, is_st, is_si, is_ss, is_nt, is_ll, is_lt, is_tl, bTup_l, bTup_t, bBools_l, bInts_l, eMl0_, eMl1_, oRev_, sNil_, sSeq_, seqK_nx, seqK_rt, seqK_bk, seqK_ct, sIf_, sifK_t, sifK_f, sAsg_, asgK_, gN_, gsNil_, gsCons_, sRet_, sRetN_, sExpr_, sPar_, parK_, eSeq_, srcOf_t, srcOf_l, oEnum_t, oEnum_l, oZip_t, oZip_l, eCallP_, oP1, oP2, oP3, prV_v, prV_l, eCallS_, eFld_, finP_n, finP_v, finS_n, finS_r, eSlT_, slK_1, drop_1, lLc_, wipe_n, wipe_c, lcGo_n, lcGo_c, lcB_t, lcB_f, lcC_, fTrue_, forK_, foGo_n, foGo_c, foK_nx, foK_ct, foK_bk, foK_rt, lkF_0, eChain_, chJ_, chK_, chL_t, chL_f, eMake_, makeJ_, eMeth_, sFld_, fldJ_, eNewX_, sSubX_, sxJ_, sxK_, decide_true, decide_false, lRev_, eRevT_, revTK_, lCallP_, obind_some, obind_none, omap_some, omap_none, List.getElem?_cons_zero, List.getElem?_cons_succ, set_0, set_s, if_true, if_false, Bool.false_eq_true, Bool.not_true, Bool.not_false, lcK_ len1, callSK_ (n := 2) (rs := [.o 0, .d a.d]) rfl, e1, callSK_ (n := 2) (rs := [.o 0, .d (.int 2)]) rfl, g1, z0, revK_l len1, List.length_cons, List.length_nil, Nat.zero_add, Nat.reduceAdd, if_pos one_lim, vAdd_t, List.length_reverse, if_pos two_lim]
      rfl
    · have z0 : decide (v = 0) = false := decide_eq_false v0
      simp only [eC_, eTy_, eVar_0, eVar_s, eBin_, binJ_, binK_, aNil_, aCons_, consJ_, fMap_, mapK_, eCall_, lCall_, aDs_, dsK_, dsOf_nil, dsOf_cons, eTup_, eVal_, eObj_, fIf_, ifK_t, ifK_f, fTest_, tstK_, fTru_, vTru_bl, vTru_int, vTru_non, vTru_lst, vTru_tup, fAnd_, andK_t, andK_f, fOr_, orK_t, orK_f, fNot_, eAnd_, eandK_t, eandK_f, eOr_, eorK_t, eorK_f, eNot_, notK_, vAdd_i, vAddI_i, vSub_i, vLt_i, vLe_i, vGt_i, vGe_i, vEq_i, vNe_i, vIsN_non, vIsN_int, vIsN_bl, vIsN_str, vIsN_tup, vIsN_lst, vIx_t, vIx_l, atI_0, atI_1, atI_2, bLen_t, bLen_l, bInt_i, bInt_b, bIsi_int, bIsi_bl, bIsi_str, bIsi_tup, bIsi_lst, bIsi_non, is_ii, is_ib, is_it, is_bi, is_bb, is_tt, is_ti, is_tb, is_st, is_si, is_ss, is_nt, is_ll, is_lt, is_tl, bTup_l, bTup_t, bBools_l, bInts_l, eMl0_, eMl1_, oRev_, sNil_, sSeq_, seqK_nx, seqK_rt, seqK_bk, seqK_ct, sIf_, sifK_t, sifK_f, sAsg_, asgK_, gN_, gsNil_, gsCons_, sRet_, sRetN_, sExpr_, sPar_, parK_, eSeq_, srcOf_t, srcOf_l, oEnum_t, oEnum_l, oZip_t, oZip_l, eCallP_, oP1, oP2, oP3, prV_v, prV_l, eCallS_, eFld_, finP_n, finP_v, finS_n, finS_r, eSlT_, slK_1, drop_1, lLc_, wipe_n, wipe_c, lcGo_n, lcGo_c, lcB_t, lcB_f, lcC_, fTrue_, forK_, foGo_n, foGo_c, foK_nx, foK_ct, foK_bk, foK_rt, lkF_0, eChain_, chJ_, chK_, chL_t, chL_f, eMake_, makeJ_, eMeth_, sFld_, fldJ_, eNewX_, sSubX_, sxJ_, sxK_, decide_true, decide_false, lRev_, eRevT_, revTK_, lCallP_, obind_some, obind_none, omap_some, omap_none, List.getElem?_cons_zero, List.getElem?_cons_succ, set_0, set_s, if_true, if_false, Bool.false_eq_true, Bool.not_true, Bool.not_false, lcK_ len1, callSK_ (n := 2) (rs := [.o 0, .d a.d]) rfl, e1, callSK_ (n := 2) (rs := [.o 0, .d (.int 2)]) rfl, g1, z0, List.length_cons, List.length_nil, Nat.zero_add, Nat.reduceAdd, if_pos one_lim, vAdd_t, if_pos two_lim]
      rfl
  | nd a b iha ihb =>
    intro k is hk
    obtain ⟨k, rfl⟩ : ∃ j, k = j + 2 := ⟨k - 2, by omega⟩
    obtain ⟨u, js, e1, e2⟩ := iha (k + 1) is (by unfold Tr.dep at hk; omega)
    obtain ⟨w, ls, e3, e4⟩ := ihb (k + 1) js (by unfold Tr.dep at hk; omega)
    obtain ⟨v, ks, g1, g2, g3⟩ := take1 (k := k) ls (lim := 2) (by decide)
    show ∃ (u : Tr) (js : List Int), (F__law_turned (T (k + 1)) [some (.o 0), some (.d (.tup [.str "nand", a.d, b.d])), none, none] (So is)).bind finS = _ ∧ _
    unfold F__law_turned
    by_cases v0 : v = 0
    · have z0 : decide (v = 0) = true := decide_eq_true v0
      refine ⟨.nd w u, ks, ?_, .sw e2 e4⟩
      simp only [eC_, eTy_, eVar_0, eVar_s, eBin_, binJ_, binK_, aNil_, aCons_, consJ_, fMap_, mapK_, eCall_, lCall_, aDs_, dsK_, dsOf_nil, dsOf_cons, eTup_, eVal_, eObj_, fIf_, ifK_t, ifK_f, fTest_, tstK_, fTru_, vTru_bl, vTru_int, vTru_non, vTru_lst, vTru_tup, fAnd_, andK_t, andK_f, fOr_, orK_t, orK_f, fNot_, eAnd_, eandK_t, eandK_f, eOr_, eorK_t, eorK_f, eNot_, notK_, vAdd_i, vAddI_i, vSub_i, vLt_i, vLe_i, vGt_i, vGe_i, vEq_i, vNe_i, vIsN_non, vIsN_int, vIsN_bl, vIsN_str, vIsN_tup, vIsN_lst, vIx_t, vIx_l, atI_0, atI_1, atI_2, bLen_t, bLen_l, bInt_i, bInt_b, bIsi_int, bIsi_bl, bIsi_str, bIsi_tup, bIsi_lst, bIsi_non, is_ii, is_ib, is_it, is_bi, is_bb, is_tt, is_ti, is_tb, is_st, is_si, is_ss, is_nt, is_ll, is_lt, is_tl, bTup_l, bTup_t, bBools_l, bInts_l, eMl0_, eMl1_, oRev_, sNil_, sSeq_, seqK_nx, seqK_rt, seqK_bk, seqK_ct, sIf_, sifK_t, sifK_f, sAsg_, asgK_, gN_, gsNil_, gsCons_, sRet_, sRetN_, sExpr_, sPar_, parK_, eSeq_, srcOf_t, srcOf_l, oEnum_t, oEnum_l, oZip_t, oZip_l, eCallP_, oP1, oP2, oP3, prV_v, prV_l, eCallS_, eFld_, finP_n, finP_v, finS_n, finS_r, eSlT_, slK_1, drop_1, lLc_, wipe_n, wipe_c, lcGo_n, lcGo_c, lcB_t, lcB_f, lcC_, fTrue_, forK_, foGo_n, foGo_c, foK_nx, foK_ct, foK_bk, foK_rt, lkF_0, eChain_, chJ_, chK_, chL_t, chL_f, eMake_, makeJ_, eMeth_, sFld_, fldJ_, eNewX_, sSubX_, sxJ_, sxK_, decide_true, decide_false, lRev_, eRevT_, revTK_, lCallP_, obind_some, obind_none, omap_some, omap_none, List.getElem?_cons_zero, List.getElem?_cons_succ, set_0, set_s, if_true, if_false, Bool.false_eq_true, Bool.not_true, Bool.not_false, lcK_ len2, callSK_ (n := 2) (rs := [.o 0, .d a.d]) rfl, callSK_ (n := 2) (rs := [.o 0, .d b.d]) rfl, e1, e3, callSK_ (n := 2) (rs := [.o 0, .d (.int 2)]) rfl, g1, z0, revK_l len2, List.length_cons, List.length_nil, Nat.zero_add, Nat.reduceAdd, if_pos one_lim, vAdd_t, List.length_reverse, if_pos three_lim]
      rfl
    · have z0 : decide (v = 0) = false := decide_eq_false v0
      refine ⟨.nd u w, ks, ?_, .nd e2 e4⟩
      simp only [eC_, eTy_, eVar_0, eVar_s, eBin_, binJ_, binK_, aNil_, aCons_, consJ_, fMap_, mapK_, eCall_, lCall_, aDs_, dsK_, dsOf_nil, dsOf_cons, eTup_, eVal_, eObj_, fIf_, ifK_t, ifK_f, fTest_, tstK_, fTru_, vTru_bl, vTru_int, vTru_non, vTru_lst, vTru_tup, fAnd_, andK_t, andK_f, fOr_, orK_t, orK_f, fNot_, eAnd_, eandK_t, eandK_f, eOr_, eorK_t, eorK_f, eNot_, notK_, vAdd_i, vAddI_i, vSub_i, vLt_i, vLe_i, vGt_i, vGe_i, vEq_i, vNe_i, vIsN_non, vIsN_int, vIsN_bl, vIsN_str, vIsN_tup, vIsN_lst, vIx_t, vIx_l, atI_0, atI_1, atI_2, bLen_t, bLen_l, bInt_i, bInt_b, bIsi_int, bIsi_bl, bIsi_str, bIsi_tup, bIsi_lst, bIsi_non, is_ii, is_ib, is_it, is_bi, is_bb, is_tt, is_ti, is_tb, is_st, is_si, is_ss, is_nt, is_ll, is_lt, is_tl, bTup_l, bTup_t, bBools_l, bInts_l, eMl0_, eMl1_, oRev_, sNil_, sSeq_, seqK_nx, seqK_rt, seqK_bk, seqK_ct, sIf_, sifK_t, sifK_f, sAsg_, asgK_, gN_, gsNil_, gsCons_, sRet_, sRetN_, sExpr_, sPar_, parK_, eSeq_, srcOf_t, srcOf_l, oEnum_t, oEnum_l, oZip_t, oZip_l, eCallP_, oP1, oP2, oP3, prV_v, prV_l, eCallS_, eFld_, finP_n, finP_v, finS_n, finS_r, eSlT_, slK_1, drop_1, lLc_, wipe_n, wipe_c, lcGo_n, lcGo_c, lcB_t, lcB_f, lcC_, fTrue_, forK_, foGo_n, foGo_c, foK_nx, foK_ct, foK_bk, foK_rt, lkF_0, eChain_, chJ_, chK_, chL_t, chL_f, eMake_, makeJ_, eMeth_, sFld_, fldJ_, eNewX_, sSubX_, sxJ_, sxK_, decide_true, decide_false, lRev_, eRevT_, revTK_, lCallP_, obind_some, obind_none, omap_some, omap_none, List.getElem?_cons_zero, List.getElem?_cons_succ, set_0, set_s, if_true, if_false, Bool.false_eq_true, Bool.not_true, Bool.not_false, lcK_ len2, callSK_ (n := 2) (rs := [.o 0, .d a.d]) rfl, callSK_ (n := 2) (rs := [.o 0, .d b.d]) rfl, e1, e3, callSK_ (n := 2) (rs := [.o 0, .d (.int 2)]) rfl, g1, z0, List.length_cons, List.length_nil, Nat.zero_add, Nat.reduceAdd, if_pos one_lim, vAdd_t, if_pos three_lim]
      rfl
end K61

namespace K61
open PySem PySem.Spec PyProof.Rows L2 Ev

/-! ### put, leaves -/
def putT (u : Tr) : Tr → Tr
  | .lf i => if i = 0 then u else .lf i
  | .nt a => .nt (putT u a)
  | .nd a b => .nd (putT u a) (putT u b)
def Tr.leaves : Tr → Int
  | .lf i => if i = 0 then 1 else 0
  | .nt a => a.leaves
  | .nd a b => a.leaves + b.leaves
theorem put_ok {u : Tr} : ∀ (t : Tr) (k : Nat), t.dep < k → (T k)._law_put [t.d, .int 0, u.d] = some (.v (putT u t).d) := by
  intro t
  induction t with
  | lf i =>
    intro k hk
    obtain ⟨k, rfl⟩ : ∃ j, k = j + 1 := ⟨k - 1, by omega⟩
    show (F__law_put (T k) [some (.d (.int i)), some (.d (.int 0)), some (.d u.d), none] []).bind finP = _
    unfold F__law_put
    by_cases h : i = 0
    · have z : decide (((i : Nat) : Int) = 0) = true := decide_eq_true (by omega)
      simp only [eC_, eTy_, eVar_0, eVar_s, eBin_, binJ_, binK_, aNil_, aCons_, consJ_, fMap_, mapK_, eCall_, lCall_, aDs_, dsK_, dsOf_nil, dsOf_cons, eTup_, eVal_, eObj_, fIf_, ifK_t, ifK_f, fTest_, tstK_, fTru_, vTru_bl, vTru_int, vTru_non, vTru_lst, vTru_tup, fAnd_, andK_t, andK_f, fOr_, orK_t, orK_f, fNot_, eAnd_, eandK_t, eandK_f, eOr_, eorK_t, eorK_f, eNot_, notK_, vAdd_i, vAddI_i, vSub_i, vLt_i, vLe_i, vGt_i, vGe_i, vEq_i, vNe_i, vIsN_non, vIsN_int, vIsN_bl, vIsN_str, vIsN_tup, vIsN_lst, vIx_t, vIx_l, atI_0, atI_1, atI_2, bLen_t, bLen_l, bInt_i, bInt_b, bIsi_int, bIsi_bl, bIsi_str, bIsi_tup, bIsi_lst, bIsi_non, is_ii, is_ib, is_it, is_bi, is_bb, is_tt, is_ti, is_tb, is_st, is_si, is_ss, is_nt, is_ll, is_lt, is_tl, bTup_l, bTup_t, bBools_l, bInts_l, eMl0_, eMl1_, oRev_, sNil_, sSeq_, seqK_nx, seqK_rt, seqK_bk, seqK_ct, sIf_, sifK_t, sifK_f, sAsg_, asgK_, gN_, gsNil_, gsCons_, sRet_, sRetN_, sExpr_, sPar_, parK_, eSeq_, srcOf_t, srcOf_l, oEnum_t, oEnum_l, oZip_t, oZip_l, eCallP_, oP1, oP2, oP3, prV_v, prV_l, eCallS_, eFld_, finP_n, finP_v, finS_n, finS_r, eSlT_, slK_1, drop_1, lLc_, wipe_n, wipe_c, lcGo_n, lcGo_c, lcB_t, lcB_f, lcC_, fTrue_, forK_, foGo_n, foGo_c, foK_nx, foK_ct, foK_bk, foK_rt, lkF_0, eChain_, chJ_, chK_, chL_t, chL_f, eMake_, makeJ_, eMeth_, sFld_, fldJ_, eNewX_, sSubX_, sxJ_, sxK_, decide_true, decide_false, lRev_, eRevT_, revTK_, lCallP_, obind_some, obind_none, omap_some, omap_none, List.getElem?_cons_zero, List.getElem?_cons_succ, set_0, set_s, if_true, if_false, Bool.false_eq_true, Bool.not_true, Bool.not_false, z]
      unfold putT
      rw [if_pos h]
    · have z : decide (((i : Nat) : Int) = 0) = false := decide_eq_false (by omega)
      simp only [eC_, eTy_, eVar_0, eVar_s, eBin_, binJ_, binK_, aNil_, aCons_, consJ_, fMap_, mapK_, eCall_, lCall_, aDs_, dsK_, dsOf_nil, dsOf_cons, eTup_, eVal_, eObj_, fIf_, ifK_t, ifK_f, fTest_, tstK_, fTru_, vTru_bl, vTru_int, vTru_non, vTru_lst, vTru_tup, fAnd_, andK_t, andK_f, fOr_, orK_t, orK_f, fNot_, eAnd_, eandK_t, eandK_f, eOr_, eorK_t, eorK_f, eNot_, notK_, vAdd_i, vAddI_i, vSub_i, vLt_i, vLe_i, vGt_i, vGe_i, vEq_i, vNe_i, vIsN_non, vIsN_int, vIsN_bl, vIsN_str, vIsN_tup, vIsN_lst, vIx_t, vIx_l, atI_0, atI_1, atI_2, bLen_t, bLen_l, bInt_i, bInt_b, bIsi_int, bIsi_bl, bIsi_str, bIsi_tup, bIsi_lst, bIsi_non, is_ii, is_ib, is_it, is_bi, is_bb, is_tt, is_ti, is_tb, is_st, is_si, is_ss, is_nt, is_ll, is_lt, is_tl, bTup_l, bTup_t, bBools_l, bInts_l, eMl0_, eMl1_, oRev_, sNil_, sSeq_, seqK_nx, seqK_rt, seqK_bk, seqK_ct, sIf_, sifK_t, sifK_f, sAsg_, asgK_, gN_, gsNil_, gsCons_, sRet_, sRetN_, sExpr_, sPar_, parK_, eSeq_, srcOf_t, srcOf_l, oEnum_t, oEnum_l, oZip_t, oZip_l, eCallP_, oP1, oP2, oP3, prV_v, prV_l, eCallS_, eFld_, finP_n, finP_v, finS_n, finS_r, eSlT_, slK_1, drop_1, lLc_, wipe_n, wipe_c, lcGo_n, lcGo_c, lcB_t, lcB_f, lcC_, fTrue_, forK_, foGo_n, foGo_c, foK_nx, foK_ct, foK_bk, foK_rt, lkF_0, eChain_, chJ_, chK_, chL_t, chL_f, eMake_, makeJ_, eMeth_, sFld_, fldJ_, eNewX_, sSubX_, sxJ_, sxK_, decide_true, decide_false, lRev_, eRevT_, revTK_, lCallP_, obind_some, obind_none, omap_some, omap_none, List.getElem?_cons_zero, List.getElem?_cons_succ, set_0, set_s, if_true, if_false, Bool.false_eq_true, Bool.not_true, Bool.not_false, z]
      unfold putT
      rw [if_neg h]
      rfl
  | nt a ih =>
    intro k hk
    obtain ⟨k, rfl⟩ : ∃ j, k = j + 1 := ⟨k - 1, by omega⟩
    have e := ih k (by unfold Tr.dep at hk; omega)
    show (F__law_put (T k) [some (.d (.tup [.str "not", a.d])), some (.d (.int 0)), some (.d u.d), none] []).bind finP = _
    unfold F__law_put
    simp only [eC_, eTy_, eVar_0, eVar_s, eBin_, binJ_, binK_, aNil_, aCons_, consJ_, fMap_, mapK_, eCall_, lCall_, aDs_, dsK_, dsOf_nil, dsOf_cons, eTup_, eVal_, eObj_, fIf_, ifK_t, ifK_f, fTest_, tstK_, fTru_, vTru_bl, vTru_int, vTru_non, vTru_lst, vTru_tup, fAnd_, andK_t, andK_f, fOr_, orK_t, orK_f, fNot_, eAnd_, eandK_t, eandK_f, eOr_, eorK_t, eorK_f, eNot_, notK_, vAdd_i, vAddI_i, vSub_i, vLt_i, vLe_i, vGt_i, vGe_i, vEq_i, vNe_i, vIsN_non, vIsN_int, vIsN_bl, vIsN_str, vIsN_tup, vIsN_lst, vIx_t, vIx_l, atI_0, atI_1, atI_2, bLen_t, bLen_l, bInt_i, bInt_b, bIsi_int, bIsi_bl, bIsi_str, bIsi_tup, bIsi_lst, bIsi_non, is_ii, is_ib, is_it, is_bi, is_bb, is_tt, is_ti, is_tb, is_st, is_si, is_ss, is_nt, is_ll, is_lt, is_tl, bTup_l, bTup_t, bBools_l, bInts_l, eMl0_, eMl1_, oRev_, sNil_, sSeq_, seqK_nx, seqK_rt, seqK_bk, seqK_ct, sIf_, sifK_t, sifK_f, sAsg_, asgK_, gN_, gsNil_, gsCons_, sRet_, sRetN_, sExpr_, sPar_, parK_, eSeq_, srcOf_t, srcOf_l, oEnum_t, oEnum_l, oZip_t, oZip_l, eCallP_, oP1, oP2, oP3, prV_v, prV_l, eCallS_, eFld_, finP_n, finP_v, finS_n, finS_r, eSlT_, slK_1, drop_1, lLc_, wipe_n, wipe_c, lcGo_n, lcGo_c, lcB_t, lcB_f, lcC_, fTrue_, forK_, foGo_n, foGo_c, foK_nx, foK_ct, foK_bk, foK_rt, lkF_0, eChain_, chJ_, chK_, chL_t, chL_f, eMake_, makeJ_, eMeth_, sFld_, fldJ_, eNewX_, sSubX_, sxJ_, sxK_, decide_true, decide_false, lRev_, eRevT_, revTK_, lCallP_, obind_some, obind_none, omap_some, omap_none, List.getElem?_cons_zero, List.getElem?_cons_succ, set_0, set_s, if_true, if_false, Bool.false_eq_true, Bool.not_true, Bool.not_false, lcK_ len1, e, List.length_cons, List.length_nil, Nat.zero_add, Nat.reduceAdd, if_pos one_lim, vAdd_t, if_pos two_lim]
    rfl
  | nd a b iha ihb =>
    intro k hk
    obtain ⟨k, rfl⟩ : ∃ j, k = j + 1 := ⟨k - 1, by omega⟩
    have e := iha k (by unfold Tr.dep at hk; omega)
    have e' := ihb k (by unfold Tr.dep at hk; omega)
    show (F__law_put (T k) [some (.d (.tup [.str "nand", a.d, b.d])), some (.d (.int 0)), some (.d u.d), none] []).bind finP = _
    unfold F__law_put
    simp only [eC_, eTy_, eVar_0, eVar_s, eBin_, binJ_, binK_, aNil_, aCons_, consJ_, fMap_, mapK_, eCall_, lCall_, aDs_, dsK_, dsOf_nil, dsOf_cons, eTup_, eVal_, eObj_, fIf_, ifK_t, ifK_f, fTest_, tstK_, fTru_, vTru_bl, vTru_int, vTru_non, vTru_lst, vTru_tup, fAnd_, andK_t, andK_f, fOr_, orK_t, orK_f, fNot_, eAnd_, eandK_t, eandK_f, eOr_, eorK_t, eorK_f, eNot_, notK_, vAdd_i, vAddI_i, vSub_i, vLt_i, vLe_i, vGt_i, vGe_i, vEq_i, vNe_i, vIsN_non, vIsN_int, vIsN_bl, vIsN_str, vIsN_tup, vIsN_lst, vIx_t, vIx_l, atI_0, atI_1, atI_2, bLen_t, bLen_l, bInt_i, bInt_b, bIsi_int, bIsi_bl, bIsi_str, bIsi_tup, bIsi_lst, bIsi_non, is_ii, is_ib, is_it, is_bi, is_bb, is_tt, is_ti, is_tb, is_st, is_si, is_ss, is_nt, is_ll, is_lt, is_tl, bTup_l, bTup_t, bBools_l, bInts_l, eMl0_, eMl1_, oRev_, sNil_, sSeq_, seqK_nx, seqK_rt, seqK_bk, seqK_ct, sIf_, sifK_t, sifK_f, sAsg_, asgK_, gN_, gsNil_, gsCons_, sRet_, sRetN_, sExpr_, sPar_, parK_, eSeq_, srcOf_t, srcOf_l, oEnum_t, oEnum_l, oZip_t, oZip_l, eCallP_, oP1, oP2, oP3, prV_v, prV_l, eCallS_, eFld_, finP_n, finP_v, finS_n, finS_r, eSlT_, slK_1, drop_1, lLc_, wipe_n, wipe_c, lcGo_n, lcGo_c, lcB_t, lcB_f, lcC_, fTrue_, forK_, foGo_n, foGo_c, foK_nx, foK_ct, foK_bk, foK_rt, lkF_0, eChain_, chJ_, chK_, chL_t, chL_f, eMake_, makeJ_, eMeth_, sFld_, fldJ_, eNewX_, sSubX_, sxJ_, sxK_, decide_true, decide_false, lRev_, eRevT_, revTK_, lCallP_, obind_some, obind_none, omap_some, omap_none, List.getElem?_cons_zero, List.getElem?_cons_succ, set_0, set_s, if_true, if_false, Bool.false_eq_true, Bool.not_true, Bool.not_false, lcK_ len2, e, e', List.length_cons, List.length_nil, Nat.zero_add, Nat.reduceAdd, if_pos one_lim, vAdd_t, if_pos three_lim]
    rfl
theorem leaves_ok : ∀ (t : Tr) (k : Nat), t.dep < k → (T k)._law_leaves [t.d, .int 0] = some (.v (.int t.leaves)) := by
  intro t
  induction t with
  | lf i =>
    intro k hk
    obtain ⟨k, rfl⟩ : ∃ j, k = j + 1 := ⟨k - 1, by omega⟩
    show (F__law_leaves (T k) [some (.d (.int i)), some (.d (.int 0)), none] []).bind finP = _
    unfold F__law_leaves
    by_cases h : i = 0
    · have z : decide (((i : Nat) : Int) = 0) = true := decide_eq_true (by omega)
      simp only [eC_, eTy_, eVar_0, eVar_s, eBin_, binJ_, binK_, aNil_, aCons_, consJ_, fMap_, mapK_, eCall_, lCall_, aDs_, dsK_, dsOf_nil, dsOf_cons, eTup_, eVal_, eObj_, fIf_, ifK_t, ifK_f, fTest_, tstK_, fTru_, vTru_bl, vTru_int, vTru_non, vTru_lst, vTru_tup, fAnd_, andK_t, andK_f, fOr_, orK_t, orK_f, fNot_, eAnd_, eandK_t, eandK_f, eOr_, eorK_t, eorK_f, eNot_, notK_, vAdd_i, vAddI_i, vSub_i, vLt_i, vLe_i, vGt_i, vGe_i, vEq_i, vNe_i, vIsN_non, vIsN_int, vIsN_bl, vIsN_str, vIsN_tup, vIsN_lst, vIx_t, vIx_l, atI_0, atI_1, atI_2, bLen_t, bLen_l, bInt_i, bInt_b, bIsi_int, bIsi_bl, bIsi_str, bIsi_tup, bIsi_lst, bIsi_non, is_ii, is_ib, is_it, is_bi, is_bb, is_tt, is_ti, is_tb, is_st, is_si, is_ss, is_nt, is_ll, is_lt, is_tl, bTup_l, bTup_t, bBools_l, bInts_l, eMl0_, eMl1_, oRev_, sNil_, sSeq_, seqK_nx, seqK_rt, seqK_bk, seqK_ct, sIf_, sifK_t, sifK_f, sAsg_, asgK_, gN_, gsNil_, gsCons_, sRet_, sRetN_, sExpr_, sPar_, parK_, eSeq_, srcOf_t, srcOf_l, oEnum_t, oEnum_l, oZip_t, oZip_l, eCallP_, oP1, oP2, oP3, prV_v, prV_l, eCallS_, eFld_, finP_n, finP_v, finS_n, finS_r, eSlT_, slK_1, drop_1, lLc_, wipe_n, wipe_c, lcGo_n, lcGo_c, lcB_t, lcB_f, lcC_, fTrue_, forK_, foGo_n, foGo_c, foK_nx, foK_ct, foK_bk, foK_rt, lkF_0, eChain_, chJ_, chK_, chL_t, chL_f, eMake_, makeJ_, eMeth_, sFld_, fldJ_, eNewX_, sSubX_, sxJ_, sxK_, decide_true, decide_false, lRev_, eRevT_, revTK_, lCallP_, obind_some, obind_none, omap_some, omap_none, List.getElem?_cons_zero, List.getElem?_cons_succ, set_0, set_s, if_true, if_false, Bool.false_eq_true, Bool.not_true, Bool.not_false, z]
      unfold Tr.leaves
      rw [if_pos h]
    · have z : decide (((i : Nat) : Int) = 0) = false := decide_eq_false (by omega)
      simp only [eC_, eTy_, eVar_0, eVar_s, eBin_, binJ_, binK_, aNil_, aCons_, consJ_, fMap_, mapK_, eCall_, lCall_, aDs_, dsK_, dsOf_nil, dsOf_cons, eTup_, eVal_, eObj_, fIf_, ifK_t, ifK_f, fTest_, tstK_, fTru_, vTru_bl, vTru_int, vTru_non, vTru_lst, vTru_tup, fAnd_, andK_t, andK_f, fOr_, orK_t, orK_f, fNot_, eAnd_, eandK_t, eandK_f, eOr_, eorK_t, eorK_f, eNot_, notK_, vAdd_i, vAddI_i, vSub_i, vLt_i, vLe_i, vGt_i, vGe_i, vEq_i, vNe_i, vIsN_non, vIsN_int, vIsN_bl, vIsN_str, vIsN_tup, vIsN_lst, vIx_t, vIx_l, atI_0, atI_1, atI_2, bLen_t, bLen_l, bInt_i, bInt_b, bIsi_int, bIsi_bl, bIsi_str, bIsi_tup, bIsi_lst, bIsi_non, is_ii, is_ib, is_it, is_bi, is_bb, is_tt, is_ti, is_tb, is_st, is_si, is_ss, is_nt, is_ll, is_lt, is_tl, bTup_l, bTup_t, bBools_l, bInts_l, eMl0_, eMl1_, oRev_, sNil_, sSeq_, seqK_nx, seqK_rt, seqK_bk, seqK_ct, sIf_, sifK_t, sifK_f, sAsg_, asgK_, gN_, gsNil_, gsCons_, sRet_, sRetN_, sExpr_, sPar_, parK_, eSeq_, srcOf_t, srcOf_l, oEnum_t, oEnum_l, oZip_t, oZip_l, eCallP_, oP1, oP2, oP3, prV_v, prV_l, eCallS_, eFld_, finP_n, finP_v, finS_n, finS_r, eSlT_, slK_1, drop_1, lLc_, wipe_n, wipe_c, lcGo_n, lcGo_c, lcB_t, lcB_f, lcC_, fTrue_, forK_, foGo_n, foGo_c, foK_nx, foK_ct, foK_bk, foK_rt, lkF_0, eChain_, chJ_, chK_, chL_t, chL_f, eMake_, makeJ_, eMeth_, sFld_, fldJ_, eNewX_, sSubX_, sxJ_, sxK_, decide_true, decide_false, lRev_, eRevT_, revTK_, lCallP_, obind_some, obind_none, omap_some, omap_none, List.getElem?_cons_zero, List.getElem?_cons_succ, set_0, set_s, if_true, if_false, Bool.false_eq_true, Bool.not_true, Bool.not_false, z]
      unfold Tr.leaves
      rw [if_neg h]
  | nt a ih =>
    intro k hk
    obtain ⟨k, rfl⟩ : ∃ j, k = j + 1 := ⟨k - 1, by omega⟩
    have e := ih k (by unfold Tr.dep at hk; omega)
    have n1 := bInts_l (S := []) (k := List.sum) (bs := [a.leaves])
    simp only [List.map_cons, List.map_nil, List.sum_cons, List.sum_nil, Int.add_zero] at n1
    show (F__law_leaves (T k) [some (.d (.tup [.str "not", a.d])), some (.d (.int 0)), none] []).bind finP = _
    unfold F__law_leaves
    simp only [eC_, eTy_, eVar_0, eVar_s, eBin_, binJ_, binK_, aNil_, aCons_, consJ_, fMap_, mapK_, eCall_, lCall_, aDs_, dsK_, dsOf_nil, dsOf_cons, eTup_, eVal_, eObj_, fIf_, ifK_t, ifK_f, fTest_, tstK_, fTru_, vTru_bl, vTru_int, vTru_non, vTru_lst, vTru_tup, fAnd_, andK_t, andK_f, fOr_, orK_t, orK_f, fNot_, eAnd_, eandK_t, eandK_f, eOr_, eorK_t, eorK_f, eNot_, notK_, vAdd_i, vAddI_i, vSub_i, vLt_i, vLe_i, vGt_i, vGe_i, vEq_i, vNe_i, vIsN_non, vIsN_int, vIsN_bl, vIsN_str, vIsN_tup, vIsN_lst, vIx_t, vIx_l, atI_0, atI_1, atI_2, bLen_t, bLen_l, bInt_i, bInt_b, bIsi_int, bIsi_bl, bIsi_str, bIsi_tup, bIsi_lst, bIsi_non, is_ii, is_ib, is_it, is_bi, is_bb, is_tt, is_ti, is_tb, is_st, is_si, is_ss, is_nt, is_ll, is_lt, is_tl, bTup_l, bTup_t, bBools_l, bInts_l, eMl0_, eMl1_, oRev_, sNil_, sSeq_, seqK_nx, seqK_rt, seqK_bk, seqK_ct, sIf_, sifK_t, sifK_f, sAsg_, asgK_, gN_, gsNil_, gsCons_, sRet_, sRetN_, sExpr_, sPar_, parK_, eSeq_, srcOf_t, srcOf_l, oEnum_t, oEnum_l, oZip_t, oZip_l, eCallP_, oP1, oP2, oP3, prV_v, prV_l, eCallS_, eFld_, finP_n, finP_v, finS_n, finS_r, eSlT_, slK_1, drop_1, lLc_, wipe_n, wipe_c, lcGo_n, lcGo_c, lcB_t, lcB_f, lcC_, fTrue_, forK_, foGo_n, foGo_c, foK_nx, foK_ct, foK_bk, foK_rt, lkF_0, eChain_, chJ_, chK_, chL_t, chL_f, eMake_, makeJ_, eMeth_, sFld_, fldJ_, eNewX_, sSubX_, sxJ_, sxK_, decide_true, decide_false, lRev_, eRevT_, revTK_, lCallP_, obind_some, obind_none, omap_some, omap_none, List.getElem?_cons_zero, List.getElem?_cons_succ, set_0, set_s, if_true, if_false, Bool.false_eq_true, Bool.not_true, Bool.not_false, lcK_ len1, e, n1]
    rfl
  | nd a b iha ihb =>
    intro k hk
    obtain ⟨k, rfl⟩ : ∃ j, k = j + 1 := ⟨k - 1, by omega⟩
    have e := iha k (by unfold Tr.dep at hk; omega)
    have e' := ihb k (by unfold Tr.dep at hk; omega)
    have n1 := bInts_l (S := []) (k := List.sum) (bs := [a.leaves, b.leaves])
    simp only [List.map_cons, List.map_nil, List.sum_cons, List.sum_nil, Int.add_zero] at n1
    show (F__law_leaves (T k) [some (.d (.tup [.str "nand", a.d, b.d])), some (.d (.int 0)), none] []).bind finP = _
    unfold F__law_leaves
    simp only [eC_, eTy_, eVar_0, eVar_s, eBin_, binJ_, binK_, aNil_, aCons_, consJ_, fMap_, mapK_, eCall_, lCall_, aDs_, dsK_, dsOf_nil, dsOf_cons, eTup_, eVal_, eObj_, fIf_, ifK_t, ifK_f, fTest_, tstK_, fTru_, vTru_bl, vTru_int, vTru_non, vTru_lst, vTru_tup, fAnd_, andK_t, andK_f, fOr_, orK_t, orK_f, fNot_, eAnd_, eandK_t, eandK_f, eOr_, eorK_t, eorK_f, eNot_, notK_, vAdd_i, vAddI_i, vSub_i, vLt_i, vLe_i, vGt_i, vGe_i, vEq_i, vNe_i, vIsN_non, vIsN_int, vIsN_bl, vIsN_str, vIsN_tup, vIsN_lst, vIx_t, vIx_l, atI_0, atI_1, atI_2, bLen_t, bLen_l, bInt_i, bInt_b, bIsi_int, bIsi_bl, bIsi_str, bIsi_tup, bIsi_lst, bIsi_non, is_ii, is_ib, is_it, is_bi, is_bb, is_tt, is_ti, is_tb, is_st, is_si, is_ss, is_nt, is_ll, is_lt, is_tl, bTup_l, bTup_t, bBools_l, bInts_l, eMl0_, eMl1_, oRev_, sNil_, sSeq_, seqK_nx, seqK_rt, seqK_bk, seqK_ct, sIf_, sifK_t, sifK_f, sAsg_, asgK_, gN_, gsNil_, gsCons_, sRet_, sRetN_, sExpr_, sPar_, parK_, eSeq_, srcOf_t, srcOf_l, oEnum_t, oEnum_l, oZip_t, oZip_l, eCallP_, oP1, oP2, oP3, prV_v, prV_l, eCallS_, eFld_, finP_n, finP_v, finS_n, finS_r, eSlT_, slK_1, drop_1, lLc_, wipe_n, wipe_c, lcGo_n, lcGo_c, lcB_t, lcB_f, lcC_, fTrue_, forK_, foGo_n, foGo_c, foK_nx, foK_ct, foK_bk, foK_rt, lkF_0, eChain_, chJ_, chK_, chL_t, chL_f, eMake_, makeJ_, eMeth_, sFld_, fldJ_, eNewX_, sSubX_, sxJ_, sxK_, decide_true, decide_false, lRev_, eRevT_, revTK_, lCallP_, obind_some, obind_none, omap_some, omap_none, List.getElem?_cons_zero, List.getElem?_cons_succ, set_0, set_s, if_true, if_false, Bool.false_eq_true, Bool.not_true, Bool.not_false, lcK_ len2, e, e', n1]
    rfl

/-! ### the plain law -/
theorem best_eq {L : Lib} {t : Tr} {c c' : Int} (h : Best L t c) (g : Best L t c') : c = c' := by
  have := h.2 _ g.1
  have := g.2 _ h.1
  omega
mutual
theorem Ach.mono {L L' : Lib} (h : ∀ r ∈ L, r ∈ L') : ∀ {t : Tr} {c : Int}, Ach L t c → Ach L' t c
  | _, _, .lf i => .lf i
  | _, _, .no h1 h2 h3 h4 => .no (h _ h1) h2 h3 (Achs.mono h h4)
theorem Achs.mono {L L' : Lib} (h : ∀ r ∈ L, r ∈ L') : ∀ {t : List Tr} {c : Int}, Achs L t c → Achs L' t c
  | _, _, .nil => .nil
  | _, _, .cons h1 h2 => .cons (Ach.mono h h1) (Achs.mono h h2)
end
/-- the two gates alone -/
abbrev base (a b : Int) : Lib := [(a, .nt .ho), (b, .nd .ho .ho)]
theorem base_wl {a b : Int} (ha : 0 ≤ a ∧ a ≤ 1000) (hb : 0 ≤ b ∧ b ≤ 1000) : WL (base a b) where
  len := by simp
  cost := fun r hr => by
    simp only [List.mem_cons, List.not_mem_nil, or_false] at hr
    rcases hr with rfl | rfl
    · exact ha
    · exact hb
  pat := fun r hr => by
    simp only [List.mem_cons, List.not_mem_nil, or_false] at hr
    rcases hr with rfl | rfl <;> simp [Pt.dep]
  n1 := ⟨a, by simp⟩
  n2 := ⟨b, by simp⟩
theorem M.nt_ho {t : Tr} {l : List Tr} (h : M (.nt .ho) t l) : ∃ a, t = .nt a ∧ l = [a] := by
  cases h with
  | nt h => cases h with
    | ho => exact ⟨_, rfl, rfl⟩
theorem M.nd_ho {t : Tr} {l : List Tr} (h : M (.nd .ho .ho) t l) : ∃ a b, t = .nd a b ∧ (l = [a, b] ∨ l = [b, a]) := by
  cases h with
  | nd h g => cases h with
    | ho => cases g with
      | ho => exact ⟨_, _, rfl, .inl rfl⟩
  | dn h g => cases h with
    | ho => cases g with
      | ho => exact ⟨_, _, rfl, .inr rfl⟩
theorem mul_add' (a b c : Int) : (a + b) * c = a * c + b * c := Int.add_mul a b c
theorem base_cost {a b : Int} : ∀ {t : Tr} {c : Int}, Ach (base a b) t c → c = t.nots * a + t.nands * b := by
  intro t
  induction t with
  | lf i => intro c h; rw [ach_lf h]; simp [Tr.nots, Tr.nands]
  | nt x ih =>
    intro c h
    cases h with
    | no h1 h2 h3 h4 =>
      simp only [List.mem_cons, List.not_mem_nil, or_false] at h1
      rcases h1 with rfl | rfl
      · obtain ⟨y, e, rfl⟩ := h3.nt_ho
        cases e
        cases h4 with
        | cons g1 g2 =>
          cases g2
          rw [ih g1]
          simp only [Tr.nots, Tr.nands, mul_add']
          omega
      · obtain ⟨y, z, e, _⟩ := h3.nd_ho
        cases e
  | nd x y ihx ihy =>
    intro c h
    cases h with
    | no h1 h2 h3 h4 =>
      simp only [List.mem_cons, List.not_mem_nil, or_false] at h1
      rcases h1 with rfl | rfl
      · obtain ⟨y, e, _⟩ := h3.nt_ho
        cases e
      · obtain ⟨u, v, e, hl⟩ := h3.nd_ho
        cases e
        rcases hl with rfl | rfl
        · cases h4 with
          | cons g1 g2 => cases g2 with
            | cons g2 g3 =>
              cases g3
              rw [ihx g1, ihy g2]
              simp only [Tr.nots, Tr.nands, mul_add']
              omega
        · cases h4 with
          | cons g1 g2 => cases g2 with
            | cons g2 g3 =>
              cases g3
              rw [ihy g1, ihx g2]
              simp only [Tr.nots, Tr.nands, mul_add']
              omega
/-- every price times m -/
def scl (m : Int) (L : Lib) : Lib := L.map fun r => (m * r.1, r.2)
mutual
theorem Ach.scl {L : Lib} (m : Int) : ∀ {t : Tr} {c : Int}, Ach L t c → Ach (scl m L) t (m * c)
  | _, _, .lf i => by rw [Int.mul_zero]; exact .lf i
  | _, _, .no (r := r) h1 h2 h3 h4 => by
    rw [Int.mul_add]
    exact .no (r := (m * r.1, r.2)) (List.mem_map.mpr ⟨_, h1, rfl⟩) h2 h3 (Achs.scl m h4)
theorem Achs.scl {L : Lib} (m : Int) : ∀ {t : List Tr} {c : Int}, Achs L t c → Achs (scl m L) t (m * c)
  | _, _, .nil => by rw [Int.mul_zero]; exact .nil
  | _, _, .cons h1 h2 => by rw [Int.mul_add]; exact .cons (Ach.scl m h1) (Achs.scl m h2)
end
mutual
theorem Ach.uns {L : Lib} (m : Int) : ∀ {t : Tr} {c : Int}, Ach (K61.scl m L) t c → ∃ d, c = m * d ∧ Ach L t d
  | _, _, .lf i => ⟨0, by rw [Int.mul_zero], .lf i⟩
  | _, _, .no (r := r) h1 h2 h3 h4 => by
    obtain ⟨q, hq, rfl⟩ := List.mem_map.mp h1
    obtain ⟨d, e, hd⟩ := Achs.uns m h4
    exact ⟨q.1 + d, by rw [Int.mul_add, e], .no hq h2 h3 hd⟩
theorem Achs.uns {L : Lib} (m : Int) : ∀ {t : List Tr} {c : Int}, Achs (K61.scl m L) t c → ∃ d, c = m * d ∧ Achs L t d
  | _, _, .nil => ⟨0, by rw [Int.mul_zero], .nil⟩
  | _, _, .cons h1 h2 => by
    obtain ⟨d, e, hd⟩ := Ach.uns m h1
    obtain ⟨d', e', hd'⟩ := Achs.uns m h2
    exact ⟨d + d', by rw [Int.mul_add, e, e'], .cons hd hd'⟩
end
theorem scl_best {L : Lib} {t : Tr} {m c c' : Int} (hm : 0 < m) (h : Best L t c) (g : Best (scl m L) t c') : c' = m * c := by
  have h1 := g.2 _ (h.1.scl m)
  obtain ⟨d, e, hd⟩ := g.1.uns m
  have h2 := h.2 _ hd
  have := Int.mul_le_mul_of_nonneg_left h2 (Int.le_of_lt hm)
  omega
/-- pointwise -/
inductive Tws : List Tr → List Tr → Prop
  | nil : Tws [] []
  | cons {a b : Tr} {l m : List Tr} : Tw a b → Tws l m → Tws (a :: l) (b :: m)
theorem Tws.app {a b c d : List Tr} (h : Tws a b) (g : Tws c d) : Tws (a ++ c) (b ++ d) := by
  induction h with
  | nil => exact g
  | cons h _ ih => exact .cons h ih
theorem M.tw : ∀ {p : Pt} {t u : Tr} {l : List Tr}, M p t l → Tw t u → ∃ m, M p u m ∧ Tws l m := by
  intro p t u l h
  induction h generalizing u with
  | ho t => intro g; exact ⟨[u], .ho u, .cons g .nil⟩
  | nt h ih =>
    intro g
    cases g with
    | nt g =>
      obtain ⟨m, h1, h2⟩ := ih g
      exact ⟨m, .nt h1, h2⟩
  | nd _ _ i1 i2 =>
    intro g
    cases g with
    | nd g1 g2 =>
      obtain ⟨m, h1, h2⟩ := i1 g1
      obtain ⟨m', h3, h4⟩ := i2 g2
      exact ⟨_, .nd h1 h3, h2.app h4⟩
    | sw g1 g2 =>
      obtain ⟨m, h1, h2⟩ := i1 g1
      obtain ⟨m', h3, h4⟩ := i2 g2
      exact ⟨_, .dn h1 h3, h2.app h4⟩
  | dn _ _ i1 i2 =>
    intro g
    cases g with
    | nd g1 g2 =>
      obtain ⟨m, h1, h2⟩ := i1 g2
      obtain ⟨m', h3, h4⟩ := i2 g1
      exact ⟨_, .dn h1 h3, h2.app h4⟩
    | sw g1 g2 =>
      obtain ⟨m, h1, h2⟩ := i1 g2
      obtain ⟨m', h3, h4⟩ := i2 g1
      exact ⟨_, .nd h1 h3, h2.app h4⟩
mutual
theorem Ach.tw {L : Lib} : ∀ {t u : Tr} {c : Int}, Ach L t c → Tw t u → Ach L u c
  | _, _, _, .lf i, g => by cases g; exact .lf i
  | _, _, _, .no h1 h2 h3 h4, g => by
    obtain ⟨m, e1, e2⟩ := h3.tw g
    exact .no h1 h2 e1 (Achs.tw h4 e2)
theorem Achs.tw {L : Lib} : ∀ {t u : List Tr} {c : Int}, Achs L t c → Tws t u → Achs L u c
  | _, _, _, .nil, g => by cases g; exact .nil
  | _, _, _, .cons h1 h2, g => by
    cases g with
    | cons g1 g2 => exact .cons (Ach.tw h1 g1) (Achs.tw h2 g2)
end
theorem Tw.symm {t u : Tr} (h : Tw t u) : Tw u t := by
  induction h with
  | lf i => exact .lf i
  | nt _ ih => exact .nt ih
  | nd _ _ i1 i2 => exact .nd i1 i2
  | sw _ _ i1 i2 => exact .sw i2 i1
theorem Tw.dep {t u : Tr} (h : Tw t u) : u.dep = t.dep := by
  induction h with
  | lf i => rfl
  | nt _ ih => simp only [Tr.dep, ih]
  | nd _ _ i1 i2 => simp only [Tr.dep, i1, i2]
  | sw _ _ i1 i2 => simp only [Tr.dep, i1, i2, Nat.max_comm]
theorem tw_best {L : Lib} {t u : Tr} {c c' : Int} (h : Tw t u) (g : Best L t c) (g' : Best L u c') : c' = c := by
  have h1 := g'.2 _ (g.1.tw h)
  have h2 := g.2 _ (g'.1.tw h.symm)
  omega
theorem rev_best {L : Lib} {t : Tr} {c c' : Int} (g : Best L t c) (g' : Best L.reverse t c') : c' = c := by
  have h1 := g'.2 _ (g.1.mono fun r hr => List.mem_reverse.mpr hr)
  have h2 := g.2 _ (g'.1.mono fun r hr => List.mem_reverse.mp hr)
  omega
/-! leaves put -/
def lvs (l : List Tr) : Int := (l.map Tr.leaves).sum
theorem lvs_app (a b : List Tr) : lvs (a ++ b) = lvs a + lvs b := by simp [lvs]
theorem M.put {p : Pt} {t u : Tr} {l : List Tr} (h : M p t l) : M p (putT u t) (l.map (putT u)) ∧ t.leaves = lvs l := by
  induction h with
  | ho t => exact ⟨.ho _, by simp [lvs]⟩
  | nt _ ih => exact ⟨.nt ih.1, ih.2⟩
  | nd _ _ i1 i2 =>
    rw [List.map_append, lvs_app]
    exact ⟨.nd i1.1 i2.1, by simp only [Tr.leaves]; rw [i1.2, i2.2]⟩
  | dn _ _ i1 i2 =>
    rw [List.map_append, lvs_app]
    exact ⟨.dn i1.1 i2.1, by simp only [Tr.leaves]; rw [i1.2, i2.2]; omega⟩
mutual
theorem Ach.put {L : Lib} {u : Tr} {d : Int} (hu : Ach L u d) : ∀ {t : Tr} {c : Int}, Ach L t c → Ach L (putT u t) (c + t.leaves * d)
  | _, _, .lf i => by
    unfold putT Tr.leaves
    by_cases h : i = 0
    · rw [if_pos h, if_pos h, Int.one_mul, Int.zero_add]; exact hu
    · rw [if_neg h, if_neg h, Int.zero_mul, Int.zero_add]; exact .lf i
  | _, _, .no h1 h2 h3 h4 => by
    have h5 := h3.put (u := u)
    rw [h5.2, Int.add_assoc]
    exact .no h1 h2 h5.1 (Achs.put hu h4)
theorem Achs.put {L : Lib} {u : Tr} {d : Int} (hu : Ach L u d) : ∀ {t : List Tr} {c : Int}, Achs L t c → Achs L (t.map (putT u)) (c + lvs t * d)
  | _, _, .nil => by simp only [lvs, List.map_nil, List.sum_nil, Int.zero_mul, Int.add_zero]; exact .nil
  | _, _, .cons (t := t) (l := l) (c := c) (d := e) h1 h2 => by
    have e : c + e + lvs (t :: l) * d = (c + t.leaves * d) + (e + lvs l * d) := by
      simp only [lvs, List.map_cons, List.sum_cons, mul_add']
      omega
    rw [e]
    exact .cons (Ach.put hu h1) (Achs.put hu h2)
end
theorem nots_put {u : Tr} : ∀ t : Tr, (putT u t).nots = t.nots + t.leaves * u.nots
  | .lf i => by
    unfold putT Tr.leaves
    by_cases h : i = 0
    · rw [if_pos h, if_pos h]; simp [Tr.nots]
    · rw [if_neg h, if_neg h]; simp [Tr.nots]
  | .nt a => by simp only [putT, Tr.nots, Tr.leaves, nots_put a]; omega
  | .nd a b => by simp only [putT, Tr.nots, Tr.leaves, nots_put a, nots_put b, mul_add']; omega
theorem nands_put {u : Tr} : ∀ t : Tr, (putT u t).nands = t.nands + t.leaves * u.nands
  | .lf i => by
    unfold putT Tr.leaves
    by_cases h : i = 0
    · rw [if_pos h, if_pos h]; simp [Tr.nands]
    · rw [if_neg h, if_neg h]; simp [Tr.nands]
  | .nt a => by simp only [putT, Tr.nands, Tr.leaves, nands_put a]
  | .nd a b => by simp only [putT, Tr.nands, Tr.leaves, nands_put a, nands_put b, mul_add']; omega
theorem dep_put {u : Tr} : ∀ t : Tr, (putT u t).dep ≤ t.dep + u.dep
  | .lf i => by
    unfold putT
    by_cases h : i = 0
    · rw [if_pos h]; omega
    · rw [if_neg h]; simp [Tr.dep]
  | .nt a => by have := dep_put (u := u) a; simp only [putT, Tr.dep]; omega
  | .nd a b => by
    have := dep_put (u := u) a
    have := dep_put (u := u) b
    simp only [putT, Tr.dep]; omega
theorem forms_le : ∀ t : Tr, t.forms < 2 ^ t.dep
  | .lf i => by simp [Tr.forms, Tr.dep]
  | .nt a => by
    have := forms_le a
    simp only [Tr.forms, Tr.dep, Nat.pow_succ]
    omega
  | .nd a b => by
    have h1 := forms_le a
    have h2 := forms_le b
    have h3 := Nat.pow_le_pow_right (n := 2) (by decide) (show a.dep ≤ max a.dep b.dep by omega)
    have h4 := Nat.pow_le_pow_right (n := 2) (by decide) (show b.dep ≤ max a.dep b.dep by omega)
    simp only [Tr.forms, Tr.dep, Nat.pow_succ]
    omega
theorem forms60 {t : Tr} (h : t.dep ≤ 5) : t.forms ≤ 60 := by
  have h1 := forms_le t
  have h3 := Nat.pow_le_pow_right (n := 2) (by decide) h
  have h4 : (2 : Nat) ^ 5 = 32 := by decide
  omega
theorem put_base {a b c d e : Int} {t u : Tr} (h1 : Best (base a b) t c) (h2 : Best (base a b) u d) (h3 : Best (base a b) (putT u t) e) : e = c + t.leaves * d := by
  rw [base_cost h1.1, base_cost h2.1, base_cost h3.1, nots_put, nands_put]
  simp only [mul_add', Int.mul_add, Int.mul_assoc]
  omega
end K61

namespace K61
open PySem PySem.Spec PyProof.Rows L2 Ev

/-! ### the law -/
def BodyIn (T : Tb) : Fs :=
    sSeq2 (sAsg (eBin vAdd (eVar 10) (eTup (aCons (eTup (aCons (eCallS 2 T._law_take (aCons (eVar 1) (aCons (eC (.int 9)) (aNil)))) (aCons (eCallS 2 T._law_pattern (aCons (eVar 1) (aCons (eC (.int 2)) (aNil)))) (aNil)))) (aNil)))) (gN 10))
    (sSeq2 (sAsg (eCallP 2 T.least_cover (aCons (eVar 3) (aCons (eVar 10) (aNil)))) (gTp 2 (gsCons (gN 13) (gsCons (gN 14) (gsNil)))))
    (sSeq2 (sIf (fOr (fTest (eBin vGt (eVar 13) (eVar 11))) (fOr (fTest (eBin vNe (eCallP 3 T.cover_cost (aCons (eVar 3) (aCons (eVar 10) (aCons (eVar 14) (aNil))))) (eVar 13))) (fTest (eBin vNe (eCallP 3 T.cover_cost (aCons (eVar 3) (aCons (eVar 10) (aCons (eVar 9) (aNil))))) (eVar 8))))) (sSeq2 (sRet (eC (.bl false)))
    (sNil)) (sNil))
    (sSeq2 (sAsg (eVar 13) (gN 11))
    (sNil))))
def BodyOut (T : Tb) : Fs :=
    sSeq2 (sPar 3 4 (aCons (eCallS 2 T._law_tree (aCons (eVar 1) (aCons (eC (.int 3)) (aNil)))) (aCons (eCallS 2 T._law_tree (aCons (eVar 1) (aCons (eC (.int 2)) (aNil)))) (aNil))))
    (sSeq2 (sAsg (eTup (aCons (eTup (aCons (eBin vAdd (eC (.int 1)) (eCallS 2 T._law_take (aCons (eVar 1) (aCons (eC (.int 6)) (aNil))))) (aCons (eTup (aCons (eC (.str "not")) (aCons (eC (.str "")) (aNil)))) (aNil)))) (aCons (eTup (aCons (eBin vAdd (eC (.int 1)) (eCallS 2 T._law_take (aCons (eVar 1) (aCons (eC (.int 6)) (aNil))))) (aCons (eTup (aCons (eC (.str "nand")) (aCons (eC (.str "")) (aCons (eC (.str "")) (aNil))))) (aNil)))) (aNil)))) (gN 5))
    (sSeq2 (sAsg (eCallP 1 T._law_forms (aCons (eVar 3) (aNil))) (gTp 2 (gsCons (gN 6) (gsCons (gN 7) (gsNil)))))
    (sSeq2 (sAsg (eCallP 2 T.least_cover (aCons (eVar 3) (aCons (eVar 5) (aNil)))) (gTp 2 (gsCons (gN 8) (gsCons (gN 9) (gsNil)))))
    (sSeq2 (sIf (fOr (fTest (eBin vNe (eVar 8) (eBin vAdd (eBin vMul (eVar 6) (eBin vIx (eBin vIx (eVar 5) (eC (.int 0))) (eC (.int 0)))) (eBin vMul (eVar 7) (eBin vIx (eBin vIx (eVar 5) (eC (.int 1))) (eC (.int 0))))))) (fTest (eBin vNe (eCallP 3 T.cover_cost (aCons (eVar 3) (aCons (eVar 5) (aCons (eVar 9) (aNil))))) (eVar 8)))) (sSeq2 (sRet (eC (.bl false)))
    (sNil)) (sNil))
    (sSeq2 (sPar 10 11 (aCons (eVar 5) (aCons (eVar 8) (aNil))))
    (sSeq2 (sFor (fMap (aCons (eC (.int 3)) (aNil)) oR1) (gN 12) (BodyIn T))
    (sSeq2 (sAsg (eBin vAdd (eC (.int 1)) (eCallS 2 T._law_take (aCons (eVar 1) (aCons (eC (.int 6)) (aNil))))) (gN 15))
    (sSeq2 (sIf (fTest (eBin vNe (eBin vIx (eCallP 2 T.least_cover (aCons (eVar 3) (aCons (eCall bTup (aCons (eVal (lLc (sSeq (eVar 10)) (gTp 2 (gsCons (gN 17) (gsCons (gN 18) (gsNil)))) (fTrue) (eTup (aCons (eBin vMul (eVar 15) (eVar 17)) (aCons (eVar 18) (aNil)))) [17, 18])) (aNil))) (aNil)))) (eC (.int 0))) (eBin vMul (eVar 15) (eVar 11)))) (sSeq2 (sRet (eC (.bl false)))
    (sNil)) (sNil))
    (sSeq2 (sIf (fOr (fTest (eBin vNe (eBin vIx (eCallP 2 T.least_cover (aCons (eCallS 2 T._law_turned (aCons (eVar 1) (aCons (eVar 3) (aNil)))) (aCons (eVar 10) (aNil)))) (eC (.int 0))) (eVar 11))) (fTest (eBin vNe (eBin vIx (eCallP 2 T.least_cover (aCons (eVar 3) (aCons (eRevT (eVar 10)) (aNil)))) (eC (.int 0))) (eVar 11)))) (sSeq2 (sRet (eC (.bl false)))
    (sNil)) (sNil))
    (sSeq2 (sAsg (eCallP 3 T._law_put (aCons (eVar 3) (aCons (eC (.int 0)) (aCons (eVar 4) (aNil))))) (gN 16))
    (sSeq2 (sIf (fTest (eBin vGt (eBin vIx (eCallP 2 T.least_cover (aCons (eVar 16) (aCons (eVar 10) (aNil)))) (eC (.int 0))) (eBin vAdd (eVar 11) (eBin vMul (eCallP 2 T._law_leaves (aCons (eVar 3) (aCons (eC (.int 0)) (aNil)))) (eBin vIx (eCallP 2 T.least_cover (aCons (eVar 4) (aCons (eVar 10) (aNil)))) (eC (.int 0))))))) (sSeq2 (sRet (eC (.bl false)))
    (sNil)) (sNil))
    (sSeq2 (sIf (fTest (eBin vNe (eBin vIx (eCallP 2 T.least_cover (aCons (eVar 16) (aCons (eVar 5) (aNil)))) (eC (.int 0))) (eBin vAdd (eVar 8) (eBin vMul (eCallP 2 T._law_leaves (aCons (eVar 3) (aCons (eC (.int 0)) (aNil)))) (eBin vIx (eCallP 2 T.least_cover (aCons (eVar 4) (aCons (eVar 5) (aNil)))) (eC (.int 0))))))) (sSeq2 (sRet (eC (.bl false)))
    (sNil)) (sNil))
    (sSeq2 (sIf (fOr (fTest (eBin vGt (eBin vIx (eCallP 2 T.least_cover (aCons (eTup (aCons (eC (.str "not")) (aCons (eVar 3) (aNil)))) (aCons (eVar 10) (aNil)))) (eC (.int 0))) (eBin vAdd (eVar 11) (eBin vIx (eBin vIx (eVar 5) (eC (.int 0))) (eC (.int 0)))))) (fTest (eBin vGt (eBin vIx (eCallP 2 T.least_cover (aCons (eTup (aCons (eC (.str "nand")) (aCons (eVar 3) (aCons (eVar 4) (aNil))))) (aCons (eVar 10) (aNil)))) (eC (.int 0))) (eBin vAdd (eBin vAdd (eVar 11) (eBin vIx (eCallP 2 T.least_cover (aCons (eVar 4) (aCons (eVar 10) (aNil)))) (eC (.int 0)))) (eBin vIx (eBin vIx (eVar 5) (eC (.int 1))) (eC (.int 0))))))) (sSeq2 (sRet (eC (.bl false)))
    (sNil)) (sNil))
    (sNil))))))))))))))
theorem F_law_eq (T : Tb) : F_law T =
    sSeq2 (sAsg (eObj (lCallP 2 T._law_draws (aCons (eVar 0) (aCons (eC (.int 500)) (aNil))))) (gN 1))
    (sSeq2 (sFor (fMap (aCons (eC (.int 4)) (aNil)) oR1) (gN 2) (BodyOut T))
    (sSeq2 (sRet (eC (.bl true)))
    (sNil))) := rfl
theorem vAdd_lib {L : Lib} {r : Int × Pt} {S : Sto} (h : L.length + 1 ≤ Lim) : vAdd (.d (libD L)) (.d (.tup [.tup [.int r.1, r.2.d]])) S = some (.d (libD (L ++ [r]))) := by
  unfold libD
  rw [vAdd_t, List.length_map, List.length_cons, List.length_nil, Nat.zero_add, if_pos h, List.map_append]
  rfl
theorem ix0_res {c : Int} {w : D} {S : Sto} : vIx (.d (resD c w)) (.d (.int 0)) S = some (.d (.int c)) := by
  unfold resD
  rw [vIx_t, atI_0]
  rfl
theorem gTp2r {gs : List D → Env' → Option Env'} {c : Int} {w : D} {ρ : Env'} : gTp 2 gs (.d (resD c w)) ρ = gs [.int c, w] ρ := (rfl)
theorem WL.add {L : Lib} (h : WL L) (hl : L.length ≤ 10) {r : Int × Pt} (hr : 0 ≤ r.1 ∧ r.1 ≤ 1000) (hp : r.2 ≠ .ho ∧ r.2.dep ≤ 2) : WL (L ++ [r]) where
  len := by rw [List.length_append, List.length_singleton]; omega
  cost := fun x hx => (List.mem_append.mp hx).elim (h.cost x) fun z => by rw [List.mem_singleton.mp z]; exact hr
  pat := fun x hx => (List.mem_append.mp hx).elim (h.pat x) fun z => by rw [List.mem_singleton.mp z]; exact hp
  n1 := let ⟨c, hc⟩ := h.n1; ⟨c, List.mem_append_left _ hc⟩
  n2 := let ⟨c, hc⟩ := h.n2; ⟨c, List.mem_append_left _ hc⟩
/-- what stands while the library grows -/
structure Grow (a b : Int) (tree : Tr) (cost : Int) (cover : D) (L : Lib) (before : Int) : Prop where
  wl : WL L
  len : L.length ≤ 10
  low : ∀ r ∈ L, r.1 ≤ 8
  pre : ∃ E, L = base a b ++ E
  best : Best L tree before
theorem in_step {a b : Int} {tree : Tr} {cost before : Int} {cover : D} {L : Lib} {is : List Int} {x0 x2 x4 x5 x6 x7 x13 x14 x15 x16 x17 x18 : Option RV} {j : D} (g : Grow a b tree cost cover L before) (hl : L.length ≤ 9) (hd : tree.dep ≤ 3) (hc : Cvr (base a b) tree cover cost) (hb : Best (base a b) tree cost) :
    ∃ L' before' y13 y14 js, BodyIn (T 100) [x0, some (.o 0), x2, some (.d tree.d), x4, x5, x6, x7, some (.d (.int cost)), some (.d cover), some (.d (libD L)), some (.d (.int before)), some (.d j), x13, x14, x15, x16, x17, x18] (So is) =
      some (.nx, [x0, some (.o 0), x2, some (.d tree.d), x4, x5, x6, x7, some (.d (.int cost)), some (.d cover), some (.d (libD L')), some (.d (.int before')), some (.d j), y13, y14, x15, x16, x17, x18], So js) ∧ Grow a b tree cost cover L' before' ∧ L'.length = L.length + 1 := by
  obtain ⟨v, js, t1, t2, t3⟩ := take1 (k := 99) is (lim := 9) (by decide)
  obtain ⟨p, ks, p1, p2, p3⟩ := patt_ok 2 100 js (by decide) (by decide)
  have p1' : (T 100)._law_pattern [.o 0, .d (.int 2)] (So js) = some (.d p.d, So ks) := p1
  have hp := p3 rfl
  have wl' : WL (L ++ [(v, p)]) := g.wl.add g.len ⟨t2, by show v ≤ 1000; omega⟩ ⟨hp, p2⟩
  obtain ⟨now, told, l1, l2, l3⟩ := least_ok (k := 99) wl' (t := tree) (by omega) (forms60 (by omega)) (by omega)
  have l1' : (T 100).least_cover [tree.d, libD (L ++ [(v, p)])] = some (.v (resD now told)) := l1
  have s1 := Cvr.shp 8 (by omega) l3
  obtain ⟨o1, c1, c2⟩ := cover_ok (k := 99) wl' (t := tree) (v := told) (e := 8) (by omega) (forms60 (by omega)) s1 (by decide) (by omega)
  have c1' : (T 100).cover_cost [tree.d, libD (L ++ [(v, p)]), told] = some (.v (oD o1)) := c1
  have ho1 : o1 = some now := by
    obtain ⟨c', e1, e2⟩ := c2.2 _ l3
    have := l2.2 _ (c2.1 _ e1).ach
    rw [e1]
    congr 1
    omega
  subst ho1
  obtain ⟨E, hE⟩ := g.pre
  have hE' : L ++ [(v, p)] = base a b ++ (E ++ [(v, p)]) := by rw [hE, List.append_assoc]
  have s2 := Cvr.shp 8 (by omega) hc
  have s3 : shp (L ++ [(v, p)]).length 8 cover = true := by
    have := Cvr.shp 8 (by omega) (hc.more (E := E ++ [(v, p)]))
    rw [hE']
    exact this
  obtain ⟨o2, d1, d2⟩ := cover_ok (k := 99) wl' (t := tree) (v := cover) (e := 8) (by omega) (forms60 (by omega)) s3 (by decide) (by omega)
  have d1' : (T 100).cover_cost [tree.d, libD (L ++ [(v, p)]), cover] = some (.v (oD o2)) := d1
  have ho2 : o2 = some cost := by
    have hm := hc.more (E := E ++ [(v, p)])
    rw [← hE'] at hm
    obtain ⟨c', e1, e2⟩ := d2.2 _ hm
    have h3 := d2.1 _ e1
    rw [hE'] at h3
    have := hb.2 _ (Cvr.less ⟨8, s2⟩ h3).ach
    rw [e1]
    congr 1
    omega
  subst ho2
  have hle : now ≤ before := l2.2 _ (g.best.1.mono fun r hr => List.mem_append_left _ hr)
  have z1 : decide (before < now) = false := decide_eq_false (by omega)
  have hlim : L.length + 1 ≤ Lim := by unfold Lim; omega
  have e9 := vAdd_lib (L := L) (r := (v, p)) (S := So ks) hlim
  have t1' : (T 100)._law_take [.o 0, .d (.int 9)] (So is) = some (.d (.int v), So js) := t1
  refine ⟨L ++ [(v, p)], now, some (.d (.int now)), some (.d told), ks, ?_, ⟨wl', by rw [List.length_append, List.length_singleton]; omega, fun r hr => ?_, ⟨_, hE'⟩, l2⟩, by rw [List.length_append, List.length_singleton]⟩
  · unfold BodyIn
    simp only [eC_, eTy_, eVar_0, eVar_s, eBin_, binJ_, binK_, aNil_, aCons_, consJ_, fMap_, mapK_, eCall_, lCall_, aDs_, dsK_, dsOf_nil, dsOf_cons, eTup_, eVal_, eObj_, fIf_, ifK_t, ifK_f, fTest_, tstK_, fTru_, vTru_bl, vTru_int, vTru_non, vTru_lst, vTru_tup, fAnd_, andK_t, andK_f, fOr_, orK_t, orK_f, fNot_, eAnd_, eandK_t, eandK_f, eOr_, eorK_t, eorK_f, eNot_, notK_, vAdd_i, vAddI_i, vSub_i, vLt_i, vLe_i, vGt_i, vGe_i, vEq_i, vNe_i, vIsN_non, vIsN_int, vIsN_bl, vIsN_str, vIsN_tup, vIsN_lst, vIx_t, vIx_l, atI_0, atI_1, atI_2, bLen_t, bLen_l, bInt_i, bInt_b, bIsi_int, bIsi_bl, bIsi_str, bIsi_tup, bIsi_lst, bIsi_non, is_ii, is_ib, is_it, is_bi, is_bb, is_tt, is_ti, is_tb, is_st, is_si, is_ss, is_nt, is_ll, is_lt, is_tl, bTup_l, bTup_t, bBools_l, bInts_l, eMl0_, eMl1_, oRev_, sNil_, sSeq_, seqK_nx, seqK_rt, seqK_bk, seqK_ct, sIf_, sifK_t, sifK_f, sAsg_, asgK_, gN_, gsNil_, gsCons_, sRet_, sRetN_, sExpr_, sPar_, parK_, eSeq_, srcOf_t, srcOf_l, oEnum_t, oEnum_l, oZip_t, oZip_l, eCallP_, oP1, oP2, oP3, prV_v, prV_l, eCallS_, eFld_, finP_n, finP_v, finS_n, finS_r, eSlT_, slK_1, drop_1, lLc_, wipe_n, wipe_c, lcGo_n, lcGo_c, lcB_t, lcB_f, lcC_, fTrue_, forK_, foGo_n, foGo_c, foK_nx, foK_ct, foK_bk, foK_rt, lkF_0, eChain_, chJ_, chK_, chL_t, chL_f, eMake_, makeJ_, eMeth_, sFld_, fldJ_, eNewX_, sSubX_, sxJ_, sxK_, decide_true, decide_false, lRev_, eRevT_, revTK_, lCallP_, obind_some, obind_none, omap_some, omap_none, List.getElem?_cons_zero, List.getElem?_cons_succ, set_0, set_s, if_true, if_false, Bool.false_eq_true, Bool.not_true, Bool.not_false, callSK_ (n := 2) (rs := [.o 0, .d (.int 9)]) rfl, t1', callSK_ (n := 2) (rs := [.o 0, .d (.int 2)]) rfl, p1', List.length_cons, List.length_nil, Nat.zero_add, Nat.reduceAdd, if_pos two_lim, if_pos one_lim, e9, l1', gTp2r, z1, c1', d1', oD]
  · rcases List.mem_append.mp hr with h | h
    · exact g.low r h
    · rw [List.mem_singleton.mp h]; show v ≤ 8; omega
theorem in_loop {a b : Int} {tree : Tr} {cost : Int} {cover : D} {is : List Int} {x0 x2 x4 x5 x6 x7 x12 x13 x14 x15 x16 x17 x18 : Option RV} (g : Grow a b tree cost cover (base a b) cost) (hd : tree.dep ≤ 3) (hc : Cvr (base a b) tree cover cost) (hb : Best (base a b) tree cost) :
    ∃ L before y12 y13 y14 js, foGo ⟨rng 0 3, none⟩ (gN 12) (BodyIn (T 100)) (rng 0 3) [x0, some (.o 0), x2, some (.d tree.d), x4, x5, x6, x7, some (.d (.int cost)), some (.d cover), some (.d (libD (base a b))), some (.d (.int cost)), x12, x13, x14, x15, x16, x17, x18] (So is) =
      some (.nx, [x0, some (.o 0), x2, some (.d tree.d), x4, x5, x6, x7, some (.d (.int cost)), some (.d cover), some (.d (libD L)), some (.d (.int before)), y12, y13, y14, x15, x16, x17, x18], So js) ∧ Grow a b tree cost cover L before := by
  have key := foGo_inv (s := ⟨rng 0 3, none⟩) (gg := gN 12) (F := BodyIn (T 100)) (fun i ρ S => ∃ L before y12 y13 y14 js, ρ = [x0, some (.o 0), x2, some (.d tree.d), x4, x5, x6, x7, some (.d (.int cost)), some (.d cover), some (.d (libD L)), some (.d (.int before)), y12, y13, y14, x15, x16, x17, x18] ∧ S = So js ∧ Grow a b tree cost cover L before ∧ L.length = 2 + i)
    (fun _ _ _ _ => rfl) (fun i ρ S d hd' p => ?_) 3 0 _ (So is) rfl ⟨base a b, cost, x12, x13, x14, is, rfl, rfl, g, rfl⟩
  · obtain ⟨ρ', S', h1, L, before, y12, y13, y14, js, rfl, rfl, h2, _⟩ := key
    rw [List.drop_zero] at h1
    exact ⟨L, before, y12, y13, y14, js, h1, h2⟩
  · obtain ⟨L, before, y12, y13, y14, js, rfl, rfl, h2, h3⟩ := p
    have hi : i < 3 := by
      have := (List.getElem?_eq_some_iff.mp hd').1
      rwa [rng_len] at this
    obtain ⟨L', before', z13, z14, ks, e1, e2, e3⟩ := in_step (x0 := x0) (x2 := x2) (x4 := x4) (x5 := x5) (x6 := x6) (x7 := x7) (x13 := y13) (x14 := y14) (x15 := x15) (x16 := x16) (x17 := x17) (x18 := x18) (is := js) (j := d) h2 (by omega) hd hc hb
    exact ⟨_, .nx, _, _, rfl, e1, .inl rfl, L', before', _, _, _, _, rfl, rfl, e2, by omega⟩
theorem least100 {L : Lib} (hL : WL L) {t : Tr} (h : t.dep ≤ 5) : ∃ c w, (T 100).least_cover [t.d, libD L] = some (.v (resD c w)) ∧ Best L t c ∧ Cvr L t w c := least_ok (k := 99) hL (by omega) (forms60 h) (by omega)
theorem cover100 {L : Lib} (hL : WL L) {t : Tr} {c : Int} {w : D} (h : t.dep ≤ 5) (hb : Best L t c) (hc : Cvr L t w c) : (T 100).cover_cost [t.d, libD L, w] = some (.v (.int c)) := by
  obtain ⟨o, e1, e2⟩ := cover_ok (k := 99) hL (t := t) (v := w) (e := 8) (by omega) (forms60 h) (Cvr.shp 8 (by omega) hc) (by decide) (by omega)
  obtain ⟨c', e3, e4⟩ := e2.2 _ hc
  have := hb.2 _ (e2.1 _ e3).ach
  have e1' : (T 100).cover_cost [t.d, libD L, w] = some (.v (oD o)) := e1
  rw [e1', e3]
  show some (PR.v (.int c')) = _
  congr 3
  omega
theorem scl_wl {L : Lib} (h : WL L) (hl : ∀ r ∈ L, r.1 ≤ 8) {m : Int} (h1 : 1 ≤ m) (h6 : m ≤ 6) : WL (scl m L) where
  len := by unfold scl; rw [List.length_map]; exact h.len
  cost := fun r hr => by
    obtain ⟨q, hq, rfl⟩ := List.mem_map.mp hr
    have g1 := (h.cost q hq).1
    have g2 := hl q hq
    show 0 ≤ m * q.1 ∧ m * q.1 ≤ 1000
    have a1 := Int.mul_nonneg (show 0 ≤ m by omega) g1
    have a2 := Int.mul_le_mul h6 g2 g1 (show (0 : Int) ≤ 6 by decide)
    omega
  pat := fun r hr => by
    obtain ⟨q, hq, rfl⟩ := List.mem_map.mp hr
    exact h.pat q hq
  n1 := let ⟨c, hc⟩ := h.n1; ⟨m * c, List.mem_map.mpr ⟨_, hc, rfl⟩⟩
  n2 := let ⟨c, hc⟩ := h.n2; ⟨m * c, List.mem_map.mpr ⟨_, hc, rfl⟩⟩
theorem rev_wl {L : Lib} (h : WL L) : WL L.reverse where
  len := by rw [List.length_reverse]; exact h.len
  cost := fun r hr => h.cost r (List.mem_reverse.mp hr)
  pat := fun r hr => h.pat r (List.mem_reverse.mp hr)
  n1 := let ⟨c, hc⟩ := h.n1; ⟨c, List.mem_reverse.mpr hc⟩
  n2 := let ⟨c, hc⟩ := h.n2; ⟨c, List.mem_reverse.mpr hc⟩
theorem pMul_l {i j : Int} (h : -(2 ^ 64) < i) (h2 : i < 2 ^ 64) : pMul i j = true := by
  unfold pMul
  rw [decide_eq_true h, decide_eq_true h2]
  simp
theorem leaves_le : ∀ t : Tr, 0 ≤ t.leaves ∧ t.leaves ≤ ((2 ^ t.dep : Nat) : Int)
  | .lf i => by
    unfold Tr.leaves
    by_cases h : i = 0
    · rw [if_pos h]; simp [Tr.dep]
    · rw [if_neg h]; simp [Tr.dep]
  | .nt a => by
    have := leaves_le a
    simp only [Tr.leaves, Tr.dep, Nat.pow_succ]
    omega
  | .nd a b => by
    have h1 := leaves_le a
    have h2 := leaves_le b
    have h3 := Nat.pow_le_pow_right (n := 2) (by decide) (show a.dep ≤ max a.dep b.dep by omega)
    have h4 := Nat.pow_le_pow_right (n := 2) (by decide) (show b.dep ≤ max a.dep b.dep by omega)
    simp only [Tr.leaves, Tr.dep, Nat.pow_succ]
    omega
theorem oR1_3 {S : Sto} : oR1 [.d (.int 3)] S = some ⟨rng 0 3, none⟩ := oR1_ (by decide)
theorem oR1_4 {S : Sto} : oR1 [.d (.int 4)] S = some ⟨rng 0 4, none⟩ := oR1_ (by decide)
theorem src_lib {L : Lib} {S : Sto} : srcOf (.d (libD L)) S = some ⟨L.map rowD, none⟩ := (rfl)
theorem rev_lib {L : Lib} {S : Sto} : revTK (.d (libD L), S) = some (.d (libD L.reverse), S) := by
  unfold libD
  rw [revTK_, List.map_reverse]
theorem scl_lc {L : Lib} {m : Int} {S : Sto} {a0 a1 a2 a3 a4 a5 a6 a7 a8 a9 a10 a11 a12 a13 a14 a16 : Option RV} (hm : -(2 ^ 64) < m ∧ m < 2 ^ 64) : lcGo ⟨L.map rowD, none⟩ (gTp 2 (gsCons (gN 17) (gsCons (gN 18) (gsNil)))) (fTrue) (eTup (aCons (eBin vMul (eVar 15) (eVar 17)) (aCons (eVar 18) (aNil))))
    [a0, a1, a2, a3, a4, a5, a6, a7, a8, a9, a10, a11, a12, a13, a14, some (.d (.int m)), a16, none, none] (L.map rowD) S = some ((scl m L).map rowD, S) := by
  have e : (scl m L).map rowD = L.map fun r => rowD (m * r.1, r.2) := by unfold scl; rw [List.map_map]; rfl
  rw [e]
  refine lcGo_mapE rowD (fun r => rowD (m * r.1, r.2)) fun r _ => ⟨[a0, a1, a2, a3, a4, a5, a6, a7, a8, a9, a10, a11, a12, a13, a14, some (.d (.int m)), a16, some (.d (.int r.1)), some (.d r.2.d)], rfl, rfl, ?_⟩
  simp only [eC_, eTy_, eVar_0, eVar_s, eBin_, binJ_, binK_, aNil_, aCons_, consJ_, fMap_, mapK_, eCall_, lCall_, aDs_, dsK_, dsOf_nil, dsOf_cons, eTup_, eVal_, eObj_, fIf_, ifK_t, ifK_f, fTest_, tstK_, fTru_, vTru_bl, vTru_int, vTru_non, vTru_lst, vTru_tup, fAnd_, andK_t, andK_f, fOr_, orK_t, orK_f, fNot_, eAnd_, eandK_t, eandK_f, eOr_, eorK_t, eorK_f, eNot_, notK_, vAdd_i, vAddI_i, vSub_i, vLt_i, vLe_i, vGt_i, vGe_i, vEq_i, vNe_i, vIsN_non, vIsN_int, vIsN_bl, vIsN_str, vIsN_tup, vIsN_lst, vIx_t, vIx_l, atI_0, atI_1, atI_2, bLen_t, bLen_l, bInt_i, bInt_b, bIsi_int, bIsi_bl, bIsi_str, bIsi_tup, bIsi_lst, bIsi_non, is_ii, is_ib, is_it, is_bi, is_bb, is_tt, is_ti, is_tb, is_st, is_si, is_ss, is_nt, is_ll, is_lt, is_tl, bTup_l, bTup_t, bBools_l, bInts_l, eMl0_, eMl1_, oRev_, sNil_, sSeq_, seqK_nx, seqK_rt, seqK_bk, seqK_ct, sIf_, sifK_t, sifK_f, sAsg_, asgK_, gN_, gsNil_, gsCons_, sRet_, sRetN_, sExpr_, sPar_, parK_, eSeq_, srcOf_t, srcOf_l, oEnum_t, oEnum_l, oZip_t, oZip_l, eCallP_, oP1, oP2, oP3, prV_v, prV_l, eCallS_, eFld_, finP_n, finP_v, finS_n, finS_r, eSlT_, slK_1, drop_1, lLc_, wipe_n, wipe_c, lcGo_n, lcGo_c, lcB_t, lcB_f, lcC_, fTrue_, forK_, foGo_n, foGo_c, foK_nx, foK_ct, foK_bk, foK_rt, lkF_0, eChain_, chJ_, chK_, chL_t, chL_f, eMake_, makeJ_, eMeth_, sFld_, fldJ_, eNewX_, sSubX_, sxJ_, sxK_, decide_true, decide_false, lRev_, eRevT_, revTK_, lCallP_, obind_some, obind_none, omap_some, omap_none, List.getElem?_cons_zero, List.getElem?_cons_succ, set_0, set_s, if_true, if_false, Bool.false_eq_true, Bool.not_true, Bool.not_false, vMul_i (pMul_l (j := r.1) hm.1 hm.2), List.length_cons, List.length_nil, Nat.zero_add, Nat.reduceAdd, if_pos two_lim]
  rfl
theorem fold_lib {L : Lib} : D.tup (L.map rowD) = libD L := (rfl)
theorem out_step {is : List Int} {x0 : Option RV} {j : D} {x3 x4 x5 x6 x7 x8 x9 x10 x11 x12 x13 x14 x15 x16 x17 x18 : Option RV} :
    ∃ y3 y4 y5 y6 y7 y8 y9 y10 y11 y12 y13 y14 y15 y16 js, BodyOut (T 100) [x0, some (.o 0), some (.d j), x3, x4, x5, x6, x7, x8, x9, x10, x11, x12, x13, x14, x15, x16, x17, x18] (So is) =
      some (.nx, [x0, some (.o 0), some (.d j), y3, y4, y5, y6, y7, y8, y9, y10, y11, y12, y13, y14, y15, y16, x17, x18], So js) := by
  obtain ⟨tree, i1, t1, td⟩ := tree_ok 3 100 is (by decide)
  have t1' : (T 100)._law_tree [.o 0, .d (.int 3)] (So is) = some (.d tree.d, So i1) := t1
  obtain ⟨inner, i2, t2, ti⟩ := tree_ok 2 100 i1 (by decide)
  have t2' : (T 100)._law_tree [.o 0, .d (.int 2)] (So i1) = some (.d inner.d, So i2) := t2
  obtain ⟨v, i3, t3, v1, v2⟩ := take1 (k := 99) i2 (lim := 6) (by decide)
  have t3' : (T 100)._law_take [.o 0, .d (.int 6)] (So i2) = some (.d (.int v), So i3) := t3
  obtain ⟨u, i4, t4, u1, u2⟩ := take1 (k := 99) i3 (lim := 6) (by decide)
  have t4' : (T 100)._law_take [.o 0, .d (.int 6)] (So i3) = some (.d (.int u), So i4) := t4
  have bw : WL (base (1 + v) (1 + u)) := base_wl (by omega) (by omega)
  have eb : D.tup [.tup [.int (1 + v), .tup [.str "not", .str ""]], .tup [.int (1 + u), .tup [.str "nand", .str "", .str ""]]] = libD (base (1 + v) (1 + u)) := rfl
  have f1 : (T 100)._law_forms [tree.d] = _ := forms2_ok tree 100 (by omega)
  obtain ⟨cost, cover, l1, l2, l3⟩ := least100 bw (t := tree) (by omega)
  have cc := base_cost l2.1
  have c1 := cover100 bw (by omega) l2 l3
  have b00 : ∀ S, vIx (.d (libD (base (1 + v) (1 + u)))) (.d (.int 0)) S = some (.d (.tup [.int (1 + v), .tup [.str "not", .str ""]])) := fun S => rfl
  have b10 : ∀ S, vIx (.d (libD (base (1 + v) (1 + u)))) (.d (.int 1)) S = some (.d (.tup [.int (1 + u), .tup [.str "nand", .str "", .str ""]])) := fun S => rfl
  have m1 : pMul tree.nots (1 + v) = true := pMul_r (by omega) (by omega)
  have m2 : pMul tree.nands (1 + u) = true := pMul_r (by omega) (by omega)
  have z1 : decide (cost = tree.nots * (1 + v) + tree.nands * (1 + u)) = true := decide_eq_true cc
  have g0 : Grow (1 + v) (1 + u) tree cost cover (base (1 + v) (1 + u)) cost := ⟨bw, by simp, fun r hr => by
    simp only [List.mem_cons, List.not_mem_nil, or_false] at hr
    rcases hr with rfl | rfl
    · show 1 + v ≤ 8; omega
    · show 1 + u ≤ 8; omega, ⟨[], by simp⟩, l2⟩
  obtain ⟨L, before, y12, y13, y14, i5, n1, g⟩ := in_loop (is := i4) (x0 := x0) (x2 := some (.d j)) (x4 := some (.d inner.d)) (x5 := some (.d (libD (base (1 + v) (1 + u))))) (x6 := some (.d (.int tree.nots))) (x7 := some (.d (.int tree.nands))) (x12 := x12) (x13 := x13) (x14 := x14) (x15 := x15) (x16 := x16) (x17 := x17) (x18 := x18) g0 td l3 l2
  obtain ⟨w, i6, t5, w1, w2⟩ := take1 (k := 99) i5 (lim := 6) (by decide)
  have t5' : (T 100)._law_take [.o 0, .d (.int 6)] (So i5) = some (.d (.int w), So i6) := t5
  -- scaled
  have sw := scl_wl g.wl g.low (m := 1 + w) (by omega) (by omega)
  obtain ⟨d1, w3, l4, l5, _⟩ := least100 sw (t := tree) (by omega)
  have e1 := scl_best (by omega) g.best l5
  -- turned
  obtain ⟨tt, i7, r1, r2⟩ := turn_ok tree 100 i6 (by omega)
  obtain ⟨d2, w4, l6, l7, _⟩ := least100 g.wl (t := tt) (by rw [r2.dep]; omega)
  have e2 := tw_best r2 g.best l7
  obtain ⟨d3, w5, l8, l9, _⟩ := least100 (rev_wl g.wl) (t := tree) (by omega)
  have e3 := rev_best g.best l9
  -- put
  have hw : (putT inner tree).dep ≤ 5 := by have := dep_put (u := inner) tree; omega
  have p1 : (T 100)._law_put [tree.d, .int 0, inner.d] = _ := put_ok (u := inner) tree 100 (by omega)
  have p2 : (T 100)._law_leaves [tree.d, .int 0] = _ := leaves_ok tree 100 (by omega)
  obtain ⟨d4, w6, l10, l11, _⟩ := least100 g.wl hw
  obtain ⟨d5, w7, l12, l13, _⟩ := least100 g.wl (t := inner) (by omega)
  have e4 : d4 ≤ before + tree.leaves * d5 := l11.2 _ (Ach.put l13.1 g.best.1)
  obtain ⟨d6, w8, l14, l15, _⟩ := least100 bw hw
  obtain ⟨d7, w9, l16, l17, _⟩ := least100 bw (t := inner) (by omega)
  have e5 := put_base l2 l17 l15
  -- one gate more
  obtain ⟨E, hE⟩ := g.pre
  have in0 : ((1 + v, Pt.nt .ho) : Int × Pt) ∈ L := by rw [hE]; simp
  have in1 : ((1 + u, Pt.nd .ho .ho) : Int × Pt) ∈ L := by rw [hE]; simp
  obtain ⟨d8, w10, l18, l19, _⟩ := least100 g.wl (t := .nt tree) (by simp only [Tr.dep]; omega)
  have e6 : d8 ≤ before + (1 + v) := by
    have := l19.2 _ (Ach.no in0 (by simp) (.nt (.ho tree)) (.cons g.best.1 .nil))
    simp only at this
    omega
  obtain ⟨d9, w11, l20, l21, _⟩ := least100 g.wl (t := .nd tree inner) (by simp only [Tr.dep]; omega)
  have e7 : d9 ≤ before + d5 + (1 + u) := by
    have := l21.2 _ (Ach.no in1 (by simp) (.nd (.ho tree) (.ho inner)) (.cons g.best.1 (.cons l13.1 .nil)))
    simp only [List.append_nil] at this
    omega
  have lv := leaves_le tree
  have lv8 := Nat.pow_le_pow_right (n := 2) (by decide) td
  have lv9 : (2 : Nat) ^ 3 = 8 := by decide
  have m3 : pMul (1 + w) before = true := pMul_l (by omega) (by omega)
  have m4 : pMul tree.leaves d5 = true := pMul_l (by omega) (by omega)
  have m5 : pMul tree.leaves d7 = true := pMul_l (by omega) (by omega)
  have z2 : decide (d1 = (1 + w) * before) = true := decide_eq_true e1
  have z3 : decide (d2 = before) = true := decide_eq_true e2
  have z4 : decide (d3 = before) = true := decide_eq_true e3
  have z5 : decide (before + tree.leaves * d5 < d4) = false := decide_eq_false (by omega)
  have z6 : decide (d6 = cost + tree.leaves * d7) = true := decide_eq_true e5
  have z7 : decide (before + (1 + v) < d8) = false := decide_eq_false (by omega)
  have z8 : decide (before + d5 + (1 + u) < d9) = false := decide_eq_false (by omega)
  have l18' : (T 100).least_cover [.tup [.str "not", tree.d], libD L] = some (.v (resD d8 w10)) := l18
  have l20' : (T 100).least_cover [.tup [.str "nand", tree.d, inner.d], libD L] = some (.v (resD d9 w11)) := l20
  have hlen : (L.map rowD).length ≤ Lim := by rw [List.length_map]; have := g.len; unfold Lim; omega
  refine ⟨some (.d tree.d), some (.d inner.d), some (.d (libD (base (1 + v) (1 + u)))), some (.d (.int tree.nots)), some (.d (.int tree.nands)), some (.d (.int cost)), some (.d cover), some (.d (libD L)), some (.d (.int before)), y12, y13, y14, some (.d (.int (1 + w))), some (.d (putT inner tree).d), i7, ?_⟩
  unfold BodyOut
  simp only [eC_, eTy_, eVar_0, eVar_s, eBin_, binJ_, binK_, aNil_, aCons_, consJ_, fMap_, mapK_, eCall_, lCall_, aDs_, dsK_, dsOf_nil, dsOf_cons, eTup_, eVal_, eObj_, fIf_, ifK_t, ifK_f, fTest_, tstK_, fTru_, vTru_bl, vTru_int, vTru_non, vTru_lst, vTru_tup, fAnd_, andK_t, andK_f, fOr_, orK_t, orK_f, fNot_, eAnd_, eandK_t, eandK_f, eOr_, eorK_t, eorK_f, eNot_, notK_, vAdd_i, vAddI_i, vSub_i, vLt_i, vLe_i, vGt_i, vGe_i, vEq_i, vNe_i, vIsN_non, vIsN_int, vIsN_bl, vIsN_str, vIsN_tup, vIsN_lst, vIx_t, vIx_l, atI_0, atI_1, atI_2, bLen_t, bLen_l, bInt_i, bInt_b, bIsi_int, bIsi_bl, bIsi_str, bIsi_tup, bIsi_lst, bIsi_non, is_ii, is_ib, is_it, is_bi, is_bb, is_tt, is_ti, is_tb, is_st, is_si, is_ss, is_nt, is_ll, is_lt, is_tl, bTup_l, bTup_t, bBools_l, bInts_l, eMl0_, eMl1_, oRev_, sNil_, sSeq_, seqK_nx, seqK_rt, seqK_bk, seqK_ct, sIf_, sifK_t, sifK_f, sAsg_, asgK_, gN_, gsNil_, gsCons_, sRet_, sRetN_, sExpr_, sPar_, parK_, eSeq_, srcOf_t, srcOf_l, oEnum_t, oEnum_l, oZip_t, oZip_l, eCallP_, oP1, oP2, oP3, prV_v, prV_l, eCallS_, eFld_, finP_n, finP_v, finS_n, finS_r, eSlT_, slK_1, drop_1, lLc_, wipe_n, wipe_c, lcGo_n, lcGo_c, lcB_t, lcB_f, lcC_, fTrue_, forK_, foGo_n, foGo_c, foK_nx, foK_ct, foK_bk, foK_rt, lkF_0, eChain_, chJ_, chK_, chL_t, chL_f, eMake_, makeJ_, eMeth_, sFld_, fldJ_, eNewX_, sSubX_, sxJ_, sxK_, decide_true, decide_false, lRev_, eRevT_, revTK_, lCallP_, obind_some, obind_none, omap_some, omap_none, List.getElem?_cons_zero, List.getElem?_cons_succ, set_0, set_s, if_true, if_false, Bool.false_eq_true, Bool.not_true, Bool.not_false, callSK_ (n := 2) (rs := [.o 0, .d (.int 3)]) rfl, callSK_ (n := 2) (rs := [.o 0, .d (.int 2)]) rfl, callSK_ (n := 2) (rs := [.o 0, .d (.int 6)]) rfl, callSK_ (n := 2) (rs := [.o 0, .d tree.d]) rfl, t1', t2', t3', t4', List.length_cons, List.length_nil, Nat.zero_add, Nat.reduceAdd, if_pos two_lim, if_pos three_lim, eb, f1, gTp2, l1, gTp2r, b00, b10, vMul_i m1, vMul_i m2, z1, c1, oR1_3, sFor_, n1, t5', src_lib, lcK_ hlen, scl_lc ⟨show -(2 ^ 64) < 1 + w by omega, show 1 + w < 2 ^ 64 by omega⟩, fold_lib, l4, ix0_res, vMul_i m3, z2, r1, l6, z3, rev_lib, l8, z4, p1, l10, p2, l12, vMul_i m4, z5, l14, l16, vMul_i m5, z6, l18', l20', z7, z8]
theorem draws100 {ns : List Int} (h : ns.length ≤ 63) : ∃ is : List Int, (T 100)._law_draws [.lst (dInts ns), .int 500] = some (.l (dInts is)) := draws_ok h
theorem plain (ns : List Int) (h : ns.length ≤ 63) : (T 101).law [.lst (ns.map D.int)] = some (.v (.bl true)) := by
  obtain ⟨is, e1⟩ := draws100 h
  have key := foGo_inv (s := ⟨rng 0 4, none⟩) (gg := gN 2) (F := BodyOut (T 100)) (fun i ρ S => ∃ x2 x3 x4 x5 x6 x7 x8 x9 x10 x11 x12 x13 x14 x15 x16 x17 x18 js, ρ = [some (.d (.lst (dInts ns))), some (.o 0), x2, x3, x4, x5, x6, x7, x8, x9, x10, x11, x12, x13, x14, x15, x16, x17, x18] ∧ S = So js)
    (fun _ _ _ _ => rfl) (fun i ρ S d hd' p => ?_) 4 0 [some (.d (.lst (dInts ns))), some (.o 0), none, none, none, none, none, none, none, none, none, none, none, none, none, none, none, none, none] (So is) rfl ⟨none, none, none, none, none, none, none, none, none, none, none, none, none, none, none, none, none, is, rfl, rfl⟩
  · obtain ⟨ρ', S', h1, x2, x3, x4, x5, x6, x7, x8, x9, x10, x11, x12, x13, x14, x15, x16, x17, x18, js, rfl, rfl⟩ := key
    rw [List.drop_zero] at h1
    have e2 : callLK 2 (T 100)._law_draws ([.d (.lst (dInts ns)), .d (.int 500)], []) = some (dInts is, []) := callLK_ e1
    show (F_law (T 100) [some (.d (.lst (dInts ns))), none, none, none, none, none, none, none, none, none, none, none, none, none, none, none, none, none, none] []).bind finP = _
    rw [F_law_eq]
    have h1' : foGo ⟨rng 0 4, none⟩ (gN 2) (BodyOut (T 100)) (rng 0 4) [some (.d (.lst (dInts ns))), some (.o 0), none, none, none, none, none, none, none, none, none, none, none, none, none, none, none, none, none] [.lst (dInts is)] = _ := h1
    simp only [eC_, eTy_, eVar_0, eVar_s, eBin_, binJ_, binK_, aNil_, aCons_, consJ_, fMap_, mapK_, eCall_, lCall_, aDs_, dsK_, dsOf_nil, dsOf_cons, eTup_, eVal_, eObj_, fIf_, ifK_t, ifK_f, fTest_, tstK_, fTru_, vTru_bl, vTru_int, vTru_non, vTru_lst, vTru_tup, fAnd_, andK_t, andK_f, fOr_, orK_t, orK_f, fNot_, eAnd_, eandK_t, eandK_f, eOr_, eorK_t, eorK_f, eNot_, notK_, vAdd_i, vAddI_i, vSub_i, vLt_i, vLe_i, vGt_i, vGe_i, vEq_i, vNe_i, vIsN_non, vIsN_int, vIsN_bl, vIsN_str, vIsN_tup, vIsN_lst, vIx_t, vIx_l, atI_0, atI_1, atI_2, bLen_t, bLen_l, bInt_i, bInt_b, bIsi_int, bIsi_bl, bIsi_str, bIsi_tup, bIsi_lst, bIsi_non, is_ii, is_ib, is_it, is_bi, is_bb, is_tt, is_ti, is_tb, is_st, is_si, is_ss, is_nt, is_ll, is_lt, is_tl, bTup_l, bTup_t, bBools_l, bInts_l, eMl0_, eMl1_, oRev_, sNil_, sSeq_, seqK_nx, seqK_rt, seqK_bk, seqK_ct, sIf_, sifK_t, sifK_f, sAsg_, asgK_, gN_, gsNil_, gsCons_, sRet_, sRetN_, sExpr_, sPar_, parK_, eSeq_, srcOf_t, srcOf_l, oEnum_t, oEnum_l, oZip_t, oZip_l, eCallP_, oP1, oP2, oP3, prV_v, prV_l, eCallS_, eFld_, finP_n, finP_v, finS_n, finS_r, eSlT_, slK_1, drop_1, lLc_, wipe_n, wipe_c, lcGo_n, lcGo_c, lcB_t, lcB_f, lcC_, fTrue_, forK_, foGo_n, foGo_c, foK_nx, foK_ct, foK_bk, foK_rt, lkF_0, eChain_, chJ_, chK_, chL_t, chL_f, eMake_, makeJ_, eMeth_, sFld_, fldJ_, eNewX_, sSubX_, sxJ_, sxK_, decide_true, decide_false, lRev_, eRevT_, revTK_, lCallP_, obind_some, obind_none, omap_some, omap_none, List.getElem?_cons_zero, List.getElem?_cons_succ, set_0, set_s, if_true, if_false, Bool.false_eq_true, Bool.not_true, Bool.not_false, e2, List.length_nil, List.nil_append, oR1_4, sFor_, h1']
  · obtain ⟨x2, x3, x4, x5, x6, x7, x8, x9, x10, x11, x12, x13, x14, x15, x16, x17, x18, js, rfl, rfl⟩ := p
    obtain ⟨y3, y4, y5, y6, y7, y8, y9, y10, y11, y12, y13, y14, y15, y16, ks, e⟩ := out_step (is := js) (x0 := some (.d (.lst (dInts ns)))) (j := d) (x3 := x3) (x4 := x4) (x5 := x5) (x6 := x6) (x7 := x7) (x8 := x8) (x9 := x9) (x10 := x10) (x11 := x11) (x12 := x12) (x13 := x13) (x14 := x14) (x15 := x15) (x16 := x16) (x17 := x17) (x18 := x18)
    exact ⟨_, .nx, _, _, rfl, e, .inl rfl, _, _, _, _, _, _, _, _, _, _, _, _, _, _, _, _, _, _, rfl, rfl⟩
end K61

open PySem PySem.W PySem.Calls PyProof.Rows
theorem PySem.Challenge.cw_gateworks_k61_whole_costs_of_covers_holds : PySem.Challenge.rw_gateworks_k61_whole_costs_of_covers.Holds := by
  w_on; o_law
  refine HandSHeadRun.head_any (r := OpenLaw.row PySem.Challenge.rw_gateworks_k61_whole_costs_of_covers) (q := view (OpenLaw.row PySem.Challenge.rw_gateworks_k61_whole_costs_of_covers).prog [27]) (H := K61.hk) (ob := K61.ob) (M := 2000) (loose := K61.loose) (d := HandSHeadRun.topDef (OpenLaw.row PySem.Challenge.rw_gateworks_k61_whole_costs_of_covers).prog 27) (kwd := []) K61.ob_eq
    (by kernel_rfl) (fun s => by kernel_rfl) K61.run (by kernel_rfl) (by kernel_rfl) (by kernel_rfl) (by rfl) (by first | assumption | decide +kernel) (by decide +kernel) ⟨rfl, rfl, rfl, rfl, rfl, by decide +kernel⟩ ?hw ?hc
  case hw => w_witness2
  case hc =>
    refine L2.walk_ofE (l := PySem.Challenge.rw_gateworks_k61_whole_costs_of_covers) (n := 63) (k := 202) (x := "script") (CX := L2.CX0) rfl (by decide) (by kernel_rfl) ⟨rfl, by decide, by decide⟩ ?F (fun _ _ _ _ z => z)
    intro w mg fa h Y G hmg0
    obtain ⟨K, KX, c⟩ := Y
    have hmg : mg ("law" : PySem.Str) = some (.ref fa) := by
      have e : (HandSHeadRun.topDef (OpenLaw.row PySem.Challenge.rw_gateworks_k61_whole_costs_of_covers).prog 27).name = ("law" : PySem.Str) := by kernel_rfl
      rw [← e]
      exact hmg0
    obtain ⟨fd, hb, hF⟩ := K61.facts (w := w) KX G hmg c.t.d c.more
    exact ⟨K, fd, _, KX, hb, fun H a ns hl _ hS => K61.law_in hS (K61.plain ns hl) rfl, hF⟩
