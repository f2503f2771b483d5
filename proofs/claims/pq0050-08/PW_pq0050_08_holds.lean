import PyProof.Rows.All
import Wide.All
import OpenK.AllK
import Wide.FinOn
import PyProof.P3Eq
import PyProof.P3In
import PyProof.RulesDelMore
import PyProof.RulesAssignMore
import PyProof.LetGo
import PyProof.DictDisplay
import PyProof.CompMap
import PyProof.CompFree
import PyProof.EnumMake
import PyProof.EnumStmt
import PyProof.ForAny
import PyProof.CompUse
import PyProof.Raises
import PyProof.RulesDel
import PyProof.AssignAttr
import PyProof.Dict
import PyProof.IsRules
import PyProof.ListOps
import PyProof.DelItemList
import PyProof.NeData
import PyProof.TupleOps
import PyProof.TupleOfSeq
import PyProof.TupleCall
import PyProof.WalksMore
import PyProof.StrWalks
import PyProof.ListRange
import PyProof.ListCopy
import PyProof.RangeFor
import PyProof.DictRoads
import PyProof.DictRoadsH
import PyProof.MeetsDictList
import KE.KDictLaws
import PyProof.Rows.SortWalk
import PyProof.Rows.SumAny
import PyProof.Rows.RuleN_abs
import PyProof.CallStr
import PyProof.StrCalls3
import PyProof.StrBlock
import PyProof.Rows.SetFrom
import PyProof.SetRoads
import KE.KDictSum
import PyProof.Rows.RuleC_bool
import Lean
import PySem.Challenge.RW_pq0050_08
open PySem PySem.W PySem.Calls PyProof.Rows
set_option Elab.async false
set_option maxRecDepth 100000
set_option maxHeartbeats 8000000
open_top hd08 for PySem.Challenge.rw_pq0050_08
set_option maxHeartbeats 200000
namespace Mine

-- Cx1
set_option Elab.async false

inductive AV where
  | none | bool (b : Bool) | int (i : Int) | str (s : String) | tup (l : List AV) | ref (a : Addr) | raw (v : Value) | slice (l h st : AV) | range (lo hi : Int)

/-- a tuple, just as it was made -/
def IsTx (h : Heap) (a : Addr) (items : Array Value) : Prop := ∃ n, h.get? a = some { cls := .type "tuple", dict := none, data := .seq items n, slots := #[] }
theorem IsTx.tup {h : Heap} {a : Addr} {items : Array Value} : IsTx h a items → IsTup h a items
  | ⟨n, e⟩ => ⟨_, e, rfl, n, rfl⟩
mutual
inductive RV (h : Heap) : Value → AV → Prop
  | none : RV h .none .none
  | bool (b : Bool) : RV h (.bool b) (.bool b)
  | int (i : Int) (t : Tok) : RV h (.int i t) (.int i)
  | str (x : String) (y : Str) (t : Tok) (e : y = Str.ofString x) : RV h (.str y t) (.str x)
  | tup (a : Addr) (items : Array Value) (l : List AV) : IsTx h a items → RVs h items.toList l → RV h (.ref a) (.tup l)
  | ref (a : Addr) : RV h (.ref a) (.ref a)
  | raw (v : Value) : RV h v (.raw v)
  | slice (a : Addr) (lv hv sv : Value) (l u st : AV) : h.get? a = some { cls := .type "slice", data := .fields #[lv, hv, sv] } → RV h lv l → RV h hv u → RV h sv st → RV h (.ref a) (.slice l u st)
  | range (a : Addr) (lo hi : Int) (t u v : Tok) : h.get? a = some { cls := .type "range", data := .fields #[.int lo t, .int hi u, .int 1 v] } → RV h (.ref a) (.range lo hi)
inductive RVs (h : Heap) : List Value → List AV → Prop
  | nil : RVs h [] []
  | cons {v : Value} {a : AV} {vs : List Value} {l : List AV} : RV h v a → RVs h vs l → RVs h (v :: vs) (a :: l)
end

/-- what is never changed: tuples, slices, ranges -/
def Lasting (o : Obj) : Prop := (o.cls = .type "tuple" ∧ ∃ items n, o.data = .seq items n) ∨ ((o.cls = .type "slice" ∨ o.cls = .type "range") ∧ ∃ vs, o.data = .fields vs)
def Grow (h h' : Heap) : Prop := ∀ a o, h.get? a = some o → Lasting o → h'.get? a = some o
theorem Grow.tup {h h' : Heap} (g : Grow h h') {a : Addr} {items : Array Value} : IsTx h a items → IsTx h' a items
  | ⟨n, e⟩ => ⟨n, g a _ e (.inl ⟨rfl, items, n, rfl⟩)⟩
theorem Grow.refl (h : Heap) : Grow h h := fun _ _ x _ => x
theorem Grow.trans {h₁ h₂ h₃ : Heap} (x : Grow h₁ h₂) (y : Grow h₂ h₃) : Grow h₁ h₃ := fun a i t l => y a i (x a i t l) l

mutual
theorem RV.grow {h h' : Heap} (g : Grow h h') : ∀ {v : Value} {a : AV}, RV h v a → RV h' v a
  | _, _, .none => .none
  | _, _, .bool b => .bool b
  | _, _, .int i t => .int i t
  | _, _, .str x y t e => .str x y t e
  | _, _, .tup a items l t r => .tup a items l (g.tup t) (RVs.grow g r)
  | _, _, .ref a => .ref a
  | _, _, .raw v => .raw v
  | _, _, .slice a lv hv sv l u st e x y z => .slice a lv hv sv l u st (g _ _ e (.inr ⟨.inl rfl, _, rfl⟩)) (RV.grow g x) (RV.grow g y) (RV.grow g z)
  | _, _, .range a lo hi t u v e => .range a lo hi t u v (g _ _ e (.inr ⟨.inr rfl, _, rfl⟩))
theorem RVs.grow {h h' : Heap} (g : Grow h h') : ∀ {vs : List Value} {l : List AV}, RVs h vs l → RVs h' vs l
  | _, _, .nil => .nil
  | _, _, .cons x r => .cons (RV.grow g x) (RVs.grow g r)
end

def ORV (h : Heap) : Option Value → Option AV → Prop
  | .none, .none => True
  | some v, some a => RV h v a
  | _, _ => False
theorem ORV.grow {h h' : Heap} (g : Grow h h') : ∀ {v : Option Value} {a : Option AV}, ORV h v a → ORV h' v a
  | .none, .none, _ => trivial
  | some _, some _, x => RV.grow g x

theorem RVs.length {h : Heap} : ∀ {vs : List Value} {l : List AV}, RVs h vs l → vs.length = l.length
  | _, _, .nil => rfl
  | _, _, .cons _ r => by simp [r.length]
theorem RVs.get {h : Heap} : ∀ {vs : List Value} {l : List AV}, RVs h vs l → ∀ (i : Nat), ORV h (vs[i]?) (l[i]?)
  | _, _, .nil, i => by simp [ORV]
  | _, _, .cons x r, 0 => x
  | _, _, .cons x r, i + 1 => by simpa using r.get i
theorem RVs.append {h : Heap} : ∀ {vs : List Value} {l : List AV} {vs' l'}, RVs h vs l → RVs h vs' l' → RVs h (vs ++ vs') (l ++ l')
  | _, _, _, _, .nil, y => y
  | _, _, _, _, .cons x r, y => .cons x (r.append y)
theorem RVs.set {h : Heap} : ∀ {vs : List Value} {l : List AV}, RVs h vs l → ∀ (i : Nat) {v a}, RV h v a → RVs h (vs.set i v) (l.set i a)
  | _, _, .nil, i, _, _, _ => by simpa using RVs.nil
  | _, _, .cons x r, 0, _, _, y => .cons y r
  | _, _, .cons x r, i + 1, _, _, y => .cons x (r.set i y)
theorem RVs.take {h : Heap} : ∀ {vs : List Value} {l : List AV}, RVs h vs l → ∀ (i : Nat), RVs h (vs.take i) (l.take i)
  | _, _, .nil, i => by simpa using RVs.nil
  | _, _, .cons x r, 0 => .nil
  | _, _, .cons x r, i + 1 => .cons x (r.take i)
theorem RVs.drop {h : Heap} : ∀ {vs : List Value} {l : List AV}, RVs h vs l → ∀ (i : Nat), RVs h (vs.drop i) (l.drop i)
  | _, _, .nil, i => by simpa using RVs.nil
  | _, _, .cons x r, 0 => .cons x r
  | _, _, .cons x r, i + 1 => by simpa using r.drop i
theorem RVs.reverse {h : Heap} : ∀ {vs : List Value} {l : List AV}, RVs h vs l → RVs h vs.reverse l.reverse
  | _, _, .nil => .nil
  | _, _, .cons x r => by simpa using r.reverse.append (.cons x .nil)

/-- the places of a set's elements rise -/
def Ris (xs : Array Nat) : Prop := xs.toList.Pairwise (· < ·)
def intOf : Value → Int
  | .int k _ => k
  | _ => 0
/-- a set of ints, as its elements are stored -/
def SetG (prog : Program) (w : World) (h : Heap) (a : Addr) (l : List Int) : Prop :=
  ∃ o es ep t, h.get? a = some o ∧ o.ExactSet ∧ o.data = .set es ep t ∧ ElemsOf (intKind prog w) es.toList ∧ es.toList.map (fun e => intOf e.2) = l ∧ l.Nodup ∧ l.length < scanBound ∧ t.fits es.size = true ∧ Ris t.place ∧
    (w.params.followText "set-order" = false → t.led = true)

inductive Cell where
  | list (l : List AV)
  | dictI (es : List (Int × AV))
  | dictS (es : List (String × AV))
  | dictT (es : List (List AV × AV))
  | setI (l : List Int)
  | inst (C d : Addr)
  | ns (f : List (String × AV))

/-- a dict that bears attributes -/
inductive NsEs (h : Heap) : List DictEntry → List (String × AV) → Prop
  | nil : NsEs h [] []
  | cons {hs : Int} {t : Tok} {x : String} {v : Value} {av : AV} {es : List DictEntry} {f : List (String × AV)} : RV h v av → NsEs h es f → NsEs h (⟨hs, .str (Str.ofString x) t, v⟩ :: es) ((x, av) :: f)
theorem NsEs.grow {h h' : Heap} (g : Grow h h') {es f} (x : NsEs h es f) : NsEs h' es f := by
  induction x with
  | nil => exact .nil
  | cons r _ ih => exact .cons (r.grow g) ih
def NsOf (h : Heap) (o : Obj) (f : List (String × AV)) : Prop :=
  ∃ es n, o = { cls := .type "dict", data := .dict (es : List DictEntry).toArray n } ∧ NsEs h es f ∧ f.length ≤ 100

variable (prog : Program) (w : World)

def RVk {K : Type} (h : Heap) (kvs : List (K × Value)) (es : List (K × AV)) : Prop := kvs.map (·.1) = es.map (·.1) ∧ RVs h (kvs.map (·.2)) (es.map (·.2))

def RVs' (h : Heap) (kvs : List (Str × Value)) (es : List (String × AV)) : Prop := kvs.map (·.1) = es.map (fun x => Str.ofString x.1) ∧ RVs h (kvs.map (·.2)) (es.map (·.2))

theorem ofString_inj {x y : String} (h : Str.ofString x = Str.ofString y) : x = y := by
  rw [Str.ofString_eq_toList, Str.ofString_eq_toList] at h
  have h1 : x.toList.map Char.toNat = y.toList.map Char.toNat := congrArg (fun z : Str => z.cps.toList) h
  have h2 : x.toList = y.toList := by
    refine List.map_inj_right (fun a b e => ?_) |>.mp h1
    exact Char.toNat_inj.mp e
  exact String.toList_inj.mp h2

-- Cx2
set_option Elab.async false
set_option linter.unusedSimpArgs false
set_option linter.unusedVariables false
open Sem (wp)

/-! keys: ints, strs and tuples of keys -/
mutual
inductive Keyed : AV → Prop
  | int (i : Int) : Keyed (.int i)
  | str (x : String) : Keyed (.str x)
  | tup {l : List AV} : Keyeds l → Keyed (.tup l)
inductive Keyeds : List AV → Prop
  | nil : Keyeds []
  | cons {a : AV} {l : List AV} : Keyed a → Keyeds l → Keyeds (a :: l)
end
mutual
def deep : AV → Nat
  | .tup l => deeps l + 1
  | _ => 0
def deeps : List AV → Nat
  | [] => 0
  | a :: l => max (deep a) (deeps l)
end
mutual
def draws : AV → Nat
  | .tup l => drawss l + 1
  | _ => 1
def drawss : List AV → Nat
  | [] => 0
  | a :: l => draws a + drawss l
end
mutual
def hashAV (w : World) : AV → Int
  | .int i => hashInt i
  | .str x => hashStr w (Str.ofString x)
  | .tup l => reduceHash (Builtin.Tuple.tupleHashOf (hashAVs w l))
  | _ => 0
def hashAVs (w : World) : List AV → List Int
  | [] => []
  | a :: l => hashAV w a :: hashAVs w l
end

mutual
theorem RV.inj {h : Heap} : ∀ {a b : AV} {v : Value}, Keyed a → Keyed b → RV h v a → RV h v b → a = b
  | _, _, _, .int _, .int _, x, y => by cases x; cases y; rfl
  | _, _, _, .str a, .str b, x, y => by
    cases x with | str _ _ t e => ?_
    cases y with | str _ _ u e' => ?_
    rw [ofString_inj (e.symm.trans e')]
  | _, _, _, .int _, .str _, x, y => by cases x; cases y
  | _, _, _, .str _, .int _, x, y => by cases x; cases y
  | _, _, _, .int _, .tup _, x, y => by cases x; cases y
  | _, _, _, .tup _, .int _, x, y => by cases x; cases y
  | _, _, _, .str _, .tup _, x, y => by cases x; cases y
  | _, _, _, .tup _, .str _, x, y => by cases x; cases y
  | _, _, _, .tup k, .tup k', x, y => by
    cases x with | tup a items l t r => ?_
    cases y with | tup _ items' l' t' r' => ?_
    replace t := t.tup
    replace t' := t'.tup
    obtain ⟨o, ho, hc, n, hd⟩ := t
    obtain ⟨o', ho', hc', n', hd'⟩ := t'
    obtain rfl : o = o' := Option.some.inj (ho.symm.trans ho')
    rw [hd] at hd'
    injection hd' with h1 _
    subst h1
    rw [RVs.inj k k' r r']
theorem RVs.inj {h : Heap} : ∀ {l m : List AV} {vs : List Value}, Keyeds l → Keyeds m → RVs h vs l → RVs h vs m → l = m
  | _, _, _, .nil, .nil, _, _ => rfl
  | _, _, _, .nil, .cons _ _, x, y => by cases x; cases y
  | _, _, _, .cons _ _, .nil, x, y => by cases x; cases y
  | _, _, _, .cons k ks, .cons k' ks', .cons x r, .cons x' r' => by rw [RV.inj k k' x x', RVs.inj ks ks' r r']
end

section
variable {prog : Program} {w : World} {A : Around} {E : Value → Shared → Prop}

theorem pyHash_avn : ∀ (n : Nat) {a : AV} {v : Value} {A : Around} {E : Value → Shared → Prop} {s : Shared} {Q : Int → Shared → Prop}, Keyed a → RV s.heap v a → deep a ≤ n → A.units + deep a < cLine → Q (hashAV w a) { s with toks := s.toks + draws a } →
    wpAny (model prog w) A (pyHash v) Q E s
  | _, _, _, A, E, s, Q, .int _, .int _ _, _, _, h => wpAny_pyHash_int h
  | _, _, _, A, E, s, Q, .str _, .str _ _ _ rfl, _, _, h => wpAny_pyHash_str h
  | 0, _, _, A, E, s, Q, .tup (l := l) k, x, hn, hu, h => by simp [deep] at hn
  | n + 1, _, _, A, E, s, Q, .tup (l := l) k, x, hn, hu, h => by
    simp only [deep] at hn
    cases x with | tup a items _ t r => ?_
    replace t := t.tup
    have hT : s.TypeIs (.ref a) "tuple" := by obtain ⟨o, ho, hc, _⟩ := t; exact ⟨o, ho, hc⟩
    obtain ⟨o, ho, hc, _, hd⟩ := t
    have hu0 : A.units < cLine := by omega
    have hu1 : A.units + 1 + deeps l < cLine := by simp only [deep] at hu; omega
    unfold pyHash
    unfold pyHashByItsType
    refine wpAny_bind (wpAny_cRoomFor_or (.inr hu0) ?_)
    refine wpAny_bind (wpAny_specialOf hT F.slot_tuple_hash.lookup ?_)
    show wpAny _ _ (if (some (Value.builtin "tuple.__hash__") == some Value.none) = true then _ else _) Q E s
    rw [if_neg (by rw [beq_builtin_none]; exact Bool.false_ne_true)]
    refine wpAny_bind (wpAny_specialOf hT F.slot_tuple_hash.lookup ?_)
    show wpAny _ _ (callSpecialIfBoundUnlessNone? (.ref a) "__hash__" _ >>= _) Q E s
    refine wpAny_bind (wpAny_callSpecialIfBoundUnlessNone?_slot hT F.slot_tuple_hash (wpAny_call_entry F.slot_tuple_hash hT F.entry_tuple_hash ?_ (F.args_tuple_hash_1 _)))
    show wpAny _ _ (Builtin.Tuple.tupleItemsOf (.ref a) >>= _) _ _ s
    refine wpAny_bind (wpAny_tupleItemsOf ho hd ?_)
    refine wpAny_bind ?_
    rw [← Array.forIn_toList]
    refine wpAny_forIn_list _
      (fun rest (b : Array Int) s' => ∃ left k0, RVs s.heap rest left ∧ Keyeds left ∧ deeps left ≤ deeps l ∧ b.toList ++ hashAVs w left = hashAVs w l ∧ k0 + drawss left = drawss l ∧ s' = { s with toks := s.toks + k0 })
      _ ?_ ?_ _ _ ⟨l, 0, r, k, Nat.le_refl _, rfl, by omega, rfl⟩
    · rintro x rest b s' ⟨left, k0, hl, hk, hdp, hb, ht, rfl⟩
      cases hl with
      | @cons v a' vs l' x1 r1 =>
        cases hk with
        | cons kx kr =>
          simp only [deeps] at hdp
          refine wpAny_bind (pyHash_avn n kx x1 (by omega) (by show A.units + 1 + deep a' < cLine; omega) ?_)
          refine wpAny_pure ⟨l', k0 + draws a', r1, kr, by omega, ?_, ?_, ?_⟩
          · rw [← hb]; simp [hashAVs]
          · rw [← ht]; simp [drawss]; omega
          · simp [Nat.add_assoc]
    · rintro b s' ⟨left, k0, hl, hk, hdp, hb, ht, rfl⟩
      cases hl
      simp only [hashAVs, List.append_nil] at hb
      simp only [drawss, Nat.add_zero] at ht
      show wpAny _ _ (retInt (Builtin.Tuple.tupleHashOf b.toList)) _ _ _
      rw [hb]
      refine wpAny_ret_mkInt ?_
      show wpAny _ _ (if (decide (-(2 : Int) ^ 63 ≤ Builtin.Tuple.tupleHashOf (hashAVs w l)) && decide (Builtin.Tuple.tupleHashOf (hashAVs w l) < 2 ^ 63)) = true then _ else _) Q E _
      simp only [hashAV, draws] at h
      unfold reduceHash at h
      rw [ht]
      by_cases hr : (decide (-(2 : Int) ^ 63 ≤ Builtin.Tuple.tupleHashOf (hashAVs w l)) && decide (Builtin.Tuple.tupleHashOf (hashAVs w l) < 2 ^ 63)) = true
      · rw [if_pos hr]
        rw [if_pos hr] at h
        exact wpAny_pure (by simpa [Nat.add_assoc] using h)
      · rw [if_neg hr]
        rw [if_neg hr] at h
        exact wpAny_bind (wpAny_rule (wpAny_pure (by simpa [Nat.add_assoc] using h)))

theorem pyHash_av {a : AV} {v : Value} {A : Around} {E : Value → Shared → Prop} {s : Shared} {Q : Int → Shared → Prop} (k : Keyed a) (x : RV s.heap v a) (hu : A.units + deep a < cLine) (h : Q (hashAV w a) { s with toks := s.toks + draws a }) :
    wpAny (model prog w) A (pyHash v) Q E s := pyHash_avn _ k x (Nat.le_refl _) hu h

theorem quiet_av : ∀ (n : Nat) {a : AV} {v : Value} {A : Around} {E : Value → Shared → Prop} {s : Shared} {Q : Bool → Shared → Prop}, Keyed a → RV s.heap v a → deep a ≤ n → Q true s →
    wpAny (model prog w) A (eqIsQuiet n v) Q E s
  | n, _, _, A, E, s, Q, .int _, .int _ _, _, h => by rw [eqIsQuiet_byValue n rfl]; exact wpAny_pure h
  | n, _, _, A, E, s, Q, .str _, .str _ _ _ rfl, _, h => by rw [eqIsQuiet_byValue n rfl]; exact wpAny_pure h
  | 0, _, _, A, E, s, Q, .tup k, x, hn, h => by simp [deep] at hn
  | n + 1, _, _, A, E, s, Q, .tup (l := l) k, x, hn, h => by
    cases x with | tup a items _ t r => ?_
    replace t := t.tup
    have hT : s.TypeIs (.ref a) "tuple" := by obtain ⟨o, ho, hc, _⟩ := t; exact ⟨o, ho, hc⟩
    obtain ⟨o, ho, hc, m, hd⟩ := t
    unfold eqIsQuiet
    refine wpAny_bind (wpAny_specialOf hT F.slot_tuple_eq.lookup ?_)
    show wpAny _ _ (isInstance (.ref a) (.type "tuple") >>= _) _ _ s
    refine wpAny_bind (wpAny_isInstance hT isSubtype_tuple_tuple ?_)
    simp only [Bool.not_true, Bool.false_eq_true, if_false]
    refine wpAny_bind (wpAny_seqItems ho hd ?_)
    refine wpAny_bind ?_
    show wpAny _ _ (forIn items _ _) _ _ s
    rw [← Array.forIn_toList]
    simp only [deep] at hn
    refine wpAny_forIn_list _ (fun rest r s' => r.1 = none ∧ s' = s ∧ ∃ left, RVs s.heap rest left ∧ Keyeds left ∧ deeps left ≤ n) _ ?_ ?_ _ _ ⟨rfl, rfl, l, r, k, by omega⟩
    · rintro v rest r s' ⟨hr, rfl, left, hl, hk, hdp⟩
      cases hl with
      | cons x1 r1 =>
        cases hk with
        | cons kx kr =>
          simp only [deeps] at hdp
          refine wpAny_bind (quiet_av n kx x1 (by omega) ?_)
          simp only [Bool.not_true, Bool.false_eq_true, if_false]
          exact wpAny_pure ⟨rfl, rfl, _, r1, kr, by omega⟩
    · rintro ⟨r1, r2⟩ s' ⟨hr, rfl, _⟩
      simp only at hr
      subst hr
      exact wpAny_pure h

/-! what a value without lists reads as -/
mutual
def dat : AV → PyData
  | .none => .none
  | .bool b => .bool b
  | .int i => .int i
  | .str x => .str (Str.ofString x)
  | .tup l => .tuple (dats l)
  | .ref _ => .none
  | .raw _ => .none
  | .slice _ _ _ => .none
  | .range _ _ => .none
def dats : List AV → List PyData
  | [] => []
  | a :: l => dat a :: dats l
end
mutual
theorem keyed_reads {h : Heap} : ∀ {a : AV} {v : Value}, Keyed a → RV h v a → ∃ as, Reads h v (dat a) as
  | _, _, .int _, .int _ _ => ⟨_, .int _ _⟩
  | _, _, .str _, .str _ _ _ rfl => ⟨_, .str _ _⟩
  | _, _, .tup (l := l) k, x => by
    cases x with | tup a items _ t r => ?_
    replace t := t.tup
    obtain ⟨o, ho, hc, m, hd⟩ := t
    obtain ⟨as, ha⟩ := keyeds_reads k r
    exact ⟨_, .tuple ho hc hd ha⟩
theorem keyeds_reads {h : Heap} : ∀ {l : List AV} {vs : List Value}, Keyeds l → RVs h vs l → ∃ as, ReadsAll h vs (dats l) as
  | _, _, .nil, .nil => ⟨_, .nil⟩
  | _, _, .cons k ks, .cons x r => by
    obtain ⟨as, ha⟩ := keyed_reads k x
    obtain ⟨bs, hb⟩ := keyeds_reads ks r
    exact ⟨_, .cons ha hb⟩
end
theorem strOk_ofString (x : String) : PyData.strOk (Str.ofString x) = true := by
  rw [Str.ofString_eq_toList]
  unfold PyData.strOk
  rw [← Array.all_toList, List.all_eq_true]
  intro n hn
  obtain ⟨c, _, rfl⟩ := List.mem_map.mp hn
  have h := c.valid
  refine decide_eq_true ?_
  show c.val.toNat < _
  rcases h with h | h
  · exact Nat.lt_trans h (by decide)
  · exact h.2
mutual
theorem keyed_lay : ∀ {a : AV}, Keyed a → (dat a).canLay0 = true
  | _, .int _ => by simp [dat, PyData.canLay0]
  | _, .str x => by simpa [dat, PyData.canLay0] using strOk_ofString x
  | _, .tup k => by simpa [dat, PyData.canLay0] using keyeds_lay k
theorem keyeds_lay : ∀ {l : List AV}, Keyeds l → PyData.canLayAll0 (dats l) = true
  | _, .nil => rfl
  | _, .cons k ks => by simp [dats, PyData.canLayAll0, keyed_lay k, keyeds_lay ks]
end
mutual
theorem keyed_depth : ∀ {a : AV}, Keyed a → (dat a).depth = deep a
  | _, .int _ => by simp [dat, PyData.depth, deep]
  | _, .str _ => by simp [dat, PyData.depth, deep]
  | _, .tup k => by simp [dat, PyData.depth, deep, keyeds_depth k]; try omega
theorem keyeds_depth : ∀ {l : List AV}, Keyeds l → PyData.depthAll (dats l) = deeps l
  | _, .nil => rfl
  | _, .cons k ks => by simp [dats, PyData.depthAll, deeps, keyed_depth k, keyeds_depth ks]
end
open Classical in
mutual
theorem keyed_eqv : ∀ {a b : AV}, Keyed a → Keyed b → (dat a).eqv (dat b) = decide (a = b)
  | _, _, .int i, .int j => by simp [dat, PyData.eqv]; rfl
  | _, _, .str a, .str b => by
    simp only [dat, PyData.eqv, AV.str.injEq]
    by_cases h : a = b
    · subst h; simp
    · have : ¬ Str.ofString a = Str.ofString b := fun e => h (ofString_inj e)
      simp [h, this]
  | _, _, .int _, .str _ => by simp [dat, PyData.eqv]
  | _, _, .str _, .int _ => by simp [dat, PyData.eqv]
  | _, _, .int _, .tup _ => by simp [dat, PyData.eqv]
  | _, _, .tup _, .int _ => by simp [dat, PyData.eqv]
  | _, _, .str _, .tup _ => by simp [dat, PyData.eqv]
  | _, _, .tup _, .str _ => by simp [dat, PyData.eqv]
  | _, _, .tup k, .tup k' => by simp [dat, PyData.eqv, keyeds_eqv k k']
theorem keyeds_eqv : ∀ {a b : List AV}, Keyeds a → Keyeds b → PyData.eqvAll (dats a) (dats b) = decide (a = b)
  | _, _, .nil, .nil => by simp [dats, PyData.eqvAll]
  | _, _, .nil, .cons _ _ => by simp [dats, PyData.eqvAll]
  | _, _, .cons _ _, .nil => by simp [dats, PyData.eqvAll]
  | _, _, .cons k ks, .cons k' ks' => by simp [dats, PyData.eqvAll, keyed_eqv k k', keyeds_eqv ks ks']
end
open Classical in
theorem eqBool_av {a b : AV} {u v : Value} {s : Shared} {Q : Bool → Shared → Prop} (ka : Keyed a) (kb : Keyed b) (ra : RV s.heap u a) (rb : RV s.heap v b) (hu : A.units + deep a < cLine) (h : Q (decide (a = b)) s) :
    wpAny (model prog w) A (eqBool u v) Q E s := by
  obtain ⟨as, ha⟩ := keyed_reads ka ra
  obtain ⟨bs, hb⟩ := keyed_reads kb rb
  refine SeqAt.eqBoolOverData prog w A E s u v _ _ _ _ Q ha hb (keyed_lay ka) (keyed_lay kb) ?_ (by rw [keyed_eqv ka kb]; exact h)
  rw [keyed_depth ka, keyed_depth kb]
  omega

/-- a tuple that is a key, at most seven deep -/
def IsKey (h : Heap) (l : List AV) (a : Addr) : Prop := RV h (.ref a) (.tup l) ∧ Keyeds l ∧ deeps l ≤ 7

theorem grow_dict {h h' : Heap} {d : Addr} {o : Obj} {es ep} (ho : h.get? d = some o) (hd : o.data = .dict es ep) (hs : Heap.SameBut d h h') : Grow h h' := by
  intro a o' ho' hl
  have hne : a ≠ d := by
    rintro rfl
    obtain rfl : o' = o := Option.some.inj (ho'.symm.trans ho)
    rcases hl with ⟨_, _, _, q⟩ | ⟨_, _, q⟩ <;> (rw [hd] at q; exact nomatch q)
  exact (hs.2 a hne).trans ho'

open Classical in
noncomputable def avKind (prog : Program) (w : World) : HeapKind prog w (List AV) where
  is := IsKey
  hash := fun l => hashAV w (.tup l)
  draws := fun l => draws (.tup l)
  room := fun A => A.units + 8 < cLine
  inj := fun hx hy => by have := RV.inj (.tup hx.2.1) (.tup hy.2.1) hx.1 hy.1; injection this
  keeps := fun x ho hd hs => ⟨x.1.grow (grow_dict ho hd hs), x.2⟩
  pyHash := fun {A E s k a Q} hu hk h => pyHash_av (.tup hk.2.1) hk.1 (by have := hk.2.2; simp only [deep]; omega) h
  eqBool := fun {A E s x y a b Q} hu hx hy h => eqBool_av (.tup hx.2.1) (.tup hy.2.1) hx.1 hy.1 (by have := hx.2.2; simp only [deep]; omega) (by simpa using h)
  quiet := fun {A E s k a Q} hk h => quiet_av 8 (.tup hk.2.1) hk.1 (by have := hk.2.2; simp only [deep]; omega) h
end

-- Cx3
set_option Elab.async false
set_option linter.unusedVariables false

section
variable (prog : Program) (w : World)

open Classical in
def Holds (h : Heap) (a : Addr) : Cell → Prop
  | .list l => ∃ its n, h.get? a = some (listOf its n) ∧ RVs h its.toList l
  | .dictI es => ∃ kvs, h.DictOf (intKind prog w) a kvs ∧ RVk h kvs es
  | .dictS es => ∃ kvs, h.DictOf (strKind prog w) a kvs ∧ RVs' h kvs es
  | .dictT es => ∃ xs : List (List AV × Addr × Value), h.DictOfH (avKind prog w) a xs ∧ xs.map (·.1) = es.map (·.1) ∧ RVs h (xs.map (·.2.2)) (es.map (·.2))
  | .setI l => SetG prog w h a l
  | .inst C d => h.get? a = some (instObj C d)
  | .ns f => ∃ o, h.get? a = some o ∧ NsOf h o f
end

theorem RVk.grow {K : Type} {h h' : Heap} (g : Grow h h') {kvs : List (K × Value)} {es : List (K × AV)} (x : RVk h kvs es) : RVk h' kvs es := ⟨x.1, x.2.grow g⟩

theorem RVs'.grow {h h' : Heap} (g : Grow h h') {kvs : List (Str × Value)} {es : List (String × AV)} (x : RVs' h kvs es) : RVs' h' kvs es := ⟨x.1, x.2.grow g⟩

theorem NsOf.grow {h h' : Heap} (g : Grow h h') {o : Obj} {f : List (String × AV)} : NsOf h o f → NsOf h' o f
  | ⟨es, n, e, e1, e2⟩ => ⟨es, n, e, e1.grow g, e2⟩

section
variable {prog : Program} {w : World}

theorem Holds.get {h : Heap} {a : Addr} : ∀ {c : Cell}, Holds prog w h a c → ∃ o, h.get? a = some o
  | .list _, ⟨_, _, e, _⟩ => ⟨_, e⟩
  | .dictI _, ⟨_, ⟨o, _, _, e, _⟩, _⟩ => ⟨_, e⟩
  | .dictS _, ⟨_, ⟨o, _, _, e, _⟩, _⟩ => ⟨_, e⟩
  | .dictT _, ⟨_, ⟨o, _, _, e, _⟩, _⟩ => ⟨_, e⟩
  | .setI _, ⟨o, _, _, _, e, _⟩ => ⟨_, e⟩
  | .inst _ _, e => ⟨_, e⟩
  | .ns _, ⟨_, e, _⟩ => ⟨_, e⟩

theorem Holds.move {h h' : Heap} {a : Addr} (g : Grow h h') (e : ∀ o, h.get? a = some o → h'.get? a = some o) : ∀ {c : Cell}, Holds prog w h a c → Holds prog w h' a c
  | .list _, ⟨its, n, e1, r⟩ => ⟨its, n, e _ e1, r.grow g⟩
  | .dictI _, ⟨kvs, ⟨o, es, ep, e1, r⟩, k⟩ => ⟨kvs, ⟨o, es, ep, e _ e1, r⟩, k.grow g⟩
  | .dictS _, ⟨kvs, ⟨o, es, ep, e1, r⟩, k⟩ => ⟨kvs, ⟨o, es, ep, e _ e1, r⟩, k.grow g⟩
  | .dictT _, ⟨xs, ⟨o, es, ep, e1, c1, d1, l1, i1, n1⟩, k1, k2⟩ => ⟨xs, ⟨o, es, ep, e _ e1, c1, d1, l1, fun x hx => ⟨(i1 x hx).1.grow g, (i1 x hx).2⟩, n1⟩, k1, k2.grow g⟩
  | .setI _, ⟨o, es, ep, t, e1, r⟩ => ⟨o, es, ep, t, e _ e1, r⟩
  | .inst _ _, e1 => e _ e1
  | .ns _, ⟨o, e1, n⟩ => ⟨o, e _ e1, n.grow g⟩

/-- no cell is a thing that lasts -/
theorem Holds.notLasting {h : Heap} {a : Addr} {o : Obj} (ho : h.get? a = some o) : ∀ {c : Cell}, Holds prog w h a c → ¬ Lasting o := by
  rintro c hc hl
  cases c with
  | list l => obtain ⟨its, m, e, _⟩ := hc; rw [ho] at e; cases e; simp [Lasting] at hl
  | dictI l => obtain ⟨_, ⟨o', es, ep, e, _, d, _⟩, _⟩ := hc; rw [ho] at e; cases e; simp [Lasting, d] at hl
  | dictS l => obtain ⟨_, ⟨o', es, ep, e, _, d, _⟩, _⟩ := hc; rw [ho] at e; cases e; simp [Lasting, d] at hl
  | dictT l => obtain ⟨_, ⟨o', es, ep, e, _, d, _⟩, _⟩ := hc; rw [ho] at e; cases e; simp [Lasting, d] at hl
  | setI l => obtain ⟨o', es, ep, t, e, _, d, _⟩ := hc; rw [ho] at e; cases e; simp [Lasting, d] at hl
  | inst C d => have e := hc; simp only [Holds] at e; rw [ho] at e; cases e; simp [Lasting] at hl
  | ns f => obtain ⟨o', e, es, m, rfl, _⟩ := hc; rw [ho] at e; cases e; simp [Lasting] at hl
end

abbrev AHeap := Addr → Option Cell
abbrev Fzn := Addr → Obj → Prop
def AHeap.set (σ : AHeap) (a : Addr) (c : Cell) : AHeap := fun b => if b = a then some c else σ b
theorem AHeap.set_self (σ : AHeap) (a : Addr) (c : Cell) : σ.set a c a = some c := by simp [AHeap.set]
theorem AHeap.set_ne (σ : AHeap) {a b : Addr} (c : Cell) (h : b ≠ a) : σ.set a c b = σ b := by simp [AHeap.set, h]

/-- what of the heap is spoken of: what stands still (Fz), and the cells -/
structure St (prog : Program) (w : World) (Fz : Fzn) (σ : AHeap) (h : Heap) : Prop where
  fz : ∀ b o, Fz b o → h.get? b = some o
  cell : ∀ a c, σ a = some c → Holds prog w h a c
  apart : ∀ a c o, σ a = some c → ¬ Fz a o

section
variable {prog : Program} {w : World} {Fz : Fzn} {σ : AHeap} {h h' : Heap}

/-- the heap has grown, and nothing that stood has changed -/
theorem St.more (S : St prog w Fz σ h) (g : Grow h h') (k : ∀ b o, h.get? b = some o → h'.get? b = some o) : St prog w Fz σ h' :=
  ⟨fun b o x => k b o (S.fz b o x), fun a c e => (S.cell a c e).move g (k a), S.apart⟩
theorem grow_keeps (k : ∀ b o, h.get? b = some o → h'.get? b = some o) : Grow h h' := fun _ _ ho _ => k _ _ ho
theorem keeps_push (h : Heap) (o : Obj) : ∀ b o', h.get? b = some o' → (h.push o).get? b = some o' := fun _ _ e => Heap.get?_push_of_some o e
theorem St.push (S : St prog w Fz σ h) (o : Obj) : St prog w Fz σ (h.push o) := S.more (grow_keeps (keeps_push h o)) (keeps_push h o)

/-- one cell is written -/
theorem St.write (S : St prog w Fz σ h) {a : Addr} {c c' : Cell} (hc : σ a = some c) (hs : Heap.SameBut a h h') (hn : Holds prog w h' a c') : St prog w Fz (σ.set a c') h' ∧ Grow h h' := by
  have g : Grow h h' := by
    intro b o ho hl
    by_cases e : b = a
    · subst e; exact absurd hl ((S.cell b c hc).notLasting ho)
    · exact (hs.2 b e).trans ho
  refine ⟨⟨fun b o x => ?_, fun b d e => ?_, fun b d o e => ?_⟩, g⟩
  · by_cases e : b = a
    · subst e; exact absurd x (S.apart b c o hc)
    · exact (hs.2 b e).trans (S.fz b o x)
  · by_cases q : b = a
    · subst q; rw [AHeap.set_self] at e; cases e; exact hn
    · rw [AHeap.set_ne _ _ q] at e; exact (S.cell b d e).move g fun o ho => (hs.2 b q).trans ho
  · by_cases q : b = a
    · subst q; exact S.apart b c o hc
    · rw [AHeap.set_ne _ _ q] at e; exact S.apart b d o e

/-- a new cell -/
theorem St.new (S : St prog w Fz σ h) {a : Addr} {c : Cell} (ha : ∀ o, h.get? a ≠ some o) (k : ∀ b o, h.get? b = some o → h'.get? b = some o) (hn : Holds prog w h' a c) : St prog w Fz (σ.set a c) h' ∧ Grow h h' ∧ σ a = none := by
  have g := grow_keeps k
  have hσ : σ a = none := by
    cases e : σ a with
    | none => rfl
    | some d => obtain ⟨o, ho⟩ := (S.cell a d e).get; exact absurd ho (ha o)
  refine ⟨⟨fun b o x => k b o (S.fz b o x), fun b d e => ?_, fun b d o e => ?_⟩, g, hσ⟩
  · by_cases q : b = a
    · subst q; rw [AHeap.set_self] at e; cases e; exact hn
    · rw [AHeap.set_ne _ _ q] at e; exact (S.cell b d e).move g (k b)
  · by_cases q : b = a
    · subst q; intro f; exact ha o (S.fz b o f)
    · rw [AHeap.set_ne _ _ q] at e; exact S.apart b d o e
theorem not_there (h : Heap) : ∀ o, h.get? h.objs.size ≠ some o := fun _ e => Nat.lt_irrefl _ (Heap.lt_size e)

/-- fewer cells are spoken of -/
theorem St.less (S : St prog w Fz σ h) {σ' : AHeap} (k : ∀ a c, σ' a = some c → σ a = some c) : St prog w Fz σ' h :=
  ⟨S.fz, fun a c e => S.cell a c (k a c e), fun a c o e => S.apart a c o (k a c e)⟩
end

-- Cx4
set_option Elab.async false
set_option linter.unusedVariables false

abbrev Loc := List (String × AV)
def Loc.put : Loc → String → AV → Loc
  | [], x, v => [(x, v)]
  | (y, u) :: r, x, v => if y = x then (y, v) :: r else (y, u) :: Loc.put r x v
theorem Loc.lookup_put : ∀ (m : Loc) (x : String) (v : AV) (y : String), (m.put x v).lookup y = if y = x then some v else m.lookup y
  | [], x, v, y => by
    simp only [Loc.put, List.lookup_cons, List.lookup_nil]
    by_cases h : y = x
    · simp [h]
    · rw [beq_false_of_ne h, if_neg h]
  | (z, u) :: r, x, v, y => by
    simp only [Loc.put]
    by_cases h : z = x
    · subst h
      simp only [if_true, List.lookup_cons]
      by_cases h' : y = z
      · simp [h']
      · rw [beq_false_of_ne h', if_neg h']
    · rw [if_neg h, List.lookup_cons, List.lookup_cons, Loc.lookup_put r x v y]
      by_cases h' : y = z
      · subst h'; simp [h]
      · rw [beq_false_of_ne h']

/-- a frame: what its names stand for. W: its cells are its own, to be written. -/
structure Fm (W : Str → Prop) (env : Env) (m : Loc) (Fz : Fzn) (σ : AHeap) (h : Heap) : Prop where
  fn : env.scope.kind = .function
  gl : env.globals = mainGlobals
  bl : env.builtins = builtinsNs
  ns : ∃ mL, h.Ns env.locals mL ∧ ∀ x av, m.lookup x = some av → env.kindOf x = some .local → ∃ v, mL x = some v ∧ RV h v av
  cs : ∀ (x : Str) c, env.cells.lookup x = some c → ∃ v, h.IsCell c v
  cv : ∀ x av, m.lookup x = some av → env.kindOf x = some .cell ∨ env.kindOf x = some .free → ∃ c v, env.cells.lookup (Str.ofString x) = some c ∧ h.IsCell c (some v) ∧ RV h v av
  nfz : ∀ o, ¬ Fz env.locals o
  nσ : σ env.locals = none
  cw : ∀ (x : Str) c, W x → env.cells.lookup x = some c → (∀ o, ¬ Fz c o) ∧ ∀ y, env.cells.lookup y = some c → y = x
  hc : ∀ x, env.kindOf x = some .cell ∨ env.kindOf x = some .free → ∃ c, env.cells.lookup x = some c

theorem IsCell_get {h : Heap} {c : Addr} {v : Option Value} (x : h.IsCell c v) : ∃ o, h.get? c = some o := let ⟨o, e, _⟩ := x; ⟨o, e⟩

section
variable {prog : Program} {w : World} {Fz : Fzn} {σ σ' : AHeap} {h h' : Heap} {W : Str → Prop} {env : Env} {m : Loc}

theorem Holds.notCell {a : Addr} {v : Option Value} : ∀ {c : Cell}, Holds prog w h a c → ¬ h.IsCell a v := by
  rintro c hc ⟨o, ho, hd⟩
  cases c with
  | list l => obtain ⟨its, m, e, _⟩ := hc; rw [ho] at e; cases e; simp at hd
  | dictI l => obtain ⟨_, ⟨o', es, ep, e, _, d, _⟩, _⟩ := hc; rw [ho] at e; cases e; rw [hd] at d; cases d
  | dictS l => obtain ⟨_, ⟨o', es, ep, e, _, d, _⟩, _⟩ := hc; rw [ho] at e; cases e; rw [hd] at d; cases d
  | dictT l => obtain ⟨_, ⟨o', es, ep, e, _, d, _⟩, _⟩ := hc; rw [ho] at e; cases e; rw [hd] at d; cases d
  | setI l => obtain ⟨o', es, ep, t, e, _, d, _⟩ := hc; rw [ho] at e; cases e; rw [hd] at d; cases d
  | inst C d => have e := hc; simp only [Holds] at e; rw [ho] at e; cases e; simp at hd
  | ns f => obtain ⟨o', e, es, m, rfl, _⟩ := hc; rw [ho] at e; cases e; simp at hd

/-- what stands still during a call out of this frame -/
def Frz (env : Env) (Fz : Fzn) (h : Heap) : Fzn := fun a o => Fz a o ∨ (h.get? a = some o ∧ (a = env.locals ∨ ∃ x : Str, env.cells.lookup x = some a))

theorem St.freeze (S : St prog w Fz σ h) (F : Fm W env m Fz σ h) : St prog w (Frz env Fz h) σ h := by
  refine ⟨fun b o x => ?_, S.cell, fun a c o e x => ?_⟩
  · rcases x with x | x
    · exact S.fz b o x
    · exact x.1
  · rcases x with x | ⟨x, rfl | ⟨y, hy⟩⟩
    · exact S.apart a c o e x
    · rw [F.nσ] at e; cases e
    · obtain ⟨v, hv⟩ := F.cs y a hy
      exact (S.cell a c e).notCell hv

theorem St.unfreeze (S : St prog w (Frz env Fz h) σ' h') : St prog w Fz σ' h' := ⟨fun b o x => S.fz b o (.inl x), S.cell, fun a c o e x => S.apart a c o e (.inl x)⟩

theorem Fm.thaw (F : Fm W env m Fz σ h) (S : St prog w (Frz env Fz h) σ' h') (g : Grow h h') : Fm W env m Fz σ' h' := by
  have hkeep : ∀ b o, h.get? b = some o → (b = env.locals ∨ ∃ x : Str, env.cells.lookup x = some b) → h'.get? b = some o := fun b o e q => S.fz b o (.inr ⟨e, q⟩)
  have hcell : ∀ (x : Str) c v, env.cells.lookup x = some c → h.IsCell c v → h'.IsCell c v := fun x c v e ⟨o, ho, hd⟩ => ⟨o, hkeep c o ho (.inr ⟨x, e⟩), hd⟩
  refine ⟨F.fn, F.gl, F.bl, ?_, ?_, ?_, F.nfz, ?_, F.cw, F.hc⟩
  · obtain ⟨mL, hn, hm⟩ := F.ns
    refine ⟨mL, ?_, fun x av e k => ?_⟩
    · obtain ⟨o, es, ep, ho, r⟩ := hn
      exact ⟨o, es, ep, hkeep _ o ho (.inl rfl), r⟩
    · obtain ⟨v, hv, r⟩ := hm x av e k
      exact ⟨v, hv, r.grow g⟩
  · intro x c e
    obtain ⟨v, hv⟩ := F.cs x c e
    exact ⟨v, hcell x c v e hv⟩
  · intro x av e k
    obtain ⟨c, v, e1, e2, e3⟩ := F.cv x av e k
    exact ⟨c, v, e1, hcell _ c _ e1 e2, e3.grow g⟩
  · cases e : σ' env.locals with
    | none => rfl
    | some d =>
      obtain ⟨mL, ⟨o, es, ep, ho, r⟩, _⟩ := F.ns
      exact absurd (.inr ⟨ho, .inl rfl⟩) (S.apart _ d o e)

theorem Fm.lessσ (F : Fm W env m Fz σ h) {σ' : AHeap} (k : ∀ a c, σ' a = some c → σ a = some c) : Fm W env m Fz σ' h :=
  ⟨F.fn, F.gl, F.bl, F.ns, F.cs, F.cv, F.nfz, (by
    cases e : σ' env.locals with
    | none => rfl
    | some d => have := k _ _ e; rw [F.nσ] at this; cases this), F.cw, F.hc⟩
theorem Fm.lessm (F : Fm W env m Fz σ h) {m' : Loc} (k : ∀ x a, m'.lookup x = some a → m.lookup x = some a) : Fm W env m' Fz σ h :=
  ⟨F.fn, F.gl, F.bl, let ⟨mL, hn, hm⟩ := F.ns; ⟨mL, hn, fun x av e => hm x av (k _ _ e)⟩, F.cs, fun x av e => F.cv x av (k _ _ e), F.nfz, F.nσ, F.cw, F.hc⟩
theorem Fm.more (F : Fm W env m Fz σ h) (k : ∀ b o, h.get? b = some o → h'.get? b = some o) : Fm W env m Fz σ h' :=
  ⟨F.fn, F.gl, F.bl, let ⟨mL, hn, hm⟩ := F.ns; ⟨mL, hn.keeps k, fun x av e q => let ⟨v, a, b⟩ := hm x av e q; ⟨v, a, b.grow (grow_keeps k)⟩⟩, fun x c e => let ⟨v, a⟩ := F.cs x c e; ⟨v, a.keeps k⟩,
    fun x av e q => let ⟨c, v, a, b, d⟩ := F.cv x av e q; ⟨c, v, a, b.keeps k, d.grow (grow_keeps k)⟩, F.nfz, F.nσ, F.cw, F.hc⟩

/-- a local name is written -/
theorem Fm.setLocal (F : Fm W env m Fz σ h) (S : St prog w Fz σ h) {x : String} {v : Value} {av : AV} (hk : env.kindOf x = some .local) (r : RV h v av) {mL : Str → Option Value} (hmL : ∀ x av, m.lookup x = some av → env.kindOf x = some .local → ∃ v, mL x = some v ∧ RV h v av)
    (hn : h.Ns env.locals mL) (hn' : h'.Ns env.locals (fun y => if y = (x : Str) then some v else mL y)) (hs : Heap.SameBut env.locals h h') :
    St prog w Fz σ h' ∧ Fm W env (m.put x av) Fz σ h' ∧ Grow h h' := by
  obtain ⟨o0, es0, ep0, ho0, hd0, _⟩ := hn
  have g : Grow h h' := grow_dict ho0 hd0 hs
  have hc : ∀ (y : Str) c v, env.cells.lookup y = some c → h.IsCell c v → h'.IsCell c v := fun y c v e q => q.sameBut hs (by
    rintro rfl
    obtain ⟨o, ho, hd⟩ := q
    rw [ho0] at ho; cases ho; rw [hd0] at hd; cases hd)
  refine ⟨⟨fun b o q => ?_, fun a c e => ?_, S.apart⟩, ⟨F.fn, F.gl, F.bl, ⟨_, hn', fun y bv e k => ?_⟩, fun y c e => ?_, fun y bv e k => ?_, F.nfz, F.nσ, F.cw, F.hc⟩, g⟩
  · by_cases e : b = env.locals
    · subst e; exact absurd q (F.nfz o)
    · exact (hs.2 b e).trans (S.fz b o q)
  · have : a ≠ env.locals := by rintro rfl; rw [F.nσ] at e; cases e
    exact (S.cell a c e).move g fun o ho => (hs.2 a this).trans ho
  · rw [Loc.lookup_put] at e
    by_cases q : y = x
    · subst q; simp only [if_true, Option.some.injEq] at e; subst e; exact ⟨v, by simp, r.grow g⟩
    · rw [if_neg q] at e
      obtain ⟨u, hu, ru⟩ := hmL y bv e k
      exact ⟨u, by rw [if_neg (fun e => q (ofString_inj e))]; exact hu, ru.grow g⟩
  · obtain ⟨v, hv⟩ := F.cs y c e
    exact ⟨v, hc y c v e hv⟩
  · rw [Loc.lookup_put] at e
    by_cases q : y = x
    · subst q; rw [hk] at k; rcases k with k | k <;> cases k
    · rw [if_neg q] at e
      obtain ⟨c, u, a, b, d⟩ := F.cv y bv e k
      exact ⟨c, u, a, hc _ c _ a b, d.grow g⟩

/-- a name in a cell of its own is written -/
theorem Fm.setCell {x : String} (hW : W (Str.ofString x)) (F : Fm W env m Fz σ h) (S : St prog w Fz σ h) {v : Value} {av : AV} {c : Addr} (hk : env.kindOf x = some .cell) (r : RV h v av) (hc : env.cells.lookup (x : Str) = some c)
    (hn' : h'.IsCell c (some v)) (hs : Heap.SameBut c h h') :
    St prog w Fz σ h' ∧ Fm W env (m.put x av) Fz σ h' ∧ Grow h h' := by
  obtain ⟨v0, o0, ho0, hd0⟩ := F.cs x c hc
  have g : Grow h h' := by
    intro b o ho hl
    have : b ≠ c := by rintro rfl; rw [ho0] at ho; cases ho; simp [Lasting, hd0] at hl
    exact (hs.2 b this).trans ho
  obtain ⟨mL, hn, hmL⟩ := F.ns
  have hL : env.locals ≠ c := by
    rintro rfl
    obtain ⟨o, es, ep, ho, hd, _⟩ := hn
    rw [ho0] at ho; cases ho; rw [hd0] at hd; cases hd
  have hoth : ∀ (y : Str) d v, y ≠ (x : Str) → env.cells.lookup y = some d → h.IsCell d v → h'.IsCell d v := fun y d v q e z => z.sameBut hs (by
    rintro rfl
    exact q ((F.cw x d hW hc).2 y e))
  refine ⟨⟨fun b o q => ?_, fun a d e => ?_, S.apart⟩, ⟨F.fn, F.gl, F.bl, ⟨mL, hn.sameBut hs hL, fun y bv e k => ?_⟩, fun y d e => ?_, fun y bv e k => ?_, F.nfz, F.nσ, F.cw, F.hc⟩, g⟩
  · by_cases e : b = c
    · subst e; exact absurd q ((F.cw x b hW hc).1 o)
    · exact (hs.2 b e).trans (S.fz b o q)
  · have : a ≠ c := by rintro rfl; exact (S.cell a d e).notCell ⟨o0, ho0, hd0⟩
    exact (S.cell a d e).move g fun o ho => (hs.2 a this).trans ho
  · rw [Loc.lookup_put] at e
    by_cases q : y = x
    · subst q; rw [hk] at k; cases k
    · rw [if_neg q] at e
      obtain ⟨u, hu, ru⟩ := hmL y bv e k
      exact ⟨u, hu, ru.grow g⟩
  · by_cases q : y = (x : Str)
    · subst q; rw [hc] at e; cases e; exact ⟨_, hn'⟩
    · obtain ⟨v, hv⟩ := F.cs y d e
      exact ⟨v, hoth y d v q e hv⟩
  · rw [Loc.lookup_put] at e
    by_cases q : y = x
    · subst q; simp only [if_true, Option.some.injEq] at e; subst e; exact ⟨c, v, hc, hn', r.grow g⟩
    · rw [if_neg q] at e
      obtain ⟨d, u, a, b, z⟩ := F.cv y bv e k
      exact ⟨d, u, a, hoth _ d _ (fun e => q (ofString_inj e)) a b, z.grow g⟩
end

-- Cx5
set_option Elab.async false
set_option linter.unusedVariables false

structure Cx where
  prog : Program
  w : World
  K : Frag
  h₀ : Heap

structure Base (c : Cx) : Prop where
  kin : c.K.In c.h₀
  top : ∃ p loose mg mb, TopRead p loose mg mb c.h₀
  mods : ∃ o, c.h₀.get? sysModules = some o

structure Room (A : Around) (d : Nat) : Prop where
  dep : A.depth + 3 * d + 20 < recursionLimit
  un : A.units + 16 * d + 200 < cLine
  hn : A.handled = none

/-- an exception of a class of the program's own, under way -/
def IsExc (Fz : Fzn) (σ : AHeap) (h : Heap) (e : Value) (C : Addr) : Prop :=
  ∃ a o vs, e = .ref a ∧ h.get? a = some o ∧ o.cls = .ref C ∧ o.data = .fields vs ∧ 5 ≤ vs.size ∧ (∀ o, ¬ Fz a o) ∧ σ a = none ∧
    (vs[1]? = some .none ∨ ∃ t to tvs, vs[1]? = some (.ref t) ∧ t ≠ a ∧ h.get? t = some to ∧ to.data = .fields tvs ∧ 4 ≤ tvs.size ∧ (∀ o, ¬ Fz t o) ∧ σ t = none)

/-- neither the world outside nor a generator is touched -/
structure Kept (s s' : Shared) : Prop where
  os : s'.os = s.os
  gens : s'.gens = s.gens
theorem Kept.refl (s : Shared) : Kept s s := ⟨rfl, rfl⟩
theorem Kept.trans {s s' s'' : Shared} (a : Kept s s') (b : Kept s' s'') : Kept s s'' := ⟨b.os.trans a.os, b.gens.trans a.gens⟩
structure GrowS (s s' : Shared) : Prop where
  g : Grow s.heap s'.heap
  k : Kept s s'
theorem GrowS.refl (s : Shared) : GrowS s s := ⟨Grow.refl _, .refl _⟩
theorem GrowS.trans {s s' s'' : Shared} (a : GrowS s s') (b : GrowS s' s'') : GrowS s s'' := ⟨a.g.trans b.g, a.k.trans b.k⟩
/-- the heap is as it was -/
structure SameS (s s' : Shared) : Prop where
  h : s'.heap = s.heap
  k : Kept s s'
theorem SameS.refl (s : Shared) : SameS s s := ⟨rfl, .refl _⟩
theorem SameS.trans {s s' s'' : Shared} (a : SameS s s') (b : SameS s' s'') : SameS s s'' := ⟨b.h.trans a.h, a.k.trans b.k⟩
theorem SameS.grow {s s' : Shared} (a : SameS s s') : GrowS s s' := ⟨by rw [a.h]; exact Grow.refl _, a.k⟩

section
variable (c : Cx)
abbrev Cx.M : Model := model c.prog c.w
def Bs (Fz : Fzn) : Prop := ∀ b o, c.h₀.get? b = some o → Fz b o
def OPost (Fz : Fzn) (s : Shared) (Q : AV → AHeap → Prop) : Value → Shared → Prop :=
  fun v s' => ∃ av σ', St c.prog c.w Fz σ' s'.heap ∧ GrowS s s' ∧ RV s'.heap v av ∧ Q av σ'
def EX (Fz : Fzn) (s : Shared) (X : Addr → AHeap → Prop) : Value → Shared → Prop :=
  fun e s' => ∃ C σ', St c.prog c.w Fz σ' s'.heap ∧ GrowS s s' ∧ IsExc Fz σ' s'.heap e C ∧ X C σ'
def OpOK (d : Nat) (t : List Value → Sem Value) (as : List AV) (σ : AHeap) (Q : AV → AHeap → Prop) (X : Addr → AHeap → Prop) : Prop :=
  ∀ A Fz s vs, Room A d → Base c → Bs c Fz → St c.prog c.w Fz σ s.heap → RVs s.heap vs as → wpAny c.M A (t vs) (OPost c Fz s Q) (EX c Fz s X) s
def callL : List Value → Sem Value
  | f :: r => call f r
  | [] => pure .none
def two (f : Value → Value → Sem Value) : List Value → Sem Value
  | [a, b] => f a b
  | _ => pure .none
def one (f : Value → Sem Value) : List Value → Sem Value
  | [a] => f a
  | _ => pure .none
def subT (o i : Value) : Sem Value := do
  if ← getitemInPython o then unsupported "no" else getItem o i
def CallOK (d : Nat) (f : AV) (as : List AV) := OpOK c d callL (f :: as)
def BinOK (d : Nat) (op : Operator) (a b : AV) := OpOK c d (two (binaryOp op)) [a, b]
def CmpOK (d : Nat) (op : CmpOp) (a b : AV) := OpOK c d (two (compareOp op)) [a, b]
def NegOK (d : Nat) (a : AV) := OpOK c d (one (unaryOp .USub)) [a]
def SubOK (d : Nat) (a i : AV) := OpOK c d (two subT) [a, i]
def AttrOK (d : Nat) (a : AV) (n : String) := OpOK c d (one fun v => getAttr v (Str.ofString n) true) [a]
/-- its truth -/
def TruthOK (d : Nat) (a : AV) (σ : AHeap) (Q : Bool → Prop) : Prop :=
  ∀ A Fz s v E (P : Bool → Shared → Prop), Room A d → Base c → Bs c Fz → St c.prog c.w Fz σ s.heap → RV s.heap v a → (∀ b s', SameS s s' → Q b → P b s') → wpAny c.M A (truthy v) P E s
/-- a method's name looked up -/
def LookOK (d : Nat) (a : AV) (n : String) (σ : AHeap) (Q : AV → List AV → Prop) : Prop :=
  ∀ A Fz s v pl E (P : Value × List Value → Shared → Prop), Room A d → Base c → Bs c Fz → St c.prog c.w Fz σ s.heap → RV s.heap v a →
    (∀ f first fv as s', SameS s s' → RV s.heap fv f → RVs s.heap as first → Q f first → P (fv, as) s') → wpAny c.M A (getMethod v (Str.ofString n) pl) P E s
/-- its n items -/
def UnpackOK (d : Nat) (a : AV) (n : Nat) (σ : AHeap) (Q : List AV → Prop) : Prop :=
  ∀ A Fz s v E (P : List Value → Shared → Prop), Room A d → Base c → Bs c Fz → St c.prog c.w Fz σ s.heap → RV s.heap v a →
    (∀ vs l s', St c.prog c.w Fz σ s'.heap → GrowS s s' → RVs s'.heap vs l → l.length = n → Q l → P vs s') → wpAny c.M A (unpackItems v n none) P E s
def SetItemOK (d : Nat) (o i v : AV) (σ : AHeap) (Q : AHeap → Prop) (X : Addr → AHeap → Prop) : Prop :=
  ∀ A Fz s ov iv vv, Room A d → Base c → Bs c Fz → St c.prog c.w Fz σ s.heap → RV s.heap ov o → RV s.heap iv i → RV s.heap vv v →
    wpAny c.M A (setItem ov iv vv) (fun _ s' => ∃ σ', St c.prog c.w Fz σ' s'.heap ∧ GrowS s s' ∧ Q σ') (EX c Fz s X) s
def DelItemOK (d : Nat) (a i : AV) (σ : AHeap) (Q : AHeap → Prop) (X : Addr → AHeap → Prop) : Prop :=
  ∀ A Fz s ov iv, Room A d → Base c → Bs c Fz → St c.prog c.w Fz σ s.heap → RV s.heap ov a → RV s.heap iv i →
    wpAny c.M A (delItem ov iv) (fun _ s' => ∃ σ', St c.prog c.w Fz σ' s'.heap ∧ GrowS s s' ∧ Q σ') (EX c Fz s X) s
def SetAttrOK (d : Nat) (o : AV) (n : String) (v : AV) (σ : AHeap) (Q : AHeap → Prop) (X : Addr → AHeap → Prop) : Prop :=
  ∀ A Fz s ov vv, Room A d → Base c → Bs c Fz → St c.prog c.w Fz σ s.heap → RV s.heap ov o → RV s.heap vv v →
    wpAny c.M A (setAttr ov (Str.ofString n) vv) (fun _ s' => ∃ σ', St c.prog c.w Fz σ' s'.heap ∧ GrowS s s' ∧ Q σ') (EX c Fz s X) s

/-- an iterator it (its objects at ai), of which P tells what is still to come, as long as keep holds of the cells -/
structure ItSpec (d : Nat) (en : Bool) (it : Value) (ai : Addr → Prop) (P : List AV → Heap → Prop) (P' : Value → List AV → Heap → Prop) (keep : AHeap → Prop) : Prop where
  there : ∀ l h, P l h → ∀ a, ai a → ∃ o, h.get? a = some o
  still : ∀ l h h', P l h → (∀ a o, ai a → h.get? a = some o → h'.get? a = some o) → Grow h h' → P l h'
  again : ∀ A l s E (R : Value → Shared → Prop), Room A d → P l s.heap → R it s → wpAny c.M A (pyIter it) R E s
  next : ∀ A Fz σ l s E (R : Option Value → Shared → Prop), Room A d → Bs c Fz → St c.prog c.w Fz σ s.heap → keep σ → (∀ a o, ai a → ¬ Fz a o) → (∀ a, ai a → σ a = none) → P l s.heap →
    (∀ r s', St c.prog c.w Fz σ s'.heap → GrowS s s' → (match l with | [] => r = none | x :: xs => ∃ v, r = some v ∧ RV s'.heap v x ∧ P' v xs s'.heap) → R r s') → wpAny c.M A (pyNext it) R E s
  letGo : ∀ A Fz σ l s v t E (R : Unit → Shared → Prop), (en = true → ∃ elts k p, t = .Tuple elts k p) → Room A d → St c.prog c.w Fz σ s.heap → (∀ a o, ai a → ¬ Fz a o) → (∀ a, ai a → σ a = none) → P' v l s.heap →
    (∀ s', St c.prog c.w Fz σ s'.heap → GrowS s s' → P l s'.heap → R () s') → wpAny c.M A (letOwnedTupleGo t it v) R E s

def IterOK (d : Nat) (a : AV) (σ : AHeap) (Q : List AV → (AHeap → Prop) → Prop) : Prop :=
  ∃ items keep, Q items keep ∧ ∀ A Fz s v E (R : Value → Shared → Prop), Room A d → Base c → Bs c Fz → St c.prog c.w Fz σ s.heap → RV s.heap v a →
    (∀ it ai P s', St c.prog c.w Fz σ s'.heap → (∀ b o, s.heap.get? b = some o → s'.heap.get? b = some o) → Kept s s' → (∀ a o, ai a → s.heap.get? a ≠ some o) → ItSpec c d false it ai P (fun _ => P) keep → P items s'.heap → R it s') → wpAny c.M A (pyIter v) R E s

def Glob (x : String) (v : Value) : Prop :=
  nsIn c.K mainGlobals (Str.ofString x) = some (some v) ∨ (nsIn c.K mainGlobals (Str.ofString x) = some none ∧ bootBuiltins (Str.ofString x) = some v ∧ Str.ofString x ≠ "__name__")
def enumAV : Nat → List AV → List AV
  | _, [] => []
  | i, x :: xs => .tup [.int i, x] :: enumAV (i + 1) xs
/-- what is gone through, as it is or by enumerate -/
def IterW (d : Nat) (en : Bool) (sv : AV) (σ : AHeap) (Q : List AV → (AHeap → Prop) → Prop) : Prop :=
  if en = true then ∃ l xs, sv = .ref l ∧ σ l = some (.list xs) ∧ xs.length ≤ 100000 ∧ Q (enumAV 0 xs) (fun σ' => σ' l = some (.list xs)) else IterOK c d sv σ Q
def Callee (v : Value) : Prop :=
  (∃ i, v = .builtin i) ∨ (∃ T, v = .type T) ∨ (∃ a o fd, v = .ref a ∧ c.K.lookup a = some o ∧ o.data = .func fd) ∨
    ∃ a o cd, v = .ref a ∧ c.K.lookup a = some o ∧ o.data = .cls cd ∧ specialIn c.K (.ref a) "__call__" = some (some (.builtin "type.__call__"))
end

/-! the program's text, without the places -/
mutual
inductive IE where
  | none | bool (b : Bool) | int (i : Int) | str (x : String)
  | var (x : String) | glob (x : String)
  | tup (l : IEs) | list (l : IEs) | edict | dictS (ks : List String) (l : IEs)
  | bin (op : Operator) (a b : IE)
  | not (a : IE) | neg (a : IE)
  | cmp (a : IE) (op : CmpOp) (b : IE) | cmp2 (a : IE) (op : CmpOp) (b : IE) (op' : CmpOp) (e : IE)
  | and (l : IEs) | or (l : IEs)
  | ite (t a b : IE)
  | sub (a i : IE) | slc (l h st : IE)
  | attr (a : IE) (n : String)
  | call (f : IE) (l : IEs)
  | meth (o : IE) (n : String) (l : IEs)
  | comp (elt : IE) (t : Tgt) (en : Bool) (src : IE) (ifs : IEs)
inductive IEs where
  | nil
  | cons (e : IE) (r : IEs)
inductive Tgt where
  | name (x : String)
  | tup (l : Tgts)
inductive Tgts where
  | nil
  | cons (t : Tgt) (r : Tgts)
end

mutual
inductive IS where
  | pass
  | expr (e : IE)
  | assign (t : Tgt) (e : IE)
  | asSub (o i e : IE)
  | asAttr (o : IE) (n : String) (e : IE)
  | ret (e : IE)
  | ite (t : IE) (a b : ISs)
  | loop (t : IE) (b : ISs)
  | each (t : Tgt) (en : Bool) (src : IE) (b : ISs)
  | del (o i : IE)
  | stop
inductive ISs where
  | nil
  | cons (s : IS) (r : ISs)
end

mutual
def Tgt.names : Tgt → List String
  | .name x => [x]
  | .tup l => l.names
def Tgts.names : Tgts → List String
  | .nil => []
  | .cons t r => t.names ++ r.names
end
def Loc.cut (m : Loc) (l : List String) : Loc := m.filter fun x => !l.contains x.1
/-- only the names that were there -/
def Loc.only (m₀ m : Loc) : Loc := m.filter fun x => (m₀.map (·.1)).contains x.1
def Tgts.length : Tgts → Nat
  | .nil => 0
  | .cons _ r => r.length + 1

def compLoop {β : Type} (keep : AHeap → Prop) (body : AV → β → AHeap → (β → AHeap → Prop) → Prop) : List AV → β → AHeap → (β → AHeap → Prop) → Prop
  | [], b, σ, Q => keep σ ∧ Q b σ
  | x :: xs, b, σ, Q => keep σ ∧ body x b σ (fun b' σ' => compLoop keep body xs b' σ' Q)

def emptyDict (ce : Cell) : Prop := ce = .dictI [] ∨ ce = .dictS [] ∨ ce = .dictT []

/-! from the model's text to this one. nm: the names and literals that may stand in it -/
def strIn (nm : List String) (x : Str) : Option String := nm.find? fun y => Str.ofString y == x
def trList (f : Expr → Option IE) : List Expr → Option IEs
  | [] => some .nil
  | e :: r => match f e, trList f r with
    | some i, some is => some (.cons i is)
    | _, _ => none
def trTgts (f : Expr → Option Tgt) : List Expr → Option Tgts
  | [] => some .nil
  | e :: r => match f e, trTgts f r with
    | some i, some is => some (.cons i is)
    | _, _ => none
def isWritten : Option NameKind → Bool
  | some .local | some .cell => true
  | _ => false
def isRead : Option NameKind → Bool
  | some .local | some .cell | some .free => true
  | _ => false
def notSet : Expr → Bool
  | .Set .. => false
  | _ => true
def isCell : Option NameKind → Bool
  | some .cell | some .free => true
  | _ => false
def trTgt (nm : List String) (ks : List (Str × NameKind)) : Nat → Expr → Option Tgt
  | 0, _ => none
  | n + 1, .Name id _ => if isWritten (ks.lookup id) then (strIn nm id).map .name else none
  | n + 1, .Tuple elts _ _ => (trTgts (trTgt nm ks n) elts).map .tup
  | _, _ => none
def trKeys (nm : List String) : List (Option Expr) → Option (List String)
  | [] => some []
  | some (.Constant (.str x) _ _) :: r => match strIn nm x, trKeys nm r with
    | some y, some ys => some (y :: ys)
    | _, _ => none
  | _ => none
def plainBase : Expr → Bool
  | .Call (.Name ..) .. => false
  | _ => true
def trOpt (f : Expr → Option IE) : Option Expr → Option IE
  | none => some .none
  | some e => f e
def isTupT : Tgt → Bool
  | .tup _ => true
  | _ => false
def trIter (f : Expr → Option IE) (ks : List (Str × NameKind)) : Expr → Option (Bool × IE)
  | .Call (.Name id p) [e] [] pos => if id = ("enumerate" : Str) then (if ks.lookup id = some .globalImplicit then (f e).map fun x => (true, x) else none) else (f (.Call (.Name id p) [e] [] pos)).map fun x => (false, x)
  | e => (f e).map fun x => (false, x)
def namesOk (names : List (Str × NameKind)) : Bool := names.all fun x => decide (names.lookup x.1 = some x.2)
def tr (nm : List String) : Nat → List (Str × NameKind) → Expr → Option IE
  | 0, _, _ => none
  | n + 1, ks, e => match e with
    | .Constant .none _ _ => some .none
    | .Constant (.bool b) _ _ => some (.bool b)
    | .Constant (.int i) _ _ => some (.int i)
    | .Constant (.str x) _ _ => (strIn nm x).map .str
    | .Name id _ => if id == ("__debug__" : Str) || id == ("__classdict__" : Str) then none else if isRead (ks.lookup id) then (strIn nm id).map .var
        else if ks.lookup id = some .globalImplicit then (strIn nm id).map .glob else none
    | .Tuple elts _ _ => (trList (tr nm n ks) elts).map .tup
    | .List elts _ => (trList (tr nm n ks) elts).map .list
    | .Dict [] [] _ => some .edict
    | .Dict keys values _ => match trKeys nm keys, trList (tr nm n ks) values with
      | some k, some v => if keys.length = values.length ∧ keys.length ≤ 15 then some (.dictS k v) else none
      | _, _ => none
    | .BinOp a op b _ => match tr nm n ks a, tr nm n ks b with
      | some x, some y => some (.bin op x y)
      | _, _ => none
    | .UnaryOp .Not a _ => (tr nm n ks a).map .not
    | .UnaryOp .USub a _ => (tr nm n ks a).map .neg
    | .Compare a [op] [b] _ => if behindInMarks op b then none else match tr nm n ks a, tr nm n ks b with
      | some x, some y => some (.cmp x op y)
      | _, _ => none
    | .Compare a [op, op'] [b, e] _ => if behindInMarks op' e then none else match tr nm n ks a, tr nm n ks b, tr nm n ks e with
      | some x, some y, some z => some (.cmp2 x op y op' z)
      | _, _, _ => none
    | .BoolOp .And l _ => (trList (tr nm n ks) l).map .and
    | .BoolOp .Or l _ => (trList (tr nm n ks) l).map .or
    | .IfExp t a b _ => match tr nm n ks t, tr nm n ks a, tr nm n ks b with
      | some x, some y, some z => some (.ite x y z)
      | _, _, _ => none
    | .Slice l h st _ => match trOpt (tr nm n ks) l, trOpt (tr nm n ks) h, trOpt (tr nm n ks) st with
      | some y, some z, some w => some (.slc y z w)
      | _, _, _ => none
    | .Subscript a i _ => match tr nm n ks a, tr nm n ks i with
      | some x, some y => some (.sub x y)
      | _, _ => none
    | .Attribute a x _ => if plainBase a then match tr nm n ks a, strIn nm x with
      | some y, some z => some (.attr y z)
      | _, _ => none else none
    | .Call (.Attribute o x apos) args [] pos => if plainBase o && apos.endLine == pos.line && decide (args.length < 30) then match tr nm n ks o, strIn nm x, trList (tr nm n ks) args with
      | some y, some z, some l => some (.meth y z l)
      | _, _, _ => none else none
    | .Call f args [] _ => if args.length < 30 then match tr nm n ks f, trList (tr nm n ks) args with
      | some x, some l => some (.call x l)
      | _, _ => none else none
    | .ListComp elt [⟨t, iter, ifs, 0⟩] scope _ =>
      if scope.kind = .function ∧ namesOk scope.names = true ∧ notSet iter = true ∧ (scope.names.all fun x => x.2 != .free || isCell (ks.lookup x.1)) = true then
        match tr nm n scope.names elt, trTgt nm scope.names 5 t, trIter (tr nm n ks) ks iter, trList (tr nm n scope.names) ifs with
        | some x, some y, some (en, z), some l => if (en && !isTupT y) = true then none else if (scope.names.all fun x => !isWritten (some x.2) || ((".0" :: y.names).map Str.ofString).contains x.1) = true then some (.comp x y en z l) else none
        | _, _, _, _ => none
      else none
    | _ => none

/-! statements -/
def notComp : Expr → Bool
  | .ListComp .. | .SetComp .. | .DictComp .. => false
  | _ => true
def listOrNot : Expr → Bool
  | .SetComp .. | .DictComp .. => false
  | _ => true
def swapSafe : Expr → Bool
  | .Tuple vs _ _ => !(vs.all (constantsAlone 8)) || vs.all (foldedForSure 8)
  | _ => true
def trStmts (f : Stmt → Option IS) : List Stmt → Option ISs
  | [] => some .nil
  | e :: r => match f e, trStmts f r with
    | some i, some is => some (.cons i is)
    | _, _ => none
def trS (nm : List String) : Nat → List (Str × NameKind) → Stmt → Option IS
  | 0, _, _ => none
  | n + 1, ks, st => match st with
    | .Pass _ => some .pass
    | .Expr e _ => if notComp e then (tr nm 30 ks e).map .expr else none
    | .Assign [.Subscript o i _] e _ => if listOrNot e then match tr nm 30 ks o, tr nm 30 ks i, tr nm 30 ks e with
      | some x, some y, some z => some (.asSub x y z)
      | _, _, _ => none else none
    | .Assign [.Attribute o x _] e _ => if listOrNot e then match tr nm 30 ks o, strIn nm x, tr nm 30 ks e with
      | some x, some y, some z => some (.asAttr x y z)
      | _, _, _ => none else none
    | .Assign [t] e _ => if listOrNot e && swapSafe e then match trTgt nm ks 5 t, tr nm 30 ks e with
      | some x, some z => some (.assign x z)
      | _, _ => none else none
    | .Return (some e) _ => (tr nm 30 ks e).map .ret
    | .If t a b _ => match tr nm 30 ks t, trStmts (trS nm n ks) a, trStmts (trS nm n ks) b with
      | some x, some y, some z => some (.ite x y z)
      | _, _, _ => none
    | .While t b [] _ => match tr nm 30 ks t, trStmts (trS nm n ks) b with
      | some x, some y => some (.loop x y)
      | _, _ => none
    | .For t src b [] _ => if notSet src then match trTgt nm ks 5 t, trIter (tr nm 30 ks) ks src, trStmts (trS nm n ks) b with
      | some x, some (en, y), some z => if (en && !isTupT x) = true then none else some (.each x en y z)
      | _, _, _ => none else none
    | .Raise .. => some .stop
    | .Delete [.Subscript o i _] _ => match tr nm 30 ks o, tr nm 30 ks i with
      | some x, some y => some (.del x y)
      | _, _ => none
    | _ => none

section
variable (c : Cx) (d : Nat)
mutual
def wpTgt : Tgt → AV → Loc → AHeap → (Loc → Prop) → Prop
  | .name x, v, m, _, k => k (m.put x v)
  | .tup l, v, m, σ, k => UnpackOK c d v l.length σ (fun vs => wpTgts l vs m σ k)
def wpTgts : Tgts → List AV → Loc → AHeap → (Loc → Prop) → Prop
  | .nil, _, m, _, k => k m
  | .cons t r, v :: vs, m, σ, k => wpTgt t v m σ (fun m' => wpTgts r vs m' σ k)
  | .cons _ _, [], _, _, _ => False
end

mutual
def wpE : IE → Loc → AHeap → (AV → AHeap → Prop) → (Addr → AHeap → Prop) → Prop
  | .none, _, σ, Q, _ => Q .none σ
  | .bool b, _, σ, Q, _ => Q (.bool b) σ
  | .int i, _, σ, Q, _ => Q (.int i) σ
  | .str x, _, σ, Q, _ => Q (.str x) σ
  | .var x, m, σ, Q, _ => ∃ av, m.lookup x = some av ∧ Q av σ
  | .glob x, _, σ, Q, _ => ∃ v, Glob c x v ∧ Q (.raw v) σ
  | .tup l, m, σ, Q, X => wpEs l m σ (fun as σ' => as.length ≤ sizeLine ∧ Q (.tup as) σ') X
  | .list l, m, σ, Q, X => wpEs l m σ (fun as σ' => as.length ≤ sizeLine ∧ ∀ a, σ' a = none → Q (.ref a) (σ'.set a (.list as))) X
  | .edict, _, σ, Q, _ => ∃ ce, emptyDict ce ∧ ∀ a, σ a = none → Q (.ref a) (σ.set a ce)
  | .dictS ks l, m, σ, Q, X => wpEs l m σ (fun as σ' => as.length = ks.length ∧ ks.Nodup ∧ ∀ a, σ' a = none → Q (.ref a) (σ'.set a (.dictS (ks.zip as)))) X
  | .bin op a b, m, σ, Q, X => wpE a m σ (fun x σ₁ => wpE b m σ₁ (fun y σ₂ => BinOK c d op x y σ₂ Q X) X) X
  | .not a, m, σ, Q, X => wpE a m σ (fun x σ₁ => TruthOK c d x σ₁ (fun b => Q (.bool (!b)) σ₁)) X
  | .neg a, m, σ, Q, X => wpE a m σ (fun x σ₁ => NegOK c d x σ₁ Q X) X
  | .cmp a op b, m, σ, Q, X => wpE a m σ (fun x σ₁ => wpE b m σ₁ (fun y σ₂ => CmpOK c d op x y σ₂ Q X) X) X
  | .cmp2 a op b op' e, m, σ, Q, X => wpE a m σ (fun x σ₁ => wpE b m σ₁ (fun y σ₂ => CmpOK c d op x y σ₂ (fun r σ₃ => TruthOK c d r σ₃ (fun t =>
      if t then wpE e m σ₃ (fun z σ₄ => CmpOK c d op' y z σ₄ Q X) X else Q r σ₃)) X) X) X
  | .and l, m, σ, Q, X => wpAnd l m σ Q X
  | .or l, m, σ, Q, X => wpOr l m σ Q X
  | .ite t a b, m, σ, Q, X => wpT t m σ (fun r σ₁ => if r then wpE a m σ₁ Q X else wpE b m σ₁ Q X) X
  | .sub a i, m, σ, Q, X => wpE a m σ (fun x σ₁ => wpE i m σ₁ (fun y σ₂ => SubOK c d x y σ₂ Q X) X) X
  | .slc l h st, m, σ, Q, X => wpE l m σ (fun y σ₁ => wpE h m σ₁ (fun z σ₂ => wpE st m σ₂ (fun w σ₃ => Q (.slice y z w) σ₃) X) X) X
  | .attr a n, m, σ, Q, X => wpE a m σ (fun x σ₁ => AttrOK c d x n σ₁ Q X) X
  | .call f l, m, σ, Q, X => wpE f m σ (fun fv σ₁ => (∃ v, fv = .raw v ∧ Callee c v) ∧ wpEs l m σ₁ (fun as σ₂ => CallOK c d fv as σ₂ Q X) X) X
  | .meth o n l, m, σ, Q, X => wpE o m σ (fun ov σ₁ => LookOK c d ov n σ₁ (fun fv first => (∃ v, fv = .raw v ∧ Callee c v) ∧ wpEs l m σ₁ (fun as σ₂ => CallOK c d fv (first ++ as) σ₂ Q X) X)) X
  | .comp elt t en src ifs, m, σ, Q, X => (en = true → Glob c "enumerate" (.type "enumerate")) ∧ wpE src m σ (fun sv σ₁ => IterW c d en sv σ₁ (fun items keep => items.length ≤ sizeLine ∧
      compLoop keep (fun x acc σ k => wpTgt c d t x (m.cut (".0" :: t.names)) σ (fun m' => wpIfs ifs m' σ (fun ok σ' => if ok then wpE elt m' σ' (fun v σ₂ => k (acc ++ [v]) σ₂) (fun _ _ => False) else k acc σ') (fun _ _ => False)))
        items ([] : List AV) σ₁ (fun acc σ₂ => ∀ a, σ₂ a = none → Q (.ref a) (σ₂.set a (.list acc))))) X
def wpEs : IEs → Loc → AHeap → (List AV → AHeap → Prop) → (Addr → AHeap → Prop) → Prop
  | .nil, _, σ, Q, _ => Q [] σ
  | .cons e r, m, σ, Q, X => wpE e m σ (fun v σ₁ => wpEs r m σ₁ (fun vs σ₂ => Q (v :: vs) σ₂) X) X
def wpAnd : IEs → Loc → AHeap → (AV → AHeap → Prop) → (Addr → AHeap → Prop) → Prop
  | .nil, _, _, _, _ => False
  | .cons e .nil, m, σ, Q, X => wpE e m σ Q X
  | .cons e r, m, σ, Q, X => wpE e m σ (fun v σ₁ => TruthOK c d v σ₁ (fun t => if t then wpAnd r m σ₁ Q X else Q v σ₁)) X
def wpOr : IEs → Loc → AHeap → (AV → AHeap → Prop) → (Addr → AHeap → Prop) → Prop
  | .nil, _, _, _, _ => False
  | .cons e .nil, m, σ, Q, X => wpE e m σ Q X
  | .cons e r, m, σ, Q, X => wpE e m σ (fun v σ₁ => TruthOK c d v σ₁ (fun t => if t then Q v σ₁ else wpOr r m σ₁ Q X)) X
def wpT : IE → Loc → AHeap → (Bool → AHeap → Prop) → (Addr → AHeap → Prop) → Prop
  | .not a, m, σ, Q, X => wpT a m σ (fun b σ₁ => Q (!b) σ₁) X
  | .and l, m, σ, Q, X => wpAllT l m σ Q X
  | .or l, m, σ, Q, X => wpAnyT l m σ Q X
  | .ite t a b, m, σ, Q, X => wpT t m σ (fun r σ₁ => if r then wpT a m σ₁ Q X else wpT b m σ₁ Q X) X
  | .cmp2 a op b op' e, m, σ, Q, X => wpE a m σ (fun x σ₁ => wpE b m σ₁ (fun y σ₂ => CmpOK c d op x y σ₂ (fun r σ₃ => TruthOK c d r σ₃ (fun t =>
      if t then wpE e m σ₃ (fun z σ₄ => CmpOK c d op' y z σ₄ (fun r' σ₅ => TruthOK c d r' σ₅ (fun t' => Q t' σ₅)) X) X else Q false σ₃)) X) X) X
  | e, m, σ, Q, X => wpE e m σ (fun v σ₁ => TruthOK c d v σ₁ (fun b => Q b σ₁)) X
def wpAllT : IEs → Loc → AHeap → (Bool → AHeap → Prop) → (Addr → AHeap → Prop) → Prop
  | .nil, _, σ, Q, _ => Q true σ
  | .cons e r, m, σ, Q, X => wpT e m σ (fun b σ₁ => if b then wpAllT r m σ₁ Q X else Q false σ₁) X
def wpAnyT : IEs → Loc → AHeap → (Bool → AHeap → Prop) → (Addr → AHeap → Prop) → Prop
  | .nil, _, σ, Q, _ => Q false σ
  | .cons e r, m, σ, Q, X => wpT e m σ (fun b σ₁ => if b then Q true σ₁ else wpAnyT r m σ₁ Q X) X
def wpIfs : IEs → Loc → AHeap → (Bool → AHeap → Prop) → (Addr → AHeap → Prop) → Prop
  | .nil, _, σ, Q, _ => Q true σ
  | .cons e r, m, σ, Q, X => wpT e m σ (fun b σ₁ => if b then wpIfs r m σ₁ Q X else Q false σ₁) X
end

mutual
def wpS : IS → Loc → AHeap → (Loc → AHeap → Prop) → (AV → AHeap → Prop) → (Addr → Loc → AHeap → Prop) → Prop
  | .pass, m, σ, N, _, _ => N m σ
  | .expr e, m, σ, N, _, X => wpE c d e m σ (fun _ σ₁ => N m σ₁) (fun C => X C m)
  | .assign t e, m, σ, N, _, X => wpE c d e m σ (fun v σ₁ => wpTgt c d t v m σ₁ (fun m' => N m' σ₁)) (fun C => X C m)
  | .asSub o i e, m, σ, N, _, X => wpE c d e m σ (fun v σ₁ => wpE c d o m σ₁ (fun ov σ₂ => wpE c d i m σ₂ (fun iv σ₃ => SetItemOK c d ov iv v σ₃ (N m) (fun C => X C m)) (fun C => X C m)) (fun C => X C m)) (fun C => X C m)
  | .asAttr o n e, m, σ, N, _, X => wpE c d e m σ (fun v σ₁ => wpE c d o m σ₁ (fun ov σ₂ => SetAttrOK c d ov n v σ₂ (N m) (fun C => X C m)) (fun C => X C m)) (fun C => X C m)
  | .ret e, m, σ, _, R, X => wpE c d e m σ R (fun C => X C m)
  | .ite t a b, m, σ, N, R, X => wpT c d t m σ (fun r σ₁ => if r then wpSs a m σ₁ N R X else wpSs b m σ₁ N R X) (fun C => X C m)
  | .loop t b, m, σ, N, R, _ => ∃ I : Nat → Loc → AHeap → Prop, (∃ n, I n m σ) ∧ ∀ n m' σ, I n m' σ →
      wpT c d t m' σ (fun r σ₁ => if r then wpSs b m' σ₁ (fun m'' σ₂ => ∃ k, k < n ∧ I k (m.only m'') σ₂) R (fun _ _ _ => False) else N m' σ₁) (fun _ _ => False)
  | .each t en src b, m, σ, N, R, X => (en = true → Glob c "enumerate" (.type "enumerate")) ∧ wpE c d src m σ (fun sv σ₁ => IterW c d en sv σ₁ (fun items keep =>
      compLoop keep (fun x m' σ k => wpTgt c d t x m' σ (fun m' => wpSs b m' σ (fun m'' σ₂ => k (m.only m'') σ₂) R (fun _ _ _ => False))) items m σ₁ N)) (fun C => X C m)
  | .stop, _, _, _, _, _ => False
  | .del o i, m, σ, N, _, X => wpE c d o m σ (fun ov σ₁ => wpE c d i m σ₁ (fun iv σ₂ => DelItemOK c d ov iv σ₂ (N m) (fun C => X C m)) (fun C => X C m)) (fun C => X C m)
def wpSs : ISs → Loc → AHeap → (Loc → AHeap → Prop) → (AV → AHeap → Prop) → (Addr → Loc → AHeap → Prop) → Prop
  | .nil, m, σ, N, _, _ => N m σ
  | .cons s r, m, σ, N, R, X => wpS s m σ (fun m' σ₁ => wpSs r m' σ₁ N R X) R X
end
end

-- Cx6
set_option Elab.async false
set_option linter.unusedVariables false
set_option linter.unusedSimpArgs false

def NK (env : Env) (W : Str → Prop) (ks : List (Str × NameKind)) : Prop :=
  ∀ x k, ks.lookup x = some k → (k = .local → env.kindOf x = some .local) ∧ (k = .cell → env.kindOf x = some .cell ∧ W x) ∧ (k = .free → env.kindOf x = some .free ∨ env.kindOf x = some .cell) ∧ (k = .globalImplicit → env.kindOf x = some .globalImplicit)

structure FS (c : Cx) (d : Nat) (ks : List (Str × NameKind)) (W : Str → Prop) (env : Env) (Fz : Fzn) (A : Around) (m : Loc) (σ : AHeap) (h : Heap) : Prop where
  base : Base c
  nk : NK env W ks
  room : Room A d
  bs : Bs c Fz
  st : St c.prog c.w Fz σ h
  fm : Fm W env m Fz σ h

section
variable (c : Cx) (W : Str → Prop) (env : Env) (Fz : Fzn)
def FPost (m : Loc) (s : Shared) (Q : AV → AHeap → Prop) : Value → Shared → Prop :=
  fun v s' => ∃ av σ', St c.prog c.w Fz σ' s'.heap ∧ Fm W env m Fz σ' s'.heap ∧ GrowS s s' ∧ RV s'.heap v av ∧ Q av σ'
def LPost (m : Loc) (s : Shared) (Q : List AV → AHeap → Prop) : List Value → Shared → Prop :=
  fun v s' => ∃ av σ', St c.prog c.w Fz σ' s'.heap ∧ Fm W env m Fz σ' s'.heap ∧ GrowS s s' ∧ RVs s'.heap v av ∧ Q av σ'
def BPost (m : Loc) (s : Shared) (Q : Bool → AHeap → Prop) : Bool → Shared → Prop :=
  fun b s' => ∃ σ', St c.prog c.w Fz σ' s'.heap ∧ Fm W env m Fz σ' s'.heap ∧ GrowS s s' ∧ Q b σ'
def FX (X : Addr → Loc → AHeap → Prop) : Value → Shared → Prop :=
  fun e s' => ∃ C m σ', St c.prog c.w Fz σ' s'.heap ∧ Fm W env m Fz σ' s'.heap ∧ IsExc (Frz env Fz s'.heap) σ' s'.heap e C ∧ X C m σ'
end

theorem RVs.nil_inv {h : Heap} {vs : List Value} (r : RVs h vs []) : vs = [] := by cases r; rfl
theorem RVs.cons_inv {h : Heap} {vs : List Value} {a l} (r : RVs h vs (a :: l)) : ∃ v vs', vs = v :: vs' ∧ RV h v a ∧ RVs h vs' l := by cases r; exact ⟨_, _, rfl, by assumption, by assumption⟩
theorem RVs.one {h : Heap} {v : Value} {a : AV} (r : RV h v a) : RVs h [v] [a] := .cons r .nil
theorem RVs.two {h : Heap} {v u : Value} {a b : AV} (r : RV h v a) (q : RV h u b) : RVs h [v, u] [a, b] := .cons r (.cons q .nil)

section
variable {c : Cx} {d : Nat} {ks : List (Str × NameKind)} {W : Str → Prop} {env : Env} {Fz : Fzn} {A : Around} {m : Loc} {σ : AHeap} {s : Shared} {X : Addr → Loc → AHeap → Prop}

theorem FS.next {σ' : AHeap} {h h' : Heap} (x : FS c d ks W env Fz A m σ h) (S : St c.prog c.w Fz σ' h') (F : Fm W env m Fz σ' h') : FS c d ks W env Fz A m σ' h' := ⟨x.base, x.nk, x.room, x.bs, S, F⟩
theorem FS.next' {m' : Loc} {σ' : AHeap} {h h' : Heap} (x : FS c d ks W env Fz A m σ h) (S : St c.prog c.w Fz σ' h') (F : Fm W env m' Fz σ' h') : FS c d ks W env Fz A m' σ' h' := ⟨x.base, x.nk, x.room, x.bs, S, F⟩
theorem FS.kin {h : Heap} (x : FS c d ks W env Fz A m σ h) : c.K.In h := x.base.kin.keeps fun b o e => x.st.fz b o (x.bs b o e)
theorem St.base {h : Heap} (S : St c.prog c.w Fz σ h) (hb : Bs c Fz) : ∀ b o, c.h₀.get? b = some o → h.get? b = some o := fun b o e => S.fz b o (hb b o e)

theorem bs_frz {h : Heap} (hb : Bs c Fz) : Bs c (Frz env Fz h) := fun b o e => .inl (hb b o e)

theorem exc_thaw {σ' : AHeap} {h h' : Heap} {e : Value} {C : Addr} (F : Fm W env m Fz σ h) (F' : Fm W env m Fz σ' h') (x : IsExc (Frz env Fz h) σ' h' e C) : IsExc (Frz env Fz h') σ' h' e C := by
  have key : ∀ a o, h'.get? a = some o → (∀ o, ¬ Frz env Fz h a o) → ∀ o, ¬ Frz env Fz h' a o := by
    intro a o ho hn o' hf
    rcases hf with hf | ⟨_, hf⟩
    · exact hn o' (.inl hf)
    · rcases hf with rfl | ⟨y, hy⟩
      · obtain ⟨mL, ⟨o1, _, _, h1, _⟩, _⟩ := F.ns
        exact hn o1 (.inr ⟨h1, .inl rfl⟩)
      · obtain ⟨v, o1, h1, _⟩ := F.cs y a hy
        exact hn o1 (.inr ⟨h1, .inr ⟨y, hy⟩⟩)
  obtain ⟨a, o, vs, e1, e2, e3, e4, e5, e6, e7, e8⟩ := x
  refine ⟨a, o, vs, e1, e2, e3, e4, e5, key a o e2 e6, e7, ?_⟩
  rcases e8 with e8 | ⟨t, to, tvs, f1, f2, f3, f4, f5, f6, f7⟩
  · exact .inl e8
  · exact .inr ⟨t, to, tvs, f1, f2, f3, f4, f5, key t to f3 f6, f7⟩

theorem lift_op {t : List Value → Sem Value} {as : List AV} {vs : List Value} {Q : AV → AHeap → Prop} (x : FS c d ks W env Fz A m σ s.heap) (r : RVs s.heap vs as) (h : OpOK c d t as σ Q (fun C => X C m)) :
    wpAny c.M A (t vs) (FPost c W env Fz m s Q) (FX c W env Fz X) s := by
  refine wpAny_mono (h A (Frz env Fz s.heap) s vs x.room x.base (bs_frz x.bs) (x.st.freeze x.fm) r) ?_ ?_
  · rintro v s' ⟨av, σ', S', g, r', q⟩
    exact ⟨av, σ', S'.unfreeze, x.fm.thaw S' g.g, g, r', q⟩
  · rintro e s' ⟨C, σ', S', g, hx, q⟩
    have F' := x.fm.thaw S' g.g
    exact ⟨C, m, σ', S'.unfreeze, F', exc_thaw x.fm F' hx, q⟩
end

-- Cx7
set_option Elab.async false
set_option linter.unusedVariables false
set_option linter.unusedSimpArgs false
set_option maxRecDepth 4000

section
variable {c : Cx} {d : Nat} {ks : List (Str × NameKind)} {W : Str → Prop} {env : Env} {Fz : Fzn} {A : Around} {m : Loc} {σ : AHeap} {s : Shared} {X : Addr → Loc → AHeap → Prop} {E : Value → Shared → Prop}

/-! names -/
theorem strIn_eq {nm : List String} {x : Str} {y : String} (e : strIn nm x = some y) : Str.ofString y = x := by
  have := List.find?_some e
  exact beq_iff_eq.mp this

theorem glob_name {x : String} {id : Str} {pos : Pos} {v : Value} {Q : Value → Shared → Prop} (F : FS c d ks W env Fz A m σ s.heap) (e : Str.ofString x = id) (hk : env.kindOf id = some .globalImplicit) (hd : (id == ("__debug__" : Str)) = false) (g : Glob c x v) (h : Q v s) :
    wpAny c.M A (eval (.Name id pos) env) Q E s := by
  subst e
  have X := F.kin
  obtain ⟨p, loose, mg, mb, T0⟩ := F.base.top
  have T := T0.keeps (F.st.base F.bs)
  have hkd := F.fm.fn
  rcases g with g | ⟨g, hv, hn⟩
  · refine Name_function_global hkd hk ?_ hd
    unfold loadGlobal
    rw [F.fm.gl]
    exact wpAny_bind ((looks_nsIn X g).here (wpAny_pure h))
  · refine Name_function_global hkd hk ?_ hd
    refine loadGlobal_builtin (mg := mg) (mb := mb) (by rw [F.fm.gl]; exact T.g) ?_ (by rw [F.fm.bl]; exact T.b) ((T.builtins _ hn).trans hv) h
    exact mg_none_of X T.g g

theorem var_name {x : String} {id : Str} {pos : Pos} {av : AV} {Q : AV → AHeap → Prop} (F : FS c d ks W env Fz A m σ s.heap) (e : Str.ofString x = id) (hk : isRead (ks.lookup id) = true) (hd : (id == ("__debug__" : Str)) = false) (hn : (id == ("__classdict__" : Str)) = false) (hm : m.lookup x = some av) (h : Q av σ) :
    wpAny c.M A (eval (.Name id pos) env) (FPost c W env Fz m s Q) E s := by
  subst e
  have post : ∀ v, RV s.heap v av → FPost c W env Fz m s Q v s := fun v r => ⟨av, σ, F.st, F.fm, .refl _, r, h⟩
  have cellcase : env.kindOf (Str.ofString x) = some .cell ∨ env.kindOf (Str.ofString x) = some .free → wpAny c.M A (eval (.Name (Str.ofString x) pos) env) (FPost c W env Fz m s Q) E s := by
    intro k
    obtain ⟨cc, v, e1, e2, e3⟩ := F.fm.cv x av hm k
    rcases k with k | k
    · exact wpAny_Name (wpAny_loadName_cell F.fm.fn k e1 e2 (post v e3)) hd
    · exact wpAny_Name (wpAny_loadName_free F.fm.fn k e1 e2 (post v e3) hn) hd
  cases q : ks.lookup (Str.ofString x) with
  | none => rw [q] at hk; cases hk
  | some k =>
    obtain ⟨n1, n2, n3, n4⟩ := F.nk _ _ q
    rw [q] at hk
    cases k with
    | «local» =>
      obtain ⟨mL, hn', hmL⟩ := F.fm.ns
      obtain ⟨v, hv, r⟩ := hmL x av hm (n1 rfl)
      exact wpAny_Name (wpAny_loadName_local F.fm.fn (n1 rfl) hn' hv (post v r)) hd
    | cell => exact cellcase (.inl (n2 rfl).1)
    | free => exact cellcase (n3 rfl).symm
    | globalExplicit => cases hk
    | globalImplicit => cases hk

/-! what the translation lets through has no star -/
theorem tr_noStar {nm : List String} {n : Nat} {e : Expr} {ir : IE} (h : tr nm n ks e = some ir) : ∀ rest env, starEach (e :: rest) env = (false, eval e env) :: starEach rest env := by
  intro rest env
  cases n with
  | zero => simp [tr] at h
  | succ n => cases e <;> first | rfl | simp [tr] at h

theorem trList_nostar {nm : List String} {n : Nat} (pos : Pos) (env : Env) : ∀ {es : List Expr} {irs : IEs}, trList (tr nm n ks) es = some irs → (backTo pos (starEach es env)).any (·.1) = false
  | [], _, _ => rfl
  | e :: es, irs, h => by
    simp only [trList] at h
    split at h
    · rename_i i is h1 h2
      rw [tr_noStar h1]
      show (false || (backTo pos (starEach es env)).any (·.1)) = false
      rw [trList_nostar pos env h2]; rfl
    · cases h

theorem evalArgs_all {f : Value} {args : List (Bool × Sem Value)} {M : Model} {Q : Args → Shared → Prop} (hp : args.any (·.1) = false) (h : wpAny M A (spliced args) (fun vs s' => Q ⟨vs, []⟩ s') E s) :
    wpAny M A (evalArgs f true args []) Q E s := by
  cases args with
  | nil =>
    unfold evalArgs
    show wpAny M A (spliced [] >>= _) Q E s
    refine wpAny_bind (wpAny_mono h (fun vs s' h' => ?_) fun _ _ x => x)
    refine wpAny_holding ?_
    exact wpAny_bind (wpAny_pure (wpAny_bind (wpAny_pure (wpAny_pure h'))))
  | cons a rest =>
    obtain ⟨st, x⟩ := a
    cases st with
    | true => simp at hp
    | false => exact evalArgs_plain h

theorem callWith_callee {pos : Pos} {v : Value} {first : List Value} {args : List (Bool × Sem Value)} {Q : Value → Shared → Prop} (hc : Callee c v) (hp : args.any (·.1) = false)
    (h : wpAny c.M A (spliced args) (fun vs s₁ => c.K.In s₁.heap ∧ wpAny c.M A (call v (first ++ vs)) Q E s₁) E s) : wpAny c.M A (callWith pos v first args []) Q E s := by
  rcases hc with ⟨i, rfl⟩ | ⟨T, rfl⟩ | ⟨a, o, fd, rfl, ho, hd⟩ | ⟨a, o, cd, rfl, ho, hd, hsp⟩
  · exact callWith_builtin hp (evalArgs_all hp (wpAny_mono h (fun _ _ x => x.2) fun _ _ x => x))
  · exact PySem.callWith_type hp (evalArgs_all hp (wpAny_mono h (fun _ _ x => x.2) fun _ _ x => x))
  · exact callWith_function (o := o) (fd := fd) (evalArgs_all hp (wpAny_mono h (fun _ _ x => ⟨⟨x.1 _ _ ho, hd⟩, x.2⟩) fun _ _ x => x))
  · unfold callWith
    refine wpAny_bind (wpAny_holding (wpAny_mono (evalArgs_all (f := .ref a) (Q := fun (x : Args) (s₁ : Shared) => c.K.In s₁.heap ∧ wpAny c.M A (call (.ref a) (first ++ x.pos) x.kw) Q E s₁) hp h) (fun x s₁ h₁ => wpAny_bind (wpAny_standAt ?_)) fun _ _ x => x))
    simp only [hp, List.any_nil, Bool.or_false]
    refine wpAny_bind ?_
    unfold keeperOf
    refine wpAny_bind (wpAny_load (h₁.1 _ _ ho) ?_)
    rw [hd]
    refine wpAny_bind ((looks_specialIn h₁.1 hsp).here ?_)
    refine wpAny_pure ?_
    exact wpAny_bind (wpAny_mono h₁.2 (fun r s₂ hr => wpAny_bind (wpAny_holding (wpAny_point (wpAny_pure hr)))) fun _ _ x => x)

theorem base_plain {o : Expr} {n : Str} {t : Sem Value} (h : plainBase o = true) : attributeBase o n env t = t := by
  cases o <;> first | rfl | skip
  rename_i f args kw pos
  cases f <;> first | rfl | (simp [plainBase] at h)

theorem release_wp {vs keep : List Value} {M : Model} {Q : Unit → Shared → Prop} (h : Q () s) : wpAny M A (release vs keep) Q E s := wpAny_release h

/-! the meaning of one expression, and of one test -/
def EvS (c : Cx) (d : Nat) (ks : List (Str × NameKind)) (ir : IE) (e : Expr) : Prop :=
  ∀ W env Fz A m σ s Q X, FS c d ks W env Fz A m σ s.heap → wpE c d ir m σ Q (fun C => X C m) → wpAny c.M A (eval e env) (FPost c W env Fz m s Q) (FX c W env Fz X) s
def TvS (c : Cx) (d : Nat) (ks : List (Str × NameKind)) (ir : IE) (e : Expr) : Prop :=
  ∀ W env Fz A m σ s Q X, FS c d ks W env Fz A m σ s.heap → wpT c d ir m σ Q (fun C => X C m) → wpAny c.M A (isTrue e env (eval e env)) (BPost c W env Fz m s Q) (FX c W env Fz X) s

variable {nm : List String} {n : Nat}

theorem spliced_of (IH : ∀ e ir, tr nm n ks e = some ir → EvS c d ks ir e) (pos : Pos) : ∀ (es : List Expr) (irs : IEs) (σ : AHeap) (s : Shared) (Q : List AV → AHeap → Prop), trList (tr nm n ks) es = some irs → FS c d ks W env Fz A m σ s.heap →
    wpEs c d irs m σ Q (fun C => X C m) → wpAny c.M A (spliced (backTo pos (starEach es env))) (LPost c W env Fz m s Q) (FX c W env Fz X) s
  | [], irs, σ, s, Q, ht, F, h => by
    simp only [trList, Option.some.injEq] at ht; subst ht
    simp only [wpEs] at h
    exact wpAny_items_nil ⟨[], σ, F.st, F.fm, .refl _, .nil, h⟩
  | e :: es, irs, σ, s, Q, ht, F, h => by
    simp only [trList] at ht
    split at ht
    · rename_i i is h1 h2
      simp only [Option.some.injEq] at ht; subst ht
      simp only [wpEs] at h
      refine wpAny_items_cons ?_ (tr_noStar h1 es env)
      refine wpAny_mono (IH e i h1 W env Fz A m σ s _ X F h) ?_ (fun _ _ x => x)
      rintro v s₁ ⟨av, σ₁, S₁, F₁, g₁, r₁, q₁⟩
      refine wpAny_mono (spliced_of IH pos es is σ₁ s₁ _ h2 (F.next S₁ F₁) q₁) ?_ (fun _ _ x => x)
      rintro vs s₂ ⟨as, σ₂, S₂, F₂, g₂, r₂, q₂⟩
      exact ⟨av :: as, σ₂, S₂, F₂, g₁.trans g₂, .cons (r₁.grow g₂.g) r₂, q₂⟩
    · cases ht

theorem new_obj {o : Obj} {ce : Cell} {Q : AV → AHeap → Prop} (F : FS c d ks W env Fz A m σ s.heap) (hh : Holds c.prog c.w (s.heap.push o) s.heap.objs.size ce) (h : ∀ a, σ a = none → Q (.ref a) (σ.set a ce)) :
    FPost c W env Fz m s Q (.ref s.heap.objs.size) { s with heap := s.heap.push o } := by
  obtain ⟨S', g, hσ⟩ := (F.st.freeze F.fm).new (not_there s.heap) (keeps_push s.heap o) hh
  exact ⟨.ref s.heap.objs.size, σ.set s.heap.objs.size ce, S'.unfreeze, F.fm.thaw S' g, ⟨g, rfl, rfl⟩, .ref _, h _ hσ⟩

theorem ev_tuple (IH : ∀ e ir, tr nm n ks e = some ir → EvS c d ks ir e) {es : List Expr} {irs : IEs} {k : Nat} {pos : Pos} (ht : trList (tr nm n ks) es = some irs) : EvS c d ks (.tup irs) (.Tuple es k pos) := by
  intro W env Fz A m σ s Q X F h
  simp only [wpE] at h
  refine wpAny_Tuple (wpAny_mono (spliced_of IH pos es irs σ s _ ht F h) ?_ (fun _ _ x => x))
  rintro vs s₁ ⟨as, σ₁, S₁, F₁, g₁, r₁, hl, q₁⟩
  have k1 := keeps_push s₁.heap { cls := .type "tuple", data := .seq vs.toArray }
  refine ⟨by rw [r₁.length]; exact hl, .tup as, σ₁, S₁.push _, F₁.more k1, g₁.trans ⟨grow_keeps k1, rfl, rfl⟩, ?_, q₁⟩
  exact .tup _ vs.toArray as ⟨_, Heap.get?_push_size _ rfl⟩ (r₁.grow (grow_keeps k1))

theorem ev_list (IH : ∀ e ir, tr nm n ks e = some ir → EvS c d ks ir e) {es : List Expr} {irs : IEs} {pos : Pos} (ht : trList (tr nm n ks) es = some irs) : EvS c d ks (.list irs) (.List es pos) := by
  intro W env Fz A m σ s Q X F h
  simp only [wpE] at h
  refine wpAny_List (wpAny_mono (spliced_of IH pos es irs σ s _ ht F h) ?_ (fun _ _ x => x))
  rintro vs s₁ ⟨as, σ₁, S₁, F₁, g₁, r₁, hl, q₁⟩
  refine ⟨by rw [r₁.length]; exact hl, ?_⟩
  have k1 := keeps_push s₁.heap { cls := .type "list", data := .seq vs.toArray }
  obtain ⟨av, σ', S', F', g', r', q'⟩ := new_obj (F.next S₁ F₁) (ce := .list as) ⟨vs.toArray, 0, Heap.get?_push_size _ rfl, r₁.grow (grow_keeps k1)⟩ q₁
  exact ⟨av, σ', S', F', g₁.trans g', r', q'⟩

theorem ev_bin {a b : Expr} {x y : IE} {op : Operator} {pos : Pos} (ha : EvS c d ks x a) (hb : EvS c d ks y b) : EvS c d ks (.bin op x y) (.BinOp a op b pos) := by
  intro W env Fz A m σ s Q X F h
  simp only [wpE] at h
  refine wpAny_BinOp (wpAny_mono (ha W env Fz A m σ s _ X F h) ?_ fun _ _ x => x)
  rintro v s₁ ⟨av, σ₁, S₁, F₁, g₁, r₁, q₁⟩
  refine wpAny_mono (hb W env Fz A m σ₁ s₁ _ X (F.next S₁ F₁) q₁) ?_ fun _ _ x => x
  rintro u s₂ ⟨bv, σ₂, S₂, F₂, g₂, r₂, q₂⟩
  refine wpAny_mono (lift_op (t := two (binaryOp op)) (F.next S₂ F₂) (.two (r₁.grow g₂.g) r₂) q₂) ?_ fun _ _ x => x
  rintro z s₃ ⟨cv, σ₃, S₃, F₃, g₃, r₃, q₃⟩
  exact ⟨cv, σ₃, S₃, F₃, g₁.trans (g₂.trans g₃), r₃, q₃⟩

theorem ev_cmp {a b : Expr} {x y : IE} {op : CmpOp} {pos : Pos} (hm : behindInMarks op b = false) (ha : EvS c d ks x a) (hb : EvS c d ks y b) : EvS c d ks (.cmp x op y) (.Compare a [op] [b] pos) := by
  intro W env Fz A m σ s Q X F h
  simp only [wpE] at h
  refine wpAny_Compare1 (wpAny_mono (ha W env Fz A m σ s _ X F h) ?_ fun _ _ x => x) hm
  rintro v s₁ ⟨av, σ₁, S₁, F₁, g₁, r₁, q₁⟩
  refine wpAny_mono (hb W env Fz A m σ₁ s₁ _ X (F.next S₁ F₁) q₁) ?_ fun _ _ x => x
  rintro u s₂ ⟨bv, σ₂, S₂, F₂, g₂, r₂, q₂⟩
  refine wpAny_mono (lift_op (t := two (compareOp op)) (F.next S₂ F₂) (.two (r₁.grow g₂.g) r₂) q₂) ?_ fun _ _ x => x
  rintro z s₃ ⟨cv, σ₃, S₃, F₃, g₃, r₃, q₃⟩
  exact ⟨cv, σ₃, S₃, F₃, g₁.trans (g₂.trans g₃), r₃, q₃⟩

theorem truth_at {v : Value} {av : AV} {Q : Bool → Prop} {P : Bool → Shared → Prop} (F : FS c d ks W env Fz A m σ s.heap) (r : RV s.heap v av) (h : TruthOK c d av σ Q) (k : ∀ b s', SameS s s' → Q b → P b s') : wpAny c.M A (truthy v) P E s :=
  h A Fz s v E P F.room F.base F.bs F.st r k

theorem st_same {s s' : Shared} (e : s'.heap = s.heap) (S : St c.prog c.w Fz σ s.heap) : St c.prog c.w Fz σ s'.heap := e ▸ S
theorem fm_same {s s' : Shared} (e : s'.heap = s.heap) (S : Fm W env m Fz σ s.heap) : Fm W env m Fz σ s'.heap := e ▸ S

theorem ev_not {a : Expr} {x : IE} {pos : Pos} (ha : EvS c d ks x a) : EvS c d ks (.not x) (.UnaryOp .Not a pos) := by
  intro W env Fz A m σ s Q X F h
  simp only [wpE] at h
  refine wpAny_UnaryOp (wpAny_mono (ha W env Fz A m σ s _ X F h) ?_ fun _ _ x => x)
  rintro v s₁ ⟨av, σ₁, S₁, F₁, g₁, r₁, q₁⟩
  refine not_value (truth_at (F.next S₁ F₁) r₁ q₁ fun b s' e q => ?_)
  exact ⟨.bool (!b), σ₁, st_same e.h S₁, fm_same e.h F₁, g₁.trans e.grow, .bool _, q⟩

theorem ev_neg {a : Expr} {x : IE} {pos : Pos} (ha : EvS c d ks x a) : EvS c d ks (.neg x) (.UnaryOp .USub a pos) := by
  intro W env Fz A m σ s Q X F h
  simp only [wpE] at h
  refine wpAny_UnaryOp (wpAny_mono (ha W env Fz A m σ s _ X F h) ?_ fun _ _ x => x)
  rintro v s₁ ⟨av, σ₁, S₁, F₁, g₁, r₁, q₁⟩
  refine wpAny_mono (lift_op (t := one (unaryOp .USub)) (F.next S₁ F₁) (.one r₁) q₁) ?_ fun _ _ x => x
  rintro z s₃ ⟨cv, σ₃, S₃, F₃, g₃, r₃, q₃⟩
  exact ⟨cv, σ₃, S₃, F₃, g₁.trans g₃, r₃, q₃⟩

theorem subscripted_wp {i : Expr} {v u : Value} {Q : Value → Shared → Prop} {M : Model} (h : wpAny M A (subT v u) Q E s) : wpAny M A (getitemInPython v >>= fun p => subscripted i p v u) Q E s := by
  intro Γ p hΓ
  have h1 := h Γ p hΓ
  unfold subT at h1
  rw [Sem.wp_bind'] at h1 ⊢
  refine Sem.wp_mono M Γ _ (fun b p' s' h' => ?_) (fun _ _ _ h' => h') _ _ h1
  cases b with
  | true => exact absurd h' (by rw [if_pos rfl]; simp)
  | false =>
    rw [if_neg (by simp)] at h'
    unfold subscripted
    split
    · rw [Sem.wp_operate]; exact h'
    · rename_i hh; cases hh
    · rw [Sem.wp_operate]; exact h'

theorem ev_sub {a i : Expr} {x y : IE} {pos : Pos} (ha : EvS c d ks x a) (hi : EvS c d ks y i) : EvS c d ks (.sub x y) (.Subscript a i pos) := by
  intro W env Fz A m σ s Q X F h
  simp only [wpE] at h
  rw [arm_eval_Subscript]
  refine wpAny_bind (wpAny_mono (ha W env Fz A m σ s _ X F h) ?_ fun _ _ x => x)
  rintro v s₁ ⟨av, σ₁, S₁, F₁, g₁, r₁, q₁⟩
  refine wpAny_bind (wpAny_holding (wpAny_mono (hi W env Fz A m σ₁ s₁ _ X (F.next S₁ F₁) q₁) ?_ fun _ _ x => x))
  rintro u s₂ ⟨bv, σ₂, S₂, F₂, g₂, r₂, q₂⟩
  refine wpAny_bind (wpAny_standAt ?_)
  have key := subscripted_wp (i := i) (lift_op (t := two subT) (vs := [v, u]) (F.next S₂ F₂) (.two (r₁.grow g₂.g) r₂) q₂)
  have assoc : (getitemInPython v >>= fun p => (subscripted i p v u >>= fun r => letTemporaryGo a v r >>= fun _ => pure r)) = ((getitemInPython v >>= fun p => subscripted i p v u) >>= fun r => letTemporaryGo a v r >>= fun _ => pure r) := (bind_assoc _ _ _).symm
  show wpAny _ _ (getitemInPython v >>= fun p => (subscripted i p v u >>= fun r => letTemporaryGo a v r >>= fun _ => pure r)) _ _ _
  rw [assoc]
  refine wpAny_bind (wpAny_mono key ?_ fun _ _ x => x)
  rintro z s₃ ⟨cv, σ₃, S₃, F₃, g₃, r₃, q₃⟩
  exact wpAny_bind (wpAny_letTemporaryGo (wpAny_pure ⟨cv, σ₃, S₃, F₃, g₁.trans (g₂.trans g₃), r₃, q₃⟩))

theorem ev_attr {a : Expr} {x : IE} {n : String} {nn : Str} {pos : Pos} (hp : plainBase a = true) (e : Str.ofString n = nn) (ha : EvS c d ks x a) : EvS c d ks (.attr x n) (.Attribute a nn pos) := by
  subst e
  intro W env Fz A m σ s Q X F h
  simp only [wpE] at h
  rw [arm_eval_Attribute, base_plain hp]
  refine wpAny_bind (wpAny_mono (ha W env Fz A m σ s _ X F h) ?_ fun _ _ x => x)
  rintro v s₁ ⟨av, σ₁, S₁, F₁, g₁, r₁, q₁⟩
  refine wpAny_bind (wpAny_standAt (wpAny_bind (wpAny_holding ?_)))
  refine wpAny_mono (lift_op (t := one fun v => getAttr v (Str.ofString n) true) (F.next S₁ F₁) (.one r₁) q₁) ?_ fun _ _ x => x
  rintro z s₃ ⟨cv, σ₃, S₃, F₃, g₃, r₃, q₃⟩
  exact wpAny_bind (wpAny_letTemporaryGo (wpAny_pure ⟨cv, σ₃, S₃, F₃, g₁.trans g₃, r₃, q₃⟩))

theorem call_end {pos : Pos} {v : Value} {f : AV} {first : List Value} {fs : List AV} {es : List Expr} {irs : IEs} {Q : AV → AHeap → Prop} {s0 : Shared} (IH : ∀ e ir, tr nm n ks e = some ir → EvS c d ks ir e) (ht : trList (tr nm n ks) es = some irs)
    (F : FS c d ks W env Fz A m σ s.heap) (rf : RV s.heap v f) (rfs : RVs s.heap first fs) (g0 : GrowS s0 s)
    (h : (∃ v, f = .raw v ∧ Callee c v) ∧ wpEs c d irs m σ (fun as σ₂ => CallOK c d f (fs ++ as) σ₂ Q (fun C => X C m)) (fun C => X C m)) :
    wpAny c.M A (callWith pos v first (backTo pos (starEach es env)) (backToKw pos (keywordEach [] env))) (FPost c W env Fz m s0 Q) (FX c W env Fz X) s := by
  obtain ⟨⟨v', rfl, hcal⟩, h⟩ := h
  have hv : v' = v := by cases rf; rfl
  subst hv
  show wpAny c.M A (callWith pos v' first (backTo pos (starEach es env)) []) _ _ s
  refine callWith_callee hcal (trList_nostar pos env ht) (wpAny_mono (spliced_of IH pos es irs σ s _ ht F h) ?_ fun _ _ x => x)
  rintro vs s₁ ⟨as, σ₁, S₁, F₁, g₁, r₁, q₁⟩
  have F' := F.next S₁ F₁
  refine ⟨F'.kin, ?_⟩
  refine wpAny_mono (lift_op (t := callL) (vs := v' :: (first ++ vs)) F' (.cons (rf.grow g₁.g) ((rfs.grow g₁.g).append r₁)) q₁) ?_ fun _ _ x => x
  rintro z s₃ ⟨cv, σ₃, S₃, F₃, g₃, r₃, q₃⟩
  exact ⟨cv, σ₃, S₃, F₃, g0.trans (g₁.trans g₃), r₃, q₃⟩

theorem ev_call {f : Expr} {x : IE} {es : List Expr} {irs : IEs} {pos : Pos} (IH : ∀ e ir, tr nm n ks e = some ir → EvS c d ks ir e) (hf : EvS c d ks x f) (ht : trList (tr nm n ks) es = some irs) (hna : ∀ o a p, f ≠ .Attribute o a p) :
    EvS c d ks (.call x irs) (.Call f es [] pos) := by
  intro W env Fz A m σ s Q X F h
  simp only [wpE] at h
  have e : eval (.Call f es [] pos) env = (eval f env >>= fun fv => callWith pos fv [] (backTo pos (starEach es env)) (backToKw pos (keywordEach [] env))) := by
    cases f <;> first | rfl | exact absurd rfl (hna _ _ _)
  rw [e]
  refine wpAny_bind (wpAny_mono (hf W env Fz A m σ s _ X F h) ?_ fun _ _ x => x)
  rintro v s₁ ⟨av, σ₁, S₁, F₁, g₁, r₁, q₁⟩
  exact call_end IH ht (F.next S₁ F₁) r₁ .nil g₁ q₁

theorem form_ok {es : List Expr} {irs : IEs} {pos : Pos} (ht : trList (tr nm n ks) es = some irs) (hl : es.length < 30) (env : Env) :
    methodCallForm (es.length + ([] : List Keyword).length) (backTo pos (starEach es env)) (backToKw pos (keywordEach [] env)) = true := by
  unfold methodCallForm
  have h1 := trList_nostar pos env ht
  have h2 : (backTo pos (starEach es env)).all (fun x => !x.1) = true := by
    rw [List.all_eq_not_any_not]
    simp only [Bool.not_not]
    rw [h1]; rfl
  rw [h2]
  have : ((backToKw pos (keywordEach [] env)).all fun x => x.1.isSome) = true := rfl
  rw [this]
  have : ([] : List Keyword).length = 0 := rfl
  simp only [Bool.true_and, decide_eq_true_eq]
  have h3 : (backToKw pos (keywordEach [] env)).isEmpty = true := rfl
  rw [h3]
  simpa using hl

theorem ev_meth {o : Expr} {x : IE} {na : String} {nn : Str} {es : List Expr} {irs : IEs} {apos pos : Pos} (IH : ∀ e ir, tr nm n ks e = some ir → EvS c d ks ir e) (ho : EvS c d ks x o) (ht : trList (tr nm n ks) es = some irs)
    (e : Str.ofString na = nn) (hp : plainBase o = true) (hl : (apos.endLine == pos.line) = true) (hlen : es.length < 30) : EvS c d ks (.meth x na irs) (.Call (.Attribute o nn apos) es [] pos) := by
  subst e
  intro W env Fz A m σ s Q X F h
  simp only [wpE] at h
  rw [arm_eval_Call, base_plain hp]
  refine wpAny_bind (wpAny_mono (ho W env Fz A m σ s _ X F h) ?_ fun _ _ x => x)
  rintro v s₁ ⟨av, σ₁, S₁, F₁, g₁, r₁, q₁⟩
  refine wpAny_bind (wpAny_standAt ?_)
  unfold methodCall
  rw [form_ok ht hlen env]
  have hpos : methodCallPos true o env apos pos = pure pos := by unfold methodCallPos; simp [hl]
  refine wpAny_bind (wpAny_holding ?_)
  show wpAny _ _ (getMethod v (Str.ofString na) _) _ _ _
  refine q₁ A Fz s₁ v _ _ _ F.room F.base F.bs S₁ r₁ ?_
  intro f first fv as s' e rf ras q
  refine wpAny_bind (wpAny_of_eq hpos ?_)
  have F' : FS c d ks W env Fz A m σ₁ s'.heap := by rw [e.h]; exact F.next S₁ F₁
  refine call_end IH ht F' (by rw [e.h]; exact rf) (by rw [e.h]; exact ras) (g₁.trans e.grow) q

end

-- Cx8
set_option Elab.async false
set_option linter.unusedVariables false
set_option linter.unusedSimpArgs false
set_option maxRecDepth 4000

def FzH (Fz : Fzn) (a : Addr) (o : Obj) : Fzn := fun b p => Fz b p ∨ (b = a ∧ p = o)

theorem IsExc.less {Fz Fz' : Fzn} {σ : AHeap} {h : Heap} {e : Value} {C : Addr} (k : ∀ a o, Fz' a o → Fz a o) (x : IsExc Fz σ h e C) : IsExc Fz' σ h e C := by
  obtain ⟨a, o, vs, e1, e2, e3, e4, e5, e6, e7, e8⟩ := x
  refine ⟨a, o, vs, e1, e2, e3, e4, e5, fun o q => e6 o (k _ _ q), e7, ?_⟩
  rcases e8 with e8 | ⟨t, to, tvs, f1, f2, f3, f4, f5, f6, f7⟩
  · exact .inl e8
  · exact .inr ⟨t, to, tvs, f1, f2, f3, f4, f5, fun o q => f6 o (k _ _ q), f7⟩

section
variable {c : Cx} {d : Nat} {ks : List (Str × NameKind)} {W : Str → Prop} {env : Env} {Fz : Fzn} {A : Around} {m : Loc} {σ : AHeap} {s : Shared} {X : Addr → Loc → AHeap → Prop} {E : Value → Shared → Prop}
variable {nm : List String} {n : Nat}

theorem St.hold {h : Heap} {a : Addr} {o : Obj} (S : St c.prog c.w Fz σ h) (ho : h.get? a = some o) (hσ : σ a = none) : St c.prog c.w (FzH Fz a o) σ h :=
  ⟨fun b p q => by rcases q with q | ⟨rfl, rfl⟩; exact S.fz b p q; exact ho, S.cell, fun b ce p e q => by
    rcases q with q | ⟨rfl, rfl⟩
    · exact S.apart b ce p e q
    · rw [hσ] at e; cases e⟩
theorem St.unhold {h : Heap} {a : Addr} {o : Obj} (S : St c.prog c.w (FzH Fz a o) σ h) : St c.prog c.w Fz σ h := ⟨fun b p q => S.fz b p (.inl q), S.cell, fun b ce p e q => S.apart b ce p e (.inl q)⟩
theorem Fm.hold {h : Heap} {a : Addr} {o : Obj} (F : Fm W env m Fz σ h) (hl : a ≠ env.locals) (hc : ∀ x : Str, env.cells.lookup x ≠ some a) : Fm W env m (FzH Fz a o) σ h :=
  ⟨F.fn, F.gl, F.bl, F.ns, F.cs, F.cv, fun p q => by
    rcases q with q | ⟨q, _⟩
    · exact F.nfz p q
    · exact hl q.symm, F.nσ, fun x cc w e => ⟨fun p q => by
      rcases q with q | ⟨rfl, _⟩
      · exact (F.cw x cc w e).1 p q
      · exact hc x e, (F.cw x cc w e).2⟩, F.hc⟩
theorem Fm.unhold {h : Heap} {a : Addr} {o : Obj} (F : Fm W env m (FzH Fz a o) σ h) : Fm W env m Fz σ h :=
  ⟨F.fn, F.gl, F.bl, F.ns, F.cs, F.cv, fun p q => F.nfz p (.inl q), F.nσ, fun x cc w e => ⟨fun p q => (F.cw x cc w e).1 p (.inl q), (F.cw x cc w e).2⟩, F.hc⟩
/-- the objects ai kept still -/
def FzS (Fz : Fzn) (ai : Addr → Prop) (h : Heap) : Fzn := fun b o => Fz b o ∨ (ai b ∧ h.get? b = some o)
theorem St.holdS {h : Heap} {ai : Addr → Prop} (S : St c.prog c.w Fz σ h) (hσ : ∀ a, ai a → σ a = none) : St c.prog c.w (FzS Fz ai h) σ h :=
  ⟨fun b p q => by rcases q with q | ⟨_, q⟩; exact S.fz b p q; exact q, S.cell, fun b ce p e q => by
    rcases q with q | ⟨q, _⟩
    · exact S.apart b ce p e q
    · rw [hσ b q] at e; cases e⟩
theorem St.unholdS {h h' : Heap} {ai : Addr → Prop} (S : St c.prog c.w (FzS Fz ai h') σ h) : St c.prog c.w Fz σ h := ⟨fun b p q => S.fz b p (.inl q), S.cell, fun b ce p e q => S.apart b ce p e (.inl q)⟩
theorem St.keptS {h h' : Heap} {ai : Addr → Prop} (S : St c.prog c.w (FzS Fz ai h') σ h) : ∀ a o, ai a → h'.get? a = some o → h.get? a = some o := fun a o x e => S.fz a o (.inr ⟨x, e⟩)
theorem St.noneS {h h' : Heap} {ai : Addr → Prop} (S : St c.prog c.w (FzS Fz ai h') σ h) (ht : ∀ a, ai a → ∃ o, h'.get? a = some o) : ∀ a, ai a → σ a = none := fun a x => by
  cases e : σ a with
  | none => rfl
  | some ce => obtain ⟨o, ho⟩ := ht a x; exact absurd (.inr ⟨x, ho⟩) (S.apart a ce o e)
theorem Fm.holdS {h h' : Heap} {ai : Addr → Prop} (F : Fm W env m Fz σ h) (hl : ¬ ai env.locals) (hc : ∀ (x : Str) a, env.cells.lookup x = some a → ¬ ai a) : Fm W env m (FzS Fz ai h') σ h :=
  ⟨F.fn, F.gl, F.bl, F.ns, F.cs, F.cv, fun p q => by
    rcases q with q | ⟨q, _⟩
    · exact F.nfz p q
    · exact hl q, F.nσ, fun x cc w e => ⟨fun p q => by
      rcases q with q | ⟨q, _⟩
      · exact (F.cw x cc w e).1 p q
      · exact hc x cc e q, (F.cw x cc w e).2⟩, F.hc⟩
theorem Fm.unholdS {h h' : Heap} {ai : Addr → Prop} (F : Fm W env m (FzS Fz ai h') σ h) : Fm W env m Fz σ h :=
  ⟨F.fn, F.gl, F.bl, F.ns, F.cs, F.cv, fun p q => F.nfz p (.inl q), F.nσ, fun x cc w e => ⟨fun p q => (F.cw x cc w e).1 p (.inl q), (F.cw x cc w e).2⟩, F.hc⟩
theorem Fm.far {h : Heap} {a : Addr} (F : Fm W env m Fz σ h) (ha : ∀ o, h.get? a ≠ some o) : a ≠ env.locals ∧ ∀ x : Str, env.cells.lookup x ≠ some a := by
  constructor
  · rintro rfl
    obtain ⟨mL, ⟨o, _, _, e, _⟩, _⟩ := F.ns
    exact ha o e
  · intro x e
    obtain ⟨v, o, e', _⟩ := F.cs x a e
    exact ha o e'
theorem St.freeσ {h : Heap} {a : Addr} (S : St c.prog c.w Fz σ h) (ha : ∀ o, h.get? a ≠ some o) : σ a = none := by
  cases e : σ a with
  | none => rfl
  | some ce => obtain ⟨o, q⟩ := (S.cell a ce e).get; exact absurd q (ha o)
theorem FX.unhold {a : Addr} {o : Obj} {e : Value} {s : Shared} (x : FX c W env (FzH Fz a o) X e s) : FX c W env Fz X e s := by
  obtain ⟨C, m, σ, S, F, i, q⟩ := x
  exact ⟨C, m, σ, S.unhold, F.unhold, i.less (fun b p q => by rcases q with q | q; exact .inl (.inl q); exact .inr q), q⟩

theorem FX.unholdS {h : Heap} {ai : Addr → Prop} {e : Value} {s : Shared} (x : FX c W env (FzS Fz ai h) X e s) : FX c W env Fz X e s := by
  obtain ⟨C, m, σ, S, F, i, q⟩ := x
  exact ⟨C, m, σ, S.unholdS, F.unholdS, i.less (fun b p q => by rcases q with q | q; exact .inl (.inl q); exact .inr q), q⟩
theorem Fm.farS {h : Heap} {ai : Addr → Prop} (F : Fm W env m Fz σ h) (ha : ∀ a o, ai a → h.get? a ≠ some o) : ¬ ai env.locals ∧ ∀ (x : Str) a, env.cells.lookup x = some a → ¬ ai a :=
  ⟨fun q => (F.far (fun o => ha _ o q)).1 rfl, fun x a e q => (F.far (fun o => ha a o q)).2 x e⟩

/-- a new object, kept still for a while -/
theorem FS.held {o : Obj} {k : List (Str × NameKind)} (F : FS c d k W env Fz A m σ s.heap) (hf : o.isFreed = false) : FS c d k W env (FzH Fz s.heap.objs.size o) A m σ (s.heap.push o) := by
  have g := Heap.get?_push_size s.heap hf
  obtain ⟨f1, f2⟩ := F.fm.far (not_there s.heap)
  exact ⟨F.base, F.nk, F.room, fun b p e => .inl (F.bs b p e), (F.st.push o).hold g (F.st.freeσ (not_there s.heap)), (F.fm.more (keeps_push s.heap o)).hold f1 f2⟩

open Classical in
theorem ev_edict {pos : Pos} : EvS c d ks .edict (.Dict [] [] pos) := by
  intro W env Fz A m σ s Q X F h
  simp only [wpE] at h
  obtain ⟨ce, hce, h⟩ := h
  refine wpAny_Dict_empty (new_obj F (ce := ce) ?_ h)
  rcases hce with rfl | rfl | rfl
  · exact ⟨[], Heap.DictOf.new _, rfl, .nil⟩
  · exact ⟨[], Heap.DictOf.new _, rfl, .nil⟩
  · exact ⟨[], Heap.DictOfH.new _, rfl, .nil⟩

def pairsOf (pos : Pos) (env : Env) : List (Option Expr) → List Expr → List (Sem Value × Sem Value)
  | some k :: ks, v :: vs => (eval k env, do let x ← eval v env; standAt pos; pure x) :: pairsOf pos env ks vs
  | _, _ => []

theorem shape_of {nm : List String} {pos : Pos} : ∀ {keys : List (Option Expr)} {values : List Expr} {k : List String}, trKeys nm keys = some k → keys.length = values.length →
    (evalEachOpt keys env).zip ((evalEach values env).map fun v => do let x ← v; standAt pos; pure x) = (pairsOf pos env keys values).map fun p => (some p.1, p.2)
  | [], [], _, _, _ => rfl
  | none :: _, _, _, h, _ => by simp [trKeys] at h
  | some e :: r, v :: vs, k, h, hl => by
    have hr : ∃ k', trKeys nm r = some k' := by
      cases e <;> first | (simp [trKeys] at h; done) | skip
      rename_i cst _ _
      cases cst <;> first | (simp [trKeys] at h; done) | skip
      simp only [trKeys] at h
      split at h
      · rename_i y ys h1 h2; exact ⟨ys, h2⟩
      · cases h
    obtain ⟨k', hk'⟩ := hr
    rw [arm_evalEachOpt_cons, arm_evalEach_cons, List.map_cons, List.zip_cons_cons, shape_of hk' (by simpa using hl)]
    rfl
  | [], _ :: _, _, _, hl => by simp at hl
  | some _ :: _, [], _, _, hl => by simp at hl

theorem evalPairs_of (IH : ∀ e ir, tr nm n ks e = some ir → EvS c d ks ir e) (pos : Pos) : ∀ (keys : List (Option Expr)) (values : List Expr) (kk : List String) (irs : IEs) (σ : AHeap) (s : Shared) (Q : List AV → AHeap → Prop), trKeys nm keys = some kk → trList (tr nm n ks) values = some irs →
    keys.length = values.length → FS c d ks W env Fz A m σ s.heap → wpEs c d irs m σ Q (fun C => X C m) →
    wpAny c.M A (evalPairs (pairsOf pos env keys values)) (fun vs s' => ∃ as σ', St c.prog c.w Fz σ' s'.heap ∧ Fm W env m Fz σ' s'.heap ∧ GrowS s s' ∧ RVs s'.heap (vs.map (·.2)) as ∧ Carries (strKind c.prog c.w) vs ((kk.map Str.ofString).zip (vs.map (·.2))) ∧ Q as σ') (FX c W env Fz X) s
  | [], [], kk, irs, σ, s, Q, hk, ht, _, F, h => by
    simp only [trList, Option.some.injEq] at ht; subst ht
    simp only [trKeys, Option.some.injEq] at hk; subst hk
    simp only [wpEs] at h
    exact evalPairs_nil ⟨[], σ, F.st, F.fm, .refl _, .nil, trivial, h⟩
  | none :: _, _, _, _, _, _, _, hk, _, _, _, _ => by simp [trKeys] at hk
  | some e :: r, v :: vs, kk, irs, σ, s, Q, hk, ht, hl, F, h => by
    cases e <;> first | (simp [trKeys] at hk; done) | skip
    rename_i cst kd kp
    cases cst <;> first | (simp [trKeys] at hk; done) | skip
    rename_i x
    simp only [trKeys] at hk
    split at hk
    · rename_i y ys h1 h2
      simp only [Option.some.injEq] at hk; subst hk
      simp only [trList] at ht
      split at ht
      · rename_i i is h3 h4
        simp only [Option.some.injEq] at ht; subst ht
        simp only [wpEs] at h
        refine evalPairs_cons (wpAny_Constant_str (wpAny_bind ?_))
        have F0 : FS c d ks W env Fz A m σ ({ s with toks := s.toks + 1 } : Shared).heap := F
        refine wpAny_mono (IH v i h3 W env Fz A m σ { s with toks := s.toks + 1 } _ X F0 h) ?_ (fun _ _ x => x)
        rintro u s₁ ⟨av, σ₁, S₁, F₁, g₁, r₁, q₁⟩
        refine wpAny_bind (wpAny_standAt (wpAny_pure ?_))
        refine wpAny_mono (evalPairs_of IH pos r vs ys is σ₁ s₁ _ h2 h4 (by simpa using hl) (F.next S₁ F₁) q₁) ?_ (fun _ _ x => x)
        rintro ws s₂ ⟨as, σ₂, S₂, F₂, g₂, r₂, hc, q₂⟩
        refine ⟨av :: as, σ₂, S₂, F₂, ⟨(g₁.trans g₂).g, (g₁.trans g₂).k.os, (g₁.trans g₂).k.gens⟩, .cons (r₁.grow g₂.g) r₂, ?_, q₂⟩
        refine ⟨?_, rfl, hc⟩
        show Value.isStrOf (Str.ofString y) (.str x s.toks) = true
        rw [strIn_eq h1]
        simp [Value.isStrOf]
      · cases ht
    · cases hk
  | [], _ :: _, _, _, _, _, _, _, _, hl, _, _ => by simp at hl
  | some _ :: _, [], _, _, _, _, _, _, _, hl, _, _ => by simp at hl

theorem trKeys_len {nm : List String} : ∀ {keys : List (Option Expr)} {k : List String}, trKeys nm keys = some k → k.length = keys.length
  | [], _, h => by simp only [trKeys, Option.some.injEq] at h; subst h; rfl
  | none :: _, _, h => by simp [trKeys] at h
  | some e :: r, k, h => by
    cases e <;> first | (simp [trKeys] at h; done) | skip
    rename_i cst _ _
    cases cst <;> first | (simp [trKeys] at h; done) | skip
    simp only [trKeys] at h
    split at h
    · rename_i y ys h1 h2
      simp only [Option.some.injEq] at h; subst h
      simp [trKeys_len h2]
    · cases h

theorem pairsOf_len (pos : Pos) (env : Env) : ∀ {keys : List (Option Expr)} {values : List Expr} {k : List String}, trKeys nm keys = some k → keys.length = values.length → (pairsOf pos env keys values).length = values.length
  | [], [], _, _, _ => rfl
  | none :: _, _, _, h, _ => by simp [trKeys] at h
  | some e :: r, v :: vs, k, h, hl => by
    have hr : ∃ k', trKeys nm r = some k' := by
      cases e <;> first | (simp [trKeys] at h; done) | skip
      rename_i cst _ _
      cases cst <;> first | (simp [trKeys] at h; done) | skip
      simp only [trKeys] at h
      split at h
      · rename_i y ys h1 h2; exact ⟨ys, h2⟩
      · cases h
    obtain ⟨k', hk'⟩ := hr
    simp [pairsOf, pairsOf_len pos env hk' (by simpa using hl)]
  | [], _ :: _, _, _, hl => by simp at hl
  | some _ :: _, [], _, _, hl => by simp at hl

theorem merged_nodup {K : Type} [DecidableEq K] : ∀ (l acc : List (K × Value)), ((acc ++ l).map (·.1)).Nodup → merged acc l = acc ++ l
  | [], acc, _ => by simp [merged]
  | x :: l, acc, h => by
    have h1 : (acc.any fun kv => decide (kv.1 = x.1)) = false := by
      rw [Bool.eq_false_iff]
      intro hh
      obtain ⟨y, hy, e⟩ := List.any_eq_true.mp hh
      rw [List.map_append, List.nodup_append] at h
      exact h.2.2 y.1 (List.mem_map.mpr ⟨y, hy, rfl⟩) x.1 (List.mem_map.mpr ⟨x, .head _, rfl⟩) (of_decide_eq_true e)
    have h2 : stored acc x.1 x.2 = acc ++ [x] := by simp only [stored]; rw [h1]; simp
    show merged (stored acc x.1 x.2) l = _
    rw [h2, merged_nodup l (acc ++ [x]) (by simpa using h)]
    simp

theorem nodup_strs : ∀ {l : List String}, l.Nodup → (l.map Str.ofString).Nodup
  | [], _ => List.nodup_nil
  | x :: l, h => by
    rw [List.nodup_cons] at h
    rw [List.map_cons, List.nodup_cons]
    refine ⟨fun q => ?_, nodup_strs h.2⟩
    obtain ⟨y, hy, e⟩ := List.mem_map.mp q
    exact h.1 (ofString_inj e ▸ hy)

theorem ev_dictS {keys : List (Option Expr)} {values : List Expr} {kk : List String} {irs : IEs} {pos : Pos} (IH : ∀ e ir, tr nm n ks e = some ir → EvS c d ks ir e) (hk : trKeys nm keys = some kk) (ht : trList (tr nm n ks) values = some irs) (hl : keys.length = values.length) (h15 : values.length ≤ 15) (h0 : values ≠ []) :
    EvS c d ks (.dictS kk irs) (.Dict keys values pos) := by
  intro W env Fz A m σ s Q X F h
  simp only [wpE] at h
  · refine wpAny_Dict_pairs (knd := strKind c.prog c.w) (shape_of hk hl) (by
      intro e
      have := pairsOf_len (nm := nm) pos env hk hl
      rw [e] at this
      exact h0 (List.length_eq_zero_iff.mp this.symm)) (by rw [pairsOf_len pos env hk hl]; exact h15) ?_
    have F1 : FS c d ks W env (FzH Fz s.heap.objs.size { cls := .type "dict", data := .dict #[] }) A m σ (s.heap.push { cls := .type "dict", data := .dict #[] }) := F.held rfl
    have g0 := grow_keeps (keeps_push s.heap { cls := .type "dict", data := .dict #[] })
    refine wpAny_mono (evalPairs_of (s := { s with heap := s.heap.push { cls := .type "dict", data := .dict #[] } }) IH pos keys values kk irs σ _ hk ht hl F1 h) ?_ (fun _ _ x => x.unhold)
    rintro vs s₁ ⟨as, σ₁, S₁, F₁, g₁, r₁, hc, hlen, hnd, q⟩
    have hd : s₁.heap.get? s.heap.objs.size = some { cls := .type "dict", data := .dict #[] } := S₁.fz _ _ (.inr ⟨rfl, rfl⟩)
    have hσ : σ₁ s.heap.objs.size = none := by
      cases e : σ₁ s.heap.objs.size with
      | none => rfl
      | some ce => exact absurd (.inr ⟨rfl, rfl⟩) (S₁.apart _ _ _ e)
    refine ⟨_, hc, ⟨_, #[], 0, hd, ⟨rfl, rfl, rfl⟩, rfl, fun _ he => by simp at he, Pairs.nil, List.nodup_nil⟩, fun h' hm hs => ?_⟩
    have hvl : (vs.map (·.2)).length = kk.length := by rw [r₁.length]; exact hlen
    rw [merged_nodup _ [] (by
      simp only [List.nil_append]
      rw [List.map_fst_zip (by rw [List.length_map, hvl]; exact Nat.le_refl _)]
      exact nodup_strs hnd)] at hm
    simp only [List.nil_append] at hm
    have hH : Holds c.prog c.w h' s.heap.objs.size (.dictS (kk.zip as)) := by
      refine ⟨_, hm, ?_, ?_⟩
      · rw [List.map_fst_zip (by rw [List.length_map, hvl]; exact Nat.le_refl _)]
        have : (kk.zip as).map (fun x => Str.ofString x.1) = ((kk.zip as).map (·.1)).map Str.ofString := by rw [List.map_map]; rfl
        rw [this, List.map_fst_zip (by omega)]
      · rw [List.map_snd_zip (by simp only [List.length_map] at hvl ⊢; omega), List.map_snd_zip (by omega)]
        exact r₁.grow (grow_dict hd rfl hs)
    have gs : Grow s₁.heap h' := grow_dict hd rfl hs
    have Sfin : St c.prog c.w Fz (σ₁.set s.heap.objs.size (.dictS (kk.zip as))) h' := by
      refine ⟨fun b o e => ?_, fun b ce e => ?_, fun b ce o e q => ?_⟩
      · by_cases eb : b = s.heap.objs.size
        · subst eb
          exact absurd (F.st.fz _ _ e) (not_there s.heap o)
        · exact (hs.2 b eb).trans (S₁.fz b o (.inl e))
      · by_cases eb : b = s.heap.objs.size
        · subst eb; rw [AHeap.set_self] at e; cases e; exact hH
        · rw [AHeap.set_ne _ _ eb] at e; exact (S₁.cell b ce e).move gs fun o ho => (hs.2 b eb).trans ho
      · by_cases eb : b = s.heap.objs.size
        · subst eb; exact absurd (F.st.fz _ _ q) (not_there s.heap o)
        · rw [AHeap.set_ne _ _ eb] at e; exact S₁.apart b ce o e (.inl q)
    refine ⟨.ref s.heap.objs.size, _, Sfin, ?_, ⟨(g0.trans g₁.g).trans gs, g₁.k.os, g₁.k.gens⟩, .ref _, q _ hσ⟩
    obtain ⟨f1, f2⟩ := F.fm.far (not_there s.heap)
    have Fm1 := F₁.unhold
    refine ⟨Fm1.fn, Fm1.gl, Fm1.bl, ?_, ?_, ?_, Fm1.nfz, ?_, Fm1.cw, Fm1.hc⟩
    · obtain ⟨mL, hn, hmL⟩ := Fm1.ns
      exact ⟨mL, hn.sameBut hs (fun e => f1 e.symm), fun x av e k => let ⟨v, a, b⟩ := hmL x av e k; ⟨v, a, b.grow gs⟩⟩
    · intro x cc e
      obtain ⟨v, hv⟩ := Fm1.cs x cc e
      exact ⟨v, hv.sameBut hs (fun q => f2 x (q ▸ e))⟩
    · intro x av e k
      obtain ⟨cc, v, a, b, r⟩ := Fm1.cv x av e k
      exact ⟨cc, v, a, b.sameBut hs (fun q => f2 _ (q ▸ a)), r.grow gs⟩
    · rw [AHeap.set_ne _ _ (fun e => f1 e.symm)]; exact Fm1.nσ
end

-- Cx9
set_option Elab.async false
set_option linter.unusedVariables false
set_option linter.unusedSimpArgs false
set_option maxRecDepth 4000

section
variable {c : Cx} {d : Nat} {ks : List (Str × NameKind)} {W : Str → Prop} {env : Env} {Fz : Fzn} {A : Around} {m : Loc} {σ : AHeap} {s : Shared} {X : Addr → Loc → AHeap → Prop} {E : Value → Shared → Prop}
variable {nm : List String} {n : Nat}

theorem FPost.up {h h' : Shared} {Q : AV → AHeap → Prop} {v : Value} {s : Shared} (g : GrowS h h') (x : FPost c W env Fz m h' Q v s) : FPost c W env Fz m h Q v s := by
  obtain ⟨av, σ', S, F, g', r, q⟩ := x
  exact ⟨av, σ', S, F, g.trans g', r, q⟩
theorem BPost.up {h h' : Shared} {Q : Bool → AHeap → Prop} {v : Bool} {s : Shared} (g : GrowS h h') (x : BPost c W env Fz m h' Q v s) : BPost c W env Fz m h Q v s := by
  obtain ⟨σ', S, F, g', q⟩ := x
  exact ⟨σ', S, F, g.trans g', q⟩

/-- evaluate, then go on -/
theorem EvS.then {ir : IE} {e : Expr} {Q : AV → AHeap → Prop} {P : Value → Shared → Prop} (he : EvS c d ks ir e) (F : FS c d ks W env Fz A m σ s.heap) (h : wpE c d ir m σ Q (fun C => X C m))
    (k : ∀ v av σ' s', FS c d ks W env Fz A m σ' s'.heap → GrowS s s' → RV s'.heap v av → Q av σ' → P v s') : wpAny c.M A (eval e env) P (FX c W env Fz X) s := by
  refine wpAny_mono (he W env Fz A m σ s Q X F h) ?_ fun _ _ x => x
  rintro v s₁ ⟨av, σ₁, S₁, F₁, g₁, r₁, q₁⟩
  exact k v av σ₁ s₁ (F.next S₁ F₁) g₁ r₁ q₁

theorem FS.same {s s' : Shared} (e : s'.heap = s.heap) (F : FS c d ks W env Fz A m σ s.heap) : FS c d ks W env Fz A m σ s'.heap := e ▸ F

theorem op_then {t : List Value → Sem Value} {as : List AV} {vs : List Value} {Q : AV → AHeap → Prop} {P : Value → Shared → Prop} (F : FS c d ks W env Fz A m σ s.heap) (r : RVs s.heap vs as) (h : OpOK c d t as σ Q (fun C => X C m))
    (k : ∀ v av σ' s', FS c d ks W env Fz A m σ' s'.heap → GrowS s s' → RV s'.heap v av → Q av σ' → P v s') : wpAny c.M A (t vs) P (FX c W env Fz X) s := by
  refine wpAny_mono (lift_op F r h) ?_ fun _ _ x => x
  rintro v s₁ ⟨av, σ₁, S₁, F₁, g₁, r₁, q₁⟩
  exact k v av σ₁ s₁ (F.next S₁ F₁) g₁ r₁ q₁

theorem compareChain_cons (pos : Pos) (l : Value) (op op' : CmpOp) (r r' : Sem Value) : compareChain pos l [op, op'] [r, r'] = (do
    let rv ← holding [l] r
    standAt pos
    let c ← holding [l, rv] (compareOp op l rv)
    release [l, rv] [c]
    if ← holding [c, rv] (truthy c) then compareChain pos rv [op'] [r'] else pure c) := rfl
theorem compareChain_one (pos : Pos) (l : Value) (op : CmpOp) (r : Sem Value) : compareChain pos l [op] [r] = (do
    let rv ← holding [l] r
    standAt pos
    operate [l, rv] (compareOp op l rv)) := rfl
theorem testChain_cons (pos : Pos) (l : Value) (op op' : CmpOp) (r r' : Sem Value) : testChain pos l [op, op'] [r, r'] = (do
    let rv ← holding [l] r
    standAt pos
    let c ← holding [l, rv] (compareOp op l rv)
    release [l, rv] [c]
    if ← holding [c, rv] (truthy c) then testChain pos rv [op'] [r'] else pure false) := rfl
theorem testChain_one (pos : Pos) (l : Value) (op : CmpOp) (r : Sem Value) : testChain pos l [op] [r] = (do
    let rv ← holding [l] r
    standAt pos
    let c ← operate [l, rv] (compareOp op l rv)
    holding [c] (truthy c)) := rfl

theorem ev_cmp2 {a b e : Expr} {x y z : IE} {op op' : CmpOp} {pos : Pos} (hm : behindInMarks op' e = false) (ha : EvS c d ks x a) (hb : EvS c d ks y b) (he : EvS c d ks z e) :
    EvS c d ks (.cmp2 x op y op' z) (.Compare a [op, op'] [b, e] pos) := by
  intro W env Fz A m σ s Q X F h
  simp only [wpE] at h
  rw [arm_eval_Compare]
  refine wpAny_bind (ha.then F h fun v av σ₁ s₁ F₁ g₁ r₁ q₁ => ?_)
  have e1 : markedEach [op, op'] [b, e] (evalEach [b, e] env) = [eval b env, eval e env] := by
    show [eval b env, markedBehindIn op' e (eval e env)] = _
    rw [markedBehindIn_of_false hm]
  rw [e1, compareChain_cons]
  refine wpAny_bind (wpAny_holding (hb.then F₁ q₁ fun u bv σ₂ s₂ F₂ g₂ r₂ q₂ => wpAny_bind (wpAny_standAt (wpAny_bind (wpAny_holding ?_)))))
  refine op_then (t := two (compareOp op)) (vs := [v, u]) F₂ (.two (r₁.grow g₂.g) r₂) q₂ fun t tv σ₃ s₃ F₃ g₃ r₃ q₃ => wpAny_bind (wpAny_release (wpAny_bind (wpAny_holding ?_)))
  refine truth_at F₃ r₃ q₃ fun bb s₄ e4 q₄ => ?_
  have F₄ := F₃.same e4.h
  have g₄ : GrowS s s₄ := ((g₁.trans g₂).trans g₃).trans e4.grow
  cases bb with
  | false =>
    simp only [Bool.false_eq_true, if_false] at q₄ ⊢
    exact wpAny_pure ⟨tv, σ₃, F₄.st, F₄.fm, g₄, by rw [e4.h]; exact r₃, q₄⟩
  | true =>
    simp only [if_true] at q₄ ⊢
    rw [compareChain_one]
    refine wpAny_bind (wpAny_holding (he.then F₄ q₄ fun w' ev σ₅ s₅ F₅ g₅ r₅ q₅ => wpAny_bind (wpAny_standAt (wpAny_operateT ?_))))
    refine op_then (t := two (compareOp op')) (vs := [u, w']) F₅ (.two ((r₂.grow g₃.g).grow (by rw [← e4.h]; exact g₅.g)) r₅) q₅ fun t' tv' σ₆ s₆ F₆ g₆ r₆ q₆ => ?_
    exact ⟨tv', σ₆, F₆.st, F₆.fm, (g₄.trans g₅).trans g₆, r₆, q₆⟩

theorem ev_bools (op : BoolOp) (pos : Pos) (IH : ∀ e ir, tr nm n ks e = some ir → EvS c d ks ir e) : ∀ (es : List Expr) (irs : IEs) (W : Str → Prop) (env : Env) (Fz : Fzn) (A : Around) (m : Loc) (σ : AHeap) (s : Shared) (Q : AV → AHeap → Prop) (X : Addr → Loc → AHeap → Prop), trList (tr nm n ks) es = some irs → FS c d ks W env Fz A m σ s.heap →
    (match op with | .And => wpAnd c d irs m σ Q (fun C => X C m) | .Or => wpOr c d irs m σ Q (fun C => X C m)) → wpAny c.M A (boolOp pos op (evalEach es env)) (FPost c W env Fz m s Q) (FX c W env Fz X) s
  | [], irs, _, _, _, _, _, _, _, _, _, ht, F, h => by
    simp only [trList, Option.some.injEq] at ht; subst ht
    cases op <;> simp only [wpAnd, wpOr] at h
  | [e], irs, _, _, _, _, _, _, _, _, _, ht, F, h => by
    simp only [trList] at ht
    split at ht
    · rename_i i is h1 h2
      simp only [Option.some.injEq] at h2 ht; subst h2; subst ht
      cases op with
      | And => simp only [wpAnd] at h; exact IH e i h1 _ _ _ _ _ _ _ _ _ F h
      | Or => simp only [wpOr] at h; exact IH e i h1 _ _ _ _ _ _ _ _ _ F h
    · cases ht
  | e :: e' :: es, irs, _, _, _, _, _, _, _, _, _, ht, F, h => by
    simp only [trList] at ht
    split at ht
    · rename_i i is h1 h2
      simp only [Option.some.injEq] at ht; subst ht
      have hne : ∃ i' is', is = .cons i' is' := by
        split at h2
        · simp only [Option.some.injEq] at h2; exact ⟨_, _, h2.symm⟩
        · cases h2
      obtain ⟨i', is', rfl⟩ := hne
      rw [arm_evalEach_cons, arm_evalEach_cons]
      show wpAny _ _ (eval e _ >>= fun v => standAt pos >>= fun _ => holding [v] (truthy v) >>= fun t => _) _ _ _
      cases op with
      | And =>
        simp only [wpAnd] at h
        refine wpAny_bind ((IH e i h1).then F h fun v av σ₁ s₁ F₁ g₁ r₁ q₁ => wpAny_bind (wpAny_standAt (wpAny_bind (wpAny_holding ?_))))
        refine truth_at F₁ r₁ q₁ fun bb s₄ e4 q₄ => ?_
        have F₄ := F₁.same e4.h
        cases bb with
        | false =>
          simp only [Bool.false_eq_true, if_false] at q₄
          exact wpAny_pure ⟨av, σ₁, F₄.st, F₄.fm, g₁.trans e4.grow, by rw [e4.h]; exact r₁, q₄⟩
        | true =>
          simp only [if_true] at q₄
          have := ev_bools .And pos IH (e' :: es) (.cons i' is') _ _ _ _ _ _ s₄ _ _ (by simpa only [trList] using h2) F₄ q₄
          exact wpAny_mono this (fun _ _ x => x.up (g₁.trans e4.grow)) fun _ _ x => x
      | Or =>
        simp only [wpOr] at h
        refine wpAny_bind ((IH e i h1).then F h fun v av σ₁ s₁ F₁ g₁ r₁ q₁ => wpAny_bind (wpAny_standAt (wpAny_bind (wpAny_holding ?_))))
        refine truth_at F₁ r₁ q₁ fun bb s₄ e4 q₄ => ?_
        have F₄ := F₁.same e4.h
        cases bb with
        | true =>
          simp only [if_true] at q₄
          exact wpAny_pure ⟨av, σ₁, F₄.st, F₄.fm, g₁.trans e4.grow, by rw [e4.h]; exact r₁, q₄⟩
        | false =>
          simp only [Bool.false_eq_true, if_false] at q₄
          have := ev_bools .Or pos IH (e' :: es) (.cons i' is') _ _ _ _ _ _ s₄ _ _ (by simpa only [trList] using h2) F₄ q₄
          exact wpAny_mono this (fun _ _ x => x.up (g₁.trans e4.grow)) fun _ _ x => x
    · cases ht

theorem tv_bools (op : BoolOp) (IH : ∀ e ir, tr nm n ks e = some ir → TvS c d ks ir e) : ∀ (es : List Expr) (irs : IEs) (W : Str → Prop) (env : Env) (Fz : Fzn) (A : Around) (m : Loc) (σ : AHeap) (s : Shared) (Q : Bool → AHeap → Prop) (X : Addr → Loc → AHeap → Prop), trList (tr nm n ks) es = some irs → FS c d ks W env Fz A m σ s.heap →
    (match op with | .And => wpAllT c d irs m σ Q (fun C => X C m) | .Or => wpAnyT c d irs m σ Q (fun C => X C m)) → wpAny c.M A (allTrue op es env) (BPost c W env Fz m s Q) (FX c W env Fz X) s
  | [], irs, _, _, _, _, _, _, _, _, _, ht, F, h => by
    simp only [trList, Option.some.injEq] at ht; subst ht
    cases op with
    | And => simp only [wpAllT] at h; exact wpAny_allTrue_And_nil ⟨_, F.st, F.fm, .refl _, h⟩
    | Or => simp only [wpAnyT] at h; exact wpAny_allTrue_Or_nil ⟨_, F.st, F.fm, .refl _, h⟩
  | e :: es, irs, _, _, _, _, _, _, _, _, _, ht, F, h => by
    simp only [trList] at ht
    split at ht
    · rename_i i is h1 h2
      simp only [Option.some.injEq] at ht; subst ht
      cases op with
      | And =>
        simp only [wpAllT] at h
        refine wpAny_allTrue_And_cons (wpAny_mono (IH e i h1 _ _ _ _ _ _ _ _ _ F h) ?_ fun _ _ x => x)
        rintro bb s₁ ⟨σ₁, S₁, F₁, g₁, q₁⟩
        cases bb with
        | false => exact ⟨σ₁, S₁, F₁, g₁, q₁⟩
        | true => exact wpAny_mono (tv_bools .And IH es is _ _ _ _ _ _ s₁ _ _ h2 (F.next S₁ F₁) q₁) (fun _ _ x => x.up g₁) fun _ _ x => x
      | Or =>
        simp only [wpAnyT] at h
        refine wpAny_allTrue_Or_cons (wpAny_mono (IH e i h1 _ _ _ _ _ _ _ _ _ F h) ?_ fun _ _ x => x)
        rintro bb s₁ ⟨σ₁, S₁, F₁, g₁, q₁⟩
        cases bb with
        | true => exact ⟨σ₁, S₁, F₁, g₁, q₁⟩
        | false => exact wpAny_mono (tv_bools .Or IH es is _ _ _ _ _ _ s₁ _ _ h2 (F.next S₁ F₁) q₁) (fun _ _ x => x.up g₁) fun _ _ x => x
    · cases ht

theorem ev_ite {t a b : Expr} {x y z : IE} {pos : Pos} (ht : TvS c d ks x t) (ha : EvS c d ks y a) (hb : EvS c d ks z b) : EvS c d ks (.ite x y z) (.IfExp t a b pos) := by
  intro W env Fz A m σ s Q X F h
  simp only [wpE] at h
  refine wpAny_IfExp (wpAny_mono (ht W env Fz A m σ s _ X F h) ?_ fun _ _ x => x)
  rintro bb s₁ ⟨σ₁, S₁, F₁, g₁, q₁⟩
  cases bb with
  | true => exact wpAny_mono (ha W env Fz A m σ₁ s₁ _ X (F.next S₁ F₁) q₁) (fun _ _ x => x.up g₁) fun _ _ x => x
  | false => exact wpAny_mono (hb W env Fz A m σ₁ s₁ _ X (F.next S₁ F₁) q₁) (fun _ _ x => x.up g₁) fun _ _ x => x

theorem tv_ite {t a b : Expr} {x y z : IE} {pos : Pos} (ht : TvS c d ks x t) (ha : TvS c d ks y a) (hb : TvS c d ks z b) : TvS c d ks (.ite x y z) (.IfExp t a b pos) := by
  intro W env Fz A m σ s Q X F h
  simp only [wpT] at h
  rw [arm_isTrue_IfExp]
  refine wpAny_bind (wpAny_mono (ht W env Fz A m σ s _ X F h) ?_ fun _ _ x => x)
  rintro bb s₁ ⟨σ₁, S₁, F₁, g₁, q₁⟩
  cases bb with
  | true => exact wpAny_mono (ha W env Fz A m σ₁ s₁ _ X (F.next S₁ F₁) q₁) (fun _ _ x => x.up g₁) fun _ _ x => x
  | false => exact wpAny_mono (hb W env Fz A m σ₁ s₁ _ X (F.next S₁ F₁) q₁) (fun _ _ x => x.up g₁) fun _ _ x => x

theorem tv_not {a : Expr} {x : IE} {pos : Pos} (ha : TvS c d ks x a) : TvS c d ks (.not x) (.UnaryOp .Not a pos) := by
  intro W env Fz A m σ s Q X F h
  simp only [wpT] at h
  refine wpAny_isTrue_Not (wpAny_mono (ha W env Fz A m σ s _ X F h) ?_ fun _ _ x => x)
  rintro bb s₁ ⟨σ₁, S₁, F₁, g₁, q₁⟩
  exact ⟨σ₁, S₁, F₁, g₁, q₁⟩

theorem tv_value {e : Expr} {x : IE} (he : EvS c d ks x e) (hw : ∀ m σ Q X, wpT c d x m σ Q X → wpE c d x m σ (fun v σ₁ => TruthOK c d v σ₁ (fun b => Q b σ₁)) X)
    (hi : ∀ env whole, isTrue e env whole = (do let v ← whole; standAt e.pos; holding [v] (truthy v))) : TvS c d ks x e := by
  intro W env Fz A m σ s Q X F h
  refine wpAny_isTrue_value (he.then F (hw _ _ _ _ h) fun v av σ₁ s₁ F₁ g₁ r₁ q₁ => ?_) (hi env _)
  refine truth_at F₁ r₁ q₁ fun bb s₄ e4 q₄ => ?_
  have F₄ := F₁.same e4.h
  exact ⟨σ₁, F₄.st, F₄.fm, g₁.trans e4.grow, q₄⟩

theorem tv_cmp {a b : Expr} {x y : IE} {op : CmpOp} {pos : Pos} (hm : behindInMarks op b = false) (ha : EvS c d ks x a) (hb : EvS c d ks y b) : TvS c d ks (.cmp x op y) (.Compare a [op] [b] pos) := by
  intro W env Fz A m σ s Q X F h
  simp only [wpT, wpE] at h
  refine wpAny_isTrue_Compare1 (ha.then F h fun v av σ₁ s₁ F₁ g₁ r₁ q₁ => ?_) hm
  refine hb.then F₁ q₁ fun u bv σ₂ s₂ F₂ g₂ r₂ q₂ => ?_
  refine op_then (t := two (compareOp op)) (vs := [v, u]) F₂ (.two (r₁.grow g₂.g) r₂) q₂ fun t tv σ₃ s₃ F₃ g₃ r₃ q₃ => ?_
  refine truth_at F₃ r₃ q₃ fun bb s₄ e4 q₄ => ?_
  have F₄ := F₃.same e4.h
  exact ⟨σ₃, F₄.st, F₄.fm, ((g₁.trans g₂).trans g₃).trans e4.grow, q₄⟩

theorem tv_cmp2 {a b e : Expr} {x y z : IE} {op op' : CmpOp} {pos : Pos} (hm : behindInMarks op' e = false) (ha : EvS c d ks x a) (hb : EvS c d ks y b) (he : EvS c d ks z e) :
    TvS c d ks (.cmp2 x op y op' z) (.Compare a [op, op'] [b, e] pos) := by
  intro W env Fz A m σ s Q X F h
  simp only [wpT] at h
  rw [arm_isTrue_Compare]
  refine wpAny_bind (ha.then F h fun v av σ₁ s₁ F₁ g₁ r₁ q₁ => ?_)
  have e1 : markedEach [op, op'] [b, e] (evalEach [b, e] env) = [eval b env, eval e env] := by
    show [eval b env, markedBehindIn op' e (eval e env)] = _
    rw [markedBehindIn_of_false hm]
  rw [e1, testChain_cons]
  refine wpAny_bind (wpAny_holding (hb.then F₁ q₁ fun u bv σ₂ s₂ F₂ g₂ r₂ q₂ => wpAny_bind (wpAny_standAt (wpAny_bind (wpAny_holding ?_)))))
  refine op_then (t := two (compareOp op)) (vs := [v, u]) F₂ (.two (r₁.grow g₂.g) r₂) q₂ fun t tv σ₃ s₃ F₃ g₃ r₃ q₃ => wpAny_bind (wpAny_release (wpAny_bind (wpAny_holding ?_)))
  refine truth_at F₃ r₃ q₃ fun bb s₄ e4 q₄ => ?_
  have F₄ := F₃.same e4.h
  have g₄ : GrowS s s₄ := ((g₁.trans g₂).trans g₃).trans e4.grow
  cases bb with
  | false =>
    simp only [Bool.false_eq_true, if_false] at q₄ ⊢
    exact wpAny_pure ⟨σ₃, F₄.st, F₄.fm, g₄, q₄⟩
  | true =>
    simp only [if_true] at q₄ ⊢
    rw [testChain_one]
    refine wpAny_bind (wpAny_holding (he.then F₄ q₄ fun w' ev σ₅ s₅ F₅ g₅ r₅ q₅ => wpAny_bind (wpAny_standAt (wpAny_bind (wpAny_operateT ?_)))))
    refine op_then (t := two (compareOp op')) (vs := [u, w']) F₅ (.two ((r₂.grow g₃.g).grow (by rw [← e4.h]; exact g₅.g)) r₅) q₅ fun t' tv' σ₆ s₆ F₆ g₆ r₆ q₆ => wpAny_holding ?_
    refine truth_at F₆ r₆ q₆ fun b6 s₇ e7 q₇ => ?_
    have F₇ := F₆.same e7.h
    exact ⟨σ₆, F₇.st, F₇.fm, ((g₄.trans g₅).trans g₆).trans e7.grow, q₇⟩

theorem opt_then {o : Option Expr} {ir : IE} {Q : AV → AHeap → Prop} {P : Value → Shared → Prop} (IH : ∀ e ir, tr nm n ks e = some ir → EvS c d ks ir e) (ho : trOpt (tr nm n ks) o = some ir) (F : FS c d ks W env Fz A m σ s.heap) (h : wpE c d ir m σ Q (fun C => X C m))
    (k : ∀ v av σ' s', FS c d ks W env Fz A m σ' s'.heap → GrowS s s' → RV s'.heap v av → Q av σ' → P v s') : wpAny c.M A (valueOrNone (evalOpt o env)) P (FX c W env Fz X) s := by
  cases o with
  | none =>
    simp only [trOpt, Option.some.injEq] at ho; subst ho
    simp only [wpE] at h
    exact wpAny_pure (k _ _ _ _ F (.refl _) .none h)
  | some e => exact (IH e ir ho).then F h k

theorem ev_slc {l h st : Option Expr} {y z w : IE} {p : Pos} (IH : ∀ e ir, tr nm n ks e = some ir → EvS c d ks ir e) (hl : trOpt (tr nm n ks) l = some y) (hh : trOpt (tr nm n ks) h = some z) (hst : trOpt (tr nm n ks) st = some w) :
    EvS c d ks (.slc y z w) (.Slice l h st p) := by
  intro W env Fz A m σ s Q X F hw
  simp only [wpE] at hw
  rw [arm_eval_Slice]
  refine wpAny_bind (opt_then IH hl F hw fun lv lav σ₂ s₂ F₂ g₂ r₂ q₂ => wpAny_bind (wpAny_holding (opt_then IH hh F₂ q₂ fun hv hav σ₃ s₃ F₃ g₃ r₃ q₃ => ?_)))
  refine wpAny_bind (wpAny_holding (opt_then IH hst F₃ q₃ fun sv sav σ₄ s₄ F₄ g₄ r₄ q₄ => ?_))
  have k1 := keeps_push s₄.heap { cls := .type "slice", data := .fields #[lv, hv, sv] }
  refine wpAny_newObj_type (Q := FPost c W env Fz m s Q) ?_ (by simp [sizeOk, sizeLine])
  exact ⟨.slice lav hav sav, σ₄, F₄.st.push _, F₄.fm.more k1, ((g₂.trans g₃).trans g₄).trans ⟨grow_keeps k1, rfl, rfl⟩, .slice _ lv hv sv _ _ _ (Heap.get?_push_size _ rfl) (((r₂.grow g₃.g).grow g₄.g).grow (grow_keeps k1)) ((r₃.grow g₄.g).grow (grow_keeps k1)) (r₄.grow (grow_keeps k1)), q₄⟩
end

-- Cx10
set_option Elab.async false
set_option linter.unusedVariables false
set_option linter.unusedSimpArgs false
set_option maxRecDepth 4000

section
variable {c : Cx} {d : Nat} {ks : List (Str × NameKind)} {W : Str → Prop} {env : Env} {Fz : Fzn} {A : Around} {m : Loc} {σ : AHeap} {s : Shared} {X : Addr → Loc → AHeap → Prop} {E : Value → Shared → Prop}
variable {nm : List String} {n : Nat}

/-! to assign -/
def MPost (c : Cx) (W : Str → Prop) (env : Env) (Fz : Fzn) (σ : AHeap) (s : Shared) (k : Loc → Prop) : Unit → Shared → Prop :=
  fun _ s' => ∃ m', St c.prog c.w Fz σ s'.heap ∧ Fm W env m' Fz σ s'.heap ∧ GrowS s s' ∧ k m'

theorem bind_name {x : String} {id : Str} {v : Value} {av : AV} {k : Loc → Prop} (F : FS c d ks W env Fz A m σ s.heap) (e : Str.ofString x = id) (hk : isWritten (ks.lookup id) = true) (r : RV s.heap v av) (h : k (m.put x av)) :
    wpAny c.M A (bindName env id v) (MPost c W env Fz σ s k) E s := by
  subst e
  refine wpAny_bindName ?_
  cases q : ks.lookup (Str.ofString x) with
  | none => rw [q] at hk; cases hk
  | some kd =>
    obtain ⟨n1, n2, n3, n4⟩ := F.nk _ _ q
    rw [q] at hk
    cases kd with
    | «local» =>
      obtain ⟨mL, hn, hmL⟩ := F.fm.ns
      refine wpAny_storeName_local (n1 rfl) hn (fun h' hn' hs => ?_) (by rw [F.fm.fn]; rfl)
      obtain ⟨S', F', g⟩ := F.fm.setLocal F.st (n1 rfl) r hmL hn hn' hs
      exact ⟨_, S', F', ⟨g, rfl, rfl⟩, h⟩
    | cell =>
      obtain ⟨hc, hW⟩ := n2 rfl
      obtain ⟨cc, hcc⟩ := F.fm.hc _ (.inl hc)
      obtain ⟨v0, hv0⟩ := F.fm.cs _ _ hcc
      refine wpAny_storeName_cell F.fm.fn hc hcc hv0 (fun h' hn' hs => ?_)
      obtain ⟨S', F', g⟩ := F.fm.setCell hW F.st hc r hcc hn' hs
      exact ⟨_, S', F', ⟨g, rfl, rfl⟩, h⟩
    | free => cases hk
    | globalExplicit => cases hk
    | globalImplicit => cases hk

def ASg (c : Cx) (d : Nat) (ks : List (Str × NameKind)) (tg : Tgt) (t : Expr) : Prop :=
  ∀ W env Fz A m σ s E v av k, FS c d ks W env Fz A m σ s.heap → RV s.heap v av → wpTgt c d tg av m σ k → wpAny c.M A (assign t env v) (MPost c W env Fz σ s k) E s

theorem trTgts_nostar {f : Expr → Option Tgt} (hf : ∀ e t, f e = some t → ∀ rest env, assignEach (e :: rest) env = (false, assign e env) :: assignEach rest env) (env : Env) : ∀ {es : List Expr} {ts : Tgts}, trTgts f es = some ts →
    (assignEach es env).findIdx? (·.1) = none ∧ (assignEach es env).length = ts.length ∧ (assignEach es env).map (·.2) = es.map fun e => assign e env
  | [], ts, h => by simp only [trTgts, Option.some.injEq] at h; subst h; exact ⟨rfl, rfl, rfl⟩
  | e :: es, ts, h => by
    simp only [trTgts] at h
    split at h
    · rename_i i is h1 h2
      simp only [Option.some.injEq] at h; subst h
      obtain ⟨a, b, c'⟩ := trTgts_nostar hf env h2
      rw [hf e i h1]
      refine ⟨?_, ?_, ?_⟩
      · rw [List.findIdx?_cons]; simp [a]
      · simp [Tgts.length, b]
      · simp [c']
    · cases h

theorem assign_of : ∀ (n : Nat) (t : Expr) (tg : Tgt), trTgt nm ks n t = some tg → ASg c d ks tg t
  | 0, t, tg, h => by cases t <;> simp [trTgt] at h
  | n + 1, t, tg, h => by
    cases t <;> first | (simp [trTgt] at h; done) | skip
    · -- a name
      rename_i id pos
      simp only [trTgt] at h
      split at h
      · rename_i hk
        obtain ⟨x, hx, rfl⟩ := Option.map_eq_some_iff.mp h
        intro W env Fz A m σ s E v av k F r hw
        simp only [wpTgt] at hw
        rw [arm_assign_Name]
        exact wpAny_bind (wpAny_standAt (bind_name F (strIn_eq hx) hk r hw))
      · cases h
    · -- a tuple
      rename_i elts kk pos
      simp only [trTgt, Option.map_eq_some_iff] at h
      obtain ⟨ts, hts, rfl⟩ := h
      intro W env Fz A m σ s E v av k F r hw
      simp only [wpTgt] at hw
      have hf : ∀ e t, trTgt nm ks n e = some t → ∀ rest env, assignEach (e :: rest) env = (false, assign e env) :: assignEach rest env := by
        intro e t he rest env
        cases n with
        | zero => cases e <;> simp [trTgt] at he
        | succ n => cases e <;> first | rfl | simp [trTgt] at he
      obtain ⟨h1, h2, h3⟩ := trTgts_nostar hf env hts
      rw [arm_assign_Tuple]
      refine wpAny_bind (wpAny_standAt ?_)
      unfold unpack
      rw [h1, h2, h3]
      refine wpAny_bind (wpAny_holding ?_)
      refine hw A (Frz env Fz s.heap) s v E _ F.room F.base (bs_frz F.bs) (F.st.freeze F.fm) r ?_
      intro vs l s' S' hk hr hl hq
      have F' : FS c d ks W env Fz A m σ s'.heap := F.next S'.unfreeze (F.fm.thaw S' hk.g)
      have go : ∀ (es : List Expr) (ts : Tgts) (vs : List Value) (l : List AV) (m : Loc) (s' : Shared), trTgts (trTgt nm ks n) es = some ts → FS c d ks W env Fz A m σ s'.heap → RVs s'.heap vs l → wpTgts c d ts l m σ k →
          wpAny c.M A (assignInOrder (es.map fun e => assign e env) vs) (MPost c W env Fz σ s' k) E s' := by
        intro es
        induction es with
        | nil =>
          intro ts vs l m s' ht F' hr hq
          simp only [trTgts, Option.some.injEq] at ht; subst ht
          simp only [wpTgts] at hq
          exact wpAny_pure ⟨m, F'.st, F'.fm, .refl _, hq⟩
        | cons e es ih =>
          intro ts vs l m s' ht F' hr hq
          simp only [trTgts] at ht
          split at ht
          · rename_i i is h5 h6
            simp only [Option.some.injEq] at ht; subst ht
            cases hr with
            | nil => simp only [wpTgts] at hq
            | @cons v0 a0 vs0 l0 r0 rs =>
              simp only [wpTgts] at hq
              show wpAny _ _ (holding vs0 (assign e env v0) >>= fun _ => assignInOrder (es.map fun e => assign e env) vs0) _ _ _
              refine wpAny_bind (wpAny_holding (wpAny_mono (assign_of n e i h5 W env Fz A m σ s' E v0 a0 _ F' r0 hq) ?_ fun _ _ x => x))
              rintro _ s₁ ⟨m₁, S₁, F₁, g₁, q₁⟩
              refine wpAny_mono (ih is vs0 l0 m₁ s₁ h6 (F'.next' S₁ F₁) (rs.grow g₁.g) q₁) ?_ fun _ _ x => x
              rintro _ s₂ ⟨m₂, S₂, F₂, g₂, q₂⟩
              exact ⟨m₂, S₂, F₂, g₁.trans g₂, q₂⟩
          · cases ht
      refine wpAny_mono (go elts ts vs l m s' hts F' hr hq) ?_ fun _ _ x => x
      rintro _ s₂ ⟨m₂, S₂, F₂, g₂, q₂⟩
      exact ⟨m₂, S₂, F₂, hk.trans g₂, q₂⟩
end

-- Cx11
set_option Elab.async false
set_option linter.unusedVariables false
set_option linter.unusedSimpArgs false
set_option maxRecDepth 4000

theorem namesOk_mem {names : List (Str × NameKind)} (h : namesOk names = true) : ∀ x ∈ names, names.lookup x.1 = some x.2 := fun x hx => of_decide_eq_true (List.all_eq_true.mp h x hx)
theorem lookup_mem {α : Type} : ∀ {l : List (Str × α)} {x : Str} {k : α}, l.lookup x = some k → (x, k) ∈ l := PySem.mem_of_lookup

/-- the cells that a block takes with it -/
def takenBy (cells : List (Str × Addr)) : List (Str × NameKind) → List (Str × Addr) → List (Str × Addr)
  | [], acc => acc
  | (x, k) :: r, acc => if k == .free then takenBy cells r ((x, (cells.lookup x).getD 0) :: acc) else takenBy cells r acc

theorem closureFor_eq {env : Env} : ∀ (names : List (Str × NameKind)) (acc : List (Str × Addr)), (∀ x ∈ names, x.2 = .free → ∃ a, env.cells.lookup x.1 = some a) →
    forIn names acc (fun (x : Str × NameKind) (cs : List (Str × Addr)) => (do
      if x.2 == .free then do
        let a ← cellOf env x.1
        pure (ForInStep.yield ((x.1, a) :: cs))
      else pure (ForInStep.yield cs) : Sem (ForInStep (List (Str × Addr))))) = pure (takenBy env.cells names acc)
  | [], acc, _ => by rw [List.forIn_nil]; rfl
  | (x, k) :: r, acc, h => by
    rw [List.forIn_cons]
    have ih := fun acc => closureFor_eq r acc (fun y hy => h y (.tail _ hy))
    unfold takenBy
    by_cases hk : (k == NameKind.free) = true
    · rw [if_pos hk, if_pos hk]
      obtain ⟨a, ha⟩ := h (x, k) (.head _) (beq_iff_eq.mp hk)
      have : cellOf env x = pure a := by unfold cellOf; rw [ha]
      simp only [this, pure_bind]
      rw [ha]
      exact ih _
    · rw [if_neg hk, if_neg hk, pure_bind]
      exact ih _

theorem closureFor_pure {env : Env} {scope : Scope} (h : ∀ x ∈ scope.names, x.2 = .free → ∃ a, env.cells.lookup x.1 = some a) : closureFor scope env = pure (takenBy env.cells scope.names []) := by
  have := closureFor_eq scope.names [] h
  unfold closureFor
  simp only [bind_pure_comp] at this ⊢
  first | exact (by simpa using this) | skip

theorem taken_lookup {cells : List (Str × Addr)} : ∀ (names : List (Str × NameKind)) (acc : List (Str × Addr)) (x : Str) (a : Addr), (takenBy cells names acc).lookup x = some a → ((∃ k, (x, k) ∈ names ∧ k = .free) ∧ a = (cells.lookup x).getD 0) ∨ acc.lookup x = some a
  | [], acc, x, a, h => .inr h
  | (y, k) :: r, acc, x, a, h => by
    unfold takenBy at h
    split at h
    · rename_i hk
      rcases taken_lookup r _ x a h with ⟨⟨k', h1, h2⟩, h3⟩ | h
      · exact .inl ⟨⟨k', .tail _ h1, h2⟩, h3⟩
      · rw [List.lookup_cons] at h
        split at h
        · rename_i e
          have := beq_iff_eq.mp e; subst this
          exact .inl ⟨⟨k, .head _, beq_iff_eq.mp hk⟩, (Option.some.inj h).symm⟩
        · exact .inr h
    · rcases taken_lookup r _ x a h with ⟨⟨k', h1, h2⟩, h3⟩ | h
      · exact .inl ⟨⟨k', .tail _ h1, h2⟩, h3⟩
      · exact .inr h
theorem taken_has {cells : List (Str × Addr)} : ∀ (names : List (Str × NameKind)) (acc : List (Str × Addr)) (x : Str), ((x, NameKind.free) ∈ names ∨ ∃ a, acc.lookup x = some a) → ∃ a, (takenBy cells names acc).lookup x = some a
  | [], acc, x, h => by rcases h with h | h; exact absurd h (by simp); exact h
  | (y, k) :: r, acc, x, h => by
    unfold takenBy
    split
    · rename_i hk
      refine taken_has r _ x ?_
      rcases h with h | ⟨a, h⟩
      · rcases List.mem_cons.mp h with e | h
        · cases e; exact .inr ⟨_, by rw [List.lookup_cons, beq_self_eq_true]⟩
        · exact .inl h
      · refine .inr ?_
        rw [List.lookup_cons]
        split
        · exact ⟨_, rfl⟩
        · exact ⟨a, h⟩
    · rename_i hk
      refine taken_has r _ x ?_
      rcases h with h | h
      · rcases List.mem_cons.mp h with e | h
        · cases e; exact absurd rfl hk
        · exact .inl h
      · exact .inr h

/-! fresh cells of a block's own -/
theorem cellsFrom_lookup : ∀ (names : List (Str × NameKind)) (n : Nat) (acc : List (Str × Addr)) (x : Str) (a : Addr), (cellsFrom n names acc).lookup x = some a → ((x, NameKind.cell) ∈ names ∧ n ≤ a) ∨ acc.lookup x = some a
  | [], _, _, _, _, h => .inr h
  | (y, k) :: r, n, acc, x, a, h => by
    unfold cellsFrom at h
    split at h
    · rename_i hk
      rcases cellsFrom_lookup r _ _ x a h with ⟨h1, h2⟩ | h'
      · exact .inl ⟨.tail _ h1, by omega⟩
      · rw [List.lookup_cons] at h'
        cases e : x == y with
        | true =>
          rw [e] at h'
          have hk' := beq_iff_eq.mp hk
          simp only [Option.some.injEq] at h'
          rw [beq_iff_eq.mp e, hk', ← h']
          exact .inl ⟨.head _, Nat.le_refl _⟩
        | false => rw [e] at h'; exact .inr h'
    · rcases cellsFrom_lookup r _ _ x a h with ⟨h1, h2⟩ | h
      · exact .inl ⟨.tail _ h1, h2⟩
      · exact .inr h
theorem cellsFrom_has : ∀ (names : List (Str × NameKind)) (n : Nat) (acc : List (Str × Addr)) (x : Str), ((x, NameKind.cell) ∈ names ∨ ∃ a, acc.lookup x = some a) → ∃ a, (cellsFrom n names acc).lookup x = some a
  | [], _, acc, x, h => by rcases h with h | h; exact absurd h (by simp); exact h
  | (y, k) :: r, n, acc, x, h => by
    unfold cellsFrom
    split
    · rename_i hk
      refine cellsFrom_has r _ _ x ?_
      rcases h with h | ⟨a, h⟩
      · rcases List.mem_cons.mp h with e | h
        · cases e; exact .inr ⟨_, by rw [List.lookup_cons, beq_self_eq_true]⟩
        · exact .inl h
      · refine .inr ?_
        rw [List.lookup_cons]
        split
        · exact ⟨_, rfl⟩
        · exact ⟨a, h⟩
    · rename_i hk
      refine cellsFrom_has r _ _ x ?_
      rcases h with h | h
      · rcases List.mem_cons.mp h with e | h
        · cases e; exact absurd rfl hk
        · exact .inl h
      · exact .inr h
/-- which of them is there, and empty -/
theorem cells_fresh : ∀ (names : List (Str × NameKind)) (h : Heap) (acc : List (Str × Addr)) (x : Str) (a : Addr), (cellsFrom h.objs.size names acc).lookup x = some a → h.objs.size ≤ a → (∀ y b, acc.lookup y = some b → b < h.objs.size) →
    (pushCells h names).IsCell a none ∧ ∀ y, (cellsFrom h.objs.size names acc).lookup y = some a → y = x
  | [], h, acc, x, a, e, hl, ha => absurd (ha x a e) (Nat.not_lt.mpr hl)
  | (z, k) :: r, h, acc, x, a, e, hl, ha => by
    unfold cellsFrom at e ⊢
    unfold pushCells
    by_cases hk : (k == NameKind.cell) = true
    · simp only [hk, if_true] at e ⊢
      have hsz : (h.push { cls := .type "cell", data := .cell none }).objs.size = h.objs.size + 1 := Heap.size_push ..
      by_cases hx : h.objs.size + 1 ≤ a
      · have := cells_fresh r (h.push { cls := .type "cell", data := .cell none }) ((z, h.objs.size) :: acc) x a (by rw [hsz]; exact e) (by rw [hsz]; exact hx) (fun y b hb => by
          rw [hsz]
          rw [List.lookup_cons] at hb
          split at hb
          · cases hb; exact Nat.lt_succ_self _
          · exact Nat.lt_succ_of_lt (ha y b hb))
        rw [hsz] at this
        exact this
      · have hae : a = h.objs.size := Nat.le_antisymm (Nat.le_of_lt_succ (Nat.not_le.mp hx)) hl
        subst hae
        -- found in acc'
        have key : ∀ y, (cellsFrom (h.objs.size + 1) r ((z, h.objs.size) :: acc)).lookup y = some h.objs.size → y = z := by
          intro y hy
          rcases cellsFrom_lookup r _ _ y _ hy with ⟨_, h2⟩ | h2
          · exact absurd h2 (Nat.not_succ_le_self _)
          · rw [List.lookup_cons] at h2
            split at h2
            · rename_i e'; exact beq_iff_eq.mp e'
            · exact absurd (ha y _ h2) (Nat.lt_irrefl _)
        refine ⟨Heap.IsCell.keeps (h := h.push { cls := .type "cell", data := .cell none }) ⟨_, Heap.get?_push_size _ rfl, rfl⟩ (pushCells_keeps r _), fun y hy => (key y hy).trans (key x e).symm⟩
    · simp only [hk] at e ⊢
      exact cells_fresh r h acc x a (by simpa using e) hl ha

theorem relabel_lookup {scope : Scope} {env : Env} : ∀ {names : List (Str × NameKind)} {x : Str} {k : NameKind}, names.lookup x = some k →
    (names.map fun (n, k) => if (k == NameKind.free && env.scope.kind == .function && env.kindOf n == some .cell) then (n, NameKind.cell) else (n, k)).lookup x =
      some (if (k == NameKind.free && env.scope.kind == .function && env.kindOf x == some .cell) then NameKind.cell else k)
  | [], _, _, h => by simp at h
  | (n, k') :: r, x, k, h => by
    rw [List.lookup_cons] at h
    rw [List.map_cons]
    have hfst : ((if (k' == NameKind.free && env.scope.kind == .function && env.kindOf n == some .cell) then (n, NameKind.cell) else (n, k')) : Str × NameKind) = (n, if (k' == NameKind.free && env.scope.kind == .function && env.kindOf n == some .cell) then NameKind.cell else k') := by split <;> rfl
    show List.lookup x ((if (k' == NameKind.free && env.scope.kind == .function && env.kindOf n == some .cell) then (n, NameKind.cell) else (n, k')) :: _) = _
    rw [hfst, List.lookup_cons]
    by_cases e : (x == n) = true
    · rw [e] at h ⊢
      simp only [Option.some.injEq] at h
      subst h
      rw [beq_iff_eq.mp e]
    · simp only [Bool.not_eq_true] at e
      rw [e] at h ⊢
      exact relabel_lookup (scope := scope) h
theorem relabel_none {env : Env} : ∀ {names : List (Str × NameKind)} {x : Str}, names.lookup x = none →
    (names.map fun (n, k) => if (k == NameKind.free && env.scope.kind == .function && env.kindOf n == some .cell) then (n, NameKind.cell) else (n, k)).lookup x = none
  | [], _, _ => rfl
  | (n, k') :: r, x, h => by
    rw [List.lookup_cons] at h
    rw [List.map_cons]
    have hfst : ((if (k' == NameKind.free && env.scope.kind == .function && env.kindOf n == some .cell) then (n, NameKind.cell) else (n, k')) : Str × NameKind) = (n, if (k' == NameKind.free && env.scope.kind == .function && env.kindOf n == some .cell) then NameKind.cell else k') := by split <;> rfl
    show List.lookup x ((if (k' == NameKind.free && env.scope.kind == .function && env.kindOf n == some .cell) then (n, NameKind.cell) else (n, k')) :: _) = _
    rw [hfst, List.lookup_cons]
    by_cases e : (x == n) = true
    · rw [e] at h; cases h
    · simp only [Bool.not_eq_true] at e
      rw [e] at h ⊢
      exact relabel_none h

/-- the env of a comprehension -/
def cEnv (scope : Scope) (env : Env) (h : Heap) : Env :=
  { scope := relabel scope env, locals := h.objs.size, globals := env.globals, cells := cellsFrom (h.objs.size + 1) scope.names (takenBy env.cells scope.names []), qual := env.qual, func := none, code := env.code, frame := env.frame, builtins := env.builtins }
def cHeap (scope : Scope) (h : Heap) : Heap := pushCells (h.push { cls := .type "dict", data := .dict #[] }) scope.names
/-- what of the names about is seen within -/
def within (names : List (Str × NameKind)) (m : Loc) : Loc := m.filter fun x => !isWritten (names.lookup (Str.ofString x.1))
theorem within_lookup (names : List (Str × NameKind)) : ∀ (m : Loc) (x : String) (av : AV), (within names m).lookup x = some av → m.lookup x = some av ∧ isWritten (names.lookup (Str.ofString x)) = false
  | [], _, _, h => by simp [within] at h
  | (y, v) :: r, x, av, h => by
    unfold within at h
    rw [List.filter_cons] at h
    split at h
    · rename_i hw
      rw [List.lookup_cons] at h ⊢
      split at h
      · rename_i e
        have := beq_iff_eq.mp e; subst this
        exact ⟨h, by simpa using hw⟩
      · exact within_lookup names r x av h
    · rename_i hw
      have ih := within_lookup names r x av h
      refine ⟨?_, ih.2⟩
      rw [List.lookup_cons]
      split
      · rename_i e
        have := beq_iff_eq.mp e; subst this
        rw [ih.2] at hw; simp at hw
      · exact ih.1

section
variable {c : Cx} {d : Nat} {ks : List (Str × NameKind)} {W : Str → Prop} {env : Env} {Fz : Fzn} {A : Around} {m : Loc} {σ : AHeap} {s : Shared} {X : Addr → Loc → AHeap → Prop} {E : Value → Shared → Prop}

theorem newEnv_comp {scope : Scope} {cl : List (Str × Addr)} {Q : Env → Shared → Prop} {M : Model} (hcl : cl = takenBy env.cells scope.names [])
    (h : Q { (cEnv scope env s.heap) with scope := scope } { s with heap := cHeap scope s.heap }) : wpAny M A (newFunctionEnv scope env.globals cl [] env.qual none .none (some env)) Q E s := by
  subst hcl
  unfold newFunctionEnv
  refine wpAny_bind (wpAny_alloc (wpAny_bind ?_))
  refine wpAny_layCells _ (fun name kind cells => ?_) _ _ _ _ ?_
  · split <;> simp_all
  · have e : (s.heap.push { cls := .type "dict", data := .dict #[] }).objs.size = s.heap.objs.size + 1 := Heap.size_push ..
    refine wpAny_bind (wpAny_pure ?_)
    unfold cEnv cHeap at h
    rw [← e] at h
    exact wpAny_pure h

theorem cHeap_keeps (scope : Scope) (h : Heap) : ∀ b o, h.get? b = some o → (cHeap scope h).get? b = some o := fun b o e => pushCells_keeps _ _ _ _ (Heap.get?_push_of_some _ e)

theorem comp_fm {scope : Scope} {h : Heap} {Fz' : Fzn} (hkd : scope.kind = .function) (hn : namesOk scope.names = true) (hfree : (scope.names.all fun x => x.2 != .free || isCell (ks.lookup x.1)) = true) (nk : NK env W ks)
    (F : Fm W env m Fz σ h) (S : St c.prog c.w Fz' σ h) (hl : ∀ a, h.objs.size ≤ a → ∀ o, ¬ Fz' a o) :
    Fm (fun x => scope.names.lookup x = some .cell) (cEnv scope env h) (within scope.names m) Fz' σ (cHeap scope h) ∧ NK (cEnv scope env h) (fun x => scope.names.lookup x = some .cell) scope.names := by
  have k := cHeap_keeps scope h
  have g := grow_keeps k
  have hacc : ∀ y b, (takenBy env.cells scope.names []).lookup y = some b → b < (h.push { cls := .type "dict", data := .dict #[] }).objs.size ∧ env.cells.lookup y = some b ∧ scope.names.lookup y = some .free := by
    intro y b e
    rcases taken_lookup _ _ y b e with ⟨⟨kk, h1, rfl⟩, h2⟩ | h1
    · have h3 := List.all_eq_true.mp hfree _ h1
      have h4 : isCell (ks.lookup y) = true := by simpa using h3
      have h5 : env.kindOf y = some .cell ∨ env.kindOf y = some .free := by
        cases q : ks.lookup y with
        | none => rw [q] at h4; cases h4
        | some kd =>
          obtain ⟨_, n2, n3, _⟩ := nk y kd q
          rw [q] at h4
          cases kd <;> first | (cases h4; done) | exact .inl (n2 rfl).1 | exact (n3 rfl).symm
      obtain ⟨a, ha⟩ := F.hc y h5
      rw [ha] at h2
      simp only [Option.getD_some] at h2
      subst h2
      obtain ⟨v, o, ho, _⟩ := F.cs y b ha
      refine ⟨by rw [Heap.size_push]; exact Nat.lt_succ_of_lt (Heap.lt_size ho), ha, namesOk_mem hn _ h1⟩
    · simp at h1
  have hsz : (h.push { cls := .type "dict", data := .dict #[] }).objs.size = h.objs.size + 1 := Heap.size_push ..
  have hcell : ∀ x a, (cEnv scope env h).cells.lookup x = some a → ((x, NameKind.cell) ∈ scope.names ∧ h.objs.size + 1 ≤ a ∧ (cHeap scope h).IsCell a none ∧ ∀ y, (cEnv scope env h).cells.lookup y = some a → y = x) ∨ (env.cells.lookup x = some a ∧ scope.names.lookup x = some .free ∧ a < h.objs.size) := by
    intro x a e
    rcases cellsFrom_lookup _ _ _ x a e with ⟨h1, h2⟩ | h1
    · refine .inl ⟨h1, h2, ?_⟩
      have := cells_fresh scope.names (h.push { cls := .type "dict", data := .dict #[] }) (takenBy env.cells scope.names []) x a (by rw [hsz]; exact e) (by rw [hsz]; exact h2) (fun y b hb => (hacc y b hb).1)
      rw [hsz] at this
      exact this
    · obtain ⟨v, o, ho, _⟩ := F.cs x a (hacc x a h1).2.1
      exact .inr ⟨(hacc x a h1).2.1, (hacc x a h1).2.2, Heap.lt_size ho⟩
  have kindOf : ∀ x kd, scope.names.lookup x = some kd → (cEnv scope env h).kindOf x = some (if (kd == NameKind.free && env.scope.kind == .function && env.kindOf x == some .cell) then NameKind.cell else kd) := fun x kd e => relabel_lookup (scope := scope) e
  have kindNone : ∀ x, scope.names.lookup x = none → (cEnv scope env h).kindOf x = none := fun x e => relabel_none e
  refine ⟨⟨hkd, F.gl, F.bl, ?_, ?_, ?_, ?_, ?_, ?_, ?_⟩, ?_⟩
  · refine ⟨fun _ => none, (Heap.Ns.new h (.type "dict")).keeps (pushCells_keeps _ _), fun x av e kd => ?_⟩
    obtain ⟨_, hw⟩ := within_lookup _ m x av e
    cases q : scope.names.lookup (Str.ofString x) with
    | none => rw [kindNone _ q] at kd; cases kd
    | some k' =>
      rw [kindOf _ _ q] at kd
      rw [q] at hw
      cases k' with
      | «local» => cases hw
      | cell => cases hw
      | free => split at kd <;> cases kd
      | globalExplicit => simp at kd
      | globalImplicit => simp at kd
  · intro x a e
    rcases hcell x a e with ⟨_, _, h1, _⟩ | ⟨h1, _, _⟩
    · exact ⟨_, h1⟩
    · obtain ⟨v, hv⟩ := F.cs x a h1
      exact ⟨v, hv.keeps k⟩
  · intro x av e kd
    obtain ⟨e0, hw⟩ := within_lookup _ m x av e
    cases q : scope.names.lookup (Str.ofString x) with
    | none => rw [kindNone _ q] at kd; rcases kd with kd | kd <;> cases kd
    | some k' =>
      rw [kindOf _ _ q] at kd
      rw [q] at hw
      cases k' with
      | «local» => cases hw
      | cell => cases hw
      | globalExplicit => simp at kd
      | globalImplicit => simp at kd
      | free =>
        obtain ⟨a, ha⟩ := taken_has (cells := env.cells) scope.names [] (Str.ofString x) (.inl (lookup_mem q))
        obtain ⟨_, h2, _⟩ := hacc _ _ ha
        have h3 := List.all_eq_true.mp hfree _ (lookup_mem q)
        have h4 : isCell (ks.lookup (Str.ofString x)) = true := by simpa using h3
        have h5 : env.kindOf (Str.ofString x) = some .cell ∨ env.kindOf (Str.ofString x) = some .free := by
          cases q' : ks.lookup (Str.ofString x) with
          | none => rw [q'] at h4; cases h4
          | some kd =>
            obtain ⟨_, n2, n3, _⟩ := nk _ kd q'
            rw [q'] at h4
            cases kd <;> first | (cases h4; done) | exact .inl (n2 rfl).1 | exact (n3 rfl).symm
        obtain ⟨cc, v, f1, f2, f3⟩ := F.cv x av e0 h5
        obtain ⟨b, hb⟩ := cellsFrom_has scope.names (h.objs.size + 1) (takenBy env.cells scope.names []) (Str.ofString x) (.inr ⟨a, ha⟩)
        rcases hcell _ _ hb with ⟨g1, _⟩ | ⟨g1, _, _⟩
        · have := namesOk_mem hn _ g1
          rw [q] at this; cases this
        · rw [f1] at g1; cases g1
          exact ⟨cc, v, hb, f2.keeps k, f3.grow g⟩
  · exact hl _ (Nat.le_refl _)
  · exact S.freeσ (not_there h)
  · intro x a hW e
    rcases hcell x a e with ⟨_, h1, _, h2⟩ | ⟨_, h1, _⟩
    · exact ⟨hl a (by omega), h2⟩
    · rw [hW] at h1; cases h1
  · intro x kd
    cases q : scope.names.lookup x with
    | none => rw [kindNone _ q] at kd; rcases kd with kd | kd <;> cases kd
    | some k' =>
      rw [kindOf _ _ q] at kd
      cases k' with
      | «local» => simp at kd
      | globalExplicit => simp at kd
      | globalImplicit => simp at kd
      | cell => exact cellsFrom_has scope.names _ _ x (.inl (lookup_mem q))
      | free => exact cellsFrom_has scope.names _ _ x (.inr (taken_has scope.names [] x (.inl (lookup_mem q))))
  · intro x kd q
    refine ⟨?_, ?_, ?_, ?_⟩
    · rintro rfl; rw [kindOf _ _ q]; rfl
    · rintro rfl; exact ⟨by rw [kindOf _ _ q]; rfl, q⟩
    · rintro rfl; rw [kindOf _ _ q]; split; exact .inr rfl; exact .inl rfl
    · rintro rfl; rw [kindOf _ _ q]; rfl
end

-- Cx12
set_option Elab.async false
set_option linter.unusedVariables false
set_option linter.unusedSimpArgs false
set_option maxRecDepth 4000

section
variable {c : Cx} {d : Nat} {ks : List (Str × NameKind)} {W : Str → Prop} {env : Env} {Fz : Fzn} {A : Around} {m : Loc} {σ : AHeap} {s : Shared} {X : Addr → Loc → AHeap → Prop} {E : Value → Shared → Prop} {R : Result → Shared → Prop}
variable {nm : List String} {n : Nat}

theorem tests_of (IHt : ∀ e ir, tr nm n ks e = some ir → TvS c d ks ir e) : ∀ (es : List Expr) (irs : IEs) (W : Str → Prop) (env : Env) (Fz : Fzn) (A : Around) (m : Loc) (σ : AHeap) (s : Shared) (Q : Bool → AHeap → Prop) (X : Addr → Loc → AHeap → Prop), trList (tr nm n ks) es = some irs → FS c d ks W env Fz A m σ s.heap →
    wpIfs c d irs m σ Q (fun C => X C m) →
    wpAny c.M A (forIn es true fun c r => if r = true then do let ok ← isTrue c env (eval c env); pure (ForInStep.yield ok) else pure (ForInStep.yield r)) (BPost c W env Fz m s Q) (FX c W env Fz X) s
  | [], irs, _, _, _, _, _, _, _, _, _, ht, F, h => by
    simp only [trList, Option.some.injEq] at ht; subst ht
    simp only [wpIfs] at h
    rw [List.forIn_nil]
    exact wpAny_pure ⟨_, F.st, F.fm, .refl _, h⟩
  | e :: es, irs, W, env, Fz, A, m, σ, s, Q, X, ht, F, h => by
    simp only [trList] at ht
    split at ht
    · rename_i i is h1 h2
      simp only [Option.some.injEq] at ht; subst ht
      simp only [wpIfs] at h
      rw [List.forIn_cons]
      simp only [if_true]
      refine wpAny_bind (wpAny_bind (wpAny_mono (IHt e i h1 _ _ _ _ _ _ _ _ _ F h) ?_ fun _ _ x => x))
      rintro bb s₁ ⟨σ₁, S₁, F₁, g₁, q₁⟩
      refine wpAny_pure ?_
      cases bb with
      | true => exact wpAny_mono (tests_of IHt es is _ _ _ _ _ _ s₁ _ _ h2 (F.next S₁ F₁) q₁) (fun _ _ x => x.up g₁) fun _ _ x => x
      | false =>
        simp only [Bool.false_eq_true, if_false] at q₁
        have : ∀ l : List Expr, (forIn l false fun c r => if r = true then do let ok ← isTrue c env (eval c env); pure (ForInStep.yield ok) else pure (ForInStep.yield r) : Sem Bool) = pure false := by
          intro l
          induction l with
          | nil => rfl
          | cons a l ih => rw [List.forIn_cons]; simp only [Bool.false_eq_true, if_false, pure_bind]; exact ih
        show wpAny _ _ (forIn es false _) _ _ _
        rw [this es]
        exact wpAny_pure ⟨σ₁, S₁, F₁, g₁, q₁⟩
    · cases ht

theorem codeAny_comp {elt target iter : Expr} {ifs : List Expr} {scope : Scope} {pos : Pos} {it acc : Value} {env : Env} (I : Nat → Shared → Prop)
    (turn : ∀ n s, I n s → wpAny c.M A (pyNext it) (fun r s₁ => match r with
      | none => R (.ok .next) s₁
      | some v => wpAny c.M A (letOwnedTupleGo target it v) (fun _ s₁ => wpAny c.M A (assign target env v) (fun _ s₂ =>
          wpAny c.M A (forIn ifs true fun c r => if r = true then do let ok ← isTrue c env (eval c env); pure (ForInStep.yield ok) else pure (ForInStep.yield r)) (fun ok s₃ =>
            if ok = true then wpAny c.M A (eval elt env) (fun x s₄ =>
              wpAny c.M A (call (.builtin "list.append") [acc, x]) (fun _ s₅ => ∃ m, m < n ∧ I m s₅) (fun _ _ => False) s₄) (fun _ _ => False) s₃
            else ∃ m, m < n ∧ I m s₃) (fun _ _ => False) s₂) (fun _ _ => False) s₁) (fun _ _ => False) s₁) (fun _ _ => False) s)
    (n : Nat) (h : I n s) :
    codeAny c.M A (.compLoop (.ListComp elt [⟨target, iter, ifs, 0⟩] scope pos) 0 it acc env) R s := by
  refine codeAny_loop rfl I (fun n s hI => ?_) n h
  show wpAny _ A ((compTurn (.ListComp elt [⟨target, iter, ifs, 0⟩] scope pos) 0 it acc env).onRaise (fun x => do noteFrame x env; theTreesLotGoes x)) _ _ s
  refine wpAny_noted ?_
  rw [compTurn_list]
  have no : ∀ {P : Value → Shared → Prop} (e : Value) (s : Shared), False → P e s := fun _ _ f => f.elim
  refine wpAny_bind (wpAny_standAt (wpAny_bind (wpAny_mono (turn n s hI) (fun r s₁ h₁ => ?_) no)))
  cases r with
  | none => exact wpAny_pure h₁
  | some v =>
    refine wpAny_bind (wpAny_mono h₁ (fun _ s₁' h₁' => wpAny_bind (wpAny_mono h₁' (fun _ s₂ h₂ => wpAny_bind (wpAny_mono h₂ (fun ok s₃ h₃ => ?_) no)) no)) no)
    cases ok with
    | false => exact wpAny_pure ⟨rfl, h₃⟩
    | true =>
      exact wpAny_bind (wpAny_bind (wpAny_mono h₃ (fun x s₄ h₄ => wpAny_bind (wpAny_mono h₄ (fun _ s₅ h₅ => wpAny_pure (wpAny_pure ⟨rfl, h₅⟩)) no)) no))

/-- an object apart is changed -/
theorem St.apartWrite {h h' : Heap} {D : Addr} {o : Obj} (S : St c.prog c.w Fz σ h) (hD : ∀ o, ¬ Fz D o) (hσ : σ D = none) (hs : Heap.SameBut D h h') (ho : h.get? D = some o) (hl : ¬ Lasting o) : St c.prog c.w Fz σ h' ∧ Grow h h' := by
  have g : Grow h h' := by
    intro b p hp hlp
    by_cases e : b = D
    · subst e; rw [ho] at hp; cases hp; exact absurd hlp hl
    · exact (hs.2 b e).trans hp
  refine ⟨⟨fun b p q => ?_, fun a ce e => ?_, S.apart⟩, g⟩
  · by_cases e : b = D
    · subst e; exact absurd q (hD p)
    · exact (hs.2 b e).trans (S.fz b p q)
  · have : a ≠ D := by rintro rfl; rw [hσ] at e; cases e
    exact (S.cell a ce e).move g fun o ho => (hs.2 a this).trans ho
theorem Fm.apartWrite {h h' : Heap} {D : Addr} (F : Fm W env m Fz σ h) (hl : D ≠ env.locals) (hc : ∀ x : Str, env.cells.lookup x ≠ some D) (g : Grow h h') (hs : Heap.SameBut D h h') : Fm W env m Fz σ h' := by
  refine ⟨F.fn, F.gl, F.bl, ?_, ?_, ?_, F.nfz, F.nσ, F.cw, F.hc⟩
  · obtain ⟨mL, hn, hmL⟩ := F.ns
    exact ⟨mL, hn.sameBut hs (fun e => hl e.symm), fun x av e k => let ⟨v, a, b⟩ := hmL x av e k; ⟨v, a, b.grow g⟩⟩
  · intro x cc e
    obtain ⟨v, hv⟩ := F.cs x cc e
    exact ⟨v, hv.sameBut hs (fun q => hc x (q ▸ e))⟩
  · intro x av e k
    obtain ⟨cc, v, a, b, r⟩ := F.cv x av e k
    exact ⟨cc, v, a, b.sameBut hs (fun q => hc _ (q ▸ a)), r.grow g⟩

theorem listOf_notLasting (its : Array Value) (k : Nat) : ¬ Lasting (listOf its k) := by simp [Lasting]

theorem cut_lookup (l : List String) : ∀ (m : Loc) (x : String), (m.cut l).lookup x = if l.contains x then none else m.lookup x
  | [], x => by simp [Loc.cut]
  | (y, v) :: r, x => by
    unfold Loc.cut
    rw [List.filter_cons]
    have ih := cut_lookup l r x
    unfold Loc.cut at ih
    by_cases hy : l.contains y = true
    · simp only [hy, Bool.not_true, Bool.false_eq_true, if_false]
      rw [ih, List.lookup_cons]
      cases e : x == y with
      | true => rw [beq_iff_eq.mp e, hy]; simp
      | false => rfl
    · simp only [Bool.not_eq_true] at hy
      simp only [hy, Bool.not_false, if_true]
      rw [List.lookup_cons, ih, List.lookup_cons]
      cases e : x == y with
      | true => rw [beq_iff_eq.mp e, hy]; simp
      | false => rfl

mutual
theorem wpTgt_names : ∀ (t : Tgt) (v : AV) (m : Loc) (σ : AHeap) (k : Loc → Prop), wpTgt c d t v m σ k → wpTgt c d t v m σ (fun m₁ => k m₁ ∧ ∀ x, t.names.contains x = false → m₁.lookup x = m.lookup x)
  | .name y, v, m, σ, k, h => by
    simp only [wpTgt] at h ⊢
    refine ⟨h, fun x hx => ?_⟩
    rw [Loc.lookup_put]
    have : ¬ x = y := by rintro rfl; simp [Tgt.names] at hx
    rw [if_neg this]
  | .tup l, v, m, σ, k, h => by
    simp only [wpTgt] at h ⊢
    intro A Fz s u E P hr hb hbs S r hk
    exact h A Fz s u E P hr hb hbs S r (fun vs l' s' S' hh rr hl hq => hk vs l' s' S' hh rr hl (by
      have := wpTgts_names l l' m σ k hq
      simpa only [Tgt.names] using this))
theorem wpTgts_names : ∀ (t : Tgts) (v : List AV) (m : Loc) (σ : AHeap) (k : Loc → Prop), wpTgts c d t v m σ k → wpTgts c d t v m σ (fun m₁ => k m₁ ∧ ∀ x, t.names.contains x = false → m₁.lookup x = m.lookup x)
  | .nil, v, m, σ, k, h => by
    simp only [wpTgts] at h ⊢
    exact ⟨h, fun _ _ => trivial⟩
  | .cons t r, [], m, σ, k, h => by simp only [wpTgts] at h
  | .cons t r, v :: vs, m, σ, k, h => by
    simp only [wpTgts] at h ⊢
    have h1 := wpTgt_names t v m σ _ h
    refine wpTgt_mono t v m σ _ _ (fun m₁ q => ?_) h1
    have h2 := wpTgts_names r vs m₁ σ k q.1
    refine wpTgts_mono r vs m₁ σ _ _ (fun m₂ q2 => ⟨q2.1, fun x hx => ?_⟩) h2
    have hx' : t.names.contains x = false ∧ r.names.contains x = false := by simpa [Tgts.names] using hx
    rw [q2.2 x hx'.2, q.2 x hx'.1]
theorem wpTgt_mono : ∀ (t : Tgt) (v : AV) (m : Loc) (σ : AHeap) (k k' : Loc → Prop), (∀ m, k m → k' m) → wpTgt c d t v m σ k → wpTgt c d t v m σ k'
  | .name y, v, m, σ, k, k', hk, h => by simp only [wpTgt] at h ⊢; exact hk _ h
  | .tup l, v, m, σ, k, k', hk, h => by
    simp only [wpTgt] at h ⊢
    intro A Fz s u E P hr hb hbs S r hkk
    exact h A Fz s u E P hr hb hbs S r (fun vs l' s' S' hh rr hl hq => hkk vs l' s' S' hh rr hl (wpTgts_mono l l' m σ k k' hk hq))
theorem wpTgts_mono : ∀ (t : Tgts) (v : List AV) (m : Loc) (σ : AHeap) (k k' : Loc → Prop), (∀ m, k m → k' m) → wpTgts c d t v m σ k → wpTgts c d t v m σ k'
  | .nil, v, m, σ, k, k', hk, h => by simp only [wpTgts] at h ⊢; exact hk _ h
  | .cons t r, [], m, σ, k, k', hk, h => by simp only [wpTgts] at h
  | .cons t r, v :: vs, m, σ, k, k', hk, h => by
    simp only [wpTgts] at h ⊢
    exact wpTgt_mono t v m σ _ _ (fun m₁ q => wpTgts_mono r vs m₁ σ k k' hk q) h
end

theorem FX.no {e : Value} {s : Shared} (x : FX c W env Fz (fun _ _ _ => False) e s) : False := by obtain ⟨_, _, _, _, _, _, f⟩ := x; exact f

/-- how things stand in the loop of a comprehension -/
structure CInv (c : Cx) (d : Nat) (keep : AHeap → Prop) (body : AV → List AV → AHeap → (List AV → AHeap → Prop) → Prop) (items : List AV) (ai : Addr → Prop) (D : Addr) (P : List AV → Heap → Prop) (W' : Str → Prop) (cenv : Env) (m' : Loc) (Fo : Fzn) (Qf : List AV → AHeap → Prop) (s0 : Shared)
    (rest acc : List AV) (its : Array Value) (k : Nat) (σ : AHeap) (s : Shared) : Prop where
  st : St c.prog c.w Fo σ s.heap
  fm : Fm W' cenv m' Fo σ s.heap
  hD : s.heap.get? D = some (listOf its k)
  hDσ : σ D = none
  haσ : ∀ a, ai a → σ a = none
  hP : P rest s.heap
  gr : GrowS s0 s
  hacc : RVs s.heap its.toList acc
  len : acc.length + rest.length ≤ items.length
  loop : compLoop keep body rest acc σ Qf

theorem compLoop_keep {β : Type} {keep : AHeap → Prop} {body : AV → β → AHeap → (β → AHeap → Prop) → Prop} {rest : List AV} {b : β} {Q : β → AHeap → Prop} (h : compLoop keep body rest b σ Q) : keep σ := by
  cases rest <;> (simp only [compLoop] at h; exact h.1)

/-- the loop of a comprehension -/
theorem comp_loop {keep : AHeap → Prop} {elt target iter : Expr} {ifs : List Expr} {scope : Scope} {pos : Pos} {it : Value} {ai : Addr → Prop} {D : Addr} {en : Bool} {P : List AV → Heap → Prop} {P' : Value → List AV → Heap → Prop} {ks' : List (Str × NameKind)} {W' : Str → Prop} {cenv : Env} {m' : Loc} {Fo : Fzn}
    {xe : IE} {tg : Tgt} {is : IEs} {items : List AV} {Qf : List AV → AHeap → Prop} {s0 : Shared}
    (hroom : Room A d) (hbase : Base c) (hbs : Bs c Fo) (nk : NK cenv W' ks')
    (he : EvS c d ks' xe elt) (ht : ASg c d ks' tg target) (hi : ∀ (W : Str → Prop) (env : Env) (Fz : Fzn) (A : Around) (m : Loc) (σ : AHeap) (s : Shared) (Q : Bool → AHeap → Prop) (X : Addr → Loc → AHeap → Prop), FS c d ks' W env Fz A m σ s.heap → wpIfs c d is m σ Q (fun C => X C m) →
      wpAny c.M A (forIn ifs true fun c r => if r = true then do let ok ← isTrue c env (eval c env); pure (ForInStep.yield ok) else pure (ForInStep.yield r)) (BPost c W env Fz m s Q) (FX c W env Fz X) s)
    (htup : en = true → ∃ elts k p, target = .Tuple elts k p) (I : ItSpec c d en it ai P P' keep) (hDo : ∀ o, ¬ Fo D o) (hao : ∀ a o, ai a → ¬ Fo a o) (hDa : ¬ ai D) (hlen : items.length ≤ sizeLine) (hcD : D ≠ cenv.locals ∧ ∀ x : Str, cenv.cells.lookup x ≠ some D) (hca : ¬ ai cenv.locals ∧ ∀ (x : Str) a, cenv.cells.lookup x = some a → ¬ ai a)
    (hm : ∀ x av, m'.lookup x = some av → tg.names.contains x = false)
    (hfin : ∀ σ' s' its' k' acc', CInv c d keep (fun x acc σ k => wpTgt c d tg x m' σ (fun m' => wpIfs c d is m' σ (fun ok σ' => if ok then wpE c d xe m' σ' (fun v σ₂ => k (acc ++ [v]) σ₂) (fun _ _ => False) else k acc σ') (fun _ _ => False))) items ai D (fun _ _ => True) W' cenv m' Fo Qf s0 [] acc' its' k' σ' s' → R (.ok .next) s') :
    ∀ (n : Nat) (s : Shared) (rest acc : List AV) (its : Array Value) (k0 : Nat) (σ : AHeap), rest.length = n → CInv c d keep (fun x acc σ k => wpTgt c d tg x m' σ (fun m' => wpIfs c d is m' σ (fun ok σ' => if ok then wpE c d xe m' σ' (fun v σ₂ => k (acc ++ [v]) σ₂) (fun _ _ => False) else k acc σ') (fun _ _ => False))) items ai D P W' cenv m' Fo Qf s0 rest acc its k0 σ s →
    codeAny c.M A (.compLoop (.ListComp elt [⟨target, iter, ifs, 0⟩] scope pos) 0 it (.ref D) cenv) R s := by
  intro n s rest acc its k0 σ hn hI
  refine codeAny_comp (fun n s => ∃ rest acc its k σ, rest.length = n ∧ CInv c d keep _ items ai D P W' cenv m' Fo Qf s0 rest acc its k σ s) ?_ n ⟨rest, acc, its, k0, σ, hn, hI⟩
  clear hI hn rest acc its k0 σ s n
  rintro n s ⟨rest, acc, its, k0, σ, hn, V⟩
  have hkeep := compLoop_keep V.loop
  -- the next one
  let F1 : Fzn := FzH Fo D (listOf its k0)
  have S1 : St c.prog c.w F1 σ s.heap := V.st.hold V.hD V.hDσ
  have M1 : Fm W' cenv m' F1 σ s.heap := V.fm.hold hcD.1 hcD.2
  have S2 := S1.freeze M1
  have ha2 : ∀ a o, ai a → ¬ Frz cenv F1 s.heap a o := by
    rintro a o y (⟨q | ⟨q, _⟩⟩ | ⟨_, q | ⟨x, q⟩⟩)
    · exact hao a o y q
    · exact hDa (q ▸ y)
    · exact hca.1 (q ▸ y)
    · exact hca.2 x a q y
  have hb2 : Bs c (Frz cenv F1 s.heap) := fun b o e => .inl (.inl (hbs b o e))
  refine I.next A (Frz cenv F1 s.heap) σ rest s _ _ hroom hb2 S2 hkeep ha2 V.haσ V.hP ?_
  intro r s₁ T1 g1 hr
  cases rest with
  | nil =>
    subst hr
    have M1' := M1.thaw T1 g1.g
    refine hfin σ s₁ its k0 acc ⟨T1.unfreeze.unhold, M1'.unhold, ?_, V.hDσ, V.haσ, trivial, V.gr.trans g1, V.hacc.grow g1.g, V.len, V.loop⟩
    exact T1.fz _ _ (.inl (.inr ⟨rfl, rfl⟩))
  | cons x xs =>
    obtain ⟨v, rfl, rv, hP1⟩ := hr
    show wpAny _ _ (letOwnedTupleGo target it v) _ _ s₁
    refine I.letGo A (Frz cenv F1 s.heap) σ xs s₁ v target _ _ htup hroom T1 ha2 V.haσ hP1 ?_
    intro s₂ T2 g2 hP2
    have hoa := I.there _ _ hP2
    have hl := V.loop
    simp only [compLoop] at hl
    have hbody := hl.2
    have M2 := M1.thaw T2 (g1.trans g2).g
    have SB : St c.prog c.w (FzS F1 ai s₂.heap) σ s₂.heap := T2.unfreeze.holdS V.haσ
    have MB : Fm W' cenv m' (FzS F1 ai s₂.heap) σ s₂.heap := M2.holdS hca.1 hca.2
    have FB : FS c d ks' W' cenv (FzS F1 ai s₂.heap) A m' σ s₂.heap := ⟨hbase, nk, hroom, fun b o e => .inl (.inl (hbs b o e)), SB, MB⟩
    refine wpAny_mono (ht W' cenv (FzS F1 ai s₂.heap) A m' σ s₂ _ v x _ FB (rv.grow g2.g) (wpTgt_names tg x m' σ _ hbody)) ?_ (fun _ _ f => f)
    rintro _ s₃ ⟨m₁, S3, M3, g3, ⟨hk, hnames⟩⟩
    have F3 : FS c d ks' W' cenv (FzS F1 ai s₂.heap) A m₁ σ s₃.heap := FB.next' S3 M3
    refine wpAny_mono (hi W' cenv _ A m₁ σ s₃ _ (fun _ _ _ => False) F3 hk) ?_ (fun _ _ f => f.no)
    rintro ok s₄ ⟨σ₄, S4, M4, g4, hok⟩
    have gAll : GrowS s s₄ := ((g1.trans g2).trans g3).trans g4
    -- how it stands behind a turn
    have mback : ∀ x av, m'.lookup x = some av → m₁.lookup x = some av := fun x av e => (hnames x (hm x av e)).trans e
    cases ok with
    | false =>
      simp only [Bool.false_eq_true, if_false] at hok ⊢
      refine ⟨xs.length, by rw [← hn]; simp, xs, acc, its, k0, σ₄, rfl, ⟨S4.unholdS.unhold, (M4.unholdS.unhold).lessm mback, S4.fz _ _ (.inl (.inr ⟨rfl, rfl⟩)), ?_, ?_, ?_, V.gr.trans gAll, V.hacc.grow gAll.g, ?_, hok⟩⟩
      · cases e : σ₄ D with
        | none => rfl
        | some ce => exact absurd (.inl (.inr ⟨rfl, rfl⟩)) (S4.apart D ce (listOf its k0) e)
      · exact S4.noneS hoa
      · exact I.still _ _ _ hP2 S4.keptS (g3.trans g4).g
      · have := V.len; simp at this ⊢; omega
    | true =>
      simp only [if_true] at hok ⊢
      have F4 := F3.next S4 M4
      refine wpAny_mono (he W' cenv _ A m₁ σ₄ s₄ _ (fun _ _ _ => False) F4 hok) ?_ (fun _ _ f => f.no)
      rintro u s₅ ⟨uv, σ₅, S5, M5, g5, ru, hq⟩
      have hD5 : s₅.heap.get? D = some (listOf its k0) := S5.fz _ _ (.inl (.inr ⟨rfl, rfl⟩))
      have hσ5 : σ₅ D = none := by
        cases e : σ₅ D with
        | none => rfl
        | some ce => exact absurd (.inl (.inr ⟨rfl, rfl⟩)) (S5.apart D ce (listOf its k0) e)
      have hσa : ∀ a, ai a → σ₅ a = none := S5.noneS hoa
      have gAll5 := gAll.trans g5
      have hsz : its.size ≤ sizeLine := by
        have h1 := V.hacc.length
        have h2 := V.len
        simp at h1 h2
        omega
      refine append_at hD5 (fun h' hs hD' => ?_) hsz
      obtain ⟨S6, g6⟩ := (S5.unholdS.unhold).apartWrite hDo hσ5 hs hD5 (listOf_notLasting its k0)
      refine ⟨xs.length, by rw [← hn]; simp, xs, acc ++ [uv], its.push u, k0 + 1, σ₅, rfl, ⟨S6, ((M5.unholdS.unhold).lessm mback).apartWrite hcD.1 hcD.2 g6 hs, hD', hσ5, hσa, ?_, V.gr.trans ⟨gAll5.g.trans g6, gAll5.k.os, gAll5.k.gens⟩, ?_, ?_, hq⟩⟩
      · exact I.still _ _ _ hP2 (fun a o y e => (hs.2 a (fun e => hDa (e ▸ y))).trans (S5.keptS a o y e)) (((g3.trans g4).trans g5).g.trans g6)
      · rw [Array.toList_push]
        exact ((V.hacc.grow gAll5.g).grow g6).append (.one (ru.grow g6))
      · have := V.len; simp at this ⊢; omega
end

-- Cx13
set_option Elab.async false
set_option linter.unusedVariables false
set_option linter.unusedSimpArgs false
set_option maxRecDepth 4000

section
variable {c : Cx} {d : Nat} {ks : List (Str × NameKind)} {W : Str → Prop} {env : Env} {Fz : Fzn} {A : Around} {m : Loc} {σ : AHeap} {s : Shared} {X : Addr → Loc → AHeap → Prop} {E : Value → Shared → Prop}
variable {nm : List String} {n : Nat}

theorem ns_notLasting {h : Heap} {a : Addr} {mm : Str → Option Value} {o : Obj} (x : h.Ns a mm) (e : h.get? a = some o) : ¬ Lasting o := by
  obtain ⟨o', es, ep, e', hd, _⟩ := x
  rw [e] at e'; cases e'
  simp [Lasting, hd]

theorem folded_pure {iter : Expr} (h : notSet iter = true) (env : Env) (x : Value) : foldedSetIterable iter env x = pure x := by
  cases iter <;> first | rfl | simp [notSet] at h

theorem St.adopt {h : Heap} {a : Addr} {ce : Cell} (S : St c.prog c.w Fz σ h) (hf : ∀ o, ¬ Fz a o) (hh : Holds c.prog c.w h a ce) : St c.prog c.w Fz (σ.set a ce) h :=
  ⟨S.fz, fun b ce' e => by
    by_cases q : b = a
    · subst q; rw [AHeap.set_self] at e; cases e; exact hh
    · rw [AHeap.set_ne _ _ q] at e; exact S.cell b ce' e, fun b ce' o e => by
    by_cases q : b = a
    · subst q; exact hf o
    · rw [AHeap.set_ne _ _ q] at e; exact S.apart b ce' o e⟩

/-- how a thing is gone through -/
def ItS (c : Cx) (d : Nat) (ks : List (Str × NameKind)) (en : Bool) (ir : IE) (e : Expr) : Prop :=
  ∀ (W : Str → Prop) (env : Env) (Fz : Fzn) (A : Around) (m : Loc) (σ : AHeap) (s : Shared) (K : List AV → (AHeap → Prop) → AHeap → Prop) (X : Addr → Loc → AHeap → Prop) (R : Value → Shared → Prop), FS c d ks W env Fz A m σ s.heap →
    (en = true → Glob c "enumerate" (.type "enumerate")) → wpE c d ir m σ (fun sv σ₁ => IterW c d en sv σ₁ (fun items keep => K items keep σ₁)) (fun C => X C m) →
    (∀ it (ai : Addr → Prop) P P' s₂ items keep σ₁, FS c d ks W env Fz A m σ₁ s₂.heap → GrowS s s₂ → ¬ ai env.locals → (∀ (x : Str) a, env.cells.lookup x = some a → ¬ ai a) → (∀ a, ai a → σ₁ a = none) → (∀ a o, ai a → ¬ Fz a o) →
      ItSpec c d en it ai P P' keep → P items s₂.heap → K items keep σ₁ → R it s₂) →
    wpAny c.M A (eval e env) (fun v s₁ => wpAny c.M A (pyIter v) R (FX c W env Fz X) s₁) (FX c W env Fz X) s

theorem its_plain {ir : IE} {e : Expr} (he : EvS c d ks ir e) : ItS c d ks false ir e := by
  intro W env Fz A m σ s K X R F _ h hR
  refine he.then F h fun v av σ₁ s₁ F₁ g₁ r₁ q₁ => ?_
  obtain ⟨items, keep, hk, hiter⟩ := q₁
  refine hiter A Fz s₁ v _ _ F₁.room F₁.base F₁.bs F₁.st r₁ ?_
  intro it ai P s₂ S₂ k₂ kp₂ hai I hP
  have far := F₁.fm.farS hai
  exact hR it ai P _ s₂ items keep σ₁ (F₁.next S₂ (F₁.fm.more k₂)) (g₁.trans ⟨grow_keeps k₂, kp₂⟩) far.1 far.2 (fun a y => F₁.st.freeσ (fun o => hai a o y)) (fun a o y q => hai a o y (F₁.st.fz _ _ q)) I hP hk

theorem comp_run {elt target iter : Expr} {ifs : List Expr} {scope : Scope} {pos : Pos} {xe xi : IE} {en : Bool} {tg : Tgt} {is : IEs} {Q : AV → AHeap → Prop} {Rr : Value → Addr → Result → Shared → Prop}
    (hkd : scope.kind = .function) (hn : namesOk scope.names = true) (hset : notSet iter = true) (hfree : (scope.names.all fun x => x.2 != .free || isCell (ks.lookup x.1)) = true)
    (hwr : (scope.names.all fun x => !isWritten (some x.2) || ((".0" :: tg.names).map Str.ofString).contains x.1) = true)
    (he : EvS c d scope.names xe elt) (ht : ASg c d scope.names tg target) (htup : en = true → ∃ elts k p, target = .Tuple elts k p) (hit : ItS c d ks en xi iter)
    (hi : ∀ (W : Str → Prop) (env : Env) (Fz : Fzn) (A : Around) (m : Loc) (σ : AHeap) (s : Shared) (Q : Bool → AHeap → Prop) (X : Addr → Loc → AHeap → Prop), FS c d scope.names W env Fz A m σ s.heap → wpIfs c d is m σ Q (fun C => X C m) →
      wpAny c.M A (forIn ifs true fun c r => if r = true then do let ok ← isTrue c env (eval c env); pure (ForInStep.yield ok) else pure (ForInStep.yield r)) (BPost c W env Fz m s Q) (FX c W env Fz X) s)
    (F : FS c d ks W env Fz A m σ s.heap) (h : wpE c d (.comp xe tg en xi is) m σ Q (fun C => X C m))
    (hR : ∀ (D C : Addr) (oC : Obj) (mC : Str → Option Value) (acc : List AV) (σ₂ : AHeap) (s' : Shared), FS c d ks W env (FzH Fz C oC) A m (σ₂.set D (.list acc)) s'.heap → s'.heap.get? C = some oC → s'.heap.Ns C mC → (C ≠ env.locals ∧ ∀ x : Str, env.cells.lookup x ≠ some C) → (∀ o, ¬ Fz C o) → GrowS s s' → Q (.ref D) (σ₂.set D (.list acc)) → Rr (.ref D) C (.ok .next) s') :
    wpAny c.M A (eval iter env) (fun x s₁ => wpAny c.M A (pyIter x) (fun it s₂ => wpAny c.M A (newList []) (fun acc s₃ =>
      wpAny c.M A (newFunctionEnv scope env.globals (takenBy env.cells scope.names []) [] env.qual none .none (some env)) (fun cenv s₄ =>
        codeAny c.M A (.compStart (.ListComp elt [⟨target, iter, ifs, 0⟩] scope pos) 0 it acc { cenv with scope := relabel scope env }) (Rr acc cenv.locals) s₄) (FX c W env Fz X) s₃) (FX c W env Fz X) s₂) (FX c W env Fz X) s₁) (FX c W env Fz X) s := by
  simp only [wpE] at h
  refine hit W env Fz A m σ s (fun items keep σ₁ => items.length ≤ sizeLine ∧ compLoop keep (fun x acc σ k => wpTgt c d tg x (m.cut (".0" :: tg.names)) σ (fun m' => wpIfs c d is m' σ (fun ok σ' => if ok then wpE c d xe m' σ' (fun v σ₂ => k (acc ++ [v]) σ₂) (fun _ _ => False) else k acc σ') (fun _ _ => False)))
        items ([] : List AV) σ₁ (fun acc σ₂ => ∀ a, σ₂ a = none → Q (.ref a) (σ₂.set a (.list acc)))) X _ F h.1 h.2 ?_
  intro it ai P P' s₂ items keep σ₁ F₂ g₁₂ hal hac haσ haz I hP ⟨hlen, hloop⟩
  -- the list
  refine wpAny_newObj_type ?_ (by simp [sizeOk])
  let o3 : Obj := { cls := .type "list", data := .seq #[] }
  have k3 := keeps_push s₂.heap o3
  have F₃ : FS c d ks W env Fz A m σ₁ (s₂.heap.push o3) := F₂.next (F₂.st.push _) (F₂.fm.more k3)
  refine newEnv_comp rfl ?_
  -- the frame
  let h₃ := s₂.heap.push o3
  let Fo := Frz env Fz h₃
  have hsz : h₃.objs.size = s₂.heap.objs.size + 1 := Heap.size_push ..
  have kc := cHeap_keeps scope h₃
  have hFo : ∀ a, h₃.objs.size ≤ a → ∀ o, ¬ Fo a o := by
    rintro a hl o (q | ⟨q, _⟩)
    · have := F₃.st.fz a o q
      exact absurd (Heap.lt_size this) (Nat.not_lt.mpr hl)
    · exact absurd (Heap.lt_size q) (Nat.not_lt.mpr hl)
  obtain ⟨M4, nk4⟩ := comp_fm (c := c) (Fz' := Fo) hkd hn hfree F₃.nk F₃.fm (F₃.st.freeze F₃.fm) hFo
  have hD3 : h₃.get? s₂.heap.objs.size = some o3 := Heap.get?_push_size _ rfl
  have hailt : ∀ a, ai a → a < s₂.heap.objs.size := fun a y => let ⟨oa, hoa⟩ := I.there _ _ hP a y; Heap.lt_size hoa
  have hDa : ¬ ai s₂.heap.objs.size := fun y => Nat.lt_irrefl _ (hailt _ y)
  have farD := F₂.fm.far (not_there s₂.heap)
  have farA := And.intro hal hac
  have hDo : ∀ o, ¬ Fo s₂.heap.objs.size o := by
    rintro o (q | ⟨_, q | ⟨x, q⟩⟩)
    · exact not_there _ _ (F₂.st.fz _ _ q)
    · exact farD.1 q
    · exact farD.2 x q
  have hao : ∀ a o, ai a → ¬ Fo a o := by
    rintro a o y (q | ⟨_, q | ⟨x, q⟩⟩)
    · exact haz a o y q
    · exact farA.1 (q ▸ y)
    · exact farA.2 x a q y
  have hcD : s₂.heap.objs.size ≠ (cEnv scope env h₃).locals ∧ ∀ x : Str, (cEnv scope env h₃).cells.lookup x ≠ some s₂.heap.objs.size := by
    refine ⟨fun e => ?_, fun x e => ?_⟩
    · have : s₂.heap.objs.size = s₂.heap.objs.size + 1 := e.trans hsz
      exact absurd this (by omega)
    · rcases cellsFrom_lookup _ _ _ x _ e with ⟨_, q⟩ | q
      · rw [hsz] at q; exact absurd q (by omega)
      · rcases taken_lookup _ _ x _ q with ⟨⟨kk, h1, rfl⟩, h2⟩ | q
        · -- a cell of the frame about
          obtain ⟨v', o', e', _⟩ := M4.cs x _ e
          have : ∃ a', env.cells.lookup x = some a' := by
            have h3 := List.all_eq_true.mp hfree _ h1
            have h4 : isCell (ks.lookup x) = true := by simpa using h3
            have h5 : env.kindOf x = some .cell ∨ env.kindOf x = some .free := by
              cases q' : ks.lookup x with
              | none => rw [q'] at h4; cases h4
              | some kd =>
                obtain ⟨_, n2, n3, _⟩ := F.nk x kd q'
                rw [q'] at h4
                cases kd <;> first | (cases h4; done) | exact .inl (n2 rfl).1 | exact (n3 rfl).symm
            exact F.fm.hc x h5
          obtain ⟨a', ha'⟩ := this
          rw [ha'] at h2
          simp only [Option.getD_some] at h2
          exact farD.2 x (h2 ▸ ha')
        · simp at q
  have hca : ¬ ai (cEnv scope env h₃).locals ∧ ∀ (x : Str) a, (cEnv scope env h₃).cells.lookup x = some a → ¬ ai a := by
    refine ⟨fun e => ?_, fun x a e y => ?_⟩
    · have := hailt _ e
      have h1 : (cEnv scope env h₃).locals = s₂.heap.objs.size + 1 := hsz
      rw [h1] at this
      exact Nat.lt_irrefl _ (Nat.lt_trans (Nat.lt_succ_self _) this)
    · have hlt := hailt _ y
      rcases cellsFrom_lookup _ _ _ x _ e with ⟨_, q⟩ | q
      · rw [hsz] at q; exact absurd (Nat.lt_of_lt_of_le hlt (Nat.le_trans (Nat.le_add_right _ 2) q)) (Nat.lt_irrefl _)
      · rcases taken_lookup _ _ x _ q with ⟨⟨kk, h1, rfl⟩, h2⟩ | q
        · have : ∃ a', env.cells.lookup x = some a' := by
            have h3 := List.all_eq_true.mp hfree _ h1
            have h4 : isCell (ks.lookup x) = true := by simpa using h3
            have h5 : env.kindOf x = some .cell ∨ env.kindOf x = some .free := by
              cases q' : ks.lookup x with
              | none => rw [q'] at h4; cases h4
              | some kd =>
                obtain ⟨_, n2, n3, _⟩ := F.nk x kd q'
                rw [q'] at h4
                cases kd <;> first | (cases h4; done) | exact .inl (n2 rfl).1 | exact (n3 rfl).symm
            exact F.fm.hc x h5
          obtain ⟨a', ha'⟩ := this
          rw [ha'] at h2
          simp only [Option.getD_some] at h2
          exact farA.2 x a (h2 ▸ ha') y
        · simp at q
  have hcut : ∀ x av, (m.cut (".0" :: tg.names)).lookup x = some av → (within scope.names m).lookup x = some av := by
    intro x av e
    rw [cut_lookup] at e
    have : ∀ (l : Loc), l.lookup x = some av → isWritten (scope.names.lookup (Str.ofString x)) = false → (within scope.names l).lookup x = some av := by
      intro l
      induction l with
      | nil => intro e; simp at e
      | cons p r ih =>
        obtain ⟨y, u⟩ := p
        intro e hw
        unfold within
        rw [List.filter_cons]
        rw [List.lookup_cons] at e
        cases q : x == y with
        | true =>
          rw [q] at e
          have := beq_iff_eq.mp q; subst this
          simp only [hw, Bool.not_false, if_true]
          rw [List.lookup_cons, q]; exact e
        | false =>
          rw [q] at e
          split
          · rw [List.lookup_cons, q]; exact ih e hw
          · exact ih e hw
    split at e
    · cases e
    · rename_i hc
      refine this m e ?_
      cases q : scope.names.lookup (Str.ofString x) with
      | none => rfl
      | some kd =>
        have h1 := List.all_eq_true.mp hwr _ (lookup_mem q)
        simp only [Bool.or_eq_true, Bool.not_eq_true'] at h1
        rcases h1 with h1 | h1
        · exact h1
        · exfalso
          have h2 := List.contains_iff_mem.mp h1
          obtain ⟨y, hy, e'⟩ := List.mem_map.mp h2
          exact hc (List.contains_iff_mem.mpr (ofString_inj e' ▸ hy))
  have M4' : Fm (fun x => scope.names.lookup x = some .cell) (cEnv scope env h₃) (m.cut (".0" :: tg.names)) Fo σ₁ (cHeap scope h₃) := M4.lessm hcut
  have S4 : St c.prog c.w Fo σ₁ (cHeap scope h₃) := (F₃.st.freeze F₃.fm).more (grow_keeps kc) kc
  have hDσ : σ₁ s₂.heap.objs.size = none := F₂.st.freeσ (not_there s₂.heap)
  have g3 : Grow s₂.heap (cHeap scope h₃) := (grow_keeps k3).trans (grow_keeps kc)
  have hP4 : P items (cHeap scope h₃) := I.still _ _ _ hP (fun a o _ e => kc _ _ (k3 _ _ e)) g3
  show codeAny c.M A (.compStart (.ListComp elt [⟨target, iter, ifs, 0⟩] scope pos) 0 it (.ref s₂.heap.objs.size) (cEnv scope env h₃)) _ { s₂ with heap := cHeap scope h₃ }
  have loop : codeAny c.M A (.compLoop (.ListComp elt [⟨target, iter, ifs, 0⟩] scope pos) 0 it (.ref s₂.heap.objs.size) (cEnv scope env h₃)) (Rr (.ref s₂.heap.objs.size) h₃.objs.size) { s₂ with heap := cHeap scope h₃ } := by
    refine comp_loop (d := d) (s0 := { s₂ with heap := h₃ }) (Fo := Fo) F₂.room F₂.base (bs_frz F₂.bs) nk4 he ht hi htup I hDo hao hDa hlen hcD hca (fun x av e => ?_) ?_ items.length _ items [] #[] 0 σ₁ rfl
      ⟨S4, M4', kc _ _ hD3, hDσ, haσ, hP4, ⟨grow_keeps kc, rfl, rfl⟩, .nil, by simp, hloop⟩
    · rw [cut_lookup] at e
      cases q : tg.names.contains x with
      | false => rfl
      | true => rw [if_pos (by rw [List.contains_cons, q, Bool.or_true])] at e; cases e
    · intro σ' s' its' k' acc' V
      have hl := V.loop
      simp only [compLoop] at hl
      obtain ⟨mC, hmC, _⟩ := V.fm.ns
      obtain ⟨oC, es, ep, hoC, hdC, _⟩ := hmC
      have hD' := V.hD
      -- the outer frame again, with the list as a cell
      have Mo : Fm W env m Fz σ' s'.heap := F₃.fm.thaw V.st V.gr.g
      have Sn : St c.prog c.w Fz (σ'.set s₂.heap.objs.size (.list acc')) s'.heap := V.st.unfreeze.adopt (ce := .list acc') (fun o q => hDo o (.inl q)) ⟨its', k', hD', V.hacc⟩
      have Mn : Fm W env m Fz (σ'.set s₂.heap.objs.size (.list acc')) s'.heap :=
        ⟨Mo.fn, Mo.gl, Mo.bl, Mo.ns, Mo.cs, Mo.cv, Mo.nfz, by rw [AHeap.set_ne _ _ (fun e => farD.1 e.symm)]; exact Mo.nσ, Mo.cw, Mo.hc⟩
      have hCD : h₃.objs.size ≠ s₂.heap.objs.size := fun e => hcD.1 e.symm
      have hCσ : (σ'.set s₂.heap.objs.size (.list acc')) h₃.objs.size = none := by
        rw [AHeap.set_ne _ _ hCD]; exact V.fm.nσ
      have farC := F₃.fm.far (not_there h₃)
      refine hR s₂.heap.objs.size h₃.objs.size oC mC acc' σ' s' ⟨F.base, F.nk, F.room, fun b o e => .inl (F.bs b o e), Sn.hold hoC hCσ, Mn.hold farC.1 farC.2⟩ hoC ⟨oC, es, ep, hoC, hdC, by assumption⟩ farC (fun o q => hFo _ (Nat.le_refl _) o (.inl q)) ?_ (hl.2 _ V.hDσ)
      exact g₁₂.trans (GrowS.trans (s' := { s₂ with heap := h₃ }) ⟨grow_keeps k3, rfl, rfl⟩ V.gr)
  exact codeAny_compStart_list loop (wpAny_mono (I.again A items { s₂ with heap := cHeap scope h₃ } _ (fun it' s' => it' = it ∧ s' = { s₂ with heap := cHeap scope h₃ }) F₂.room hP4 ⟨rfl, rfl⟩) (fun it' s' q => by obtain ⟨rfl, rfl⟩ := q; exact loop) (fun _ _ f => f))

/-- the block's own names go -/
theorem FS.dropC {C : Addr} {oC : Obj} {mC : Str → Option Value} {h h' : Heap} (F : FS c d ks W env (FzH Fz C oC) A m σ h) (ho : h.get? C = some oC) (hns : h.Ns C mC) (hf : C ≠ env.locals ∧ ∀ x : Str, env.cells.lookup x ≠ some C) (hz : ∀ o, ¬ Fz C o) (hb : Bs c Fz) (hs : Heap.SameBut C h h') :
    FS c d ks W env Fz A m σ h' ∧ Grow h h' := by
  have hσ : σ C = none := by
    cases e : σ C with
    | none => rfl
    | some ce => exact absurd (.inr ⟨rfl, rfl⟩) (F.st.apart C ce oC e)
  obtain ⟨S', g⟩ := F.st.unhold.apartWrite hz hσ hs ho (ns_notLasting hns ho)
  exact ⟨⟨F.base, F.nk, F.room, hb, S', F.fm.unhold.apartWrite hf.1 hf.2 g hs⟩, g⟩

theorem ev_comp {elt target iter : Expr} {ifs : List Expr} {scope : Scope} {pos : Pos} {xe xi : IE} {en : Bool} {tg : Tgt} {is : IEs}
    (hkd : scope.kind = .function) (hn : namesOk scope.names = true) (hset : notSet iter = true) (hfree : (scope.names.all fun x => x.2 != .free || isCell (ks.lookup x.1)) = true)
    (hwr : (scope.names.all fun x => !isWritten (some x.2) || ((".0" :: tg.names).map Str.ofString).contains x.1) = true)
    (he : EvS c d scope.names xe elt) (ht : ASg c d scope.names tg target) (htup : en = true → ∃ elts k p, target = .Tuple elts k p) (hit : ItS c d ks en xi iter)
    (hi : ∀ (W : Str → Prop) (env : Env) (Fz : Fzn) (A : Around) (m : Loc) (σ : AHeap) (s : Shared) (Q : Bool → AHeap → Prop) (X : Addr → Loc → AHeap → Prop), FS c d scope.names W env Fz A m σ s.heap → wpIfs c d is m σ Q (fun C => X C m) →
      wpAny c.M A (forIn ifs true fun c r => if r = true then do let ok ← isTrue c env (eval c env); pure (ForInStep.yield ok) else pure (ForInStep.yield r)) (BPost c W env Fz m s Q) (FX c W env Fz X) s) :
    EvS c d ks (.comp xe tg en xi is) (.ListComp elt [⟨target, iter, ifs, 0⟩] scope pos) := by
  intro W env Fz A m σ s Q X F h
  rw [eval_ListComp]
  have hcl : ∀ x ∈ scope.names, x.2 = .free → ∃ a, env.cells.lookup x.1 = some a := by
    intro x hx hf
    have h3 := List.all_eq_true.mp hfree _ hx
    have h4 : isCell (ks.lookup x.1) = true := by simpa [hf] using h3
    have h5 : env.kindOf x.1 = some .cell ∨ env.kindOf x.1 = some .free := by
      cases q' : ks.lookup x.1 with
      | none => rw [q'] at h4; cases h4
      | some kd =>
        obtain ⟨_, n2, n3, _⟩ := F.nk x.1 kd q'
        rw [q'] at h4
        cases kd <;> first | (cases h4; done) | exact .inl (n2 rfl).1 | exact (n3 rfl).symm
    exact F.fm.hc _ h5
  refine wpAny_comprehension_free (g := ⟨target, iter, ifs, 0⟩) (gs := []) rfl (folded_pure hset env) (closureFor_pure hcl) hkd (fun x hx hl => by rw [namesOk_mem hn x hx, hl]) ?_
  refine comp_run (Q := Q) (X := X) (Rr := fun acc C => compPost c.M A (FX c W env Fz X) none (FPost c W env Fz m s Q) acc C) hkd hn hset hfree hwr he ht htup hit hi F h ?_
  intro D C oC mC acc σ₂ s' F' hoC hns hfar hz g hq
  refine ⟨mC, hns, fun h' hs => ?_⟩
  obtain ⟨F'', g'⟩ := F'.dropC hoC hns hfar hz F.bs hs
  exact ⟨.ref D, _, F''.st, F''.fm, ⟨g.g.trans g', g.k.os, g.k.gens⟩, .ref D, hq⟩
end

-- CxI
set_option Elab.async false
set_option linter.unusedVariables false
set_option linter.unusedSimpArgs false
set_option maxRecDepth 4000

section
variable {c : Cx} {d : Nat} {ks : List (Str × NameKind)} {W : Str → Prop} {env : Env} {Fz : Fzn} {A : Around} {m : Loc} {σ : AHeap} {s : Shared} {X : Addr → Loc → AHeap → Prop} {E : Value → Shared → Prop}
variable {nm : List String} {n : Nat}

theorem St.extWrite {h h' : Heap} {D : Addr} {o : Obj} (S : St c.prog c.w Fz σ h) (hD : ∀ o, ¬ Fz D o) (hσ : σ D = none) (hs : Heap.ExtBut D h h') (ho : h.get? D = some o) (hl : ¬ Lasting o) : St c.prog c.w Fz σ h' ∧ Grow h h' := by
  have g : Grow h h' := by
    intro b p hp hlp
    by_cases e : b = D
    · subst e; rw [ho] at hp; cases hp; exact absurd hlp hl
    · exact hs b p e hp
  refine ⟨⟨fun b p q => ?_, fun a ce e => ?_, S.apart⟩, g⟩
  · by_cases e : b = D
    · subst e; exact absurd q (hD p)
    · exact hs b p e (S.fz b p q)
  · have : a ≠ D := by rintro rfl; rw [hσ] at e; cases e
    exact (S.cell a ce e).move g fun o ho => hs a o this ho
/-- two objects apart are changed -/
theorem St.extWrite2 {h h' : Heap} {D D' : Addr} {o o' : Obj} (S : St c.prog c.w Fz σ h) (hD : ∀ o, ¬ Fz D o) (hD' : ∀ o, ¬ Fz D' o) (hσ : σ D = none) (hσ' : σ D' = none) (hs : ∀ b o, b ≠ D → b ≠ D' → h.get? b = some o → h'.get? b = some o)
    (ho : h.get? D = some o) (ho' : h.get? D' = some o') (hl : ¬ Lasting o) (hl' : ¬ Lasting o') : St c.prog c.w Fz σ h' ∧ Grow h h' := by
  have g : Grow h h' := by
    intro b p hp hlp
    by_cases e : b = D
    · subst e; rw [ho] at hp; cases hp; exact absurd hlp hl
    · by_cases e' : b = D'
      · subst e'; rw [ho'] at hp; cases hp; exact absurd hlp hl'
      · exact hs b p e e' hp
  refine ⟨⟨fun b p q => ?_, fun a ce e => ?_, S.apart⟩, g⟩
  · exact hs b p (fun e => hD p (e ▸ q)) (fun e => hD' p (e ▸ q)) (S.fz b p q)
  · have h1 : a ≠ D := by rintro rfl; rw [hσ] at e; cases e
    have h2 : a ≠ D' := by rintro rfl; rw [hσ'] at e; cases e
    exact (S.cell a ce e).move g fun o ho => hs a o h1 h2 ho

theorem letGo_other {t : Expr} {r : Addr} {v : Value} {o : Obj} {T : String} {R : Unit → Shared → Prop} {M : Model} (ho : s.heap.get? r = some o) (hc : o.cls = .type T) (hT : (["enumerate", "zip", "dict_itemiterator", "dict_reverseitemiterator", "odict_iterator", "itertools.zip_longest", "itertools.pairwise"] : List String).contains T = false) (h : R () s) :
    wpAny M A (letOwnedTupleGo t (.ref r) v) R E s := by
  obtain ⟨oc, od, oda, osl⟩ := o
  dsimp only at hc
  subst hc
  have key : ∀ (a : Addr), wpAny M A (load r >>= fun o => match o.cls, o.data with
      | .type n, .fields vs => if (["enumerate", "zip", "dict_itemiterator", "dict_reverseitemiterator", "odict_iterator", "itertools.zip_longest", "itertools.pairwise"] : List String).contains n && vs[0]? == some (rawInt a) then (do rule "for.unpacks-the-owned-tuple"; updateField r 0 .none) else pure ()
      | _, _ => pure ()) R E s := by
    intro a
    refine wpAny_bind (wpAny_load ho ?_)
    cases oda <;> first | exact wpAny_pure h | skip
    dsimp only
    rw [hT]
    exact wpAny_pure h
  cases t <;> first | exact wpAny_pure h | (cases v <;> first | exact wpAny_pure h | exact key _)

theorem iter_notLasting {h : Heap} {a l : Addr} {i : Nat} {o : Obj} (x : h.IsListIter a l i) (e : h.get? a = some o) : ¬ Lasting o := by
  obtain ⟨o', e', hc, hd⟩ := x
  rw [e] at e'; cases e'
  rintro (⟨h1, _⟩ | ⟨h1 | h1, _⟩) <;> (rw [hc] at h1; injection h1 with h1; exact absurd h1 (by decide))

theorem drop_cons {α : Type} {xs : List α} {i : Nat} {x : α} {r : List α} (h : xs.drop i = x :: r) : xs[i]? = some x ∧ xs.drop (i + 1) = r := by
  have h1 : xs[i]? = some x := by
    have := congrArg (fun l => l[0]?) h
    simpa using this
  refine ⟨h1, ?_⟩
  have := congrArg List.tail h
  simpa [List.tail_drop] using this

theorem list_at' {h : Heap} {l : Addr} {xs : List AV} (S : St c.prog c.w Fz σ h) (e : σ l = some (.list xs)) : ∃ its, h.IsList l its ∧ RVs h its.toList xs := by
  obtain ⟨its, n, e, r⟩ := S.cell _ _ e
  exact ⟨its, ⟨_, e, rfl, n, rfl⟩, r⟩

/-- going through a list -/
theorem it_list {l it : Addr} {xs : List AV} : ItSpec c d false (.ref it) (fun a => a = it) (fun rest h => ∃ i, h.IsListIter it l i ∧ rest = xs.drop i) (fun _ rest h => ∃ i, h.IsListIter it l i ∧ rest = xs.drop i) (fun σ => σ l = some (.list xs)) where
  there := by rintro l h ⟨i, ⟨o, e, _⟩, _⟩ a rfl; exact ⟨o, e⟩
  still := by rintro l h h' ⟨i, ⟨o, e, r⟩, q⟩ k g; exact ⟨i, ⟨o, k _ _ rfl e, r⟩, q⟩
  again := by rintro A l s E R hr ⟨i, hi, _⟩ h; exact wpAny_pyIter_listiter hi h
  next := by
    rintro A Fz σ rest s E R hr hbs S hk hf hσ ⟨i, hi, rfl⟩ hR
    obtain ⟨its, hl, ri⟩ := list_at' S hk
    obtain ⟨o, ho, _⟩ := id hi
    have hnl := iter_notLasting hi ho
    have hg := ri.get i
    cases hd : xs.drop i with
    | nil =>
      have hn : xs[i]? = none := by
        have := congrArg (fun l => l[0]?) hd
        simpa using this
      rw [hn] at hg
      have hx : its[i]? = none := by
        cases q : its.toList[i]? with
        | none => simpa using q
        | some v => rw [q] at hg; cases hg
      refine wpAny_pyNext_list_end hr.hn hi hl hx fun h' he => ?_
      obtain ⟨S', g⟩ := S.extWrite (fun o => hf it o rfl) (hσ it rfl) he ho hnl
      exact hR none _ S' ⟨g, rfl, rfl⟩ (by rw [hd])
    | cons x r =>
      obtain ⟨h1, h2⟩ := drop_cons hd
      rw [h1] at hg
      cases q : its.toList[i]? with
      | none => rw [q] at hg; cases hg
      | some v =>
        rw [q] at hg
        refine wpAny_pyNext_list_item hi hl (by simpa using q) fun h' hi' hs => ?_
        obtain ⟨S', g⟩ := S.apartWrite (fun o => hf it o rfl) (hσ it rfl) hs ho hnl
        refine hR (some v) _ S' ⟨g, rfl, rfl⟩ ?_
        rw [hd]
        exact ⟨v, rfl, hg.grow g, i + 1, hi', h2.symm⟩
  letGo := by
    rintro A Fz σ l s v t E R _ hr S hf hσ ⟨i, hi, q⟩ hR
    obtain ⟨o, ho, hc, _⟩ := id hi
    exact letGo_other ho hc (by decide) (hR s S (.refl _) ⟨i, hi, q⟩)

theorem enum_notLasting {h : Heap} {e it : Addr} {i : Int} {old : Value} {o : Obj} (x : IsEnum h e it i old) (q : h.get? e = some o) : ¬ Lasting o := by
  rw [x] at q; cases q
  rintro (⟨h1, _⟩ | ⟨h1 | h1, _⟩) <;> (injection h1 with h1; exact absurd h1 (by decide))
theorem enumOut_notLasting {h : Heap} {e it a : Addr} {i : Int} {old : Value} {o : Obj} (x : IsEnumOut h e it i old a) (q : h.get? e = some o) : ¬ Lasting o := by
  rw [x] at q; cases q
  rintro (⟨h1, _⟩ | ⟨h1 | h1, _⟩) <;> (injection h1 with h1; exact absurd h1 (by decide))

theorem it_enum {l it e : Addr} {xs : List AV} (hne : e ≠ it) : ItSpec c d true (.ref e) (fun a => a = e ∨ a = it) (fun rest h => ∃ i old, IsEnum h e it ((i : Nat) : Int) old ∧ h.IsListIter it l i ∧ rest = enumAV i (xs.drop i))
    (fun v rest h => ∃ i x a, v = .ref a ∧ IsEnumOut h e it ((i : Nat) : Int) x a ∧ h.IsListIter it l i ∧ rest = enumAV i (xs.drop i)) (fun σ => σ l = some (.list xs)) where
  there := by
    rintro rest h ⟨i, old, he, ⟨o, hi, _⟩, _⟩ a (rfl | rfl)
    · exact ⟨_, he⟩
    · exact ⟨_, hi⟩
  still := by
    rintro rest h h' ⟨i, old, he, ⟨o, hi, r⟩, q⟩ k g
    exact ⟨i, old, k _ _ (.inl rfl) he, ⟨o, k _ _ (.inr rfl) hi, r⟩, q⟩
  again := by rintro A l s E R hr ⟨i, old, he, _⟩ h; exact wpAny_pyIter_enum he h
  next := by
    rintro A Fz σ rest s E R hr hbs S hk hf hσ ⟨i, old, he, hi, rfl⟩ hR
    obtain ⟨its, hl, ri⟩ := list_at' S hk
    obtain ⟨o, ho, _⟩ := id hi
    have hnl := iter_notLasting hi ho
    have hg := ri.get i
    cases hd : xs.drop i with
    | nil =>
      have hn : xs[i]? = none := by
        have := congrArg (fun l => l[0]?) hd
        simpa using this
      rw [hn] at hg
      have hx : its[i]? = none := by
        cases q : its.toList[i]? with
        | none => simpa using q
        | some v => rw [q] at hg; cases hg
      refine wpAny_pyNext_enum_end hr.hn he hi hl hx fun h' hx' => ?_
      obtain ⟨S', g⟩ := S.extWrite (fun o => hf it o (.inr rfl)) (hσ it (.inr rfl)) hx' ho hnl
      exact hR none _ S' ⟨g, rfl, rfl⟩ (by rw [hd]; rfl)
    | cons x r =>
      obtain ⟨h1, h2⟩ := drop_cons hd
      rw [h1] at hg
      cases q : its.toList[i]? with
      | none => rw [q] at hg; cases hg
      | some v =>
        rw [q] at hg
        refine wpAny_pyNext_enum_item he hi hl (by simpa using q) hne fun h' heo hi' ht hz hk' => ?_
        obtain ⟨S', g⟩ := S.extWrite2 (fun o => hf e o (.inl rfl)) (fun o => hf it o (.inr rfl)) (hσ e (.inl rfl)) (hσ it (.inr rfl)) hk' he ho (enum_notLasting he he) hnl
        refine hR (some (.ref s.heap.objs.size)) _ S' ⟨g, rfl, rfl⟩ ?_
        rw [hd]
        refine ⟨_, rfl, .tup _ #[.int i s.toks, v] _ ⟨0, ht⟩ (.cons (.int _ _) (.one (hg.grow g))), i + 1, v, s.heap.objs.size, rfl, heo, hi', ?_⟩
        rw [h2]
  letGo := by
    rintro A Fz σ rest s v t E R ht hr S hf hσ ⟨i, x, a, rfl, heo, hi, q⟩ hR
    obtain ⟨elts, k, p, rfl⟩ := ht rfl
    refine wpAny_letOwnedTupleGo_enum heo fun h' he' hs => ?_
    obtain ⟨S', g⟩ := S.apartWrite (fun o => hf e o (.inl rfl)) (hσ e (.inl rfl)) hs heo (enumOut_notLasting heo heo)
    refine hR _ S' ⟨g, rfl, rfl⟩ ⟨i, x, he', ?_, q⟩
    obtain ⟨o, ho, r⟩ := hi
    exact ⟨o, (hs.2 it (fun e => hne e.symm)).trans ho, r⟩

theorem its_enum {x : IE} {e' : Expr} {id : Str} {p pos : Pos} (hid : id = ("enumerate" : Str)) (hk : ks.lookup id = some .globalImplicit) (IH : ∀ e ir, tr nm n ks e = some ir → EvS c d ks ir e) (hx : tr nm n ks e' = some x) : ItS c d ks true x (.Call (.Name id p) [e'] [] pos) := by
  intro W env Fz A m σ s K X R F hg h hR
  have hl : trList (tr nm n ks) [e'] = some (.cons x .nil) := by simp [trList, hx]
  have e : eval (.Call (.Name id p) [e'] [] pos) env = (eval (.Name id p) env >>= fun fv => callWith pos fv [] (backTo pos (starEach [e'] env)) (backToKw pos (keywordEach [] env))) := rfl
  rw [e]
  refine wpAny_bind (glob_name F (x := "enumerate") hid.symm ((F.nk _ _ hk).2.2.2 rfl) (by rw [hid]; decide) (hg rfl) ?_)
  show wpAny c.M A (callWith pos (.type "enumerate") [] (backTo pos (starEach [e'] env)) []) _ _ s
  refine callWith_callee (c := c) (.inr (.inl ⟨_, rfl⟩)) (trList_nostar pos env hl) (wpAny_mono (spliced_of IH pos [e'] _ σ s (fun as σ₁ => match as with | [sv] => IterW c d true sv σ₁ fun items keep => K items keep σ₁ | _ => False) hl F ?_) ?_ fun _ _ x => x)
  · simp only [wpEs]
    exact h
  · rintro vs s₁ ⟨as, σ₁, S₁, M₁, g₁, r₁, q₁⟩
    obtain ⟨sv, rfl⟩ : ∃ sv, as = [sv] := by
      match as, q₁ with
      | [sv], _ => exact ⟨sv, rfl⟩
    have F₁ := F.next S₁ M₁
    refine ⟨F₁.kin, ?_⟩
    obtain ⟨v, vs', rfl, rv, r'⟩ := r₁.cons_inv
    obtain rfl := r'.nil_inv
    obtain ⟨l, xs, rfl, hσl, hlen, hK⟩ := q₁
    have hv : v = .ref l := by cases rv; rfl
    subst hv
    obtain ⟨its, hL, ri⟩ := list_at' S₁ hσl
    show wpAny c.M A (call (.type "enumerate") [.ref l]) _ _ s₁
    refine call_enumerate_list hL fun h' he hi hz hk' => ?_
    refine wpAny_pyIter_enum he ?_
    have n1 := not_there s₁.heap
    have n2 : ∀ o, s₁.heap.get? (s₁.heap.objs.size + 1) ≠ some o := fun o q => Nat.lt_irrefl _ (Nat.lt_trans (Nat.lt_succ_self _) (Heap.lt_size q))
    have hfresh : ∀ a o, (a = s₁.heap.objs.size + 1 ∨ a = s₁.heap.objs.size) → s₁.heap.get? a ≠ some o := by
      rintro a o (rfl | rfl)
      · exact n2 o
      · exact n1 o
    have far := F₁.fm.farS (ai := fun a => a = s₁.heap.objs.size + 1 ∨ a = s₁.heap.objs.size) hfresh
    refine hR (.ref (s₁.heap.objs.size + 1)) (fun a => a = s₁.heap.objs.size + 1 ∨ a = s₁.heap.objs.size) _ _ { s₁ with heap := h' } _ _ σ₁ (F₁.next (S₁.more (grow_keeps hk') hk') (M₁.more hk')) (g₁.trans ⟨grow_keeps hk', rfl, rfl⟩) far.1 far.2 (fun a y => F₁.st.freeσ (fun o => hfresh a o y)) (fun a o y q => hfresh a o y (F₁.st.fz _ _ q)) (it_enum (l := l) (xs := xs) (Nat.succ_ne_self _)) ⟨0, .none, he, hi, by simp⟩ hK
theorem its_of {en : Bool} {ir : IE} {e : Expr} (IH : ∀ e ir, tr nm n ks e = some ir → EvS c d ks ir e) (h : trIter (tr nm n ks) ks e = some (en, ir)) : ItS c d ks en ir e := by
  have plain : ∀ {e : Expr} {en ir}, (tr nm n ks e).map (fun x => (false, x)) = some (en, ir) → ItS c d ks en ir e := by
    intro e en ir h
    obtain ⟨x, hx, q⟩ := Option.map_eq_some_iff.mp h
    cases q
    exact its_plain (IH _ _ hx)
  unfold trIter at h
  split at h
  · split at h
    · rename_i hid
      split at h
      · rename_i hk
        obtain ⟨x, hx, q⟩ := Option.map_eq_some_iff.mp h
        cases q
        exact its_enum hid hk IH hx
      · cases h
    · exact plain h
  · exact plain h
theorem tup_of {en : Bool} {t : Expr} {tg : Tgt} {n : Nat} (h : trTgt nm ks n t = some tg) (hb : ¬ (en && !isTupT tg) = true) : en = true → ∃ elts k p, t = .Tuple elts k p := by
  rintro rfl
  simp only [Bool.true_and, Bool.not_eq_true', Bool.not_eq_false] at hb
  cases n with
  | zero => cases t <;> simp [trTgt] at h
  | succ n =>
    cases t <;> first | (simp [trTgt] at h; done) | exact ⟨_, _, _, rfl⟩ | skip
    simp only [trTgt] at h
    split at h
    · obtain ⟨x, _, rfl⟩ := Option.map_eq_some_iff.mp h
      cases hb
    · cases h
end

-- Cx14
set_option Elab.async false
set_option linter.unusedVariables false
set_option linter.unusedSimpArgs false
set_option maxRecDepth 4000

section
variable {c : Cx} {d : Nat} {nm : List String}

theorem both {ks : List (Str × NameKind)} {ir : IE} {e : Expr} (x : EvS c d ks ir e) (hw : ∀ m σ Q X, wpT c d ir m σ Q X → wpE c d ir m σ (fun v σ₁ => TruthOK c d v σ₁ (fun b => Q b σ₁)) X)
    (hi : ∀ env whole, isTrue e env whole = (do let v ← whole; standAt e.pos; holding [v] (truthy v))) : EvS c d ks ir e ∧ TvS c d ks ir e := ⟨x, tv_value x hw hi⟩

theorem sound : ∀ (n : Nat) (ks : List (Str × NameKind)) (e : Expr) (ir : IE), tr nm n ks e = some ir → EvS c d ks ir e ∧ TvS c d ks ir e := by
  intro n
  induction n with
  | zero => intro ks e ir h; simp [tr] at h
  | succ n ih =>
    intro ks e ir h
    have IHe : ∀ e ir, tr nm n ks e = some ir → EvS c d ks ir e := fun e ir h => (ih ks e ir h).1
    have IHt : ∀ e ir, tr nm n ks e = some ir → TvS c d ks ir e := fun e ir h => (ih ks e ir h).2
    unfold tr at h
    split at h
    all_goals try (cases h; done)
    · -- none
      cases h
      refine both (fun W env Fz A m σ s Q X F h => ?_) (fun m σ Q X h => by simpa only [wpT] using h) (fun _ _ => rfl)
      simp only [wpE] at h
      exact wpAny_Constant_none ⟨_, _, F.st, F.fm, ⟨Grow.refl _, rfl, rfl⟩, .none, h⟩
    · cases h
      refine both (fun W env Fz A m σ s Q X F h => ?_) (fun m σ Q X h => by simpa only [wpT] using h) (fun _ _ => rfl)
      simp only [wpE] at h
      exact wpAny_Constant_bool ⟨_, _, F.st, F.fm, ⟨Grow.refl _, rfl, rfl⟩, .bool _, h⟩
    · cases h
      refine both (fun W env Fz A m σ s Q X F h => ?_) (fun m σ Q X h => by simpa only [wpT] using h) (fun _ _ => rfl)
      simp only [wpE] at h
      exact wpAny_Constant_int ⟨_, _, F.st, F.fm, ⟨Grow.refl _, rfl, rfl⟩, .int _ _, h⟩
    · obtain ⟨y, hy, rfl⟩ := Option.map_eq_some_iff.mp h
      refine both (fun W env Fz A m σ s Q X F h => ?_) (fun m σ Q X h => by simpa only [wpT] using h) (fun _ _ => rfl)
      simp only [wpE] at h
      exact wpAny_Constant_str ⟨_, _, F.st, F.fm, ⟨Grow.refl _, rfl, rfl⟩, .str _ _ _ (strIn_eq hy).symm, h⟩
    · -- names
      rename_i id pos
      split at h
      · cases h
      · rename_i hd
        simp only [Bool.or_eq_true, not_or, Bool.not_eq_true] at hd
        split at h
        · rename_i hk
          obtain ⟨y, hy, rfl⟩ := Option.map_eq_some_iff.mp h
          refine both (fun W env Fz A m σ s Q X F h => ?_) (fun m σ Q X h => by simpa only [wpT] using h) (fun _ _ => rfl)
          simp only [wpE] at h
          obtain ⟨av, hm, hq⟩ := h
          exact var_name F (strIn_eq hy) hk hd.1 hd.2 hm hq
        · split at h
          · rename_i hk
            obtain ⟨y, hy, rfl⟩ := Option.map_eq_some_iff.mp h
            refine both (fun W env Fz A m σ s Q X F h => ?_) (fun m σ Q X h => by simpa only [wpT] using h) (fun _ _ => rfl)
            simp only [wpE] at h
            obtain ⟨v, hv, hq⟩ := h
            exact glob_name F (strIn_eq hy) ((F.nk _ _ hk).2.2.2 rfl) hd.1 hv ⟨_, _, F.st, F.fm, ⟨Grow.refl _, rfl, rfl⟩, .raw v, hq⟩
          · cases h
    · obtain ⟨y, hy, rfl⟩ := Option.map_eq_some_iff.mp h
      refine both (ev_tuple (c := c) (d := d) IHe (k := _) (pos := _) hy) (fun m σ Q X h => by simpa only [wpT] using h) (fun _ _ => rfl)
    · obtain ⟨y, hy, rfl⟩ := Option.map_eq_some_iff.mp h
      refine both (ev_list (c := c) (d := d) IHe (pos := _) hy) (fun m σ Q X h => by simpa only [wpT] using h) (fun _ _ => rfl)
    · cases h
      refine both (ev_edict (c := c) (d := d) (ks := ks) (pos := _)) (fun m σ Q X h => by simpa only [wpT] using h) (fun _ _ => rfl)
    · -- a dict
      rename_i keys values pos hne
      split at h
      · rename_i k v h1 h2
        split at h
        · rename_i hl
          cases h
          refine both (ev_dictS (c := c) (d := d) (pos := pos) IHe h1 h2 hl.1 (by rw [← hl.1]; exact hl.2) (by
            rintro rfl
            have : keys = [] := List.length_eq_zero_iff.mp hl.1
            exact hne this rfl)) (fun m σ Q X h => by simpa only [wpT] using h) (fun _ _ => rfl)
        · cases h
      · cases h
    · -- operators
      split at h
      · rename_i x y h1 h2
        cases h
        refine both (ev_bin (c := c) (d := d) (op := _) (pos := _) (IHe _ _ h1) (IHe _ _ h2)) (fun m σ Q X h => by simpa only [wpT] using h) (fun _ _ => rfl)
      · cases h
    · obtain ⟨y, hy, rfl⟩ := Option.map_eq_some_iff.mp h
      exact ⟨ev_not (IHe _ _ hy), tv_not (IHt _ _ hy)⟩
    · obtain ⟨y, hy, rfl⟩ := Option.map_eq_some_iff.mp h
      refine both (ev_neg (c := c) (d := d) (pos := _) (IHe _ _ hy)) (fun m σ Q X h => by simpa only [wpT] using h) (fun _ _ => rfl)
    · split at h
      · cases h
      · rename_i hm
        simp only [Bool.not_eq_true] at hm
        split at h
        · rename_i x y h1 h2
          cases h
          exact ⟨ev_cmp hm (IHe _ _ h1) (IHe _ _ h2), tv_cmp hm (IHe _ _ h1) (IHe _ _ h2)⟩
        · cases h
    · split at h
      · cases h
      · rename_i hm
        simp only [Bool.not_eq_true] at hm
        split at h
        · rename_i x y z h1 h2 h3
          cases h
          exact ⟨ev_cmp2 hm (IHe _ _ h1) (IHe _ _ h2) (IHe _ _ h3), tv_cmp2 hm (IHe _ _ h1) (IHe _ _ h2) (IHe _ _ h3)⟩
        · cases h
    · obtain ⟨y, hy, rfl⟩ := Option.map_eq_some_iff.mp h
      refine ⟨fun W env Fz A m σ s Q X F h => ?_, fun W env Fz A m σ s Q X F h => ?_⟩
      · simp only [wpE] at h
        rw [arm_eval_BoolOp]
        exact ev_bools .And _ IHe _ y W env Fz A m σ s Q X hy F h
      · simp only [wpT] at h
        exact wpAny_isTrue_BoolOp (tv_bools .And IHt _ y W env Fz A m σ s Q X hy F h)
    · obtain ⟨y, hy, rfl⟩ := Option.map_eq_some_iff.mp h
      refine ⟨fun W env Fz A m σ s Q X F h => ?_, fun W env Fz A m σ s Q X F h => ?_⟩
      · simp only [wpE] at h
        rw [arm_eval_BoolOp]
        exact ev_bools .Or _ IHe _ y W env Fz A m σ s Q X hy F h
      · simp only [wpT] at h
        exact wpAny_isTrue_BoolOp (tv_bools .Or IHt _ y W env Fz A m σ s Q X hy F h)
    · split at h
      · rename_i x y z h1 h2 h3
        cases h
        exact ⟨ev_ite (IHt _ _ h1) (IHe _ _ h2) (IHe _ _ h3), tv_ite (IHt _ _ h1) (IHt _ _ h2) (IHt _ _ h3)⟩
      · cases h
    · -- a slice
      split at h
      · rename_i y z w h1 h2 h3
        cases h
        refine both (ev_slc (c := c) (d := d) (p := _) IHe h1 h2 h3) (fun m σ Q X h => by simpa only [wpT] using h) (fun _ _ => rfl)
      · cases h
    · split at h
      · rename_i x y h1 h2
        cases h
        refine both (ev_sub (c := c) (d := d) (pos := _) (IHe _ _ h1) (IHe _ _ h2)) (fun m σ Q X h => by simpa only [wpT] using h) (fun _ _ => rfl)
      · cases h
    · split at h
      · rename_i hp
        split at h
        · rename_i y z h1 h2
          cases h
          refine both (ev_attr (c := c) (d := d) (pos := _) hp (strIn_eq h2) (IHe _ _ h1)) (fun m σ Q X h => by simpa only [wpT] using h) (fun _ _ => rfl)
        · cases h
      · cases h
    · -- a method
      split at h
      · rename_i hp
        simp only [Bool.and_eq_true, decide_eq_true_eq] at hp
        split at h
        · rename_i y z l h1 h2 h3
          cases h
          refine both (ev_meth (c := c) (d := d) IHe (IHe _ _ h1) h3 (strIn_eq h2) hp.1.1 hp.1.2 hp.2) (fun m σ Q X h => by simpa only [wpT] using h) (fun _ _ => rfl)
        · cases h
      · cases h
    · rename_i f args pos hna
      split at h
      · split at h
        · rename_i x l h1 h2
          cases h
          refine both (ev_call (c := c) (d := d) (pos := pos) IHe (IHe _ _ h1) h2 (fun o a p e => hna o a p e)) (fun m σ Q X h => by simpa only [wpT] using h) (fun _ _ => by cases f <;> rfl)
        · cases h
      · cases h
    · split at h
      · rename_i hc
        obtain ⟨hkd, hn, hset, hfree⟩ := hc
        split at h
        · rename_i x y en z l h1 h2 h3 h4
          split at h
          · cases h
          rename_i htp
          split at h
          · rename_i hwr
            cases h
            refine both (ev_comp (c := c) (d := d) (pos := _) hkd hn hset hfree hwr (ih _ _ _ h1).1 (assign_of 5 _ _ h2) (tup_of h2 htp) (its_of IHe h3) (fun W env Fz A m σ s Q X F h => tests_of (fun e ir h => (ih _ e ir h).2) _ _ W env Fz A m σ s Q X h4 F h)) (fun m σ Q X h => by simpa only [wpT] using h) (fun _ _ => rfl)
          · cases h
        · cases h
      · cases h
end

-- Cx15
set_option Elab.async false
set_option linter.unusedVariables false
set_option linter.unusedSimpArgs false
set_option maxRecDepth 4000

def puts (m : Loc) (l : List (String × AV)) : Loc := l.foldl (fun m p => m.put p.1 p.2) m
theorem lookup_puts : ∀ (l : List (String × AV)) (m : Loc) (y : String), (puts m l).lookup y = (l.reverse.lookup y).or (m.lookup y)
  | [], m, y => by simp [puts]
  | (x, v) :: l, m, y => by
    show (puts (m.put x v) l).lookup y = _
    rw [lookup_puts l, Loc.lookup_put, List.reverse_cons, List.lookup_append]
    cases l.reverse.lookup y with
    | some z => rfl
    | none =>
      simp only [Option.none_or, List.lookup_cons, List.lookup_nil]
      by_cases e : y = x
      · subst e; simp
      · rw [if_neg e, beq_false_of_ne e]; rfl
theorem lookup_perm : ∀ {l l' : List (String × AV)}, (l.map (·.1)).Nodup → l.Perm l' → ∀ y, l.lookup y = l'.lookup y := by
  intro l l' hn hp
  induction hp with
  | nil => intro y; rfl
  | cons x _ ih =>
    intro y
    rw [List.map_cons, List.nodup_cons] at hn
    obtain ⟨k, v⟩ := x
    rw [List.lookup_cons, List.lookup_cons, ih hn.2]
  | swap x x' l =>
    intro y
    obtain ⟨k, v⟩ := x
    obtain ⟨k', v'⟩ := x'
    simp only [List.map_cons, List.nodup_cons, List.mem_cons, not_or] at hn
    simp only [List.lookup_cons]
    cases e : y == k' <;> cases e' : y == k <;> try rfl
    exact absurd ((beq_iff_eq.mp e).symm.trans (beq_iff_eq.mp e')) hn.1.1
  | trans p q ih1 ih2 =>
    intro y
    rw [ih1 hn, ih2 ((p.map _).nodup_iff.mp hn)]
theorem puts_reverse {l : List (String × AV)} (hn : (l.map (·.1)).Nodup) (m : Loc) (y : String) : (puts m l.reverse).lookup y = (puts m l).lookup y := by
  rw [lookup_puts, lookup_puts, List.reverse_reverse, lookup_perm hn (List.reverse_perm l).symm]

theorem only_sub {m₀ : Loc} : ∀ {m : Loc} {x : String} {a : AV}, (m₀.only m).lookup x = some a → m.lookup x = some a
  | [], _, _, h => by simp [Loc.only] at h
  | (y, v) :: r, x, a, h => by
    unfold Loc.only at h
    rw [List.filter_cons] at h
    split at h
    · rw [List.lookup_cons] at h ⊢
      split at h
      · exact h
      · exact only_sub (m₀ := m₀) h
    · rename_i hc
      have ih := only_sub (m₀ := m₀) (m := r) (x := x) (a := a) h
      rw [List.lookup_cons]
      cases e : x == y with
      | false => exact ih
      | true =>
        exfalso
        have hxy := beq_iff_eq.mp e
        subst hxy
        have : ∀ {l : Loc} {x : String} {a : AV}, (l.filter fun x => (m₀.map (·.1)).contains x.1).lookup x = some a → (m₀.map (·.1)).contains x = true := by
          intro l
          induction l with
          | nil => intro x a h; simp at h
          | cons p r ih =>
            intro x a h
            rw [List.filter_cons] at h
            split at h
            · rename_i hp
              rw [List.lookup_cons] at h
              split at h
              · rename_i e; rw [beq_iff_eq.mp e]; exact hp
              · exact ih h
            · exact ih h
        exact hc (this h)

section
variable {c : Cx} {d : Nat} {ks : List (Str × NameKind)} {W : Str → Prop} {env : Env} {Fz : Fzn} {A : Around} {m : Loc} {σ : AHeap} {s : Shared} {X : Addr → Loc → AHeap → Prop} {E : Value → Shared → Prop}
variable {nm : List String} {n : Nat}

def FlP (c : Cx) (W : Str → Prop) (env : Env) (Fz : Fzn) (s : Shared) (N : Loc → AHeap → Prop) (R : AV → AHeap → Prop) : Flow → Shared → Prop := fun f s' => match f with
  | .next => ∃ m' σ', St c.prog c.w Fz σ' s'.heap ∧ Fm W env m' Fz σ' s'.heap ∧ GrowS s s' ∧ N m' σ'
  | .ret v => ∃ av m' σ', St c.prog c.w Fz σ' s'.heap ∧ Fm W env m' Fz σ' s'.heap ∧ GrowS s s' ∧ RV s'.heap v av ∧ R av σ'
  | _ => False
theorem FlP.up {h h' : Shared} {N : Loc → AHeap → Prop} {R : AV → AHeap → Prop} {f : Flow} {s : Shared} (g : GrowS h h') (x : FlP c W env Fz h' N R f s) : FlP c W env Fz h N R f s := by
  cases f with
  | next => obtain ⟨m', σ', S, F, g', q⟩ := x; exact ⟨m', σ', S, F, g.trans g', q⟩
  | ret v => obtain ⟨av, m', σ', S, F, g', r, q⟩ := x; exact ⟨av, m', σ', S, F, g.trans g', r, q⟩
  | brk => exact x
  | cont => exact x

def SvS (c : Cx) (d : Nat) (ks : List (Str × NameKind)) (i : IS) (st : Stmt) : Prop :=
  ∀ W env Fz A m σ s N R X, FS c d ks W env Fz A m σ s.heap → wpS c d i m σ N R X → wpAny c.M A (exec st env) (FlP c W env Fz s N R) (FX c W env Fz X) s
def SsS (c : Cx) (d : Nat) (ks : List (Str × NameKind)) (i : ISs) (st : List Stmt) : Prop :=
  ∀ W env Fz A m σ s N R X, FS c d ks W env Fz A m σ s.heap → wpSs c d i m σ N R X → wpAny c.M A (execs st env) (FlP c W env Fz s N R) (FX c W env Fz X) s

theorem stmts_of (IH : ∀ st i, trS nm n ks st = some i → SvS c d ks i st) : ∀ (sts : List Stmt) (is : ISs), trStmts (trS nm n ks) sts = some is → SsS c d ks is sts
  | [], is, h => by
    simp only [trStmts, Option.some.injEq] at h; subst h
    intro W env Fz A m σ s N R X F hw
    simp only [wpSs] at hw
    exact wpAny_execs_nil ⟨m, σ, F.st, F.fm, ⟨Grow.refl _, rfl, rfl⟩, hw⟩
  | st :: sts, is, h => by
    simp only [trStmts] at h
    split at h
    · rename_i i is h1 h2
      simp only [Option.some.injEq] at h; subst h
      intro W env Fz A m σ s N R X F hw
      simp only [wpSs] at hw
      refine wpAny_execs_cons (wpAny_mono (IH st i h1 W env Fz A m σ s _ R X F hw) ?_ fun _ _ x => x)
      intro f s₁ hf
      cases f with
      | next =>
        obtain ⟨m₁, σ₁, S₁, F₁, g₁, q₁⟩ := hf
        exact wpAny_mono (stmts_of IH sts is h2 W env Fz A m₁ σ₁ s₁ N R X (F.next' S₁ F₁) q₁) (fun _ _ x => x.up g₁) fun _ _ x => x
      | ret v => exact hf
      | brk => exact hf
      | cont => exact hf
    · cases h

theorem not_interactive (F : Fm W env m Fz σ s.heap) : interactive env = false := by
  unfold interactive; rw [F.fn]; rfl
theorem swaps_none {e : Expr} {n : Nat} (h : notComp e = true) (env : Env) : swapsWith e none n env = pure false := by
  cases e <;> first | rfl | simp [notComp] at h

theorem sv_expr {e : Expr} {x : IE} {pos : Pos} (h : notComp e = true) (he : EvS c d ks x e) : SvS c d ks (.expr x) (.Expr e pos) := by
  intro W env Fz A m σ s N R X F hw
  simp only [wpS] at hw
  refine wpAny_Expr_any (he.then F hw fun v av σ₁ s₁ F₁ g₁ r₁ q₁ => ⟨m, σ₁, F₁.st, F₁.fm, g₁, q₁⟩) (not_interactive F.fm) (swaps_none h env)

theorem constValue_wp {k : Const} {Q : Value → Shared → Prop} (hk : (match k with | .complex .. => false | _ => true) = true) (h : ∀ v tk, Q v { s with toks := tk }) : wpAny c.M A (constValue env k) Q E s := by
  cases k with
  | none => exact wpAny_pure (h _ s.toks)
  | bool b => exact wpAny_pure (h _ s.toks)
  | int i => exact wpAny_mkInt (h _ _)
  | float x => exact fun _ _ _ => h _ _
  | str x => exact wpAny_mkText (h _ _)
  | bytes b => exact fun _ _ _ => h _ _
  | ellipsis => exact wpAny_pure (h _ s.toks)
  | complex _ _ => cases hk

theorem sv_pass {pos : Pos} : SvS c d ks .pass (.Pass pos) := by
  intro W env Fz A m σ s N R X F hw
  simp only [wpS] at hw
  exact wpAny_bind (wpAny_standAt (wpAny_pure ⟨m, σ, F.st, F.fm, ⟨Grow.refl _, rfl, rfl⟩, hw⟩))

theorem sv_ret {e : Expr} {x : IE} {pos : Pos} (he : EvS c d ks x e) : SvS c d ks (.ret x) (.Return (some e) pos) := by
  intro W env Fz A m σ s N R X F hw
  simp only [wpS] at hw
  exact wpAny_Return_some (he.then F hw fun v av σ₁ s₁ F₁ g₁ r₁ q₁ => ⟨av, m, σ₁, F₁.st, F₁.fm, g₁, r₁, q₁⟩)

theorem sv_ite {t : Expr} {a b : List Stmt} {x : IE} {y z : ISs} {pos : Pos} (ht : TvS c d ks x t) (ha : SsS c d ks y a) (hb : SsS c d ks z b) : SvS c d ks (.ite x y z) (.If t a b pos) := by
  intro W env Fz A m σ s N R X F hw
  simp only [wpS] at hw
  refine wpAny_If (wpAny_mono (ht W env Fz A m σ s _ X F hw) ?_ fun _ _ x => x)
  rintro bb s₁ ⟨σ₁, S₁, F₁, g₁, q₁⟩
  cases bb with
  | true => exact wpAny_mono (ha W env Fz A m σ₁ s₁ N R X (F.next S₁ F₁) q₁) (fun _ _ x => x.up g₁) fun _ _ x => x
  | false => exact wpAny_mono (hb W env Fz A m σ₁ s₁ N R X (F.next S₁ F₁) q₁) (fun _ _ x => x.up g₁) fun _ _ x => x

theorem sv_loop {t : Expr} {b : List Stmt} {x : IE} {y : ISs} {pos : Pos} (ht : TvS c d ks x t) (hb : SsS c d ks y b) : SvS c d ks (.loop x y) (.While t b [] pos) := by
  intro W env Fz A m σ s N R X F hw
  simp only [wpS] at hw
  obtain ⟨I, ⟨n, hI⟩, hstep⟩ := hw
  refine wpAny_While (codeAny_whileLoop (fun n s' => ∃ m' σ', FS c d ks W env Fz A m' σ' s'.heap ∧ GrowS s s' ∧ I n m' σ') ?_ n ⟨m, σ, F, ⟨Grow.refl _, rfl, rfl⟩, hI⟩)
  rintro n s₁ ⟨m₁, σ₁, F₁, g₁, hI⟩
  have h1 := hstep n m₁ σ₁ hI
  have no : ∀ {P : Value → Shared → Prop} (e : Value) (s : Shared), FX c W env Fz (fun _ _ _ => False) e s → P e s := fun _ _ f => f.no.elim
  refine wpAny_mono (ht W env Fz A m₁ σ₁ s₁ _ (fun _ _ _ => False) F₁ h1) ?_ no
  rintro bb s₂ ⟨σ₂, S₂, F₂, g₂, q₂⟩
  cases bb with
  | false =>
    exact wpAny_execs_nil ⟨m₁, σ₂, S₂, F₂, g₁.trans g₂, q₂⟩
  | true =>
    simp only [if_true] at q₂ ⊢
    refine wpAny_mono (hb W env Fz A m₁ σ₂ s₂ _ R (fun _ _ _ => False) (F₁.next S₂ F₂) q₂) ?_ no
    intro f s₃ hf
    cases f with
    | next =>
      obtain ⟨m₃, σ₃, S₃, F₃, g₃, k, hk, q₃⟩ := hf
      exact ⟨k, hk, m.only m₃, σ₃, F₁.next' S₃ (F₃.lessm fun _ _ => only_sub), (g₁.trans g₂).trans g₃, q₃⟩
    | ret v => exact hf.up (g₁.trans g₂)
    | brk => exact hf.elim
    | cont => exact hf.elim

theorem folded' {e : Expr} (h : notSet e = true) (env : Env) (x : Value) : foldedSetIterable e env x = pure x := folded_pure h env x

theorem sv_each {t src : Expr} {b : List Stmt} {tg : Tgt} {en : Bool} {x : IE} {y : ISs} {pos : Pos} (hs : notSet src = true) (ht : ASg c d ks tg t) (htup : en = true → ∃ elts k p, t = .Tuple elts k p) (hx : ItS c d ks en x src) (hb : SsS c d ks y b) : SvS c d ks (.each tg en x y) (.For t src b [] pos) := by
  intro W env Fz A m σ s N R X F hw
  simp only [wpS] at hw
  rw [arm_exec_For]
  have no : ∀ {P : Value → Shared → Prop} (e : Value) (s : Shared), FX c W env Fz (fun _ _ _ => False) e s → P e s := fun _ _ f => f.no.elim
  have no' : ∀ {P : Value → Shared → Prop} (e : Value) (s : Shared), False → P e s := fun _ _ f => f.elim
  refine wpAny_bind (wpAny_standAt (wpAny_bind (wpAny_mono (hx W env Fz A m σ s (fun items keep σ₁ => compLoop keep (fun x m' σ k => wpTgt c d tg x m' σ (fun m' => wpSs c d y m' σ (fun m'' σ₂ => k (m.only m'') σ₂) R (fun _ _ _ => False))) items m σ₁ N) X (fun it s' => wpAny c.M A (runOwn (.forLoop t it b [] env) env) (FlP c W env Fz s N R) (FX c W env Fz X) s') F hw.1 hw.2 ?_) (fun v s₁ q => ?_) fun _ _ x => x)))
  rotate_left
  · exact wpAny_bind (wpAny_of_eq (folded' hs env v) (wpAny_bind (wpAny_standAt (wpAny_bind (wpAny_holding q)))))
  intro it ai P P' s₂ items keep σ₁ F₂ g₂ hal hac haσ haz I hP hloop
  have far := And.intro hal hac
  refine wpAny_runOwn (codeAny_forLoop_any (fun n s' => ∃ rest m' σ', rest.length = n ∧ FS c d ks W env Fz A m' σ' s'.heap ∧ GrowS s s' ∧ (∀ a, ai a → σ' a = none) ∧ P rest s'.heap ∧
      compLoop keep (fun x m' σ k => wpTgt c d tg x m' σ (fun m' => wpSs c d y m' σ (fun m'' σ₂ => k (m.only m'') σ₂) R (fun _ _ _ => False))) rest m' σ' N) ?_ items.length
    ⟨items, m, σ₁, rfl, F₂, g₂, haσ, hP, hloop⟩)
  rintro n s₃ ⟨rest, m₃, σ₃, hn, F₃, g₃, hσ₃, hP₃, hl₃⟩
  have hkeep := compLoop_keep hl₃
  have S3 := F₃.st.freeze F₃.fm
  have ha3 : ∀ a o, ai a → ¬ Frz env Fz s₃.heap a o := by
    rintro a o x (q | ⟨_, q | ⟨y, q⟩⟩)
    · exact haz a o x q
    · subst q; exact far.1 x
    · exact far.2 y a q x
  refine I.next A (Frz env Fz s₃.heap) σ₃ rest s₃ _ _ F₃.room (bs_frz F₃.bs) S3 hkeep ha3 hσ₃ hP₃ ?_
  intro r s₄ T₄ g₄ hr
  have M₄ := F₃.fm.thaw T₄ g₄.g
  cases rest with
  | nil =>
    subst hr
    simp only [compLoop] at hl₃
    exact wpAny_execs_nil ⟨m₃, σ₃, T₄.unfreeze, M₄, g₃.trans g₄, hl₃.2⟩
  | cons x0 xs =>
    obtain ⟨v0, rfl, rv, hP₄⟩ := hr
    show wpAny _ _ (letOwnedTupleGo t it v0) _ _ s₄
    refine I.letGo A (Frz env Fz s₃.heap) σ₃ xs s₄ v0 t _ _ htup F₃.room T₄ ha3 hσ₃ hP₄ ?_
    intro s₅ T₅ g₅ hP₅
    have hoa := I.there _ _ hP₅
    have M₅ := F₃.fm.thaw T₅ (g₄.trans g₅).g
    simp only [compLoop] at hl₃
    have FB : FS c d ks W env (FzS Fz ai s₅.heap) A m₃ σ₃ s₅.heap := ⟨F₃.base, F₃.nk, F₃.room, fun b o e => .inl (F₃.bs b o e), T₅.unfreeze.holdS hσ₃, M₅.holdS far.1 far.2⟩
    refine wpAny_mono (ht W env (FzS Fz ai s₅.heap) A m₃ σ₃ s₅ (fun _ _ => False) v0 x0 _ FB (rv.grow g₅.g) hl₃.2) ?_ no'
    rintro _ s₆ ⟨m₆, S₆, M₆, g₆, q₆⟩
    have F₆ : FS c d ks W env (FzS Fz ai s₅.heap) A m₆ σ₃ s₆.heap := FB.next' S₆ M₆
    refine wpAny_mono (hb W env (FzS Fz ai s₅.heap) A m₆ σ₃ s₆ _ R (fun _ _ _ => False) F₆ q₆) ?_ (fun e s f => f.no.elim)
    intro f s₇ hf
    have gAll := (g₃.trans (g₄.trans g₅)).trans g₆
    cases f with
    | next =>
      obtain ⟨m₇, σ₇, S₇, M₇, g₇, q₇⟩ := hf
      exact ⟨xs.length, by rw [← hn]; simp, xs, m.only m₇, σ₇, rfl, ⟨F₃.base, F₃.nk, F₃.room, F₃.bs, S₇.unholdS, M₇.unholdS.lessm fun _ _ => only_sub⟩, gAll.trans g₇, S₇.noneS hoa, I.still _ _ _ hP₅ S₇.keptS (g₆.trans g₇).g, q₇⟩
    | ret v => 
      obtain ⟨rv, m₇, σ₇, S₇, M₇, g₇, rr, q₇⟩ := hf
      exact ⟨rv, m₇, σ₇, S₇.unholdS, M₇.unholdS, gAll.trans g₇, rr, q₇⟩
    | brk => exact hf.elim
    | cont => exact hf.elim

theorem sv_del {o i : Expr} {x y : IE} {p pos : Pos} (ho : EvS c d ks x o) (hi : EvS c d ks y i) : SvS c d ks (.del x y) (.Delete [.Subscript o i p] pos) := by
  intro W env Fz A m σ s N R X F hw
  simp only [wpS] at hw
  refine wpAny_Delete (wpAny_deleteEach_cons (wpAny_delete_Subscript (ho.then F hw fun v av σ₁ s₁ F₁ g₁ r₁ q₁ => hi.then F₁ q₁ fun u uv σ₂ s₂ F₂ g₂ r₂ q₂ => ?_)))
  refine wpAny_mono (q₂ A (Frz env Fz s₂.heap) s₂ v u F₂.room F₂.base (bs_frz F₂.bs) (F₂.st.freeze F₂.fm) (r₁.grow g₂.g) r₂) ?_ ?_
  · rintro _ s₃ ⟨σ₃, S₃, g₃, q₃⟩
    exact wpAny_deleteEach_nil ⟨m, σ₃, S₃.unfreeze, F₂.fm.thaw S₃ g₃.g, (g₁.trans g₂).trans g₃, q₃⟩
  · rintro e s' ⟨C, σ', S', g, hx, q⟩
    have F' := F₂.fm.thaw S' g.g
    exact ⟨C, m, σ', S'.unfreeze, F', exc_thaw F₂.fm F' hx, q⟩
end

-- Cx16
set_option Elab.async false
set_option linter.unusedVariables false
set_option linter.unusedSimpArgs false
set_option maxRecDepth 4000

section
variable {c : Cx} {d : Nat} {ks : List (Str × NameKind)} {W : Str → Prop} {env : Env} {Fz : Fzn} {A : Around} {m : Loc} {σ : AHeap} {s : Shared} {X : Addr → Loc → AHeap → Prop} {E : Value → Shared → Prop}
variable {nm : List String} {n : Nat}

theorem swaps_false {e t : Expr} {l : Nat} (h : notComp e = true) (env : Env) : swapsWith e (some t) l env = pure false := by
  cases e <;> first | rfl | simp [notComp] at h

theorem swaps_comp {elt : Expr} {gens : List Comprehension} {scope : Scope} {cpos : Pos} {t : Expr} {l : Nat} (env : Env) :
    swapsWith (.ListComp elt gens scope cpos) (some t) l env = pure false ∨ ∃ id pos, t = .Name id pos ∧ swapsWith (.ListComp elt gens scope cpos) (some t) l env = pure true ∧ env.kindOf id = some .local := by
  cases t
  all_goals first
    | (refine .inl ?_; rfl)
    | (rename_i id pos
       show (pure _ : Sem Bool) = pure false ∨ _
       by_cases hb : (env.blockKind == .function && env.kindOf id == some .local && pos.line == (Expr.ListComp elt gens scope cpos).pos.line && !(scope.names.any fun (n, k) => n == id && (k == .local || k == .cell))) = true
       · refine .inr ⟨id, pos, rfl, ?_, ?_⟩
         · show (pure _ : Sem Bool) = pure true
           rw [hb]
         · simp only [Bool.and_eq_true] at hb
           exact beq_iff_eq.mp hb.1.1.2
       · refine .inl ?_
         simp only [Bool.not_eq_true] at hb
         rw [hb])

/-- an assignment of what a comprehension has made, its own names exchanged for it -/
theorem assign_comp {elt target iter : Expr} {ifs : List Expr} {scope : Scope} {cpos pos npos : Pos} {xe xi : IE} {en : Bool} {tg tx : Tgt} {is : IEs} {id : Str} {N : Loc → AHeap → Prop} {R : AV → AHeap → Prop}
    (hkd : scope.kind = .function) (hn : namesOk scope.names = true) (hset : notSet iter = true) (hfree : (scope.names.all fun x => x.2 != .free || isCell (ks.lookup x.1)) = true)
    (hwr : (scope.names.all fun x => !isWritten (some x.2) || ((".0" :: tg.names).map Str.ofString).contains x.1) = true)
    (he : EvS c d scope.names xe elt) (ht : ASg c d scope.names tg target) (htup : en = true → ∃ elts k p, target = .Tuple elts k p) (hit : ItS c d ks en xi iter)
    (hi : ∀ (W : Str → Prop) (env : Env) (Fz : Fzn) (A : Around) (m : Loc) (σ : AHeap) (s : Shared) (Q : Bool → AHeap → Prop) (X : Addr → Loc → AHeap → Prop), FS c d scope.names W env Fz A m σ s.heap → wpIfs c d is m σ Q (fun C => X C m) →
      wpAny c.M A (forIn ifs true fun c r => if r = true then do let ok ← isTrue c env (eval c env); pure (ForInStep.yield ok) else pure (ForInStep.yield r)) (BPost c W env Fz m s Q) (FX c W env Fz X) s)
    (hx : ASg c d ks tx (.Name id npos)) (F : FS c d ks W env Fz A m σ s.heap) (h : wpE c d (.comp xe tg en xi is) m σ (fun v σ₁ => wpTgt c d tx v m σ₁ (fun m' => N m' σ₁)) (fun C => X C m))
    (hs : swapsWithSole [.Name id npos] (.ListComp elt [⟨target, iter, ifs, 0⟩] scope cpos) pos.line env = pure true) :
    wpAny c.M A (exec (.Assign [.Name id npos] (.ListComp elt [⟨target, iter, ifs, 0⟩] scope cpos) pos) env) (FlP c W env Fz s N R) (FX c W env Fz X) s := by
  rw [arm_exec_Assign]
  refine wpAny_bind (wpAny_standAt ?_)
  rw [hs]
  refine wpAny_bind (wpAny_pure ?_)
  simp only [if_true]
  refine wpAny_bind ?_
  have hcl : ∀ x ∈ scope.names, x.2 = .free → ∃ a, env.cells.lookup x.1 = some a := by
    intro x hx hf
    have h3 := List.all_eq_true.mp hfree _ hx
    have h4 : isCell (ks.lookup x.1) = true := by simpa [hf] using h3
    have h5 : env.kindOf x.1 = some .cell ∨ env.kindOf x.1 = some .free := by
      cases q' : ks.lookup x.1 with
      | none => rw [q'] at h4; cases h4
      | some kd =>
        obtain ⟨_, n2, n3, _⟩ := F.nk x.1 kd q'
        rw [q'] at h4
        cases kd <;> first | (cases h4; done) | exact .inl (n2 rfl).1 | exact (n3 rfl).symm
    exact F.fm.hc _ h5
  show wpAny _ A (do let _ ← comprehension (.ListComp elt [⟨target, iter, ifs, 0⟩] scope cpos) scope env _ (newList []) false (eval iter env) (some fun v => assignAll v [assign (.Name id npos) env])) _ _ s
  refine wpAny_bind (wpAny_mono (wpAny_comprehension_free (Q := fun _ s' => FlP c W env Fz s N R .next s') (g := ⟨target, iter, ifs, 0⟩) (gs := []) rfl (folded_pure hset env) (closureFor_pure hcl) hkd (fun x hx hl => by rw [namesOk_mem hn x hx, hl]) ?_) (fun _ s' q => wpAny_pure (wpAny_pure q)) fun _ _ q => q)
  refine comp_run (Q := fun v σ₁ => wpTgt c d tx v m σ₁ (fun m' => N m' σ₁)) (X := X) (Rr := fun acc C => compPost c.M A (FX c W env Fz X) (some fun v => assignAll v [assign (.Name id npos) env]) (fun _ s' => FlP c W env Fz s N R .next s') acc C) hkd hn hset hfree hwr he ht htup hit hi F h ?_
  intro D C oC mC acc σ₂ s' F' hoC hns hfar hz g hq
  show wpAny c.M A (assignAll (.ref D) [assign (.Name id npos) env]) _ _ s'
  refine wpAny_mono (hx W env (FzH Fz C oC) A m (σ₂.set D (.list acc)) s' _ (.ref D) (.ref D) _ F' (.ref D) hq) ?_ fun _ _ f => f
  rintro _ s₃ ⟨m₃, S₃, M₃, g₃, q₃⟩
  have F₃ : FS c d ks W env (FzH Fz C oC) A m₃ (σ₂.set D (.list acc)) s₃.heap := F'.next' S₃ M₃
  have hoC3 : s₃.heap.get? C = some oC := S₃.fz _ _ (.inr ⟨rfl, rfl⟩)
  have hns3 : s₃.heap.Ns C mC := by
    obtain ⟨o', es, ep, e', r⟩ := hns
    rw [hoC] at e'; cases e'
    exact ⟨_, es, ep, hoC3, r⟩
  refine ⟨mC, hns3, fun h' hs => ?_⟩
  obtain ⟨F'', g'⟩ := F₃.dropC hoC3 hns3 hfar hz F.bs hs
  exact ⟨m₃, _, F''.st, F''.fm, (g.trans g₃).trans ⟨g', rfl, rfl⟩, q₃⟩

theorem erase_nodup {l : List Str} (h2 : l.length = 2 ∨ l.length = 3) (h : l.eraseDups.length = l.length) : l.Nodup := by
  match l, h2 with
  | [a, b], _ =>
    by_cases e : a = b
    · subst e; simp [List.eraseDups_cons] at h
    · simp [e]
  | [a, b, x], _ =>
    by_cases e : a = b
    · subst e
      by_cases e2 : a = x
      · subst e2; simp [List.eraseDups_cons] at h
      · exfalso
        have : ¬ x = a := fun q => e2 q.symm
        simp [List.eraseDups_cons, this] at h
    · by_cases e2 : a = x
      · subst e2
        exfalso
        have : ¬ b = a := fun q => e q.symm
        simp [List.eraseDups_cons, this] at h
      · by_cases e3 : b = x
        · subst e3
          exfalso
          have : ¬ b = a := fun q => e q.symm
          simp [List.eraseDups_cons, this] at h
        · simp [e, e2, e3]

/-- which names are bound in which order -/
theorem stores_of {t e : Expr} (env : Env) (hsw : swapSafe e = true) (hl : ∀ ts p, t ≠ .List ts p) : swappedStores [t] e env = pure none ∨
    ∃ ts k p names, t = .Tuple ts k p ∧ swappedStores [t] e env = pure (some names) ∧ names.Nodup ∧ names.length = ts.length ∧ (∀ x ∈ names, env.kindOf x = some .local) ∧
      ∃ l : Nat, names = ts.filterMap fun | .Name id pos => if env.kindOf id == some .local && pos.line == l then some id else none | _ => none := by
  by_cases hT : ∃ ts k p vs k' p', t = .Tuple ts k p ∧ e = .Tuple vs k' p'
  · obtain ⟨ts, k, p, vs, k', p', rfl, rfl⟩ := hT
    obtain ⟨S, hS⟩ : ∃ S, S = swappedStores [Expr.Tuple ts k p] (Expr.Tuple vs k' p') env := ⟨_, rfl⟩
    rw [← hS]
    unfold swappedStores at hS
    dsimp only at hS
    split at hS
    · exact .inl hS
    rename_i c1
    split at hS
    · exact .inl hS
    split at hS
    · exact .inl hS
    rename_i c3
    split at hS
    · exact .inl hS
    rename_i c4
    split at hS
    · rename_i c5
      exfalso
      simp [swapSafe, c4, c5] at hsw
    simp only [Bool.or_eq_true, bne_iff_ne, ne_eq, not_or, Decidable.not_not, Bool.not_eq_true', Bool.not_eq_false, beq_iff_eq] at c1 c3
    refine .inr ⟨ts, k, p, _, rfl, hS, erase_nodup ?_ c3.2, c3.1, ?_, _, rfl⟩
    · rw [c3.1]; exact c1.1.1
    · intro x hx
      obtain ⟨e, _, he⟩ := List.mem_filterMap.mp hx
      cases e <;> first | (cases he; done) | skip
      simp only at he
      split at he
      · rename_i hh
        simp only [Bool.and_eq_true] at hh
        cases he
        exact beq_iff_eq.mp hh.1
      · cases he
  · refine .inl ?_
    unfold swappedStores
    cases t <;> cases e <;> first | rfl | (exfalso; exact hl _ _ rfl) | (exfalso; exact hT ⟨_, _, _, _, _, _, rfl, rfl⟩)

theorem filterMap_full {α β : Type} {f : α → Option β} : ∀ {a : α} {l : List α}, ((a :: l).filterMap f).length = (a :: l).length → (∃ b, f a = some b) ∧ (l.filterMap f).length = l.length := by
  intro a l h
  have hle := List.length_filterMap_le f l
  rw [List.filterMap_cons] at h
  cases q : f a with
  | none => rw [q] at h; simp only [List.length_cons] at h; omega
  | some b => rw [q] at h; simp only [List.length_cons] at h; exact ⟨⟨b, rfl⟩, by omega⟩

theorem tgts_names {l : Nat} : ∀ (ts : List Expr) (tgs : Tgts), trTgts (trTgt nm ks (n + 1)) ts = some tgs →
    (ts.filterMap fun | .Name id pos => if env.kindOf id == some .local && pos.line == l then some id else none | _ => none).length = ts.length →
    ∃ xs : List String, xs.map Str.ofString = (ts.filterMap fun | .Name id pos => if env.kindOf id == some .local && pos.line == l then some id else none | _ => none) ∧ (∀ x ∈ xs, isWritten (ks.lookup (Str.ofString x)) = true) ∧ tgs.length = xs.length ∧
      ∀ l m σ k, wpTgts c d tgs l m σ k → l.length = xs.length → k (puts m (xs.zip l))
  | [], tgs, h, _ => by
    simp only [trTgts, Option.some.injEq] at h; subst h
    exact ⟨[], rfl, by simp, rfl, fun l m σ k hw hl => by simpa only [wpTgts, List.zip_nil_left, puts, List.foldl_nil] using hw⟩
  | t :: ts, tgs, h, hf => by
    obtain ⟨⟨b, hb⟩, hf'⟩ := filterMap_full hf
    simp only [trTgts] at h
    split at h
    · rename_i i is h1 h2
      simp only [Option.some.injEq] at h; subst h
      obtain ⟨xs, e1, e2, e3, e4⟩ := tgts_names ts is h2 hf'
      cases t <;> first | (cases hb; done) | skip
      rename_i id pos
      simp only [trTgt] at h1
      split at h1
      · rename_i hk
        obtain ⟨x, hx, rfl⟩ := Option.map_eq_some_iff.mp h1
        have hx' := strIn_eq hx
        have hb' : b = id := by
          simp only at hb
          split at hb
          · exact (Option.some.inj hb).symm
          · cases hb
        refine ⟨x :: xs, ?_, ?_, by simp [Tgts.length, e3], ?_⟩
        · rw [List.filterMap_cons, hb, List.map_cons, e1, hx', hb']
        · intro y hy
          rcases List.mem_cons.mp hy with rfl | hy
          · rw [hx']; exact hk
          · exact e2 y hy
        · intro l m σ k hw hl
          cases l with
          | nil => simp at hl
          | cons v l =>
            simp only [wpTgts, wpTgt] at hw
            exact e4 l _ σ k hw (by simpa using hl)
      · cases h1
    · cases h

theorem binds_go : ∀ (xs : List String) (vs : List Value) (l : List AV) (m : Loc) (s : Shared), (∀ x ∈ xs, isWritten (ks.lookup (Str.ofString x)) = true) → FS c d ks W env Fz A m σ s.heap → RVs s.heap vs l → l.length = xs.length →
    wpAny c.M A (assignInOrder ((xs.map Str.ofString).map fun n => bindName env n) vs) (MPost c W env Fz σ s (fun m' => m' = puts m (xs.zip l))) E s
  | [], vs, l, m, s, _, F, r, hl => by
    cases r with
    | nil => exact wpAny_pure ⟨m, F.st, F.fm, ⟨Grow.refl _, rfl, rfl⟩, rfl⟩
    | cons _ _ => simp at hl
  | x :: xs, vs, l, m, s, hk, F, r, hl => by
    cases r with
    | nil => simp at hl
    | @cons v a vs l r rs =>
      show wpAny _ _ (holding vs (bindName env (Str.ofString x) v) >>= fun _ => assignInOrder ((xs.map Str.ofString).map fun n => bindName env n) vs) _ _ _
      refine wpAny_bind (wpAny_holding (wpAny_mono (bind_name (k := fun m' => m' = m.put x a) F rfl (hk x (.head _)) r rfl) ?_ fun _ _ x => x))
      rintro _ s₁ ⟨m₁, S₁, F₁, g₁, rfl⟩
      refine wpAny_mono (binds_go xs vs l (m.put x a) s₁ (fun y hy => hk y (.tail _ hy)) (F.next' S₁ F₁) (rs.grow g₁.g) (by simpa using hl)) ?_ fun _ _ x => x
      rintro _ s₂ ⟨m₂, S₂, F₂, g₂, rfl⟩
      exact ⟨_, S₂, F₂, g₁.trans g₂, rfl⟩

theorem zip_rev {α β : Type} : ∀ {l : List α} {k : List β}, l.length = k.length → (l.zip k).reverse = l.reverse.zip k.reverse
  | [], [], _ => rfl
  | a :: l, b :: k, h => by
    have h' : l.length = k.length := by simpa using h
    rw [List.zip_cons_cons, List.reverse_cons, zip_rev h', List.reverse_cons, List.reverse_cons, List.zip_append (by simpa using h')]
    rfl
theorem nodup_of_map {α β : Type} {f : α → β} : ∀ {l : List α}, (l.map f).Nodup → l.Nodup
  | [], _ => List.nodup_nil
  | a :: l, h => by
    rw [List.map_cons, List.nodup_cons] at h
    exact List.nodup_cons.mpr ⟨fun q => h.1 (List.mem_map_of_mem q), nodup_of_map h.2⟩

theorem sv_assign_plain {t e : Expr} {tg : Tgt} {x : IE} {pos : Pos} (hsw : swapSafe e = true) (ht : trTgt nm ks 5 t = some tg) (he : EvS c d ks x e) (F : FS c d ks W env Fz A m σ s.heap) {N : Loc → AHeap → Prop} {R : AV → AHeap → Prop}
    (h : wpE c d x m σ (fun v σ₁ => wpTgt c d tg v m σ₁ (fun m' => N m' σ₁)) (fun C => X C m)) (hs : swapsWithSole [t] e pos.line env = pure false) :
    wpAny c.M A (exec (.Assign [t] e pos) env) (FlP c W env Fz s N R) (FX c W env Fz X) s := by
  rcases stores_of (t := t) env hsw (by rintro ts p rfl; simp [trTgt] at ht) with hno | ⟨ts, k, p, names, rfl, hyes, hnd, hlen, hloc, l, hnames⟩
  · refine wpAny_Assign_stores (he.then F h fun v av σ₁ s₁ F₁ g₁ r₁ q₁ => ?_) hs hno
    have e1 : (assignEach [t] env).map (·.2) = [assign t env] := by cases t <;> first | rfl | (simp [trTgt] at ht; done)
    rw [e1]
    refine wpAny_mono (assign_of 5 t tg ht W env Fz A m σ₁ s₁ _ v av _ F₁ r₁ q₁) ?_ fun _ _ x => x
    rintro _ s₃ ⟨m₃, S₃, M₃, g₃, q₃⟩
    exact ⟨m₃, σ₁, S₃, M₃, g₁.trans g₃, q₃⟩
  · simp only [trTgt, Option.map_eq_some_iff] at ht
    obtain ⟨tgs, hts, rfl⟩ := ht
    obtain ⟨xs, e1, e2, e3, e4⟩ := tgts_names (c := c) (d := d) (env := env) (l := l) ts tgs hts (by rw [← hnames]; exact hlen)
    rw [arm_exec_Assign]
    refine wpAny_bind (wpAny_standAt ?_)
    rw [hs]
    refine wpAny_bind (wpAny_pure ?_)
    rw [if_neg (by decide)]
    refine wpAny_bind (he.then F h fun v av σ₁ s₁ F₁ g₁ r₁ q₁ => ?_)
    rw [hyes]
    refine wpAny_bind (wpAny_pure ?_)
    show wpAny _ _ (rule _ >>= fun _ => unpackItems v names.length none >>= fun items => assignInOrder (names.reverse.map fun n => bindName env n) items.reverse >>= fun _ => pure Flow.next) _ _ _
    refine wpAny_bind (wpAny_rule (wpAny_bind ?_))
    simp only [wpTgt] at q₁
    have hn' : names.length = tgs.length := by rw [e3, hnames, ← e1, List.length_map]
    rw [hn']
    refine q₁ A (Frz env Fz s₁.heap) s₁ v _ _ F₁.room F₁.base (bs_frz F₁.bs) (F₁.st.freeze F₁.fm) r₁ ?_
    intro vs l' s' S' hk' hr hl' hq
    have F' : FS c d ks W env Fz A m σ₁ s'.heap := F₁.next S'.unfreeze (F₁.fm.thaw S' hk'.g)
    have e5 : names.reverse.map (fun n => bindName env n) = (xs.reverse.map Str.ofString).map fun n => bindName env n := by rw [hnames, ← e1, ← List.map_reverse]
    rw [e5]
    have hll : l'.length = xs.length := by rw [hl', e3]
    refine wpAny_bind (wpAny_mono (binds_go (E := FX c W env Fz X) xs.reverse vs.reverse l'.reverse m s' (fun x hx => e2 x (List.mem_reverse.mp hx)) F' hr.reverse (by simpa using hll)) ?_ fun _ _ x => x)
    rintro _ s₃ ⟨m₃, S₃, M₃, g₃, rfl⟩
    refine wpAny_pure ⟨_, σ₁, S₃, M₃.lessm ?_, (g₁.trans hk').trans g₃, e4 l' m σ₁ _ hq hll⟩
    intro y a hy
    have hz : xs.reverse.zip l'.reverse = (xs.zip l').reverse := (zip_rev (by omega)).symm
    rw [hz, puts_reverse]
    · exact hy
    · rw [List.map_fst_zip (by omega)]
      rw [hnames, ← e1] at hnd
      exact nodup_of_map hnd

theorem sv_assign {t e : Expr} {tg : Tgt} {x : IE} {pos : Pos} (hl : listOrNot e = true) (hsw : swapSafe e = true) (ht : trTgt nm ks 5 t = some tg) (hx : tr nm 30 ks e = some x) : SvS c d ks (.assign tg x) (.Assign [t] e pos) := by
  intro W env Fz A m σ s N R X F hw
  simp only [wpS] at hw
  have he : EvS c d ks x e := (sound 30 ks e x hx).1
  by_cases hc : notComp e = true
  · exact sv_assign_plain hsw ht he F hw (swaps_false hc env)
  · cases e <;> first | (exact absurd rfl hc) | (cases hl; done) | skip
    rename_i elt gens scope cpos
    rcases swaps_comp (elt := elt) (gens := gens) (scope := scope) (cpos := cpos) (t := t) (l := pos.line) env with hs | ⟨id, npos, rfl, hs, hk⟩
    · exact sv_assign_plain hsw ht he F hw hs
    · change tr nm (29 + 1) ks _ = _ at hx
      unfold tr at hx
      split at hx
      all_goals first | (cases hx; done) | (rename_i heq; cases heq; done) | skip
      rename_i elt' target iter ifs scope' cpos' heq
      cases heq
      split at hx
      · rename_i hc'
        obtain ⟨hkd, hn, hset, hfree⟩ := hc'
        split at hx
        · rename_i x1 y en z l h1 h2 h3 h4
          split at hx
          · cases hx
          rename_i htp
          split at hx
          · rename_i hwr
            cases hx
            exact assign_comp hkd hn hset hfree hwr (sound 29 _ _ _ h1).1 (assign_of 5 _ _ h2) (tup_of h2 htp) (its_of (fun e ir h => (sound 29 _ e ir h).1) h3) (fun W env Fz A m σ s Q X F h => tests_of (fun e ir h => (sound 29 _ e ir h).2) _ _ W env Fz A m σ s Q X h4 F h) (assign_of 5 _ _ ht) F hw hs
          · cases hx
        · cases hx
      · cases hx
end

-- Cx17
set_option Elab.async false
set_option linter.unusedVariables false
set_option linter.unusedSimpArgs false
set_option maxRecDepth 4000

section
variable {c : Cx} {d : Nat} {ks : List (Str × NameKind)} {W : Str → Prop} {env : Env} {Fz : Fzn} {A : Around} {m : Loc} {σ : AHeap} {s : Shared} {X : Addr → Loc → AHeap → Prop} {E : Value → Shared → Prop}
variable {nm : List String} {n : Nat}

theorem no_swap {e t : Expr} {l : Nat} (h : listOrNot e = true) (ht : ∀ id p, t ≠ .Name id p) (env : Env) : swapsWith e (some t) l env = pure false := by
  by_cases hc : notComp e = true
  · exact swaps_false hc env
  · cases e <;> first | (exact absurd rfl hc) | (cases h; done) | skip
    rename_i elt gens scope cpos
    rcases swaps_comp (elt := elt) (gens := gens) (scope := scope) (cpos := cpos) (t := t) (l := l) env with hs | ⟨id, npos, rfl, _⟩
    · exact hs
    · exact absurd rfl (ht _ _)

theorem set_then {t : Sem Unit} {Q : AHeap → Prop} {P : Unit → Shared → Prop} (F : FS c d ks W env Fz A m σ s.heap)
    (h : wpAny c.M A t (fun _ s' => ∃ σ', St c.prog c.w (Frz env Fz s.heap) σ' s'.heap ∧ GrowS s s' ∧ Q σ') (EX c (Frz env Fz s.heap) s (fun C => X C m)) s)
    (k : ∀ σ' s', FS c d ks W env Fz A m σ' s'.heap → GrowS s s' → Q σ' → P () s') : wpAny c.M A t P (FX c W env Fz X) s := by
  refine wpAny_mono h ?_ ?_
  · rintro _ s₃ ⟨σ₃, S₃, g₃, q₃⟩
    exact k σ₃ s₃ (F.next S₃.unfreeze (F.fm.thaw S₃ g₃.g)) g₃ q₃
  · rintro e s' ⟨C, σ', S', g, hx, q⟩
    have F' := F.fm.thaw S' g.g
    exact ⟨C, m, σ', S'.unfreeze, F', exc_thaw F.fm F' hx, q⟩

theorem sv_asSub {o i e : Expr} {x y z : IE} {p pos : Pos} (hl : listOrNot e = true) (ho : EvS c d ks x o) (hi : EvS c d ks y i) (he : EvS c d ks z e) : SvS c d ks (.asSub x y z) (.Assign [.Subscript o i p] e pos) := by
  intro W env Fz A m σ s N R X F hw
  simp only [wpS] at hw
  refine wpAny_Assign_Subscript (he.then F hw fun v av σ₁ s₁ F₁ g₁ r₁ q₁ => ho.then F₁ q₁ fun u uv σ₂ s₂ F₂ g₂ r₂ q₂ => hi.then F₂ q₂ fun t tv σ₃ s₃ F₃ g₃ r₃ q₃ => ?_) (no_swap hl (by intro _ _ h; cases h) env)
  refine set_then F₃ (q₃ A (Frz env Fz s₃.heap) s₃ u t v F₃.room F₃.base (bs_frz F₃.bs) (F₃.st.freeze F₃.fm) (r₂.grow g₃.g) r₃ ((r₁.grow g₂.g).grow g₃.g)) fun σ₄ s₄ F₄ g₄ q₄ => ?_
  exact ⟨m, σ₄, F₄.st, F₄.fm, ((g₁.trans g₂).trans g₃).trans g₄, q₄⟩

theorem sv_asAttr {o e : Expr} {a : Str} {na : String} {x z : IE} {p pos : Pos} (hl : listOrNot e = true) (hn : strIn nm a = some na) (ho : EvS c d ks x o) (he : EvS c d ks z e) : SvS c d ks (.asAttr x na z) (.Assign [.Attribute o a p] e pos) := by
  intro W env Fz A m σ s N R X F hw
  simp only [wpS] at hw
  have := strIn_eq hn
  subst this
  refine plainObj_wpAny_Assign_Attribute (he.then F hw fun v av σ₁ s₁ F₁ g₁ r₁ q₁ => ho.then F₁ q₁ fun u uv σ₂ s₂ F₂ g₂ r₂ q₂ => ?_) (no_swap hl (by intro _ _ h; cases h) env)
  refine set_then F₂ (q₂ A (Frz env Fz s₂.heap) s₂ u v F₂.room F₂.base (bs_frz F₂.bs) (F₂.st.freeze F₂.fm) r₂ (r₁.grow g₂.g)) fun σ₄ s₄ F₄ g₄ q₄ => ?_
  exact ⟨m, σ₄, F₄.st, F₄.fm, (g₁.trans g₂).trans g₄, q₄⟩

theorem soundS : ∀ (n : Nat) (ks : List (Str × NameKind)) (st : Stmt) (i : IS), trS nm n ks st = some i → SvS c d ks i st := by
  intro n
  induction n with
  | zero => intro ks e ir h; simp [trS] at h
  | succ n ih =>
    intro ks st i h
    have E : ∀ e ir, tr nm 30 ks e = some ir → EvS c d ks ir e := fun e ir h => (sound 30 ks e ir h).1
    have T : ∀ e ir, tr nm 30 ks e = some ir → TvS c d ks ir e := fun e ir h => (sound 30 ks e ir h).2
    have B : ∀ sts is, trStmts (trS nm n ks) sts = some is → SsS c d ks is sts := fun sts is h => stmts_of (nm := nm) (n := n) (ks := ks) (fun st i h => ih ks st i h) sts is h
    unfold trS at h
    split at h
    all_goals try (cases h; done)
    · cases h; exact sv_pass
    · split at h
      · rename_i hc
        obtain ⟨x, hx, rfl⟩ := Option.map_eq_some_iff.mp h
        exact sv_expr hc (E _ _ hx)
      · cases h
    · split at h
      · rename_i hl
        split at h
        · rename_i x y z h1 h2 h3
          cases h
          exact sv_asSub hl (E _ _ h1) (E _ _ h2) (E _ _ h3)
        · cases h
      · cases h
    · split at h
      · rename_i hl
        split at h
        · rename_i x y z h1 h2 h3
          cases h
          exact sv_asAttr hl h2 (E _ _ h1) (E _ _ h3)
        · cases h
      · cases h
    · split at h
      · rename_i hl
        simp only [Bool.and_eq_true] at hl
        split at h
        · rename_i x z h1 h2
          cases h
          exact sv_assign hl.1 hl.2 h1 h2
        · cases h
      · cases h
    · obtain ⟨x, hx, rfl⟩ := Option.map_eq_some_iff.mp h
      exact sv_ret (E _ _ hx)
    · split at h
      · rename_i x y z h1 h2 h3
        cases h
        exact sv_ite (T _ _ h1) (B _ _ h2) (B _ _ h3)
      · cases h
    · split at h
      · rename_i x y h1 h2
        cases h
        exact sv_loop (T _ _ h1) (B _ _ h2)
      · cases h
    · split at h
      · rename_i hs
        split at h
        · rename_i x en y z h1 h2 h3
          split at h
          · cases h
          rename_i htp
          cases h
          exact sv_each hs (assign_of 5 _ _ h1) (tup_of h1 htp) (its_of E h2) (B _ _ h3)
        · cases h
      · cases h
    · cases h
      intro W env Fz A m σ s N R X F hw
      simp only [wpS] at hw
    · split at h
      · rename_i x y h1 h2
        cases h
        exact sv_del (E _ _ h1) (E _ _ h2)
      · cases h
end

-- Cx18
set_option Elab.async false
set_option linter.unusedVariables false
set_option linter.unusedSimpArgs false
set_option maxRecDepth 4000

/-! a def of the program's own, called -/
structure DefOK (c : Cx) (nm : List String) (f : Addr) (ps : List String) (body : ISs) : Prop where
  ex : ∃ o fd sts, c.K.lookup f = some o ∧ o.data = .func fd ∧ fd.body = .stmts sts ∧ trStmts (trS nm 30 fd.scope.names) sts = some body ∧ fd.closure = [] ∧ fd.globals = mainGlobals ∧ fd.builtins = builtinsNs ∧
    fd.scope.kind = .function ∧ fd.scope.isCoroutine = false ∧ fd.scope.isGenerator = false ∧ (fd.scope.names.all fun x => x.2 != .free) = true ∧
    (∀ vals : List Value, vals.length = ps.length → bindArgs fd ⟨vals, []⟩ = pure ((ps.map Str.ofString).zip vals)) ∧ (ps.all fun p => isWritten (fd.scope.names.lookup (Str.ofString p))) = true ∧ codeIn c.K fd.code fd.qualname = true
  nd : ps.Nodup

theorem lookup_zip {α : Type} : ∀ {ps : List String} {as : List α} {x : String} {a : α}, (ps.zip as).lookup x = some a → ∃ i : Nat, ps[i]? = some x ∧ as[i]? = some a
  | [], _, _, _, h => by simp at h
  | _ :: _, [], _, _, h => by simp at h
  | p :: ps, b :: as, x, a, h => by
    rw [List.zip_cons_cons, List.lookup_cons] at h
    split at h
    · rename_i e
      cases h
      exact ⟨0, by simp [beq_iff_eq.mp e], rfl⟩
    · obtain ⟨i, h1, h2⟩ := lookup_zip h
      exact ⟨i + 1, by simpa using h1, by simpa using h2⟩

theorem bindL_other (kd : Str → Option NameKind) : ∀ (b : List (Str × Value)) (m : Str → Option Value) (x : Str), x ∉ b.map (·.1) → bindL kd b m x = m x
  | [], _, _, _ => rfl
  | (y, v) :: r, m, x, h => by
    simp only [List.map_cons, List.mem_cons, not_or] at h
    unfold bindL
    rw [bindL_other kd r _ x h.2]
    split
    · exact if_neg h.1
    · rfl
theorem bindL_at (kd : Str → Option NameKind) : ∀ (ps : List String) (vs : List Value) (m : Str → Option Value) (i : Nat) (x : String) (v : Value), ps.Nodup → ps[i]? = some x → vs[i]? = some v → kd (Str.ofString x) = some .local →
    bindL kd ((ps.map Str.ofString).zip vs) m (Str.ofString x) = some v
  | [], _, _, i, _, _, _, h, _, _ => by simp at h
  | _ :: _, [], _, i, _, _, _, _, h, _ => by simp at h
  | p :: ps, u :: vs, m, 0, x, v, hn, hp, hv, hk => by
    simp only [List.getElem?_cons_zero, Option.some.injEq] at hp hv
    subst hp; subst hv
    rw [List.map_cons, List.zip_cons_cons]
    unfold bindL
    rw [bindL_other, if_pos hk, if_pos rfl]
    intro hm
    obtain ⟨⟨y, w⟩, h1, h2⟩ := List.mem_map.mp hm
    have := List.of_mem_zip h1
    obtain ⟨z, hz, e⟩ := List.mem_map.mp this.1
    simp only at h2
    rw [h2] at e
    exact (List.nodup_cons.mp hn).1 (ofString_inj e ▸ hz)
  | p :: ps, u :: vs, m, i + 1, x, v, hn, hp, hv, hk => by
    rw [List.map_cons, List.zip_cons_cons]
    unfold bindL
    exact bindL_at kd ps vs _ i x v (List.nodup_cons.mp hn).2 (by simpa using hp) (by simpa using hv) hk
theorem bindC_other (kd : Str → Option NameKind) : ∀ (b : List (Str × Value)) (m : Str → Option Value) (x : Str), x ∉ b.map (·.1) → bindC kd b m x = m x
  | [], _, _, _ => rfl
  | (y, v) :: r, m, x, h => by
    simp only [List.map_cons, List.mem_cons, not_or] at h
    unfold bindC
    rw [bindC_other kd r _ x h.2]
    split
    · rfl
    · exact if_neg h.1
theorem bindC_at (kd : Str → Option NameKind) : ∀ (ps : List String) (vs : List Value) (m : Str → Option Value) (i : Nat) (x : String) (v : Value), ps.Nodup → ps[i]? = some x → vs[i]? = some v → kd (Str.ofString x) ≠ some .local →
    bindC kd ((ps.map Str.ofString).zip vs) m (Str.ofString x) = some v
  | [], _, _, i, _, _, _, h, _, _ => by simp at h
  | _ :: _, [], _, i, _, _, _, _, h, _ => by simp at h
  | p :: ps, u :: vs, m, 0, x, v, hn, hp, hv, hk => by
    simp only [List.getElem?_cons_zero, Option.some.injEq] at hp hv
    subst hp; subst hv
    rw [List.map_cons, List.zip_cons_cons]
    unfold bindC
    rw [bindC_other, if_neg hk, if_pos rfl]
    intro hm
    obtain ⟨⟨y, w⟩, h1, h2⟩ := List.mem_map.mp hm
    have := List.of_mem_zip h1
    obtain ⟨z, hz, e⟩ := List.mem_map.mp this.1
    simp only at h2
    rw [h2] at e
    exact (List.nodup_cons.mp hn).1 (ofString_inj e ▸ hz)
  | p :: ps, u :: vs, m, i + 1, x, v, hn, hp, hv, hk => by
    rw [List.map_cons, List.zip_cons_cons]
    unfold bindC
    exact bindC_at kd ps vs _ i x v (List.nodup_cons.mp hn).2 (by simpa using hp) (by simpa using hv) hk

structure Room' (A : Around) (d : Nat) : Prop where
  dep : A.depth + 1 + 3 * d + 20 < recursionLimit
  un : A.units + 3 + 16 * d + 200 < cLine
  hn : A.handled = none

section
variable {c : Cx} {d : Nat} {W : Str → Prop} {env : Env} {Fz : Fzn} {A : Around} {m : Loc} {σ : AHeap} {s : Shared} {E : Value → Shared → Prop} {nm : List String}

/-- the frame of a def that is called -/
theorem fs_call {f : Addr} {fd : FuncData} {ps : List String} {vals : List Value} {as : List AV} {s s₁ : Shared} (hr : Room' A d) (hb : Base c) (hbs : Bs c Fz) (S : St c.prog c.w Fz σ s.heap) (r : RVs s.heap vals as) (hnd : ps.Nodup)
    (hg : fd.globals = mainGlobals) (hbl : fd.builtins = builtinsNs) (hk : fd.scope.kind = .function) (hfr : (fd.scope.names.all fun x => x.2 != .free) = true)
    (hps : (ps.all fun p => isWritten (fd.scope.names.lookup (Str.ofString p))) = true)
    (X : InCallC s (callEnvC fd s.heap.objs.size f).locals (bindL (callEnvC fd s.heap.objs.size f).kindOf ((ps.map Str.ofString).zip vals) fun _ => none) (callEnvC fd s.heap.objs.size f).cells
        (bindC (callEnvC fd s.heap.objs.size f).kindOf ((ps.map Str.ofString).zip vals) fun _ => none) s₁) :
    FS c d fd.scope.names (fun x => fd.scope.names.lookup x = some .cell) (callEnvC fd s.heap.objs.size f) Fz (A.deeper (callEnvC fd s.heap.objs.size f)) (ps.zip as) σ s₁.heap := by
  have keep := X.toInCall.keep
  have g := grow_keeps keep
  have S₁ := S.more g keep
  have kd : ∀ x, (callEnvC fd s.heap.objs.size f).kindOf x = fd.scope.names.lookup x := fun _ => rfl
  have fresh : ∀ a, s.heap.objs.size ≤ a → ∀ o, ¬ Fz a o := fun a ha o q => absurd (Heap.lt_size (S.fz a o q)) (Nat.not_lt.mpr ha)
  have nofree : ∀ x, fd.scope.names.lookup x ≠ some .free := fun x q => by
    have := List.all_eq_true.mp hfr _ (lookup_mem q)
    simp at this
  have val : ∀ x av, (ps.zip as).lookup x = some av → ∃ (i : Nat) (v : Value), ps[i]? = some x ∧ vals[i]? = some v ∧ RV s.heap v av := by
    intro x av e
    obtain ⟨i, h1, h2⟩ := lookup_zip e
    have := r.get i
    rw [h2] at this
    cases q : vals[i]? with
    | none => rw [q] at this; cases this
    | some v => rw [q] at this; exact ⟨i, v, h1, q, this⟩
  refine ⟨hb, ?_, ⟨?_, ?_, ?_⟩, hbs, S₁, ⟨hk, hg, hbl, ?_, ?_, ?_, ?_, ?_, ?_, ?_⟩⟩
  · intro x k q
    rw [kd]
    refine ⟨fun e => by rw [q, e], fun e => ⟨by rw [q, e], by show fd.scope.names.lookup x = some .cell; rw [q, e]⟩, fun e => .inl (by rw [q, e]), fun e => by rw [q, e]⟩
  · show A.depth + 1 + 3 * d + 20 < recursionLimit
    exact hr.dep
  · show A.units + 3 + 16 * d + 200 < cLine
    exact hr.un
  · exact hr.hn
  · refine ⟨_, X.toInCall.ns, fun x av e k => ?_⟩
    obtain ⟨i, v, h1, h2, h3⟩ := val x av e
    exact ⟨v, bindL_at _ ps vals _ i x v hnd h1 h2 k, h3.grow g⟩
  · intro x a e
    exact ⟨_, X.cell x a e⟩
  · intro x av e k
    rcases k with k | k
    · obtain ⟨i, v, h1, h2, h3⟩ := val x av e
      rw [kd] at k
      obtain ⟨a, ha⟩ := cellsFrom_has fd.scope.names (s.heap.objs.size + 1) [] (Str.ofString x) (.inl (lookup_mem k))
      have hc := X.cell _ _ ha
      rw [bindC_at _ ps vals _ i x v hnd h1 h2 (by rw [kd, k]; simp)] at hc
      exact ⟨a, v, ha, hc, h3.grow g⟩
    · rw [kd] at k; exact absurd k (nofree _)
  · exact fresh _ (Nat.le_refl _)
  · exact S.freeσ (not_there s.heap)
  · intro x a hW e
    have hm := mem_of_lookup e
    refine ⟨fresh a (Nat.le_of_lt (X.above _ _ hm)), fun y hy => name_of_addr X.apart (mem_of_lookup hy) hm⟩
  · intro x k
    rcases k with k | k
    · rw [kd] at k
      exact cellsFrom_has fd.scope.names (s.heap.objs.size + 1) [] x (.inl (lookup_mem k))
    · rw [kd] at k; exact absurd k (nofree _)

theorem def_code {f : Addr} {ps : List String} {body : ISs} {vals : List Value} {as : List AV} {R : Result → Shared → Prop} (D : DefOK c nm f ps body) (hr : Room' A d) (hb : Base c) (hbs : Bs c Fz) (S : St c.prog c.w Fz σ s.heap) (r : RVs s.heap vals as) (hl : as.length = ps.length)
    {N : Loc → AHeap → Prop} {Q : AV → AHeap → Prop} (h : wpSs c d body (ps.zip as) σ N Q (fun _ _ _ => False))
    (hN : ∀ s' m' σ', St c.prog c.w Fz σ' s'.heap → GrowS s s' → N m' σ' → R (.ok (.ret .none)) s')
    (hQ : ∀ v av s' σ', St c.prog c.w Fz σ' s'.heap → GrowS s s' → RV s'.heap v av → Q av σ' → R (.ok (.ret v)) s') :
    codeAny c.M A (.call (.ref f) ⟨vals, []⟩) R s := by
  obtain ⟨⟨o, fd, sts, ho, hd, hbody, htr, hclo, hg, hbl, hk, hco, hgen, hfr, hbind, hps, hcode⟩, hnd⟩ := D
  have kin : c.K.In s.heap := hb.kin.keeps fun b o e => S.fz b o (hbs b o e)
  obtain ⟨p, loose, mg, mb, T0⟩ := hb.top
  have T := T0.keeps (S.base hbs)
  have hvl : vals.length = ps.length := by rw [r.length, hl]
  refine codeAny_call_cells (fd := fd) (by have := hr.dep; omega) (kin _ _ ho) hd T.nolimit (codeRec_of kin hcode) hbody (hbind vals hvl) hclo ?_ (fun s₁ X => ?_) hco hgen hk
  · rintro ⟨x, v⟩ hx
    have h1 := List.of_mem_zip hx
    obtain ⟨y, hy, rfl⟩ := List.mem_map.mp h1.1
    have h2 := List.all_eq_true.mp hps y hy
    cases q : fd.scope.names.lookup (Str.ofString y) with
    | none => rw [q] at h2; cases h2
    | some kd =>
      rw [q] at h2
      cases kd <;> first | (cases h2; done) | exact .inl rfl | skip
      refine .inr ⟨rfl, ?_⟩
      obtain ⟨a, ha⟩ := cellsFrom_has fd.scope.names (s.heap.objs.size + 1) [] (Str.ofString y) (.inl (lookup_mem q))
      rw [ha]; rfl
  · have F := fs_call hr hb hbs S r hnd hg hbl hk hfr hps X
    have keep := X.toInCall.keep
    have g := grow_keeps keep
    have ko : Kept s s₁ := by obtain ⟨hh, tk, e⟩ := X.toInCall.same; rw [e]; exact ⟨rfl, rfl⟩
    refine wpAny_mono (stmts_of (fun st i h => soundS (nm := nm) 30 _ st i h) sts body htr _ _ _ _ _ _ s₁ N Q (fun _ _ _ => False) F h) ?_ (fun e s' f => f.no.elim)
    intro fl s' hf
    cases fl with
    | next => obtain ⟨m', σ', S', F', g', q⟩ := hf; exact hN s' m' σ' S' ⟨g.trans g'.g, ko.trans g'.k⟩ q
    | ret v => obtain ⟨av, m', σ', S', F', g', rv, q⟩ := hf; exact hQ v av s' σ' S' ⟨g.trans g'.g, ko.trans g'.k⟩ rv q
    | brk => exact hf.elim
    | cont => exact hf.elim

theorem call_def {f : Addr} {ps : List String} {body : ISs} {as : List AV} {Q : AV → AHeap → Prop} {X : Addr → AHeap → Prop} (D : DefOK c nm f ps body) (hl : as.length = ps.length)
    (h : wpSs c d body (ps.zip as) σ (fun _ σ' => Q .none σ') Q (fun _ _ _ => False)) : CallOK c (d + 1) (.raw (.ref f)) as σ Q X := by
  intro A Fz s vs hr hb hbs S r
  cases r with
  | @cons v _ vals _ rf r =>
    have hv : v = .ref f := by cases rf; rfl
    subst hv
    show wpAny c.M A (call (.ref f) vals) _ _ s
    refine wpAny_call (def_code D ⟨?_, ?_, hr.hn⟩ hb hbs S r hl h ?_ ?_)
    · have := hr.dep; omega
    · have := hr.un; omega
    · intro s' m' σ' S' g q; exact ⟨.none, σ', S', g, .none, q⟩
    · intro v av s' σ' S' g rv q; exact ⟨av, σ', S', g, rv, q⟩
end

-- Cx19
set_option Elab.async false
set_option linter.unusedVariables false
set_option linter.unusedSimpArgs false
set_option maxRecDepth 4000

/-! objects with attributes -/
theorem isStr_str (x y : String) (t : Tok) : (Value.str (Str.ofString x) t).isStr (Str.ofString y) = (x == y) := by
  show (Str.ofString x == Str.ofString y) = (x == y)
  by_cases h : x = y
  · subst h; simp
  · have : ¬ Str.ofString x = Str.ofString y := fun e => h (ofString_inj e)
    rw [beq_false_of_ne h, beq_false_of_ne this]

theorem NsEs.noRef {h : Heap} {es f} (x : NsEs h es f) : es.any (·.refKey) = false := by
  induction x with
  | nil => rfl
  | cons r _ ih => rw [List.any_cons, ih]; rfl
theorem NsEs.get {h : Heap} {es f} (x : NsEs h es f) (n : String) : match f.lookup n with
    | some av => ∃ v, getL (Str.ofString n) es = some (some v) ∧ RV h v av
    | none => getL (Str.ofString n) es = some none := by
  induction x with
  | nil => rfl
  | @cons hs t x v av es f r rest ih =>
    rw [List.lookup_cons]
    unfold getL
    rw [List.find?_cons]
    simp only [isStr_str]
    by_cases e : x = n
    · subst e
      simp only [beq_self_eq_true]
      exact ⟨v, rfl, r⟩
    · rw [beq_false_of_ne e, beq_false_of_ne (fun q => e q.symm)]
      simp only
      unfold getL at ih
      rw [List.any_cons]
      exact ih
theorem NsEs.put {h h' : Heap} (g : Grow h h') {es f} (x : NsEs h es f) (n : String) (hs : Int) (t : Tok) {v : Value} {av : AV} (r : RV h v av) : NsEs h' (putL (Str.ofString n) hs (.str (Str.ofString n) t) v es) (Loc.put f n av) := by
  induction x with
  | nil => exact .cons (r.grow g) .nil
  | @cons hs0 t0 x v0 av0 es f r0 rest ih =>
    unfold putL Loc.put
    simp only [isStr_str]
    by_cases e : x = n
    · subst e
      simp only [beq_self_eq_true, if_true]
      exact .cons (r.grow g) (rest.grow g)
    · rw [beq_false_of_ne e, if_neg e]
      simp only [Bool.false_eq_true, if_false]
      exact .cons (r0.grow g) ih
theorem NsEs.len {h : Heap} {es f} (x : NsEs h es f) : es.length = f.length := by
  induction x with
  | nil => rfl
  | cons _ _ ih => simp [ih]

/-- no builtin's value among them -/
def AV.tame : AV → Bool
  | .raw _ => false
  | _ => true
theorem handed_tame {h : Heap} {v : Value} {a : AV} (r : RV h v a) (ht : a.tame = true) : handedIn v = true := by
  cases r <;> first | rfl | (cases ht)

/-- what of a class is asked: of attributes that live in the object alone -/
structure ClsAttr (c : Cx) (C : Addr) (n : String) : Prop where
  pg : plainGet c.K C (Str.ofString n) = true
  hd : hasDictIn c.K C = true
  fi : ∃ attr, findIn c.K (.ref C) (Str.ofString n) = some attr ∧ noGet c.K attr = true
/-- .. and of methods -/
structure ClsMeth (c : Cx) (C : Addr) (n : String) (f : Addr) : Prop where
  pg : plainGet c.K C (Str.ofString n) = true
  fi : findIn c.K (.ref C) (Str.ofString n) = some (some (.ref f))
  fn : isFn c.K (.ref f) = true
structure ClsStore (c : Cx) (C : Addr) (n : String) : Prop where
  sa : findIn c.K (.ref C) "__setattr__" = some (some (.builtin "object.__setattr__"))
  po : plainOver c.K C = true
  ta : takerIn c.K C (Str.ofString n) = some none
  hd : hasDictIn c.K C = true

section
variable {c : Cx} {d : Nat} {σ : AHeap}

theorem inst_at {Fz : Fzn} {h : Heap} {x C dd : Addr} {f : List (String × AV)} (S : St c.prog c.w Fz σ h) (hx : σ x = some (.inst C dd)) (hdd : σ dd = some (.ns f)) :
    ∃ es n, InstAt h x (instObj C dd) C (some (dictOf es n)) ∧ h.get? dd = some (dictOf es n) ∧ NsEs h es f ∧ f.length ≤ 100 := by
  have h1 := S.cell _ _ hx
  obtain ⟨o, h2, es, n, rfl, h3, h4⟩ := S.cell _ _ hdd
  exact ⟨es, n, ⟨h1, rfl, rfl, h2⟩, h2, h3, h4⟩

theorem attr_get {x C dd : Addr} {f : List (String × AV)} {n : String} {av : AV} {Q : AV → AHeap → Prop} {X : Addr → AHeap → Prop} (ha : ClsAttr c C n) (hx : σ x = some (.inst C dd)) (hdd : σ dd = some (.ns f)) (hn : f.lookup n = some av) (ht : av.tame = true) (h : Q av σ) :
    AttrOK c d (.ref x) n σ Q X := by
  intro A Fz s vs hr hb hbs S r
  obtain ⟨v, vs', rfl, rv, r'⟩ := r.cons_inv
  obtain rfl := r'.nil_inv
  have hv : v = .ref x := by cases rv; rfl
  subst hv
  obtain ⟨es, k, I, hd2, hns, _⟩ := inst_at S hx hdd
  have kin : c.K.In s.heap := hb.kin.keeps fun b o e => S.fz b o (hbs b o e)
  have hg := hns.get n
  rw [hn] at hg
  obtain ⟨u, hu, ru⟩ := hg
  obtain ⟨attr, hf1, hf2⟩ := ha.fi
  show wpAny c.M A (getAttr (.ref x) (Str.ofString n) true) _ _ s
  exact get_value kin I (plainGet_of ha.pg).1 (findObj_own ha.hd hf1 hf2 hu) (handed_tame ru ht) ⟨av, σ, S, ⟨Grow.refl _, rfl, rfl⟩, ru, h⟩

theorem meth_look {x C dd f : Addr} {fl : List (String × AV)} {n : String} {Q : AV → List AV → Prop} (hm : ClsMeth c C n f) (hx : σ x = some (.inst C dd)) (hdd : σ dd = some (.ns fl)) (hn : fl.lookup n = none) (h : Q (.raw (.ref f)) [.ref x]) :
    LookOK c d (.ref x) n σ Q := by
  intro A Fz s v pl E P hr hb hbs S r hP
  have hv : v = .ref x := by cases r; rfl
  subst hv
  obtain ⟨es, k, I, hd2, hns, _⟩ := inst_at S hx hdd
  have kin : c.K.In s.heap := hb.kin.keeps fun b o e => S.fz b o (hbs b o e)
  have hg := hns.get n
  rw [hn] at hg
  refine method_fn kin I (plainGet_of hm.pg).1 (plainGet_of hm.pg).2 hm.fi (beq_iff_eq.mp hm.fn) ?_ (hP (.raw (.ref f)) [.ref x] (.ref f) [.ref x] s (.refl s) (.raw _) (.one (.ref x)) h)
  show (lookIn (Str.ofString n) (dictOf es k)).map (·.isSome) = some false
  rw [lookIn_dict, hg]; rfl

theorem attr_set {x C dd : Addr} {f : List (String × AV)} {n : String} {av : AV} {Q : AHeap → Prop} {X : Addr → AHeap → Prop} (ha : ClsStore c C n) (hx : σ x = some (.inst C dd)) (hdd : σ dd = some (.ns f)) (hl : f.length ≤ 50) (h : Q (σ.set dd (.ns (Loc.put f n av)))) :
    SetAttrOK c d (.ref x) n av σ Q X := by
  intro A Fz s ov vv hr hb hbs S ro rv
  have hv : ov = .ref x := by cases ro; rfl
  subst hv
  obtain ⟨es, k, I, hd2, hns, hl100⟩ := inst_at S hx hdd
  have kin : c.K.In s.heap := hb.kin.keeps fun b o e => S.fz b o (hbs b o e)
  refine set_plain kin I ha.sa (osa_open (s := { s with toks := s.toks + 1 }) kin I ha.po ha.ta fun b => ?_)
  obtain ⟨cd, hc, hd'⟩ := any_some ha.hd
  have hn := putName_dict (Str.ofString n) (PyData.keyHash c.w.params (Str.ofString n)) (.str (Str.ofString n) (s.toks + 1)) vv es k
  have hs : Heap.SameBut dd s.heap (s.heap.update dd (Obj.putName (Str.ofString n) (PyData.keyHash c.w.params (Str.ofString n)) (.str (Str.ofString n) (s.toks + 1)) vv)) := Heap.SameBut.update ..
  have D' := Heap.get?_update_self (Obj.putName (Str.ofString n) (PyData.keyHash c.w.params (Str.ofString n)) (.str (Str.ofString n) (s.toks + 1)) vv) hd2 (by rw [hn]; rfl)
  have g0 : Grow s.heap (s.heap.update dd (Obj.putName (Str.ofString n) (PyData.keyHash c.w.params (Str.ofString n)) (.str (Str.ofString n) (s.toks + 1)) vv)) := grow_dict hd2 rfl hs
  have hlen : (Loc.put f n av).length ≤ f.length + 1 := by
    clear hx hdd hl h hns hl100
    induction f with
    | nil => simp [Loc.put]
    | cons p f ih => unfold Loc.put; split <;> simp; exact ih
  have hH : Holds c.prog c.w (s.heap.update dd (Obj.putName (Str.ofString n) (PyData.keyHash c.w.params (Str.ofString n)) (.str (Str.ofString n) (s.toks + 1)) vv)) dd (.ns (Loc.put f n av)) := ⟨_, D', _, _, hn, hns.put g0 n _ _ rv, by omega⟩
  obtain ⟨S', g'⟩ := S.write hdd hs hH
  obtain ⟨hx', hcl, hno, -⟩ := I
  refine wpAny_bind (wpAny_pure (wpAny_bind (wpAny_bind (wpAny_loadPart hx' (wpAny_bind (looks_clsIn kin hc _ _ _ _ (fun _ _ e => e) ?_))))))
  rw [hd']
  refine wpAny_pure (a := some dd) (wpAny_bind (wpAny_pure (wpAny_bind ?_)))
  unfold nsSet
  refine wpAny_bind (wpAny_bind (wpAny_askSetting (wpAny_pure (wpAny_bind (wpAny_mkText (wpAny_bind (wpAny_loadPart hd2 ?_)))))))
  dsimp only
  have c0 : (!es.toArray.any (·.key.isStr (Str.ofString n)) && es.toArray.any (·.refKey)) = false := by
    have := hns.noRef
    rw [← Array.any_toList, ← Array.any_toList, this, Bool.and_false]
  rw [aRefKeyMayBeTheName_at, c0]
  refine wpAny_updatePart hd2 ?_
  have hz : (putL (Str.ofString n) (PyData.keyHash c.w.params (Str.ofString n)) (.str (Str.ofString n) (s.toks + 1)) vv es).length ≤ 1000 := by
    rw [(hns.put g0 n (PyData.keyHash c.w.params (Str.ofString n)) (s.toks + 1) rv).len]; omega
  refine wpAny_bind (wpAny_lookBehind D' (by rw [hn]; exact pastItsLine_dict (by rw [List.size_toArray, sizeLine_eq]; omega)) ?_)
  exact wpAny_pure ⟨_, S', ⟨g', rfl, rfl⟩, h⟩
end

-- Cx20
set_option Elab.async false
set_option linter.unusedVariables false
set_option linter.unusedSimpArgs false
set_option maxRecDepth 4000

section
variable {c : Cx} {d : Nat} {σ : AHeap} {nm : List String}

theorem call_cls {C fI : Addr} {ps : List String} {body : ISs} {as : List AV} {Q : AV → AHeap → Prop} {X : Addr → AHeap → Prop} (hm : makesIn c.K C = true) (hi : findIn c.K (.ref C) "__init__" = some (some (.ref fI))) (hf : isFn c.K (.ref fI) = true)
    (D : DefOK c nm fI ps body) (hl : as.length + 1 = ps.length)
    (h : ∀ x dx, σ x = none → σ dx = none → x ≠ dx → wpSs c d body (ps.zip (.ref x :: as)) ((σ.set dx (.ns [])).set x (.inst C dx)) (fun _ σ' => Q (.ref x) σ') (fun r σ' => r = .none ∧ Q (.ref x) σ') (fun _ _ _ => False)) :
    CallOK c (d + 1) (.raw (.ref C)) as σ Q X := by
  intro A Fz s vs hr hb hbs S r
  cases r with
  | @cons v _ vals _ rf r =>
    have hv : v = .ref C := by cases rf; rfl
    subst hv
    have kin : c.K.In s.heap := hb.kin.keeps fun b o e => S.fz b o (hbs b o e)
    show wpAny c.M A (call (.ref C) vals) _ _ s
    refine wpAny_call ?_
    obtain ⟨hh, g, dr, t, os⟩ := s
    have n1 := not_there hh
    have n2 := not_there (hh.push PySem.W.emptyDict)
    have hsz : (hh.push PySem.W.emptyDict).objs.size = hh.objs.size + 1 := Heap.size_push ..
    have k1 := keeps_push hh PySem.W.emptyDict
    have k2 := keeps_push (hh.push PySem.W.emptyDict) (instObj C hh.objs.size)
    have e1 : (hh.push PySem.W.emptyDict).get? hh.objs.size = some PySem.W.emptyDict := Heap.get?_push_size _ rfl
    obtain ⟨S1, g1, hσ1⟩ := S.new (c := .ns []) n1 k1 ⟨PySem.W.emptyDict, e1, [], 0, rfl, .nil, by simp⟩
    have e2 : ((hh.push PySem.W.emptyDict).push (instObj C hh.objs.size)).get? (hh.objs.size + 1) = some (instObj C hh.objs.size) := by
      rw [← hsz]; exact Heap.get?_push_size _ rfl
    obtain ⟨S2, g2, hσ2⟩ := S1.new (c := .inst C hh.objs.size) (a := hh.objs.size + 1) (by rw [← hsz]; exact n2) k2 e2
    have hne : hh.objs.size + 1 ≠ hh.objs.size := Nat.succ_ne_self _
    have hσx : σ (hh.objs.size + 1) = none := by rw [AHeap.set_ne _ _ hne] at hσ2; exact hσ2
    refine make_core (makes_of kin hm) (looks_findIn kin hi) (fun self => bind_fn kin self (beq_iff_eq.mp hf)) (.inl rfl) ?_
    refine def_code (s := ⟨(hh.push PySem.W.emptyDict).push (instObj C hh.objs.size), g, dr, t, os⟩) (vals := .ref (hh.objs.size + 1) :: vals) (as := .ref (hh.objs.size + 1) :: as) D ⟨?_, ?_, ?_⟩ hb hbs S2 (.cons (.ref _) (r.grow (g1.trans g2))) (by simpa using hl) (h _ _ hσx hσ1 hne) ?_ ?_
    · rw [depth_under_make]; have := hr.dep; omega
    · rw [units_under_make]; have := hr.un; omega
    · exact hr.hn
    · intro s' m' σ' S' g' q
      exact ⟨rfl, .ref (hh.objs.size + 1), σ', S', ⟨(g1.trans g2).trans g'.g, g'.k.os, g'.k.gens⟩, .ref _, q⟩
    · intro v av s' σ' S' g' rv q
      obtain ⟨rfl, q⟩ := q
      have hv : v = .none := by cases rv; rfl
      subst hv
      exact ⟨rfl, .ref (hh.objs.size + 1), σ', S', ⟨(g1.trans g2).trans g'.g, g'.k.os, g'.k.gens⟩, .ref _, q⟩
end

-- Cx21
set_option Elab.async false
set_option linter.unusedVariables false
set_option linter.unusedSimpArgs false
set_option maxRecDepth 4000

theorem RVs.two_inv {h : Heap} {vs : List Value} {a b : AV} (r : RVs h vs [a, b]) : ∃ v u, vs = [v, u] ∧ RV h v a ∧ RV h u b := by
  cases r with | cons x r => cases r with | cons y r => cases r; exact ⟨_, _, rfl, x, y⟩
theorem RVs.one_inv {h : Heap} {vs : List Value} {a : AV} (r : RVs h vs [a]) : ∃ v, vs = [v] ∧ RV h v a := by
  cases r with | cons x r => cases r; exact ⟨_, rfl, x⟩
theorem RVs.three_inv {h : Heap} {vs : List Value} {a b e : AV} (r : RVs h vs [a, b, e]) : ∃ v u w, vs = [v, u, w] ∧ RV h v a ∧ RV h u b ∧ RV h w e := by
  cases r with | cons x r => cases r with | cons y r => cases r with | cons z r => cases r; exact ⟨_, _, _, rfl, x, y, z⟩

section
variable {c : Cx} {d : Nat} {σ : AHeap} {Q : AV → AHeap → Prop} {X : Addr → AHeap → Prop} {a b : Int}

theorem op_mono {t : List Value → Sem Value} {as : List AV} {Q' : AV → AHeap → Prop} (h : OpOK c d t as σ Q X) (k : ∀ v σ', Q v σ' → Q' v σ') : OpOK c d t as σ Q' X := by
  intro A Fz s vs hr hb hbs S r
  refine wpAny_mono (h A Fz s vs hr hb hbs S r) ?_ (fun _ _ x => x)
  rintro v s' ⟨av, σ', S', g, rv, q⟩
  exact ⟨av, σ', S', g, rv, k _ _ q⟩

/-- an operation on values alone -/
theorem pure_bin {op : Operator} {x y r : AV} (h : ∀ (A : Around) (s : Shared) (E : Value → Shared → Prop) (P : Value → Shared → Prop) u v, Room A d → RV s.heap u x → RV s.heap v y → (∀ z s', SameS s s' → RV s'.heap z r → P z s') → wpAny c.M A (binaryOp op u v) P E s) (hq : Q r σ) : BinOK c d op x y σ Q X := by
  intro A Fz s vs hr hb hbs S r
  obtain ⟨v, u, rfl, rv, ru⟩ := r.two_inv
  refine h A s _ _ v u hr rv ru fun z s' e rz => ⟨_, σ, st_same e.h S, e.grow, rz, hq⟩
theorem pure_cmp {op : CmpOp} {x y r : AV} (h : ∀ (A : Around) (s : Shared) (E : Value → Shared → Prop) (P : Value → Shared → Prop) u v, Room A d → RV s.heap u x → RV s.heap v y → (∀ z s', SameS s s' → RV s'.heap z r → P z s') → wpAny c.M A (compareOp op u v) P E s) (hq : Q r σ) : CmpOK c d op x y σ Q X := by
  intro A Fz s vs hr hb hbs S r
  obtain ⟨v, u, rfl, rv, ru⟩ := r.two_inv
  refine h A s _ _ v u hr rv ru fun z s' e rz => ⟨_, σ, st_same e.h S, e.grow, rz, hq⟩

theorem bin_add (h : Q (.int (a + b)) σ) : BinOK c d .Add (.int a) (.int b) σ Q X :=
  pure_bin (fun A s E P u v _ ru rv k => by cases ru; cases rv; exact PyProof.Rows.add_int (k _ _ ⟨rfl, rfl, rfl⟩ (.int _ _))) h
theorem bin_sub (h : Q (.int (a - b)) σ) : BinOK c d .Sub (.int a) (.int b) σ Q X :=
  pure_bin (fun A s E P u v _ ru rv k => by cases ru; cases rv; exact PyProof.Rows.sub_int' (k _ _ ⟨rfl, rfl, rfl⟩ (.int _ _))) h
def Small (a : Int) : Prop := a.natAbs < 2 ^ 62
theorem small_bits {a : Int} (h : Small a) : Builtin.Int.intBits a ≤ 64 := by
  unfold Builtin.Int.intBits
  split
  · exact Nat.zero_le _
  · rename_i h0
    have h1 : a.natAbs ≠ 0 := by
      intro e
      have : a = 0 := Int.natAbs_eq_zero.mp e
      simp [this] at h0
    have := (Nat.log2_lt h1).mpr (show a.natAbs < 2 ^ 62 from h)
    omega
theorem bin_mul (hm : Small a ∨ Small b) (h : Q (.int (a * b)) σ) : BinOK c d .Mult (.int a) (.int b) σ Q X :=
  pure_bin (fun A s E P u v _ ru rv k => by
    cases ru; cases rv
    exact PyProof.Rows.mul_int (k _ _ ⟨rfl, rfl, rfl⟩ (.int _ _)) (hm.elim (fun x => .of_left (small_bits x)) fun x => .of_right (small_bits x))) h
theorem bin_mod (hb : b ≠ 0) (h : Q (.int (a.fmod b)) σ) : BinOK c d .Mod (.int a) (.int b) σ Q X :=
  pure_bin (fun A s E P u v _ ru rv k => by cases ru; cases rv; exact PyProof.Rows.mod_int' hb (k _ _ ⟨rfl, rfl, rfl⟩ (.int _ _))) h
theorem bin_fdiv (hb : b ≠ 0) (hs : b.natAbs < 1073741824) (h : Q (.int (a.fdiv b)) σ) : BinOK c d .FloorDiv (.int a) (.int b) σ Q X :=
  pure_bin (fun A s E P u v _ ru rv k => by cases ru; cases rv; exact PyProof.Rows.floordiv_int hb (k _ _ ⟨rfl, rfl, rfl⟩ (.int _ _)) (.inl (PyProof.noPylong_small hs))) h
theorem neg_ok (h : Q (.int (-a)) σ) : NegOK c d (.int a) σ Q X := by
  intro A Fz s vs hr hb hbs S r
  obtain ⟨v, rfl, rv⟩ := r.one_inv
  cases rv
  exact PyProof.Rows.neg_int ⟨_, σ, S, ⟨Grow.refl _, rfl, rfl⟩, .int _ _, h⟩
theorem cmp_eq_int (h : Q (.bool (decide (a = b))) σ) : CmpOK c d .Eq (.int a) (.int b) σ Q X :=
  pure_cmp (fun A s E P u v _ ru rv k => by cases ru; cases rv; exact PyProof.Rows.eq_int (k _ _ ⟨rfl, rfl, rfl⟩ (.bool _))) h
theorem cmp_ne_int (h : Q (.bool (decide (a ≠ b))) σ) : CmpOK c d .NotEq (.int a) (.int b) σ Q X :=
  pure_cmp (r := .bool (decide (a ≠ b))) (fun A s E P u v _ ru rv k => by
    cases ru; cases rv
    refine PyProof.Rows.ne_int (k _ _ ⟨rfl, rfl, rfl⟩ ?_)
    have : (a != b) = decide (a ≠ b) := by by_cases e : a = b <;> simp [e]
    rw [this]; exact .bool _) h
theorem cmp_lt (h : Q (.bool (decide (a < b))) σ) : CmpOK c d .Lt (.int a) (.int b) σ Q X :=
  pure_cmp (fun A s E P u v _ ru rv k => by cases ru; cases rv; exact PyProof.Rows.lt_int (k _ _ ⟨rfl, rfl, rfl⟩ (.bool _))) h
theorem cmp_le (h : Q (.bool (decide (a ≤ b))) σ) : CmpOK c d .LtE (.int a) (.int b) σ Q X :=
  pure_cmp (fun A s E P u v _ ru rv k => by cases ru; cases rv; exact PyProof.Rows.le_int (k _ _ ⟨rfl, rfl, rfl⟩ (.bool _))) h
theorem cmp_gt (h : Q (.bool (decide (b < a))) σ) : CmpOK c d .Gt (.int a) (.int b) σ Q X :=
  pure_cmp (fun A s E P u v _ ru rv k => by cases ru; cases rv; exact PyProof.Rows.gt_int (k _ _ ⟨rfl, rfl, rfl⟩ (.bool _))) h
theorem cmp_ge (h : Q (.bool (decide (b ≤ a))) σ) : CmpOK c d .GtE (.int a) (.int b) σ Q X :=
  pure_cmp (fun A s E P u v _ ru rv k => by cases ru; cases rv; exact PyProof.Rows.ge_int (k _ _ ⟨rfl, rfl, rfl⟩ (.bool _))) h

theorem truth_bool {b : Bool} {Q : Bool → Prop} (h : Q b) : TruthOK c d (.bool b) σ Q := by
  intro A Fz s v E P hr hb hbs S r k
  cases r
  exact wpAny_pure (k _ _ ⟨rfl, rfl, rfl⟩ h)
theorem truth_none {Q : Bool → Prop} (h : Q false) : TruthOK c d .none σ Q := by
  intro A Fz s v E P hr hb hbs S r k
  cases r
  exact wpAny_pure (k _ _ ⟨rfl, rfl, rfl⟩ h)
theorem is_none {x : AV} (ht : x.tame = true) (h : Q (.bool (match x with | .none => true | _ => false)) σ) : CmpOK c d .Is x .none σ Q X :=
  pure_cmp (fun A s E P u v _ ru rv k => by
    cases rv
    cases ru <;> first
      | (cases ht; done)
      | exact wpAny_is_plain rfl (k _ _ ⟨rfl, rfl, rfl⟩ (.bool _))) h
theorem is_bool {x y : Bool} (h : Q (.bool (decide (x = y))) σ) : CmpOK c d .Is (.bool x) (.bool y) σ Q X :=
  pure_cmp (fun A s E P u v _ ru rv k => by
    cases rv; cases ru
    refine wpAny_is_plain rfl (k _ _ ⟨rfl, rfl, rfl⟩ ?_)
    cases x <;> cases y <;> exact .bool _) h
theorem isnot_bool {x y : Bool} (h : Q (.bool (decide (x ≠ y))) σ) : CmpOK c d .IsNot (.bool x) (.bool y) σ Q X :=
  pure_cmp (r := .bool (decide (x ≠ y))) (fun A s E P u v _ ru rv k => by
    cases rv; cases ru
    refine wpAny_isNot_plain rfl (k _ _ ⟨rfl, rfl, rfl⟩ ?_)
    cases x <;> cases y <;> exact .bool _) h
end

-- Cx22
set_option Elab.async false
set_option linter.unusedVariables false
set_option linter.unusedSimpArgs false
set_option maxRecDepth 20000

section
variable {c : Cx} {d : Nat} {σ : AHeap} {Q : AV → AHeap → Prop} {X : Addr → AHeap → Prop} {A : Around} {E : Value → Shared → Prop} {s : Shared} {Fz : Fzn}

def Fits (n : Nat) : Prop := n ≤ 100000
theorem Fits.le {n : Nat} (h : Fits n) : n ≤ sizeLine := by unfold Fits at h; rw [sizeLine_eq]; omega
theorem Fits.small {n : Nat} (h : Fits n) : (n : Int) < 2 ^ 63 := by unfold Fits at h; omega

theorem list_at {h : Heap} {l : Addr} {xs : List AV} (S : St c.prog c.w Fz σ h) (e : σ l = some (.list xs)) : ∃ its n, IsL h l its n ∧ RVs h its.toList xs := by
  obtain ⟨its, n, e, r⟩ := S.cell _ _ e
  exact ⟨its, n, e, r⟩
theorem list_size {h : Heap} {its : Array Value} {xs : List AV} (r : RVs h its.toList xs) : its.size = xs.length := by rw [← r.length]; simp

/-- a list is changed -/
theorem list_upd {h : Heap} {l : Addr} {xs ys : List AV} {its : Array Value} {n : Nat} (S : St c.prog c.w Fz σ h) (e : σ l = some (.list xs)) (hl : IsL h l its n) (f : Array Value → Array Value) (r : RVs h (f its).toList ys) :
    St c.prog c.w Fz (σ.set l (.list ys)) (h.update l (Obj.mapSeq f)) ∧ Grow h (h.update l (Obj.mapSeq f)) := by
  have hs : Heap.SameBut l h (h.update l (Obj.mapSeq f)) := Heap.SameBut.update ..
  have g : Grow h (h.update l (Obj.mapSeq f)) := by
    intro b o ho hla
    by_cases q : b = l
    · subst q; exact absurd hla ((S.cell b _ e).notLasting ho)
    · exact (hs.2 b q).trans ho
  exact S.write e hs ⟨f its, _, hl.update f, r.grow g⟩
/-- a new list -/
theorem list_new {h : Heap} {ys : List AV} {its : Array Value} (S : St c.prog c.w Fz σ h) (r : RVs h its.toList ys) :
    St c.prog c.w Fz (σ.set h.objs.size (.list ys)) (h.push { cls := .type "list", data := .seq its }) ∧ Grow h (h.push { cls := .type "list", data := .seq its }) ∧ σ h.objs.size = none :=
  S.new (not_there h) (keeps_push h _) ⟨its, 0, Heap.get?_push_size _ rfl, r.grow (grow_keeps (keeps_push h _))⟩

theorem sub_of {T id : String} {o i : Value} {P : Value → Shared → Prop} {M : Model} (hT : s.TypeIs o T) (hne : o ≠ .builtin "sys.modules#opaque") (hl : typeLookup (.type T) "__getitem__" = pure (some (.builtin id))) (h : wpAny M A (getItem o i) P E s) : wpAny M A (subT o i) P E s := by
  unfold subT
  rw [getitemInPython_of_ne hne]
  refine wpAny_bind (wpAny_bind (wpAny_specialOf hT hl (wpAny_pure ?_)))
  rw [if_neg (by decide)]
  exact h

theorem look_list {l : Addr} {xs : List AV} {name : String} {id : String} {Q : AV → List AV → Prop} (slot : Slot "list" (Str.ofString name) id) (hty : typeOf (.builtin id) = pure (.type "method_descriptor")) (e : σ l = some (.list xs)) (h : Q (.raw (.builtin id)) [.ref l]) : LookOK c d (.ref l) name σ Q := by
  intro A Fz s v pl E P hr hb hbs S r hP
  have hv : v = .ref l := by cases r; rfl
  subst hv
  obtain ⟨its, n, hl, ri⟩ := list_at S e
  exact getMethod_builtin hl.isList.typeIs PySem.F.plainAttrs_list slot hty (fun a e => by cases e; exact ⟨_, hl, rfl⟩) (hP _ _ _ _ s (.refl s) (.raw _) (.one (.ref l)) h)

theorem ty_method {id : String} (h : fastBuiltinType id = pure (.type "method_descriptor")) : typeOf (.builtin id) = pure (.type "method_descriptor") := by show builtinType _ = _; rw [builtinType_eq_fast]; exact h

theorem callee_b (i : String) : ∃ v, AV.raw (.builtin i) = .raw v ∧ Callee c v := ⟨_, rfl, .inl ⟨i, rfl⟩⟩
theorem callee_t (i : String) : ∃ v, AV.raw (.type i) = .raw v ∧ Callee c v := ⟨_, rfl, .inr (.inl ⟨i, rfl⟩)⟩

theorem look_append {l : Addr} {xs : List AV} {Q : AV → List AV → Prop} (e : σ l = some (.list xs)) (h : Q (.raw (.builtin "list.append")) [.ref l]) : LookOK c d (.ref l) "append" σ Q := look_list PySem.F.slot_list_append (ty_method (by kernel_rfl)) e h
theorem look_extend {l : Addr} {xs : List AV} {Q : AV → List AV → Prop} (e : σ l = some (.list xs)) (h : Q (.raw (.builtin "list.extend")) [.ref l]) : LookOK c d (.ref l) "extend" σ Q := look_list PySem.F.slot_list_extend (ty_method (by kernel_rfl)) e h
theorem look_pop {l : Addr} {xs : List AV} {Q : AV → List AV → Prop} (e : σ l = some (.list xs)) (h : Q (.raw (.builtin "list.pop")) [.ref l]) : LookOK c d (.ref l) "pop" σ Q := look_list PySem.F.slot_list_pop (ty_method (by kernel_rfl)) e h
theorem look_index {l : Addr} {xs : List AV} {Q : AV → List AV → Prop} (e : σ l = some (.list xs)) (h : Q (.raw (.builtin "list.index")) [.ref l]) : LookOK c d (.ref l) "index" σ Q := look_list PySem.F.slot_list_index (ty_method (by kernel_rfl)) e h
theorem look_count {l : Addr} {xs : List AV} {Q : AV → List AV → Prop} (e : σ l = some (.list xs)) (h : Q (.raw (.builtin "list.count")) [.ref l]) : LookOK c d (.ref l) "count" σ Q := look_list PySem.F.slot_list_count (ty_method (by kernel_rfl)) e h

theorem call_append {l : Addr} {xs : List AV} {x : AV} (e : σ l = some (.list xs)) (hz : Fits xs.length) (h : Q .none (σ.set l (.list (xs ++ [x])))) : CallOK c d (.raw (.builtin "list.append")) [.ref l, x] σ Q X := by
  intro A Fz s vs hr hb hbs S r
  obtain ⟨f, lv, xv, rfl, rf, rl, rx⟩ := r.three_inv
  have h1 : f = .builtin "list.append" := by cases rf; rfl
  have h2 : lv = .ref l := by cases rl; rfl
  subst h1; subst h2
  obtain ⟨its, n, hl, ri⟩ := list_at S e
  have hsz : its.size ≤ sizeLine := by rw [list_size ri]; exact hz.le
  show wpAny c.M A (call (.builtin "list.append") [.ref l, xv]) _ _ s
  refine call_meets PySem.F.slot_list_append hl.isList.typeIs PySem.F.entry_list_append (PySem.F.args_list_append_2 _ _) (list_append l its n xv hsz) ⟨hl, ?_⟩
  obtain ⟨S', g⟩ := list_upd (ys := xs ++ [x]) S e hl (fun a => a.push xv) (by rw [Array.toList_push]; exact ri.append (.one rx))
  exact ⟨.none, _, S', ⟨g, rfl, rfl⟩, .none, h⟩

theorem call_extend {l b : Addr} {xs ys : List AV} (e : σ l = some (.list xs)) (eb : σ b = some (.list ys)) (hz : Fits (xs.length + ys.length)) (h : Q .none (σ.set l (.list (xs ++ ys)))) : CallOK c d (.raw (.builtin "list.extend")) [.ref l, .ref b] σ Q X := by
  intro A Fz s vs hr hb hbs S r
  obtain ⟨f, lv, xv, rfl, rf, rl, rx⟩ := r.three_inv
  have h1 : f = .builtin "list.extend" := by cases rf; rfl
  have h2 : lv = .ref l := by cases rl; rfl
  have h3 : xv = .ref b := by cases rx; rfl
  subst h1; subst h2; subst h3
  obtain ⟨its, n, hl, ri⟩ := list_at S e
  obtain ⟨its2, n2, hl2, ri2⟩ := list_at S eb
  have hsz : its.size + its2.size ≤ sizeLine := by rw [list_size ri, list_size ri2]; exact hz.le
  show wpAny c.M A (call (.builtin "list.extend") [.ref l, .ref b]) _ _ s
  refine call_meets PySem.F.slot_list_extend hl.isList.typeIs PySem.F.entry_list_extend (PySem.F.args_list_extend_2 _ _) (AutoSeq1.list_extend_list_list_0 l its n b its2 n2 ?_ (by omega) (by omega)) ⟨hl, hl2, ?_⟩
  · have : Builtin.List.listTooLong (its.size + its2.size) = false := by unfold Builtin.List.listTooLong; exact decide_eq_false (by omega)
    rw [this]; simp
  · obtain ⟨S', g⟩ := list_upd (ys := xs ++ ys) S e hl (fun a => a ++ its2) (by rw [Array.toList_append]; exact ri.append ri2)
    exact ⟨.none, _, S', ⟨g, rfl, rfl⟩, .none, h⟩

theorem call_pop {l : Addr} {xs : List AV} {x : AV} (e : σ l = some (.list (xs ++ [x]))) (hz : Fits xs.length) (h : Q x (σ.set l (.list xs))) : CallOK c d (.raw (.builtin "list.pop")) [.ref l] σ Q X := by
  intro A Fz s vs hr hb hbs S r
  obtain ⟨f, lv, rfl, rf, rl⟩ := r.two_inv
  have h1 : f = .builtin "list.pop" := by cases rf; rfl
  have h2 : lv = .ref l := by cases rl; rfl
  subst h1; subst h2
  obtain ⟨its, n, hl, ri⟩ := list_at S e
  have hs := list_size ri
  simp only [List.length_append, List.length_cons, List.length_nil] at hs
  have hsz : its.size ≤ sizeLine := by rw [hs, sizeLine_eq]; unfold Fits at hz; omega
  have hg := ri.get (its.size - 1)
  have e1 : (xs ++ [x])[its.size - 1]? = some x := by rw [hs]; simp
  rw [e1] at hg
  cases q : its.toList[its.size - 1]? with
  | none => rw [q] at hg; cases hg
  | some y =>
    rw [q] at hg
    show wpAny c.M A (call (.builtin "list.pop") [.ref l]) _ _ s
    refine call_meets PySem.F.slot_list_pop hl.isList.typeIs PySem.F.entry_list_pop (PySem.F.args_list_pop_1 _) (MeetsSeq.list_pop_last l its n y (by simpa using q) hsz) ⟨hl, ?_⟩
    obtain ⟨S', g⟩ := list_upd (ys := xs) S e hl (fun a => a.eraseIdxIfInBounds (its.size - 1)) (by
      have h3 : (its.eraseIdxIfInBounds (its.size - 1)).toList = its.toList.take xs.length := by
        rw [Array.toList_eraseIdxIfInBounds, hs, show xs.length + (0 + 1) - 1 = xs.length by omega, List.eraseIdx_eq_take_drop_succ, List.drop_of_length_le (by rw [Array.length_toList, hs]; omega), List.append_nil]
      rw [h3]
      have := ri.take xs.length
      rwa [List.take_left] at this)
    exact ⟨x, _, S', ⟨g, rfl, rfl⟩, hg.grow g, h⟩

theorem seqIdx_iff {i : Int} {n j : Nat} : seqIndex? i n = some j ↔ (0 ≤ (if i < 0 then i + n else i) ∧ (if i < 0 then i + n else i) < n) ∧ (if i < 0 then i + n else i).toNat = j := by
  show (if (decide (0 ≤ (if i < 0 then i + n else i)) && decide ((if i < 0 then i + n else i) < n)) = true then some (if i < 0 then i + n else i).toNat else none) = some j ↔ _
  by_cases hh : (decide (0 ≤ (if i < 0 then i + n else i)) && decide ((if i < 0 then i + n else i) < n)) = true
  · rw [if_pos hh]
    simp only [Bool.and_eq_true, decide_eq_true_eq] at hh
    simp [hh]
  · rw [if_neg hh]
    simp only [Bool.and_eq_true, decide_eq_true_eq] at hh
    simp [hh]
theorem seqIdx_some {i : Int} {n j : Nat} (h : seqIndex? i n = some j) : j < n := by
  obtain ⟨⟨h1, h2⟩, h3⟩ := seqIdx_iff.mp h
  omega
theorem seqIdx_nat {i n : Nat} (h : i < n) : seqIndex? (i : Int) n = some i := by
  rw [seqIdx_iff]
  have : ¬ (i : Int) < 0 := by omega
  simp only [this, if_false]
  omega

theorem fits_index {i : Int} (h : -(100000 : Int) ≤ i ∧ i ≤ 100000) : Builtin.List.listFitsIndex i = true := by
  unfold Builtin.List.listFitsIndex
  simp only [Bool.and_eq_true, decide_eq_true_eq]
  omega

theorem call_pop_at {l : Addr} {xs : List AV} {x : AV} {i : Int} {k : Nat} (e : σ l = some (.list xs)) (hz : Fits xs.length) (hi : seqIndex? i xs.length = some k) (hx : xs[k]? = some x) (hf : -(100000 : Int) ≤ i ∧ i ≤ 100000) (h : Q x (σ.set l (.list (xs.eraseIdx k)))) :
    CallOK c d (.raw (.builtin "list.pop")) [.ref l, .int i] σ Q X := by
  intro A Fz s vs hr hb hbs S r
  obtain ⟨f, lv, iv, rfl, rf, rl, rx⟩ := r.three_inv
  have h1 : f = .builtin "list.pop" := by cases rf; rfl
  have h2 : lv = .ref l := by cases rl; rfl
  subst h1; subst h2
  cases rx with | int _ t => ?_
  obtain ⟨its, n, hl, ri⟩ := list_at S e
  have hs := list_size ri
  have hg := ri.get k
  rw [hx] at hg
  cases q : its.toList[k]? with
  | none => rw [q] at hg; cases hg
  | some y =>
    rw [q] at hg
    show wpAny c.M A (call (.builtin "list.pop") [.ref l, .int i t]) _ _ s
    refine call_meets PySem.F.slot_list_pop hl.isList.typeIs PySem.F.entry_list_pop (PySem.F.args_list_pop_2 _ _) (MeetsSeq.list_pop_at l its n i t k y (fits_index hf) (by rw [hs]; exact hi) (by simpa using q) (by rw [hs]; exact hz.le)) ⟨hl, ?_⟩
    obtain ⟨S', g⟩ := list_upd (ys := xs.eraseIdx k) S e hl (fun a => a.eraseIdxIfInBounds k) (by
      rw [Array.toList_eraseIdxIfInBounds, List.eraseIdx_eq_take_drop_succ, List.eraseIdx_eq_take_drop_succ]
      exact (ri.take k).append (ri.drop (k + 1)))
    exact ⟨x, _, S', ⟨g, rfl, rfl⟩, hg.grow g, h⟩

theorem sub_list {l : Addr} {xs : List AV} {x : AV} {i : Int} {k : Nat} (e : σ l = some (.list xs)) (hz : Fits xs.length) (hi : seqIndex? i xs.length = some k) (hx : xs[k]? = some x) (hf : -(100000 : Int) ≤ i ∧ i ≤ 100000) (h : Q x σ) : SubOK c d (.ref l) (.int i) σ Q X := by
  intro A Fz s vs hr hb hbs S r
  obtain ⟨lv, iv, rfl, rl, rx⟩ := r.two_inv
  have h2 : lv = .ref l := by cases rl; rfl
  subst h2
  cases rx with | int _ t => ?_
  obtain ⟨its, n, hl, ri⟩ := list_at S e
  have hs := list_size ri
  have hg := ri.get k
  rw [hx] at hg
  cases q : its.toList[k]? with
  | none => rw [q] at hg; cases hg
  | some y =>
    rw [q] at hg
    show wpAny c.M A (subT (.ref l) (.int i t)) _ _ s
    refine sub_of hl.isList.typeIs (by simp) slot_list_getitem.lookup ?_
    have post : OPost c Fz s Q y s := ⟨x, σ, S, ⟨Grow.refl _, rfl, rfl⟩, hg, h⟩
    obtain ⟨⟨h1, h2⟩, h3⟩ := seqIdx_iff.mp hi
    by_cases h0 : i < 0
    · simp only [h0, if_true] at h1 h2 h3
      exact wpAny_getItem_list_neg hl.isList h0 (by rw [hs]; omega) (by omega) (by rw [hs, h3]; simpa using q) post
    · simp only [h0, if_false] at h1 h2 h3
      exact wpAny_getItem_list hl.isList (by omega) (by omega) (by rw [h3]; simpa using q) post

theorem set_list {l : Addr} {xs : List AV} {x : AV} {i : Int} {Q : AHeap → Prop} (e : σ l = some (.list xs)) (hz : Fits xs.length) (h0 : 0 ≤ i) (hi : i < xs.length) (h : Q (σ.set l (.list (xs.set i.toNat x)))) : SetItemOK c d (.ref l) (.int i) x σ Q X := by
  intro A Fz s ov iv vv hr hb hbs S ro rx rv
  have h2 : ov = .ref l := by cases ro; rfl
  subst h2
  cases rx with | int _ t => ?_
  obtain ⟨its, n, hl, ri⟩ := list_at S e
  have hs := list_size ri
  unfold Fits at hz
  unfold setItem
  try with_reducible refine wpAny_holding ?_
  first | refine wpAny_bind (wpAny_pure ?_) | skip
  refine wpAny_bind (wpAny_sequenceKey hl.isList.typeIs (by decide) ?_)
  refine wpAny_bind (wpAny_callSpecial?_slot (name := Str.ofString "__setitem__") hl.isList.typeIs slot_list_setitem ?_)
  refine wpAny_call_entry slot_list_setitem hl.isList.typeIs entry_list_setitem ?_ (args_list_setitem _ _ _)
  show wpAny _ _ (Builtin.List.listSubscript? (.int i t) >>= _) _ _ s
  refine wpAny_bind (wpAny_listSubscript_int (fits_index (by omega)) ?_)
  obtain ⟨j, rfl⟩ := Int.eq_ofNat_of_zero_le h0
  have hj : j < its.size := by omega
  obtain ⟨S', g⟩ := list_upd (ys := xs.set j x) S e hl (fun a => a.setIfInBounds j vv) (by rw [Array.toList_setIfInBounds]; exact ri.set j rv)
  show wpAny _ _ ((seqItemAt l j >>= fun r => pure (r.map (j, ·))) >>= _) _ _ s
  refine wpAny_bind (wpAny_bind (wpAny_seqItemAt hl rfl (wpAny_pure ?_)))
  rw [Array.getElem?_eq_getElem hj]
  show wpAny _ _ (setSeqItemAt l j vv >>= _) _ _ s
  refine wpAny_bind (wpAny_setSeqItemAt hl rfl ?_)
  have fin : ∃ σ', St c.prog c.w Fz σ' (s.heap.update l (Obj.mapSeq fun a => a.setIfInBounds j vv)) ∧ GrowS s { s with heap := s.heap.update l (Obj.mapSeq fun a => a.setIfInBounds j vv) } ∧ Q σ' := ⟨_, S', ⟨g, rfl, rfl⟩, h⟩
  first
    | exact wpAny_bind (wpAny_pure (wpAny_pure ⟨.none, rfl, wpAny_pure fin⟩))
    | exact wpAny_pure ⟨.none, rfl, wpAny_pure fin⟩
end

-- Cx23
set_option Elab.async false
set_option linter.unusedVariables false
set_option linter.unusedSimpArgs false
set_option maxRecDepth 20000

/-! what a value is, all that it holds included -/
inductive DV where
  | none | bool (b : Bool) | int (i : Int) | str (x : String) | tup (l : List DV) | list (l : List DV)
mutual
inductive Den (σ : AHeap) : AV → DV → Prop
  | none : Den σ .none .none
  | int (i : Int) : Den σ (.int i) (.int i)
  | str (x : String) : Den σ (.str x) (.str x)
  | tup {l : List AV} {ds : List DV} : Dens σ l ds → Den σ (.tup l) (.tup ds)
  | list {a : Addr} {l : List AV} {ds : List DV} : σ a = some (.list l) → Dens σ l ds → Den σ (.ref a) (.list ds)
inductive Dens (σ : AHeap) : List AV → List DV → Prop
  | nil : Dens σ [] []
  | cons {a : AV} {b : DV} {l : List AV} {ds : List DV} : Den σ a b → Dens σ l ds → Dens σ (a :: l) (b :: ds)
end
mutual
def ddat : DV → PyData
  | .none => .none
  | .bool b => .bool b
  | .int i => .int i
  | .str x => .str (Str.ofString x)
  | .tup l => .tuple (ddats l)
  | .list l => .list (ddats l)
def ddats : List DV → List PyData
  | [] => []
  | a :: l => ddat a :: ddats l
end
mutual
def ddeep : DV → Nat
  | .tup l => ddeeps l + 1
  | .list l => ddeeps l + 1
  | _ => 0
def ddeeps : List DV → Nat
  | [] => 0
  | a :: l => max (ddeep a) (ddeeps l)
end
section
variable {c : Cx} {d : Nat} {σ : AHeap} {Q : AV → AHeap → Prop} {X : Addr → AHeap → Prop} {A : Around} {E : Value → Shared → Prop} {s : Shared} {Fz : Fzn}

mutual
theorem den_reads {h : Heap} (S : St c.prog c.w Fz σ h) : ∀ {a : AV} {D : DV} {v : Value}, Den σ a D → RV h v a → ∃ as, Reads h v (ddat D) as
  | _, _, _, .none, .none => ⟨_, .none⟩
  | _, _, _, .int _, .int _ _ => ⟨_, .int _ _⟩
  | _, _, _, .str _, .str _ _ _ rfl => ⟨_, .str _ _⟩
  | _, _, _, .tup k, x => by
    cases x with | tup a items _ t r => ?_
    obtain ⟨o, ho, hc, m, hd⟩ := t.tup
    obtain ⟨as, ha⟩ := dens_reads S k r
    exact ⟨_, .tuple ho hc hd ha⟩
  | _, _, _, .list e k, x => by
    cases x with | ref a => ?_
    obtain ⟨its, n, hl, r⟩ := list_at S e
    obtain ⟨as, ha⟩ := dens_reads S k r
    exact ⟨_, .list hl rfl rfl ha⟩
theorem dens_reads {h : Heap} (S : St c.prog c.w Fz σ h) : ∀ {l : List AV} {D : List DV} {vs : List Value}, Dens σ l D → RVs h vs l → ∃ as, ReadsAll h vs (ddats D) as
  | _, _, _, .nil, .nil => ⟨_, .nil⟩
  | _, _, _, .cons k ks, .cons x r => by
    obtain ⟨as, ha⟩ := den_reads S k x
    obtain ⟨bs, hb⟩ := dens_reads S ks r
    exact ⟨_, .cons ha hb⟩
end
mutual
theorem den_lay : ∀ {a : AV} {D : DV}, Den σ a D → (ddat D).canLay0 = true
  | _, _, .none => by simp [ddat, PyData.canLay0]
  | _, _, .int _ => by simp [ddat, PyData.canLay0]
  | _, _, .str x => by simpa [ddat, PyData.canLay0] using strOk_ofString x
  | _, _, .tup k => by simpa [ddat, PyData.canLay0] using dens_lay k
  | _, _, .list _ k => by simpa [ddat, PyData.canLay0] using dens_lay k
theorem dens_lay : ∀ {l : List AV} {D : List DV}, Dens σ l D → PyData.canLayAll0 (ddats D) = true
  | _, _, .nil => rfl
  | _, _, .cons k ks => by simp [ddats, PyData.canLayAll0, den_lay k, dens_lay ks]
end
mutual
theorem ddat_depth : ∀ (D : DV), (ddat D).depth = ddeep D
  | .none => by simp [ddat, PyData.depth, ddeep]
  | .bool _ => by simp [ddat, PyData.depth, ddeep]
  | .int _ => by simp [ddat, PyData.depth, ddeep]
  | .str _ => by simp [ddat, PyData.depth, ddeep]
  | .tup l => by simp [ddat, PyData.depth, ddeep, ddats_depth l]; try omega
  | .list l => by simp [ddat, PyData.depth, ddeep, ddats_depth l]; try omega
theorem ddats_depth : ∀ (l : List DV), PyData.depthAll (ddats l) = ddeeps l
  | [] => rfl
  | a :: l => by simp [ddats, PyData.depthAll, ddeeps, ddat_depth a, ddats_depth l]
end
open Classical in
mutual
theorem den_eqv {σ' : AHeap} : ∀ {a b : AV} {D D' : DV}, Den σ a D → Den σ' b D' → (ddat D).eqv (ddat D') = decide (D = D')
  | _, _, _, _, .none, .none => by simp [ddat, PyData.eqv]
  | _, _, _, _, .none, .int _ => by simp [ddat, PyData.eqv]
  | _, _, _, _, .none, .str _ => by simp [ddat, PyData.eqv]
  | _, _, _, _, .none, .tup _ => by simp [ddat, PyData.eqv]
  | _, _, _, _, .none, .list _ _ => by simp [ddat, PyData.eqv]
  | _, _, _, _, .int _, .none => by simp [ddat, PyData.eqv]
  | _, _, _, _, .int i, .int j => by simp [ddat, PyData.eqv]; rfl
  | _, _, _, _, .int _, .str _ => by simp [ddat, PyData.eqv]
  | _, _, _, _, .int _, .tup _ => by simp [ddat, PyData.eqv]
  | _, _, _, _, .int _, .list _ _ => by simp [ddat, PyData.eqv]
  | _, _, _, _, .str _, .none => by simp [ddat, PyData.eqv]
  | _, _, _, _, .str _, .int _ => by simp [ddat, PyData.eqv]
  | _, _, _, _, .str a, .str b => by
    simp only [ddat, PyData.eqv, DV.str.injEq]
    by_cases h : a = b
    · subst h; simp
    · have : ¬ Str.ofString a = Str.ofString b := fun e => h (ofString_inj e)
      simp [h, this]
  | _, _, _, _, .str _, .tup _ => by simp [ddat, PyData.eqv]
  | _, _, _, _, .str _, .list _ _ => by simp [ddat, PyData.eqv]
  | _, _, _, _, .tup _, .none => by simp [ddat, PyData.eqv]
  | _, _, _, _, .tup _, .int _ => by simp [ddat, PyData.eqv]
  | _, _, _, _, .tup _, .str _ => by simp [ddat, PyData.eqv]
  | _, _, _, _, .tup k, .tup k' => by simp [ddat, PyData.eqv, dens_eqv k k']
  | _, _, _, _, .tup _, .list _ _ => by simp [ddat, PyData.eqv]
  | _, _, _, _, .list _ _, .none => by simp [ddat, PyData.eqv]
  | _, _, _, _, .list _ _, .int _ => by simp [ddat, PyData.eqv]
  | _, _, _, _, .list _ _, .str _ => by simp [ddat, PyData.eqv]
  | _, _, _, _, .list _ _, .tup _ => by simp [ddat, PyData.eqv]
  | _, _, _, _, .list _ k, .list _ k' => by simp [ddat, PyData.eqv, dens_eqv k k']
theorem dens_eqv {σ' : AHeap} : ∀ {a b : List AV} {D D' : List DV}, Dens σ a D → Dens σ' b D' → PyData.eqvAll (ddats D) (ddats D') = decide (D = D')
  | _, _, _, _, .nil, .nil => by simp [ddats, PyData.eqvAll]
  | _, _, _, _, .nil, .cons _ _ => by simp [ddats, PyData.eqvAll]
  | _, _, _, _, .cons _ _, .nil => by simp [ddats, PyData.eqvAll]
  | _, _, _, _, .cons k ks, .cons k' ks' => by simp [ddats, PyData.eqvAll, den_eqv k k', dens_eqv ks ks']
end

open Classical in
theorem cmp_eq_data {x y : AV} {D D' : DV} (hx : Den σ x D) (hy : Den σ y D') (hd : ddeep D ≤ 100) (h : Q (.bool (decide (D = D'))) σ) : CmpOK c d .Eq x y σ Q X := by
  intro A Fz s vs hr hb hbs S r
  obtain ⟨v, u, rfl, rv, ru⟩ := r.two_inv
  obtain ⟨as, ha⟩ := den_reads S hx rv
  obtain ⟨bs, hb'⟩ := den_reads S hy ru
  refine SeqAt.compareEq_reads ha hb' (den_lay hx) (den_lay hy) ?_ ?_
  · rw [ddat_depth, ddat_depth]; have := hr.un; have : min (ddeep D) (ddeep D') ≤ 100 := by omega
    omega
  · rw [den_eqv hx hy]; exact ⟨_, σ, S, ⟨Grow.refl _, rfl, rfl⟩, .bool _, h⟩
open Classical in
theorem cmp_ne_data {x y : AV} {D D' : DV} (hx : Den σ x D) (hy : Den σ y D') (hd : ddeep D ≤ 100) (h : Q (.bool (decide (D ≠ D'))) σ) : CmpOK c d .NotEq x y σ Q X := by
  intro A Fz s vs hr hb hbs S r
  obtain ⟨v, u, rfl, rv, ru⟩ := r.two_inv
  obtain ⟨as, ha⟩ := den_reads S hx rv
  obtain ⟨bs, hb'⟩ := den_reads S hy ru
  refine SeqAt.compareNe_reads ha hb' (den_lay hx) (den_lay hy) ?_ ?_
  · rw [ddat_depth, ddat_depth]; have := hr.un; have : min (ddeep D) (ddeep D') ≤ 100 := by omega
    omega
  · rw [den_eqv hx hy]
    have : (!decide (D = D')) = decide (D ≠ D') := by by_cases e : D = D' <;> simp [e]
    rw [this]
    exact ⟨_, σ, S, ⟨Grow.refl _, rfl, rfl⟩, .bool _, h⟩

theorem Dens.ints {σ : AHeap} : ∀ (l : List Int), Dens σ (l.map .int) (l.map .int)
  | [] => .nil
  | _ :: l => .cons (.int _) (Dens.ints l)
theorem Dens.append {σ : AHeap} : ∀ {l m : List AV} {ds es : List DV}, Dens σ l ds → Dens σ m es → Dens σ (l ++ m) (ds ++ es)
  | _, _, _, _, .nil, y => y
  | _, _, _, _, .cons x r, y => .cons x (r.append y)

/-! lists, more -/
theorem call_len_list {l : Addr} {xs : List AV} (e : σ l = some (.list xs)) (hz : Fits xs.length) (h : Q (.int xs.length) σ) : CallOK c d (.raw (.builtin "len")) [.ref l] σ Q X := by
  intro A Fz s vs hr hb hbs S r
  obtain ⟨f, lv, rfl, rf, rl⟩ := r.two_inv
  have h1 : f = .builtin "len" := by cases rf; rfl
  have h2 : lv = .ref l := by cases rl; rfl
  subst h1; subst h2
  obtain ⟨its, n, hl, ri⟩ := list_at S e
  show wpAny c.M A (call (.builtin "len") [.ref l]) _ _ s
  refine PyProof.Rows.len_list hl.isList (by rw [list_size ri]; exact hz.small) ?_
  rw [list_size ri]
  exact ⟨_, σ, S, ⟨Grow.refl _, rfl, rfl⟩, .int _ _, h⟩

theorem bin_add_list {a b : Addr} {xs ys : List AV} (e : σ a = some (.list xs)) (eb : σ b = some (.list ys)) (hz : Fits (xs.length + ys.length)) (h : ∀ l, σ l = none → Q (.ref l) (σ.set l (.list (xs ++ ys)))) : BinOK c d .Add (.ref a) (.ref b) σ Q X := by
  intro A Fz s vs hr hb hbs S r
  obtain ⟨v, u, rfl, rv, ru⟩ := r.two_inv
  have h1 : v = .ref a := by cases rv; rfl
  have h2 : u = .ref b := by cases ru; rfl
  subst h1; subst h2
  obtain ⟨its, n, hl, ri⟩ := list_at S e
  obtain ⟨its2, n2, hl2, ri2⟩ := list_at S eb
  refine P.add_list hl hl2 ?_ (by rw [list_size ri, list_size ri2]; exact hz.le)
  obtain ⟨S', g, hn⟩ := list_new (ys := xs ++ ys) (its := its ++ its2) S (by rw [Array.toList_append]; exact ri.append ri2)
  exact ⟨_, _, S', ⟨g, rfl, rfl⟩, .ref _, h _ hn⟩

/-! slices -/
def clipAt (n : Nat) (i : Int) : Nat := min (if i < 0 then i + n else i).toNat n
def loOf (n : Nat) : AV → Nat
  | .int i => clipAt n i
  | _ => 0
def hiOf (n : Nat) : AV → Nat
  | .int i => clipAt n i
  | _ => n
def slcOf {α : Type} (xs : List α) (lo hi : AV) : List α := (xs.take (hiOf xs.length hi)).drop (loOf xs.length lo)
def partOf : AV → Option Int
  | .int i => some i
  | _ => none
def isPart : AV → Bool
  | .int _ => true
  | .none => true
  | _ => false
theorem part_of {h : Heap} {v : Value} {a : AV} (r : RV h v a) (hp : isPart a = true) : IsPart v (partOf a) := by
  cases r <;> first | exact .none | exact .int _ _ | cases hp

theorem pick_from_to {α : Type} (xs : List α) (a : Nat) : ∀ n, (List.range n).filterMap (fun k => xs[a + k]?) = (xs.drop a).take n
  | 0 => by simp
  | n + 1 => by
    rw [List.range_succ, List.filterMap_append, pick_from_to xs a n, List.take_add_one, List.getElem?_drop]
    congr 1
    try (cases h : xs[a + n]? <;> simp [h])

theorem slice_pick {its : Array Value} {lo hi : AV} (hl : isPart lo = true) (hh : isPart hi = true) : (slicePick its (partOf lo) (partOf hi) none).toList = slcOf its.toList lo hi := by
  have key : ∀ (n : Nat) (o : AV) (df : Nat), isPart o = true → df ≤ n → (match partOf o with
      | none => (df : Int)
      | some i => max 0 (min (if i < 0 then i + n else i) n)) = ((match o with | .int i => clipAt n i | _ => df : Nat) : Int) := by
    intro n o df ho hd
    cases o <;> first | (cases ho; done) | rfl | skip
    rename_i i
    show max 0 (min (if i < 0 then i + n else i) n) = ((clipAt n i : Nat) : Int)
    unfold clipAt
    split <;> omega
  have e1 : (sliceBounds (partOf lo) (partOf hi) none its.size).1 = (loOf its.toList.length lo : Int) := by
    have := key its.size lo 0 hl (by omega)
    unfold sliceBounds
    simp only [Option.getD_none]
    cases lo <;> first | (cases hl; done) | (simp only [partOf] at this ⊢; simp; rfl) | (simpa [partOf, loOf] using this)
  have e2 : (sliceBounds (partOf lo) (partOf hi) none its.size).2.1 = (hiOf its.toList.length hi : Int) := by
    have := key its.size hi its.size hh (Nat.le_refl _)
    unfold sliceBounds
    simp only [Option.getD_none]
    cases hi <;> first | (cases hh; done) | (simp only [partOf] at this ⊢; simp [hiOf]; done) | (simpa [partOf, hiOf] using this)
  have e3 : (sliceBounds (partOf lo) (partOf hi) none its.size).2.2 = 1 := rfl
  unfold slicePick
  rw [e1, e2, e3]
  unfold sliceRange slcOf
  have hn : (if (loOf its.toList.length lo : Int) < (hiOf its.toList.length hi : Int) then ((hiOf its.toList.length hi : Int) - loOf its.toList.length lo + 1 - 1) / 1 else 0 : Int).toNat = hiOf its.toList.length hi - loOf its.toList.length lo := by
    split <;> omega
  simp only [show (1 : Int) > 0 by omega, if_true, hn]
  rw [List.filterMap_map]
  have e4 : ((fun x => its[x]?) ∘ fun (k : Nat) => ((loOf its.toList.length lo : Int) + 1 * (k : Int)).toNat) = fun k => its.toList[loOf its.toList.length lo + k]? := by
    funext k
    have : ((loOf its.toList.length lo : Int) + 1 * (k : Int)).toNat = loOf its.toList.length lo + k := by omega
    simp only [Function.comp, this]
    simp
  rw [e4, pick_from_to, List.take_drop]
  by_cases hab : loOf its.toList.length lo ≤ hiOf its.toList.length hi
  · rw [show loOf its.toList.length lo + (hiOf its.toList.length hi - loOf its.toList.length lo) = hiOf its.toList.length hi by omega]
  · rw [List.drop_of_length_le (by rw [List.length_take]; omega), List.drop_of_length_le (by rw [List.length_take]; omega)]
end

-- Cx24
set_option Elab.async false
set_option linter.unusedVariables false
set_option linter.unusedSimpArgs false
set_option maxRecDepth 20000

section
variable {c : Cx} {d : Nat} {σ : AHeap} {Q : AV → AHeap → Prop} {X : Addr → AHeap → Prop} {A : Around} {E : Value → Shared → Prop} {s : Shared} {Fz : Fzn}

theorem RVs.ofSlc {h : Heap} {its : Array Value} {xs : List AV} (r : RVs h its.toList xs) (lo hi : AV) : RVs h (slcOf its.toList lo hi) (slcOf xs lo hi) := by
  unfold slcOf
  rw [show its.toList.length = xs.length from r.length]
  exact (r.take _).drop _

theorem sub_slc_list {l : Addr} {xs : List AV} {lo hi : AV} (e : σ l = some (.list xs)) (hl : isPart lo = true) (hh : isPart hi = true) (hz : Fits xs.length) (h : ∀ m, σ m = none → Q (.ref m) (σ.set m (.list (slcOf xs lo hi)))) : SubOK c d (.ref l) (.slice lo hi .none) σ Q X := by
  intro A Fz s vs hr hb hbs S r
  obtain ⟨lv, iv, rfl, rl, rx⟩ := r.two_inv
  have h2 : lv = .ref l := by cases rl; rfl
  subst h2
  cases rx with | slice sa lov hiv stv _ _ _ he rlo rhi rst => ?_
  cases rst
  obtain ⟨its, n, hl', ri⟩ := list_at S e
  show wpAny c.M A (subT (.ref l) (.ref sa)) _ _ s
  refine sub_of hl'.isList.typeIs (by simp) slot_list_getitem.lookup ?_
  refine wpAny_getItem_list_slice (st := none) hl'.isList ⟨_, he, rfl, rfl⟩ (part_of rlo hl) (part_of rhi hh) .none (by simp) ?_ (by rw [list_size ri]; exact hz.le)
  obtain ⟨S', g, hn⟩ := list_new (its := slicePick its (partOf lo) (partOf hi) none) (ys := slcOf xs lo hi) S (by rw [slice_pick hl hh]; exact ri.ofSlc lo hi)
  exact ⟨_, _, S', ⟨g, rfl, rfl⟩, .ref _, h _ hn⟩

theorem tup_at {h : Heap} {v : Value} {xs : List AV} (r : RV h v (.tup xs)) : ∃ t its n, v = .ref t ∧ IsT h t its n ∧ RVs h its.toList xs := by
  cases r with | tup a its _ t r => ?_
  obtain ⟨n, e⟩ := t
  exact ⟨a, its, n, rfl, e, r⟩

theorem tup_new {h : Heap} {ys : List AV} {its : Array Value} (S : St c.prog c.w Fz σ h) (r : RVs h its.toList ys) :
    St c.prog c.w Fz σ (h.push { cls := .type "tuple", data := .seq its }) ∧ Grow h (h.push { cls := .type "tuple", data := .seq its }) ∧ RV (h.push { cls := .type "tuple", data := .seq its }) (.ref h.objs.size) (.tup ys) :=
  ⟨S.push _, grow_keeps (keeps_push h _), .tup _ its ys ⟨0, Heap.get?_push_size _ rfl⟩ (r.grow (grow_keeps (keeps_push h _)))⟩

theorem sub_tup {xs : List AV} {x : AV} {i : Int} {k : Nat} (hi : seqIndex? i xs.length = some k) (hx : xs[k]? = some x) (hf : -(100000 : Int) ≤ i ∧ i ≤ 100000) (h : Q x σ) : SubOK c d (.tup xs) (.int i) σ Q X := by
  intro A Fz s vs hr hb hbs S r
  obtain ⟨lv, iv, rfl, rl, rx⟩ := r.two_inv
  obtain ⟨t, its, n, rfl, ht, ri⟩ := tup_at rl
  cases rx with | int _ tk => ?_
  have hs := list_size ri
  have hg := ri.get k
  rw [hx] at hg
  cases q : its.toList[k]? with
  | none => rw [q] at hg; cases hg
  | some y =>
    rw [q] at hg
    show wpAny c.M A (subT (.ref t) (.int i tk)) _ _ s
    refine sub_of (T := "tuple") ⟨_, ht, rfl⟩ (by simp) slot_tuple_getitem.lookup ?_
    exact P.getItem_tuple ht (by omega) (by omega) (by rw [hs]; exact hi) (by simpa using q) ⟨x, σ, S, ⟨Grow.refl _, rfl, rfl⟩, hg, h⟩

theorem sub_tup_from {xs : List AV} {x : AV} (hz : Fits xs.length) (h : Q (.tup xs) σ) : SubOK c d (.tup (x :: xs)) (.slice (.int 1) .none .none) σ Q X := by
  intro A Fz s vs hr hb hbs S r
  obtain ⟨lv, iv, rfl, rl, rx⟩ := r.two_inv
  obtain ⟨t, its, n, rfl, ht, ri⟩ := tup_at rl
  cases rx with | slice sa lov hiv stv _ _ _ he rlo rhi rst => ?_
  cases rst
  cases rlo with | int _ tk => ?_
  cases rhi
  have hs := list_size ri
  simp only [List.length_cons] at hs
  show wpAny c.M A (subT (.ref t) (.ref sa)) _ _ s
  refine sub_of (T := "tuple") ⟨_, ht, rfl⟩ (by simp) slot_tuple_getitem.lookup ?_
  refine getItem_tuple_from (a := 1) ⟨_, ht, rfl, n, rfl⟩ ⟨_, he, rfl, rfl⟩ (Nat.le_refl _) (by omega) ?_ (by rw [hs, sizeLine_eq]; unfold Fits at hz; omega)
  obtain ⟨S', g, rt⟩ := tup_new (its := (its.toList.drop 1).toArray) (ys := xs) S (by simpa using ri.drop 1)
  exact ⟨_, σ, S', ⟨g, rfl, rfl⟩, rt, h⟩

theorem call_len_tup {xs : List AV} (hz : Fits xs.length) (h : Q (.int xs.length) σ) : CallOK c d (.raw (.builtin "len")) [.tup xs] σ Q X := by
  intro A Fz s vs hr hb hbs S r
  obtain ⟨f, lv, rfl, rf, rl⟩ := r.two_inv
  have h1 : f = .builtin "len" := by cases rf; rfl
  subst h1
  obtain ⟨t, its, n, rfl, ht, ri⟩ := tup_at rl
  show wpAny c.M A (call (.builtin "len") [.ref t]) _ _ s
  refine PyProof.Rows.len_tuple ⟨_, ht, rfl, n, rfl⟩ (by rw [list_size ri]; exact hz.small) ?_
  rw [list_size ri]
  exact ⟨_, σ, S, ⟨Grow.refl _, rfl, rfl⟩, .int _ _, h⟩

theorem bin_add_tup {xs ys : List AV} (hz : Fits (xs.length + ys.length)) (h : Q (.tup (xs ++ ys)) σ) : BinOK c d .Add (.tup xs) (.tup ys) σ Q X := by
  intro A Fz s vs hr hb hbs S r
  obtain ⟨v, u, rfl, rv, ru⟩ := r.two_inv
  have rv0 := rv
  have ru0 := ru
  obtain ⟨t, its, n, rfl, ht, ri⟩ := tup_at rv
  obtain ⟨t2, its2, n2, rfl, ht2, ri2⟩ := tup_at ru
  show wpAny c.M A (binaryOp .Add (.ref t) (.ref t2)) _ _ s
  have s1 := list_size ri
  have s2 := list_size ri2
  by_cases h1 : its.isEmpty = true
  · have : xs = [] := List.length_eq_zero_iff.mp (by rw [← s1]; simpa using h1)
    subst this
    exact concat_meets ⟨_, ht, rfl⟩ ⟨_, ht2, rfl⟩ noFill_tuple_add seq_tuple_add F.slot_tuple_add F.entry_tuple_add (F.args_tuple_add_2 _ _) (AutoSeq1.tuple___add___tuple_tuple_0 t its n t2 its2 n2 h1) ⟨ht, ht2, ⟨_, σ, S, ⟨Grow.refl _, rfl, rfl⟩, ru0, h⟩⟩
  · by_cases h2 : its2.isEmpty = true
    · have : ys = [] := List.length_eq_zero_iff.mp (by rw [← s2]; simpa using h2)
      subst this
      rw [List.append_nil] at h
      exact concat_meets ⟨_, ht, rfl⟩ ⟨_, ht2, rfl⟩ noFill_tuple_add seq_tuple_add F.slot_tuple_add F.entry_tuple_add (F.args_tuple_add_2 _ _) (AutoSeq1.tuple___add___tuple_tuple_1 t its n t2 its2 n2 h1 h2) ⟨ht, ht2, ⟨_, σ, S, ⟨Grow.refl _, rfl, rfl⟩, rv0, h⟩⟩
    · refine P.add_tuple ht ht2 h1 h2 ?_ (by rw [s1, s2]; exact hz.le)
      obtain ⟨S', g, rt⟩ := tup_new (its := its ++ its2) (ys := xs ++ ys) S (by rw [Array.toList_append]; exact ri.append ri2)
      exact ⟨_, σ, S', ⟨g, rfl, rfl⟩, rt, h⟩

theorem call_tuple_l {l : Addr} {xs : List AV} (e : σ l = some (.list xs)) (hz : Fits xs.length) (h : Q (.tup xs) σ) : CallOK c d (.raw (.type "tuple")) [.ref l] σ Q X := by
  intro A Fz s vs hr hb hbs S r
  obtain ⟨f, lv, rfl, rf, rl⟩ := r.two_inv
  have h1 : f = .type "tuple" := by cases rf; rfl
  have h2 : lv = .ref l := by cases rl; rfl
  subst h1; subst h2
  obtain ⟨its, n, hl, ri⟩ := list_at S e
  show wpAny c.M A (call (.type "tuple") [.ref l]) _ _ s
  refine call_tuple_list hl.isList (fun h' hk => ?_) (by rw [list_size ri]; exact hz.le)
  have S1 := S.more (grow_keeps hk) hk
  obtain ⟨S', g, rt⟩ := tup_new (its := its) (ys := xs) S1 (ri.grow (grow_keeps hk))
  exact ⟨_, σ, S', ⟨(grow_keeps hk).trans g, rfl, rfl⟩, rt, h⟩

theorem call_tuple_t {xs : List AV} (h : Q (.tup xs) σ) : CallOK c d (.raw (.type "tuple")) [.tup xs] σ Q X := by
  intro A Fz s vs hr hb hbs S r
  obtain ⟨f, lv, rfl, rf, rl⟩ := r.two_inv
  have h1 : f = .type "tuple" := by cases rf; rfl
  subst h1
  have rl0 := rl
  obtain ⟨t, its, n, rfl, ht, ri⟩ := tup_at rl
  show wpAny c.M A (call (.type "tuple") [.ref t]) _ _ s
  exact call_tuple_same ⟨_, ht, rfl, n, rfl⟩ ⟨_, σ, S, ⟨Grow.refl _, rfl, rfl⟩, rl0, h⟩

/-! unpacking -/
theorem unpack_tup {xs : List AV} {n : Nat} {Q : List AV → Prop} (hn : xs.length = n) (h : Q xs) : UnpackOK c d (.tup xs) n σ Q := by
  intro A Fz s v E P hr hb hbs S r k
  obtain ⟨t, its, m, rfl, ht, ri⟩ := tup_at r
  have hs := list_size ri
  rw [← hn, ← hs]
  refine unpackItems_tuple hr.hn ⟨_, ht, rfl, m, rfl⟩ fun h' he => ?_
  have hk : ∀ b o, s.heap.get? b = some o → h'.get? b = some o := fun b o e => he b o (Nat.ne_of_lt (Heap.lt_size e)) e
  exact k _ xs _ (S.more (grow_keeps hk) hk) ⟨grow_keeps hk, rfl, rfl⟩ (ri.grow (grow_keeps hk)) hn h

theorem draw_it {it : Value} {ai : Addr → Prop} {P : List AV → Heap → Prop} {keep : AHeap → Prop} (I : ItSpec c d false it ai P (fun _ => P) keep) (hr : Room A d) (hbs : Bs c Fz) (hk : keep σ) (hf : ∀ a o, ai a → ¬ Fz a o) (hσ : ∀ a, ai a → σ a = none) : ∀ (n : Nat) (l : List AV) (s : Shared) (R : List Value → Shared → Prop),
    St c.prog c.w Fz σ s.heap → P l s.heap → n ≤ l.length → (∀ vs s', St c.prog c.w Fz σ s'.heap → GrowS s s' → RVs s'.heap vs (l.take n) → P (l.drop n) s'.heap → R vs s') → wpAny c.M A (draw it n) R E s
  | 0, l, s, R, S, hP, _, hR => by
    show wpAny _ _ (pure []) R E s
    exact wpAny_pure (hR [] s S (.refl _) (by simpa using RVs.nil) (by simpa using hP))
  | n + 1, [], s, R, S, hP, hn, hR => by simp at hn
  | n + 1, x :: l, s, R, S, hP, hn, hR => by
    show wpAny _ _ (pyNext it >>= _) R E s
    refine wpAny_bind (I.next A Fz σ (x :: l) s _ _ hr hbs S hk hf hσ hP fun r s₁ S₁ g₁ hr₁ => ?_)
    obtain ⟨v, rfl, rv, hP₁⟩ := hr₁
    refine wpAny_bind (wpAny_holding (draw_it I hr hbs hk hf hσ n l s₁ _ S₁ hP₁ (by simpa using hn) fun vs s₂ S₂ g₂ r₂ hP₂ => wpAny_pure ?_))
    exact hR _ s₂ S₂ (g₁.trans g₂) (.cons (rv.grow g₂.g) r₂) hP₂

/-- by its iterator -/
theorem unpack_it {a : AV} {n : Nat} {Q : List AV → Prop} (hni : ∀ A Fz s v E (P : Bool → Shared → Prop), Room A d → Base c → Bs c Fz → St c.prog c.w Fz σ s.heap → RV s.heap v a → P false s → wpAny c.M A (notIterableAtAll v) P E s)
    (h : IterOK c d a σ fun items keep => items.length = n ∧ keep σ ∧ Q items) : UnpackOK c d a n σ Q := by
  intro A Fz s v E P hr hb hbs S r k
  obtain ⟨items, keep, ⟨hn, hk, hq⟩, hit⟩ := h
  unfold unpackItems
  refine wpAny_bind (hni A Fz s v E _ hr hb hbs S r ?_)
  simp only [Bool.false_eq_true, if_false]
  refine wpAny_bind (wpAny_holding ?_)
  refine hit A Fz s v E _ hr hb hbs S r ?_
  intro it ai P' s₁ S₁ k₁ kk hai I hP
  have hf : ∀ a o, ai a → ¬ Fz a o := fun a o y q => hai a o y (S.fz _ _ q)
  have hσ : ∀ a, ai a → σ a = none := fun a y => S.freeσ (fun o => hai a o y)
  refine wpAny_bind (wpAny_holding (draw_it I hr hbs hk hf hσ n items s₁ _ S₁ hP (by omega) fun vs s₂ S₂ g₂ r₂ hP₂ => ?_))
  rw [List.take_of_length_le (by omega)] at r₂
  rw [List.drop_of_length_le (by omega)] at hP₂
  rw [if_neg (by rw [r₂.length]; omega)]
  refine wpAny_bind (wpAny_holding (I.next A Fz σ [] s₂ _ _ hr hbs S₂ hk hf hσ hP₂ fun r s₃ S₃ g₃ hr₃ => ?_))
  subst hr₃
  simp only [Option.isSome_none, Bool.false_eq_true, if_false]
  exact wpAny_pure (k vs items s₃ S₃ (((⟨grow_keeps k₁, kk⟩ : GrowS _ _).trans g₂).trans g₃) (r₂.grow g₃.g) hn hq)
end

-- Cx25
set_option Elab.async false
set_option linter.unusedVariables false
set_option linter.unusedSimpArgs false
set_option maxRecDepth 20000

section
variable {c : Cx} {d : Nat} {σ : AHeap} {Q : AV → AHeap → Prop} {X : Addr → AHeap → Prop} {A : Around} {E : Value → Shared → Prop} {s : Shared} {Fz : Fzn}

theorem get_none_of_drop {xs : List AV} {i : Nat} (hd : xs.drop i = []) : xs[i]? = none := by
  have := congrArg (fun l => l[0]?) hd
  simpa using this
theorem arr_none {h : Heap} {its : Array Value} {xs : List AV} (r : RVs h its.toList xs) {i : Nat} (hx : xs[i]? = none) : its[i]? = none := by
  have hg := r.get i
  rw [hx] at hg
  cases q : its.toList[i]? with
  | none => simpa using q
  | some v => rw [q] at hg; cases hg
theorem arr_some {h : Heap} {its : Array Value} {xs : List AV} (r : RVs h its.toList xs) {i : Nat} {x : AV} (hx : xs[i]? = some x) : ∃ v, its[i]? = some v ∧ RV h v x := by
  have hg := r.get i
  rw [hx] at hg
  cases q : its.toList[i]? with
  | none => rw [q] at hg; cases hg
  | some v => rw [q] at hg; exact ⟨v, by simpa using q, hg⟩

theorem iter_list {l : Addr} {xs : List AV} {Q : List AV → (AHeap → Prop) → Prop} (e : σ l = some (.list xs)) (h : Q xs (fun σ => σ l = some (.list xs))) : IterOK c d (.ref l) σ Q := by
  refine ⟨xs, _, h, ?_⟩
  intro A Fz s v E R hr hb hbs S r k
  have hv : v = .ref l := by cases r; rfl
  subst hv
  obtain ⟨its, n, hl, ri⟩ := list_at S e
  refine wpAny_pyIter_list hl.isList ?_
  refine k (.ref s.heap.objs.size) (fun a => a = s.heap.objs.size) _ _ (S.push _) (keeps_push s.heap _) ⟨rfl, rfl⟩ (by rintro a o rfl; exact not_there _ _) it_list ⟨0, ⟨_, Heap.get?_push_size _ rfl, rfl, rfl⟩, by simp⟩

theorem tupIter_notLasting {h : Heap} {a t : Addr} {i : Nat} {o : Obj} (x : h.IsTupleIter a t i) (e : h.get? a = some o) : ¬ Lasting o := by
  obtain ⟨o', e', hc, hd⟩ := x
  rw [e] at e'; cases e'
  rintro (⟨h1, _⟩ | ⟨h1 | h1, _⟩) <;> (rw [hc] at h1; injection h1 with h1; exact absurd h1 (by decide))

theorem it_tup {t it : Addr} {xs : List AV} : ItSpec c d false (.ref it) (fun a => a = it) (fun rest h => ∃ i, h.IsTupleIter it t i ∧ RV h (.ref t) (.tup xs) ∧ rest = xs.drop i) (fun _ rest h => ∃ i, h.IsTupleIter it t i ∧ RV h (.ref t) (.tup xs) ∧ rest = xs.drop i) (fun _ => True) where
  there := by rintro l h ⟨i, ⟨o, e, _⟩, _⟩ a rfl; exact ⟨o, e⟩
  still := by rintro l h h' ⟨i, ⟨o, e, r⟩, rt, q⟩ k g; exact ⟨i, ⟨o, k _ _ rfl e, r⟩, rt.grow g, q⟩
  again := by rintro A l s E R hr ⟨i, hi, _⟩ h; exact wpAny_pyIter_tupleiter hi h
  next := by
    rintro A Fz σ rest s E R hr hbs S hk hf hσ ⟨i, hi, rt, rfl⟩ hR
    obtain ⟨t', its, n, e1, ht, ri⟩ := tup_at rt
    cases e1
    have hl : s.heap.IsTuple t its := ⟨_, ht, rfl, n, rfl⟩
    obtain ⟨o, ho, _⟩ := id hi
    have hnl := tupIter_notLasting hi ho
    cases hd : xs.drop i with
    | nil =>
      refine wpAny_pyNext_tuple_end hr.hn hi hl (arr_none ri (get_none_of_drop hd)) fun h' he => ?_
      obtain ⟨S', g⟩ := S.extWrite (fun o => hf it o rfl) (hσ it rfl) he ho hnl
      exact hR none _ S' ⟨g, rfl, rfl⟩ (by rw [hd])
    | cons x r =>
      obtain ⟨h1, h2⟩ := drop_cons hd
      obtain ⟨v, hv, rv⟩ := arr_some ri h1
      refine wpAny_pyNext_tuple_item hi hl hv fun h' hi' hs => ?_
      obtain ⟨S', g⟩ := S.apartWrite (fun o => hf it o rfl) (hσ it rfl) hs ho hnl
      refine hR (some v) _ S' ⟨g, rfl, rfl⟩ ?_
      rw [hd]
      exact ⟨v, rfl, rv.grow g, i + 1, hi', rt.grow g, h2.symm⟩
  letGo := by
    rintro A Fz σ l s v t E R _ hr S hf hσ ⟨i, hi, q⟩ hR
    obtain ⟨o, ho, hc, _⟩ := id hi
    exact letGo_other ho hc (by decide) (hR s S (.refl _) ⟨i, hi, q⟩)

theorem iter_tup {xs : List AV} {Q : List AV → (AHeap → Prop) → Prop} (h : Q xs (fun _ => True)) : IterOK c d (.tup xs) σ Q := by
  refine ⟨xs, _, h, ?_⟩
  intro A Fz s v E R hr hb hbs S r k
  have r0 := r
  obtain ⟨t, its, n, rfl, ht, ri⟩ := tup_at r
  refine PyProof.Rows.iter_tuple ⟨_, ht, rfl, n, rfl⟩ ?_
  refine k (.ref s.heap.objs.size) (fun a => a = s.heap.objs.size) _ _ (S.push _) (keeps_push s.heap _) ⟨rfl, rfl⟩ (by rintro a o rfl; exact not_there _ _) (it_tup (t := t) (xs := xs)) ⟨0, ⟨_, Heap.get?_push_size _ rfl, rfl, rfl⟩, r0.grow (grow_keeps (keeps_push s.heap _)), by simp⟩

/-! ranges -/
def rangeAV (a : Int) (n : Nat) : List AV := (List.range n).map fun (k : Nat) => AV.int (a + (k : Int))
theorem rangeAV_succ (a : Int) (n : Nat) : rangeAV a (n + 1) = .int a :: rangeAV (a + 1) n := by
  unfold rangeAV
  rw [List.range_succ_eq_map, List.map_cons, List.map_map]
  congr 1
  · simp
  · apply List.map_congr_left
    intro k _
    simp only [Function.comp, AV.int.injEq]
    omega
theorem rangeAV_len (a : Int) (n : Nat) : (rangeAV a n).length = n := by simp [rangeAV]

theorem it_range {it : Addr} : ItSpec c d false (.ref it) (fun a => a = it) (fun rest h => ∃ x n, IsRangeIter h it x ((n : Nat) : Int) 1 ∧ rest = rangeAV x n) (fun _ rest h => ∃ x n, IsRangeIter h it x ((n : Nat) : Int) 1 ∧ rest = rangeAV x n) (fun _ => True) where
  there := by rintro l h ⟨x, n, hi, _⟩ a rfl; exact ⟨_, hi⟩
  still := by rintro l h h' ⟨x, n, hi, q⟩ k g; exact ⟨x, n, k _ _ rfl hi, q⟩
  again := by rintro A l s E R hr ⟨x, n, hi, _⟩ h; exact wpAny_pyIter_rangeiter hi h
  next := by
    rintro A Fz σ rest s E R hr hbs S hk hf hσ ⟨x, n, hi, rfl⟩ hR
    have hnl : ¬ Lasting { cls := .type "range_iterator", dict := none, data := .fields #[rawInt x, rawInt n, rawInt 1], slots := #[] } := by
      rintro (⟨h1, _⟩ | ⟨h1 | h1, _⟩) <;> (injection h1 with h1; exact absurd h1 (by decide))
    cases n with
    | zero =>
      refine wpAny_pyNext_range_end hr.hn hi (by simp) fun h' he => ?_
      obtain ⟨S', g⟩ := S.extWrite (fun o => hf it o rfl) (hσ it rfl) he hi hnl
      exact hR none _ S' ⟨g, rfl, rfl⟩ rfl
    | succ n =>
      refine wpAny_pyNext_range_item hi (by omega) fun h' hi' hs => ?_
      obtain ⟨S', g⟩ := S.apartWrite (fun o => hf it o rfl) (hσ it rfl) hs hi hnl
      refine hR (some (.int x s.toks)) _ S' ⟨g, rfl, rfl⟩ ?_
      rw [rangeAV_succ]
      refine ⟨_, rfl, .int _ _, x + 1, n, ?_, rfl⟩
      rwa [show ((n + 1 : Nat) : Int) - 1 = (n : Int) by omega] at hi'
  letGo := by
    rintro A Fz σ l s v t E R _ hr S hf hσ ⟨x, n, hi, q⟩ hR
    exact letGo_other hi rfl (by decide) (hR s S (.refl _) ⟨x, n, hi, q⟩)

def Near (a : Int) : Prop := a.natAbs ≤ 1000000
theorem near_small {a b : Int} (ha : Near a) (hb : Near b) : Builtin.Range.small a b 1 = true := by
  unfold Near at ha hb
  exact small_one (by omega) (by omega) (by omega) (by omega)

theorem iter_range {a b : Int} {Q : List AV → (AHeap → Prop) → Prop} (ha : Near a) (hb : Near b) (h : Q (rangeAV a (b - a).toNat) (fun _ => True)) : IterOK c d (.range a b) σ Q := by
  refine ⟨_, _, h, ?_⟩
  intro A Fz s v E R hr hb' hbs S r k
  cases r with | range ra _ _ t u w he => ?_
  refine wpAny_pyIter_range he (near_small ha hb) ?_
  refine k (.ref s.heap.objs.size) (fun a => a = s.heap.objs.size) _ _ (S.push _) (keeps_push s.heap _) ⟨rfl, rfl⟩ (by rintro a o rfl; exact not_there _ _) it_range ⟨a, (b - a).toNat, ?_, rfl⟩
  have hsz : Builtin.Range.rangeSize a b 1 = (((b - a).toNat : Nat) : Int) := by rw [rangeSize_one]; split <;> omega
  have : rawInt (((b - a).toNat : Nat) : Int) = rawInt (Builtin.Range.rangeSize a b 1) := by rw [hsz]
  show (s.heap.push _).get? s.heap.objs.size = _
  rw [this]
  exact Heap.get?_push_size _ rfl

theorem call_range1 {n : Int} (h : Q (.range 0 n) σ) : CallOK c d (.raw (.type "range")) [.int n] σ Q X := by
  intro A Fz s vs hr hb hbs S r
  obtain ⟨f, lv, rfl, rf, rl⟩ := r.two_inv
  have h1 : f = .type "range" := by cases rf; rfl
  subst h1
  cases rl with | int _ t => ?_
  show wpAny c.M A (call (.type "range") [.int n t]) _ _ s
  refine call_range_1 ?_
  have k := keeps_push s.heap { cls := .type "range", data := .fields #[.int 0 s.toks, .int n t, .int 1 (s.toks + 1)] }
  exact ⟨_, σ, S.push _, ⟨grow_keeps k, rfl, rfl⟩, .range _ _ _ s.toks t (s.toks + 1) (Heap.get?_push_size _ rfl), h⟩
theorem call_range2 {a b : Int} (h : Q (.range a b) σ) : CallOK c d (.raw (.type "range")) [.int a, .int b] σ Q X := by
  intro A Fz s vs hr hb hbs S r
  obtain ⟨f, lv, uv, rfl, rf, rl, ru⟩ := r.three_inv
  have h1 : f = .type "range" := by cases rf; rfl
  subst h1
  cases rl with | int _ t => ?_
  cases ru with | int _ u => ?_
  show wpAny c.M A (call (.type "range") [.int a t, .int b u]) _ _ s
  refine call_range_2 ?_
  have k := keeps_push s.heap { cls := .type "range", data := .fields #[.int a t, .int b u, .int 1 s.toks] }
  exact ⟨_, σ, S.push _, ⟨grow_keeps k, rfl, rfl⟩, .range _ _ _ t u s.toks (Heap.get?_push_size _ rfl), h⟩

theorem rvs_items {h : Heap} : ∀ {acc : List Value} {xs : List AV}, acc.length = xs.length → (∀ (i : Nat) v x, acc[i]? = some v → xs[i]? = some x → RV h v x) → RVs h acc xs
  | [], [], _, _ => .nil
  | v :: acc, x :: xs, hl, hp => .cons (hp 0 v x rfl rfl) (rvs_items (by simpa using hl) fun i w y e1 e2 => hp (i + 1) w y (by simpa using e1) (by simpa using e2))
  | [], _ :: _, h, _ => by simp at h
  | _ :: _, [], h, _ => by simp at h

theorem call_list_rng {a b : Int} (ha : Near a) (hb : Near b) (h : ∀ l, σ l = none → Q (.ref l) (σ.set l (.list (rangeAV a (b - a).toNat)))) : CallOK c d (.raw (.type "list")) [.range a b] σ Q X := by
  intro A Fz s vs hr hb' hbs S r
  obtain ⟨f, lv, rfl, rf, rl⟩ := r.two_inv
  have h1 : f = .type "list" := by cases rf; rfl
  subst h1
  cases rl with | range ra _ _ t u w he => ?_
  have hsz : Builtin.Range.rangeSize a b 1 = (((b - a).toNat : Nat) : Int) := by rw [rangeSize_one]; split <;> omega
  show wpAny c.M A (call (.type "list") [.ref ra]) _ _ s
  refine call_list_range hr.hn he (near_small ha hb) hsz (by unfold Near at ha hb; omega) fun h' tk acc' c' hk hn hit => ?_
  have hrv : RVs h' acc'.toList (rangeAV a (b - a).toNat) := by
    refine rvs_items (by rw [rangeAV_len]; simpa using hit.1) fun i v x e1 e2 => ?_
    obtain ⟨t, rfl⟩ := hit.2 i v (by simpa using e1)
    unfold rangeAV at e2
    rw [List.getElem?_map] at e2
    by_cases hi : i < (b - a).toNat
    · rw [List.getElem?_range hi] at e2
      simp only [Option.map_some, Option.some.injEq] at e2
      subst e2
      rw [Int.mul_one]
      exact .int _ _
    · rw [List.getElem?_eq_none_iff.mpr (by simpa using hi)] at e2
      cases e2
  obtain ⟨S', g, hσ⟩ := S.new (c := .list (rangeAV a (b - a).toNat)) (not_there s.heap) hk ⟨acc', c', hn, hrv⟩
  exact ⟨_, _, S', ⟨g, rfl, rfl⟩, .ref _, h _ hσ⟩

theorem call_list_l {l : Addr} {xs : List AV} (e : σ l = some (.list xs)) (hz : Fits xs.length) (h : ∀ m, σ m = none → Q (.ref m) (σ.set m (.list xs))) : CallOK c d (.raw (.type "list")) [.ref l] σ Q X := by
  intro A Fz s vs hr hb hbs S r
  obtain ⟨f, lv, rfl, rf, rl⟩ := r.two_inv
  have h1 : f = .type "list" := by cases rf; rfl
  have h2 : lv = .ref l := by cases rl; rfl
  subst h1; subst h2
  obtain ⟨its, n, hl, ri⟩ := list_at S e
  show wpAny c.M A (call (.type "list") [.ref l]) _ _ s
  refine call_list_seq l (.inl rfl) hl rfl rfl (fun h' c' hk hn => ?_) (by rw [list_size ri]; exact hz.le)
  obtain ⟨S', g, hσ⟩ := S.new (c := .list xs) (not_there s.heap) hk ⟨its, c', hn, ri.grow (grow_keeps hk)⟩
  exact ⟨_, _, S', ⟨g, rfl, rfl⟩, .ref _, h _ hσ⟩
end

-- Cx26
set_option Elab.async false
set_option linter.unusedVariables false
set_option linter.unusedSimpArgs false
set_option maxRecDepth 20000

/-! what a dict says, and what it becomes -/
def dlook {K V : Type} [DecidableEq K] : List (K × V) → K → Option V
  | [], _ => none
  | (a, v) :: r, k => if a = k then some v else dlook r k
def dput {K V : Type} [DecidableEq K] : List (K × V) → K → V → List (K × V)
  | [], k, v => [(k, v)]
  | (a, u) :: r, k, v => if a = k then (a, v) :: r else (a, u) :: dput r k v
def ddel {K V : Type} [DecidableEq K] : List (K × V) → K → List (K × V)
  | [], _ => []
  | (a, u) :: r, k => if a = k then r else (a, u) :: ddel r k

theorem dlook_valueAt {K : Type} [DecidableEq K] : ∀ (kvs : List (K × Value)) (k : K), valueAt kvs k = dlook kvs k
  | [], k => rfl
  | (a, v) :: r, k => by
    have ih := dlook_valueAt r k
    unfold valueAt at ih ⊢
    unfold dlook
    rw [List.find?_cons]
    by_cases e : a = k
    · simp [e]
    · simp only [e, decide_false, if_false]; exact ih
theorem dlook_atKey {K : Type} [DecidableEq K] : ∀ (xs : List (K × Addr × Value)) (k : K), atKey xs k = dlook xs k
  | [], k => rfl
  | (a, v) :: r, k => by
    have ih := dlook_atKey r k
    unfold atKey at ih ⊢
    unfold dlook
    rw [List.find?_cons]
    by_cases e : a = k
    · simp [e]
    · simp only [e, decide_false, if_false]; exact ih
theorem dlook_none {K V : Type} [DecidableEq K] : ∀ {l : List (K × V)} {k : K}, dlook l k = none ↔ k ∉ l.map (·.1)
  | [], k => by simp [dlook]
  | (a, v) :: r, k => by
    unfold dlook
    by_cases e : a = k
    · simp [e]
    · simp only [e, if_false, List.map_cons, List.mem_cons, not_or]
      rw [dlook_none (l := r)]
      exact ⟨fun h => ⟨fun q => e q.symm, h⟩, fun h => h.2⟩
theorem dput_new {K V : Type} [DecidableEq K] : ∀ {l : List (K × V)} {k : K} {v : V}, dlook l k = none → dput l k v = l ++ [(k, v)]
  | [], k, v, _ => rfl
  | (a, u) :: r, k, v, h => by
    unfold dlook at h
    unfold dput
    by_cases e : a = k
    · simp [e] at h
    · simp only [e, if_false] at h ⊢
      rw [dput_new h]; rfl
theorem map_off {K V : Type} [DecidableEq K] {l : List (K × V)} {k : K} {v : V} (h : k ∉ l.map (·.1)) : l.map (fun x => if x.1 = k then (x.1, v) else x) = l := by
  induction l with
  | nil => rfl
  | cons x r ih =>
    simp only [List.map_cons, List.mem_cons, not_or] at h
    rw [List.map_cons, ih h.2, if_neg (fun q => h.1 q.symm)]
theorem dput_stored {K V : Type} [DecidableEq K] : ∀ {l : List (K × V)} {k : K} {v : V}, (l.map (·.1)).Nodup → dput l k v = if (dlook l k).isSome then l.map (fun x => if x.1 = k then (x.1, v) else x) else l ++ [(k, v)]
  | [], k, v, _ => rfl
  | (a, u) :: r, k, v, hn => by
    rw [List.map_cons, List.nodup_cons] at hn
    unfold dput dlook
    by_cases e : a = k
    · subst e
      simp only [if_true, Option.isSome_some, List.map_cons]
      rw [map_off hn.1]
    · simp only [e, if_false, List.map_cons]
      rw [dput_stored hn.2]
      split <;> rfl

def RVm {K : Type} (h : Heap) (kvs : List (K × Value)) (es : List (K × AV)) : Prop := RVk h kvs es
theorem RVk.inv {K : Type} {h : Heap} {a b : K} {v : Value} {av : AV} {kvs : List (K × Value)} {es : List (K × AV)} (r : RVk h ((a, v) :: kvs) ((b, av) :: es)) : a = b ∧ RV h v av ∧ RVk h kvs es := by
  have h1 := r.1
  simp only [List.map_cons, List.cons.injEq] at h1
  have h2 := r.2
  simp only [List.map_cons] at h2
  cases h2 with
  | cons rv rs => exact ⟨h1.1, rv, h1.2, rs⟩
theorem RVk.mk {K : Type} {h : Heap} {a : K} {v : Value} {av : AV} {kvs : List (K × Value)} {es : List (K × AV)} (rv : RV h v av) (r : RVk h kvs es) : RVk h ((a, v) :: kvs) ((a, av) :: es) :=
  ⟨by simp only [List.map_cons]; rw [r.1], .cons rv r.2⟩
theorem RVk.look {K : Type} [DecidableEq K] {h : Heap} : ∀ {kvs : List (K × Value)} {es : List (K × AV)} (k : K), RVk h kvs es → ORV h (dlook kvs k) (dlook es k)
  | [], [], k, _ => by simp [dlook, ORV]
  | [], _ :: _, _, r => by have := r.1; simp at this
  | _ :: _, [], _, r => by have := r.1; simp at this
  | (a, v) :: kvs, (b, av) :: es, k, r => by
    obtain ⟨rfl, rv, rs⟩ := r.inv
    unfold dlook
    by_cases e : a = k
    · simp only [e, if_true]; exact rv
    · simp only [e, if_false]; exact RVk.look k rs
theorem RVk.put {K : Type} [DecidableEq K] {h : Heap} (k : K) {v : Value} {av : AV} (rv : RV h v av) : ∀ {kvs : List (K × Value)} {es : List (K × AV)}, RVk h kvs es → RVk h (dput kvs k v) (dput es k av)
  | [], [], _ => RVk.mk rv ⟨rfl, .nil⟩
  | [], _ :: _, r => by have := r.1; simp at this
  | _ :: _, [], r => by have := r.1; simp at this
  | (a, u) :: kvs, (b, au) :: es, r => by
    obtain ⟨rfl, ru, rs⟩ := r.inv
    unfold dput
    by_cases e : a = k
    · simp only [e, if_true]; exact RVk.mk rv rs
    · simp only [e, if_false]; exact RVk.mk ru (RVk.put k rv rs)
theorem RVk.del {K : Type} [DecidableEq K] {h : Heap} (k : K) : ∀ {kvs : List (K × Value)} {es : List (K × AV)}, RVk h kvs es → RVk h (ddel kvs k) (ddel es k)
  | [], [], _ => ⟨rfl, .nil⟩
  | [], _ :: _, r => by have := r.1; simp at this
  | _ :: _, [], r => by have := r.1; simp at this
  | (a, u) :: kvs, (b, au) :: es, r => by
    obtain ⟨rfl, ru, rs⟩ := r.inv
    unfold ddel
    by_cases e : a = k
    · simp only [e, if_true]; exact rs
    · simp only [e, if_false]; exact RVk.mk ru (RVk.del k rs)
theorem RVk.len {K : Type} {h : Heap} {kvs : List (K × Value)} {es : List (K × AV)} (r : RVk h kvs es) : kvs.length = es.length := by
  have := congrArg List.length r.1
  simpa using this

section
variable {c : Cx} {d : Nat} {σ : AHeap} {Q : AV → AHeap → Prop} {X : Addr → AHeap → Prop} {A : Around} {E : Value → Shared → Prop} {s : Shared} {Fz : Fzn}

theorem not_mods {h : Heap} {a : Addr} {ce : Cell} (hb : Base c) (hbs : Bs c Fz) (S : St c.prog c.w Fz σ h) (e : σ a = some ce) : (a == sysModules) = false := by
  rw [beq_eq_false_iff_ne]
  rintro rfl
  obtain ⟨o, ho⟩ := hb.mods
  exact S.apart _ _ o e (hbs _ o ho)

theorem stored_dput {K : Type} [DecidableEq K] {kvs : List (K × Value)} {k : K} {v : Value} (hn : (kvs.map (·.1)).Nodup) : stored kvs k v = dput kvs k v := by
  rw [dput_stored hn]
  unfold stored
  have : (kvs.any fun kv => decide (kv.1 = k)) = (dlook kvs k).isSome := by
    induction kvs with
    | nil => rfl
    | cons x r ih =>
      rw [List.map_cons, List.nodup_cons] at hn
      obtain ⟨a, u⟩ := x
      unfold dlook
      rw [List.any_cons, ih hn.2]
      by_cases e : a = k <;> simp [e]
  rw [this]
theorem without_ddel {K : Type} [DecidableEq K] {kvs : List (K × Value)} {k : K} (hn : (kvs.map (·.1)).Nodup) : without kvs k = ddel kvs k := by
  unfold without
  induction kvs with
  | nil => rfl
  | cons x r ih =>
    rw [List.map_cons, List.nodup_cons] at hn
    obtain ⟨a, u⟩ := x
    unfold ddel
    by_cases e : a = k
    · subst e
      simp only [if_true]
      rw [List.filter_cons_of_neg (by simp)]
      rw [List.filter_eq_self.mpr]
      intro y hy
      simp only [ne_eq, decide_not, Bool.not_eq_true', decide_eq_false_iff_not]
      rintro rfl
      exact hn.1 (List.mem_map.mpr ⟨y, hy, rfl⟩)
    · simp only [e, if_false]
      rw [List.filter_cons_of_pos (by simp [e]), ih hn.2]

/-! dicts with ints for keys -/
theorem dictI_at {h : Heap} {a : Addr} {es : List (Int × AV)} (S : St c.prog c.w Fz σ h) (e : σ a = some (.dictI es)) : ∃ kvs, h.DictOf (intKind c.prog c.w) a kvs ∧ RVk h kvs es := S.cell _ _ e
theorem isInt (k : Int) (t : Tok) (c : Cx) : (intKind c.prog c.w).is k (.int k t) = true := by simp [intKind, Value.isInt]

theorem sub_dictI {a : Addr} {es : List (Int × AV)} {k : Int} {x : AV} (e : σ a = some (.dictI es)) (hx : dlook es k = some x) (h : Q x σ) : SubOK c d (.ref a) (.int k) σ Q X := by
  intro A Fz s vs hr hb hbs S r
  obtain ⟨lv, iv, rfl, rl, rx⟩ := r.two_inv
  have h2 : lv = .ref a := by cases rl; rfl
  subst h2
  cases rx with | int _ t => ?_
  obtain ⟨kvs, hd, rk⟩ := dictI_at S e
  have hl := rk.look k
  rw [hx] at hl
  cases q : dlook kvs k with
  | none => rw [q] at hl; cases hl
  | some v =>
    rw [q] at hl
    show wpAny c.M A (subT (.ref a) (.int k t)) _ _ s
    refine sub_of hd.typeIs (by simp) slot_dict_getitem.lookup ?_
    exact wpAny_getItem_of (isInt k t c) hd.mapOf (by rw [dlook_valueAt]; exact q) ⟨x, σ, S, ⟨Grow.refl _, rfl, rfl⟩, hl, h⟩

theorem set_dictI {a : Addr} {es : List (Int × AV)} {k : Int} {x : AV} {Q : AHeap → Prop} (e : σ a = some (.dictI es)) (hz : Fits es.length) (h : Q (σ.set a (.dictI (dput es k x)))) : SetItemOK c d (.ref a) (.int k) x σ Q X := by
  intro A Fz s ov iv vv hr hb hbs S ro rx rv
  have h2 : ov = .ref a := by cases ro; rfl
  subst h2
  cases rx with | int _ t => ?_
  obtain ⟨kvs, hd, rk⟩ := dictI_at S e
  have hn : (kvs.map (·.1)).Nodup := let ⟨_, _, _, _, _, _, _, _, h⟩ := hd; h
  refine wpAny_setItem_pairs (isInt k t c) hd (fun h' hd' hs => ?_) (by rw [rk.len]; exact hz.le)
  obtain ⟨o, es0, ep, ho, _, hdat, _⟩ := hd
  have g0 : Grow s.heap h' := grow_dict ho hdat hs
  obtain ⟨S', g⟩ := S.write (c' := .dictI (dput es k x)) e hs ⟨_, hd', by rw [stored_dput hn]; exact (rk.grow g0).put k (rv.grow g0)⟩
  exact ⟨_, S', ⟨g, rfl, rfl⟩, h⟩

theorem look_dictI {a : Addr} {es : List (Int × AV)} {name : String} {id : String} {Q : AV → List AV → Prop} (slot : Slot "dict" (Str.ofString name) id) (hty : typeOf (.builtin id) = pure (.type "method_descriptor")) (e : σ a = some (.dictI es)) (h : Q (.raw (.builtin id)) [.ref a]) : LookOK c d (.ref a) name σ Q := by
  intro A Fz s v pl E P hr hb hbs S r hP
  have hv : v = .ref a := by cases r; rfl
  subst hv
  obtain ⟨kvs, hd, rk⟩ := dictI_at S e
  exact getMethod_builtin hd.typeIs PySem.F.plainAttrs_dict slot hty hd.mapOf.noDict (hP _ _ _ _ s (.refl s) (.raw _) (.one (.ref a)) h)
theorem look_popI {a : Addr} {es : List (Int × AV)} {Q : AV → List AV → Prop} (e : σ a = some (.dictI es)) (h : Q (.raw (.builtin "dict.pop")) [.ref a]) : LookOK c d (.ref a) "pop" σ Q := look_dictI PySem.F.slot_dict_pop PySem.F.type_dict_pop e h

theorem call_popI {a : Addr} {es : List (Int × AV)} {k : Int} {x : AV} (e : σ a = some (.dictI es)) (hz : Fits es.length) (hx : dlook es k = some x) (h : Q x (σ.set a (.dictI (ddel es k)))) : CallOK c d (.raw (.builtin "dict.pop")) [.ref a, .int k] σ Q X := by
  intro A Fz s vs hr hb hbs S r
  obtain ⟨f, lv, iv, rfl, rf, rl, rx⟩ := r.three_inv
  have h1 : f = .builtin "dict.pop" := by cases rf; rfl
  have h2 : lv = .ref a := by cases rl; rfl
  subst h1; subst h2
  cases rx with | int _ t => ?_
  obtain ⟨kvs, hd, rk⟩ := dictI_at S e
  have hn : (kvs.map (·.1)).Nodup := let ⟨_, _, _, _, _, _, _, _, h⟩ := hd; h
  have hl := rk.look k
  rw [hx] at hl
  cases q : dlook kvs k with
  | none => rw [q] at hl; cases hl
  | some v =>
    rw [q] at hl
    show wpAny c.M A (call (.builtin "dict.pop") [.ref a, .int k t]) _ _ s
    refine call_meetsIn PySem.F.slot_dict_pop hd.typeIs PySem.F.entry_dict_pop (PySem.F.args_dict_pop_2 _ _) (meets_dict_pop_there (intKind c.prog c.w) a (isInt k t c) [] (.inl rfl) rfl) ⟨kvs, v, hd, by rw [rk.len]; exact hz.le, by rw [dlook_valueAt]; exact q, fun h' hd' hs => ?_⟩
    obtain ⟨o, es0, ep, ho, _, hdat, _⟩ := hd
    have g0 : Grow s.heap h' := grow_dict ho hdat hs
    obtain ⟨S', g⟩ := S.write (c' := .dictI (ddel es k)) e hs ⟨_, hd', by rw [without_ddel hn]; exact (rk.grow g0).del k⟩
    exact ⟨x, _, S', ⟨g, rfl, rfl⟩, hl.grow g0, h⟩

theorem cmp_in_dictI {a : Addr} {es : List (Int × AV)} {k : Int} (e : σ a = some (.dictI es)) (h : Q (.bool (dlook es k).isSome) σ) : CmpOK c d .In (.int k) (.ref a) σ Q X := by
  intro A Fz s vs hr hb hbs S r
  obtain ⟨iv, lv, rfl, rx, rl⟩ := r.two_inv
  have h2 : lv = .ref a := by cases rl; rfl
  subst h2
  cases rx with | int _ t => ?_
  obtain ⟨kvs, hd, rk⟩ := dictI_at S e
  have hl := rk.look k
  show wpAny c.M A (compareOp .In (.int k t) (.ref a)) _ _ s
  refine wpAny_in_of (isInt k t c) (not_mods hb hbs S e) hd.mapOf ?_
  refine ⟨.bool (dlook es k).isSome, σ, S, ⟨Grow.refl _, rfl, rfl⟩, ?_, h⟩
  rw [dlook_valueAt]
  cases q : dlook kvs k <;> cases q' : dlook es k <;> rw [q, q'] at hl <;> first | (cases hl; done) | exact .bool _
end

-- Cx27
set_option Elab.async false
set_option linter.unusedVariables false
set_option linter.unusedSimpArgs false
set_option maxRecDepth 20000

theorem dlook_map {K K' V V' : Type} [DecidableEq K] [DecidableEq K'] {f : K → K'} {g : V → V'} (hf : ∀ a b, f a = f b → a = b) : ∀ (l : List (K × V)) (k : K), dlook (l.map fun x => (f x.1, g x.2)) (f k) = (dlook l k).map g
  | [], k => rfl
  | (a, v) :: r, k => by
    rw [List.map_cons]
    unfold dlook
    by_cases e : a = k
    · simp [e]
    · rw [if_neg e, if_neg (fun q => e (hf _ _ q))]
      exact dlook_map hf r k
theorem dput_map {K K' V V' : Type} [DecidableEq K] [DecidableEq K'] {f : K → K'} {g : V → V'} (hf : ∀ a b, f a = f b → a = b) : ∀ (l : List (K × V)) (k : K) (v : V), dput (l.map fun x => (f x.1, g x.2)) (f k) (g v) = (dput l k v).map fun x => (f x.1, g x.2)
  | [], k, v => rfl
  | (a, u) :: r, k, v => by
    rw [List.map_cons]
    unfold dput
    by_cases e : a = k
    · simp [e]
    · rw [if_neg e, if_neg (fun q => e (hf _ _ q)), List.map_cons, dput_map hf r k v]
theorem ddel_map {K K' V V' : Type} [DecidableEq K] [DecidableEq K'] {f : K → K'} {g : V → V'} (hf : ∀ a b, f a = f b → a = b) : ∀ (l : List (K × V)) (k : K), ddel (l.map fun x => (f x.1, g x.2)) (f k) = (ddel l k).map fun x => (f x.1, g x.2)
  | [], k => rfl
  | (a, u) :: r, k => by
    rw [List.map_cons]
    unfold ddel
    by_cases e : a = k
    · simp [e]
    · rw [if_neg e, if_neg (fun q => e (hf _ _ q)), List.map_cons, ddel_map hf r k]

theorem rvs'_k {h : Heap} {kvs : List (Str × Value)} {es : List (String × AV)} : RVs' h kvs es ↔ RVk h kvs (es.map fun x => (Str.ofString x.1, x.2)) := by
  unfold RVs' RVk
  rw [List.map_map, List.map_map]
  rfl

section
variable {c : Cx} {d : Nat} {σ : AHeap} {Q : AV → AHeap → Prop} {X : Addr → AHeap → Prop} {A : Around} {E : Value → Shared → Prop} {s : Shared} {Fz : Fzn}

theorem dictS_at {h : Heap} {a : Addr} {es : List (String × AV)} (S : St c.prog c.w Fz σ h) (e : σ a = some (.dictS es)) : ∃ kvs, h.DictOf (strKind c.prog c.w) a kvs ∧ RVk h kvs (es.map fun x => (Str.ofString x.1, x.2)) := by
  obtain ⟨kvs, hd, r⟩ := S.cell _ _ e
  exact ⟨kvs, hd, rvs'_k.mp r⟩
theorem look_str {es : List (String × AV)} (k : String) : dlook (es.map fun x => (Str.ofString x.1, x.2)) (Str.ofString k) = dlook es k := by
  have := dlook_map (g := fun x : AV => x) (fun a b h => ofString_inj h) es k
  simpa using this

theorem sub_dictS {a : Addr} {es : List (String × AV)} {k : String} {x : AV} (e : σ a = some (.dictS es)) (hx : dlook es k = some x) (h : Q x σ) : SubOK c d (.ref a) (.str k) σ Q X := by
  intro A Fz s vs hr hb hbs S r
  obtain ⟨lv, iv, rfl, rl, rx⟩ := r.two_inv
  have h2 : lv = .ref a := by cases rl; rfl
  subst h2
  cases rx with | str _ y t ey => ?_
  subst ey
  obtain ⟨kvs, hd, rk⟩ := dictS_at S e
  have hl := rk.look (Str.ofString k)
  rw [look_str, hx] at hl
  cases q : dlook kvs (Str.ofString k) with
  | none => rw [q] at hl; cases hl
  | some v =>
    rw [q] at hl
    show wpAny c.M A (subT (.ref a) (.str (Str.ofString k) t)) _ _ s
    refine sub_of hd.typeIs (by simp) slot_dict_getitem.lookup ?_
    exact wpAny_getItem_of (strKind_is c.prog c.w _ t) hd.mapOf (by rw [dlook_valueAt]; exact q) ⟨x, σ, S, ⟨Grow.refl _, rfl, rfl⟩, hl, h⟩

theorem set_dictS {a : Addr} {es : List (String × AV)} {k : String} {x : AV} {Q : AHeap → Prop} (e : σ a = some (.dictS es)) (hz : Fits es.length) (h : Q (σ.set a (.dictS (dput es k x)))) : SetItemOK c d (.ref a) (.str k) x σ Q X := by
  intro A Fz s ov iv vv hr hb hbs S ro rx rv
  have h2 : ov = .ref a := by cases ro; rfl
  subst h2
  cases rx with | str _ y t ey => ?_
  subst ey
  obtain ⟨kvs, hd, rk⟩ := dictS_at S e
  have hn : (kvs.map (·.1)).Nodup := let ⟨_, _, _, _, _, _, _, _, h⟩ := hd; h
  refine wpAny_setItem_pairs (strKind_is c.prog c.w _ t) hd (fun h' hd' hs => ?_) (by rw [rk.len, List.length_map]; exact hz.le)
  obtain ⟨o, es0, ep, ho, _, hdat, _⟩ := hd
  have g0 : Grow s.heap h' := grow_dict ho hdat hs
  have rp := (rk.grow g0).put (Str.ofString k) (rv.grow g0)
  have em := dput_map (g := fun x : AV => x) (fun a b h => ofString_inj h) es k x
  obtain ⟨S', g⟩ := S.write (c' := .dictS (dput es k x)) e hs ⟨_, hd', rvs'_k.mpr (by rw [stored_dput hn, ← em]; exact rp)⟩
  exact ⟨_, S', ⟨g, rfl, rfl⟩, h⟩

/-! dicts with tuples for keys -/
open Classical in
theorem dictT_at {h : Heap} {a : Addr} {es : List (List AV × AV)} (S : St c.prog c.w Fz σ h) (e : σ a = some (.dictT es)) : ∃ xs : List (List AV × Addr × Value), h.DictOfH (avKind c.prog c.w) a xs ∧ RVk h (xs.map fun x => (x.1, x.2.2)) es := by
  obtain ⟨xs, hd, h1, h2⟩ := S.cell _ _ e
  refine ⟨xs, hd, ?_, ?_⟩
  · rw [List.map_map]; exact h1
  · rw [List.map_map]; exact h2
theorem atKey_look {K : Type} [DecidableEq K] (xs : List (K × Addr × Value)) (k : K) : (dlook xs k).map (·.2) = dlook (xs.map fun x => (x.1, x.2.2)) k := by
  have := dlook_map (f := fun k : K => k) (g := fun p : Addr × Value => p.2) (fun a b h => h) xs k
  exact this.symm
theorem key_at {h : Heap} {v : Value} {k : List AV} (hk : Keyeds k) (hd : deeps k ≤ 7) (r : RV h v (.tup k)) : ∃ a, v = .ref a ∧ IsKey h k a := by
  have r0 := r
  obtain ⟨t, its, n, rfl, _, _⟩ := tup_at r
  exact ⟨t, rfl, r0, hk, hd⟩
open Classical in
theorem in1_room (hr : Room A d) : (avKind c.prog c.w).room A.in1 := by
  show A.units + 1 + 8 < cLine
  have := hr.un
  omega

open Classical in
theorem cmp_in_dictT {a : Addr} {es : List (List AV × AV)} {k : List AV} (e : σ a = some (.dictT es)) (hk : Keyeds k) (hd : deeps k ≤ 7) (h : Q (.bool (dlook es k).isSome) σ) : CmpOK c d .In (.tup k) (.ref a) σ Q X := by
  intro A Fz s vs hr hb hbs S r
  obtain ⟨iv, lv, rfl, rx, rl⟩ := r.two_inv
  have h2 : lv = .ref a := by cases rl; rfl
  subst h2
  obtain ⟨t, rfl, hkey⟩ := key_at hk hd rx
  obtain ⟨xs, hx, rk⟩ := dictT_at S e
  have hl := rk.look k
  show wpAny c.M A (compareOp .In (.ref t) (.ref a)) _ _ s
  refine wpAny_in_heap (knd := avKind c.prog c.w) (in1_room hr) hkey (not_mods hb hbs S e) hx ?_
  refine ⟨.bool (dlook es k).isSome, σ, S, ⟨Grow.refl _, rfl, rfl⟩, ?_, h⟩
  have e1 : (atKey xs k).isSome = (dlook es k).isSome := by
    rw [dlook_atKey]
    have := atKey_look xs k
    cases q : dlook xs k <;> rw [q] at this <;> rw [← this] at hl <;> cases q' : dlook es k <;> rw [q'] at hl <;> first | rfl | cases hl
  rw [e1]
  exact .bool _

open Classical in
theorem sub_dictT {a : Addr} {es : List (List AV × AV)} {k : List AV} {x : AV} (e : σ a = some (.dictT es)) (hk : Keyeds k) (hd : deeps k ≤ 7) (hx : dlook es k = some x) (h : Q x σ) : SubOK c d (.ref a) (.tup k) σ Q X := by
  intro A Fz s vs hr hb hbs S r
  obtain ⟨lv, iv, rfl, rl, rx⟩ := r.two_inv
  have h2 : lv = .ref a := by cases rl; rfl
  subst h2
  obtain ⟨t, rfl, hkey⟩ := key_at hk hd rx
  obtain ⟨xs, hxs, rk⟩ := dictT_at S e
  have hl := rk.look k
  have hm := atKey_look xs k
  rw [hx, ← hm] at hl
  cases q : dlook xs k with
  | none => rw [q] at hl; cases hl
  | some p =>
    rw [q] at hl
    show wpAny c.M A (subT (.ref a) (.ref t)) _ _ s
    refine sub_of hxs.typeIs (by simp) slot_dict_getitem.lookup ?_
    exact wpAny_getItem_heap (knd := avKind c.prog c.w) (in1_room hr) hkey hxs (by rw [dlook_atKey]; exact q) ⟨x, σ, S, ⟨Grow.refl _, rfl, rfl⟩, hl, h⟩

theorem storedH_map {K : Type} [DecidableEq K] {xs : List (K × Addr × Value)} {k : K} {a : Addr} {v : Value} (hn : (xs.map (·.1)).Nodup) : (storedH xs k a v).map (fun x => (x.1, x.2.2)) = dput (xs.map fun x => (x.1, x.2.2)) k v := by
  rw [dput_stored (by rw [List.map_map]; exact hn)]
  have hm := atKey_look xs k
  unfold storedH
  rw [dlook_atKey]
  cases q : dlook xs k with
  | none =>
    rw [q] at hm
    rw [← hm]
    simp
  | some p =>
    rw [q] at hm
    rw [← hm]
    simp only [Option.isSome_some, if_true, Option.map_some, List.map_map]
    apply List.map_congr_left
    intro x _
    simp only [Function.comp, putAt]
    split <;> rfl

open Classical in
theorem dictT_write {h h' : Heap} {a : Addr} {es es' : List (List AV × AV)} {xs : List (List AV × Addr × Value)} (S : St c.prog c.w Fz σ h) (e : σ a = some (.dictT es)) (hs : Heap.SameBut a h h') (hd : h'.DictOfH (avKind c.prog c.w) a xs) (r : RVk h' (xs.map fun x => (x.1, x.2.2)) es') :
    St c.prog c.w Fz (σ.set a (.dictT es')) h' ∧ Grow h h' := by
  refine S.write e hs ⟨xs, hd, ?_, ?_⟩
  · have := r.1; rw [List.map_map] at this; exact this
  · have := r.2; rw [List.map_map] at this; exact this

open Classical in
theorem set_dictT {a : Addr} {es : List (List AV × AV)} {k : List AV} {x : AV} {Q : AHeap → Prop} (e : σ a = some (.dictT es)) (hk : Keyeds k) (hd : deeps k ≤ 7) (hz : Fits es.length) (h : Q (σ.set a (.dictT (dput es k x)))) : SetItemOK c d (.ref a) (.tup k) x σ Q X := by
  intro A Fz s ov iv vv hr hb hbs S ro rx rv
  have h2 : ov = .ref a := by cases ro; rfl
  subst h2
  obtain ⟨t, rfl, hkey⟩ := key_at hk hd rx
  obtain ⟨xs, hxs, rk⟩ := dictT_at S e
  have hn : (xs.map (·.1)).Nodup := let ⟨_, _, _, _, _, _, _, _, h⟩ := hxs; h
  have hlen : xs.length = es.length := by have := rk.len; simpa using this
  refine wpAny_setItem_heap (knd := avKind c.prog c.w) (in1_room hr) hkey hxs (fun h' hx' hs => ?_) (by rw [hlen]; exact hz.le)
  obtain ⟨o, es0, ep, ho, _, hdat, _⟩ := hxs
  have g0 : Grow s.heap h' := grow_dict ho hdat hs
  obtain ⟨S', g⟩ := dictT_write (es' := dput es k x) S e hs hx' (by rw [storedH_map hn]; exact (rk.grow g0).put k (rv.grow g0))
  exact ⟨_, S', ⟨g, rfl, rfl⟩, h⟩

open Classical in
theorem look_dictT {a : Addr} {es : List (List AV × AV)} {name : String} {id : String} {Q : AV → List AV → Prop} (slot : Slot "dict" (Str.ofString name) id) (hty : typeOf (.builtin id) = pure (.type "method_descriptor")) (e : σ a = some (.dictT es)) (h : Q (.raw (.builtin id)) [.ref a]) : LookOK c d (.ref a) name σ Q := by
  intro A Fz s v pl E P hr hb hbs S r hP
  have hv : v = .ref a := by cases r; rfl
  subst hv
  obtain ⟨xs, hd, rk⟩ := dictT_at S e
  exact getMethod_builtin hd.typeIs PySem.F.plainAttrs_dict slot hty (fun b eb => by
    cases eb
    obtain ⟨o, _, _, ho, hc, _⟩ := hd
    exact ⟨o, ho, hc.2.1⟩) (hP _ _ _ _ s (.refl s) (.raw _) (.one (.ref a)) h)
open Classical in
theorem look_getT {a : Addr} {es : List (List AV × AV)} {Q : AV → List AV → Prop} (e : σ a = some (.dictT es)) (h : Q (.raw (.builtin "dict.get")) [.ref a]) : LookOK c d (.ref a) "get" σ Q := look_dictT PySem.F.slot_dict_get PySem.F.type_dict_get e h
open Classical in
theorem look_setdefaultT {a : Addr} {es : List (List AV × AV)} {Q : AV → List AV → Prop} (e : σ a = some (.dictT es)) (h : Q (.raw (.builtin "dict.setdefault")) [.ref a]) : LookOK c d (.ref a) "setdefault" σ Q := look_dictT PySem.F.slot_dict_setdefault PySem.F.type_dict_setdefault e h

theorem RVs.four_inv {h : Heap} {vs : List Value} {a b e f : AV} (r : RVs h vs [a, b, e, f]) : ∃ v u w x, vs = [v, u, w, x] ∧ RV h v a ∧ RV h u b ∧ RV h w e ∧ RV h x f := by
  cases r with | cons x r => cases r with | cons y r => cases r with | cons z r => cases r with | cons t r => cases r; exact ⟨_, _, _, _, rfl, x, y, z, t⟩

open Classical in
theorem call_getT {a : Addr} {es : List (List AV × AV)} {k : List AV} {x : AV} (e : σ a = some (.dictT es)) (hk : Keyeds k) (hd : deeps k ≤ 7) (h : Q ((dlook es k).getD x) σ) : CallOK c d (.raw (.builtin "dict.get")) [.ref a, .tup k, x] σ Q X := by
  intro A Fz s vs hr hb hbs S r
  obtain ⟨f, lv, iv, xv, rfl, rf, rl, rx, rd⟩ := r.four_inv
  have h1 : f = .builtin "dict.get" := by cases rf; rfl
  have h2 : lv = .ref a := by cases rl; rfl
  subst h1; subst h2
  obtain ⟨t, rfl, hkey⟩ := key_at hk hd rx
  obtain ⟨xs, hxs, rk⟩ := dictT_at S e
  have hl := rk.look k
  rw [← atKey_look] at hl
  show wpAny c.M A (call (.builtin "dict.get") [.ref a, .ref t, xv]) _ _ s
  refine call_meetsIn PySem.F.slot_dict_get hxs.typeIs PySem.F.entry_dict_get (PySem.F.args_dict_get_3 _ _ _) (meetsH_dict_get_default (avKind c.prog c.w) a t (not_mods hb hbs S e) xv) ⟨in1_room hr, k, xs, hkey, hxs, ?_⟩
  refine ⟨(dlook es k).getD x, σ, S, ⟨Grow.refl _, rfl, rfl⟩, ?_, h⟩
  rw [dlook_atKey]
  cases q : (dlook xs k).map (·.2) with
  | none =>
    rw [q] at hl
    cases q' : dlook es k with
    | none => exact rd
    | some y => rw [q'] at hl; cases hl
  | some v =>
    rw [q] at hl
    cases q' : dlook es k with
    | none => rw [q'] at hl; cases hl
    | some y => rw [q'] at hl; exact hl
end

-- Cx28
set_option Elab.async false
set_option linter.unusedVariables false
set_option linter.unusedSimpArgs false
set_option maxRecDepth 4000

/-! what is not spoken of stays -/
def AHeap.or (σ τ : AHeap) : AHeap := fun a => match σ a with
  | some c => some c
  | none => τ a
def Disj (σ τ : AHeap) : Prop := ∀ a c, σ a = some c → τ a = none
def Sub (σ τ : AHeap) : Prop := ∀ a c, σ a = some c → τ a = some c
theorem Sub.refl (σ : AHeap) : Sub σ σ := fun _ _ h => h
theorem Sub.trans {σ τ υ : AHeap} (h : Sub σ τ) (k : Sub τ υ) : Sub σ υ := fun a c e => k a c (h a c e)
/-- of σ what is not in τ -/
def AHeap.off (σ τ : AHeap) : AHeap := fun a => match τ a with
  | some _ => none
  | none => σ a
theorem or_off {σ τ : AHeap} (h : Sub τ σ) : τ.or (σ.off τ) = σ := by
  funext a
  unfold AHeap.or AHeap.off
  cases e : τ a with
  | none => rfl
  | some c => exact (h a c e).symm
theorem disj_off (σ τ : AHeap) : Disj τ (σ.off τ) := by
  intro a c e
  unfold AHeap.off
  rw [e]
section
variable {c : Cx} {d d' : Nat} {σ τ : AHeap} {Q : AV → AHeap → Prop} {X : Addr → AHeap → Prop} {t : List Value → Sem Value} {as : List AV}
theorem Room.down {A : Around} (h : Room A d') (l : d ≤ d') : Room A d := ⟨by have := h.dep; omega, by have := h.un; omega, h.hn⟩
theorem op_up (h : OpOK c d t as σ Q X) (l : d ≤ d') : OpOK c d' t as σ Q X := fun A Fz s vs hr => h A Fz s vs (hr.down l)
theorem op_mono2 {Q' : AV → AHeap → Prop} {X' : Addr → AHeap → Prop} (h : OpOK c d t as σ Q X) (k : ∀ v σ', Q v σ' → Q' v σ') (kx : ∀ C σ', X C σ' → X' C σ') : OpOK c d t as σ Q' X' := by
  intro A Fz s vs hr hb hbs S r
  refine wpAny_mono (h A Fz s vs hr hb hbs S r) ?_ ?_
  · rintro v s' ⟨av, σ', S', g, rv, q⟩
    exact ⟨av, σ', S', g, rv, k _ _ q⟩
  · rintro e s' ⟨C, σ', S', g, i, q⟩
    exact ⟨C, σ', S', g, i, kx _ _ q⟩
/-- cells are forgotten -/
theorem op_less {Q' : AV → AHeap → Prop} (h : OpOK c d t as σ Q' X) (k : ∀ v σ', Q' v σ' → ∃ σ'', Sub σ'' σ' ∧ Q v σ'') : OpOK c d t as σ Q X := by
  intro A Fz s vs hr hb hbs S r
  refine wpAny_mono (h A Fz s vs hr hb hbs S r) ?_ ?_
  · rintro v s' ⟨av, σ', S', g, rv, q⟩
    obtain ⟨σ'', l, q⟩ := k _ _ q
    exact ⟨av, σ'', S'.less l, g, rv, q⟩
  · exact fun _ _ x => x

/-- the frame -/
theorem op_frame (h : OpOK c d t as τ Q X) (l : Sub τ σ) : OpOK c d t as σ (fun v σ' => ∃ τ', Q v τ' ∧ Disj τ' (σ.off τ) ∧ σ' = τ'.or (σ.off τ)) (fun C σ' => ∃ τ', X C τ' ∧ Disj τ' (σ.off τ) ∧ σ' = τ'.or (σ.off τ)) := by
  intro A Fz s vs hr hb hbs S r
  let Fz' : Fzn := fun a o => Fz a o ∨ (∃ ce, (σ.off τ) a = some ce) ∧ s.heap.get? a = some o
  have off : ∀ {a ce}, (σ.off τ) a = some ce → τ a = none ∧ σ a = some ce := by
    intro a ce e
    unfold AHeap.off at e
    cases q : τ a with
    | none => rw [q] at e; exact ⟨rfl, e⟩
    | some _ => rw [q] at e; cases e
  have S1 : St c.prog c.w Fz' τ s.heap := by
    refine ⟨fun b o x => ?_, fun a ce e => S.cell a ce (l a ce e), fun a ce o e x => ?_⟩
    · rcases x with x | ⟨_, x⟩
      · exact S.fz b o x
      · exact x
    · rcases x with x | ⟨⟨c', e'⟩, _⟩
      · exact S.apart a ce o (l a ce e) x
      · rw [(off e').1] at e; cases e
  have hbs' : Bs c Fz' := fun b o e => .inl (hbs b o e)
  have back : ∀ {τ' : AHeap} {h' : Heap}, St c.prog c.w Fz' τ' h' → Grow s.heap h' → Disj τ' (σ.off τ) ∧ St c.prog c.w Fz (τ'.or (σ.off τ)) h' := by
    intro τ' h' S' g
    have dj : Disj τ' (σ.off τ) := by
      intro a ce e
      cases q : (σ.off τ) a with
      | none => rfl
      | some c' =>
        obtain ⟨o, ho⟩ := (S.cell a c' (off q).2).get
        exact absurd (.inr ⟨⟨c', q⟩, ho⟩) (S'.apart a ce o e)
    refine ⟨dj, fun b o x => S'.fz b o (.inl x), fun a ce e => ?_, fun a ce o e x => ?_⟩
    · unfold AHeap.or at e
      cases q : τ' a with
      | some c' => rw [q] at e; cases e; exact S'.cell a _ q
      | none =>
        rw [q] at e
        exact (S.cell a ce (off e).2).move g fun o ho => S'.fz a o (.inr ⟨⟨ce, e⟩, ho⟩)
    · unfold AHeap.or at e
      cases q : τ' a with
      | some c' => exact S'.apart a c' o q (.inl x)
      | none =>
        rw [q] at e
        exact S.apart a ce o (off e).2 x
  refine wpAny_mono (h A Fz' s vs hr hb hbs' S1 r) ?_ ?_
  · rintro v s' ⟨av, τ', S', g, rv, q⟩
    obtain ⟨dj, S''⟩ := back S' g.g
    exact ⟨av, _, S'', g, rv, τ', q, dj, rfl⟩
  · rintro e s' ⟨C, τ', S', g, ⟨a, o, vs, h1, h2, h3, h4, h5, h6, h7, h8⟩, q⟩
    obtain ⟨dj, S''⟩ := back S' g.g
    have non : ∀ b, (∀ o, ¬ Fz' b o) → τ' b = none → (τ'.or (σ.off τ)) b = none := by
      intro b n e
      unfold AHeap.or
      rw [e]
      cases q : (σ.off τ) b with
      | none => rfl
      | some c' =>
        obtain ⟨o, ho⟩ := (S.cell b c' (off q).2).get
        exact absurd (.inr ⟨⟨c', q⟩, ho⟩) (n o)
    refine ⟨C, _, S'', g, ⟨a, o, vs, h1, h2, h3, h4, h5, fun o x => h6 o (.inl x), non a h6 h7, ?_⟩, τ', q, dj, rfl⟩
    rcases h8 with h8 | ⟨t, to, tvs, k1, k2, k3, k4, k5, k6, k7⟩
    · exact .inl h8
    · exact .inr ⟨t, to, tvs, k1, k2, k3, k4, k5, fun o x => k6 o (.inl x), non t k6 k7⟩

/-- told by what stays: a call that knows only τ -/
theorem op_call (h : OpOK c d' t as τ Q X) (l : Sub τ σ) (ld : d' ≤ d) {Q' : AV → AHeap → Prop} {X' : Addr → AHeap → Prop} (k : ∀ v τ' σ', Q v τ' → Sub τ' σ' → (∀ a ce, τ a = none → σ a = some ce → σ' a = some ce ∧ τ' a = none) → Q' v σ') (kx : ∀ C τ' σ', X C τ' → Sub τ' σ' → (∀ a ce, τ a = none → σ a = some ce → σ' a = some ce ∧ τ' a = none) → X' C σ') : OpOK c d t as σ Q' X' := by
  have key : ∀ {τ' : AHeap}, Disj τ' (σ.off τ) → Sub τ' (τ'.or (σ.off τ)) ∧ ∀ a ce, τ a = none → σ a = some ce → (τ'.or (σ.off τ)) a = some ce ∧ τ' a = none := by
    intro τ' dj
    refine ⟨fun a ce e => by unfold AHeap.or; rw [e], fun a ce e1 e2 => ?_⟩
    have e3 : (σ.off τ) a = some ce := by unfold AHeap.off; rw [e1]; exact e2
    have e4 : τ' a = none := by
      cases q : τ' a with
      | none => rfl
      | some c' => have := dj a c' q; rw [e3] at this; cases this
    exact ⟨by unfold AHeap.or; rw [e4]; exact e3, e4⟩
  refine op_mono2 (op_up (op_frame h l) ld) ?_ ?_
  · rintro v σ' ⟨τ', q, dj, rfl⟩
    exact k v τ' _ q (key dj).1 (key dj).2
  · rintro C σ' ⟨τ', q, dj, rfl⟩
    exact kx C τ' _ q (key dj).1 (key dj).2
end

-- Cx29
set_option Elab.async false
set_option linter.unusedVariables false
set_option linter.unusedSimpArgs false
set_option maxRecDepth 4000

/-! dict.setdefault, keys on the heap -/
section
variable {prog : Program} {w : World} {K : Type} [DecidableEq K] {knd : HeapKind prog w K} {A : Around} {E : Value → Shared → Prop} {s : Shared}
theorem setDefaultH {d a : Addr} {xs : List (K × Addr × Value)} {k : K} {v : Value} {Q : Value → Shared → Prop} (hu : knd.room A) (hkey : knd.is s.heap k a) (hm : s.heap.DictOfH knd d xs) (hsz : xs.length ≤ sizeLine)
    (h1 : ∀ p, atKey xs k = some p → Q p.2 { s with toks := s.toks + knd.draws k })
    (h2 : atKey xs k = none → ∀ h', h'.DictOfH knd d (storedH xs k a v) → Heap.SameBut d s.heap h' → Q v { s with heap := h', toks := s.toks + knd.draws k }) :
    wpAny (model prog w) A (dictSetDefault d (.ref a) v) Q E s := by
  obtain ⟨o, es, ep, ho, hc, hd, he, his, hn⟩ := hm
  unfold dictSetDefault
  try with_reducible refine wpAny_holding ?_
  refine wpAny_bind (knd.pyHash hu hkey ?_)
  refine wpAny_bind (wpAny_dictFind_heap (s := { s with toks := s.toks + knd.draws k }) hu hkey ho hd he his hn ?_ ?_)
  · intro hno
    have hnone := atKey_none_of_get hno
    have hnot : k ∉ xs.map (·.1) := not_mem_keys_of_get hno
    refine wpAny_bind (wpAny_rule (wpAny_bind (wpAny_updateDictKeys (hz := by have e := size_of_entries he; omega) (s := { s with toks := s.toks + knd.draws k }) ho hd (wpAny_pure (h2 hnone _ ⟨_, _, ep + 1, Heap.get?_update_self _ ho (Obj.isFreed_of_dict (Obj.data_mapDictKeys hd _)),
      hc.mapDictKeys _, Obj.data_mapDictKeys hd _, ?_, ?_, ?_⟩ (Heap.SameBut.update ..))))))
    · rw [storedH_new hnone]
      simp [he, entryOfKey]
    · rw [storedH_new hnone]
      intro x hx
      rcases List.mem_append.mp hx with hx | hx
      · exact knd.keeps (his x hx) ho hd (Heap.SameBut.update ..)
      · obtain rfl := List.mem_singleton.mp hx
        exact knd.keeps hkey ho hd (Heap.SameBut.update ..)
    · rw [storedH_new hnone, List.map_append, List.nodup_append]
      refine ⟨hn, by simp, fun x hx y hy e => hnot ?_⟩
      obtain rfl := List.mem_singleton.mp hy
      exact e ▸ hx
  · intro j p hj
    refine wpAny_bind (wpAny_dictEntries (s := { s with toks := s.toks + knd.draws k }) ho hd ?_)
    rw [entry_at he j, hj]
    exact wpAny_bind (wpAny_rule (wpAny_pure (h1 p (atKey_of_get hn hj))))

theorem meetsH_setdefault (d a : Addr) (hd : (d == sysModules) = false) (dflt : Value) :
    MeetsIn prog w (Builtin.«dict.setdefault» ⟨[.ref d, .ref a, dflt], []⟩) (fun A R s => knd.room A.in1 ∧ ∃ k xs, knd.is s.heap k a ∧ s.heap.DictOfH knd d xs ∧ xs.length ≤ sizeLine ∧
      (∀ p, atKey xs k = some p → R (.ok (.ret p.2)) { s with toks := s.toks + knd.draws k }) ∧
      (atKey xs k = none → ∀ h', h'.DictOfH knd d (storedH xs k a dflt) → Heap.SameBut d s.heap h' → R (.ok (.ret dflt)) { s with heap := h', toks := s.toks + knd.draws k })) :=
  .of_wp fun A R s ⟨hu, k, xs, hkey, hm, hsz, h1, h2⟩ => by
    unfold Builtin.«dict.setdefault»
    refine wpAny_bind ?_
    unfold Builtin.Dict.keyAndDefault
    refine wpAny_bind (wpAny_notOrdered_dict hm.typeIs ?_)
    show wpAny _ _ (pure (d, Value.ref a, some dflt)) _ _ s
    refine wpAny_pure ?_
    show wpAny _ _ (if (d == sysModules) = true then _ else (dictSetDefault d (.ref a) dflt >>= _)) _ _ s
    rw [if_neg (by rw [hd]; exact Bool.false_ne_true)]
    exact wpAny_bind (setDefaultH hu hkey hm hsz (fun p hp => wpAny_pure ⟨p.2, rfl, h1 p hp⟩) fun hn h' hm' hs' => wpAny_pure ⟨dflt, rfl, h2 hn h' hm' hs'⟩)
end

section
variable {c : Cx} {d : Nat} {σ : AHeap} {Q : AV → AHeap → Prop} {X : Addr → AHeap → Prop} {A : Around} {E : Value → Shared → Prop} {s : Shared} {Fz : Fzn}
open Classical in
theorem call_setdefaultT {a : Addr} {es : List (List AV × AV)} {k : List AV} {x : AV} (e : σ a = some (.dictT es)) (hk : Keyeds k) (hd : deeps k ≤ 7) (hz : Fits es.length)
    (h1 : ∀ y, dlook es k = some y → Q y σ) (h2 : dlook es k = none → Q x (σ.set a (.dictT (dput es k x)))) : CallOK c d (.raw (.builtin "dict.setdefault")) [.ref a, .tup k, x] σ Q X := by
  intro A Fz s vs hr hb hbs S r
  obtain ⟨f, lv, iv, xv, rfl, rf, rl, rx, rd⟩ := r.four_inv
  have h1' : f = .builtin "dict.setdefault" := by cases rf; rfl
  have h2' : lv = .ref a := by cases rl; rfl
  subst h1'; subst h2'
  obtain ⟨t, rfl, hkey⟩ := key_at hk hd rx
  obtain ⟨xs, hxs, rk⟩ := dictT_at S e
  have hl := rk.look k
  rw [← atKey_look] at hl
  have hn : (xs.map (·.1)).Nodup := let ⟨_, _, _, _, _, _, _, _, h⟩ := hxs; h
  have hlen : xs.length = es.length := by have := rk.len; simpa using this
  show wpAny c.M A (call (.builtin "dict.setdefault") [.ref a, .ref t, xv]) _ _ s
  refine call_meetsIn PySem.F.slot_dict_setdefault hxs.typeIs PySem.F.entry_dict_setdefault (PySem.F.args_dict_setdefault_3 _ _ _) (meetsH_setdefault (knd := avKind c.prog c.w) a t (not_mods hb hbs S e) xv) ⟨in1_room hr, k, xs, hkey, hxs, by rw [hlen]; exact hz.le, ?_, ?_⟩
  · intro p hp
    rw [dlook_atKey] at hp
    rw [hp] at hl
    cases q : dlook es k with
    | none => rw [q] at hl; exact hl.elim
    | some y =>
      rw [q] at hl
      exact ⟨y, σ, S, ⟨Grow.refl _, rfl, rfl⟩, hl, h1 y q⟩
  · intro hp h' hx' hs
    rw [dlook_atKey] at hp
    rw [hp] at hl
    have q : dlook es k = none := by
      cases q : dlook es k with
      | none => rfl
      | some y => rw [q] at hl; exact hl.elim
    obtain ⟨o, es0, ep, ho, _, hdat, _⟩ := hxs
    have g0 : Grow s.heap h' := grow_dict ho hdat hs
    obtain ⟨S', g⟩ := dictT_write (es' := dput es k x) S e hs hx' (by rw [storedH_map hn]; exact (rk.grow g0).put k (rd.grow g0))
    exact ⟨x, _, S', ⟨g, rfl, rfl⟩, rd.grow g0, h2 q⟩
end

-- Cx30
set_option Elab.async false
set_option linter.unusedVariables false
set_option linter.unusedSimpArgs false
set_option maxRecDepth 20000

section
variable {c : Cx} {d : Nat} {σ : AHeap} {Q : AV → AHeap → Prop} {X : Addr → AHeap → Prop} {A : Around} {E : Value → Shared → Prop} {s : Shared} {Fz : Fzn}
def intL (ns : List Int) : List AV := ns.map .int
theorem intL_are {h : Heap} : ∀ {vs : List Value} {ns : List Int}, RVs h vs (intL ns) → IntsAre vs ns
  | _, [], .nil => .nil
  | _, n :: ns, .cons r rs => by cases r with | int _ t => exact .cons n t (intL_are rs)
theorem are_intL {h : Heap} : ∀ {vs : List Value} {ns : List Int}, IntsAre vs ns → RVs h vs (intL ns)
  | _, _, .nil => .nil
  | _, _, .cons n t r => .cons (.int n t) (are_intL r)
/-- nothing that stood has changed -/
theorem out_keep {s : Shared} {s' : Shared} {v : Value} {av : AV} (S : St c.prog c.w Fz σ s.heap) (k : ∀ b o, s.heap.get? b = some o → s'.heap.get? b = some o) (r : RV s'.heap v av) (q : Q av σ) (kk : Kept s s' := by exact ⟨rfl, rfl⟩) : OPost c Fz s Q v s' :=
  ⟨av, σ, S.more (grow_keeps k) k, ⟨grow_keeps k, kk⟩, r, q⟩

theorem call_sorted_ints {l : Addr} {ns : List Int} (e : σ l = some (.list (intL ns))) (hz : ns.length < 64) (h : ∀ (m : Addr) (ms : List Int), ms.Perm ns → ms.Pairwise (· ≤ ·) → σ m = none → Q (.ref m) (σ.set m (.list (intL ms)))) : CallOK c d (.raw (.builtin "sorted")) [.ref l] σ Q X := by
  intro A Fz s vs hr hb hbs S r
  obtain ⟨f, lv, rfl, rf, rl⟩ := r.two_inv
  have h1 : f = .builtin "sorted" := by cases rf; rfl
  have h2 : lv = .ref l := by cases rl; rfl
  subst h1; subst h2
  obtain ⟨its, n, hl, ri⟩ := list_at S e
  have hI := intL_are ri
  have hlen : its.toList.length = ns.length := hI.length
  show wpAny c.M A (call (.builtin "sorted") [.ref l]) _ _ s
  refine sorted_ints (vs := its.toList) (ns := ns) (by simpa using hl.isList) hI (by omega) fun out ms h1 h2 h3 => ?_
  obtain ⟨e', he⟩ := sortedAll_at s.heap its.toList out
  have k : ∀ b o, s.heap.get? b = some o → (sortedAll s.heap its.toList out).get? b = some o := fun b o => sortedAll_old
  obtain ⟨S', g, hσ⟩ := S.new (c := .list (intL ms)) (a := s.heap.objs.size + 1) (fun o ho => Nat.lt_asymm (Nat.lt_succ_self _) (Heap.lt_size ho)) k ⟨out, e', he, are_intL h1⟩
  exact ⟨.ref _, _, S', ⟨g, rfl, rfl⟩, .ref _, h _ _ h2 h3 hσ⟩

theorem call_max2 {a b : Int} (h : Q (.int (if b > a then b else a)) σ) : CallOK c d (.raw (.builtin "max")) [.int a, .int b] σ Q X := by
  intro A Fz s vs hr hb hbs S r
  obtain ⟨f, x, y, rfl, rf, rx, ry⟩ := r.three_inv
  have h1 : f = .builtin "max" := by cases rf; rfl
  subst h1
  cases rx with | int _ t =>
  cases ry with | int _ u =>
  show wpAny c.M A (call (.builtin "max") [.int a t, .int b u]) _ _ s
  refine max_two_ints hr.hn fun h' tk k => ?_
  refine out_keep S k ?_ h
  split <;> exact .int _ _
theorem call_min2 {a b : Int} (h : Q (.int (if b < a then b else a)) σ) : CallOK c d (.raw (.builtin "min")) [.int a, .int b] σ Q X := by
  intro A Fz s vs hr hb hbs S r
  obtain ⟨f, x, y, rfl, rf, rx, ry⟩ := r.three_inv
  have h1 : f = .builtin "min" := by cases rf; rfl
  subst h1
  cases rx with | int _ t =>
  cases ry with | int _ u =>
  show wpAny c.M A (call (.builtin "min") [.int a t, .int b u]) _ _ s
  refine min_two_ints hr.hn fun h' tk k => ?_
  refine out_keep S k ?_ h
  split <;> exact .int _ _
theorem list_intItems {l : Addr} {ns : List Int} (S : St c.prog c.w Fz σ s.heap) (e : σ l = some (.list (intL ns))) : ∃ xs, s.heap.IsList l (intItems xs) ∧ xs.toList.map (·.1) = ns := by
  obtain ⟨its, n, hl, ri⟩ := list_at S e
  have hI := intL_are ri
  obtain ⟨xs, hx⟩ := (hI.allInts).items
  have h2 : its = intItems xs := by simpa using hx
  refine ⟨xs, h2 ▸ hl.isList, ?_⟩
  rw [← nums_intItems, ← hI.numsOf, h2]
theorem call_max_list {l : Addr} {ns : List Int} (e : σ l = some (.list (intL ns))) (hne : ns ≠ []) (h : ∀ m, m ∈ ns → (∀ a ∈ ns, a ≤ m) → Q (.int m) σ) : CallOK c d (.raw (.builtin "max")) [.ref l] σ Q X := by
  intro A Fz s vs hr hb hbs S r
  obtain ⟨f, lv, rfl, rf, rl⟩ := r.two_inv
  have h1 : f = .builtin "max" := by cases rf; rfl
  have h2 : lv = .ref l := by cases rl; rfl
  subst h1; subst h2
  obtain ⟨xs, hl, rfl⟩ := list_intItems S e
  have hsz : 0 < xs.size := by
    rcases Nat.eq_zero_or_pos xs.size with q | q
    · exact absurd (by rw [Array.size_eq_zero_iff.mp q]; rfl) hne
    · exact q
  show wpAny c.M A (call (.builtin "max") [.ref l]) _ _ s
  refine max_intList hr.hn hl hsz fun v h' tk hv hk => ?_
  obtain ⟨t, rfl⟩ := intItems_at hv
  obtain ⟨h1, h2⟩ := argBest_gt (numAt xs) (xs.size - 1)
  refine out_keep (s' := { s with heap := h', toks := tk }) S hk (.int _ t) (h _ ?_ fun a ha => ?_)
  · rw [numAt_eq]; exact getD_mem (by rw [List.length_map, Array.length_toList]; omega)
  · obtain ⟨j, hj, rfl⟩ := mem_getD ha
    rw [List.length_map, Array.length_toList] at hj
    rw [← numAt_eq]; exact h2 j (by omega)
theorem call_sum_list {l : Addr} {ns : List Int} (e : σ l = some (.list (intL ns))) (h : Q (.int ns.sum) σ) : CallOK c d (.raw (.builtin "sum")) [.ref l] σ Q X := by
  intro A Fz s vs hr hb hbs S r
  obtain ⟨f, lv, rfl, rf, rl⟩ := r.two_inv
  have h1 : f = .builtin "sum" := by cases rf; rfl
  have h2 : lv = .ref l := by cases rl; rfl
  subst h1; subst h2
  obtain ⟨xs, hl, rfl⟩ := list_intItems S e
  show wpAny c.M A (call (.builtin "sum") [.ref l]) _ _ s
  refine sum_intListG hr.hn hl fun h' tk t hk => ?_
  refine out_keep (s' := { s with heap := h', toks := tk }) S hk (av := .int (xs.toList.map (·.1)).sum) ?_ h
  rw [preSum_eq, List.take_of_length_le (by simp)]
  exact .int _ t
theorem call_abs {a : Int} (h : Q (.int (if a < 0 then -a else a)) σ) : CallOK c d (.raw (.builtin "abs")) [.int a] σ Q X := by
  intro A Fz s vs hr hb hbs S r
  obtain ⟨f, x, rfl, rf, rx⟩ := r.two_inv
  have h1 : f = .builtin "abs" := by cases rf; rfl
  subst h1
  cases rx with | int _ t =>
  show wpAny c.M A (call (.builtin "abs") [.int a t]) _ _ s
  exact call_abs_int fun u tk => out_keep (s' := { s with toks := tk }) S (fun _ _ x => x) (.int _ u) h

theorem call_str_int {a : Int} (ha : Small a) (h : Q (.str (toString a)) σ) : CallOK c d (.raw (.type "str")) [.int a] σ Q X := by
  intro A Fz s vs hr hb hbs S r
  obtain ⟨f, x, rfl, rf, rx⟩ := r.two_inv
  have h1 : f = .type "str" := by cases rf; rfl
  subst h1
  cases rx with | int _ t =>
  show wpAny c.M A (call (.type "str") [.int a t]) _ _ s
  refine PySem.P.str_of_int ?_ (out_keep (s' := { s with toks := s.toks + 1 }) S (fun _ _ x => x) (.str (toString a) _ _ rfl) h)
  unfold Small at ha
  rcases Nat.eq_zero_or_pos a.natAbs with q | q
  · rw [q]; decide
  · have := (Nat.log2_lt (by omega : a.natAbs ≠ 0)).mpr (Nat.lt_of_lt_of_le ha (Nat.pow_le_pow_right (by decide) (by decide : 62 ≤ 1920)))
    exact this
theorem ofString_append (x y : String) : Str.ofString x ++ Str.ofString y = Str.ofString (x ++ y) := by
  rw [Str.ofString_eq_toList, Str.ofString_eq_toList, Str.ofString_eq_toList]
  show (⟨_⟩ : Str) = _
  congr 1
  simp
theorem bin_add_str {x y : String} (hz : x.length + y.length ≤ 100000) (h : Q (.str (x ++ y)) σ) : BinOK c d .Add (.str x) (.str y) σ Q X := by
  refine pure_bin (r := .str (x ++ y)) (fun A s E P u v _ ru rv k => ?_) h
  cases ru with | str _ y1 t1 e1 =>
  cases rv with | str _ y2 t2 e2 =>
  subst e1; subst e2
  refine PyProof.Rows.add_str (fun t' tk => k _ _ ⟨rfl, rfl, rfl⟩ (.str _ _ _ (ofString_append x y))) ?_
  rw [ofString_len, ofString_len, sizeLine_eq]; omega

/-- the places of a str, one by one -/
def chars (x : String) : List AV := x.toList.map fun ch => .str (String.singleton ch)
theorem cps_at {x : String} {i : Nat} {ch : Char} (h : x.toList[i]? = some ch) : (Str.ofString x).cps[i]? = some ch.toNat := by
  rw [Str.ofString_eq_toList]
  simp [h]
theorem ofString_single (ch : Char) : Str.ofString (String.singleton ch) = ⟨#[ch.toNat]⟩ := by
  rw [Str.ofString_eq_toList]
  simp
theorem sub_str {x : String} {i : Int} {k : Nat} {ch : Char} (hi : seqIndex? i x.length = some k) (hx : x.toList[k]? = some ch) (hf : -(100000 : Int) ≤ i ∧ i ≤ 100000) (h : Q (.str (String.singleton ch)) σ) : SubOK c d (.str x) (.int i) σ Q X := by
  intro A Fz s vs hr hb hbs S r
  obtain ⟨u, v, rfl, ru, rv⟩ := r.two_inv
  cases ru with | str _ y1 t1 e1 =>
  cases rv with | int _ t2 =>
  subst e1
  refine sub_of (typeIs_str s _ t1) (by intro q; cases q) PySem.F.slot_str_getitem.lookup ?_
  refine PyProof.Rows.getItem_str (c := ch.toNat) ?_ ?_ (out_keep (s' := { s with toks := s.toks + 1 }) S (fun _ _ x => x) (.str _ _ _ (ofString_single ch).symm) h)
  · simp only [Bool.or_eq_false_iff, decide_eq_false_iff_not]
    constructor <;> omega
  · rw [ofString_len, hi]
    exact cps_at hx

theorem look_str_meth {x : String} {name : String} {id : String} {Q : AV → List AV → Prop} (slot : Slot "str" (Str.ofString name) id) (hty : typeOf (.builtin id) = pure (.type "method_descriptor")) (h : Q (.raw (.builtin id)) [.str x]) : LookOK c d (.str x) name σ Q := by
  intro A Fz s v pl E P hr hb hbs S r hP
  cases r with | str _ y1 t1 e1 =>
  subst e1
  exact getMethod_builtin (typeIs_str s _ t1) PySem.F.plainAttrs_str slot hty (fun b eb => by cases eb) (hP _ _ _ _ s (.refl s) (.raw _) (.one (.str _ _ t1 rfl)) h)
theorem look_isspace {x : String} {Q : AV → List AV → Prop} (h : Q (.raw (.builtin "str.isspace")) [.str x]) : LookOK c d (.str x) "isspace" σ Q := look_str_meth PySem.F.slot_str_isspace PySem.F.type_str_isspace h
theorem call_isspace {x : String} (h : Q (.bool (Txt.isspace (Str.ofString x))) σ) : CallOK c d (.raw (.builtin "str.isspace")) [.str x] σ Q X := by
  intro A Fz s vs hr hb hbs S r
  obtain ⟨f, v, rfl, rf, rv⟩ := r.two_inv
  have h1 : f = .builtin "str.isspace" := by cases rf; rfl
  subst h1
  cases rv with | str _ y1 t1 e1 =>
  subst e1
  show wpAny c.M A (call (.builtin "str.isspace") [.str (Str.ofString x) t1]) _ _ s
  exact PySem.call_gives PySem.F.slot_str_isspace (typeIs_str s _ t1) PySem.F.entry_str_isspace (PySem.F.args_str_isspace_1 _) (PySem.gives_str_isspace _ t1) (out_keep S (fun _ _ x => x) (.bool _) h)
theorem cmp_in_str {x y : String} (h : Q (.bool !(Builtin.Str.occurrences (Str.ofString x) (Str.ofString y) 0 (Str.ofString x).length 1).isEmpty) σ) : CmpOK c d .In (.str y) (.str x) σ Q X := by
  refine pure_cmp (r := .bool _) (fun A s E P u v _ ru rv k => ?_) h
  cases ru with | str _ y1 t1 e1 =>
  cases rv with | str _ y2 t2 e2 =>
  subst e1; subst e2
  exact PyProof.Rows.in_str (k _ _ (.refl s) (.bool _))

theorem unpack_list {l : Addr} {xs : List AV} {n : Nat} {Q : List AV → Prop} (e : σ l = some (.list xs)) (hn : xs.length = n) (h : Q xs) : UnpackOK c d (.ref l) n σ Q := by
  refine unpack_it (fun A Fz s v E P hr hb hbs S r hP => ?_) (iter_list e ⟨hn, e, h⟩)
  have hv : v = .ref l := by cases r; rfl
  subst hv
  obtain ⟨its, n', hl, ri⟩ := list_at S e
  unfold notIterableAtAll
  refine wpAny_bind (wpAny_specialOf hl.isList.typeIs PySem.F.slot_list_iter.lookup ?_)
  exact wpAny_pure hP
end

-- Cx31
set_option Elab.async false
set_option linter.unusedVariables false
set_option linter.unusedSimpArgs false
set_option maxRecDepth 20000

section
variable {c : Cx} {d : Nat} {σ : AHeap} {Q : AV → AHeap → Prop} {X : Addr → AHeap → Prop} {A : Around} {E : Value → Shared → Prop} {s : Shared} {Fz : Fzn}
theorem strIter_notLasting {h : Heap} {a : Addr} {x : Str} {t : Tok} {i : Nat} {o : Obj} (y : h.IsStrIter a "str_ascii_iterator" x t i) (e : h.get? a = some o) : ¬ Lasting o := by
  obtain ⟨o', e', hc, hd⟩ := y
  rw [e] at e'; cases e'
  rintro (⟨h1, _⟩ | ⟨h1 | h1, _⟩) <;> (rw [hc] at h1; injection h1 with h1; exact absurd h1 (by decide))
theorem chars_at {x : String} {i : Nat} : (chars x)[i]? = (x.toList[i]?).map fun ch => .str (String.singleton ch) := by simp [chars]
theorem it_str {it : Addr} {x : String} {t : Tok} : ItSpec c d false (.ref it) (fun a => a = it) (fun rest h => ∃ i, h.IsStrIter it "str_ascii_iterator" (Str.ofString x) t i ∧ rest = (chars x).drop i) (fun _ rest h => ∃ i, h.IsStrIter it "str_ascii_iterator" (Str.ofString x) t i ∧ rest = (chars x).drop i) (fun _ => True) where
  there := by rintro l h ⟨i, ⟨o, e, _⟩, _⟩ a rfl; exact ⟨o, e⟩
  still := by rintro l h h' ⟨i, ⟨o, e, r⟩, q⟩ k g; exact ⟨i, ⟨o, k _ _ rfl e, r⟩, q⟩
  again := by rintro A l s E R hr ⟨i, hi, _⟩ h; exact wpAny_pyIter_striter_ascii hi h
  next := by
    rintro A Fz σ rest s E R hr hbs S hk hf hσ ⟨i, hi, rfl⟩ hR
    obtain ⟨o, ho, _⟩ := id hi
    have hnl := strIter_notLasting hi ho
    cases hd : (chars x).drop i with
    | nil =>
      have hn := get_none_of_drop hd
      rw [chars_at] at hn
      have hx : (Str.ofString x).cps[i]? = none := by
        rw [Str.ofString_eq_toList]
        simp only [List.getElem?_toArray, List.getElem?_map]
        cases q : x.toList[i]? with
        | none => rfl
        | some ch => rw [q] at hn; cases hn
      refine wpAny_pyNext_ascii_end hr.hn hi hx fun h' he => ?_
      obtain ⟨S', g⟩ := S.extWrite (fun o => hf it o rfl) (hσ it rfl) he ho hnl
      exact hR none _ S' ⟨g, rfl, rfl⟩ (by rw [hd])
    | cons y r =>
      obtain ⟨h1, h2⟩ := drop_cons hd
      rw [chars_at] at h1
      cases q : x.toList[i]? with
      | none => rw [q] at h1; cases h1
      | some ch =>
        rw [q] at h1
        have hy : y = .str (String.singleton ch) := by simpa using h1.symm
        subst hy
        refine wpAny_pyNext_ascii_item hi (cps_at q) fun h' hi' hs => ?_
        obtain ⟨S', g⟩ := S.apartWrite (fun o => hf it o rfl) (hσ it rfl) hs ho hnl
        refine hR (some _) _ S' ⟨g, rfl, rfl⟩ ?_
        rw [hd]
        exact ⟨_, rfl, .str _ _ _ (ofString_single ch).symm, i + 1, hi', h2.symm⟩
  letGo := by
    rintro A Fz σ l s v t E R _ hr S hf hσ ⟨i, hi, q⟩ hR
    obtain ⟨o, ho, hc, _⟩ := id hi
    exact letGo_other ho hc (by decide) (hR s S (.refl _) ⟨i, hi, q⟩)
theorem iter_str {x : String} {Q : List AV → (AHeap → Prop) → Prop} (ha : (x.toList.all fun ch => decide (ch.toNat < 128)) = true) (h : Q (chars x) (fun _ => True)) : IterOK c d (.str x) σ Q := by
  refine ⟨chars x, _, h, ?_⟩
  intro A Fz s v E R hr hb hbs S r k
  cases r with | str _ y1 t1 e1 =>
  subst e1
  refine wpAny_pyIter_ascii ?_ ?_
  · rw [Str.ofString_eq_toList]
    simp only [List.all_toArray, List.all_map]
    exact ha
  · exact k (.ref s.heap.objs.size) (fun a => a = s.heap.objs.size) _ _ (S.push _) (keeps_push s.heap _) ⟨rfl, rfl⟩ (by rintro a o rfl; exact not_there _ _) (it_str (x := x) (t := t1)) ⟨0, ⟨_, Heap.get?_push_size _ rfl, rfl, rfl⟩, by simp⟩
end

-- Cx32
set_option Elab.async false
set_option linter.unusedVariables false
set_option linter.unusedSimpArgs false
set_option maxRecDepth 20000

theorem Ris.lt {xs : Array Nat} (h : Ris xs) {i j : Nat} (hij : i < j) (hj : j < xs.size) : xs.getD i 0 < xs.getD j 0 := by
  have := List.pairwise_iff_getElem.mp h i j (by simpa using Nat.lt_trans hij hj) (by simpa using hj) hij
  simpa [Array.getD, hj, Nat.lt_trans hij hj] using this
theorem Ris.mono {xs : Array Nat} (h : Ris xs) {i j : Nat} (hij : i ≤ j) (hj : j < xs.size) : xs.getD i 0 ≤ xs.getD j 0 := by
  rcases Nat.lt_or_ge i j with q | q
  · exact Nat.le_of_lt (h.lt q hj)
  · have : i = j := by omega
    subst this; exact Nat.le_refl _
theorem getD_any (xs : Array Nat) {i : Nat} (h : i < xs.size) (a b : Nat) : xs.getD i a = xs.getD i b := by simp [Array.getD, h]
theorem below_go {xs : Array Nat} (h : Ris xs) (j : Nat) : ∀ (fuel lo hi : Nat), hi ≤ xs.size → lo ≤ hi → hi - lo ≤ fuel → (∀ k, k < lo → xs.getD k 0 < j) → (∀ k, hi ≤ k → k < xs.size → j ≤ xs.getD k 0) →
    SetTable.below.go xs j fuel lo hi ≤ xs.size ∧ (∀ k, k < SetTable.below.go xs j fuel lo hi → xs.getD k 0 < j) ∧ (∀ k, SetTable.below.go xs j fuel lo hi ≤ k → k < xs.size → j ≤ xs.getD k 0)
  | 0, lo, hi, h1, h2, h3, h4, h5 => by
    have : lo = hi := by omega
    subst this
    exact ⟨h1, h4, h5⟩
  | fuel + 1, lo, hi, h1, h2, h3, h4, h5 => by
    unfold SetTable.below.go
    by_cases q : lo < hi
    · rw [if_pos q]
      have hm : (lo + hi) / 2 < hi := by omega
      have hm2 : lo ≤ (lo + hi) / 2 := by omega
      have hms : (lo + hi) / 2 < xs.size := by omega
      dsimp only
      rw [getD_any xs hms j 0]
      by_cases hlt : xs.getD ((lo + hi) / 2) 0 < j
      · rw [if_pos hlt]
        refine below_go h j fuel _ _ h1 (by omega) (by omega) (fun k hk => ?_) h5
        exact Nat.lt_of_le_of_lt (h.mono (by omega : k ≤ (lo + hi) / 2) hms) hlt
      · rw [if_neg hlt]
        have hge := hlt
        refine below_go h j fuel _ _ (by omega) hm2 (by omega) h4 (fun k hk hk2 => ?_)
        exact Nat.le_trans (Nat.le_of_not_lt hge) (h.mono hk hk2)
    · rw [if_neg q]
      have : lo = hi := by omega
      subst this
      exact ⟨h1, h4, h5⟩
theorem below_spec {xs : Array Nat} (h : Ris xs) (j : Nat) : SetTable.below xs j ≤ xs.size ∧ (∀ k, k < SetTable.below xs j → xs.getD k 0 < j) ∧ (∀ k, SetTable.below xs j ≤ k → k < xs.size → j ≤ xs.getD k 0) :=
  below_go h j _ _ _ (Nat.le_refl _) (Nat.zero_le _) (by omega) (fun k hk => absurd hk (Nat.not_lt_zero _)) (fun k hk hk2 => absurd hk2 (Nat.not_lt.mpr hk))
theorem below_zero {xs : Array Nat} (h : Ris xs) : SetTable.below xs 0 = 0 := by
  have := (below_spec h 0).2.1
  rcases Nat.eq_zero_or_pos (SetTable.below xs 0) with q | q
  · exact q
  · exact absurd (this 0 q) (Nat.not_lt_zero _)
theorem below_next {xs : Array Nat} (h : Ris xs) {i : Nat} (hi : i < xs.size) : SetTable.below xs (xs.getD i 0 + 1) = i + 1 := by
  obtain ⟨h1, h2, h3⟩ := below_spec h (xs.getD i 0 + 1)
  rcases Nat.lt_trichotomy (SetTable.below xs (xs.getD i 0 + 1)) (i + 1) with q | q | q
  · have := h3 i (by omega) hi
    omega
  · exact q
  · have a := h2 (i + 1) q
    have b := h.lt (show i < i + 1 by omega) (by omega)
    omega
theorem below_put {xs : Array Nat} (h : Ris xs) {j : Nat} (hj : xs[SetTable.below xs j]? ≠ some j) : Ris (SetTable.insertAt xs (SetTable.below xs j) j) := by
  obtain ⟨h1, h2, h3⟩ := below_spec h j
  unfold Ris SetTable.insertAt
  rw [Array.toList_append, Array.toList_push, Array.toList_extract, Array.toList_extract]
  have hp := List.pairwise_iff_getElem.mp h
  have ht : ∀ a ∈ xs.toList.take (SetTable.below xs j), a < j := by
    intro a ha
    obtain ⟨k, hk, rfl⟩ := List.mem_iff_getElem.mp ha
    simp only [List.length_take, Array.length_toList] at hk
    have := h2 k (by omega)
    have hks : k < xs.size := by omega
    simpa [Array.getD, hks] using this
  have hd : ∀ a ∈ xs.toList.drop (SetTable.below xs j), j < a := by
    intro a ha
    obtain ⟨k, hk, rfl⟩ := List.mem_iff_getElem.mp ha
    simp only [List.length_drop, Array.length_toList] at hk
    have hks : SetTable.below xs j + k < xs.size := by omega
    have h4 := h3 (SetTable.below xs j + k) (by omega) hks
    have e : xs.getD (SetTable.below xs j + k) 0 = xs[SetTable.below xs j + k] := by simp [Array.getD, hks]
    rw [e] at h4
    rw [List.getElem_drop, Array.getElem_toList]
    rcases Nat.lt_or_ge j xs[SetTable.below xs j + k] with q | q
    · exact q
    · exfalso
      have hb : SetTable.below xs j < xs.size := by omega
      have h5 := h3 _ (Nat.le_refl _) hb
      have h6 := h.mono (by omega : SetTable.below xs j ≤ SetTable.below xs j + k) hks
      rw [e] at h6
      have e2 : xs.getD (SetTable.below xs j) 0 = xs[SetTable.below xs j] := by simp [Array.getD, hb]
      rw [e2] at h5 h6
      exact hj (by rw [Array.getElem?_eq_getElem hb]; congr 1; omega)
  have ht2 : (xs.toList.extract 0 (SetTable.below xs j)) = xs.toList.take (SetTable.below xs j) := by simp [List.extract_eq_take_drop]
  have hd2 : (xs.toList.extract (SetTable.below xs j) xs.size) = xs.toList.drop (SetTable.below xs j) := by
    rw [List.extract_eq_take_drop]
    exact List.take_of_length_le (by simp)
  rw [ht2, hd2, List.append_assoc, List.pairwise_append]
  refine ⟨h.sublist (List.take_sublist _ _), ?_, ?_⟩
  · rw [List.singleton_append, List.pairwise_cons]
    exact ⟨fun a ha => hd a ha, h.sublist (List.drop_sublist _ _)⟩
  · intro a ha b hb
    rcases List.mem_append.mp hb with hb | hb
    · obtain rfl := List.mem_singleton.mp hb; exact ht a ha
    · exact Nat.lt_trans (ht a ha) (hd b hb)
theorem ris_range (n : Nat) : Ris (Array.range n) := by
  unfold Ris
  rw [Array.toList_range]
  exact List.pairwise_lt_range
theorem standIn_ris (t : SetTable) (n : Nat) : Ris (t.standIn n).place := ris_range n
theorem orStandIn_ris {t : SetTable} (h : Ris t.place) (n : Nat) : Ris (t.orStandIn n).place ∧ (t.orStandIn n).led = t.led := by
  unfold SetTable.orStandIn
  split
  · exact ⟨h, rfl⟩
  · exact ⟨ris_range n, rfl⟩
theorem probe_free {t : SetTable} (hashAt : Nat → Int) (h : Int) : ∀ (fuel : Nat) (p : SetTable.Probe) (j : Nat) (dm : Option Nat), SetTable.probe.go t hashAt h fuel p = some (.empty j dm) → (∀ q, p.dummy = some q → t.slot q = .dummy) → t.slot j = .empty ∧ ∀ q, dm = some q → t.slot q = .dummy
  | 0, p, j, dm, e, _ => by cases e
  | fuel + 1, p, j, dm, e, hp => by
    unfold SetTable.probe.go at e
    have adv : ∀ (p : SetTable.Probe), (t.advance p).dummy = p.dummy := by
      intro p; unfold SetTable.advance; split <;> rfl
    cases q : t.slot p.j with
    | empty => rw [q] at e; cases e; exact ⟨q, hp⟩
    | dummy =>
      rw [q] at e
      refine probe_free hashAt h fuel _ j dm e fun z hz => ?_
      rw [adv] at hz; cases hz; exact q
    | live i =>
      rw [q] at e
      dsimp only at e
      split at e
      · cases e
      · exact probe_free hashAt h fuel _ j dm e fun z hz => by rw [adv] at hz; exact hp z hz
theorem slot_not_live {t : SetTable} {j : Nat} (h : ∀ i, t.slot j ≠ .live i) : t.place[SetTable.below t.place j]? ≠ some j := by
  intro e
  unfold SetTable.slot at h
  dsimp only at h
  rw [if_pos (by rw [e]; simp)] at h
  exact h _ rfl
theorem freeSlot_free {t : SetTable} {h : Int} {j : Nat} {b : Bool} (e : t.freeSlot h = some (j, b)) : t.place[SetTable.below t.place j]? ≠ some j := by
  unfold SetTable.freeSlot at e
  split at e
  · rename_i j' dm he
    obtain ⟨h1, h2⟩ := probe_free _ _ _ _ _ _ he (fun q hq => by cases hq)
    refine slot_not_live fun i => ?_
    simp only [Option.some.injEq, Prod.mk.injEq] at e
    cases dm with
    | none => obtain ⟨rfl, _⟩ := e; simp [h1]
    | some q => obtain ⟨rfl, _⟩ := e; simp [h2 q rfl]
  · cases e
theorem layNew_ris {t : SetTable} (hr : Ris t.place) (es : Array (Int × Value)) (h : Int) (x : Value) : Ris (layNew t es h x).2.1.place ∧ (layNew t es h x).2.1.led = t.led := by
  unfold layNew
  split
  · rename_i slot wd he
    exact orStandIn_ris (t := (t.put slot).1) (below_put hr (freeSlot_free he)) _
  · exact ⟨ris_range _, rfl⟩
theorem relayAll_ris {t : SetTable} (hr : Ris t.place) (es : Array (Int × Value)) (wanted : Nat) : Ris (relayAll t es wanted).2.1.place ∧ (relayAll t es wanted).2.1.led = t.led := by
  unfold relayAll
  split
  · rename_i t' order he
    dsimp only
    have key : Ris t'.place ∧ t'.led = t.led := by
      unfold SetTable.relaid SetTable.laid at he
      simp only [Option.bind_eq_bind, Option.bind_eq_some_iff, Option.pure_def, Option.some.injEq, Prod.mk.injEq] at he
      obtain ⟨owner, ho, h1, h2⟩ := he
      subst h1
      refine ⟨?_, rfl⟩
      unfold Ris
      dsimp only
      have gen : ∀ (l : List Nat), l.Pairwise (· < ·) → ((l.filterMap fun j => (owner.getD j none).map fun x => (j, x)).map (·.1)).Pairwise (· < ·) := by
        intro l hl
        have hs : ∀ l : List Nat, (((l.filterMap fun j => (owner.getD j none).map fun x => (j, x)).map (·.1))).Sublist l := by
          intro l
          induction l with
          | nil => exact .slnil
          | cons a l ih =>
            rw [List.filterMap_cons]
            cases owner.getD a none with
            | none => exact .cons _ ih
            | some x => exact .cons_cons _ ih
        exact hl.sublist (hs l)
      simpa using gen (List.range _) List.pairwise_lt_range
    split
    · exact key
    · exact ⟨ris_range _, rfl⟩
  · exact ⟨ris_range _, rfl⟩

-- Cx33
set_option Elab.async false
set_option linter.unusedVariables false
set_option linter.unusedSimpArgs false
set_option maxRecDepth 20000

section
variable {prog : Program} {w : World} {A : Around} {E : Value → Shared → Prop} {s : Shared}

theorem elem_int {e : Int × Value} {es : List (Int × Value)} (h : ElemsOf (intKind prog w) es) (he : e ∈ es) : ∃ k t, e = ((intKind prog w).hash k, .int k t) := by
  obtain ⟨⟨k, hk, hh⟩, _⟩ := h e he
  obtain ⟨x, v⟩ := e
  cases v <;> simp [intKind, Value.isInt] at hk
  subst hk
  exact ⟨_, _, by rw [← hh]⟩
theorem is_intOf {e : Int × Value} {es : List (Int × Value)} (h : ElemsOf (intKind prog w) es) (he : e ∈ es) (k : Int) : (intKind prog w).is k e.2 = decide (intOf e.2 = k) := by
  obtain ⟨k', t, rfl⟩ := elem_int h he
  show (k' == k) = decide (k' = k)
  by_cases q : k' = k
  · subst q; simp
  · rw [beq_false_of_ne q, decide_eq_false q]

theorem SetG.setOf {h : Heap} {a : Addr} {l : List Int} (x : SetG prog w h a l) : h.SetOf (intKind prog w) a (fun k => decide (k ∈ l)) l.length := by
  obtain ⟨o, es, ep, t, ho, hex, hd, hel, hl, hn, hb, hf, _⟩ := x
  have hsz : es.size = l.length := by rw [← hl, List.length_map, Array.length_toList]
  refine ⟨o, es, ep, t, ho, hex, hd, hel, fun k => ?_, by omega, hf, hsz⟩
  rw [decide_eq_true_eq, ← hl, List.mem_map]
  constructor
  · rintro ⟨e, he, q⟩; exact ⟨e, he, by rw [is_intOf hel he]; exact decide_eq_true q⟩
  · rintro ⟨e, he, q⟩; exact ⟨e, he, by rw [is_intOf hel he] at q; exact of_decide_eq_true q⟩

/-- stored anew -/
theorem storeSet_good {a : Addr} {o : Obj} {es : Array (Int × Value)} {ep : Nat} {t : SetTable} {es' : Array (Int × Value)} {t' : SetTable} {l : List Int} {Q : Unit → Shared → Prop} (ho : s.heap.get? a = some o) (hex : o.ExactSet) (hd : o.data = .set es ep t)
    (hel : ElemsOf (intKind prog w) es'.toList) (hl : es'.toList.map (fun e => intOf e.2) = l) (hn : l.Nodup) (hb : l.length < scanBound) (hf : t'.fits es'.size = true) (hr : Ris t'.place) (hled : w.params.followText "set-order" = false → t'.led = true)
    (h : ∀ h' o', Heap.SameBut a s.heap h' → h'.get? a = some o' → o'.ExactSet → o'.data = .set es' (ep + 1) t' → SetG prog w h' a l → Q () { s with heap := h' }) : wpAny (model prog w) A (storeSet a es' t') Q E s := by
  have hsz : es'.size = l.length := by rw [← hl, List.length_map, Array.length_toList]
  refine wpAny_storeSet_of ho hd (h _ { o with data := .set es' (ep + 1) t' } (Heap.SameBut.update s.heap a _) ?_ hex rfl ?_) (fits_of_scanBound (by omega))
  · have := Heap.get?_update_self (Obj.putSet es' t') ho (by rw [putSet_of es' t' hd]; rfl)
    rw [putSet_of es' t' hd] at this; exact this
  · have := Heap.get?_update_self (Obj.putSet es' t') ho (by rw [putSet_of es' t' hd]; rfl)
    rw [putSet_of es' t' hd] at this
    exact ⟨_, es', ep + 1, t', this, hex, rfl, hel, hl, hn, hb, hf, hr, hled⟩

theorem map_perm_ints {es es' : List (Int × Value)} (p : es'.Perm es) : (es'.map fun e => intOf e.2).Perm (es.map fun e => intOf e.2) := p.map _
theorem setAdd_good {a : Addr} {l : List Int} {k : Int} {t : Tok} {Q : Bool → Shared → Prop} (hS : SetG prog w s.heap a l) (hb : l.length + 1 < scanBound)
    (h : ∀ h' l' b, Heap.SameBut a s.heap h' → SetG prog w h' a l' → l'.Perm (if k ∈ l then l else l ++ [k]) → Q b { s with heap := h' }) :
    wpAny (model prog w) A (setAddHashed a (.int k t) ((intKind prog w).hash k)) Q E s := by
  have hS0 := hS
  obtain ⟨o, es, ep, tb, ho, hex, hd, hel, hl, hn, hb0, hf, hr, hled⟩ := hS
  have hkey : (intKind prog w).is k (.int k t) = true := by simp [intKind, Value.isInt]
  have hsz : es.size = l.length := by rw [← hl, List.length_map, Array.length_toList]
  unfold setAddHashed setAddHashedIn
  refine wpAny_holding (wpAny_bind (wpAny_setState_of ho hd hf ?_))
  dsimp only
  rw [byScan_of (knd := intKind prog w) rfl (by omega) hel]
  simp only [↓reduceIte]
  unfold setAddByScan
  refine wpAny_bind ?_
  refine wpAny_bind (wpAny_rule ?_)
  refine wpAny_bind (wpAny_setScan_of hkey ho hd hf hel ?_)
  cases hq : List.findIdx? (fun e => (intKind prog w).is k e.2) es.toList with
  | some j =>
    dsimp only
    obtain ⟨hj, hpj, _⟩ := List.findIdx?_eq_some_iff_getElem.mp hq
    have hin : k ∈ l := by
      rw [← hl, List.mem_map]
      refine ⟨es.toList[j], List.getElem_mem hj, ?_⟩
      rw [is_intOf hel (List.getElem_mem hj)] at hpj
      exact of_decide_eq_true hpj
    refine wpAny_pure (wpAny_pure ?_)
    have := h s.heap l false (Heap.SameBut.refl a s.heap) hS0 (by rw [if_pos hin])
    exact this
  | none =>
    dsimp only
    have hnin : k ∉ l := by
      rw [← hl, List.mem_map]
      rintro ⟨e, he, q⟩
      have := List.findIdx?_eq_none_iff.mp hq e he
      rw [is_intOf hel he, q] at this
      simp at this
    have hgw : ∀ (b : Bool) {s₁ : Shared} {Q' : Unit → Shared → Prop}, Q' () s₁ → wpAny (model prog w) A (match b with | true => rule "set.scan.the-table-gave-way" | false => pure ()) Q' E s₁ :=
      fun b s₁ Q' hq => by cases b <;> first | exact wpAny_pure hq | exact wpAny_rule hq
    have hperm := layNew_perm tb es ((intKind prog w).hash k) (.int k t)
    have hfits := layNew_fits tb es ((intKind prog w).hash k) (.int k t)
    obtain ⟨hris, hledn⟩ := layNew_ris hr es ((intKind prog w).hash k) (.int k t)
    generalize hL : layNew tb es ((intKind prog w).hash k) (.int k t) = L at hperm hfits hris hledn ⊢
    obtain ⟨es1, t1, wasDummy, gave⟩ := L
    dsimp only at hperm hfits hris hledn ⊢
    rw [Array.toList_push] at hperm
    have hel1 : ElemsOf (intKind prog w) es1.toList := (hel.push hkey rfl).perm hperm
    have hp1 : (es1.toList.map fun e => intOf e.2).Perm (l ++ [k]) := by
      have := map_perm_ints hperm
      rw [List.map_append, hl] at this
      exact this
    have hn1 : (es1.toList.map fun e => intOf e.2).Nodup := hp1.nodup_iff.mpr (by rw [List.nodup_append]; exact ⟨hn, by simp, fun a ha b hb e => hnin (by obtain rfl := List.mem_singleton.mp hb; exact e ▸ ha)⟩)
    have hb1 : (es1.toList.map fun e => intOf e.2).length < scanBound := by rw [hp1.length_eq, List.length_append]; simpa using hb
    refine wpAny_bind (hgw _ ?_)
    have fin : ∀ h' l', Heap.SameBut a s.heap h' → SetG prog w h' a l' → l'.Perm (l ++ [k]) → ∀ b, Q b { s with heap := h' } := fun h' l' e1 e2 e3 b => h h' l' b e1 e2 (by rw [if_neg hnin]; exact e3)
    have tail : ∀ (t2 : SetTable), t2.fits es1.size = true → Ris t2.place → t2.led = tb.led → wpAny (model prog w) A (do
        storeSet a es1 t2
        if (!wasDummy && t2.tooFull) = true then do
            (match (relayAll t2 es1 (SetTable.grown es1.size)).2.2 with | true => rule "set.scan.the-table-gave-way" | false => pure ())
            storeSet a (relayAll t2 es1 (SetTable.grown es1.size)).1 (relayAll t2 es1 (SetTable.grown es1.size)).2.1
            pure (some true)
          else pure (some true)) (fun r s' => r = some true ∧ ∃ h' l', Heap.SameBut a s.heap h' ∧ SetG prog w h' a l' ∧ l'.Perm (l ++ [k]) ∧ s' = { s with heap := h' }) E s := by
      intro t2 h1 h2 h3
      refine wpAny_bind (storeSet_good ho hex hd hel1 rfl hn1 hb1 h1 h2 (fun q => h3 ▸ hled q) fun h' o' e1 e2 e3 e4 e5 => ?_)
      split
      · have hp2 := relayAll_perm t2 es1 (SetTable.grown es1.size)
        have hf2 := relayAll_fits t2 es1 (SetTable.grown es1.size)
        obtain ⟨hr2, hl2⟩ := relayAll_ris h2 es1 (SetTable.grown es1.size)
        generalize relayAll t2 es1 (SetTable.grown es1.size) = R at hp2 hf2 hr2 hl2 ⊢
        obtain ⟨es2, t3, gave2⟩ := R
        dsimp only at hp2 hf2 hr2 hl2 ⊢
        have hp3 := map_perm_ints hp2
        refine wpAny_bind (hgw _ ?_)
        refine wpAny_bind (storeSet_good (s := { s with heap := h' }) e2 e3 e4 (hel1.perm hp2) rfl (hp3.nodup_iff.mpr hn1) (by rw [hp3.length_eq]; exact hb1) hf2 hr2 (fun q => hl2 ▸ h3 ▸ hled q) fun h'' o'' f1 f2 f3 f4 f5 => ?_)
        exact wpAny_pure ⟨rfl, h'', _, e1.trans f1, f5, hp3.trans hp1, rfl⟩
      · exact wpAny_pure ⟨rfl, h', _, e1, e5, hp1, rfl⟩
    split
    · refine wpAny_bind ?_
      rw [hashByValue_scannable 8 rfl]
      refine wpAny_pure ?_
      refine wpAny_mono (tail (if plainKind (.int k t) = true then t1 else { t1 with plain := false }) ?_ ?_ ?_) ?_ fun _ _ e => e
      · split
        · exact hfits
        · exact SetTable.fits_plain_off hfits
      · split <;> exact hris
      · split <;> exact hledn
      · rintro x s' ⟨rfl, h', l', e1, e2, e3, rfl⟩
        exact wpAny_pure (fin h' l' e1 e2 e3 true)
    · refine wpAny_bind (wpAny_pure ?_)
      simp only [↓reduceIte]
      refine wpAny_mono (tail t1 hfits hris hledn) ?_ fun _ _ e => e
      rintro x s' ⟨rfl, h', l', e1, e2, e3, rfl⟩
      exact wpAny_pure (fin h' l' e1 e2 e3 true)
end

-- Cx34
set_option Elab.async false
set_option linter.unusedVariables false
set_option linter.unusedSimpArgs false
set_option maxRecDepth 100000

/-! set(list of ints) -/
/-- with one more -/
def Added (l : List Int) (k : Int) : List Int := if k ∈ l then l else l ++ [k]
def gatherS : List Int → List Int → List Int
  | acc, [] => acc
  | acc, k :: r => gatherS (Added acc k) r
theorem added_perm {l m : List Int} (k : Int) (p : l.Perm m) : (Added l k).Perm (Added m k) := by
  unfold Added
  by_cases q : k ∈ l
  · rw [if_pos q, if_pos (p.mem_iff.mp q)]; exact p
  · rw [if_neg q, if_neg (fun x => q (p.mem_iff.mpr x))]; exact p.append (.refl _)
theorem gather_perm : ∀ (r l m : List Int), l.Perm m → (gatherS l r).Perm (gatherS m r)
  | [], _, _, p => p
  | k :: r, l, m, p => gather_perm r _ _ (added_perm k p)
theorem added_len (l : List Int) (k : Int) : (Added l k).length ≤ l.length + 1 := by unfold Added; split <;> simp
theorem gather_snoc : ∀ (r l : List Int) (k : Int), gatherS l (r ++ [k]) = Added (gatherS l r) k
  | [], _, _ => rfl
  | _ :: r, l, k => gather_snoc r _ k
theorem gather_len : ∀ (r l : List Int), (gatherS l r).length ≤ l.length + r.length
  | [], l => by simp [gatherS]
  | k :: r, l => by
    have := gather_len r (Added l k)
    have := added_len l k
    simp only [gatherS, List.length_cons]; omega
theorem mem_added {l : List Int} {k x : Int} : x ∈ Added l k ↔ x ∈ l ∨ x = k := by
  unfold Added
  split
  · rename_i h; exact ⟨.inl, fun y => y.elim id fun e => e ▸ h⟩
  · simp
theorem mem_gather : ∀ {r l : List Int} {x : Int}, x ∈ gatherS l r ↔ x ∈ l ∨ x ∈ r
  | [], l, x => by simp [gatherS]
  | k :: r, l, x => by
    rw [gatherS, mem_gather, mem_added, List.mem_cons, or_assoc]
theorem added_nodup {l : List Int} {k : Int} (h : l.Nodup) : (Added l k).Nodup := by
  unfold Added
  split
  · exact h
  · rename_i q
    rw [List.nodup_append]
    exact ⟨h, by simp, fun a ha b hb e => q (by obtain rfl := List.mem_singleton.mp hb; exact e ▸ ha)⟩
theorem gather_nodup : ∀ {r l : List Int}, l.Nodup → (gatherS l r).Nodup
  | [], _, h => h
  | _ :: r, _, h => gather_nodup (r := r) (added_nodup h)

section
variable {prog : Program} {w : World} {A : Around} {R : Result → Shared → Prop} {I : Addr} {fp wr : List Addr} {G : Array GenState → Array GenState → Prop} {P : Nat → Value → Prop} {St : Nat → Shared → Prop}
theorem code_update_loop (ns : List Int) (W : WalksS prog w A.in1 I fp wr G ns.length P St) (S : Addr) (hSf : S ∉ fp) (hval : ∀ i v, P i v → ∃ k t, v = .int k t ∧ ns[i]? = some k) (hb : ns.length + 1 < scanBound) :
    ∀ (r : Nat) (i : Nat) (s : Shared) (l : List Int), ns.length - i = r → i ≤ ns.length → St i s → SetG prog w s.heap S l → l.Perm (gatherS [] (ns.take i)) →
      (∀ s' l', Moved (S :: wr) G s s' → SetG prog w s'.heap S l' → l'.Perm (gatherS [] ns) → R (.ok (.ret .none)) s') →
      codeAny (model prog w) A (.builtin "set.update.loop" ⟨[.ref S, .ref I], []⟩) R s := by
  have hsub : ∀ b ∈ wr, b ∈ S :: wr := fun b hb => List.mem_cons_of_mem _ hb
  have hSw : S ∉ wr := fun h => hSf (W.sub _ h)
  have mv : ∀ {s s' : Shared} {l}, Moved wr G s s' → SetG prog w s.heap S l → SetG prog w s'.heap S l := by
    rintro s s' l hm ⟨o, es, ep, t, ho, rest⟩
    exact ⟨o, es, ep, t, hm.heap S _ hSw ho, rest⟩
  intro r
  induction r with
  | zero =>
    intro i s l hk hi hst hS hp hR
    have hin : i = ns.length := by omega
    subst hin
    refine codeAny_builtin F.entry_set_update_loop ?_
    rw [Around.under_plainId F.plain_set_update_loop _]
    show wpAny _ A.in1 (pyNext (.ref I) >>= _) _ _ s
    refine wpAny_bind (W.done s _ _ hst fun s' hm => ?_)
    show wpAny _ A.in1 (ret Value.none) _ _ s'
    exact wpAny_pure (hR s' l (hm.mono hsub) (mv hm hS) (by rw [List.take_length] at hp; exact hp))
  | succ r ih =>
    intro i s l hk hi hst hS hp hR
    have hlt : i < ns.length := by omega
    refine codeAny_builtin F.entry_set_update_loop ?_
    rw [Around.under_plainId F.plain_set_update_loop _]
    show wpAny _ A.in1 (pyNext (.ref I) >>= _) _ _ s
    refine wpAny_bind (W.item i s _ _ hlt hst fun v s' hP hst' hm => ?_)
    obtain ⟨k, t, rfl, hk2⟩ := hval i v hP
    have hS' := mv hm hS
    show wpAny _ A.in1 (holding [Value.int k t] (setAdd S (.int k t)) >>= _) _ _ s'
    refine wpAny_bind (wpAny_holding ?_)
    unfold setAdd
    refine wpAny_holding ?_
    refine wpAny_bind ((intKind prog w).pyHash (k := k) (intKind_is _ _ _ _) ?_)
    have hlen : l.length ≤ i := by
      rw [hp.length_eq]
      have := gather_len (ns.take i) []
      simp only [List.length_nil, List.length_take] at this; omega
    refine setAdd_good (s := { s' with toks := s'.toks + 1 }) hS' (by omega) fun h' l' b hsb hS2 hp2 => ?_
    have e1 : ns.take (i + 1) = ns.take i ++ [k] := by rw [List.take_add_one, hk2]; rfl
    refine wpAny_pure ⟨plainId_quiet F.plain_set_update_loop _, ih (i + 1) _ l' (by omega) hlt (W.frame _ s' _ _ hst' (Nat.le_succ _) fun b hb o e => ?_) hS2 ?_ fun s'' l'' hm'' hS'' hp'' => ?_⟩
    · rw [hsb.2 b (fun h : b = S => hSf (by rw [← h]; exact hb))]; exact e
    · rw [e1, gather_snoc]
      exact hp2.trans (added_perm k hp)
    · refine hR s'' l'' (Moved.trans W.gtrans ((hm.mono hsub).then_heap (Nat.le_succ _) fun b o hb e => ?_) hm'') hS'' hp''
      rw [hsb.2 b (fun h : b = S => hb (by rw [h]; exact List.mem_cons_self))]; exact e
end

section
variable {prog : Program} {w : World} {A : Around} {E : Value → Shared → Prop} {s : Shared}
def emptySet (w : World) : Obj := { cls := .type "set", dict := none, data := .set #[] 0 (.fresh 0 0 (!w.params.followText "set-order")) }
theorem code_new_set (a : Value) {Q₁ : Value → Shared → Prop} (h : Q₁ (.ref s.heap.objs.size) { s with heap := s.heap.push (emptySet w) }) :
    codeAny (model prog w) A (.call (.builtin "set.__new__") ⟨[.type "set", a], []⟩) (wants Q₁ E) s := by
  refine codeAny_of_tree ?_
  show wpAny _ A.in1 (do checkBuiltinCall "set.__new__" ⟨[.type "set", a], []⟩; again (.builtin "set.__new__" ⟨[.type "set", a], []⟩)) _ _ s
  refine wpAny_bind (wpAny_of_eq (F.newCall_set_1 a) (wpAny_pure ⟨plainId_quiet F.plain_set_new _, codeAny_builtin F.entry_set_new ?_⟩))
  rw [Around.under_plainId F.plain_set_new _]
  unfold Builtin.«set.__new__» Builtin.Frozenset.newClass
  have hsub := sub_set_self
  obtain ⟨hp, g, d, tk, os⟩ := s
  dsimp only
  wp_walk
  refine wpAny_askSetting (wpAny_pure ?_)
  dsimp only
  simp only [newObj]
  refine wpAny_bind (wpAny_alloc (wpAny_pure ?_))
  exact wpAny_pure h
theorem emptySet_good {h : Heap} {a : Addr} (e : h.get? a = some (emptySet w)) : SetG prog w h a [] :=
  ⟨_, #[], 0, _, e, ⟨rfl, rfl, rfl⟩, rfl, fun _ he => by simp at he, rfl, .nil, by unfold scanBound; simp, rfl, .nil, fun q => by show (!_) = true; rw [q]; rfl⟩

set_option maxHeartbeats 3200000 in
theorem call_set_ints {l : Addr} {items : Array Value} {ns : List Int} {Q : Value → Shared → Prop}
    (hh : A.handled = none) (hl : s.heap.IsList l items) (hi : IntsAre items.toList ns) (hb : ns.length + 1 < scanBound)
    (h : ∀ (h' : Heap) (tk : Nat) (l' : List Int), SetG prog w h' s.heap.objs.size l' → l'.Perm (gatherS [] ns) →
      (∀ b o, s.heap.get? b = some o → h'.get? b = some o) → Q (.ref s.heap.objs.size) { s with heap := h', toks := tk }) :
    wpAny (model prog w) A (call (.type "set") [.ref l]) Q E s := by
  obtain ⟨c, tl, hmro⟩ := F.called_set.mro
  have hmade := F.called_set.made
  have hsub := F.called_set.sub
  have hlen : items.size = ns.length := by rw [← hi.length, Array.length_toList]
  refine wpAny_call (codeAny_of_tree ?_)
  show wpAny _ _ (callAny (.type "set") _) _ _ _
  refine wpAny_pure ⟨Code.quiet_builtin _ (by decide +kernel), codeAny_builtin F.entry_type_call ?_⟩
  rw [Around.under_plain (weight_type_call_type "set" [.ref l] []) rfl]
  have h1 := F.called_set.notType
  have h2 := F.called_set.canCreate
  have hct := F.typeCall_set_1 (.ref l)
  repeat (any_goals (first | assumption | wp_step))
  refine codeAny_mono (code_new_set (.ref l) (E := E) (Q₁ := fun obj s₁ => obj = .ref s.heap.objs.size ∧ s₁ = { s with heap := s.heap.push (emptySet w) }) ⟨rfl, rfl⟩) fun r s₁ hr => ?_
  cases r with
  | error e => exact hr
  | ok fl =>
    cases fl with
    | ret obj =>
      obtain ⟨rfl, rfl⟩ := hr
      have hS : (s.heap.push (emptySet w)).get? s.heap.objs.size = some (emptySet w) := Heap.get?_push_size _ rfl
      have hT : Shared.TypeIs { s with heap := s.heap.push (emptySet w) } (.ref s.heap.objs.size) "set" := ⟨_, hS, rfl⟩
      have hli := F.called_set.init.lookup
      have hbi := F.called_set.init.bind (.ref s.heap.objs.size)
      repeat (any_goals (first | assumption | wp_step))
      refine codeAny_mono (codeAny_call_builtin (R := wants (fun r s₂ => r = .none ∧ ∃ h' tk l', s₂ = { s with heap := h', toks := tk } ∧
          SetG prog w h' s.heap.objs.size l' ∧ l'.Perm (gatherS [] ns) ∧
          (∀ b o, s.heap.get? b = some o → h'.get? b = some o)) E) F.called_set.init.plain F.entry_set_init (check_set_init_1 hT ?_)) fun r₂ s₂ hr₂ => ?_
      · obtain ⟨ol, hol, hcl, nl, hdl⟩ := hl
        obtain ⟨ocls, odict, odata, oslots⟩ := ol
        simp only at hcl hdl
        subst hcl; subst hdl
        have hol' : (s.heap.push (emptySet w)).get? l = some { cls := .type "list", dict := odict, data := .seq items nl, slots := oslots } := Heap.get?_push_of_some _ hol
        have hsls := F.sub_list_set
        have hslf := F.sub_list_frozenset
        have hne : (Value.type "list" == Value.type "dict") = false := by decide
        have hl1 : (s.heap.push (emptySet w)).IsList l items := ⟨_, hol', rfl, nl, rfl⟩
        unfold Builtin.«set.__init__» noKeywords Builtin.Frozenset.updateFrom
        generalize hPI : pyIter = PI
        wp_walk
        subst hPI
        refine wpAny_pyIter_list hl1 ?_
        refine wpAny_bind (wpAny_runValue ?_)
        have hlS : l < s.heap.objs.size := Heap.lt_size hol
        have hh3 : A.in1.in1.in1.handled = none := by simp [hh]
        have hneI : l ≠ (s.heap.push (emptySet w)).objs.size := by
          rw [Heap.size_push]; exact Nat.ne_of_lt (Nat.lt_succ_of_lt hlS)
        have hSf : s.heap.objs.size ∉ [(s.heap.push (emptySet w)).objs.size, l] := by
          rw [Heap.size_push]; simp only [List.mem_cons, List.mem_singleton, List.not_mem_nil, or_false, not_or]
          exact ⟨Nat.ne_of_lt (Nat.lt_succ_self _), Nat.ne_of_gt hlS⟩
        have hval : ∀ (i : Nat) (v : Value), items[i]? = some v → ∃ k t, v = .int k t ∧ ns[i]? = some k := fun i v hv => by
          obtain ⟨t, e⟩ := PyProof.Rows.IntsAre.int_at hi i v (by rw [Array.getElem?_toList]; exact hv)
          have hlt : i < ns.length := by
            rw [← hlen]
            rcases Nat.lt_or_ge i items.size with q | q
            · exact q
            · rw [Array.getElem?_eq_none q] at hv; cases hv
          exact ⟨_, t, e, by rw [List.getElem?_eq_getElem hlt, List.getD_eq_getElem?_getD, List.getElem?_eq_getElem hlt]; rfl⟩
        have W := (Walks.list hh3 (s.heap.push (emptySet w)).objs.size l hneI items).toS (prog := prog) (w := w)
        rw [hlen] at W
        refine code_update_loop ns W s.heap.objs.size hSf hval hb (ns.length - 0) 0 _ [] (by omega) (Nat.zero_le _)
          ⟨⟨_, Heap.get?_push_size _ rfl, rfl, rfl⟩, (hl1.push _)⟩ (emptySet_good (Heap.get?_push_of_some _ hS)) (.refl _) ?hR
        intro s' l' hm hS' hp'
        obtain ⟨h', g', d', tk', os'⟩ := s'
        have eg : g' = s.gens := hm.gens
        have ed : d' = s.drawn := hm.drawn
        have eo : os' = s.os := hm.os
        subst eg; subst ed; subst eo
        show wpAny _ _ _ _ _ _
        refine wpAny_pure ?_
        show wpAny _ _ (ret Value.none) _ _ _
        refine wpAny_pure ⟨rfl, h', tk', l', rfl, hS', hp', fun b o e => ?_⟩
        have hb0 := Heap.lt_size e
        have hb1 : b ≠ s.heap.objs.size := Nat.ne_of_lt hb0
        have hb2 : b ≠ (s.heap.push (emptySet w)).objs.size := by
          rw [Heap.size_push]; exact Nat.ne_of_lt (Nat.lt_succ_of_lt hb0)
        exact hm.heap b o (by simp only [List.mem_cons, List.mem_singleton, List.not_mem_nil, or_false, not_or]; exact ⟨hb1, hb2⟩) (Heap.get?_push_of_some _ (Heap.get?_push_of_some _ e))
      · cases r₂ with
        | error e => exact hr₂
        | ok fl₂ =>
          cases fl₂ with
          | ret r =>
            obtain ⟨rfl, h', tk, l', rfl, hS', hp', hk'⟩ := hr₂
            repeat (any_goals (first | assumption | wp_step))
            exact h _ _ l' hS' hp' hk'
          | _ => exact hr₂.elim
    | _ => exact hr.elim
end

section
variable {c : Cx} {d : Nat} {σ : AHeap} {Q : AV → AHeap → Prop} {X : Addr → AHeap → Prop} {A : Around} {E : Value → Shared → Prop} {s : Shared} {Fz : Fzn}
theorem call_set_list {l : Addr} {ns : List Int} (e : σ l = some (.list (intL ns))) (hz : ns.length < 4000) (h : ∀ (m : Addr) (ms : List Int), ms.Perm (gatherS [] ns) → σ m = none → Q (.ref m) (σ.set m (.setI ms))) : CallOK c d (.raw (.type "set")) [.ref l] σ Q X := by
  intro A Fz s vs hr hb hbs S r
  obtain ⟨f, lv, rfl, rf, rl⟩ := r.two_inv
  have h1 : f = .type "set" := by cases rf; rfl
  have h2 : lv = .ref l := by cases rl; rfl
  subst h1; subst h2
  obtain ⟨its, n, hl, ri⟩ := list_at S e
  show wpAny c.M A (call (.type "set") [.ref l]) _ _ s
  refine call_set_ints hr.hn hl.isList (intL_are ri) (by unfold scanBound; omega) fun h' tk l' hS hp k => ?_
  obtain ⟨S', g, hσ⟩ := S.new (c := .setI l') (a := s.heap.objs.size) (not_there _) k hS
  exact ⟨.ref _, _, S', ⟨g, rfl, rfl⟩, .ref _, h _ _ hp hσ⟩
end

-- Cx35
set_option Elab.async false
set_option linter.unusedVariables false
set_option linter.unusedSimpArgs false
set_option maxRecDepth 100000

namespace SF
theorem owner_si : Manifest.owners.lookup (String.ofList ['r', 'o', 't', 'a', 'r', 'e', 't', 'i', '_', 't', 'e', 's'].reverse) = some Manifest.sig_set_iterator := by kernel_rfl
theorem slot_next : Slot "set_iterator" "__next__" "set_iterator.__next__" :=
  .of (owner := "set_iterator") (n := "__next__") (by rw [typeLookup_type, builtinLookup_eq_fast]; kernel_rfl) (by decide +kernel) (by decide +kernel) (by decide +kernel)
    (by first | exact .inl (by decide +kernel) | exact .inr (by decide +kernel)) (by rw [isSubtype_type]; kernel_rfl)
theorem entry_next : entryFor table "set_iterator.__next__" = some Builtin.«set_iterator.__next__» := entryFor_of_tree (by kernel_rfl)
theorem args_next (a : Value) : argsOk "set_iterator.__next__" ⟨[a], []⟩ := by
  unfold argsOk; rw [signature?_of (id := "set_iterator.__next__") (n := ['_', '_', 't', 'x', 'e', 'n', '_', '_']) (o := ['r', 'o', 't', 'a', 'r', 'e', 't', 'i', '_', 't', 'e', 's']) (by kernel_rfl) owner_si]; kernel_rfl
theorem slot_iter : Slot "set_iterator" "__iter__" "set_iterator.__iter__" :=
  .of (owner := "set_iterator") (n := "__iter__") (by rw [typeLookup_type, builtinLookup_eq_fast]; kernel_rfl) (by decide +kernel) (by decide +kernel) (by decide +kernel)
    (by first | exact .inl (by decide +kernel) | exact .inr (by decide +kernel)) (by rw [isSubtype_type]; kernel_rfl)
theorem entry_iter : entryFor table "set_iterator.__iter__" = some Builtin.«dict_keyiterator.__iter__» :=
  entryFor_alias (id' := "dict_keyiterator.__iter__") (by kernel_rfl) rfl (by decide +kernel) (by kernel_rfl)
theorem args_iter (a : Value) : argsOk "set_iterator.__iter__" ⟨[a], []⟩ := by
  unfold argsOk; rw [signature?_of (id := "set_iterator.__iter__") (n := ['_', '_', 'r', 'e', 't', 'i', '_', '_']) (o := ['r', 'o', 't', 'a', 'r', 'e', 't', 'i', '_', 't', 'e', 's']) (by kernel_rfl) owner_si]; kernel_rfl
theorem entry_set_iter : entryFor table "set.__iter__" = some Builtin.«frozenset.__iter__» :=
  entryFor_alias (id' := "frozenset.__iter__") (by kernel_rfl) rfl (by decide +kernel) (by kernel_rfl)
end SF

theorem setNext_eq (a : Addr) (slot given epochThen : Nat) : setNext a slot given epochThen = (do
  let (es, epoch, t) ← setState a
  if ← setsByText then
    if epoch != epochThen then unsupported "set_iterator.__next__:elements-changed"
    return ((← setWalk a)[given]?).map fun e => (e.2, slot)
  if (!t.plain && es.size > 1) = true then unsupported "set_iterator.__next__:the-table-is-plain-no-more"
  (if (!t.led && !es.isEmpty) = true then unsupported "set:maker-not-led" else pure () : Sem Unit)
  let i := SetTable.below t.place slot
  return match es[i]?, t.place[i]? with
    | some (_, x), some j => some (x, j + 1)
    | _, _ => none) := rfl

def SetIt (h : Heap) (I S : Addr) (first : Value) (i n ep : Nat) : Prop := ∃ o, h.get? I = some o ∧ o.cls = .type "set_iterator" ∧ o.data = .fields #[first, .int i 0, .ref S, .int n 0, .int ep 0]

theorem erase_perm {α : Type} {l : List α} {i : Nat} (h : i < l.length) : (l[i] :: l.eraseIdx i).Perm l := by
  rw [List.eraseIdx_eq_take_drop_succ]
  have e : l = l.take i ++ l[i] :: l.drop (i + 1) := by
    rw [List.getElem_cons_drop, List.take_append_drop]
  refine (List.perm_middle.symm).trans ?_
  rw [← e]
theorem pick_len {α : Type} (next : Nat → Nat) : ∀ (fuel k : Nat) (left : List α) (out : Array α), left.length = fuel → (pickOrder.go next fuel k left out).toList.Perm (out.toList ++ left)
  | 0, k, left, out, h => by
    have : left = [] := List.eq_nil_of_length_eq_zero h
    subst this
    simp [pickOrder.go]
  | fuel + 1, k, left, out, h => by
    unfold pickOrder.go
    have hlt : next k % left.length < left.length := Nat.mod_lt _ (by omega)
    rw [List.getElem?_eq_getElem hlt]
    dsimp only
    refine (pick_len next fuel (k + 1) _ _ (by rw [List.length_eraseIdx_of_lt hlt]; omega)).trans ?_
    rw [Array.toList_push, List.append_assoc, List.singleton_append]
    refine List.Perm.append_left _ ?_
    exact (erase_perm hlt)
theorem pick_perm {α : Type} (next : Nat → Nat) (xs : Array α) : (pickOrder next xs).toList.Perm xs.toList := by
  unfold pickOrder
  simpa using pick_len next xs.size 0 xs.toList #[] (by simp)

section
variable {prog : Program} {w : World} {A : Around} {E : Value → Shared → Prop} {s : Shared}
theorem wpAny_choose {src : Source} {n : Nat} {Q : Nat → Shared → Prop} (hn : n ≠ 0) (h : ∀ i, i < n → ∀ s', SameS s s' → Q i s') : wpAny (model prog w) A (choose src n) Q E s := by
  intro Γ p hΓ
  show wp _ _ (Sem.choose src n pure) _ _ p s
  rw [Sem.wp_choose]
  exact ⟨hn, h _ (Nat.mod_lt _ (Nat.pos_of_ne_zero hn)) _ ⟨rfl, rfl, rfl⟩⟩
theorem drawOrder_perm {α : Type} : ∀ (n : Nat) (xs : List α) (s : Shared) (Q : List α → Shared → Prop), xs.length = n → (∀ ys s', SameS s s' → ys.Perm xs → Q ys s') → wpAny (model prog w) A (drawOrder n xs) Q E s
  | 0, xs, s, Q, hl, h => by
    have : xs = [] := List.eq_nil_of_length_eq_zero hl
    subst this
    unfold drawOrder
    exact wpAny_pure (h [] s (.refl s) (.refl _))
  | n + 1, [], s, Q, hl, h => by cases hl
  | n + 1, x :: r, s, Q, hl, h => by
    unfold drawOrder
    refine wpAny_bind (wpAny_choose (by simp) fun i hi s1 e1 => ?_)
    rw [List.getElem?_eq_getElem hi]
    dsimp only
    refine wpAny_bind (drawOrder_perm n _ s1 _ (by rw [List.length_eraseIdx_of_lt hi]; simp at hl ⊢; omega) fun ys s2 e2 hp => ?_)
    exact wpAny_pure (h _ s2 (e1.trans e2) ((hp.cons _).trans (erase_perm hi)))
end

-- Cx36
set_option Elab.async false
set_option linter.unusedVariables false
set_option linter.unusedSimpArgs false
set_option maxRecDepth 100000

section
variable {prog : Program} {w : World} {A : Around} {E : Value → Shared → Prop} {s : Shared} {I S : Addr} {so : Obj} {es : Array (Int × Value)} {ep : Nat} {t : SetTable}
theorem SetIt.typeIs {first : Value} {i n : Nat} (y : SetIt s.heap I S first i n ep) : s.TypeIs (.ref I) "set_iterator" := let ⟨o, ho, hc, _⟩ := y; ⟨o, ho, hc⟩
theorem SetIt.keep {h h' : Heap} {first : Value} {i n : Nat} (y : SetIt h I S first i n ep) (k : ∀ o, h.get? I = some o → h'.get? I = some o) : SetIt h' I S first i n ep := let ⟨o, ho, r⟩ := y; ⟨o, k o ho, r⟩

theorem stop_here {Q : Option Value → Shared → Prop} (hh : A.handled = none) {hp : Heap} (hE : Heap.ExtBut I s.heap hp) (hQ : ∀ h', Heap.ExtBut I s.heap h' → Q none { s with heap := h' }) :
    wpAny (model prog w) A.in1 (do raiseNew (← newExc (.type "StopIteration") []) : Sem Fin) (fun _ _ => False) (fun e s' => wpAny (model prog w) A (isInstance e (.type "StopIteration")) (fun b s'' => b = true ∧ Q none s'') E s') { s with heap := hp } := by
  show wpAny _ _ (newExc (.type "StopIteration") [] >>= _) _ _ _
  refine wpAny_bind ?_
  simp only [newExc, newTuple]
  refine wpAny_bind (wpAny_newObj_type ?_ (by size_fits))
  refine wpAny_bind (m := firstArgMember _ _) (wpAny_of_eq (a := Value.none) (by first | rfl | (simp only [firstArgMember]; rfl)) ?_)
  refine wpAny_newObj_type ?_ (by size_fits)
  simp only [raiseNew]
  refine wpAny_bind (wpAny_handled ?_)
  rw [show A.in1.handled = none from hh]
  refine wpAny_bind (wpAny_pure (wpAny_throw ?_))
  refine wpAny_isInstance (T := "StopIteration") (b := true) ⟨_, Heap.get?_push_size _ rfl, rfl⟩ isSubtype_stop ?_
  exact ⟨rfl, hQ _ ((hE.push _).push _)⟩

theorem next_slot_some {sl i n nx : Nat} {v : Value} {Q : Option Value → Shared → Prop} (hit : SetIt s.heap I S (.int sl 0) i n ep) (hS : s.heap.get? S = some so) (hd : so.data = .set es ep t) (hf : t.fits es.size = true) (hn : n = es.size)
    (hsn : ∀ A Q E, Q (some (v, nx)) s → wpAny (model prog w) A (setNext S sl i ep) Q E s)
    (hQ : ∀ h', SetIt h' I S (.int nx 0) (i + 1) n ep → Heap.SameBut I s.heap h' → Q (some v) { s with heap := h' }) : wpAny (model prog w) A (pyNext (.ref I)) Q E s := by
  obtain ⟨o, ho, hc, hdo⟩ := id hit
  unfold pyNext
  refine wpAny_bind (wpAny_attempt (wpAny_callSpecial?_slot (name := Str.ofString "__next__") hit.typeIs SF.slot_next
    (wpAny_call_entry SF.slot_next hit.typeIs SF.entry_next ?_ (SF.args_next _))))
  unfold Builtin.«set_iterator.__next__»
  show wpAny _ _ (fieldsOf (.ref I) >>= _) _ _ s
  refine wpAny_bind (wpAny_fieldsOf ho hdo ?_)
  dsimp only
  refine wpAny_bind ?_
  unfold setEntries
  refine wpAny_bind (wpAny_setState_of hS hd hf (wpAny_pure ?_))
  dsimp only
  rw [if_neg (by rw [hn]; simp)]
  simp only [Int.toNat_natCast]
  refine wpAny_bind (hsn _ _ _ ?_)
  dsimp only
  refine wpAny_bind (wpAny_setField ho hdo (by simp) ?_)
  have g1 := Heap.get?_update_self (Obj.mapFields (·.set! 0 (rawInt nx))) ho (Obj.isFreed_of_fields (Obj.data_mapFields hdo _))
  have d1 : (Obj.mapFields (·.set! 0 (rawInt nx)) o).data = .fields #[.int nx 0, .int i 0, .ref S, .int n 0, .int ep 0] := by rw [Obj.data_mapFields hdo]; simp [rawInt]
  refine wpAny_bind (wpAny_setField (s := { s with heap := s.heap.update I (Obj.mapFields (·.set! 0 (rawInt nx))) }) g1 d1 (by simp) ?_)
  have g2 := Heap.get?_update_self (Obj.mapFields (·.set! 1 (rawInt ((i : Int) + 1)))) g1 (Obj.isFreed_of_fields (Obj.data_mapFields d1 _))
  refine wpAny_pure ⟨_, rfl, wpAny_pure (hQ _ ⟨_, g2, ?_, ?_⟩ ((Heap.SameBut.update ..).trans (Heap.SameBut.update ..)))⟩
  · rw [Obj.cls_mapFields, Obj.cls_mapFields]; exact hc
  · rw [Obj.data_mapFields d1]; simp [rawInt]

theorem next_slot_none {sl i n : Nat} {Q : Option Value → Shared → Prop} (hh : A.handled = none) (hit : SetIt s.heap I S (.int sl 0) i n ep) (hS : s.heap.get? S = some so) (hd : so.data = .set es ep t) (hf : t.fits es.size = true) (hn : n = es.size)
    (hsn : ∀ A Q E, Q none s → wpAny (model prog w) A (setNext S sl i ep) Q E s)
    (hQ : ∀ h', Heap.ExtBut I s.heap h' → Q none { s with heap := h' }) : wpAny (model prog w) A (pyNext (.ref I)) Q E s := by
  obtain ⟨o, ho, hc, hdo⟩ := id hit
  unfold pyNext
  refine wpAny_bind (wpAny_attempt (wpAny_callSpecial?_slot (name := Str.ofString "__next__") hit.typeIs SF.slot_next
    (wpAny_call_entry SF.slot_next hit.typeIs SF.entry_next ?_ (SF.args_next _))))
  unfold Builtin.«set_iterator.__next__»
  show wpAny _ _ (fieldsOf (.ref I) >>= _) _ _ s
  refine wpAny_bind (wpAny_fieldsOf ho hdo ?_)
  dsimp only
  refine wpAny_bind ?_
  unfold setEntries
  refine wpAny_bind (wpAny_setState_of hS hd hf (wpAny_pure ?_))
  dsimp only
  rw [if_neg (by rw [hn]; simp)]
  simp only [Int.toNat_natCast]
  refine wpAny_bind (hsn _ _ _ ?_)
  dsimp only
  refine wpAny_bind (wpAny_setField ho hdo (by simp) ?_)
  refine wpAny_mono (stop_here (A := A) (E := E) (Q := Q) (s := s) hh (Heap.SameBut.update ..).extBut hQ) (fun _ _ x => x.elim) fun e s' x => ?_
  refine wpAny_bind (wpAny_mono x ?_ fun _ _ e => e)
  rintro b s'' ⟨rfl, q⟩
  exact wpAny_pure q
end

-- Cx37
set_option Elab.async false
set_option linter.unusedVariables false
set_option linter.unusedSimpArgs false
set_option maxRecDepth 100000

def Along (order : Array (Int × Value)) (i : Nat) (v : Value) : Prop := ∃ e, order[i]? = some e ∧ v = e.2
section
variable {prog : Program} {w : World} {A : Around} {E : Value → Shared → Prop} {s : Shared} {I S T : Addr} {so : Obj} {es : Array (Int × Value)} {ep : Nat} {t : SetTable}

theorem if_yes {α : Type} {M : Model} {p : Prop} [Decidable p] {a b : Sem α} {Q : α → Shared → Prop} (hp : p) (h : wpAny M A a Q E s) : wpAny M A (if p then a else b) Q E s := by rw [if_pos hp]; exact h
theorem if_no {α : Type} {M : Model} {p : Prop} [Decidable p] {a b : Sem α} {Q : α → Shared → Prop} (hp : ¬ p) (h : wpAny M A b Q E s) : wpAny M A (if p then a else b) Q E s := by rw [if_neg hp]; exact h
theorem wpAny_seqItems? {a : Addr} {o : Obj} {xs : Array Value} {n : Nat} {M : Model} {Q : Option (Array Value) → Shared → Prop} (ho : s.heap.get? a = some o) (hd : o.data = .seq xs n) (h : Q (some xs) s) : wpAny M A (seqItems? (.ref a)) Q E s := by
  show wpAny M A (load a >>= _) Q E s
  refine wpAny_bind (wpAny_load ho ?_)
  rw [hd]
  exact wpAny_pure h

theorem next_drawn_some {i n p nT : Nat} {e : Int × Value} {oT : Obj} {places : Array Value} {Q : Option Value → Shared → Prop} (hit : SetIt s.heap I S (.ref T) i n ep) (hS : s.heap.get? S = some so) (hd : so.data = .set es ep t) (hf : t.fits es.size = true) (hn : n = es.size)
    (hT : s.heap.get? T = some oT) (hTd : oT.data = .seq places nT) (hp : places[i]? = some (.int (p : Nat) 0)) (he : es[p]? = some e)
    (hQ : ∀ h', SetIt h' I S (.ref T) (i + 1) n ep → Heap.SameBut I s.heap h' → Q (some e.2) { s with heap := h' }) : wpAny (model prog w) A (pyNext (.ref I)) Q E s := by
  obtain ⟨o, ho, hc, hdo⟩ := id hit
  unfold pyNext
  refine wpAny_bind (wpAny_attempt (wpAny_callSpecial?_slot (name := Str.ofString "__next__") hit.typeIs SF.slot_next
    (wpAny_call_entry SF.slot_next hit.typeIs SF.entry_next ?_ (SF.args_next _))))
  unfold Builtin.«set_iterator.__next__»
  show wpAny _ _ (fieldsOf (.ref I) >>= _) _ _ s
  refine wpAny_bind (wpAny_fieldsOf ho hdo ?_)
  dsimp only
  refine wpAny_bind ?_
  unfold setEntries
  refine wpAny_bind (wpAny_setState_of hS hd hf (wpAny_pure ?_))
  dsimp only
  rw [if_neg (by rw [hn]; simp)]
  simp only [Int.toNat_natCast]
  refine wpAny_bind (wpAny_seqItems? hT hTd ?_)
  dsimp only
  rw [hp]
  dsimp only
  simp only [Int.toNat_natCast]
  refine wpAny_bind ?_
  unfold setNextDrawn
  refine wpAny_bind (wpAny_setState_of hS hd hf ?_)
  dsimp only
  rw [if_neg (by simp), he]
  refine wpAny_pure ?_
  refine wpAny_bind (wpAny_setField ho hdo (by simp) ?_)
  have g1 := Heap.get?_update_self (Obj.mapFields (·.set! 1 (rawInt ((i : Int) + 1)))) ho (Obj.isFreed_of_fields (Obj.data_mapFields hdo _))
  refine wpAny_pure ⟨_, rfl, wpAny_pure (hQ _ ⟨_, g1, ?_, ?_⟩ (Heap.SameBut.update ..))⟩
  · rw [Obj.cls_mapFields]; exact hc
  · rw [Obj.data_mapFields hdo]; simp [rawInt]

theorem next_drawn_none {i n nT : Nat} {oT : Obj} {places : Array Value} {Q : Option Value → Shared → Prop} (hh : A.handled = none) (hit : SetIt s.heap I S (.ref T) i n ep) (hS : s.heap.get? S = some so) (hd : so.data = .set es ep t) (hf : t.fits es.size = true) (hn : n = es.size)
    (hT : s.heap.get? T = some oT) (hTd : oT.data = .seq places nT) (hp : places[i]? = none)
    (hQ : ∀ h', Heap.ExtBut I s.heap h' → Q none { s with heap := h' }) : wpAny (model prog w) A (pyNext (.ref I)) Q E s := by
  obtain ⟨o, ho, hc, hdo⟩ := id hit
  unfold pyNext
  refine wpAny_bind (wpAny_attempt (wpAny_callSpecial?_slot (name := Str.ofString "__next__") hit.typeIs SF.slot_next
    (wpAny_call_entry SF.slot_next hit.typeIs SF.entry_next ?_ (SF.args_next _))))
  unfold Builtin.«set_iterator.__next__»
  show wpAny _ _ (fieldsOf (.ref I) >>= _) _ _ s
  refine wpAny_bind (wpAny_fieldsOf ho hdo ?_)
  dsimp only
  refine wpAny_bind ?_
  unfold setEntries
  refine wpAny_bind (wpAny_setState_of hS hd hf (wpAny_pure ?_))
  dsimp only
  rw [if_neg (by rw [hn]; simp)]
  simp only [Int.toNat_natCast]
  refine wpAny_bind (wpAny_seqItems? hT hTd ?_)
  dsimp only
  rw [hp]
  dsimp only
  refine wpAny_bind (wpAny_setField ho hdo (by simp) ?_)
  have g1 := Heap.get?_update_self (Obj.mapFields (·.set! 0 (rawInt 0))) ho (Obj.isFreed_of_fields (Obj.data_mapFields hdo _))
  have d1 : (Obj.mapFields (·.set! 0 (rawInt 0)) o).data = .fields #[.int 0 0, .int i 0, .ref S, .int n 0, .int ep 0] := by rw [Obj.data_mapFields hdo]; simp [rawInt]
  refine wpAny_bind (wpAny_setField (s := { s with heap := s.heap.update I (Obj.mapFields (·.set! 0 (rawInt 0))) }) g1 d1 (by simp) ?_)
  refine wpAny_mono (stop_here (A := A) (E := E) (Q := Q) (s := s) hh ((Heap.SameBut.update ..).trans (Heap.SameBut.update ..)).extBut hQ) (fun _ _ x => x.elim) fun e s' x => ?_
  refine wpAny_bind (wpAny_mono x ?_ fun _ _ e => e)
  rintro b s'' ⟨rfl, q⟩
  exact wpAny_pure q

theorem setIt_again {first : Value} {i n : Nat} {Q : Value → Shared → Prop} (hit : SetIt s.heap I S first i n ep) (h : Q (.ref I) s) : wpAny (model prog w) A (pyIter (.ref I)) Q E s := by
  refine wpAny_pyIter_slot hit.typeIs SF.slot_iter (wpAny_call_entry SF.slot_iter hit.typeIs SF.entry_iter ?_ (SF.args_iter _))
  show wpAny _ _ (ret (.ref I)) _ _ s
  exact wpAny_pure ⟨_, rfl, "set_iterator", _, hit.typeIs, SF.slot_next.lookup, h⟩

theorem walks_text (hA : A.handled = none) (hne : S ≠ I) (hd : so.data = .set es ep t) (hf : t.fits es.size = true) (hby : w.params.followText "set-order" = true) :
    Walks prog w A I [I, S] [I] es.size (Along (pickOrder (w.params.setOrder S ep) es)) (fun i h => SetIt h I S (.int (0 : Nat) 0) i es.size ep ∧ h.get? S = some so) where
  sub := fun b hb => by simp at hb; subst hb; simp
  frame := fun i h h' st k => ⟨st.1.keep fun o => k I (by simp) o, k S (by simp) _ st.2⟩
  item := fun i s Q E hi st hQ => by
    have hp := pick_perm (w.params.setOrder S ep) es
    have hsz : (pickOrder (w.params.setOrder S ep) es).size = es.size := by rw [← Array.length_toList, hp.length_eq, Array.length_toList]
    have hlt : i < (pickOrder (w.params.setOrder S ep) es).size := by omega
    have he := Array.getElem?_eq_getElem hlt
    refine next_slot_some (nx := 0) st.1 st.2 hd hf rfl ?_ fun h' a b => hQ _ h' _ ⟨_, he, rfl⟩ ⟨a, (b.2 S hne).trans st.2⟩ fun c o hc e => (b.2 c (by simpa using hc)).trans e
    intro A Q E h
    rw [setNext_eq]
    refine wpAny_bind (wpAny_setState_of st.2 hd hf ?_)
    dsimp only
    refine wpAny_bind ?_
    unfold setsByText
    refine wpAny_bind (wpAny_askSetting (wpAny_pure ?_))
    refine if_yes hby (if_no (by simp) ?_)
    refine wpAny_bind ?_
    unfold setWalk
    refine wpAny_bind (wpAny_setState_of st.2 hd hf ?_)
    dsimp only
    refine wpAny_bind ?_
    unfold setsByText
    refine wpAny_bind (wpAny_askSetting (wpAny_pure ?_))
    refine if_yes hby ?_
    refine wpAny_bind (wpAny_askSetting ?_)
    refine wpAny_pure ?_
    refine wpAny_pure ?_
    have q : Option.map (fun e : Int × Value => (e.snd, 0)) (pickOrder (w.params.setOrder S ep) es)[i]? = some ((pickOrder (w.params.setOrder S ep) es)[i].snd, 0) := by rw [he]; rfl
    exact q.symm ▸ h
  done := fun s Q E st hQ => by
    have hp := pick_perm (w.params.setOrder S ep) es
    have hsz : (pickOrder (w.params.setOrder S ep) es).size = es.size := by rw [← Array.length_toList, hp.length_eq, Array.length_toList]
    have he : (pickOrder (w.params.setOrder S ep) es)[es.size]? = none := Array.getElem?_eq_none (by omega)
    refine next_slot_none hA st.1 st.2 hd hf rfl ?_ fun h' b => hQ h' _ fun c o hc e => b c o (by simpa using hc) e
    intro A Q E h
    rw [setNext_eq]
    refine wpAny_bind (wpAny_setState_of st.2 hd hf ?_)
    dsimp only
    refine wpAny_bind ?_
    unfold setsByText
    refine wpAny_bind (wpAny_askSetting (wpAny_pure ?_))
    refine if_yes hby (if_no (by simp) ?_)
    refine wpAny_bind ?_
    unfold setWalk
    refine wpAny_bind (wpAny_setState_of st.2 hd hf ?_)
    dsimp only
    refine wpAny_bind ?_
    unfold setsByText
    refine wpAny_bind (wpAny_askSetting (wpAny_pure ?_))
    refine if_yes hby ?_
    refine wpAny_bind (wpAny_askSetting ?_)
    refine wpAny_pure ?_
    refine wpAny_pure ?_
    have q : Option.map (fun e : Int × Value => (e.snd, 0)) (pickOrder (w.params.setOrder S ep) es)[es.size]? = none := by rw [he]; rfl
    exact q.symm ▸ h
  self := fun i s Q E st h => setIt_again st.1 h

theorem walks_slot (hA : A.handled = none) (hne : S ≠ I) (hd : so.data = .set es ep t) (hf : t.fits es.size = true) (hby : w.params.followText "set-order" = false) (hpl : (!t.plain && decide (es.size > 1)) = false) (hr : Ris t.place) (hled : t.led = true) :
    Walks prog w A I [I, S] [I] es.size (Along es) (fun i h => (∃ sl : Nat, SetIt h I S (.int (sl : Nat) 0) i es.size ep ∧ SetTable.below t.place sl = i) ∧ h.get? S = some so) where
  sub := fun b hb => by simp at hb; subst hb; simp
  frame := fun i h h' st k => ⟨let ⟨sl, a, b⟩ := st.1; ⟨sl, a.keep fun o => k I (by simp) o, b⟩, k S (by simp) _ st.2⟩
  item := fun i s Q E hi st hQ => by
    obtain ⟨⟨sl, h1, h2⟩, h3⟩ := st
    have hps : t.place.size = es.size := by
      simp only [SetTable.fits, Bool.and_eq_true, beq_iff_eq] at hf
      exact hf.1
    have he := Array.getElem?_eq_getElem hi
    have hpi := Array.getElem?_eq_getElem (xs := t.place) (i := i) (by omega)
    refine next_slot_some (nx := t.place[i] + 1) h1 h3 hd hf rfl ?_ fun h' a b => hQ _ h' _ ⟨_, he, rfl⟩ ⟨⟨_, a, ?_⟩, (b.2 S hne).trans h3⟩ fun c o hc e => (b.2 c (by simpa using hc)).trans e
    · intro A Q E h
      rw [setNext_eq]
      refine wpAny_bind (wpAny_setState_of h3 hd hf ?_)
      dsimp only
      refine wpAny_bind ?_
      unfold setsByText
      refine wpAny_bind (wpAny_askSetting (wpAny_pure ?_))
      refine if_no (show ¬ (w.params.followText "set-order" = true) by rw [hby]; exact Bool.false_ne_true) (if_no (by rw [hpl]; exact Bool.false_ne_true) ?_)
      refine wpAny_bind ?_
      rw [hled]
      simp only [Bool.not_true, Bool.false_and, Bool.false_eq_true, if_false]
      refine wpAny_pure (wpAny_pure ?_)
      rw [h2, he, hpi]
      exact h
    · have := below_next hr (i := i) (by omega)
      simpa [Array.getD, show i < t.place.size by omega] using this
  done := fun s Q E st hQ => by
    obtain ⟨⟨sl, h1, h2⟩, h3⟩ := st
    have he : es[es.size]? = none := Array.getElem?_eq_none (Nat.le_refl _)
    refine next_slot_none hA h1 h3 hd hf rfl ?_ fun h' b => hQ h' _ fun c o hc e => b c o (by simpa using hc) e
    intro A Q E h
    rw [setNext_eq]
    refine wpAny_bind (wpAny_setState_of h3 hd hf ?_)
    dsimp only
    refine wpAny_bind ?_
    unfold setsByText
    refine wpAny_bind (wpAny_askSetting (wpAny_pure ?_))
    refine if_no (show ¬ (w.params.followText "set-order" = true) by rw [hby]; exact Bool.false_ne_true) (if_no (by rw [hpl]; exact Bool.false_ne_true) ?_)
    refine wpAny_bind ?_
    rw [hled]
    simp only [Bool.not_true, Bool.false_and, Bool.false_eq_true, if_false]
    refine wpAny_pure (wpAny_pure ?_)
    rw [h2, he]
    exact h
  self := fun i s Q E st h => let ⟨⟨_, a, _⟩, _⟩ := st; setIt_again a h

theorem walks_drawn (hA : A.handled = none) (hne : S ≠ I) (hnT : T ≠ I) {oT : Obj} {nT : Nat} {pl : List Nat} (hd : so.data = .set es ep t) (hf : t.fits es.size = true) (hTd : oT.data = .seq (pl.map fun (i : Nat) => rawInt (i : Int)).toArray nT) (hp : pl.Perm (List.range es.size)) :
    Walks prog w A I [I, S, T] [I] es.size (Along (pl.filterMap (es[·]?)).toArray) (fun i h => SetIt h I S (.ref T) i es.size ep ∧ h.get? S = some so ∧ h.get? T = some oT) where
  sub := fun b hb => by simp at hb; subst hb; simp
  frame := fun i h h' st k => ⟨st.1.keep fun o => k I (by simp) o, k S (by simp) _ st.2.1, k T (by simp) _ st.2.2⟩
  item := fun i s Q E hi st hQ => by
    have hlen : pl.length = es.size := by rw [hp.length_eq, List.length_range]
    have hlt : i < pl.length := by omega
    have hin : pl[i] < es.size := List.mem_range.mp (hp.mem_iff.mp (List.getElem_mem hlt))
    have fm : pl.filterMap (es[·]?) = pl.map (fun p => es.getD p default) := by
      have gen : ∀ l : List Nat, (∀ p ∈ l, p < es.size) → l.filterMap (es[·]?) = l.map (fun p => es.getD p default) := by
        intro l
        induction l with
        | nil => intro _; rfl
        | cons a l ih =>
          intro h
          have ha := h a (by simp)
          rw [List.filterMap_cons, Array.getElem?_eq_getElem ha, List.map_cons, ih fun p hp => h p (by simp [hp])]
          simp [Array.getD, ha]
      exact gen pl fun p hm => List.mem_range.mp (hp.mem_iff.mp hm)
    refine next_drawn_some (p := pl[i]) (e := es[pl[i]]) st.1 st.2.1 hd hf rfl st.2.2 hTd (by simp [hlt, rawInt]) (Array.getElem?_eq_getElem hin) fun h' a b => hQ _ h' _ ⟨es[pl[i]], ?_, rfl⟩ ⟨a, (b.2 S hne).trans st.2.1, (b.2 T hnT).trans st.2.2⟩ fun c o hc e => (b.2 c (by simpa using hc)).trans e
    rw [fm]
    simp [hlt, Array.getD, hin]
  done := fun s Q E st hQ => by
    have hlen : pl.length = es.size := by rw [hp.length_eq, List.length_range]
    exact next_drawn_none hA st.1 st.2.1 hd hf rfl st.2.2 hTd (by simp [hlen]) fun h' b => hQ h' _ fun c o hc e => b c o (by simpa using hc) e
  self := fun i s Q E st h => setIt_again st.1 h
end

-- Cx38
set_option Elab.async false
set_option linter.unusedVariables false
set_option linter.unusedSimpArgs false
set_option maxRecDepth 100000

section
variable {prog : Program} {w : World} {A : Around} {E : Value → Shared → Prop} {s : Shared} {S : Addr}
theorem frozen_iter_eq (s : Value) : Builtin.«frozenset.__iter__» ⟨[s], []⟩ = (do
  let a ← Builtin.Frozenset.addrOf s
  let n ← Builtin.Frozenset.sizeOf a
  let first ← if ← setDrawn a then newTuple ((← drawOrder n (List.range n)).map fun (i : Nat) => rawInt i) else pure (rawInt 0)
  ret (← newFields "set_iterator" [first, rawInt 0, .ref a, rawInt n, rawInt (← setEpoch a)])) := by
  unfold Builtin.«frozenset.__iter__» Builtin.Frozenset.slot0 slotArgs
  simp
theorem setDrawn_eq (a : Addr) : setDrawn a = (do
  let (es, _, t) ← setState a
  let byText ← setsByText
  return !byText && (!t.plain && es.size > 1)) := rfl

theorem along_ints {es order : Array (Int × Value)} (hel : ElemsOf (intKind prog w) es.toList) (hp : order.toList.Perm es.toList) (vals : List Value) (hl : vals.length = es.size) (hv : ∀ (j : Nat) v, vals[j]? = some v → Along order j v) :
    ∃ ms, IntsAre vals ms ∧ ms.Perm (es.toList.map fun e => intOf e.2) := by
  have hsz : order.toList.length = es.size := by rw [hp.length_eq, Array.length_toList]
  have e1 : vals = order.toList.map (·.2) := by
    refine List.ext_getElem? fun j => ?_
    cases q : vals[j]? with
    | none =>
      have : es.size ≤ j := by rw [← hl]; exact List.getElem?_eq_none_iff.mp q
      rw [List.getElem?_eq_none (by simp only [List.length_map]; omega)]
    | some v =>
      obtain ⟨e, he, rfl⟩ := hv j v q
      rw [List.getElem?_map, Array.getElem?_toList, he]; rfl
  refine ⟨order.toList.map fun e => intOf e.2, ?_, hp.map _⟩
  subst e1
  have hel' := hel.perm hp
  clear hp hl hv hsz
  have gen : ∀ l : List (Int × Value), ElemsOf (intKind prog w) l → IntsAre (l.map (·.2)) (l.map fun e => intOf e.2) := by
    intro l
    induction l with
    | nil => intro _; exact .nil
    | cons a l ih =>
      intro h
      obtain ⟨k, t, rfl⟩ := elem_int h (List.mem_cons_self)
      exact .cons k t (ih h.tail)
  exact gen _ hel'

/-- a set gone through -/
theorem set_iter {l : List Int} {Q : Value → Shared → Prop} (hS : SetG prog w s.heap S l)
    (h : ∀ I fp P St s', (∀ A', A'.handled = none → Walks prog w A' I fp [I] l.length P St) → St 0 s'.heap → (∀ b o, s.heap.get? b = some o → s'.heap.get? b = some o) → Kept s s' → (∀ b ∈ fp, b < s'.heap.objs.size) → (∀ o, s.heap.get? I ≠ some o) → (∀ b ∈ fp, b = S ∨ ∀ o, s.heap.get? b ≠ some o) →
      (∀ vals : List Value, vals.length = l.length → (∀ (j : Nat) v, vals[j]? = some v → P j v) → ∃ ms, IntsAre vals ms ∧ ms.Perm l) → Q (.ref I) s') : wpAny (model prog w) A (pyIter (.ref S)) Q E s := by
  obtain ⟨so, es, ep, t, ho, hex, hd, hel, hl, hn, hb, hf, hr, hled⟩ := hS
  have hsz : es.size = l.length := by rw [← hl, List.length_map, Array.length_toList]
  rw [← hsz] at h
  have hT : s.TypeIs (.ref S) "set" := ⟨so, ho, hex.1⟩
  have hSlt : S < s.heap.objs.size := Heap.lt_size ho
  refine wpAny_pyIter_slot hT PySem.F.slot_set_iter (wpAny_call_entry PySem.F.slot_set_iter hT SF.entry_set_iter ?_ (PySem.F.args_set_iter_1 _))
  rw [frozen_iter_eq]
  refine wpAny_bind (wpAny_pure ?_)
  unfold Builtin.Frozenset.sizeOf setEntries
  refine wpAny_bind (wpAny_bind (wpAny_bind (wpAny_setState_of ho hd hf (wpAny_pure (wpAny_pure ?_)))))
  dsimp only
  rw [setDrawn_eq]
  refine wpAny_bind (wpAny_bind (wpAny_setState_of ho hd hf ?_))
  unfold setsByText
  refine wpAny_bind (wpAny_bind (wpAny_askSetting (wpAny_pure (wpAny_pure ?_))))
  by_cases hby : w.params.followText "set-order" = true
  · refine if_no (by rw [show (({ program := (model prog w).prog, params := (model prog w).w.params } : Setting).params.followText "set-order") = true from hby]; simp) ?_
    refine wpAny_bind (wpAny_pure ?_)
    unfold setEpoch
    refine wpAny_bind (wpAny_bind (wpAny_setState_of ho hd hf (wpAny_pure ?_)))
    refine wpAny_bind (wpAny_newObj_type (wpAny_pure ⟨_, rfl, "set_iterator", _, ⟨_, Heap.get?_push_size _ rfl, rfl⟩, SF.slot_next.lookup, ?_⟩))
    have hne : S ≠ s.heap.objs.size := Nat.ne_of_lt hSlt
    refine h _ [s.heap.objs.size, S] _ _ _ (fun A' hA => walks_text hA hne hd hf hby) ⟨⟨_, Heap.get?_push_size _ rfl, rfl, rfl⟩, Heap.get?_push_of_some _ ho⟩ (fun b o e => Heap.get?_push_of_some _ e) ⟨rfl, rfl⟩ (fun b hb => ?_) (not_there _) (fun b hb => ?_) fun vals h1 h2 => hl ▸ along_ints hel (pick_perm _ _) vals h1 h2
    · show b < (s.heap.push _).objs.size
      rw [Heap.size_push]
      simp only [List.mem_cons, List.not_mem_nil, or_false] at hb
      rcases hb with rfl | rfl
      · exact Nat.lt_succ_self _
      · exact Nat.lt_succ_of_lt hSlt
    · simp only [List.mem_cons, List.not_mem_nil, or_false] at hb
      rcases hb with rfl | rfl
      · exact .inr (not_there _)
      · exact .inl rfl
  · have hby' : w.params.followText "set-order" = false := by simpa using hby
    by_cases hpl : (!t.plain && decide (es.size > 1)) = true
    · refine if_yes (by rw [show (({ program := (model prog w).prog, params := (model prog w).w.params } : Setting).params.followText "set-order") = false from hby', hpl]; rfl) ?_
      refine wpAny_bind (drawOrder_perm _ _ _ _ (List.length_range ..) fun pl s1 ek hp => ?_)
      have e1 := ek.h
      have hplen : pl.length = es.size := by rw [hp.length_eq, List.length_range]
      refine wpAny_bind (wpAny_newTuple ?_ (by rw [List.length_map, hplen, sizeLine_eq]; unfold scanBound at hb; omega))
      have ho1 : s1.heap.get? S = some so := by rw [e1]; exact ho
      have ho2 := Heap.get?_push_of_some (h := s1.heap) { cls := .type "tuple", data := .seq (pl.map fun (i : Nat) => rawInt (i : Int)).toArray } ho1
      unfold setEpoch
      refine wpAny_bind (wpAny_bind (wpAny_setState_of (s := { s1 with heap := s1.heap.push _ }) ho2 hd hf (wpAny_pure ?_)))
      refine wpAny_bind (wpAny_newObj_type (wpAny_pure ⟨_, rfl, "set_iterator", _, ⟨_, Heap.get?_push_size _ rfl, rfl⟩, SF.slot_next.lookup, ?_⟩))
      have hz1 : s1.heap.objs.size = s.heap.objs.size := by rw [e1]
      have hz2 : (s1.heap.push { cls := .type "tuple", data := .seq (pl.map fun (i : Nat) => rawInt (i : Int)).toArray }).objs.size = s.heap.objs.size + 1 := by rw [Heap.size_push, hz1]
      have kk : ∀ b o, s.heap.get? b = some o → (s1.heap.push { cls := .type "tuple", data := .seq (pl.map fun (i : Nat) => rawInt (i : Int)).toArray }).get? b = some o := fun b o e => Heap.get?_push_of_some _ (by rw [e1]; exact e)
      have hI : ∀ o, s.heap.get? (s1.heap.push { cls := .type "tuple", data := .seq (pl.map fun (i : Nat) => rawInt (i : Int)).toArray }).objs.size ≠ some o := fun o e => absurd (kk _ _ e) (not_there _ _)
      refine h _ [(s1.heap.push { cls := .type "tuple", data := .seq (pl.map fun (i : Nat) => rawInt (i : Int)).toArray }).objs.size, S, s1.heap.objs.size] _ _ _ (fun A' hA => walks_drawn hA ?_ ?_ hd hf rfl hp) ⟨⟨_, Heap.get?_push_size _ rfl, rfl, rfl⟩, Heap.get?_push_of_some _ ho2, Heap.get?_push_of_some _ (Heap.get?_push_size _ rfl)⟩ (fun b o e => Heap.get?_push_of_some _ (kk b o e)) ⟨ek.k.os, ek.k.gens⟩ (fun b hb => ?_) hI (fun b hb => ?_) fun vals h1 h2 => hl ▸ along_ints hel ?_ vals h1 h2
      · rw [hz2]; exact Nat.ne_of_lt (Nat.lt_succ_of_lt hSlt)
      · rw [hz2, hz1]; exact Nat.ne_of_lt (Nat.lt_succ_self _)
      · show b < ((s1.heap.push _).push _).objs.size
        rw [Heap.size_push]
        simp only [List.mem_cons, List.not_mem_nil, or_false] at hb
        rcases hb with rfl | rfl | rfl
        · exact Nat.lt_succ_self _
        · rw [hz2]; exact Nat.lt_succ_of_lt (Nat.lt_succ_of_lt hSlt)
        · rw [hz2, hz1]; exact Nat.lt_succ_of_lt (Nat.lt_succ_self _)
      · simp only [List.mem_cons, List.not_mem_nil, or_false] at hb
        rcases hb with rfl | rfl | rfl
        · exact .inr hI
        · exact .inl rfl
        · exact .inr fun o e => by rw [hz1] at e; exact not_there _ _ e
      · have := hp.filterMap (es[·]?)
        rw [filterMap_getElem?_range] at this
        simpa using this
    · have hpl' : (!t.plain && decide (es.size > 1)) = false := by simpa using hpl
      refine if_no (by rw [hpl']; simp) ?_
      refine wpAny_bind (wpAny_pure ?_)
      unfold setEpoch
      refine wpAny_bind (wpAny_bind (wpAny_setState_of ho hd hf (wpAny_pure ?_)))
      refine wpAny_bind (wpAny_newObj_type (wpAny_pure ⟨_, rfl, "set_iterator", _, ⟨_, Heap.get?_push_size _ rfl, rfl⟩, SF.slot_next.lookup, ?_⟩))
      have hne : S ≠ s.heap.objs.size := Nat.ne_of_lt hSlt
      refine h _ [s.heap.objs.size, S] _ _ _ (fun A' hA => walks_slot hA hne hd hf hby' hpl' hr (hled hby')) ⟨⟨0, ⟨_, Heap.get?_push_size _ rfl, rfl, rfl⟩, below_zero hr⟩, Heap.get?_push_of_some _ ho⟩ (fun b o e => Heap.get?_push_of_some _ e) ⟨rfl, rfl⟩ (fun b hb => ?_) (not_there _) (fun b hb => ?_) fun vals h1 h2 => hl ▸ along_ints hel (.refl _) vals h1 h2
      · show b < (s.heap.push _).objs.size
        rw [Heap.size_push]
        simp only [List.mem_cons, List.not_mem_nil, or_false] at hb
        rcases hb with rfl | rfl
        · exact Nat.lt_succ_self _
        · exact Nat.lt_succ_of_lt hSlt
      · simp only [List.mem_cons, List.not_mem_nil, or_false] at hb
        rcases hb with rfl | rfl
        · exact .inr (not_there _)
        · exact .inl rfl
end

-- Cx39
set_option Elab.async false
set_option linter.unusedVariables false
set_option linter.unusedSimpArgs false
set_option maxRecDepth 100000

section
variable {prog : Program} {w : World} {A : Around} {E : Value → Shared → Prop} {s : Shared} {S : Addr}
theorem hint_set {r : Addr} {Q : Bool → Shared → Prop} (hT : s.TypeIs (.ref r) "set") (h : Q false s) : wpAny (model prog w) A (Builtin.List.listLengthHint (.ref r)) Q E s := by
  unfold Builtin.List.listLengthHint
  refine wpAny_bind (wpAny_specialOf hT PySem.F.slot_set_len.lookup ?_)
  generalize hid : ("set.__len__" : String) = id0
  wp_delta
  rw [show splitId id0 = some ("set", "__len__") from by subst hid; decide +kernel]
  subst hid
  refine wpAny_bind (wpAny_isInstance (T := "set") (b := true) hT (by rw [isSubtype_type]; kernel_rfl) ?_)
  refine wpAny_ite_split (fun hab => absurd hab (by decide)) (fun _ => ?_)
  refine wpAny_ite_split (fun _ => ?_) (fun hab => absurd (by decide +kernel) hab)
  refine wpAny_bind (wpAny_typeOf hT ?_)
  exact wpAny_pure h

def Keeps (h h' : Heap) : Prop := ∀ b o, h.get? b = some o → h'.get? b = some o
theorem extend_of {S r : Addr} {T : String} {n : Nat} {PV : (Nat → Value → Prop) → Prop} {R : Result → Shared → Prop} (hh : A.handled = none) (hT : s.TypeIs (.ref r) T) (nl : (Value.type T == Value.type "list") = false) (nt : (Value.type T == Value.type "tuple") = false)
    (hint : ∀ A E (s : Shared) Q, s.TypeIs (.ref r) T → Q false s → wpAny (model prog w) A (Builtin.List.listLengthHint (.ref r)) Q E s) (hn : n ≤ sizeLine) (hSr : S ≠ r) (c₀ : Nat) (hS : s.heap.get? S = some { cls := .type "list", data := .seq #[] c₀ }) (res : Value)
    (iter : ∀ A E (Q' : Value → Shared → Prop), (∀ I fp P St s', (∀ A', A'.handled = none → Walks prog w A' I fp [I] n P St) → St 0 s'.heap → Keeps s.heap s'.heap → Kept s s' → (∀ o, s.heap.get? I ≠ some o) → (∀ b ∈ fp, b = r ∨ ∀ o, s.heap.get? b ≠ some o) → PV P → Q' (.ref I) s') → wpAny (model prog w) A (pyIter (.ref r)) Q' E s)
    (hR : ∀ s' acc c' P, Kept s s' → (∀ b o, b ≠ S → s.heap.get? b = some o → s'.heap.get? b = some o) → s'.heap.get? S = some { cls := .type "list", dict := none, data := .seq acc c', slots := #[] } → acc.size = n → (∀ (j : Nat) v, acc[j]? = some v → P j v) → PV P → R (.ok (.ret res)) s') :
    wpAny (model prog w) A.in1 (Builtin.List.listExtendWith (.ref S) (.ref r) res)
      (fun fin s' => match fin with | .done f => R (.ok f) s' | .again c' => c'.quiet = true ∧ codeAny (model prog w) A c' R s') (fun e s' => R (.error e) s') s := by
  unfold Builtin.List.listExtendWith
  refine wpAny_bind (wpAny_typeOf (T := T) hT ?_)
  have h1 : Builtin.List.listSameRef (.ref S) (.ref r) = false := by simp [Builtin.List.listSameRef, hSr]
  simp only [h1, nl, nt, Bool.or_false, Bool.false_eq_true, if_false]
  refine wpAny_bind (iter _ _ _ fun I fp P St s1 W st k kk hI hfp pv => ?_)
  have hSI : S ≠ I := fun e => hI _ (e ▸ hS)
  have hSf : S ∉ fp := fun hm => by
    rcases hfp S hm with e | e
    · exact hSr e
    · exact e _ hS
  have hS₁ := k _ _ hS
  have hT1 : s1.TypeIs (.ref r) T := by obtain ⟨o, ho, hc⟩ := hT; exact ⟨o, k _ _ ho, hc⟩
  have key : ∀ (h : Heap) (c₁ : Nat), St 0 h → (∀ b o, b ≠ S → s.heap.get? b = some o → h.get? b = some o) →
      h.get? S = some { cls := .type "list", data := .seq #[] c₁ } → codeAny (model prog w) A (.builtin "list.extend.loop" ⟨[.ref S, .ref I, res], []⟩) R { s1 with heap := h } := by
    intro h c₁ hst hk hS₁
    refine codeAny_extend_loopS (W A.in1 hh).toS hn S hSf res n 0 _ #[] c₁ rfl (Nat.zero_le _) hst hS₁ (ItemsOf.nil _) fun s' acc' c' hm hS' hacc => ?_
    refine hR s' acc' c' P ⟨hm.os.trans kk.os, hm.gens.trans kk.gens⟩ (fun b o hb e => hm.heap b o (fun hmem => ?_) (hk b o hb e)) hS' hacc.1 hacc.2 pv
    rcases List.mem_cons.mp hmem with e' | hmem
    · exact hb e'
    · obtain rfl := List.mem_singleton.mp hmem
      exact hI _ e
  refine wpAny_bind (wpAny_holding (hint _ _ _ _ hT1 ?_))
  refine wpAny_ite_split (fun _ => ?_) (fun _ => wpAny_pure ⟨plainId_quiet PySem.F.plain_extend_loop _, key s1.heap c₀ st (fun b o _ e => k b o e) hS₁⟩)
  refine wpAny_bind (wpAny_rule ?_)
  refine wpAny_bind ?_
  show wpAny _ _ (updateSeq S (·.push .none) >>= fun _ => updateSeq S (·.pop)) _ _ _
  refine wpAny_bind (wpAny_updateSeq hS₁ rfl ?_)
  have hS₂ := Heap.get?_update_self (Obj.mapSeq (·.push Value.none)) hS₁ rfl
  refine wpAny_updateSeq (hz := by seq_fits) hS₂ rfl ?_
  have hS₃ := Heap.get?_update_self (Obj.mapSeq (·.pop)) hS₂ rfl
  refine wpAny_pure ⟨plainId_quiet PySem.F.plain_extend_loop _, key _ _ ?_ (fun b o hb e => ?_) hS₃⟩
  · refine (W A hh).frame 0 _ _ st fun b hb o e => ?_
    have hbS : b ≠ S := fun h => hSf (h ▸ hb)
    exact (Heap.get?_update_other _ _ (Ne.symm hbS)).trans ((Heap.get?_update_other _ _ (Ne.symm hbS)).trans e)
  · exact (Heap.get?_update_other _ _ (Ne.symm hb)).trans ((Heap.get?_update_other _ _ (Ne.symm hb)).trans (k b o e))

theorem collect_of {r : Addr} {T : String} {n : Nat} {PV : (Nat → Value → Prop) → Prop} {R : List Value → Shared → Prop} (hh : A.handled = none) (hT : s.TypeIs (.ref r) T) (nl : (Value.type T == Value.type "list") = false) (nt : (Value.type T == Value.type "tuple") = false)
    (hint : ∀ A E (s : Shared) Q, s.TypeIs (.ref r) T → Q false s → wpAny (model prog w) A (Builtin.List.listLengthHint (.ref r)) Q E s) (hn : n ≤ sizeLine)
    (iter : ∀ A E (s1 : Shared) (Q' : Value → Shared → Prop), Keeps s.heap s1.heap → (∀ I fp P St s', (∀ A', A'.handled = none → Walks prog w A' I fp [I] n P St) → St 0 s'.heap → Keeps s1.heap s'.heap → Kept s1 s' → (∀ o, s1.heap.get? I ≠ some o) → (∀ b ∈ fp, b = r ∨ ∀ o, s1.heap.get? b ≠ some o) → PV P → Q' (.ref I) s') → wpAny (model prog w) A (pyIter (.ref r)) Q' E s1)
    (h : ∀ s' (acc : Array Value) P, Keeps s.heap s'.heap → Kept s s' → acc.size = n → (∀ (j : Nat) v, acc[j]? = some v → P j v) → PV P → R acc.toList s') : wpAny (model prog w) A (collect (.ref r)) R E s := by
  have hlt : r < s.heap.objs.size := by obtain ⟨o, ho, _⟩ := hT; exact Heap.lt_size ho
  unfold collect
  refine wpAny_bind (wpAny_runValue (codeAny_builtin entry_proto_collect' ?_))
  rw [Around.under_plainId PySem.F.plain_proto_collect _]
  show wpAny _ A.in1 (newList [] >>= fun l => again (.builtin "list.__iadd__" ⟨[l, .ref r], []⟩)) _ _ s
  refine wpAny_bind (wpAny_newObj_type ?_)
  refine wpAny_pure ⟨plainId_quiet PySem.F.plain_list_iadd _, codeAny_builtin entry_list_iadd' ?_⟩
  rw [Around.under_plainId PySem.F.plain_list_iadd _]
  have k1 : Keeps s.heap (s.heap.push { cls := .type "list", data := .seq ([] : List Value).toArray }) := fun b o e => Heap.get?_push_of_some _ e
  have hS₁ : (s.heap.push { cls := .type "list", data := .seq ([] : List Value).toArray }).get? s.heap.objs.size = some { cls := .type "list", data := .seq #[] } := Heap.get?_push_size _ rfl
  show wpAny _ A.in1 (Builtin.List.listExtendWith (.ref s.heap.objs.size) (.ref r) (.ref s.heap.objs.size)) _ _ _
  have key := extend_of (A := A) (prog := prog) (w := w) (s := { s with heap := s.heap.push { cls := .type "list", data := .seq ([] : List Value).toArray } }) (n := n) (PV := PV)
    (R := fun (q : Result) (s' : Shared) => ∃ (acc' : Array Value) (c' : Nat) (P : Nat → Value → Prop), q = .ok (.ret (.ref s.heap.objs.size)) ∧ Keeps s.heap s'.heap ∧ Kept s s' ∧ s'.heap.get? s.heap.objs.size = some { cls := .type "list", dict := none, data := .seq acc' c', slots := #[] } ∧ acc'.size = n ∧ (∀ (j : Nat) v, acc'[j]? = some v → P j v) ∧ PV P)
    hh (by obtain ⟨o, ho, hc⟩ := hT; exact ⟨o, k1 _ _ ho, hc⟩) nl nt hint hn (S := s.heap.objs.size) (Nat.ne_of_gt hlt) 0 hS₁ (.ref s.heap.objs.size)
    (fun A E Q' h => iter A E _ Q' k1 h)
    (fun s' acc' c' P kk hk hS' h1 h2 h3 => ⟨acc', c', P, rfl, fun b o e => hk b o (Nat.ne_of_lt (Heap.lt_size e)) (k1 b o e), ⟨kk.os, kk.gens⟩, hS', h1, h2, h3⟩)
  refine wpAny_mono key (fun fin s' x => ?_) fun e s' x => ?_
  · cases fin with
    | done f =>
      obtain ⟨acc', c', P, e, hk, kk, hS', h1, h2, h3⟩ := x
      cases e
      show wpAny _ A (load s.heap.objs.size >>= _) _ _ _
      refine wpAny_bind (wpAny_load hS' ?_)
      exact wpAny_pure (h s' acc' P hk kk h1 h2 h3)
    | again c₁ =>
      refine ⟨x.1, codeAny_mono x.2 fun q s₂ y => ?_⟩
      obtain ⟨acc', c', P, rfl, hk, kk, hS', h1, h2, h3⟩ := y
      show wpAny _ A (load s.heap.objs.size >>= _) _ _ _
      refine wpAny_bind (wpAny_load hS' ?_)
      exact wpAny_pure (h s₂ acc' P hk kk h1 h2 h3)
  · obtain ⟨_, _, _, e', _⟩ := x
    cases e'

theorem sorted_collected {r : Addr} {l : List Int} {Q : Value → Shared → Prop} (h64 : l.length < 64)
    (hc : ∀ (R : List Value → Shared → Prop), (∀ vals ms s', Keeps s.heap s'.heap → Kept s s' → IntsAre vals ms → ms.Perm l → R vals s') → wpAny (model prog w) A.in1 (collect (.ref r)) R E s)
    (h : ∀ (m : Addr) (out : Array Value) (e : Nat) (ms : List Int) s', Keeps s.heap s'.heap → Kept s s' → (∀ o, s.heap.get? m ≠ some o) → s'.heap.get? m = some (listOf out e) → IntsAre out.toList ms → ms.Perm l → ms.Pairwise (· ≤ ·) → Q (.ref m) s') :
    wpAny (model prog w) A (call (.builtin "sorted") [.ref r]) Q E s := by
  refine call_function_entry kind_sorted plain_sorted entry_sorted (args_sorted1 _) ?_
  unfold Builtin.«sorted»
  refine wpAny_bind (m := checkCount "sorted" 1 1 _) (wpAny_pure ?_)
  refine wpAny_bind (hc _ fun vals ms s1 k kk hI hp => ?_)
  have hlen : vals.length = l.length := by rw [hI.length, hp.length_eq]
  refine wpAny_bind (wpAny_newList ?_ (by rw [hlen, sizeLine_eq]; omega))
  have hoL : (s1.heap.push (seqObj "list" vals.toArray 0)).get? s1.heap.objs.size = some (seqObj "list" vals.toArray 0) := Heap.get?_push_size _ rfl
  have hnew : ∀ o, s.heap.get? s1.heap.objs.size ≠ some o := fun o e => absurd (k _ _ e) (not_there _ _)
  refine wpAny_bind (wpAny_holding (wpAny_call_entry slot_list_sort ⟨_, hoL, rfl⟩ entry_list_sort (list_sort_tree hoL hI (by omega) fun out ns' a1 a2 a3 => ⟨_, rfl, ?_⟩) (args_list_sort _)))
  obtain ⟨e, he⟩ := sortedHeap_at (out := out) hoL
  refine wpAny_pure ⟨_, rfl, h _ out e ns' _ (fun b o ho => ?_) ⟨kk.os, kk.gens⟩ hnew he a1 (a2.trans hp) a3⟩
  have hlt := Heap.lt_size (k _ _ ho)
  show (sortedHeap (s1.heap.push _) s1.heap.objs.size vals out).get? b = some o
  rw [sortedHeap_old (Nat.ne_of_lt hlt) (by rw [Heap.size_push]; exact Nat.lt_succ_of_lt hlt)]
  exact Heap.get?_push_of_some _ (k _ _ ho)
end

section
variable {c : Cx} {d : Nat} {σ : AHeap} {Q : AV → AHeap → Prop} {X : Addr → AHeap → Prop} {A : Around} {E : Value → Shared → Prop} {s : Shared} {Fz : Fzn}
theorem collect_set {S : Addr} {l : List Int} {R : List Value → Shared → Prop} (hh : A.handled = none) (hS : SetG c.prog c.w s.heap S l) (h : ∀ vals ms s', Keeps s.heap s'.heap → Kept s s' → IntsAre vals ms → ms.Perm l → R vals s') : wpAny c.M A (collect (.ref S)) R E s := by
  have hS0 := hS
  obtain ⟨so, es, ep, t, ho, hex, _, _, _, _, hb, _⟩ := hS0
  refine collect_of (T := "set") (n := l.length) (PV := fun P => ∀ vals : List Value, vals.length = l.length → (∀ (j : Nat) v, vals[j]? = some v → P j v) → ∃ ms, IntsAre vals ms ∧ ms.Perm l) hh ⟨so, ho, hex.1⟩ (by decide) (by decide) (fun _ _ _ _ => hint_set)
    (by unfold scanBound at hb; rw [sizeLine_eq]; omega) (fun A E s1 Q' k h => ?_) fun s' acc P k kk h1 h2 h3 => ?_
  · have hS1 : SetG c.prog c.w s1.heap S l := by obtain ⟨so, es, ep, t, ho, rest⟩ := hS; exact ⟨so, es, ep, t, k _ _ ho, rest⟩
    exact set_iter hS1 fun I fp P St s' W st k' kk _ hI hfp pv => h I fp P St s' W st k' kk hI hfp pv
  · obtain ⟨ms, hI, hp⟩ := h3 acc.toList (by rw [Array.length_toList, h1]) fun j v e => h2 j v (by rw [← Array.getElem?_toList]; exact e)
    exact h _ ms s' k kk hI hp
theorem call_sorted_set {l : Addr} {ns : List Int} (e : σ l = some (.setI ns)) (hz : ns.length < 64) (h : ∀ (m : Addr) (ms : List Int), ms.Perm ns → ms.Pairwise (· ≤ ·) → σ m = none → Q (.ref m) (σ.set m (.list (intL ms)))) : CallOK c d (.raw (.builtin "sorted")) [.ref l] σ Q X := by
  intro A Fz s vs hr hb hbs S r
  obtain ⟨f, lv, rfl, rf, rl⟩ := r.two_inv
  have h1 : f = .builtin "sorted" := by cases rf; rfl
  have h2 : lv = .ref l := by cases rl; rfl
  subst h1; subst h2
  have hS : SetG c.prog c.w s.heap l ns := S.cell _ _ e
  show wpAny c.M A (call (.builtin "sorted") [.ref l]) _ _ s
  refine sorted_collected hz (fun R k => collect_set (by have := hr.hn; simpa using this) hS k) fun m out ee ms s' k kk hnew hat hI hp hs => ?_
  obtain ⟨S', g, hσ⟩ := S.new (c := .list (intL ms)) hnew k ⟨out, ee, hat, are_intL hI⟩
  exact ⟨.ref m, _, S', ⟨g, kk⟩, .ref m, h m ms hp hs hσ⟩
theorem call_len_setI {l : Addr} {ns : List Int} (e : σ l = some (.setI ns)) (h : Q (.int ns.length) σ) : CallOK c d (.raw (.builtin "len")) [.ref l] σ Q X := by
  intro A Fz s vs hr hb hbs S r
  obtain ⟨f, lv, rfl, rf, rl⟩ := r.two_inv
  have h1 : f = .builtin "len" := by cases rf; rfl
  have h2 : lv = .ref l := by cases rl; rfl
  subst h1; subst h2
  have hS : SetG c.prog c.w s.heap l ns := S.cell _ _ e
  obtain ⟨so, es, ep, t, ho, hex, hd, _, hl, _, hb', hf, _⟩ := hS
  have hsz : es.size = ns.length := by rw [← hl, List.length_map, Array.length_toList]
  show wpAny c.M A (call (.builtin "len") [.ref l]) _ _ s
  refine PySem.call_len_set ho hex hd hf (by rw [hsz]; unfold scanBound at hb'; omega) ?_
  refine out_keep (s' := { s with toks := s.toks + 1 + 1 }) S (fun _ _ x => x) (av := .int ns.length) ?_ h
  rw [hsz]; exact .int _ _
end

-- Cx40
set_option Elab.async false
set_option linter.unusedVariables false
set_option linter.unusedSimpArgs false
set_option maxRecDepth 20000

/-! the script: a list of ints that stands still -/
def Script (c : Cx) (l : Addr) (ns : List Int) : Prop := ∃ vals : List Value, c.h₀.IsList l vals.toArray ∧ IntsAre vals ns
section
variable {c : Cx} {d : Nat} {σ : AHeap} {Q : AV → AHeap → Prop} {X : Addr → AHeap → Prop} {A : Around} {E : Value → Shared → Prop} {s : Shared} {Fz : Fzn}
theorem script_at {l : Addr} {ns : List Int} (H : Script c l ns) (hbs : Bs c Fz) (S : St c.prog c.w Fz σ s.heap) : ∃ its : Array Value, s.heap.IsList l its ∧ RVs s.heap its.toList (intL ns) := by
  obtain ⟨vals, ⟨o, ho, r⟩, hI⟩ := H
  exact ⟨vals.toArray, ⟨o, S.fz _ _ (hbs _ _ ho), r⟩, by simpa using are_intL hI⟩
theorem sub_slc_script {l : Addr} {ns : List Int} {lo hi : AV} (H : Script c l ns) (hl : isPart lo = true) (hh : isPart hi = true) (hz : Fits ns.length) (h : ∀ m, σ m = none → Q (.ref m) (σ.set m (.list (slcOf (intL ns) lo hi)))) : SubOK c d (.ref l) (.slice lo hi .none) σ Q X := by
  intro A Fz s vs hr hb hbs S r
  obtain ⟨lv, iv, rfl, rl, rx⟩ := r.two_inv
  have h2 : lv = .ref l := by cases rl; rfl
  subst h2
  cases rx with | slice sa lov hiv stv _ _ _ he rlo rhi rst => ?_
  cases rst
  obtain ⟨its, hl', ri⟩ := script_at H hbs S
  have hsz : its.size = ns.length := by rw [list_size ri]; simp [intL]
  show wpAny c.M A (subT (.ref l) (.ref sa)) _ _ s
  refine sub_of hl'.typeIs (by simp) slot_list_getitem.lookup ?_
  refine wpAny_getItem_list_slice (st := none) hl' ⟨_, he, rfl, rfl⟩ (part_of rlo hl) (part_of rhi hh) .none (by simp) ?_ (by rw [hsz]; exact hz.le)
  obtain ⟨S', g, hn⟩ := list_new (its := slicePick its (partOf lo) (partOf hi) none) (ys := slcOf (intL ns) lo hi) S (by rw [slice_pick hl hh]; exact ri.ofSlc lo hi)
  exact ⟨_, _, S', ⟨g, rfl, rfl⟩, .ref _, h _ hn⟩
theorem slcOf_take (ns : List Int) (k : Nat) : slcOf (intL ns) .none (.int k) = intL (ns.take k) := by
  unfold slcOf hiOf loOf clipAt intL
  dsimp only
  rw [if_neg (by omega), List.drop_zero, List.map_take, List.length_map]
  refine List.ext_getElem? fun i => ?_
  simp only [List.getElem?_take]
  simp only [Int.toNat_natCast]
  by_cases h1 : i < k
  · by_cases h2 : i < ns.length
    · rw [if_pos (by omega), if_pos h1]
    · rw [if_neg (by omega), if_pos h1, List.getElem?_eq_none (by simp; omega)]
  · rw [if_neg (by omega), if_neg h1]
end

-- Cx41
set_option Elab.async false
set_option linter.unusedVariables false
set_option linter.unusedSimpArgs false
set_option maxRecDepth 20000

/-! the cells that stand, listed -/
abbrev Cells := List (Addr × Cell)
def Cells.at (l : Cells) : List Addr := l.map (·.1)
structure At (σ : AHeap) (l : Cells) : Prop where
  nd : l.at.Nodup
  is : ∀ x ∈ l, σ x.1 = some x.2
theorem At.get {σ : AHeap} {l : Cells} (h : At σ l) {a : Addr} {c : Cell} (m : (a, c) ∈ l) : σ a = some c := h.is _ m
/-- one of them written -/
inductive Upd (a : Addr) (c' : Cell) : Cells → Cells → Prop
  | head {c : Cell} {r : Cells} : Upd a c' ((a, c) :: r) ((a, c') :: r)
  | tail {x : Addr × Cell} {r r' : Cells} : Upd a c' r r' → Upd a c' (x :: r) (x :: r')
  | right {p r r' : Cells} : Upd a c' r r' → Upd a c' (p ++ r) (p ++ r')
  | left {p p' r : Cells} : Upd a c' p p' → Upd a c' (p ++ r) (p' ++ r)
theorem Upd.at {a : Addr} {c' : Cell} {l l' : Cells} (u : Upd a c' l l') : l'.at = l.at ∧ a ∈ l.at := by
  induction u with
  | head => exact ⟨rfl, by simp [Cells.at]⟩
  | tail _ ih => exact ⟨by simp only [Cells.at, List.map_cons] at ih ⊢; rw [ih.1], by simp only [Cells.at, List.map_cons] at ih ⊢; exact List.mem_cons_of_mem _ ih.2⟩
  | right _ ih => exact ⟨by simp only [Cells.at, List.map_append] at ih ⊢; rw [ih.1], by simp only [Cells.at, List.map_append] at ih ⊢; exact List.mem_append_right _ ih.2⟩
  | left _ ih => exact ⟨by simp only [Cells.at, List.map_append] at ih ⊢; rw [ih.1], by simp only [Cells.at, List.map_append] at ih ⊢; exact List.mem_append_left _ ih.2⟩
theorem Upd.is {a : Addr} {c' : Cell} {l l' : Cells} (u : Upd a c' l l') : l.at.Nodup → ∀ x ∈ l', x = (a, c') ∨ (x.1 ≠ a ∧ x ∈ l) := by
  have off : ∀ {r : Cells} {x : Addr × Cell}, a ∉ r.at → x ∈ r → x.1 ≠ a := fun h hx e => h (e ▸ List.mem_map.mpr ⟨_, hx, rfl⟩)
  induction u with
  | head =>
    intro nd x hx
    simp only [Cells.at, List.map_cons, List.nodup_cons] at nd
    rcases List.mem_cons.mp hx with e | hx
    · exact .inl e
    · exact .inr ⟨off nd.1 hx, List.mem_cons_of_mem _ hx⟩
  | tail u ih =>
    intro nd x hx
    simp only [Cells.at, List.map_cons, List.nodup_cons] at nd
    rcases List.mem_cons.mp hx with rfl | hx
    · exact .inr ⟨fun e => nd.1 (e ▸ u.at.2), List.mem_cons_self⟩
    · exact (ih nd.2 x hx).imp id fun y => ⟨y.1, List.mem_cons_of_mem _ y.2⟩
  | right u ih =>
    intro nd x hx
    simp only [Cells.at, List.map_append, List.nodup_append] at nd
    rcases List.mem_append.mp hx with hx | hx
    · exact .inr ⟨fun e => nd.2.2 _ (e ▸ List.mem_map.mpr ⟨x, hx, rfl⟩) _ u.at.2 rfl, List.mem_append_left _ hx⟩
    · exact (ih nd.2.1 x hx).imp id fun y => ⟨y.1, List.mem_append_right _ y.2⟩
  | left u ih =>
    intro nd x hx
    simp only [Cells.at, List.map_append, List.nodup_append] at nd
    rcases List.mem_append.mp hx with hx | hx
    · exact (ih nd.1 x hx).imp id fun y => ⟨y.1, List.mem_append_left _ y.2⟩
    · exact .inr ⟨fun e => nd.2.2 _ u.at.2 _ (e ▸ List.mem_map.mpr ⟨x, hx, rfl⟩) rfl, List.mem_append_right _ hx⟩
theorem At.upd {σ : AHeap} {l l' : Cells} {a : Addr} {c' : Cell} (h : At σ l) (u : Upd a c' l l') : At (σ.set a c') l' := by
  refine ⟨u.at.1 ▸ h.nd, fun x hx => ?_⟩
  rcases u.is h.nd x hx with rfl | ⟨q, hx⟩
  · exact AHeap.set_self ..
  · rw [AHeap.set_ne _ _ q]; exact h.is x hx
theorem At.fresh {σ : AHeap} {l : Cells} {a : Addr} (h : At σ l) (n : σ a = none) : a ∉ l.at := fun m => by
  obtain ⟨x, hx, rfl⟩ := List.mem_map.mp m
  rw [h.is x hx] at n; cases n
theorem At.new {σ : AHeap} {l : Cells} {a : Addr} {c : Cell} (h : At σ l) (n : σ a = none) : At (σ.set a c) ((a, c) :: l) := by
  have nf := h.fresh n
  refine ⟨List.nodup_cons.mpr ⟨nf, h.nd⟩, fun x hx => ?_⟩
  rcases List.mem_cons.mp hx with rfl | hx
  · exact AHeap.set_self ..
  · rw [AHeap.set_ne _ _ (fun e : x.1 = a => nf (by rw [← e]; exact List.mem_map.mpr ⟨x, hx, rfl⟩))]; exact h.is x hx
theorem At.sub {σ : AHeap} {l l' : Cells} (h : At σ l) (s : l'.Sublist l) : At σ l' := ⟨h.nd.sublist (s.map _), fun x hx => h.is x (s.subset hx)⟩
theorem At.perm {σ : AHeap} {l l' : Cells} (h : At σ l) (p : l'.Perm l) : At σ l' := ⟨(p.map _).nodup_iff.mpr h.nd, fun x hx => h.is x (p.mem_iff.mp hx)⟩
theorem At.nil {σ : AHeap} : At σ [] := ⟨.nil, fun _ h => by cases h⟩
/-- just these -/
def Cells.heap (l : Cells) : AHeap := fun a => (l.find? fun x => x.1 == a).map (·.2)
theorem At.heap {l : Cells} (nd : l.at.Nodup) : At l.heap l := by
  refine ⟨nd, fun x hx => ?_⟩
  unfold Cells.heap
  induction l with
  | nil => cases hx
  | cons y r ih =>
    simp only [Cells.at, List.map_cons, List.nodup_cons] at nd
    rw [List.find?_cons]
    rcases List.mem_cons.mp hx with rfl | hx
    · simp
    · rw [beq_false_of_ne (fun e : y.1 = x.1 => nd.1 (e ▸ List.mem_map.mpr ⟨x, hx, rfl⟩))]
      exact ih nd.2 hx
theorem heap_sub {l : Cells} {σ : AHeap} (h : At σ l) : Sub l.heap σ := by
  intro a c e
  unfold Cells.heap at e
  obtain ⟨x, hx, rfl⟩ := Option.map_eq_some_iff.mp e
  have h1 := List.mem_of_find?_eq_some hx
  have h2 := List.find?_some hx
  rw [← beq_iff_eq.mp h2]
  exact h.is x h1
theorem heap_none {l : Cells} {a : Addr} : l.heap a = none ↔ a ∉ l.at := by
  unfold Cells.heap
  rw [Option.map_eq_none_iff, List.find?_eq_none]
  constructor
  · intro h m
    obtain ⟨x, hx, rfl⟩ := List.mem_map.mp m
    exact h x hx (by simp)
  · intro h x hx e
    exact h (List.mem_map.mpr ⟨x, hx, beq_iff_eq.mp e⟩)
/-- what stood outside of l stands, and not in l' -/
def Out (l l' : Cells) (σ σ' : AHeap) : Prop := ∀ a ce, a ∉ l.at → σ a = some ce → σ' a = some ce ∧ a ∉ l'.at
theorem At.rest {σ σ' : AHeap} {l l' r : Cells} (h : At σ (l ++ r)) (h' : At σ' l') (o : Out l l' σ σ') : At σ' (l' ++ r) := by
  have nd := h.nd
  simp only [Cells.at, List.map_append, List.nodup_append] at nd
  have key : ∀ x ∈ r, σ' x.1 = some x.2 ∧ x.1 ∉ l'.at := fun x hx => o x.1 x.2 (fun m => nd.2.2 _ m _ (List.mem_map.mpr ⟨x, hx, rfl⟩) rfl) (h.is x (List.mem_append_right _ hx))
  refine ⟨?_, fun x hx => ?_⟩
  · simp only [Cells.at, List.map_append, List.nodup_append]
    refine ⟨h'.nd, nd.2.1, fun a ha b hb e => ?_⟩
    obtain ⟨x, hx, rfl⟩ := List.mem_map.mp hb
    exact (key x hx).2 (e ▸ ha)
  · rcases List.mem_append.mp hx with hx | hx
    · exact h'.is x hx
    · exact (key x hx).1
theorem At.mid {σ σ' : AHeap} {p l l' r : Cells} (h : At σ (p ++ (l ++ r))) (h' : At σ' l') (o : Out l l' σ σ') : At σ' (p ++ (l' ++ r)) := by
  have e1 : ((l ++ (p ++ r)) : Cells).Perm (p ++ (l ++ r)) := by
    rw [← List.append_assoc, ← List.append_assoc]
    exact (List.perm_append_comm).append_right _
  have e2 : ((p ++ (l' ++ r)) : Cells).Perm (l' ++ (p ++ r)) := by
    rw [← List.append_assoc, ← List.append_assoc]
    exact (List.perm_append_comm).append_right _
  exact (At.rest (h.perm e1) h' o).perm e2

/-- what a call does to the cells l: it gives v and leaves l', as P says -/
def Does (c : Cx) (d : Nat) (t : List Value → Sem Value) (as : List AV) (l : Cells) (P : AV → Cells → Prop) : Prop :=
  ∀ (σ : AHeap), At σ l → ∀ (Q : AV → AHeap → Prop) (X : Addr → AHeap → Prop), (∀ v l' σ', P v l' → At σ' l' → Out l l' σ σ' → Q v σ') → OpOK c d t as σ Q X
theorem does_of {c : Cx} {d : Nat} {t : List Value → Sem Value} {as : List AV} {l : Cells} {P : AV → Cells → Prop}
    (h : ∀ σ, At σ l → OpOK c d t as σ (fun v σ' => ∃ l', P v l' ∧ At σ' l') (fun _ _ => False)) : Does c d t as l P := by
  intro σ hA Q X k
  refine op_call (h l.heap (At.heap hA.nd)) (heap_sub hA) (Nat.le_refl _) ?_ ?_
  · rintro v τ' σ' ⟨l', p, hA'⟩ s o
    refine k v l' σ' p ⟨hA'.nd, fun x hx => s _ _ (hA'.is x hx)⟩ fun a ce ha e => ?_
    obtain ⟨h1, h2⟩ := o a ce (heap_none.mpr ha) e
    exact ⟨h1, hA'.fresh h2⟩
  · rintro C τ' σ' x
    exact x.elim

-- Cx42
set_option Elab.async false
set_option linter.unusedVariables false
set_option linter.unusedSimpArgs false
set_option maxRecDepth 20000

section
variable {c : Cx} {d : Nat} {m : Loc} {σ : AHeap} {N : Loc → AHeap → Prop} {R : AV → AHeap → Prop} {X : Addr → Loc → AHeap → Prop} {Q : AV → AHeap → Prop} {Y : Addr → AHeap → Prop} {QT : Bool → AHeap → Prop} {QL : List AV → AHeap → Prop}
  {e a b z t f : IE} {l : IEs} {x n : String} {s : IS} {r p q : ISs} {op op' : CmpOp} {k : Loc → Prop} {v : AV} {tg : Tgt} {tgs : Tgts}
theorem w_nil (h : N m σ) : wpSs c d .nil m σ N R X := h
theorem w_cons (h : wpS c d s m σ (fun m' σ₁ => wpSs c d r m' σ₁ N R X) R X) : wpSs c d (.cons s r) m σ N R X := h
theorem w_pass (h : N m σ) : wpS c d .pass m σ N R X := h
theorem w_expr (h : wpE c d e m σ (fun _ σ₁ => N m σ₁) (fun C => X C m)) : wpS c d (.expr e) m σ N R X := h
theorem w_assign (h : wpE c d e m σ (fun v σ₁ => wpTgt c d tg v m σ₁ (fun m' => N m' σ₁)) (fun C => X C m)) : wpS c d (.assign tg e) m σ N R X := h
theorem w_asSub {o i : IE} (h : wpE c d e m σ (fun v σ₁ => wpE c d o m σ₁ (fun ov σ₂ => wpE c d i m σ₂ (fun iv σ₃ => SetItemOK c d ov iv v σ₃ (N m) (fun C => X C m)) (fun C => X C m)) (fun C => X C m)) (fun C => X C m)) : wpS c d (.asSub o i e) m σ N R X := h
theorem w_asAttr {o : IE} (h : wpE c d e m σ (fun v σ₁ => wpE c d o m σ₁ (fun ov σ₂ => SetAttrOK c d ov n v σ₂ (N m) (fun C => X C m)) (fun C => X C m)) (fun C => X C m)) : wpS c d (.asAttr o n e) m σ N R X := h
theorem w_ret (h : wpE c d e m σ R (fun C => X C m)) : wpS c d (.ret e) m σ N R X := h
theorem w_if (h : wpT c d t m σ (fun r σ₁ => if r = true then wpSs c d p m σ₁ N R X else wpSs c d q m σ₁ N R X) (fun C => X C m)) : wpS c d (.ite t p q) m σ N R X := h
theorem w_name (h : k (m.put x v)) : wpTgt c d (.name x) v m σ k := h
theorem w_tgts (h : UnpackOK c d v tgs.length σ (fun vs => wpTgts c d tgs vs m σ k)) : wpTgt c d (.tup tgs) v m σ k := h
theorem w_tnil (h : k m) {vs : List AV} : wpTgts c d .nil vs m σ k := by cases vs <;> exact h
theorem w_tcons {vs : List AV} (h : wpTgt c d tg v m σ (fun m' => wpTgts c d tgs vs m' σ k)) : wpTgts c d (.cons tg tgs) (v :: vs) m σ k := h
theorem w_none (h : Q .none σ) : wpE c d .none m σ Q Y := by rw [wpE]; exact h
theorem w_bool {b : Bool} (h : Q (.bool b) σ) : wpE c d (.bool b) m σ Q Y := by rw [wpE]; exact h
theorem w_int {i : Int} (h : Q (.int i) σ) : wpE c d (.int i) m σ Q Y := by rw [wpE]; exact h
theorem w_str (h : Q (.str x) σ) : wpE c d (.str x) m σ Q Y := by rw [wpE]; exact h
theorem w_var {av : AV} (hm : m.lookup x = some av) (h : Q av σ) : wpE c d (.var x) m σ Q Y := by rw [wpE]; exact ⟨av, hm, h⟩
theorem w_glob {v : Value} (hm : Glob c x v) (h : Q (.raw v) σ) : wpE c d (.glob x) m σ Q Y := by rw [wpE]; exact ⟨v, hm, h⟩
theorem w_tup (h : wpEs c d l m σ (fun as σ' => as.length ≤ sizeLine ∧ Q (.tup as) σ') Y) : wpE c d (.tup l) m σ Q Y := by rw [wpE]; exact h
theorem w_list (h : wpEs c d l m σ (fun as σ' => as.length ≤ sizeLine ∧ ∀ a, σ' a = none → Q (.ref a) (σ'.set a (.list as))) Y) : wpE c d (.list l) m σ Q Y := by rw [wpE]; exact h
theorem w_edict {ce : Cell} (he : emptyDict ce) (h : ∀ a, σ a = none → Q (.ref a) (σ.set a ce)) : wpE c d .edict m σ Q Y := by rw [wpE]; exact ⟨ce, he, h⟩
theorem w_bin {o : Operator} (h : wpE c d a m σ (fun x σ₁ => wpE c d b m σ₁ (fun y σ₂ => BinOK c d o x y σ₂ Q Y) Y) Y) : wpE c d (.bin o a b) m σ Q Y := by rw [wpE]; exact h
theorem w_not (h : wpE c d a m σ (fun x σ₁ => TruthOK c d x σ₁ (fun b => Q (.bool (!b)) σ₁)) Y) : wpE c d (.not a) m σ Q Y := by rw [wpE]; exact h
theorem w_neg (h : wpE c d a m σ (fun x σ₁ => NegOK c d x σ₁ Q Y) Y) : wpE c d (.neg a) m σ Q Y := by rw [wpE]; exact h
theorem w_cmp (h : wpE c d a m σ (fun x σ₁ => wpE c d b m σ₁ (fun y σ₂ => CmpOK c d op x y σ₂ Q Y) Y) Y) : wpE c d (.cmp a op b) m σ Q Y := by rw [wpE]; exact h
theorem w_and (h : wpAnd c d l m σ Q Y) : wpE c d (.and l) m σ Q Y := by rw [wpE]; exact h
theorem w_or (h : wpOr c d l m σ Q Y) : wpE c d (.or l) m σ Q Y := by rw [wpE]; exact h
theorem w_and1 (h : wpE c d e m σ Q Y) : wpAnd c d (.cons e .nil) m σ Q Y := by rw [wpAnd]; exact h
theorem w_and2 (h : wpE c d e m σ (fun v σ₁ => TruthOK c d v σ₁ (fun t => if t = true then wpAnd c d (.cons a l) m σ₁ Q Y else Q v σ₁)) Y) : wpAnd c d (.cons e (.cons a l)) m σ Q Y := by rw [wpAnd]; exact h; all_goals nofun
theorem w_or1 (h : wpE c d e m σ Q Y) : wpOr c d (.cons e .nil) m σ Q Y := by rw [wpOr]; exact h
theorem w_or2 (h : wpE c d e m σ (fun v σ₁ => TruthOK c d v σ₁ (fun t => if t = true then Q v σ₁ else wpOr c d (.cons a l) m σ₁ Q Y)) Y) : wpOr c d (.cons e (.cons a l)) m σ Q Y := by rw [wpOr]; exact h; all_goals nofun
theorem w_ite (h : wpT c d t m σ (fun r σ₁ => if r = true then wpE c d a m σ₁ Q Y else wpE c d b m σ₁ Q Y) Y) : wpE c d (.ite t a b) m σ Q Y := by rw [wpE]; exact h
theorem w_sub {i : IE} (h : wpE c d a m σ (fun x σ₁ => wpE c d i m σ₁ (fun y σ₂ => SubOK c d x y σ₂ Q Y) Y) Y) : wpE c d (.sub a i) m σ Q Y := by rw [wpE]; exact h
theorem w_slc {lo hi st : IE} (h : wpE c d lo m σ (fun y σ₁ => wpE c d hi m σ₁ (fun z σ₂ => wpE c d st m σ₂ (fun w σ₃ => Q (.slice y z w) σ₃) Y) Y) Y) : wpE c d (.slc lo hi st) m σ Q Y := by rw [wpE]; exact h
theorem w_attr (h : wpE c d a m σ (fun x σ₁ => AttrOK c d x n σ₁ Q Y) Y) : wpE c d (.attr a n) m σ Q Y := by rw [wpE]; exact h
theorem w_call (h : wpE c d f m σ (fun fv σ₁ => (∃ v, fv = .raw v ∧ Callee c v) ∧ wpEs c d l m σ₁ (fun as σ₂ => CallOK c d fv as σ₂ Q Y) Y) Y) : wpE c d (.call f l) m σ Q Y := by rw [wpE]; exact h
theorem w_meth {o : IE} (h : wpE c d o m σ (fun ov σ₁ => LookOK c d ov n σ₁ (fun fv first => (∃ v, fv = .raw v ∧ Callee c v) ∧ wpEs c d l m σ₁ (fun as σ₂ => CallOK c d fv (first ++ as) σ₂ Q Y) Y)) Y) : wpE c d (.meth o n l) m σ Q Y := by rw [wpE]; exact h
theorem w_enil (h : QL [] σ) : wpEs c d .nil m σ QL Y := by rw [wpEs]; exact h
theorem w_econs (h : wpE c d e m σ (fun v σ₁ => wpEs c d l m σ₁ (fun vs σ₂ => QL (v :: vs) σ₂) Y) Y) : wpEs c d (.cons e l) m σ QL Y := by rw [wpEs]; exact h
theorem w_Tnot (h : wpT c d a m σ (fun b σ₁ => QT (!b) σ₁) Y) : wpT c d (.not a) m σ QT Y := by rw [wpT]; exact h
theorem w_Tand (h : wpAllT c d l m σ QT Y) : wpT c d (.and l) m σ QT Y := by rw [wpT]; exact h
theorem w_Tor (h : wpAnyT c d l m σ QT Y) : wpT c d (.or l) m σ QT Y := by rw [wpT]; exact h
theorem w_Tall0 (h : QT true σ) : wpAllT c d .nil m σ QT Y := by rw [wpAllT]; exact h
theorem w_Tall (h : wpT c d e m σ (fun b σ₁ => if b = true then wpAllT c d l m σ₁ QT Y else QT false σ₁) Y) : wpAllT c d (.cons e l) m σ QT Y := by rw [wpAllT]; exact h
theorem w_Tany0 (h : QT false σ) : wpAnyT c d .nil m σ QT Y := by rw [wpAnyT]; exact h
theorem w_Tany (h : wpT c d e m σ (fun b σ₁ => if b = true then QT true σ₁ else wpAnyT c d l m σ₁ QT Y) Y) : wpAnyT c d (.cons e l) m σ QT Y := by rw [wpAnyT]; exact h
theorem w_Ifs0 (h : QT true σ) : wpIfs c d .nil m σ QT Y := by rw [wpIfs]; exact h
theorem w_Ifs (h : wpT c d e m σ (fun b σ₁ => if b = true then wpIfs c d l m σ₁ QT Y else QT false σ₁) Y) : wpIfs c d (.cons e l) m σ QT Y := by rw [wpIfs]; exact h
theorem w_Tcmp (h : wpE c d (.cmp a op b) m σ (fun v σ₁ => TruthOK c d v σ₁ (fun b => QT b σ₁)) Y) : wpT c d (.cmp a op b) m σ QT Y := by rw [wpT]; exact h; all_goals nofun
theorem w_Tcall (h : wpE c d (.call f l) m σ (fun v σ₁ => TruthOK c d v σ₁ (fun b => QT b σ₁)) Y) : wpT c d (.call f l) m σ QT Y := by rw [wpT]; exact h; all_goals nofun
theorem w_Tmeth {o : IE} (h : wpE c d (.meth o n l) m σ (fun v σ₁ => TruthOK c d v σ₁ (fun b => QT b σ₁)) Y) : wpT c d (.meth o n l) m σ QT Y := by rw [wpT]; exact h; all_goals nofun
theorem w_Tvar (h : wpE c d (.var x) m σ (fun v σ₁ => TruthOK c d v σ₁ (fun b => QT b σ₁)) Y) : wpT c d (.var x) m σ QT Y := by rw [wpT]; exact h; all_goals nofun
theorem w_Tcmp2 (h : wpE c d a m σ (fun x σ₁ => wpE c d b m σ₁ (fun y σ₂ => CmpOK c d op x y σ₂ (fun r σ₃ => TruthOK c d r σ₃ (fun t =>
      if t = true then wpE c d e m σ₃ (fun z σ₄ => CmpOK c d op' y z σ₄ (fun r' σ₅ => TruthOK c d r' σ₅ (fun t' => QT t' σ₅)) Y) Y else QT false σ₃)) Y) Y) Y) : wpT c d (.cmp2 a op b op' e) m σ QT Y := by rw [wpT]; exact h
theorem w_calleeB {i : String} {P : Prop} (h : P) : (∃ v, AV.raw (.builtin i) = .raw v ∧ Callee c v) ∧ P := ⟨callee_b i, h⟩
theorem w_calleeT {i : String} {P : Prop} (h : P) : (∃ v, AV.raw (.type i) = .raw v ∧ Callee c v) ∧ P := ⟨callee_t i, h⟩
def IsFun (c : Cx) (a : Addr) : Prop := Callee c (.ref a)
theorem w_calleeF {a : Addr} {P : Prop} (hf : IsFun c a) (h : P) : (∃ v, AV.raw (.ref a) = .raw v ∧ Callee c v) ∧ P := ⟨⟨_, rfl, hf⟩, h⟩
theorem DefOK.isFun {nm : List String} {f : Addr} {ps : List String} {body : ISs} (D : DefOK c nm f ps body) : IsFun c f := by
  obtain ⟨o, fd, sts, h1, h2, _⟩ := D.ex
  exact .inr (.inr (.inl ⟨f, o, fd, rfl, h1, h2⟩))
/-- a loop: I is what holds ahead of each turn, n falls -/
theorem w_loop {b : ISs} (I : Nat → Loc → AHeap → Prop) (n : Nat) (h0 : I n m σ) (h : ∀ n m' σ, I n m' σ → wpT c d t m' σ (fun r σ₁ => if r = true then wpSs c d b m' σ₁ (fun m'' σ₂ => ∃ k, k < n ∧ I k (m.only m'') σ₂) R (fun _ _ _ => False) else N m' σ₁) (fun _ _ => False)) : wpS c d (.loop t b) m σ N R X := ⟨I, ⟨n, h0⟩, h⟩
theorem w_each {b : ISs} {src : IE} (h : wpE c d src m σ (fun sv σ₁ => IterOK c d sv σ₁ (fun items keep =>
      compLoop keep (fun x m' σ k => wpTgt c d tg x m' σ (fun m' => wpSs c d b m' σ (fun m'' σ₂ => k (m.only m'') σ₂) R (fun _ _ _ => False))) items m σ₁ N)) (fun C => X C m)) : wpS c d (.each tg false src b) m σ N R X := ⟨(by intro h; cases h), h⟩
theorem w_comp {src elt : IE} {ifs : IEs} (h : wpE c d src m σ (fun sv σ₁ => IterOK c d sv σ₁ (fun items keep => items.length ≤ sizeLine ∧
      compLoop keep (fun x acc σ k => wpTgt c d tg x (m.cut (".0" :: tg.names)) σ (fun m' => wpIfs c d ifs m' σ (fun ok σ' => if ok = true then wpE c d elt m' σ' (fun v σ₂ => k (acc ++ [v]) σ₂) (fun _ _ => False) else k acc σ') (fun _ _ => False)))
        items ([] : List AV) σ₁ (fun acc σ₂ => ∀ a, σ₂ a = none → Q (.ref a) (σ₂.set a (.list acc))))) Y) : wpE c d (.comp elt tg false src ifs) m σ Q Y := by rw [wpE]; exact ⟨(by intro h; cases h), h⟩
/-- gone through: I tells what holds ahead of the item at i -/
theorem compLoop_of {β : Type} {keep : AHeap → Prop} {body : AV → β → AHeap → (β → AHeap → Prop) → Prop} {items : List AV} {b : β} {Q : β → AHeap → Prop} (I : Nat → β → AHeap → Prop) (h0 : I 0 b σ) (hk : ∀ i b σ, I i b σ → keep σ)
    (hs : ∀ i x b σ (k : β → AHeap → Prop), items[i]? = some x → I i b σ → (∀ b' σ', I (i + 1) b' σ' → k b' σ') → body x b σ k) (he : ∀ b σ, I items.length b σ → Q b σ) : compLoop keep body items b σ Q := by
  have gen : ∀ (rest : List AV) (i : Nat) (b : β) (σ : AHeap), rest = items.drop i → i + rest.length = items.length → I i b σ → compLoop keep body rest b σ Q := by
    intro rest
    induction rest with
    | nil =>
      intro i b σ e el hI
      have : i = items.length := by simpa using el
      subst this
      exact ⟨hk _ _ _ hI, he _ _ hI⟩
    | cons x r ih =>
      intro i b σ e el hI
      obtain ⟨h1, h2⟩ := drop_cons e.symm
      refine ⟨hk _ _ _ hI, hs i x b σ _ h1 hI fun b' σ' hI' => ih (i + 1) b' σ' h2.symm (by simp only [List.length_cons] at el; omega) hI'⟩
  exact gen items 0 b σ rfl (by simp) h0
end
section
variable {c : Cx} {d : Nat} {σ : AHeap} {Q : AV → AHeap → Prop} {X : Addr → AHeap → Prop}
theorem w_attr_get {x C dd : Addr} {f : List (String × AV)} {n : String} {av : AV} (hx : σ x = some (.inst C dd)) (hdd : σ dd = some (.ns f)) (hn : f.lookup n = some av) (ha : ClsAttr c C n) (ht : av.tame = true) (h : Q av σ) : AttrOK c d (.ref x) n σ Q X := attr_get ha hx hdd hn ht h

def natL (l : List Nat) : List AV := l.map fun (n : Nat) => AV.int (n : Int)
theorem natL_len (l : List Nat) : (natL l).length = l.length := by simp [natL]
theorem sub_natL {l : Addr} {xs : List Nat} {i : Nat} (e : σ l = some (.list (natL xs))) (hz : Fits xs.length) (hi : i < xs.length) (h : Q (.int (xs[i] : Nat)) σ) : SubOK c d (.ref l) (.int (i : Int)) σ Q X :=
  sub_list e (by rw [natL_len]; exact hz) (by rw [natL_len]; exact seqIdx_nat hi) (by simp [natL, hi]) (by unfold Fits at hz; omega) h

end

-- Cx43
set_option Elab.async false
set_option linter.unusedVariables false
/-! the functions that all the laws share -/
def body_u_init : ISs := (.cons (.asAttr (.var "self") "above" (.list .nil)) (.cons (.asAttr (.var "self") "lots" (.list .nil)) (.cons (.asAttr (.var "self") "merged" (.list .nil)) .nil)))
def body_u_make : ISs := (.cons (.expr (.meth (.attr (.var "self") "above") "append" (.cons (.call (.glob "len") (.cons (.attr (.var "self") "above") .nil)) .nil))) (.cons (.expr (.meth (.attr (.var "self") "lots") "append" (.cons (.list (.cons (.call (.glob "len") (.cons (.attr (.var "self") "lots") .nil)) .nil)) .nil))) (.cons (.ret (.bin .Sub (.call (.glob "len") (.cons (.attr (.var "self") "above") .nil)) (.int (1)))) .nil)))
def body_u_size : ISs := (.cons (.ret (.call (.glob "len") (.cons (.attr (.var "self") "above") .nil))) .nil)
def body_u_find : ISs := (.cons (.loop (.cmp (.sub (.attr (.var "self") "above") (.var "a")) .NotEq (.var "a")) (.cons (.assign (.name "a") (.sub (.attr (.var "self") "above") (.var "a"))) .nil)) (.cons (.ret (.var "a")) .nil))
def body_u_merge : ISs := (.cons (.assign (.tup (.cons (.name "kept") (.cons (.name "gone") .nil))) (.call (.glob "sorted") (.cons (.list (.cons (.meth (.var "self") "find" (.cons (.var "a") .nil)) (.cons (.meth (.var "self") "find" (.cons (.var "b") .nil)) .nil))) .nil))) (.cons (.ite (.cmp (.var "kept") .Eq (.var "gone")) (.cons (.ret .none) .nil) .nil) (.cons (.asSub (.attr (.var "self") "above") (.var "gone") (.var "kept")) (.cons (.expr (.meth (.sub (.attr (.var "self") "lots") (.var "kept")) "extend" (.cons (.sub (.attr (.var "self") "lots") (.var "gone")) .nil))) (.cons (.expr (.meth (.attr (.var "self") "merged") "append" (.cons (.tup (.cons (.var "kept") (.cons (.var "gone") .nil))) .nil))) (.cons (.ret (.tup (.cons (.var "kept") (.cons (.var "gone") .nil)))) .nil))))))
def body_u_classes : ISs := (.cons (.ret (.comp (.var "a") (.name "a") false (.call (.glob "range") (.cons (.call (.glob "len") (.cons (.attr (.var "self") "above") .nil)) .nil)) (.cons (.cmp (.sub (.attr (.var "self") "above") (.var "a")) .Eq (.var "a")) .nil))) .nil)
def body_b_init : ISs := (.cons (.asAttr (.var "self") "nodes" (.list .nil)) (.cons (.asAttr (.var "self") "numbers" .edict) (.cons (.asAttr (.var "self") "weights" (.list .nil)) (.cons (.asAttr (.var "self") "depths" (.list .nil)) .nil))))
def body_b_size : ISs := (.cons (.ret (.call (.glob "len") (.cons (.attr (.var "self") "nodes") .nil))) .nil)
def body_b_take : ISs := (.cons (.assign (.name "node") (.bin .Add (.tup (.cons (.var "op") .nil)) (.call (.glob "tuple") (.cons (.var "kids") .nil)))) (.cons (.ite (.cmp (.var "node") .In (.attr (.var "self") "numbers")) (.cons (.ret (.sub (.attr (.var "self") "numbers") (.var "node"))) .nil) .nil) (.cons (.expr (.meth (.var "self") "require" (.cons (.var "op") .nil))) (.cons (.each (.name "kid") false (.sub (.var "node") (.slc (.int (1)) .none .none)) (.cons (.ite (.not (.cmp2 (.int (0)) .LtE (.var "kid") .Lt (.call (.glob "len") (.cons (.attr (.var "self") "nodes") .nil)))) (.cons .stop .nil) .nil) .nil)) (.cons (.asSub (.attr (.var "self") "numbers") (.var "node") (.call (.glob "len") (.cons (.attr (.var "self") "nodes") .nil))) (.cons (.expr (.meth (.attr (.var "self") "nodes") "append" (.cons (.var "node") .nil))) (.cons (.expr (.meth (.attr (.var "self") "weights") "append" (.cons (.bin .Add (.int (1)) (.call (.glob "sum") (.cons (.comp (.sub (.attr (.var "self") "weights") (.var "kid")) (.name "kid") false (.sub (.var "node") (.slc (.int (1)) .none .none)) .nil) .nil))) .nil))) (.cons (.expr (.meth (.attr (.var "self") "depths") "append" (.cons (.bin .Add (.int (1)) (.call (.glob "max") (.cons (.bin .Add (.comp (.sub (.attr (.var "self") "depths") (.var "kid")) (.name "kid") false (.sub (.var "node") (.slc (.int (1)) .none .none)) .nil) (.list (.cons (.int (0)) .nil))) .nil))) .nil))) (.cons (.ret (.bin .Sub (.call (.glob "len") (.cons (.attr (.var "self") "nodes") .nil)) (.int (1)))) .nil)))))))))
def body_b_require : ISs := (.cons (.ite (.or (.cons (.not (.call (.glob "is_op") (.cons (.var "op") .nil))) (.cons (.cmp (.sub (.var "op") (.int (0))) .Eq (.str "?")) .nil))) (.cons .stop .nil) .nil) .nil)
def body_b_op : ISs := (.cons (.ret (.sub (.sub (.attr (.var "self") "nodes") (.var "n")) (.int (0)))) .nil)
def body_b_kids : ISs := (.cons (.ret (.sub (.sub (.attr (.var "self") "nodes") (.var "n")) (.slc (.int (1)) .none .none))) .nil)
def body_h_init : ISs := (.cons (.asAttr (.var "self") "bank" (.call (.glob "Bank") .nil)) (.cons (.asAttr (.var "self") "unions" (.call (.glob "Unions") .nil)) (.cons (.asAttr (.var "self") "edges" (.list .nil)) (.cons (.asAttr (.var "self") "forest" (.list .nil)) (.cons (.asAttr (.var "self") "known" .edict) (.cons (.asAttr (.var "self") "above" .edict) (.cons (.asAttr (.var "self") "waiting" (.list .nil)) .nil)))))))
def body_h_size : ISs := (.cons (.ret (.meth (.attr (.var "self") "bank") "size" .nil)) .nil)
def body_h_node : ISs := (.cons (.ret (.bin .Add (.tup (.cons (.meth (.attr (.var "self") "bank") "op" (.cons (.var "n") .nil)) .nil)) (.call (.glob "tuple") (.cons (.comp (.meth (.var "self") "find" (.cons (.var "kid") .nil)) (.name "kid") false (.meth (.attr (.var "self") "bank") "kids" (.cons (.var "n") .nil)) .nil) .nil)))) .nil)
def body_h_add : ISs := (.cons (.assign (.name "n") (.meth (.attr (.var "self") "bank") "take" (.cons (.var "op") (.cons (.var "numbers") .nil)))) (.cons (.ite (.cmp (.var "n") .Lt (.meth (.attr (.var "self") "unions") "size" .nil)) (.cons (.ret (.var "n")) .nil) .nil) (.cons (.expr (.meth (.attr (.var "self") "unions") "make" .nil)) (.cons (.asSub (.attr (.var "self") "above") (.var "n") (.list .nil)) (.cons (.each (.name "c") false (.call (.glob "sorted") (.cons (.call (.glob "set") (.cons (.comp (.meth (.var "self") "find" (.cons (.var "kid") .nil)) (.name "kid") false (.var "numbers") .nil) .nil)) .nil)) (.cons (.expr (.meth (.sub (.attr (.var "self") "above") (.var "c")) "append" (.cons (.var "n") .nil))) .nil)) (.cons (.expr (.meth (.var "self") "look_at" (.cons (.var "n") .nil))) (.cons (.ret (.var "n")) .nil)))))))
def body_h_look_at : ISs := (.cons (.assign (.name "other") (.meth (.attr (.var "self") "known") "setdefault" (.cons (.meth (.var "self") "node" (.cons (.var "n") .nil)) (.cons (.var "n") .nil)))) (.cons (.ite (.cmp (.meth (.var "self") "find" (.cons (.var "other") .nil)) .NotEq (.meth (.var "self") "find" (.cons (.var "n") .nil))) (.cons (.expr (.meth (.var "self") "join" (.cons (.var "other") (.cons (.var "n") (.cons (.tup (.cons (.str "like") .nil)) .nil))))) .nil) .nil) .nil))
def body_h_find : ISs := (.cons (.ret (.meth (.attr (.var "self") "unions") "find" (.cons (.var "n") .nil))) .nil)
def body_h_merge : ISs := (.cons (.ret (.meth (.var "self") "join" (.cons (.var "a") (.cons (.var "b") (.cons (.var "reason") .nil))))) .nil)
def body_h_join : ISs := (.cons (.expr (.meth (.attr (.var "self") "edges") "append" (.cons (.tup (.cons (.var "a") (.cons (.var "b") (.cons (.var "reason") .nil)))) .nil))) (.cons (.assign (.name "merged") (.meth (.attr (.var "self") "unions") "merge" (.cons (.var "a") (.cons (.var "b") .nil)))) (.cons (.ite (.cmp (.var "merged") .Is .none) (.cons (.ret (.bool false)) .nil) .nil) (.cons (.assign (.tup (.cons (.name "kept") (.cons (.name "gone") .nil))) (.var "merged")) (.cons (.expr (.meth (.attr (.var "self") "forest") "append" (.cons (.bin .Sub (.call (.glob "len") (.cons (.attr (.var "self") "edges") .nil)) (.int (1))) .nil))) (.cons (.expr (.meth (.attr (.var "self") "waiting") "extend" (.cons (.sub (.attr (.var "self") "above") (.var "gone")) .nil))) (.cons (.asSub (.attr (.var "self") "above") (.var "kept") (.bin .Add (.sub (.attr (.var "self") "above") (.var "kept")) (.meth (.attr (.var "self") "above") "pop" (.cons (.var "gone") .nil)))) (.cons (.ret (.bool true)) .nil))))))))
def body_h_settle : ISs := (.cons (.loop (.cmp (.call (.glob "len") (.cons (.attr (.var "self") "waiting") .nil)) .Gt (.int (0))) (.cons (.expr (.meth (.var "self") "look_at" (.cons (.meth (.attr (.var "self") "waiting") "pop" .nil) .nil))) .nil)) .nil)
def body_h_classes : ISs := (.cons (.ret (.meth (.attr (.var "self") "unions") "classes" .nil)) .nil)
def body_is_op : ISs := (.cons (.ret (.and (.cons (.cmp (.var "text") .NotEq (.str "")) (.cons (.cmp (.comp (.var "sign") (.name "sign") false (.var "text") (.cons (.or (.cons (.meth (.var "sign") "isspace" .nil) (.cons (.cmp (.var "sign") .In (.str "()[]{},:")) .nil))) .nil)) .Eq (.list .nil)) .nil)))) .nil)
/-- where they stand -/
structure Nms where
  cU : Addr
  cB : Addr
  cH : Addr
  u_init : Addr
  u_make : Addr
  u_size : Addr
  u_find : Addr
  u_merge : Addr
  u_classes : Addr
  b_init : Addr
  b_size : Addr
  b_take : Addr
  b_require : Addr
  b_op : Addr
  b_kids : Addr
  h_init : Addr
  h_size : Addr
  h_node : Addr
  h_add : Addr
  h_look_at : Addr
  h_find : Addr
  h_merge : Addr
  h_join : Addr
  h_settle : Addr
  h_classes : Addr
  is_op : Addr
/-- the globals that are the builtins -/
structure Globs (c : Cx) : Prop where
  g_len : Glob c "len" (.builtin "len")
  g_sorted : Glob c "sorted" (.builtin "sorted")
  g_sum : Glob c "sum" (.builtin "sum")
  g_max : Glob c "max" (.builtin "max")
  g_min : Glob c "min" (.builtin "min")
  g_abs : Glob c "abs" (.builtin "abs")
  g_set : Glob c "set" (.type "set")
  g_tuple : Glob c "tuple" (.type "tuple")
  g_list : Glob c "list" (.type "list")
  g_range : Glob c "range" (.type "range")
  g_str : Glob c "str" (.type "str")
  g_int : Glob c "int" (.type "int")
  g_enumerate : Glob c "enumerate" (.type "enumerate")
structure ClsOK (c : Cx) (C f : Addr) : Prop where
  mkk : makesIn c.K C = true
  fi : findIn c.K (.ref C) "__init__" = some (some (.ref f))
  fn : isFn c.K (.ref f) = true
  is : IsFun c C
def DefAt (c : Cx) (f : Addr) (ps : List String) (body : ISs) : Prop := ∃ nm, DefOK c nm f ps body
structure Has (c : Cx) (N : Nms) : Prop where
  gs : Globs c
  k_U : ClsOK c N.cU N.u_init
  g_U : Glob c "Unions" (.ref N.cU)
  a_U_above : ClsAttr c N.cU "above"
  s_U_above : ClsStore c N.cU "above"
  a_U_lots : ClsAttr c N.cU "lots"
  s_U_lots : ClsStore c N.cU "lots"
  a_U_merged : ClsAttr c N.cU "merged"
  s_U_merged : ClsStore c N.cU "merged"
  d_U_init : DefAt c N.u_init ["self"] body_u_init
  m_U_make : ClsMeth c N.cU "make" N.u_make
  d_U_make : DefAt c N.u_make ["self"] body_u_make
  m_U_size : ClsMeth c N.cU "size" N.u_size
  d_U_size : DefAt c N.u_size ["self"] body_u_size
  m_U_find : ClsMeth c N.cU "find" N.u_find
  d_U_find : DefAt c N.u_find ["self", "a"] body_u_find
  m_U_merge : ClsMeth c N.cU "merge" N.u_merge
  d_U_merge : DefAt c N.u_merge ["self", "a", "b"] body_u_merge
  m_U_classes : ClsMeth c N.cU "classes" N.u_classes
  d_U_classes : DefAt c N.u_classes ["self"] body_u_classes
  k_B : ClsOK c N.cB N.b_init
  g_B : Glob c "Bank" (.ref N.cB)
  a_B_nodes : ClsAttr c N.cB "nodes"
  s_B_nodes : ClsStore c N.cB "nodes"
  a_B_numbers : ClsAttr c N.cB "numbers"
  s_B_numbers : ClsStore c N.cB "numbers"
  a_B_weights : ClsAttr c N.cB "weights"
  s_B_weights : ClsStore c N.cB "weights"
  a_B_depths : ClsAttr c N.cB "depths"
  s_B_depths : ClsStore c N.cB "depths"
  d_B_init : DefAt c N.b_init ["self"] body_b_init
  m_B_size : ClsMeth c N.cB "size" N.b_size
  d_B_size : DefAt c N.b_size ["self"] body_b_size
  m_B_take : ClsMeth c N.cB "take" N.b_take
  d_B_take : DefAt c N.b_take ["self", "op", "kids"] body_b_take
  m_B_require : ClsMeth c N.cB "require" N.b_require
  d_B_require : DefAt c N.b_require ["self", "op"] body_b_require
  m_B_op : ClsMeth c N.cB "op" N.b_op
  d_B_op : DefAt c N.b_op ["self", "n"] body_b_op
  m_B_kids : ClsMeth c N.cB "kids" N.b_kids
  d_B_kids : DefAt c N.b_kids ["self", "n"] body_b_kids
  k_H : ClsOK c N.cH N.h_init
  g_H : Glob c "Heap" (.ref N.cH)
  a_H_bank : ClsAttr c N.cH "bank"
  s_H_bank : ClsStore c N.cH "bank"
  a_H_unions : ClsAttr c N.cH "unions"
  s_H_unions : ClsStore c N.cH "unions"
  a_H_edges : ClsAttr c N.cH "edges"
  s_H_edges : ClsStore c N.cH "edges"
  a_H_forest : ClsAttr c N.cH "forest"
  s_H_forest : ClsStore c N.cH "forest"
  a_H_known : ClsAttr c N.cH "known"
  s_H_known : ClsStore c N.cH "known"
  a_H_above : ClsAttr c N.cH "above"
  s_H_above : ClsStore c N.cH "above"
  a_H_waiting : ClsAttr c N.cH "waiting"
  s_H_waiting : ClsStore c N.cH "waiting"
  d_H_init : DefAt c N.h_init ["self"] body_h_init
  m_H_size : ClsMeth c N.cH "size" N.h_size
  d_H_size : DefAt c N.h_size ["self"] body_h_size
  m_H_node : ClsMeth c N.cH "node" N.h_node
  d_H_node : DefAt c N.h_node ["self", "n"] body_h_node
  m_H_add : ClsMeth c N.cH "add" N.h_add
  d_H_add : DefAt c N.h_add ["self", "op", "numbers"] body_h_add
  m_H_look_at : ClsMeth c N.cH "look_at" N.h_look_at
  d_H_look_at : DefAt c N.h_look_at ["self", "n"] body_h_look_at
  m_H_find : ClsMeth c N.cH "find" N.h_find
  d_H_find : DefAt c N.h_find ["self", "n"] body_h_find
  m_H_merge : ClsMeth c N.cH "merge" N.h_merge
  d_H_merge : DefAt c N.h_merge ["self", "a", "b", "reason"] body_h_merge
  m_H_join : ClsMeth c N.cH "join" N.h_join
  d_H_join : DefAt c N.h_join ["self", "a", "b", "reason"] body_h_join
  m_H_settle : ClsMeth c N.cH "settle" N.h_settle
  d_H_settle : DefAt c N.h_settle ["self"] body_h_settle
  m_H_classes : ClsMeth c N.cH "classes" N.h_classes
  d_H_classes : DefAt c N.h_classes ["self"] body_h_classes
  g_is_op : Glob c "is_op" (.ref N.is_op)
  d_is_op : DefAt c N.is_op ["text"] body_is_op
theorem small_len {l : List AV} (h : l.length ≤ 100) : l.length ≤ sizeLine := by rw [sizeLine_eq]; omega
theorem ifT {a b : Prop} (h : a) : if true = true then a else b := by rw [if_pos rfl]; exact h
theorem ifF {a b : Prop} (h : b) : if false = true then a else b := by rw [if_neg Bool.false_ne_true]; exact h
theorem ifNT {a b : Prop} (h : b) : if (!true) = true then a else b := ifF h
theorem ifNF {a b : Prop} (h : a) : if (!false) = true then a else b := ifT h
theorem ifD {p : Prop} [Decidable p] {a b : Prop} (h1 : p → a) (h2 : ¬ p → b) : if decide p = true then a else b := by
  by_cases h : p
  · rw [if_pos (decide_eq_true h)]; exact h1 h
  · rw [if_neg (by rw [decide_eq_false h]; exact Bool.false_ne_true)]; exact h2 h
section
variable {c : Cx} {d : Nat} {σ : AHeap} {Q : AV → AHeap → Prop} {X : Addr → AHeap → Prop} {x y : AV} {D D' : DV}
theorem cmp_eq_yes (hx : Den σ x D) (hy : Den σ y D') (hd : ddeep D ≤ 100) (e : D = D') (h : Q (.bool true) σ) : CmpOK c d .Eq x y σ Q X := cmp_eq_data hx hy hd (by simpa [e] using h)
theorem cmp_eq_no (hx : Den σ x D) (hy : Den σ y D') (hd : ddeep D ≤ 100) (e : D ≠ D') (h : Q (.bool false) σ) : CmpOK c d .Eq x y σ Q X := cmp_eq_data hx hy hd (by simpa [e] using h)
theorem cmp_ne_yes (hx : Den σ x D) (hy : Den σ y D') (hd : ddeep D ≤ 100) (e : D ≠ D') (h : Q (.bool true) σ) : CmpOK c d .NotEq x y σ Q X := cmp_ne_data hx hy hd (by simpa [e] using h)
theorem cmp_ne_no (hx : Den σ x D) (hy : Den σ y D') (hd : ddeep D ≤ 100) (e : D = D') (h : Q (.bool false) σ) : CmpOK c d .NotEq x y σ Q X := cmp_ne_data hx hy hd (by simpa [e] using h)
end
theorem DefAt.isFun {c : Cx} {f : Addr} {ps : List String} {body : ISs} (D : DefAt c f ps body) : IsFun c f := let ⟨_, x⟩ := D; DefOK.isFun x
section
variable {c : Cx} {d : Nat} {σ : AHeap} {Q : AV → AHeap → Prop} {X : Addr → AHeap → Prop}
theorem w_meth_look {x C dd f : Addr} {fl : List (String × AV)} {n : String} {Q : AV → List AV → Prop} (hx : σ x = some (.inst C dd)) (hdd : σ dd = some (.ns fl)) (hn : fl.lookup n = none) (hm : ClsMeth c C n f) (h : Q (.raw (.ref f)) [.ref x]) : LookOK c d (.ref x) n σ Q := meth_look hm hx hdd hn h
theorem w_attr_set {x C dd : Addr} {f : List (String × AV)} {n : String} {av : AV} {Q : AHeap → Prop} {X : Addr → AHeap → Prop} (hx : σ x = some (.inst C dd)) (hdd : σ dd = some (.ns f)) (ha : ClsStore c C n) (hl : f.length ≤ 50) (h : Q (σ.set dd (.ns (Loc.put f n av)))) : SetAttrOK c d (.ref x) n av σ Q X := attr_set ha hx hdd hl h
theorem call_at {f : Addr} {ps : List String} {body : ISs} {as : List AV} (D : DefAt c f ps body) (hd : 1 ≤ d) (hl : as.length = ps.length) (h : wpSs c (d - 1) body (ps.zip as) σ (fun _ σ' => Q .none σ') Q (fun _ _ _ => False)) : CallOK c d (.raw (.ref f)) as σ Q X := by
  obtain ⟨nm, D⟩ := D
  obtain ⟨e, rfl⟩ : ∃ e, d = e + 1 := ⟨d - 1, by omega⟩
  exact call_def D hl h
theorem call_len_natL {l : Addr} {xs : List Nat} (e : σ l = some (.list (natL xs))) (hz : Fits xs.length) (h : Q (.int (xs.length : Nat)) σ) : CallOK c d (.raw (.builtin "len")) [.ref l] σ Q X := call_len_list e (by rw [natL_len]; exact hz) (by rw [natL_len]; exact h)
theorem natL_snoc (l : List Nat) (x : Nat) : natL (l ++ [x]) = natL l ++ [.int (x : Int)] := by simp [natL]
theorem natL_append (l m : List Nat) : natL (l ++ m) = natL l ++ natL m := by simp [natL]
theorem natL_int (l : List Nat) : natL l = intL (l.map fun (n : Nat) => (n : Int)) := by simp [natL, intL]
theorem call_append_natL {l : Addr} {xs : List Nat} {x : Nat} (e : σ l = some (.list (natL xs))) (hz : Fits xs.length) (h : Q .none (σ.set l (.list (natL (xs ++ [x]))))) : CallOK c d (.raw (.builtin "list.append")) [.ref l, .int (x : Int)] σ Q X := call_append e (by rw [natL_len]; exact hz) (by rw [← natL_snoc]; exact h)
theorem set_natL {l : Addr} {xs : List Nat} {i x : Nat} {Q : AHeap → Prop} {X : Addr → AHeap → Prop} (e : σ l = some (.list (natL xs))) (hz : Fits xs.length) (hi : i < xs.length) (h : Q (σ.set l (.list (natL (xs.set i x))))) : SetItemOK c d (.ref l) (.int (i : Int)) (.int (x : Int)) σ Q X := by
  refine set_list e (by rw [natL_len]; exact hz) (by omega) (by rw [natL_len]; omega) ?_
  simp only [natL, List.map_set, Int.toNat_natCast] at h ⊢
  exact h
theorem sorted2 {a b : Nat} {ms : List Int} (hp : ms.Perm [(a : Int), (b : Int)]) (hs : ms.Pairwise (· ≤ ·)) : ms = [((min a b : Nat) : Int), ((max a b : Nat) : Int)] := by
  have h1 : ms.Perm [((min a b : Nat) : Int), ((max a b : Nat) : Int)] := by
    refine hp.trans ?_
    rcases Nat.le_total a b with h | h
    · rw [Nat.min_eq_left h, Nat.max_eq_right h]
    · rw [Nat.min_eq_right h, Nat.max_eq_left h]
      exact .swap _ _ _
  refine h1.eq_of_pairwise (le := fun a b => a ≤ b) (fun a b _ _ h h' => Int.le_antisymm h h') hs ?_
  refine .cons (fun x hx => ?_) (.cons (fun _ h => by cases h) .nil)
  obtain rfl := List.mem_singleton.mp hx
  omega
theorem call_sorted2 {l : Addr} {a b : Nat} (e : σ l = some (.list [.int (a : Int), .int (b : Int)])) (h : ∀ m, σ m = none → Q (.ref m) (σ.set m (.list [.int ((min a b : Nat) : Int), .int ((max a b : Nat) : Int)]))) : CallOK c d (.raw (.builtin "sorted")) [.ref l] σ Q X := by
  refine call_sorted_ints (ns := [(a : Int), (b : Int)]) e (by simp) fun m ms hp hs hn => ?_
  have := sorted2 hp hs
  subst this
  exact h m hn
theorem At.tail {σ : AHeap} {x : Addr × Cell} {l : Cells} (h : At σ (x :: l)) : At σ l := h.sub (List.sublist_cons_self _ _)
end

-- CxG
set_option Elab.async false
set_option linter.unusedVariables false
theorem law_ends {prog : Program} {w : World} {K : Frag} {s₁ : Shared} {fa l : Addr} {vals : List Value} {ns : List Int} {p : Program} {loose : List Str} {mg mb : Str → Option Value}
    {Ok Er : Value → Shared → Prop} {d : Nat} (hd : d ≤ 200)
    (KX : K.In s₁.heap) (T : TopRead p loose mg mb s₁.heap) (hm : s₁.heap.NoSeer) (hL : s₁.heap.IsList l vals.toArray) (hI : IntsAre vals ns)
    (hcall : Script ⟨prog, w, K, s₁.heap⟩ l ns → CallOK ⟨prog, w, K, s₁.heap⟩ d (.raw (.ref fa)) [.ref l] (fun _ => none) (fun v _ => v = .bool true) (fun _ _ => False))
    (hok : ∀ s', (∀ b o, s₁.heap.get? b = some o → s'.heap.get? b = some o) → s'.os = s₁.os → s'.gens = s₁.gens → Ok (.bool true) s') :
    wpAny (model prog w) callerA (call (.ref fa) [.ref l]) Ok Er s₁ := by
  have hb : Base ⟨prog, w, K, s₁.heap⟩ := ⟨KX, ⟨_, _, _, _, T⟩, let ⟨mm, ⟨o, es, ep, ho, _⟩, _⟩ := hm.mods; ⟨o, ho⟩⟩
  have S : St prog w (fun b o => s₁.heap.get? b = some o) (fun _ => none) s₁.heap := ⟨fun b o x => x, fun a ce e => (nomatch e), fun a ce o e => (nomatch e)⟩
  have hr : Room callerA d := by
    refine ⟨?_, ?_, rfl⟩
    · have h1 : callerA.depth + 3 * 200 + 20 < recursionLimit := by decide
      omega
    · have h2 : callerA.units + 16 * 200 + 200 < cLine := by decide
      omega
  have h := hcall ⟨vals, hL, hI⟩ callerA (fun b o => s₁.heap.get? b = some o) s₁ [.ref fa, .ref l] hr hb (fun b o e => e) S (.cons (.raw _) (.cons (.ref _) .nil))
  refine wpAny_mono h ?_ ?_
  · rintro v s' ⟨av, σ', S', g, rv, rfl⟩
    have hv : v = .bool true := by cases rv; rfl
    subst hv
    exact hok s' (fun b o e => S'.fz b o e) g.k.os g.k.gens
  · rintro e s' ⟨C, σ', _, _, _, f⟩
    exact f.elim

-- Cx44
set_option Elab.async false
set_option linter.unusedVariables false
set_option linter.unusedSimpArgs false
set_option maxRecDepth 20000
local macro_rules | `(tactic| walk_at "mlk") => `(tactic| rfl)
local macro_rules | `(tactic| walk_at "mgl") => `(tactic| first | exact (‹Globs _›).g_len | exact (‹Globs _›).g_sorted | exact (‹Globs _›).g_range | exact (‹Globs _›).g_tuple | exact (‹Globs _›).g_set | exact (‹Globs _›).g_list | exact (‹Globs _›).g_sum | exact (‹Globs _›).g_max | exact (‹Globs _›).g_min | exact (‹Globs _›).g_abs | exact (‹Globs _›).g_str | exact (‹Globs _›).g_int | assumption | exact (‹Has _ _›).g_U | exact (‹Has _ _›).g_B | exact (‹Has _ _›).g_H | exact (‹Has _ _›).g_is_op)
local macro_rules | `(tactic| walk_at "mmem") => `(tactic| first | exact List.mem_cons_self | (apply List.mem_cons_of_mem; walk_at "mmem") | (apply List.mem_append_left; walk_at "mmem") | (apply List.mem_append_right; walk_at "mmem"))
local macro_rules | `(tactic| walk_at "mat") => `(tactic| exact At.get ‹At _ _› (by walk_at "mmem"))
local macro_rules | `(tactic| walk_at "mcl") => `(tactic| first | assumption | (with_reducible first | exact (‹Has _ _›).a_U_above | exact (‹Has _ _›).a_U_lots | exact (‹Has _ _›).a_U_merged | exact (‹Has _ _›).a_B_nodes | exact (‹Has _ _›).a_B_numbers | exact (‹Has _ _›).a_B_weights | exact (‹Has _ _›).a_B_depths | exact (‹Has _ _›).a_H_bank | exact (‹Has _ _›).a_H_unions | exact (‹Has _ _›).a_H_edges | exact (‹Has _ _›).a_H_forest | exact (‹Has _ _›).a_H_known | exact (‹Has _ _›).a_H_above | exact (‹Has _ _›).a_H_waiting))
local macro_rules | `(tactic| walk_at "mme") => `(tactic| first | assumption | (with_reducible first | exact (‹Has _ _›).m_U_make | exact (‹Has _ _›).m_U_size | exact (‹Has _ _›).m_U_find | exact (‹Has _ _›).m_U_merge | exact (‹Has _ _›).m_U_classes | exact (‹Has _ _›).m_B_size | exact (‹Has _ _›).m_B_take | exact (‹Has _ _›).m_B_require | exact (‹Has _ _›).m_B_op | exact (‹Has _ _›).m_B_kids | exact (‹Has _ _›).m_H_size | exact (‹Has _ _›).m_H_node | exact (‹Has _ _›).m_H_add | exact (‹Has _ _›).m_H_look_at | exact (‹Has _ _›).m_H_find | exact (‹Has _ _›).m_H_merge | exact (‹Has _ _›).m_H_join | exact (‹Has _ _›).m_H_settle | exact (‹Has _ _›).m_H_classes))
local macro_rules | `(tactic| walk_at "mst") => `(tactic| first | assumption | (with_reducible first | exact (‹Has _ _›).s_U_above | exact (‹Has _ _›).s_U_lots | exact (‹Has _ _›).s_U_merged | exact (‹Has _ _›).s_B_nodes | exact (‹Has _ _›).s_B_numbers | exact (‹Has _ _›).s_B_weights | exact (‹Has _ _›).s_B_depths | exact (‹Has _ _›).s_H_bank | exact (‹Has _ _›).s_H_unions | exact (‹Has _ _›).s_H_edges | exact (‹Has _ _›).s_H_forest | exact (‹Has _ _›).s_H_known | exact (‹Has _ _›).s_H_above | exact (‹Has _ _›).s_H_waiting))
local macro_rules | `(tactic| walk_at "mfu") => `(tactic| first | assumption | (with_reducible first | exact DefAt.isFun (‹Has _ _›).d_U_make | exact DefAt.isFun (‹Has _ _›).d_U_size | exact DefAt.isFun (‹Has _ _›).d_U_find | exact DefAt.isFun (‹Has _ _›).d_U_merge | exact DefAt.isFun (‹Has _ _›).d_U_classes | exact DefAt.isFun (‹Has _ _›).d_B_size | exact DefAt.isFun (‹Has _ _›).d_B_take | exact DefAt.isFun (‹Has _ _›).d_B_require | exact DefAt.isFun (‹Has _ _›).d_B_op | exact DefAt.isFun (‹Has _ _›).d_B_kids | exact DefAt.isFun (‹Has _ _›).d_H_size | exact DefAt.isFun (‹Has _ _›).d_H_node | exact DefAt.isFun (‹Has _ _›).d_H_add | exact DefAt.isFun (‹Has _ _›).d_H_look_at | exact DefAt.isFun (‹Has _ _›).d_H_find | exact DefAt.isFun (‹Has _ _›).d_H_merge | exact DefAt.isFun (‹Has _ _›).d_H_join | exact DefAt.isFun (‹Has _ _›).d_H_settle | exact DefAt.isFun (‹Has _ _›).d_H_classes | exact DefAt.isFun (‹Has _ _›).d_is_op | exact (‹Has _ _›).k_U.is | exact (‹Has _ _›).k_B.is | exact (‹Has _ _›).k_H.is))
local macro_rules | `(tactic| walk_at "mfit") => `(tactic| first | assumption | ((try unfold Fits at *); (try simp only [List.length_append, List.length_cons, List.length_nil, List.length_map, natL_len, List.length_set] at *); omega))
local macro_rules | `(tactic| walk_at "mgo1") => `(tactic| with_reducible first
  | refine w_nil ?_ | refine w_cons ?_ | refine w_pass ?_ | refine w_expr ?_ | refine w_assign ?_ | refine w_asSub ?_ | refine w_asAttr ?_ | refine w_ret ?_ | refine w_if ?_ | refine w_name ?_ | refine w_tgts ?_ | refine w_tnil ?_ | refine w_tcons ?_
  | refine w_none ?_ | refine w_bool ?_ | refine w_int ?_ | refine w_str ?_ | refine w_tup ?_ | refine w_list ?_ | refine w_bin ?_ | refine w_not ?_ | refine w_neg ?_ | refine w_cmp ?_ | refine w_and ?_ | refine w_or ?_ | refine w_and1 ?_ | refine w_and2 ?_ | refine w_or1 ?_ | refine w_or2 ?_
  | refine w_ite ?_ | refine w_sub ?_ | refine w_slc ?_ | refine w_attr ?_ | refine w_call ?_ | refine w_meth ?_ | refine w_enil ?_ | refine w_econs ?_ | refine w_Tnot ?_ | refine w_Tand ?_ | refine w_Tor ?_ | refine w_Tall0 ?_ | refine w_Tall ?_ | refine w_Tany0 ?_ | refine w_Tany ?_
  | refine w_Ifs0 ?_ | refine w_Ifs ?_ | refine w_Tcmp ?_ | refine w_Tcall ?_ | refine w_Tmeth ?_ | refine w_Tvar ?_ | refine w_Tcmp2 ?_ | refine w_calleeB ?_ | refine w_calleeT ?_ | refine truth_bool ?_ | refine ifT ?_ | refine ifF ?_ | refine ifNT ?_ | refine ifNF ?_ | refine truth_none ?_
  | refine bin_add ?_ | refine bin_sub ?_ | refine cmp_eq_int ?_ | refine cmp_ne_int ?_ | refine cmp_lt ?_ | refine cmp_le ?_ | refine cmp_gt ?_ | refine cmp_ge ?_ | refine neg_ok ?_ | refine w_each ?_ | refine w_comp ?_)
local macro_rules | `(tactic| walk_at "mgo") => `(tactic| first
  | walk_at "mgo1"
  | refine w_var (by walk_at "mlk") ?_
  | refine w_glob (by walk_at "mgl") ?_
  | refine w_attr_get (by walk_at "mat") (by walk_at "mat") (by walk_at "mlk") (by walk_at "mcl") rfl ?_
  | refine w_meth_look (by walk_at "mat") (by walk_at "mat") (by walk_at "mlk") (by walk_at "mme") ?_
  | refine w_calleeF (by walk_at "mfu") ?_
  | refine look_append (by walk_at "mat") ?_ | refine look_extend (by walk_at "mat") ?_ | refine look_pop (by walk_at "mat") ?_
  | refine call_len_natL (by walk_at "mat") (by walk_at "mfit") ?_
  | (refine And.intro (small_len (by simp)) ?_))

section
variable {c : Cx} {d : Nat} {σ : AHeap} {Q : AV → AHeap → Prop} {X : Addr → AHeap → Prop} {N : Nms}
/-! Unions: the numbers' forest -/
structure US where
  self : Addr
  ns : Addr
  la : Addr
  ll : Addr
  lm : Addr
  par : List Nat
  lots : List (Addr × List Nat)
  log : List (Nat × Nat)
def pairL (l : List (Nat × Nat)) : List AV := l.map fun p => .tup [.int (p.1 : Int), .int (p.2 : Int)]
def US.cells (N : Nms) (u : US) : Cells :=
  (u.self, .inst N.cU u.ns) :: (u.ns, .ns [("above", .ref u.la), ("lots", .ref u.ll), ("merged", .ref u.lm)]) :: (u.la, .list (natL u.par)) :: (u.ll, .list (u.lots.map fun p => .ref p.1)) :: (u.lm, .list (pairL u.log)) :: u.lots.map fun p => (p.1, .list (natL p.2))
/-- no number stands under a greater one -/
def Down (p : List Nat) : Prop := ∀ i (h : i < p.length), p[i] ≤ i
def rootN : Nat → List Nat → Nat → Nat
  | 0, _, a => a
  | k + 1, p, a => if p.getD a a = a then a else rootN k p (p.getD a a)
def root (p : List Nat) (a : Nat) : Nat := rootN a p a
theorem rootN_more {p : List Nat} (hd : Down p) : ∀ (k a : Nat), a ≤ k → a < p.length → rootN k p a = rootN a p a
  | 0, a, h, _ => by have : a = 0 := by omega
                     subst this; rfl
  | k + 1, a, h, hl => by
    have hpa : p.getD a a = p[a] := by simp [hl]
    have hle := hd a hl
    cases a with
    | zero =>
      simp only [rootN, hpa]
      rw [if_pos (by omega)]
    | succ b =>
      simp only [rootN, hpa]
      by_cases e : p[b + 1] = b + 1
      · rw [if_pos e, if_pos e]
      · rw [if_neg e, if_neg e, rootN_more hd k _ (by omega) (by omega), rootN_more hd b _ (by omega) (by omega)]
theorem root_step {p : List Nat} (hd : Down p) {a : Nat} (hl : a < p.length) : root p a = if p[a] = a then a else root p p[a] := by
  have hpa : p.getD a a = p[a] := by simp [hl]
  have hle := hd a hl
  unfold root
  cases a with
  | zero => rw [if_pos (by omega)]; rfl
  | succ b =>
    simp only [rootN, hpa]
    by_cases e : p[b + 1] = b + 1
    · rw [if_pos e, if_pos e]
    · rw [if_neg e, if_neg e, rootN_more hd b _ (by omega) (by omega)]

theorem call_uFind {u : US} {a : Nat} (H : Has c N) (hA : At σ (u.cells N)) (hd : Down u.par) (ha : a < u.par.length) (hz : Fits u.par.length) (h : Q (.int (root u.par a : Nat)) σ) : CallOK c (d + 1) (.raw (.ref N.u_find)) [.ref u.self, .int a] σ Q X := by
  have G := H.gs
  obtain ⟨nm, D⟩ := H.d_U_find
  refine call_def D rfl ?_
  unfold US.cells at hA
  unfold body_u_find
  repeat walk_at "mgo"
  refine w_loop (fun n m σ' => σ' = σ ∧ ∃ b : Nat, m = [("self", .ref u.self), ("a", .int b)] ∧ b < u.par.length ∧ root u.par b = root u.par a ∧ n = b) a ⟨rfl, a, rfl, ha, rfl, rfl⟩ ?_
  rintro b m σ' ⟨rfl, b', rfl, hb, hr, hbb⟩
  subst hbb
  repeat walk_at "mgo"
  refine sub_natL (by walk_at "mat") hz hb ?_
  repeat walk_at "mgo"
  have hs := root_step hd hb
  have hle := hd b hb
  by_cases e : u.par[b] = b
  · rw [if_neg (by simp [e])]
    repeat walk_at "mgo"
    rw [if_pos e] at hs
    rw [← hr, hs] at h
    exact h
  · rw [if_pos (by simpa using fun q => e (by omega))]
    repeat walk_at "mgo"
    refine sub_natL (by walk_at "mat") hz hb ?_
    repeat walk_at "mgo"
    rw [if_neg e] at hs
    exact ⟨u.par[b], by omega, rfl, _, rfl, by omega, by rw [← hs, hr], rfl⟩
end

-- Cx45
set_option Elab.async false
set_option linter.unusedVariables false
set_option linter.unusedSimpArgs false
set_option maxRecDepth 20000

/-! the forest, without a program -/
theorem root_lt {p : List Nat} (hd : Down p) : ∀ (a : Nat), a < p.length → root p a ≤ a ∧ root p a < p.length := by
  intro a
  induction a using Nat.strongRecOn with
  | _ a ih =>
    intro ha
    rw [root_step hd ha]
    have := hd a ha
    split
    · omega
    · have := ih p[a] (by omega) (by omega); omega
theorem root_fix {p : List Nat} (hd : Down p) : ∀ (a : Nat) (ha : a < p.length), p[root p a]'(root_lt hd a ha).2 = root p a := by
  intro a
  induction a using Nat.strongRecOn with
  | _ a ih =>
    intro ha
    have hl := hd a ha
    have hs := root_step hd ha
    by_cases e : p[a] = a
    · rw [if_pos e] at hs
      simp only [hs]; exact e
    · rw [if_neg e] at hs
      have := ih p[a] (by omega) (by omega)
      simp only [hs]; exact this
theorem root_self {p : List Nat} (hd : Down p) {a : Nat} (ha : a < p.length) : p[a] = a ↔ root p a = a := by
  constructor
  · intro e; rw [root_step hd ha, if_pos e]
  · intro e
    have := root_fix hd a ha
    simp only [e] at this
    exact this
theorem root_root {p : List Nat} (hd : Down p) {a : Nat} (ha : a < p.length) : root p (root p a) = root p a :=
  (root_self hd (root_lt hd a ha).2).mp (root_fix hd a ha)
theorem down_set {p : List Nat} (hd : Down p) {g k : Nat} (h : k ≤ g) : Down (p.set g k) := by
  intro i hi
  rw [List.getElem_set]
  split
  · omega
  · exact hd i (by simpa using hi)
theorem root_set {p : List Nat} (hd : Down p) {g k : Nat} (hg : g < p.length) (hk : k < g) (hrg : root p g = g) (hrk : root p k = k) : ∀ (x : Nat), x < p.length → root (p.set g k) x = if root p x = g then k else root p x := by
  have hd' := down_set hd (g := g) (k := k) (by omega)
  have hkk : root (p.set g k) k = k := by
    have hkl : k < (p.set g k).length := by simp; omega
    refine (root_self hd' hkl).mp ?_
    rw [List.getElem_set_ne (by omega)]
    exact (root_self hd (by omega)).mpr hrk
  intro x
  induction x using Nat.strongRecOn with
  | _ x ih =>
    intro hx
    have hx' : x < (p.set g k).length := by simpa using hx
    rw [root_step hd' hx', List.getElem_set]
    by_cases e : g = x
    · subst e
      rw [if_pos rfl, if_neg (by omega), hrg, if_pos rfl, hkk]
    · rw [if_neg e]
      have hl := hd x hx
      rw [root_step hd hx]
      by_cases e2 : p[x] = x
      · rw [if_pos e2, if_pos e2, if_neg (fun q => e q.symm)]
      · rw [if_neg e2, if_neg e2]
        exact ih p[x] (by omega) (by omega)
theorem down_snoc {p : List Nat} (hd : Down p) : Down (p ++ [p.length]) := by
  intro i hi
  rw [List.getElem_append]
  split
  · exact hd i (by assumption)
  · simp at hi ⊢; omega
theorem root_snoc {p : List Nat} (hd : Down p) : ∀ (x : Nat), x < p.length → root (p ++ [p.length]) x = root p x := by
  have hd' := down_snoc hd
  intro x
  induction x using Nat.strongRecOn with
  | _ x ih =>
    intro hx
    rw [root_step hd' (by simp; omega), root_step hd hx, List.getElem_append_left hx]
    have hl := hd x hx
    by_cases e : p[x] = x
    · rw [if_pos e, if_pos e]
    · rw [if_neg e, if_neg e]; exact ih _ (by omega) (by omega)
theorem root_new {p : List Nat} (hd : Down p) : root (p ++ [p.length]) p.length = p.length :=
  (root_self (down_snoc hd) (by simp)).mp (by simp)

/-- a class's members -/
def membersOf (p : List Nat) (r : Nat) : List Nat := (List.range p.length).filter fun x => root p x = r
def rootsOf (p : List Nat) : List Nat := (List.range p.length).filter fun x => root p x = x
structure UOK (u : US) : Prop where
  down : Down u.par
  len : u.lots.length = u.par.length
  mem : ∀ r (h : r < u.lots.length), root u.par r = r → (u.lots[r]).2.Perm (membersOf u.par r)
  log : u.log.length + (rootsOf u.par).length = u.par.length
theorem members_len (p : List Nat) {k g : Nat} (h : k ≠ g) : (membersOf p k).length + (membersOf p g).length ≤ p.length := by
  unfold membersOf
  have gen : ∀ l : List Nat, (l.filter fun x => decide (root p x = k)).length + (l.filter fun x => decide (root p x = g)).length ≤ l.length := by
    intro l
    induction l with
    | nil => simp
    | cons a l ih =>
      rw [List.filter_cons, List.filter_cons]
      by_cases e1 : root p a = k
      · rw [if_pos (by simpa using e1), if_neg (by simp; omega)]
        simp only [List.length_cons]; omega
      · rw [if_neg (by simpa using e1)]
        split <;> simp only [List.length_cons] <;> omega
  have := gen (List.range p.length)
  simpa using this
theorem filter_perm {p : List Nat} {l : List Nat} {k g : Nat} (h : k ≠ g) : (l.filter (fun x => decide (root p x = k)) ++ l.filter (fun x => decide (root p x = g))).Perm (l.filter fun x => decide ((if root p x = g then k else root p x) = k)) := by
  induction l with
  | nil => simp
  | cons a l ih =>
    rw [List.filter_cons, List.filter_cons, List.filter_cons]
    by_cases e1 : root p a = k
    · rw [if_pos (by simpa using e1), if_neg (by simp; omega), if_pos (by simp [e1])]
      exact ih.cons a
    · rw [if_neg (by simpa using e1)]
      by_cases e2 : root p a = g
      · rw [if_pos (by simpa using e2), if_pos (by simp [e2])]
        exact List.perm_middle.trans (ih.cons a)
      · rw [if_neg (by simpa using e2), if_neg (by simp [e2, e1])]
        exact ih
/-- two made one -/
def US.joined (u : US) (k g : Nat) : US :=
  { u with par := u.par.set g k, lots := u.lots.set k ((u.lots.getD k default).1, (u.lots.getD k default).2 ++ (u.lots.getD g default).2), log := u.log ++ [(k, g)] }
/-- one more -/
def US.made (u : US) (a : Addr) : US := { u with par := u.par ++ [u.par.length], lots := u.lots ++ [(a, [u.par.length])] }
theorem roots_snoc {p : List Nat} (hd : Down p) : rootsOf (p ++ [p.length]) = rootsOf p ++ [p.length] := by
  unfold rootsOf
  rw [List.length_append, List.length_singleton, List.range_succ, List.filter_append]
  congr 1
  · refine List.filter_congr fun x hx => ?_
    rw [root_snoc hd x (List.mem_range.mp hx)]
  · rw [List.filter_cons, List.filter_nil, root_new hd]
    simp
theorem roots_set {p : List Nat} (hd : Down p) {g k : Nat} (hg : g < p.length) (hk : k < g) (hrg : root p g = g) (hrk : root p k = k) : rootsOf (p.set g k) = (rootsOf p).erase g ∧ g ∈ rootsOf p := by
  have hn : (rootsOf p).Nodup := List.nodup_range.filter _
  refine ⟨?_, List.mem_filter.mpr ⟨List.mem_range.mpr hg, by simpa using hrg⟩⟩
  rw [hn.erase_eq_filter]
  unfold rootsOf
  rw [List.length_set, List.filter_filter]
  refine List.filter_congr fun x hx => ?_
  rw [root_set hd hg hk hrg hrk x (List.mem_range.mp hx)]
  by_cases e : root p x = g
  · rw [if_pos e, e]
    by_cases ex : g = x
    · subst ex
      have : k ≠ g := by omega
      simp [this]
    · have : k ≠ x := fun q => by
        subst q; omega
      simp [ex, this]
  · rw [if_neg e]
    by_cases ex : root p x = x
    · have : x ≠ g := fun q => e (ex.trans q)
      simp [ex, this]
    · simp [ex]
theorem UOK.made {u : US} (h : UOK u) (a : Addr) : UOK (u.made a) := by
  refine ⟨down_snoc h.down, by simp [US.made, h.len], fun r hr e => ?_, by have := h.log; simp only [US.made, roots_snoc h.down, List.length_append, List.length_singleton]; omega⟩
  simp only [US.made] at hr e ⊢
  have hd' := down_snoc h.down
  have mem : ∀ r, (membersOf (u.par ++ [u.par.length]) r) = (membersOf u.par r) ++ (if u.par.length = r then [u.par.length] else []) := by
    intro r
    unfold membersOf
    rw [List.length_append, List.length_singleton, List.range_succ, List.filter_append]
    congr 1
    · refine List.filter_congr fun x hx => ?_
      rw [root_snoc h.down x (List.mem_range.mp hx)]
    · rw [List.filter_cons, List.filter_nil, root_new h.down]
      simp
  rw [mem]
  rw [List.getElem_append]
  split
  · rename_i hr'
    rw [if_neg (by have := h.len; omega), List.append_nil]
    refine h.mem r hr' ?_
    rw [root_snoc h.down r (by have := h.len; omega)] at e
    exact e
  · rename_i hr'
    have hrr : r = u.par.length := by have := h.len; simp at hr; omega
    subst hrr
    rw [if_pos rfl]
    have e0 : membersOf u.par u.par.length = [] := by
      unfold membersOf
      rw [List.filter_eq_nil_iff]
      intro x hx
      have := root_lt h.down x (List.mem_range.mp hx)
      simp; omega
    rw [e0]
    simp
theorem UOK.joined {u : US} (h : UOK u) {k g : Nat} (hg : g < u.par.length) (hk : k < g) (hrg : root u.par g = g) (hrk : root u.par k = k) : UOK (u.joined k g) := by
  have hlen := h.len
  obtain ⟨hro, hin⟩ := roots_set h.down hg hk hrg hrk
  refine ⟨down_set h.down (by omega), by simp [US.joined, h.len], fun r hr e => ?_, by
    have := h.log
    have h2 := List.length_pos_of_mem hin
    simp only [US.joined, hro, List.length_append, List.length_singleton, List.length_set, List.length_erase_of_mem hin]
    omega⟩
  simp only [US.joined, List.length_set] at hr e ⊢
  rw [root_set h.down hg hk hrg hrk r (by omega)] at e
  have hm : membersOf (u.par.set g k) r = (List.range u.par.length).filter fun x => decide ((if root u.par x = g then k else root u.par x) = r) := by
    unfold membersOf
    rw [List.length_set]
    refine List.filter_congr fun x hx => ?_
    rw [root_set h.down hg hk hrg hrk x (List.mem_range.mp hx)]
  rw [hm]
  have hkl : k < u.lots.length := by omega
  have hgl : g < u.lots.length := by omega
  rw [List.getElem_set]
  split
  · rename_i ek
    subst ek
    have e1 : u.lots.getD k default = u.lots[k] := by simp [hkl]
    have e2 : u.lots.getD g default = u.lots[g] := by simp [hgl]
    rw [e1, e2]
    refine ((h.mem k hkl hrk).append (h.mem g hgl hrg)).trans ?_
    exact filter_perm (by omega)
  · rename_i ek
    by_cases er : root u.par r = g
    · rw [if_pos er] at e; exact absurd e ek
    · rw [if_neg er] at e
      refine (h.mem r hr e).trans ?_
      unfold membersOf
      refine List.Perm.of_eq (List.filter_congr fun x hx => ?_)
      by_cases ex : root u.par x = g
      · rw [if_pos ex, ex]
        have : g ≠ r := fun q => er (q ▸ e)
        simp [ek, this]
      · rw [if_neg ex]

-- Cx46
set_option Elab.async false
set_option linter.unusedVariables false
set_option linter.unusedSimpArgs false
set_option maxRecDepth 20000

section
variable {c : Cx} {d : Nat} {σ : AHeap} {Q : AV → AHeap → Prop} {X : Addr → AHeap → Prop} {N : Nms}
theorem call_uSize {u : US} (H : Has c N) (h1 : 1 ≤ d) (hA : At σ (u.cells N)) (hz : Fits u.par.length) (h : Q (.int (u.par.length : Nat)) σ) : CallOK c d (.raw (.ref N.u_size)) [.ref u.self] σ Q X := by
  have G := H.gs
  refine call_at H.d_U_size h1 rfl ?_
  unfold US.cells at hA
  unfold body_u_size
  repeat walk_at "mgo"
  exact h

theorem does_uMake {u : US} (H : Has c N) (h1 : 1 ≤ d) (hz : Fits (u.par.length + 1)) (hu : UOK u) : Does c d callL [.raw (.ref N.u_make), .ref u.self] (u.cells N) (fun v l' => ∃ a, v = .int (u.par.length : Nat) ∧ l' = (u.made a).cells N) := by
  refine does_of fun σ hA => ?_
  have G := H.gs
  have hlen := hu.len
  refine call_at H.d_U_make h1 rfl ?_
  unfold US.cells at hA
  unfold body_u_make
  repeat walk_at "mgo"
  refine call_append_natL (by walk_at "mat") (by walk_at "mfit") ?_
  replace hA := hA.upd (c' := .list (natL (u.par ++ [u.par.length]))) (.tail (.tail .head))
  generalize σ.set u.la _ = σ1 at hA ⊢
  repeat walk_at "mgo"
  refine call_len_list (by walk_at "mat") (by walk_at "mfit") ?_
  repeat walk_at "mgo"
  intro a ha
  replace hA := hA.new (c := .list (natL [u.par.length])) ha
  have e1 : σ1.set a (.list [.int ((u.lots.map fun p => AV.ref p.1).length : Nat)]) = σ1.set a (.list (natL [u.par.length])) := by
    rw [List.length_map, hlen]; rfl
  rw [e1]
  generalize σ1.set a _ = σ2 at hA ⊢
  repeat walk_at "mgo"
  refine call_append (by walk_at "mat") (by walk_at "mfit") ?_
  replace hA := hA.upd (c' := .list ((u.lots ++ [(a, [u.par.length])]).map fun p => AV.ref p.1)) (.tail (.tail (.tail (.tail .head))))
  rw [show ((u.lots.map fun p => AV.ref p.1) ++ [AV.ref a]) = ((u.lots ++ [(a, [u.par.length])]).map fun p => AV.ref p.1) by simp]
  generalize σ2.set u.ll _ = σ3 at hA ⊢
  repeat walk_at "mgo"
  refine ⟨_, ⟨a, ?_, rfl⟩, hA.perm ?_⟩
  · simp
  · unfold US.made US.cells
    simp only [List.map_append, List.map_cons, List.map_nil]
    exact (List.perm_append_singleton _ ((u.self, Cell.inst N.cU u.ns) :: (u.ns, .ns [("above", .ref u.la), ("lots", .ref u.ll), ("merged", .ref u.lm)]) :: (u.la, .list (natL (u.par ++ [u.par.length]))) :: (u.ll, .list ((u.lots.map fun p => AV.ref p.1) ++ [AV.ref a])) :: (u.lm, .list (pairL u.log)) :: u.lots.map fun p => (p.1, Cell.list (natL p.2))))
end

-- Cx47
set_option Elab.async false
set_option linter.unusedVariables false
set_option linter.unusedSimpArgs false
set_option maxRecDepth 20000

section
variable {c : Cx} {d : Nat} {σ : AHeap} {Q : AV → AHeap → Prop} {X : Addr → AHeap → Prop} {N : Nms}
theorem sub_refL {α : Type} {l : Addr} {xs : List α} {f : α → Addr} {i : Nat} (e : σ l = some (.list (xs.map fun x => AV.ref (f x)))) (hz : Fits xs.length) (hi : i < xs.length) (h : Q (.ref (f xs[i])) σ) : SubOK c d (.ref l) (.int (i : Int)) σ Q X :=
  sub_list e (by rw [List.length_map]; exact hz) (by rw [List.length_map]; exact seqIdx_nat hi) (by simp [hi]) (by unfold Fits at hz; omega) h
theorem call_extend_natL {l b : Addr} {xs ys : List Nat} (e : σ l = some (.list (natL xs))) (eb : σ b = some (.list (natL ys))) (hz : Fits (xs.length + ys.length)) (h : Q .none (σ.set l (.list (natL (xs ++ ys))))) : CallOK c d (.raw (.builtin "list.extend")) [.ref l, .ref b] σ Q X :=
  call_extend e eb (by rw [natL_len, natL_len]; exact hz) (by rw [← natL_append]; exact h)
theorem upd_map {α : Type} {f : α → Addr × Cell} : ∀ {xs : List α} {i : Nat} {y : α} {a : Addr} {c' : Cell} (hi : i < xs.length), (f xs[i]).1 = a → f y = (a, c') → Upd a c' (xs.map f) ((xs.set i y).map f)
  | x :: xs, 0, y, a, c', hi, h1, h2 => by
    simp only [List.set_cons_zero, List.map_cons, h2]
    have : f x = (a, (f x).2) := by rw [← h1]; rfl
    rw [this]
    exact .head
  | x :: xs, i + 1, y, a, c', hi, h1, h2 => by
    simp only [List.set_cons_succ, List.map_cons]
    exact .tail (upd_map (by simpa using hi) h1 h2)

/-- what merge gives and leaves -/
def mergeP (N : Nms) (u : US) (a b : Nat) (v : AV) (l' : Cells) : Prop :=
  if root u.par a = root u.par b then v = .none ∧ l' = u.cells N
  else v = .tup [.int ((min (root u.par a) (root u.par b) : Nat) : Int), .int ((max (root u.par a) (root u.par b) : Nat) : Int)] ∧ l' = (u.joined (min (root u.par a) (root u.par b)) (max (root u.par a) (root u.par b))).cells N
theorem does_uMerge {u : US} {a b : Nat} (H : Has c N) (h1 : 2 ≤ d) (hz : Fits u.par.length) (hu : UOK u) (ha : a < u.par.length) (hb : b < u.par.length) : Does c d callL [.raw (.ref N.u_merge), .ref u.self, .int (a : Int), .int (b : Int)] (u.cells N) (mergeP N u a b) := by
  refine does_of fun σ hA => ?_
  have G := H.gs
  have hlen := hu.len
  have hlog := hu.log
  obtain ⟨hra1, hra⟩ := root_lt hu.down a ha
  obtain ⟨hrb1, hrb⟩ := root_lt hu.down b hb
  have hrra := root_root hu.down ha
  have hrrb := root_root hu.down hb
  refine call_at H.d_U_merge (by omega) rfl ?_
  unfold US.cells at hA
  unfold body_u_merge
  have hd1 : ∃ e, d - 1 = e + 1 := ⟨d - 2, by omega⟩
  obtain ⟨e, he⟩ := hd1
  rw [he]
  repeat walk_at "mgo"
  refine call_uFind H hA hu.down ha hz ?_
  repeat walk_at "mgo"
  refine call_uFind H hA hu.down hb hz ?_
  repeat walk_at "mgo"
  intro m1 hm1
  replace hA := hA.new (c := .list [.int (root u.par a : Nat), .int (root u.par b : Nat)]) hm1
  generalize σ.set m1 _ = σ1 at hA ⊢
  repeat walk_at "mgo"
  refine call_sorted2 (by walk_at "mat") fun m2 hm2 => ?_
  replace hA := hA.new (c := .list [.int ((min (root u.par a) (root u.par b) : Nat) : Int), .int ((max (root u.par a) (root u.par b) : Nat) : Int)]) hm2
  generalize σ1.set m2 _ = σ2 at hA ⊢
  repeat walk_at "mgo"
  refine unpack_list (by walk_at "mat") rfl ?_
  replace hA := hA.tail.tail
  repeat walk_at "mgo"
  by_cases hr : root u.par a = root u.par b
  · rw [if_pos (by simp [hr])]
    repeat walk_at "mgo"
    exact ⟨_, by unfold mergeP; rw [if_pos hr]; exact ⟨rfl, rfl⟩, hA⟩
  · have hmm : min (root u.par a) (root u.par b) < max (root u.par a) (root u.par b) := by omega
    rw [if_neg (by simp; omega)]
    have hg : max (root u.par a) (root u.par b) < u.par.length := by omega
    have hgr : root u.par (max (root u.par a) (root u.par b)) = max (root u.par a) (root u.par b) := by
      rcases Nat.le_total (root u.par a) (root u.par b) with q | q
      · rw [Nat.max_eq_right q]; exact hrrb
      · rw [Nat.max_eq_left q]; exact hrra
    have hkr : root u.par (min (root u.par a) (root u.par b)) = min (root u.par a) (root u.par b) := by
      rcases Nat.le_total (root u.par a) (root u.par b) with q | q
      · rw [Nat.min_eq_left q]; exact hrra
      · rw [Nat.min_eq_right q]; exact hrrb
    have hP : ∀ {v : AV} {l' : Cells}, v = .tup [.int ((min (root u.par a) (root u.par b) : Nat) : Int), .int ((max (root u.par a) (root u.par b) : Nat) : Int)] → l' = (u.joined (min (root u.par a) (root u.par b)) (max (root u.par a) (root u.par b))).cells N → mergeP N u a b v l' := by
      intro v l' e1 e2
      unfold mergeP
      rw [if_neg hr]
      exact ⟨e1, e2⟩
    generalize min (root u.par a) (root u.par b) = k at *
    generalize max (root u.par a) (root u.par b) = g at *
    have hkl : k < u.lots.length := by omega
    have hgl : g < u.lots.length := by omega
    have m1 := (hu.mem k hkl hkr).length_eq
    have m2 := (hu.mem g hgl hgr).length_eq
    have m3 := members_len u.par (show k ≠ g by omega)
    repeat walk_at "mgo"
    refine set_natL (by walk_at "mat") (by walk_at "mfit") hg ?_
    replace hA := hA.upd (c' := .list (natL (u.par.set g k))) (.tail (.tail .head))
    generalize σ2.set u.la _ = σ3 at hA ⊢
    repeat walk_at "mgo"
    refine sub_refL (f := fun p : Addr × List Nat => p.1) (by walk_at "mat") (by walk_at "mfit") hkl ?_
    have hk : σ3 (u.lots[k]).1 = some (.list (natL (u.lots[k]).2)) := hA.get (by
      refine List.mem_cons_of_mem _ (List.mem_cons_of_mem _ (List.mem_cons_of_mem _ (List.mem_cons_of_mem _ (List.mem_cons_of_mem _ ?_))))
      exact List.mem_map.mpr ⟨u.lots[k], List.getElem_mem hkl, rfl⟩)
    have hgg : σ3 (u.lots[g]).1 = some (.list (natL (u.lots[g]).2)) := hA.get (by
      refine List.mem_cons_of_mem _ (List.mem_cons_of_mem _ (List.mem_cons_of_mem _ (List.mem_cons_of_mem _ (List.mem_cons_of_mem _ ?_))))
      exact List.mem_map.mpr ⟨u.lots[g], List.getElem_mem hgl, rfl⟩)
    refine look_extend hk ?_
    repeat walk_at "mgo"
    refine sub_refL (f := fun p : Addr × List Nat => p.1) (by walk_at "mat") (by walk_at "mfit") hgl ?_
    repeat walk_at "mgo"
    refine call_extend_natL hk hgg (by unfold Fits at *; omega) ?_
    replace hA := hA.upd (.tail (.tail (.tail (.tail (.tail (upd_map (f := fun p : Addr × List Nat => (p.1, Cell.list (natL p.2))) (y := ((u.lots[k]).1, (u.lots[k]).2 ++ (u.lots[g]).2)) hkl rfl rfl))))))
    generalize σ3.set (u.lots[k]).1 _ = σ4 at hA ⊢
    repeat walk_at "mgo"
    refine call_append (by walk_at "mat") (by simp only [pairL, List.length_map]; unfold Fits at *; omega) ?_
    replace hA := hA.upd (c' := .list (pairL (u.log ++ [(k, g)]))) (.tail (.tail (.tail (.tail .head))))
    rw [show pairL u.log ++ [AV.tup [AV.int (k : Int), AV.int (g : Int)]] = pairL (u.log ++ [(k, g)]) by simp [pairL]]
    generalize σ4.set u.lm _ = σ5 at hA ⊢
    repeat walk_at "mgo"
    refine ⟨_, hP rfl rfl, ?_⟩
    unfold US.joined US.cells
    have e1 : u.lots.getD k default = u.lots[k] := by simp [hkl]
    have e2 : u.lots.getD g default = u.lots[g] := by simp [hgl]
    simp only [e1, e2]
    have e3 : ((u.lots.set k ((u.lots[k]).1, (u.lots[k]).2 ++ (u.lots[g]).2)).map fun p => AV.ref p.1) = u.lots.map fun p => AV.ref p.1 := by
      refine List.ext_getElem? fun i => ?_
      simp only [List.getElem?_map, List.getElem?_set]
      split
      · rename_i q
        subst q
        rw [List.getElem?_eq_getElem hkl]; rfl
      · rfl
    rw [e3]
    exact hA

theorem make_at {C f : Addr} {ps : List String} {body : ISs} {as : List AV} (K : ClsOK c C f) (D : DefAt c f ps body) (hd : 1 ≤ d) (hl : as.length + 1 = ps.length)
    (h : ∀ x dx, σ x = none → σ dx = none → x ≠ dx → wpSs c (d - 1) body (ps.zip (.ref x :: as)) ((σ.set dx (.ns [])).set x (.inst C dx)) (fun _ σ' => Q (.ref x) σ') (fun r σ' => r = .none ∧ Q (.ref x) σ') (fun _ _ _ => False)) : CallOK c d (.raw (.ref C)) as σ Q X := by
  obtain ⟨nm, D⟩ := D
  obtain ⟨e, rfl⟩ : ∃ e, d = e + 1 := ⟨d - 1, by omega⟩
  exact call_cls K.mkk K.fi K.fn D hl h
theorem At.inst {l : Cells} {x dx C : Addr} (h : At σ l) (hx : σ x = none) (hd : σ dx = none) (hne : x ≠ dx) : At ((σ.set dx (.ns [])).set x (.inst C dx)) ((x, .inst C dx) :: (dx, .ns []) :: l) :=
  (h.new hd).new (by rw [AHeap.set_ne _ _ hne]; exact hx)
def US.Empty (u : US) : Prop := u.par = [] ∧ u.lots = [] ∧ u.log = []
theorem US.Empty.ok {u : US} (h : u.Empty) : UOK u := by
  obtain ⟨h1, h2, h3⟩ := h
  refine ⟨fun i hi => absurd hi (by rw [h1]; simp), by rw [h1, h2]; rfl, fun r hr => absurd hr (by rw [h2]; simp), by rw [h1, h3]; rfl⟩
theorem does_uNew (H : Has c N) (h1 : 1 ≤ d) : Does c d callL [.raw (.ref N.cU)] [] (fun v l' => ∃ u : US, v = .ref u.self ∧ u.Empty ∧ l' = u.cells N) := by
  refine does_of fun σ hA => ?_
  refine make_at H.k_U H.d_U_init h1 rfl fun x dx hx hdx hne => ?_
  replace hA := hA.inst (C := N.cU) hx hdx hne
  generalize (σ.set dx _).set x _ = σ1 at hA ⊢
  unfold body_u_init
  repeat walk_at "mgo"
  intro la hla
  replace hA := hA.new (c := .list []) hla
  generalize σ1.set la _ = σ2 at hA ⊢
  repeat walk_at "mgo"
  refine w_attr_set (by walk_at "mat") (by walk_at "mat") (by walk_at "mst") (by simp) ?_
  replace hA := hA.upd (c' := .ns [("above", .ref la)]) (.tail (.tail .head))
  rw [show Loc.put [] "above" (AV.ref la) = [("above", AV.ref la)] from rfl]
  generalize σ2.set dx _ = σ3 at hA ⊢
  repeat walk_at "mgo"
  intro ll hll
  replace hA := hA.new (c := .list []) hll
  generalize σ3.set ll _ = σ4 at hA ⊢
  repeat walk_at "mgo"
  refine w_attr_set (by walk_at "mat") (by walk_at "mat") (by walk_at "mst") (by simp) ?_
  replace hA := hA.upd (c' := .ns [("above", .ref la), ("lots", .ref ll)]) (.tail (.tail (.tail .head)))
  rw [show Loc.put [("above", AV.ref la)] "lots" (AV.ref ll) = [("above", AV.ref la), ("lots", .ref ll)] from rfl]
  generalize σ4.set dx _ = σ5 at hA ⊢
  repeat walk_at "mgo"
  intro lm hlm
  replace hA := hA.new (c := .list []) hlm
  generalize σ5.set lm _ = σ6 at hA ⊢
  repeat walk_at "mgo"
  refine w_attr_set (by walk_at "mat") (by walk_at "mat") (by walk_at "mst") (by simp) ?_
  replace hA := hA.upd (c' := .ns [("above", .ref la), ("lots", .ref ll), ("merged", .ref lm)]) (.tail (.tail (.tail (.tail .head))))
  rw [show Loc.put [("above", AV.ref la), ("lots", .ref ll)] "merged" (AV.ref lm) = [("above", AV.ref la), ("lots", .ref ll), ("merged", .ref lm)] from rfl]
  generalize σ6.set dx _ = σ7 at hA ⊢
  repeat walk_at "mgo"
  refine ⟨_, ⟨⟨x, dx, la, ll, lm, [], [], []⟩, rfl, ⟨rfl, rfl, rfl⟩, rfl⟩, hA.perm ?_⟩
  unfold US.cells
  simp only [List.map_nil, natL, pairL]
  refine List.Perm.trans ?_ (List.reverse_perm _)
  simp only [List.reverse_cons, List.reverse_nil, List.nil_append, List.cons_append]
  exact .swap _ _ _
end

-- Cx48
set_option Elab.async false
set_option linter.unusedVariables false
set_option linter.unusedSimpArgs false
set_option maxRecDepth 20000

section
variable {c : Cx} {d : Nat} {σ : AHeap} {Q : AV → AHeap → Prop} {X : Addr → AHeap → Prop} {N : Nms} {t : List Value → Sem Value} {as : List AV} {l : Cells}
theorem does_op {P : AV → Cells → Prop} {l : Cells} (h : ∀ σ, At σ l → OpOK c d t as σ (fun v σ' => ∃ l', P v l' ∧ At σ' l') (fun _ _ => False)) {σ : AHeap} (hA : At σ l) (k : ∀ v l' σ', P v l' → At σ' l' → Out l l' σ σ' → Q v σ') : OpOK c d t as σ Q X := does_of h σ hA Q X k
/-- nothing that stood is changed -/
theorem reads_of {P : AV → Prop} (h : ∀ σ, At σ l → OpOK c d t as σ (fun v σ' => P v ∧ At σ' l) (fun _ _ => False)) (hA : At σ l) (k : ∀ v, P v → Q v σ) : OpOK c d t as σ Q X := by
  have key : OpOK c d t as σ (fun v σ' => P v ∧ Sub σ σ') X := by
    refine does_op (P := fun v l' => P v ∧ l' = l) (fun σ hA => op_mono (h σ hA) fun v σ' ⟨p, a⟩ => ⟨l, ⟨p, rfl⟩, a⟩) hA ?_
    rintro v l' σ' ⟨p, rfl⟩ hA' o
    refine ⟨p, fun a ce e => ?_⟩
    by_cases q : a ∈ Cells.at l'
    · obtain ⟨x, hx, rfl⟩ := List.mem_map.mp q
      have := hA.is x hx
      rw [e] at this
      rw [hA'.is x hx, this]
    · exact (o a ce q e).1
  exact op_less key fun v σ' ⟨p, s⟩ => ⟨σ, s, k v p⟩
/-- nothing that stood is changed, and one thing is new -/
theorem gives_of {ce : Cell} (h : ∀ σ, At σ l → OpOK c d t as σ (fun v σ' => ∃ m, v = .ref m ∧ At σ' ((m, ce) :: l)) (fun _ _ => False)) (hA : At σ l) (k : ∀ m, σ m = none → Q (.ref m) (σ.set m ce)) : OpOK c d t as σ Q X := by
  have key : OpOK c d t as σ (fun v σ' => ∃ m, v = .ref m ∧ σ m = none ∧ Sub (σ.set m ce) σ') X := by
    refine does_op (P := fun v l' => ∃ m, v = .ref m ∧ l' = (m, ce) :: l) (fun σ hA => op_mono (h σ hA) fun v σ' ⟨m, p, a⟩ => ⟨_, ⟨m, p, rfl⟩, a⟩) hA ?_
    rintro v l' σ' ⟨m, p, rfl⟩ hA' o
    have nm : m ∉ Cells.at l := (List.nodup_cons.mp hA'.nd).1
    have hm : σ m = none := by
      cases e : σ m with
      | none => rfl
      | some x => exact absurd (by simp [Cells.at]) (o m x nm e).2
    refine ⟨m, p, hm, fun a x e => ?_⟩
    by_cases q : a = m
    · subst q
      rw [AHeap.set_self] at e; cases e
      exact hA'.is _ List.mem_cons_self
    · rw [AHeap.set_ne _ _ q] at e
      by_cases q2 : a ∈ Cells.at l
      · obtain ⟨y, hy, rfl⟩ := List.mem_map.mp q2
        have := hA.is y hy
        rw [e] at this
        rw [hA'.is y (List.mem_cons_of_mem _ hy), this]
      · exact (o a x q2 e).1
  exact op_less key fun v σ' ⟨m, p, hm, s⟩ => ⟨_, s, p ▸ k m hm⟩

theorem near_nat {n : Nat} (h : Fits n) : Near (n : Int) := by unfold Fits at h; unfold Near; omega
theorem near0 : Near 0 := by unfold Near; decide
theorem rangeAV_at {n i : Nat} {x : AV} (h : (rangeAV 0 n)[i]? = some x) : i < n ∧ x = .int (i : Nat) := by
  unfold rangeAV at h
  rw [List.getElem?_map] at h
  rcases Nat.lt_or_ge i n with q | q
  · rw [List.getElem?_range q] at h
    simp only [Option.map_some, Option.some.injEq, Int.zero_add] at h
    exact ⟨q, h.symm⟩
  · rw [List.getElem?_eq_none (by simpa using q)] at h
    cases h
theorem fits_size {n : Nat} (h : Fits n) : n ≤ sizeLine := h.le
theorem call_uClasses {u : US} (H : Has c N) (h1 : 1 ≤ d) (hA : At σ (u.cells N)) (hd : Down u.par) (hz : Fits u.par.length) (h : ∀ m, σ m = none → Q (.ref m) (σ.set m (.list (natL (rootsOf u.par))))) : CallOK c d (.raw (.ref N.u_classes)) [.ref u.self] σ Q X := by
  refine gives_of (fun σ hA => ?_) hA h
  have G := H.gs
  refine call_at H.d_U_classes h1 rfl ?_
  have hA0 := hA
  unfold US.cells at hA
  unfold body_u_classes
  repeat walk_at "mgo"
  refine call_range1 ?_
  refine iter_range near0 (near_nat hz) ?_
  simp only [Int.sub_zero, Int.toNat_natCast]
  refine ⟨by rw [rangeAV_len]; exact fits_size hz, ?_⟩
  refine compLoop_of (fun i acc σ' => σ' = σ ∧ acc = natL ((List.range i).filter fun x => root u.par x = x)) ⟨rfl, rfl⟩ (fun _ _ _ _ => trivial) ?_ ?_
  · rintro i x acc σ' k hx ⟨rfl, rfl⟩ hk
    obtain ⟨hi, rfl⟩ := rangeAV_at hx
    repeat walk_at "mgo"
    refine sub_natL (by walk_at "mat") hz hi ?_
    repeat walk_at "mgo"
    have hs := root_self hd hi
    by_cases q : u.par[i] = i
    · rw [if_pos (by simp [q])]
      repeat walk_at "mgo"
      refine hk _ _ ⟨rfl, ?_⟩
      rw [List.range_succ, List.filter_append, List.filter_cons, if_pos (by simpa using hs.mp q), List.filter_nil, natL_snoc]
    · rw [if_neg (by simp; omega)]
      repeat walk_at "mgo"
      refine hk _ _ ⟨rfl, ?_⟩
      rw [List.range_succ, List.filter_append, List.filter_cons, if_neg (by simpa using fun e => q (hs.mpr e)), List.filter_nil, List.append_nil]
  · rintro acc σ' ⟨rfl, rfl⟩ a ha
    rw [rangeAV_len]
    exact ⟨a, rfl, hA0.new ha⟩

/-! a text that may be an op -/
structure NiceOp (x : String) : Prop where
  ascii : (x.toList.all fun ch => decide (ch.toNat < 128)) = true
  signs : ∀ ch ∈ x.toList, Txt.isspace (Str.ofString (String.singleton ch)) = false ∧ (Builtin.Str.occurrences (Str.ofString "()[]{},:") (Str.ofString (String.singleton ch)) 0 (Str.ofString "()[]{},:").length 1).isEmpty = true
  ne : x ≠ ""
  len : x.length ≤ 100
  fst : ∃ ch, x.toList[0]? = some ch ∧ String.singleton ch ≠ "?"
theorem call_isOp {x : String} (H : Has c N) (h1 : 1 ≤ d) (hx : NiceOp x) (h : Q (.bool true) σ) : CallOK c d (.raw (.ref N.is_op)) [.str x] σ Q X := by
  refine reads_of (l := []) (P := fun v => v = .bool true) (fun σ hA => ?_) .nil fun v e => e ▸ h
  have G := H.gs
  refine call_at H.d_is_op h1 rfl ?_
  unfold body_is_op
  repeat walk_at "mgo"
  refine cmp_ne_yes (.str _) (.str _) (by simp [ddeep]) (fun e => hx.ne (by injection e)) ?_
  repeat walk_at "mgo"
  refine iter_str hx.ascii ?_
  refine ⟨small_len (by rw [chars, List.length_map, String.length_toList]; exact hx.len), ?_⟩
  refine compLoop_of (fun i acc σ' => σ' = σ ∧ acc = []) ⟨rfl, rfl⟩ (fun _ _ _ _ => trivial) ?_ ?_
  · rintro i y acc σ' k hy ⟨rfl, rfl⟩ hk
    rw [chars_at] at hy
    obtain ⟨ch, hch, rfl⟩ := Option.map_eq_some_iff.mp hy
    obtain ⟨s1, s2⟩ := hx.signs ch (List.mem_of_getElem? hch)
    repeat walk_at "mgo"
    refine look_isspace ?_
    repeat walk_at "mgo"
    refine call_isspace ?_
    rw [s1]
    repeat walk_at "mgo"
    refine cmp_in_str ?_
    rw [s2]
    simp only [Bool.not_true]
    repeat walk_at "mgo"
    exact hk _ _ ⟨rfl, rfl⟩
  · rintro acc σ' ⟨rfl, rfl⟩ a ha
    replace hA := hA.new (c := .list []) ha
    generalize σ'.set a _ = σ1 at hA ⊢
    repeat walk_at "mgo"
    intro b hb
    replace hA := hA.new (c := .list []) hb
    generalize σ1.set b _ = σ2 at hA ⊢
    refine cmp_eq_yes (.list (by walk_at "mat") .nil) (.list (by walk_at "mat") .nil) (by simp [ddeep, ddeeps]) rfl ?_
    exact ⟨rfl, .nil⟩
theorem call_bRequire {x : String} {b : Addr} (H : Has c N) (h1 : 2 ≤ d) (hx : NiceOp x) (h : Q .none σ) : CallOK c d (.raw (.ref N.b_require)) [.ref b, .str x] σ Q X := by
  have G := H.gs
  refine call_at H.d_B_require (by omega) rfl ?_
  unfold body_b_require
  repeat walk_at "mgo"
  refine call_isOp H (by omega) hx ?_
  repeat walk_at "mgo"
  obtain ⟨ch, h2, h3⟩ := hx.fst
  have hpos : 0 < x.length := by
    rw [← String.length_toList]
    rcases Nat.eq_zero_or_pos x.toList.length with q | q
    · rw [List.eq_nil_of_length_eq_zero q] at h2; cases h2
    · exact q
  refine sub_str (k := 0) (seqIdx_nat (i := 0) hpos) h2 (by decide) ?_
  repeat walk_at "mgo"
  refine cmp_eq_no (.str _) (.str _) (by simp [ddeep]) (fun e => h3 (by injection e)) ?_
  repeat walk_at "mgo"
  exact h
end

-- Cx49
set_option Elab.async false
set_option linter.unusedVariables false
set_option linter.unusedSimpArgs false
set_option maxRecDepth 20000

/-! Bank: the nodes and their numbers -/
abbrev Node := String × List Nat
def nodeKey (n : Node) : List AV := .str n.1 :: natL n.2
theorem natL_inj : ∀ {l m : List Nat}, natL l = natL m → l = m
  | [], [], _ => rfl
  | [], _ :: _, h => by simp [natL] at h
  | _ :: _, [], h => by simp [natL] at h
  | a :: l, b :: m, h => by
    simp only [natL, List.map_cons, List.cons.injEq, AV.int.injEq] at h
    have h1 : a = b := by omega
    have h2 : l = m := natL_inj h.2
    rw [h1, h2]
theorem nodeKey_inj (a b : Node) (h : nodeKey a = nodeKey b) : a = b := by
  obtain ⟨x, l⟩ := a
  obtain ⟨y, m⟩ := b
  simp only [nodeKey, List.cons.injEq, AV.str.injEq] at h
  rw [h.1, natL_inj h.2]
theorem keyed_natL : ∀ (l : List Nat), Keyeds (natL l)
  | [] => .nil
  | a :: l => .cons (.int _) (keyed_natL l)
theorem keyed_node (n : Node) : Keyeds (nodeKey n) := .cons (.str _) (keyed_natL _)
theorem deeps_natL : ∀ (l : List Nat), deeps (natL l) = 0
  | [] => rfl
  | a :: l => by show max (deep _) (deeps (natL l)) = 0; rw [deeps_natL l]; rfl
theorem deeps_node (n : Node) : deeps (nodeKey n) ≤ 7 := by
  show max (deep _) (deeps (natL n.2)) ≤ 7
  rw [deeps_natL]; simp [deep]
structure BS where
  self : Addr
  ns : Addr
  la : Addr
  ln : Addr
  lw : Addr
  ld : Addr
  nodes : List Node
  ws : List Int
  ds : List Int
def numTab (l : List Node) : List (List AV × AV) := l.zipIdx.map fun p => (nodeKey p.1, AV.int (p.2 : Nat))
def BS.cells (N : Nms) (b : BS) : Cells :=
  (b.self, .inst N.cB b.ns) :: (b.ns, .ns [("nodes", .ref b.la), ("numbers", .ref b.ln), ("weights", .ref b.lw), ("depths", .ref b.ld)]) :: (b.la, .list (b.nodes.map fun n => AV.tup (nodeKey n))) :: (b.ln, .dictT (numTab b.nodes)) :: (b.lw, .list (intL b.ws)) :: (b.ld, .list (intL b.ds)) :: []
structure BOK (b : BS) : Prop where
  lw : b.ws.length = b.nodes.length
  ld : b.ds.length = b.nodes.length
  nd : b.nodes.Nodup
  kids : ∀ i (h : i < b.nodes.length), ∀ k ∈ (b.nodes[i]).2, k < i
  few : ∀ n ∈ b.nodes, n.2.length ≤ 10
def numOf (l : List Node) (n : Node) : Option Nat := dlook l.zipIdx n
theorem look_zip {α : Type} [DecidableEq α] : ∀ (l : List α) (k : Nat) (n : α), (dlook (l.zipIdx k) n).isSome = true ↔ n ∈ l
  | [], k, n => by simp [dlook]
  | a :: l, k, n => by
    rw [List.zipIdx_cons]
    unfold dlook
    by_cases h : a = n
    · subst h; simp
    · rw [if_neg h, look_zip l (k + 1) n]
      simp [Ne.symm h]
theorem look_zip_some {α : Type} [DecidableEq α] : ∀ (l : List α) (k : Nat) (n : α) (i : Nat), dlook (l.zipIdx k) n = some i → k ≤ i ∧ l[i - k]? = some n
  | [], k, n, i, h => by simp [dlook] at h
  | a :: l, k, n, i, h => by
    rw [List.zipIdx_cons] at h
    unfold dlook at h
    by_cases e : a = n
    · rw [if_pos e] at h
      simp only [Option.some.injEq] at h
      subst h; subst e
      simp
    · rw [if_neg e] at h
      obtain ⟨h1, h2⟩ := look_zip_some l (k + 1) n i h
      refine ⟨by omega, ?_⟩
      rw [show i - k = (i - (k + 1)) + 1 by omega]
      simpa using h2
theorem numOf_some {l : List Node} {n : Node} {i : Nat} (h : numOf l n = some i) : l[i]? = some n := by
  have := (look_zip_some l 0 n i h).2
  simpa using this
theorem numOf_none {l : List Node} {n : Node} : numOf l n = none ↔ n ∉ l := by
  unfold numOf
  rw [← look_zip l 0 n]
  cases dlook l.zipIdx n <;> simp
theorem numOf_at {l : List Node} (hn : l.Nodup) {i : Nat} {n : Node} (h : l[i]? = some n) : numOf l n = some i := by
  cases e : numOf l n with
  | none => exact absurd (List.mem_of_getElem? h) (numOf_none.mp e)
  | some j =>
    have hj := numOf_some e
    obtain ⟨h1, h2⟩ := List.getElem?_eq_some_iff.mp h
    obtain ⟨h3, h4⟩ := List.getElem?_eq_some_iff.mp hj
    have hp := List.pairwise_iff_getElem.mp hn
    have : i = j := by
      rcases Nat.lt_trichotomy i j with q | q | q
      · exact absurd (h2.trans h4.symm) (hp i j h1 h3 q)
      · exact q
      · exact absurd (h4.trans h2.symm) (hp j i h3 h1 q)
    rw [this]
theorem numTab_look [DecidableEq (List AV)] (l : List Node) (n : Node) : dlook (numTab l) (nodeKey n) = (numOf l n).map fun i => AV.int (i : Nat) := by
  unfold numTab numOf
  exact dlook_map (f := nodeKey) (g := fun i : Nat => AV.int (i : Nat)) nodeKey_inj _ _
theorem numTab_snoc [DecidableEq (List AV)] {l : List Node} {n : Node} (h : numOf l n = none) : dput (numTab l) (nodeKey n) (.int (l.length : Nat)) = numTab (l ++ [n]) := by
  rw [dput_new (by rw [numTab_look, h]; rfl)]
  simp [numTab, List.zipIdx_append]
theorem numTab_len (l : List Node) : (numTab l).length = l.length := by simp [numTab]

section
variable {c : Cx} {d : Nat} {σ : AHeap} {Q : AV → AHeap → Prop} {X : Addr → AHeap → Prop} {N : Nms}
theorem sub_map {α : Type} {l : Addr} {xs : List α} {f : α → AV} {i : Nat} (e : σ l = some (.list (xs.map f))) (hz : Fits xs.length) (hi : i < xs.length) (h : Q (f xs[i]) σ) : SubOK c d (.ref l) (.int (i : Int)) σ Q X :=
  sub_list e (by rw [List.length_map]; exact hz) (by rw [List.length_map]; exact seqIdx_nat hi) (by simp [hi]) (by unfold Fits at hz; omega) h
theorem call_bSize {b : BS} (H : Has c N) (h1 : 1 ≤ d) (hA : At σ (b.cells N)) (hz : Fits b.nodes.length) (h : Q (.int (b.nodes.length : Nat)) σ) : CallOK c d (.raw (.ref N.b_size)) [.ref b.self] σ Q X := by
  have G := H.gs
  refine call_at H.d_B_size h1 rfl ?_
  unfold BS.cells at hA
  unfold body_b_size
  repeat walk_at "mgo"
  refine call_len_list (by walk_at "mat") (by walk_at "mfit") ?_
  rw [List.length_map]
  exact h
theorem call_bOp {b : BS} {n : Nat} (H : Has c N) (h1 : 1 ≤ d) (hA : At σ (b.cells N)) (hz : Fits b.nodes.length) (hn : n < b.nodes.length) (h : Q (.str (b.nodes[n]).1) σ) : CallOK c d (.raw (.ref N.b_op)) [.ref b.self, .int (n : Int)] σ Q X := by
  have G := H.gs
  refine call_at H.d_B_op h1 rfl ?_
  unfold BS.cells at hA
  unfold body_b_op
  repeat walk_at "mgo"
  refine sub_map (by walk_at "mat") hz hn ?_
  repeat walk_at "mgo"
  exact sub_tup (k := 0) (seqIdx_nat (i := 0) (by simp [nodeKey])) rfl (by decide) h
theorem call_bKids {b : BS} {n : Nat} (H : Has c N) (h1 : 1 ≤ d) (hA : At σ (b.cells N)) (hz : Fits b.nodes.length) (hB : BOK b) (hn : n < b.nodes.length) (h : Q (.tup (natL (b.nodes[n]).2)) σ) : CallOK c d (.raw (.ref N.b_kids)) [.ref b.self, .int (n : Int)] σ Q X := by
  have G := H.gs
  have hf := hB.few _ (List.getElem_mem hn)
  refine call_at H.d_B_kids h1 rfl ?_
  unfold BS.cells at hA
  unfold body_b_kids
  repeat walk_at "mgo"
  refine sub_map (by walk_at "mat") hz hn ?_
  repeat walk_at "mgo"
  exact sub_tup_from (by rw [natL_len]; unfold Fits; omega) h
end

-- Cx50
set_option Elab.async false
set_option linter.unusedVariables false
set_option linter.unusedSimpArgs false
set_option maxRecDepth 20000

section
variable {c : Cx} {d : Nat} {σ : AHeap} {Q : AV → AHeap → Prop} {X : Addr → AHeap → Prop} {N : Nms}
theorem intL_len (l : List Int) : (intL l).length = l.length := by simp [intL]
theorem sub_intL {l : Addr} {xs : List Int} {i : Nat} (e : σ l = some (.list (intL xs))) (hz : Fits xs.length) (hi : i < xs.length) (h : Q (.int (xs[i])) σ) : SubOK c d (.ref l) (.int (i : Int)) σ Q X :=
  sub_list e (by rw [intL_len]; exact hz) (by rw [intL_len]; exact seqIdx_nat hi) (by simp [intL, hi]) (by unfold Fits at hz; omega) h
theorem natL_at {l : List Nat} {i : Nat} {x : AV} (h : (natL l)[i]? = some x) : ∃ k, l[i]? = some k ∧ x = .int (k : Nat) := by
  unfold natL at h
  rw [List.getElem?_map] at h
  obtain ⟨k, h1, h2⟩ := Option.map_eq_some_iff.mp h
  exact ⟨k, h1, h2.symm⟩
def BS.took (b : BS) (n : Node) (w dd : Int) : BS := { b with nodes := b.nodes ++ [n], ws := b.ws ++ [w], ds := b.ds ++ [dd] }
theorem BOK.took {b : BS} (h : BOK b) {n : Node} (hn : numOf b.nodes n = none) (hk : ∀ k ∈ n.2, k < b.nodes.length) (hf : n.2.length ≤ 10) (w dd : Int) : BOK (b.took n w dd) := by
  refine ⟨by simp [BS.took, h.lw], by simp [BS.took, h.ld], ?_, ?_, ?_⟩
  · simp only [BS.took, List.nodup_append]
    refine ⟨h.nd, by simp, fun a ha b' hb e => ?_⟩
    obtain rfl := List.mem_singleton.mp hb
    exact numOf_none.mp hn (e ▸ ha)
  · intro i hi k hk'
    simp only [BS.took, List.length_append, List.length_singleton] at hi
    simp only [BS.took] at hk'
    rw [List.getElem_append] at hk'
    split at hk'
    · exact h.kids i (by assumption) k hk'
    · simp only [List.getElem_singleton] at hk'
      have := hk k hk'
      omega
  · intro m hm
    simp only [BS.took] at hm
    rcases List.mem_append.mp hm with hm | hm
    · exact h.few m hm
    · obtain rfl := List.mem_singleton.mp hm; exact hf
def takeP (N : Nms) (b : BS) (n : Node) (v : AV) (l' : Cells) : Prop := match numOf b.nodes n with
  | some i => v = .int (i : Nat) ∧ l' = b.cells N
  | none => ∃ w dd, v = .int (b.nodes.length : Nat) ∧ l' = (b.took n w dd).cells N
open Classical in
theorem does_bTake {b : BS} {op : String} {ks : List Nat} (H : Has c N) (h1 : 3 ≤ d) (hz : Fits (b.nodes.length + 1)) (hB : BOK b) (hop : NiceOp op) (hk : ∀ k ∈ ks, k < b.nodes.length) (hf : ks.length ≤ 10) :
    Does c d callL [.raw (.ref N.b_take), .ref b.self, .str op, .tup (natL ks)] (b.cells N) (takeP N b (op, ks)) := by
  refine does_of fun σ hA => ?_
  have G := H.gs
  have hlw := hB.lw
  have hld := hB.ld
  have hkf : Fits (natL ks).length := by rw [natL_len]; unfold Fits; omega
  refine call_at H.d_B_take (by omega) rfl ?_
  have hA0 := hA
  unfold BS.cells at hA
  unfold body_b_take
  repeat walk_at "mgo"
  refine call_tuple_t ?_
  refine bin_add_tup (by rw [List.length_singleton]; unfold Fits at *; rw [natL_len] at *; omega) ?_
  rw [show [AV.str op] ++ natL ks = nodeKey (op, ks) from rfl]
  repeat walk_at "mgo"
  refine cmp_in_dictT (by walk_at "mat") (keyed_node _) (deeps_node _) ?_
  rw [numTab_look]
  cases hno : numOf b.nodes (op, ks) with
  | some i =>
    simp only [Option.map_some, Option.isSome_some]
    repeat walk_at "mgo"
    refine sub_dictT (x := .int (i : Nat)) (by walk_at "mat") (keyed_node _) (deeps_node _) (by rw [numTab_look, hno]; rfl) ?_
    exact ⟨_, by unfold takeP; rw [hno]; exact ⟨rfl, rfl⟩, hA0⟩
  | none =>
    simp only [Option.map_none, Option.isSome_none]
    repeat walk_at "mgo"
    refine call_bRequire H (by omega) hop ?_
    repeat walk_at "mgo"
    refine sub_tup_from hkf ?_
    refine iter_tup ?_
    refine compLoop_of (fun i m' σ' => σ' = σ ∧ m' = [("self", .ref b.self), ("op", .str op), ("kids", .tup (natL ks)), ("node", .tup (nodeKey (op, ks)))]) ⟨rfl, rfl⟩ (fun _ _ _ _ => trivial) ?_ ?_
    · rintro i x m' σ' k hx ⟨rfl, rfl⟩ hk'
      obtain ⟨kid, hkid, rfl⟩ := natL_at hx
      have hkl := hk kid (List.mem_of_getElem? hkid)
      repeat walk_at "mgo"
      rw [decide_eq_true (by omega : (0 : Int) ≤ (kid : Int))]
      repeat walk_at "mgo"
      refine call_len_list (by walk_at "mat") (by walk_at "mfit") ?_
      repeat walk_at "mgo"
      rw [decide_eq_true (by rw [List.length_map]; omega : (kid : Int) < ((b.nodes.map fun n => AV.tup (nodeKey n)).length : Int))]
      repeat walk_at "mgo"
      exact hk' _ _ ⟨rfl, rfl⟩
    · rintro m' σ' ⟨rfl, rfl⟩
      repeat walk_at "mgo"
      refine call_len_list (by walk_at "mat") (by walk_at "mfit") ?_
      rw [List.length_map]
      repeat walk_at "mgo"
      refine set_dictT (by walk_at "mat") (keyed_node _) (deeps_node _) (by rw [numTab_len]; walk_at "mfit") ?_
      rw [numTab_snoc hno]
      replace hA := hA.upd (c' := .dictT (numTab (b.nodes ++ [(op, ks)]))) (.tail (.tail (.tail .head)))
      generalize σ'.set b.ln _ = σ1 at hA ⊢
      repeat walk_at "mgo"
      refine call_append (by walk_at "mat") (by walk_at "mfit") ?_
      rw [show (b.nodes.map fun n => AV.tup (nodeKey n)) ++ [AV.tup (nodeKey (op, ks))] = (b.nodes ++ [(op, ks)]).map fun n => AV.tup (nodeKey n) by simp]
      replace hA := hA.upd (c' := .list ((b.nodes ++ [(op, ks)]).map fun n => AV.tup (nodeKey n))) (.tail (.tail .head))
      generalize σ1.set b.la _ = σ2 at hA ⊢
      repeat walk_at "mgo"
      refine sub_tup_from hkf ?_
      refine iter_tup ?_
      refine ⟨hkf.le, ?_⟩
      refine compLoop_of (fun i acc σ' => σ' = σ2 ∧ ∃ ws, acc = intL ws ∧ ws.length = i) ⟨rfl, [], rfl, rfl⟩ (fun _ _ _ _ => trivial) ?_ ?_
      · rintro i x acc σ' k hx ⟨rfl, ws, rfl, hws⟩ hk'
        obtain ⟨kid, hkid, rfl⟩ := natL_at hx
        have hkl := hk kid (List.mem_of_getElem? hkid)
        repeat walk_at "mgo"
        refine sub_intL (by walk_at "mat") (by walk_at "mfit") (by omega) ?_
        exact hk' _ _ ⟨rfl, ws ++ [b.ws[kid]'(by omega)], by simp [intL], by simp [hws]⟩
      · rintro acc σ' ⟨rfl, ws, rfl, hws⟩ m1 hm1
        replace hA := hA.new (c := .list (intL ws)) hm1
        generalize σ'.set m1 _ = σ3 at hA ⊢
        repeat walk_at "mgo"
        refine call_sum_list (by walk_at "mat") ?_
        replace hA := hA.tail
        repeat walk_at "mgo"
        refine call_append (by walk_at "mat") (by rw [intL_len]; walk_at "mfit") ?_
        rw [show intL b.ws ++ [AV.int (1 + ws.sum)] = intL (b.ws ++ [1 + ws.sum]) by simp [intL]]
        replace hA := hA.upd (c' := .list (intL (b.ws ++ [1 + ws.sum]))) (.tail (.tail (.tail (.tail .head))))
        generalize σ3.set b.lw _ = σ4 at hA ⊢
        repeat walk_at "mgo"
        refine sub_tup_from hkf ?_
        refine iter_tup ?_
        refine ⟨hkf.le, ?_⟩
        refine compLoop_of (fun i acc σ' => σ' = σ4 ∧ ∃ ws, acc = intL ws ∧ ws.length = i) ⟨rfl, [], rfl, rfl⟩ (fun _ _ _ _ => trivial) ?_ ?_
        · rintro i x acc σ' k hx ⟨rfl, ws, rfl, hws⟩ hk'
          obtain ⟨kid, hkid, rfl⟩ := natL_at hx
          have hkl := hk kid (List.mem_of_getElem? hkid)
          repeat walk_at "mgo"
          refine sub_intL (by walk_at "mat") (by walk_at "mfit") (by omega) ?_
          exact hk' _ _ ⟨rfl, ws ++ [b.ds[kid]'(by omega)], by simp [intL], by simp [hws]⟩
        · rintro acc σ' ⟨rfl, es, rfl, hes⟩ m2 hm2
          replace hA := hA.new (c := .list (intL es)) hm2
          generalize σ'.set m2 _ = σ5 at hA ⊢
          repeat walk_at "mgo"
          intro m3 hm3
          replace hA := hA.new (c := .list [.int 0]) hm3
          generalize σ5.set m3 _ = σ6 at hA ⊢
          have hes' : es.length = ks.length := by rw [hes]; exact natL_len _
          refine bin_add_list (by walk_at "mat") (by walk_at "mat") (by rw [intL_len, List.length_singleton, hes']; unfold Fits; omega) fun m4 hm4 => ?_
          rw [show intL es ++ [AV.int 0] = intL (es ++ [0]) by simp [intL]]
          replace hA := hA.new (c := .list (intL (es ++ [0]))) hm4
          generalize σ6.set m4 _ = σ7 at hA ⊢
          repeat walk_at "mgo"
          refine call_max_list (by walk_at "mat") (by simp) fun mx _ _ => ?_
          replace hA := hA.tail.tail.tail
          repeat walk_at "mgo"
          refine call_append (by walk_at "mat") (by rw [intL_len]; walk_at "mfit") ?_
          rw [show intL b.ds ++ [AV.int (1 + mx)] = intL (b.ds ++ [1 + mx]) by simp [intL]]
          replace hA := hA.upd (c' := .list (intL (b.ds ++ [1 + mx]))) (.tail (.tail (.tail (.tail (.tail .head)))))
          generalize σ7.set b.ld _ = σ8 at hA ⊢
          repeat walk_at "mgo"
          refine call_len_list (by walk_at "mat") (by walk_at "mfit") ?_
          repeat walk_at "mgo"
          refine ⟨_, ?_, hA⟩
          unfold takeP
          rw [hno]
          exact ⟨_, _, by simp, rfl⟩

theorem does_bNew (H : Has c N) (h1 : 1 ≤ d) : Does c d callL [.raw (.ref N.cB)] [] (fun v l' => ∃ b : BS, v = .ref b.self ∧ b.nodes = [] ∧ BOK b ∧ l' = b.cells N) := by
  refine does_of fun σ hA => ?_
  refine make_at H.k_B H.d_B_init h1 rfl fun x dx hx hdx hne => ?_
  replace hA := hA.inst (C := N.cB) hx hdx hne
  generalize (σ.set dx _).set x _ = σ1 at hA ⊢
  unfold body_b_init
  repeat walk_at "mgo"
  intro la hla
  replace hA := hA.new (c := .list []) hla
  generalize σ1.set la _ = σ2 at hA ⊢
  repeat walk_at "mgo"
  refine w_attr_set (by walk_at "mat") (by walk_at "mat") (by walk_at "mst") (by simp) ?_
  replace hA := hA.upd (c' := .ns [("nodes", .ref la)]) (.tail (.tail .head))
  rw [show Loc.put [] "nodes" (AV.ref la) = [("nodes", AV.ref la)] from rfl]
  generalize σ2.set dx _ = σ3 at hA ⊢
  repeat walk_at "mgo"
  refine w_edict (.inr (.inr rfl)) fun ln hln => ?_
  replace hA := hA.new (c := .dictT []) hln
  generalize σ3.set ln _ = σ4 at hA ⊢
  repeat walk_at "mgo"
  refine w_attr_set (by walk_at "mat") (by walk_at "mat") (by walk_at "mst") (by simp) ?_
  replace hA := hA.upd (c' := .ns [("nodes", .ref la), ("numbers", .ref ln)]) (.tail (.tail (.tail .head)))
  rw [show Loc.put [("nodes", AV.ref la)] "numbers" (AV.ref ln) = [("nodes", AV.ref la), ("numbers", .ref ln)] from rfl]
  generalize σ4.set dx _ = σ5 at hA ⊢
  repeat walk_at "mgo"
  intro lw hlw
  replace hA := hA.new (c := .list []) hlw
  generalize σ5.set lw _ = σ6 at hA ⊢
  repeat walk_at "mgo"
  refine w_attr_set (by walk_at "mat") (by walk_at "mat") (by walk_at "mst") (by simp) ?_
  replace hA := hA.upd (c' := .ns [("nodes", .ref la), ("numbers", .ref ln), ("weights", .ref lw)]) (.tail (.tail (.tail (.tail .head))))
  rw [show Loc.put [("nodes", AV.ref la), ("numbers", .ref ln)] "weights" (AV.ref lw) = [("nodes", AV.ref la), ("numbers", .ref ln), ("weights", .ref lw)] from rfl]
  generalize σ6.set dx _ = σ7 at hA ⊢
  repeat walk_at "mgo"
  intro ld hld
  replace hA := hA.new (c := .list []) hld
  generalize σ7.set ld _ = σ8 at hA ⊢
  repeat walk_at "mgo"
  refine w_attr_set (by walk_at "mat") (by walk_at "mat") (by walk_at "mst") (by simp) ?_
  replace hA := hA.upd (c' := .ns [("nodes", .ref la), ("numbers", .ref ln), ("weights", .ref lw), ("depths", .ref ld)]) (.tail (.tail (.tail (.tail (.tail .head)))))
  rw [show Loc.put [("nodes", AV.ref la), ("numbers", .ref ln), ("weights", .ref lw)] "depths" (AV.ref ld) = [("nodes", AV.ref la), ("numbers", .ref ln), ("weights", .ref lw), ("depths", .ref ld)] from rfl]
  generalize σ8.set dx _ = σ9 at hA ⊢
  repeat walk_at "mgo"
  refine ⟨_, ⟨⟨x, dx, la, ln, lw, ld, [], [], []⟩, rfl, rfl, ⟨rfl, rfl, .nil, (fun i hi => absurd hi (Nat.not_lt_zero _)), (fun n hn => absurd hn (List.not_mem_nil))⟩, rfl⟩, hA.perm ?_⟩
  unfold BS.cells
  simp only [List.map_nil, numTab, List.zipIdx_nil, intL]
  refine List.Perm.trans ?_ (List.reverse_perm _)
  simp only [List.reverse_cons, List.reverse_nil, List.nil_append, List.cons_append]
  exact .swap _ _ _
end

-- Cx51
set_option Elab.async false
set_option linter.unusedVariables false
set_option linter.unusedSimpArgs false

/-! the heap, without a program -/
structure MS where
  nodes : List Node
  par : List Nat
  lots : List (List Nat)
  log : List (Nat × Nat)
  edges : List (Nat × Nat × AV)
  forest : List Nat
  known : List (Node × Nat)
  users : List (Nat × List Nat)
  waiting : List Nat
namespace MS
def size (s : MS) : Nat := s.nodes.length
def find (s : MS) (n : Nat) : Nat := root s.par n
def canon (s : MS) (n : Nat) : Node := ((s.nodes.getD n default).1, (s.nodes.getD n default).2.map s.find)
def usersOf (s : MS) (r : Nat) : List Nat := (dlook s.users r).getD []
def joinK (s : MS) (a b : Nat) (r : AV) (k g : Nat) : MS :=
  { s with edges := s.edges ++ [(a, b, r)], forest := s.forest ++ [s.edges.length], par := s.par.set g k, lots := s.lots.set k (s.lots.getD k [] ++ s.lots.getD g []), log := s.log ++ [(k, g)],
           waiting := s.waiting ++ s.usersOf g, users := dput (ddel s.users g) k (s.usersOf k ++ s.usersOf g) }
def join (s : MS) (a b : Nat) (r : AV) : MS :=
  if s.find a = s.find b then { s with edges := s.edges ++ [(a, b, r)] } else s.joinK a b r (min (s.find a) (s.find b)) (max (s.find a) (s.find b))
def like : AV := .tup [.str "like"]
def look (s : MS) (n : Nat) : MS := match dlook s.known (s.canon n) with
  | some o => if s.find o = s.find n then s else s.join o n like
  | none => { s with known := s.known ++ [(s.canon n, n)] }
def pop (s : MS) : MS := { s with waiting := s.waiting.dropLast }
def settleN : Nat → MS → MS
  | 0, s => s
  | k + 1, s => match s.waiting.getLast? with
    | none => s
    | some n => settleN k (s.pop.look n)
/-- what falls as it is settled -/
def left (s : MS) : Nat := (rootsOf s.par).length * (2 * s.size + 1) + s.waiting.length
def settle (s : MS) : MS := settleN s.left s
/-- a node that is new, made, not looked at -/
def newNode (s : MS) (n : Node) : MS :=
  { s with nodes := s.nodes ++ [n], par := s.par ++ [s.par.length], lots := s.lots ++ [[s.par.length]],
           users := (s.users ++ [(s.size, [])]).map fun (p : Nat × List Nat) => if p.1 ∈ n.2.map s.find then (p.1, p.2 ++ [s.size]) else p }
def add (s : MS) (n : Node) : MS := match numOf s.nodes n with
  | some _ => s
  | none => (s.newNode n).look s.size
def numberOf (s : MS) (n : Node) : Nat := (numOf s.nodes n).getD s.size
end MS

def sumLen (l : List (Nat × List Nat)) : Nat := (l.map fun p => p.2.length).sum
theorem sum_del {l : List (Nat × List Nat)} {g : Nat} {x : List Nat} : dlook l g = some x → sumLen (ddel l g) + x.length = sumLen l := by
  induction l with
  | nil => intro h; cases h
  | cons p l ih =>
    obtain ⟨k, v⟩ := p
    intro h
    unfold dlook at h
    unfold ddel
    by_cases e : k = g
    · rw [if_pos e] at h ⊢
      cases h
      simp [sumLen]; omega
    · rw [if_neg e] at h ⊢
      have := ih h
      simp only [sumLen, List.map_cons, List.sum_cons] at this ⊢
      omega
theorem sum_put {l : List (Nat × List Nat)} {g : Nat} {x y : List Nat} : dlook l g = some x → sumLen (dput l g y) + x.length = sumLen l + y.length := by
  induction l with
  | nil => intro h; cases h
  | cons p l ih =>
    obtain ⟨k, v⟩ := p
    intro h
    unfold dlook at h
    unfold dput
    by_cases e : k = g
    · rw [if_pos e] at h ⊢
      cases h
      simp [sumLen]; omega
    · rw [if_neg e] at h ⊢
      have := ih h
      simp only [sumLen, List.map_cons, List.sum_cons] at this ⊢
      omega
theorem look_del {V : Type} {l : List (Nat × V)} {g k : Nat} (h : k ≠ g) : dlook (ddel l g) k = dlook l k := by
  induction l with
  | nil => rfl
  | cons p l ih =>
    obtain ⟨x, v⟩ := p
    unfold ddel
    by_cases e : x = g
    · rw [if_pos e]
      rw [dlook, if_neg (by omega)]
    · rw [if_neg e, dlook, dlook, ih]
theorem keys_del {V : Type} {l : List (Nat × V)} {g : Nat} : (ddel l g).map (·.1) = (l.map (·.1)).erase g := by
  induction l with
  | nil => rfl
  | cons p l ih =>
    obtain ⟨x, v⟩ := p
    unfold ddel
    by_cases e : x = g
    · subst e; rw [if_pos rfl]; simp
    · rw [if_neg e, List.map_cons, List.map_cons, List.erase_cons_tail (by simpa using e), ih]
theorem keys_put {V : Type} {l : List (Nat × V)} {g : Nat} {x y : V} (h : dlook l g = some x) : (dput l g y).map (·.1) = l.map (·.1) := by
  induction l with
  | nil => cases h
  | cons p l ih =>
    obtain ⟨k, v⟩ := p
    unfold dlook at h
    unfold dput
    by_cases e : k = g
    · rw [if_pos e]; simp
    · rw [if_neg e] at h ⊢
      rw [List.map_cons, List.map_cons, ih h]
theorem look_mem {K V : Type} [DecidableEq K] {l : List (K × V)} {k : K} {v : V} : dlook l k = some v → (k, v) ∈ l := by
  induction l with
  | nil => intro h; cases h
  | cons p l ih =>
    obtain ⟨x, w⟩ := p
    intro h
    unfold dlook at h
    by_cases e : x = k
    · rw [if_pos e] at h
      cases h; subst e; exact List.mem_cons_self
    · rw [if_neg e] at h
      exact List.mem_cons_of_mem _ (ih h)
theorem mem_look {K V : Type} [DecidableEq K] {l : List (K × V)} {k : K} (h : k ∈ l.map (·.1)) : ∃ v, dlook l k = some v := by
  cases e : dlook l k with
  | none => exact absurd h (dlook_none.mp e)
  | some v => exact ⟨v, rfl⟩
theorem mem_put {V : Type} {l : List (Nat × V)} {g : Nat} {y : V} {p : Nat × V} (h : p ∈ dput l g y) : p = (g, y) ∨ p ∈ l := by
  induction l with
  | nil => exact .inl (by simpa [dput] using h)
  | cons q l ih =>
    obtain ⟨k, v⟩ := q
    unfold dput at h
    by_cases e : k = g
    · rw [if_pos e] at h
      rcases List.mem_cons.mp h with h | h
      · subst e; exact .inl h
      · exact .inr (List.mem_cons_of_mem _ h)
    · rw [if_neg e] at h
      rcases List.mem_cons.mp h with h | h
      · exact .inr (h ▸ List.mem_cons_self)
      · exact (ih h).imp id (List.mem_cons_of_mem _)
theorem mem_del {V : Type} {l : List (Nat × V)} {g : Nat} {p : Nat × V} (h : p ∈ ddel l g) : p ∈ l := by
  induction l with
  | nil => cases h
  | cons q l ih =>
    obtain ⟨k, v⟩ := q
    unfold ddel at h
    by_cases e : k = g
    · rw [if_pos e] at h; exact List.mem_cons_of_mem _ h
    · rw [if_neg e] at h
      rcases List.mem_cons.mp h with h | h
      · exact h ▸ List.mem_cons_self
      · exact List.mem_cons_of_mem _ (ih h)

/-- its shape; T: as many tellings -/
structure MOK (T : Nat) (s : MS) : Prop where
  down : Down s.par
  lgr : s.log.length + (rootsOf s.par).length = s.par.length
  len : s.par.length = s.size
  two : ∀ n ∈ s.nodes, n.2.length ≤ 2
  kids : ∀ i (h : i < s.nodes.length), ∀ k ∈ (s.nodes[i]).2, k < i
  nd : s.nodes.Nodup
  small : s.size ≤ 200
  told : T ≤ 2000
  keys : (s.users.map (·.1)).Perm (rootsOf s.par)
  sum : sumLen s.users ≤ 2 * s.size
  bound : s.known.length + s.waiting.length ≤ s.size + 2 * s.size * s.log.length
  edges : s.edges.length ≤ T + s.log.length
  forest : s.forest.length = s.log.length
  knownlt : ∀ p ∈ s.known, p.2 < s.size
  waitlt : ∀ n ∈ s.waiting, n < s.size
  userlt : ∀ p ∈ s.users, ∀ n ∈ p.2, n < s.size
theorem root_mem {p : List Nat} (hd : Down p) {a : Nat} (ha : a < p.length) : root p a ∈ rootsOf p :=
  List.mem_filter.mpr ⟨List.mem_range.mpr (root_lt hd a ha).2, by simpa using root_root hd ha⟩
theorem MOK.sizes {T : Nat} {s : MS} (h : MOK T s) : s.log.length ≤ 200 ∧ s.waiting.length ≤ 90000 ∧ s.known.length ≤ 90000 ∧ s.edges.length ≤ 3000 := by
  have h1 := h.lgr
  have h2 := h.len
  have h3 := h.small
  have h4 := h.bound
  have h5 := h.edges
  have h6 := h.told
  have h7 : s.log.length ≤ 200 := by omega
  have h8 : 2 * s.size * s.log.length ≤ 400 * 200 := Nat.mul_le_mul (by omega) h7
  omega
theorem MOK.user {T : Nat} {s : MS} (h : MOK T s) {r : Nat} (hr : r ∈ rootsOf s.par) : ∃ l, dlook s.users r = some l ∧ s.usersOf r = l ∧ l.length ≤ 2 * s.size ∧ ∀ n ∈ l, n < s.size := by
  obtain ⟨l, hl⟩ := mem_look (h.keys.mem_iff.mpr hr)
  refine ⟨l, hl, by simp [MS.usersOf, hl], ?_, h.userlt _ (look_mem hl)⟩
  have h1 := sum_del hl
  have h2 := h.sum
  omega

-- Cx52
set_option Elab.async false
set_option linter.unusedVariables false
set_option linter.unusedSimpArgs false

/-- two roots, the lesser one stays -/
structure Pair (p : List Nat) (k g : Nat) : Prop where
  lt : k < g
  gl : g < p.length
  rk : root p k = k
  rg : root p g = g
theorem pair_of {p : List Nat} (hd : Down p) {a b : Nat} (ha : a < p.length) (hb : b < p.length) (h : root p a ≠ root p b) : Pair p (min (root p a) (root p b)) (max (root p a) (root p b)) := by
  have h1 := root_lt hd a ha
  have h2 := root_lt hd b hb
  have h3 := root_root hd ha
  have h4 := root_root hd hb
  refine ⟨by omega, by omega, ?_, ?_⟩
  · rcases Nat.le_total (root p a) (root p b) with q | q
    · rw [Nat.min_eq_left q]; exact h3
    · rw [Nat.min_eq_right q]; exact h4
  · rcases Nat.le_total (root p a) (root p b) with q | q
    · rw [Nat.max_eq_right q]; exact h4
    · rw [Nat.max_eq_left q]; exact h3
theorem Pair.kmem {p : List Nat} {k g : Nat} (h : Pair p k g) : k ∈ rootsOf p := List.mem_filter.mpr ⟨List.mem_range.mpr (by have := h.lt; have := h.gl; omega), by simpa using h.rk⟩
theorem Pair.gmem {p : List Nat} {k g : Nat} (h : Pair p k g) : g ∈ rootsOf p := List.mem_filter.mpr ⟨List.mem_range.mpr h.gl, by simpa using h.rg⟩
theorem MOK.joinK {T : Nat} {s : MS} (h : MOK T s) {a b k g : Nat} {r : AV} (pr : Pair s.par k g) : MOK T (s.joinK a b r k g) := by
  obtain ⟨hro, hin⟩ := roots_set h.down pr.gl pr.lt pr.rg pr.rk
  have hlen := List.length_pos_of_mem hin
  have hgr := h.lgr
  obtain ⟨lk, ek, uk, nk, bk⟩ := h.user pr.kmem
  obtain ⟨lg, eg, ug, ng, bg⟩ := h.user pr.gmem
  have hk' : dlook (ddel s.users g) k = some lk := by rw [look_del (by have := pr.lt; omega)]; exact ek
  have hnd : (rootsOf s.par).Nodup := List.nodup_range.filter _
  refine { down := down_set h.down (by have := pr.lt; omega), lgr := ?_, len := ?_, two := h.two, kids := h.kids, nd := h.nd, small := h.small, told := h.told, keys := ?_, sum := ?_, bound := ?_, edges := ?_, forest := ?_, knownlt := h.knownlt, waitlt := ?_, userlt := ?_ }
  · simp only [MS.joinK, hro, List.length_append, List.length_singleton, List.length_set, List.length_erase_of_mem hin]; omega
  · simp only [MS.joinK, List.length_set]; exact h.len
  · simp only [MS.joinK]
    rw [keys_put hk', keys_del, hro]
    exact h.keys.erase g
  · simp only [MS.joinK, uk, ug]
    have s1 := sum_del eg
    have s2 := sum_put (y := lk ++ lg) hk'
    have := h.sum
    rw [List.length_append] at s2
    show _ ≤ 2 * s.size
    omega
  · have := h.bound
    simp only [MS.joinK, ug, List.length_append, List.length_singleton]
    show s.known.length + (s.waiting.length + lg.length) ≤ s.size + 2 * s.size * (s.log.length + 1)
    rw [Nat.mul_add]; omega
  · have := h.edges
    simp only [MS.joinK, List.length_append, List.length_singleton]; omega
  · have := h.forest
    simp only [MS.joinK, List.length_append, List.length_singleton]; omega
  · intro n hn
    simp only [MS.joinK, ug] at hn
    rcases List.mem_append.mp hn with hn | hn
    · exact h.waitlt n hn
    · exact bg n hn
  · intro p hp n hn
    simp only [MS.joinK, ug, uk] at hp
    rcases mem_put hp with rfl | hp
    · rcases List.mem_append.mp hn with hn | hn
      · exact bk n hn
      · exact bg n hn
    · exact h.userlt p (mem_del hp) n hn
theorem MOK.more {T T' : Nat} {s : MS} (h : MOK T s) (l : T ≤ T') (h2 : T' ≤ 2000) : MOK T' s := { h with told := h2, edges := Nat.le_trans h.edges (by omega) }
theorem MOK.told_edge {T : Nat} {s : MS} (h : MOK T s) (e : Nat × Nat × AV) (hT : T + 1 ≤ 2000) : MOK (T + 1) { s with edges := s.edges ++ [e] } :=
  { h with told := hT, edges := by have := h.edges; simp only [List.length_append, List.length_singleton]; omega }
theorem MOK.join {T : Nat} {s : MS} (h : MOK T s) {a b : Nat} {r : AV} (ha : a < s.size) (hb : b < s.size) (hT : T + 1 ≤ 2000) : MOK (T + 1) (s.join a b r) := by
  unfold MS.join
  split
  · exact h.told_edge _ hT
  · rename_i q
    exact ((h.joinK (pair_of h.down (by rw [h.len]; exact ha) (by rw [h.len]; exact hb) q))).more (by omega) hT
theorem MOK.join_ne {T : Nat} {s : MS} (h : MOK T s) {a b : Nat} {r : AV} (ha : a < s.size) (hb : b < s.size) (hne : s.find a ≠ s.find b) : MOK T (s.join a b r) := by
  unfold MS.join
  rw [if_neg hne]
  exact h.joinK (pair_of h.down (by rw [h.len]; exact ha) (by rw [h.len]; exact hb) hne)
theorem MOK.look {T : Nat} {s : MS} (h : MOK T s) {n : Nat} (hn : n < s.size) (sl : s.known.length + s.waiting.length + 1 ≤ s.size + 2 * s.size * s.log.length) : MOK T (s.look n) := by
  unfold MS.look
  split
  · rename_i o ho
    have hol := h.knownlt _ (look_mem ho)
    by_cases e : s.find o = s.find n
    · rw [if_pos e]; exact h
    · rw [if_neg e]; exact h.join_ne hol hn e
  · refine { h with bound := ?_, knownlt := ?_ }
    · show (s.known ++ [(s.canon n, n)]).length + s.waiting.length ≤ s.size + 2 * s.size * s.log.length
      simp only [List.length_append, List.length_singleton]; omega
    · intro p hp
      rcases List.mem_append.mp hp with hp | hp
      · exact h.knownlt p hp
      · obtain rfl := List.mem_singleton.mp hp; exact hn
theorem MS.look_size (s : MS) (n : Nat) : (s.look n).size = s.size ∧ (s.look n).nodes = s.nodes := by
  unfold MS.look
  split
  · split
    · exact ⟨rfl, rfl⟩
    · unfold MS.join; split <;> exact ⟨rfl, rfl⟩
  · exact ⟨rfl, rfl⟩
theorem MOK.pop {T : Nat} {s : MS} (h : MOK T s) {n : Nat} (hw : s.waiting.getLast? = some n) : MOK T s.pop ∧ n < s.size ∧ s.pop.known.length + s.pop.waiting.length + 1 ≤ s.pop.size + 2 * s.pop.size * s.pop.log.length ∧ s.waiting = s.pop.waiting ++ [n] := by
  have hne : s.waiting ≠ [] := fun e => by rw [e] at hw; cases hw
  have hl : s.waiting.getLast hne = n := by
    rw [List.getLast?_eq_some_getLast hne] at hw
    exact Option.some.inj hw
  have hsp : s.waiting = s.waiting.dropLast ++ [n] := by rw [← hl]; exact (List.dropLast_concat_getLast hne).symm
  have hlen : s.waiting.length = s.waiting.dropLast.length + 1 := by
    have := congrArg List.length hsp
    simpa using this
  have hb := h.bound
  refine ⟨{ h with bound := ?_, waitlt := fun m hm => h.waitlt m (List.dropLast_subset _ hm) }, h.waitlt n (by rw [hsp]; simp), ?_, hsp⟩
  · show s.known.length + s.waiting.dropLast.length ≤ s.size + 2 * s.size * s.log.length
    omega
  · show s.known.length + s.waiting.dropLast.length + 1 ≤ s.size + 2 * s.size * s.log.length
    omega
theorem MS.left_joinK {T : Nat} {s : MS} (h : MOK T s) {a b k g : Nat} {r : AV} (pr : Pair s.par k g) : (s.joinK a b r k g).left < s.left := by
  obtain ⟨hro, hin⟩ := roots_set h.down pr.gl pr.lt pr.rg pr.rk
  have hlen := List.length_pos_of_mem hin
  obtain ⟨lg, eg, ug, ng, bg⟩ := h.user pr.gmem
  unfold MS.left
  simp only [MS.joinK, hro, ug, List.length_append, List.length_erase_of_mem hin]
  show ((rootsOf s.par).length - 1) * (2 * s.size + 1) + (s.waiting.length + lg.length) < _
  obtain ⟨m, hm⟩ : ∃ m, (rootsOf s.par).length = m + 1 := ⟨(rootsOf s.par).length - 1, by omega⟩
  rw [hm, Nat.add_sub_cancel, Nat.add_mul]
  omega
theorem MS.left_look {T : Nat} {s : MS} (h : MOK T s) {n : Nat} (hn : n < s.size) : (s.look n).left ≤ s.left := by
  unfold MS.look
  split
  · rename_i o ho
    have hol := h.knownlt _ (look_mem ho)
    by_cases e : s.find o = s.find n
    · rw [if_pos e]; exact Nat.le_refl _
    · rw [if_neg e]
      unfold MS.join
      rw [if_neg e]
      exact Nat.le_of_lt (left_joinK h (pair_of h.down (by rw [h.len]; exact hol) (by rw [h.len]; exact hn) e))
  · exact Nat.le_refl _
theorem MS.left_pop {T : Nat} {s : MS} (h : MOK T s) {n : Nat} (hw : s.waiting.getLast? = some n) : (s.pop.look n).left < s.left := by
  obtain ⟨h1, h2, _, h4⟩ := h.pop hw
  have := left_look h1 h2
  have e : s.left = s.pop.left + 1 := by
    unfold left
    rw [h4, List.length_append, List.length_singleton]
    rfl
  omega
theorem MS.settleN_more {T : Nat} : ∀ (k : Nat) (s : MS), MOK T s → s.left ≤ k → settleN k s = settleN s.left s
  | 0, s, h, hl => by rw [Nat.le_zero.mp hl]
  | k + 1, s, h, hl => by
    cases hw : s.waiting.getLast? with
    | none =>
      have e1 : ∀ j, settleN j s = s := by
        intro j
        cases j with
        | zero => rfl
        | succ j => rw [settleN, hw]
      rw [e1, e1]
    | some n =>
      have h3 := left_pop h hw
      obtain ⟨h1, h2, h4, _⟩ := h.pop hw
      have hl' := h1.look h2 h4
      obtain ⟨j, hj⟩ : ∃ j, s.left = j + 1 := ⟨s.left - 1, by omega⟩
      rw [hj, settleN, settleN, hw]
      dsimp only
      rw [settleN_more k _ hl' (by omega), settleN_more j _ hl' (by omega)]
theorem MS.settle_end {s : MS} (hw : s.waiting = []) : s.settle = s := by
  unfold settle
  cases s.left with
  | zero => rfl
  | succ j => rw [settleN, hw]; rfl
theorem MS.settle_step {T : Nat} {s : MS} (h : MOK T s) {n : Nat} (hw : s.waiting.getLast? = some n) : s.settle = (s.pop.look n).settle := by
  have h3 := left_pop h hw
  obtain ⟨h1, h2, h4, _⟩ := h.pop hw
  have hl' := h1.look h2 h4
  unfold settle
  obtain ⟨j, hj⟩ : ∃ j, s.left = j + 1 := ⟨s.left - 1, by omega⟩
  rw [hj, settleN, hw]
  dsimp only
  rw [settleN_more j _ hl' (by omega)]
/-- what holds of the settled heap -/
theorem MS.settle_ind {T : Nat} (P : MS → Prop) (hP : ∀ s n, MOK T s → P s → s.waiting.getLast? = some n → P (s.pop.look n)) : ∀ (k : Nat) (s : MS), s.left ≤ k → MOK T s → P s → MOK T s.settle ∧ P s.settle ∧ s.settle.waiting = []
  | k, s, hk, h, p => by
    cases hw : s.waiting.getLast? with
    | none =>
      have e : s.waiting = [] := List.getLast?_eq_none_iff.mp hw
      rw [settle_end e]; exact ⟨h, p, e⟩
    | some n =>
      have h3 := left_pop h hw
      obtain ⟨h1, h2, h4, _⟩ := h.pop hw
      rw [settle_step h hw]
      match k, hk with
      | 0, hk => omega
      | k + 1, hk => exact settle_ind P hP k _ (by omega) (h1.look h2 h4) (hP s n h p hw)
theorem MOK.newNode {T : Nat} {s : MS} (h : MOK T s) {n : Node} (hno : numOf s.nodes n = none) (hk : ∀ k ∈ n.2, k < s.size) (h2 : n.2.length ≤ 2) (hs : s.size + 1 ≤ 200) : MOK T (s.newNode n) ∧ (s.newNode n).known.length + (s.newNode n).waiting.length + 1 ≤ (s.newNode n).size + 2 * (s.newNode n).size * (s.newNode n).log.length := by
  have hsz : (s.newNode n).size = s.size + 1 := by simp [MS.newNode, MS.size]
  have hb := h.bound
  have hbb : s.known.length + s.waiting.length + 1 ≤ (s.newNode n).size + 2 * (s.newNode n).size * s.log.length := by
    rw [hsz]
    have : 2 * s.size * s.log.length ≤ 2 * (s.size + 1) * s.log.length := Nat.mul_le_mul (by omega) (Nat.le_refl _)
    omega
  have hlen := h.len
  have hpar : (s.newNode n).par = s.par ++ [s.par.length] := rfl
  have keys0 : (s.newNode n).users.map (·.1) = s.users.map (·.1) ++ [s.size] := by
    simp only [MS.newNode, List.map_map]
    rw [show ((fun (x : Nat × List Nat) => x.1) ∘ fun (p : Nat × List Nat) => if p.1 ∈ n.2.map s.find then (p.1, p.2 ++ [s.size]) else p) = fun x => x.1 by
      funext p; simp only [Function.comp]; split <;> rfl]
    simp
  refine ⟨{ down := ?_, lgr := ?_, len := ?_, two := ?_, kids := ?_, nd := ?_, small := by omega, told := h.told, keys := ?_, sum := ?_, bound := ?_, edges := h.edges, forest := h.forest, knownlt := ?_, waitlt := ?_, userlt := ?_ }, hbb⟩
  · exact down_snoc h.down
  · have := h.lgr
    rw [hpar, roots_snoc h.down]
    simp only [MS.newNode, List.length_append, List.length_singleton]; omega
  · rw [hsz, hpar, List.length_append, List.length_singleton, hlen]
  · intro m hm
    simp only [MS.newNode] at hm
    rcases List.mem_append.mp hm with hm | hm
    · exact h.two m hm
    · obtain rfl := List.mem_singleton.mp hm; exact h2
  · intro i hi k hk'
    simp only [MS.newNode] at hi hk'
    rw [List.getElem_append] at hk'
    split at hk'
    · exact h.kids i (by assumption) k hk'
    · simp only [List.getElem_singleton] at hk'
      have := hk k hk'
      simp only [List.length_append, List.length_singleton, MS.size] at *; omega
  · simp only [MS.newNode, List.nodup_append]
    refine ⟨h.nd, by simp, fun a ha b' hb' e => ?_⟩
    obtain rfl := List.mem_singleton.mp hb'
    exact numOf_none.mp hno (e ▸ ha)
  · rw [keys0, hpar, roots_snoc h.down, hlen]
    exact h.keys.append_right _
  · have hsum := h.sum
    rw [hsz]
    have gen : ∀ (l : List (Nat × List Nat)) (cs : List Nat), (l.map (·.1)).Nodup → sumLen (l.map fun (p : Nat × List Nat) => if p.1 ∈ cs then (p.1, p.2 ++ [s.size]) else p) ≤ sumLen l + cs.length := by
      intro l cs
      induction l generalizing cs with
      | nil => intro _; simp [sumLen]
      | cons p l ih =>
        intro hnd
        rw [List.map_cons, List.nodup_cons] at hnd
        by_cases e : p.1 ∈ cs
        · have h1 := ih (cs.erase p.1) hnd.2
          have h2 : (l.map fun (q : Nat × List Nat) => if q.1 ∈ cs.erase p.1 then (q.1, q.2 ++ [s.size]) else q) = l.map fun (q : Nat × List Nat) => if q.1 ∈ cs then (q.1, q.2 ++ [s.size]) else q := by
            refine List.map_congr_left fun q hq => ?_
            have : q.1 ≠ p.1 := fun e => hnd.1 (e ▸ List.mem_map.mpr ⟨q, hq, rfl⟩)
            simp only [List.mem_erase_of_ne this]
          rw [h2, List.length_erase_of_mem e] at h1
          have h3 := List.length_pos_of_mem e
          rw [List.map_cons, if_pos e]
          simp only [sumLen, List.map_cons, List.sum_cons, List.length_append, List.length_singleton] at h1 ⊢
          omega
        · have h1 := ih cs hnd.2
          rw [List.map_cons, if_neg e]
          simp only [sumLen, List.map_cons, List.sum_cons] at h1 ⊢
          omega
    have hnd : ((s.users ++ [(s.size, [])]).map (fun (p : Nat × List Nat) => p.1)).Nodup := by
      rw [List.map_append, List.map_cons, List.map_nil]
      refine (h.keys.append_right _).nodup_iff.mpr ?_
      have : (rootsOf s.par ++ [s.size]).Nodup := by
        rw [← hlen, ← roots_snoc h.down]
        exact List.nodup_range.filter _
      exact this
    have g1 := gen (s.users ++ [(s.size, [])]) (n.2.map s.find) hnd
    have g2 : sumLen (s.users ++ [(s.size, [])]) = sumLen s.users := by simp [sumLen]
    rw [List.length_map] at g1
    show sumLen ((s.users ++ [(s.size, [])]).map _) ≤ _
    omega
  · exact Nat.le_trans (Nat.le_succ _) hbb
  · intro p hp
    have := h.knownlt p hp
    omega
  · intro m hm
    have := h.waitlt m hm
    omega
  · intro p hp m hm
    simp only [MS.newNode] at hp
    obtain ⟨q, hq, rfl⟩ := List.mem_map.mp hp
    rw [hsz]
    have hold : ∀ m ∈ q.2, m < s.size + 1 := by
      intro m hm
      rcases List.mem_append.mp hq with hq | hq
      · have := h.userlt q hq m hm; omega
      · obtain rfl := List.mem_singleton.mp hq; cases hm
    split at hm
    · rcases List.mem_append.mp hm with hm | hm
      · exact hold m hm
      · obtain rfl := List.mem_singleton.mp hm; omega
    · exact hold m hm
theorem MOK.add {T : Nat} {s : MS} (h : MOK T s) {n : Node} (hk : ∀ k ∈ n.2, k < s.size) (h2 : n.2.length ≤ 2) (hs : s.size + 1 ≤ 200) : MOK T (s.add n) := by
  unfold MS.add
  split
  · exact h
  · rename_i hno
    obtain ⟨h3, h4⟩ := h.newNode hno hk h2 hs
    exact h3.look (by simp [MS.newNode, MS.size]) h4

-- Cx53
set_option Elab.async false
set_option linter.unusedVariables false
set_option linter.unusedSimpArgs false
set_option maxRecDepth 20000

/-- kept out of sight -/
structure Hid (p : Prop) : Prop where
  is : p
structure HS where
  self : Addr
  ns : Addr
  le : Addr
  lf : Addr
  lk : Addr
  la : Addr
  lw : Addr
  b : BS
  u : US
  edges : List (Nat × Nat × AV)
  forest : List Nat
  known : List (Node × Nat)
  users : List (Nat × Addr × List Nat)
  waiting : List Nat
def HS.ms (h : HS) : MS := ⟨h.b.nodes, h.u.par, h.u.lots.map (·.2), h.u.log, h.edges, h.forest, h.known, h.users.map fun p => (p.1, p.2.2), h.waiting⟩
def edgeAV (e : Nat × Nat × AV) : AV := .tup [.int (e.1 : Nat), .int (e.2.1 : Nat), e.2.2]
def knownTab (l : List (Node × Nat)) : List (List AV × AV) := l.map fun p => (nodeKey p.1, AV.int (p.2 : Nat))
def userTab (l : List (Nat × Addr × List Nat)) : List (Int × AV) := l.map fun p => ((p.1 : Int), AV.ref p.2.1)
def userCell (p : Nat × Addr × List Nat) : Addr × Cell := (p.2.1, .list (natL p.2.2))
def HS.own (N : Nms) (h : HS) : Cells :=
  [(h.self, .inst N.cH h.ns), (h.ns, .ns [("bank", .ref h.b.self), ("unions", .ref h.u.self), ("edges", .ref h.le), ("forest", .ref h.lf), ("known", .ref h.lk), ("above", .ref h.la), ("waiting", .ref h.lw)]),
   (h.le, .list (h.edges.map edgeAV)), (h.lf, .list (natL h.forest)), (h.lk, .dictT (knownTab h.known)), (h.la, .dictI (userTab h.users)), (h.lw, .list (natL h.waiting))]
def HS.cells (N : Nms) (h : HS) : Cells := h.own N ++ (h.b.cells N ++ (h.u.cells N ++ h.users.map userCell))
structure HOK (T : Nat) (h : HS) : Prop where
  b : BOK h.b
  u : UOK h.u
  m : MOK T h.ms
theorem HOK.fits {T : Nat} {h : HS} (H : HOK T h) : Fits (h.u.par.length + 1) ∧ Fits (h.b.nodes.length + 1) ∧ h.u.par.length = h.b.nodes.length ∧ h.b.nodes.length ≤ 200 ∧ h.edges.length ≤ 3000 ∧ h.waiting.length ≤ 90000 ∧ h.known.length ≤ 90000 ∧ h.forest.length ≤ 200 ∧ h.u.log.length ≤ 200 := by
  obtain ⟨h1, h2, h3, h4⟩ := H.m.sizes
  have h5 := H.m.len
  have h6 := H.m.small
  have h7 := H.m.forest
  simp only [HS.ms, MS.size] at *
  unfold Fits
  omega
theorem HS.atU {N : Nms} {h : HS} {σ : AHeap} (hA : At σ (h.cells N)) : At σ (h.u.cells N) :=
  hA.sub (List.Sublist.trans (List.Sublist.trans (List.sublist_append_left _ _) (List.sublist_append_right _ _)) (List.sublist_append_right _ _))
theorem HS.atB {N : Nms} {h : HS} {σ : AHeap} (hA : At σ (h.cells N)) : At σ (h.b.cells N) :=
  hA.sub (List.Sublist.trans (List.sublist_append_left _ _) (List.sublist_append_right _ _))
theorem HS.midU {N : Nms} {h : HS} {u' : US} {σ σ' : AHeap} (hA : At σ (h.own N ++ (h.b.cells N ++ (h.u.cells N ++ h.users.map userCell)))) (h' : At σ' (u'.cells N)) (o : Out (h.u.cells N) (u'.cells N) σ σ') : At σ' (h.own N ++ (h.b.cells N ++ (u'.cells N ++ h.users.map userCell))) := by
  rw [← List.append_assoc] at hA ⊢
  exact At.mid hA h' o
theorem HS.midB {N : Nms} {h : HS} {b' : BS} {σ σ' : AHeap} (hA : At σ (h.own N ++ (h.b.cells N ++ (h.u.cells N ++ h.users.map userCell)))) (h' : At σ' (b'.cells N)) (o : Out (h.b.cells N) (b'.cells N) σ σ') : At σ' (h.own N ++ (b'.cells N ++ (h.u.cells N ++ h.users.map userCell))) := At.mid hA h' o

section
variable {c : Cx} {d : Nat} {σ : AHeap} {Q : AV → AHeap → Prop} {X : Addr → AHeap → Prop} {N : Nms} {T : Nat}
theorem call_hFind {h : HS} {n : Nat} (H : Has c N) (h1 : 2 ≤ d) (hA : At σ (h.cells N)) (hk : HOK T h) (hn : n < h.ms.size) (hq : Q (.int (h.ms.find n : Nat)) σ) : CallOK c d (.raw (.ref N.h_find)) [.ref h.self, .int n] σ Q X := by
  have G := H.gs
  obtain ⟨f1, f2, f3, _⟩ := hk.fits
  have hA0 := Hid.mk hA
  refine call_at H.d_H_find (by omega) rfl ?_
  simp only [HS.cells, HS.own, BS.cells, US.cells, List.cons_append, List.nil_append] at hA
  unfold body_h_find
  obtain ⟨e, he⟩ : ∃ e, d - 1 = e + 1 := ⟨d - 2, by omega⟩
  rw [he]
  repeat walk_at "mgo"
  exact call_uFind H (HS.atU hA0.is) hk.u.down (by rw [f3]; exact hn) (by unfold Fits at *; omega) hq
theorem call_hSize {h : HS} (H : Has c N) (h1 : 2 ≤ d) (hA : At σ (h.cells N)) (hk : HOK T h) (hq : Q (.int (h.ms.size : Nat)) σ) : CallOK c d (.raw (.ref N.h_size)) [.ref h.self] σ Q X := by
  have G := H.gs
  obtain ⟨f1, f2, f3, _⟩ := hk.fits
  have hA0 := Hid.mk hA
  refine call_at H.d_H_size (by omega) rfl ?_
  simp only [HS.cells, HS.own, BS.cells, US.cells, List.cons_append, List.nil_append] at hA
  unfold body_h_size
  repeat walk_at "mgo"
  exact call_bSize H (by omega) (HS.atB hA0.is) (by unfold Fits at *; omega) hq
theorem call_hClasses {h : HS} (H : Has c N) (h1 : 2 ≤ d) (hA : At σ (h.cells N)) (hk : HOK T h) (hq : ∀ m, σ m = none → Q (.ref m) (σ.set m (.list (natL (rootsOf h.ms.par))))) : CallOK c d (.raw (.ref N.h_classes)) [.ref h.self] σ Q X := by
  have G := H.gs
  obtain ⟨f1, f2, f3, _⟩ := hk.fits
  have hA0 := Hid.mk hA
  refine call_at H.d_H_classes (by omega) rfl ?_
  simp only [HS.cells, HS.own, BS.cells, US.cells, List.cons_append, List.nil_append] at hA
  unfold body_h_classes
  repeat walk_at "mgo"
  exact call_uClasses H (by omega) (HS.atU hA0.is) hk.u.down (by unfold Fits at *; omega) hq
theorem call_hNode {h : HS} {n : Nat} (H : Has c N) (h1 : 3 ≤ d) (hA : At σ (h.cells N)) (hk : HOK T h) (hn : n < h.ms.size) (hq : Q (.tup (nodeKey (h.ms.canon n))) σ) : CallOK c d (.raw (.ref N.h_node)) [.ref h.self, .int n] σ Q X := by
  refine reads_of (l := h.cells N) (P := fun v => v = .tup (nodeKey (h.ms.canon n))) (fun σ hA => ?_) hA fun v e => e ▸ hq
  have G := H.gs
  obtain ⟨f1, f2, f3, f4, _⟩ := hk.fits
  have hA0 := Hid.mk hA
  have hnl : n < h.b.nodes.length := hn
  have htwo := hk.m.two _ (List.getElem_mem hnl)
  refine call_at H.d_H_node (by omega) rfl ?_
  simp only [HS.cells, HS.own, BS.cells, US.cells, List.cons_append, List.nil_append] at hA
  unfold body_h_node
  repeat walk_at "mgo"
  refine call_bOp H (by omega) (HS.atB hA0.is) (by unfold Fits at *; omega) hnl ?_
  repeat walk_at "mgo"
  refine call_bKids H (by omega) (HS.atB hA0.is) (by unfold Fits at *; omega) hk.b hnl ?_
  refine iter_tup ?_
  refine ⟨small_len (by rw [natL_len]; omega), ?_⟩
  refine compLoop_of (fun i acc σ' => σ' = σ ∧ acc = natL (((h.b.nodes[n]).2.take i).map h.ms.find)) ⟨rfl, rfl⟩ (fun _ _ _ _ => trivial) ?_ ?_
  · rintro i x acc σ' k hx ⟨rfl, rfl⟩ hk'
    obtain ⟨kid, hkid, rfl⟩ := natL_at hx
    have hkl := hk.b.kids n hnl kid (List.mem_of_getElem? hkid)
    repeat walk_at "mgo"
    refine call_hFind H (by omega) hA0.is hk (by show kid < h.b.nodes.length; omega) ?_
    refine hk' _ _ ⟨rfl, ?_⟩
    rw [List.take_add_one, hkid, List.map_append, ← natL_snoc]
    rfl
  · rintro acc σ' ⟨rfl, rfl⟩ m hm
    rw [natL_len, List.take_length]
    replace hA := hA.new (c := .list (natL ((h.b.nodes[n]).2.map h.ms.find))) hm
    have hA0' := hA0.is.new (c := .list (natL ((h.b.nodes[n]).2.map h.ms.find))) hm
    replace hA0' := Hid.mk hA0'
    generalize σ'.set m _ = σ1 at hA hA0' ⊢
    repeat walk_at "mgo"
    refine call_tuple_l (by walk_at "mat") (by rw [natL_len, List.length_map]; unfold Fits; omega) ?_
    refine bin_add_tup (by rw [natL_len, List.length_map, List.length_singleton]; unfold Fits; omega) ?_
    refine ⟨?_, hA0'.is.tail⟩
    have e1 : h.ms.nodes.getD n default = h.b.nodes[n] := by
      show h.b.nodes.getD n default = _
      simp [hnl]
    unfold MS.canon
    rw [e1]; rfl
end

-- Cx54
set_option Elab.async false
set_option linter.unusedVariables false
set_option linter.unusedSimpArgs false
set_option maxRecDepth 20000

theorem perm_del {V β : Type} {f : Nat × V → β} {l : List (Nat × V)} {g : Nat} {x : V} : dlook l g = some x → (l.map f).Perm (f (g, x) :: (ddel l g).map f) := by
  induction l with
  | nil => intro h; cases h
  | cons p l ih =>
    obtain ⟨k, v⟩ := p
    intro h
    unfold dlook at h
    unfold ddel
    by_cases e : k = g
    · rw [if_pos e] at h ⊢
      cases h; subst e; exact .refl _
    · rw [if_neg e] at h ⊢
      exact ((ih h).cons _).trans (.swap _ _ _)
theorem perm_put {V β : Type} {f : Nat × V → β} {l : List (Nat × V)} {k : Nat} {x y : V} : dlook l k = some x → (f (k, y) :: l.map f).Perm (f (k, x) :: (dput l k y).map f) := by
  induction l with
  | nil => intro h; cases h
  | cons p l ih =>
    obtain ⟨j, v⟩ := p
    intro h
    unfold dlook at h
    unfold dput
    by_cases e : j = k
    · rw [if_pos e] at h ⊢
      cases h; subst e; exact .swap _ _ _
    · rw [if_neg e] at h ⊢
      exact (List.Perm.swap _ _ _).trans (((ih h).cons _).trans (.swap _ _ _))
theorem At.last {σ : AHeap} {x : Addr × Cell} {P B U um um' rest : Cells} (h : At σ (x :: (P ++ (B ++ (U ++ um))))) (p : (x :: um).Perm (rest ++ um')) : At σ (P ++ (B ++ (U ++ um'))) := by
  have e1 : (P ++ (B ++ (U ++ (x :: um)))).Perm (x :: (P ++ (B ++ (U ++ um)))) := by
    rw [← List.append_assoc, ← List.append_assoc, ← List.append_assoc, ← List.append_assoc]
    exact List.perm_middle
  have h1 := h.perm e1
  have h2 : At σ (P ++ (B ++ (U ++ (rest ++ um')))) := h1.perm ((p.symm.append_left U).append_left B |>.append_left P)
  refine h2.sub ?_
  exact List.Sublist.append_left (List.Sublist.append_left (List.Sublist.append_left (List.sublist_append_right _ _) _) _) _
theorem userTab_look (l : List (Nat × Addr × List Nat)) (k : Nat) : dlook (userTab l) (k : Int) = (dlook l k).map fun p => AV.ref p.1 := by
  unfold userTab
  exact dlook_map (f := fun k : Nat => (k : Int)) (g := fun p : Addr × List Nat => AV.ref p.1) (fun a b h => by omega) l k
theorem userTab_del (l : List (Nat × Addr × List Nat)) (k : Nat) : ddel (userTab l) (k : Int) = userTab (ddel l k) := by
  unfold userTab
  exact ddel_map (f := fun k : Nat => (k : Int)) (g := fun p : Addr × List Nat => AV.ref p.1) (fun a b h => by omega) l k
theorem userTab_put (l : List (Nat × Addr × List Nat)) (k : Nat) (y : Addr × List Nat) : dput (userTab l) (k : Int) (.ref y.1) = userTab (dput l k y) := by
  unfold userTab
  exact dput_map (f := fun k : Nat => (k : Int)) (g := fun p : Addr × List Nat => AV.ref p.1) (fun a b h => by omega) l k y
theorem users_look (l : List (Nat × Addr × List Nat)) (k : Nat) : dlook (l.map fun p => (p.1, p.2.2)) k = (dlook l k).map (·.2) :=
  dlook_map (f := fun k : Nat => k) (g := fun p : Addr × List Nat => p.2) (fun a b h => h) l k
theorem users_del (l : List (Nat × Addr × List Nat)) (k : Nat) : ddel (l.map fun p => (p.1, p.2.2)) k = (ddel l k).map fun p => (p.1, p.2.2) :=
  ddel_map (f := fun k : Nat => k) (g := fun p : Addr × List Nat => p.2) (fun a b h => h) l k
theorem users_put (l : List (Nat × Addr × List Nat)) (k : Nat) (y : Addr × List Nat) : dput (l.map fun p => (p.1, p.2.2)) k y.2 = (dput l k y).map fun p => (p.1, p.2.2) :=
  dput_map (f := fun k : Nat => k) (g := fun p : Addr × List Nat => p.2) (fun a b h => h) l k y
theorem user_cell {l : List (Nat × Addr × List Nat)} {k : Nat} {x : Addr × List Nat} (h : dlook l k = some x) : (x.1, Cell.list (natL x.2)) ∈ l.map userCell :=
  List.mem_map.mpr ⟨(k, x), look_mem h, rfl⟩
theorem userTab_len (l : List (Nat × Addr × List Nat)) : (userTab l).length = l.length := by simp [userTab]
theorem len_del {V : Type} {l : List (Nat × V)} {g : Nat} : (ddel l g).length ≤ l.length := by
  induction l with
  | nil => exact Nat.le_refl _
  | cons p l ih =>
    obtain ⟨k, v⟩ := p
    unfold ddel
    split
    · simp
    · simp; exact ih

/-- what is left of a joining -/
def HS.joinK (h : HS) (a b : Nat) (r : AV) (k g : Nat) (m : Addr) (uk ug : List Nat) : HS :=
  { h with edges := h.edges ++ [(a, b, r)], forest := h.forest ++ [h.edges.length], u := h.u.joined k g, waiting := h.waiting ++ ug, users := dput (ddel h.users g) k (m, uk ++ ug) }
theorem HS.joinK_ms {h : HS} {a b : Nat} {r : AV} {k g : Nat} {m ak ag : Addr} {uk ug : List Nat} (hk : dlook h.users k = some (ak, uk)) (hg : dlook h.users g = some (ag, ug)) : (h.joinK a b r k g m uk ug).ms = h.ms.joinK a b r k g := by
  have e1 : h.ms.usersOf k = uk := by
    unfold MS.usersOf
    show (dlook (h.users.map fun p => (p.1, p.2.2)) k).getD [] = uk
    rw [users_look, hk]; rfl
  have e2 : h.ms.usersOf g = ug := by
    unfold MS.usersOf
    show (dlook (h.users.map fun p => (p.1, p.2.2)) g).getD [] = ug
    rw [users_look, hg]; rfl
  have e3 : ∀ i, (h.u.lots.map (·.2)).getD i [] = (h.u.lots.getD i default).2 := by
    intro i
    rw [List.getD_eq_getElem?_getD, List.getD_eq_getElem?_getD, List.getElem?_map]
    cases h.u.lots[i]? <;> rfl
  unfold HS.joinK MS.joinK
  rw [e1, e2]
  unfold HS.ms US.joined
  simp only [List.map_set, e3]
  rw [users_del, ← users_put]

section
variable {c : Cx} {d : Nat} {σ : AHeap} {Q : AV → AHeap → Prop} {X : Addr → AHeap → Prop} {N : Nms} {T : Nat}
def HeapP (N : Nms) (h : HS) (s : MS) (r : AV) (v : AV) (l' : Cells) : Prop := v = r ∧ ∃ h' : HS, h'.self = h.self ∧ h'.ms = s ∧ BOK h'.b ∧ UOK h'.u ∧ l' = h'.cells N
theorem does_hJoin {h : HS} {a b : Nat} {r : AV} (H : Has c N) (h1 : 3 ≤ d) (hk : HOK T h) (ha : a < h.ms.size) (hb : b < h.ms.size) :
    Does c d callL [.raw (.ref N.h_join), .ref h.self, .int (a : Int), .int (b : Int), r] (h.cells N) (HeapP N h (h.ms.join a b r) (.bool (decide (h.ms.find a ≠ h.ms.find b)))) := by
  refine does_of fun σ hA => ?_
  have G := H.gs
  obtain ⟨f1, f2, f3, f4, f5, f6, f7, f8, f9⟩ := hk.fits
  have hau : a < h.u.par.length := by rw [f3]; exact ha
  have hbu : b < h.u.par.length := by rw [f3]; exact hb
  refine call_at H.d_H_join (by omega) rfl ?_
  simp only [HS.cells, HS.own, BS.cells, US.cells, List.cons_append, List.nil_append] at hA
  unfold body_h_join
  repeat walk_at "mgo"
  refine call_append (by walk_at "mat") (by rw [List.length_map]; unfold Fits; omega) ?_
  rw [show h.edges.map edgeAV ++ [AV.tup [AV.int (a : Int), AV.int (b : Int), r]] = (h.edges ++ [(a, b, r)]).map edgeAV by simp [edgeAV]]
  replace hA := hA.upd (c' := .list ((h.edges ++ [(a, b, r)]).map edgeAV)) (.tail (.tail .head))
  generalize σ.set h.le _ = σ1 at hA ⊢
  have hA1 : At σ1 (HS.cells N { h with edges := h.edges ++ [(a, b, r)] }) := hA
  repeat walk_at "mgo"
  refine does_uMerge H (by omega) (by unfold Fits at *; omega) hk.u hau hbu σ1 (@HS.atU N { h with edges := h.edges ++ [(a, b, r)] } _ hA1) _ _ fun v l' σ2 hp hU o => ?_
  clear hA
  unfold mergeP at hp
  by_cases hr : root h.u.par a = root h.u.par b
  · rw [if_pos hr] at hp
    obtain ⟨rfl, rfl⟩ := hp
    have hA2 := HS.midU hA1 hU o
    repeat walk_at "mgo"
    refine is_none rfl ?_
    repeat walk_at "mgo"
    refine ⟨_, ⟨?_, { h with edges := h.edges ++ [(a, b, r)] }, rfl, ?_, hk.b, hk.u, rfl⟩, hA2⟩
    · rw [decide_eq_false (fun q => q hr)]
    · unfold MS.join
      rw [if_pos (show h.ms.find a = h.ms.find b from hr)]; rfl
  · rw [if_neg hr] at hp
    have pr := pair_of hk.u.down hau hbu hr
    have hjj : h.ms.join a b r = h.ms.joinK a b r (min (root h.u.par a) (root h.u.par b)) (max (root h.u.par a) (root h.u.par b)) := by
      unfold MS.join
      rw [if_neg (show ¬ h.ms.find a = h.ms.find b from hr)]; rfl
    rw [hjj]
    have hdec : decide (h.ms.find a ≠ h.ms.find b) = true := decide_eq_true hr
    rw [hdec]
    clear hjj hdec
    generalize min (root h.u.par a) (root h.u.par b) = k at *
    generalize max (root h.u.par a) (root h.u.par b) = g at *
    obtain ⟨rfl, rfl⟩ := hp
    have hA2 := HS.midU hA1 hU o
    clear hA1 hU o
    obtain ⟨lk, ek0, uk, nk, _⟩ := hk.m.user pr.kmem
    obtain ⟨lg, eg0, ug, ng, _⟩ := hk.m.user pr.gmem
    rw [show h.ms.users = h.users.map fun p => (p.1, p.2.2) from rfl, users_look] at ek0 eg0
    obtain ⟨⟨ak, uk'⟩, ek, hlk⟩ := Option.map_eq_some_iff.mp ek0
    obtain ⟨⟨ag, ug'⟩, eg, hlg⟩ := Option.map_eq_some_iff.mp eg0
    simp only at hlk hlg
    subst hlk hlg
    have hsz : h.ms.size = h.b.nodes.length := rfl
    have hA := hA2
    simp only [HS.own, BS.cells, US.cells, List.cons_append, List.nil_append] at hA
    repeat walk_at "mgo"
    refine is_none rfl ?_
    repeat walk_at "mgo"
    refine unpack_tup rfl ?_
    repeat walk_at "mgo"
    refine call_len_list (by walk_at "mat") (by rw [List.length_map, List.length_append]; unfold Fits; simp; omega) ?_
    repeat walk_at "mgo"
    rw [show (((h.edges ++ [(a, b, r)]).map edgeAV).length : Int) - 1 = ((h.edges.length : Nat) : Int) by simp]
    refine call_append_natL (by walk_at "mat") (by unfold Fits; omega) ?_
    replace hA := hA.upd (c' := .list (natL (h.forest ++ [h.edges.length]))) (.tail (.tail (.tail .head)))
    generalize σ2.set h.lf _ = σ3 at hA ⊢
    repeat walk_at "mgo"
    refine sub_dictI (by walk_at "mat") (by rw [userTab_look, eg]; rfl) ?_
    have hg1 : σ3 ag = some (.list (natL ug')) := hA.get (by
      repeat (apply List.mem_cons_of_mem)
      exact List.mem_append_right _ (user_cell eg))
    repeat walk_at "mgo"
    refine call_extend_natL (by walk_at "mat") hg1 (by unfold Fits; omega) ?_
    replace hA := hA.upd (c' := .list (natL (h.waiting ++ ug'))) (.tail (.tail (.tail (.tail (.tail (.tail .head))))))
    generalize σ3.set h.lw _ = σ4 at hA ⊢
    repeat walk_at "mgo"
    refine sub_dictI (by walk_at "mat") (by rw [userTab_look, ek]; rfl) ?_
    repeat walk_at "mgo"
    refine look_popI (by walk_at "mat") ?_
    repeat walk_at "mgo"
    have hul : h.users.length ≤ 200 := by
      have h5 := hk.m.keys.length_eq
      have h6 := hk.m.lgr
      have h7 := hk.m.len
      rw [List.length_map, show h.ms.users = h.users.map fun p => (p.1, p.2.2) from rfl, List.length_map] at h5
      omega
    refine call_popI (by walk_at "mat") (by rw [userTab_len]; unfold Fits; omega) (by rw [userTab_look, eg]; rfl) ?_
    rw [userTab_del]
    replace hA := hA.upd (c' := .dictI (userTab (ddel h.users g))) (.tail (.tail (.tail (.tail (.tail .head)))))
    generalize σ4.set h.la _ = σ5 at hA ⊢
    have hk1 : σ5 ak = some (.list (natL uk')) := hA.get (by
      repeat (apply List.mem_cons_of_mem)
      exact List.mem_append_right _ (user_cell ek))
    have hg2 : σ5 ag = some (.list (natL ug')) := hA.get (by
      repeat (apply List.mem_cons_of_mem)
      exact List.mem_append_right _ (user_cell eg))
    refine bin_add_list hk1 hg2 (by rw [natL_len, natL_len]; unfold Fits; omega) fun m hm => ?_
    rw [← natL_append]
    replace hA := hA.new (c := .list (natL (uk' ++ ug'))) hm
    generalize σ5.set m _ = σ6 at hA ⊢
    repeat walk_at "mgo"
    have hdl := len_del (l := h.users) (g := g)
    refine set_dictI (by walk_at "mat") (by rw [userTab_len]; unfold Fits; omega) ?_
    have hkd : dlook (ddel h.users g) k = some (ak, uk') := by rw [look_del (by have := pr.lt; omega)]; exact ek
    rw [show dput (userTab (ddel h.users g)) (k : Int) (AV.ref m) = userTab (dput (ddel h.users g) k (m, uk' ++ ug')) from userTab_put _ k (m, uk' ++ ug')]
    replace hA := hA.upd (c' := .dictI (userTab (dput (ddel h.users g) k (m, uk' ++ ug')))) (.tail (.tail (.tail (.tail (.tail (.tail .head))))))
    generalize σ6.set h.la _ = σ7 at hA ⊢
    repeat walk_at "mgo"
    have hA7 : At σ7 ((m, .list (natL (uk' ++ ug'))) :: ((h.joinK a b r k g m uk' ug').own N ++ (h.b.cells N ++ ((h.u.joined k g).cells N ++ h.users.map userCell)))) := hA
    have pp : ((m, Cell.list (natL (uk' ++ ug'))) :: h.users.map userCell).Perm ([userCell (k, ak, uk'), userCell (g, ag, ug')] ++ (dput (ddel h.users g) k (m, uk' ++ ug')).map userCell) := by
      have p1 := perm_del (f := userCell) eg
      have p2 := perm_put (f := userCell) (y := (m, uk' ++ ug')) hkd
      refine (p1.cons _).trans ((List.Perm.swap _ _ _).trans ?_)
      refine ((p2.cons _)).trans ?_
      exact .swap _ _ _
    have hA8 := hA7.last pp
    have pl := UOK.joined hk.u pr.gl pr.lt pr.rg pr.rk
    exact ⟨_, ⟨rfl, h.joinK a b r k g m uk' ug', rfl, HS.joinK_ms ek eg, hk.b, pl, rfl⟩, hA8⟩
end

-- Cx55
set_option Elab.async false
set_option linter.unusedVariables false
set_option linter.unusedSimpArgs false
set_option maxRecDepth 20000

theorem knownTab_look [DecidableEq (List AV)] (l : List (Node × Nat)) (n : Node) : dlook (knownTab l) (nodeKey n) = (dlook l n).map fun i => AV.int (i : Nat) := by
  unfold knownTab
  exact dlook_map (f := nodeKey) (g := fun i : Nat => AV.int (i : Nat)) nodeKey_inj _ _
theorem knownTab_snoc [DecidableEq (List AV)] {l : List (Node × Nat)} {n : Node} {i : Nat} (h : dlook l n = none) : dput (knownTab l) (nodeKey n) (.int (i : Nat)) = knownTab (l ++ [(n, i)]) := by
  rw [dput_new (by rw [knownTab_look, h]; rfl)]
  simp [knownTab]
theorem knownTab_len (l : List (Node × Nat)) : (knownTab l).length = l.length := by simp [knownTab]

section
variable {c : Cx} {d : Nat} {σ : AHeap} {Q : AV → AHeap → Prop} {X : Addr → AHeap → Prop} {N : Nms} {T : Nat}
theorem HeapP.cells {h : HS} {s : MS} {r v : AV} {l' : Cells} (p : HeapP N h s r v l') : ∃ h' : HS, v = r ∧ h'.self = h.self ∧ h'.ms = s ∧ BOK h'.b ∧ UOK h'.u ∧ l' = h'.cells N := let ⟨a, h', b⟩ := p; ⟨h', a, b⟩
open Classical in
set_option maxHeartbeats 2000000 in
theorem does_hLook {h : HS} {n : Nat} (H : Has c N) (h1 : 4 ≤ d) (hk : HOK T h) (hn : n < h.ms.size) :
    Does c d callL [.raw (.ref N.h_look_at), .ref h.self, .int (n : Int)] (h.cells N) (HeapP N h (h.ms.look n) .none) := by
  refine does_of fun σ hA => ?_
  have G := H.gs
  obtain ⟨f1, f2, f3, f4, f5, f6, f7, f8, f9⟩ := hk.fits
  refine call_at H.d_H_look_at (by omega) rfl ?_
  have hA0 := Hid.mk hA
  unfold body_h_look_at
  simp only [HS.cells, HS.own, BS.cells, US.cells, List.cons_append, List.nil_append] at hA
  repeat walk_at "mgo"
  refine look_setdefaultT (by walk_at "mat") ?_
  repeat walk_at "mgo"
  refine call_hNode H (by omega) hA0.is hk hn ?_
  repeat walk_at "mgo"
  refine call_setdefaultT (by walk_at "mat") (keyed_node _) (deeps_node _) (by rw [knownTab_len]; unfold Fits; omega) ?_ ?_
  · intro y hy
    rw [knownTab_look] at hy
    obtain ⟨o, ho, rfl⟩ := Option.map_eq_some_iff.mp hy
    have hol := hk.m.knownlt _ (look_mem ho)
    repeat walk_at "mgo"
    refine call_hFind H (by omega) hA0.is hk hol ?_
    repeat walk_at "mgo"
    refine call_hFind H (by omega) hA0.is hk hn ?_
    repeat walk_at "mgo"
    have hlook : h.ms.look n = if h.ms.find o = h.ms.find n then h.ms else h.ms.join o n MS.like := by
      unfold MS.look
      rw [show dlook h.ms.known (h.ms.canon n) = some o from ho]
    by_cases e : h.ms.find o = h.ms.find n
    · rw [if_neg (by simp [e])]
      repeat walk_at "mgo"
      rw [if_pos e] at hlook
      exact ⟨_, ⟨rfl, h, rfl, hlook.symm, hk.b, hk.u, rfl⟩, hA0.is⟩
    · rw [if_pos (by simpa using fun q => e (by omega))]
      repeat walk_at "mgo"
      rw [if_neg e] at hlook
      refine does_hJoin (r := MS.like) H (by omega) hk hol hn σ hA0.is _ _ fun v l' σ' hp hA' o' => ?_
      repeat walk_at "mgo"
      obtain ⟨_, h', e1, e2, e3, e4, rfl⟩ := hp
      exact ⟨_, ⟨rfl, h', e1, e2.trans hlook.symm, e3, e4, rfl⟩, hA'⟩
  · intro hy
    rw [knownTab_look] at hy
    have ho : dlook h.known (h.ms.canon n) = none := by
      cases q : dlook h.known (h.ms.canon n) with
      | none => rfl
      | some x => rw [q] at hy; cases hy
    rw [knownTab_snoc ho]
    replace hA := hA.upd (c' := .dictT (knownTab (h.known ++ [(h.ms.canon n, n)]))) (.tail (.tail (.tail (.tail .head))))
    clear hA0
    generalize σ.set h.lk _ = σ1 at hA ⊢
    have hA1 : Hid (At σ1 (HS.cells N { h with known := h.known ++ [(h.ms.canon n, n)] })) := ⟨hA⟩
    have hlook : h.ms.look n = { h.ms with known := h.ms.known ++ [(h.ms.canon n, n)] } := by
      unfold MS.look
      rw [show dlook h.ms.known (h.ms.canon n) = none from ho]
    have hf : ∀ {Q : AV → AHeap → Prop} {X}, Q (.int (h.ms.find n : Nat)) σ1 → CallOK c (d - 1) (.raw (.ref N.h_find)) [.ref h.self, .int n] σ1 Q X := by
      intro Q X hq
      obtain ⟨e, he⟩ : ∃ e, d - 1 = e + 1 := ⟨d - 2, by omega⟩
      refine call_at H.d_H_find (by omega) rfl ?_
      unfold body_h_find
      obtain ⟨e, he⟩ : ∃ e, d - 1 - 1 = e + 1 := ⟨d - 3, by omega⟩
      rw [he]
      repeat walk_at "mgo"
      exact call_uFind H (@HS.atU N { h with known := h.known ++ [(h.ms.canon n, n)] } _ hA1.is) hk.u.down (show n < h.u.par.length by rw [f3]; exact hn) (show Fits h.u.par.length by unfold Fits at *; omega) hq
    repeat walk_at "mgo"
    refine hf ?_
    repeat walk_at "mgo"
    refine hf ?_
    repeat walk_at "mgo"
    rw [if_neg (by simp)]
    repeat walk_at "mgo"
    exact ⟨_, ⟨rfl, { h with known := h.known ++ [(h.ms.canon n, n)] }, rfl, hlook.symm, hk.b, hk.u, rfl⟩, hA1.is⟩
theorem does_hMerge {h : HS} {a b : Nat} {r : AV} (H : Has c N) (h1 : 4 ≤ d) (hk : HOK T h) (ha : a < h.ms.size) (hb : b < h.ms.size) :
    Does c d callL [.raw (.ref N.h_merge), .ref h.self, .int (a : Int), .int (b : Int), r] (h.cells N) (HeapP N h (h.ms.join a b r) (.bool (decide (h.ms.find a ≠ h.ms.find b)))) := by
  refine does_of fun σ hA => ?_
  refine call_at H.d_H_merge (by omega) rfl ?_
  have hA0 := Hid.mk hA
  unfold body_h_merge
  simp only [HS.cells, HS.own, BS.cells, US.cells, List.cons_append, List.nil_append] at hA
  repeat walk_at "mgo"
  refine does_hJoin (r := r) H (by omega) hk ha hb σ hA0.is _ _ fun v l' σ' hp hA' o' => ?_
  exact ⟨_, hp, hA'⟩
theorem does_hSettle {h : HS} (H : Has c N) (h1 : 5 ≤ d) (hk : HOK T h) :
    Does c d callL [.raw (.ref N.h_settle), .ref h.self] (h.cells N) (HeapP N h h.ms.settle .none) := by
  refine does_of fun σ hA => ?_
  have G := H.gs
  refine call_at H.d_H_settle (by omega) rfl ?_
  unfold body_h_settle
  repeat walk_at "mgo"
  refine w_loop (fun n m σ' => ∃ h' : HS, h'.self = h.self ∧ HOK T h' ∧ At σ' (h'.cells N) ∧ h'.ms.settle = h.ms.settle ∧ n = h'.ms.left ∧ m = [("self", .ref h.self)]) _ ⟨h, rfl, hk, hA, rfl, rfl, rfl⟩ ?_
  rintro n m σ' ⟨h', e1, hk', hA', e2, rfl, rfl⟩
  rw [← e1]
  obtain ⟨f1, f2, f3, f4, f5, f6, f7, f8, f9⟩ := hk'.fits
  have hA := hA'
  replace hA' := Hid.mk hA'
  simp only [HS.cells, HS.own, BS.cells, US.cells, List.cons_append, List.nil_append] at hA
  repeat walk_at "mgo"
  cases hw : h'.ms.waiting.getLast? with
  | none =>
    have e : h'.waiting = [] := List.getLast?_eq_none_iff.mp hw
    rw [if_neg (by simp [e])]
    repeat walk_at "mgo"
    rw [MS.settle_end e] at e2
    exact ⟨_, ⟨rfl, h', e1, e2, hk'.b, hk'.u, rfl⟩, hA'.is⟩
  | some x =>
    obtain ⟨g1, g2, g3, g4⟩ := hk'.m.pop hw
    have hsp : h'.waiting = h'.waiting.dropLast ++ [x] := g4
    have hpos : 0 < h'.waiting.length := by rw [hsp]; simp
    rw [if_pos (by simpa using hpos)]
    repeat walk_at "mgo"
    refine call_pop (xs := natL h'.waiting.dropLast) (x := .int (x : Nat)) (by rw [← natL_snoc, ← hsp]; walk_at "mat") (by rw [natL_len, List.length_dropLast]; unfold Fits; omega) ?_
    have hA1 : At (σ'.set h'.lw (.list (natL h'.waiting.dropLast))) (HS.cells N { h' with waiting := h'.waiting.dropLast }) := hA.upd (.tail (.tail (.tail (.tail (.tail (.tail .head))))))
    clear hA
    generalize σ'.set h'.lw _ = σ1 at hA1 ⊢
    have hk1 : HOK T { h' with waiting := h'.waiting.dropLast } := ⟨hk'.b, hk'.u, g1⟩
    repeat walk_at "mgo"
    refine does_hLook (h := { h' with waiting := h'.waiting.dropLast }) H (by omega) hk1 g2 σ1 hA1 _ _ fun v l' σ2 hp hA2 o => ?_
    repeat walk_at "mgo"
    obtain ⟨_, h2, k1, k2, k3, k4, rfl⟩ := hp
    have k2' : h2.ms = h'.ms.pop.look x := k2
    refine ⟨h2.ms.left, by rw [k2']; exact MS.left_pop hk'.m hw, h2, k1, ⟨k3, k4, by rw [k2']; exact g1.look g2 g3⟩, hA2, ?_, rfl, ?_⟩
    · rw [k2', ← MS.settle_step hk'.m hw]; exact e2
    · rfl
end

-- Cx56
set_option Elab.async false
set_option linter.unusedVariables false
set_option linter.unusedSimpArgs false
set_option maxRecDepth 20000

/-- n is noted at the keys in cs -/
def noteAt (cs : List Nat) (n : Nat) (l : List (Nat × Addr × List Nat)) : List (Nat × Addr × List Nat) := l.map fun (p : Nat × Addr × List Nat) => if p.1 ∈ cs then (p.1, p.2.1, p.2.2 ++ [n]) else p
theorem note_one {n k : Nat} : ∀ {l : List (Nat × Addr × List Nat)} {x : Addr × List Nat}, (l.map (·.1)).Nodup → dlook l k = some x → Upd x.1 (.list (natL (x.2 ++ [n]))) (l.map userCell) ((noteAt [k] n l).map userCell)
  | [], _, _, h => by cases h
  | (j, v) :: l, x, hn, h => by
    simp only [List.map_cons, List.nodup_cons] at hn
    unfold dlook at h
    unfold noteAt
    by_cases e : j = k
    · rw [if_pos e] at h
      cases h; subst e
      simp only [List.map_cons, List.mem_singleton, if_true]
      have e2 : (l.map fun (p : Nat × Addr × List Nat) => if p.1 = j then (p.1, p.2.1, p.2.2 ++ [n]) else p) = l := by
        refine (List.map_congr_left fun p hp => ?_).trans (List.map_id _)
        rw [if_neg (fun e : p.1 = j => hn.1 (List.mem_map.mpr ⟨p, hp, e⟩))]; rfl
      rw [e2]
      exact .head
    · rw [if_neg e] at h
      simp only [List.map_cons, List.mem_singleton, if_neg e]
      have := note_one (n := n) hn.2 h
      unfold noteAt at this
      simp only [List.mem_singleton] at this
      exact .tail this
theorem note_note (cs : List Nat) (k n : Nat) (hk : k ∉ cs) (l : List (Nat × Addr × List Nat)) : noteAt [k] n (noteAt cs n l) = noteAt (cs ++ [k]) n l := by
  unfold noteAt
  rw [List.map_map]
  refine List.map_congr_left fun p hp => ?_
  simp only [Function.comp, List.mem_singleton, List.mem_append]
  by_cases h1 : p.1 ∈ cs
  · have : p.1 ≠ k := fun e => hk (e ▸ h1)
    simp [h1, this]
  · by_cases h2 : p.1 = k
    · simp [h1, h2, hk]
    · simp [h1, h2]
theorem note_keys (cs : List Nat) (n : Nat) (l : List (Nat × Addr × List Nat)) : (noteAt cs n l).map (·.1) = l.map (·.1) := by
  unfold noteAt
  rw [List.map_map]
  refine List.map_congr_left fun p hp => ?_
  simp only [Function.comp]
  split <;> rfl
theorem note_tab (cs : List Nat) (n : Nat) (l : List (Nat × Addr × List Nat)) : userTab (noteAt cs n l) = userTab l := by
  unfold noteAt userTab
  rw [List.map_map]
  refine List.map_congr_left fun p hp => ?_
  simp only [Function.comp]
  split <;> rfl
theorem note_nil (n : Nat) (l : List (Nat × Addr × List Nat)) : noteAt [] n l = l := by
  unfold noteAt
  exact (List.map_congr_left fun p hp => by simp).trans (List.map_id _)
theorem note_mem {cs cs' : List Nat} {n : Nat} (h : ∀ k, k ∈ cs ↔ k ∈ cs') (l : List (Nat × Addr × List Nat)) : noteAt cs n l = noteAt cs' n l := by
  unfold noteAt
  refine List.map_congr_left fun p hp => ?_
  simp only [h]

section
variable {c : Cx} {d : Nat} {σ : AHeap} {Q : AV → AHeap → Prop} {X : Addr → AHeap → Prop} {N : Nms} {T : Nat}
theorem call_hFind0 {h : HS} {n : Nat} (H : Has c N) (h1 : 2 ≤ d) (hA : At σ (h.cells N)) (hd : Down h.u.par) (hz : Fits h.u.par.length) (hn : n < h.u.par.length) (hq : Q (.int (root h.u.par n : Nat)) σ) : CallOK c d (.raw (.ref N.h_find)) [.ref h.self, .int n] σ Q X := by
  have G := H.gs
  have hA0 := Hid.mk hA
  refine call_at H.d_H_find (by omega) rfl ?_
  simp only [HS.cells, HS.own, BS.cells, US.cells, List.cons_append, List.nil_append] at hA
  unfold body_h_find
  obtain ⟨e, he⟩ : ∃ e, d - 1 = e + 1 := ⟨d - 2, by omega⟩
  rw [he]
  repeat walk_at "mgo"
  exact call_uFind H (HS.atU hA0.is) hd hn hz hq

/-- the numbers that are handed over: a tuple, or a list that stands -/
theorem does_hAdd {h : HS} {op : String} {ks : List Nat} (H : Has c N) (h1 : 6 ≤ d) (hk : HOK T h) (hop : NiceOp op) (hks : ∀ k ∈ ks, k < h.ms.size) (h2 : ks.length ≤ 2) (hs : h.ms.size + 1 ≤ 200) :
    Does c d callL [.raw (.ref N.h_add), .ref h.self, .str op, .tup (natL ks)] (h.cells N) (HeapP N h (h.ms.add (op, ks)) (.int (h.ms.numberOf (op, ks) : Nat))) := by
  refine does_of fun σ hA => ?_
  have G := H.gs
  obtain ⟨f1, f2, f3, f4, f5, f6, f7, f8, f9⟩ := hk.fits
  have hsz : h.ms.size = h.b.nodes.length := rfl
  refine call_at H.d_H_add (by omega) rfl ?_
  have hA0 := Hid.mk hA
  unfold body_h_add
  simp only [HS.cells, HS.own, BS.cells, US.cells, List.cons_append, List.nil_append] at hA
  repeat walk_at "mgo"
  refine does_bTake H (by omega) f2 hk.b hop (by rw [← hsz]; exact hks) (by omega) σ (HS.atB hA0.is) _ _ fun v l' σ1 hp hB o => ?_
  clear hA
  unfold takeP at hp
  cases hno : numOf h.b.nodes (op, ks) with
  | some i =>
    rw [hno] at hp
    obtain ⟨rfl, rfl⟩ := hp
    have hA1 := Hid.mk (HS.midB hA0.is hB o)
    clear hA0 hB o
    have hA := hA1.is
    simp only [HS.own, BS.cells, US.cells, List.cons_append, List.nil_append] at hA
    have hi := (List.getElem?_eq_some_iff.mp (numOf_some hno)).1
    repeat walk_at "mgo"
    refine call_uSize H (by omega) (@HS.atU N h _ hA1.is) (by unfold Fits at *; omega) ?_
    repeat walk_at "mgo"
    rw [if_pos (by rw [f3]; simpa using hi)]
    repeat walk_at "mgo"
    refine ⟨_, ⟨?_, h, rfl, ?_, hk.b, hk.u, rfl⟩, hA1.is⟩
    · unfold MS.numberOf
      rw [show numOf h.ms.nodes (op, ks) = some i from hno]; rfl
    · unfold MS.add
      rw [show numOf h.ms.nodes (op, ks) = some i from hno]
  | none =>
    rw [hno] at hp
    obtain ⟨wt, dp, rfl, rfl⟩ := hp
    have hA1 := Hid.mk (HS.midB hA0.is hB o)
    clear hA0 hB o
    have hA := hA1.is
    simp only [HS.own, BS.cells, US.cells, List.cons_append, List.nil_append] at hA
    repeat walk_at "mgo"
    refine call_uSize H (by omega) (@HS.atU N { h with b := h.b.took (op, ks) wt dp } _ hA1.is) (by unfold Fits at *; omega) ?_
    repeat walk_at "mgo"
    rw [if_neg (by rw [f3]; simp)]
    repeat walk_at "mgo"
    refine does_uMake H (by omega) f1 hk.u σ1 (@HS.atU N { h with b := h.b.took (op, ks) wt dp } _ hA1.is) _ _ fun v l' σ2 hp hU o => ?_
    obtain ⟨al, rfl, rfl⟩ := hp
    have hA2 := @HS.midU N { h with b := h.b.took (op, ks) wt dp } _ _ _ hA1.is hU o
    clear hA1 hU o hA
    have hA := hA2
    replace hA2 := Hid.mk hA2
    simp only [HS.own, BS.cells, US.cells, List.cons_append, List.nil_append] at hA
    repeat walk_at "mgo"
    intro m hm
    replace hA := hA.new (c := .list (natL [])) hm
    rw [show Cell.list ([] : List AV) = Cell.list (natL []) from rfl]
    generalize σ2.set m _ = σ3 at hA ⊢
    repeat walk_at "mgo"
    have hul : h.users.length ≤ 200 := by
      have h5 := hk.m.keys.length_eq
      have h6 := hk.m.lgr
      have h7 := hk.m.len
      rw [List.length_map, show h.ms.users = h.users.map fun p => (p.1, p.2.2) from rfl, List.length_map] at h5
      omega
    have hnew : dlook h.users h.b.nodes.length = none := by
      refine dlook_none.mpr fun hin => ?_
      have h5 : h.b.nodes.length ∈ h.ms.users.map (·.1) := by
        show _ ∈ (h.users.map fun p => (p.1, p.2.2)).map (·.1)
        rw [List.map_map]; exact hin
      have h6 := List.mem_range.mp (List.mem_filter.mp (hk.m.keys.mem_iff.mp h5)).1
      have h7 := hk.m.len
      omega
    refine set_dictI (by walk_at "mat") (by rw [userTab_len]; unfold Fits; omega) ?_
    rw [show dput (userTab h.users) ((h.b.nodes.length : Nat) : Int) (AV.ref m) = userTab (h.users ++ [(h.b.nodes.length, m, [])]) by
      rw [show dput (userTab h.users) ((h.b.nodes.length : Nat) : Int) (AV.ref m) = userTab (dput h.users h.b.nodes.length (m, [])) from userTab_put _ _ (m, []), dput_new hnew]]
    replace hA := hA.upd (c' := .dictI (userTab (h.users ++ [(h.b.nodes.length, m, [])]))) (.tail (.tail (.tail (.tail (.tail (.tail .head))))))
    generalize σ3.set h.la _ = σ4 at hA ⊢
    clear hA2
    have hA4 : Hid (At σ4 (HS.cells N { h with b := h.b.took (op, ks) wt dp, u := h.u.made al, users := h.users ++ [(h.b.nodes.length, m, [])] })) := by
      refine ⟨At.last (P := HS.own N { h with b := h.b.took (op, ks) wt dp, u := h.u.made al, users := h.users ++ [(h.b.nodes.length, m, [])] }) (B := (h.b.took (op, ks) wt dp).cells N) (U := (h.u.made al).cells N) (um := h.users.map userCell) (rest := []) hA ?_⟩
      rw [List.nil_append, List.map_append, List.map_cons, List.map_nil]
      exact (List.perm_append_singleton _ _).symm
    replace hA := hA4.is
    simp only [HS.cells, HS.own, BS.cells, US.cells, List.cons_append, List.nil_append] at hA
    have hdn : Down (h.u.made al).par := down_snoc hk.u.down
    have hln : (h.u.made al).par.length = h.u.par.length + 1 := by simp [US.made]
    have hfind : ∀ kid ∈ ks, root (h.u.made al).par kid = h.ms.find kid := fun kid hkid => root_snoc hk.u.down kid (by rw [f3]; exact hks kid hkid)
    repeat walk_at "mgo"
    refine iter_tup ?_
    refine ⟨small_len (by rw [natL_len]; omega), ?_⟩
    refine compLoop_of (fun i acc σ' => σ' = σ4 ∧ acc = natL ((ks.take i).map h.ms.find)) ⟨rfl, rfl⟩ (fun _ _ _ _ => trivial) ?_ ?_
    · rintro i x acc σ' k hx ⟨rfl, rfl⟩ hk'
      obtain ⟨kid, hkid, rfl⟩ := natL_at hx
      have hkl := hks kid (List.mem_of_getElem? hkid)
      repeat walk_at "mgo"
      refine call_hFind0 (h := { h with b := h.b.took (op, ks) wt dp, u := h.u.made al, users := h.users ++ [(h.b.nodes.length, m, [])] }) H (by omega) hA4.is hdn (by show Fits (h.u.made al).par.length; rw [hln]; exact f1) (by show kid < (h.u.made al).par.length; rw [hln]; omega) ?_
      refine hk' _ _ ⟨rfl, ?_⟩
      rw [List.take_add_one, hkid, List.map_append]
      show _ = natL (_ ++ [h.ms.find kid])
      rw [natL_snoc, ← hfind kid (List.mem_of_getElem? hkid)]
    · rintro acc σ' ⟨rfl, rfl⟩ m1 hm1
      rw [natL_len, List.take_length, natL_int (ks.map h.ms.find)]
      replace hA := hA.new (c := .list (intL ((ks.map h.ms.find).map fun (n : Nat) => (n : Int)))) hm1
      generalize hσ5 : σ'.set m1 _ = σ5 at hA ⊢
      repeat walk_at "mgo"
      refine call_set_list (by walk_at "mat") (by simp; omega) fun m2 ms hms hm2 => ?_
      replace hA := hA.new (c := .setI ms) hm2
      generalize hσ6 : σ5.set m2 _ = σ6 at hA ⊢
      repeat walk_at "mgo"
      have hmsl : ms.length ≤ 2 := by
        rw [hms.length_eq]
        have := gather_len ((ks.map h.ms.find).map fun (n : Nat) => (n : Int)) []
        simp only [List.length_map, List.length_nil] at this; omega
      refine call_sorted_set (by walk_at "mat") (by omega) fun m3 cs hcs hsort hm3 => ?_
      replace hA := hA.new (c := .list (intL cs)) hm3
      generalize hσ7 : σ6.set m3 _ = σ7 at hA ⊢
      clear hσ5 hσ6 hσ7
      have hall : ∀ x, x ∈ cs ↔ x ∈ (ks.map h.ms.find).map fun (n : Nat) => (n : Int) := fun x => by
        rw [hcs.mem_iff, hms.mem_iff, mem_gather]
        exact ⟨fun y => y.elim (fun z => by cases z) id, .inr⟩
      have hcn : cs.Nodup := hcs.nodup_iff.mpr (hms.nodup_iff.mpr (gather_nodup .nil))
      obtain ⟨cn, rfl⟩ : ∃ cn : List Nat, cs = cn.map fun (n : Nat) => (n : Int) := by
        refine ⟨cs.map Int.toNat, ?_⟩
        rw [List.map_map]
        refine (List.map_id _).symm.trans (List.map_congr_left fun x hx => ?_)
        obtain ⟨y, _, rfl⟩ := List.mem_map.mp ((hall x).mp hx)
        rfl
      have hcm : ∀ k, k ∈ cn ↔ k ∈ ks.map h.ms.find := fun k => by
        have := hall (k : Int)
        rw [List.mem_map, List.mem_map] at this
        constructor
        · intro hk
          obtain ⟨y, hy, e⟩ := this.mp ⟨k, hk, rfl⟩
          have : y = k := by omega
          exact this ▸ hy
        · intro hk
          obtain ⟨y, hy, e⟩ := this.mpr ⟨k, hk, rfl⟩
          have : y = k := by omega
          exact this ▸ hy
      have hcnd : cn.Nodup := by
        refine List.Pairwise.imp_of_mem (fun {a b} _ _ (q : (a : Int) ≠ b) e => q (by rw [e])) (List.pairwise_map.mp hcn)
      rw [← natL_int] at hA
      have hclen : cn.length ≤ 2 := by
        have h8 := hcs.length_eq
        rw [List.length_map] at h8; omega
      generalize hu0 : h.users ++ [(h.b.nodes.length, m, ([] : List Nat))] = us0 at *
      have hkeys0 : us0.map (·.1) = h.users.map (·.1) ++ [h.b.nodes.length] := by rw [← hu0]; simp
      have hkperm : (h.users.map (·.1)).Perm (rootsOf h.u.par) := by
        have h5 := hk.m.keys
        show (h.users.map (·.1)).Perm _
        rw [show h.ms.users.map (·.1) = h.users.map (·.1) by show (h.users.map fun p => (p.1, p.2.2)).map (·.1) = _; rw [List.map_map]; rfl] at h5
        exact h5
      have hndk : (us0.map (·.1)).Nodup := by
        rw [hkeys0]
        refine (hkperm.append_right _).nodup_iff.mpr ?_
        have : (rootsOf h.u.par ++ [h.u.par.length]).Nodup := by
          rw [← roots_snoc hk.u.down]
          exact List.nodup_range.filter _
        rw [← f3]; exact this
      have hlens : ∀ p ∈ us0, p.2.2.length ≤ 400 := by
        intro p hp
        rw [← hu0] at hp
        rcases List.mem_append.mp hp with hp | hp
        · have h5 := hk.m.sum
          have gen : ∀ l : List (Nat × Addr × List Nat), p ∈ l → p.2.2.length ≤ sumLen (l.map fun p => (p.1, p.2.2)) := by
            intro l
            induction l with
            | nil => intro h; cases h
            | cons q l ih =>
              intro hm
              simp only [sumLen, List.map_cons, List.sum_cons] at ih ⊢
              rcases List.mem_cons.mp hm with rfl | hm
              · omega
              · have := ih hm; omega
          have := gen h.users hp
          have h6 : sumLen (h.users.map fun p => (p.1, p.2.2)) ≤ 2 * h.ms.size := h5
          omega
        · obtain rfl := List.mem_singleton.mp hp
          simp
      have hA5 := hA
      clear hA
      refine iter_list (hA5.get List.mem_cons_self) ?_
      refine compLoop_of (fun i m' σ' => At σ' ((m3, .list (natL cn)) :: (m2, .setI ms) :: (m1, .list (intL ((ks.map h.ms.find).map fun (n : Nat) => (n : Int)))) :: HS.cells N { h with b := h.b.took (op, ks) wt dp, u := h.u.made al, users := noteAt (cn.take i) h.b.nodes.length us0 }) ∧ m' = [("self", .ref h.self), ("op", .str op), ("numbers", .tup (natL ks)), ("n", .int (h.b.nodes.length : Nat))]) ⟨by rw [List.take_zero, note_nil]; exact hA5, rfl⟩ (fun i b σ' ⟨hA, _⟩ => hA.get List.mem_cons_self) ?_ ?_
      · rintro i x m' σ' k hx ⟨hA6, rfl⟩ hk'
        obtain ⟨cc, hcc, rfl⟩ := natL_at hx
        have hccm := (hcm cc).mp (List.mem_of_getElem? hcc)
        have hroot : cc ∈ us0.map (·.1) := by
          rw [hkeys0]
          refine List.mem_append_left _ (hkperm.mem_iff.mpr ?_)
          obtain ⟨kid, hkid, rfl⟩ := List.mem_map.mp hccm
          exact root_mem hk.u.down (by rw [f3]; exact hks kid hkid)
        obtain ⟨⟨ax, lx⟩, hax⟩ := mem_look (l := noteAt (cn.take i) h.b.nodes.length us0) (k := cc) (by rw [note_keys]; exact hroot)
        have hlx : lx.length ≤ 401 := by
          have h5 := look_mem hax
          unfold noteAt at h5
          obtain ⟨p, hp, e⟩ := List.mem_map.mp h5
          have h6 := hlens p hp
          split at e
          · obtain ⟨_, _, rfl⟩ : p.1 = cc ∧ p.2.1 = ax ∧ p.2.2 ++ [h.b.nodes.length] = lx := by
              simp only [Prod.mk.injEq] at e; exact e
            simp; omega
          · subst e; simp at h6; omega
        have hA := hA6
        replace hA6 := Hid.mk hA6
        simp only [HS.cells, HS.own, BS.cells, US.cells, List.cons_append, List.nil_append] at hA
        repeat walk_at "mgo"
        refine sub_dictI (by walk_at "mat") (by rw [userTab_look, hax]; rfl) ?_
        have hcell : σ' ax = some (.list (natL lx)) := hA6.is.get (by
          refine List.mem_cons_of_mem _ (List.mem_cons_of_mem _ (List.mem_cons_of_mem _ ?_))
          exact List.mem_append_right _ (List.mem_append_right _ (List.mem_append_right _ (user_cell hax))))
        refine look_append hcell ?_
        repeat walk_at "mgo"
        refine call_append_natL hcell (by unfold Fits; omega) ?_
        have hA7 := hA6.is.upd (.tail (.tail (.tail (.right (.right (.right (note_one (n := h.b.nodes.length) (by rw [note_keys]; exact hndk) hax)))))))
        have hcnot : cc ∉ cn.take i := by
          intro hin
          obtain ⟨j, hj, e⟩ := List.mem_iff_getElem.mp hin
          rw [List.length_take] at hj
          rw [List.getElem_take] at e
          obtain ⟨hi, e2⟩ := List.getElem?_eq_some_iff.mp hcc
          exact (List.pairwise_iff_getElem.mp hcnd j i (by omega) hi (by omega)) (e.trans e2.symm)
        rw [note_note _ _ _ hcnot, show cn.take i ++ [cc] = cn.take (i + 1) by rw [List.take_add_one, hcc]; rfl] at hA7
        repeat walk_at "mgo"
        refine hk' _ _ ⟨?_, rfl⟩
        have e9 : userTab (noteAt (cn.take i) h.b.nodes.length us0) = userTab (noteAt (cn.take (i + 1)) h.b.nodes.length us0) := by rw [note_tab, note_tab]
        simp only [HS.cells, HS.own] at hA7 ⊢
        rw [← e9]
        exact hA7
      · rintro m' σ' ⟨hA6, rfl⟩
        rw [natL_len, List.take_length] at hA6
        replace hA6 := hA6.tail.tail.tail
        have hms3 : HS.ms { h with b := h.b.took (op, ks) wt dp, u := h.u.made al, users := noteAt cn h.b.nodes.length us0 } = h.ms.newNode (op, ks) := by
          unfold HS.ms MS.newNode
          simp only [BS.took, US.made, List.map_append, List.map_cons, List.map_nil]
          congr 1
          rw [← hu0]
          unfold noteAt
          simp only [List.map_append, List.map_cons, List.map_nil, List.map_map]
          have e10 : ∀ p : Nat, (p ∈ cn) = (p ∈ List.map h.ms.find ks) := fun p => propext (hcm p)
          congr 1
          · refine List.map_congr_left fun p hp => ?_
            simp only [Function.comp]
            by_cases q : p.1 ∈ cn
            · rw [if_pos q]
              exact Eq.symm (if_pos ((hcm _).mp q))
            · rw [if_neg q]
              exact Eq.symm (if_neg (fun z => q ((hcm _).mpr z)))
          · have q : h.b.nodes.length ∉ cn := fun z => by
              obtain ⟨kid, hkid, e⟩ := List.mem_map.mp ((hcm _).mp z)
              have h5 := (root_lt hk.u.down kid (by rw [f3]; exact hks kid hkid)).2
              have h6 : root h.u.par kid = h.b.nodes.length := e
              omega
            rw [if_neg q]
            have e11 : ∀ (a b : Nat × List Nat), a = (if h.b.nodes.length ∈ List.map h.ms.find ks then b else a) := fun a b => (if_neg (fun z => q ((hcm _).mpr z))).symm
            exact congrArg (fun x => [x]) (e11 _ _)
        obtain ⟨g1, g2⟩ := hk.m.newNode (n := (op, ks)) hno hks h2 hs
        have hk3 : HOK T { h with b := h.b.took (op, ks) wt dp, u := h.u.made al, users := noteAt cn h.b.nodes.length us0 } := ⟨hk.b.took hno (by rw [← hsz]; exact hks) (by show ks.length ≤ 10; omega) wt dp, hk.u.made al, by rw [hms3]; exact g1⟩
        have hA := hA6
        replace hA6 := Hid.mk hA6
        simp only [HS.cells, HS.own, BS.cells, US.cells, List.cons_append, List.nil_append] at hA
        repeat walk_at "mgo"
        refine does_hLook (h := { h with b := h.b.took (op, ks) wt dp, u := h.u.made al, users := noteAt cn h.b.nodes.length us0 }) H (by omega) hk3 (by rw [hms3]; simp [MS.newNode, MS.size]; exact Nat.lt_succ_self _) σ' hA6.is _ _ fun v l' σ2 hp hA9 o => ?_
        repeat walk_at "mgo"
        obtain ⟨_, h', k1, k2, k3, k4, rfl⟩ := hp
        refine ⟨_, ⟨?_, h', k1, ?_, k3, k4, rfl⟩, hA9⟩
        · unfold MS.numberOf
          rw [show numOf h.ms.nodes (op, ks) = none from hno]; rfl
        · rw [k2, hms3]
          unfold MS.add
          rw [show numOf h.ms.nodes (op, ks) = none from hno]; rfl
end

-- Cx57
set_option Elab.async false
set_option linter.unusedVariables false
set_option linter.unusedSimpArgs false
set_option maxRecDepth 20000

def MS.empty : MS := ⟨[], [], [], [], [], [], [], [], []⟩
theorem MOK.empty : MOK 0 MS.empty := by
  refine { down := fun i hi => absurd hi (Nat.not_lt_zero _), lgr := rfl, len := rfl, two := fun n hn => absurd hn List.not_mem_nil, kids := fun i hi => absurd hi (Nat.not_lt_zero _), nd := .nil, small := by decide, told := by decide, keys := .refl _, sum := by decide, bound := by decide, edges := by decide, forest := rfl, knownlt := fun n hn => absurd hn List.not_mem_nil, waitlt := fun n hn => absurd hn List.not_mem_nil, userlt := fun n hn => absurd hn List.not_mem_nil }
section
variable {c : Cx} {d : Nat} {σ : AHeap} {Q : AV → AHeap → Prop} {X : Addr → AHeap → Prop} {N : Nms} {T : Nat}
theorem does_hNew (H : Has c N) (h1 : 2 ≤ d) : Does c d callL [.raw (.ref N.cH)] [] (fun v l' => ∃ h : HS, v = .ref h.self ∧ h.ms = MS.empty ∧ HOK 0 h ∧ l' = h.cells N) := by
  refine does_of fun σ hA => ?_
  have G := H.gs
  refine make_at H.k_H H.d_H_init (by omega) rfl fun x dx hx hdx hne => ?_
  replace hA := hA.inst (C := N.cH) hx hdx hne
  generalize (σ.set dx _).set x _ = σ1 at hA ⊢
  unfold body_h_init
  repeat walk_at "mgo"
  refine does_bNew H (by omega) σ1 .nil _ _ fun v l' σ2 hp hB o => ?_
  obtain ⟨b, rfl, hb1, hb2, rfl⟩ := hp
  have hAB := At.rest (l := []) hA hB o
  clear hA hB o
  replace hA := At.perm hAB (List.perm_append_comm (l₁ := [(x, Cell.inst N.cH dx), (dx, .ns [])]))
  simp only [List.cons_append, List.nil_append] at hA
  clear hAB
  repeat walk_at "mgo"
  refine w_attr_set (by walk_at "mat") (by walk_at "mat") (by walk_at "mst") (by simp) ?_
  replace hA := hA.upd (c' := .ns [("bank", .ref b.self)]) (.tail .head)
  rw [show Loc.put [] "bank" (AV.ref b.self) = [("bank", AV.ref b.self)] from rfl]
  generalize σ2.set dx _ = σ3 at hA ⊢
  repeat walk_at "mgo"
  refine does_uNew H (by omega) σ3 .nil _ _ fun v l' σ4 hp hU o => ?_
  obtain ⟨u, rfl, hu, rfl⟩ := hp
  have hAU := At.rest (l := []) hA hU o
  clear hA hU o
  replace hA := At.perm hAU (List.perm_append_comm (l₁ := (x, Cell.inst N.cH dx) :: (dx, .ns [("bank", .ref b.self)]) :: b.cells N))
  simp only [List.cons_append, List.nil_append] at hA
  clear hAU
  repeat walk_at "mgo"
  refine w_attr_set (by walk_at "mat") (by walk_at "mat") (by walk_at "mst") (by simp) ?_
  replace hA := hA.upd (c' := .ns [("bank", .ref b.self), ("unions", .ref u.self)]) (.tail .head)
  rw [show Loc.put [("bank", AV.ref b.self)] "unions" (AV.ref u.self) = [("bank", AV.ref b.self), ("unions", .ref u.self)] from rfl]
  generalize σ4.set dx _ = σ5 at hA ⊢
  repeat walk_at "mgo"
  intro le hle
  replace hA := hA.new (c := .list []) hle
  generalize σ5.set le _ = σ6 at hA ⊢
  repeat walk_at "mgo"
  refine w_attr_set (by walk_at "mat") (by walk_at "mat") (by walk_at "mst") (by simp) ?_
  replace hA := hA.upd (c' := .ns [("bank", .ref b.self), ("unions", .ref u.self), ("edges", .ref le)]) (.tail (.tail .head))
  rw [show Loc.put [("bank", AV.ref b.self), ("unions", .ref u.self)] "edges" (AV.ref le) = [("bank", AV.ref b.self), ("unions", .ref u.self), ("edges", .ref le)] from rfl]
  generalize σ6.set dx _ = σ7 at hA ⊢
  repeat walk_at "mgo"
  intro lf hlf
  replace hA := hA.new (c := .list []) hlf
  generalize σ7.set lf _ = σ8 at hA ⊢
  repeat walk_at "mgo"
  refine w_attr_set (by walk_at "mat") (by walk_at "mat") (by walk_at "mst") (by simp) ?_
  replace hA := hA.upd (c' := .ns [("bank", .ref b.self), ("unions", .ref u.self), ("edges", .ref le), ("forest", .ref lf)]) (.tail (.tail (.tail .head)))
  rw [show Loc.put [("bank", AV.ref b.self), ("unions", .ref u.self), ("edges", .ref le)] "forest" (AV.ref lf) = [("bank", AV.ref b.self), ("unions", .ref u.self), ("edges", .ref le), ("forest", .ref lf)] from rfl]
  generalize σ8.set dx _ = σ9 at hA ⊢
  repeat walk_at "mgo"
  refine w_edict (.inr (.inr rfl)) fun lk hlk => ?_
  replace hA := hA.new (c := .dictT []) hlk
  generalize σ9.set lk _ = σ10 at hA ⊢
  repeat walk_at "mgo"
  refine w_attr_set (by walk_at "mat") (by walk_at "mat") (by walk_at "mst") (by simp) ?_
  replace hA := hA.upd (c' := .ns [("bank", .ref b.self), ("unions", .ref u.self), ("edges", .ref le), ("forest", .ref lf), ("known", .ref lk)]) (.tail (.tail (.tail (.tail .head))))
  rw [show Loc.put [("bank", AV.ref b.self), ("unions", .ref u.self), ("edges", .ref le), ("forest", .ref lf)] "known" (AV.ref lk) = [("bank", AV.ref b.self), ("unions", .ref u.self), ("edges", .ref le), ("forest", .ref lf), ("known", .ref lk)] from rfl]
  generalize σ10.set dx _ = σ11 at hA ⊢
  repeat walk_at "mgo"
  refine w_edict (.inl rfl) fun la hla => ?_
  replace hA := hA.new (c := .dictI []) hla
  generalize σ11.set la _ = σ12 at hA ⊢
  repeat walk_at "mgo"
  refine w_attr_set (by walk_at "mat") (by walk_at "mat") (by walk_at "mst") (by simp) ?_
  replace hA := hA.upd (c' := .ns [("bank", .ref b.self), ("unions", .ref u.self), ("edges", .ref le), ("forest", .ref lf), ("known", .ref lk), ("above", .ref la)]) (.tail (.tail (.tail (.tail (.tail .head)))))
  rw [show Loc.put [("bank", AV.ref b.self), ("unions", .ref u.self), ("edges", .ref le), ("forest", .ref lf), ("known", .ref lk)] "above" (AV.ref la) = [("bank", AV.ref b.self), ("unions", .ref u.self), ("edges", .ref le), ("forest", .ref lf), ("known", .ref lk), ("above", .ref la)] from rfl]
  generalize σ12.set dx _ = σ13 at hA ⊢
  repeat walk_at "mgo"
  intro lw hlw
  replace hA := hA.new (c := .list []) hlw
  generalize σ13.set lw _ = σ14 at hA ⊢
  repeat walk_at "mgo"
  refine w_attr_set (by walk_at "mat") (by walk_at "mat") (by walk_at "mst") (by simp) ?_
  replace hA := hA.upd (c' := .ns [("bank", .ref b.self), ("unions", .ref u.self), ("edges", .ref le), ("forest", .ref lf), ("known", .ref lk), ("above", .ref la), ("waiting", .ref lw)]) (.tail (.tail (.tail (.tail (.tail (.tail .head))))))
  rw [show Loc.put [("bank", AV.ref b.self), ("unions", .ref u.self), ("edges", .ref le), ("forest", .ref lf), ("known", .ref lk), ("above", .ref la)] "waiting" (AV.ref lw) = [("bank", AV.ref b.self), ("unions", .ref u.self), ("edges", .ref le), ("forest", .ref lf), ("known", .ref lk), ("above", .ref la), ("waiting", .ref lw)] from rfl]
  generalize σ14.set dx _ = σ15 at hA ⊢
  repeat walk_at "mgo"
  have hms : HS.ms ⟨x, dx, le, lf, lk, la, lw, b, u, [], [], [], [], []⟩ = MS.empty := by
    obtain ⟨u1, u2, u3⟩ := hu
    unfold HS.ms MS.empty
    simp only [hb1, u1, u2, u3, List.map_nil]
  refine ⟨_, ⟨⟨x, dx, le, lf, lk, la, lw, b, u, [], [], [], [], []⟩, rfl, hms, ⟨hb2, hu.ok, by rw [hms]; exact MOK.empty⟩, rfl⟩, hA.perm ?_⟩
  simp only [HS.cells, HS.own, List.cons_append, List.nil_append, List.map_nil, userTab, knownTab, natL, List.append_nil]
  have p1 : ((x, Cell.inst N.cH dx) :: (dx, Cell.ns [("bank", .ref b.self), ("unions", .ref u.self), ("edges", .ref le), ("forest", .ref lf), ("known", .ref lk), ("above", .ref la), ("waiting", .ref lw)]) :: (le, Cell.list []) :: (lf, .list []) :: (lk, .dictT []) :: (la, .dictI []) :: (lw, .list []) :: []).Perm
      ((lw, Cell.list []) :: (la, .dictI []) :: (lk, .dictT []) :: (lf, .list []) :: (le, .list []) :: (x, Cell.inst N.cH dx) :: (dx, Cell.ns [("bank", .ref b.self), ("unions", .ref u.self), ("edges", .ref le), ("forest", .ref lf), ("known", .ref lk), ("above", .ref la), ("waiting", .ref lw)]) :: []) := by
    refine (List.reverse_perm _).symm.trans ?_
    simp only [List.reverse_cons, List.reverse_nil, List.nil_append, List.cons_append]
    refine List.Perm.cons _ (List.Perm.cons _ (List.Perm.cons _ (List.Perm.cons _ (List.Perm.cons _ ?_))))
    exact .swap _ _ _
  exact p1.append_right (b.cells N ++ u.cells N)
end

-- Cx58
set_option Elab.async false
set_option linter.unusedVariables false
def body_E_Heap_put : ISs := (.cons (.ret (.meth (.var "self") "add" (.cons (.sub (.var "term") (.int (0))) (.cons (.call (.glob "tuple") (.cons (.comp (.meth (.var "self") "put" (.cons (.var "part") .nil)) (.name "part") false (.sub (.var "term") (.slc (.int (1)) .none .none)) .nil) .nil)) .nil)))) .nil)
def body_E_Heap_is_settled : ISs := (.cons (.ret (.cmp (.call (.glob "len") (.cons (.attr (.var "self") "waiting") .nil)) .Eq (.int (0)))) .nil)
def body_E_next : ISs := (.cons (.assign (.name "spot") (.sub (.var "src") (.str "spot"))) (.cons (.asSub (.var "src") (.str "spot") (.bin .Add (.var "spot") (.int (1)))) (.cons (.ret (.bin .Mod (.ite (.cmp (.var "spot") .Lt (.call (.glob "len") (.cons (.sub (.var "src") (.str "cells")) .nil))) (.sub (.sub (.var "src") (.str "cells")) (.var "spot")) (.bin .Add (.bin .Add (.bin .Mult (.bin .Mult (.int (5)) (.var "spot")) (.var "spot")) (.bin .Mult (.int (3)) (.var "spot"))) (.int (2)))) (.var "many"))) .nil)))
def body_E_term : ISs := (.cons (.assign (.name "way") (.ite (.cmp (.var "floors") .Gt (.int (0))) (.call (.glob "_law_next") (.cons (.var "src") (.cons (.int (4)) .nil))) (.call (.glob "_law_next") (.cons (.var "src") (.cons (.int (2)) .nil))))) (.cons (.ite (.cmp (.var "way") .Lt (.int (2))) (.cons (.ret (.tup (.cons (.sub (.str "ab") (.var "way")) .nil))) .nil) .nil) (.cons (.assign (.name "first") (.call (.glob "_law_term") (.cons (.var "src") (.cons (.bin .Sub (.var "floors") (.int (1))) .nil)))) (.cons (.ret (.ite (.cmp (.var "way") .Eq (.int (2))) (.tup (.cons (.str "f") (.cons (.var "first") .nil))) (.tup (.cons (.str "g") (.cons (.var "first") (.cons (.call (.glob "_law_term") (.cons (.var "src") (.cons (.bin .Sub (.var "floors") (.int (1))) .nil))) .nil)))))) .nil))))
def body_E_joined : ISs := (.cons (.assign (.tup (.cons (.name "old") (.cons (.name "new") .nil))) (.tup (.cons (.call (.glob "max") (.cons (.sub (.var "lots") (.var "a")) (.cons (.sub (.var "lots") (.var "b")) .nil))) (.cons (.call (.glob "min") (.cons (.sub (.var "lots") (.var "a")) (.cons (.sub (.var "lots") (.var "b")) .nil))) .nil)))) (.cons (.ret (.comp (.ite (.cmp (.var "lot") .Eq (.var "old")) (.var "new") (.var "lot")) (.name "lot") false (.var "lots") .nil)) .nil))
def body_E_is_like : ISs := (.cons (.assign (.tup (.cons (.name "kids") (.cons (.name "others") .nil))) (.tup (.cons (.meth (.attr (.var "one") "bank") "kids" (.cons (.var "a") .nil)) (.cons (.meth (.attr (.var "one") "bank") "kids" (.cons (.var "b") .nil)) .nil)))) (.cons (.ite (.or (.cons (.cmp (.sub (.var "lots") (.var "a")) .Eq (.sub (.var "lots") (.var "b"))) (.cons (.cmp (.meth (.attr (.var "one") "bank") "op" (.cons (.var "a") .nil)) .NotEq (.meth (.attr (.var "one") "bank") "op" (.cons (.var "b") .nil))) (.cons (.cmp (.call (.glob "len") (.cons (.var "kids") .nil)) .NotEq (.call (.glob "len") (.cons (.var "others") .nil))) .nil)))) (.cons (.ret (.bool false)) .nil) .nil) (.cons (.ret (.cmp (.comp (.var "k") (.name "k") false (.call (.glob "range") (.cons (.call (.glob "len") (.cons (.var "kids") .nil)) .nil)) (.cons (.cmp (.sub (.var "lots") (.sub (.var "kids") (.var "k"))) .NotEq (.sub (.var "lots") (.sub (.var "others") (.var "k")))) .nil)) .Eq (.list .nil))) .nil)))
def body_E_led : ISs := (.cons (.assign (.tup (.cons (.name "lots") (.cons (.name "joints") (.cons (.name "told_ones") .nil)))) (.tup (.cons (.call (.glob "list") (.cons (.call (.glob "range") (.cons (.meth (.var "one") "size" .nil) .nil)) .nil)) (.cons (.list .nil) (.cons (.list .nil) .nil))))) (.cons (.each (.tup (.cons (.name "k") (.cons (.tup (.cons (.name "a") (.cons (.name "b") (.cons (.name "why") .nil)))) .nil))) true (.attr (.var "one") "edges") (.cons (.ite (.cmp (.var "why") .NotEq (.tup (.cons (.str "like") .nil))) (.cons (.expr (.meth (.var "told_ones") "append" (.cons (.tup (.cons (.var "a") (.cons (.var "b") (.cons (.var "why") .nil)))) .nil))) .nil) (.cons (.ite (.not (.call (.glob "_law_is_like") (.cons (.var "one") (.cons (.var "lots") (.cons (.var "a") (.cons (.var "b") .nil)))))) (.cons (.ret .none) .nil) .nil) .nil)) (.cons (.ite (.cmp (.sub (.var "lots") (.var "a")) .NotEq (.sub (.var "lots") (.var "b"))) (.cons (.expr (.meth (.var "joints") "append" (.cons (.var "k") .nil))) (.cons (.assign (.name "lots") (.call (.glob "_law_joined") (.cons (.var "lots") (.cons (.var "a") (.cons (.var "b") .nil))))) .nil)) .nil) .nil))) (.cons (.ret (.tup (.cons (.var "lots") (.cons (.var "joints") (.cons (.var "told_ones") .nil))))) .nil)))
def body_E_stands : ISs := (.cons (.assign (.name "led") (.call (.glob "_law_led") (.cons (.var "one") .nil))) (.cons (.ite (.or (.cons (.cmp (.var "led") .Is .none) (.cons (.cmp (.sub (.var "led") (.int (2))) .NotEq (.var "told_all")) (.cons (.cmp (.call (.glob "list") (.cons (.attr (.var "one") "forest") .nil)) .NotEq (.sub (.var "led") (.int (1)))) .nil)))) (.cons (.ret (.bool false)) .nil) .nil) (.cons (.ret (.cmp (.comp (.meth (.var "one") "find" (.cons (.var "n") .nil)) (.name "n") false (.call (.glob "range") (.cons (.meth (.var "one") "size" .nil) .nil)) .nil) .Eq (.sub (.var "led") (.int (0))))) .nil)))
def body_E_law : ISs := (.cons (.assign (.name "src") (.dictS ["cells", "spot"] (.cons (.comp (.bin .Mod (.call (.glob "abs") (.cons (.var "cell") .nil)) (.int (1000003))) (.name "cell") false (.sub (.var "script") (.slc .none (.int (60)) .none)) .nil) (.cons (.int (0)) .nil)))) (.cons (.assign (.tup (.cons (.name "one") (.cons (.name "told_all") .nil))) (.tup (.cons (.call (.glob "Heap") .nil) (.cons (.list .nil) .nil)))) (.cons (.expr (.meth (.var "one") "put" (.cons (.tup (.cons (.str "a") .nil)) .nil))) (.cons (.expr (.meth (.var "one") "put" (.cons (.tup (.cons (.str "b") .nil)) .nil))) (.cons (.each (.name "lap") false (.call (.glob "range") (.cons (.bin .Add (.int (3)) (.call (.glob "_law_next") (.cons (.var "src") (.cons (.int (6)) .nil)))) .nil)) (.cons (.assign (.name "way") (.call (.glob "_law_next") (.cons (.var "src") (.cons (.int (5)) .nil)))) (.cons (.ite (.cmp (.var "way") .Lt (.int (2))) (.cons (.expr (.meth (.var "one") "put" (.cons (.call (.glob "_law_term") (.cons (.var "src") (.cons (.int (2)) .nil))) .nil))) .nil) (.cons (.ite (.cmp (.var "way") .Lt (.int (4))) (.cons (.assign (.tup (.cons (.name "a") (.cons (.name "b") .nil))) (.tup (.cons (.call (.glob "_law_next") (.cons (.var "src") (.cons (.meth (.var "one") "size" .nil) .nil))) (.cons (.call (.glob "_law_next") (.cons (.var "src") (.cons (.meth (.var "one") "size" .nil) .nil))) .nil)))) (.cons (.assign (.tup (.cons (.name "were_two") (.cons (.name "why") .nil))) (.tup (.cons (.cmp (.meth (.var "one") "find" (.cons (.var "a") .nil)) .NotEq (.meth (.var "one") "find" (.cons (.var "b") .nil))) (.cons (.tup (.cons (.str "told") (.cons (.bin .Add (.str "deed") (.call (.glob "str") (.cons (.var "lap") .nil))) .nil))) .nil)))) (.cons (.expr (.meth (.var "told_all") "append" (.cons (.tup (.cons (.var "a") (.cons (.var "b") (.cons (.var "why") .nil)))) .nil))) (.cons (.ite (.cmp (.meth (.var "one") "merge" (.cons (.var "a") (.cons (.var "b") (.cons (.var "why") .nil)))) .NotEq (.var "were_two")) (.cons (.ret (.bool false)) .nil) .nil) .nil)))) (.cons (.expr (.meth (.var "one") "settle" .nil)) .nil)) .nil)) (.cons (.ite (.not (.call (.glob "_law_stands") (.cons (.var "one") (.cons (.var "told_all") .nil)))) (.cons (.ret (.bool false)) .nil) .nil) .nil)))) (.cons (.expr (.meth (.var "one") "settle" .nil)) (.cons (.assign (.name "many") (.call (.glob "len") (.cons (.attr (.var "one") "edges") .nil))) (.cons (.expr (.meth (.var "one") "settle" .nil)) (.cons (.ret (.and (.cons (.cmp (.call (.glob "len") (.cons (.attr (.var "one") "edges") .nil)) .Eq (.var "many")) (.cons (.meth (.var "one") "is_settled" .nil) (.cons (.call (.glob "_law_stands") (.cons (.var "one") (.cons (.var "told_all") .nil))) .nil))))) .nil)))))))))
structure NE where
  f_Heap_put : Addr
  f_Heap_is_settled : Addr
  f_next : Addr
  f_term : Addr
  f_joined : Addr
  f_is_like : Addr
  f_led : Addr
  f_stands : Addr
  f_law : Addr
structure HasE (c : Cx) (N : Nms) (L : NE) : Prop where
  m_Heap_put : ClsMeth c N.cH "put" L.f_Heap_put
  d_Heap_put : DefAt c L.f_Heap_put ["self", "term"] body_E_Heap_put
  m_Heap_is_settled : ClsMeth c N.cH "is_settled" L.f_Heap_is_settled
  d_Heap_is_settled : DefAt c L.f_Heap_is_settled ["self"] body_E_Heap_is_settled
  g_next : Glob c "_law_next" (.ref L.f_next)
  d_next : DefAt c L.f_next ["src", "many"] body_E_next
  g_term : Glob c "_law_term" (.ref L.f_term)
  d_term : DefAt c L.f_term ["src", "floors"] body_E_term
  g_joined : Glob c "_law_joined" (.ref L.f_joined)
  d_joined : DefAt c L.f_joined ["lots", "a", "b"] body_E_joined
  g_is_like : Glob c "_law_is_like" (.ref L.f_is_like)
  d_is_like : DefAt c L.f_is_like ["one", "lots", "a", "b"] body_E_is_like
  g_led : Glob c "_law_led" (.ref L.f_led)
  d_led : DefAt c L.f_led ["one"] body_E_led
  g_stands : Glob c "_law_stands" (.ref L.f_stands)
  d_stands : DefAt c L.f_stands ["one", "told_all"] body_E_stands
  g_law : Glob c "law" (.ref L.f_law)
  d_law : DefAt c L.f_law ["script"] body_E_law

-- Cx59
set_option Elab.async false
set_option linter.unusedVariables false
set_option linter.unusedSimpArgs false
set_option maxRecDepth 20000
local macro_rules | `(tactic| walk_at "mgl") => `(tactic| with_reducible first | exact (‹HasE _ _ _›).g_next | exact (‹HasE _ _ _›).g_term | exact (‹HasE _ _ _›).g_joined | exact (‹HasE _ _ _›).g_is_like | exact (‹HasE _ _ _›).g_led | exact (‹HasE _ _ _›).g_stands)
local macro_rules | `(tactic| walk_at "mme") => `(tactic| with_reducible first | exact (‹HasE _ _ _›).m_Heap_put | exact (‹HasE _ _ _›).m_Heap_is_settled)
local macro_rules | `(tactic| walk_at "mfu") => `(tactic| with_reducible first | exact DefAt.isFun (‹HasE _ _ _›).d_next | exact DefAt.isFun (‹HasE _ _ _›).d_term | exact DefAt.isFun (‹HasE _ _ _›).d_joined | exact DefAt.isFun (‹HasE _ _ _›).d_is_like | exact DefAt.isFun (‹HasE _ _ _›).d_led | exact DefAt.isFun (‹HasE _ _ _›).d_stands | exact DefAt.isFun (‹HasE _ _ _›).d_Heap_put | exact DefAt.isFun (‹HasE _ _ _›).d_Heap_is_settled)

/-! the deeds drawn -/
def srcC (a l : Addr) (cs : List Int) (n : Nat) : Cells := [(a, .dictS [("cells", .ref l), ("spot", .int (n : Nat))]), (l, .list (intL cs))]
section
variable {c : Cx} {d : Nat} {σ : AHeap} {Q : AV → AHeap → Prop} {X : Addr → AHeap → Prop} {N : Nms} {T : Nat} {L : NE}
theorem fmod_nat {a : Int} {m : Nat} (hm : 1 ≤ m) : ∃ r : Nat, r < m ∧ a.fmod (m : Int) = (r : Int) := by
  have h1 := Int.fmod_nonneg_of_pos a (show (0 : Int) < m by omega)
  have h2 := Int.fmod_lt_of_pos a (show (0 : Int) < m by omega)
  exact ⟨(a.fmod m).toNat, by omega, by omega⟩
theorem does_next {a l : Addr} {cs : List Int} {n m : Nat} (H : Has c N) (E : HasE c N L) (h1 : 1 ≤ d) (hm : 1 ≤ m) (hn : n ≤ 90000) (hcs : cs.length ≤ 1000) :
    Does c d callL [.raw (.ref L.f_next), .ref a, .int (m : Int)] (srcC a l cs n) (fun v l' => (∃ r : Nat, r < m ∧ v = .int (r : Nat)) ∧ l' = srcC a l cs (n + 1)) := by
  refine does_of fun σ hA => ?_
  have G := H.gs
  refine call_at E.d_next h1 rfl ?_
  unfold srcC at hA
  unfold body_E_next
  repeat walk_at "mgo"
  refine sub_dictS (x := .int (n : Nat)) (by walk_at "mat") rfl ?_
  repeat walk_at "mgo"
  refine set_dictS (by walk_at "mat") (by unfold Fits; simp) ?_
  replace hA := hA.upd (c' := .dictS [("cells", .ref l), ("spot", .int ((n + 1 : Nat) : Int))]) .head
  rw [show dput [("cells", AV.ref l), ("spot", AV.int (n : Nat))] "spot" (.int ((n : Int) + 1)) = [("cells", AV.ref l), ("spot", .int ((n + 1 : Nat) : Int))] from rfl]
  generalize σ.set a _ = σ1 at hA ⊢
  have fin : ∀ x : Int, (∃ l', ((∃ r : Nat, r < m ∧ AV.int (x.fmod (m : Int)) = .int (r : Nat)) ∧ l' = srcC a l cs (n + 1)) ∧ At σ1 l') := by
    intro x
    obtain ⟨r, h1, h2⟩ := fmod_nat (a := x) hm
    exact ⟨_, ⟨⟨r, h1, by rw [h2]⟩, rfl⟩, hA⟩
  repeat walk_at "mgo"
  refine sub_dictS (x := .ref l) (by walk_at "mat") rfl ?_
  repeat walk_at "mgo"
  refine call_len_list (by walk_at "mat") (by rw [intL_len]; unfold Fits; omega) ?_
  rw [intL_len]
  repeat walk_at "mgo"
  refine ifD (fun hlt => ?_) (fun hge => ?_)
  · repeat walk_at "mgo"
    refine sub_dictS (x := .ref l) (by walk_at "mat") rfl ?_
    repeat walk_at "mgo"
    refine sub_intL (by walk_at "mat") (by unfold Fits; omega) (by omega) ?_
    repeat walk_at "mgo"
    refine bin_mod (by omega) ?_
    exact fin _
  · repeat walk_at "mgo"
    refine bin_mul (.inl (by unfold Small; decide)) ?_
    repeat walk_at "mgo"
    refine bin_mul (.inr (by unfold Small; omega)) ?_
    repeat walk_at "mgo"
    refine bin_mul (.inl (by unfold Small; decide)) ?_
    repeat walk_at "mgo"
    refine bin_mod (by omega) ?_
    exact fin _
end

/-! terms -/
inductive Term where
  | leaf (op : String)
  | one (op : String) (t : Term)
  | two (op : String) (t u : Term)
namespace Term
def av : Term → AV
  | leaf op => .tup [.str op]
  | one op t => .tup [.str op, t.av]
  | two op t u => .tup [.str op, t.av, u.av]
def count : Term → Nat
  | leaf _ => 1
  | one _ t => t.count + 1
  | two _ t u => t.count + u.count + 1
def high : Term → Nat
  | leaf _ => 1
  | one _ t => t.high + 1
  | two _ t u => max t.high u.high + 1
def nice : Term → Prop
  | leaf op => NiceOp op
  | one op t => NiceOp op ∧ t.nice
  | two op t u => NiceOp op ∧ t.nice ∧ u.nice
/-- put into the heap: what it is then, and its number -/
def put : Term → MS → MS × Nat
  | leaf op, s => (s.add (op, []), s.numberOf (op, []))
  | one op t, s => ((t.put s).1.add (op, [(t.put s).2]), (t.put s).1.numberOf (op, [(t.put s).2]))
  | two op t u, s => ((u.put (t.put s).1).1.add (op, [(t.put s).2, (u.put (t.put s).1).2]), (u.put (t.put s).1).1.numberOf (op, [(t.put s).2, (u.put (t.put s).1).2]))
end Term
theorem MS.add_size (s : MS) (n : Node) : s.size ≤ (s.add n).size ∧ (s.add n).size ≤ s.size + 1 ∧ s.numberOf n < (s.add n).size := by
  unfold MS.add MS.numberOf
  cases h : numOf s.nodes n with
  | some i =>
    have := (List.getElem?_eq_some_iff.mp (numOf_some h)).1
    exact ⟨Nat.le_refl _, Nat.le_succ _, this⟩
  | none =>
    dsimp only
    rw [(MS.look_size _ _).1]
    have : (s.newNode n).size = s.size + 1 := by simp [MS.newNode, MS.size]
    rw [this]
    exact ⟨Nat.le_succ _, Nat.le_refl _, Nat.lt_succ_self _⟩
theorem Term.put_size : ∀ (t : Term) (s : MS), s.size ≤ (t.put s).1.size ∧ (t.put s).1.size ≤ s.size + t.count ∧ (t.put s).2 < (t.put s).1.size
  | leaf op, s => MS.add_size s _
  | one op t, s => by
    obtain ⟨h1, h2, h3⟩ := t.put_size s
    obtain ⟨g1, g2, g3⟩ := MS.add_size (t.put s).1 (op, [(t.put s).2])
    refine ⟨?_, ?_, g3⟩
    · show s.size ≤ ((t.put s).1.add _).size; omega
    · show ((t.put s).1.add _).size ≤ s.size + (t.count + 1); omega
  | two op t u, s => by
    obtain ⟨h1, h2, h3⟩ := t.put_size s
    obtain ⟨k1, k2, k3⟩ := u.put_size (t.put s).1
    obtain ⟨g1, g2, g3⟩ := MS.add_size (u.put (t.put s).1).1 (op, [(t.put s).2, (u.put (t.put s).1).2])
    refine ⟨?_, ?_, g3⟩
    · show s.size ≤ ((u.put (t.put s).1).1.add _).size; omega
    · show ((u.put (t.put s).1).1.add _).size ≤ s.size + (t.count + u.count + 1); omega
/-- what holds of it behind a term's putting -/
theorem Term.put_ind {T : Nat} (P : MS → Prop) (hP : ∀ s n, MOK T s → P s → (∀ k ∈ n.2, k < s.size) → n.2.length ≤ 2 → s.size + 1 ≤ 200 → P (s.add n)) : ∀ (t : Term) (s : MS), MOK T s → P s → s.size + t.count ≤ 200 → MOK T (t.put s).1 ∧ P (t.put s).1
  | leaf op, s, h, p, hs => ⟨h.add (fun k hk => absurd hk List.not_mem_nil) (by simp) hs, hP s _ h p (fun k hk => absurd hk List.not_mem_nil) (by simp) hs⟩
  | one op t, s, h, p, hs => by
    obtain ⟨h1, h2, h3⟩ := t.put_size s
    simp only [count] at hs
    obtain ⟨q1, q2⟩ := t.put_ind P hP s h p (by omega)
    have hk : ∀ k ∈ [(t.put s).2], k < (t.put s).1.size := fun k hk => by obtain rfl := List.mem_singleton.mp hk; exact h3
    exact ⟨q1.add hk (by simp) (by omega), hP _ _ q1 q2 hk (by simp) (by omega)⟩
  | two op t u, s, h, p, hs => by
    obtain ⟨h1, h2, h3⟩ := t.put_size s
    obtain ⟨k1, k2, k3⟩ := u.put_size (t.put s).1
    simp only [count] at hs
    obtain ⟨q1, q2⟩ := t.put_ind P hP s h p (by omega)
    obtain ⟨r1, r2⟩ := u.put_ind P hP _ q1 q2 (by omega)
    have hk : ∀ k ∈ [(t.put s).2, (u.put (t.put s).1).2], k < (u.put (t.put s).1).1.size := fun k hk => by
      rcases List.mem_cons.mp hk with rfl | hk
      · omega
      · obtain rfl := List.mem_singleton.mp hk; exact k3
    exact ⟨r1.add hk (by simp) (by omega), hP _ _ r1 r2 hk (by simp) (by omega)⟩

-- Cx60
set_option Elab.async false
set_option linter.unusedVariables false
set_option linter.unusedSimpArgs false
set_option maxRecDepth 20000

def putsMS : List Term → MS → MS × List Nat
  | [], s => (s, [])
  | t :: r, s => ((putsMS r (t.put s).1).1, (t.put s).2 :: (putsMS r (t.put s).1).2)
theorem puts_snoc : ∀ (l : List Term) (t : Term) (s : MS), putsMS (l ++ [t]) s = ((t.put (putsMS l s).1).1, (putsMS l s).2 ++ [(t.put (putsMS l s).1).2])
  | [], t, s => rfl
  | a :: l, t, s => by
    have := puts_snoc l t (a.put s).1
    simp only [List.cons_append, putsMS, this]
def countL : List Term → Nat
  | [] => 0
  | t :: r => t.count + countL r
theorem countL_snoc : ∀ (l : List Term) (t : Term), countL (l ++ [t]) = countL l + t.count
  | [], t => by simp [countL]
  | a :: l, t => by simp only [List.cons_append, countL, countL_snoc l t]; omega
theorem countL_take : ∀ (l : List Term) (i : Nat), countL (l.take i) ≤ countL l
  | [], i => by simp [countL]
  | a :: l, 0 => by simp [countL]
  | a :: l, i + 1 => by
    have := countL_take l i
    simp only [List.take_succ_cons, countL]; omega
theorem puts_size : ∀ (l : List Term) (s : MS), s.size ≤ (putsMS l s).1.size ∧ (putsMS l s).1.size ≤ s.size + countL l ∧ (∀ k ∈ (putsMS l s).2, k < (putsMS l s).1.size) ∧ (putsMS l s).2.length = l.length
  | [], s => ⟨Nat.le_refl _, Nat.le_refl _, fun k hk => absurd hk List.not_mem_nil, rfl⟩
  | t :: l, s => by
    obtain ⟨h1, h2, h3⟩ := t.put_size s
    obtain ⟨k1, k2, k3, k4⟩ := puts_size l (t.put s).1
    simp only [putsMS, countL]
    refine ⟨by omega, by omega, fun k hk => ?_, by simp [k4]⟩
    rcases List.mem_cons.mp hk with rfl | hk
    · omega
    · exact k3 k hk

section
variable {c : Cx} {d : Nat} {σ : AHeap} {Q : AV → AHeap → Prop} {X : Addr → AHeap → Prop} {N : Nms} {T : Nat} {L : NE}
def PutOK (c : Cx) (N : Nms) (L : NE) (t : Term) : Prop := ∀ (d T : Nat) (h : HS), 7 + t.high ≤ d → HOK T h → t.nice → h.ms.size + t.count ≤ 200 →
  Does c d callL [.raw (.ref L.f_Heap_put), .ref h.self, t.av] (h.cells N) (HeapP N h (t.put h.ms).1 (.int ((t.put h.ms).2 : Nat)))
theorem put_body {h : HS} {op : String} {kids : List Term} (H : Has c N) (E : HasE c N L) (g : Nat) (h1 : 8 + g ≤ d) (hg : ∀ t ∈ kids, t.high ≤ g) (hk : HOK T h) (hop : NiceOp op) (hkn : ∀ t ∈ kids, t.nice) (h2 : kids.length ≤ 2) (hs : h.ms.size + countL kids + 1 ≤ 200) (ih : ∀ t ∈ kids, PutOK c N L t) :
    Does c d callL [.raw (.ref L.f_Heap_put), .ref h.self, .tup (.str op :: kids.map Term.av)] (h.cells N) (HeapP N h ((putsMS kids h.ms).1.add (op, (putsMS kids h.ms).2)) (.int ((putsMS kids h.ms).1.numberOf (op, (putsMS kids h.ms).2) : Nat))) := by
  refine does_of fun σ hA => ?_
  have G := H.gs
  refine call_at E.d_Heap_put (by omega) rfl ?_
  have hA0 := Hid.mk hA
  unfold body_E_Heap_put
  simp only [HS.cells, HS.own, BS.cells, US.cells, List.cons_append, List.nil_append] at hA
  repeat walk_at "mgo"
  refine sub_tup (k := 0) (seqIdx_nat (i := 0) (by simp)) rfl (by decide) ?_
  repeat walk_at "mgo"
  refine sub_tup_from (by rw [List.length_map]; unfold Fits; omega) ?_
  refine iter_tup ?_
  refine ⟨small_len (by rw [List.length_map]; omega), ?_⟩
  clear hA
  refine compLoop_of (fun i acc σ' => ∃ h' : HS, h'.self = h.self ∧ HOK T h' ∧ At σ' (h'.cells N) ∧ h'.ms = (putsMS (kids.take i) h.ms).1 ∧ acc = natL (putsMS (kids.take i) h.ms).2) ⟨h, rfl, hk, hA0.is, rfl, rfl⟩ (fun _ _ _ _ => trivial) ?_ ?_
  · rintro i x acc σ' k hx ⟨h', e1, hk', hA', e2, rfl⟩ hk2
    rw [List.getElem?_map] at hx
    obtain ⟨t, ht, rfl⟩ := Option.map_eq_some_iff.mp hx
    have htm := List.mem_of_getElem? ht
    obtain ⟨s1, s2, s3, s4⟩ := puts_size (kids.take i) h.ms
    have hct : countL (kids.take (i + 1)) = countL (kids.take i) + t.count := by rw [List.take_add_one, ht]; exact countL_snoc _ _
    have hcl := countL_take kids (i + 1)
    have hA := hA'
    replace hA' := Hid.mk hA'
    simp only [HS.cells, HS.own, BS.cells, US.cells, List.cons_append, List.nil_append] at hA
    rw [← e1]
    repeat walk_at "mgo"
    have hgt := hg t htm
    refine ih t htm (d - 1) T h' (by omega) hk' (hkn t htm) (by rw [e2]; omega) σ' hA'.is _ _ fun v l' σ2 hp hA2 o => ?_
    obtain ⟨rfl, h2', k1, k2, k3, k4, rfl⟩ := hp
    obtain ⟨m1, _⟩ := t.put_ind (T := T) (fun _ => True) (fun _ _ _ _ _ _ _ => trivial) h'.ms hk'.m trivial (by rw [e2]; omega)
    refine hk2 _ _ ⟨h2', k1.trans e1, ⟨k3, k4, by rw [k2]; exact m1⟩, hA2, ?_, ?_⟩
    · rw [k2, e2, List.take_add_one, ht]
      show _ = (putsMS (kids.take i ++ [t]) h.ms).1
      rw [puts_snoc]
    · rw [List.take_add_one, ht]
      show _ = natL (putsMS (kids.take i ++ [t]) h.ms).2
      rw [puts_snoc, natL_snoc, e2]
  · rintro acc σ' ⟨h', e1, hk', hA', e2, rfl⟩ m hm
    rw [List.length_map, List.take_length] at e2 ⊢
    obtain ⟨s1, s2, s3, s4⟩ := puts_size kids h.ms
    have hA2 := Hid.mk (hA'.new (c := .list (natL (putsMS kids h.ms).2)) hm)
    have hA := hA'.new (c := .list (natL (putsMS kids h.ms).2)) hm
    clear hA'
    generalize σ'.set m _ = σ1 at hA hA2 ⊢
    simp only [HS.cells, HS.own, BS.cells, US.cells, List.cons_append, List.nil_append] at hA
    repeat walk_at "mgo"
    refine call_tuple_l (by walk_at "mat") (by rw [natL_len, s4]; unfold Fits; omega) ?_
    rw [← e1]
    repeat walk_at "mgo"
    refine does_hAdd (ks := (putsMS kids h.ms).2) H (by omega) hk' hop (by rw [e2]; exact s3) (by omega) (by rw [e2]; omega) σ1 hA2.is.tail _ _ fun v l' σ2 hp hA3 o => ?_
    obtain ⟨rfl, h2', k1, k2, k3, k4, rfl⟩ := hp
    exact ⟨_, ⟨by rw [e2], h2', k1.trans e1, by rw [k2, e2], k3, k4, rfl⟩, hA3⟩
theorem does_hPut (H : Has c N) (E : HasE c N L) : ∀ t : Term, PutOK c N L t
  | .leaf op => fun d T h h1 hk hn hs => put_body (kids := []) H E 0 (by simp only [Term.high] at h1; omega) (fun t ht => absurd ht List.not_mem_nil) hk hn (fun t ht => absurd ht List.not_mem_nil) (by simp) (by simp only [Term.count, countL] at *; omega) (fun t ht => absurd ht List.not_mem_nil)
  | .one op t => fun d T h h1 hk hn hs => put_body (kids := [t]) H E t.high (by simp only [Term.high] at h1; omega) (fun x hx => by obtain rfl := List.mem_singleton.mp hx; exact Nat.le_refl _) hk hn.1 (fun x hx => by obtain rfl := List.mem_singleton.mp hx; exact hn.2) (by simp) (by simp only [Term.count, countL] at *; omega) (fun x hx => by rw [List.mem_singleton.mp hx]; exact does_hPut H E t)
  | .two op t u => fun d T h h1 hk hn hs => put_body (kids := [t, u]) H E (max t.high u.high) (by simp only [Term.high] at h1; omega) (fun x hx => by
      rcases List.mem_cons.mp hx with rfl | hx
      · omega
      · obtain rfl := List.mem_singleton.mp hx; omega) hk hn.1 (fun x hx => by
      rcases List.mem_cons.mp hx with rfl | hx
      · exact hn.2.1
      · obtain rfl := List.mem_singleton.mp hx; exact hn.2.2) (by simp) (by simp only [Term.count, countL] at *; omega) (fun x hx => by
      by_cases e : x = t
      · exact e ▸ does_hPut H E t
      · have : x = u := by
          rcases List.mem_cons.mp hx with q | q
          · exact absurd q e
          · exact List.mem_singleton.mp q
        exact this ▸ does_hPut H E u)
theorem call_hSettled {h : HS} (H : Has c N) (E : HasE c N L) (h1 : 1 ≤ d) (hA : At σ (h.cells N)) (hk : HOK T h) (hq : Q (.bool (decide (h.waiting = []))) σ) : CallOK c d (.raw (.ref L.f_Heap_is_settled)) [.ref h.self] σ Q X := by
  have G := H.gs
  obtain ⟨f1, f2, f3, f4, f5, f6, f7, f8, f9⟩ := hk.fits
  refine call_at E.d_Heap_is_settled h1 rfl ?_
  simp only [HS.cells, HS.own, BS.cells, US.cells, List.cons_append, List.nil_append] at hA
  unfold body_E_Heap_is_settled
  repeat walk_at "mgo"
  rw [show decide ((h.waiting.length : Int) = 0) = decide (h.waiting = []) by
    refine decide_eq_decide.mpr ⟨fun e => List.eq_nil_of_length_eq_zero (by omega), fun e => by rw [e]; rfl⟩]
  exact hq
end

-- Cx61
set_option Elab.async false
set_option linter.unusedVariables false
set_option linter.unusedSimpArgs false
set_option maxRecDepth 20000

theorem nice_char {x : String} {ch : Char} (hx : x.toList = [ch]) (h1 : (decide (ch.toNat < 128)) = true) (h2 : Txt.isspace (Str.ofString (String.singleton ch)) = false) (h3 : (Builtin.Str.occurrences (Str.ofString "()[]{},:") (Str.ofString (String.singleton ch)) 0 (Str.ofString "()[]{},:").length 1).isEmpty = true) (h4 : String.singleton ch ≠ "?") : NiceOp x := by
  refine ⟨by rw [hx]; simpa using h1, fun c hc => ?_, fun e => ?_, ?_, ch, by rw [hx]; rfl, h4⟩
  · rw [hx] at hc
    obtain rfl := List.mem_singleton.mp hc
    exact ⟨h2, h3⟩
  · rw [e] at hx; cases hx
  · rw [← String.length_toList, hx]; simp
theorem nice_a : NiceOp "a" := nice_char (ch := 'a') rfl (by decide) (by decide +kernel) (by decide +kernel) (by decide)
theorem nice_b : NiceOp "b" := nice_char (ch := 'b') rfl (by decide) (by decide +kernel) (by decide +kernel) (by decide)
theorem nice_f : NiceOp "f" := nice_char (ch := 'f') rfl (by decide) (by decide +kernel) (by decide +kernel) (by decide)
theorem nice_g : NiceOp "g" := nice_char (ch := 'g') rfl (by decide) (by decide +kernel) (by decide +kernel) (by decide)

section
variable {c : Cx} {d : Nat} {σ : AHeap} {Q : AV → AHeap → Prop} {X : Addr → AHeap → Prop} {N : Nms} {T : Nat} {L : NE}
def TermP (a l : Addr) (cs : List Int) (n floors : Nat) (v : AV) (l' : Cells) : Prop := ∃ (t : Term) (n' : Nat), v = t.av ∧ t.nice ∧ t.high ≤ floors + 1 ∧ t.count + 1 ≤ 2 ^ (floors + 1) ∧ n' + 1 ≤ n + 2 ^ (floors + 1) ∧ l' = srcC a l cs n'
theorem does_term {a l : Addr} {cs : List Int} (H : Has c N) (E : HasE c N L) (hcs : cs.length ≤ 1000) : ∀ (floors d n : Nat), 2 + floors ≤ d → floors ≤ 5 → n + 2 ^ (floors + 1) ≤ 90000 →
    Does c d callL [.raw (.ref L.f_term), .ref a, .int (floors : Int)] (srcC a l cs n) (TermP a l cs n floors) := by
  intro floors
  induction floors with
  | zero =>
    intro d n h1 h2 h3
    refine does_of fun σ hA => ?_
    have G := H.gs
    refine call_at E.d_term (by omega) rfl ?_
    unfold body_E_term
    repeat walk_at "mgo"
    rw [decide_eq_false (by decide : ¬ (0 : Int) < ((0 : Nat) : Int))]
    repeat walk_at "mgo"
    refine does_next (m := 2) H E (by omega) (by omega) (by omega) hcs σ hA _ _ fun v l' σ1 hp hA1 o => ?_
    obtain ⟨⟨r, hr, rfl⟩, rfl⟩ := hp
    repeat walk_at "mgo"
    rw [decide_eq_true (by omega : (r : Int) < 2)]
    repeat walk_at "mgo"
    have key : ∃ ch : Char, "ab".toList[r]? = some ch ∧ NiceOp (String.singleton ch) := by
      rcases (by omega : r = 0 ∨ r = 1) with rfl | rfl
      · exact ⟨'a', rfl, nice_a⟩
      · exact ⟨'b', rfl, nice_b⟩
    obtain ⟨ch, k1, k2⟩ := key
    refine sub_str (k := r) (seqIdx_nat (n := "ab".length) hr) k1 (by omega) ?_
    repeat walk_at "mgo"
    exact ⟨_, ⟨.leaf (String.singleton ch), n + 1, rfl, k2, by simp [Term.high], by simp [Term.count], by simp, rfl⟩, hA1⟩
  | succ floors ih =>
    intro d n h1 h2 h3
    have hp2 : 2 ^ (floors + 1 + 1) = 2 ^ (floors + 1) + 2 ^ (floors + 1) := by rw [Nat.pow_succ]; omega
    have hpos : 2 ≤ 2 ^ (floors + 1) := by
      have := Nat.one_le_two_pow (n := floors)
      rw [Nat.pow_succ]; omega
    refine does_of fun σ hA => ?_
    have G := H.gs
    refine call_at E.d_term (by omega) rfl ?_
    unfold body_E_term
    repeat walk_at "mgo"
    rw [decide_eq_true (by omega : (0 : Int) < ((floors + 1 : Nat) : Int))]
    repeat walk_at "mgo"
    refine does_next (m := 4) H E (by omega) (by omega) (by omega) hcs σ hA _ _ fun v l' σ1 hp hA1 o => ?_
    obtain ⟨⟨r, hr, rfl⟩, rfl⟩ := hp
    repeat walk_at "mgo"
    refine ifD (fun hlt => ?_) (fun hge => ?_)
    · repeat walk_at "mgo"
      have key : ∃ ch : Char, "ab".toList[r]? = some ch ∧ NiceOp (String.singleton ch) := by
        rcases (by omega : r = 0 ∨ r = 1) with rfl | rfl
        · exact ⟨'a', rfl, nice_a⟩
        · exact ⟨'b', rfl, nice_b⟩
      obtain ⟨ch, k1, k2⟩ := key
      refine sub_str (k := r) (seqIdx_nat (n := "ab".length) (show r < 2 by omega)) k1 (by omega) ?_
      repeat walk_at "mgo"
      exact ⟨_, ⟨.leaf (String.singleton ch), n + 1, rfl, k2, by simp [Term.high], by simp only [Term.count]; omega, by omega, rfl⟩, hA1⟩
    · repeat walk_at "mgo"
      rw [show ((floors + 1 : Nat) : Int) - 1 = (floors : Int) by omega]
      refine ih (d - 1) (n + 1) (by omega) (by omega) (by omega) σ1 hA1 _ _ fun v l' σ2 hp hA2 o => ?_
      obtain ⟨t, n', rfl, q1, q2, q3, q4, rfl⟩ := hp
      repeat walk_at "mgo"
      refine ifD (fun he => ?_) (fun hne => ?_)
      · repeat walk_at "mgo"
        exact ⟨_, ⟨.one "f" t, n', rfl, ⟨nice_f, q1⟩, by simp only [Term.high]; omega, by simp only [Term.count]; omega, by omega, rfl⟩, hA2⟩
      · repeat walk_at "mgo"
        rw [show ((floors + 1 : Nat) : Int) - 1 = (floors : Int) by omega]
        refine ih (d - 1) n' (by omega) (by omega) (by omega) σ2 hA2 _ _ fun v l' σ3 hp hA3 o => ?_
        obtain ⟨u, n'', rfl, p1, p2, p3, p4, rfl⟩ := hp
        repeat walk_at "mgo"
        exact ⟨_, ⟨.two "g" t u, n'', rfl, ⟨nice_g, q1, p1⟩, by simp only [Term.high]; omega, by simp only [Term.count]; omega, by omega, rfl⟩, hA3⟩
end

-- Cx62
set_option Elab.async false
set_option linter.unusedVariables false
set_option linter.unusedSimpArgs false

/-! the law's own lots, led along the edges -/
abbrev Edge := Nat × Nat × AV
def labStep (f : Nat → Nat) (e : Edge) : Nat → Nat := if f e.1 = f e.2.1 then f else fun x => if f x = max (f e.1) (f e.2.1) then min (f e.1) (f e.2.1) else f x
def lab (es : List Edge) : Nat → Nat := es.foldl labStep id
theorem lab_snoc (es : List Edge) (e : Edge) : lab (es ++ [e]) = labStep (lab es) e := by simp [lab]
def joints (es : List Edge) : List Nat :=
  (List.range es.length).filter fun i => match es[i]? with
    | some e => lab (es.take i) e.1 ≠ lab (es.take i) e.2.1
    | none => false
theorem joints_snoc (es : List Edge) (e : Edge) : joints (es ++ [e]) = joints es ++ (if lab es e.1 ≠ lab es e.2.1 then [es.length] else []) := by
  unfold joints
  rw [List.length_append, List.length_singleton, List.range_succ, List.filter_append]
  congr 1
  · refine List.filter_congr fun i hi => ?_
    have hi := List.mem_range.mp hi
    rw [List.getElem?_append_left hi, List.take_append_of_le_length (Nat.le_of_lt hi)]
  · rw [List.filter_cons, List.filter_nil]
    simp only [List.getElem?_append_right (Nat.le_refl _), Nat.sub_self, List.getElem?_cons_zero, List.take_left]
    by_cases h : lab es e.1 = lab es e.2.1
    · simp [h]
    · simp [h]
def toldAV (x : String) : AV := .tup [.str "told", .str x]
def toldEdge (e : Nat × Nat × String) : Edge := (e.1, e.2.1, toldAV e.2.2)
theorem like_ne_told (x : String) : MS.like ≠ toldAV x := by
  intro h
  simp [MS.like, toldAV] at h
/-- alike, by these lots -/
def LikeBy (nodes : List Node) (f : Nat → Nat) (a b : Nat) : Prop :=
  f a ≠ f b ∧ ∃ na nb, nodes[a]? = some na ∧ nodes[b]? = some nb ∧ na.1 = nb.1 ∧ na.2.length = nb.2.length ∧ ∀ (i : Nat) (x y : Nat), na.2[i]? = some x → nb.2[i]? = some y → f x = f y
def toldOf : List Edge → List (Nat × Nat × String) → Prop
  | [], t => t = []
  | e :: es, t => (e.2.2 = MS.like ∧ toldOf es t) ∨ ∃ x t', e.2.2 = toldAV x ∧ t = (e.1, e.2.1, x) :: t' ∧ toldOf es t'
theorem toldOf_like {es : List Edge} {t : List (Nat × Nat × String)} {a b : Nat} (h : toldOf es t) : toldOf (es ++ [(a, b, MS.like)]) t := by
  induction es generalizing t with
  | nil => exact .inl ⟨rfl, h⟩
  | cons e es ih =>
    rcases h with ⟨h1, h2⟩ | ⟨x, t', h1, h2, h3⟩
    · exact .inl ⟨h1, ih h2⟩
    · exact .inr ⟨x, t', h1, h2, ih h3⟩
theorem toldOf_told {es : List Edge} {t : List (Nat × Nat × String)} {a b : Nat} {x : String} (h : toldOf es t) : toldOf (es ++ [(a, b, toldAV x)]) (t ++ [(a, b, x)]) := by
  induction es generalizing t with
  | nil => cases h; exact .inr ⟨x, [], rfl, rfl, rfl⟩
  | cons e es ih =>
    rcases h with ⟨h1, h2⟩ | ⟨y, t', h1, h2, h3⟩
    · exact .inl ⟨h1, ih h2⟩
    · subst h2
      exact .inr ⟨y, t' ++ [(a, b, x)], h1, rfl, ih h3⟩
/-- what the law says of the heap's edges -/
structure EInv (s : MS) (told : List (Nat × Nat × String)) : Prop where
  ends : ∀ e ∈ s.edges, e.1 < s.size ∧ e.2.1 < s.size
  labs : ∀ x, lab s.edges x = if x < s.size then root s.par x else x
  forest : s.forest = joints s.edges
  likes : ∀ (i : Nat) (e : Edge), s.edges[i]? = some e → e.2.2 = MS.like → LikeBy s.nodes (lab (s.edges.take i)) e.1 e.2.1
  told : toldOf s.edges told
  known : ∀ p ∈ s.known, ∃ n, s.nodes[p.2]? = some n ∧ p.1.1 = n.1 ∧ p.1.2.length = n.2.length ∧ ∀ (i : Nat) (x y : Nat), p.1.2[i]? = some x → n.2[i]? = some y → x < s.size ∧ root s.par x = root s.par y
theorem EInv.empty : EInv MS.empty [] :=
  ⟨fun e he => absurd he List.not_mem_nil, fun x => (if_neg (Nat.not_lt_zero _)).symm ▸ rfl, rfl, fun i e he => by simp [MS.empty] at he, rfl, fun p hp => absurd hp List.not_mem_nil⟩
theorem lab_join {s : MS} (hd : Down s.par) (hl : s.par.length = s.size) (h : ∀ x, lab s.edges x = if x < s.size then root s.par x else x) {a b : Nat} {r : AV} (ha : a < s.size) (hb : b < s.size) (hne : s.find a ≠ s.find b) :
    ∀ x, lab (s.edges ++ [(a, b, r)]) x = if x < s.size then root (s.par.set (max (s.find a) (s.find b)) (min (s.find a) (s.find b))) x else x := by
  have pr := pair_of hd (by rw [hl]; exact ha) (by rw [hl]; exact hb) hne
  intro x
  rw [lab_snoc]
  unfold labStep
  have e1 : lab s.edges a = s.find a := by rw [h, if_pos ha]; rfl
  have e2 : lab s.edges b = s.find b := by rw [h, if_pos hb]; rfl
  simp only [e1, e2]
  rw [if_neg hne, h]
  by_cases hx : x < s.size
  · rw [if_pos hx, if_pos hx]
    exact (root_set hd pr.gl pr.lt pr.rg pr.rk x (by rw [hl]; exact hx)).symm
  · rw [if_neg hx, if_neg hx, if_neg]
    have := pr.gl
    intro q
    have q2 : x = max (root s.par a) (root s.par b) := q
    omega
theorem EInv.join {T : Nat} {s : MS} {told told' : List (Nat × Nat × String)} (hm : MOK T s) (h : EInv s told) {a b : Nat} {r : AV} (ha : a < s.size) (hb : b < s.size) (ht : toldOf (s.edges ++ [(a, b, r)]) told') (hlike : r = MS.like → LikeBy s.nodes (lab s.edges) a b) : EInv (s.join a b r) told' := by
  have ends : ∀ e ∈ s.edges ++ [(a, b, r)], e.1 < s.size ∧ e.2.1 < s.size := fun e he => by
    rcases List.mem_append.mp he with he | he
    · exact h.ends e he
    · obtain rfl := List.mem_singleton.mp he; exact ⟨ha, hb⟩
  have likes : ∀ (i : Nat) (e : Edge), (s.edges ++ [(a, b, r)])[i]? = some e → e.2.2 = MS.like → LikeBy s.nodes (lab ((s.edges ++ [(a, b, r)]).take i)) e.1 e.2.1 := fun i e he hl => by
    rcases Nat.lt_trichotomy i s.edges.length with q | q | q
    · rw [List.getElem?_append_left q] at he
      rw [List.take_append_of_le_length (Nat.le_of_lt q)]
      exact h.likes i e he hl
    · subst q
      rw [List.getElem?_append_right (Nat.le_refl _), Nat.sub_self] at he
      simp only [List.getElem?_cons_zero, Option.some.injEq] at he
      subst he
      rw [List.take_left]
      exact hlike hl
    · rw [List.getElem?_eq_none (by simp; omega)] at he; cases he
  have e1 : lab s.edges a = s.find a := by rw [h.labs, if_pos ha]; rfl
  have e2 : lab s.edges b = s.find b := by rw [h.labs, if_pos hb]; rfl
  unfold MS.join
  by_cases hne : s.find a = s.find b
  · rw [if_pos hne]
    refine ⟨ends, fun x => ?_, ?_, likes, ht, h.known⟩
    · show lab (s.edges ++ [(a, b, r)]) x = _
      rw [lab_snoc]
      unfold labStep
      rw [if_pos (show lab s.edges a = lab s.edges b by rw [e1, e2]; exact hne)]
      exact h.labs x
    · show s.forest = joints (s.edges ++ [(a, b, r)])
      rw [joints_snoc, if_neg (by rw [e1, e2]; exact fun q => q hne), List.append_nil]; exact h.forest
  · rw [if_neg hne]
    have pr := pair_of hm.down (by rw [hm.len]; exact ha) (by rw [hm.len]; exact hb) hne
    refine ⟨ends, lab_join hm.down hm.len h.labs ha hb hne, ?_, likes, ht, fun p hp => ?_⟩
    · show s.forest ++ [s.edges.length] = joints (s.edges ++ [(a, b, r)])
      rw [joints_snoc, if_pos (by rw [e1, e2]; exact hne), h.forest]
    · obtain ⟨n, h1, h2, h3, h4⟩ := h.known p hp
      refine ⟨n, h1, h2, h3, fun i x y hx hy => ?_⟩
      obtain ⟨k1, k2⟩ := h4 i x y hx hy
      refine ⟨k1, ?_⟩
      have hn := (List.getElem?_eq_some_iff.mp h1)
      obtain ⟨hlt, hge⟩ := hn
      have hyl : y < s.size := by
        have := hm.kids p.2 hlt y (by rw [hge]; exact List.mem_of_getElem? hy)
        have : p.2 < s.nodes.length := hlt
        show y < s.nodes.length
        omega
      show root (s.par.set (max (s.find a) (s.find b)) (min (s.find a) (s.find b))) x = root (s.par.set (max (s.find a) (s.find b)) (min (s.find a) (s.find b))) y
      have g1 := root_set hm.down pr.gl pr.lt pr.rg pr.rk x (by rw [hm.len]; exact k1)
      have g2 := root_set hm.down pr.gl pr.lt pr.rg pr.rk y (by rw [hm.len]; exact hyl)
      unfold MS.find
      rw [g1, g2, k2]
theorem canon_at {s : MS} {n : Nat} {nd : Node} (h : s.nodes[n]? = some nd) : s.canon n = (nd.1, nd.2.map s.find) := by
  unfold MS.canon
  rw [List.getD_eq_getElem?_getD, h]; rfl
theorem EInv.look {T : Nat} {s : MS} {told : List (Nat × Nat × String)} (hm : MOK T s) (h : EInv s told) {n : Nat} (hn : n < s.size) : EInv (s.look n) told := by
  obtain ⟨nd, hnd⟩ : ∃ nd, s.nodes[n]? = some nd := ⟨_, List.getElem?_eq_getElem hn⟩
  have hc := canon_at hnd
  have hkid : ∀ y ∈ nd.2, y < s.size := fun y hy => by
    obtain ⟨hlt, hge⟩ := List.getElem?_eq_some_iff.mp hnd
    have h5 := hm.kids n hlt y (by rw [hge]; exact hy)
    exact Nat.lt_trans h5 hlt
  unfold MS.look
  cases hk : dlook s.known (s.canon n) with
  | none =>
    dsimp only
    refine ⟨h.ends, h.labs, h.forest, h.likes, h.told, fun p hp => ?_⟩
    rcases List.mem_append.mp hp with hp | hp
    · exact h.known p hp
    · obtain rfl := List.mem_singleton.mp hp
      refine ⟨nd, hnd, by rw [hc], by rw [hc]; simp, fun i x y hx hy => ?_⟩
      rw [hc] at hx
      simp only [List.getElem?_map, hy, Option.map_some, Option.some.injEq] at hx
      subst hx
      have hyl := hkid y (List.mem_of_getElem? hy)
      have := root_lt hm.down y (by rw [hm.len]; exact hyl)
      exact ⟨(show s.find y < s.size by rw [← hm.len]; exact this.2), root_root hm.down (by rw [hm.len]; exact hyl)⟩
  | some o =>
    dsimp only
    by_cases e : s.find o = s.find n
    · rw [if_pos e]; exact h
    · rw [if_neg e]
      obtain ⟨no, h1, h2, h3, h4⟩ := h.known _ (look_mem hk)
      have hol : o < s.size := (List.getElem?_eq_some_iff.mp h1).1
      refine h.join hm hol hn (toldOf_like h.told) fun _ => ?_
      have e1 : lab s.edges o = s.find o := by rw [h.labs, if_pos hol]; rfl
      have e2 : lab s.edges n = s.find n := by rw [h.labs, if_pos hn]; rfl
      rw [hc] at h2 h3 h4
      refine ⟨by rw [e1, e2]; exact e, no, nd, h1, hnd, h2.symm, by rw [← h3]; simp, fun i x y hx hy => ?_⟩
      have hyl := hkid y (List.mem_of_getElem? hy)
      obtain ⟨k1, k2⟩ := h4 i (s.find y) x (by simp [hy]) hx
      have hxl : x < s.size := by
        obtain ⟨hlt, hge⟩ := List.getElem?_eq_some_iff.mp h1
        have h5 := hm.kids o hlt x (by rw [hge]; exact List.mem_of_getElem? hx)
        exact Nat.lt_trans h5 hlt
      rw [h.labs, h.labs, if_pos hxl, if_pos hyl, ← k2]
      exact root_root hm.down (by rw [hm.len]; exact hyl)
theorem EInv.newNode {T : Nat} {s : MS} {told : List (Nat × Nat × String)} (hm : MOK T s) (h : EInv s told) (nd : Node) : EInv (s.newNode nd) told := by
  have hsz : (s.newNode nd).size = s.size + 1 := by simp [MS.newNode, MS.size]
  have hpar : (s.newNode nd).par = s.par ++ [s.par.length] := rfl
  have hnode : ∀ {i : Nat} {n : Node}, s.nodes[i]? = some n → (s.newNode nd).nodes[i]? = some n := fun hi => by
    show (s.nodes ++ [nd])[_]? = _
    rw [List.getElem?_append_left (List.getElem?_eq_some_iff.mp hi).1]; exact hi
  refine ⟨fun e he => ?_, fun x => ?_, h.forest, fun i e he hl => ?_, h.told, fun p hp => ?_⟩
  · have := h.ends e he; rw [hsz]; omega
  · show lab s.edges x = _
    rw [h.labs, hsz, hpar]
    by_cases q : x < s.size
    · rw [if_pos q, if_pos (by omega), root_snoc hm.down x (by rw [hm.len]; exact q)]
    · rw [if_neg q]
      by_cases q2 : x < s.size + 1
      · have : x = s.par.length := by rw [hm.len]; omega
        rw [if_pos q2, this, root_new hm.down]
      · rw [if_neg q2]
  · obtain ⟨g1, na, nb, g2, g3, g4⟩ := h.likes i e he hl
    exact ⟨g1, na, nb, hnode g2, hnode g3, g4⟩
  · obtain ⟨n, h1, h2, h3, h4⟩ := h.known p hp
    refine ⟨n, hnode h1, h2, h3, fun i x y hx hy => ?_⟩
    obtain ⟨k1, k2⟩ := h4 i x y hx hy
    have hyl : y < s.size := by
      obtain ⟨hlt, hge⟩ := List.getElem?_eq_some_iff.mp h1
      have h5 := hm.kids p.2 hlt y (by rw [hge]; exact List.mem_of_getElem? hy)
      exact Nat.lt_trans h5 hlt
    rw [hsz, hpar, root_snoc hm.down x (by rw [hm.len]; exact k1), root_snoc hm.down y (by rw [hm.len]; exact hyl)]
    exact ⟨by omega, k2⟩
theorem EInv.add {T : Nat} {s : MS} {told : List (Nat × Nat × String)} (hm : MOK T s) (h : EInv s told) {n : Node} (hk : ∀ k ∈ n.2, k < s.size) (h2 : n.2.length ≤ 2) (hs : s.size + 1 ≤ 200) : EInv (s.add n) told := by
  unfold MS.add
  cases hno : numOf s.nodes n with
  | some i => exact h
  | none =>
    obtain ⟨g1, g2⟩ := hm.newNode hno hk h2 hs
    exact (h.newNode hm n).look g1 (by simp [MS.newNode, MS.size])
theorem EInv.settle {T : Nat} {s : MS} {told : List (Nat × Nat × String)} (hm : MOK T s) (h : EInv s told) : MOK T s.settle ∧ EInv s.settle told ∧ s.settle.waiting = [] :=
  MS.settle_ind (fun s => EInv s told) (fun s n hm h hw => by
    obtain ⟨g1, g2, g3, g4⟩ := hm.pop hw
    exact EInv.look g1 ⟨h.ends, h.labs, h.forest, h.likes, h.told, h.known⟩ g2) s.left s (Nat.le_refl _) hm h

-- Cx63
set_option Elab.async false
set_option linter.unusedVariables false
set_option linter.unusedSimpArgs false
set_option maxRecDepth 20000

theorem toldOf_one {es : List Edge} : ∀ {t t' : List (Nat × Nat × String)}, toldOf es t → toldOf es t' → t = t' := by
  induction es with
  | nil => intro t t' h h'; exact h.trans h'.symm
  | cons e es ih =>
    intro t t' h h'
    rcases h with ⟨h1, h2⟩ | ⟨x, u, h1, h2, h3⟩ <;> rcases h' with ⟨k1, k2⟩ | ⟨y, u', k1, k2, k3⟩
    · exact ih h2 k2
    · exact absurd (h1.symm.trans k1) (like_ne_told y)
    · exact absurd (k1.symm.trans h1) (like_ne_told x)
    · have e1 : toldAV x = toldAV y := h1.symm.trans k1
      simp only [toldAV, AV.tup.injEq, List.cons.injEq, AV.str.injEq, and_true, true_and] at e1
      rw [h2, k2, e1, ih h3 k3]
theorem toldOf_at {es : List Edge} : ∀ {t : List (Nat × Nat × String)} {i : Nat} {e : Edge}, toldOf es t → es[i]? = some e → e.2.2 = MS.like ∨ ∃ x, e.2.2 = toldAV x := by
  induction es with
  | nil => intro t i e h he; simp at he
  | cons a es ih =>
    intro t i e h he
    cases i with
    | zero =>
      simp only [List.getElem?_cons_zero, Option.some.injEq] at he
      subst he
      rcases h with ⟨h1, h2⟩ | ⟨x, u, h1, h2, h3⟩
      · exact .inl h1
      · exact .inr ⟨x, h1⟩
    | succ i =>
      rcases h with ⟨h1, h2⟩ | ⟨x, u, h1, h2, h3⟩
      · exact ih h2 (by simpa using he)
      · exact ih h3 (by simpa using he)
theorem toldOf_len {es : List Edge} : ∀ {t : List (Nat × Nat × String)}, toldOf es t → t.length ≤ es.length := by
  induction es with
  | nil => intro t h; cases h; exact Nat.le_refl _
  | cons a es ih =>
    intro t h
    rcases h with ⟨h1, h2⟩ | ⟨x, u, h1, rfl, h3⟩
    · have := ih h2; simp; omega
    · have := ih h3; simp; omega
def labsL (n : Nat) (f : Nat → Nat) : List AV := natL ((List.range n).map f)
theorem enum_at : ∀ (xs : List AV) (i j : Nat), (enumAV i xs)[j]? = (xs[j]?).map fun x => AV.tup [.int ((i + j : Nat) : Int), x]
  | [], i, j => by simp [enumAV]
  | x :: xs, i, 0 => by simp [enumAV]
  | x :: xs, i, j + 1 => by
    rw [enumAV, List.getElem?_cons_succ, List.getElem?_cons_succ, enum_at xs (i + 1) j]
    rw [show i + 1 + j = i + (j + 1) by omega]
theorem enum_len : ∀ (xs : List AV) (i : Nat), (enumAV i xs).length = xs.length
  | [], i => rfl
  | x :: xs, i => by rw [enumAV, List.length_cons, enum_len xs (i + 1)]; rfl

section
variable {c : Cx} {d : Nat} {σ : AHeap} {Q : AV → AHeap → Prop} {X : Addr → AHeap → Prop} {N : Nms} {T : Nat} {L : NE}
theorem w_eachE {m : Loc} {N : Loc → AHeap → Prop} {R : AV → AHeap → Prop} {X : Addr → Loc → AHeap → Prop} {tg : Tgt} {b : ISs} {src : IE} (G : Globs c) (h : wpE c d src m σ (fun sv σ₁ => ∃ l xs, sv = .ref l ∧ σ₁ l = some (.list xs) ∧ xs.length ≤ 100000 ∧
      compLoop (fun σ' => σ' l = some (.list xs)) (fun x m' σ k => wpTgt c d tg x m' σ (fun m' => wpSs c d b m' σ (fun m'' σ₂ => k (m.only m'') σ₂) R (fun _ _ _ => False))) (enumAV 0 xs) m σ₁ N) (fun C => X C m)) : wpS c d (.each tg true src b) m σ N R X := ⟨fun _ => G.g_enumerate, h⟩
theorem call_maxN {a b : Nat} (h : Q (.int ((max a b : Nat) : Int)) σ) : CallOK c d (.raw (.builtin "max")) [.int (a : Int), .int (b : Int)] σ Q X := call_max2 (by
  have : (if (b : Int) > a then (b : Int) else a) = ((max a b : Nat) : Int) := by split <;> omega
  rw [this]; exact h)
theorem call_minN {a b : Nat} (h : Q (.int ((min a b : Nat) : Int)) σ) : CallOK c d (.raw (.builtin "min")) [.int (a : Int), .int (b : Int)] σ Q X := call_min2 (by
  have : (if (b : Int) < a then (b : Int) else a) = ((min a b : Nat) : Int) := by split <;> omega
  rw [this]; exact h)
theorem sub_labs {l : Addr} {n i : Nat} {f : Nat → Nat} (e : σ l = some (.list (labsL n f))) (hz : Fits n) (hi : i < n) (h : Q (.int (f i : Nat)) σ) : SubOK c d (.ref l) (.int (i : Int)) σ Q X :=
  sub_natL (xs := (List.range n).map f) e (by simpa using hz) (by simpa using hi) (by simpa using h)
theorem call_joined {l : Addr} {n a b : Nat} {f : Nat → Nat} {r : AV} (H : Has c N) (E : HasE c N L) (h1 : 1 ≤ d) (e : σ l = some (.list (labsL n f))) (hz : Fits n) (ha : a < n) (hb : b < n) (hne : f a ≠ f b) (h : ∀ m, σ m = none → Q (.ref m) (σ.set m (.list (labsL n (labStep f (a, b, r)))))) : CallOK c d (.raw (.ref L.f_joined)) [.ref l, .int (a : Int), .int (b : Int)] σ Q X := by
  refine gives_of (l := [(l, .list (labsL n f))]) (fun σ hA => ?_) ⟨by simp [Cells.at], fun x hx => by obtain rfl := List.mem_singleton.mp hx; exact e⟩ h
  have G := H.gs
  refine call_at E.d_joined h1 rfl ?_
  unfold body_E_joined
  repeat walk_at "mgo"
  refine sub_labs (by walk_at "mat") hz ha ?_
  repeat walk_at "mgo"
  refine sub_labs (by walk_at "mat") hz hb ?_
  repeat walk_at "mgo"
  refine call_maxN ?_
  repeat walk_at "mgo"
  refine sub_labs (by walk_at "mat") hz ha ?_
  repeat walk_at "mgo"
  refine sub_labs (by walk_at "mat") hz hb ?_
  repeat walk_at "mgo"
  refine call_minN ?_
  repeat walk_at "mgo"
  refine unpack_tup rfl ?_
  repeat walk_at "mgo"
  refine iter_list (by walk_at "mat") ?_
  refine ⟨by unfold labsL; rw [natL_len]; simpa using hz.le, ?_⟩
  have hl0 : σ l = some (.list (labsL n f)) := hA.get List.mem_cons_self
  refine compLoop_of (fun i acc σ' => σ' = σ ∧ acc = natL (((List.range n).take i).map (labStep f (a, b, r)))) ⟨rfl, rfl⟩ (fun i b σ' ⟨q, _⟩ => q ▸ hl0) ?_ ?_
  · rintro i x acc σ' k hx ⟨rfl, rfl⟩ hk
    obtain ⟨v, hv, rfl⟩ := natL_at hx
    rw [List.getElem?_map] at hv
    obtain ⟨y, hy, rfl⟩ := Option.map_eq_some_iff.mp hv
    have fin : ∀ z : Nat, z = labStep f (a, b, r) y → k (natL (((List.range n).take i).map (labStep f (a, b, r))) ++ [.int (z : Nat)]) σ' := by
      rintro z rfl
      refine hk _ _ ⟨rfl, ?_⟩
      rw [List.take_add_one, hy, List.map_append, ← natL_snoc]
      rfl
    have hs : labStep f (a, b, r) y = if f y = max (f a) (f b) then min (f a) (f b) else f y := by
      unfold labStep
      rw [if_neg hne]
    repeat walk_at "mgo"
    refine ifD (fun q => ?_) (fun q => ?_)
    · repeat walk_at "mgo"
      exact fin _ (by rw [hs, if_pos (by omega)])
    · repeat walk_at "mgo"
      exact fin _ (by rw [hs, if_neg (by omega)])
  · rintro acc σ' ⟨rfl, rfl⟩ m hm
    unfold labsL at *
    rw [natL_len, List.length_map, List.take_length]
    exact ⟨m, rfl, hA.new hm⟩
end

-- Cx64
set_option Elab.async false
set_option linter.unusedVariables false
set_option linter.unusedSimpArgs false
set_option maxRecDepth 20000

section
variable {c : Cx} {d : Nat} {σ : AHeap} {Q : AV → AHeap → Prop} {X : Addr → AHeap → Prop} {N : Nms} {T : Nat} {L : NE}
theorem sub_natT {ks : List Nat} {i x : Nat} (hx : ks[i]? = some x) (hz : ks.length ≤ 100) (h : Q (.int (x : Nat)) σ) : SubOK c d (.tup (natL ks)) (.int (i : Int)) σ Q X := by
  obtain ⟨h1, h2⟩ := List.getElem?_eq_some_iff.mp hx
  refine sub_tup (k := i) (by rw [natL_len]; exact seqIdx_nat h1) ?_ (by omega) h
  unfold natL
  rw [List.getElem?_map, hx]; rfl
theorem call_isLike {h : HS} {l : Addr} {a b : Nat} {f : Nat → Nat} (H : Has c N) (E : HasE c N L) (h1 : 3 ≤ d) (hA : At σ ((l, .list (labsL h.ms.size f)) :: h.cells N)) (hk : HOK T h) (ha : a < h.ms.size) (hb : b < h.ms.size) (hlk : LikeBy h.ms.nodes f a b) (hq : Q (.bool true) σ) :
    CallOK c d (.raw (.ref L.f_is_like)) [.ref h.self, .ref l, .int (a : Int), .int (b : Int)] σ Q X := by
  refine reads_of (P := fun v => v = .bool true) (fun σ hA => ?_) hA fun v e => e ▸ hq
  have G := H.gs
  obtain ⟨f1, f2, f3, f4, _⟩ := hk.fits
  obtain ⟨g1, na, nb, g2, g3, g4, g5, g6⟩ := hlk
  have hal : a < h.b.nodes.length := ha
  have hbl : b < h.b.nodes.length := hb
  have ea : h.b.nodes[a] = na := (List.getElem?_eq_some_iff.mp g2).2
  have eb : h.b.nodes[b] = nb := (List.getElem?_eq_some_iff.mp g3).2
  have hta := hk.m.two _ (List.mem_of_getElem? g2)
  have htb := hk.m.two _ (List.mem_of_getElem? g3)
  have hz : Fits h.ms.size := by unfold Fits; show h.b.nodes.length ≤ _; omega
  have hfb : Fits h.b.nodes.length := hz
  refine call_at E.d_is_like (by omega) rfl ?_
  have hA0 := Hid.mk hA
  unfold body_E_is_like
  simp only [HS.cells, HS.own, BS.cells, US.cells, List.cons_append, List.nil_append] at hA
  repeat walk_at "mgo"
  refine call_bKids H (by omega) (HS.atB hA0.is.tail) hfb hk.b hal ?_
  repeat walk_at "mgo"
  refine call_bKids H (by omega) (HS.atB hA0.is.tail) hfb hk.b hbl ?_
  repeat walk_at "mgo"
  refine unpack_tup rfl ?_
  repeat walk_at "mgo"
  refine sub_labs (by walk_at "mat") hz ha ?_
  repeat walk_at "mgo"
  refine sub_labs (by walk_at "mat") hz hb ?_
  repeat walk_at "mgo"
  rw [decide_eq_false (by omega : ¬ ((f a : Nat) : Int) = ((f b : Nat) : Int))]
  repeat walk_at "mgo"
  refine call_bOp H (by omega) (HS.atB hA0.is.tail) hfb hal ?_
  repeat walk_at "mgo"
  refine call_bOp H (by omega) (HS.atB hA0.is.tail) hfb hbl ?_
  refine cmp_ne_no (.str _) (.str _) (by simp [ddeep]) (by rw [ea, eb, g4]) ?_
  repeat walk_at "mgo"
  rw [ea, eb]
  refine call_len_tup (by rw [natL_len]; unfold Fits; omega) ?_
  repeat walk_at "mgo"
  refine call_len_tup (by rw [natL_len]; unfold Fits; omega) ?_
  repeat walk_at "mgo"
  rw [decide_eq_false (by rw [natL_len, natL_len, g5]; simp)]
  repeat walk_at "mgo"
  refine call_len_tup (by rw [natL_len]; unfold Fits; omega) ?_
  rw [natL_len]
  repeat walk_at "mgo"
  refine call_range1 ?_
  refine iter_range near0 (near_nat (by unfold Fits; omega)) ?_
  simp only [Int.sub_zero, Int.toNat_natCast]
  refine ⟨small_len (by rw [rangeAV_len]; omega), ?_⟩
  refine compLoop_of (fun i acc σ' => σ' = σ ∧ acc = []) ⟨rfl, rfl⟩ (fun _ _ _ _ => trivial) ?_ ?_
  · rintro i x acc σ' k hx ⟨rfl, rfl⟩ hk2
    obtain ⟨hi, rfl⟩ := rangeAV_at hx
    obtain ⟨x, hxa⟩ : ∃ x, na.2[i]? = some x := ⟨_, List.getElem?_eq_getElem hi⟩
    obtain ⟨y, hyb⟩ : ∃ y, nb.2[i]? = some y := ⟨_, List.getElem?_eq_getElem (by omega)⟩
    have hxy := g6 i x y hxa hyb
    have hxl : x < h.ms.size := by
      have := hk.b.kids a hal x (by rw [ea]; exact List.mem_of_getElem? hxa)
      show x < h.b.nodes.length
      omega
    have hyl : y < h.ms.size := by
      have := hk.b.kids b hbl y (by rw [eb]; exact List.mem_of_getElem? hyb)
      show y < h.b.nodes.length
      omega
    repeat walk_at "mgo"
    refine sub_natT hxa (by omega) ?_
    refine sub_labs (by walk_at "mat") hz hxl ?_
    repeat walk_at "mgo"
    refine sub_natT hyb (by omega) ?_
    refine sub_labs (by walk_at "mat") hz hyl ?_
    repeat walk_at "mgo"
    rw [decide_eq_false (by rw [hxy]; simp)]
    repeat walk_at "mgo"
    exact hk2 _ _ ⟨rfl, rfl⟩
  · rintro acc σ' ⟨rfl, rfl⟩ m hm
    replace hA := hA.new (c := .list []) hm
    have hA1 := Hid.mk (hA0.is.new (c := .list []) hm)
    clear hA0
    generalize σ'.set m _ = σ1 at hA hA1 ⊢
    repeat walk_at "mgo"
    intro m2 hm2
    replace hA := hA.new (c := .list []) hm2
    replace hA1 := Hid.mk (hA1.is.new (c := .list []) hm2)
    generalize σ1.set m2 _ = σ2 at hA hA1 ⊢
    refine cmp_eq_yes (.list (by walk_at "mat") .nil) (.list (by walk_at "mat") .nil) (by simp [ddeep, ddeeps]) rfl ?_
    exact ⟨rfl, hA1.is.tail.tail⟩

def ledP (N : Nms) (h : HS) (told : List (Nat × Nat × String)) (v : AV) (l' : Cells) : Prop :=
  ∃ m1 m2 m3, v = .tup [.ref m1, .ref m2, .ref m3] ∧ l' = (m1, .list (labsL h.ms.size (lab h.edges))) :: (m2, .list (natL (joints h.edges))) :: (m3, .list (told.map fun t => edgeAV (toldEdge t))) :: h.cells N
theorem edge_at {es : List Edge} {i : Nat} {x : AV} (h : (es.map edgeAV)[i]? = some x) : ∃ e, es[i]? = some e ∧ x = edgeAV e := by
  rw [List.getElem?_map] at h
  obtain ⟨e, h1, h2⟩ := Option.map_eq_some_iff.mp h
  exact ⟨e, h1, h2.symm⟩
theorem perm3 {α : Type} (a b c : α) (l : List α) : (a :: b :: c :: l).Perm (c :: b :: a :: l) :=
  (List.Perm.swap b a _).trans (((List.Perm.swap c a l).cons b).trans (List.Perm.swap c b _))
/-- the first for the fourth -/
theorem perm4 {α : Type} (a b c d : α) (l : List α) : (d :: b :: c :: a :: l).Perm (a :: b :: c :: d :: l) :=
  (perm3 d b c _).trans (((((List.Perm.swap a d l).cons b).cons c)).trans ((perm3 c b a _).trans ((List.Perm.refl _))))
theorem joints_len (es : List Edge) : (joints es).length ≤ es.length := by
  unfold joints
  refine Nat.le_trans (List.length_filter_le _ _) (by simp)
theorem does_led {h : HS} {told : List (Nat × Nat × String)} (H : Has c N) (E : HasE c N L) (h1 : 5 ≤ d) (hk : HOK T h) (hi : EInv h.ms told) :
    Does c d callL [.raw (.ref L.f_led), .ref h.self] (h.cells N) (ledP N h told) := by
  refine does_of fun σ hA => ?_
  have G := H.gs
  obtain ⟨f1, f2, f3, f4, f5, _⟩ := hk.fits
  have hsz : h.ms.size = h.b.nodes.length := rfl
  have hz : Fits h.ms.size := by unfold Fits; omega
  refine call_at E.d_led (by omega) rfl ?_
  have hA0 := Hid.mk hA
  unfold body_E_led
  simp only [HS.cells, HS.own, BS.cells, US.cells, List.cons_append, List.nil_append] at hA
  repeat walk_at "mgo"
  refine call_hSize H (by omega) hA0.is hk ?_
  repeat walk_at "mgo"
  refine call_range1 ?_
  repeat walk_at "mgo"
  refine call_list_rng near0 (near_nat hz) fun m1 hm1 => ?_
  simp only [Int.sub_zero, Int.toNat_natCast]
  have er : rangeAV 0 h.ms.size = labsL h.ms.size (lab ([] : List Edge)) := by
    unfold rangeAV labsL natL
    rw [List.map_map]
    refine List.map_congr_left fun x hx => ?_
    simp [lab]
  rw [er]
  replace hA0 := Hid.mk (hA0.is.new (c := .list (labsL h.ms.size (lab ([] : List Edge)))) hm1)
  clear hA
  generalize σ.set m1 _ = σ1 at hA0 ⊢
  repeat walk_at "mgo"
  intro m2 hm2
  replace hA0 := Hid.mk (hA0.is.new (c := .list []) hm2)
  generalize σ1.set m2 _ = σ2 at hA0 ⊢
  repeat walk_at "mgo"
  intro m3 hm3
  replace hA0 := Hid.mk (hA0.is.new (c := .list []) hm3)
  generalize σ2.set m3 _ = σ3 at hA0 ⊢
  repeat walk_at "mgo"
  refine unpack_tup rfl ?_
  have hA := hA0.is
  simp only [HS.cells, HS.own, BS.cells, US.cells, List.cons_append, List.nil_append] at hA
  repeat walk_at "mgo"
  refine w_eachE G ?_
  repeat walk_at "mgo"
  refine ⟨h.le, h.edges.map edgeAV, rfl, by walk_at "mat", by rw [List.length_map]; omega, ?_⟩
  clear hA
  refine compLoop_of (fun i m' σ' => ∃ lc t, At σ' ((m3, .list (t.map fun t => edgeAV (toldEdge t))) :: (m2, .list (natL (joints (h.edges.take i)))) :: (lc, .list (labsL h.ms.size (lab (h.edges.take i)))) :: h.cells N) ∧ toldOf (h.edges.take i) t ∧ m' = [("one", .ref h.self), ("lots", .ref lc), ("joints", .ref m2), ("told_ones", .ref m3)]) ⟨m1, [], hA0.is, rfl, rfl⟩ ?_ ?_ ?_
  · rintro i b σ' ⟨lc, t, hA, _⟩
    refine hA.get ?_
    unfold HS.cells HS.own
    walk_at "mmem"
  · rintro i x m' σ' k hx ⟨lc, t, hA1, ht, rfl⟩ hk2
    rw [enum_at] at hx
    obtain ⟨y, hy, rfl⟩ := Option.map_eq_some_iff.mp hx
    obtain ⟨⟨a, b, why⟩, he, rfl⟩ := edge_at hy
    obtain ⟨ha, hb⟩ := hi.ends _ (List.mem_of_getElem? he)
    have hie := (List.getElem?_eq_some_iff.mp he).1
    have htk : h.edges.take (i + 1) = h.edges.take i ++ [(a, b, why)] := by rw [List.take_add_one, he]; rfl
    have htl := toldOf_len ht
    rw [List.length_take] at htl
    have hjl := joints_len (h.edges.take i)
    rw [List.length_take] at hjl
    simp only at ha hb
    have hA := hA1
    replace hA1 := Hid.mk hA1
    simp only [HS.cells, HS.own, BS.cells, US.cells, List.cons_append, List.nil_append] at hA
    -- the later half
    have half : ∀ (t' : List (Nat × Nat × String)) (σ2 : AHeap) (w : AV), toldOf (h.edges.take i ++ [(a, b, why)]) t' → At σ2 ((m3, .list (t'.map fun t => edgeAV (toldEdge t))) :: (m2, .list (natL (joints (h.edges.take i)))) :: (lc, .list (labsL h.ms.size (lab (h.edges.take i)))) :: h.cells N) →
        wpSs c (d - 1) (.cons (.ite (.cmp (.sub (.var "lots") (.var "a")) .NotEq (.sub (.var "lots") (.var "b"))) (.cons (.expr (.meth (.var "joints") "append" (.cons (.var "k") .nil))) (.cons (.assign (.name "lots") (.call (.glob "_law_joined") (.cons (.var "lots") (.cons (.var "a") (.cons (.var "b") .nil))))) .nil)) .nil) .nil)
          [("one", .ref h.self), ("lots", .ref lc), ("joints", .ref m2), ("told_ones", .ref m3), ("k", .int ((0 + i : Nat) : Int)), ("a", .int (a : Nat)), ("b", .int (b : Nat)), ("why", w)] σ2
          (fun m'' σ₂ => k (Loc.only [("one", .ref h.self), ("lots", .ref lc), ("joints", .ref m2), ("told_ones", .ref m3)] m'') σ₂) (fun v σ' => ∃ l', ledP N h told v l' ∧ At σ' l') (fun _ _ _ => False) := by
      intro t' σ2 w ht' hA2
      have hA := hA2
      replace hA2 := Hid.mk hA2
      simp only [HS.cells, HS.own, BS.cells, US.cells, List.cons_append, List.nil_append] at hA
      clear hA1
      repeat walk_at "mgo"
      refine sub_labs (by walk_at "mat") hz ha ?_
      repeat walk_at "mgo"
      refine sub_labs (by walk_at "mat") hz hb ?_
      repeat walk_at "mgo"
      by_cases hne : lab (h.edges.take i) a = lab (h.edges.take i) b
      · rw [decide_eq_false (by rw [hne]; simp)]
        repeat walk_at "mgo"
        refine hk2 _ _ ⟨lc, t', ?_, by rw [htk]; exact ht', rfl⟩
        rw [htk, joints_snoc, if_neg (by simpa using hne), List.append_nil, lab_snoc]
        have : labStep (lab (h.edges.take i)) (a, b, why) = lab (h.edges.take i) := by unfold labStep; rw [if_pos hne]
        rw [this]
        exact hA2.is
      · rw [decide_eq_true (by omega : ((lab (h.edges.take i) a : Nat) : Int) ≠ ((lab (h.edges.take i) b : Nat) : Int))]
        repeat walk_at "mgo"
        refine call_append_natL (by walk_at "mat") (by unfold Fits; omega) ?_
        have hA3 := Hid.mk (hA2.is.upd (c' := .list (natL (joints (h.edges.take i) ++ [0 + i]))) (.tail .head))
        replace hA := hA.upd (c' := .list (natL (joints (h.edges.take i) ++ [0 + i]))) (.tail .head)
        clear hA2
        generalize σ2.set m2 _ = σ4 at hA hA3 ⊢
        repeat walk_at "mgo"
        refine call_joined (n := h.ms.size) (f := lab (h.edges.take i)) (r := why) H E (by omega) (by walk_at "mat") hz ha hb hne fun m4 hm4 => ?_
        have hA4 := hA3.is.new (c := .list (labsL h.ms.size (labStep (lab (h.edges.take i)) (a, b, why)))) hm4
        clear hA hA3
        generalize σ4.set m4 _ = σ5 at hA4 ⊢
        repeat walk_at "mgo"
        refine hk2 _ _ ⟨m4, t', ?_, by rw [htk]; exact ht', rfl⟩
        rw [htk, joints_snoc, if_pos (by simpa using hne), lab_snoc]
        have e0 : (h.edges.take i).length = 0 + i := by rw [List.length_take]; omega
        rw [e0]
        exact (hA4.perm (perm4 _ _ _ _ _)).tail
    repeat walk_at "mgo"
    refine unpack_tup rfl ?_
    repeat walk_at "mgo"
    refine unpack_tup rfl ?_
    repeat walk_at "mgo"
    rcases toldOf_at hi.told he with hw | ⟨x, hw⟩
    · simp only at hw
      subst hw
      refine cmp_ne_no (D := .tup [.str "like"]) (D' := .tup [.str "like"]) (.tup (.cons (.str _) .nil)) (.tup (.cons (.str _) .nil)) (by simp [ddeep, ddeeps]) rfl ?_
      repeat walk_at "mgo"
      refine call_isLike H E (by omega) (l := lc) (hA1.is.sub (List.Sublist.trans (List.sublist_cons_self _ _) (List.sublist_cons_self _ _))) hk ha hb (hi.likes i _ he rfl) ?_
      refine truth_bool (ifNT (w_nil (w_nil ?_)))
      exact half t σ' _ (toldOf_like ht) hA1.is
    · simp only at hw
      subst hw
      refine cmp_ne_yes (D := .tup [.str "told", .str x]) (D' := .tup [.str "like"]) (.tup (.cons (.str _) (.cons (.str _) .nil))) (.tup (.cons (.str _) .nil)) (by simp [ddeep, ddeeps]) (by intro q; simp at q) ?_
      repeat walk_at "mgo"
      refine call_append (by walk_at "mat") (by rw [List.length_map]; unfold Fits; omega) ?_
      have hA3 := hA1.is.upd (c' := .list ((t ++ [(a, b, x)]).map fun t => edgeAV (toldEdge t))) .head
      rw [show (t.map fun t => edgeAV (toldEdge t)) ++ [AV.tup [AV.int (a : Int), AV.int (b : Int), toldAV x]] = (t ++ [(a, b, x)]).map fun t => edgeAV (toldEdge t) by simp [edgeAV, toldEdge]]
      clear hA hA1
      generalize σ'.set m3 _ = σ4 at hA3 ⊢
      refine w_nil ?_
      exact half _ σ4 _ (toldOf_told ht) hA3
  · rintro m' σ' ⟨lc, t, hA, ht, rfl⟩
    rw [enum_len, List.length_map, List.take_length] at hA ht
    have : t = told := toldOf_one ht hi.told
    subst this
    repeat walk_at "mgo"
    exact ⟨_, ⟨lc, m2, m3, rfl, rfl⟩, hA.perm (perm3 _ _ _ _)⟩
end

-- Cx65
set_option Elab.async false
set_option linter.unusedVariables false
set_option linter.unusedSimpArgs false
set_option maxRecDepth 20000

def toldDV (t : Nat × Nat × String) : DV := .tup [.int (t.1 : Nat), .int (t.2.1 : Nat), .tup [.str "told", .str t.2.2]]
theorem dens_told {σ : AHeap} : ∀ (l : List (Nat × Nat × String)), Dens σ (l.map fun t => edgeAV (toldEdge t)) (l.map toldDV)
  | [] => .nil
  | t :: l => .cons (.tup (.cons (.int _) (.cons (.int _) (.cons (.tup (.cons (.str _) (.cons (.str _) .nil))) .nil)))) (dens_told l)
theorem deep_told : ∀ (l : List (Nat × Nat × String)), ddeeps (l.map toldDV) ≤ 2
  | [] => by simp [ddeeps]
  | t :: l => by
    have := deep_told l
    simp only [List.map_cons, ddeeps, toldDV, ddeep]
    omega
theorem dens_nat {σ : AHeap} (l : List Nat) : Dens σ (natL l) (l.map fun (n : Nat) => DV.int (n : Int)) := by
  have := Dens.ints (σ := σ) (l.map fun (n : Nat) => (n : Int))
  rw [List.map_map, List.map_map] at this
  exact this
theorem deep_nat : ∀ (l : List Nat), ddeeps (l.map fun (n : Nat) => DV.int (n : Int)) = 0
  | [] => rfl
  | a :: l => by rw [List.map_cons, ddeeps, deep_nat l]; rfl
section
variable {c : Cx} {d : Nat} {σ : AHeap} {Q : AV → AHeap → Prop} {X : Addr → AHeap → Prop} {N : Nms} {T : Nat} {L : NE}
theorem call_stands {h : HS} {told : List (Nat × Nat × String)} {mt : Addr} (H : Has c N) (E : HasE c N L) (h1 : 6 ≤ d) (hk : HOK T h) (hi : EInv h.ms told) (hA : At σ ((mt, .list (told.map fun t => edgeAV (toldEdge t))) :: h.cells N)) (hq : Q (.bool true) σ) :
    CallOK c d (.raw (.ref L.f_stands)) [.ref h.self, .ref mt] σ Q X := by
  refine reads_of (P := fun v => v = .bool true) (fun σ hA => ?_) hA fun v e => e ▸ hq
  have G := H.gs
  obtain ⟨f1, f2, f3, f4, f5, f6, f7, f8, f9⟩ := hk.fits
  have hsz : h.ms.size = h.b.nodes.length := rfl
  have hz : Fits h.ms.size := by unfold Fits; omega
  refine call_at E.d_stands (by omega) rfl ?_
  unfold body_E_stands
  repeat walk_at "mgo"
  have hpm : ∀ {a : Addr × Cell} {l : Cells}, ((l ++ [a]) : Cells).Perm (a :: l) := fun {a l} => List.perm_append_singleton a l
  refine does_led H E (by omega) hk hi σ hA.tail _ _ fun v l' σ1 hp hA1 o => ?_
  obtain ⟨m1, m2, m3, rfl, rfl⟩ := hp
  have hA2 := At.rest (r := [(mt, .list (told.map fun t => edgeAV (toldEdge t)))]) (hA.perm hpm) hA1 o
  have hA3 := Hid.mk (hA2.perm hpm.symm)
  clear hA hA1 hA2 o
  have hA := hA3.is
  simp only [HS.cells, HS.own, BS.cells, US.cells, List.cons_append, List.nil_append] at hA
  repeat walk_at "mgo"
  refine is_none rfl ?_
  repeat walk_at "mgo"
  refine sub_tup (k := 2) (seqIdx_nat (i := 2) (by simp)) rfl (by decide) ?_
  repeat walk_at "mgo"
  have hdt := deep_told told
  refine cmp_ne_no (.list (by walk_at "mat") (dens_told told)) (.list (by walk_at "mat") (dens_told told)) (by rw [ddeep]; omega) rfl ?_
  repeat walk_at "mgo"
  refine call_list_l (by walk_at "mat") (by rw [natL_len]; unfold Fits; omega) fun m4 hm4 => ?_
  replace hA := hA.new (c := .list (natL h.forest)) hm4
  replace hA3 := Hid.mk (hA3.is.new (c := .list (natL h.forest)) hm4)
  generalize σ1.set m4 _ = σ2 at hA hA3 ⊢
  repeat walk_at "mgo"
  refine sub_tup (k := 1) (seqIdx_nat (i := 1) (by simp)) rfl (by decide) ?_
  refine cmp_ne_no (.list (by walk_at "mat") (dens_nat h.forest)) (.list (by walk_at "mat") (dens_nat (joints h.edges))) (by rw [ddeep, deep_nat]; omega) (by rw [show h.forest = joints h.edges from hi.forest]) ?_
  repeat walk_at "mgo"
  have hH := Hid.mk hA3.is.tail.tail.tail.tail.tail
  refine call_hSize H (by omega) hH.is hk ?_
  repeat walk_at "mgo"
  refine call_range1 ?_
  refine iter_range near0 (near_nat hz) ?_
  simp only [Int.sub_zero, Int.toNat_natCast]
  refine ⟨by rw [rangeAV_len]; exact hz.le, ?_⟩
  refine compLoop_of (fun i acc σ' => σ' = σ2 ∧ acc = natL ((List.range i).map (root h.u.par))) ⟨rfl, rfl⟩ (fun _ _ _ _ => trivial) ?_ ?_
  · rintro i x acc σ' k hx ⟨rfl, rfl⟩ hk2
    obtain ⟨hil, rfl⟩ := rangeAV_at hx
    repeat walk_at "mgo"
    refine call_hFind H (by omega) hH.is hk hil ?_
    refine hk2 _ _ ⟨rfl, ?_⟩
    rw [List.range_succ, List.map_append, List.map_cons, List.map_nil, natL_snoc]
    rfl
  · rintro acc σ' ⟨rfl, rfl⟩ m5 hm5
    rw [rangeAV_len]
    replace hA := hA.new (c := .list (natL ((List.range h.ms.size).map (root h.u.par)))) hm5
    replace hA3 := Hid.mk (hA3.is.new (c := .list (natL ((List.range h.ms.size).map (root h.u.par)))) hm5)
    clear hH
    generalize σ'.set m5 _ = σ3 at hA hA3 ⊢
    repeat walk_at "mgo"
    refine sub_tup (k := 0) (seqIdx_nat (i := 0) (by simp)) rfl (by decide) ?_
    refine cmp_eq_yes (.list (by walk_at "mat") (dens_nat ((List.range h.ms.size).map (root h.u.par)))) (.list (by unfold labsL at hA; walk_at "mat") (dens_nat ((List.range h.ms.size).map (lab h.edges)))) (by rw [ddeep, deep_nat]; omega) ?_ ?_
    · congr 1
      rw [List.map_map, List.map_map]
      refine List.map_congr_left fun x hx => ?_
      have := hi.labs x
      rw [if_pos (List.mem_range.mp hx)] at this
      show DV.int ((root h.u.par x : Nat) : Int) = DV.int ((lab h.edges x : Nat) : Int)
      rw [show lab h.edges x = root h.u.par x from this]
    · refine ⟨rfl, ?_⟩
      have h9 := hA3.is.tail.tail
      refine At.sub h9 (List.Sublist.cons_cons _ ?_)
      exact List.Sublist.trans (List.sublist_cons_self _ _) (List.Sublist.trans (List.sublist_cons_self _ _) (List.sublist_cons_self _ _))
end

-- Cx66
set_option Elab.async false
set_option linter.unusedVariables false
set_option linter.unusedSimpArgs false
set_option maxRecDepth 20000

theorem settle_size {T : Nat} {s : MS} (hm : MOK T s) : s.settle.size = s.size :=
  (MS.settle_ind (fun x => x.size = s.size) (fun x n _ h _ => ((MS.look_size _ _).1.trans h)) s.left s (Nat.le_refl _) hm rfl).2.1
theorem At.front {σ : AHeap} {A B : Cells} {x : Addr × Cell} (h : At σ (A ++ (B ++ [x]))) : At σ (x :: A) := by
  have p : (x :: (A ++ B)).Perm (A ++ (B ++ [x])) := by
    rw [← List.append_assoc]
    exact (List.perm_append_singleton x (A ++ B)).symm
  exact (h.perm p).sub ((List.sublist_append_left A B).cons_cons x)
section
variable {c : Cx} {d : Nat} {σ : AHeap} {Q : AV → AHeap → Prop} {X : Addr → AHeap → Prop} {N : Nms} {T : Nat} {L : NE} {Y : Addr → AHeap → Prop} {m : Loc}
theorem w_dictS {ks : List String} {l : IEs} (h : wpEs c d l m σ (fun as σ' => as.length = ks.length ∧ ks.Nodup ∧ ∀ a, σ' a = none → Q (.ref a) (σ'.set a (.dictS (ks.zip as)))) Y) : wpE c d (.dictS ks l) m σ Q Y := by rw [wpE]; exact h
theorem cmp_ne_bool {x y : Bool} (h : Q (.bool (x != y)) σ) : CmpOK c d .NotEq (.bool x) (.bool y) σ Q X :=
  pure_cmp (fun A s E P u v _ ru rv k => by cases ru; cases rv; exact PyProof.Rows.ne_bool (k _ _ (.refl s) (.bool _))) h
def deedAV (told : List (Nat × Nat × String)) : Cell := .list (told.map fun t => edgeAV (toldEdge t))
def LawC (N : Nms) (h : HS) (a l : Addr) (cs : List Int) (n : Nat) (mt : Addr) (told : List (Nat × Nat × String)) : Cells := h.cells N ++ (srcC a l cs n ++ [(mt, deedAV told)])
/-- what holds ahead of each deed -/
structure Deed (c : Cx) (N : Nms) (h : HS) (T n t : Nat) (told : List (Nat × Nat × String)) : Prop where
  ok : HOK T h
  ed : EInv h.ms told
  few : h.ms.size ≤ 2 + 7 * t
  some : 1 ≤ h.ms.size
  tl : T ≤ t
  sp : n ≤ 1 + 20 * t
theorem LawC.src {h : HS} {a l : Addr} {cs : List Int} {n n' : Nat} {mt : Addr} {told : List (Nat × Nat × String)} {σ σ' : AHeap} (hA : At σ (LawC N h a l cs n mt told)) (h' : At σ' (srcC a l cs n')) (o : Out (srcC a l cs n) (srcC a l cs n') σ σ') : At σ' (LawC N h a l cs n' mt told) := At.mid hA h' o
theorem LawC.atS {h : HS} {a l : Addr} {cs : List Int} {n : Nat} {mt : Addr} {told : List (Nat × Nat × String)} {σ : AHeap} (hA : At σ (LawC N h a l cs n mt told)) : At σ (srcC a l cs n) := hA.sub (List.Sublist.trans (List.sublist_append_left _ _) (List.sublist_append_right _ _))
theorem LawC.atH {h : HS} {a l : Addr} {cs : List Int} {n : Nat} {mt : Addr} {told : List (Nat × Nat × String)} {σ : AHeap} (hA : At σ (LawC N h a l cs n mt told)) : At σ (h.cells N) := hA.sub (List.sublist_append_left _ _)
theorem LawC.heap {h h2 : HS} {a l : Addr} {cs : List Int} {n : Nat} {mt : Addr} {told : List (Nat × Nat × String)} {σ σ' : AHeap} (hA : At σ (LawC N h a l cs n mt told)) (h' : At σ' (h2.cells N)) (o : Out (h.cells N) (h2.cells N) σ σ') : At σ' (LawC N h2 a l cs n mt told) := At.rest hA h' o
theorem LawC.atT {h : HS} {a l : Addr} {cs : List Int} {n : Nat} {mt : Addr} {told : List (Nat × Nat × String)} {σ : AHeap} (hA : At σ (LawC N h a l cs n mt told)) : σ mt = some (deedAV told) := hA.get (List.mem_append_right _ (List.mem_append_right _ List.mem_cons_self))
set_option maxHeartbeats 8000000 in
theorem call_law {l0 : Addr} {ns : List Int} (H : Has c N) (E : HasE c N L) (hs : Script c l0 ns) (hn : ns.length ≤ 63) (h1 : 30 ≤ d) : CallOK c d (.raw (.ref L.f_law)) [.ref l0] σ (fun v _ => v = .bool true) (fun _ _ => False) := by
  refine op_less (Q' := fun v _ => v = .bool true) ?_ fun v σ' e => ⟨σ', Sub.refl _, e⟩
  refine reads_of (l := []) (σ := σ) (P := fun v => v = .bool true) (fun σ hA => ?_) .nil fun v e => e
  have G := H.gs
  refine call_at E.d_law (by omega) rfl ?_
  unfold body_E_law
  repeat walk_at "mgo"
  refine w_dictS ?_
  repeat walk_at "mgo"
  refine sub_slc_script hs rfl rfl (by unfold Fits; omega) fun m0 hm0 => ?_
  rw [show slcOf (intL ns) .none (.int 60) = intL (ns.take 60) from slcOf_take ns 60]
  replace hA := hA.new (c := .list (intL (ns.take 60))) hm0
  generalize σ.set m0 _ = σ1 at hA ⊢
  refine iter_list (by walk_at "mat") ?_
  have htl : (ns.take 60).length ≤ 60 := by rw [List.length_take]; omega
  have hm0' : σ1 m0 = some (.list (intL (ns.take 60))) := hA.get List.mem_cons_self
  refine ⟨small_len (by rw [intL_len]; omega), ?_⟩
  refine compLoop_of (fun i acc σ' => σ' = σ1 ∧ ∃ cs, acc = intL cs ∧ cs.length ≤ i) ⟨rfl, [], rfl, Nat.le_refl _⟩ (fun i b σ' ⟨q, _⟩ => q ▸ hm0') ?_ ?_
  · rintro i x acc σ' k hx ⟨rfl, cs, rfl, hcs⟩ hk
    unfold intL at hx
    rw [List.getElem?_map] at hx
    obtain ⟨z, hz, rfl⟩ := Option.map_eq_some_iff.mp hx
    repeat walk_at "mgo"
    refine call_abs ?_
    repeat walk_at "mgo"
    refine bin_mod (by omega) ?_
    exact hk _ _ ⟨rfl, cs ++ [(if z < 0 then -z else z).fmod 1000003], by simp only [intL, List.map_append, List.map_cons, List.map_nil], by rw [List.length_append, List.length_singleton]; omega⟩
  · rintro acc σ' ⟨rfl, cs, rfl, hcs⟩ lc hlc
    have hcs' : cs.length ≤ 1000 := by rw [intL_len] at hcs; omega
    replace hA := (hA.new (c := .list (intL cs)) hlc).sub ((List.sublist_cons_self _ _).cons_cons _)
    generalize σ'.set lc _ = σ2 at hA ⊢
    repeat walk_at "mgo"
    refine ⟨rfl, by decide, fun sa hsa => ?_⟩
    replace hA := hA.new (c := .dictS [("cells", .ref lc), ("spot", .int ((0 : Nat) : Int))]) hsa
    rw [show (["cells", "spot"].zip [AV.ref lc, AV.int 0]) = [("cells", AV.ref lc), ("spot", .int ((0 : Nat) : Int))] from rfl]
    generalize σ2.set sa _ = σ3 at hA ⊢
    have hA3 : At σ3 (srcC sa lc cs 0) := hA
    clear hA
    repeat walk_at "mgo"
    refine does_hNew H (by omega) σ3 .nil _ _ fun v l' σ4 hp hH o => ?_
    obtain ⟨h, rfl, hms, hok, rfl⟩ := hp
    have hA4 := At.rest (l := []) hA3 hH o
    clear hA3 hH o
    repeat walk_at "mgo"
    intro mt hmt
    have hA5 : Hid (At (σ4.set mt (.list [])) (LawC N h sa lc cs 0 mt [])) := ⟨(hA4.new (c := .list []) hmt).perm (by
      unfold LawC
      rw [← List.append_assoc]
      exact List.perm_append_singleton _ _)⟩
    clear hA4
    generalize σ4.set mt _ = σ5 at hA5 ⊢
    repeat walk_at "mgo"
    refine unpack_tup rfl ?_
    have e0 : EInv h.ms [] := by rw [hms]; exact EInv.empty
    have s0 : h.ms.size = 0 := by rw [hms]; rfl
    have hA := LawC.atH hA5.is
    simp only [HS.cells, HS.own, BS.cells, US.cells, List.cons_append, List.nil_append] at hA
    repeat walk_at "mgo"
    have ta : AV.tup [AV.str "a"] = (Term.leaf "a").av := rfl
    have tb : AV.tup [AV.str "b"] = (Term.leaf "b").av := rfl
    refine does_hPut H E (.leaf "a") (d - 1) 0 h (by simp only [Term.high]; omega) hok nice_a (by rw [s0]; simp [Term.count]) σ5 (LawC.atH hA5.is) _ _ fun v l' σ6 hp hH o => ?_
    obtain ⟨rfl, h2, k1, k2, k3, k4, rfl⟩ := hp
    obtain ⟨q1, q2⟩ := (Term.leaf "a").put_ind (fun s => EInv s []) (fun s n hm hp a1 a2 a3 => hp.add hm a1 a2 a3) h.ms hok.m e0 (by rw [s0]; simp [Term.count])
    obtain ⟨z1, z2, z3⟩ := (Term.leaf "a").put_size h.ms
    rw [← k2] at q1 q2 z1 z2 z3
    simp only [Term.count] at z2
    replace hA5 := Hid.mk (LawC.heap hA5.is hH o)
    clear hH o hA
    have hA := LawC.atH hA5.is
    simp only [HS.cells, HS.own, BS.cells, US.cells, List.cons_append, List.nil_append] at hA
    rw [← k1]
    repeat walk_at "mgo"
    refine does_hPut H E (.leaf "b") (d - 1) 0 h2 (by simp only [Term.high]; omega) ⟨k3, k4, q1⟩ nice_b (by simp only [Term.count]; omega) σ6 (LawC.atH hA5.is) _ _ fun v l' σ7 hp hH o => ?_
    obtain ⟨rfl, h3, g1, g2, g3, g4, rfl⟩ := hp
    obtain ⟨p1, p2⟩ := (Term.leaf "b").put_ind (fun s => EInv s []) (fun s n hm hp a1 a2 a3 => hp.add hm a1 a2 a3) h2.ms q1 q2 (by simp only [Term.count]; omega)
    obtain ⟨y1, y2, y3⟩ := (Term.leaf "b").put_size h2.ms
    rw [← g2] at p1 p2 y1 y2 y3
    simp only [Term.count] at y2
    replace hA5 := Hid.mk (LawC.heap hA5.is hH o)
    clear hH o hA
    rw [← g1]
    repeat walk_at "mgo"
    refine does_next (m := 6) H E (by omega) (by omega) (by omega) hcs' σ7 (LawC.atS hA5.is) _ _ fun v l' σ8 hp hS o => ?_
    obtain ⟨⟨r, hr, rfl⟩, rfl⟩ := hp
    replace hA5 := Hid.mk (LawC.src hA5.is hS o)
    clear hS o
    repeat walk_at "mgo"
    refine call_range1 ?_
    refine iter_range near0 (by unfold Near; omega) ?_
    rw [show ((3 : Int) + (r : Int) - 0).toNat = 3 + r by omega]
    refine compLoop_of (fun i m' σ' => ∃ hh T n told, hh.self = h3.self ∧ Deed c N hh T n i told ∧ At σ' (LawC N hh sa lc cs n mt told) ∧ m' = [("script", .ref l0), ("src", .ref sa), ("one", .ref h3.self), ("told_all", .ref mt)]) ⟨h3, 0, 0 + 1, [], rfl, ⟨⟨g3, g4, p1⟩, p2, by omega, by omega, Nat.le_refl _, by omega⟩, hA5.is, rfl⟩ (fun _ _ _ _ => trivial) ?_ ?_
    · rintro i x m' σ' k hx ⟨hh, T, n, told, hself, D, hA1, rfl⟩ hk
      obtain ⟨hi, rfl⟩ := rangeAV_at hx
      have hfew := D.few
      have hsome := D.some
      have htl2 := D.tl
      have hsp := D.sp
      replace hA1 := Hid.mk hA1
      repeat walk_at "mgo"
      refine does_next (m := 5) H E (by omega) (by omega) (by omega) hcs' σ' (LawC.atS hA1.is) _ _ fun v l' σa hp hS o => ?_
      obtain ⟨⟨way, hway, rfl⟩, rfl⟩ := hp
      replace hA1 := Hid.mk (LawC.src hA1.is hS o)
      clear hS o
      repeat walk_at "mgo"
      refine ifD (fun hw => ?_) (fun hw => ?_)
      · have hA := LawC.atH hA1.is
        simp only [HS.cells, HS.own, BS.cells, US.cells, List.cons_append, List.nil_append] at hA
        rw [← hself]
        repeat walk_at "mgo"
        clear hA
        refine does_term H E hcs' 2 (d - 1) (n + 1) (by omega) (by omega) (by omega) σa (LawC.atS hA1.is) _ _ fun v l' σb hp hS o => ?_
        obtain ⟨t, n', rfl, t1, t2, t3, t4, rfl⟩ := hp
        replace hA1 := Hid.mk (LawC.src hA1.is hS o)
        clear hS o
        repeat walk_at "mgo"
        refine does_hPut H E t (d - 1) T hh (by omega) D.ok t1 (by omega) σb (LawC.atH hA1.is) _ _ fun v l' σc hp hH o => ?_
        obtain ⟨rfl, h4, k1, k2, k3, k4, rfl⟩ := hp
        obtain ⟨q1, q2⟩ := t.put_ind (fun s => EInv s told) (fun s n hm hp a1 a2 a3 => hp.add hm a1 a2 a3) hh.ms D.ok.m D.ed (by omega)
        obtain ⟨z1, z2, z3⟩ := t.put_size hh.ms
        rw [← k2] at q1 q2 z1 z2 z3
        replace hA1 := Hid.mk (LawC.heap hA1.is hH o)
        clear hH o
        rw [← k1]
        repeat walk_at "mgo"
        refine call_stands H E (by omega) ⟨k3, k4, q1⟩ q2 (At.front hA1.is) ?_
        repeat walk_at "mgo"
        exact hk _ _ ⟨h4, T, n', told, k1.trans hself, ⟨⟨k3, k4, q1⟩, q2, by omega, by omega, by omega, by omega⟩, hA1.is, by rw [k1, hself]; rfl⟩
      · repeat walk_at "mgo"
        refine ifD (fun hw4 => ?_) (fun hw4 => ?_)
        · have hA := LawC.atH hA1.is
          simp only [HS.cells, HS.own, BS.cells, US.cells, List.cons_append, List.nil_append] at hA
          rw [← hself]
          repeat walk_at "mgo"
          refine call_hSize H (by omega) (LawC.atH hA1.is) D.ok ?_
          repeat walk_at "mgo"
          clear hA
          refine does_next (m := hh.ms.size) H E (by omega) hsome (by omega) hcs' σa (LawC.atS hA1.is) _ _ fun v l' σb hp hS o => ?_
          obtain ⟨⟨a, ha, rfl⟩, rfl⟩ := hp
          replace hA1 := Hid.mk (LawC.src hA1.is hS o)
          clear hS o
          have hA := LawC.atH hA1.is
          simp only [HS.cells, HS.own, BS.cells, US.cells, List.cons_append, List.nil_append] at hA
          repeat walk_at "mgo"
          refine call_hSize H (by omega) (LawC.atH hA1.is) D.ok ?_
          repeat walk_at "mgo"
          clear hA
          refine does_next (m := hh.ms.size) H E (by omega) hsome (by omega) hcs' σb (LawC.atS hA1.is) _ _ fun v l' σc hp hS o => ?_
          obtain ⟨⟨b, hb, rfl⟩, rfl⟩ := hp
          replace hA1 := Hid.mk (LawC.src hA1.is hS o)
          clear hS o
          have hA := LawC.atH hA1.is
          simp only [HS.cells, HS.own, BS.cells, US.cells, List.cons_append, List.nil_append] at hA
          repeat walk_at "mgo"
          refine unpack_tup rfl ?_
          repeat walk_at "mgo"
          refine call_hFind H (by omega) (LawC.atH hA1.is) D.ok ha ?_
          repeat walk_at "mgo"
          refine call_hFind H (by omega) (LawC.atH hA1.is) D.ok hb ?_
          repeat walk_at "mgo"
          refine call_str_int (by unfold Small; omega) ?_
          refine bin_add_str ?_ ?_
          · have h7 := PyProof.Rows.len_str_of_int (i : Int)
            rw [PyProof.Rows.ofString_len] at h7
            have h8 : "deed".length = 4 := by decide
            omega
          repeat walk_at "mgo"
          refine unpack_tup rfl ?_
          repeat walk_at "mgo"
          generalize "deed" ++ toString (i : Int) = dx at *
          have hT := LawC.atT hA1.is
          refine look_append hT ?_
          repeat walk_at "mgo"
          have htlen := toldOf_len D.ed.told
          obtain ⟨_, _, _, _, f5, _⟩ := D.ok.fits
          refine call_append hT (by rw [List.length_map]; unfold Fits; have : told.length ≤ hh.edges.length := htlen; omega) ?_
          rw [show (told.map fun t => edgeAV (toldEdge t)) ++ [AV.tup [AV.int (a : Int), AV.int (b : Int), AV.tup [AV.str "told", AV.str dx]]] = (told ++ [(a, b, dx)]).map fun t => edgeAV (toldEdge t) by simp [edgeAV, toldEdge, toldAV]]
          have hA2 : Hid (At (σc.set mt (.list ((told ++ [(a, b, dx)]).map fun t => edgeAV (toldEdge t)))) (LawC N hh sa lc cs (n + 1 + 1 + 1) mt (told ++ [(a, b, dx)]))) := ⟨hA1.is.upd (.right (.right .head))⟩
          clear hA hA1 hT
          generalize σc.set mt _ = σd at hA2 ⊢
          have hA := LawC.atH hA2.is
          simp only [HS.cells, HS.own, BS.cells, US.cells, List.cons_append, List.nil_append] at hA
          repeat walk_at "mgo"
          clear hA
          refine does_hMerge (r := toldAV dx) H (by omega) D.ok ha hb σd (LawC.atH hA2.is) _ _ fun v l' σe hp hH o => ?_
          obtain ⟨rfl, h4, k1, k2, k3, k4, rfl⟩ := hp
          have q1 := D.ok.m.join (r := toldAV dx) ha hb (by omega)
          have q2 := D.ed.join (r := toldAV dx) D.ok.m ha hb (toldOf_told D.ed.told) (fun e => absurd e.symm (like_ne_told dx))
          have hss : (hh.ms.join a b (toldAV dx)).size = hh.ms.size := by unfold MS.join; split <;> rfl
          rw [← k2] at q1 q2 hss
          replace hA2 := Hid.mk (LawC.heap hA2.is hH o)
          clear hH o
          rw [← k1]
          repeat walk_at "mgo"
          refine cmp_ne_bool ?_
          have hbb : (decide (hh.ms.find a ≠ hh.ms.find b) != decide (((hh.ms.find a : Nat) : Int) ≠ ((hh.ms.find b : Nat) : Int))) = false := by
            by_cases q : hh.ms.find a = hh.ms.find b
            · simp [q]
            · have : ((hh.ms.find a : Nat) : Int) ≠ ((hh.ms.find b : Nat) : Int) := by omega
              simp [q, this]
          rw [hbb]
          repeat walk_at "mgo"
          refine call_stands H E (by omega) ⟨k3, k4, q1⟩ q2 (At.front hA2.is) ?_
          repeat walk_at "mgo"
          exact hk _ _ ⟨h4, T + 1, n + 1 + 1 + 1, told ++ [(a, b, dx)], k1.trans hself, ⟨⟨k3, k4, q1⟩, q2, by omega, by omega, by omega, by omega⟩, hA2.is, by rw [k1, hself]; rfl⟩
        · have hA := LawC.atH hA1.is
          simp only [HS.cells, HS.own, BS.cells, US.cells, List.cons_append, List.nil_append] at hA
          rw [← hself]
          repeat walk_at "mgo"
          clear hA
          refine does_hSettle H (by omega) D.ok σa (LawC.atH hA1.is) _ _ fun v l' σc hp hH o => ?_
          obtain ⟨rfl, h4, k1, k2, k3, k4, rfl⟩ := hp
          obtain ⟨q1, q2, q3⟩ := D.ed.settle D.ok.m
          have hss := settle_size D.ok.m
          rw [← k2] at q1 q2 q3 hss
          replace hA1 := Hid.mk (LawC.heap hA1.is hH o)
          clear hH o
          rw [← k1]
          repeat walk_at "mgo"
          refine call_stands H E (by omega) ⟨k3, k4, q1⟩ q2 (At.front hA1.is) ?_
          repeat walk_at "mgo"
          exact hk _ _ ⟨h4, T, n + 1, told, k1.trans hself, ⟨⟨k3, k4, q1⟩, q2, by omega, by omega, by omega, by omega⟩, hA1.is, by rw [k1, hself]; rfl⟩
    · rintro m' σ' ⟨hh, T, n, told, hself, D, hA1, rfl⟩
      replace hA1 := Hid.mk hA1
      have htl2 := D.tl
      have hA := LawC.atH hA1.is
      simp only [HS.cells, HS.own, BS.cells, US.cells, List.cons_append, List.nil_append] at hA
      rw [← hself]
      repeat walk_at "mgo"
      clear hA
      refine does_hSettle H (by omega) D.ok σ' (LawC.atH hA1.is) _ _ fun v l' σc hp hH o => ?_
      obtain ⟨rfl, h4, k1, k2, k3, k4, rfl⟩ := hp
      obtain ⟨q1, q2, q3⟩ := D.ed.settle D.ok.m
      rw [← k2] at q1 q2 q3
      replace hA1 := Hid.mk (LawC.heap hA1.is hH o)
      clear hH o
      have hk4 : HOK T h4 := ⟨k3, k4, q1⟩
      obtain ⟨_, _, _, _, f5, _⟩ := hk4.fits
      rw [← k1]
      have hA := LawC.atH hA1.is
      simp only [HS.cells, HS.own, BS.cells, US.cells, List.cons_append, List.nil_append] at hA
      repeat walk_at "mgo"
      refine call_len_list (by walk_at "mat") (by rw [List.length_map]; unfold Fits; omega) ?_
      rw [List.length_map]
      repeat walk_at "mgo"
      clear hA
      refine does_hSettle H (by omega) hk4 σc (LawC.atH hA1.is) _ _ fun v l' σd hp hH o => ?_
      obtain ⟨rfl, h5, j1, j2, j3, j4, rfl⟩ := hp
      rw [MS.settle_end q3] at j2
      rw [← j2] at q1 q2 q3
      replace hA1 := Hid.mk (LawC.heap hA1.is hH o)
      clear hH o
      have hk5 : HOK T h5 := ⟨j3, j4, q1⟩
      have hed : h5.edges = h4.edges := congrArg MS.edges j2
      have hwt : h5.waiting = [] := q3
      rw [← j1]
      have hA := LawC.atH hA1.is
      simp only [HS.cells, HS.own, BS.cells, US.cells, List.cons_append, List.nil_append] at hA
      repeat walk_at "mgo"
      refine call_len_list (by walk_at "mat") (by rw [List.length_map, hed]; unfold Fits; omega) ?_
      rw [List.length_map, hed]
      repeat walk_at "mgo"
      rw [decide_eq_true rfl]
      repeat walk_at "mgo"
      refine call_hSettled H E (by omega) (LawC.atH hA1.is) hk5 ?_
      rw [decide_eq_true hwt]
      repeat walk_at "mgo"
      refine call_stands H E (by omega) hk5 q2 (At.front hA1.is) ?_
      exact ⟨rfl, .nil⟩
end

-- Cx67
set_option Elab.async false
set_option linter.unusedVariables false
set_option linter.unusedSimpArgs false
theorem zip_binds {α β : Type} [BEq α] [LawfulBEq α] : ∀ (ns : List α) (vs : List β), ns.Nodup → vs.length = ns.length → (∀ n ∈ ns, ((ns.zip vs).lookup n).isSome = true) ∧ ns.filterMap (fun n => ((ns.zip vs).lookup n).map fun v => (n, v)) = ns.zip vs
  | [], [], _, _ => ⟨fun n h => by simp at h, rfl⟩
  | [], _ :: _, _, h => by simp at h
  | _ :: _, [], _, h => by simp at h
  | n :: ns, v :: vs, hn, hl => by
    rw [List.nodup_cons] at hn
    obtain ⟨h1, h2⟩ := zip_binds ns vs hn.2 (by simpa using hl)
    have hlook : ∀ m ∈ ns, ((n :: ns).zip (v :: vs)).lookup m = (ns.zip vs).lookup m := fun m hm => by
      rw [List.zip_cons_cons, List.lookup_cons, beq_false_of_ne (fun e : m = n => hn.1 (by rw [← e]; exact hm))]
    refine ⟨fun m hm => ?_, ?_⟩
    · rcases List.mem_cons.mp hm with rfl | hm
      · simp
      · rw [hlook m hm]; exact h1 m hm
    · rw [List.filterMap_cons]
      simp only [List.zip_cons_cons, List.lookup_cons, beq_self_eq_true, Option.map_some]
      congr 1
      have gen : ∀ l : List α, (∀ m ∈ l, m ∈ ns) → l.filterMap (fun m => (match m == n with | true => some v | false => (ns.zip vs).lookup m).map fun v => (m, v)) = l.filterMap (fun m => ((ns.zip vs).lookup m).map fun v => (m, v)) := by
        intro l
        induction l with
        | nil => intro _; rfl
        | cons a l ih =>
          intro h
          have ha := h a (by simp)
          rw [List.filterMap_cons, List.filterMap_cons, ih fun m hm => h m (by simp [hm]), beq_false_of_ne (fun e : a = n => hn.1 (by rw [← e]; exact ha))]
      exact (gen ns fun m hm => hm).trans h2
def plainArgs (p : Arguments) (ps : List String) : Bool := p.posonlyargs.isEmpty && p.kwonlyargs.isEmpty && p.vararg.isNone && p.kwarg.isNone && decide (p.args.map (·.arg) = ps.map Str.ofString)
theorem bind_plain {fd : FuncData} {ps : List String} {vals : List Value} (h : plainArgs fd.params ps = true) (hd : fd.defaults = .none) (hn : ps.Nodup) (hl : vals.length = ps.length) : bindArgs fd ⟨vals, []⟩ = pure ((ps.map Str.ofString).zip vals) := by
  unfold plainArgs at h
  simp only [Bool.and_eq_true, List.isEmpty_iff, Option.isNone_iff_eq_none, decide_eq_true_eq] at h
  obtain ⟨⟨⟨⟨h1, h2⟩, h3⟩, h4⟩, h5⟩ := h
  have hnn : (ps.map Str.ofString).Nodup := by
    refine List.pairwise_map.mpr (hn.imp fun q e => q (ofString_inj e))
  obtain ⟨z1, z2⟩ := zip_binds (ps.map Str.ofString) vals hnn (by simpa using hl)
  have z3 : ((ps.map Str.ofString).filter fun n => (((ps.map Str.ofString).zip vals).lookup n).isNone) = [] := by
    rw [List.filter_eq_nil_iff]
    intro n hn
    have := z1 n hn
    simp only [Option.isSome_iff_ne_none, ne_eq] at this
    simpa using this
  have hs : seqItems? Value.none = pure none := rfl
  unfold bindArgs
  simp only [h1, h2, h3, h4, h5, hd, hs, List.map_nil, List.nil_append, List.append_nil, pure_bind, List.forIn_nil, Option.getD_none, List.length_map, hl, List.length_nil, List.drop_nil, Nat.sub_zero, Nat.lt_irrefl, gt_iff_lt, decide_false, Bool.false_and, Bool.false_eq_true, if_false]
  rw [List.take_of_length_le (by simp), z3]
  simp only [List.isEmpty_nil, Bool.not_true, Bool.false_eq_true, if_false, List.zip_nil_right, List.forIn_nil, pure_bind]
  rw [z2]
def defCheck (nm : List String) (K : Frag) (f : Addr) (ps : List String) : Option ISs := match K.lookup f with
  | some o => match o.data with
    | .func fd => match fd.body with
      | .stmts sts => if fd.closure.isEmpty && decide (fd.globals = mainGlobals) && decide (fd.builtins = builtinsNs) && decide (fd.scope.kind = .function) && !fd.scope.isCoroutine && !fd.scope.isGenerator && (fd.scope.names.all fun x => x.2 != .free) && (ps.all fun p => isWritten (fd.scope.names.lookup (Str.ofString p))) && codeIn K fd.code fd.qualname && plainArgs fd.params ps && decide (fd.defaults = .none) then trStmts (trS nm 30 fd.scope.names) sts else none
      | _ => none
    | _ => none
  | none => none
theorem def_of {c : Cx} {nm : List String} {f : Addr} {ps : List String} {body : ISs} (h : defCheck nm c.K f ps = some body) (hn : ps.Nodup) : DefAt c f ps body := by
  unfold defCheck at h
  cases hK : c.K.lookup f with
  | none => rw [hK] at h; cases h
  | some o =>
    rw [hK] at h
    dsimp only at h
    cases hd : o.data with
    | func fd =>
      rw [hd] at h
      dsimp only at h
      cases hb : fd.body with
      | stmts sts =>
        rw [hb] at h
        dsimp only at h
        split at h
        · rename_i hc
          simp only [Bool.and_eq_true, List.isEmpty_iff, decide_eq_true_eq, Bool.not_eq_true'] at hc
          obtain ⟨⟨⟨⟨⟨⟨⟨⟨⟨⟨c1, c2⟩, c3⟩, c4⟩, c5⟩, c6⟩, c7⟩, c8⟩, c9⟩, c10⟩, c11⟩ := hc
          exact ⟨nm, ⟨⟨o, fd, sts, hK, hd, hb, h, c1, c2, c3, c4, c5, c6, c7, fun vals hl => bind_plain c10 c11 hn hl, c8, c9⟩, hn⟩⟩
        · cases h
      | _ => rw [hb] at h; cases h
    | _ => rw [hd] at h; cases h
def clsCheck (K : Frag) (C : Addr) : Bool := (match K.lookup C with
  | some o => match o.data with
    | .cls _ => true
    | _ => false
  | none => false) && decide (specialIn K (.ref C) "__call__" = some (some (.builtin "type.__call__")))
theorem cls_fun {c : Cx} {C : Addr} (h : clsCheck c.K C = true) : IsFun c C := by
  unfold clsCheck at h
  rw [Bool.and_eq_true, decide_eq_true_eq] at h
  obtain ⟨h1, h2⟩ := h
  cases hK : c.K.lookup C with
  | none => rw [hK] at h1; cases h1
  | some o =>
    rw [hK] at h1
    dsimp only at h1
    cases hd : o.data with
    | cls cd => exact .inr (.inr (.inr ⟨C, o, cd, rfl, hK, hd, h2⟩))
    | _ => rw [hd] at h1; cases h1

-- Fa08
set_option Elab.async false
set_option maxRecDepth 100000
set_option linter.unusedVariables false
def nmE : List String := ["", " is no op of a ground term", "()[]{},:", "?", "Bank", "Heap", "Unions", "__init__", "a", "ab", "above", "abs", "add", "append", "b", "bank", "c", "cell", "cells", "classes", "deed", "depths", "edges", "enumerate", "extend", "f", "find", "first", "floors", "forest", "g", "gone", "is_op", "is_settled", "isspace", "join", "joints", "k", "kept", "kid", "kids", "known", "lap", "law", "led", "len", "like", "list", "look_at", "lot", "lots", "make", "many", "max", "merge", "merged", "min", "n", "new", "no term has the number ", "node", "nodes", "numbers", "old", "one", "op", "other", "others", "part", "pop", "put", "range", "reason", "require", "script", "self", "set", "setdefault", "settle", "sign", "size", "sorted", "spot", "src", "str", "sum", "t", "take", "term", "text", "told", "told_all", "told_ones", "tuple", "unions", "waiting", "way", "weights", "were_two", "why", "_law_is_like", "_law_joined", "_law_led", "_law_next", "_law_stands", "_law_term"]
def nmsE : Nms := ⟨256, 174, 388, 192, 199, 206, 213, 220, 232, 86, 93, 98, 105, 131, 138, 274, 281, 286, 291, 303, 310, 324, 331, 338, 352, 67⟩
def ownE : NE := ⟨296, 345, 399, 406, 411, 416, 423, 428, 433⟩
section
variable {c : Cx} {p : Params}
theorem globsE (hK : c.K = hd08.heap_39 p) : Globs c where
  g_len := .inr ⟨by rw [hK]; kernel_rfl, by decide +kernel, by decide⟩
  g_sorted := .inr ⟨by rw [hK]; kernel_rfl, by decide +kernel, by decide⟩
  g_sum := .inr ⟨by rw [hK]; kernel_rfl, by decide +kernel, by decide⟩
  g_max := .inr ⟨by rw [hK]; kernel_rfl, by decide +kernel, by decide⟩
  g_min := .inr ⟨by rw [hK]; kernel_rfl, by decide +kernel, by decide⟩
  g_abs := .inr ⟨by rw [hK]; kernel_rfl, by decide +kernel, by decide⟩
  g_set := .inr ⟨by rw [hK]; kernel_rfl, by decide +kernel, by decide⟩
  g_tuple := .inr ⟨by rw [hK]; kernel_rfl, by decide +kernel, by decide⟩
  g_list := .inr ⟨by rw [hK]; kernel_rfl, by decide +kernel, by decide⟩
  g_range := .inr ⟨by rw [hK]; kernel_rfl, by decide +kernel, by decide⟩
  g_str := .inr ⟨by rw [hK]; kernel_rfl, by decide +kernel, by decide⟩
  g_int := .inr ⟨by rw [hK]; kernel_rfl, by decide +kernel, by decide⟩
  g_enumerate := .inr ⟨by rw [hK]; kernel_rfl, by decide +kernel, by decide⟩
theorem hasE (hK : c.K = hd08.heap_39 p) : Has c nmsE where
  gs := globsE hK
  k_U := ⟨by rw [hK]; kernel_rfl, by rw [hK]; kernel_rfl, by rw [hK]; kernel_rfl, cls_fun (by rw [hK]; kernel_rfl)⟩
  g_U := .inl (by rw [hK]; kernel_rfl)
  a_U_above := ⟨by rw [hK]; kernel_rfl, by rw [hK]; kernel_rfl, none, by rw [hK]; kernel_rfl, by rw [hK]; kernel_rfl⟩
  s_U_above := ⟨by rw [hK]; kernel_rfl, by rw [hK]; kernel_rfl, by rw [hK]; kernel_rfl, by rw [hK]; kernel_rfl⟩
  a_U_lots := ⟨by rw [hK]; kernel_rfl, by rw [hK]; kernel_rfl, none, by rw [hK]; kernel_rfl, by rw [hK]; kernel_rfl⟩
  s_U_lots := ⟨by rw [hK]; kernel_rfl, by rw [hK]; kernel_rfl, by rw [hK]; kernel_rfl, by rw [hK]; kernel_rfl⟩
  a_U_merged := ⟨by rw [hK]; kernel_rfl, by rw [hK]; kernel_rfl, none, by rw [hK]; kernel_rfl, by rw [hK]; kernel_rfl⟩
  s_U_merged := ⟨by rw [hK]; kernel_rfl, by rw [hK]; kernel_rfl, by rw [hK]; kernel_rfl, by rw [hK]; kernel_rfl⟩
  d_U_init := def_of (nm := nmE) (by rw [hK]; kernel_rfl) (by decide)
  m_U_make := ⟨by rw [hK]; kernel_rfl, by rw [hK]; kernel_rfl, by rw [hK]; kernel_rfl⟩
  d_U_make := def_of (nm := nmE) (by rw [hK]; kernel_rfl) (by decide)
  m_U_size := ⟨by rw [hK]; kernel_rfl, by rw [hK]; kernel_rfl, by rw [hK]; kernel_rfl⟩
  d_U_size := def_of (nm := nmE) (by rw [hK]; kernel_rfl) (by decide)
  m_U_find := ⟨by rw [hK]; kernel_rfl, by rw [hK]; kernel_rfl, by rw [hK]; kernel_rfl⟩
  d_U_find := def_of (nm := nmE) (by rw [hK]; kernel_rfl) (by decide)
  m_U_merge := ⟨by rw [hK]; kernel_rfl, by rw [hK]; kernel_rfl, by rw [hK]; kernel_rfl⟩
  d_U_merge := def_of (nm := nmE) (by rw [hK]; kernel_rfl) (by decide)
  m_U_classes := ⟨by rw [hK]; kernel_rfl, by rw [hK]; kernel_rfl, by rw [hK]; kernel_rfl⟩
  d_U_classes := def_of (nm := nmE) (by rw [hK]; kernel_rfl) (by decide)
  k_B := ⟨by rw [hK]; kernel_rfl, by rw [hK]; kernel_rfl, by rw [hK]; kernel_rfl, cls_fun (by rw [hK]; kernel_rfl)⟩
  g_B := .inl (by rw [hK]; kernel_rfl)
  a_B_nodes := ⟨by rw [hK]; kernel_rfl, by rw [hK]; kernel_rfl, none, by rw [hK]; kernel_rfl, by rw [hK]; kernel_rfl⟩
  s_B_nodes := ⟨by rw [hK]; kernel_rfl, by rw [hK]; kernel_rfl, by rw [hK]; kernel_rfl, by rw [hK]; kernel_rfl⟩
  a_B_numbers := ⟨by rw [hK]; kernel_rfl, by rw [hK]; kernel_rfl, none, by rw [hK]; kernel_rfl, by rw [hK]; kernel_rfl⟩
  s_B_numbers := ⟨by rw [hK]; kernel_rfl, by rw [hK]; kernel_rfl, by rw [hK]; kernel_rfl, by rw [hK]; kernel_rfl⟩
  a_B_weights := ⟨by rw [hK]; kernel_rfl, by rw [hK]; kernel_rfl, none, by rw [hK]; kernel_rfl, by rw [hK]; kernel_rfl⟩
  s_B_weights := ⟨by rw [hK]; kernel_rfl, by rw [hK]; kernel_rfl, by rw [hK]; kernel_rfl, by rw [hK]; kernel_rfl⟩
  a_B_depths := ⟨by rw [hK]; kernel_rfl, by rw [hK]; kernel_rfl, none, by rw [hK]; kernel_rfl, by rw [hK]; kernel_rfl⟩
  s_B_depths := ⟨by rw [hK]; kernel_rfl, by rw [hK]; kernel_rfl, by rw [hK]; kernel_rfl, by rw [hK]; kernel_rfl⟩
  d_B_init := def_of (nm := nmE) (by rw [hK]; kernel_rfl) (by decide)
  m_B_size := ⟨by rw [hK]; kernel_rfl, by rw [hK]; kernel_rfl, by rw [hK]; kernel_rfl⟩
  d_B_size := def_of (nm := nmE) (by rw [hK]; kernel_rfl) (by decide)
  m_B_take := ⟨by rw [hK]; kernel_rfl, by rw [hK]; kernel_rfl, by rw [hK]; kernel_rfl⟩
  d_B_take := def_of (nm := nmE) (by rw [hK]; kernel_rfl) (by decide)
  m_B_require := ⟨by rw [hK]; kernel_rfl, by rw [hK]; kernel_rfl, by rw [hK]; kernel_rfl⟩
  d_B_require := def_of (nm := nmE) (by rw [hK]; kernel_rfl) (by decide)
  m_B_op := ⟨by rw [hK]; kernel_rfl, by rw [hK]; kernel_rfl, by rw [hK]; kernel_rfl⟩
  d_B_op := def_of (nm := nmE) (by rw [hK]; kernel_rfl) (by decide)
  m_B_kids := ⟨by rw [hK]; kernel_rfl, by rw [hK]; kernel_rfl, by rw [hK]; kernel_rfl⟩
  d_B_kids := def_of (nm := nmE) (by rw [hK]; kernel_rfl) (by decide)
  k_H := ⟨by rw [hK]; kernel_rfl, by rw [hK]; kernel_rfl, by rw [hK]; kernel_rfl, cls_fun (by rw [hK]; kernel_rfl)⟩
  g_H := .inl (by rw [hK]; kernel_rfl)
  a_H_bank := ⟨by rw [hK]; kernel_rfl, by rw [hK]; kernel_rfl, none, by rw [hK]; kernel_rfl, by rw [hK]; kernel_rfl⟩
  s_H_bank := ⟨by rw [hK]; kernel_rfl, by rw [hK]; kernel_rfl, by rw [hK]; kernel_rfl, by rw [hK]; kernel_rfl⟩
  a_H_unions := ⟨by rw [hK]; kernel_rfl, by rw [hK]; kernel_rfl, none, by rw [hK]; kernel_rfl, by rw [hK]; kernel_rfl⟩
  s_H_unions := ⟨by rw [hK]; kernel_rfl, by rw [hK]; kernel_rfl, by rw [hK]; kernel_rfl, by rw [hK]; kernel_rfl⟩
  a_H_edges := ⟨by rw [hK]; kernel_rfl, by rw [hK]; kernel_rfl, none, by rw [hK]; kernel_rfl, by rw [hK]; kernel_rfl⟩
  s_H_edges := ⟨by rw [hK]; kernel_rfl, by rw [hK]; kernel_rfl, by rw [hK]; kernel_rfl, by rw [hK]; kernel_rfl⟩
  a_H_forest := ⟨by rw [hK]; kernel_rfl, by rw [hK]; kernel_rfl, none, by rw [hK]; kernel_rfl, by rw [hK]; kernel_rfl⟩
  s_H_forest := ⟨by rw [hK]; kernel_rfl, by rw [hK]; kernel_rfl, by rw [hK]; kernel_rfl, by rw [hK]; kernel_rfl⟩
  a_H_known := ⟨by rw [hK]; kernel_rfl, by rw [hK]; kernel_rfl, none, by rw [hK]; kernel_rfl, by rw [hK]; kernel_rfl⟩
  s_H_known := ⟨by rw [hK]; kernel_rfl, by rw [hK]; kernel_rfl, by rw [hK]; kernel_rfl, by rw [hK]; kernel_rfl⟩
  a_H_above := ⟨by rw [hK]; kernel_rfl, by rw [hK]; kernel_rfl, none, by rw [hK]; kernel_rfl, by rw [hK]; kernel_rfl⟩
  s_H_above := ⟨by rw [hK]; kernel_rfl, by rw [hK]; kernel_rfl, by rw [hK]; kernel_rfl, by rw [hK]; kernel_rfl⟩
  a_H_waiting := ⟨by rw [hK]; kernel_rfl, by rw [hK]; kernel_rfl, none, by rw [hK]; kernel_rfl, by rw [hK]; kernel_rfl⟩
  s_H_waiting := ⟨by rw [hK]; kernel_rfl, by rw [hK]; kernel_rfl, by rw [hK]; kernel_rfl, by rw [hK]; kernel_rfl⟩
  d_H_init := def_of (nm := nmE) (by rw [hK]; kernel_rfl) (by decide)
  m_H_size := ⟨by rw [hK]; kernel_rfl, by rw [hK]; kernel_rfl, by rw [hK]; kernel_rfl⟩
  d_H_size := def_of (nm := nmE) (by rw [hK]; kernel_rfl) (by decide)
  m_H_node := ⟨by rw [hK]; kernel_rfl, by rw [hK]; kernel_rfl, by rw [hK]; kernel_rfl⟩
  d_H_node := def_of (nm := nmE) (by rw [hK]; kernel_rfl) (by decide)
  m_H_add := ⟨by rw [hK]; kernel_rfl, by rw [hK]; kernel_rfl, by rw [hK]; kernel_rfl⟩
  d_H_add := def_of (nm := nmE) (by rw [hK]; kernel_rfl) (by decide)
  m_H_look_at := ⟨by rw [hK]; kernel_rfl, by rw [hK]; kernel_rfl, by rw [hK]; kernel_rfl⟩
  d_H_look_at := def_of (nm := nmE) (by rw [hK]; kernel_rfl) (by decide)
  m_H_find := ⟨by rw [hK]; kernel_rfl, by rw [hK]; kernel_rfl, by rw [hK]; kernel_rfl⟩
  d_H_find := def_of (nm := nmE) (by rw [hK]; kernel_rfl) (by decide)
  m_H_merge := ⟨by rw [hK]; kernel_rfl, by rw [hK]; kernel_rfl, by rw [hK]; kernel_rfl⟩
  d_H_merge := def_of (nm := nmE) (by rw [hK]; kernel_rfl) (by decide)
  m_H_join := ⟨by rw [hK]; kernel_rfl, by rw [hK]; kernel_rfl, by rw [hK]; kernel_rfl⟩
  d_H_join := def_of (nm := nmE) (by rw [hK]; kernel_rfl) (by decide)
  m_H_settle := ⟨by rw [hK]; kernel_rfl, by rw [hK]; kernel_rfl, by rw [hK]; kernel_rfl⟩
  d_H_settle := def_of (nm := nmE) (by rw [hK]; kernel_rfl) (by decide)
  m_H_classes := ⟨by rw [hK]; kernel_rfl, by rw [hK]; kernel_rfl, by rw [hK]; kernel_rfl⟩
  d_H_classes := def_of (nm := nmE) (by rw [hK]; kernel_rfl) (by decide)
  g_is_op := .inl (by rw [hK]; kernel_rfl)
  d_is_op := def_of (nm := nmE) (by rw [hK]; kernel_rfl) (by decide)
theorem ownE_has (hK : c.K = hd08.heap_39 p) : HasE c nmsE ownE where
  m_Heap_put := ⟨by rw [hK]; kernel_rfl, by rw [hK]; kernel_rfl, by rw [hK]; kernel_rfl⟩
  d_Heap_put := def_of (nm := nmE) (by rw [hK]; kernel_rfl) (by decide)
  m_Heap_is_settled := ⟨by rw [hK]; kernel_rfl, by rw [hK]; kernel_rfl, by rw [hK]; kernel_rfl⟩
  d_Heap_is_settled := def_of (nm := nmE) (by rw [hK]; kernel_rfl) (by decide)
  g_next := .inl (by rw [hK]; kernel_rfl)
  d_next := def_of (nm := nmE) (by rw [hK]; kernel_rfl) (by decide)
  g_term := .inl (by rw [hK]; kernel_rfl)
  d_term := def_of (nm := nmE) (by rw [hK]; kernel_rfl) (by decide)
  g_joined := .inl (by rw [hK]; kernel_rfl)
  d_joined := def_of (nm := nmE) (by rw [hK]; kernel_rfl) (by decide)
  g_is_like := .inl (by rw [hK]; kernel_rfl)
  d_is_like := def_of (nm := nmE) (by rw [hK]; kernel_rfl) (by decide)
  g_led := .inl (by rw [hK]; kernel_rfl)
  d_led := def_of (nm := nmE) (by rw [hK]; kernel_rfl) (by decide)
  g_stands := .inl (by rw [hK]; kernel_rfl)
  d_stands := def_of (nm := nmE) (by rw [hK]; kernel_rfl) (by decide)
  g_law := .inl (by rw [hK]; kernel_rfl)
  d_law := def_of (nm := nmE) (by rw [hK]; kernel_rfl) (by decide)
end

end Mine

set_option Elab.async false
set_option maxRecDepth 100000 
set_option maxHeartbeats 8000000 
theorem PySem.Challenge.cw_pq0050_08_holds : PySem.Challenge.rw_pq0050_08.Holds := by
  refine hd08 ?_
  k_fill
  intro w s₀ s₁ mg mb G Y fa o pm cd doc dV kV ho hd hcd hD hmg hg args vals as hpre hlay hrd hwl hlo
  have KX := kIn_of Y
  refine Ground.open G ?_
  intro T B D TE TW
  wrow_args hpre hlay hrd hwl hlo
  have hfa := hmg.symm.trans (mg_of KX T.g (n := Str.ofString "law") (v := .ref 433) (by kernel_rfl))
  cases hfa
  clear ho hd hcd hD hmg G Y B D TE TW
  rename_i hns _ _ _ _ _ _ _ _ hL _ _ _ hI _ hle _
  refine Mine.law_ends (K := hd08.heap_39 w.params) (d := 60) (by decide) KX (topRead_of T) (T.seer (by decide +kernel)) hL hI (fun hs => ?_) ?_
  · exact Mine.call_law (N := Mine.nmsE) (L := Mine.ownE) (Mine.hasE (p := w.params) rfl) (Mine.ownE_has (p := w.params) rfl) hs (by omega) (by decide)
  · intro s' k ko kg
    exact GoodW.toG ⟨.inl ⟨.bool true, .bool true, [], rfl, fun cls => by first | rfl | kernel_rfl, .bool true, by first | kernel_rfl | (with_unfolding_all rfl) | (with_unfolding_all decide) | skip, fun _ => ⟨.nil, nofun⟩⟩, k, ko, kg.trans hg⟩
