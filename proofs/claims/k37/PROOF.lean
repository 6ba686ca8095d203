import PyProof.Rows.All
import Wide.All
import OpenK.AllK
import Wide.FinOn
import PyProof.EqAt
import PyProof.EqKinds
import PyProof.TupleCall
import PyProof.TupleKey
import PyProof.DictRoadsH
import PyProof.DictMoreH
import PyProof.P3Eq
import HandS.ForMost
import HandS.ForExc
import HandS.Wide
import HandS.WideBits
import HandS.EndBits
import HandS.IsInst
import HandS.CallSlots
import HandS.NoneIn
import HandS.TupAny
import HandS.SetBool
import KE.SortData
import HandS.TupLe
import HandS.Conv
import HandS.More
import HandS.SetKeys
import HandS.Iter
import HandS.Rev
import HandS.Dict
import HandS.Deep
import KE.DataMinMax
import HandS.SortKw
import KE.KExcIs
import HandS.ExcInit
import HandS.ExcField
import HandS.DictEq
import KE.KxIndex
import HandS.RevRange
import HandS.FStr
import HandS.Text
import KE.KDictPairs
import HandS.Zip0
import KE.KIntText
import PySem.Challenge.RW_realsay_k37_thirty_within_one_another
set_option Elab.async false
set_option linter.all false
set_option maxRecDepth 100000
set_option maxHeartbeats 4000000
namespace PD
open PySem PySem.Spec L2
open PyProof.Rows hiding St

mutual
def keyP : PyData → Bool
  | .int _ => true
  | .str x => PyData.strOk x
  | .tuple xs => keysP xs
  | _ => false
def keysP : List PyData → Bool
  | [] => true
  | x :: xs => keyP x && keysP xs
end
mutual
def hashP (w : World) : PyData → Int
  | .int i => hashInt i
  | .str x => hashStr w x
  | .tuple xs => reduceHash (Builtin.Tuple.tupleHashOf (hashesP w xs))
  | .bool b => PpSet.hB b
  | _ => 0
def hashesP (w : World) : List PyData → List Int
  | [] => []
  | x :: xs => hashP w x :: hashesP w xs
end
mutual
def drawsP : PyData → Nat
  | .tuple xs => drawsAP xs + 1
  | _ => 1
def drawsAP : List PyData → Nat
  | [] => 0
  | x :: xs => drawsP x + drawsAP xs
end
mutual
theorem keyP_lay : ∀ d : PyData, keyP d = true → d.canLay0 = true
  | .int _, _ => rfl
  | .str _, h => h
  | .tuple xs, h => keysP_lay xs h
  | .none, h => nomatch h
  | .bool _, h => nomatch h
  | .list _, h => nomatch h
  | .dict _, h => nomatch h
theorem keysP_lay : ∀ xs : List PyData, keysP xs = true → PyData.canLayAll0 xs = true
  | [], _ => rfl
  | x :: xs, h => by
    have h' : keyP x = true ∧ keysP xs = true := by simpa [keysP] using h
    simp [PyData.canLayAll0, keyP_lay x h'.1, keysP_lay xs h'.2]
end
mutual
theorem eqv_key : ∀ x y : PyData, keyP x = true → keyP y = true → (PyData.eqv x y = true ↔ x = y)
  | .int a, .int b, _, _ => by simp [PyData.eqv]
  | .int a, .str b, _, _ => by simp [PyData.eqv]
  | .int a, .tuple b, _, _ => by simp [PyData.eqv]
  | .str a, .int b, _, _ => by simp [PyData.eqv]
  | .str a, .str b, _, _ => by simp [PyData.eqv]
  | .str a, .tuple b, _, _ => by simp [PyData.eqv]
  | .tuple a, .int b, _, _ => by simp [PyData.eqv]
  | .tuple a, .str b, _, _ => by simp [PyData.eqv]
  | .tuple a, .tuple b, h, k => by
    rw [PyData.eqv, eqvAll_key a b h k]
    exact ⟨fun e => by rw [e], fun e => by cases e; rfl⟩
  | .none, _, h, _ => nomatch h
  | .bool _, _, h, _ => nomatch h
  | .list _, _, h, _ => nomatch h
  | .dict _, _, h, _ => nomatch h
  | .int _, .none, _, h => nomatch h
  | .int _, .bool _, _, h => nomatch h
  | .int _, .list _, _, h => nomatch h
  | .int _, .dict _, _, h => nomatch h
  | .str _, .none, _, h => nomatch h
  | .str _, .bool _, _, h => nomatch h
  | .str _, .list _, _, h => nomatch h
  | .str _, .dict _, _, h => nomatch h
  | .tuple _, .none, _, h => nomatch h
  | .tuple _, .bool _, _, h => nomatch h
  | .tuple _, .list _, _, h => nomatch h
  | .tuple _, .dict _, _, h => nomatch h
theorem eqvAll_key : ∀ xs ys : List PyData, keysP xs = true → keysP ys = true → (PyData.eqvAll xs ys = true ↔ xs = ys)
  | [], [], _, _ => by simp [PyData.eqvAll]
  | [], _ :: _, _, _ => by simp [PyData.eqvAll]
  | _ :: _, [], _, _ => by simp [PyData.eqvAll]
  | x :: xs, y :: ys, h, k => by
    have h' : keyP x = true ∧ keysP xs = true := by simpa [keysP] using h
    have k' : keyP y = true ∧ keysP ys = true := by simpa [keysP] using k
    rw [PyData.eqvAll, Bool.and_eq_true, eqv_key x y h'.1 k'.1, eqvAll_key xs ys h'.2 k'.2]
    simp
end
mutual
def keyG : PyData → Bool
  | .int _ => true
  | .bool _ => true
  | .str x => PyData.strOk x
  | .tuple xs => keysG xs
  | _ => false
def keysG : List PyData → Bool
  | [] => true
  | x :: xs => keyG x && keysG xs
end
mutual
theorem keyG_lay : ∀ d : PyData, keyG d = true → d.canLay0 = true
  | .int _, _ => rfl
  | .bool _, _ => rfl
  | .str _, h => h
  | .tuple xs, h => keysG_lay xs h
  | .none, h => nomatch h
  | .list _, h => nomatch h
  | .dict _, h => nomatch h
theorem keysG_lay : ∀ xs : List PyData, keysG xs = true → PyData.canLayAll0 xs = true
  | [], _ => rfl
  | x :: xs, h => by
    have h' : keyG x = true ∧ keysG xs = true := by simpa [keysG] using h
    simp [PyData.canLayAll0, keyG_lay x h'.1, keysG_lay xs h'.2]
end
mutual
theorem keyP_G : ∀ d : PyData, keyP d = true → keyG d = true
  | .int _, _ => rfl
  | .str _, h => h
  | .tuple xs, h => keysP_G xs h
  | .bool _, h => nomatch h
  | .none, h => nomatch h
  | .list _, h => nomatch h
  | .dict _, h => nomatch h
theorem keysP_G : ∀ xs : List PyData, keysP xs = true → keysG xs = true
  | [], _ => rfl
  | x :: xs, h => by
    have h' : keyP x = true ∧ keysP xs = true := by simpa [keysP] using h
    simp [keysG, keyP_G x h'.1, keysP_G xs h'.2]
end
def keyB : PyData → Bool
  | .tuple (.bool _ :: xs) => keysP xs
  | .tuple (.int _ :: _) => false
  | .tuple xs => keysP xs
  | _ => false
theorem keyB_G : ∀ d : PyData, keyB d = true → keyG d = true
  | .tuple [], _ => rfl
  | .tuple (.bool b :: xs), h => by
    show (keyG (.bool b) && keysG xs) = true
    rw [keysP_G xs h]; rfl
  | .tuple (.str x :: xs), h => keysP_G (.str x :: xs) h
  | .tuple (.tuple x :: xs), h => keysP_G (.tuple x :: xs) h
  | .tuple (.int _ :: _), h => nomatch h
  | .tuple (.none :: _), h => nomatch h
  | .tuple (.list _ :: _), h => nomatch h
  | .tuple (.dict _ :: _), h => nomatch h
  | .int _, h => nomatch h
  | .str _, h => nomatch h
  | .bool _, h => nomatch h
  | .none, h => nomatch h
  | .list _, h => nomatch h
  | .dict _, h => nomatch h
theorem eqv_keyB (x y : PyData) (hx : keyB x = true) (hy : keyB y = true) : PyData.eqv x y = true ↔ x = y := by
  have tup : ∀ d : PyData, keyB d = true → ∃ xs, d = .tuple xs ∧ ((∃ b ys, xs = .bool b :: ys ∧ keysP ys = true) ∨ (keysP xs = true)) := fun d h => by
    match d, h with
    | .tuple [], _ => exact ⟨_, rfl, .inr rfl⟩
    | .tuple (.bool b :: xs), h => exact ⟨_, rfl, .inl ⟨b, xs, rfl, h⟩⟩
    | .tuple (.str x :: xs), h => exact ⟨_, rfl, .inr h⟩
    | .tuple (.tuple x :: xs), h => exact ⟨_, rfl, .inr h⟩
  obtain ⟨xs, rfl, h1⟩ := tup x hx
  obtain ⟨ys, rfl, h2⟩ := tup y hy
  rw [PyData.eqv]
  have inj : (PyData.tuple xs = .tuple ys) ↔ xs = ys := ⟨fun e => by cases e; rfl, fun e => by rw [e]⟩
  rw [inj]
  have nb : ∀ (b : Bool) (us vs : List PyData), keyB (.tuple vs) = true → keysP vs = true → PyData.eqvAll (.bool b :: us) vs = false ∧ PyData.eqvAll vs (.bool b :: us) = false := fun b us vs h k => by
    match vs, h, k with
    | [], _, _ => exact ⟨by simp [PyData.eqvAll], by simp [PyData.eqvAll]⟩
    | .str x :: vs, _, _ => exact ⟨by simp [PyData.eqvAll, PyData.eqv], by simp [PyData.eqvAll, PyData.eqv]⟩
    | .tuple x :: vs, _, _ => exact ⟨by simp [PyData.eqvAll, PyData.eqv], by simp [PyData.eqvAll, PyData.eqv]⟩
  rcases h1 with ⟨b, us, rfl, k1⟩ | k1 <;> rcases h2 with ⟨c, vs, rfl, k2⟩ | k2
  · rw [PyData.eqvAll, Bool.and_eq_true, eqvAll_key us vs k1 k2]
    have : PyData.eqv (.bool b) (.bool c) = true ↔ b = c := by cases b <;> cases c <;> simp [PyData.eqv]
    rw [this]
    constructor
    · rintro ⟨rfl, rfl⟩; rfl
    · intro e; cases e; exact ⟨rfl, rfl⟩
  · rw [(nb b us ys hy k2).1]
    constructor
    · intro e; cases e
    · intro e; subst e; exact absurd k2 (by simp [keysP, keyP])
  · rw [(nb c vs xs hx k1).2]
    constructor
    · intro e; cases e
    · intro e; subst e; exact absurd k1 (by simp [keysP, keyP])
  · exact eqvAll_key xs ys k1 k2
section
variable {h h' : Heap}
end
theorem keysG_mem : ∀ {xs : List PyData}, keysG xs = true → ∀ x ∈ xs, keyG x = true
  | [], _, x, h => nomatch h
  | y :: xs, z, x, h => by
    have z' : keyG y = true ∧ keysG xs = true := by simpa [keysG] using z
    rcases List.mem_cons.mp h with rfl | h
    · exact z'.1
    · exact keysG_mem z'.2 x h
theorem depth_mem : ∀ {ks : List PyData} {k : PyData}, k ∈ ks → k.depth ≤ PyData.depthAll ks
  | y :: ys, k, km => by
    simp only [PyData.depthAll]
    rcases List.mem_cons.mp km with rfl | q
    · exact Nat.le_max_left _ _
    · exact Nat.le_trans (depth_mem q) (Nat.le_max_right _ _)
theorem hashes_snoc (w : World) (y : PyData) : ∀ l : List PyData, hashesP w (l ++ [y]) = hashesP w l ++ [hashP w y]
  | [] => rfl
  | z :: l => by simp only [List.cons_append, hashesP, hashes_snoc w y l]
theorem draws_snoc (y : PyData) : ∀ l : List PyData, drawsAP (l ++ [y]) = drawsAP l + drawsP y
  | [] => by simp [drawsAP]
  | z :: l => by simp only [List.cons_append, drawsAP, draws_snoc y l, Nat.add_assoc]
theorem reads_list {h h' : Heap} {n : Nat} (ih : ∀ (d' : PyData) (v : Value) (as : List Addr), d'.depth ≤ n → keyG d' = true → Reads h v d' as → Reads h' v d' as) : ∀ {xs : List PyData} {vs : List Value} {as : List Addr}, PyData.depthAll xs ≤ n → keysG xs = true → ReadsAll h vs xs as → ReadsAll h' vs xs as
  | [], _, _, _, _, r => by cases r; exact .nil
  | x :: xs, _, _, hn, hk, r => by
    have q : keyG x = true ∧ keysG xs = true := by simpa [keysG] using hk
    simp only [PyData.depthAll] at hn
    cases r with
    | cons r1 r2 => exact .cons (ih x _ _ (Nat.le_trans (Nat.le_max_left _ _) hn) q.1 r1) (reads_list ih (Nat.le_trans (Nat.le_max_right _ _) hn) q.2 r2)

section
variable {prog : Program} {w : World}
theorem hash_key (n : Nat) : ∀ (d : PyData) (A : Around) (E : Value → Shared → Prop) (s : Shared) (v : Value) (as : List Addr) (Q : Int → Shared → Prop), d.depth ≤ n → keyG d = true → A.units + d.depth < cLine → Reads s.heap v d as →
    Q (hashP w d) { s with toks := s.toks + drawsP d } → wpAny (model prog w) A (pyHash v) Q E s := by
  induction n with
  | zero =>
    intro d A E s v as Q hn hk hu r h
    cases r with
    | int => exact wpAny_pyHash_int h
    | str => exact wpAny_pyHash_str h
    | tuple h1 h2 h3 h4 => simp [PyData.depth] at hn
    | none => exact nomatch hk
    | bool => exact PpSet.pyHash_bool h
    | list => exact nomatch hk
    | dict => exact nomatch hk
  | succ n ih =>
    intro d A E s v as Q hn hk hu r h
    cases r with
    | int => exact wpAny_pyHash_int h
    | str => exact wpAny_pyHash_str h
    | none => exact nomatch hk
    | bool => exact PpSet.pyHash_bool h
    | list => exact nomatch hk
    | dict => exact nomatch hk
    | @tuple a o items m ks as ho hc hd hi =>
    have hd' : PyData.depthAll ks ≤ n := by simpa [PyData.depth] using hn
    have hu' : A.units + (PyData.depthAll ks + 1) < cLine := by simpa [PyData.depth] using hu
    have hT : s.TypeIs (.ref a) "tuple" := ⟨o, ho, hc⟩
    unfold pyHash
    first | unfold pyHashByItsType | skip
    first | refine wpAny_bind (wpAny_cRoomFor_or (.inr (by omega)) ?_) | skip
    refine wpAny_bind (wpAny_specialOf hT F.slot_tuple_hash.lookup ?_)
    show wpAny _ _ (if (some (Value.builtin "tuple.__hash__") == some Value.none) = true then _ else _) Q E s
    rw [if_neg (by rw [beq_builtin_none]; exact Bool.false_ne_true)]
    refine wpAny_bind (wpAny_specialOf hT F.slot_tuple_hash.lookup ?_)
    show wpAny _ _ (callSpecialIfBoundUnlessNone? (.ref a) "__hash__" _ >>= _) Q E s
    refine wpAny_bind (wpAny_callSpecialIfBoundUnlessNone?_slot hT F.slot_tuple_hash (wpAny_call_entry F.slot_tuple_hash hT F.entry_tuple_hash ?_ (F.args_tuple_hash_1 _)))
    show wpAny _ _ (Builtin.Tuple.tupleItemsOf (.ref a) >>= _) _ _ s
    refine wpAny_bind (wpAny_tupleItemsOf ho hd ?_)
    refine wpAny_bind ?_
    rw [← Array.forIn_toList]
    refine wpAny_forIn_list _
      (fun rest (b : Array Int) s' => ∃ done left as2, ks = done ++ left ∧ ReadsAll s.heap rest left as2 ∧ b.toList = hashesP w done ∧ s' = { s with toks := s.toks + drawsAP done })
      _ ?_ ?_ _ _ ⟨[], ks, as, rfl, hi, rfl, rfl⟩
    · rintro x rest b s' ⟨done, left, as2, e, hl, hb, rfl⟩
      cases hl with
      | @cons _ _ k ks' bs cs h1 hl' =>
        have km : k ∈ ks := by rw [e]; simp
        have kk : keyG k = true := keysG_mem hk k km
        have kd : k.depth ≤ PyData.depthAll ks := depth_mem km
        refine wpAny_bind (ih k _ _ _ _ _ _ (Nat.le_trans kd hd') kk ?_ h1 ?_)
        · show A.units + 1 + k.depth < cLine
          omega
        · first
            | exact wpAny_pure ⟨done ++ [k], ks', cs, by rw [e]; simp, hl', by rw [hashes_snoc]; simp [hb], by rw [draws_snoc]; simp [Nat.add_assoc]⟩
            | exact wpAny_bind (wpAny_pure (wpAny_pure ⟨done ++ [k], ks', cs, by rw [e]; simp, hl', by rw [hashes_snoc]; simp [hb], by rw [draws_snoc]; simp [Nat.add_assoc]⟩))
    · rintro b s' ⟨done, left, as2, e, hl, hb, rfl⟩
      cases hl
      rw [List.append_nil] at e
      subst e
      have h : Q (reduceHash (Builtin.Tuple.tupleHashOf (hashesP w ks))) { s with toks := s.toks + (drawsAP ks + 1) } := h
      show wpAny _ _ (retInt (Builtin.Tuple.tupleHashOf b.toList)) _ _ _
      rw [hb]
      refine wpAny_ret_mkInt ?_
      show wpAny _ _ (if (decide (-(2 : Int) ^ 63 ≤ Builtin.Tuple.tupleHashOf (hashesP w ks)) && decide (Builtin.Tuple.tupleHashOf (hashesP w ks) < 2 ^ 63)) = true then _ else _) Q E _
      unfold reduceHash at h
      by_cases hr : (decide (-(2 : Int) ^ 63 ≤ Builtin.Tuple.tupleHashOf (hashesP w ks)) && decide (Builtin.Tuple.tupleHashOf (hashesP w ks) < 2 ^ 63)) = true
      · rw [if_pos hr]
        rw [if_pos hr] at h
        exact wpAny_pure (by simpa [Nat.add_assoc] using h)
      · rw [if_neg hr]
        rw [if_neg hr] at h
        exact wpAny_bind (wpAny_rule (wpAny_pure (by simpa [Nat.add_assoc] using h)))
theorem quiet_key (n : Nat) : ∀ (d : PyData) (A : Around) (E : Value → Shared → Prop) (s : Shared) (v : Value) (as : List Addr) (Q : Bool → Shared → Prop), d.depth ≤ n → keyG d = true → Reads s.heap v d as → Q true s →
    wpAny (model prog w) A (eqIsQuiet n v) Q E s := by
  induction n with
  | zero =>
    intro d A E s v as Q hn hk r h
    cases r with
    | int => rw [eqIsQuiet_byValue _ rfl]; exact wpAny_pure h
    | str => rw [eqIsQuiet_byValue _ rfl]; exact wpAny_pure h
    | tuple h1 h2 h3 h4 => simp [PyData.depth] at hn
    | none => exact nomatch hk
    | bool => rw [eqIsQuiet_byValue _ rfl]; exact wpAny_pure h
    | list => exact nomatch hk
    | dict => exact nomatch hk
  | succ n ih =>
    intro d A E s v as Q hn hk r h
    cases r with
    | int => rw [eqIsQuiet_byValue _ rfl]; exact wpAny_pure h
    | str => rw [eqIsQuiet_byValue _ rfl]; exact wpAny_pure h
    | none => exact nomatch hk
    | bool => rw [eqIsQuiet_byValue _ rfl]; exact wpAny_pure h
    | list => exact nomatch hk
    | dict => exact nomatch hk
    | @tuple a o items m ks as ho hc hd hi =>
    have hd' : PyData.depthAll ks ≤ n := by simpa [PyData.depth] using hn
    have hT : s.TypeIs (.ref a) "tuple" := ⟨o, ho, hc⟩
    unfold eqIsQuiet
    refine wpAny_bind (wpAny_specialOf hT F.slot_tuple_eq.lookup ?_)
    show wpAny _ _ (isInstance (.ref a) (.type "tuple") >>= _) _ _ s
    refine wpAny_bind (wpAny_isInstance hT isSubtype_tuple_tuple ?_)
    simp only [Bool.not_true, Bool.false_eq_true, if_false]
    refine wpAny_bind (wpAny_seqItems ho hd ?_)
    refine wpAny_bind ?_
    show wpAny _ _ (forIn items _ _) _ _ s
    rw [← Array.forIn_toList]
    refine wpAny_forIn_list _ (fun rest r s' => r.1 = none ∧ s' = s ∧ ∃ left as2, ReadsAll s.heap rest left as2 ∧ ∀ k ∈ left, k ∈ ks) _ ?_ ?_ _ _ ⟨rfl, rfl, ks, as, hi, fun _ q => q⟩
    · rintro v rest r s' ⟨hr, rfl, left, as2, hl, hm⟩
      cases hl with
      | @cons _ _ k ks' bs cs h1 hl' =>
        have km : k ∈ ks := hm k List.mem_cons_self
        have kk : keyG k = true := keysG_mem hk k km
        have kd : k.depth ≤ PyData.depthAll ks := depth_mem km
        refine wpAny_bind (ih k _ _ _ _ _ _ (Nat.le_trans kd hd') kk h1 ?_)
        simp only [Bool.not_true, Bool.false_eq_true, if_false]
        exact wpAny_pure ⟨rfl, rfl, ks', cs, hl', fun y q => hm y (List.mem_cons_of_mem _ q)⟩
    · rintro ⟨r1, r2⟩ s' ⟨hr, rfl, _⟩
      simp only at hr
      subst hr
      exact wpAny_pure h
end
noncomputable instance : DecidableEq PyData := Classical.typeDecidableEq _
structure TKey (d : PyData) : Prop where
  tup : ∃ xs, d = .tuple xs
  key : keyB d = true
  dep : d.depth ≤ 8
theorem of_same {h h' : Heap} {d : Addr} {o : Obj} {es ep} (ho : h.get? d = some o) (hd : o.data = .dict es ep) (hs : Heap.SameBut d h h') {a : Addr} {o' : Obj} {xs n} (e : h.get? a = some o') (z : o'.data = .seq xs n) : h'.get? a = some o' := by
  have hne : a ≠ d := by
    rintro rfl
    rw [ho] at e; cases e
    rw [hd] at z; exact nomatch z
  exact (hs.2 a hne).trans e
noncomputable def deepKind (prog : Program) (w : World) : HeapKind prog w PyData where
  is := fun h k a => TKey k ∧ ∃ as, Reads h (.ref a) k as
  hash := hashP w
  draws := drawsP
  room := fun A => A.units + 8 < cLine
  inj := fun ⟨k, as, r⟩ ⟨k', as', r'⟩ => SeqAt.Reads.unique _ _ _ _ _ (keyG_lay _ (keyB_G _ k.key)) r r'
  keeps := fun {h h' k a d o es ep} ⟨z, as, r⟩ ho hd hs => ⟨z, as, by
    have key : ∀ (n : Nat) (d' : PyData) (v : Value) (as : List Addr), d'.depth ≤ n → keyG d' = true → Reads h v d' as → Reads h' v d' as := by
      intro n
      induction n with
      | zero =>
        intro d' v as hn hk r
        cases r with
        | int => exact .int _ _
        | str => exact .str _ _
        | tuple h1 h2 h3 h4 => simp [PyData.depth] at hn
        | none => exact nomatch hk
        | bool => exact .bool _
        | list => exact nomatch hk
        | dict => exact nomatch hk
      | succ n ih =>
        intro d' v as hn hk r
        cases r with
        | int => exact .int _ _
        | str => exact .str _ _
        | tuple h1 h2 h3 h4 => exact .tuple (of_same ho hd hs h1 h3) h2 h3 (reads_list ih (by simpa [PyData.depth] using hn) hk h4)
        | none => exact nomatch hk
        | bool => exact .bool _
        | list => exact nomatch hk
        | dict => exact nomatch hk
    exact key _ k _ _ (Nat.le_refl _) (keyB_G _ z.key) r⟩
  pyHash := fun hu ⟨z, as, r⟩ h => hash_key _ _ _ _ _ _ _ _ (Nat.le_refl _) (keyB_G _ z.key) (by have := z.dep; omega) r h
  eqBool := fun {A E s x y a b Q} hu ⟨z, as, r⟩ ⟨z', as', r'⟩ h => by
    refine SeqAt.eqAt_reads x y A s _ _ _ _ r r' (keyG_lay _ (keyB_G _ z.key)) (keyG_lay _ (keyB_G _ z'.key)) ?_ prog w E Q ?_
    · have h1 := z.dep
      have h2 : min x.depth y.depth ≤ x.depth := Nat.min_le_left _ _
      omega
    · have e : PyData.eqv x y = decide (x = y) := by
        by_cases q : x = y
        · rw [decide_eq_true q, (eqv_keyB x y z.key z'.key).mpr q]
        · rw [decide_eq_false q]
          cases hh : PyData.eqv x y with
          | false => rfl
          | true => exact absurd ((eqv_keyB x y z.key z'.key).mp hh) q
      rw [e]
      exact h
  quiet := fun ⟨z, as, r⟩ h => quiet_key 8 _ _ _ _ _ _ _ z.dep (keyB_G _ z.key) r h
end PD

namespace PD
open PySem PySem.Spec L2
open PyProof.Rows hiding St

inductive D where
  | non | bl (b : Bool) | int (i : Int) | str (x : Str) | ty (n : String)
  | scr (ns : List Int) | tup (xs : List D) | lst (xs : List D) | dic (kvs : List (D × D)) | ins (c : Str) (fs : List (Str × D)) | adr (a : Addr)
  | exn (c : Str) (fs : List (Str × D)) | cls (c : Str)

mutual
def toPy : D → PyData
  | .non => .none
  | .bl b => .bool b
  | .int i => .int i
  | .str x => .str x
  | .ty _ => .dict []
  | .scr ns => .list (ns.map .int)
  | .tup ds => .tuple (toPys ds)
  | .lst ds => .list (toPys ds)
  | .dic _ => .dict []
  | .ins _ _ => .dict []
  | .adr _ => .dict []
  | .exn _ _ => .dict []
  | .cls _ => .dict []
def toPys : List D → List PyData
  | [] => []
  | d :: ds => toPy d :: toPys ds
end
structure Mg where
  f : Str → Option Value
  w : World
def dT (w : World) (a : Addr) (zs : List (PyData × Addr × V)) : HO := .ext fun h => zs ≠ [] ∧ (a == sysModules) = false ∧ zs.length ≤ sizeLine ∧ ∃ xs : List (PyData × Addr × Value), Paired (fun p q => p.1 = q.1 ∧ p.2.1 = q.2.1 ∧ RelV p.2.2 q.2.2) zs xs ∧
  ∃ o es ep, h.get? a = some o ∧ o.ExactDict ∧ o.data = .dict es ep ∧ es.toList = xs.map (fun x => ⟨hashP w x.1, .ref x.2.1, x.2.2⟩) ∧ (xs.map (·.1)).Nodup
def exH (a : Addr) (C : Value) (dd : Option Addr) : HO := .ext fun h => ∃ oe vs, h.get? a = some oe ∧ Zc C dd oe ∧ oe.data = .fields vs
def kD : Key → D
  | .inl i => .int i
  | .inr x => .str x

def SqT (K : PySem.W.Frag) (H : Hp) (a : Addr) (xs : List V) : Prop :=
  (∃ o : Obj, H a = some (.frz o (.tup xs)) ∧ o.dict = none) ∨
    ∃ (o : Obj) (its : Array Value) (n : Nat), K.lookup a = some o ∧ o.cls = .type "tuple" ∧ o.dict = none ∧ o.data = .seq its n ∧ its.size ≤ sizeLine ∧ Vals xs its.toList
theorem SqT.l {K : PySem.W.Frag} {H : Hp} {a : Addr} {xs : List V} (h : SqT K H a xs) : L2.SqT K H a xs := by
  rcases h with ⟨o, h, _⟩ | ⟨o, its, n, h1, h2, _, h3⟩
  · exact .inl (.inr ⟨o, h⟩)
  · exact .inr ⟨o, its, n, h1, h2, h3⟩
theorem SqT.frz {K : PySem.W.Frag} {H : Hp} {a : Addr} {xs : List V} {o : Obj} (h : H a = some (.frz o (.tup xs))) (d : o.dict = none) : SqT K H a xs := .inl ⟨o, h, d⟩
mutual
def IsD (K : PySem.W.Frag) (mg : Mg) (H : Hp) : D → V → Prop
  | .non, v => v = .non
  | .bl b, v => v = .bl b
  | .int i, v => v = .int i
  | .str x, v => v = .str x
  | .ty n, v => v = .ty n
  | .scr ns, v => ∃ a, v = .ref a ∧ SqL K H a (ns.map V.int)
  | .tup ds, v => ∃ a xs, v = .ref a ∧ SqT K H a xs ∧ IsDs K mg H ds xs
  | .lst ds, v => ∃ a xs, v = .ref a ∧ H a = some (.lst xs) ∧ IsDs K mg H ds xs
  | .dic kvs, v => ∃ a o, v = .ref a ∧ Rd H a o ∧ ((∃ xs, o = .dK xs ∧ IsKVs K mg H kvs xs) ∨ ∃ zs, o = dT mg.w a zs ∧ IsKTs K mg H kvs zs)
  | .ins c fs, v => ∃ a o, v = .ref a ∧ H a = some o ∧ ∃ C dx xs, o = .ins C dx xs ∧ mg.f c = some (.ref C) ∧ IsFs K mg H fs xs
  | .adr a, v => v = .ref a
  | .exn c fs, v => ∃ a C dd, v = .ref a ∧ mg.f c = some (.ref C) ∧ Rd H a (exH a (.ref C) dd) ∧ ((fs = [] ∧ dd = none) ∨ ∃ d xs, dd = some d ∧ H d = some (.xd xs) ∧ IsFs K mg H fs xs)
  | .cls c, v => ∃ C, v = .ref C ∧ mg.f c = some (.ref C)
def IsDs (K : PySem.W.Frag) (mg : Mg) (H : Hp) : List D → List V → Prop
  | [], xs => xs = []
  | d :: ds, xs => ∃ v vs, xs = v :: vs ∧ IsD K mg H d v ∧ IsDs K mg H ds vs
def IsKVs (K : PySem.W.Frag) (mg : Mg) (H : Hp) : List (D × D) → List (Key × V) → Prop
  | [], xs => xs = []
  | p :: ds, xs => ∃ v vs, xs = v :: vs ∧ IsKV K mg H p v ∧ IsKVs K mg H ds vs
def IsKV (K : PySem.W.Frag) (mg : Mg) (H : Hp) : D × D → Key × V → Prop
  | (k, d), p => k = kD p.1 ∧ IsD K mg H d p.2
def IsKTs (K : PySem.W.Frag) (mg : Mg) (H : Hp) : List (D × D) → List (PyData × Addr × V) → Prop
  | [], xs => xs = []
  | p :: ds, xs => ∃ v vs, xs = v :: vs ∧ IsKT K mg H p v ∧ IsKTs K mg H ds vs
def IsKT (K : PySem.W.Frag) (mg : Mg) (H : Hp) : D × D → PyData × Addr × V → Prop
  | (k, d), p => p.1 = toPy k ∧ TKey (toPy k) ∧ IsD K mg H k (.ref p.2.1) ∧ IsD K mg H d p.2.2
def IsFs (K : PySem.W.Frag) (mg : Mg) (H : Hp) : List (Str × D) → List (Str × V) → Prop
  | [], xs => xs = []
  | p :: ds, xs => ∃ v vs, xs = v :: vs ∧ IsF K mg H p v ∧ IsFs K mg H ds vs
def IsF (K : PySem.W.Frag) (mg : Mg) (H : Hp) : Str × D → Str × V → Prop
  | (k, d), p => k = p.1 ∧ IsD K mg H d p.2
end

theorem Same.seqT {K : PySem.W.Frag} {H H' : Hp} {a : Addr} {xs : List V} (e : Same H H') (h : SqT K H a xs) : SqT K H' a xs := by
  rcases h with ⟨o, h, d⟩ | h
  · exact .inl ⟨o, e _ _ h, d⟩
  · exact .inr h
theorem Same.rd {H H' : Hp} {a : Addr} {u : HO} (e : Same H H') (h : Rd H a u) : Rd H' a u := by
  rcases h with h | ⟨o, h⟩
  · exact .inl (e _ _ h)
  · exact .inr ⟨o, e _ _ h⟩

section
variable {K : PySem.W.Frag} {mg : Mg} {H H' : Hp}
mutual
theorem IsD.mono (s : Same H H') : ∀ {d : D} {v : V}, IsD K mg H d v → IsD K mg H' d v
  | .non, _, h => by simpa only [IsD] using h
  | .bl _, _, h => by simpa only [IsD] using h
  | .int _, _, h => by simpa only [IsD] using h
  | .str _, _, h => by simpa only [IsD] using h
  | .ty _, _, h => by simpa only [IsD] using h
  | .tup _, _, h => by
    simp only [IsD] at h ⊢
    obtain ⟨a, xs, e, q, r⟩ := h
    exact ⟨a, xs, e, Same.seqT s q, IsDs.mono s r⟩
  | .lst _, _, h => by
    simp only [IsD] at h ⊢
    obtain ⟨a, xs, e, q, r⟩ := h
    exact ⟨a, xs, e, s _ _ q, IsDs.mono s r⟩
  | .scr _, _, h => by
    simp only [IsD] at h ⊢
    obtain ⟨a, e, q⟩ := h
    exact ⟨a, e, s.seq q⟩
  | .dic _, _, h => by
    simp only [IsD] at h ⊢
    obtain ⟨a, o, e, q, r⟩ := h
    refine ⟨a, o, e, Same.rd s q, ?_⟩
    rcases r with ⟨xs, eo, r⟩ | ⟨xs, eo, r⟩
    · exact .inl ⟨xs, eo, IsKVs.mono s r⟩
    · exact .inr ⟨xs, eo, IsKTs.mono s r⟩
  | .adr _, _, h => by simpa only [IsD] using h
  | .ins _ _, _, h => by
    simp only [IsD] at h ⊢
    obtain ⟨a, o, e, q, C, dx, xs, eo, m, r⟩ := h
    exact ⟨a, o, e, s _ _ q, C, dx, xs, eo, m, IsFs.mono s r⟩
  | .exn _ _, _, h => by
    simp only [IsD] at h ⊢
    obtain ⟨a, C, dd, e, m, q, r⟩ := h
    refine ⟨a, C, dd, e, m, Same.rd s q, ?_⟩
    rcases r with r | ⟨d, xs, ed, q2, r⟩
    · exact .inl r
    · exact .inr ⟨d, xs, ed, s _ _ q2, IsFs.mono s r⟩
  | .cls _, _, h => by simpa only [IsD] using h
theorem IsDs.mono (s : Same H H') : ∀ {d : List D} {v : List V}, IsDs K mg H d v → IsDs K mg H' d v
  | [], _, h => by simpa only [IsDs] using h
  | _ :: _, _, h => by
    simp only [IsDs] at h ⊢
    obtain ⟨v, vs, e, q, r⟩ := h
    exact ⟨v, vs, e, IsD.mono s q, IsDs.mono s r⟩
theorem IsKVs.mono (s : Same H H') : ∀ {d : List (D × D)} {v : List (Key × V)}, IsKVs K mg H d v → IsKVs K mg H' d v
  | [], _, h => by simpa only [IsKVs] using h
  | _ :: _, _, h => by
    simp only [IsKVs] at h ⊢
    obtain ⟨v, vs, e, q, r⟩ := h
    exact ⟨v, vs, e, IsKV.mono s q, IsKVs.mono s r⟩
theorem IsKV.mono (s : Same H H') : ∀ {d : D × D} {v : Key × V}, IsKV K mg H d v → IsKV K mg H' d v
  | (_, _), _, h => by
    simp only [IsKV] at h ⊢
    exact ⟨h.1, IsD.mono s h.2⟩
theorem IsKTs.mono (s : Same H H') : ∀ {d : List (D × D)} {v : List (PyData × Addr × V)}, IsKTs K mg H d v → IsKTs K mg H' d v
  | [], _, h => by simpa only [IsKTs] using h
  | _ :: _, _, h => by
    simp only [IsKTs] at h ⊢
    obtain ⟨v, vs, e, q, r⟩ := h
    exact ⟨v, vs, e, IsKT.mono s q, IsKTs.mono s r⟩
theorem IsKT.mono (s : Same H H') : ∀ {d : D × D} {v : PyData × Addr × V}, IsKT K mg H d v → IsKT K mg H' d v
  | (_, _), _, h => by
    simp only [IsKT] at h ⊢
    exact ⟨h.1, h.2.1, IsD.mono s h.2.2.1, IsD.mono s h.2.2.2⟩
theorem IsFs.mono (s : Same H H') : ∀ {d : List (Str × D)} {v : List (Str × V)}, IsFs K mg H d v → IsFs K mg H' d v
  | [], _, h => by simpa only [IsFs] using h
  | _ :: _, _, h => by
    simp only [IsFs] at h ⊢
    obtain ⟨v, vs, e, q, r⟩ := h
    exact ⟨v, vs, e, IsF.mono s q, IsFs.mono s r⟩
theorem IsF.mono (s : Same H H') : ∀ {d : Str × D} {v : Str × V}, IsF K mg H d v → IsF K mg H' d v
  | (_, _), _, h => by
    simp only [IsF] at h ⊢
    exact ⟨h.1, IsD.mono s h.2⟩
end
def DicAt (K : PySem.W.Frag) (mg : Mg) (H : Hp) (kvs : List (D × D)) (a : Addr) (o : HO) : Prop := (∃ xs, o = .dK xs ∧ IsKVs K mg H kvs xs) ∨ ∃ zs, o = dT mg.w a zs ∧ IsKTs K mg H kvs zs
def InsAt (K : PySem.W.Frag) (mg : Mg) (H : Hp) (c : Str) (fs : List (Str × D)) (o : HO) : Prop := ∃ C dx xs, o = .ins C dx xs ∧ mg.f c = some (.ref C) ∧ IsFs K mg H fs xs
theorem InsAt.mono (s : Same H H') {c : Str} {fs : List (Str × D)} {o : HO} (h : InsAt K mg H c fs o) : InsAt K mg H' c fs o := by
  obtain ⟨C, dx, xs, eo, m, r⟩ := h
  exact ⟨C, dx, xs, eo, m, IsFs.mono s r⟩
theorem DicAt.mono (s : Same H H') {kvs : List (D × D)} {a : Addr} {o : HO} (h : DicAt K mg H kvs a o) : DicAt K mg H' kvs a o := by
  rcases h with ⟨xs, eo, r⟩ | ⟨xs, eo, r⟩
  · exact .inl ⟨xs, eo, IsKVs.mono s r⟩
  · exact .inr ⟨xs, eo, IsKTs.mono s r⟩
end
end PD

namespace PD
open PySem PySem.Spec L2
open PyProof.Rows hiding St

abbrev _root_.L2.Cx.mw (X : Cx) : Mg := ⟨X.mg, X.w⟩
structure Exn where
  cls : Str
  fs : List (Str × D)
inductive Out (α : Type) where
  | ok (a : α) | exc (x : Exn) | stuck
def Out.bind {α β : Type} (o : Out α) (k : α → Out β) : Out β := match o with
  | .ok a => k a
  | .exc x => .exc x
  | .stuck => .stuck
@[simp] theorem Out.bind_ok {α β : Type} (a : α) (k : α → Out β) : (Out.ok a).bind k = k a := rfl
@[simp] theorem Out.bind_exc {α β : Type} (x : Exn) (k : α → Out β) : (Out.exc x).bind k = .exc x := rfl
@[simp] theorem Out.bind_stuck {α β : Type} (k : α → Out β) : (Out.stuck : Out α).bind k = .stuck := rfl
noncomputable def chk {α : Type} (p : Prop) (o : Out α) : Out α := @ite _ p (Classical.propDecidable p) o .stuck
theorem chk_pos {α : Type} {p : Prop} {o : Out α} (h : p) : chk p o = o := if_pos h
theorem chk_neg {α : Type} {p : Prop} {o : Out α} (h : ¬ p) : chk p o = .stuck := if_neg h
abbrev Env := List (Option D)
inductive SO where
  | nx (r : Env) | rt (d : D) | bk (r : Env) | ct (r : Env) | ex (x : Exn) | stuck

def D.mut : D → Bool
  | .lst _ => true
  | .dic _ => true
  | .ins _ _ => true
  | _ => false

structure G where
  H0 : Hp
  F0 : Hp
  slf : Option Addr
section
variable (K : PySem.W.Frag) (mg : Mg)
def IsO (H0 Hf H : Hp) : D → V → Prop
  | .lst ds, v => ∃ a xs, v = .ref a ∧ H0 a = none ∧ Hf a = none ∧ H a = some (.lst xs) ∧ IsDs K mg Hf ds xs
  | .dic kvs, v => ∃ a o, v = .ref a ∧ H0 a = none ∧ Hf a = none ∧ H a = some o ∧ DicAt K mg Hf kvs a o
  | .ins c fs, v => ∃ a o, v = .ref a ∧ H0 a = none ∧ Hf a = none ∧ H a = some o ∧ InsAt K mg Hf c fs o
  | d, v => IsD K mg Hf d v
def IsR (Hf H : Hp) : D → V → Prop
  | .lst ds, v => ∃ a xs, v = .ref a ∧ H a = some (.lst xs) ∧ IsDs K mg Hf ds xs
  | .dic kvs, v => ∃ a o, v = .ref a ∧ Rd H a o ∧ DicAt K mg Hf kvs a o
  | .ins c fs, v => ∃ a o, v = .ref a ∧ H a = some o ∧ InsAt K mg Hf c fs o
  | d, v => IsD K mg Hf d v
abbrev Own (Γ : List Bool) (i : Nat) : Prop := Γ.getD i false = true
def SLen (g : G) (σ : St) (ρ : Env) : Prop := σ.length = ρ.length ∧ ∀ a, g.slf = some a → σ[0]? = some (some (.ref a))
abbrev NS (g : G) (i : Nat) : Prop := i ≠ 0 ∨ g.slf = none
theorem SLen.set {g : G} {σ : St} {ρ : Env} (h : SLen g σ ρ) {i : Nat} (n : NS g i) (d : Option D) (v : Option V) : SLen g (σ.set i v) (ρ.set i d) :=
  ⟨by rw [List.length_set, List.length_set]; exact h.1, fun a e => by
    rcases n with n | n
    · rw [List.getElem?_set_ne n]; exact h.2 a e
    · rw [n] at e; cases e⟩
theorem SLen.setE {g : G} {σ : St} {ρ : Env} (h : SLen g σ ρ) (i : Nat) (d : Option D) : SLen g σ (ρ.set i d) :=
  ⟨by rw [List.length_set]; exact h.1, h.2⟩
structure Rp (g : G) (Γ : List Bool) (ρ : Env) (σ : St) (Hf H : Hp) : Prop where
  same : Same Hf H
  ent : Same g.H0 H
  ent2 : Same g.F0 Hf
  news : ∀ a o, Hf a = some o → g.F0 a = some o ∨ g.H0 a = none
  len : SLen g σ ρ
  own : ∀ i d, Own Γ i → ρ[i]? = some (some d) → ∃ v, σ[i]? = some (some v) ∧ IsO K mg g.H0 Hf H d v
  dat : ∀ i d, ¬ Own Γ i → ρ[i]? = some (some d) → ∃ v, σ[i]? = some (some v) ∧ IsD K mg Hf d v
  sep : ∀ i j d e v, i ≠ j → Own Γ i → Own Γ j → ρ[i]? = some (some d) → ρ[j]? = some (some e) → d.mut = true → e.mut = true → σ[i]? = some (some v) → σ[j]? = some (some v) → False
inductive Md where
  | rd | fr | ow
def Res (g : G) (Γ : List Bool) (ρ : Env) (σ : St) (Hf H : Hp) (m : Md) (d : D) (v : V) : Prop := match m with
  | .rd => IsR K mg Hf H d v
  | .fr => IsD K mg Hf d v
  | .ow => IsO K mg g.H0 Hf H d v ∧ ∀ i e, Own Γ i → ρ[i]? = some (some e) → e.mut = true → d.mut = true → σ[i]? = some (some v) → False
def IsX (x : Exn) (c : Value) (dd : Option Addr) (Hf : Hp) : Prop :=
  (∃ C, c = .ref C ∧ mg.f x.cls = some (.ref C)) ∧ ((x.fs = [] ∧ dd = none) ∨ ∃ d xs, dd = some d ∧ Hf d = some (.xd xs) ∧ IsFs K mg Hf x.fs xs)
def Le (Γ' Γ : List Bool) : Prop := ∀ i, Own Γ' i → Own Γ i
def tG (g : G) (E : WX) (Γ : List Bool) (ρ : Env) (σ : St) (Hf H : Hp) {α : Type} (P : α → Hp → Hp → Prop) : Out α → Prop
  | .ok a => ∀ Hf' H', Same Hf Hf' → Same H H' → Rp K mg g Γ ρ σ Hf' H' → P a Hf' H'
  | .exc x => ∀ c dd Hf' H', Same Hf Hf' → Same H H' → Rp K mg g Γ ρ σ Hf' H' → IsX K mg x c dd Hf' → E c dd σ H'
  | .stuck => False
def RetRes (H0 : Hp) (ro : Bool) (Hf H : Hp) (d : D) (v : V) : Prop := if ro = true then IsO K mg H0 Hf H d v else IsD K mg Hf d v
def RetG (g : G) (ro : Bool) (Hf H : Hp) (d : D) (v : V) : Prop := match g.slf with
  | none => RetRes K mg g.H0 ro Hf H d v
  | some a => ∃ r c fs o, d = .tup [r, .ins c fs] ∧ Hf a = none ∧ H a = some o ∧ InsAt K mg Hf c fs o ∧ IsD K mg Hf r v
def sR (g : G) (E : WX) (Γ Γl : List Bool) (ro : Bool) (Dn : Ends) : SO → Prop
  | .nx ρ => ∀ σ Hf H, Rp K mg g Γ ρ σ Hf H → Dn.nx σ H
  | .bk ρ => ∀ σ Hf H, Rp K mg g Γl ρ σ Hf H → Dn.bk σ H
  | .ct ρ => ∀ σ Hf H, Rp K mg g Γl ρ σ Hf H → Dn.ct σ H
  | .rt d => ∀ v Hf H, Same Hf H → Same g.H0 H → Same g.F0 Hf → (∀ a o, Hf a = some o → g.F0 a = some o ∨ g.H0 a = none) → RetG K mg g ro Hf H d v → Dn.rt v H
  | .ex x => ∀ c dd σ Hf H, Same Hf H → Same g.H0 H → Same g.F0 Hf → (∀ a o, Hf a = some o → g.F0 a = some o ∨ g.H0 a = none) → IsX K mg x c dd Hf → E c dd σ H
  | .stuck => False
def spD (ro : Bool) (F : List D → Out D) : Sp := fun vs H Q E => ∃ ds Hf, Same Hf H ∧ IsDs K mg Hf ds vs ∧ match F ds with
  | .ok d => ∀ v Hf' H', Same Hf Hf' → Same Hf' H' → Same H H' → (∀ a o, Hf' a = some o → Hf a = some o ∨ H a = none) → RetRes K mg H ro Hf' H' d v → Q v H'
  | .exc x => ∀ c dd Hf' H', Same Hf Hf' → Same Hf' H' → Same H H' → (∀ a o, Hf' a = some o → Hf a = some o ∨ H a = none) → IsX K mg x c dd Hf' → E c dd H'
  | .stuck => False
end

section
variable {K : PySem.W.Frag} {mg : Mg}
theorem Le.refl (Γ : List Bool) : Le Γ Γ := fun _ h => h
theorem Le.trans {a b c : List Bool} (h : Le a b) (k : Le b c) : Le a c := fun i z => k i (h i z)
theorem Le.set (Γ : List Bool) (i : Nat) : Le (Γ.set i false) Γ := fun j h => by
  unfold Own at *
  rw [List.getD_eq_getElem?_getD, List.getElem?_set] at h
  by_cases e : i = j
  · subst e
    rw [if_pos rfl] at h
    by_cases l : i < Γ.length
    · rw [if_pos l] at h; simp at h
    · rw [if_neg l] at h; simp at h
  · rw [if_neg e] at h
    rw [List.getD_eq_getElem?_getD]; exact h

theorem IsX.mono {Hf Hf' : Hp} {x : Exn} {c : Value} {dd : Option Addr} (s : Same Hf Hf') (h : IsX K mg x c dd Hf) : IsX K mg x c dd Hf' := by
  refine ⟨h.1, ?_⟩
  rcases h.2 with r | ⟨d, xs, ed, q, r⟩
  · exact .inl r
  · exact .inr ⟨d, xs, ed, s _ _ q, IsFs.mono s r⟩
theorem IsO.of_dat {H0 Hf H : Hp} {d : D} {v : V} (n : d.mut = false) (h : IsD K mg Hf d v) : IsO K mg H0 Hf H d v := by
  cases d <;> first | exact h | cases n
theorem IsR.of_dat {Hf H : Hp} {d : D} {v : V} (s : Same Hf H) (h : IsD K mg Hf d v) : IsR K mg Hf H d v := by
  cases d <;> first | exact h | (simp only [IsD] at h; obtain ⟨a, xs, e, q, r⟩ := h; first | exact ⟨a, xs, e, s _ _ q, r⟩ | exact ⟨a, xs, e, Same.rd s q, r⟩)
theorem IsR.of_own {H0 Hf H : Hp} {d : D} {v : V} (h : IsO K mg H0 Hf H d v) : IsR K mg Hf H d v := by
  cases d <;> first | exact h | (obtain ⟨a, xs, e, _, _, q, r⟩ := h; first | exact ⟨a, xs, e, q, r⟩ | exact ⟨a, xs, e, .inl q, r⟩)
theorem IsR.mono {Hf Hf' H H' : Hp} {d : D} {v : V} (s1 : Same Hf Hf') (s2 : Same H H') (h : IsR K mg Hf H d v) : IsR K mg Hf' H' d v := by
  cases d <;> first
    | exact IsD.mono s1 h
    | (obtain ⟨a, xs, e, q, r⟩ := h; first | exact ⟨a, xs, e, s2 _ _ q, IsDs.mono s1 r⟩ | exact ⟨a, xs, e, Same.rd s2 q, DicAt.mono s1 r⟩ | exact ⟨a, xs, e, s2 _ _ q, InsAt.mono s1 r⟩)
theorem IsO.addr {H0 Hf H : Hp} {d : D} {v : V} (m : d.mut = true) (h : IsO K mg H0 Hf H d v) : ∃ a o, v = .ref a ∧ H0 a = none ∧ Hf a = none ∧ H a = some o := by
  cases d with
  | lst ds => obtain ⟨a, xs, e, z0, zf, q, r⟩ := h; exact ⟨a, _, e, z0, zf, q⟩
  | dic ds => obtain ⟨a, xs, e, z0, zf, q, r⟩ := h; exact ⟨a, _, e, z0, zf, q⟩
  | ins c ds => obtain ⟨a, xs, e, z0, zf, q, r⟩ := h; exact ⟨a, _, e, z0, zf, q⟩
  | _ => cases m
theorem Res.dat {g : G} {Γ : List Bool} {ρ : Env} {σ : St} {Hf H : Hp} {m : Md} {d : D} {v : V} (s : Same Hf H) (n : d.mut = false) (h : IsD K mg Hf d v) : Res K mg g Γ ρ σ Hf H m d v := by
  cases m with
  | rd => exact IsR.of_dat s h
  | fr => exact h
  | ow => exact ⟨IsO.of_dat n h, fun i e _ _ _ q => by rw [n] at q; cases q⟩
theorem Res.rd {g : G} {Γ : List Bool} {ρ : Env} {σ : St} {Hf H : Hp} {m : Md} {d : D} {v : V} (s : Same Hf H) (h : Res K mg g Γ ρ σ Hf H m d v) : IsR K mg Hf H d v := by
  cases m with
  | rd => exact h
  | fr => exact IsR.of_dat s h
  | ow => exact IsR.of_own h.1

theorem frz_same {Hf H : Hp} (p : Addr → Prop) [DecidablePred p] (s : Same Hf H) : Same Hf (fun a => if p a then H a else Hf a) := fun a o e => by
  by_cases h : p a
  · show (if p a then H a else Hf a) = some o
    rw [if_pos h]; exact s _ _ e
  · show (if p a then H a else Hf a) = some o
    rw [if_neg h]; exact e
theorem frz_same2 {Hf H : Hp} (p : Addr → Prop) [DecidablePred p] (s : Same Hf H) : Same (fun a => if p a then H a else Hf a) H := fun a o e => by
  have e' : (if p a then H a else Hf a) = some o := e
  by_cases h : p a
  · rw [if_pos h] at e'; exact e'
  · rw [if_neg h] at e'; exact s _ _ e'
theorem IsD.of_own {H0 Hf Hf' H : Hp} {d : D} {v : V} (s : Same Hf Hf') (at_ : ∀ a, v = .ref a → d.mut = true → Hf' a = H a) (h : IsO K mg H0 Hf H d v) : IsD K mg Hf' d v := by
  cases d with
  | lst ds =>
    obtain ⟨a, xs, e, z0, zf, q, r⟩ := h
    simp only [IsD]
    exact ⟨a, xs, e, (at_ a e rfl).trans q, IsDs.mono s r⟩
  | dic ds =>
    obtain ⟨a, xs, e, z0, zf, q, r⟩ := h
    simp only [IsD]
    exact ⟨a, xs, e, .inl ((at_ a e rfl).trans q), DicAt.mono s r⟩
  | ins c ds =>
    obtain ⟨a, xs, e, z0, zf, q, r⟩ := h
    simp only [IsD]
    exact ⟨a, xs, e, (at_ a e rfl).trans q, InsAt.mono s r⟩
  | _ => exact IsD.mono s h
theorem IsO.keep {H0 Hf Hf' H : Hp} {d : D} {v : V} (s : Same Hf Hf') (at_ : ∀ a, v = .ref a → d.mut = true → Hf' a = none) (h : IsO K mg H0 Hf H d v) : IsO K mg H0 Hf' H d v := by
  cases d with
  | lst ds =>
    obtain ⟨a, xs, e, z0, zf, q, r⟩ := h
    exact ⟨a, xs, e, z0, at_ a e rfl, q, IsDs.mono s r⟩
  | dic ds =>
    obtain ⟨a, xs, e, z0, zf, q, r⟩ := h
    exact ⟨a, xs, e, z0, at_ a e rfl, q, DicAt.mono s r⟩
  | ins c ds =>
    obtain ⟨a, xs, e, z0, zf, q, r⟩ := h
    exact ⟨a, xs, e, z0, at_ a e rfl, q, InsAt.mono s r⟩
  | _ => exact IsD.mono s h
open Classical in
theorem Rp.frz {g : G} {Γ Γ' : List Bool} {ρ : Env} {σ : St} {Hf H : Hp} (R : Rp K mg g Γ ρ σ Hf H) (le : Le Γ' Γ) : ∃ Hf', Same Hf Hf' ∧ Rp K mg g Γ' ρ σ Hf' H ∧ ∀ a o, Hf' a = some o → Hf a = none →
    ∃ i d, Own Γ i ∧ ¬ Own Γ' i ∧ ρ[i]? = some (some d) ∧ d.mut = true ∧ σ[i]? = some (some (.ref a)) := by
  let p : Addr → Prop := fun a => ∃ i d, Own Γ i ∧ ¬ Own Γ' i ∧ ρ[i]? = some (some d) ∧ d.mut = true ∧ σ[i]? = some (some (.ref a))
  have s1 : Same Hf (fun a => if p a then H a else Hf a) := frz_same p R.same
  refine ⟨fun a => if p a then H a else Hf a, s1, ⟨frz_same2 p R.same, R.ent, R.ent2.trans s1, fun a o e => ?_, R.len, fun i d o e => ?_, fun i d o e => ?_, fun i j d e v n o1 o2 => R.sep i j d e v n (le i o1) (le j o2)⟩, fun a o e n => ?_⟩
  · have e' : (if p a then H a else Hf a) = some o := e
    by_cases h : p a
    · obtain ⟨i, d, o1, o2, e1, m, e2⟩ := h
      obtain ⟨v, e3, io⟩ := R.own i d o1 e1
      rw [e2] at e3
      obtain rfl : V.ref a = v := Option.some.inj (Option.some.inj e3)
      obtain ⟨b, ob, e4, z0, _⟩ := io.addr m
      obtain rfl : a = b := V.ref.inj e4
      exact .inr z0
    · rw [if_neg h] at e'
      exact R.news a o e'
  · obtain ⟨v, e1, io⟩ := R.own i d (le i o) e
    refine ⟨v, e1, io.keep s1 fun a ea m => ?_⟩
    obtain ⟨b, ob, e4, z0, zf, _⟩ := io.addr m
    rw [ea] at e4
    obtain rfl : a = b := V.ref.inj e4
    have np : ¬ p a := fun ⟨j, e', o1, o2, e2, m2, e3⟩ => by
      by_cases ij : i = j
      · subst ij; exact o2 o
      · exact R.sep i j d e' (.ref a) ij (le i o) o1 e e2 m m2 (ea ▸ e1) e3
    show (if p a then H a else Hf a) = none
    rw [if_neg np]; exact zf
  · by_cases oΓ : Own Γ i
    · obtain ⟨v, e1, io⟩ := R.own i d oΓ e
      refine ⟨v, e1, IsD.of_own s1 (fun a ea m => ?_) io⟩
      show (if p a then H a else Hf a) = H a
      exact if_pos ⟨i, d, oΓ, o, e, m, ea ▸ e1⟩
    · obtain ⟨v, e1, id⟩ := R.dat i d oΓ e
      exact ⟨v, e1, id.mono s1⟩
  · have e' : (if p a then H a else Hf a) = some o := e
    by_cases h : p a
    · exact h
    · rw [if_neg h, n] at e'; cases e'
end

section
variable {X : Cx} {es : List Expr} {t : TA} {pos : Pos}
theorem laidF {pins : List (Addr × Obj)} {s : Shared} {σ : St} {H : Hp} {Q : VK} {ob : Obj} {xs : List V} {its : List Value} {n : Nat} (I : Inv X pins σ H s) (hz : xs.length ≤ sizeLine) (r : Vals xs its) (hc : ob.cls = .type "tuple") (hd : ob.data = .seq its.toArray n) (hn : ob.dict = none)
    (q : ∀ p o, o.dict = none → H p = none → Q (.ref p) (upd H p (.frz o (.tup xs)))) (hf : ob.isFreed = false := by rfl) : EP X pins σ Q (.ref s.heap.objs.size) { s with heap := s.heap.push ob } :=
  ⟨.ref s.heap.objs.size, _, I.laid (t' := s.toks) (o := .frz ob (.tup xs)) (fun b u e => Heap.get?_push_of_some _ e) (Nat.le_refl _) ⟨Heap.get?_push_size _ hf, hz, its, r, ⟨ob, Heap.get?_push_size _ hf, hc, n, hd⟩⟩, rfl, q _ ob hn (I.hok.fresh (Nat.le_refl _))⟩
def tTupF (t : TA) : TE := fun σ H Q => t σ H fun xs H1 => xs.length ≤ sizeLine ∧ ∀ p o, o.dict = none → H1 p = none → Q (.ref p) (upd H1 p (.frz o (.tup xs)))
theorem pe_tupF {x1 : Nat} (h : PA X es t) : PE X (.Tuple es x1 pos) (tTupF t) := by
  refine ⟨fun pins s σ H Q I hq => ?_⟩
  refine wpAny_Tuple_spliced (thn (h.run pos pins s σ H _ I hq) fun us s1 ⟨xs, H1, I1, r, z, q⟩ => ⟨by rw [← r.length]; exact z, ?_⟩)
  exact laidF I1 z r rfl rfl rfl q
def rSlTF (K : PySem.W.Frag) : V → Option Int → Option Int → Hp → VK → Prop := fun x lo hi H Q => ∃ a xs, x = .ref a ∧ L2.SqT K H a xs ∧
  (HT.sIx xs.length 0 lo = 0 ∧ HT.sIx xs.length xs.length hi = xs.length → Q (.ref a) H) ∧ (¬ (HT.sIx xs.length 0 lo = 0 ∧ HT.sIx xs.length xs.length hi = xs.length) → ∀ p o, o.dict = none → H p = none → Q (.ref p) (upd H p (.frz o (.tup (cutV xs lo hi)))))
theorem sl_tupF : SlR X (rSlTF X.K) := by
  intro pins s σ H x v vl vu lo hi sl Q I rx hs pl pu h
  obtain ⟨a, xs, rfl, hx, q1, q2⟩ := h
  cases rx
  obtain ⟨its, r, ht, hz⟩ := I.tuple hx
  have hlen : its.toArray.size = xs.length := by rw [List.size_toArray]; exact r.length.symm
  refine ⟨"tuple", _, PyProof.Rows.slot_tuple_getitem.lookup, ht.typeIs, ?_⟩
  by_cases hw : HT.sIx xs.length 0 lo = 0 ∧ HT.sIx xs.length xs.length hi = xs.length
  · exact getItem_tuple_whole ht hs pl pu (by rw [hlen]; exact hw) ⟨.ref a, H, I, rfl, q1 hw⟩
  · refine HT.getItem_tuple_cut ht hs pl pu (by rw [hlen]; exact hw) ?_ (by rw [hlen]; exact hz)
    rw [hlen]
    exact laidF I (Nat.le_trans (cutV_length xs lo hi) hz) ((r.drop (HT.sIx xs.length 0 lo)).take (HT.sIx xs.length xs.length hi - HT.sIx xs.length 0 lo)) rfl rfl rfl (q2 hw)
def rCatF (K : PySem.W.Frag) : R2 := fun x y H Q => ∃ a b xs ys, x = .ref a ∧ y = .ref b ∧ L2.SqT K H a xs ∧ L2.SqT K H b ys ∧ xs.length + ys.length ≤ sizeLine ∧
  (xs = [] → Q (.ref b) H) ∧ (xs ≠ [] → ys = [] → Q (.ref a) H) ∧ (xs ≠ [] → ys ≠ [] → ∀ p o, o.dict = none → H p = none → Q (.ref p) (upd H p (.frz o (.tup (xs ++ ys)))))
theorem op_catF : OpR X (binaryOp .Add) (rCatF X.K) := by
  intro pins s σ H x y v u Q I rx ry h
  obtain ⟨a, b, xs, ys, rfl, rfl, ha, hb, hz, q0, q1, q2⟩ := h
  cases rx
  cases ry
  obtain ⟨its, r1, p1, _⟩ := I.tuple ha
  obtain ⟨its2, r2, p2, _⟩ := I.tuple hb
  by_cases hx : xs = []
  · subst hx
    cases r1
    exact cat_tup0 p1 p2 ⟨.ref b, H, I, rfl, q0 rfl⟩
  · refine HT.cat_tup p1 p2 (fun z => hx (r1.nil_iff.mp z)) (fun z => ⟨.ref a, H, I, rfl, q1 hx (r2.nil_iff.mp z)⟩) (fun z => ?_) (by rw [← r1.length, ← r2.length]; exact hz)
    exact laidF I (by rw [List.length_append]; exact hz) (r1.append r2) rfl rfl rfl (q2 hx (fun w => z (r2.nil_iff.mpr w)))
theorem call_tupleF : CallR X (.type "tuple") (fun xs H Q => ∃ p ys, xs = [.ref p] ∧ ((SqL X.K H p ys ∧ ∀ l o, o.dict = none → H l = none → Q (.ref l) (upd H l (.frz o (.tup ys)))) ∨ (L2.SqT X.K H p ys ∧ Q (.ref p) H))) := by
  intro pins s σ H xs us Q I r h
  obtain ⟨p, ys, rfl, h⟩ := h
  obtain ⟨u, rfl, rx⟩ := vals1 r
  cases rx
  rcases h with ⟨hq, q⟩ | ⟨hq, q⟩
  · obtain ⟨its, r', pl, hz⟩ := I.list hq
    have hlen := r'.length
    refine call_tuple_list pl.isList (fun h' kp => ?_) (by simp only [List.size_toArray] <;> omega)
    have I1 : Inv X pins σ H { s with heap := h' } := I.kept (t' := s.toks) kp
    exact laidF I1 hz r' rfl rfl rfl q
  · obtain ⟨its, r', pl, hz⟩ := I.tuple hq
    exact call_tuple_same pl ⟨.ref p, H, I, rfl, q⟩
end
end PD

namespace PD
open PySem PySem.Spec L2
open PyProof.Rows hiding St

section
variable {K : PySem.W.Frag} {mg : Mg} {g : G} {E : WX} {Γ Γ1 Γ2 : List Bool} {ρ : Env} {σ : St} {Hf H Hf' H' : Hp}
theorem tG.mono {α : Type} {P : α → Hp → Hp → Prop} {o : Out α} (s1 : Same Hf Hf') (s2 : Same H H') (h : tG K mg g E Γ ρ σ Hf H P o) : tG K mg g E Γ ρ σ Hf' H' P o := by
  cases o with
  | ok a => exact fun F' H' a b R => h F' H' (s1.trans a) (s2.trans b) R
  | exc x => exact fun c dd F' H' a b R q => h c dd F' H' (s1.trans a) (s2.trans b) R q
  | stuck => exact h
theorem tG.imp {α : Type} {P P' : α → Hp → Hp → Prop} {o : Out α} (h : tG K mg g E Γ ρ σ Hf H P o) (w : ∀ a Hf' H', Same Hf Hf' → Same H H' → Rp K mg g Γ ρ σ Hf' H' → P a Hf' H' → P' a Hf' H') : tG K mg g E Γ ρ σ Hf H P' o := by
  cases o with
  | ok a => exact fun F' H' a b R => w _ F' H' a b R (h F' H' a b R)
  | exc x => exact h
  | stuck => exact h
theorem tG.bind {α β : Type} {P1 : α → Hp → Hp → Prop} {P2 : β → Hp → Hp → Prop} {o : Out α} {k : α → Out β} (le : Le Γ2 Γ1) (h : tG K mg g E Γ2 ρ σ Hf H P2 (o.bind k))
    (hk : ∀ a Hf' H', Same Hf Hf' → Same H H' → Rp K mg g Γ1 ρ σ Hf' H' → tG K mg g E Γ2 ρ σ Hf' H' P2 (k a) → P1 a Hf' H') : tG K mg g E Γ1 ρ σ Hf H P1 o := by
  cases o with
  | ok a => exact fun F' H' s1 s2 R => hk a F' H' s1 s2 R (tG.mono s1 s2 h)
  | exc x =>
    intro c dd F' H' s1 s2 R q
    obtain ⟨F'', s3, R', _⟩ := R.frz le
    exact h c dd F'' H' (s1.trans s3) s2 R' (q.mono s3)
  | stuck => exact h
end

def PV (X : Cx) (g : G) (Γ : List Bool) (ρ : Env) (σ : St) (m : Md) (Q : VK) : D → Hp → Hp → Prop := fun d Hf H => ∀ v, Res X.K X.mw g Γ ρ σ Hf H m d v → Q v H
structure PX (X : Cx) (g : G) (E : WX) (Γ : List Bool) (e : Expr) (Γ' : List Bool) (m : Md) (f : Env → Out D) : Prop where
  le : Le Γ' Γ
  pe : PE X e (fun σ H Q => ∃ ρ Hf, Rp X.K X.mw g Γ ρ σ Hf H ∧ tG X.K X.mw g E Γ' ρ σ Hf H (PV X g Γ' ρ σ m Q) (f ρ))
structure PTx (X : Cx) (g : G) (E : WX) (Γ : List Bool) (e : Expr) (Γ' : List Bool) (f : Env → Out Bool) : Prop where
  le : Le Γ' Γ
  pe : PT X e (fun σ H Q => ∃ ρ Hf, Rp X.K X.mw g Γ ρ σ Hf H ∧ tG X.K X.mw g E Γ' ρ σ Hf H (fun b _ H' => Q b H') (f ρ))
structure PWx (X : Cx) (g : G) (E : WX) (Γ : List Bool) (e : Expr) (Γ' : List Bool) (f : Env → Out Bool) : Prop where
  le : Le Γ' Γ
  pe : PW X e (fun σ H Q => ∃ ρ Hf, Rp X.K X.mw g Γ ρ σ Hf H ∧ tG X.K X.mw g E Γ' ρ σ Hf H (fun b _ H' => Q b H') (f ρ))
structure PAx (X : Cx) (g : G) (E : WX) (Γ : List Bool) (e : List Expr) (Γ' : List Bool) (f : Env → Out (List D)) : Prop where
  le : Le Γ' Γ
  pe : PA X e (fun σ H Q => ∃ ρ Hf, Rp X.K X.mw g Γ ρ σ Hf H ∧ tG X.K X.mw g E Γ' ρ σ Hf H (fun ds Hf' H' => ∀ vs, IsDs X.K X.mw Hf' ds vs → Q vs H') (f ρ))

theorem _root_.L2.PE.imp {X : Cx} {e : Expr} {t t' : TE} (h : PE X e t) (w : ∀ σ H Q, t' σ H Q → t σ H Q) : PE X e t' :=
  ⟨fun pins s σ H Q I q => h.run pins s σ H Q I (w σ H Q q)⟩
theorem _root_.L2.PT.imp {X : Cx} {e : Expr} {t t' : TT} (h : PT X e t) (w : ∀ σ H Q, t' σ H Q → t σ H Q) : PT X e t' :=
  ⟨fun pins s σ H Q I q => h.run pins s σ H Q I (w σ H Q q)⟩
theorem _root_.L2.PW.imp {X : Cx} {e : Expr} {t t' : TT} (h : PW X e t) (w : ∀ σ H Q, t' σ H Q → t σ H Q) : PW X e t' :=
  ⟨fun wh pins s σ H Q I q => h.run wh pins s σ H Q I (w σ H Q q)⟩
theorem _root_.L2.PA.imp {X : Cx} {e : List Expr} {t t' : TA} (h : PA X e t) (w : ∀ σ H Q, t' σ H Q → t σ H Q) : PA X e t' :=
  ⟨fun p pins s σ H Q I q => h.run p pins s σ H Q I (w σ H Q q)⟩

section
variable {X : Cx} {g : G} {E : WX} {Γ Γ1 Γ2 Γ3 : List Bool} {m : Md} {pos : Pos}

def eC (d : D) : Env → Out D := fun _ => .ok d
def eV (i : Nat) : Env → Out D := fun ρ => match ρ[i]? with
  | some (some d) => .ok d
  | _ => .stuck
def e2 (F : D → D → Out D) (a b : Env → Out D) : Env → Out D := fun ρ => (a ρ).bind fun x => (b ρ).bind fun y => F x y
def e1 (F : D → Out D) (a : Env → Out D) : Env → Out D := fun ρ => (a ρ).bind F
def aN : Env → Out (List D) := fun _ => .ok []
def aC (a : Env → Out D) (r : Env → Out (List D)) : Env → Out (List D) := fun ρ => (a ρ).bind fun x => (r ρ).bind fun xs => .ok (x :: xs)
def eA (F : List D → Out D) (a : Env → Out (List D)) : Env → Out D := fun ρ => (a ρ).bind F

open Classical in
theorem Rp.cool {K : PySem.W.Frag} {mg : Mg} {ρ : Env} {σ : St} {Hf H : Hp} (R : Rp K mg g Γ ρ σ Hf H) {d : D} {v : V} (io : IsO K mg g.H0 Hf H d v)
    (ap : ∀ i e, Own Γ i → ρ[i]? = some (some e) → e.mut = true → d.mut = true → σ[i]? = some (some v) → False) : ∃ Hf', Same Hf Hf' ∧ Rp K mg g Γ ρ σ Hf' H ∧ IsD K mg Hf' d v := by
  by_cases md : d.mut = true
  · obtain ⟨a, o, rfl, z0, zf, hH⟩ := io.addr md
    have s1 : Same Hf (fun b => if b = a then H b else Hf b) := frz_same (fun b => b = a) R.same
    refine ⟨fun b => if b = a then H b else Hf b, s1, ⟨frz_same2 (fun b => b = a) R.same, R.ent, R.ent2.trans s1, fun b o e => ?_, R.len, fun i d' o e => ?_, fun i d' o e => ?_, R.sep⟩, IsD.of_own s1 (fun b eb _ => ?_) io⟩
    · have e' : (if b = a then H b else Hf b) = some o := e
      by_cases h : b = a
      · subst h; exact .inr z0
      · rw [if_neg h] at e'; exact R.news b o e'
    · obtain ⟨v, e1, io'⟩ := R.own i d' o e
      refine ⟨v, e1, io'.keep s1 fun b eb m => ?_⟩
      subst eb
      have hb : b ≠ a := fun z => ap i d' o e m md (z ▸ e1)
      obtain ⟨c, oc, e4, _, zf', _⟩ := io'.addr m
      obtain rfl : b = c := V.ref.inj e4
      show (if b = a then H b else Hf b) = none
      rw [if_neg hb]; exact zf'
    · obtain ⟨v, e1, q⟩ := R.dat i d' o e
      exact ⟨v, e1, q.mono s1⟩
    · obtain rfl : a = b := V.ref.inj eb
      exact if_pos rfl
  · refine ⟨Hf, Same.refl _, R, ?_⟩
    cases d <;> first | exact io | exact absurd rfl md
theorem PX.fr {e : Expr} {f : Env → Out D} (h : PX X g E Γ e Γ1 .ow f) : PX X g E Γ e Γ1 .fr f := by
  refine ⟨h.le, h.pe.imp fun σ H Q ⟨ρ, Hf, R, q⟩ => ⟨ρ, Hf, R, ?_⟩⟩
  cases hf : f ρ with
  | ok d =>
    rw [hf] at q
    intro F1 H1 s1 s2 R1 v hv
    obtain ⟨io, ap⟩ := hv
    obtain ⟨F2, s3, R2, id⟩ := R1.cool io ap
    exact q F2 H1 (s1.trans s3) s2 R2 v id
  | exc x => rw [hf] at q; exact q
  | stuck => rw [hf] at q; exact q
theorem PX.rd {e : Expr} {f : Env → Out D} (h : PX X g E Γ e Γ1 m f) : PX X g E Γ e Γ1 .rd f := by
  refine ⟨h.le, h.pe.imp fun σ H Q ⟨ρ, Hf, R, q⟩ => ⟨ρ, Hf, R, tG.imp q fun d F1 H1 s1 s2 R1 k v hv => k v (Res.rd R1.same hv)⟩⟩

theorem PX.atom {e : Expr} {d : D} {v0 : V} (h : PE X e (tC v0)) (n : d.mut = false) (q : ∀ F v, v = v0 → IsD X.K X.mw F d v) : PX X g E Γ e Γ m (eC d) := by
  refine ⟨Le.refl _, h.imp fun σ H Q ⟨ρ, Hf, R, k⟩ => ?_⟩
  exact k Hf H (Same.refl _) (Same.refl _) R v0 (Res.dat R.same n (q Hf v0 rfl))
theorem px_int {i : Int} {j pos} : PX X g E Γ (.Constant (.int i) j pos) Γ m (eC (.int i)) := .atom pe_int rfl fun F v e => by simpa only [IsD] using e
theorem px_bl {b : Bool} {j pos} : PX X g E Γ (.Constant (.bool b) j pos) Γ m (eC (.bl b)) := .atom pe_bl rfl fun F v e => by simpa only [IsD] using e
theorem px_str {x : Str} {j pos} : PX X g E Γ (.Constant (.str x) j pos) Γ m (eC (.str x)) := .atom pe_str rfl fun F v e => by simpa only [IsD] using e
theorem eV_ok {i : Nat} {ρ : Env} {d : D} (h : eV i ρ = .ok d) : ρ[i]? = some (some d) := by
  unfold eV at h
  split at h
  · cases h; assumption
  · cases h
theorem eV_nx {i : Nat} {ρ : Env} {x : Exn} (h : eV i ρ = .exc x) : False := by
  unfold eV at h
  split at h <;> cases h
theorem px_rd {x : Str} {i : Nat} (h : PE X (.Name x pos) (tVar i)) : PX X g E Γ (.Name x pos) Γ .rd (eV i) := by
  refine ⟨Le.refl _, h.imp fun σ H Q ⟨ρ, Hf, R, k⟩ => ?_⟩
  cases he : eV i ρ with
  | ok d =>
    rw [he] at k
    have e := eV_ok he
    by_cases o : Own Γ i
    · obtain ⟨v, e1, io⟩ := R.own i d o e
      exact ⟨v, e1, k Hf H (Same.refl _) (Same.refl _) R v (IsR.of_own io)⟩
    · obtain ⟨v, e1, io⟩ := R.dat i d o e
      exact ⟨v, e1, k Hf H (Same.refl _) (Same.refl _) R v (IsR.of_dat R.same io)⟩
  | exc x => exact (eV_nx he).elim
  | stuck => rw [he] at k; exact k.elim
theorem px_fr {x : Str} {i : Nat} (h : PE X (.Name x pos) (tVar i)) : PX X g E Γ (.Name x pos) (Γ.set i false) .fr (eV i) := by
  refine ⟨Le.set Γ i, h.imp fun σ H Q ⟨ρ, Hf, R, k⟩ => ?_⟩
  cases he : eV i ρ with
  | ok d =>
    rw [he] at k
    have e := eV_ok he
    obtain ⟨F', s1, R', _⟩ := R.frz (Le.set Γ i)
    have no : ¬ Own (Γ.set i false) i := fun z => by
      unfold Own at z
      rw [List.getD_eq_getElem?_getD, List.getElem?_set] at z
      by_cases l : i < Γ.length
      · simp [l] at z
      · simp [l] at z
    obtain ⟨v, e1, q⟩ := R'.dat i d no e
    exact ⟨v, e1, k F' H s1 (Same.refl _) R' v q⟩
  | exc x => exact (eV_nx he).elim
  | stuck => rw [he] at k; exact k.elim
theorem px_fr' {x : Str} {i : Nat} (h : PE X (.Name x pos) (tVar i)) (no : Γ.getD i false = false) : PX X g E Γ (.Name x pos) Γ .fr (eV i) := by
  refine ⟨Le.refl _, h.imp fun σ H Q ⟨ρ, Hf, R, k⟩ => ?_⟩
  cases he : eV i ρ with
  | ok d =>
    rw [he] at k
    have e := eV_ok he
    obtain ⟨v, e1, q⟩ := R.dat i d (fun z => by unfold Own at z; rw [no] at z; cases z) e
    exact ⟨v, e1, k Hf H (Same.refl _) (Same.refl _) R v q⟩
  | exc x => exact (eV_nx he).elim
  | stuck => rw [he] at k; exact k.elim

def OpD (X : Cx) (f : Value → Value → Sem Value) (m : Md) (F : D → D → Out D) : Prop := ∃ r, OpR X f r ∧
  ∀ g E Γ ρ σ Hf H x y v u Q, Rp X.K X.mw g Γ ρ σ Hf H → IsR X.K X.mw Hf H x v → IsR X.K X.mw Hf H y u → tG X.K X.mw g E Γ ρ σ Hf H (PV X g Γ ρ σ m Q) (F x y) → r v u H Q
def UnD (X : Cx) (f : Value → Sem Value) (m : Md) (F : D → Out D) : Prop := ∃ r, UnR X f r ∧
  ∀ g E Γ ρ σ Hf H x v Q, Rp X.K X.mw g Γ ρ σ Hf H → IsR X.K X.mw Hf H x v → tG X.K X.mw g E Γ ρ σ Hf H (PV X g Γ ρ σ m Q) (F x) → r v H Q
variable {a b : Expr} {fa fb : Env → Out D}
theorem px_bin {op : Operator} {F : D → D → Out D} (ho : OpD X (binaryOp op) m F) (ha : PX X g E Γ a Γ1 .rd fa) (hb : PX X g E Γ1 b Γ2 .rd fb) : PX X g E Γ (.BinOp a op b pos) Γ2 m (e2 F fa fb) := by
  obtain ⟨r, hr, w⟩ := ho
  refine ⟨hb.le.trans ha.le, (pe_op hr ha.pe hb.pe).imp fun σ H Q ⟨ρ, Hf, R, k⟩ => ⟨ρ, Hf, R, ?_⟩⟩
  refine tG.bind hb.le k fun x F1 H1 s1 s2 R1 k1 v hv => ⟨ρ, F1, R1, ?_⟩
  refine tG.bind (Le.refl _) k1 fun y F2 H2 s3 s4 R2 k2 u hu => ?_
  exact w g E Γ2 ρ σ F2 H2 x y v u Q R2 (IsR.mono s3 s4 hv) hu k2
theorem px_cmp {op : CmpOp} {F : D → D → Out D} (ho : OpD X (compareOp op) m F) (ha : PX X g E Γ a Γ1 .rd fa) (hb : PX X g E Γ1 b Γ2 .rd fb) (hm : behindInMarks op b = false) : PX X g E Γ (.Compare a [op] [b] pos) Γ2 m (e2 F fa fb) := by
  obtain ⟨r, hr, w⟩ := ho
  refine ⟨hb.le.trans ha.le, (pe_cmpR hr ha.pe hb.pe hm).imp fun σ H Q ⟨ρ, Hf, R, k⟩ => ⟨ρ, Hf, R, ?_⟩⟩
  refine tG.bind hb.le k fun x F1 H1 s1 s2 R1 k1 v hv => ⟨ρ, F1, R1, ?_⟩
  refine tG.bind (Le.refl _) k1 fun y F2 H2 s3 s4 R2 k2 u hu => ?_
  exact w g E Γ2 ρ σ F2 H2 x y v u Q R2 (IsR.mono s3 s4 hv) hu k2
theorem px_un {op : UnaryOp} {F : D → Out D} (ho : UnD X (unaryOp op) m F) (ha : PX X g E Γ a Γ1 .rd fa) : PX X g E Γ (.UnaryOp op a pos) Γ1 m (e1 F fa) := by
  obtain ⟨r, hr, w⟩ := ho
  refine ⟨ha.le, (pe_un hr ha.pe).imp fun σ H Q ⟨ρ, Hf, R, k⟩ => ⟨ρ, Hf, R, ?_⟩⟩
  refine tG.bind (Le.refl _) k fun x F1 H1 s1 s2 R1 k1 v hv => ?_
  exact w g E Γ1 ρ σ F1 H1 x v Q R1 hv k1

def tOf (f : Env → Out D) : Env → Out Bool := fun ρ => (f ρ).bind fun d => match d with
  | .bl b => .ok b
  | _ => .stuck
theorem pt_of {e : Expr} {t : TE} {f : Env → Out D} (hp : PT X e (tTest t)) (w : ∀ σ H Q, (∃ ρ Hf, Rp X.K X.mw g Γ ρ σ Hf H ∧ tG X.K X.mw g E Γ1 ρ σ Hf H (PV X g Γ1 ρ σ .rd Q) (f ρ)) → t σ H Q) (le : Le Γ1 Γ) : PTx X g E Γ e Γ1 (tOf f) := by
  refine ⟨le, hp.imp fun σ H Q ⟨ρ, Hf, R, k⟩ => w σ H _ ⟨ρ, Hf, R, ?_⟩⟩
  refine tG.bind (Le.refl _) k fun x F1 H1 s1 s2 R1 k1 v hv => ?_
  cases x with
  | bl b => exact ⟨b, hv, k1 F1 H1 (Same.refl _) (Same.refl _) R1⟩
  | _ => exact k1.elim
theorem ptx_val {e : Expr} {f : Env → Out D} (h : PX X g E Γ e Γ1 .rd f) (he : ∀ whole, isTrue e X.env whole = (do let v ← whole; standAt e.pos; holding [v] (truthy v)) := by intro _; rfl) : PTx X g E Γ e Γ1 (tOf f) :=
  pt_of (pt_val h.pe he) (fun _ _ _ z => z) h.le
theorem ptx_cmp {op : CmpOp} {F : D → D → Out D} (ho : OpD X (compareOp op) .rd F) (ha : PX X g E Γ a Γ1 .rd fa) (hb : PX X g E Γ1 b Γ2 .rd fb) (hm : behindInMarks op b = false) : PTx X g E Γ (.Compare a [op] [b] pos) Γ2 (tOf (e2 F fa fb)) := by
  obtain ⟨r, hr, w⟩ := ho
  refine pt_of (pt_cmpR hr ha.pe hb.pe hm) (fun σ H Q ⟨ρ, Hf, R, k⟩ => ⟨ρ, Hf, R, ?_⟩) (hb.le.trans ha.le)
  refine tG.bind hb.le k fun x F1 H1 s1 s2 R1 k1 v hv => ⟨ρ, F1, R1, ?_⟩
  refine tG.bind (Le.refl _) k1 fun y F2 H2 s3 s4 R2 k2 u hu => ?_
  exact w g E Γ2 ρ σ F2 H2 x y v u Q R2 (IsR.mono s3 s4 hv) hu k2
def bAnd (s t : Env → Out Bool) : Env → Out Bool := fun ρ => (s ρ).bind fun b => if b = true then t ρ else .ok false
def bOr (s t : Env → Out Bool) : Env → Out Bool := fun ρ => (s ρ).bind fun b => if b = true then .ok true else t ρ
def bNot (s : Env → Out Bool) : Env → Out Bool := fun ρ => (s ρ).bind fun b => .ok (!b)
variable {fs ft : Env → Out Bool} {rest : List Expr}
theorem pwx_and1 (ha : PTx X g E Γ a Γ1 fs) : PWx X g E Γ (.BoolOp .And [a] pos) Γ1 fs := ⟨ha.le, pw_and1 ha.pe⟩
theorem pwx_or1 (ha : PTx X g E Γ a Γ1 fs) : PWx X g E Γ (.BoolOp .Or [a] pos) Γ1 fs := ⟨ha.le, pw_or1 ha.pe⟩
theorem PWx.pt {e : Expr} (h : PWx X g E Γ e Γ1 fs) : PTx X g E Γ e Γ1 fs := ⟨h.le, h.pe.pt⟩
theorem pwx_and (ha : PTx X g E Γ a Γ1 fs) (hb : PWx X g E Γ1 (.BoolOp .And (b :: rest) pos) Γ2 ft) : PWx X g E Γ (.BoolOp .And (a :: b :: rest) pos) Γ2 (bAnd fs ft) := by
  refine ⟨hb.le.trans ha.le, (pw_and ha.pe hb.pe).imp fun σ H Q ⟨ρ, Hf, R, k⟩ => ⟨ρ, Hf, R, ?_⟩⟩
  refine tG.bind hb.le k fun x F1 H1 s1 s2 R1 k1 => ?_
  cases x with
  | true => exact ⟨ρ, F1, R1, k1⟩
  | false =>
    obtain ⟨F2, s3, R2, _⟩ := R1.frz hb.le
    exact k1 F2 H1 s3 (Same.refl _) R2
theorem pwx_or (ha : PTx X g E Γ a Γ1 fs) (hb : PWx X g E Γ1 (.BoolOp .Or (b :: rest) pos) Γ2 ft) : PWx X g E Γ (.BoolOp .Or (a :: b :: rest) pos) Γ2 (bOr fs ft) := by
  refine ⟨hb.le.trans ha.le, (pw_or ha.pe hb.pe).imp fun σ H Q ⟨ρ, Hf, R, k⟩ => ⟨ρ, Hf, R, ?_⟩⟩
  refine tG.bind hb.le k fun x F1 H1 s1 s2 R1 k1 => ?_
  cases x with
  | false => exact ⟨ρ, F1, R1, k1⟩
  | true =>
    obtain ⟨F2, s3, R2, _⟩ := R1.frz hb.le
    exact k1 F2 H1 s3 (Same.refl _) R2
theorem ptx_not (ha : PTx X g E Γ a Γ1 fs) : PTx X g E Γ (.UnaryOp .Not a pos) Γ1 (bNot fs) := by
  refine ⟨ha.le, (pt_not ha.pe).imp fun σ H Q ⟨ρ, Hf, R, k⟩ => ⟨ρ, Hf, R, ?_⟩⟩
  exact tG.bind (Le.refl _) k fun x F1 H1 s1 s2 R1 k1 => k1 F1 H1 (Same.refl _) (Same.refl _) R1
def vAnd (a b : Env → Out D) : Env → Out D := fun ρ => (a ρ).bind fun x => match x with
  | .bl c => if c = true then b ρ else .ok (.bl false)
  | _ => .stuck
def vOr (a b : Env → Out D) : Env → Out D := fun ρ => (a ρ).bind fun x => match x with
  | .bl c => if c = true then .ok (.bl true) else b ρ
  | _ => .stuck
theorem px_one {op} (h : PX X g E Γ a Γ1 m fa) : PX X g E Γ (.BoolOp op [a] pos) Γ1 m fa := ⟨h.le, pe_one h.pe⟩
theorem px_and (ha : PX X g E Γ a Γ1 .rd fa) (hb : PX X g E Γ1 (.BoolOp .And (b :: rest) pos) Γ2 m fb) : PX X g E Γ (.BoolOp .And (a :: b :: rest) pos) Γ2 m (vAnd fa fb) := by
  refine ⟨hb.le.trans ha.le, (pe_and ha.pe hb.pe).imp fun σ H Q ⟨ρ, Hf, R, k⟩ => ⟨ρ, Hf, R, ?_⟩⟩
  refine tG.bind hb.le k fun x F1 H1 s1 s2 R1 k1 v hv => ?_
  cases x with
  | bl c =>
    refine ⟨c, hv, ?_⟩
    cases c with
    | true => exact ⟨ρ, F1, R1, k1⟩
    | false =>
      obtain ⟨F2, s3, R2, _⟩ := R1.frz hb.le
      exact k1 F2 H1 s3 (Same.refl _) R2 (.bl false) (Res.dat R2.same rfl (by simp only [IsD]))
  | _ => exact k1.elim
def vNot (a : Env → Out D) : Env → Out D := fun ρ => (a ρ).bind fun x => match x with
  | .bl c => .ok (.bl (!c))
  | _ => .stuck
theorem px_not (ha : PX X g E Γ a Γ1 .rd fa) : PX X g E Γ (.UnaryOp .Not a pos) Γ1 m (vNot fa) := by
  refine ⟨ha.le, (pe_not ha.pe).imp fun σ H Q ⟨ρ, Hf, R, k⟩ => ⟨ρ, Hf, R, ?_⟩⟩
  refine tG.bind (Le.refl _) k fun x F1 H1 s1 s2 R1 k1 v hv => ?_
  cases x with
  | bl c => exact ⟨c, hv, k1 F1 H1 (Same.refl _) (Same.refl _) R1 (.bl (!c)) (Res.dat R1.same rfl (by simp only [IsD]))⟩
  | _ => exact k1.elim
def eIf (t : Env → Out Bool) (a b : Env → Out D) : Env → Out D := fun ρ => (t ρ).bind fun c => if c = true then a ρ else b ρ
variable {es : List Expr} {fr : Env → Out (List D)}
theorem pax_nil : PAx X g E Γ [] Γ aN := by
  refine ⟨Le.refl _, pa_nil.imp fun σ H Q ⟨ρ, Hf, R, k⟩ => ?_⟩
  exact k Hf H (Same.refl _) (Same.refl _) R [] (by simp only [IsDs])
theorem pax_cons (ha : PX X g E Γ a Γ1 .fr fa) (hr : PAx X g E Γ1 es Γ2 fr) (hs : starEach (a :: es) X.env = (false, eval a X.env) :: starEach es X.env := by rfl) : PAx X g E Γ (a :: es) Γ2 (aC fa fr) := by
  refine ⟨hr.le.trans ha.le, (pa_cons ha.pe hr.pe hs).imp fun σ H Q ⟨ρ, Hf, R, k⟩ => ⟨ρ, Hf, R, ?_⟩⟩
  refine tG.bind hr.le k fun x F1 H1 s1 s2 R1 k1 v hv => ⟨ρ, F1, R1, ?_⟩
  refine tG.bind (Le.refl _) k1 fun ys F2 H2 s3 s4 R2 k2 us hu => ?_
  refine k2 F2 H2 (Same.refl _) (Same.refl _) R2 (v :: us) ?_
  simp only [IsDs]
  exact ⟨v, us, rfl, IsD.mono s3 hv, hu⟩
theorem IsDs.len {K : PySem.W.Frag} {mg : Mg} {H : Hp} : ∀ {ds : List D} {vs : List V}, IsDs K mg H ds vs → vs.length = ds.length
  | [], vs, h => by simp only [IsDs] at h; rw [h]; rfl
  | d :: ds, vs, h => by
    simp only [IsDs] at h
    obtain ⟨v, us, e, _, r⟩ := h
    rw [e, List.length_cons, List.length_cons, IsDs.len r]
noncomputable def mkTup (ds : List D) : Out D := chk (ds.length ≤ sizeLine) (.ok (.tup ds))
noncomputable def mkLst (ds : List D) : Out D := chk (ds.length ≤ sizeLine) (.ok (.lst ds))
theorem Rp.new {K : PySem.W.Frag} {mg : Mg} {ρ : Env} {σ : St} {Hf H : Hp} (R : Rp K mg g Γ ρ σ Hf H) {p : Addr} (o : HO) (n : H p = none) : Same Hf (upd Hf p o) ∧ Same H (upd H p o) ∧ Rp K mg g Γ ρ σ (upd Hf p o) (upd H p o) := by
  have nf : Hf p = none := R.same.free n
  have n0 : g.H0 p = none := R.ent.free n
  have s1 : Same Hf (upd Hf p o) := fun b x e => by rw [upd_ne (ne_of_none e nf)]; exact e
  have s2 : Same H (upd H p o) := fun b x e => by rw [upd_ne (ne_of_none e n)]; exact e
  refine ⟨s1, s2, ⟨fun b x e => ?_, R.ent.trans s2, R.ent2.trans s1, fun b x e => ?_, R.len, fun i d ow e => ?_, fun i d ow e => ?_, R.sep⟩⟩
  · by_cases h : b = p
    · subst h; rw [upd_same] at e ⊢; exact e
    · rw [upd_ne h] at e ⊢; exact R.same _ _ e
  · by_cases h : b = p
    · subst h; exact .inr n0
    · rw [upd_ne h] at e; exact R.news _ _ e
  · obtain ⟨v, e1, io⟩ := R.own i d ow e
    refine ⟨v, e1, ?_⟩
    cases d with
    | lst ds =>
      obtain ⟨a, xs, e, z0, zf, q, r⟩ := io
      exact ⟨a, xs, e, z0, by rw [upd_ne (ne_of_none q n)]; exact zf, s2 _ _ q, IsDs.mono s1 r⟩
    | dic ds =>
      obtain ⟨a, xs, e, z0, zf, q, r⟩ := io
      exact ⟨a, xs, e, z0, by rw [upd_ne (ne_of_none q n)]; exact zf, s2 _ _ q, DicAt.mono s1 r⟩
    | ins c ds =>
      obtain ⟨a, xs, e, z0, zf, q, r⟩ := io
      exact ⟨a, xs, e, z0, by rw [upd_ne (ne_of_none q n)]; exact zf, s2 _ _ q, InsAt.mono s1 r⟩
    | _ => exact IsD.mono s1 io
  · obtain ⟨v, e1, q⟩ := R.dat i d ow e
    exact ⟨v, e1, q.mono s1⟩
theorem Rp.newO {K : PySem.W.Frag} {mg : Mg} {ρ : Env} {σ : St} {Hf H : Hp} (R : Rp K mg g Γ ρ σ Hf H) {p : Addr} (o : HO) (n : H p = none) : Same H (upd H p o) ∧ Rp K mg g Γ ρ σ Hf (upd H p o) ∧ g.H0 p = none ∧ Hf p = none ∧
    ∀ i e, Own Γ i → ρ[i]? = some (some e) → e.mut = true → σ[i]? = some (some (.ref p)) → False := by
  have nf : Hf p = none := R.same.free n
  have n0 : g.H0 p = none := R.ent.free n
  have s2 : Same H (upd H p o) := fun b x e => by rw [upd_ne (ne_of_none e n)]; exact e
  refine ⟨s2, ⟨R.same.trans s2, R.ent.trans s2, R.ent2, R.news, R.len, fun i d ow e => ?_, R.dat, R.sep⟩, n0, nf, fun i e ow e1 m e2 => ?_⟩
  · obtain ⟨v, e1, io⟩ := R.own i d ow e
    refine ⟨v, e1, ?_⟩
    cases d with
    | lst ds =>
      obtain ⟨a, xs, e, z0, zf, q, r⟩ := io
      exact ⟨a, xs, e, z0, zf, s2 _ _ q, r⟩
    | dic ds =>
      obtain ⟨a, xs, e, z0, zf, q, r⟩ := io
      exact ⟨a, xs, e, z0, zf, s2 _ _ q, r⟩
    | ins c ds =>
      obtain ⟨a, xs, e, z0, zf, q, r⟩ := io
      exact ⟨a, xs, e, z0, zf, s2 _ _ q, r⟩
    | _ => exact io
  · obtain ⟨v, e3, io⟩ := R.own i e ow e1
    obtain ⟨a, oo, e4, _, _, q⟩ := io.addr m
    rw [e2] at e3
    obtain rfl : V.ref p = v := Option.some.inj (Option.some.inj e3)
    obtain rfl : p = a := V.ref.inj e4
    rw [n] at q; cases q
theorem px_tup {k : Nat} (h : PAx X g E Γ es Γ1 fr) : PX X g E Γ (.Tuple es k pos) Γ1 m (eA mkTup fr) := by
  refine ⟨h.le, (pe_tupF h.pe).imp fun σ H Q ⟨ρ, Hf, R, q⟩ => ⟨ρ, Hf, R, ?_⟩⟩
  refine tG.bind (Le.refl _) q fun ds F1 H1 s1 s2 R1 k1 vs hv => ?_
  unfold mkTup at k1
  by_cases z : ds.length ≤ sizeLine
  · rw [chk_pos z] at k1
    refine ⟨by rw [hv.len]; exact z, fun p o hd n => ?_⟩
    obtain ⟨t1, t2, R2⟩ := R1.new (.frz o (.tup vs)) n
    refine k1 _ _ t1 t2 R2 _ (Res.dat R2.same rfl ?_)
    simp only [IsD]
    exact ⟨p, vs, rfl, .frz upd_same hd, IsDs.mono t1 hv⟩
  · rw [chk_neg z] at k1; exact k1.elim
theorem px_lst (h : PAx X g E Γ es Γ1 fr) : PX X g E Γ (.List es pos) Γ1 .ow (eA mkLst fr) := by
  refine ⟨h.le, (pe_lst h.pe).imp fun σ H Q ⟨ρ, Hf, R, q⟩ => ⟨ρ, Hf, R, ?_⟩⟩
  refine tG.bind (Le.refl _) q fun ds F1 H1 s1 s2 R1 k1 vs hv => ?_
  unfold mkLst at k1
  by_cases z : ds.length ≤ sizeLine
  · rw [chk_pos z] at k1
    refine ⟨by rw [hv.len]; exact z, fun p n => ?_⟩
    obtain ⟨t2, R2, n0, nf, ap⟩ := R1.newO (.lst vs) n
    exact k1 _ _ (Same.refl _) t2 R2 (.ref p) ⟨⟨p, vs, rfl, n0, nf, upd_same, hv⟩, fun i e ow e1 m _ e2 => ap i e ow e1 m e2⟩
  · rw [chk_neg z] at k1; exact k1.elim
end
end PD

namespace PD
open PySem PySem.Spec L2
open PyProof.Rows hiding St

structure PSx (X : Cx) (g : G) (E : WX) (ro : Bool) (Γl : List Bool) (Γ : List Bool) (st : Stmt) (Γ' : List Bool) (f : Env → SO) : Prop where
  ps : PS X st (fun Dn σ H => ∃ ρ Hf, Rp X.K X.mw g Γ ρ σ Hf H ∧ sR X.K X.mw g E Γ' Γl ro Dn (f ρ))
structure PSsx (X : Cx) (g : G) (E : WX) (ro : Bool) (Γl : List Bool) (Γ : List Bool) (st : List Stmt) (Γ' : List Bool) (f : Env → SO) : Prop where
  ps : PSs X st (fun Dn σ H => ∃ ρ Hf, Rp X.K X.mw g Γ ρ σ Hf H ∧ sR X.K X.mw g E Γ' Γl ro Dn (f ρ))
theorem _root_.L2.PS.imp {X : Cx} {e : Stmt} {t t' : TS} (h : PS X e t) (w : ∀ D σ H, t' D σ H → t D σ H) : PS X e t' :=
  ⟨fun pins s σ H D I q => h.run pins s σ H D I (w D σ H q)⟩
theorem _root_.L2.PSs.imp {X : Cx} {e : List Stmt} {t t' : TS} (h : PSs X e t) (w : ∀ D σ H, t' D σ H → t D σ H) : PSs X e t' :=
  ⟨fun pins s σ H D I q => h.run pins s σ H D I (w D σ H q)⟩
theorem _root_.L2.PG.imp {X : Cx} {e : Expr} {t t' : TG} (h : PG X e t) (w : ∀ v σ H Q, t' v σ H Q → t v σ H Q) : PG X e t' :=
  ⟨fun pins s σ H v u Q I r q => h.run pins s σ H v u Q I r (w v σ H Q q)⟩
theorem _root_.L2.PGs.imp {X : Cx} {e : List Expr} {t t' : TGs} (h : PGs X e t) (w : ∀ v σ H Q, t' v σ H Q → t v σ H Q) : PGs X e t' :=
  ⟨fun pins s σ H v u Q I r q => h.run pins s σ H v u Q I r (w v σ H Q q)⟩

def sNx : Env → SO := fun ρ => .nx ρ
def sBk : Env → SO := fun ρ => .bk ρ
def sCt : Env → SO := fun ρ => .ct ρ
def SO.andThen (o : SO) (k : Env → SO) : SO := match o with
  | .nx r => k r
  | o => o
def sSeq (f k : Env → SO) : Env → SO := fun ρ => (f ρ).andThen k
def oS {α : Type} (o : Out α) (k : α → SO) : SO := match o with
  | .ok a => k a
  | .exc x => .ex x
  | .stuck => .stuck
@[simp] theorem oS_ok {α : Type} (a : α) (k : α → SO) : oS (.ok a) k = k a := rfl
@[simp] theorem oS_exc {α : Type} (x : Exn) (k : α → SO) : oS (.exc x) k = .ex x := rfl
@[simp] theorem oS_stuck {α : Type} (k : α → SO) : oS (.stuck : Out α) k = .stuck := rfl
@[simp] theorem andThen_nx (r : Env) (k : Env → SO) : (SO.nx r).andThen k = k r := rfl
@[simp] theorem andThen_rt (d : D) (k : Env → SO) : (SO.rt d).andThen k = .rt d := rfl
@[simp] theorem andThen_bk (r : Env) (k : Env → SO) : (SO.bk r).andThen k = .bk r := rfl
@[simp] theorem andThen_ct (r : Env) (k : Env → SO) : (SO.ct r).andThen k = .ct r := rfl
@[simp] theorem andThen_ex (x : Exn) (k : Env → SO) : (SO.ex x).andThen k = .ex x := rfl
@[simp] theorem andThen_stuck (k : Env → SO) : SO.stuck.andThen k = .stuck := rfl
def sSet (i : Nat) (f : Env → Out D) : Env → SO := fun ρ => oS (f ρ) fun d => .nx (ρ.set i (some d))
def sIf (t : Env → Out Bool) (a b : Env → SO) : Env → SO := fun ρ => oS (t ρ) fun c => if c = true then a ρ else b ρ
def sRet (f : Env → Out D) : Env → SO := fun ρ => oS (f ρ) .rt
def sRetN : Env → SO := fun _ => .rt .non
def sExpr (f : Env → Out D) : Env → SO := fun ρ => oS (f ρ) fun _ => .nx ρ
def gN (i : Nat) : D → Env → Out Env := fun d ρ => .ok (ρ.set i (some d))
def gT (gs : List (D → Env → Out Env)) : D → Env → Out Env := fun d ρ => match d with
  | .tup ds => if ds.length = gs.length then (gs.zip ds).foldl (fun o p => o.bind (p.1 p.2)) (.ok ρ) else .stuck
  | .lst ds => if ds.length = gs.length then (gs.zip ds).foldl (fun o p => o.bind (p.1 p.2)) (.ok ρ) else .stuck
  | _ => .stuck
def sAsg (G : D → Env → Out Env) (f : Env → Out D) : Env → SO := fun ρ => oS (f ρ) fun d => oS (G d ρ) .nx
def SO.turn (o : SO) (k : Env → SO) : SO := match o with
  | .nx r => k r
  | .ct r => k r
  | .bk r => .nx r
  | o => o
@[simp] theorem turn_nx (r : Env) (k : Env → SO) : (SO.nx r).turn k = k r := rfl
@[simp] theorem turn_ct (r : Env) (k : Env → SO) : (SO.ct r).turn k = k r := rfl
@[simp] theorem turn_bk (r : Env) (k : Env → SO) : (SO.bk r).turn k = .nx r := rfl
@[simp] theorem turn_rt (d : D) (k : Env → SO) : (SO.rt d).turn k = .rt d := rfl
@[simp] theorem turn_ex (x : Exn) (k : Env → SO) : (SO.ex x).turn k = .ex x := rfl
@[simp] theorem turn_stuck (k : Env → SO) : SO.stuck.turn k = .stuck := rfl
def forL (G : D → Env → Out Env) (b : Env → SO) : List D → Env → SO
  | [], ρ => .nx ρ
  | d :: ds, ρ => oS (G d ρ) fun ρ1 => (b ρ1).turn fun r => forL G b ds r
def sFor (G : D → Env → Out Env) (it : Env → Out (List D)) (b : Env → SO) : Env → SO := fun ρ => oS (it ρ) fun ds => forL G b ds ρ
def whileN (t : Env → Out Bool) (b : Env → SO) : Nat → Env → SO
  | 0, _ => .stuck
  | n + 1, ρ => oS (t ρ) fun c => if c = true then (b ρ).turn fun r => whileN t b n r else .nx ρ
open Classical in
noncomputable def sWhile (t : Env → Out Bool) (b : Env → SO) : Env → SO := fun ρ => if h : ∃ n, whileN t b n ρ ≠ .stuck then whileN t b (Classical.choose h) ρ else .stuck
theorem whileN_more {t : Env → Out Bool} {b : Env → SO} : ∀ {n : Nat} {ρ : Env}, whileN t b n ρ ≠ .stuck → ∀ m, n ≤ m → whileN t b m ρ = whileN t b n ρ
  | 0, ρ, h, _, _ => absurd rfl h
  | n + 1, ρ, h, 0, l => absurd l (by omega)
  | n + 1, ρ, h, m + 1, l => by
    unfold whileN at h ⊢
    cases ht : t ρ with
    | ok c =>
      rw [ht] at h
      simp only [oS_ok] at h ⊢
      cases c with
      | true =>
        simp only [if_true] at h ⊢
        cases hb : b ρ with
        | nx r => rw [hb] at h; exact whileN_more h m (by omega)
        | ct r => rw [hb] at h; exact whileN_more h m (by omega)
        | _ => rfl
      | false => rfl
    | exc x => rfl
    | stuck => rfl
theorem sWhile_eq {t : Env → Out Bool} {b : Env → SO} {n : Nat} {ρ : Env} (h : whileN t b n ρ ≠ .stuck) : sWhile t b ρ = whileN t b n ρ := by
  have hx : ∃ n, whileN t b n ρ ≠ .stuck := ⟨n, h⟩
  have hc := Classical.choose_spec hx
  unfold sWhile
  rw [dif_pos hx]
  rcases Nat.le_total (Classical.choose hx) n with l | l
  · exact (whileN_more hc n l).symm
  · exact whileN_more h _ l
theorem sWhile_some {t : Env → Out Bool} {b : Env → SO} {ρ : Env} (h : sWhile t b ρ ≠ .stuck) : ∃ n, whileN t b n ρ = sWhile t b ρ := by
  unfold sWhile at h ⊢
  by_cases hx : ∃ n, whileN t b n ρ ≠ .stuck
  · rw [dif_pos hx]; exact ⟨_, rfl⟩
  · rw [dif_neg hx] at h; exact absurd rfl h

section
variable {X : Cx} {g : G} {E : WX} {ro : Bool} {Γl Γ Γ1 Γ2 Γ3 : List Bool} {m : Md} {pos : Pos}

theorem sR.imp {Dn Dn' : Ends} {o : SO} (h : sR X.K X.mw g E Γ1 Γl ro Dn o) (w : ∀ ρ σ Hf H, o = .nx ρ → Rp X.K X.mw g Γ1 ρ σ Hf H → Dn.nx σ H → Dn'.nx σ H) (e1 : Dn'.rt = Dn.rt) (e2 : Dn'.bk = Dn.bk) (e3 : Dn'.ct = Dn.ct) : sR X.K X.mw g E Γ1 Γl ro Dn' o := by
  cases o with
  | nx ρ => exact fun σ Hf H R => w ρ σ Hf H rfl R (h σ Hf H R)
  | rt d => unfold sR at h ⊢; rw [e1]; exact h
  | bk ρ => unfold sR at h ⊢; rw [e2]; exact h
  | ct ρ => unfold sR at h ⊢; rw [e3]; exact h
  | ex x => exact h
  | stuck => exact h
theorem pssx_nil : PSsx X g E ro Γl Γ [] Γ sNx := ⟨pss_nil.imp fun D σ H ⟨ρ, Hf, R, q⟩ => q σ Hf H R⟩
theorem pssx_one {st : Stmt} {f : Env → SO} (h : PSx X g E ro Γl Γ st Γ1 f) : PSsx X g E ro Γl Γ [st] Γ1 f := ⟨pss_one h.ps⟩
theorem pssx_cons {st : Stmt} {r : List Stmt} {f k : Env → SO} (h : PSx X g E ro Γl Γ st Γ1 f) (hr : PSsx X g E ro Γl Γ1 r Γ2 k) : PSsx X g E ro Γl Γ (st :: r) Γ2 (sSeq f k) := by
  refine ⟨(pss_cons h.ps hr.ps).imp fun D σ H ⟨ρ, Hf, R, q⟩ => ⟨ρ, Hf, R, ?_⟩⟩
  unfold sSeq at q
  cases hf : f ρ with
  | nx r => rw [hf] at q; exact fun σ' Hf' H' R' => ⟨r, Hf', R', q⟩
  | rt d => rw [hf] at q; exact q
  | bk r => rw [hf] at q; exact q
  | ct r => rw [hf] at q; exact q
  | ex x => rw [hf] at q; exact q
  | stuck => rw [hf] at q; exact q
theorem sR.less {Dn : Ends} {o : SO} (le : Le Γ2 Γ1) (h : sR X.K X.mw g E Γ2 Γl ro Dn o) : sR X.K X.mw g E Γ1 Γl ro Dn o := by
  cases o with
  | nx ρ =>
    intro σ Hf H R
    obtain ⟨F', s1, R', _⟩ := R.frz le
    exact h σ F' H R'
  | _ => exact h
theorem PSsx.less {st : List Stmt} {f : Env → SO} (h : PSsx X g E ro Γl Γ st Γ1 f) (le : Le Γ2 Γ1) : PSsx X g E ro Γl Γ st Γ2 f :=
  ⟨h.ps.imp fun D σ H ⟨ρ, Hf, R, q⟩ => ⟨ρ, Hf, R, q.less le⟩⟩
theorem PSx.less {st : Stmt} {f : Env → SO} (h : PSx X g E ro Γl Γ st Γ1 f) (le : Le Γ2 Γ1) : PSx X g E ro Γl Γ st Γ2 f :=
  ⟨h.ps.imp fun D σ H ⟨ρ, Hf, R, q⟩ => ⟨ρ, Hf, R, q.less le⟩⟩
theorem PSx.pre {st : Stmt} {f : Env → SO} (h : PSx X g E ro Γl Γ st Γ1 f) (le : Le Γ Γ2) : PSx X g E ro Γl Γ2 st Γ1 f :=
  ⟨h.ps.imp fun D σ H ⟨ρ, Hf, R, q⟩ => by
    obtain ⟨F', s1, R', _⟩ := R.frz le
    exact ⟨ρ, F', R', q⟩⟩
theorem sR.any {Dn : Ends} {o : SO} (n : ∀ ρ, o ≠ .nx ρ) (h : sR X.K X.mw g E Γ2 Γl ro Dn o) : sR X.K X.mw g E Γ1 Γl ro Dn o := by
  cases o with
  | nx ρ => exact absurd rfl (n ρ)
  | _ => exact h
theorem tG.toS {Dn : Ends} {Γ1 : List Bool} {ρ : Env} {σ : St} {Hf H : Hp} {α : Type} {P : α → Hp → Hp → Prop} {o : Out α} {k : α → SO} (h : sR X.K X.mw g E Γ2 Γl ro Dn (oS o k))
    (hk : ∀ a Hf' H', Same Hf Hf' → Same H H' → Rp X.K X.mw g Γ1 ρ σ Hf' H' → sR X.K X.mw g E Γ2 Γl ro Dn (k a) → P a Hf' H') : tG X.K X.mw g E Γ1 ρ σ Hf H P o := by
  cases o with
  | ok a => exact fun F1 H1 s1 s2 R1 => hk a F1 H1 s1 s2 R1 h
  | exc x => exact fun c dd F1 H1 s1 s2 R1 q => h c dd σ F1 H1 R1.same R1.ent R1.ent2 R1.news q
  | stuck => exact h
theorem psx_ret {e : Expr} {f : Env → Out D} (he : PX X g E Γ e Γ1 .fr f) (hs : g.slf = none := by first | rfl | assumption) : PSx X g E false Γl Γ (.Return (some e) pos) Γ2 (sRet f) := by
  refine ⟨(ps_ret he.pe).imp fun D σ H ⟨ρ, Hf, R, q⟩ => ⟨ρ, Hf, R, tG.toS q fun d F1 H1 s1 s2 R1 k v hv => ?_⟩⟩
  exact k v F1 H1 R1.same R1.ent R1.ent2 R1.news (by unfold RetG; rw [hs]; show RetRes _ _ _ _ _ _ _ _; unfold RetRes; rw [if_neg Bool.false_ne_true]; exact hv)
theorem psx_retV {x : Str} {i : Nat} {p : Pos} (h : PE X (.Name x p) (tVar i)) (o : Γ.getD i false = true) (hs : g.slf = none := by first | rfl | assumption) : PSx X g E true Γl Γ (.Return (some (.Name x p)) pos) Γ2 (sRet (eV i)) := by
  refine ⟨(ps_ret h).imp fun D σ H ⟨ρ, Hf, R, q⟩ => ?_⟩
  unfold sRet at q
  cases he : eV i ρ with
  | ok d =>
    rw [he] at q
    obtain ⟨v, e1, io⟩ := R.own i d o (eV_ok he)
    exact ⟨v, e1, q v Hf H R.same R.ent R.ent2 R.news (by unfold RetG; rw [hs]; show RetRes _ _ _ _ _ _ _ _; unfold RetRes; rw [if_pos rfl]; exact io)⟩
  | exc x => exact (eV_nx he).elim
  | stuck => rw [he] at q; exact q.elim
theorem psx_if {c : Expr} {a b : List Stmt} {ft : Env → Out Bool} {fa fb : Env → SO} (hc : PTx X g E Γ c Γ1 ft) (ha : PSsx X g E ro Γl Γ1 a Γ2 fa) (hb : PSsx X g E ro Γl Γ1 b Γ2 fb) : PSx X g E ro Γl Γ (.If c a b pos) Γ2 (sIf ft fa fb) := by
  refine ⟨(ps_if hc.pe ha.ps hb.ps).imp fun D σ H ⟨ρ, Hf, R, q⟩ => ⟨ρ, Hf, R, tG.toS q fun d F1 H1 s1 s2 R1 k => ?_⟩⟩
  cases d with
  | true => exact ⟨ρ, F1, R1, k⟩
  | false => exact ⟨ρ, F1, R1, k⟩

theorem getD_set {Γ : List Bool} {i j : Nat} {b : Bool} : (Γ.set i b).getD j false = if i = j ∧ i < Γ.length then b else Γ.getD j false := by
  rw [List.getD_eq_getElem?_getD, List.getElem?_set, List.getD_eq_getElem?_getD]
  by_cases e : i = j
  · subst e
    by_cases l : i < Γ.length
    · simp [l]
    · simp [l]
  · simp [e]
theorem set_get {α : Type} {l : List (Option α)} {i j : Nat} {x y : α} (h : (l.set i (some x))[j]? = some (some y)) : (i = j ∧ i < l.length ∧ x = y) ∨ (i ≠ j ∧ l[j]? = some (some y)) := by
  rw [List.getElem?_set] at h
  by_cases e : i = j
  · rw [if_pos e] at h
    by_cases l' : i < l.length
    · rw [if_pos l'] at h; exact .inl ⟨e, l', Option.some.inj (Option.some.inj h)⟩
    · rw [if_neg l'] at h; cases h
  · rw [if_neg e] at h; exact .inr ⟨e, h⟩
theorem Rp.setF {K : PySem.W.Frag} {mg : Mg} {ρ : Env} {σ : St} {Hf H : Hp} (R : Rp K mg g Γ ρ σ Hf H) {i : Nat} {d : D} {v : V} (ns : NS g i) (h : IsD K mg Hf d v) : Rp K mg g (Γ.set i false) (ρ.set i (some d)) (σ.set i (some v)) Hf H := by
  have ne : ∀ {j}, Own (Γ.set i false) j → i ≠ j ∨ ¬ i < Γ.length := fun {j} o => by
    unfold Own at o; rw [getD_set] at o
    by_cases z : i = j ∧ i < Γ.length
    · rw [if_pos z] at o; cases o
    · by_cases e : i = j
      · exact .inr fun l => z ⟨e, l⟩
      · exact .inl e
  have ow : ∀ {j}, Own (Γ.set i false) j → i ≠ j ∧ Own Γ j := fun {j} o => by
    have o' := Le.set Γ i j o
    refine ⟨fun e => ?_, o'⟩
    rcases ne o with z | z
    · exact z e
    · subst e
      unfold Own at o'
      rw [List.getD_eq_getElem?_getD, List.getElem?_eq_none (by omega)] at o'
      simp at o'
  have sg : ∀ {j}, i ≠ j → (σ.set i (some v))[j]? = σ[j]? := fun {j} e => by rw [List.getElem?_set]; simp [e]
  refine ⟨R.same, R.ent, R.ent2, R.news, R.len.set ns _ _, fun j d' o e => ?_, fun j d' o e => ?_, fun j k d' e v n o1 o2 e1 e2 m1 m2 s1 s2 => ?_⟩
  · obtain ⟨nij, oΓ⟩ := ow o
    rcases set_get e with ⟨e', _⟩ | ⟨_, e'⟩
    · exact absurd e' nij
    · rw [sg nij]; exact R.own j d' oΓ e'
  · rcases set_get e with ⟨rfl, l, rfl⟩ | ⟨nij, e'⟩
    · exact ⟨v, by rw [List.getElem?_set_self (by rw [R.len.1]; exact l)], h⟩
    · rw [sg nij]
      refine R.dat j d' (fun z => o ?_) e'
      unfold Own; rw [getD_set, if_neg (fun q => nij q.1)]; exact z
  · obtain ⟨n1, p1⟩ := ow o1
    obtain ⟨n2, p2⟩ := ow o2
    rw [sg n1] at s1; rw [sg n2] at s2
    rcases set_get e1 with ⟨z, _⟩ | ⟨_, e1'⟩
    · exact n1 z
    · rcases set_get e2 with ⟨z, _⟩ | ⟨_, e2'⟩
      · exact n2 z
      · exact R.sep j k d' e _ n p1 p2 e1' e2' m1 m2 s1 s2
theorem Rp.setO {K : PySem.W.Frag} {mg : Mg} {ρ : Env} {σ : St} {Hf H : Hp} (R : Rp K mg g Γ ρ σ Hf H) {i : Nat} {d : D} {v : V} (ns : NS g i) (hi : i < Γ.length) (h : IsO K mg g.H0 Hf H d v)
    (ap : ∀ i e, Own Γ i → ρ[i]? = some (some e) → e.mut = true → d.mut = true → σ[i]? = some (some v) → False) : Rp K mg g (Γ.set i true) (ρ.set i (some d)) (σ.set i (some v)) Hf H := by
  have sg : ∀ {j}, i ≠ j → (σ.set i (some v))[j]? = σ[j]? := fun {j} e => by rw [List.getElem?_set]; simp [e]
  have ow : ∀ {j}, i ≠ j → (Own (Γ.set i true) j ↔ Own Γ j) := fun {j} e => by unfold Own; rw [getD_set, if_neg fun q => e q.1]
  have oi : Own (Γ.set i true) i := by unfold Own; rw [getD_set, if_pos ⟨rfl, hi⟩]
  refine ⟨R.same, R.ent, R.ent2, R.news, R.len.set ns _ _, fun j d' o e => ?_, fun j d' o e => ?_, fun j k d' e v' n o1 o2 e1 e2 m1 m2 s1 s2 => ?_⟩
  · rcases set_get e with ⟨rfl, l, rfl⟩ | ⟨nij, e'⟩
    · exact ⟨v, by rw [List.getElem?_set_self (by rw [R.len.1]; exact l)], h⟩
    · rw [sg nij]; exact R.own j d' ((ow nij).mp o) e'
  · rcases set_get e with ⟨rfl, l, rfl⟩ | ⟨nij, e'⟩
    · exact absurd oi o
    · rw [sg nij]; exact R.dat j d' (fun z => o ((ow nij).mpr z)) e'
  · rcases set_get e1 with ⟨rfl, l1, rfl⟩ | ⟨n1, e1'⟩
    · rcases set_get e2 with ⟨rfl, _⟩ | ⟨n2, e2'⟩
      · exact n rfl
      · rw [sg n2] at s2
        rw [List.getElem?_set_self (by rw [R.len.1]; exact l1)] at s1
        obtain rfl : v = v' := Option.some.inj (Option.some.inj s1)
        exact ap k e ((ow n2).mp o2) e2' m2 m1 s2
    · rw [sg n1] at s1
      rcases set_get e2 with ⟨rfl, l2, rfl⟩ | ⟨n2, e2'⟩
      · rw [List.getElem?_set_self (by rw [R.len.1]; exact l2)] at s2
        obtain rfl : v = v' := Option.some.inj (Option.some.inj s2)
        exact ap j d' ((ow n1).mp o1) e1' m1 m2 s1
      · rw [sg n2] at s2
        exact R.sep j k d' e v' n ((ow n1).mp o1) ((ow n2).mp o2) e1' e2' m1 m2 s1 s2
theorem psx_set {i : Nat} {x : Str} {e : Expr} {p : Pos} {f : Env → Out D} (hN : X.N.Nodup) (hi : X.N[i]? = some x) (hx : Loc X.env.scope x) (he : PX X g E Γ e Γ1 .fr f) (hf : X.fn x = true ∨ X.env.scope.names.lookup x = some .local := by first | exact .inl rfl | exact .inr rfl | assumption) (ns : NS g i := by first | exact .inr rfl | exact .inr (by assumption) | exact .inl (by decide)) (hs : swapsWith e (some (.Name x p)) pos.line X.env = pure false := by rfl) :
    PSx X g E ro Γl Γ (.Assign [.Name x p] e pos) (Γ1.set i false) (sSet i f) := by
  refine ⟨(ps_set hN hi hx he.pe hs hf).imp fun D σ H ⟨ρ, Hf, R, q⟩ => ⟨ρ, Hf, R, tG.toS q fun d F1 H1 s1 s2 R1 k v hv => ?_⟩⟩
  exact k _ F1 H1 (R1.setF ns hv)
theorem psx_setO {i : Nat} {x : Str} {e : Expr} {p : Pos} {f : Env → Out D} (hN : X.N.Nodup) (hi : X.N[i]? = some x) (hx : Loc X.env.scope x) (he : PX X g E Γ e Γ1 .ow f) (hl : i < Γ1.length) (hf : X.fn x = true ∨ X.env.scope.names.lookup x = some .local := by first | exact .inl rfl | exact .inr rfl | assumption) (ns : NS g i := by first | exact .inr rfl | exact .inr (by assumption) | exact .inl (by decide)) (hs : swapsWith e (some (.Name x p)) pos.line X.env = pure false := by rfl) :
    PSx X g E ro Γl Γ (.Assign [.Name x p] e pos) (Γ1.set i true) (sSet i f) := by
  refine ⟨(ps_set hN hi hx he.pe hs hf).imp fun D σ H ⟨ρ, Hf, R, q⟩ => ⟨ρ, Hf, R, tG.toS q fun d F1 H1 s1 s2 R1 k v hv => ?_⟩⟩
  exact k _ F1 H1 (R1.setO ns hl hv.1 hv.2)

structure PGx (X : Cx) (g : G) (Γ : List Bool) (tg : Expr) (Γ' : List Bool) (F : D → Env → Out Env) (vs : List Nat) : Prop where
  pg : PG X tg (fun v σ H Q => ∃ d ρ Hf, Rp X.K X.mw g Γ ρ σ Hf H ∧ IsD X.K X.mw Hf d v ∧ ∃ ρ', F d ρ = .ok ρ' ∧ ∀ σ', (∀ i, i ∉ vs → σ'[i]? = σ[i]?) → Rp X.K X.mw g Γ' ρ' σ' Hf H → Q σ' H)
  ag : ∀ d ρ ρ', F d ρ = .ok ρ' → (∀ i, i ∉ vs → ρ'[i]? = ρ[i]?) ∧ ρ'.length = ρ.length
structure PGsx (X : Cx) (g : G) (Γ : List Bool) (tg : List Expr) (Γ' : List Bool) (Fs : List (D → Env → Out Env)) (ws : List Nat) : Prop where
  pg : PGs X tg (fun vs σ H Q => ∃ ds ρ Hf, Rp X.K X.mw g Γ ρ σ Hf H ∧ IsDs X.K X.mw Hf ds vs ∧ ds.length = Fs.length ∧ ∃ ρ', (Fs.zip ds).foldl (fun o p => o.bind (p.1 p.2)) (Out.ok ρ) = .ok ρ' ∧ ∀ σ', (∀ i, i ∉ ws → σ'[i]? = σ[i]?) → Rp X.K X.mw g Γ' ρ' σ' Hf H → Q σ' H)
  ag : ∀ ds ρ ρ', (Fs.zip ds).foldl (fun o p => o.bind (p.1 p.2)) (Out.ok ρ) = .ok ρ' → (∀ i, i ∉ ws → ρ'[i]? = ρ[i]?) ∧ ρ'.length = ρ.length
theorem foldl_bad {l : List ((D → Env → Out Env) × D)} {o : Out Env} (h : ∀ r, o ≠ .ok r) : ∀ r, l.foldl (fun o p => o.bind (p.1 p.2)) o ≠ .ok r := by
  induction l generalizing o with
  | nil => exact h
  | cons p l ih =>
    intro r
    rw [List.foldl_cons]
    refine ih (fun r' => ?_) r
    cases o with
    | ok a => exact absurd rfl (h a)
    | exc x => intro z; cases z
    | stuck => intro z; cases z
theorem pgx_name {i : Nat} {x : Str} (hN : X.N.Nodup) (hi : X.N[i]? = some x) (hx : Loc X.env.scope x) (hf : X.fn x = true ∨ X.env.scope.names.lookup x = some .local := by first | exact .inl rfl | exact .inr rfl | assumption) (ns : NS g i := by first | exact .inr rfl | exact .inr (by assumption) | exact .inl (by decide)) : PGx X g Γ (.Name x pos) (Γ.set i false) (gN i) [i] :=
  ⟨(pg_name hN hi hx hf).imp fun v σ H Q ⟨d, ρ, Hf, R, h, ρ', e, q⟩ => by
    cases e
    exact q _ (fun j nj => by rw [List.getElem?_set_ne (fun z => nj (by simp [z]))]) (R.setF ns h), fun d ρ ρ' e => by
    cases e
    exact ⟨fun j nj => by rw [List.getElem?_set_ne (fun z => nj (by simp [z]))], by simp⟩⟩
theorem pgsx_nil : PGsx X g Γ [] Γ [] [] := ⟨pgs_nil.imp fun vs σ H Q ⟨ds, ρ, Hf, R, h, l, ρ', e, q⟩ => (by
  cases ds with
  | nil =>
    simp only [IsDs] at h
    cases e
    exact ⟨h, q σ (fun _ _ => rfl) R⟩
  | cons d ds => cases l), fun ds ρ ρ' e => by
  cases e; exact ⟨fun _ _ => rfl, rfl⟩⟩
theorem pgsx_cons {t : Expr} {ts : List Expr} {F : D → Env → Out Env} {Fs : List (D → Env → Out Env)} {ws us : List Nat} (h1 : PGx X g Γ t Γ1 F ws) (h2 : PGsx X g Γ1 ts Γ2 Fs us)
    (hs : (assignEach (t :: ts) X.env).map (·.2) = assign t X.env :: (assignEach ts X.env).map (·.2) := by rfl) : PGsx X g Γ (t :: ts) Γ2 (F :: Fs) (ws ++ us) :=
  ⟨(pgs_cons h1.pg h2.pg hs).imp fun vs σ H Q ⟨ds, ρ, Hf, R, h, l, ρ', e, q⟩ => (by
    cases ds with
    | nil => cases l
    | cons d ds =>
      simp only [IsDs] at h
      obtain ⟨v, us', ev, hv, hr⟩ := h
      subst ev
      rw [List.zip_cons_cons, List.foldl_cons] at e
      cases hF : F d ρ with
      | ok ρ1 =>
        simp only [Out.bind_ok, hF] at e
        exact ⟨v, us', rfl, d, ρ, Hf, R, hv, ρ1, hF, fun σ1 a1 R1 => ⟨ds, ρ1, Hf, R1, hr, by simpa using l, ρ', e, fun σ' a2 R2 => q σ' (fun j nj => (a2 j fun z => nj (List.mem_append_right _ z)).trans (a1 j fun z => nj (List.mem_append_left _ z))) R2⟩⟩
      | exc x => simp only [Out.bind_ok, hF] at e; exact absurd e (foldl_bad (fun r z => by cases z) ρ')
      | stuck => simp only [Out.bind_ok, hF] at e; exact absurd e (foldl_bad (fun r z => by cases z) ρ')), fun ds ρ ρ' e => by
    cases ds with
    | nil => cases e; exact ⟨fun _ _ => rfl, rfl⟩
    | cons d ds =>
      rw [List.zip_cons_cons, List.foldl_cons] at e
      cases hF : F d ρ with
      | ok ρ1 =>
        simp only [Out.bind_ok, hF] at e
        exact ⟨fun j nj => ((h2.ag _ _ _ e).1 j fun z => nj (List.mem_append_right _ z)).trans ((h1.ag _ _ _ hF).1 j fun z => nj (List.mem_append_left _ z)), (h2.ag _ _ _ e).2.trans (h1.ag _ _ _ hF).2⟩
      | exc x => simp only [Out.bind_ok, hF] at e; exact absurd e (foldl_bad (fun r z => by cases z) ρ')
      | stuck => simp only [Out.bind_ok, hF] at e; exact absurd e (foldl_bad (fun r z => by cases z) ρ')⟩
theorem _root_.L2.PG.or {e : Expr} {t t' : TG} (h : PG X e t) (h' : PG X e t') : PG X e (fun v σ H Q => t v σ H Q ∨ t' v σ H Q) :=
  ⟨fun pins s σ H v u Q I r q => q.elim (h.run pins s σ H v u Q I r) (h'.run pins s σ H v u Q I r)⟩
theorem pgx_tup {ts : List Expr} {k : Nat} {Fs : List (D → Env → Out Env)} {ws : List Nat} (hc : X.calm = true) (h : PGsx X g Γ ts Γ1 Fs ws) (hn : (assignEach ts X.env).length = Fs.length := by rfl) (hst : (assignEach ts X.env).findIdx? (·.1) = none := by rfl) :
    PGx X g Γ (.Tuple ts k pos) Γ1 (gT Fs) ws :=
  ⟨((pg_tup hc h.pg hn hst).or (pg_unl hc h.pg hn hst)).imp fun v σ H Q ⟨d, ρ, Hf, R, h', ρ', e, q⟩ => (by
    cases d with
    | tup ds =>
      simp only [IsD] at h'
      obtain ⟨a, xs, ev, hq, hr⟩ := h'
      unfold gT at e
      simp only at e
      by_cases l : ds.length = Fs.length
      · rw [if_pos l] at e
        exact .inl ⟨a, xs, ev, (Same.seqT R.same hq).l, by rw [hr.len, l], ds, ρ, Hf, R, hr, l, ρ', e, q⟩
      · rw [if_neg l] at e; cases e
    | lst ds =>
      simp only [IsD] at h'
      obtain ⟨a, xs, ev, hq, hr⟩ := h'
      unfold gT at e
      simp only at e
      by_cases l : ds.length = Fs.length
      · rw [if_pos l] at e
        exact .inr ⟨a, xs, ev, .of (R.same _ _ hq), by rw [hr.len, l], ds, ρ, Hf, R, hr, l, ρ', e, q⟩
      · rw [if_neg l] at e; cases e
    | _ => cases e), fun d ρ ρ' e => by
    unfold gT at e
    cases d with
    | tup ds =>
      simp only at e
      by_cases l : ds.length = Fs.length
      · rw [if_pos l] at e; exact h.ag _ _ _ e
      · rw [if_neg l] at e; cases e
    | lst ds =>
      simp only at e
      by_cases l : ds.length = Fs.length
      · rw [if_pos l] at e; exact h.ag _ _ _ e
      · rw [if_neg l] at e; cases e
    | _ => cases e⟩
theorem gN_nx {i : Nat} : ∀ d ρ x, gN i d ρ ≠ .exc x := fun d ρ x z => by cases z
theorem gT_nx {Fs : List (D → Env → Out Env)} (h : ∀ F ∈ Fs, ∀ d ρ x, F d ρ ≠ .exc x) : ∀ d ρ x, gT Fs d ρ ≠ .exc x := by
  have key : ∀ (l : List ((D → Env → Out Env) × D)) (o : Out Env), (∀ x, o ≠ .exc x) → (∀ p ∈ l, ∀ d ρ x, p.1 d ρ ≠ .exc x) → ∀ x, l.foldl (fun o p => o.bind (p.1 p.2)) o ≠ .exc x := by
    intro l
    induction l with
    | nil => intro o h _; exact h
    | cons p l ih =>
      intro o ho hl
      rw [List.foldl_cons]
      refine ih _ (fun x => ?_) fun q hq => hl q (List.mem_cons_of_mem _ hq)
      cases o with
      | ok a => exact hl p List.mem_cons_self p.2 a x
      | exc y => exact absurd rfl (ho y)
      | stuck => intro z; cases z
  intro d ρ x
  unfold gT
  cases d with
  | tup ds =>
    simp only
    by_cases l : ds.length = Fs.length
    · rw [if_pos l]
      refine key _ _ (fun x z => by cases z) (fun p hp => ?_) x
      exact h p.1 (List.of_mem_zip hp).1
    · rw [if_neg l]; intro z; cases z
  | lst ds =>
    simp only
    by_cases l : ds.length = Fs.length
    · rw [if_pos l]
      refine key _ _ (fun x z => by cases z) (fun p hp => ?_) x
      exact h p.1 (List.of_mem_zip hp).1
    · rw [if_neg l]; intro z; cases z
  | _ => intro z; cases z
end
end PD

namespace PD
open PySem PySem.Spec L2
open PyProof.Rows hiding St

theorem _root_.L2.PI.imp {X : Cx} {tg e : Expr} {t t' : TI} (h : PI X tg e t) (w : ∀ σ H Q, t' σ H Q → t σ H Q) : PI X tg e t' :=
  ⟨fun pins s σ H R I q => h.run pins s σ H R I (w σ H R q)⟩

def Walks (K : PySem.W.Frag) (mg : Mg) (H0 : Hp) (J : It) (F1 : Hp) (ds : List D) : Prop :=
  ∀ (g : G) Γ ρ σ Hf H, Same F1 Hf → Rp K mg g Γ ρ σ Hf H → ∀ i,
    (∀ d, ds[i]? = some d → J.go i H ∧ ∀ x H', J.yld i H x H' → ∃ Hf', Same Hf Hf' ∧ Same H H' ∧ Rp K mg g Γ ρ σ Hf' H' ∧ IsD K mg Hf' d x) ∧ (ds.length ≤ i → J.stop i H)
structure PIx (X : Cx) (g : G) (E : WX) (Γ : List Bool) (tg iter : Expr) (Γ' : List Bool) (f : Env → Out (List D)) : Prop where
  le : Le Γ' Γ
  pi : PI X tg iter (fun σ H R => ∃ ρ Hf, Rp X.K X.mw g Γ ρ σ Hf H ∧ tG X.K X.mw g E Γ' ρ σ Hf H (fun ds Hf' H' => ∀ J, Walks X.K X.mw g.H0 J Hf' ds → R J H') (f ρ))
def iSeq (f : Env → Out D) : Env → Out (List D) := fun ρ => (f ρ).bind fun d => match d with
  | .lst ds => .ok ds
  | .tup ds => .ok ds
  | .scr ns => .ok (ns.map .int)
  | _ => .stuck
noncomputable def rng1 : List D → Out (List D)
  | [.int j] => chk (-(2 ^ 62) ≤ j ∧ j < 2 ^ 62) (.ok ((List.range j.toNat).map fun (n : Nat) => .int n))
  | _ => .stuck
noncomputable def rng2 : List D → Out (List D)
  | [.int i, .int j] => chk ((-(2 ^ 62) ≤ i ∧ i < 2 ^ 62) ∧ -(2 ^ 62) ≤ j ∧ j < 2 ^ 62) (.ok ((List.range (j - i).toNat).map fun (n : Nat) => .int (i + n)))
  | _ => .stuck
noncomputable def iRange1 (f : Env → Out (List D)) : Env → Out (List D) := fun ρ => (f ρ).bind rng1
noncomputable def iRange2 (f : Env → Out (List D)) : Env → Out (List D) := fun ρ => (f ρ).bind rng2

section
variable {X : Cx} {tg : Expr}
theorem pi_any {l : Expr} {tl : TE} (hl : PE X l tl) : PI X tg l (fun σ H R => tl σ H fun x H1 => ∃ a, x = .ref a ∧ (((∃ xs, SqL X.K H1 a xs) ∧ R (Itl X.K a) H1) ∨ ((∃ xs, L2.SqT X.K H1 a xs) ∧ R (Itt X.K a) H1))) := by
  refine ⟨fun pins s σ H R I h => ?_⟩
  refine thn (hl.run pins s σ H _ I h) fun v s1 ⟨x, H1, I1, r1, q1⟩ => ?_
  obtain ⟨a, e, q⟩ := q1
  subst e
  cases r1
  rcases q with ⟨⟨xs, hq⟩, q⟩ | ⟨⟨xs, hq⟩, q⟩
  · obtain ⟨its, rv, p, hz⟩ := I1.list hq
    refine wpAny_pyIter_list p.isList ?_
    refine ⟨s1.heap.objs.size, [s1.heap.objs.size], _, _, H1, rfl, I1.kept (t' := s1.toks) fun b o e => Heap.get?_push_of_some _ e, turn_list a _, ⟨_, Heap.get?_push_size _ rfl, rfl, rfl⟩, fun b hb => ?_, q⟩
    have e : b = s1.heap.objs.size := by simpa using hb
    subst e
    exact I1.fpOk (Nat.le_refl _) (I1.hok.fresh (Nat.le_refl _))
  · obtain ⟨its, rv, p, hz⟩ := I1.tuple hq
    refine wpAny_pyIter_tuple (show s1.heap.IsTuple a its.toArray from p) ?_
    refine ⟨s1.heap.objs.size, [s1.heap.objs.size], _, _, H1, rfl, I1.kept (t' := s1.toks) fun b o e => Heap.get?_push_of_some _ e, turn_tuple a _, ⟨_, Heap.get?_push_size _ rfl, rfl, rfl⟩, fun b hb => ?_, q⟩
    have e : b = s1.heap.objs.size := by simpa using hb
    subst e
    exact I1.fpOk (Nat.le_refl _) (I1.hok.fresh (Nat.le_refl _))
end
theorem IsDs.at {K : PySem.W.Frag} {mg : Mg} {H : Hp} : ∀ {ds : List D} {vs : List V} {i : Nat} {d : D}, IsDs K mg H ds vs → ds[i]? = some d → ∃ v, vs[i]? = some v ∧ IsD K mg H d v
  | [], _, i, d, _, e => by simp at e
  | d :: ds, vs, 0, d', h, e => by
    simp only [IsDs] at h
    obtain ⟨v, us, rfl, q, r⟩ := h
    simp at e; subst e
    exact ⟨v, rfl, q⟩
  | d :: ds, vs, i + 1, d', h, e => by
    simp only [IsDs] at h
    obtain ⟨v, us, rfl, q, r⟩ := h
    have := IsDs.at (i := i) r (by simpa using e)
    simpa using this

section
variable {X : Cx} {g : G} {E : WX} {ro : Bool} {Γl Γ Γ1 Γ2 Γ3 : List Bool} {m : Md} {pos : Pos} {tg : Expr}
theorem walks_lst {K : PySem.W.Frag} {mg : Mg} {H0 F1 : Hp} {a : Addr} {xs : List V} {ds : List D} (h : SqL K F1 a xs) (r : IsDs K mg F1 ds xs) : Walks K mg H0 (Itl K a) F1 ds := by
  intro g Γ ρ σ Hf H s R i
  have hq : SqL K H a xs := R.same.seq (s.seq h)
  refine ⟨fun d e => ?_, fun l => ⟨xs, hq, by rw [r.len]; exact l⟩⟩
  obtain ⟨v, ev, q⟩ := IsDs.at r e
  refine ⟨⟨xs, v, hq, ev⟩, fun x H' y => ?_⟩
  obtain ⟨rfl, y⟩ := y
  have := y xs hq
  rw [ev] at this
  cases this
  exact ⟨Hf, Same.refl _, Same.refl _, R, q.mono s⟩
theorem walks_tup {K : PySem.W.Frag} {mg : Mg} {H0 F1 : Hp} {a : Addr} {xs : List V} {ds : List D} (h : SqT K F1 a xs) (r : IsDs K mg F1 ds xs) : Walks K mg H0 (Itt K a) F1 ds := by
  intro g Γ ρ σ Hf H s R i
  have hq : L2.SqT K H a xs := (Same.seqT R.same (Same.seqT s h)).l
  refine ⟨fun d e => ?_, fun l => ⟨xs, hq, by rw [r.len]; exact l⟩⟩
  obtain ⟨v, ev, q⟩ := IsDs.at r e
  refine ⟨⟨xs, v, hq, ev⟩, fun x H' y => ?_⟩
  obtain ⟨rfl, y⟩ := y
  have := y xs hq
  rw [ev] at this
  cases this
  exact ⟨Hf, Same.refl _, Same.refl _, R, q.mono s⟩
theorem walks_rng {K : PySem.W.Frag} {mg : Mg} {H0 F1 : Hp} {lo : Int} {n : Nat} : Walks K mg H0 (Itr lo n) F1 ((List.range n).map fun (k : Nat) => .int (lo + k)) := by
  intro g Γ ρ σ Hf H s R i
  refine ⟨fun d e => ?_, fun l => show n ≤ i by simpa using l⟩
  rw [List.getElem?_map] at e
  by_cases l : i < n
  · rw [List.getElem?_range l] at e
    cases e
    refine ⟨l, fun x H' y => ?_⟩
    obtain ⟨rfl, rfl⟩ := y
    exact ⟨Hf, Same.refl _, Same.refl _, R, by simp only [IsD]⟩
  · rw [List.getElem?_eq_none (by simpa using l)] at e
    cases e
theorem IsDs.ints {K : PySem.W.Frag} {mg : Mg} {H : Hp} : ∀ ns : List Int, IsDs K mg H (ns.map .int) (ns.map V.int)
  | [] => by simp only [List.map_nil, IsDs]
  | n :: ns => by
    simp only [List.map_cons, IsDs, IsD]
    exact ⟨_, _, rfl, rfl, IsDs.ints ns⟩
theorem pix_seq {e : Expr} {f : Env → Out D} (h : PX X g E Γ e Γ1 .fr f) : PIx X g E Γ tg e Γ1 (iSeq f) := by
  refine ⟨h.le, (pi_any h.pe).imp fun σ H Q ⟨ρ, Hf, R, q⟩ => ⟨ρ, Hf, R, ?_⟩⟩
  refine tG.bind (Le.refl _) q fun d F1 H1 s1 s2 R1 k v hv => ?_
  cases d with
  | lst ds =>
    simp only [Res, IsD] at hv
    obtain ⟨a, xs, rfl, q1, q2⟩ := hv
    exact ⟨a, rfl, .inl ⟨⟨xs, R1.same.seq (.of q1)⟩, k F1 H1 (Same.refl _) (Same.refl _) R1 _ (walks_lst (.of q1) q2)⟩⟩
  | scr ns =>
    simp only [Res, IsD] at hv
    obtain ⟨a, rfl, q1⟩ := hv
    exact ⟨a, rfl, .inl ⟨⟨_, R1.same.seq q1⟩, k F1 H1 (Same.refl _) (Same.refl _) R1 _ (walks_lst q1 (IsDs.ints _))⟩⟩
  | tup ds =>
    simp only [Res, IsD] at hv
    obtain ⟨a, xs, rfl, q1, q2⟩ := hv
    exact ⟨a, rfl, .inr ⟨⟨xs, (Same.seqT R1.same q1).l⟩, k F1 H1 (Same.refl _) (Same.refl _) R1 _ (walks_tup q1 q2)⟩⟩
  | _ => exact k.elim
theorem IsDs.one {K : PySem.W.Frag} {mg : Mg} {H : Hp} {d : D} {vs : List V} (h : IsDs K mg H [d] vs) : ∃ v, vs = [v] ∧ IsD K mg H d v := by
  simp only [IsDs] at h
  obtain ⟨v, us, e, q, rfl⟩ := h
  exact ⟨v, e, q⟩
theorem IsDs.two {K : PySem.W.Frag} {mg : Mg} {H : Hp} {d e : D} {vs : List V} (h : IsDs K mg H [d, e] vs) : ∃ v u, vs = [v, u] ∧ IsD K mg H d v ∧ IsD K mg H e u := by
  simp only [IsDs] at h
  obtain ⟨v, us, e1, q, u, us', e2, q2, rfl⟩ := h
  exact ⟨v, u, by rw [e1, e2], q, q2⟩
theorem pix_range1 {a : Expr} {p : Pos} {f : Env → Out (List D)} (hg : Gl X "range") (hm : X.mg "range" = none) (h : PAx X g E Γ [a] Γ1 f) (hs : starEach [a] X.env = [(false, eval a X.env)] := by rfl) :
    PIx X g E Γ tg (.Call (.Name "range" p) [a] [] pos) Γ1 (iRange1 f) := by
  refine ⟨h.le, (pi_range1 hg hm h.pe hs).imp fun σ H Q ⟨ρ, Hf, R, q⟩ => ⟨ρ, Hf, R, ?_⟩⟩
  refine tG.bind (Le.refl _) q fun ds F1 H1 s1 s2 R1 k vs hv => ?_
  unfold rng1 at k
  split at k
  · rename_i j
    obtain ⟨v, rfl, q1⟩ := hv.one
    simp only [IsD] at q1
    subst q1
    by_cases z : -(2 ^ 62) ≤ j ∧ j < 2 ^ 62
    · rw [chk_pos z] at k
      refine ⟨j, rfl, z.1, z.2, k F1 H1 (Same.refl _) (Same.refl _) R1 _ ?_⟩
      have := walks_rng (K := X.K) (mg := X.mw) (H0 := g.H0) (F1 := F1) (lo := 0) (n := j.toNat)
      simpa using this
    · rw [chk_neg z] at k; exact k.elim
  · exact k.elim
theorem Rp.ofG {K : PySem.W.Frag} {mg : Mg} {ρ : Env} {σ : St} {F1 Hf H : Hp} (s : Same g.F0 F1) (n : ∀ a o, F1 a = some o → g.F0 a = some o ∨ g.H0 a = none) (R : Rp K mg ⟨g.H0, F1, g.slf⟩ Γ ρ σ Hf H) : Rp K mg g Γ ρ σ Hf H :=
  ⟨R.same, R.ent, s.trans R.ent2, fun a o e => (R.news a o e).elim (fun z => n a o z) .inr, R.len, R.own, R.dat, R.sep⟩
theorem Rp.toG {K : PySem.W.Frag} {mg : Mg} {ρ : Env} {σ : St} {F1 Hf H : Hp} (s : Same F1 Hf) (s0 : Same g.F0 F1) (R : Rp K mg g Γ ρ σ Hf H) : Rp K mg ⟨g.H0, F1, g.slf⟩ Γ ρ σ Hf H :=
  ⟨R.same, R.ent, s, fun a o e => (R.news a o e).elim (fun z => .inl (s0 a o z)) .inr, R.len, R.own, R.dat, R.sep⟩
theorem sR.toG {F1 : Hp} {Dn : Ends} {o : SO} (s : Same g.F0 F1) (n : ∀ a o, F1 a = some o → g.F0 a = some o ∨ g.H0 a = none) (h : sR X.K X.mw g E Γ Γl ro Dn o) : sR X.K X.mw ⟨g.H0, F1, g.slf⟩ E Γ Γl ro Dn o := by
  cases o with
  | nx ρ => exact fun σ Hf H R => h σ Hf H (R.ofG s n)
  | bk ρ => exact fun σ Hf H R => h σ Hf H (R.ofG s n)
  | ct ρ => exact fun σ Hf H R => h σ Hf H (R.ofG s n)
  | rt d => exact fun v Hf H s1 s2 s3 nw r => h v Hf H s1 s2 (s.trans s3) (fun a o e => (nw a o e).elim (fun z => n a o z) .inr) r
  | ex x => exact fun c dd σ Hf H s1 s2 s3 nw ix => h c dd σ Hf H s1 s2 (s.trans s3) (fun a o e => (nw a o e).elim (fun z => n a o z) .inr) ix
  | stuck => exact h
theorem psx_for {iter : Expr} {body : List Stmt} {G : D → Env → Out Env} {it : Env → Out (List D)} {fb : Env → SO} (hp : PassesOwn (model X.prog X.w) X.A X.env X.xe) (hc : X.calm = true) (hi : PIx X g E Γ tg iter Γ1 it)
    {ws : List Nat} (hg : ∀ F1, PGx X ⟨g.H0, F1, g.slf⟩ Γ1 tg Γ2 G ws) (nx : ∀ d ρ x, G d ρ ≠ .exc x) (hb : ∀ F1, PSsx X ⟨g.H0, F1, g.slf⟩ E ro Γ1 Γ2 body Γ1 fb) (hs : ∀ x, foldedSetIterable iter X.env x = pure x := by intro _; rfl) :
    PSx X g E ro Γl Γ (.For tg iter body [] pos) Γ1 (sFor G it fb) := by
  refine ⟨⟨fun pins s σ H Dn I ⟨ρ, Hf, R, q⟩ => ?_⟩⟩
  let hbody : ∀ F1, PSs X body (fun Dn σ H => ∃ ρ Hf, Rp X.K X.mw ⟨g.H0, F1, g.slf⟩ Γ2 ρ σ Hf H ∧ sR X.K X.mw ⟨g.H0, F1, g.slf⟩ E Γ1 Γ1 ro Dn (fb ρ)) := fun F1 => (hb F1).ps
  let hgt : ∀ F1, PG X tg (fun v σ H Q => ∃ d ρ Hf, Rp X.K X.mw ⟨g.H0, F1, g.slf⟩ Γ1 ρ σ Hf H ∧ IsD X.K X.mw Hf d v ∧ ∃ ρ', G d ρ = .ok ρ' ∧ ∀ σ', Rp X.K X.mw ⟨g.H0, F1, g.slf⟩ Γ2 ρ' σ' Hf H → Q σ' H) := fun F1 => (hg F1).pg.imp fun v σ H Q ⟨d, ρ, Hf, R, i, ρ', e, q⟩ => ⟨d, ρ, Hf, R, i, ρ', e, fun σ' _ => q σ'⟩
  have HB : PSs X body (fun Dn σ H => ∃ F1 ρ Hf, Rp X.K X.mw ⟨g.H0, F1, g.slf⟩ Γ2 ρ σ Hf H ∧ sR X.K X.mw ⟨g.H0, F1, g.slf⟩ E Γ1 Γ1 ro Dn (fb ρ)) := ⟨fun pins s σ H D I ⟨F1, z⟩ => (hbody F1).run pins s σ H D I z⟩
  have HG : PG X tg (fun v σ H Q => ∃ F1 d ρ Hf, Rp X.K X.mw ⟨g.H0, F1, g.slf⟩ Γ1 ρ σ Hf H ∧ IsD X.K X.mw Hf d v ∧ ∃ ρ', G d ρ = .ok ρ' ∧ ∀ σ', Rp X.K X.mw ⟨g.H0, F1, g.slf⟩ Γ2 ρ' σ' Hf H → Q σ' H) := ⟨fun pins s σ H v u Q I r ⟨F1, z⟩ => (hgt F1).run pins s σ H v u Q I r z⟩
  refine (ps_for hp hc hi.pi HG HB hs).run pins s σ H Dn I ⟨ρ, Hf, R, ?_⟩
  refine tG.toS q fun ds F1 H1 s1 s2 R1 k J wk => ?_
  have sF : Same g.F0 F1 := R1.ent2
  have nF := R1.news
  refine ⟨fun i n σ H => n = ds.length - i ∧ i ≤ ds.length ∧ ∃ ρ Hf, Rp X.K X.mw ⟨g.H0, F1, g.slf⟩ Γ1 ρ σ Hf H ∧ sR X.K X.mw g E Γ1 Γl ro Dn (forL G fb (ds.drop i) ρ), ⟨ds.length, by simp, Nat.zero_le _, ρ, F1, R1.toG (Same.refl _) sF, k⟩, ?_⟩
  rintro i n σ2 H2 ⟨rfl, hi', ρ2, Hf2, R2, k2⟩
  by_cases hlt : i < ds.length
  · have ed : ds[i]? = some ds[i] := by simp [hlt]
    have hd : ds.drop i = ds[i] :: ds.drop (i + 1) := List.drop_eq_getElem_cons hlt
    obtain ⟨go, yl⟩ := (wk ⟨g.H0, F1, g.slf⟩ Γ1 ρ2 σ2 Hf2 H2 R2.ent2 R2 i).1 _ ed
    refine .inr ⟨go, fun σ3 H3 => ∃ ρ Hf, Rp X.K X.mw ⟨g.H0, F1, g.slf⟩ Γ1 ρ σ3 Hf H3 ∧ sR X.K X.mw g E Γ1 Γl ro Dn (forL G fb (ds.drop (i + 1)) ρ), fun σ3 H3 ⟨ρ3, Hf3, R3, k3⟩ => ⟨ds.length - (i + 1), by omega, rfl, hlt, ρ3, Hf3, R3, k3⟩, fun x H' y => ?_⟩
    obtain ⟨Hf3, s3, s4, R3, hx⟩ := yl x H' y
    rw [hd] at k2
    unfold forL at k2
    cases hG : G ds[i] ρ2 with
    | ok ρ3 =>
      rw [hG] at k2
      refine ⟨F1, ds[i], ρ2, Hf3, R3, hx, ρ3, hG, fun σ' R4 => ⟨F1, ρ3, Hf3, R4, ?_⟩⟩
      simp only [oS_ok] at k2
      cases hf : fb ρ3 with
      | nx r => rw [hf] at k2; exact fun σ5 Hf5 H5 R5 => ⟨r, Hf5, R5, k2⟩
      | ct r => rw [hf] at k2; exact fun σ5 Hf5 H5 R5 => ⟨r, Hf5, R5, k2⟩
      | bk r => rw [hf] at k2; exact fun σ5 Hf5 H5 R5 => k2 σ5 Hf5 H5 (R5.ofG sF nF)
      | rt d => rw [hf] at k2; exact fun v Hf H s1 s2 s3 nw r => k2 v Hf H s1 s2 (sF.trans s3) (fun a o e => (nw a o e).elim (fun z => nF a o z) .inr) r
      | ex x => rw [hf] at k2; exact fun c dd σ Hf H s1 s2 s3 nw ix => k2 c dd σ Hf H s1 s2 (sF.trans s3) (fun a o e => (nw a o e).elim (fun z => nF a o z) .inr) ix
      | stuck => rw [hf] at k2; exact k2
    | exc x => exact absurd hG (nx _ _ x)
    | stuck => rw [hG] at k2; exact k2.elim
  · have e : i = ds.length := by omega
    subst e
    refine .inl ⟨(wk ⟨g.H0, F1, g.slf⟩ Γ1 ρ2 σ2 Hf2 H2 R2.ent2 R2 _).2 (Nat.le_refl _), ?_⟩
    rw [List.drop_length] at k2
    exact k2 σ2 Hf2 H2 (R2.ofG sF nF)
theorem psx_while {c : Expr} {body : List Stmt} {ft : Env → Out Bool} {fb : Env → SO} (hp : PassesOwn (model X.prog X.w) X.A X.env X.xe) (hc : PTx X g E Γ c Γ ft) (hb : PSsx X g E ro Γ Γ body Γ fb) : PSx X g E ro Γl Γ (.While c body [] pos) Γ (sWhile ft fb) := by
  refine ⟨(ps_while hp hc.pe hb.ps).imp fun Dn σ H ⟨ρ, Hf, R, q⟩ => ?_⟩
  by_cases st : sWhile ft fb ρ = .stuck
  · rw [st] at q; exact q.elim
  obtain ⟨n0, e0⟩ := sWhile_some st
  rw [← e0] at q
  refine ⟨fun n σ H => ∃ ρ Hf, Rp X.K X.mw g Γ ρ σ Hf H ∧ sR X.K X.mw g E Γ Γl ro Dn (whileN ft fb n ρ), ⟨n0, ρ, Hf, R, q⟩, ?_⟩
  rintro n σ1 H1 ⟨ρ1, Hf1, R1, k1⟩
  refine ⟨ρ1, Hf1, R1, ?_⟩
  cases n with
  | zero => exact k1.elim
  | succ n =>
    unfold whileN at k1
    refine tG.toS k1 fun b F2 H2 s1 s2 R2 k2 => ?_
    cases b with
    | true =>
      rw [if_pos rfl] at k2 ⊢
      refine ⟨fun σ3 H3 => ∃ ρ Hf, Rp X.K X.mw g Γ ρ σ3 Hf H3 ∧ sR X.K X.mw g E Γ Γl ro Dn (whileN ft fb n ρ), fun σ3 H3 z => ⟨n, Nat.lt_succ_self _, z⟩, ρ1, F2, R2, ?_⟩
      cases hf : fb ρ1 with
      | nx r => rw [hf] at k2; exact fun σ5 Hf5 H5 R5 => ⟨r, Hf5, R5, k2⟩
      | ct r => rw [hf] at k2; exact fun σ5 Hf5 H5 R5 => ⟨r, Hf5, R5, k2⟩
      | bk r => rw [hf] at k2; exact fun σ5 Hf5 H5 R5 => k2 σ5 Hf5 H5 R5
      | rt d => rw [hf] at k2; exact k2
      | ex x => rw [hf] at k2; exact k2
      | stuck => rw [hf] at k2; exact k2
    | false =>
      rw [if_neg Bool.false_ne_true] at k2 ⊢
      exact k2 σ1 F2 H2 R2
end

structure FnT (K : PySem.W.Frag) (mg : Str → Option Value) (x : Str) (st : Stmt) : Prop where
  ex : ∃ f fd, mg x = some (.ref f) ∧ Fun K x x st f fd
structure FnA (P : Program) (w : World) (K : PySem.W.Frag) (mg : Str → Option Value) (base : Heap) (k : Nat) (x : Str) (ps : List Str) (ro : Bool) (F : List D → Out D) : Prop where
  ex : ∃ f fd, mg x = some (.ref f) ∧ PySem.W.keepIn K (.ref f) = true ∧ Binds K fd ps [] ∧ FnOk P w K mg base (L2.CX P w) k f fd ps (spD K ⟨mg, w⟩ ro F) ∧ ∃ oc od osl, K.lookup f = some ⟨oc, od, .func fd, osl⟩
theorem FnA.mono {P : Program} {w : World} {K : PySem.W.Frag} {mg : Str → Option Value} {base : Heap} {j k : Nat} {x : Str} {ps : List Str} {ro : Bool} {F : List D → Out D} (h : FnA P w K mg base j x ps ro F) (l : j ≤ k) : FnA P w K mg base k x ps ro F := by
  obtain ⟨f, fd, e1, e2, e3, e4, e5⟩ := h.ex
  exact ⟨f, fd, e1, e2, e3, e4.mono l, e5⟩
def SO.res (o : SO) : Out D := match o with
  | .rt d => .ok d
  | .nx _ => .ok .non
  | .ex x => .exc x
  | _ => .stuck
@[simp] theorem res_rt (d : D) : (SO.rt d).res = .ok d := rfl
@[simp] theorem res_nx (r : Env) : (SO.nx r).res = .ok .non := rfl
@[simp] theorem res_ex (x : Exn) : (SO.ex x).res = .exc x := rfl
def fnM (n k : Nat) (b : Env → SO) : List D → Out D := fun ds => if ds.length = k then (b (ds.map some ++ List.replicate (n - k) none)).res else .stuck
def cxD (P : Program) (w : World) (K : PySem.W.Frag) (mg : Str → Option Value) (base : Heap) (N : List Str) (x : Str) (st : Stmt) (f : Addr) (cdv : Value) (A : Around) (outer : List PySem.Env) (s : Shared) (H : Hp) (E : XK) : Cx :=
  cxOf (L2.CX P w) P w K mg base N x (defScope st) f cdv A outer s H E
section
variable {P : Program} {w : World} {K : PySem.W.Frag} {mg : Str → Option Value} {base : Heap}
theorem IsDs.map {mg : Mg} {H : Hp} : ∀ {ds : List D} {vs : List V} {i : Nat} {d : D}, IsDs K mg H ds vs → (ds.map some)[i]? = some (some d) → ∃ v, (vs.map some)[i]? = some (some v) ∧ IsD K mg H d v := fun {ds vs i d} h e => by
  rw [List.getElem?_map] at e
  cases q : ds[i]? with
  | none => rw [q] at e; cases e
  | some d' =>
    rw [q] at e
    cases e
    obtain ⟨v, ev, r⟩ := h.at q
    exact ⟨v, by rw [List.getElem?_map, ev]; rfl, r⟩
theorem fnA_mk {x : Str} {st : Stmt} {N ps : List Str} {k : Nat} {ro : Bool} {Γl Γ' Γ0 : List Bool} {b : Env → SO} (T : FnT K mg x st) (S : FnScope N ps (defScope st)) (hl : ps.length ≤ N.length) (h0 : ∀ i, ¬ Own Γ0 i)
    (hbind : ∀ (kV doc pm : Value) (an : Option Addr) (cdv ct : Value) (us : List Value), us.length = ps.length → bindArgs (PySem.W.fnOf x x (defArgs st) (defBody st) (defScope st) .none kV doc pm an cdv ct) ⟨us, []⟩ = pure (ps.zip us))
    (body : ∀ (f : Addr) (cdv : Value) (A : Around) (outer : List PySem.Env) (s : Shared) (H : Hp) (E : XK) (Hf : Hp), Room k (A.deeper (envOfC x (defScope st) s.heap.objs.size f cdv)) →
      PSsx (cxD P w K mg base N x st f cdv A outer s H E) ⟨H, Hf, none⟩ (fun c d _ H => E c d H) ro Γl Γ0 (defBody st) Γ' b) : FnA P w K mg base (k + 1) x ps ro (fnM N.length ps.length b) := by
  obtain ⟨f, fd, hm, F⟩ := T.ex
  refine ⟨f, fd, hm, F.kp, F.binds hbind, F.okX S (fun vs H Q E h => ?_) fun cdv A outer s H vs Q E hr h => ?_, let ⟨oc, od, _, _, _, _, _, _, osl, _, l, _⟩ := F.ex; ⟨oc, od, osl, l⟩⟩
  · obtain ⟨ds, Hf, s1, hv, q⟩ := h
    rw [hv.len]
    unfold fnM at q
    by_cases l : ds.length = ps.length
    · exact l
    · rw [if_neg l] at q; exact q.elim
  · obtain ⟨ds, Hf, s1, hv, q⟩ := h
    refine ⟨_, (body f cdv A outer s H E Hf hr).ps, ?_⟩
    unfold fnM at q
    by_cases l : ds.length = ps.length
    · rw [if_pos l] at q
      have lv : vs.length = ps.length := hv.len.trans l
      refine ⟨ds.map some ++ List.replicate (N.length - ps.length) none, Hf, ⟨s1, Same.refl _, Same.refl _, fun a o e => .inl e, ⟨?_, fun a e => by cases e⟩, fun i d o _ => (h0 i o).elim, fun i d o e => ?_, fun i j d e v n o => (h0 i o).elim⟩, ?_⟩
      · unfold L2.start
        simp [lv, l]
      · unfold L2.start
        by_cases li : i < ds.length
        · rw [List.getElem?_append_left (by simpa using li)] at e
          obtain ⟨v, ev, r⟩ := IsDs.map hv e
          refine ⟨v, ?_, r⟩
          rw [List.getElem?_append_left (by simpa [hv.len] using li)]
          exact ev
        · rw [List.getElem?_append_right (by simpa using li), List.getElem?_replicate] at e
          split at e <;> simp at e
      · show sR K ⟨mg, w⟩ ⟨H, Hf, none⟩ _ Γ' Γl ro _ (b _)
        cases hb : b (ds.map some ++ List.replicate (N.length - ps.length) none) with
        | nx r =>
          rw [hb] at q
          intro σ1 Hf1 H1 R1
          refine q .non Hf1 H1 R1.ent2 R1.same R1.ent R1.news ?_
          unfold RetRes
          cases ro <;> simp [IsO, IsD]
        | rt d => rw [hb] at q; exact fun v Hf1 H1 s1 s2 s3 nw r => q v Hf1 H1 s3 s1 s2 nw r
        | ex x => rw [hb] at q; exact fun c dd σ1 Hf1 H1 s1 s2 s3 nw ix => q c dd Hf1 H1 s3 s1 s2 nw ix
        | bk r => rw [hb] at q; exact q.elim
        | ct r => rw [hb] at q; exact q.elim
        | stuck => rw [hb] at q; exact q.elim
    · rw [if_neg l] at q; exact q.elim
theorem fnA_stuck {x : Str} {st : Stmt} {ps : List Str} {k : Nat} {ro : Bool} (T : FnT K mg x st)
    (hbind : ∀ (kV doc pm : Value) (an : Option Addr) (cdv ct : Value) (us : List Value), us.length = ps.length → bindArgs (PySem.W.fnOf x x (defArgs st) (defBody st) (defScope st) .none kV doc pm an cdv ct) ⟨us, []⟩ = pure (ps.zip us)) :
    FnA P w K mg base k x ps ro (fun _ => .stuck) := by
  obtain ⟨f, fd, hm, F⟩ := T.ex
  exact ⟨f, fd, hm, F.kp, F.binds hbind, ⟨fun vs H Q E ⟨_, _, _, _, z⟩ => z.elim, fun A outer s H args us vs Q E _ _ _ _ ⟨_, _, _, _, z⟩ => z.elim⟩, let ⟨oc, od, _, _, _, _, _, _, osl, _, l, _⟩ := F.ex; ⟨oc, od, osl, l⟩⟩
end

section
variable {X : Cx} {g : G} {E : WX} {ro : Bool} {Γl Γ Γ1 Γ2 Γ3 : List Bool} {m : Md} {pos p : Pos} {x : Str} {e : Expr} {es : List Expr} {k : Nat} {ps : List Str} {F : List D → Out D} {fa : Env → Out (List D)}
theorem Rp.back {K : PySem.W.Frag} {mg : Mg} {ρ : Env} {σ : St} {F1 H1 Hf' H' : Hp} (R : Rp K mg g Γ ρ σ F1 H1) (s1 : Same F1 Hf') (s2 : Same Hf' H') (s3 : Same H1 H') (nw : ∀ a o, Hf' a = some o → F1 a = some o ∨ H1 a = none) : Rp K mg g Γ ρ σ Hf' H' := by
  refine ⟨s2, R.ent.trans s3, R.ent2.trans s1, fun a o e => ?_, R.len, fun i d o e => ?_, fun i d o e => ?_, R.sep⟩
  · rcases nw a o e with z | z
    · exact R.news a o z
    · exact .inr (R.ent.free z)
  · obtain ⟨v, e1, io⟩ := R.own i d o e
    refine ⟨v, e1, ?_⟩
    have nn : ∀ a oo, F1 a = none → H1 a = some oo → Hf' a = none := fun a oo zf q => by
      cases z : Hf' a with
      | none => rfl
      | some o' =>
        rcases nw a o' z with y | y
        · rw [zf] at y; cases y
        · rw [q] at y; cases y
    cases d with
    | lst ds =>
      obtain ⟨a, xs, e, z0, zf, q, r⟩ := io
      exact ⟨a, xs, e, z0, nn a _ zf q, s3 _ _ q, IsDs.mono s1 r⟩
    | dic ds =>
      obtain ⟨a, xs, e, z0, zf, q, r⟩ := io
      exact ⟨a, xs, e, z0, nn a _ zf q, s3 _ _ q, DicAt.mono s1 r⟩
    | ins c ds =>
      obtain ⟨a, xs, e, z0, zf, q, r⟩ := io
      exact ⟨a, xs, e, z0, nn a _ zf q, s3 _ _ q, InsAt.mono s1 r⟩
    | _ => exact IsD.mono s1 io
  · obtain ⟨v, e1, q⟩ := R.dat i d o e
    exact ⟨v, e1, q.mono s1⟩
theorem call_sp {ρ : Env} {σ : St} {F1 H1 : Hp} {ds : List D} {vs : List V} {Q : VK} (R : Rp X.K X.mw g Γ ρ σ F1 H1) (hv : IsDs X.K X.mw F1 ds vs) (k : tG X.K X.mw g E Γ ρ σ F1 H1 (PV X g Γ ρ σ (if ro = true then .ow else .fr) Q) (F ds)) : spD X.K X.mw ro F vs H1 Q (WE E σ) := by
  refine ⟨ds, F1, R.same, hv, ?_⟩
  cases hF : F ds with
  | ok d =>
    rw [hF] at k
    intro v Hf' H' s1 s2 s3 nw rr
    refine k Hf' H' s1 s3 (R.back s1 s2 s3 nw) v ?_
    cases ro with
    | true =>
      unfold RetRes at rr
      rw [if_pos rfl] at rr
      refine ⟨?_, fun i e o e1 m1 m2 e2 => ?_⟩
      · cases d with
        | lst ds => obtain ⟨a, xs, e, z0, zf, q, r⟩ := rr; exact ⟨a, xs, e, R.ent.free z0, zf, q, r⟩
        | dic ds => obtain ⟨a, xs, e, z0, zf, q, r⟩ := rr; exact ⟨a, xs, e, R.ent.free z0, zf, q, r⟩
        | ins c ds => obtain ⟨a, xs, e, z0, zf, q, r⟩ := rr; exact ⟨a, xs, e, R.ent.free z0, zf, q, r⟩
        | _ => exact rr
      · obtain ⟨a, oo, rfl, z0, _, _⟩ := rr.addr m2
        obtain ⟨v', e3, io⟩ := R.own i e o e1
        obtain ⟨b, ob, e4, _, _, q⟩ := io.addr m1
        rw [e2] at e3
        obtain rfl : V.ref a = v' := Option.some.inj (Option.some.inj e3)
        obtain rfl : a = b := V.ref.inj e4
        rw [z0] at q; cases q
    | false =>
      unfold RetRes at rr
      rw [if_neg Bool.false_ne_true] at rr
      exact rr
  | exc x =>
    rw [hF] at k
    intro c dd Hf' H' s1 s2 s3 nw ix
    exact k c dd Hf' H' s1 s3 (R.back s1 s2 s3 nw) ix
  | stuck => rw [hF] at k; exact k
theorem px_call (C : FnA X.prog X.w X.K X.mg X.base k x ps ro F) (hr : Room k X.A) (hg : Gl X x) (tk : Takes X E) (ha : PAx X g E Γ (e :: es) Γ1 fa) (hdb : (x == ("__debug__" : Str)) = false := by decide)
    (he : starEach (e :: es) X.env = (false, eval e X.env) :: starEach es X.env := by rfl) (hpl : (backTo pos (starEach es X.env)).any (·.1) = false := by rfl) : PX X g E Γ (.Call (.Name x p) (e :: es) [] pos) Γ1 (if ro = true then .ow else .fr) (eA F fa) := by
  obtain ⟨f, fd, e1, e2, e3, e4, _⟩ := C.ex
  refine ⟨ha.le, (pe_callS e4 hr hg e1 e2 e3 (fun σ => passAt tk σ) ha.pe hdb he hpl).imp fun σ H Q ⟨ρ, Hf, R, q⟩ => ⟨ρ, Hf, R, ?_⟩⟩
  exact tG.bind (Le.refl _) q fun ds F1 H1 s1 s2 R1 k1 vs hv => call_sp R1 hv k1
end
end PD

namespace PD
open PySem PySem.Spec L2
open PyProof.Rows hiding St

section
variable {X : Cx} {m : Md}
def Out.or {α : Type} (a b : Out α) : Out α := match a with
  | .stuck => b
  | o => o
@[simp] theorem Out.or_ok {α : Type} (a : α) (b : Out α) : (Out.ok a).or b = .ok a := rfl
@[simp] theorem Out.or_stuck {α : Type} (b : Out α) : (Out.stuck : Out α).or b = b := rfl
def dOr (F F' : D → D → Out D) : D → D → Out D := fun x y => (F x y).or (F' x y)
theorem OpD.or {f : Value → Value → Sem Value} {F F' : D → D → Out D} (h : OpD X f m F) (h' : OpD X f m F') : OpD X f m (dOr F F') := by
  obtain ⟨r, hr, w⟩ := h
  obtain ⟨r', hr', w'⟩ := h'
  refine ⟨_, hr.or hr', fun g E Γ ρ σ Hf H x y v u Q R hx hy k => ?_⟩
  unfold dOr at k
  cases hF : F x y with
  | ok d => rw [hF] at k; exact .inl (w g E Γ ρ σ Hf H x y v u Q R hx hy (by rw [hF]; exact k))
  | exc e => rw [hF] at k; exact .inl (w g E Γ ρ σ Hf H x y v u Q R hx hy (by rw [hF]; exact k))
  | stuck => rw [hF] at k; exact .inr (w' g E Γ ρ σ Hf H x y v u Q R hx hy k)
noncomputable def dI (C : Int → Int → Prop) (h : Int → Int → D) : D → D → Out D
  | .int i, .int j => chk (C i j) (.ok (h i j))
  | _, _ => .stuck
def dI0 (h : Int → Int → D) : D → D → Out D
  | .int i, .int j => .ok (h i j)
  | _, _ => .stuck
theorem opd_int {f : Value → Value → Sem Value} {C : Int → Int → Prop} {h : Int → Int → Int} (ho : OpR X f (rI C fun i j => .int (h i j))) : OpD X f m (dI C fun i j => .int (h i j)) := by
  refine ⟨_, ho, fun g E Γ ρ σ Hf H x y v u Q R hx hy k => ?_⟩
  unfold dI at k
  split at k
  · rename_i i j
    simp only [IsR, IsD] at hx hy
    by_cases c : C i j
    · rw [chk_pos c] at k
      exact ⟨i, j, hx, hy, c, k Hf H (Same.refl _) (Same.refl _) R _ (Res.dat R.same rfl (by simp only [IsD]))⟩
    · rw [chk_neg c] at k; exact k.elim
  · exact k.elim
theorem opd_int0 {f : Value → Value → Sem Value} {h : Int → Int → Int} (ho : OpR X f (rI0 fun i j => .int (h i j))) : OpD X f m (dI0 fun i j => .int (h i j)) := by
  refine ⟨_, ho, fun g E Γ ρ σ Hf H x y v u Q R hx hy k => ?_⟩
  unfold dI0 at k
  split at k
  · rename_i i j
    simp only [IsR, IsD] at hx hy
    exact ⟨i, j, hx, hy, k Hf H (Same.refl _) (Same.refl _) R _ (Res.dat R.same rfl (by simp only [IsD]))⟩
  · exact k.elim
theorem opd_cmp {f : Value → Value → Sem Value} {h : Int → Int → Bool} (ho : OpR X f (rI0 fun i j => .bl (h i j))) : OpD X f m (dI0 fun i j => .bl (h i j)) := by
  refine ⟨_, ho, fun g E Γ ρ σ Hf H x y v u Q R hx hy k => ?_⟩
  unfold dI0 at k
  split at k
  · rename_i i j
    simp only [IsR, IsD] at hx hy
    exact ⟨i, j, hx, hy, k Hf H (Same.refl _) (Same.refl _) R _ (Res.dat R.same rfl (by simp only [IsD]))⟩
  · exact k.elim
def dAddI : D → D → Out D := dI0 fun i j => .int (i + j)
def dSub : D → D → Out D := dI0 fun i j => .int (i - j)
noncomputable def dMulI : D → D → Out D := dI CMulX fun i j => .int (i * j)
noncomputable def dDiv : D → D → Out D := dI CDivW fun i j => .int (i / j)
noncomputable def dMod : D → D → Out D := dI (fun _ j => 0 < j) fun i j => .int (i % j)
noncomputable def dPow : D → D → Out D := dI CPow fun i j => .int (i ^ j.toNat)
def dLtI : D → D → Out D := dI0 fun i j => .bl (decide (i < j))
def dLeI : D → D → Out D := dI0 fun i j => .bl (decide (i ≤ j))
def dGtI : D → D → Out D := dI0 fun i j => .bl (decide (j < i))
def dGeI : D → D → Out D := dI0 fun i j => .bl (decide (j ≤ i))
theorem od_addI : OpD X (binaryOp .Add) m dAddI := opd_int0 op_add
theorem od_sub : OpD X (binaryOp .Sub) m dSub := opd_int0 op_sub
theorem od_mulI : OpD X (binaryOp .Mult) m dMulI := opd_int op_mulX
theorem od_div : OpD X (binaryOp .FloorDiv) m dDiv := opd_int op_fdivW
theorem od_mod : OpD X (binaryOp .Mod) m dMod := opd_int op_mod
theorem od_pow : OpD X (binaryOp .Pow) m dPow := opd_int op_pow
theorem od_ltI : OpD X (compareOp .Lt) m dLtI := opd_cmp op_lt
theorem od_leI : OpD X (compareOp .LtE) m dLeI := opd_cmp op_le
theorem od_gtI : OpD X (compareOp .Gt) m dGtI := opd_cmp op_gt
noncomputable def dAddS : D → D → Out D
  | .str i, .str j => chk (i.length + j.length ≤ sizeLine) (.ok (.str (i ++ j)))
  | _, _ => .stuck
theorem od_addS : OpD X (binaryOp .Add) m dAddS := by
  refine ⟨_, op_add_str, fun g E Γ ρ σ Hf H x y v u Q R hx hy k => ?_⟩
  unfold dAddS at k
  split at k
  · rename_i i j
    simp only [IsR, IsD] at hx hy
    by_cases c : i.length + j.length ≤ sizeLine
    · rw [chk_pos c] at k
      exact ⟨i, j, hx, hy, c, k Hf H (Same.refl _) (Same.refl _) R _ (Res.dat R.same rfl (by simp only [IsD]))⟩
    · rw [chk_neg c] at k; exact k.elim
  · exact k.elim
def dS (h : Str → Str → Bool) : D → D → Out D
  | .str i, .str j => .ok (.bl (h i j))
  | _, _ => .stuck
theorem opd_str {f : Value → Value → Sem Value} {h : Str → Str → Bool} (ho : OpR X f (fun x y H Q => ∃ i j, x = .str i ∧ y = .str j ∧ Q (.bl (h i j)) H)) : OpD X f m (dS h) := by
  refine ⟨_, ho, fun g E Γ ρ σ Hf H x y v u Q R hx hy k => ?_⟩
  unfold dS at k
  split at k
  · rename_i i j
    simp only [IsR, IsD] at hx hy
    exact ⟨i, j, hx, hy, k Hf H (Same.refl _) (Same.refl _) R _ (Res.dat R.same rfl (by simp only [IsD]))⟩
  · exact k.elim
def dLtS : D → D → Out D := dS fun i j => decide (i.cps.toList < j.cps.toList)
def dLeS : D → D → Out D := dS fun i j => !decide (j.cps.toList < i.cps.toList)
def dGtS : D → D → Out D := dS fun i j => decide (j.cps.toList < i.cps.toList)
def dGeS : D → D → Out D := dS fun i j => !decide (i.cps.toList < j.cps.toList)
theorem pv_lst {g : G} {E : WX} {Γ : List Bool} {ρ : Env} {σ : St} {Hf H : Hp} {ds : List D} {vs : List V} {Q : VK} {p : Addr} (R : Rp X.K X.mw g Γ ρ σ Hf H) (hv : IsDs X.K X.mw Hf ds vs) (n : H p = none)
    (k : tG X.K X.mw g E Γ ρ σ Hf H (PV X g Γ ρ σ m Q) (.ok (.lst ds))) : Q (.ref p) (upd H p (.lst vs)) := by
  cases m with
  | ow =>
    obtain ⟨t2, R2, n0, nf, ap⟩ := R.newO (.lst vs) n
    exact k _ _ (Same.refl _) t2 R2 (.ref p) ⟨⟨p, vs, rfl, n0, nf, upd_same, hv⟩, fun i e ow e1 m _ e2 => ap i e ow e1 m e2⟩
  | fr =>
    obtain ⟨t1, t2, R2⟩ := R.new (.lst vs) n
    refine k _ _ t1 t2 R2 (.ref p) ?_
    show IsD _ _ _ _ _
    simp only [IsD]
    exact ⟨p, vs, rfl, upd_same, IsDs.mono t1 hv⟩
  | rd =>
    obtain ⟨t1, t2, R2⟩ := R.new (.lst vs) n
    exact k _ _ t1 t2 R2 (.ref p) ⟨p, vs, rfl, upd_same, IsDs.mono t1 hv⟩
theorem pv_tup {g : G} {E : WX} {Γ : List Bool} {ρ : Env} {σ : St} {Hf H : Hp} {ds : List D} {vs : List V} {Q : VK} {p : Addr} {o : Obj} (hd : o.dict = none) (R : Rp X.K X.mw g Γ ρ σ Hf H) (hv : IsDs X.K X.mw Hf ds vs) (n : H p = none)
    (k : tG X.K X.mw g E Γ ρ σ Hf H (PV X g Γ ρ σ m Q) (.ok (.tup ds))) : Q (.ref p) (upd H p (.frz o (.tup vs))) := by
  obtain ⟨t1, t2, R2⟩ := R.new (.frz o (.tup vs)) n
  refine k _ _ t1 t2 R2 _ (Res.dat R2.same rfl ?_)
  simp only [IsD]
  exact ⟨p, vs, rfl, .frz upd_same hd, IsDs.mono t1 hv⟩
theorem IsDs.app {K : PySem.W.Frag} {mg : Mg} {H : Hp} {es : List D} {us : List V} (k : IsDs K mg H es us) : ∀ {ds : List D} {vs : List V}, IsDs K mg H ds vs → IsDs K mg H (ds ++ es) (vs ++ us)
  | [], vs, h => by
    simp only [IsDs] at h
    subst h
    exact k
  | x :: ds, vs, h => by
    simp only [IsDs, List.cons_append] at h ⊢
    obtain ⟨u, ws, rfl, q, r⟩ := h
    exact ⟨u, ws ++ us, rfl, q, IsDs.app k r⟩
noncomputable def dAddL : D → D → Out D
  | .lst xs, .lst ys => chk (xs.length + ys.length ≤ sizeLine) (.ok (.lst (xs ++ ys)))
  | _, _ => .stuck
theorem od_addL : OpD X (binaryOp .Add) m dAddL := by
  refine ⟨_, op_cat, fun g E Γ ρ σ Hf H x y v u Q R hx hy k => ?_⟩
  unfold dAddL at k
  split at k
  · rename_i ds es
    by_cases c : ds.length + es.length ≤ sizeLine
    · rw [chk_pos c] at k
      obtain ⟨a, xs, rfl, q, r⟩ := hx
      obtain ⟨b, ys, rfl, q2, r2⟩ := hy
      exact ⟨a, b, xs, ys, rfl, rfl, q, q2, by rw [r.len, r2.len]; exact c, fun p n => pv_lst R (IsDs.app r2 r) n k⟩
    · rw [chk_neg c] at k; exact k.elim
  · exact k.elim
noncomputable def dAddT : D → D → Out D
  | .tup xs, .tup ys => chk (xs.length + ys.length ≤ sizeLine) (.ok (.tup (xs ++ ys)))
  | _, _ => .stuck
theorem od_addT : OpD X (binaryOp .Add) m dAddT := by
  refine ⟨_, op_catF, fun g E Γ ρ σ Hf H x y v u Q R hx hy k => ?_⟩
  unfold dAddT at k
  split at k
  · rename_i ds es
    by_cases c : ds.length + es.length ≤ sizeLine
    · rw [chk_pos c] at k
      have hx' := hx
      have hy' := hy
      simp only [IsR, IsD] at hx hy
      obtain ⟨a, xs, rfl, q, r⟩ := hx
      obtain ⟨b, ys, rfl, q2, r2⟩ := hy
      refine ⟨a, b, xs, ys, rfl, rfl, (Same.seqT R.same q).l, (Same.seqT R.same q2).l, by rw [r.len, r2.len]; exact c, fun e => ?_, fun _ e => ?_, fun _ _ p o hd n => pv_tup hd R (IsDs.app r2 r) n k⟩
      · subst e
        have : ds = [] := List.eq_nil_of_length_eq_zero (by rw [← r.len]; rfl)
        subst this
        exact k Hf H (Same.refl _) (Same.refl _) R _ (Res.dat R.same rfl hy')
      · subst e
        have : es = [] := List.eq_nil_of_length_eq_zero (by rw [← r2.len]; rfl)
        subst this
        rw [List.append_nil] at k
        exact k Hf H (Same.refl _) (Same.refl _) R _ (Res.dat R.same rfl hx')
    · rw [chk_neg c] at k; exact k.elim
  · exact k.elim
noncomputable def dAdd : D → D → Out D := dOr dAddI (dOr dAddS (dOr dAddT dAddL))
noncomputable def dMul : D → D → Out D := dMulI

def dLe : D → D → Out D := dOr dLeI dLeS
def dGt : D → D → Out D := dOr dGtI dGtS

theorem od_add {k : Nat} (_ : Room k X.A) : OpD X (binaryOp .Add) m dAdd := od_addI.or (od_addS.or (od_addT.or od_addL))
theorem od_mul {k : Nat} (_ : Room k X.A) : OpD X (binaryOp .Mult) m dMul := od_mulI
theorem od_le {k : Nat} (_ : Room k X.A) : OpD X (compareOp .LtE) m dLe := od_leI.or (opd_str op_le_str)
theorem od_gt {k : Nat} (_ : Room k X.A) : OpD X (compareOp .Gt) m dGt := od_gtI.or (opd_str op_gt_str)
def flatD : D → Bool
  | .non => true
  | .bl _ => true
  | .int _ => true
  | .str _ => true
  | _ => false
def eqD : D → D → Bool
  | .non, .non => true
  | .bl a, .bl b => a == b
  | .bl a, .int b => (if a then 1 else 0) == b
  | .int a, .bl b => a == (if b then 1 else 0)
  | .int a, .int b => a == b
  | .str a, .str b => a == b
  | _, _ => false
noncomputable def dInQ (neg : Bool) (x : D) (ds : List D) : Out D := chk (flatD x = true ∧ ds.all flatD = true) (.ok (.bl (if neg then !(ds.any fun y => eqD y x) else ds.any fun y => eqD y x)))
noncomputable def dInL (neg : Bool) : D → D → Out D
  | x, .lst ds => dInQ neg x ds
  | x, .tup ds => dInQ neg x ds
  | _, _ => .stuck
theorem flat_v {K : PySem.W.Frag} {mg : Mg} {Hf H : Hp} {x : D} {v : V} (h : IsD K mg H x v) (f : flatD x = true) : flatV v = true := by
  cases x <;> first | (simp [flatD] at f; done) | (simp only [IsD] at h; subst h; rfl)
theorem flat_r {K : PySem.W.Frag} {mg : Mg} {Hf H : Hp} {x : D} {v : V} (h : IsR K mg Hf H x v) (f : flatD x = true) : IsD K mg Hf x v := by
  cases x <;> first | (simp [flatD] at f; done) | exact h
theorem flat_eq {K : PySem.W.Frag} {mg : Mg} {H : Hp} {x y : D} {v u : V} (h : IsD K mg H x v) (h' : IsD K mg H y u) (f : flatD x = true) (f' : flatD y = true) : eqV v u = eqD x y := by
  cases x <;> first
    | (simp [flatD] at f; done)
    | (cases y <;> first
      | (simp [flatD] at f'; done)
      | (simp only [IsD] at h h'; subst h h'; rfl))
theorem flat_in {K : PySem.W.Frag} {mg : Mg} {H : Hp} {x : D} {v : V} (h : IsD K mg H x v) (f : flatD x = true) : ∀ {ds : List D} {vs : List V}, IsDs K mg H ds vs → ds.all flatD = true → vs.all flatV = true ∧ inV v vs = ds.any fun y => eqD y x
  | [], _, k, _ => by simp only [IsDs] at k; subst k; exact ⟨rfl, rfl⟩
  | d :: ds, _, k, z => by
    simp only [IsDs] at k
    obtain ⟨u, us, rfl, q, r⟩ := k
    simp only [List.all_cons, Bool.and_eq_true] at z
    obtain ⟨i1, i2⟩ := flat_in h f r z.2
    refine ⟨by rw [List.all_cons, i1, flat_v (Hf := H) q z.1]; rfl, ?_⟩
    unfold inV at i2 ⊢
    rw [List.any_cons, List.any_cons, i2, flat_eq q h z.1 f]
theorem opd_in {f : Value → Value → Sem Value} {neg : Bool} (ho : OpR X f (rIn X.K neg)) : OpD X f m (dInL neg) := by
  refine ⟨_, ho, fun g E Γ ρ σ Hf H x y v u Q R hx hy k => ?_⟩
  unfold dInL at k
  split at k
  · rename_i ds
    unfold dInQ at k
    by_cases c : flatD x = true ∧ ds.all flatD = true
    · rw [chk_pos c] at k
      obtain ⟨a, xs, rfl, q, r⟩ := hy
      obtain ⟨i1, i2⟩ := flat_in (flat_r hx c.1) c.1 r c.2
      refine ⟨a, xs, rfl, .inl (.of q), flat_v (Hf := Hf) (flat_r hx c.1) c.1, i1, ?_⟩
      rw [i2]
      exact k Hf H (Same.refl _) (Same.refl _) R _ (Res.dat R.same rfl (by simp only [IsD]))
    · rw [chk_neg c] at k; exact k.elim
  · rename_i ds
    unfold dInQ at k
    by_cases c : flatD x = true ∧ ds.all flatD = true
    · rw [chk_pos c] at k
      simp only [IsR, IsD] at hy
      obtain ⟨a, xs, rfl, q, r⟩ := hy
      obtain ⟨i1, i2⟩ := flat_in (flat_r hx c.1) c.1 r c.2
      refine ⟨a, xs, rfl, .inr (Same.seqT R.same q).l, flat_v (Hf := Hf) (flat_r hx c.1) c.1, i1, ?_⟩
      rw [i2]
      exact k Hf H (Same.refl _) (Same.refl _) R _ (Res.dat R.same rfl (by simp only [IsD]))
    · rw [chk_neg c] at k; exact k.elim
  · exact k.elim
def dInS : D → D → Out D := dS fun i j => !(Builtin.Str.occurrences j i 0 j.length 1).isEmpty
def dNotInS : D → D → Out D := dS fun i j => !(!(Builtin.Str.occurrences j i 0 j.length 1).isEmpty)
theorem od_inL : OpD X (compareOp .In) m (dInL false) := opd_in op_in_seq
theorem od_notinL : OpD X (compareOp .NotIn) m (dInL true) := opd_in op_notIn_seq
theorem od_inS : OpD X (compareOp .In) m dInS := opd_str op_in_str
theorem od_notinS : OpD X (compareOp .NotIn) m dNotInS := opd_str op_notIn_str
def isNon : D → Bool
  | .non => true
  | _ => false
def dIsN (neg : Bool) : D → D → Out D
  | x, .non => .ok (.bl (if neg then !isNon x else isNon x))
  | _, _ => .stuck
def dNeg : D → Out D
  | .int i => .ok (.int (-i))
  | _ => .stuck
theorem ud_neg : UnD X (unaryOp .USub) m dNeg := by
  refine ⟨_, un_neg, fun g E Γ ρ σ Hf H x v Q R hx k => ?_⟩
  unfold dNeg at k
  split at k
  · rename_i i
    simp only [IsR, IsD] at hx
    exact ⟨i, hx, k Hf H (Same.refl _) (Same.refl _) R _ (Res.dat R.same rfl (by simp only [IsD]))⟩
  · exact k.elim

section
variable {K : PySem.W.Frag} {mg : Mg} {H : Hp}
theorem dp_ints : ∀ ns : List Int, DpAll K H (ns.map V.int) (ns.map .int)
  | [] => .nil
  | n :: ns => .cons (.int n) (dp_ints ns)
mutual
theorem dp_of : ∀ {d : D} {v : V}, IsD K mg H d v → (toPy d).canLay0 = true → Dp K H v (toPy d)
  | .non, _, h, _ => by simp only [IsD] at h; subst h; unfold toPy; exact .non
  | .bl b, _, h, _ => by simp only [IsD] at h; subst h; unfold toPy; exact .bl b
  | .int b, _, h, _ => by simp only [IsD] at h; subst h; unfold toPy; exact .int b
  | .str b, _, h, _ => by simp only [IsD] at h; subst h; unfold toPy; exact .str b
  | .ty _, _, _, z => by unfold toPy at z; simp [PyData.canLay0] at z
  | .scr ns, _, h, _ => by
    simp only [IsD] at h
    obtain ⟨a, rfl, q⟩ := h
    unfold toPy
    exact .lst q (dp_ints ns)
  | .tup ds, _, h, z => by
    simp only [IsD] at h
    obtain ⟨a, xs, rfl, q, r⟩ := h
    unfold toPy at z ⊢
    exact .tup q.l (dp_ofs r (by simpa [PyData.canLay0] using z))
  | .lst ds, _, h, z => by
    simp only [IsD] at h
    obtain ⟨a, xs, rfl, q, r⟩ := h
    unfold toPy at z ⊢
    exact .lst (.of q) (dp_ofs r (by simpa [PyData.canLay0] using z))
  | .dic _, _, _, z => by unfold toPy at z; simp [PyData.canLay0] at z
  | .ins _ _, _, _, z => by unfold toPy at z; simp [PyData.canLay0] at z
  | .adr _, _, _, z => by unfold toPy at z; simp [PyData.canLay0] at z
  | .exn _ _, _, _, z => by unfold toPy at z; simp [PyData.canLay0] at z
  | .cls _, _, _, z => by unfold toPy at z; simp [PyData.canLay0] at z
theorem dp_ofs : ∀ {d : List D} {v : List V}, IsDs K mg H d v → PyData.canLayAll0 (toPys d) = true → DpAll K H v (toPys d)
  | [], _, h, _ => by simp only [IsDs] at h; subst h; unfold toPys; exact .nil
  | d :: ds, _, h, z => by
    simp only [IsDs] at h
    obtain ⟨v, vs, rfl, q, r⟩ := h
    unfold toPys at z ⊢
    have z' : (toPy d).canLay0 = true ∧ PyData.canLayAll0 (toPys ds) = true := by simpa [PyData.canLayAll0] using z
    exact .cons (dp_of q z'.1) (dp_ofs r z'.2)
end
theorem dp_read {Hf : Hp} {d : D} {v : V} (s : Same Hf H) (h : IsR K mg Hf H d v) (z : (toPy d).canLay0 = true) : Dp K H v (toPy d) := by
  cases d with
  | lst ds =>
    obtain ⟨a, xs, rfl, q, r⟩ := h
    unfold toPy at z ⊢
    exact .lst (.of q) (dp_ofs (IsDs.mono s r) (by simpa [PyData.canLay0] using z))
  | dic ds => unfold toPy at z; simp [PyData.canLay0] at z
  | ins c fs => unfold toPy at z; simp [PyData.canLay0] at z
  | _ => exact dp_of (mg := mg) (IsD.mono s h) z
end
noncomputable def dEq : D → D → Out D := fun x y => chk (SeqAt.shaped (toPy x) = true ∧ SeqAt.shaped (toPy y) = true) (.ok (.bl (PyData.eqv (toPy x) (toPy y))))
noncomputable def dNe : D → D → Out D := fun x y => chk (SeqAt.shaped (toPy x) = true ∧ SeqAt.shaped (toPy y) = true) (.ok (.bl (!PyData.eqv (toPy x) (toPy y))))
theorem od_eq {k : Nat} (hr : Room k X.A) : OpD X (compareOp .Eq) m dEq := by
  refine ⟨_, op_eqD hr.units, fun g E Γ ρ σ Hf H x y v u Q R hx hy k => ?_⟩
  unfold dEq at k
  by_cases c : SeqAt.shaped (toPy x) = true ∧ SeqAt.shaped (toPy y) = true
  · rw [chk_pos c] at k
    exact ⟨toPy x, toPy y, dp_read R.same hx (SeqAt.canLay_of_shaped c.1), dp_read R.same hy (SeqAt.canLay_of_shaped c.2), c.1, c.2, k Hf H (Same.refl _) (Same.refl _) R _ (Res.dat R.same rfl (by simp only [IsD]))⟩
  · rw [chk_neg c] at k; exact k.elim
theorem od_ne {k : Nat} (hr : Room k X.A) : OpD X (compareOp .NotEq) m dNe := by
  refine ⟨_, op_neD hr.units, fun g E Γ ρ σ Hf H x y v u Q R hx hy k => ?_⟩
  unfold dNe at k
  by_cases c : SeqAt.shaped (toPy x) = true ∧ SeqAt.shaped (toPy y) = true
  · rw [chk_pos c] at k
    exact ⟨toPy x, toPy y, dp_read R.same hx (SeqAt.canLay_of_shaped c.1), dp_read R.same hy (SeqAt.canLay_of_shaped c.2), c.1, c.2, k Hf H (Same.refl _) (Same.refl _) R _ (Res.dat R.same rfl (by simp only [IsD]))⟩
  · rw [chk_neg c] at k; exact k.elim

noncomputable def dIxS : D → D → Out D
  | .lst ds, .int i => match atI ds i with
    | some d => .ok d
    | none => .stuck
  | .tup ds, .int i => match atI ds i with
    | some d => .ok d
    | none => .stuck
  | .scr ns, .int i => match atI ns i with
    | some n => .ok (.int n)
    | none => .stuck
  | .str z, .int i => chk (z.length ≤ sizeLine) (match atI z.cps.toList i with
    | some c => .ok (.str ⟨#[c]⟩)
    | none => .stuck)
  | _, _ => .stuck
theorem IsDs.atI {K : PySem.W.Frag} {mg : Mg} {H : Hp} {ds : List D} {vs : List V} {i : Int} {d : D} (h : IsDs K mg H ds vs) (e : atI ds i = some d) : ∃ v, atI vs i = some v ∧ IsD K mg H d v := by
  unfold L2.atI at e ⊢
  rw [h.len]
  cases q : ixN ds.length i with
  | none => rw [q] at e; cases e
  | some j =>
    rw [q] at e
    exact h.at e
end

section
variable {K : PySem.W.Frag} {mg : Mg}
def IsRs (K : PySem.W.Frag) (mg : Mg) (Hf H : Hp) : List D → List V → Prop
  | [], xs => xs = []
  | d :: ds, xs => ∃ v vs, xs = v :: vs ∧ IsR K mg Hf H d v ∧ IsRs K mg Hf H ds vs
end
structure PBx (X : Cx) (g : G) (E : WX) (Γ : List Bool) (e : List Expr) (Γ' : List Bool) (f : Env → Out (List D)) : Prop where
  le : Le Γ' Γ
  pe : PA X e (fun σ H Q => ∃ ρ Hf, Rp X.K X.mw g Γ ρ σ Hf H ∧ tG X.K X.mw g E Γ' ρ σ Hf H (fun ds Hf' H' => ∀ vs, IsRs X.K X.mw Hf' H' ds vs → Q vs H') (f ρ))
def CaD (X : Cx) (u : Value) (m : Md) (F : List D → Out D) : Prop := ∃ r, CallR X u r ∧
  ∀ g E Γ ρ σ Hf H ds vs Q, Rp X.K X.mw g Γ ρ σ Hf H → IsRs X.K X.mw Hf H ds vs → tG X.K X.mw g E Γ ρ σ Hf H (PV X g Γ ρ σ m Q) (F ds) → r vs H Q
section
variable {X : Cx} {g : G} {E : WX} {Γ Γ1 Γ2 : List Bool} {m : Md} {pos p : Pos} {a : Expr} {es : List Expr} {fa : Env → Out D} {fr : Env → Out (List D)} {x : Str} {id T : String} {F : List D → Out D}
theorem pbx_nil : PBx X g E Γ [] Γ aN := by
  refine ⟨Le.refl _, pa_nil.imp fun σ H Q ⟨ρ, Hf, R, k⟩ => ?_⟩
  exact k Hf H (Same.refl _) (Same.refl _) R [] rfl
theorem pbx_cons (ha : PX X g E Γ a Γ1 .rd fa) (hr : PBx X g E Γ1 es Γ2 fr) (hs : starEach (a :: es) X.env = (false, eval a X.env) :: starEach es X.env := by rfl) : PBx X g E Γ (a :: es) Γ2 (aC fa fr) := by
  refine ⟨hr.le.trans ha.le, (pa_cons ha.pe hr.pe hs).imp fun σ H Q ⟨ρ, Hf, R, k⟩ => ⟨ρ, Hf, R, ?_⟩⟩
  refine tG.bind hr.le k fun x F1 H1 s1 s2 R1 k1 v hv => ⟨ρ, F1, R1, ?_⟩
  refine tG.bind (Le.refl _) k1 fun ys F2 H2 s3 s4 R2 k2 us hu => ?_
  exact k2 F2 H2 (Same.refl _) (Same.refl _) R2 (v :: us) ⟨v, us, rfl, IsR.mono s3 s4 hv, hu⟩
theorem px_callB (hc : CaD X (.builtin id) m F) (hg : Gl X x) (hm : X.mg x = none) (hv : bootBuiltins x = some (.builtin id)) (ha : PBx X g E Γ (a :: es) Γ1 fr) (hn : x ≠ "__name__" := by decide) (hdb : (x == ("__debug__" : Str)) = false := by decide)
    (he : starEach (a :: es) X.env = (false, eval a X.env) :: starEach es X.env := by rfl) (hpl : (backTo pos (starEach es X.env)).any (·.1) = false := by rfl) : PX X g E Γ (.Call (.Name x p) (a :: es) [] pos) Γ1 m (eA F fr) := by
  obtain ⟨r, hr, w⟩ := hc
  refine ⟨ha.le, (pe_callB hr hg hm hv ha.pe hn hdb he hpl).imp fun σ H Q ⟨ρ, Hf, R, k⟩ => ⟨ρ, Hf, R, ?_⟩⟩
  exact tG.bind (Le.refl _) k fun ds F1 H1 s1 s2 R1 k1 vs hv => w g E Γ1 ρ σ F1 H1 ds vs Q R1 hv k1
theorem px_callT (hc : CaD X (.type T) m F) (hg : Gl X x) (hm : X.mg x = none) (hv : bootBuiltins x = some (.type T)) (ha : PBx X g E Γ (a :: es) Γ1 fr) (hn : x ≠ "__name__" := by decide) (hdb : (x == ("__debug__" : Str)) = false := by decide)
    (he : starEach (a :: es) X.env = (false, eval a X.env) :: starEach es X.env := by rfl) (hpl : (backTo pos (starEach es X.env)).any (·.1) = false := by rfl) : PX X g E Γ (.Call (.Name x p) (a :: es) [] pos) Γ1 m (eA F fr) := by
  obtain ⟨r, hr, w⟩ := hc
  refine ⟨ha.le, (pe_callTy hr hg hm hv ha.pe hn hdb he hpl).imp fun σ H Q ⟨ρ, Hf, R, k⟩ => ⟨ρ, Hf, R, ?_⟩⟩
  exact tG.bind (Le.refl _) k fun ds F1 H1 s1 s2 R1 k1 vs hv => w g E Γ1 ρ σ F1 H1 ds vs Q R1 hv k1
theorem IsRs.one {K : PySem.W.Frag} {mg : Mg} {Hf H : Hp} {d : D} {vs : List V} (h : IsRs K mg Hf H [d] vs) : ∃ v, vs = [v] ∧ IsR K mg Hf H d v := by
  obtain ⟨v, us, e, q, rfl⟩ := h
  exact ⟨v, e, q⟩
theorem IsRs.two {K : PySem.W.Frag} {mg : Mg} {Hf H : Hp} {d e : D} {vs : List V} (h : IsRs K mg Hf H [d, e] vs) : ∃ v u, vs = [v, u] ∧ IsR K mg Hf H d v ∧ IsR K mg Hf H e u := by
  obtain ⟨v, us, e1, q, u, us', e2, q2, rfl⟩ := h
  exact ⟨v, u, by rw [e1, e2], q, q2⟩
theorem px_type (hg : Gl X x) (hm : X.mg x = none) (hv : bootBuiltins x = some (.type T)) (hn : x ≠ "__name__" := by decide) (hd : (x == ("__debug__" : Str)) = false := by decide) : PX X g E Γ (.Name x pos) Γ m (eC (.ty T)) :=
  .atom (pe_bltn (v := .ty T) hg hm hv rfl hn hd) rfl fun F v e => by simpa only [IsD] using e
noncomputable def cLen : List D → Out D
  | [.lst ds] => .ok (.int ds.length)
  | [.tup ds] => .ok (.int ds.length)
  | [.scr ns] => .ok (.int ns.length)
  | [.str z] => chk (z.length ≤ sizeLine) (.ok (.int z.length))
  | _ => .stuck
theorem CallR.or {u : Value} {r r' : List V → Hp → VK → Prop} (h : CallR X u r) (h' : CallR X u r') : CallR X u (fun x H Q => r x H Q ∨ r' x H Q) := by
  intro pins s σ H xs us Q I rx q
  rcases q with q | q
  · exact h pins s σ H xs us Q I rx q
  · exact h' pins s σ H xs us Q I rx q
theorem call_len_str' : CallR X (.builtin "len") (fun xs H Q => ∃ z : Str, xs = [.str z] ∧ z.length ≤ sizeLine ∧ Q (.int z.length) H) := by
  intro pins s σ H xs us Q I r h
  obtain ⟨z, rfl, l, q⟩ := h
  exact call_len pins s σ H _ us Q I r ⟨.str z, z.length, rfl, ⟨l, rfl⟩, q⟩
theorem ca_len : CaD X (.builtin "len") m cLen := by
  refine ⟨_, call_len_seq.or call_len_str', fun g E Γ ρ σ Hf H ds vs Q R h k => ?_⟩
  unfold cLen at k
  split at k
  · rename_i ds
    obtain ⟨v, rfl, p, xs, rfl, q, r⟩ := h.one
    rw [← r.len] at k
    exact .inl ⟨p, xs, rfl, .inl (.of q), k Hf H (Same.refl _) (Same.refl _) R _ (Res.dat R.same rfl (by simp only [IsD]))⟩
  · rename_i ds
    obtain ⟨v, rfl, z⟩ := h.one
    simp only [IsR, IsD] at z
    obtain ⟨p, xs, rfl, q, r⟩ := z
    rw [← r.len] at k
    exact .inl ⟨p, xs, rfl, .inr (Same.seqT R.same q).l, k Hf H (Same.refl _) (Same.refl _) R _ (Res.dat R.same rfl (by simp only [IsD]))⟩
  · rename_i ns
    obtain ⟨v, rfl, z⟩ := h.one
    simp only [IsR, IsD] at z
    obtain ⟨p, rfl, q⟩ := z
    refine .inl ⟨p, _, rfl, .inl (R.same.seq q), ?_⟩
    rw [List.length_map]
    exact k Hf H (Same.refl _) (Same.refl _) R _ (Res.dat R.same rfl (by simp only [IsD]))
  · rename_i z
    obtain ⟨v, rfl, e⟩ := h.one
    simp only [IsR, IsD] at e
    subst e
    by_cases l : z.length ≤ sizeLine
    · rw [chk_pos l] at k
      exact .inr ⟨z, rfl, l, k Hf H (Same.refl _) (Same.refl _) R _ (Res.dat R.same rfl (by simp only [IsD]))⟩
    · rw [chk_neg l] at k; exact k.elim
  · exact k.elim
def cMax2 : List D → Out D
  | [.int i, .int j] => .ok (.int (if j > i then j else i))
  | _ => .stuck
def cMin2 : List D → Out D
  | [.int i, .int j] => .ok (.int (if j < i then j else i))
  | _ => .stuck
def cAbs : List D → Out D
  | [.int i] => .ok (.int (if i < 0 then -i else i))
  | _ => .stuck
theorem ca_abs : CaD X (.builtin "abs") m cAbs := by
  refine ⟨_, call_abs, fun g E Γ ρ σ Hf H ds vs Q R h k => ?_⟩
  unfold cAbs at k
  split at k
  · obtain ⟨v, rfl, q1⟩ := h.one
    cases q1
    exact ⟨_, rfl, k Hf H (Same.refl _) (Same.refl _) R _ (Res.dat R.same rfl (by simp only [IsD]))⟩
  · exact k.elim
def cInt : List D → Out D
  | [.int i] => .ok (.int i)
  | [.bl b] => .ok (.int (if b then 1 else 0))
  | _ => .stuck
def tyName : D → Option String
  | .non => some "NoneType"
  | .bl _ => some "bool"
  | .int _ => some "int"
  | .str _ => some "str"
  | .tup _ => some "tuple"
  | .lst _ => some "list"
  | .scr _ => some "list"
  | _ => none
def cIsi : List D → Out D
  | [d, .ty t] => match tyName d with
    | some n => match kitB n t with
      | some b => .ok (.bl b)
      | none => .stuck
    | none => .stuck
  | _ => .stuck
theorem sq_ty {H : Hp} {a : Addr} {xs : List V} {K : PySem.W.Frag} (h : SqL K H a xs) : TyX K H (.ref a) (.type "list") := by
  rcases h with (h | ⟨o, h⟩) | ⟨o, its, n, e, c, _⟩
  · exact .base (.lst h)
  · exact .base (.frz h)
  · exact .kList e c
theorem tup_ty {H : Hp} {a : Addr} {xs : List V} {K : PySem.W.Frag} (h : L2.SqT K H a xs) : TyX K H (.ref a) (.type "tuple") := by
  rcases h with (h | ⟨o, h⟩) | ⟨o, its, n, e, c, _⟩
  · exact .base (.tup h)
  · exact .fTuple h
  · exact .kTuple e c
theorem ty_of {K : PySem.W.Frag} {mg : Mg} {Hf H : Hp} {d : D} {v : V} {n : String} (s : Same Hf H) (h : IsR K mg Hf H d v) (e : tyName d = some n) : TyX K H v (.type n) := by
  cases d with
  | non => cases e; cases h; exact .base .non
  | bl b => cases e; cases h; exact .base (.bl b)
  | int i => cases e; cases h; exact .base (.int i)
  | str x => cases e; cases h; exact .base (.str x)
  | ty x => cases e
  | scr ns => cases e; simp only [IsR, IsD] at h; obtain ⟨a, rfl, q⟩ := h; exact sq_ty (s.seq q)
  | tup ds => cases e; simp only [IsR, IsD] at h; obtain ⟨a, xs, rfl, q, r⟩ := h; exact tup_ty (Same.seqT s q).l
  | lst ds => cases e; obtain ⟨a, xs, rfl, q, r⟩ := h; exact .base (.lst q)
  | dic ds => cases e
  | ins c fs => cases e
  | adr a => cases e
  | exn c fs => cases e
  | cls c => cases e
theorem ca_isi : CaD X (.builtin "isinstance") m cIsi := by
  refine ⟨_, call_isi, fun g E Γ ρ σ Hf H ds vs Q R h k => ?_⟩
  unfold cIsi at k
  split at k
  · rename_i d t
    obtain ⟨v, u, rfl, q1, q2⟩ := h.two
    cases q2
    cases e : tyName d with
    | none => rw [e] at k; exact k.elim
    | some n =>
      rw [e] at k
      simp only at k
      cases e2 : kitB n t with
      | none => rw [e2] at k; exact k.elim
      | some b =>
        rw [e2] at k
        exact ⟨v, .ty t, .type n, .type t, b, rfl, .ty t, ty_of R.same q1 e, kit_ty e2, k Hf H (Same.refl _) (Same.refl _) R _ (Res.dat R.same rfl (by simp only [IsD]))⟩
  · exact k.elim
end
end PD

namespace PD
open PySem PySem.Spec L2
open PyProof.Rows hiding St

def leB : List Bool → List Bool → Bool
  | [], _ => true
  | a :: as, [] => !a && leB as []
  | a :: as, b :: bs => (!a || b) && leB as bs
theorem le_of : ∀ {a b : List Bool}, leB a b = true → Le a b
  | [], b, _, i, h => by unfold Own at h; simp at h
  | a :: as, [], e, i, h => by
    unfold leB at e
    simp only [Bool.and_eq_true] at e
    cases i with
    | zero =>
      unfold Own at h
      have h' : a = true := by simpa using h
      rw [h'] at e
      simp at e
    | succ i =>
      have h' : Own as i := by unfold Own at h ⊢; simpa using h
      have := le_of e.2 i h'
      unfold Own at this
      simp at this
  | a :: as, b :: bs, e, i, h => by
    unfold leB at e
    simp only [Bool.and_eq_true] at e
    cases i with
    | zero =>
      unfold Own at h ⊢
      have h' : a = true := by simpa using h
      have e1 := e.1
      rw [h'] at e1
      simpa using e1
    | succ i =>
      have h' : Own as i := by unfold Own at h ⊢; simpa using h
      have := le_of e.2 i h'
      unfold Own at this ⊢
      simpa using this

theorem no_own {a : List Bool} (h : leB a [] = true) : ∀ i, ¬ Own a i := fun i o => by
  have := le_of h i o
  unfold Own at this
  simp at this
theorem nxs_nil : ∀ F ∈ ([] : List (D → Env → Out Env)), ∀ d ρ x, F d ρ ≠ .exc x := fun F h => by cases h
theorem nxs_cons {F : D → Env → Out Env} {Fs : List (D → Env → Out Env)} (h : ∀ d ρ x, F d ρ ≠ .exc x) (t : ∀ F ∈ Fs, ∀ d ρ x, F d ρ ≠ .exc x) : ∀ F' ∈ F :: Fs, ∀ d ρ x, F' d ρ ≠ .exc x := fun F' m => by
  rcases List.mem_cons.mp m with rfl | m
  · exact h
  · exact t F' m
section
variable {X : Cx} {g : G} {E : WX} {ro : Bool} {Γl Γ Γ1 Γ2 Γ3 : List Bool} {m : Md} {pos p : Pos} {x : Str} {e : Expr} {es : List Expr} {k : Nat} {ps : List Str} {F : List D → Out D} {fa : Env → Out (List D)}
theorem px_callF (C : FnA X.prog X.w X.K X.mg X.base k x ps false F) (hr : Room k X.A) (hg : Gl X x) (tk : Takes X E) (ha : PAx X g E Γ (e :: es) Γ1 fa) (hdb : (x == ("__debug__" : Str)) = false := by decide)
    (he : starEach (e :: es) X.env = (false, eval e X.env) :: starEach es X.env := by rfl) (hpl : (backTo pos (starEach es X.env)).any (·.1) = false := by rfl) : PX X g E Γ (.Call (.Name x p) (e :: es) [] pos) Γ1 .fr (eA F fa) := px_call C hr hg tk ha hdb he hpl
theorem px_callO (C : FnA X.prog X.w X.K X.mg X.base k x ps true F) (hr : Room k X.A) (hg : Gl X x) (tk : Takes X E) (ha : PAx X g E Γ (e :: es) Γ1 fa) (hdb : (x == ("__debug__" : Str)) = false := by decide)
    (he : starEach (e :: es) X.env = (false, eval e X.env) :: starEach es X.env := by rfl) (hpl : (backTo pos (starEach es X.env)).any (·.1) = false := by rfl) : PX X g E Γ (.Call (.Name x p) (e :: es) [] pos) Γ1 .ow (eA F fa) := px_call C hr hg tk ha hdb he hpl
end

theorem bb_len : bootBuiltins "len" = some (.builtin "len") := by decide +kernel
theorem bb_abs : bootBuiltins "abs" = some (.builtin "abs") := by decide +kernel
theorem bb_isinstance : bootBuiltins "isinstance" = some (.builtin "isinstance") := by decide +kernel
theorem bb_int : bootBuiltins "int" = some (.type "int") := by decide +kernel
theorem bb_bool : bootBuiltins "bool" = some (.type "bool") := by decide +kernel
theorem bb_tuple : bootBuiltins "tuple" = some (.type "tuple") := by decide +kernel
theorem bb_str : bootBuiltins "str" = some (.type "str") := by decide +kernel
theorem fnT_of {K : PySem.W.Frag} {h : Heap} {mg : Str → Option Value} {x : Str} {st : Stmt} {f : Addr} {oc : Value} {od an : Option Addr} {osl : Array (Option Value)} {kV doc pm cdv ct : Value} (X : K.In h) (G : h.Ns mainGlobals mg)
    (a : PySem.W.nsIn K mainGlobals x = some (some (.ref f))) (l : K.lookup f = some ⟨oc, od, .func (PySem.W.fnOf x x (defArgs st) (defBody st) (defScope st) .none kV doc pm an cdv ct), osl⟩)
    (c : PySem.W.codeIn K cdv x = true) (k : PySem.W.keepIn K (.ref f) = true) : FnT K mg x st :=
  ⟨⟨f, _, PySem.W.mg_of X G a, fun_mk (st := st) l c k⟩⟩
def spLaw (K : PySem.W.Frag) : Sp := fun vs H Q _ => ∃ (a : Addr) (ns : List Int), vs = [.ref a] ∧ SqL K H a (ns.map V.int) ∧ ns.length ≤ 63 ∧ (∀ z ∈ ns, Builtin.Int.intBits z ≤ 1048576) ∧ ∀ H', Q (.bl true) H'
theorem law_imp {K : PySem.W.Frag} {mg : Mg} {ro : Bool} {F : List D → Out D} (hF : ∀ ns : List Int, ns.length ≤ 63 → (∀ z ∈ ns, Builtin.Int.intBits z ≤ 1048576) → F [.scr ns] = .ok (.bl true)) (vs : List V) (H : Hp) (Q : VK) (E : XK) (h : spLaw K vs H Q E) : spD K mg ro F vs H Q E := by
  obtain ⟨a, ns, rfl, q, l, b, k⟩ := h
  refine ⟨[.scr ns], H, Same.refl _, by simp only [IsDs, IsD]; exact ⟨_, _, rfl, ⟨a, rfl, q⟩, rfl⟩, ?_⟩
  rw [hF ns l b]
  intro v Hf' H' _ _ _ _ r
  have : v = .bl true := by
    unfold RetRes at r
    cases ro <;> simpa [IsO, IsD] using r
  subst this
  exact k H'
theorem cx_no {P : Program} {w : World} {H : Hp} {s : Shared} {e : Value} {s' : Shared} (h : L2.CX P w [] H s (fun _ _ _ => False) e s') : False := by
  obtain ⟨_, _, _, _, _, _, _, _, _, _, _, _, z⟩ := h
  exact z
theorem law_end {P : Program} {w : World} {K : PySem.W.Frag} {mg : Str → Option Value} {k : Nat} {fa : Addr} {ro : Bool} {F : List D → Out D} {x : Str} {st : Stmt} (T : FnT K mg "law" st) (hfa : mg "law" = some (.ref fa))
    (hb : ∀ (kV doc pm : Value) (an : Option Addr) (cdv ct : Value) (us : List Value), us.length = 1 → bindArgs (PySem.W.fnOf "law" "law" (defArgs st) (defBody st) (defScope st) .none kV doc pm an cdv ct) ⟨us, []⟩ = pure ([x].zip us))
    (A : ∀ base : Heap, FnA P w K mg base k "law" [x] ro F)
    (hF : ∀ ns : List Int, ns.length ≤ 63 → (∀ z ∈ ns, Builtin.Int.intBits z ≤ 1048576) → F [.scr ns] = .ok (.bl true)) :
    ∃ fd : FuncData, (∀ (s : Shared) (v : Value), BindsTo s fd ⟨[v], []⟩ [(x, v)]) ∧ ∀ base : Heap, K.In base → base.Ns mainGlobals mg → FnOk P w K mg base (L2.CX P w) k fa fd [x] (spLaw K) := by
  obtain ⟨f, fd, e1, Fn⟩ := T.ex
  rw [hfa] at e1
  cases e1
  refine ⟨fd, fun s v => ?_, fun base _ _ => ?_⟩
  · obtain ⟨oc, od, kV, doc, pm, an, cdv, ct, osl, rfl, lk, hcd⟩ := Fn.ex
    exact .of_eq (hb kV doc pm an cdv ct [v] rfl)
  · obtain ⟨f', fd', e1, e2, e3, e4, oc', od', osl', lk'⟩ := (A base).ex
    rw [hfa] at e1
    cases e1
    obtain ⟨oc, od, kV, doc, pm, an, cdv, ct, osl, rfl, lk, hcd⟩ := Fn.ex
    rw [lk] at lk'
    cases lk'
    exact e4.imp (law_imp hF)
end PD

namespace PD
open PySem PySem.Spec L2
open PyProof.Rows hiding St
theorem sSeq_ap (f k : Env → SO) (ρ : Env) : sSeq f k ρ = (f ρ).andThen k := rfl
theorem sIf_ap (t : Env → Out Bool) (a b : Env → SO) (ρ : Env) : sIf t a b ρ = oS (t ρ) fun c => if c = true then a ρ else b ρ := rfl
theorem sSet_ap (i : Nat) (f : Env → Out D) (ρ : Env) : sSet i f ρ = oS (f ρ) fun d => .nx (ρ.set i (some d)) := rfl
theorem sRet_ap (f : Env → Out D) (ρ : Env) : sRet f ρ = oS (f ρ) .rt := rfl
theorem sExpr_ap (f : Env → Out D) (ρ : Env) : sExpr f ρ = oS (f ρ) fun _ => .nx ρ := rfl
theorem sAsg_ap (G : D → Env → Out Env) (f : Env → Out D) (ρ : Env) : sAsg G f ρ = oS (f ρ) fun d => oS (G d ρ) .nx := rfl
theorem sFor_ap (G : D → Env → Out Env) (it : Env → Out (List D)) (b : Env → SO) (ρ : Env) : sFor G it b ρ = oS (it ρ) fun ds => forL G b ds ρ := rfl
theorem sNx_ap (ρ : Env) : sNx ρ = .nx ρ := rfl
theorem sBk_ap (ρ : Env) : sBk ρ = .bk ρ := rfl
theorem sCt_ap (ρ : Env) : sCt ρ = .ct ρ := rfl
theorem sRetN_ap (ρ : Env) : sRetN ρ = .rt .non := rfl
theorem eC_ap (d : D) (ρ : Env) : eC d ρ = .ok d := rfl
theorem eV_0 (d : D) (ρ : Env) : eV 0 (some d :: ρ) = .ok d := rfl
theorem eV_s (i : Nat) (x : Option D) (ρ : Env) : eV (i + 1) (x :: ρ) = eV i ρ := by simp [eV]
theorem e2_ap (F : D → D → Out D) (a b : Env → Out D) (ρ : Env) : e2 F a b ρ = (a ρ).bind fun x => (b ρ).bind fun y => F x y := rfl
theorem e1_ap (F : D → Out D) (a : Env → Out D) (ρ : Env) : e1 F a ρ = (a ρ).bind F := rfl
theorem aN_ap (ρ : Env) : aN ρ = .ok [] := rfl
theorem aC_ap (a : Env → Out D) (r : Env → Out (List D)) (ρ : Env) : aC a r ρ = (a ρ).bind fun x => (r ρ).bind fun xs => .ok (x :: xs) := rfl
theorem eA_ap (F : List D → Out D) (a : Env → Out (List D)) (ρ : Env) : eA F a ρ = (a ρ).bind F := rfl
theorem tOf_ap (f : Env → Out D) (ρ : Env) : tOf f ρ = (f ρ).bind fun d => match d with
  | .bl b => .ok b
  | _ => .stuck := rfl
theorem bAnd_ap (s t : Env → Out Bool) (ρ : Env) : bAnd s t ρ = (s ρ).bind fun b => if b = true then t ρ else .ok false := rfl
theorem bOr_ap (s t : Env → Out Bool) (ρ : Env) : bOr s t ρ = (s ρ).bind fun b => if b = true then .ok true else t ρ := rfl
theorem bNot_ap (s : Env → Out Bool) (ρ : Env) : bNot s ρ = (s ρ).bind fun b => .ok (!b) := rfl
theorem vAnd_ap (a b : Env → Out D) (ρ : Env) : vAnd a b ρ = (a ρ).bind fun x => match x with
  | .bl c => if c = true then b ρ else .ok (.bl false)
  | _ => .stuck := rfl
theorem vOr_ap (a b : Env → Out D) (ρ : Env) : vOr a b ρ = (a ρ).bind fun x => match x with
  | .bl c => if c = true then .ok (.bl true) else b ρ
  | _ => .stuck := rfl
theorem vNot_ap (a : Env → Out D) (ρ : Env) : vNot a ρ = (a ρ).bind fun x => match x with
  | .bl c => .ok (.bl (!c))
  | _ => .stuck := rfl
theorem eIf_ap (t : Env → Out Bool) (a b : Env → Out D) (ρ : Env) : eIf t a b ρ = (t ρ).bind fun c => if c = true then a ρ else b ρ := rfl
theorem gN_ap (i : Nat) (d : D) (ρ : Env) : gN i d ρ = .ok (ρ.set i (some d)) := rfl
theorem gT_ap (gs : List (D → Env → Out Env)) (ds : List D) (ρ : Env) : gT gs (.tup ds) ρ = if ds.length = gs.length then (gs.zip ds).foldl (fun o p => o.bind (p.1 p.2)) (.ok ρ) else .stuck := rfl
theorem forL_cons (G : D → Env → Out Env) (b : Env → SO) (d : D) (ds : List D) (ρ : Env) : forL G b (d :: ds) ρ = oS (G d ρ) fun ρ1 => (b ρ1).turn fun r => forL G b ds r := rfl
theorem fnM_ap (n k : Nat) (b : Env → SO) (ds : List D) : fnM n k b ds = if ds.length = k then (b (ds.map some ++ List.replicate (n - k) none)).res else .stuck := rfl
theorem andThen_ite (c : Prop) [Decidable c] (a b : SO) (k : Env → SO) : (if c then a else b).andThen k = if c then a.andThen k else b.andThen k := by split <;> rfl
theorem turn_ite (c : Prop) [Decidable c] (a b : SO) (k : Env → SO) : (if c then a else b).turn k = if c then a.turn k else b.turn k := by split <;> rfl
theorem res_ite (c : Prop) [Decidable c] (a b : SO) : (if c then a else b).res = if c then a.res else b.res := by split <;> rfl
theorem bind_ite {α β : Type} (c : Prop) [Decidable c] (a b : Out α) (k : α → Out β) : (if c then a else b).bind k = if c then a.bind k else b.bind k := by split <;> rfl
theorem oS_ite {α : Type} (c : Prop) [Decidable c] (a b : Out α) (k : α → SO) : oS (if c then a else b) k = if c then oS a k else oS b k := by split <;> rfl
theorem iSeq_ap (f : Env → Out D) (ρ : Env) : iSeq f ρ = (f ρ).bind fun d => match d with
  | .lst ds => .ok ds
  | .tup ds => .ok ds
  | .scr ns => .ok (ns.map .int)
  | _ => .stuck := rfl
theorem iRange1_ap (f : Env → Out (List D)) (ρ : Env) : iRange1 f ρ = (f ρ).bind rng1 := rfl
theorem iRange2_ap (f : Env → Out (List D)) (ρ : Env) : iRange2 f ρ = (f ρ).bind rng2 := rfl
theorem mkLst_ok {ds : List D} (h : ds.length ≤ 16777216) : mkLst ds = .ok (.lst ds) := chk_pos h
theorem mkTup_ok {ds : List D} (h : ds.length ≤ 16777216) : mkTup ds = .ok (.tup ds) := chk_pos h
theorem mkTup_0 : mkTup [] = .ok (.tup []) := mkTup_ok (by simp)
theorem mkTup_1 (a : D) : mkTup [a] = .ok (.tup [a]) := mkTup_ok (by simp)
theorem mkTup_2 (a b : D) : mkTup [a, b] = .ok (.tup [a, b]) := mkTup_ok (by simp)
theorem mkTup_3 (a b c : D) : mkTup [a, b, c] = .ok (.tup [a, b, c]) := mkTup_ok (by simp)
theorem mkTup_4 (a b c d : D) : mkTup [a, b, c, d] = .ok (.tup [a, b, c, d]) := mkTup_ok (by simp)
theorem mkLst_0 : mkLst [] = .ok (.lst []) := mkLst_ok (by simp)
theorem mkLst_1 (a : D) : mkLst [a] = .ok (.lst [a]) := mkLst_ok (by simp)
theorem mkLst_2 (a b : D) : mkLst [a, b] = .ok (.lst [a, b]) := mkLst_ok (by simp)
theorem mkLst_3 (a b c : D) : mkLst [a, b, c] = .ok (.lst [a, b, c]) := mkLst_ok (by simp)
theorem mkLst_4 (a b c d : D) : mkLst [a, b, c, d] = .ok (.lst [a, b, c, d]) := mkLst_ok (by simp)
theorem dAdd_int (i j : Int) : dAdd (.int i) (.int j) = .ok (.int (i + j)) := rfl
theorem dSub_int (i j : Int) : dSub (.int i) (.int j) = .ok (.int (i - j)) := rfl
theorem dNeg_int (i : Int) : dNeg (.int i) = .ok (.int (-i)) := rfl
theorem dLe_int (i j : Int) : dLe (.int i) (.int j) = .ok (.bl (decide (i ≤ j))) := rfl
theorem dGt_int (i j : Int) : dGt (.int i) (.int j) = .ok (.bl (decide (j < i))) := rfl
theorem dEq_int (i j : Int) : dEq (.int i) (.int j) = .ok (.bl (decide (i = j))) := by
  unfold dEq
  rw [chk_pos ⟨rfl, rfl⟩]
  simp only [toPy, PyData.eqv]
  rw [Bool.beq_eq_decide_eq]
theorem dNe_int (i j : Int) : dNe (.int i) (.int j) = .ok (.bl (!decide (i = j))) := by
  unfold dNe
  rw [chk_pos ⟨rfl, rfl⟩]
  simp only [toPy, PyData.eqv]
  rw [Bool.beq_eq_decide_eq]
theorem cLen_scr (ns : List Int) : cLen [.scr ns] = .ok (.int ns.length) := rfl
theorem cLen_lst (ns : List D) : cLen [.lst ns] = .ok (.int ns.length) := rfl
theorem cLen_tup (ns : List D) : cLen [.tup ns] = .ok (.int ns.length) := rfl
theorem cInt_bl (b : Bool) : cInt [.bl b] = .ok (.int (if b then 1 else 0)) := rfl
theorem cInt_int (i : Int) : cInt [.int i] = .ok (.int i) := rfl
theorem cMax_int (i j : Int) : cMax2 [.int i, .int j] = .ok (.int (max i j)) := by
  show Out.ok (D.int (if j > i then j else i)) = _
  congr 2
  rw [Int.max_def]
  split <;> split <;> omega
theorem cMin_int (i j : Int) : cMin2 [.int i, .int j] = .ok (.int (min i j)) := by
  show Out.ok (D.int (if j < i then j else i)) = _
  congr 2
  rw [Int.min_def]
  split <;> split <;> omega
theorem cAbs_int (i : Int) : cAbs [.int i] = .ok (.int i.natAbs) := by
  show Out.ok (D.int (if i < 0 then -i else i)) = _
  congr 2
  split <;> omega
theorem cIsi_int (i : Int) : cIsi [.int i, .ty "int"] = .ok (.bl true) := rfl
theorem cIsi_int_bool (i : Int) : cIsi [.int i, .ty "bool"] = .ok (.bl false) := rfl
def Sz (n : Nat) (i : Int) : Prop := i.natAbs < 2 ^ n
theorem Sz.mono {n m : Nat} {i : Int} (h : Sz n i) (l : n ≤ m) : Sz m i := Nat.lt_of_lt_of_le h (Nat.pow_le_pow_right (by decide) l)
theorem Sz.mul {n m : Nat} {i j : Int} (h : Sz n i) (k : Sz m j) : Sz (n + m) (i * j) := by
  unfold Sz at *
  rw [Int.natAbs_mul, Nat.pow_add]
  exact Nat.mul_lt_mul'' h k
theorem Sz.add {n : Nat} {i j : Int} (h : Sz n i) (k : Sz n j) : Sz (n + 1) (i + j) := by
  unfold Sz at *
  rw [Nat.pow_succ]
  omega
theorem Sz.sub {n : Nat} {i j : Int} (h : Sz n i) (k : Sz n j) : Sz (n + 1) (i - j) := by
  unfold Sz at *
  rw [Nat.pow_succ]
  omega
theorem Sz.neg {n : Nat} {i : Int} (h : Sz n i) : Sz n (-i) := by
  unfold Sz at *
  omega
theorem dMul_int {n m : Nat} {i j : Int} (h : Sz n i) (k : Sz m j) (l : n + m ≤ 134217728) : dMul (.int i) (.int j) = .ok (.int (i * j)) := by
  exact chk_pos (mulx_ok h k l)
theorem dDiv_int {n : Nat} {i j : Int} (h : 0 < j) (k : Sz n j) (l : n ≤ 9000) : dDiv (.int i) (.int j) = .ok (.int (i / j)) := by
  refine chk_pos ?_
  cases n with
  | zero => unfold Sz at k; omega
  | succ n => exact wide_div h k (by omega) l
theorem dMod_int {i j : Int} (h : 0 < j) : dMod (.int i) (.int j) = .ok (.int (i % j)) := by
  exact chk_pos h
end PD

namespace PD
open PySem PySem.Spec L2
open PyProof.Rows hiding St

noncomputable def chkS (p : Prop) (o : SO) : SO := @ite _ p (Classical.propDecidable p) o .stuck
theorem chkS_pos {p : Prop} {o : SO} (h : p) : chkS p o = o := if_pos h
theorem chkS_neg {p : Prop} {o : SO} (h : ¬ p) : chkS p o = .stuck := if_neg h
section
variable {X : Cx} {g : G} {E : WX} {ro : Bool} {Γl Γ Γ1 Γ2 Γ3 : List Bool} {m : Md} {pos : Pos}
theorem Rp.wr {K : PySem.W.Frag} {mg : Mg} {ρ : Env} {σ : St} {Hf H : Hp} (R : Rp K mg g Γ ρ σ Hf H) {i : Nat} {d d' : D} {a : Addr} {o' : HO} (o : Own Γ i) (e : ρ[i]? = some (some d)) (md : d.mut = true) (es : σ[i]? = some (some (.ref a)))
    (z0 : g.H0 a = none) (zf : Hf a = none) (new : IsO K mg g.H0 Hf (upd H a o') d' (.ref a)) : Rp K mg g Γ (ρ.set i (some d')) σ Hf (upd H a o') := by
  have li : i < ρ.length := (List.getElem?_eq_some_iff.mp e).1
  refine ⟨fun b x q => ?_, fun b x q => ?_, R.ent2, R.news, R.len.setE _ _, fun j e' ow ej => ?_, fun j e' ow ej => ?_, fun j k e1 e2 v n o1 o2 q1 q2 m1 m2 s1 s2 => ?_⟩
  · rw [upd_ne (ne_of_none q zf)]; exact R.same _ _ q
  · rw [upd_ne (ne_of_none q z0)]; exact R.ent _ _ q
  · rcases set_get ej with ⟨rfl, _, rfl⟩ | ⟨nij, ej'⟩
    · exact ⟨_, es, new⟩
    · obtain ⟨v, ev, io⟩ := R.own j e' ow ej'
      refine ⟨v, ev, ?_⟩
      have key : ∀ b, v = .ref b → e'.mut = true → b ≠ a := fun b eb me z => by
        subst eb; subst z
        exact R.sep i j d e' _ nij o ow e ej' md me es ev
      cases e' with
      | lst ds => obtain ⟨b, xs, eb, w0, wf, q, r⟩ := io; exact ⟨b, xs, eb, w0, wf, by rw [upd_ne (key b eb rfl)]; exact q, r⟩
      | dic ds => obtain ⟨b, xs, eb, w0, wf, q, r⟩ := io; exact ⟨b, xs, eb, w0, wf, by rw [upd_ne (key b eb rfl)]; exact q, r⟩
      | ins c ds => obtain ⟨b, xs, eb, w0, wf, q, r⟩ := io; exact ⟨b, xs, eb, w0, wf, by rw [upd_ne (key b eb rfl)]; exact q, r⟩
      | _ => exact io
  · rcases set_get ej with ⟨rfl, _, rfl⟩ | ⟨nij, ej'⟩
    · exact absurd o ow
    · exact R.dat j e' ow ej'
  · rcases set_get q1 with ⟨rfl, _, rfl⟩ | ⟨n1, q1'⟩
    · rcases set_get q2 with ⟨rfl, _⟩ | ⟨n2, q2'⟩
      · exact n rfl
      · exact R.sep i k d e2 v n o1 o2 e q2' md m2 s1 s2
    · rcases set_get q2 with ⟨rfl, _, rfl⟩ | ⟨n2, q2'⟩
      · exact R.sep j i e1 d v n o1 o2 q1' e m1 md s1 s2
      · exact R.sep j k e1 e2 v n o1 o2 q1' q2' m1 m2 s1 s2
theorem IsDs.snoc {K : PySem.W.Frag} {mg : Mg} {H : Hp} {d : D} {v : V} : ∀ {ds : List D} {vs : List V}, IsDs K mg H ds vs → IsD K mg H d v → IsDs K mg H (ds ++ [d]) (vs ++ [v])
  | [], vs, h, k => by
    simp only [IsDs] at h
    subst h
    show IsDs K mg H [d] [v]
    simp only [IsDs]
    exact ⟨v, [], rfl, k, rfl⟩
  | x :: ds, vs, h, k => by
    simp only [IsDs, List.cons_append] at h ⊢
    obtain ⟨u, us, rfl, q, r⟩ := h
    exact ⟨u, us ++ [v], rfl, q, r.snoc k⟩
def onLst (i : Nat) (f : Env → Out D) (k : List D → D → Env → SO) : Env → SO := fun ρ => match ρ[i]? with
  | some (some (.lst xs)) => oS (f ρ) fun d => k xs d ρ
  | _ => .stuck
noncomputable def sApp (i : Nat) (f : Env → Out D) : Env → SO := onLst i f fun xs d ρ => chkS (xs.length < sizeLine) (.nx (ρ.set i (some (.lst (xs ++ [d])))))
theorem psx_append {i : Nat} {x : Str} {a : Expr} {p ap cp : Pos} {fa : Env → Out D} (h : PE X (.Name x p) (tVar i)) (ha : PX X g E Γ a Γ1 .fr fa) (o : Γ1.getD i false = true)
    (hbase : attributeBase (.Name x p) "append" X.env (eval (.Name x p) X.env) = eval (.Name x p) X.env := by rfl)
    (hfew : ((backTo cp (starEach (a :: []) X.env)).all (fun x => !x.1) && (backToKw cp (keywordEach [] X.env)).all (fun x => x.1.isSome)
      && decide ((a :: []).length + ([] : List Keyword).length + (if ([] : List Keyword).isEmpty then 0 else 1) < 30)) = true := by rfl)
    (hline : (ap.endLine == cp.line) = true := by rfl) (hs : starEach (a :: []) X.env = (false, eval a X.env) :: starEach [] X.env := by rfl) (hplain : (backTo cp (starEach [] X.env)).any (·.1) = false := by rfl)
    (hsw : swapsWith (.Call (.Attribute (.Name x p) "append" ap) [a] [] cp) none pos.line X.env = pure false := by rfl) :
    PSx X g E ro Γl Γ (.Expr (.Call (.Attribute (.Name x p) "append" ap) [a] [] cp) pos) Γ1 (sApp i fa) := by
  refine ⟨(ps_expr (pe_bm PySem.F.plainAttrs_list PySem.F.slot_list_append PySem.F.type_list_append mt_append h (pa_cons ha.pe pa_nil hs) hbase hfew hline hs hplain) hsw).imp fun Dn σ H ⟨ρ, Hf, R, q⟩ => ?_⟩
  unfold sApp onLst at q
  split at q
  · rename_i xs e
    simp only at q
    obtain ⟨v, es, io⟩ := R.own i _ (ha.le i o) e
    obtain ⟨p, ys, rfl, z0, zf, qH, r⟩ := io
    refine ⟨_, es, .inl ⟨rfl, ys, SqL.of qH⟩, ρ, Hf, R, ?_⟩
    refine tG.toS q fun d F1 H1 s1 s2 R1 k v hv => ?_
    obtain ⟨v', es', io'⟩ := R1.own i _ o e
    rw [es] at es'
    obtain rfl : V.ref p = v' := Option.some.inj (Option.some.inj es')
    obtain ⟨p', ys', ep, z0', zf', qH', r'⟩ := io'
    obtain rfl : p = p' := V.ref.inj ep
    by_cases l : xs.length < sizeLine
    · rw [chkS_pos l] at k
      refine ⟨p, ys', v, rfl, rfl, qH', by rw [r'.len]; exact l, ?_⟩
      exact k σ F1 _ (R1.wr o e rfl es z0' zf' ⟨p, _, rfl, z0', zf', upd_same, r'.snoc hv⟩)
    · rw [chkS_neg l] at k; exact k.elim
  · exact q.elim
def sPar (i j : Nat) (a b : Env → Out D) : Env → SO := fun ρ => oS (a ρ) fun x => oS (b ρ) fun y => .nx ((ρ.set i (some x)).set j (some y))
theorem psx_par {i j : Nat} {x y : Str} {a b : Expr} {fa fb : Env → Out D} {px py pt : Pos} {kt k2 pt2} (hc : X.calm = true) (hN : X.N.Nodup) (hi : X.N[i]? = some x) (hj : X.N[j]? = some y) (hij : i ≠ j)
    (hx : X.env.scope.names.lookup x = some .local) (hy : X.env.scope.names.lookup y = some .local) (ha : PX X g E Γ a Γ1 .fr fa) (hb : PX X g E Γ1 b Γ2 .fr fb)
    (h1 : starEach [a, b] X.env = (false, eval a X.env) :: starEach [b] X.env := by rfl) (h2 : starEach [b] X.env = (false, eval b X.env) :: starEach [] X.env := by rfl)
    (hw : swappedStores [.Tuple [.Name x px, .Name y py] kt pt] (.Tuple [a, b] k2 pt2) X.env = pure (some [x, y]) := by rfl)
    (hs : swapsWithSole [.Tuple [.Name x px, .Name y py] kt pt] (.Tuple [a, b] k2 pt2) pos.line X.env = pure false := by rfl)
    (ns : NS g i := by first | exact .inr rfl | exact .inr (by assumption) | exact .inl (by decide)) (nt : NS g j := by first | exact .inr rfl | exact .inr (by assumption) | exact .inl (by decide)) :
    PSx X g E ro Γl Γ (.Assign [.Tuple [.Name x px, .Name y py] kt pt] (.Tuple [a, b] k2 pt2) pos) ((Γ2.set i false).set j false) (sPar i j fa fb) := by
  refine ⟨(ps_par hc hN hi hj hij hx hy (pa_cons ha.pe (pa_cons hb.pe pa_nil h2) h1) hw hs).imp fun Dn σ H ⟨ρ, Hf, R, q⟩ => ⟨ρ, Hf, R, ?_⟩⟩
  unfold sPar at q
  cases hfa : fa ρ with
  | ok d1 =>
    rw [hfa] at q
    intro F1 H1 s1 s2 R1 v hv
    refine ⟨ρ, F1, R1, ?_⟩
    refine tG.toS q fun d2 F2 H2 s3 s4 R2 k u hu => ?_
    exact ⟨v, u, rfl, k _ F2 H2 ((R2.setF ns (IsD.mono s3 hv)).setF nt hu)⟩
  | exc x => rw [hfa] at q; exact fun c dd F1 H1 s1 s2 R1 ix => q c dd σ F1 H1 R1.same R1.ent R1.ent2 R1.news ix
  | stuck => rw [hfa] at q; exact q.elim
noncomputable def rng3 : List D → Out (List D)
  | [.int i, .int j, .int c] => chk (RgC i j c (Builtin.Range.rangeSize i j c).toNat) (.ok ((List.range (Builtin.Range.rangeSize i j c).toNat).map fun (n : Nat) => .int (i + n * c)))
  | _ => .stuck
noncomputable def iRange3 (f : Env → Out (List D)) : Env → Out (List D) := fun ρ => (f ρ).bind rng3
end
def eL (i : Nat) : Env → Out (List D) := fun ρ => match ρ[i]? with
  | some (some (.lst xs)) => .ok xs
  | _ => .stuck
theorem eL_0 (xs : List D) (ρ : Env) : eL 0 (some (.lst xs) :: ρ) = .ok xs := rfl
theorem eL_s (i : Nat) (x : Option D) (ρ : Env) : eL (i + 1) (x :: ρ) = eL i ρ := by simp [eL]
theorem onLst_ap (i : Nat) (f : Env → Out D) (k : List D → D → Env → SO) (ρ : Env) : onLst i f k ρ = oS (eL i ρ) fun xs => oS (f ρ) fun d => k xs d ρ := by
  unfold onLst eL
  split
  · rename_i xs e
    simp only [oS_ok]
  · rfl
theorem sApp_ap (i : Nat) (f : Env → Out D) (ρ : Env) : sApp i f ρ = oS (eL i ρ) fun xs => oS (f ρ) fun d => chkS (xs.length < sizeLine) (.nx (ρ.set i (some (.lst (xs ++ [d]))))) := onLst_ap i f _ ρ
theorem sPar_ap (i j : Nat) (a b : Env → Out D) (ρ : Env) : sPar i j a b ρ = oS (a ρ) fun x => oS (b ρ) fun y => .nx ((ρ.set i (some x)).set j (some y)) := rfl
theorem iRange3_ap (f : Env → Out (List D)) (ρ : Env) : iRange3 f ρ = (f ρ).bind rng3 := rfl
theorem gT_lst (gs : List (D → Env → Out Env)) (ds : List D) (ρ : Env) : gT gs (.lst ds) ρ = if ds.length = gs.length then (gs.zip ds).foldl (fun o p => o.bind (p.1 p.2)) (.ok ρ) else .stuck := rfl
end PD

namespace PD
open PySem PySem.Spec L2
open PyProof.Rows hiding St

structure POx (X : Cx) (g : G) (E : WX) (Γ : List Bool) (e : Option Expr) (Γ' : List Bool) (f : Env → Out (Option Int)) : Prop where
  le : Le Γ' Γ
  po : PO X e (fun σ H Q => ∃ ρ Hf, Rp X.K X.mw g Γ ρ σ Hf H ∧ tG X.K X.mw g E Γ' ρ σ Hf H (fun o _ H' => Q o H') (f ρ))
theorem _root_.L2.PO.imp {X : Cx} {e : Option Expr} {t t' : TO} (h : PO X e t) (w : ∀ σ H Q, t' σ H Q → t σ H Q) : PO X e t' :=
  ⟨fun pins s σ H Q I q => h.run pins s σ H Q I (w σ H Q q)⟩
def oN : Env → Out (Option Int) := fun _ => .ok none
def oI (f : Env → Out D) : Env → Out (Option Int) := fun ρ => (f ρ).bind fun d => match d with
  | .int i => .ok (some i)
  | _ => .stuck
def cutD {α : Type} (xs : List α) (lo hi : Option Int) : List α := (xs.drop (HT.sIx xs.length 0 lo)).take (HT.sIx xs.length xs.length hi - HT.sIx xs.length 0 lo)
noncomputable def dSl : D → Option Int → Option Int → Out D
  | .lst ds, lo, hi => .ok (.lst (cutD ds lo hi))
  | .tup ds, lo, hi => .ok (.tup (cutD ds lo hi))
  | .scr ns, lo, hi => .ok (.lst ((cutD ns lo hi).map .int))
  | .str z, lo, hi => chk (z.length ≤ sizeLine) (.ok (.str (cutS z lo hi)))
  | _, _, _ => .stuck
noncomputable def eSl (f : Env → Out D) (lo hi : Env → Out (Option Int)) : Env → Out D := fun ρ => (f ρ).bind fun x => (lo ρ).bind fun l => (hi ρ).bind fun u => dSl x l u
def pickL {α : Type} (xs : List α) (lo hi st : Option Int) : List α := (sliceRange (sliceBounds lo hi st xs.length).1 (sliceBounds lo hi st xs.length).2.1 (sliceBounds lo hi st xs.length).2.2).filterMap fun i => xs[i]?
noncomputable def dSlSt : D → Option Int → Option Int → Option Int → Out D
  | .lst ds, lo, hi, st => chk (st ≠ some 0) (.ok (.lst (pickL ds lo hi st)))
  | _, _, _, _ => .stuck
noncomputable def eSlSt (f : Env → Out D) (lo hi st : Env → Out (Option Int)) : Env → Out D := fun ρ => (f ρ).bind fun x => (lo ρ).bind fun l => (hi ρ).bind fun u => (st ρ).bind fun s => dSlSt x l u s
section
variable {K : PySem.W.Frag} {mg : Mg} {H : Hp}
theorem IsDs.drop : ∀ (n : Nat) {ds : List D} {vs : List V}, IsDs K mg H ds vs → IsDs K mg H (ds.drop n) (vs.drop n)
  | 0, _, _, h => h
  | n + 1, [], _, h => by simp only [IsDs] at h; subst h; simp [IsDs]
  | n + 1, d :: ds, _, h => by
    simp only [IsDs] at h
    obtain ⟨v, vs, rfl, q, r⟩ := h
    exact IsDs.drop n r
theorem IsDs.take : ∀ (n : Nat) {ds : List D} {vs : List V}, IsDs K mg H ds vs → IsDs K mg H (ds.take n) (vs.take n)
  | 0, _, _, h => by simp [IsDs]
  | n + 1, [], _, h => by simp only [IsDs] at h; subst h; simp [IsDs]
  | n + 1, d :: ds, _, h => by
    simp only [IsDs] at h
    obtain ⟨v, vs, rfl, q, r⟩ := h
    rw [List.take_succ_cons, List.take_succ_cons]
    simp only [IsDs]
    exact ⟨v, _, rfl, q, IsDs.take n r⟩
theorem IsDs.cut {ds : List D} {vs : List V} (h : IsDs K mg H ds vs) (lo hi : Option Int) : IsDs K mg H (cutD ds lo hi) (cutV vs lo hi) := by
  unfold cutD cutV
  rw [h.len]
  exact IsDs.take _ (IsDs.drop _ h)
theorem IsDs.pickI {ds : List D} {vs : List V} (h : IsDs K mg H ds vs) : ∀ is : List Nat, IsDs K mg H (is.filterMap fun i => ds[i]?) (is.filterMap fun i => vs[i]?)
  | [] => by simp [IsDs]
  | i :: is => by
    rw [List.filterMap_cons, List.filterMap_cons]
    cases e : ds[i]? with
    | none =>
      have e2 : vs[i]? = none := by
        rw [List.getElem?_eq_none_iff] at e ⊢
        rw [h.len]; exact e
      rw [e2]
      exact IsDs.pickI h is
    | some d =>
      obtain ⟨v, ev, q⟩ := h.at e
      rw [ev]
      simp only [IsDs]
      exact ⟨v, _, rfl, q, IsDs.pickI h is⟩
theorem IsDs.pick {ds : List D} {vs : List V} (h : IsDs K mg H ds vs) (lo hi st : Option Int) : IsDs K mg H (pickL ds lo hi st) (pickL vs lo hi st) := by
  unfold pickL
  rw [h.len]
  exact IsDs.pickI h _
end
section
variable {X : Cx} {g : G} {E : WX} {Γ Γ1 Γ2 Γ3 Γ4 : List Bool} {m : Md} {pos p2 : Pos} {a : Expr} {lo hi st : Option Expr} {fa : Env → Out D} {fl fu fs : Env → Out (Option Int)}
theorem pox_none : POx X g E Γ none Γ oN := by
  refine ⟨Le.refl _, po_none.imp fun σ H Q ⟨ρ, Hf, R, k⟩ => ?_⟩
  exact k Hf H (Same.refl _) (Same.refl _) R
theorem pox_some (h : PX X g E Γ a Γ1 .rd fa) : POx X g E Γ (some a) Γ1 (oI fa) := by
  refine ⟨h.le, (po_some h.pe).imp fun σ H Q ⟨ρ, Hf, R, k⟩ => ⟨ρ, Hf, R, ?_⟩⟩
  refine tG.bind (Le.refl _) k fun x F1 H1 s1 s2 R1 k1 v hv => ?_
  cases x with
  | int i =>
    simp only [Res, IsR, IsD] at hv
    exact ⟨i, hv, k1 F1 H1 (Same.refl _) (Same.refl _) R1⟩
  | _ => exact k1.elim
theorem px_slice (ha : PX X g E Γ a Γ1 .rd fa) (hl : POx X g E Γ1 lo Γ2 fl) (hu : POx X g E Γ2 hi Γ3 fu) : PX X g E Γ (.Subscript a (.Slice lo hi none p2) pos) Γ3 m (eSl fa fl fu) := by
  refine ⟨hu.le.trans (hl.le.trans ha.le), (pe_slice (sl_list.or (sl_tupF.or sl_str)) ha.pe hl.po hu.po).imp fun σ H Q ⟨ρ, Hf, R, k⟩ => ⟨ρ, Hf, R, ?_⟩⟩
  refine tG.bind (hu.le.trans hl.le) k fun x F1 H1 s1 s2 R1 k1 v hv => ⟨ρ, F1, R1, ?_⟩
  refine tG.bind hu.le k1 fun l F2 H2 s3 s4 R2 k2 => ⟨ρ, F2, R2, ?_⟩
  refine tG.bind (Le.refl _) k2 fun u F3 H3 s5 s6 R3 k3 => ?_
  replace hv := IsR.mono (s3.trans s5) (s4.trans s6) hv
  unfold dSl at k3
  split at k3
  · rename_i _ _ ds
    obtain ⟨p, xs, rfl, q, r⟩ := hv
    exact .inl ⟨p, xs, rfl, .of q, fun p n => pv_lst R3 (r.cut _ _) n k3⟩
  · rename_i _ _ ds
    have hv' := hv
    simp only [IsR, IsD] at hv
    obtain ⟨p, xs, rfl, q, r⟩ := hv
    refine .inr (.inl ⟨p, xs, rfl, (Same.seqT R3.same q).l, fun w => ?_, fun _ p o hd n => pv_tup hd R3 (r.cut _ _) n k3⟩)
    have e : cutD ds l u = ds := by
      unfold cutD
      rw [← r.len, w.1, w.2, List.drop_zero, Nat.sub_zero, List.take_of_length_le (by rw [r.len]; exact Nat.le_refl _)]
    rw [e] at k3
    exact k3 F3 H3 (Same.refl _) (Same.refl _) R3 _ (Res.dat R3.same rfl hv')
  · rename_i _ _ ns
    simp only [IsR, IsD] at hv
    obtain ⟨p, rfl, q⟩ := hv
    refine .inl ⟨p, _, rfl, R3.same.seq q, fun p n => pv_lst R3 ?_ n k3⟩
    have e : cutV (ns.map V.int) l u = (cutD ns l u).map V.int := by
      unfold cutV cutD
      rw [List.length_map, List.map_take, List.map_drop]
    rw [e]
    exact IsDs.ints _
  · rename_i _ _ z
    simp only [IsR, IsD] at hv
    by_cases c : z.length ≤ sizeLine
    · rw [chk_pos c] at k3
      exact .inr (.inr ⟨z, hv, c, k3 F3 H3 (Same.refl _) (Same.refl _) R3 _ (Res.dat R3.same rfl (by simp only [IsD]))⟩)
    · rw [chk_neg c] at k3; exact k3.elim
  · exact k3.elim
def cList : List D → Out D
  | [.lst ds] => .ok (.lst ds)
  | [.tup ds] => .ok (.lst ds)
  | [.scr ns] => .ok (.lst (ns.map .int))
  | _ => .stuck
def cTuple : List D → Out D
  | [.lst ds] => .ok (.tup ds)
  | [.tup ds] => .ok (.tup ds)
  | [.scr ns] => .ok (.tup (ns.map .int))
  | _ => .stuck
theorem ca_tuple : CaD X (.type "tuple") m cTuple := by
  refine ⟨_, call_tupleF, fun g E Γ ρ σ Hf H ds vs Q R h k => ?_⟩
  unfold cTuple at k
  split at k
  · obtain ⟨v, rfl, p, xs, rfl, q, r⟩ := h.one
    exact ⟨p, xs, rfl, .inl ⟨.of q, fun l o hd n => pv_tup hd R r n k⟩⟩
  · obtain ⟨v, rfl, z'⟩ := h.one
    have z := z'
    simp only [IsR, IsD] at z
    obtain ⟨p, xs, rfl, q, r⟩ := z
    exact ⟨p, xs, rfl, .inr ⟨(Same.seqT R.same q).l, k Hf H (Same.refl _) (Same.refl _) R _ (Res.dat R.same rfl z')⟩⟩
  · obtain ⟨v, rfl, z⟩ := h.one
    simp only [IsR, IsD] at z
    obtain ⟨p, rfl, q⟩ := z
    exact ⟨p, _, rfl, .inl ⟨R.same.seq q, fun l o hd n => pv_tup hd R (IsDs.ints _) n k⟩⟩
  · exact k.elim
def intsD : List D → Option (List Int)
  | [] => some []
  | .int i :: ds => (intsD ds).map (i :: ·)
  | _ => none
def blsD : List D → Option (List Bool)
  | [] => some []
  | .bl i :: ds => (blsD ds).map (i :: ·)
  | _ => none
theorem ints_of {K : PySem.W.Frag} {mg : Mg} {H : Hp} : ∀ {ds : List D} {ns : List Int} {vs : List V}, intsD ds = some ns → IsDs K mg H ds vs → vs = ns.map V.int
  | [], _, _, e, h => by cases e; simp only [IsDs] at h; exact h
  | .int i :: ds, _, _, e, h => by
    unfold intsD at e
    obtain ⟨ms, e1, e2⟩ := Option.map_eq_some_iff.mp e
    simp only [IsDs, IsD] at h
    obtain ⟨v, vs, rfl, rfl, r⟩ := h
    rw [← e2, List.map_cons, ints_of e1 r]
  | .non :: _, _, _, e, _ => nomatch e
  | .bl _ :: _, _, _, e, _ => nomatch e
  | .str _ :: _, _, _, e, _ => nomatch e
  | .ty _ :: _, _, _, e, _ => nomatch e
  | .scr _ :: _, _, _, e, _ => nomatch e
  | .tup _ :: _, _, _, e, _ => nomatch e
  | .lst _ :: _, _, _, e, _ => nomatch e
  | .dic _ :: _, _, _, e, _ => nomatch e
  | .ins _ _ :: _, _, _, e, _ => nomatch e
  | .adr _ :: _, _, _, e, _ => nomatch e
  | .exn _ _ :: _, _, _, e, _ => nomatch e
  | .cls _ :: _, _, _, e, _ => nomatch e
theorem bls_of {K : PySem.W.Frag} {mg : Mg} {H : Hp} : ∀ {ds : List D} {ns : List Bool} {vs : List V}, blsD ds = some ns → IsDs K mg H ds vs → vs = ns.map V.bl
  | [], _, _, e, h => by cases e; simp only [IsDs] at h; exact h
  | .bl i :: ds, _, _, e, h => by
    unfold blsD at e
    obtain ⟨ms, e1, e2⟩ := Option.map_eq_some_iff.mp e
    simp only [IsDs, IsD] at h
    obtain ⟨v, vs, rfl, rfl, r⟩ := h
    rw [← e2, List.map_cons, bls_of e1 r]
  | .non :: _, _, _, e, _ => nomatch e
  | .int _ :: _, _, _, e, _ => nomatch e
  | .str _ :: _, _, _, e, _ => nomatch e
  | .ty _ :: _, _, _, e, _ => nomatch e
  | .scr _ :: _, _, _, e, _ => nomatch e
  | .tup _ :: _, _, _, e, _ => nomatch e
  | .lst _ :: _, _, _, e, _ => nomatch e
  | .dic _ :: _, _, _, e, _ => nomatch e
  | .ins _ _ :: _, _, _, e, _ => nomatch e
  | .adr _ :: _, _, _, e, _ => nomatch e
  | .exn _ _ :: _, _, _, e, _ => nomatch e
  | .cls _ :: _, _, _, e, _ => nomatch e
def cSum : List D → Out D
  | [.lst ds] => match intsD ds with
    | some ns => .ok (.int ns.sum)
    | none => .stuck
  | _ => .stuck
theorem ca_sum (hc : X.calm = true) : CaD X (.builtin "sum") m cSum := by
  refine ⟨_, cr_sum hc, fun g E Γ ρ σ Hf H ds vs Q R h k => ?_⟩
  unfold cSum at k
  split at k
  · rename_i ds
    obtain ⟨v, rfl, p, xs, rfl, q, r⟩ := h.one
    cases e : intsD ds with
    | none => rw [e] at k; exact k.elim
    | some ns =>
      rw [e] at k
      have := ints_of e r
      subst this
      exact ⟨p, ns, rfl, .of q, k Hf H (Same.refl _) (Same.refl _) R _ (Res.dat R.same rfl (by simp only [IsD]))⟩
  · exact k.elim
def cAll : List D → Out D
  | [.lst ds] => match blsD ds with
    | some ns => .ok (.bl (ns.all id))
    | none => .stuck
  | _ => .stuck
theorem ca_all (hc : X.calm = true) : CaD X (.builtin "all") m cAll := by
  refine ⟨_, cr_all hc, fun g E Γ ρ σ Hf H ds vs Q R h k => ?_⟩
  unfold cAll at k
  split at k
  · rename_i ds
    obtain ⟨v, rfl, p, xs, rfl, q, r⟩ := h.one
    cases e : blsD ds with
    | none => rw [e] at k; exact k.elim
    | some ns =>
      rw [e] at k
      have := bls_of e r
      subst this
      exact ⟨p, ns, rfl, .of q, k Hf H (Same.refl _) (Same.refl _) R _ (Res.dat R.same rfl (by simp only [IsD]))⟩
  · exact k.elim
def eS2 (F : Str → Str → D) (fa fb : Env → Out D) : Env → Out D := fun ρ => (fa ρ).bind fun x => match x with
  | .str a => (fb ρ).bind fun y => match y with
    | .str b => .ok (F a b)
    | _ => .stuck
  | _ => .stuck
end
end PD

namespace PD
open PySem PySem.Spec L2
open PyProof.Rows hiding St

def wipeE (ρ : Env) : List Nat → Env
  | [] => ρ
  | v :: vs => (wipeE ρ vs).set v none
def Out.nox {α : Type} (o : Out α) : Out α := match o with
  | .exc _ => .stuck
  | o => o
@[simp] theorem nox_ok {α : Type} (a : α) : (Out.ok a).nox = .ok a := rfl
@[simp] theorem nox_stuck {α : Type} : (Out.stuck : Out α).nox = .stuck := rfl
@[simp] theorem nox_exc {α : Type} (x : Exn) : (Out.exc x : Out α).nox = .stuck := rfl
def lcL (G : D → Env → Out Env) (tt : Env → Out Bool) (f : Env → Out D) (ρ : Env) : List D → Out (List D)
  | [] => .ok []
  | d :: ds => (G d ρ).nox.bind fun ρ1 => (tt ρ1).nox.bind fun b => if b = true then (f ρ1).nox.bind fun y => (lcL G tt f ρ ds).bind fun ys => .ok (y :: ys) else lcL G tt f ρ ds
noncomputable def eLc (vs : List Nat) (G : D → Env → Out Env) (it : Env → Out (List D)) (tt : Env → Out Bool) (f : Env → Out D) : Env → Out D := fun ρ => (it ρ).bind fun ds => chk (ds.length ≤ sizeLine) ((lcL G tt f (wipeE ρ vs) ds).bind fun ys => .ok (.lst ys))
def bYes : Env → Out Bool := fun _ => .ok true
theorem lcL_nx {G : D → Env → Out Env} {tt : Env → Out Bool} {f : Env → Out D} {ρ : Env} : ∀ (ds : List D) (x : Exn), lcL G tt f ρ ds ≠ .exc x
  | [], x, h => by cases h
  | d :: ds, x, h => by
    unfold lcL at h
    cases hG : G d ρ with
    | exc y => rw [hG] at h; cases h
    | stuck => rw [hG] at h; cases h
    | ok ρ1 =>
      rw [hG] at h
      simp only [nox_ok, Out.bind_ok] at h
      cases ht : tt ρ1 with
      | exc y => rw [ht] at h; cases h
      | stuck => rw [ht] at h; cases h
      | ok b =>
        rw [ht] at h
        simp only [nox_ok, Out.bind_ok] at h
        cases b with
        | false => simp only [Bool.false_eq_true, if_false] at h; exact lcL_nx ds x h
        | true =>
          simp only [if_true] at h
          cases hf : f ρ1 with
          | exc y => rw [hf] at h; cases h
          | stuck => rw [hf] at h; cases h
          | ok y =>
            rw [hf] at h
            simp only [nox_ok, Out.bind_ok] at h
            cases hl : lcL G tt f ρ ds with
            | ok ys => rw [hl] at h; cases h
            | exc z => exact lcL_nx ds z hl
            | stuck => rw [hl] at h; cases h
theorem lcL_ok {G : D → Env → Out Env} {tt : Env → Out Bool} {f : Env → Out D} {ρ : Env} {d : D} {ds rest : List D} (h : lcL G tt f ρ (d :: ds) = .ok rest) :
    ∃ ρ1 b, G d ρ = .ok ρ1 ∧ tt ρ1 = .ok b ∧ ((b = true ∧ ∃ y ys, f ρ1 = .ok y ∧ lcL G tt f ρ ds = .ok ys ∧ rest = y :: ys) ∨ (b = false ∧ lcL G tt f ρ ds = .ok rest)) := by
  unfold lcL at h
  cases hG : G d ρ with
  | exc y => rw [hG] at h; cases h
  | stuck => rw [hG] at h; cases h
  | ok ρ1 =>
    rw [hG] at h
    simp only [nox_ok, Out.bind_ok] at h
    cases ht : tt ρ1 with
    | exc y => rw [ht] at h; cases h
    | stuck => rw [ht] at h; cases h
    | ok b =>
      rw [ht] at h
      simp only [nox_ok, Out.bind_ok] at h
      refine ⟨ρ1, b, rfl, ht, ?_⟩
      cases b with
      | false => simp only [Bool.false_eq_true, if_false] at h; exact .inr ⟨rfl, h⟩
      | true =>
        simp only [if_true] at h
        cases hf : f ρ1 with
        | exc y => rw [hf] at h; cases h
        | stuck => rw [hf] at h; cases h
        | ok y =>
          rw [hf] at h
          simp only [nox_ok, Out.bind_ok] at h
          cases hl : lcL G tt f ρ ds with
          | ok ys => rw [hl] at h; cases h; exact .inl ⟨rfl, y, ys, rfl, rfl, rfl⟩
          | exc z => rw [hl] at h; cases h
          | stuck => rw [hl] at h; cases h
theorem wipeE_at {ρ : Env} {i : Nat} {d : D} : ∀ {vs : List Nat}, (wipeE ρ vs)[i]? = some (some d) → ρ[i]? = some (some d) ∧ i ∉ vs
  | [], h => ⟨h, by simp⟩
  | v :: vs, h => by
    unfold wipeE at h
    by_cases hi : v = i
    · subst hi
      by_cases hv : v < (wipeE ρ vs).length
      · rw [List.getElem?_set_self hv] at h; cases h
      · rw [List.getElem?_eq_none (by simpa using hv)] at h; cases h
    · rw [List.getElem?_set_ne hi] at h
      obtain ⟨h1, h2⟩ := wipeE_at h
      exact ⟨h1, by simp only [List.mem_cons, not_or]; exact ⟨fun e => hi e.symm, h2⟩⟩
theorem wipeE_ne {ρ : Env} {i : Nat} : ∀ {vs : List Nat}, i ∉ vs → (wipeE ρ vs)[i]? = ρ[i]?
  | [], _ => rfl
  | v :: vs, h => by
    simp only [List.mem_cons, not_or] at h
    unfold wipeE
    rw [List.getElem?_set_ne (fun e => h.1 e.symm), wipeE_ne h.2]
theorem wipeE_len {ρ : Env} : ∀ vs : List Nat, (wipeE ρ vs).length = ρ.length
  | [] => rfl
  | v :: vs => by unfold wipeE; rw [List.length_set, wipeE_len vs]
theorem wipe_ne {σ : St} {i : Nat} : ∀ {vs : List Nat}, i ∉ vs → (wipe σ vs)[i]? = σ[i]?
  | [], _ => rfl
  | v :: vs, h => by
    simp only [List.mem_cons, not_or] at h
    unfold wipe
    rw [List.getElem?_set_ne (fun e => h.1 e.symm), wipe_ne h.2]
theorem wipe_in {σ σ' : St} (l : σ'.length = σ.length) {i : Nat} : ∀ {vs : List Nat}, i ∈ vs → (wipe σ' vs)[i]? = (wipe σ vs)[i]?
  | v :: vs, h => by
    unfold wipe
    by_cases e : v = i
    · subst e
      rw [List.getElem?_set, List.getElem?_set, if_pos rfl, if_pos rfl, wipe_length, wipe_length, l]
    · rw [List.getElem?_set_ne e, List.getElem?_set_ne e]
      rcases List.mem_cons.mp h with h | h
      · exact absurd h.symm e
      · exact wipe_in l h
theorem wipe_same {σ σ' : St} {vs : List Nat} (l : σ'.length = σ.length) (h : ∀ i, i ∉ vs → σ'[i]? = (wipe σ vs)[i]?) : wipe σ' vs = wipe σ vs := by
  refine List.ext_getElem? fun i => ?_
  by_cases m : i ∈ vs
  · exact wipe_in l m
  · rw [wipe_ne m, h i m]
section
variable {K : PySem.W.Frag} {mg : Mg} {g g' : G} {Γ : List Bool} {ρ ρ1 : Env} {σ σ2 : St} {Hf H Hf' H' : Hp} {vs : List Nat}
theorem Rp.wipe (R : Rp K mg g Γ ρ σ Hf H) (vs : List Nat) : Rp K mg ⟨g.H0, g.F0, none⟩ Γ (wipeE ρ vs) (L2.wipe σ vs) Hf H := by
  have s : ∀ {i d v}, (wipeE ρ vs)[i]? = some (some d) → σ[i]? = v → (L2.wipe σ vs)[i]? = v := fun {i d v} e e2 => by rw [wipe_ne (wipeE_at e).2]; exact e2
  have s' : ∀ {i v}, (L2.wipe σ vs)[i]? = some (some v) → σ[i]? = some (some v) := fun {i v} e => (wipe_some e).1
  refine ⟨R.same, R.ent, R.ent2, R.news, ⟨by rw [wipe_length, wipeE_len, R.len.1], fun a e => by cases e⟩, fun i d o e => ?_, fun i d o e => ?_, fun i j d e v n o1 o2 e1 e2 m1 m2 s1 s2 => ?_⟩
  · obtain ⟨v, ev, h⟩ := R.own i d o (wipeE_at e).1
    exact ⟨v, s e ev, h⟩
  · obtain ⟨v, ev, h⟩ := R.dat i d o (wipeE_at e).1
    exact ⟨v, s e ev, h⟩
  · exact R.sep i j d e v n o1 o2 (wipeE_at e1).1 (wipeE_at e2).1 m1 m2 (s' s1) (s' s2)
theorem Rp.unwipe (R : Rp K mg g Γ ρ σ Hf H) (R' : Rp K mg g' Γ ρ1 σ2 Hf' H') (s1 : Same Hf Hf') (s2 : Same H H') (ef : g'.F0 = Hf) (eh : ∀ a, g'.H0 a = none → g.H0 a = none) (a1 : ∀ i, i ∉ vs → ρ1[i]? = ρ[i]?) (a2 : ∀ i, i ∉ vs → σ2[i]? = σ[i]?)
    (no : ∀ i ∈ vs, ¬ Own Γ i) : Rp K mg g Γ ρ σ Hf' H' := by
  refine ⟨R'.same, R.ent.trans s2, R.ent2.trans s1, fun a o e => ?_, R.len, fun i d o e => ?_, fun i d o e => ?_, R.sep⟩
  · rcases R'.news a o e with z | z
    · rw [ef] at z; exact R.news a o z
    · exact .inr (eh a z)
  · have ni : i ∉ vs := fun z => no i z o
    obtain ⟨v, ev, h⟩ := R'.own i d o (by rw [a1 i ni]; exact e)
    rw [a2 i ni] at ev
    refine ⟨v, ev, ?_⟩
    cases d with
    | lst ds => obtain ⟨a, xs, e, z0, zf, q, r⟩ := h; exact ⟨a, xs, e, eh a z0, zf, q, r⟩
    | dic ds => obtain ⟨a, xs, e, z0, zf, q, r⟩ := h; exact ⟨a, xs, e, eh a z0, zf, q, r⟩
    | ins c ds => obtain ⟨a, xs, e, z0, zf, q, r⟩ := h; exact ⟨a, xs, e, eh a z0, zf, q, r⟩
    | _ => exact h
  · obtain ⟨v, ev, h⟩ := R.dat i d o e
    exact ⟨v, ev, h.mono s1⟩
theorem Rp.other (R : Rp K mg g Γ ρ σ Hf H) {a : Addr} {o' : HO} (z0 : g.H0 a = none) (zf : Hf a = none) (ap : ∀ i e, Own Γ i → ρ[i]? = some (some e) → e.mut = true → σ[i]? = some (some (.ref a)) → False) : Rp K mg g Γ ρ σ Hf (upd H a o') := by
  refine ⟨fun b x q => ?_, fun b x q => ?_, R.ent2, R.news, R.len, fun j e' ow ej => ?_, R.dat, R.sep⟩
  · rw [upd_ne (ne_of_none q zf)]; exact R.same _ _ q
  · rw [upd_ne (ne_of_none q z0)]; exact R.ent _ _ q
  · obtain ⟨v, ev, io⟩ := R.own j e' ow ej
    refine ⟨v, ev, ?_⟩
    cases e' with
    | lst ds => obtain ⟨b, xs, eb, w0, wf, q, r⟩ := io; exact ⟨b, xs, eb, w0, wf, by rw [upd_ne (fun z => by subst eb; subst z; exact ap j _ ow ej rfl ev)]; exact q, r⟩
    | dic ds => obtain ⟨b, xs, eb, w0, wf, q, r⟩ := io; exact ⟨b, xs, eb, w0, wf, by rw [upd_ne (fun z => by subst eb; subst z; exact ap j _ ow ej rfl ev)]; exact q, r⟩
    | ins c ds => obtain ⟨b, xs, eb, w0, wf, q, r⟩ := io; exact ⟨b, xs, eb, w0, wf, by rw [upd_ne (fun z => by subst eb; subst z; exact ap j _ ow ej rfl ev)]; exact q, r⟩
    | _ => exact io
theorem Rp.enter (R : Rp K mg g Γ ρ σ Hf H) {a : Addr} {o : HO} (z0 : g.H0 a = none) (e : H a = some o) (ap : ∀ i e, Own Γ i → ρ[i]? = some (some e) → e.mut = true → σ[i]? = some (some (.ref a)) → False) : Rp K mg ⟨upd g.H0 a o, Hf, none⟩ Γ ρ σ Hf H := by
  refine ⟨R.same, fun b x q => ?_, Same.refl _, fun b x q => .inl q, ⟨R.len.1, fun b e => by cases e⟩, fun j e' ow ej => ?_, R.dat, R.sep⟩
  · by_cases h : b = a
    · subst h
      have q' : upd g.H0 b o b = some x := q
      rw [upd_same] at q'
      rw [e, q']
    · have q' : upd g.H0 a o b = some x := q
      rw [upd_ne h] at q'
      exact R.ent _ _ q'
  · obtain ⟨v, ev, io⟩ := R.own j e' ow ej
    refine ⟨v, ev, ?_⟩
    cases e' with
    | lst ds => obtain ⟨b, xs, eb, w0, wf, q, r⟩ := io; exact ⟨b, xs, eb, (upd_ne (fun z => by subst eb; subst z; exact ap j _ ow ej rfl ev)).trans w0, wf, q, r⟩
    | dic ds => obtain ⟨b, xs, eb, w0, wf, q, r⟩ := io; exact ⟨b, xs, eb, (upd_ne (fun z => by subst eb; subst z; exact ap j _ ow ej rfl ev)).trans w0, wf, q, r⟩
    | ins c ds => obtain ⟨b, xs, eb, w0, wf, q, r⟩ := io; exact ⟨b, xs, eb, (upd_ne (fun z => by subst eb; subst z; exact ap j _ ow ej rfl ev)).trans w0, wf, q, r⟩
    | _ => exact io
end
structure PTsx (X : Cx) (g : G) (E : WX) (Γ : List Bool) (e : List Expr) (Γ' : List Bool) (f : Env → Out Bool) : Prop where
  le : Le Γ' Γ
  pe : PTs X e (fun σ H Q => ∃ ρ Hf, Rp X.K X.mw g Γ ρ σ Hf H ∧ tG X.K X.mw g E Γ' ρ σ Hf H (fun b _ H' => Q b H') (f ρ))
theorem _root_.L2.PTs.imp {X : Cx} {e : List Expr} {t t' : TT} (h : PTs X e t) (w : ∀ σ H Q, t' σ H Q → t σ H Q) : PTs X e t' :=
  ⟨fun pins s σ H Q I q => h.run pins s σ H Q I (w σ H Q q)⟩
abbrev E0 : WX := fun _ _ _ _ => False
section
variable {X : Cx} {g : G} {E : WX} {Γ Γ1 Γ2 : List Bool} {pos : Pos}
theorem ptsx_nil : PTsx X g E Γ [] Γ bYes := by
  refine ⟨Le.refl _, pts_nil.imp fun σ H Q ⟨ρ, Hf, R, k⟩ => ?_⟩
  exact k Hf H (Same.refl _) (Same.refl _) R
theorem ptsx_one {c : Expr} {f : Env → Out Bool} (h : PTx X g E Γ c Γ1 f) : PTsx X g E Γ [c] Γ1 f := ⟨h.le, pts_one h.pe⟩
abbrev hG (X : Cx) (Γ2 : List Bool) (G' : D → Env → Out Env) (ws : List Nat) : TG := fun v σ H Q => ∃ (g : G), ∃ d ρ Hf, Rp X.K X.mw g Γ2 ρ σ Hf H ∧ IsD X.K X.mw Hf d v ∧ ∃ ρ', G' d ρ = .ok ρ' ∧ ∀ σ', (∀ i, i ∉ ws → σ'[i]? = σ[i]?) → Rp X.K X.mw g Γ2 ρ' σ' Hf H → Q σ' H
abbrev hT (X : Cx) (Γ2 : List Bool) (tt : Env → Out Bool) : TT := fun σ H Q => ∃ (g : G), ∃ ρ Hf, Rp X.K X.mw g Γ2 ρ σ Hf H ∧ tG X.K X.mw g E0 Γ2 ρ σ Hf H (fun b _ H' => Q b H') (tt ρ)
abbrev hE (X : Cx) (Γ2 : List Bool) (f : Env → Out D) : TE := fun σ H Q => ∃ (g : G), ∃ ρ Hf, Rp X.K X.mw g Γ2 ρ σ Hf H ∧ tG X.K X.mw g E0 Γ2 ρ σ Hf H (PV X g Γ2 ρ σ .fr Q) (f ρ)
theorem lc_read {tg iter : Expr} {vs : List Nat} {it : Env → Out (List D)} {G' : D → Env → Out Env} {tt : Env → Out Bool} {f : Env → Out D} {ws : List Nat} (le : Le Γ2 Γ1) (no : ∀ i ∈ vs, ¬ Own Γ2 i) (hws : ∀ i ∈ ws, i ∈ vs)
    (AG : ∀ d ρ ρ', G' d ρ = .ok ρ' → (∀ i, i ∉ ws → ρ'[i]? = ρ[i]?) ∧ ρ'.length = ρ.length) {σ : St} {H : Hp} {Q : VK} {ρ : Env} {Hf : Hp} (R : Rp X.K X.mw g Γ ρ σ Hf H) {P : Env → St → Hp → Prop} (hP : P ρ σ Hf)
    (q : tG X.K X.mw g E Γ2 ρ σ Hf H (PV X g Γ2 ρ σ .ow Q) (eLc vs G' it tt f ρ)) :
    tLc (fun σ H R => ∃ ρ Hf, Rp X.K X.mw g Γ ρ σ Hf H ∧ P ρ σ Hf ∧ tG X.K X.mw g E Γ1 ρ σ Hf H (fun ds Hf' H' => ∀ J, Walks X.K X.mw g.H0 J Hf' ds → R J H') (it ρ)) (hG X Γ2 G' ws) (hT X Γ2 tt) (hE X Γ2 f) vs σ H Q := by
  refine ⟨ρ, Hf, R, hP, ?_⟩
  refine tG.bind le q fun ds F1 H1 s1 s2 R1 k J wk D nD => ?_
  refine (Classical.em (ds.length ≤ sizeLine)).elim (fun hz => ?_) (fun hz => by rw [chk_neg hz] at k; exact k.elim)
  rw [chk_pos hz] at k
  cases hl : lcL G' tt f (wipeE ρ (vs)) ds with
  | exc x => exact absurd hl (lcL_nx ds x)
  | stuck => rw [hl] at k; exact k.elim
  | ok total =>
  rw [hl] at k
  simp only [Out.bind_ok] at k
  obtain ⟨F2, s3, R2, _⟩ := R1.frz le
  have zf : F2 D = none := R2.same.free nD
  obtain ⟨t2, R3, n0, nf, ap⟩ := R2.newO (.lst []) nD
  refine ⟨fun i m H => m = ds.length - i ∧ i ≤ ds.length ∧ ∃ (acc : List V) (accD : List PD.D) (Hf : Hp) (rest : List PD.D), H D = some (.lst acc) ∧ IsDs X.K X.mw Hf accD acc ∧ Hf D = none ∧ lcL G' tt f (wipeE ρ (vs)) (ds.drop i) = .ok rest ∧ accD ++ rest = total ∧
      accD.length ≤ i ∧ Same F2 Hf ∧ Same H1 H ∧ Rp X.K X.mw g Γ2 ρ σ Hf H, ⟨ds.length, by simp, Nat.zero_le _, [], [], F2, total, upd_same, by simp only [IsDs], zf, hl, rfl, Nat.zero_le _, Same.refl _, t2, R3⟩, ?_⟩
  rintro i m H ⟨rfl, hi', acc, accD, Hf, rest, eD, ia, fD, er, et, la, sF, sH, RR⟩
  have RE := RR.enter n0 eD ap
  by_cases hlt : i < ds.length
  · have ed : ds[i]? = some ds[i] := by simp [hlt]
    have hd : ds.drop i = ds[i] :: ds.drop (i + 1) := List.drop_eq_getElem_cons hlt
    rw [hd] at er
    obtain ⟨ρ1, b, e1, e2, e3⟩ := lcL_ok er
    obtain ⟨go, yl⟩ := (wk _ Γ2 ρ σ Hf H (s3.trans sF) RE i).1 _ ed
    refine .inr ⟨go, fun H' => ∃ (acc : List V) (accD : List PD.D) (Hf : Hp) (rest : List PD.D), H' D = some (.lst acc) ∧ IsDs X.K X.mw Hf accD acc ∧ Hf D = none ∧ lcL G' tt f (wipeE ρ (vs)) (ds.drop (i + 1)) = .ok rest ∧ accD ++ rest = total ∧
      accD.length ≤ i + 1 ∧ Same F2 Hf ∧ Same H1 H' ∧ Rp X.K X.mw g Γ2 ρ σ Hf H', fun H' z => ⟨ds.length - (i + 1), by omega, rfl, hlt, z⟩, fun x H' y => ?_⟩
    obtain ⟨Hf3, s4, s5, R4, hx⟩ := yl x H' y
    refine ⟨_, ds[i], _, Hf3, R4.wipe (vs), hx, ρ1, e1, fun σ2 a2 R5 => ?_⟩
    have hlen : σ2.length = (L2.wipe σ (vs)).length := by
      rw [R5.len.1, (R4.wipe (vs)).len.1, (AG _ _ _ e1).2]
    have ag1 : ∀ j, j ∉ vs → ρ1[j]? = ρ[j]? := fun j nj => by
      rw [(AG _ _ _ e1).1 j fun z => nj (hws j z), wipeE_ne nj]
    have ag2 : ∀ j, j ∉ vs → σ2[j]? = σ[j]? := fun j nj => by
      rw [a2 j fun z => nj (hws j z), wipe_ne nj]
    refine ⟨wipe_same (by rw [hlen, wipe_length]) fun j nj => by rw [ag2 j nj, wipe_ne nj], _, ρ1, Hf3, R5, ?_⟩
    rw [e2]
    intro Hf4 H4 s6 s7 R6
    have back : ∀ {Hf5 H5 : Hp}, Same Hf3 Hf5 → Same H' H5 → Rp X.K X.mw ⟨upd g.H0 D (.lst acc), Hf, none⟩ Γ2 ρ1 σ2 Hf5 H5 → Rp X.K X.mw g Γ2 ρ σ Hf5 H5 ∧ Hf5 D = none ∧ H5 D = some (.lst acc) := fun {Hf5 H5} u1 u2 R7 => by
      refine ⟨RR.unwipe R7 (s4.trans u1) (s5.trans u2) rfl (fun c zc => ?_) ag1 ag2 no, ?_, R7.ent D _ upd_same⟩
      · by_cases h : c = D
        · subst h; exact n0
        · have zc' : upd g.H0 D (.lst acc) c = none := zc
          rw [upd_ne h] at zc'; exact zc'
      · cases h : Hf5 D with
        | none => rfl
        | some o =>
          rcases R7.news D o h with z | z
          · have z' : Hf D = some o := z
            rw [fD] at z'; cases z'
          · have z' : upd g.H0 D (.lst acc) D = none := z
            rw [upd_same] at z'; cases z'
    rcases e3 with ⟨rfl, yd, ys, e4, e5, e6⟩ | ⟨rfl, e4⟩
    · refine Eq.mpr (if_pos rfl) ?_
      refine ⟨_, ρ1, Hf4, R6, ?_⟩
      rw [e4]
      intro Hf5 H5 s8 s9 R7 yv hy
      obtain ⟨R8, f5, eD5⟩ := back (s6.trans s8) (s7.trans s9) R7
      have la2 : acc.length < sizeLine := by rw [ia.len]; omega
      refine ⟨acc, eD5, la2, acc ++ [yv], accD ++ [yd], Hf5, ys, upd_same, ?_, f5, e5, by rw [← et, e6]; simp, by simp; omega, sF.trans (s4.trans (s6.trans s8)), ?_, R8.other n0 f5 ap⟩
      · exact (IsDs.mono (s4.trans (s6.trans s8)) ia).snoc hy
      · intro c o ec
        rw [upd_ne (ne_of_none ec nD)]
        exact (sH.trans (s5.trans (s7.trans s9))) _ _ ec
    · obtain ⟨R8, f5, eD5⟩ := back s6 s7 R6
      refine Eq.mpr (if_neg Bool.false_ne_true) ?_
      exact ⟨acc, accD, Hf4, rest, eD5, IsDs.mono (s4.trans s6) ia, f5, e4, et, by omega, sF.trans (s4.trans s6), sH.trans (s5.trans s7), R8⟩
  · have e : i = ds.length := by omega
    subst e
    refine .inl ⟨(wk _ Γ2 ρ σ Hf H (s3.trans sF) RE _).2 (Nat.le_refl _), ?_⟩
    rw [List.drop_length] at er
    cases er
    rw [List.append_nil] at et
    subst et
    exact k Hf H (s3.trans sF) sH RR (.ref D) ⟨⟨D, acc, rfl, n0, fD, eD, ia⟩, fun i e ow e1 m _ e2 => ap i e ow e1 m e2⟩

theorem px_lc {elt tg iter : Expr} {ifs : List Expr} {scope : Scope} {own : List (Str × Nat)} {it : Env → Out (List D)} {G' : D → Env → Out Env} {tt : Env → Out Bool} {f : Env → Out D} {ws : List Nat}
    (hc : X.calm = true) (hN : X.N.Nodup) (hi : PIx X g E Γ tg iter Γ1 it) (le : Le Γ2 Γ1) (no : ∀ i ∈ own.map (·.2), ¬ Own Γ2 i) (ok : BlkOk X.N X.env.scope scope own)
    (hg : ∀ (g : G) (s : Shared) (H : Hp) (C : Addr) (cl : List (Str × Addr)) (fp : List Addr), PGx (X.blk s H scope (compEnvC scope cl C X.env) fp) g Γ2 tg Γ2 G' ws) (hws : ∀ i ∈ ws, i ∈ own.map (·.2))
    (ht : ∀ (g : G) (s : Shared) (H : Hp) (C : Addr) (cl : List (Str × Addr)) (fp : List Addr), PTsx (X.blk s H scope (compEnvC scope cl C X.env) fp) g E0 Γ2 ifs Γ2 tt)
    (he : ∀ (g : G) (s : Shared) (H : Hp) (C : Addr) (cl : List (Str × Addr)) (fp : List Addr), PX (X.blk s H scope (compEnvC scope cl C X.env) fp) g E0 Γ2 elt Γ2 .fr f) (hs : ∀ x, foldedSetIterable iter X.env x = pure x := by intro _; rfl) :
    PX X g E Γ (.ListComp elt [⟨tg, iter, ifs, 0⟩] scope pos) Γ2 .ow (eLc (own.map (·.2)) G' it tt f) := by
  have HG : ∀ (s : Shared) (H : Hp) (C : Addr) (cl : List (Str × Addr)) (fp : List Addr), PG (X.blk s H scope (compEnvC scope cl C X.env) fp) tg (hG X Γ2 G' ws) := fun s H C cl fp => ⟨fun pins s' σ H' v u Q I r ⟨g', z⟩ => (hg g' s H C cl fp).pg.run pins s' σ H' v u Q I r z⟩
  have HT : ∀ (s : Shared) (H : Hp) (C : Addr) (cl : List (Str × Addr)) (fp : List Addr), PTs (X.blk s H scope (compEnvC scope cl C X.env) fp) ifs (hT X Γ2 tt) := fun s H C cl fp => ⟨fun pins s' σ H' Q I ⟨g', z⟩ => (ht g' s H C cl fp).pe.run pins s' σ H' Q I z⟩
  have HE : ∀ (s : Shared) (H : Hp) (C : Addr) (cl : List (Str × Addr)) (fp : List Addr), PE (X.blk s H scope (compEnvC scope cl C X.env) fp) elt (hE X Γ2 f) := fun s H C cl fp => ⟨fun pins s' σ H' Q I ⟨g', z⟩ => (he g' s H C cl fp).pe.run pins s' σ H' Q I z⟩
  exact ⟨le.trans hi.le, (pe_lc hc hN (hi.pi.imp fun σ H R ⟨ρ, Hf, R, _, q⟩ => ⟨ρ, Hf, R, q⟩) ok HG HT HE hs).imp fun σ H Q ⟨ρ, Hf, R, q⟩ => lc_read (tg := tg) (iter := iter) le no hws (hg g ⟨{}, #[], {}, 0, {}⟩ (fun _ => none) 0 [] []).ag R (P := fun _ _ _ => True) trivial q⟩
theorem takes_no : Takes X E0 := fun u s' ⟨_, _, _, _, _, _, _, _, _, _, _, _, _, _, _, _, w⟩ => w.elim
end
end PD

namespace PD
open PySem PySem.Spec L2
open PyProof.Rows hiding St

open Classical in
noncomputable def dicGet (kvs : List (D × D)) (k : D) : Option D := (kvs.find? fun p => decide (p.1 = k)).map (·.2)
open Classical in
noncomputable def dicPut (kvs : List (D × D)) (k v : D) : List (D × D) := if (kvs.any fun p => decide (p.1 = k)) = true then kvs.map (fun p => if p.1 = k then (p.1, v) else p) else kvs ++ [(k, v)]
open Classical in
noncomputable def dicDrop (kvs : List (D × D)) (k : D) : List (D × D) := kvs.filter fun p => decide (p.1 ≠ k)
def flatK : D → Bool
  | .int _ => true
  | .str _ => true
  | _ => false
def DKey (kvs : List (D × D)) (k : D) : Prop := (flatK k = true ∧ ∀ p ∈ kvs, flatK p.1 = true) ∨ (TKey (toPy k) ∧ ∀ p ∈ kvs, TKey (toPy p.1))
theorem dicGet_pos {p : D × D} {r : List (D × D)} {k : D} (e : p.1 = k) : dicGet (p :: r) k = some p.2 := by simp [dicGet, List.find?_cons, e]
theorem dicGet_neg {p : D × D} {r : List (D × D)} {k : D} (e : ¬ p.1 = k) : dicGet (p :: r) k = dicGet r k := by simp [dicGet, List.find?_cons, e]
open Classical in
theorem dicGet_any (k : D) : ∀ kvs : List (D × D), (kvs.any fun p => decide (p.1 = k)) = (dicGet kvs k).isSome
  | [] => rfl
  | p :: r => by
    rw [List.any_cons]
    by_cases e : p.1 = k
    · rw [dicGet_pos e, decide_eq_true e]; rfl
    · rw [dicGet_neg e, decide_eq_false e, dicGet_any k r]; rfl
noncomputable def valT (zs : List (PyData × Addr × V)) (k : PyData) : Option V := (zs.find? fun z => decide (z.1 = k)).map (·.2.2)
theorem valT_pos {p : PyData × Addr × V} {r : List (PyData × Addr × V)} {k : PyData} (e : p.1 = k) : valT (p :: r) k = some p.2.2 := by simp [valT, List.find?_cons, e]
theorem valT_neg {p : PyData × Addr × V} {r : List (PyData × Addr × V)} {k : PyData} (e : ¬ p.1 = k) : valT (p :: r) k = valT r k := by simp [valT, List.find?_cons, e]
noncomputable def putT (zs : List (PyData × Addr × V)) (k : PyData) (b : Addr) (v : V) : List (PyData × Addr × V) := if (valT zs k).isSome = true then zs.map (fun z => if z.1 = k then (z.1, z.2.1, v) else z) else zs ++ [(k, b, v)]
mutual
theorem toPy_inj : ∀ (k k' : D), keyP (toPy k) = true → toPy k = toPy k' → k = k'
  | .int i, k', _, e => by cases k' <;> simp [toPy] at e; rw [e]
  | .str i, k', _, e => by cases k' <;> simp [toPy] at e; rw [e]
  | .tup ds, k', h, e => by
    cases k' with
    | tup es =>
      simp only [toPy, PyData.tuple.injEq] at e
      simp only [toPy, keyP] at h
      rw [toPys_inj ds es h e]
    | _ => simp [toPy] at e
  | .non, _, h, _ => by simp [toPy, keyP] at h
  | .bl _, _, h, _ => by simp [toPy, keyP] at h
  | .ty _, _, h, _ => by simp [toPy, keyP] at h
  | .scr _, _, h, _ => by simp [toPy, keyP] at h
  | .lst _, _, h, _ => by simp [toPy, keyP] at h
  | .dic _, _, h, _ => by simp [toPy, keyP] at h
  | .ins _ _, _, h, _ => by simp [toPy, keyP] at h
  | .adr _, _, h, _ => by simp [toPy, keyP] at h
  | .exn _ _, _, h, _ => by simp [toPy, keyP] at h
  | .cls _, _, h, _ => by simp [toPy, keyP] at h
theorem toPys_inj : ∀ (ks ks' : List D), keysP (toPys ks) = true → toPys ks = toPys ks' → ks = ks'
  | [], ks', _, e => by cases ks' with
    | nil => rfl
    | cons _ _ => simp [toPys] at e
  | k :: ks, ks', h, e => by
    cases ks' with
    | nil => simp [toPys] at e
    | cons k' ks' =>
      simp only [toPys, List.cons.injEq] at e
      simp only [toPys, keysP, Bool.and_eq_true] at h
      rw [toPy_inj k k' h.1 e.1, toPys_inj ks ks' h.2 e.2]
end
mutual
theorem toPy_injG : ∀ (k k' : D), keyG (toPy k) = true → toPy k = toPy k' → k = k'
  | .int i, k', _, e => by cases k' <;> simp [toPy] at e; rw [e]
  | .bl i, k', _, e => by cases k' <;> simp [toPy] at e; rw [e]
  | .str i, k', _, e => by cases k' <;> simp [toPy] at e; rw [e]
  | .tup ds, k', h, e => by
    cases k' with
    | tup es =>
      simp only [toPy, PyData.tuple.injEq] at e
      simp only [toPy, keyG] at h
      rw [toPys_injG ds es h e]
    | _ => simp [toPy] at e
  | .non, _, h, _ => by simp [toPy, keyG] at h
  | .ty _, _, h, _ => by simp [toPy, keyG] at h
  | .scr _, _, h, _ => by simp [toPy, keyG] at h
  | .lst _, _, h, _ => by simp [toPy, keyG] at h
  | .dic _, _, h, _ => by simp [toPy, keyG] at h
  | .ins _ _, _, h, _ => by simp [toPy, keyG] at h
  | .adr _, _, h, _ => by simp [toPy, keyG] at h
  | .exn _ _, _, h, _ => by simp [toPy, keyG] at h
  | .cls _, _, h, _ => by simp [toPy, keyG] at h
theorem toPys_injG : ∀ (ks ks' : List D), keysG (toPys ks) = true → toPys ks = toPys ks' → ks = ks'
  | [], ks', _, e => by
    cases ks' with
    | nil => rfl
    | cons _ _ => simp [toPys] at e
  | k :: ks, ks', h, e => by
    cases ks' with
    | nil => simp [toPys] at e
    | cons k' ks' =>
      simp only [toPys, List.cons.injEq] at e
      simp only [toPys, keysG, Bool.and_eq_true] at h
      rw [toPy_injG k k' h.1 e.1, toPys_injG ks ks' h.2 e.2]
end
theorem kD_flat (k : Key) : flatK (kD k) = true := by cases k <;> rfl
theorem kD_inj {a b : Key} (e : kD a = kD b) : a = b := by
  cases a <;> cases b <;> simp [kD] at e <;> rw [e]
theorem flat_kD {k : D} (h : flatK k = true) : ∃ κ, k = kD κ := by
  cases k with
  | int i => exact ⟨.inl i, rfl⟩
  | str x => exact ⟨.inr x, rfl⟩
  | _ => cases h
theorem tkey_nf {k : D} (h : TKey (toPy k)) : flatK k = false := by
  obtain ⟨xs, e⟩ := h.tup
  cases k <;> simp [toPy] at e <;> rfl
section
variable {K : PySem.W.Frag} {mg : Mg} {H : Hp}
theorem IsKVs.get : ∀ {kvs : List (D × D)} {xs : List (Key × V)} (κ : Key), IsKVs K mg H kvs xs → match dicGet kvs (kD κ) with
    | some d => ∃ v, valV xs κ = some v ∧ IsD K mg H d v
    | none => valV xs κ = none
  | [], xs, κ, h => by simp only [IsKVs] at h; subst h; rfl
  | (k, d) :: kvs, xs, κ, h => by
    simp only [IsKVs, IsKV] at h
    obtain ⟨⟨k', v⟩, us, rfl, ⟨e, q⟩, r⟩ := h
    simp only at e q
    subst e
    by_cases z : k' = κ
    · subst z
      rw [dicGet_pos rfl]
      exact ⟨v, valV_pos rfl, q⟩
    · rw [dicGet_neg (fun y => z (kD_inj y)), valV_neg z]
      exact IsKVs.get κ r
theorem IsKVs.flat : ∀ {kvs : List (D × D)} {xs : List (Key × V)}, IsKVs K mg H kvs xs → ∀ p ∈ kvs, flatK p.1 = true
  | (k, d) :: kvs, xs, h, p, m => by
    simp only [IsKVs, IsKV] at h
    obtain ⟨⟨k', v⟩, us, rfl, ⟨e, q⟩, r⟩ := h
    rcases List.mem_cons.mp m with rfl | m
    · simp only at e
      subst e
      exact kD_flat k'
    · exact IsKVs.flat r p m
theorem IsKVs.len : ∀ {kvs : List (D × D)} {xs : List (Key × V)}, IsKVs K mg H kvs xs → xs.length = kvs.length
  | [], _, h => by simp only [IsKVs] at h; subst h; rfl
  | _ :: kvs, _, h => by
    simp only [IsKVs] at h
    obtain ⟨_, us, rfl, _, r⟩ := h
    rw [List.length_cons, List.length_cons, IsKVs.len r]
theorem IsKTs.len : ∀ {kvs : List (D × D)} {xs : List (PyData × Addr × V)}, IsKTs K mg H kvs xs → xs.length = kvs.length
  | [], _, h => by simp only [IsKTs] at h; subst h; rfl
  | _ :: kvs, _, h => by
    simp only [IsKTs] at h
    obtain ⟨_, us, rfl, _, r⟩ := h
    rw [List.length_cons, List.length_cons, IsKTs.len r]
theorem IsKTs.keys : ∀ {kvs : List (D × D)} {xs : List (PyData × Addr × V)}, IsKTs K mg H kvs xs → ∀ p ∈ kvs, TKey (toPy p.1)
  | (k, d) :: kvs, xs, h, p, m => by
    simp only [IsKTs, IsKT] at h
    obtain ⟨⟨k', b, v⟩, us, rfl, ⟨e, t, q⟩, r⟩ := h
    rcases List.mem_cons.mp m with rfl | m
    · exact t
    · exact IsKTs.keys r p m
theorem IsKTs.get {k : D} (t : TKey (toPy k)) : ∀ {kvs : List (D × D)} {xs : List (PyData × Addr × V)}, IsKTs K mg H kvs xs → match dicGet kvs k with
    | some d => ∃ v, valT xs (toPy k) = some v ∧ IsD K mg H d v
    | none => valT xs (toPy k) = none
  | [], xs, h => by simp only [IsKTs] at h; subst h; rfl
  | (k0, d) :: kvs, xs, h => by
    simp only [IsKTs, IsKT] at h
    obtain ⟨⟨k', b, v⟩, us, rfl, ⟨e, t', q, q'⟩, r⟩ := h
    simp only at e q q'
    subst e
    by_cases z : k0 = k
    · subst z
      rw [dicGet_pos rfl]
      exact ⟨v, valT_pos rfl, q'⟩
    · rw [dicGet_neg z, valT_neg (fun y => z (toPy_injG _ _ (keyB_G _ t'.key) y))]
      exact IsKTs.get t r
open Classical in
theorem IsKVs.put (κ : Key) {d : D} {v : V} (hv : IsD K mg H d v) {kvs : List (D × D)} {xs : List (Key × V)} (h : IsKVs K mg H kvs xs) : IsKVs K mg H (dicPut kvs (kD κ) d) (putK xs κ v) := by
  have a : (kvs.any fun p => decide (p.1 = kD κ)) = (xs.any fun kv => decide (kv.1 = κ)) := by
    rw [dicGet_any, valV_any]
    have := h.get κ
    cases e : dicGet kvs (kD κ) with
    | some d => rw [e] at this; obtain ⟨v, e2, _⟩ := this; rw [e2]; rfl
    | none => rw [e] at this; simp only at this; rw [this]; rfl
  unfold dicPut putK
  rw [a]
  by_cases z : (xs.any fun kv => decide (kv.1 = κ)) = true
  · rw [if_pos z, if_pos z]
    clear a z
    induction kvs generalizing xs with
    | nil => simp only [IsKVs] at h; subst h; simp [IsKVs]
    | cons p kvs ih =>
      obtain ⟨k, d0⟩ := p
      simp only [IsKVs, IsKV] at h
      obtain ⟨⟨k', v'⟩, us, rfl, ⟨e, q⟩, r⟩ := h
      simp only at e q
      subst e
      rw [List.map_cons, List.map_cons]
      simp only [IsKVs]
      refine ⟨_, _, rfl, ?_, ih r⟩
      by_cases z : k' = κ
      · subst z
        simp only [if_true, IsKV]
        exact ⟨trivial, hv⟩
      · rw [if_neg z, if_neg (fun y => z (kD_inj y))]
        simp only [IsKV]
        exact ⟨trivial, q⟩
  · rw [if_neg z, if_neg z]
    clear a z
    induction kvs generalizing xs with
    | nil => simp only [IsKVs] at h; subst h; simp only [List.nil_append, IsKVs, IsKV]; exact ⟨_, _, rfl, ⟨rfl, hv⟩, rfl⟩
    | cons p kvs ih =>
      simp only [IsKVs] at h
      obtain ⟨u, us, rfl, q, r⟩ := h
      simp only [List.cons_append, IsKVs]
      exact ⟨_, _, rfl, q, ih r⟩
open Classical in
theorem IsKTs.put {k : D} (t : TKey (toPy k)) {b : Addr} (hb : IsD K mg H k (.ref b)) {d : D} {v : V} (hv : IsD K mg H d v) {kvs : List (D × D)} {xs : List (PyData × Addr × V)} (h : IsKTs K mg H kvs xs) : IsKTs K mg H (dicPut kvs k d) (putT xs (toPy k) b v) := by
  have a : (kvs.any fun p => decide (p.1 = k)) = (valT xs (toPy k)).isSome := by
    rw [dicGet_any]
    have := h.get t
    cases e : dicGet kvs k with
    | some d => rw [e] at this; obtain ⟨v, e2, _⟩ := this; rw [e2]; rfl
    | none => rw [e] at this; simp only at this; rw [this]; rfl
  unfold dicPut putT
  rw [a]
  by_cases z : (valT xs (toPy k)).isSome = true
  · rw [if_pos z, if_pos z]
    clear a z
    induction kvs generalizing xs with
    | nil => simp only [IsKTs] at h; subst h; simp [IsKTs]
    | cons p kvs ih =>
      obtain ⟨k0, d0⟩ := p
      simp only [IsKTs, IsKT] at h
      obtain ⟨⟨k', b', v'⟩, us, rfl, ⟨e, t', q, q'⟩, r⟩ := h
      simp only at e q q'
      subst e
      rw [List.map_cons, List.map_cons]
      simp only [IsKTs]
      refine ⟨_, _, rfl, ?_, ih r⟩
      by_cases z : k0 = k
      · subst z
        simp only [if_true, IsKT]
        exact ⟨trivial, t', q, hv⟩
      · rw [if_neg z, if_neg (fun y => z (toPy_injG _ _ (keyB_G _ t'.key) y))]
        simp only [IsKT]
        exact ⟨trivial, t', q, q'⟩
  · rw [if_neg z, if_neg z]
    clear a z
    induction kvs generalizing xs with
    | nil => simp only [IsKTs] at h; subst h; simp only [List.nil_append, IsKTs, IsKT]; exact ⟨_, _, rfl, ⟨rfl, t, hb, hv⟩, rfl⟩
    | cons p kvs ih =>
      simp only [IsKTs] at h
      obtain ⟨u, us, rfl, q, r⟩ := h
      simp only [List.cons_append, IsKTs]
      exact ⟨_, _, rfl, q, ih r⟩
end

section
variable {X : Cx} {pins : List (Addr × Obj)} {σ : St} {H Hf : Hp} {s : Shared} {a : Addr} {o : HO} {kvs : List (D × D)} {k : D} {y : V} {u : Value} {A : Around} {E : Value → Shared → Prop}
abbrev ZW : List (PyData × Addr × V) → List (PyData × Addr × Value) → Prop := Paired fun p q => p.1 = q.1 ∧ p.2.1 = q.2.1 ∧ RelV p.2.2 q.2.2
theorem ZW.val {zs : List (PyData × Addr × V)} {xs : List (PyData × Addr × Value)} (r : ZW zs xs) (k : PyData) : RelO (valT zs k) ((atKey xs k).map (·.2)) := by
  induction r with
  | nil => exact True.intro
  | @cons p q ps qs h t ih =>
    obtain ⟨h1, _, h2⟩ := h
    by_cases e : p.1 = k
    · have e' : q.1 = k := h1.symm.trans e
      have b : atKey (q :: qs) k = some q.2 := by simp [atKey, List.find?_cons, e']
      rw [valT_pos e, b]; exact h2
    · have e' : ¬ q.1 = k := fun z => e (h1.trans z)
      have b : atKey (q :: qs) k = atKey qs k := by simp [atKey, List.find?_cons, e']
      rw [valT_neg e, b]; exact ih
theorem ZW.put {zs : List (PyData × Addr × V)} {xs : List (PyData × Addr × Value)} (r : ZW zs xs) (k : PyData) (b : Addr) {y : V} {u : Value} (ry : RelV y u) : ZW (putT zs k b y) (storedH xs k b u) := by
  have e : (valT zs k).isSome = (atKey xs k).isSome := by rw [(r.val k).isSome_eq, Option.isSome_map]
  unfold putT storedH
  rw [e]
  by_cases q : (atKey xs k).isSome = true
  · rw [if_pos q, if_pos q]
    clear e q
    induction r with
    | nil => exact .nil
    | @cons p q ps qs h t ih =>
      rw [List.map_cons, List.map_cons]
      refine .cons ?_ ih
      obtain ⟨h1, h2, h3⟩ := h
      unfold putAt
      by_cases e : p.1 = k
      · rw [if_pos e, if_pos (h1.symm.trans e)]; exact ⟨h1, h2, ry⟩
      · rw [if_neg e, if_neg (fun z => e (h1.trans z))]; exact ⟨h1, h2, h3⟩
  · rw [if_neg q, if_neg q]; exact Paired.snoc r ⟨rfl, rfl, ry⟩
inductive Vw (X : Cx) (Hf : Hp) (h : Heap) (a : Addr) (kvs : List (D × D)) (k : D) (y : V) (u : Value) : Prop where
  | flat (κ : Key) (xs : List (Key × V)) (vs : List (Key × Value)) : k = kD κ → y = kV κ → RelV (kV κ) u → IsKVs X.K X.mw Hf kvs xs → KV xs vs → h.DictOf (mixKind X.prog X.w) a vs → Vw X Hf h a kvs k y u
  | deep (b : Addr) (zs : List (PyData × Addr × V)) (ws : List (PyData × Addr × Value)) : y = .ref b → u = .ref b → IsD X.K X.mw Hf k (.ref b) → TKey (toPy k) → (deepKind X.prog X.w).is h (toPy k) b → IsKTs X.K X.mw Hf kvs zs → ZW zs ws → h.DictOfH (deepKind X.prog X.w) a ws → Vw X Hf h a kvs k y u
theorem isd_ref {K : PySem.W.Frag} {mg : Mg} {k : D} {y : V} (h : IsD K mg Hf k y) (t : TKey (toPy k)) : ∃ b, y = .ref b := by
  obtain ⟨xs, e⟩ := t.tup
  cases k with
  | tup ds => simp only [IsD] at h; obtain ⟨a, _, e, _⟩ := h; exact ⟨a, e⟩
  | _ => simp [toPy] at e
theorem isd_flat {K : PySem.W.Frag} {mg : Mg} {κ : Key} {y : V} (h : IsD K mg Hf (kD κ) y) : y = kV κ := by
  cases κ <;> (simp only [kD, IsD] at h; subst h; rfl)
theorem zw_is (I : Inv X pins σ H s) (hs : Same Hf H) : ∀ {kvs : List (D × D)} {zs : List (PyData × Addr × V)} {ws : List (PyData × Addr × Value)}, IsKTs X.K X.mw Hf kvs zs → ZW zs ws → ∀ x ∈ ws, (deepKind X.prog X.w).is s.heap x.1 x.2.1
  | [], _, _, h, r, x, m => by simp only [IsKTs] at h; subst h; cases r; exact nomatch m
  | (k, d) :: kvs, _, _, h, r, x, m => by
    simp only [IsKTs, IsKT] at h
    obtain ⟨⟨k', b, v⟩, us, rfl, ⟨e, t, q, q'⟩, rr⟩ := h
    cases r with
    | @cons _ z _ qs hz tz =>
      rcases List.mem_cons.mp m with rfl | m
      · obtain ⟨h1, h2, _⟩ := hz
        simp only at e h1 h2 q
        rw [← h1, ← h2, e]
        obtain ⟨as, rd⟩ := Dp.reads I (toPy k) (.ref b) (.ref b) (dp_of (IsD.mono hs q) (keyG_lay _ (keyB_G _ t.key))) rfl
        exact ⟨t, as, rd⟩
      · exact zw_is I hs rr tz x m
theorem view (I : Inv X pins σ H s) (hs : Same Hf H) (hd : Rd H a o) (hk : DicAt X.K X.mw Hf kvs a o) (ky : IsD X.K X.mw Hf k y) (ry : RelV y u) (dk : DKey kvs k) : (a == sysModules) = false ∧ kvs.length ≤ sizeLine ∧ Vw X Hf s.heap a kvs k y u := by
  have ok := hd.ok I.hok
  rcases hk with ⟨xs, rfl, r⟩ | ⟨zs, rfl, r⟩
  · obtain ⟨z, hsys, vs, rel, dd⟩ := (show ObjOk X.prog X.w H s.heap a (.dK xs) from ok)
    refine ⟨hsys, by rw [← r.len]; exact z, ?_⟩
    rcases dk with ⟨f, _⟩ | ⟨t, all⟩
    · obtain ⟨κ, rfl⟩ := flat_kD f
      obtain rfl := isd_flat ky
      exact .flat κ xs vs rfl rfl ry r rel dd
    · have e : kvs = [] := by
        cases kvs with
        | nil => rfl
        | cons p kvs =>
          have h1 := r.flat p List.mem_cons_self
          rw [tkey_nf (all p List.mem_cons_self)] at h1
          cases h1
      subst e
      simp only [IsKVs] at r
      subst r
      cases rel
      obtain ⟨b, rfl⟩ := isd_ref ky t
      obtain rfl : u = .ref b := ry
      obtain ⟨as, rd⟩ := Dp.reads I (toPy k) (.ref b) (.ref b) (dp_of (IsD.mono hs ky) (keyG_lay _ (keyB_G _ t.key))) rfl
      obtain ⟨ob, es, ep, h1, h2, h3, h4, h5, h6⟩ := dd
      have ee : es.toList = [] := by
        generalize es.toList = l at h5
        cases h5; rfl
      exact .deep b [] [] rfl rfl ky t ⟨t, as, rd⟩ (by simp only [IsKTs]) .nil ⟨ob, es, ep, h1, h2, h3, by rw [ee]; rfl, fun x hx => (List.not_mem_nil hx).elim, List.nodup_nil⟩
  · obtain ⟨hne, hsys, z, ws, rel, ob, es, ep, h1, h2, h3, h4, h5⟩ := (show ObjOk X.prog X.w H s.heap a (dT X.w a zs) from ok).1
    refine ⟨hsys, by rw [← r.len]; exact z, ?_⟩
    rcases dk with ⟨f, all⟩ | ⟨t, _⟩
    · have e : kvs = [] := by
        cases kvs with
        | nil => rfl
        | cons p kvs =>
          have h1 := all p List.mem_cons_self
          rw [tkey_nf (r.keys p List.mem_cons_self)] at h1
          cases h1
      subst e
      simp only [IsKTs] at r
      subst r
      cases rel
      obtain ⟨κ, rfl⟩ := flat_kD f
      obtain rfl := isd_flat ky
      have ee : es.toList = [] := h4
      have e2 : es = #[] := by rw [← Array.toArray_toList (xs := es), ee]
      subst e2
      exact .flat κ [] [] rfl rfl ry (by simp only [IsKVs]) .nil ⟨ob, #[], ep, h1, h2, h3, fun e he => by simp at he, Pairs.nil, List.nodup_nil⟩
    · obtain ⟨b, rfl⟩ := isd_ref ky t
      obtain rfl : u = .ref b := ry
      obtain ⟨as, rd⟩ := Dp.reads I (toPy k) (.ref b) (.ref b) (dp_of (IsD.mono hs ky) (keyG_lay _ (keyB_G _ t.key))) rfl
      exact .deep b zs ws rfl rfl ky t ⟨t, as, rd⟩ r rel ⟨ob, es, ep, h1, h2, h3, h4, zw_is I hs r rel, h5⟩

theorem dk_room {A : Around} (hu : A.units + 64 < cLine) : (deepKind X.prog X.w).room A.in1 := by
  show A.units + 1 + 8 < cLine
  omega
theorem Vw.at (V0 : Vw X Hf s.heap a kvs k y u) : match dicGet kvs k with
    | some d => ∃ v w', IsD X.K X.mw Hf d v ∧ RelV v w' ∧ ((∃ κ vs, RelV (kV κ) u ∧ s.heap.DictOf (mixKind X.prog X.w) a vs ∧ valueAt vs κ = some w') ∨ ∃ b ws p, u = .ref b ∧ (deepKind X.prog X.w).is s.heap (toPy k) b ∧ s.heap.DictOfH (deepKind X.prog X.w) a ws ∧ atKey ws (toPy k) = some p ∧ p.2 = w')
    | none => (∃ κ vs, RelV (kV κ) u ∧ s.heap.DictOf (mixKind X.prog X.w) a vs ∧ valueAt vs κ = none) ∨ ∃ b ws, u = .ref b ∧ (deepKind X.prog X.w).is s.heap (toPy k) b ∧ s.heap.DictOfH (deepKind X.prog X.w) a ws ∧ atKey ws (toPy k) = none := by
  cases V0 with
  | flat κ xs vs ek ey ry r rel dd =>
    subst ek
    have g := r.get κ
    cases e : dicGet kvs (kD κ) with
    | some d =>
      rw [e] at g
      obtain ⟨v, e2, q⟩ := g
      obtain ⟨w', hw, rw'⟩ := RelO.some_of (v := v) (o := valueAt vs κ) (by rw [← e2]; exact rel.val κ)
      exact ⟨v, w', q, rw', .inl ⟨κ, vs, ry, dd, hw⟩⟩
    | none =>
      rw [e] at g
      exact .inl ⟨κ, vs, ry, dd, RelO.none_of (by rw [← g]; exact rel.val κ)⟩
  | deep b zs ws ey eu kd t is r rel dd =>
    have g := r.get t
    cases e : dicGet kvs k with
    | some d =>
      rw [e] at g
      obtain ⟨v, e2, q⟩ := g
      obtain ⟨w', hw, rw'⟩ := RelO.some_of (v := v) (o := (atKey ws (toPy k)).map (·.2)) (by rw [← e2]; exact rel.val _)
      obtain ⟨p, hp, hp2⟩ := Option.map_eq_some_iff.mp hw
      exact ⟨v, w', q, rw', .inr ⟨b, ws, p, eu, is, dd, hp, hp2⟩⟩
    | none =>
      rw [e] at g
      have : (atKey ws (toPy k)).map (·.2) = none := RelO.none_of (by rw [← g]; exact rel.val _)
      exact .inr ⟨b, ws, eu, is, dd, Option.map_eq_none_iff.mp this⟩
theorem x_getItem {d : D} {Q : Value → Shared → Prop} (hu : A.units + 64 < cLine) (I : Inv X pins σ H s) (V0 : Vw X Hf s.heap a kvs k y u) (g : dicGet kvs k = some d) (h : ∀ v w' s', Inv X pins σ H s' → IsD X.K X.mw Hf d v → RelV v w' → Q w' s') :
    wpAny (model X.prog X.w) A (getItem (.ref a) u) Q E s := by
  have z := V0.at
  rw [g] at z
  obtain ⟨v, w', q, rw', z⟩ := z
  rcases z with ⟨κ, vs, ry, dd, hw⟩ | ⟨b, ws, p, rfl, is, dd, hp, rfl⟩
  · exact wpAny_getItem_of (kV_is ry) dd.mapOf hw (h v w' _ (I.tok _) q rw')
  · exact wpAny_getItem_heap (dk_room hu) is dd hp (h v _ _ (I.tok _) q rw')
theorem x_in {Q : Value → Shared → Prop} (hu : A.units + 64 < cLine) (I : Inv X pins σ H s) (hsys : (a == sysModules) = false) (V0 : Vw X Hf s.heap a kvs k y u) (h : ∀ s', Inv X pins σ H s' → Q (.bool (dicGet kvs k).isSome) s') :
    wpAny (model X.prog X.w) A (compareOp .In u (.ref a)) Q E s := by
  have z := V0.at
  cases g : dicGet kvs k with
  | some d =>
    rw [g] at z h
    obtain ⟨v, w', q, rw', z⟩ := z
    rcases z with ⟨κ, vs, ry, dd, hw⟩ | ⟨b, ws, p, rfl, is, dd, hp, rfl⟩
    · refine wpAny_in_of (kV_is ry) hsys dd.mapOf ?_
      rw [hw]
      exact h _ (I.tok _)
    · refine wpAny_in_heap (dk_room hu) is hsys dd ?_
      rw [hp]
      exact h _ (I.tok _)
  | none =>
    rw [g] at z h
    rcases z with ⟨κ, vs, ry, dd, hw⟩ | ⟨b, ws, rfl, is, dd, hp⟩
    · refine wpAny_in_of (kV_is ry) hsys dd.mapOf ?_
      rw [hw]
      exact h _ (I.tok _)
    · refine wpAny_in_heap (dk_room hu) is hsys dd ?_
      rw [hp]
      exact h _ (I.tok _)
theorem x_notIn {Q : Value → Shared → Prop} (hu : A.units + 64 < cLine) (I : Inv X pins σ H s) (hsys : (a == sysModules) = false) (V0 : Vw X Hf s.heap a kvs k y u) (h : ∀ s', Inv X pins σ H s' → Q (.bool (!(dicGet kvs k).isSome)) s') :
    wpAny (model X.prog X.w) A (compareOp .NotIn u (.ref a)) Q E s := by
  have z := V0.at
  cases g : dicGet kvs k with
  | some d =>
    rw [g] at z h
    obtain ⟨v, w', q, rw', z⟩ := z
    rcases z with ⟨κ, vs, ry, dd, hw⟩ | ⟨b, ws, p, rfl, is, dd, hp, rfl⟩
    · refine wpAny_notIn_of (kV_is ry) hsys dd.mapOf ?_
      rw [hw]
      exact h _ (I.tok _)
    · refine wpAny_notIn_heap (dk_room hu) is hsys dd ?_
      rw [hp]
      exact h _ (I.tok _)
  | none =>
    rw [g] at z h
    rcases z with ⟨κ, vs, ry, dd, hw⟩ | ⟨b, ws, rfl, is, dd, hp⟩
    · refine wpAny_notIn_of (kV_is ry) hsys dd.mapOf ?_
      rw [hw]
      exact h _ (I.tok _)
    · refine wpAny_notIn_heap (dk_room hu) is hsys dd ?_
      rw [hp]
      exact h _ (I.tok _)
theorem x_get2 {dd0 : D} {r : Value} {x : V} {Q : Value → Shared → Prop} (hu : A.units + 64 < cLine) (I : Inv X pins σ H s) (hsys : (a == sysModules) = false) (V0 : Vw X Hf s.heap a kvs k y u) (hx : IsD X.K X.mw Hf dd0 x) (rx : RelV x r)
    (h : ∀ v w' s', Inv X pins σ H s' → IsD X.K X.mw Hf ((dicGet kvs k).getD dd0) v → RelV v w' → Q w' s') : wpAny (model X.prog X.w) A (call (.builtin "dict.get") [.ref a, u, r]) Q E s := by
  have z := V0.at
  cases g : dicGet kvs k with
  | some d =>
    rw [g] at z h
    obtain ⟨v, w', q, rw', z⟩ := z
    rcases z with ⟨κ, vs, ry, dd, hw⟩ | ⟨b, ws, p, rfl, is, dd, hp, rfl⟩
    · refine call_meetsIn PySem.F.slot_dict_get dd.typeIs PySem.F.entry_dict_get (PySem.F.args_dict_get_3 _ _ _) (meets_dict_get_default (mixKind X.prog X.w) a (kV_is ry) hsys r) ⟨_, dd.mapOf, ?_⟩
      rw [hw]
      exact h v w' _ (I.tok _) q rw'
    · refine call_meetsIn PySem.F.slot_dict_get dd.typeIs PySem.F.entry_dict_get (PySem.F.args_dict_get_3 _ _ _) (meetsH_dict_get_default (deepKind X.prog X.w) a b hsys r) ⟨dk_room hu, toPy k, ws, is, dd, ?_⟩
      rw [hp]
      exact h v _ _ (I.tok _) q rw'
  | none =>
    rw [g] at z h
    rcases z with ⟨κ, vs, ry, dd, hw⟩ | ⟨b, ws, rfl, is, dd, hp⟩
    · refine call_meetsIn PySem.F.slot_dict_get dd.typeIs PySem.F.entry_dict_get (PySem.F.args_dict_get_3 _ _ _) (meets_dict_get_default (mixKind X.prog X.w) a (kV_is ry) hsys r) ⟨_, dd.mapOf, ?_⟩
      rw [hw]
      exact h x r _ (I.tok _) hx rx
    · refine call_meetsIn PySem.F.slot_dict_get dd.typeIs PySem.F.entry_dict_get (PySem.F.args_dict_get_3 _ _ _) (meetsH_dict_get_default (deepKind X.prog X.w) a b hsys r) ⟨dk_room hu, toPy k, ws, is, dd, ?_⟩
      rw [hp]
      exact h x r _ (I.tok _) hx rx
theorem len_putT (zs : List (PyData × Addr × V)) (k : PyData) (b : Addr) (v : V) : (putT zs k b v).length ≤ zs.length + 1 := by
  unfold putT
  split
  · rw [List.length_map]; omega
  · simp
theorem putT_ne (zs : List (PyData × Addr × V)) (k : PyData) (b : Addr) (v : V) : putT zs k b v ≠ [] := by
  unfold putT
  split
  · rename_i h
    intro e
    cases zs with
    | nil => cases h
    | cons z zs => cases e
  · intro e
    exact absurd (List.append_eq_nil_iff.mp e).2 (List.cons_ne_nil _ _)
theorem x_setItem {d : D} {x : V} {r : Value} {Q : Unit → Shared → Prop} (hu : A.units + 64 < cLine) (I : Inv X pins σ H s) (hsys : (a == sysModules) = false) (mu : Mut (H a)) (hl : kvs.length < sizeLine) (V0 : Vw X Hf s.heap a kvs k y u) (hx : IsD X.K X.mw Hf d x) (rx : RelV x r)
    (h : ∀ o' s', DicAt X.K X.mw Hf (dicPut kvs k d) a o' → Inv X pins σ (upd H a o') s' → Q () s') : wpAny (model X.prog X.w) A (setItem (.ref a) u r) Q E s := by
  cases V0 with
  | flat κ xs vs ek ey ry r0 rel dd =>
    subst ek
    have hz : vs.length ≤ sizeLine := by rw [← rel.length, r0.len]; omega
    refine wpAny_setItem_pairs (hsz := hz) (kV_is ry) dd fun h' dd' hs => ?_
    have hl2 : (putK xs κ x).length ≤ sizeLine := by have := length_putK xs κ x; rw [r0.len] at this; omega
    have he : ∃ q, h'.get? a = some q := let ⟨q, _, _, hq, _⟩ := dd'; ⟨q, hq⟩
    exact h _ _ (.inl ⟨_, rfl, r0.put κ hx⟩) (d_write I mu hs he (dk_new hl2 hsys (rel.put κ rx) dd'))
  | deep b zs ws ey eu kd t is r0 rel dd =>
    subst eu
    have hz : ws.length ≤ sizeLine := by rw [← Paired.length rel, r0.len]; omega
    refine wpAny_setItem_heap (hsz := hz) (dk_room hu) is dd fun h' dd' hs => ?_
    have hl2 : (putT zs (toPy k) b x).length ≤ sizeLine := by have := len_putT zs (toPy k) b x; rw [r0.len] at this; omega
    obtain ⟨q, es, ep, hq, h2, h3, h4, _, h5⟩ := dd'
    refine h _ _ (.inr ⟨_, rfl, r0.put t kd hx⟩) (d_write I mu hs ⟨q, hq⟩ ?_)
    refine ⟨⟨putT_ne _ _ _ _, hsys, hl2, _, rel.put (toPy k) b rx, q, es, ep, hq, h2, h3, h4, h5⟩, ⟨q, hq⟩, fun g1 g2 ⟨p0, p1, p2, ys, p3, o1, e1, e2, p4, p5⟩ kk => ⟨p0, p1, p2, ys, p3, o1, e1, e2, kk _ p4, p5⟩⟩
end
end PD

namespace PD
open PySem PySem.Spec L2
open PyProof.Rows hiding St

noncomputable def dIx : D → D → Out D
  | .dic kvs, k => chk (DKey kvs k) (match dicGet kvs k with
    | some d => .ok d
    | none => .stuck)
  | x, k => dIxS x k
theorem dkey_flat {K : PySem.W.Frag} {mg : Mg} {Hf H : Hp} {kvs : List (D × D)} {k : D} {y : V} (d : DKey kvs k) (h : IsR K mg Hf H k y) : IsD K mg Hf k y := by
  rcases d with ⟨f, _⟩ | ⟨t, _⟩
  · cases k <;> first | exact h | cases f
  · obtain ⟨xs, e⟩ := t.tup
    cases k <;> first | exact h | (simp [toPy] at e; done)
def RdD (X : Cx) (Hf H : Hp) (kvs : List (D × D)) (k : D) (a : Addr) (y : V) : Prop := ∃ o, Same Hf H ∧ Rd H a o ∧ DicAt X.K X.mw Hf kvs a o ∧ IsD X.K X.mw Hf k y ∧ DKey kvs k
def rIxD (X : Cx) : R2 := fun x y H Q => ∃ a Hf kvs k d, x = .ref a ∧ RdD X Hf H kvs k a y ∧ dicGet kvs k = some d ∧ ∀ v, IsD X.K X.mw Hf d v → Q v H
section
variable {X : Cx}
theorem ty_dict {pins : List (Addr × Obj)} {σ : St} {H Hf : Hp} {s : Shared} {kvs : List (D × D)} {a : Addr} {o : HO} (I : Inv X pins σ H s) (hd : Rd H a o) (hk : DicAt X.K X.mw Hf kvs a o) : s.TypeIs (.ref a) "dict" ∧ (∀ b, Value.ref a = .ref b → ∃ ob, s.heap.get? b = some ob ∧ ob.dict = none) := by
  have ok := hd.ok I.hok
  rcases hk with ⟨xs, rfl, r⟩ | ⟨zs, rfl, r⟩
  · obtain ⟨z, hsys, vs, rel, ob, es, ep, h1, h2, _⟩ := (show ObjOk X.prog X.w H s.heap a (.dK xs) from ok)
    exact ⟨⟨ob, h1, h2.1⟩, fun b q => by cases q; exact ⟨ob, h1, h2.2.1⟩⟩
  · obtain ⟨hne, hsys, z, ws, rel, ob, es, ep, h1, h2, _⟩ := (show ObjOk X.prog X.w H s.heap a (dT X.w a zs) from ok).1
    exact ⟨⟨ob, h1, h2.1⟩, fun b q => by cases q; exact ⟨ob, h1, h2.2.1⟩⟩
theorem ix_dic (hu : X.A.units + 64 < cLine) : IxR X (rIxD X) := by
  intro value slice pins s σ H x y v u Q I rx ry h hs
  obtain ⟨a, Hf, kvs, k, d, rfl, ⟨o, sm, hd, hk, ky, dk⟩, g, q⟩ := h
  cases rx
  obtain ⟨_, _, V0⟩ := view I sm hd hk ky ry dk
  exact tail_any (ty_dict I hd hk).1 PySem.F.slot_dict_getitem.lookup (x_getItem hu I V0 g fun v w' s' I' q' rw' => ⟨v, H, I', rw', q v q'⟩) hs
theorem px_ix {kk : Nat} {g : G} {E : WX} {Γ Γ1 Γ2 : List Bool} {pos : Pos} {a b : Expr} {fa fb : Env → Out D} (hr : Room kk X.A) (ha : PX X g E Γ a Γ1 .rd fa) (hb : PX X g E Γ1 b Γ2 .rd fb) (hs : PlainIx b) : PX X g E Γ (.Subscript a b pos) Γ2 .fr (e2 dIx fa fb) := by
  refine ⟨hb.le.trans ha.le, (pe_ix (ix_seq.or (ix_dic hr.units)) ha.pe hb.pe hs).imp fun σ H Q ⟨ρ, Hf, R, k⟩ => ⟨ρ, Hf, R, ?_⟩⟩
  refine tG.bind hb.le k fun x F1 H1 s1 s2 R1 k1 v hv => ⟨ρ, F1, R1, ?_⟩
  refine tG.bind (Le.refl _) k1 fun y F2 H2 s3 s4 R2 k2 u hu => ?_
  replace hv := IsR.mono s3 s4 hv
  unfold dIx at k2
  split at k2
  · rename_i _ kvs
    refine .inr ?_
    by_cases c : DKey kvs y
    · rw [chk_pos c] at k2
      obtain ⟨p, o, rfl, q, r⟩ := hv
      cases gg : dicGet kvs y with
      | none => rw [gg] at k2; exact k2.elim
      | some d =>
        rw [gg] at k2
        exact ⟨p, F2, kvs, y, d, rfl, ⟨o, R2.same, q, r, dkey_flat c hu, c⟩, gg, fun v hv => k2 F2 H2 (Same.refl _) (Same.refl _) R2 v hv⟩
    · rw [chk_neg c] at k2; exact k2.elim
  · refine .inl ?_
    unfold dIxS at k2
    split at k2
    · rename_i ds i _
      obtain ⟨p, xs, rfl, q, r⟩ := hv
      cases hu
      cases e : atI ds i with
      | none => rw [e] at k2; exact k2.elim
      | some d =>
        rw [e] at k2
        obtain ⟨z, ez, hz⟩ := r.atI e
        exact .inl ⟨p, xs, i, z, rfl, rfl, .of q, ez, k2 F2 H2 (Same.refl _) (Same.refl _) R2 z hz⟩
    · rename_i ds i _
      simp only [Res, IsR, IsD] at hv
      obtain ⟨p, xs, rfl, q, r⟩ := hv
      cases hu
      cases e : atI ds i with
      | none => rw [e] at k2; exact k2.elim
      | some d =>
        rw [e] at k2
        obtain ⟨z, ez, hz⟩ := r.atI e
        exact .inr (.inl ⟨p, xs, i, z, rfl, rfl, (Same.seqT R2.same q).l, ez, k2 F2 H2 (Same.refl _) (Same.refl _) R2 z hz⟩)
    · rename_i ns i _
      simp only [Res, IsR, IsD] at hv
      obtain ⟨p, rfl, q⟩ := hv
      cases hu
      cases e : atI ns i with
      | none => rw [e] at k2; exact k2.elim
      | some n =>
        rw [e] at k2
        have ez : atI (ns.map V.int) i = some (V.int n) := by
          unfold L2.atI at e ⊢
          rw [List.length_map]
          cases q : ixN ns.length i with
          | none => rw [q] at e; cases e
          | some j =>
            rw [q] at e
            show (ns.map V.int)[j]? = _
            rw [List.getElem?_map, show ns[j]? = some n from e]; rfl
        exact .inl ⟨p, _, i, _, rfl, rfl, R2.same.seq q, ez, k2 F2 H2 (Same.refl _) (Same.refl _) R2 _ (show IsD _ _ _ _ _ by simp only [IsD])⟩
    · rename_i z i _
      simp only [Res, IsR, IsD] at hv
      cases hu
      by_cases l : z.length ≤ sizeLine
      · rw [chk_pos l] at k2
        cases e : atI z.cps.toList i with
        | none => rw [e] at k2; exact k2.elim
        | some c =>
          rw [e] at k2
          exact .inr (.inr ⟨z, i, c, hv, rfl, l, e, k2 F2 H2 (Same.refl _) (Same.refl _) R2 _ (show IsD _ _ _ _ _ by simp only [IsD])⟩)
      · rw [chk_neg l] at k2; exact k2.elim
    · exact k2.elim
noncomputable def dInD (neg : Bool) : D → D → Out D
  | k, .dic kvs => chk (DKey kvs k) (.ok (.bl (if neg then !(dicGet kvs k).isSome else (dicGet kvs k).isSome)))
  | _, _ => .stuck
def rInD (X : Cx) (neg : Bool) : R2 := fun y x H Q => ∃ a Hf kvs k, x = .ref a ∧ RdD X Hf H kvs k a y ∧ Q (.bl (if neg then !(dicGet kvs k).isSome else (dicGet kvs k).isSome)) H
theorem op_inD (hu : X.A.units + 64 < cLine) : OpR X (compareOp .In) (rInD X false) := by
  intro pins s σ H y x u v Q I ry rx h
  obtain ⟨a, Hf, kvs, k, rfl, ⟨o, sm, hd, hk, ky, dk⟩, q⟩ := h
  cases rx
  obtain ⟨hsys, _, V0⟩ := view I sm hd hk ky ry dk
  exact x_in hu I hsys V0 fun s' I' => ⟨.bl _, H, I', rfl, q⟩
theorem op_notInD (hu : X.A.units + 64 < cLine) : OpR X (compareOp .NotIn) (rInD X true) := by
  intro pins s σ H y x u v Q I ry rx h
  obtain ⟨a, Hf, kvs, k, rfl, ⟨o, sm, hd, hk, ky, dk⟩, q⟩ := h
  cases rx
  obtain ⟨hsys, _, V0⟩ := view I sm hd hk ky ry dk
  exact x_notIn hu I hsys V0 fun s' I' => ⟨.bl _, H, I', rfl, q⟩
theorem opd_inD {m : Md} {f : Value → Value → Sem Value} {neg : Bool} (ho : OpR X f (rInD X neg)) : OpD X f m (dInD neg) := by
  refine ⟨_, ho, fun g E Γ ρ σ Hf H x y v u Q R hx hy k => ?_⟩
  unfold dInD at k
  split at k
  · rename_i kvs
    by_cases c : DKey kvs x
    · rw [chk_pos c] at k
      obtain ⟨p, o, rfl, q, r⟩ := hy
      exact ⟨p, Hf, kvs, x, rfl, ⟨o, R.same, q, r, dkey_flat c hx, c⟩, k Hf H (Same.refl _) (Same.refl _) R _ (Res.dat R.same rfl (by simp only [IsD]))⟩
    · rw [chk_neg c] at k; exact k.elim
  · exact k.elim
noncomputable def dIn : D → D → Out D := dOr (dInL false) (dOr dInS (dInD false))
noncomputable def dNotIn : D → D → Out D := dOr (dInL true) (dOr dNotInS (dInD true))
theorem od_in {m : Md} {kk : Nat} (hr : Room kk X.A) : OpD X (compareOp .In) m dIn := od_inL.or (od_inS.or (opd_inD (op_inD hr.units)))
theorem od_notin {m : Md} {kk : Nat} (hr : Room kk X.A) : OpD X (compareOp .NotIn) m dNotIn := od_notinL.or (od_notinS.or (opd_inD (op_notInD hr.units)))
theorem px_dnew {g : G} {E : WX} {Γ : List Bool} {pos : Pos} : PX X g E Γ (.Dict [] [] pos) Γ .ow (eC (.dic [])) := by
  refine ⟨Le.refl _, pe_dnewK.imp fun σ H Q ⟨ρ, Hf, R, k⟩ p n => ?_⟩
  obtain ⟨t2, R2, n0, nf, ap⟩ := R.newO (.dK []) n
  exact k _ _ (Same.refl _) t2 R2 (.ref p) ⟨⟨p, .dK [], rfl, n0, nf, upd_same, .inl ⟨[], rfl, by simp only [IsKVs]⟩⟩, fun i e ow e1 m _ e2 => ap i e ow e1 m e2⟩
noncomputable def eGet2 (fd fk fx : Env → Out D) : Env → Out D := fun ρ => (fd ρ).bind fun d => match d with
  | .dic kvs => (fk ρ).bind fun k => (fx ρ).bind fun x => chk (DKey kvs k) (.ok ((dicGet kvs k).getD x))
  | _ => .stuck
def tXGet2 (X : Cx) (td ty tx : TE) : TE := fun σ H Q => td σ H fun x H1 => ∃ a o kvs Hf, x = .ref a ∧ Rd H1 a o ∧ DicAt X.K X.mw Hf kvs a o ∧ ty σ H1 fun y H2 => tx σ H2 fun z H3 => ∃ Hf kvs k d, RdD X Hf H3 kvs k a y ∧ IsD X.K X.mw Hf d z ∧ ∀ v, IsD X.K X.mw Hf ((dicGet kvs k).getD d) v → Q v H3
theorem pe_xget2 {o e f : Expr} {apos cpos : Pos} {td ty tx : TE} (hu : X.A.units + 64 < cLine) (ho : PE X o td) (he : PE X e ty) (hf : PE X f tx) (m : M2 X o "get" apos e f cpos) : PE X (.Call (.Attribute o "get" apos) [e, f] [] cpos) (tXGet2 X td ty tx) := by
  refine ⟨fun pins s σ H Q I h => ?_⟩
  refine wpAny_Call_method m.base m.few m.line PySem.F.plainAttrs_dict PySem.F.slot_dict_get PySem.F.type_dict_get (thn (ho.run pins s σ H _ I h) fun u s1 ⟨x, H1, I1, rx, a, ob, kvs0, Hf0, ex, rd0, dk0, q1⟩ => ?_)
  subst ex
  obtain rfl : u = Value.ref a := rx
  obtain ⟨t1, t2⟩ := ty_dict I1 rd0 dk0
  refine ⟨t1, t2, ?_⟩
  rw [m.trees]
  refine Calls.callWith_builtin rfl (Calls.evalArgs_plain (Calls.spliced_cons (thn (he.run pins s1 σ H1 _ I1 q1) fun iv s2 ⟨y, H2, I2, ry, q2⟩ =>
    Calls.spliced_cons (thn (hf.run pins s2 σ H2 _ I2 q2) fun fv s3 ⟨z, H3, I3, rz, Hf, kvs, k, d, ⟨o, sm, hd, hk, ky, dk⟩, hz, q3⟩ => Calls.spliced_nil ?_))))
  obtain ⟨hsys, _, V0⟩ := view I3 sm hd hk ky ry dk
  exact x_get2 hu I3 hsys V0 hz rz fun v w' s4 I4 hv rw' => ⟨v, H3, I4, rw', q3 v hv⟩
theorem px_get2 {kk : Nat} {g : G} {E : WX} {Γ Γ1 Γ2 Γ3 : List Bool} {apos pos : Pos} {a b c : Expr} {fa fb fc : Env → Out D} (hr : Room kk X.A) (ha : PX X g E Γ a Γ1 .rd fa) (hb : PX X g E Γ1 b Γ2 .rd fb) (hc : PX X g E Γ2 c Γ3 .fr fc) (m : M2 X a "get" apos b c pos) :
    PX X g E Γ (.Call (.Attribute a "get" apos) [b, c] [] pos) Γ3 .fr (eGet2 fa fb fc) := by
  refine ⟨hc.le.trans (hb.le.trans ha.le), (pe_xget2 hr.units ha.pe hb.pe hc.pe m).imp fun σ H Q ⟨ρ, Hf, R, k⟩ => ⟨ρ, Hf, R, ?_⟩⟩
  refine tG.bind (hc.le.trans hb.le) k fun x F1 H1 s1 s2 R1 k1 v hv => ?_
  cases x with
  | dic kvs =>
    have hv' : IsR X.K X.mw F1 H1 (.dic kvs) v := hv
    obtain ⟨p, o, rfl, q, r⟩ := hv
    refine ⟨p, o, kvs, F1, rfl, q, r, ρ, F1, R1, ?_⟩
    refine tG.bind hc.le k1 fun y F2 H2 s3 s4 R2 k2 u hu => ⟨ρ, F2, R2, ?_⟩
    refine tG.bind (Le.refl _) k2 fun z F3 H3 s5 s6 R3 k3 w hw => ?_
    by_cases c : DKey kvs y
    · rw [chk_pos c] at k3
      obtain ⟨p', o', e, q', r'⟩ := IsR.mono (s3.trans s5) (s4.trans s6) hv'
      obtain rfl : p = p' := V.ref.inj e
      exact ⟨F3, kvs, y, z, ⟨o', R3.same, q', r', dkey_flat c (IsR.mono s5 s6 hu), c⟩, hw, fun v hv => k3 F3 H3 (Same.refl _) (Same.refl _) R3 v hv⟩
    · rw [chk_neg c] at k3; exact k3.elim
  | _ => exact k1.elim
def rSetD (X : Cx) : V → V → V → Hp → (Hp → Prop) → Prop := fun o y x H Q => ∃ a Hf kvs k d, o = .ref a ∧ RdD X Hf H kvs k a y ∧ Mut (H a) ∧ kvs.length < sizeLine ∧ IsD X.K X.mw Hf d x ∧ ∀ o', DicAt X.K X.mw Hf (dicPut kvs k d) a o' → Q (upd H a o')
theorem set_dic (hu : X.A.units + 64 < cLine) : PSet X (rSetD X) := by
  intro pins s σ H o y x ov iv u Q I ro ri rv h
  obtain ⟨a, Hf, kvs, k, d, rfl, ⟨ob, sm, hd, hk, ky, dk⟩, mu, hl, hx, q⟩ := h
  cases ro
  obtain ⟨hsys, _, V0⟩ := view I sm hd hk ky ri dk
  exact x_setItem hu I hsys mu hl V0 hx rv fun o' s' da I' => ⟨_, I', q o' da⟩
theorem PSet.or {r r' : V → V → V → Hp → (Hp → Prop) → Prop} (h : PSet X r) (h' : PSet X r') : PSet X (fun o i v H Q => r o i v H Q ∨ r' o i v H Q) := by
  intro pins s σ H o y x ov iv u Q I ro ri rv q
  rcases q with q | q
  · exact h pins s σ H o y x ov iv u Q I ro ri rv q
  · exact h' pins s σ H o y x ov iv u Q I ro ri rv q
theorem mut_of_own {K : PySem.W.Frag} {mg : Mg} {Hf H : Hp} {kvs : List (D × D)} {a : Addr} {o : HO} (e : H a = some o) (h : DicAt K mg Hf kvs a o) : Mut (H a) := by
  rw [e]
  rcases h with ⟨xs, rfl, _⟩ | ⟨zs, rfl, _⟩ <;> exact True.intro
theorem IsDs.set {K : PySem.W.Frag} {mg : Mg} {H : Hp} {d : D} {v : V} (hv : IsD K mg H d v) : ∀ {ds : List D} {vs : List V} (j : Nat), IsDs K mg H ds vs → IsDs K mg H (ds.set j d) (vs.set j v)
  | [], _, _, h => by simp only [IsDs] at h; subst h; simp [IsDs]
  | x :: ds, _, 0, h => by
    simp only [IsDs] at h
    obtain ⟨u, us, rfl, q, r⟩ := h
    simp only [List.set_cons_zero, IsDs]
    exact ⟨_, _, rfl, hv, r⟩
  | x :: ds, _, j + 1, h => by
    simp only [IsDs] at h
    obtain ⟨u, us, rfl, q, r⟩ := h
    simp only [List.set_cons_succ, IsDs]
    exact ⟨_, _, rfl, q, IsDs.set hv j r⟩
noncomputable def putO : D → D → D → Out D
  | .lst xs, .int j, v => match ixN xs.length j with
    | some n => .ok (.lst (xs.set n v))
    | none => .stuck
  | .dic kvs, k, v => chk (DKey kvs k ∧ kvs.length < sizeLine) (.ok (.dic (dicPut kvs k v)))
  | _, _, _ => .stuck
noncomputable def sPut (i : Nat) (fk fv : Env → Out D) : Env → SO := fun ρ => oS (fv ρ) fun v => oS (eV i ρ) fun x => oS (fk ρ) fun k => oS (putO x k v) fun y => .nx (ρ.set i (some y))
theorem psx_put {kk : Nat} {g : G} {E : WX} {ro : Bool} {Γl Γ Γ1 Γ2 : List Bool} {pos pos' p : Pos} {i : Nat} {x : Str} {b c : Expr} {fb fc : Env → Out D} (hr : Room kk X.A) (h : PE X (.Name x p) (tVar i)) (hc : PX X g E Γ c Γ1 .fr fc) (hb : PX X g E Γ1 b Γ2 .rd fb) (o : Γ2.getD i false = true)
    (ha : ∀ v, assign (.Subscript (.Name x p) b pos') X.env v = (do
      let ov ← holding [v] (eval (.Name x p) X.env)
      let iv ← holding [v, ov] (eval b X.env)
      standAt pos'
      holding [v, ov, iv] (setItem ov iv v)
      release [v, ov, iv] []) := by intro _; rfl) (hs : swapsWithSole [.Subscript (.Name x p) b pos'] c pos.line X.env = pure false := by rfl) (hw : swappedStores [.Subscript (.Name x p) b pos'] c X.env = pure none := by rfl)
    (h1 : (assignEach [.Subscript (.Name x p) b pos'] X.env).map (·.2) = [assign (.Subscript (.Name x p) b pos') X.env] := by rfl) :
    PSx X g E ro Γl Γ (.Assign [.Subscript (.Name x p) b pos'] c pos) Γ2 (sPut i fb fc) := by
  refine ⟨(ps_asg hc.pe (pg_sub h hb.pe (PD.PSet.or set_list (set_dic hr.units)) ha) hs hw h1).imp fun Dn σ H ⟨ρ, Hf, R, q⟩ => ⟨ρ, Hf, R, ?_⟩⟩
  unfold sPut at q
  refine tG.toS q fun d F1 H1 s1 s2 R1 k1 v hv => ?_
  cases he : eV i ρ with
  | exc x => exact (eV_nx he).elim
  | stuck => rw [he] at k1; exact k1.elim
  | ok dx =>
  rw [he] at k1
  have e := eV_ok he
  have oo : Own Γ1 i := hb.le i o
  obtain ⟨vx, es, io⟩ := R1.own i _ oo e
  refine ⟨vx, es, ρ, F1, R1, ?_⟩
  refine tG.toS k1 fun y F2 H2 s3 s4 R2 k2 u hu => ?_
  obtain ⟨vx', es', io'⟩ := R2.own i _ o e
  rw [es] at es'
  obtain rfl : vx = vx' := Option.some.inj (Option.some.inj es')
  unfold putO at k2
  split at k2
  · rename_i _ xs j
    cases hu
    obtain ⟨p, ys, rfl, z0, zf, qH, r⟩ := io'
    cases hix : ixN xs.length j with
    | none => rw [hix] at k2; exact k2.elim
    | some n =>
      rw [hix] at k2
      refine .inl ⟨p, ys, j, n, rfl, rfl, qH, by rw [r.len]; exact hix, ?_⟩
      exact k2 σ F2 _ (R2.wr o e rfl es z0 zf ⟨p, _, rfl, z0, zf, upd_same, IsDs.set (IsD.mono s3 hv) n r⟩)
  · rename_i _ _ kvs
    obtain ⟨p, ob, rfl, z0, zf, qH, r⟩ := io'
    by_cases c : DKey kvs y ∧ kvs.length < sizeLine
    · rw [chk_pos c] at k2
      refine .inr ⟨p, F2, kvs, y, d, rfl, ⟨ob, R2.same, .inl qH, r, dkey_flat c.1 hu, c.1⟩, mut_of_own qH r, c.2, IsD.mono s3 hv, fun o' da => ?_⟩
      exact k2 σ F2 _ (R2.wr o e rfl es z0 zf ⟨p, o', rfl, z0, zf, upd_same, da⟩)
    · rw [chk_neg c] at k2; exact k2.elim
  · exact k2.elim
end
theorem dIx_lst {ds : List D} {k : Nat} {d : D} (h : ds[k]? = some d) : dIx (.lst ds) (.int k) = .ok d := by
  show (match atI ds (k : Nat) with | some n => Out.ok n | none => .stuck) = _
  rw [atI_nat h]
theorem dIx_tup {ds : List D} {k : Nat} {d : D} (h : ds[k]? = some d) : dIx (.tup ds) (.int k) = .ok d := by
  show (match atI ds (k : Nat) with | some n => Out.ok n | none => .stuck) = _
  rw [atI_nat h]
theorem dIx_scr {ns : List Int} {k : Nat} {n : Int} (h : ns[k]? = some n) : dIx (.scr ns) (.int k) = .ok (.int n) := by
  show (match atI ns (k : Nat) with | some n => Out.ok (D.int n) | none => .stuck) = _
  rw [atI_nat h]
end PD

namespace PD
open PySem PySem.Calls PyProof.Rows
open PySem.W (EachIs AllAlike Sortable SortsAt dataKind dataType dataLt alike alikeAll dataLe keyToks keyToksAll)

section
variable {prog : Program} {w : World} {A : Around} {E : Value → Shared → Prop} {s : Shared}
theorem call_tuple_lt {Q : Value → Shared → Prop} {l b : Addr} {items items2 : Array Value} {e r : Nat → Bool} (hl : s.heap.IsTuple l items) (hb : s.heap.IsTuple b items2)
    (he : ∀ j (h1 : j < items.size) (h2 : j < items2.size), SeqAt.EqAt A.in1 s items[j] items2[j] (e j)) (hr : ∀ j (h1 : j < items.size) (h2 : j < items2.size), e j = false → SeqAt.RcLt A.in1 s items[j] items2[j] (r j))
    (h : Q (.bool (SeqAt.firstLt e r (decide (items.size < items2.size)) (List.range (min items.size items2.size)))) s) : wpAny (model prog w) A (call (.builtin "tuple.__lt__") [.ref l, .ref b]) Q E s := by
  obtain ⟨⟨cls, dd, data, sl⟩, ho, hc, n, hd⟩ := id hl
  obtain ⟨⟨cls2, dd2, data2, sl2⟩, ho2, hc2, n2, hd2⟩ := id hb
  simp only at hc hd hc2 hd2
  subst hc hd hc2 hd2
  exact call_meets F.slot_tuple_lt ⟨_, ho, rfl⟩ F.entry_tuple_lt (F.args_tuple_lt_2 _ _) (SeqAt.tuple_ltAt l b items items2 n n2 dd dd2 sl sl2 e r) ⟨ho, ho2, he, hr, h⟩
theorem oneLt_tup {xs ys : List PyData} {a b : Value} {as bs : List Addr} {Q : Bool → Shared → Prop} (ra : Reads s.heap a (.tuple xs) as) (rb : Reads s.heap b (.tuple ys) bs) (h : alike (.tuple xs) (.tuple ys) = true)
    (hu : A.units + min (PyData.tuple xs).depth (PyData.tuple ys).depth < cLine) (hq : Q (dataLt (.tuple xs) (.tuple ys)) s) : wpAny (model prog w) A (oneLt' true a b) Q E s := by
  have hal : alikeAll xs ys = true := by simpa [alike] using h
  cases ra with
  | @tuple l o vs n _ as₁ h1 h2 h3 h4 =>
    cases rb with
    | @tuple l' o' vs' n' _ bs₁ k1 k2 k3 k4 =>
      have n1 : vs.size = xs.length := by simpa using SeqAt.ReadsAll.length _ _ _ h4
      have n2 : vs'.size = ys.length := by simpa using SeqAt.ReadsAll.length _ _ _ k4
      rw [PySem.W.dataLt_tuple, ← PySem.W.firstLt_toks xs ys hal, ← n1, ← n2] at hq
      rw [oneLt'_eq]
      simp only [if_true]
      refine wpAny_bind (wpAny_cRoomFor (SeqAt.room_here hu) ?_)
      refine wpAny_bind (wpAny_callSpecialIfBound?_slot (T := "tuple") ⟨_, h1, h2⟩ F.slot_tuple_lt (call_tuple_lt (e := SeqAt.pairEq xs ys) (r := fun j => dataLt (xs.getD j .none) (ys.getD j .none)) ⟨_, h1, h2, _, h3⟩ ⟨_, k1, k2, _, k3⟩ (fun j j1 j2 => ?_) (fun j j1 j2 hj => ?_) ?_))
      · have := PySem.W.eqAt_alikeAll xs ys A.in1 s vs.toList vs'.toList _ _ h4 k4 hal (SeqAt.room_in hu) j (by simpa using j1) (by simpa using j2)
        simpa using this
      · have := PySem.W.rcLt_alikeAll xs ys A.in1 s vs.toList vs'.toList _ _ h4 k4 hal (SeqAt.room_in hu) j (by simpa using j1) (by simpa using j2) hj
        simpa using this
      · exact wpAny_truthy_bool hq
def fullT : PyData → Bool
  | .tuple (_ :: _) => true
  | _ => false
theorem firsts_any : ∀ (vs : List Value) (ds : List PyData) {Q : List (Option Value) → Shared → Prop}, EachIs (fun v d => ∃ as, Reads s.heap v d as) vs ds → (∀ d ∈ ds, ∃ xs, d = .tuple xs) →
    (∀ fs : List (Option Value), EachIs (fun f d => f.isSome = fullT d) fs ds → Q fs s) → wpAny (model prog w) A (vs.mapM firstOfTuple') Q E s
  | [], [], Q, _, _, h => by rw [List.mapM_nil]; exact wpAny_pure (h [] .nil)
  | v :: vs, d :: ds, Q, .cons ⟨as, r⟩ t, ht, h => by
    obtain ⟨xs, rfl⟩ := ht d List.mem_cons_self
    rw [List.mapM_cons]
    refine wpAny_bind ?_
    cases r with
    | @tuple a o its n _ _ ho hc hd hr =>
      rw [PySem.W.kas_first_eq]
      refine wpAny_bind (PySem.W.Looks.here (show PySem.W.Looks _ s.heap (typeOf (.ref a)) o.cls from (PySem.W.Looks.ld ho).andThen .now) ?_)
      rw [hc, if_neg (by first | decide | simp)]
      refine wpAny_bind (listItems_at ho hd (wpAny_pure ?_))
      refine wpAny_bind (firsts_any vs ds t (fun d hd => ht d (List.mem_cons_of_mem _ hd)) fun fs ef => wpAny_pure (h _ (.cons ?_ ef)))
      have hl := SeqAt.ReadsAll.length _ _ _ hr
      cases xs with
      | nil =>
        have : its = #[] := by
          rw [Array.length_toList] at hl
          exact Array.eq_empty_of_size_eq_zero hl
        subst this
        rfl
      | cons x xs =>
        have : 0 < its.size := by
          rw [Array.length_toList] at hl
          rw [hl]; simp
        rw [Array.getElem?_eq_getElem this]
        rfl
theorem each_all {fs : List (Option Value)} {ds : List PyData} (h : EachIs (fun f d => f.isSome = fullT d) fs ds) : (fs.all fun f => f.isSome) = ds.all fullT := by
  induction h with
  | nil => rfl
  | cons h _ ih => rw [List.all_cons, List.all_cons, h, ih]
theorem sortsAt_mixed {vs : List Value} {ds : List PyData} (e : EachIs (fun v d => ∃ as, Reads s.heap v d as) vs ds) (hal : AllAlike ds) (ht : ∀ d ∈ ds, ∃ xs, d = .tuple xs) (hn : ds.all fullT = false) (hu : ∀ d, d ∈ ds → A.units + d.depth < cLine) :
    SortsAt prog w A s (dataKind s.heap ds) vs := by
  have room : ∀ {d d' : PyData}, d ∈ ds → A.units + min d.depth d'.depth < cLine := fun {d d'} hd => Nat.lt_of_le_of_lt (Nat.add_le_add_left (Nat.min_le_left _ _) _) (hu d hd)
  have kk : ∀ (h2 : 2 ≤ vs.length) (E : Value → Shared → Prop) {Q : SortKind → Shared → Prop}, Q (if fullT (ds.headD .none) = true then general' else oneType') s → wpAny (model prog w) A (keyKind' vs.toArray) Q E s := by
    intro h2 E Q hq
    rw [kat_kind_eq, List.mapM_toArray, map_eq_pure_bind]
    refine wpAny_bind (wpAny_bind (firsts_any vs ds e ht fun fs ef => wpAny_pure ?_))
    have a1 := each_all ef
    rw [if_neg (by rw [List.all_toArray, a1, hn]; exact Bool.false_ne_true)]
    cases ef with
    | nil =>
      cases e
      exact absurd h2 (by simp)
    | @cons f d fs ds' hf tf =>
      have h0 : ((f :: fs).toArray[0]?.bind id) = f := by simp
      rw [h0]
      have hq' : Q (if fullT d = true then general' else oneType') s := hq
      by_cases c : fullT d = true
      · rw [if_pos (by rw [hf]; exact c)]
        rw [if_pos c] at hq'
        exact wpAny_pure hq'
      · rw [if_neg (by rw [hf]; exact c)]
        rw [if_neg c] at hq'
        rw [oneTypeOnly'_eq, List.mapM_toArray, map_eq_pure_bind]
        refine wpAny_bind (wpAny_bind (wpAny_bind (PySem.W.kas_mapM (r := Value.type "tuple") _ (fun v hv Q' hq => ?_) (wpAny_pure ?_))))
        · obtain ⟨d', hd', as, r⟩ := e.left v hv
          obtain ⟨xs, rfl⟩ := ht d' hd'
          exact (PySem.W.looks_reads r).here hq
        · have hall : ((List.map (fun _ => Value.type "tuple") vs).toArray.all fun x => x == Value.type "tuple") = true := by
            simp only [List.all_toArray, List.all_map, List.all_eq_true]
            intro _ _
            exact beq_self_eq_true _
          cases vs with
          | nil => cases e
          | cons v vs =>
            have h0 : (List.map (fun _ => Value.type "tuple") (v :: vs)).toArray[0]? = some (Value.type "tuple") := by simp
            rw [h0]
            simp only [hall, if_true]
            exact wpAny_pure (wpAny_pure hq')
  refine ⟨fun v hv => ?_, if fullT (ds.headD .none) = true then general' else oneType', ?_, fun h2 E Q hq => kk h2 E hq⟩
  · obtain ⟨d, hd, as, r⟩ := e.left v hv
    exact ⟨_, PySem.W.dataKind_some hal hd r⟩
  · intro E x y a b Q ha hb hq
    obtain ⟨d, as, hd, ra, rfl⟩ := PySem.W.dataKind_inv ha
    obtain ⟨d', as', hd', rb, rfl⟩ := PySem.W.dataKind_inv hb
    obtain ⟨xs, rfl⟩ := ht d hd
    obtain ⟨ys, rfl⟩ := ht d' hd'
    have hq' : Q (dataLt (.tuple xs) (.tuple ys)) s := hq
    by_cases c : fullT (ds.headD .none) = true
    · rw [if_pos c]
      show wpAny (model prog w) A (oneLt' false x y) Q E s
      exact PySem.W.oneLt_alike (f := false) (fun q => nomatch q) ra rb (hal _ hd _ hd') (fun q => nomatch q) (room hd) hq'
    · rw [if_neg c]
      rw [keyLt'_oneType]
      exact oneLt_tup ra rb (hal _ hd _ hd') (room hd) hq'
def SortX (ds : List PyData) : Prop := Sortable ds ∨ ∀ d ∈ ds, ∃ xs, d = .tuple xs
theorem fullT_of {d : PyData} (h : fullT d = true) : ∃ x r, d = .tuple (x :: r) := by
  cases d with
  | tuple xs => cases xs with
    | nil => cases h
    | cons x r => exact ⟨x, r, rfl⟩
  | _ => cases h
theorem sortsAt_any {vs : List Value} {ds : List PyData} (e : EachIs (fun v d => ∃ as, Reads s.heap v d as) vs ds) (hal : AllAlike ds) (hk : SortX ds) (hu : ∀ d, d ∈ ds → A.units + d.depth < cLine) :
    SortsAt prog w A s (dataKind s.heap ds) vs := by
  rcases hk with hk | ht
  · exact SortsAt.data e hal hk hu
  · cases c : ds.all fullT with
    | true => exact SortsAt.data e hal (.inl fun d hd => fullT_of (List.all_eq_true.mp c d hd)) hu
    | false => exact sortsAt_mixed e hal ht c hu
variable {β : Type} {vs : List Value} {bs : List β} {enc : β → PyData} {R : Value → β → Prop}
theorem sorted_any {l : Addr} {Q : Value → Shared → Prop} (hl : s.heap.IsList l vs.toArray) (e : EachIs R vs bs) (er : EachIs (fun v b => ∃ as, Reads s.heap v (enc b) as) vs bs) (hal : AllAlike (bs.map enc)) (hk : SortX (bs.map enc)) (hL : bs.length ≤ sizeLine)
    (hu : ∀ b, b ∈ bs → A.units + 2 + (enc b).depth < cLine) (h : ∀ out, out.length = bs.length → EachIs R out (bs.mergeSort (dataLe false enc)) → Q (.ref (s.heap.objs.size + 1)) { s with heap := sortedAll s.heap vs (List.toArray out) }) :
    wpAny (model prog w) A (call (.builtin "sorted") [.ref l]) Q E s := by
  have er' : EachIs (fun v b => ∃ as, Reads (PySem.W.sortingHeap (PySem.W.copyHeap s.heap vs) (s.heap.objs.size + 1) vs) v (enc b) as) vs bs := er.mono fun _ _ ⟨as, r⟩ => ⟨as, PyProof.Rows.Reads.keeps (fun _ _ => PySem.W.sorting_copy_old) r⟩
  exact PySem.W.sorted_vals hl (sortsAt_any (s := { s with heap := PySem.W.sortingHeap (PySem.W.copyHeap s.heap vs) (s.heap.objs.size + 1) vs }) (PySem.W.each_map (R := fun v d => ∃ as, Reads (PySem.W.sortingHeap (PySem.W.copyHeap s.heap vs) (s.heap.objs.size + 1) vs) v d as) enc er') hal hk (PySem.W.bound_map hu)) (by rw [e.length]; exact hL)
    (h _ (by rw [PySem.W.sortVals_length false rfl]; exact e.length) (PySem.W.sortVals_data false e er' hal))
end
end PD

namespace PD
section
open PySem PySem.Calls PyProof.Rows
open PySem.W (EachIs AllAlike Sortable SortsAt dataKind dataType dataLt alike alikeAll dataLe keyToks keyToksAll)
end
end PD

namespace PD
open PySem PySem.Spec L2
open PyProof.Rows hiding St
open PySem.W (EachIs AllAlike dataLt alike dataLe)

def OrdOk (x y : D) : Prop := keyP (toPy x) = true ∧ keyP (toPy y) = true ∧ alike (toPy x) (toPy y) = true ∧ (toPy x).depth ≤ 60 ∧ ∃ ds, x = .tup ds
noncomputable def dLtK : D → D → Out D := fun x y => chk (OrdOk x y) (.ok (.bl (dataLt (toPy x) (toPy y))))
noncomputable def dGeK : D → D → Out D := fun x y => chk (OrdOk x y) (.ok (.bl (!dataLt (toPy x) (toPy y))))
section
variable {X : Cx} {m : Md}
def rOrd (X : Cx) (F : Bool → Bool) : R2 := fun x y H Q => ∃ d e, Dp X.K H x d ∧ Dp X.K H y e ∧ keyP d = true ∧ alike d e = true ∧ d.depth ≤ 60 ∧ Q (.bl (F (dataLt d e))) H
theorem op_ltK (hu : X.A.units + 64 < cLine) : OpR X (compareOp .Lt) (rOrd X id) := by
  intro pins s σ H x y v u Q I rx ry h
  obtain ⟨d, e, hd, he, kd, al, dp, q⟩ := h
  obtain ⟨as, r1⟩ := Dp.reads I d x v hd rx
  obtain ⟨bs, r2⟩ := Dp.reads I e y u he ry
  refine PySem.W.rcLt_alike d e X.A s v u as bs r1 r2 al (fun z => by subst z; cases kd) ?_ X.prog X.w _ _ ⟨.bl _, H, I, rfl, q⟩
  have := Nat.min_le_left d.depth e.depth
  omega
theorem od_ltK {kk : Nat} (hr : Room kk X.A) : OpD X (compareOp .Lt) m dLtK := by
  refine ⟨_, op_ltK hr.units, fun g E Γ ρ σ Hf H x y v u Q R hx hy k => ?_⟩
  unfold dLtK at k
  by_cases c : OrdOk x y
  · rw [chk_pos c] at k
    obtain ⟨c1, c2, c3, c4, _⟩ := c
    exact ⟨toPy x, toPy y, dp_read R.same hx (keyP_lay _ c1), dp_read R.same hy (keyP_lay _ c2), c1, c3, c4, k Hf H (Same.refl _) (Same.refl _) R _ (Res.dat R.same rfl (by simp only [IsD, id]))⟩
  · rw [chk_neg c] at k; exact k.elim
noncomputable def dLt : D → D → Out D := dOr dLtI (dOr dLtS dLtK)
noncomputable def dGe : D → D → Out D := dOr dGeI (dOr dGeS dGeK)
theorem od_lt {k : Nat} (hr : Room k X.A) : OpD X (compareOp .Lt) m dLt := od_ltI.or ((opd_str op_lt_str).or (od_ltK hr))
noncomputable def sortD (ds : List D) : List D := ds.mergeSort (dataLe false toPy)
def SOk (ds : List D) : Prop := AllAlike (ds.map toPy) ∧ SortX (ds.map toPy) ∧ (∀ d ∈ ds, (toPy d).canLay0 = true ∧ (toPy d).depth ≤ 60) ∧ ds.length ≤ sizeLine
def RD (K : PySem.W.Frag) (mg : Mg) (Hf : Hp) : Value → D → Prop := fun u d => ∃ v, RelV v u ∧ IsD K mg Hf d v
theorem each_of {K : PySem.W.Frag} {mg : Mg} {Hf : Hp} : ∀ {ds : List D} {vs : List V} {us : List Value}, IsDs K mg Hf ds vs → Vals vs us → EachIs (RD K mg Hf) us ds
  | [], _, _, h, r => by simp only [IsDs] at h; subst h; cases r; exact .nil
  | d :: ds, _, _, h, r => by
    simp only [IsDs] at h
    obtain ⟨v, vs, rfl, q, t⟩ := h
    cases r with
    | cons r1 r2 => exact .cons ⟨v, r1, q⟩ (each_of t r2)
theorem of_each {K : PySem.W.Frag} {mg : Mg} {Hf : Hp} : ∀ {ds : List D} {us : List Value}, EachIs (RD K mg Hf) us ds → ∃ vs, IsDs K mg Hf ds vs ∧ Vals vs us
  | [], _, h => by cases h; exact ⟨[], by simp only [IsDs], .nil⟩
  | d :: ds, _, h => by
    cases h with
    | cons h1 t =>
      obtain ⟨v, r1, q⟩ := h1
      obtain ⟨vs, i, r2⟩ := of_each t
      exact ⟨v :: vs, by simp only [IsDs]; exact ⟨v, vs, rfl, q, i⟩, .cons r1 r2⟩
theorem each_reads {pins : List (Addr × Obj)} {σ : St} {H Hf : Hp} {s : Shared} (I : Inv X pins σ H s) (sm : Same Hf H) : ∀ {ds : List D} {us : List Value}, (∀ d ∈ ds, (toPy d).canLay0 = true) → EachIs (RD X.K X.mw Hf) us ds → EachIs (fun u d => ∃ as, Reads s.heap u (toPy d) as) us ds
  | [], _, _, h => by cases h; exact .nil
  | d :: ds, _, l, h => by
    cases h with
    | cons h1 t =>
      obtain ⟨v, r1, q⟩ := h1
      exact .cons (Dp.reads I (toPy d) v _ (dp_of (IsD.mono sm q) (l d List.mem_cons_self)) r1) (each_reads I sm (fun d hd => l d (List.mem_cons_of_mem _ hd)) t)
def rSortL (X : Cx) : List V → Hp → VK → Prop := fun vs H Q => ∃ a Hf ds xs, vs = [V.ref a] ∧ Same Hf H ∧ SqL X.K H a xs ∧ IsDs X.K X.mw Hf ds xs ∧ SOk ds ∧ ∀ p ys, H p = none → IsDs X.K X.mw Hf (sortD ds) ys → Q (.ref p) (upd H p (.lst ys))
theorem cr_sortL (hu : X.A.units + 64 < cLine) : CallR X (.builtin "sorted") (rSortL X) := by
  intro pins s σ H vs us Q I r h
  obtain ⟨a, Hf, ds, xs, rfl, sm, hs, hi, ⟨o1, o2, o3, o4⟩, q⟩ := h
  obtain ⟨its, rv, hl, hz⟩ := I.list hs
  rw [Vals.ref1 r]
  have e1 := each_of hi rv
  refine sorted_any hl.isList e1 (each_reads I sm (fun d hd => (o3 d hd).1) e1) o1 o2 o4 (fun d hd => by have := (o3 d hd).2; omega) fun out hl2 eo => ?_
  obtain ⟨ys, iy, vy⟩ := of_each eo
  obtain ⟨ep, he'⟩ := PyProof.Rows.sortedAll_at s.heap its out.toArray
  have hlen : ys.length ≤ sizeLine := by rw [vy.length, hl2]; exact o4
  exact ⟨.ref _, upd H (s.heap.objs.size + 1) (.lst ys), I.laid (t' := s.toks) (fun _ _ => PyProof.Rows.sortedAll_old) (Nat.le_succ _) ⟨hlen, out, ep, vy, he'⟩, rfl, q _ ys (I.hok.fresh (Nat.le_succ _)) iy⟩
theorem dic_keys {pins : List (Addr × Obj)} {σ : St} {H Hf : Hp} {s : Shared} {kvs : List (D × D)} {a : Addr} {o : HO} (I : Inv X pins σ H s) (hd : Rd H a o) (hk : DicAt X.K X.mw Hf kvs a o) :
    (a == sysModules) = false ∧ kvs.length ≤ sizeLine ∧ ∃ ob es ep, s.heap.get? a = some ob ∧ ob.ExactDict ∧ ob.data = .dict es ep ∧ ∃ vs, IsDs X.K X.mw Hf (kvs.map (·.1)) vs ∧ Vals vs (es.toList.map (·.key)) := by
  have ok := hd.ok I.hok
  rcases hk with ⟨xs, rfl, r⟩ | ⟨zs, rfl, r⟩
  · obtain ⟨z, hsys, vs, rel, ob, es, ep, h1, h2, h3, h4, h5, h6⟩ := (show ObjOk X.prog X.w H s.heap a (.dK xs) from ok)
    refine ⟨hsys, by rw [← r.len]; exact z, ob, es, ep, h1, h2, h3, xs.map fun p => kV p.1, ?_, ?_⟩
    · clear z rel h5 h6 ok hd
      induction kvs generalizing xs with
      | nil => simp only [IsKVs] at r; subst r; simp only [List.map_nil, IsDs]
      | cons p kvs ih =>
        obtain ⟨k, d⟩ := p
        simp only [IsKVs, IsKV] at r
        obtain ⟨⟨κ, v⟩, us, rfl, ⟨e, _⟩, r⟩ := r
        simp only at e
        subst e
        simp only [List.map_cons, IsDs]
        exact ⟨_, _, rfl, by cases κ <;> simp only [kD, kV, IsD], ih _ r⟩
    · have key : ∀ {es : List DictEntry} {vs : List (Key × Value)} {xs : List (Key × V)}, Pairs (mixKind X.prog X.w) es vs → KV xs vs → Vals (xs.map fun p => kV p.1) (es.map (·.key)) := by
        intro es vs xs hp
        induction hp generalizing xs with
        | nil => intro hkv; cases hkv; exact .nil
        | @cons e kv es kvs h1 h2 _ ih =>
          intro hkv
          cases hkv with
          | @cons p _ ps _ hh tt =>
            rw [List.map_cons, List.map_cons]
            refine .cons ?_ (ih tt)
            rw [hh.1]
            have h1' : keyIs kv.1 e.key = true := h1
            rcases keyIs_shape h1' with ⟨i, t, ek, ev⟩ | ⟨x, t, ek, ev⟩
            · rw [ek, ev]; exact ⟨t, rfl⟩
            · rw [ek, ev]; exact ⟨t, rfl⟩
      exact key h5 rel
  · obtain ⟨hne, hsys, z, ws, rel, ob, es, ep, h1, h2, h3, h4, h5⟩ := (show ObjOk X.prog X.w H s.heap a (dT X.w a zs) from ok).1
    clear hne
    refine ⟨hsys, by rw [← r.len]; exact z, ob, es, ep, h1, h2, h3, zs.map fun p => V.ref p.2.1, ?_, ?_⟩
    · clear z rel h4 h5 ok hd
      induction kvs generalizing zs with
      | nil => simp only [IsKTs] at r; subst r; simp only [List.map_nil, IsDs]
      | cons p kvs ih =>
        obtain ⟨k, d⟩ := p
        simp only [IsKTs, IsKT] at r
        obtain ⟨⟨κ, b, v⟩, us, rfl, ⟨_, _, q, _⟩, r⟩ := r
        simp only [List.map_cons, IsDs]
        exact ⟨_, _, rfl, q, ih _ r⟩
    · rw [h4]
      clear h4 h5 z r ok hd
      induction rel with
      | nil => exact .nil
      | @cons p q ps qs hh _ ih =>
        rw [List.map_cons, List.map_cons, List.map_cons]
        refine .cons ?_ ih
        rw [hh.2.1]; rfl
def rSortDic (X : Cx) : List V → Hp → VK → Prop := fun vs H Q => ∃ a Hf kvs o, vs = [V.ref a] ∧ Same Hf H ∧ Rd H a o ∧ DicAt X.K X.mw Hf kvs a o ∧ SOk (kvs.map (·.1)) ∧ ∀ p ys, H p = none → IsDs X.K X.mw Hf (sortD (kvs.map (·.1))) ys → Q (.ref p) (upd H p (.lst ys))
theorem cr_sortDic (hc : X.calm = true) (hu : X.A.units + 64 < cLine) : CallR X (.builtin "sorted") (rSortDic X) := by
  intro pins s σ H vs us Q I r h
  obtain ⟨a, Hf, kvs, o, rfl, sm, hd, hk, ⟨o1, o2, o3, o4⟩, q⟩ := h
  rw [Vals.ref1 r]
  obtain ⟨lo, hz, ob, es, ep, ho, hx, hdt, xs, hi, rv⟩ := dic_keys I hd hk
  have hes : es.size = kvs.length := by
    have := rv.length
    have h2 := hi.len
    rw [List.length_map] at h2 this
    rw [← Array.length_toList]; omega
  refine Calls.call_function_entry PyProof.Rows.kind_sorted PyProof.Rows.plain_sorted PyProof.Rows.entry_sorted (PyProof.Rows.args_sorted1 _) ?_
  unfold Builtin.«sorted»
  refine wpAny_bind (m := checkCount "sorted" 1 1 _) (wpAny_pure ?_)
  refine wpAny_bind (PySem.W.kdu_collect (A := X.A.in1) (L2.kdl_raw lo hx hdt) (I.ok.hd hc) ho (by rw [hes]; exact hz) fun h' tk acc kk hacc => ?_)
  have ea : acc.toList = es.toList.map (·.key) := by
    have hl : acc.toList.length = es.size := by rw [Array.length_toList, hacc.1]
    apply List.ext_getElem?
    intro j
    rw [List.getElem?_map]
    cases hj : acc.toList[j]? with
    | none =>
      have h1 := List.getElem?_eq_none_iff.mp hj
      rw [List.getElem?_eq_none (by rw [Array.length_toList]; omega)]; rfl
    | some v =>
      obtain ⟨en, hen, hv⟩ := hacc.2 j v (by rw [← Array.getElem?_toList]; exact hj)
      rw [← Array.getElem?_toList] at hen
      rw [hen, hv]; rfl
  have I1 : Inv X pins σ H { s with heap := h', toks := tk } := I.kept kk
  have e1 : EachIs (RD X.K X.mw Hf) acc.toList (kvs.map (·.1)) := by rw [ea]; exact each_of hi rv
  have hal : acc.toList.length = (kvs.map (·.1)).length := e1.length
  refine wpAny_bind (wpAny_newList ?_ (by rw [hal]; exact o4))
  have hoL : (h'.push (seqObj "list" acc.toList.toArray 0)).get? h'.objs.size = some (seqObj "list" acc.toList.toArray 0) := Heap.get?_push_size _ rfl
  show wpAny _ _ _ _ _ { s with heap := h'.push (seqObj "list" acc.toList.toArray 0), toks := tk }
  have er : EachIs (fun u d => ∃ as, Reads (PySem.W.sortingHeap (h'.push (seqObj "list" acc.toList.toArray 0)) h'.objs.size acc.toList) u (toPy d) as) acc.toList (kvs.map (·.1)) := by
    refine (each_reads I1 sm (fun d hd => (o3 d hd).1) e1).mono fun u d ⟨as, rd⟩ => ⟨as, PyProof.Rows.Reads.keeps (fun b ob2 e => ?_) rd⟩
    exact PySem.W.sortingHeap_old (Nat.ne_of_lt (Heap.lt_size e)) (Heap.get?_push_of_some _ e)
  refine wpAny_bind (wpAny_holding (wpAny_call_entry PyProof.Rows.slot_list_sort ⟨_, hoL, rfl⟩ PyProof.Rows.entry_list_sort
    (PySem.W.list_sort_vals (s := { s with heap := h'.push (seqObj "list" acc.toList.toArray 0), toks := tk }) hoL (sortsAt_any (s := { s with heap := PySem.W.sortingHeap (h'.push (seqObj "list" acc.toList.toArray 0)) h'.objs.size acc.toList, toks := tk }) (PySem.W.each_map (R := fun v d => ∃ as, Reads (PySem.W.sortingHeap (h'.push (seqObj "list" acc.toList.toArray 0)) h'.objs.size acc.toList) v d as) toPy er) o1 o2 (PySem.W.bound_map (fun d hd => by
      have := (o3 d hd).2
      show X.A.units + 1 + 1 + (toPy d).depth < cLine
      omega))) (by rw [hal]; exact o4) ⟨_, rfl, ?_⟩)
    (PyProof.Rows.args_list_sort _)))
  have eo := PySem.W.sortVals_data false e1 er o1
  obtain ⟨ys, iy, vy⟩ := of_each eo
  obtain ⟨e', he'⟩ := PyProof.Rows.sortedHeap_at (vs := acc.toList) (out := (PySem.W.sortVals (PySem.W.dataKind (PySem.W.sortingHeap (h'.push (seqObj "list" acc.toList.toArray 0)) h'.objs.size acc.toList) ((kvs.map (·.1)).map toPy)) false acc.toList acc.toList).toArray) hoL
  have hlen : ys.length ≤ sizeLine := by
    rw [iy.len, List.length_mergeSort]; exact o4
  refine wpAny_pure ⟨_, rfl, .ref h'.objs.size, upd H h'.objs.size (.lst ys), I1.laid (t' := tk) (fun b u e => ?_) (Nat.le_refl _)
    (show ObjOk X.prog X.w _ _ _ (.lst ys) from ⟨hlen, _, e', vy, he'⟩), rfl, q _ ys (I1.hok.fresh (Nat.le_refl _)) iy⟩
  have hb : b < h'.objs.size := Heap.lt_size e
  rw [PyProof.Rows.sortedHeap_old (Nat.ne_of_lt hb) (by rw [size_push']; exact Nat.lt_succ_of_lt hb)]
  exact Heap.get?_push_of_some _ e
noncomputable def cSorted : List D → Out D
  | [.lst ds] => chk (SOk ds) (.ok (.lst (sortD ds)))
  | [.dic kvs] => chk (SOk (kvs.map (·.1))) (.ok (.lst (sortD (kvs.map (·.1)))))
  | _ => .stuck
theorem ca_sorted {kk : Nat} (hc : X.calm = true) (hr : Room kk X.A) : CaD X (.builtin "sorted") m cSorted := by
  refine ⟨_, (cr_sortL hr.units).or (cr_sortDic hc hr.units), fun g E Γ ρ σ Hf H ds vs Q R h k => ?_⟩
  unfold cSorted at k
  split at k
  · rename_i ds
    by_cases c : SOk ds
    · rw [chk_pos c] at k
      obtain ⟨v, rfl, p, xs, rfl, q, r⟩ := h.one
      exact .inl ⟨p, Hf, ds, xs, rfl, R.same, .of q, r, c, fun p ys n iy => pv_lst R iy n k⟩
    · rw [chk_neg c] at k; exact k.elim
  · rename_i kvs
    by_cases c : SOk (kvs.map (·.1))
    · rw [chk_pos c] at k
      obtain ⟨v, rfl, p, o, rfl, q, r⟩ := h.one
      exact .inr ⟨p, Hf, kvs, o, rfl, R.same, q, r, c, fun p ys n iy => pv_lst R iy n k⟩
    · rw [chk_neg c] at k; exact k.elim
  · exact k.elim
end
theorem dLt_int (i j : Int) : dLt (.int i) (.int j) = .ok (.bl (decide (i < j))) := rfl
theorem dGe_int (i j : Int) : dGe (.int i) (.int j) = .ok (.bl (decide (j ≤ i))) := rfl
end PD

namespace PD
open PySem PySem.Spec L2
open PyProof.Rows hiding St

theorem bb_sum : bootBuiltins "sum" = some (.builtin "sum") := by decide +kernel
theorem bb_all : bootBuiltins "all" = some (.builtin "all") := by decide +kernel
theorem bb_sorted : bootBuiltins "sorted" = some (.builtin "sorted") := by decide +kernel
theorem oN_ap (ρ : Env) : oN ρ = .ok none := rfl
theorem oI_ap (f : Env → Out D) (ρ : Env) : oI f ρ = (f ρ).bind fun d => match d with
  | .int i => .ok (some i)
  | _ => .stuck := rfl
theorem eSl_ap (f : Env → Out D) (lo hi : Env → Out (Option Int)) (ρ : Env) : eSl f lo hi ρ = (f ρ).bind fun x => (lo ρ).bind fun l => (hi ρ).bind fun u => dSl x l u := rfl
theorem eSlSt_ap (f : Env → Out D) (lo hi st : Env → Out (Option Int)) (ρ : Env) : eSlSt f lo hi st ρ = (f ρ).bind fun x => (lo ρ).bind fun l => (hi ρ).bind fun u => (st ρ).bind fun s => dSlSt x l u s := rfl
theorem eS2_ap (F : Str → Str → D) (fa fb : Env → Out D) (ρ : Env) : eS2 F fa fb ρ = (fa ρ).bind fun x => match x with
  | .str a => (fb ρ).bind fun y => match y with
    | .str b => .ok (F a b)
    | _ => .stuck
  | _ => .stuck := rfl
theorem eLc_ap (vs : List Nat) (G : D → Env → Out Env) (it : Env → Out (List D)) (tt : Env → Out Bool) (f : Env → Out D) (ρ : Env) : eLc vs G it tt f ρ = (it ρ).bind fun ds => chk (ds.length ≤ sizeLine) ((lcL G tt f (wipeE ρ vs) ds).bind fun ys => .ok (.lst ys)) := rfl
theorem bYes_ap (ρ : Env) : bYes ρ = .ok true := rfl
theorem wipeE_nil (ρ : Env) : wipeE ρ [] = ρ := rfl
theorem wipeE_cons (ρ : Env) (v : Nat) (vs : List Nat) : wipeE ρ (v :: vs) = (wipeE ρ vs).set v none := rfl
theorem eGet2_ap (fd fk fx : Env → Out D) (ρ : Env) : eGet2 fd fk fx ρ = (fd ρ).bind fun d => match d with
  | .dic kvs => (fk ρ).bind fun k => (fx ρ).bind fun x => chk (DKey kvs k) (.ok ((dicGet kvs k).getD x))
  | _ => .stuck := rfl
theorem sPut_ap (i : Nat) (fk fv : Env → Out D) (ρ : Env) : sPut i fk fv ρ = oS (fv ρ) fun v => oS (eV i ρ) fun x => oS (fk ρ) fun k => oS (putO x k v) fun y => .nx (ρ.set i (some y)) := rfl
theorem dSl_lst (ds : List D) (lo hi : Option Int) : dSl (.lst ds) lo hi = .ok (.lst (cutD ds lo hi)) := rfl
theorem dSl_tup (ds : List D) (lo hi : Option Int) : dSl (.tup ds) lo hi = .ok (.tup (cutD ds lo hi)) := rfl
theorem dSl_scr (ns : List Int) (lo hi : Option Int) : dSl (.scr ns) lo hi = .ok (.lst ((cutD ns lo hi).map .int)) := rfl
theorem dSl_str {z : Str} (h : z.length ≤ 16777216) (lo hi : Option Int) : dSl (.str z) lo hi = .ok (.str (cutS z lo hi)) := chk_pos h
theorem cList_lst (ds : List D) : cList [.lst ds] = .ok (.lst ds) := rfl
theorem cList_tup (ds : List D) : cList [.tup ds] = .ok (.lst ds) := rfl
theorem cTuple_lst (ds : List D) : cTuple [.lst ds] = .ok (.tup ds) := rfl
theorem cTuple_tup (ds : List D) : cTuple [.tup ds] = .ok (.tup ds) := rfl
theorem lcL_nil (G : D → Env → Out Env) (tt : Env → Out Bool) (f : Env → Out D) (ρ : Env) : lcL G tt f ρ [] = .ok [] := rfl
theorem lcL_cons (G : D → Env → Out Env) (tt : Env → Out Bool) (f : Env → Out D) (ρ : Env) (d : D) (ds : List D) : lcL G tt f ρ (d :: ds) = (G d ρ).nox.bind fun ρ1 => (tt ρ1).nox.bind fun b => if b = true then (f ρ1).nox.bind fun y => (lcL G tt f ρ ds).bind fun ys => .ok (y :: ys) else lcL G tt f ρ ds := rfl
end PD

namespace PD
open PySem PySem.Spec L2
open PyProof.Rows hiding St

def SO.at (o : SO) (i : Nat) (d : D) : SO := match o with
  | .nx r => .nx (r.set i (some d))
  | .bk r => .bk (r.set i (some d))
  | .ct r => .ct (r.set i (some d))
  | o => o
section
variable {i j : Nat}
end

noncomputable def sRow (i j : Nat) (fk fv : Env → Out D) : Env → SO := fun r => match r[i]? with
  | some (some (.dic kvs)) => oS (fk r) fun k => chkS (flatK k = true ∧ kvs.length < sizeLine ∧ j < r.length) (match (dicGet kvs k).getD (.lst []) with
    | .lst ds => oS (fv (r.set j none)) fun v => chkS (ds.length < sizeLine) (.nx ((r.set j none).set i (some (.dic (dicPut kvs k (.lst (ds ++ [v])))))))
    | _ => .stuck)
  | _ => .stuck

section
variable {K : PySem.W.Frag} {mg : Mg} {g0 Hf H Hf' H' : Hp}
def RowAt (K : PySem.W.Frag) (mg : Mg) (g0 Hf H : Hp) (d : D) (v : V) : Prop := ∃ ds b ys, d = .lst ds ∧ v = .ref b ∧ g0 b = none ∧ Hf b = none ∧ H b = some (.lst ys) ∧ IsDs K mg Hf ds ys
def Rows (K : PySem.W.Frag) (mg : Mg) (g0 Hf H : Hp) : List (D × D) → List (Key × V) → Prop
  | [], xs => xs = []
  | p :: ps, xs => ∃ q qs, xs = q :: qs ∧ p.1 = kD q.1 ∧ RowAt K mg g0 Hf H p.2 q.2 ∧ Rows K mg g0 Hf H ps qs
theorem RowAt.mono {d : D} {v : V} (s1 : Same Hf Hf') (s2 : Same H H') (nw : ∀ b o, Hf b = none → H b = some o → Hf' b = none) (h : RowAt K mg g0 Hf H d v) : RowAt K mg g0 Hf' H' d v := by
  obtain ⟨ds, b, ys, e1, e2, z0, zf, q, r⟩ := h
  exact ⟨ds, b, ys, e1, e2, z0, nw _ _ zf q, s2 _ _ q, IsDs.mono s1 r⟩
theorem Rows.mono (s1 : Same Hf Hf') (s2 : Same H H') (nw : ∀ b o, Hf b = none → H b = some o → Hf' b = none) : ∀ {ps : List (D × D)} {xs : List (Key × V)}, Rows K mg g0 Hf H ps xs → Rows K mg g0 Hf' H' ps xs
  | [], _, h => h
  | _ :: _, _, ⟨q, qs, e, k, r, t⟩ => ⟨q, qs, e, k, r.mono s1 s2 nw, Rows.mono s1 s2 nw t⟩
theorem Rows.other {b : Addr} {o : HO} : ∀ {ps : List (D × D)} {xs : List (Key × V)}, (V.ref b ∉ xs.map (·.2)) → Rows K mg g0 Hf H ps xs → Rows K mg g0 Hf (upd H b o) ps xs
  | [], _, _, h => h
  | _ :: _, _, n, ⟨q, qs, e, k, ⟨ds, c, ys, e1, e2, z0, zf, hq, r⟩, t⟩ => by
    subst e
    rw [List.map_cons, List.mem_cons, not_or] at n
    exact ⟨q, qs, rfl, k, ⟨ds, c, ys, e1, e2, z0, zf, by rw [upd_ne (fun z => n.1 (by rw [e2, z]))]; exact hq, r⟩, Rows.other n.2 t⟩
theorem Rows.keys : ∀ {ps : List (D × D)} {xs : List (Key × V)}, Rows K mg g0 Hf H ps xs → ps.map (·.1) = xs.map fun q => kD q.1
  | [], _, h => by cases h; rfl
  | _ :: _, _, ⟨q, qs, e, k, _, t⟩ => by subst e; rw [List.map_cons, List.map_cons, k, Rows.keys t]
theorem Rows.len {ps : List (D × D)} {xs : List (Key × V)} (h : Rows K mg g0 Hf H ps xs) : xs.length = ps.length := by
  have := congrArg List.length h.keys
  simpa using this.symm
theorem Rows.get (κ : Key) : ∀ {ps : List (D × D)} {xs : List (Key × V)}, Rows K mg g0 Hf H ps xs → match dicGet ps (kD κ) with
    | some d => ∃ v, valV xs κ = some v ∧ RowAt K mg g0 Hf H d v
    | none => valV xs κ = none
  | [], xs, h => by cases h; rfl
  | (k, d) :: ps, xs, ⟨q, qs, e, k1, r, t⟩ => by
    subst e
    simp only at k1 r
    by_cases z : q.1 = κ
    · rw [dicGet_pos (by rw [k1, z])]
      exact ⟨q.2, valV_pos z, r⟩
    · rw [dicGet_neg (fun y => z (kD_inj (k1.symm.trans y))), valV_neg z]
      exact Rows.get κ t
theorem Rows.snoc {κ : Key} {b : Addr} {ds' : List D} {ys' : List V} (r' : IsDs K mg Hf ds' ys') (z0 : g0 b = none) (zf : Hf b = none) (e : H b = some (.lst ys')) : ∀ {ps : List (D × D)} {xs : List (Key × V)}, Rows K mg g0 Hf H ps xs →
    Rows K mg g0 Hf H (ps ++ [(kD κ, .lst ds')]) (xs ++ [(κ, .ref b)])
  | [], _, h => by cases h; exact ⟨_, [], rfl, rfl, ⟨ds', b, ys', rfl, rfl, z0, zf, e, r'⟩, rfl⟩
  | _ :: _, _, ⟨q, qs, eq, k, r, t⟩ => by
    subst eq
    exact ⟨q, qs ++ [(κ, .ref b)], rfl, k, r, Rows.snoc r' z0 zf e t⟩
theorem Rows.data {F : Hp} (s : Same Hf F) : ∀ {ps : List (D × D)} {xs : List (Key × V)}, (∀ v ∈ xs.map (·.2), ∀ b, v = .ref b → F b = H b) → Rows K mg g0 Hf H ps xs → IsKVs K mg F ps xs
  | [], _, _, h => by cases h; simp only [IsKVs]
  | p :: ps, _, n, ⟨q, qs, eq, k, ⟨ds, c, ys, e3, e4, z0, zf, hq, r⟩, t⟩ => by
    subst eq
    obtain ⟨p1, p2⟩ := p
    simp only [IsKVs, IsKV]
    refine ⟨q, qs, rfl, ⟨k, ?_⟩, Rows.data s (fun v m => n v (List.mem_cons_of_mem _ m)) t⟩
    simp only at e3
    rw [e3]
    simp only [IsD]
    exact ⟨c, ys, e4, (n _ List.mem_cons_self c e4).trans hq, IsDs.mono s r⟩
structure Deep (K : PySem.W.Frag) (mg : Mg) (g0 Hf H : Hp) (a : Addr) (kvs : List (D × D)) (xs : List (Key × V)) : Prop where
  at_ : H a = some (.dK xs)
  z0 : g0 a = none
  zf : Hf a = none
  rows : Rows K mg g0 Hf H kvs xs
  n1 : (xs.map (·.1)).Nodup
  n2 : (xs.map (·.2)).Nodup
theorem Deep.mono {a : Addr} {kvs : List (D × D)} {xs : List (Key × V)} (s1 : Same Hf Hf') (s2 : Same H H') (nw : ∀ b o, Hf b = none → H b = some o → Hf' b = none) (h : Deep K mg g0 Hf H a kvs xs) : Deep K mg g0 Hf' H' a kvs xs :=
  ⟨s2 _ _ h.at_, h.z0, nw _ _ h.zf h.at_, h.rows.mono s1 s2 nw, h.n1, h.n2⟩
end
section
variable {X : Cx} {g : G} {E : WX} {ro : Bool} {Γl Γ Γ1 Γ2 Γ3 : List Bool} {m : Md} {pos : Pos} {ρ ρ' : Env} {σ σ' : St} {Hf H Hf' H' : Hp}
theorem Rp.out (no : ∀ i, ¬ Own Γ i) (R : Rp X.K X.mw g Γ ρ σ Hf H) (R' : Rp X.K X.mw ⟨H, Hf, g.slf⟩ Γ ρ' σ' Hf' H') : Rp X.K X.mw g Γ ρ' σ' Hf' H' := by
  refine ⟨R'.same, R.ent.trans R'.ent, R.ent2.trans R'.ent2, fun a o e => ?_, R'.len, fun i d o e => (no i o).elim, R'.dat, fun i j d e v n o => (no i o).elim⟩
  rcases R'.news a o e with z | z
  · exact R.news a o z
  · exact .inr (R.ent.free z)
theorem Rp.keep (no : ∀ i, ¬ Own Γ i) (R : Rp X.K X.mw g Γ ρ σ Hf H) : Rp X.K X.mw ⟨H, Hf, g.slf⟩ Γ ρ σ Hf H :=
  ⟨R.same, Same.refl _, Same.refl _, fun a o e => .inl e, R.len, fun i d o e => (no i o).elim, R.dat, fun i j d e v n o => (no i o).elim⟩
theorem Rp.nw (R' : Rp X.K X.mw ⟨H, Hf, g.slf⟩ Γ ρ' σ' Hf' H') : ∀ b o, Hf b = none → H b = some o → Hf' b = none := fun b o e1 e2 => by
  cases z : Hf' b with
  | none => rfl
  | some o' =>
    rcases R'.news b o' z with y | y
    · rw [show Hf b = some o' from y] at e1; cases e1
    · rw [show H b = none from y] at e2; cases e2
theorem Rp.adr (R : Rp X.K X.mw g Γ ρ σ Hf H) {i : Nat} {a : Addr} (no : ¬ Own Γ i) (e : ρ[i]? = some (some (.adr a))) : σ[i]? = some (some (.ref a)) := by
  obtain ⟨v, ev, r⟩ := R.dat i _ no e
  simp only [IsD] at r
  subst r
  exact ev
theorem Rp.any (no : ∀ i, ¬ Own Γ i) (R : Rp X.K X.mw g Γ ρ σ Hf H) {a : Addr} {o' : HO} (z0 : g.H0 a = none) (zf : Hf a = none) : Rp X.K X.mw g Γ ρ σ Hf (upd H a o') :=
  R.other z0 zf fun i e o => (no i o).elim
noncomputable def sForR (i : Nat) (G : D → Env → Out Env) (it : Env → Out (List D)) (b : Env → SO) : Env → SO := fun ρ => chkS (ρ[i]? = some (some (.dic []))) (sFor G it b ρ)
end
end PD

namespace PD
open PySem PySem.Spec L2
open PyProof.Rows hiding St

section
variable {X : Cx} {g : G} {E : WX} {ro : Bool} {Γl Γ Γ0 : List Bool}
variable {pos : Pos}
def oneB (Γ : List Bool) (i : Nat) : Bool := (List.range Γ.length).all fun k => !(Γ.getD k false) || k == i
theorem one_of {Γ : List Bool} {i : Nat} (h : oneB Γ i = true) : ∀ k, Own Γ k → k = i := fun k o => by
  have lk : k < Γ.length := by
    cases Nat.lt_or_ge k Γ.length with
    | inl z => exact z
    | inr z => unfold Own at o; rw [List.getD_eq_getElem?_getD, List.getElem?_eq_none z] at o; cases o
  have := List.all_eq_true.mp h k (List.mem_range.mpr lk)
  unfold Own at o
  rw [o] at this
  simpa using this
theorem sForR_ap (i : Nat) (G : D → Env → Out Env) (it : Env → Out (List D)) (b : Env → SO) (ρ : Env) : sForR i G it b ρ = chkS (ρ[i]? = some (some (.dic []))) (oS (it ρ) fun ds => forL G b ds ρ) := rfl
def eD (i : Nat) : Env → Out (List (D × D)) := fun ρ => match ρ[i]? with
  | some (some (.dic xs)) => .ok xs
  | _ => .stuck
theorem eD_0 (xs : List (D × D)) (ρ : Env) : eD 0 (some (.dic xs) :: ρ) = .ok xs := rfl
theorem eD_s (i : Nat) (x : Option D) (ρ : Env) : eD (i + 1) (x :: ρ) = eD i ρ := by simp [eD]
def asL : Option D → Out (List D)
  | none => .ok []
  | some (.lst ds) => .ok ds
  | _ => .stuck
theorem asL_none : asL none = .ok [] := rfl
theorem asL_some (ds : List D) : asL (some (.lst ds)) = .ok ds := rfl
theorem sRow_ap (i j : Nat) (fk fv : Env → Out D) (ρ : Env) : sRow i j fk fv ρ = oS (eD i ρ) fun kvs => oS (fk ρ) fun k => chkS (flatK k = true ∧ kvs.length < sizeLine ∧ j < ρ.length) (oS (asL (dicGet kvs k)) fun ds => oS (fv (ρ.set j none)) fun v => chkS (ds.length < sizeLine) (.nx ((ρ.set j none).set i (some (.dic (dicPut kvs k (.lst (ds ++ [v]))))))) ) := by
  unfold sRow eD
  cases ρ[i]? with
  | none => rfl
  | some o =>
    cases o with
    | none => rfl
    | some d =>
      cases d with
      | dic kvs =>
        show (oS (fk ρ) fun k => _) = oS (Out.ok kvs) fun kvs => oS (fk ρ) fun k => _
        rw [oS_ok]
        congr 1
        funext k
        congr 1
        cases dicGet kvs k with
        | none => rfl
        | some d => cases d <;> rfl
      | _ => rfl
end
end PD

namespace PD
open PySem PySem.Spec L2
open PyProof.Rows hiding St

theorem chk_bind {α β : Type} (p : Prop) (o : Out α) (k : α → Out β) : (chk p o).bind k = chk p (o.bind k) := by
  by_cases h : p
  · rw [chk_pos h, chk_pos h]
  · rw [chk_neg h, chk_neg h]; rfl
theorem oS_chk {α : Type} (p : Prop) (o : Out α) (k : α → SO) : oS (chk p o) k = chkS p (oS o k) := by
  by_cases h : p
  · rw [chk_pos h, chkS_pos h]
  · rw [chk_neg h, chkS_neg h]; rfl
theorem chkS_andThen (p : Prop) (o : SO) (k : Env → SO) : (chkS p o).andThen k = chkS p (o.andThen k) := by
  by_cases h : p
  · rw [chkS_pos h, chkS_pos h]
  · rw [chkS_neg h, chkS_neg h]; rfl
theorem chkS_turn (p : Prop) (o : SO) (k : Env → SO) : (chkS p o).turn k = chkS p (o.turn k) := by
  by_cases h : p
  · rw [chkS_pos h, chkS_pos h]
  · rw [chkS_neg h, chkS_neg h]; rfl
theorem chkS_res (p : Prop) (o : SO) : (chkS p o).res = chk p o.res := by
  by_cases h : p
  · rw [chkS_pos h, chk_pos h]
  · rw [chkS_neg h, chk_neg h]; rfl
theorem chk_nox {α : Type} (p : Prop) (o : Out α) : (chk p o).nox = chk p o.nox := by
  by_cases h : p
  · rw [chk_pos h, chk_pos h]
  · rw [chk_neg h, chk_neg h]; rfl
theorem chk_ok {α : Type} (p : Prop) (o : Out α) (a : α) : chk p o = .ok a ↔ p ∧ o = .ok a := by
  by_cases h : p
  · rw [chk_pos h]; exact ⟨fun e => ⟨h, e⟩, fun e => e.2⟩
  · rw [chk_neg h]; exact ⟨fun e => (by cases e), fun e => absurd e.1 h⟩
theorem chk_go {α : Type} {p : Prop} {o r : Out α} (h : p) (e : o = r) : chk p o = r := (chk_pos h).trans e
theorem chkS_go {p : Prop} {o r : SO} (h : p) (e : o = r) : chkS p o = r := (chkS_pos h).trans e
theorem chk_true {α : Type} (o : Out α) : chk True o = o := chk_pos trivial
theorem chkS_true (o : SO) : chkS True o = o := chkS_pos trivial
theorem mul_chk (i j : Int) : dMul (.int i) (.int j) = chk (CMulX i j) (.ok (.int (i * j))) := rfl
theorem div_chk (i j : Int) : dDiv (.int i) (.int j) = chk (CDivW i j) (.ok (.int (i / j))) := rfl
theorem mod_chk (i j : Int) : dMod (.int i) (.int j) = chk (0 < j) (.ok (.int (i % j))) := rfl
theorem cmul_sz {n m : Nat} {i j : Int} (h : Sz n i) (k : Sz m j) (l : n + m ≤ 134217728) : CMulX i j := by
  have := dMul_int h k l
  rw [mul_chk, chk_ok] at this
  exact this.1
theorem cdiv_sz {n : Nat} {i j : Int} (h : 0 < j) (k : Sz n j) (l : n ≤ 9000) : CDivW i j := by
  have := dDiv_int (i := i) h k l
  rw [div_chk, chk_ok] at this
  exact this.1
theorem rng1_chk (j : Int) : rng1 [.int j] = chk (-(2 ^ 62) ≤ j ∧ j < 2 ^ 62) (.ok ((List.range j.toNat).map fun (n : Nat) => .int n)) := rfl
theorem rng2_chk (i j : Int) : rng2 [.int i, .int j] = chk ((-(2 ^ 62) ≤ i ∧ i < 2 ^ 62) ∧ -(2 ^ 62) ≤ j ∧ j < 2 ^ 62) (.ok ((List.range (j - i).toNat).map fun (n : Nat) => .int (i + n))) := rfl
theorem len_ok {n : Nat} (h : n ≤ 16777216) : n ≤ sizeLine := h
theorem len_lt {n : Nat} (h : n < 16777216) : n < sizeLine := h

def SO.cont (o : SO) : SO := match o with
  | .ct r => .nx r
  | o => o
theorem cont_nx (r : Env) : (SO.nx r).cont = .nx r := rfl
theorem cont_ct (r : Env) : (SO.ct r).cont = .nx r := rfl
theorem cont_chkS (p : Prop) (o : SO) : (chkS p o).cont = chkS p o.cont := by
  by_cases h : p
  · rw [chkS_pos h, chkS_pos h]
  · rw [chkS_neg h, chkS_neg h]; rfl
theorem cont_ite (c : Prop) [Decidable c] (a b : SO) : (if c then a else b).cont = if c then a.cont else b.cont := by split <;> rfl
theorem cont_rt (d : D) : (SO.rt d).cont = .rt d := rfl
theorem cont_bk (r : Env) : (SO.bk r).cont = .bk r := rfl
theorem turn_of_cont {o : SO} {r : Env} (h : o.cont = .nx r) (k : Env → SO) : o.turn k = k r := by
  cases o with
  | nx r' => cases h; rfl
  | ct r' => cases h; rfl
  | _ => cases h
theorem forL_step {G : D → Env → Out Env} {b : Env → SO} {d : D} {ds : List D} {ρ ρ' : Env} (h : (oS (G d ρ) b).cont = .nx ρ') : forL G b (d :: ds) ρ = forL G b ds ρ' := by
  rw [forL_cons]
  cases hG : G d ρ with
  | ok r => rw [hG] at h; exact turn_of_cont h _
  | exc x => rw [hG] at h; cases h
  | stuck => rw [hG] at h; cases h
theorem forL_inv {α : Type} (enc : α → D) {G : D → Env → Out Env} {b : Env → SO} (I : List α → Env → Prop) (xs : List α) {ρ : Env} (h0 : I [] ρ)
    (hs : ∀ pre x post ρ, xs = pre ++ x :: post → I pre ρ → ∃ ρ', (oS (G (enc x) ρ) b).cont = .nx ρ' ∧ I (pre ++ [x]) ρ') : ∃ ρ', forL G b (xs.map enc) ρ = .nx ρ' ∧ I xs ρ' := by
  have key : ∀ (post pre : List α) (ρ : Env), xs = pre ++ post → I pre ρ → ∃ ρ', forL G b (post.map enc) ρ = .nx ρ' ∧ I xs ρ' := by
    intro post
    induction post with
    | nil => intro pre ρ e h; rw [List.append_nil] at e; subst e; exact ⟨ρ, rfl, h⟩
    | cons x post ih =>
      intro pre ρ e h
      obtain ⟨ρ1, e1, h1⟩ := hs pre x post ρ e h
      obtain ⟨ρ2, e2, h2⟩ := ih (pre ++ [x]) ρ1 (by simp [e]) h1
      exact ⟨ρ2, by rw [List.map_cons, forL_step e1, e2], h2⟩
  exact key xs [] ρ rfl h0
theorem forL_range {G : D → Env → Out Env} {b : Env → SO} (I : Nat → Env → Prop) (n : Nat) {ρ : Env} (h0 : I 0 ρ)
    (hs : ∀ k ρ, k < n → I k ρ → ∃ ρ', (oS (G (.int (k : Nat)) ρ) b).cont = .nx ρ' ∧ I (k + 1) ρ') : ∃ ρ', forL G b ((List.range n).map fun (k : Nat) => .int k) ρ = .nx ρ' ∧ I n ρ' := by
  have := forL_inv (fun (k : Nat) => D.int k) (G := G) (b := b) (fun pre ρ => ∃ k, pre = List.range k ∧ I k ρ) (List.range n) (ρ := ρ) ⟨0, rfl, h0⟩ fun pre x post ρ e ⟨k, ek, hk⟩ => by
    subst ek
    have hl := congrArg List.length e
    simp at hl
    have hx : x = k := by
      have hk2 : k < n := by omega
      have h3 : (List.range n)[k]? = some x := by rw [e, List.getElem?_append_right (by simp)]; simp
      rw [List.getElem?_range hk2] at h3
      exact (Option.some.inj h3).symm
    subst hx
    obtain ⟨ρ', e', h'⟩ := hs x ρ (by omega) hk
    exact ⟨ρ', e', x + 1, by rw [List.range_succ], h'⟩
  obtain ⟨ρ', e, k, ek, h⟩ := this
  have hk := congrArg List.length ek
  simp at hk
  subst hk
  exact ⟨ρ', e, h⟩
theorem lcL_map {α : Type} (enc : α → D) (f : α → D) {G : D → Env → Out Env} {tt : Env → Out Bool} {fe : Env → Out D} {ρ : Env} : ∀ (xs : List α), (∀ x ∈ xs, ((G (enc x) ρ).nox.bind fun ρ1 => (tt ρ1).nox.bind fun b => if b = true then (fe ρ1).nox else .stuck) = .ok (f x)) →
    lcL G tt fe ρ (xs.map enc) = .ok (xs.map f)
  | [], _ => rfl
  | x :: xs, h => by
    have ih := lcL_map enc f xs fun y hy => h y (List.mem_cons_of_mem _ hy)
    have hx := h x List.mem_cons_self
    rw [List.map_cons, lcL_cons, ih]
    cases h1 : (G (enc x) ρ).nox with
    | ok ρ1 =>
      rw [h1, Out.bind_ok] at hx
      rw [Out.bind_ok]
      cases h2 : (tt ρ1).nox with
      | ok b =>
        rw [h2, Out.bind_ok] at hx
        rw [Out.bind_ok]
        cases b with
        | true =>
          rw [if_pos rfl] at hx ⊢
          rw [hx]; rfl
        | false => rw [if_neg Bool.false_ne_true] at hx; cases hx
      | exc x => rw [h2] at hx; cases hx
      | stuck => rw [h2] at hx; cases hx
    | exc x => rw [h1] at hx; cases hx
    | stuck => rw [h1] at hx; cases hx
theorem lcL_filter {α : Type} (enc : α → D) (p : α → Bool) (f : α → D) {G : D → Env → Out Env} {tt : Env → Out Bool} {fe : Env → Out D} {ρ : Env} : ∀ (xs : List α), (∀ x ∈ xs, ((G (enc x) ρ).nox.bind fun ρ1 => (tt ρ1).nox.bind fun b => if b = true then ((fe ρ1).nox.bind fun y => .ok (some y)) else .ok none) = .ok (if p x = true then some (f x) else none)) →
    lcL G tt fe ρ (xs.map enc) = .ok ((xs.filter p).map f)
  | [], _ => rfl
  | x :: xs, h => by
    have ih := lcL_filter enc p f xs fun y hy => h y (List.mem_cons_of_mem _ hy)
    have hx := h x List.mem_cons_self
    rw [List.map_cons, lcL_cons, ih]
    cases h1 : (G (enc x) ρ).nox with
    | ok ρ1 =>
      rw [h1, Out.bind_ok] at hx
      rw [Out.bind_ok]
      cases h2 : (tt ρ1).nox with
      | ok b =>
        rw [h2, Out.bind_ok] at hx
        rw [Out.bind_ok]
        cases b with
        | true =>
          rw [if_pos rfl] at hx ⊢
          cases h3 : (fe ρ1).nox with
          | ok y =>
            rw [h3, Out.bind_ok] at hx
            by_cases c : p x = true
            · rw [if_pos c] at hx
              rw [List.filter_cons_of_pos c]
              cases hx; rfl
            · rw [if_neg c] at hx; cases hx
          | exc x => rw [h3] at hx; cases hx
          | stuck => rw [h3] at hx; cases hx
        | false =>
          rw [if_neg Bool.false_ne_true] at hx ⊢
          by_cases c : p x = true
          · rw [if_pos c] at hx; cases hx
          · rw [List.filter_cons_of_neg c]
      | exc x => rw [h2] at hx; cases hx
      | stuck => rw [h2] at hx; cases hx
    | exc x => rw [h1] at hx; cases hx
    | stuck => rw [h1] at hx; cases hx
theorem ixt0 (a : D) (l : List D) : dIx (.tup (a :: l)) (.int 0) = .ok a := dIx_tup (k := 0) rfl
theorem ixt1 (a b : D) (l : List D) : dIx (.tup (a :: b :: l)) (.int 1) = .ok b := dIx_tup (k := 1) rfl
theorem ixt2 (a b c : D) (l : List D) : dIx (.tup (a :: b :: c :: l)) (.int 2) = .ok c := dIx_tup (k := 2) rfl
theorem ixt3 (a b c d : D) (l : List D) : dIx (.tup (a :: b :: c :: d :: l)) (.int 3) = .ok d := dIx_tup (k := 3) rfl
theorem ixl0 (a : D) (l : List D) : dIx (.lst (a :: l)) (.int 0) = .ok a := dIx_lst (k := 0) rfl
theorem ixl1 (a b : D) (l : List D) : dIx (.lst (a :: b :: l)) (.int 1) = .ok b := dIx_lst (k := 1) rfl
theorem ixl2 (a b c : D) (l : List D) : dIx (.lst (a :: b :: c :: l)) (.int 2) = .ok c := dIx_lst (k := 2) rfl
theorem ixl3 (a b c d : D) (l : List D) : dIx (.lst (a :: b :: c :: d :: l)) (.int 3) = .ok d := dIx_lst (k := 3) rfl
end PD

namespace PD
open PySem PySem.Spec L2
open PyProof.Rows hiding St

section
variable {K : PySem.W.Frag} {mg : Mg} {H H' : Hp}
end
section
variable {X : Cx} {g : G} {E : WX} {ro : Bool} {Γl Γ Γ1 Γ2 : List Bool} {pos : Pos} {ρ ρ' : Env} {σ σ' : St} {Hf H Hf' H' F : Hp} {a : Addr} {u : HO} {od : Obj}
end
end PD

namespace PD
open PySem PySem.Spec L2
open PyProof.Rows hiding St

section
variable {X : Cx} {g : G} {E : WX} {ro : Bool} {Γl Γ Γ1 Γ2 : List Bool} {pos p : Pos} {ρ : Env}
def iRev (f : Env → Out D) : Env → Out (List D) := fun ρ => (f ρ).bind fun d => match d with
  | .lst ds => .ok ds.reverse
  | .tup ds => .ok ds.reverse
  | _ => .stuck
theorem rev_at {α : Type} {l : List α} {i : Nat} {x : α} (h : l.reverse[i]? = some x) : i < l.length ∧ l[l.length - 1 - i]? = some x := by
  have hi : i < l.length := by
    have := (List.getElem?_eq_some_iff.mp h).1
    simpa using this
  refine ⟨hi, ?_⟩
  rw [List.getElem?_reverse hi] at h
  exact h
theorem walks_revL {K : PySem.W.Frag} {mg : Mg} {H0 F1 : Hp} {a : Addr} {xs : List V} {ds : List D} (h : SqL K F1 a xs) (r : IsDs K mg F1 ds xs) : Walks K mg H0 (Itv K a xs.length) F1 ds.reverse := by
  intro g Γ ρ σ Hf H s R i
  have hq : SqL K H a xs := R.same.seq (s.seq h)
  refine ⟨fun d ed => ?_, fun l => ?_⟩
  · obtain ⟨hi, e⟩ := rev_at ed
    rw [← r.len] at e hi
    obtain ⟨v, ev, q⟩ := (IsDs.mono s r).at e
    refine ⟨⟨hi, xs, v, hq, ev⟩, fun x H' ⟨eH, ex⟩ => ?_⟩
    subst eH
    have := ex xs hq
    rw [ev] at this
    cases this
    exact ⟨Hf, Same.refl _, Same.refl _, R, q⟩
  · rw [List.length_reverse, ← r.len] at l
    exact l
theorem walks_revT {K : PySem.W.Frag} {mg : Mg} {H0 F1 : Hp} {a : Addr} {xs : List V} {ds : List D} (h : SqT K F1 a xs) (r : IsDs K mg F1 ds xs) : Walks K mg H0 (RT.ItvT K a xs.length) F1 ds.reverse := by
  intro g Γ ρ σ Hf H s R i
  have hq : L2.SqT K H a xs := (Same.seqT R.same (Same.seqT s h)).l
  refine ⟨fun d ed => ?_, fun l => ?_⟩
  · obtain ⟨hi, e⟩ := rev_at ed
    rw [← r.len] at e hi
    obtain ⟨v, ev, q⟩ := (IsDs.mono s r).at e
    refine ⟨⟨hi, xs, v, hq, ev⟩, fun x H' ⟨eH, ex⟩ => ?_⟩
    subst eH
    have := ex xs hq
    rw [ev] at this
    cases this
    exact ⟨Hf, Same.refl _, Same.refl _, R, q⟩
  · rw [List.length_reverse, ← r.len] at l
    exact l
theorem pix_rev {tg e : Expr} {f : Env → Out D} (hg : Gl X "reversed") (hm : X.mg "reversed" = none) (h : PX X g E Γ e Γ1 .fr f) (hs : starEach [e] X.env = (false, eval e X.env) :: starEach [] X.env := by rfl) : PIx X g E Γ tg (.Call (.Name "reversed" p) [e] [] pos) Γ1 (iRev f) := by
  refine ⟨h.le, (RT.pi_revA hg hm h.pe hs).imp fun σ H R ⟨ρ, Hf, R0, q⟩ => ⟨ρ, Hf, R0, ?_⟩⟩
  unfold iRev at q
  refine tG.bind (Le.refl _) q fun d F1 H1 s1 s2 R1 k v hv => ?_
  cases d with
  | lst ds =>
    have hv' : IsD X.K X.mw F1 (.lst ds) v := hv
    simp only [IsD] at hv'
    obtain ⟨a, xs, e, q', r⟩ := hv'
    refine ⟨a, xs, e, .inl ⟨R1.same.seq (.of q'), ?_⟩⟩
    exact k F1 H1 (Same.refl _) (Same.refl _) R1 _ (walks_revL (.of q') r)
  | tup ds =>
    have hv' : IsD X.K X.mw F1 (.tup ds) v := hv
    simp only [IsD] at hv'
    obtain ⟨a, xs, e, q', r⟩ := hv'
    refine ⟨a, xs, e, .inr ⟨(Same.seqT R1.same q').l, ?_⟩⟩
    exact k F1 H1 (Same.refl _) (Same.refl _) R1 _ (walks_revT q' r)
  | _ => exact k.elim

theorem iRev_ap (f : Env → Out D) (ρ : Env) : iRev f ρ = (f ρ).bind fun d => match d with
  | .lst ds => .ok ds.reverse
  | .tup ds => .ok ds.reverse
  | _ => .stuck := rfl
end
end PD

namespace PD
open PySem PySem.Spec L2
open PyProof.Rows hiding St

section
variable {X : Cx} {g : G} {E : WX} {ro : Bool} {Γl Γ Γ1 Γ2 : List Bool} {pos p : Pos} {ρ : Env} {m : Md}
theorem PX.pre {e : Expr} {f : Env → Out D} (h : PX X g E Γ e Γ1 m f) (le : Le Γ Γ2) : PX X g E Γ2 e Γ1 m f := by
  refine ⟨h.le.trans le, h.pe.imp fun σ H Q ⟨ρ, Hf, R, q⟩ => ?_⟩
  obtain ⟨F2, s3, R2, _⟩ := R.frz le
  exact ⟨ρ, F2, R2, tG.mono s3 (Same.refl _) q⟩
def sLM (i : Nat) (F : List D → List D → Out (List D)) (fa : Env → Out (List D)) : Env → SO := fun ρ => oS (eL i ρ) fun xs => oS (fa ρ) fun ds => oS (F xs ds) fun xs' => .nx (ρ.set i (some (.lst xs')))
def LMok (X : Cx) (id : String) (F : List D → List D → Out (List D)) : Prop := (∀ xs ds x, F xs ds ≠ .exc x) ∧ ∃ r, MtR X id r ∧ ∀ (Hf H : Hp) (p : Addr) (xs ds : List D) (ys vs : List V) (Q : VK), Same Hf H → H p = some (.lst ys) → Hf p = none → IsDs X.K X.mw Hf xs ys → IsDs X.K X.mw Hf ds vs →
  (match F xs ds with
    | .ok xs' => ∀ ys', IsDs X.K X.mw Hf xs' ys' → Q .non (upd H p (.lst ys'))
    | _ => False) → r (.ref p) vs H Q
noncomputable def lmInsert : List D → List D → Out (List D) := fun xs ds => match ds with
  | [.int i, d] => chk (xs.length < sizeLine ∧ 0 ≤ i ∧ i < 2 ^ 63) (.ok (xs.take i.toNat ++ [d] ++ xs.drop i.toNat))
  | _ => .stuck
theorem LMok.of {id : String} {F : List D → List D → Out (List D)} (nx : ∀ xs ds x, F xs ds ≠ .exc x) {r : V → List V → Hp → VK → Prop} (mt : MtR X id r) (h : ∀ (Hf H : Hp) (p : Addr) (xs ds xs' : List D) (ys vs : List V) (Q : VK), Same Hf H → H p = some (.lst ys) → Hf p = none → IsDs X.K X.mw Hf xs ys → IsDs X.K X.mw Hf ds vs →
    F xs ds = .ok xs' → (∀ ys', IsDs X.K X.mw Hf xs' ys' → Q .non (upd H p (.lst ys'))) → r (.ref p) vs H Q) : LMok X id F := by
  refine ⟨nx, r, mt, fun Hf H p xs ds ys vs Q s e zf rr hv k => ?_⟩
  cases hF : F xs ds with
  | ok xs' => rw [hF] at k; exact h Hf H p xs ds xs' ys vs Q s e zf rr hv hF k
  | exc x => rw [hF] at k; exact k.elim
  | stuck => rw [hF] at k; exact k.elim
noncomputable def lmExtend : List D → List D → Out (List D) := fun xs ds => match ds with
  | [.lst zs] => chk (xs.length + zs.length ≤ sizeLine) (.ok (xs ++ zs))
  | [.tup zs] => chk (xs.length + zs.length ≤ sizeLine) (.ok (xs ++ zs))
  | _ => .stuck
theorem sLM_ap (i : Nat) (F : List D → List D → Out (List D)) (fa : Env → Out (List D)) (ρ : Env) : sLM i F fa ρ = oS (eL i ρ) fun xs => oS (fa ρ) fun ds => oS (F xs ds) fun xs' => .nx (ρ.set i (some (.lst xs'))) := rfl
theorem lmInsert_ap (xs : List D) (i : Int) (d : D) : lmInsert xs [.int i, d] = chk (xs.length < sizeLine ∧ 0 ≤ i ∧ i < 2 ^ 63) (.ok (xs.take i.toNat ++ [d] ++ xs.drop i.toNat)) := rfl
theorem lmExtend_lst (xs zs : List D) : lmExtend xs [.lst zs] = chk (xs.length + zs.length ≤ sizeLine) (.ok (xs ++ zs)) := rfl
theorem lmExtend_tup (xs zs : List D) : lmExtend xs [.tup zs] = chk (xs.length + zs.length ≤ sizeLine) (.ok (xs ++ zs)) := rfl
noncomputable def sDPop (i : Nat) (fk : Env → Out D) : Env → SO := fun ρ => oS (eD i ρ) fun kvs => chkS (∀ p ∈ kvs, flatK p.1 = true) (oS (fk ρ) fun k => chkS (flatK k = true) (.nx (ρ.set i (some (.dic (dicDrop kvs k))))))
theorem IsKVs.drop {K : PySem.W.Frag} {mg : Mg} {H : Hp} (κ : Key) : ∀ {kvs : List (D × D)} {xs : List (Key × V)}, IsKVs K mg H kvs xs → IsKVs K mg H (dicDrop kvs (kD κ)) (dropK xs κ)
  | [], _, h => by simp only [IsKVs] at h; subst h; simp only [dicDrop, dropK, List.filter_nil, IsKVs]
  | (k, d) :: kvs, _, h => by
    simp only [IsKVs, IsKV] at h
    obtain ⟨⟨k', v⟩, us, rfl, ⟨e, q⟩, r⟩ := h
    simp only at e q
    subst e
    have ih := IsKVs.drop κ r
    unfold dicDrop dropK at ih ⊢
    by_cases z : k' = κ
    · rw [List.filter_cons_of_neg (by simp [z]), List.filter_cons_of_neg (by simp [z])]
      exact ih
    · rw [List.filter_cons_of_pos (by simp; exact fun y => z (kD_inj y)), List.filter_cons_of_pos (by simp [z])]
      simp only [IsKVs, IsKV]
      exact ⟨_, _, rfl, ⟨rfl, q⟩, ih⟩
theorem sDPop_ap (i : Nat) (fk : Env → Out D) (ρ : Env) : sDPop i fk ρ = oS (eD i ρ) fun kvs => chkS (∀ p ∈ kvs, flatK p.1 = true) (oS (fk ρ) fun k => chkS (flatK k = true) (.nx (ρ.set i (some (.dic (dicDrop kvs k)))))) := rfl
end
end PD

namespace PD
open PySem PySem.Spec L2
open PyProof.Rows hiding St

section
variable {X : Cx} {g : G} {E : WX} {ro : Bool} {Γl Γ Γ1 Γ2 : List Bool} {pos p : Pos} {ρ : Env} {m : Md}
structure GlT (K : PySem.W.Frag) (mg : Str → Option Value) (x : Str) (d : D) : Prop where
  ex : ∃ u v, mg x = some u ∧ RelV v u ∧ d.mut = false ∧ ∀ mg' H, IsD K mg' H d v
theorem glT_tup {K : PySem.W.Frag} {h : Heap} {mg : Str → Option Value} {x : Str} {a : Addr} {its : Array Value} {n : Nat} {osl : Array (Option Value)} {xs : List Str} (X : K.In h) (G : h.Ns mainGlobals mg)
    (e : PySem.W.nsIn K mainGlobals x = some (some (.ref a))) (l : K.lookup a = some ⟨.type "tuple", none, .seq its n, osl⟩) (z : its.size ≤ 1000) (v : Vals (xs.map V.str) its.toList) : GlT K mg x (.tup (xs.map D.str)) := by
  refine ⟨.ref a, .ref a, PySem.W.mg_of X G e, rfl, rfl, fun mg' H => ?_⟩
  simp only [IsD]
  refine ⟨a, xs.map V.str, rfl, .inr ⟨_, its, n, l, rfl, rfl, rfl, Nat.le_trans z (by decide), v⟩, ?_⟩
  clear v
  induction xs with
  | nil => simp only [List.map_nil, IsDs]
  | cons x xs ih =>
    simp only [List.map_cons, IsDs]
    exact ⟨_, _, rfl, by simp only [IsD], ih⟩
theorem glT_str {K : PySem.W.Frag} {h : Heap} {mg : Str → Option Value} {x : Str} {y : Str} {t : Tok} (X : K.In h) (G : h.Ns mainGlobals mg) (e : PySem.W.nsIn K mainGlobals x = some (some (.str y t))) : GlT K mg x (.str y) :=
  ⟨.str y t, .str y, PySem.W.mg_of X G e, ⟨t, rfl⟩, rfl, fun mg' H => by simp only [IsD]⟩
theorem glT_int {K : PySem.W.Frag} {h : Heap} {mg : Str → Option Value} {x : Str} {y : Int} {t : Tok} (X : K.In h) (G : h.Ns mainGlobals mg) (e : PySem.W.nsIn K mainGlobals x = some (some (.int y t))) : GlT K mg x (.int y) :=
  ⟨.int y t, .int y, PySem.W.mg_of X G e, ⟨t, rfl⟩, rfl, fun mg' H => by simp only [IsD]⟩
theorem px_glob {x : Str} {d : D} (h : GlT X.K X.mg x d) (hg : Gl X x) (hd : (x == ("__debug__" : Str)) = false := by decide) : PX X g E Γ (.Name x pos) Γ m (eC d) := by
  obtain ⟨u, v, e, r, n, i⟩ := h.ex
  exact .atom (pe_glob hg e r hd) n fun F v' e' => by subst e'; exact i _ F
noncomputable def dInDp (neg : Bool) : D → D → Out D
  | x, .lst ds => chk (SeqAt.shaped (toPy x) = true ∧ SeqAt.shaped (toPy (.lst ds)) = true) (.ok (.bl (if neg then !((toPys ds).any fun z => PyData.eqv z (toPy x)) else (toPys ds).any fun z => PyData.eqv z (toPy x))))
  | _, _ => .stuck
theorem Room.units65 {k : Nat} {A : Around} (r : Room k A) : A.units + 65 < cLine := by have := r.un; omega
theorem od_notinDp {kk : Nat} (hr : Room kk X.A) : OpD X (compareOp .NotIn) m (dInDp true) := by
  refine ⟨_, L2.op_notInD (Room.units65 hr), fun g E Γ ρ σ Hf H x y v u Q R hx hy k => ?_⟩
  unfold dInDp at k
  split at k
  · rename_i ds
    by_cases c : SeqAt.shaped (toPy x) = true ∧ SeqAt.shaped (toPy (.lst ds)) = true
    · rw [chk_pos c] at k
      refine ⟨_, _, dp_read R.same hx (SeqAt.canLay_of_shaped c.1), dp_read R.same hy (SeqAt.canLay_of_shaped c.2), c.1, c.2, ?_⟩
      exact k Hf H (Same.refl _) (Same.refl _) R _ (Res.dat R.same rfl (by simp only [IsD]; rfl))
    · rw [chk_neg c] at k; exact k.elim
  · exact k.elim
end
end PD

namespace PD
open PySem PySem.Spec L2
open PyProof.Rows hiding St

def pickT {α : Type} (xs : List α) (lo hi : Option Int) (k : Int) : List α :=
  (List.range (Builtin.Slice.slicePlaces (Builtin.Slice.sliceAdjust lo hi k xs.length).1 (Builtin.Slice.sliceAdjust lo hi k xs.length).2 k)).filterMap fun (m : Nat) => xs[((Builtin.Slice.sliceAdjust lo hi k xs.length).1 + (m : Int) * k).toNat]?
section
variable {prog : Program} {w : World} {A : Around} {E : Value → Shared → Prop} {z : Shared}
end
section
variable {K : PySem.W.Frag} {mg : Mg} {H : Hp}
theorem IsDs.pickN {ds : List D} {vs : List V} (h : IsDs K mg H ds vs) (F : Nat → Nat) : ∀ is : List Nat, IsDs K mg H (is.filterMap fun m => ds[F m]?) (is.filterMap fun m => vs[F m]?)
  | [] => by simp only [List.filterMap_nil, IsDs]
  | m :: is => by
    rw [List.filterMap_cons, List.filterMap_cons]
    cases e : ds[F m]? with
    | none =>
      have e2 : vs[F m]? = none := by
        rw [List.getElem?_eq_none_iff] at e ⊢
        rw [h.len]; exact e
      rw [e2]
      exact IsDs.pickN h F is
    | some d =>
      obtain ⟨v, ev, q⟩ := h.at e
      rw [ev]
      simp only [IsDs]
      exact ⟨v, _, rfl, q, IsDs.pickN h F is⟩
theorem IsDs.pickT {ds : List D} {vs : List V} (h : IsDs K mg H ds vs) (lo hi : Option Int) (k : Int) : IsDs K mg H (PD.pickT ds lo hi k) (PD.pickT vs lo hi k) := by
  unfold PD.pickT
  rw [h.len]
  exact IsDs.pickN h (fun m => ((Builtin.Slice.sliceAdjust lo hi k ds.length).1 + (m : Int) * k).toNat) _
end
section
variable {X : Cx} {g : G} {E : WX} {Γ Γ1 Γ2 Γ3 Γ4 : List Bool} {m : Md} {pos p2 : Pos} {a : Expr} {lo hi st : Option Expr} {fa : Env → Out D} {fl fu fs : Env → Out (Option Int)}
noncomputable def dSlS2 : D → Option Int → Option Int → Option Int → Out D
  | .lst ds, lo, hi, st => chk (st ≠ some 0) (.ok (.lst (pickL ds lo hi st)))
  | .tup ds, lo, hi, some k => chk (2 ≤ k ∧ (pickT ds lo hi k).length ≤ sizeLine) (.ok (.tup (pickT ds lo hi k)))
  | _, _, _, _ => .stuck
noncomputable def eSlS2 (f : Env → Out D) (lo hi st : Env → Out (Option Int)) : Env → Out D := fun ρ => (f ρ).bind fun x => (lo ρ).bind fun l => (hi ρ).bind fun u => (st ρ).bind fun s => dSlS2 x l u s
theorem eSlS2_ap (f : Env → Out D) (lo hi st : Env → Out (Option Int)) (ρ : Env) : eSlS2 f lo hi st ρ = (f ρ).bind fun x => (lo ρ).bind fun l => (hi ρ).bind fun u => (st ρ).bind fun s => dSlS2 x l u s := rfl
end
end PD

namespace PD
open PySem PySem.Spec L2
open PyProof.Rows hiding St

section
variable {K : PySem.W.Frag} {mg : Mg} {g : G} {Γ Γ2 : List Bool} {ρ : Env} {σ : St} {Hf H : Hp} {p : Addr} {o : HO}
def G.pin (g : G) (p : Addr) (o : HO) : G := ⟨upd g.H0 p o, g.F0, g.slf⟩
theorem Rp.pin (R : Rp K mg g Γ ρ σ Hf H) (n0 : g.H0 p = none) (hp : H p = some o) (nf : Hf p = none)
    (ap : ∀ i e, Own Γ i → ρ[i]? = some (some e) → e.mut = true → σ[i]? = some (some (.ref p)) → False) : Rp K mg (g.pin p o) Γ ρ σ Hf H := by
  refine ⟨R.same, fun b x e => ?_, R.ent2, fun a x e => ?_, R.len, fun i d ow e => ?_, R.dat, R.sep⟩
  · by_cases h : b = p
    · subst h
      have e : upd g.H0 b o b = some x := e
      rw [upd_same] at e; cases e; exact hp
    · have e : upd g.H0 p o b = some x := e
      rw [upd_ne h] at e; exact R.ent b x e
  · rcases R.news a x e with q | q
    · exact .inl q
    · right
      have h : a ≠ p := fun h => by subst h; rw [nf] at e; cases e
      show upd g.H0 p o a = none
      rw [upd_ne h]; exact q
  · obtain ⟨v, e1, io⟩ := R.own i d ow e
    refine ⟨v, e1, ?_⟩
    have key : d.mut = true → ∀ a, v = .ref a → a ≠ p := fun m a ea h => by
      subst h; subst ea; exact ap i d ow e m e1
    cases d with
    | lst ds =>
      obtain ⟨a, xs, rfl, z0, z⟩ := io
      exact ⟨a, xs, rfl, by show upd g.H0 p o a = none; rw [upd_ne (key rfl a rfl)]; exact z0, z⟩
    | dic ds =>
      obtain ⟨a, xs, rfl, z0, z⟩ := io
      exact ⟨a, xs, rfl, by show upd g.H0 p o a = none; rw [upd_ne (key rfl a rfl)]; exact z0, z⟩
    | ins c ds =>
      obtain ⟨a, xs, rfl, z0, z⟩ := io
      exact ⟨a, xs, rfl, by show upd g.H0 p o a = none; rw [upd_ne (key rfl a rfl)]; exact z0, z⟩
    | _ => exact io
end
section
variable {X : Cx} {E : WX} {Γ Γ1 Γ2 : List Bool} {pos : Pos} {fk fv : Env → Out D} {fr : Env → Out (List (D × D))} {ks : List (Option Expr)} {vs : List Expr} {k v : Expr}
def pN : Env → Out (List (D × D)) := fun _ => .ok []
noncomputable def pC (fk fv : Env → Out D) (fr : Env → Out (List (D × D))) : Env → Out (List (D × D)) := fun ρ => (fk ρ).bind fun x => (fv ρ).bind fun y => (fr ρ).bind fun r => .ok ((x, y) :: r)
noncomputable def dicOf (ps : List (D × D)) : List (D × D) := ps.foldl (fun l p => dicPut l p.1 p.2) []
noncomputable def eDisp (fr : Env → Out (List (D × D))) : Env → Out D := fun ρ => (fr ρ).bind fun ps => chk ((∀ p ∈ ps, flatK p.1 = true) ∧ ps.length ≤ 15) (.ok (.dic (dicOf ps)))
theorem pN_ap (ρ : Env) : pN ρ = .ok [] := rfl
theorem pC_ap (fk fv : Env → Out D) (fr : Env → Out (List (D × D))) (ρ : Env) : pC fk fv fr ρ = (fk ρ).bind fun x => (fv ρ).bind fun y => (fr ρ).bind fun r => .ok ((x, y) :: r) := rfl
theorem eDisp_ap (fr : Env → Out (List (D × D))) (ρ : Env) : eDisp fr ρ = (fr ρ).bind fun ps => chk ((∀ p ∈ ps, flatK p.1 = true) ∧ ps.length ≤ 15) (.ok (.dic (dicOf ps))) := rfl
end
end PD

namespace PD
open PySem PySem.Spec L2
open PyProof.Rows hiding St

section
variable {X : Cx} {g : G} {E : WX} {ro : Bool} {Γl Γ Γ1 Γ2 : List Bool} {pos p : Pos} {ρ : Env} {m : Md}
end
end PD

namespace PD
open PySem PySem.Spec L2
open PySem.W (dataLt alike AlikeAll maxD minD)
open PyProof.Rows hiding St

section
variable {X : Cx} {g : G} {E : WX} {ro : Bool} {Γl Γ Γ1 Γ2 : List Bool} {pos p : Pos} {ρ : Env} {m : Md}
end
end PD

namespace PD
open PySem PySem.Spec L2
open PyProof.Rows hiding St

section
variable {X : Cx} {g : G} {E : WX} {ro : Bool} {Γl Γ Γ1 Γ2 : List Bool} {pos p : Pos} {ρ : Env} {m : Md} {a b : Expr} {fa fb : Env → Out D}
end
end PD

namespace PD
open PySem PySem.Spec L2
open PyProof.Rows hiding St

def subC (c d : Str) : Bool := c == d || d == "RealError"
abbrev veT : List Value := [.type "ValueError", .type "Exception", .type "BaseException", .type "object"]
structure XC (K : PySem.W.Frag) (mg : Str → Option Value) (c : Str) (C : Addr) : Prop where
  m : mg c = some (.ref C)
  o : OexC K C
  ga : PySem.W.findIn K (.ref C) "__getattribute__" = some (some (.builtin "BaseException.__getattribute__"))
  gg : PySem.W.findIn K (.ref C) "__getattr__" = some none
  hd : PySem.W.hasDictIn K C = true
  ha : PySem.W.findIn K (.ref C) "__class__" = some (some (.builtin "object.__class__"))
  hm : PySem.W.mroIn K C (.type "object") = some true
  nf : PySem.W.findIn K (.ref C) "name" = some none ∧ PySem.W.findIn K (.ref C) "form" = some none
  ve : PySem.W.kitOne K (.ref C) (.type "ValueError") = some true
  own : (PySem.W.clsIn K C).isSome = true
structure XAll (K : PySem.W.Frag) (mg : Str → Option Value) (L : List Str) : Prop where
  hn : PySem.W.specialIn K (.builtin "object.__class__") "__get__" = some (some (.builtin "getset_descriptor.__get__"))
  ht : PySem.W.takesIn K (.builtin "object.__class__") = some true
  c : ∀ c ∈ L, ∃ C, XC K mg c C ∧ ∀ d ∈ L, ∃ C', mg d = some (.ref C') ∧ PySem.W.kitOne K (.ref C) (.ref C') = some (subC c d) ∧ PySem.W.exmOne K (.ref C) (.ref C') = some (subC c d)
structure XP (K : PySem.W.Frag) (mg : Str → Option Value) (c : Str) : Prop where
  ex : ∃ C, XC K mg c C ∧ PySem.W.excIn K C veT "ValueError.__new__" = true
structure XR (K : PySem.W.Frag) (mg : Str → Option Value) : Prop where
  ex : ∃ R mc, mg "RealError" = some (.ref R) ∧ PySem.W.readsIn K R mc = true ∧ PySem.W.specialIn K (.ref R) "__getattribute__" = some (some (.builtin "type.__getattribute__")) ∧ PySem.W.findCls K (.ref R) mc "__init__" = some (.val (.builtin "ValueError.__init__"))
section
variable {X : Cx} {e : Expr} {es : List Expr} {ta : TA} {p p1 p2 pos : Pos}
end

structure PMx (X : Cx) (g : G) (E : WX) (Γ : List Bool) (e : Expr) (Γ' : List Bool) (f : Env → Out Exn) : Prop where
  le : Le Γ' Γ
  pe : PMk X e (fun σ H Q => ∃ ρ Hf, Rp X.K X.mw g Γ ρ σ Hf H ∧ tG X.K X.mw g E Γ' ρ σ Hf H (fun x Hf' H' => ∀ c dd Hf2 H2, Same Hf' Hf2 → Same H' H2 → Rp X.K X.mw g Γ' ρ σ Hf2 H2 → IsX X.K X.mw x c dd Hf2 → Q c dd H2) (f ρ))
theorem PMk_imp {X : Cx} {e : Expr} {t t' : St → Hp → XK → Prop} (h : PMk X e t) (w : ∀ σ H Q, t' σ H Q → t σ H Q) : PMk X e t' := fun pins s σ H Q I q => h pins s σ H Q I (w σ H Q q)
def sRaise (f : Env → Out Exn) : Env → SO := fun ρ => oS (f ρ) .ex
def xP (c : Str) : Env → Out Exn := fun _ => .ok ⟨c, []⟩
def eX1 (c : Str) (fa : Env → Out (List D)) : Env → Out Exn := fun ρ => (fa ρ).bind fun ds => match ds with
  | [d] => .ok ⟨c, [("name", d)]⟩
  | _ => .stuck
def eX2 (c : Str) (fa : Env → Out (List D)) : Env → Out Exn := fun ρ => (fa ρ).bind fun ds => match ds with
  | [d, d'] => .ok ⟨c, [("form", d'), ("name", d)]⟩
  | _ => .stuck
section
variable {P : Program} {w : World} {K : PySem.W.Frag} {mg : Str → Option Value} {base : Heap} {q : Str} {st : Stmt} {fI : Addr} {fd : FuncData} {m : Str}
end
section
variable {X : Cx} {g : G} {E : WX} {ro : Bool} {Γl Γ Γ1 Γ2 : List Bool} {pos p p2 : Pos} {e e' : Expr} {es : List Expr} {fa : Env → Out (List D)} {c q : Str} {st : Stmt} {k : Nat}
theorem psx_raise {f : Env → Out Exn} (hc : X.calm = true) (tk : Takes X E) (he : PMx X g E Γ e Γ1 f) : PSx X g E ro Γl Γ (.Raise (some e) none pos) Γ2 (sRaise f) := by
  refine ⟨(ps_raise hc tk he.pe).imp fun Dn σ H ⟨ρ, Hf, R, q⟩ => ⟨ρ, Hf, R, tG.toS q fun x F1 H1 s1 s2 R1 k => ?_⟩⟩
  exact fun c dd F2 H2 t1 t2 R2 ix => k c dd σ F2 H2 R2.same R2.ent R2.ent2 R2.news ix
theorem pmx_p {m : Str} {j : Nat} (T : XP X.K X.mg c) (hg : Gl X c) (hdb : (c == ("__debug__" : Str)) = false := by decide) : PMx X g E Γ (.Call (.Name c p) [.Constant (.str m) j p2] [] pos) Γ (xP c) := by
  obtain ⟨C, T, ex⟩ := T.ex
  refine ⟨Le.refl _, PMk_imp (pmk_own PySem.F.excBase_ValueError ex T.m T.o.kC (raises_own T.o.exC T.o.tyC) hg hdb) fun σ H Q ⟨ρ, Hf, R, q⟩ => ?_⟩
  exact q Hf H (Same.refl _) (Same.refl _) R (.ref C) none Hf H (Same.refl _) (Same.refl _) R ⟨⟨C, rfl, T.m⟩, .inl ⟨rfl, rfl⟩⟩
end
end PD

namespace PD
open PySem PySem.Spec L2
open PyProof.Rows hiding St

section
variable {X : Cx} {g : G} {E : WX} {Γ Γ1 Γ2 : List Bool} {pos p : Pos} {m : Md} {e : Expr} {es : List Expr} {L : List Str} {c f : Str}
noncomputable def eAt (L : List Str) (f : Str) (fe : Env → Out D) : Env → Out D := fun ρ => (fe ρ).bind fun d => match d with
  | .exn c fs => chk (c ∈ L) (match fs.lookup f with | some d => .ok d | none => .stuck)
  | _ => .stuck
end
end PD

namespace PD
open PySem PySem.Spec L2
open PyProof.Rows hiding St

section
variable {X : Cx} {g : G} {E W : WX} {ro : Bool} {Γl Γ Γ1 Γ2 Γ3 : List Bool} {pos p : Pos} {m : Md} {e : Expr} {st : Stmt} {L : List Str} {ρ : Env} {σ : St} {Hf H : Hp} {pins : List (Addr × Obj)} {s : Shared}
def yR (K : PySem.W.Frag) (mg : Mg) (g : G) (W : WX) (Γ1 : List Bool) (Dn : Ends) (ρ : Env) (σ : St) (Hf H : Hp) : Out Env → Prop
  | .ok ρ' => ∀ σ' Hf' H', Rp K mg g Γ1 ρ' σ' Hf' H' → Dn.nx σ' H'
  | .exc x => ∀ c dd Hf' H', Same Hf Hf' → Same H H' → Rp K mg g Γ1 ρ σ Hf' H' → IsX K mg x c dd Hf' → W c dd σ H'
  | .stuck => False
structure PYx (X : Cx) (g : G) (W : WX) (Γ : List Bool) (st : List Stmt) (Γ1 : List Bool) (f : Env → Out Env) : Prop where
  ps : PSs X st (fun Dn σ H => ∃ ρ Hf, Rp X.K X.mw g Γ ρ σ Hf H ∧ yR X.K X.mw g W Γ1 Dn ρ σ Hf H (f ρ))
def ySet (i : Nat) (f : Env → Out D) : Env → Out Env := fun ρ => (f ρ).bind fun d => .ok (ρ.set i (some d))
def yExpr (f : Env → Out D) : Env → Out Env := fun ρ => (f ρ).bind fun _ => .ok ρ
def yIf (t : Env → Out Bool) (a b : Env → Out Env) : Env → Out Env := fun ρ => (t ρ).bind fun c => if c = true then a ρ else b ρ
theorem y_bind {α : Type} {o : Out α} {k : α → Out Env} {Dn : Ends} {P : α → Hp → Hp → Prop} (le : Le Γ2 Γ1) (h : yR X.K X.mw g W Γ2 Dn ρ σ Hf H (o.bind k))
    (hk : ∀ a Hf' H', Same Hf Hf' → Same H H' → Rp X.K X.mw g Γ1 ρ σ Hf' H' → yR X.K X.mw g W Γ2 Dn ρ σ Hf' H' (k a) → P a Hf' H') : tG X.K X.mw g W Γ1 ρ σ Hf H P o := by
  cases o with
  | ok a =>
    intro F1 H1 s1 s2 R1
    refine hk a F1 H1 s1 s2 R1 ?_
    rw [Out.bind_ok] at h
    cases hka : k a with
    | ok ρ' => rw [hka] at h; exact h
    | exc x => rw [hka] at h; exact fun c dd F2 H2 t1 t2 => h c dd F2 H2 (s1.trans t1) (s2.trans t2)
    | stuck => rw [hka] at h; exact h
  | exc x =>
    intro c dd F1 H1 s1 s2 R1 ix
    obtain ⟨F2, s3, R2, _⟩ := R1.frz le
    exact h c dd F2 H1 (s1.trans s3) s2 R2 (ix.mono s3)
  | stuck => exact h
theorem pyx_expr {f : Env → Out D} (he : PX X g W Γ e Γ1 .rd f) (hs : swapsWith e none pos.line X.env = pure false := by rfl) : PYx X g W Γ [.Expr e pos] Γ1 (yExpr f) := by
  refine ⟨pss_one ((ps_expr he.pe hs).imp fun Dn σ H ⟨ρ, Hf, R, q⟩ => ⟨ρ, Hf, R, ?_⟩)⟩
  exact y_bind (Le.refl _) q fun d F1 H1 s1 s2 R1 k v hv => k σ F1 H1 R1
def SO.gone (i : Nat) : SO → SO
  | .nx r => .nx (r.set i none)
  | .bk r => .bk (r.set i none)
  | .ct r => .ct (r.set i none)
  | .rt d => .rt d
  | _ => .stuck
def SO.calm : SO → SO
  | .ex _ => .stuck
  | o => o
abbrev Hd := Str × Option Nat × (Env → SO)
def sSuite (f : Env → SO) (x : Exn) (ρ : Env) : Option Nat → SO
  | some i => (f (ρ.set i (some (.exn x.cls x.fs)))).gone i
  | none => (f ρ).calm
open Classical in
noncomputable def sHand (L : List Str) : List Hd → Exn → Env → SO
  | [], x, _ => .ex x
  | h :: r, x, ρ => chkS (x.cls ∈ L ∧ h.1 ∈ L) (if subC x.cls h.1 = true then sSuite h.2.2 x ρ h.2.1 else sHand L r x ρ)
noncomputable def sTry (L : List Str) (fb : Env → Out Env) (hs : List Hd) (fe : Env → SO) : Env → SO := fun ρ => match fb ρ with
  | .ok r => fe r
  | .exc x => sHand L hs x ρ
  | .stuck => .stuck
abbrev noX : WX := fun _ _ _ _ => False
inductive HdX (X : Cx) (g : G) (ro : Bool) (Γl Γ1 Γ2 : List Bool) : List ExceptHandler → List Hd → Prop
  | nil : HdX X g ro Γl Γ1 Γ2 [] []
  | as {d n : Str} {i : Nat} {np pos' : Pos} {b₀ : Stmt} {suite : List Stmt} {f : Env → SO} {hds : List ExceptHandler} {l : List Hd} (hg : Gl X d) (hdb : (d == ("__debug__" : Str)) = false) (hi : X.N[i]? = some n) (hln : X.env.kindOf n = some .local)
      (o1 : Γ1.getD i false = false) (o2 : Γ2.getD i false = false) (ol : Γl.getD i false = false) (hsu : ∀ a pn, PSsx (X.suite a pn) g noX ro Γl Γ1 (b₀ :: suite) Γ2 f) (r : HdX X g ro Γl Γ1 Γ2 hds l) :
      HdX X g ro Γl Γ1 Γ2 (.ExceptHandler (some (.Name d np)) (some n) (b₀ :: suite) pos' :: hds) ((d, some i, f) :: l)
  | no {d : Str} {np pos' : Pos} {b₀ : Stmt} {suite : List Stmt} {f : Env → SO} {hds : List ExceptHandler} {l : List Hd} (hg : Gl X d) (hdb : (d == ("__debug__" : Str)) = false)
      (hsu : ∀ a pn, PSsx (X.suite a pn) g noX ro Γl Γ1 (b₀ :: suite) Γ2 f) (r : HdX X g ro Γl Γ1 Γ2 hds l) :
      HdX X g ro Γl Γ1 Γ2 (.ExceptHandler (some (.Name d np)) none (b₀ :: suite) pos' :: hds) ((d, none, f) :: l)
theorem Rp.flags {K : PySem.W.Frag} {mg : Mg} (R : Rp K mg g Γ ρ σ Hf H) (h : ∀ j, Own Γ1 j ↔ Own Γ j) : Rp K mg g Γ1 ρ σ Hf H :=
  ⟨R.same, R.ent, R.ent2, R.news, R.len, fun i d o => R.own i d ((h i).mp o), fun i d o => R.dat i d fun z => o ((h i).mpr z), fun i j d e v n o1 o2 => R.sep i j d e v n ((h i).mp o1) ((h j).mp o2)⟩
theorem flags_set {i : Nat} (o : Γ.getD i false = false) (j : Nat) : Own Γ j ↔ Own (Γ.set i false) j := by
  unfold Own
  rw [getD_set]
  by_cases h : i = j ∧ i < Γ.length
  · rw [if_pos h]
    obtain ⟨rfl, _⟩ := h
    rw [o]
  · rw [if_neg h]
theorem Rp.wipeA {K : PySem.W.Frag} {mg : Mg} {i : Nat} (o : Γ.getD i false = false) (ns : NS g i) (R : Rp K mg g Γ ρ σ Hf H) : Rp K mg g Γ (ρ.set i none) (σ.set i none) Hf H := by
  have ne : ∀ {j}, Own Γ j → i ≠ j := fun {j} h z => by subst z; unfold Own at h; rw [o] at h; cases h
  have gs : ∀ {α : Type} {l : List (Option α)} {j : Nat} {x : α}, (l.set i none)[j]? = some (some x) → i ≠ j ∧ l[j]? = some (some x) := fun {α l j x} h => by
    rw [List.getElem?_set] at h
    by_cases z : i = j
    · rw [if_pos z] at h
      split at h <;> cases h
    · rw [if_neg z] at h; exact ⟨z, h⟩
  refine ⟨R.same, R.ent, R.ent2, R.news, R.len.set ns _ _, fun j d ow q => ?_, fun j d ow q => ?_, fun j k d d' v n o1 o2 q1 q2 m1 m2 e1 e2 => R.sep j k d d' v n o1 o2 (gs q1).2 (gs q2).2 m1 m2 (gs e1).2 (gs e2).2⟩
  · obtain ⟨nj, q⟩ := gs q
    rw [List.getElem?_set_ne nj]; exact R.own j d ow q
  · obtain ⟨nj, q⟩ := gs q
    rw [List.getElem?_set_ne nj]; exact R.dat j d ow q
theorem Inv_track {a : Addr} {o : HO} (I : Inv X pins σ H s) (n0 : X.s_0.heap.get? a = none) (na : H a = none) (nL : a ≠ X.env.locals) (nc : ∀ x c, X.env.cells.lookup x = some c → c ≠ a) (np : ∀ q ∈ X.pn ++ pins, q.1 ≠ a)
    (new : ObjOk X.prog X.w (upd H a o) s.heap a o) : Inv X pins σ (upd H a o) s := by
  have B := I.base
  have hk : HOk X.prog X.w (upd H a o) s.heap := fun b u eb => by
    by_cases hb : b = a
    · subst hb; rw [upd_same] at eb; cases eb; exact new
    · rw [upd_ne hb] at eb
      have up : ∀ c u', H c = some u' → upd H a o c = some u' := fun c u' z => by rw [upd_ne (ne_of_none z na)]; exact z
      exact (I.hok b u eb).stay (fun _ _ _ z => z) (fun c z => up c _ z) fun c xs z => up c _ z
  refine ⟨I.ok, I.os, I.bare, ⟨B.keep, B.slot, fun b u q n hx => ?_, B.there, fun b xs q => ?_, fun b u z q => ?_, fun b ps q => ?_⟩, I.loc, I.cell, ?_, fun x c q => ?_, fun q hq => ?_, hk, I.len⟩
  · rw [upd_ne (fun z => by rw [z, n0] at q; cases q)]; exact B.free b u q n hx
  · have z := B.tups b xs q
    rw [upd_ne (ne_of_none z na)]; exact z
  · have y := B.frzs b u z q
    rw [upd_ne (ne_of_none y na)]; exact y
  · obtain ⟨more, z⟩ := B.tbls b ps q
    exact ⟨more, by rw [upd_ne (ne_of_none z na)]; exact z⟩
  · rw [upd_ne (Ne.symm nL)]; exact I.free
  · rw [upd_ne (nc x c q)]; exact I.freeC x c q
  · obtain ⟨h1, h2, h3⟩ := I.pin q hq
    exact ⟨h1, by rw [upd_ne (np q hq)]; exact h2, h3⟩
theorem Inv_suite {a : Addr} (I : Inv X pins σ H s) : Inv (X.suite a (X.pn ++ pins)) [] σ H s :=
  ⟨I.ok.suite _ _, I.os, I.bare, I.base, I.loc, I.cell, I.free, I.freeC, fun q hq => I.pin q (by rw [List.append_nil] at hq; exact hq), I.hok, I.len⟩
theorem Inv_unsuite {a : Addr} {pn' : List (Addr × Obj)} (I : Inv (X.suite a (X.pn ++ pins)) pn' σ H s) (ok : X.Ok) : Inv X pins σ H s :=
  ⟨ok, I.os, I.bare, I.base, I.loc, I.cell, I.free, I.freeC, fun q hq => I.pin q (List.mem_append_left _ hq), I.hok, I.len⟩
end
end PD

namespace PD
open PySem PySem.Spec L2
open PyProof.Rows hiding St

section
variable {X : Cx} {g : G} {E W : WX} {ro : Bool} {Γl Γ Γ1 Γ2 Γ3 : List Bool} {pos p : Pos} {L : List Str} {ρ : Env} {σ : St} {Hf H : Hp} {pins : List (Addr × Obj)} {s : Shared}
theorem hand_in {a C : Addr} {dd : Option Addr} {x : Exn} {i : Nat} (ns : NS g i) (R : Rp X.K X.mw g Γ1 ρ σ Hf H) (na : H a = none) (o1 : Γ1.getD i false = false) (ix : IsX X.K X.mw x (.ref C) dd Hf) :
    Rp X.K X.mw g Γ1 (ρ.set i (some (.exn x.cls x.fs))) (σ.set i (some (.ref a))) (upd Hf a (exH a (.ref C) dd)) (upd H a (exH a (.ref C) dd)) := by
  obtain ⟨s1, s2, R2⟩ := R.new (exH a (.ref C) dd) na
  obtain ⟨⟨C', e, mC⟩, r⟩ := ix.mono s1
  cases e
  refine (R2.setF (i := i) ns (d := .exn x.cls x.fs) (v := .ref a) ?_).flags (flags_set o1)
  simp only [IsD]
  exact ⟨a, C, dd, rfl, mC, .inl upd_same, r⟩
theorem psx_try {body orelse : List Stmt} {h₀ : ExceptHandler} {hds : List ExceptHandler} {l : List Hd} {fb : Env → Out Env} {fe : Env → SO} (hc : X.calm = true) (hs : X.stack = X.env :: X.outer) (hf : X.env.frame = some X.env.locals) (hN : X.N.Nodup) (hx : X.ex = []) (tk : Takes X E) (A : XAll X.K X.mg L)
    (hb : ∀ (W : WX) (pn : List (Addr × Obj)) (xe : Value → Shared → Prop), Takes (X.tr pn xe) W → PYx (X.tr pn xe) g W Γ body Γ1 fb)
    (hh : HdX X g ro Γl Γ1 Γ2 (h₀ :: hds) l) (he : PSsx X g E ro Γl Γ1 orelse Γ2 fe) (hsl : g.slf = none := by first | rfl | assumption) : PSx X g E ro Γl Γ (.Try body (h₀ :: hds) orelse [] pos) Γ2 (sTry L fb l fe) := by
  refine ⟨⟨fun pins s σ H Dn I ⟨ρ, Hf, R, q⟩ => ?_⟩⟩
  have ok := I.ok
  have fr : X.A.frames = some (X.env :: X.outer) := by rw [ok.frames, hs]
  let wish : WX := fun cls d σ H => ∃ ρ Hf x, Rp X.K X.mw g Γ1 ρ σ Hf H ∧ IsX X.K X.mw x cls d Hf ∧ sR X.K X.mw g E Γ2 Γl ro Dn (sHand L l x ρ)
  refine wpAny_Try_except (wpAny_mono ((hb wish (X.pn ++ pins) (fun e s₁ => wpAny (model X.prog X.w) X.A (noteFrame e X.env) (fun _ s₂ => wpAny (model X.prog X.w) X.A (setFlight e none) (fun _ s₃ =>
    wpAny (model X.prog X.w) X.A (handleBy e X.env (h₀ :: hds)) (SP X pins Dn) X.xe s₃) X.xe s₂) X.xe s₁) (fun u s' xx => ?_)).ps.run [] s σ H { Dn with nx := fun σ' H' => ∃ ρ' Hf', Rp X.K X.mw g Γ1 ρ' σ' Hf' H' ∧ sR X.K X.mw g E Γ2 Γl ro Dn (fe ρ') } (I.toTry _) ⟨ρ, Hf, R, ?_⟩) (fun f s1 hsp => ?_) (fun e s1 z => z))
  · -- caught
    obtain ⟨a, B, sI, pins', σ', H', cls, d, rfl, J', nb, up, sky, na, os, ag, ρ1, F1, x, R1, ix, q1⟩ := xx
    have J : Inv X pins σ' H' sI := J'.ofTry ok
    have sky' : Sky B (X.env :: X.outer) a (Zc cls d) X.env.locals s'.heap := by rw [← hs]; exact sky
    show wpAny (model X.prog X.w) X.A (noteFrame (.ref a) X.env) _ _ _
    refine Sky.land Zc.steady fr hf sky' fun h3 fl3 up3 => ?_
    have J3 : Inv X pins σ' H' { s' with heap := h3 } := J.landed nb fl3.1 (up.trans up3) os ag
    obtain ⟨oe3, vs3, he3, hz3, hd3⟩ := fl3.there
    have off : a ∉ frs (X.env :: X.outer) := fun hm => by
      obtain ⟨_, o', e', hnf⟩ := fl3.2.2.1.mem hm
      rw [he3] at e'
      cases e'
      exact hnf _ hd3
    have nL : a ≠ X.env.locals := fun z => off (List.mem_filterMap.mpr ⟨X.env, List.mem_cons_self, by rw [hf, z]⟩)
    have nF : a ∉ X.fs := fun hm => by
      obtain ⟨en, hen, q⟩ := List.mem_filterMap.mp hm
      exact off (List.mem_filterMap.mpr ⟨en, List.mem_cons_of_mem _ hen, q⟩)
    have gone : sI.heap.get? a = none := by
      cases z : sI.heap.get? a with
      | none => rfl
      | some o =>
        have y := nb a o z (by rw [hs]; exact off)
        rw [fl3.2.1] at y
        cases y
    have n0 : X.s_0.heap.get? a = none := by
      cases z : X.s_0.heap.get? a with
      | none => rfl
      | some o =>
        obtain ⟨o', y⟩ := J.base.there a o z (by rw [hx]; exact List.not_mem_nil)
        rw [gone] at y
        cases y
    have nc : ∀ y c, X.env.cells.lookup y = some c → c ≠ a := fun y c z e => by
      obtain ⟨v, w⟩ := J.cell y c z
      obtain ⟨o, ho, _⟩ := w
      rw [e, gone] at ho
      cases ho
    have np : ∀ q ∈ X.pn ++ pins, q.1 ≠ a := fun q hq e => by
      have := (J.pin q hq).1
      rw [e, gone] at this
      cases this
    obtain ⟨⟨C, rfl, mC⟩, _⟩ := id ix
    have S3 := J3.suite he3 hd3 na nL nF
    have go : ∀ {hds' : List ExceptHandler} {l' : List Hd}, HdX X g ro Γl Γ1 Γ2 hds' l' → sR X.K X.mw g E Γ2 Γl ro Dn (sHand L l' x ρ1) →
        wpAny (model X.prog X.w) X.A (handleBy (.ref a) X.env hds') (SP X pins Dn) X.xe { s' with heap := h3 } := by
      intro hds' l' hk
      induction hk with
      | nil =>
        intro w
        refine wpAny_handleBy_nil ?_
        obtain ⟨k1, k2, k3, oe, vs, T, oT, ts', e1, hz, hd, h1, hr⟩ := id fl3
        unfold PySem.passOn
        refine wpAny_bind (wpAny_field e1 hd h1 ?_)
        rw [if_neg (show ¬ ((Value.ref T == Value.none) = true) from by simp)]
        have fin : wpAny (model X.prog X.w) X.A (setFlight (.ref a) X.env.frame) (fun _ s4 => wpAny (model X.prog X.w) X.A (throw (.ref a) : Sem Flow) (SP X pins Dn) X.xe s4) X.xe { s' with heap := h3 } := by
          rw [hf]
          refine HandSPX.setFlight_upZ fl3 fun h4 hh4 up4 => wpAny_throw (tk _ _ ?_)
          exact ⟨a, B, sI, pins, σ', H', .ref C, d, rfl, J, nb, (up.trans up3).trans up4, .inr (.inr (by rw [hs]; exact hh4)), na, os, ag, w (.ref C) d σ' F1 H' R1.same R1.ent R1.ent2 R1.news ix⟩
        first
          | exact wpAny_bind (wpAny_pure (wpAny_bind fin))
          | exact wpAny_bind fin
      | @as d0 n i np' pos' b₀ suite f hds2 l2 hg hdb hi hln o1 o2 ol hsu r ih =>
        intro w
        unfold sHand at w
        by_cases hL : x.cls ∈ L ∧ d0 ∈ L
        case neg => rw [chkS_neg hL] at w; exact w.elim
        rw [chkS_pos hL] at w
        obtain ⟨C1, T1, al⟩ := A.c x.cls hL.1
        obtain ⟨D0, mD, _, ex⟩ := al d0 hL.2
        have e1 : C1 = C := by
          have := T1.m
          rw [show X.mg x.cls = some (.ref C) from mC] at this
          cases this; rfl
        subst e1
        refine wpAny_handleBy_cons (codeAny_handlers_test ?_) (by intro q; cases q)
        have LT : PySem.W.Looks (model X.prog X.w) h3 (typeOf (.ref a)) (.ref C1) := fun A' Q' E' s₁ k q => wpAny_typeOf_ref (k _ _ he3) (by rw [hz3.1]; exact q)
        have LM := PySem.W.exm_one (M := model X.prog X.w) (J3.kIn) LT ex
        refine ld_glob (X := X.suite a ((a, oe3) :: (X.pn ++ pins))) S3 hg mD ?_ hdb
        refine LM.here ?_
        cases hsb : subC x.cls d0 with
        | false =>
          rw [hsb, if_neg Bool.false_ne_true] at w
          exact ih w
        | true =>
          rw [hsb, if_pos rfl] at w
          refine codeAny_handlers_suite_as ?_
          refine HandSPX.lands_againZ fl3 fun h4 fl4 up4 => ?_
          have J4 : Inv X pins σ' H' { s' with heap := h4 } := J.landed nb fl4.1 ((up.trans up3).trans up4) os ag
          obtain ⟨oe4, vs4, he4, hz4, hd4⟩ := fl4.there
          have T4 : Inv X pins σ' (upd H' a (exH a (.ref C1) d)) { s' with heap := h4 } := Inv_track J4 n0 na nL nc np ⟨⟨oe4, vs4, he4, hz4, hd4⟩, ⟨_, he4⟩, fun _ _ ⟨o, v, z, r⟩ k => ⟨o, v, k o z, r⟩⟩
          refine store_ok (X := X.suite a (X.pn ++ pins)) (v := .ref a) (Inv_suite T4) hN hi (.inl hln) rfl (fun s5 S5 => ?_) (.inr hln)
          have R5 := hand_in (x := x) (.inr hsl) R1 na o1 ix
          let Dn6 : Ends := { nx := fun σ6 H6 => ∃ ρ6 F6, Rp X.K X.mw g Γ2 ρ6 σ6 F6 H6 ∧ sR X.K X.mw g E Γ2 Γl ro Dn (.nx (ρ6.set i none)), rt := Dn.rt, bk := fun σ6 H6 => ∃ ρ6 F6, Rp X.K X.mw g Γl ρ6 σ6 F6 H6 ∧ sR X.K X.mw g E Γ2 Γl ro Dn (.bk (ρ6.set i none)), ct := fun σ6 H6 => ∃ ρ6 F6, Rp X.K X.mw g Γl ρ6 σ6 F6 H6 ∧ sR X.K X.mw g E Γ2 Γl ro Dn (.ct (ρ6.set i none)) }
          have q5 : sR X.K X.mw g noX Γ2 Γl ro Dn6 (f (ρ1.set i (some (.exn x.cls x.fs)))) := by
            unfold sSuite at w
            simp only at w
            cases hfo : f (ρ1.set i (some (.exn x.cls x.fs))) with
            | nx r => rw [hfo] at w; exact fun σ6 F6 H6 R6 => ⟨r, F6, R6, w⟩
            | bk r => rw [hfo] at w; exact fun σ6 F6 H6 R6 => ⟨r, F6, R6, w⟩
            | ct r => rw [hfo] at w; exact fun σ6 F6 H6 R6 => ⟨r, F6, R6, w⟩
            | rt dv => rw [hfo] at w; exact w
            | ex x => rw [hfo] at w; exact w.elim
            | stuck => rw [hfo] at w; exact w.elim
          refine wpAny_mono ((hsu a (X.pn ++ pins)).ps.run [] s5 _ _ Dn6 S5 ⟨_, _, R5, q5⟩) (fun fl s6 hsp => ?_) (fun _ _ z => z.elim)
          have leave : ∀ {σ6 : St} {H6 : Hp} {Q : Shared → Prop}, Inv (X.suite a (X.pn ++ pins)) [] σ6 H6 s6 → (∀ s7, Inv X pins (σ6.set i none) H6 s7 → Q s7) →
              wpAny (model X.prog X.w) X.A (do bindName X.env n .none; unbindBehindTheSuite X.env n pos') (fun _ s7 => Q s7) X.xe s6 := fun {σ6 H6 Q} S6 hq => gone_ok (Inv_unsuite S6 ok) hN hi hln hq
          cases fl with
          | next =>
            obtain ⟨σ6, H6, S6, ρ6, F6, R6, q6⟩ := hsp
            exact leave S6 fun s7 J7 => ⟨_, _, J7, q6 _ F6 H6 (R6.wipeA o2 (.inr hsl))⟩
          | brk =>
            obtain ⟨σ6, H6, S6, ρ6, F6, R6, q6⟩ := hsp
            exact leave S6 fun s7 J7 => ⟨_, _, J7, q6 _ F6 H6 (R6.wipeA ol (.inr hsl))⟩
          | cont =>
            obtain ⟨σ6, H6, S6, ρ6, F6, R6, q6⟩ := hsp
            exact leave S6 fun s7 J7 => ⟨_, _, J7, q6 _ F6 H6 (R6.wipeA ol (.inr hsl))⟩
          | ret u =>
            obtain ⟨v6, σ6, H6, S6, r6, q6⟩ := hsp
            exact leave S6 fun s7 J7 => ⟨_, _, _, J7, r6, q6⟩
      | @no d0 np' pos' b₀ suite f hds2 l2 hg hdb hsu r ih =>
        intro w
        unfold sHand at w
        by_cases hL : x.cls ∈ L ∧ d0 ∈ L
        case neg => rw [chkS_neg hL] at w; exact w.elim
        rw [chkS_pos hL] at w
        obtain ⟨C1, T1, al⟩ := A.c x.cls hL.1
        obtain ⟨D0, mD, _, ex⟩ := al d0 hL.2
        have e1 : C1 = C := by
          have := T1.m
          rw [show X.mg x.cls = some (.ref C) from mC] at this
          cases this; rfl
        subst e1
        refine wpAny_handleBy_cons (codeAny_handlers_test ?_) (by intro q; cases q)
        have LT : PySem.W.Looks (model X.prog X.w) h3 (typeOf (.ref a)) (.ref C1) := fun A' Q' E' s₁ k q => wpAny_typeOf_ref (k _ _ he3) (by rw [hz3.1]; exact q)
        have LM := PySem.W.exm_one (M := model X.prog X.w) (J3.kIn) LT ex
        refine ld_glob (X := X.suite a ((a, oe3) :: (X.pn ++ pins))) S3 hg mD ?_ hdb
        refine LM.here ?_
        cases hsb : subC x.cls d0 with
        | false =>
          rw [hsb, if_neg Bool.false_ne_true] at w
          exact ih w
        | true =>
          rw [hsb, if_pos rfl] at w
          refine codeAny_handlers_suite ?_
          refine HandSPX.lands_againZ fl3 fun h4 fl4 up4 => ?_
          have J4 : Inv X pins σ' H' { s' with heap := h4 } := J.landed nb fl4.1 ((up.trans up3).trans up4) os ag
          obtain ⟨oe4, vs4, he4, hz4, hd4⟩ := fl4.there
          have T4 : Inv X pins σ' (upd H' a (exH a (.ref C1) d)) { s' with heap := h4 } := Inv_track J4 n0 na nL nc np ⟨⟨oe4, vs4, he4, hz4, hd4⟩, ⟨_, he4⟩, fun _ _ ⟨o, v, z, r⟩ k => ⟨o, v, k o z, r⟩⟩
          obtain ⟨t1, t2, R5⟩ := R1.new (exH a (.ref C1) d) na
          have q5 : sR X.K X.mw g noX Γ2 Γl ro Dn (f ρ1) := by
            unfold sSuite at w
            simp only at w
            cases hfo : f ρ1 with
            | ex x => rw [hfo] at w; exact w.elim
            | stuck => rw [hfo] at w; exact w.elim
            | _ => rw [hfo] at w; exact w
          refine wpAny_mono ((hsu a (X.pn ++ pins)).ps.run [] _ _ _ Dn (Inv_suite T4) ⟨_, _, R5, q5⟩) (fun fl s6 hsp => ?_) (fun _ _ z => z.elim)
          cases fl with
          | next =>
            obtain ⟨σ6, H6, S6, q6⟩ := hsp
            exact ⟨_, _, Inv_unsuite S6 ok, q6⟩
          | brk =>
            obtain ⟨σ6, H6, S6, q6⟩ := hsp
            exact ⟨_, _, Inv_unsuite S6 ok, q6⟩
          | cont =>
            obtain ⟨σ6, H6, S6, q6⟩ := hsp
            exact ⟨_, _, Inv_unsuite S6 ok, q6⟩
          | ret u =>
            obtain ⟨v6, σ6, H6, S6, r6, q6⟩ := hsp
            exact ⟨_, _, _, Inv_unsuite S6 ok, r6, q6⟩
    exact go hh q1
  · -- the body
    unfold sTry at q
    cases hfb : fb ρ with
    | ok r => rw [hfb] at q; exact fun σ' Hf' H' R' => ⟨r, Hf', R', q⟩
    | exc x => rw [hfb] at q; exact fun c dd Hf' H' s1 s2 R' ix => ⟨ρ, Hf', x, R', ix, q⟩
    | stuck => rw [hfb] at q; exact q.elim
  · cases f with
    | next =>
      obtain ⟨σ', H', J', ρ', Hf', R', q'⟩ := hsp
      exact he.ps.run pins s1 σ' H' Dn (J'.ofTry ok) ⟨ρ', Hf', R', q'⟩
    | brk =>
      obtain ⟨σ', H', J', q⟩ := hsp
      exact ⟨σ', H', J'.ofTry ok, q⟩
    | cont =>
      obtain ⟨σ', H', J', q⟩ := hsp
      exact ⟨σ', H', J'.ofTry ok, q⟩
    | ret u =>
      obtain ⟨v, σ', H', J', r, q⟩ := hsp
      exact ⟨v, σ', H', J'.ofTry ok, r, q⟩
def xL37 : List Str := ["RealError", "NoText"]
section
open PySem.W
def xcB (K : Frag) (C : Addr) : Bool :=
  decide (findIn K (.ref C) "__setattr__" = some (some (.builtin "object.__setattr__"))) && (decide (subIn K (.ref C) (.type "BaseException") = some true) && (decide (typeIn K (.ref C) = some (.type "type")) && (keepIn K (.ref C) &&
  (decide (findIn K (.ref C) "__getattribute__" = some (some (.builtin "BaseException.__getattribute__"))) && (decide (findIn K (.ref C) "__getattr__" = some none) && (hasDictIn K C && (decide (findIn K (.ref C) "__class__" = some (some (.builtin "object.__class__"))) &&
  (decide (mroIn K C (.type "object") = some true) && (decide (findIn K (.ref C) "name" = some none) && (decide (findIn K (.ref C) "form" = some none) && (decide (kitOne K (.ref C) (.type "ValueError") = some true) && (clsIn K C).isSome)))))))))))
def xrB (K : Frag) (R : Addr) : Bool := readsIn K R (.type "type") && (decide (specialIn K (.ref R) "__getattribute__" = some (some (.builtin "type.__getattribute__"))) && (match findCls K (.ref R) (.type "type") "__init__" with
  | some (.val (.builtin n)) => n == "ValueError.__init__"
  | _ => false))
def xsB (K : Frag) (cs : List (Str × Addr)) : Bool := decide (specialIn K (.builtin "object.__class__") "__get__" = some (some (.builtin "getset_descriptor.__get__"))) && (decide (takesIn K (.builtin "object.__class__") = some true) &&
  cs.all fun c => cs.all fun d => decide (kitOne K (.ref c.2) (.ref d.2) = some (subC c.1 d.1)) && decide (exmOne K (.ref c.2) (.ref d.2) = some (subC c.1 d.1)))
theorem xc_mk {K : Frag} {mg : Str → Option Value} {c : Str} {C : Addr} (m : mg c = some (.ref C)) (l : ∃ nm q N bs bm sn sub ab col dd k0 k1 k2 k3 k5, K.lookup C = some (excClassObj nm q C N bs bm true sn sub ab col dd k0 k1 k2 k3 k5 "ValueError.__new__") ∧ PySem.HandSPX.refsVE bm = true) (b : xcB K C = true) : XC K mg c C := by
  unfold xcB at b
  simp only [Bool.and_eq_true, decide_eq_true_eq] at b
  obtain ⟨b1, b2, b3, b4, b5, b6, b7, b8, b9, b10, b11, b12, b13⟩ := b
  exact ⟨m, ⟨l, b1, b2, b3, b4⟩, b5, b6, b7, b8, b9, ⟨b10, b11⟩, b12, b13⟩
theorem xr_mk {K : Frag} {mg : Str → Option Value} {R : Addr} (m : mg "RealError" = some (.ref R)) (b : xrB K R = true) : XR K mg := by
  unfold xrB at b
  simp only [Bool.and_eq_true, decide_eq_true_eq] at b
  obtain ⟨b1, b2, b3⟩ := b
  refine ⟨R, _, m, b1, b2, ?_⟩
  split at b3
  · rename_i n e
    rw [e, beq_iff_eq.mp b3]
  · cases b3
theorem xa_mk {K : Frag} {mg : Str → Option Value} {cs : List (Str × Addr)} {L : List Str} (e : cs.map (·.1) = L) (b : xsB K cs = true) (h : ∀ p ∈ cs, XC K mg p.1 p.2) : XAll K mg L := by
  subst e
  unfold xsB at b
  simp only [Bool.and_eq_true, decide_eq_true_eq, List.all_eq_true] at b
  obtain ⟨b1, b2, b3⟩ := b
  refine ⟨b1, b2, fun c hc => ?_⟩
  obtain ⟨p, hp, rfl⟩ := List.mem_map.mp hc
  refine ⟨p.2, h p hp, fun d hd => ?_⟩
  obtain ⟨p', hp', rfl⟩ := List.mem_map.mp hd
  exact ⟨p'.2, (h p' hp').m, (b3 p hp p' hp').1, (b3 p hp p' hp').2⟩
end
end
end PD

namespace PD
open PySem PySem.Spec L2
open PyProof.Rows hiding St

def leO {α : Type} (a b : Out α) : Prop := a = .stuck ∨ a = b
def leE {α : Type} (f g : Env → Out α) : Prop := ∀ ρ, leO (f ρ) (g ρ)
def leF (f g : List D → Out D) : Prop := ∀ ds, leO (f ds) (g ds)
theorem leF.ok {f g : List D → Out D} (h : leF f g) {ds : List D} {d : D} (e : f ds = .ok d) : g ds = .ok d := by
  rcases h ds with z | z
  · rw [z] at e; cases e
  · rw [← z]; exact e
theorem leF.exc {f g : List D → Out D} (h : leF f g) {ds : List D} {x : Exn} (e : f ds = .exc x) : g ds = .exc x := by
  rcases h ds with z | z
  · rw [z] at e; cases e
  · rw [← z]; exact e
section
variable {α β : Type}
theorem leO_bind {o o' : Out α} {k k' : α → Out β} (h : leO o o') (hk : ∀ a, leO (k a) (k' a)) : leO (o.bind k) (o'.bind k') := by
  rcases h with rfl | rfl
  · exact .inl rfl
  · cases o with
    | ok a => exact hk a
    | exc x => exact .inr rfl
    | stuck => exact .inl rfl
variable {fa fb fc ga gb gc : Env → Out D} {fr gr : Env → Out (List D)} {ft gt fu gu : Env → Out Bool} {F F' : List D → Out D} {b b' c c' : Env → SO} {G : D → Env → Out Env} {fi gi fj gj fk gk : Env → Out (Option Int)}
theorem le_or (h : leE ft gt) (h' : leE fu gu) : leE (bOr ft fu) (bOr gt gu) := fun ρ => leO_bind (h ρ) fun c => by cases c; exact h' ρ; exact .inr rfl
end
end PD

namespace PD
open PySem PySem.Spec L2
open PyProof.Rows hiding St

section
variable {X : Cx} {pins : List (Addr × Obj)} {σ : St} {H Hf : Hp} {s : Shared} {m : Md} {a : Addr} {o : HO}
theorem IsKVs.mem {K : PySem.W.Frag} {mg : Mg} {Hf : Hp} : ∀ {kvs : List (D × D)} {xs : List (Key × V)}, IsKVs K mg Hf kvs xs → ∀ x ∈ xs, ∃ p ∈ kvs, p.1 = kD x.1 ∧ PD.IsD K mg Hf p.2 x.2
  | [], xs, h, x, hx => by simp only [IsKVs] at h; subst h; exact (List.not_mem_nil hx).elim
  | (k, d) :: kvs, xs, h, x, hx => by
    simp only [IsKVs, IsKV] at h
    obtain ⟨y, us, rfl, ⟨e, q⟩, r⟩ := h
    rcases List.mem_cons.mp hx with rfl | hx
    · exact ⟨(k, d), List.mem_cons_self, e, q⟩
    · obtain ⟨p, hp, z⟩ := IsKVs.mem r x hx
      exact ⟨p, List.mem_cons_of_mem _ hp, z⟩
theorem IsKVs.ln {K : PySem.W.Frag} {mg : Mg} {Hf : Hp} : ∀ {kvs : List (D × D)} {xs : List (Key × V)}, IsKVs K mg Hf kvs xs → kvs.length = xs.length
  | [], xs, h => by simp only [IsKVs] at h; subst h; rfl
  | (k, d) :: kvs, xs, h => by
    simp only [IsKVs, IsKV] at h
    obtain ⟨y, us, rfl, _, r⟩ := h
    rw [List.length_cons, List.length_cons, IsKVs.ln r]
end
end PD

namespace PD
open PySem PySem.Spec L2
open PyProof.Rows hiding St

section
variable {X : Cx} {pins : List (Addr × Obj)} {σ : St} {H Hf : Hp} {s : Shared} {a b : Addr} {E : WX} {g : G} {ro : Bool} {Γl Γ Γ1 : List Bool} {pos : Pos} {ρ : Env}
end
end PD

namespace PD
open PySem PySem.Spec L2
open PyProof.Rows hiding St

section
variable {K : PySem.W.Frag} {mg : Mg} {Hf H : Hp}
variable {Hf' H' : Hp}
end
section
variable {X : Cx} {g : G} {E : WX} {ro : Bool} {Γ Γ1 : List Bool} {pos p : Pos} {x : Str} {e : Expr} {es : List Expr} {k : Nat} {ps : List Str} {F : List D → Out D} {fa : Env → Out (List D)}
end
end PD

namespace PD
open PySem PySem.Spec L2
open PyProof.Rows hiding St

section
variable {X : Cx} {m : Md}
theorem op_mulS : OpR X (binaryOp .Mult) (fun x y H Q => ∃ (a : Str) (n : Int), x = .str a ∧ y = .int n ∧ a.length ≤ 16 ∧ -(2 ^ 63 : Int) ≤ n ∧ n ≤ ((1048576 : Nat) : Int) ∧ Q (.str (Txt.mul a n)) H) := by
  intro pins s σ H x y v u Q I rx ry h
  obtain ⟨a, n, rfl, rfl, h1, h2, h3, q⟩ := h
  obtain ⟨t, rfl⟩ := rx
  obtain ⟨t2, rfl⟩ := ry
  exact PySem.W.KXi.mul rfl h1 h2 h3 fun t' k _ _ => ⟨.str _, H, I.tok k, ⟨t', rfl⟩, q⟩
noncomputable def dMulS : D → D → Out D
  | .str a, .int n => chk (a.length ≤ 16 ∧ -(2 ^ 63 : Int) ≤ n ∧ n ≤ ((1048576 : Nat) : Int)) (.ok (.str (Txt.mul a n)))
  | _, _ => .stuck
theorem od_mulS {k : Nat} (_ : Room k X.A) : OpD X (binaryOp .Mult) m dMulS := by
  refine ⟨_, op_mulS, fun g E Γ ρ σ Hf H x y v u Q R hx hy k => ?_⟩
  unfold dMulS at k
  split at k
  · rename_i a n
    simp only [IsR, PD.IsD] at hx hy
    by_cases c : a.length ≤ 16 ∧ -(2 ^ 63 : Int) ≤ n ∧ n ≤ ((1048576 : Nat) : Int)
    · rw [chk_pos c] at k
      exact ⟨a, n, hx, hy, c.1, c.2.1, c.2.2, k Hf H (Same.refl _) (Same.refl _) R _ (Res.dat R.same rfl (by simp only [PD.IsD]))⟩
    · rw [chk_neg c] at k; exact k.elim
  · exact k.elim
end
end PD

namespace PD
open PySem PySem.Spec L2
open PyProof.Rows hiding St

section
variable {X : Cx} {g : G} {E : WX} {Γ Γ1 : List Bool} {tg a : Expr} {p p2 pos pos2 : Pos} {f : Env → Out D}
end
end PD

namespace PD
open PySem PySem.Spec L2
open PyProof.Rows hiding St

def DSz (h : Heap) (a : Addr) (n : Nat) : Prop := (a == sysModules) = false ∧ ∃ o es ep, h.get? a = some o ∧ o.ExactDict ∧ o.data = .dict es ep ∧ es.size = n
section
variable {X : Cx} {pins : List (Addr × Obj)} {σ : St} {H Hf : Hp} {s : Shared} {m : Md} {A : Around} {E : Value → Shared → Prop}
theorem DSz.typeIs {h : Heap} {a : Addr} {n : Nat} {s : Shared} (d : DSz s.heap a n) : s.TypeIs (.ref a) "dict" :=
  let ⟨_, o, _, _, ho, hc, _⟩ := d; ⟨o, ho, hc.1⟩
theorem IsKTs.ln {K : PySem.W.Frag} {mg : Mg} {Hf : Hp} : ∀ {kvs : List (D × D)} {xs : List (PyData × Addr × V)}, IsKTs K mg Hf kvs xs → kvs.length = xs.length
  | [], xs, h => by simp only [IsKTs] at h; subst h; rfl
  | (k, d) :: kvs, xs, h => by
    simp only [IsKTs, IsKT] at h
    obtain ⟨y, us, rfl, _, r⟩ := h
    rw [List.length_cons, List.length_cons, IsKTs.ln r]
end
end PD

namespace PD
open PySem PySem.Spec L2
open PyProof.Rows hiding St

def putD (f : Str) (v : D) : List (Str × D) → List (Str × D)
  | [] => [(f, v)]
  | (g, x) :: r => if g = f then (g, v) :: r else (g, x) :: putD f v r
section
variable {K : PySem.W.Frag} {mg : Mg} {H Hf : Hp}
theorem IsFs.putF {f : Str} {d : D} {v : V} (h : PD.IsD K mg H d v) : ∀ {fs : List (Str × D)} {xs : List (Str × V)}, IsFs K mg H fs xs → IsFs K mg H (putD f d fs) (L2.putF f v xs)
  | [], xs, q => by
    simp only [IsFs] at q
    subst q
    show IsFs K mg H [(f, d)] [(f, v)]
    simp only [IsFs, IsF]
    exact ⟨_, _, rfl, ⟨rfl, h⟩, rfl⟩
  | (g, x) :: fs, xs, q => by
    simp only [IsFs, IsF] at q
    obtain ⟨⟨g', y⟩, us, rfl, ⟨e, qx⟩, r⟩ := q
    simp only at e
    subst e
    show IsFs K mg H (if g = f then (g, d) :: fs else (g, x) :: putD f d fs) (if g = f then (g, v) :: us else (g, y) :: L2.putF f v us)
    by_cases z : g = f
    · rw [if_pos z, if_pos z]
      simp only [IsFs, IsF]
      exact ⟨_, _, rfl, ⟨rfl, h⟩, r⟩
    · rw [if_neg z, if_neg z]
      simp only [IsFs, IsF]
      exact ⟨_, _, rfl, ⟨rfl, qx⟩, IsFs.putF h r⟩
theorem IsFs.lk {f : Str} : ∀ {fs : List (Str × D)} {xs : List (Str × V)}, IsFs K mg H fs xs → (∀ d, fs.lookup f = some d → ∃ v, xs.lookup f = some v ∧ PD.IsD K mg H d v) ∧ (fs.lookup f = none → xs.lookup f = none)
  | [], xs, q => by
    simp only [IsFs] at q
    subst q
    exact ⟨(fun d e => by cases e), fun _ => rfl⟩
  | (g, x) :: fs, xs, q => by
    simp only [IsFs, IsF] at q
    obtain ⟨⟨g', y⟩, us, rfl, ⟨e, qx⟩, r⟩ := q
    simp only at e
    subst e
    rw [List.lookup_cons, List.lookup_cons]
    cases f == g with
    | true => exact ⟨(fun d e => by cases e; exact ⟨y, rfl, qx⟩), fun e => by cases e⟩
    | false => exact IsFs.lk r
theorem IsFs.len : ∀ {fs : List (Str × D)} {xs : List (Str × V)}, IsFs K mg H fs xs → xs.length = fs.length
  | [], xs, q => by simp only [IsFs] at q; subst q; rfl
  | (g, x) :: fs, xs, q => by
    simp only [IsFs, IsF] at q
    obtain ⟨y, us, rfl, _, r⟩ := q
    rw [List.length_cons, List.length_cons, IsFs.len r]
end
structure ClA (K : PySem.W.Frag) (mg : Str → Option Value) (L fl : List Str) : Prop where
  c : ∀ c ∈ L, ∃ C, mg c = some (.ref C) ∧ Cls K C ∧ ∀ f ∈ fl, NoAttr K C f
noncomputable def eFld (L fl : List Str) (f : Str) (fe : Env → Out D) : Env → Out D := fun ρ => (fe ρ).bind fun d => match d with
  | .ins c fs => chk (c ∈ L ∧ f ∈ fl) (match fs.lookup f with
    | some d => .ok d
    | none => .stuck)
  | _ => .stuck
section
variable {X : Cx} {g : G} {E : WX} {ro : Bool} {Γl Γ Γ1 Γ2 : List Bool} {m : Md} {pos p p2 : Pos} {L fl : List Str} {e o : Expr} {f : Str} {fe fo : Env → Out D}
theorem px_fld (A : ClA X.K X.mg L fl) (he : PX X g E Γ e Γ1 .rd fe) (hb : attributeBase e f X.env (eval e X.env) = eval e X.env := by rfl) : PX X g E Γ (.Attribute e f pos) Γ1 .fr (eFld L fl f fe) := by
  refine ⟨he.le, (pe_fld he.pe hb).imp fun σ H Q ⟨ρ, Hf, R, q⟩ => ⟨ρ, Hf, R, ?_⟩⟩
  refine tG.bind (Le.refl _) q fun d F1 H1 s1 s2 R1 k v hv => ?_
  split at k
  · rename_i c fs
    by_cases z : c ∈ L ∧ f ∈ fl
    · rw [chk_pos z] at k
      obtain ⟨C, mc, cl, na⟩ := A.c c z.1
      obtain ⟨a, o, rfl, ea, C', dx, xs, rfl, mc', r⟩ := hv
      obtain rfl : C' = C := by rw [show X.mg c = some (.ref C') from mc'] at mc; cases mc; rfl
      cases el : fs.lookup f with
      | none => rw [el] at k; exact k.elim
      | some d =>
        rw [el] at k
        obtain ⟨v, ev, iv⟩ := (IsFs.lk r).1 d el
        exact ⟨a, C', dx, xs, v, rfl, ea, cl, na f z.2, ev, k F1 H1 (Same.refl _) (Same.refl _) R1 v iv⟩
    · rw [chk_neg z] at k; exact k.elim
  · exact k.elim
noncomputable def sFld (L fl : List Str) (i : Nat) (f : Str) (fe : Env → Out D) : Env → SO := fun ρ => oS (fe ρ) fun d => match ρ[i]? with
  | some (some (.ins c fs)) => chkS ((c ∈ L ∧ f ∈ fl) ∧ fs.length < 1000) (.nx (ρ.set i (some (.ins c (putD f d fs)))))
  | _ => .stuck
theorem psx_fld {i : Nat} {x : Str} (A : ClA X.K X.mg L fl) (hx : PE X (.Name x p) (tVar i)) (he : PX X g E Γ e Γ1 .fr fe) (ow : Γ1.getD i false = true) (hs : swapsWith e (some (.Attribute (.Name x p) f p2)) pos.line X.env = pure false := by rfl) :
    PSx X g E ro Γl Γ (.Assign [.Attribute (.Name x p) f p2] e pos) Γ1 (sFld L fl i f fe) := by
  refine ⟨(ps_fld hx he.pe hs).imp fun Dn σ H ⟨ρ, Hf, R, q⟩ => ⟨ρ, Hf, R, ?_⟩⟩
  refine tG.toS q fun d F1 H1 s1 s2 R1 k v hv => ?_
  split at k
  · rename_i c fs es
    by_cases z : (c ∈ L ∧ f ∈ fl) ∧ fs.length < 1000
    · rw [chkS_pos z] at k
      obtain ⟨C, mc, cl, na⟩ := A.c c z.1.1
      obtain ⟨u, eu, io⟩ := R1.own i _ ow es
      obtain ⟨a, o, rfl, z0, zf, ea, C', dx, xs, rfl, mc', r⟩ := io
      obtain rfl : C' = C := by rw [show X.mg c = some (.ref C') from mc'] at mc; cases mc; rfl
      refine ⟨.ref a, eu, a, C', dx, xs, rfl, ea, cl, na f z.1.2, by rw [IsFs.len r]; exact z.2, ?_⟩
      refine k σ F1 _ (R1.wr (d' := .ins c (putD f d fs)) ow es rfl eu z0 zf ?_)
      exact ⟨a, _, rfl, z0, zf, upd_same, C', dx, _, rfl, mc', IsFs.putF hv r⟩
    · rw [chkS_neg z] at k; exact k.elim
  · exact k.elim
end

structure MeT (K : PySem.W.Frag) (mg : Str → Option Value) (m q : Str) (st : Stmt) (cs : List Str) : Prop where
  ex : ∃ f fd, Fun K m q st f fd ∧ ∀ c ∈ cs, ∃ C, mg c = some (.ref C) ∧ Cls K C ∧ Meth K C m f
structure MeA (P : Program) (w : World) (K : PySem.W.Frag) (mg : Str → Option Value) (base : Heap) (k : Nat) (m : Str) (cs : List Str) (ps : List Str) (ro : Bool) (F : List D → Out D) : Prop where
  ex : ∃ f fd, (∀ c ∈ cs, ∃ C, mg c = some (.ref C) ∧ Cls K C ∧ Meth K C m f) ∧ Binds K fd ps [] ∧ FnOk P w K mg base (L2.CX P w) k f fd ps (spD K ⟨mg, w⟩ ro F)
theorem MeA.mono {P : Program} {w : World} {K : PySem.W.Frag} {mg : Str → Option Value} {base : Heap} {j k : Nat} {m : Str} {cs ps : List Str} {ro : Bool} {F : List D → Out D} (h : MeA P w K mg base j m cs ps ro F) (l : j ≤ k) : MeA P w K mg base k m cs ps ro F := by
  obtain ⟨f, fd, e1, e2, e3⟩ := h.ex
  exact ⟨f, fd, e1, e2, e3.mono l⟩
section
variable {X : Cx} {CX : CXT} {k : Nat} {f C : Addr} {fd : FuncData} {ps : List Str} {sp : Sp} {E : St → XK} {x m : Str} {p pos apos : Pos} {e o : Expr} {es : List Expr} {ta : TE} {t : TA}
def tMethS (C : Addr) (m : Str) (sp : Sp) (E : St → XK) (ta : TE) (t : TA) : TE := fun σ H Q => ta σ H fun x H1 => ∃ a dx fs, x = .ref a ∧ H1 a = some (.ins C dx fs) ∧ fs.lookup m = none ∧
  t σ H1 fun vs H2 => sp (x :: vs) H2 Q (E σ)
theorem pe_methS {pl : Sem Bool} (he : PE X o ta) (c : Cls X.K C) (hm : Meth X.K C m f) (F : FnOk X.prog X.w X.K X.mg X.base CX k f fd ps sp) (hr : Room k X.A) (hb : Binds X.K fd ps []) (hx : ∀ σ, PassesAt CX X σ (E σ)) (ha : PA X (e :: es) t)
    (hst : starEach (e :: es) X.env = (false, eval e X.env) :: starEach es X.env) (hpl : (backTo pos (starEach es X.env)).any (·.1) = false)
    (ht : eval (.Call (.Attribute o m apos) (e :: es) [] pos) X.env = (do
      let ov ← eval o X.env
      standAt apos.atName
      let (f, first) ← holding [ov] (getMethod ov m pl)
      callWith pos f first (backTo pos (starEach (e :: es) X.env)) (backToKw pos (keywordEach [] X.env)))) :
    PE X (.Call (.Attribute o m apos) (e :: es) [] pos) (tMethS C m sp E ta t) := by
  refine ⟨fun pins s σ H Q I h => ?_⟩
  refine PySem.W.methodCall_KW (pl := pl) (thn (he.run pins s σ H _ I h) fun u s1 ⟨x, H1, I1, rx, a, dx, fs, ex, ea, l, q⟩ => ?_) ht
  subst ex
  obtain rfl : u = Value.ref a := rx
  refine getmeth_ok I1 ea c hm l ?_
  refine PySem.W.callWith_K (first := [.ref a]) (h₀ := X.base) I.ok.mod.kin hm.kp (thn (ha.run pos pins s1 σ H1 _ I1 q) fun us s2 ⟨vs, H2, I2, r, q2⟩ => ⟨I2.kIn, ?_⟩) hst hpl
  exact run_fnS (us := .ref a :: us) (vs := .ref a :: vs) F hr hb (hx σ) I2 (.cons rfl r) q2
theorem pe_methS0 {pl : Sem Bool} (he : PE X o ta) (c : Cls X.K C) (hm : Meth X.K C m f) (F : FnOk X.prog X.w X.K X.mg X.base CX k f fd ps sp) (hr : Room k X.A) (hb : Binds X.K fd ps []) (hx : ∀ σ, PassesAt CX X σ (E σ))
    (ht : eval (.Call (.Attribute o m apos) [] [] pos) X.env = (do
      let ov ← eval o X.env
      standAt apos.atName
      let (f, first) ← holding [ov] (getMethod ov m pl)
      callWith pos f first (backTo pos (starEach [] X.env)) (backToKw pos (keywordEach [] X.env)))) :
    PE X (.Call (.Attribute o m apos) [] [] pos) (tMethS C m sp E ta tNil) := by
  refine ⟨fun pins s σ H Q I h => ?_⟩
  refine PySem.W.methodCall_KW (pl := pl) (thn (he.run pins s σ H _ I h) fun u s1 ⟨x, H1, I1, rx, a, dx, fs, ex, ea, l, q⟩ => ?_) ht
  subst ex
  obtain rfl : u = Value.ref a := rx
  refine getmeth_ok I1 ea c hm l ?_
  exact PySem.W.callWith_K0 (first := [.ref a]) I1.kIn hm.kp (run_fnS (us := [.ref a]) (vs := [.ref a]) F hr hb (hx σ) I1 (.cons rfl .nil) q)
end
def pick (tbl : List (List Str × (List D → Out D))) (c : Str) : Option (List D → Out D) := (tbl.find? fun q => decide (c ∈ q.1)).map (·.2)
noncomputable def eMth (m : Str) (tbl : List (List Str × (List D → Out D))) (fo : Env → Out D) (fa : Env → Out (List D)) : Env → Out D := fun ρ => (fo ρ).bind fun s => match s with
  | .ins c fs => chk (fs.lookup m = none) (match pick tbl c with
    | some F => (fa ρ).bind fun ds => F (s :: ds)
    | none => .stuck)
  | _ => .stuck
section
variable {X : Cx} {g : G} {E : WX} {ro : Bool} {Γ Γ1 Γ2 : List Bool} {pos apos : Pos} {e o : Expr} {es : List Expr} {k : Nat} {ps : List Str} {m : Str} {fo : Env → Out D} {fa : Env → Out (List D)} {tbl : List (List Str × (List D → Out D))}
end
section
variable {P : Program} {w : World} {K : PySem.W.Frag} {mg : Str → Option Value} {base : Heap}
end
end PD

namespace PD
open PySem PySem.Spec L2
open PyProof.Rows hiding St

def spM (K : PySem.W.Frag) (mg : Mg) (F : List D → Out D) : Sp := fun vs H Q E => ∃ a us c fs o ds Hf, vs = .ref a :: us ∧ H a = some o ∧ Hf a = none ∧ Same Hf H ∧ InsAt K mg Hf c fs o ∧ IsDs K mg Hf ds us ∧ match F (.ins c fs :: ds) with
  | .ok d => ∀ r c' fs' v Hf' H' o', d = .tup [r, .ins c' fs'] → Same Hf Hf' → Same Hf' H' → (∀ b x, b ≠ a → H b = some x → H' b = some x) → (∀ b x, Hf' b = some x → Hf b = some x ∨ H b = none) → Hf' a = none → H' a = some o' → InsAt K mg Hf' c' fs' o' → IsD K mg Hf' r v → Q v H'
  | .exc x => ∀ cl dd Hf' H', Same Hf Hf' → Same Hf' H' → (∀ b x, b ≠ a → H b = some x → H' b = some x) → (∀ b x, Hf' b = some x → Hf b = some x ∨ H b = none ∨ b = a) → IsX K mg x cl dd Hf' → E cl dd H'
  | .stuck => False
structure MmA (P : Program) (w : World) (K : PySem.W.Frag) (mg : Str → Option Value) (base : Heap) (k : Nat) (m : Str) (cs : List Str) (ps : List Str) (F : List D → Out D) : Prop where
  ex : ∃ f fd, (∀ c ∈ cs, ∃ C, mg c = some (.ref C) ∧ Cls K C ∧ Meth K C m f) ∧ Binds K fd ps [] ∧ FnOk P w K mg base (L2.CX P w) k f fd ps (spM K ⟨mg, w⟩ F)
theorem MmA.mono {P : Program} {w : World} {K : PySem.W.Frag} {mg : Str → Option Value} {base : Heap} {j k : Nat} {m : Str} {cs ps : List Str} {F : List D → Out D} (h : MmA P w K mg base j m cs ps F) (l : j ≤ k) : MmA P w K mg base k m cs ps F := by
  obtain ⟨f, fd, e1, e2, e3⟩ := h.ex
  exact ⟨f, fd, e1, e2, e3.mono l⟩
def SO.resM (o : SO) : Out D := match o with
  | .rt d => .ok d
  | .nx ρ => match ρ with
    | some (.ins c fs) :: _ => .ok (.tup [.non, .ins c fs])
    | _ => .stuck
  | .ex x => .exc x
  | _ => .stuck
theorem resM_rt (d : D) : (SO.rt d).resM = .ok d := rfl
theorem resM_ex (x : Exn) : (SO.ex x).resM = .exc x := rfl
def mnM (n k : Nat) (b : Env → SO) : List D → Out D := fun ds => if ds.length = k then (b (ds.map some ++ List.replicate (n - k) none)).resM else .stuck
theorem mnM_ap (n k : Nat) (b : Env → SO) (ds : List D) : mnM n k b ds = if ds.length = k then (b (ds.map some ++ List.replicate (n - k) none)).resM else .stuck := rfl
section
variable {P : Program} {w : World} {K : PySem.W.Frag} {mg : Str → Option Value} {base : Heap}
open Classical in
noncomputable def hideA (H : Hp) (a : Addr) : Hp := fun b => if b = a then none else H b
theorem hide_same (H : Hp) (a : Addr) : Same (hideA H a) H := fun b o e => by
  unfold hideA at e
  split at e
  · cases e
  · exact e
theorem hide_ne {H : Hp} {a b : Addr} (h : b ≠ a) : hideA H a b = H b := if_neg h
theorem hide_at (H : Hp) (a : Addr) : hideA H a a = none := if_pos rfl
theorem mmBody {q : Str} {st : Stmt} {N ps : List Str} {k : Nat} {Γl Γ' Γ0 : List Bool} {b : Env → SO} {f : Addr} {fd : FuncData} {m : Str} (F : Fun K m q st f fd) (S : FnScope N ps (defScope st)) (hl : ps.length ≤ N.length) (h0 : Γ0 = true :: List.replicate (N.length - 1) false) (hps : 1 ≤ ps.length) (h1 : Γ'.getD 0 false = true)
    (body : ∀ (f : Addr) (cdv : Value) (A : Around) (outer : List PySem.Env) (s : Shared) (H : Hp) (E : XK) (Hf : Hp) (a : Addr), Room k (A.deeper (envOfC q (defScope st) s.heap.objs.size f cdv)) →
      PSsx (cxD P w K mg base N q st f cdv A outer s H E) ⟨hideA H a, Hf, some a⟩ (fun c d _ H => E c d H) false Γl Γ0 (defBody st) Γ' b) : FnOk P w K mg base (L2.CX P w) (k + 1) f fd ps (spM K ⟨mg, w⟩ (mnM N.length ps.length b)) := by
  refine F.okX S (fun vs H Q E h => ?_) fun cdv A outer s H vs Q E hr h => ?_
  · obtain ⟨a, us, c, fs, o, ds, Hf, rfl, _, _, _, _, hv, q⟩ := h
    rw [List.length_cons, hv.len]
    unfold mnM at q
    by_cases l : (D.ins c fs :: ds).length = ps.length
    · exact l
    · rw [if_neg l] at q; exact q.elim
  · obtain ⟨a, us, c, fs, o, ds, Hf, rfl, ea, fa, sm, io, hv, q⟩ := h
    refine ⟨_, (body f cdv A outer s H E Hf a hr).ps, ?_⟩
    unfold mnM at q
    by_cases l : (D.ins c fs :: ds).length = ps.length
    · rw [if_pos l] at q
      have lv : (V.ref a :: us).length = ps.length := by rw [List.length_cons, hv.len]; exact l
      have own0 : ∀ i, Own Γ0 i → i = 0 := fun i ow => by
        cases i with
        | zero => rfl
        | succ i =>
          exfalso
          unfold Own at ow
          rw [h0, List.getD_cons_succ, List.getD_eq_getElem?_getD, List.getElem?_replicate] at ow
          split at ow <;> simp at ow
      have e0 : ∀ (L : List (Option D)), ((D.ins c fs :: ds).map some ++ L)[0]? = some (some (D.ins c fs)) := fun L => rfl
      have v0 : (L2.start N (.ref a :: us))[0]? = some (some (.ref a)) := rfl
      have iso : IsO K ⟨mg, w⟩ (hideA H a) Hf H (.ins c fs) (.ref a) := ⟨a, o, rfl, hide_at H a, fa, ea, io⟩
      refine ⟨(D.ins c fs :: ds).map some ++ List.replicate (N.length - ps.length) none, Hf, ⟨sm, hide_same H a, Same.refl _, fun b x e => .inl e, ⟨?_, fun b e => by cases e; exact v0⟩, fun i d ow e => ?_, fun i d ow e => ?_, fun i j d e v n o1 o2 => absurd ((own0 i o1).trans (own0 j o2).symm) n⟩, ?_⟩
      · unfold L2.start
        simp [hv.len] at lv ⊢
        omega
      · obtain rfl := own0 i ow
        rw [e0] at e
        cases e
        exact ⟨.ref a, v0, iso⟩
      · cases i with
        | zero =>
          exfalso
          refine ow ?_
          unfold Own
          rw [h0]; rfl
        | succ i =>
          unfold L2.start
          by_cases li : i < ds.length
          · rw [List.map_cons, List.cons_append, List.getElem?_cons_succ, List.getElem?_append_left (by simpa using li)] at e
            obtain ⟨v, ev, r⟩ := IsDs.map hv e
            refine ⟨v, ?_, r⟩
            rw [List.map_cons, List.cons_append, List.getElem?_cons_succ, List.getElem?_append_left (by simpa [hv.len] using li)]
            exact ev
          · rw [List.map_cons, List.cons_append, List.getElem?_cons_succ, List.getElem?_append_right (by simpa using li), List.getElem?_replicate] at e
            split at e <;> simp at e
      · show sR K ⟨mg, w⟩ ⟨hideA H a, Hf, some a⟩ _ Γ' Γl false _ (b _)
        have keep : ∀ H1, Same (hideA H a) H1 → ∀ b x, b ≠ a → H b = some x → H1 b = some x := fun H1 s b x n e => s b x (by rw [hide_ne n]; exact e)
        have nws : ∀ Hf1 : Hp, Hf1 a = none → (∀ b x, Hf1 b = some x → Hf b = some x ∨ hideA H a b = none) → ∀ b x, Hf1 b = some x → Hf b = some x ∨ H b = none := fun Hf1 fa1 n b x e => by
          rcases n b x e with z | z
          · exact .inl z
          · by_cases eb : b = a
            · subst eb; rw [fa1] at e; cases e
            · rw [hide_ne eb] at z; exact .inr z
        cases hb : b ((D.ins c fs :: ds).map some ++ List.replicate (N.length - ps.length) none) with
        | nx r =>
          rw [hb] at q
          intro σ1 Hf1 H1 R1
          unfold SO.resM at q
          cases r with
          | nil => exact q.elim
          | cons x r =>
            cases x with
            | none => exact q.elim
            | some sd =>
              cases sd with
              | ins c' fs' =>
                obtain ⟨u, eu, io'⟩ := R1.own 0 (.ins c' fs') h1 rfl
                have eu' := R1.len.2 a rfl
                rw [eu] at eu'
                cases eu'
                obtain ⟨a', o', ea1, z0, zf, ea', io'⟩ := io'
                cases ea1
                exact q .non c' fs' .non Hf1 H1 o' rfl R1.ent2 R1.same (keep H1 R1.ent) (nws Hf1 zf R1.news) zf ea' io' (by simp only [IsD])
              | _ => exact q.elim
        | rt d =>
          rw [hb] at q
          intro v Hf1 H1 s1 s2 s3 nw r
          obtain ⟨rd, c', fs', o', ed, f1, ea', io', iv⟩ := r
          exact q rd c' fs' v Hf1 H1 o' ed s3 s1 (keep H1 s2) (nws Hf1 f1 nw) f1 ea' io' iv
        | ex x =>
          rw [hb] at q
          intro cl dd σ1 Hf1 H1 s1 s2 s3 nw ix
          refine q cl dd Hf1 H1 s3 s1 (keep H1 s2) (fun b x e => ?_) ix
          rcases nw b x e with z | z
          · exact .inl z
          · by_cases eb : b = a
            · exact .inr (.inr eb)
            · replace z : hideA H a b = none := z
              rw [hide_ne eb] at z
              exact .inr (.inl z)
        | bk r => rw [hb] at q; exact q.elim
        | ct r => rw [hb] at q; exact q.elim
        | stuck => rw [hb] at q; exact q.elim
    · rw [if_neg l] at q; exact q.elim
end
end PD

namespace PD
open PySem PySem.Spec L2
open PyProof.Rows hiding St

structure MkT (K : PySem.W.Frag) (mg : Str → Option Value) (c : Str) : Prop where
  ex : ∃ C, mg c = some (.ref C) ∧ PySem.W.makesIn K C = true ∧ PySem.W.keepIn K (.ref C) = true
section
variable {X : Cx} {CX : CXT} {k : Nat} {f C : Addr} {fd : FuncData} {ps : List Str} {sp : Sp} {E : St → XK} {x m : Str} {p pos : Pos} {e : Expr} {es : List Expr} {t : TA}
def tMakeS (C : Addr) (sp : Sp) (E : St → XK) (t : TA) : TE := fun σ H Q => t σ H fun vs H1 => ∀ x dx, H1 x = none → H1 dx = none → dx ≠ x →
  sp (.ref x :: vs) (upd (upd H1 dx (.own x)) x (.ins C dx [])) (fun v H2 => v = .non ∧ Q (.ref x) H2) (E σ)
theorem run_makeS {pins : List (Addr × Obj)} {σ : St} {H : Hp} {s : Shared} {Q : VK} {us : List Value} {vs : List V} (M : Mk X.K C f) (F : FnOk X.prog X.w X.K X.mg X.base CX k f fd ps sp) (hr : Room (k + 1) X.A) (hb : Binds X.K fd ps [])
    (hx : PassesAt CX X σ (E σ)) (I : Inv X pins σ H s) (r : Vals vs us)
    (h : ∀ x dx, H x = none → H dx = none → dx ≠ x → sp (.ref x :: vs) (upd (upd H dx (.own x)) x (.ins C dx [])) (fun v H2 => v = .non ∧ Q (.ref x) H2) (E σ)) :
    wpAny (model X.prog X.w) X.A (call (.ref C) us) (EP X pins σ Q) X.xe s := by
  have hq := h (s.heap.objs.size + 1) s.heap.objs.size (I.hok.fresh (Nat.le_succ _)) (I.hok.fresh (Nat.le_refl _)) (Nat.ne_of_lt (Nat.lt_succ_self _))
  have I2 := Inv.made (C := C) I
  have r2 : Vals (V.ref (s.heap.objs.size + 1) :: vs) (Value.ref (s.heap.objs.size + 1) :: us) := .cons rfl r
  have hl : (Value.ref (s.heap.objs.size + 1) :: us ++ []).length = ps.length := by
    have e := r2.length
    rw [F.len _ _ _ _ hq] at e
    rw [List.append_nil]
    exact e.symm
  have hb2 := hb _ (Value.ref (s.heap.objs.size + 1) :: us) I2.kIn hl
  rw [List.append_nil] at hb2
  refine wpAny_call (make_map (f := f) I.kIn M.makes M.init (beq_iff_eq.mp M.fn) (codeAny_mono (F.run _ X.stack _ _ ⟨Value.ref (s.heap.objs.size + 1) :: us, []⟩ (Value.ref (s.heap.objs.size + 1) :: us) _ _ (E σ) (hr.make C us [])
    (I2.env0.make C us []) hb2 r2 hq) fun r s' hq' => ?_))
  cases r with
  | error e => exact hx pins _ _ e s' I2 hq'
  | ok fl =>
    cases fl with
    | ret u =>
      obtain ⟨v, H', I3, rv, ev, q3⟩ := I2.after hq'
      subst ev
      exact ⟨rv, ⟨V.ref (s.heap.objs.size + 1), H', I3, rfl, q3⟩⟩
    | next => exact False.elim hq'
    | brk => exact False.elim hq'
    | cont => exact False.elim hq'
theorem pe_makeS (M : Mk X.K C f) (F : FnOk X.prog X.w X.K X.mg X.base CX k f fd ps sp) (hr : Room (k + 1) X.A) (hg : Gl X x) (hm : X.mg x = some (.ref C)) (hb : Binds X.K fd ps []) (hx : ∀ σ, PassesAt CX X σ (E σ)) (hk : PySem.W.keepIn X.K (.ref C) = true)
    (ha : PA X (e :: es) t) (hdb : (x == ("__debug__" : Str)) = false) (he : starEach (e :: es) X.env = (false, eval e X.env) :: starEach es X.env) (hpl : (backTo pos (starEach es X.env)).any (·.1) = false) :
    PE X (.Call (.Name x p) (e :: es) [] pos) (tMakeS C sp E t) := by
  refine ⟨fun pins s σ H Q I h => ?_⟩
  refine wpAny_Call_Name_kw (ld_glob I hg hm ?_ hdb)
  refine PySem.W.callWith_K (h₀ := X.base) I.ok.mod.kin hk (thn (ha.run pos pins s σ H _ I h) fun us s1 ⟨vs, H1, I1, r, q⟩ => ⟨I1.kIn, ?_⟩) he hpl
  exact run_makeS M F hr hb (hx σ) I1 r q
end
section
variable {X : Cx} {g : G} {E : WX} {Γ Γ1 : List Bool} {pos p : Pos} {e : Expr} {es : List Expr} {k : Nat} {ps : List Str} {c : Str} {F : List D → Out D} {fa : Env → Out (List D)} {ρ : Env} {σ : St} {Hf H : Hp}
theorem made_in {C x dx : Addr} (R : Rp X.K X.mw g Γ ρ σ Hf H) (nx : H x = none) (nd : H dx = none) : Same H (upd (upd H dx (.own x)) x (.ins C dx [])) ∧ Hf x = none := by
  refine ⟨fun b o e => ?_, R.same.free nx⟩
  rw [upd_ne (ne_of_none e nx), upd_ne (ne_of_none e nd)]
  exact e
theorem made_sep {x : Addr} (R : Rp X.K X.mw g Γ ρ σ Hf H) (nx : H x = none) (i : Nat) (e : D) (o : Own Γ i) (h : ρ[i]? = some (some e)) (m : e.mut = true) (h2 : σ[i]? = some (some (.ref x))) : False := by
  obtain ⟨v, ev, io⟩ := R.own i e o h
  obtain ⟨a, ob, ea, _, _, q⟩ := io.addr m
  rw [h2] at ev
  cases ev
  cases ea
  rw [nx] at q
  cases q
def eMk0 (c : Str) : Env → Out D := fun _ => .ok (.ins c [])
def eMake (c : Str) (F : List D → Out D) (fa : Env → Out (List D)) : Env → Out D := fun ρ => (fa ρ).bind fun ds => (F (.ins c [] :: ds)).bind fun d => match d with
  | .tup [.non, .ins c' fs] => .ok (.ins c' fs)
  | _ => .stuck
theorem make_sp {C x dx : Addr} {ds : List D} {vs : List V} {Q : VK} (mc : X.mg c = some (.ref C)) (R : Rp X.K X.mw g Γ ρ σ Hf H) (hvs : IsDs X.K X.mw Hf ds vs) (nx : H x = none) (nd : H dx = none)
    (k : tG X.K X.mw g E Γ ρ σ Hf H (PV X g Γ ρ σ .ow Q) ((F (.ins c [] :: ds)).bind fun d => match d with
      | .tup [.non, .ins c' fs] => .ok (.ins c' fs)
      | _ => .stuck)) :
    spM X.K X.mw F (.ref x :: vs) (upd (upd H dx (.own x)) x (.ins C dx [])) (fun v H2 => v = .non ∧ Q (.ref x) H2) (WE E σ) := by
  obtain ⟨s2, fx⟩ := made_in (C := C) (dx := dx) R nx nd
  have s1 : Same Hf (upd (upd H dx (.own x)) x (.ins C dx [])) := R.same.trans s2
  refine ⟨x, vs, c, [], .ins C dx [], ds, Hf, rfl, upd_same, fx, s1, ⟨C, dx, [], rfl, mc, rfl⟩, hvs, ?_⟩
  have sm : ∀ H', (∀ b y, b ≠ x → upd (upd H dx (.own x)) x (.ins C dx []) b = some y → H' b = some y) → Same H H' := fun H' h b o e => h b o (ne_of_none e nx) (s2 _ _ e)
  have nn : ∀ b, upd (upd H dx (.own x)) x (.ins C dx []) b = none → H b = none := fun b e => by
    cases q : H b with
    | none => rfl
    | some o => rw [s2 _ _ q] at e; cases e
  cases hF : F (.ins c [] :: ds) with
  | stuck => rw [hF] at k; exact k.elim
  | exc z =>
    rw [hF] at k
    intro cl dd Hf' H' t1 t2 t3 nw ix
    refine k cl dd Hf' H' t1 (sm H' t3) (R.back t1 t2 (sm H' t3) fun a o e => ?_) ix
    rcases nw a o e with y | y | y
    · exact .inl y
    · exact .inr (nn a y)
    · exact .inr (y ▸ nx)
  | ok d =>
    rw [hF] at k
    intro r c' fs' v Hf' H' o' ed t1 t2 t3 nw fa' ea' io' iv
    subst ed
    have key : r = .non ∧ tG X.K X.mw g E Γ ρ σ Hf H (PV X g Γ ρ σ .ow Q) (.ok (.ins c' fs')) := by
      rw [Out.bind_ok] at k
      cases r with
      | non => exact ⟨rfl, k⟩
      | _ => exact k.elim
    obtain ⟨rfl, k⟩ := key
    simp only [IsD] at iv
    refine ⟨iv, k Hf' H' t1 (sm H' t3) (R.back t1 t2 (sm H' t3) fun a o e => (nw a o e).imp_right (nn a)) (.ref x) ⟨⟨x, o', rfl, R.ent.free nx, fa', ea', io'⟩, fun i e o h m _ h2 => made_sep R nx i e o h m h2⟩⟩
theorem px_make (T : MmA X.prog X.w X.K X.mg X.base k "__init__" [c] ps F) (M : MkT X.K X.mg c) (hr : Room (k + 1) X.A) (tk : Takes X E) (hg : Gl X c) (ha : PAx X g E Γ (e :: es) Γ1 fa) (hdb : (c == ("__debug__" : Str)) = false := by decide)
    (hst : starEach (e :: es) X.env = (false, eval e X.env) :: starEach es X.env := by rfl) (hpl : (backTo pos (starEach es X.env)).any (·.1) = false := by rfl) :
    PX X g E Γ (.Call (.Name c p) (e :: es) [] pos) Γ1 .ow (eMake c F fa) := by
  obtain ⟨C, mc, mk, kp⟩ := M.ex
  obtain ⟨f, fd, hcs, hb, hF⟩ := T.ex
  obtain ⟨C', mc', cl, mt⟩ := hcs c (List.mem_singleton.mpr rfl)
  obtain rfl : C' = C := by rw [mc'] at mc; cases mc; rfl
  refine ⟨ha.le, (pe_makeS ⟨mk, mt.at_, mt.fn, kp⟩ hF hr hg mc hb (fun σ => passAt tk σ) kp ha.pe hdb hst hpl).imp fun σ H Q ⟨ρ, Hf, R, q⟩ => ⟨ρ, Hf, R, ?_⟩⟩
  refine tG.bind (Le.refl _) q fun ds F1 H1 s1 s2 R1 k vs hvs => fun x dx nx nd ne => ?_
  exact make_sp mc R1 hvs nx nd k
end
section
variable {P : Program} {w : World} {K : PySem.W.Frag} {mg : Str → Option Value} {base : Heap}
theorem mmA_mk {m q : Str} {cs : List Str} {st : Stmt} {N ps : List Str} {k : Nat} {Γl Γ' Γ0 : List Bool} {b : Env → SO} (T : MeT K mg m q st cs) (S : FnScope N ps (defScope st)) (hl : ps.length ≤ N.length) (h0 : Γ0 = true :: List.replicate (N.length - 1) false) (hps : 1 ≤ ps.length) (h1 : Γ'.getD 0 false = true)
    (hbind : ∀ (kV doc pm : Value) (an : Option Addr) (cdv ct : Value) (us : List Value), us.length = ps.length → bindArgs (PySem.W.fnOf m q (defArgs st) (defBody st) (defScope st) .none kV doc pm an cdv ct) ⟨us, []⟩ = pure (ps.zip us))
    (body : ∀ (f : Addr) (cdv : Value) (A : Around) (outer : List PySem.Env) (s : Shared) (H : Hp) (E : XK) (Hf : Hp) (a : Addr), Room k (A.deeper (envOfC q (defScope st) s.heap.objs.size f cdv)) →
      PSsx (cxD P w K mg base N q st f cdv A outer s H E) ⟨hideA H a, Hf, some a⟩ (fun c d _ H => E c d H) false Γl Γ0 (defBody st) Γ' b) : MmA P w K mg base (k + 1) m cs ps (mnM N.length ps.length b) := by
  obtain ⟨f, fd, F, hm⟩ := T.ex
  exact ⟨f, fd, hm, F.binds hbind, mmBody F S hl h0 hps h1 body⟩
end
end PD

namespace PD
open PySem PySem.Spec L2
open PyProof.Rows hiding St

noncomputable def cStr : List D → Out D
  | [.int i] => chk (i.natAbs.log2 < 1920) (.ok (.str (toString i)))
  | _ => .stuck
section
variable {X : Cx} {g : G} {E : WX} {ro : Bool} {Γl Γ Γ1 Γ2 Γ3 : List Bool} {m : Md} {pos p apos : Pos} {e a : Expr} {es : List Expr} {f fa fb : Env → Out D}
theorem ca_str : CaD X (.type "str") m cStr := by
  refine ⟨_, call_str_int, fun g E Γ ρ σ Hf H ds vs Q R h k => ?_⟩
  unfold cStr at k
  split at k
  · rename_i i
    obtain ⟨v, rfl, q1⟩ := h.one
    cases q1
    by_cases z : i.natAbs.log2 < 1920
    · rw [chk_pos z] at k
      exact ⟨i, rfl, z, k Hf H (Same.refl _) (Same.refl _) R _ (Res.dat R.same rfl (by simp only [IsD]))⟩
    · rw [chk_neg z] at k; exact k.elim
  · exact k.elim
end
structure DkT (K : PySem.W.Frag) (mg : Mg) (x : Str) (kvs : List (Str × Str)) : Prop where
  ex : ∃ a, mg.f x = some (.ref a) ∧ (a == sysModules) = false ∧ ∀ (P : Program) (h : Heap), K.In h → ∃ f, h.MapOf (mixKind P mg.w) a f ∧ ∀ s, RelO ((kvs.lookup s).map V.str) (f (.inr s))
def dIxC (kvs : List (Str × Str)) : D → Out D
  | .str s => match kvs.lookup s with
    | some y => .ok (.str y)
    | none => .stuck
  | _ => .stuck
section
variable {X : Cx} {g : G} {E : WX} {Γ Γ1 : List Bool} {m : Md} {pos p : Pos} {e : Expr} {f : Env → Out D} {x : Str} {kvs : List (Str × Str)}
theorem ix_C {a : Addr} (hm : ∀ (P : Program) (h : Heap), X.K.In h → ∃ f, h.MapOf (mixKind P X.w) a f ∧ ∀ s, RelO ((kvs.lookup s).map V.str) (f (.inr s))) :
    IxR X (fun x y H Q => ∃ s z, x = .ref a ∧ y = .str s ∧ kvs.lookup s = some z ∧ Q (.str z) H) := by
  intro value slice pins s σ H x y v u Q I rx ry h hs
  obtain ⟨s', z, rfl, rfl, ez, q⟩ := h
  cases rx
  obtain ⟨f, mo, hf⟩ := hm X.prog s.heap I.kIn
  obtain ⟨w', hw, rw'⟩ := RelO.some_of (v := .str z) (o := f (.inr s')) (by have := hf s'; rw [ez] at this; exact this)
  exact tail_any mo.typeIs PySem.F.slot_dict_getitem.lookup (wpAny_getItem_of (knd := mixKind X.prog X.w) (k := .inr s') (kV_is ry) mo hw ⟨.str z, H, I.tok _, rw', q⟩) hs
theorem px_ixC (T : DkT X.K X.mw x kvs) (hg : Gl X x) (he : PX X g E Γ e Γ1 .rd f) (hs : PlainIx e) (hd : (x == ("__debug__" : Str)) = false := by decide) : PX X g E Γ (.Subscript (.Name x p) e pos) Γ1 m (e1 (dIxC kvs) f) := by
  obtain ⟨a, mx, hsys, hm⟩ := T.ex
  refine ⟨he.le, (pe_ix (ix_C hm) (pe_glob (v := .ref a) hg mx rfl hd) he.pe hs).imp fun σ H Q ⟨ρ, Hf, R, k⟩ => ⟨ρ, Hf, R, ?_⟩⟩
  refine tG.bind (Le.refl _) k fun d F1 H1 s1 s2 R1 k1 v hv => ?_
  cases d with
  | str s =>
    simp only [Res, IsR, IsD] at hv
    unfold dIxC at k1
    simp only at k1
    cases ez : kvs.lookup s with
    | none => rw [ez] at k1; exact k1.elim
    | some z =>
      rw [ez] at k1
      exact ⟨s, z, rfl, hv, ez, k1 F1 H1 (Same.refl _) (Same.refl _) R1 _ (Res.dat R1.same rfl (by simp only [IsD]))⟩
  | _ => exact k1.elim
end
def strV : Value → Option Str
  | .str x _ => some x
  | _ => none
def DentP (w : World) (es : Array DictEntry) (kvs : List (Str × Str)) : Prop := es.toList.map (fun e => (e.hash, strV e.key, strV e.val)) = kvs.map fun p => (hashStr w p.1, some p.1, some p.2)
theorem strV_is {v : Value} {x : Str} (h : strV v = some x) : ∃ t, v = .str x t := by
  cases v <;> first | (cases h; exact ⟨_, rfl⟩) | cases h
theorem dent_find {P : Program} {w : World} : ∀ {es : List DictEntry} {kvs : List (Str × Str)}, es.map (fun e => (e.hash, strV e.key, strV e.val)) = (kvs.map fun p => (hashStr w p.1, some p.1, some p.2)) →
    (∀ e ∈ es, ∃ k, (mixKind P w).is k e.key = true ∧ e.hash = (mixKind P w).hash k) ∧ ∀ s, RelO ((kvs.lookup s).map V.str) ((es.find? fun e => (mixKind P w).is (.inr s) e.key).map (·.val))
  | [], [], _ => ⟨fun e he => absurd he (by simp), fun s => True.intro⟩
  | e :: es, (k, v) :: kvs, h => by
    simp only [List.map_cons, List.cons.injEq, Prod.mk.injEq] at h
    obtain ⟨⟨h1, h2, h3⟩, h4⟩ := h
    obtain ⟨i1, i2⟩ := dent_find (P := P) h4
    obtain ⟨t, ek⟩ := strV_is h2
    obtain ⟨t', ev⟩ := strV_is h3
    refine ⟨fun e' he => ?_, fun s => ?_⟩
    · rcases List.mem_cons.mp he with rfl | he
      · exact ⟨.inr k, by rw [ek]; exact mixKind_str P w k t, h1⟩
      · exact i1 e' he
    · rw [List.lookup_cons, List.find?_cons]
      by_cases c : s = k
      · subst c
        have b1 : (s == s) = true := beq_self_eq_true s
        rw [b1, show (mixKind P w).is (.inr s) e.key = true by rw [ek]; exact mixKind_str P w s t]
        simp only [Option.map_some]
        rw [ev]
        exact ⟨t', rfl⟩
      · have b1 : (s == k) = false := beq_eq_false_iff_ne.mpr c
        have b2 : (mixKind P w).is (.inr s) e.key = false := by
          rw [ek]
          cases q : (mixKind P w).is (.inr s) (.str k t) with
          | false => rfl
          | true =>
            rcases L2.keyIs_shape (k := Sum.inr s) (v := Value.str k t) q with ⟨i, t', e1, e2⟩ | ⟨x', t', e1, e2⟩
            · cases e1
            · cases e1; cases e2; exact absurd rfl c
        rw [b1, b2]
        exact i2 s
  | [], _ :: _, h => by cases h
  | _ :: _, [], h => by cases h
theorem dkT_of {K : PySem.W.Frag} {h : Heap} {mg : Str → Option Value} {w : World} {x : Str} {a : Addr} {es : Array DictEntry} {ep : Nat} {kvs : List (Str × Str)} (X : K.In h) (G : h.Ns mainGlobals mg)
    (e : PySem.W.nsIn K mainGlobals x = some (some (.ref a))) (l : K.lookup a = some ⟨.type "dict", none, .dict es ep, #[]⟩) (d : DentP w es kvs) (hs : (a == sysModules) = false) : DkT K ⟨mg, w⟩ x kvs := by
  refine ⟨a, PySem.W.mg_of X G e, hs, fun P h' X' => ?_⟩
  obtain ⟨d1, d2⟩ := dent_find (P := P) d
  refine ⟨fun k => findBy (mixKind P w).is es k, ⟨_, es, ep, X' _ _ l, ⟨rfl, rfl, rfl⟩, rfl, fun e he => d1 e (Array.mem_def.mp he), fun k => rfl⟩, fun s => ?_⟩
  have := d2 s
  show RelO _ (findBy (mixKind P w).is es (.inr s))
  unfold findBy
  rw [← Array.find?_toList]
  exact this
end PD

namespace PD
open PySem PySem.Spec L2
open PyProof.Rows hiding St

abbrev clR : List Str := ["Reader"]
abbrev flR : List Str := ["words", "at"]
section
variable {K : PySem.W.Frag} {h : Heap} {mg : Str → Option Value} {m q : Str} {st : Stmt} {f : Addr} {cs : List Str}
abbrev MeC (K : PySem.W.Frag) (mg : Str → Option Value) (m : Str) (f : Addr) (c : Str) : Prop := ∃ C, mg c = some (.ref C) ∧ Cls K C ∧ Meth K C m f
theorem mec_nil {P : Str → Prop} : ∀ c ∈ ([] : List Str), P c := fun c h => (List.not_mem_nil h).elim
theorem mec_cons {P : Str → Prop} {c : Str} {cs : List Str} (h : P c) (r : ∀ c ∈ cs, P c) : ∀ d ∈ c :: cs, P d := fun d hd => by
  rcases List.mem_cons.mp hd with e | hd
  · rw [e]; exact h
  · exact r d hd
theorem met_mk {fd : FuncData} (F : Fun K m q st f fd) (hc : ∀ c ∈ cs, MeC K mg m f c) : MeT K mg m q st cs := ⟨f, fd, F, hc⟩
theorem mec_mk {c : Str} {C : Addr} (X : K.In h) (G : h.Ns mainGlobals mg) (e : PySem.W.nsIn K mainGlobals c = some (some (.ref C))) (cl : Cls K C) (a : PySem.W.findIn K (.ref C) m = some (some (.ref f))) (i : PySem.W.isFn K (.ref f) = true) (k : PySem.W.keepIn K (.ref f) = true) : MeC K mg m f c :=
  ⟨C, PySem.W.mg_of X G e, cl, a, i, k⟩
theorem cla_mk {L fl : List Str} (h : ∀ c ∈ L, ∃ C, mg c = some (.ref C) ∧ Cls K C ∧ ∀ f ∈ fl, NoAttr K C f) : ClA K mg L fl := ⟨h⟩
theorem mkt_mk {c : Str} {C : Addr} (X : K.In h) (G : h.Ns mainGlobals mg) (e : PySem.W.nsIn K mainGlobals c = some (some (.ref C))) (mk : PySem.W.makesIn K C = true) (kp : PySem.W.keepIn K (.ref C) = true) : MkT K mg c := ⟨C, PySem.W.mg_of X G e, mk, kp⟩
end
section
variable {P : Program} {w : World} {K : PySem.W.Frag} {mg : Str → Option Value} {base : Heap} {k : Nat} {m : Str} {ps : List Str} {ro : Bool}
theorem MeA.sub {cs ds : List Str} {F : List D → Out D} (h : MeA P w K mg base k m cs ps ro F) (s : ∀ c ∈ ds, c ∈ cs) : MeA P w K mg base k m ds ps ro F := by
  obtain ⟨f, fd, e1, e2, e3⟩ := h.ex
  exact ⟨f, fd, fun c hc => e1 c (s c hc), e2, e3⟩
end
section
variable {X : Cx} {g : G} {E : WX} {Γ Γ1 Γ2 : List Bool} {pos apos : Pos} {e o : Expr} {es : List Expr} {k : Nat} {ps : List Str} {m : Str} {fo : Env → Out D} {fa : Env → Out (List D)} {tbl : List (List Str × (List D → Out D))}
end
end PD

namespace PD
open PySem PySem.Spec L2
open PyProof.Rows hiding St

section
variable {X : Cx} {g : G} {E : WX} {Γ : List Bool} {m : Md} {pos : Pos} {L : List Str} {b : Str}
end
end PD

namespace PD
open PySem PySem.Spec L2
open PyProof.Rows hiding St

section
variable {X : Cx} {pins : List (Addr × Obj)} {σ : St} {H Hf : Hp} {s : Shared} {m : Md} {a : Addr} {o : HO}
end
end PD

namespace PD
open PySem PySem.Spec L2
open PyProof.Rows hiding St

def tE (K : PySem.W.Frag) (mg : Mg) (g : G) (E : WX) (Γ : List Bool) (σ : St) (Hf : Hp) {α : Type} (P : α → Env → Hp → Hp → Prop) : Out (α × Env) → Prop
  | .ok p => ∀ Hf' H', Same Hf Hf' → Rp K mg g Γ p.2 σ Hf' H' → P p.1 p.2 Hf' H'
  | .exc x => ∀ c dd Hf' H', Same Hf' H' → Same g.H0 H' → Same g.F0 Hf' → (∀ a o, Hf' a = some o → g.F0 a = some o ∨ g.H0 a = none) → IsX K mg x c dd Hf' → E c dd σ H'
  | .stuck => False
section
variable {K : PySem.W.Frag} {mg : Mg} {g : G} {E : WX} {Γ Γ1 Γ2 : List Bool} {ρ : Env} {σ : St} {Hf H Hf' H' : Hp}
theorem tE.mono {α : Type} {P : α → Env → Hp → Hp → Prop} {o : Out (α × Env)} (s : Same Hf Hf') (h : tE K mg g E Γ σ Hf P o) : tE K mg g E Γ σ Hf' P o := by
  cases o with
  | ok p => exact fun F' H' a R => h F' H' (s.trans a) R
  | exc x => exact h
  | stuck => exact h
theorem tE.bind {α β : Type} {P1 : α → Env → Hp → Hp → Prop} {P2 : β → Env → Hp → Hp → Prop} {o : Out (α × Env)} {k : α × Env → Out (β × Env)} (h : tE K mg g E Γ2 σ Hf P2 (o.bind k))
    (hk : ∀ a ρ' Hf' H', Same Hf Hf' → Rp K mg g Γ1 ρ' σ Hf' H' → tE K mg g E Γ2 σ Hf' P2 (k (a, ρ')) → P1 a ρ' Hf' H') : tE K mg g E Γ1 σ Hf P1 o := by
  cases o with
  | ok p => exact fun F' H' s R => hk p.1 p.2 F' H' s R (tE.mono s h)
  | exc x => exact h
  | stuck => exact h
theorem tE.lift {α : Type} {P : α → Hp → Hp → Prop} {Q : α → Env → Hp → Hp → Prop} {o : Out α} (h : tE K mg g E Γ σ Hf Q (o.bind fun a => .ok (a, ρ))) (w : ∀ a Hf' H', Same Hf Hf' → Rp K mg g Γ ρ σ Hf' H' → Q a ρ Hf' H' → P a Hf' H') : tG K mg g E Γ ρ σ Hf H P o := by
  cases o with
  | ok a => exact fun F' H' s1 _ R => w a F' H' s1 R (h F' H' s1 R)
  | exc x => exact fun c dd F' H' _ _ R q => h c dd F' H' R.same R.ent R.ent2 R.news q
  | stuck => exact h
theorem Rp.called (R : Rp K mg g Γ ρ σ Hf H) {i : Nat} {c c' : Str} {fs fs' : List (Str × D)} {a : Addr} {o o' : HO} (ow : Own Γ i) (e : ρ[i]? = some (some (.ins c fs))) (ev : σ[i]? = some (some (.ref a))) (z0 : g.H0 a = none) (zf : Hf a = none)
    (s1 : Same Hf Hf') (s2 : Same Hf' H') (kp : ∀ b x, b ≠ a → H b = some x → H' b = some x) (nw : ∀ b x, Hf' b = some x → Hf b = some x ∨ H b = none) (fa : Hf' a = none) (ea : H' a = some o') (io : InsAt K mg Hf' c' fs' o') :
    Rp K mg g Γ (ρ.set i (some (.ins c' fs'))) σ Hf' H' := by
  have li : i < ρ.length := (List.getElem?_eq_some_iff.mp e).1
  have h0 : ∀ b x, g.H0 b = some x → H' b = some x := fun b x q => kp b x (ne_of_none q z0) (R.ent _ _ q)
  have fr : ∀ b x, Hf b = none → H b = some x → Hf' b = none := fun b x n q => by
    cases h : Hf' b with
    | none => rfl
    | some y =>
      rcases nw b y h with z | z
      · rw [n] at z; cases z
      · rw [q] at z; cases z
  refine ⟨s2, h0, R.ent2.trans s1, fun b x q => ?_, R.len.setE _ _, fun j e' ow' ej => ?_, fun j e' ow' ej => ?_, fun j k e1 e2 v n o1 o2 q1 q2 m1 m2 s1 s2 => ?_⟩
  · rcases nw b x q with z | z
    · exact R.news b x z
    · right
      cases h : g.H0 b with
      | none => rfl
      | some y => rw [R.ent _ _ h] at z; cases z
  · rcases set_get ej with ⟨rfl, _, rfl⟩ | ⟨nij, ej'⟩
    · exact ⟨_, ev, a, o', rfl, z0, fa, ea, io⟩
    · obtain ⟨v, ev', io'⟩ := R.own j e' ow' ej'
      refine ⟨v, ev', ?_⟩
      have key : ∀ b, v = .ref b → e'.mut = true → b ≠ a := fun b eb me z => by
        subst eb; subst z
        exact R.sep i j _ e' _ nij ow ow' e ej' rfl me ev ev'
      cases e' with
      | lst ds => obtain ⟨b, xs, eb, w0, wf, q, r⟩ := io'; exact ⟨b, xs, eb, w0, fr b _ wf q, kp b _ (key b eb rfl) q, IsDs.mono s1 r⟩
      | dic ds => obtain ⟨b, xs, eb, w0, wf, q, r⟩ := io'; exact ⟨b, xs, eb, w0, fr b _ wf q, kp b _ (key b eb rfl) q, DicAt.mono s1 r⟩
      | ins c ds => obtain ⟨b, xs, eb, w0, wf, q, r⟩ := io'; exact ⟨b, xs, eb, w0, fr b _ wf q, kp b _ (key b eb rfl) q, InsAt.mono s1 r⟩
      | _ => exact IsD.mono s1 io'
  · rcases set_get ej with ⟨rfl, _, rfl⟩ | ⟨nij, ej'⟩
    · exact absurd ow ow'
    · obtain ⟨v, ev', q⟩ := R.dat j e' ow' ej'
      exact ⟨v, ev', q.mono s1⟩
  · rcases set_get q1 with ⟨rfl, _, rfl⟩ | ⟨n1, q1'⟩
    · rcases set_get q2 with ⟨rfl, _⟩ | ⟨n2, q2'⟩
      · exact n rfl
      · exact R.sep i k _ e2 v n o1 o2 e q2' rfl m2 s1 s2
    · rcases set_get q2 with ⟨rfl, _, rfl⟩ | ⟨n2, q2'⟩
      · exact R.sep j i e1 _ v n o1 o2 q1' e m1 rfl s1 s2
      · exact R.sep j k e1 e2 v n o1 o2 q1' q2' m1 m2 s1 s2
end
structure PXe (X : Cx) (g : G) (E : WX) (Γ : List Bool) (e : Expr) (Γ' : List Bool) (m : Md) (f : Env → Out (D × Env)) : Prop where
  le : Le Γ' Γ
  pe : PE X e (fun σ H Q => ∃ ρ Hf, Rp X.K X.mw g Γ ρ σ Hf H ∧ tE X.K X.mw g E Γ' σ Hf (fun d ρ' Hf' H' => ∀ v, Res X.K X.mw g Γ' ρ' σ Hf' H' m d v → Q v H') (f ρ))
structure PTe (X : Cx) (g : G) (E : WX) (Γ : List Bool) (e : Expr) (Γ' : List Bool) (f : Env → Out (Bool × Env)) : Prop where
  le : Le Γ' Γ
  pe : PT X e (fun σ H Q => ∃ ρ Hf, Rp X.K X.mw g Γ ρ σ Hf H ∧ tE X.K X.mw g E Γ' σ Hf (fun b _ _ H' => Q b H') (f ρ))
structure PWe (X : Cx) (g : G) (E : WX) (Γ : List Bool) (e : Expr) (Γ' : List Bool) (f : Env → Out (Bool × Env)) : Prop where
  le : Le Γ' Γ
  pe : PW X e (fun σ H Q => ∃ ρ Hf, Rp X.K X.mw g Γ ρ σ Hf H ∧ tE X.K X.mw g E Γ' σ Hf (fun b _ _ H' => Q b H') (f ρ))
structure PAe (X : Cx) (g : G) (E : WX) (Γ : List Bool) (e : List Expr) (Γ' : List Bool) (f : Env → Out (List D × Env)) : Prop where
  le : Le Γ' Γ
  pe : PA X e (fun σ H Q => ∃ ρ Hf, Rp X.K X.mw g Γ ρ σ Hf H ∧ tE X.K X.mw g E Γ' σ Hf (fun ds _ Hf' H' => ∀ vs, IsDs X.K X.mw Hf' ds vs → Q vs H') (f ρ))

def uP (f : Env → Out D) : Env → Out (D × Env) := fun ρ => (f ρ).bind fun d => .ok (d, ρ)
def uN : Env → Out (List D × Env) := fun ρ => .ok ([], ρ)
def uC (a : Env → Out (D × Env)) (r : Env → Out (List D × Env)) : Env → Out (List D × Env) := fun ρ => (a ρ).bind fun p => (r p.2).bind fun q => .ok (p.1 :: q.1, q.2)
def uA (F : List D → Out D) (a : Env → Out (List D × Env)) : Env → Out (D × Env) := fun ρ => (a ρ).bind fun p => (F p.1).bind fun d => .ok (d, p.2)
def u2 (F : D → D → Out D) (a b : Env → Out (D × Env)) : Env → Out (D × Env) := fun ρ => (a ρ).bind fun p => (b p.2).bind fun q => (F p.1 q.1).bind fun d => .ok (d, q.2)
noncomputable def uMk (c m : Str) (F : List D → Out D) (i : Nat) (fa : Env → Out (List D)) : Env → Out (D × Env) := fun ρ => match ρ[i]? with
  | some (some (.ins c' fs)) => chk (c' = c ∧ fs.lookup m = none) ((fa ρ).bind fun ds => (F (.ins c' fs :: ds)).bind fun d => match d with
    | .tup [r, .ins c'' fs''] => .ok (r, ρ.set i (some (.ins c'' fs'')))
    | _ => .stuck)
  | _ => .stuck
def qOf (f : Env → Out (D × Env)) : Env → Out (Bool × Env) := fun ρ => (f ρ).bind fun p => match p.1 with
  | .bl b => .ok (b, p.2)
  | _ => .stuck
def qP (f : Env → Out Bool) : Env → Out (Bool × Env) := fun ρ => (f ρ).bind fun b => .ok (b, ρ)
def qNot (f : Env → Out (Bool × Env)) : Env → Out (Bool × Env) := fun ρ => (f ρ).bind fun p => .ok (!p.1, p.2)
def qAnd (s t : Env → Out (Bool × Env)) : Env → Out (Bool × Env) := fun ρ => (s ρ).bind fun p => if p.1 = true then t p.2 else .ok (false, p.2)
def qOr (s t : Env → Out (Bool × Env)) : Env → Out (Bool × Env) := fun ρ => (s ρ).bind fun p => if p.1 = true then .ok (true, p.2) else t p.2

section
variable {X : Cx} {g : G} {E : WX} {ro : Bool} {Γl Γ Γ1 Γ2 Γ3 : List Bool} {m : Md} {pos p apos : Pos} {a b e : Expr} {es rest : List Expr} {fa fb fe : Env → Out (D × Env)} {fs ft : Env → Out (Bool × Env)} {fr : Env → Out (List D × Env)}
theorem pxe_p {f : Env → Out D} (h : PX X g E Γ e Γ1 m f) : PXe X g E Γ e Γ1 m (uP f) :=
  ⟨h.le, h.pe.imp fun σ H Q ⟨ρ, Hf, R, q⟩ => ⟨ρ, Hf, R, tE.lift q fun d F1 H1 _ R1 k => k⟩⟩
theorem pae_nil : PAe X g E Γ [] Γ uN :=
  ⟨Le.refl _, pa_nil.imp fun σ H Q ⟨ρ, Hf, R, k⟩ => k Hf H (Same.refl _) R [] (by simp only [IsDs])⟩
theorem pae_cons (ha : PXe X g E Γ a Γ1 .fr fa) (hr : PAe X g E Γ1 es Γ2 fr) (hs : starEach (a :: es) X.env = (false, eval a X.env) :: starEach es X.env := by rfl) : PAe X g E Γ (a :: es) Γ2 (uC fa fr) := by
  refine ⟨hr.le.trans ha.le, (pa_cons ha.pe hr.pe hs).imp fun σ H Q ⟨ρ, Hf, R, k⟩ => ⟨ρ, Hf, R, ?_⟩⟩
  refine tE.bind k fun x ρ1 F1 H1 s1 R1 k1 v hv => ⟨ρ1, F1, R1, ?_⟩
  refine tE.bind k1 fun ys ρ2 F2 H2 s3 R2 k2 us hu => ?_
  refine k2 F2 H2 (Same.refl _) R2 (v :: us) ?_
  simp only [IsDs]
  exact ⟨v, us, rfl, IsD.mono s3 hv, hu⟩
theorem pxe_fn {k : Nat} {x : Str} {ps : List Str} {F : List D → Out D} (C : FnA X.prog X.w X.K X.mg X.base k x ps false F) (hr : Room k X.A) (hg : Gl X x) (tk : Takes X E) (ha : PAe X g E Γ (e :: es) Γ1 fr) (hdb : (x == ("__debug__" : Str)) = false := by decide)
    (he : starEach (e :: es) X.env = (false, eval e X.env) :: starEach es X.env := by rfl) (hpl : (backTo pos (starEach es X.env)).any (·.1) = false := by rfl) : PXe X g E Γ (.Call (.Name x p) (e :: es) [] pos) Γ1 .fr (uA F fr) := by
  obtain ⟨f, fd, e1, e2, e3, e4, _⟩ := C.ex
  refine ⟨ha.le, (pe_callS e4 hr hg e1 e2 e3 (fun σ => passAt tk σ) ha.pe hdb he hpl).imp fun σ H Q ⟨ρ, Hf, R, q⟩ => ⟨ρ, Hf, R, ?_⟩⟩
  exact tE.bind q fun ds ρ1 F1 H1 s1 R1 k1 vs hv => call_sp (ro := false) R1 hv (tE.lift k1 fun d F2 H2 _ R2 q => q)
theorem pxe_callT {x : Str} {T : String} {F : List D → Out D} (hc : CaD X (.type T) m F) (hg : Gl X x) (hm : X.mg x = none) (hv : bootBuiltins x = some (.type T)) (ha : PAe X g E Γ (a :: es) Γ1 fr) (hn : x ≠ "__name__" := by decide) (hdb : (x == ("__debug__" : Str)) = false := by decide)
    (he : starEach (a :: es) X.env = (false, eval a X.env) :: starEach es X.env := by rfl) (hpl : (backTo pos (starEach es X.env)).any (·.1) = false := by rfl) : PXe X g E Γ (.Call (.Name x p) (a :: es) [] pos) Γ1 m (uA F fr) := by
  obtain ⟨r, hr, w⟩ := hc
  refine ⟨ha.le, (pe_callTy hr hg hm hv ha.pe hn hdb he hpl).imp fun σ H Q ⟨ρ, Hf, R, k⟩ => ⟨ρ, Hf, R, ?_⟩⟩
  refine tE.bind k fun ds ρ1 F1 H1 s1 R1 k1 vs hv => w g E Γ1 ρ1 σ F1 H1 ds vs Q R1 ?_ (tE.lift k1 fun d F2 H2 _ R2 q => q)
  clear k1 w
  induction ds generalizing vs with
  | nil => simp only [IsDs] at hv; subst hv; rfl
  | cons d ds ih =>
    simp only [IsDs] at hv
    obtain ⟨v, us, rfl, q1, q2⟩ := hv
    exact ⟨v, us, rfl, IsR.of_dat R1.same q1, ih us q2⟩
end
end PD

namespace PD
open PySem PySem.Spec L2
open PyProof.Rows hiding St

theorem tE.toG {K : PySem.W.Frag} {mg : Mg} {g : G} {E : WX} {Γ Γ2 : List Bool} {ρ : Env} {σ : St} {Hf H : Hp} {α β : Type} {P : α → Hp → Hp → Prop} {Q : β → Env → Hp → Hp → Prop} {o : Out α} {k : α → Out (β × Env)} (h : tE K mg g E Γ2 σ Hf Q (o.bind k))
    (w : ∀ a Hf' H', Same Hf Hf' → Same H H' → Rp K mg g Γ ρ σ Hf' H' → tE K mg g E Γ2 σ Hf' Q (k a) → P a Hf' H') : tG K mg g E Γ ρ σ Hf H P o := by
  cases o with
  | ok a => exact fun F' H' s1 s2 R => w a F' H' s1 s2 R (tE.mono s1 h)
  | exc x => exact fun c dd F' H' _ _ R q => h c dd F' H' R.same R.ent R.ent2 R.news q
  | stuck => exact h
section
variable {X : Cx} {g : G} {E : WX} {ro : Bool} {Γl Γ Γ1 Γ2 Γ3 : List Bool} {m : Md} {pos p apos : Pos} {a b e : Expr} {es rest : List Expr} {fa fb fe : Env → Out (D × Env)} {fs ft : Env → Out (Bool × Env)} {fr : Env → Out (List D × Env)} {k : Nat} {ps : List Str} {mn : Str} {F : List D → Out D} {fp : Env → Out (List D)}
theorem meth_spE {i : Nat} {c : Str} {fs : List (Str × D)} {ρ : Env} {σ : St} {F1 H1 : Hp} {ds : List D} {vs : List V} {Q : VK} {ad : Addr} (ow : Own Γ i) (R : Rp X.K X.mw g Γ ρ σ F1 H1) (er : ρ[i]? = some (some (.ins c fs))) (ev : σ[i]? = some (some (.ref ad))) (hv : IsDs X.K X.mw F1 ds vs)
    (k : tE X.K X.mw g E Γ σ F1 (fun d ρ' Hf' H' => ∀ v, Res X.K X.mw g Γ ρ' σ Hf' H' .fr d v → Q v H') ((F (.ins c fs :: ds)).bind fun d => match d with
    | .tup [r, .ins c'' fs''] => .ok (r, ρ.set i (some (.ins c'' fs'')))
    | _ => .stuck)) : spM X.K X.mw F (.ref ad :: vs) H1 Q (WE E σ) := by
  obtain ⟨u, eu, io⟩ := R.own i _ ow er
  rw [ev] at eu
  cases eu
  obtain ⟨ad', o, ea, z0, zf, qH, iat⟩ := io
  cases ea
  refine ⟨ad, vs, c, fs, o, ds, F1, rfl, qH, zf, R.same, iat, hv, ?_⟩
  cases hF : F (.ins c fs :: ds) with
  | stuck => rw [hF] at k; exact k.elim
  | exc x =>
    rw [hF] at k
    intro cl dd Hf' H' s1 s2 kp nw ix
    refine k cl dd Hf' H' s2 (fun b y q => kp b y (ne_of_none q z0) (R.ent _ _ q)) (R.ent2.trans s1) (fun b y q => ?_) ix
    rcases nw b y q with z | z | z
    · exact R.news b y z
    · exact .inr (R.ent.free z)
    · exact .inr (z ▸ z0)
  | ok d =>
    rw [hF] at k
    intro r c' fs' v Hf' H' o' ed s1 s2 kp nw fa' ea' io' iv
    subst ed
    rw [Out.bind_ok] at k
    exact k Hf' H' s1 (R.called (o := o) ow er ev z0 zf s1 s2 kp nw fa' ea' io') v iv
theorem pxe_meth {pl : Sem Bool} {i : Nat} {x c : Str} (T : MmA X.prog X.w X.K X.mg X.base k mn [c] ps F) (hr : Room k X.A) (tk : Takes X E) (hx : PE X (.Name x p) (tVar i)) (ow : Γ1.getD i false = true) (ha : PAx X g E Γ (e :: es) Γ1 fp)
    (hst : starEach (e :: es) X.env = (false, eval e X.env) :: starEach es X.env := by rfl) (hpl : (backTo pos (starEach es X.env)).any (·.1) = false := by rfl)
    (ht : eval (.Call (.Attribute (.Name x p) mn apos) (e :: es) [] pos) X.env = (do
      let ov ← eval (.Name x p) X.env
      standAt apos.atName
      let (f, first) ← holding [ov] (getMethod ov mn pl)
      callWith pos f first (backTo pos (starEach (e :: es) X.env)) (backToKw pos (keywordEach [] X.env))) := by rfl) :
    PXe X g E Γ (.Call (.Attribute (.Name x p) mn apos) (e :: es) [] pos) Γ1 .fr (uMk c mn F i fp) := by
  obtain ⟨f, fd, hcs, hb, hF⟩ := T.ex
  obtain ⟨C, mc, cl, mt⟩ := hcs c (List.mem_singleton.mpr rfl)
  refine ⟨ha.le, (pe_methS hx cl mt hF hr hb (fun σ => passAt tk σ) ha.pe hst hpl ht).imp fun σ H Q ⟨ρ, Hf, R, q⟩ => ?_⟩
  unfold uMk at q
  split at q
  · rename_i c' fs er
    by_cases z : c' = c ∧ fs.lookup mn = none
    · rw [chk_pos z] at q
      obtain ⟨rfl, z2⟩ := z
      obtain ⟨u, eu, io⟩ := R.own i _ (ha.le i ow) er
      obtain ⟨ad, o, rfl, z0, zf, qH, C', dx, xs, rfl, mc', r⟩ := io
      obtain rfl : C' = C := by rw [show X.mg c' = some (.ref C') from mc'] at mc; cases mc; rfl
      refine ⟨_, eu, ad, dx, xs, rfl, qH, (IsFs.lk r).2 z2, ρ, Hf, R, ?_⟩
      refine tE.toG q fun ds F1 H1 s1 s2 R1 k1 vs hv => ?_
      exact meth_spE ow R1 er eu hv k1
    · rw [chk_neg z] at q; exact q.elim
  · exact q.elim
theorem pxe_meth0 {pl : Sem Bool} {i : Nat} {x c : Str} (T : MmA X.prog X.w X.K X.mg X.base k mn [c] ps F) (hr : Room k X.A) (tk : Takes X E) (hx : PE X (.Name x p) (tVar i)) (ow : Γ.getD i false = true)
    (ht : eval (.Call (.Attribute (.Name x p) mn apos) [] [] pos) X.env = (do
      let ov ← eval (.Name x p) X.env
      standAt apos.atName
      let (f, first) ← holding [ov] (getMethod ov mn pl)
      callWith pos f first (backTo pos (starEach [] X.env)) (backToKw pos (keywordEach [] X.env))) := by rfl) :
    PXe X g E Γ (.Call (.Attribute (.Name x p) mn apos) [] [] pos) Γ .fr (uMk c mn F i aN) := by
  obtain ⟨f, fd, hcs, hb, hF⟩ := T.ex
  obtain ⟨C, mc, cl, mt⟩ := hcs c (List.mem_singleton.mpr rfl)
  refine ⟨Le.refl _, (pe_methS0 hx cl mt hF hr hb (fun σ => passAt tk σ) ht).imp fun σ H Q ⟨ρ, Hf, R, q⟩ => ?_⟩
  unfold uMk at q
  split at q
  · rename_i c' fs er
    by_cases z : c' = c ∧ fs.lookup mn = none
    · rw [chk_pos z] at q
      obtain ⟨rfl, z2⟩ := z
      obtain ⟨u, eu, io⟩ := R.own i _ ow er
      obtain ⟨ad, o, rfl, z0, zf, qH, C', dx, xs, rfl, mc', r⟩ := io
      obtain rfl : C' = C := by rw [show X.mg c' = some (.ref C') from mc'] at mc; cases mc; rfl
      refine ⟨_, eu, ad, dx, xs, rfl, qH, (IsFs.lk r).2 z2, ?_⟩
      refine meth_spE (ds := []) ow R er eu (by simp only [IsDs]) ?_
      unfold aN at q
      rw [Out.bind_ok] at q
      exact q
    · rw [chk_neg z] at q; exact q.elim
  · exact q.elim
theorem pxe_tup {k : Nat} (h : PAe X g E Γ es Γ1 fr) : PXe X g E Γ (.Tuple es k pos) Γ1 m (uA mkTup fr) := by
  refine ⟨h.le, (pe_tupF h.pe).imp fun σ H Q ⟨ρ, Hf, R, q⟩ => ⟨ρ, Hf, R, ?_⟩⟩
  refine tE.bind q fun ds ρ1 F1 H1 s1 R1 k1 vs hv => ?_
  unfold mkTup at k1
  by_cases z : ds.length ≤ sizeLine
  · rw [chk_pos z] at k1
    refine ⟨by rw [hv.len]; exact z, fun p o hd n => ?_⟩
    obtain ⟨t1, t2, R2⟩ := R1.new (.frz o (.tup vs)) n
    refine k1 _ _ t1 R2 _ (Res.dat R2.same rfl ?_)
    simp only [IsD]
    exact ⟨p, vs, rfl, .frz upd_same hd, IsDs.mono t1 hv⟩
  · rw [chk_neg z] at k1; exact k1.elim
theorem pxe_lst (h : PAe X g E Γ es Γ1 fr) : PXe X g E Γ (.List es pos) Γ1 .ow (uA mkLst fr) := by
  refine ⟨h.le, (pe_lst h.pe).imp fun σ H Q ⟨ρ, Hf, R, q⟩ => ⟨ρ, Hf, R, ?_⟩⟩
  refine tE.bind q fun ds ρ1 F1 H1 s1 R1 k1 vs hv => ?_
  unfold mkLst at k1
  by_cases z : ds.length ≤ sizeLine
  · rw [chk_pos z] at k1
    refine ⟨by rw [hv.len]; exact z, fun p n => ?_⟩
    obtain ⟨t2, R2, n0, nf, ap⟩ := R1.newO (.lst vs) n
    exact k1 _ _ (Same.refl _) R2 (.ref p) ⟨⟨p, vs, rfl, n0, nf, upd_same, hv⟩, fun i e ow e1 m _ e2 => ap i e ow e1 m e2⟩
  · rw [chk_neg z] at k1; exact k1.elim
theorem pte_of {e : Expr} {t : TE} {f : Env → Out (D × Env)} (hp : PT X e (tTest t)) (w : ∀ σ H Q, (∃ ρ Hf, Rp X.K X.mw g Γ ρ σ Hf H ∧ tE X.K X.mw g E Γ1 σ Hf (fun d ρ' Hf' H' => ∀ v, Res X.K X.mw g Γ1 ρ' σ Hf' H' .fr d v → Q v H') (f ρ)) → t σ H Q) (le : Le Γ1 Γ) : PTe X g E Γ e Γ1 (qOf f) := by
  refine ⟨le, hp.imp fun σ H Q ⟨ρ, Hf, R, k⟩ => w σ H _ ⟨ρ, Hf, R, ?_⟩⟩
  refine tE.bind k fun x ρ1 F1 H1 s1 R1 k1 v hv => ?_
  cases x with
  | bl b => exact ⟨b, hv, k1 F1 H1 (Same.refl _) R1⟩
  | _ => exact k1.elim
theorem pte_val {e : Expr} {f : Env → Out (D × Env)} (h : PXe X g E Γ e Γ1 .fr f) (he : ∀ whole, isTrue e X.env whole = (do let v ← whole; standAt e.pos; holding [v] (truthy v)) := by intro _; rfl) : PTe X g E Γ e Γ1 (qOf f) :=
  pte_of (pt_val h.pe he) (fun _ _ _ z => z) h.le
theorem pte_cmp {op : CmpOp} {F : D → D → Out D} (ho : OpD X (compareOp op) .fr F) (ha : PXe X g E Γ a Γ1 .fr fa) (hb : PXe X g E Γ1 b Γ2 .fr fb) (hm : behindInMarks op b = false) : PTe X g E Γ (.Compare a [op] [b] pos) Γ2 (qOf (u2 F fa fb)) := by
  obtain ⟨r, hr, w⟩ := ho
  refine pte_of (pt_cmpR hr ha.pe hb.pe hm) (fun σ H Q ⟨ρ, Hf, R, k⟩ => ⟨ρ, Hf, R, ?_⟩) (hb.le.trans ha.le)
  refine tE.bind k fun x ρ1 F1 H1 s1 R1 k1 v hv => ⟨ρ1, F1, R1, ?_⟩
  refine tE.bind k1 fun y ρ2 F2 H2 s3 R2 k2 u hu => ?_
  exact w g E Γ2 ρ2 σ F2 H2 x y v u Q R2 (IsR.of_dat R2.same (IsD.mono s3 hv)) (IsR.of_dat R2.same hu) (tE.lift k2 fun d F2 H2 _ R2 q => q)
theorem pte_not (ha : PTe X g E Γ a Γ1 fs) : PTe X g E Γ (.UnaryOp .Not a pos) Γ1 (qNot fs) := by
  refine ⟨ha.le, (pt_not ha.pe).imp fun σ H Q ⟨ρ, Hf, R, k⟩ => ⟨ρ, Hf, R, ?_⟩⟩
  exact tE.bind k fun x ρ1 F1 H1 s1 R1 k1 => k1 F1 H1 (Same.refl _) R1
theorem pwe_or1 (ha : PTe X g E Γ a Γ1 fs) : PWe X g E Γ (.BoolOp .Or [a] pos) Γ1 fs := ⟨ha.le, pw_or1 ha.pe⟩
theorem PWe.pt {e : Expr} (h : PWe X g E Γ e Γ1 fs) : PTe X g E Γ e Γ1 fs := ⟨h.le, h.pe.pt⟩
theorem pwe_or (ha : PTe X g E Γ a Γ1 fs) (hb : PWe X g E Γ1 (.BoolOp .Or (b :: rest) pos) Γ2 ft) : PWe X g E Γ (.BoolOp .Or (a :: b :: rest) pos) Γ2 (qOr fs ft) := by
  refine ⟨hb.le.trans ha.le, (pw_or ha.pe hb.pe).imp fun σ H Q ⟨ρ, Hf, R, k⟩ => ⟨ρ, Hf, R, ?_⟩⟩
  refine tE.bind k fun x ρ1 F1 H1 s1 R1 k1 => ?_
  cases x with
  | false => exact ⟨ρ1, F1, R1, k1⟩
  | true =>
    obtain ⟨F2, s3, R2, _⟩ := R1.frz hb.le
    exact k1 F2 H1 s3 R2
end
def sExprE (f : Env → Out (D × Env)) : Env → SO := fun ρ => oS (f ρ) fun p => .nx p.2
def sSetE (i : Nat) (f : Env → Out (D × Env)) : Env → SO := fun ρ => oS (f ρ) fun p => .nx (p.2.set i (some p.1))
def sIfE (t : Env → Out (Bool × Env)) (a b : Env → SO) : Env → SO := fun ρ => oS (t ρ) fun p => if p.1 = true then a p.2 else b p.2
def sAsgE (G : D → Env → Out Env) (f : Env → Out (D × Env)) : Env → SO := fun ρ => oS (f ρ) fun p => oS (G p.1 p.2) .nx
def sRetM (f : Env → Out (D × Env)) : Env → SO := fun ρ => oS (f ρ) fun (p : D × Env) => match p.2[(0 : Nat)]? with
  | some (some (D.ins c fs)) => .rt (.tup [p.1, .ins c fs])
  | _ => .stuck
def sRetE (f : Env → Out (D × Env)) : Env → SO := fun ρ => oS (f ρ) fun p => .rt p.1
noncomputable def sAppE (i : Nat) (f : Env → Out (D × Env)) : Env → SO := fun ρ => match ρ[i]? with
  | some (some (.lst _)) => oS (f ρ) fun p => match p.2[i]? with
    | some (some (.lst xs)) => chkS (xs.length < sizeLine) (.nx (p.2.set i (some (.lst (xs ++ [p.1])))))
    | _ => .stuck
  | _ => .stuck
def whileE (t : Env → Out (Bool × Env)) (b : Env → SO) : Nat → Env → SO
  | 0, _ => .stuck
  | n + 1, ρ => oS (t ρ) fun p => if p.1 = true then (b p.2).turn fun r => whileE t b n r else .nx p.2
open Classical in
noncomputable def sWhileE (t : Env → Out (Bool × Env)) (b : Env → SO) : Env → SO := fun ρ => if h : ∃ n, whileE t b n ρ ≠ .stuck then whileE t b (Classical.choose h) ρ else .stuck
theorem whileE_more {t : Env → Out (Bool × Env)} {b : Env → SO} : ∀ {n : Nat} {ρ : Env}, whileE t b n ρ ≠ .stuck → ∀ m, n ≤ m → whileE t b m ρ = whileE t b n ρ
  | 0, ρ, h, _, _ => absurd rfl h
  | n + 1, ρ, h, 0, l => absurd l (by omega)
  | n + 1, ρ, h, m + 1, l => by
    unfold whileE at h ⊢
    cases ht : t ρ with
    | ok c =>
      rw [ht] at h
      simp only [oS_ok] at h ⊢
      obtain ⟨c, ρ1⟩ := c
      cases c with
      | true =>
        simp only [if_true] at h ⊢
        cases hb : b ρ1 with
        | nx r => rw [hb] at h; exact whileE_more h m (by omega)
        | ct r => rw [hb] at h; exact whileE_more h m (by omega)
        | _ => rfl
      | false => rfl
    | exc x => rfl
    | stuck => rfl
theorem sWhileE_eq {t : Env → Out (Bool × Env)} {b : Env → SO} {n : Nat} {ρ : Env} (h : whileE t b n ρ ≠ .stuck) : sWhileE t b ρ = whileE t b n ρ := by
  have hx : ∃ n, whileE t b n ρ ≠ .stuck := ⟨n, h⟩
  have hc := Classical.choose_spec hx
  unfold sWhileE
  rw [dif_pos hx]
  rcases Nat.le_total (Classical.choose hx) n with l | l
  · exact (whileE_more hc n l).symm
  · exact whileE_more h _ l
theorem sWhileE_some {t : Env → Out (Bool × Env)} {b : Env → SO} {ρ : Env} (h : sWhileE t b ρ ≠ .stuck) : ∃ n, whileE t b n ρ = sWhileE t b ρ := by
  unfold sWhileE at h ⊢
  by_cases hx : ∃ n, whileE t b n ρ ≠ .stuck
  · rw [dif_pos hx]; exact ⟨_, rfl⟩
  · rw [dif_neg hx] at h; exact absurd rfl h
theorem sWhileE_true {t : Env → Out (Bool × Env)} {b : Env → SO} {ρ ρ1 : Env} (h : t ρ = .ok (true, ρ1)) : sWhileE t b ρ = (b ρ1).turn (sWhileE t b) := by
  by_cases st : (b ρ1).turn (sWhileE t b) = .stuck
  · rw [st]
    by_cases s2 : sWhileE t b ρ = .stuck
    · exact s2
    exfalso
    obtain ⟨n, e⟩ := sWhileE_some s2
    rw [← e] at s2
    cases n with
    | zero => exact s2 rfl
    | succ n =>
      unfold whileE at s2
      rw [h] at s2
      simp only [oS_ok, if_true] at s2
      cases hb : b ρ1 with
      | nx r => rw [hb] at s2 st; rw [turn_nx] at s2 st; rw [sWhileE_eq s2] at st; exact s2 st
      | ct r => rw [hb] at s2 st; rw [turn_ct] at s2 st; rw [sWhileE_eq s2] at st; exact s2 st
      | bk r => rw [hb] at st; cases st
      | rt d => rw [hb] at st; cases st
      | ex x => rw [hb] at st; cases st
      | stuck => rw [hb] at s2; exact s2 rfl
  · have key : ∃ n, whileE t b (n + 1) ρ = (b ρ1).turn (sWhileE t b) := by
      cases hb : b ρ1 with
      | nx r =>
        rw [hb, turn_nx] at st
        obtain ⟨n, e⟩ := sWhileE_some st
        exact ⟨n, by unfold whileE; rw [h]; simp only [oS_ok, if_true]; rw [hb, turn_nx, turn_nx, e]⟩
      | ct r =>
        rw [hb, turn_ct] at st
        obtain ⟨n, e⟩ := sWhileE_some st
        exact ⟨n, by unfold whileE; rw [h]; simp only [oS_ok, if_true]; rw [hb, turn_ct, turn_ct, e]⟩
      | bk r => exact ⟨0, by unfold whileE; rw [h]; simp only [oS_ok, if_true]; rw [hb]; rfl⟩
      | rt d => exact ⟨0, by unfold whileE; rw [h]; simp only [oS_ok, if_true]; rw [hb]; rfl⟩
      | ex x => exact ⟨0, by unfold whileE; rw [h]; simp only [oS_ok, if_true]; rw [hb]; rfl⟩
      | stuck => rw [hb] at st; exact absurd rfl st
    obtain ⟨n, e⟩ := key
    rw [← e] at st ⊢
    exact sWhileE_eq st
theorem sWhileE_false {t : Env → Out (Bool × Env)} {b : Env → SO} {ρ ρ1 : Env} (h : t ρ = .ok (false, ρ1)) : sWhileE t b ρ = .nx ρ1 := by
  have e : whileE t b 1 ρ = .nx ρ1 := by unfold whileE; rw [h]; rfl
  rw [← e]
  exact sWhileE_eq (by rw [e]; intro z; cases z)
section
variable {X : Cx} {g : G} {E : WX} {ro : Bool} {Γl Γ Γ1 Γ2 Γ3 : List Bool} {m : Md} {pos p apos : Pos} {a b e : Expr} {es rest : List Expr} {fa fb fe f : Env → Out (D × Env)} {fs ft : Env → Out (Bool × Env)} {fr : Env → Out (List D × Env)}
theorem tE.toS {Dn : Ends} {Γ1 : List Bool} {σ : St} {Hf : Hp} {α : Type} {P : α → Env → Hp → Hp → Prop} {o : Out (α × Env)} {k : α × Env → SO} (h : sR X.K X.mw g E Γ2 Γl ro Dn (oS o k))
    (hk : ∀ a ρ' Hf' H', Same Hf Hf' → Rp X.K X.mw g Γ1 ρ' σ Hf' H' → sR X.K X.mw g E Γ2 Γl ro Dn (k (a, ρ')) → P a ρ' Hf' H') : tE X.K X.mw g E Γ1 σ Hf P o := by
  cases o with
  | ok p => exact fun F1 H1 s1 R1 => hk p.1 p.2 F1 H1 s1 R1 h
  | exc x => exact fun c dd F1 H1 s1 s2 s3 nw q => h c dd σ F1 H1 s1 s2 s3 nw q
  | stuck => exact h
theorem psx_exprE (he : PXe X g E Γ e Γ1 .fr f) (hs : swapsWith e none pos.line X.env = pure false := by rfl) : PSx X g E ro Γl Γ (.Expr e pos) Γ1 (sExprE f) :=
  ⟨(ps_expr he.pe hs).imp fun D σ H ⟨ρ, Hf, R, q⟩ => ⟨ρ, Hf, R, tE.toS q fun d ρ1 F1 H1 s1 R1 k v hv => k σ F1 H1 R1⟩⟩
theorem psx_setE {i : Nat} {x : Str} (hN : X.N.Nodup) (hi : X.N[i]? = some x) (hx : Loc X.env.scope x) (he : PXe X g E Γ e Γ1 .fr f) (hf : X.fn x = true ∨ X.env.scope.names.lookup x = some .local := by first | exact .inl rfl | exact .inr rfl | assumption) (ns : NS g i := by first | exact .inr rfl | exact .inr (by assumption) | exact .inl (by decide)) (hs : swapsWith e (some (.Name x p)) pos.line X.env = pure false := by rfl) :
    PSx X g E ro Γl Γ (.Assign [.Name x p] e pos) (Γ1.set i false) (sSetE i f) :=
  ⟨(ps_set hN hi hx he.pe hs hf).imp fun D σ H ⟨ρ, Hf, R, q⟩ => ⟨ρ, Hf, R, tE.toS q fun d ρ1 F1 H1 s1 R1 k v hv => k _ F1 H1 (R1.setF ns hv)⟩⟩
theorem psx_setOE {i : Nat} {x : Str} (hN : X.N.Nodup) (hi : X.N[i]? = some x) (hx : Loc X.env.scope x) (he : PXe X g E Γ e Γ1 .ow f) (hl : i < Γ1.length) (hf : X.fn x = true ∨ X.env.scope.names.lookup x = some .local := by first | exact .inl rfl | exact .inr rfl | assumption) (ns : NS g i := by first | exact .inr rfl | exact .inr (by assumption) | exact .inl (by decide)) (hs : swapsWith e (some (.Name x p)) pos.line X.env = pure false := by rfl) :
    PSx X g E ro Γl Γ (.Assign [.Name x p] e pos) (Γ1.set i true) (sSetE i f) :=
  ⟨(ps_set hN hi hx he.pe hs hf).imp fun D σ H ⟨ρ, Hf, R, q⟩ => ⟨ρ, Hf, R, tE.toS q fun d ρ1 F1 H1 s1 R1 k v hv => k _ F1 H1 (R1.setO ns hl hv.1 hv.2)⟩⟩
theorem psx_ifE {c : Expr} {a b : List Stmt} {fa fb : Env → SO} (hc : PTe X g E Γ c Γ1 ft) (ha : PSsx X g E ro Γl Γ1 a Γ2 fa) (hb : PSsx X g E ro Γl Γ1 b Γ2 fb) : PSx X g E ro Γl Γ (.If c a b pos) Γ2 (sIfE ft fa fb) := by
  refine ⟨(ps_if hc.pe ha.ps hb.ps).imp fun D σ H ⟨ρ, Hf, R, q⟩ => ⟨ρ, Hf, R, tE.toS q fun d ρ1 F1 H1 s1 R1 k => ?_⟩⟩
  cases d with
  | true => exact ⟨ρ1, F1, R1, k⟩
  | false => exact ⟨ρ1, F1, R1, k⟩
theorem psx_asgE {tg : Expr} {F : D → Env → Out Env} (he : PXe X g E Γ e Γ1 .fr f) {ws : List Nat} (hg : PGx X g Γ1 tg Γ2 F ws) (nx : ∀ d ρ x, F d ρ ≠ .exc x) (hs : swapsWithSole [tg] e pos.line X.env = pure false := by rfl) (hw : swappedStores [tg] e X.env = pure none := by rfl)
    (h1 : (assignEach [tg] X.env).map (·.2) = [assign tg X.env] := by rfl) : PSx X g E ro Γl Γ (.Assign [tg] e pos) Γ2 (sAsgE F f) := by
  refine ⟨(ps_asg he.pe hg.pg hs hw h1).imp fun D σ H ⟨ρ, Hf, R, q⟩ => ⟨ρ, Hf, R, tE.toS q fun d ρ1 F1 H1 s1 R1 k v hv => ?_⟩⟩
  cases hF : F d ρ1 with
  | ok ρ' => simp only [hF] at k; exact ⟨d, ρ1, F1, R1, hv, ρ', hF, fun σ' _ R' => k σ' F1 H1 R'⟩
  | exc x => exact absurd hF (nx d ρ1 x)
  | stuck => simp only [hF] at k; exact k.elim
theorem psx_retM {ad : Addr} (he : PXe X g E Γ e Γ1 .fr f) (o : Γ1.getD 0 false = true) (hs : g.slf = some ad := by first | rfl | assumption) : PSx X g E false Γl Γ (.Return (some e) pos) Γ2 (sRetM f) := by
  refine ⟨(ps_ret he.pe).imp fun D σ H ⟨ρ, Hf, R, q⟩ => ⟨ρ, Hf, R, tE.toS q fun d ρ1 F1 H1 s1 R1 k v hv => ?_⟩⟩
  dsimp only at k
  split at k
  · rename_i c fs er
    obtain ⟨u, eu, io⟩ := R1.own 0 _ o er
    have e0 := R1.len.2 ad hs
    rw [eu] at e0
    cases e0
    obtain ⟨ad', ob, ea, z0, zf, qH, iat⟩ := io
    cases ea
    refine k v F1 H1 R1.same R1.ent R1.ent2 R1.news ?_
    unfold RetG
    rw [hs]
    exact ⟨d, c, fs, ob, rfl, zf, qH, iat, hv⟩
  · exact k.elim
theorem psx_whileE {c : Expr} {body : List Stmt} {fb : Env → SO} (hp : PassesOwn (model X.prog X.w) X.A X.env X.xe) (hc : PTe X g E Γ c Γ ft) (hb : PSsx X g E ro Γ Γ body Γ fb) : PSx X g E ro Γl Γ (.While c body [] pos) Γ (sWhileE ft fb) := by
  refine ⟨(ps_while hp hc.pe hb.ps).imp fun Dn σ H ⟨ρ, Hf, R, q⟩ => ?_⟩
  by_cases st : sWhileE ft fb ρ = .stuck
  · rw [st] at q; exact q.elim
  obtain ⟨n0, e0⟩ := sWhileE_some st
  rw [← e0] at q
  refine ⟨fun n σ H => ∃ ρ Hf, Rp X.K X.mw g Γ ρ σ Hf H ∧ sR X.K X.mw g E Γ Γl ro Dn (whileE ft fb n ρ), ⟨n0, ρ, Hf, R, q⟩, ?_⟩
  rintro n σ1 H1 ⟨ρ1, Hf1, R1, k1⟩
  refine ⟨ρ1, Hf1, R1, ?_⟩
  cases n with
  | zero => exact k1.elim
  | succ n =>
    unfold whileE at k1
    refine tE.toS k1 fun b ρ2 F2 H2 s1 R2 k2 => ?_
    cases b with
    | true =>
      simp only [if_pos] at k2
      rw [if_pos rfl]
      refine ⟨fun σ3 H3 => ∃ ρ Hf, Rp X.K X.mw g Γ ρ σ3 Hf H3 ∧ sR X.K X.mw g E Γ Γl ro Dn (whileE ft fb n ρ), fun σ3 H3 z => ⟨n, Nat.lt_succ_self _, z⟩, ρ2, F2, R2, ?_⟩
      cases hf : fb ρ2 with
      | nx r => rw [hf] at k2; exact fun σ5 Hf5 H5 R5 => ⟨r, Hf5, R5, k2⟩
      | ct r => rw [hf] at k2; exact fun σ5 Hf5 H5 R5 => ⟨r, Hf5, R5, k2⟩
      | bk r => rw [hf] at k2; exact fun σ5 Hf5 H5 R5 => k2 σ5 Hf5 H5 R5
      | rt d => rw [hf] at k2; exact k2
      | ex x => rw [hf] at k2; exact k2
      | stuck => rw [hf] at k2; exact k2
    | false =>
      simp only [Bool.false_eq_true, if_false] at k2
      rw [if_neg Bool.false_ne_true]
      exact k2 σ1 F2 H2 R2
theorem psx_appendE {i : Nat} {x : Str} {ap cp : Pos} (h : PE X (.Name x p) (tVar i)) (ha : PXe X g E Γ a Γ1 .fr fa) (o : Γ1.getD i false = true)
    (hbase : attributeBase (.Name x p) "append" X.env (eval (.Name x p) X.env) = eval (.Name x p) X.env := by rfl)
    (hfew : ((backTo cp (starEach (a :: []) X.env)).all (fun x => !x.1) && (backToKw cp (keywordEach [] X.env)).all (fun x => x.1.isSome)
      && decide ((a :: []).length + ([] : List Keyword).length + (if ([] : List Keyword).isEmpty then 0 else 1) < 30)) = true := by rfl)
    (hline : (ap.endLine == cp.line) = true := by rfl) (hs : starEach (a :: []) X.env = (false, eval a X.env) :: starEach [] X.env := by rfl) (hplain : (backTo cp (starEach [] X.env)).any (·.1) = false := by rfl)
    (hsw : swapsWith (.Call (.Attribute (.Name x p) "append" ap) [a] [] cp) none pos.line X.env = pure false := by rfl) :
    PSx X g E ro Γl Γ (.Expr (.Call (.Attribute (.Name x p) "append" ap) [a] [] cp) pos) Γ1 (sAppE i fa) := by
  refine ⟨(ps_expr (pe_bm PySem.F.plainAttrs_list PySem.F.slot_list_append PySem.F.type_list_append mt_append h (pa_cons ha.pe pa_nil hs) hbase hfew hline hs hplain) hsw).imp fun Dn σ H ⟨ρ, Hf, R, q⟩ => ?_⟩
  unfold sAppE at q
  split at q
  · rename_i xs e
    obtain ⟨v, es, io⟩ := R.own i _ (ha.le i o) e
    obtain ⟨p, ys, rfl, z0, zf, qH, r⟩ := io
    refine ⟨_, es, .inl ⟨rfl, ys, SqL.of qH⟩, ρ, Hf, R, ?_⟩
    refine tE.toS q fun d ρ1 F1 H1 s1 R1 k v hv => ?_
    simp only at k
    split at k
    · rename_i xs' e'
      obtain ⟨v', es', io'⟩ := R1.own i _ o e'
      rw [es] at es'
      obtain rfl : V.ref p = v' := Option.some.inj (Option.some.inj es')
      obtain ⟨p', ys', ep, z0', zf', qH', r'⟩ := io'
      obtain rfl : p = p' := V.ref.inj ep
      by_cases l : xs'.length < sizeLine
      · rw [chkS_pos l] at k
        refine ⟨p, ys', v, rfl, rfl, qH', by rw [r'.len]; exact l, ?_⟩
        exact k σ F1 _ (R1.wr o e' rfl es z0' zf' ⟨p, _, rfl, z0', zf', upd_same, r'.snoc hv⟩)
      · rw [chkS_neg l] at k; exact k.elim
    · exact k.elim
  · exact q.elim
end
end PD
namespace PD
open PySem PySem.Spec L2
open PyProof.Rows hiding St
theorem mmA_stuck {P : Program} {w : World} {K : PySem.W.Frag} {mg : Str → Option Value} {base : Heap} {m q : Str} {cs ps : List Str} {st : Stmt} {k : Nat} (T : MeT K mg m q st cs)
    (hbind : ∀ (kV doc pm : Value) (an : Option Addr) (cdv ct : Value) (us : List Value), us.length = ps.length → bindArgs (PySem.W.fnOf m q (defArgs st) (defBody st) (defScope st) .none kV doc pm an cdv ct) ⟨us, []⟩ = pure (ps.zip us)) :
    MmA P w K mg base k m cs ps (fun _ => .stuck) := by
  obtain ⟨f, fd, F, hm⟩ := T.ex
  exact ⟨f, fd, hm, F.binds hbind, ⟨fun vs H Q E ⟨_, _, _, _, _, _, _, _, _, _, _, _, _, z⟩ => z.elim, fun A outer s H args us vs Q E _ _ _ _ ⟨_, _, _, _, _, _, _, _, _, _, _, _, _, z⟩ => z.elim⟩⟩
end PD
namespace PD
open PySem PySem.Spec L2
open PyProof.Rows hiding St
def dNotInC (kvs : List (Str × Str)) : D → Out D
  | .str s => .ok (.bl (!(kvs.lookup s).isSome))
  | _ => .stuck
section
variable {X : Cx} {g : G} {E : WX} {Γ Γ1 : List Bool} {m : Md} {pos p : Pos} {e : Expr} {f : Env → Out D} {x : Str} {kvs : List (Str × Str)}
theorem op_notinC {a : Addr} (hsys : (a == sysModules) = false) (hm : ∀ (P : Program) (h : Heap), X.K.In h → ∃ f, h.MapOf (mixKind P X.w) a f ∧ ∀ s, RelO ((kvs.lookup s).map V.str) (f (.inr s))) :
    OpR X (compareOp .NotIn) (fun y x H Q => ∃ s, y = .str s ∧ x = .ref a ∧ Q (.bl (!(kvs.lookup s).isSome)) H) := by
  intro pins s σ H y x u v Q I ry rx h
  obtain ⟨z, rfl, rfl, q⟩ := h
  cases rx
  obtain ⟨f, mo, hf⟩ := hm X.prog s.heap I.kIn
  refine wpAny_notIn_of (knd := mixKind X.prog X.w) (k := .inr z) (kV_is ry) hsys mo ?_
  have e : (f (.inr z)).isSome = (kvs.lookup z).isSome := by
    rw [← (hf z).isSome_eq, Option.isSome_map]
  rw [e]
  exact ⟨.bl _, H, I.tok _, rfl, q⟩
theorem ptx_notinC (T : DkT X.K X.mw x kvs) (hg : Gl X x) (he : PX X g E Γ e Γ1 .rd f) (hd : (x == ("__debug__" : Str)) = false := by decide) (hmk : behindInMarks .NotIn (.Name x p) = false := by rfl) : PTx X g E Γ (.Compare e [.NotIn] [.Name x p] pos) Γ1 (tOf (e1 (dNotInC kvs) f)) := by
  obtain ⟨a, mx, hsys, hm⟩ := T.ex
  refine pt_of (pt_cmpR (op_notinC hsys hm) he.pe (pe_glob (v := .ref a) hg mx rfl hd) hmk) (fun σ H Q ⟨ρ, Hf, R, k⟩ => ⟨ρ, Hf, R, ?_⟩) he.le
  refine tG.bind (Le.refl _) k fun d F1 H1 s1 s2 R1 k1 v hv => ?_
  cases d with
  | str s =>
    simp only [Res, IsR, IsD] at hv
    exact ⟨s, hv, rfl, k1 F1 H1 (Same.refl _) (Same.refl _) R1 _ (Res.dat R1.same rfl (by simp only [IsD]))⟩
  | _ => exact k1.elim
end
end PD

namespace PD
open PySem PySem.Spec L2
open PyProof.Rows hiding St
open RZ

def ItzF (K : PySem.W.Frag) (a b : Addr) : It :=
  ⟨fun i H => ∃ (xs ys : List V) (x y : V), L2.SqT K H a xs ∧ L2.SqT K H b ys ∧ xs[i]? = some x ∧ ys[i]? = some y,
    fun i H v H' => ∃ T o x y, v = .ref T ∧ H T = none ∧ o.dict = none ∧ H' = upd H T (.frz o (.tup [x, y])) ∧ (∀ xs, L2.SqT K H a xs → xs[i]? = some x) ∧ ∀ ys, L2.SqT K H b ys → ys[i]? = some y,
    fun i H => ∃ xs ys : List V, L2.SqT K H a xs ∧ L2.SqT K H b ys ∧ (xs.length ≤ i ∨ ys.length ≤ i)⟩
theorem turn_zipF {P : Program} {w : World} {K : PySem.W.Frag} {elts : List Expr} {kk : Nat} {tpos : Pos} {a b z TI TO i1 i2 : Addr} (D : ZipApart z TI TO i1 i2 a b) :
    Turn P w K (.Tuple elts kk tpos) (ItzF K a b) [z, TI, TO, i1, i2] z (fun i h => IsZip h z TI TO .none ∧ IsPair h TI (.ref i1) (.ref i2) ∧ (∃ x y, IsPair h TO x y) ∧ h.IsTupleIter i1 a i ∧ h.IsTupleIter i2 b i) where
  mem := by simp
  obj := fun i h st c hc => by
    obtain ⟨hz, hTI, ⟨x, y, hTO⟩, ⟨o1, e1, _, d1⟩, ⟨o2, e2, _, d2⟩⟩ := st
    have e' : c = z ∨ c = TI ∨ c = TO ∨ c = i1 ∨ c = i2 := by simpa using hc
    rcases e' with q | q | q | q | q
    · rw [q]; exact ⟨_, hz, fun v q => nomatch q⟩
    · rw [q]; exact ⟨_, hTI, fun v q => nomatch q⟩
    · rw [q]; exact ⟨_, hTO, fun v q => nomatch q⟩
    · rw [q]; exact ⟨o1, e1, fun v q => by rw [d1] at q; cases q⟩
    · rw [q]; exact ⟨o2, e2, fun v q => by rw [d2] at q; cases q⟩
  keep := fun i h h' st k => by
    obtain ⟨hz, hTI, ⟨x, y, hTO⟩, h1, h2⟩ := st
    exact ⟨k z (by simp) _ hz, k TI (by simp) _ hTI, ⟨x, y, k TO (by simp) _ hTO⟩, h1.at fun o q => k i1 (by simp) o q, h2.at fun o q => k i2 (by simp) o q⟩
  item := by
    intro X hP hw hK hc i pins s σ H E I hf st hg
    subst hP hw hK
    obtain ⟨hz, hTI, ⟨x0, y0, hTO⟩, h1, h2⟩ := st
    obtain ⟨xs, ys, x, y, hqx, hqy, hx, hy⟩ := hg
    obtain ⟨its, rv, p, _⟩ := I.tuple hqx
    obtain ⟨its2, rv2, p2, _⟩ := I.tuple hqy
    obtain ⟨u, hu, ru⟩ := rv.get hx
    obtain ⟨u2, hu2, ru2⟩ := rv2.get hy
    have hzl : z < s.heap.objs.size := Heap.lt_size hz
    refine pyNext_zipT_item D hz hTI hTO h1 h2 p p2 (x := u) (y := u2) (by simpa using hu) (by simpa using hu2) fun h' z' TO' h1' h2' hT hsz hk => ?_
    refine ⟨_, rfl, wpAny_letOwnedTupleGo_zip (s := { s with heap := h' }) z' fun h'' z'' sb => ?_⟩
    have hT2 : h''.get? s.heap.objs.size = some { cls := .type "tuple", data := .seq #[u, u2] } := (sb.2 _ (Nat.ne_of_gt hzl)).trans hT
    have new : ObjOk X.prog X.w (upd H s.heap.objs.size (.frz { cls := .type "tuple", data := .seq #[u, u2] } (.tup [x, y]))) h'' s.heap.objs.size (.frz { cls := .type "tuple", data := .seq #[u, u2] } (.tup [x, y])) :=
      ⟨hT2, by show 2 ≤ sizeLine; decide, [u, u2], .cons ru (.cons ru2 .nil), ⟨_, hT2, rfl, _, rfl⟩⟩
    have I1 : Inv X pins σ (upd H s.heap.objs.size (.frz { cls := .type "tuple", data := .seq #[u, u2] } (.tup [x, y]))) { s with heap := h'' } :=
      I.turnedNew (t' := s.toks) (ch := [z, TI, TO, i1, i2]) (fun c o hb q => (sb.2 c (fun q' => hb (by simp [q']))).trans (hk c o (fun q' => hb (by simp [q'])) (fun q' => hb (by simp [q'])) (fun q' => hb (by simp [q'])) (fun q' => hb (by simp [q'])) q)) hf (Nat.le_refl _) new
    refine ⟨.ref s.heap.objs.size, _, I1, rfl, ⟨_, _, x, y, rfl, I.hok.fresh (Nat.le_refl _), rfl, rfl, fun l hl => by rw [I.tuple_inj hl hqx]; exact hx, fun l hl => by rw [I.tuple_inj hl hqy]; exact hy⟩, ⟨z'', ?_, ⟨u, u2, ?_⟩, ?_, ?_⟩, fun c hcm => ?_⟩
    · exact (sb.2 _ D.TIz).trans (hk _ _ D.TIz D.TITO D.TIi1 D.TIi2 hTI)
    · exact (sb.2 _ D.TOz).trans TO'
    · exact h1'.at fun o q => (sb.2 _ D.i1z).trans q
    · exact h2'.at fun o q => (sb.2 _ D.i2z).trans q
    · have hlt : c < s.heap.objs.size := by
        have e' : c = z ∨ c = TI ∨ c = TO ∨ c = i1 ∨ c = i2 := by simpa using hcm
        rcases e' with q | q | q | q | q
        · rw [q]; exact hzl
        · rw [q]; exact Heap.lt_size hTI
        · rw [q]; exact Heap.lt_size hTO
        · rw [q]; obtain ⟨_, e1, _⟩ := h1; exact Heap.lt_size e1
        · rw [q]; obtain ⟨_, e2, _⟩ := h2; exact Heap.lt_size e2
      rw [upd_ne (Nat.ne_of_lt hlt)]
      exact (hf c hcm).1
  done := by
    intro X hP hw hK hc i pins s σ H E I hf st hg
    subst hP hw hK
    obtain ⟨hz, hTI, ⟨x0, y0, hTO⟩, h1, h2⟩ := st
    obtain ⟨xs, ys, hqx, hqy, hend⟩ := hg
    obtain ⟨its, rv, p, _⟩ := I.tuple hqx
    obtain ⟨its2, rv2, p2, _⟩ := I.tuple hqy
    have l1 := rv.length
    have l2 := rv2.length
    have he : its.toArray[i]? = none ∨ its2.toArray[i]? = none := by
      rcases hend with q | q
      · exact .inl (by simp; omega)
      · exact .inr (by simp; omega)
    exact pyNext_zipT_end (I.ok.hd hc) D hz hTI hTO h1 h2 p p2 he fun h' hk => ⟨rfl, I.turnedL (t' := s.toks) (ch := [z, TI, TO, i1, i2]) (fun c o hb q =>
      hk c o (fun q' => hb (by simp [q'])) (fun q' => hb (by simp [q'])) (fun q' => hb (by simp [q'])) (fun q' => hb (by simp [q'])) q) hf⟩
  self := fun A i s Q E st h => wpAny_pyIter_zip st.1 h

def iZipF (K : PySem.W.Frag) (ta : TA) : TI := fun σ H R => ta σ H fun vs H1 => ∃ a b xs ys, vs = [.ref a, .ref b] ∧ L2.SqT K H1 a xs ∧ L2.SqT K H1 b ys ∧ R (ItzF K a b) H1
theorem pi_zipF {X : Cx} {e e2 : Expr} {ta : TA} {p pos tpos : Pos} {elts : List Expr} {kk : Nat} (hg : Gl X "zip") (hm : X.mg "zip" = none) (ha : PA X [e, e2] ta)
    (hs : starEach [e, e2] X.env = (false, eval e X.env) :: starEach [e2] X.env := by rfl) (hpl : (backTo pos (starEach [e2] X.env)).any (·.1) = false := by rfl) :
    PI X (.Tuple elts kk tpos) (.Call (.Name "zip" p) [e, e2] [] pos) (iZipF X.K ta) := by
  refine ⟨fun pins s σ H R I h => ?_⟩
  refine Call_ (ld_blt I hg hm PyProof.Rows.boot_zip (PyProof.Rows.callWith_type1 (thn (ha.run pos pins s σ H _ I h) fun us s1 ⟨vs, H1, I1, r1, q1⟩ => ?_) hs hpl))
  obtain ⟨a, b, xs, ys, ex, q1⟩ := q1
  subst ex
  cases r1 with
  | cons r rr =>
    cases rr with
    | cons r' rr =>
      cases rr
      cases r
      cases r'
      have fresh5 : ∀ c, c ∈ [s1.heap.objs.size + 4, s1.heap.objs.size + 2, s1.heap.objs.size + 3, s1.heap.objs.size, s1.heap.objs.size + 1] → FpOk X pins H1 c := fun c hcm => by
        have e' : c = s1.heap.objs.size + 4 ∨ c = s1.heap.objs.size + 2 ∨ c = s1.heap.objs.size + 3 ∨ c = s1.heap.objs.size ∨ c = s1.heap.objs.size + 1 := by simpa using hcm
        have hle : s1.heap.objs.size ≤ c := by
          rcases e' with z | z | z | z | z
          · rw [z]; exact Nat.le_add_right _ _
          · rw [z]; exact Nat.le_add_right _ _
          · rw [z]; exact Nat.le_add_right _ _
          · rw [z]; exact Nat.le_refl _
          · rw [z]; exact Nat.le_add_right _ _
        exact I1.fpOk hle (I1.hok.fresh hle)
      obtain ⟨hqx, hqy, q⟩ := q1
      obtain ⟨its, rv, p1, _⟩ := I1.tuple hqx
      obtain ⟨its2, rv2, p2, _⟩ := I1.tuple hqy
      obtain ⟨o1, ho1, _⟩ := id p1
      obtain ⟨o2, ho2, _⟩ := id p2
      refine call_zipT (show s1.heap.IsTuple a its.toArray from p1) (show s1.heap.IsTuple b its2.toArray from p2) fun h' hz hTI hTO h1 h2 hsz hk => wpAny_pyIter_zip hz ?_
      have I2 : Inv X pins σ H1 { s1 with heap := h' } := I1.kept (t' := s1.toks) hk
      exact ⟨s1.heap.objs.size + 4, [s1.heap.objs.size + 4, s1.heap.objs.size + 2, s1.heap.objs.size + 3, s1.heap.objs.size, s1.heap.objs.size + 1], _, _, H1, rfl, I2, turn_zipF (PySem.W.ktu_apart s1.heap.objs.size a b (Heap.lt_size ho1) (Heap.lt_size ho2)), ⟨hz, hTI, ⟨_, _, hTO⟩, h1, h2⟩, fresh5, q⟩

def zipD : List D → List D → List D := List.zipWith fun x y => .tup [x, y]
def iZip (fa : Env → Out (List D)) : Env → Out (List D) := fun ρ => (fa ρ).bind fun ds => match ds with
  | [.tup xs, .tup ys] => .ok (zipD xs ys)
  | _ => .stuck
section
variable {X : Cx} {g : G} {E : WX} {Γ Γ1 : List Bool} {pos p : Pos} {e e2 : Expr} {fa : Env → Out (List D)}
theorem walks_zip {K : PySem.W.Frag} {mg : Mg} {H0 F1 : Hp} {a b : Addr} {xs ys : List V} {ds es : List D} (h : PD.SqT K F1 a xs) (h2 : PD.SqT K F1 b ys) (r : IsDs K mg F1 ds xs) (r2 : IsDs K mg F1 es ys) : Walks K mg H0 (ItzF K a b) F1 (zipD ds es) := by
  intro g Γ ρ σ Hf H s R i
  have hq : L2.SqT K H a xs := (Same.seqT R.same (Same.seqT s h)).l
  have hq2 : L2.SqT K H b ys := (Same.seqT R.same (Same.seqT s h2)).l
  refine ⟨fun d e => ?_, fun l => ⟨xs, ys, hq, hq2, ?_⟩⟩
  · unfold zipD at e
    rw [List.getElem?_zipWith] at e
    cases e1 : ds[i]? with
    | none => rw [e1] at e; cases e
    | some d1 =>
      cases e2 : es[i]? with
      | none => rw [e1, e2] at e; cases e
      | some d2 =>
        rw [e1, e2] at e
        cases e
        obtain ⟨v, ev, q⟩ := IsDs.at r e1
        obtain ⟨u, eu, q2⟩ := IsDs.at r2 e2
        refine ⟨⟨xs, ys, v, u, hq, hq2, ev, eu⟩, fun x H' y => ?_⟩
        obtain ⟨T, o, x', y', rfl, nT, od, rfl, yx, yy⟩ := y
        have e3 := yx xs hq
        have e4 := yy ys hq2
        rw [ev] at e3
        rw [eu] at e4
        cases e3
        cases e4
        obtain ⟨t1, t2, R2⟩ := R.new (.frz o (.tup [v, u])) nT
        refine ⟨_, t1, t2, R2, ?_⟩
        simp only [IsD]
        refine ⟨T, [v, u], rfl, .frz upd_same od, ?_⟩
        simp only [IsDs]
        exact ⟨v, [u], rfl, (q.mono s).mono t1, u, [], rfl, (q2.mono s).mono t1, rfl⟩
  · unfold zipD at l
    rw [List.length_zipWith] at l
    have l1 := r.len
    have l2 := r2.len
    omega
theorem pix_zip {elts : List Expr} {kk : Nat} {tpos : Pos} (hg : Gl X "zip") (hm : X.mg "zip" = none) (h : PAx X g E Γ [e, e2] Γ1 fa)
    (hs : starEach [e, e2] X.env = (false, eval e X.env) :: starEach [e2] X.env := by rfl) (hpl : (backTo pos (starEach [e2] X.env)).any (·.1) = false := by rfl) :
    PIx X g E Γ (.Tuple elts kk tpos) (.Call (.Name "zip" p) [e, e2] [] pos) Γ1 (iZip fa) := by
  refine ⟨h.le, (pi_zipF hg hm h.pe hs hpl).imp fun σ H Q ⟨ρ, Hf, R, q⟩ => ⟨ρ, Hf, R, ?_⟩⟩
  refine tG.bind (Le.refl _) q fun ds F1 H1 s1 s2 R1 k vs hv => ?_
  split at k
  · rename_i xs ys
    obtain ⟨v, u, rfl, q1, q2⟩ := hv.two
    simp only [IsD] at q1 q2
    obtain ⟨a, vs, rfl, h1, r1⟩ := q1
    obtain ⟨b, us, rfl, h2, r2⟩ := q2
    exact ⟨a, b, vs, us, rfl, (Same.seqT R1.same h1).l, (Same.seqT R1.same h2).l, k F1 H1 (Same.refl _) (Same.refl _) R1 _ (walks_zip h1 h2 r1 r2)⟩
  · exact k.elim
end
end PD

namespace PD
open PySem PySem.Spec L2
open PyProof.Rows hiding St

noncomputable def cIntS : List D → Out D
  | [.str a] => match PySem.intText? a with
    | some n => chk (a.length ≤ 640) (.ok (.int n))
    | none => .stuck
  | _ => .stuck
theorem ca_intS {X : Cx} {m : Md} : CaD X (.type "int") m cIntS := by
  refine ⟨_, call_int_str, fun g E Γ ρ σ Hf H ds vs Q R h k => ?_⟩
  unfold cIntS at k
  split at k
  · rename_i a
    obtain ⟨v, rfl, q1⟩ := h.one
    cases q1
    cases e : PySem.intText? a with
    | none => rw [e] at k; exact k.elim
    | some n =>
      rw [e] at k
      by_cases l : a.length ≤ 640
      · simp only at k
        rw [chk_pos l] at k
        exact ⟨a, n, rfl, e, l, k Hf H (Same.refl _) (Same.refl _) R _ (Res.dat R.same rfl (by simp only [IsD]))⟩
      · simp only at k
        rw [chk_neg l] at k; exact k.elim
  · exact k.elim
end PD

namespace PD
open PySem PySem.Spec L2
open PyProof.Rows hiding St

end PD

namespace PD
open PySem PySem.Spec L2
open PyProof.Rows hiding St

def bLend (f : Env → Out Bool) : Env → Out Bool := fun ρ => (f ρ).nox
theorem bLend_ap (f : Env → Out Bool) (ρ : Env) : bLend f ρ = (f ρ).nox := rfl
section
variable {X : Cx} {g : G} {E : WX} {Γ Γ1 : List Bool} {e : Expr}
theorem Rp.later {K : PySem.W.Frag} {mg : Mg} {ρ : Env} {σ : St} {Hf H H' : Hp} (R : Rp K mg g Γ ρ σ Hf H) (s : Same H H') : Rp K mg g Γ ρ σ Hf H' :=
  R.back (Same.refl _) (R.same.trans s) s fun _ _ e => .inl e
theorem ptx_lend {f : Env → Out Bool} (h : PTx X g E Γ e Γ1 f) : PTx X g E Γ e Γ (bLend f) := by
  refine ⟨Le.refl _, h.pe.imp fun σ H Q ⟨ρ, Hf, R, q⟩ => ⟨ρ, Hf, R, ?_⟩⟩
  unfold bLend at q
  cases hf : f ρ with
  | ok b =>
    rw [hf] at q
    exact fun Hf' H' _ t2 _ => q Hf H' (Same.refl _) t2 (R.later t2)
  | exc x => rw [hf] at q; exact q.elim
  | stuck => rw [hf] at q; exact q.elim
end
end PD

namespace PD
open PySem PySem.Spec L2
open PySem.W (dataLt alike alikeAll dataLe AllAlike keyToks keyToksAll)
open PyProof.Rows hiding St
noncomputable def b_form_of_1 : Env → SO := (sPut 1 (eV 2) (e2 dAdd (eGet2 (eV 1) (eV 2) (eC (.int 0))) (eV 3)))
noncomputable def b_form_of : Env → SO := (sSeq (sSet 1 (eC (.dic [])))
 (sSeq (sFor (gT [(gN 2), (gN 3)]) (iSeq (eV 0))
 b_form_of_1)
 (sRet (eA cTuple (aC (eLc [2] (gN 2) (iSeq (eA cSorted (aC (eV 1) aN))) (tOf (e2 dNe (e2 dIx (eV 1) (eV 2)) (eC (.int 0)))) (eA mkTup (aC (eV 2) (aC (e2 dIx (eV 1) (eV 2)) aN)))) aN)))))
noncomputable def m_form_of : List D → Out D := fnM 4 1 b_form_of
noncomputable def b__law_cell : Env → SO := (sSeq (sIf (tOf (e2 dLt (eV 1) (eA cLen (aC (eV 0) aN))))
 (sRet (e2 dMod (e2 dIx (eV 0) (eV 1)) (e2 dPow (eC (.int 10)) (eC (.int 60)))))
 sNx)
 (sRet (eC (.int 0))))
noncomputable def m__law_cell : List D → Out D := fnM 2 2 b__law_cell
noncomputable def b_product_of_1 : Env → SO := (sPut 2 (eV 3) (e2 dAdd (eGet2 (eV 2) (eV 3) (eC (.int 0))) (eV 4)))
noncomputable def b_product_of : Env → SO := (sSeq (sSet 2 (eC (.dic [])))
 (sSeq (sFor (gT [(gN 3), (gN 4)]) (iSeq (e2 dAdd (eV 0) (eV 1)))
 b_product_of_1)
 (sRet (eA cTuple (aC (eLc [3] (gN 3) (iSeq (eA cSorted (aC (eV 2) aN))) bYes (eA mkTup (aC (eV 3) (aC (e2 dIx (eV 2) (eV 3)) aN)))) aN)))))
noncomputable def m_product_of : List D → Out D := fnM 5 2 b_product_of
noncomputable def b_names_of_1 : Env → SO := (sPut 1 (eV 4) (eC (.bl true)))
noncomputable def b_names_of_2 : Env → SO := (sFor (gT [(gN 4), (gN 5)]) (iSeq (eV 2))
 b_names_of_1)
noncomputable def b_names_of : Env → SO := (sSeq (sSet 1 (eC (.dic [])))
 (sSeq (sFor (gT [(gN 2), (gN 3)]) (iSeq (eV 0))
 b_names_of_2)
 (sRet (eA cTuple (aC (eA cSorted (aC (eV 1) aN)) aN)))))
noncomputable def m_names_of : List D → Out D := fnM 6 1 b_names_of
noncomputable def b_divisor_1 : Env → SO := (sPar 0 1 (eV 1) (e2 dMod (eV 0) (eV 1)))
noncomputable def b_divisor : Env → SO := (sSeq (sWhile (tOf (e2 dNe (eV 1) (eC (.int 0))))
 b_divisor_1)
 (sRet (eV 0)))
noncomputable def m_divisor : List D → Out D := fnM 2 2 b_divisor
noncomputable def b_lean_1 : Env → SO := (sSet 1 (eA m_divisor (aC (eV 1) (aC (eA cAbs (aC (eV 3) aN)) aN))))
noncomputable def b_lean : Env → SO := (sSeq (sSet 1 (eC (.int 0)))
 (sSeq (sFor (gT [(gN 2), (gN 3)]) (iSeq (eV 0))
 b_lean_1)
 (sSeq (sIf (tOf (e2 dLt (eV 1) (eC (.int 2))))
 (sRet (eV 0))
 sNx)
 (sRet (eA cTuple (aC (eLc [2, 3] (gT [(gN 2), (gN 3)]) (iSeq (eV 0)) bYes (eA mkTup (aC (eV 2) (aC (e2 dDiv (eV 3) (eV 1)) aN)))) aN))))))
noncomputable def m_lean : List D → Out D := fnM 4 1 b_lean
noncomputable def b_said : Env → SO := (sSeq (sIf (tOf (e2 dEq (eV 0) (eC (.str "less"))))
 (sRet (e2 dLt (eV 1) (eC (.int 0))))
 sNx)
 (sSeq (sIf (tOf (e2 dEq (eV 0) (eC (.str "most"))))
 (sRet (e2 dLe (eV 1) (eC (.int 0))))
 sNx)
 (sSeq (sIf (tOf (e2 dEq (eV 0) (eC (.str "equal"))))
 (sRet (e2 dEq (eV 1) (eC (.int 0))))
 sNx)
 (sRet (e2 dNe (eV 1) (eC (.int 0)))))))
noncomputable def m_said : List D → Out D := fnM 2 2 b_said
noncomputable def b__law_folded_1 : Env → SO := (sSeq (sIf (tOf (e2 dEq (eV 5) (eV 3)))
 (sRet (eV 3))
 sNx)
 (sIf (bAnd (tOf (e2 dNe (eV 5) (eV 2))) (tOf (e2 (dInDp true) (eV 5) (eV 4))))
 (sApp 4 (eV 5))
 sNx))
noncomputable def b_compare : Env → SO := (sSeq (sSet 1 (eA m_lean (aC (eV 1) aN)))
 (sSeq (sIf (tOf (e2 dNe (eA m_names_of (aC (eV 1) aN)) (eA mkTup aN)))
 (sRet (eA mkTup (aC (eV 0) (aC (eV 1) aN))))
 sNx)
 (sSeq (sSet 2 (eA cSum (aC (eLc [3, 4] (gT [(gN 3), (gN 4)]) (iSeq (eV 1)) bYes (eV 4)) aN)))
 (sSeq (sIf (tOf (eA m_said (aC (eV 0) (aC (eV 2) aN))))
 (sRet (eC (.tup [.str "yes"])))
 sNx)
 (sRet (eC (.tup [.str "no"])))))))
noncomputable def m_compare : List D → Out D := fnM 5 2 b_compare
noncomputable def b_folded_1 : Env → SO := (sSeq (sIf (tOf (e2 dEq (eV 5) (eV 3)))
 (sRet (eV 3))
 sNx)
 (sIf (bAnd (tOf (e2 dNe (eV 5) (eV 2))) (tOf (e2 (dInDp true) (eV 5) (eV 4))))
 (sApp 4 (eV 5))
 sNx))
noncomputable def b_folded : Env → SO := (sSeq (sSet 4 (eA mkLst aN))
 (sSeq (sFor (gN 5) (iSeq (eV 1))
 b_folded_1)
 (sSeq (sIf (tOf (e2 dEq (eA cLen (aC (eV 4) aN)) (eC (.int 0))))
 (sRet (eV 2))
 sNx)
 (sSeq (sIf (tOf (e2 dEq (eA cLen (aC (eV 4) aN)) (eC (.int 1))))
 (sRet (e2 dIx (eV 4) (eC (.int 0))))
 sNx)
 (sRet (eA mkTup (aC (eV 0) (aC (eA cTuple (aC (eV 4) aN)) aN))))))))
noncomputable def m_folded : List D → Out D := fnM 6 4 b_folded
noncomputable def b_both : Env → SO := (sRet (eA m_folded (aC (eC (.str "both")) (aC (eV 0) (aC (eC (.tup [.str "yes"])) (aC (eC (.tup [.str "no"])) aN))))))
noncomputable def m_both : List D → Out D := fnM 1 1 b_both
noncomputable def b_either : Env → SO := (sRet (eA m_folded (aC (eC (.str "either")) (aC (eV 0) (aC (eC (.tup [.str "no"])) (aC (eC (.tup [.str "yes"])) aN))))))
noncomputable def m_either : List D → Out D := fnM 1 1 b_either
noncomputable def b_never : Env → SO := (sSeq (sIf (tOf (e2 dEq (eV 0) (eC (.tup [.str "yes"]))))
 (sRet (eC (.tup [.str "no"])))
 sNx)
 (sSeq (sIf (tOf (e2 dEq (eV 0) (eC (.tup [.str "no"]))))
 (sRet (eC (.tup [.str "yes"])))
 sNx)
 (sRet (eA mkTup (aC (eC (.str "not")) (aC (eV 0) aN))))))
noncomputable def m_never : List D → Out D := fnM 1 1 b_never
noncomputable def b_some_of : Env → SO := (sSeq (sIf (bOr (tOf (e2 dEq (eV 1) (eC (.tup [.str "yes"])))) (tOf (e2 dEq (eV 1) (eC (.tup [.str "no"])))))
 (sRet (eV 1))
 sNx)
 (sRet (eA mkTup (aC (eC (.str "some")) (aC (eV 0) (aC (eV 1) aN))))))
noncomputable def m_some_of : List D → Out D := fnM 2 2 b_some_of
noncomputable def b_all_of : Env → SO := (sSeq (sIf (bOr (tOf (e2 dEq (eV 1) (eC (.tup [.str "yes"])))) (tOf (e2 dEq (eV 1) (eC (.tup [.str "no"])))))
 (sRet (eV 1))
 sNx)
 (sRet (eA mkTup (aC (eC (.str "all")) (aC (eV 0) (aC (eV 1) aN))))))
noncomputable def m_all_of : List D → Out D := fnM 2 2 b_all_of
noncomputable def b_run_of_1 : Env → SO := (sSet 3 (e2 dAdd (eV 3) (eC (.int 1))))
noncomputable def b_run_of : Env → SO := (sSeq (sSet 3 (eV 1))
 (sSeq (sWhile (bAnd (tOf (e2 dLt (eV 3) (eA cLen (aC (eV 0) aN)))) (tOf (e2 dIn (e2 dIx (eV 0) (eV 3)) (eV 2))))
 b_run_of_1)
 (sRet (eSl (eV 0) (oI (eV 1)) (oI (eV 3))))))
noncomputable def m_run_of : List D → Out D := fnM 4 3 b_run_of
noncomputable def b_word_from_1 : Env → SO := (sIf (tOf (e2 dEq (eSl (eV 0) (oI (eV 1)) (oI (e2 dAdd (eV 1) (eA cLen (aC (eV 3) aN))))) (eV 3)))
 (sRet (eV 3))
 sNx)
noncomputable def b_word_from : Env → SO := (sSeq (sSet 2 (eA m_run_of (aC (eV 0) (aC (eV 1) (aC (eC (.str "abcdefghijklmnopqrstuvwxyz")) aN)))))
 (sSeq (sIf (tOf (e2 dGt (eA cLen (aC (eV 2) aN)) (eC (.int 8))))
 (sRaise (xP "NoText"))
 sNx)
 (sSeq (sIf (tOf (e2 dNe (eV 2) (eC (.str ""))))
 (sRet (eV 2))
 sNx)
 (sSeq (sSet 2 (eA m_run_of (aC (eV 0) (aC (eV 1) (aC (eC (.str "0123456789")) aN)))))
 (sSeq (sIf (tOf (e2 dGt (eA cLen (aC (eV 2) aN)) (eC (.int 30))))
 (sRaise (xP "NoText"))
 sNx)
 (sSeq (sIf (tOf (e2 dNe (eV 2) (eC (.str ""))))
 (sRet (eV 2))
 sNx)
 (sSeq (sFor (gN 3) (iSeq (eC (.tup [.str "<=", .str ">=", .str "/=", .str "<", .str ">", .str "=", .str "+", .str "-", .str "*", .str "/", .str "^", .str "(", .str ")", .str ":"])))
 b_word_from_1)
 (sRaise (xP "NoText")))))))))
noncomputable def m_word_from : List D → Out D := fnM 4 2 b_word_from
noncomputable def b_words_of_1 : Env → SO := (sIf (tOf (e2 dEq (e2 dIx (eV 0) (eV 2)) (eC (.str " "))))
 (sSet 2 (e2 dAdd (eV 2) (eC (.int 1))))
 (sSeq (sSet 3 (eA m_word_from (aC (eV 0) (aC (eV 2) aN))))
 (sSeq (sApp 1 (eV 3))
 (sSet 2 (e2 dAdd (eV 2) (eA cLen (aC (eV 3) aN)))))))
noncomputable def b_words_of : Env → SO := (sSeq (sSet 1 (eA mkLst aN))
 (sSeq (sSet 2 (eC (.int 0)))
 (sSeq (sWhile (tOf (e2 dLt (eV 2) (eA cLen (aC (eV 0) aN))))
 b_words_of_1)
 (sRet (eV 1)))))
noncomputable def m_words_of : List D → Out D := fnM 4 1 b_words_of
noncomputable def b_whole_1 : Env → SO := (sSet 1 (e2 dMul (eV 1) (e2 dDiv (eV 4) (eA m_divisor (aC (eV 1) (aC (eV 4) aN))))))
noncomputable def b_whole : Env → SO := (sSeq (sSet 1 (eC (.int 1)))
 (sSeq (sFor (gT [(gN 2), (gN 3), (gN 4)]) (iSeq (eV 0))
 b_whole_1)
 (sRet (eA m_form_of (aC (eLc [2, 3, 4] (gT [(gN 2), (gN 3), (gN 4)]) (iSeq (eV 0)) bYes (eA mkTup (aC (eV 2) (aC (e2 dMul (eV 3) (e2 dDiv (eV 1) (eV 4))) aN)))) aN)))))
noncomputable def m_whole : List D → Out D := fnM 5 1 b_whole
noncomputable def b_Reader___init__ : Env → SO := (sSeq (sFld clR flR 0 "words" (eV 1))
 (sFld clR flR 0 "at" (eC (.int 0))))
noncomputable def m_Reader___init__ : List D → Out D := mnM 2 2 b_Reader___init__
noncomputable def b_Reader_here : Env → SO := (sSeq (sIf (tOf (e2 dLt (eFld clR flR "at" (eV 0)) (eA cLen (aC (eFld clR flR "words" (eV 0)) aN))))
 (sRetM (uP (e2 dIx (eFld clR flR "words" (eV 0)) (eFld clR flR "at" (eV 0)))))
 sNx)
 (sRetM (uP (eC (.str "")))))
noncomputable def m_Reader_here : List D → Out D := mnM 1 1 b_Reader_here
noncomputable def b_Reader_taken : Env → SO := (sSeq (sIfE (qOf (u2 dNe (uMk "Reader" "here" m_Reader_here 0 aN) (uP (eV 1))))
 (sRetM (uP (eC (.bl false))))
 sNx)
 (sSeq (sFld clR flR 0 "at" (e2 dAdd (eFld clR flR "at" (eV 0)) (eC (.int 1))))
 (sRetM (uP (eC (.bl true))))))
noncomputable def m_Reader_taken : List D → Out D := mnM 2 2 b_Reader_taken
noncomputable def b_Reader_one_of : Env → SO := (sSeq (sSetE 2 (uMk "Reader" "here" m_Reader_here 0 aN))
 (sSeq (sIf (bOr (tOf (e2 dEq (eV 2) (eC (.str "")))) (tOf (e2 dNotIn (e2 dIx (eV 2) (eC (.int 0))) (eV 1))))
 (sRaise (xP "NoText"))
 sNx)
 (sSeq (sFld clR flR 0 "at" (e2 dAdd (eFld clR flR "at" (eV 0)) (eC (.int 1))))
 (sRetM (uP (eV 2))))))
noncomputable def m_Reader_one_of : List D → Out D := mnM 3 2 b_Reader_one_of
noncomputable def b_Reader_must : Env → SO := (sIfE (qNot (qOf (uMk "Reader" "taken" m_Reader_taken 0 (aC (eV 1) aN))))
 (sRaise (xP "NoText"))
 sNx)
noncomputable def m_Reader_must : List D → Out D := mnM 2 2 b_Reader_must
noncomputable def b_Reader_fraction : Env → SO := (sSeq (sSetE 1 (uA cIntS (uC (uMk "Reader" "one_of" m_Reader_one_of 0 (aC (eC (.str "0123456789")) aN)) uN)))
 (sSeq (sIfE (qNot (qOf (uMk "Reader" "taken" m_Reader_taken 0 (aC (eC (.str "/")) aN))))
 (sRetM (uP (eA mkTup (aC (eV 1) (aC (eC (.int 1)) aN)))))
 sNx)
 (sSeq (sSetE 2 (uA cIntS (uC (uMk "Reader" "one_of" m_Reader_one_of 0 (aC (eC (.str "0123456789")) aN)) uN)))
 (sSeq (sIf (tOf (e2 dEq (eV 2) (eC (.int 0))))
 (sRaise (xP "NoText"))
 sNx)
 (sRetM (uP (eA mkTup (aC (eV 1) (aC (eV 2) aN)))))))))
noncomputable def m_Reader_fraction : List D → Out D := mnM 3 1 b_Reader_fraction
noncomputable def b_Reader_power : Env → SO := (sSeq (sIfE (qNot (qOf (uMk "Reader" "taken" m_Reader_taken 0 (aC (eC (.str "^")) aN))))
 (sRetM (uP (eC (.int 1))))
 sNx)
 (sSeq (sSetE 1 (uMk "Reader" "one_of" m_Reader_one_of 0 (aC (eC (.str "123456789")) aN)))
 (sSeq (sIf (tOf (e2 dGt (eA cLen (aC (eV 1) aN)) (eC (.int 1))))
 (sRaise (xP "NoText"))
 sNx)
 (sRetM (uP (eA cIntS (aC (eV 1) aN)))))))
noncomputable def m_Reader_power : List D → Out D := mnM 2 1 b_Reader_power
noncomputable def b_Reader_unknown : Env → SO := (sSeq (sSetE 1 (uMk "Reader" "one_of" m_Reader_one_of 0 (aC (eC (.str "abcdefghijklmnopqrstuvwxyz")) aN)))
 (sSeq (sIf (tOf (e2 dIn (eV 1) (eC (.tup [.str "some", .str "all", .str "and", .str "or", .str "not", .str "yes", .str "no"]))))
 (sRaise (xP "NoText"))
 sNx)
 (sRetM (uP (eV 1)))))
noncomputable def m_Reader_unknown : List D → Out D := mnM 2 1 b_Reader_unknown
noncomputable def b_Reader_term_1 : Env → SO := (sSeq (sSetE 5 (uMk "Reader" "here" m_Reader_here 0 aN))
 (sSeq (sIf (bAnd (tOf (e2 dNe (eV 5) (eC (.str "")))) (tOf (e2 dIn (e2 dIx (eV 5) (eC (.int 0))) (eC (.str "0123456789")))))
 (sSeq (sAsgE (gT [(gN 6), (gN 7)]) (uMk "Reader" "fraction" m_Reader_fraction 0 aN))
 (sSeq (sSet 1 (e2 dMul (eV 1) (eV 6)))
 (sSet 3 (e2 dMul (eV 3) (eV 7)))))
 (sSeq (sSetE 8 (uMk "Reader" "unknown" m_Reader_unknown 0 aN))
 (sSetE 2 (uA m_product_of (uC (uP (eV 2)) (uC (uA mkTup (uC (uA mkTup (uC (uP (eV 8)) (uC (uMk "Reader" "power" m_Reader_power 0 aN) uN))) uN)) uN))))))
 (sSetE 4 (uMk "Reader" "taken" m_Reader_taken 0 (aC (eC (.str "*")) aN)))))
noncomputable def b_Reader_term : Env → SO := (sSeq (sSet 2 (eA mkTup aN))
 (sSeq (sSet 3 (eC (.int 1)))
 (sSeq (sSet 4 (eC (.bl true)))
 (sSeq (sWhile (tOf (eV 4))
 b_Reader_term_1)
 (sRetM (uP (eA mkTup (aC (eV 2) (aC (eV 1) (aC (eV 3) aN))))))))))
noncomputable def m_Reader_term : List D → Out D := mnM 9 2 b_Reader_term
noncomputable def b_Reader_terms_1 : Env → SO := (sIfE (qOf (uMk "Reader" "taken" m_Reader_taken 0 (aC (eC (.str "+")) aN)))
 (sAppE 2 (uMk "Reader" "term" m_Reader_term 0 (aC (eC (.int 1)) aN)))
 (sSeq (sExprE (uMk "Reader" "must" m_Reader_must 0 (aC (eC (.str "-")) aN)))
 (sAppE 2 (uMk "Reader" "term" m_Reader_term 0 (aC (e1 dNeg (eC (.int 1))) aN)))))
noncomputable def b_Reader_terms : Env → SO := (sSeq (sSet 1 (eC (.int 1)))
 (sSeq (sIfE (qOf (uMk "Reader" "taken" m_Reader_taken 0 (aC (eC (.str "-")) aN)))
 (sSet 1 (e1 dNeg (eC (.int 1))))
 sNx)
 (sSeq (sSetE 2 (uA mkLst (uC (uMk "Reader" "term" m_Reader_term 0 (aC (eV 1) aN)) uN)))
 (sSeq (sWhileE (qOr (qOf (u2 dEq (uMk "Reader" "here" m_Reader_here 0 aN) (uP (eC (.str "+"))))) (qOf (u2 dEq (uMk "Reader" "here" m_Reader_here 0 aN) (uP (eC (.str "-"))))))
 b_Reader_terms_1)
 (sRetM (uP (eV 2)))))))
noncomputable def m_Reader_terms : List D → Out D := mnM 3 1 b_Reader_terms
noncomputable def b_Reader_compared : Env → SO := (sSeq (sSetE 1 (uMk "Reader" "terms" m_Reader_terms 0 aN))
 (sSeq (sSetE 2 (uMk "Reader" "one_of" m_Reader_one_of 0 (aC (eC (.str "<>=/")) aN)))
 (sSeq (sIf (tOf (e1 (dNotInC [("<", "less"), ("<=", "most"), ("=", "equal"), ("/=", "unlike"), (">", "less"), (">=", "most")]) (eV 2)))
 (sRaise (xP "NoText"))
 sNx)
 (sSeq (sSetE 3 (uMk "Reader" "terms" m_Reader_terms 0 aN))
 (sSeq (sIf (tOf (e2 dEq (e2 dIx (eV 2) (eC (.int 0))) (eC (.str ">"))))
 (sPar 1 3 (eV 3) (eV 1))
 sNx)
 (sSeq (sSet 4 (e2 dAdd (eV 1) (eLc [5, 6, 7] (gT [(gN 5), (gN 6), (gN 7)]) (iSeq (eV 3)) bYes (eA mkTup (aC (eV 5) (aC (e2 dSub (eC (.int 0)) (eV 6)) (aC (eV 7) aN)))))))
 (sRetM (uP (eA m_compare (aC (e1 (dIxC [("<", "less"), ("<=", "most"), ("=", "equal"), ("/=", "unlike"), (">", "less"), (">=", "most")]) (eV 2)) (aC (eA m_whole (aC (eV 4) aN)) aN)))))))))))
noncomputable def m_Reader_compared : List D → Out D := mnM 8 1 b_Reader_compared
noncomputable def b_Reader_unit_1 (f_Reader_unit : List D → Out D) (f_Reader_ands : List D → Out D) (f_Reader_sentence : List D → Out D) : Env → SO := (sIfE (qOf (uMk "Reader" "taken" m_Reader_taken 0 (aC (eV 3) aN)))
 (sSeq (sSetE 4 (uMk "Reader" "unknown" m_Reader_unknown 0 aN))
 (sSeq (sExprE (uMk "Reader" "must" m_Reader_must 0 (aC (eC (.str ":")) aN)))
 (sSeq (sSetE 2 (uMk "Reader" "sentence" f_Reader_sentence 0 (aC (e2 dAdd (eV 1) (eC (.int 1))) aN)))
 (sSeq (sIf (tOf (e2 dEq (eV 3) (eC (.str "some"))))
 (sRetM (uP (eA m_some_of (aC (eV 4) (aC (eV 2) aN)))))
 sNx)
 (sRetM (uP (eA m_all_of (aC (eV 4) (aC (eV 2) aN)))))))))
 sNx)
noncomputable def b_Reader_unit (f_Reader_unit : List D → Out D) (f_Reader_ands : List D → Out D) (f_Reader_sentence : List D → Out D) : Env → SO := (sSeq (sIf (tOf (e2 dGt (eV 1) (eC (.int 30))))
 (sRaise (xP "NoText"))
 sNx)
 (sSeq (sIfE (qOf (uMk "Reader" "taken" m_Reader_taken 0 (aC (eC (.str "not")) aN)))
 (sRetM (uA m_never (uC (uMk "Reader" "unit" f_Reader_unit 0 (aC (e2 dAdd (eV 1) (eC (.int 1))) aN)) uN)))
 sNx)
 (sSeq (sIfE (qOf (uMk "Reader" "taken" m_Reader_taken 0 (aC (eC (.str "(")) aN)))
 (sSeq (sSetE 2 (uMk "Reader" "sentence" f_Reader_sentence 0 (aC (e2 dAdd (eV 1) (eC (.int 1))) aN)))
 (sSeq (sExprE (uMk "Reader" "must" m_Reader_must 0 (aC (eC (.str ")")) aN)))
 (sRetM (uP (eV 2)))))
 sNx)
 (sSeq (sFor (gN 3) (iSeq (eA mkTup (aC (eC (.str "some")) (aC (eC (.str "all")) aN))))
 (b_Reader_unit_1 f_Reader_unit f_Reader_ands f_Reader_sentence))
 (sSeq (sIfE (qOf (uMk "Reader" "taken" m_Reader_taken 0 (aC (eC (.str "yes")) aN)))
 (sRetM (uP (eC (.tup [.str "yes"]))))
 sNx)
 (sSeq (sIfE (qOf (uMk "Reader" "taken" m_Reader_taken 0 (aC (eC (.str "no")) aN)))
 (sRetM (uP (eC (.tup [.str "no"]))))
 sNx)
 (sRetM (uMk "Reader" "compared" m_Reader_compared 0 aN))))))))
noncomputable def b_Reader_ands_1 (f_Reader_unit : List D → Out D) (f_Reader_ands : List D → Out D) (f_Reader_sentence : List D → Out D) : Env → SO := (sAppE 2 (uMk "Reader" "unit" f_Reader_unit 0 (aC (eV 1) aN)))
noncomputable def b_Reader_ands (f_Reader_unit : List D → Out D) (f_Reader_ands : List D → Out D) (f_Reader_sentence : List D → Out D) : Env → SO := (sSeq (sSetE 2 (uA mkLst (uC (uMk "Reader" "unit" f_Reader_unit 0 (aC (eV 1) aN)) uN)))
 (sSeq (sWhileE (qOf (uMk "Reader" "taken" m_Reader_taken 0 (aC (eC (.str "and")) aN)))
 (b_Reader_ands_1 f_Reader_unit f_Reader_ands f_Reader_sentence))
 (sRetM (uP (eA m_both (aC (eV 2) aN))))))
noncomputable def b_Reader_sentence_1 (f_Reader_unit : List D → Out D) (f_Reader_ands : List D → Out D) (f_Reader_sentence : List D → Out D) : Env → SO := (sAppE 2 (uMk "Reader" "ands" f_Reader_ands 0 (aC (eV 1) aN)))
noncomputable def b_Reader_sentence (f_Reader_unit : List D → Out D) (f_Reader_ands : List D → Out D) (f_Reader_sentence : List D → Out D) : Env → SO := (sSeq (sSetE 2 (uA mkLst (uC (uMk "Reader" "ands" f_Reader_ands 0 (aC (eV 1) aN)) uN)))
 (sSeq (sWhileE (qOf (uMk "Reader" "taken" m_Reader_taken 0 (aC (eC (.str "or")) aN)))
 (b_Reader_sentence_1 f_Reader_unit f_Reader_ands f_Reader_sentence))
 (sRetM (uP (eA m_either (aC (eV 2) aN))))))
mutual
noncomputable def r_Reader_unit : Nat → List D → Out D
  | 0, _ => .stuck
  | n + 1, ds => mnM 5 2 (b_Reader_unit (r_Reader_unit n) (r_Reader_ands n) (r_Reader_sentence n)) ds
noncomputable def r_Reader_ands : Nat → List D → Out D
  | 0, _ => .stuck
  | n + 1, ds => mnM 3 2 (b_Reader_ands (r_Reader_unit n) (r_Reader_ands n) (r_Reader_sentence n)) ds
noncomputable def r_Reader_sentence : Nat → List D → Out D
  | 0, _ => .stuck
  | n + 1, ds => mnM 3 2 (b_Reader_sentence (r_Reader_unit n) (r_Reader_ands n) (r_Reader_sentence n)) ds
end
noncomputable def m_Reader_sentence : List D → Out D := r_Reader_sentence 100
noncomputable def b_read : Env → SO := (sSeq (sSet 1 (eMake "Reader" m_Reader___init__ (aC (eA m_words_of (aC (eV 0) aN)) aN)))
 (sSeq (sSetE 2 (uMk "Reader" "sentence" m_Reader_sentence 1 (aC (eC (.int 0)) aN)))
 (sSeq (sIfE (qOf (u2 dNe (uMk "Reader" "here" m_Reader_here 1 aN) (uP (eC (.str "")))))
 (sRaise (xP "NoText"))
 sNx)
 (sRet (eV 2)))))
noncomputable def m_read : List D → Out D := fnM 3 1 b_read
noncomputable def b__law_alike (f__law_alike : List D → Out D) : Env → SO := (sSeq (sIf (tOf (eA cIsi (aC (eV 1) (aC (eC (.ty "tuple")) aN))))
 (sSeq (sIf (bOr (bNot (tOf (eA cIsi (aC (eV 0) (aC (eC (.ty "tuple")) aN))))) (tOf (e2 dNe (eA cLen (aC (eV 0) aN)) (eA cLen (aC (eV 1) aN)))))
 (sRet (eC (.bl false)))
 sNx)
 (sRet (eA cAll (aC (eLc [2, 3] (gT [(gN 2), (gN 3)]) (iZip (aC (eV 0) (aC (eV 1) aN))) bYes (eA f__law_alike (aC (eV 2) (aC (eV 3) aN)))) aN))))
 sNx)
 (sSeq (sIf (tOf (eA cIsi (aC (eV 1) (aC (eC (.ty "str")) aN))))
 (sRet (vAnd (eA cIsi (aC (eV 0) (aC (eC (.ty "str")) aN))) (e2 dEq (eV 0) (eV 1))))
 sNx)
 (sRet (vAnd (eA cIsi (aC (eV 0) (aC (eC (.ty "int")) aN))) (vAnd (vNot (eA cIsi (aC (eV 0) (aC (eC (.ty "bool")) aN)))) (e2 dEq (eV 0) (eV 1)))))))
noncomputable def r__law_alike : Nat → List D → Out D
  | 0, _ => .stuck
  | n + 1, ds => fnM 4 2 (b__law_alike (r__law_alike n)) ds
noncomputable def m__law_alike : List D → Out D := r__law_alike 60
noncomputable def b__law_name_v3_1 : Env → SO := (sSeq (sSet 1 (e2 dAdd (eV 1) (e2 dIx (eC (.str "abcdefghijklmnopqrstuvwxyz")) (e2 dMod (eV 2) (eC (.int 26))))))
 (sSet 2 (e2 dDiv (eV 2) (eC (.int 26)))))
noncomputable def b__law_name_v3 : Env → SO := (sSeq (sSet 1 (eC (.str "")))
 (sSeq (sSet 2 (e2 dDiv (eV 0) (eC (.int 8))))
 (sSeq (sFor (gN 3) (iRange1 (aC (e2 dAdd (eC (.int 1)) (e2 dMod (eV 0) (eC (.int 8)))) aN))
 b__law_name_v3_1)
 (sSeq (sIf (tOf (e2 dEq (e2 dMod (eV 2) (eC (.int 5))) (eC (.int 1))))
 (sSet 1 (e2 dAdd (e2 dIx (eA mkLst (aC (eC (.str "some")) (aC (eC (.str "all")) (aC (eC (.str "and")) (aC (eC (.str "or")) (aC (eC (.str "not")) (aC (eC (.str "yes")) (aC (eC (.str "no")) aN)))))))) (e2 dMod (e2 dDiv (eV 2) (eC (.int 5))) (eC (.int 7)))) (eSl (eV 1) oN (oI (eC (.int 4))))))
 sNx)
 (sSeq (sIf (tOf (e2 dIn (eV 1) (eA mkLst (aC (eC (.str "some")) (aC (eC (.str "all")) (aC (eC (.str "and")) (aC (eC (.str "or")) (aC (eC (.str "not")) (aC (eC (.str "yes")) (aC (eC (.str "no")) aN))))))))))
 (sSet 1 (e2 dAdd (eV 1) (eC (.str "q"))))
 sNx)
 (sRet (eV 1)))))))
noncomputable def m__law_name_v3 : List D → Out D := fnM 4 1 b__law_name_v3
noncomputable def b__law_nests_1 : Env → SO := (sSeq (sSet 5 (e2 dMul (e2 dDiv (eA m__law_cell (aC (eV 0) (aC (eC (.int 1)) aN))) (eC (.int 216))) (e2 dAdd (eV 4) (eC (.int 1)))))
 (sSeq (sIf (tOf (e2 dGt (eA cLen (aC (eV 0) aN)) (eC (.int 2))))
 (sSet 5 (e2 dAdd (eA m__law_cell (aC (eV 0) (aC (e2 dAdd (eC (.int 2)) (e2 dMod (eV 4) (e2 dSub (eA cLen (aC (eV 0) aN)) (eC (.int 2))))) aN))) (e2 dDiv (eV 4) (e2 dSub (eA cLen (aC (eV 0) aN)) (eC (.int 2))))))
 sNx)
 (sSeq (sSet 6 (e2 dIx (eA mkLst (aC (eC (.str "not")) (aC (eC (.str "(")) (aC (eC (.str "some")) (aC (eC (.str "all")) (aC (eC (.str "(")) aN)))))) (e2 dMod (eV 5) (eC (.int 5)))))
 (sSeq (sIf (bLend (tOf (e2 dGt (eA cLen (aC (eLc [7, 8] (gT [(gN 7), (gN 8)]) (iSeq (eV 3)) (tOf (e2 dNe (eV 7) (eC (.str "(")))) (eV 7)) aN)) (eC (.int 10)))))
 (sSet 6 (eC (.str "(")))
 sNx)
 (sApp 3 (eA mkTup (aC (eV 6) (aC (e2 dIx (eA mkLst (aC (eV 1) (aC (eSl (e2 dAdd (eV 1) (eC (.str "b"))) oN (oI (eC (.int 8)))) aN))) (e2 dMod (e2 dDiv (eV 5) (eC (.int 5))) (eC (.int 2)))) aN))))))))
noncomputable def b__law_nests : Env → SO := (sSeq (sSet 2 (e2 dMod (e2 dDiv (eA m__law_cell (aC (eV 0) (aC (eC (.int 1)) aN))) (eC (.int 6))) (eC (.int 36))))
 (sSeq (sSet 3 (eA mkLst aN))
 (sSeq (sFor (gN 4) (iRange1 (aC (eV 2) aN))
 b__law_nests_1)
 (sRet (eV 3)))))
noncomputable def m__law_nests : List D → Out D := fnM 9 2 b__law_nests
noncomputable def b__law_text_v3_1 : Env → SO := (sIf (bOr (tOf (e2 dEq (eV 3) (eC (.str "some")))) (tOf (e2 dEq (eV 3) (eC (.str "all")))))
 (sSet 2 (e2 dAdd (e2 dAdd (e2 dAdd (e2 dAdd (eV 2) (eV 3)) (eC (.str " "))) (eV 4)) (eC (.str ": "))))
 (sSet 2 (e2 dAdd (e2 dAdd (eV 2) (eV 3)) (eC (.str " ")))))
noncomputable def b__law_text_v3 : Env → SO := (sSeq (sSet 2 (eC (.str "")))
 (sSeq (sFor (gT [(gN 3), (gN 4)]) (iSeq (eV 0))
 b__law_text_v3_1)
 (sRet (e2 dAdd (e2 dAdd (eV 2) (eV 1)) (e2 dMulS (eC (.str " )")) (eA cLen (aC (eLc [3, 4] (gT [(gN 3), (gN 4)]) (iSeq (eV 0)) (tOf (e2 dEq (eV 3) (eC (.str "(")))) (eV 3)) aN)))))))
noncomputable def m__law_text_v3 : List D → Out D := fnM 5 2 b__law_text_v3
noncomputable def b__law_due_v8_1 : Env → SO := (sIf (tOf (e2 dEq (eV 2) (eC (.str "not"))))
 (sSet 1 (eA mkTup (aC (eC (.str "not")) (aC (eV 1) aN))))
 (sIf (tOf (e2 dNe (eV 2) (eC (.str "("))))
 (sSet 1 (eA mkTup (aC (eV 2) (aC (eV 3) (aC (eV 1) aN)))))
 sNx))
noncomputable def b__law_due_v8 : Env → SO := (sSeq (sFor (gT [(gN 2), (gN 3)]) (iRev (eV 0))
 b__law_due_v8_1)
 (sRet (eV 1)))
noncomputable def m__law_due_v8 : List D → Out D := fnM 4 2 b__law_due_v8
noncomputable def b__law_refused_v2 : Env → SO := (sSeq (sSet 1 (eC (.bl false)))
 (sSeq (sTry xL37 (yExpr (eA m_read (aC (eV 0) aN))) [("NoText", none, (sSet 1 (eC (.bl true))))] sNx)
 (sRet (eV 1))))
noncomputable def m__law_refused_v2 : List D → Out D := fnM 2 1 b__law_refused_v2
noncomputable def b_law_v38_t11 : Env → SO := (sRet (eA m__law_alike (aC (eA m_read (aC (eA m__law_text_v3 (aC (eV 4) (aC (eV 5) aN))) aN)) (aC (eA m__law_due_v8 (aC (eV 4) (aC (eV 8) aN))) aN))))
noncomputable def b_law_v38_t10 : Env → SO := (sSeq (sSet 4 (eSl (eV 4) oN (oI (eC (.int 30)))))
 b_law_v38_t11)
noncomputable def b_law_v38_t9 : Env → SO := (sSeq (sIf (bAnd (tOf (e2 dGt (eA cLen (aC (eV 4) aN)) (eC (.int 30)))) (bNot (tOf (eA m__law_refused_v2 (aC (eA m__law_text_v3 (aC (eV 4) (aC (eV 5) aN))) aN)))))
 (sRet (eC (.bl false)))
 sNx)
 b_law_v38_t10)
noncomputable def b_law_v38_t8 : Env → SO := (sSeq (sSet 8 (eA mkTup (aC (e2 dIx (eA mkLst (aC (eC (.str "less")) (aC (eC (.str "most")) (aC (eC (.str "equal")) (aC (eC (.str "unlike")) (aC (eC (.str "less")) (aC (eC (.str "most")) aN))))))) (eV 3)) (aC (eA cTuple (aC (eV 7) aN)) aN))))
 b_law_v38_t9)
noncomputable def b_law_v38_t7 : Env → SO := (sSeq (sIf (tOf (e2 dNe (eV 2) (eC (.int 0))))
 (sSet 7 (e2 dAdd (eA mkLst (aC (eA mkTup (aC (eA mkTup aN) (aC (e2 dSub (eC (.int 0)) (e2 dMul (eV 6) (eV 2))) aN))) aN)) (eV 7)))
 sNx)
 b_law_v38_t8)
noncomputable def b_law_v38_t6 : Env → SO := (sSeq (sSet 7 (eA mkLst (aC (eA mkTup (aC (eA mkTup (aC (eA mkTup (aC (eV 1) (aC (eC (.int 1)) aN))) aN)) (aC (eV 6) aN))) aN)))
 b_law_v38_t7)
noncomputable def b_law_v38_t5 : Env → SO := (sSeq (sSet 6 (e2 dSub (eC (.int 1)) (e2 dMul (eC (.int 2)) (e2 dDiv (eV 3) (eC (.int 4))))))
 b_law_v38_t6)
noncomputable def b_law_v38_t4 : Env → SO := (sSeq (sSet 5 (e2 dAdd (e2 dAdd (e2 dAdd (e2 dAdd (eV 1) (eC (.str " "))) (e2 dIx (eA mkLst (aC (eC (.str "<")) (aC (eC (.str "<=")) (aC (eC (.str "=")) (aC (eC (.str "/=")) (aC (eC (.str ">")) (aC (eC (.str ">=")) aN))))))) (eV 3))) (eC (.str " "))) (eA cStr (aC (eV 2) aN))))
 b_law_v38_t5)
noncomputable def b_law_v38_t3 : Env → SO := (sSeq (sSet 4 (eA m__law_nests (aC (eV 0) (aC (eV 1) aN))))
 b_law_v38_t4)
noncomputable def b_law_v38_t2 : Env → SO := (sSeq (sSet 3 (e2 dMod (eA m__law_cell (aC (eV 0) (aC (eC (.int 1)) aN))) (eC (.int 6))))
 b_law_v38_t3)
noncomputable def b_law_v38_t1 : Env → SO := (sSeq (sSet 2 (e2 dMod (e2 dDiv (eA m__law_cell (aC (eV 0) (aC (eC (.int 0)) aN))) (eC (.int 11))) (e2 dPow (eC (.int 10)) (eC (.int 30)))))
 b_law_v38_t2)
noncomputable def b_law_v38 : Env → SO := (sSeq (sSet 1 (eA m__law_name_v3 (aC (eA m__law_cell (aC (eV 0) (aC (eC (.int 0)) aN))) aN)))
 b_law_v38_t1)
noncomputable def m_law_v38 : List D → Out D := fnM 9 1 b_law_v38
def topS (i : Nat) : Stmt := PySem.Challenge.pw_realsay_k37_thirty_within_one_another.main.body.getD i (.Pass ⟨0, 0, 0, 0⟩)
structure Tx (K : PySem.W.Frag) (mg : Str → Option Value) (w : World) : Prop where
  d_MEANT : DkT K ⟨mg, w⟩ "MEANT" [("<", "less"), ("<=", "most"), ("=", "equal"), ("/=", "unlike"), (">", "less"), (">=", "most")]
  xa : XAll K mg xL37
  x_NoText : XP K mg "NoText"
  z_abs : mg "abs" = none
  z_all : mg "all" = none
  z_bool : mg "bool" = none
  z_int : mg "int" = none
  z_isinstance : mg "isinstance" = none
  z_len : mg "len" = none
  z_range : mg "range" = none
  z_reversed : mg "reversed" = none
  z_sorted : mg "sorted" = none
  z_str : mg "str" = none
  z_sum : mg "sum" = none
  z_tuple : mg "tuple" = none
  z_zip : mg "zip" = none
  g_DEEPEST : GlT K mg "DEEPEST" (.int 30)
  g_FIGURES : GlT K mg "FIGURES" (.str "0123456789")
  g_LETTERS : GlT K mg "LETTERS" (.str "abcdefghijklmnopqrstuvwxyz")
  g_NO : GlT K mg "NO" (.tup [.str "no"])
  g_SIGNS : GlT K mg "SIGNS" (.tup [.str "<=", .str ">=", .str "/=", .str "<", .str ">", .str "=", .str "+", .str "-", .str "*", .str "/", .str "^", .str "(", .str ")", .str ":"])
  g_WORDS : GlT K mg "WORDS" (.tup [.str "some", .str "all", .str "and", .str "or", .str "not", .str "yes", .str "no"])
  g_YES : GlT K mg "YES" (.tup [.str "yes"])
  caR : ClA K mg clR flR
  k_Reader : MkT K mg "Reader"
  f_form_of : FnT K mg "form_of" (topS 4)
  f_product_of : FnT K mg "product_of" (topS 5)
  f_names_of : FnT K mg "names_of" (topS 6)
  f_divisor : FnT K mg "divisor" (topS 7)
  f_lean : FnT K mg "lean" (topS 8)
  f_said : FnT K mg "said" (topS 12)
  f_compare : FnT K mg "compare" (topS 13)
  f_folded : FnT K mg "folded" (topS 14)
  f_both : FnT K mg "both" (topS 15)
  f_either : FnT K mg "either" (topS 16)
  f_never : FnT K mg "never" (topS 17)
  f_some_of : FnT K mg "some_of" (topS 18)
  f_all_of : FnT K mg "all_of" (topS 19)
  f_run_of : FnT K mg "run_of" (topS 27)
  f_word_from : FnT K mg "word_from" (topS 28)
  f_words_of : FnT K mg "words_of" (topS 29)
  f_whole : FnT K mg "whole" (topS 30)
  f_read : FnT K mg "read" (topS 32)
  f__law_cell : FnT K mg "_law_cell" (topS 34)
  f__law_name : FnT K mg "_law_name" (topS 35)
  f__law_nests : FnT K mg "_law_nests" (topS 36)
  f__law_text : FnT K mg "_law_text" (topS 37)
  f__law_due : FnT K mg "_law_due" (topS 38)
  f__law_alike : FnT K mg "_law_alike" (topS 39)
  f__law_refused : FnT K mg "_law_refused" (topS 40)
  f_law : FnT K mg "law" (topS 41)
  f_Reader___init__ : MeT K mg "__init__" "Reader.__init__" (inClass (topS 31) 0) ["Reader"]
  f_Reader_here : MeT K mg "here" "Reader.here" (inClass (topS 31) 1) ["Reader"]
  f_Reader_taken : MeT K mg "taken" "Reader.taken" (inClass (topS 31) 2) ["Reader"]
  f_Reader_must : MeT K mg "must" "Reader.must" (inClass (topS 31) 3) ["Reader"]
  f_Reader_one_of : MeT K mg "one_of" "Reader.one_of" (inClass (topS 31) 4) ["Reader"]
  f_Reader_unknown : MeT K mg "unknown" "Reader.unknown" (inClass (topS 31) 5) ["Reader"]
  f_Reader_power : MeT K mg "power" "Reader.power" (inClass (topS 31) 6) ["Reader"]
  f_Reader_fraction : MeT K mg "fraction" "Reader.fraction" (inClass (topS 31) 7) ["Reader"]
  f_Reader_term : MeT K mg "term" "Reader.term" (inClass (topS 31) 8) ["Reader"]
  f_Reader_terms : MeT K mg "terms" "Reader.terms" (inClass (topS 31) 9) ["Reader"]
  f_Reader_compared : MeT K mg "compared" "Reader.compared" (inClass (topS 31) 10) ["Reader"]
  f_Reader_unit : MeT K mg "unit" "Reader.unit" (inClass (topS 31) 11) ["Reader"]
  f_Reader_ands : MeT K mg "ands" "Reader.ands" (inClass (topS 31) 12) ["Reader"]
  f_Reader_sentence : MeT K mg "sentence" "Reader.sentence" (inClass (topS 31) 13) ["Reader"]
section
variable {P : Program} {w : World} {K : PySem.W.Frag} {mg : Str → Option Value} {base : Heap}
theorem w_form_of (T : Tx K mg w) : FnA P w K mg base 1 "form_of" ["pairs"] false m_form_of := by
  have nd : (["pairs", "found", "product", "number"] : List Str).Nodup := by decide +kernel
  have S : FnScope ["pairs", "found", "product", "number"] ["pairs"] (defScope (topS 4)) := ⟨rfl, rfl, rfl, nd, rfl, by decide +kernel, by decide +kernel⟩
  refine fnA_mk (Γ0 := [false, false, false, false]) (Γl := []) (Γ' := []) T.f_form_of S (by decide) (no_own rfl) (fun _ _ _ _ _ _ us hl => match us, hl with | [_], _ => rfl) fun f cdv A outer s H E Hf hr => ?_
  have tk := takes_of (X := cxD P w K mg base ["pairs", "found", "product", "number"] "form_of" (topS 4) f cdv A outer s H E) rfl rfl rfl rfl
  have hp := passes_of (X := cxD P w K mg base ["pairs", "found", "product", "number"] "form_of" (topS 4) f cdv A outer s H E) rfl
  exact (pssx_cons (PSx.less (Γ2 := [false, true, false, false]) (psx_setO (i := 1) nd rfl (.inr rfl) px_dnew (by decide)) (le_of rfl))
 (pssx_cons (PSx.pre (psx_for (Γ := [false, true, false, false]) (Γ1 := [false, true, false, false]) hp rfl (pix_seq (px_fr' (pv 0) rfl)) (fun F1 => (pgx_tup rfl (pgsx_cons (pgx_name (i := 2) nd rfl (.inl rfl)) (pgsx_cons (pgx_name (i := 3) nd rfl (.inl rfl)) pgsx_nil)))) (gT_nx (nxs_cons gN_nx (nxs_cons gN_nx nxs_nil))) (fun F1 => (PSsx.less (Γ2 := [false, true, false, false]) (pssx_one (psx_put hr (pv 1) (px_bin (od_add hr) (PX.rd (px_get2 hr (px_rd (pv 1)) (px_rd (pv 2)) px_int ⟨rfl, rfl, rfl, rfl⟩)) (px_rd (pv 3))) (px_rd (pv 2)) rfl)) (le_of rfl)))) (le_of rfl))
 (pssx_one (psx_ret (px_callT ca_tuple rfl T.z_tuple bb_tuple (pbx_cons (PX.rd (px_lc (own := [("product", 2)]) (Γ2 := [false, true, false, false]) rfl nd (pix_seq (px_callB (ca_sorted rfl hr) rfl T.z_sorted bb_sorted (pbx_cons (px_rd (pv 1)) pbx_nil))) (le_of rfl) (by decide) (blkOk_by (N := ["pairs", "found", "product", "number"]) (sc := defScope (topS 4)) (own := [("product", 2)]) (by decide +kernel)) (fun _ _ _ _ _ _ => (pgx_name (i := 2) nd rfl (.inl rfl))) (by decide) (fun _ _ _ _ _ _ => (ptsx_one (ptx_cmp (od_ne hr) (PX.rd (px_ix hr (px_rd (pv 1)) (px_rd (pv 2)) (fun _ _ => rfl))) px_int (nomark _)))) (fun _ _ _ _ _ _ => (px_tup (pax_cons (px_fr' (pv 2) rfl) (pax_cons (px_ix hr (px_rd (pv 1)) (px_rd (pv 2)) (fun _ _ => rfl)) pax_nil)))))) pbx_nil))))))
theorem w_product_of (T : Tx K mg w) : FnA P w K mg base 1 "product_of" ["one", "other"] false m_product_of := by
  have nd : (["one", "other", "powers", "name", "power"] : List Str).Nodup := by decide +kernel
  have S : FnScope ["one", "other", "powers", "name", "power"] ["one", "other"] (defScope (topS 5)) := ⟨rfl, rfl, rfl, nd, rfl, by decide +kernel, by decide +kernel⟩
  refine fnA_mk (Γ0 := [false, false, false, false, false]) (Γl := []) (Γ' := []) T.f_product_of S (by decide) (no_own rfl) (fun _ _ _ _ _ _ us hl => match us, hl with | [_, _], _ => rfl) fun f cdv A outer s H E Hf hr => ?_
  have tk := takes_of (X := cxD P w K mg base ["one", "other", "powers", "name", "power"] "product_of" (topS 5) f cdv A outer s H E) rfl rfl rfl rfl
  have hp := passes_of (X := cxD P w K mg base ["one", "other", "powers", "name", "power"] "product_of" (topS 5) f cdv A outer s H E) rfl
  exact (pssx_cons (PSx.less (Γ2 := [false, false, true, false, false]) (psx_setO (i := 2) nd rfl (.inr rfl) px_dnew (by decide)) (le_of rfl))
 (pssx_cons (PSx.pre (psx_for (Γ := [false, false, true, false, false]) (Γ1 := [false, false, true, false, false]) hp rfl (pix_seq (px_bin (od_add hr) (px_rd (pv 0)) (px_rd (pv 1)))) (fun F1 => (pgx_tup rfl (pgsx_cons (pgx_name (i := 3) nd rfl (.inl rfl)) (pgsx_cons (pgx_name (i := 4) nd rfl (.inl rfl)) pgsx_nil)))) (gT_nx (nxs_cons gN_nx (nxs_cons gN_nx nxs_nil))) (fun F1 => (PSsx.less (Γ2 := [false, false, true, false, false]) (pssx_one (psx_put hr (pv 2) (px_bin (od_add hr) (PX.rd (px_get2 hr (px_rd (pv 2)) (px_rd (pv 3)) px_int ⟨rfl, rfl, rfl, rfl⟩)) (px_rd (pv 4))) (px_rd (pv 3)) rfl)) (le_of rfl)))) (le_of rfl))
 (pssx_one (psx_ret (px_callT ca_tuple rfl T.z_tuple bb_tuple (pbx_cons (PX.rd (px_lc (own := [("name", 3)]) (Γ2 := [false, false, true, false, false]) rfl nd (pix_seq (px_callB (ca_sorted rfl hr) rfl T.z_sorted bb_sorted (pbx_cons (px_rd (pv 2)) pbx_nil))) (le_of rfl) (by decide) (blkOk_by (N := ["one", "other", "powers", "name", "power"]) (sc := defScope (topS 5)) (own := [("name", 3)]) (by decide +kernel)) (fun _ _ _ _ _ _ => (pgx_name (i := 3) nd rfl (.inl rfl))) (by decide) (fun _ _ _ _ _ _ => ptsx_nil) (fun _ _ _ _ _ _ => (px_tup (pax_cons (px_fr' (pv 3) rfl) (pax_cons (px_ix hr (px_rd (pv 2)) (px_rd (pv 3)) (fun _ _ => rfl)) pax_nil)))))) pbx_nil))))))
theorem w_names_of (T : Tx K mg w) : FnA P w K mg base 1 "names_of" ["one"] false m_names_of := by
  have nd : (["one", "found", "product", "number", "name", "power"] : List Str).Nodup := by decide +kernel
  have S : FnScope ["one", "found", "product", "number", "name", "power"] ["one"] (defScope (topS 6)) := ⟨rfl, rfl, rfl, nd, rfl, by decide +kernel, by decide +kernel⟩
  refine fnA_mk (Γ0 := [false, false, false, false, false, false]) (Γl := []) (Γ' := []) T.f_names_of S (by decide) (no_own rfl) (fun _ _ _ _ _ _ us hl => match us, hl with | [_], _ => rfl) fun f cdv A outer s H E Hf hr => ?_
  have tk := takes_of (X := cxD P w K mg base ["one", "found", "product", "number", "name", "power"] "names_of" (topS 6) f cdv A outer s H E) rfl rfl rfl rfl
  have hp := passes_of (X := cxD P w K mg base ["one", "found", "product", "number", "name", "power"] "names_of" (topS 6) f cdv A outer s H E) rfl
  exact (pssx_cons (PSx.less (Γ2 := [false, true, false, false, false, false]) (psx_setO (i := 1) nd rfl (.inl rfl) px_dnew (by decide)) (le_of rfl))
 (pssx_cons (PSx.pre (psx_for (Γ := [false, true, false, false, false, false]) (Γ1 := [false, true, false, false, false, false]) hp rfl (pix_seq (px_fr' (pv 0) rfl)) (fun F1 => (pgx_tup rfl (pgsx_cons (pgx_name (i := 2) nd rfl (.inl rfl)) (pgsx_cons (pgx_name (i := 3) nd rfl (.inl rfl)) pgsx_nil)))) (gT_nx (nxs_cons gN_nx (nxs_cons gN_nx nxs_nil))) (fun F1 => (PSsx.less (Γ2 := [false, true, false, false, false, false]) (pssx_one (PSx.pre (psx_for (Γ := [false, true, false, false, false, false]) (Γ1 := [false, true, false, false, false, false]) hp rfl (pix_seq (px_fr' (pv 2) rfl)) (fun F1 => (pgx_tup rfl (pgsx_cons (pgx_name (i := 4) nd rfl (.inl rfl)) (pgsx_cons (pgx_name (i := 5) nd rfl (.inl rfl)) pgsx_nil)))) (gT_nx (nxs_cons gN_nx (nxs_cons gN_nx nxs_nil))) (fun F1 => (PSsx.less (Γ2 := [false, true, false, false, false, false]) (pssx_one (psx_put hr (pv 1) px_bl (px_rd (pv 4)) rfl)) (le_of rfl)))) (le_of rfl))) (le_of rfl)))) (le_of rfl))
 (pssx_one (psx_ret (px_callT ca_tuple rfl T.z_tuple bb_tuple (pbx_cons (px_callB (ca_sorted rfl hr) rfl T.z_sorted bb_sorted (pbx_cons (px_rd (pv 1)) pbx_nil)) pbx_nil))))))
theorem w_divisor (T : Tx K mg w) : FnA P w K mg base 1 "divisor" ["one", "other"] false m_divisor := by
  have nd : (["one", "other"] : List Str).Nodup := by decide +kernel
  have S : FnScope ["one", "other"] ["one", "other"] (defScope (topS 7)) := ⟨rfl, rfl, rfl, nd, rfl, by decide +kernel, by decide +kernel⟩
  refine fnA_mk (Γ0 := []) (Γl := []) (Γ' := []) T.f_divisor S (by decide) (no_own rfl) (fun _ _ _ _ _ _ us hl => match us, hl with | [_, _], _ => rfl) fun f cdv A outer s H E Hf hr => ?_
  have tk := takes_of (X := cxD P w K mg base ["one", "other"] "divisor" (topS 7) f cdv A outer s H E) rfl rfl rfl rfl
  have hp := passes_of (X := cxD P w K mg base ["one", "other"] "divisor" (topS 7) f cdv A outer s H E) rfl
  exact (pssx_cons (PSx.pre (psx_while (Γ := []) hp (ptx_cmp (od_ne hr) (px_rd (pv 1)) px_int (nomark _)) (PSsx.less (Γ2 := []) (pssx_one (PSx.less (Γ2 := []) (psx_par (i := 0) (j := 1) rfl nd rfl rfl (by decide) rfl rfl (px_fr' (pv 1) rfl) (px_bin od_mod (px_rd (pv 0)) (px_rd (pv 1)))) (le_of rfl))) (le_of rfl))) (le_of rfl))
 (pssx_one (psx_ret (px_fr' (pv 0) rfl))))
theorem w_lean (T : Tx K mg w) : FnA P w K mg base 2 "lean" ["one"] false m_lean := by
  have C_divisor := w_divisor (P := P) (w := w) (base := base) T
  have nd : (["one", "share", "product", "number"] : List Str).Nodup := by decide +kernel
  have S : FnScope ["one", "share", "product", "number"] ["one"] (defScope (topS 8)) := ⟨rfl, rfl, rfl, nd, rfl, by decide +kernel, by decide +kernel⟩
  refine fnA_mk (Γ0 := []) (Γl := []) (Γ' := []) T.f_lean S (by decide) (no_own rfl) (fun _ _ _ _ _ _ us hl => match us, hl with | [_], _ => rfl) fun f cdv A outer s H E Hf hr => ?_
  have tk := takes_of (X := cxD P w K mg base ["one", "share", "product", "number"] "lean" (topS 8) f cdv A outer s H E) rfl rfl rfl rfl
  have hp := passes_of (X := cxD P w K mg base ["one", "share", "product", "number"] "lean" (topS 8) f cdv A outer s H E) rfl
  exact (pssx_cons (PSx.less (Γ2 := []) (psx_set (i := 1) nd rfl (.inr rfl) px_int) (le_of rfl))
 (pssx_cons (PSx.pre (psx_for (Γ := []) (Γ1 := []) hp rfl (pix_seq (px_fr' (pv 0) rfl)) (fun F1 => (pgx_tup rfl (pgsx_cons (pgx_name (i := 2) nd rfl (.inl rfl)) (pgsx_cons (pgx_name (i := 3) nd rfl (.inl rfl)) pgsx_nil)))) (gT_nx (nxs_cons gN_nx (nxs_cons gN_nx nxs_nil))) (fun F1 => (PSsx.less (Γ2 := []) (pssx_one (PSx.less (Γ2 := []) (psx_set (i := 1) nd rfl (.inr rfl) (px_callF C_divisor (hr.mono (by decide)) rfl tk (pax_cons (px_fr' (pv 1) rfl) (pax_cons (px_callB ca_abs rfl T.z_abs bb_abs (pbx_cons (px_rd (pv 3)) pbx_nil)) pax_nil)))) (le_of rfl))) (le_of rfl)))) (le_of rfl))
 (pssx_cons (psx_if (Γ2 := []) (ptx_cmp (od_lt hr) (px_rd (pv 1)) px_int (nomark _))
 (pssx_one (psx_ret (px_fr' (pv 0) rfl)))
 (PSsx.less (Γ2 := []) pssx_nil (le_of rfl)))
 (pssx_one (psx_ret (px_callT ca_tuple rfl T.z_tuple bb_tuple (pbx_cons (PX.rd (px_lc (own := [("product", 2), ("number", 3)]) (Γ2 := []) rfl nd (pix_seq (px_fr' (pv 0) rfl)) (le_of rfl) (by decide) (blkOk_by (N := ["one", "share", "product", "number"]) (sc := defScope (topS 8)) (own := [("product", 2), ("number", 3)]) (by decide +kernel)) (fun _ _ _ _ _ _ => (pgx_tup rfl (pgsx_cons (pgx_name (i := 2) nd rfl (.inl rfl)) (pgsx_cons (pgx_name (i := 3) nd rfl (.inl rfl)) pgsx_nil)))) (by decide) (fun _ _ _ _ _ _ => ptsx_nil) (fun _ _ _ _ _ _ => (px_tup (pax_cons (px_fr' (pv 2) rfl) (pax_cons (px_bin od_div (px_rd (pv 3)) (px_rd (pv 1))) pax_nil)))))) pbx_nil)))))))
theorem w_said (T : Tx K mg w) : FnA P w K mg base 1 "said" ["word", "number"] false m_said := by
  have nd : (["word", "number"] : List Str).Nodup := by decide +kernel
  have S : FnScope ["word", "number"] ["word", "number"] (defScope (topS 12)) := ⟨rfl, rfl, rfl, nd, rfl, by decide +kernel, by decide +kernel⟩
  refine fnA_mk (Γ0 := []) (Γl := []) (Γ' := []) T.f_said S (by decide) (no_own rfl) (fun _ _ _ _ _ _ us hl => match us, hl with | [_, _], _ => rfl) fun f cdv A outer s H E Hf hr => ?_
  have tk := takes_of (X := cxD P w K mg base ["word", "number"] "said" (topS 12) f cdv A outer s H E) rfl rfl rfl rfl
  have hp := passes_of (X := cxD P w K mg base ["word", "number"] "said" (topS 12) f cdv A outer s H E) rfl
  exact (pssx_cons (psx_if (Γ2 := []) (ptx_cmp (od_eq hr) (px_rd (pv 0)) px_str (nomark _))
 (pssx_one (psx_ret (px_cmp (od_lt hr) (px_rd (pv 1)) px_int (nomark _))))
 (PSsx.less (Γ2 := []) pssx_nil (le_of rfl)))
 (pssx_cons (psx_if (Γ2 := []) (ptx_cmp (od_eq hr) (px_rd (pv 0)) px_str (nomark _))
 (pssx_one (psx_ret (px_cmp (od_le hr) (px_rd (pv 1)) px_int (nomark _))))
 (PSsx.less (Γ2 := []) pssx_nil (le_of rfl)))
 (pssx_cons (psx_if (Γ2 := []) (ptx_cmp (od_eq hr) (px_rd (pv 0)) px_str (nomark _))
 (pssx_one (psx_ret (px_cmp (od_eq hr) (px_rd (pv 1)) px_int (nomark _))))
 (PSsx.less (Γ2 := []) pssx_nil (le_of rfl)))
 (pssx_one (psx_ret (px_cmp (od_ne hr) (px_rd (pv 1)) px_int (nomark _)))))))
theorem w_compare (T : Tx K mg w) : FnA P w K mg base 3 "compare" ["word", "one"] false m_compare := by
  have C_lean := w_lean (P := P) (w := w) (base := base) T
  have C_names_of := w_names_of (P := P) (w := w) (base := base) T
  have C_said := w_said (P := P) (w := w) (base := base) T
  have nd : (["word", "one", "number", "product", "factor"] : List Str).Nodup := by decide +kernel
  have S : FnScope ["word", "one", "number", "product", "factor"] ["word", "one"] (defScope (topS 13)) := ⟨rfl, rfl, rfl, nd, rfl, by decide +kernel, by decide +kernel⟩
  refine fnA_mk (Γ0 := []) (Γl := []) (Γ' := []) T.f_compare S (by decide) (no_own rfl) (fun _ _ _ _ _ _ us hl => match us, hl with | [_, _], _ => rfl) fun f cdv A outer s H E Hf hr => ?_
  have tk := takes_of (X := cxD P w K mg base ["word", "one", "number", "product", "factor"] "compare" (topS 13) f cdv A outer s H E) rfl rfl rfl rfl
  have hp := passes_of (X := cxD P w K mg base ["word", "one", "number", "product", "factor"] "compare" (topS 13) f cdv A outer s H E) rfl
  exact (pssx_cons (PSx.less (Γ2 := []) (psx_set (i := 1) nd rfl (.inl rfl) (px_callF C_lean (hr.mono (by decide)) rfl tk (pax_cons (px_fr' (pv 1) rfl) pax_nil))) (le_of rfl))
 (pssx_cons (psx_if (Γ2 := []) (ptx_cmp (od_ne hr) (PX.rd (px_callF C_names_of (hr.mono (by decide)) rfl tk (pax_cons (px_fr' (pv 1) rfl) pax_nil))) (px_tup pax_nil) (nomark _))
 (pssx_one (psx_ret (px_tup (pax_cons (px_fr' (pv 0) rfl) (pax_cons (px_fr' (pv 1) rfl) pax_nil)))))
 (PSsx.less (Γ2 := []) pssx_nil (le_of rfl)))
 (pssx_cons (PSx.less (Γ2 := []) (psx_set (i := 2) nd rfl (.inl rfl) (px_callB (ca_sum rfl) rfl T.z_sum bb_sum (pbx_cons (PX.rd (px_lc (own := [("product", 3), ("factor", 4)]) (Γ2 := []) rfl nd (pix_seq (px_fr' (pv 1) rfl)) (le_of rfl) (by decide) (blkOk_by (N := ["word", "one", "number", "product", "factor"]) (sc := defScope (topS 13)) (own := [("product", 3), ("factor", 4)]) (by decide +kernel)) (fun _ _ _ _ _ _ => (pgx_tup rfl (pgsx_cons (pgx_name (i := 3) nd rfl (.inl rfl)) (pgsx_cons (pgx_name (i := 4) nd rfl (.inl rfl)) pgsx_nil)))) (by decide) (fun _ _ _ _ _ _ => ptsx_nil) (fun _ _ _ _ _ _ => (px_fr' (pv 4) rfl)))) pbx_nil))) (le_of rfl))
 (pssx_cons (psx_if (Γ2 := []) (ptx_val (PX.rd (px_callF C_said (hr.mono (by decide)) rfl tk (pax_cons (px_fr' (pv 0) rfl) (pax_cons (px_fr' (pv 2) rfl) pax_nil)))))
 (pssx_one (psx_ret (px_glob T.g_YES rfl)))
 (PSsx.less (Γ2 := []) pssx_nil (le_of rfl)))
 (pssx_one (psx_ret (px_glob T.g_NO rfl)))))))
theorem w_folded (T : Tx K mg w) : FnA P w K mg base 1 "folded" ["word", "parts", "gone", "ruling"] false m_folded := by
  have nd : (["word", "parts", "gone", "ruling", "kept", "part"] : List Str).Nodup := by decide +kernel
  have S : FnScope ["word", "parts", "gone", "ruling", "kept", "part"] ["word", "parts", "gone", "ruling"] (defScope (topS 14)) := ⟨rfl, rfl, rfl, nd, rfl, by decide +kernel, by decide +kernel⟩
  refine fnA_mk (Γ0 := [false, false, false, false, false, false]) (Γl := []) (Γ' := []) T.f_folded S (by decide) (no_own rfl) (fun _ _ _ _ _ _ us hl => match us, hl with | [_, _, _, _], _ => rfl) fun f cdv A outer s H E Hf hr => ?_
  have tk := takes_of (X := cxD P w K mg base ["word", "parts", "gone", "ruling", "kept", "part"] "folded" (topS 14) f cdv A outer s H E) rfl rfl rfl rfl
  have hp := passes_of (X := cxD P w K mg base ["word", "parts", "gone", "ruling", "kept", "part"] "folded" (topS 14) f cdv A outer s H E) rfl
  exact (pssx_cons (PSx.less (Γ2 := [false, false, false, false, true, false]) (psx_setO (i := 4) nd rfl (.inl rfl) (px_lst pax_nil) (by decide)) (le_of rfl))
 (pssx_cons (PSx.pre (psx_for (Γ := [false, false, false, false, true, false]) (Γ1 := [false, false, false, false, true, false]) hp rfl (pix_seq (px_fr' (pv 1) rfl)) (fun F1 => (pgx_name (i := 5) nd rfl (.inl rfl))) gN_nx (fun F1 => (PSsx.less (Γ2 := [false, false, false, false, true, false]) (pssx_cons (psx_if (Γ2 := [false, false, false, false, true, false]) (ptx_cmp (od_eq hr) (px_rd (pv 5)) (px_rd (pv 3)) (nomark _))
 (pssx_one (psx_ret (px_fr' (pv 3) rfl)))
 (PSsx.less (Γ2 := [false, false, false, false, true, false]) pssx_nil (le_of rfl)))
 (pssx_one (psx_if (Γ2 := [false, false, false, false, true, false]) (PWx.pt (pwx_and (ptx_cmp (od_ne hr) (px_rd (pv 5)) (px_rd (pv 2)) (nomark _)) (pwx_and1 (ptx_cmp (od_notinDp hr) (px_rd (pv 5)) (px_rd (pv 4)) (by rfl)))))
 (PSsx.less (Γ2 := [false, false, false, false, true, false]) (pssx_one (psx_append (pv 4) (px_fr' (pv 5) rfl) rfl)) (le_of rfl))
 (PSsx.less (Γ2 := [false, false, false, false, true, false]) pssx_nil (le_of rfl))))) (le_of rfl)))) (le_of rfl))
 (pssx_cons (psx_if (Γ2 := [false, false, false, false, true, false]) (ptx_cmp (od_eq hr) (px_callB ca_len rfl T.z_len bb_len (pbx_cons (px_rd (pv 4)) pbx_nil)) px_int (nomark _))
 (pssx_one (psx_ret (px_fr' (pv 2) rfl)))
 (PSsx.less (Γ2 := [false, false, false, false, true, false]) pssx_nil (le_of rfl)))
 (pssx_cons (psx_if (Γ2 := [false, false, false, false, true, false]) (ptx_cmp (od_eq hr) (px_callB ca_len rfl T.z_len bb_len (pbx_cons (px_rd (pv 4)) pbx_nil)) px_int (nomark _))
 (pssx_one (psx_ret (px_ix hr (px_rd (pv 4)) px_int (fun _ _ => rfl))))
 (PSsx.less (Γ2 := [false, false, false, false, true, false]) pssx_nil (le_of rfl)))
 (pssx_one (psx_ret (px_tup (pax_cons (px_fr' (pv 0) rfl) (pax_cons (px_callT ca_tuple rfl T.z_tuple bb_tuple (pbx_cons (px_rd (pv 4)) pbx_nil)) pax_nil)))))))))
theorem w_both (T : Tx K mg w) : FnA P w K mg base 2 "both" ["parts"] false m_both := by
  have C_folded := w_folded (P := P) (w := w) (base := base) T
  have nd : (["parts"] : List Str).Nodup := by decide +kernel
  have S : FnScope ["parts"] ["parts"] (defScope (topS 15)) := ⟨rfl, rfl, rfl, nd, rfl, by decide +kernel, by decide +kernel⟩
  refine fnA_mk (Γ0 := []) (Γl := []) (Γ' := []) T.f_both S (by decide) (no_own rfl) (fun _ _ _ _ _ _ us hl => match us, hl with | [_], _ => rfl) fun f cdv A outer s H E Hf hr => ?_
  have tk := takes_of (X := cxD P w K mg base ["parts"] "both" (topS 15) f cdv A outer s H E) rfl rfl rfl rfl
  have hp := passes_of (X := cxD P w K mg base ["parts"] "both" (topS 15) f cdv A outer s H E) rfl
  exact (pssx_one (psx_ret (px_callF C_folded (hr.mono (by decide)) rfl tk (pax_cons px_str (pax_cons (px_fr' (pv 0) rfl) (pax_cons (px_glob T.g_YES rfl) (pax_cons (px_glob T.g_NO rfl) pax_nil)))))))
theorem w_either (T : Tx K mg w) : FnA P w K mg base 2 "either" ["parts"] false m_either := by
  have C_folded := w_folded (P := P) (w := w) (base := base) T
  have nd : (["parts"] : List Str).Nodup := by decide +kernel
  have S : FnScope ["parts"] ["parts"] (defScope (topS 16)) := ⟨rfl, rfl, rfl, nd, rfl, by decide +kernel, by decide +kernel⟩
  refine fnA_mk (Γ0 := []) (Γl := []) (Γ' := []) T.f_either S (by decide) (no_own rfl) (fun _ _ _ _ _ _ us hl => match us, hl with | [_], _ => rfl) fun f cdv A outer s H E Hf hr => ?_
  have tk := takes_of (X := cxD P w K mg base ["parts"] "either" (topS 16) f cdv A outer s H E) rfl rfl rfl rfl
  have hp := passes_of (X := cxD P w K mg base ["parts"] "either" (topS 16) f cdv A outer s H E) rfl
  exact (pssx_one (psx_ret (px_callF C_folded (hr.mono (by decide)) rfl tk (pax_cons px_str (pax_cons (px_fr' (pv 0) rfl) (pax_cons (px_glob T.g_NO rfl) (pax_cons (px_glob T.g_YES rfl) pax_nil)))))))
theorem w_never (T : Tx K mg w) : FnA P w K mg base 1 "never" ["sentence"] false m_never := by
  have nd : (["sentence"] : List Str).Nodup := by decide +kernel
  have S : FnScope ["sentence"] ["sentence"] (defScope (topS 17)) := ⟨rfl, rfl, rfl, nd, rfl, by decide +kernel, by decide +kernel⟩
  refine fnA_mk (Γ0 := []) (Γl := []) (Γ' := []) T.f_never S (by decide) (no_own rfl) (fun _ _ _ _ _ _ us hl => match us, hl with | [_], _ => rfl) fun f cdv A outer s H E Hf hr => ?_
  have tk := takes_of (X := cxD P w K mg base ["sentence"] "never" (topS 17) f cdv A outer s H E) rfl rfl rfl rfl
  have hp := passes_of (X := cxD P w K mg base ["sentence"] "never" (topS 17) f cdv A outer s H E) rfl
  exact (pssx_cons (psx_if (Γ2 := []) (ptx_cmp (od_eq hr) (px_rd (pv 0)) (px_glob T.g_YES rfl) (nomark _))
 (pssx_one (psx_ret (px_glob T.g_NO rfl)))
 (PSsx.less (Γ2 := []) pssx_nil (le_of rfl)))
 (pssx_cons (psx_if (Γ2 := []) (ptx_cmp (od_eq hr) (px_rd (pv 0)) (px_glob T.g_NO rfl) (nomark _))
 (pssx_one (psx_ret (px_glob T.g_YES rfl)))
 (PSsx.less (Γ2 := []) pssx_nil (le_of rfl)))
 (pssx_one (psx_ret (px_tup (pax_cons px_str (pax_cons (px_fr' (pv 0) rfl) pax_nil)))))))
theorem w_some_of (T : Tx K mg w) : FnA P w K mg base 1 "some_of" ["name", "sentence"] false m_some_of := by
  have nd : (["name", "sentence"] : List Str).Nodup := by decide +kernel
  have S : FnScope ["name", "sentence"] ["name", "sentence"] (defScope (topS 18)) := ⟨rfl, rfl, rfl, nd, rfl, by decide +kernel, by decide +kernel⟩
  refine fnA_mk (Γ0 := []) (Γl := []) (Γ' := []) T.f_some_of S (by decide) (no_own rfl) (fun _ _ _ _ _ _ us hl => match us, hl with | [_, _], _ => rfl) fun f cdv A outer s H E Hf hr => ?_
  have tk := takes_of (X := cxD P w K mg base ["name", "sentence"] "some_of" (topS 18) f cdv A outer s H E) rfl rfl rfl rfl
  have hp := passes_of (X := cxD P w K mg base ["name", "sentence"] "some_of" (topS 18) f cdv A outer s H E) rfl
  exact (pssx_cons (psx_if (Γ2 := []) (PWx.pt (pwx_or (ptx_cmp (od_eq hr) (px_rd (pv 1)) (px_glob T.g_YES rfl) (nomark _)) (pwx_or1 (ptx_cmp (od_eq hr) (px_rd (pv 1)) (px_glob T.g_NO rfl) (nomark _)))))
 (pssx_one (psx_ret (px_fr' (pv 1) rfl)))
 (PSsx.less (Γ2 := []) pssx_nil (le_of rfl)))
 (pssx_one (psx_ret (px_tup (pax_cons px_str (pax_cons (px_fr' (pv 0) rfl) (pax_cons (px_fr' (pv 1) rfl) pax_nil)))))))
theorem w_all_of (T : Tx K mg w) : FnA P w K mg base 1 "all_of" ["name", "sentence"] false m_all_of := by
  have nd : (["name", "sentence"] : List Str).Nodup := by decide +kernel
  have S : FnScope ["name", "sentence"] ["name", "sentence"] (defScope (topS 19)) := ⟨rfl, rfl, rfl, nd, rfl, by decide +kernel, by decide +kernel⟩
  refine fnA_mk (Γ0 := []) (Γl := []) (Γ' := []) T.f_all_of S (by decide) (no_own rfl) (fun _ _ _ _ _ _ us hl => match us, hl with | [_, _], _ => rfl) fun f cdv A outer s H E Hf hr => ?_
  have tk := takes_of (X := cxD P w K mg base ["name", "sentence"] "all_of" (topS 19) f cdv A outer s H E) rfl rfl rfl rfl
  have hp := passes_of (X := cxD P w K mg base ["name", "sentence"] "all_of" (topS 19) f cdv A outer s H E) rfl
  exact (pssx_cons (psx_if (Γ2 := []) (PWx.pt (pwx_or (ptx_cmp (od_eq hr) (px_rd (pv 1)) (px_glob T.g_YES rfl) (nomark _)) (pwx_or1 (ptx_cmp (od_eq hr) (px_rd (pv 1)) (px_glob T.g_NO rfl) (nomark _)))))
 (pssx_one (psx_ret (px_fr' (pv 1) rfl)))
 (PSsx.less (Γ2 := []) pssx_nil (le_of rfl)))
 (pssx_one (psx_ret (px_tup (pax_cons px_str (pax_cons (px_fr' (pv 0) rfl) (pax_cons (px_fr' (pv 1) rfl) pax_nil)))))))
theorem w_run_of (T : Tx K mg w) : FnA P w K mg base 1 "run_of" ["text", "at", "signs"] false m_run_of := by
  have nd : (["text", "at", "signs", "end"] : List Str).Nodup := by decide +kernel
  have S : FnScope ["text", "at", "signs", "end"] ["text", "at", "signs"] (defScope (topS 27)) := ⟨rfl, rfl, rfl, nd, rfl, by decide +kernel, by decide +kernel⟩
  refine fnA_mk (Γ0 := []) (Γl := []) (Γ' := []) T.f_run_of S (by decide) (no_own rfl) (fun _ _ _ _ _ _ us hl => match us, hl with | [_, _, _], _ => rfl) fun f cdv A outer s H E Hf hr => ?_
  have tk := takes_of (X := cxD P w K mg base ["text", "at", "signs", "end"] "run_of" (topS 27) f cdv A outer s H E) rfl rfl rfl rfl
  have hp := passes_of (X := cxD P w K mg base ["text", "at", "signs", "end"] "run_of" (topS 27) f cdv A outer s H E) rfl
  exact (pssx_cons (PSx.less (Γ2 := []) (psx_set (i := 3) nd rfl (.inl rfl) (px_fr' (pv 1) rfl)) (le_of rfl))
 (pssx_cons (PSx.pre (psx_while (Γ := []) hp (PWx.pt (pwx_and (ptx_cmp (od_lt hr) (px_rd (pv 3)) (px_callB ca_len rfl T.z_len bb_len (pbx_cons (px_rd (pv 0)) pbx_nil)) (nomark _)) (pwx_and1 (ptx_cmp (od_in hr) (PX.rd (px_ix hr (px_rd (pv 0)) (px_rd (pv 3)) (fun _ _ => rfl))) (px_rd (pv 2)) (by rfl))))) (PSsx.less (Γ2 := []) (pssx_one (PSx.less (Γ2 := []) (psx_set (i := 3) nd rfl (.inl rfl) (px_bin (od_add hr) (px_rd (pv 3)) px_int)) (le_of rfl))) (le_of rfl))) (le_of rfl))
 (pssx_one (psx_ret (px_slice (px_rd (pv 0)) (pox_some (px_rd (pv 1))) (pox_some (px_rd (pv 3))))))))
theorem w_word_from (T : Tx K mg w) : FnA P w K mg base 3 "word_from" ["text", "at"] false m_word_from := by
  have C_run_of := w_run_of (P := P) (w := w) (base := base) T
  have nd : (["text", "at", "word", "sign"] : List Str).Nodup := by decide +kernel
  have S : FnScope ["text", "at", "word", "sign"] ["text", "at"] (defScope (topS 28)) := ⟨rfl, rfl, rfl, nd, rfl, by decide +kernel, by decide +kernel⟩
  refine fnA_mk (Γ0 := []) (Γl := []) (Γ' := []) T.f_word_from S (by decide) (no_own rfl) (fun _ _ _ _ _ _ us hl => match us, hl with | [_, _], _ => rfl) fun f cdv A outer s H E Hf hr => ?_
  have tk := takes_of (X := cxD P w K mg base ["text", "at", "word", "sign"] "word_from" (topS 28) f cdv A outer s H E) rfl rfl rfl rfl
  have hp := passes_of (X := cxD P w K mg base ["text", "at", "word", "sign"] "word_from" (topS 28) f cdv A outer s H E) rfl
  exact (pssx_cons (PSx.less (Γ2 := []) (psx_set (i := 2) nd rfl (.inl rfl) (px_callF C_run_of (hr.mono (by decide)) rfl tk (pax_cons (px_fr' (pv 0) rfl) (pax_cons (px_fr' (pv 1) rfl) (pax_cons (px_glob T.g_LETTERS rfl) pax_nil))))) (le_of rfl))
 (pssx_cons (psx_if (Γ2 := []) (ptx_cmp (od_gt hr) (px_callB ca_len rfl T.z_len bb_len (pbx_cons (px_rd (pv 2)) pbx_nil)) px_int (nomark _))
 (pssx_one (psx_raise rfl tk (pmx_p T.x_NoText rfl)))
 (PSsx.less (Γ2 := []) pssx_nil (le_of rfl)))
 (pssx_cons (psx_if (Γ2 := []) (ptx_cmp (od_ne hr) (px_rd (pv 2)) px_str (nomark _))
 (pssx_one (psx_ret (px_fr' (pv 2) rfl)))
 (PSsx.less (Γ2 := []) pssx_nil (le_of rfl)))
 (pssx_cons (PSx.less (Γ2 := []) (psx_set (i := 2) nd rfl (.inl rfl) (px_callF C_run_of (hr.mono (by decide)) rfl tk (pax_cons (px_fr' (pv 0) rfl) (pax_cons (px_fr' (pv 1) rfl) (pax_cons (px_glob T.g_FIGURES rfl) pax_nil))))) (le_of rfl))
 (pssx_cons (psx_if (Γ2 := []) (ptx_cmp (od_gt hr) (px_callB ca_len rfl T.z_len bb_len (pbx_cons (px_rd (pv 2)) pbx_nil)) px_int (nomark _))
 (pssx_one (psx_raise rfl tk (pmx_p T.x_NoText rfl)))
 (PSsx.less (Γ2 := []) pssx_nil (le_of rfl)))
 (pssx_cons (psx_if (Γ2 := []) (ptx_cmp (od_ne hr) (px_rd (pv 2)) px_str (nomark _))
 (pssx_one (psx_ret (px_fr' (pv 2) rfl)))
 (PSsx.less (Γ2 := []) pssx_nil (le_of rfl)))
 (pssx_cons (PSx.pre (psx_for (Γ := []) (Γ1 := []) hp rfl (pix_seq (px_glob T.g_SIGNS rfl)) (fun F1 => (pgx_name (i := 3) nd rfl (.inl rfl))) gN_nx (fun F1 => (PSsx.less (Γ2 := []) (pssx_one (psx_if (Γ2 := []) (ptx_cmp (od_eq hr) (px_slice (px_rd (pv 0)) (pox_some (px_rd (pv 1))) (pox_some (px_bin (od_add hr) (px_rd (pv 1)) (px_callB ca_len rfl T.z_len bb_len (pbx_cons (px_rd (pv 3)) pbx_nil))))) (px_rd (pv 3)) (nomark _))
 (pssx_one (psx_ret (px_fr' (pv 3) rfl)))
 (PSsx.less (Γ2 := []) pssx_nil (le_of rfl)))) (le_of rfl)))) (le_of rfl))
 (pssx_one (psx_raise rfl tk (pmx_p T.x_NoText rfl))))))))))
theorem w_words_of (T : Tx K mg w) : FnA P w K mg base 4 "words_of" ["text"] true m_words_of := by
  have C_word_from := w_word_from (P := P) (w := w) (base := base) T
  have nd : (["text", "found", "at", "word"] : List Str).Nodup := by decide +kernel
  have S : FnScope ["text", "found", "at", "word"] ["text"] (defScope (topS 29)) := ⟨rfl, rfl, rfl, nd, rfl, by decide +kernel, by decide +kernel⟩
  refine fnA_mk (Γ0 := [false, false, false, false]) (Γl := []) (Γ' := []) T.f_words_of S (by decide) (no_own rfl) (fun _ _ _ _ _ _ us hl => match us, hl with | [_], _ => rfl) fun f cdv A outer s H E Hf hr => ?_
  have tk := takes_of (X := cxD P w K mg base ["text", "found", "at", "word"] "words_of" (topS 29) f cdv A outer s H E) rfl rfl rfl rfl
  have hp := passes_of (X := cxD P w K mg base ["text", "found", "at", "word"] "words_of" (topS 29) f cdv A outer s H E) rfl
  exact (pssx_cons (PSx.less (Γ2 := [false, true, false, false]) (psx_setO (i := 1) nd rfl (.inl rfl) (px_lst pax_nil) (by decide)) (le_of rfl))
 (pssx_cons (PSx.less (Γ2 := [false, true, false, false]) (psx_set (i := 2) nd rfl (.inl rfl) px_int) (le_of rfl))
 (pssx_cons (PSx.pre (psx_while (Γ := [false, true, false, false]) hp (ptx_cmp (od_lt hr) (px_rd (pv 2)) (px_callB ca_len rfl T.z_len bb_len (pbx_cons (px_rd (pv 0)) pbx_nil)) (nomark _)) (PSsx.less (Γ2 := [false, true, false, false]) (pssx_one (psx_if (Γ2 := [false, true, false, false]) (ptx_cmp (od_eq hr) (PX.rd (px_ix hr (px_rd (pv 0)) (px_rd (pv 2)) (fun _ _ => rfl))) px_str (nomark _))
 (PSsx.less (Γ2 := [false, true, false, false]) (pssx_one (PSx.less (Γ2 := [false, true, false, false]) (psx_set (i := 2) nd rfl (.inl rfl) (px_bin (od_add hr) (px_rd (pv 2)) px_int)) (le_of rfl))) (le_of rfl))
 (PSsx.less (Γ2 := [false, true, false, false]) (pssx_cons (PSx.less (Γ2 := [false, true, false, false]) (psx_set (i := 3) nd rfl (.inl rfl) (px_callF C_word_from (hr.mono (by decide)) rfl tk (pax_cons (px_fr' (pv 0) rfl) (pax_cons (px_fr' (pv 2) rfl) pax_nil)))) (le_of rfl))
 (pssx_cons (psx_append (pv 1) (px_fr' (pv 3) rfl) rfl)
 (pssx_one (PSx.less (Γ2 := [false, true, false, false]) (psx_set (i := 2) nd rfl (.inl rfl) (px_bin (od_add hr) (px_rd (pv 2)) (px_callB ca_len rfl T.z_len bb_len (pbx_cons (px_rd (pv 3)) pbx_nil)))) (le_of rfl))))) (le_of rfl)))) (le_of rfl))) (le_of rfl))
 (pssx_one (psx_retV (pv 1) rfl)))))
theorem w_whole (T : Tx K mg w) : FnA P w K mg base 2 "whole" ["rows"] false m_whole := by
  have C_divisor := w_divisor (P := P) (w := w) (base := base) T
  have C_form_of := w_form_of (P := P) (w := w) (base := base) T
  have nd : (["rows", "share", "product", "top", "bottom"] : List Str).Nodup := by decide +kernel
  have S : FnScope ["rows", "share", "product", "top", "bottom"] ["rows"] (defScope (topS 30)) := ⟨rfl, rfl, rfl, nd, rfl, by decide +kernel, by decide +kernel⟩
  refine fnA_mk (Γ0 := []) (Γl := []) (Γ' := []) T.f_whole S (by decide) (no_own rfl) (fun _ _ _ _ _ _ us hl => match us, hl with | [_], _ => rfl) fun f cdv A outer s H E Hf hr => ?_
  have tk := takes_of (X := cxD P w K mg base ["rows", "share", "product", "top", "bottom"] "whole" (topS 30) f cdv A outer s H E) rfl rfl rfl rfl
  have hp := passes_of (X := cxD P w K mg base ["rows", "share", "product", "top", "bottom"] "whole" (topS 30) f cdv A outer s H E) rfl
  exact (pssx_cons (PSx.less (Γ2 := []) (psx_set (i := 1) nd rfl (.inr rfl) px_int) (le_of rfl))
 (pssx_cons (PSx.pre (psx_for (Γ := []) (Γ1 := []) hp rfl (pix_seq (px_fr' (pv 0) rfl)) (fun F1 => (pgx_tup rfl (pgsx_cons (pgx_name (i := 2) nd rfl (.inl rfl)) (pgsx_cons (pgx_name (i := 3) nd rfl (.inl rfl)) (pgsx_cons (pgx_name (i := 4) nd rfl (.inl rfl)) pgsx_nil))))) (gT_nx (nxs_cons gN_nx (nxs_cons gN_nx (nxs_cons gN_nx nxs_nil)))) (fun F1 => (PSsx.less (Γ2 := []) (pssx_one (PSx.less (Γ2 := []) (psx_set (i := 1) nd rfl (.inr rfl) (px_bin (od_mul hr) (px_rd (pv 1)) (px_bin od_div (px_rd (pv 4)) (PX.rd (px_callF C_divisor (hr.mono (by decide)) rfl tk (pax_cons (px_fr' (pv 1) rfl) (pax_cons (px_fr' (pv 4) rfl) pax_nil))))))) (le_of rfl))) (le_of rfl)))) (le_of rfl))
 (pssx_one (psx_ret (px_callF C_form_of (hr.mono (by decide)) rfl tk (pax_cons (PX.fr (px_lc (own := [("product", 2), ("top", 3), ("bottom", 4)]) (Γ2 := []) rfl nd (pix_seq (px_fr' (pv 0) rfl)) (le_of rfl) (by decide) (blkOk_by (N := ["rows", "share", "product", "top", "bottom"]) (sc := defScope (topS 30)) (own := [("product", 2), ("top", 3), ("bottom", 4)]) (by decide +kernel)) (fun _ _ _ _ _ _ => (pgx_tup rfl (pgsx_cons (pgx_name (i := 2) nd rfl (.inl rfl)) (pgsx_cons (pgx_name (i := 3) nd rfl (.inl rfl)) (pgsx_cons (pgx_name (i := 4) nd rfl (.inl rfl)) pgsx_nil))))) (by decide) (fun _ _ _ _ _ _ => ptsx_nil) (fun _ _ _ _ _ _ => (px_tup (pax_cons (px_fr' (pv 2) rfl) (pax_cons (px_bin (od_mul hr) (px_rd (pv 3)) (px_bin od_div (px_rd (pv 1)) (px_rd (pv 4)))) pax_nil)))))) pax_nil))))))
theorem w_Reader___init__ (T : Tx K mg w) : MmA P w K mg base 1 "__init__" ["Reader"] ["self", "words"] m_Reader___init__ := by
  have nd : (["self", "words"] : List Str).Nodup := by decide +kernel
  have S : FnScope ["self", "words"] ["self", "words"] (defScope (inClass (topS 31) 0)) := ⟨rfl, rfl, rfl, nd, rfl, by decide +kernel, by decide +kernel⟩
  refine mmA_mk (Γ0 := [true, false]) (Γl := []) (Γ' := [true, false]) T.f_Reader___init__ S (by decide) rfl (by decide) rfl (fun _ _ _ _ _ _ us hl => match us, hl with | [_, _], _ => rfl) fun f cdv A outer s H E Hf a hr => ?_
  have tk := takes_of (X := cxD P w K mg base ["self", "words"] "Reader.__init__" (inClass (topS 31) 0) f cdv A outer s H E) rfl rfl rfl rfl
  have hp := passes_of (X := cxD P w K mg base ["self", "words"] "Reader.__init__" (inClass (topS 31) 0) f cdv A outer s H E) rfl
  exact (pssx_cons (psx_fld (i := 0) T.caR (pv 0) (px_fr' (pv 1) rfl) rfl)
 (pssx_one (psx_fld (i := 0) T.caR (pv 0) px_int rfl)))
theorem w_Reader_here (T : Tx K mg w) : MmA P w K mg base 1 "here" ["Reader"] ["self"] m_Reader_here := by
  have nd : (["self"] : List Str).Nodup := by decide +kernel
  have S : FnScope ["self"] ["self"] (defScope (inClass (topS 31) 1)) := ⟨rfl, rfl, rfl, nd, rfl, by decide +kernel, by decide +kernel⟩
  refine mmA_mk (Γ0 := [true]) (Γl := []) (Γ' := [true]) T.f_Reader_here S (by decide) rfl (by decide) rfl (fun _ _ _ _ _ _ us hl => match us, hl with | [_], _ => rfl) fun f cdv A outer s H E Hf a hr => ?_
  have tk := takes_of (X := cxD P w K mg base ["self"] "Reader.here" (inClass (topS 31) 1) f cdv A outer s H E) rfl rfl rfl rfl
  have hp := passes_of (X := cxD P w K mg base ["self"] "Reader.here" (inClass (topS 31) 1) f cdv A outer s H E) rfl
  exact (pssx_cons (psx_if (Γ2 := [true]) (ptx_cmp (od_lt hr) (PX.rd (px_fld (f := "at") T.caR (px_rd (pv 0)))) (px_callB ca_len rfl T.z_len bb_len (pbx_cons (PX.rd (px_fld (f := "words") T.caR (px_rd (pv 0)))) pbx_nil)) (nomark _))
 (pssx_one (psx_retM (pxe_p (px_ix hr (PX.rd (px_fld (f := "words") T.caR (px_rd (pv 0)))) (PX.rd (px_fld (f := "at") T.caR (px_rd (pv 0)))) (fun _ _ => rfl))) rfl))
 (PSsx.less (Γ2 := [true]) pssx_nil (le_of rfl)))
 (pssx_one (psx_retM (pxe_p px_str) rfl)))
theorem w_Reader_taken (T : Tx K mg w) : MmA P w K mg base 2 "taken" ["Reader"] ["self", "word"] m_Reader_taken := by
  have C_Reader_here := w_Reader_here (P := P) (w := w) (base := base) T
  have nd : (["self", "word"] : List Str).Nodup := by decide +kernel
  have S : FnScope ["self", "word"] ["self", "word"] (defScope (inClass (topS 31) 2)) := ⟨rfl, rfl, rfl, nd, rfl, by decide +kernel, by decide +kernel⟩
  refine mmA_mk (Γ0 := [true, false]) (Γl := []) (Γ' := [true, false]) T.f_Reader_taken S (by decide) rfl (by decide) rfl (fun _ _ _ _ _ _ us hl => match us, hl with | [_, _], _ => rfl) fun f cdv A outer s H E Hf a hr => ?_
  have tk := takes_of (X := cxD P w K mg base ["self", "word"] "Reader.taken" (inClass (topS 31) 2) f cdv A outer s H E) rfl rfl rfl rfl
  have hp := passes_of (X := cxD P w K mg base ["self", "word"] "Reader.taken" (inClass (topS 31) 2) f cdv A outer s H E) rfl
  exact (pssx_cons (psx_ifE (Γ2 := [true, false]) (pte_cmp (od_ne hr) (pxe_meth0 C_Reader_here (hr.mono (by decide)) tk (pv 0) rfl) (pxe_p (px_fr' (pv 1) rfl)) (nomark _))
 (pssx_one (psx_retM (pxe_p px_bl) rfl))
 (PSsx.less (Γ2 := [true, false]) pssx_nil (le_of rfl)))
 (pssx_cons (psx_fld (i := 0) T.caR (pv 0) (px_bin (od_add hr) (PX.rd (px_fld (f := "at") T.caR (px_rd (pv 0)))) px_int) rfl)
 (pssx_one (psx_retM (pxe_p px_bl) rfl))))
theorem w_Reader_one_of (T : Tx K mg w) : MmA P w K mg base 3 "one_of" ["Reader"] ["self", "signs"] m_Reader_one_of := by
  have C_Reader_here := w_Reader_here (P := P) (w := w) (base := base) T
  have nd : (["self", "signs", "word"] : List Str).Nodup := by decide +kernel
  have S : FnScope ["self", "signs", "word"] ["self", "signs"] (defScope (inClass (topS 31) 4)) := ⟨rfl, rfl, rfl, nd, rfl, by decide +kernel, by decide +kernel⟩
  refine mmA_mk (Γ0 := [true, false, false]) (Γl := []) (Γ' := [true, false, false]) T.f_Reader_one_of S (by decide) rfl (by decide) rfl (fun _ _ _ _ _ _ us hl => match us, hl with | [_, _], _ => rfl) fun f cdv A outer s H E Hf a hr => ?_
  have tk := takes_of (X := cxD P w K mg base ["self", "signs", "word"] "Reader.one_of" (inClass (topS 31) 4) f cdv A outer s H E) rfl rfl rfl rfl
  have hp := passes_of (X := cxD P w K mg base ["self", "signs", "word"] "Reader.one_of" (inClass (topS 31) 4) f cdv A outer s H E) rfl
  exact (pssx_cons (PSx.less (Γ2 := [true, false, false]) (psx_setE (i := 2) nd rfl (.inl rfl) (pxe_meth0 C_Reader_here (hr.mono (by decide)) tk (pv 0) rfl)) (le_of rfl))
 (pssx_cons (psx_if (Γ2 := [true, false, false]) (PWx.pt (pwx_or (ptx_cmp (od_eq hr) (px_rd (pv 2)) px_str (nomark _)) (pwx_or1 (ptx_cmp (od_notin hr) (PX.rd (px_ix hr (px_rd (pv 2)) px_int (fun _ _ => rfl))) (px_rd (pv 1)) (by rfl)))))
 (pssx_one (psx_raise rfl tk (pmx_p T.x_NoText rfl)))
 (PSsx.less (Γ2 := [true, false, false]) pssx_nil (le_of rfl)))
 (pssx_cons (psx_fld (i := 0) T.caR (pv 0) (px_bin (od_add hr) (PX.rd (px_fld (f := "at") T.caR (px_rd (pv 0)))) px_int) rfl)
 (pssx_one (psx_retM (pxe_p (px_fr' (pv 2) rfl)) rfl)))))
theorem w_Reader_must (T : Tx K mg w) : MmA P w K mg base 3 "must" ["Reader"] ["self", "word"] m_Reader_must := by
  have C_Reader_taken := w_Reader_taken (P := P) (w := w) (base := base) T
  have nd : (["self", "word"] : List Str).Nodup := by decide +kernel
  have S : FnScope ["self", "word"] ["self", "word"] (defScope (inClass (topS 31) 3)) := ⟨rfl, rfl, rfl, nd, rfl, by decide +kernel, by decide +kernel⟩
  refine mmA_mk (Γ0 := [true, false]) (Γl := []) (Γ' := [true, false]) T.f_Reader_must S (by decide) rfl (by decide) rfl (fun _ _ _ _ _ _ us hl => match us, hl with | [_, _], _ => rfl) fun f cdv A outer s H E Hf a hr => ?_
  have tk := takes_of (X := cxD P w K mg base ["self", "word"] "Reader.must" (inClass (topS 31) 3) f cdv A outer s H E) rfl rfl rfl rfl
  have hp := passes_of (X := cxD P w K mg base ["self", "word"] "Reader.must" (inClass (topS 31) 3) f cdv A outer s H E) rfl
  exact (pssx_one (psx_ifE (Γ2 := [true, false]) (pte_not (pte_val (pxe_meth C_Reader_taken (hr.mono (by decide)) tk (pv 0) rfl (pax_cons (px_fr' (pv 1) rfl) pax_nil))))
 (pssx_one (psx_raise rfl tk (pmx_p T.x_NoText rfl)))
 (PSsx.less (Γ2 := [true, false]) pssx_nil (le_of rfl))))
theorem w_Reader_fraction (T : Tx K mg w) : MmA P w K mg base 4 "fraction" ["Reader"] ["self"] m_Reader_fraction := by
  have C_Reader_one_of := w_Reader_one_of (P := P) (w := w) (base := base) T
  have C_Reader_taken := w_Reader_taken (P := P) (w := w) (base := base) T
  have nd : (["self", "top", "bottom"] : List Str).Nodup := by decide +kernel
  have S : FnScope ["self", "top", "bottom"] ["self"] (defScope (inClass (topS 31) 7)) := ⟨rfl, rfl, rfl, nd, rfl, by decide +kernel, by decide +kernel⟩
  refine mmA_mk (Γ0 := [true, false, false]) (Γl := []) (Γ' := [true, false, false]) T.f_Reader_fraction S (by decide) rfl (by decide) rfl (fun _ _ _ _ _ _ us hl => match us, hl with | [_], _ => rfl) fun f cdv A outer s H E Hf a hr => ?_
  have tk := takes_of (X := cxD P w K mg base ["self", "top", "bottom"] "Reader.fraction" (inClass (topS 31) 7) f cdv A outer s H E) rfl rfl rfl rfl
  have hp := passes_of (X := cxD P w K mg base ["self", "top", "bottom"] "Reader.fraction" (inClass (topS 31) 7) f cdv A outer s H E) rfl
  exact (pssx_cons (PSx.less (Γ2 := [true, false, false]) (psx_setE (i := 1) nd rfl (.inl rfl) (pxe_callT ca_intS rfl T.z_int bb_int (pae_cons (pxe_meth C_Reader_one_of (hr.mono (by decide)) tk (pv 0) rfl (pax_cons (px_glob T.g_FIGURES rfl) pax_nil)) pae_nil))) (le_of rfl))
 (pssx_cons (psx_ifE (Γ2 := [true, false, false]) (pte_not (pte_val (pxe_meth C_Reader_taken (hr.mono (by decide)) tk (pv 0) rfl (pax_cons px_str pax_nil))))
 (pssx_one (psx_retM (pxe_p (px_tup (pax_cons (px_fr' (pv 1) rfl) (pax_cons px_int pax_nil)))) rfl))
 (PSsx.less (Γ2 := [true, false, false]) pssx_nil (le_of rfl)))
 (pssx_cons (PSx.less (Γ2 := [true, false, false]) (psx_setE (i := 2) nd rfl (.inl rfl) (pxe_callT ca_intS rfl T.z_int bb_int (pae_cons (pxe_meth C_Reader_one_of (hr.mono (by decide)) tk (pv 0) rfl (pax_cons (px_glob T.g_FIGURES rfl) pax_nil)) pae_nil))) (le_of rfl))
 (pssx_cons (psx_if (Γ2 := [true, false, false]) (ptx_cmp (od_eq hr) (px_rd (pv 2)) px_int (nomark _))
 (pssx_one (psx_raise rfl tk (pmx_p T.x_NoText rfl)))
 (PSsx.less (Γ2 := [true, false, false]) pssx_nil (le_of rfl)))
 (pssx_one (psx_retM (pxe_p (px_tup (pax_cons (px_fr' (pv 1) rfl) (pax_cons (px_fr' (pv 2) rfl) pax_nil)))) rfl))))))
theorem w_Reader_power (T : Tx K mg w) : MmA P w K mg base 4 "power" ["Reader"] ["self"] m_Reader_power := by
  have C_Reader_taken := w_Reader_taken (P := P) (w := w) (base := base) T
  have C_Reader_one_of := w_Reader_one_of (P := P) (w := w) (base := base) T
  have nd : (["self", "word"] : List Str).Nodup := by decide +kernel
  have S : FnScope ["self", "word"] ["self"] (defScope (inClass (topS 31) 6)) := ⟨rfl, rfl, rfl, nd, rfl, by decide +kernel, by decide +kernel⟩
  refine mmA_mk (Γ0 := [true, false]) (Γl := []) (Γ' := [true, false]) T.f_Reader_power S (by decide) rfl (by decide) rfl (fun _ _ _ _ _ _ us hl => match us, hl with | [_], _ => rfl) fun f cdv A outer s H E Hf a hr => ?_
  have tk := takes_of (X := cxD P w K mg base ["self", "word"] "Reader.power" (inClass (topS 31) 6) f cdv A outer s H E) rfl rfl rfl rfl
  have hp := passes_of (X := cxD P w K mg base ["self", "word"] "Reader.power" (inClass (topS 31) 6) f cdv A outer s H E) rfl
  exact (pssx_cons (psx_ifE (Γ2 := [true, false]) (pte_not (pte_val (pxe_meth C_Reader_taken (hr.mono (by decide)) tk (pv 0) rfl (pax_cons px_str pax_nil))))
 (pssx_one (psx_retM (pxe_p px_int) rfl))
 (PSsx.less (Γ2 := [true, false]) pssx_nil (le_of rfl)))
 (pssx_cons (PSx.less (Γ2 := [true, false]) (psx_setE (i := 1) nd rfl (.inl rfl) (pxe_meth C_Reader_one_of (hr.mono (by decide)) tk (pv 0) rfl (pax_cons px_str pax_nil))) (le_of rfl))
 (pssx_cons (psx_if (Γ2 := [true, false]) (ptx_cmp (od_gt hr) (px_callB ca_len rfl T.z_len bb_len (pbx_cons (px_rd (pv 1)) pbx_nil)) px_int (nomark _))
 (pssx_one (psx_raise rfl tk (pmx_p T.x_NoText rfl)))
 (PSsx.less (Γ2 := [true, false]) pssx_nil (le_of rfl)))
 (pssx_one (psx_retM (pxe_p (px_callT ca_intS rfl T.z_int bb_int (pbx_cons (px_rd (pv 1)) pbx_nil))) rfl)))))
theorem w_Reader_unknown (T : Tx K mg w) : MmA P w K mg base 4 "unknown" ["Reader"] ["self"] m_Reader_unknown := by
  have C_Reader_one_of := w_Reader_one_of (P := P) (w := w) (base := base) T
  have nd : (["self", "word"] : List Str).Nodup := by decide +kernel
  have S : FnScope ["self", "word"] ["self"] (defScope (inClass (topS 31) 5)) := ⟨rfl, rfl, rfl, nd, rfl, by decide +kernel, by decide +kernel⟩
  refine mmA_mk (Γ0 := [true, false]) (Γl := []) (Γ' := [true, false]) T.f_Reader_unknown S (by decide) rfl (by decide) rfl (fun _ _ _ _ _ _ us hl => match us, hl with | [_], _ => rfl) fun f cdv A outer s H E Hf a hr => ?_
  have tk := takes_of (X := cxD P w K mg base ["self", "word"] "Reader.unknown" (inClass (topS 31) 5) f cdv A outer s H E) rfl rfl rfl rfl
  have hp := passes_of (X := cxD P w K mg base ["self", "word"] "Reader.unknown" (inClass (topS 31) 5) f cdv A outer s H E) rfl
  exact (pssx_cons (PSx.less (Γ2 := [true, false]) (psx_setE (i := 1) nd rfl (.inl rfl) (pxe_meth C_Reader_one_of (hr.mono (by decide)) tk (pv 0) rfl (pax_cons (px_glob T.g_LETTERS rfl) pax_nil))) (le_of rfl))
 (pssx_cons (psx_if (Γ2 := [true, false]) (ptx_cmp (od_in hr) (px_rd (pv 1)) (px_glob T.g_WORDS rfl) (by rfl))
 (pssx_one (psx_raise rfl tk (pmx_p T.x_NoText rfl)))
 (PSsx.less (Γ2 := [true, false]) pssx_nil (le_of rfl)))
 (pssx_one (psx_retM (pxe_p (px_fr' (pv 1) rfl)) rfl))))
theorem w_Reader_term (T : Tx K mg w) : MmA P w K mg base 5 "term" ["Reader"] ["self", "top"] m_Reader_term := by
  have C_Reader_here := w_Reader_here (P := P) (w := w) (base := base) T
  have C_Reader_fraction := w_Reader_fraction (P := P) (w := w) (base := base) T
  have C_Reader_unknown := w_Reader_unknown (P := P) (w := w) (base := base) T
  have C_Reader_power := w_Reader_power (P := P) (w := w) (base := base) T
  have C_product_of := w_product_of (P := P) (w := w) (base := base) T
  have C_Reader_taken := w_Reader_taken (P := P) (w := w) (base := base) T
  have nd : (["self", "top", "product", "bottom", "going", "word", "above", "below", "name"] : List Str).Nodup := by decide +kernel
  have S : FnScope ["self", "top", "product", "bottom", "going", "word", "above", "below", "name"] ["self", "top"] (defScope (inClass (topS 31) 8)) := ⟨rfl, rfl, rfl, nd, rfl, by decide +kernel, by decide +kernel⟩
  refine mmA_mk (Γ0 := [true, false, false, false, false, false, false, false, false]) (Γl := []) (Γ' := [true, false, false, false, false, false, false, false, false]) T.f_Reader_term S (by decide) rfl (by decide) rfl (fun _ _ _ _ _ _ us hl => match us, hl with | [_, _], _ => rfl) fun f cdv A outer s H E Hf a hr => ?_
  have tk := takes_of (X := cxD P w K mg base ["self", "top", "product", "bottom", "going", "word", "above", "below", "name"] "Reader.term" (inClass (topS 31) 8) f cdv A outer s H E) rfl rfl rfl rfl
  have hp := passes_of (X := cxD P w K mg base ["self", "top", "product", "bottom", "going", "word", "above", "below", "name"] "Reader.term" (inClass (topS 31) 8) f cdv A outer s H E) rfl
  exact (pssx_cons (PSx.less (Γ2 := [true, false, false, false, false, false, false, false, false]) (psx_set (i := 2) nd rfl (.inl rfl) (px_tup pax_nil)) (le_of rfl))
 (pssx_cons (PSx.less (Γ2 := [true, false, false, false, false, false, false, false, false]) (psx_set (i := 3) nd rfl (.inl rfl) px_int) (le_of rfl))
 (pssx_cons (PSx.less (Γ2 := [true, false, false, false, false, false, false, false, false]) (psx_set (i := 4) nd rfl (.inl rfl) px_bl) (le_of rfl))
 (pssx_cons (PSx.pre (psx_while (Γ := [true, false, false, false, false, false, false, false, false]) hp (ptx_val (px_rd (pv 4))) (PSsx.less (Γ2 := [true, false, false, false, false, false, false, false, false]) (pssx_cons (PSx.less (Γ2 := [true, false, false, false, false, false, false, false, false]) (psx_setE (i := 5) nd rfl (.inl rfl) (pxe_meth0 C_Reader_here (hr.mono (by decide)) tk (pv 0) rfl)) (le_of rfl))
 (pssx_cons (psx_if (Γ2 := [true, false, false, false, false, false, false, false, false]) (PWx.pt (pwx_and (ptx_cmp (od_ne hr) (px_rd (pv 5)) px_str (nomark _)) (pwx_and1 (ptx_cmp (od_in hr) (PX.rd (px_ix hr (px_rd (pv 5)) px_int (fun _ _ => rfl))) (px_glob T.g_FIGURES rfl) (by rfl)))))
 (PSsx.less (Γ2 := [true, false, false, false, false, false, false, false, false]) (pssx_cons (PSx.less (Γ2 := [true, false, false, false, false, false, false, false, false]) (psx_asgE (pxe_meth0 C_Reader_fraction (hr.mono (by decide)) tk (pv 0) rfl) (pgx_tup rfl (pgsx_cons (pgx_name (i := 6) nd rfl (.inl rfl)) (pgsx_cons (pgx_name (i := 7) nd rfl (.inl rfl)) pgsx_nil))) (gT_nx (nxs_cons gN_nx (nxs_cons gN_nx nxs_nil)))) (le_of rfl))
 (pssx_cons (PSx.less (Γ2 := [true, false, false, false, false, false, false, false, false]) (psx_set (i := 1) nd rfl (.inl rfl) (px_bin (od_mul hr) (px_rd (pv 1)) (px_rd (pv 6)))) (le_of rfl))
 (pssx_one (PSx.less (Γ2 := [true, false, false, false, false, false, false, false, false]) (psx_set (i := 3) nd rfl (.inl rfl) (px_bin (od_mul hr) (px_rd (pv 3)) (px_rd (pv 7)))) (le_of rfl))))) (le_of rfl))
 (PSsx.less (Γ2 := [true, false, false, false, false, false, false, false, false]) (pssx_cons (PSx.less (Γ2 := [true, false, false, false, false, false, false, false, false]) (psx_setE (i := 8) nd rfl (.inl rfl) (pxe_meth0 C_Reader_unknown (hr.mono (by decide)) tk (pv 0) rfl)) (le_of rfl))
 (pssx_one (PSx.less (Γ2 := [true, false, false, false, false, false, false, false, false]) (psx_setE (i := 2) nd rfl (.inl rfl) (pxe_fn C_product_of (hr.mono (by decide)) rfl tk (pae_cons (pxe_p (px_fr' (pv 2) rfl)) (pae_cons (pxe_tup (pae_cons (pxe_tup (pae_cons (pxe_p (px_fr' (pv 8) rfl)) (pae_cons (pxe_meth0 C_Reader_power (hr.mono (by decide)) tk (pv 0) rfl) pae_nil))) pae_nil)) pae_nil)))) (le_of rfl)))) (le_of rfl)))
 (pssx_one (PSx.less (Γ2 := [true, false, false, false, false, false, false, false, false]) (psx_setE (i := 4) nd rfl (.inl rfl) (pxe_meth C_Reader_taken (hr.mono (by decide)) tk (pv 0) rfl (pax_cons px_str pax_nil))) (le_of rfl))))) (le_of rfl))) (le_of rfl))
 (pssx_one (psx_retM (pxe_p (px_tup (pax_cons (px_fr' (pv 2) rfl) (pax_cons (px_fr' (pv 1) rfl) (pax_cons (px_fr' (pv 3) rfl) pax_nil))))) rfl))))))
theorem w_Reader_terms (T : Tx K mg w) : MmA P w K mg base 6 "terms" ["Reader"] ["self"] m_Reader_terms := by
  have C_Reader_taken := w_Reader_taken (P := P) (w := w) (base := base) T
  have C_Reader_term := w_Reader_term (P := P) (w := w) (base := base) T
  have C_Reader_here := w_Reader_here (P := P) (w := w) (base := base) T
  have C_Reader_must := w_Reader_must (P := P) (w := w) (base := base) T
  have nd : (["self", "first", "rows"] : List Str).Nodup := by decide +kernel
  have S : FnScope ["self", "first", "rows"] ["self"] (defScope (inClass (topS 31) 9)) := ⟨rfl, rfl, rfl, nd, rfl, by decide +kernel, by decide +kernel⟩
  refine mmA_mk (Γ0 := [true, false, false]) (Γl := []) (Γ' := [true, false, false]) T.f_Reader_terms S (by decide) rfl (by decide) rfl (fun _ _ _ _ _ _ us hl => match us, hl with | [_], _ => rfl) fun f cdv A outer s H E Hf a hr => ?_
  have tk := takes_of (X := cxD P w K mg base ["self", "first", "rows"] "Reader.terms" (inClass (topS 31) 9) f cdv A outer s H E) rfl rfl rfl rfl
  have hp := passes_of (X := cxD P w K mg base ["self", "first", "rows"] "Reader.terms" (inClass (topS 31) 9) f cdv A outer s H E) rfl
  exact (pssx_cons (PSx.less (Γ2 := [true, false, false]) (psx_set (i := 1) nd rfl (.inl rfl) px_int) (le_of rfl))
 (pssx_cons (psx_ifE (Γ2 := [true, false, false]) (pte_val (pxe_meth C_Reader_taken (hr.mono (by decide)) tk (pv 0) rfl (pax_cons px_str pax_nil)))
 (PSsx.less (Γ2 := [true, false, false]) (pssx_one (PSx.less (Γ2 := [true, false, false]) (psx_set (i := 1) nd rfl (.inl rfl) (px_un ud_neg px_int)) (le_of rfl))) (le_of rfl))
 (PSsx.less (Γ2 := [true, false, false]) pssx_nil (le_of rfl)))
 (pssx_cons (PSx.less (Γ2 := [true, false, true]) (psx_setOE (i := 2) nd rfl (.inl rfl) (pxe_lst (pae_cons (pxe_meth C_Reader_term (hr.mono (by decide)) tk (pv 0) rfl (pax_cons (px_fr' (pv 1) rfl) pax_nil)) pae_nil)) (by decide)) (le_of rfl))
 (pssx_cons (PSx.pre (psx_whileE (Γ := [true, false, true]) hp (PWe.pt (pwe_or (pte_cmp (od_eq hr) (pxe_meth0 C_Reader_here (hr.mono (by decide)) tk (pv 0) rfl) (pxe_p px_str) (nomark _)) (pwe_or1 (pte_cmp (od_eq hr) (pxe_meth0 C_Reader_here (hr.mono (by decide)) tk (pv 0) rfl) (pxe_p px_str) (nomark _))))) (PSsx.less (Γ2 := [true, false, true]) (pssx_one (psx_ifE (Γ2 := [true, false, true]) (pte_val (pxe_meth C_Reader_taken (hr.mono (by decide)) tk (pv 0) rfl (pax_cons px_str pax_nil)))
 (PSsx.less (Γ2 := [true, false, true]) (pssx_one (psx_appendE (pv 2) (pxe_meth C_Reader_term (hr.mono (by decide)) tk (pv 0) rfl (pax_cons px_int pax_nil)) rfl)) (le_of rfl))
 (PSsx.less (Γ2 := [true, false, true]) (pssx_cons (psx_exprE (pxe_meth C_Reader_must (hr.mono (by decide)) tk (pv 0) rfl (pax_cons px_str pax_nil)))
 (pssx_one (psx_appendE (pv 2) (pxe_meth C_Reader_term (hr.mono (by decide)) tk (pv 0) rfl (pax_cons (px_un ud_neg px_int) pax_nil)) rfl))) (le_of rfl)))) (le_of rfl))) (le_of rfl))
 (pssx_one (psx_retM (pxe_p (px_fr (pv 2))) rfl))))))
theorem w_Reader_compared (T : Tx K mg w) : MmA P w K mg base 7 "compared" ["Reader"] ["self"] m_Reader_compared := by
  have C_Reader_terms := w_Reader_terms (P := P) (w := w) (base := base) T
  have C_Reader_one_of := w_Reader_one_of (P := P) (w := w) (base := base) T
  have C_whole := w_whole (P := P) (w := w) (base := base) T
  have C_compare := w_compare (P := P) (w := w) (base := base) T
  have nd : (["self", "left", "sign", "right", "rows", "product", "top", "bottom"] : List Str).Nodup := by decide +kernel
  have S : FnScope ["self", "left", "sign", "right", "rows", "product", "top", "bottom"] ["self"] (defScope (inClass (topS 31) 10)) := ⟨rfl, rfl, rfl, nd, rfl, by decide +kernel, by decide +kernel⟩
  refine mmA_mk (Γ0 := [true, false, false, false, false, false, false, false]) (Γl := []) (Γ' := [true, false, false, false, false, false, false, false]) T.f_Reader_compared S (by decide) rfl (by decide) rfl (fun _ _ _ _ _ _ us hl => match us, hl with | [_], _ => rfl) fun f cdv A outer s H E Hf a hr => ?_
  have tk := takes_of (X := cxD P w K mg base ["self", "left", "sign", "right", "rows", "product", "top", "bottom"] "Reader.compared" (inClass (topS 31) 10) f cdv A outer s H E) rfl rfl rfl rfl
  have hp := passes_of (X := cxD P w K mg base ["self", "left", "sign", "right", "rows", "product", "top", "bottom"] "Reader.compared" (inClass (topS 31) 10) f cdv A outer s H E) rfl
  exact (pssx_cons (PSx.less (Γ2 := [true, false, false, false, false, false, false, false]) (psx_setE (i := 1) nd rfl (.inl rfl) (pxe_meth0 C_Reader_terms (hr.mono (by decide)) tk (pv 0) rfl)) (le_of rfl))
 (pssx_cons (PSx.less (Γ2 := [true, false, false, false, false, false, false, false]) (psx_setE (i := 2) nd rfl (.inl rfl) (pxe_meth C_Reader_one_of (hr.mono (by decide)) tk (pv 0) rfl (pax_cons px_str pax_nil))) (le_of rfl))
 (pssx_cons (psx_if (Γ2 := [true, false, false, false, false, false, false, false]) (ptx_notinC T.d_MEANT rfl (px_rd (pv 2)))
 (pssx_one (psx_raise rfl tk (pmx_p T.x_NoText rfl)))
 (PSsx.less (Γ2 := [true, false, false, false, false, false, false, false]) pssx_nil (le_of rfl)))
 (pssx_cons (PSx.less (Γ2 := [true, false, false, false, false, false, false, false]) (psx_setE (i := 3) nd rfl (.inl rfl) (pxe_meth0 C_Reader_terms (hr.mono (by decide)) tk (pv 0) rfl)) (le_of rfl))
 (pssx_cons (psx_if (Γ2 := [true, false, false, false, false, false, false, false]) (ptx_cmp (od_eq hr) (PX.rd (px_ix hr (px_rd (pv 2)) px_int (fun _ _ => rfl))) px_str (nomark _))
 (PSsx.less (Γ2 := [true, false, false, false, false, false, false, false]) (pssx_one (PSx.less (Γ2 := [true, false, false, false, false, false, false, false]) (psx_par (i := 1) (j := 3) rfl nd rfl rfl (by decide) rfl rfl (px_fr' (pv 3) rfl) (px_fr' (pv 1) rfl)) (le_of rfl))) (le_of rfl))
 (PSsx.less (Γ2 := [true, false, false, false, false, false, false, false]) pssx_nil (le_of rfl)))
 (pssx_cons (PSx.less (Γ2 := [true, false, false, false, false, false, false, false]) (psx_set (i := 4) nd rfl (.inl rfl) (px_bin (od_add hr) (px_rd (pv 1)) (PX.rd (px_lc (own := [("product", 5), ("top", 6), ("bottom", 7)]) (Γ2 := [true, false, false, false, false, false, false, false]) rfl nd (pix_seq (px_fr' (pv 3) rfl)) (le_of rfl) (by decide) (blkOk_by (N := ["self", "left", "sign", "right", "rows", "product", "top", "bottom"]) (sc := defScope (inClass (topS 31) 10)) (own := [("product", 5), ("top", 6), ("bottom", 7)]) (by decide +kernel)) (fun _ _ _ _ _ _ => (pgx_tup rfl (pgsx_cons (pgx_name (i := 5) nd rfl (.inl rfl)) (pgsx_cons (pgx_name (i := 6) nd rfl (.inl rfl)) (pgsx_cons (pgx_name (i := 7) nd rfl (.inl rfl)) pgsx_nil))))) (by decide) (fun _ _ _ _ _ _ => ptsx_nil) (fun _ _ _ _ _ _ => (px_tup (pax_cons (px_fr' (pv 5) rfl) (pax_cons (px_bin od_sub px_int (px_rd (pv 6))) (pax_cons (px_fr' (pv 7) rfl) pax_nil))))))))) (le_of rfl))
 (pssx_one (psx_retM (pxe_p (px_callF C_compare (hr.mono (by decide)) rfl tk (pax_cons (px_ixC T.d_MEANT rfl (px_rd (pv 2)) (fun _ _ => rfl)) (pax_cons (px_callF C_whole (hr.mono (by decide)) rfl tk (pax_cons (px_fr' (pv 4) rfl) pax_nil)) pax_nil)))) rfl))))))))
theorem q_Reader_unit (T : Tx K mg w) (n : Nat) (C_Reader_unit : MmA P w K mg base (8 + n) "unit" ["Reader"] ["self", "depth"] (r_Reader_unit n)) (C_Reader_ands : MmA P w K mg base (8 + n) "ands" ["Reader"] ["self", "depth"] (r_Reader_ands n)) (C_Reader_sentence : MmA P w K mg base (8 + n) "sentence" ["Reader"] ["self", "depth"] (r_Reader_sentence n)) : MmA P w K mg base (8 + n + 1) "unit" ["Reader"] ["self", "depth"] (r_Reader_unit (n + 1)) := by
  have C_Reader_taken := w_Reader_taken (P := P) (w := w) (base := base) T
  have C_never := w_never (P := P) (w := w) (base := base) T
  have C_Reader_must := w_Reader_must (P := P) (w := w) (base := base) T
  have C_Reader_unknown := w_Reader_unknown (P := P) (w := w) (base := base) T
  have C_some_of := w_some_of (P := P) (w := w) (base := base) T
  have C_all_of := w_all_of (P := P) (w := w) (base := base) T
  have C_Reader_compared := w_Reader_compared (P := P) (w := w) (base := base) T
  have nd : (["self", "depth", "found", "word", "name"] : List Str).Nodup := by decide +kernel
  have S : FnScope ["self", "depth", "found", "word", "name"] ["self", "depth"] (defScope (inClass (topS 31) 11)) := ⟨rfl, rfl, rfl, nd, rfl, by decide +kernel, by decide +kernel⟩
  refine mmA_mk (Γ0 := [true, false, false, false, false]) (Γl := []) (Γ' := [true, false, false, false, false]) T.f_Reader_unit S (by decide) rfl (by decide) rfl (fun _ _ _ _ _ _ us hl => match us, hl with | [_, _], _ => rfl) fun f cdv A outer s H E Hf a hr => ?_
  have tk := takes_of (X := cxD P w K mg base ["self", "depth", "found", "word", "name"] "Reader.unit" (inClass (topS 31) 11) f cdv A outer s H E) rfl rfl rfl rfl
  have hp := passes_of (X := cxD P w K mg base ["self", "depth", "found", "word", "name"] "Reader.unit" (inClass (topS 31) 11) f cdv A outer s H E) rfl
  exact (pssx_cons (psx_if (Γ2 := [true, false, false, false, false]) (ptx_cmp (od_gt hr) (px_rd (pv 1)) (px_glob T.g_DEEPEST rfl) (nomark _))
 (pssx_one (psx_raise rfl tk (pmx_p T.x_NoText rfl)))
 (PSsx.less (Γ2 := [true, false, false, false, false]) pssx_nil (le_of rfl)))
 (pssx_cons (psx_ifE (Γ2 := [true, false, false, false, false]) (pte_val (pxe_meth C_Reader_taken (hr.mono (by omega)) tk (pv 0) rfl (pax_cons px_str pax_nil)))
 (pssx_one (psx_retM (pxe_fn C_never (hr.mono (by omega)) rfl tk (pae_cons (pxe_meth C_Reader_unit (hr.mono (by omega)) tk (pv 0) rfl (pax_cons (px_bin (od_add hr) (px_rd (pv 1)) px_int) pax_nil)) pae_nil)) rfl))
 (PSsx.less (Γ2 := [true, false, false, false, false]) pssx_nil (le_of rfl)))
 (pssx_cons (psx_ifE (Γ2 := [true, false, false, false, false]) (pte_val (pxe_meth C_Reader_taken (hr.mono (by omega)) tk (pv 0) rfl (pax_cons px_str pax_nil)))
 (pssx_cons (PSx.less (Γ2 := [true, false, false, false, false]) (psx_setE (i := 2) nd rfl (.inl rfl) (pxe_meth C_Reader_sentence (hr.mono (by omega)) tk (pv 0) rfl (pax_cons (px_bin (od_add hr) (px_rd (pv 1)) px_int) pax_nil))) (le_of rfl))
 (pssx_cons (psx_exprE (pxe_meth C_Reader_must (hr.mono (by omega)) tk (pv 0) rfl (pax_cons px_str pax_nil)))
 (pssx_one (psx_retM (pxe_p (px_fr' (pv 2) rfl)) rfl))))
 (PSsx.less (Γ2 := [true, false, false, false, false]) pssx_nil (le_of rfl)))
 (pssx_cons (PSx.pre (psx_for (Γ := [true, false, false, false, false]) (Γ1 := [true, false, false, false, false]) hp rfl (pix_seq (px_tup (pax_cons px_str (pax_cons px_str pax_nil)))) (fun F1 => (pgx_name (i := 3) nd rfl (.inl rfl))) gN_nx (fun F1 => (PSsx.less (Γ2 := [true, false, false, false, false]) (pssx_one (psx_ifE (Γ2 := [true, false, false, false, false]) (pte_val (pxe_meth C_Reader_taken (hr.mono (by omega)) tk (pv 0) rfl (pax_cons (px_fr' (pv 3) rfl) pax_nil)))
 (pssx_cons (PSx.less (Γ2 := [true, false, false, false, false]) (psx_setE (i := 4) nd rfl (.inl rfl) (pxe_meth0 C_Reader_unknown (hr.mono (by omega)) tk (pv 0) rfl)) (le_of rfl))
 (pssx_cons (psx_exprE (pxe_meth C_Reader_must (hr.mono (by omega)) tk (pv 0) rfl (pax_cons px_str pax_nil)))
 (pssx_cons (PSx.less (Γ2 := [true, false, false, false, false]) (psx_setE (i := 2) nd rfl (.inl rfl) (pxe_meth C_Reader_sentence (hr.mono (by omega)) tk (pv 0) rfl (pax_cons (px_bin (od_add hr) (px_rd (pv 1)) px_int) pax_nil))) (le_of rfl))
 (pssx_cons (psx_if (Γ2 := [true, false, false, false, false]) (ptx_cmp (od_eq hr) (px_rd (pv 3)) px_str (nomark _))
 (pssx_one (psx_retM (pxe_p (px_callF C_some_of (hr.mono (by omega)) rfl tk (pax_cons (px_fr' (pv 4) rfl) (pax_cons (px_fr' (pv 2) rfl) pax_nil)))) rfl))
 (PSsx.less (Γ2 := [true, false, false, false, false]) pssx_nil (le_of rfl)))
 (pssx_one (psx_retM (pxe_p (px_callF C_all_of (hr.mono (by omega)) rfl tk (pax_cons (px_fr' (pv 4) rfl) (pax_cons (px_fr' (pv 2) rfl) pax_nil)))) rfl))))))
 (PSsx.less (Γ2 := [true, false, false, false, false]) pssx_nil (le_of rfl)))) (le_of rfl)))) (le_of rfl))
 (pssx_cons (psx_ifE (Γ2 := [true, false, false, false, false]) (pte_val (pxe_meth C_Reader_taken (hr.mono (by omega)) tk (pv 0) rfl (pax_cons px_str pax_nil)))
 (pssx_one (psx_retM (pxe_p (px_glob T.g_YES rfl)) rfl))
 (PSsx.less (Γ2 := [true, false, false, false, false]) pssx_nil (le_of rfl)))
 (pssx_cons (psx_ifE (Γ2 := [true, false, false, false, false]) (pte_val (pxe_meth C_Reader_taken (hr.mono (by omega)) tk (pv 0) rfl (pax_cons px_str pax_nil)))
 (pssx_one (psx_retM (pxe_p (px_glob T.g_NO rfl)) rfl))
 (PSsx.less (Γ2 := [true, false, false, false, false]) pssx_nil (le_of rfl)))
 (pssx_one (psx_retM (pxe_meth0 C_Reader_compared (hr.mono (by omega)) tk (pv 0) rfl) rfl))))))))
theorem q_Reader_ands (T : Tx K mg w) (n : Nat) (C_Reader_unit : MmA P w K mg base (8 + n) "unit" ["Reader"] ["self", "depth"] (r_Reader_unit n)) (C_Reader_ands : MmA P w K mg base (8 + n) "ands" ["Reader"] ["self", "depth"] (r_Reader_ands n)) (C_Reader_sentence : MmA P w K mg base (8 + n) "sentence" ["Reader"] ["self", "depth"] (r_Reader_sentence n)) : MmA P w K mg base (8 + n + 1) "ands" ["Reader"] ["self", "depth"] (r_Reader_ands (n + 1)) := by
  have C_Reader_taken := w_Reader_taken (P := P) (w := w) (base := base) T
  have C_both := w_both (P := P) (w := w) (base := base) T
  have nd : (["self", "depth", "parts"] : List Str).Nodup := by decide +kernel
  have S : FnScope ["self", "depth", "parts"] ["self", "depth"] (defScope (inClass (topS 31) 12)) := ⟨rfl, rfl, rfl, nd, rfl, by decide +kernel, by decide +kernel⟩
  refine mmA_mk (Γ0 := [true, false, false]) (Γl := []) (Γ' := [true, false, false]) T.f_Reader_ands S (by decide) rfl (by decide) rfl (fun _ _ _ _ _ _ us hl => match us, hl with | [_, _], _ => rfl) fun f cdv A outer s H E Hf a hr => ?_
  have tk := takes_of (X := cxD P w K mg base ["self", "depth", "parts"] "Reader.ands" (inClass (topS 31) 12) f cdv A outer s H E) rfl rfl rfl rfl
  have hp := passes_of (X := cxD P w K mg base ["self", "depth", "parts"] "Reader.ands" (inClass (topS 31) 12) f cdv A outer s H E) rfl
  exact (pssx_cons (PSx.less (Γ2 := [true, false, true]) (psx_setOE (i := 2) nd rfl (.inl rfl) (pxe_lst (pae_cons (pxe_meth C_Reader_unit (hr.mono (by omega)) tk (pv 0) rfl (pax_cons (px_fr' (pv 1) rfl) pax_nil)) pae_nil)) (by decide)) (le_of rfl))
 (pssx_cons (PSx.pre (psx_whileE (Γ := [true, false, true]) hp (pte_val (pxe_meth C_Reader_taken (hr.mono (by omega)) tk (pv 0) rfl (pax_cons px_str pax_nil))) (PSsx.less (Γ2 := [true, false, true]) (pssx_one (psx_appendE (pv 2) (pxe_meth C_Reader_unit (hr.mono (by omega)) tk (pv 0) rfl (pax_cons (px_fr' (pv 1) rfl) pax_nil)) rfl)) (le_of rfl))) (le_of rfl))
 (pssx_one (psx_retM (pxe_p (px_callF C_both (hr.mono (by omega)) rfl tk (pax_cons (px_fr (pv 2)) pax_nil))) rfl))))
theorem q_Reader_sentence (T : Tx K mg w) (n : Nat) (C_Reader_unit : MmA P w K mg base (8 + n) "unit" ["Reader"] ["self", "depth"] (r_Reader_unit n)) (C_Reader_ands : MmA P w K mg base (8 + n) "ands" ["Reader"] ["self", "depth"] (r_Reader_ands n)) (C_Reader_sentence : MmA P w K mg base (8 + n) "sentence" ["Reader"] ["self", "depth"] (r_Reader_sentence n)) : MmA P w K mg base (8 + n + 1) "sentence" ["Reader"] ["self", "depth"] (r_Reader_sentence (n + 1)) := by
  have C_Reader_taken := w_Reader_taken (P := P) (w := w) (base := base) T
  have C_either := w_either (P := P) (w := w) (base := base) T
  have nd : (["self", "depth", "parts"] : List Str).Nodup := by decide +kernel
  have S : FnScope ["self", "depth", "parts"] ["self", "depth"] (defScope (inClass (topS 31) 13)) := ⟨rfl, rfl, rfl, nd, rfl, by decide +kernel, by decide +kernel⟩
  refine mmA_mk (Γ0 := [true, false, false]) (Γl := []) (Γ' := [true, false, false]) T.f_Reader_sentence S (by decide) rfl (by decide) rfl (fun _ _ _ _ _ _ us hl => match us, hl with | [_, _], _ => rfl) fun f cdv A outer s H E Hf a hr => ?_
  have tk := takes_of (X := cxD P w K mg base ["self", "depth", "parts"] "Reader.sentence" (inClass (topS 31) 13) f cdv A outer s H E) rfl rfl rfl rfl
  have hp := passes_of (X := cxD P w K mg base ["self", "depth", "parts"] "Reader.sentence" (inClass (topS 31) 13) f cdv A outer s H E) rfl
  exact (pssx_cons (PSx.less (Γ2 := [true, false, true]) (psx_setOE (i := 2) nd rfl (.inl rfl) (pxe_lst (pae_cons (pxe_meth C_Reader_ands (hr.mono (by omega)) tk (pv 0) rfl (pax_cons (px_fr' (pv 1) rfl) pax_nil)) pae_nil)) (by decide)) (le_of rfl))
 (pssx_cons (PSx.pre (psx_whileE (Γ := [true, false, true]) hp (pte_val (pxe_meth C_Reader_taken (hr.mono (by omega)) tk (pv 0) rfl (pax_cons px_str pax_nil))) (PSsx.less (Γ2 := [true, false, true]) (pssx_one (psx_appendE (pv 2) (pxe_meth C_Reader_ands (hr.mono (by omega)) tk (pv 0) rfl (pax_cons (px_fr' (pv 1) rfl) pax_nil)) rfl)) (le_of rfl))) (le_of rfl))
 (pssx_one (psx_retM (pxe_p (px_callF C_either (hr.mono (by omega)) rfl tk (pax_cons (px_fr (pv 2)) pax_nil))) rfl))))
theorem qq_Reader_unit (T : Tx K mg w) : ∀ n : Nat, MmA P w K mg base (8 + n) "unit" ["Reader"] ["self", "depth"] (r_Reader_unit n) ∧ MmA P w K mg base (8 + n) "ands" ["Reader"] ["self", "depth"] (r_Reader_ands n) ∧ MmA P w K mg base (8 + n) "sentence" ["Reader"] ["self", "depth"] (r_Reader_sentence n)
  | 0 => ⟨mmA_stuck T.f_Reader_unit (fun _ _ _ _ _ _ us hl => match us, hl with | [_, _], _ => rfl), mmA_stuck T.f_Reader_ands (fun _ _ _ _ _ _ us hl => match us, hl with | [_, _], _ => rfl), mmA_stuck T.f_Reader_sentence (fun _ _ _ _ _ _ us hl => match us, hl with | [_, _], _ => rfl)⟩
  | n + 1 => by
    obtain ⟨C_Reader_unit, C_Reader_ands, C_Reader_sentence⟩ := qq_Reader_unit T n
    exact ⟨q_Reader_unit T n C_Reader_unit C_Reader_ands C_Reader_sentence, q_Reader_ands T n C_Reader_unit C_Reader_ands C_Reader_sentence, q_Reader_sentence T n C_Reader_unit C_Reader_ands C_Reader_sentence⟩
theorem w_Reader_sentence (T : Tx K mg w) : MmA P w K mg base 108 "sentence" ["Reader"] ["self", "depth"] m_Reader_sentence := (qq_Reader_unit T 100).2.2
theorem w_read (T : Tx K mg w) : FnA P w K mg base 109 "read" ["text"] false m_read := by
  have C_Reader___init__ := w_Reader___init__ (P := P) (w := w) (base := base) T
  have C_words_of := w_words_of (P := P) (w := w) (base := base) T
  have C_Reader_sentence := w_Reader_sentence (P := P) (w := w) (base := base) T
  have C_Reader_here := w_Reader_here (P := P) (w := w) (base := base) T
  have nd : (["text", "reader", "found"] : List Str).Nodup := by decide +kernel
  have S : FnScope ["text", "reader", "found"] ["text"] (defScope (topS 32)) := ⟨rfl, rfl, rfl, nd, rfl, by decide +kernel, by decide +kernel⟩
  refine fnA_mk (Γ0 := [false, false, false]) (Γl := []) (Γ' := []) T.f_read S (by decide) (no_own rfl) (fun _ _ _ _ _ _ us hl => match us, hl with | [_], _ => rfl) fun f cdv A outer s H E Hf hr => ?_
  have tk := takes_of (X := cxD P w K mg base ["text", "reader", "found"] "read" (topS 32) f cdv A outer s H E) rfl rfl rfl rfl
  have hp := passes_of (X := cxD P w K mg base ["text", "reader", "found"] "read" (topS 32) f cdv A outer s H E) rfl
  exact (pssx_cons (PSx.less (Γ2 := [false, true, false]) (psx_setO (i := 1) nd rfl (.inl rfl) (px_make C_Reader___init__ T.k_Reader (hr.mono (by decide)) tk rfl (pax_cons (PX.fr (px_callO C_words_of (hr.mono (by decide)) rfl tk (pax_cons (px_fr' (pv 0) rfl) pax_nil))) pax_nil)) (by decide)) (le_of rfl))
 (pssx_cons (PSx.less (Γ2 := [false, true, false]) (psx_setE (i := 2) nd rfl (.inl rfl) (pxe_meth C_Reader_sentence (hr.mono (by decide)) tk (pv 1) rfl (pax_cons px_int pax_nil))) (le_of rfl))
 (pssx_cons (psx_ifE (Γ2 := [false, true, false]) (pte_cmp (od_ne hr) (pxe_meth0 C_Reader_here (hr.mono (by decide)) tk (pv 1) rfl) (pxe_p px_str) (nomark _))
 (pssx_one (psx_raise rfl tk (pmx_p T.x_NoText rfl)))
 (PSsx.less (Γ2 := [false, true, false]) pssx_nil (le_of rfl)))
 (pssx_one (psx_ret (px_fr' (pv 2) rfl))))))
theorem w__law_cell (T : Tx K mg w) : FnA P w K mg base 1 "_law_cell" ["_law_script", "_law_k"] false m__law_cell := by
  have nd : (["_law_script", "_law_k"] : List Str).Nodup := by decide +kernel
  have S : FnScope ["_law_script", "_law_k"] ["_law_script", "_law_k"] (defScope (topS 34)) := ⟨rfl, rfl, rfl, nd, rfl, by decide +kernel, by decide +kernel⟩
  refine fnA_mk (Γ0 := []) (Γl := []) (Γ' := []) T.f__law_cell S (by decide) (no_own rfl) (fun _ _ _ _ _ _ us hl => match us, hl with | [_, _], _ => rfl) fun f cdv A outer s H E Hf hr => ?_
  have tk := takes_of (X := cxD P w K mg base ["_law_script", "_law_k"] "_law_cell" (topS 34) f cdv A outer s H E) rfl rfl rfl rfl
  have hp := passes_of (X := cxD P w K mg base ["_law_script", "_law_k"] "_law_cell" (topS 34) f cdv A outer s H E) rfl
  exact (pssx_cons (psx_if (Γ2 := []) (ptx_cmp (od_lt hr) (px_rd (pv 1)) (px_callB ca_len rfl T.z_len bb_len (pbx_cons (px_rd (pv 0)) pbx_nil)) (nomark _))
 (pssx_one (psx_ret (px_bin od_mod (PX.rd (px_ix hr (px_rd (pv 0)) (px_rd (pv 1)) (fun _ _ => rfl))) (px_bin od_pow px_int px_int))))
 (PSsx.less (Γ2 := []) pssx_nil (le_of rfl)))
 (pssx_one (psx_ret px_int)))
theorem w__law_name (T : Tx K mg w) : FnA P w K mg base 1 "_law_name" ["_law_cell_here"] false m__law_name_v3 := by
  have nd : (["_law_cell_here", "_law_found", "_law_rest", "_law_k"] : List Str).Nodup := by decide +kernel
  have S : FnScope ["_law_cell_here", "_law_found", "_law_rest", "_law_k"] ["_law_cell_here"] (defScope (topS 35)) := ⟨rfl, rfl, rfl, nd, rfl, by decide +kernel, by decide +kernel⟩
  refine fnA_mk (Γ0 := []) (Γl := []) (Γ' := []) T.f__law_name S (by decide) (no_own rfl) (fun _ _ _ _ _ _ us hl => match us, hl with | [_], _ => rfl) fun f cdv A outer s H E Hf hr => ?_
  have tk := takes_of (X := cxD P w K mg base ["_law_cell_here", "_law_found", "_law_rest", "_law_k"] "_law_name" (topS 35) f cdv A outer s H E) rfl rfl rfl rfl
  have hp := passes_of (X := cxD P w K mg base ["_law_cell_here", "_law_found", "_law_rest", "_law_k"] "_law_name" (topS 35) f cdv A outer s H E) rfl
  exact (pssx_cons (PSx.less (Γ2 := []) (psx_set (i := 1) nd rfl (.inl rfl) px_str) (le_of rfl))
 (pssx_cons (PSx.less (Γ2 := []) (psx_set (i := 2) nd rfl (.inl rfl) (px_bin od_div (px_rd (pv 0)) px_int)) (le_of rfl))
 (pssx_cons (PSx.pre (psx_for (Γ := []) (Γ1 := []) hp rfl (pix_range1 rfl T.z_range (pax_cons (px_bin (od_add hr) px_int (px_bin od_mod (px_rd (pv 0)) px_int)) pax_nil)) (fun F1 => (pgx_name (i := 3) nd rfl (.inl rfl))) gN_nx (fun F1 => (PSsx.less (Γ2 := []) (pssx_cons (PSx.less (Γ2 := []) (psx_set (i := 1) nd rfl (.inl rfl) (px_bin (od_add hr) (px_rd (pv 1)) (PX.rd (px_ix hr px_str (px_bin od_mod (px_rd (pv 2)) px_int) (fun _ _ => rfl))))) (le_of rfl))
 (pssx_one (PSx.less (Γ2 := []) (psx_set (i := 2) nd rfl (.inl rfl) (px_bin od_div (px_rd (pv 2)) px_int)) (le_of rfl)))) (le_of rfl)))) (le_of rfl))
 (pssx_cons (psx_if (Γ2 := []) (ptx_cmp (od_eq hr) (px_bin od_mod (px_rd (pv 2)) px_int) px_int (nomark _))
 (PSsx.less (Γ2 := []) (pssx_one (PSx.less (Γ2 := []) (psx_set (i := 1) nd rfl (.inl rfl) (px_bin (od_add hr) (PX.rd (px_ix hr (PX.rd (px_lst (pax_cons px_str (pax_cons px_str (pax_cons px_str (pax_cons px_str (pax_cons px_str (pax_cons px_str (pax_cons px_str pax_nil))))))))) (px_bin od_mod (px_bin od_div (px_rd (pv 2)) px_int) px_int) (fun _ _ => rfl))) (px_slice (px_rd (pv 1)) pox_none (pox_some px_int)))) (le_of rfl))) (le_of rfl))
 (PSsx.less (Γ2 := []) pssx_nil (le_of rfl)))
 (pssx_cons (psx_if (Γ2 := []) (ptx_cmp (od_in hr) (px_rd (pv 1)) (PX.rd (px_lst (pax_cons px_str (pax_cons px_str (pax_cons px_str (pax_cons px_str (pax_cons px_str (pax_cons px_str (pax_cons px_str pax_nil))))))))) (by rfl))
 (PSsx.less (Γ2 := []) (pssx_one (PSx.less (Γ2 := []) (psx_set (i := 1) nd rfl (.inl rfl) (px_bin (od_add hr) (px_rd (pv 1)) px_str)) (le_of rfl))) (le_of rfl))
 (PSsx.less (Γ2 := []) pssx_nil (le_of rfl)))
 (pssx_one (psx_ret (px_fr' (pv 1) rfl))))))))
theorem w__law_nests (T : Tx K mg w) : FnA P w K mg base 2 "_law_nests" ["_law_script", "_law_name_here"] true m__law_nests := by
  have C__law_cell := w__law_cell (P := P) (w := w) (base := base) T
  have nd : (["_law_script", "_law_name_here", "_law_many", "_law_nests_here", "_law_k", "_law_cell_here", "_law_word", "_law_one", "_law_other"] : List Str).Nodup := by decide +kernel
  have S : FnScope ["_law_script", "_law_name_here", "_law_many", "_law_nests_here", "_law_k", "_law_cell_here", "_law_word", "_law_one", "_law_other"] ["_law_script", "_law_name_here"] (defScope (topS 36)) := ⟨rfl, rfl, rfl, nd, rfl, by decide +kernel, by decide +kernel⟩
  refine fnA_mk (Γ0 := [false, false, false, false, false, false, false, false, false]) (Γl := []) (Γ' := []) T.f__law_nests S (by decide) (no_own rfl) (fun _ _ _ _ _ _ us hl => match us, hl with | [_, _], _ => rfl) fun f cdv A outer s H E Hf hr => ?_
  have tk := takes_of (X := cxD P w K mg base ["_law_script", "_law_name_here", "_law_many", "_law_nests_here", "_law_k", "_law_cell_here", "_law_word", "_law_one", "_law_other"] "_law_nests" (topS 36) f cdv A outer s H E) rfl rfl rfl rfl
  have hp := passes_of (X := cxD P w K mg base ["_law_script", "_law_name_here", "_law_many", "_law_nests_here", "_law_k", "_law_cell_here", "_law_word", "_law_one", "_law_other"] "_law_nests" (topS 36) f cdv A outer s H E) rfl
  exact (pssx_cons (PSx.less (Γ2 := [false, false, false, false, false, false, false, false, false]) (psx_set (i := 2) nd rfl (.inl rfl) (px_bin od_mod (px_bin od_div (PX.rd (px_callF C__law_cell (hr.mono (by decide)) rfl tk (pax_cons (px_fr' (pv 0) rfl) (pax_cons px_int pax_nil)))) px_int) px_int)) (le_of rfl))
 (pssx_cons (PSx.less (Γ2 := [false, false, false, true, false, false, false, false, false]) (psx_setO (i := 3) nd rfl (.inl rfl) (px_lst pax_nil) (by decide)) (le_of rfl))
 (pssx_cons (PSx.pre (psx_for (Γ := [false, false, false, true, false, false, false, false, false]) (Γ1 := [false, false, false, true, false, false, false, false, false]) hp rfl (pix_range1 rfl T.z_range (pax_cons (px_fr' (pv 2) rfl) pax_nil)) (fun F1 => (pgx_name (i := 4) nd rfl (.inl rfl))) gN_nx (fun F1 => (PSsx.less (Γ2 := [false, false, false, true, false, false, false, false, false]) (pssx_cons (PSx.less (Γ2 := [false, false, false, true, false, false, false, false, false]) (psx_set (i := 5) nd rfl (.inl rfl) (px_bin (od_mul hr) (px_bin od_div (PX.rd (px_callF C__law_cell (hr.mono (by decide)) rfl tk (pax_cons (px_fr' (pv 0) rfl) (pax_cons px_int pax_nil)))) px_int) (px_bin (od_add hr) (px_rd (pv 4)) px_int))) (le_of rfl))
 (pssx_cons (psx_if (Γ2 := [false, false, false, true, false, false, false, false, false]) (ptx_cmp (od_gt hr) (px_callB ca_len rfl T.z_len bb_len (pbx_cons (px_rd (pv 0)) pbx_nil)) px_int (nomark _))
 (PSsx.less (Γ2 := [false, false, false, true, false, false, false, false, false]) (pssx_one (PSx.less (Γ2 := [false, false, false, true, false, false, false, false, false]) (psx_set (i := 5) nd rfl (.inl rfl) (px_bin (od_add hr) (PX.rd (px_callF C__law_cell (hr.mono (by decide)) rfl tk (pax_cons (px_fr' (pv 0) rfl) (pax_cons (px_bin (od_add hr) px_int (px_bin od_mod (px_rd (pv 4)) (px_bin od_sub (px_callB ca_len rfl T.z_len bb_len (pbx_cons (px_rd (pv 0)) pbx_nil)) px_int))) pax_nil)))) (px_bin od_div (px_rd (pv 4)) (px_bin od_sub (px_callB ca_len rfl T.z_len bb_len (pbx_cons (px_rd (pv 0)) pbx_nil)) px_int)))) (le_of rfl))) (le_of rfl))
 (PSsx.less (Γ2 := [false, false, false, true, false, false, false, false, false]) pssx_nil (le_of rfl)))
 (pssx_cons (PSx.less (Γ2 := [false, false, false, true, false, false, false, false, false]) (psx_set (i := 6) nd rfl (.inl rfl) (px_ix hr (PX.rd (px_lst (pax_cons px_str (pax_cons px_str (pax_cons px_str (pax_cons px_str (pax_cons px_str pax_nil))))))) (px_bin od_mod (px_rd (pv 5)) px_int) (fun _ _ => rfl))) (le_of rfl))
 (pssx_cons (psx_if (Γ2 := [false, false, false, true, false, false, false, false, false]) (ptx_lend (ptx_cmp (od_gt hr) (px_callB ca_len rfl T.z_len bb_len (pbx_cons (PX.rd (px_lc (own := [("_law_one", 7), ("_law_other", 8)]) (Γ2 := [false, false, false, false, false, false, false, false, false]) rfl nd (pix_seq (px_fr (pv 3))) (le_of rfl) (by decide) (blkOk_by (N := ["_law_script", "_law_name_here", "_law_many", "_law_nests_here", "_law_k", "_law_cell_here", "_law_word", "_law_one", "_law_other"]) (sc := defScope (topS 36)) (own := [("_law_one", 7), ("_law_other", 8)]) (by decide +kernel)) (fun _ _ _ _ _ _ => (pgx_tup rfl (pgsx_cons (pgx_name (i := 7) nd rfl (.inl rfl)) (pgsx_cons (pgx_name (i := 8) nd rfl (.inl rfl)) pgsx_nil)))) (by decide) (fun _ _ _ _ _ _ => (ptsx_one (ptx_cmp (od_ne hr) (px_rd (pv 7)) px_str (nomark _)))) (fun _ _ _ _ _ _ => (px_fr' (pv 7) rfl)))) pbx_nil)) px_int (nomark _)))
 (PSsx.less (Γ2 := [false, false, false, true, false, false, false, false, false]) (pssx_one (PSx.less (Γ2 := [false, false, false, true, false, false, false, false, false]) (psx_set (i := 6) nd rfl (.inl rfl) px_str) (le_of rfl))) (le_of rfl))
 (PSsx.less (Γ2 := [false, false, false, true, false, false, false, false, false]) pssx_nil (le_of rfl)))
 (pssx_one (psx_append (pv 3) (px_tup (pax_cons (px_fr' (pv 6) rfl) (pax_cons (px_ix hr (PX.rd (px_lst (pax_cons (px_fr' (pv 1) rfl) (pax_cons (px_slice (px_bin (od_add hr) (px_rd (pv 1)) px_str) pox_none (pox_some px_int)) pax_nil)))) (px_bin od_mod (px_bin od_div (px_rd (pv 5)) px_int) px_int) (fun _ _ => rfl)) pax_nil))) rfl)))))) (le_of rfl)))) (le_of rfl))
 (pssx_one (psx_retV (pv 3) rfl)))))
theorem w__law_text (T : Tx K mg w) : FnA P w K mg base 1 "_law_text" ["_law_nests_here", "_law_unit"] false m__law_text_v3 := by
  have nd : (["_law_nests_here", "_law_unit", "_law_text_here", "_law_word", "_law_name_here"] : List Str).Nodup := by decide +kernel
  have S : FnScope ["_law_nests_here", "_law_unit", "_law_text_here", "_law_word", "_law_name_here"] ["_law_nests_here", "_law_unit"] (defScope (topS 37)) := ⟨rfl, rfl, rfl, nd, rfl, by decide +kernel, by decide +kernel⟩
  refine fnA_mk (Γ0 := []) (Γl := []) (Γ' := []) T.f__law_text S (by decide) (no_own rfl) (fun _ _ _ _ _ _ us hl => match us, hl with | [_, _], _ => rfl) fun f cdv A outer s H E Hf hr => ?_
  have tk := takes_of (X := cxD P w K mg base ["_law_nests_here", "_law_unit", "_law_text_here", "_law_word", "_law_name_here"] "_law_text" (topS 37) f cdv A outer s H E) rfl rfl rfl rfl
  have hp := passes_of (X := cxD P w K mg base ["_law_nests_here", "_law_unit", "_law_text_here", "_law_word", "_law_name_here"] "_law_text" (topS 37) f cdv A outer s H E) rfl
  exact (pssx_cons (PSx.less (Γ2 := []) (psx_set (i := 2) nd rfl (.inl rfl) px_str) (le_of rfl))
 (pssx_cons (PSx.pre (psx_for (Γ := []) (Γ1 := []) hp rfl (pix_seq (px_fr' (pv 0) rfl)) (fun F1 => (pgx_tup rfl (pgsx_cons (pgx_name (i := 3) nd rfl (.inl rfl)) (pgsx_cons (pgx_name (i := 4) nd rfl (.inl rfl)) pgsx_nil)))) (gT_nx (nxs_cons gN_nx (nxs_cons gN_nx nxs_nil))) (fun F1 => (PSsx.less (Γ2 := []) (pssx_one (psx_if (Γ2 := []) (PWx.pt (pwx_or (ptx_cmp (od_eq hr) (px_rd (pv 3)) px_str (nomark _)) (pwx_or1 (ptx_cmp (od_eq hr) (px_rd (pv 3)) px_str (nomark _)))))
 (PSsx.less (Γ2 := []) (pssx_one (PSx.less (Γ2 := []) (psx_set (i := 2) nd rfl (.inl rfl) (px_bin (od_add hr) (px_bin (od_add hr) (px_bin (od_add hr) (px_bin (od_add hr) (px_rd (pv 2)) (px_rd (pv 3))) px_str) (px_rd (pv 4))) px_str)) (le_of rfl))) (le_of rfl))
 (PSsx.less (Γ2 := []) (pssx_one (PSx.less (Γ2 := []) (psx_set (i := 2) nd rfl (.inl rfl) (px_bin (od_add hr) (px_bin (od_add hr) (px_rd (pv 2)) (px_rd (pv 3))) px_str)) (le_of rfl))) (le_of rfl)))) (le_of rfl)))) (le_of rfl))
 (pssx_one (psx_ret (px_bin (od_add hr) (px_bin (od_add hr) (px_rd (pv 2)) (px_rd (pv 1))) (px_bin (od_mulS hr) px_str (px_callB ca_len rfl T.z_len bb_len (pbx_cons (PX.rd (px_lc (own := [("_law_word", 3), ("_law_name_here", 4)]) (Γ2 := []) rfl nd (pix_seq (px_fr' (pv 0) rfl)) (le_of rfl) (by decide) (blkOk_by (N := ["_law_nests_here", "_law_unit", "_law_text_here", "_law_word", "_law_name_here"]) (sc := defScope (topS 37)) (own := [("_law_word", 3), ("_law_name_here", 4)]) (by decide +kernel)) (fun _ _ _ _ _ _ => (pgx_tup rfl (pgsx_cons (pgx_name (i := 3) nd rfl (.inl rfl)) (pgsx_cons (pgx_name (i := 4) nd rfl (.inl rfl)) pgsx_nil)))) (by decide) (fun _ _ _ _ _ _ => (ptsx_one (ptx_cmp (od_eq hr) (px_rd (pv 3)) px_str (nomark _)))) (fun _ _ _ _ _ _ => (px_fr' (pv 3) rfl)))) pbx_nil))))))))
theorem w__law_due (T : Tx K mg w) : FnA P w K mg base 1 "_law_due" ["_law_nests_here", "_law_due_here"] false m__law_due_v8 := by
  have nd : (["_law_nests_here", "_law_due_here", "_law_word", "_law_name_here"] : List Str).Nodup := by decide +kernel
  have S : FnScope ["_law_nests_here", "_law_due_here", "_law_word", "_law_name_here"] ["_law_nests_here", "_law_due_here"] (defScope (topS 38)) := ⟨rfl, rfl, rfl, nd, rfl, by decide +kernel, by decide +kernel⟩
  refine fnA_mk (Γ0 := []) (Γl := []) (Γ' := []) T.f__law_due S (by decide) (no_own rfl) (fun _ _ _ _ _ _ us hl => match us, hl with | [_, _], _ => rfl) fun f cdv A outer s H E Hf hr => ?_
  have tk := takes_of (X := cxD P w K mg base ["_law_nests_here", "_law_due_here", "_law_word", "_law_name_here"] "_law_due" (topS 38) f cdv A outer s H E) rfl rfl rfl rfl
  have hp := passes_of (X := cxD P w K mg base ["_law_nests_here", "_law_due_here", "_law_word", "_law_name_here"] "_law_due" (topS 38) f cdv A outer s H E) rfl
  exact (pssx_cons (PSx.pre (psx_for (Γ := []) (Γ1 := []) hp rfl (pix_rev rfl T.z_reversed (px_fr' (pv 0) rfl)) (fun F1 => (pgx_tup rfl (pgsx_cons (pgx_name (i := 2) nd rfl (.inl rfl)) (pgsx_cons (pgx_name (i := 3) nd rfl (.inl rfl)) pgsx_nil)))) (gT_nx (nxs_cons gN_nx (nxs_cons gN_nx nxs_nil))) (fun F1 => (PSsx.less (Γ2 := []) (pssx_one (psx_if (Γ2 := []) (ptx_cmp (od_eq hr) (px_rd (pv 2)) px_str (nomark _))
 (PSsx.less (Γ2 := []) (pssx_one (PSx.less (Γ2 := []) (psx_set (i := 1) nd rfl (.inl rfl) (px_tup (pax_cons px_str (pax_cons (px_fr' (pv 1) rfl) pax_nil)))) (le_of rfl))) (le_of rfl))
 (PSsx.less (Γ2 := []) (pssx_one (psx_if (Γ2 := []) (ptx_cmp (od_ne hr) (px_rd (pv 2)) px_str (nomark _))
 (PSsx.less (Γ2 := []) (pssx_one (PSx.less (Γ2 := []) (psx_set (i := 1) nd rfl (.inl rfl) (px_tup (pax_cons (px_fr' (pv 2) rfl) (pax_cons (px_fr' (pv 3) rfl) (pax_cons (px_fr' (pv 1) rfl) pax_nil))))) (le_of rfl))) (le_of rfl))
 (PSsx.less (Γ2 := []) pssx_nil (le_of rfl)))) (le_of rfl)))) (le_of rfl)))) (le_of rfl))
 (pssx_one (psx_ret (px_fr' (pv 1) rfl))))
theorem q__law_alike (T : Tx K mg w) (n : Nat) (C__law_alike : FnA P w K mg base (1 + n) "_law_alike" ["_law_found", "_law_due_here"] false (r__law_alike n)) : FnA P w K mg base (1 + n + 1) "_law_alike" ["_law_found", "_law_due_here"] false (r__law_alike (n + 1)) := by
  have nd : (["_law_found", "_law_due_here", "_law_one", "_law_other"] : List Str).Nodup := by decide +kernel
  have S : FnScope ["_law_found", "_law_due_here", "_law_one", "_law_other"] ["_law_found", "_law_due_here"] (defScope (topS 39)) := ⟨rfl, rfl, rfl, nd, rfl, by decide +kernel, by decide +kernel⟩
  refine fnA_mk (Γ0 := []) (Γl := []) (Γ' := []) T.f__law_alike S (by decide) (no_own rfl) (fun _ _ _ _ _ _ us hl => match us, hl with | [_, _], _ => rfl) fun f cdv A outer s H E Hf hr => ?_
  have tk := takes_of (X := cxD P w K mg base ["_law_found", "_law_due_here", "_law_one", "_law_other"] "_law_alike" (topS 39) f cdv A outer s H E) rfl rfl rfl rfl
  have hp := passes_of (X := cxD P w K mg base ["_law_found", "_law_due_here", "_law_one", "_law_other"] "_law_alike" (topS 39) f cdv A outer s H E) rfl
  exact (pssx_cons (psx_if (Γ2 := []) (ptx_val (px_callB ca_isi rfl T.z_isinstance bb_isinstance (pbx_cons (px_rd (pv 1)) (pbx_cons (px_type rfl T.z_tuple bb_tuple) pbx_nil))))
 (pssx_cons (psx_if (Γ2 := []) (PWx.pt (pwx_or (ptx_not (ptx_val (px_callB ca_isi rfl T.z_isinstance bb_isinstance (pbx_cons (px_rd (pv 0)) (pbx_cons (px_type rfl T.z_tuple bb_tuple) pbx_nil))))) (pwx_or1 (ptx_cmp (od_ne hr) (px_callB ca_len rfl T.z_len bb_len (pbx_cons (px_rd (pv 0)) pbx_nil)) (px_callB ca_len rfl T.z_len bb_len (pbx_cons (px_rd (pv 1)) pbx_nil)) (nomark _)))))
 (pssx_one (psx_ret px_bl))
 (PSsx.less (Γ2 := []) pssx_nil (le_of rfl)))
 (pssx_one (psx_ret (px_callB (ca_all rfl) rfl T.z_all bb_all (pbx_cons (PX.rd (px_lc (own := [("_law_one", 2), ("_law_other", 3)]) (Γ2 := []) rfl nd (pix_zip rfl T.z_zip (pax_cons (px_fr' (pv 0) rfl) (pax_cons (px_fr' (pv 1) rfl) pax_nil))) (le_of rfl) (by decide) (blkOk_by (N := ["_law_found", "_law_due_here", "_law_one", "_law_other"]) (sc := defScope (topS 39)) (own := [("_law_one", 2), ("_law_other", 3)]) (by decide +kernel)) (fun _ _ _ _ _ _ => (pgx_tup rfl (pgsx_cons (pgx_name (i := 2) nd rfl (.inl rfl)) (pgsx_cons (pgx_name (i := 3) nd rfl (.inl rfl)) pgsx_nil)))) (by decide) (fun _ _ _ _ _ _ => ptsx_nil) (fun _ _ _ _ _ _ => (px_callF C__law_alike (hr.mono (by omega)) rfl takes_no (pax_cons (px_fr' (pv 2) rfl) (pax_cons (px_fr' (pv 3) rfl) pax_nil)))))) pbx_nil)))))
 (PSsx.less (Γ2 := []) pssx_nil (le_of rfl)))
 (pssx_cons (psx_if (Γ2 := []) (ptx_val (px_callB ca_isi rfl T.z_isinstance bb_isinstance (pbx_cons (px_rd (pv 1)) (pbx_cons (px_type rfl T.z_str bb_str) pbx_nil))))
 (pssx_one (psx_ret (px_and (px_callB ca_isi rfl T.z_isinstance bb_isinstance (pbx_cons (px_rd (pv 0)) (pbx_cons (px_type rfl T.z_str bb_str) pbx_nil))) (px_one (px_cmp (od_eq hr) (px_rd (pv 0)) (px_rd (pv 1)) (nomark _))))))
 (PSsx.less (Γ2 := []) pssx_nil (le_of rfl)))
 (pssx_one (psx_ret (px_and (px_callB ca_isi rfl T.z_isinstance bb_isinstance (pbx_cons (px_rd (pv 0)) (pbx_cons (px_type rfl T.z_int bb_int) pbx_nil))) (px_and (px_not (px_callB ca_isi rfl T.z_isinstance bb_isinstance (pbx_cons (px_rd (pv 0)) (pbx_cons (px_type rfl T.z_bool bb_bool) pbx_nil)))) (px_one (px_cmp (od_eq hr) (px_rd (pv 0)) (px_rd (pv 1)) (nomark _)))))))))
theorem qq__law_alike (T : Tx K mg w) : ∀ n : Nat, FnA P w K mg base (1 + n) "_law_alike" ["_law_found", "_law_due_here"] false (r__law_alike n)
  | 0 => fnA_stuck T.f__law_alike (fun _ _ _ _ _ _ us hl => match us, hl with | [_, _], _ => rfl)
  | n + 1 => by
    obtain C__law_alike := qq__law_alike T n
    exact q__law_alike T n C__law_alike
theorem w__law_alike (T : Tx K mg w) : FnA P w K mg base 61 "_law_alike" ["_law_found", "_law_due_here"] false m__law_alike := (qq__law_alike T 60)
theorem w__law_refused (T : Tx K mg w) : FnA P w K mg base 110 "_law_refused" ["_law_text_here"] false m__law_refused_v2 := by
  have C_read := w_read (P := P) (w := w) (base := base) T
  have nd : (["_law_text_here", "_law_told"] : List Str).Nodup := by decide +kernel
  have S : FnScope ["_law_text_here", "_law_told"] ["_law_text_here"] (defScope (topS 40)) := ⟨rfl, rfl, rfl, nd, rfl, by decide +kernel, by decide +kernel⟩
  refine fnA_mk (Γ0 := []) (Γl := []) (Γ' := []) T.f__law_refused S (by decide) (no_own rfl) (fun _ _ _ _ _ _ us hl => match us, hl with | [_], _ => rfl) fun f cdv A outer s H E Hf hr => ?_
  have tk := takes_of (X := cxD P w K mg base ["_law_text_here", "_law_told"] "_law_refused" (topS 40) f cdv A outer s H E) rfl rfl rfl rfl
  have hp := passes_of (X := cxD P w K mg base ["_law_text_here", "_law_told"] "_law_refused" (topS 40) f cdv A outer s H E) rfl
  exact (pssx_cons (PSx.less (Γ2 := []) (psx_set (i := 1) nd rfl (.inl rfl) px_bl) (le_of rfl))
 (pssx_cons (psx_try (Γ1 := []) (Γ2 := []) rfl rfl rfl nd rfl tk T.xa (fun _ _ _ tkB => (pyx_expr (PX.rd (px_callF C_read (hr.mono (by decide)) rfl tkB (pax_cons (px_fr' (pv 0) rfl) pax_nil))))) (.no rfl rfl (fun _ _ => (PSsx.less (Γ2 := []) (pssx_one (PSx.less (Γ2 := []) (psx_set (i := 1) nd rfl (.inl rfl) px_bl) (le_of rfl))) (le_of rfl))) .nil) (PSsx.less (Γ2 := []) pssx_nil (le_of rfl)))
 (pssx_one (psx_ret (px_fr' (pv 1) rfl)))))
theorem w_law (T : Tx K mg w) : FnA P w K mg base 111 "law" ["_law_script"] false m_law_v38 := by
  have C__law_cell := w__law_cell (P := P) (w := w) (base := base) T
  have C__law_name := w__law_name (P := P) (w := w) (base := base) T
  have C__law_nests := w__law_nests (P := P) (w := w) (base := base) T
  have C__law_text := w__law_text (P := P) (w := w) (base := base) T
  have C__law_refused := w__law_refused (P := P) (w := w) (base := base) T
  have C_read := w_read (P := P) (w := w) (base := base) T
  have C__law_due := w__law_due (P := P) (w := w) (base := base) T
  have C__law_alike := w__law_alike (P := P) (w := w) (base := base) T
  have nd : (["_law_script", "_law_name_here", "_law_number", "_law_at", "_law_nests_here", "_law_unit", "_law_way", "_law_pairs", "_law_due_here"] : List Str).Nodup := by decide +kernel
  have S : FnScope ["_law_script", "_law_name_here", "_law_number", "_law_at", "_law_nests_here", "_law_unit", "_law_way", "_law_pairs", "_law_due_here"] ["_law_script"] (defScope (topS 41)) := ⟨rfl, rfl, rfl, nd, rfl, by decide +kernel, by decide +kernel⟩
  refine fnA_mk (Γ0 := []) (Γl := []) (Γ' := []) T.f_law S (by decide) (no_own rfl) (fun _ _ _ _ _ _ us hl => match us, hl with | [_], _ => rfl) fun f cdv A outer s H E Hf hr => ?_
  have tk := takes_of (X := cxD P w K mg base ["_law_script", "_law_name_here", "_law_number", "_law_at", "_law_nests_here", "_law_unit", "_law_way", "_law_pairs", "_law_due_here"] "law" (topS 41) f cdv A outer s H E) rfl rfl rfl rfl
  have hp := passes_of (X := cxD P w K mg base ["_law_script", "_law_name_here", "_law_number", "_law_at", "_law_nests_here", "_law_unit", "_law_way", "_law_pairs", "_law_due_here"] "law" (topS 41) f cdv A outer s H E) rfl
  exact (pssx_cons (PSx.less (Γ2 := []) (psx_set (i := 1) nd rfl (.inl rfl) (px_callF C__law_name (hr.mono (by decide)) rfl tk (pax_cons (px_callF C__law_cell (hr.mono (by decide)) rfl tk (pax_cons (px_fr' (pv 0) rfl) (pax_cons px_int pax_nil))) pax_nil))) (le_of rfl))
 (pssx_cons (PSx.less (Γ2 := []) (psx_set (i := 2) nd rfl (.inl rfl) (px_bin od_mod (px_bin od_div (PX.rd (px_callF C__law_cell (hr.mono (by decide)) rfl tk (pax_cons (px_fr' (pv 0) rfl) (pax_cons px_int pax_nil)))) px_int) (px_bin od_pow px_int px_int))) (le_of rfl))
 (pssx_cons (PSx.less (Γ2 := []) (psx_set (i := 3) nd rfl (.inl rfl) (px_bin od_mod (PX.rd (px_callF C__law_cell (hr.mono (by decide)) rfl tk (pax_cons (px_fr' (pv 0) rfl) (pax_cons px_int pax_nil)))) px_int)) (le_of rfl))
 (pssx_cons (PSx.less (Γ2 := []) (psx_set (i := 4) nd rfl (.inl rfl) (PX.fr (px_callO C__law_nests (hr.mono (by decide)) rfl tk (pax_cons (px_fr' (pv 0) rfl) (pax_cons (px_fr' (pv 1) rfl) pax_nil))))) (le_of rfl))
 (pssx_cons (PSx.less (Γ2 := []) (psx_set (i := 5) nd rfl (.inl rfl) (px_bin (od_add hr) (px_bin (od_add hr) (px_bin (od_add hr) (px_bin (od_add hr) (px_rd (pv 1)) px_str) (PX.rd (px_ix hr (PX.rd (px_lst (pax_cons px_str (pax_cons px_str (pax_cons px_str (pax_cons px_str (pax_cons px_str (pax_cons px_str pax_nil)))))))) (px_rd (pv 3)) (fun _ _ => rfl)))) px_str) (px_callT ca_str rfl T.z_str bb_str (pbx_cons (px_rd (pv 2)) pbx_nil)))) (le_of rfl))
 (pssx_cons (PSx.less (Γ2 := []) (psx_set (i := 6) nd rfl (.inl rfl) (px_bin od_sub px_int (px_bin (od_mul hr) px_int (px_bin od_div (px_rd (pv 3)) px_int)))) (le_of rfl))
 (pssx_cons (PSx.less (Γ2 := []) (psx_set (i := 7) nd rfl (.inl rfl) (PX.fr (px_lst (pax_cons (px_tup (pax_cons (px_tup (pax_cons (px_tup (pax_cons (px_fr' (pv 1) rfl) (pax_cons px_int pax_nil))) pax_nil)) (pax_cons (px_fr' (pv 6) rfl) pax_nil))) pax_nil)))) (le_of rfl))
 (pssx_cons (psx_if (Γ2 := []) (ptx_cmp (od_ne hr) (px_rd (pv 2)) px_int (nomark _))
 (PSsx.less (Γ2 := []) (pssx_one (PSx.less (Γ2 := []) (psx_set (i := 7) nd rfl (.inl rfl) (px_bin (od_add hr) (PX.rd (px_lst (pax_cons (px_tup (pax_cons (px_tup pax_nil) (pax_cons (px_bin od_sub px_int (px_bin (od_mul hr) (px_rd (pv 6)) (px_rd (pv 2)))) pax_nil))) pax_nil))) (px_rd (pv 7)))) (le_of rfl))) (le_of rfl))
 (PSsx.less (Γ2 := []) pssx_nil (le_of rfl)))
 (pssx_cons (PSx.less (Γ2 := []) (psx_set (i := 8) nd rfl (.inl rfl) (px_tup (pax_cons (px_ix hr (PX.rd (px_lst (pax_cons px_str (pax_cons px_str (pax_cons px_str (pax_cons px_str (pax_cons px_str (pax_cons px_str pax_nil)))))))) (px_rd (pv 3)) (fun _ _ => rfl)) (pax_cons (px_callT ca_tuple rfl T.z_tuple bb_tuple (pbx_cons (px_rd (pv 7)) pbx_nil)) pax_nil)))) (le_of rfl))
 (pssx_cons (psx_if (Γ2 := []) (PWx.pt (pwx_and (ptx_cmp (od_gt hr) (px_callB ca_len rfl T.z_len bb_len (pbx_cons (px_rd (pv 4)) pbx_nil)) px_int (nomark _)) (pwx_and1 (ptx_not (ptx_val (PX.rd (px_callF C__law_refused (hr.mono (by decide)) rfl tk (pax_cons (px_callF C__law_text (hr.mono (by decide)) rfl tk (pax_cons (px_fr' (pv 4) rfl) (pax_cons (px_fr' (pv 5) rfl) pax_nil))) pax_nil))))))))
 (pssx_one (psx_ret px_bl))
 (PSsx.less (Γ2 := []) pssx_nil (le_of rfl)))
 (pssx_cons (PSx.less (Γ2 := []) (psx_set (i := 4) nd rfl (.inl rfl) (px_slice (px_rd (pv 4)) pox_none (pox_some px_int))) (le_of rfl))
 (pssx_one (psx_ret (px_callF C__law_alike (hr.mono (by decide)) rfl tk (pax_cons (px_callF C_read (hr.mono (by decide)) rfl tk (pax_cons (px_callF C__law_text (hr.mono (by decide)) rfl tk (pax_cons (px_fr' (pv 4) rfl) (pax_cons (px_fr' (pv 5) rfl) pax_nil))) pax_nil)) (pax_cons (px_callF C__law_due (hr.mono (by decide)) rfl tk (pax_cons (px_fr' (pv 4) rfl) (pax_cons (px_fr' (pv 8) rfl) pax_nil))) pax_nil))))))))))))))))
end
theorem all_mk {P : Program} {w : World} {K : PySem.W.Frag} {h : Heap} {mg : Str → Option Value} {fa : Addr} (X : K.In h) (G : h.Ns mainGlobals mg) (hfa : mg "law" = some (.ref fa))
    {O_Reader : Addr} (om_Reader : PySem.W.nsIn K mainGlobals "Reader" = some (some (.ref O_Reader))) (op_Reader : PySem.W.plainGet K O_Reader Str.empty = true) (oh_Reader : PySem.W.hasDictIn K O_Reader = true) (oo_Reader : PySem.W.plainOver K O_Reader = true) (os_Reader : PySem.W.findIn K (.ref O_Reader) "__setattr__" = some (some (.builtin "object.__setattr__"))) (ok_Reader : PySem.W.makesIn K O_Reader = true) (oq_Reader : PySem.W.keepIn K (.ref O_Reader) = true)
    (on_Reader_words : PySem.W.findIn K (.ref O_Reader) "words" = some none)
    (on_Reader_at : PySem.W.findIn K (.ref O_Reader) "at" = some none)
    {f0 : Addr} {od0 an0 : Option Addr} {sl0 : Array (Option Value)} {oc0 kV0 dc0 pm0 cd0 ct0 : Value}
    (a0 : PySem.W.nsIn K mainGlobals "form_of" = some (some (.ref f0))) (l0 : K.lookup f0 = some ⟨oc0, od0, .func (PySem.W.fnOf "form_of" "form_of" (defArgs (topS 4)) (defBody (topS 4)) (defScope (topS 4)) .none kV0 dc0 pm0 an0 cd0 ct0), sl0⟩) (c0 : PySem.W.codeIn K cd0 "form_of" = true) (k0 : PySem.W.keepIn K (.ref f0) = true)
    {f1 : Addr} {od1 an1 : Option Addr} {sl1 : Array (Option Value)} {oc1 kV1 dc1 pm1 cd1 ct1 : Value}
    (a1 : PySem.W.nsIn K mainGlobals "product_of" = some (some (.ref f1))) (l1 : K.lookup f1 = some ⟨oc1, od1, .func (PySem.W.fnOf "product_of" "product_of" (defArgs (topS 5)) (defBody (topS 5)) (defScope (topS 5)) .none kV1 dc1 pm1 an1 cd1 ct1), sl1⟩) (c1 : PySem.W.codeIn K cd1 "product_of" = true) (k1 : PySem.W.keepIn K (.ref f1) = true)
    {f2 : Addr} {od2 an2 : Option Addr} {sl2 : Array (Option Value)} {oc2 kV2 dc2 pm2 cd2 ct2 : Value}
    (a2 : PySem.W.nsIn K mainGlobals "names_of" = some (some (.ref f2))) (l2 : K.lookup f2 = some ⟨oc2, od2, .func (PySem.W.fnOf "names_of" "names_of" (defArgs (topS 6)) (defBody (topS 6)) (defScope (topS 6)) .none kV2 dc2 pm2 an2 cd2 ct2), sl2⟩) (c2 : PySem.W.codeIn K cd2 "names_of" = true) (k2 : PySem.W.keepIn K (.ref f2) = true)
    {f3 : Addr} {od3 an3 : Option Addr} {sl3 : Array (Option Value)} {oc3 kV3 dc3 pm3 cd3 ct3 : Value}
    (a3 : PySem.W.nsIn K mainGlobals "divisor" = some (some (.ref f3))) (l3 : K.lookup f3 = some ⟨oc3, od3, .func (PySem.W.fnOf "divisor" "divisor" (defArgs (topS 7)) (defBody (topS 7)) (defScope (topS 7)) .none kV3 dc3 pm3 an3 cd3 ct3), sl3⟩) (c3 : PySem.W.codeIn K cd3 "divisor" = true) (k3 : PySem.W.keepIn K (.ref f3) = true)
    {f4 : Addr} {od4 an4 : Option Addr} {sl4 : Array (Option Value)} {oc4 kV4 dc4 pm4 cd4 ct4 : Value}
    (a4 : PySem.W.nsIn K mainGlobals "lean" = some (some (.ref f4))) (l4 : K.lookup f4 = some ⟨oc4, od4, .func (PySem.W.fnOf "lean" "lean" (defArgs (topS 8)) (defBody (topS 8)) (defScope (topS 8)) .none kV4 dc4 pm4 an4 cd4 ct4), sl4⟩) (c4 : PySem.W.codeIn K cd4 "lean" = true) (k4 : PySem.W.keepIn K (.ref f4) = true)
    {f5 : Addr} {od5 an5 : Option Addr} {sl5 : Array (Option Value)} {oc5 kV5 dc5 pm5 cd5 ct5 : Value}
    (a5 : PySem.W.nsIn K mainGlobals "said" = some (some (.ref f5))) (l5 : K.lookup f5 = some ⟨oc5, od5, .func (PySem.W.fnOf "said" "said" (defArgs (topS 12)) (defBody (topS 12)) (defScope (topS 12)) .none kV5 dc5 pm5 an5 cd5 ct5), sl5⟩) (c5 : PySem.W.codeIn K cd5 "said" = true) (k5 : PySem.W.keepIn K (.ref f5) = true)
    {f6 : Addr} {od6 an6 : Option Addr} {sl6 : Array (Option Value)} {oc6 kV6 dc6 pm6 cd6 ct6 : Value}
    (a6 : PySem.W.nsIn K mainGlobals "compare" = some (some (.ref f6))) (l6 : K.lookup f6 = some ⟨oc6, od6, .func (PySem.W.fnOf "compare" "compare" (defArgs (topS 13)) (defBody (topS 13)) (defScope (topS 13)) .none kV6 dc6 pm6 an6 cd6 ct6), sl6⟩) (c6 : PySem.W.codeIn K cd6 "compare" = true) (k6 : PySem.W.keepIn K (.ref f6) = true)
    {f7 : Addr} {od7 an7 : Option Addr} {sl7 : Array (Option Value)} {oc7 kV7 dc7 pm7 cd7 ct7 : Value}
    (a7 : PySem.W.nsIn K mainGlobals "folded" = some (some (.ref f7))) (l7 : K.lookup f7 = some ⟨oc7, od7, .func (PySem.W.fnOf "folded" "folded" (defArgs (topS 14)) (defBody (topS 14)) (defScope (topS 14)) .none kV7 dc7 pm7 an7 cd7 ct7), sl7⟩) (c7 : PySem.W.codeIn K cd7 "folded" = true) (k7 : PySem.W.keepIn K (.ref f7) = true)
    {f8 : Addr} {od8 an8 : Option Addr} {sl8 : Array (Option Value)} {oc8 kV8 dc8 pm8 cd8 ct8 : Value}
    (a8 : PySem.W.nsIn K mainGlobals "both" = some (some (.ref f8))) (l8 : K.lookup f8 = some ⟨oc8, od8, .func (PySem.W.fnOf "both" "both" (defArgs (topS 15)) (defBody (topS 15)) (defScope (topS 15)) .none kV8 dc8 pm8 an8 cd8 ct8), sl8⟩) (c8 : PySem.W.codeIn K cd8 "both" = true) (k8 : PySem.W.keepIn K (.ref f8) = true)
    {f9 : Addr} {od9 an9 : Option Addr} {sl9 : Array (Option Value)} {oc9 kV9 dc9 pm9 cd9 ct9 : Value}
    (a9 : PySem.W.nsIn K mainGlobals "either" = some (some (.ref f9))) (l9 : K.lookup f9 = some ⟨oc9, od9, .func (PySem.W.fnOf "either" "either" (defArgs (topS 16)) (defBody (topS 16)) (defScope (topS 16)) .none kV9 dc9 pm9 an9 cd9 ct9), sl9⟩) (c9 : PySem.W.codeIn K cd9 "either" = true) (k9 : PySem.W.keepIn K (.ref f9) = true)
    {f10 : Addr} {od10 an10 : Option Addr} {sl10 : Array (Option Value)} {oc10 kV10 dc10 pm10 cd10 ct10 : Value}
    (a10 : PySem.W.nsIn K mainGlobals "never" = some (some (.ref f10))) (l10 : K.lookup f10 = some ⟨oc10, od10, .func (PySem.W.fnOf "never" "never" (defArgs (topS 17)) (defBody (topS 17)) (defScope (topS 17)) .none kV10 dc10 pm10 an10 cd10 ct10), sl10⟩) (c10 : PySem.W.codeIn K cd10 "never" = true) (k10 : PySem.W.keepIn K (.ref f10) = true)
    {f11 : Addr} {od11 an11 : Option Addr} {sl11 : Array (Option Value)} {oc11 kV11 dc11 pm11 cd11 ct11 : Value}
    (a11 : PySem.W.nsIn K mainGlobals "some_of" = some (some (.ref f11))) (l11 : K.lookup f11 = some ⟨oc11, od11, .func (PySem.W.fnOf "some_of" "some_of" (defArgs (topS 18)) (defBody (topS 18)) (defScope (topS 18)) .none kV11 dc11 pm11 an11 cd11 ct11), sl11⟩) (c11 : PySem.W.codeIn K cd11 "some_of" = true) (k11 : PySem.W.keepIn K (.ref f11) = true)
    {f12 : Addr} {od12 an12 : Option Addr} {sl12 : Array (Option Value)} {oc12 kV12 dc12 pm12 cd12 ct12 : Value}
    (a12 : PySem.W.nsIn K mainGlobals "all_of" = some (some (.ref f12))) (l12 : K.lookup f12 = some ⟨oc12, od12, .func (PySem.W.fnOf "all_of" "all_of" (defArgs (topS 19)) (defBody (topS 19)) (defScope (topS 19)) .none kV12 dc12 pm12 an12 cd12 ct12), sl12⟩) (c12 : PySem.W.codeIn K cd12 "all_of" = true) (k12 : PySem.W.keepIn K (.ref f12) = true)
    {f13 : Addr} {od13 an13 : Option Addr} {sl13 : Array (Option Value)} {oc13 kV13 dc13 pm13 cd13 ct13 : Value}
    (a13 : PySem.W.nsIn K mainGlobals "run_of" = some (some (.ref f13))) (l13 : K.lookup f13 = some ⟨oc13, od13, .func (PySem.W.fnOf "run_of" "run_of" (defArgs (topS 27)) (defBody (topS 27)) (defScope (topS 27)) .none kV13 dc13 pm13 an13 cd13 ct13), sl13⟩) (c13 : PySem.W.codeIn K cd13 "run_of" = true) (k13 : PySem.W.keepIn K (.ref f13) = true)
    {f14 : Addr} {od14 an14 : Option Addr} {sl14 : Array (Option Value)} {oc14 kV14 dc14 pm14 cd14 ct14 : Value}
    (a14 : PySem.W.nsIn K mainGlobals "word_from" = some (some (.ref f14))) (l14 : K.lookup f14 = some ⟨oc14, od14, .func (PySem.W.fnOf "word_from" "word_from" (defArgs (topS 28)) (defBody (topS 28)) (defScope (topS 28)) .none kV14 dc14 pm14 an14 cd14 ct14), sl14⟩) (c14 : PySem.W.codeIn K cd14 "word_from" = true) (k14 : PySem.W.keepIn K (.ref f14) = true)
    {f15 : Addr} {od15 an15 : Option Addr} {sl15 : Array (Option Value)} {oc15 kV15 dc15 pm15 cd15 ct15 : Value}
    (a15 : PySem.W.nsIn K mainGlobals "words_of" = some (some (.ref f15))) (l15 : K.lookup f15 = some ⟨oc15, od15, .func (PySem.W.fnOf "words_of" "words_of" (defArgs (topS 29)) (defBody (topS 29)) (defScope (topS 29)) .none kV15 dc15 pm15 an15 cd15 ct15), sl15⟩) (c15 : PySem.W.codeIn K cd15 "words_of" = true) (k15 : PySem.W.keepIn K (.ref f15) = true)
    {f16 : Addr} {od16 an16 : Option Addr} {sl16 : Array (Option Value)} {oc16 kV16 dc16 pm16 cd16 ct16 : Value}
    (a16 : PySem.W.nsIn K mainGlobals "whole" = some (some (.ref f16))) (l16 : K.lookup f16 = some ⟨oc16, od16, .func (PySem.W.fnOf "whole" "whole" (defArgs (topS 30)) (defBody (topS 30)) (defScope (topS 30)) .none kV16 dc16 pm16 an16 cd16 ct16), sl16⟩) (c16 : PySem.W.codeIn K cd16 "whole" = true) (k16 : PySem.W.keepIn K (.ref f16) = true)
    {f17 : Addr} {od17 an17 : Option Addr} {sl17 : Array (Option Value)} {oc17 kV17 dc17 pm17 cd17 ct17 : Value}
    (a17 : PySem.W.nsIn K mainGlobals "read" = some (some (.ref f17))) (l17 : K.lookup f17 = some ⟨oc17, od17, .func (PySem.W.fnOf "read" "read" (defArgs (topS 32)) (defBody (topS 32)) (defScope (topS 32)) .none kV17 dc17 pm17 an17 cd17 ct17), sl17⟩) (c17 : PySem.W.codeIn K cd17 "read" = true) (k17 : PySem.W.keepIn K (.ref f17) = true)
    {f18 : Addr} {od18 an18 : Option Addr} {sl18 : Array (Option Value)} {oc18 kV18 dc18 pm18 cd18 ct18 : Value}
    (a18 : PySem.W.nsIn K mainGlobals "_law_cell" = some (some (.ref f18))) (l18 : K.lookup f18 = some ⟨oc18, od18, .func (PySem.W.fnOf "_law_cell" "_law_cell" (defArgs (topS 34)) (defBody (topS 34)) (defScope (topS 34)) .none kV18 dc18 pm18 an18 cd18 ct18), sl18⟩) (c18 : PySem.W.codeIn K cd18 "_law_cell" = true) (k18 : PySem.W.keepIn K (.ref f18) = true)
    {f19 : Addr} {od19 an19 : Option Addr} {sl19 : Array (Option Value)} {oc19 kV19 dc19 pm19 cd19 ct19 : Value}
    (a19 : PySem.W.nsIn K mainGlobals "_law_name" = some (some (.ref f19))) (l19 : K.lookup f19 = some ⟨oc19, od19, .func (PySem.W.fnOf "_law_name" "_law_name" (defArgs (topS 35)) (defBody (topS 35)) (defScope (topS 35)) .none kV19 dc19 pm19 an19 cd19 ct19), sl19⟩) (c19 : PySem.W.codeIn K cd19 "_law_name" = true) (k19 : PySem.W.keepIn K (.ref f19) = true)
    {f20 : Addr} {od20 an20 : Option Addr} {sl20 : Array (Option Value)} {oc20 kV20 dc20 pm20 cd20 ct20 : Value}
    (a20 : PySem.W.nsIn K mainGlobals "_law_nests" = some (some (.ref f20))) (l20 : K.lookup f20 = some ⟨oc20, od20, .func (PySem.W.fnOf "_law_nests" "_law_nests" (defArgs (topS 36)) (defBody (topS 36)) (defScope (topS 36)) .none kV20 dc20 pm20 an20 cd20 ct20), sl20⟩) (c20 : PySem.W.codeIn K cd20 "_law_nests" = true) (k20 : PySem.W.keepIn K (.ref f20) = true)
    {f21 : Addr} {od21 an21 : Option Addr} {sl21 : Array (Option Value)} {oc21 kV21 dc21 pm21 cd21 ct21 : Value}
    (a21 : PySem.W.nsIn K mainGlobals "_law_text" = some (some (.ref f21))) (l21 : K.lookup f21 = some ⟨oc21, od21, .func (PySem.W.fnOf "_law_text" "_law_text" (defArgs (topS 37)) (defBody (topS 37)) (defScope (topS 37)) .none kV21 dc21 pm21 an21 cd21 ct21), sl21⟩) (c21 : PySem.W.codeIn K cd21 "_law_text" = true) (k21 : PySem.W.keepIn K (.ref f21) = true)
    {f22 : Addr} {od22 an22 : Option Addr} {sl22 : Array (Option Value)} {oc22 kV22 dc22 pm22 cd22 ct22 : Value}
    (a22 : PySem.W.nsIn K mainGlobals "_law_due" = some (some (.ref f22))) (l22 : K.lookup f22 = some ⟨oc22, od22, .func (PySem.W.fnOf "_law_due" "_law_due" (defArgs (topS 38)) (defBody (topS 38)) (defScope (topS 38)) .none kV22 dc22 pm22 an22 cd22 ct22), sl22⟩) (c22 : PySem.W.codeIn K cd22 "_law_due" = true) (k22 : PySem.W.keepIn K (.ref f22) = true)
    {f23 : Addr} {od23 an23 : Option Addr} {sl23 : Array (Option Value)} {oc23 kV23 dc23 pm23 cd23 ct23 : Value}
    (a23 : PySem.W.nsIn K mainGlobals "_law_alike" = some (some (.ref f23))) (l23 : K.lookup f23 = some ⟨oc23, od23, .func (PySem.W.fnOf "_law_alike" "_law_alike" (defArgs (topS 39)) (defBody (topS 39)) (defScope (topS 39)) .none kV23 dc23 pm23 an23 cd23 ct23), sl23⟩) (c23 : PySem.W.codeIn K cd23 "_law_alike" = true) (k23 : PySem.W.keepIn K (.ref f23) = true)
    {f24 : Addr} {od24 an24 : Option Addr} {sl24 : Array (Option Value)} {oc24 kV24 dc24 pm24 cd24 ct24 : Value}
    (a24 : PySem.W.nsIn K mainGlobals "_law_refused" = some (some (.ref f24))) (l24 : K.lookup f24 = some ⟨oc24, od24, .func (PySem.W.fnOf "_law_refused" "_law_refused" (defArgs (topS 40)) (defBody (topS 40)) (defScope (topS 40)) .none kV24 dc24 pm24 an24 cd24 ct24), sl24⟩) (c24 : PySem.W.codeIn K cd24 "_law_refused" = true) (k24 : PySem.W.keepIn K (.ref f24) = true)
    {f25 : Addr} {od25 an25 : Option Addr} {sl25 : Array (Option Value)} {oc25 kV25 dc25 pm25 cd25 ct25 : Value}
    (a25 : PySem.W.nsIn K mainGlobals "law" = some (some (.ref f25))) (l25 : K.lookup f25 = some ⟨oc25, od25, .func (PySem.W.fnOf "law" "law" (defArgs (topS 41)) (defBody (topS 41)) (defScope (topS 41)) .none kV25 dc25 pm25 an25 cd25 ct25), sl25⟩) (c25 : PySem.W.codeIn K cd25 "law" = true) (k25 : PySem.W.keepIn K (.ref f25) = true)
    {f26 : Addr}
    (a26_Reader : PySem.W.findIn K (.ref O_Reader) "__init__" = some (some (.ref f26)))
    {od26 an26 : Option Addr} {sl26 : Array (Option Value)} {oc26 kV26 dc26 pm26 cd26 ct26 : Value}
    (i26 : PySem.W.isFn K (.ref f26) = true) (l26 : K.lookup f26 = some ⟨oc26, od26, .func (PySem.W.fnOf "__init__" "Reader.__init__" (defArgs (inClass (topS 31) 0)) (defBody (inClass (topS 31) 0)) (defScope (inClass (topS 31) 0)) .none kV26 dc26 pm26 an26 cd26 ct26), sl26⟩) (c26 : PySem.W.codeIn K cd26 "Reader.__init__" = true) (k26 : PySem.W.keepIn K (.ref f26) = true)
    {f27 : Addr}
    (a27_Reader : PySem.W.findIn K (.ref O_Reader) "here" = some (some (.ref f27)))
    {od27 an27 : Option Addr} {sl27 : Array (Option Value)} {oc27 kV27 dc27 pm27 cd27 ct27 : Value}
    (i27 : PySem.W.isFn K (.ref f27) = true) (l27 : K.lookup f27 = some ⟨oc27, od27, .func (PySem.W.fnOf "here" "Reader.here" (defArgs (inClass (topS 31) 1)) (defBody (inClass (topS 31) 1)) (defScope (inClass (topS 31) 1)) .none kV27 dc27 pm27 an27 cd27 ct27), sl27⟩) (c27 : PySem.W.codeIn K cd27 "Reader.here" = true) (k27 : PySem.W.keepIn K (.ref f27) = true)
    {f28 : Addr}
    (a28_Reader : PySem.W.findIn K (.ref O_Reader) "taken" = some (some (.ref f28)))
    {od28 an28 : Option Addr} {sl28 : Array (Option Value)} {oc28 kV28 dc28 pm28 cd28 ct28 : Value}
    (i28 : PySem.W.isFn K (.ref f28) = true) (l28 : K.lookup f28 = some ⟨oc28, od28, .func (PySem.W.fnOf "taken" "Reader.taken" (defArgs (inClass (topS 31) 2)) (defBody (inClass (topS 31) 2)) (defScope (inClass (topS 31) 2)) .none kV28 dc28 pm28 an28 cd28 ct28), sl28⟩) (c28 : PySem.W.codeIn K cd28 "Reader.taken" = true) (k28 : PySem.W.keepIn K (.ref f28) = true)
    {f29 : Addr}
    (a29_Reader : PySem.W.findIn K (.ref O_Reader) "must" = some (some (.ref f29)))
    {od29 an29 : Option Addr} {sl29 : Array (Option Value)} {oc29 kV29 dc29 pm29 cd29 ct29 : Value}
    (i29 : PySem.W.isFn K (.ref f29) = true) (l29 : K.lookup f29 = some ⟨oc29, od29, .func (PySem.W.fnOf "must" "Reader.must" (defArgs (inClass (topS 31) 3)) (defBody (inClass (topS 31) 3)) (defScope (inClass (topS 31) 3)) .none kV29 dc29 pm29 an29 cd29 ct29), sl29⟩) (c29 : PySem.W.codeIn K cd29 "Reader.must" = true) (k29 : PySem.W.keepIn K (.ref f29) = true)
    {f30 : Addr}
    (a30_Reader : PySem.W.findIn K (.ref O_Reader) "one_of" = some (some (.ref f30)))
    {od30 an30 : Option Addr} {sl30 : Array (Option Value)} {oc30 kV30 dc30 pm30 cd30 ct30 : Value}
    (i30 : PySem.W.isFn K (.ref f30) = true) (l30 : K.lookup f30 = some ⟨oc30, od30, .func (PySem.W.fnOf "one_of" "Reader.one_of" (defArgs (inClass (topS 31) 4)) (defBody (inClass (topS 31) 4)) (defScope (inClass (topS 31) 4)) .none kV30 dc30 pm30 an30 cd30 ct30), sl30⟩) (c30 : PySem.W.codeIn K cd30 "Reader.one_of" = true) (k30 : PySem.W.keepIn K (.ref f30) = true)
    {f31 : Addr}
    (a31_Reader : PySem.W.findIn K (.ref O_Reader) "unknown" = some (some (.ref f31)))
    {od31 an31 : Option Addr} {sl31 : Array (Option Value)} {oc31 kV31 dc31 pm31 cd31 ct31 : Value}
    (i31 : PySem.W.isFn K (.ref f31) = true) (l31 : K.lookup f31 = some ⟨oc31, od31, .func (PySem.W.fnOf "unknown" "Reader.unknown" (defArgs (inClass (topS 31) 5)) (defBody (inClass (topS 31) 5)) (defScope (inClass (topS 31) 5)) .none kV31 dc31 pm31 an31 cd31 ct31), sl31⟩) (c31 : PySem.W.codeIn K cd31 "Reader.unknown" = true) (k31 : PySem.W.keepIn K (.ref f31) = true)
    {f32 : Addr}
    (a32_Reader : PySem.W.findIn K (.ref O_Reader) "power" = some (some (.ref f32)))
    {od32 an32 : Option Addr} {sl32 : Array (Option Value)} {oc32 kV32 dc32 pm32 cd32 ct32 : Value}
    (i32 : PySem.W.isFn K (.ref f32) = true) (l32 : K.lookup f32 = some ⟨oc32, od32, .func (PySem.W.fnOf "power" "Reader.power" (defArgs (inClass (topS 31) 6)) (defBody (inClass (topS 31) 6)) (defScope (inClass (topS 31) 6)) .none kV32 dc32 pm32 an32 cd32 ct32), sl32⟩) (c32 : PySem.W.codeIn K cd32 "Reader.power" = true) (k32 : PySem.W.keepIn K (.ref f32) = true)
    {f33 : Addr}
    (a33_Reader : PySem.W.findIn K (.ref O_Reader) "fraction" = some (some (.ref f33)))
    {od33 an33 : Option Addr} {sl33 : Array (Option Value)} {oc33 kV33 dc33 pm33 cd33 ct33 : Value}
    (i33 : PySem.W.isFn K (.ref f33) = true) (l33 : K.lookup f33 = some ⟨oc33, od33, .func (PySem.W.fnOf "fraction" "Reader.fraction" (defArgs (inClass (topS 31) 7)) (defBody (inClass (topS 31) 7)) (defScope (inClass (topS 31) 7)) .none kV33 dc33 pm33 an33 cd33 ct33), sl33⟩) (c33 : PySem.W.codeIn K cd33 "Reader.fraction" = true) (k33 : PySem.W.keepIn K (.ref f33) = true)
    {f34 : Addr}
    (a34_Reader : PySem.W.findIn K (.ref O_Reader) "term" = some (some (.ref f34)))
    {od34 an34 : Option Addr} {sl34 : Array (Option Value)} {oc34 kV34 dc34 pm34 cd34 ct34 : Value}
    (i34 : PySem.W.isFn K (.ref f34) = true) (l34 : K.lookup f34 = some ⟨oc34, od34, .func (PySem.W.fnOf "term" "Reader.term" (defArgs (inClass (topS 31) 8)) (defBody (inClass (topS 31) 8)) (defScope (inClass (topS 31) 8)) .none kV34 dc34 pm34 an34 cd34 ct34), sl34⟩) (c34 : PySem.W.codeIn K cd34 "Reader.term" = true) (k34 : PySem.W.keepIn K (.ref f34) = true)
    {f35 : Addr}
    (a35_Reader : PySem.W.findIn K (.ref O_Reader) "terms" = some (some (.ref f35)))
    {od35 an35 : Option Addr} {sl35 : Array (Option Value)} {oc35 kV35 dc35 pm35 cd35 ct35 : Value}
    (i35 : PySem.W.isFn K (.ref f35) = true) (l35 : K.lookup f35 = some ⟨oc35, od35, .func (PySem.W.fnOf "terms" "Reader.terms" (defArgs (inClass (topS 31) 9)) (defBody (inClass (topS 31) 9)) (defScope (inClass (topS 31) 9)) .none kV35 dc35 pm35 an35 cd35 ct35), sl35⟩) (c35 : PySem.W.codeIn K cd35 "Reader.terms" = true) (k35 : PySem.W.keepIn K (.ref f35) = true)
    {f36 : Addr}
    (a36_Reader : PySem.W.findIn K (.ref O_Reader) "compared" = some (some (.ref f36)))
    {od36 an36 : Option Addr} {sl36 : Array (Option Value)} {oc36 kV36 dc36 pm36 cd36 ct36 : Value}
    (i36 : PySem.W.isFn K (.ref f36) = true) (l36 : K.lookup f36 = some ⟨oc36, od36, .func (PySem.W.fnOf "compared" "Reader.compared" (defArgs (inClass (topS 31) 10)) (defBody (inClass (topS 31) 10)) (defScope (inClass (topS 31) 10)) .none kV36 dc36 pm36 an36 cd36 ct36), sl36⟩) (c36 : PySem.W.codeIn K cd36 "Reader.compared" = true) (k36 : PySem.W.keepIn K (.ref f36) = true)
    {f37 : Addr}
    (a37_Reader : PySem.W.findIn K (.ref O_Reader) "unit" = some (some (.ref f37)))
    {od37 an37 : Option Addr} {sl37 : Array (Option Value)} {oc37 kV37 dc37 pm37 cd37 ct37 : Value}
    (i37 : PySem.W.isFn K (.ref f37) = true) (l37 : K.lookup f37 = some ⟨oc37, od37, .func (PySem.W.fnOf "unit" "Reader.unit" (defArgs (inClass (topS 31) 11)) (defBody (inClass (topS 31) 11)) (defScope (inClass (topS 31) 11)) .none kV37 dc37 pm37 an37 cd37 ct37), sl37⟩) (c37 : PySem.W.codeIn K cd37 "Reader.unit" = true) (k37 : PySem.W.keepIn K (.ref f37) = true)
    {f38 : Addr}
    (a38_Reader : PySem.W.findIn K (.ref O_Reader) "ands" = some (some (.ref f38)))
    {od38 an38 : Option Addr} {sl38 : Array (Option Value)} {oc38 kV38 dc38 pm38 cd38 ct38 : Value}
    (i38 : PySem.W.isFn K (.ref f38) = true) (l38 : K.lookup f38 = some ⟨oc38, od38, .func (PySem.W.fnOf "ands" "Reader.ands" (defArgs (inClass (topS 31) 12)) (defBody (inClass (topS 31) 12)) (defScope (inClass (topS 31) 12)) .none kV38 dc38 pm38 an38 cd38 ct38), sl38⟩) (c38 : PySem.W.codeIn K cd38 "Reader.ands" = true) (k38 : PySem.W.keepIn K (.ref f38) = true)
    {f39 : Addr}
    (a39_Reader : PySem.W.findIn K (.ref O_Reader) "sentence" = some (some (.ref f39)))
    {od39 an39 : Option Addr} {sl39 : Array (Option Value)} {oc39 kV39 dc39 pm39 cd39 ct39 : Value}
    (i39 : PySem.W.isFn K (.ref f39) = true) (l39 : K.lookup f39 = some ⟨oc39, od39, .func (PySem.W.fnOf "sentence" "Reader.sentence" (defArgs (inClass (topS 31) 13)) (defBody (inClass (topS 31) 13)) (defScope (inClass (topS 31) 13)) .none kV39 dc39 pm39 an39 cd39 ct39), sl39⟩) (c39 : PySem.W.codeIn K cd39 "Reader.sentence" = true) (k39 : PySem.W.keepIn K (.ref f39) = true)
    (z_abs : PySem.W.nsIn K mainGlobals "abs" = some none)
    (z_all : PySem.W.nsIn K mainGlobals "all" = some none)
    (z_bool : PySem.W.nsIn K mainGlobals "bool" = some none)
    (z_int : PySem.W.nsIn K mainGlobals "int" = some none)
    (z_isinstance : PySem.W.nsIn K mainGlobals "isinstance" = some none)
    (z_len : PySem.W.nsIn K mainGlobals "len" = some none)
    (z_range : PySem.W.nsIn K mainGlobals "range" = some none)
    (z_reversed : PySem.W.nsIn K mainGlobals "reversed" = some none)
    (z_sorted : PySem.W.nsIn K mainGlobals "sorted" = some none)
    (z_str : PySem.W.nsIn K mainGlobals "str" = some none)
    (z_sum : PySem.W.nsIn K mainGlobals "sum" = some none)
    (z_tuple : PySem.W.nsIn K mainGlobals "tuple" = some none)
    (z_zip : PySem.W.nsIn K mainGlobals "zip" = some none)
    {gt_DEEPEST : Tok} (g1_DEEPEST : PySem.W.nsIn K mainGlobals "DEEPEST" = some (some (.int 30 gt_DEEPEST)))
    {gt_FIGURES : Tok} (g1_FIGURES : PySem.W.nsIn K mainGlobals "FIGURES" = some (some (.str "0123456789" gt_FIGURES)))
    {gt_LETTERS : Tok} (g1_LETTERS : PySem.W.nsIn K mainGlobals "LETTERS" = some (some (.str "abcdefghijklmnopqrstuvwxyz" gt_LETTERS)))
    {ga_NO : Addr} {gi_NO : Array Value} {gn_NO : Nat} {gs_NO : Array (Option Value)} (g1_NO : PySem.W.nsIn K mainGlobals "NO" = some (some (.ref ga_NO))) (g2_NO : K.lookup ga_NO = some ⟨.type "tuple", none, .seq gi_NO gn_NO, gs_NO⟩) (g3_NO : gi_NO.size ≤ 1000) (g4_NO : Vals ((["no"] : List Str).map V.str) gi_NO.toList)
    {ga_SIGNS : Addr} {gi_SIGNS : Array Value} {gn_SIGNS : Nat} {gs_SIGNS : Array (Option Value)} (g1_SIGNS : PySem.W.nsIn K mainGlobals "SIGNS" = some (some (.ref ga_SIGNS))) (g2_SIGNS : K.lookup ga_SIGNS = some ⟨.type "tuple", none, .seq gi_SIGNS gn_SIGNS, gs_SIGNS⟩) (g3_SIGNS : gi_SIGNS.size ≤ 1000) (g4_SIGNS : Vals ((["<=", ">=", "/=", "<", ">", "=", "+", "-", "*", "/", "^", "(", ")", ":"] : List Str).map V.str) gi_SIGNS.toList)
    {ga_WORDS : Addr} {gi_WORDS : Array Value} {gn_WORDS : Nat} {gs_WORDS : Array (Option Value)} (g1_WORDS : PySem.W.nsIn K mainGlobals "WORDS" = some (some (.ref ga_WORDS))) (g2_WORDS : K.lookup ga_WORDS = some ⟨.type "tuple", none, .seq gi_WORDS gn_WORDS, gs_WORDS⟩) (g3_WORDS : gi_WORDS.size ≤ 1000) (g4_WORDS : Vals ((["some", "all", "and", "or", "not", "yes", "no"] : List Str).map V.str) gi_WORDS.toList)
    {ga_YES : Addr} {gi_YES : Array Value} {gn_YES : Nat} {gs_YES : Array (Option Value)} (g1_YES : PySem.W.nsIn K mainGlobals "YES" = some (some (.ref ga_YES))) (g2_YES : K.lookup ga_YES = some ⟨.type "tuple", none, .seq gi_YES gn_YES, gs_YES⟩) (g3_YES : gi_YES.size ≤ 1000) (g4_YES : Vals ((["yes"] : List Str).map V.str) gi_YES.toList)
    {da_MEANT : Addr} {de_MEANT : Array DictEntry} {dn_MEANT : Nat} (d1_MEANT : PySem.W.nsIn K mainGlobals "MEANT" = some (some (.ref da_MEANT))) (d2_MEANT : K.lookup da_MEANT = some ⟨.type "dict", none, .dict de_MEANT dn_MEANT, #[]⟩) (d3_MEANT : DentP w de_MEANT [("<", "less"), ("<=", "most"), ("=", "equal"), ("/=", "unlike"), (">", "less"), (">=", "most")]) (d4_MEANT : (da_MEANT == sysModules) = false)
    {C_RealError : Addr} {xnm_RealError xq_RealError : Str} {xN_RealError : Addr} {xbs_RealError xbm_RealError : List Value} {xsn_RealError : List Str} {xsb_RealError : List Value} {xab_RealError : Bool} {xco_RealError : Option Bool} {xdd_RealError : Option Addr} {xk0_RealError xk1_RealError xk2_RealError xk3_RealError xk5_RealError : Option Value}
    (xm_RealError : PySem.W.nsIn K mainGlobals "RealError" = some (some (.ref C_RealError))) (xl_RealError : K.lookup C_RealError = some (excClassObj xnm_RealError xq_RealError C_RealError xN_RealError xbs_RealError xbm_RealError true xsn_RealError xsb_RealError xab_RealError xco_RealError xdd_RealError xk0_RealError xk1_RealError xk2_RealError xk3_RealError xk5_RealError "ValueError.__new__")) (xb_RealError : PySem.HandSPX.refsVE xbm_RealError = true) (xc_RealError : xcB K C_RealError = true)
    {C_NoText : Addr} {xnm_NoText xq_NoText : Str} {xN_NoText : Addr} {xbs_NoText xbm_NoText : List Value} {xsn_NoText : List Str} {xsb_NoText : List Value} {xab_NoText : Bool} {xco_NoText : Option Bool} {xdd_NoText : Option Addr} {xk0_NoText xk1_NoText xk2_NoText xk3_NoText xk5_NoText : Option Value}
    (xm_NoText : PySem.W.nsIn K mainGlobals "NoText" = some (some (.ref C_NoText))) (xl_NoText : K.lookup C_NoText = some (excClassObj xnm_NoText xq_NoText C_NoText xN_NoText xbs_NoText xbm_NoText true xsn_NoText xsb_NoText xab_NoText xco_NoText xdd_NoText xk0_NoText xk1_NoText xk2_NoText xk3_NoText xk5_NoText "ValueError.__new__")) (xb_NoText : PySem.HandSPX.refsVE xbm_NoText = true) (xc_NoText : xcB K C_NoText = true)
    (xb_all : xsB K [("RealError", C_RealError), ("NoText", C_NoText)] = true) (xb_re : xrB K C_RealError = true)
    (xb_xNoText : PySem.W.excIn K C_NoText veT "ValueError.__new__" = true)
    (hL : ∀ ns : List Int, ns.length ≤ 63 → (∀ z ∈ ns, Builtin.Int.intBits z ≤ 1048576) → m_law_v38 [.scr ns] = .ok (.bl true)) :
    ∃ fd : FuncData, (∀ (s : Shared) (v : Value), BindsTo s fd ⟨[v], []⟩ [("_law_script", v)]) ∧ ∀ base : Heap, K.In base → base.Ns mainGlobals mg → FnOk P w K mg base (L2.CX P w) 111 fa fd ["_law_script"] (spLaw K) := by
  have XC_RealError : XC K mg "RealError" C_RealError := xc_mk (PySem.W.mg_of X G xm_RealError) ⟨_, _, _, _, _, _, _, _, _, _, _, _, _, _, _, xl_RealError, xb_RealError⟩ xc_RealError
  have XC_NoText : XC K mg "NoText" C_NoText := xc_mk (PySem.W.mg_of X G xm_NoText) ⟨_, _, _, _, _, _, _, _, _, _, _, _, _, _, _, xl_NoText, xb_NoText⟩ xc_NoText
  have XRE : XR K mg := xr_mk (PySem.W.mg_of X G xm_RealError) xb_re
  have XA : XAll K mg xL37 := xa_mk (cs := [("RealError", C_RealError), ("NoText", C_NoText)]) rfl xb_all (fun p hp => by
    simp only [List.mem_cons, List.not_mem_nil, or_false] at hp
    rcases hp with rfl | rfl
    · exact XC_RealError
    · exact XC_NoText
    )
  have CL_Reader : Cls K O_Reader := ⟨op_Reader, oh_Reader, oo_Reader, os_Reader⟩
  have T : Tx K mg w := { k_Reader := mkt_mk X G om_Reader ok_Reader oq_Reader, caR := cla_mk (mec_cons ⟨O_Reader, PySem.W.mg_of X G om_Reader, CL_Reader, (mec_cons on_Reader_words (mec_cons on_Reader_at mec_nil))⟩ mec_nil), xa := XA, x_NoText := ⟨C_NoText, XC_NoText, xb_xNoText⟩, d_MEANT := dkT_of X G d1_MEANT d2_MEANT d3_MEANT d4_MEANT, z_abs := PySem.W.mg_none_of X G z_abs, z_all := PySem.W.mg_none_of X G z_all, z_bool := PySem.W.mg_none_of X G z_bool, z_int := PySem.W.mg_none_of X G z_int, z_isinstance := PySem.W.mg_none_of X G z_isinstance, z_len := PySem.W.mg_none_of X G z_len, z_range := PySem.W.mg_none_of X G z_range, z_reversed := PySem.W.mg_none_of X G z_reversed, z_sorted := PySem.W.mg_none_of X G z_sorted, z_str := PySem.W.mg_none_of X G z_str, z_sum := PySem.W.mg_none_of X G z_sum, z_tuple := PySem.W.mg_none_of X G z_tuple, z_zip := PySem.W.mg_none_of X G z_zip, g_DEEPEST := glT_int X G g1_DEEPEST, g_FIGURES := glT_str X G g1_FIGURES, g_LETTERS := glT_str X G g1_LETTERS, g_NO := glT_tup X G g1_NO g2_NO g3_NO g4_NO, g_SIGNS := glT_tup X G g1_SIGNS g2_SIGNS g3_SIGNS g4_SIGNS, g_WORDS := glT_tup X G g1_WORDS g2_WORDS g3_WORDS g4_WORDS, g_YES := glT_tup X G g1_YES g2_YES g3_YES g4_YES, f_form_of := fnT_of X G a0 l0 c0 k0, f_product_of := fnT_of X G a1 l1 c1 k1, f_names_of := fnT_of X G a2 l2 c2 k2, f_divisor := fnT_of X G a3 l3 c3 k3, f_lean := fnT_of X G a4 l4 c4 k4, f_said := fnT_of X G a5 l5 c5 k5, f_compare := fnT_of X G a6 l6 c6 k6, f_folded := fnT_of X G a7 l7 c7 k7, f_both := fnT_of X G a8 l8 c8 k8, f_either := fnT_of X G a9 l9 c9 k9, f_never := fnT_of X G a10 l10 c10 k10, f_some_of := fnT_of X G a11 l11 c11 k11, f_all_of := fnT_of X G a12 l12 c12 k12, f_run_of := fnT_of X G a13 l13 c13 k13, f_word_from := fnT_of X G a14 l14 c14 k14, f_words_of := fnT_of X G a15 l15 c15 k15, f_whole := fnT_of X G a16 l16 c16 k16, f_read := fnT_of X G a17 l17 c17 k17, f__law_cell := fnT_of X G a18 l18 c18 k18, f__law_name := fnT_of X G a19 l19 c19 k19, f__law_nests := fnT_of X G a20 l20 c20 k20, f__law_text := fnT_of X G a21 l21 c21 k21, f__law_due := fnT_of X G a22 l22 c22 k22, f__law_alike := fnT_of X G a23 l23 c23 k23, f__law_refused := fnT_of X G a24 l24 c24 k24, f_law := fnT_of X G a25 l25 c25 k25, f_Reader___init__ := met_mk (fun_mk (st := (inClass (topS 31) 0)) l26 c26 k26) (mec_cons (mec_mk X G om_Reader CL_Reader a26_Reader i26 k26) mec_nil), f_Reader_here := met_mk (fun_mk (st := (inClass (topS 31) 1)) l27 c27 k27) (mec_cons (mec_mk X G om_Reader CL_Reader a27_Reader i27 k27) mec_nil), f_Reader_taken := met_mk (fun_mk (st := (inClass (topS 31) 2)) l28 c28 k28) (mec_cons (mec_mk X G om_Reader CL_Reader a28_Reader i28 k28) mec_nil), f_Reader_must := met_mk (fun_mk (st := (inClass (topS 31) 3)) l29 c29 k29) (mec_cons (mec_mk X G om_Reader CL_Reader a29_Reader i29 k29) mec_nil), f_Reader_one_of := met_mk (fun_mk (st := (inClass (topS 31) 4)) l30 c30 k30) (mec_cons (mec_mk X G om_Reader CL_Reader a30_Reader i30 k30) mec_nil), f_Reader_unknown := met_mk (fun_mk (st := (inClass (topS 31) 5)) l31 c31 k31) (mec_cons (mec_mk X G om_Reader CL_Reader a31_Reader i31 k31) mec_nil), f_Reader_power := met_mk (fun_mk (st := (inClass (topS 31) 6)) l32 c32 k32) (mec_cons (mec_mk X G om_Reader CL_Reader a32_Reader i32 k32) mec_nil), f_Reader_fraction := met_mk (fun_mk (st := (inClass (topS 31) 7)) l33 c33 k33) (mec_cons (mec_mk X G om_Reader CL_Reader a33_Reader i33 k33) mec_nil), f_Reader_term := met_mk (fun_mk (st := (inClass (topS 31) 8)) l34 c34 k34) (mec_cons (mec_mk X G om_Reader CL_Reader a34_Reader i34 k34) mec_nil), f_Reader_terms := met_mk (fun_mk (st := (inClass (topS 31) 9)) l35 c35 k35) (mec_cons (mec_mk X G om_Reader CL_Reader a35_Reader i35 k35) mec_nil), f_Reader_compared := met_mk (fun_mk (st := (inClass (topS 31) 10)) l36 c36 k36) (mec_cons (mec_mk X G om_Reader CL_Reader a36_Reader i36 k36) mec_nil), f_Reader_unit := met_mk (fun_mk (st := (inClass (topS 31) 11)) l37 c37 k37) (mec_cons (mec_mk X G om_Reader CL_Reader a37_Reader i37 k37) mec_nil), f_Reader_ands := met_mk (fun_mk (st := (inClass (topS 31) 12)) l38 c38 k38) (mec_cons (mec_mk X G om_Reader CL_Reader a38_Reader i38 k38) mec_nil), f_Reader_sentence := met_mk (fun_mk (st := (inClass (topS 31) 13)) l39 c39 k39) (mec_cons (mec_mk X G om_Reader CL_Reader a39_Reader i39 k39) mec_nil) }
  exact law_end T.f_law hfa (fun _ _ _ _ _ _ us hl => match us, hl with | [_], _ => rfl) (fun base => w_law T) hL
theorem p2 : dPow (.int 10) (.int 2) = .ok (.int 100) := chk_pos ⟨by decide, by decide, by decide⟩
theorem p3 : dPow (.int 10) (.int 3) = .ok (.int 1000) := chk_pos ⟨by decide, by decide, by decide⟩
theorem p4 : dPow (.int 10) (.int 4) = .ok (.int 10000) := chk_pos ⟨by decide, by decide, by decide⟩
theorem p5 : dPow (.int 10) (.int 5) = .ok (.int 100000) := chk_pos ⟨by decide, by decide, by decide⟩
theorem p6 : dPow (.int 10) (.int 6) = .ok (.int 1000000) := chk_pos ⟨by decide, by decide, by decide⟩
theorem p7 : dPow (.int 10) (.int 7) = .ok (.int 10000000) := chk_pos ⟨by decide, by decide, by decide⟩
theorem p8 : dPow (.int 10) (.int 8) = .ok (.int 100000000) := chk_pos ⟨by decide, by decide, by decide⟩
theorem p9 : dPow (.int 10) (.int 9) = .ok (.int 1000000000) := chk_pos ⟨by decide, by decide, by decide⟩
theorem p10 : dPow (.int 10) (.int 10) = .ok (.int 10000000000) := chk_pos ⟨by decide, by decide, by decide⟩
theorem p11 : dPow (.int 10) (.int 11) = .ok (.int 100000000000) := chk_pos ⟨by decide, by decide, by decide⟩
theorem p12 : dPow (.int 10) (.int 12) = .ok (.int 1000000000000) := chk_pos ⟨by decide, by decide, by decide⟩
theorem p13 : dPow (.int 10) (.int 13) = .ok (.int 10000000000000) := chk_pos ⟨by decide, by decide, by decide⟩
theorem p14 : dPow (.int 10) (.int 14) = .ok (.int 100000000000000) := chk_pos ⟨by decide, by decide, by decide⟩
theorem p15 : dPow (.int 10) (.int 15) = .ok (.int 1000000000000000) := chk_pos ⟨by decide, by decide, by decide⟩
theorem p16 : dPow (.int 10) (.int 16) = .ok (.int 10000000000000000) := chk_pos ⟨by decide, by decide, by decide⟩
theorem p18 : dPow (.int 10) (.int 18) = .ok (.int 1000000000000000000) := chk_pos ⟨by decide, by decide, by decide⟩
theorem p20 : dPow (.int 10) (.int 20) = .ok (.int 100000000000000000000) := chk_pos ⟨by decide, by decide, by decide⟩
theorem p22 : dPow (.int 10) (.int 22) = .ok (.int 10000000000000000000000) := chk_pos ⟨by decide, by decide, by decide⟩
theorem p24 : dPow (.int 10) (.int 24) = .ok (.int 1000000000000000000000000) := chk_pos ⟨by decide, by decide, by decide⟩
theorem p25 : dPow (.int 10) (.int 25) = .ok (.int 10000000000000000000000000) := chk_pos ⟨by decide, by decide, by decide⟩
theorem p26 : dPow (.int 10) (.int 26) = .ok (.int 100000000000000000000000000) := chk_pos ⟨by decide, by decide, by decide⟩
theorem p27 : dPow (.int 10) (.int 27) = .ok (.int 1000000000000000000000000000) := chk_pos ⟨by decide, by decide, by decide⟩
theorem p28 : dPow (.int 10) (.int 28) = .ok (.int 10000000000000000000000000000) := chk_pos ⟨by decide, by decide, by decide⟩
theorem p29 : dPow (.int 10) (.int 29) = .ok (.int 100000000000000000000000000000) := chk_pos ⟨by decide, by decide, by decide⟩
theorem p30 : dPow (.int 10) (.int 30) = .ok (.int 1000000000000000000000000000000) := chk_pos ⟨by decide, by decide, by decide⟩
theorem p35 : dPow (.int 10) (.int 35) = .ok (.int 100000000000000000000000000000000000) := chk_pos ⟨by decide, by decide, by decide⟩
theorem p40 : dPow (.int 10) (.int 40) = .ok (.int 10000000000000000000000000000000000000000) := chk_pos ⟨by decide, by decide, by decide⟩
theorem p60 : dPow (.int 10) (.int 60) = .ok (.int 1000000000000000000000000000000000000000000000000000000000000) := chk_pos ⟨by decide, by decide, by decide⟩
theorem dEq_lit {a b : Str} (ha : PyData.strOk a = true) (hb : PyData.strOk b = true) : dEq (.str a) (.str b) = .ok (.bl (a == b)) := by
  have e : PyData.eqv (.str a) (.str b) = (a == b) := by rw [PyData.eqv]
  have sh : ∀ {l : Str}, PyData.strOk l = true → SeqAt.shaped (.str l) = true := fun {l} h => by
    unfold SeqAt.shaped
    exact Bool.and_eq_true_iff.mpr ⟨h, rfl⟩
  show chk _ (Out.ok (D.bl (PyData.eqv (.str a) (.str b)))) = _
  rw [e]
  exact chk_pos ⟨sh ha, sh hb⟩
theorem dNe_lit {a b : Str} (ha : PyData.strOk a = true) (hb : PyData.strOk b = true) : dNe (.str a) (.str b) = .ok (.bl (!(a == b))) := by
  have e : PyData.eqv (.str a) (.str b) = (a == b) := by rw [PyData.eqv]
  have sh : ∀ {l : Str}, PyData.strOk l = true → SeqAt.shaped (.str l) = true := fun {l} h => by
    unfold SeqAt.shaped
    exact Bool.and_eq_true_iff.mpr ⟨h, rfl⟩
  show chk _ (Out.ok (D.bl (!PyData.eqv (.str a) (.str b)))) = _
  rw [e]
  exact chk_pos ⟨sh ha, sh hb⟩
theorem dIn_lit (a : Str) (l : List Str) : dIn (.str a) (.tup (l.map .str)) = .ok (.bl (l.any fun y => y == a)) := by
  show ((dInL false (.str a) (.tup (l.map .str))).or _) = _
  have : dInL false (.str a) (.tup (l.map .str)) = .ok (.bl (l.any fun y => y == a)) := by
    show chk _ (Out.ok (D.bl (if false = true then _ else _))) = _
    rw [chk_pos ⟨rfl, by simp [List.all_map, flatD]⟩, if_neg Bool.false_ne_true, List.any_map]
    rfl
  rw [this]; rfl
theorem ok_less : PyData.strOk ("less" : Str) = true := by decide +kernel
theorem ok_most : PyData.strOk ("most" : Str) = true := by decide +kernel
theorem ok_equal : PyData.strOk ("equal" : Str) = true := by decide +kernel
theorem ok_unlike : PyData.strOk ("unlike" : Str) = true := by decide +kernel
theorem ok_both : PyData.strOk ("both" : Str) = true := by decide +kernel
theorem ok_either : PyData.strOk ("either" : Str) = true := by decide +kernel
theorem ok_not : PyData.strOk ("not" : Str) = true := by decide +kernel
theorem ok_some : PyData.strOk ("some" : Str) = true := by decide +kernel
theorem ok_all : PyData.strOk ("all" : Str) = true := by decide +kernel
theorem ok_yes : PyData.strOk ("yes" : Str) = true := by decide +kernel
theorem ok_no : PyData.strOk ("no" : Str) = true := by decide +kernel
theorem kw_less_less : dEq (.str "less") (.str "less") = .ok (.bl true) := (dEq_lit ok_less ok_less).trans (congrArg (fun b => Out.ok (D.bl b)) (by decide +kernel))
theorem kn_less_less : dNe (.str "less") (.str "less") = .ok (.bl false) := (dNe_lit ok_less ok_less).trans (congrArg (fun b => Out.ok (D.bl b)) (by decide +kernel))
theorem kw_less_most : dEq (.str "less") (.str "most") = .ok (.bl false) := (dEq_lit ok_less ok_most).trans (congrArg (fun b => Out.ok (D.bl b)) (by decide +kernel))
theorem kn_less_most : dNe (.str "less") (.str "most") = .ok (.bl true) := (dNe_lit ok_less ok_most).trans (congrArg (fun b => Out.ok (D.bl b)) (by decide +kernel))
theorem kw_less_equal : dEq (.str "less") (.str "equal") = .ok (.bl false) := (dEq_lit ok_less ok_equal).trans (congrArg (fun b => Out.ok (D.bl b)) (by decide +kernel))
theorem kn_less_equal : dNe (.str "less") (.str "equal") = .ok (.bl true) := (dNe_lit ok_less ok_equal).trans (congrArg (fun b => Out.ok (D.bl b)) (by decide +kernel))
theorem kw_less_unlike : dEq (.str "less") (.str "unlike") = .ok (.bl false) := (dEq_lit ok_less ok_unlike).trans (congrArg (fun b => Out.ok (D.bl b)) (by decide +kernel))
theorem kn_less_unlike : dNe (.str "less") (.str "unlike") = .ok (.bl true) := (dNe_lit ok_less ok_unlike).trans (congrArg (fun b => Out.ok (D.bl b)) (by decide +kernel))
theorem kw_less_both : dEq (.str "less") (.str "both") = .ok (.bl false) := (dEq_lit ok_less ok_both).trans (congrArg (fun b => Out.ok (D.bl b)) (by decide +kernel))
theorem kn_less_both : dNe (.str "less") (.str "both") = .ok (.bl true) := (dNe_lit ok_less ok_both).trans (congrArg (fun b => Out.ok (D.bl b)) (by decide +kernel))
theorem kw_less_either : dEq (.str "less") (.str "either") = .ok (.bl false) := (dEq_lit ok_less ok_either).trans (congrArg (fun b => Out.ok (D.bl b)) (by decide +kernel))
theorem kn_less_either : dNe (.str "less") (.str "either") = .ok (.bl true) := (dNe_lit ok_less ok_either).trans (congrArg (fun b => Out.ok (D.bl b)) (by decide +kernel))
theorem kw_less_not : dEq (.str "less") (.str "not") = .ok (.bl false) := (dEq_lit ok_less ok_not).trans (congrArg (fun b => Out.ok (D.bl b)) (by decide +kernel))
theorem kn_less_not : dNe (.str "less") (.str "not") = .ok (.bl true) := (dNe_lit ok_less ok_not).trans (congrArg (fun b => Out.ok (D.bl b)) (by decide +kernel))
theorem kw_less_some : dEq (.str "less") (.str "some") = .ok (.bl false) := (dEq_lit ok_less ok_some).trans (congrArg (fun b => Out.ok (D.bl b)) (by decide +kernel))
theorem kn_less_some : dNe (.str "less") (.str "some") = .ok (.bl true) := (dNe_lit ok_less ok_some).trans (congrArg (fun b => Out.ok (D.bl b)) (by decide +kernel))
theorem kw_less_all : dEq (.str "less") (.str "all") = .ok (.bl false) := (dEq_lit ok_less ok_all).trans (congrArg (fun b => Out.ok (D.bl b)) (by decide +kernel))
theorem kn_less_all : dNe (.str "less") (.str "all") = .ok (.bl true) := (dNe_lit ok_less ok_all).trans (congrArg (fun b => Out.ok (D.bl b)) (by decide +kernel))
theorem kw_less_yes : dEq (.str "less") (.str "yes") = .ok (.bl false) := (dEq_lit ok_less ok_yes).trans (congrArg (fun b => Out.ok (D.bl b)) (by decide +kernel))
theorem kn_less_yes : dNe (.str "less") (.str "yes") = .ok (.bl true) := (dNe_lit ok_less ok_yes).trans (congrArg (fun b => Out.ok (D.bl b)) (by decide +kernel))
theorem kw_less_no : dEq (.str "less") (.str "no") = .ok (.bl false) := (dEq_lit ok_less ok_no).trans (congrArg (fun b => Out.ok (D.bl b)) (by decide +kernel))
theorem kn_less_no : dNe (.str "less") (.str "no") = .ok (.bl true) := (dNe_lit ok_less ok_no).trans (congrArg (fun b => Out.ok (D.bl b)) (by decide +kernel))
theorem kw_most_less : dEq (.str "most") (.str "less") = .ok (.bl false) := (dEq_lit ok_most ok_less).trans (congrArg (fun b => Out.ok (D.bl b)) (by decide +kernel))
theorem kn_most_less : dNe (.str "most") (.str "less") = .ok (.bl true) := (dNe_lit ok_most ok_less).trans (congrArg (fun b => Out.ok (D.bl b)) (by decide +kernel))
theorem kw_most_most : dEq (.str "most") (.str "most") = .ok (.bl true) := (dEq_lit ok_most ok_most).trans (congrArg (fun b => Out.ok (D.bl b)) (by decide +kernel))
theorem kn_most_most : dNe (.str "most") (.str "most") = .ok (.bl false) := (dNe_lit ok_most ok_most).trans (congrArg (fun b => Out.ok (D.bl b)) (by decide +kernel))
theorem kw_most_equal : dEq (.str "most") (.str "equal") = .ok (.bl false) := (dEq_lit ok_most ok_equal).trans (congrArg (fun b => Out.ok (D.bl b)) (by decide +kernel))
theorem kn_most_equal : dNe (.str "most") (.str "equal") = .ok (.bl true) := (dNe_lit ok_most ok_equal).trans (congrArg (fun b => Out.ok (D.bl b)) (by decide +kernel))
theorem kw_most_unlike : dEq (.str "most") (.str "unlike") = .ok (.bl false) := (dEq_lit ok_most ok_unlike).trans (congrArg (fun b => Out.ok (D.bl b)) (by decide +kernel))
theorem kn_most_unlike : dNe (.str "most") (.str "unlike") = .ok (.bl true) := (dNe_lit ok_most ok_unlike).trans (congrArg (fun b => Out.ok (D.bl b)) (by decide +kernel))
theorem kw_most_both : dEq (.str "most") (.str "both") = .ok (.bl false) := (dEq_lit ok_most ok_both).trans (congrArg (fun b => Out.ok (D.bl b)) (by decide +kernel))
theorem kn_most_both : dNe (.str "most") (.str "both") = .ok (.bl true) := (dNe_lit ok_most ok_both).trans (congrArg (fun b => Out.ok (D.bl b)) (by decide +kernel))
theorem kw_most_either : dEq (.str "most") (.str "either") = .ok (.bl false) := (dEq_lit ok_most ok_either).trans (congrArg (fun b => Out.ok (D.bl b)) (by decide +kernel))
theorem kn_most_either : dNe (.str "most") (.str "either") = .ok (.bl true) := (dNe_lit ok_most ok_either).trans (congrArg (fun b => Out.ok (D.bl b)) (by decide +kernel))
theorem kw_most_not : dEq (.str "most") (.str "not") = .ok (.bl false) := (dEq_lit ok_most ok_not).trans (congrArg (fun b => Out.ok (D.bl b)) (by decide +kernel))
theorem kn_most_not : dNe (.str "most") (.str "not") = .ok (.bl true) := (dNe_lit ok_most ok_not).trans (congrArg (fun b => Out.ok (D.bl b)) (by decide +kernel))
theorem kw_most_some : dEq (.str "most") (.str "some") = .ok (.bl false) := (dEq_lit ok_most ok_some).trans (congrArg (fun b => Out.ok (D.bl b)) (by decide +kernel))
theorem kn_most_some : dNe (.str "most") (.str "some") = .ok (.bl true) := (dNe_lit ok_most ok_some).trans (congrArg (fun b => Out.ok (D.bl b)) (by decide +kernel))
theorem kw_most_all : dEq (.str "most") (.str "all") = .ok (.bl false) := (dEq_lit ok_most ok_all).trans (congrArg (fun b => Out.ok (D.bl b)) (by decide +kernel))
theorem kn_most_all : dNe (.str "most") (.str "all") = .ok (.bl true) := (dNe_lit ok_most ok_all).trans (congrArg (fun b => Out.ok (D.bl b)) (by decide +kernel))
theorem kw_most_yes : dEq (.str "most") (.str "yes") = .ok (.bl false) := (dEq_lit ok_most ok_yes).trans (congrArg (fun b => Out.ok (D.bl b)) (by decide +kernel))
theorem kn_most_yes : dNe (.str "most") (.str "yes") = .ok (.bl true) := (dNe_lit ok_most ok_yes).trans (congrArg (fun b => Out.ok (D.bl b)) (by decide +kernel))
theorem kw_most_no : dEq (.str "most") (.str "no") = .ok (.bl false) := (dEq_lit ok_most ok_no).trans (congrArg (fun b => Out.ok (D.bl b)) (by decide +kernel))
theorem kn_most_no : dNe (.str "most") (.str "no") = .ok (.bl true) := (dNe_lit ok_most ok_no).trans (congrArg (fun b => Out.ok (D.bl b)) (by decide +kernel))
theorem kw_equal_less : dEq (.str "equal") (.str "less") = .ok (.bl false) := (dEq_lit ok_equal ok_less).trans (congrArg (fun b => Out.ok (D.bl b)) (by decide +kernel))
theorem kn_equal_less : dNe (.str "equal") (.str "less") = .ok (.bl true) := (dNe_lit ok_equal ok_less).trans (congrArg (fun b => Out.ok (D.bl b)) (by decide +kernel))
theorem kw_equal_most : dEq (.str "equal") (.str "most") = .ok (.bl false) := (dEq_lit ok_equal ok_most).trans (congrArg (fun b => Out.ok (D.bl b)) (by decide +kernel))
theorem kn_equal_most : dNe (.str "equal") (.str "most") = .ok (.bl true) := (dNe_lit ok_equal ok_most).trans (congrArg (fun b => Out.ok (D.bl b)) (by decide +kernel))
theorem kw_equal_equal : dEq (.str "equal") (.str "equal") = .ok (.bl true) := (dEq_lit ok_equal ok_equal).trans (congrArg (fun b => Out.ok (D.bl b)) (by decide +kernel))
theorem kn_equal_equal : dNe (.str "equal") (.str "equal") = .ok (.bl false) := (dNe_lit ok_equal ok_equal).trans (congrArg (fun b => Out.ok (D.bl b)) (by decide +kernel))
theorem kw_equal_unlike : dEq (.str "equal") (.str "unlike") = .ok (.bl false) := (dEq_lit ok_equal ok_unlike).trans (congrArg (fun b => Out.ok (D.bl b)) (by decide +kernel))
theorem kn_equal_unlike : dNe (.str "equal") (.str "unlike") = .ok (.bl true) := (dNe_lit ok_equal ok_unlike).trans (congrArg (fun b => Out.ok (D.bl b)) (by decide +kernel))
theorem kw_equal_both : dEq (.str "equal") (.str "both") = .ok (.bl false) := (dEq_lit ok_equal ok_both).trans (congrArg (fun b => Out.ok (D.bl b)) (by decide +kernel))
theorem kn_equal_both : dNe (.str "equal") (.str "both") = .ok (.bl true) := (dNe_lit ok_equal ok_both).trans (congrArg (fun b => Out.ok (D.bl b)) (by decide +kernel))
theorem kw_equal_either : dEq (.str "equal") (.str "either") = .ok (.bl false) := (dEq_lit ok_equal ok_either).trans (congrArg (fun b => Out.ok (D.bl b)) (by decide +kernel))
theorem kn_equal_either : dNe (.str "equal") (.str "either") = .ok (.bl true) := (dNe_lit ok_equal ok_either).trans (congrArg (fun b => Out.ok (D.bl b)) (by decide +kernel))
theorem kw_equal_not : dEq (.str "equal") (.str "not") = .ok (.bl false) := (dEq_lit ok_equal ok_not).trans (congrArg (fun b => Out.ok (D.bl b)) (by decide +kernel))
theorem kn_equal_not : dNe (.str "equal") (.str "not") = .ok (.bl true) := (dNe_lit ok_equal ok_not).trans (congrArg (fun b => Out.ok (D.bl b)) (by decide +kernel))
theorem kw_equal_some : dEq (.str "equal") (.str "some") = .ok (.bl false) := (dEq_lit ok_equal ok_some).trans (congrArg (fun b => Out.ok (D.bl b)) (by decide +kernel))
theorem kn_equal_some : dNe (.str "equal") (.str "some") = .ok (.bl true) := (dNe_lit ok_equal ok_some).trans (congrArg (fun b => Out.ok (D.bl b)) (by decide +kernel))
theorem kw_equal_all : dEq (.str "equal") (.str "all") = .ok (.bl false) := (dEq_lit ok_equal ok_all).trans (congrArg (fun b => Out.ok (D.bl b)) (by decide +kernel))
theorem kn_equal_all : dNe (.str "equal") (.str "all") = .ok (.bl true) := (dNe_lit ok_equal ok_all).trans (congrArg (fun b => Out.ok (D.bl b)) (by decide +kernel))
theorem kw_equal_yes : dEq (.str "equal") (.str "yes") = .ok (.bl false) := (dEq_lit ok_equal ok_yes).trans (congrArg (fun b => Out.ok (D.bl b)) (by decide +kernel))
theorem kn_equal_yes : dNe (.str "equal") (.str "yes") = .ok (.bl true) := (dNe_lit ok_equal ok_yes).trans (congrArg (fun b => Out.ok (D.bl b)) (by decide +kernel))
theorem kw_equal_no : dEq (.str "equal") (.str "no") = .ok (.bl false) := (dEq_lit ok_equal ok_no).trans (congrArg (fun b => Out.ok (D.bl b)) (by decide +kernel))
theorem kn_equal_no : dNe (.str "equal") (.str "no") = .ok (.bl true) := (dNe_lit ok_equal ok_no).trans (congrArg (fun b => Out.ok (D.bl b)) (by decide +kernel))
theorem kw_unlike_less : dEq (.str "unlike") (.str "less") = .ok (.bl false) := (dEq_lit ok_unlike ok_less).trans (congrArg (fun b => Out.ok (D.bl b)) (by decide +kernel))
theorem kn_unlike_less : dNe (.str "unlike") (.str "less") = .ok (.bl true) := (dNe_lit ok_unlike ok_less).trans (congrArg (fun b => Out.ok (D.bl b)) (by decide +kernel))
theorem kw_unlike_most : dEq (.str "unlike") (.str "most") = .ok (.bl false) := (dEq_lit ok_unlike ok_most).trans (congrArg (fun b => Out.ok (D.bl b)) (by decide +kernel))
theorem kn_unlike_most : dNe (.str "unlike") (.str "most") = .ok (.bl true) := (dNe_lit ok_unlike ok_most).trans (congrArg (fun b => Out.ok (D.bl b)) (by decide +kernel))
theorem kw_unlike_equal : dEq (.str "unlike") (.str "equal") = .ok (.bl false) := (dEq_lit ok_unlike ok_equal).trans (congrArg (fun b => Out.ok (D.bl b)) (by decide +kernel))
theorem kn_unlike_equal : dNe (.str "unlike") (.str "equal") = .ok (.bl true) := (dNe_lit ok_unlike ok_equal).trans (congrArg (fun b => Out.ok (D.bl b)) (by decide +kernel))
theorem kw_unlike_unlike : dEq (.str "unlike") (.str "unlike") = .ok (.bl true) := (dEq_lit ok_unlike ok_unlike).trans (congrArg (fun b => Out.ok (D.bl b)) (by decide +kernel))
theorem kn_unlike_unlike : dNe (.str "unlike") (.str "unlike") = .ok (.bl false) := (dNe_lit ok_unlike ok_unlike).trans (congrArg (fun b => Out.ok (D.bl b)) (by decide +kernel))
theorem kw_unlike_both : dEq (.str "unlike") (.str "both") = .ok (.bl false) := (dEq_lit ok_unlike ok_both).trans (congrArg (fun b => Out.ok (D.bl b)) (by decide +kernel))
theorem kn_unlike_both : dNe (.str "unlike") (.str "both") = .ok (.bl true) := (dNe_lit ok_unlike ok_both).trans (congrArg (fun b => Out.ok (D.bl b)) (by decide +kernel))
theorem kw_unlike_either : dEq (.str "unlike") (.str "either") = .ok (.bl false) := (dEq_lit ok_unlike ok_either).trans (congrArg (fun b => Out.ok (D.bl b)) (by decide +kernel))
theorem kn_unlike_either : dNe (.str "unlike") (.str "either") = .ok (.bl true) := (dNe_lit ok_unlike ok_either).trans (congrArg (fun b => Out.ok (D.bl b)) (by decide +kernel))
theorem kw_unlike_not : dEq (.str "unlike") (.str "not") = .ok (.bl false) := (dEq_lit ok_unlike ok_not).trans (congrArg (fun b => Out.ok (D.bl b)) (by decide +kernel))
theorem kn_unlike_not : dNe (.str "unlike") (.str "not") = .ok (.bl true) := (dNe_lit ok_unlike ok_not).trans (congrArg (fun b => Out.ok (D.bl b)) (by decide +kernel))
theorem kw_unlike_some : dEq (.str "unlike") (.str "some") = .ok (.bl false) := (dEq_lit ok_unlike ok_some).trans (congrArg (fun b => Out.ok (D.bl b)) (by decide +kernel))
theorem kn_unlike_some : dNe (.str "unlike") (.str "some") = .ok (.bl true) := (dNe_lit ok_unlike ok_some).trans (congrArg (fun b => Out.ok (D.bl b)) (by decide +kernel))
theorem kw_unlike_all : dEq (.str "unlike") (.str "all") = .ok (.bl false) := (dEq_lit ok_unlike ok_all).trans (congrArg (fun b => Out.ok (D.bl b)) (by decide +kernel))
theorem kn_unlike_all : dNe (.str "unlike") (.str "all") = .ok (.bl true) := (dNe_lit ok_unlike ok_all).trans (congrArg (fun b => Out.ok (D.bl b)) (by decide +kernel))
theorem kw_unlike_yes : dEq (.str "unlike") (.str "yes") = .ok (.bl false) := (dEq_lit ok_unlike ok_yes).trans (congrArg (fun b => Out.ok (D.bl b)) (by decide +kernel))
theorem kn_unlike_yes : dNe (.str "unlike") (.str "yes") = .ok (.bl true) := (dNe_lit ok_unlike ok_yes).trans (congrArg (fun b => Out.ok (D.bl b)) (by decide +kernel))
theorem kw_unlike_no : dEq (.str "unlike") (.str "no") = .ok (.bl false) := (dEq_lit ok_unlike ok_no).trans (congrArg (fun b => Out.ok (D.bl b)) (by decide +kernel))
theorem kn_unlike_no : dNe (.str "unlike") (.str "no") = .ok (.bl true) := (dNe_lit ok_unlike ok_no).trans (congrArg (fun b => Out.ok (D.bl b)) (by decide +kernel))
theorem kw_both_less : dEq (.str "both") (.str "less") = .ok (.bl false) := (dEq_lit ok_both ok_less).trans (congrArg (fun b => Out.ok (D.bl b)) (by decide +kernel))
theorem kn_both_less : dNe (.str "both") (.str "less") = .ok (.bl true) := (dNe_lit ok_both ok_less).trans (congrArg (fun b => Out.ok (D.bl b)) (by decide +kernel))
theorem kw_both_most : dEq (.str "both") (.str "most") = .ok (.bl false) := (dEq_lit ok_both ok_most).trans (congrArg (fun b => Out.ok (D.bl b)) (by decide +kernel))
theorem kn_both_most : dNe (.str "both") (.str "most") = .ok (.bl true) := (dNe_lit ok_both ok_most).trans (congrArg (fun b => Out.ok (D.bl b)) (by decide +kernel))
theorem kw_both_equal : dEq (.str "both") (.str "equal") = .ok (.bl false) := (dEq_lit ok_both ok_equal).trans (congrArg (fun b => Out.ok (D.bl b)) (by decide +kernel))
theorem kn_both_equal : dNe (.str "both") (.str "equal") = .ok (.bl true) := (dNe_lit ok_both ok_equal).trans (congrArg (fun b => Out.ok (D.bl b)) (by decide +kernel))
theorem kw_both_unlike : dEq (.str "both") (.str "unlike") = .ok (.bl false) := (dEq_lit ok_both ok_unlike).trans (congrArg (fun b => Out.ok (D.bl b)) (by decide +kernel))
theorem kn_both_unlike : dNe (.str "both") (.str "unlike") = .ok (.bl true) := (dNe_lit ok_both ok_unlike).trans (congrArg (fun b => Out.ok (D.bl b)) (by decide +kernel))
theorem kw_both_both : dEq (.str "both") (.str "both") = .ok (.bl true) := (dEq_lit ok_both ok_both).trans (congrArg (fun b => Out.ok (D.bl b)) (by decide +kernel))
theorem kn_both_both : dNe (.str "both") (.str "both") = .ok (.bl false) := (dNe_lit ok_both ok_both).trans (congrArg (fun b => Out.ok (D.bl b)) (by decide +kernel))
theorem kw_both_either : dEq (.str "both") (.str "either") = .ok (.bl false) := (dEq_lit ok_both ok_either).trans (congrArg (fun b => Out.ok (D.bl b)) (by decide +kernel))
theorem kn_both_either : dNe (.str "both") (.str "either") = .ok (.bl true) := (dNe_lit ok_both ok_either).trans (congrArg (fun b => Out.ok (D.bl b)) (by decide +kernel))
theorem kw_both_not : dEq (.str "both") (.str "not") = .ok (.bl false) := (dEq_lit ok_both ok_not).trans (congrArg (fun b => Out.ok (D.bl b)) (by decide +kernel))
theorem kn_both_not : dNe (.str "both") (.str "not") = .ok (.bl true) := (dNe_lit ok_both ok_not).trans (congrArg (fun b => Out.ok (D.bl b)) (by decide +kernel))
theorem kw_both_some : dEq (.str "both") (.str "some") = .ok (.bl false) := (dEq_lit ok_both ok_some).trans (congrArg (fun b => Out.ok (D.bl b)) (by decide +kernel))
theorem kn_both_some : dNe (.str "both") (.str "some") = .ok (.bl true) := (dNe_lit ok_both ok_some).trans (congrArg (fun b => Out.ok (D.bl b)) (by decide +kernel))
theorem kw_both_all : dEq (.str "both") (.str "all") = .ok (.bl false) := (dEq_lit ok_both ok_all).trans (congrArg (fun b => Out.ok (D.bl b)) (by decide +kernel))
theorem kn_both_all : dNe (.str "both") (.str "all") = .ok (.bl true) := (dNe_lit ok_both ok_all).trans (congrArg (fun b => Out.ok (D.bl b)) (by decide +kernel))
theorem kw_both_yes : dEq (.str "both") (.str "yes") = .ok (.bl false) := (dEq_lit ok_both ok_yes).trans (congrArg (fun b => Out.ok (D.bl b)) (by decide +kernel))
theorem kn_both_yes : dNe (.str "both") (.str "yes") = .ok (.bl true) := (dNe_lit ok_both ok_yes).trans (congrArg (fun b => Out.ok (D.bl b)) (by decide +kernel))
theorem kw_both_no : dEq (.str "both") (.str "no") = .ok (.bl false) := (dEq_lit ok_both ok_no).trans (congrArg (fun b => Out.ok (D.bl b)) (by decide +kernel))
theorem kn_both_no : dNe (.str "both") (.str "no") = .ok (.bl true) := (dNe_lit ok_both ok_no).trans (congrArg (fun b => Out.ok (D.bl b)) (by decide +kernel))
theorem kw_either_less : dEq (.str "either") (.str "less") = .ok (.bl false) := (dEq_lit ok_either ok_less).trans (congrArg (fun b => Out.ok (D.bl b)) (by decide +kernel))
theorem kn_either_less : dNe (.str "either") (.str "less") = .ok (.bl true) := (dNe_lit ok_either ok_less).trans (congrArg (fun b => Out.ok (D.bl b)) (by decide +kernel))
theorem kw_either_most : dEq (.str "either") (.str "most") = .ok (.bl false) := (dEq_lit ok_either ok_most).trans (congrArg (fun b => Out.ok (D.bl b)) (by decide +kernel))
theorem kn_either_most : dNe (.str "either") (.str "most") = .ok (.bl true) := (dNe_lit ok_either ok_most).trans (congrArg (fun b => Out.ok (D.bl b)) (by decide +kernel))
theorem kw_either_equal : dEq (.str "either") (.str "equal") = .ok (.bl false) := (dEq_lit ok_either ok_equal).trans (congrArg (fun b => Out.ok (D.bl b)) (by decide +kernel))
theorem kn_either_equal : dNe (.str "either") (.str "equal") = .ok (.bl true) := (dNe_lit ok_either ok_equal).trans (congrArg (fun b => Out.ok (D.bl b)) (by decide +kernel))
theorem kw_either_unlike : dEq (.str "either") (.str "unlike") = .ok (.bl false) := (dEq_lit ok_either ok_unlike).trans (congrArg (fun b => Out.ok (D.bl b)) (by decide +kernel))
theorem kn_either_unlike : dNe (.str "either") (.str "unlike") = .ok (.bl true) := (dNe_lit ok_either ok_unlike).trans (congrArg (fun b => Out.ok (D.bl b)) (by decide +kernel))
theorem kw_either_both : dEq (.str "either") (.str "both") = .ok (.bl false) := (dEq_lit ok_either ok_both).trans (congrArg (fun b => Out.ok (D.bl b)) (by decide +kernel))
theorem kn_either_both : dNe (.str "either") (.str "both") = .ok (.bl true) := (dNe_lit ok_either ok_both).trans (congrArg (fun b => Out.ok (D.bl b)) (by decide +kernel))
theorem kw_either_either : dEq (.str "either") (.str "either") = .ok (.bl true) := (dEq_lit ok_either ok_either).trans (congrArg (fun b => Out.ok (D.bl b)) (by decide +kernel))
theorem kn_either_either : dNe (.str "either") (.str "either") = .ok (.bl false) := (dNe_lit ok_either ok_either).trans (congrArg (fun b => Out.ok (D.bl b)) (by decide +kernel))
theorem kw_either_not : dEq (.str "either") (.str "not") = .ok (.bl false) := (dEq_lit ok_either ok_not).trans (congrArg (fun b => Out.ok (D.bl b)) (by decide +kernel))
theorem kn_either_not : dNe (.str "either") (.str "not") = .ok (.bl true) := (dNe_lit ok_either ok_not).trans (congrArg (fun b => Out.ok (D.bl b)) (by decide +kernel))
theorem kw_either_some : dEq (.str "either") (.str "some") = .ok (.bl false) := (dEq_lit ok_either ok_some).trans (congrArg (fun b => Out.ok (D.bl b)) (by decide +kernel))
theorem kn_either_some : dNe (.str "either") (.str "some") = .ok (.bl true) := (dNe_lit ok_either ok_some).trans (congrArg (fun b => Out.ok (D.bl b)) (by decide +kernel))
theorem kw_either_all : dEq (.str "either") (.str "all") = .ok (.bl false) := (dEq_lit ok_either ok_all).trans (congrArg (fun b => Out.ok (D.bl b)) (by decide +kernel))
theorem kn_either_all : dNe (.str "either") (.str "all") = .ok (.bl true) := (dNe_lit ok_either ok_all).trans (congrArg (fun b => Out.ok (D.bl b)) (by decide +kernel))
theorem kw_either_yes : dEq (.str "either") (.str "yes") = .ok (.bl false) := (dEq_lit ok_either ok_yes).trans (congrArg (fun b => Out.ok (D.bl b)) (by decide +kernel))
theorem kn_either_yes : dNe (.str "either") (.str "yes") = .ok (.bl true) := (dNe_lit ok_either ok_yes).trans (congrArg (fun b => Out.ok (D.bl b)) (by decide +kernel))
theorem kw_either_no : dEq (.str "either") (.str "no") = .ok (.bl false) := (dEq_lit ok_either ok_no).trans (congrArg (fun b => Out.ok (D.bl b)) (by decide +kernel))
theorem kn_either_no : dNe (.str "either") (.str "no") = .ok (.bl true) := (dNe_lit ok_either ok_no).trans (congrArg (fun b => Out.ok (D.bl b)) (by decide +kernel))
theorem kw_not_less : dEq (.str "not") (.str "less") = .ok (.bl false) := (dEq_lit ok_not ok_less).trans (congrArg (fun b => Out.ok (D.bl b)) (by decide +kernel))
theorem kn_not_less : dNe (.str "not") (.str "less") = .ok (.bl true) := (dNe_lit ok_not ok_less).trans (congrArg (fun b => Out.ok (D.bl b)) (by decide +kernel))
theorem kw_not_most : dEq (.str "not") (.str "most") = .ok (.bl false) := (dEq_lit ok_not ok_most).trans (congrArg (fun b => Out.ok (D.bl b)) (by decide +kernel))
theorem kn_not_most : dNe (.str "not") (.str "most") = .ok (.bl true) := (dNe_lit ok_not ok_most).trans (congrArg (fun b => Out.ok (D.bl b)) (by decide +kernel))
theorem kw_not_equal : dEq (.str "not") (.str "equal") = .ok (.bl false) := (dEq_lit ok_not ok_equal).trans (congrArg (fun b => Out.ok (D.bl b)) (by decide +kernel))
theorem kn_not_equal : dNe (.str "not") (.str "equal") = .ok (.bl true) := (dNe_lit ok_not ok_equal).trans (congrArg (fun b => Out.ok (D.bl b)) (by decide +kernel))
theorem kw_not_unlike : dEq (.str "not") (.str "unlike") = .ok (.bl false) := (dEq_lit ok_not ok_unlike).trans (congrArg (fun b => Out.ok (D.bl b)) (by decide +kernel))
theorem kn_not_unlike : dNe (.str "not") (.str "unlike") = .ok (.bl true) := (dNe_lit ok_not ok_unlike).trans (congrArg (fun b => Out.ok (D.bl b)) (by decide +kernel))
theorem kw_not_both : dEq (.str "not") (.str "both") = .ok (.bl false) := (dEq_lit ok_not ok_both).trans (congrArg (fun b => Out.ok (D.bl b)) (by decide +kernel))
theorem kn_not_both : dNe (.str "not") (.str "both") = .ok (.bl true) := (dNe_lit ok_not ok_both).trans (congrArg (fun b => Out.ok (D.bl b)) (by decide +kernel))
theorem kw_not_either : dEq (.str "not") (.str "either") = .ok (.bl false) := (dEq_lit ok_not ok_either).trans (congrArg (fun b => Out.ok (D.bl b)) (by decide +kernel))
theorem kn_not_either : dNe (.str "not") (.str "either") = .ok (.bl true) := (dNe_lit ok_not ok_either).trans (congrArg (fun b => Out.ok (D.bl b)) (by decide +kernel))
theorem kw_not_not : dEq (.str "not") (.str "not") = .ok (.bl true) := (dEq_lit ok_not ok_not).trans (congrArg (fun b => Out.ok (D.bl b)) (by decide +kernel))
theorem kn_not_not : dNe (.str "not") (.str "not") = .ok (.bl false) := (dNe_lit ok_not ok_not).trans (congrArg (fun b => Out.ok (D.bl b)) (by decide +kernel))
theorem kw_not_some : dEq (.str "not") (.str "some") = .ok (.bl false) := (dEq_lit ok_not ok_some).trans (congrArg (fun b => Out.ok (D.bl b)) (by decide +kernel))
theorem kn_not_some : dNe (.str "not") (.str "some") = .ok (.bl true) := (dNe_lit ok_not ok_some).trans (congrArg (fun b => Out.ok (D.bl b)) (by decide +kernel))
theorem kw_not_all : dEq (.str "not") (.str "all") = .ok (.bl false) := (dEq_lit ok_not ok_all).trans (congrArg (fun b => Out.ok (D.bl b)) (by decide +kernel))
theorem kn_not_all : dNe (.str "not") (.str "all") = .ok (.bl true) := (dNe_lit ok_not ok_all).trans (congrArg (fun b => Out.ok (D.bl b)) (by decide +kernel))
theorem kw_not_yes : dEq (.str "not") (.str "yes") = .ok (.bl false) := (dEq_lit ok_not ok_yes).trans (congrArg (fun b => Out.ok (D.bl b)) (by decide +kernel))
theorem kn_not_yes : dNe (.str "not") (.str "yes") = .ok (.bl true) := (dNe_lit ok_not ok_yes).trans (congrArg (fun b => Out.ok (D.bl b)) (by decide +kernel))
theorem kw_not_no : dEq (.str "not") (.str "no") = .ok (.bl false) := (dEq_lit ok_not ok_no).trans (congrArg (fun b => Out.ok (D.bl b)) (by decide +kernel))
theorem kn_not_no : dNe (.str "not") (.str "no") = .ok (.bl true) := (dNe_lit ok_not ok_no).trans (congrArg (fun b => Out.ok (D.bl b)) (by decide +kernel))
theorem kw_some_less : dEq (.str "some") (.str "less") = .ok (.bl false) := (dEq_lit ok_some ok_less).trans (congrArg (fun b => Out.ok (D.bl b)) (by decide +kernel))
theorem kn_some_less : dNe (.str "some") (.str "less") = .ok (.bl true) := (dNe_lit ok_some ok_less).trans (congrArg (fun b => Out.ok (D.bl b)) (by decide +kernel))
theorem kw_some_most : dEq (.str "some") (.str "most") = .ok (.bl false) := (dEq_lit ok_some ok_most).trans (congrArg (fun b => Out.ok (D.bl b)) (by decide +kernel))
theorem kn_some_most : dNe (.str "some") (.str "most") = .ok (.bl true) := (dNe_lit ok_some ok_most).trans (congrArg (fun b => Out.ok (D.bl b)) (by decide +kernel))
theorem kw_some_equal : dEq (.str "some") (.str "equal") = .ok (.bl false) := (dEq_lit ok_some ok_equal).trans (congrArg (fun b => Out.ok (D.bl b)) (by decide +kernel))
theorem kn_some_equal : dNe (.str "some") (.str "equal") = .ok (.bl true) := (dNe_lit ok_some ok_equal).trans (congrArg (fun b => Out.ok (D.bl b)) (by decide +kernel))
theorem kw_some_unlike : dEq (.str "some") (.str "unlike") = .ok (.bl false) := (dEq_lit ok_some ok_unlike).trans (congrArg (fun b => Out.ok (D.bl b)) (by decide +kernel))
theorem kn_some_unlike : dNe (.str "some") (.str "unlike") = .ok (.bl true) := (dNe_lit ok_some ok_unlike).trans (congrArg (fun b => Out.ok (D.bl b)) (by decide +kernel))
theorem kw_some_both : dEq (.str "some") (.str "both") = .ok (.bl false) := (dEq_lit ok_some ok_both).trans (congrArg (fun b => Out.ok (D.bl b)) (by decide +kernel))
theorem kn_some_both : dNe (.str "some") (.str "both") = .ok (.bl true) := (dNe_lit ok_some ok_both).trans (congrArg (fun b => Out.ok (D.bl b)) (by decide +kernel))
theorem kw_some_either : dEq (.str "some") (.str "either") = .ok (.bl false) := (dEq_lit ok_some ok_either).trans (congrArg (fun b => Out.ok (D.bl b)) (by decide +kernel))
theorem kn_some_either : dNe (.str "some") (.str "either") = .ok (.bl true) := (dNe_lit ok_some ok_either).trans (congrArg (fun b => Out.ok (D.bl b)) (by decide +kernel))
theorem kw_some_not : dEq (.str "some") (.str "not") = .ok (.bl false) := (dEq_lit ok_some ok_not).trans (congrArg (fun b => Out.ok (D.bl b)) (by decide +kernel))
theorem kn_some_not : dNe (.str "some") (.str "not") = .ok (.bl true) := (dNe_lit ok_some ok_not).trans (congrArg (fun b => Out.ok (D.bl b)) (by decide +kernel))
theorem kw_some_some : dEq (.str "some") (.str "some") = .ok (.bl true) := (dEq_lit ok_some ok_some).trans (congrArg (fun b => Out.ok (D.bl b)) (by decide +kernel))
theorem kn_some_some : dNe (.str "some") (.str "some") = .ok (.bl false) := (dNe_lit ok_some ok_some).trans (congrArg (fun b => Out.ok (D.bl b)) (by decide +kernel))
theorem kw_some_all : dEq (.str "some") (.str "all") = .ok (.bl false) := (dEq_lit ok_some ok_all).trans (congrArg (fun b => Out.ok (D.bl b)) (by decide +kernel))
theorem kn_some_all : dNe (.str "some") (.str "all") = .ok (.bl true) := (dNe_lit ok_some ok_all).trans (congrArg (fun b => Out.ok (D.bl b)) (by decide +kernel))
theorem kw_some_yes : dEq (.str "some") (.str "yes") = .ok (.bl false) := (dEq_lit ok_some ok_yes).trans (congrArg (fun b => Out.ok (D.bl b)) (by decide +kernel))
theorem kn_some_yes : dNe (.str "some") (.str "yes") = .ok (.bl true) := (dNe_lit ok_some ok_yes).trans (congrArg (fun b => Out.ok (D.bl b)) (by decide +kernel))
theorem kw_some_no : dEq (.str "some") (.str "no") = .ok (.bl false) := (dEq_lit ok_some ok_no).trans (congrArg (fun b => Out.ok (D.bl b)) (by decide +kernel))
theorem kn_some_no : dNe (.str "some") (.str "no") = .ok (.bl true) := (dNe_lit ok_some ok_no).trans (congrArg (fun b => Out.ok (D.bl b)) (by decide +kernel))
theorem kw_all_less : dEq (.str "all") (.str "less") = .ok (.bl false) := (dEq_lit ok_all ok_less).trans (congrArg (fun b => Out.ok (D.bl b)) (by decide +kernel))
theorem kn_all_less : dNe (.str "all") (.str "less") = .ok (.bl true) := (dNe_lit ok_all ok_less).trans (congrArg (fun b => Out.ok (D.bl b)) (by decide +kernel))
theorem kw_all_most : dEq (.str "all") (.str "most") = .ok (.bl false) := (dEq_lit ok_all ok_most).trans (congrArg (fun b => Out.ok (D.bl b)) (by decide +kernel))
theorem kn_all_most : dNe (.str "all") (.str "most") = .ok (.bl true) := (dNe_lit ok_all ok_most).trans (congrArg (fun b => Out.ok (D.bl b)) (by decide +kernel))
theorem kw_all_equal : dEq (.str "all") (.str "equal") = .ok (.bl false) := (dEq_lit ok_all ok_equal).trans (congrArg (fun b => Out.ok (D.bl b)) (by decide +kernel))
theorem kn_all_equal : dNe (.str "all") (.str "equal") = .ok (.bl true) := (dNe_lit ok_all ok_equal).trans (congrArg (fun b => Out.ok (D.bl b)) (by decide +kernel))
theorem kw_all_unlike : dEq (.str "all") (.str "unlike") = .ok (.bl false) := (dEq_lit ok_all ok_unlike).trans (congrArg (fun b => Out.ok (D.bl b)) (by decide +kernel))
theorem kn_all_unlike : dNe (.str "all") (.str "unlike") = .ok (.bl true) := (dNe_lit ok_all ok_unlike).trans (congrArg (fun b => Out.ok (D.bl b)) (by decide +kernel))
theorem kw_all_both : dEq (.str "all") (.str "both") = .ok (.bl false) := (dEq_lit ok_all ok_both).trans (congrArg (fun b => Out.ok (D.bl b)) (by decide +kernel))
theorem kn_all_both : dNe (.str "all") (.str "both") = .ok (.bl true) := (dNe_lit ok_all ok_both).trans (congrArg (fun b => Out.ok (D.bl b)) (by decide +kernel))
theorem kw_all_either : dEq (.str "all") (.str "either") = .ok (.bl false) := (dEq_lit ok_all ok_either).trans (congrArg (fun b => Out.ok (D.bl b)) (by decide +kernel))
theorem kn_all_either : dNe (.str "all") (.str "either") = .ok (.bl true) := (dNe_lit ok_all ok_either).trans (congrArg (fun b => Out.ok (D.bl b)) (by decide +kernel))
theorem kw_all_not : dEq (.str "all") (.str "not") = .ok (.bl false) := (dEq_lit ok_all ok_not).trans (congrArg (fun b => Out.ok (D.bl b)) (by decide +kernel))
theorem kn_all_not : dNe (.str "all") (.str "not") = .ok (.bl true) := (dNe_lit ok_all ok_not).trans (congrArg (fun b => Out.ok (D.bl b)) (by decide +kernel))
theorem kw_all_some : dEq (.str "all") (.str "some") = .ok (.bl false) := (dEq_lit ok_all ok_some).trans (congrArg (fun b => Out.ok (D.bl b)) (by decide +kernel))
theorem kn_all_some : dNe (.str "all") (.str "some") = .ok (.bl true) := (dNe_lit ok_all ok_some).trans (congrArg (fun b => Out.ok (D.bl b)) (by decide +kernel))
theorem kw_all_all : dEq (.str "all") (.str "all") = .ok (.bl true) := (dEq_lit ok_all ok_all).trans (congrArg (fun b => Out.ok (D.bl b)) (by decide +kernel))
theorem kn_all_all : dNe (.str "all") (.str "all") = .ok (.bl false) := (dNe_lit ok_all ok_all).trans (congrArg (fun b => Out.ok (D.bl b)) (by decide +kernel))
theorem kw_all_yes : dEq (.str "all") (.str "yes") = .ok (.bl false) := (dEq_lit ok_all ok_yes).trans (congrArg (fun b => Out.ok (D.bl b)) (by decide +kernel))
theorem kn_all_yes : dNe (.str "all") (.str "yes") = .ok (.bl true) := (dNe_lit ok_all ok_yes).trans (congrArg (fun b => Out.ok (D.bl b)) (by decide +kernel))
theorem kw_all_no : dEq (.str "all") (.str "no") = .ok (.bl false) := (dEq_lit ok_all ok_no).trans (congrArg (fun b => Out.ok (D.bl b)) (by decide +kernel))
theorem kn_all_no : dNe (.str "all") (.str "no") = .ok (.bl true) := (dNe_lit ok_all ok_no).trans (congrArg (fun b => Out.ok (D.bl b)) (by decide +kernel))
theorem kw_yes_less : dEq (.str "yes") (.str "less") = .ok (.bl false) := (dEq_lit ok_yes ok_less).trans (congrArg (fun b => Out.ok (D.bl b)) (by decide +kernel))
theorem kn_yes_less : dNe (.str "yes") (.str "less") = .ok (.bl true) := (dNe_lit ok_yes ok_less).trans (congrArg (fun b => Out.ok (D.bl b)) (by decide +kernel))
theorem kw_yes_most : dEq (.str "yes") (.str "most") = .ok (.bl false) := (dEq_lit ok_yes ok_most).trans (congrArg (fun b => Out.ok (D.bl b)) (by decide +kernel))
theorem kn_yes_most : dNe (.str "yes") (.str "most") = .ok (.bl true) := (dNe_lit ok_yes ok_most).trans (congrArg (fun b => Out.ok (D.bl b)) (by decide +kernel))
theorem kw_yes_equal : dEq (.str "yes") (.str "equal") = .ok (.bl false) := (dEq_lit ok_yes ok_equal).trans (congrArg (fun b => Out.ok (D.bl b)) (by decide +kernel))
theorem kn_yes_equal : dNe (.str "yes") (.str "equal") = .ok (.bl true) := (dNe_lit ok_yes ok_equal).trans (congrArg (fun b => Out.ok (D.bl b)) (by decide +kernel))
theorem kw_yes_unlike : dEq (.str "yes") (.str "unlike") = .ok (.bl false) := (dEq_lit ok_yes ok_unlike).trans (congrArg (fun b => Out.ok (D.bl b)) (by decide +kernel))
theorem kn_yes_unlike : dNe (.str "yes") (.str "unlike") = .ok (.bl true) := (dNe_lit ok_yes ok_unlike).trans (congrArg (fun b => Out.ok (D.bl b)) (by decide +kernel))
theorem kw_yes_both : dEq (.str "yes") (.str "both") = .ok (.bl false) := (dEq_lit ok_yes ok_both).trans (congrArg (fun b => Out.ok (D.bl b)) (by decide +kernel))
theorem kn_yes_both : dNe (.str "yes") (.str "both") = .ok (.bl true) := (dNe_lit ok_yes ok_both).trans (congrArg (fun b => Out.ok (D.bl b)) (by decide +kernel))
theorem kw_yes_either : dEq (.str "yes") (.str "either") = .ok (.bl false) := (dEq_lit ok_yes ok_either).trans (congrArg (fun b => Out.ok (D.bl b)) (by decide +kernel))
theorem kn_yes_either : dNe (.str "yes") (.str "either") = .ok (.bl true) := (dNe_lit ok_yes ok_either).trans (congrArg (fun b => Out.ok (D.bl b)) (by decide +kernel))
theorem kw_yes_not : dEq (.str "yes") (.str "not") = .ok (.bl false) := (dEq_lit ok_yes ok_not).trans (congrArg (fun b => Out.ok (D.bl b)) (by decide +kernel))
theorem kn_yes_not : dNe (.str "yes") (.str "not") = .ok (.bl true) := (dNe_lit ok_yes ok_not).trans (congrArg (fun b => Out.ok (D.bl b)) (by decide +kernel))
theorem kw_yes_some : dEq (.str "yes") (.str "some") = .ok (.bl false) := (dEq_lit ok_yes ok_some).trans (congrArg (fun b => Out.ok (D.bl b)) (by decide +kernel))
theorem kn_yes_some : dNe (.str "yes") (.str "some") = .ok (.bl true) := (dNe_lit ok_yes ok_some).trans (congrArg (fun b => Out.ok (D.bl b)) (by decide +kernel))
theorem kw_yes_all : dEq (.str "yes") (.str "all") = .ok (.bl false) := (dEq_lit ok_yes ok_all).trans (congrArg (fun b => Out.ok (D.bl b)) (by decide +kernel))
theorem kn_yes_all : dNe (.str "yes") (.str "all") = .ok (.bl true) := (dNe_lit ok_yes ok_all).trans (congrArg (fun b => Out.ok (D.bl b)) (by decide +kernel))
theorem kw_yes_yes : dEq (.str "yes") (.str "yes") = .ok (.bl true) := (dEq_lit ok_yes ok_yes).trans (congrArg (fun b => Out.ok (D.bl b)) (by decide +kernel))
theorem kn_yes_yes : dNe (.str "yes") (.str "yes") = .ok (.bl false) := (dNe_lit ok_yes ok_yes).trans (congrArg (fun b => Out.ok (D.bl b)) (by decide +kernel))
theorem kw_yes_no : dEq (.str "yes") (.str "no") = .ok (.bl false) := (dEq_lit ok_yes ok_no).trans (congrArg (fun b => Out.ok (D.bl b)) (by decide +kernel))
theorem kn_yes_no : dNe (.str "yes") (.str "no") = .ok (.bl true) := (dNe_lit ok_yes ok_no).trans (congrArg (fun b => Out.ok (D.bl b)) (by decide +kernel))
theorem kw_no_less : dEq (.str "no") (.str "less") = .ok (.bl false) := (dEq_lit ok_no ok_less).trans (congrArg (fun b => Out.ok (D.bl b)) (by decide +kernel))
theorem kn_no_less : dNe (.str "no") (.str "less") = .ok (.bl true) := (dNe_lit ok_no ok_less).trans (congrArg (fun b => Out.ok (D.bl b)) (by decide +kernel))
theorem kw_no_most : dEq (.str "no") (.str "most") = .ok (.bl false) := (dEq_lit ok_no ok_most).trans (congrArg (fun b => Out.ok (D.bl b)) (by decide +kernel))
theorem kn_no_most : dNe (.str "no") (.str "most") = .ok (.bl true) := (dNe_lit ok_no ok_most).trans (congrArg (fun b => Out.ok (D.bl b)) (by decide +kernel))
theorem kw_no_equal : dEq (.str "no") (.str "equal") = .ok (.bl false) := (dEq_lit ok_no ok_equal).trans (congrArg (fun b => Out.ok (D.bl b)) (by decide +kernel))
theorem kn_no_equal : dNe (.str "no") (.str "equal") = .ok (.bl true) := (dNe_lit ok_no ok_equal).trans (congrArg (fun b => Out.ok (D.bl b)) (by decide +kernel))
theorem kw_no_unlike : dEq (.str "no") (.str "unlike") = .ok (.bl false) := (dEq_lit ok_no ok_unlike).trans (congrArg (fun b => Out.ok (D.bl b)) (by decide +kernel))
theorem kn_no_unlike : dNe (.str "no") (.str "unlike") = .ok (.bl true) := (dNe_lit ok_no ok_unlike).trans (congrArg (fun b => Out.ok (D.bl b)) (by decide +kernel))
theorem kw_no_both : dEq (.str "no") (.str "both") = .ok (.bl false) := (dEq_lit ok_no ok_both).trans (congrArg (fun b => Out.ok (D.bl b)) (by decide +kernel))
theorem kn_no_both : dNe (.str "no") (.str "both") = .ok (.bl true) := (dNe_lit ok_no ok_both).trans (congrArg (fun b => Out.ok (D.bl b)) (by decide +kernel))
theorem kw_no_either : dEq (.str "no") (.str "either") = .ok (.bl false) := (dEq_lit ok_no ok_either).trans (congrArg (fun b => Out.ok (D.bl b)) (by decide +kernel))
theorem kn_no_either : dNe (.str "no") (.str "either") = .ok (.bl true) := (dNe_lit ok_no ok_either).trans (congrArg (fun b => Out.ok (D.bl b)) (by decide +kernel))
theorem kw_no_not : dEq (.str "no") (.str "not") = .ok (.bl false) := (dEq_lit ok_no ok_not).trans (congrArg (fun b => Out.ok (D.bl b)) (by decide +kernel))
theorem kn_no_not : dNe (.str "no") (.str "not") = .ok (.bl true) := (dNe_lit ok_no ok_not).trans (congrArg (fun b => Out.ok (D.bl b)) (by decide +kernel))
theorem kw_no_some : dEq (.str "no") (.str "some") = .ok (.bl false) := (dEq_lit ok_no ok_some).trans (congrArg (fun b => Out.ok (D.bl b)) (by decide +kernel))
theorem kn_no_some : dNe (.str "no") (.str "some") = .ok (.bl true) := (dNe_lit ok_no ok_some).trans (congrArg (fun b => Out.ok (D.bl b)) (by decide +kernel))
theorem kw_no_all : dEq (.str "no") (.str "all") = .ok (.bl false) := (dEq_lit ok_no ok_all).trans (congrArg (fun b => Out.ok (D.bl b)) (by decide +kernel))
theorem kn_no_all : dNe (.str "no") (.str "all") = .ok (.bl true) := (dNe_lit ok_no ok_all).trans (congrArg (fun b => Out.ok (D.bl b)) (by decide +kernel))
theorem kw_no_yes : dEq (.str "no") (.str "yes") = .ok (.bl false) := (dEq_lit ok_no ok_yes).trans (congrArg (fun b => Out.ok (D.bl b)) (by decide +kernel))
theorem kn_no_yes : dNe (.str "no") (.str "yes") = .ok (.bl true) := (dNe_lit ok_no ok_yes).trans (congrArg (fun b => Out.ok (D.bl b)) (by decide +kernel))
theorem kw_no_no : dEq (.str "no") (.str "no") = .ok (.bl true) := (dEq_lit ok_no ok_no).trans (congrArg (fun b => Out.ok (D.bl b)) (by decide +kernel))
theorem kn_no_no : dNe (.str "no") (.str "no") = .ok (.bl false) := (dNe_lit ok_no ok_no).trans (congrArg (fun b => Out.ok (D.bl b)) (by decide +kernel))
theorem ki_less : dIn (.str "less") (.tup [.str "less", .str "most", .str "equal", .str "unlike"]) = .ok (.bl true) := (dIn_lit "less" ["less", "most", "equal", "unlike"]).trans (congrArg (fun b => Out.ok (D.bl b)) (by decide +kernel))
theorem ki_most : dIn (.str "most") (.tup [.str "less", .str "most", .str "equal", .str "unlike"]) = .ok (.bl true) := (dIn_lit "most" ["less", "most", "equal", "unlike"]).trans (congrArg (fun b => Out.ok (D.bl b)) (by decide +kernel))
theorem ki_equal : dIn (.str "equal") (.tup [.str "less", .str "most", .str "equal", .str "unlike"]) = .ok (.bl true) := (dIn_lit "equal" ["less", "most", "equal", "unlike"]).trans (congrArg (fun b => Out.ok (D.bl b)) (by decide +kernel))
theorem ki_unlike : dIn (.str "unlike") (.tup [.str "less", .str "most", .str "equal", .str "unlike"]) = .ok (.bl true) := (dIn_lit "unlike" ["less", "most", "equal", "unlike"]).trans (congrArg (fun b => Out.ok (D.bl b)) (by decide +kernel))
theorem ki_both : dIn (.str "both") (.tup [.str "less", .str "most", .str "equal", .str "unlike"]) = .ok (.bl false) := (dIn_lit "both" ["less", "most", "equal", "unlike"]).trans (congrArg (fun b => Out.ok (D.bl b)) (by decide +kernel))
theorem ki_either : dIn (.str "either") (.tup [.str "less", .str "most", .str "equal", .str "unlike"]) = .ok (.bl false) := (dIn_lit "either" ["less", "most", "equal", "unlike"]).trans (congrArg (fun b => Out.ok (D.bl b)) (by decide +kernel))
theorem ki_not : dIn (.str "not") (.tup [.str "less", .str "most", .str "equal", .str "unlike"]) = .ok (.bl false) := (dIn_lit "not" ["less", "most", "equal", "unlike"]).trans (congrArg (fun b => Out.ok (D.bl b)) (by decide +kernel))
theorem ki_some : dIn (.str "some") (.tup [.str "less", .str "most", .str "equal", .str "unlike"]) = .ok (.bl false) := (dIn_lit "some" ["less", "most", "equal", "unlike"]).trans (congrArg (fun b => Out.ok (D.bl b)) (by decide +kernel))
theorem ki_all : dIn (.str "all") (.tup [.str "less", .str "most", .str "equal", .str "unlike"]) = .ok (.bl false) := (dIn_lit "all" ["less", "most", "equal", "unlike"]).trans (congrArg (fun b => Out.ok (D.bl b)) (by decide +kernel))
theorem ki_yes : dIn (.str "yes") (.tup [.str "less", .str "most", .str "equal", .str "unlike"]) = .ok (.bl false) := (dIn_lit "yes" ["less", "most", "equal", "unlike"]).trans (congrArg (fun b => Out.ok (D.bl b)) (by decide +kernel))
theorem ki_no : dIn (.str "no") (.tup [.str "less", .str "most", .str "equal", .str "unlike"]) = .ok (.bl false) := (dIn_lit "no" ["less", "most", "equal", "unlike"]).trans (congrArg (fun b => Out.ok (D.bl b)) (by decide +kernel))
theorem sRaise_ap (f : Env → Out Exn) (ρ : Env) : sRaise f ρ = oS (f ρ) .ex := rfl
theorem eX1_ap (c : Str) (fa : Env → Out (List D)) (ρ : Env) : eX1 c fa ρ = (fa ρ).bind fun ds => match ds with
  | [d] => .ok ⟨c, [("name", d)]⟩
  | _ => .stuck := rfl
theorem eX2_ap (c : Str) (fa : Env → Out (List D)) (ρ : Env) : eX2 c fa ρ = (fa ρ).bind fun ds => match ds with
  | [d, d'] => .ok ⟨c, [("form", d'), ("name", d)]⟩
  | _ => .stuck := rfl
theorem xP_ap (c : Str) (ρ : Env) : xP c ρ = .ok ⟨c, []⟩ := rfl
theorem ySet_ap (i : Nat) (f : Env → Out D) (ρ : Env) : ySet i f ρ = (f ρ).bind fun d => .ok (ρ.set i (some d)) := rfl
theorem yExpr_ap (f : Env → Out D) (ρ : Env) : yExpr f ρ = (f ρ).bind fun _ => .ok ρ := rfl
theorem yIf_ap (t : Env → Out Bool) (a b : Env → Out Env) (ρ : Env) : yIf t a b ρ = (t ρ).bind fun c => if c = true then a ρ else b ρ := rfl
noncomputable def tryO (L : List Str) (hs : List Hd) (fe : Env → SO) (ρ : Env) : Out Env → SO
  | .ok r => fe r
  | .exc x => sHand L hs x ρ
  | .stuck => .stuck
theorem sTry_ap (L : List Str) (fb : Env → Out Env) (hs : List Hd) (fe : Env → SO) (ρ : Env) : sTry L fb hs fe ρ = tryO L hs fe ρ (fb ρ) := by
  unfold sTry tryO
  cases fb ρ <;> rfl
theorem tryO_ok (L : List Str) (hs : List Hd) (fe : Env → SO) (ρ r : Env) : tryO L hs fe ρ (.ok r) = fe r := rfl
theorem tryO_exc (L : List Str) (hs : List Hd) (fe : Env → SO) (ρ : Env) (x : Exn) : tryO L hs fe ρ (.exc x) = sHand L hs x ρ := rfl
theorem hand_no {L : List Str} {c d : Str} {f : Env → SO} {r : List Hd} {fs : List (Str × D)} {ρ : Env} (h : (decide (c ∈ L) && (decide (d ∈ L) && subC c d)) = true) : sHand L ((d, none, f) :: r) ⟨c, fs⟩ ρ = (f ρ).calm := by
  simp only [Bool.and_eq_true, decide_eq_true_eq] at h
  unfold sHand
  rw [chkS_pos ⟨h.1, h.2.1⟩, if_pos h.2.2]
  rfl
theorem hand_nil (L : List Str) (x : Exn) (ρ : Env) : sHand L [] x ρ = .ex x := rfl
theorem gone_nx (i : Nat) (r : Env) : (SO.nx r).gone i = .nx (r.set i none) := rfl
theorem gone_rt (i : Nat) (d : D) : (SO.rt d).gone i = .rt d := rfl
theorem calm_nx (r : Env) : (SO.nx r).calm = .nx r := rfl
theorem calm_rt (d : D) : (SO.rt d).calm = .rt d := rfl
theorem eAt_ap (L : List Str) (f : Str) (fe : Env → Out D) (ρ : Env) : eAt L f fe ρ = (fe ρ).bind fun d => match d with
  | .exn c fs => chk (c ∈ L) (match fs.lookup f with | some d => .ok d | none => .stuck)
  | _ => .stuck := rfl
theorem isN_exn (c : Str) (fs : List (Str × D)) : dIsN false (.exn c fs) .non = .ok (.bl false) := rfl
theorem isN_non : dIsN false .non .non = .ok (.bl true) := rfl
noncomputable def fldD (L fl : List Str) (f : Str) : D → Out D
  | .ins c fs => chk (c ∈ L ∧ f ∈ fl) (match fs.lookup f with
    | some d => .ok d
    | none => .stuck)
  | _ => .stuck
theorem eFld_d (L fl : List Str) (f : Str) (fe : Env → Out D) (ρ : Env) : eFld L fl f fe ρ = (fe ρ).bind (fldD L fl f) := rfl
noncomputable def mthD (m : Str) (tbl : List (List Str × (List D → Out D))) (oa : Out (List D)) : D → Out D
  | .ins c fs => chk (fs.lookup m = none) (match pick tbl c with
    | some F => oa.bind fun ds => F (.ins c fs :: ds)
    | none => .stuck)
  | _ => .stuck
theorem eMth_d (m : Str) (tbl : List (List Str × (List D → Out D))) (fo : Env → Out D) (fa : Env → Out (List D)) (ρ : Env) : eMth m tbl fo fa ρ = (fo ρ).bind fun s => mthD m tbl (fa ρ) s := by
  unfold eMth
  cases fo ρ with
  | ok d => cases d <;> rfl
  | exc _ => rfl
  | stuck => rfl
noncomputable def makD (c : Str) (F : List D → Out D) (ds : List D) : Out D := (F (.ins c [] :: ds)).bind fun d => match d with
  | .tup [.non, .ins c' fs] => .ok (.ins c' fs)
  | _ => .stuck
theorem eMake_d (c : Str) (F : List D → Out D) (fa : Env → Out (List D)) (ρ : Env) : eMake c F fa ρ = (fa ρ).bind (makD c F) := rfl
theorem eMk0_d (c : Str) (ρ : Env) : eMk0 c ρ = .ok (.ins c []) := rfl
theorem fldD_at {L fl : List Str} {f c : Str} {fs : List (Str × D)} {d : D} (h : c ∈ L ∧ f ∈ fl) (e : fs.lookup f = some d) : fldD L fl f (.ins c fs) = .ok d := by
  show chk _ (match fs.lookup f with | some d => Out.ok d | none => .stuck) = _
  rw [chk_pos h, e]
theorem uP_ap (f : Env → Out D) (ρ : Env) : uP f ρ = (f ρ).bind fun d => .ok (d, ρ) := rfl
theorem uN_ap (ρ : Env) : uN ρ = .ok ([], ρ) := rfl
theorem uC_ap (a : Env → Out (D × Env)) (r : Env → Out (List D × Env)) (ρ : Env) : uC a r ρ = (a ρ).bind fun p => (r p.2).bind fun q => .ok (p.1 :: q.1, q.2) := rfl
theorem uA_ap (F : List D → Out D) (a : Env → Out (List D × Env)) (ρ : Env) : uA F a ρ = (a ρ).bind fun p => (F p.1).bind fun d => .ok (d, p.2) := rfl
theorem u2_ap (F : D → D → Out D) (a b : Env → Out (D × Env)) (ρ : Env) : u2 F a b ρ = (a ρ).bind fun p => (b p.2).bind fun q => (F p.1 q.1).bind fun d => .ok (d, q.2) := rfl
def blE : D × Env → Out (Bool × Env)
  | (.bl b, ρ) => .ok (b, ρ)
  | _ => .stuck
theorem qOf_ap (f : Env → Out (D × Env)) (ρ : Env) : qOf f ρ = (f ρ).bind blE := by
  unfold qOf
  cases f ρ with
  | ok p => obtain ⟨d, r⟩ := p; cases d <;> rfl
  | _ => rfl
theorem blE_bl (b : Bool) (ρ : Env) : blE (.bl b, ρ) = .ok (b, ρ) := rfl
theorem qP_ap (f : Env → Out Bool) (ρ : Env) : qP f ρ = (f ρ).bind fun b => .ok (b, ρ) := rfl
theorem qNot_ap (f : Env → Out (Bool × Env)) (ρ : Env) : qNot f ρ = (f ρ).bind fun p => .ok (!p.1, p.2) := rfl
theorem qAnd_ap (s t : Env → Out (Bool × Env)) (ρ : Env) : qAnd s t ρ = (s ρ).bind fun p => if p.1 = true then t p.2 else .ok (false, p.2) := rfl
theorem qOr_ap (s t : Env → Out (Bool × Env)) (ρ : Env) : qOr s t ρ = (s ρ).bind fun p => if p.1 = true then .ok (true, p.2) else t p.2 := rfl
theorem sExprE_ap (f : Env → Out (D × Env)) (ρ : Env) : sExprE f ρ = oS (f ρ) fun p => .nx p.2 := rfl
theorem sSetE_ap (i : Nat) (f : Env → Out (D × Env)) (ρ : Env) : sSetE i f ρ = oS (f ρ) fun p => .nx (p.2.set i (some p.1)) := rfl
theorem sIfE_ap (t : Env → Out (Bool × Env)) (a b : Env → SO) (ρ : Env) : sIfE t a b ρ = oS (t ρ) fun p => if p.1 = true then a p.2 else b p.2 := rfl
theorem sAsgE_ap (G : D → Env → Out Env) (f : Env → Out (D × Env)) (ρ : Env) : sAsgE G f ρ = oS (f ρ) fun p => oS (G p.1 p.2) .nx := rfl
theorem sRetE_ap (f : Env → Out (D × Env)) (ρ : Env) : sRetE f ρ = oS (f ρ) fun p => .rt p.1 := rfl
def retM : D × Env → SO
  | (d, some (.ins c fs) :: _) => .rt (.tup [d, .ins c fs])
  | _ => .stuck
theorem sRetM_ap (f : Env → Out (D × Env)) (ρ : Env) : sRetM f ρ = oS (f ρ) retM := by
  unfold sRetM
  cases f ρ with
  | ok p =>
    obtain ⟨d, r⟩ := p
    cases r with
    | nil => rfl
    | cons x r =>
      cases x with
      | none => rfl
      | some x => cases x <;> rfl
  | _ => rfl
def RDd (W : List D) (d : D) : D := .ins "Reader" [("words", .lst W), ("at", d)]
def RT (r : D) (W : List D) (d : D) : D := .tup [r, RDd W d]
theorem retM_rd (r : D) (W : List D) (d : D) (ρ : Env) : retM (r, some (RDd W d) :: ρ) = .rt (RT r W d) := rfl
theorem resM_rd (W : List D) (d : D) (ρ : Env) : (SO.nx (some (RDd W d) :: ρ)).resM = .ok (RT .non W d) := rfl
theorem fld_at (W : List D) (d : D) : fldD clR flR "at" (RDd W d) = .ok d := fldD_at (by decide) rfl
theorem fld_words (W : List D) (d : D) : fldD clR flR "words" (RDd W d) = .ok (.lst W) := fldD_at (by decide) rfl
theorem sFld_rd (fe : Env → Out D) (W : List D) (d : D) (ρ : Env) : sFld clR flR 0 "at" fe (some (RDd W d) :: ρ) = oS (fe (some (RDd W d) :: ρ)) fun v => .nx (some (RDd W v) :: ρ) := by
  unfold sFld
  cases fe (some (RDd W d) :: ρ) with
  | ok v =>
    show chkS _ (.nx (some (.ins "Reader" [("words", .lst W), ("at", v)]) :: ρ)) = _
    exact chkS_pos ⟨⟨by decide, by decide⟩, by show 2 < 1000; decide⟩
  | _ => rfl
def unR (i : Nat) (ρ : Env) : D → Out (D × Env)
  | .tup [r, .ins c fs] => .ok (r, ρ.set i (some (.ins c fs)))
  | _ => .stuck
theorem unR_rt (i : Nat) (ρ : Env) (r : D) (W : List D) (d : D) : unR i ρ (RT r W d) = .ok (r, ρ.set i (some (RDd W d))) := rfl
theorem uMk_rd {m : Str} (h : m ≠ "words" ∧ m ≠ "at") (F : List D → Out D) (i : Nat) (fa : Env → Out (List D)) (ρ : Env) (W : List D) (d : D) (e : ρ[i]? = some (some (RDd W d))) :
    uMk "Reader" m F i fa ρ = (fa ρ).bind fun ds => (F (RDd W d :: ds)).bind (unR i ρ) := by
  unfold uMk
  rw [e]
  have hl : ([("words", D.lst W), ("at", d)] : List (Str × D)).lookup m = none := by
    rw [List.lookup_cons, show (m == ("words" : Str)) = false from beq_false_of_ne h.1, List.lookup_cons, show (m == ("at" : Str)) = false from beq_false_of_ne h.2]
    rfl
  show chk _ _ = _
  rw [chk_pos ⟨rfl, hl⟩]
  refine congrArg (Out.bind (fa ρ)) (funext fun ds => ?_)
  show Out.bind (F (RDd W d :: ds)) _ = _
  refine congrArg (Out.bind (F (RDd W d :: ds))) (funext fun x => ?_)
  cases x with
  | tup l =>
    rcases l with _ | ⟨a, l⟩
    · rfl
    · rcases l with _ | ⟨b, l⟩
      · rfl
      · rcases l with _ | ⟨c, l⟩
        · cases b <;> rfl
        · cases b <;> rfl
  | _ => rfl
theorem uMk_0 {m : Str} (h : m ≠ "words" ∧ m ≠ "at") (F : List D → Out D) (fa : Env → Out (List D)) (ρ : Env) (W : List D) (d : D) :
    uMk "Reader" m F 0 fa (some (RDd W d) :: ρ) = (fa (some (RDd W d) :: ρ)).bind fun ds => (F (RDd W d :: ds)).bind (unR 0 (some (RDd W d) :: ρ)) := uMk_rd h F 0 fa _ W d rfl
theorem uMk_1 {m : Str} (h : m ≠ "words" ∧ m ≠ "at") (F : List D → Out D) (fa : Env → Out (List D)) (ρ : Env) (x : Option D) (W : List D) (d : D) :
    uMk "Reader" m F 1 fa (x :: some (RDd W d) :: ρ) = (fa (x :: some (RDd W d) :: ρ)).bind fun ds => (F (RDd W d :: ds)).bind (unR 1 (x :: some (RDd W d) :: ρ)) := uMk_rd h F 1 fa _ W d rfl
theorem mn_here : (("here" : Str) ≠ "words" ∧ ("here" : Str) ≠ "at") := by decide +kernel
theorem mn_taken : (("taken" : Str) ≠ "words" ∧ ("taken" : Str) ≠ "at") := by decide +kernel
theorem mn_must : (("must" : Str) ≠ "words" ∧ ("must" : Str) ≠ "at") := by decide +kernel
theorem mn_one_of : (("one_of" : Str) ≠ "words" ∧ ("one_of" : Str) ≠ "at") := by decide +kernel
theorem mn_unknown : (("unknown" : Str) ≠ "words" ∧ ("unknown" : Str) ≠ "at") := by decide +kernel
theorem mn_power : (("power" : Str) ≠ "words" ∧ ("power" : Str) ≠ "at") := by decide +kernel
theorem mn_fraction : (("fraction" : Str) ≠ "words" ∧ ("fraction" : Str) ≠ "at") := by decide +kernel
theorem mn_term : (("term" : Str) ≠ "words" ∧ ("term" : Str) ≠ "at") := by decide +kernel
theorem mn_terms : (("terms" : Str) ≠ "words" ∧ ("terms" : Str) ≠ "at") := by decide +kernel
theorem mn_compared : (("compared" : Str) ≠ "words" ∧ ("compared" : Str) ≠ "at") := by decide +kernel
theorem mn_unit : (("unit" : Str) ≠ "words" ∧ ("unit" : Str) ≠ "at") := by decide +kernel
theorem mn_ands : (("ands" : Str) ≠ "words" ∧ ("ands" : Str) ≠ "at") := by decide +kernel
theorem mn_sentence : (("sentence" : Str) ≠ "words" ∧ ("sentence" : Str) ≠ "at") := by decide +kernel
noncomputable def appE (i : Nat) (p : D × Env) : SO := match p.2[i]? with
  | some (some (.lst xs)) => chkS (xs.length < sizeLine) (.nx (p.2.set i (some (.lst (xs ++ [p.1])))))
  | _ => .stuck
theorem sAppE_ap (i : Nat) (f : Env → Out (D × Env)) (ρ : Env) : sAppE i f ρ = match ρ[i]? with
    | some (some (.lst _)) => oS (f ρ) (appE i)
    | _ => .stuck := rfl
theorem appE_2 (v : D) (a b : Option D) (xs : List D) (ρ : Env) : appE 2 (v, a :: b :: some (.lst xs) :: ρ) = chkS (xs.length < sizeLine) (.nx (a :: b :: some (.lst (xs ++ [v])) :: ρ)) := rfl
local macro_rules | `(tactic| walk_at "pd") => `(tactic| simp only [sSeq_ap, sIf_ap, sSet_ap, sRet_ap, sExpr_ap, sAsg_ap, sFor_ap, sNx_ap, sBk_ap, sCt_ap, sRetN_ap, eC_ap, eV_0, eV_s, e2_ap, e1_ap, aN_ap, aC_ap, eA_ap, tOf_ap, bAnd_ap, bOr_ap, bNot_ap,
  vAnd_ap, vOr_ap, vNot_ap, eIf_ap, gN_ap, gT_ap, fnM_ap, iSeq_ap, sApp_ap, sPar_ap, iRange3_ap, eL_0, eL_s, gT_lst, nox_ok, nox_stuck, eSl_ap, oN_ap, oI_ap, eSlSt_ap, eS2_ap, eLc_ap, bYes_ap, eGet2_ap, sPut_ap, wipeE_nil, wipeE_cons, dSl_lst, dSl_tup, dSl_scr, cList_lst, cList_tup, cTuple_lst, cTuple_tup, iRange1_ap, iRange2_ap, mkTup_0, mkTup_1, mkTup_2, mkTup_3, mkTup_4, mkLst_0, mkLst_1, mkLst_2, mkLst_3, mkLst_4, dAdd_int, dSub_int, dNeg_int, dLt_int, dLe_int, dGt_int, dGe_int, dEq_int, dNe_int, cLen_scr, cLen_lst, cLen_tup, cInt_bl, cInt_int, cMax_int, cMin_int, cAbs_int, cIsi_int, cIsi_int_bool,
  andThen_ite, turn_ite, res_ite, bind_ite, oS_ite, turn_nx, turn_ct, turn_bk, turn_rt, turn_ex, turn_stuck, res_rt, res_nx, res_ex, decide_eq_true_eq,
  oS_ok, oS_exc, oS_stuck, Out.bind_ok, Out.bind_exc, Out.bind_stuck, andThen_nx, andThen_rt, andThen_bk, andThen_ct, andThen_ex, andThen_stuck,
  List.length_cons, List.length_nil, List.map_cons, List.map_nil, List.replicate_succ, List.replicate_zero, List.cons_append, List.nil_append, List.set_cons_zero, List.set_cons_succ, List.zip_cons_cons, List.zip_nil_right, List.foldl_cons, List.foldl_nil,
  Nat.reduceAdd, Nat.reduceSub, Nat.zero_add, if_true, if_false, ite_true, ite_false, Bool.false_eq_true, reduceIte, decide_eq_true_eq, decide_true, decide_false, Bool.not_true, Bool.not_false])
local macro_rules | `(tactic| walk_at "pda") => `(tactic| simp only [*, sSeq_ap, sIf_ap, sSet_ap, sRet_ap, sExpr_ap, sAsg_ap, sFor_ap, sNx_ap, sBk_ap, sCt_ap, sRetN_ap, eC_ap, eV_0, eV_s, e2_ap, e1_ap, aN_ap, aC_ap, eA_ap, tOf_ap, bAnd_ap, bOr_ap, bNot_ap,
  vAnd_ap, vOr_ap, vNot_ap, eIf_ap, gN_ap, gT_ap, fnM_ap, iSeq_ap, sApp_ap, sPar_ap, iRange3_ap, eL_0, eL_s, gT_lst, nox_ok, nox_stuck, eSl_ap, oN_ap, oI_ap, eSlSt_ap, eS2_ap, eLc_ap, bYes_ap, eGet2_ap, sPut_ap, wipeE_nil, wipeE_cons, dSl_lst, dSl_tup, dSl_scr, cList_lst, cList_tup, cTuple_lst, cTuple_tup, iRange1_ap, iRange2_ap, mkTup_0, mkTup_1, mkTup_2, mkTup_3, mkTup_4, mkLst_0, mkLst_1, mkLst_2, mkLst_3, mkLst_4, dAdd_int, dSub_int, dNeg_int, dLt_int, dLe_int, dGt_int, dGe_int, dEq_int, dNe_int, cLen_scr, cLen_lst, cLen_tup, cInt_bl, cInt_int, cMax_int, cMin_int, cAbs_int, cIsi_int, cIsi_int_bool,
  andThen_ite, turn_ite, res_ite, bind_ite, oS_ite, turn_nx, turn_ct, turn_bk, turn_rt, turn_ex, turn_stuck, res_rt, res_nx, res_ex, decide_eq_true_eq,
  oS_ok, oS_exc, oS_stuck, Out.bind_ok, Out.bind_exc, Out.bind_stuck, andThen_nx, andThen_rt, andThen_bk, andThen_ct, andThen_ex, andThen_stuck,
  List.length_cons, List.length_nil, List.map_cons, List.map_nil, List.replicate_succ, List.replicate_zero, List.cons_append, List.nil_append, List.set_cons_zero, List.set_cons_succ, List.zip_cons_cons, List.zip_nil_right, List.foldl_cons, List.foldl_nil,
  Nat.reduceAdd, Nat.reduceSub, Nat.zero_add, if_true, if_false, ite_true, ite_false, Bool.false_eq_true, reduceIte, decide_eq_true_eq, decide_true, decide_false, Bool.not_true, Bool.not_false])
local macro_rules | `(tactic| walk_at "wk") => `(tactic| simp only [chk_bind, oS_chk, chkS_andThen, chkS_turn, chkS_res, chk_nox, cont_chkS, cont_nx, cont_ct, cont_rt, cont_bk, cont_ite, chk_true, chkS_true, mul_chk, div_chk, mod_chk, p2, p3, p4, p5, p6, p7, p8, p9, p10, p11, p12, p13, p14, p15, p16, p18, p20, p22, p24, p25, p26, p27, p28, p29, p30, p35, p40, p60, rng1_chk, rng2_chk, ixt0, ixt1, ixt2, ixt3, ixl0, ixl1, ixl2, ixl3, sForR_ap, sRow_ap, eD_0, eD_s, asL_none, asL_some, sSeq_ap, sIf_ap, sSet_ap, sRet_ap, sExpr_ap, sAsg_ap, sFor_ap, sNx_ap, sBk_ap, sCt_ap, sRetN_ap, eC_ap, eV_0, eV_s, e2_ap, e1_ap, aN_ap, aC_ap, eA_ap, tOf_ap, bAnd_ap, bOr_ap, bNot_ap,
  vAnd_ap, vOr_ap, vNot_ap, eIf_ap, gN_ap, gT_ap, fnM_ap, iSeq_ap, sApp_ap, sPar_ap, iRange3_ap, eL_0, eL_s, gT_lst, nox_ok, nox_stuck, eSl_ap, oN_ap, oI_ap, eSlSt_ap, eS2_ap, eLc_ap, bYes_ap, eGet2_ap, sPut_ap, wipeE_nil, wipeE_cons, dSl_lst, dSl_tup, dSl_scr, cList_lst, cList_tup, cTuple_lst, cTuple_tup, iRange1_ap, iRange2_ap, mkTup_0, mkTup_1, mkTup_2, mkTup_3, mkTup_4, mkLst_0, mkLst_1, mkLst_2, mkLst_3, mkLst_4, dAdd_int, dSub_int, dNeg_int, dLt_int, dLe_int, dGt_int, dGe_int, dEq_int, dNe_int, cLen_scr, cLen_lst, cLen_tup, cInt_bl, cInt_int, cMax_int, cMin_int, cAbs_int, cIsi_int, cIsi_int_bool,
  andThen_ite, turn_ite, res_ite, bind_ite, oS_ite, turn_nx, turn_ct, turn_bk, turn_rt, turn_ex, turn_stuck, res_rt, res_nx, res_ex, decide_eq_true_eq,
  oS_ok, oS_exc, oS_stuck, Out.bind_ok, Out.bind_exc, Out.bind_stuck, andThen_nx, andThen_rt, andThen_bk, andThen_ct, andThen_ex, andThen_stuck,
  List.length_cons, List.length_nil, List.map_cons, List.map_nil, List.replicate_succ, List.replicate_zero, List.cons_append, List.nil_append, List.set_cons_zero, List.set_cons_succ, List.zip_cons_cons, List.zip_nil_right, List.foldl_cons, List.foldl_nil,
  Nat.reduceAdd, Nat.reduceSub, Nat.zero_add, if_true, if_false, ite_true, ite_false, Bool.false_eq_true, reduceIte, decide_eq_true_eq, decide_true, decide_false, Bool.not_true, Bool.not_false])
local macro_rules | `(tactic| walk_at "wka") => `(tactic| simp only [*, chk_bind, oS_chk, chkS_andThen, chkS_turn, chkS_res, chk_nox, cont_chkS, cont_nx, cont_ct, cont_rt, cont_bk, cont_ite, chk_true, chkS_true, mul_chk, div_chk, mod_chk, p2, p3, p4, p5, p6, p7, p8, p9, p10, p11, p12, p13, p14, p15, p16, p18, p20, p22, p24, p25, p26, p27, p28, p29, p30, p35, p40, p60, rng1_chk, rng2_chk, ixt0, ixt1, ixt2, ixt3, ixl0, ixl1, ixl2, ixl3, sForR_ap, sRow_ap, eD_0, eD_s, asL_none, asL_some, sSeq_ap, sIf_ap, sSet_ap, sRet_ap, sExpr_ap, sAsg_ap, sFor_ap, sNx_ap, sBk_ap, sCt_ap, sRetN_ap, eC_ap, eV_0, eV_s, e2_ap, e1_ap, aN_ap, aC_ap, eA_ap, tOf_ap, bAnd_ap, bOr_ap, bNot_ap,
  vAnd_ap, vOr_ap, vNot_ap, eIf_ap, gN_ap, gT_ap, fnM_ap, iSeq_ap, sApp_ap, sPar_ap, iRange3_ap, eL_0, eL_s, gT_lst, nox_ok, nox_stuck, eSl_ap, oN_ap, oI_ap, eSlSt_ap, eS2_ap, eLc_ap, bYes_ap, eGet2_ap, sPut_ap, wipeE_nil, wipeE_cons, dSl_lst, dSl_tup, dSl_scr, cList_lst, cList_tup, cTuple_lst, cTuple_tup, iRange1_ap, iRange2_ap, mkTup_0, mkTup_1, mkTup_2, mkTup_3, mkTup_4, mkLst_0, mkLst_1, mkLst_2, mkLst_3, mkLst_4, dAdd_int, dSub_int, dNeg_int, dLt_int, dLe_int, dGt_int, dGe_int, dEq_int, dNe_int, cLen_scr, cLen_lst, cLen_tup, cInt_bl, cInt_int, cMax_int, cMin_int, cAbs_int, cIsi_int, cIsi_int_bool,
  andThen_ite, turn_ite, res_ite, bind_ite, oS_ite, turn_nx, turn_ct, turn_bk, turn_rt, turn_ex, turn_stuck, res_rt, res_nx, res_ex, decide_eq_true_eq,
  oS_ok, oS_exc, oS_stuck, Out.bind_ok, Out.bind_exc, Out.bind_stuck, andThen_nx, andThen_rt, andThen_bk, andThen_ct, andThen_ex, andThen_stuck,
  List.length_cons, List.length_nil, List.map_cons, List.map_nil, List.replicate_succ, List.replicate_zero, List.cons_append, List.nil_append, List.set_cons_zero, List.set_cons_succ, List.zip_cons_cons, List.zip_nil_right, List.foldl_cons, List.foldl_nil,
  Nat.reduceAdd, Nat.reduceSub, Nat.zero_add, if_true, if_false, ite_true, ite_false, Bool.false_eq_true, reduceIte, decide_eq_true_eq, decide_true, decide_false, Bool.not_true, Bool.not_false])
local macro_rules | `(tactic| walk_at "go") => `(tactic| repeat (first | refine chk_go (by first | assumption | decide | omega | exact cmul_sz (by assumption) (by assumption) (by decide)) ?_ | refine chkS_go (by first | assumption | decide | omega | exact cmul_sz (by assumption) (by assumption) (by decide)) ?_ | walk_at "wka"))
local macro_rules | `(tactic| walk_at "kw") => `(tactic| simp only [kw_less_less, kw_less_most, kw_less_equal, kw_less_unlike, kw_less_both, kw_less_either, kw_less_not, kw_less_some, kw_less_all, kw_less_yes, kw_less_no, kw_most_less, kw_most_most, kw_most_equal, kw_most_unlike, kw_most_both, kw_most_either, kw_most_not, kw_most_some, kw_most_all, kw_most_yes, kw_most_no, kw_equal_less, kw_equal_most, kw_equal_equal, kw_equal_unlike, kw_equal_both, kw_equal_either, kw_equal_not, kw_equal_some, kw_equal_all, kw_equal_yes, kw_equal_no, kw_unlike_less, kw_unlike_most, kw_unlike_equal, kw_unlike_unlike, kw_unlike_both, kw_unlike_either, kw_unlike_not, kw_unlike_some, kw_unlike_all, kw_unlike_yes, kw_unlike_no, kw_both_less, kw_both_most, kw_both_equal, kw_both_unlike, kw_both_both, kw_both_either, kw_both_not, kw_both_some, kw_both_all, kw_both_yes, kw_both_no, kw_either_less, kw_either_most, kw_either_equal, kw_either_unlike, kw_either_both, kw_either_either, kw_either_not, kw_either_some, kw_either_all, kw_either_yes, kw_either_no, kw_not_less, kw_not_most, kw_not_equal, kw_not_unlike, kw_not_both, kw_not_either, kw_not_not, kw_not_some, kw_not_all, kw_not_yes, kw_not_no, kw_some_less, kw_some_most, kw_some_equal, kw_some_unlike, kw_some_both, kw_some_either, kw_some_not, kw_some_some, kw_some_all, kw_some_yes, kw_some_no, kw_all_less, kw_all_most, kw_all_equal, kw_all_unlike, kw_all_both, kw_all_either, kw_all_not, kw_all_some, kw_all_all, kw_all_yes, kw_all_no, kw_yes_less, kw_yes_most, kw_yes_equal, kw_yes_unlike, kw_yes_both, kw_yes_either, kw_yes_not, kw_yes_some, kw_yes_all, kw_yes_yes, kw_yes_no, kw_no_less, kw_no_most, kw_no_equal, kw_no_unlike, kw_no_both, kw_no_either, kw_no_not, kw_no_some, kw_no_all, kw_no_yes, kw_no_no, kn_less_less, kn_less_most, kn_less_equal, kn_less_unlike, kn_less_both, kn_less_either, kn_less_not, kn_less_some, kn_less_all, kn_less_yes, kn_less_no, kn_most_less, kn_most_most, kn_most_equal, kn_most_unlike, kn_most_both, kn_most_either, kn_most_not, kn_most_some, kn_most_all, kn_most_yes, kn_most_no, kn_equal_less, kn_equal_most, kn_equal_equal, kn_equal_unlike, kn_equal_both, kn_equal_either, kn_equal_not, kn_equal_some, kn_equal_all, kn_equal_yes, kn_equal_no, kn_unlike_less, kn_unlike_most, kn_unlike_equal, kn_unlike_unlike, kn_unlike_both, kn_unlike_either, kn_unlike_not, kn_unlike_some, kn_unlike_all, kn_unlike_yes, kn_unlike_no, kn_both_less, kn_both_most, kn_both_equal, kn_both_unlike, kn_both_both, kn_both_either, kn_both_not, kn_both_some, kn_both_all, kn_both_yes, kn_both_no, kn_either_less, kn_either_most, kn_either_equal, kn_either_unlike, kn_either_both, kn_either_either, kn_either_not, kn_either_some, kn_either_all, kn_either_yes, kn_either_no, kn_not_less, kn_not_most, kn_not_equal, kn_not_unlike, kn_not_both, kn_not_either, kn_not_not, kn_not_some, kn_not_all, kn_not_yes, kn_not_no, kn_some_less, kn_some_most, kn_some_equal, kn_some_unlike, kn_some_both, kn_some_either, kn_some_not, kn_some_some, kn_some_all, kn_some_yes, kn_some_no, kn_all_less, kn_all_most, kn_all_equal, kn_all_unlike, kn_all_both, kn_all_either, kn_all_not, kn_all_some, kn_all_all, kn_all_yes, kn_all_no, kn_yes_less, kn_yes_most, kn_yes_equal, kn_yes_unlike, kn_yes_both, kn_yes_either, kn_yes_not, kn_yes_some, kn_yes_all, kn_yes_yes, kn_yes_no, kn_no_less, kn_no_most, kn_no_equal, kn_no_unlike, kn_no_both, kn_no_either, kn_no_not, kn_no_some, kn_no_all, kn_no_yes, kn_no_no, ki_less, ki_most, ki_equal, ki_unlike, ki_both, ki_either, ki_not, ki_some, ki_all, ki_yes, ki_no])
local macro_rules | `(tactic| walk_at "gos") => `(tactic| repeat (first | refine chk_go (by first | with_reducible assumption | decide | omega | exact cmul_sz (by with_reducible assumption) (by with_reducible assumption) (by decide) | assumption) ?_ | refine chkS_go (by first | with_reducible assumption | decide | omega | exact cmul_sz (by with_reducible assumption) (by with_reducible assumption) (by decide) | assumption) ?_ | walk_at "wka" | walk_at "kw" | simp only [sLM_ap, lmExtend_tup, lmExtend_lst, lmInsert_ap, sDPop_ap, eDisp_ap, pC_ap, pN_ap, eSlS2_ap]))
local macro_rules | `(tactic| walk_at "gox") => `(tactic| repeat (first | refine chk_go (by first | with_reducible assumption | decide | omega | exact cmul_sz (by with_reducible assumption) (by with_reducible assumption) (by decide) | assumption) ?_ | refine chkS_go (by first | with_reducible assumption | decide | omega | exact cmul_sz (by with_reducible assumption) (by with_reducible assumption) (by decide) | assumption) ?_ | walk_at "wka" | walk_at "kw" | simp only [*, sLM_ap, lmExtend_tup, lmExtend_lst, lmInsert_ap, sDPop_ap, eDisp_ap, pC_ap, pN_ap, eSlS2_ap, sRaise_ap, eX1_ap, eX2_ap, xP_ap, ySet_ap, yExpr_ap, yIf_ap, sTry_ap, tryO_ok, tryO_exc, hand_nil, gone_nx, gone_rt, calm_nx, calm_rt, eAt_ap, isN_exn, isN_non]))
local macro_rules | `(tactic| walk_at "goi") => `(tactic| repeat (first | refine chk_go (by first | with_reducible assumption | decide | omega | exact cmul_sz (by with_reducible assumption) (by with_reducible assumption) (by decide) | assumption) ?_ | refine chkS_go (by first | with_reducible assumption | decide | omega | exact cmul_sz (by with_reducible assumption) (by with_reducible assumption) (by decide) | assumption) ?_ | walk_at "wka" | walk_at "kw" | simp only [*, eFld_d, eMth_d, eMake_d, eMk0_d, sLM_ap, lmExtend_tup, lmExtend_lst, lmInsert_ap, sDPop_ap, eDisp_ap, pC_ap, pN_ap, eSlS2_ap, sRaise_ap, eX1_ap, eX2_ap, xP_ap, ySet_ap, yExpr_ap, yIf_ap, sTry_ap, tryO_ok, tryO_exc, hand_nil, gone_nx, gone_rt, calm_nx, calm_rt, eAt_ap, isN_exn, isN_non]))
local macro_rules | `(tactic| walk_at "gor") => `(tactic| repeat (first | refine chk_go (by first | with_reducible assumption | decide | omega | exact cmul_sz (by with_reducible assumption) (by with_reducible assumption) (by decide) | assumption) ?_ | refine chkS_go (by first | with_reducible assumption | decide | omega | exact cmul_sz (by with_reducible assumption) (by with_reducible assumption) (by decide) | assumption) ?_ | walk_at "wka" | walk_at "kw" | simp only [*, eFld_d, eMth_d, eMake_d, eMk0_d, sLM_ap, lmExtend_tup, lmExtend_lst, lmInsert_ap, sDPop_ap, eDisp_ap, pC_ap, pN_ap, eSlS2_ap, sRaise_ap, eX1_ap, eX2_ap, xP_ap, ySet_ap, yExpr_ap, yIf_ap, sTry_ap, tryO_ok, tryO_exc, hand_nil, gone_nx, gone_rt, calm_nx, calm_rt, eAt_ap, isN_exn, isN_non, mnM_ap, resM_rt, resM_rd, resM_ex, uP_ap, uN_ap, uC_ap, uA_ap, u2_ap, qOf_ap, blE_bl, qP_ap, qNot_ap, qAnd_ap, qOr_ap, sExprE_ap, sSetE_ap, sIfE_ap, sAsgE_ap, sRetE_ap, sRetM_ap, retM_rd, fld_at, fld_words, sFld_rd, unR_rt, sAppE_ap, appE_2, uMk_0 mn_here, uMk_0 mn_taken, uMk_0 mn_must, uMk_0 mn_one_of, uMk_0 mn_unknown, uMk_0 mn_power, uMk_0 mn_fraction, uMk_0 mn_term, uMk_0 mn_terms, uMk_0 mn_compared, uMk_0 mn_unit, uMk_0 mn_ands, uMk_0 mn_sentence, uMk_1 mn_here, uMk_1 mn_sentence]))
abbrev S (l : List Nat) : Str := ⟨l.toArray⟩
theorem S_list (l : List Nat) : (S l).cps.toList = l := rfl
theorem S_len (l : List Nat) : (S l).length = l.length := by show l.toArray.size = _; simp
theorem S_app (a b : List Nat) : S a ++ S b = S (a ++ b) := by
  show Str.append _ _ = _
  unfold Str.append
  simp
theorem S_inj {a b : List Nat} : S a = S b ↔ a = b := by
  constructor
  · intro h
    have := congrArg (fun s : Str => s.cps.toList) h
    simpa using this
  · intro h; rw [h]
theorem S_beq (a b : List Nat) : (S a == S b) = decide (a = b) := by
  by_cases h : a = b
  · subst h; simp
  · rw [decide_eq_false h]
    exact beq_eq_false_iff_ne.mpr fun z => h (S_inj.mp z)
theorem dAdd_S {a b : List Nat} (h : a.length + b.length ≤ 16777216) : dAdd (.str (S a)) (.str (S b)) = .ok (.str (S (a ++ b))) := by
  show ((Out.stuck : Out D).or ((dAddS (.str (S a)) (.str (S b))).or _)) = _
  have e : dAddS (.str (S a)) (.str (S b)) = .ok (.str (S (a ++ b))) := by
    show chk _ (Out.ok (D.str (S a ++ S b))) = _
    rw [S_app]
    exact chk_pos (by rw [S_len, S_len]; exact h)
  rw [e]; rfl
theorem dIx_S {l : List Nat} {k : Nat} {c : Nat} (h : l[k]? = some c) (z : l.length ≤ 16777216) : dIx (.str (S l)) (.int k) = .ok (.str (S [c])) := by
  show chk _ (match atI (S l).cps.toList (k : Nat) with | some c => Out.ok (D.str ⟨#[c]⟩) | none => .stuck) = _
  rw [S_list, atI_nat h]
  exact chk_pos (by rw [S_len]; exact z)
theorem cLen_S {l : List Nat} (z : l.length ≤ 16777216) : cLen [.str (S l)] = .ok (.int l.length) := by
  show chk _ (Out.ok (D.int (S l).length)) = _
  rw [S_len]
  exact chk_pos z
theorem dSl_S {l : List Nat} (z : l.length ≤ 16777216) (lo hi : Option Int) : dSl (.str (S l)) lo hi = .ok (.str (S (cutD l lo hi))) := by
  have e := dSl_str (z := S l) (by rw [S_len]; exact z) lo hi
  rw [e]
  have : cutS (S l) lo hi = S (cutD l lo hi) := by
    unfold cutS cutD
    rw [S_len]
  rw [this]
def abc : List Nat := [97, 98, 99, 100, 101, 102, 103, 104, 105, 106, 107, 108, 109, 110, 111, 112, 113, 114, 115, 116, 117, 118, 119, 120, 121, 122]
theorem abc_str : Str.ofString "abcdefghijklmnopqrstuvwxyz" = S abc := by decide +kernel
theorem abc_at {i : Int} (h0 : 0 ≤ i) (h1 : i < 26) : dIx (.str (S abc)) (.int i) = .ok (.str (S [97 + i.toNat])) := by
  have e : i = (i.toNat : Int) := by omega
  have hl : i.toNat < 26 := by omega
  rw [e]
  generalize i.toNat = k at hl
  rw [Int.toNat_natCast]
  refine dIx_S ?_ (by decide)
  have : ∀ k : Nat, k < 26 → abc[k]? = some (97 + k) := by decide
  exact this k hl
structure Nm (l : List Nat) : Prop where
  pos : 1 ≤ l.length
  len : l.length ≤ 10
  let_ : ∀ c ∈ l, 97 ≤ c ∧ c ≤ 122
def words : List (List Nat) := [[115, 111, 109, 101], [97, 108, 108], [97, 110, 100], [111, 114], [110, 111, 116], [121, 101, 115], [110, 111]]
def fit (l : List Nat) : List Nat := if l ∈ words then l ++ [113] else l
section
variable {κ ν : Type} [DecidableEq κ]
def fnd : List (κ × ν) → κ → Option ν
  | [], _ => none
  | q :: l, m => if q.1 = m then some q.2 else fnd l m
def put : List (κ × ν) → κ → ν → List (κ × ν)
  | [], m, z => [(m, z)]
  | q :: l, m, z => if q.1 = m then (m, z) :: l else q :: put l m z
theorem fnd_put (l : List (κ × ν)) (m k : κ) (z : ν) : fnd (put l m z) k = if m = k then some z else fnd l k := by
  induction l with
  | nil => simp only [put, fnd]
  | cons q l ih =>
    simp only [put]
    by_cases c : q.1 = m
    · rw [if_pos c]
      simp only [fnd]
      by_cases d : m = k
      · rw [if_pos d, if_pos d]
      · rw [if_neg d, if_neg d, if_neg (fun y => d (c.symm.trans y))]
    · rw [if_neg c]
      simp only [fnd, ih]
      by_cases d : q.1 = k
      · rw [if_pos d, if_pos d, if_neg (fun y => c (d.trans y.symm))]
      · rw [if_neg d, if_neg d]
theorem fnd_none {l : List (κ × ν)} {m : κ} : fnd l m = none ↔ m ∉ l.map (·.1) := by
  induction l with
  | nil => simp [fnd]
  | cons q l ih =>
    simp only [fnd, List.map_cons, List.mem_cons, not_or]
    by_cases c : q.1 = m
    · rw [if_pos c]
      constructor
      · intro z; cases z
      · intro z; exact absurd c.symm z.1
    · rw [if_neg c, ih]
      exact ⟨fun z => ⟨fun y => c y.symm, z⟩, fun z => z.2⟩
theorem put_keys (l : List (κ × ν)) (m : κ) (z : ν) : (put l m z).map (·.1) = if m ∈ l.map (·.1) then l.map (·.1) else l.map (·.1) ++ [m] := by
  induction l with
  | nil => simp [put]
  | cons q l ih =>
    simp only [put]
    by_cases c : q.1 = m
    · rw [if_pos c, if_pos (by simp [c])]
      simp [c]
    · rw [if_neg c, List.map_cons, ih]
      by_cases d : m ∈ l.map (·.1)
      · rw [if_pos d, if_pos (by rw [List.map_cons]; exact List.mem_cons_of_mem _ d)]
        rfl
      · rw [if_neg d, if_neg (by rw [List.map_cons, List.mem_cons, not_or]; exact ⟨fun y => c y.symm, d⟩)]
        rfl
theorem put_nodup {l : List (κ × ν)} (h : (l.map (·.1)).Nodup) (m : κ) (z : ν) : ((put l m z).map (·.1)).Nodup := by
  rw [put_keys]
  by_cases c : m ∈ l.map (·.1)
  · rw [if_pos c]; exact h
  · rw [if_neg c]
    exact List.nodup_append.mpr ⟨h, by simp, fun x hx y hy => by
      have : y = m := by simpa using hy
      subst this
      intro e; subst e; exact c hx⟩
theorem put_len (l : List (κ × ν)) (m : κ) (z : ν) : (put l m z).length ≤ l.length + 1 := by
  have := congrArg List.length (put_keys l m z)
  rw [List.length_map] at this
  rw [this]
  split <;> simp
theorem put_mem {l : List (κ × ν)} {m : κ} {z : ν} : ∀ k ∈ (put l m z).map (·.1), k = m ∨ k ∈ l.map (·.1) := by
  intro k hk
  rw [put_keys] at hk
  split at hk
  · exact .inr hk
  · rcases List.mem_append.mp hk with h | h
    · exact .inr h
    · exact .inl (by simpa using h)
theorem fnd_mem : ∀ {l : List (κ × ν)} {m : κ} {z : ν}, (l.map (·.1)).Nodup → (fnd l m = some z ↔ (m, z) ∈ l)
  | [], m, z, _ => by simp [fnd]
  | q :: l, m, z, h => by
    rw [List.map_cons, List.nodup_cons] at h
    simp only [fnd, List.mem_cons]
    by_cases c : q.1 = m
    · rw [if_pos c]
      constructor
      · intro e
        exact .inl (Prod.ext c.symm (Option.some.inj e).symm)
      · intro e
        rcases e with e | e
        · rw [← e]
        · exact absurd (List.mem_map.mpr ⟨(m, z), e, rfl⟩) (by rw [← c]; exact h.1)
    · rw [if_neg c, fnd_mem h.2]
      constructor
      · exact .inr
      · intro e
        rcases e with e | e
        · exact absurd (by rw [← e]) c
        · exact e

open Classical in
theorem dicGet_E {enc : κ → D} {ev : ν → D} (inj : ∀ {a b}, enc a = enc b → a = b) (l : List (κ × ν)) (m : κ) : dicGet (l.map fun q => (enc q.1, ev q.2)) (enc m) = (fnd l m).map ev := by
  induction l with
  | nil => rfl
  | cons q l ih =>
    rw [List.map_cons]
    simp only [fnd]
    by_cases c : q.1 = m
    · rw [if_pos c, dicGet_pos (show ((enc q.1, ev q.2) : D × D).1 = enc m by rw [← c])]; rfl
    · rw [if_neg c, dicGet_neg (fun z => c (inj z)), ih]
open Classical in
theorem dicPut_E {enc : κ → D} {ev : ν → D} (inj : ∀ {a b}, enc a = enc b → a = b) {l : List (κ × ν)} (h : (l.map (·.1)).Nodup) (m : κ) (z : ν) : dicPut (l.map fun q => (enc q.1, ev q.2)) (enc m) (ev z) = (put l m z).map fun q => (enc q.1, ev q.2) := by
  unfold dicPut
  rw [dicGet_any, dicGet_E inj]
  by_cases c : m ∈ l.map (·.1)
  · have : (fnd l m).isSome = true := by
      cases e : fnd l m with
      | none => exact absurd c (fnd_none.mp e)
      | some y => rfl
    rw [Option.isSome_map, if_pos this]
    clear this
    induction l with
    | nil => exact nomatch c
    | cons q l ih =>
      rw [List.map_cons, List.nodup_cons] at h
      rw [List.map_cons, List.map_cons]
      simp only [put]
      by_cases d : q.1 = m
      · rw [if_pos d, List.map_cons, if_pos (show enc q.1 = enc m by rw [← d])]
        rw [show ((enc q.1, ev z) : D × D) = (enc m, ev z) by rw [← d]]
        congr 1
        rw [List.map_map]
        refine List.map_congr_left fun r hr => ?_
        show (if enc r.1 = enc m then _ else _) = _
        rw [if_neg]
        intro y
        have y' : r.1 = m := inj y
        exact h.1 (by rw [d]; exact List.mem_map.mpr ⟨r, hr, y'⟩)
      · rw [if_neg d, List.map_cons, if_neg (show ¬ enc q.1 = enc m from fun y => d (inj y))]
        rw [List.map_cons] at c
        rw [ih h.2 ((List.mem_cons.mp c).resolve_left fun y => d y.symm)]
  · have : fnd l m = none := fnd_none.mpr c
    rw [this, if_neg (by simp)]
    clear this
    induction l with
    | nil => rfl
    | cons q l ih =>
      rw [List.map_cons, List.mem_cons, not_or] at c
      rw [List.map_cons, List.nodup_cons] at h
      rw [List.map_cons, List.cons_append, ih h.2 c.2]
      simp only [put]
      rw [if_neg (fun y => c.1 y.symm), List.map_cons]
def tot (l : List (κ × Int)) : List (κ × Int) → List (κ × Int)
  | [] => l
  | q :: ps => tot (put l q.1 ((fnd l q.1).getD 0 + q.2)) ps
def sumOf : List (κ × Int) → κ → Int
  | [], _ => 0
  | q :: ps, m => (if q.1 = m then q.2 else 0) + sumOf ps m
theorem tot_nodup : ∀ (ps l : List (κ × Int)), (l.map (·.1)).Nodup → ((tot l ps).map (·.1)).Nodup
  | [], _, h => h
  | q :: ps, l, h => tot_nodup ps _ (put_nodup h _ _)
theorem tot_mem : ∀ (ps l : List (κ × Int)), ∀ k ∈ (tot l ps).map (·.1), k ∈ l.map (·.1) ∨ k ∈ ps.map (·.1)
  | [], l, k, h => .inl h
  | q :: ps, l, k, h => by
    rcases tot_mem ps _ k h with z | z
    · rcases put_mem k z with y | y
      · exact .inr (by simp [y])
      · exact .inl y
    · exact .inr (by rw [List.map_cons]; exact List.mem_cons_of_mem _ z)
theorem tot_len : ∀ (ps l : List (κ × Int)), (tot l ps).length ≤ l.length + ps.length
  | [], l => by simp [tot]
  | q :: ps, l => by
    have h1 := tot_len ps (put l q.1 ((fnd l q.1).getD 0 + q.2))
    have h2 := put_len l q.1 ((fnd l q.1).getD 0 + q.2)
    simp only [tot, List.length_cons]
    omega
theorem tot_sum : ∀ (ps l : List (κ × Int)) (m : κ), (fnd (tot l ps) m).getD 0 = (fnd l m).getD 0 + sumOf ps m
  | [], l, m => by simp [tot, sumOf]
  | q :: ps, l, m => by
    simp only [tot, sumOf]
    rw [tot_sum ps, fnd_put]
    by_cases c : q.1 = m
    · rw [if_pos c, if_pos c, c, Option.getD_some]
      omega
    · rw [if_neg c, if_neg c]
      omega
theorem tot_has (ps : List (κ × Int)) {m : κ} {z : Int} (hz : z ≠ 0) : (m, z) ∈ tot [] ps ↔ sumOf ps m = z := by
  rw [← fnd_mem (tot_nodup ps [] List.nodup_nil)]
  have h := tot_sum ps [] m
  simp only [fnd, Option.getD_none, Int.zero_add] at h
  rw [← h]
  cases e : fnd (tot [] ps) m with
  | none =>
    simp only [Option.getD_none]
    constructor
    · intro y; cases y
    · intro y; exact absurd y.symm hz
  | some y =>
    simp only [Option.getD_some, Option.some.injEq]
theorem sumOf_app (a b : List (κ × Int)) (m : κ) : sumOf (a ++ b) m = sumOf a m + sumOf b m := by
  induction a with
  | nil => simp [sumOf]
  | cons q a ih => simp only [List.cons_append, sumOf, ih]; omega
end
theorem dataLt_asym {x y : PyData} (h : dataLt x y = true) : dataLt y x = false := by
  cases e : dataLt y x with
  | false => rfl
  | true =>
    have := PyProof.Rows.lex_trans _ _ _ h e
    rw [PyProof.Rows.lex_irrefl] at this
    cases this
theorem dataLe_trans {β : Type} (k : β → PyData) (a b c : β) (h1 : dataLe false k a b = true) (h2 : dataLe false k b c = true) : dataLe false k a c = true := by
  rw [PySem.W.dataLe_eq] at *
  simp only [cond_false, Bool.not_eq_true'] at *
  cases e : dataLt (k c) (k a) with
  | false => rfl
  | true =>
    rcases PyProof.Rows.lex_negTrans _ (keyToks (k b)) _ e with z | z
    · exact absurd (show dataLt (k c) (k b) = true from z) (by rw [h2]; exact Bool.false_ne_true)
    · exact absurd (show dataLt (k b) (k a) = true from z) (by rw [h1]; exact Bool.false_ne_true)
theorem dataLe_total {β : Type} (k : β → PyData) (a b : β) : (dataLe false k a b || dataLe false k b a) = true := by
  rw [PySem.W.dataLe_eq]
  simp only [cond_false]
  cases e : dataLt (k b) (k a) with
  | false => rfl
  | true => rw [dataLt_asym e]; rfl
theorem str_tri {x y : List Nat} (h1 : ¬ x < y) (h2 : ¬ y < x) : x = y := by
  have e1 := PySem.W.dataLt_str (S x) (S y)
  have e2 := PySem.W.dataLt_str (S y) (S x)
  rw [S_list, S_list, decide_eq_false h1] at e1
  rw [S_list, S_list, decide_eq_false h2] at e2
  have := PyProof.Rows.lex_total _ _ e1 e2
  simpa [keyToks] using this
theorem sort_map {β : Type} (f : β → D) (l : List β) : sortD (l.map f) = (l.mergeSort (dataLe false fun b => toPy (f b))).map f := by
  unfold sortD
  exact (List.map_mergeSort (f := f) (r := dataLe false fun b => toPy (f b)) (s := dataLe false toPy) (l := l) fun a _ b _ => rfl).symm
theorem sort_pair {β : Type} (k : β → PyData) (l : List β) : (l.mergeSort (dataLe false k)).Pairwise fun a b => dataLt (k b) (k a) = false := by
  refine (List.pairwise_mergeSort (le := dataLe false k) (fun a b c => dataLe_trans k a b c) (fun a b => dataLe_total k a b) l).imp fun h => ?_
  rw [PySem.W.dataLe_eq] at h
  simpa using h
theorem alike_tri {x y : PyData} (h : alike x y = true) (h1 : dataLt x y = false) (h2 : dataLt y x = false) : PyData.eqv x y = true := by
  have e := PyProof.Rows.lex_total _ _ h1 h2
  cases q : PyData.eqv x y with
  | true => rfl
  | false =>
    have w := (PySem.W.toks_eqv x y h).2 q [] [.inl 0]
    rw [e] at w
    rw [PySem.W.lex_pre] at w
    rw [PyProof.Rows.lex_irrefl] at w
    exact absurd w (by decide)
abbrev Pr := List Nat × Int
abbrev Mn := List Pr
def encP (p : Pr) : D := .tup [.str (S p.1), .int p.2]
def encM (m : Mn) : D := .tup (m.map encP)
structure Mono (most : Int) (m : Mn) : Prop where
  nm : ∀ p ∈ m, Nm p.1 ∧ 1 ≤ p.2 ∧ p.2 ≤ most
  up : m.Pairwise fun p q => p.1 < q.1
  few : m.length ≤ 1000
theorem strOk_nm {l : List Nat} (h : Nm l) : PyData.strOk (S l) = true := by
  unfold PyData.strOk
  show (l.toArray.all fun x => decide (x < 0x110000)) = true
  rw [List.all_toArray, List.all_eq_true]
  intro c hc
  have := h.let_ c hc
  exact decide_eq_true (by omega)
theorem toPys_map (m : Mn) : toPys (m.map encP) = m.map fun p => .tuple [.str (S p.1), .int p.2] := by
  induction m with
  | nil => rfl
  | cons p m ih => simp only [List.map_cons, toPys, ih]; rfl
theorem toPy_M (m : Mn) : toPy (encM m) = .tuple (m.map fun p => .tuple [.str (S p.1), .int p.2]) := by
  show PyData.tuple (toPys _) = _
  rw [toPys_map]
theorem alike_Ms : ∀ (m m' : Mn), alikeAll (m.map fun p => PyData.tuple [.str (S p.1), .int p.2]) (m'.map fun p => .tuple [.str (S p.1), .int p.2]) = true
  | [], _ => by simp [alikeAll]
  | _ :: _, [] => by simp [alikeAll]
  | p :: m, q :: m' => by simp [alikeAll, alike, alike_Ms m m']
theorem alike_M (m m' : Mn) : alike (toPy (encM m)) (toPy (encM m')) = true := by
  rw [toPy_M, toPy_M]
  simp [alike, alike_Ms]
theorem encP_inj {p q : Pr} (h : encP p = encP q) : p = q := by
  unfold encP at h
  simp at h
  obtain ⟨h1, h2⟩ := h
  exact Prod.ext h1 h2
theorem map_encP_inj : ∀ {m m' : Mn}, m.map encP = m'.map encP → m = m'
  | [], [], _ => rfl
  | [], _ :: _, h => by simp at h
  | _ :: _, [], h => by simp at h
  | p :: m, q :: m', h => by
    rw [List.map_cons, List.map_cons] at h
    injection h with h1 h2
    rw [encP_inj h1, map_encP_inj h2]
theorem encM_inj {m m' : Mn} (h : encM m = encM m') : m = m' := by
  unfold encM at h
  injection h with h
  exact map_encP_inj h
theorem depth_Ms : ∀ m : Mn, PyData.depthAll (m.map fun p => PyData.tuple [.str (S p.1), .int p.2]) ≤ 1
  | [] => by simp [PyData.depthAll]
  | p :: m => by
    have := depth_Ms m
    have e : (PyData.tuple [.str (S p.1), .int p.2]).depth = 1 := rfl
    simp only [List.map_cons, PyData.depthAll, e]
    omega
theorem depth_M (m : Mn) : (toPy (encM m)).depth ≤ 2 := by
  rw [toPy_M]
  have := depth_Ms m
  simp only [PyData.depth]
  omega
theorem keys_Ms : ∀ m : Mn, (∀ p ∈ m, Nm p.1) → keysP (m.map fun p => PyData.tuple [.str (S p.1), .int p.2]) = true
  | [], _ => rfl
  | p :: m, h => by
    simp only [List.map_cons, keysP, keyP, Bool.and_true, Bool.and_eq_true]
    exact ⟨strOk_nm (h p List.mem_cons_self), keys_Ms m fun q hq => h q (List.mem_cons_of_mem _ hq)⟩
theorem kp_M {most : Int} {m : Mn} (h : Mono most m) : keyP (toPy (encM m)) = true := by
  rw [toPy_M]
  exact keys_Ms m fun p hp => (h.nm p hp).1
theorem tkey_M {most : Int} {m : Mn} (h : Mono most m) : TKey (toPy (encM m)) := by
  refine ⟨⟨_, toPy_M m⟩, ?_, by have := depth_M m; omega⟩
  rw [toPy_M]
  have := keys_Ms m fun p hp => (h.nm p hp).1
  cases m with
  | nil => rfl
  | cons p m => exact this
abbrev Tm := Mn × Int
def encQ (q : Tm) : D := .tup [encM q.1, .int q.2]
def encK (q : Tm) : D × D := (encM q.1, .int q.2)
def ltM (a b : Mn) : Bool := dataLt (toPy (encM a)) (toPy (encM b))
def keyQ (q : Tm) : PyData := toPy (encM q.1)
noncomputable def formOf (ps : List Tm) : List Tm := ((tot [] ps).mergeSort (dataLe false keyQ)).filter fun q => decide (q.2 ≠ 0)
theorem eqv_M {a b : Mn} (ha : ∀ p ∈ a, Nm p.1) (hb : ∀ p ∈ b, Nm p.1) (h : PyData.eqv (toPy (encM a)) (toPy (encM b)) = true) : a = b := by
  have k1 : keyP (toPy (encM a)) = true := by rw [toPy_M]; exact keys_Ms a ha
  have k2 : keyP (toPy (encM b)) = true := by rw [toPy_M]; exact keys_Ms b hb
  exact encM_inj (toPy_inj _ _ k1 ((eqv_key _ _ k1 k2).mp h))
theorem ltM_tri {a b : Mn} (ha : ∀ p ∈ a, Nm p.1) (hb : ∀ p ∈ b, Nm p.1) (h1 : ltM a b = false) (h2 : ltM b a = false) : a = b :=
  eqv_M ha hb (alike_tri (alike_M a b) h1 h2)
structure Form (most : Int) (f : List Tm) : Prop where
  mono : ∀ q ∈ f, Mono most q.1
  nz : ∀ q ∈ f, q.2 ≠ 0
  up : f.Pairwise fun a b => ltM a.1 b.1 = true
theorem form_is {most : Int} {ps : List Tm} (h : ∀ q ∈ ps, Mono most q.1) : Form most (formOf ps) ∧ (∀ q, q ∈ formOf ps ↔ q.2 ≠ 0 ∧ sumOf ps q.1 = q.2) ∧ (formOf ps).length ≤ ps.length := by
  have pm := List.mergeSort_perm (tot [] ps) (dataLe false keyQ)
  have hk : ∀ q ∈ tot [] ps, Mono most q.1 := fun q hq => by
    rcases tot_mem ps [] q.1 (List.mem_map.mpr ⟨q, hq, rfl⟩) with z | z
    · exact nomatch z
    · obtain ⟨r, hr, e⟩ := List.mem_map.mp z
      rw [← e]; exact h r hr
  have hm : ∀ q, q ∈ formOf ps ↔ q ∈ tot [] ps ∧ q.2 ≠ 0 := fun q => by
    unfold formOf
    rw [List.mem_filter, pm.mem_iff, decide_eq_true_eq]
  have nd : (((tot [] ps).mergeSort (dataLe false keyQ)).map (·.1)).Nodup := (pm.map _).nodup_iff.mpr (tot_nodup ps [] List.nodup_nil)
  refine ⟨⟨fun q hq => hk q ((hm q).mp hq).1, fun q hq => ((hm q).mp hq).2, ?_⟩, fun q => ?_, ?_⟩
  · refine List.Pairwise.filter _ ?_
    have h1 := sort_pair keyQ (tot [] ps)
    have h2 := List.pairwise_map.mp nd
    have h3 : ((tot [] ps).mergeSort (dataLe false keyQ)).Pairwise fun a b => a ∈ tot [] ps ∧ b ∈ tot [] ps := by
      refine List.Pairwise.imp_of_mem (R := fun _ _ => True) (fun {a b} ha hb _ => ⟨pm.mem_iff.mp ha, pm.mem_iff.mp hb⟩) ?_
      exact List.pairwise_of_forall fun _ _ => trivial
    refine ((h1.and h2).and h3).imp fun {a b} ⟨⟨x, y⟩, z1, z2⟩ => ?_
    cases e : ltM a.1 b.1 with
    | true => rfl
    | false => exact absurd (ltM_tri (fun p hp => ((hk a z1).nm p hp).1) (fun p hp => ((hk b z2).nm p hp).1) e x) y
  · rw [hm]
    constructor
    · intro ⟨a, b⟩; exact ⟨b, (tot_has ps b).mp a⟩
    · intro ⟨a, b⟩; exact ⟨(tot_has ps a).mpr b, a⟩
  · unfold formOf
    refine Nat.le_trans (List.length_filter_le _ _) ?_
    rw [List.length_mergeSort]
    have := tot_len ps []
    simpa using this
theorem eq_of_up {α : Type} {R : α → α → Prop} (as : ∀ a b, R a b → R b a → False) : ∀ {l m : List α}, l.Pairwise R → m.Pairwise R → (∀ x, x ∈ l ↔ x ∈ m) → l = m
  | [], [], _, _, _ => rfl
  | [], b :: m, _, _, h => nomatch (h b).mpr List.mem_cons_self
  | a :: l, [], _, _, h => nomatch (h a).mp List.mem_cons_self
  | a :: l, b :: m, h1, h2, h => by
    rw [List.pairwise_cons] at h1 h2
    have e : a = b := by
      rcases List.mem_cons.mp ((h a).mp List.mem_cons_self) with z | z
      · exact z
      · rcases List.mem_cons.mp ((h b).mpr List.mem_cons_self) with y | y
        · exact y.symm
        · exact (as _ _ (h2.1 a z) (h1.1 b y)).elim
    subst e
    rw [eq_of_up as h1.2 h2.2 fun x => ?_]
    constructor
    · intro hx
      rcases List.mem_cons.mp ((h x).mp (List.mem_cons_of_mem _ hx)) with z | z
      · subst z; exact (as _ _ (h1.1 x hx) (h1.1 x hx)).elim
      · exact z
    · intro hx
      rcases List.mem_cons.mp ((h x).mpr (List.mem_cons_of_mem _ hx)) with z | z
      · subst z; exact (as _ _ (h2.1 x hx) (h2.1 x hx)).elim
      · exact z
theorem ltM_as (a b : Tm) (h : ltM a.1 b.1 = true) (k : ltM b.1 a.1 = true) : False := by
  have := dataLt_asym h
  rw [show dataLt (toPy (encM b.1)) (toPy (encM a.1)) = true from k] at this
  cases this
theorem dicGet_K (l : List Tm) (m : Mn) : dicGet (l.map encK) (encM m) = (fnd l m).map .int := dicGet_E (enc := encM) (ev := D.int) encM_inj l m
theorem dicPut_K {l : List Tm} (h : (l.map (·.1)).Nodup) (m : Mn) (z : Int) : dicPut (l.map encK) (encM m) (.int z) = (put l m z).map encK := dicPut_E (enc := encM) (ev := D.int) encM_inj h m z
theorem dkey_K {most : Int} {l : List Tm} {m : Mn} (hl : ∀ q ∈ l, Mono most q.1) (hm : Mono most m) : DKey (l.map encK) (encM m) := .inr ⟨tkey_M hm, fun p hp => by
  obtain ⟨q, hq, rfl⟩ := List.mem_map.mp hp
  exact tkey_M (hl q hq)⟩
theorem putO_K {most : Int} {l : List Tm} {m : Mn} {z : Int} (hl : ∀ q ∈ l, Mono most q.1) (hm : Mono most m) (h : (l.map (·.1)).Nodup) (z1 : l.length ≤ 10000) : putO (.dic (l.map encK)) (encM m) (.int z) = .ok (.dic ((put l m z).map encK)) := by
  show chk _ _ = _
  rw [dicPut_K h]
  exact chk_pos ⟨dkey_K hl hm, by rw [List.length_map]; exact Nat.lt_of_le_of_lt z1 (by decide)⟩
theorem get0_K (l : List Tm) (m : Mn) : (dicGet (l.map encK) (encM m)).getD (.int 0) = .int ((fnd l m).getD 0) := by
  rw [dicGet_K]
  cases fnd l m <;> rfl
theorem dIx_K {most : Int} {l : List Tm} {m : Mn} {z : Int} (hl : ∀ q ∈ l, Mono most q.1) (hm : Mono most m) (e : fnd l m = some z) : dIx (.dic (l.map encK)) (encM m) = .ok (.int z) := by
  show chk _ (match dicGet (l.map encK) (encM m) with | some d => Out.ok d | none => .stuck) = _
  rw [dicGet_K, e]
  exact chk_pos (dkey_K hl hm)
theorem sorted_K {most : Int} {l : List Tm} (hl : ∀ q ∈ l, Mono most q.1) (z1 : l.length ≤ 10000) : cSorted [.dic (l.map encK)] = .ok (.lst ((l.mergeSort (dataLe false keyQ)).map fun q => encM q.1)) := by
  show chk _ _ = _
  have e : (l.map encK).map (·.1) = l.map fun q => encM q.1 := by rw [List.map_map]; rfl
  rw [e, sort_map]
  refine chk_pos ⟨?_, .inr ?_, ?_, ?_⟩
  · intro d hd e he
    rw [List.map_map] at hd he
    obtain ⟨p, _, rfl⟩ := List.mem_map.mp hd
    obtain ⟨q, _, rfl⟩ := List.mem_map.mp he
    exact alike_M p.1 q.1
  · intro d hd
    rw [List.map_map] at hd
    obtain ⟨p, _, rfl⟩ := List.mem_map.mp hd
    exact ⟨_, toPy_M p.1⟩
  · intro d hd
    obtain ⟨p, hp, rfl⟩ := List.mem_map.mp hd
    exact ⟨keyP_lay _ (kp_M (hl p hp)), by have := depth_M p.1; omega⟩
  · rw [List.length_map]
    exact Nat.le_trans z1 (by decide)
theorem form_loop {most : Int} : ∀ (ps l : List Tm) (L x2 x3 : Option D), (∀ q ∈ ps, Mono most q.1) → (∀ q ∈ l, Mono most q.1) → (l.map (·.1)).Nodup → l.length + ps.length ≤ 10000 →
    ∃ x2' x3', forL (gT [gN 2, gN 3]) b_form_of_1 (ps.map encQ) [L, some (.dic (l.map encK)), x2, x3] = .nx [L, some (.dic ((tot l ps).map encK)), x2', x3'] := by
  intro ps
  induction ps with
  | nil => intro l L x2 x3 _ _ _ _; exact ⟨x2, x3, rfl⟩
  | cons q ps ih =>
    intro l L x2 x3 hp hl nd hz
    have hq := hp q List.mem_cons_self
    obtain ⟨x2', x3', e⟩ := ih (put l q.1 ((fnd l q.1).getD 0 + q.2)) L (some (encM q.1)) (some (.int q.2)) (fun r hr => hp r (List.mem_cons_of_mem _ hr)) (fun r hr => by
      rcases put_mem r.1 (List.mem_map.mpr ⟨r, hr, rfl⟩) with y | y
      · rw [y]; exact hq
      · obtain ⟨t, ht, et⟩ := List.mem_map.mp y
        rw [← et]; exact hl t ht) (put_nodup nd _ _) (by have := put_len l q.1 ((fnd l q.1).getD 0 + q.2); simp at hz; omega)
    refine ⟨x2', x3', ?_⟩
    simp only [tot]
    rw [← e]
    have e1 : ∀ o : Out D, chk (DKey (l.map encK) (encM q.1)) o = o := fun o => chk_pos (dkey_K hl hq)
    have e2 := putO_K (z := (fnd l q.1).getD 0 + q.2) hl hq nd (by simp at hz; omega)
    have e3 := get0_K l q.1
    rw [List.map_cons, forL_cons, show encQ q = .tup [encM q.1, .int q.2] from rfl]
    clear e ih hp hl nd hz
    generalize forL (gT [gN 2, gN 3]) b_form_of_1 (ps.map encQ) = R at *
    unfold b_form_of_1
    walk_at "pda"
theorem form_lc {kvs : List (D × D)} {L x3 : Option D} : ∀ (r : List Tm), (∀ q ∈ r, dIx (.dic kvs) (encM q.1) = .ok (.int q.2)) →
    lcL (gN 2) (tOf (PD.e2 dNe (PD.e2 dIx (eV 1) (eV 2)) (eC (.int 0)))) (eA mkTup (aC (eV 2) (aC (PD.e2 dIx (eV 1) (eV 2)) aN))) [L, some (.dic kvs), none, x3] (r.map fun q => encM q.1) = .ok ((r.filter fun q => decide (q.2 ≠ 0)).map encQ)
  | [], _ => rfl
  | q :: r, h => by
    have ih := form_lc (kvs := kvs) (L := L) (x3 := x3) r fun q hq => h q (List.mem_cons_of_mem _ hq)
    have h1 := h q List.mem_cons_self
    clear h
    rw [List.map_cons, lcL_cons]
    generalize lcL (gN 2) (tOf (PD.e2 dNe (PD.e2 dIx (eV 1) (eV 2)) (eC (.int 0)))) (eA mkTup (aC (eV 2) (aC (PD.e2 dIx (eV 1) (eV 2)) aN))) [L, some (.dic kvs), none, x3] (r.map fun q => encM q.1) = R at *
    by_cases c : q.2 = 0
    · walk_at "pda"
      simp [c]
    · walk_at "pda"
      simp [c]
      rfl
theorem form_eq {most : Int} {ps : List Tm} (h : ∀ q ∈ ps, Mono most q.1) (hz : ps.length ≤ 10000) : m_form_of [.lst (ps.map encQ)] = .ok (.tup ((formOf ps).map encQ)) := by
  obtain ⟨x2, x3, e⟩ := form_loop ps [] (some (.lst (ps.map encQ))) none none h (fun q hq => nomatch hq) List.nodup_nil (by simpa using hz)
  have hk : ∀ q ∈ tot [] ps, Mono most q.1 := fun q hq => by
    rcases tot_mem ps [] q.1 (List.mem_map.mpr ⟨q, hq, rfl⟩) with z | z
    · exact nomatch z
    · obtain ⟨r, hr, e⟩ := List.mem_map.mp z
      rw [← e]; exact h r hr
  have hl : (tot [] ps).length ≤ 10000 := by have := tot_len ps []; simp at this; omega
  have e1 := sorted_K hk hl
  have pm := List.mergeSort_perm (tot [] ps) (dataLe false keyQ)
  have nd := tot_nodup ps [] List.nodup_nil
  have e2 := form_lc (kvs := (tot [] ps).map encK) (L := some (.lst (ps.map encQ))) (x3 := x3) ((tot [] ps).mergeSort (dataLe false keyQ)) fun q hq => by
    have hq' := pm.mem_iff.mp hq
    exact dIx_K hk (hk q hq') ((fnd_mem nd).mpr hq')
  have e3 : ∀ o : Out D, chk ((((tot [] ps).mergeSort (dataLe false keyQ)).map fun q => encM q.1).length ≤ sizeLine) o = o := fun o => chk_pos (by rw [List.length_map, List.length_mergeSort]; exact Nat.le_trans hl (by decide))
  have e' : forL (gT [gN 2, gN 3]) b_form_of_1 (ps.map encQ) [some (.lst (ps.map encQ)), some (.dic []), none, none] = .nx [some (.lst (ps.map encQ)), some (.dic ((tot [] ps).map encK)), x2, x3] := e
  unfold formOf
  clear e
  generalize ((tot [] ps).mergeSort (dataLe false keyQ)) = r at *
  generalize ((tot [] ps).map encK) = kvs at *
  generalize (ps.map encQ) = ds at *
  clear hk hl pm nd h hz
  unfold m_form_of b_form_of
  walk_at "pda"
theorem dep_Q : ∀ (ps : List Tm), PyData.depthAll (toPys (ps.map encQ)) ≤ 3
  | [] => by simp [toPys, PyData.depthAll]
  | q :: ps => by
    have e : toPys ((q :: ps).map encQ) = .tuple [toPy (encM q.1), .int q.2] :: toPys (ps.map encQ) := rfl
    have h1 := dep_Q ps
    have h2 := depth_M q.1
    rw [e]
    simp only [PyData.depthAll, PyData.depth]
    omega
section
variable (pt : List Nat → Int)
end
noncomputable def mulM (a b : Mn) : Mn := (tot [] (a ++ b)).mergeSort (dataLe false fun q => PyData.str (S q.1))
theorem sumOf_le {most : Int} (h0 : 0 ≤ most) : ∀ {m : Mn} (n : List Nat), (m.map (·.1)).Nodup → (∀ p ∈ m, p.2 ≤ most) → sumOf m n ≤ most
  | [], n, _, _ => h0
  | q :: m, n, nd, h => by
    rw [List.map_cons, List.nodup_cons] at nd
    simp only [sumOf]
    by_cases c : q.1 = n
    · rw [if_pos c]
      have z : ∀ {l : Mn}, n ∉ l.map (·.1) → sumOf l n = 0 := by
        intro l
        induction l with
        | nil => intro _; rfl
        | cons r l ih =>
          intro hh
          rw [List.map_cons, List.mem_cons, not_or] at hh
          simp only [sumOf]
          rw [if_neg (fun y => hh.1 y.symm), ih hh.2]; rfl
      rw [z (by rw [← c]; exact nd.1)]
      have := h q List.mem_cons_self
      omega
    · rw [if_neg c]
      have := sumOf_le h0 n nd.2 fun p hp => h p (List.mem_cons_of_mem _ hp)
      omega
theorem up_nodup {m : Mn} (h : m.Pairwise fun p q => p.1 < q.1) : (m.map (·.1)).Nodup := by
  refine List.pairwise_map.mpr (h.imp fun {a b} lt e => ?_)
  rw [e] at lt
  exact absurd lt (List.lt_irrefl _)
theorem put_pos {l : Mn} {n : List Nat} {z : Int} (hz : 1 ≤ z) (hl : ∀ p ∈ l, 1 ≤ p.2) : ∀ p ∈ put l n ((fnd l n).getD 0 + z), 1 ≤ p.2 := by
  induction l with
  | nil =>
    intro p hp
    have : p = (n, 0 + z) := by simpa [put, fnd] using hp
    subst this; show 1 ≤ 0 + z; omega
  | cons q l ih =>
    intro p hp
    have hq := hl q List.mem_cons_self
    simp only [put, fnd] at hp
    by_cases c : q.1 = n
    · rw [if_pos c, if_pos c] at hp
      rcases List.mem_cons.mp hp with rfl | hp
      · show 1 ≤ q.2 + z; omega
      · exact hl p (List.mem_cons_of_mem _ hp)
    · rw [if_neg c, if_neg c] at hp
      rcases List.mem_cons.mp hp with rfl | hp
      · exact hq
      · exact ih (fun p hp => hl p (List.mem_cons_of_mem _ hp)) p hp
theorem tot_pos : ∀ (ps l : Mn), (∀ p ∈ ps, 1 ≤ p.2) → (∀ p ∈ l, 1 ≤ p.2) → ∀ p ∈ tot l ps, 1 ≤ p.2
  | [], l, _, hl => hl
  | q :: ps, l, h, hl => tot_pos ps _ (fun p hp => h p (List.mem_cons_of_mem _ hp)) (put_pos (h q List.mem_cons_self) hl)
theorem mono_mul {x y : Int} {a b : Mn} (ha : Mono x a) (hb : Mono y b) (hx : 0 ≤ x) (hy : 0 ≤ y) (hl : a.length + b.length ≤ 1000) : Mono (x + y) (mulM a b) ∧ (∀ p ∈ mulM a b, p.1 ∈ a.map (·.1) ∨ p.1 ∈ b.map (·.1)) := by
  have pm : (mulM a b).Perm (tot [] (a ++ b)) := List.mergeSort_perm _ _
  have nd := tot_nodup (a ++ b) [] List.nodup_nil
  have hin : ∀ p ∈ tot [] (a ++ b), p.1 ∈ a.map (·.1) ∨ p.1 ∈ b.map (·.1) := fun p hp => by
    rcases tot_mem (a ++ b) [] p.1 (List.mem_map.mpr ⟨p, hp, rfl⟩) with z | z
    · exact nomatch z
    · rw [List.map_append] at z
      exact List.mem_append.mp z
  refine ⟨⟨fun p hp => ?_, ?_, ?_⟩, fun p hp => hin p (pm.mem_iff.mp hp)⟩
  · have hp' := pm.mem_iff.mp hp
    refine ⟨?_, tot_pos _ _ (fun p hp => (List.mem_append.mp hp).elim (fun z => (ha.nm p z).2.1) (fun z => (hb.nm p z).2.1)) (fun p hp => absurd hp List.not_mem_nil) p hp', ?_⟩
    · rcases hin p hp' with z | z
      · obtain ⟨r, hr, e⟩ := List.mem_map.mp z
        rw [← e]; exact (ha.nm r hr).1
      · obtain ⟨r, hr, e⟩ := List.mem_map.mp z
        rw [← e]; exact (hb.nm r hr).1
    · have h1 := tot_sum (a ++ b) [] p.1
      rw [(fnd_mem nd).mpr (show (p.1, p.2) ∈ tot [] (a ++ b) from hp'), sumOf_app] at h1
      simp only [fnd, Option.getD_none, Option.getD_some] at h1
      have h2 := sumOf_le hx p.1 (up_nodup ha.up) fun p hp => (ha.nm p hp).2.2
      have h3 := sumOf_le hy p.1 (up_nodup hb.up) fun p hp => (hb.nm p hp).2.2
      omega
  · have h1 := sort_pair (fun q : Pr => PyData.str (S q.1)) (tot [] (a ++ b))
    have h2 := List.pairwise_map.mp ((pm.map (·.1)).nodup_iff.mpr nd)
    refine (h1.and h2).imp fun {p q} ⟨u, v⟩ => ?_
    rw [PySem.W.dataLt_str, S_list, S_list, decide_eq_false_iff_not] at u
    cases Classical.em (p.1 < q.1) with
    | inl z => exact z
    | inr z => exact absurd (str_tri z u) v
  · rw [pm.length_eq]
    have := tot_len (a ++ b) []
    simp at this
    omega
def encN (n : List Nat) : D := .str (S n)
def encS (q : List Nat × Int) : D × D := (encN q.1, .int q.2)
theorem encN_inj {a b : List Nat} (h : encN a = encN b) : a = b := S_inj.mp (D.str.inj h)
theorem dkey_N (l : List (List Nat × Int)) (n : List Nat) : DKey (l.map encS) (encN n) := .inl ⟨rfl, fun p hp => by
  obtain ⟨q, _, rfl⟩ := List.mem_map.mp hp
  rfl⟩
theorem putO_N {l : List (List Nat × Int)} (h : (l.map (·.1)).Nodup) (hz : l.length ≤ 10000) (n : List Nat) (z : Int) : putO (.dic (l.map encS)) (encN n) (.int z) = .ok (.dic ((put l n z).map encS)) := by
  show chk _ (Out.ok (D.dic (dicPut _ _ _))) = _
  rw [show dicPut (l.map encS) (encN n) (.int z) = (put l n z).map encS from dicPut_E (enc := encN) (ev := D.int) encN_inj h n z]
  exact chk_pos ⟨dkey_N l n, by rw [List.length_map]; exact Nat.lt_of_le_of_lt hz (by decide)⟩
theorem get0_N (l : List (List Nat × Int)) (n : List Nat) : (dicGet (l.map encS) (encN n)).getD (.int 0) = .int ((fnd l n).getD 0) := by
  rw [show dicGet (l.map encS) (encN n) = (fnd l n).map .int from dicGet_E (enc := encN) (ev := D.int) encN_inj l n]
  cases fnd l n <;> rfl
theorem dIx_N {l : List (List Nat × Int)} {n : List Nat} {z : Int} (e : fnd l n = some z) : dIx (.dic (l.map encS)) (encN n) = .ok (.int z) := by
  show chk _ (match dicGet (l.map encS) (encN n) with | some d => Out.ok d | none => .stuck) = _
  rw [show dicGet (l.map encS) (encN n) = (fnd l n).map .int from dicGet_E (enc := encN) (ev := D.int) encN_inj l n, e]
  exact chk_pos (dkey_N l n)
theorem sorted_N {l : List (List Nat × Int)} (hl : ∀ q ∈ l, Nm q.1) (z1 : l.length ≤ 10000) : cSorted [.dic (l.map encS)] = .ok (.lst ((l.mergeSort (dataLe false fun q => PyData.str (S q.1))).map fun q => encN q.1)) := by
  show chk _ _ = _
  have e : (l.map encS).map (·.1) = l.map fun q => encN q.1 := by rw [List.map_map]; rfl
  rw [e, sort_map]
  refine chk_pos ⟨?_, .inl (.inr ?_), ?_, ?_⟩
  · intro d hd e he
    rw [List.map_map] at hd he
    obtain ⟨p, _, rfl⟩ := List.mem_map.mp hd
    obtain ⟨q, _, rfl⟩ := List.mem_map.mp he
    rfl
  · intro d hd
    rw [List.map_map] at hd
    obtain ⟨p, _, rfl⟩ := List.mem_map.mp hd
    refine ⟨?_, fun xs q => ?_⟩
    · intro q; cases q
    · cases q
  · intro d hd
    obtain ⟨p, hp, rfl⟩ := List.mem_map.mp hd
    exact ⟨strOk_nm (hl p hp), Nat.zero_le _⟩
  · rw [List.length_map]
    exact Nat.le_trans z1 (by decide)
theorem dAdd_T {xs ys : List D} (h : xs.length + ys.length ≤ 16777216) : dAdd (.tup xs) (.tup ys) = .ok (.tup (xs ++ ys)) := by
  show ((Out.stuck : Out D).or ((Out.stuck : Out D).or ((dAddT (.tup xs) (.tup ys)).or _))) = _
  have e : dAddT (.tup xs) (.tup ys) = .ok (.tup (xs ++ ys)) := chk_pos h
  rw [e]; rfl
theorem dAdd_L {xs ys : List D} (h : xs.length + ys.length ≤ 16777216) : dAdd (.lst xs) (.lst ys) = .ok (.lst (xs ++ ys)) := by
  show ((Out.stuck : Out D).or ((Out.stuck : Out D).or ((Out.stuck : Out D).or (dAddL (.lst xs) (.lst ys))))) = _
  have e : dAddL (.lst xs) (.lst ys) = .ok (.lst (xs ++ ys)) := chk_pos h
  rw [e]; rfl
theorem pow_loop : ∀ (ps l : Mn) (x0 x1 x3 x4 : Option D), (l.map (·.1)).Nodup → l.length + ps.length ≤ 10000 →
    ∃ x3' x4', forL (gT [gN 3, gN 4]) b_product_of_1 (ps.map encP) [x0, x1, some (.dic (l.map encS)), x3, x4] = .nx [x0, x1, some (.dic ((tot l ps).map encS)), x3', x4'] := by
  intro ps
  induction ps with
  | nil => intro l x0 x1 x3 x4 _ _; exact ⟨x3, x4, rfl⟩
  | cons q ps ih =>
    intro l x0 x1 x3 x4 nd hz
    obtain ⟨x3', x4', e⟩ := ih (put l q.1 ((fnd l q.1).getD 0 + q.2)) x0 x1 (some (encN q.1)) (some (.int q.2)) (put_nodup nd _ _) (by have := put_len l q.1 ((fnd l q.1).getD 0 + q.2); simp at hz; omega)
    refine ⟨x3', x4', ?_⟩
    simp only [tot]
    rw [← e]
    have e1 : ∀ o : Out D, chk (DKey (l.map encS) (encN q.1)) o = o := fun o => chk_pos (dkey_N l q.1)
    have e2 := putO_N (z := (fnd l q.1).getD 0 + q.2) nd (by simp at hz; omega) q.1
    have e3 := get0_N l q.1
    rw [List.map_cons, forL_cons, show encP q = .tup [encN q.1, .int q.2] from rfl]
    clear e ih nd hz
    generalize forL (gT [gN 3, gN 4]) b_product_of_1 (ps.map encP) = R at *
    unfold b_product_of_1
    walk_at "pda"
theorem pow_lc {kvs : List (D × D)} {x0 x1 x4 : Option D} : ∀ (r : Mn), (∀ q ∈ r, dIx (.dic kvs) (encN q.1) = .ok (.int q.2)) →
    lcL (gN 3) bYes (eA mkTup (aC (eV 3) (aC (PD.e2 dIx (eV 2) (eV 3)) aN))) [x0, x1, some (.dic kvs), none, x4] (r.map fun q => encN q.1) = .ok (r.map encP)
  | [], _ => rfl
  | q :: r, h => by
    have ih := pow_lc (kvs := kvs) (x0 := x0) (x1 := x1) (x4 := x4) r fun q hq => h q (List.mem_cons_of_mem _ hq)
    have h1 := h q List.mem_cons_self
    clear h
    rw [List.map_cons, lcL_cons, List.map_cons, show encP q = .tup [encN q.1, .int q.2] from rfl]
    generalize lcL (gN 3) bYes (eA mkTup (aC (eV 3) (aC (PD.e2 dIx (eV 2) (eV 3)) aN))) [x0, x1, some (.dic kvs), none, x4] (r.map fun q => encN q.1) = R at *
    walk_at "pda"
theorem product_of_eq {a b : Mn} (ha : ∀ p ∈ a, Nm p.1) (hb : ∀ p ∈ b, Nm p.1) (hl : a.length + b.length ≤ 10000) : m_product_of [encM a, encM b] = .ok (encM (mulM a b)) := by
  obtain ⟨x3, x4, e⟩ := pow_loop (a ++ b) [] (some (encM a)) (some (encM b)) none none List.nodup_nil (by simpa using hl)
  have nd := tot_nodup (a ++ b) [] List.nodup_nil
  have hk : ∀ q ∈ tot [] (a ++ b), Nm q.1 := fun q hq => by
    rcases tot_mem (a ++ b) [] q.1 (List.mem_map.mpr ⟨q, hq, rfl⟩) with z | z
    · exact absurd z List.not_mem_nil
    · obtain ⟨r, hr, er⟩ := List.mem_map.mp z
      rw [← er]
      exact (List.mem_append.mp hr).elim (ha r) (hb r)
  have ll : (tot [] (a ++ b)).length ≤ 10000 := by have := tot_len (a ++ b) []; simp at this; omega
  have e1 := sorted_N hk ll
  have pm := List.mergeSort_perm (tot [] (a ++ b)) (dataLe false fun q => PyData.str (S q.1))
  have e2 := pow_lc (kvs := (tot [] (a ++ b)).map encS) (x0 := some (encM a)) (x1 := some (encM b)) (x4 := x4) ((tot [] (a ++ b)).mergeSort (dataLe false fun q => PyData.str (S q.1))) fun q hq => dIx_N ((fnd_mem nd).mpr (pm.mem_iff.mp hq))
  have e3 : ∀ o : Out D, chk ((((tot [] (a ++ b)).mergeSort (dataLe false fun q => PyData.str (S q.1))).map fun q => encN q.1).length ≤ sizeLine) o = o := fun o => chk_pos (by rw [List.length_map, List.length_mergeSort]; exact Nat.le_trans ll (by decide))
  have e4 := dAdd_T (xs := a.map encP) (ys := b.map encP) (by simp; omega)
  rw [← List.map_append] at e4
  have em : encM (mulM a b) = .tup ((mulM a b).map encP) := rfl
  rw [em]
  unfold encM at e e2 ⊢
  unfold mulM
  have e' : forL (gT [gN 3, gN 4]) b_product_of_1 ((a ++ b).map encP) [some (.tup (a.map encP)), some (.tup (b.map encP)), some (.dic []), none, none] = .nx [some (.tup (a.map encP)), some (.tup (b.map encP)), some (.dic ((tot [] (a ++ b)).map encS)), x3, x4] := e
  clear e hk ll pm nd ha hb hl em
  generalize ((tot [] (a ++ b)).mergeSort (dataLe false fun q => PyData.str (S q.1))) = r at *
  generalize ((tot [] (a ++ b)).map encS) = kvs at *
  generalize ((a ++ b).map encP) = ds at *
  generalize (a.map encP) = as at *
  generalize (b.map encP) = bs at *
  unfold m_product_of b_product_of
  walk_at "pda"
theorem formOf_key {ps : List Tm} {q : Tm} (h : q ∈ formOf ps) : ∃ r ∈ ps, r.1 = q.1 := by
  unfold formOf at h
  have h1 := (List.mergeSort_perm (tot [] ps) (dataLe false keyQ)).mem_iff.mp (List.mem_filter.mp h).1
  rcases tot_mem ps [] q.1 (List.mem_map.mpr ⟨q, h1, rfl⟩) with z | z
  · exact absurd z List.not_mem_nil
  · obtain ⟨r, hr, e⟩ := List.mem_map.mp z
    exact ⟨r, hr, e⟩
theorem sumOf_abs {b : Nat} : ∀ {ps : List Tm} (m : Mn), (∀ q ∈ ps, Sz b q.2) → (sumOf ps m).natAbs ≤ ps.length * 2 ^ b
  | [], m, _ => by simp [sumOf]
  | q :: ps, m, h => by
    have h1 := sumOf_abs m fun r hr => h r (List.mem_cons_of_mem _ hr)
    have h2 : q.2.natAbs < 2 ^ b := h q List.mem_cons_self
    simp only [sumOf, List.length_cons, Nat.add_mul, Nat.one_mul]
    generalize ps.length * 2 ^ b = x at *
    generalize 2 ^ b = y at *
    split <;> omega
theorem sumOf_sz {b j : Nat} {ps : List Tm} (m : Mn) (h : ∀ q ∈ ps, Sz b q.2) (hl : ps.length < 2 ^ j) : Sz (b + j) (sumOf ps m) := by
  have h1 := sumOf_abs m h
  unfold Sz
  rw [Nat.pow_add, Nat.mul_comm]
  exact Nat.lt_of_le_of_lt h1 (Nat.mul_lt_mul_of_pos_right hl (Nat.two_pow_pos b))
structure Ok (xs : List (List Nat)) (most : Int) (k b : Nat) (f : List Tm) : Prop where
  mono : ∀ q ∈ f, Mono most q.1
  nin : ∀ q ∈ f, ∀ p ∈ q.1, p.1 ∈ xs
  few : ∀ q ∈ f, q.1.length ≤ k
  sz : ∀ q ∈ f, Sz b q.2
theorem Ok.form {xs : List (List Nat)} {most : Int} {k b j : Nat} {f : List Tm} (h : Ok xs most k b f) (hl : f.length < 2 ^ j) : Ok xs most k (b + j) (formOf f) := by
  obtain ⟨_, h2, _⟩ := form_is h.mono
  refine ⟨fun q hq => ?_, fun q hq => ?_, fun q hq => ?_, fun q hq => ?_⟩
  · obtain ⟨r, hr, e⟩ := formOf_key hq
    rw [← e]; exact h.mono r hr
  · obtain ⟨r, hr, e⟩ := formOf_key hq
    rw [← e]; exact h.nin r hr
  · obtain ⟨r, hr, e⟩ := formOf_key hq
    rw [← e]; exact h.few r hr
  · rw [← ((h2 q).mp hq).2]
    exact sumOf_sz q.1 h.sz hl
theorem Ok.up {xs : List (List Nat)} {most : Int} {k b c : Nat} {f : List Tm} (h : Ok xs most k b f) (l : b ≤ c) : Ok xs most k c f := ⟨h.mono, h.nin, h.few, fun q hq => (h.sz q hq).mono l⟩
theorem Ok.app {xs : List (List Nat)} {most : Int} {k b : Nat} {f g : List Tm} (h : Ok xs most k b f) (i : Ok xs most k b g) : Ok xs most k b (f ++ g) :=
  ⟨fun q hq => (List.mem_append.mp hq).elim (h.mono q) (i.mono q), fun q hq => (List.mem_append.mp hq).elim (h.nin q) (i.nin q), fun q hq => (List.mem_append.mp hq).elim (h.few q) (i.few q), fun q hq => (List.mem_append.mp hq).elim (h.sz q) (i.sz q)⟩
theorem Ok.neg {xs : List (List Nat)} {most : Int} {k b : Nat} {f : List Tm} (h : Ok xs most k b f) : Ok xs most k b (f.map fun q => (q.1, 0 - q.2)) := by
  refine ⟨fun q hq => ?_, fun q hq => ?_, fun q hq => ?_, fun q hq => ?_⟩ <;> obtain ⟨r, hr, rfl⟩ := List.mem_map.mp hq
  · exact h.mono r hr
  · exact h.nin r hr
  · exact h.few r hr
  · have := (h.sz r hr).neg
    rw [← Int.zero_sub] at this
    exact this
theorem mulM_len (a b : Mn) : (mulM a b).length ≤ a.length + b.length := by
  unfold mulM
  have := tot_len (a ++ b) []
  rw [(List.mergeSort_perm _ _).length_eq]
  simp at this
  exact this
theorem Ok.nn {xs : List (List Nat)} {most : Int} {k b : Nat} {f : List Tm} (h : Ok xs most k b f) : ∀ q ∈ f, ∀ p ∈ q.1, 0 ≤ p.2 := fun q hq p hp => by
  have := ((h.mono q hq).nm p hp).2.1
  omega
section
variable {κ ν : Type} [DecidableEq κ] {ek : κ → D} {ev : ν → D}
def encE (ek : κ → D) (ev : ν → D) (q : κ × ν) : D × D := (ek q.1, ev q.2)
theorem dkey_F (fl : ∀ k, flatK (ek k) = true) (l : List (κ × ν)) (k : κ) : DKey (l.map (encE ek ev)) (ek k) := .inl ⟨fl k, fun p hp => by
  obtain ⟨q, _, rfl⟩ := List.mem_map.mp hp
  exact fl _⟩
theorem dicPut_F (inj : ∀ {a b}, ek a = ek b → a = b) {l : List (κ × ν)} (h : (l.map (·.1)).Nodup) (k : κ) (v : ν) : dicPut (l.map (encE ek ev)) (ek k) (ev v) = (put l k v).map (encE ek ev) := dicPut_E inj h k v
theorem putO_F (inj : ∀ {a b}, ek a = ek b → a = b) (fl : ∀ k, flatK (ek k) = true) {l : List (κ × ν)} (h : (l.map (·.1)).Nodup) (hz : l.length ≤ 10000) (k : κ) (v : ν) : putO (.dic (l.map (encE ek ev))) (ek k) (ev v) = .ok (.dic ((put l k v).map (encE ek ev))) := by
  show chk _ (Out.ok (D.dic (dicPut _ _ _))) = _
  rw [dicPut_F inj h k v]
  exact chk_pos ⟨dkey_F fl l k, by rw [List.length_map]; exact Nat.lt_of_le_of_lt hz (by decide)⟩
end
theorem flat_N (k : List Nat) : flatK (encN k) = true := rfl
noncomputable def sortN (l : List (List Nat)) : List (List Nat) := l.mergeSort (dataLe false fun k => PyData.str (S k))
theorem sortN_mem {l : List (List Nat)} {x : List Nat} : x ∈ sortN l ↔ x ∈ l := (List.mergeSort_perm _ _).mem_iff
theorem sok_N {ks : List (List Nat)} (h : ∀ k ∈ ks, Nm k) (z1 : ks.length ≤ 10000) : SOk (ks.map encN) := by
  refine ⟨?_, .inl (.inr ?_), ?_, ?_⟩
  · intro d hd e he
    rw [List.map_map] at hd he
    obtain ⟨p, _, rfl⟩ := List.mem_map.mp hd
    obtain ⟨q, _, rfl⟩ := List.mem_map.mp he
    rfl
  · intro d hd
    rw [List.map_map] at hd
    obtain ⟨p, _, rfl⟩ := List.mem_map.mp hd
    refine ⟨?_, fun xs q => ?_⟩
    · intro q; cases q
    · cases q
  · intro d hd
    obtain ⟨p, hp, rfl⟩ := List.mem_map.mp hd
    exact ⟨strOk_nm (h p hp), Nat.zero_le _⟩
  · rw [List.length_map]
    exact Nat.le_trans z1 (by decide)
theorem sortD_N (ks : List (List Nat)) : sortD (ks.map encN) = (sortN ks).map encN := by
  rw [sort_map]; rfl
theorem sorted_D {kvs : List (D × D)} {ks : List (List Nat)} (e : kvs.map (·.1) = ks.map encN) (h : ∀ k ∈ ks, Nm k) (z1 : ks.length ≤ 10000) : cSorted [.dic kvs] = .ok (.lst ((sortN ks).map encN)) := by
  show chk (SOk (kvs.map (·.1))) _ = _
  rw [e, sortD_N, chk_pos (sok_N h z1)]
theorem keys_E {κ ν : Type} (ek : κ → D) (ev : ν → D) (l : List (κ × ν)) : (l.map (encE ek ev)).map (·.1) = (l.map (·.1)).map ek := by
  rw [List.map_map, List.map_map]; rfl
def allP (f : List Tm) : List Pr := f.flatMap (·.1)
def addN (l : List (List Nat × Bool)) (p : Pr) : List (List Nat × Bool) := put l p.1 true
def nmsL (ps : List Pr) : List (List Nat × Bool) := ps.foldl addN []
theorem nms_nodup : ∀ (ps : List Pr) (l : List (List Nat × Bool)), (l.map (·.1)).Nodup → ((ps.foldl addN l).map (·.1)).Nodup
  | [], _, h => h
  | p :: ps, l, h => nms_nodup ps _ (put_nodup h _ _)
theorem nms_mem : ∀ (ps : List Pr) (l : List (List Nat × Bool)) (x : List Nat), x ∈ (ps.foldl addN l).map (·.1) ↔ x ∈ l.map (·.1) ∨ x ∈ ps.map (·.1)
  | [], _, _ => by simp
  | p :: ps, l, x => by
    rw [List.foldl_cons, nms_mem ps]
    unfold addN
    rw [put_keys]
    by_cases c : p.1 ∈ l.map (·.1)
    · rw [if_pos c, List.map_cons, List.mem_cons]
      constructor
      · rintro (h | h)
        · exact .inl h
        · exact .inr (.inr h)
      · rintro (h | h | h)
        · exact .inl h
        · exact .inl (h ▸ c)
        · exact .inr h
    · rw [if_neg c, List.mem_append, List.mem_singleton, List.map_cons, List.mem_cons, or_assoc]
theorem nms_len : ∀ (ps : List Pr) (l : List (List Nat × Bool)), (ps.foldl addN l).length ≤ l.length + ps.length
  | [], _ => Nat.le_refl _
  | p :: ps, l => by
    rw [List.foldl_cons]
    have h1 := nms_len ps (addN l p)
    have h2 := put_len l p.1 true
    rw [List.length_cons]
    unfold addN at *
    omega
noncomputable def namesOf (f : List Tm) : List (List Nat) := sortN ((nmsL (allP f)).map (·.1))
theorem namesOf_mem {f : List Tm} {x : List Nat} : x ∈ namesOf f ↔ ∃ q ∈ f, ∃ p ∈ q.1, p.1 = x := by
  unfold namesOf nmsL
  rw [sortN_mem, nms_mem]
  unfold allP
  constructor
  · rintro (h | h)
    · exact absurd h List.not_mem_nil
    · obtain ⟨p, hp, e⟩ := List.mem_map.mp h
      obtain ⟨q, hq, hp⟩ := List.mem_flatMap.mp hp
      exact ⟨q, hq, p, hp, e⟩
  · rintro ⟨q, hq, p, hp, e⟩
    exact .inr (List.mem_map.mpr ⟨p, List.mem_flatMap.mpr ⟨q, hq, hp⟩, e⟩)
abbrev encB : List Nat × Bool → D × D := encE encN D.bl
theorem names_1 (x0 x2 x3 : Option D) : ∀ (m : Mn) (l : List (List Nat × Bool)) (x4 x5 : Option D), (l.map (·.1)).Nodup → l.length + m.length ≤ 10000 →
    ∃ x4' x5', forL (gT [gN 4, gN 5]) b_names_of_1 (m.map encP) [x0, some (.dic (l.map encB)), x2, x3, x4, x5] = .nx [x0, some (.dic ((m.foldl addN l).map encB)), x2, x3, x4', x5']
  | [], l, x4, x5, _, _ => ⟨x4, x5, rfl⟩
  | p :: m, l, x4, x5, nd, hl => by
    obtain ⟨x4', x5', e⟩ := names_1 x0 x2 x3 m (addN l p) (some (encN p.1)) (some (.int p.2)) (put_nodup nd _ _) (by have := put_len l p.1 true; unfold addN; rw [List.length_cons] at hl; omega)
    refine ⟨x4', x5', ?_⟩
    have e1 := putO_F (ev := D.bl) encN_inj flat_N nd (by omega) p.1 true
    rw [List.foldl_cons, ← e, List.map_cons]
    refine forL_step ?_
    unfold b_names_of_1
    rw [show encP p = .tup [encN p.1, .int p.2] from rfl]
    walk_at "wka"
    rfl
theorem names_2 (x0 : Option D) {b : Nat} : ∀ (f : List Tm) (l : List (List Nat × Bool)) (x2 x3 x4 x5 : Option D), (l.map (·.1)).Nodup → (∀ q ∈ f, q.1.length ≤ b) → l.length + f.length * b ≤ 10000 →
    ∃ x2' x3' x4' x5', forL (gT [gN 2, gN 3]) b_names_of_2 (f.map encQ) [x0, some (.dic (l.map encB)), x2, x3, x4, x5] = .nx [x0, some (.dic (((allP f).foldl addN l).map encB)), x2', x3', x4', x5']
  | [], l, x2, x3, x4, x5, _, _, _ => ⟨x2, x3, x4, x5, rfl⟩
  | q :: f, l, x2, x3, x4, x5, nd, hb, hl => by
    have hq := hb q List.mem_cons_self
    rw [List.length_cons, Nat.add_mul, Nat.one_mul] at hl
    obtain ⟨y4, y5, e1⟩ := names_1 x0 (some (encM q.1)) (some (.int q.2)) q.1 l x4 x5 nd (by omega)
    have nl := nms_len q.1 l
    obtain ⟨x2', x3', x4', x5', e⟩ := names_2 x0 f (q.1.foldl addN l) (some (encM q.1)) (some (.int q.2)) y4 y5 (nms_nodup _ _ nd) (fun r hr => hb r (List.mem_cons_of_mem _ hr)) (by omega)
    refine ⟨x2', x3', x4', x5', ?_⟩
    rw [show allP (q :: f) = q.1 ++ allP f from rfl, List.foldl_append, ← e, List.map_cons]
    refine forL_step ?_
    unfold b_names_of_2
    rw [show encQ q = .tup [encM q.1, .int q.2] from rfl]
    walk_at "wk"
    rw [show encM q.1 = .tup (q.1.map encP) from rfl] at e1 ⊢
    walk_at "wk"
    rw [e1]
    walk_at "wk"
theorem names_of_eq {f : List Tm} {b : Nat} (hn : ∀ q ∈ f, ∀ p ∈ q.1, Nm p.1) (hb : ∀ q ∈ f, q.1.length ≤ b) (hl : f.length * b ≤ 10000) : m_names_of [.tup (f.map encQ)] = .ok (.tup ((namesOf f).map encN)) := by
  obtain ⟨x2, x3, x4, x5, e⟩ := names_2 (some (.tup (f.map encQ))) f [] none none none none List.nodup_nil hb (by simpa using hl)
  have e' : forL (gT [gN 2, gN 3]) b_names_of_2 (f.map encQ) [some (.tup (f.map encQ)), some (.dic []), none, none, none, none] = _ := e
  have e2 := sorted_D (kvs := ((allP f).foldl addN []).map encB) (ks := (nmsL (allP f)).map (·.1)) (keys_E encN D.bl _) (fun k hk => by
    have := (nms_mem (allP f) [] k).mp hk
    rcases this with h | h
    · exact absurd h List.not_mem_nil
    · obtain ⟨p, hp, rfl⟩ := List.mem_map.mp h
      obtain ⟨q, hq, hp⟩ := List.mem_flatMap.mp hp
      exact hn q hq p hp) (by
    rw [List.length_map]
    refine Nat.le_trans (nms_len (allP f) []) ?_
    rw [List.length_nil, Nat.zero_add]
    have : ∀ f : List Tm, (∀ q ∈ f, q.1.length ≤ b) → (allP f).length ≤ f.length * b := by
      intro f
      induction f with
      | nil => intro _; simp [allP]
      | cons q f ih =>
        intro h
        have h1 := ih fun r hr => h r (List.mem_cons_of_mem _ hr)
        have h2 := h q List.mem_cons_self
        rw [show allP (q :: f) = q.1 ++ allP f from rfl, List.length_append, List.length_cons, Nat.add_mul, Nat.one_mul]
        omega
    exact Nat.le_trans (this f hb) hl)
  unfold m_names_of b_names_of
  walk_at "wk"
  rw [e']
  walk_at "wk"
  rw [e2]
  walk_at "wk"
  rfl
def powOf (m : Mn) (x : List Nat) : Int := (fnd m x).getD 0
def restOf (m : Mn) (x : List Nat) : Mn := m.filter fun p => !decide (p.1 = x)
def rowQ (x : List Nat) (q : Tm) : Tm := (restOf q.1 x, q.2)
def topOf (x : List Nat) (f : List Tm) : Int := f.foldl (fun t q => max t (powOf q.1 x)) 0
def partOf (x : List Nat) (f : List Tm) (k : Int) : List Tm := (f.filter fun q => decide (powOf q.1 x = k)).map (rowQ x)
noncomputable def byPow (x : List Nat) (f : List Tm) : List (List Tm) := (List.range (topOf x f + 1).toNat).map fun (k : Nat) => formOf (partOf x f k)
theorem Mono.rest {most : Int} {m : Mn} (h : Mono most m) (x : List Nat) : Mono most (restOf m x) :=
  ⟨fun p hp => h.nm p (List.mem_filter.mp hp).1, h.up.filter _, Nat.le_trans (List.length_filter_le _ _) h.few⟩
namespace RR
abbrev Sq := Nat → Rat
def Pos (f : Sq) : Prop := ∃ e : Rat, 0 < e ∧ ∃ N, ∀ n, N ≤ n → e ≤ f n
def Null (f : Sq) : Prop := ∀ e : Rat, 0 < e → ∃ N, ∀ n, N ≤ n → -e ≤ f n ∧ f n ≤ e
def Bd (f : Sq) : Prop := ∃ b : Rat, 0 < b ∧ ∀ n, -b ≤ f n ∧ f n ≤ b
theorem Pos.add {f g : Sq} (hf : Pos f) (hg : Pos g) : Pos fun n => f n + g n := by
  obtain ⟨e, he, N, h⟩ := hf
  obtain ⟨d, hd, M, k⟩ := hg
  refine ⟨e + d, by grind, max N M, fun n hn => ?_⟩
  have := h n (by omega)
  have := k n (by omega)
  grind
theorem Pos.mul {f g : Sq} (hf : Pos f) (hg : Pos g) : Pos fun n => f n * g n := by
  obtain ⟨e, he, N, h⟩ := hf
  obtain ⟨d, hd, M, k⟩ := hg
  refine ⟨e * d, Rat.mul_pos he hd, max N M, fun n hn => ?_⟩
  have h1 := h n (by omega)
  have h2 := k n (by omega)
  have h3 : 0 ≤ (f n - e) * d := Rat.mul_nonneg (by grind) (by grind)
  have h4 : 0 ≤ f n * (g n - d) := Rat.mul_nonneg (by grind) (by grind)
  grind
theorem Null.add {f g : Sq} (hf : Null f) (hg : Null g) : Null fun n => f n + g n := fun e he => by
  obtain ⟨N, h⟩ := hf (e / 2) (by grind)
  obtain ⟨M, k⟩ := hg (e / 2) (by grind)
  refine ⟨max N M, fun n hn => ?_⟩
  have := h n (by omega)
  have := k n (by omega)
  grind
theorem Pos.null {f g : Sq} (hf : Pos f) (hg : Null g) : Pos fun n => f n + g n := by
  obtain ⟨e, he, N, h⟩ := hf
  obtain ⟨M, k⟩ := hg (e / 2) (by grind)
  refine ⟨e / 2, by grind, max N M, fun n hn => ?_⟩
  have := h n (by omega)
  have := k n (by omega)
  grind
theorem Pos.not_null {f : Sq} (hf : Pos f) (hg : Null f) : False := by
  obtain ⟨e, he, N, h⟩ := hf
  obtain ⟨M, k⟩ := hg (e / 2) (by grind)
  have := h (max N M) (by omega)
  have := k (max N M) (by omega)
  grind
end RR
namespace RR
theorem root_ex (m : Nat) : ∃ k : Nat, k * k ≤ m ∧ m < (k + 1) * (k + 1) := by
  induction m with
  | zero => exact ⟨0, by decide, by decide⟩
  | succ m ih =>
    obtain ⟨k, h1, h2⟩ := ih
    by_cases c : m + 1 < (k + 1) * (k + 1)
    · exact ⟨k, by omega, c⟩
    · refine ⟨k + 1, by omega, ?_⟩
      have : (k + 1) * (k + 1) < (k + 1 + 1) * (k + 1 + 1) := Nat.mul_lt_mul'' (by omega) (by omega)
      omega
noncomputable def rt (m : Nat) : Nat := Classical.choose (root_ex m)
theorem rt_le (m : Nat) : rt m * rt m ≤ m := (Classical.choose_spec (root_ex m)).1
theorem rt_lt (m : Nat) : m < (rt m + 1) * (rt m + 1) := (Classical.choose_spec (root_ex m)).2
noncomputable def sq (r : Nat) : Sq := fun n => (rt (r * ((n + 1) * (n + 1))) : Rat) / ((n + 1 : Nat) : Rat)
theorem arch (e : Rat) (he : 0 < e) (c : Rat) : ∃ N : Nat, ∀ n : Nat, N ≤ n → c ≤ e * ((n + 1 : Nat) : Rat) := by
  refine ⟨(c / e).ceil.toNat, fun n hn => ?_⟩
  have h1 : c / e ≤ ((c / e).ceil : Rat) := Rat.le_ceil
  have h2 : (c / e).ceil ≤ ((n + 1 : Nat) : Int) := by omega
  have h3 : ((c / e).ceil : Rat) ≤ (((n + 1 : Nat) : Int) : Rat) := by exact_mod_cast h2
  have h4 : (((n + 1 : Nat) : Int) : Rat) = ((n + 1 : Nat) : Rat) := rfl
  have h5 : c / e ≤ ((n + 1 : Nat) : Rat) := by rw [← h4]; exact Rat.le_trans h1 h3
  have h6 : c = e * (c / e) := by grind
  rw [h6]
  exact Rat.mul_le_mul_of_nonneg_left h5 (by grind)
end RR
namespace RR
theorem sq_mul (r n : Nat) : sq r n * ((n + 1 : Nat) : Rat) = (rt (r * ((n + 1) * (n + 1))) : Rat) := by
  unfold sq
  have : ((n + 1 : Nat) : Rat) ≠ 0 := by
    have : 0 < ((n + 1 : Nat) : Rat) := by exact_mod_cast Nat.succ_pos n
    grind
  grind
theorem N_pos (n : Nat) : 0 < ((n + 1 : Nat) : Rat) := by exact_mod_cast Nat.succ_pos n
theorem rt_small (r n : Nat) : rt (r * ((n + 1) * (n + 1))) ≤ (r + 1) * (n + 1) := by
  have h := rt_le (r * ((n + 1) * (n + 1)))
  apply Classical.byContradiction
  intro c
  have h1 : ((r + 1) * (n + 1)) * ((r + 1) * (n + 1)) < rt (r * ((n + 1) * (n + 1))) * rt (r * ((n + 1) * (n + 1))) := Nat.mul_lt_mul'' (by omega) (by omega)
  have h2 : r * ((n + 1) * (n + 1)) ≤ ((r + 1) * (n + 1)) * ((r + 1) * (n + 1)) := by
    have : ((r + 1) * (n + 1)) * ((r + 1) * (n + 1)) = ((r + 1) * (r + 1)) * ((n + 1) * (n + 1)) := by grind
    rw [this]
    exact Nat.mul_le_mul_right _ (by grind)
  omega
theorem sq_nn (r n : Nat) : 0 ≤ sq r n := by
  have h1 := N_pos n
  have h2 : (0 : Rat) ≤ (rt (r * ((n + 1) * (n + 1))) : Rat) := by exact_mod_cast Nat.zero_le _
  rw [← sq_mul] at h2
  exact Rat.le_of_mul_le_mul_right (by grind) h1
theorem sq_le (r n : Nat) : sq r n ≤ (r : Rat) + 1 := by
  have h1 := N_pos n
  have h2 : (rt (r * ((n + 1) * (n + 1))) : Rat) ≤ (((r + 1) * (n + 1) : Nat) : Rat) := by exact_mod_cast rt_small r n
  have h3 : (((r + 1) * (n + 1) : Nat) : Rat) = ((r : Rat) + 1) * ((n + 1 : Nat) : Rat) := by push_cast; rfl
  rw [← sq_mul, h3] at h2
  exact Rat.le_of_mul_le_mul_right h2 h1
theorem sq_sq (r : Nat) : Null fun n => sq r n * sq r n - (r : Rat) := fun e he => by
  obtain ⟨M, h⟩ := arch e he (2 * ((r : Rat) + 1))
  refine ⟨M, fun n hn => ?_⟩
  show -e ≤ sq r n * sq r n - (r : Rat) ∧ sq r n * sq r n - (r : Rat) ≤ e
  have h0 := h n hn
  have h1 := N_pos n
  have k1 := rt_le (r * ((n + 1) * (n + 1)))
  have k2 := rt_lt (r * ((n + 1) * (n + 1)))
  have k3 := sq_mul r n
  have k4 := sq_le r n
  have k5 := sq_nn r n
  generalize rt (r * ((n + 1) * (n + 1))) = k at *
  have q1 : ((k * k : Nat) : Rat) ≤ ((r * ((n + 1) * (n + 1)) : Nat) : Rat) := by exact_mod_cast k1
  have q2 : ((r * ((n + 1) * (n + 1)) : Nat) : Rat) ≤ ((k * k + 2 * k : Nat) : Rat) := by exact_mod_cast (by grind : r * ((n + 1) * (n + 1)) ≤ k * k + 2 * k)
  have c1 : ((k * k : Nat) : Rat) = (k : Rat) * k := by push_cast; rfl
  have c2 : ((r * ((n + 1) * (n + 1)) : Nat) : Rat) = (r : Rat) * (((n + 1 : Nat) : Rat) * ((n + 1 : Nat) : Rat)) := by push_cast; rfl
  have c3 : ((k * k + 2 * k : Nat) : Rat) = (k : Rat) * k + 2 * k := by push_cast; rfl
  rw [c1, c2] at q1
  rw [c2, c3] at q2
  rw [← k3] at q1 q2
  generalize ((n + 1 : Nat) : Rat) = N at *
  generalize sq r n = s at *
  have N2 : 0 < N * N := Rat.mul_pos h1 h1
  have a1 : (s * s) * (N * N) ≤ (r : Rat) * (N * N) := by grind
  have a2 : s * s ≤ (r : Rat) := Rat.le_of_mul_le_mul_right a1 N2
  have a3 : ((r : Rat) - s * s) * N ≤ 2 * s := by
    have : (((r : Rat) - s * s) * N) * N ≤ (2 * s) * N := by grind
    exact Rat.le_of_mul_le_mul_right this h1
  have a4 : ((r : Rat) - s * s) * N ≤ e * N := by grind
  have a5 := Rat.le_of_mul_le_mul_right a4 h1
  grind
end RR
namespace RR
theorem sq_ge (r n : Nat) (h : 1 ≤ r) : 1 ≤ sq r n := by
  have h1 := N_pos n
  have k2 := rt_lt (r * ((n + 1) * (n + 1)))
  have k3 := sq_mul r n
  generalize rt (r * ((n + 1) * (n + 1))) = k at *
  have c : n + 1 ≤ k := by
    apply Classical.byContradiction
    intro c
    have h2 : (k + 1) * (k + 1) ≤ (n + 1) * (n + 1) := Nat.mul_le_mul (by omega) (by omega)
    have h3 : 1 * ((n + 1) * (n + 1)) ≤ r * ((n + 1) * (n + 1)) := Nat.mul_le_mul_right _ h
    omega
  have c' : ((n + 1 : Nat) : Rat) ≤ (k : Rat) := by exact_mod_cast c
  rw [← k3] at c'
  exact Rat.le_of_mul_le_mul_right (by grind) h1
theorem div_pos {e b : Rat} (he : 0 < e) (hb : 0 < b) : 0 < e / b := by
  have h4 : e = (e / b) * b := by grind
  apply Classical.byContradiction
  intro c
  have := Rat.mul_nonneg (show 0 ≤ -(e / b) by grind) (show 0 ≤ b by grind)
  grind
theorem Null.mul {f g : Sq} (hf : Null f) (hg : Bd g) : Null fun n => f n * g n := fun e he => by
  obtain ⟨b, b0, hb⟩ := hg
  obtain ⟨N, h⟩ := hf (e / b) (div_pos he b0)
  refine ⟨N, fun n hn => ?_⟩
  have h1 := h n hn
  have h2 := hb n
  show -e ≤ f n * g n ∧ f n * g n ≤ e
  have h4 : e = (e / b) * b := by grind
  have h5 : 0 < e / b := div_pos he b0
  generalize e / b = d at *
  generalize f n = x at *
  generalize g n = y at *
  have q1 : 0 ≤ (d - x) * (b + y) := Rat.mul_nonneg (by grind) (by grind)
  have q2 : 0 ≤ (d + x) * (b - y) := Rat.mul_nonneg (by grind) (by grind)
  have q3 : 0 ≤ (d - x) * (b - y) := Rat.mul_nonneg (by grind) (by grind)
  have q4 : 0 ≤ (d + x) * (b + y) := Rat.mul_nonneg (by grind) (by grind)
  constructor <;> grind
end RR
namespace RR
theorem Bd.const (c : Rat) : Bd fun _ => c := by
  by_cases h : 0 ≤ c
  · exact ⟨c + 1, by grind, fun n => by grind⟩
  · exact ⟨1 - c, by grind, fun n => by grind⟩
theorem Bd.add {f g : Sq} (hf : Bd f) (hg : Bd g) : Bd fun n => f n + g n := by
  obtain ⟨a, a0, ha⟩ := hf
  obtain ⟨b, b0, hb⟩ := hg
  refine ⟨a + b, by grind, fun n => ?_⟩
  have := ha n
  have := hb n
  grind
theorem Bd.neg {f : Sq} (hf : Bd f) : Bd fun n => - f n := by
  obtain ⟨a, a0, ha⟩ := hf
  refine ⟨a, a0, fun n => ?_⟩
  have := ha n
  grind
theorem Bd.mul {f g : Sq} (hf : Bd f) (hg : Bd g) : Bd fun n => f n * g n := by
  obtain ⟨a, a0, ha⟩ := hf
  obtain ⟨b, b0, hb⟩ := hg
  refine ⟨3 * (a * b), by have := Rat.mul_pos a0 b0; grind, fun n => ?_⟩
  have h1 := ha n
  have h2 := hb n
  show -(3 * (a * b)) ≤ f n * g n ∧ f n * g n ≤ 3 * (a * b)
  generalize f n = x at *
  generalize g n = y at *
  have q1 : 0 ≤ (a - x) * (b + y) := Rat.mul_nonneg (by grind) (by grind)
  have q2 : 0 ≤ (a + x) * (b - y) := Rat.mul_nonneg (by grind) (by grind)
  have q3 : 0 ≤ (a - x) * (b - y) := Rat.mul_nonneg (by grind) (by grind)
  have q4 : 0 ≤ (a + x) * (b + y) := Rat.mul_nonneg (by grind) (by grind)
  have q5 := Rat.mul_pos a0 b0
  constructor <;> grind
theorem Bd.sq (r : Nat) : Bd (sq r) := by
  have h : (0 : Rat) ≤ (r : Rat) := by exact_mod_cast Nat.zero_le r
  refine ⟨(r : Rat) + 1, by grind, fun n => ?_⟩
  have h1 := sq_nn r n
  have h2 := sq_le r n
  grind
theorem Null.neg {f : Sq} (hf : Null f) : Null fun n => - f n := fun e he => by
  obtain ⟨N, h⟩ := hf e he
  refine ⟨N, fun n hn => ?_⟩
  have := h n hn
  show -e ≤ - f n ∧ - f n ≤ e
  grind
theorem Pos.const {c : Rat} (h : 0 < c) : Pos fun _ => c := ⟨c, h, 0, fun _ _ => by grind⟩
theorem Null.zero : Null fun _ => 0 := fun e he => ⟨0, fun _ _ => by grind⟩
theorem Pos.cg {f g : Sq} (hf : Pos f) (h : Null fun n => g n - f n) : Pos g := by
  have := hf.null h
  have e : (fun n => f n + (g n - f n)) = g := by funext n; grind
  rwa [e] at this
theorem Null.cg {f g : Sq} (hf : Null f) (h : Null fun n => g n - f n) : Null g := by
  have := hf.add h
  have e : (fun n => f n + (g n - f n)) = g := by funext n; grind
  rwa [e] at this
end RR
namespace RR
def Sg (s : Int) (f : Sq) : Prop := (s = 1 ∧ Pos f) ∨ (s = 0 ∧ Null f) ∨ (s = -1 ∧ Pos fun n => - f n)
theorem Pos.of_sq' {f g : Sq} (h : Pos fun n => f n * f n - g n * g n) (pf : Pos f) (pg : Pos g) (bf : Bd f) (bg : Bd g) : Pos fun n => f n - g n := by
  obtain ⟨e, he, N, h⟩ := h
  obtain ⟨c, hc, M, pf⟩ := pf
  obtain ⟨d, hd, L, pg⟩ := pg
  obtain ⟨a, a0, ba⟩ := bf
  obtain ⟨b, b0, bb⟩ := bg
  have q := div_pos he (show 0 < a + b by grind)
  refine ⟨e / (a + b), q, max N (max M L), fun n hn => ?_⟩
  have h1 : e ≤ f n * f n - g n * g n := h n (by omega)
  have h2 := pf n (by omega)
  have h3 := pg n (by omega)
  have h4 := ba n
  have h5 := bb n
  have h6 : e = (e / (a + b)) * (a + b) := by grind
  show e / (a + b) ≤ f n - g n
  generalize e / (a + b) = k at *
  generalize f n = x at *
  generalize g n = y at *
  apply Classical.byContradiction
  intro z
  have s0 : 0 < x + y := by grind
  have h7 : (x - y) * (x + y) < k * (x + y) := Rat.mul_lt_mul_of_pos_right (by grind) s0
  have h8 : k * (x + y) ≤ k * (a + b) := Rat.mul_le_mul_of_nonneg_left (by grind) (by grind)
  grind
theorem Null.of_sq' {f g : Sq} (h : Null fun n => f n * f n - g n * g n) (pf : Pos f) (pg : Pos g) : Null fun n => f n - g n := fun e he => by
  obtain ⟨c, hc, M, pf⟩ := pf
  obtain ⟨d, hd, L, pg⟩ := pg
  obtain ⟨N, h⟩ := h (e * c) (Rat.mul_pos he hc)
  refine ⟨max N (max M L), fun n hn => ?_⟩
  have h1 : -(e * c) ≤ f n * f n - g n * g n ∧ f n * f n - g n * g n ≤ e * c := h n (by omega)
  have h2 := pf n (by omega)
  have h3 := pg n (by omega)
  show -e ≤ f n - g n ∧ f n - g n ≤ e
  generalize f n = x at *
  generalize g n = y at *
  have p : 0 < x + y := by grind
  have h3 : e * c ≤ e * (x + y) := Rat.mul_le_mul_of_nonneg_left (by grind) (by grind)
  constructor
  · exact Rat.le_of_mul_le_mul_right (by grind) p
  · exact Rat.le_of_mul_le_mul_right (by grind) p
theorem Sg.of {s : Int} {f g : Sq} (h : Sg s f) (e : ∀ n, f n = g n) : Sg s g := by
  have : f = g := funext e
  rwa [← this]
theorem Sg.neg {s : Int} {f : Sq} (h : Sg s f) : Sg (-s) fun n => - f n := by
  rcases h with ⟨h, p⟩ | ⟨h, p⟩ | ⟨h, p⟩ <;> subst h
  · refine .inr (.inr ⟨rfl, ?_⟩)
    have e : (fun n => - - f n) = f := by funext n; grind
    rwa [e]
  · exact .inr (.inl ⟨rfl, p.neg⟩)
  · exact .inl ⟨rfl, p⟩
end RR
namespace RR
theorem Sg.sum {a b c : Int} {f g : Sq} (ha : Sg a f) (hb : Sg b g) (hc : Sg c fun n => f n * f n - g n * g n) (bf : Bd f) (bg : Bd g) :
    Sg (if a = b ∨ b = 0 then a else if a = 0 then b else a * c) fun n => f n + g n := by
  have sw : ∀ {u v : Sq}, (fun n => u n + v n) = fun n => v n + u n := fun {u v} => by funext n; grind
  rcases ha with ⟨ha, pa⟩ | ⟨ha, pa⟩ | ⟨ha, pa⟩ <;> rcases hb with ⟨hb, pb⟩ | ⟨hb, pb⟩ | ⟨hb, pb⟩ <;> subst ha <;> subst hb
  · exact .inl ⟨rfl, pa.add pb⟩
  · exact .inl ⟨rfl, pa.null pb⟩
  · -- f above, g below
    have e0 : (fun n => f n + g n) = fun n => f n - (- g n) := by funext n; grind
    have e1 : (fun n => f n * f n - g n * g n) = fun n => f n * f n - (- g n) * (- g n) := by funext n; grind
    have e2 : (fun n => -(f n + g n)) = fun n => (- g n) - f n := by funext n; grind
    have e3 : (fun n => -(f n * f n - g n * g n)) = fun n => (- g n) * (- g n) - f n * f n := by funext n; grind
    rcases hc with ⟨hc, pc⟩ | ⟨hc, pc⟩ | ⟨hc, pc⟩ <;> subst hc
    · refine .inl ⟨rfl, ?_⟩
      rw [e0]; rw [e1] at pc
      exact Pos.of_sq' (g := fun n => - g n) pc pa pb bf bg.neg
    · refine .inr (.inl ⟨rfl, ?_⟩)
      rw [e0]; rw [e1] at pc
      exact Null.of_sq' (g := fun n => - g n) pc pa pb
    · refine .inr (.inr ⟨rfl, ?_⟩)
      rw [e2]; rw [e3] at pc
      exact Pos.of_sq' (f := fun n => - g n) pc pb pa bg.neg bf
  · rw [sw]; exact .inl ⟨rfl, pb.null pa⟩
  · exact .inr (.inl ⟨rfl, pa.add pb⟩)
  · refine .inr (.inr ⟨rfl, ?_⟩)
    have := pb.null pa.neg
    have e : (fun n => - g n + - f n) = fun n => -(f n + g n) := by funext n; grind
    rwa [e] at this
  · have e0 : (fun n => f n + g n) = fun n => g n - (- f n) := by funext n; grind
    have e1 : (fun n => -(f n * f n - g n * g n)) = fun n => g n * g n - (- f n) * (- f n) := by funext n; grind
    have e2 : (fun n => -(f n + g n)) = fun n => (- f n) - g n := by funext n; grind
    have e3 : (fun n => f n * f n - g n * g n) = fun n => (- f n) * (- f n) - g n * g n := by funext n; grind
    rcases hc with ⟨hc, pc⟩ | ⟨hc, pc⟩ | ⟨hc, pc⟩ <;> subst hc
    · refine .inr (.inr ⟨rfl, ?_⟩)
      rw [e2]; rw [e3] at pc
      exact Pos.of_sq' (f := fun n => - f n) pc pa pb bf.neg bg
    · refine .inr (.inl ⟨rfl, ?_⟩)
      rw [e3] at pc
      have := (Null.of_sq' (f := fun n => - f n) pc pa pb).neg
      have e : (fun n => -(- f n - g n)) = fun n => f n + g n := by funext n; grind
      rwa [e] at this
    · refine .inl ⟨rfl, ?_⟩
      rw [e0]; rw [e1] at pc
      exact Pos.of_sq' (g := fun n => - f n) pc pb pa bg bf.neg
  · refine .inr (.inr ⟨rfl, ?_⟩)
    have := pa.null pb.neg
    have e : (fun n => - f n + - g n) = fun n => -(f n + g n) := by funext n; grind
    rwa [e] at this
  · refine .inr (.inr ⟨rfl, ?_⟩)
    have := pa.add pb
    have e : (fun n => - f n + - g n) = fun n => -(f n + g n) := by funext n; grind
    rwa [e] at this
end RR
namespace RR
def Cy (f : Sq) : Prop := ∀ e : Rat, 0 < e → ∃ N, ∀ n m, N ≤ n → N ≤ m → f n - f m ≤ e
theorem bd_head (f : Sq) (N : Nat) : ∃ b : Rat, 0 < b ∧ ∀ n, n < N → -b ≤ f n ∧ f n ≤ b := by
  induction N with
  | zero => exact ⟨1, by grind, fun n h => absurd h (Nat.not_lt_zero n)⟩
  | succ N ih =>
    obtain ⟨b, hb, h⟩ := ih
    by_cases c : 0 ≤ f N
    · refine ⟨b + f N, by grind, fun n hn => ?_⟩
      by_cases e : n = N
      · subst e; constructor <;> grind
      · have := h n (by omega); constructor <;> grind
    · refine ⟨b + - f N, by grind, fun n hn => ?_⟩
      by_cases e : n = N
      · subst e; constructor <;> grind
      · have := h n (by omega); constructor <;> grind
theorem Cy.bd {f : Sq} (h : Cy f) : Bd f := by
  obtain ⟨N, hN⟩ := h 1 (by grind)
  obtain ⟨b, hb, k⟩ := bd_head f (N + 1)
  refine ⟨b + 1, by grind, fun n => ?_⟩
  by_cases c : n < N + 1
  · have := k n c; constructor <;> grind
  · have a1 := hN n N (by omega) (by omega)
    have a2 := hN N n (by omega) (by omega)
    have := k N (by omega)
    constructor <;> grind
theorem Cy.const (c : Rat) : Cy fun _ => c := fun e he => ⟨0, fun _ _ _ _ => by grind⟩
theorem Cy.add {f g : Sq} (hf : Cy f) (hg : Cy g) : Cy fun n => f n + g n := fun e he => by
  obtain ⟨N, h⟩ := hf (e / 2) (by grind)
  obtain ⟨M, k⟩ := hg (e / 2) (by grind)
  refine ⟨max N M, fun n m hn hm => ?_⟩
  have := h n m (by omega) (by omega)
  have := k n m (by omega) (by omega)
  grind
theorem Cy.neg {f : Sq} (hf : Cy f) : Cy fun n => - f n := fun e he => by
  obtain ⟨N, h⟩ := hf e he
  exact ⟨N, fun n m hn hm => by have := h m n hm hn; grind⟩
theorem Cy.mul {f g : Sq} (hf : Cy f) (hg : Cy g) : Cy fun n => f n * g n := fun e he => by
  obtain ⟨b, hb, kb⟩ := hf.bd
  obtain ⟨c, hc, kc⟩ := hg.bd
  obtain ⟨N, h⟩ := hf (e / (2 * c)) (div_pos he (by grind))
  obtain ⟨M, k⟩ := hg (e / (2 * b)) (div_pos he (by grind))
  refine ⟨max N M, fun n m hn hm => ?_⟩
  have a1 := h n m (by omega) (by omega)
  have a2 := h m n (by omega) (by omega)
  have a3 := k n m (by omega) (by omega)
  have a4 := k m n (by omega) (by omega)
  have b1 := kb m
  have b2 := kc n
  have e1 : e / (2 * c) * c = e / 2 := by grind
  have e2 : e / (2 * b) * b = e / 2 := by grind
  show f n * g n - f m * g m ≤ e
  generalize e / (2 * c) = d at *
  generalize e / (2 * b) = d' at *
  generalize f n = x at *
  generalize f m = x' at *
  generalize g n = y at *
  generalize g m = y' at *
  have s1 : (x - x') * y ≤ d * c := by
    have t1 : 0 ≤ (d - (x - x')) * (c + y) := Rat.mul_nonneg (by grind) (by grind)
    have t2 : 0 ≤ (d + (x - x')) * (c - y) := Rat.mul_nonneg (by grind) (by grind)
    grind
  have s2 : (y - y') * x' ≤ d' * b := by
    have t1 : 0 ≤ (d' - (y - y')) * (b + x') := Rat.mul_nonneg (by grind) (by grind)
    have t2 : 0 ≤ (d' + (y - y')) * (b - x') := Rat.mul_nonneg (by grind) (by grind)
    grind
  grind
theorem Cy.tri {f : Sq} (h : Cy f) : Pos f ∨ Null f ∨ Pos fun n => - f n := by
  by_cases c : Null f
  · exact .inr (.inl c)
  · unfold Null at c
    obtain ⟨e, c⟩ := Classical.not_forall.mp c
    have he : 0 < e := Classical.byContradiction fun k => c fun k' => absurd k' k
    obtain ⟨N, hN⟩ := h (e / 2) (by grind)
    have : ∃ n, N ≤ n ∧ ¬ (-e ≤ f n ∧ f n ≤ e) := Classical.byContradiction fun k => c fun _ => ⟨N, fun n hn => Classical.byContradiction fun k' => k ⟨n, hn, k'⟩⟩
    obtain ⟨n, hn, k⟩ := this
    by_cases p : e < f n
    · exact .inl ⟨e / 2, by grind, N, fun m hm => by have := hN n m hn hm; grind⟩
    · exact .inr (.inr ⟨e / 2, by grind, N, fun m hm => by have := hN m n hm hn; show e / 2 ≤ - f m; grind⟩)
theorem Cy.inv {f : Sq} (h : Cy f) (p : Pos f) : ∃ g, Cy g ∧ Null fun n => f n * g n - 1 := by
  obtain ⟨e, he, N, k⟩ := p
  refine ⟨fun n => if N ≤ n then 1 / f n else 1, fun d hd => ?_, fun d hd => ⟨N, fun n hn => ?_⟩⟩
  · obtain ⟨M, q⟩ := h (d * (e * e)) (Rat.mul_pos hd (Rat.mul_pos he he))
    refine ⟨max N M, fun n m hn hm => ?_⟩
    show (if N ≤ n then 1 / f n else 1) - (if N ≤ m then 1 / f m else 1) ≤ d
    rw [if_pos (by omega), if_pos (by omega)]
    have a1 := k n (by omega)
    have a2 := k m (by omega)
    have a3 := q m n (by omega) (by omega)
    generalize f n = x at *
    generalize f m = y at *
    have x0 : 0 < x := by grind
    have y0 : 0 < y := by grind
    have xy : 0 < x * y := Rat.mul_pos x0 y0
    have t : e * e ≤ x * y := by
      have t1 : 0 ≤ (x - e) * y := Rat.mul_nonneg (by grind) (by grind)
      have t2 : 0 ≤ e * (y - e) := Rat.mul_nonneg (by grind) (by grind)
      grind
    have t3 : 0 ≤ d * (x * y - e * e) := Rat.mul_nonneg (by grind) (by grind)
    have : (1 / x - 1 / y) * (x * y) ≤ d * (x * y) := by
      have : (1 / x - 1 / y) * (x * y) = y - x := by grind
      grind
    exact Rat.le_of_mul_le_mul_right this xy
  · show -d ≤ f n * (if N ≤ n then 1 / f n else 1) - 1 ∧ f n * (if N ≤ n then 1 / f n else 1) - 1 ≤ d
    rw [if_pos hn]
    have a1 := k n hn
    have : f n * (1 / f n) = 1 := by grind
    rw [this]
    constructor <;> grind
theorem nul {f : Sq} (h : ∀ n, f n = 0) : Null f := fun e he => ⟨0, fun n _ => by rw [h n]; constructor <;> grind⟩
theorem Null.of {f g : Sq} (h : Null f) (k : ∀ n, g n = f n) : Null g := by rw [show g = f from funext k]; exact h
theorem Pos.of {f g : Sq} (h : Pos f) (k : ∀ n, g n = f n) : Pos g := by rw [show g = f from funext k]; exact h
structure CSq where
  f : Sq
  c : Cy f
def CSq.rel (a b : CSq) : Prop := Null fun n => a.f n - b.f n
instance CSq.S : Setoid CSq where
  r := CSq.rel
  iseqv := ⟨fun a => nul fun n => by grind, fun h => Null.of (Null.neg h) fun n => by grind, fun h k => Null.of (Null.add h k) fun n => by grind⟩
end RR
def Re : Type := Quotient RR.CSq.S
namespace Re
open RR
def mk (a : CSq) : Re := Quotient.mk CSq.S a
theorem sound {a b : CSq} (h : ∀ n, a.f n = b.f n) : mk a = mk b := Quotient.sound (nul fun n => by rw [h n]; grind)
theorem ind {P : Re → Prop} (h : ∀ a, P (mk a)) (x : Re) : P x := Quotient.ind h x
def ofQ (q : Rat) : Re := mk ⟨fun _ => q, Cy.const q⟩
def add : Re → Re → Re := Quotient.lift₂ (fun a b => mk ⟨fun n => a.f n + b.f n, a.c.add b.c⟩) fun a b c d h k => Quotient.sound (Null.of (Null.add h k) fun n => by grind)
def neg : Re → Re := Quotient.lift (fun a => mk ⟨fun n => - a.f n, a.c.neg⟩) fun a b h => Quotient.sound (Null.of (Null.neg h) fun n => by grind)
def mul : Re → Re → Re := Quotient.lift₂ (fun a b => mk ⟨fun n => a.f n * b.f n, a.c.mul b.c⟩) fun a b c d h k => Quotient.sound (Null.of (Null.add (Null.mul h b.c.bd) (Null.mul k c.c.bd)) fun n => by grind)
def pos : Re → Prop := Quotient.lift (fun a => Pos a.f) fun a b h => propext ⟨fun p => Pos.cg p (Null.of (Null.neg h) fun n => by grind), fun p => Pos.cg p h⟩
instance : Add Re := ⟨add⟩
instance : Neg Re := ⟨neg⟩
instance : Mul Re := ⟨mul⟩
instance : Sub Re := ⟨fun a b => a + -b⟩
instance : NatCast Re := ⟨fun n => ofQ n⟩
instance : IntCast Re := ⟨fun n => ofQ n⟩
instance (n : Nat) : OfNat Re n := ⟨ofQ n⟩
def pw (a : Re) : Nat → Re
  | 0 => 1
  | n + 1 => pw a n * a
instance : HPow Re Nat Re := ⟨pw⟩
theorem num (n : Nat) : (OfNat.ofNat n : Re) = mk ⟨fun _ => (n : Rat), Cy.const _⟩ := rfl
instance : Lean.Grind.CommRing Re where
  nsmul := ⟨fun n a => ofQ n * a⟩
  zsmul := ⟨fun n a => ofQ n * a⟩
  add_zero a := by revert a; exact ind fun a => sound fun n => by show a.f n + ((0 : Nat) : Rat) = a.f n; exact Rat.add_zero _
  add_comm a b := by revert a b; exact ind fun a => ind fun b => sound fun n => by show a.f n + b.f n = b.f n + a.f n; exact Rat.add_comm _ _
  add_assoc a b c := by revert a b c; exact ind fun a => ind fun b => ind fun c => sound fun n => by show a.f n + b.f n + c.f n = a.f n + (b.f n + c.f n); exact Rat.add_assoc _ _ _
  neg_add_cancel a := by revert a; exact ind fun a => sound fun n => by show - a.f n + a.f n = ((0 : Nat) : Rat); exact Rat.neg_add_cancel _
  mul_assoc a b c := by revert a b c; exact ind fun a => ind fun b => ind fun c => sound fun n => by show a.f n * b.f n * c.f n = a.f n * (b.f n * c.f n); exact Rat.mul_assoc _ _ _
  mul_comm a b := by revert a b; exact ind fun a => ind fun b => sound fun n => by show a.f n * b.f n = b.f n * a.f n; exact Rat.mul_comm _ _
  mul_one a := by revert a; exact ind fun a => sound fun n => by show a.f n * ((1 : Nat) : Rat) = a.f n; exact Rat.mul_one _
  one_mul a := by revert a; exact ind fun a => sound fun n => by show ((1 : Nat) : Rat) * a.f n = a.f n; exact Rat.one_mul _
  left_distrib a b c := by revert a b c; exact ind fun a => ind fun b => ind fun c => sound fun n => by show a.f n * (b.f n + c.f n) = a.f n * b.f n + a.f n * c.f n; exact Rat.mul_add _ _ _
  right_distrib a b c := by revert a b c; exact ind fun a => ind fun b => ind fun c => sound fun n => by show (a.f n + b.f n) * c.f n = a.f n * c.f n + b.f n * c.f n; exact Rat.add_mul _ _ _
  zero_mul a := by revert a; exact ind fun a => sound fun n => by show ((0 : Nat) : Rat) * a.f n = ((0 : Nat) : Rat); exact Rat.zero_mul _
  mul_zero a := by revert a; exact ind fun a => sound fun n => by show a.f n * ((0 : Nat) : Rat) = ((0 : Nat) : Rat); exact Rat.mul_zero _
  pow_zero a := rfl
  pow_succ a n := rfl
  ofNat_succ x := sound fun n => by show ((x + 1 : Nat) : Rat) = ((x : Nat) : Rat) + ((1 : Nat) : Rat); push_cast; rfl
  ofNat_eq_natCast n := rfl
  nsmul_eq_natCast_mul n a := rfl
  sub_eq_add_neg a b := rfl
  neg_zsmul i a := by revert a; exact ind fun a => sound fun n => by show ((-i : Int) : Rat) * a.f n = - ((i : Rat) * a.f n); rw [Rat.intCast_neg, Rat.neg_mul]
  zsmul_natCast_eq_nsmul n a := rfl
  intCast_ofNat n := rfl
  intCast_neg i := sound fun n => by show ((-i : Int) : Rat) = - (i : Rat); exact Rat.intCast_neg i
theorem tri (x : Re) : pos x ∨ x = 0 ∨ pos (-x) := by
  revert x
  refine ind fun a => ?_
  rcases a.c.tri with h | h | h
  · exact .inl h
  · exact .inr (.inl (Quotient.sound (Null.of h fun n => by show a.f n - ((0 : Nat) : Rat) = a.f n; grind)))
  · exact .inr (.inr h)
theorem pos_add {x y : Re} (h : pos x) (k : pos y) : pos (x + y) := by
  revert h k; revert x y
  exact fun {x y} => ind (P := fun x => pos x → pos y → pos (x + y)) (fun a => ind (P := fun y => pos (mk a) → pos y → pos (mk a + y)) (fun b h k => Pos.add h k) y) x
theorem pos_mul {x y : Re} (h : pos x) (k : pos y) : pos (x * y) := by
  revert h k; revert x y
  exact fun {x y} => ind (P := fun x => pos x → pos y → pos (x * y)) (fun a => ind (P := fun y => pos (mk a) → pos y → pos (mk a * y)) (fun b h k => Pos.mul h k) y) x
theorem pos_ne {x : Re} (h : pos x) : x ≠ 0 := by
  rintro rfl
  exact Pos.not_null (f := fun _ => ((0 : Nat) : Rat)) h (nul fun _ => rfl)
theorem pos_neg {x : Re} (h : pos x) (k : pos (-x)) : False := by
  have := pos_add h k
  rw [show x + -x = 0 by grind] at this
  exact pos_ne this rfl
instance : LT Re := ⟨fun a b => pos (b - a)⟩
instance : LE Re := ⟨fun a b => ¬ pos (a - b)⟩
theorem lt_def (a b : Re) : a < b ↔ pos (b - a) := Iff.rfl
theorem le_def (a b : Re) : a ≤ b ↔ ¬ pos (a - b) := Iff.rfl
theorem le_or (a b : Re) : a ≤ b ↔ a = b ∨ a < b := by
  rw [le_def, lt_def]
  rcases tri (b - a) with h | h | h
  · refine ⟨fun _ => .inr h, fun _ k => pos_neg h ?_⟩
    rwa [show -(b - a) = a - b by grind]
  · have : a = b := by grind
    subst this
    exact ⟨fun _ => .inl rfl, fun _ k => pos_ne k (by grind)⟩
  · rw [show -(b - a) = a - b by grind] at h
    refine ⟨fun k => absurd h k, fun k => ?_⟩
    rcases k with k | k
    · subst k; exact absurd (by grind) (pos_ne h)
    · exact (pos_neg h (by rwa [show -(a - b) = b - a by grind])).elim
instance : Std.IsLinearOrder Re where
  le_refl a := (le_or a a).mpr (.inl rfl)
  le_trans a b c h k := by
    rw [le_or] at *
    rcases h with rfl | h
    · exact k
    · rcases k with rfl | k
      · exact .inr h
      · exact .inr (by rw [lt_def] at *; rw [show c - a = (b - a) + (c - b) by grind]; exact pos_add h k)
  le_antisymm a b h k := by
    rw [le_or] at h
    rcases h with h | h
    · exact h
    · exact absurd h k
  le_total a b := by
    by_cases h : a ≤ b
    · exact .inl h
    · refine .inr ((le_or b a).mpr (.inr ?_))
      exact Classical.byContradiction fun k => h k
instance : Std.LawfulOrderLT Re where
  lt_iff a b := by
    constructor
    · exact fun h => ⟨(le_or a b).mpr (.inr h), fun k => k h⟩
    · exact fun h => Classical.byContradiction fun k => h.2 k
theorem pos_one : pos 1 := Pos.const (c := ((1 : Nat) : Rat)) (by decide)
instance : Lean.Grind.OrderedRing Re where
  add_le_left_iff {a b} c := by rw [le_def, le_def, show a + c - (b + c) = a - b by grind]
  zero_lt_one := by rw [lt_def, show (1 : Re) - 0 = 1 by grind]; exact pos_one
  mul_lt_mul_of_pos_left {a b c} h k := by
    rw [lt_def] at *
    rw [show c * b - c * a = (c - 0) * (b - a) by grind]
    exact pos_mul k h
  mul_lt_mul_of_pos_right {a b c} h k := by
    rw [lt_def] at *
    rw [show b * c - a * c = (c - 0) * (b - a) by grind]
    exact pos_mul k h
end Re
def sg (n : Int) : Int := if 0 < n then 1 else if n < 0 then -1 else 0
def signOne (u v r : Int) : Int := if sg u = sg (v * r) ∨ sg (v * r) = 0 then sg u else if sg u = 0 then sg (v * r) else sg u * sg (u * u - v * v * r)
theorem sg_mul {v r : Int} (h : 0 < r) : sg (v * r) = sg v := by
  unfold sg
  by_cases h1 : 0 < v
  · rw [if_pos h1, if_pos (Int.mul_pos h1 h)]
  · by_cases h2 : v < 0
    · have : v * r < 0 := Int.mul_neg_of_neg_of_pos h2 h
      rw [if_neg h1, if_pos h2, if_neg (by omega), if_pos this]
    · have : v = 0 := by omega
      subst this
      simp
def signTwo (u v r w t : Int) : Int := if signOne u v r = sg (w * t) ∨ sg (w * t) = 0 then signOne u v r else if signOne u v r = 0 then sg (w * t) else signOne u v r * signOne (u * u + v * v * r - w * w * t) (2 * u * v) r
def Num (d : D) : Prop := ∃ p q r s : Int, d = .tup [.int p, .int q, .int r, .int s] ∧ 0 ≤ r ∧ 0 < s ∧ Sz 120 p ∧ Sz 120 q ∧ Sz 120 r ∧ Sz 120 s
def NumB (d : D) : Prop := ∃ p q r s : Int, d = .tup [.int p, .int q, .int r, .int s] ∧ 0 ≤ r ∧ 0 < s ∧ Sz 100 p ∧ Sz 100 q ∧ Sz 100 r ∧ Sz 100 s
theorem NumB.num {d : D} (h : NumB d) : Num d := by
  obtain ⟨p, q, r, s, e, h0, h1, a, b, c, d⟩ := h
  exact ⟨p, q, r, s, e, h0, h1, a.mono (by decide), b.mono (by decide), c.mono (by decide), d.mono (by decide)⟩
theorem sWhile_true {t : Env → Out Bool} {b : Env → SO} {ρ r : Env} (ht : t ρ = .ok true) (hb : b ρ = .nx r) : sWhile t b ρ = sWhile t b r := by
  have step : ∀ n, whileN t b (n + 1) ρ = whileN t b n r := fun n => by
    show oS (t ρ) _ = _
    rw [ht, oS_ok, if_pos rfl, hb]
    rfl
  by_cases h : ∃ n, whileN t b n r ≠ .stuck
  · obtain ⟨n, h⟩ := h
    rw [sWhile_eq h, sWhile_eq (n := n + 1) (by rw [step]; exact h), step]
  · by_cases h2 : ∃ n, whileN t b n ρ ≠ .stuck
    · obtain ⟨n, h2⟩ := h2
      cases n with
      | zero => exact absurd rfl h2
      | succ n => rw [step] at h2; exact absurd ⟨n, h2⟩ h
    · unfold sWhile
      rw [dif_neg h, dif_neg h2]
theorem sWhile_false {t : Env → Out Bool} {b : Env → SO} {ρ : Env} (ht : t ρ = .ok false) : sWhile t b ρ = .nx ρ := by
  have e : whileN t b 1 ρ = .nx ρ := by
    show oS (t ρ) _ = _
    rw [ht, oS_ok, if_neg Bool.false_ne_true]
  rw [sWhile_eq (n := 1) (by rw [e]; intro z; cases z), e]
theorem sq_nn (a : Int) : 0 ≤ a * a := by
  rcases Int.le_total 0 a with h | h
  · exact Int.mul_nonneg h h
  · exact Int.mul_nonneg_of_nonpos_of_nonpos h h
theorem sq_le {a b : Int} (h0 : 0 ≤ a) (h : a ≤ b) : a * a ≤ b * b := Int.mul_le_mul h h h0 (by omega)
def ordOf (p q r s a b t d : Int) : Int := signTwo (p * d - a * s) (q * d) r (0 - b * s) t
theorem sg_real (u : Int) : RR.Sg (sg u) fun _ => (u : Rat) := by
  unfold sg
  by_cases h : 0 < u
  · rw [if_pos h]
    exact .inl ⟨rfl, RR.Pos.const (by exact_mod_cast h)⟩
  · rw [if_neg h]
    by_cases k : u < 0
    · rw [if_pos k]
      have : (u : Rat) < 0 := by exact_mod_cast k
      exact .inr (.inr ⟨rfl, RR.Pos.const (c := -(u : Rat)) (by grind)⟩)
    · rw [if_neg k]
      have : u = 0 := by omega
      subst this
      exact .inr (.inl ⟨rfl, RR.Null.zero⟩)
theorem sgv_real {v r : Int} (h : 0 ≤ r) : RR.Sg (sg (v * r)) fun n => (v : Rat) * RR.sq r.toNat n := by
  by_cases h0 : r = 0
  · subst h0
    rw [Int.mul_zero]
    refine .inr (.inl ⟨rfl, ?_⟩)
    intro e he
    refine ⟨0, fun n _ => ?_⟩
    have h1 : RR.rt 0 = 0 := by
      have := RR.rt_le 0
      have : RR.rt 0 * RR.rt 0 = 0 := by omega
      exact (Nat.mul_eq_zero.mp this).elim id id
    have h2 : RR.sq (0 : Int).toNat n = 0 := by
      show RR.sq 0 n = 0
      have h3 := RR.sq_mul 0 n
      rw [Nat.zero_mul, h1] at h3
      have p := RR.N_pos n
      have z0 : ((0 : Nat) : Rat) = 0 := rfl
      have z1 : RR.sq 0 n ≤ 0 := Rat.le_of_mul_le_mul_right (by rw [h3, z0]; grind) p
      have z2 := RR.sq_nn 0 n
      grind
    show -e ≤ (v : Rat) * RR.sq (0 : Int).toNat n ∧ (v : Rat) * RR.sq (0 : Int).toNat n ≤ e
    rw [h2]
    constructor <;> grind
  · have h1 : RR.Pos (RR.sq r.toNat) := ⟨1, by grind, 0, fun n _ => RR.sq_ge _ n (by omega)⟩
    rw [sg_mul (by omega)]
    rcases sg_real v with ⟨e, p⟩ | ⟨e, p⟩ | ⟨e, p⟩
    · exact .inl ⟨e, p.mul h1⟩
    · exact .inr (.inl ⟨e, p.mul (RR.Bd.sq _)⟩)
    · refine .inr (.inr ⟨e, ?_⟩)
      have := p.mul h1
      have e : (fun n => -(v : Rat) * RR.sq r.toNat n) = fun n => -((v : Rat) * RR.sq r.toNat n) := by funext n; grind
      rwa [e] at this
noncomputable def one (u v r : Int) : RR.Sq := fun n => (u : Rat) + (v : Rat) * RR.sq r.toNat n
theorem sqr_real {r : Int} (h : 0 ≤ r) : RR.Null fun n => RR.sq r.toNat n * RR.sq r.toNat n - (r : Rat) := by
  have := RR.sq_sq r.toNat
  have e : ((r.toNat : Nat) : Rat) = (r : Rat) := by
    have : ((r.toNat : Nat) : Int) = r := Int.toNat_of_nonneg h
    exact_mod_cast congrArg (fun z : Int => (z : Rat)) this
  rwa [e] at this
theorem RR.Sg.cg {s : Int} {f g : RR.Sq} (h : RR.Sg s f) (e : RR.Null fun n => g n - f n) : RR.Sg s g := by
  rcases h with ⟨h, p⟩ | ⟨h, p⟩ | ⟨h, p⟩
  · exact .inl ⟨h, p.cg e⟩
  · exact .inr (.inl ⟨h, p.cg e⟩)
  · refine .inr (.inr ⟨h, p.cg ?_⟩)
    have := e.neg
    have q : (fun n => -(g n - f n)) = fun n => - g n - - f n := by funext n; grind
    rwa [q] at this
theorem one_real {u v r : Int} (h : 0 ≤ r) : RR.Sg (signOne u v r) (one u v r) := by
  refine RR.Sg.sum (sg_real u) (sgv_real h) ?_ (RR.Bd.const _) ((RR.Bd.const _).mul (RR.Bd.sq _))
  refine (sg_real (u * u - v * v * r)).cg ?_
  have := (sqr_real h).mul (RR.Bd.const (-((v : Rat) * v)))
  have q : (fun n => (RR.sq r.toNat n * RR.sq r.toNat n - (r : Rat)) * -((v : Rat) * v)) = fun n => ((u : Rat) * u - (v : Rat) * RR.sq r.toNat n * ((v : Rat) * RR.sq r.toNat n)) - ((u * u - v * v * r : Int) : Rat) := by
    funext n
    push_cast
    grind
  rwa [q] at this
noncomputable def two (u v r w t : Int) : RR.Sq := fun n => one u v r n + (w : Rat) * RR.sq t.toNat n
theorem one_bd (u v r : Int) : RR.Bd (one u v r) := (RR.Bd.const _).add ((RR.Bd.const _).mul (RR.Bd.sq _))
theorem two_real {u v r w t : Int} (h : 0 ≤ r) (k : 0 ≤ t) : RR.Sg (signTwo u v r w t) (two u v r w t) := by
  refine RR.Sg.sum (one_real h) (sgv_real k) ?_ (one_bd _ _ _) ((RR.Bd.const _).mul (RR.Bd.sq _))
  refine (one_real (u := u * u + v * v * r - w * w * t) (v := 2 * u * v) h).cg ?_
  have h1 := (sqr_real h).mul (RR.Bd.const ((v : Rat) * v))
  have h2 := (sqr_real k).mul (RR.Bd.const (-((w : Rat) * w)))
  have h3 := h1.add h2
  have q : (fun n => (RR.sq r.toNat n * RR.sq r.toNat n - (r : Rat)) * ((v : Rat) * v) + (RR.sq t.toNat n * RR.sq t.toNat n - (t : Rat)) * -((w : Rat) * w)) = fun n => (one u v r n * one u v r n - (w : Rat) * RR.sq t.toNat n * ((w : Rat) * RR.sq t.toNat n)) - one (u * u + v * v * r - w * w * t) (2 * u * v) r n := by
    funext n
    unfold one
    push_cast
    grind
  rwa [q] at h3
namespace Re
open RR
theorem inv_ex (x : Re) (h : x ≠ 0) : ∃ y, x * y = 1 := by
  have key : ∀ x : Re, pos x → ∃ y, x * y = 1 := ind fun a h => by
    obtain ⟨g, cg, ng⟩ := Cy.inv a.c h
    exact ⟨mk ⟨g, cg⟩, Quotient.sound (Null.of ng fun n => by show a.f n * g n - ((1 : Nat) : Rat) = a.f n * g n - 1; rfl)⟩
  rcases tri x with p | p | p
  · exact key x p
  · exact absurd p h
  · obtain ⟨y, e⟩ := key (-x) p
    exact ⟨-y, by grind⟩
open Classical in
noncomputable def inv (x : Re) : Re := if h : x = 0 then 0 else Classical.choose (inv_ex x h)
noncomputable instance : Inv Re := ⟨inv⟩
noncomputable instance : Div Re := ⟨fun a b => a * inv b⟩
theorem mul_inv {x : Re} (h : x ≠ 0) : x * x⁻¹ = 1 := by
  show x * inv x = 1
  unfold inv
  rw [dif_neg h]
  exact Classical.choose_spec (inv_ex x h)
theorem inv_0 : (0 : Re)⁻¹ = 0 := by
  show inv 0 = 0
  unfold inv
  rw [dif_pos rfl]
theorem one_ne : (0 : Re) ≠ 1 := fun h => pos_ne pos_one h.symm
theorem inv_inv (x : Re) : (x⁻¹)⁻¹ = x := by
  by_cases h : x = 0
  · subst h; rw [inv_0, inv_0]
  · have h1 := mul_inv h
    have h2 : x⁻¹ ≠ 0 := fun k => by rw [k] at h1; exact one_ne (by grind)
    have h3 := mul_inv h2
    generalize (x⁻¹)⁻¹ = z at *
    generalize x⁻¹ = y at *
    have : x * (y * z) = x := by rw [h3]; grind
    grind
noncomputable def zpw (a : Re) : Int → Re
  | .ofNat n => a ^ n
  | .negSucc n => (a ^ (n + 1))⁻¹
noncomputable instance : HPow Re Int Re := ⟨zpw⟩
theorem inv_1 : (1 : Re)⁻¹ = 1 := by
  have := mul_inv (x := 1) (fun h => one_ne h.symm)
  grind
noncomputable instance : Lean.Grind.Field Re where
  div_eq_mul_inv a b := rfl
  zero_ne_one := one_ne
  inv_zero := inv_0
  mul_inv_cancel h := mul_inv h
  zpow_zero a := rfl
  zpow_succ a n := rfl
  zpow_neg a n := by
    rcases n with n | n
    · cases n with
      | zero => show (1 : Re) = (1 : Re)⁻¹; rw [inv_1]
      | succ n => rfl
    · show a ^ (n + 1) = ((a ^ (n + 1))⁻¹)⁻¹
      rw [inv_inv]
open Classical in
noncomputable def sgn (x : Re) : Int := if pos x then 1 else if x = 0 then 0 else -1
theorem sgn_pos {x : Re} : sgn x = 1 ↔ 0 < x := by
  rw [lt_def, show x - 0 = x by grind]
  unfold sgn
  split
  · simp [*]
  · split
    · rename_i h; exact ⟨fun k => by simp at k, fun k => absurd k (by rw [h]; exact fun q => pos_ne q rfl)⟩
    · simp [*]
theorem sgn_zero {x : Re} : sgn x = 0 ↔ x = 0 := by
  unfold sgn
  split
  · exact ⟨fun h => by simp at h, fun h => absurd h (pos_ne ‹_›)⟩
  · split <;> simp [*]
theorem sgn_neg {x : Re} : sgn x = -1 ↔ x < 0 := by
  rw [lt_def, show 0 - x = -x by grind]
  rcases tri x with h | h | h
  · have : sgn x = 1 := by unfold sgn; rw [if_pos h]
    rw [this]
    exact ⟨fun k => by omega, fun k => (pos_neg h k).elim⟩
  · subst h
    have : sgn 0 = 0 := sgn_zero.mpr rfl
    rw [this]
    exact ⟨fun k => by omega, fun k => absurd (by grind) (pos_ne k)⟩
  · have h1 : ¬ pos x := fun k => pos_neg k h
    have h2 : x ≠ 0 := fun k => pos_ne h (by grind)
    unfold sgn
    rw [if_neg h1, if_neg h2]
    exact ⟨fun _ => h, fun _ => rfl⟩
theorem sgn_of {s : Int} {a : CSq} (h : Sg s a.f) : sgn (mk a) = s := by
  rcases h with ⟨rfl, h⟩ | ⟨rfl, h⟩ | ⟨rfl, h⟩
  · exact sgn_pos.mpr (by rw [lt_def, show mk a - 0 = mk a by grind]; exact h)
  · exact sgn_zero.mpr (Quotient.sound (Null.of h fun n => by show a.f n - ((0 : Nat) : Rat) = a.f n; grind))
  · exact sgn_neg.mpr (by rw [lt_def, show 0 - mk a = - mk a by grind]; exact h)
theorem sgn_cases (x : Re) : (sgn x = 1 ∧ 0 < x) ∨ (sgn x = 0 ∧ x = 0) ∨ (sgn x = -1 ∧ x < 0) := by
  rcases tri x with h | h | h
  · have : 0 < x := by rw [lt_def, show x - 0 = x by grind]; exact h
    exact .inl ⟨sgn_pos.mpr this, this⟩
  · exact .inr (.inl ⟨sgn_zero.mpr h, h⟩)
  · have : x < 0 := by rw [lt_def, show 0 - x = -x by grind]; exact h
    exact .inr (.inr ⟨sgn_neg.mpr this, this⟩)
end Re
theorem RR.Cy.sq (r : Nat) : RR.Cy (RR.sq r) := fun e he => by
  obtain ⟨N, h⟩ := RR.sq_sq r e he
  refine ⟨N, fun n m hn hm => ?_⟩
  have a1 := h n hn
  have a2 := h m hm
  by_cases c : 1 ≤ r
  · have b1 := RR.sq_ge r n c
    have b2 := RR.sq_ge r m c
    simp only [] at a1 a2
    generalize RR.sq r n = x at *
    generalize RR.sq r m = y at *
    apply Classical.byContradiction
    intro k
    have t : 0 ≤ (x - y - e) * (x + y) := Rat.mul_nonneg (by grind) (by grind)
    have t2 : 0 ≤ e * (x + y - 2) := Rat.mul_nonneg (by grind) (by grind)
    have t3 : 0 < (x - y - e) * (x + y) := Rat.mul_pos (by grind) (by grind)
    grind
  · have : r = 0 := by omega
    subst this
    have z : ∀ n, RR.sq 0 n = 0 := fun n => by
      unfold RR.sq
      have h := RR.rt_le (0 * ((n + 1) * (n + 1)))
      have : RR.rt (0 * ((n + 1) * (n + 1))) = 0 := by
        generalize RR.rt (0 * ((n + 1) * (n + 1))) = k at *
        rcases k with _ | k
        · rfl
        · rw [Nat.zero_mul] at h
          exact absurd h (Nat.not_le.mpr (Nat.mul_pos (Nat.succ_pos k) (Nat.succ_pos k)))
      rw [this]
      show (((0 : Nat) : Rat)) / _ = 0
      grind
    rw [z n, z m]
    grind
namespace Re
open RR
noncomputable def root (r : Int) : Re := mk ⟨RR.sq r.toNat, Cy.sq _⟩
theorem two_sgn {u v r w t : Int} (h : 0 ≤ r) (k : 0 ≤ t) : signTwo u v r w t = sgn (u + v * root r + w * root t) :=
  (sgn_of (a := ⟨fun n => (u : Rat) + (v : Rat) * RR.sq r.toNat n + (w : Rat) * RR.sq t.toNat n, ((Cy.const _).add ((Cy.const _).mul (Cy.sq _))).add ((Cy.const _).mul (Cy.sq _))⟩) (two_real h k)).symm
theorem cast_mul (a b : Int) : ((a * b : Int) : Re) = a * b := Lean.Grind.Ring.intCast_mul a b
theorem cast_sub (a b : Int) : ((a - b : Int) : Re) = a - b := Lean.Grind.Ring.intCast_sub a b
theorem cast_0 : ((0 : Int) : Re) = 0 := rfl
theorem cast_1 : ((1 : Int) : Re) = 1 := rfl
theorem cast_pos' {a : Int} (h : 0 < a) : (0 : Re) < (a : Re) := by
  rw [lt_def]
  refine Pos.of (Pos.const (c := (a : Rat)) (by exact_mod_cast h)) fun n => ?_
  show (a : Rat) + - ((0 : Nat) : Rat) = (a : Rat)
  have z : ((0 : Nat) : Rat) = 0 := rfl
  grind
theorem cast_lt {a b : Int} : (a : Re) < (b : Re) ↔ a < b := by
  have key : ∀ a b : Int, a < b → (a : Re) < (b : Re) := fun a b h => by
    have := cast_pos' (show 0 < b - a by omega)
    rw [cast_sub] at this
    grind
  refine ⟨fun h => ?_, key a b⟩
  apply Classical.byContradiction
  intro c
  by_cases e : a = b
  · subst e; grind
  · have := key b a (by omega); grind
theorem cast_le {a b : Int} : (a : Re) ≤ (b : Re) ↔ a ≤ b := by
  rw [← Std.not_lt, cast_lt, Int.not_lt]
end Re
abbrev T3 := Int × Int × Int
def SzT (n : Nat) (t : T3) : Prop := Sz n t.1 ∧ Sz n t.2.1 ∧ Sz n t.2.2
theorem SzT.mono {n m : Nat} {t : T3} (h : SzT n t) (l : n ≤ m) : SzT m t := ⟨h.1.mono l, h.2.1.mono l, h.2.2.mono l⟩
abbrev N4 := Int × Int × Int × Int
noncomputable def val (x : N4) : Re := ((x.1 : Re) + (x.2.1 : Re) * Re.root x.2.2.1) / (x.2.2.2 : Re)
structure GoodX (n : Nat) (x : N4) : Prop where
  r0 : 0 ≤ x.2.2.1
  s0 : 0 < x.2.2.2
  sp : Sz n x.1
  sq : Sz n x.2.1
  sr : Sz n x.2.2.1
  ss : Sz n x.2.2.2
theorem GoodX.mono {n m : Nat} {x : N4} (h : GoodX n x) (l : n ≤ m) : GoodX m x := ⟨h.r0, h.s0, h.sp.mono l, h.sq.mono l, h.sr.mono l, h.ss.mono l⟩
theorem Re.sgn_scale {c x : Re} (h : 0 < c) : Re.sgn (c * x) = Re.sgn x := by
  rcases Re.sgn_cases x with ⟨e, k⟩ | ⟨e, k⟩ | ⟨e, k⟩
  · rw [e, Re.sgn_pos]
    have := Lean.Grind.OrderedRing.mul_lt_mul_of_pos_left k h
    grind
  · rw [e, Re.sgn_zero, k]; grind
  · rw [e, Re.sgn_neg]
    have := Lean.Grind.OrderedRing.mul_lt_mul_of_pos_left k h
    grind
theorem val_mul {x : N4} (h : 0 < x.2.2.2) : val x * (x.2.2.2 : Re) = (x.1 : Re) + (x.2.1 : Re) * Re.root x.2.2.1 := by
  have := Re.cast_pos' h
  unfold val
  grind
def ordX (x y : N4) : Int := ordOf x.1 x.2.1 x.2.2.1 x.2.2.2 y.1 y.2.1 y.2.2.1 y.2.2.2
theorem ordX_sgn {x y : N4} (r0 : 0 ≤ x.2.2.1) (s0 : 0 < x.2.2.2) (t0 : 0 ≤ y.2.2.1) (d0 : 0 < y.2.2.2) : ordX x y = Re.sgn (val x - val y) := by
  have h1 := val_mul s0
  have h2 := val_mul d0
  unfold ordX ordOf
  rw [Re.two_sgn r0 t0]
  have c1 := Re.cast_pos' s0
  have c2 := Re.cast_pos' d0
  have c3 : (0 : Re) < (x.2.2.2 : Re) * (y.2.2.2 : Re) := by
    have := Lean.Grind.OrderedRing.mul_lt_mul_of_pos_left c2 c1
    grind
  rw [← Re.sgn_scale (x := val x - val y) c3]
  congr 1
  simp only [Re.cast_sub, Re.cast_mul, Re.cast_0]
  grind
theorem ordX_lt {n m : Nat} {x y : N4} (h : GoodX n x) (k : GoodX m y) : ordX x y < 0 ↔ val x < val y := by
  rw [ordX_sgn h.r0 h.s0 k.r0 k.s0]
  rcases Re.sgn_cases (val x - val y) with ⟨e, q⟩ | ⟨e, q⟩ | ⟨e, q⟩ <;> rw [e]
  · exact ⟨fun z => absurd z (by decide), fun z => by grind⟩
  · exact ⟨fun z => absurd z (by decide), fun z => by grind⟩
  · exact ⟨fun _ => by grind, fun _ => by decide⟩
theorem ordX_gt {n m : Nat} {x y : N4} (h : GoodX n x) (k : GoodX m y) : 0 < ordX x y ↔ val y < val x := by
  rw [ordX_sgn h.r0 h.s0 k.r0 k.s0]
  rcases Re.sgn_cases (val x - val y) with ⟨e, q⟩ | ⟨e, q⟩ | ⟨e, q⟩ <;> rw [e]
  · exact ⟨fun _ => by grind, fun _ => by decide⟩
  · exact ⟨fun z => absurd z (by decide), fun z => by grind⟩
  · exact ⟨fun z => absurd z (by decide), fun z => by grind⟩
noncomputable def pol (t : T3) (X : Re) : Re := (t.1 : Re) + (t.2.1 : Re) * X + (t.2.2 : Re) * X * X
theorem Re.sq_nn (x : Re) : 0 ≤ x * x := by
  by_cases c : 0 ≤ x
  · have := Lean.Grind.OrderedRing.mul_le_mul_of_nonneg_left c c
    grind
  · have c' : 0 ≤ -x := by grind
    have := Lean.Grind.OrderedRing.mul_le_mul_of_nonneg_left c' c'
    grind
theorem Re.mul_nn {x y : Re} (h : 0 ≤ x) (k : 0 ≤ y) : 0 ≤ x * y := Lean.Grind.OrderedRing.mul_nonneg h k
theorem Re.mul_pp {x y : Re} (h : 0 < x) (k : 0 < y) : 0 < x * y := by
  have := Lean.Grind.OrderedRing.mul_lt_mul_of_pos_left k h
  grind
theorem Re.one_of {B : Re} {b : Int} (h : B * B = (b : Re)) (p : 0 < B) : 1 ≤ B := by
  have h1 : (0 : Re) < (b : Re) := by rw [← h]; exact Re.mul_pp p p
  have h2 : 0 < b := Re.cast_lt.mp (by rw [Re.cast_0]; exact h1)
  have h3 : (1 : Re) ≤ (b : Re) := by rw [← Re.cast_1, Re.cast_le]; omega
  apply Classical.byContradiction
  intro c
  have a1 := Re.mul_nn (x := 1 - B) (y := B) (by grind) (by grind)
  grind
structure PtX (n : Nat) (rt : Int) (x : N4) : Prop where
  good : GoodX n x
  same : x.2.1 = 0 ∨ x.2.2.1 = rt
theorem PtX.val {n : Nat} {rt : Int} {x : N4} (h : PtX n rt x) : PD.val x * (x.2.2.2 : Re) = (x.1 : Re) + (x.2.1 : Re) * Re.root rt := by
  rw [val_mul h.good.s0]
  rcases h.same with e | e
  · rw [e, Re.cast_0]; grind
  · rw [e]
inductive Wd where | less | most | equal | unlike
deriving DecidableEq
def Wd.str : Wd → Str
  | .less => "less"
  | .most => "most"
  | .equal => "equal"
  | .unlike => "unlike"
inductive Sn where
  | yes | no | cmp (w : Wd) (f : List Tm) | both (l : List Sn) | either (l : List Sn) | neg (s : Sn) | some (x : List Nat) (s : Sn) | all (x : List Nat) (s : Sn)
mutual
def eSn : Sn → D
  | .yes => .tup [.str "yes"]
  | .no => .tup [.str "no"]
  | .cmp w f => .tup [.str w.str, .tup (f.map encQ)]
  | .both l => .tup [.str "both", .tup (eSns l)]
  | .either l => .tup [.str "either", .tup (eSns l)]
  | .neg s => .tup [.str "not", eSn s]
  | .some x s => .tup [.str "some", encN x, eSn s]
  | .all x s => .tup [.str "all", encN x, eSn s]
def eSns : List Sn → List D
  | [] => []
  | s :: l => eSn s :: eSns l
end
theorem eSns_map : ∀ l : List Sn, eSns l = l.map eSn
  | [] => rfl
  | s :: l => by rw [eSns, eSns_map l]; rfl
mutual
def Sn.depth : Sn → Nat
  | .yes => 1
  | .no => 1
  | .cmp _ _ => 1
  | .both l => Sn.depths l + 1
  | .either l => Sn.depths l + 1
  | .neg s => s.depth + 1
  | .some _ s => s.depth + 1
  | .all _ s => s.depth + 1
def Sn.depths : List Sn → Nat
  | [] => 0
  | s :: l => max s.depth (Sn.depths l)
end
theorem sdep_mem {s : Sn} : ∀ {l : List Sn}, s ∈ l → s.depth ≤ Sn.depths l
  | t :: l, h => by
    show s.depth ≤ max t.depth (Sn.depths l)
    rcases List.mem_cons.mp h with e | h
    · subst e; omega
    · have := sdep_mem h; omega
theorem sdeps_le {n : Nat} : ∀ {l : List Sn}, (∀ s ∈ l, s.depth ≤ n) → Sn.depths l ≤ n
  | [], _ => Nat.zero_le _
  | t :: l, h => by
    show max t.depth (Sn.depths l) ≤ n
    have := h t List.mem_cons_self
    have := sdeps_le fun s hs => h s (List.mem_cons_of_mem t hs)
    omega
def Sn.parts : Sn → List Sn
  | .both l => l
  | .either l => l
  | .neg s => [s]
  | .some _ s => [s]
  | .all _ s => [s]
  | _ => []
def Sn.word : Sn → Str
  | .yes => "yes"
  | .no => "no"
  | .cmp w _ => w.str
  | .both _ => "both"
  | .either _ => "either"
  | .neg _ => "not"
  | .some _ _ => "some"
  | .all _ _ => "all"
def Sn.isCmp : Sn → Bool
  | .cmp _ _ => true
  | _ => false
mutual
def Sn.cmps : Sn → List (Wd × List Tm)
  | .yes => []
  | .no => []
  | .cmp w f => [(w, f)]
  | .both l => Sn.cmpss l
  | .either l => Sn.cmpss l
  | .neg s => s.cmps
  | .some _ s => s.cmps
  | .all _ s => s.cmps
def Sn.cmpss : List Sn → List (Wd × List Tm)
  | [] => []
  | s :: l => s.cmps ++ Sn.cmpss l
end
theorem cmpss_flat : ∀ l : List Sn, Sn.cmpss l = l.flatMap Sn.cmps
  | [] => rfl
  | s :: l => by rw [Sn.cmpss, cmpss_flat l, List.flatMap_cons]
theorem cmps_parts {s : Sn} (h : s.isCmp = false) : s.cmps = s.parts.flatMap Sn.cmps := by
  cases s with
  | cmp w f => cases h
  | yes => rfl
  | no => rfl
  | both l => exact cmpss_flat l
  | either l => exact cmpss_flat l
  | neg s => show s.cmps = s.cmps ++ []; rw [List.append_nil]
  | some x s => show s.cmps = s.cmps ++ []; rw [List.append_nil]
  | all x s => show s.cmps = s.cmps ++ []; rw [List.append_nil]
mutual
noncomputable def Sn.fv : Sn → List (List Nat)
  | .yes => []
  | .no => []
  | .cmp _ f => namesOf f
  | .both l => Sn.fvs l
  | .either l => Sn.fvs l
  | .neg s => s.fv
  | .some x s => s.fv.filter fun y => decide (y ≠ x)
  | .all x s => s.fv.filter fun y => decide (y ≠ x)
noncomputable def Sn.fvs : List Sn → List (List Nat)
  | [] => []
  | s :: l => s.fv ++ Sn.fvs l
end
noncomputable def setN (xs : List (List Nat)) (l : List (List Nat × Bool)) : List (List Nat × Bool) := xs.foldl (fun l x => put l x true) l
noncomputable def Sn.free (s : Sn) : List (List Nat) := sortN ((setN s.fv []).map (·.1))
def sayB : Wd → Int → Bool
  | .less, z => decide (z < 0)
  | .most, z => decide (z ≤ 0)
  | .equal, z => decide (z = 0)
  | .unlike, z => decide (z ≠ 0)
theorem said_eq (w : Wd) (z : Int) : m_said [.str w.str, .int z] = .ok (.bl (sayB w z)) := by
  cases w <;> (unfold m_said b_said sayB Wd.str; walk_at "gos"; try simp)
def L (s : String) : List Nat := (Str.ofString s).cps.toList
def it (i : Int) : List Nat := L (toString i)
theorem L_app (a b : String) : L (a ++ b) = L a ++ L b := by
  unfold L
  rw [Str.ofString_eq_toList, Str.ofString_eq_toList, Str.ofString_eq_toList]
  simp
theorem it_neg {i : Int} (h : i < 0) : it i = L "-" ++ it (-i) := by
  obtain ⟨n, rfl⟩ : ∃ n : Nat, i = Int.negSucc n := ⟨(-i - 1).toNat, by omega⟩
  unfold it
  rw [← L_app]
  rfl
theorem it_pos {i : Int} (h : 0 ≤ i) : it i = L (toString i.toNat) := by
  obtain ⟨n, rfl⟩ := Int.eq_ofNat_of_zero_le h
  rfl
theorem it_ne (i : Int) : it i ≠ [] := by
  have nat : ∀ n : Nat, L (toString n) ≠ [] := fun n => by
    unfold L
    rw [Str.ofString_eq_toList]
    intro h
    have h2 : (toString n).toList = [] := by simpa using h
    have : (Nat.toDigits 10 n) = [] := by
      have e : (toString n).toList = Nat.toDigits 10 n := by
        show (Nat.repr n).toList = _
        unfold Nat.repr
        simp
      rw [← e]; exact h2
    exact Nat.toDigits_ne_nil this
  by_cases h : i < 0
  · rw [it_neg h]; intro z; have := congrArg List.length z; simp [L] at this; exact absurd this.1 (by decide +kernel)
  · rw [it_pos (by omega)]; exact nat _
theorem log_lt {n : Nat} {i : Int} (h : Sz n i) (hn : n ≤ 1920) : i.natAbs.log2 < 1920 := by
  unfold Sz at h
  by_cases z : i.natAbs = 0
  · rw [z]; decide
  · exact Nat.lt_of_lt_of_le ((Nat.log2_lt z).mpr h) hn
theorem cStr_int {n : Nat} {i : Int} (h : Sz n i) (hn : n ≤ 1920) : cStr [.int i] = .ok (.str (S (it i))) := by
  unfold cStr
  simp only
  rw [chk_pos (log_lt h hn)]; rfl
theorem dEq_Tx {a b : List Nat} (ha : PyData.strOk (S a) = true) (hb : PyData.strOk (S b) = true) : dEq (.str (S a)) (.str (S b)) = .ok (.bl (decide (a = b))) := by
  rw [dEq_lit ha hb, S_beq]
theorem dNe_Tx {a b : List Nat} (ha : PyData.strOk (S a) = true) (hb : PyData.strOk (S b) = true) : dNe (.str (S a)) (.str (S b)) = .ok (.bl (!decide (a = b))) := by
  rw [dNe_lit ha hb, S_beq]
def SG : List (Str × Str) := [("less", "<"), ("most", "<="), ("equal", "="), ("unlike", "/=")]
def Wd.sg : Wd → List Nat
  | .less => L "<"
  | .most => L "<="
  | .equal => L "="
  | .unlike => L "/="
def isB (o : Bool) : Sn → Bool
  | .both _ => !o
  | .either _ => true
  | .some _ _ => true
  | .all _ _ => true
  | _ => false
def brk (o : Bool) (s : Sn) (t : List Nat) : List Nat := if isB o s then L "(" ++ t ++ L ")" else t
def Okt (l : List Nat) : Prop := ∀ c ∈ l, c < 1114112
theorem okt_str {l : List Nat} (h : Okt l) : PyData.strOk (S l) = true := by
  unfold PyData.strOk
  rw [Array.all_eq_true_iff_forall_mem]
  intro c hc
  exact decide_eq_true (h c (by simpa using hc))
theorem okt_nil : Okt [] := fun c hc => (List.not_mem_nil hc).elim
def fgs : List Nat := [48, 49, 50, 51, 52, 53, 54, 55, 56, 57]
theorem fgs_str : Str.ofString "0123456789" = S fgs := by decide +kernel
def isLt (c : Nat) : Bool := decide (97 ≤ c ∧ c ≤ 122)
def isFg (c : Nat) : Bool := decide (48 ≤ c ∧ c ≤ 57)
def Asc (l : List Nat) : Prop := ∀ c ∈ l, c < 128
theorem asc_okt {l : List Nat} (h : Asc l) : Okt l := fun c hc => by have := h c hc; omega
theorem in_SS (a b : Str) : dIn (.str a) (.str b) = .ok (.bl (!(Builtin.Str.occurrences b a 0 b.length 1).isEmpty)) := rfl
theorem in_abc {c : Nat} (h : c < 128) : dIn (.str (S [c])) (.str (S abc)) = .ok (.bl (isLt c)) := by
  have key : ∀ c : Nat, c < 128 → (!(Builtin.Str.occurrences (S abc) (S [c]) 0 (S abc).length 1).isEmpty) = isLt c := by decide +kernel
  rw [in_SS, key c h]
theorem in_fgs {c : Nat} (h : c < 128) : dIn (.str (S [c])) (.str (S fgs)) = .ok (.bl (isFg c)) := by
  have key : ∀ c : Nat, c < 128 → (!(Builtin.Str.occurrences (S fgs) (S [c]) 0 (S fgs).length 1).isEmpty) = isFg c := by decide +kernel
  rw [in_SS, key c h]
theorem run_loop {l s : List Nat} {p : Nat → Bool} (hs : ∀ c, c < 128 → dIn (.str (S [c])) (.str (S s)) = .ok (.bl (p c))) (ha : Asc l) (hl : l.length ≤ 100000) {x0 : Option D} :
    ∀ (n e : Nat), ((l.drop e).takeWhile p).length = n → e ≤ l.length →
      sWhile (bAnd (tOf (e2 dLt (eV 3) (eA cLen (aC (eV 0) aN)))) (tOf (e2 dIn (e2 dIx (eV 0) (eV 3)) (eV 2)))) b_run_of_1 [some (.str (S l)), x0, some (.str (S s)), some (.int e)]
        = .nx [some (.str (S l)), x0, some (.str (S s)), some (.int ((e + n : Nat) : Int))]
  | n, e, hn, he => by
    have f1 := cLen_S (l := l) (by omega)
    cases hd : l.drop e with
    | nil =>
      have el : e = l.length := by have := congrArg List.length hd; rw [List.length_drop] at this; simp at this; omega
      have n0 : n = 0 := by rw [hd] at hn; simpa using hn.symm
      subst n0
      have c1 : ((e : Int) < (l.length : Int)) = False := eq_false (by omega)
      rw [Nat.add_zero]
      refine sWhile_false ?_
      clear hs hd hn ha el
      walk_at "goi"
    | cons c r =>
      have ec : l[e]? = some c := by rw [← List.head?_drop, hd]; rfl
      have hlt : e < l.length := by rw [List.getElem?_eq_some_iff] at ec; exact ec.1
      have mc : c ∈ l := by rw [List.getElem?_eq_some_iff] at ec; obtain ⟨h, e'⟩ := ec; rw [← e']; exact List.getElem_mem h
      have f2 := dIx_S ec (by omega)
      have f3 := hs c (ha c mc)
      have c1 : ((e : Int) < (l.length : Int)) = True := eq_true (by omega)
      cases hp : p c with
      | false =>
        have n0 : n = 0 := by rw [hd, List.takeWhile_cons, hp] at hn; simpa using hn.symm
        subst n0
        rw [hp] at f3
        rw [Nat.add_zero]
        refine sWhile_false ?_
        clear hs hd hn ha mc ec
        walk_at "goi"
      | true =>
        rw [hp] at f3
        rw [hd, List.takeWhile_cons, hp] at hn
        obtain ⟨m, rfl⟩ : ∃ m, n = m + 1 := ⟨(r.takeWhile p).length, by simpa using hn.symm⟩
        have hr : l.drop (e + 1) = r := by rw [← List.drop_drop, hd]; rfl
        have ih := run_loop hs ha hl (x0 := x0) m (e + 1) (by rw [hr]; simpa using hn) (by omega)
        have e2 : e + 1 + m = e + (m + 1) := by omega
        rw [e2] at ih
        rw [← ih]
        refine sWhile_true ?_ ?_
        · clear hs hd hn ha mc ec ih
          walk_at "goi"
        · clear hs hd hn ha mc ec ih
          have e3 : ((e : Int) + 1) = ((e + 1 : Nat) : Int) := by omega
          unfold b_run_of_1
          walk_at "goi"
  termination_by n => n
theorem cutD_mid {α : Type} (l : List α) {a b : Nat} (h : a ≤ l.length) (hb : a ≤ b) : cutD l (some (a : Int)) (some (b : Int)) = (l.drop a).take (b - a) := by
  unfold cutD
  rw [HT.sIx_nat, HT.sIx_nat, Nat.min_eq_left h]
  by_cases c : b ≤ l.length
  · rw [Nat.min_eq_left c]
  · rw [Nat.min_eq_right (by omega)]
    rw [List.take_of_length_le (by rw [List.length_drop]; exact Nat.le_refl _), List.take_of_length_le (by rw [List.length_drop]; omega)]
theorem take_tw {α : Type} (p : α → Bool) (l : List α) : l.take (l.takeWhile p).length = l.takeWhile p := by
  induction l with
  | nil => rfl
  | cons a l ih =>
    rw [List.takeWhile_cons]
    cases p a with
    | true => simp [ih]
    | false => rfl
theorem run_of_eq {l s : List Nat} {p : Nat → Bool} (hs : ∀ c, c < 128 → dIn (.str (S [c])) (.str (S s)) = .ok (.bl (p c))) (ha : Asc l) (hl : l.length ≤ 100000) {k : Nat} (hk : k ≤ l.length) :
    m_run_of [.str (S l), .int k, .str (S s)] = .ok (.str (S ((l.drop k).takeWhile p))) := by
  have f1 := run_loop hs ha hl (x0 := some (.int k)) _ k rfl hk
  have tw : ((l.drop k).takeWhile p).length ≤ l.length - k := by
    have := (List.takeWhile_prefix p (l := l.drop k)).length_le
    rw [List.length_drop] at this
    exact this
  have f2 := dSl_S (l := l) (by omega) (some (k : Int)) (some ((k + ((l.drop k).takeWhile p).length : Nat) : Int))
  rw [cutD_mid l hk (by omega), Nat.add_sub_cancel_left, take_tw] at f2
  generalize (l.drop k).takeWhile p = T at *
  clear hs ha
  unfold m_run_of b_run_of
  walk_at "goi"
def sgs : List (List Nat) := [[60, 61], [62, 61], [47, 61], [60], [62], [61], [43], [45], [42], [47], [94], [40], [41], [58]]
theorem sgs_enc : ([.str "<=", .str ">=", .str "/=", .str "<", .str ">", .str "=", .str "+", .str "-", .str "*", .str "/", .str "^", .str "(", .str ")", .str ":"] : List D) = sgs.map fun s => .str (S s) := by
  have a1 : ("<=" : Str) = S [60, 61] := by decide +kernel
  have a2 : (">=" : Str) = S [62, 61] := by decide +kernel
  have a3 : ("/=" : Str) = S [47, 61] := by decide +kernel
  have a4 : ("<" : Str) = S [60] := by decide +kernel
  have a5 : (">" : Str) = S [62] := by decide +kernel
  have a6 : ("=" : Str) = S [61] := by decide +kernel
  have a7 : ("+" : Str) = S [43] := by decide +kernel
  have a8 : ("-" : Str) = S [45] := by decide +kernel
  have a9 : ("*" : Str) = S [42] := by decide +kernel
  have b1 : ("/" : Str) = S [47] := by decide +kernel
  have b2 : ("^" : Str) = S [94] := by decide +kernel
  have b3 : ("(" : Str) = S [40] := by decide +kernel
  have b4 : (")" : Str) = S [41] := by decide +kernel
  have b5 : (":" : Str) = S [58] := by decide +kernel
  rw [a1, a2, a3, a4, a5, a6, a7, a8, a9, b1, b2, b3, b4, b5]
  rfl
def sgAt (t : List Nat) : Option (List Nat) := sgs.find? fun s => decide (t.take s.length = s)
def wordAt (t : List Nat) : Option (List Nat) :=
  if 8 < (t.takeWhile isLt).length then none else if t.takeWhile isLt ≠ [] then some (t.takeWhile isLt)
  else if 30 < (t.takeWhile isFg).length then none else if t.takeWhile isFg ≠ [] then some (t.takeWhile isFg) else sgAt t
def noText : Exn := ⟨"NoText", []⟩
theorem sgs_asc : ∀ s ∈ sgs, Asc s ∧ s.length ≤ 2 := by unfold Asc; decide
theorem sign_loop {l : List Nat} (ha : Asc l) (hl : l.length ≤ 100000) {k : Nat} (hk : k ≤ l.length) {x2 : Option D} : ∀ (ss : List (List Nat)) (x3 : Option D), (∀ s ∈ ss, Asc s ∧ s.length ≤ 2) →
    ∃ ρ, forL (gN 3) b_word_from_1 (ss.map fun s => .str (S s)) [some (.str (S l)), some (.int k), x2, x3] = match ss.find? fun s => decide ((l.drop k).take s.length = s) with
      | some s => .rt (.str (S s))
      | none => .nx ρ
  | [], x3, _ => ⟨_, rfl⟩
  | s :: ss, x3, h => by
    obtain ⟨as, ls⟩ := h s List.mem_cons_self
    have f1 := cLen_S (l := s) (by omega)
    have f2 := dSl_S (l := l) (by omega) (some (k : Int)) (some ((k + s.length : Nat) : Int))
    rw [cutD_mid l hk (by omega), Nat.add_sub_cancel_left] at f2
    have at_ : Asc ((l.drop k).take s.length) := fun c hc => ha c (List.mem_of_mem_drop (List.mem_of_mem_take hc))
    have f3 := dEq_Tx (okt_str (asc_okt at_)) (okt_str (asc_okt as))
    have e3 : ((k : Int) + (s.length : Int)) = ((k + s.length : Nat) : Int) := by omega
    obtain ⟨ρ, ih⟩ := sign_loop ha hl hk (x2 := x2) ss (some (.str (S s))) fun z hz => h z (List.mem_cons_of_mem _ hz)
    rw [List.map_cons, List.find?_cons]
    by_cases c : (l.drop k).take s.length = s
    · rw [decide_eq_true c] at f3 ⊢
      refine ⟨[], ?_⟩
      have step : (b_word_from_1 [some (.str (S l)), some (.int k), x2, some (.str (S s))]) = .rt (.str (S s)) := by
        generalize (l.drop k).take s.length = T at *
        clear ih h as at_ ha c
        unfold b_word_from_1
        walk_at "goi"
      show (oS (gN 3 _ _) _) = _
      unfold forL
      simp only [gN_ap, oS_ok, List.set_cons_succ, List.set_cons_zero, step]
      rfl
    · rw [decide_eq_false c] at f3 ⊢
      refine ⟨ρ, ?_⟩
      have step : (b_word_from_1 [some (.str (S l)), some (.int k), x2, some (.str (S s))]) = .nx [some (.str (S l)), some (.int k), x2, some (.str (S s))] := by
        generalize (l.drop k).take s.length = T at *
        clear ih h as at_ ha c
        unfold b_word_from_1
        walk_at "goi"
      unfold forL
      simp only [gN_ap, oS_ok, List.set_cons_succ, List.set_cons_zero, step, turn_nx]
      exact ih
theorem takeWhile_asc {p : Nat → Bool} {l : List Nat} (h : Asc l) : Asc (l.takeWhile p) := fun c hc => h c ((List.takeWhile_sublist p).subset hc)
theorem drop_asc {l : List Nat} (h : Asc l) (k : Nat) : Asc (l.drop k) := fun c hc => h c (List.mem_of_mem_drop hc)
theorem asc_nil : Asc [] := fun c hc => (List.not_mem_nil hc).elim
theorem word_from_eq {l : List Nat} (ha : Asc l) (hl : l.length ≤ 100000) {k : Nat} (hk : k ≤ l.length) :
    m_word_from [.str (S l), .int k] = match wordAt (l.drop k) with
      | some w => .ok (.str (S w))
      | none => .exc noText := by
  have tw : ∀ p, ((l.drop k).takeWhile p).length ≤ 100000 := fun p => by
    have := (List.takeWhile_prefix p (l := l.drop k)).length_le
    rw [List.length_drop] at this
    omega
  have r1 := run_of_eq (s := abc) (fun c => in_abc) ha hl hk
  have r2 := run_of_eq (s := fgs) (fun c => in_fgs) ha hl hk
  have g0 : Str.ofString "" = S [] := rfl
  have g1 := abc_str
  have g2 := fgs_str
  have n1 := cLen_S (l := (l.drop k).takeWhile isLt) (by have := tw isLt; omega)
  have n2 := cLen_S (l := (l.drop k).takeWhile isFg) (by have := tw isFg; omega)
  have q1 := dNe_Tx (okt_str (asc_okt (takeWhile_asc (p := isLt) (drop_asc ha k)))) (okt_str okt_nil)
  have q2 := dNe_Tx (okt_str (asc_okt (takeWhile_asc (p := isFg) (drop_asc ha k)))) (okt_str okt_nil)
  obtain ⟨ρ, lp⟩ := sign_loop ha hl hk (x2 := some (.str (S ((l.drop k).takeWhile isFg)))) sgs none sgs_asc
  rw [← sgs_enc] at lp
  have et : wordAt (l.drop k) = if 8 < ((l.drop k).takeWhile isLt).length then none else if (l.drop k).takeWhile isLt ≠ [] then some ((l.drop k).takeWhile isLt)
    else if 30 < ((l.drop k).takeWhile isFg).length then none else if (l.drop k).takeWhile isFg ≠ [] then some ((l.drop k).takeWhile isFg) else sgAt (l.drop k) := rfl
  have es : sgAt (l.drop k) = sgs.find? fun s => decide ((l.drop k).take s.length = s) := rfl
  rw [← es] at lp
  rw [et]
  generalize sgAt (l.drop k) = SG at *
  generalize (l.drop k).takeWhile isLt = A at *
  generalize (l.drop k).takeWhile isFg = B at *
  clear et es tw ha hk hl
  unfold m_word_from b_word_from noText
  by_cases c1 : 8 < A.length
  · rw [if_pos c1]
    have d1 : ((8 : Int) < (A.length : Int)) = True := eq_true (by omega)
    clear c1 q1 q2 n2 lp r2
    walk_at "goi"
  · rw [if_neg c1]
    have d1 : ((8 : Int) < (A.length : Int)) = False := eq_false (by omega)
    clear c1
    by_cases c2 : A = []
    · rw [if_neg (not_not_intro c2)]
      subst c2
      replace q1 : dNe (.str (S [])) (.str (S [])) = .ok (.bl false) := by rw [q1]; rfl
      replace n1 : cLen [.str (S [])] = .ok (.int 0) := n1
      replace d1 : ((8 : Int) < 0) = False := eq_false (by omega)
      by_cases c3 : 30 < B.length
      · rw [if_pos c3]
        have d2 : ((30 : Int) < (B.length : Int)) = True := eq_true (by omega)
        clear c3 q2 lp
        walk_at "goi"
      · rw [if_neg c3]
        have d2 : ((30 : Int) < (B.length : Int)) = False := eq_false (by omega)
        clear c3
        by_cases c4 : B = []
        · rw [if_neg (not_not_intro c4)]
          subst c4
          replace q2 : dNe (.str (S [])) (.str (S [])) = .ok (.bl false) := q1
          replace n2 : cLen [.str (S [])] = .ok (.int 0) := n1
          replace d2 : ((30 : Int) < 0) = False := eq_false (by omega)
          cases SG with
          | none =>
            simp only at lp
            walk_at "goi"
          | some s =>
            simp only at lp
            walk_at "goi"
        · rw [if_pos c4]
          replace q2 : dNe (.str (S B)) (.str (S [])) = .ok (.bl true) := by rw [q2, decide_eq_false c4]; rfl
          clear c4 lp
          walk_at "goi"
    · rw [if_pos c2]
      replace q1 : dNe (.str (S A)) (.str (S [])) = .ok (.bl true) := by rw [q1, decide_eq_false c2]; rfl
      clear c2 lp q2 n2 r2
      walk_at "goi"
inductive Tk : List Nat → List (List Nat) → Prop
  | nil : Tk [] []
  | sp {l : List Nat} {ws : List (List Nat)} : Tk l ws → Tk (32 :: l) ws
  | wd {l w : List Nat} {ws : List (List Nat)} : wordAt l = some w → Tk (l.drop w.length) ws → Tk l (w :: ws)
theorem wordAt_ok {l w : List Nat} (h : wordAt l = some w) : w ≠ [] ∧ l.take w.length = w ∧ l.head? ≠ some 32 := by
  have nz : ∀ s ∈ sgs, s ≠ [] ∧ s.head? ≠ some 32 := by decide
  have hd : ∀ z, l.take z.length = z → z ≠ [] → z.head? ≠ some 32 → l.head? ≠ some 32 := fun z e n q => by
    cases z with
    | nil => exact absurd rfl n
    | cons c z =>
      cases l with
      | nil => simp at e
      | cons d l =>
        simp only [List.length_cons, List.take_succ_cons, List.cons.injEq] at e
        rw [e.1]; exact q
  have tw : ∀ p : Nat → Bool, p 32 = false → l.takeWhile p ≠ [] → l.head? ≠ some 32 := fun p e n => by
    cases l with
    | nil => exact absurd rfl n
    | cons d l =>
      intro z
      simp only [List.head?_cons, Option.some.injEq] at z
      subst z
      rw [List.takeWhile_cons, e] at n
      exact n rfl
  unfold wordAt at h
  split at h
  · cases h
  · split at h
    · rename_i n
      cases h
      exact ⟨n, take_tw _ _, tw isLt (by decide) n⟩
    · split at h
      · cases h
      · split at h
        · rename_i n
          cases h
          exact ⟨n, take_tw _ _, tw isFg (by decide) n⟩
        · unfold sgAt at h
          have m := List.mem_of_find?_eq_some h
          have e := List.find?_some h
          exact ⟨(nz w m).1, of_decide_eq_true e, hd w (of_decide_eq_true e) (nz w m).1 (nz w m).2⟩
theorem words_loop {l : List Nat} (ha : Asc l) (hl : l.length ≤ 100000) : ∀ {r : List Nat} {ws : List (List Nat)}, Tk r ws → ∀ (k : Nat) (pre : List D) (x3 : Option D), k ≤ l.length → l.drop k = r → pre.length + r.length ≤ 100000 →
    ∃ y3, sWhile (tOf (e2 dLt (eV 2) (eA cLen (aC (eV 0) aN)))) b_words_of_1 [some (.str (S l)), some (.lst pre), some (.int k), x3]
      = .nx [some (.str (S l)), some (.lst (pre ++ ws.map fun w => .str (S w))), some (.int (l.length : Int)), y3] := by
  intro r ws h
  have f1 := cLen_S (l := l) (by omega)
  have g0 : Str.ofString " " = S [32] := by decide +kernel
  induction h with
  | nil =>
    intro k pre x3 hk hd hp
    have el : k = l.length := by have := congrArg List.length hd; rw [List.length_drop] at this; simp at this; omega
    subst el
    refine ⟨x3, ?_⟩
    rw [List.map_nil, List.append_nil]
    have c1 : ((l.length : Int) < (l.length : Int)) = False := eq_false (by omega)
    refine sWhile_false ?_
    clear hd hp ha hk
    walk_at "goi"
  | @sp r ws h ih =>
    intro k pre x3 hk hd hp
    have ec : l[k]? = some 32 := by rw [← List.head?_drop, hd]; rfl
    have hlt : k < l.length := by rw [List.getElem?_eq_some_iff] at ec; exact ec.1
    have f2 := dIx_S ec (by omega)
    have f3 : dEq (.str (S [32])) (.str (S [32])) = .ok (.bl true) := by
      rw [dEq_Tx (okt_str (fun c hc => by simp at hc; omega)) (okt_str (fun c hc => by simp at hc; omega))]; rfl
    have c1 : ((k : Int) < (l.length : Int)) = True := eq_true (by omega)
    have e3 : ((k : Int) + 1) = ((k + 1 : Nat) : Int) := by omega
    obtain ⟨y3, ih⟩ := ih (k + 1) pre x3 (by omega) (by rw [← List.drop_drop, hd]; rfl) (by rw [List.length_cons] at hp; omega)
    refine ⟨y3, ?_⟩
    rw [← ih]
    clear hd hp ha hk ih ec hlt h
    refine sWhile_true ?_ ?_
    · walk_at "goi"
    · unfold b_words_of_1
      walk_at "goi"
  | @wd r w ws hw h ih =>
    intro k pre x3 hk hd hp
    obtain ⟨nw, tw, h32⟩ := wordAt_ok hw
    obtain ⟨c, r', rfl⟩ : ∃ c r', r = c :: r' := by
      cases r with
      | nil => rw [List.take_nil] at tw; exact absurd tw.symm nw
      | cons c r' => exact ⟨c, r', rfl⟩
    have ec : l[k]? = some c := by rw [← List.head?_drop, hd]; rfl
    have hlt : k < l.length := by rw [List.getElem?_eq_some_iff] at ec; exact ec.1
    have mc : c ∈ l := by rw [List.getElem?_eq_some_iff] at ec; obtain ⟨h, e'⟩ := ec; rw [← e']; exact List.getElem_mem h
    have wl : w.length ≤ (c :: r').length := by
      have := congrArg List.length tw
      rw [List.length_take] at this
      omega
    have rl : (c :: r').length = l.length - k := by rw [← hd, List.length_drop]
    have f2 := dIx_S ec (by omega)
    have f3 : dEq (.str (S [c])) (.str (S [32])) = .ok (.bl false) := by
      rw [dEq_Tx (okt_str (fun d hd => by simp at hd; have := ha c mc; omega)) (okt_str (fun c hc => by simp at hc; omega)), decide_eq_false]
      intro z
      refine h32 ?_
      simp only [List.cons.injEq] at z
      rw [z.1]; rfl
    have f4 := word_from_eq ha hl hk
    rw [hd, hw] at f4
    have f5 := cLen_S (l := w) (by omega)
    have wp : 1 ≤ w.length := by cases w with | nil => exact absurd rfl nw | cons _ _ => simp
    have c1 : ((k : Int) < (l.length : Int)) = True := eq_true (by omega)
    have e3 : ((k : Int) + (w.length : Int)) = ((k + w.length : Nat) : Int) := by omega
    have sz : pre.length < sizeLine := len_lt (by omega)
    obtain ⟨y3, ih⟩ := ih (k + w.length) (pre ++ [.str (S w)]) (some (.str (S w))) (by omega) (by rw [← List.drop_drop, hd]) (by rw [List.length_append, List.length_drop]; simp only [List.length_cons, List.length_nil]; rw [List.length_cons] at hp wl; omega)
    refine ⟨y3, ?_⟩
    rw [List.append_assoc] at ih
    rw [List.map_cons]
    refine Eq.trans ?_ ih
    clear hd hp ha hk ih ec hlt h mc h32 tw nw rl wl hw
    refine sWhile_true ?_ ?_
    · walk_at "goi"
    · unfold b_words_of_1
      walk_at "goi"
theorem words_of_eq {l : List Nat} {ws : List (List Nat)} (h : Tk l ws) (ha : Asc l) (hl : l.length ≤ 100000) : m_words_of [.str (S l)] = .ok (.lst (ws.map fun w => .str (S w))) := by
  obtain ⟨y3, e⟩ := words_loop ha hl h 0 [] none (Nat.zero_le _) rfl (by simpa using hl)
  rw [List.nil_append] at e
  replace e : sWhile (tOf (e2 dLt (eV 2) (eA cLen (aC (eV 0) aN)))) b_words_of_1 [some (.str (S l)), some (.lst []), some (.int 0), none] = _ := e
  have ek : mkLst [] = .ok (.lst []) := chk_pos (by decide)
  clear h ha
  unfold m_words_of b_words_of
  walk_at "goi"
def Wn (ws : List (List Nat)) : List D := ws.map fun w => .str (S w)
structure WsOk (ws : List (List Nat)) : Prop where
  asc : ∀ w ∈ ws, Asc w
  ne : ∀ w ∈ ws, w ≠ []
  wl : ∀ w ∈ ws, w.length ≤ 30
  len : ws.length ≤ 100000
def hd (ws : List (List Nat)) (k : Nat) : List Nat := (ws[k]?).getD []
theorem hd_at {ws : List (List Nat)} {k : Nat} (h : k < ws.length) : hd ws k = ws[k] := by unfold hd; rw [List.getElem?_eq_getElem h]; rfl
theorem hd_out {ws : List (List Nat)} {k : Nat} (h : ws.length ≤ k) : hd ws k = [] := by unfold hd; rw [List.getElem?_eq_none h]; rfl
theorem WsOk.hd_asc {ws : List (List Nat)} (h : WsOk ws) (k : Nat) : Asc (hd ws k) := by
  by_cases c : k < ws.length
  · rw [hd_at c]; exact h.asc _ (List.getElem_mem c)
  · rw [hd_out (by omega)]; exact asc_nil
theorem WsOk.hd_len {ws : List (List Nat)} (h : WsOk ws) (k : Nat) : (hd ws k).length ≤ 30 := by
  by_cases c : k < ws.length
  · rw [hd_at c]; exact h.wl _ (List.getElem_mem c)
  · rw [hd_out (by omega)]; exact Nat.zero_le _
theorem here_eq {ws : List (List Nat)} (h : ws.length ≤ 100000) (k : Nat) : m_Reader_here [RDd (Wn ws) (.int k)] = .ok (RT (.str (S (hd ws k))) (Wn ws) (.int k)) := by
  have wl : (Wn ws).length = ws.length := List.length_map ..
  have sz : (Wn ws).length ≤ sizeLine := len_ok (by omega)
  have g0 : Str.ofString "" = S [] := rfl
  by_cases c : k < ws.length
  · have c1 : ((k : Int) < ((Wn ws).length : Int)) = True := eq_true (by omega)
    have f1 : dIx (.lst (Wn ws)) (.int k) = .ok (.str (S (hd ws k))) := dIx_lst (by unfold Wn; rw [List.getElem?_map, List.getElem?_eq_getElem c, hd_at c]; rfl)
    generalize hd ws k = T at *
    generalize Wn ws = W at *
    clear wl c
    unfold m_Reader_here b_Reader_here
    walk_at "gor"
  · have c1 : ((k : Int) < ((Wn ws).length : Int)) = False := eq_false (by omega)
    rw [hd_out (by omega)]
    generalize Wn ws = W at *
    clear wl c
    unfold m_Reader_here b_Reader_here
    walk_at "gor"
theorem taken_yes {ws : List (List Nat)} (h : WsOk ws) {k : Nat} {w : List Nat} (hw : hd ws k = w) : m_Reader_taken [RDd (Wn ws) (.int k), .str (S w)] = .ok (RT (.bl true) (Wn ws) (.int ((k + 1 : Nat) : Int))) := by
  have f1 := here_eq h.len k
  have f2 : dNe (.str (S (hd ws k))) (.str (S w)) = .ok (.bl false) := by
    rw [← hw, dNe_Tx (okt_str (asc_okt (h.hd_asc k))) (okt_str (asc_okt (h.hd_asc k))), decide_eq_true rfl]; rfl
  have e3 : ((k : Int) + 1) = ((k + 1 : Nat) : Int) := by omega
  generalize hd ws k = T at *
  generalize Wn ws = W at *
  clear h hw
  unfold m_Reader_taken b_Reader_taken
  walk_at "gor"
theorem taken_no {ws : List (List Nat)} (h : WsOk ws) {k : Nat} {w : List Nat} (ow : Asc w) (hw : hd ws k ≠ w) : m_Reader_taken [RDd (Wn ws) (.int k), .str (S w)] = .ok (RT (.bl false) (Wn ws) (.int k)) := by
  have f1 := here_eq h.len k
  have f2 : dNe (.str (S (hd ws k))) (.str (S w)) = .ok (.bl true) := by
    rw [dNe_Tx (okt_str (asc_okt (h.hd_asc k))) (okt_str (asc_okt ow)), decide_eq_false hw]; rfl
  generalize hd ws k = T at *
  generalize Wn ws = W at *
  clear h hw ow
  unfold m_Reader_taken b_Reader_taken
  walk_at "gor"
theorem must_yes {ws : List (List Nat)} (h : WsOk ws) {k : Nat} {w : List Nat} (hw : hd ws k = w) : m_Reader_must [RDd (Wn ws) (.int k), .str (S w)] = .ok (RT .non (Wn ws) (.int ((k + 1 : Nat) : Int))) := by
  have f1 := taken_yes h hw
  generalize Wn ws = W at *
  clear h hw
  unfold m_Reader_must b_Reader_must
  walk_at "gor"
theorem notin_SS (a b : Str) : dNotIn (.str a) (.str b) = .ok (.bl (!(!(Builtin.Str.occurrences b a 0 b.length 1).isEmpty))) := rfl
def isD9 (c : Nat) : Bool := decide (49 ≤ c ∧ c ≤ 57)
def isCm (c : Nat) : Bool := decide (c = 60 ∨ c = 62 ∨ c = 61 ∨ c = 47)
def d9s : List Nat := [49, 50, 51, 52, 53, 54, 55, 56, 57]
def cms : List Nat := [60, 62, 61, 47]
theorem d9s_str : Str.ofString "123456789" = S d9s := by decide +kernel
theorem cms_str : Str.ofString "<>=/" = S cms := by decide +kernel
theorem notin_abc {c : Nat} (h : c < 128) : dNotIn (.str (S [c])) (.str (S abc)) = .ok (.bl (!isLt c)) := by
  have key : ∀ c : Nat, c < 128 → (!(!(Builtin.Str.occurrences (S abc) (S [c]) 0 (S abc).length 1).isEmpty)) = !isLt c := by decide +kernel
  rw [notin_SS, key c h]
theorem notin_fgs {c : Nat} (h : c < 128) : dNotIn (.str (S [c])) (.str (S fgs)) = .ok (.bl (!isFg c)) := by
  have key : ∀ c : Nat, c < 128 → (!(!(Builtin.Str.occurrences (S fgs) (S [c]) 0 (S fgs).length 1).isEmpty)) = !isFg c := by decide +kernel
  rw [notin_SS, key c h]
theorem notin_d9s {c : Nat} (h : c < 128) : dNotIn (.str (S [c])) (.str (S d9s)) = .ok (.bl (!isD9 c)) := by
  have key : ∀ c : Nat, c < 128 → (!(!(Builtin.Str.occurrences (S d9s) (S [c]) 0 (S d9s).length 1).isEmpty)) = !isD9 c := by decide +kernel
  rw [notin_SS, key c h]
theorem notin_cms {c : Nat} (h : c < 128) : dNotIn (.str (S [c])) (.str (S cms)) = .ok (.bl (!isCm c)) := by
  have key : ∀ c : Nat, c < 128 → (!(!(Builtin.Str.occurrences (S cms) (S [c]) 0 (S cms).length 1).isEmpty)) = !isCm c := by decide +kernel
  rw [notin_SS, key c h]
theorem one_of_yes {ws : List (List Nat)} (h : WsOk ws) {s : List Nat} {p : Nat → Bool} (hs : ∀ c, c < 128 → dNotIn (.str (S [c])) (.str (S s)) = .ok (.bl (!p c))) {k c : Nat} {r : List Nat} (hw : hd ws k = c :: r) (hp : p c = true) :
    m_Reader_one_of [RDd (Wn ws) (.int k), .str (S s)] = .ok (RT (.str (S (c :: r))) (Wn ws) (.int ((k + 1 : Nat) : Int))) := by
  have f1 := here_eq h.len k
  have a1 : Asc (c :: r) := hw ▸ h.hd_asc k
  have l1 := h.hd_len k
  rw [hw] at f1 l1
  have f2 : dEq (.str (S (c :: r))) (.str (S [])) = .ok (.bl false) := by rw [dEq_Tx (okt_str (asc_okt a1)) (okt_str okt_nil), decide_eq_false (by intro z; cases z)]
  have f3 : dIx (.str (S (c :: r))) (.int 0) = .ok (.str (S [c])) := dIx_S (k := 0) rfl (by omega)
  have f4 := hs c (a1 c List.mem_cons_self)
  rw [hp] at f4
  have g0 : Str.ofString "" = S [] := rfl
  have e3 : ((k : Int) + 1) = ((k + 1 : Nat) : Int) := by omega
  generalize c :: r = T at *
  generalize Wn ws = W at *
  clear h hs hw a1 hp l1
  unfold m_Reader_one_of b_Reader_one_of
  walk_at "gor"
theorem in_kws (w : List Nat) : dIn (.str (S w)) (.tup [.str "some", .str "all", .str "and", .str "or", .str "not", .str "yes", .str "no"]) = .ok (.bl (decide (w ∈ words))) := by
  have e0 : ("some" : Str) = S [115, 111, 109, 101] := by decide +kernel
  have e1 : ("all" : Str) = S [97, 108, 108] := by decide +kernel
  have e2 : ("and" : Str) = S [97, 110, 100] := by decide +kernel
  have e3 : ("or" : Str) = S [111, 114] := by decide +kernel
  have e4 : ("not" : Str) = S [110, 111, 116] := by decide +kernel
  have e5 : ("yes" : Str) = S [121, 101, 115] := by decide +kernel
  have e6 : ("no" : Str) = S [110, 111] := by decide +kernel
  rw [e0, e1, e2, e3, e4, e5, e6]
  have key := dIn_lit (S w) (words.map S)
  rw [List.map_map] at key
  refine Eq.trans key ?_
  congr 2
  rw [List.any_map]
  refine Bool.eq_iff_iff.mpr ?_
  rw [List.any_eq_true, decide_eq_true_iff]
  constructor
  · rintro ⟨y, hy, e⟩
    simp only [Function.comp_apply, S_beq, decide_eq_true_iff] at e
    exact e ▸ hy
  · intro hy
    exact ⟨w, hy, by simp only [Function.comp_apply, S_beq, decide_eq_true_iff]⟩
structure NmR (w : List Nat) : Prop where
  ne : w ≠ []
  let_ : ∀ c ∈ w, 97 ≤ c ∧ c ≤ 122
  no : w ∉ words
theorem unknown_yes {ws : List (List Nat)} (h : WsOk ws) {k : Nat} {w : List Nat} (hw : hd ws k = w) (n : NmR w) :
    m_Reader_unknown [RDd (Wn ws) (.int k)] = .ok (RT (.str (S w)) (Wn ws) (.int ((k + 1 : Nat) : Int))) := by
  obtain ⟨c, r, rfl⟩ : ∃ c r, w = c :: r := by
    cases w with
    | nil => exact absurd rfl n.ne
    | cons c r => exact ⟨c, r, rfl⟩
  have f1 := one_of_yes h (s := abc) (fun c => notin_abc) hw (decide_eq_true (n.let_ c List.mem_cons_self))
  have f2 := in_kws (c :: r)
  rw [decide_eq_false n.no] at f2
  have g1 := abc_str
  generalize c :: r = T at *
  generalize Wn ws = W at *
  clear h hw n
  unfold m_Reader_unknown b_Reader_unknown
  walk_at "gor"
structure Fg (w : List Nat) : Prop where
  ne : w ≠ []
  dig : ∀ c ∈ w, 48 ≤ c ∧ c ≤ 57
def dv (w : List Nat) : Nat := PySem.NumText.digitsVal w
theorem Fg.int {w : List Nat} (h : Fg w) (l : w.length ≤ 30) : cIntS [.str (S w)] = .ok (.int (dv w : Nat)) := by
  have e : PySem.intText? (S w) = some ((dv w : Nat) : Int) := PySem.intText_digits (x := S w) (by rw [S_list]; exact h.dig) (by rw [S_list]; exact h.ne) (by rw [S_len]; omega)
  show (match PySem.intText? (S w) with | some n => chk ((S w).length ≤ 640) (Out.ok (D.int n)) | none => .stuck) = _
  rw [e]
  exact chk_pos (by rw [S_len]; omega)
theorem dv_it (n : Nat) : dv (it (n : Int)) = n := by
  show PySem.NumText.digitsVal (Str.ofString (toString (n : Int))).cps.toList = n
  rw [PySem.W.KIN.signs_num, PySem.W.KIN.val_back]
theorem dv_lt : ∀ (w : List Nat), (∀ c ∈ w, 48 ≤ c ∧ c ≤ 57) → dv w < 10 ^ w.length := by
  have key : ∀ (w : List Nat) (a : Nat), (∀ c ∈ w, 48 ≤ c ∧ c ≤ 57) → w.foldl (fun acc c => acc * 10 + (c - 48)) a < (a + 1) * 10 ^ w.length := by
    intro w
    induction w with
    | nil => intro a _; simp
    | cons c w ih =>
      intro a h
      rw [List.foldl_cons, List.length_cons, Nat.pow_succ]
      have := ih (a * 10 + (c - 48)) fun d hd => h d (List.mem_cons_of_mem _ hd)
      have hc := h c List.mem_cons_self
      refine Nat.lt_of_lt_of_le this ?_
      have : a * 10 + (c - 48) + 1 ≤ (a + 1) * 10 := by omega
      calc (a * 10 + (c - 48) + 1) * 10 ^ w.length ≤ ((a + 1) * 10) * 10 ^ w.length := Nat.mul_le_mul_right _ this
        _ = (a + 1) * (10 ^ w.length * 10) := by rw [Nat.mul_assoc, Nat.mul_comm 10]
  intro w h
  have := key w 0 h
  simpa [dv, PySem.NumText.digitsVal] using this
theorem power_one {ws : List (List Nat)} (h : WsOk ws) {k : Nat} (hw : hd ws k ≠ [94]) : m_Reader_power [RDd (Wn ws) (.int k)] = .ok (RT (.int 1) (Wn ws) (.int k)) := by
  have f1 := taken_no h (w := [94]) (by unfold Asc; decide) hw
  have g1 : Str.ofString "^" = S [94] := by decide +kernel
  generalize Wn ws = W at *
  clear h hw
  unfold m_Reader_power b_Reader_power
  walk_at "gor"
theorem power_yes {ws : List (List Nat)} (h : WsOk ws) {k c : Nat} (hw : hd ws k = [94]) (h2 : hd ws (k + 1) = [c]) (hc : 49 ≤ c ∧ c ≤ 57) : m_Reader_power [RDd (Wn ws) (.int k)] = .ok (RT (.int ((c - 48 : Nat) : Int)) (Wn ws) (.int ((k + 2 : Nat) : Int))) := by
  have f1 := taken_yes h hw
  have f2 := one_of_yes h (s := d9s) (fun c => notin_d9s) h2 (decide_eq_true hc)
  have f3 : cIntS [.str (S [c])] = .ok (.int ((c - 48 : Nat) : Int)) := by
    have := (Fg.mk (w := [c]) (by simp) (fun d hd => by simp at hd; omega)).int (by simp)
    have e : dv [c] = c - 48 := by show 0 * 10 + (c - 48) = _; omega
    rw [e] at this
    exact this
  have f4 : cLen [.str (S [c])] = .ok (.int 1) := cLen_S (l := [c]) (by simp)
  have g1 : Str.ofString "^" = S [94] := by decide +kernel
  have g2 := d9s_str
  have c0 : ((1 : Int) < 1) = False := eq_false (by omega)
  rw [show k + 2 = k + 1 + 1 from rfl]
  generalize Wn ws = W at *
  clear h hw h2 hc
  unfold m_Reader_power b_Reader_power
  walk_at "gor"
theorem fraction_one {ws : List (List Nat)} (h : WsOk ws) {k : Nat} {a : List Nat} (hw : hd ws k = a) (ha : Fg a) (h2 : hd ws (k + 1) ≠ [47]) :
    m_Reader_fraction [RDd (Wn ws) (.int k)] = .ok (RT (.tup [.int (dv a : Nat), .int 1]) (Wn ws) (.int ((k + 1 : Nat) : Int))) := by
  have f3 := ha.int (by rw [← hw]; exact h.hd_len k)
  obtain ⟨c, r, rfl⟩ : ∃ c r, a = c :: r := by
    cases a with
    | nil => exact absurd rfl ha.ne
    | cons c r => exact ⟨c, r, rfl⟩
  have f1 := one_of_yes h (s := fgs) (fun c => notin_fgs) hw (decide_eq_true (ha.dig c List.mem_cons_self))
  have f2 := taken_no h (w := [47]) (by unfold Asc; decide) h2
  have g1 : Str.ofString "/" = S [47] := by decide +kernel
  have g2 := fgs_str
  have f5 : mkTup [.int (dv (c :: r) : Nat), .int 1] = .ok (.tup [.int (dv (c :: r) : Nat), .int 1]) := chk_pos (by show 2 ≤ sizeLine; decide)
  generalize c :: r = T at *
  generalize Wn ws = W at *
  clear h hw h2 ha
  unfold m_Reader_fraction b_Reader_fraction
  walk_at "gor"
theorem fraction_two {ws : List (List Nat)} (h : WsOk ws) {k : Nat} {a b : List Nat} (hw : hd ws k = a) (ha : Fg a) (h2 : hd ws (k + 1) = [47]) (h3 : hd ws (k + 2) = b) (hb : Fg b) (nz : dv b ≠ 0) :
    m_Reader_fraction [RDd (Wn ws) (.int k)] = .ok (RT (.tup [.int (dv a : Nat), .int (dv b : Nat)]) (Wn ws) (.int ((k + 3 : Nat) : Int))) := by
  have f3 := ha.int (by rw [← hw]; exact h.hd_len k)
  have f4 := hb.int (by rw [← h3]; exact h.hd_len (k + 2))
  rw [show k + 3 = k + 1 + 1 + 1 from rfl]
  replace h3 : hd ws (k + 1 + 1) = b := h3
  obtain ⟨c, r, rfl⟩ : ∃ c r, a = c :: r := by
    cases a with
    | nil => exact absurd rfl ha.ne
    | cons c r => exact ⟨c, r, rfl⟩
  obtain ⟨d, r', rfl⟩ : ∃ d r', b = d :: r' := by
    cases b with
    | nil => exact absurd rfl hb.ne
    | cons c r => exact ⟨c, r, rfl⟩
  have f1 := one_of_yes h (s := fgs) (fun c => notin_fgs) hw (decide_eq_true (ha.dig c List.mem_cons_self))
  have f2 := taken_yes h h2
  have f6 := one_of_yes h (s := fgs) (fun c => notin_fgs) h3 (decide_eq_true (hb.dig d List.mem_cons_self))
  have g1 : Str.ofString "/" = S [47] := by decide +kernel
  have g2 := fgs_str
  have n0 : ((dv (d :: r') : Nat) : Int) ≠ 0 := by omega
  have f5 : mkTup [.int (dv (c :: r) : Nat), .int (dv (d :: r') : Nat)] = .ok (.tup [.int (dv (c :: r) : Nat), .int (dv (d :: r') : Nat)]) := chk_pos (by show 2 ≤ sizeLine; decide)
  have f7 : dEq (.int (dv (d :: r') : Nat)) (.int 0) = .ok (.bl false) := by rw [dEq_int, decide_eq_false n0]
  generalize d :: r' = T' at *
  generalize c :: r = T at *
  generalize Wn ws = W at *
  clear h hw h2 ha hb h3 nz n0
  unfold m_Reader_fraction b_Reader_fraction
  walk_at "gor"
def At (ws : List (List Nat)) : Nat → List (List Nat) → Prop
  | _, [] => True
  | k, u :: us => hd ws k = u ∧ At ws (k + 1) us
theorem at_app {ws : List (List Nat)} : ∀ {us : List (List Nat)} {k : Nat} {vs : List (List Nat)}, At ws k (us ++ vs) ↔ At ws k us ∧ At ws (k + us.length) vs
  | [], k, vs => by simp [At]
  | u :: us, k, vs => by
    rw [List.cons_append, At, At, at_app, List.length_cons, Nat.add_assoc, Nat.add_comm 1, and_assoc]
inductive Fc where
  | num (a : List Nat) (b : Option (List Nat))
  | nm (w : List Nat) (p : Option Nat)
def Fc.W : Fc → List (List Nat)
  | .num a none => [a]
  | .num a (some b) => [a, [47], b]
  | .nm w none => [w]
  | .nm w (some c) => [w, [94], [c]]
def Fc.Ok : Fc → Prop
  | .num a none => Fg a
  | .num a (some b) => Fg a ∧ Fg b ∧ dv b ≠ 0
  | .nm w none => NmR w ∧ Nm w
  | .nm w (some c) => (NmR w ∧ Nm w) ∧ 49 ≤ c ∧ c ≤ 57
abbrev Tv := Mn × Int × Int
noncomputable def Fc.step (v : Tv) : Fc → Tv
  | .num a none => (v.1, v.2.1 * (dv a : Nat), v.2.2 * 1)
  | .num a (some b) => (v.1, v.2.1 * (dv a : Nat), v.2.2 * (dv b : Nat))
  | .nm w none => (mulM v.1 [(w, 1)], v.2.1, v.2.2)
  | .nm w (some c) => (mulM v.1 [(w, ((c - 48 : Nat) : Int))], v.2.1, v.2.2)
theorem sz_dv {a : List Nat} (h : Fg a) (l : a.length ≤ 30) : Sz 100 (dv a : Nat) := by
  have := dv_lt a h.dig
  unfold Sz
  rw [Int.natAbs_natCast]
  refine Nat.lt_of_lt_of_le this ?_
  refine Nat.le_trans (Nat.pow_le_pow_right (by decide) l) ?_
  decide
theorem fac_step {ws : List (List Nat)} (h : WsOk ws) {f : Fc} (hf : f.Ok) {k : Nat} (ha : At ws k f.W) (n1 : hd ws (k + f.W.length) ≠ [47]) (n2 : hd ws (k + f.W.length) ≠ [94]) {v : Tv} {n : Nat} (st : Sz n v.2.1) (sb : Sz n v.2.2) (hn : n ≤ 100000) (hm : ∀ p ∈ v.1, Nm p.1) (hl : v.1.length ≤ 5000)
    {g : Bool} {k3 : Nat} (ft : m_Reader_taken [RDd (Wn ws) (.int ((k + f.W.length : Nat) : Int)), .str (S [42])] = .ok (RT (.bl g) (Wn ws) (.int k3))) {x5 x6 x7 x8 : Option D} :
    ∃ y5 y6 y7 y8, b_Reader_term_1 [some (RDd (Wn ws) (.int k)), some (.int v.2.1), some (encM v.1), some (.int v.2.2), some (.bl true), x5, x6, x7, x8]
      = .nx [some (RDd (Wn ws) (.int k3)), some (.int (f.step v).2.1), some (encM (f.step v).1), some (.int (f.step v).2.2), some (.bl g), y5, y6, y7, y8] := by
  obtain ⟨m, t, b⟩ := v
  have f1 := here_eq h.len k
  have g0 : Str.ofString "" = S [] := rfl
  have g1 := fgs_str
  have g2 : Str.ofString "*" = S [42] := by decide +kernel
  have a1 := h.hd_asc k
  have l1 := h.hd_len k
  have first : ∀ {c : Nat} {r : List Nat}, hd ws k = c :: r → dNe (.str (S (c :: r))) (.str (S [])) = .ok (.bl true) ∧ dIx (.str (S (c :: r))) (.int 0) = .ok (.str (S [c])) ∧ dIn (.str (S [c])) (.str (S fgs)) = .ok (.bl (isFg c)) := fun {c r} e => by
    rw [e] at a1 l1
    refine ⟨?_, dIx_S (k := 0) rfl (by omega), in_fgs (a1 c List.mem_cons_self)⟩
    rw [dNe_Tx (okt_str (asc_okt a1)) (okt_str okt_nil), decide_eq_false (by intro z; cases z)]
    rfl
  cases f with
  | num a o =>
    have fa : Fg a := by cases o with | none => exact hf | some b => exact hf.1
    have ea : hd ws k = a := by cases o with | none => exact ha.1 | some b => exact ha.1
    have fr : ∃ z, m_Reader_fraction [RDd (Wn ws) (.int k)] = .ok (RT (.tup [.int (dv a : Nat), .int z]) (Wn ws) (.int ((k + (Fc.num a o).W.length : Nat) : Int))) ∧ Sz 100 z ∧ (Fc.num a o).step (m, t, b) = (m, t * (dv a : Nat), b * z) := by
      cases o with
      | none => exact ⟨1, fraction_one h ea fa n1, by unfold Sz; decide, rfl⟩
      | some b' =>
        obtain ⟨q1, q2, q3⟩ := hf
        obtain ⟨e1, e2, e3, _⟩ := ha
        refine ⟨(dv b' : Nat), fraction_two h e1 q1 e2 e3 q2 q3, sz_dv q2 ?_, rfl⟩
        rw [← e3]; exact h.hd_len _
    obtain ⟨z, f2, sz, es⟩ := fr
    rw [es]
    have sa : Sz 100 (dv a : Nat) := sz_dv fa (by rw [← ea]; exact l1)
    have m1 := dMul_int (i := t) (j := (dv a : Nat)) st sa (by omega)
    have m2 := dMul_int (i := b) (j := z) sb sz (by omega)
    obtain ⟨c, r, ec⟩ : ∃ c r, a = c :: r := by
      cases a with
      | nil => exact absurd rfl fa.ne
      | cons c r => exact ⟨c, r, rfl⟩
    obtain ⟨q1, q2, q3⟩ := first (ea.trans ec)
    rw [show isFg c = true from decide_eq_true (fa.dig c (by rw [ec]; exact List.mem_cons_self))] at q3
    rw [ea, ec] at f1
    clear first es n1 n2 hf ha a1 l1 ea fa
    generalize dv a = A at *
    generalize c :: r = T at *
    generalize k + (Fc.num a o).W.length = k2 at *
    generalize encM m = M at *
    generalize Wn ws = W at *
    subst ec
    clear h hm hl st sb sz sa hn
    refine ⟨some (.str (S a)), some (.int A), some (.int z), x8, ?_⟩
    unfold b_Reader_term_1
    walk_at "gor"
  | nm w o =>
    have nw : NmR w ∧ Nm w := by cases o with | none => exact hf | some b => exact hf.1
    have ea : hd ws k = w := by cases o with | none => exact ha.1 | some b => exact ha.1
    have f2 := unknown_yes h ea nw.1
    have fr : ∃ z, m_Reader_power [RDd (Wn ws) (.int ((k + 1 : Nat) : Int))] = .ok (RT (.int z) (Wn ws) (.int ((k + (Fc.nm w o).W.length : Nat) : Int))) ∧ (Fc.nm w o).step (m, t, b) = (mulM m [(w, z)], t, b) := by
      cases o with
      | none => exact ⟨1, power_one h n2, rfl⟩
      | some c =>
        obtain ⟨q1, q2⟩ := hf
        obtain ⟨e1, e2, e3, _⟩ := ha
        exact ⟨_, power_yes h e2 e3 q2, rfl⟩
    obtain ⟨z, f3, es⟩ := fr
    rw [es]
    obtain ⟨c, r, ec⟩ : ∃ c r, w = c :: r := by
      cases w with
      | nil => exact absurd rfl nw.1.ne
      | cons c r => exact ⟨c, r, rfl⟩
    obtain ⟨q1, q2, q3⟩ := first (ea.trans ec)
    have cr := nw.1.let_ c (by rw [ec]; exact List.mem_cons_self)
    rw [show isFg c = false from decide_eq_false (by omega)] at q3
    have f4 : m_product_of [encM m, encM [(w, z)]] = .ok (encM (mulM m [(w, z)])) := product_of_eq hm (fun p hp => by rw [List.mem_singleton.mp hp]; exact nw.2) (by have : m.length ≤ 5000 := hl; simp; omega)
    have f5 : mkTup [.str (S w), .int z] = .ok (.tup [.str (S w), .int z]) := chk_pos (by show 2 ≤ sizeLine; decide)
    have f6 : mkTup [.tup [.str (S w), .int z]] = .ok (.tup [.tup [.str (S w), .int z]]) := chk_pos (by show 1 ≤ sizeLine; decide)
    have f7 : encM [(w, z)] = .tup [.tup [.str (S w), .int z]] := rfl
    rw [f7] at f4
    rw [ea] at f1
    rw [← ec] at q1 q2
    clear first es n1 n2 hf ha a1 l1 ea nw cr f7
    generalize k + (Fc.nm w o).W.length = k2 at *
    generalize encM (mulM m [(w, z)]) = M2 at *
    generalize encM m = M at *
    generalize Wn ws = W at *
    clear h hm hl st sb hn ec
    refine ⟨some (.str (S w)), x6, x7, some (.str (S w)), ?_⟩
    unfold b_Reader_term_1
    walk_at "gor"
def facW : List Fc → List (List Nat)
  | [] => []
  | [f] => f.W
  | f :: g :: fs => f.W ++ [42] :: facW (g :: fs)
noncomputable def facV (v : Tv) (fs : List Fc) : Tv := fs.foldl Fc.step v
def EndT (w : List Nat) : Prop := w ≠ [42] ∧ w ≠ [47] ∧ w ≠ [94]
theorem step_ok {f : Fc} (hf : f.Ok) {v : Tv} {n l : Nat} (w30 : ∀ w ∈ f.W, w.length ≤ 30) (st : Sz n v.2.1) (sb : Sz n v.2.2) (hm : ∀ p ∈ v.1, Nm p.1) (hl : v.1.length ≤ l) :
    Sz (n + 100) (f.step v).2.1 ∧ Sz (n + 100) (f.step v).2.2 ∧ (∀ p ∈ (f.step v).1, Nm p.1) ∧ (f.step v).1.length ≤ l + 1 := by
  obtain ⟨m, t, b⟩ := v
  have s1 : Sz 100 1 := by unfold Sz; decide
  have nmul : ∀ w z, Nm w → (∀ p ∈ mulM m [(w, z)], Nm p.1) ∧ (mulM m [(w, z)]).length ≤ l + 1 := fun w z hw => by
    have hx := mulM_len m [(w, z)]
    simp only [List.length_cons, List.length_nil] at hx
    have hl' : m.length ≤ l := hl
    refine ⟨fun p hp => ?_, by omega⟩
    have pm : (mulM m [(w, z)]).Perm (tot [] (m ++ [(w, z)])) := List.mergeSort_perm _ _
    have hp2 := pm.subset hp
    rcases tot_mem (m ++ [(w, z)]) [] p.1 (List.mem_map.mpr ⟨p, hp2, rfl⟩) with e | e
    · cases e
    · obtain ⟨q, hq, eq⟩ := List.mem_map.mp e
      rw [← eq]
      rcases List.mem_append.mp hq with e | e
      · exact hm q e
      · rw [List.mem_singleton.mp e]; exact hw
  cases f with
  | num a o =>
    cases o with
    | none => exact ⟨st.mul (sz_dv hf (w30 a (by simp [Fc.W]))), sb.mul s1, hm, Nat.le_succ_of_le hl⟩
    | some c => exact ⟨st.mul (sz_dv hf.1 (w30 a (by simp [Fc.W]))), sb.mul (sz_dv hf.2.1 (w30 c (by simp [Fc.W]))), hm, Nat.le_succ_of_le hl⟩
  | nm w o =>
    cases o with
    | none => exact ⟨st.mono (by omega), sb.mono (by omega), (nmul w _ hf.2).1, (nmul w _ hf.2).2⟩
    | some c => exact ⟨st.mono (by omega), sb.mono (by omega), (nmul w _ hf.1.2).1, (nmul w _ hf.1.2).2⟩
theorem at_mem {ws : List (List Nat)} (h : WsOk ws) : ∀ {us : List (List Nat)} {k : Nat}, At ws k us → ∀ u ∈ us, u.length ≤ 30
  | [], k, _, u, hu => absurd hu List.not_mem_nil
  | v :: us, k, ha, u, hu => by
    rcases List.mem_cons.mp hu with rfl | hu
    · rw [← ha.1]; exact h.hd_len k
    · exact at_mem h ha.2 u hu
theorem sWhile_step {t : Env → Out Bool} {b : Env → SO} {ρ r : Env} {res : SO} (ht : t ρ = .ok true) (hb : b ρ = .nx r) (e : sWhile t b r = res) : sWhile t b ρ = res := (sWhile_true ht hb).trans e
theorem term_loop {ws : List (List Nat)} (h : WsOk ws) : ∀ (fs : List Fc) {k : Nat} {v : Tv} {n : Nat} {x5 x6 x7 x8 : Option D}, fs ≠ [] → (∀ f ∈ fs, f.Ok) → At ws k (facW fs) → EndT (hd ws (k + (facW fs).length)) → Sz n v.2.1 → Sz n v.2.2 → n + 100 * fs.length ≤ 100000 → (∀ p ∈ v.1, Nm p.1) → v.1.length + fs.length ≤ 5000 →
    ∃ y5 y6 y7 y8, sWhile (tOf (eV 4)) b_Reader_term_1 [some (RDd (Wn ws) (.int k)), some (.int v.2.1), some (encM v.1), some (.int v.2.2), some (.bl true), x5, x6, x7, x8]
      = .nx [some (RDd (Wn ws) (.int ((k + (facW fs).length : Nat) : Int))), some (.int (facV v fs).2.1), some (encM (facV v fs).1), some (.int (facV v fs).2.2), some (.bl false), y5, y6, y7, y8]
  | [], _, _, _, _, _, _, _, ne, _, _, _, _, _, _, _, _ => absurd rfl ne
  | [f], k, v, n, x5, x6, x7, x8, _, hf, ha, he, st, sb, hn, hm, hl => by
    obtain ⟨e1, e2, e3⟩ := he
    have ft := taken_no h (w := [42]) (by unfold Asc; decide) e1
    simp only [List.length_cons, List.length_nil] at hn hl
    obtain ⟨y5, y6, y7, y8, e⟩ := fac_step h (hf f List.mem_cons_self) ha e2 e3 st sb (by omega) hm (by omega) ft (x5 := x5) (x6 := x6) (x7 := x7) (x8 := x8)
    refine ⟨y5, y6, y7, y8, ?_⟩
    refine sWhile_step rfl e (sWhile_false rfl)
  | f :: g :: fs, k, v, n, x5, x6, x7, x8, _, hf, ha, he, st, sb, hn, hm, hl => by
    have ha' : At ws k f.W ∧ At ws (k + f.W.length) ([42] :: facW (g :: fs)) := at_app.mp ha
    obtain ⟨a1, a2, a3⟩ := ha'
    have e1 : hd ws (k + f.W.length) ≠ [47] := by rw [a2]; decide
    have e2 : hd ws (k + f.W.length) ≠ [94] := by rw [a2]; decide
    have ft := taken_yes h a2
    simp only [List.length_cons] at hn hl
    obtain ⟨y5, y6, y7, y8, e⟩ := fac_step h (hf f List.mem_cons_self) a1 e1 e2 st sb (by omega) hm (by omega) ft (x5 := x5) (x6 := x6) (x7 := x7) (x8 := x8)
    obtain ⟨s1, s2, s3, s4⟩ := step_ok (hf f List.mem_cons_self) (at_mem h a1) st sb hm (Nat.le_refl _)
    have el : k + (facW (f :: g :: fs)).length = k + f.W.length + 1 + (facW (g :: fs)).length := by
      show k + (f.W ++ [42] :: facW (g :: fs)).length = _
      rw [List.length_append, List.length_cons]; omega
    rw [el] at he ⊢
    obtain ⟨z5, z6, z7, z8, ih⟩ := term_loop h (g :: fs) (k := k + f.W.length + 1) (v := f.step v) (n := n + 100) (x5 := y5) (x6 := y6) (x7 := y7) (x8 := y8) (by simp) (fun q hq => hf q (List.mem_cons_of_mem _ hq)) a3 he s1 s2 (by simp only [List.length_cons]; omega) s3 (by simp only [List.length_cons]; omega)
    exact ⟨z5, z6, z7, z8, sWhile_step rfl e ih⟩
theorem term_eq {ws : List (List Nat)} (h : WsOk ws) {fs : List Fc} {k : Nat} (ne : fs ≠ []) (hf : ∀ f ∈ fs, f.Ok) (ha : At ws k (facW fs)) (he : EndT (hd ws (k + (facW fs).length))) (hl : fs.length ≤ 500) {t : Int} (st : Sz 1 t) :
    m_Reader_term [RDd (Wn ws) (.int k), .int t] = .ok (RT (.tup [encM (facV ([], t, 1) fs).1, .int (facV ([], t, 1) fs).2.1, .int (facV ([], t, 1) fs).2.2]) (Wn ws) (.int ((k + (facW fs).length : Nat) : Int))) := by
  obtain ⟨y5, y6, y7, y8, e⟩ := term_loop h fs (k := k) (v := ([], t, 1)) (n := 1) (x5 := none) (x6 := none) (x7 := none) (x8 := none) ne hf ha he st (by show Sz 1 1; unfold Sz; decide) (by omega) (fun p hp => absurd hp List.not_mem_nil) (by simp; omega)
  have f1 : mkTup [] = .ok (.tup []) := chk_pos (by decide)
  have f2 : encM ([] : Mn) = .tup [] := rfl
  have f3 : mkTup [encM (facV ([], t, 1) fs).1, .int (facV ([], t, 1) fs).2.1, .int (facV ([], t, 1) fs).2.2] = .ok (.tup [encM (facV ([], t, 1) fs).1, .int (facV ([], t, 1) fs).2.1, .int (facV ([], t, 1) fs).2.2]) := chk_pos (by show 3 ≤ sizeLine; decide)
  simp only at e
  rw [f2] at e
  generalize facV ([], t, 1) fs = V at *
  generalize k + (facW fs).length = k2 at *
  generalize Wn ws = W at *
  clear h hf ha he hl st ne f2
  unfold m_Reader_term b_Reader_term
  walk_at "gor"
abbrev Trm := Bool × List Fc
noncomputable def trmV (q : Trm) : Tv := facV ([], if q.1 then -1 else 1, 1) q.2
def encR (v : Tv) : D := .tup [encM v.1, .int v.2.1, .int v.2.2]
def sgW (s : Bool) : List Nat := if s then [45] else [43]
def restW : List Trm → List (List Nat)
  | [] => []
  | q :: r => sgW q.1 :: (facW q.2 ++ restW r)
def sideW : List Trm → List (List Nat)
  | [] => []
  | q :: r => (if q.1 then [[45]] else []) ++ (facW q.2 ++ restW r)
def TrmOk (q : Trm) : Prop := q.2 ≠ [] ∧ (∀ f ∈ q.2, f.Ok) ∧ q.2.length ≤ 500
def EndS (w : List Nat) : Prop := EndT w ∧ w ≠ [43] ∧ w ≠ [45]
theorem endT_sg (s : Bool) : EndT (sgW s) := by cases s <;> (unfold EndT sgW; decide)
theorem rest_end {ws : List (List Nat)} {r : List Trm} {k : Nat} (ha : At ws k (restW r)) (he : EndS (hd ws (k + (restW r).length))) : EndT (hd ws k) := by
  cases r with
  | nil => exact he.1
  | cons q r => rw [show hd ws k = sgW q.1 from ha.1]; exact endT_sg _
theorem here_is {ws : List (List Nat)} (h : WsOk ws) (k : Nat) {w : List Nat} (ow : Asc w) : dEq (.str (S (hd ws k))) (.str (S w)) = .ok (.bl (decide (hd ws k = w))) := dEq_Tx (okt_str (asc_okt (h.hd_asc k))) (okt_str (asc_okt ow))
theorem sWhileE_step {t : Env → Out (Bool × Env)} {b : Env → SO} {ρ ρ1 r : Env} {res : SO} (ht : t ρ = .ok (true, ρ1)) (hb : b ρ1 = .nx r) (e : sWhileE t b r = res) : sWhileE t b ρ = res := by
  rw [sWhileE_true ht, hb, turn_nx]
  exact e
theorem neg_one : dNeg (.int 1) = .ok (.int (-1)) := rfl
theorem terms_loop {ws : List (List Nat)} (h : WsOk ws) : ∀ (r : List Trm) {k : Nat} {rows : List D} {x1 : Option D}, (∀ q ∈ r, TrmOk q) → At ws k (restW r) → EndS (hd ws (k + (restW r).length)) → rows.length + r.length ≤ 5000 →
    sWhileE (qOr (qOf (u2 dEq (uMk "Reader" "here" m_Reader_here 0 aN) (uP (eC (.str "+"))))) (qOf (u2 dEq (uMk "Reader" "here" m_Reader_here 0 aN) (uP (eC (.str "-")))))) b_Reader_terms_1 [some (RDd (Wn ws) (.int k)), x1, some (.lst rows)]
      = .nx [some (RDd (Wn ws) (.int ((k + (restW r).length : Nat) : Int))), x1, some (.lst (rows ++ r.map fun q => encR (trmV q)))]
  | [], k, rows, x1, _, _, he, _ => by
    have f1 := here_eq h.len k
    have f2 := here_is h k (w := [43]) (by unfold Asc; decide)
    have f3 := here_is h k (w := [45]) (by unfold Asc; decide)
    have he' : EndS (hd ws k) := he
    rw [decide_eq_false he'.2.1] at f2
    rw [decide_eq_false he'.2.2] at f3
    have g1 : Str.ofString "+" = S [43] := by decide +kernel
    have g2 : Str.ofString "-" = S [45] := by decide +kernel
    rw [List.map_nil, List.append_nil]
    show _ = SO.nx [some (RDd (Wn ws) (.int k)), x1, some (.lst rows)]
    refine sWhileE_false ?_
    generalize hd ws k = T at *
    generalize Wn ws = W at *
    clear h he he'
    walk_at "gor"
  | q :: r, k, rows, x1, hq, ha, he, hl => by
    obtain ⟨s, fs⟩ := q
    obtain ⟨o1, o2, o3⟩ := hq _ List.mem_cons_self
    have ha' : hd ws k = sgW s ∧ At ws (k + 1) (facW fs ++ restW r) := ha
    obtain ⟨a1, a2⟩ := ha'
    obtain ⟨a2, a3⟩ := at_app.mp a2
    have el : k + (restW ((s, fs) :: r)).length = k + 1 + (facW fs).length + (restW r).length := by
      show k + (sgW s :: (facW fs ++ restW r)).length = _
      rw [List.length_cons, List.length_append]; omega
    rw [el] at he ⊢
    have ee := rest_end a3 he
    have ft := term_eq h o1 o2 a2 ee o3 (t := if s then -1 else 1) (by cases s <;> (unfold Sz; decide))
    have ih := terms_loop h r (k := k + 1 + (facW fs).length) (rows := rows ++ [encR (trmV (s, fs))]) (x1 := x1) (fun z hz => hq z (List.mem_cons_of_mem _ hz)) a3 he (by rw [List.length_append]; simp only [List.length_cons, List.length_nil] at hl ⊢; omega)
    rw [List.append_assoc] at ih
    rw [List.map_cons]
    have f1 := here_eq h.len k
    have f2 := here_is h k (w := [43]) (by unfold Asc; decide)
    have f3 := here_is h k (w := [45]) (by unfold Asc; decide)
    have g1 : Str.ofString "+" = S [43] := by decide +kernel
    have g2 : Str.ofString "-" = S [45] := by decide +kernel
    have n1 := neg_one
    have sz : rows.length < sizeLine := len_lt (by simp only [List.length_cons] at hl; omega)
    have ev : encR (trmV (s, fs)) = .tup [encM (facV ([], if s then -1 else 1, 1) fs).1, .int (facV ([], if s then -1 else 1, 1) fs).2.1, .int (facV ([], if s then -1 else 1, 1) fs).2.2] := rfl
    rw [← ev] at ft
    cases s with
    | false =>
      have t1 := taken_yes h (k := k) (w := [43]) a1
      rw [show hd ws k = [43] from a1] at f1 f2 f3
      rw [decide_eq_true rfl] at f2
      rw [decide_eq_false (by decide)] at f3
      simp only [Bool.false_eq_true, if_false] at ft
      generalize encR (trmV (false, fs)) = V at *
      generalize hK : k + 1 + (facW fs).length = k2 at *
      generalize hW : Wn ws = W at *
      refine sWhileE_step (ρ1 := [some (RDd W (.int k)), x1, some (.lst rows)]) ?_ ?_ ih
      · clear h he hq ha a1 a2 a3 o1 o2 ih ee hK hW ev el
        walk_at "gor"
      · clear h he hq ha a1 a2 a3 o1 o2 ih ee hK hW ev el
        unfold b_Reader_terms_1
        walk_at "gor"
        try rfl
    | true =>
      have t1 := taken_no h (k := k) (w := [43]) (by unfold Asc; decide) (by rw [show hd ws k = [45] from a1]; decide)
      have t2 := must_yes h (k := k) (w := [45]) a1
      rw [show hd ws k = [45] from a1] at f1 f2 f3
      rw [decide_eq_false (by decide)] at f2
      rw [decide_eq_true rfl] at f3
      simp only [if_true] at ft
      generalize encR (trmV (true, fs)) = V at *
      generalize hK : k + 1 + (facW fs).length = k2 at *
      generalize hW : Wn ws = W at *
      refine sWhileE_step (ρ1 := [some (RDd W (.int k)), x1, some (.lst rows)]) ?_ ?_ ih
      · clear h he hq ha a1 a2 a3 o1 o2 ih ee hK hW ev el
        walk_at "gor"
      · clear h he hq ha a1 a2 a3 o1 o2 ih ee hK hW ev el
        unfold b_Reader_terms_1
        walk_at "gor"
        try rfl
theorem first_ne {ws : List (List Nat)} (h : WsOk ws) {fs : List Fc} (ne : fs ≠ []) (hf : ∀ f ∈ fs, f.Ok) {k : Nat} (ha : At ws k (facW fs)) : hd ws k ≠ [45] := by
  have key : ∀ f : Fc, f.Ok → At ws k f.W → hd ws k ≠ [45] := fun f hf ha => by
    cases f with
    | num a o =>
      have fa : Fg a := by cases o with | none => exact hf | some b => exact hf.1
      have ea : hd ws k = a := by cases o with | none => exact ha.1 | some b => exact ha.1
      rw [ea]; rintro rfl
      have := fa.dig 45 (by simp)
      omega
    | nm w o =>
      have nw : NmR w ∧ Nm w := by cases o with | none => exact hf | some b => exact hf.1
      have ea : hd ws k = w := by cases o with | none => exact ha.1 | some b => exact ha.1
      rw [ea]; rintro rfl
      have := nw.1.let_ 45 (by simp)
      omega
  match fs, ne with
  | [f], _ => exact key f (hf f List.mem_cons_self) ha
  | f :: g :: fs, _ => exact key f (hf f List.mem_cons_self) (at_app.mp (show At ws k (f.W ++ [42] :: facW (g :: fs)) from ha)).1
theorem terms_eq {ws : List (List Nat)} (h : WsOk ws) {ss : List Trm} {k : Nat} (ne : ss ≠ []) (hs : ∀ q ∈ ss, TrmOk q) (ha : At ws k (sideW ss)) (he : EndS (hd ws (k + (sideW ss).length))) (hl : ss.length ≤ 4000) :
    m_Reader_terms [RDd (Wn ws) (.int k)] = .ok (RT (.lst (ss.map fun q => encR (trmV q))) (Wn ws) (.int ((k + (sideW ss).length : Nat) : Int))) := by
  obtain ⟨⟨s, fs⟩, r, rfl⟩ : ∃ q r, ss = q :: r := by
    cases ss with
    | nil => exact absurd rfl ne
    | cons q r => exact ⟨q, r, rfl⟩
  obtain ⟨o1, o2, o3⟩ := hs _ List.mem_cons_self
  have g1 : Str.ofString "-" = S [45] := by decide +kernel
  have n1 := neg_one
  have f3 : mkLst [encR (trmV (s, fs))] = .ok (.lst [encR (trmV (s, fs))]) := chk_pos (by show 1 ≤ sizeLine; decide)
  have ev : encR (trmV (s, fs)) = .tup [encM (facV ([], if s then -1 else 1, 1) fs).1, .int (facV ([], if s then -1 else 1, 1) fs).2.1, .int (facV ([], if s then -1 else 1, 1) fs).2.2] := rfl
  rw [List.map_cons]
  cases s with
  | false =>
    have ha' : At ws k (facW fs ++ restW r) := ha
    obtain ⟨a2, a3⟩ := at_app.mp ha'
    have el : k + (sideW ((false, fs) :: r)).length = k + (facW fs).length + (restW r).length := by
      show k + (facW fs ++ restW r).length = _
      rw [List.length_append]; omega
    rw [el] at he ⊢
    have ee := rest_end a3 he
    have t1 := taken_no h (k := k) (w := [45]) (by unfold Asc; decide) (first_ne h o1 o2 a2)
    have ft := term_eq h o1 o2 a2 ee o3 (t := 1) (by unfold Sz; decide)
    have lp := terms_loop h r (k := k + (facW fs).length) (rows := [encR (trmV (false, fs))]) (x1 := some (.int 1)) (fun z hz => hs z (List.mem_cons_of_mem _ hz)) a3 he (by simp only [List.length_cons, List.length_nil] at hl ⊢; omega)
    simp only [Bool.false_eq_true, if_false] at ev
    rw [← ev] at ft
    rw [List.singleton_append, g1] at lp
    generalize encR (trmV (false, fs)) = V at *
    generalize (r.map fun q => encR (trmV q)) = VS at *
    generalize k + (facW fs).length + (restW r).length = k3 at *
    generalize k + (facW fs).length = k2 at *
    generalize Wn ws = W at *
    clear h he hs ha ha' a2 a3 o1 o2 ee ev ne el
    unfold m_Reader_terms b_Reader_terms
    walk_at "gor"
  | true =>
    have ha' : hd ws k = [45] ∧ At ws (k + 1) (facW fs ++ restW r) := ha
    obtain ⟨a1, a2⟩ := ha'
    obtain ⟨a2, a3⟩ := at_app.mp a2
    have el : k + (sideW ((true, fs) :: r)).length = k + 1 + (facW fs).length + (restW r).length := by
      show k + ([45] :: (facW fs ++ restW r)).length = _
      rw [List.length_cons, List.length_append]; omega
    rw [el] at he ⊢
    have ee := rest_end a3 he
    have t1 := taken_yes h (k := k) a1
    have ft := term_eq h o1 o2 a2 ee o3 (t := -1) (by unfold Sz; decide)
    have lp := terms_loop h r (k := k + 1 + (facW fs).length) (rows := [encR (trmV (true, fs))]) (x1 := some (.int (-1))) (fun z hz => hs z (List.mem_cons_of_mem _ hz)) a3 he (by simp only [List.length_cons, List.length_nil] at hl ⊢; omega)
    simp only [if_true] at ev
    rw [← ev] at ft
    rw [List.singleton_append, g1] at lp
    generalize encR (trmV (true, fs)) = V at *
    generalize (r.map fun q => encR (trmV q)) = VS at *
    generalize k + 1 + (facW fs).length + (restW r).length = k3 at *
    generalize k + 1 + (facW fs).length = k2 at *
    generalize Wn ws = W at *
    clear h he hs ha a1 a2 a3 o1 o2 ee ev ne el
    unfold m_Reader_terms b_Reader_terms
    walk_at "gor"
theorem ltN_irrefl (a : List Nat) : ¬ a < a := List.lt_irrefl _
theorem prU_as (p q : Pr) (h : p.1 < q.1) (k : q.1 < p.1) : False := ltN_irrefl _ (List.lt_trans h k)
theorem put_new {κ ν : Type} [DecidableEq κ] : ∀ {l : List (κ × ν)} {k : κ} {v : ν}, k ∉ l.map (·.1) → put l k v = l ++ [(k, v)]
  | [], _, _, _ => rfl
  | q :: l, k, v, n => by
    rw [List.map_cons, List.mem_cons, not_or] at n
    show (if q.1 = k then _ else _) = _
    rw [if_neg (fun z => n.1 z.symm), put_new n.2]; rfl
theorem tot_id : ∀ (ps l : List Tm), ((l ++ ps).map (·.1)).Nodup → tot l ps = l ++ ps
  | [], l, _ => by simp [tot]
  | q :: ps, l, h => by
    have nq : q.1 ∉ l.map (·.1) := fun z => by
      rw [List.map_append, List.nodup_append] at h
      exact h.2.2 _ z _ (by rw [List.map_cons]; exact List.mem_cons_self) rfl
    show tot (put l q.1 ((fnd l q.1).getD 0 + q.2)) ps = _
    rw [put_new nq, fnd_none.mpr nq, Option.getD_none, Int.zero_add, tot_id ps _ (by simpa using h)]
    simp
theorem formOf_perm {ps : List Tm} (nd : (ps.map (·.1)).Nodup) (nz : ∀ q ∈ ps, q.2 ≠ 0) : (formOf ps).Perm ps := by
  unfold formOf
  have e : tot [] ps = ps := tot_id ps [] (by simpa using nd)
  rw [e, List.filter_eq_self.mpr fun q hq => ?_]
  · exact List.mergeSort_perm _ _
  · exact decide_eq_true (nz q ((List.mergeSort_perm _ _).mem_iff.mp hq))
theorem Form.nodup {most : Int} {f : List Tm} (h : Form most f) : (f.map (·.1)).Nodup := by
  refine List.pairwise_map.mpr (h.up.imp fun {a b} lt e => ?_)
  rw [e] at lt
  exact ltM_as b b lt lt
theorem formOf_id {most : Int} {f : List Tm} (h : Form most f) : formOf f = f := by
  obtain ⟨f1, _, _⟩ := form_is h.mono
  have pm := formOf_perm h.nodup h.nz
  exact eq_of_up ltM_as f1.up h.up fun q => pm.mem_iff
theorem cutD_take {α : Type} (l : List α) (k : Nat) : cutD l none (some (k : Int)) = l.take k := by
  unfold cutD
  rw [HT.sIx_none, HT.sIx_nat, List.drop_zero, Nat.sub_zero]
  by_cases h : k ≤ l.length
  · rw [Nat.min_eq_left h]
  · rw [Nat.min_eq_right (by omega), List.take_of_length_le (Nat.le_refl _), List.take_of_length_le (by omega)]
theorem Form.take {most : Int} {f : List Tm} (h : Form most f) (k : Nat) : Form most (f.take k) :=
  ⟨fun q hq => h.mono q (List.mem_of_mem_take hq), fun q hq => h.nz q (List.mem_of_mem_take hq), h.up.sublist (List.take_sublist k f)⟩
theorem sWhile_t {t : Env → Out Bool} {b : Env → SO} {ρ ρ' : Env} (h : t ρ = .ok true) (e : (b ρ).cont = .nx ρ') (k : sWhile t b ρ' ≠ .stuck) : sWhile t b ρ = sWhile t b ρ' := by
  obtain ⟨n, en⟩ := sWhile_some k
  have e1 : whileN t b (n + 1) ρ = sWhile t b ρ' := by
    unfold whileN
    rw [h]
    show (b ρ).turn _ = _
    rw [turn_of_cont e, en]
  rw [← e1]
  exact sWhile_eq (by rw [e1]; exact k)
theorem sWhile_f {t : Env → Out Bool} {b : Env → SO} {ρ : Env} (h : t ρ = .ok false) : sWhile t b ρ = .nx ρ := by
  have e1 : whileN t b 1 ρ = .nx ρ := by
    unfold whileN
    rw [h]; rfl
  rw [← e1]
  exact sWhile_eq (by rw [e1]; intro z; cases z)
theorem divisor_eq : ∀ (b a : Nat), m_divisor [.int a, .int b] = .ok (.int (Nat.gcd b a)) := by
  have key : ∀ (b a : Nat), sWhile (tOf (PD.e2 dNe (eV 1) (eC (.int 0)))) b_divisor_1 [some (.int a), some (.int b)] = .nx [some (.int (Nat.gcd b a)), some (.int 0)] := by
    intro b
    induction b using Nat.strongRecOn with
    | _ b ih =>
      intro a
      cases b with
      | zero =>
        rw [sWhile_f (by walk_at "wk"; rfl), Nat.gcd_zero_left]; rfl
      | succ b =>
        have h1 := ih (a % (b + 1)) (Nat.mod_lt _ (Nat.succ_pos _)) (b + 1)
        have h2 : (b_divisor_1 [some (.int a), some (.int ((b + 1 : Nat) : Int))]).cont = .nx [some (.int ((b + 1 : Nat) : Int)), some (.int ((a % (b + 1) : Nat) : Int))] := by
          unfold b_divisor_1
          walk_at "wk"
          refine chkS_go (by omega) ?_
          rfl
        rw [sWhile_t (by walk_at "wk"; rw [decide_eq_false (by omega)]; rfl) h2 (by rw [h1]; intro z; cases z), h1, Nat.gcd_succ]
  intro b a
  unfold m_divisor b_divisor
  walk_at "wk"
  rw [key b a]
  walk_at "wk"
def gcdN (f : List Tm) (t : Nat) : Nat := f.foldl (fun t q => Nat.gcd q.2.natAbs t) t
theorem gcdN_dvd0 : ∀ (f : List Tm) (t : Nat), gcdN f t ∣ t
  | [], t => Nat.dvd_refl t
  | q :: f, t => Nat.dvd_trans (gcdN_dvd0 f _) (Nat.gcd_dvd_right _ _)
theorem gcdN_dvd : ∀ (f : List Tm) (t : Nat), ∀ q ∈ f, gcdN f t ∣ q.2.natAbs
  | q :: f, t, r, hr => by
    rcases List.mem_cons.mp hr with rfl | hr
    · exact Nat.dvd_trans (gcdN_dvd0 f _) (Nat.gcd_dvd_left _ _)
    · exact gcdN_dvd f _ r hr
def leanF (f : List Tm) : List Tm := if gcdN f 0 < 2 then f else f.map fun q => (q.1, q.2 / (gcdN f 0 : Int))
theorem lean_1 (x0 : Option D) : ∀ (f : List Tm) (t : Nat) (x2 x3 : Option D), ∃ x2' x3', forL (gT [gN 2, gN 3]) b_lean_1 (f.map encQ) [x0, some (.int t), x2, x3] = .nx [x0, some (.int (gcdN f t)), x2', x3']
  | [], t, x2, x3 => ⟨x2, x3, rfl⟩
  | q :: f, t, x2, x3 => by
    obtain ⟨x2', x3', e⟩ := lean_1 x0 f (Nat.gcd q.2.natAbs t) (some (encM q.1)) (some (.int q.2))
    refine ⟨x2', x3', ?_⟩
    rw [show gcdN (q :: f) t = gcdN f (Nat.gcd q.2.natAbs t) from rfl, ← e, List.map_cons]
    refine forL_step ?_
    unfold b_lean_1
    rw [show encQ q = .tup [encM q.1, .int q.2] from rfl]
    walk_at "wk"
    rw [divisor_eq]
    walk_at "wk"
theorem gcd_sz {f : List Tm} {b : Nat} (hf : ∀ q ∈ f, Sz b q.2 ∧ q.2 ≠ 0) (hn : f ≠ []) : Sz b (gcdN f 0 : Int) := by
  cases f with
  | nil => exact absurd rfl hn
  | cons q f =>
    have h1 := gcdN_dvd (q :: f) 0 q List.mem_cons_self
    have h2 := hf q List.mem_cons_self
    have h3 := Nat.le_of_dvd (by have := h2.2; omega) h1
    unfold Sz at *
    have := h2.1
    simp only [Int.natAbs_natCast]
    omega
theorem lean_eq {f : List Tm} {b : Nat} (hb : b ≤ 9000) (hf : ∀ q ∈ f, Sz b q.2 ∧ q.2 ≠ 0) (hl : f.length ≤ 10000) : m_lean [.tup (f.map encQ)] = .ok (.tup ((leanF f).map encQ)) := by
  obtain ⟨x2, x3, e⟩ := lean_1 (some (.tup (f.map encQ))) f 0 none none
  have e' : forL (gT [gN 2, gN 3]) b_lean_1 (f.map encQ) [some (.tup (f.map encQ)), some (.int 0), none, none] = .nx [some (.tup (f.map encQ)), some (.int (gcdN f 0)), x2, x3] := e
  unfold m_lean b_lean leanF
  walk_at "wk"
  rw [e']
  walk_at "wk"
  by_cases c : gcdN f 0 < 2
  · rw [if_pos (by omega), if_pos c]
  · rw [if_neg (by omega), if_neg c]
    have hn : f ≠ [] := fun z => by subst z; exact c (by decide)
    have sz := gcd_sz hf hn
    have lc : lcL (gT [gN 2, gN 3]) bYes (eA mkTup (aC (eV 2) (aC (PD.e2 dDiv (eV 3) (eV 1)) aN))) [some (.tup (f.map encQ)), some (.int (gcdN f 0)), none, none] (f.map encQ) = .ok (f.map fun q => encQ (q.1, q.2 / (gcdN f 0 : Int))) := by
      refine lcL_map encQ _ f fun q hq => ?_
      rw [show encQ q = .tup [encM q.1, .int q.2] from rfl]
      walk_at "wk"
      exact chk_go (cdiv_sz (by omega) sz hb) rfl
    rw [lc, List.map_map]
    walk_at "wk"
    refine chk_go (len_ok (by rw [List.length_map]; omega)) rfl
theorem div_mul_dvd {a : Int} {g : Nat} (h : g ∣ a.natAbs) : a / (g : Int) * g = a := Int.ediv_mul_cancel (Int.ofNat_dvd_left.mpr h)
theorem leanF_form {most : Int} {f : List Tm} (h : Form most f) : Form most (leanF f) := by
  unfold leanF
  by_cases c : gcdN f 0 < 2
  · rw [if_pos c]; exact h
  · rw [if_neg c]
    refine ⟨fun q hq => ?_, fun q hq => ?_, ?_⟩
    · obtain ⟨r, hr, rfl⟩ := List.mem_map.mp hq; exact h.mono r hr
    · obtain ⟨r, hr, rfl⟩ := List.mem_map.mp hq
      intro z
      have z' : r.2 / (gcdN f 0 : Int) = 0 := z
      have := div_mul_dvd (gcdN_dvd f 0 r hr)
      rw [z', Int.zero_mul] at this
      exact h.nz r hr this.symm
    · rw [List.pairwise_map]; exact h.up
theorem leanF_len (f : List Tm) : (leanF f).length = f.length := by
  unfold leanF
  split
  · rfl
  · rw [List.length_map]
def triF (nm : List Nat) (t : T3) : List Tm := [([], t.1), ([(nm, 1)], t.2.1), ([(nm, 2)], t.2.2)].filter fun q => decide (q.2 ≠ 0)
def sumQ (f : List Tm) : Int := (f.map (·.2)).sum
def insX (x : N4) : List N4 → List N4
  | [] => [x]
  | y :: l => if ordX y x < 0 then y :: insX x l else if 0 < ordX y x then x :: y :: l else y :: l
theorem insX_sub {x : N4} : ∀ (l : List N4), ∀ y ∈ insX x l, y = x ∨ y ∈ l := by
  intro l
  induction l with
  | nil => intro y hy; exact .inl (List.mem_singleton.mp hy)
  | cons z l ih =>
    intro y hy
    unfold insX at hy
    split at hy
    · rcases List.mem_cons.mp hy with rfl | hy
      · exact .inr List.mem_cons_self
      · rcases ih y hy with h | h
        · exact .inl h
        · exact .inr (List.mem_cons_of_mem _ h)
    · split at hy
      · rcases List.mem_cons.mp hy with rfl | hy
        · exact .inl rfl
        · exact .inr hy
      · exact .inr hy
abbrev UpX (l : List N4) : Prop := l.Pairwise fun x y => val x < val y
theorem insX_up {n : Nat} {x : N4} (hx : GoodX n x) : ∀ (l : List N4), (∀ y ∈ l, GoodX n y) → UpX l → UpX (insX x l) := by
  intro l
  induction l with
  | nil => intro _ _; exact List.pairwise_singleton _ _
  | cons z l ih =>
    intro h u
    have hz := h z List.mem_cons_self
    obtain ⟨u1, u2⟩ := List.pairwise_cons.mp u
    unfold insX
    split
    · rename_i c
      rw [ordX_lt hz hx] at c
      refine List.pairwise_cons.mpr ⟨fun y hy => ?_, ih (fun y hy => h y (List.mem_cons_of_mem _ hy)) u2⟩
      rcases insX_sub l y hy with rfl | hy
      · exact c
      · exact u1 y hy
    · split
      · rename_i d
        rw [ordX_gt hz hx] at d
        refine List.pairwise_cons.mpr ⟨fun y hy => ?_, u⟩
        rcases List.mem_cons.mp hy with rfl | hy
        · exact d
        · have := u1 y hy; grind
      · exact u
structure BX (n : Nat) (l : List N4) : Prop where
  good : ∀ y ∈ l, GoodX n y
  up : UpX l
theorem BX.ins {n : Nat} {l : List N4} (h : BX n l) {x : N4} (hx : GoodX n x) : BX n (insX x l) :=
  ⟨fun y hy => (insX_sub l y hy).elim (fun e => e ▸ hx) (h.good y), insX_up hx l h.good h.up⟩
theorem BX.nil (n : Nat) : BX n [] := ⟨(fun y hy => by cases hy), List.Pairwise.nil⟩
def gz (t : T3) (x : N4) : Prop := pol t (val x) = 0
theorem bls_D (l : List Bool) : blsD (l.map D.bl) = some l := by
  induction l with
  | nil => rfl
  | cons x l ih => rw [List.map_cons]; show (blsD (l.map D.bl)).map (x :: ·) = _; rw [ih]; rfl
theorem cAll_B (l : List Bool) : cAll [.lst (l.map D.bl)] = .ok (.bl (l.all id)) := by
  show (match blsD (l.map D.bl) with | some ns => Out.ok (D.bl (ns.all id)) | none => .stuck) = _
  rw [bls_D]
mutual
def Sn.size : Sn → Nat
  | .both l => Sn.sizes l + 1
  | .either l => Sn.sizes l + 1
  | .neg s => s.size + 1
  | .some _ s => s.size + 1
  | .all _ s => s.size + 1
  | _ => 1
def Sn.sizes : List Sn → Nat
  | [] => 0
  | s :: l => s.size + Sn.sizes l
end
theorem cmps_mem {s p : Sn} (hp : p ∈ s.parts) {c : Wd × List Tm} (hc : c ∈ p.cmps) : c ∈ s.cmps := by
  have h : s.isCmp = false := by cases s <;> first | rfl | cases hp
  rw [cmps_parts h]
  exact List.mem_flatMap.mpr ⟨p, hp, hc⟩
def flat (prs : List (N4 × N4)) : List N4 := prs.flatMap fun p => [p.1, p.2]
theorem BX.snoc {n : Nat} {l : List N4} (h : BX n l) {x : N4} (g : GoodX n x) (u : ∀ w ∈ l, val w < val x) : BX n (l ++ [x]) :=
  ⟨fun y hy => (List.mem_append.mp hy).elim (h.good y) fun q => by rw [List.mem_singleton] at q; subst q; exact g,
   List.pairwise_append.mpr ⟨h.up, List.pairwise_singleton _ _, fun a ha b hb => by rw [List.mem_singleton] at hb; subst hb; exact u a ha⟩⟩
def pwM (m : Mn) : Int := (m.map (·.2)).sum
def tOfF (f : List Tm) : T3 := (sumQ (f.filter fun q => decide (pwM q.1 = 0)), sumQ (f.filter fun q => decide (pwM q.1 = 1)), sumQ (f.filter fun q => decide (pwM q.1 = 2)))
def OneN (nm : List Nat) (n : Nat) (s : Sn) : Prop := ∀ c ∈ s.cmps, SzT n (tOfF c.2) ∧ c.2 = triF nm (tOfF c.2)
theorem OneN.part {nm : List Nat} {n : Nat} {s p : Sn} (h : OneN nm n s) (hp : p ∈ s.parts) : OneN nm n p := fun c hc => h c (cmps_mem hp hc)
mutual
def Sn.bnd : Sn → List (List Nat)
  | .both l => Sn.bnds l
  | .either l => Sn.bnds l
  | .neg s => s.bnd
  | .some x s => x :: s.bnd
  | .all x s => x :: s.bnd
  | _ => []
def Sn.bnds : List Sn → List (List Nat)
  | [] => []
  | s :: l => s.bnd ++ Sn.bnds l
end
theorem bnds_flat : ∀ l : List Sn, Sn.bnds l = l.flatMap Sn.bnd
  | [] => rfl
  | s :: l => by rw [Sn.bnds, bnds_flat l, List.flatMap_cons]
structure NmS (s : Sn) : Prop where
  c : ∀ c ∈ s.cmps, ∀ q ∈ c.2, ∀ p ∈ q.1, Nm p.1
  b : ∀ x ∈ s.bnd, Nm x
theorem NmS.both {l : List Sn} (h : NmS (.both l)) : ∀ s ∈ l, NmS s := fun s hs => ⟨fun c hc => h.c c (by rw [Sn.cmps, cmpss_flat]; exact List.mem_flatMap.mpr ⟨s, hs, hc⟩), fun x hx => h.b x (by rw [Sn.bnd, bnds_flat]; exact List.mem_flatMap.mpr ⟨s, hs, hx⟩)⟩
theorem NmS.either {l : List Sn} (h : NmS (.either l)) : ∀ s ∈ l, NmS s := fun s hs => ⟨fun c hc => h.c c (by rw [Sn.cmps, cmpss_flat]; exact List.mem_flatMap.mpr ⟨s, hs, hc⟩), fun x hx => h.b x (by rw [Sn.bnd, bnds_flat]; exact List.mem_flatMap.mpr ⟨s, hs, hx⟩)⟩
theorem NmS.of_both {l : List Sn} (h : ∀ s ∈ l, NmS s) : NmS (.both l) := ⟨fun c hc => by
  rw [Sn.cmps, cmpss_flat] at hc; obtain ⟨s, hs, hc⟩ := List.mem_flatMap.mp hc; exact (h s hs).c c hc, fun x hx => by
  rw [Sn.bnd, bnds_flat] at hx; obtain ⟨s, hs, hx⟩ := List.mem_flatMap.mp hx; exact (h s hs).b x hx⟩
theorem NmS.of_either {l : List Sn} (h : ∀ s ∈ l, NmS s) : NmS (.either l) := ⟨fun c hc => by
  rw [Sn.cmps, cmpss_flat] at hc; obtain ⟨s, hs, hc⟩ := List.mem_flatMap.mp hc; exact (h s hs).c c hc, fun x hx => by
  rw [Sn.bnd, bnds_flat] at hx; obtain ⟨s, hs, hx⟩ := List.mem_flatMap.mp hx; exact (h s hs).b x hx⟩
theorem NmS.yes : NmS .yes := ⟨fun c hc => (List.not_mem_nil hc).elim, fun x hx => by
  rw [show Sn.bnd .yes = [] from by simp [Sn.bnd]] at hx; exact (List.not_mem_nil hx).elim⟩
theorem NmS.no : NmS .no := ⟨fun c hc => (List.not_mem_nil hc).elim, fun x hx => by
  rw [show Sn.bnd .no = [] from by simp [Sn.bnd]] at hx; exact (List.not_mem_nil hx).elim⟩
theorem key_N {x : List Nat} (h : Nm x) : keyP (.str (S x)) = true := strOk_nm h
theorem key_M {m : Mn} (h : ∀ p ∈ m, Nm p.1) : keysP (toPys (m.map encP)) = true := by
  rw [toPys_map]; exact keys_Ms m h
theorem key_F : ∀ {f : List Tm}, (∀ q ∈ f, ∀ p ∈ q.1, Nm p.1) → keysP (toPys (f.map encQ)) = true
  | [], _ => rfl
  | q :: f, h => by
    show (keysP [toPy (encM q.1), .int q.2] && keysP (toPys (f.map encQ))) = true
    rw [key_F fun r hr => h r (List.mem_cons_of_mem _ hr)]
    have := key_M (h q List.mem_cons_self)
    show ((keysP (toPys (q.1.map encP)) && (true && true)) && true) = true
    rw [this]; rfl
theorem word_key (w : Wd) : keyP (.str w.str) = true := by cases w <;> decide +kernel
mutual
theorem key_S : ∀ s : Sn, NmS s → keyP (toPy (eSn s)) = true
  | .yes, _ => by rw [eSn]; decide +kernel
  | .no, _ => by rw [eSn]; decide +kernel
  | .cmp w f, h => by
    rw [eSn]
    show (keyP (.str w.str) && (keysP (toPys (f.map encQ)) && true)) = true
    rw [word_key, key_F (h.c (w, f) (List.mem_singleton.mpr rfl))]; rfl
  | .both l, h => by
    rw [eSn]
    show (keyP (.str "both") && (keysP (toPys (eSns l)) && true)) = true
    rw [show keyP (.str "both") = true from ok_both, keys_S l h.both]; rfl
  | .either l, h => by
    rw [eSn]
    show (keyP (.str "either") && (keysP (toPys (eSns l)) && true)) = true
    rw [show keyP (.str "either") = true from ok_either, keys_S l h.either]; rfl
  | .neg s, h => by
    rw [eSn]
    show (keyP (.str "not") && (keyP (toPy (eSn s)) && true)) = true
    rw [show keyP (.str "not") = true from ok_not, key_S s ⟨h.c, h.b⟩]; rfl
  | .some x s, h => by
    rw [eSn]
    show (keyP (.str "some") && (keyP (.str (S x)) && (keyP (toPy (eSn s)) && true))) = true
    rw [show keyP (.str "some") = true from ok_some, key_N (h.b x List.mem_cons_self), key_S s ⟨h.c, fun y hy => h.b y (List.mem_cons_of_mem _ hy)⟩]; rfl
  | .all x s, h => by
    rw [eSn]
    show (keyP (.str "all") && (keyP (.str (S x)) && (keyP (toPy (eSn s)) && true))) = true
    rw [show keyP (.str "all") = true from ok_all, key_N (h.b x List.mem_cons_self), key_S s ⟨h.c, fun y hy => h.b y (List.mem_cons_of_mem _ hy)⟩]; rfl
theorem keys_S : ∀ l : List Sn, (∀ s ∈ l, NmS s) → keysP (toPys (eSns l)) = true
  | [], _ => rfl
  | s :: l, h => by
    rw [eSns]
    show (keyP (toPy (eSn s)) && keysP (toPys (eSns l))) = true
    rw [key_S s (h s List.mem_cons_self), keys_S l fun t ht => h t (List.mem_cons_of_mem _ ht)]; rfl
end
theorem toPyM_inj {a b : Mn} (h : toPy (encM a) = toPy (encM b)) : a = b := by
  rw [toPy_M, toPy_M] at h
  have h := PyData.tuple.inj h
  have key : ∀ (a b : Mn), (a.map fun p => PyData.tuple [.str (S p.1), .int p.2]) = (b.map fun p => .tuple [.str (S p.1), .int p.2]) → a = b := by
    intro a
    induction a with
    | nil => intro b h; cases b with
      | nil => rfl
      | cons p b => cases h
    | cons p a ih => intro b h; cases b with
      | nil => cases h
      | cons q b =>
        rw [List.map_cons, List.map_cons] at h
        have h1 := List.head_eq_of_cons_eq h
        have h2 := List.tail_eq_of_cons_eq h
        rw [ih b h2]
        have e := PyData.tuple.inj h1
        injection e with e1 e2
        injection e2 with e2 _
        have : p = q := by
          obtain ⟨p1, p2⟩ := p; obtain ⟨q1, q2⟩ := q
          have := S_inj.mp (PyData.str.inj e1)
          have := PyData.int.inj e2
          simp_all
        rw [this]
  exact key a b h
theorem toPyQ_inj : ∀ {f g : List Tm}, toPys (f.map encQ) = toPys (g.map encQ) → f = g
  | [], [], _ => rfl
  | [], _ :: _, h => by cases h
  | _ :: _, [], h => by cases h
  | q :: f, r :: g, h => by
    have h : toPy (encQ q) :: toPys (f.map encQ) = toPy (encQ r) :: toPys (g.map encQ) := h
    injection h with h1 h2
    have e : PyData.tuple [toPy (encM q.1), .int q.2] = .tuple [toPy (encM r.1), .int r.2] := h1
    have e := PyData.tuple.inj e
    injection e with e1 e2
    injection e2 with e2 _
    rw [toPyQ_inj h2]
    obtain ⟨q1, q2⟩ := q; obtain ⟨r1, r2⟩ := r
    have := toPyM_inj e1
    have := PyData.int.inj e2
    simp_all
def wdK : Sn → Nat
  | .yes => 0 | .no => 1 | .cmp .less _ => 2 | .cmp .most _ => 3 | .cmp .equal _ => 4 | .cmp .unlike _ => 5 | .both _ => 6 | .either _ => 7 | .neg _ => 8 | .some _ _ => 9 | .all _ _ => 10
def wdS : Nat → Str
  | 0 => "yes" | 1 => "no" | 2 => "less" | 3 => "most" | 4 => "equal" | 5 => "unlike" | 6 => "both" | 7 => "either" | 8 => "not" | 9 => "some" | _ => "all"
theorem wdK_le (s : Sn) : wdK s ≤ 10 := by
  cases s with
  | cmp w f => cases w <;> simp [wdK]
  | _ => simp [wdK]
theorem wdS_word (s : Sn) : wdS (wdK s) = s.word := by
  cases s with
  | cmp w f => cases w <;> rfl
  | _ => rfl
theorem wdS_inj : ∀ i j : Nat, i ≤ 10 → j ≤ 10 → (wdS i == wdS j) = true → i = j := by
  have : ∀ i ≤ 10, ∀ j ≤ 10, (wdS i == wdS j) = true → i = j := by decide +kernel
  exact fun i j hi hj h => this i hi j hj h
theorem word_py (s : Sn) : ∃ r, toPy (eSn s) = .tuple (.str s.word :: r) := by
  cases s <;> (rw [eSn]; exact ⟨_, rfl⟩)
theorem word_same {s t : Sn} (h : toPy (eSn s) = toPy (eSn t)) : wdK s = wdK t := by
  obtain ⟨r, e⟩ := word_py s
  obtain ⟨r', e'⟩ := word_py t
  rw [e, e'] at h
  have h := PyData.tuple.inj h
  injection h with h _
  have h := PyData.str.inj h
  refine wdS_inj _ _ (wdK_le s) (wdK_le t) ?_
  rw [wdS_word, wdS_word, h]
  exact beq_self_eq_true _
mutual
theorem toPyS_inj : ∀ s t : Sn, toPy (eSn s) = toPy (eSn t) → s = t
  | .yes, t, h => by have := word_same h; cases t <;> first | rfl | (simp [wdK] at this; done) | (rename_i w f; cases w <;> simp [wdK] at this)
  | .no, t, h => by have := word_same h; cases t <;> first | rfl | (simp [wdK] at this; done) | (rename_i w f; cases w <;> simp [wdK] at this)
  | .cmp w f, t, h => by
    have k := word_same h
    cases t with
    | cmp u g =>
      have e : w = u := by cases w <;> cases u <;> first | rfl | (simp [wdK] at k)
      subst e
      rw [eSn, eSn] at h
      have h : PyData.tuple [.str w.str, .tuple (toPys (f.map encQ))] = .tuple [.str w.str, .tuple (toPys (g.map encQ))] := h
      have h := PyData.tuple.inj h
      injection h with _ h
      injection h with h _
      rw [toPyQ_inj (PyData.tuple.inj h)]
    | _ => cases w <;> simp [wdK] at k
  | .both l, t, h => by
    have k := word_same h
    cases t with
    | both m =>
      rw [eSn, eSn] at h
      have h : PyData.tuple [.str "both", .tuple (toPys (eSns l))] = .tuple [.str "both", .tuple (toPys (eSns m))] := h
      have h := PyData.tuple.inj h
      injection h with _ h
      injection h with h _
      rw [toPySs_inj l m (PyData.tuple.inj h)]
    | cmp u g => cases u <;> simp [wdK] at k
    | _ => simp [wdK] at k
  | .either l, t, h => by
    have k := word_same h
    cases t with
    | either m =>
      rw [eSn, eSn] at h
      have h : PyData.tuple [.str "either", .tuple (toPys (eSns l))] = .tuple [.str "either", .tuple (toPys (eSns m))] := h
      have h := PyData.tuple.inj h
      injection h with _ h
      injection h with h _
      rw [toPySs_inj l m (PyData.tuple.inj h)]
    | cmp u g => cases u <;> simp [wdK] at k
    | _ => simp [wdK] at k
  | .neg s, t, h => by
    have k := word_same h
    cases t with
    | neg m =>
      rw [eSn, eSn] at h
      have h : PyData.tuple [.str "not", toPy (eSn s)] = .tuple [.str "not", toPy (eSn m)] := h
      have h := PyData.tuple.inj h
      injection h with _ h
      injection h with h _
      rw [toPyS_inj s m h]
    | cmp u g => cases u <;> simp [wdK] at k
    | _ => simp [wdK] at k
  | .some x s, t, h => by
    have k := word_same h
    cases t with
    | some y m =>
      rw [eSn, eSn] at h
      have h : PyData.tuple [.str "some", .str (S x), toPy (eSn s)] = .tuple [.str "some", .str (S y), toPy (eSn m)] := h
      have h := PyData.tuple.inj h
      injection h with _ h
      injection h with h1 h
      injection h with h _
      rw [toPyS_inj s m h, S_inj.mp (PyData.str.inj h1)]
    | cmp u g => cases u <;> simp [wdK] at k
    | _ => simp [wdK] at k
  | .all x s, t, h => by
    have k := word_same h
    cases t with
    | all y m =>
      rw [eSn, eSn] at h
      have h : PyData.tuple [.str "all", .str (S x), toPy (eSn s)] = .tuple [.str "all", .str (S y), toPy (eSn m)] := h
      have h := PyData.tuple.inj h
      injection h with _ h
      injection h with h1 h
      injection h with h _
      rw [toPyS_inj s m h, S_inj.mp (PyData.str.inj h1)]
    | cmp u g => cases u <;> simp [wdK] at k
    | _ => simp [wdK] at k
theorem toPySs_inj : ∀ l m : List Sn, toPys (eSns l) = toPys (eSns m) → l = m
  | [], [], _ => rfl
  | [], _ :: _, h => by rw [eSns, eSns] at h; cases h
  | _ :: _, [], h => by rw [eSns, eSns] at h; cases h
  | s :: l, t :: m, h => by
    rw [eSns, eSns] at h
    have h : toPy (eSn s) :: toPys (eSns l) = toPy (eSn t) :: toPys (eSns m) := h
    injection h with h1 h2
    rw [toPyS_inj s t h1, toPySs_inj l m h2]
end
theorem eqv_S {s t : Sn} (hs : NmS s) (ht : NmS t) : PyData.eqv (toPy (eSn s)) (toPy (eSn t)) = true ↔ s = t :=
  (eqv_key _ _ (key_S s hs) (key_S t ht)).trans ⟨toPyS_inj s t, fun e => by rw [e]⟩
mutual
theorem dep_S : ∀ s : Sn, (toPy (eSn s)).depth ≤ 2 * s.depth + 4
  | .yes => by rw [eSn]; decide +kernel
  | .no => by rw [eSn]; decide +kernel
  | .cmp w f => by
    rw [eSn]
    show max (PyData.depth (.str w.str)) (max (PyData.depthAll (toPys (f.map encQ)) + 1) 0) + 1 ≤ _
    have h1 := dep_Q f
    have h2 : PyData.depth (.str w.str) = 0 := by simp [PyData.depth]
    rw [h2]
    show _ ≤ 2 * 1 + 4
    omega
  | .both l => by
    rw [eSn]
    show max (PyData.depth (.str "both")) (max (PyData.depthAll (toPys (eSns l)) + 1) 0) + 1 ≤ _
    have h1 := deps_S l
    have h2 : PyData.depth (.str "both") = 0 := by simp [PyData.depth]
    rw [h2, Sn.depth]
    omega
  | .either l => by
    rw [eSn]
    show max (PyData.depth (.str "either")) (max (PyData.depthAll (toPys (eSns l)) + 1) 0) + 1 ≤ _
    have h1 := deps_S l
    have h2 : PyData.depth (.str "either") = 0 := by simp [PyData.depth]
    rw [h2, Sn.depth]
    omega
  | .neg s => by
    rw [eSn]
    show max (PyData.depth (.str "not")) (max (toPy (eSn s)).depth 0) + 1 ≤ _
    have h1 := dep_S s
    have h2 : PyData.depth (.str "not") = 0 := by simp [PyData.depth]
    rw [h2, Sn.depth]
    omega
  | .some x s => by
    rw [eSn]
    show max (PyData.depth (.str "some")) (max (PyData.depth (.str (S x))) (max (toPy (eSn s)).depth 0)) + 1 ≤ _
    have h1 := dep_S s
    have h2 : PyData.depth (.str "some") = 0 := by simp [PyData.depth]
    have h3 : PyData.depth (.str (S x)) = 0 := by simp [PyData.depth]
    rw [h2, h3, Sn.depth]
    omega
  | .all x s => by
    rw [eSn]
    show max (PyData.depth (.str "all")) (max (PyData.depth (.str (S x))) (max (toPy (eSn s)).depth 0)) + 1 ≤ _
    have h1 := dep_S s
    have h2 : PyData.depth (.str "all") = 0 := by simp [PyData.depth]
    have h3 : PyData.depth (.str (S x)) = 0 := by simp [PyData.depth]
    rw [h2, h3, Sn.depth]
    omega
theorem deps_S : ∀ l : List Sn, PyData.depthAll (toPys (eSns l)) ≤ 2 * Sn.depths l + 4
  | [] => by rw [eSns]; exact Nat.zero_le _
  | s :: l => by
    rw [eSns]
    show max (toPy (eSn s)).depth (PyData.depthAll (toPys (eSns l))) ≤ _
    have := dep_S s
    have := deps_S l
    rw [Sn.depths]
    omega
end
theorem shaped_S {s : Sn} (h : NmS s) (hd : s.depth ≤ 29) : SeqAt.shaped (toPy (eSn s)) = true := by
  unfold SeqAt.shaped
  have := dep_S s
  rw [keyP_lay _ (key_S s h)]
  exact decide_eq_true (by omega)
open Classical in
theorem dEq_S {s t : Sn} (hs : NmS s) (ht : NmS t) (ds : s.depth ≤ 29) (dt : t.depth ≤ 29) : dEq (eSn s) (eSn t) = .ok (.bl (decide (s = t))) := by
  show chk _ (Out.ok (D.bl (PyData.eqv (toPy (eSn s)) (toPy (eSn t))))) = _
  rw [chk_pos ⟨shaped_S hs ds, shaped_S ht dt⟩]
  congr 2
  exact Bool.eq_iff_iff.mpr ((eqv_S hs ht).trans (by simp))
open Classical in
theorem dNe_Sn {s t : Sn} (hs : NmS s) (ht : NmS t) (ds : s.depth ≤ 29) (dt : t.depth ≤ 29) : dNe (eSn s) (eSn t) = .ok (.bl (!decide (s = t))) := by
  show chk _ (Out.ok (D.bl (!PyData.eqv (toPy (eSn s)) (toPy (eSn t))))) = _
  rw [chk_pos ⟨shaped_S hs ds, shaped_S ht dt⟩]
  congr 3
  exact Bool.eq_iff_iff.mpr ((eqv_S hs ht).trans (by simp))
open Classical in
theorem dNotIn_Sn {s : Sn} {l : List Sn} (hs : NmS s) (hl : ∀ t ∈ l, NmS t) (ds : s.depth ≤ 28) (dl : ∀ t ∈ l, t.depth ≤ 28) : dInDp true (eSn s) (.lst (l.map eSn)) = .ok (.bl (!decide (s ∈ l))) := by
  have sh : SeqAt.shaped (toPy (.lst (l.map eSn))) = true := by
    unfold SeqAt.shaped
    rw [← eSns_map]
    have h1 := deps_S l
    have h2 := sdeps_le dl
    have h3 := keysP_lay _ (keys_S l hl)
    rw [show toPy (.lst (eSns l)) = .list (toPys (eSns l)) from rfl]
    simp only [PyData.canLay0, h3, PyData.depth, Bool.true_and]
    exact decide_eq_true (by omega)
  show chk _ (Out.ok (D.bl (if true = true then _ else _))) = _
  rw [chk_pos ⟨shaped_S hs (by omega), sh⟩, if_pos rfl]
  congr 3
  have key : ∀ l : List Sn, (∀ t ∈ l, NmS t) → ((toPys (l.map eSn)).any fun z => PyData.eqv z (toPy (eSn s))) = decide (s ∈ l) := by
    intro l
    induction l with
    | nil => intro _; simp [toPys]
    | cons t l ih =>
      intro h
      have e : PyData.eqv (toPy (eSn t)) (toPy (eSn s)) = decide (s = t) := Bool.eq_iff_iff.mpr ((eqv_S (h t List.mem_cons_self) hs).trans (by simp [eq_comm]))
      show (PyData.eqv (toPy (eSn t)) (toPy (eSn s)) || ((toPys (l.map eSn)).any fun z => PyData.eqv z (toPy (eSn s)))) = _
      rw [ih fun u hu => h u (List.mem_cons_of_mem _ hu), e]
      simp
  exact key l hl
open Classical in
noncomputable def addK (gone : Sn) (kept : List Sn) (p : Sn) : List Sn := if p ≠ gone ∧ p ∉ kept then kept ++ [p] else kept
noncomputable def keptS (gone : Sn) (l : List Sn) : List Sn := l.foldl (addK gone) []
def goneS (b : Bool) : Sn := if b then .yes else .no
def ruleS (b : Bool) : Sn := if b then .no else .yes
def putS (b : Bool) (l : List Sn) : Sn := if b then .both l else .either l
def wordB (b : Bool) : Str := if b then "both" else "either"
open Classical in
noncomputable def foldS (b : Bool) (l : List Sn) : Sn :=
  if ruleS b ∈ l then ruleS b else match keptS (goneS b) l with
    | [] => goneS b
    | [p] => p
    | k => putS b k
theorem addK_sub {gone : Sn} {p q : Sn} {k : List Sn} (h : q ∈ addK gone k p) : q ∈ k ∨ (q = p ∧ p ≠ gone) := by
  unfold addK at h
  split at h
  · rename_i c
    rcases List.mem_append.mp h with h | h
    · exact .inl h
    · exact .inr ⟨List.mem_singleton.mp h, c.1⟩
  · exact .inl h
theorem kept_len {gone : Sn} : ∀ (l k : List Sn), (l.foldl (addK gone) k).length ≤ k.length + l.length
  | [], _ => Nat.le_refl _
  | p :: l, k => by
    rw [List.foldl_cons, List.length_cons]
    have := kept_len (gone := gone) l (addK gone k p)
    have : (addK gone k p).length ≤ k.length + 1 := by unfold addK; split <;> simp
    omega
theorem foldS_cases (b : Bool) (l : List Sn) : (foldS b l = ruleS b ∧ ruleS b ∈ l) ∨ (ruleS b ∉ l ∧ ((foldS b l = goneS b ∧ keptS (goneS b) l = []) ∨ (∃ p, foldS b l = p ∧ keptS (goneS b) l = [p]) ∨ (foldS b l = putS b (keptS (goneS b) l) ∧ 2 ≤ (keptS (goneS b) l).length))) := by
  unfold foldS
  by_cases c : ruleS b ∈ l
  · rw [if_pos c]; exact .inl ⟨rfl, c⟩
  · rw [if_neg c]
    right
    refine ⟨c, ?_⟩
    match h : keptS (goneS b) l with
    | [] => exact .inl ⟨rfl, rfl⟩
    | [p] => exact .inr (.inl ⟨p, rfl, rfl⟩)
    | p :: q :: k => exact .inr (.inr ⟨rfl, by simp⟩)
theorem nms_goneS (b : Bool) : NmS (goneS b) := by cases b; exact NmS.no; exact NmS.yes
theorem nms_ruleS (b : Bool) : NmS (ruleS b) := by cases b; exact NmS.yes; exact NmS.no
theorem dep_goneS (b : Bool) : (goneS b).depth = 1 := by cases b <;> rfl
theorem dep_ruleS (b : Bool) : (ruleS b).depth = 1 := by cases b <;> rfl
open Classical in
theorem lawfold_loop {b : Bool} {x0 x1 : Option D} : ∀ (l acc : List Sn) (x5 : Option D), (∀ s ∈ l, NmS s ∧ s.depth ≤ 28) → (∀ s ∈ acc, NmS s ∧ s.depth ≤ 28) → acc.length + l.length ≤ 10000 →
    (ruleS b ∈ l ∧ forL (gN 5) b__law_folded_1 (l.map eSn) [x0, x1, some (eSn (goneS b)), some (eSn (ruleS b)), some (.lst (acc.map eSn)), x5] = .rt (eSn (ruleS b))) ∨
    (ruleS b ∉ l ∧ ∃ x5', forL (gN 5) b__law_folded_1 (l.map eSn) [x0, x1, some (eSn (goneS b)), some (eSn (ruleS b)), some (.lst (acc.map eSn)), x5] = .nx [x0, x1, some (eSn (goneS b)), some (eSn (ruleS b)), some (.lst ((l.foldl (addK (goneS b)) acc).map eSn)), x5'])
  | [], acc, x5, _, _, _ => .inr ⟨List.not_mem_nil, x5, rfl⟩
  | p :: l, acc, x5, h, ha, hl => by
    rw [List.length_cons] at hl
    have hp := h p List.mem_cons_self
    have e1 := dEq_S hp.1 (nms_ruleS b) (by have := hp.2; omega) (by rw [dep_ruleS]; decide)
    by_cases c : p = ruleS b
    · left
      refine ⟨by rw [c]; exact List.mem_cons_self, ?_⟩
      rw [decide_eq_true c] at e1
      rw [List.map_cons, forL_cons]
      clear h ha hp c
      generalize forL (gN 5) b__law_folded_1 (l.map eSn) = R
      unfold b__law_folded_1
      walk_at "gos"
    · rw [decide_eq_false c] at e1
      have e2 := dNe_Sn hp.1 (nms_goneS b) (by have := hp.2; omega) (by rw [dep_goneS]; decide)
      have e3 := dNotIn_Sn (l := acc) hp.1 (fun t ht => (ha t ht).1) hp.2 fun t ht => (ha t ht).2
      have la : (acc.map eSn).length < sizeLine := len_lt (by rw [List.length_map]; omega)
      have hacc : ∀ s ∈ addK (goneS b) acc p, NmS s ∧ s.depth ≤ 28 := fun s hs => (addK_sub hs).elim (ha s) fun q => q.1 ▸ hp
      have hlen : (addK (goneS b) acc p).length ≤ acc.length + 1 := by unfold addK; split <;> simp
      have ih := lawfold_loop (b := b) (x0 := x0) (x1 := x1) l (addK (goneS b) acc p) (some (eSn p)) (fun s hs => h s (List.mem_cons_of_mem _ hs)) hacc (by omega)
      have st : (oS (gN 5 (eSn p) [x0, x1, some (eSn (goneS b)), some (eSn (ruleS b)), some (.lst (acc.map eSn)), x5]) b__law_folded_1).cont = .nx [x0, x1, some (eSn (goneS b)), some (eSn (ruleS b)), some (.lst ((addK (goneS b) acc p).map eSn)), some (eSn p)] := by
        clear ih h ha hp hacc hlen
        unfold addK
        by_cases c1 : p = goneS b
        · rw [decide_eq_true c1] at e2
          rw [if_neg (fun q => q.1 c1)]
          generalize acc.map eSn = A at *
          unfold b__law_folded_1
          clear c1 e3
          walk_at "gos"
        · rw [decide_eq_false c1] at e2
          by_cases c2 : p ∈ acc
          · rw [decide_eq_true c2] at e3
            rw [if_neg (fun q => q.2 c2)]
            generalize acc.map eSn = A at *
            unfold b__law_folded_1
            clear c1 c2 c
            walk_at "gos"
          · rw [decide_eq_false c2] at e3
            rw [if_pos ⟨c1, c2⟩, List.map_append]
            generalize acc.map eSn = A at *
            unfold b__law_folded_1
            clear c1 c2 c
            walk_at "gos"
      rw [List.map_cons, forL_step st]
      rcases ih with ⟨m, e⟩ | ⟨m, e⟩
      · exact .inl ⟨List.mem_cons_of_mem _ m, e⟩
      · exact .inr ⟨fun q => (List.mem_cons.mp q).elim (fun q => c q.symm) m, e⟩
theorem sn_yes : D.tup [.str "yes"] = eSn .yes := by rw [eSn]
theorem sn_no : D.tup [.str "no"] = eSn .no := by rw [eSn]
noncomputable def putGo (t b : Int) : List (List Tm) → List Tm → Int → List Tm
  | [], F, _ => F
  | g :: gs, F, w => putGo t b gs (formOf (formOf (F.map fun q => (q.1, t * q.2)) ++ formOf (g.map fun q => (q.1, w * q.2)))) (w * b)
noncomputable def putF (x : List Nat) (t b : Int) (f : List Tm) : List Tm := putGo t b (byPow x f).reverse [] 1
theorem Ok.most {xs : List (List Nat)} {most m2 : Int} {k b : Nat} {f : List Tm} (h : Ok xs most k b f) (l : most ≤ m2) : Ok xs m2 k b f :=
  ⟨fun q hq => ⟨fun p hp => ⟨((h.mono q hq).nm p hp).1, ((h.mono q hq).nm p hp).2.1, Int.le_trans ((h.mono q hq).nm p hp).2.2 l⟩, (h.mono q hq).up, (h.mono q hq).few⟩, h.nin, h.few, h.sz⟩
def cst (f : List Tm) : Bool := f.all fun q => decide (q.1 = [])
def numS (f : List Tm) : Int := (f.map (·.2)).sum
noncomputable def cmpL (w : Wd) (f : List Tm) : Sn := if cst f = true then (if sayB w (numS (leanF f)) = true then .yes else .no) else .cmp w (leanF f)
structure FG (b : Nat) (f : List Tm) : Prop where
  form : Form 1000 f
  few : ∀ q ∈ f, q.1.length ≤ 20
  sz : ∀ q ∈ f, Sz b q.2
  len : f.length ≤ 400
theorem cst_cases {m : Int} {f : List Tm} (h : Form m f) (c : cst f = true) : f = [] ∨ ∃ z, f = [([], z)] ∧ z ≠ 0 := by
  unfold cst at c
  rw [List.all_eq_true] at c
  match f, h, c with
  | [], _, _ => exact .inl rfl
  | [(m, z)], h, c =>
    have := c _ List.mem_cons_self
    simp at this
    exact .inr ⟨z, by rw [this], h.nz _ List.mem_cons_self⟩
  | a :: b :: f, h, c =>
    have c1 := c a List.mem_cons_self
    have c2 := c b (List.mem_cons_of_mem _ List.mem_cons_self)
    simp only [decide_eq_true_eq] at c1 c2
    have u := (List.pairwise_cons.mp h.up).1 b List.mem_cons_self
    rw [c1, c2] at u
    exact absurd u (by intro u; have := dataLt_asym u; rw [show dataLt (toPy (encM [])) (toPy (encM [])) = true from u] at this; cases this)
theorem cst_lean (f : List Tm) : cst (leanF f) = cst f := by
  unfold leanF
  split
  · rfl
  · unfold cst; rw [List.all_map]; rfl
theorem leanF_nil : leanF [] = [] := by unfold leanF; simp
theorem leanF_one {z : Int} (hz : z ≠ 0) : leanF [([], z)] = [([], z.sign)] := by
  have g : gcdN [(([] : Mn), z)] 0 = z.natAbs := by unfold gcdN; simp
  unfold leanF
  rw [g]
  by_cases c : z.natAbs < 2
  · rw [if_pos c]
    have : z = 1 ∨ z = -1 := by omega
    rcases this with rfl | rfl <;> rfl
  · rw [if_neg c]
    rw [List.map_cons, List.map_nil]
    congr 2
    rcases Int.lt_or_lt_of_ne hz with h | h
    · rw [Int.sign_eq_neg_one_of_neg h, Int.ofNat_natAbs_of_nonpos (by omega)]
      exact Int.ediv_eq_of_eq_mul_left (by omega) (by omega)
    · rw [Int.sign_eq_one_of_pos h, Int.natAbs_of_nonneg (by omega)]
      exact Int.ediv_self (by omega)
theorem numS_lean {m : Int} {f : List Tm} (h : Form m f) (c : cst f = true) : (f = [] ∧ leanF f = [] ∧ numS (leanF f) = 0) ∨ ∃ z : Int, z ≠ 0 ∧ f = [([], z)] ∧ leanF f = [([], z.sign)] ∧ numS (leanF f) = z.sign := by
  rcases cst_cases h c with rfl | ⟨z, rfl, hz⟩
  · exact .inl ⟨rfl, leanF_nil, by rw [leanF_nil]; rfl⟩
  · exact .inr ⟨z, hz, rfl, leanF_one hz, by rw [leanF_one hz]; simp [numS]⟩
theorem leanF_fg {b : Nat} {f : List Tm} (h : FG b f) : FG b (leanF f) := by
  refine ⟨leanF_form h.form, fun q hq => ?_, fun q hq => ?_, by rw [leanF_len]; exact h.len⟩ <;> unfold leanF at hq
  · split at hq
    · exact h.few q hq
    · obtain ⟨r, hr, rfl⟩ := List.mem_map.mp hq; exact h.few r hr
  · split at hq
    · exact h.sz q hq
    · obtain ⟨r, hr, rfl⟩ := List.mem_map.mp hq
      have d := gcdN_dvd f 0 r hr
      obtain ⟨k, ek⟩ := Int.ofNat_dvd_left.mpr d
      rename_i c
      show Sz b (r.2 / _)
      have := h.sz r hr
      unfold Sz at *
      rw [ek, Int.mul_ediv_cancel_left _ (by omega)]
      rw [ek, Int.natAbs_mul] at this
      have : k.natAbs ≤ (gcdN f 0 : Int).natAbs * k.natAbs := Nat.le_mul_of_pos_left _ (by omega)
      omega
theorem dNe_t0 (l : List D) (h : keysP (toPys l) = true) (hd : PyData.depthAll (toPys l) ≤ 50) : dNe (.tup l) (.tup []) = .ok (.bl (decide (l ≠ []))) := by
  have sh : SeqAt.shaped (toPy (.tup l)) = true := by
    unfold SeqAt.shaped
    have h3 := keysP_lay _ h
    rw [show toPy (.tup l) = .tuple (toPys l) from rfl]
    simp only [PyData.canLay0, h3, PyData.depth, Bool.true_and]
    exact decide_eq_true (by omega)
  have s0 : SeqAt.shaped (toPy (.tup [])) = true := by decide +kernel
  show chk _ (Out.ok (D.bl (!PyData.eqv (toPy (.tup l)) (toPy (.tup []))))) = _
  rw [chk_pos ⟨sh, s0⟩]
  congr 2
  cases l with
  | nil => rfl
  | cons a l => rfl
theorem dNe_ns (xs : List (List Nat)) (h : ∀ x ∈ xs, Nm x) : dNe (.tup (xs.map encN)) (.tup []) = .ok (.bl (decide (xs ≠ []))) := by
  rw [dNe_t0]
  · cases xs <;> rfl
  · induction xs with
    | nil => rfl
    | cons x xs ih =>
      rw [List.map_cons]
      show (keyP (.str (S x)) && keysP (toPys (xs.map encN))) = true
      rw [key_N (h x List.mem_cons_self), ih fun y hy => h y (List.mem_cons_of_mem _ hy)]; rfl
  · clear h
    induction xs with
    | nil => decide
    | cons x xs ih =>
      rw [List.map_cons]
      show max (PyData.depth (toPy (encN x))) _ ≤ 50
      have : PyData.depth (toPy (encN x)) ≤ 50 := by rw [show toPy (encN x) = .str (S x) from rfl]; simp [PyData.depth]
      omega
theorem names_cst {f : List Tm} : namesOf f = [] ↔ cst f = true := by
  unfold cst
  rw [List.all_eq_true]
  constructor
  · intro h q hq
    refine decide_eq_true ?_
    cases e : q.1 with
    | nil => rfl
    | cons p m =>
      have := namesOf_mem.mpr ⟨q, hq, p, by rw [e]; exact List.mem_cons_self, rfl⟩
      rw [h] at this
      cases this
  · intro h
    cases e : namesOf f with
    | nil => rfl
    | cons x xs =>
      obtain ⟨q, hq, p, hp, _⟩ := namesOf_mem.mp (show x ∈ namesOf f by rw [e]; exact List.mem_cons_self)
      have := h q hq
      simp only [decide_eq_true_eq] at this
      rw [this] at hp
      cases hp
theorem encQ_nil (z : Int) : encQ ([], z) = .tup [.tup [], .int z] := rfl
theorem eSn_cmp (w : Wd) (f : List Tm) : eSn (.cmp w f) = .tup [.str w.str, .tup (f.map encQ)] := by rw [eSn]
theorem cSum_1 (z : Int) : cSum [.lst [.int z]] = .ok (.int z) := by
  show Out.ok (D.int _) = _
  simp
theorem FG.nm {b : Nat} {f : List Tm} (h : FG b f) : ∀ q ∈ f, ∀ p ∈ q.1, Nm p.1 := fun q hq p hp => ((h.form.mono q hq).nm p hp).1
theorem compare_eq {b : Nat} (hb : b ≤ 9000) (w : Wd) {f : List Tm} (h : FG b f) : m_compare [.str w.str, .tup (f.map encQ)] = .ok (eSn (cmpL w f)) := by
  have e1 := lean_eq hb (fun q hq => ⟨h.sz q hq, h.form.nz q hq⟩) (Nat.le_trans h.len (by decide))
  have hl := leanF_fg h
  have e2 := names_of_eq (f := leanF f) (b := 20) hl.nm hl.few (by have := hl.len; omega)
  have e3 := dNe_ns (namesOf (leanF f)) fun x hx => by
    obtain ⟨q, hq, p, hp, rfl⟩ := namesOf_mem.mp hx
    exact hl.nm q hq p hp
  unfold cmpL
  by_cases c : cst f = true
  · rw [if_pos c]
    rw [show decide (namesOf (leanF f) ≠ []) = false from decide_eq_false (by rw [names_cst.mpr (by rw [cst_lean]; exact c)]; exact fun q => q rfl)] at e3
    have e4 := said_eq w (numS (leanF f))
    have e5 : cSum [.lst []] = .ok (.int 0) := rfl
    rcases numS_lean h.form c with ⟨rfl, el, en⟩ | ⟨z, hz, rfl, el, en⟩
    · rw [el] at e1 e2 e3
      rw [en] at e4 ⊢
      clear h hl
      generalize namesOf [] = N at *
      cases hs : sayB w 0 <;> rw [hs] at e4
      · rw [if_neg Bool.false_ne_true, ← sn_no]
        unfold m_compare b_compare
        simp only [List.map_nil] at *
        walk_at "gos"
        simp only [lcL_nil]
        walk_at "gos"
      · rw [if_pos rfl, ← sn_yes]
        unfold m_compare b_compare
        simp only [List.map_nil] at *
        walk_at "gos"
        simp only [lcL_nil]
        walk_at "gos"
    · rw [el] at e1 e2 e3
      rw [en] at e4 ⊢
      clear h hl hz
      have e6 := cSum_1 z.sign
      generalize namesOf [([], z.sign)] = N at *
      generalize z.sign = s at *
      simp only [List.map_cons, List.map_nil, encQ_nil] at *
      cases hs : sayB w s <;> rw [hs] at e4
      · rw [if_neg Bool.false_ne_true, ← sn_no]
        unfold m_compare b_compare
        walk_at "gos"
        simp only [lcL_nil, lcL_cons]
        walk_at "gos"
      · rw [if_pos rfl, ← sn_yes]
        unfold m_compare b_compare
        walk_at "gos"
        simp only [lcL_nil, lcL_cons]
        walk_at "gos"
  · rw [if_neg c]
    rw [show decide (namesOf (leanF f) ≠ []) = true from decide_eq_true (fun q => c (by rw [← cst_lean]; exact names_cst.mp q))] at e3
    rw [eSn_cmp]
    clear h hl c
    generalize f.map encQ = F at *
    generalize (leanF f).map encQ = L at *
    generalize (namesOf (leanF f)).map encN = N at *
    unfold m_compare b_compare
    walk_at "gos"
def shareF (s : Int) (vs : List Tv) : Int := vs.foldl (fun s v => s * (v.2.2 / ((Int.gcd v.2.2 s : Nat) : Int))) s
noncomputable def wholeF (vs : List Tv) : List Tm := formOf (vs.map fun v => (v.1, v.2.1 * (shareF 1 vs / v.2.2)))
theorem divisor_z {a b : Int} (ha : 0 ≤ a) (hb : 0 ≤ b) : m_divisor [.int a, .int b] = .ok (.int ((Int.gcd b a : Nat) : Int)) := by
  obtain ⟨n, rfl⟩ := Int.eq_ofNat_of_zero_le ha
  obtain ⟨m, rfl⟩ := Int.eq_ofNat_of_zero_le hb
  exact divisor_eq m n
structure RowOk (most : Int) (c : Nat) (v : Tv) : Prop where
  mono : Mono most v.1
  top : Sz 8000 v.2.1
  pos : 0 < v.2.2
  bot : Sz c v.2.2
theorem share_part {b s : Int} (hb : 0 < b) (hs : 0 < s) : 0 < b / ((Int.gcd b s : Nat) : Int) ∧ b / ((Int.gcd b s : Nat) : Int) ≤ b := by
  have g : 0 < Int.gcd b s := Int.gcd_pos_of_ne_zero_left _ (by omega)
  have d : ((Int.gcd b s : Nat) : Int) ∣ b := Int.gcd_dvd_left ..
  generalize Int.gcd b s = G at *
  obtain ⟨q, rfl⟩ := d
  have gz : ((G : Nat) : Int) ≠ 0 := by omega
  rw [Int.mul_ediv_cancel_left _ gz]
  have qp : 0 < q := by
    rcases Int.lt_or_le 0 q with h | h
    · exact h
    · exfalso
      have := Int.mul_nonpos_of_nonneg_of_nonpos (a := (G : Int)) (b := q) (by omega) h
      omega
  refine ⟨qp, ?_⟩
  have := Int.mul_le_mul_of_nonneg_right (a := 1) (b := (G : Int)) (c := q) (by omega) (by omega)
  omega
theorem sz_le {c : Nat} {i j : Int} (h0 : 0 ≤ i) (h : i ≤ j) (hj : Sz c j) : Sz c i := by unfold Sz at *; omega
theorem share_size {most : Int} {c : Nat} : ∀ (vs : List Tv) {s : Int} {n : Nat}, (∀ v ∈ vs, RowOk most c v) → 0 < s → Sz n s → 0 < shareF s vs ∧ Sz (n + c * vs.length) (shareF s vs)
  | [], s, n, _, h0, hs => ⟨h0, hs⟩
  | v :: vs, s, n, h, h0, hs => by
    have hv := h v List.mem_cons_self
    obtain ⟨p, l⟩ := share_part hv.pos h0
    have ih := share_size vs (s := s * (v.2.2 / ((Int.gcd v.2.2 s : Nat) : Int))) (n := n + c) (fun w hw => h w (List.mem_cons_of_mem _ hw)) (Int.mul_pos h0 p) (hs.mul (sz_le (by omega) l hv.bot))
    rw [List.length_cons, show n + c * (vs.length + 1) = n + c + c * vs.length from by rw [Nat.mul_succ]; omega]
    exact ih
theorem whole_loop {most : Int} {c : Nat} {x0 : Option D} (hc : c ≤ 4000) : ∀ (vs : List Tv) {s : Int} {n : Nat} {x2 x3 x4 : Option D}, (∀ v ∈ vs, RowOk most c v) → 0 < s → Sz n s → n + c * vs.length ≤ 9000 →
    ∃ y2 y3 y4, forL (gT [(gN 2), (gN 3), (gN 4)]) b_whole_1 (vs.map encR) [x0, some (.int s), x2, x3, x4] = .nx [x0, some (.int (shareF s vs)), y2, y3, y4]
  | [], s, n, x2, x3, x4, _, _, _, _ => ⟨x2, x3, x4, rfl⟩
  | v :: vs, s, n, x2, x3, x4, h, h0, hs, hn => by
    have hv := h v List.mem_cons_self
    obtain ⟨p, l⟩ := share_part hv.pos h0
    have hn' : n + c + c * vs.length ≤ 9000 := by rw [List.length_cons, Nat.mul_succ] at hn; omega
    have sz := sz_le (by omega) l hv.bot
    obtain ⟨y2, y3, y4, ih⟩ := whole_loop (x0 := x0) hc vs (s := s * (v.2.2 / ((Int.gcd v.2.2 s : Nat) : Int))) (n := n + c) (x2 := some (encM v.1)) (x3 := some (.int v.2.1)) (x4 := some (.int v.2.2)) (fun w hw => h w (List.mem_cons_of_mem _ hw)) (Int.mul_pos h0 p) (hs.mul sz) hn'
    refine ⟨y2, y3, y4, ?_⟩
    have d1 := divisor_z (a := s) (b := v.2.2) (by omega) (by have := hv.pos; omega)
    have gp : 0 < ((Int.gcd v.2.2 s : Nat) : Int) := by
      have := Int.gcd_pos_of_ne_zero_left (a := v.2.2) s (by have := hv.pos; omega)
      omega
    have gl : ((Int.gcd v.2.2 s : Nat) : Int) ≤ v.2.2 := Int.le_of_dvd hv.pos (Int.gcd_dvd_left ..)
    have d2 := dDiv_int (i := v.2.2) gp (sz_le (by omega) gl hv.bot) (by omega)
    have d3 := dMul_int hs sz (by omega)
    rw [List.map_cons]
    refine (forL_step ?_).trans ih
    unfold encR
    obtain ⟨m, t, b⟩ := v
    simp only at d1 d2 d3 ⊢
    generalize b / ((Int.gcd b s : Nat) : Int) = q at *
    generalize ((Int.gcd b s : Nat) : Int) = g at *
    generalize encM m = M at *
    clear ih h hv p l hn hn' sz gp gl hs
    unfold b_whole_1
    walk_at "gor"
theorem whole_eq {most : Int} {c : Nat} {vs : List Tv} (h : ∀ v ∈ vs, RowOk most c v) (hc : c ≤ 4000) (hn : 1 + c * vs.length ≤ 9000) (hl : vs.length ≤ 10000) : m_whole [.lst (vs.map encR)] = .ok (.tup ((wholeF vs).map encQ)) := by
  have s1 : Sz 1 1 := by unfold Sz; decide
  obtain ⟨sp, ss⟩ := share_size vs (s := 1) (n := 1) h (by decide) s1
  obtain ⟨y2, y3, y4, lp⟩ := whole_loop (x0 := some (.lst (vs.map encR))) hc vs (s := 1) (n := 1) (x2 := none) (x3 := none) (x4 := none) h (by decide) s1 hn
  have fe := form_eq (most := most) (ps := vs.map fun v => (v.1, v.2.1 * (shareF 1 vs / v.2.2))) (fun q hq => by obtain ⟨v, hv, rfl⟩ := List.mem_map.mp hq; exact (h v hv).mono) (by rw [List.length_map]; exact hl)
  have lc : lcL (gT [(gN 2), (gN 3), (gN 4)]) bYes (eA mkTup (aC (eV 2) (aC (e2 dMul (eV 3) (e2 dDiv (eV 1) (eV 4))) aN))) [some (.lst (vs.map encR)), some (.int (shareF 1 vs)), none, none, none] (vs.map encR) = .ok ((vs.map fun v => ((v.1, v.2.1 * (shareF 1 vs / v.2.2)) : Tm)).map encQ) := by
    rw [List.map_map]
    refine lcL_map encR _ vs fun v hv => ?_
    have hr := h v hv
    have d1 := dDiv_int (i := shareF 1 vs) hr.pos (hr.bot.mono (show c ≤ 9000 by omega)) (by omega)
    have q1 : Sz 9000 (shareF 1 vs / v.2.2) := by
      refine sz_le (Int.ediv_nonneg (by omega) (by have := hr.pos; omega)) ?_ (ss.mono hn)
      exact Int.ediv_le_self _ (by omega)
    have d2 := dMul_int hr.top q1 (by omega)
    have f3 : ∀ a b : D, mkTup [a, b] = .ok (.tup [a, b]) := fun a b => chk_pos (by show 2 ≤ sizeLine; decide)
    obtain ⟨m, t, b⟩ := v
    simp only [Function.comp_apply] at d1 d2 ⊢
    unfold encR encQ
    simp only
    generalize shareF 1 vs / b = q at *
    generalize shareF 1 vs = s at *
    generalize encM m = M at *
    clear h hr lp fe hv ss sp q1
    walk_at "gor"
  rw [show wholeF vs = formOf (vs.map fun v => (v.1, v.2.1 * (shareF 1 vs / v.2.2))) from rfl]
  have sz : (vs.map encR).length ≤ sizeLine := len_ok (by rw [List.length_map]; omega)
  generalize (formOf (vs.map fun v => ((v.1, v.2.1 * (shareF 1 vs / v.2.2)) : Tm))).map encQ = FF at *
  have sz2 : ((vs.map fun v => ((v.1, v.2.1 * (shareF 1 vs / v.2.2)) : Tm)).map encQ).length ≤ sizeLine := len_ok (by rw [List.length_map, List.length_map]; omega)
  generalize (vs.map fun v => ((v.1, v.2.1 * (shareF 1 vs / v.2.2)) : Tm)).map encQ = QS at *
  generalize vs.map encR = VS at *
  generalize shareF 1 vs = s at *
  clear h sp ss
  unfold m_whole b_whole
  walk_at "gor"
def MEAN : List (Str × Str) := [("<", "less"), ("<=", "most"), ("=", "equal"), ("/=", "unlike"), (">", "less"), (">=", "most")]
inductive SgOk : List Nat → Wd → Bool → Prop
  | lt : SgOk [60] .less false
  | le : SgOk [60, 61] .most false
  | eq : SgOk [61] .equal false
  | ne : SgOk [47, 61] .unlike false
  | gt : SgOk [62] .less true
  | ge : SgOk [62, 61] .most true
def negV (v : Tv) : Tv := (v.1, 0 - v.2.1, v.2.2)
noncomputable def sideV (ss : List Trm) : List Tv := ss.map trmV
noncomputable def cmpRows (sw : Bool) (ls rs : List Trm) : List Tv := if sw then sideV rs ++ (sideV ls).map negV else sideV ls ++ (sideV rs).map negV
theorem SgOk.facts {sg : List Nat} {w : Wd} {sw : Bool} (h : SgOk sg w sw) : ∃ c r, sg = c :: r ∧ isCm c = true ∧ c < 128 ∧ Asc sg ∧ sg.length ≤ 30 ∧ EndS sg ∧ dNotInC MEAN (.str (S sg)) = .ok (.bl false) ∧ dIxC MEAN (.str (S sg)) = .ok (.str w.str) ∧ dEq (.str (S [c])) (.str (S [62])) = .ok (.bl sw) := by
  have q : ∀ c : Nat, c < 128 → dEq (.str (S [c])) (.str (S [62])) = .ok (.bl (decide ([c] = [62]))) := fun c hc => dEq_Tx (okt_str fun d hd => by simp at hd; omega) (okt_str fun d hd => by simp at hd; omega)
  have nf : ∀ (s : Str) (y : Str), MEAN.lookup s = some y → dNotInC MEAN (.str s) = .ok (.bl false) ∧ dIxC MEAN (.str s) = .ok (.str y) := fun s y e => by
    constructor
    · show Out.ok (D.bl (!(MEAN.lookup s).isSome)) = _
      rw [e]; rfl
    · show (match MEAN.lookup s with | some y => Out.ok (D.str y) | none => .stuck) = _
      rw [e]
  cases h with
  | lt =>
    obtain ⟨n1, n2⟩ := nf (S [60]) "less" (by decide +kernel)
    exact ⟨60, [], rfl, rfl, by decide, by unfold Asc; decide, by decide, by unfold EndS EndT; decide, n1, n2, q 60 (by decide)⟩
  | le =>
    obtain ⟨n1, n2⟩ := nf (S [60, 61]) "most" (by decide +kernel)
    exact ⟨60, [61], rfl, rfl, by decide, by unfold Asc; decide, by decide, by unfold EndS EndT; decide, n1, n2, q 60 (by decide)⟩
  | eq =>
    obtain ⟨n1, n2⟩ := nf (S [61]) "equal" (by decide +kernel)
    exact ⟨61, [], rfl, rfl, by decide, by unfold Asc; decide, by decide, by unfold EndS EndT; decide, n1, n2, q 61 (by decide)⟩
  | ne =>
    obtain ⟨n1, n2⟩ := nf (S [47, 61]) "unlike" (by decide +kernel)
    exact ⟨47, [61], rfl, rfl, by decide, by unfold Asc; decide, by decide, by unfold EndS EndT; decide, n1, n2, q 47 (by decide)⟩
  | gt =>
    obtain ⟨n1, n2⟩ := nf (S [62]) "less" (by decide +kernel)
    exact ⟨62, [], rfl, rfl, by decide, by unfold Asc; decide, by decide, by unfold EndS EndT; decide, n1, n2, q 62 (by decide)⟩
  | ge =>
    obtain ⟨n1, n2⟩ := nf (S [62, 61]) "most" (by decide +kernel)
    exact ⟨62, [61], rfl, rfl, by decide, by unfold Asc; decide, by decide, by unfold EndS EndT; decide, n1, n2, q 62 (by decide)⟩
theorem negR_lc {x0 x1 x2 x4 : Option D} {L : D} (vs : List Tv) : lcL (gT [(gN 5), (gN 6), (gN 7)]) bYes (eA mkTup (aC (eV 5) (aC (e2 dSub (eC (.int 0)) (eV 6)) (aC (eV 7) aN)))) [x0, x1, x2, some L, x4, none, none, none] (vs.map encR) = .ok ((vs.map negV).map encR) := by
  rw [List.map_map]
  refine lcL_map encR _ vs fun v hv => ?_
  have f3 : ∀ a b c : D, mkTup [a, b, c] = .ok (.tup [a, b, c]) := fun a b c => chk_pos (by show 3 ≤ sizeLine; decide)
  obtain ⟨m, t, b⟩ := v
  simp only [Function.comp_apply]
  unfold encR negV
  simp only
  generalize encM m = M at *
  walk_at "gor"
theorem compared_eq {ws : List (List Nat)} (h : WsOk ws) {ls rs : List Trm} {sg : List Nat} {w : Wd} {sw : Bool} (hg : SgOk sg w sw) {k : Nat} (nl : ls ≠ []) (nr : rs ≠ []) (hl : ∀ q ∈ ls, TrmOk q) (hr : ∀ q ∈ rs, TrmOk q)
    (ha : At ws k (sideW ls ++ (sg :: sideW rs))) (he : EndS (hd ws (k + (sideW ls ++ (sg :: sideW rs)).length))) (ll : ls.length ≤ 2000) (lr : rs.length ≤ 2000) {most : Int} {c b : Nat} (hw : ∀ v ∈ cmpRows sw ls rs, RowOk most c v) (hc : c ≤ 4000) (hn : 1 + c * (cmpRows sw ls rs).length ≤ 9000)
    (hf : FG b (wholeF (cmpRows sw ls rs))) (hb : b ≤ 9000) :
    m_Reader_compared [RDd (Wn ws) (.int k)] = .ok (RT (eSn (cmpL w (wholeF (cmpRows sw ls rs)))) (Wn ws) (.int ((k + (sideW ls ++ (sg :: sideW rs)).length : Nat) : Int))) := by
  obtain ⟨c0, r0, es, cm, c128, ag, lg, eg, n1, n2, n3⟩ := hg.facts
  obtain ⟨a1, a2⟩ := at_app.mp ha
  have a2' : hd ws (k + (sideW ls).length) = sg ∧ At ws (k + (sideW ls).length + 1) (sideW rs) := a2
  obtain ⟨a2, a3⟩ := a2'
  have el : k + (sideW ls ++ (sg :: sideW rs)).length = k + (sideW ls).length + 1 + (sideW rs).length := by
    rw [List.length_append, List.length_cons]; omega
  rw [el] at he ⊢
  have t1 := terms_eq h nl hl a1 (by rw [a2]; exact eg) (by omega)
  have t2 := one_of_yes h (s := cms) (fun c => notin_cms) (a2.trans es) cm
  have t3 := terms_eq h nr hr a3 he (by omega)
  have i0 : dIx (.str (S sg)) (.int 0) = .ok (.str (S [c0])) := by rw [es]; exact dIx_S (k := 0) rfl (by rw [← es]; omega)
  rw [← es] at t2
  have g1 := cms_str
  have g2 : Str.ofString ">" = S [62] := by decide +kernel
  have e1 : (ls.map fun q => encR (trmV q)) = (sideV ls).map encR := by unfold sideV; rw [List.map_map]; rfl
  have e2' : (rs.map fun q => encR (trmV q)) = (sideV rs).map encR := by unfold sideV; rw [List.map_map]; rfl
  rw [e1] at t1
  rw [e2'] at t3
  have lenl : ((sideV ls).map encR).length ≤ 2000 := by unfold sideV; simpa using ll
  have lenr : ((sideV rs).map encR).length ≤ 2000 := by unfold sideV; simpa using lr
  have lencr : (cmpRows sw ls rs).length ≤ 10000 := by
    unfold cmpRows sideV
    split <;> (simp; omega)
  have wh := whole_eq hw hc hn lencr
  have ce := compare_eq hb w hf
  have em : ([("<", "less"), ("<=", "most"), ("=", "equal"), ("/=", "unlike"), (">", "less"), (">=", "most")] : List (Str × Str)) = MEAN := rfl
  generalize cmpL w (wholeF (cmpRows sw ls rs)) = CL at *
  generalize (wholeF (cmpRows sw ls rs)).map encQ = WF at *
  generalize w.str = WS at *
  generalize k + (sideW ls).length + 1 + (sideW rs).length = k3 at *
  generalize k + (sideW ls).length = k2 at *
  generalize eSn CL = CE at *
  clear h hg hl hr ha he hw hf a1 a2 a3 es cm c128 ag lg eg nl nr hc hn el lencr e1 e2'
  cases sw with
  | false =>
    have lc := fun x0 x1 x2 x4 => negR_lc (x0 := x0) (x1 := x1) (x2 := x2) (x4 := x4) (L := .lst ((sideV rs).map encR)) (sideV rs)
    have da := dAdd_L (xs := (sideV ls).map encR) (ys := ((sideV rs).map negV).map encR) (by simp only [List.length_map] at *; omega)
    have ec : (sideV ls).map encR ++ ((sideV rs).map negV).map encR = (cmpRows false ls rs).map encR := by unfold cmpRows; rw [if_neg (by decide), List.map_append]
    rw [ec] at da
    have sz : ((sideV rs).map encR).length ≤ sizeLine := len_ok (by omega)
    have sz2 : (((sideV rs).map negV).map encR).length ≤ sizeLine := len_ok (by simp only [List.length_map] at *; omega)
    generalize (cmpRows false ls rs).map encR = CR at *
    generalize ((sideV rs).map negV).map encR = NR at *
    generalize (sideV ls).map encR = LV at *
    generalize (sideV rs).map encR = RV at *
    generalize Wn ws = W at *
    clear ec lenl lenr ll lr
    unfold m_Reader_compared b_Reader_compared
    rw [em]
    walk_at "gor"
  | true =>
    have lc := fun x0 x1 x2 x4 => negR_lc (x0 := x0) (x1 := x1) (x2 := x2) (x4 := x4) (L := .lst ((sideV ls).map encR)) (sideV ls)
    have da := dAdd_L (xs := (sideV rs).map encR) (ys := ((sideV ls).map negV).map encR) (by simp only [List.length_map] at *; omega)
    have ec : (sideV rs).map encR ++ ((sideV ls).map negV).map encR = (cmpRows true ls rs).map encR := by unfold cmpRows; rw [if_pos rfl, List.map_append]
    rw [ec] at da
    have sz : ((sideV ls).map encR).length ≤ sizeLine := len_ok (by omega)
    have sz2 : (((sideV ls).map negV).map encR).length ≤ sizeLine := len_ok (by simp only [List.length_map] at *; omega)
    generalize (cmpRows true ls rs).map encR = CR at *
    generalize ((sideV ls).map negV).map encR = NR at *
    generalize (sideV ls).map encR = LV at *
    generalize (sideV rs).map encR = RV at *
    generalize Wn ws = W at *
    clear ec lenl lenr ll lr
    unfold m_Reader_compared b_Reader_compared
    rw [em]
    walk_at "gor"
def kSome : List Nat := [115, 111, 109, 101]
def kAll : List Nat := [97, 108, 108]
def kAnd : List Nat := [97, 110, 100]
def kOr : List Nat := [111, 114]
def kNot : List Nat := [110, 111, 116]
def kYes : List Nat := [121, 101, 115]
def kNo : List Nat := [110, 111]
theorem e_some : Str.ofString "some" = S kSome := by decide +kernel
theorem e_all : Str.ofString "all" = S kAll := by decide +kernel
theorem e_and : Str.ofString "and" = S kAnd := by decide +kernel
theorem e_or : Str.ofString "or" = S kOr := by decide +kernel
theorem e_not : Str.ofString "not" = S kNot := by decide +kernel
theorem e_yes : Str.ofString "yes" = S kYes := by decide +kernel
theorem e_no : Str.ofString "no" = S kNo := by decide +kernel
theorem e_op : Str.ofString "(" = S [40] := by decide +kernel
theorem e_cl : Str.ofString ")" = S [41] := by decide +kernel
theorem e_co : Str.ofString ":" = S [58] := by decide +kernel
theorem asc_kw : Asc kSome ∧ Asc kAll ∧ Asc kAnd ∧ Asc kOr ∧ Asc kNot ∧ Asc kYes ∧ Asc kNo ∧ Asc [40] ∧ Asc [41] ∧ Asc [58] := by unfold Asc; decide
section
variable {ws : List (List Nat)} {fu fa fs : List D → Out D} {k k' d : Nat} {s s' : D}
noncomputable abbrev UF (fu fa fs : List D → Out D) : List D → Out D := mnM 5 2 (b_Reader_unit fu fa fs)
theorem unit_deep (hd31 : 30 < d) : UF fu fa fs [RDd (Wn ws) (.int k), .int d] = .exc noText := by
  have c0 : ((30 : Int) < (d : Int)) = True := eq_true (by omega)
  generalize Wn ws = W at *
  unfold UF b_Reader_unit noText
  walk_at "gor"
theorem unit_not (h : WsOk ws) (hd30 : d ≤ 30) (w0 : hd ws k = kNot) (hu : fu [RDd (Wn ws) (.int ((k + 1 : Nat) : Int)), .int ((d + 1 : Nat) : Int)] = .ok (RT s (Wn ws) (.int k'))) (hn : m_never [s] = .ok s') :
    UF fu fa fs [RDd (Wn ws) (.int k), .int d] = .ok (RT s' (Wn ws) (.int k')) := by
  have t1 := taken_yes h w0
  have g1 := e_not
  have c0 : ((30 : Int) < (d : Int)) = False := eq_false (by omega)
  have e3 : ((d : Int) + 1) = ((d + 1 : Nat) : Int) := by omega
  generalize Wn ws = W at *
  clear h w0 hd30
  unfold UF b_Reader_unit
  walk_at "gor"
theorem unit_brk (h : WsOk ws) (hd30 : d ≤ 30) (w0 : hd ws k = [40]) (hs : fs [RDd (Wn ws) (.int ((k + 1 : Nat) : Int)), .int ((d + 1 : Nat) : Int)] = .ok (RT s (Wn ws) (.int k'))) (w1 : hd ws k' = [41]) :
    UF fu fa fs [RDd (Wn ws) (.int k), .int d] = .ok (RT s (Wn ws) (.int ((k' + 1 : Nat) : Int))) := by
  have t0 := taken_no h (k := k) asc_kw.2.2.2.2.1 (by rw [w0]; decide)
  have t1 := taken_yes h w0
  have t2 := must_yes h w1
  have g1 := e_not
  have g2 := e_op
  have g3 := e_cl
  have c0 : ((30 : Int) < (d : Int)) = False := eq_false (by omega)
  have e3 : ((d : Int) + 1) = ((d + 1 : Nat) : Int) := by omega
  generalize Wn ws = W at *
  clear h w0 hd30 w1
  unfold UF b_Reader_unit
  walk_at "gor"
theorem forL_rt {G : D → Env → Out Env} {b : Env → SO} {x : D} {xs : List D} {ρ ρ1 : Env} {r : D} (h : G x ρ = .ok ρ1) (e : b ρ1 = .rt r) : forL G b (x :: xs) ρ = .rt r := by
  unfold forL
  rw [h]
  show (b ρ1).turn _ = _
  rw [e]; rfl
theorem forL_nx {G : D → Env → Out Env} {b : Env → SO} {x : D} {xs : List D} {ρ ρ1 ρ2 : Env} (h : G x ρ = .ok ρ1) (e : b ρ1 = .nx ρ2) : forL G b (x :: xs) ρ = forL G b xs ρ2 := by
  conv => lhs; unfold forL
  rw [h]
  show (b ρ1).turn _ = _
  rw [e]; rfl
theorem quant_yes (h : WsOk ws) {kw x : List Nat} (w0 : hd ws k = kw) (w1 : hd ws (k + 1) = x) (nx : NmR x) (w2 : hd ws (k + 2) = [58]) (hs : fs [RDd (Wn ws) (.int ((k + 3 : Nat) : Int)), .int ((d + 1 : Nat) : Int)] = .ok (RT s (Wn ws) (.int k')))
    (hk : (kw = kSome ∧ m_some_of [.str (S x), s] = .ok s') ∨ (kw = kAll ∧ m_all_of [.str (S x), s] = .ok s')) {x2 x4 : Option D} :
    b_Reader_unit_1 fu fa fs [some (RDd (Wn ws) (.int k)), some (.int d), x2, some (.str (S kw)), x4] = .rt (RT s' (Wn ws) (.int k')) := by
  have t1 := taken_yes h w0
  have t2 := unknown_yes h w1 nx
  have t3 := must_yes h (k := k + 1 + 1) w2
  have g1 := e_some
  have g3 := e_co
  have e3 : ((d : Int) + 1) = ((d + 1 : Nat) : Int) := by omega
  have ak : Asc kw := by rcases hk with ⟨e, _⟩ | ⟨e, _⟩ <;> (rw [e]; unfold Asc; decide)
  have q1 : dEq (.str (S kw)) (.str (S kSome)) = .ok (.bl (decide (kw = kSome))) := dEq_Tx (okt_str (asc_okt ak)) (okt_str (asc_okt asc_kw.1))
  replace hs : fs [RDd (Wn ws) (.int ((k + 1 + 1 + 1 : Nat) : Int)), .int ((d + 1 : Nat) : Int)] = _ := hs
  rcases hk with ⟨e, ho⟩ | ⟨e, ho⟩
  · rw [decide_eq_true e] at q1
    generalize Wn ws = W at *
    clear h w0 w1 w2 nx ak e
    unfold b_Reader_unit_1
    walk_at "gor"
  · rw [decide_eq_false (by rw [e]; decide)] at q1
    generalize Wn ws = W at *
    clear h w0 w1 w2 nx ak e
    unfold b_Reader_unit_1
    walk_at "gor"
theorem quant_no (h : WsOk ws) {kw : List Nat} (ak : Asc kw) (w0 : hd ws k ≠ kw) {x2 x4 : Option D} :
    b_Reader_unit_1 fu fa fs [some (RDd (Wn ws) (.int k)), some (.int d), x2, some (.str (S kw)), x4] = .nx [some (RDd (Wn ws) (.int k)), some (.int d), x2, some (.str (S kw)), x4] := by
  have t1 := taken_no h ak w0
  generalize Wn ws = W at *
  clear h w0 ak
  unfold b_Reader_unit_1
  walk_at "gor"
theorem unit_q (h : WsOk ws) (hd30 : d ≤ 30) {kw x : List Nat} (w0 : hd ws k = kw) (w1 : hd ws (k + 1) = x) (nx : NmR x) (w2 : hd ws (k + 2) = [58]) (hs : fs [RDd (Wn ws) (.int ((k + 3 : Nat) : Int)), .int ((d + 1 : Nat) : Int)] = .ok (RT s (Wn ws) (.int k')))
    (hk : (kw = kSome ∧ m_some_of [.str (S x), s] = .ok s') ∨ (kw = kAll ∧ m_all_of [.str (S x), s] = .ok s')) :
    UF fu fa fs [RDd (Wn ws) (.int k), .int d] = .ok (RT s' (Wn ws) (.int k')) := by
  have nk : kw ≠ kNot ∧ kw ≠ [40] := by rcases hk with ⟨e, _⟩ | ⟨e, _⟩ <;> (rw [e]; decide)
  have t0 := taken_no h (k := k) asc_kw.2.2.2.2.1 (by rw [w0]; exact nk.1)
  have t1 := taken_no h (k := k) (w := [40]) (by unfold Asc; decide) (by rw [w0]; exact nk.2)
  have lp : forL (gN 3) (b_Reader_unit_1 fu fa fs) [.str (S kSome), .str (S kAll)] [some (RDd (Wn ws) (.int k)), some (.int d), none, none, none] = .rt (RT s' (Wn ws) (.int k')) := by
    by_cases c : kw = kSome
    · exact forL_rt rfl (c ▸ quant_yes h w0 w1 nx w2 hs hk)
    · have c2 : kw = kAll := by rcases hk with ⟨e, _⟩ | ⟨e, _⟩; exact absurd e c; exact e
      refine (forL_nx rfl (quant_no h asc_kw.1 (by rw [w0]; exact c))).trans (forL_rt rfl ?_)
      exact c2 ▸ quant_yes h w0 w1 nx w2 hs hk
  have g1 := e_not
  have g2 := e_op
  have g3 := e_some
  have g4 := e_all
  have f1 : mkTup [.str (S kSome), .str (S kAll)] = .ok (.tup [.str (S kSome), .str (S kAll)]) := chk_pos (by decide)
  have c0 : ((30 : Int) < (d : Int)) = False := eq_false (by omega)
  generalize Wn ws = W at *
  clear h w0 hd30 w1 w2 nx nk hk hs
  unfold UF b_Reader_unit
  walk_at "gor"
structure Plain (w : List Nat) : Prop where
  a : w ≠ kNot
  b : w ≠ [40]
  c : w ≠ kSome
  d : w ≠ kAll
theorem unit_rest (h : WsOk ws) (hd30 : d ≤ 30) (pl : Plain (hd ws k)) {o : Out D} {b1 b2 : Bool} {k1 k2 : Nat} (t2 : m_Reader_taken [RDd (Wn ws) (.int k), .str (S kYes)] = .ok (RT (.bl b1) (Wn ws) (.int k1)))
    (t3 : b1 = true ∨ (k1 = k ∧ m_Reader_taken [RDd (Wn ws) (.int k1), .str (S kNo)] = .ok (RT (.bl b2) (Wn ws) (.int k2)))) :
    UF fu fa fs [RDd (Wn ws) (.int k), .int d] = if b1 = true then .ok (RT (.tup [.str "yes"]) (Wn ws) (.int k1)) else if b2 = true then .ok (RT (.tup [.str "no"]) (Wn ws) (.int k2)) else ((m_Reader_compared [RDd (Wn ws) (.int k2)]).bind (unR 0 [some (RDd (Wn ws) (.int k2)), some (.int d), none, some (.str (S kAll)), none])).bind fun p => (retM p).resM := by
  have t0 := taken_no h (k := k) asc_kw.2.2.2.2.1 pl.a
  have t1 := taken_no h (k := k) (w := [40]) (by unfold Asc; decide) pl.b
  have lp : forL (gN 3) (b_Reader_unit_1 fu fa fs) [.str (S kSome), .str (S kAll)] [some (RDd (Wn ws) (.int k)), some (.int d), none, none, none] = .nx [some (RDd (Wn ws) (.int k)), some (.int d), none, some (.str (S kAll)), none] :=
    (forL_nx rfl (quant_no h asc_kw.1 pl.c)).trans (forL_nx rfl (quant_no h asc_kw.2.1 pl.d))
  have g1 := e_not
  have g2 := e_op
  have g3 := e_some
  have g4 := e_all
  have g5 := e_yes
  have g6 := e_no
  have f1 : mkTup [.str (S kSome), .str (S kAll)] = .ok (.tup [.str (S kSome), .str (S kAll)]) := chk_pos (by decide)
  have c0 : ((30 : Int) < (d : Int)) = False := eq_false (by omega)
  generalize Wn ws = W at *
  clear h hd30 pl
  cases b1 with
  | true =>
    clear t3
    unfold UF b_Reader_unit
    walk_at "gor"
  | false =>
    rcases t3 with e | ⟨rfl, t3⟩
    · cases e
    cases b2 with
    | true =>
      unfold UF b_Reader_unit
      walk_at "gor"
    | false =>
      cases hc : m_Reader_compared [RDd W (.int k2)] with
      | ok r =>
        cases hu : unR 0 [some (RDd W (.int k2)), some (.int d), none, some (.str (S kAll)), none] r with
        | ok p =>
          unfold UF b_Reader_unit
          walk_at "gor"
          try rfl
        | exc x =>
          unfold UF b_Reader_unit
          walk_at "gor"
          try rfl
        | stuck =>
          unfold UF b_Reader_unit
          walk_at "gor"
          try rfl
      | exc x =>
        unfold UF b_Reader_unit
        walk_at "gor"
        try rfl
      | stuck =>
        unfold UF b_Reader_unit
        walk_at "gor"
        try rfl
end
inductive Tl (P : Nat → D → Nat → Prop) (ws : List (List Nat)) (sep : List Nat) : Nat → List D → Nat → Prop
  | nil {e : Nat} : hd ws e ≠ sep → Tl P ws sep e [] e
  | cons {e e1 e' : Nat} {s : D} {ss : List D} : hd ws e = sep → P (e + 1) s e1 → Tl P ws sep e1 ss e' → Tl P ws sep e (s :: ss) e'
section
variable {ws : List (List Nat)} {fu fa fs : List D → Out D} {k e e' d : Nat} {s s' : D} {ss : List D}
abbrev RP (ws : List (List Nat)) (F : List D → Out D) (d : Nat) : Nat → D → Nat → Prop := fun k s e => F [RDd (Wn ws) (.int k), .int d] = .ok (RT s (Wn ws) (.int e))
noncomputable abbrev AF (fu fa fs : List D → Out D) : List D → Out D := mnM 3 2 (b_Reader_ands fu fa fs)
noncomputable abbrev SF (fu fa fs : List D → Out D) : List D → Out D := mnM 3 2 (b_Reader_sentence fu fa fs)
theorem ands_loop (h : WsOk ws) : ∀ {e : Nat} {ss : List D} {e' : Nat}, Tl (RP ws fu d) ws kAnd e ss e' → ∀ rows : List D, rows.length + ss.length ≤ 10000 →
    sWhileE (qOf (uMk "Reader" "taken" m_Reader_taken 0 (aC (eC (.str "and")) aN))) (b_Reader_ands_1 fu fa fs) [some (RDd (Wn ws) (.int e)), some (.int d), some (.lst rows)]
      = .nx [some (RDd (Wn ws) (.int e')), some (.int d), some (.lst (rows ++ ss))] := by
  intro e ss e' t
  have g1 := e_and
  induction t with
  | @nil e hn =>
    intro rows hl
    have t1 := taken_no h asc_kw.2.2.1 hn
    rw [List.append_nil]
    refine sWhileE_false ?_
    generalize Wn ws = W at *
    clear h hn
    walk_at "gor"
  | @cons e e1 e' s ss hw hp ht ih =>
    intro rows hl
    have t1 := taken_yes h hw
    have ih := ih (rows ++ [s]) (by rw [List.length_append]; simp only [List.length_cons, List.length_nil] at hl ⊢; omega)
    rw [List.append_assoc, List.singleton_append] at ih
    have sz : rows.length < sizeLine := len_lt (by simp only [List.length_cons] at hl; omega)
    have hp' : fu [RDd (Wn ws) (.int ((e + 1 : Nat) : Int)), .int d] = .ok (RT s (Wn ws) (.int e1)) := hp
    generalize hW : Wn ws = W at *
    refine sWhileE_step (ρ1 := [some (RDd W (.int ((e + 1 : Nat) : Int))), some (.int d), some (.lst rows)]) ?_ ?_ ih
    · clear h hw hp ht ih hl
      walk_at "gor"
    · clear h hw hp ht ih hl
      unfold b_Reader_ands_1
      walk_at "gor"
      try rfl
theorem sents_loop (h : WsOk ws) : ∀ {e : Nat} {ss : List D} {e' : Nat}, Tl (RP ws fa d) ws kOr e ss e' → ∀ rows : List D, rows.length + ss.length ≤ 10000 →
    sWhileE (qOf (uMk "Reader" "taken" m_Reader_taken 0 (aC (eC (.str "or")) aN))) (b_Reader_sentence_1 fu fa fs) [some (RDd (Wn ws) (.int e)), some (.int d), some (.lst rows)]
      = .nx [some (RDd (Wn ws) (.int e')), some (.int d), some (.lst (rows ++ ss))] := by
  intro e ss e' t
  have g1 := e_or
  induction t with
  | @nil e hn =>
    intro rows hl
    have t1 := taken_no h asc_kw.2.2.2.1 hn
    rw [List.append_nil]
    refine sWhileE_false ?_
    generalize Wn ws = W at *
    clear h hn
    walk_at "gor"
  | @cons e e1 e' s ss hw hp ht ih =>
    intro rows hl
    have t1 := taken_yes h hw
    have ih := ih (rows ++ [s]) (by rw [List.length_append]; simp only [List.length_cons, List.length_nil] at hl ⊢; omega)
    rw [List.append_assoc, List.singleton_append] at ih
    have sz : rows.length < sizeLine := len_lt (by simp only [List.length_cons] at hl; omega)
    have hp' : fa [RDd (Wn ws) (.int ((e + 1 : Nat) : Int)), .int d] = .ok (RT s (Wn ws) (.int e1)) := hp
    generalize hW : Wn ws = W at *
    refine sWhileE_step (ρ1 := [some (RDd W (.int ((e + 1 : Nat) : Int))), some (.int d), some (.lst rows)]) ?_ ?_ ih
    · clear h hw hp ht ih hl
      walk_at "gor"
    · clear h hw hp ht ih hl
      unfold b_Reader_sentence_1
      walk_at "gor"
      try rfl
theorem ands_eq (h : WsOk ws) (h0 : RP ws fu d k s e) (ht : Tl (RP ws fu d) ws kAnd e ss e') (hl : ss.length ≤ 9000) (hb : m_both [.lst (s :: ss)] = .ok s') : RP ws (AF fu fa fs) d k s' e' := by
  have lp := ands_loop (fa := fa) (fs := fs) h ht [s] (by simp only [List.length_cons, List.length_nil]; omega)
  rw [List.singleton_append] at lp
  have f1 : mkLst [s] = .ok (.lst [s]) := chk_pos (by show 1 ≤ sizeLine; decide)
  have h0' : fu [RDd (Wn ws) (.int k), .int d] = .ok (RT s (Wn ws) (.int e)) := h0
  show AF fu fa fs [RDd (Wn ws) (.int k), .int d] = .ok (RT s' (Wn ws) (.int e'))
  generalize Wn ws = W at *
  clear h h0 ht hl
  unfold AF b_Reader_ands
  walk_at "gor"
theorem sents_eq (h : WsOk ws) (h0 : RP ws fa d k s e) (ht : Tl (RP ws fa d) ws kOr e ss e') (hl : ss.length ≤ 9000) (hb : m_either [.lst (s :: ss)] = .ok s') : RP ws (SF fu fa fs) d k s' e' := by
  have lp := sents_loop (fu := fu) (fs := fs) h ht [s] (by simp only [List.length_cons, List.length_nil]; omega)
  rw [List.singleton_append] at lp
  have f1 : mkLst [s] = .ok (.lst [s]) := chk_pos (by show 1 ≤ sizeLine; decide)
  have h0' : fa [RDd (Wn ws) (.int k), .int d] = .ok (RT s (Wn ws) (.int e)) := h0
  show SF fu fa fs [RDd (Wn ws) (.int k), .int d] = .ok (RT s' (Wn ws) (.int e'))
  generalize Wn ws = W at *
  clear h h0 ht hl
  unfold SF b_Reader_sentence
  walk_at "gor"
end
theorem make_reader (W : List D) : makD "Reader" m_Reader___init__ [.lst W] = .ok (RDd W (.int 0)) := by
  unfold makD m_Reader___init__
  rw [mnM_ap]
  show Out.bind (SO.resM (b_Reader___init__ [some (.ins "Reader" []), some (.lst W)])) _ = _
  have e1 : sFld clR flR 0 "words" (eV 1) [some (.ins "Reader" []), some (.lst W)] = .nx [some (.ins "Reader" [("words", .lst W)]), some (.lst W)] := chkS_pos ⟨⟨by decide, by decide⟩, by show 0 < 1000; decide⟩
  have e2' : sFld clR flR 0 "at" (eC (.int 0)) [some (.ins "Reader" [("words", .lst W)]), some (.lst W)] = .nx [some (RDd W (.int 0)), some (.lst W)] := chkS_pos ⟨⟨by decide, by decide⟩, by show 1 < 1000; decide⟩
  have e3 : b_Reader___init__ [some (.ins "Reader" []), some (.lst W)] = .nx [some (RDd W (.int 0)), some (.lst W)] := by
    show (sFld clR flR 0 "words" (eV 1) [some (.ins "Reader" []), some (.lst W)]).andThen _ = _
    rw [e1]
    exact e2'
  rw [e3]
  rfl
theorem tk_words {l : List Nat} {ws : List (List Nat)} (h : Tk l ws) (ha : Asc l) (hl : l.length ≤ 100000) : WsOk ws ∧ ws.length ≤ l.length := by
  have key : ∀ {l : List Nat} {ws : List (List Nat)}, Tk l ws → Asc l → (∀ w ∈ ws, Asc w ∧ w ≠ [] ∧ w.length ≤ 30) ∧ ws.length ≤ l.length := by
    intro l ws h
    induction h with
    | nil => intro _; exact ⟨fun w hw => absurd hw List.not_mem_nil, Nat.le_refl _⟩
    | sp h ih =>
      intro ha
      have := ih fun c hc => ha c (List.mem_cons_of_mem _ hc)
      exact ⟨this.1, by rw [List.length_cons]; omega⟩
    | @wd l w ws hw h ih =>
      intro ha
      obtain ⟨nw, tw, _⟩ := wordAt_ok hw
      have := ih (drop_asc ha _)
      have wl : 1 ≤ w.length := by cases w with | nil => exact absurd rfl nw | cons _ _ => simp
      have wll : w.length ≤ l.length := by
        have := congrArg List.length tw
        rw [List.length_take] at this
        omega
      have w30 : w.length ≤ 30 := by
        unfold wordAt at hw
        split at hw
        · cases hw
        · split at hw
          · cases hw; omega
          · split at hw
            · cases hw
            · split at hw
              · cases hw; omega
              · unfold sgAt at hw
                have := (sgs_asc w (List.mem_of_find?_eq_some hw)).2
                omega
      refine ⟨fun x hx => ?_, ?_⟩
      · rcases List.mem_cons.mp hx with rfl | hx
        · exact ⟨fun c hc => ha c (List.mem_of_mem_take (tw.symm ▸ hc)), nw, w30⟩
        · exact this.1 x hx
      · have := this.2
        rw [List.length_drop] at this
        rw [List.length_cons]; omega
  obtain ⟨a, b⟩ := key h ha
  exact ⟨⟨fun w hw => (a w hw).1, fun w hw => (a w hw).2.1, fun w hw => (a w hw).2.2, by omega⟩, b⟩
theorem readR_eq {l : List Nat} {ws : List (List Nat)} (h : Tk l ws) (ha : Asc l) (hl : l.length ≤ 100000) {s : D} (hr : RP ws m_Reader_sentence 0 0 s ws.length) : m_read [.str (S l)] = .ok s := by
  have f1 := words_of_eq h ha hl
  have f2 := make_reader (Wn ws)
  obtain ⟨wo, wl⟩ := tk_words h ha hl
  have f3 := here_eq wo.len ws.length
  rw [hd_out (Nat.le_refl _)] at f3
  have f4 : dNe (.str (S [])) (.str (S [])) = .ok (.bl false) := by rw [dNe_Tx (okt_str okt_nil) (okt_str okt_nil)]; rfl
  have g0 : Str.ofString "" = S [] := rfl
  have f5 : m_Reader_sentence [RDd (Wn ws) (.int 0), .int 0] = .ok (RT s (Wn ws) (.int (ws.length : Nat))) := hr
  replace f1 : m_words_of [.str (S l)] = .ok (.lst (Wn ws)) := f1
  generalize Wn ws = W at *
  clear h ha hl hr wo wl
  unfold m_read b_read
  walk_at "gor"
def Hn (p : Nat → Bool) (l : List Nat) : Prop := ∀ c, l.head? = some c → p c = false
theorem tw_app {p : Nat → Bool} : ∀ {w rest : List Nat}, (∀ c ∈ w, p c = true) → Hn p rest → (w ++ rest).takeWhile p = w
  | [], rest, _, h => by
    cases rest with
    | nil => rfl
    | cons c r => rw [List.nil_append, List.takeWhile_cons, h c rfl]; rfl
  | c :: w, rest, hw, h => by
    rw [List.cons_append, List.takeWhile_cons, hw c List.mem_cons_self]
    simp only [if_true]
    rw [tw_app (fun d hd => hw d (List.mem_cons_of_mem _ hd)) h]
theorem drop_app (w rest : List Nat) : (w ++ rest).drop w.length = rest := by simp
structure Nm8 (w : List Nat) : Prop where
  r : NmR w
  len : w.length ≤ 8
theorem Nm8.nm {w : List Nat} (h : Nm8 w) : Nm w := ⟨by have := h.r.ne; cases w with | nil => exact absurd rfl this | cons _ _ => simp, by have := h.len; omega, h.r.let_⟩
theorem tk_letters {w rest : List Nat} {ws : List (List Nat)} (ne : w ≠ []) (hl : ∀ c ∈ w, 97 ≤ c ∧ c ≤ 122) (h8 : w.length ≤ 8) (hr : Hn isLt rest) (h : Tk rest ws) : Tk (w ++ rest) (w :: ws) := by
  have e : (w ++ rest).takeWhile isLt = w := tw_app (fun c hc => decide_eq_true (hl c hc)) hr
  refine .wd ?_ (by rw [drop_app]; exact h)
  unfold wordAt
  rw [e, if_neg (by omega), if_pos ne]
theorem tk_figs {w rest : List Nat} {ws : List (List Nat)} (hw : Fg w) (h30 : w.length ≤ 30) (hr : Hn isFg rest) (h : Tk rest ws) : Tk (w ++ rest) (w :: ws) := by
  have e : (w ++ rest).takeWhile isFg = w := tw_app (fun c hc => decide_eq_true (hw.dig c hc)) hr
  have e0 : (w ++ rest).takeWhile isLt = [] := by
    cases w with
    | nil => exact absurd rfl hw.ne
    | cons c w =>
      have := hw.dig c List.mem_cons_self
      rw [List.cons_append, List.takeWhile_cons, show isLt c = false from decide_eq_false (by omega)]
      rfl
  refine .wd ?_ (by rw [drop_app]; exact h)
  unfold wordAt
  rw [e0, e, if_neg (by simp), if_neg (by simp), if_neg (by omega), if_pos hw.ne]
theorem tk_sign {s rest : List Nat} {ws : List (List Nat)} (hs : s ∈ sgs) (hr : Hn (fun c => decide (c = 61)) rest) (h : Tk rest ws) : Tk (s ++ rest) (s :: ws) := by
  have nz : ∀ s ∈ sgs, ∃ c r, s = c :: r ∧ isLt c = false ∧ isFg c = false := by
    intro s hs
    simp only [sgs, List.mem_cons, List.not_mem_nil, or_false] at hs
    rcases hs with rfl | rfl | rfl | rfl | rfl | rfl | rfl | rfl | rfl | rfl | rfl | rfl | rfl | rfl <;> exact ⟨_, _, rfl, rfl, rfl⟩
  obtain ⟨c, r, e, a1, a2⟩ := nz s hs
  have e0 : (s ++ rest).takeWhile isLt = [] := by rw [e, List.cons_append, List.takeWhile_cons, a1]; rfl
  have e1 : (s ++ rest).takeWhile isFg = [] := by rw [e, List.cons_append, List.takeWhile_cons, a2]; rfl
  have key : sgAt (s ++ rest) = some s := by
    clear e0 e1 e a1 a2 nz
    unfold sgAt
    simp only [sgs, List.mem_cons, List.not_mem_nil, or_false] at hs
    cases rest with
    | nil => rcases hs with rfl | rfl | rfl | rfl | rfl | rfl | rfl | rfl | rfl | rfl | rfl | rfl | rfl | rfl <;> decide
    | cons d rest =>
      have nd : d ≠ 61 := of_decide_eq_false (hr d rfl)
      rcases hs with rfl | rfl | rfl | rfl | rfl | rfl | rfl | rfl | rfl | rfl | rfl | rfl | rfl | rfl <;> simp [sgs, nd]
  refine .wd ?_ (by rw [drop_app]; exact h)
  unfold wordAt
  rw [e0, e1, if_neg (by simp), if_neg (by simp), if_neg (by simp), if_neg (by simp), key]
structure TmR (q : Tm) : Prop where
  nm : ∀ p ∈ q.1, Nm8 p.1 ∧ 1 ≤ p.2 ∧ p.2 ≤ 9
  nz : q.2 ≠ 0
  sz : q.2.natAbs < 10 ^ 30
  few : q.1.length ≤ 400
theorem it_fg {k : Int} (h : 0 ≤ k) : Fg (it k) := by
  refine ⟨it_ne k, ?_⟩
  obtain ⟨n, rfl⟩ := Int.eq_ofNat_of_zero_le h
  show ∀ c ∈ (Str.ofString (toString (n : Int))).cps.toList, _
  intro c hc
  rw [PySem.W.KIN.signs_num] at hc
  obtain ⟨ch, hch, e⟩ := List.mem_map.mp hc
  have r := PyProof.Rows.digit_range (Nat.isDigit_of_mem_toDigits (by decide) (by decide) hch)
  rw [← e]
  exact r
theorem it_30 {k : Int} (h0 : 0 ≤ k) (h : k.natAbs < 10 ^ 30) : (it k).length ≤ 30 := by
  rw [it_pos h0]
  unfold L
  rw [Str.ofString_eq_toList]
  simp only [List.length_map]
  rw [show (toString k.toNat).toList = Nat.toDigits 10 k.toNat from Nat.toList_repr]
  exact (Nat.length_toDigits_le_iff (by decide) (by decide)).mpr (by have : k.toNat = k.natAbs := by omega
                                                                     rw [this]; exact h)
def Stp (l : List Nat) : Prop := Hn isLt l ∧ Hn isFg l
theorem stp_cons {c : Nat} {l : List Nat} (h : isLt c = false ∧ isFg c = false) : Stp (c :: l) := ⟨fun d e => by cases e; exact h.1, fun d e => by cases e; exact h.2⟩
theorem tot_idM : ∀ (ps l : Mn), ((l ++ ps).map (·.1)).Nodup → tot l ps = l ++ ps
  | [], l, _ => by simp [tot]
  | q :: ps, l, h => by
    have nq : q.1 ∉ l.map (·.1) := fun z => by
      rw [List.map_append, List.nodup_append] at h
      exact h.2.2 _ z _ (by rw [List.map_cons]; exact List.mem_cons_self) rfl
    show tot (put l q.1 ((fnd l q.1).getD 0 + q.2)) ps = _
    rw [put_new nq, fnd_none.mpr nq, Option.getD_none, Int.zero_add, tot_idM ps _ (by simpa using h)]
    simp
theorem mulM_snoc {most : Int} {m : Mn} {p : Pr} (h : Mono most (m ++ [p])) (h0 : 0 ≤ most) : mulM m [p] = m ++ [p] := by
  have h1 : Mono most m := ⟨fun q hq => h.nm q (List.mem_append_left _ hq), (List.pairwise_append.mp h.up).1, by have := h.few; rw [List.length_append] at this; omega⟩
  have h2 : Mono most [p] := ⟨fun q hq => h.nm q (List.mem_append_right _ hq), List.pairwise_singleton _ _, by simp⟩
  have hl : m.length + [p].length ≤ 1000 := by have := h.few; rwa [List.length_append] at this
  obtain ⟨mm, _⟩ := mono_mul h1 h2 h0 h0 hl
  have pm : (mulM m [p]).Perm (tot [] (m ++ [p])) := List.mergeSort_perm _ _
  rw [tot_idM (m ++ [p]) [] (by simpa using up_nodup h.up), List.nil_append] at pm
  exact eq_of_up (R := fun p q : Pr => p.1 < q.1) prU_as mm.up h.up fun q => pm.mem_iff
theorem eSn_put (b : Bool) (k : List Sn) : eSn (putS b k) = .tup [.str (wordB b), .tup (k.map eSn)] := by
  cases b
  · show eSn (.either _) = _; rw [eSn, eSns_map]; rfl
  · show eSn (.both _) = _; rw [eSn, eSns_map]; rfl
theorem foldS_rule {b : Bool} {l : List Sn} (m : ruleS b ∈ l) : foldS b l = ruleS b := by unfold foldS; rw [if_pos m]
theorem fold_tail {b : Bool} {l : List Sn} (m : ruleS b ∉ l) (hl : l.length ≤ 10000) (x1 x2 x5 : Option D) (hx : x2 = some (eSn (goneS b))) : (sSeq (sIf (tOf (PD.e2 dEq (eA cLen (aC (eV 4) aN)) (eC (.int 0))))
 (sRet (eV 2))
 sNx)
 (sSeq (sIf (tOf (PD.e2 dEq (eA cLen (aC (eV 4) aN)) (eC (.int 1))))
 (sRet (PD.e2 dIx (eV 4) (eC (.int 0))))
 sNx)
 (sRet (eA mkTup (aC (eV 0) (aC (eA cTuple (aC (eV 4) aN)) aN))))) [some (.str (wordB b)), x1, x2, some (eSn (ruleS b)), some (.lst ((keptS (goneS b) l).map eSn)), x5]) = .rt (eSn (foldS b l)) := by
  subst hx
  have lk : ((keptS (goneS b) l).map eSn).length ≤ sizeLine := len_ok (by rw [List.length_map]; have := kept_len (gone := goneS b) l []; rw [List.length_nil] at this; unfold keptS; omega)
  have hc : ∀ k : List Sn, cLen [.lst (k.map eSn)] = .ok (.int (k.length : Nat)) := fun k => by
    show Out.ok (D.int ((k.map eSn).length : Nat)) = _
    rw [List.length_map]
  have hk := hc (keptS (goneS b) l)
  rcases foldS_cases b l with ⟨_, m'⟩ | ⟨_, ⟨e, k⟩ | ⟨p, e, k⟩ | ⟨e, k⟩⟩
  · exact absurd m' m
  · rw [e]
    rw [k] at hk ⊢
    clear lk hc e k m
    walk_at "gos"
    rfl
  · rw [e]
    rw [k] at hk ⊢
    clear lk hc e k m
    walk_at "gos"
    rfl
  · rw [e]
    have n0 : ¬ ((keptS (goneS b) l).length : Int) = 0 := by omega
    have n1 : ¬ ((keptS (goneS b) l).length : Int) = 1 := by omega
    rw [eSn_put]
    clear hc e k m
    generalize (keptS (goneS b) l).length = N at *
    generalize (keptS (goneS b) l).map eSn = K at *
    walk_at "gos"
theorem foldb_1 : b_folded_1 = b__law_folded_1 := rfl
def Seq2 (P : D) (l : List Sn) : Prop := P = .lst (l.map eSn) ∨ P = .tup (l.map eSn)
theorem folded_eq (b : Bool) {P : D} {l : List Sn} (hP : Seq2 P l) (h : ∀ s ∈ l, NmS s ∧ s.depth ≤ 28) (hl : l.length ≤ 10000) : m_folded [.str (wordB b), P, eSn (goneS b), eSn (ruleS b)] = .ok (eSn (foldS b l)) := by
  have lo := lawfold_loop (b := b) (x0 := some (.str (wordB b))) (x1 := some P) l [] none h (fun s hs => (List.not_mem_nil hs).elim) (by rw [List.length_nil]; omega)
  rw [← foldb_1] at lo
  rcases lo with ⟨m, e⟩ | ⟨m, x5, e⟩
  · rw [foldS_rule m]
    replace e : forL (gN 5) b_folded_1 (l.map eSn) [some (.str (wordB b)), some P, some (eSn (goneS b)), some (eSn (ruleS b)), some (.lst []), none] = _ := e
    clear m h
    unfold m_folded b_folded
    rcases hP with rfl | rfl <;> (generalize l.map eSn = M at *; walk_at "gos")
  · have f := fold_tail m hl (some P) (some (eSn (goneS b))) x5 rfl
    replace e : forL (gN 5) b_folded_1 (l.map eSn) [some (.str (wordB b)), some P, some (eSn (goneS b)), some (eSn (ruleS b)), some (.lst []), none] = .nx [some (.str (wordB b)), some P, some (eSn (goneS b)), some (eSn (ruleS b)), some (.lst ((keptS (goneS b) l).map eSn)), x5] := e
    clear m h
    unfold m_folded b_folded
    generalize (keptS (goneS b) l).map eSn = K at *
    generalize eSn (foldS b l) = F at *
    have fin : ∀ R : SO, R = .nx [some (.str (wordB b)), some P, some (eSn (goneS b)), some (eSn (ruleS b)), some (.lst K), x5] → (R.andThen (sSeq (sIf (tOf (PD.e2 dEq (eA cLen (aC (eV 4) aN)) (eC (.int 0))))
 (sRet (eV 2))
 sNx)
 (sSeq (sIf (tOf (PD.e2 dEq (eA cLen (aC (eV 4) aN)) (eC (.int 1))))
 (sRet (PD.e2 dIx (eV 4) (eC (.int 0))))
 sNx)
 (sRet (eA mkTup (aC (eV 0) (aC (eA cTuple (aC (eV 4) aN)) aN))))))).res = .ok F := by
      intro R hR
      rw [hR]
      exact congrArg SO.res f
    have fin' := fin _ e
    clear fin e f
    rcases hP with rfl | rfl <;> (generalize l.map eSn = M at *; walk_at "gos")
theorem both_eq {P : D} {l : List Sn} (hP : Seq2 P l) (h : ∀ s ∈ l, NmS s ∧ s.depth ≤ 28) (hl : l.length ≤ 10000) : m_both [P] = .ok (eSn (foldS true l)) := by
  have e := folded_eq true hP h hl
  replace e : m_folded [.str "both", P, eSn .yes, eSn .no] = _ := e
  rw [← sn_yes, ← sn_no] at e
  unfold m_both b_both
  walk_at "gos"
theorem either_eq {P : D} {l : List Sn} (hP : Seq2 P l) (h : ∀ s ∈ l, NmS s ∧ s.depth ≤ 28) (hl : l.length ≤ 10000) : m_either [P] = .ok (eSn (foldS false l)) := by
  have e := folded_eq false hP h hl
  replace e : m_folded [.str "either", P, eSn .no, eSn .yes] = _ := e
  rw [← sn_yes, ← sn_no] at e
  unfold m_either b_either
  walk_at "gos"
structure FF (xs : List (List Nat)) (b n : Nat) (f : List Tm) : Prop where
  form : Form 100 f
  nin : ∀ q ∈ f, ∀ p ∈ q.1, p.1 ∈ xs
  few : ∀ q ∈ f, q.1.length ≤ 3
  sz : ∀ q ∈ f, Sz b q.2
  len : f.length ≤ n
theorem Form.up2 {a b : Int} {f : List Tm} (h : Form a f) (l : a ≤ b) : Form b f := ⟨fun q hq => ⟨fun p hp => ⟨((h.mono q hq).nm p hp).1, ((h.mono q hq).nm p hp).2.1, Int.le_trans ((h.mono q hq).nm p hp).2.2 l⟩, (h.mono q hq).up, (h.mono q hq).few⟩, h.nz, h.up⟩
theorem FF.fg {xs : List (List Nat)} {b n : Nat} {f : List Tm} (h : FF xs b n f) (hn : n ≤ 400) : FG b f :=
  ⟨h.form.up2 (by decide), fun q hq => Nat.le_trans (h.few q hq) (by decide), h.sz, Nat.le_trans h.len hn⟩
theorem Ok.snoc {xs : List (List Nat)} {most : Int} {k b : Nat} {f : List Tm} (h : Ok xs most k b f) {m : Mn} {z : Int} (hm : Mono most m) (hn : ∀ p ∈ m, p.1 ∈ xs) (hk : m.length ≤ k) (hz : Sz b z) : Ok xs most k b (f ++ [(m, z)]) := by
  refine h.app ⟨fun q hq => ?_, fun q hq => ?_, fun q hq => ?_, fun q hq => ?_⟩ <;> (rw [List.mem_singleton.mp hq]; assumption)
def wrapS (k : Nat) (x : List Nat) (s : Sn) : Sn :=
  match s with
  | .yes => if k = 0 then .no else .yes
  | .no => if k = 0 then .yes else .no
  | s => if k = 0 then .neg s else if k = 1 then .some x s else .all x s
theorem wrapS_other {k : Nat} {x : List Nat} {s : Sn} (h1 : s ≠ .yes) (h2 : s ≠ .no) : wrapS k x s = if k = 0 then .neg s else if k = 1 then .some x s else .all x s := by
  unfold wrapS
  cases s <;> first | rfl | exact absurd rfl h1 | exact absurd rfl h2
theorem eSn_neg (s : Sn) : eSn (.neg s) = .tup [.str "not", eSn s] := by rw [eSn]
theorem eSn_some (x : List Nat) (s : Sn) : eSn (.some x s) = .tup [.str "some", encN x, eSn s] := by rw [eSn]
theorem eSn_all (x : List Nat) (s : Sn) : eSn (.all x s) = .tup [.str "all", encN x, eSn s] := by rw [eSn]
mutual
def Sn.slim : Sn → Bool
  | .both l => decide (l.length ≤ 100) && Sn.slims l
  | .either l => decide (l.length ≤ 100) && Sn.slims l
  | .neg s => s.slim
  | .some _ s => s.slim
  | .all _ s => s.slim
  | _ => true
def Sn.slims : List Sn → Bool
  | [] => true
  | s :: l => s.slim && Sn.slims l
end
mutual
def Sn.can : Sn → Prop
  | .yes => True
  | .no => True
  | .cmp _ f => cst f = false ∧ leanF f = f
  | .both l => foldS true l = .both l ∧ Sn.cans l
  | .either l => foldS false l = .either l ∧ Sn.cans l
  | .neg s => (s ≠ .yes ∧ s ≠ .no) ∧ s.can
  | .some _ s => (s ≠ .yes ∧ s ≠ .no) ∧ s.can
  | .all _ s => (s ≠ .yes ∧ s ≠ .no) ∧ s.can
def Sn.cans : List Sn → Prop
  | [] => True
  | s :: l => s.can ∧ Sn.cans l
end
structure PS (xs : List (List Nat)) (b n d m : Nat) (s : Sn) : Prop where
  ff : ∀ c ∈ s.cmps, FF xs b n c.2
  bnd : ∀ x ∈ s.bnd, x ∈ xs
  dep : s.depth ≤ d
  few : s.cmps.length ≤ m
  can : s.can
  slim : s.slim = true
theorem PS.mono {xs : List (List Nat)} {b n d m d' m' : Nat} {s : Sn} (h : PS xs b n d m s) (hd : d ≤ d') (hm : m ≤ m') : PS xs b n d' m' s :=
  ⟨h.ff, h.bnd, Nat.le_trans h.dep hd, Nat.le_trans h.few hm, h.can, h.slim⟩
structure CmR (f : List Tm) : Prop where
  form : Form 9 f
  tm : ∀ q ∈ f, TmR q
  few : ∀ q ∈ f, q.1.length ≤ 20
  len : f.length ≤ 400
  lean : leanF f = f
  cst : cst f = false
theorem CmR.ne {f : List Tm} (h : CmR f) : f ≠ [] := by rintro rfl; have := h.cst; cases this
theorem sz_29 {k : Int} (h : k.natAbs < 10 ^ 30) : Sz 100 k := by
  unfold Sz
  exact Nat.lt_of_lt_of_le h (by decide)
theorem CmR.fg {f : List Tm} (h : CmR f) : FG 100 f := ⟨h.form.up2 (by decide), h.few, fun q hq => sz_29 (h.tm q hq).sz, h.len⟩
theorem share_ones : ∀ (vs : List Tv), (∀ v ∈ vs, v.2.2 = 1) → shareF 1 vs = 1
  | [], _ => rfl
  | v :: vs, h => by
    show shareF (1 * (v.2.2 / ((Int.gcd v.2.2 1 : Nat) : Int))) vs = 1
    rw [h v List.mem_cons_self]
    exact share_ones vs fun w hw => h w (List.mem_cons_of_mem _ hw)
open Classical in
theorem neverR_eq (x : List Nat) {s : Sn} (hs : NmS s) (hd : s.depth ≤ 28) : m_never [eSn s] = .ok (eSn (wrapS 0 x s)) := by
  have e1 := dEq_S hs NmS.yes (by omega) (by decide)
  have e2 := dEq_S hs NmS.no (by omega) (by decide)
  rw [← sn_yes] at e1
  rw [← sn_no] at e2
  by_cases c1 : s = .yes
  · rw [show decide (s = .yes) = true from decide_eq_true c1] at e1
    rw [c1, ← sn_yes] at e1
    rw [c1, show wrapS 0 x .yes = .no from rfl, ← sn_yes, ← sn_no]
    clear e2 c1 hs hd
    unfold m_never b_never; walk_at "gos"
  · rw [show decide (s = .yes) = false from decide_eq_false c1] at e1
    by_cases c2 : s = .no
    · rw [show decide (s = .no) = true from decide_eq_true c2] at e2
      rw [c2, ← sn_no] at e1 e2
      rw [c2, show wrapS 0 x .no = .yes from rfl, ← sn_yes, ← sn_no]
      clear c1 c2 hs hd
      unfold m_never b_never; walk_at "gos"
    · rw [show decide (s = .no) = false from decide_eq_false c2] at e2
      rw [wrapS_other c1 c2, if_pos rfl, eSn_neg]
      clear c1 c2 hs hd
      generalize eSn s = X at *
      unfold m_never b_never; walk_at "gos"
open Classical in
theorem someR_eq {x : List Nat} {s : Sn} (hs : NmS s) (hd : s.depth ≤ 28) : m_some_of [encN x, eSn s] = .ok (eSn (wrapS 1 x s)) := by
  have e1 := dEq_S hs NmS.yes (by omega) (by decide)
  have e2 := dEq_S hs NmS.no (by omega) (by decide)
  rw [← sn_yes] at e1
  rw [← sn_no] at e2
  by_cases c1 : s = .yes
  · rw [show decide (s = .yes) = true from decide_eq_true c1] at e1
    rw [c1, ← sn_yes] at e1
    rw [c1, show wrapS 1 x .yes = .yes from rfl, ← sn_yes]
    clear e2 c1 hs hd
    unfold m_some_of b_some_of; walk_at "gos"
  · rw [show decide (s = .yes) = false from decide_eq_false c1] at e1
    by_cases c2 : s = .no
    · rw [show decide (s = .no) = true from decide_eq_true c2] at e2
      rw [c2, ← sn_no] at e1 e2
      rw [c2, show wrapS 1 x .no = .no from rfl, ← sn_no]
      clear c1 c2 hs hd
      unfold m_some_of b_some_of; walk_at "gos"
    · rw [show decide (s = .no) = false from decide_eq_false c2] at e2
      rw [wrapS_other c1 c2, if_neg (by decide), if_pos rfl, eSn_some]
      clear c1 c2 hs hd
      generalize eSn s = X at *
      generalize encN x = N at *
      unfold m_some_of b_some_of; walk_at "gos"
open Classical in
theorem allR_eq {x : List Nat} {s : Sn} (hs : NmS s) (hd : s.depth ≤ 28) : m_all_of [encN x, eSn s] = .ok (eSn (wrapS 2 x s)) := by
  have e1 := dEq_S hs NmS.yes (by omega) (by decide)
  have e2 := dEq_S hs NmS.no (by omega) (by decide)
  rw [← sn_yes] at e1
  rw [← sn_no] at e2
  by_cases c1 : s = .yes
  · rw [show decide (s = .yes) = true from decide_eq_true c1] at e1
    rw [c1, ← sn_yes] at e1
    rw [c1, show wrapS 2 x .yes = .yes from rfl, ← sn_yes]
    clear e2 c1 hs hd
    unfold m_all_of b_all_of; walk_at "gos"
  · rw [show decide (s = .yes) = false from decide_eq_false c1] at e1
    by_cases c2 : s = .no
    · rw [show decide (s = .no) = true from decide_eq_true c2] at e2
      rw [c2, ← sn_no] at e1 e2
      rw [c2, show wrapS 2 x .no = .no from rfl, ← sn_no]
      clear c1 c2 hs hd
      unfold m_all_of b_all_of; walk_at "gos"
    · rw [show decide (s = .no) = false from decide_eq_false c2] at e2
      rw [wrapS_other c1 c2, if_neg (by decide), if_neg (by decide), eSn_all]
      clear c1 c2 hs hd
      generalize eSn s = X at *
      generalize encN x = N at *
      unfold m_all_of b_all_of; walk_at "gos"
inductive RdS : Sn → Prop
  | yes : RdS .yes
  | no : RdS .no
  | cmp {w : Wd} {f : List Tm} : CmR f → RdS (.cmp w f)
  | both {l : List Sn} : (∀ s ∈ l, RdS s) → l ≠ [] → l.length ≤ 5000 → foldS true l = .both l → RdS (.both l)
  | either {l : List Sn} : (∀ s ∈ l, RdS s) → l ≠ [] → l.length ≤ 5000 → foldS false l = .either l → RdS (.either l)
  | neg {s : Sn} : RdS s → s ≠ .yes → s ≠ .no → RdS (.neg s)
  | some {x : List Nat} {s : Sn} : Nm8 x → RdS s → s ≠ .yes → s ≠ .no → RdS (.some x s)
  | all {x : List Nat} {s : Sn} : Nm8 x → RdS s → s ≠ .yes → s ≠ .no → RdS (.all x s)
theorem RdS.nm : ∀ {s : Sn}, RdS s → NmS s := by
  intro s h
  induction h with
  | yes => exact .yes
  | no => exact .no
  | @cmp w f hf => exact ⟨fun c hc q hq p hp => by
      rw [Sn.cmps, List.mem_singleton] at hc
      subst hc
      exact ((hf.tm q hq).nm p hp).1.nm, fun x hx => by simp [Sn.bnd] at hx⟩
  | both h a b c ih => exact .of_both ih
  | either h a b c ih => exact .of_either ih
  | neg h a b ih => exact ⟨fun c hc => by rw [Sn.cmps] at hc; exact ih.c c hc, fun x hx => by rw [Sn.bnd] at hx; exact ih.b x hx⟩
  | @some x s hx h a b ih => exact ⟨fun c hc => by rw [Sn.cmps] at hc; exact ih.c c hc, fun y hy => by
      rw [Sn.bnd] at hy
      rcases List.mem_cons.mp hy with rfl | hy
      · exact hx.nm
      · exact ih.b y hy⟩
  | @all x s hx h a b ih => exact ⟨fun c hc => by rw [Sn.cmps] at hc; exact ih.c c hc, fun y hy => by
      rw [Sn.bnd] at hy
      rcases List.mem_cons.mp hy with rfl | hy
      · exact hx.nm
      · exact ih.b y hy⟩
theorem kw_let : (kAnd ≠ [] ∧ (∀ c ∈ kAnd, 97 ≤ c ∧ c ≤ 122) ∧ kAnd.length ≤ 8) ∧ (kOr ≠ [] ∧ (∀ c ∈ kOr, 97 ≤ c ∧ c ≤ 122) ∧ kOr.length ≤ 8) ∧ (kNot ≠ [] ∧ (∀ c ∈ kNot, 97 ≤ c ∧ c ≤ 122) ∧ kNot.length ≤ 8) ∧
    (kSome ≠ [] ∧ (∀ c ∈ kSome, 97 ≤ c ∧ c ≤ 122) ∧ kSome.length ≤ 8) ∧ (kAll ≠ [] ∧ (∀ c ∈ kAll, 97 ≤ c ∧ c ≤ 122) ∧ kAll.length ≤ 8) ∧ (kYes ≠ [] ∧ (∀ c ∈ kYes, 97 ≤ c ∧ c ≤ 122) ∧ kYes.length ≤ 8) ∧ (kNo ≠ [] ∧ (∀ c ∈ kNo, 97 ≤ c ∧ c ≤ 122) ∧ kNo.length ≤ 8) := by decide
def FU (w : List Nat) : Prop := w = [] ∨ w = [41] ∨ w = kAnd ∨ w = kOr
def FA (w : List Nat) : Prop := w = [] ∨ w = [41] ∨ w = kOr
def FS (w : List Nat) : Prop := w = [] ∨ w = [41]
theorem FS.fa {w : List Nat} (h : FS w) : FA w := h.elim .inl fun z => .inr (.inl z)
theorem FA.fu {w : List Nat} (h : FA w) : FU w := h.elim .inl fun z => .inr (z.elim .inl fun y => .inr (.inr y))
theorem FU.es {w : List Nat} (h : FU w) : EndS w := by rcases h with rfl | rfl | rfl | rfl <;> (unfold EndS EndT; decide)
theorem FA.na {w : List Nat} (h : FA w) : w ≠ kAnd := by rcases h with rfl | rfl | rfl <;> decide
theorem FS.no {w : List Nat} (h : FS w) : w ≠ kOr := by rcases h with rfl | rfl <;> decide
open Classical in
theorem fold_one (b : Bool) (s : Sn) : foldS b [s] = s := by
  have ng : goneS b ≠ ruleS b := by cases b <;> (intro z; cases z)
  unfold foldS
  by_cases c : s = ruleS b
  · rw [if_pos (by rw [c]; exact List.mem_singleton.mpr rfl), c]
  · rw [if_neg (by rw [List.mem_singleton]; exact fun z => c z.symm)]
    by_cases g : s = goneS b
    · have e : keptS (goneS b) [s] = [] := by
        show addK (goneS b) [] s = []
        unfold addK
        rw [if_neg (fun z => z.1 g)]
      rw [e, g]
    · have e : keptS (goneS b) [s] = [s] := by
        show addK (goneS b) [] s = [s]
        unfold addK
        rw [if_pos ⟨g, List.not_mem_nil⟩]; rfl
      rw [e]
theorem both_one {s : Sn} (h : NmS s) (hd : s.depth ≤ 28) : m_both [.lst [eSn s]] = .ok (eSn s) := by
  have := both_eq (P := .lst [eSn s]) (l := [s]) (.inl rfl) (fun z hz => by rw [List.mem_singleton.mp hz]; exact ⟨h, hd⟩) (by simp)
  rwa [fold_one] at this
theorem either_one {s : Sn} (h : NmS s) (hd : s.depth ≤ 28) : m_either [.lst [eSn s]] = .ok (eSn s) := by
  have := either_eq (P := .lst [eSn s]) (l := [s]) (.inl rfl) (fun z hz => by rw [List.mem_singleton.mp hz]; exact ⟨h, hd⟩) (by simp)
  rwa [fold_one] at this
section
variable (ws : List (List Nat))
end
section
variable {ws : List (List Nat)}
theorem unit_N (N : Nat) (ds : List D) : r_Reader_unit (N + 1) ds = UF (r_Reader_unit N) (r_Reader_ands N) (r_Reader_sentence N) ds := by rw [r_Reader_unit]
theorem ands_N (N : Nat) (ds : List D) : r_Reader_ands (N + 1) ds = AF (r_Reader_unit N) (r_Reader_ands N) (r_Reader_sentence N) ds := by rw [r_Reader_ands]
theorem sents_N (N : Nat) (ds : List D) : r_Reader_sentence (N + 1) ds = SF (r_Reader_unit N) (r_Reader_ands N) (r_Reader_sentence N) ds := by rw [r_Reader_sentence]
end
theorem at_all : ∀ (us pre : List (List Nat)), At (pre ++ us) pre.length us
  | [], _ => trivial
  | u :: us, pre => by
    refine ⟨?_, ?_⟩
    · unfold hd
      rw [List.getElem?_append_right (Nat.le_refl _), Nat.sub_self]
      rfl
    · have := at_all us (pre ++ [u])
      rw [List.append_assoc, List.length_append] at this
      exact this
theorem in_wds (l : List Nat) : dIn (.str (S l)) (.lst (words.map fun w => .str (S w))) = .ok (.bl (decide (l ∈ words))) := by
  show ((dInL false (.str (S l)) (.lst (words.map fun w => .str (S w)))).or _) = _
  have : dInL false (.str (S l)) (.lst (words.map fun w => .str (S w))) = .ok (.bl (decide (l ∈ words))) := by
    show chk _ (Out.ok (D.bl (if false = true then _ else _))) = _
    rw [chk_pos ⟨rfl, by simp [List.all_map, flatD]⟩, if_neg Bool.false_ne_true]
    congr 2
    rw [List.any_map]
    have : ((fun y => eqD y (D.str (S l))) ∘ fun w => D.str (S w)) = fun w => decide (w = l) := by
      funext w
      exact S_beq w l
    rw [this]
    exact Bool.eq_iff_iff.mpr (by simp [List.any_eq_true])
  rw [this]; rfl
structure Nw (l : List Nat) : Prop where
  pos : 1 ≤ l.length
  len : l.length ≤ 9
  let_ : ∀ c ∈ l, 97 ≤ c ∧ c ≤ 122
theorem Nw.nm {l : List Nat} (h : Nw l) : Nm l := ⟨h.pos, by have := h.len; omega, h.let_⟩
theorem wd4 : ∀ w ∈ words, w.length ≤ 4 := by decide
theorem fit_nm8 {l : List Nat} (h1 : 1 ≤ l.length) (h8 : l.length ≤ 8) (hl : ∀ c ∈ l, 97 ≤ c ∧ c ≤ 122) : Nm8 (fit l) := by
  have key : ∀ w ∈ words, w ++ [113] ∉ words := by decide
  unfold fit
  by_cases c : l ∈ words
  · rw [if_pos c]
    have := wd4 l c
    refine ⟨⟨by simp, fun d hd => ?_, key l c⟩, by simp; omega⟩
    rcases List.mem_append.mp hd with hd | hd
    · exact hl d hd
    · rw [List.mem_singleton.mp hd]; omega
  · rw [if_neg c]
    exact ⟨⟨fun z => by rw [z] at h1; simp at h1, hl, c⟩, h8⟩
inductive Dl : Nat → D → Prop
  | int {n : Nat} {i : Int} : Dl (n + 1) (.int i)
  | str {n : Nat} {s : Str} : PyData.strOk s = true → Dl (n + 1) (.str s)
  | tup {n : Nat} {ds : List D} : (∀ d ∈ ds, Dl n d) → ds.length ≤ 100000 → Dl (n + 1) (.tup ds)
theorem Dl.up {n : Nat} {d : D} (h : Dl n d) : Dl (n + 1) d := by
  induction h with
  | int => exact .int
  | str q => exact .str q
  | tup q l ih => exact .tup ih l
theorem Dl.mono {n m : Nat} {d : D} (h : Dl n d) (l : n ≤ m) : Dl m d := by
  obtain ⟨k, rfl⟩ := Nat.exists_eq_add_of_le l
  clear l
  induction k with
  | zero => exact h
  | succ k ih => exact ih.up
theorem zipD_self (ds : List D) : zipD ds ds = ds.map fun d => .tup [d, d] := by
  unfold zipD
  induction ds with
  | nil => rfl
  | cons d ds ih => rw [List.zipWith_cons_cons, ih]; rfl
theorem alike_eq : ∀ (n : Nat) {d : D}, Dl n d → r__law_alike n [d, d] = .ok (.bl true)
  | n + 1, _, .int (i := i) => by
    have f1 : cIsi [.int i, .ty "tuple"] = .ok (.bl false) := rfl
    have f2 : cIsi [.int i, .ty "str"] = .ok (.bl false) := rfl
    have f3 : cIsi [.int i, .ty "int"] = .ok (.bl true) := rfl
    have f4 : cIsi [.int i, .ty "bool"] = .ok (.bl false) := rfl
    rw [r__law_alike]
    unfold b__law_alike
    walk_at "goi"
  | n + 1, _, .str (s := s) q => by
    have f1 : cIsi [.str s, .ty "tuple"] = .ok (.bl false) := rfl
    have f2 : cIsi [.str s, .ty "str"] = .ok (.bl true) := rfl
    have f3 : dEq (.str s) (.str s) = .ok (.bl true) := by rw [dEq_lit q q]; simp
    clear q
    rw [r__law_alike]
    unfold b__law_alike
    walk_at "goi"
  | n + 1, _, .tup (ds := ds) h hl => by
    have f1 : cIsi [.tup ds, .ty "tuple"] = .ok (.bl true) := rfl
    have sz : ds.length ≤ sizeLine := len_ok (by omega)
    have lc : ∀ x2 x3, lcL (gT [(gN 2), (gN 3)]) bYes (eA (r__law_alike n) (aC (eV 2) (aC (eV 3) aN))) [some (.tup ds), some (.tup ds), x2, x3] (ds.map fun d => .tup [d, d]) = .ok (ds.map fun _ => .bl true) := fun x2 x3 => by
      refine lcL_map (fun d => .tup [d, d]) (fun _ => .bl true) ds fun d hd => ?_
      have ih := alike_eq n (h d hd)
      clear h hd f1 sz hl
      walk_at "goi"
    have f2 : cAll [.lst (ds.map fun _ => .bl true)] = .ok (.bl true) := by
      have := cAll_B (ds.map fun _ => true)
      rw [List.map_map] at this
      refine Eq.trans this ?_
      congr 2
      rw [List.all_eq_true]
      intro b hb
      obtain ⟨_, _, rfl⟩ := List.mem_map.mp hb
      rfl
    have c1 : dNe (.int (ds.length : Nat)) (.int (ds.length : Nat)) = .ok (.bl false) := by rw [dNe_int]; simp
    have iz : ∀ x2 x3, iZip (aC (eV 0) (aC (eV 1) aN)) [some (.tup ds), some (.tup ds), x2, x3] = .ok (ds.map fun d => .tup [d, d]) := fun x2 x3 => by
      rw [← zipD_self]; rfl
    have sz2 : (ds.map fun d => D.tup [d, d]).length ≤ sizeLine := len_ok (by rw [List.length_map]; omega)
    have sz3 : (ds.map fun (_ : D) => D.bl true).length ≤ sizeLine := len_ok (by rw [List.length_map]; omega)
    rw [r__law_alike]
    generalize (ds.map fun d => D.tup [d, d]) = Z at *
    generalize (ds.map fun (_ : D) => D.bl true) = B at *
    clear h hl
    unfold b__law_alike
    walk_at "goi"
theorem law_alike_eq {n : Nat} {d : D} (h : Dl n d) (hn : n ≤ 60) : m__law_alike [d, d] = .ok (.bl true) := alike_eq 60 (h.mono hn)
theorem dl_M {m : Mn} (h : ∀ p ∈ m, Nm p.1) (hl : m.length ≤ 10000) : Dl 3 (encM m) := by
  refine .tup (fun d hd => ?_) (by rw [List.length_map]; omega)
  obtain ⟨p, hp, rfl⟩ := List.mem_map.mp hd
  refine .tup (fun d hd => ?_) (by simp)
  rcases List.mem_cons.mp hd with rfl | hd
  · exact .str (strOk_nm (h p hp))
  · rw [List.mem_singleton.mp hd]; exact .int
theorem dl_F {f : List Tm} (h : ∀ q ∈ f, (∀ p ∈ q.1, Nm p.1) ∧ q.1.length ≤ 10000) (hl : f.length ≤ 10000) : Dl 5 (.tup (f.map encQ)) := by
  refine .tup (fun d hd => ?_) (by rw [List.length_map]; omega)
  obtain ⟨q, hq, rfl⟩ := List.mem_map.mp hd
  refine .tup (fun d hd => ?_) (by simp)
  rcases List.mem_cons.mp hd with rfl | hd
  · exact dl_M (h q hq).1 (h q hq).2
  · rw [List.mem_singleton.mp hd]; exact .int
theorem strOk_wd (w : Wd) : PyData.strOk w.str = true := by cases w <;> decide +kernel
theorem RdS.dl : ∀ {s : Sn}, RdS s → Dl (2 * s.depth + 5) (eSn s) := by
  intro s h
  induction h with
  | yes => exact .tup (fun d hd => by rw [List.mem_singleton.mp hd]; exact .str ok_yes) (by simp)
  | no => exact .tup (fun d hd => by rw [List.mem_singleton.mp hd]; exact .str ok_no) (by simp)
  | @cmp w f hf =>
    refine .tup (fun d hd => ?_) (by simp)
    rcases List.mem_cons.mp hd with rfl | hd
    · exact .str (strOk_wd w)
    · rw [List.mem_singleton.mp hd]
      exact (dl_F (fun q hq => ⟨fun p hp => ((hf.tm q hq).nm p hp).1.nm, by have := hf.few q hq; omega⟩) (by have := hf.len; omega)).mono (by show 5 ≤ 2 * 1 + 4; decide)
  | @both l h ne l5 hf ih =>
    refine .tup (fun d hd => ?_) (by simp)
    rcases List.mem_cons.mp hd with rfl | hd
    · exact .str ok_both
    · rw [List.mem_singleton.mp hd, eSns_map]
      show Dl (2 * Sn.depths l + 5 + 1) _
      refine .tup (fun d hd => ?_) (by rw [List.length_map]; omega)
      obtain ⟨s, hs, rfl⟩ := List.mem_map.mp hd
      exact (ih s hs).mono (by have := sdep_mem hs; omega)
  | @either l h ne l5 hf ih =>
    refine .tup (fun d hd => ?_) (by simp)
    rcases List.mem_cons.mp hd with rfl | hd
    · exact .str ok_either
    · rw [List.mem_singleton.mp hd, eSns_map]
      show Dl (2 * Sn.depths l + 5 + 1) _
      refine .tup (fun d hd => ?_) (by rw [List.length_map]; omega)
      obtain ⟨s, hs, rfl⟩ := List.mem_map.mp hd
      exact (ih s hs).mono (by have := sdep_mem hs; omega)
  | neg h a b ih =>
    refine .tup (fun d hd => ?_) (by simp)
    rcases List.mem_cons.mp hd with rfl | hd
    · exact .str ok_not
    · rw [List.mem_singleton.mp hd]; exact ih.mono (by show 2 * _ + 5 ≤ 2 * (_ + 1) + 4; omega)
  | some hx h a b ih =>
    refine .tup (fun d hd => ?_) (by simp)
    rcases List.mem_cons.mp hd with rfl | hd
    · exact .str ok_some
    · rcases List.mem_cons.mp hd with rfl | hd
      · exact .str (strOk_nm hx.nm)
      · rw [List.mem_singleton.mp hd]; exact ih.mono (by show 2 * _ + 5 ≤ 2 * (_ + 1) + 4; omega)
  | all hx h a b ih =>
    refine .tup (fun d hd => ?_) (by simp)
    rcases List.mem_cons.mp hd with rfl | hd
    · exact .str ok_all
    · rcases List.mem_cons.mp hd with rfl | hd
      · exact .str (strOk_nm hx.nm)
      · rw [List.mem_singleton.mp hd]; exact ih.mono (by show 2 * _ + 5 ≤ 2 * (_ + 1) + 4; omega)
theorem asc_app {a b : List Nat} (ha : Asc a) (hb : Asc b) : Asc (a ++ b) := fun c hc => (List.mem_append.mp hc).elim (ha c) (hb c)
theorem asc_let {w : List Nat} (h : ∀ c ∈ w, 97 ≤ c ∧ c ≤ 122) : Asc w := fun c hc => by have := h c hc; omega
theorem asc_fg {w : List Nat} (h : Fg w) : Asc w := fun c hc => by have := h.dig c hc; omega
structure TsD (xs : List (List Nat)) (ts : List Tm) : Prop where
  nd : (ts.map (·.1)).Nodup
  mono : ∀ q ∈ ts, Mono 9 q.1
  nin : ∀ q ∈ ts, ∀ p ∈ q.1, p.1 ∈ xs
  few : ∀ q ∈ ts, q.1.length ≤ 2
  nz : ∀ q ∈ ts, q.2 ≠ 0
  sz : ∀ q ∈ ts, q.2.natAbs ≤ 10 ^ 12
  one : ts ≠ [] → ∃ q ∈ ts, q.2.natAbs = 1
theorem TsD.nil (xs : List (List Nat)) : TsD xs [] := ⟨List.nodup_nil, fun q hq => absurd hq List.not_mem_nil, fun q hq => absurd hq List.not_mem_nil, fun q hq => absurd hq List.not_mem_nil, fun q hq => absurd hq List.not_mem_nil, fun q hq => absurd hq List.not_mem_nil, fun h => absurd rfl h⟩
theorem fnd_new {ts : List Tm} {m : Mn} (h : (fnd ts m).isSome = false) : m ∉ ts.map (·.1) := fnd_none.mp (by cases e : fnd ts m with | none => rfl | some z => rw [e] at h; cases h)
theorem TsD.put {xs : List (List Nat)} {ts : List Tm} (h : TsD xs ts) {m : Mn} {z : Int} (hn : (fnd ts m).isSome = false) (hm : Mono 9 m) (hi : ∀ p ∈ m, p.1 ∈ xs) (hf : m.length ≤ 2) (z0 : z ≠ 0) (zs : z.natAbs ≤ 10 ^ 12) (z1 : ts = [] → z.natAbs = 1) :
    TsD xs (put ts m z) ∧ put ts m z = ts ++ [(m, z)] := by
  have e := put_new (v := z) (fnd_new hn)
  have sp : ∀ q ∈ ts ++ [(m, z)], q ∈ ts ∨ q = (m, z) := fun q hq => (List.mem_append.mp hq).imp id List.mem_singleton.mp
  refine ⟨?_, e⟩
  rw [e]
  refine ⟨e ▸ put_nodup h.nd m z, fun q hq => ?_, fun q hq => ?_, fun q hq => ?_, fun q hq => ?_, fun q hq => ?_, fun _ => ?_⟩
  · rcases sp q hq with y | rfl
    · exact h.mono q y
    · exact hm
  · rcases sp q hq with y | rfl
    · exact h.nin q y
    · exact hi
  · rcases sp q hq with y | rfl
    · exact h.few q y
    · exact hf
  · rcases sp q hq with y | rfl
    · exact h.nz q y
    · exact z0
  · rcases sp q hq with y | rfl
    · exact h.sz q y
    · exact zs
  · by_cases c : ts = []
    · exact ⟨(m, z), List.mem_append_right _ (List.mem_singleton.mpr rfl), z1 c⟩
    · obtain ⟨q, hq, e⟩ := h.one c
      exact ⟨q, List.mem_append_left _ hq, e⟩
theorem gcd_one : ∀ (f : List Tm) (t : Nat), (∃ q ∈ f, q.2.natAbs = 1) → gcdN f t = 1 := by
  intro f t ⟨q, hq, e⟩
  have d := gcdN_dvd f t q hq
  rw [e] at d
  exact Nat.dvd_one.mp d
def lfP (x : List Nat) (way n : Int) : List Tm := (if n = 0 then [] else [([], 0 - way * n)]) ++ [([(x, 1)], way)]
theorem mono_x1 {x : List Nat} (hx : Nm8 x) : Mono 9 [(x, (1 : Int))] := ⟨fun p hp => by rw [List.mem_singleton.mp hp]; exact ⟨hx.nm, by show (1 : Int) ≤ 1; decide, by show (1 : Int) ≤ 9; decide⟩, List.pairwise_singleton _ _, by simp⟩
theorem mono_0 : Mono 9 [] := ⟨fun p hp => absurd hp List.not_mem_nil, List.Pairwise.nil, by simp⟩
theorem lfP_mem {x : List Nat} {way n : Int} {q : Tm} (h : q ∈ lfP x way n) : (n ≠ 0 ∧ q = ([], 0 - way * n)) ∨ q = ([(x, 1)], way) := by
  unfold lfP at h
  rcases List.mem_append.mp h with h | h
  · split at h
    · cases h
    · rename_i c; exact .inl ⟨c, List.mem_singleton.mp h⟩
  · exact .inr (List.mem_singleton.mp h)
theorem lfP_cm {x : List Nat} (hx : Nm8 x) {way n : Int} (hw : way = 1 ∨ way = -1) (h0 : 0 ≤ n) (h30 : n.natAbs < 10 ^ 30) : CmR (lfP x way n) := by
  have last : ([(x, 1)], way) ∈ lfP x way n := by unfold lfP; simp
  have ll : (lfP x way n).length ≤ 2 := by unfold lfP; split <;> simp
  refine ⟨⟨fun q hq => ?_, fun q hq => ?_, ?_⟩, fun q hq => ?_, fun q hq => ?_, by omega, ?_, ?_⟩
  · rcases lfP_mem hq with ⟨_, rfl⟩ | rfl
    · exact mono_0
    · exact mono_x1 hx
  · rcases lfP_mem hq with ⟨c, rfl⟩ | rfl
    · show 0 - way * n ≠ 0
      rcases hw with rfl | rfl <;> omega
    · show way ≠ 0
      rcases hw with rfl | rfl <;> decide
  · unfold lfP
    split
    · exact List.pairwise_singleton _ _
    · exact List.pairwise_cons.mpr ⟨fun q hq => by rw [List.mem_singleton.mp hq]; rfl, List.pairwise_singleton _ _⟩
  · rcases lfP_mem hq with ⟨c, rfl⟩ | rfl
    · exact ⟨fun p hp => absurd hp List.not_mem_nil, by show 0 - way * n ≠ 0; rcases hw with rfl | rfl <;> omega, by show (0 - way * n).natAbs < _; rcases hw with rfl | rfl <;> omega, by simp⟩
    · exact ⟨fun p hp => by rw [List.mem_singleton.mp hp]; exact ⟨hx, by show (1 : Int) ≤ 1; decide, by show (1 : Int) ≤ 9; decide⟩, by show way ≠ 0; rcases hw with rfl | rfl <;> decide, by show way.natAbs < _; rcases hw with rfl | rfl <;> decide, by simp⟩
  · rcases lfP_mem hq with ⟨c, rfl⟩ | rfl <;> simp
  · have g := gcd_one (lfP x way n) 0 ⟨_, last, by show way.natAbs = 1; rcases hw with rfl | rfl <;> rfl⟩
    unfold leanF
    rw [g, if_pos (by decide)]
  · cases c : cst (lfP x way n) with
    | false => rfl
    | true =>
      unfold cst at c
      rw [List.all_eq_true] at c
      have := of_decide_eq_true (c _ last)
      cases this
def unL (x : List Nat) : List Trm := [(false, [.nm x none])]
def unN (n : Nat) : List Trm := [(false, [.num (it (n : Int)) none])]
theorem unL_v {x : List Nat} (hx : Nm8 x) : sideV (unL x) = [([(x, 1)], 1, 1)] := by
  have := mulM_snoc (most := 9) (m := []) (p := (x, 1)) (mono_x1 hx) (by decide)
  show [(mulM [] [(x, 1)], (1 : Int), (1 : Int))] = _
  rw [this]; rfl
theorem unN_v (n : Nat) : sideV (unN n) = [([], (n : Int), 1)] := by
  show [(([] : Mn), (1 : Int) * (dv (it (n : Int)) : Nat), (1 : Int) * 1)] = _
  rw [dv_it, Int.one_mul, Int.mul_one]
def swW (sw : Bool) : Int := if sw then -1 else 1
theorem un_rows {x : List Nat} (hx : Nm8 x) (n : Nat) (sw : Bool) : cmpRows sw (unL x) (unN n) = if sw then [([], (n : Int), 1), ([(x, 1)], 0 - 1, 1)] else [([(x, 1)], 1, 1), ([], 0 - (n : Int), 1)] := by
  unfold cmpRows
  rw [unL_v hx, unN_v]
  cases sw <;> rfl
theorem un_whole {x : List Nat} (hx : Nm8 x) {n : Nat} (h30 : n < 10 ^ 30) (sw : Bool) : wholeF (cmpRows sw (unL x) (unN n)) = lfP x (swW sw) n := by
  have cm := lfP_cm hx (way := swW sw) (n := (n : Int)) (by cases sw <;> simp [swW]) (by omega) (by omega)
  have nx : ([(x, (1 : Int))] : Mn) ≠ [] := by simp
  unfold wholeF
  rw [share_ones _ (fun v hv => by
    rw [un_rows hx] at hv
    cases sw <;> (simp only [if_true, Bool.false_eq_true, if_false, List.mem_cons, List.not_mem_nil, or_false] at hv; rcases hv with rfl | rfl <;> rfl))]
  conv => rhs; rw [← formOf_id cm.form]
  have key : ∀ A : List Tm, (∀ q ∈ A, Mono 9 q.1) → (∀ m, sumOf A m = sumOf (lfP x (swW sw) n) m) → formOf A = formOf (lfP x (swW sw) n) := fun A hA h => by
    obtain ⟨a1, a2, _⟩ := form_is hA
    obtain ⟨b1, b2, _⟩ := form_is cm.form.mono
    refine eq_of_up (R := fun a b : Tm => ltM a.1 b.1 = true) ltM_as a1.up b1.up fun q => ?_
    rw [a2, b2, h]
  refine key _ ?_ fun m => ?_
  · rw [un_rows hx]
    intro q hq
    cases sw <;> (simp only [if_true, Bool.false_eq_true, if_false, List.map_cons, List.map_nil, List.mem_cons, List.not_mem_nil, or_false] at hq; rcases hq with rfl | rfl <;> first | exact mono_0 | exact mono_x1 hx)
  · rw [un_rows hx]
    have e1 : ((1 : Int) / 1) = 1 := rfl
    unfold lfP swW
    by_cases c : (n : Int) = 0
    · rw [if_pos c]
      cases sw <;> (simp only [if_true, Bool.false_eq_true, if_false, List.map_cons, List.map_nil, List.nil_append, sumOf, e1, Int.mul_one, c] ; split <;> split <;> omega)
    · rw [if_neg c]
      cases sw <;> (simp only [if_true, Bool.false_eq_true, if_false, List.map_cons, List.map_nil, List.cons_append, List.nil_append, sumOf, e1, Int.mul_one] ; split <;> split <;> omega)
def uW (x sg : List Nat) (n : Nat) : List (List Nat) := [x, sg, it (n : Int)]
section
variable {ws : List (List Nat)}
theorem un_compared (h : WsOk ws) {x sg : List Nat} (hx : Nm8 x) {w : Wd} {sw : Bool} (hg : SgOk sg w sw) {n : Nat} (h30 : n < 10 ^ 30) {k : Nat} (ha : At ws k (uW x sg n)) (he : EndS (hd ws (k + 3))) :
    m_Reader_compared [RDd (Wn ws) (.int k)] = .ok (RT (eSn (.cmp w (lfP x (swW sw) n))) (Wn ws) (.int ((k + 3 : Nat) : Int))) := by
  have cm := lfP_cm hx (way := swW sw) (n := (n : Int)) (by cases sw <;> simp [swW]) (by omega) (by omega)
  have wq := un_whole hx h30 sw
  have ce : cmpL w (lfP x (swW sw) n) = .cmp w (lfP x (swW sw) n) := by
    unfold cmpL
    rw [cm.cst, if_neg Bool.false_ne_true, cm.lean]
  have s1 : Sz 1 1 := by unfold Sz; decide
  have sn : ∀ i : Int, i.natAbs < 10 ^ 30 → Sz 8000 i := fun i hi => (sz_29 (k := i) hi).mono (by decide)
  have hrow : ∀ v ∈ cmpRows sw (unL x) (unN n), RowOk 9 1 v := by
    rw [un_rows hx]
    intro v hv
    cases sw <;> (simp only [if_true, Bool.false_eq_true, if_false, List.mem_cons, List.not_mem_nil, or_false] at hv; rcases hv with rfl | rfl <;> first
      | exact ⟨mono_0, sn _ (by first | (show (n : Int).natAbs < 10 ^ 30; omega) | (show (0 - (n : Int)).natAbs < 10 ^ 30; omega)), by show (0 : Int) < 1; decide, s1⟩
      | exact ⟨mono_x1 hx, sn _ (by first | (show (1 : Int).natAbs < 10 ^ 30; decide) | (show ((0 : Int) - 1).natAbs < 10 ^ 30; decide)), by show (0 : Int) < 1; decide, s1⟩)
  have hl : (cmpRows sw (unL x) (unN n)).length ≤ 2 := by rw [un_rows hx]; cases sw <;> simp
  have := compared_eq h hg (ls := unL x) (rs := unN n) (k := k) (by unfold unL; simp) (by unfold unN; simp) (fun q hq => by
      rw [List.mem_singleton.mp (show q ∈ [(false, [Fc.nm x none])] from hq)]
      exact ⟨by simp, fun f hf => by rw [List.mem_singleton.mp hf]; exact ⟨hx.r, hx.nm⟩, by simp⟩)
    (fun q hq => by
      rw [List.mem_singleton.mp (show q ∈ [(false, [Fc.num (it (n : Int)) none])] from hq)]
      exact ⟨by simp, fun f hf => by rw [List.mem_singleton.mp hf]; exact it_fg (by omega), by simp⟩)
    (show At ws k (uW x sg n) from ha) (show EndS (hd ws (k + 3)) from he) (by unfold unL; simp) (by unfold unN; simp) (most := 9) (c := 1) (b := 100) hrow (by decide) (by omega) (by rw [wq]; exact cm.fg) (by decide)
  rw [wq, ce] at this
  exact this
theorem un_unit (h : WsOk ws) {x sg : List Nat} (hx : Nm8 x) {w : Wd} {sw : Bool} (hg : SgOk sg w sw) {n : Nat} (h30 : n < 10 ^ 30) {k d N : Nat} (hd30 : d ≤ 30) (ha : At ws k (uW x sg n)) (he : EndS (hd ws (k + 3))) :
    RP ws (r_Reader_unit (N + 1)) d k (eSn (.cmp w (lfP x (swW sw) n))) (k + 3) := by
  have e0 : hd ws k = x := ha.1
  have f1 : hd ws k ∉ words := by rw [e0]; exact hx.r.no
  have f2 : hd ws k ≠ [40] := by
    rw [e0]
    rintro rfl
    have := hx.r.let_ 40 (by simp)
    omega
  have pl : Plain (hd ws k) := ⟨fun z => f1 (by rw [z]; decide), f2, fun z => f1 (by rw [z]; decide), fun z => f1 (by rw [z]; decide)⟩
  have hc := un_compared h hx hg h30 ha he
  have := unit_rest (fu := r_Reader_unit N) (fa := r_Reader_ands N) (fs := r_Reader_sentence N) (d := d) h hd30 pl (o := .stuck) (b2 := false) (taken_no h asc_kw.2.2.2.2.2.1 (fun z => f1 (by rw [z]; decide))) (.inr ⟨rfl, taken_no h asc_kw.2.2.2.2.2.2.1 (fun z => f1 (by rw [z]; decide))⟩)
  rw [hc] at this
  exact (unit_N N _).trans this
end
inductive Nk where
  | neg | brk | some | all
abbrev Ne := Nk × List Nat
def nW : List Ne → List (List Nat) → List (List Nat)
  | [], u => u
  | (.neg, _) :: ns, u => kNot :: nW ns u
  | (.brk, _) :: ns, u => [40] :: (nW ns u ++ [[41]])
  | (.some, x) :: ns, u => kSome :: x :: [58] :: nW ns u
  | (.all, x) :: ns, u => kAll :: x :: [58] :: nW ns u
def nS : List Ne → Sn → Sn
  | [], s => s
  | (.neg, _) :: ns, s => .neg (nS ns s)
  | (.brk, _) :: ns, s => nS ns s
  | (.some, x) :: ns, s => .some x (nS ns s)
  | (.all, x) :: ns, s => .all x (nS ns s)
def NeOk (p : Ne) : Prop := Nm8 p.2
theorem nS_ok {s : Sn} (hs : RdS s) (h1 : s ≠ .yes) (h2 : s ≠ .no) : ∀ ns : List Ne, (∀ p ∈ ns, NeOk p) → RdS (nS ns s) ∧ nS ns s ≠ .yes ∧ nS ns s ≠ .no
  | [], _ => ⟨hs, h1, h2⟩
  | (.neg, _) :: ns, h => by
    obtain ⟨a, b, c⟩ := nS_ok hs h1 h2 ns fun p hp => h p (List.mem_cons_of_mem _ hp)
    exact ⟨.neg a b c, (fun z => by cases z), (fun z => by cases z)⟩
  | (.brk, _) :: ns, h => nS_ok hs h1 h2 ns fun p hp => h p (List.mem_cons_of_mem _ hp)
  | (.some, x) :: ns, h => by
    obtain ⟨a, b, c⟩ := nS_ok hs h1 h2 ns fun p hp => h p (List.mem_cons_of_mem _ hp)
    exact ⟨.some (h _ List.mem_cons_self) a b c, (fun z => by cases z), (fun z => by cases z)⟩
  | (.all, x) :: ns, h => by
    obtain ⟨a, b, c⟩ := nS_ok hs h1 h2 ns fun p hp => h p (List.mem_cons_of_mem _ hp)
    exact ⟨.all (h _ List.mem_cons_self) a b c, (fun z => by cases z), (fun z => by cases z)⟩
section
variable {ws : List (List Nat)}
theorem sent_of (h : WsOk ws) {s : Sn} (hs : RdS s) (hdp : s.depth ≤ 28) {N d k e : Nat} (u : RP ws (r_Reader_unit N) d k (eSn s) e) (hf : FS (hd ws e)) : RP ws (r_Reader_sentence (N + 2)) d k (eSn s) e := by
  have a : RP ws (r_Reader_ands (N + 1)) d k (eSn s) e := by
    have := ands_eq (fa := r_Reader_ands N) (fs := r_Reader_sentence N) h u (Tl.nil hf.fa.na) (by simp) (both_one hs.nm (by omega))
    exact (ands_N N _).trans this
  have := sents_eq (fu := r_Reader_unit (N + 1)) (fs := r_Reader_sentence (N + 1)) h a (Tl.nil hf.no) (by simp) (either_one hs.nm (by omega))
  exact (sents_N (N + 1) _).trans this
theorem depth_le {s : Sn} : ∀ p : Ne, ∀ ns : List Ne, (nS ns s).depth ≤ (nS (p :: ns) s).depth
  | (.neg, _), ns => by show _ ≤ (nS ns s).depth + 1; omega
  | (.brk, _), ns => Nat.le_refl _
  | (.some, x), ns => by show _ ≤ (nS ns s).depth + 1; omega
  | (.all, x), ns => by show _ ≤ (nS ns s).depth + 1; omega
theorem nest_unit (h : WsOk ws) {s : Sn} (hs : RdS s) (h1 : s ≠ .yes) (h2 : s ≠ .no) {u : List (List Nat)}
    (base : ∀ N d k, d ≤ 30 → At ws k u → FS (hd ws (k + u.length)) → RP ws (r_Reader_unit (N + 1)) d k (eSn s) (k + u.length)) :
    ∀ (ns : List Ne) (N d k : Nat), (∀ p ∈ ns, NeOk p) → d + ns.length ≤ 30 → 3 * ns.length + 1 ≤ N → At ws k (nW ns u) → FS (hd ws (k + (nW ns u).length)) → (nS ns s).depth ≤ 28 →
      RP ws (r_Reader_unit N) d k (eSn (nS ns s)) (k + (nW ns u).length)
  | [], N, d, k, ok, hd, hN, ha, hf, dp => by
    obtain ⟨N, rfl⟩ : ∃ M, N = M + 1 := ⟨N - 1, by omega⟩
    exact base N d k (by simpa using hd) ha hf
  | (.neg, x) :: ns, N, d, k, ok, hd, hN, ha, hf, dp => by
    have ok' : ∀ p ∈ ns, NeOk p := fun p hp => ok p (List.mem_cons_of_mem _ hp)
    obtain ⟨r, n1, n2⟩ := nS_ok hs h1 h2 ns ok'
    rw [List.length_cons] at hd hN
    obtain ⟨N, rfl⟩ : ∃ M, N = M + 1 := ⟨N - 1, by omega⟩
    have ha' : PD.hd ws k = kNot ∧ At ws (k + 1) (nW ns u) := ha
    have el : k + (nW ((.neg, x) :: ns) u).length = k + 1 + (nW ns u).length := by
      show k + (kNot :: nW ns u).length = _
      rw [List.length_cons]; omega
    rw [el] at hf ⊢
    have dp' := Nat.le_trans (depth_le (.neg, x) ns) dp
    have I := nest_unit h hs h1 h2 base ns N (d + 1) (k + 1) ok' (by omega) (by omega) ha'.2 hf dp'
    have nv := neverR_eq [] r.nm dp'
    rw [wrapS_other n1 n2, if_pos rfl] at nv
    have := unit_not (fu := r_Reader_unit N) (fa := r_Reader_ands N) (fs := r_Reader_sentence N) (d := d) h (by omega) ha'.1 I nv
    exact (unit_N N _).trans this
  | (.brk, x) :: ns, N, d, k, ok, hd, hN, ha, hf, dp => by
    have ok' : ∀ p ∈ ns, NeOk p := fun p hp => ok p (List.mem_cons_of_mem _ hp)
    obtain ⟨r, n1, n2⟩ := nS_ok hs h1 h2 ns ok'
    rw [List.length_cons] at hd hN
    obtain ⟨N, rfl⟩ : ∃ M, N = M + 3 := ⟨N - 3, by omega⟩
    have ha' : PD.hd ws k = [40] ∧ At ws (k + 1) (nW ns u ++ [[41]]) := ha
    obtain ⟨a1, a2⟩ := ha'
    obtain ⟨a2, a3⟩ := at_app.mp a2
    have a3' : PD.hd ws (k + 1 + (nW ns u).length) = [41] := a3.1
    have el : k + (nW ((.brk, x) :: ns) u).length = k + 1 + (nW ns u).length + 1 := by
      show k + ([40] :: (nW ns u ++ [[41]])).length = _
      rw [List.length_cons, List.length_append]; simp; omega
    rw [el]
    have dp' : (nS ns s).depth ≤ 28 := dp
    have fs : FS (PD.hd ws (k + 1 + (nW ns u).length)) := .inr a3'
    have I := nest_unit h hs h1 h2 base ns N (d + 1) (k + 1) ok' (by omega) (by omega) a2 fs dp'
    have S := sent_of h r dp' I fs
    have := unit_brk (fu := r_Reader_unit (N + 2)) (fa := r_Reader_ands (N + 2)) (fs := r_Reader_sentence (N + 2)) (d := d) h (by omega) a1 S a3'
    exact (unit_N (N + 2) _).trans this
  | (.some, x) :: ns, N, d, k, ok, hd, hN, ha, hf, dp => by
    have ok' : ∀ p ∈ ns, NeOk p := fun p hp => ok p (List.mem_cons_of_mem _ hp)
    have hx : Nm8 x := ok _ List.mem_cons_self
    obtain ⟨r, n1, n2⟩ := nS_ok hs h1 h2 ns ok'
    rw [List.length_cons] at hd hN
    obtain ⟨N, rfl⟩ : ∃ M, N = M + 3 := ⟨N - 3, by omega⟩
    have ha' : PD.hd ws k = kSome ∧ PD.hd ws (k + 1) = x ∧ PD.hd ws (k + 1 + 1) = [58] ∧ At ws (k + 1 + 1 + 1) (nW ns u) := ha
    obtain ⟨a1, a2, a3, a4⟩ := ha'
    have el : k + (nW ((.some, x) :: ns) u).length = k + 3 + (nW ns u).length := by
      show k + (kSome :: x :: [58] :: nW ns u).length = _
      simp only [List.length_cons]; omega
    rw [el] at hf ⊢
    have dp' := Nat.le_trans (depth_le (.some, x) ns) dp
    have I := nest_unit h hs h1 h2 base ns N (d + 1) (k + 3) ok' (by omega) (by omega) a4 hf dp'
    have S := sent_of h r dp' I hf
    have nv := someR_eq (x := x) r.nm dp'
    rw [wrapS_other n1 n2, if_neg (by decide), if_pos rfl] at nv
    have := unit_q (fu := r_Reader_unit (N + 2)) (fa := r_Reader_ands (N + 2)) (fs := r_Reader_sentence (N + 2)) (d := d) h (by omega) a1 a2 hx.r a3 S (.inl ⟨rfl, nv⟩)
    exact (unit_N (N + 2) _).trans this
  | (.all, x) :: ns, N, d, k, ok, hd, hN, ha, hf, dp => by
    have ok' : ∀ p ∈ ns, NeOk p := fun p hp => ok p (List.mem_cons_of_mem _ hp)
    have hx : Nm8 x := ok _ List.mem_cons_self
    obtain ⟨r, n1, n2⟩ := nS_ok hs h1 h2 ns ok'
    rw [List.length_cons] at hd hN
    obtain ⟨N, rfl⟩ : ∃ M, N = M + 3 := ⟨N - 3, by omega⟩
    have ha' : PD.hd ws k = kAll ∧ PD.hd ws (k + 1) = x ∧ PD.hd ws (k + 1 + 1) = [58] ∧ At ws (k + 1 + 1 + 1) (nW ns u) := ha
    obtain ⟨a1, a2, a3, a4⟩ := ha'
    have el : k + (nW ((.all, x) :: ns) u).length = k + 3 + (nW ns u).length := by
      show k + (kAll :: x :: [58] :: nW ns u).length = _
      simp only [List.length_cons]; omega
    rw [el] at hf ⊢
    have dp' := Nat.le_trans (depth_le (.all, x) ns) dp
    have I := nest_unit h hs h1 h2 base ns N (d + 1) (k + 3) ok' (by omega) (by omega) a4 hf dp'
    have S := sent_of h r dp' I hf
    have nv := allR_eq (x := x) r.nm dp'
    rw [wrapS_other n1 n2, if_neg (by decide), if_neg (by decide)] at nv
    have := unit_q (fu := r_Reader_unit (N + 2)) (fa := r_Reader_ands (N + 2)) (fs := r_Reader_sentence (N + 2)) (d := d) h (by omega) a1 a2 hx.r a3 S (.inr ⟨rfl, nv⟩)
    exact (unit_N (N + 2) _).trans this
abbrev RX (ws : List (List Nat)) (F : List D → Out D) (d k : Nat) : Prop := F [RDd (Wn ws) (.int k), .int d] = .exc noText
variable {fu fa fs : List D → Out D} {k d : Nat}
theorem unit_not_x (h : WsOk ws) (hd30 : d ≤ 30) (w0 : hd ws k = kNot) (hu : RX ws fu (d + 1) (k + 1)) : RX ws (UF fu fa fs) d k := by
  have t1 := taken_yes h w0
  have g1 := e_not
  have c0 : ((30 : Int) < (d : Int)) = False := eq_false (by omega)
  have e3 : ((d : Int) + 1) = ((d + 1 : Nat) : Int) := by omega
  replace hu : fu [RDd (Wn ws) (.int ((k + 1 : Nat) : Int)), .int ((d + 1 : Nat) : Int)] = .exc noText := hu
  show UF fu fa fs [RDd (Wn ws) (.int k), .int d] = .exc noText
  generalize Wn ws = W at *
  generalize noText = X at *
  clear h w0 hd30
  unfold UF b_Reader_unit
  walk_at "gor"
theorem unit_brk_x (h : WsOk ws) (hd30 : d ≤ 30) (w0 : hd ws k = [40]) (hs : RX ws fs (d + 1) (k + 1)) : RX ws (UF fu fa fs) d k := by
  have t0 := taken_no h (k := k) asc_kw.2.2.2.2.1 (by rw [w0]; decide)
  have t1 := taken_yes h w0
  have g1 := e_not
  have g2 := e_op
  have g3 := e_cl
  have c0 : ((30 : Int) < (d : Int)) = False := eq_false (by omega)
  have e3 : ((d : Int) + 1) = ((d + 1 : Nat) : Int) := by omega
  replace hs : fs [RDd (Wn ws) (.int ((k + 1 : Nat) : Int)), .int ((d + 1 : Nat) : Int)] = .exc noText := hs
  show UF fu fa fs [RDd (Wn ws) (.int k), .int d] = .exc noText
  generalize Wn ws = W at *
  generalize noText = X at *
  clear h w0 hd30
  unfold UF b_Reader_unit
  walk_at "gor"
theorem forL_xx {G : D → Env → Out Env} {b : Env → SO} {x : D} {xs : List D} {ρ ρ1 : Env} {r : Exn} (h : G x ρ = .ok ρ1) (e : b ρ1 = .ex r) : forL G b (x :: xs) ρ = .ex r := by
  unfold forL
  rw [h]
  show (b ρ1).turn _ = _
  rw [e]; rfl
theorem quant_x (h : WsOk ws) {kw x : List Nat} (w0 : hd ws k = kw) (w1 : hd ws (k + 1) = x) (nx : NmR x) (w2 : hd ws (k + 2) = [58]) (hs : RX ws fs (d + 1) (k + 3)) (ak : Asc kw) {x2 x4 : Option D} :
    b_Reader_unit_1 fu fa fs [some (RDd (Wn ws) (.int k)), some (.int d), x2, some (.str (S kw)), x4] = .ex noText := by
  have t1 := taken_yes h w0
  have t2 := unknown_yes h w1 nx
  have t3 := must_yes h (k := k + 1 + 1) w2
  have g1 := e_some
  have g3 := e_co
  have e3 : ((d : Int) + 1) = ((d + 1 : Nat) : Int) := by omega
  have hs' : fs [RDd (Wn ws) (.int ((k + 1 + 1 + 1 : Nat) : Int)), .int ((d + 1 : Nat) : Int)] = .exc noText := hs
  generalize Wn ws = W at *
  generalize noText = X at *
  clear h w0 w1 w2 nx ak hs
  unfold b_Reader_unit_1
  walk_at "gor"
theorem unit_q_x (h : WsOk ws) (hd30 : d ≤ 30) {kw x : List Nat} (w0 : hd ws k = kw) (w1 : hd ws (k + 1) = x) (nx : NmR x) (w2 : hd ws (k + 2) = [58]) (hs : RX ws fs (d + 1) (k + 3)) (hk : kw = kSome ∨ kw = kAll) : RX ws (UF fu fa fs) d k := by
  have nk : kw ≠ kNot ∧ kw ≠ [40] := by rcases hk with e | e <;> (rw [e]; decide)
  have ak : Asc kw := by rcases hk with e | e <;> (rw [e]; unfold Asc; decide)
  have t0 := taken_no h (k := k) asc_kw.2.2.2.2.1 (by rw [w0]; exact nk.1)
  have t1 := taken_no h (k := k) (w := [40]) (by unfold Asc; decide) (by rw [w0]; exact nk.2)
  have lp : forL (gN 3) (b_Reader_unit_1 fu fa fs) [.str (S kSome), .str (S kAll)] [some (RDd (Wn ws) (.int k)), some (.int d), none, none, none] = .ex noText := by
    by_cases c : kw = kSome
    · exact forL_xx rfl (c ▸ quant_x h w0 w1 nx w2 hs ak)
    · have c2 : kw = kAll := hk.elim (fun e => absurd e c) id
      refine (forL_nx rfl (quant_no h asc_kw.1 (by rw [w0]; exact c))).trans (forL_xx rfl ?_)
      exact c2 ▸ quant_x h w0 w1 nx w2 hs ak
  have g1 := e_not
  have g2 := e_op
  have g3 := e_some
  have g4 := e_all
  have f1 : mkTup [.str (S kSome), .str (S kAll)] = .ok (.tup [.str (S kSome), .str (S kAll)]) := chk_pos (by decide)
  have c0 : ((30 : Int) < (d : Int)) = False := eq_false (by omega)
  show UF fu fa fs [RDd (Wn ws) (.int k), .int d] = .exc noText
  generalize Wn ws = W at *
  generalize noText = X at *
  clear h w0 hd30 w1 w2 nx nk hk hs ak
  unfold UF b_Reader_unit
  walk_at "gor"
theorem ands_x (hu : RX ws fu d k) : RX ws (AF fu fa fs) d k := by
  replace hu : fu [RDd (Wn ws) (.int k), .int d] = .exc noText := hu
  show AF fu fa fs [RDd (Wn ws) (.int k), .int d] = .exc noText
  generalize Wn ws = W at *
  generalize noText = X at *
  unfold AF b_Reader_ands
  walk_at "gor"
theorem sents_x (hu : RX ws fa d k) : RX ws (SF fu fa fs) d k := by
  replace hu : fa [RDd (Wn ws) (.int k), .int d] = .exc noText := hu
  show SF fu fa fs [RDd (Wn ws) (.int k), .int d] = .exc noText
  generalize Wn ws = W at *
  generalize noText = X at *
  unfold SF b_Reader_sentence
  walk_at "gor"
theorem sent_x {N : Nat} (u : RX ws (r_Reader_unit N) d k) : RX ws (r_Reader_sentence (N + 2)) d k := by
  have a : RX ws (r_Reader_ands (N + 1)) d k := (ands_N N _).trans (ands_x (fa := r_Reader_ands N) (fs := r_Reader_sentence N) u)
  exact (sents_N (N + 1) _).trans (sents_x (fu := r_Reader_unit (N + 1)) (fs := r_Reader_sentence (N + 1)) a)
theorem nest_deep (h : WsOk ws) {u : List (List Nat)} : ∀ (ns : List Ne) (N d k : Nat), (∀ p ∈ ns, NeOk p) → d ≤ 31 → 31 ≤ d + ns.length → 3 * (31 - d) + 1 ≤ N → At ws k (nW ns u) → RX ws (r_Reader_unit N) d k := by
  intro ns
  induction ns with
  | nil =>
    intro N d k ok hd h31 hN ha
    obtain ⟨N, rfl⟩ : ∃ M, N = M + 1 := ⟨N - 1, by omega⟩
    exact (unit_N N _).trans (unit_deep (by simp at h31; omega))
  | cons p ns ih =>
    intro N d k ok hd h31 hN ha
    by_cases c : d = 31
    · obtain ⟨N, rfl⟩ : ∃ M, N = M + 1 := ⟨N - 1, by omega⟩
      exact (unit_N N _).trans (unit_deep (by omega))
    have ok' : ∀ p ∈ ns, NeOk p := fun p hp => ok p (List.mem_cons_of_mem _ hp)
    have hx : Nm8 p.2 := ok _ List.mem_cons_self
    rw [List.length_cons] at h31
    obtain ⟨N, rfl⟩ : ∃ M, N = M + 3 := ⟨N - 3, by omega⟩
    obtain ⟨kd, x⟩ := p
    cases kd with
    | neg =>
      have ha' : PD.hd ws k = kNot ∧ At ws (k + 1) (nW ns u) := ha
      have I := ih (N + 2) (d + 1) (k + 1) ok' (by omega) (by omega) (by omega) ha'.2
      exact (unit_N (N + 2) _).trans (unit_not_x (fu := r_Reader_unit (N + 2)) (fa := r_Reader_ands (N + 2)) (fs := r_Reader_sentence (N + 2)) h (by omega) ha'.1 I)
    | brk =>
      have ha' : PD.hd ws k = [40] ∧ At ws (k + 1) (nW ns u ++ [[41]]) := ha
      have I := ih N (d + 1) (k + 1) ok' (by omega) (by omega) (by omega) (at_app.mp ha'.2).1
      exact (unit_N (N + 2) _).trans (unit_brk_x (fu := r_Reader_unit (N + 2)) (fa := r_Reader_ands (N + 2)) (fs := r_Reader_sentence (N + 2)) h (by omega) ha'.1 (sent_x I))
    | some =>
      have ha' : PD.hd ws k = kSome ∧ PD.hd ws (k + 1) = x ∧ PD.hd ws (k + 1 + 1) = [58] ∧ At ws (k + 1 + 1 + 1) (nW ns u) := ha
      obtain ⟨a1, a2, a3, a4⟩ := ha'
      have I := ih N (d + 1) (k + 3) ok' (by omega) (by omega) (by omega) a4
      exact (unit_N (N + 2) _).trans (unit_q_x (fu := r_Reader_unit (N + 2)) (fa := r_Reader_ands (N + 2)) (fs := r_Reader_sentence (N + 2)) h (by omega) a1 a2 hx.r a3 (sent_x I) (.inl rfl))
    | all =>
      have ha' : PD.hd ws k = kAll ∧ PD.hd ws (k + 1) = x ∧ PD.hd ws (k + 1 + 1) = [58] ∧ At ws (k + 1 + 1 + 1) (nW ns u) := ha
      obtain ⟨a1, a2, a3, a4⟩ := ha'
      have I := ih N (d + 1) (k + 3) ok' (by omega) (by omega) (by omega) a4
      exact (unit_N (N + 2) _).trans (unit_q_x (fu := r_Reader_unit (N + 2)) (fa := r_Reader_ands (N + 2)) (fs := r_Reader_sentence (N + 2)) h (by omega) a1 a2 hx.r a3 (sent_x I) (.inr rfl))
end
theorem readX_eq {l : List Nat} {ws : List (List Nat)} (h : Tk l ws) (ha : Asc l) (hl : l.length ≤ 100000) (hr : RX ws m_Reader_sentence 0 0) : m_read [.str (S l)] = .exc noText := by
  have f1 := words_of_eq h ha hl
  have f2 := make_reader (Wn ws)
  have f5 : m_Reader_sentence [RDd (Wn ws) (.int 0), .int 0] = .exc noText := hr
  replace f1 : m_words_of [.str (S l)] = .ok (.lst (Wn ws)) := f1
  generalize Wn ws = W at *
  generalize noText = X at *
  clear h ha hl hr
  unfold m_read b_read
  walk_at "gor"
theorem cellB (ns : List Int) (k : Nat) : ∃ c, m__law_cell [.scr ns, .int k] = .ok (.int c) ∧ 0 ≤ c ∧ c < 1000000000000000000000000000000000000000000000000000000000000 := by
  have e3 := fun i => dMod_int (i := i) (j := 1000000000000000000000000000000000000000000000000000000000000) (by decide)
  have e4 := p60
  by_cases h : k < ns.length
  · have e1 : dIx (.scr ns) (.int k) = .ok (.int ns[k]) := dIx_scr (by simp [h])
    have e5 : (k : Int) < (ns.length : Nat) := by omega
    refine ⟨_, ?_, Int.emod_nonneg ns[k] (b := 1000000000000000000000000000000000000000000000000000000000000) (by decide), Int.emod_lt_of_pos _ (by decide)⟩
    unfold m__law_cell b__law_cell
    walk_at "pda"
  · have e5 : ¬ (k : Int) < (ns.length : Nat) := by omega
    refine ⟨0, ?_, Int.le_refl _, by decide⟩
    unfold m__law_cell b__law_cell
    walk_at "pda"
theorem name37_eq {c : Int} (h : 0 ≤ c) : ∃ x, m__law_name_v3 [.int c] = .ok (encN x) ∧ Nm8 x := by
  have d8 := dDiv_int (i := c) (j := 8) (by decide) (show Sz 5 8 by unfold Sz; decide) (by decide)
  have m8 := dMod_int (i := c) (j := 8) (by decide)
  have q0 : 0 ≤ c / 8 := Int.ediv_nonneg h (by decide)
  have loop := forL_range (G := gN 3) (b := b__law_name_v3_1) (fun k ρ => ∃ (r : Int) (acc : List Nat) (x : Option D), ρ = [some (.int c), some (.str (S acc)), some (.int r), x] ∧ 0 ≤ r ∧ acc.length = k ∧ ∀ z ∈ acc, 97 ≤ z ∧ z ≤ 122)
    (1 + c % 8).toNat (ρ := [some (.int c), some (.str (S [])), some (.int (c / 8)), none]) ⟨c / 8, [], none, rfl, q0, rfl, fun z hz => nomatch hz⟩ (by
      rintro k ρ hk ⟨r, acc, x, rfl, h0, hl, hz⟩
      have m0 : 0 ≤ r % 26 := Int.emod_nonneg _ (by decide)
      have m1 : r % 26 < 26 := Int.emod_lt_of_pos _ (by decide)
      have e1 := abc_at m0 m1
      have e2' := dMod_int (i := r) (j := 26) (by decide)
      have e3 := dDiv_int (i := r) (j := 26) (by decide) (show Sz 5 26 by unfold Sz; decide) (by decide)
      have e4 := dAdd_S (a := acc) (b := [97 + (r % 26).toNat]) (by simp; omega)
      have eA := abc_str
      refine ⟨[some (.int c), some (.str (S (acc ++ [97 + (r % 26).toNat]))), some (.int (r / 26)), some (.int (k : Nat))], ?_, r / 26, _, _, rfl, Int.ediv_nonneg h0 (by decide), by simp [hl], ?_⟩
      · clear hz hk m0 m1 h0 hl h q0
        unfold b__law_name_v3_1
        walk_at "go"
      · intro z hz'
        rcases List.mem_append.mp hz' with q | q
        · exact hz z q
        · have : z = 97 + (r % 26).toNat := by simpa using q
          subst this; omega)
  obtain ⟨ρ', e, r, acc, x, rfl, h0, hl, hz⟩ := loop
  have la : 1 ≤ acc.length ∧ acc.length ≤ 8 := by rw [hl]; omega
  have r1 : rng1 [.int (1 + c % 8)] = .ok ((List.range (1 + c % 8).toNat).map fun (k : Nat) => .int k) := by
    show chk _ _ = _
    exact chk_pos (by omega)
  have e0 : Str.ofString "some" = S [115, 111, 109, 101] := by decide +kernel
  have e1' : Str.ofString "all" = S [97, 108, 108] := by decide +kernel
  have e2' : Str.ofString "and" = S [97, 110, 100] := by decide +kernel
  have e3 : Str.ofString "or" = S [111, 114] := by decide +kernel
  have e4 : Str.ofString "not" = S [110, 111, 116] := by decide +kernel
  have e5 : Str.ofString "yes" = S [121, 101, 115] := by decide +kernel
  have e6 : Str.ofString "no" = S [110, 111] := by decide +kernel
  have e7 : Str.ofString "q" = S [113] := by decide +kernel
  have ez : Str.ofString "" = S [] := rfl
  have e8 : mkLst [.str (S [115, 111, 109, 101]), .str (S [97, 108, 108]), .str (S [97, 110, 100]), .str (S [111, 114]), .str (S [110, 111, 116]), .str (S [121, 101, 115]), .str (S [110, 111])] = .ok (.lst (words.map fun w => .str (S w))) := chk_pos (by decide)
  have m5 := dMod_int (i := r) (j := 5) (by decide)
  have d5 := dDiv_int (i := r) (j := 5) (by decide) (show Sz 5 5 by unfold Sz; decide) (by decide)
  have m7 := dMod_int (i := r / 5) (j := 7) (by decide)
  have m0 : 0 ≤ r / 5 % 7 := Int.emod_nonneg _ (by decide)
  have m1 : r / 5 % 7 < 7 := Int.emod_lt_of_pos _ (by decide)
  obtain ⟨j, hj⟩ : ∃ j : Nat, r / 5 % 7 = (j : Int) := ⟨(r / 5 % 7).toNat, by omega⟩
  have hj7 : j < 7 := by omega
  obtain ⟨w, hw⟩ : ∃ w, words[j]? = some w := ⟨words[j]'(by show j < 7; exact hj7), List.getElem?_eq_getElem (by show j < 7; exact hj7)⟩
  have mw : w ∈ words := List.mem_of_getElem? hw
  have ww : 2 ≤ w.length ∧ w.length ≤ 4 ∧ ∀ c ∈ w, 97 ≤ c ∧ c ≤ 122 := by
    have : ∀ w ∈ words, 2 ≤ w.length ∧ w.length ≤ 4 ∧ ∀ c ∈ w, 97 ≤ c ∧ c ≤ 122 := by decide
    exact this w mw
  have g1 : dIx (.lst (words.map fun w => .str (S w))) (.int (r / 5 % 7)) = .ok (.str (S w)) := by
    rw [hj]; exact dIx_lst (by rw [List.getElem?_map, hw]; rfl)
  have g2 : dSl (.str (S acc)) none (some 4) = .ok (.str (S (acc.take 4))) := by
    rw [dSl_S (by omega)]
    exact congrArg (fun l => Out.ok (D.str (S l))) (cutD_take acc 4)
  have t4 : (acc.take 4).length ≤ 4 := by rw [List.length_take]; omega
  have g3 := dAdd_S (a := w) (b := acc.take 4) (by omega)
  have go : ∀ b : List Nat, 1 ≤ b.length → b.length ≤ 8 → (∀ z ∈ b, 97 ≤ z ∧ z ≤ 122) → (((r % 5 = 1) = True ∧ b = w ++ acc.take 4) ∨ ((r % 5 = 1) = False ∧ b = acc)) → ∃ x, m__law_name_v3 [.int c] = .ok (encN x) ∧ Nm8 x := fun b b1 b8 bl hb => by
    refine ⟨fit b, ?_, fit_nm8 b1 b8 bl⟩
    have e9 := in_wds b
    have e10 := dAdd_S (a := b) (b := [113]) (by simp; omega)
    clear la hl hz h0 q0 h m0 m1 hj hj7 hw mw ww t4 b1 b8 bl
    show _ = Out.ok (D.str (S (fit b)))
    unfold fit
    by_cases c2 : b ∈ words
    · rw [decide_eq_true c2] at e9
      rw [if_pos c2]
      clear c2
      rcases hb with ⟨z, rfl⟩ | ⟨z, rfl⟩
      · generalize w ++ List.take 4 acc = B at *
        generalize words.map (fun w => D.str (S w)) = WS at *
        unfold m__law_name_v3 b__law_name_v3
        walk_at "go"
      · clear g1 g2 g3
        generalize words.map (fun w => D.str (S w)) = WS at *
        unfold m__law_name_v3 b__law_name_v3
        walk_at "go"
    · rw [decide_eq_false c2] at e9
      rw [if_neg c2]
      clear c2
      rcases hb with ⟨z, rfl⟩ | ⟨z, rfl⟩
      · generalize w ++ List.take 4 acc = B at *
        generalize words.map (fun w => D.str (S w)) = WS at *
        unfold m__law_name_v3 b__law_name_v3
        walk_at "go"
      · clear g1 g2 g3
        generalize words.map (fun w => D.str (S w)) = WS at *
        unfold m__law_name_v3 b__law_name_v3
        walk_at "go"
  by_cases z : r % 5 = 1
  · refine go (w ++ acc.take 4) (by rw [List.length_append]; omega) (by rw [List.length_append]; omega) (fun q hq => ?_) (.inl ⟨eq_true z, rfl⟩)
    rcases List.mem_append.mp hq with y | y
    · exact ww.2.2 q y
    · exact hz q (List.mem_of_mem_take y)
  · exact go acc la.1 la.2 hz (.inr ⟨eq_false z, rfl⟩)
def Nk.kw : Nk → List Nat
  | .neg => kNot
  | .brk => [40]
  | .some => kSome
  | .all => kAll
def encNe (p : Ne) : D := .tup [.str (S p.1.kw), encN p.2]
theorem kw_asc (k : Nk) : Asc k.kw := by cases k <;> (unfold Asc; decide)
theorem kw_is {k : Nk} {w : List Nat} (hw : Asc w) : dEq (.str (S k.kw)) (.str (S w)) = .ok (.bl (decide (k.kw = w))) ∧ dNe (.str (S k.kw)) (.str (S w)) = .ok (.bl (!decide (k.kw = w))) :=
  ⟨dEq_Tx (okt_str (asc_okt (kw_asc k))) (okt_str (asc_okt hw)), dNe_Tx (okt_str (asc_okt (kw_asc k))) (okt_str (asc_okt hw))⟩
def nbrk (p : Ne) : Bool := !decide (p.1.kw = [40])
theorem nests_eq {ns : List Int} (hl : ns.length ≤ 63) {x : List Nat} (hx : Nm8 x) : ∃ l : List Ne, m__law_nests [.scr ns, encN x] = .ok (.lst (l.map encNe)) ∧ l.length ≤ 35 ∧ (∀ p ∈ l, NeOk p) ∧ (l.filter nbrk).length ≤ 11 := by
  obtain ⟨c1, e1, h1, b1⟩ := cellB ns 1
  have hxb : Nm8 ((x ++ [98]).take 8) := by
    refine ⟨⟨fun z => ?_, fun c hc => ?_, fun z => ?_⟩, by rw [List.length_take]; omega⟩
    · have := congrArg List.length z
      rw [List.length_take, List.length_append] at this
      simp at this
    · rcases List.mem_append.mp (List.mem_of_mem_take hc) with q | q
      · exact hx.r.let_ c q
      · simp at q; omega
    · by_cases l8 : x.length = 8
      · have : (x ++ [98]).take 8 = x := by rw [List.take_append_of_le_length (by omega), List.take_of_length_le (by omega)]
        rw [this] at z
        exact hx.r.no z
      · have := hx.len
        rw [List.take_of_length_le (by rw [List.length_append]; simp; omega)] at z
        have q : ∀ w ∈ words, w.getLast? ≠ some 98 := by decide
        exact q _ z (by simp)
  have f1 := dDiv_int (i := c1) (j := 6) (by decide) (show Sz 5 6 by unfold Sz; decide) (by decide)
  have f2 := dMod_int (i := c1 / 6) (j := 36) (by decide)
  have f3 := dDiv_int (i := c1) (j := 216) (by decide) (show Sz 8 216 by unfold Sz; decide) (by decide)
  have m0 : 0 ≤ c1 / 6 % 36 := Int.emod_nonneg _ (by decide)
  have m1 : c1 / 6 % 36 < 36 := Int.emod_lt_of_pos _ (by decide)
  obtain ⟨n, hn⟩ : ∃ n : Nat, c1 / 6 % 36 = (n : Int) := ⟨(c1 / 6 % 36).toNat, by omega⟩
  replace e1 : m__law_cell [.scr ns, .int 1] = .ok (.int c1) := e1
  have sl : dSl (.str (S (x ++ [98]))) none (some 8) = .ok (.str (S ((x ++ [98]).take 8))) := by
    rw [dSl_S (by have := hx.len; rw [List.length_append]; simp; omega)]
    exact congrArg (fun l => Out.ok (D.str (S l))) (cutD_take _ 8)
  have ab := dAdd_S (a := x) (b := [98]) (by have := hx.len; simp; omega)
  obtain ⟨ρ, er, l, y4, y5, y6, ey, ll, ok, lb⟩ := forL_range (G := gN 4) (b := b__law_nests_1)
    (fun k ρ => ∃ (l : List Ne) (y4 y5 y6 : Option D), ρ = [some (.scr ns), some (.str (S x)), some (.int (n : Nat)), some (.lst (l.map encNe)), y4, y5, y6, none, none] ∧ l.length = k ∧ (∀ p ∈ l, NeOk p) ∧ (l.filter nbrk).length ≤ 11)
    n (ρ := [some (.scr ns), some (.str (S x)), some (.int (n : Nat)), some (.lst []), none, none, none, none, none]) ⟨[], none, none, none, rfl, rfl, fun p hp => absurd hp List.not_mem_nil, by simp⟩ (by
      rintro k ρ hk ⟨l, y4, y5, y6, rfl, ll, ok, lb⟩
      have g1 : CMulX (c1 / 216) ((k : Int) + 1) := cmul_sz (n := 200) (m := 10) (by unfold Sz; omega) (by unfold Sz; omega) (by decide)
      have lx := hx.len
      obtain ⟨q, hq0, hq⟩ : ∃ q : Int, 0 ≤ q ∧ ((((ns.length : Int) > 2) = False ∧ q = c1 / 216 * ((k : Int) + 1)) ∨ (((ns.length : Int) > 2) = True ∧ ∃ (j : Int) (r : Int), (dSub (.int (ns.length : Nat)) (.int 2) = .ok (.int ((ns.length : Int) - 2))) ∧ dMod (.int (k : Nat)) (.int ((ns.length : Int) - 2)) = .ok (.int j) ∧ m__law_cell [.scr ns, .int (2 + j)] = .ok (.int r) ∧ dDiv (.int (k : Nat)) (.int ((ns.length : Int) - 2)) = .ok (.int ((k : Int) / ((ns.length : Int) - 2))) ∧ q = r + (k : Int) / ((ns.length : Int) - 2))) := by
        by_cases c : (ns.length : Int) > 2
        · have p0 : (0 : Int) < (ns.length : Int) - 2 := by omega
          have j0 : 0 ≤ (k : Int) % ((ns.length : Int) - 2) := Int.emod_nonneg _ (by omega)
          obtain ⟨m, hm⟩ : ∃ m : Nat, 2 + (k : Int) % ((ns.length : Int) - 2) = (m : Int) := ⟨(2 + (k : Int) % ((ns.length : Int) - 2)).toNat, by omega⟩
          obtain ⟨r, er, r0, _⟩ := cellB ns m
          rw [← hm] at er
          exact ⟨r + (k : Int) / ((ns.length : Int) - 2), by have := Int.ediv_nonneg (a := (k : Int)) (b := (ns.length : Int) - 2) (by omega) (by omega); omega, .inr ⟨eq_true c, _, r, rfl, dMod_int (by omega), er, dDiv_int (by omega) (show Sz 40 ((ns.length : Int) - 2) by unfold Sz; omega) (by decide), rfl⟩⟩
        · exact ⟨_, Int.mul_nonneg (by omega) (by omega), .inl ⟨eq_false c, rfl⟩⟩
      obtain ⟨kd, ek⟩ : ∃ kd : Nk, dIx (.lst [.str "not", .str "(", .str "some", .str "all", .str "("]) (.int (q % 5)) = .ok (.str (S kd.kw)) := by
        have : q % 5 = 0 ∨ q % 5 = 1 ∨ q % 5 = 2 ∨ q % 5 = 3 ∨ q % 5 = 4 := by omega
        rcases this with e | e | e | e | e <;> rw [e]
        · exact ⟨.neg, rfl⟩
        · exact ⟨.brk, rfl⟩
        · exact ⟨.some, rfl⟩
        · exact ⟨.all, rfl⟩
        · exact ⟨.brk, rfl⟩
      have mq := dMod_int (i := q) (j := 5) (by decide)
      have dq := dDiv_int (i := q) (j := 5) (by decide) (show Sz 5 5 by unfold Sz; decide) (by decide)
      have mq2 := dMod_int (i := q / 5) (j := 2) (by decide)
      obtain ⟨y, hy, ey⟩ : ∃ y, Nm8 y ∧ dIx (.lst [encN x, encN ((x ++ [98]).take 8)]) (.int (q / 5 % 2)) = .ok (encN y) := by
        have : q / 5 % 2 = 0 ∨ q / 5 % 2 = 1 := by omega
        rcases this with e | e <;> rw [e]
        · exact ⟨x, hx, rfl⟩
        · exact ⟨_, hxb, rfl⟩
      have lc : ∀ ρ : Env, ρ.length = 9 → lcL (gT [(gN 7), (gN 8)]) (tOf (e2 dNe (eV 7) (eC (.str (S [40]))))) (eV 7) ρ (l.map encNe) = .ok ((l.filter nbrk).map fun p => .str (S p.1.kw)) := fun ρ hρ => by
        refine lcL_filter encNe nbrk (fun p => .str (S p.1.kw)) l fun p hp => ?_
        match ρ, hρ with
        | [x0, x1, x2, x3, x4, x5, x6, x7, x8], _ =>
          have b2 := (kw_is (k := p.1) (w := [40]) (by unfold Asc; decide)).2
          have eo := e_op
          unfold encNe nbrk
          generalize p.1.kw = W at *
          by_cases cw : W = [40]
          · rw [decide_eq_true cw] at b2 ⊢
            clear cw
            walk_at "gor"
          · rw [decide_eq_false cw] at b2 ⊢
            clear cw
            walk_at "gor"
      have sz1 : ((l.filter nbrk).map fun p => D.str (S p.1.kw)).length ≤ sizeLine := len_ok (by rw [List.length_map]; omega)
      have sz2 : (l.map encNe).length < sizeLine := len_lt (by rw [List.length_map]; omega)
      have cl : cLen [.lst ((l.filter nbrk).map fun p => D.str (S p.1.kw))] = .ok (.int ((l.filter nbrk).length : Nat)) := by
        show Out.ok (D.int ((((l.filter nbrk).map fun p => D.str (S p.1.kw)).length : Nat) : Int)) = _
        rw [List.length_map]
      have fin : ∀ kd' : Nk, (¬ (l.filter nbrk).length > 10 ∨ kd' = .brk) → ((l ++ [(kd', y)]).length = k + 1 ∧ (∀ p ∈ l ++ [(kd', y)], NeOk p) ∧ ((l ++ [(kd', y)]).filter nbrk).length ≤ 11) := fun kd' hk' => by
        refine ⟨by rw [List.length_append, ll]; rfl, fun p hp => ?_, ?_⟩
        · rcases List.mem_append.mp hp with hp | hp
          · exact ok p hp
          · rw [List.mem_singleton.mp hp]; exact hy
        · rw [List.filter_append, List.length_append]
          rcases hk' with h | rfl
          · have : ([(kd', y)].filter nbrk).length ≤ 1 := List.length_filter_le _ _
            omega
          · rw [show [(Nk.brk, y)].filter nbrk = [] from rfl]
            exact lb
      have eb : Str.ofString "b" = S [98] := by decide +kernel
      have eo : Str.ofString "(" = S [40] := e_op
      have ek' : dIx (.lst [.str "not", .str (S [40]), .str "some", .str "all", .str (S [40])]) (.int (q % 5)) = .ok (.str (S kd.kw)) := by rw [← eo]; exact ek
      clear ek
      have ey' : dIx (.lst [.str (S x), .str (S ((x ++ [98]).take 8))]) (.int (q / 5 % 2)) = .ok (.str (S y)) := ey
      have lens : cLen [.scr ns] = .ok (.int (ns.length : Nat)) := rfl
      have mk5 : ∀ a b c d e : D, mkLst [a, b, c, d, e] = .ok (.lst [a, b, c, d, e]) := fun a b c d e => chk_pos (by show 5 ≤ sizeLine; decide)
      have mk2 : ∀ a b : D, mkLst [a, b] = .ok (.lst [a, b]) := fun a b => chk_pos (by show 2 ≤ sizeLine; decide)
      have mt2 : ∀ a b : D, mkTup [a, b] = .ok (.tup [a, b]) := fun a b => chk_pos (by show 2 ≤ sizeLine; decide)
      have ble := bLend_ap
      have fin2 : ∀ kd' : Nk, (l ++ [(kd', y)]).map encNe = l.map encNe ++ [.tup [.str (S kd'.kw), .str (S y)]] := fun kd' => by rw [List.map_append]; rfl
      have big : ∀ kd' : Nk, (((((l.filter nbrk).length : Nat) : Int) > 10) = True ∧ kd' = .brk ∨ ((((l.filter nbrk).length : Nat) : Int) > 10) = False ∧ kd' = kd) → (oS (gN 4 (.int (k : Nat)) [some (.scr ns), some (.str (S x)), some (.int (n : Nat)), some (.lst (l.map encNe)), y4, y5, y6, none, none]) b__law_nests_1).cont = .nx [some (.scr ns), some (.str (S x)), some (.int (n : Nat)), some (.lst (l.map encNe ++ [.tup [.str (S kd'.kw), .str (S y)]])), some (.int (k : Nat)), some (.int q), some (.str (S kd'.kw)), none, none] := fun kd' hc => by
        generalize l.map encNe = LE at *
        generalize ((l.filter nbrk).map fun p => D.str (S p.1.kw)) = LF at *
        generalize (x ++ [98]).take 8 = X8 at *
        rcases hc with ⟨z5, rfl⟩ | ⟨z5, rfl⟩
        · have brk : Nk.brk.kw = [40] := rfl
          rw [brk]
          rcases hq with ⟨z, hq⟩ | ⟨z, j, r, s1, s2, s3, s4, hq⟩
          · replace hq := hq.symm
            unfold b__law_nests_1
            walk_at "gor"
          · replace hq := hq.symm
            unfold b__law_nests_1
            walk_at "gor"
        · generalize kd'.kw = KW at *
          rcases hq with ⟨z, hq⟩ | ⟨z, j, r, s1, s2, s3, s4, hq⟩
          · replace hq := hq.symm
            unfold b__law_nests_1
            walk_at "gor"
          · replace hq := hq.symm
            unfold b__law_nests_1
            walk_at "gor"
      by_cases c10 : (l.filter nbrk).length > 10
      · obtain ⟨w1, w2, w3⟩ := fin .brk (.inr rfl)
        exact ⟨_, big .brk (.inl ⟨eq_true (by omega), rfl⟩), l ++ [(.brk, y)], _, _, _, by rw [fin2], w1, w2, w3⟩
      · obtain ⟨w1, w2, w3⟩ := fin kd (.inl c10)
        exact ⟨_, big kd (.inr ⟨eq_false (by omega), rfl⟩), l ++ [(kd, y)], _, _, _, by rw [fin2], w1, w2, w3⟩)
  subst ey
  refine ⟨l, ?_, by omega, ok, lb⟩
  have r1 : rng1 [.int (n : Nat)] = .ok ((List.range n).map fun (k : Nat) => .int k) := by
    show chk _ _ = _
    rw [chk_pos (by omega), Int.toNat_natCast]
  rw [hn] at f2
  show m__law_nests [.scr ns, .str (S x)] = _
  clear m0 m1 hn hx hxb sl ab h1 b1 f3 ok lb ll
  generalize l.map encNe = LE at *
  unfold m__law_nests b__law_nests
  walk_at "gor"
def oT : Ne → List Nat
  | (.neg, _) => kNot ++ [32]
  | (.brk, _) => [40, 32]
  | (.some, x) => kSome ++ ([32] ++ (x ++ [58, 32]))
  | (.all, x) => kAll ++ ([32] ++ (x ++ [58, 32]))
def oTs (l : List Ne) : List Nat := l.flatMap oT
def cT (c : Nat) : List Nat := (List.replicate c [32, 41]).flatten
def isBr (p : Ne) : Bool := decide (p.1.kw = [40])
def cnt (l : List Ne) : Nat := (l.filter isBr).length
theorem cT_succ (c : Nat) : cT (c + 1) = 32 :: 41 :: cT c := by unfold cT; rw [List.replicate_succ, List.flatten_cons]; rfl
theorem cT_len (c : Nat) : (cT c).length = 2 * c := by
  induction c with
  | zero => rfl
  | succ c ih => rw [cT_succ, List.length_cons, List.length_cons, ih]; omega
theorem stp_sp {r : List Nat} : Stp (32 :: r) := stp_cons (by decide)
theorem stp_cT (c : Nat) : Stp (cT c) := by
  cases c with
  | zero => exact ⟨(fun c e => by cases e), (fun c e => by cases e)⟩
  | succ c => rw [cT_succ]; exact stp_sp
theorem tk_close (c : Nat) : Tk (cT c) (List.replicate c [41]) := by
  induction c with
  | zero => exact .nil
  | succ c ih =>
    rw [cT_succ, List.replicate_succ]
    refine .sp ?_
    show Tk ([41] ++ cT c) ([41] :: _)
    refine tk_sign (by decide) (fun d e => ?_) ih
    cases c with
    | zero => cases e
    | succ c => rw [cT_succ] at e; cases e; rfl
theorem tk_nest {ut : List Nat} {u : List (List Nat)} (base : ∀ {rest : List Nat} {ws : List (List Nat)}, Stp rest → Tk rest ws → Tk (ut ++ rest) (u ++ ws)) : ∀ (l : List Ne) (c : Nat), (∀ p ∈ l, NeOk p) → Tk (oTs l ++ (ut ++ cT (cnt l + c))) (nW l u ++ List.replicate c [41])
  | [], c, _ => by
    show Tk (ut ++ cT (0 + c)) _
    rw [Nat.zero_add]
    exact base (stp_cT c) (tk_close c)
  | (.neg, x) :: l, c, h => by
    have ih := tk_nest base l c fun p hp => h p (List.mem_cons_of_mem _ hp)
    show Tk ((kNot ++ [32]) ++ oTs l ++ (ut ++ cT (cnt l + c))) (kNot :: (nW l u ++ List.replicate c [41]))
    rw [List.append_assoc, List.append_assoc]
    exact tk_letters kw_let.2.2.1.1 kw_let.2.2.1.2.1 kw_let.2.2.1.2.2 stp_sp.1 (.sp ih)
  | (.brk, x) :: l, c, h => by
    have ih := tk_nest base l (c + 1) fun p hp => h p (List.mem_cons_of_mem _ hp)
    have e : cnt ((Nk.brk, x) :: l) + c = cnt l + (c + 1) := by
      unfold cnt
      rw [List.filter_cons_of_pos (by rfl), List.length_cons]; omega
    rw [e]
    show Tk ([40] ++ (32 :: (oTs l ++ (ut ++ cT (cnt l + (c + 1)))))) ([40] :: (nW l u ++ [[41]] ++ List.replicate c [41]))
    rw [List.append_assoc, show [[41]] ++ List.replicate c [41] = List.replicate (c + 1) [41] from rfl]
    exact tk_sign (by decide) (fun d e => by cases e; rfl) (.sp ih)
  | (.some, x) :: l, c, h => by
    have ih := tk_nest base l c fun p hp => h p (List.mem_cons_of_mem _ hp)
    have hx : Nm8 x := h _ List.mem_cons_self
    show Tk ((kSome ++ ([32] ++ (x ++ [58, 32]))) ++ oTs l ++ (ut ++ cT (cnt l + c))) (kSome :: x :: [58] :: (nW l u ++ List.replicate c [41]))
    rw [List.append_assoc, List.append_assoc, List.append_assoc, List.append_assoc]
    refine tk_letters (by decide) (by decide) (by decide) stp_sp.1 (.sp ?_)
    refine tk_letters hx.r.ne hx.r.let_ hx.len (fun d e => by cases e; rfl) ?_
    show Tk ([58] ++ (32 :: _)) _
    exact tk_sign (by decide) (fun d e => by cases e; rfl) (.sp ih)
  | (.all, x) :: l, c, h => by
    have ih := tk_nest base l c fun p hp => h p (List.mem_cons_of_mem _ hp)
    have hx : Nm8 x := h _ List.mem_cons_self
    show Tk ((kAll ++ ([32] ++ (x ++ [58, 32]))) ++ oTs l ++ (ut ++ cT (cnt l + c))) (kAll :: x :: [58] :: (nW l u ++ List.replicate c [41]))
    rw [List.append_assoc, List.append_assoc, List.append_assoc, List.append_assoc]
    refine tk_letters (by decide) (by decide) (by decide) stp_sp.1 (.sp ?_)
    refine tk_letters hx.r.ne hx.r.let_ hx.len (fun d e => by cases e; rfl) ?_
    show Tk ([58] ++ (32 :: _)) _
    exact tk_sign (by decide) (fun d e => by cases e; rfl) (.sp ih)
theorem oT_asc {p : Ne} (h : NeOk p) : Asc (oT p) ∧ (oT p).length ≤ 16 := by
  obtain ⟨k, x⟩ := p
  have hx : Nm8 x := h
  have ax := asc_let hx.r.let_
  have lx := hx.len
  cases k with
  | neg => exact ⟨by show Asc (kNot ++ [32]); unfold Asc; decide, by show (kNot ++ [32]).length ≤ 16; decide⟩
  | brk => exact ⟨by show Asc [40, 32]; unfold Asc; decide, by show [40, 32].length ≤ 16; decide⟩
  | some =>
    refine ⟨asc_app (by unfold Asc; decide) (asc_app (by unfold Asc; decide) (asc_app ax (by unfold Asc; decide))), ?_⟩
    show (kSome ++ ([32] ++ (x ++ [58, 32]))).length ≤ 16
    simp only [List.length_append, List.length_cons, List.length_nil, kSome]; omega
  | all =>
    refine ⟨asc_app (by unfold Asc; decide) (asc_app (by unfold Asc; decide) (asc_app ax (by unfold Asc; decide))), ?_⟩
    show (kAll ++ ([32] ++ (x ++ [58, 32]))).length ≤ 16
    simp only [List.length_append, List.length_cons, List.length_nil, kAll]; omega
theorem oTs_asc : ∀ {l : List Ne}, (∀ p ∈ l, NeOk p) → Asc (oTs l) ∧ (oTs l).length ≤ 16 * l.length
  | [], _ => ⟨asc_nil, Nat.zero_le _⟩
  | p :: l, h => by
    obtain ⟨a, b⟩ := oTs_asc fun q hq => h q (List.mem_cons_of_mem _ hq)
    obtain ⟨c, d⟩ := oT_asc (h p List.mem_cons_self)
    refine ⟨asc_app c a, ?_⟩
    show (oT p ++ oTs l).length ≤ _
    rw [List.length_append, List.length_cons]; omega
theorem cT_asc (c : Nat) : Asc (cT c) := by
  induction c with
  | zero => exact asc_nil
  | succ c ih => rw [cT_succ]; exact fun d hd => by
                   rcases List.mem_cons.mp hd with rfl | hd
                   · decide
                   · rcases List.mem_cons.mp hd with rfl | hd
                     · decide
                     · exact ih d hd
theorem mul_cl {c : Nat} (h : c ≤ 35) : dMulS (.str (S [32, 41])) (.int (c : Nat)) = .ok (.str (S (cT c))) := by
  have key : ∀ c : Nat, c ≤ 35 → Txt.mul (S [32, 41]) (c : Nat) = S (cT c) := by decide +kernel
  exact (chk_pos ⟨by decide, by omega, by omega⟩).trans (congrArg (fun s => Out.ok (D.str s)) (key c h))
theorem text37_eq {l : List Ne} (ok : ∀ p ∈ l, NeOk p) (hl : l.length ≤ 35) {u : List Nat} (hu : u.length ≤ 100) : m__law_text_v3 [.lst (l.map encNe), .str (S u)] = .ok (.str (S (oTs l ++ (u ++ cT (cnt l))))) := by
  have g1 := e_some
  have g2 := e_all
  have g3 : Str.ofString " " = S [32] := by decide +kernel
  have g4 : Str.ofString ": " = S [58, 32] := by decide +kernel
  obtain ⟨ρ, er, y3, y4, ey⟩ := forL_inv encNe (G := gT [(gN 3), (gN 4)]) (b := b__law_text_v3_1) (fun pre ρ => ∃ y3 y4, ρ = [some (.lst (l.map encNe)), some (.str (S u)), some (.str (S (oTs pre))), y3, y4]) l
    (ρ := [some (.lst (l.map encNe)), some (.str (S u)), some (.str (S [])), none, none]) ⟨none, none, rfl⟩
    fun pre p post ρ ez ⟨y3, y4, e⟩ => by
      subst e
      have hp := ok p (by rw [ez]; simp)
      have ll := congrArg List.length ez
      rw [List.length_append, List.length_cons] at ll
      have lp := (oTs_asc (l := pre) fun q hq => ok q (by rw [ez]; exact List.mem_append_left _ hq)).2
      have ea : oTs (pre ++ [p]) = oTs pre ++ oT p := by unfold oTs; rw [List.flatMap_append]; simp
      rw [ea]
      generalize oTs pre = acc at *
      generalize l.map encNe = LE at *
      obtain ⟨k, x⟩ := p
      have hx : Nm8 x := hp
      have lx := hx.len
      have k1 := (kw_is (k := k) asc_kw.1).1
      have k2 := (kw_is (k := k) asc_kw.2.1).1
      have a1 : ∀ w : List Nat, w.length ≤ 4 → dAdd (.str (S acc)) (.str (S w)) = .ok (.str (S (acc ++ w))) := fun w hw => dAdd_S (by omega)
      have a2 : ∀ w : List Nat, w.length ≤ 4 → dAdd (.str (S (acc ++ w))) (.str (S [32])) = .ok (.str (S (acc ++ w ++ [32]))) := fun w hw => dAdd_S (by rw [List.length_append]; simp; omega)
      have a3 : ∀ w : List Nat, w.length ≤ 4 → dAdd (.str (S (acc ++ w ++ [32]))) (.str (S x)) = .ok (.str (S (acc ++ w ++ [32] ++ x))) := fun w hw => dAdd_S (by rw [List.length_append, List.length_append]; simp; omega)
      have a4 : ∀ w : List Nat, w.length ≤ 4 → dAdd (.str (S (acc ++ w ++ [32] ++ x))) (.str (S [58, 32])) = .ok (.str (S (acc ++ w ++ [32] ++ x ++ [58, 32]))) := fun w hw => dAdd_S (by rw [List.length_append, List.length_append, List.length_append]; simp; omega)
      have en : encNe (k, x) = .tup [.str (S k.kw), .str (S x)] := rfl
      rw [en]
      refine ⟨_, ?_, some (.str (S k.kw)), some (.str (S x)), rfl⟩
      clear lp ll ez hp hx ea
      cases k with
      | neg =>
        have b1 := a1 kNot (by decide)
        have b2 := a2 kNot (by decide)
        rw [show oT (.neg, x) = kNot ++ [32] from rfl, ← List.append_assoc]
        rw [decide_eq_false (by decide)] at k1 k2
        rw [show Nk.neg.kw = kNot from rfl] at *
        generalize kNot = KW at *
        clear a1 a2 a3 a4
        unfold b__law_text_v3_1
        walk_at "gor"
      | brk =>
        have b1 := a1 [40] (by decide)
        have b2 := a2 [40] (by decide)
        rw [show oT (.brk, x) = [40] ++ [32] from rfl, ← List.append_assoc]
        rw [decide_eq_false (by decide)] at k1 k2
        rw [show Nk.brk.kw = [40] from rfl] at *
        clear a1 a2 a3 a4
        unfold b__law_text_v3_1
        walk_at "gor"
      | some =>
        have b1 := a1 kSome (by decide)
        have b2 := a2 kSome (by decide)
        have b3 := a3 kSome (by decide)
        have b4 := a4 kSome (by decide)
        rw [show oT (.some, x) = kSome ++ ([32] ++ (x ++ [58, 32])) from rfl, ← List.append_assoc, ← List.append_assoc, ← List.append_assoc]
        rw [decide_eq_true (by rfl)] at k1
        rw [show Nk.some.kw = kSome from rfl] at *
        clear a1 a2 a3 a4 k2
        unfold b__law_text_v3_1
        walk_at "gor"
      | all =>
        have b1 := a1 kAll (by decide)
        have b2 := a2 kAll (by decide)
        have b3 := a3 kAll (by decide)
        have b4 := a4 kAll (by decide)
        rw [show oT (.all, x) = kAll ++ ([32] ++ (x ++ [58, 32])) from rfl, ← List.append_assoc, ← List.append_assoc, ← List.append_assoc]
        rw [decide_eq_false (by decide)] at k1
        rw [decide_eq_true (by rfl)] at k2
        rw [show Nk.all.kw = kAll from rfl] at *
        clear a1 a2 a3 a4
        unfold b__law_text_v3_1
        walk_at "gor"
  subst ey
  have g5 : Str.ofString " )" = S [32, 41] := by decide +kernel
  have g6 := e_op
  have g7 : Str.ofString "" = S [] := rfl
  have cn : cnt l ≤ 35 := Nat.le_trans (List.length_filter_le _ _) hl
  have lo := (oTs_asc ok).2
  have m1 := mul_cl cn
  have c2 := cT_len (cnt l)
  have a5 := dAdd_S (a := oTs l) (b := u) (by omega)
  have a6 := dAdd_S (a := oTs l ++ u) (b := cT (cnt l)) (by rw [List.length_append]; omega)
  rw [List.append_assoc] at a6
  have lc : ∀ ρ : Env, ρ.length = 5 → lcL (gT [(gN 3), (gN 4)]) (tOf (e2 dEq (eV 3) (eC (.str (S [40]))))) (eV 3) ρ (l.map encNe) = .ok ((l.filter isBr).map fun p => .str (S p.1.kw)) := fun ρ hρ => by
    refine lcL_filter encNe isBr (fun p => .str (S p.1.kw)) l fun p hp => ?_
    match ρ, hρ with
    | [x0, x1, x2, x3, x4], _ =>
      have b2 := (kw_is (k := p.1) (w := [40]) (by unfold Asc; decide)).1
      unfold encNe isBr
      generalize p.1.kw = W at *
      by_cases cw : W = [40]
      · rw [decide_eq_true cw] at b2 ⊢
        clear cw
        walk_at "gor"
      · rw [decide_eq_false cw] at b2 ⊢
        clear cw
        walk_at "gor"
  have sz0 : (l.map encNe).length ≤ sizeLine := len_ok (by rw [List.length_map]; omega)
  have sz1 : ((l.filter isBr).map fun p => D.str (S p.1.kw)).length ≤ sizeLine := len_ok (by rw [List.length_map]; show cnt l ≤ _; omega)
  have cl : cLen [.lst ((l.filter isBr).map fun p => D.str (S p.1.kw))] = .ok (.int (cnt l : Nat)) := by
    show Out.ok (D.int ((((l.filter isBr).map fun p => D.str (S p.1.kw)).length : Nat) : Int)) = _
    rw [List.length_map]; rfl
  clear ok hl hu cn lo c2 g1 g2 g3 g4
  generalize l.map encNe = LE at *
  generalize ((l.filter isBr).map fun p => D.str (S p.1.kw)) = LB at *
  generalize cT (cnt l) = CT at *
  generalize oTs l = OT at *
  unfold m__law_text_v3 b__law_text_v3
  walk_at "gor"
theorem due37_eq {l : List Ne} (hl : l.length ≤ 35) (s : Sn) : m__law_due_v8 [.lst (l.map encNe), eSn s] = .ok (eSn (nS l s)) := by
  have g1 := e_not
  have g2 := e_op
  obtain ⟨ρ, er, y2, y3, ey⟩ := forL_inv encNe (G := gT [(gN 2), (gN 3)]) (b := b__law_due_v8_1) (fun pre ρ => ∃ y2 y3, ρ = [some (.lst (l.map encNe)), some (eSn (nS pre.reverse s)), y2, y3]) l.reverse
    (ρ := [some (.lst (l.map encNe)), some (eSn s), none, none]) ⟨none, none, rfl⟩
    fun pre p post ρ ez ⟨y2, y3, e⟩ => by
      subst e
      rw [List.reverse_append, List.reverse_singleton, List.singleton_append]
      generalize pre.reverse = q
      generalize l.map encNe = LE at *
      obtain ⟨k, x⟩ := p
      have k1 := (kw_is (k := k) asc_kw.2.2.2.2.1).1
      have k2 := (kw_is (k := k) (w := [40]) (by unfold Asc; decide)).2
      have en : encNe (k, x) = .tup [.str (S k.kw), .str (S x)] := rfl
      have mk2 : ∀ a b : D, mkTup [a, b] = .ok (.tup [a, b]) := fun a b => chk_pos (by show 2 ≤ sizeLine; decide)
      have mk3 : ∀ a b c : D, mkTup [a, b, c] = .ok (.tup [a, b, c]) := fun a b c => chk_pos (by show 3 ≤ sizeLine; decide)
      rw [en]
      refine ⟨_, ?_, some (.str (S k.kw)), some (.str (S x)), rfl⟩
      clear ez
      cases k with
      | neg =>
        rw [decide_eq_true (by rfl)] at k1
        rw [show Nk.neg.kw = kNot from rfl] at *
        rw [show nS ((Nk.neg, x) :: q) s = .neg (nS q s) from rfl, show eSn (.neg (nS q s)) = .tup [.str (S kNot), eSn (nS q s)] by rw [eSn, ← g1]]
        generalize eSn (nS q s) = X at *
        clear k2
        unfold b__law_due_v8_1
        walk_at "gor"
      | brk =>
        rw [decide_eq_false (by decide)] at k1
        rw [decide_eq_true (by rfl)] at k2
        rw [show Nk.brk.kw = [40] from rfl] at *
        rw [show nS ((Nk.brk, x) :: q) s = nS q s from rfl]
        generalize eSn (nS q s) = X at *
        unfold b__law_due_v8_1
        walk_at "gor"
      | some =>
        rw [decide_eq_false (by decide)] at k1
        rw [decide_eq_false (by decide)] at k2
        rw [show Nk.some.kw = kSome from rfl] at *
        rw [show nS ((Nk.some, x) :: q) s = .some x (nS q s) from rfl, show eSn (.some x (nS q s)) = .tup [.str (S kSome), .str (S x), eSn (nS q s)] by rw [eSn, ← e_some]; rfl]
        generalize eSn (nS q s) = X at *
        unfold b__law_due_v8_1
        walk_at "gor"
      | all =>
        rw [decide_eq_false (by decide)] at k1
        rw [decide_eq_false (by decide)] at k2
        rw [show Nk.all.kw = kAll from rfl] at *
        rw [show nS ((Nk.all, x) :: q) s = .all x (nS q s) from rfl, show eSn (.all x (nS q s)) = .tup [.str (S kAll), .str (S x), eSn (nS q s)] by rw [eSn, ← e_all]; rfl]
        generalize eSn (nS q s) = X at *
        unfold b__law_due_v8_1
        walk_at "gor"
  subst ey
  rw [List.reverse_reverse, List.map_reverse] at *
  have rv := iRev_ap
  clear g1 g2 hl
  generalize l.map encNe = LE at *
  generalize eSn (nS l s) = Y at *
  generalize eSn s = X at *
  unfold m__law_due_v8 b__law_due_v8
  walk_at "gor"
theorem nS_depth (s : Sn) : ∀ l : List Ne, (nS l s).depth ≤ (l.filter nbrk).length + s.depth
  | [] => by show s.depth ≤ 0 + s.depth; omega
  | (.neg, x) :: l => by
    have := nS_depth s l
    rw [List.filter_cons_of_pos (by rfl), List.length_cons]
    show (nS l s).depth + 1 ≤ _; omega
  | (.brk, x) :: l => by
    have := nS_depth s l
    rw [List.filter_cons_of_neg (fun z => by cases (show false = true from z))]
    exact this
  | (.some, x) :: l => by
    have := nS_depth s l
    rw [List.filter_cons_of_pos (by rfl), List.length_cons]
    show (nS l s).depth + 1 ≤ _; omega
  | (.all, x) :: l => by
    have := nS_depth s l
    rw [List.filter_cons_of_pos (by rfl), List.length_cons]
    show (nS l s).depth + 1 ≤ _; omega
def uT (x sg : List Nat) (n : Nat) : List Nat := x ++ [32] ++ sg ++ [32] ++ it (n : Int)
theorem tk_unit {x sg : List Nat} (hx : Nm8 x) (hg : sg ∈ sgs) {n : Nat} (h30 : n < 10 ^ 30) {rest : List Nat} {ws : List (List Nat)} (hr : Stp rest) (h : Tk rest ws) : Tk (uT x sg n ++ rest) (uW x sg n ++ ws) := by
  unfold uT uW
  rw [List.append_assoc, List.append_assoc, List.append_assoc, List.append_assoc]
  show Tk (x ++ (32 :: (sg ++ (32 :: (it (n : Int) ++ rest))))) (x :: sg :: it (n : Int) :: ws)
  refine tk_letters hx.r.ne hx.r.let_ hx.len stp_sp.1 (.sp ?_)
  refine tk_sign hg (fun d e => by cases e; rfl) (.sp ?_)
  exact tk_figs (it_fg (by omega)) (it_30 (by omega) (by omega)) hr.2 h
theorem read37 {x sg : List Nat} (hx : Nm8 x) {w : Wd} {sw : Bool} (hg : SgOk sg w sw) (hs : sg ∈ sgs) {n : Nat} (h30 : n < 10 ^ 30) {l : List Ne} (ok : ∀ p ∈ l, NeOk p) (hl : l.length ≤ 35) :
    Asc (oTs l ++ (uT x sg n ++ cT (cnt l))) ∧ (30 < l.length → m_read [.str (S (oTs l ++ (uT x sg n ++ cT (cnt l))))] = .exc noText) ∧
    (l.length ≤ 30 → (l.filter nbrk).length ≤ 11 → m_read [.str (S (oTs l ++ (uT x sg n ++ cT (cnt l))))] = .ok (eSn (nS l (.cmp w (lfP x (swW sw) n)))) ∧ RdS (nS l (.cmp w (lfP x (swW sw) n))) ∧ (nS l (.cmp w (lfP x (swW sw) n))).depth ≤ 12) := by
  have cm := lfP_cm hx (way := swW sw) (n := (n : Int)) (by cases sw <;> simp [swW]) (by omega) (by omega)
  have tk := tk_nest (fun {rest} {ws} a b => tk_unit hx hs h30 (rest := rest) (ws := ws) a b) l 0 ok
  rw [Nat.add_zero, show List.replicate 0 [41] = ([] : List (List Nat)) from rfl, List.append_nil] at tk
  have lx := hx.len
  have s2 := (sgs_asc sg hs)
  have l30 := it_30 (k := (n : Int)) (by omega) (by omega)
  have au : Asc (uT x sg n) := asc_app (asc_app (asc_app (asc_app (asc_let hx.r.let_) (by unfold Asc; decide)) s2.1) (by unfold Asc; decide)) (asc_fg (it_fg (by omega)))
  have lu : (uT x sg n).length ≤ 50 := by
    unfold uT
    simp only [List.length_append, List.length_cons, List.length_nil]
    omega
  have cn : cnt l ≤ 35 := Nat.le_trans (List.length_filter_le _ _) hl
  have c2 := cT_len (cnt l)
  obtain ⟨ao, lo⟩ := oTs_asc ok
  have as : Asc (oTs l ++ (uT x sg n ++ cT (cnt l))) := asc_app ao (asc_app au (cT_asc _))
  have ll : (oTs l ++ (uT x sg n ++ cT (cnt l))).length ≤ 100000 := by rw [List.length_append, List.length_append]; omega
  obtain ⟨wo, _⟩ := tk_words tk as ll
  have at0 : At (nW l (uW x sg n)) 0 (nW l (uW x sg n)) := at_all _ []
  refine ⟨as, fun h => ?_, fun h hn => ?_⟩
  · have := nest_deep wo l 98 0 0 ok (by decide) (by omega) (by decide) at0
    exact readX_eq tk as ll (sent_x (N := 98) this)
  · have rs := nS_ok (s := .cmp w (lfP x (swW sw) n)) (.cmp cm) (fun z => by cases z) (fun z => by cases z) l ok
    have dp := nS_depth (.cmp w (lfP x (swW sw) n)) l
    have d1 : (Sn.cmp w (lfP x (swW sw) n)).depth = 1 := rfl
    have he : FS (hd (nW l (uW x sg n)) (0 + (nW l (uW x sg n)).length)) := .inl (hd_out (by omega))
    have := nest_unit wo (s := .cmp w (lfP x (swW sw) n)) (.cmp cm) (fun z => by cases z) (fun z => by cases z) (u := uW x sg n) (fun N d k hd ha hf => un_unit wo hx hg h30 hd ha hf.fa.fu.es) l 98 0 0 ok (by omega) (by omega) at0 he (by omega)
    have sn := sent_of wo rs.1 (by omega) this he
    rw [Nat.zero_add] at sn
    exact ⟨readR_eq tk as ll sn, rs.1, by omega⟩
theorem refused37 {t : List Nat} (h : m_read [.str (S t)] = .exc noText) : m__law_refused_v2 [.str (S t)] = .ok (.bl true) := by
  have h1 := fun g r ρ => hand_no (L := xL37) (c := "NoText") (d := "NoText") (f := g) (r := r) (ρ := ρ) (fs := []) (by decide +kernel)
  unfold noText at h
  unfold m__law_refused_v2 b__law_refused_v2
  walk_at "gor"
theorem law_true (ns : List Int) (hl : ns.length ≤ 63) (hb : ∀ z ∈ ns, Builtin.Int.intBits z ≤ 1048576) : m_law_v38 [.scr ns] = .ok (.bl true) := by
  obtain ⟨c0, e0, h0, _⟩ := cellB ns 0
  obtain ⟨c1, e1, h1, _⟩ := cellB ns 1
  obtain ⟨x, ex, hx⟩ := name37_eq h0
  obtain ⟨l, el, l35, ok, ln⟩ := nests_eq (ns := ns) hl hx
  have f1 := dDiv_int (i := c0) (j := 11) (by decide) (show Sz 5 11 by unfold Sz; decide) (by decide)
  have f2 := dMod_int (i := c0 / 11) (j := 1000000000000000000000000000000) (by decide)
  have n0 : 0 ≤ c0 / 11 % 1000000000000000000000000000000 := Int.emod_nonneg _ (by decide)
  have n1 : c0 / 11 % 1000000000000000000000000000000 < 1000000000000000000000000000000 := Int.emod_lt_of_pos _ (by decide)
  obtain ⟨n, hn⟩ : ∃ n : Nat, c0 / 11 % 1000000000000000000000000000000 = (n : Int) := ⟨(c0 / 11 % 1000000000000000000000000000000).toNat, by omega⟩
  have h30 : n < 10 ^ 30 := by omega
  rw [hn] at f2
  have f3 := dMod_int (i := c1) (j := 6) (by decide)
  have a0 : 0 ≤ c1 % 6 := Int.emod_nonneg _ (by decide)
  have a1 : c1 % 6 < 6 := Int.emod_lt_of_pos _ (by decide)
  have f4 := dDiv_int (i := c1 % 6) (j := 4) (by decide) (show Sz 5 4 by unfold Sz; decide) (by decide)
  obtain ⟨sg, w, sw, hg, hs, i1, i2, i3⟩ : ∃ sg w sw, SgOk sg w sw ∧ sg ∈ sgs ∧ dIx (.lst [.str "<", .str "<=", .str "=", .str "/=", .str ">", .str ">="]) (.int (c1 % 6)) = .ok (.str (S sg)) ∧ dIx (.lst [.str "less", .str "most", .str "equal", .str "unlike", .str "less", .str "most"]) (.int (c1 % 6)) = .ok (.str w.str) ∧ 1 - 2 * (c1 % 6 / 4) = swW sw := by
    have : c1 % 6 = 0 ∨ c1 % 6 = 1 ∨ c1 % 6 = 2 ∨ c1 % 6 = 3 ∨ c1 % 6 = 4 ∨ c1 % 6 = 5 := by omega
    rcases this with e | e | e | e | e | e <;> rw [e]
    · exact ⟨_, _, _, .lt, by decide, by rfl, by rfl, by rfl⟩
    · exact ⟨_, _, _, .le, by decide, by rfl, by rfl, by rfl⟩
    · exact ⟨_, _, _, .eq, by decide, by rfl, by rfl, by rfl⟩
    · exact ⟨_, _, _, .ne, by decide, by rfl, by rfl, by rfl⟩
    · exact ⟨_, _, _, .gt, by decide, by rfl, by rfl, by rfl⟩
    · exact ⟨_, _, _, .ge, by decide, by rfl, by rfl, by rfl⟩
  obtain ⟨lt, elt⟩ : ∃ lt, lt = l.take 30 := ⟨_, rfl⟩
  have okt : ∀ p ∈ lt, NeOk p := fun p hp => ok p (List.mem_of_mem_take (elt ▸ hp))
  have lt30 : lt.length ≤ 30 := by rw [elt, List.length_take]; omega
  have ltn : (lt.filter nbrk).length ≤ 11 := Nat.le_trans (List.Sublist.length_le (List.Sublist.filter _ (elt ▸ List.take_sublist _ _))) ln
  obtain ⟨_, rx, _⟩ := read37 hx hg hs h30 ok l35
  obtain ⟨_, _, rd⟩ := read37 hx hg hs h30 okt (by omega)
  obtain ⟨r1, r2, r3⟩ := rd lt30 ltn
  have lx := hx.len
  have s2 := (sgs_asc sg hs).2
  have l30 := it_30 (k := (n : Int)) (by omega) (by omega)
  have lu : (uT x sg n).length ≤ 50 := by
    unfold uT
    simp only [List.length_append, List.length_cons, List.length_nil]
    omega
  have t1 := text37_eq ok l35 (u := uT x sg n) (by omega)
  have t2 := text37_eq okt (by omega) (u := uT x sg n) (by omega)
  have du := due37_eq (l := lt) (by omega) (.cmp w (lfP x (swW sw) n))
  have al := law_alike_eq r2.dl (by omega)
  have sl : dSl (.lst (l.map encNe)) none (some 30) = .ok (.lst (lt.map encNe)) := by
    rw [dSl_lst, elt, List.map_take]
    exact congrArg (fun l => Out.ok (D.lst l)) (cutD_take _ 30)
  have cl : cLen [.lst (l.map encNe)] = .ok (.int (l.length : Nat)) := by
    show Out.ok (D.int (((l.map encNe).length : Nat) : Int)) = _
    rw [List.length_map]
  have rf : 30 < l.length → m__law_refused_v2 [.str (S (oTs l ++ (uT x sg n ++ cT (cnt l))))] = .ok (.bl true) := fun h => refused37 (rx h)
  have b1 := dAdd_S (a := x) (b := [32]) (by simp; omega)
  have b2 := dAdd_S (a := x ++ [32]) (b := sg) (by simp; omega)
  have b3 := dAdd_S (a := x ++ [32] ++ sg) (b := [32]) (by simp; omega)
  have b4 := dAdd_S (a := x ++ [32] ++ sg ++ [32]) (b := it (n : Int)) (by simp only [List.length_append, List.length_cons, List.length_nil]; omega)
  have b5 : cStr [.int (n : Nat)] = .ok (.str (S (it (n : Int)))) := cStr_int (n := 100) (sz_29 (by omega)) (by decide)
  have ut : x ++ [32] ++ sg ++ [32] ++ it (n : Int) = uT x sg n := rfl
  rw [ut] at b4
  have es : Str.ofString " " = S [32] := by decide +kernel
  have g1 : CMulX 2 (c1 % 6 / 4) := cmul_sz (n := 5) (m := 5) (by unfold Sz; decide) (by unfold Sz; omega) (by decide)
  have g2 : CMulX (swW sw) n := cmul_sz (n := 5) (m := 200) (by unfold Sz; cases sw <;> decide) (by unfold Sz; omega) (by decide)
  have mk2 : ∀ a b : D, mkTup [a, b] = .ok (.tup [a, b]) := fun a b => chk_pos (by show 2 ≤ sizeLine; decide)
  have mk1 : ∀ a : D, mkTup [a] = .ok (.tup [a]) := fun a => chk_pos (by show 1 ≤ sizeLine; decide)
  have mk0 : mkTup [] = .ok (.tup []) := chk_pos (by decide)
  have g4 : ∀ A B : D, dAdd (.lst [A]) (.lst [B]) = .ok (.lst [A, B]) := fun A B => dAdd_L (by simp)
  have ct1 : ∀ A : D, cTuple [.lst [A]] = .ok (.tup [A]) := fun A => rfl
  have ct2 : ∀ A B : D, cTuple [.lst [A, B]] = .ok (.tup [A, B]) := fun A B => rfl
  have mk6 : ∀ a b c d e f : D, mkLst [a, b, c, d, e, f] = .ok (.lst [a, b, c, d, e, f]) := fun a b c d e f => chk_pos (by show 6 ≤ sizeLine; decide)
  have ml1 : ∀ a : D, mkLst [a] = .ok (.lst [a]) := fun a => chk_pos (by show 1 ≤ sizeLine; decide)
  replace e0 : m__law_cell [.scr ns, .int 0] = .ok (.int c0) := e0
  replace e1 : m__law_cell [.scr ns, .int 1] = .ok (.int c1) := e1
  have ecmp : eSn (.cmp w (lfP x (swW sw) n)) = .tup [.str w.str, .tup ((lfP x (swW sw) n).map encQ)] := rfl
  rw [ecmp] at du
  have elf : (lfP x (swW sw) n).map encQ = if (n : Int) = 0 then [.tup [.tup [.tup [.str (S x), .int 1]], .int (swW sw)]] else [.tup [.tup [], .int (0 - swW sw * n)], .tup [.tup [.tup [.str (S x), .int 1]], .int (swW sw)]] := by
    unfold lfP
    split <;> rfl
  rw [elf] at du
  replace ex : m__law_name_v3 [.int c0] = .ok (.str (S x)) := ex
  replace el : m__law_nests [.scr ns, .str (S x)] = _ := el
  clear rx r2 r3 okt lt30 ltn ok ln l30 lu s2 lx hs hg n0 n1 h30 hn a0 a1 h0 h1 hx hl hb elf ecmp elt ut rd
  generalize l.map encNe = LE at *
  generalize lt.map encNe = LT at *
  generalize oTs l ++ (uT x sg n ++ cT (cnt l)) = T1 at *
  generalize oTs lt ++ (uT x sg n ++ cT (cnt lt)) = T2 at *
  generalize uT x sg n = UT at *
  generalize it (n : Int) = IT at *
  generalize eSn (nS lt (.cmp w (lfP x (swW sw) n))) = Y at *
  generalize w.str = WS at *
  by_cases c30 : l.length > 30
  · have rf := rf c30
    have c30' : ((l.length : Int) > 30) = True := eq_true (by omega)
    clear c30
    by_cases cz : (n : Int) = 0
    · rw [if_pos cz] at du
      have cz' : ((n : Int) = 0) = True := eq_true cz
      clear cz
      unfold m_law_v38 b_law_v38 b_law_v38_t1 b_law_v38_t2 b_law_v38_t3 b_law_v38_t4 b_law_v38_t5 b_law_v38_t6 b_law_v38_t7 b_law_v38_t8 b_law_v38_t9 b_law_v38_t10 b_law_v38_t11
      walk_at "gor"
    · rw [if_neg cz] at du
      have cz' : ((n : Int) = 0) = False := eq_false cz
      clear cz
      unfold m_law_v38 b_law_v38 b_law_v38_t1 b_law_v38_t2 b_law_v38_t3 b_law_v38_t4 b_law_v38_t5 b_law_v38_t6 b_law_v38_t7 b_law_v38_t8 b_law_v38_t9 b_law_v38_t10 b_law_v38_t11
      walk_at "gor"
  · have c30' : ((l.length : Int) > 30) = False := eq_false (by omega)
    clear c30 rf
    by_cases cz : (n : Int) = 0
    · rw [if_pos cz] at du
      have cz' : ((n : Int) = 0) = True := eq_true cz
      clear cz
      unfold m_law_v38 b_law_v38 b_law_v38_t1 b_law_v38_t2 b_law_v38_t3 b_law_v38_t4 b_law_v38_t5 b_law_v38_t6 b_law_v38_t7 b_law_v38_t8 b_law_v38_t9 b_law_v38_t10 b_law_v38_t11
      walk_at "gor"
    · rw [if_neg cz] at du
      have cz' : ((n : Int) = 0) = False := eq_false cz
      clear cz
      unfold m_law_v38 b_law_v38 b_law_v38_t1 b_law_v38_t2 b_law_v38_t3 b_law_v38_t4 b_law_v38_t5 b_law_v38_t6 b_law_v38_t7 b_law_v38_t8 b_law_v38_t9 b_law_v38_t10 b_law_v38_t11
      walk_at "gor"
end PD
open PySem PySem.W PyProof.Rows
set_option maxHeartbeats 0 in
theorem PySem.Challenge.cw_realsay_k37_thirty_within_one_another_holds : PySem.Challenge.rw_realsay_k37_thirty_within_one_another.Holds := by
  w_on; o_law; k_head; (case hw => w_witness2)
  k_fill
  refine L2.walk_ofB (l := PySem.Challenge.rw_realsay_k37_thirty_within_one_another) (n := 63) (k := 111) (x := "_law_script") (CX := fun w => L2.CX PySem.Challenge.rw_realsay_k37_thirty_within_one_another.prog w) (sp := fun w => PD.spLaw _) rfl (by decide) rfl ⟨rfl, by decide, by decide⟩ (fun w h Y => PySem.W.kIn_of Y) ?F (fun _ _ a ns hl hb _ hS => ⟨a, ns, rfl, hS, hl, hb, fun _ => rfl⟩) (fun w H s e s' h => PD.cx_no h)
  case F =>
    intro w mg fa h KX G hmg
    refine' PD.all_mk KX G hmg ?om_Reader ?op_Reader ?oh_Reader ?oo_Reader ?os_Reader ?ok_Reader ?oq_Reader ?on_Reader_words ?on_Reader_at ?a0 ?l0 ?c0 ?k0 ?a1 ?l1 ?c1 ?k1 ?a2 ?l2 ?c2 ?k2 ?a3 ?l3 ?c3 ?k3 ?a4 ?l4 ?c4 ?k4 ?a5 ?l5 ?c5 ?k5 ?a6 ?l6 ?c6 ?k6 ?a7 ?l7 ?c7 ?k7 ?a8 ?l8 ?c8 ?k8 ?a9 ?l9 ?c9 ?k9 ?a10 ?l10 ?c10 ?k10 ?a11 ?l11 ?c11 ?k11 ?a12 ?l12 ?c12 ?k12 ?a13 ?l13 ?c13 ?k13 ?a14 ?l14 ?c14 ?k14 ?a15 ?l15 ?c15 ?k15 ?a16 ?l16 ?c16 ?k16 ?a17 ?l17 ?c17 ?k17 ?a18 ?l18 ?c18 ?k18 ?a19 ?l19 ?c19 ?k19 ?a20 ?l20 ?c20 ?k20 ?a21 ?l21 ?c21 ?k21 ?a22 ?l22 ?c22 ?k22 ?a23 ?l23 ?c23 ?k23 ?a24 ?l24 ?c24 ?k24 ?a25 ?l25 ?c25 ?k25 ?a26_Reader ?i26 ?l26 ?c26 ?k26 ?a27_Reader ?i27 ?l27 ?c27 ?k27 ?a28_Reader ?i28 ?l28 ?c28 ?k28 ?a29_Reader ?i29 ?l29 ?c29 ?k29 ?a30_Reader ?i30 ?l30 ?c30 ?k30 ?a31_Reader ?i31 ?l31 ?c31 ?k31 ?a32_Reader ?i32 ?l32 ?c32 ?k32 ?a33_Reader ?i33 ?l33 ?c33 ?k33 ?a34_Reader ?i34 ?l34 ?c34 ?k34 ?a35_Reader ?i35 ?l35 ?c35 ?k35 ?a36_Reader ?i36 ?l36 ?c36 ?k36 ?a37_Reader ?i37 ?l37 ?c37 ?k37 ?a38_Reader ?i38 ?l38 ?c38 ?k38 ?a39_Reader ?i39 ?l39 ?c39 ?k39 ?z_abs ?z_all ?z_bool ?z_int ?z_isinstance ?z_len ?z_range ?z_reversed ?z_sorted ?z_str ?z_sum ?z_tuple ?z_zip ?g1_DEEPEST ?g1_FIGURES ?g1_LETTERS ?g1_NO ?g2_NO ?g3_NO ?g4_NO ?g1_SIGNS ?g2_SIGNS ?g3_SIGNS ?g4_SIGNS ?g1_WORDS ?g2_WORDS ?g3_WORDS ?g4_WORDS ?g1_YES ?g2_YES ?g3_YES ?g4_YES ?d1_MEANT ?d2_MEANT ?d3_MEANT ?d4_MEANT ?xm_RealError ?xl_RealError ?xb_RealError ?xc_RealError ?xm_NoText ?xl_NoText ?xb_NoText ?xc_NoText ?xb_all ?xb_re ?xb_xNoText PD.law_true
    (case om_Reader => k_is); (case op_Reader => k_is); (case oh_Reader => k_is); (case oo_Reader => k_is); (case os_Reader => k_is); (case ok_Reader => k_is); (case oq_Reader => k_is); (case on_Reader_words => k_is)
    (case on_Reader_at => k_is); (case a0 => k_is); (case l0 => k_is); (case c0 => k_is); (case k0 => k_is); (case a1 => k_is); (case l1 => k_is); (case c1 => k_is)
    (case k1 => k_is); (case a2 => k_is); (case l2 => k_is); (case c2 => k_is); (case k2 => k_is); (case a3 => k_is); (case l3 => k_is); (case c3 => k_is)
    (case k3 => k_is); (case a4 => k_is); (case l4 => k_is); (case c4 => k_is); (case k4 => k_is); (case a5 => k_is); (case l5 => k_is); (case c5 => k_is)
    (case k5 => k_is); (case a6 => k_is); (case l6 => k_is); (case c6 => k_is); (case k6 => k_is); (case a7 => k_is); (case l7 => k_is); (case c7 => k_is)
    (case k7 => k_is); (case a8 => k_is); (case l8 => k_is); (case c8 => k_is); (case k8 => k_is); (case a9 => k_is); (case l9 => k_is); (case c9 => k_is)
    (case k9 => k_is); (case a10 => k_is); (case l10 => k_is); (case c10 => k_is); (case k10 => k_is); (case a11 => k_is); (case l11 => k_is); (case c11 => k_is)
    (case k11 => k_is); (case a12 => k_is); (case l12 => k_is); (case c12 => k_is); (case k12 => k_is); (case a13 => k_is); (case l13 => k_is); (case c13 => k_is)
    (case k13 => k_is); (case a14 => k_is); (case l14 => k_is); (case c14 => k_is); (case k14 => k_is); (case a15 => k_is); (case l15 => k_is); (case c15 => k_is)
    (case k15 => k_is); (case a16 => k_is); (case l16 => k_is); (case c16 => k_is); (case k16 => k_is); (case a17 => k_is); (case l17 => k_is); (case c17 => k_is)
    (case k17 => k_is); (case a18 => k_is); (case l18 => k_is); (case c18 => k_is); (case k18 => k_is); (case a19 => k_is); (case l19 => k_is); (case c19 => k_is)
    (case k19 => k_is); (case a20 => k_is); (case l20 => k_is); (case c20 => k_is); (case k20 => k_is); (case a21 => k_is); (case l21 => k_is); (case c21 => k_is)
    (case k21 => k_is); (case a22 => k_is); (case l22 => k_is); (case c22 => k_is); (case k22 => k_is); (case a23 => k_is); (case l23 => k_is); (case c23 => k_is)
    (case k23 => k_is); (case a24 => k_is); (case l24 => k_is); (case c24 => k_is); (case k24 => k_is); (case a25 => k_is); (case l25 => k_is); (case c25 => k_is)
    (case k25 => k_is); (case a26_Reader => k_is); (case i26 => k_is); (case l26 => k_is); (case c26 => k_is); (case k26 => k_is); (case a27_Reader => k_is); (case i27 => k_is)
    (case l27 => k_is); (case c27 => k_is); (case k27 => k_is); (case a28_Reader => k_is); (case i28 => k_is); (case l28 => k_is); (case c28 => k_is); (case k28 => k_is)
    (case a29_Reader => k_is); (case i29 => k_is); (case l29 => k_is); (case c29 => k_is); (case k29 => k_is); (case a30_Reader => k_is); (case i30 => k_is); (case l30 => k_is)
    (case c30 => k_is); (case k30 => k_is); (case a31_Reader => k_is); (case i31 => k_is); (case l31 => k_is); (case c31 => k_is); (case k31 => k_is); (case a32_Reader => k_is)
    (case i32 => k_is); (case l32 => k_is); (case c32 => k_is); (case k32 => k_is); (case a33_Reader => k_is); (case i33 => k_is); (case l33 => k_is); (case c33 => k_is)
    (case k33 => k_is); (case a34_Reader => k_is); (case i34 => k_is); (case l34 => k_is); (case c34 => k_is); (case k34 => k_is); (case a35_Reader => k_is); (case i35 => k_is)
    (case l35 => k_is); (case c35 => k_is); (case k35 => k_is); (case a36_Reader => k_is); (case i36 => k_is); (case l36 => k_is); (case c36 => k_is); (case k36 => k_is)
    (case a37_Reader => k_is); (case i37 => k_is); (case l37 => k_is); (case c37 => k_is); (case k37 => k_is); (case a38_Reader => k_is); (case i38 => k_is); (case l38 => k_is)
    (case c38 => k_is); (case k38 => k_is); (case a39_Reader => k_is); (case i39 => k_is); (case l39 => k_is); (case c39 => k_is); (case k39 => k_is); (case z_abs => k_is)
    (case z_all => k_is); (case z_bool => k_is); (case z_int => k_is); (case z_isinstance => k_is); (case z_len => k_is); (case z_range => k_is); (case z_reversed => k_is); (case z_sorted => k_is)
    (case z_str => k_is); (case z_sum => k_is); (case z_tuple => k_is); (case z_zip => k_is); (case g1_DEEPEST => k_is); (case g1_FIGURES => k_is); (case g1_LETTERS => k_is); (case g1_NO => k_is)
    (case g2_NO => k_is); (case g3_NO => decide); (case g4_NO => (repeat (first | exact .nil | refine .cons ⟨_, rfl⟩ ?_))); (case g1_SIGNS => k_is); (case g2_SIGNS => k_is); (case g3_SIGNS => decide); (case g4_SIGNS => (repeat (first | exact .nil | refine .cons ⟨_, rfl⟩ ?_))); (case g1_WORDS => k_is)
    (case g2_WORDS => k_is); (case g3_WORDS => decide); (case g4_WORDS => (repeat (first | exact .nil | refine .cons ⟨_, rfl⟩ ?_))); (case g1_YES => k_is); (case g2_YES => k_is); (case g3_YES => decide); (case g4_YES => (repeat (first | exact .nil | refine .cons ⟨_, rfl⟩ ?_))); (case d1_MEANT => k_is)
    (case d2_MEANT => k_is); (case d3_MEANT => (unfold PD.DentP; kernel_rfl)); (case d4_MEANT => rfl); (case xm_RealError => k_is); (case xl_RealError => k_is); (case xb_RealError => kernel_rfl); (case xc_RealError => kernel_rfl); (case xm_NoText => k_is)
    (case xl_NoText => k_is); (case xb_NoText => kernel_rfl); (case xc_NoText => kernel_rfl); (case xb_all => kernel_rfl); (case xb_re => kernel_rfl); (case xb_xNoText => kernel_rfl)
