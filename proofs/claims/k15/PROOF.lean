import PyProof.Rows.All
import Wide.All
import OpenK.AllK
import Wide.FinOn
import PyProof.EqAt
import PyProof.EqKinds
import PyProof.TupleCall
import PyProof.TupleKey
import PyProof.DictRoadsH
import PyProof.DictMoreH
import PyProof.P3Eq
import HandS.ForMost
import HandS.ForExc
import HandS.Wide
import HandS.WideBits
import HandS.EndBits
import HandS.IsInst
import HandS.CallSlots
import HandS.NoneIn
import HandS.TupAny
import HandS.SetBool
import KE.SortData
import HandS.TupLe
import HandS.Conv
import HandS.More
import HandS.SetKeys
import HandS.Iter
import HandS.Rev
import HandS.Dict
import HandS.Deep
import KE.DataMinMax
import HandS.SortKw
import KE.KExcIs
import HandS.ExcInit
import HandS.ExcField
import HandS.DictEq
import KE.KxIndex
import HandS.RevRange
import HandS.FStr
import HandS.Text
import KE.KDictPairs
import HandS.Zip0
import KE.KIntText
import PySem.Challenge.RW_realsay_k15_the_sign_of_a_form
set_option Elab.async false
set_option linter.all false
set_option maxRecDepth 100000
set_option maxHeartbeats 4000000
namespace PD
open PySem PySem.Spec L2
open PyProof.Rows hiding St

mutual
def keyP : PyData → Bool
  | .int _ => true
  | .str x => PyData.strOk x
  | .tuple xs => keysP xs
  | _ => false
def keysP : List PyData → Bool
  | [] => true
  | x :: xs => keyP x && keysP xs
end
mutual
def hashP (w : World) : PyData → Int
  | .int i => hashInt i
  | .str x => hashStr w x
  | .tuple xs => reduceHash (Builtin.Tuple.tupleHashOf (hashesP w xs))
  | .bool b => PpSet.hB b
  | _ => 0
def hashesP (w : World) : List PyData → List Int
  | [] => []
  | x :: xs => hashP w x :: hashesP w xs
end
mutual
def drawsP : PyData → Nat
  | .tuple xs => drawsAP xs + 1
  | _ => 1
def drawsAP : List PyData → Nat
  | [] => 0
  | x :: xs => drawsP x + drawsAP xs
end
mutual
theorem keyP_lay : ∀ d : PyData, keyP d = true → d.canLay0 = true
  | .int _, _ => rfl
  | .str _, h => h
  | .tuple xs, h => keysP_lay xs h
  | .none, h => nomatch h
  | .bool _, h => nomatch h
  | .list _, h => nomatch h
  | .dict _, h => nomatch h
theorem keysP_lay : ∀ xs : List PyData, keysP xs = true → PyData.canLayAll0 xs = true
  | [], _ => rfl
  | x :: xs, h => by
    have h' : keyP x = true ∧ keysP xs = true := by simpa [keysP] using h
    simp [PyData.canLayAll0, keyP_lay x h'.1, keysP_lay xs h'.2]
end
mutual
theorem eqv_key : ∀ x y : PyData, keyP x = true → keyP y = true → (PyData.eqv x y = true ↔ x = y)
  | .int a, .int b, _, _ => by simp [PyData.eqv]
  | .int a, .str b, _, _ => by simp [PyData.eqv]
  | .int a, .tuple b, _, _ => by simp [PyData.eqv]
  | .str a, .int b, _, _ => by simp [PyData.eqv]
  | .str a, .str b, _, _ => by simp [PyData.eqv]
  | .str a, .tuple b, _, _ => by simp [PyData.eqv]
  | .tuple a, .int b, _, _ => by simp [PyData.eqv]
  | .tuple a, .str b, _, _ => by simp [PyData.eqv]
  | .tuple a, .tuple b, h, k => by
    rw [PyData.eqv, eqvAll_key a b h k]
    exact ⟨fun e => by rw [e], fun e => by cases e; rfl⟩
  | .none, _, h, _ => nomatch h
  | .bool _, _, h, _ => nomatch h
  | .list _, _, h, _ => nomatch h
  | .dict _, _, h, _ => nomatch h
  | .int _, .none, _, h => nomatch h
  | .int _, .bool _, _, h => nomatch h
  | .int _, .list _, _, h => nomatch h
  | .int _, .dict _, _, h => nomatch h
  | .str _, .none, _, h => nomatch h
  | .str _, .bool _, _, h => nomatch h
  | .str _, .list _, _, h => nomatch h
  | .str _, .dict _, _, h => nomatch h
  | .tuple _, .none, _, h => nomatch h
  | .tuple _, .bool _, _, h => nomatch h
  | .tuple _, .list _, _, h => nomatch h
  | .tuple _, .dict _, _, h => nomatch h
theorem eqvAll_key : ∀ xs ys : List PyData, keysP xs = true → keysP ys = true → (PyData.eqvAll xs ys = true ↔ xs = ys)
  | [], [], _, _ => by simp [PyData.eqvAll]
  | [], _ :: _, _, _ => by simp [PyData.eqvAll]
  | _ :: _, [], _, _ => by simp [PyData.eqvAll]
  | x :: xs, y :: ys, h, k => by
    have h' : keyP x = true ∧ keysP xs = true := by simpa [keysP] using h
    have k' : keyP y = true ∧ keysP ys = true := by simpa [keysP] using k
    rw [PyData.eqvAll, Bool.and_eq_true, eqv_key x y h'.1 k'.1, eqvAll_key xs ys h'.2 k'.2]
    simp
end
theorem keysP_mem : ∀ {xs : List PyData}, keysP xs = true → ∀ x ∈ xs, keyP x = true
  | [], _, x, h => nomatch h
  | y :: xs, z, x, h => by
    have z' : keyP y = true ∧ keysP xs = true := by simpa [keysP] using z
    rcases List.mem_cons.mp h with rfl | h
    · exact z'.1
    · exact keysP_mem z'.2 x h
mutual
def keyG : PyData → Bool
  | .int _ => true
  | .bool _ => true
  | .str x => PyData.strOk x
  | .tuple xs => keysG xs
  | _ => false
def keysG : List PyData → Bool
  | [] => true
  | x :: xs => keyG x && keysG xs
end
mutual
theorem keyG_lay : ∀ d : PyData, keyG d = true → d.canLay0 = true
  | .int _, _ => rfl
  | .bool _, _ => rfl
  | .str _, h => h
  | .tuple xs, h => keysG_lay xs h
  | .none, h => nomatch h
  | .list _, h => nomatch h
  | .dict _, h => nomatch h
theorem keysG_lay : ∀ xs : List PyData, keysG xs = true → PyData.canLayAll0 xs = true
  | [], _ => rfl
  | x :: xs, h => by
    have h' : keyG x = true ∧ keysG xs = true := by simpa [keysG] using h
    simp [PyData.canLayAll0, keyG_lay x h'.1, keysG_lay xs h'.2]
end
mutual
theorem keyP_G : ∀ d : PyData, keyP d = true → keyG d = true
  | .int _, _ => rfl
  | .str _, h => h
  | .tuple xs, h => keysP_G xs h
  | .bool _, h => nomatch h
  | .none, h => nomatch h
  | .list _, h => nomatch h
  | .dict _, h => nomatch h
theorem keysP_G : ∀ xs : List PyData, keysP xs = true → keysG xs = true
  | [], _ => rfl
  | x :: xs, h => by
    have h' : keyP x = true ∧ keysP xs = true := by simpa [keysP] using h
    simp [keysG, keyP_G x h'.1, keysP_G xs h'.2]
end
def keyB : PyData → Bool
  | .tuple (.bool _ :: xs) => keysP xs
  | .tuple (.int _ :: _) => false
  | .tuple xs => keysP xs
  | _ => false
theorem keyB_G : ∀ d : PyData, keyB d = true → keyG d = true
  | .tuple [], _ => rfl
  | .tuple (.bool b :: xs), h => by
    show (keyG (.bool b) && keysG xs) = true
    rw [keysP_G xs h]; rfl
  | .tuple (.str x :: xs), h => keysP_G (.str x :: xs) h
  | .tuple (.tuple x :: xs), h => keysP_G (.tuple x :: xs) h
  | .tuple (.int _ :: _), h => nomatch h
  | .tuple (.none :: _), h => nomatch h
  | .tuple (.list _ :: _), h => nomatch h
  | .tuple (.dict _ :: _), h => nomatch h
  | .int _, h => nomatch h
  | .str _, h => nomatch h
  | .bool _, h => nomatch h
  | .none, h => nomatch h
  | .list _, h => nomatch h
  | .dict _, h => nomatch h
theorem eqv_keyB (x y : PyData) (hx : keyB x = true) (hy : keyB y = true) : PyData.eqv x y = true ↔ x = y := by
  have tup : ∀ d : PyData, keyB d = true → ∃ xs, d = .tuple xs ∧ ((∃ b ys, xs = .bool b :: ys ∧ keysP ys = true) ∨ (keysP xs = true)) := fun d h => by
    match d, h with
    | .tuple [], _ => exact ⟨_, rfl, .inr rfl⟩
    | .tuple (.bool b :: xs), h => exact ⟨_, rfl, .inl ⟨b, xs, rfl, h⟩⟩
    | .tuple (.str x :: xs), h => exact ⟨_, rfl, .inr h⟩
    | .tuple (.tuple x :: xs), h => exact ⟨_, rfl, .inr h⟩
  obtain ⟨xs, rfl, h1⟩ := tup x hx
  obtain ⟨ys, rfl, h2⟩ := tup y hy
  rw [PyData.eqv]
  have inj : (PyData.tuple xs = .tuple ys) ↔ xs = ys := ⟨fun e => by cases e; rfl, fun e => by rw [e]⟩
  rw [inj]
  have nb : ∀ (b : Bool) (us vs : List PyData), keyB (.tuple vs) = true → keysP vs = true → PyData.eqvAll (.bool b :: us) vs = false ∧ PyData.eqvAll vs (.bool b :: us) = false := fun b us vs h k => by
    match vs, h, k with
    | [], _, _ => exact ⟨by simp [PyData.eqvAll], by simp [PyData.eqvAll]⟩
    | .str x :: vs, _, _ => exact ⟨by simp [PyData.eqvAll, PyData.eqv], by simp [PyData.eqvAll, PyData.eqv]⟩
    | .tuple x :: vs, _, _ => exact ⟨by simp [PyData.eqvAll, PyData.eqv], by simp [PyData.eqvAll, PyData.eqv]⟩
  rcases h1 with ⟨b, us, rfl, k1⟩ | k1 <;> rcases h2 with ⟨c, vs, rfl, k2⟩ | k2
  · rw [PyData.eqvAll, Bool.and_eq_true, eqvAll_key us vs k1 k2]
    have : PyData.eqv (.bool b) (.bool c) = true ↔ b = c := by cases b <;> cases c <;> simp [PyData.eqv]
    rw [this]
    constructor
    · rintro ⟨rfl, rfl⟩; rfl
    · intro e; cases e; exact ⟨rfl, rfl⟩
  · rw [(nb b us ys hy k2).1]
    constructor
    · intro e; cases e
    · intro e; subst e; exact absurd k2 (by simp [keysP, keyP])
  · rw [(nb c vs xs hx k1).2]
    constructor
    · intro e; cases e
    · intro e; subst e; exact absurd k1 (by simp [keysP, keyP])
  · exact eqvAll_key xs ys k1 k2
section
variable {h h' : Heap}
end
theorem keysG_mem : ∀ {xs : List PyData}, keysG xs = true → ∀ x ∈ xs, keyG x = true
  | [], _, x, h => nomatch h
  | y :: xs, z, x, h => by
    have z' : keyG y = true ∧ keysG xs = true := by simpa [keysG] using z
    rcases List.mem_cons.mp h with rfl | h
    · exact z'.1
    · exact keysG_mem z'.2 x h
theorem depth_mem : ∀ {ks : List PyData} {k : PyData}, k ∈ ks → k.depth ≤ PyData.depthAll ks
  | y :: ys, k, km => by
    simp only [PyData.depthAll]
    rcases List.mem_cons.mp km with rfl | q
    · exact Nat.le_max_left _ _
    · exact Nat.le_trans (depth_mem q) (Nat.le_max_right _ _)
theorem hashes_snoc (w : World) (y : PyData) : ∀ l : List PyData, hashesP w (l ++ [y]) = hashesP w l ++ [hashP w y]
  | [] => rfl
  | z :: l => by simp only [List.cons_append, hashesP, hashes_snoc w y l]
theorem draws_snoc (y : PyData) : ∀ l : List PyData, drawsAP (l ++ [y]) = drawsAP l + drawsP y
  | [] => by simp [drawsAP]
  | z :: l => by simp only [List.cons_append, drawsAP, draws_snoc y l, Nat.add_assoc]
theorem reads_list {h h' : Heap} {n : Nat} (ih : ∀ (d' : PyData) (v : Value) (as : List Addr), d'.depth ≤ n → keyG d' = true → Reads h v d' as → Reads h' v d' as) : ∀ {xs : List PyData} {vs : List Value} {as : List Addr}, PyData.depthAll xs ≤ n → keysG xs = true → ReadsAll h vs xs as → ReadsAll h' vs xs as
  | [], _, _, _, _, r => by cases r; exact .nil
  | x :: xs, _, _, hn, hk, r => by
    have q : keyG x = true ∧ keysG xs = true := by simpa [keysG] using hk
    simp only [PyData.depthAll] at hn
    cases r with
    | cons r1 r2 => exact .cons (ih x _ _ (Nat.le_trans (Nat.le_max_left _ _) hn) q.1 r1) (reads_list ih (Nat.le_trans (Nat.le_max_right _ _) hn) q.2 r2)

section
variable {prog : Program} {w : World}
theorem hash_key (n : Nat) : ∀ (d : PyData) (A : Around) (E : Value → Shared → Prop) (s : Shared) (v : Value) (as : List Addr) (Q : Int → Shared → Prop), d.depth ≤ n → keyG d = true → A.units + d.depth < cLine → Reads s.heap v d as →
    Q (hashP w d) { s with toks := s.toks + drawsP d } → wpAny (model prog w) A (pyHash v) Q E s := by
  induction n with
  | zero =>
    intro d A E s v as Q hn hk hu r h
    cases r with
    | int => exact wpAny_pyHash_int h
    | str => exact wpAny_pyHash_str h
    | tuple h1 h2 h3 h4 => simp [PyData.depth] at hn
    | none => exact nomatch hk
    | bool => exact PpSet.pyHash_bool h
    | list => exact nomatch hk
    | dict => exact nomatch hk
  | succ n ih =>
    intro d A E s v as Q hn hk hu r h
    cases r with
    | int => exact wpAny_pyHash_int h
    | str => exact wpAny_pyHash_str h
    | none => exact nomatch hk
    | bool => exact PpSet.pyHash_bool h
    | list => exact nomatch hk
    | dict => exact nomatch hk
    | @tuple a o items m ks as ho hc hd hi =>
    have hd' : PyData.depthAll ks ≤ n := by simpa [PyData.depth] using hn
    have hu' : A.units + (PyData.depthAll ks + 1) < cLine := by simpa [PyData.depth] using hu
    have hT : s.TypeIs (.ref a) "tuple" := ⟨o, ho, hc⟩
    unfold pyHash
    first | unfold pyHashByItsType | skip
    first | refine wpAny_bind (wpAny_cRoomFor_or (.inr (by omega)) ?_) | skip
    refine wpAny_bind (wpAny_specialOf hT F.slot_tuple_hash.lookup ?_)
    show wpAny _ _ (if (some (Value.builtin "tuple.__hash__") == some Value.none) = true then _ else _) Q E s
    rw [if_neg (by rw [beq_builtin_none]; exact Bool.false_ne_true)]
    refine wpAny_bind (wpAny_specialOf hT F.slot_tuple_hash.lookup ?_)
    show wpAny _ _ (callSpecialIfBoundUnlessNone? (.ref a) "__hash__" _ >>= _) Q E s
    refine wpAny_bind (wpAny_callSpecialIfBoundUnlessNone?_slot hT F.slot_tuple_hash (wpAny_call_entry F.slot_tuple_hash hT F.entry_tuple_hash ?_ (F.args_tuple_hash_1 _)))
    show wpAny _ _ (Builtin.Tuple.tupleItemsOf (.ref a) >>= _) _ _ s
    refine wpAny_bind (wpAny_tupleItemsOf ho hd ?_)
    refine wpAny_bind ?_
    rw [← Array.forIn_toList]
    refine wpAny_forIn_list _
      (fun rest (b : Array Int) s' => ∃ done left as2, ks = done ++ left ∧ ReadsAll s.heap rest left as2 ∧ b.toList = hashesP w done ∧ s' = { s with toks := s.toks + drawsAP done })
      _ ?_ ?_ _ _ ⟨[], ks, as, rfl, hi, rfl, rfl⟩
    · rintro x rest b s' ⟨done, left, as2, e, hl, hb, rfl⟩
      cases hl with
      | @cons _ _ k ks' bs cs h1 hl' =>
        have km : k ∈ ks := by rw [e]; simp
        have kk : keyG k = true := keysG_mem hk k km
        have kd : k.depth ≤ PyData.depthAll ks := depth_mem km
        refine wpAny_bind (ih k _ _ _ _ _ _ (Nat.le_trans kd hd') kk ?_ h1 ?_)
        · show A.units + 1 + k.depth < cLine
          omega
        · first
            | exact wpAny_pure ⟨done ++ [k], ks', cs, by rw [e]; simp, hl', by rw [hashes_snoc]; simp [hb], by rw [draws_snoc]; simp [Nat.add_assoc]⟩
            | exact wpAny_bind (wpAny_pure (wpAny_pure ⟨done ++ [k], ks', cs, by rw [e]; simp, hl', by rw [hashes_snoc]; simp [hb], by rw [draws_snoc]; simp [Nat.add_assoc]⟩))
    · rintro b s' ⟨done, left, as2, e, hl, hb, rfl⟩
      cases hl
      rw [List.append_nil] at e
      subst e
      have h : Q (reduceHash (Builtin.Tuple.tupleHashOf (hashesP w ks))) { s with toks := s.toks + (drawsAP ks + 1) } := h
      show wpAny _ _ (retInt (Builtin.Tuple.tupleHashOf b.toList)) _ _ _
      rw [hb]
      refine wpAny_ret_mkInt ?_
      show wpAny _ _ (if (decide (-(2 : Int) ^ 63 ≤ Builtin.Tuple.tupleHashOf (hashesP w ks)) && decide (Builtin.Tuple.tupleHashOf (hashesP w ks) < 2 ^ 63)) = true then _ else _) Q E _
      unfold reduceHash at h
      by_cases hr : (decide (-(2 : Int) ^ 63 ≤ Builtin.Tuple.tupleHashOf (hashesP w ks)) && decide (Builtin.Tuple.tupleHashOf (hashesP w ks) < 2 ^ 63)) = true
      · rw [if_pos hr]
        rw [if_pos hr] at h
        exact wpAny_pure (by simpa [Nat.add_assoc] using h)
      · rw [if_neg hr]
        rw [if_neg hr] at h
        exact wpAny_bind (wpAny_rule (wpAny_pure (by simpa [Nat.add_assoc] using h)))
theorem quiet_key (n : Nat) : ∀ (d : PyData) (A : Around) (E : Value → Shared → Prop) (s : Shared) (v : Value) (as : List Addr) (Q : Bool → Shared → Prop), d.depth ≤ n → keyG d = true → Reads s.heap v d as → Q true s →
    wpAny (model prog w) A (eqIsQuiet n v) Q E s := by
  induction n with
  | zero =>
    intro d A E s v as Q hn hk r h
    cases r with
    | int => rw [eqIsQuiet_byValue _ rfl]; exact wpAny_pure h
    | str => rw [eqIsQuiet_byValue _ rfl]; exact wpAny_pure h
    | tuple h1 h2 h3 h4 => simp [PyData.depth] at hn
    | none => exact nomatch hk
    | bool => rw [eqIsQuiet_byValue _ rfl]; exact wpAny_pure h
    | list => exact nomatch hk
    | dict => exact nomatch hk
  | succ n ih =>
    intro d A E s v as Q hn hk r h
    cases r with
    | int => rw [eqIsQuiet_byValue _ rfl]; exact wpAny_pure h
    | str => rw [eqIsQuiet_byValue _ rfl]; exact wpAny_pure h
    | none => exact nomatch hk
    | bool => rw [eqIsQuiet_byValue _ rfl]; exact wpAny_pure h
    | list => exact nomatch hk
    | dict => exact nomatch hk
    | @tuple a o items m ks as ho hc hd hi =>
    have hd' : PyData.depthAll ks ≤ n := by simpa [PyData.depth] using hn
    have hT : s.TypeIs (.ref a) "tuple" := ⟨o, ho, hc⟩
    unfold eqIsQuiet
    refine wpAny_bind (wpAny_specialOf hT F.slot_tuple_eq.lookup ?_)
    show wpAny _ _ (isInstance (.ref a) (.type "tuple") >>= _) _ _ s
    refine wpAny_bind (wpAny_isInstance hT isSubtype_tuple_tuple ?_)
    simp only [Bool.not_true, Bool.false_eq_true, if_false]
    refine wpAny_bind (wpAny_seqItems ho hd ?_)
    refine wpAny_bind ?_
    show wpAny _ _ (forIn items _ _) _ _ s
    rw [← Array.forIn_toList]
    refine wpAny_forIn_list _ (fun rest r s' => r.1 = none ∧ s' = s ∧ ∃ left as2, ReadsAll s.heap rest left as2 ∧ ∀ k ∈ left, k ∈ ks) _ ?_ ?_ _ _ ⟨rfl, rfl, ks, as, hi, fun _ q => q⟩
    · rintro v rest r s' ⟨hr, rfl, left, as2, hl, hm⟩
      cases hl with
      | @cons _ _ k ks' bs cs h1 hl' =>
        have km : k ∈ ks := hm k List.mem_cons_self
        have kk : keyG k = true := keysG_mem hk k km
        have kd : k.depth ≤ PyData.depthAll ks := depth_mem km
        refine wpAny_bind (ih k _ _ _ _ _ _ (Nat.le_trans kd hd') kk h1 ?_)
        simp only [Bool.not_true, Bool.false_eq_true, if_false]
        exact wpAny_pure ⟨rfl, rfl, ks', cs, hl', fun y q => hm y (List.mem_cons_of_mem _ q)⟩
    · rintro ⟨r1, r2⟩ s' ⟨hr, rfl, _⟩
      simp only at hr
      subst hr
      exact wpAny_pure h
end
noncomputable instance : DecidableEq PyData := Classical.typeDecidableEq _
structure TKey (d : PyData) : Prop where
  tup : ∃ xs, d = .tuple xs
  key : keyB d = true
  dep : d.depth ≤ 8
theorem of_same {h h' : Heap} {d : Addr} {o : Obj} {es ep} (ho : h.get? d = some o) (hd : o.data = .dict es ep) (hs : Heap.SameBut d h h') {a : Addr} {o' : Obj} {xs n} (e : h.get? a = some o') (z : o'.data = .seq xs n) : h'.get? a = some o' := by
  have hne : a ≠ d := by
    rintro rfl
    rw [ho] at e; cases e
    rw [hd] at z; exact nomatch z
  exact (hs.2 a hne).trans e
noncomputable def deepKind (prog : Program) (w : World) : HeapKind prog w PyData where
  is := fun h k a => TKey k ∧ ∃ as, Reads h (.ref a) k as
  hash := hashP w
  draws := drawsP
  room := fun A => A.units + 8 < cLine
  inj := fun ⟨k, as, r⟩ ⟨k', as', r'⟩ => SeqAt.Reads.unique _ _ _ _ _ (keyG_lay _ (keyB_G _ k.key)) r r'
  keeps := fun {h h' k a d o es ep} ⟨z, as, r⟩ ho hd hs => ⟨z, as, by
    have key : ∀ (n : Nat) (d' : PyData) (v : Value) (as : List Addr), d'.depth ≤ n → keyG d' = true → Reads h v d' as → Reads h' v d' as := by
      intro n
      induction n with
      | zero =>
        intro d' v as hn hk r
        cases r with
        | int => exact .int _ _
        | str => exact .str _ _
        | tuple h1 h2 h3 h4 => simp [PyData.depth] at hn
        | none => exact nomatch hk
        | bool => exact .bool _
        | list => exact nomatch hk
        | dict => exact nomatch hk
      | succ n ih =>
        intro d' v as hn hk r
        cases r with
        | int => exact .int _ _
        | str => exact .str _ _
        | tuple h1 h2 h3 h4 => exact .tuple (of_same ho hd hs h1 h3) h2 h3 (reads_list ih (by simpa [PyData.depth] using hn) hk h4)
        | none => exact nomatch hk
        | bool => exact .bool _
        | list => exact nomatch hk
        | dict => exact nomatch hk
    exact key _ k _ _ (Nat.le_refl _) (keyB_G _ z.key) r⟩
  pyHash := fun hu ⟨z, as, r⟩ h => hash_key _ _ _ _ _ _ _ _ (Nat.le_refl _) (keyB_G _ z.key) (by have := z.dep; omega) r h
  eqBool := fun {A E s x y a b Q} hu ⟨z, as, r⟩ ⟨z', as', r'⟩ h => by
    refine SeqAt.eqAt_reads x y A s _ _ _ _ r r' (keyG_lay _ (keyB_G _ z.key)) (keyG_lay _ (keyB_G _ z'.key)) ?_ prog w E Q ?_
    · have h1 := z.dep
      have h2 : min x.depth y.depth ≤ x.depth := Nat.min_le_left _ _
      omega
    · have e : PyData.eqv x y = decide (x = y) := by
        by_cases q : x = y
        · rw [decide_eq_true q, (eqv_keyB x y z.key z'.key).mpr q]
        · rw [decide_eq_false q]
          cases hh : PyData.eqv x y with
          | false => rfl
          | true => exact absurd ((eqv_keyB x y z.key z'.key).mp hh) q
      rw [e]
      exact h
  quiet := fun ⟨z, as, r⟩ h => quiet_key 8 _ _ _ _ _ _ _ z.dep (keyB_G _ z.key) r h
end PD

namespace PD
open PySem PySem.Spec L2
open PyProof.Rows hiding St

inductive D where
  | non | bl (b : Bool) | int (i : Int) | str (x : Str) | ty (n : String)
  | scr (ns : List Int) | tup (xs : List D) | lst (xs : List D) | dic (kvs : List (D × D)) | ins (c : Str) (fs : List (Str × D)) | adr (a : Addr)
  | exn (c : Str) (fs : List (Str × D)) | cls (c : Str)

mutual
def toPy : D → PyData
  | .non => .none
  | .bl b => .bool b
  | .int i => .int i
  | .str x => .str x
  | .ty _ => .dict []
  | .scr ns => .list (ns.map .int)
  | .tup ds => .tuple (toPys ds)
  | .lst ds => .list (toPys ds)
  | .dic _ => .dict []
  | .ins _ _ => .dict []
  | .adr _ => .dict []
  | .exn _ _ => .dict []
  | .cls _ => .dict []
def toPys : List D → List PyData
  | [] => []
  | d :: ds => toPy d :: toPys ds
end
structure Mg where
  f : Str → Option Value
  w : World
def dT (w : World) (a : Addr) (zs : List (PyData × Addr × V)) : HO := .ext fun h => zs ≠ [] ∧ (a == sysModules) = false ∧ zs.length ≤ sizeLine ∧ ∃ xs : List (PyData × Addr × Value), Paired (fun p q => p.1 = q.1 ∧ p.2.1 = q.2.1 ∧ RelV p.2.2 q.2.2) zs xs ∧
  ∃ o es ep, h.get? a = some o ∧ o.ExactDict ∧ o.data = .dict es ep ∧ es.toList = xs.map (fun x => ⟨hashP w x.1, .ref x.2.1, x.2.2⟩) ∧ (xs.map (·.1)).Nodup
def exH (a : Addr) (C : Value) (dd : Option Addr) : HO := .ext fun h => ∃ oe vs, h.get? a = some oe ∧ Zc C dd oe ∧ oe.data = .fields vs
def kD : Key → D
  | .inl i => .int i
  | .inr x => .str x

def SqT (K : PySem.W.Frag) (H : Hp) (a : Addr) (xs : List V) : Prop :=
  (∃ o : Obj, H a = some (.frz o (.tup xs)) ∧ o.dict = none) ∨
    ∃ (o : Obj) (its : Array Value) (n : Nat), K.lookup a = some o ∧ o.cls = .type "tuple" ∧ o.dict = none ∧ o.data = .seq its n ∧ its.size ≤ sizeLine ∧ Vals xs its.toList
theorem SqT.l {K : PySem.W.Frag} {H : Hp} {a : Addr} {xs : List V} (h : SqT K H a xs) : L2.SqT K H a xs := by
  rcases h with ⟨o, h, _⟩ | ⟨o, its, n, h1, h2, _, h3⟩
  · exact .inl (.inr ⟨o, h⟩)
  · exact .inr ⟨o, its, n, h1, h2, h3⟩
theorem SqT.frz {K : PySem.W.Frag} {H : Hp} {a : Addr} {xs : List V} {o : Obj} (h : H a = some (.frz o (.tup xs))) (d : o.dict = none) : SqT K H a xs := .inl ⟨o, h, d⟩
mutual
def IsD (K : PySem.W.Frag) (mg : Mg) (H : Hp) : D → V → Prop
  | .non, v => v = .non
  | .bl b, v => v = .bl b
  | .int i, v => v = .int i
  | .str x, v => v = .str x
  | .ty n, v => v = .ty n
  | .scr ns, v => ∃ a, v = .ref a ∧ SqL K H a (ns.map V.int)
  | .tup ds, v => ∃ a xs, v = .ref a ∧ SqT K H a xs ∧ IsDs K mg H ds xs
  | .lst ds, v => ∃ a xs, v = .ref a ∧ H a = some (.lst xs) ∧ IsDs K mg H ds xs
  | .dic kvs, v => ∃ a o, v = .ref a ∧ Rd H a o ∧ ((∃ xs, o = .dK xs ∧ IsKVs K mg H kvs xs) ∨ ∃ zs, o = dT mg.w a zs ∧ IsKTs K mg H kvs zs)
  | .ins c fs, v => ∃ a o, v = .ref a ∧ H a = some o ∧ ∃ C dx xs, o = .ins C dx xs ∧ mg.f c = some (.ref C) ∧ IsFs K mg H fs xs
  | .adr a, v => v = .ref a
  | .exn c fs, v => ∃ a C dd, v = .ref a ∧ mg.f c = some (.ref C) ∧ Rd H a (exH a (.ref C) dd) ∧ ((fs = [] ∧ dd = none) ∨ ∃ d xs, dd = some d ∧ H d = some (.xd xs) ∧ IsFs K mg H fs xs)
  | .cls c, v => ∃ C, v = .ref C ∧ mg.f c = some (.ref C)
def IsDs (K : PySem.W.Frag) (mg : Mg) (H : Hp) : List D → List V → Prop
  | [], xs => xs = []
  | d :: ds, xs => ∃ v vs, xs = v :: vs ∧ IsD K mg H d v ∧ IsDs K mg H ds vs
def IsKVs (K : PySem.W.Frag) (mg : Mg) (H : Hp) : List (D × D) → List (Key × V) → Prop
  | [], xs => xs = []
  | p :: ds, xs => ∃ v vs, xs = v :: vs ∧ IsKV K mg H p v ∧ IsKVs K mg H ds vs
def IsKV (K : PySem.W.Frag) (mg : Mg) (H : Hp) : D × D → Key × V → Prop
  | (k, d), p => k = kD p.1 ∧ IsD K mg H d p.2
def IsKTs (K : PySem.W.Frag) (mg : Mg) (H : Hp) : List (D × D) → List (PyData × Addr × V) → Prop
  | [], xs => xs = []
  | p :: ds, xs => ∃ v vs, xs = v :: vs ∧ IsKT K mg H p v ∧ IsKTs K mg H ds vs
def IsKT (K : PySem.W.Frag) (mg : Mg) (H : Hp) : D × D → PyData × Addr × V → Prop
  | (k, d), p => p.1 = toPy k ∧ TKey (toPy k) ∧ IsD K mg H k (.ref p.2.1) ∧ IsD K mg H d p.2.2
def IsFs (K : PySem.W.Frag) (mg : Mg) (H : Hp) : List (Str × D) → List (Str × V) → Prop
  | [], xs => xs = []
  | p :: ds, xs => ∃ v vs, xs = v :: vs ∧ IsF K mg H p v ∧ IsFs K mg H ds vs
def IsF (K : PySem.W.Frag) (mg : Mg) (H : Hp) : Str × D → Str × V → Prop
  | (k, d), p => k = p.1 ∧ IsD K mg H d p.2
end

theorem Same.seqT {K : PySem.W.Frag} {H H' : Hp} {a : Addr} {xs : List V} (e : Same H H') (h : SqT K H a xs) : SqT K H' a xs := by
  rcases h with ⟨o, h, d⟩ | h
  · exact .inl ⟨o, e _ _ h, d⟩
  · exact .inr h
theorem Same.rd {H H' : Hp} {a : Addr} {u : HO} (e : Same H H') (h : Rd H a u) : Rd H' a u := by
  rcases h with h | ⟨o, h⟩
  · exact .inl (e _ _ h)
  · exact .inr ⟨o, e _ _ h⟩

section
variable {K : PySem.W.Frag} {mg : Mg} {H H' : Hp}
mutual
theorem IsD.mono (s : Same H H') : ∀ {d : D} {v : V}, IsD K mg H d v → IsD K mg H' d v
  | .non, _, h => by simpa only [IsD] using h
  | .bl _, _, h => by simpa only [IsD] using h
  | .int _, _, h => by simpa only [IsD] using h
  | .str _, _, h => by simpa only [IsD] using h
  | .ty _, _, h => by simpa only [IsD] using h
  | .tup _, _, h => by
    simp only [IsD] at h ⊢
    obtain ⟨a, xs, e, q, r⟩ := h
    exact ⟨a, xs, e, Same.seqT s q, IsDs.mono s r⟩
  | .lst _, _, h => by
    simp only [IsD] at h ⊢
    obtain ⟨a, xs, e, q, r⟩ := h
    exact ⟨a, xs, e, s _ _ q, IsDs.mono s r⟩
  | .scr _, _, h => by
    simp only [IsD] at h ⊢
    obtain ⟨a, e, q⟩ := h
    exact ⟨a, e, s.seq q⟩
  | .dic _, _, h => by
    simp only [IsD] at h ⊢
    obtain ⟨a, o, e, q, r⟩ := h
    refine ⟨a, o, e, Same.rd s q, ?_⟩
    rcases r with ⟨xs, eo, r⟩ | ⟨xs, eo, r⟩
    · exact .inl ⟨xs, eo, IsKVs.mono s r⟩
    · exact .inr ⟨xs, eo, IsKTs.mono s r⟩
  | .adr _, _, h => by simpa only [IsD] using h
  | .ins _ _, _, h => by
    simp only [IsD] at h ⊢
    obtain ⟨a, o, e, q, C, dx, xs, eo, m, r⟩ := h
    exact ⟨a, o, e, s _ _ q, C, dx, xs, eo, m, IsFs.mono s r⟩
  | .exn _ _, _, h => by
    simp only [IsD] at h ⊢
    obtain ⟨a, C, dd, e, m, q, r⟩ := h
    refine ⟨a, C, dd, e, m, Same.rd s q, ?_⟩
    rcases r with r | ⟨d, xs, ed, q2, r⟩
    · exact .inl r
    · exact .inr ⟨d, xs, ed, s _ _ q2, IsFs.mono s r⟩
  | .cls _, _, h => by simpa only [IsD] using h
theorem IsDs.mono (s : Same H H') : ∀ {d : List D} {v : List V}, IsDs K mg H d v → IsDs K mg H' d v
  | [], _, h => by simpa only [IsDs] using h
  | _ :: _, _, h => by
    simp only [IsDs] at h ⊢
    obtain ⟨v, vs, e, q, r⟩ := h
    exact ⟨v, vs, e, IsD.mono s q, IsDs.mono s r⟩
theorem IsKVs.mono (s : Same H H') : ∀ {d : List (D × D)} {v : List (Key × V)}, IsKVs K mg H d v → IsKVs K mg H' d v
  | [], _, h => by simpa only [IsKVs] using h
  | _ :: _, _, h => by
    simp only [IsKVs] at h ⊢
    obtain ⟨v, vs, e, q, r⟩ := h
    exact ⟨v, vs, e, IsKV.mono s q, IsKVs.mono s r⟩
theorem IsKV.mono (s : Same H H') : ∀ {d : D × D} {v : Key × V}, IsKV K mg H d v → IsKV K mg H' d v
  | (_, _), _, h => by
    simp only [IsKV] at h ⊢
    exact ⟨h.1, IsD.mono s h.2⟩
theorem IsKTs.mono (s : Same H H') : ∀ {d : List (D × D)} {v : List (PyData × Addr × V)}, IsKTs K mg H d v → IsKTs K mg H' d v
  | [], _, h => by simpa only [IsKTs] using h
  | _ :: _, _, h => by
    simp only [IsKTs] at h ⊢
    obtain ⟨v, vs, e, q, r⟩ := h
    exact ⟨v, vs, e, IsKT.mono s q, IsKTs.mono s r⟩
theorem IsKT.mono (s : Same H H') : ∀ {d : D × D} {v : PyData × Addr × V}, IsKT K mg H d v → IsKT K mg H' d v
  | (_, _), _, h => by
    simp only [IsKT] at h ⊢
    exact ⟨h.1, h.2.1, IsD.mono s h.2.2.1, IsD.mono s h.2.2.2⟩
theorem IsFs.mono (s : Same H H') : ∀ {d : List (Str × D)} {v : List (Str × V)}, IsFs K mg H d v → IsFs K mg H' d v
  | [], _, h => by simpa only [IsFs] using h
  | _ :: _, _, h => by
    simp only [IsFs] at h ⊢
    obtain ⟨v, vs, e, q, r⟩ := h
    exact ⟨v, vs, e, IsF.mono s q, IsFs.mono s r⟩
theorem IsF.mono (s : Same H H') : ∀ {d : Str × D} {v : Str × V}, IsF K mg H d v → IsF K mg H' d v
  | (_, _), _, h => by
    simp only [IsF] at h ⊢
    exact ⟨h.1, IsD.mono s h.2⟩
end
def DicAt (K : PySem.W.Frag) (mg : Mg) (H : Hp) (kvs : List (D × D)) (a : Addr) (o : HO) : Prop := (∃ xs, o = .dK xs ∧ IsKVs K mg H kvs xs) ∨ ∃ zs, o = dT mg.w a zs ∧ IsKTs K mg H kvs zs
def InsAt (K : PySem.W.Frag) (mg : Mg) (H : Hp) (c : Str) (fs : List (Str × D)) (o : HO) : Prop := ∃ C dx xs, o = .ins C dx xs ∧ mg.f c = some (.ref C) ∧ IsFs K mg H fs xs
theorem InsAt.mono (s : Same H H') {c : Str} {fs : List (Str × D)} {o : HO} (h : InsAt K mg H c fs o) : InsAt K mg H' c fs o := by
  obtain ⟨C, dx, xs, eo, m, r⟩ := h
  exact ⟨C, dx, xs, eo, m, IsFs.mono s r⟩
theorem DicAt.mono (s : Same H H') {kvs : List (D × D)} {a : Addr} {o : HO} (h : DicAt K mg H kvs a o) : DicAt K mg H' kvs a o := by
  rcases h with ⟨xs, eo, r⟩ | ⟨xs, eo, r⟩
  · exact .inl ⟨xs, eo, IsKVs.mono s r⟩
  · exact .inr ⟨xs, eo, IsKTs.mono s r⟩
end
end PD

namespace PD
open PySem PySem.Spec L2
open PyProof.Rows hiding St

abbrev _root_.L2.Cx.mw (X : Cx) : Mg := ⟨X.mg, X.w⟩
structure Exn where
  cls : Str
  fs : List (Str × D)
inductive Out (α : Type) where
  | ok (a : α) | exc (x : Exn) | stuck
def Out.bind {α β : Type} (o : Out α) (k : α → Out β) : Out β := match o with
  | .ok a => k a
  | .exc x => .exc x
  | .stuck => .stuck
@[simp] theorem Out.bind_ok {α β : Type} (a : α) (k : α → Out β) : (Out.ok a).bind k = k a := rfl
@[simp] theorem Out.bind_exc {α β : Type} (x : Exn) (k : α → Out β) : (Out.exc x).bind k = .exc x := rfl
@[simp] theorem Out.bind_stuck {α β : Type} (k : α → Out β) : (Out.stuck : Out α).bind k = .stuck := rfl
noncomputable def chk {α : Type} (p : Prop) (o : Out α) : Out α := @ite _ p (Classical.propDecidable p) o .stuck
theorem chk_pos {α : Type} {p : Prop} {o : Out α} (h : p) : chk p o = o := if_pos h
theorem chk_neg {α : Type} {p : Prop} {o : Out α} (h : ¬ p) : chk p o = .stuck := if_neg h
abbrev Env := List (Option D)
inductive SO where
  | nx (r : Env) | rt (d : D) | bk (r : Env) | ct (r : Env) | ex (x : Exn) | stuck

def D.mut : D → Bool
  | .lst _ => true
  | .dic _ => true
  | .ins _ _ => true
  | _ => false

structure G where
  H0 : Hp
  F0 : Hp
  slf : Option (Option Addr)
section
variable (K : PySem.W.Frag) (mg : Mg)
def IsO (H0 Hf H : Hp) : D → V → Prop
  | .lst ds, v => ∃ a xs, v = .ref a ∧ H0 a = none ∧ Hf a = none ∧ H a = some (.lst xs) ∧ IsDs K mg Hf ds xs
  | .dic kvs, v => ∃ a o, v = .ref a ∧ H0 a = none ∧ Hf a = none ∧ H a = some o ∧ DicAt K mg Hf kvs a o
  | .ins c fs, v => ∃ a o, v = .ref a ∧ H0 a = none ∧ Hf a = none ∧ H a = some o ∧ InsAt K mg Hf c fs o
  | d, v => IsD K mg Hf d v
def IsR (Hf H : Hp) : D → V → Prop
  | .lst ds, v => ∃ a xs, v = .ref a ∧ H a = some (.lst xs) ∧ IsDs K mg Hf ds xs
  | .dic kvs, v => ∃ a o, v = .ref a ∧ Rd H a o ∧ DicAt K mg Hf kvs a o
  | .ins c fs, v => ∃ a o, v = .ref a ∧ H a = some o ∧ InsAt K mg Hf c fs o
  | d, v => IsD K mg Hf d v
abbrev Own (Γ : List Bool) (i : Nat) : Prop := Γ.getD i false = true
def SLen (g : G) (σ : St) (ρ : Env) : Prop := σ.length = ρ.length ∧ ∀ a, g.slf = some (some a) → σ[0]? = some (some (.ref a))
abbrev NS (g : G) (i : Nat) : Prop := i ≠ 0 ∨ g.slf = none
theorem SLen.set {g : G} {σ : St} {ρ : Env} (h : SLen g σ ρ) {i : Nat} (n : NS g i) (d : Option D) (v : Option V) : SLen g (σ.set i v) (ρ.set i d) :=
  ⟨by rw [List.length_set, List.length_set]; exact h.1, fun a e => by
    rcases n with n | n
    · rw [List.getElem?_set_ne n]; exact h.2 a e
    · rw [n] at e; cases e⟩
theorem SLen.setE {g : G} {σ : St} {ρ : Env} (h : SLen g σ ρ) (i : Nat) (d : Option D) : SLen g σ (ρ.set i d) :=
  ⟨by rw [List.length_set]; exact h.1, h.2⟩
structure Rp (g : G) (Γ : List Bool) (ρ : Env) (σ : St) (Hf H : Hp) : Prop where
  same : Same Hf H
  ent : Same g.H0 H
  ent2 : Same g.F0 Hf
  news : ∀ a o, Hf a = some o → g.F0 a = some o ∨ g.H0 a = none
  len : SLen g σ ρ
  own : ∀ i d, Own Γ i → ρ[i]? = some (some d) → ∃ v, σ[i]? = some (some v) ∧ IsO K mg g.H0 Hf H d v
  dat : ∀ i d, ¬ Own Γ i → ρ[i]? = some (some d) → ∃ v, σ[i]? = some (some v) ∧ IsD K mg Hf d v
  sep : ∀ i j d e v, i ≠ j → Own Γ i → Own Γ j → ρ[i]? = some (some d) → ρ[j]? = some (some e) → d.mut = true → e.mut = true → σ[i]? = some (some v) → σ[j]? = some (some v) → False
inductive Md where
  | rd | fr | ow
def Res (g : G) (Γ : List Bool) (ρ : Env) (σ : St) (Hf H : Hp) (m : Md) (d : D) (v : V) : Prop := match m with
  | .rd => IsR K mg Hf H d v
  | .fr => IsD K mg Hf d v
  | .ow => IsO K mg g.H0 Hf H d v ∧ ∀ i e, Own Γ i → ρ[i]? = some (some e) → e.mut = true → d.mut = true → σ[i]? = some (some v) → False
def IsX (x : Exn) (c : Value) (dd : Option Addr) (Hf : Hp) : Prop :=
  (∃ C, c = .ref C ∧ mg.f x.cls = some (.ref C)) ∧ ((x.fs = [] ∧ dd = none) ∨ ∃ d xs, dd = some d ∧ Hf d = some (.xd xs) ∧ IsFs K mg Hf x.fs xs)
def Le (Γ' Γ : List Bool) : Prop := ∀ i, Own Γ' i → Own Γ i
def tG (g : G) (E : WX) (Γ : List Bool) (ρ : Env) (σ : St) (Hf H : Hp) {α : Type} (P : α → Hp → Hp → Prop) : Out α → Prop
  | .ok a => ∀ Hf' H', Same Hf Hf' → Same H H' → Rp K mg g Γ ρ σ Hf' H' → P a Hf' H'
  | .exc x => ∀ c dd Hf' H', Same Hf Hf' → Same H H' → Rp K mg g Γ ρ σ Hf' H' → IsX K mg x c dd Hf' → E c dd σ H'
  | .stuck => False
def RetRes (H0 : Hp) (ro : Bool) (Hf H : Hp) (d : D) (v : V) : Prop := if ro = true then IsO K mg H0 Hf H d v else IsD K mg Hf d v
def RetPr (H0 Hf H : Hp) (d : D) (v : V) : Prop := ∃ x y t o v1 v2, d = .tup [x, y] ∧ v = .ref t ∧ H t = some (.frz o (.tup [v1, v2])) ∧ IsO K mg H0 Hf H x v1 ∧ IsD K mg Hf y v2
def RetG (g : G) (ro : Bool) (Hf H : Hp) (d : D) (v : V) : Prop := match g.slf with
  | none => RetRes K mg g.H0 ro Hf H d v
  | some none => RetPr K mg g.H0 Hf H d v
  | some (some a) => ∃ r c fs o, d = .tup [r, .ins c fs] ∧ Hf a = none ∧ H a = some o ∧ InsAt K mg Hf c fs o ∧ IsD K mg Hf r v
def sR (g : G) (E : WX) (Γ Γl : List Bool) (ro : Bool) (Dn : Ends) : SO → Prop
  | .nx ρ => ∀ σ Hf H, Rp K mg g Γ ρ σ Hf H → Dn.nx σ H
  | .bk ρ => ∀ σ Hf H, Rp K mg g Γl ρ σ Hf H → Dn.bk σ H
  | .ct ρ => ∀ σ Hf H, Rp K mg g Γl ρ σ Hf H → Dn.ct σ H
  | .rt d => ∀ v Hf H, Same Hf H → Same g.H0 H → Same g.F0 Hf → (∀ a o, Hf a = some o → g.F0 a = some o ∨ g.H0 a = none) → RetG K mg g ro Hf H d v → Dn.rt v H
  | .ex x => ∀ c dd σ Hf H, Same Hf H → Same g.H0 H → Same g.F0 Hf → (∀ a o, Hf a = some o → g.F0 a = some o ∨ g.H0 a = none) → IsX K mg x c dd Hf → E c dd σ H
  | .stuck => False
def spD (ro : Bool) (F : List D → Out D) : Sp := fun vs H Q E => ∃ ds Hf, Same Hf H ∧ IsDs K mg Hf ds vs ∧ match F ds with
  | .ok d => ∀ v Hf' H', Same Hf Hf' → Same Hf' H' → Same H H' → (∀ a o, Hf' a = some o → Hf a = some o ∨ H a = none) → RetRes K mg H ro Hf' H' d v → Q v H'
  | .exc x => ∀ c dd Hf' H', Same Hf Hf' → Same Hf' H' → Same H H' → (∀ a o, Hf' a = some o → Hf a = some o ∨ H a = none) → IsX K mg x c dd Hf' → E c dd H'
  | .stuck => False
end

section
variable {K : PySem.W.Frag} {mg : Mg}
theorem Le.refl (Γ : List Bool) : Le Γ Γ := fun _ h => h
theorem Le.trans {a b c : List Bool} (h : Le a b) (k : Le b c) : Le a c := fun i z => k i (h i z)
theorem Le.set (Γ : List Bool) (i : Nat) : Le (Γ.set i false) Γ := fun j h => by
  unfold Own at *
  rw [List.getD_eq_getElem?_getD, List.getElem?_set] at h
  by_cases e : i = j
  · subst e
    rw [if_pos rfl] at h
    by_cases l : i < Γ.length
    · rw [if_pos l] at h; simp at h
    · rw [if_neg l] at h; simp at h
  · rw [if_neg e] at h
    rw [List.getD_eq_getElem?_getD]; exact h

theorem IsX.mono {Hf Hf' : Hp} {x : Exn} {c : Value} {dd : Option Addr} (s : Same Hf Hf') (h : IsX K mg x c dd Hf) : IsX K mg x c dd Hf' := by
  refine ⟨h.1, ?_⟩
  rcases h.2 with r | ⟨d, xs, ed, q, r⟩
  · exact .inl r
  · exact .inr ⟨d, xs, ed, s _ _ q, IsFs.mono s r⟩
theorem IsO.of_dat {H0 Hf H : Hp} {d : D} {v : V} (n : d.mut = false) (h : IsD K mg Hf d v) : IsO K mg H0 Hf H d v := by
  cases d <;> first | exact h | cases n
theorem IsR.of_dat {Hf H : Hp} {d : D} {v : V} (s : Same Hf H) (h : IsD K mg Hf d v) : IsR K mg Hf H d v := by
  cases d <;> first | exact h | (simp only [IsD] at h; obtain ⟨a, xs, e, q, r⟩ := h; first | exact ⟨a, xs, e, s _ _ q, r⟩ | exact ⟨a, xs, e, Same.rd s q, r⟩)
theorem IsR.of_own {H0 Hf H : Hp} {d : D} {v : V} (h : IsO K mg H0 Hf H d v) : IsR K mg Hf H d v := by
  cases d <;> first | exact h | (obtain ⟨a, xs, e, _, _, q, r⟩ := h; first | exact ⟨a, xs, e, q, r⟩ | exact ⟨a, xs, e, .inl q, r⟩)
theorem IsR.mono {Hf Hf' H H' : Hp} {d : D} {v : V} (s1 : Same Hf Hf') (s2 : Same H H') (h : IsR K mg Hf H d v) : IsR K mg Hf' H' d v := by
  cases d <;> first
    | exact IsD.mono s1 h
    | (obtain ⟨a, xs, e, q, r⟩ := h; first | exact ⟨a, xs, e, s2 _ _ q, IsDs.mono s1 r⟩ | exact ⟨a, xs, e, Same.rd s2 q, DicAt.mono s1 r⟩ | exact ⟨a, xs, e, s2 _ _ q, InsAt.mono s1 r⟩)
theorem IsO.addr {H0 Hf H : Hp} {d : D} {v : V} (m : d.mut = true) (h : IsO K mg H0 Hf H d v) : ∃ a o, v = .ref a ∧ H0 a = none ∧ Hf a = none ∧ H a = some o := by
  cases d with
  | lst ds => obtain ⟨a, xs, e, z0, zf, q, r⟩ := h; exact ⟨a, _, e, z0, zf, q⟩
  | dic ds => obtain ⟨a, xs, e, z0, zf, q, r⟩ := h; exact ⟨a, _, e, z0, zf, q⟩
  | ins c ds => obtain ⟨a, xs, e, z0, zf, q, r⟩ := h; exact ⟨a, _, e, z0, zf, q⟩
  | _ => cases m
theorem Res.dat {g : G} {Γ : List Bool} {ρ : Env} {σ : St} {Hf H : Hp} {m : Md} {d : D} {v : V} (s : Same Hf H) (n : d.mut = false) (h : IsD K mg Hf d v) : Res K mg g Γ ρ σ Hf H m d v := by
  cases m with
  | rd => exact IsR.of_dat s h
  | fr => exact h
  | ow => exact ⟨IsO.of_dat n h, fun i e _ _ _ q => by rw [n] at q; cases q⟩
theorem Res.rd {g : G} {Γ : List Bool} {ρ : Env} {σ : St} {Hf H : Hp} {m : Md} {d : D} {v : V} (s : Same Hf H) (h : Res K mg g Γ ρ σ Hf H m d v) : IsR K mg Hf H d v := by
  cases m with
  | rd => exact h
  | fr => exact IsR.of_dat s h
  | ow => exact IsR.of_own h.1

theorem frz_same {Hf H : Hp} (p : Addr → Prop) [DecidablePred p] (s : Same Hf H) : Same Hf (fun a => if p a then H a else Hf a) := fun a o e => by
  by_cases h : p a
  · show (if p a then H a else Hf a) = some o
    rw [if_pos h]; exact s _ _ e
  · show (if p a then H a else Hf a) = some o
    rw [if_neg h]; exact e
theorem frz_same2 {Hf H : Hp} (p : Addr → Prop) [DecidablePred p] (s : Same Hf H) : Same (fun a => if p a then H a else Hf a) H := fun a o e => by
  have e' : (if p a then H a else Hf a) = some o := e
  by_cases h : p a
  · rw [if_pos h] at e'; exact e'
  · rw [if_neg h] at e'; exact s _ _ e'
theorem IsD.of_own {H0 Hf Hf' H : Hp} {d : D} {v : V} (s : Same Hf Hf') (at_ : ∀ a, v = .ref a → d.mut = true → Hf' a = H a) (h : IsO K mg H0 Hf H d v) : IsD K mg Hf' d v := by
  cases d with
  | lst ds =>
    obtain ⟨a, xs, e, z0, zf, q, r⟩ := h
    simp only [IsD]
    exact ⟨a, xs, e, (at_ a e rfl).trans q, IsDs.mono s r⟩
  | dic ds =>
    obtain ⟨a, xs, e, z0, zf, q, r⟩ := h
    simp only [IsD]
    exact ⟨a, xs, e, .inl ((at_ a e rfl).trans q), DicAt.mono s r⟩
  | ins c ds =>
    obtain ⟨a, xs, e, z0, zf, q, r⟩ := h
    simp only [IsD]
    exact ⟨a, xs, e, (at_ a e rfl).trans q, InsAt.mono s r⟩
  | _ => exact IsD.mono s h
theorem IsO.keep {H0 Hf Hf' H : Hp} {d : D} {v : V} (s : Same Hf Hf') (at_ : ∀ a, v = .ref a → d.mut = true → Hf' a = none) (h : IsO K mg H0 Hf H d v) : IsO K mg H0 Hf' H d v := by
  cases d with
  | lst ds =>
    obtain ⟨a, xs, e, z0, zf, q, r⟩ := h
    exact ⟨a, xs, e, z0, at_ a e rfl, q, IsDs.mono s r⟩
  | dic ds =>
    obtain ⟨a, xs, e, z0, zf, q, r⟩ := h
    exact ⟨a, xs, e, z0, at_ a e rfl, q, DicAt.mono s r⟩
  | ins c ds =>
    obtain ⟨a, xs, e, z0, zf, q, r⟩ := h
    exact ⟨a, xs, e, z0, at_ a e rfl, q, InsAt.mono s r⟩
  | _ => exact IsD.mono s h
open Classical in
theorem Rp.frz {g : G} {Γ Γ' : List Bool} {ρ : Env} {σ : St} {Hf H : Hp} (R : Rp K mg g Γ ρ σ Hf H) (le : Le Γ' Γ) : ∃ Hf', Same Hf Hf' ∧ Rp K mg g Γ' ρ σ Hf' H ∧ ∀ a o, Hf' a = some o → Hf a = none →
    ∃ i d, Own Γ i ∧ ¬ Own Γ' i ∧ ρ[i]? = some (some d) ∧ d.mut = true ∧ σ[i]? = some (some (.ref a)) := by
  let p : Addr → Prop := fun a => ∃ i d, Own Γ i ∧ ¬ Own Γ' i ∧ ρ[i]? = some (some d) ∧ d.mut = true ∧ σ[i]? = some (some (.ref a))
  have s1 : Same Hf (fun a => if p a then H a else Hf a) := frz_same p R.same
  refine ⟨fun a => if p a then H a else Hf a, s1, ⟨frz_same2 p R.same, R.ent, R.ent2.trans s1, fun a o e => ?_, R.len, fun i d o e => ?_, fun i d o e => ?_, fun i j d e v n o1 o2 => R.sep i j d e v n (le i o1) (le j o2)⟩, fun a o e n => ?_⟩
  · have e' : (if p a then H a else Hf a) = some o := e
    by_cases h : p a
    · obtain ⟨i, d, o1, o2, e1, m, e2⟩ := h
      obtain ⟨v, e3, io⟩ := R.own i d o1 e1
      rw [e2] at e3
      obtain rfl : V.ref a = v := Option.some.inj (Option.some.inj e3)
      obtain ⟨b, ob, e4, z0, _⟩ := io.addr m
      obtain rfl : a = b := V.ref.inj e4
      exact .inr z0
    · rw [if_neg h] at e'
      exact R.news a o e'
  · obtain ⟨v, e1, io⟩ := R.own i d (le i o) e
    refine ⟨v, e1, io.keep s1 fun a ea m => ?_⟩
    obtain ⟨b, ob, e4, z0, zf, _⟩ := io.addr m
    rw [ea] at e4
    obtain rfl : a = b := V.ref.inj e4
    have np : ¬ p a := fun ⟨j, e', o1, o2, e2, m2, e3⟩ => by
      by_cases ij : i = j
      · subst ij; exact o2 o
      · exact R.sep i j d e' (.ref a) ij (le i o) o1 e e2 m m2 (ea ▸ e1) e3
    show (if p a then H a else Hf a) = none
    rw [if_neg np]; exact zf
  · by_cases oΓ : Own Γ i
    · obtain ⟨v, e1, io⟩ := R.own i d oΓ e
      refine ⟨v, e1, IsD.of_own s1 (fun a ea m => ?_) io⟩
      show (if p a then H a else Hf a) = H a
      exact if_pos ⟨i, d, oΓ, o, e, m, ea ▸ e1⟩
    · obtain ⟨v, e1, id⟩ := R.dat i d oΓ e
      exact ⟨v, e1, id.mono s1⟩
  · have e' : (if p a then H a else Hf a) = some o := e
    by_cases h : p a
    · exact h
    · rw [if_neg h, n] at e'; cases e'
end

section
variable {X : Cx} {es : List Expr} {t : TA} {pos : Pos}
theorem laidF {pins : List (Addr × Obj)} {s : Shared} {σ : St} {H : Hp} {Q : VK} {ob : Obj} {xs : List V} {its : List Value} {n : Nat} (I : Inv X pins σ H s) (hz : xs.length ≤ sizeLine) (r : Vals xs its) (hc : ob.cls = .type "tuple") (hd : ob.data = .seq its.toArray n) (hn : ob.dict = none)
    (q : ∀ p o, o.dict = none → H p = none → Q (.ref p) (upd H p (.frz o (.tup xs)))) (hf : ob.isFreed = false := by rfl) : EP X pins σ Q (.ref s.heap.objs.size) { s with heap := s.heap.push ob } :=
  ⟨.ref s.heap.objs.size, _, I.laid (t' := s.toks) (o := .frz ob (.tup xs)) (fun b u e => Heap.get?_push_of_some _ e) (Nat.le_refl _) ⟨Heap.get?_push_size _ hf, hz, its, r, ⟨ob, Heap.get?_push_size _ hf, hc, n, hd⟩⟩, rfl, q _ ob hn (I.hok.fresh (Nat.le_refl _))⟩
def tTupF (t : TA) : TE := fun σ H Q => t σ H fun xs H1 => xs.length ≤ sizeLine ∧ ∀ p o, o.dict = none → H1 p = none → Q (.ref p) (upd H1 p (.frz o (.tup xs)))
theorem pe_tupF {x1 : Nat} (h : PA X es t) : PE X (.Tuple es x1 pos) (tTupF t) := by
  refine ⟨fun pins s σ H Q I hq => ?_⟩
  refine wpAny_Tuple_spliced (thn (h.run pos pins s σ H _ I hq) fun us s1 ⟨xs, H1, I1, r, z, q⟩ => ⟨by rw [← r.length]; exact z, ?_⟩)
  exact laidF I1 z r rfl rfl rfl q
def rSlTF (K : PySem.W.Frag) : V → Option Int → Option Int → Hp → VK → Prop := fun x lo hi H Q => ∃ a xs, x = .ref a ∧ L2.SqT K H a xs ∧
  (HT.sIx xs.length 0 lo = 0 ∧ HT.sIx xs.length xs.length hi = xs.length → Q (.ref a) H) ∧ (¬ (HT.sIx xs.length 0 lo = 0 ∧ HT.sIx xs.length xs.length hi = xs.length) → ∀ p o, o.dict = none → H p = none → Q (.ref p) (upd H p (.frz o (.tup (cutV xs lo hi)))))
theorem sl_tupF : SlR X (rSlTF X.K) := by
  intro pins s σ H x v vl vu lo hi sl Q I rx hs pl pu h
  obtain ⟨a, xs, rfl, hx, q1, q2⟩ := h
  cases rx
  obtain ⟨its, r, ht, hz⟩ := I.tuple hx
  have hlen : its.toArray.size = xs.length := by rw [List.size_toArray]; exact r.length.symm
  refine ⟨"tuple", _, PyProof.Rows.slot_tuple_getitem.lookup, ht.typeIs, ?_⟩
  by_cases hw : HT.sIx xs.length 0 lo = 0 ∧ HT.sIx xs.length xs.length hi = xs.length
  · exact getItem_tuple_whole ht hs pl pu (by rw [hlen]; exact hw) ⟨.ref a, H, I, rfl, q1 hw⟩
  · refine HT.getItem_tuple_cut ht hs pl pu (by rw [hlen]; exact hw) ?_ (by rw [hlen]; exact hz)
    rw [hlen]
    exact laidF I (Nat.le_trans (cutV_length xs lo hi) hz) ((r.drop (HT.sIx xs.length 0 lo)).take (HT.sIx xs.length xs.length hi - HT.sIx xs.length 0 lo)) rfl rfl rfl (q2 hw)
def rCatF (K : PySem.W.Frag) : R2 := fun x y H Q => ∃ a b xs ys, x = .ref a ∧ y = .ref b ∧ L2.SqT K H a xs ∧ L2.SqT K H b ys ∧ xs.length + ys.length ≤ sizeLine ∧
  (xs = [] → Q (.ref b) H) ∧ (xs ≠ [] → ys = [] → Q (.ref a) H) ∧ (xs ≠ [] → ys ≠ [] → ∀ p o, o.dict = none → H p = none → Q (.ref p) (upd H p (.frz o (.tup (xs ++ ys)))))
theorem op_catF : OpR X (binaryOp .Add) (rCatF X.K) := by
  intro pins s σ H x y v u Q I rx ry h
  obtain ⟨a, b, xs, ys, rfl, rfl, ha, hb, hz, q0, q1, q2⟩ := h
  cases rx
  cases ry
  obtain ⟨its, r1, p1, _⟩ := I.tuple ha
  obtain ⟨its2, r2, p2, _⟩ := I.tuple hb
  by_cases hx : xs = []
  · subst hx
    cases r1
    exact cat_tup0 p1 p2 ⟨.ref b, H, I, rfl, q0 rfl⟩
  · refine HT.cat_tup p1 p2 (fun z => hx (r1.nil_iff.mp z)) (fun z => ⟨.ref a, H, I, rfl, q1 hx (r2.nil_iff.mp z)⟩) (fun z => ?_) (by rw [← r1.length, ← r2.length]; exact hz)
    exact laidF I (by rw [List.length_append]; exact hz) (r1.append r2) rfl rfl rfl (q2 hx (fun w => z (r2.nil_iff.mpr w)))
theorem call_tupleF : CallR X (.type "tuple") (fun xs H Q => ∃ p ys, xs = [.ref p] ∧ ((SqL X.K H p ys ∧ ∀ l o, o.dict = none → H l = none → Q (.ref l) (upd H l (.frz o (.tup ys)))) ∨ (L2.SqT X.K H p ys ∧ Q (.ref p) H))) := by
  intro pins s σ H xs us Q I r h
  obtain ⟨p, ys, rfl, h⟩ := h
  obtain ⟨u, rfl, rx⟩ := vals1 r
  cases rx
  rcases h with ⟨hq, q⟩ | ⟨hq, q⟩
  · obtain ⟨its, r', pl, hz⟩ := I.list hq
    have hlen := r'.length
    refine call_tuple_list pl.isList (fun h' kp => ?_) (by simp only [List.size_toArray] <;> omega)
    have I1 : Inv X pins σ H { s with heap := h' } := I.kept (t' := s.toks) kp
    exact laidF I1 hz r' rfl rfl rfl q
  · obtain ⟨its, r', pl, hz⟩ := I.tuple hq
    exact call_tuple_same pl ⟨.ref p, H, I, rfl, q⟩
end
end PD

namespace PD
open PySem PySem.Spec L2
open PyProof.Rows hiding St

section
variable {K : PySem.W.Frag} {mg : Mg} {g : G} {E : WX} {Γ Γ1 Γ2 : List Bool} {ρ : Env} {σ : St} {Hf H Hf' H' : Hp}
theorem tG.mono {α : Type} {P : α → Hp → Hp → Prop} {o : Out α} (s1 : Same Hf Hf') (s2 : Same H H') (h : tG K mg g E Γ ρ σ Hf H P o) : tG K mg g E Γ ρ σ Hf' H' P o := by
  cases o with
  | ok a => exact fun F' H' a b R => h F' H' (s1.trans a) (s2.trans b) R
  | exc x => exact fun c dd F' H' a b R q => h c dd F' H' (s1.trans a) (s2.trans b) R q
  | stuck => exact h
theorem tG.imp {α : Type} {P P' : α → Hp → Hp → Prop} {o : Out α} (h : tG K mg g E Γ ρ σ Hf H P o) (w : ∀ a Hf' H', Same Hf Hf' → Same H H' → Rp K mg g Γ ρ σ Hf' H' → P a Hf' H' → P' a Hf' H') : tG K mg g E Γ ρ σ Hf H P' o := by
  cases o with
  | ok a => exact fun F' H' a b R => w _ F' H' a b R (h F' H' a b R)
  | exc x => exact h
  | stuck => exact h
theorem tG.bind {α β : Type} {P1 : α → Hp → Hp → Prop} {P2 : β → Hp → Hp → Prop} {o : Out α} {k : α → Out β} (le : Le Γ2 Γ1) (h : tG K mg g E Γ2 ρ σ Hf H P2 (o.bind k))
    (hk : ∀ a Hf' H', Same Hf Hf' → Same H H' → Rp K mg g Γ1 ρ σ Hf' H' → tG K mg g E Γ2 ρ σ Hf' H' P2 (k a) → P1 a Hf' H') : tG K mg g E Γ1 ρ σ Hf H P1 o := by
  cases o with
  | ok a => exact fun F' H' s1 s2 R => hk a F' H' s1 s2 R (tG.mono s1 s2 h)
  | exc x =>
    intro c dd F' H' s1 s2 R q
    obtain ⟨F'', s3, R', _⟩ := R.frz le
    exact h c dd F'' H' (s1.trans s3) s2 R' (q.mono s3)
  | stuck => exact h
end

def PV (X : Cx) (g : G) (Γ : List Bool) (ρ : Env) (σ : St) (m : Md) (Q : VK) : D → Hp → Hp → Prop := fun d Hf H => ∀ v, Res X.K X.mw g Γ ρ σ Hf H m d v → Q v H
structure PX (X : Cx) (g : G) (E : WX) (Γ : List Bool) (e : Expr) (Γ' : List Bool) (m : Md) (f : Env → Out D) : Prop where
  le : Le Γ' Γ
  pe : PE X e (fun σ H Q => ∃ ρ Hf, Rp X.K X.mw g Γ ρ σ Hf H ∧ tG X.K X.mw g E Γ' ρ σ Hf H (PV X g Γ' ρ σ m Q) (f ρ))
structure PTx (X : Cx) (g : G) (E : WX) (Γ : List Bool) (e : Expr) (Γ' : List Bool) (f : Env → Out Bool) : Prop where
  le : Le Γ' Γ
  pe : PT X e (fun σ H Q => ∃ ρ Hf, Rp X.K X.mw g Γ ρ σ Hf H ∧ tG X.K X.mw g E Γ' ρ σ Hf H (fun b _ H' => Q b H') (f ρ))
structure PWx (X : Cx) (g : G) (E : WX) (Γ : List Bool) (e : Expr) (Γ' : List Bool) (f : Env → Out Bool) : Prop where
  le : Le Γ' Γ
  pe : PW X e (fun σ H Q => ∃ ρ Hf, Rp X.K X.mw g Γ ρ σ Hf H ∧ tG X.K X.mw g E Γ' ρ σ Hf H (fun b _ H' => Q b H') (f ρ))
structure PAx (X : Cx) (g : G) (E : WX) (Γ : List Bool) (e : List Expr) (Γ' : List Bool) (f : Env → Out (List D)) : Prop where
  le : Le Γ' Γ
  pe : PA X e (fun σ H Q => ∃ ρ Hf, Rp X.K X.mw g Γ ρ σ Hf H ∧ tG X.K X.mw g E Γ' ρ σ Hf H (fun ds Hf' H' => ∀ vs, IsDs X.K X.mw Hf' ds vs → Q vs H') (f ρ))

theorem _root_.L2.PE.imp {X : Cx} {e : Expr} {t t' : TE} (h : PE X e t) (w : ∀ σ H Q, t' σ H Q → t σ H Q) : PE X e t' :=
  ⟨fun pins s σ H Q I q => h.run pins s σ H Q I (w σ H Q q)⟩
theorem _root_.L2.PT.imp {X : Cx} {e : Expr} {t t' : TT} (h : PT X e t) (w : ∀ σ H Q, t' σ H Q → t σ H Q) : PT X e t' :=
  ⟨fun pins s σ H Q I q => h.run pins s σ H Q I (w σ H Q q)⟩
theorem _root_.L2.PW.imp {X : Cx} {e : Expr} {t t' : TT} (h : PW X e t) (w : ∀ σ H Q, t' σ H Q → t σ H Q) : PW X e t' :=
  ⟨fun wh pins s σ H Q I q => h.run wh pins s σ H Q I (w σ H Q q)⟩
theorem _root_.L2.PA.imp {X : Cx} {e : List Expr} {t t' : TA} (h : PA X e t) (w : ∀ σ H Q, t' σ H Q → t σ H Q) : PA X e t' :=
  ⟨fun p pins s σ H Q I q => h.run p pins s σ H Q I (w σ H Q q)⟩

section
variable {X : Cx} {g : G} {E : WX} {Γ Γ1 Γ2 Γ3 : List Bool} {m : Md} {pos : Pos}

def eC (d : D) : Env → Out D := fun _ => .ok d
def eV (i : Nat) : Env → Out D := fun ρ => match ρ[i]? with
  | some (some d) => .ok d
  | _ => .stuck
def e2 (F : D → D → Out D) (a b : Env → Out D) : Env → Out D := fun ρ => (a ρ).bind fun x => (b ρ).bind fun y => F x y
def e1 (F : D → Out D) (a : Env → Out D) : Env → Out D := fun ρ => (a ρ).bind F
def aN : Env → Out (List D) := fun _ => .ok []
def aC (a : Env → Out D) (r : Env → Out (List D)) : Env → Out (List D) := fun ρ => (a ρ).bind fun x => (r ρ).bind fun xs => .ok (x :: xs)
def eA (F : List D → Out D) (a : Env → Out (List D)) : Env → Out D := fun ρ => (a ρ).bind F

open Classical in
theorem Rp.cool {K : PySem.W.Frag} {mg : Mg} {ρ : Env} {σ : St} {Hf H : Hp} (R : Rp K mg g Γ ρ σ Hf H) {d : D} {v : V} (io : IsO K mg g.H0 Hf H d v)
    (ap : ∀ i e, Own Γ i → ρ[i]? = some (some e) → e.mut = true → d.mut = true → σ[i]? = some (some v) → False) : ∃ Hf', Same Hf Hf' ∧ Rp K mg g Γ ρ σ Hf' H ∧ IsD K mg Hf' d v := by
  by_cases md : d.mut = true
  · obtain ⟨a, o, rfl, z0, zf, hH⟩ := io.addr md
    have s1 : Same Hf (fun b => if b = a then H b else Hf b) := frz_same (fun b => b = a) R.same
    refine ⟨fun b => if b = a then H b else Hf b, s1, ⟨frz_same2 (fun b => b = a) R.same, R.ent, R.ent2.trans s1, fun b o e => ?_, R.len, fun i d' o e => ?_, fun i d' o e => ?_, R.sep⟩, IsD.of_own s1 (fun b eb _ => ?_) io⟩
    · have e' : (if b = a then H b else Hf b) = some o := e
      by_cases h : b = a
      · subst h; exact .inr z0
      · rw [if_neg h] at e'; exact R.news b o e'
    · obtain ⟨v, e1, io'⟩ := R.own i d' o e
      refine ⟨v, e1, io'.keep s1 fun b eb m => ?_⟩
      subst eb
      have hb : b ≠ a := fun z => ap i d' o e m md (z ▸ e1)
      obtain ⟨c, oc, e4, _, zf', _⟩ := io'.addr m
      obtain rfl : b = c := V.ref.inj e4
      show (if b = a then H b else Hf b) = none
      rw [if_neg hb]; exact zf'
    · obtain ⟨v, e1, q⟩ := R.dat i d' o e
      exact ⟨v, e1, q.mono s1⟩
    · obtain rfl : a = b := V.ref.inj eb
      exact if_pos rfl
  · refine ⟨Hf, Same.refl _, R, ?_⟩
    cases d <;> first | exact io | exact absurd rfl md
theorem PX.fr {e : Expr} {f : Env → Out D} (h : PX X g E Γ e Γ1 .ow f) : PX X g E Γ e Γ1 .fr f := by
  refine ⟨h.le, h.pe.imp fun σ H Q ⟨ρ, Hf, R, q⟩ => ⟨ρ, Hf, R, ?_⟩⟩
  cases hf : f ρ with
  | ok d =>
    rw [hf] at q
    intro F1 H1 s1 s2 R1 v hv
    obtain ⟨io, ap⟩ := hv
    obtain ⟨F2, s3, R2, id⟩ := R1.cool io ap
    exact q F2 H1 (s1.trans s3) s2 R2 v id
  | exc x => rw [hf] at q; exact q
  | stuck => rw [hf] at q; exact q
theorem PX.rd {e : Expr} {f : Env → Out D} (h : PX X g E Γ e Γ1 m f) : PX X g E Γ e Γ1 .rd f := by
  refine ⟨h.le, h.pe.imp fun σ H Q ⟨ρ, Hf, R, q⟩ => ⟨ρ, Hf, R, tG.imp q fun d F1 H1 s1 s2 R1 k v hv => k v (Res.rd R1.same hv)⟩⟩

theorem PX.atom {e : Expr} {d : D} {v0 : V} (h : PE X e (tC v0)) (n : d.mut = false) (q : ∀ F v, v = v0 → IsD X.K X.mw F d v) : PX X g E Γ e Γ m (eC d) := by
  refine ⟨Le.refl _, h.imp fun σ H Q ⟨ρ, Hf, R, k⟩ => ?_⟩
  exact k Hf H (Same.refl _) (Same.refl _) R v0 (Res.dat R.same n (q Hf v0 rfl))
theorem px_int {i : Int} {j pos} : PX X g E Γ (.Constant (.int i) j pos) Γ m (eC (.int i)) := .atom pe_int rfl fun F v e => by simpa only [IsD] using e
theorem px_bl {b : Bool} {j pos} : PX X g E Γ (.Constant (.bool b) j pos) Γ m (eC (.bl b)) := .atom pe_bl rfl fun F v e => by simpa only [IsD] using e
theorem px_str {x : Str} {j pos} : PX X g E Γ (.Constant (.str x) j pos) Γ m (eC (.str x)) := .atom pe_str rfl fun F v e => by simpa only [IsD] using e
theorem eV_ok {i : Nat} {ρ : Env} {d : D} (h : eV i ρ = .ok d) : ρ[i]? = some (some d) := by
  unfold eV at h
  split at h
  · cases h; assumption
  · cases h
theorem eV_nx {i : Nat} {ρ : Env} {x : Exn} (h : eV i ρ = .exc x) : False := by
  unfold eV at h
  split at h <;> cases h
theorem px_rd {x : Str} {i : Nat} (h : PE X (.Name x pos) (tVar i)) : PX X g E Γ (.Name x pos) Γ .rd (eV i) := by
  refine ⟨Le.refl _, h.imp fun σ H Q ⟨ρ, Hf, R, k⟩ => ?_⟩
  cases he : eV i ρ with
  | ok d =>
    rw [he] at k
    have e := eV_ok he
    by_cases o : Own Γ i
    · obtain ⟨v, e1, io⟩ := R.own i d o e
      exact ⟨v, e1, k Hf H (Same.refl _) (Same.refl _) R v (IsR.of_own io)⟩
    · obtain ⟨v, e1, io⟩ := R.dat i d o e
      exact ⟨v, e1, k Hf H (Same.refl _) (Same.refl _) R v (IsR.of_dat R.same io)⟩
  | exc x => exact (eV_nx he).elim
  | stuck => rw [he] at k; exact k.elim
theorem px_fr {x : Str} {i : Nat} (h : PE X (.Name x pos) (tVar i)) : PX X g E Γ (.Name x pos) (Γ.set i false) .fr (eV i) := by
  refine ⟨Le.set Γ i, h.imp fun σ H Q ⟨ρ, Hf, R, k⟩ => ?_⟩
  cases he : eV i ρ with
  | ok d =>
    rw [he] at k
    have e := eV_ok he
    obtain ⟨F', s1, R', _⟩ := R.frz (Le.set Γ i)
    have no : ¬ Own (Γ.set i false) i := fun z => by
      unfold Own at z
      rw [List.getD_eq_getElem?_getD, List.getElem?_set] at z
      by_cases l : i < Γ.length
      · simp [l] at z
      · simp [l] at z
    obtain ⟨v, e1, q⟩ := R'.dat i d no e
    exact ⟨v, e1, k F' H s1 (Same.refl _) R' v q⟩
  | exc x => exact (eV_nx he).elim
  | stuck => rw [he] at k; exact k.elim
theorem px_fr' {x : Str} {i : Nat} (h : PE X (.Name x pos) (tVar i)) (no : Γ.getD i false = false) : PX X g E Γ (.Name x pos) Γ .fr (eV i) := by
  refine ⟨Le.refl _, h.imp fun σ H Q ⟨ρ, Hf, R, k⟩ => ?_⟩
  cases he : eV i ρ with
  | ok d =>
    rw [he] at k
    have e := eV_ok he
    obtain ⟨v, e1, q⟩ := R.dat i d (fun z => by unfold Own at z; rw [no] at z; cases z) e
    exact ⟨v, e1, k Hf H (Same.refl _) (Same.refl _) R v q⟩
  | exc x => exact (eV_nx he).elim
  | stuck => rw [he] at k; exact k.elim

def OpD (X : Cx) (f : Value → Value → Sem Value) (m : Md) (F : D → D → Out D) : Prop := ∃ r, OpR X f r ∧
  ∀ g E Γ ρ σ Hf H x y v u Q, Rp X.K X.mw g Γ ρ σ Hf H → IsR X.K X.mw Hf H x v → IsR X.K X.mw Hf H y u → tG X.K X.mw g E Γ ρ σ Hf H (PV X g Γ ρ σ m Q) (F x y) → r v u H Q
def UnD (X : Cx) (f : Value → Sem Value) (m : Md) (F : D → Out D) : Prop := ∃ r, UnR X f r ∧
  ∀ g E Γ ρ σ Hf H x v Q, Rp X.K X.mw g Γ ρ σ Hf H → IsR X.K X.mw Hf H x v → tG X.K X.mw g E Γ ρ σ Hf H (PV X g Γ ρ σ m Q) (F x) → r v H Q
variable {a b : Expr} {fa fb : Env → Out D}
theorem px_bin {op : Operator} {F : D → D → Out D} (ho : OpD X (binaryOp op) m F) (ha : PX X g E Γ a Γ1 .rd fa) (hb : PX X g E Γ1 b Γ2 .rd fb) : PX X g E Γ (.BinOp a op b pos) Γ2 m (e2 F fa fb) := by
  obtain ⟨r, hr, w⟩ := ho
  refine ⟨hb.le.trans ha.le, (pe_op hr ha.pe hb.pe).imp fun σ H Q ⟨ρ, Hf, R, k⟩ => ⟨ρ, Hf, R, ?_⟩⟩
  refine tG.bind hb.le k fun x F1 H1 s1 s2 R1 k1 v hv => ⟨ρ, F1, R1, ?_⟩
  refine tG.bind (Le.refl _) k1 fun y F2 H2 s3 s4 R2 k2 u hu => ?_
  exact w g E Γ2 ρ σ F2 H2 x y v u Q R2 (IsR.mono s3 s4 hv) hu k2
theorem px_cmp {op : CmpOp} {F : D → D → Out D} (ho : OpD X (compareOp op) m F) (ha : PX X g E Γ a Γ1 .rd fa) (hb : PX X g E Γ1 b Γ2 .rd fb) (hm : behindInMarks op b = false) : PX X g E Γ (.Compare a [op] [b] pos) Γ2 m (e2 F fa fb) := by
  obtain ⟨r, hr, w⟩ := ho
  refine ⟨hb.le.trans ha.le, (pe_cmpR hr ha.pe hb.pe hm).imp fun σ H Q ⟨ρ, Hf, R, k⟩ => ⟨ρ, Hf, R, ?_⟩⟩
  refine tG.bind hb.le k fun x F1 H1 s1 s2 R1 k1 v hv => ⟨ρ, F1, R1, ?_⟩
  refine tG.bind (Le.refl _) k1 fun y F2 H2 s3 s4 R2 k2 u hu => ?_
  exact w g E Γ2 ρ σ F2 H2 x y v u Q R2 (IsR.mono s3 s4 hv) hu k2
theorem px_un {op : UnaryOp} {F : D → Out D} (ho : UnD X (unaryOp op) m F) (ha : PX X g E Γ a Γ1 .rd fa) : PX X g E Γ (.UnaryOp op a pos) Γ1 m (e1 F fa) := by
  obtain ⟨r, hr, w⟩ := ho
  refine ⟨ha.le, (pe_un hr ha.pe).imp fun σ H Q ⟨ρ, Hf, R, k⟩ => ⟨ρ, Hf, R, ?_⟩⟩
  refine tG.bind (Le.refl _) k fun x F1 H1 s1 s2 R1 k1 v hv => ?_
  exact w g E Γ1 ρ σ F1 H1 x v Q R1 hv k1

def tOf (f : Env → Out D) : Env → Out Bool := fun ρ => (f ρ).bind fun d => match d with
  | .bl b => .ok b
  | _ => .stuck
theorem pt_of {e : Expr} {t : TE} {f : Env → Out D} (hp : PT X e (tTest t)) (w : ∀ σ H Q, (∃ ρ Hf, Rp X.K X.mw g Γ ρ σ Hf H ∧ tG X.K X.mw g E Γ1 ρ σ Hf H (PV X g Γ1 ρ σ .rd Q) (f ρ)) → t σ H Q) (le : Le Γ1 Γ) : PTx X g E Γ e Γ1 (tOf f) := by
  refine ⟨le, hp.imp fun σ H Q ⟨ρ, Hf, R, k⟩ => w σ H _ ⟨ρ, Hf, R, ?_⟩⟩
  refine tG.bind (Le.refl _) k fun x F1 H1 s1 s2 R1 k1 v hv => ?_
  cases x with
  | bl b => exact ⟨b, hv, k1 F1 H1 (Same.refl _) (Same.refl _) R1⟩
  | _ => exact k1.elim
theorem ptx_val {e : Expr} {f : Env → Out D} (h : PX X g E Γ e Γ1 .rd f) (he : ∀ whole, isTrue e X.env whole = (do let v ← whole; standAt e.pos; holding [v] (truthy v)) := by intro _; rfl) : PTx X g E Γ e Γ1 (tOf f) :=
  pt_of (pt_val h.pe he) (fun _ _ _ z => z) h.le
theorem ptx_cmp {op : CmpOp} {F : D → D → Out D} (ho : OpD X (compareOp op) .rd F) (ha : PX X g E Γ a Γ1 .rd fa) (hb : PX X g E Γ1 b Γ2 .rd fb) (hm : behindInMarks op b = false) : PTx X g E Γ (.Compare a [op] [b] pos) Γ2 (tOf (e2 F fa fb)) := by
  obtain ⟨r, hr, w⟩ := ho
  refine pt_of (pt_cmpR hr ha.pe hb.pe hm) (fun σ H Q ⟨ρ, Hf, R, k⟩ => ⟨ρ, Hf, R, ?_⟩) (hb.le.trans ha.le)
  refine tG.bind hb.le k fun x F1 H1 s1 s2 R1 k1 v hv => ⟨ρ, F1, R1, ?_⟩
  refine tG.bind (Le.refl _) k1 fun y F2 H2 s3 s4 R2 k2 u hu => ?_
  exact w g E Γ2 ρ σ F2 H2 x y v u Q R2 (IsR.mono s3 s4 hv) hu k2
def bAnd (s t : Env → Out Bool) : Env → Out Bool := fun ρ => (s ρ).bind fun b => if b = true then t ρ else .ok false
def bOr (s t : Env → Out Bool) : Env → Out Bool := fun ρ => (s ρ).bind fun b => if b = true then .ok true else t ρ
def bNot (s : Env → Out Bool) : Env → Out Bool := fun ρ => (s ρ).bind fun b => .ok (!b)
variable {fs ft : Env → Out Bool} {rest : List Expr}
theorem pwx_or1 (ha : PTx X g E Γ a Γ1 fs) : PWx X g E Γ (.BoolOp .Or [a] pos) Γ1 fs := ⟨ha.le, pw_or1 ha.pe⟩
theorem PWx.pt {e : Expr} (h : PWx X g E Γ e Γ1 fs) : PTx X g E Γ e Γ1 fs := ⟨h.le, h.pe.pt⟩
theorem pwx_or (ha : PTx X g E Γ a Γ1 fs) (hb : PWx X g E Γ1 (.BoolOp .Or (b :: rest) pos) Γ2 ft) : PWx X g E Γ (.BoolOp .Or (a :: b :: rest) pos) Γ2 (bOr fs ft) := by
  refine ⟨hb.le.trans ha.le, (pw_or ha.pe hb.pe).imp fun σ H Q ⟨ρ, Hf, R, k⟩ => ⟨ρ, Hf, R, ?_⟩⟩
  refine tG.bind hb.le k fun x F1 H1 s1 s2 R1 k1 => ?_
  cases x with
  | false => exact ⟨ρ, F1, R1, k1⟩
  | true =>
    obtain ⟨F2, s3, R2, _⟩ := R1.frz hb.le
    exact k1 F2 H1 s3 (Same.refl _) R2
theorem ptx_not (ha : PTx X g E Γ a Γ1 fs) : PTx X g E Γ (.UnaryOp .Not a pos) Γ1 (bNot fs) := by
  refine ⟨ha.le, (pt_not ha.pe).imp fun σ H Q ⟨ρ, Hf, R, k⟩ => ⟨ρ, Hf, R, ?_⟩⟩
  exact tG.bind (Le.refl _) k fun x F1 H1 s1 s2 R1 k1 => k1 F1 H1 (Same.refl _) (Same.refl _) R1
def vAnd (a b : Env → Out D) : Env → Out D := fun ρ => (a ρ).bind fun x => match x with
  | .bl c => if c = true then b ρ else .ok (.bl false)
  | _ => .stuck
def vOr (a b : Env → Out D) : Env → Out D := fun ρ => (a ρ).bind fun x => match x with
  | .bl c => if c = true then .ok (.bl true) else b ρ
  | _ => .stuck
theorem px_one {op} (h : PX X g E Γ a Γ1 m fa) : PX X g E Γ (.BoolOp op [a] pos) Γ1 m fa := ⟨h.le, pe_one h.pe⟩
theorem px_and (ha : PX X g E Γ a Γ1 .rd fa) (hb : PX X g E Γ1 (.BoolOp .And (b :: rest) pos) Γ2 m fb) : PX X g E Γ (.BoolOp .And (a :: b :: rest) pos) Γ2 m (vAnd fa fb) := by
  refine ⟨hb.le.trans ha.le, (pe_and ha.pe hb.pe).imp fun σ H Q ⟨ρ, Hf, R, k⟩ => ⟨ρ, Hf, R, ?_⟩⟩
  refine tG.bind hb.le k fun x F1 H1 s1 s2 R1 k1 v hv => ?_
  cases x with
  | bl c =>
    refine ⟨c, hv, ?_⟩
    cases c with
    | true => exact ⟨ρ, F1, R1, k1⟩
    | false =>
      obtain ⟨F2, s3, R2, _⟩ := R1.frz hb.le
      exact k1 F2 H1 s3 (Same.refl _) R2 (.bl false) (Res.dat R2.same rfl (by simp only [IsD]))
  | _ => exact k1.elim
def vNot (a : Env → Out D) : Env → Out D := fun ρ => (a ρ).bind fun x => match x with
  | .bl c => .ok (.bl (!c))
  | _ => .stuck
theorem px_not (ha : PX X g E Γ a Γ1 .rd fa) : PX X g E Γ (.UnaryOp .Not a pos) Γ1 m (vNot fa) := by
  refine ⟨ha.le, (pe_not ha.pe).imp fun σ H Q ⟨ρ, Hf, R, k⟩ => ⟨ρ, Hf, R, ?_⟩⟩
  refine tG.bind (Le.refl _) k fun x F1 H1 s1 s2 R1 k1 v hv => ?_
  cases x with
  | bl c => exact ⟨c, hv, k1 F1 H1 (Same.refl _) (Same.refl _) R1 (.bl (!c)) (Res.dat R1.same rfl (by simp only [IsD]))⟩
  | _ => exact k1.elim
def eIf (t : Env → Out Bool) (a b : Env → Out D) : Env → Out D := fun ρ => (t ρ).bind fun c => if c = true then a ρ else b ρ
variable {es : List Expr} {fr : Env → Out (List D)}
theorem pax_nil : PAx X g E Γ [] Γ aN := by
  refine ⟨Le.refl _, pa_nil.imp fun σ H Q ⟨ρ, Hf, R, k⟩ => ?_⟩
  exact k Hf H (Same.refl _) (Same.refl _) R [] (by simp only [IsDs])
theorem pax_cons (ha : PX X g E Γ a Γ1 .fr fa) (hr : PAx X g E Γ1 es Γ2 fr) (hs : starEach (a :: es) X.env = (false, eval a X.env) :: starEach es X.env := by rfl) : PAx X g E Γ (a :: es) Γ2 (aC fa fr) := by
  refine ⟨hr.le.trans ha.le, (pa_cons ha.pe hr.pe hs).imp fun σ H Q ⟨ρ, Hf, R, k⟩ => ⟨ρ, Hf, R, ?_⟩⟩
  refine tG.bind hr.le k fun x F1 H1 s1 s2 R1 k1 v hv => ⟨ρ, F1, R1, ?_⟩
  refine tG.bind (Le.refl _) k1 fun ys F2 H2 s3 s4 R2 k2 us hu => ?_
  refine k2 F2 H2 (Same.refl _) (Same.refl _) R2 (v :: us) ?_
  simp only [IsDs]
  exact ⟨v, us, rfl, IsD.mono s3 hv, hu⟩
theorem IsDs.len {K : PySem.W.Frag} {mg : Mg} {H : Hp} : ∀ {ds : List D} {vs : List V}, IsDs K mg H ds vs → vs.length = ds.length
  | [], vs, h => by simp only [IsDs] at h; rw [h]; rfl
  | d :: ds, vs, h => by
    simp only [IsDs] at h
    obtain ⟨v, us, e, _, r⟩ := h
    rw [e, List.length_cons, List.length_cons, IsDs.len r]
noncomputable def mkTup (ds : List D) : Out D := chk (ds.length ≤ sizeLine) (.ok (.tup ds))
noncomputable def mkLst (ds : List D) : Out D := chk (ds.length ≤ sizeLine) (.ok (.lst ds))
theorem Rp.new {K : PySem.W.Frag} {mg : Mg} {ρ : Env} {σ : St} {Hf H : Hp} (R : Rp K mg g Γ ρ σ Hf H) {p : Addr} (o : HO) (n : H p = none) : Same Hf (upd Hf p o) ∧ Same H (upd H p o) ∧ Rp K mg g Γ ρ σ (upd Hf p o) (upd H p o) := by
  have nf : Hf p = none := R.same.free n
  have n0 : g.H0 p = none := R.ent.free n
  have s1 : Same Hf (upd Hf p o) := fun b x e => by rw [upd_ne (ne_of_none e nf)]; exact e
  have s2 : Same H (upd H p o) := fun b x e => by rw [upd_ne (ne_of_none e n)]; exact e
  refine ⟨s1, s2, ⟨fun b x e => ?_, R.ent.trans s2, R.ent2.trans s1, fun b x e => ?_, R.len, fun i d ow e => ?_, fun i d ow e => ?_, R.sep⟩⟩
  · by_cases h : b = p
    · subst h; rw [upd_same] at e ⊢; exact e
    · rw [upd_ne h] at e ⊢; exact R.same _ _ e
  · by_cases h : b = p
    · subst h; exact .inr n0
    · rw [upd_ne h] at e; exact R.news _ _ e
  · obtain ⟨v, e1, io⟩ := R.own i d ow e
    refine ⟨v, e1, ?_⟩
    cases d with
    | lst ds =>
      obtain ⟨a, xs, e, z0, zf, q, r⟩ := io
      exact ⟨a, xs, e, z0, by rw [upd_ne (ne_of_none q n)]; exact zf, s2 _ _ q, IsDs.mono s1 r⟩
    | dic ds =>
      obtain ⟨a, xs, e, z0, zf, q, r⟩ := io
      exact ⟨a, xs, e, z0, by rw [upd_ne (ne_of_none q n)]; exact zf, s2 _ _ q, DicAt.mono s1 r⟩
    | ins c ds =>
      obtain ⟨a, xs, e, z0, zf, q, r⟩ := io
      exact ⟨a, xs, e, z0, by rw [upd_ne (ne_of_none q n)]; exact zf, s2 _ _ q, InsAt.mono s1 r⟩
    | _ => exact IsD.mono s1 io
  · obtain ⟨v, e1, q⟩ := R.dat i d ow e
    exact ⟨v, e1, q.mono s1⟩
theorem Rp.newO {K : PySem.W.Frag} {mg : Mg} {ρ : Env} {σ : St} {Hf H : Hp} (R : Rp K mg g Γ ρ σ Hf H) {p : Addr} (o : HO) (n : H p = none) : Same H (upd H p o) ∧ Rp K mg g Γ ρ σ Hf (upd H p o) ∧ g.H0 p = none ∧ Hf p = none ∧
    ∀ i e, Own Γ i → ρ[i]? = some (some e) → e.mut = true → σ[i]? = some (some (.ref p)) → False := by
  have nf : Hf p = none := R.same.free n
  have n0 : g.H0 p = none := R.ent.free n
  have s2 : Same H (upd H p o) := fun b x e => by rw [upd_ne (ne_of_none e n)]; exact e
  refine ⟨s2, ⟨R.same.trans s2, R.ent.trans s2, R.ent2, R.news, R.len, fun i d ow e => ?_, R.dat, R.sep⟩, n0, nf, fun i e ow e1 m e2 => ?_⟩
  · obtain ⟨v, e1, io⟩ := R.own i d ow e
    refine ⟨v, e1, ?_⟩
    cases d with
    | lst ds =>
      obtain ⟨a, xs, e, z0, zf, q, r⟩ := io
      exact ⟨a, xs, e, z0, zf, s2 _ _ q, r⟩
    | dic ds =>
      obtain ⟨a, xs, e, z0, zf, q, r⟩ := io
      exact ⟨a, xs, e, z0, zf, s2 _ _ q, r⟩
    | ins c ds =>
      obtain ⟨a, xs, e, z0, zf, q, r⟩ := io
      exact ⟨a, xs, e, z0, zf, s2 _ _ q, r⟩
    | _ => exact io
  · obtain ⟨v, e3, io⟩ := R.own i e ow e1
    obtain ⟨a, oo, e4, _, _, q⟩ := io.addr m
    rw [e2] at e3
    obtain rfl : V.ref p = v := Option.some.inj (Option.some.inj e3)
    obtain rfl : p = a := V.ref.inj e4
    rw [n] at q; cases q
theorem px_tup {k : Nat} (h : PAx X g E Γ es Γ1 fr) : PX X g E Γ (.Tuple es k pos) Γ1 m (eA mkTup fr) := by
  refine ⟨h.le, (pe_tupF h.pe).imp fun σ H Q ⟨ρ, Hf, R, q⟩ => ⟨ρ, Hf, R, ?_⟩⟩
  refine tG.bind (Le.refl _) q fun ds F1 H1 s1 s2 R1 k1 vs hv => ?_
  unfold mkTup at k1
  by_cases z : ds.length ≤ sizeLine
  · rw [chk_pos z] at k1
    refine ⟨by rw [hv.len]; exact z, fun p o hd n => ?_⟩
    obtain ⟨t1, t2, R2⟩ := R1.new (.frz o (.tup vs)) n
    refine k1 _ _ t1 t2 R2 _ (Res.dat R2.same rfl ?_)
    simp only [IsD]
    exact ⟨p, vs, rfl, .frz upd_same hd, IsDs.mono t1 hv⟩
  · rw [chk_neg z] at k1; exact k1.elim
theorem px_lst (h : PAx X g E Γ es Γ1 fr) : PX X g E Γ (.List es pos) Γ1 .ow (eA mkLst fr) := by
  refine ⟨h.le, (pe_lst h.pe).imp fun σ H Q ⟨ρ, Hf, R, q⟩ => ⟨ρ, Hf, R, ?_⟩⟩
  refine tG.bind (Le.refl _) q fun ds F1 H1 s1 s2 R1 k1 vs hv => ?_
  unfold mkLst at k1
  by_cases z : ds.length ≤ sizeLine
  · rw [chk_pos z] at k1
    refine ⟨by rw [hv.len]; exact z, fun p n => ?_⟩
    obtain ⟨t2, R2, n0, nf, ap⟩ := R1.newO (.lst vs) n
    exact k1 _ _ (Same.refl _) t2 R2 (.ref p) ⟨⟨p, vs, rfl, n0, nf, upd_same, hv⟩, fun i e ow e1 m _ e2 => ap i e ow e1 m e2⟩
  · rw [chk_neg z] at k1; exact k1.elim
end
end PD

namespace PD
open PySem PySem.Spec L2
open PyProof.Rows hiding St

structure PSx (X : Cx) (g : G) (E : WX) (ro : Bool) (Γl : List Bool) (Γ : List Bool) (st : Stmt) (Γ' : List Bool) (f : Env → SO) : Prop where
  ps : PS X st (fun Dn σ H => ∃ ρ Hf, Rp X.K X.mw g Γ ρ σ Hf H ∧ sR X.K X.mw g E Γ' Γl ro Dn (f ρ))
structure PSsx (X : Cx) (g : G) (E : WX) (ro : Bool) (Γl : List Bool) (Γ : List Bool) (st : List Stmt) (Γ' : List Bool) (f : Env → SO) : Prop where
  ps : PSs X st (fun Dn σ H => ∃ ρ Hf, Rp X.K X.mw g Γ ρ σ Hf H ∧ sR X.K X.mw g E Γ' Γl ro Dn (f ρ))
theorem _root_.L2.PS.imp {X : Cx} {e : Stmt} {t t' : TS} (h : PS X e t) (w : ∀ D σ H, t' D σ H → t D σ H) : PS X e t' :=
  ⟨fun pins s σ H D I q => h.run pins s σ H D I (w D σ H q)⟩
theorem _root_.L2.PSs.imp {X : Cx} {e : List Stmt} {t t' : TS} (h : PSs X e t) (w : ∀ D σ H, t' D σ H → t D σ H) : PSs X e t' :=
  ⟨fun pins s σ H D I q => h.run pins s σ H D I (w D σ H q)⟩
theorem _root_.L2.PG.imp {X : Cx} {e : Expr} {t t' : TG} (h : PG X e t) (w : ∀ v σ H Q, t' v σ H Q → t v σ H Q) : PG X e t' :=
  ⟨fun pins s σ H v u Q I r q => h.run pins s σ H v u Q I r (w v σ H Q q)⟩
theorem _root_.L2.PGs.imp {X : Cx} {e : List Expr} {t t' : TGs} (h : PGs X e t) (w : ∀ v σ H Q, t' v σ H Q → t v σ H Q) : PGs X e t' :=
  ⟨fun pins s σ H v u Q I r q => h.run pins s σ H v u Q I r (w v σ H Q q)⟩

def sNx : Env → SO := fun ρ => .nx ρ
def sBk : Env → SO := fun ρ => .bk ρ
def sCt : Env → SO := fun ρ => .ct ρ
def SO.andThen (o : SO) (k : Env → SO) : SO := match o with
  | .nx r => k r
  | o => o
def sSeq (f k : Env → SO) : Env → SO := fun ρ => (f ρ).andThen k
def oS {α : Type} (o : Out α) (k : α → SO) : SO := match o with
  | .ok a => k a
  | .exc x => .ex x
  | .stuck => .stuck
@[simp] theorem oS_ok {α : Type} (a : α) (k : α → SO) : oS (.ok a) k = k a := rfl
@[simp] theorem oS_exc {α : Type} (x : Exn) (k : α → SO) : oS (.exc x) k = .ex x := rfl
@[simp] theorem oS_stuck {α : Type} (k : α → SO) : oS (.stuck : Out α) k = .stuck := rfl
@[simp] theorem andThen_nx (r : Env) (k : Env → SO) : (SO.nx r).andThen k = k r := rfl
@[simp] theorem andThen_rt (d : D) (k : Env → SO) : (SO.rt d).andThen k = .rt d := rfl
@[simp] theorem andThen_bk (r : Env) (k : Env → SO) : (SO.bk r).andThen k = .bk r := rfl
@[simp] theorem andThen_ct (r : Env) (k : Env → SO) : (SO.ct r).andThen k = .ct r := rfl
@[simp] theorem andThen_ex (x : Exn) (k : Env → SO) : (SO.ex x).andThen k = .ex x := rfl
@[simp] theorem andThen_stuck (k : Env → SO) : SO.stuck.andThen k = .stuck := rfl
def sSet (i : Nat) (f : Env → Out D) : Env → SO := fun ρ => oS (f ρ) fun d => .nx (ρ.set i (some d))
def sIf (t : Env → Out Bool) (a b : Env → SO) : Env → SO := fun ρ => oS (t ρ) fun c => if c = true then a ρ else b ρ
def sRet (f : Env → Out D) : Env → SO := fun ρ => oS (f ρ) .rt
def sRetN : Env → SO := fun _ => .rt .non
def sExpr (f : Env → Out D) : Env → SO := fun ρ => oS (f ρ) fun _ => .nx ρ
def gN (i : Nat) : D → Env → Out Env := fun d ρ => .ok (ρ.set i (some d))
def gT (gs : List (D → Env → Out Env)) : D → Env → Out Env := fun d ρ => match d with
  | .tup ds => if ds.length = gs.length then (gs.zip ds).foldl (fun o p => o.bind (p.1 p.2)) (.ok ρ) else .stuck
  | .lst ds => if ds.length = gs.length then (gs.zip ds).foldl (fun o p => o.bind (p.1 p.2)) (.ok ρ) else .stuck
  | _ => .stuck
def sAsg (G : D → Env → Out Env) (f : Env → Out D) : Env → SO := fun ρ => oS (f ρ) fun d => oS (G d ρ) .nx
def SO.turn (o : SO) (k : Env → SO) : SO := match o with
  | .nx r => k r
  | .ct r => k r
  | .bk r => .nx r
  | o => o
@[simp] theorem turn_nx (r : Env) (k : Env → SO) : (SO.nx r).turn k = k r := rfl
@[simp] theorem turn_ct (r : Env) (k : Env → SO) : (SO.ct r).turn k = k r := rfl
@[simp] theorem turn_bk (r : Env) (k : Env → SO) : (SO.bk r).turn k = .nx r := rfl
@[simp] theorem turn_rt (d : D) (k : Env → SO) : (SO.rt d).turn k = .rt d := rfl
@[simp] theorem turn_ex (x : Exn) (k : Env → SO) : (SO.ex x).turn k = .ex x := rfl
@[simp] theorem turn_stuck (k : Env → SO) : SO.stuck.turn k = .stuck := rfl
def forL (G : D → Env → Out Env) (b : Env → SO) : List D → Env → SO
  | [], ρ => .nx ρ
  | d :: ds, ρ => oS (G d ρ) fun ρ1 => (b ρ1).turn fun r => forL G b ds r
def sFor (G : D → Env → Out Env) (it : Env → Out (List D)) (b : Env → SO) : Env → SO := fun ρ => oS (it ρ) fun ds => forL G b ds ρ
section
variable {X : Cx} {g : G} {E : WX} {ro : Bool} {Γl Γ Γ1 Γ2 Γ3 : List Bool} {m : Md} {pos : Pos}

theorem sR.imp {Dn Dn' : Ends} {o : SO} (h : sR X.K X.mw g E Γ1 Γl ro Dn o) (w : ∀ ρ σ Hf H, o = .nx ρ → Rp X.K X.mw g Γ1 ρ σ Hf H → Dn.nx σ H → Dn'.nx σ H) (e1 : Dn'.rt = Dn.rt) (e2 : Dn'.bk = Dn.bk) (e3 : Dn'.ct = Dn.ct) : sR X.K X.mw g E Γ1 Γl ro Dn' o := by
  cases o with
  | nx ρ => exact fun σ Hf H R => w ρ σ Hf H rfl R (h σ Hf H R)
  | rt d => unfold sR at h ⊢; rw [e1]; exact h
  | bk ρ => unfold sR at h ⊢; rw [e2]; exact h
  | ct ρ => unfold sR at h ⊢; rw [e3]; exact h
  | ex x => exact h
  | stuck => exact h
theorem pssx_nil : PSsx X g E ro Γl Γ [] Γ sNx := ⟨pss_nil.imp fun D σ H ⟨ρ, Hf, R, q⟩ => q σ Hf H R⟩
theorem pssx_one {st : Stmt} {f : Env → SO} (h : PSx X g E ro Γl Γ st Γ1 f) : PSsx X g E ro Γl Γ [st] Γ1 f := ⟨pss_one h.ps⟩
theorem pssx_cons {st : Stmt} {r : List Stmt} {f k : Env → SO} (h : PSx X g E ro Γl Γ st Γ1 f) (hr : PSsx X g E ro Γl Γ1 r Γ2 k) : PSsx X g E ro Γl Γ (st :: r) Γ2 (sSeq f k) := by
  refine ⟨(pss_cons h.ps hr.ps).imp fun D σ H ⟨ρ, Hf, R, q⟩ => ⟨ρ, Hf, R, ?_⟩⟩
  unfold sSeq at q
  cases hf : f ρ with
  | nx r => rw [hf] at q; exact fun σ' Hf' H' R' => ⟨r, Hf', R', q⟩
  | rt d => rw [hf] at q; exact q
  | bk r => rw [hf] at q; exact q
  | ct r => rw [hf] at q; exact q
  | ex x => rw [hf] at q; exact q
  | stuck => rw [hf] at q; exact q
theorem sR.less {Dn : Ends} {o : SO} (le : Le Γ2 Γ1) (h : sR X.K X.mw g E Γ2 Γl ro Dn o) : sR X.K X.mw g E Γ1 Γl ro Dn o := by
  cases o with
  | nx ρ =>
    intro σ Hf H R
    obtain ⟨F', s1, R', _⟩ := R.frz le
    exact h σ F' H R'
  | _ => exact h
theorem PSsx.less {st : List Stmt} {f : Env → SO} (h : PSsx X g E ro Γl Γ st Γ1 f) (le : Le Γ2 Γ1) : PSsx X g E ro Γl Γ st Γ2 f :=
  ⟨h.ps.imp fun D σ H ⟨ρ, Hf, R, q⟩ => ⟨ρ, Hf, R, q.less le⟩⟩
theorem PSx.less {st : Stmt} {f : Env → SO} (h : PSx X g E ro Γl Γ st Γ1 f) (le : Le Γ2 Γ1) : PSx X g E ro Γl Γ st Γ2 f :=
  ⟨h.ps.imp fun D σ H ⟨ρ, Hf, R, q⟩ => ⟨ρ, Hf, R, q.less le⟩⟩
theorem PSx.pre {st : Stmt} {f : Env → SO} (h : PSx X g E ro Γl Γ st Γ1 f) (le : Le Γ Γ2) : PSx X g E ro Γl Γ2 st Γ1 f :=
  ⟨h.ps.imp fun D σ H ⟨ρ, Hf, R, q⟩ => by
    obtain ⟨F', s1, R', _⟩ := R.frz le
    exact ⟨ρ, F', R', q⟩⟩
theorem sR.any {Dn : Ends} {o : SO} (n : ∀ ρ, o ≠ .nx ρ) (h : sR X.K X.mw g E Γ2 Γl ro Dn o) : sR X.K X.mw g E Γ1 Γl ro Dn o := by
  cases o with
  | nx ρ => exact absurd rfl (n ρ)
  | _ => exact h
theorem tG.toS {Dn : Ends} {Γ1 : List Bool} {ρ : Env} {σ : St} {Hf H : Hp} {α : Type} {P : α → Hp → Hp → Prop} {o : Out α} {k : α → SO} (h : sR X.K X.mw g E Γ2 Γl ro Dn (oS o k))
    (hk : ∀ a Hf' H', Same Hf Hf' → Same H H' → Rp X.K X.mw g Γ1 ρ σ Hf' H' → sR X.K X.mw g E Γ2 Γl ro Dn (k a) → P a Hf' H') : tG X.K X.mw g E Γ1 ρ σ Hf H P o := by
  cases o with
  | ok a => exact fun F1 H1 s1 s2 R1 => hk a F1 H1 s1 s2 R1 h
  | exc x => exact fun c dd F1 H1 s1 s2 R1 q => h c dd σ F1 H1 R1.same R1.ent R1.ent2 R1.news q
  | stuck => exact h
theorem psx_ret {e : Expr} {f : Env → Out D} (he : PX X g E Γ e Γ1 .fr f) (hs : g.slf = none := by first | rfl | assumption) : PSx X g E false Γl Γ (.Return (some e) pos) Γ2 (sRet f) := by
  refine ⟨(ps_ret he.pe).imp fun D σ H ⟨ρ, Hf, R, q⟩ => ⟨ρ, Hf, R, tG.toS q fun d F1 H1 s1 s2 R1 k v hv => ?_⟩⟩
  exact k v F1 H1 R1.same R1.ent R1.ent2 R1.news (by unfold RetG; rw [hs]; show RetRes _ _ _ _ _ _ _ _; unfold RetRes; rw [if_neg Bool.false_ne_true]; exact hv)
theorem psx_retO {e : Expr} {f : Env → Out D} (he : PX X g E Γ e Γ1 .ow f) (hs : g.slf = none := by first | rfl | assumption) : PSx X g E true Γl Γ (.Return (some e) pos) Γ2 (sRet f) := by
  refine ⟨(ps_ret he.pe).imp fun D σ H ⟨ρ, Hf, R, q⟩ => ⟨ρ, Hf, R, tG.toS q fun d F1 H1 s1 s2 R1 k v hv => ?_⟩⟩
  exact k v F1 H1 R1.same R1.ent R1.ent2 R1.news (by unfold RetG; rw [hs]; show RetRes _ _ _ _ _ _ _ _; unfold RetRes; rw [if_pos rfl]; exact hv.1)
theorem psx_retV {x : Str} {i : Nat} {p : Pos} (h : PE X (.Name x p) (tVar i)) (o : Γ.getD i false = true) (hs : g.slf = none := by first | rfl | assumption) : PSx X g E true Γl Γ (.Return (some (.Name x p)) pos) Γ2 (sRet (eV i)) := by
  refine ⟨(ps_ret h).imp fun D σ H ⟨ρ, Hf, R, q⟩ => ?_⟩
  unfold sRet at q
  cases he : eV i ρ with
  | ok d =>
    rw [he] at q
    obtain ⟨v, e1, io⟩ := R.own i d o (eV_ok he)
    exact ⟨v, e1, q v Hf H R.same R.ent R.ent2 R.news (by unfold RetG; rw [hs]; show RetRes _ _ _ _ _ _ _ _; unfold RetRes; rw [if_pos rfl]; exact io)⟩
  | exc x => exact (eV_nx he).elim
  | stuck => rw [he] at q; exact q.elim
theorem psx_if {c : Expr} {a b : List Stmt} {ft : Env → Out Bool} {fa fb : Env → SO} (hc : PTx X g E Γ c Γ1 ft) (ha : PSsx X g E ro Γl Γ1 a Γ2 fa) (hb : PSsx X g E ro Γl Γ1 b Γ2 fb) : PSx X g E ro Γl Γ (.If c a b pos) Γ2 (sIf ft fa fb) := by
  refine ⟨(ps_if hc.pe ha.ps hb.ps).imp fun D σ H ⟨ρ, Hf, R, q⟩ => ⟨ρ, Hf, R, tG.toS q fun d F1 H1 s1 s2 R1 k => ?_⟩⟩
  cases d with
  | true => exact ⟨ρ, F1, R1, k⟩
  | false => exact ⟨ρ, F1, R1, k⟩

theorem getD_set {Γ : List Bool} {i j : Nat} {b : Bool} : (Γ.set i b).getD j false = if i = j ∧ i < Γ.length then b else Γ.getD j false := by
  rw [List.getD_eq_getElem?_getD, List.getElem?_set, List.getD_eq_getElem?_getD]
  by_cases e : i = j
  · subst e
    by_cases l : i < Γ.length
    · simp [l]
    · simp [l]
  · simp [e]
theorem set_get {α : Type} {l : List (Option α)} {i j : Nat} {x y : α} (h : (l.set i (some x))[j]? = some (some y)) : (i = j ∧ i < l.length ∧ x = y) ∨ (i ≠ j ∧ l[j]? = some (some y)) := by
  rw [List.getElem?_set] at h
  by_cases e : i = j
  · rw [if_pos e] at h
    by_cases l' : i < l.length
    · rw [if_pos l'] at h; exact .inl ⟨e, l', Option.some.inj (Option.some.inj h)⟩
    · rw [if_neg l'] at h; cases h
  · rw [if_neg e] at h; exact .inr ⟨e, h⟩
theorem Rp.setF {K : PySem.W.Frag} {mg : Mg} {ρ : Env} {σ : St} {Hf H : Hp} (R : Rp K mg g Γ ρ σ Hf H) {i : Nat} {d : D} {v : V} (ns : NS g i) (h : IsD K mg Hf d v) : Rp K mg g (Γ.set i false) (ρ.set i (some d)) (σ.set i (some v)) Hf H := by
  have ne : ∀ {j}, Own (Γ.set i false) j → i ≠ j ∨ ¬ i < Γ.length := fun {j} o => by
    unfold Own at o; rw [getD_set] at o
    by_cases z : i = j ∧ i < Γ.length
    · rw [if_pos z] at o; cases o
    · by_cases e : i = j
      · exact .inr fun l => z ⟨e, l⟩
      · exact .inl e
  have ow : ∀ {j}, Own (Γ.set i false) j → i ≠ j ∧ Own Γ j := fun {j} o => by
    have o' := Le.set Γ i j o
    refine ⟨fun e => ?_, o'⟩
    rcases ne o with z | z
    · exact z e
    · subst e
      unfold Own at o'
      rw [List.getD_eq_getElem?_getD, List.getElem?_eq_none (by omega)] at o'
      simp at o'
  have sg : ∀ {j}, i ≠ j → (σ.set i (some v))[j]? = σ[j]? := fun {j} e => by rw [List.getElem?_set]; simp [e]
  refine ⟨R.same, R.ent, R.ent2, R.news, R.len.set ns _ _, fun j d' o e => ?_, fun j d' o e => ?_, fun j k d' e v n o1 o2 e1 e2 m1 m2 s1 s2 => ?_⟩
  · obtain ⟨nij, oΓ⟩ := ow o
    rcases set_get e with ⟨e', _⟩ | ⟨_, e'⟩
    · exact absurd e' nij
    · rw [sg nij]; exact R.own j d' oΓ e'
  · rcases set_get e with ⟨rfl, l, rfl⟩ | ⟨nij, e'⟩
    · exact ⟨v, by rw [List.getElem?_set_self (by rw [R.len.1]; exact l)], h⟩
    · rw [sg nij]
      refine R.dat j d' (fun z => o ?_) e'
      unfold Own; rw [getD_set, if_neg (fun q => nij q.1)]; exact z
  · obtain ⟨n1, p1⟩ := ow o1
    obtain ⟨n2, p2⟩ := ow o2
    rw [sg n1] at s1; rw [sg n2] at s2
    rcases set_get e1 with ⟨z, _⟩ | ⟨_, e1'⟩
    · exact n1 z
    · rcases set_get e2 with ⟨z, _⟩ | ⟨_, e2'⟩
      · exact n2 z
      · exact R.sep j k d' e _ n p1 p2 e1' e2' m1 m2 s1 s2
theorem Rp.setO {K : PySem.W.Frag} {mg : Mg} {ρ : Env} {σ : St} {Hf H : Hp} (R : Rp K mg g Γ ρ σ Hf H) {i : Nat} {d : D} {v : V} (ns : NS g i) (hi : i < Γ.length) (h : IsO K mg g.H0 Hf H d v)
    (ap : ∀ i e, Own Γ i → ρ[i]? = some (some e) → e.mut = true → d.mut = true → σ[i]? = some (some v) → False) : Rp K mg g (Γ.set i true) (ρ.set i (some d)) (σ.set i (some v)) Hf H := by
  have sg : ∀ {j}, i ≠ j → (σ.set i (some v))[j]? = σ[j]? := fun {j} e => by rw [List.getElem?_set]; simp [e]
  have ow : ∀ {j}, i ≠ j → (Own (Γ.set i true) j ↔ Own Γ j) := fun {j} e => by unfold Own; rw [getD_set, if_neg fun q => e q.1]
  have oi : Own (Γ.set i true) i := by unfold Own; rw [getD_set, if_pos ⟨rfl, hi⟩]
  refine ⟨R.same, R.ent, R.ent2, R.news, R.len.set ns _ _, fun j d' o e => ?_, fun j d' o e => ?_, fun j k d' e v' n o1 o2 e1 e2 m1 m2 s1 s2 => ?_⟩
  · rcases set_get e with ⟨rfl, l, rfl⟩ | ⟨nij, e'⟩
    · exact ⟨v, by rw [List.getElem?_set_self (by rw [R.len.1]; exact l)], h⟩
    · rw [sg nij]; exact R.own j d' ((ow nij).mp o) e'
  · rcases set_get e with ⟨rfl, l, rfl⟩ | ⟨nij, e'⟩
    · exact absurd oi o
    · rw [sg nij]; exact R.dat j d' (fun z => o ((ow nij).mpr z)) e'
  · rcases set_get e1 with ⟨rfl, l1, rfl⟩ | ⟨n1, e1'⟩
    · rcases set_get e2 with ⟨rfl, _⟩ | ⟨n2, e2'⟩
      · exact n rfl
      · rw [sg n2] at s2
        rw [List.getElem?_set_self (by rw [R.len.1]; exact l1)] at s1
        obtain rfl : v = v' := Option.some.inj (Option.some.inj s1)
        exact ap k e ((ow n2).mp o2) e2' m2 m1 s2
    · rw [sg n1] at s1
      rcases set_get e2 with ⟨rfl, l2, rfl⟩ | ⟨n2, e2'⟩
      · rw [List.getElem?_set_self (by rw [R.len.1]; exact l2)] at s2
        obtain rfl : v = v' := Option.some.inj (Option.some.inj s2)
        exact ap j d' ((ow n1).mp o1) e1' m1 m2 s1
      · rw [sg n2] at s2
        exact R.sep j k d' e v' n ((ow n1).mp o1) ((ow n2).mp o2) e1' e2' m1 m2 s1 s2
theorem psx_set {i : Nat} {x : Str} {e : Expr} {p : Pos} {f : Env → Out D} (hN : X.N.Nodup) (hi : X.N[i]? = some x) (hx : Loc X.env.scope x) (he : PX X g E Γ e Γ1 .fr f) (hf : X.fn x = true ∨ X.env.scope.names.lookup x = some .local := by first | exact .inl rfl | exact .inr rfl | assumption) (ns : NS g i := by first | exact .inr rfl | exact .inr (by assumption) | exact .inl (by decide)) (hs : swapsWith e (some (.Name x p)) pos.line X.env = pure false := by rfl) :
    PSx X g E ro Γl Γ (.Assign [.Name x p] e pos) (Γ1.set i false) (sSet i f) := by
  refine ⟨(ps_set hN hi hx he.pe hs hf).imp fun D σ H ⟨ρ, Hf, R, q⟩ => ⟨ρ, Hf, R, tG.toS q fun d F1 H1 s1 s2 R1 k v hv => ?_⟩⟩
  exact k _ F1 H1 (R1.setF ns hv)
theorem psx_setO {i : Nat} {x : Str} {e : Expr} {p : Pos} {f : Env → Out D} (hN : X.N.Nodup) (hi : X.N[i]? = some x) (hx : Loc X.env.scope x) (he : PX X g E Γ e Γ1 .ow f) (hl : i < Γ1.length) (hf : X.fn x = true ∨ X.env.scope.names.lookup x = some .local := by first | exact .inl rfl | exact .inr rfl | assumption) (ns : NS g i := by first | exact .inr rfl | exact .inr (by assumption) | exact .inl (by decide)) (hs : swapsWith e (some (.Name x p)) pos.line X.env = pure false := by rfl) :
    PSx X g E ro Γl Γ (.Assign [.Name x p] e pos) (Γ1.set i true) (sSet i f) := by
  refine ⟨(ps_set hN hi hx he.pe hs hf).imp fun D σ H ⟨ρ, Hf, R, q⟩ => ⟨ρ, Hf, R, tG.toS q fun d F1 H1 s1 s2 R1 k v hv => ?_⟩⟩
  exact k _ F1 H1 (R1.setO ns hl hv.1 hv.2)

structure PGx (X : Cx) (g : G) (Γ : List Bool) (tg : Expr) (Γ' : List Bool) (F : D → Env → Out Env) (vs : List Nat) : Prop where
  pg : PG X tg (fun v σ H Q => ∃ d ρ Hf, Rp X.K X.mw g Γ ρ σ Hf H ∧ IsD X.K X.mw Hf d v ∧ ∃ ρ', F d ρ = .ok ρ' ∧ ∀ σ', (∀ i, i ∉ vs → σ'[i]? = σ[i]?) → Rp X.K X.mw g Γ' ρ' σ' Hf H → Q σ' H)
  ag : ∀ d ρ ρ', F d ρ = .ok ρ' → (∀ i, i ∉ vs → ρ'[i]? = ρ[i]?) ∧ ρ'.length = ρ.length
structure PGsx (X : Cx) (g : G) (Γ : List Bool) (tg : List Expr) (Γ' : List Bool) (Fs : List (D → Env → Out Env)) (ws : List Nat) : Prop where
  pg : PGs X tg (fun vs σ H Q => ∃ ds ρ Hf, Rp X.K X.mw g Γ ρ σ Hf H ∧ IsDs X.K X.mw Hf ds vs ∧ ds.length = Fs.length ∧ ∃ ρ', (Fs.zip ds).foldl (fun o p => o.bind (p.1 p.2)) (Out.ok ρ) = .ok ρ' ∧ ∀ σ', (∀ i, i ∉ ws → σ'[i]? = σ[i]?) → Rp X.K X.mw g Γ' ρ' σ' Hf H → Q σ' H)
  ag : ∀ ds ρ ρ', (Fs.zip ds).foldl (fun o p => o.bind (p.1 p.2)) (Out.ok ρ) = .ok ρ' → (∀ i, i ∉ ws → ρ'[i]? = ρ[i]?) ∧ ρ'.length = ρ.length
theorem foldl_bad {l : List ((D → Env → Out Env) × D)} {o : Out Env} (h : ∀ r, o ≠ .ok r) : ∀ r, l.foldl (fun o p => o.bind (p.1 p.2)) o ≠ .ok r := by
  induction l generalizing o with
  | nil => exact h
  | cons p l ih =>
    intro r
    rw [List.foldl_cons]
    refine ih (fun r' => ?_) r
    cases o with
    | ok a => exact absurd rfl (h a)
    | exc x => intro z; cases z
    | stuck => intro z; cases z
theorem pgx_name {i : Nat} {x : Str} (hN : X.N.Nodup) (hi : X.N[i]? = some x) (hx : Loc X.env.scope x) (hf : X.fn x = true ∨ X.env.scope.names.lookup x = some .local := by first | exact .inl rfl | exact .inr rfl | assumption) (ns : NS g i := by first | exact .inr rfl | exact .inr (by assumption) | exact .inl (by decide)) : PGx X g Γ (.Name x pos) (Γ.set i false) (gN i) [i] :=
  ⟨(pg_name hN hi hx hf).imp fun v σ H Q ⟨d, ρ, Hf, R, h, ρ', e, q⟩ => by
    cases e
    exact q _ (fun j nj => by rw [List.getElem?_set_ne (fun z => nj (by simp [z]))]) (R.setF ns h), fun d ρ ρ' e => by
    cases e
    exact ⟨fun j nj => by rw [List.getElem?_set_ne (fun z => nj (by simp [z]))], by simp⟩⟩
theorem pgsx_nil : PGsx X g Γ [] Γ [] [] := ⟨pgs_nil.imp fun vs σ H Q ⟨ds, ρ, Hf, R, h, l, ρ', e, q⟩ => (by
  cases ds with
  | nil =>
    simp only [IsDs] at h
    cases e
    exact ⟨h, q σ (fun _ _ => rfl) R⟩
  | cons d ds => cases l), fun ds ρ ρ' e => by
  cases e; exact ⟨fun _ _ => rfl, rfl⟩⟩
theorem pgsx_cons {t : Expr} {ts : List Expr} {F : D → Env → Out Env} {Fs : List (D → Env → Out Env)} {ws us : List Nat} (h1 : PGx X g Γ t Γ1 F ws) (h2 : PGsx X g Γ1 ts Γ2 Fs us)
    (hs : (assignEach (t :: ts) X.env).map (·.2) = assign t X.env :: (assignEach ts X.env).map (·.2) := by rfl) : PGsx X g Γ (t :: ts) Γ2 (F :: Fs) (ws ++ us) :=
  ⟨(pgs_cons h1.pg h2.pg hs).imp fun vs σ H Q ⟨ds, ρ, Hf, R, h, l, ρ', e, q⟩ => (by
    cases ds with
    | nil => cases l
    | cons d ds =>
      simp only [IsDs] at h
      obtain ⟨v, us', ev, hv, hr⟩ := h
      subst ev
      rw [List.zip_cons_cons, List.foldl_cons] at e
      cases hF : F d ρ with
      | ok ρ1 =>
        simp only [Out.bind_ok, hF] at e
        exact ⟨v, us', rfl, d, ρ, Hf, R, hv, ρ1, hF, fun σ1 a1 R1 => ⟨ds, ρ1, Hf, R1, hr, by simpa using l, ρ', e, fun σ' a2 R2 => q σ' (fun j nj => (a2 j fun z => nj (List.mem_append_right _ z)).trans (a1 j fun z => nj (List.mem_append_left _ z))) R2⟩⟩
      | exc x => simp only [Out.bind_ok, hF] at e; exact absurd e (foldl_bad (fun r z => by cases z) ρ')
      | stuck => simp only [Out.bind_ok, hF] at e; exact absurd e (foldl_bad (fun r z => by cases z) ρ')), fun ds ρ ρ' e => by
    cases ds with
    | nil => cases e; exact ⟨fun _ _ => rfl, rfl⟩
    | cons d ds =>
      rw [List.zip_cons_cons, List.foldl_cons] at e
      cases hF : F d ρ with
      | ok ρ1 =>
        simp only [Out.bind_ok, hF] at e
        exact ⟨fun j nj => ((h2.ag _ _ _ e).1 j fun z => nj (List.mem_append_right _ z)).trans ((h1.ag _ _ _ hF).1 j fun z => nj (List.mem_append_left _ z)), (h2.ag _ _ _ e).2.trans (h1.ag _ _ _ hF).2⟩
      | exc x => simp only [Out.bind_ok, hF] at e; exact absurd e (foldl_bad (fun r z => by cases z) ρ')
      | stuck => simp only [Out.bind_ok, hF] at e; exact absurd e (foldl_bad (fun r z => by cases z) ρ')⟩
theorem _root_.L2.PG.or {e : Expr} {t t' : TG} (h : PG X e t) (h' : PG X e t') : PG X e (fun v σ H Q => t v σ H Q ∨ t' v σ H Q) :=
  ⟨fun pins s σ H v u Q I r q => q.elim (h.run pins s σ H v u Q I r) (h'.run pins s σ H v u Q I r)⟩
theorem pgx_tup {ts : List Expr} {k : Nat} {Fs : List (D → Env → Out Env)} {ws : List Nat} (hc : X.calm = true) (h : PGsx X g Γ ts Γ1 Fs ws) (hn : (assignEach ts X.env).length = Fs.length := by rfl) (hst : (assignEach ts X.env).findIdx? (·.1) = none := by rfl) :
    PGx X g Γ (.Tuple ts k pos) Γ1 (gT Fs) ws :=
  ⟨((pg_tup hc h.pg hn hst).or (pg_unl hc h.pg hn hst)).imp fun v σ H Q ⟨d, ρ, Hf, R, h', ρ', e, q⟩ => (by
    cases d with
    | tup ds =>
      simp only [IsD] at h'
      obtain ⟨a, xs, ev, hq, hr⟩ := h'
      unfold gT at e
      simp only at e
      by_cases l : ds.length = Fs.length
      · rw [if_pos l] at e
        exact .inl ⟨a, xs, ev, (Same.seqT R.same hq).l, by rw [hr.len, l], ds, ρ, Hf, R, hr, l, ρ', e, q⟩
      · rw [if_neg l] at e; cases e
    | lst ds =>
      simp only [IsD] at h'
      obtain ⟨a, xs, ev, hq, hr⟩ := h'
      unfold gT at e
      simp only at e
      by_cases l : ds.length = Fs.length
      · rw [if_pos l] at e
        exact .inr ⟨a, xs, ev, .of (R.same _ _ hq), by rw [hr.len, l], ds, ρ, Hf, R, hr, l, ρ', e, q⟩
      · rw [if_neg l] at e; cases e
    | _ => cases e), fun d ρ ρ' e => by
    unfold gT at e
    cases d with
    | tup ds =>
      simp only at e
      by_cases l : ds.length = Fs.length
      · rw [if_pos l] at e; exact h.ag _ _ _ e
      · rw [if_neg l] at e; cases e
    | lst ds =>
      simp only at e
      by_cases l : ds.length = Fs.length
      · rw [if_pos l] at e; exact h.ag _ _ _ e
      · rw [if_neg l] at e; cases e
    | _ => cases e⟩
theorem psx_asg {tg e : Expr} {F : D → Env → Out Env} {f : Env → Out D} (he : PX X g E Γ e Γ1 .fr f) {ws : List Nat} (hg : PGx X g Γ1 tg Γ2 F ws) (nx : ∀ d ρ x, F d ρ ≠ .exc x) (hs : swapsWithSole [tg] e pos.line X.env = pure false := by rfl) (hw : swappedStores [tg] e X.env = pure none := by rfl)
    (h1 : (assignEach [tg] X.env).map (·.2) = [assign tg X.env] := by rfl) : PSx X g E ro Γl Γ (.Assign [tg] e pos) Γ2 (sAsg F f) := by
  refine ⟨(ps_asg he.pe hg.pg hs hw h1).imp fun D σ H ⟨ρ, Hf, R, q⟩ => ⟨ρ, Hf, R, tG.toS q fun d F1 H1 s1 s2 R1 k v hv => ?_⟩⟩
  cases hF : F d ρ with
  | ok ρ' => rw [hF] at k; exact ⟨d, ρ, F1, R1, hv, ρ', hF, fun σ' _ R' => k σ' F1 H1 R'⟩
  | exc x => exact absurd hF (nx d ρ x)
  | stuck => rw [hF] at k; exact k.elim
theorem gN_nx {i : Nat} : ∀ d ρ x, gN i d ρ ≠ .exc x := fun d ρ x z => by cases z
theorem gT_nx {Fs : List (D → Env → Out Env)} (h : ∀ F ∈ Fs, ∀ d ρ x, F d ρ ≠ .exc x) : ∀ d ρ x, gT Fs d ρ ≠ .exc x := by
  have key : ∀ (l : List ((D → Env → Out Env) × D)) (o : Out Env), (∀ x, o ≠ .exc x) → (∀ p ∈ l, ∀ d ρ x, p.1 d ρ ≠ .exc x) → ∀ x, l.foldl (fun o p => o.bind (p.1 p.2)) o ≠ .exc x := by
    intro l
    induction l with
    | nil => intro o h _; exact h
    | cons p l ih =>
      intro o ho hl
      rw [List.foldl_cons]
      refine ih _ (fun x => ?_) fun q hq => hl q (List.mem_cons_of_mem _ hq)
      cases o with
      | ok a => exact hl p List.mem_cons_self p.2 a x
      | exc y => exact absurd rfl (ho y)
      | stuck => intro z; cases z
  intro d ρ x
  unfold gT
  cases d with
  | tup ds =>
    simp only
    by_cases l : ds.length = Fs.length
    · rw [if_pos l]
      refine key _ _ (fun x z => by cases z) (fun p hp => ?_) x
      exact h p.1 (List.of_mem_zip hp).1
    · rw [if_neg l]; intro z; cases z
  | lst ds =>
    simp only
    by_cases l : ds.length = Fs.length
    · rw [if_pos l]
      refine key _ _ (fun x z => by cases z) (fun p hp => ?_) x
      exact h p.1 (List.of_mem_zip hp).1
    · rw [if_neg l]; intro z; cases z
  | _ => intro z; cases z
end
end PD

namespace PD
open PySem PySem.Spec L2
open PyProof.Rows hiding St

theorem _root_.L2.PI.imp {X : Cx} {tg e : Expr} {t t' : TI} (h : PI X tg e t) (w : ∀ σ H Q, t' σ H Q → t σ H Q) : PI X tg e t' :=
  ⟨fun pins s σ H R I q => h.run pins s σ H R I (w σ H R q)⟩

def Walks (K : PySem.W.Frag) (mg : Mg) (H0 : Hp) (J : It) (F1 : Hp) (ds : List D) : Prop :=
  ∀ (g : G) Γ ρ σ Hf H, Same F1 Hf → Rp K mg g Γ ρ σ Hf H → ∀ i,
    (∀ d, ds[i]? = some d → J.go i H ∧ ∀ x H', J.yld i H x H' → ∃ Hf', Same Hf Hf' ∧ Same H H' ∧ Rp K mg g Γ ρ σ Hf' H' ∧ IsD K mg Hf' d x) ∧ (ds.length ≤ i → J.stop i H)
structure PIx (X : Cx) (g : G) (E : WX) (Γ : List Bool) (tg iter : Expr) (Γ' : List Bool) (f : Env → Out (List D)) : Prop where
  le : Le Γ' Γ
  pi : PI X tg iter (fun σ H R => ∃ ρ Hf, Rp X.K X.mw g Γ ρ σ Hf H ∧ tG X.K X.mw g E Γ' ρ σ Hf H (fun ds Hf' H' => ∀ J, Walks X.K X.mw g.H0 J Hf' ds → R J H') (f ρ))
def iSeq (f : Env → Out D) : Env → Out (List D) := fun ρ => (f ρ).bind fun d => match d with
  | .lst ds => .ok ds
  | .tup ds => .ok ds
  | .scr ns => .ok (ns.map .int)
  | _ => .stuck
noncomputable def rng1 : List D → Out (List D)
  | [.int j] => chk (-(2 ^ 62) ≤ j ∧ j < 2 ^ 62) (.ok ((List.range j.toNat).map fun (n : Nat) => .int n))
  | _ => .stuck
noncomputable def rng2 : List D → Out (List D)
  | [.int i, .int j] => chk ((-(2 ^ 62) ≤ i ∧ i < 2 ^ 62) ∧ -(2 ^ 62) ≤ j ∧ j < 2 ^ 62) (.ok ((List.range (j - i).toNat).map fun (n : Nat) => .int (i + n)))
  | _ => .stuck
noncomputable def iRange1 (f : Env → Out (List D)) : Env → Out (List D) := fun ρ => (f ρ).bind rng1
noncomputable def iRange2 (f : Env → Out (List D)) : Env → Out (List D) := fun ρ => (f ρ).bind rng2

section
variable {X : Cx} {tg : Expr}
theorem pi_any {l : Expr} {tl : TE} (hl : PE X l tl) : PI X tg l (fun σ H R => tl σ H fun x H1 => ∃ a, x = .ref a ∧ (((∃ xs, SqL X.K H1 a xs) ∧ R (Itl X.K a) H1) ∨ ((∃ xs, L2.SqT X.K H1 a xs) ∧ R (Itt X.K a) H1))) := by
  refine ⟨fun pins s σ H R I h => ?_⟩
  refine thn (hl.run pins s σ H _ I h) fun v s1 ⟨x, H1, I1, r1, q1⟩ => ?_
  obtain ⟨a, e, q⟩ := q1
  subst e
  cases r1
  rcases q with ⟨⟨xs, hq⟩, q⟩ | ⟨⟨xs, hq⟩, q⟩
  · obtain ⟨its, rv, p, hz⟩ := I1.list hq
    refine wpAny_pyIter_list p.isList ?_
    refine ⟨s1.heap.objs.size, [s1.heap.objs.size], _, _, H1, rfl, I1.kept (t' := s1.toks) fun b o e => Heap.get?_push_of_some _ e, turn_list a _, ⟨_, Heap.get?_push_size _ rfl, rfl, rfl⟩, fun b hb => ?_, q⟩
    have e : b = s1.heap.objs.size := by simpa using hb
    subst e
    exact I1.fpOk (Nat.le_refl _) (I1.hok.fresh (Nat.le_refl _))
  · obtain ⟨its, rv, p, hz⟩ := I1.tuple hq
    refine wpAny_pyIter_tuple (show s1.heap.IsTuple a its.toArray from p) ?_
    refine ⟨s1.heap.objs.size, [s1.heap.objs.size], _, _, H1, rfl, I1.kept (t' := s1.toks) fun b o e => Heap.get?_push_of_some _ e, turn_tuple a _, ⟨_, Heap.get?_push_size _ rfl, rfl, rfl⟩, fun b hb => ?_, q⟩
    have e : b = s1.heap.objs.size := by simpa using hb
    subst e
    exact I1.fpOk (Nat.le_refl _) (I1.hok.fresh (Nat.le_refl _))
end
theorem IsDs.at {K : PySem.W.Frag} {mg : Mg} {H : Hp} : ∀ {ds : List D} {vs : List V} {i : Nat} {d : D}, IsDs K mg H ds vs → ds[i]? = some d → ∃ v, vs[i]? = some v ∧ IsD K mg H d v
  | [], _, i, d, _, e => by simp at e
  | d :: ds, vs, 0, d', h, e => by
    simp only [IsDs] at h
    obtain ⟨v, us, rfl, q, r⟩ := h
    simp at e; subst e
    exact ⟨v, rfl, q⟩
  | d :: ds, vs, i + 1, d', h, e => by
    simp only [IsDs] at h
    obtain ⟨v, us, rfl, q, r⟩ := h
    have := IsDs.at (i := i) r (by simpa using e)
    simpa using this

section
variable {X : Cx} {g : G} {E : WX} {ro : Bool} {Γl Γ Γ1 Γ2 Γ3 : List Bool} {m : Md} {pos : Pos} {tg : Expr}
theorem walks_lst {K : PySem.W.Frag} {mg : Mg} {H0 F1 : Hp} {a : Addr} {xs : List V} {ds : List D} (h : SqL K F1 a xs) (r : IsDs K mg F1 ds xs) : Walks K mg H0 (Itl K a) F1 ds := by
  intro g Γ ρ σ Hf H s R i
  have hq : SqL K H a xs := R.same.seq (s.seq h)
  refine ⟨fun d e => ?_, fun l => ⟨xs, hq, by rw [r.len]; exact l⟩⟩
  obtain ⟨v, ev, q⟩ := IsDs.at r e
  refine ⟨⟨xs, v, hq, ev⟩, fun x H' y => ?_⟩
  obtain ⟨rfl, y⟩ := y
  have := y xs hq
  rw [ev] at this
  cases this
  exact ⟨Hf, Same.refl _, Same.refl _, R, q.mono s⟩
theorem walks_tup {K : PySem.W.Frag} {mg : Mg} {H0 F1 : Hp} {a : Addr} {xs : List V} {ds : List D} (h : SqT K F1 a xs) (r : IsDs K mg F1 ds xs) : Walks K mg H0 (Itt K a) F1 ds := by
  intro g Γ ρ σ Hf H s R i
  have hq : L2.SqT K H a xs := (Same.seqT R.same (Same.seqT s h)).l
  refine ⟨fun d e => ?_, fun l => ⟨xs, hq, by rw [r.len]; exact l⟩⟩
  obtain ⟨v, ev, q⟩ := IsDs.at r e
  refine ⟨⟨xs, v, hq, ev⟩, fun x H' y => ?_⟩
  obtain ⟨rfl, y⟩ := y
  have := y xs hq
  rw [ev] at this
  cases this
  exact ⟨Hf, Same.refl _, Same.refl _, R, q.mono s⟩
theorem walks_rng {K : PySem.W.Frag} {mg : Mg} {H0 F1 : Hp} {lo : Int} {n : Nat} : Walks K mg H0 (Itr lo n) F1 ((List.range n).map fun (k : Nat) => .int (lo + k)) := by
  intro g Γ ρ σ Hf H s R i
  refine ⟨fun d e => ?_, fun l => show n ≤ i by simpa using l⟩
  rw [List.getElem?_map] at e
  by_cases l : i < n
  · rw [List.getElem?_range l] at e
    cases e
    refine ⟨l, fun x H' y => ?_⟩
    obtain ⟨rfl, rfl⟩ := y
    exact ⟨Hf, Same.refl _, Same.refl _, R, by simp only [IsD]⟩
  · rw [List.getElem?_eq_none (by simpa using l)] at e
    cases e
theorem IsDs.ints {K : PySem.W.Frag} {mg : Mg} {H : Hp} : ∀ ns : List Int, IsDs K mg H (ns.map .int) (ns.map V.int)
  | [] => by simp only [List.map_nil, IsDs]
  | n :: ns => by
    simp only [List.map_cons, IsDs, IsD]
    exact ⟨_, _, rfl, rfl, IsDs.ints ns⟩
theorem pix_seq {e : Expr} {f : Env → Out D} (h : PX X g E Γ e Γ1 .fr f) : PIx X g E Γ tg e Γ1 (iSeq f) := by
  refine ⟨h.le, (pi_any h.pe).imp fun σ H Q ⟨ρ, Hf, R, q⟩ => ⟨ρ, Hf, R, ?_⟩⟩
  refine tG.bind (Le.refl _) q fun d F1 H1 s1 s2 R1 k v hv => ?_
  cases d with
  | lst ds =>
    simp only [Res, IsD] at hv
    obtain ⟨a, xs, rfl, q1, q2⟩ := hv
    exact ⟨a, rfl, .inl ⟨⟨xs, R1.same.seq (.of q1)⟩, k F1 H1 (Same.refl _) (Same.refl _) R1 _ (walks_lst (.of q1) q2)⟩⟩
  | scr ns =>
    simp only [Res, IsD] at hv
    obtain ⟨a, rfl, q1⟩ := hv
    exact ⟨a, rfl, .inl ⟨⟨_, R1.same.seq q1⟩, k F1 H1 (Same.refl _) (Same.refl _) R1 _ (walks_lst q1 (IsDs.ints _))⟩⟩
  | tup ds =>
    simp only [Res, IsD] at hv
    obtain ⟨a, xs, rfl, q1, q2⟩ := hv
    exact ⟨a, rfl, .inr ⟨⟨xs, (Same.seqT R1.same q1).l⟩, k F1 H1 (Same.refl _) (Same.refl _) R1 _ (walks_tup q1 q2)⟩⟩
  | _ => exact k.elim
theorem IsDs.one {K : PySem.W.Frag} {mg : Mg} {H : Hp} {d : D} {vs : List V} (h : IsDs K mg H [d] vs) : ∃ v, vs = [v] ∧ IsD K mg H d v := by
  simp only [IsDs] at h
  obtain ⟨v, us, e, q, rfl⟩ := h
  exact ⟨v, e, q⟩
theorem IsDs.two {K : PySem.W.Frag} {mg : Mg} {H : Hp} {d e : D} {vs : List V} (h : IsDs K mg H [d, e] vs) : ∃ v u, vs = [v, u] ∧ IsD K mg H d v ∧ IsD K mg H e u := by
  simp only [IsDs] at h
  obtain ⟨v, us, e1, q, u, us', e2, q2, rfl⟩ := h
  exact ⟨v, u, by rw [e1, e2], q, q2⟩
theorem pix_range1 {a : Expr} {p : Pos} {f : Env → Out (List D)} (hg : Gl X "range") (hm : X.mg "range" = none) (h : PAx X g E Γ [a] Γ1 f) (hs : starEach [a] X.env = [(false, eval a X.env)] := by rfl) :
    PIx X g E Γ tg (.Call (.Name "range" p) [a] [] pos) Γ1 (iRange1 f) := by
  refine ⟨h.le, (pi_range1 hg hm h.pe hs).imp fun σ H Q ⟨ρ, Hf, R, q⟩ => ⟨ρ, Hf, R, ?_⟩⟩
  refine tG.bind (Le.refl _) q fun ds F1 H1 s1 s2 R1 k vs hv => ?_
  unfold rng1 at k
  split at k
  · rename_i j
    obtain ⟨v, rfl, q1⟩ := hv.one
    simp only [IsD] at q1
    subst q1
    by_cases z : -(2 ^ 62) ≤ j ∧ j < 2 ^ 62
    · rw [chk_pos z] at k
      refine ⟨j, rfl, z.1, z.2, k F1 H1 (Same.refl _) (Same.refl _) R1 _ ?_⟩
      have := walks_rng (K := X.K) (mg := X.mw) (H0 := g.H0) (F1 := F1) (lo := 0) (n := j.toNat)
      simpa using this
    · rw [chk_neg z] at k; exact k.elim
  · exact k.elim
theorem pix_range2 {a b : Expr} {p : Pos} {f : Env → Out (List D)} (hg : Gl X "range") (hm : X.mg "range" = none) (h : PAx X g E Γ [a, b] Γ1 f) (hs : starEach [a, b] X.env = [(false, eval a X.env), (false, eval b X.env)] := by rfl) (hs2 : starEach [b] X.env = [(false, eval b X.env)] := by rfl) :
    PIx X g E Γ tg (.Call (.Name "range" p) [a, b] [] pos) Γ1 (iRange2 f) := by
  refine ⟨h.le, (pi_range2 hg hm h.pe hs hs2).imp fun σ H Q ⟨ρ, Hf, R, q⟩ => ⟨ρ, Hf, R, ?_⟩⟩
  refine tG.bind (Le.refl _) q fun ds F1 H1 s1 s2 R1 k vs hv => ?_
  unfold rng2 at k
  split at k
  · rename_i i j
    obtain ⟨v, u, rfl, q1, q2⟩ := hv.two
    simp only [IsD] at q1 q2
    subst q1; subst q2
    by_cases z : (-(2 ^ 62) ≤ i ∧ i < 2 ^ 62) ∧ -(2 ^ 62) ≤ j ∧ j < 2 ^ 62
    · rw [chk_pos z] at k
      exact ⟨i, j, rfl, ⟨z.1.1, z.1.2, z.2.1, z.2.2⟩, k F1 H1 (Same.refl _) (Same.refl _) R1 _ walks_rng⟩
    · rw [chk_neg z] at k; exact k.elim
  · exact k.elim

theorem Rp.ofG {K : PySem.W.Frag} {mg : Mg} {ρ : Env} {σ : St} {F1 Hf H : Hp} (s : Same g.F0 F1) (n : ∀ a o, F1 a = some o → g.F0 a = some o ∨ g.H0 a = none) (R : Rp K mg ⟨g.H0, F1, g.slf⟩ Γ ρ σ Hf H) : Rp K mg g Γ ρ σ Hf H :=
  ⟨R.same, R.ent, s.trans R.ent2, fun a o e => (R.news a o e).elim (fun z => n a o z) .inr, R.len, R.own, R.dat, R.sep⟩
theorem Rp.toG {K : PySem.W.Frag} {mg : Mg} {ρ : Env} {σ : St} {F1 Hf H : Hp} (s : Same F1 Hf) (s0 : Same g.F0 F1) (R : Rp K mg g Γ ρ σ Hf H) : Rp K mg ⟨g.H0, F1, g.slf⟩ Γ ρ σ Hf H :=
  ⟨R.same, R.ent, s, fun a o e => (R.news a o e).elim (fun z => .inl (s0 a o z)) .inr, R.len, R.own, R.dat, R.sep⟩
theorem sR.toG {F1 : Hp} {Dn : Ends} {o : SO} (s : Same g.F0 F1) (n : ∀ a o, F1 a = some o → g.F0 a = some o ∨ g.H0 a = none) (h : sR X.K X.mw g E Γ Γl ro Dn o) : sR X.K X.mw ⟨g.H0, F1, g.slf⟩ E Γ Γl ro Dn o := by
  cases o with
  | nx ρ => exact fun σ Hf H R => h σ Hf H (R.ofG s n)
  | bk ρ => exact fun σ Hf H R => h σ Hf H (R.ofG s n)
  | ct ρ => exact fun σ Hf H R => h σ Hf H (R.ofG s n)
  | rt d => exact fun v Hf H s1 s2 s3 nw r => h v Hf H s1 s2 (s.trans s3) (fun a o e => (nw a o e).elim (fun z => n a o z) .inr) r
  | ex x => exact fun c dd σ Hf H s1 s2 s3 nw ix => h c dd σ Hf H s1 s2 (s.trans s3) (fun a o e => (nw a o e).elim (fun z => n a o z) .inr) ix
  | stuck => exact h
theorem psx_for {iter : Expr} {body : List Stmt} {G : D → Env → Out Env} {it : Env → Out (List D)} {fb : Env → SO} (hp : PassesOwn (model X.prog X.w) X.A X.env X.xe) (hc : X.calm = true) (hi : PIx X g E Γ tg iter Γ1 it)
    {ws : List Nat} (hg : ∀ F1, PGx X ⟨g.H0, F1, g.slf⟩ Γ1 tg Γ2 G ws) (nx : ∀ d ρ x, G d ρ ≠ .exc x) (hb : ∀ F1, PSsx X ⟨g.H0, F1, g.slf⟩ E ro Γ1 Γ2 body Γ1 fb) (hs : ∀ x, foldedSetIterable iter X.env x = pure x := by intro _; rfl) :
    PSx X g E ro Γl Γ (.For tg iter body [] pos) Γ1 (sFor G it fb) := by
  refine ⟨⟨fun pins s σ H Dn I ⟨ρ, Hf, R, q⟩ => ?_⟩⟩
  let hbody : ∀ F1, PSs X body (fun Dn σ H => ∃ ρ Hf, Rp X.K X.mw ⟨g.H0, F1, g.slf⟩ Γ2 ρ σ Hf H ∧ sR X.K X.mw ⟨g.H0, F1, g.slf⟩ E Γ1 Γ1 ro Dn (fb ρ)) := fun F1 => (hb F1).ps
  let hgt : ∀ F1, PG X tg (fun v σ H Q => ∃ d ρ Hf, Rp X.K X.mw ⟨g.H0, F1, g.slf⟩ Γ1 ρ σ Hf H ∧ IsD X.K X.mw Hf d v ∧ ∃ ρ', G d ρ = .ok ρ' ∧ ∀ σ', Rp X.K X.mw ⟨g.H0, F1, g.slf⟩ Γ2 ρ' σ' Hf H → Q σ' H) := fun F1 => (hg F1).pg.imp fun v σ H Q ⟨d, ρ, Hf, R, i, ρ', e, q⟩ => ⟨d, ρ, Hf, R, i, ρ', e, fun σ' _ => q σ'⟩
  have HB : PSs X body (fun Dn σ H => ∃ F1 ρ Hf, Rp X.K X.mw ⟨g.H0, F1, g.slf⟩ Γ2 ρ σ Hf H ∧ sR X.K X.mw ⟨g.H0, F1, g.slf⟩ E Γ1 Γ1 ro Dn (fb ρ)) := ⟨fun pins s σ H D I ⟨F1, z⟩ => (hbody F1).run pins s σ H D I z⟩
  have HG : PG X tg (fun v σ H Q => ∃ F1 d ρ Hf, Rp X.K X.mw ⟨g.H0, F1, g.slf⟩ Γ1 ρ σ Hf H ∧ IsD X.K X.mw Hf d v ∧ ∃ ρ', G d ρ = .ok ρ' ∧ ∀ σ', Rp X.K X.mw ⟨g.H0, F1, g.slf⟩ Γ2 ρ' σ' Hf H → Q σ' H) := ⟨fun pins s σ H v u Q I r ⟨F1, z⟩ => (hgt F1).run pins s σ H v u Q I r z⟩
  refine (ps_for hp hc hi.pi HG HB hs).run pins s σ H Dn I ⟨ρ, Hf, R, ?_⟩
  refine tG.toS q fun ds F1 H1 s1 s2 R1 k J wk => ?_
  have sF : Same g.F0 F1 := R1.ent2
  have nF := R1.news
  refine ⟨fun i n σ H => n = ds.length - i ∧ i ≤ ds.length ∧ ∃ ρ Hf, Rp X.K X.mw ⟨g.H0, F1, g.slf⟩ Γ1 ρ σ Hf H ∧ sR X.K X.mw g E Γ1 Γl ro Dn (forL G fb (ds.drop i) ρ), ⟨ds.length, by simp, Nat.zero_le _, ρ, F1, R1.toG (Same.refl _) sF, k⟩, ?_⟩
  rintro i n σ2 H2 ⟨rfl, hi', ρ2, Hf2, R2, k2⟩
  by_cases hlt : i < ds.length
  · have ed : ds[i]? = some ds[i] := by simp [hlt]
    have hd : ds.drop i = ds[i] :: ds.drop (i + 1) := List.drop_eq_getElem_cons hlt
    obtain ⟨go, yl⟩ := (wk ⟨g.H0, F1, g.slf⟩ Γ1 ρ2 σ2 Hf2 H2 R2.ent2 R2 i).1 _ ed
    refine .inr ⟨go, fun σ3 H3 => ∃ ρ Hf, Rp X.K X.mw ⟨g.H0, F1, g.slf⟩ Γ1 ρ σ3 Hf H3 ∧ sR X.K X.mw g E Γ1 Γl ro Dn (forL G fb (ds.drop (i + 1)) ρ), fun σ3 H3 ⟨ρ3, Hf3, R3, k3⟩ => ⟨ds.length - (i + 1), by omega, rfl, hlt, ρ3, Hf3, R3, k3⟩, fun x H' y => ?_⟩
    obtain ⟨Hf3, s3, s4, R3, hx⟩ := yl x H' y
    rw [hd] at k2
    unfold forL at k2
    cases hG : G ds[i] ρ2 with
    | ok ρ3 =>
      rw [hG] at k2
      refine ⟨F1, ds[i], ρ2, Hf3, R3, hx, ρ3, hG, fun σ' R4 => ⟨F1, ρ3, Hf3, R4, ?_⟩⟩
      simp only [oS_ok] at k2
      cases hf : fb ρ3 with
      | nx r => rw [hf] at k2; exact fun σ5 Hf5 H5 R5 => ⟨r, Hf5, R5, k2⟩
      | ct r => rw [hf] at k2; exact fun σ5 Hf5 H5 R5 => ⟨r, Hf5, R5, k2⟩
      | bk r => rw [hf] at k2; exact fun σ5 Hf5 H5 R5 => k2 σ5 Hf5 H5 (R5.ofG sF nF)
      | rt d => rw [hf] at k2; exact fun v Hf H s1 s2 s3 nw r => k2 v Hf H s1 s2 (sF.trans s3) (fun a o e => (nw a o e).elim (fun z => nF a o z) .inr) r
      | ex x => rw [hf] at k2; exact fun c dd σ Hf H s1 s2 s3 nw ix => k2 c dd σ Hf H s1 s2 (sF.trans s3) (fun a o e => (nw a o e).elim (fun z => nF a o z) .inr) ix
      | stuck => rw [hf] at k2; exact k2
    | exc x => exact absurd hG (nx _ _ x)
    | stuck => rw [hG] at k2; exact k2.elim
  · have e : i = ds.length := by omega
    subst e
    refine .inl ⟨(wk ⟨g.H0, F1, g.slf⟩ Γ1 ρ2 σ2 Hf2 H2 R2.ent2 R2 _).2 (Nat.le_refl _), ?_⟩
    rw [List.drop_length] at k2
    exact k2 σ2 Hf2 H2 (R2.ofG sF nF)
end

structure FnT (K : PySem.W.Frag) (mg : Str → Option Value) (x : Str) (st : Stmt) : Prop where
  ex : ∃ f fd, mg x = some (.ref f) ∧ Fun K x x st f fd
structure FnA (P : Program) (w : World) (K : PySem.W.Frag) (mg : Str → Option Value) (base : Heap) (k : Nat) (x : Str) (ps : List Str) (ro : Bool) (F : List D → Out D) : Prop where
  ex : ∃ f fd, mg x = some (.ref f) ∧ PySem.W.keepIn K (.ref f) = true ∧ Binds K fd ps [] ∧ FnOk P w K mg base (L2.CX P w) k f fd ps (spD K ⟨mg, w⟩ ro F) ∧ ∃ oc od osl, K.lookup f = some ⟨oc, od, .func fd, osl⟩
theorem FnA.mono {P : Program} {w : World} {K : PySem.W.Frag} {mg : Str → Option Value} {base : Heap} {j k : Nat} {x : Str} {ps : List Str} {ro : Bool} {F : List D → Out D} (h : FnA P w K mg base j x ps ro F) (l : j ≤ k) : FnA P w K mg base k x ps ro F := by
  obtain ⟨f, fd, e1, e2, e3, e4, e5⟩ := h.ex
  exact ⟨f, fd, e1, e2, e3, e4.mono l, e5⟩
def SO.res (o : SO) : Out D := match o with
  | .rt d => .ok d
  | .nx _ => .ok .non
  | .ex x => .exc x
  | _ => .stuck
@[simp] theorem res_rt (d : D) : (SO.rt d).res = .ok d := rfl
@[simp] theorem res_nx (r : Env) : (SO.nx r).res = .ok .non := rfl
@[simp] theorem res_ex (x : Exn) : (SO.ex x).res = .exc x := rfl
def fnM (n k : Nat) (b : Env → SO) : List D → Out D := fun ds => if ds.length = k then (b (ds.map some ++ List.replicate (n - k) none)).res else .stuck
def cxD (P : Program) (w : World) (K : PySem.W.Frag) (mg : Str → Option Value) (base : Heap) (N : List Str) (x : Str) (st : Stmt) (f : Addr) (cdv : Value) (A : Around) (outer : List PySem.Env) (s : Shared) (H : Hp) (E : XK) : Cx :=
  cxOf (L2.CX P w) P w K mg base N x (defScope st) f cdv A outer s H E
section
variable {P : Program} {w : World} {K : PySem.W.Frag} {mg : Str → Option Value} {base : Heap}
theorem IsDs.map {mg : Mg} {H : Hp} : ∀ {ds : List D} {vs : List V} {i : Nat} {d : D}, IsDs K mg H ds vs → (ds.map some)[i]? = some (some d) → ∃ v, (vs.map some)[i]? = some (some v) ∧ IsD K mg H d v := fun {ds vs i d} h e => by
  rw [List.getElem?_map] at e
  cases q : ds[i]? with
  | none => rw [q] at e; cases e
  | some d' =>
    rw [q] at e
    cases e
    obtain ⟨v, ev, r⟩ := h.at q
    exact ⟨v, by rw [List.getElem?_map, ev]; rfl, r⟩
theorem fnA_mk {x : Str} {st : Stmt} {N ps : List Str} {k : Nat} {ro : Bool} {Γl Γ' Γ0 : List Bool} {b : Env → SO} (T : FnT K mg x st) (S : FnScope N ps (defScope st)) (hl : ps.length ≤ N.length) (h0 : ∀ i, ¬ Own Γ0 i)
    (hbind : ∀ (kV doc pm : Value) (an : Option Addr) (cdv ct : Value) (us : List Value), us.length = ps.length → bindArgs (PySem.W.fnOf x x (defArgs st) (defBody st) (defScope st) .none kV doc pm an cdv ct) ⟨us, []⟩ = pure (ps.zip us))
    (body : ∀ (f : Addr) (cdv : Value) (A : Around) (outer : List PySem.Env) (s : Shared) (H : Hp) (E : XK) (Hf : Hp), Room k (A.deeper (envOfC x (defScope st) s.heap.objs.size f cdv)) →
      PSsx (cxD P w K mg base N x st f cdv A outer s H E) ⟨H, Hf, none⟩ (fun c d _ H => E c d H) ro Γl Γ0 (defBody st) Γ' b) : FnA P w K mg base (k + 1) x ps ro (fnM N.length ps.length b) := by
  obtain ⟨f, fd, hm, F⟩ := T.ex
  refine ⟨f, fd, hm, F.kp, F.binds hbind, F.okX S (fun vs H Q E h => ?_) fun cdv A outer s H vs Q E hr h => ?_, let ⟨oc, od, _, _, _, _, _, _, osl, _, l, _⟩ := F.ex; ⟨oc, od, osl, l⟩⟩
  · obtain ⟨ds, Hf, s1, hv, q⟩ := h
    rw [hv.len]
    unfold fnM at q
    by_cases l : ds.length = ps.length
    · exact l
    · rw [if_neg l] at q; exact q.elim
  · obtain ⟨ds, Hf, s1, hv, q⟩ := h
    refine ⟨_, (body f cdv A outer s H E Hf hr).ps, ?_⟩
    unfold fnM at q
    by_cases l : ds.length = ps.length
    · rw [if_pos l] at q
      have lv : vs.length = ps.length := hv.len.trans l
      refine ⟨ds.map some ++ List.replicate (N.length - ps.length) none, Hf, ⟨s1, Same.refl _, Same.refl _, fun a o e => .inl e, ⟨?_, fun a e => by cases e⟩, fun i d o _ => (h0 i o).elim, fun i d o e => ?_, fun i j d e v n o => (h0 i o).elim⟩, ?_⟩
      · unfold L2.start
        simp [lv, l]
      · unfold L2.start
        by_cases li : i < ds.length
        · rw [List.getElem?_append_left (by simpa using li)] at e
          obtain ⟨v, ev, r⟩ := IsDs.map hv e
          refine ⟨v, ?_, r⟩
          rw [List.getElem?_append_left (by simpa [hv.len] using li)]
          exact ev
        · rw [List.getElem?_append_right (by simpa using li), List.getElem?_replicate] at e
          split at e <;> simp at e
      · show sR K ⟨mg, w⟩ ⟨H, Hf, none⟩ _ Γ' Γl ro _ (b _)
        cases hb : b (ds.map some ++ List.replicate (N.length - ps.length) none) with
        | nx r =>
          rw [hb] at q
          intro σ1 Hf1 H1 R1
          refine q .non Hf1 H1 R1.ent2 R1.same R1.ent R1.news ?_
          unfold RetRes
          cases ro <;> simp [IsO, IsD]
        | rt d => rw [hb] at q; exact fun v Hf1 H1 s1 s2 s3 nw r => q v Hf1 H1 s3 s1 s2 nw r
        | ex x => rw [hb] at q; exact fun c dd σ1 Hf1 H1 s1 s2 s3 nw ix => q c dd Hf1 H1 s3 s1 s2 nw ix
        | bk r => rw [hb] at q; exact q.elim
        | ct r => rw [hb] at q; exact q.elim
        | stuck => rw [hb] at q; exact q.elim
    · rw [if_neg l] at q; exact q.elim
end

section
variable {X : Cx} {g : G} {E : WX} {ro : Bool} {Γl Γ Γ1 Γ2 Γ3 : List Bool} {m : Md} {pos p : Pos} {x : Str} {e : Expr} {es : List Expr} {k : Nat} {ps : List Str} {F : List D → Out D} {fa : Env → Out (List D)}
theorem Rp.back {K : PySem.W.Frag} {mg : Mg} {ρ : Env} {σ : St} {F1 H1 Hf' H' : Hp} (R : Rp K mg g Γ ρ σ F1 H1) (s1 : Same F1 Hf') (s2 : Same Hf' H') (s3 : Same H1 H') (nw : ∀ a o, Hf' a = some o → F1 a = some o ∨ H1 a = none) : Rp K mg g Γ ρ σ Hf' H' := by
  refine ⟨s2, R.ent.trans s3, R.ent2.trans s1, fun a o e => ?_, R.len, fun i d o e => ?_, fun i d o e => ?_, R.sep⟩
  · rcases nw a o e with z | z
    · exact R.news a o z
    · exact .inr (R.ent.free z)
  · obtain ⟨v, e1, io⟩ := R.own i d o e
    refine ⟨v, e1, ?_⟩
    have nn : ∀ a oo, F1 a = none → H1 a = some oo → Hf' a = none := fun a oo zf q => by
      cases z : Hf' a with
      | none => rfl
      | some o' =>
        rcases nw a o' z with y | y
        · rw [zf] at y; cases y
        · rw [q] at y; cases y
    cases d with
    | lst ds =>
      obtain ⟨a, xs, e, z0, zf, q, r⟩ := io
      exact ⟨a, xs, e, z0, nn a _ zf q, s3 _ _ q, IsDs.mono s1 r⟩
    | dic ds =>
      obtain ⟨a, xs, e, z0, zf, q, r⟩ := io
      exact ⟨a, xs, e, z0, nn a _ zf q, s3 _ _ q, DicAt.mono s1 r⟩
    | ins c ds =>
      obtain ⟨a, xs, e, z0, zf, q, r⟩ := io
      exact ⟨a, xs, e, z0, nn a _ zf q, s3 _ _ q, InsAt.mono s1 r⟩
    | _ => exact IsD.mono s1 io
  · obtain ⟨v, e1, q⟩ := R.dat i d o e
    exact ⟨v, e1, q.mono s1⟩
theorem call_sp {ρ : Env} {σ : St} {F1 H1 : Hp} {ds : List D} {vs : List V} {Q : VK} (R : Rp X.K X.mw g Γ ρ σ F1 H1) (hv : IsDs X.K X.mw F1 ds vs) (k : tG X.K X.mw g E Γ ρ σ F1 H1 (PV X g Γ ρ σ (if ro = true then .ow else .fr) Q) (F ds)) : spD X.K X.mw ro F vs H1 Q (WE E σ) := by
  refine ⟨ds, F1, R.same, hv, ?_⟩
  cases hF : F ds with
  | ok d =>
    rw [hF] at k
    intro v Hf' H' s1 s2 s3 nw rr
    refine k Hf' H' s1 s3 (R.back s1 s2 s3 nw) v ?_
    cases ro with
    | true =>
      unfold RetRes at rr
      rw [if_pos rfl] at rr
      refine ⟨?_, fun i e o e1 m1 m2 e2 => ?_⟩
      · cases d with
        | lst ds => obtain ⟨a, xs, e, z0, zf, q, r⟩ := rr; exact ⟨a, xs, e, R.ent.free z0, zf, q, r⟩
        | dic ds => obtain ⟨a, xs, e, z0, zf, q, r⟩ := rr; exact ⟨a, xs, e, R.ent.free z0, zf, q, r⟩
        | ins c ds => obtain ⟨a, xs, e, z0, zf, q, r⟩ := rr; exact ⟨a, xs, e, R.ent.free z0, zf, q, r⟩
        | _ => exact rr
      · obtain ⟨a, oo, rfl, z0, _, _⟩ := rr.addr m2
        obtain ⟨v', e3, io⟩ := R.own i e o e1
        obtain ⟨b, ob, e4, _, _, q⟩ := io.addr m1
        rw [e2] at e3
        obtain rfl : V.ref a = v' := Option.some.inj (Option.some.inj e3)
        obtain rfl : a = b := V.ref.inj e4
        rw [z0] at q; cases q
    | false =>
      unfold RetRes at rr
      rw [if_neg Bool.false_ne_true] at rr
      exact rr
  | exc x =>
    rw [hF] at k
    intro c dd Hf' H' s1 s2 s3 nw ix
    exact k c dd Hf' H' s1 s3 (R.back s1 s2 s3 nw) ix
  | stuck => rw [hF] at k; exact k
theorem px_call (C : FnA X.prog X.w X.K X.mg X.base k x ps ro F) (hr : Room k X.A) (hg : Gl X x) (tk : Takes X E) (ha : PAx X g E Γ (e :: es) Γ1 fa) (hdb : (x == ("__debug__" : Str)) = false := by decide)
    (he : starEach (e :: es) X.env = (false, eval e X.env) :: starEach es X.env := by rfl) (hpl : (backTo pos (starEach es X.env)).any (·.1) = false := by rfl) : PX X g E Γ (.Call (.Name x p) (e :: es) [] pos) Γ1 (if ro = true then .ow else .fr) (eA F fa) := by
  obtain ⟨f, fd, e1, e2, e3, e4, _⟩ := C.ex
  refine ⟨ha.le, (pe_callS e4 hr hg e1 e2 e3 (fun σ => passAt tk σ) ha.pe hdb he hpl).imp fun σ H Q ⟨ρ, Hf, R, q⟩ => ⟨ρ, Hf, R, ?_⟩⟩
  exact tG.bind (Le.refl _) q fun ds F1 H1 s1 s2 R1 k1 vs hv => call_sp R1 hv k1
end
end PD

namespace PD
open PySem PySem.Spec L2
open PyProof.Rows hiding St

section
variable {X : Cx} {m : Md}
def Out.or {α : Type} (a b : Out α) : Out α := match a with
  | .stuck => b
  | o => o
@[simp] theorem Out.or_ok {α : Type} (a : α) (b : Out α) : (Out.ok a).or b = .ok a := rfl
@[simp] theorem Out.or_stuck {α : Type} (b : Out α) : (Out.stuck : Out α).or b = b := rfl
def dOr (F F' : D → D → Out D) : D → D → Out D := fun x y => (F x y).or (F' x y)
theorem OpD.or {f : Value → Value → Sem Value} {F F' : D → D → Out D} (h : OpD X f m F) (h' : OpD X f m F') : OpD X f m (dOr F F') := by
  obtain ⟨r, hr, w⟩ := h
  obtain ⟨r', hr', w'⟩ := h'
  refine ⟨_, hr.or hr', fun g E Γ ρ σ Hf H x y v u Q R hx hy k => ?_⟩
  unfold dOr at k
  cases hF : F x y with
  | ok d => rw [hF] at k; exact .inl (w g E Γ ρ σ Hf H x y v u Q R hx hy (by rw [hF]; exact k))
  | exc e => rw [hF] at k; exact .inl (w g E Γ ρ σ Hf H x y v u Q R hx hy (by rw [hF]; exact k))
  | stuck => rw [hF] at k; exact .inr (w' g E Γ ρ σ Hf H x y v u Q R hx hy k)
noncomputable def dI (C : Int → Int → Prop) (h : Int → Int → D) : D → D → Out D
  | .int i, .int j => chk (C i j) (.ok (h i j))
  | _, _ => .stuck
def dI0 (h : Int → Int → D) : D → D → Out D
  | .int i, .int j => .ok (h i j)
  | _, _ => .stuck
theorem opd_int {f : Value → Value → Sem Value} {C : Int → Int → Prop} {h : Int → Int → Int} (ho : OpR X f (rI C fun i j => .int (h i j))) : OpD X f m (dI C fun i j => .int (h i j)) := by
  refine ⟨_, ho, fun g E Γ ρ σ Hf H x y v u Q R hx hy k => ?_⟩
  unfold dI at k
  split at k
  · rename_i i j
    simp only [IsR, IsD] at hx hy
    by_cases c : C i j
    · rw [chk_pos c] at k
      exact ⟨i, j, hx, hy, c, k Hf H (Same.refl _) (Same.refl _) R _ (Res.dat R.same rfl (by simp only [IsD]))⟩
    · rw [chk_neg c] at k; exact k.elim
  · exact k.elim
theorem opd_int0 {f : Value → Value → Sem Value} {h : Int → Int → Int} (ho : OpR X f (rI0 fun i j => .int (h i j))) : OpD X f m (dI0 fun i j => .int (h i j)) := by
  refine ⟨_, ho, fun g E Γ ρ σ Hf H x y v u Q R hx hy k => ?_⟩
  unfold dI0 at k
  split at k
  · rename_i i j
    simp only [IsR, IsD] at hx hy
    exact ⟨i, j, hx, hy, k Hf H (Same.refl _) (Same.refl _) R _ (Res.dat R.same rfl (by simp only [IsD]))⟩
  · exact k.elim
theorem opd_cmp {f : Value → Value → Sem Value} {h : Int → Int → Bool} (ho : OpR X f (rI0 fun i j => .bl (h i j))) : OpD X f m (dI0 fun i j => .bl (h i j)) := by
  refine ⟨_, ho, fun g E Γ ρ σ Hf H x y v u Q R hx hy k => ?_⟩
  unfold dI0 at k
  split at k
  · rename_i i j
    simp only [IsR, IsD] at hx hy
    exact ⟨i, j, hx, hy, k Hf H (Same.refl _) (Same.refl _) R _ (Res.dat R.same rfl (by simp only [IsD]))⟩
  · exact k.elim
def dAddI : D → D → Out D := dI0 fun i j => .int (i + j)
def dSub : D → D → Out D := dI0 fun i j => .int (i - j)
noncomputable def dMulI : D → D → Out D := dI CMulX fun i j => .int (i * j)
noncomputable def dDiv : D → D → Out D := dI CDivW fun i j => .int (i / j)
noncomputable def dMod : D → D → Out D := dI (fun _ j => 0 < j) fun i j => .int (i % j)
noncomputable def dPow : D → D → Out D := dI CPow fun i j => .int (i ^ j.toNat)
def dLtI : D → D → Out D := dI0 fun i j => .bl (decide (i < j))
def dLeI : D → D → Out D := dI0 fun i j => .bl (decide (i ≤ j))
def dGtI : D → D → Out D := dI0 fun i j => .bl (decide (j < i))
def dGeI : D → D → Out D := dI0 fun i j => .bl (decide (j ≤ i))
theorem od_addI : OpD X (binaryOp .Add) m dAddI := opd_int0 op_add
theorem od_sub : OpD X (binaryOp .Sub) m dSub := opd_int0 op_sub
theorem od_mulI : OpD X (binaryOp .Mult) m dMulI := opd_int op_mulX
theorem od_div : OpD X (binaryOp .FloorDiv) m dDiv := opd_int op_fdivW
theorem od_mod : OpD X (binaryOp .Mod) m dMod := opd_int op_mod
theorem od_pow : OpD X (binaryOp .Pow) m dPow := opd_int op_pow
theorem od_ltI : OpD X (compareOp .Lt) m dLtI := opd_cmp op_lt
theorem od_gtI : OpD X (compareOp .Gt) m dGtI := opd_cmp op_gt
theorem od_geI : OpD X (compareOp .GtE) m dGeI := opd_cmp op_ge
noncomputable def dAddS : D → D → Out D
  | .str i, .str j => chk (i.length + j.length ≤ sizeLine) (.ok (.str (i ++ j)))
  | _, _ => .stuck
theorem od_addS : OpD X (binaryOp .Add) m dAddS := by
  refine ⟨_, op_add_str, fun g E Γ ρ σ Hf H x y v u Q R hx hy k => ?_⟩
  unfold dAddS at k
  split at k
  · rename_i i j
    simp only [IsR, IsD] at hx hy
    by_cases c : i.length + j.length ≤ sizeLine
    · rw [chk_pos c] at k
      exact ⟨i, j, hx, hy, c, k Hf H (Same.refl _) (Same.refl _) R _ (Res.dat R.same rfl (by simp only [IsD]))⟩
    · rw [chk_neg c] at k; exact k.elim
  · exact k.elim
def dS (h : Str → Str → Bool) : D → D → Out D
  | .str i, .str j => .ok (.bl (h i j))
  | _, _ => .stuck
theorem opd_str {f : Value → Value → Sem Value} {h : Str → Str → Bool} (ho : OpR X f (fun x y H Q => ∃ i j, x = .str i ∧ y = .str j ∧ Q (.bl (h i j)) H)) : OpD X f m (dS h) := by
  refine ⟨_, ho, fun g E Γ ρ σ Hf H x y v u Q R hx hy k => ?_⟩
  unfold dS at k
  split at k
  · rename_i i j
    simp only [IsR, IsD] at hx hy
    exact ⟨i, j, hx, hy, k Hf H (Same.refl _) (Same.refl _) R _ (Res.dat R.same rfl (by simp only [IsD]))⟩
  · exact k.elim
def dLtS : D → D → Out D := dS fun i j => decide (i.cps.toList < j.cps.toList)
def dLeS : D → D → Out D := dS fun i j => !decide (j.cps.toList < i.cps.toList)
def dGtS : D → D → Out D := dS fun i j => decide (j.cps.toList < i.cps.toList)
def dGeS : D → D → Out D := dS fun i j => !decide (i.cps.toList < j.cps.toList)
theorem pv_lst {g : G} {E : WX} {Γ : List Bool} {ρ : Env} {σ : St} {Hf H : Hp} {ds : List D} {vs : List V} {Q : VK} {p : Addr} (R : Rp X.K X.mw g Γ ρ σ Hf H) (hv : IsDs X.K X.mw Hf ds vs) (n : H p = none)
    (k : tG X.K X.mw g E Γ ρ σ Hf H (PV X g Γ ρ σ m Q) (.ok (.lst ds))) : Q (.ref p) (upd H p (.lst vs)) := by
  cases m with
  | ow =>
    obtain ⟨t2, R2, n0, nf, ap⟩ := R.newO (.lst vs) n
    exact k _ _ (Same.refl _) t2 R2 (.ref p) ⟨⟨p, vs, rfl, n0, nf, upd_same, hv⟩, fun i e ow e1 m _ e2 => ap i e ow e1 m e2⟩
  | fr =>
    obtain ⟨t1, t2, R2⟩ := R.new (.lst vs) n
    refine k _ _ t1 t2 R2 (.ref p) ?_
    show IsD _ _ _ _ _
    simp only [IsD]
    exact ⟨p, vs, rfl, upd_same, IsDs.mono t1 hv⟩
  | rd =>
    obtain ⟨t1, t2, R2⟩ := R.new (.lst vs) n
    exact k _ _ t1 t2 R2 (.ref p) ⟨p, vs, rfl, upd_same, IsDs.mono t1 hv⟩
theorem pv_tup {g : G} {E : WX} {Γ : List Bool} {ρ : Env} {σ : St} {Hf H : Hp} {ds : List D} {vs : List V} {Q : VK} {p : Addr} {o : Obj} (hd : o.dict = none) (R : Rp X.K X.mw g Γ ρ σ Hf H) (hv : IsDs X.K X.mw Hf ds vs) (n : H p = none)
    (k : tG X.K X.mw g E Γ ρ σ Hf H (PV X g Γ ρ σ m Q) (.ok (.tup ds))) : Q (.ref p) (upd H p (.frz o (.tup vs))) := by
  obtain ⟨t1, t2, R2⟩ := R.new (.frz o (.tup vs)) n
  refine k _ _ t1 t2 R2 _ (Res.dat R2.same rfl ?_)
  simp only [IsD]
  exact ⟨p, vs, rfl, .frz upd_same hd, IsDs.mono t1 hv⟩
theorem IsDs.app {K : PySem.W.Frag} {mg : Mg} {H : Hp} {es : List D} {us : List V} (k : IsDs K mg H es us) : ∀ {ds : List D} {vs : List V}, IsDs K mg H ds vs → IsDs K mg H (ds ++ es) (vs ++ us)
  | [], vs, h => by
    simp only [IsDs] at h
    subst h
    exact k
  | x :: ds, vs, h => by
    simp only [IsDs, List.cons_append] at h ⊢
    obtain ⟨u, ws, rfl, q, r⟩ := h
    exact ⟨u, ws ++ us, rfl, q, IsDs.app k r⟩
noncomputable def dAddL : D → D → Out D
  | .lst xs, .lst ys => chk (xs.length + ys.length ≤ sizeLine) (.ok (.lst (xs ++ ys)))
  | _, _ => .stuck
theorem od_addL : OpD X (binaryOp .Add) m dAddL := by
  refine ⟨_, op_cat, fun g E Γ ρ σ Hf H x y v u Q R hx hy k => ?_⟩
  unfold dAddL at k
  split at k
  · rename_i ds es
    by_cases c : ds.length + es.length ≤ sizeLine
    · rw [chk_pos c] at k
      obtain ⟨a, xs, rfl, q, r⟩ := hx
      obtain ⟨b, ys, rfl, q2, r2⟩ := hy
      exact ⟨a, b, xs, ys, rfl, rfl, q, q2, by rw [r.len, r2.len]; exact c, fun p n => pv_lst R (IsDs.app r2 r) n k⟩
    · rw [chk_neg c] at k; exact k.elim
  · exact k.elim
noncomputable def dAddT : D → D → Out D
  | .tup xs, .tup ys => chk (xs.length + ys.length ≤ sizeLine) (.ok (.tup (xs ++ ys)))
  | _, _ => .stuck
theorem od_addT : OpD X (binaryOp .Add) m dAddT := by
  refine ⟨_, op_catF, fun g E Γ ρ σ Hf H x y v u Q R hx hy k => ?_⟩
  unfold dAddT at k
  split at k
  · rename_i ds es
    by_cases c : ds.length + es.length ≤ sizeLine
    · rw [chk_pos c] at k
      have hx' := hx
      have hy' := hy
      simp only [IsR, IsD] at hx hy
      obtain ⟨a, xs, rfl, q, r⟩ := hx
      obtain ⟨b, ys, rfl, q2, r2⟩ := hy
      refine ⟨a, b, xs, ys, rfl, rfl, (Same.seqT R.same q).l, (Same.seqT R.same q2).l, by rw [r.len, r2.len]; exact c, fun e => ?_, fun _ e => ?_, fun _ _ p o hd n => pv_tup hd R (IsDs.app r2 r) n k⟩
      · subst e
        have : ds = [] := List.eq_nil_of_length_eq_zero (by rw [← r.len]; rfl)
        subst this
        exact k Hf H (Same.refl _) (Same.refl _) R _ (Res.dat R.same rfl hy')
      · subst e
        have : es = [] := List.eq_nil_of_length_eq_zero (by rw [← r2.len]; rfl)
        subst this
        rw [List.append_nil] at k
        exact k Hf H (Same.refl _) (Same.refl _) R _ (Res.dat R.same rfl hx')
    · rw [chk_neg c] at k; exact k.elim
  · exact k.elim
noncomputable def dAdd : D → D → Out D := dOr dAddI (dOr dAddS (dOr dAddT dAddL))
noncomputable def dMul : D → D → Out D := dMulI

def dLe : D → D → Out D := dOr dLeI dLeS
def dGt : D → D → Out D := dOr dGtI dGtS

theorem od_add {k : Nat} (_ : Room k X.A) : OpD X (binaryOp .Add) m dAdd := od_addI.or (od_addS.or (od_addT.or od_addL))
theorem od_mul {k : Nat} (_ : Room k X.A) : OpD X (binaryOp .Mult) m dMul := od_mulI
theorem od_gt {k : Nat} (_ : Room k X.A) : OpD X (compareOp .Gt) m dGt := od_gtI.or (opd_str op_gt_str)
def flatD : D → Bool
  | .non => true
  | .bl _ => true
  | .int _ => true
  | .str _ => true
  | _ => false
def eqD : D → D → Bool
  | .non, .non => true
  | .bl a, .bl b => a == b
  | .bl a, .int b => (if a then 1 else 0) == b
  | .int a, .bl b => a == (if b then 1 else 0)
  | .int a, .int b => a == b
  | .str a, .str b => a == b
  | _, _ => false
noncomputable def dInQ (neg : Bool) (x : D) (ds : List D) : Out D := chk (flatD x = true ∧ ds.all flatD = true) (.ok (.bl (if neg then !(ds.any fun y => eqD y x) else ds.any fun y => eqD y x)))
noncomputable def dInL (neg : Bool) : D → D → Out D
  | x, .lst ds => dInQ neg x ds
  | x, .tup ds => dInQ neg x ds
  | _, _ => .stuck
theorem flat_v {K : PySem.W.Frag} {mg : Mg} {Hf H : Hp} {x : D} {v : V} (h : IsD K mg H x v) (f : flatD x = true) : flatV v = true := by
  cases x <;> first | (simp [flatD] at f; done) | (simp only [IsD] at h; subst h; rfl)
theorem flat_r {K : PySem.W.Frag} {mg : Mg} {Hf H : Hp} {x : D} {v : V} (h : IsR K mg Hf H x v) (f : flatD x = true) : IsD K mg Hf x v := by
  cases x <;> first | (simp [flatD] at f; done) | exact h
theorem flat_eq {K : PySem.W.Frag} {mg : Mg} {H : Hp} {x y : D} {v u : V} (h : IsD K mg H x v) (h' : IsD K mg H y u) (f : flatD x = true) (f' : flatD y = true) : eqV v u = eqD x y := by
  cases x <;> first
    | (simp [flatD] at f; done)
    | (cases y <;> first
      | (simp [flatD] at f'; done)
      | (simp only [IsD] at h h'; subst h h'; rfl))
theorem flat_in {K : PySem.W.Frag} {mg : Mg} {H : Hp} {x : D} {v : V} (h : IsD K mg H x v) (f : flatD x = true) : ∀ {ds : List D} {vs : List V}, IsDs K mg H ds vs → ds.all flatD = true → vs.all flatV = true ∧ inV v vs = ds.any fun y => eqD y x
  | [], _, k, _ => by simp only [IsDs] at k; subst k; exact ⟨rfl, rfl⟩
  | d :: ds, _, k, z => by
    simp only [IsDs] at k
    obtain ⟨u, us, rfl, q, r⟩ := k
    simp only [List.all_cons, Bool.and_eq_true] at z
    obtain ⟨i1, i2⟩ := flat_in h f r z.2
    refine ⟨by rw [List.all_cons, i1, flat_v (Hf := H) q z.1]; rfl, ?_⟩
    unfold inV at i2 ⊢
    rw [List.any_cons, List.any_cons, i2, flat_eq q h z.1 f]
theorem opd_in {f : Value → Value → Sem Value} {neg : Bool} (ho : OpR X f (rIn X.K neg)) : OpD X f m (dInL neg) := by
  refine ⟨_, ho, fun g E Γ ρ σ Hf H x y v u Q R hx hy k => ?_⟩
  unfold dInL at k
  split at k
  · rename_i ds
    unfold dInQ at k
    by_cases c : flatD x = true ∧ ds.all flatD = true
    · rw [chk_pos c] at k
      obtain ⟨a, xs, rfl, q, r⟩ := hy
      obtain ⟨i1, i2⟩ := flat_in (flat_r hx c.1) c.1 r c.2
      refine ⟨a, xs, rfl, .inl (.of q), flat_v (Hf := Hf) (flat_r hx c.1) c.1, i1, ?_⟩
      rw [i2]
      exact k Hf H (Same.refl _) (Same.refl _) R _ (Res.dat R.same rfl (by simp only [IsD]))
    · rw [chk_neg c] at k; exact k.elim
  · rename_i ds
    unfold dInQ at k
    by_cases c : flatD x = true ∧ ds.all flatD = true
    · rw [chk_pos c] at k
      simp only [IsR, IsD] at hy
      obtain ⟨a, xs, rfl, q, r⟩ := hy
      obtain ⟨i1, i2⟩ := flat_in (flat_r hx c.1) c.1 r c.2
      refine ⟨a, xs, rfl, .inr (Same.seqT R.same q).l, flat_v (Hf := Hf) (flat_r hx c.1) c.1, i1, ?_⟩
      rw [i2]
      exact k Hf H (Same.refl _) (Same.refl _) R _ (Res.dat R.same rfl (by simp only [IsD]))
    · rw [chk_neg c] at k; exact k.elim
  · exact k.elim
def dInS : D → D → Out D := dS fun i j => !(Builtin.Str.occurrences j i 0 j.length 1).isEmpty
def dNotInS : D → D → Out D := dS fun i j => !(!(Builtin.Str.occurrences j i 0 j.length 1).isEmpty)
theorem od_inL : OpD X (compareOp .In) m (dInL false) := opd_in op_in_seq
theorem od_notinL : OpD X (compareOp .NotIn) m (dInL true) := opd_in op_notIn_seq
theorem od_inS : OpD X (compareOp .In) m dInS := opd_str op_in_str
theorem od_notinS : OpD X (compareOp .NotIn) m dNotInS := opd_str op_notIn_str
def isNon : D → Bool
  | .non => true
  | _ => false
def dIsN (neg : Bool) : D → D → Out D
  | x, .non => .ok (.bl (if neg then !isNon x else isNon x))
  | _, _ => .stuck
def dNeg : D → Out D
  | .int i => .ok (.int (-i))
  | _ => .stuck
theorem ud_neg : UnD X (unaryOp .USub) m dNeg := by
  refine ⟨_, un_neg, fun g E Γ ρ σ Hf H x v Q R hx k => ?_⟩
  unfold dNeg at k
  split at k
  · rename_i i
    simp only [IsR, IsD] at hx
    exact ⟨i, hx, k Hf H (Same.refl _) (Same.refl _) R _ (Res.dat R.same rfl (by simp only [IsD]))⟩
  · exact k.elim

section
variable {K : PySem.W.Frag} {mg : Mg} {H : Hp}
theorem dp_ints : ∀ ns : List Int, DpAll K H (ns.map V.int) (ns.map .int)
  | [] => .nil
  | n :: ns => .cons (.int n) (dp_ints ns)
mutual
theorem dp_of : ∀ {d : D} {v : V}, IsD K mg H d v → (toPy d).canLay0 = true → Dp K H v (toPy d)
  | .non, _, h, _ => by simp only [IsD] at h; subst h; unfold toPy; exact .non
  | .bl b, _, h, _ => by simp only [IsD] at h; subst h; unfold toPy; exact .bl b
  | .int b, _, h, _ => by simp only [IsD] at h; subst h; unfold toPy; exact .int b
  | .str b, _, h, _ => by simp only [IsD] at h; subst h; unfold toPy; exact .str b
  | .ty _, _, _, z => by unfold toPy at z; simp [PyData.canLay0] at z
  | .scr ns, _, h, _ => by
    simp only [IsD] at h
    obtain ⟨a, rfl, q⟩ := h
    unfold toPy
    exact .lst q (dp_ints ns)
  | .tup ds, _, h, z => by
    simp only [IsD] at h
    obtain ⟨a, xs, rfl, q, r⟩ := h
    unfold toPy at z ⊢
    exact .tup q.l (dp_ofs r (by simpa [PyData.canLay0] using z))
  | .lst ds, _, h, z => by
    simp only [IsD] at h
    obtain ⟨a, xs, rfl, q, r⟩ := h
    unfold toPy at z ⊢
    exact .lst (.of q) (dp_ofs r (by simpa [PyData.canLay0] using z))
  | .dic _, _, _, z => by unfold toPy at z; simp [PyData.canLay0] at z
  | .ins _ _, _, _, z => by unfold toPy at z; simp [PyData.canLay0] at z
  | .adr _, _, _, z => by unfold toPy at z; simp [PyData.canLay0] at z
  | .exn _ _, _, _, z => by unfold toPy at z; simp [PyData.canLay0] at z
  | .cls _, _, _, z => by unfold toPy at z; simp [PyData.canLay0] at z
theorem dp_ofs : ∀ {d : List D} {v : List V}, IsDs K mg H d v → PyData.canLayAll0 (toPys d) = true → DpAll K H v (toPys d)
  | [], _, h, _ => by simp only [IsDs] at h; subst h; unfold toPys; exact .nil
  | d :: ds, _, h, z => by
    simp only [IsDs] at h
    obtain ⟨v, vs, rfl, q, r⟩ := h
    unfold toPys at z ⊢
    have z' : (toPy d).canLay0 = true ∧ PyData.canLayAll0 (toPys ds) = true := by simpa [PyData.canLayAll0] using z
    exact .cons (dp_of q z'.1) (dp_ofs r z'.2)
end
theorem dp_read {Hf : Hp} {d : D} {v : V} (s : Same Hf H) (h : IsR K mg Hf H d v) (z : (toPy d).canLay0 = true) : Dp K H v (toPy d) := by
  cases d with
  | lst ds =>
    obtain ⟨a, xs, rfl, q, r⟩ := h
    unfold toPy at z ⊢
    exact .lst (.of q) (dp_ofs (IsDs.mono s r) (by simpa [PyData.canLay0] using z))
  | dic ds => unfold toPy at z; simp [PyData.canLay0] at z
  | ins c fs => unfold toPy at z; simp [PyData.canLay0] at z
  | _ => exact dp_of (mg := mg) (IsD.mono s h) z
end
noncomputable def dEq : D → D → Out D := fun x y => chk (SeqAt.shaped (toPy x) = true ∧ SeqAt.shaped (toPy y) = true) (.ok (.bl (PyData.eqv (toPy x) (toPy y))))
noncomputable def dNe : D → D → Out D := fun x y => chk (SeqAt.shaped (toPy x) = true ∧ SeqAt.shaped (toPy y) = true) (.ok (.bl (!PyData.eqv (toPy x) (toPy y))))
theorem od_eq {k : Nat} (hr : Room k X.A) : OpD X (compareOp .Eq) m dEq := by
  refine ⟨_, op_eqD hr.units, fun g E Γ ρ σ Hf H x y v u Q R hx hy k => ?_⟩
  unfold dEq at k
  by_cases c : SeqAt.shaped (toPy x) = true ∧ SeqAt.shaped (toPy y) = true
  · rw [chk_pos c] at k
    exact ⟨toPy x, toPy y, dp_read R.same hx (SeqAt.canLay_of_shaped c.1), dp_read R.same hy (SeqAt.canLay_of_shaped c.2), c.1, c.2, k Hf H (Same.refl _) (Same.refl _) R _ (Res.dat R.same rfl (by simp only [IsD]))⟩
  · rw [chk_neg c] at k; exact k.elim
theorem od_ne {k : Nat} (hr : Room k X.A) : OpD X (compareOp .NotEq) m dNe := by
  refine ⟨_, op_neD hr.units, fun g E Γ ρ σ Hf H x y v u Q R hx hy k => ?_⟩
  unfold dNe at k
  by_cases c : SeqAt.shaped (toPy x) = true ∧ SeqAt.shaped (toPy y) = true
  · rw [chk_pos c] at k
    exact ⟨toPy x, toPy y, dp_read R.same hx (SeqAt.canLay_of_shaped c.1), dp_read R.same hy (SeqAt.canLay_of_shaped c.2), c.1, c.2, k Hf H (Same.refl _) (Same.refl _) R _ (Res.dat R.same rfl (by simp only [IsD]))⟩
  · rw [chk_neg c] at k; exact k.elim

noncomputable def dIxS : D → D → Out D
  | .lst ds, .int i => match atI ds i with
    | some d => .ok d
    | none => .stuck
  | .tup ds, .int i => match atI ds i with
    | some d => .ok d
    | none => .stuck
  | .scr ns, .int i => match atI ns i with
    | some n => .ok (.int n)
    | none => .stuck
  | .str z, .int i => chk (z.length ≤ sizeLine) (match atI z.cps.toList i with
    | some c => .ok (.str ⟨#[c]⟩)
    | none => .stuck)
  | _, _ => .stuck
theorem IsDs.atI {K : PySem.W.Frag} {mg : Mg} {H : Hp} {ds : List D} {vs : List V} {i : Int} {d : D} (h : IsDs K mg H ds vs) (e : atI ds i = some d) : ∃ v, atI vs i = some v ∧ IsD K mg H d v := by
  unfold L2.atI at e ⊢
  rw [h.len]
  cases q : ixN ds.length i with
  | none => rw [q] at e; cases e
  | some j =>
    rw [q] at e
    exact h.at e
end

section
variable {K : PySem.W.Frag} {mg : Mg}
def IsRs (K : PySem.W.Frag) (mg : Mg) (Hf H : Hp) : List D → List V → Prop
  | [], xs => xs = []
  | d :: ds, xs => ∃ v vs, xs = v :: vs ∧ IsR K mg Hf H d v ∧ IsRs K mg Hf H ds vs
end
structure PBx (X : Cx) (g : G) (E : WX) (Γ : List Bool) (e : List Expr) (Γ' : List Bool) (f : Env → Out (List D)) : Prop where
  le : Le Γ' Γ
  pe : PA X e (fun σ H Q => ∃ ρ Hf, Rp X.K X.mw g Γ ρ σ Hf H ∧ tG X.K X.mw g E Γ' ρ σ Hf H (fun ds Hf' H' => ∀ vs, IsRs X.K X.mw Hf' H' ds vs → Q vs H') (f ρ))
def CaD (X : Cx) (u : Value) (m : Md) (F : List D → Out D) : Prop := ∃ r, CallR X u r ∧
  ∀ g E Γ ρ σ Hf H ds vs Q, Rp X.K X.mw g Γ ρ σ Hf H → IsRs X.K X.mw Hf H ds vs → tG X.K X.mw g E Γ ρ σ Hf H (PV X g Γ ρ σ m Q) (F ds) → r vs H Q
section
variable {X : Cx} {g : G} {E : WX} {Γ Γ1 Γ2 : List Bool} {m : Md} {pos p : Pos} {a : Expr} {es : List Expr} {fa : Env → Out D} {fr : Env → Out (List D)} {x : Str} {id T : String} {F : List D → Out D}
theorem pbx_nil : PBx X g E Γ [] Γ aN := by
  refine ⟨Le.refl _, pa_nil.imp fun σ H Q ⟨ρ, Hf, R, k⟩ => ?_⟩
  exact k Hf H (Same.refl _) (Same.refl _) R [] rfl
theorem pbx_cons (ha : PX X g E Γ a Γ1 .rd fa) (hr : PBx X g E Γ1 es Γ2 fr) (hs : starEach (a :: es) X.env = (false, eval a X.env) :: starEach es X.env := by rfl) : PBx X g E Γ (a :: es) Γ2 (aC fa fr) := by
  refine ⟨hr.le.trans ha.le, (pa_cons ha.pe hr.pe hs).imp fun σ H Q ⟨ρ, Hf, R, k⟩ => ⟨ρ, Hf, R, ?_⟩⟩
  refine tG.bind hr.le k fun x F1 H1 s1 s2 R1 k1 v hv => ⟨ρ, F1, R1, ?_⟩
  refine tG.bind (Le.refl _) k1 fun ys F2 H2 s3 s4 R2 k2 us hu => ?_
  exact k2 F2 H2 (Same.refl _) (Same.refl _) R2 (v :: us) ⟨v, us, rfl, IsR.mono s3 s4 hv, hu⟩
theorem px_callB (hc : CaD X (.builtin id) m F) (hg : Gl X x) (hm : X.mg x = none) (hv : bootBuiltins x = some (.builtin id)) (ha : PBx X g E Γ (a :: es) Γ1 fr) (hn : x ≠ "__name__" := by decide) (hdb : (x == ("__debug__" : Str)) = false := by decide)
    (he : starEach (a :: es) X.env = (false, eval a X.env) :: starEach es X.env := by rfl) (hpl : (backTo pos (starEach es X.env)).any (·.1) = false := by rfl) : PX X g E Γ (.Call (.Name x p) (a :: es) [] pos) Γ1 m (eA F fr) := by
  obtain ⟨r, hr, w⟩ := hc
  refine ⟨ha.le, (pe_callB hr hg hm hv ha.pe hn hdb he hpl).imp fun σ H Q ⟨ρ, Hf, R, k⟩ => ⟨ρ, Hf, R, ?_⟩⟩
  exact tG.bind (Le.refl _) k fun ds F1 H1 s1 s2 R1 k1 vs hv => w g E Γ1 ρ σ F1 H1 ds vs Q R1 hv k1
theorem px_callT (hc : CaD X (.type T) m F) (hg : Gl X x) (hm : X.mg x = none) (hv : bootBuiltins x = some (.type T)) (ha : PBx X g E Γ (a :: es) Γ1 fr) (hn : x ≠ "__name__" := by decide) (hdb : (x == ("__debug__" : Str)) = false := by decide)
    (he : starEach (a :: es) X.env = (false, eval a X.env) :: starEach es X.env := by rfl) (hpl : (backTo pos (starEach es X.env)).any (·.1) = false := by rfl) : PX X g E Γ (.Call (.Name x p) (a :: es) [] pos) Γ1 m (eA F fr) := by
  obtain ⟨r, hr, w⟩ := hc
  refine ⟨ha.le, (pe_callTy hr hg hm hv ha.pe hn hdb he hpl).imp fun σ H Q ⟨ρ, Hf, R, k⟩ => ⟨ρ, Hf, R, ?_⟩⟩
  exact tG.bind (Le.refl _) k fun ds F1 H1 s1 s2 R1 k1 vs hv => w g E Γ1 ρ σ F1 H1 ds vs Q R1 hv k1
theorem IsRs.one {K : PySem.W.Frag} {mg : Mg} {Hf H : Hp} {d : D} {vs : List V} (h : IsRs K mg Hf H [d] vs) : ∃ v, vs = [v] ∧ IsR K mg Hf H d v := by
  obtain ⟨v, us, e, q, rfl⟩ := h
  exact ⟨v, e, q⟩
theorem IsRs.two {K : PySem.W.Frag} {mg : Mg} {Hf H : Hp} {d e : D} {vs : List V} (h : IsRs K mg Hf H [d, e] vs) : ∃ v u, vs = [v, u] ∧ IsR K mg Hf H d v ∧ IsR K mg Hf H e u := by
  obtain ⟨v, us, e1, q, u, us', e2, q2, rfl⟩ := h
  exact ⟨v, u, by rw [e1, e2], q, q2⟩
theorem px_type (hg : Gl X x) (hm : X.mg x = none) (hv : bootBuiltins x = some (.type T)) (hn : x ≠ "__name__" := by decide) (hd : (x == ("__debug__" : Str)) = false := by decide) : PX X g E Γ (.Name x pos) Γ m (eC (.ty T)) :=
  .atom (pe_bltn (v := .ty T) hg hm hv rfl hn hd) rfl fun F v e => by simpa only [IsD] using e
noncomputable def cLen : List D → Out D
  | [.lst ds] => .ok (.int ds.length)
  | [.tup ds] => .ok (.int ds.length)
  | [.scr ns] => .ok (.int ns.length)
  | [.str z] => chk (z.length ≤ sizeLine) (.ok (.int z.length))
  | _ => .stuck
theorem CallR.or {u : Value} {r r' : List V → Hp → VK → Prop} (h : CallR X u r) (h' : CallR X u r') : CallR X u (fun x H Q => r x H Q ∨ r' x H Q) := by
  intro pins s σ H xs us Q I rx q
  rcases q with q | q
  · exact h pins s σ H xs us Q I rx q
  · exact h' pins s σ H xs us Q I rx q
theorem call_len_str' : CallR X (.builtin "len") (fun xs H Q => ∃ z : Str, xs = [.str z] ∧ z.length ≤ sizeLine ∧ Q (.int z.length) H) := by
  intro pins s σ H xs us Q I r h
  obtain ⟨z, rfl, l, q⟩ := h
  exact call_len pins s σ H _ us Q I r ⟨.str z, z.length, rfl, ⟨l, rfl⟩, q⟩
theorem ca_len : CaD X (.builtin "len") m cLen := by
  refine ⟨_, call_len_seq.or call_len_str', fun g E Γ ρ σ Hf H ds vs Q R h k => ?_⟩
  unfold cLen at k
  split at k
  · rename_i ds
    obtain ⟨v, rfl, p, xs, rfl, q, r⟩ := h.one
    rw [← r.len] at k
    exact .inl ⟨p, xs, rfl, .inl (.of q), k Hf H (Same.refl _) (Same.refl _) R _ (Res.dat R.same rfl (by simp only [IsD]))⟩
  · rename_i ds
    obtain ⟨v, rfl, z⟩ := h.one
    simp only [IsR, IsD] at z
    obtain ⟨p, xs, rfl, q, r⟩ := z
    rw [← r.len] at k
    exact .inl ⟨p, xs, rfl, .inr (Same.seqT R.same q).l, k Hf H (Same.refl _) (Same.refl _) R _ (Res.dat R.same rfl (by simp only [IsD]))⟩
  · rename_i ns
    obtain ⟨v, rfl, z⟩ := h.one
    simp only [IsR, IsD] at z
    obtain ⟨p, rfl, q⟩ := z
    refine .inl ⟨p, _, rfl, .inl (R.same.seq q), ?_⟩
    rw [List.length_map]
    exact k Hf H (Same.refl _) (Same.refl _) R _ (Res.dat R.same rfl (by simp only [IsD]))
  · rename_i z
    obtain ⟨v, rfl, e⟩ := h.one
    simp only [IsR, IsD] at e
    subst e
    by_cases l : z.length ≤ sizeLine
    · rw [chk_pos l] at k
      exact .inr ⟨z, rfl, l, k Hf H (Same.refl _) (Same.refl _) R _ (Res.dat R.same rfl (by simp only [IsD]))⟩
    · rw [chk_neg l] at k; exact k.elim
  · exact k.elim
def cMax2 : List D → Out D
  | [.int i, .int j] => .ok (.int (if j > i then j else i))
  | _ => .stuck
def cMin2 : List D → Out D
  | [.int i, .int j] => .ok (.int (if j < i then j else i))
  | _ => .stuck
theorem ca_max2 (hc : X.calm = true) : CaD X (.builtin "max") m cMax2 := by
  refine ⟨_, call_max2 hc, fun g E Γ ρ σ Hf H ds vs Q R h k => ?_⟩
  unfold cMax2 at k
  split at k
  · obtain ⟨v, u, rfl, q1, q2⟩ := h.two
    cases q1; cases q2
    exact ⟨_, _, rfl, k Hf H (Same.refl _) (Same.refl _) R _ (Res.dat R.same rfl (by simp only [IsD]))⟩
  · exact k.elim
theorem ca_min2 (hc : X.calm = true) : CaD X (.builtin "min") m cMin2 := by
  refine ⟨_, call_min2 hc, fun g E Γ ρ σ Hf H ds vs Q R h k => ?_⟩
  unfold cMin2 at k
  split at k
  · obtain ⟨v, u, rfl, q1, q2⟩ := h.two
    cases q1; cases q2
    exact ⟨_, _, rfl, k Hf H (Same.refl _) (Same.refl _) R _ (Res.dat R.same rfl (by simp only [IsD]))⟩
  · exact k.elim
def cAbs : List D → Out D
  | [.int i] => .ok (.int (if i < 0 then -i else i))
  | _ => .stuck
def cInt : List D → Out D
  | [.int i] => .ok (.int i)
  | [.bl b] => .ok (.int (if b then 1 else 0))
  | _ => .stuck
theorem ca_int : CaD X (.type "int") m cInt := by
  refine ⟨_, call_int1, fun g E Γ ρ σ Hf H ds vs Q R h k => ?_⟩
  unfold cInt at k
  split at k
  · obtain ⟨v, rfl, q1⟩ := h.one
    cases q1
    exact .inl ⟨_, rfl, k Hf H (Same.refl _) (Same.refl _) R _ (Res.dat R.same rfl (by simp only [IsD]))⟩
  · obtain ⟨v, rfl, q1⟩ := h.one
    cases q1
    exact .inr ⟨_, rfl, k Hf H (Same.refl _) (Same.refl _) R _ (Res.dat R.same rfl (by simp only [IsD]))⟩
  · exact k.elim
def tyName : D → Option String
  | .non => some "NoneType"
  | .bl _ => some "bool"
  | .int _ => some "int"
  | .str _ => some "str"
  | .tup _ => some "tuple"
  | .lst _ => some "list"
  | .scr _ => some "list"
  | _ => none
def cIsi : List D → Out D
  | [d, .ty t] => match tyName d with
    | some n => match kitB n t with
      | some b => .ok (.bl b)
      | none => .stuck
    | none => .stuck
  | _ => .stuck
theorem sq_ty {H : Hp} {a : Addr} {xs : List V} {K : PySem.W.Frag} (h : SqL K H a xs) : TyX K H (.ref a) (.type "list") := by
  rcases h with (h | ⟨o, h⟩) | ⟨o, its, n, e, c, _⟩
  · exact .base (.lst h)
  · exact .base (.frz h)
  · exact .kList e c
theorem tup_ty {H : Hp} {a : Addr} {xs : List V} {K : PySem.W.Frag} (h : L2.SqT K H a xs) : TyX K H (.ref a) (.type "tuple") := by
  rcases h with (h | ⟨o, h⟩) | ⟨o, its, n, e, c, _⟩
  · exact .base (.tup h)
  · exact .fTuple h
  · exact .kTuple e c
theorem ty_of {K : PySem.W.Frag} {mg : Mg} {Hf H : Hp} {d : D} {v : V} {n : String} (s : Same Hf H) (h : IsR K mg Hf H d v) (e : tyName d = some n) : TyX K H v (.type n) := by
  cases d with
  | non => cases e; cases h; exact .base .non
  | bl b => cases e; cases h; exact .base (.bl b)
  | int i => cases e; cases h; exact .base (.int i)
  | str x => cases e; cases h; exact .base (.str x)
  | ty x => cases e
  | scr ns => cases e; simp only [IsR, IsD] at h; obtain ⟨a, rfl, q⟩ := h; exact sq_ty (s.seq q)
  | tup ds => cases e; simp only [IsR, IsD] at h; obtain ⟨a, xs, rfl, q, r⟩ := h; exact tup_ty (Same.seqT s q).l
  | lst ds => cases e; obtain ⟨a, xs, rfl, q, r⟩ := h; exact .base (.lst q)
  | dic ds => cases e
  | ins c fs => cases e
  | adr a => cases e
  | exn c fs => cases e
  | cls c => cases e
theorem ca_isi : CaD X (.builtin "isinstance") m cIsi := by
  refine ⟨_, call_isi, fun g E Γ ρ σ Hf H ds vs Q R h k => ?_⟩
  unfold cIsi at k
  split at k
  · rename_i d t
    obtain ⟨v, u, rfl, q1, q2⟩ := h.two
    cases q2
    cases e : tyName d with
    | none => rw [e] at k; exact k.elim
    | some n =>
      rw [e] at k
      simp only at k
      cases e2 : kitB n t with
      | none => rw [e2] at k; exact k.elim
      | some b =>
        rw [e2] at k
        exact ⟨v, .ty t, .type n, .type t, b, rfl, .ty t, ty_of R.same q1 e, kit_ty e2, k Hf H (Same.refl _) (Same.refl _) R _ (Res.dat R.same rfl (by simp only [IsD]))⟩
  · exact k.elim
end
end PD

namespace PD
open PySem PySem.Spec L2
open PyProof.Rows hiding St

def leB : List Bool → List Bool → Bool
  | [], _ => true
  | a :: as, [] => !a && leB as []
  | a :: as, b :: bs => (!a || b) && leB as bs
theorem le_of : ∀ {a b : List Bool}, leB a b = true → Le a b
  | [], b, _, i, h => by unfold Own at h; simp at h
  | a :: as, [], e, i, h => by
    unfold leB at e
    simp only [Bool.and_eq_true] at e
    cases i with
    | zero =>
      unfold Own at h
      have h' : a = true := by simpa using h
      rw [h'] at e
      simp at e
    | succ i =>
      have h' : Own as i := by unfold Own at h ⊢; simpa using h
      have := le_of e.2 i h'
      unfold Own at this
      simp at this
  | a :: as, b :: bs, e, i, h => by
    unfold leB at e
    simp only [Bool.and_eq_true] at e
    cases i with
    | zero =>
      unfold Own at h ⊢
      have h' : a = true := by simpa using h
      have e1 := e.1
      rw [h'] at e1
      simpa using e1
    | succ i =>
      have h' : Own as i := by unfold Own at h ⊢; simpa using h
      have := le_of e.2 i h'
      unfold Own at this ⊢
      simpa using this

theorem no_own {a : List Bool} (h : leB a [] = true) : ∀ i, ¬ Own a i := fun i o => by
  have := le_of h i o
  unfold Own at this
  simp at this
theorem nxs_nil : ∀ F ∈ ([] : List (D → Env → Out Env)), ∀ d ρ x, F d ρ ≠ .exc x := fun F h => by cases h
theorem nxs_cons {F : D → Env → Out Env} {Fs : List (D → Env → Out Env)} (h : ∀ d ρ x, F d ρ ≠ .exc x) (t : ∀ F ∈ Fs, ∀ d ρ x, F d ρ ≠ .exc x) : ∀ F' ∈ F :: Fs, ∀ d ρ x, F' d ρ ≠ .exc x := fun F' m => by
  rcases List.mem_cons.mp m with rfl | m
  · exact h
  · exact t F' m
section
variable {X : Cx} {g : G} {E : WX} {ro : Bool} {Γl Γ Γ1 Γ2 Γ3 : List Bool} {m : Md} {pos p : Pos} {x : Str} {e : Expr} {es : List Expr} {k : Nat} {ps : List Str} {F : List D → Out D} {fa : Env → Out (List D)}
theorem px_callF (C : FnA X.prog X.w X.K X.mg X.base k x ps false F) (hr : Room k X.A) (hg : Gl X x) (tk : Takes X E) (ha : PAx X g E Γ (e :: es) Γ1 fa) (hdb : (x == ("__debug__" : Str)) = false := by decide)
    (he : starEach (e :: es) X.env = (false, eval e X.env) :: starEach es X.env := by rfl) (hpl : (backTo pos (starEach es X.env)).any (·.1) = false := by rfl) : PX X g E Γ (.Call (.Name x p) (e :: es) [] pos) Γ1 .fr (eA F fa) := px_call C hr hg tk ha hdb he hpl
theorem px_callO (C : FnA X.prog X.w X.K X.mg X.base k x ps true F) (hr : Room k X.A) (hg : Gl X x) (tk : Takes X E) (ha : PAx X g E Γ (e :: es) Γ1 fa) (hdb : (x == ("__debug__" : Str)) = false := by decide)
    (he : starEach (e :: es) X.env = (false, eval e X.env) :: starEach es X.env := by rfl) (hpl : (backTo pos (starEach es X.env)).any (·.1) = false := by rfl) : PX X g E Γ (.Call (.Name x p) (e :: es) [] pos) Γ1 .ow (eA F fa) := px_call C hr hg tk ha hdb he hpl
end

theorem bb_len : bootBuiltins "len" = some (.builtin "len") := by decide +kernel
theorem bb_max : bootBuiltins "max" = some (.builtin "max") := by decide +kernel
theorem bb_min : bootBuiltins "min" = some (.builtin "min") := by decide +kernel
theorem bb_isinstance : bootBuiltins "isinstance" = some (.builtin "isinstance") := by decide +kernel
theorem bb_int : bootBuiltins "int" = some (.type "int") := by decide +kernel
theorem bb_bool : bootBuiltins "bool" = some (.type "bool") := by decide +kernel
theorem bb_tuple : bootBuiltins "tuple" = some (.type "tuple") := by decide +kernel
theorem bb_list : bootBuiltins "list" = some (.type "list") := by decide +kernel
theorem bb_dict : bootBuiltins "dict" = some (.type "dict") := by decide +kernel

theorem fnT_of {K : PySem.W.Frag} {h : Heap} {mg : Str → Option Value} {x : Str} {st : Stmt} {f : Addr} {oc : Value} {od an : Option Addr} {osl : Array (Option Value)} {kV doc pm cdv ct : Value} (X : K.In h) (G : h.Ns mainGlobals mg)
    (a : PySem.W.nsIn K mainGlobals x = some (some (.ref f))) (l : K.lookup f = some ⟨oc, od, .func (PySem.W.fnOf x x (defArgs st) (defBody st) (defScope st) .none kV doc pm an cdv ct), osl⟩)
    (c : PySem.W.codeIn K cdv x = true) (k : PySem.W.keepIn K (.ref f) = true) : FnT K mg x st :=
  ⟨⟨f, _, PySem.W.mg_of X G a, fun_mk (st := st) l c k⟩⟩
def spLaw (K : PySem.W.Frag) : Sp := fun vs H Q _ => ∃ (a : Addr) (ns : List Int), vs = [.ref a] ∧ SqL K H a (ns.map V.int) ∧ ns.length ≤ 63 ∧ (∀ z ∈ ns, Builtin.Int.intBits z ≤ 1048576) ∧ ∀ H', Q (.bl true) H'
theorem law_imp {K : PySem.W.Frag} {mg : Mg} {ro : Bool} {F : List D → Out D} (hF : ∀ ns : List Int, ns.length ≤ 63 → (∀ z ∈ ns, Builtin.Int.intBits z ≤ 1048576) → F [.scr ns] = .ok (.bl true)) (vs : List V) (H : Hp) (Q : VK) (E : XK) (h : spLaw K vs H Q E) : spD K mg ro F vs H Q E := by
  obtain ⟨a, ns, rfl, q, l, b, k⟩ := h
  refine ⟨[.scr ns], H, Same.refl _, by simp only [IsDs, IsD]; exact ⟨_, _, rfl, ⟨a, rfl, q⟩, rfl⟩, ?_⟩
  rw [hF ns l b]
  intro v Hf' H' _ _ _ _ r
  have : v = .bl true := by
    unfold RetRes at r
    cases ro <;> simpa [IsO, IsD] using r
  subst this
  exact k H'
theorem cx_no {P : Program} {w : World} {H : Hp} {s : Shared} {e : Value} {s' : Shared} (h : L2.CX P w [] H s (fun _ _ _ => False) e s') : False := by
  obtain ⟨_, _, _, _, _, _, _, _, _, _, _, _, z⟩ := h
  exact z
theorem law_end {P : Program} {w : World} {K : PySem.W.Frag} {mg : Str → Option Value} {k : Nat} {fa : Addr} {ro : Bool} {F : List D → Out D} {x : Str} {st : Stmt} (T : FnT K mg "law" st) (hfa : mg "law" = some (.ref fa))
    (hb : ∀ (kV doc pm : Value) (an : Option Addr) (cdv ct : Value) (us : List Value), us.length = 1 → bindArgs (PySem.W.fnOf "law" "law" (defArgs st) (defBody st) (defScope st) .none kV doc pm an cdv ct) ⟨us, []⟩ = pure ([x].zip us))
    (A : ∀ base : Heap, FnA P w K mg base k "law" [x] ro F)
    (hF : ∀ ns : List Int, ns.length ≤ 63 → (∀ z ∈ ns, Builtin.Int.intBits z ≤ 1048576) → F [.scr ns] = .ok (.bl true)) :
    ∃ fd : FuncData, (∀ (s : Shared) (v : Value), BindsTo s fd ⟨[v], []⟩ [(x, v)]) ∧ ∀ base : Heap, K.In base → base.Ns mainGlobals mg → FnOk P w K mg base (L2.CX P w) k fa fd [x] (spLaw K) := by
  obtain ⟨f, fd, e1, Fn⟩ := T.ex
  rw [hfa] at e1
  cases e1
  refine ⟨fd, fun s v => ?_, fun base _ _ => ?_⟩
  · obtain ⟨oc, od, kV, doc, pm, an, cdv, ct, osl, rfl, lk, hcd⟩ := Fn.ex
    exact .of_eq (hb kV doc pm an cdv ct [v] rfl)
  · obtain ⟨f', fd', e1, e2, e3, e4, oc', od', osl', lk'⟩ := (A base).ex
    rw [hfa] at e1
    cases e1
    obtain ⟨oc, od, kV, doc, pm, an, cdv, ct, osl, rfl, lk, hcd⟩ := Fn.ex
    rw [lk] at lk'
    cases lk'
    exact e4.imp (law_imp hF)
end PD

namespace PD
open PySem PySem.Spec L2
open PyProof.Rows hiding St
theorem sSeq_ap (f k : Env → SO) (ρ : Env) : sSeq f k ρ = (f ρ).andThen k := rfl
theorem sIf_ap (t : Env → Out Bool) (a b : Env → SO) (ρ : Env) : sIf t a b ρ = oS (t ρ) fun c => if c = true then a ρ else b ρ := rfl
theorem sSet_ap (i : Nat) (f : Env → Out D) (ρ : Env) : sSet i f ρ = oS (f ρ) fun d => .nx (ρ.set i (some d)) := rfl
theorem sRet_ap (f : Env → Out D) (ρ : Env) : sRet f ρ = oS (f ρ) .rt := rfl
theorem sExpr_ap (f : Env → Out D) (ρ : Env) : sExpr f ρ = oS (f ρ) fun _ => .nx ρ := rfl
theorem sAsg_ap (G : D → Env → Out Env) (f : Env → Out D) (ρ : Env) : sAsg G f ρ = oS (f ρ) fun d => oS (G d ρ) .nx := rfl
theorem sFor_ap (G : D → Env → Out Env) (it : Env → Out (List D)) (b : Env → SO) (ρ : Env) : sFor G it b ρ = oS (it ρ) fun ds => forL G b ds ρ := rfl
theorem sNx_ap (ρ : Env) : sNx ρ = .nx ρ := rfl
theorem sBk_ap (ρ : Env) : sBk ρ = .bk ρ := rfl
theorem sCt_ap (ρ : Env) : sCt ρ = .ct ρ := rfl
theorem sRetN_ap (ρ : Env) : sRetN ρ = .rt .non := rfl
theorem eC_ap (d : D) (ρ : Env) : eC d ρ = .ok d := rfl
theorem eV_0 (d : D) (ρ : Env) : eV 0 (some d :: ρ) = .ok d := rfl
theorem eV_s (i : Nat) (x : Option D) (ρ : Env) : eV (i + 1) (x :: ρ) = eV i ρ := by simp [eV]
theorem e2_ap (F : D → D → Out D) (a b : Env → Out D) (ρ : Env) : e2 F a b ρ = (a ρ).bind fun x => (b ρ).bind fun y => F x y := rfl
theorem e1_ap (F : D → Out D) (a : Env → Out D) (ρ : Env) : e1 F a ρ = (a ρ).bind F := rfl
theorem aN_ap (ρ : Env) : aN ρ = .ok [] := rfl
theorem aC_ap (a : Env → Out D) (r : Env → Out (List D)) (ρ : Env) : aC a r ρ = (a ρ).bind fun x => (r ρ).bind fun xs => .ok (x :: xs) := rfl
theorem eA_ap (F : List D → Out D) (a : Env → Out (List D)) (ρ : Env) : eA F a ρ = (a ρ).bind F := rfl
theorem tOf_ap (f : Env → Out D) (ρ : Env) : tOf f ρ = (f ρ).bind fun d => match d with
  | .bl b => .ok b
  | _ => .stuck := rfl
theorem bAnd_ap (s t : Env → Out Bool) (ρ : Env) : bAnd s t ρ = (s ρ).bind fun b => if b = true then t ρ else .ok false := rfl
theorem bOr_ap (s t : Env → Out Bool) (ρ : Env) : bOr s t ρ = (s ρ).bind fun b => if b = true then .ok true else t ρ := rfl
theorem bNot_ap (s : Env → Out Bool) (ρ : Env) : bNot s ρ = (s ρ).bind fun b => .ok (!b) := rfl
theorem vAnd_ap (a b : Env → Out D) (ρ : Env) : vAnd a b ρ = (a ρ).bind fun x => match x with
  | .bl c => if c = true then b ρ else .ok (.bl false)
  | _ => .stuck := rfl
theorem vOr_ap (a b : Env → Out D) (ρ : Env) : vOr a b ρ = (a ρ).bind fun x => match x with
  | .bl c => if c = true then .ok (.bl true) else b ρ
  | _ => .stuck := rfl
theorem vNot_ap (a : Env → Out D) (ρ : Env) : vNot a ρ = (a ρ).bind fun x => match x with
  | .bl c => .ok (.bl (!c))
  | _ => .stuck := rfl
theorem eIf_ap (t : Env → Out Bool) (a b : Env → Out D) (ρ : Env) : eIf t a b ρ = (t ρ).bind fun c => if c = true then a ρ else b ρ := rfl
theorem gN_ap (i : Nat) (d : D) (ρ : Env) : gN i d ρ = .ok (ρ.set i (some d)) := rfl
theorem gT_ap (gs : List (D → Env → Out Env)) (ds : List D) (ρ : Env) : gT gs (.tup ds) ρ = if ds.length = gs.length then (gs.zip ds).foldl (fun o p => o.bind (p.1 p.2)) (.ok ρ) else .stuck := rfl
theorem forL_cons (G : D → Env → Out Env) (b : Env → SO) (d : D) (ds : List D) (ρ : Env) : forL G b (d :: ds) ρ = oS (G d ρ) fun ρ1 => (b ρ1).turn fun r => forL G b ds r := rfl
theorem fnM_ap (n k : Nat) (b : Env → SO) (ds : List D) : fnM n k b ds = if ds.length = k then (b (ds.map some ++ List.replicate (n - k) none)).res else .stuck := rfl
theorem andThen_ite (c : Prop) [Decidable c] (a b : SO) (k : Env → SO) : (if c then a else b).andThen k = if c then a.andThen k else b.andThen k := by split <;> rfl
theorem turn_ite (c : Prop) [Decidable c] (a b : SO) (k : Env → SO) : (if c then a else b).turn k = if c then a.turn k else b.turn k := by split <;> rfl
theorem res_ite (c : Prop) [Decidable c] (a b : SO) : (if c then a else b).res = if c then a.res else b.res := by split <;> rfl
theorem bind_ite {α β : Type} (c : Prop) [Decidable c] (a b : Out α) (k : α → Out β) : (if c then a else b).bind k = if c then a.bind k else b.bind k := by split <;> rfl
theorem oS_ite {α : Type} (c : Prop) [Decidable c] (a b : Out α) (k : α → SO) : oS (if c then a else b) k = if c then oS a k else oS b k := by split <;> rfl
theorem ok_ite {α : Type} (c : Prop) [Decidable c] (a b : α) : (if c then Out.ok a else Out.ok b) = Out.ok (if c then a else b) := by split <;> rfl
theorem int_ite (c : Prop) [Decidable c] (a b : Int) : (if c then D.int a else D.int b) = D.int (if c then a else b) := by split <;> rfl
theorem iSeq_ap (f : Env → Out D) (ρ : Env) : iSeq f ρ = (f ρ).bind fun d => match d with
  | .lst ds => .ok ds
  | .tup ds => .ok ds
  | .scr ns => .ok (ns.map .int)
  | _ => .stuck := rfl
theorem iRange1_ap (f : Env → Out (List D)) (ρ : Env) : iRange1 f ρ = (f ρ).bind rng1 := rfl
theorem iRange2_ap (f : Env → Out (List D)) (ρ : Env) : iRange2 f ρ = (f ρ).bind rng2 := rfl
theorem rng2_ok {i j : Int} (h0 : -1000000 ≤ i) (h1 : i ≤ 1000000) (h2 : -1000000 ≤ j) (h3 : j ≤ 1000000) : rng2 [.int i, .int j] = .ok ((List.range (j - i).toNat).map fun (n : Nat) => .int (i + n)) := chk_pos ⟨by omega, by omega⟩
theorem mkLst_ok {ds : List D} (h : ds.length ≤ 16777216) : mkLst ds = .ok (.lst ds) := chk_pos h
theorem mkTup_ok {ds : List D} (h : ds.length ≤ 16777216) : mkTup ds = .ok (.tup ds) := chk_pos h
theorem mkTup_0 : mkTup [] = .ok (.tup []) := mkTup_ok (by simp)
theorem mkTup_1 (a : D) : mkTup [a] = .ok (.tup [a]) := mkTup_ok (by simp)
theorem mkTup_2 (a b : D) : mkTup [a, b] = .ok (.tup [a, b]) := mkTup_ok (by simp)
theorem mkTup_3 (a b c : D) : mkTup [a, b, c] = .ok (.tup [a, b, c]) := mkTup_ok (by simp)
theorem mkTup_4 (a b c d : D) : mkTup [a, b, c, d] = .ok (.tup [a, b, c, d]) := mkTup_ok (by simp)
theorem mkLst_0 : mkLst [] = .ok (.lst []) := mkLst_ok (by simp)
theorem mkLst_1 (a : D) : mkLst [a] = .ok (.lst [a]) := mkLst_ok (by simp)
theorem mkLst_2 (a b : D) : mkLst [a, b] = .ok (.lst [a, b]) := mkLst_ok (by simp)
theorem mkLst_3 (a b c : D) : mkLst [a, b, c] = .ok (.lst [a, b, c]) := mkLst_ok (by simp)
theorem mkLst_4 (a b c d : D) : mkLst [a, b, c, d] = .ok (.lst [a, b, c, d]) := mkLst_ok (by simp)
theorem dAdd_int (i j : Int) : dAdd (.int i) (.int j) = .ok (.int (i + j)) := rfl
theorem dSub_int (i j : Int) : dSub (.int i) (.int j) = .ok (.int (i - j)) := rfl
theorem dNeg_int (i : Int) : dNeg (.int i) = .ok (.int (-i)) := rfl
theorem dLe_int (i j : Int) : dLe (.int i) (.int j) = .ok (.bl (decide (i ≤ j))) := rfl
theorem dGt_int (i j : Int) : dGt (.int i) (.int j) = .ok (.bl (decide (j < i))) := rfl
theorem dEq_int (i j : Int) : dEq (.int i) (.int j) = .ok (.bl (decide (i = j))) := by
  unfold dEq
  rw [chk_pos ⟨rfl, rfl⟩]
  simp only [toPy, PyData.eqv]
  rw [Bool.beq_eq_decide_eq]
theorem dNe_int (i j : Int) : dNe (.int i) (.int j) = .ok (.bl (!decide (i = j))) := by
  unfold dNe
  rw [chk_pos ⟨rfl, rfl⟩]
  simp only [toPy, PyData.eqv]
  rw [Bool.beq_eq_decide_eq]
theorem cLen_scr (ns : List Int) : cLen [.scr ns] = .ok (.int ns.length) := rfl
theorem cLen_lst (ns : List D) : cLen [.lst ns] = .ok (.int ns.length) := rfl
theorem cLen_tup (ns : List D) : cLen [.tup ns] = .ok (.int ns.length) := rfl
theorem cInt_bl (b : Bool) : cInt [.bl b] = .ok (.int (if b then 1 else 0)) := rfl
theorem cInt_int (i : Int) : cInt [.int i] = .ok (.int i) := rfl
theorem cMax_int (i j : Int) : cMax2 [.int i, .int j] = .ok (.int (max i j)) := by
  show Out.ok (D.int (if j > i then j else i)) = _
  congr 2
  rw [Int.max_def]
  split <;> split <;> omega
theorem cMin_int (i j : Int) : cMin2 [.int i, .int j] = .ok (.int (min i j)) := by
  show Out.ok (D.int (if j < i then j else i)) = _
  congr 2
  rw [Int.min_def]
  split <;> split <;> omega
theorem cAbs_int (i : Int) : cAbs [.int i] = .ok (.int i.natAbs) := by
  show Out.ok (D.int (if i < 0 then -i else i)) = _
  congr 2
  split <;> omega
theorem cIsi_int (i : Int) : cIsi [.int i, .ty "int"] = .ok (.bl true) := rfl
theorem cIsi_int_bool (i : Int) : cIsi [.int i, .ty "bool"] = .ok (.bl false) := rfl
def Sz (n : Nat) (i : Int) : Prop := i.natAbs < 2 ^ n
theorem Sz.mono {n m : Nat} {i : Int} (h : Sz n i) (l : n ≤ m) : Sz m i := Nat.lt_of_lt_of_le h (Nat.pow_le_pow_right (by decide) l)
theorem Sz.mul {n m : Nat} {i j : Int} (h : Sz n i) (k : Sz m j) : Sz (n + m) (i * j) := by
  unfold Sz at *
  rw [Int.natAbs_mul, Nat.pow_add]
  exact Nat.mul_lt_mul'' h k
theorem Sz.add {n : Nat} {i j : Int} (h : Sz n i) (k : Sz n j) : Sz (n + 1) (i + j) := by
  unfold Sz at *
  rw [Nat.pow_succ]
  omega
theorem Sz.sub {n : Nat} {i j : Int} (h : Sz n i) (k : Sz n j) : Sz (n + 1) (i - j) := by
  unfold Sz at *
  rw [Nat.pow_succ]
  omega
theorem Sz.neg {n : Nat} {i : Int} (h : Sz n i) : Sz n (-i) := by
  unfold Sz at *
  omega
theorem sz_of_bits {n : Nat} {i : Int} (h : Builtin.Int.intBits i ≤ n) : Sz n i := by
  unfold Sz Builtin.Int.intBits at *
  by_cases z : (i == 0) = true
  · rw [eq_of_beq z]; exact Nat.two_pow_pos n
  · rw [if_neg z] at h
    exact Nat.lt_of_lt_of_le Nat.lt_log2_self (Nat.pow_le_pow_right (by decide) h)
theorem dMul_int {n m : Nat} {i j : Int} (h : Sz n i) (k : Sz m j) (l : n + m ≤ 134217728) : dMul (.int i) (.int j) = .ok (.int (i * j)) := by
  exact chk_pos (mulx_ok h k l)
theorem dDiv_int {n : Nat} {i j : Int} (h : 0 < j) (k : Sz n j) (l : n ≤ 9000) : dDiv (.int i) (.int j) = .ok (.int (i / j)) := by
  refine chk_pos ?_
  cases n with
  | zero => unfold Sz at k; omega
  | succ n => exact wide_div h k (by omega) l
theorem dMod_int {i j : Int} (h : 0 < j) : dMod (.int i) (.int j) = .ok (.int (i % j)) := by
  exact chk_pos h
end PD

namespace PD
open PySem PySem.Spec L2
open PyProof.Rows hiding St

noncomputable def chkS (p : Prop) (o : SO) : SO := @ite _ p (Classical.propDecidable p) o .stuck
theorem chkS_pos {p : Prop} {o : SO} (h : p) : chkS p o = o := if_pos h
theorem chkS_neg {p : Prop} {o : SO} (h : ¬ p) : chkS p o = .stuck := if_neg h
section
variable {X : Cx} {g : G} {E : WX} {ro : Bool} {Γl Γ Γ1 Γ2 Γ3 : List Bool} {m : Md} {pos : Pos}
theorem Rp.wr {K : PySem.W.Frag} {mg : Mg} {ρ : Env} {σ : St} {Hf H : Hp} (R : Rp K mg g Γ ρ σ Hf H) {i : Nat} {d d' : D} {a : Addr} {o' : HO} (o : Own Γ i) (e : ρ[i]? = some (some d)) (md : d.mut = true) (es : σ[i]? = some (some (.ref a)))
    (z0 : g.H0 a = none) (zf : Hf a = none) (new : IsO K mg g.H0 Hf (upd H a o') d' (.ref a)) : Rp K mg g Γ (ρ.set i (some d')) σ Hf (upd H a o') := by
  have li : i < ρ.length := (List.getElem?_eq_some_iff.mp e).1
  refine ⟨fun b x q => ?_, fun b x q => ?_, R.ent2, R.news, R.len.setE _ _, fun j e' ow ej => ?_, fun j e' ow ej => ?_, fun j k e1 e2 v n o1 o2 q1 q2 m1 m2 s1 s2 => ?_⟩
  · rw [upd_ne (ne_of_none q zf)]; exact R.same _ _ q
  · rw [upd_ne (ne_of_none q z0)]; exact R.ent _ _ q
  · rcases set_get ej with ⟨rfl, _, rfl⟩ | ⟨nij, ej'⟩
    · exact ⟨_, es, new⟩
    · obtain ⟨v, ev, io⟩ := R.own j e' ow ej'
      refine ⟨v, ev, ?_⟩
      have key : ∀ b, v = .ref b → e'.mut = true → b ≠ a := fun b eb me z => by
        subst eb; subst z
        exact R.sep i j d e' _ nij o ow e ej' md me es ev
      cases e' with
      | lst ds => obtain ⟨b, xs, eb, w0, wf, q, r⟩ := io; exact ⟨b, xs, eb, w0, wf, by rw [upd_ne (key b eb rfl)]; exact q, r⟩
      | dic ds => obtain ⟨b, xs, eb, w0, wf, q, r⟩ := io; exact ⟨b, xs, eb, w0, wf, by rw [upd_ne (key b eb rfl)]; exact q, r⟩
      | ins c ds => obtain ⟨b, xs, eb, w0, wf, q, r⟩ := io; exact ⟨b, xs, eb, w0, wf, by rw [upd_ne (key b eb rfl)]; exact q, r⟩
      | _ => exact io
  · rcases set_get ej with ⟨rfl, _, rfl⟩ | ⟨nij, ej'⟩
    · exact absurd o ow
    · exact R.dat j e' ow ej'
  · rcases set_get q1 with ⟨rfl, _, rfl⟩ | ⟨n1, q1'⟩
    · rcases set_get q2 with ⟨rfl, _⟩ | ⟨n2, q2'⟩
      · exact n rfl
      · exact R.sep i k d e2 v n o1 o2 e q2' md m2 s1 s2
    · rcases set_get q2 with ⟨rfl, _, rfl⟩ | ⟨n2, q2'⟩
      · exact R.sep j i e1 d v n o1 o2 q1' e m1 md s1 s2
      · exact R.sep j k e1 e2 v n o1 o2 q1' q2' m1 m2 s1 s2
theorem IsDs.snoc {K : PySem.W.Frag} {mg : Mg} {H : Hp} {d : D} {v : V} : ∀ {ds : List D} {vs : List V}, IsDs K mg H ds vs → IsD K mg H d v → IsDs K mg H (ds ++ [d]) (vs ++ [v])
  | [], vs, h, k => by
    simp only [IsDs] at h
    subst h
    show IsDs K mg H [d] [v]
    simp only [IsDs]
    exact ⟨v, [], rfl, k, rfl⟩
  | x :: ds, vs, h, k => by
    simp only [IsDs, List.cons_append] at h ⊢
    obtain ⟨u, us, rfl, q, r⟩ := h
    exact ⟨u, us ++ [v], rfl, q, r.snoc k⟩
def onLst (i : Nat) (f : Env → Out D) (k : List D → D → Env → SO) : Env → SO := fun ρ => match ρ[i]? with
  | some (some (.lst xs)) => oS (f ρ) fun d => k xs d ρ
  | _ => .stuck
noncomputable def sApp (i : Nat) (f : Env → Out D) : Env → SO := onLst i f fun xs d ρ => chkS (xs.length < sizeLine) (.nx (ρ.set i (some (.lst (xs ++ [d])))))
theorem psx_append {i : Nat} {x : Str} {a : Expr} {p ap cp : Pos} {fa : Env → Out D} (h : PE X (.Name x p) (tVar i)) (ha : PX X g E Γ a Γ1 .fr fa) (o : Γ1.getD i false = true)
    (hbase : attributeBase (.Name x p) "append" X.env (eval (.Name x p) X.env) = eval (.Name x p) X.env := by rfl)
    (hfew : ((backTo cp (starEach (a :: []) X.env)).all (fun x => !x.1) && (backToKw cp (keywordEach [] X.env)).all (fun x => x.1.isSome)
      && decide ((a :: []).length + ([] : List Keyword).length + (if ([] : List Keyword).isEmpty then 0 else 1) < 30)) = true := by rfl)
    (hline : (ap.endLine == cp.line) = true := by rfl) (hs : starEach (a :: []) X.env = (false, eval a X.env) :: starEach [] X.env := by rfl) (hplain : (backTo cp (starEach [] X.env)).any (·.1) = false := by rfl)
    (hsw : swapsWith (.Call (.Attribute (.Name x p) "append" ap) [a] [] cp) none pos.line X.env = pure false := by rfl) :
    PSx X g E ro Γl Γ (.Expr (.Call (.Attribute (.Name x p) "append" ap) [a] [] cp) pos) Γ1 (sApp i fa) := by
  refine ⟨(ps_expr (pe_bm PySem.F.plainAttrs_list PySem.F.slot_list_append PySem.F.type_list_append mt_append h (pa_cons ha.pe pa_nil hs) hbase hfew hline hs hplain) hsw).imp fun Dn σ H ⟨ρ, Hf, R, q⟩ => ?_⟩
  unfold sApp onLst at q
  split at q
  · rename_i xs e
    simp only at q
    obtain ⟨v, es, io⟩ := R.own i _ (ha.le i o) e
    obtain ⟨p, ys, rfl, z0, zf, qH, r⟩ := io
    refine ⟨_, es, .inl ⟨rfl, ys, SqL.of qH⟩, ρ, Hf, R, ?_⟩
    refine tG.toS q fun d F1 H1 s1 s2 R1 k v hv => ?_
    obtain ⟨v', es', io'⟩ := R1.own i _ o e
    rw [es] at es'
    obtain rfl : V.ref p = v' := Option.some.inj (Option.some.inj es')
    obtain ⟨p', ys', ep, z0', zf', qH', r'⟩ := io'
    obtain rfl : p = p' := V.ref.inj ep
    by_cases l : xs.length < sizeLine
    · rw [chkS_pos l] at k
      refine ⟨p, ys', v, rfl, rfl, qH', by rw [r'.len]; exact l, ?_⟩
      exact k σ F1 _ (R1.wr o e rfl es z0' zf' ⟨p, _, rfl, z0', zf', upd_same, r'.snoc hv⟩)
    · rw [chkS_neg l] at k; exact k.elim
  · exact q.elim
def sPar (i j : Nat) (a b : Env → Out D) : Env → SO := fun ρ => oS (a ρ) fun x => oS (b ρ) fun y => .nx ((ρ.set i (some x)).set j (some y))
theorem psx_par {i j : Nat} {x y : Str} {a b : Expr} {fa fb : Env → Out D} {px py pt : Pos} {kt k2 pt2} (hc : X.calm = true) (hN : X.N.Nodup) (hi : X.N[i]? = some x) (hj : X.N[j]? = some y) (hij : i ≠ j)
    (hx : X.env.scope.names.lookup x = some .local) (hy : X.env.scope.names.lookup y = some .local) (ha : PX X g E Γ a Γ1 .fr fa) (hb : PX X g E Γ1 b Γ2 .fr fb)
    (h1 : starEach [a, b] X.env = (false, eval a X.env) :: starEach [b] X.env := by rfl) (h2 : starEach [b] X.env = (false, eval b X.env) :: starEach [] X.env := by rfl)
    (hw : swappedStores [.Tuple [.Name x px, .Name y py] kt pt] (.Tuple [a, b] k2 pt2) X.env = pure (some [x, y]) := by rfl)
    (hs : swapsWithSole [.Tuple [.Name x px, .Name y py] kt pt] (.Tuple [a, b] k2 pt2) pos.line X.env = pure false := by rfl)
    (ns : NS g i := by first | exact .inr rfl | exact .inr (by assumption) | exact .inl (by decide)) (nt : NS g j := by first | exact .inr rfl | exact .inr (by assumption) | exact .inl (by decide)) :
    PSx X g E ro Γl Γ (.Assign [.Tuple [.Name x px, .Name y py] kt pt] (.Tuple [a, b] k2 pt2) pos) ((Γ2.set i false).set j false) (sPar i j fa fb) := by
  refine ⟨(ps_par hc hN hi hj hij hx hy (pa_cons ha.pe (pa_cons hb.pe pa_nil h2) h1) hw hs).imp fun Dn σ H ⟨ρ, Hf, R, q⟩ => ⟨ρ, Hf, R, ?_⟩⟩
  unfold sPar at q
  cases hfa : fa ρ with
  | ok d1 =>
    rw [hfa] at q
    intro F1 H1 s1 s2 R1 v hv
    refine ⟨ρ, F1, R1, ?_⟩
    refine tG.toS q fun d2 F2 H2 s3 s4 R2 k u hu => ?_
    exact ⟨v, u, rfl, k _ F2 H2 ((R2.setF ns (IsD.mono s3 hv)).setF nt hu)⟩
  | exc x => rw [hfa] at q; exact fun c dd F1 H1 s1 s2 R1 ix => q c dd σ F1 H1 R1.same R1.ent R1.ent2 R1.news ix
  | stuck => rw [hfa] at q; exact q.elim
noncomputable def rng3 : List D → Out (List D)
  | [.int i, .int j, .int c] => chk (RgC i j c (Builtin.Range.rangeSize i j c).toNat) (.ok ((List.range (Builtin.Range.rangeSize i j c).toNat).map fun (n : Nat) => .int (i + n * c)))
  | _ => .stuck
noncomputable def iRange3 (f : Env → Out (List D)) : Env → Out (List D) := fun ρ => (f ρ).bind rng3
end
def eL (i : Nat) : Env → Out (List D) := fun ρ => match ρ[i]? with
  | some (some (.lst xs)) => .ok xs
  | _ => .stuck
theorem eL_0 (xs : List D) (ρ : Env) : eL 0 (some (.lst xs) :: ρ) = .ok xs := rfl
theorem eL_s (i : Nat) (x : Option D) (ρ : Env) : eL (i + 1) (x :: ρ) = eL i ρ := by simp [eL]
theorem onLst_ap (i : Nat) (f : Env → Out D) (k : List D → D → Env → SO) (ρ : Env) : onLst i f k ρ = oS (eL i ρ) fun xs => oS (f ρ) fun d => k xs d ρ := by
  unfold onLst eL
  split
  · rename_i xs e
    simp only [oS_ok]
  · rfl
theorem sApp_ap (i : Nat) (f : Env → Out D) (ρ : Env) : sApp i f ρ = oS (eL i ρ) fun xs => oS (f ρ) fun d => chkS (xs.length < sizeLine) (.nx (ρ.set i (some (.lst (xs ++ [d]))))) := onLst_ap i f _ ρ
theorem sPar_ap (i j : Nat) (a b : Env → Out D) (ρ : Env) : sPar i j a b ρ = oS (a ρ) fun x => oS (b ρ) fun y => .nx ((ρ.set i (some x)).set j (some y)) := rfl
theorem iRange3_ap (f : Env → Out (List D)) (ρ : Env) : iRange3 f ρ = (f ρ).bind rng3 := rfl
theorem app_ok {n : Nat} (h : n < 16777216) (o : SO) : chkS (n < sizeLine) o = o := chkS_pos h
theorem gT_lst (gs : List (D → Env → Out Env)) (ds : List D) (ρ : Env) : gT gs (.lst ds) ρ = if ds.length = gs.length then (gs.zip ds).foldl (fun o p => o.bind (p.1 p.2)) (.ok ρ) else .stuck := rfl
end PD

namespace PD
open PySem PySem.Spec L2
open PyProof.Rows hiding St

structure POx (X : Cx) (g : G) (E : WX) (Γ : List Bool) (e : Option Expr) (Γ' : List Bool) (f : Env → Out (Option Int)) : Prop where
  le : Le Γ' Γ
  po : PO X e (fun σ H Q => ∃ ρ Hf, Rp X.K X.mw g Γ ρ σ Hf H ∧ tG X.K X.mw g E Γ' ρ σ Hf H (fun o _ H' => Q o H') (f ρ))
theorem _root_.L2.PO.imp {X : Cx} {e : Option Expr} {t t' : TO} (h : PO X e t) (w : ∀ σ H Q, t' σ H Q → t σ H Q) : PO X e t' :=
  ⟨fun pins s σ H Q I q => h.run pins s σ H Q I (w σ H Q q)⟩
def oN : Env → Out (Option Int) := fun _ => .ok none
def oI (f : Env → Out D) : Env → Out (Option Int) := fun ρ => (f ρ).bind fun d => match d with
  | .int i => .ok (some i)
  | _ => .stuck
def cutD {α : Type} (xs : List α) (lo hi : Option Int) : List α := (xs.drop (HT.sIx xs.length 0 lo)).take (HT.sIx xs.length xs.length hi - HT.sIx xs.length 0 lo)
noncomputable def dSl : D → Option Int → Option Int → Out D
  | .lst ds, lo, hi => .ok (.lst (cutD ds lo hi))
  | .tup ds, lo, hi => .ok (.tup (cutD ds lo hi))
  | .scr ns, lo, hi => .ok (.lst ((cutD ns lo hi).map .int))
  | .str z, lo, hi => chk (z.length ≤ sizeLine) (.ok (.str (cutS z lo hi)))
  | _, _, _ => .stuck
noncomputable def eSl (f : Env → Out D) (lo hi : Env → Out (Option Int)) : Env → Out D := fun ρ => (f ρ).bind fun x => (lo ρ).bind fun l => (hi ρ).bind fun u => dSl x l u
def pickL {α : Type} (xs : List α) (lo hi st : Option Int) : List α := (sliceRange (sliceBounds lo hi st xs.length).1 (sliceBounds lo hi st xs.length).2.1 (sliceBounds lo hi st xs.length).2.2).filterMap fun i => xs[i]?
noncomputable def dSlSt : D → Option Int → Option Int → Option Int → Out D
  | .lst ds, lo, hi, st => chk (st ≠ some 0) (.ok (.lst (pickL ds lo hi st)))
  | _, _, _, _ => .stuck
noncomputable def eSlSt (f : Env → Out D) (lo hi st : Env → Out (Option Int)) : Env → Out D := fun ρ => (f ρ).bind fun x => (lo ρ).bind fun l => (hi ρ).bind fun u => (st ρ).bind fun s => dSlSt x l u s
section
variable {K : PySem.W.Frag} {mg : Mg} {H : Hp}
theorem IsDs.drop : ∀ (n : Nat) {ds : List D} {vs : List V}, IsDs K mg H ds vs → IsDs K mg H (ds.drop n) (vs.drop n)
  | 0, _, _, h => h
  | n + 1, [], _, h => by simp only [IsDs] at h; subst h; simp [IsDs]
  | n + 1, d :: ds, _, h => by
    simp only [IsDs] at h
    obtain ⟨v, vs, rfl, q, r⟩ := h
    exact IsDs.drop n r
theorem IsDs.take : ∀ (n : Nat) {ds : List D} {vs : List V}, IsDs K mg H ds vs → IsDs K mg H (ds.take n) (vs.take n)
  | 0, _, _, h => by simp [IsDs]
  | n + 1, [], _, h => by simp only [IsDs] at h; subst h; simp [IsDs]
  | n + 1, d :: ds, _, h => by
    simp only [IsDs] at h
    obtain ⟨v, vs, rfl, q, r⟩ := h
    rw [List.take_succ_cons, List.take_succ_cons]
    simp only [IsDs]
    exact ⟨v, _, rfl, q, IsDs.take n r⟩
theorem IsDs.cut {ds : List D} {vs : List V} (h : IsDs K mg H ds vs) (lo hi : Option Int) : IsDs K mg H (cutD ds lo hi) (cutV vs lo hi) := by
  unfold cutD cutV
  rw [h.len]
  exact IsDs.take _ (IsDs.drop _ h)
theorem IsDs.pickI {ds : List D} {vs : List V} (h : IsDs K mg H ds vs) : ∀ is : List Nat, IsDs K mg H (is.filterMap fun i => ds[i]?) (is.filterMap fun i => vs[i]?)
  | [] => by simp [IsDs]
  | i :: is => by
    rw [List.filterMap_cons, List.filterMap_cons]
    cases e : ds[i]? with
    | none =>
      have e2 : vs[i]? = none := by
        rw [List.getElem?_eq_none_iff] at e ⊢
        rw [h.len]; exact e
      rw [e2]
      exact IsDs.pickI h is
    | some d =>
      obtain ⟨v, ev, q⟩ := h.at e
      rw [ev]
      simp only [IsDs]
      exact ⟨v, _, rfl, q, IsDs.pickI h is⟩
theorem IsDs.pick {ds : List D} {vs : List V} (h : IsDs K mg H ds vs) (lo hi st : Option Int) : IsDs K mg H (pickL ds lo hi st) (pickL vs lo hi st) := by
  unfold pickL
  rw [h.len]
  exact IsDs.pickI h _
end
section
variable {X : Cx} {g : G} {E : WX} {Γ Γ1 Γ2 Γ3 Γ4 : List Bool} {m : Md} {pos p2 : Pos} {a : Expr} {lo hi st : Option Expr} {fa : Env → Out D} {fl fu fs : Env → Out (Option Int)}
theorem pox_none : POx X g E Γ none Γ oN := by
  refine ⟨Le.refl _, po_none.imp fun σ H Q ⟨ρ, Hf, R, k⟩ => ?_⟩
  exact k Hf H (Same.refl _) (Same.refl _) R
theorem pox_some (h : PX X g E Γ a Γ1 .rd fa) : POx X g E Γ (some a) Γ1 (oI fa) := by
  refine ⟨h.le, (po_some h.pe).imp fun σ H Q ⟨ρ, Hf, R, k⟩ => ⟨ρ, Hf, R, ?_⟩⟩
  refine tG.bind (Le.refl _) k fun x F1 H1 s1 s2 R1 k1 v hv => ?_
  cases x with
  | int i =>
    simp only [Res, IsR, IsD] at hv
    exact ⟨i, hv, k1 F1 H1 (Same.refl _) (Same.refl _) R1⟩
  | _ => exact k1.elim
theorem px_slice (ha : PX X g E Γ a Γ1 .rd fa) (hl : POx X g E Γ1 lo Γ2 fl) (hu : POx X g E Γ2 hi Γ3 fu) : PX X g E Γ (.Subscript a (.Slice lo hi none p2) pos) Γ3 m (eSl fa fl fu) := by
  refine ⟨hu.le.trans (hl.le.trans ha.le), (pe_slice (sl_list.or (sl_tupF.or sl_str)) ha.pe hl.po hu.po).imp fun σ H Q ⟨ρ, Hf, R, k⟩ => ⟨ρ, Hf, R, ?_⟩⟩
  refine tG.bind (hu.le.trans hl.le) k fun x F1 H1 s1 s2 R1 k1 v hv => ⟨ρ, F1, R1, ?_⟩
  refine tG.bind hu.le k1 fun l F2 H2 s3 s4 R2 k2 => ⟨ρ, F2, R2, ?_⟩
  refine tG.bind (Le.refl _) k2 fun u F3 H3 s5 s6 R3 k3 => ?_
  replace hv := IsR.mono (s3.trans s5) (s4.trans s6) hv
  unfold dSl at k3
  split at k3
  · rename_i _ _ ds
    obtain ⟨p, xs, rfl, q, r⟩ := hv
    exact .inl ⟨p, xs, rfl, .of q, fun p n => pv_lst R3 (r.cut _ _) n k3⟩
  · rename_i _ _ ds
    have hv' := hv
    simp only [IsR, IsD] at hv
    obtain ⟨p, xs, rfl, q, r⟩ := hv
    refine .inr (.inl ⟨p, xs, rfl, (Same.seqT R3.same q).l, fun w => ?_, fun _ p o hd n => pv_tup hd R3 (r.cut _ _) n k3⟩)
    have e : cutD ds l u = ds := by
      unfold cutD
      rw [← r.len, w.1, w.2, List.drop_zero, Nat.sub_zero, List.take_of_length_le (by rw [r.len]; exact Nat.le_refl _)]
    rw [e] at k3
    exact k3 F3 H3 (Same.refl _) (Same.refl _) R3 _ (Res.dat R3.same rfl hv')
  · rename_i _ _ ns
    simp only [IsR, IsD] at hv
    obtain ⟨p, rfl, q⟩ := hv
    refine .inl ⟨p, _, rfl, R3.same.seq q, fun p n => pv_lst R3 ?_ n k3⟩
    have e : cutV (ns.map V.int) l u = (cutD ns l u).map V.int := by
      unfold cutV cutD
      rw [List.length_map, List.map_take, List.map_drop]
    rw [e]
    exact IsDs.ints _
  · rename_i _ _ z
    simp only [IsR, IsD] at hv
    by_cases c : z.length ≤ sizeLine
    · rw [chk_pos c] at k3
      exact .inr (.inr ⟨z, hv, c, k3 F3 H3 (Same.refl _) (Same.refl _) R3 _ (Res.dat R3.same rfl (by simp only [IsD]))⟩)
    · rw [chk_neg c] at k3; exact k3.elim
  · exact k3.elim
def cList : List D → Out D
  | [.lst ds] => .ok (.lst ds)
  | [.tup ds] => .ok (.lst ds)
  | [.scr ns] => .ok (.lst (ns.map .int))
  | _ => .stuck
theorem ca_list : CaD X (.type "list") m cList := by
  refine ⟨_, call_list_of, fun g E Γ ρ σ Hf H ds vs Q R h k => ?_⟩
  unfold cList at k
  split at k
  · obtain ⟨v, rfl, p, xs, rfl, q, r⟩ := h.one
    exact ⟨p, xs, rfl, .inl (.of q), fun l n => pv_lst R r n k⟩
  · obtain ⟨v, rfl, z⟩ := h.one
    simp only [IsR, IsD] at z
    obtain ⟨p, xs, rfl, q, r⟩ := z
    exact ⟨p, xs, rfl, .inr (Same.seqT R.same q).l, fun l n => pv_lst R r n k⟩
  · obtain ⟨v, rfl, z⟩ := h.one
    simp only [IsR, IsD] at z
    obtain ⟨p, rfl, q⟩ := z
    exact ⟨p, _, rfl, .inl (R.same.seq q), fun l n => pv_lst R (IsDs.ints _) n k⟩
  · exact k.elim
def cTuple : List D → Out D
  | [.lst ds] => .ok (.tup ds)
  | [.tup ds] => .ok (.tup ds)
  | [.scr ns] => .ok (.tup (ns.map .int))
  | _ => .stuck
theorem ca_tuple : CaD X (.type "tuple") m cTuple := by
  refine ⟨_, call_tupleF, fun g E Γ ρ σ Hf H ds vs Q R h k => ?_⟩
  unfold cTuple at k
  split at k
  · obtain ⟨v, rfl, p, xs, rfl, q, r⟩ := h.one
    exact ⟨p, xs, rfl, .inl ⟨.of q, fun l o hd n => pv_tup hd R r n k⟩⟩
  · obtain ⟨v, rfl, z'⟩ := h.one
    have z := z'
    simp only [IsR, IsD] at z
    obtain ⟨p, xs, rfl, q, r⟩ := z
    exact ⟨p, xs, rfl, .inr ⟨(Same.seqT R.same q).l, k Hf H (Same.refl _) (Same.refl _) R _ (Res.dat R.same rfl z')⟩⟩
  · obtain ⟨v, rfl, z⟩ := h.one
    simp only [IsR, IsD] at z
    obtain ⟨p, rfl, q⟩ := z
    exact ⟨p, _, rfl, .inl ⟨R.same.seq q, fun l o hd n => pv_tup hd R (IsDs.ints _) n k⟩⟩
  · exact k.elim
def eS2 (F : Str → Str → D) (fa fb : Env → Out D) : Env → Out D := fun ρ => (fa ρ).bind fun x => match x with
  | .str a => (fb ρ).bind fun y => match y with
    | .str b => .ok (F a b)
    | _ => .stuck
  | _ => .stuck
theorem px_find {b : Expr} {fb : Env → Out D} {apos : Pos} (ha : PX X g E Γ a Γ1 .rd fa) (hb : PX X g E Γ1 b Γ2 .rd fb) (hs : starEach [b] X.env = [(false, eval b X.env)] := by rfl)
    (hbase : attributeBase a "find" X.env (eval a X.env) = eval a X.env := by rfl) (hline : (apos.endLine == pos.line) = true := by rfl) : PX X g E Γ (.Call (.Attribute a "find" apos) [b] [] pos) Γ2 m (eS2 (fun a b => .int (Txt.find a b)) fa fb) := by
  refine ⟨hb.le.trans ha.le, (pe_m1 PySem.F.slot_str_find PySem.F.type_str_find mt_find ha.pe hb.pe hs hbase hline).imp fun σ H Q ⟨ρ, Hf, R, k⟩ => ⟨ρ, Hf, R, ?_⟩⟩
  refine tG.bind hb.le k fun x F1 H1 s1 s2 R1 k1 v hv => ?_
  cases x with
  | str z =>
    simp only [Res, IsR, IsD] at hv
    refine ⟨⟨z, hv⟩, ρ, F1, R1, ?_⟩
    refine tG.bind (Le.refl _) k1 fun y F2 H2 s3 s4 R2 k2 u hu => ?_
    cases y with
    | str w =>
      simp only [Res, IsR, IsD] at hu
      exact ⟨z, w, hv, by rw [hu], k2 F2 H2 (Same.refl _) (Same.refl _) R2 _ (Res.dat R2.same rfl (by simp only [IsD]))⟩
    | _ => exact k2.elim
  | _ => exact k1.elim
end
end PD

namespace PD
open PySem PySem.Spec L2
open PyProof.Rows hiding St

def wipeE (ρ : Env) : List Nat → Env
  | [] => ρ
  | v :: vs => (wipeE ρ vs).set v none
def Out.nox {α : Type} (o : Out α) : Out α := match o with
  | .exc _ => .stuck
  | o => o
@[simp] theorem nox_ok {α : Type} (a : α) : (Out.ok a).nox = .ok a := rfl
@[simp] theorem nox_stuck {α : Type} : (Out.stuck : Out α).nox = .stuck := rfl
@[simp] theorem nox_exc {α : Type} (x : Exn) : (Out.exc x : Out α).nox = .stuck := rfl
def lcL (G : D → Env → Out Env) (tt : Env → Out Bool) (f : Env → Out D) (ρ : Env) : List D → Out (List D)
  | [] => .ok []
  | d :: ds => (G d ρ).nox.bind fun ρ1 => (tt ρ1).nox.bind fun b => if b = true then (f ρ1).nox.bind fun y => (lcL G tt f ρ ds).bind fun ys => .ok (y :: ys) else lcL G tt f ρ ds
noncomputable def eLc (vs : List Nat) (G : D → Env → Out Env) (it : Env → Out (List D)) (tt : Env → Out Bool) (f : Env → Out D) : Env → Out D := fun ρ => (it ρ).bind fun ds => chk (ds.length ≤ sizeLine) ((lcL G tt f (wipeE ρ vs) ds).bind fun ys => .ok (.lst ys))
def bYes : Env → Out Bool := fun _ => .ok true
theorem lcL_nx {G : D → Env → Out Env} {tt : Env → Out Bool} {f : Env → Out D} {ρ : Env} : ∀ (ds : List D) (x : Exn), lcL G tt f ρ ds ≠ .exc x
  | [], x, h => by cases h
  | d :: ds, x, h => by
    unfold lcL at h
    cases hG : G d ρ with
    | exc y => rw [hG] at h; cases h
    | stuck => rw [hG] at h; cases h
    | ok ρ1 =>
      rw [hG] at h
      simp only [nox_ok, Out.bind_ok] at h
      cases ht : tt ρ1 with
      | exc y => rw [ht] at h; cases h
      | stuck => rw [ht] at h; cases h
      | ok b =>
        rw [ht] at h
        simp only [nox_ok, Out.bind_ok] at h
        cases b with
        | false => simp only [Bool.false_eq_true, if_false] at h; exact lcL_nx ds x h
        | true =>
          simp only [if_true] at h
          cases hf : f ρ1 with
          | exc y => rw [hf] at h; cases h
          | stuck => rw [hf] at h; cases h
          | ok y =>
            rw [hf] at h
            simp only [nox_ok, Out.bind_ok] at h
            cases hl : lcL G tt f ρ ds with
            | ok ys => rw [hl] at h; cases h
            | exc z => exact lcL_nx ds z hl
            | stuck => rw [hl] at h; cases h
theorem lcL_ok {G : D → Env → Out Env} {tt : Env → Out Bool} {f : Env → Out D} {ρ : Env} {d : D} {ds rest : List D} (h : lcL G tt f ρ (d :: ds) = .ok rest) :
    ∃ ρ1 b, G d ρ = .ok ρ1 ∧ tt ρ1 = .ok b ∧ ((b = true ∧ ∃ y ys, f ρ1 = .ok y ∧ lcL G tt f ρ ds = .ok ys ∧ rest = y :: ys) ∨ (b = false ∧ lcL G tt f ρ ds = .ok rest)) := by
  unfold lcL at h
  cases hG : G d ρ with
  | exc y => rw [hG] at h; cases h
  | stuck => rw [hG] at h; cases h
  | ok ρ1 =>
    rw [hG] at h
    simp only [nox_ok, Out.bind_ok] at h
    cases ht : tt ρ1 with
    | exc y => rw [ht] at h; cases h
    | stuck => rw [ht] at h; cases h
    | ok b =>
      rw [ht] at h
      simp only [nox_ok, Out.bind_ok] at h
      refine ⟨ρ1, b, rfl, ht, ?_⟩
      cases b with
      | false => simp only [Bool.false_eq_true, if_false] at h; exact .inr ⟨rfl, h⟩
      | true =>
        simp only [if_true] at h
        cases hf : f ρ1 with
        | exc y => rw [hf] at h; cases h
        | stuck => rw [hf] at h; cases h
        | ok y =>
          rw [hf] at h
          simp only [nox_ok, Out.bind_ok] at h
          cases hl : lcL G tt f ρ ds with
          | ok ys => rw [hl] at h; cases h; exact .inl ⟨rfl, y, ys, rfl, rfl, rfl⟩
          | exc z => rw [hl] at h; cases h
          | stuck => rw [hl] at h; cases h
theorem wipeE_at {ρ : Env} {i : Nat} {d : D} : ∀ {vs : List Nat}, (wipeE ρ vs)[i]? = some (some d) → ρ[i]? = some (some d) ∧ i ∉ vs
  | [], h => ⟨h, by simp⟩
  | v :: vs, h => by
    unfold wipeE at h
    by_cases hi : v = i
    · subst hi
      by_cases hv : v < (wipeE ρ vs).length
      · rw [List.getElem?_set_self hv] at h; cases h
      · rw [List.getElem?_eq_none (by simpa using hv)] at h; cases h
    · rw [List.getElem?_set_ne hi] at h
      obtain ⟨h1, h2⟩ := wipeE_at h
      exact ⟨h1, by simp only [List.mem_cons, not_or]; exact ⟨fun e => hi e.symm, h2⟩⟩
theorem wipeE_ne {ρ : Env} {i : Nat} : ∀ {vs : List Nat}, i ∉ vs → (wipeE ρ vs)[i]? = ρ[i]?
  | [], _ => rfl
  | v :: vs, h => by
    simp only [List.mem_cons, not_or] at h
    unfold wipeE
    rw [List.getElem?_set_ne (fun e => h.1 e.symm), wipeE_ne h.2]
theorem wipeE_len {ρ : Env} : ∀ vs : List Nat, (wipeE ρ vs).length = ρ.length
  | [] => rfl
  | v :: vs => by unfold wipeE; rw [List.length_set, wipeE_len vs]
theorem wipe_ne {σ : St} {i : Nat} : ∀ {vs : List Nat}, i ∉ vs → (wipe σ vs)[i]? = σ[i]?
  | [], _ => rfl
  | v :: vs, h => by
    simp only [List.mem_cons, not_or] at h
    unfold wipe
    rw [List.getElem?_set_ne (fun e => h.1 e.symm), wipe_ne h.2]
theorem wipe_in {σ σ' : St} (l : σ'.length = σ.length) {i : Nat} : ∀ {vs : List Nat}, i ∈ vs → (wipe σ' vs)[i]? = (wipe σ vs)[i]?
  | v :: vs, h => by
    unfold wipe
    by_cases e : v = i
    · subst e
      rw [List.getElem?_set, List.getElem?_set, if_pos rfl, if_pos rfl, wipe_length, wipe_length, l]
    · rw [List.getElem?_set_ne e, List.getElem?_set_ne e]
      rcases List.mem_cons.mp h with h | h
      · exact absurd h.symm e
      · exact wipe_in l h
theorem wipe_same {σ σ' : St} {vs : List Nat} (l : σ'.length = σ.length) (h : ∀ i, i ∉ vs → σ'[i]? = (wipe σ vs)[i]?) : wipe σ' vs = wipe σ vs := by
  refine List.ext_getElem? fun i => ?_
  by_cases m : i ∈ vs
  · exact wipe_in l m
  · rw [wipe_ne m, h i m]
section
variable {K : PySem.W.Frag} {mg : Mg} {g g' : G} {Γ : List Bool} {ρ ρ1 : Env} {σ σ2 : St} {Hf H Hf' H' : Hp} {vs : List Nat}
theorem Rp.wipe (R : Rp K mg g Γ ρ σ Hf H) (vs : List Nat) : Rp K mg ⟨g.H0, g.F0, none⟩ Γ (wipeE ρ vs) (L2.wipe σ vs) Hf H := by
  have s : ∀ {i d v}, (wipeE ρ vs)[i]? = some (some d) → σ[i]? = v → (L2.wipe σ vs)[i]? = v := fun {i d v} e e2 => by rw [wipe_ne (wipeE_at e).2]; exact e2
  have s' : ∀ {i v}, (L2.wipe σ vs)[i]? = some (some v) → σ[i]? = some (some v) := fun {i v} e => (wipe_some e).1
  refine ⟨R.same, R.ent, R.ent2, R.news, ⟨by rw [wipe_length, wipeE_len, R.len.1], fun a e => by cases e⟩, fun i d o e => ?_, fun i d o e => ?_, fun i j d e v n o1 o2 e1 e2 m1 m2 s1 s2 => ?_⟩
  · obtain ⟨v, ev, h⟩ := R.own i d o (wipeE_at e).1
    exact ⟨v, s e ev, h⟩
  · obtain ⟨v, ev, h⟩ := R.dat i d o (wipeE_at e).1
    exact ⟨v, s e ev, h⟩
  · exact R.sep i j d e v n o1 o2 (wipeE_at e1).1 (wipeE_at e2).1 m1 m2 (s' s1) (s' s2)
theorem Rp.unwipe (R : Rp K mg g Γ ρ σ Hf H) (R' : Rp K mg g' Γ ρ1 σ2 Hf' H') (s1 : Same Hf Hf') (s2 : Same H H') (ef : g'.F0 = Hf) (eh : ∀ a, g'.H0 a = none → g.H0 a = none) (a1 : ∀ i, i ∉ vs → ρ1[i]? = ρ[i]?) (a2 : ∀ i, i ∉ vs → σ2[i]? = σ[i]?)
    (no : ∀ i ∈ vs, ¬ Own Γ i) : Rp K mg g Γ ρ σ Hf' H' := by
  refine ⟨R'.same, R.ent.trans s2, R.ent2.trans s1, fun a o e => ?_, R.len, fun i d o e => ?_, fun i d o e => ?_, R.sep⟩
  · rcases R'.news a o e with z | z
    · rw [ef] at z; exact R.news a o z
    · exact .inr (eh a z)
  · have ni : i ∉ vs := fun z => no i z o
    obtain ⟨v, ev, h⟩ := R'.own i d o (by rw [a1 i ni]; exact e)
    rw [a2 i ni] at ev
    refine ⟨v, ev, ?_⟩
    cases d with
    | lst ds => obtain ⟨a, xs, e, z0, zf, q, r⟩ := h; exact ⟨a, xs, e, eh a z0, zf, q, r⟩
    | dic ds => obtain ⟨a, xs, e, z0, zf, q, r⟩ := h; exact ⟨a, xs, e, eh a z0, zf, q, r⟩
    | ins c ds => obtain ⟨a, xs, e, z0, zf, q, r⟩ := h; exact ⟨a, xs, e, eh a z0, zf, q, r⟩
    | _ => exact h
  · obtain ⟨v, ev, h⟩ := R.dat i d o e
    exact ⟨v, ev, h.mono s1⟩
theorem Rp.other (R : Rp K mg g Γ ρ σ Hf H) {a : Addr} {o' : HO} (z0 : g.H0 a = none) (zf : Hf a = none) (ap : ∀ i e, Own Γ i → ρ[i]? = some (some e) → e.mut = true → σ[i]? = some (some (.ref a)) → False) : Rp K mg g Γ ρ σ Hf (upd H a o') := by
  refine ⟨fun b x q => ?_, fun b x q => ?_, R.ent2, R.news, R.len, fun j e' ow ej => ?_, R.dat, R.sep⟩
  · rw [upd_ne (ne_of_none q zf)]; exact R.same _ _ q
  · rw [upd_ne (ne_of_none q z0)]; exact R.ent _ _ q
  · obtain ⟨v, ev, io⟩ := R.own j e' ow ej
    refine ⟨v, ev, ?_⟩
    cases e' with
    | lst ds => obtain ⟨b, xs, eb, w0, wf, q, r⟩ := io; exact ⟨b, xs, eb, w0, wf, by rw [upd_ne (fun z => by subst eb; subst z; exact ap j _ ow ej rfl ev)]; exact q, r⟩
    | dic ds => obtain ⟨b, xs, eb, w0, wf, q, r⟩ := io; exact ⟨b, xs, eb, w0, wf, by rw [upd_ne (fun z => by subst eb; subst z; exact ap j _ ow ej rfl ev)]; exact q, r⟩
    | ins c ds => obtain ⟨b, xs, eb, w0, wf, q, r⟩ := io; exact ⟨b, xs, eb, w0, wf, by rw [upd_ne (fun z => by subst eb; subst z; exact ap j _ ow ej rfl ev)]; exact q, r⟩
    | _ => exact io
theorem Rp.enter (R : Rp K mg g Γ ρ σ Hf H) {a : Addr} {o : HO} (z0 : g.H0 a = none) (e : H a = some o) (ap : ∀ i e, Own Γ i → ρ[i]? = some (some e) → e.mut = true → σ[i]? = some (some (.ref a)) → False) : Rp K mg ⟨upd g.H0 a o, Hf, none⟩ Γ ρ σ Hf H := by
  refine ⟨R.same, fun b x q => ?_, Same.refl _, fun b x q => .inl q, ⟨R.len.1, fun b e => by cases e⟩, fun j e' ow ej => ?_, R.dat, R.sep⟩
  · by_cases h : b = a
    · subst h
      have q' : upd g.H0 b o b = some x := q
      rw [upd_same] at q'
      rw [e, q']
    · have q' : upd g.H0 a o b = some x := q
      rw [upd_ne h] at q'
      exact R.ent _ _ q'
  · obtain ⟨v, ev, io⟩ := R.own j e' ow ej
    refine ⟨v, ev, ?_⟩
    cases e' with
    | lst ds => obtain ⟨b, xs, eb, w0, wf, q, r⟩ := io; exact ⟨b, xs, eb, (upd_ne (fun z => by subst eb; subst z; exact ap j _ ow ej rfl ev)).trans w0, wf, q, r⟩
    | dic ds => obtain ⟨b, xs, eb, w0, wf, q, r⟩ := io; exact ⟨b, xs, eb, (upd_ne (fun z => by subst eb; subst z; exact ap j _ ow ej rfl ev)).trans w0, wf, q, r⟩
    | ins c ds => obtain ⟨b, xs, eb, w0, wf, q, r⟩ := io; exact ⟨b, xs, eb, (upd_ne (fun z => by subst eb; subst z; exact ap j _ ow ej rfl ev)).trans w0, wf, q, r⟩
    | _ => exact io
end
structure PTsx (X : Cx) (g : G) (E : WX) (Γ : List Bool) (e : List Expr) (Γ' : List Bool) (f : Env → Out Bool) : Prop where
  le : Le Γ' Γ
  pe : PTs X e (fun σ H Q => ∃ ρ Hf, Rp X.K X.mw g Γ ρ σ Hf H ∧ tG X.K X.mw g E Γ' ρ σ Hf H (fun b _ H' => Q b H') (f ρ))
theorem _root_.L2.PTs.imp {X : Cx} {e : List Expr} {t t' : TT} (h : PTs X e t) (w : ∀ σ H Q, t' σ H Q → t σ H Q) : PTs X e t' :=
  ⟨fun pins s σ H Q I q => h.run pins s σ H Q I (w σ H Q q)⟩
abbrev E0 : WX := fun _ _ _ _ => False
section
variable {X : Cx} {g : G} {E : WX} {Γ Γ1 Γ2 : List Bool} {pos : Pos}
theorem ptsx_nil : PTsx X g E Γ [] Γ bYes := by
  refine ⟨Le.refl _, pts_nil.imp fun σ H Q ⟨ρ, Hf, R, k⟩ => ?_⟩
  exact k Hf H (Same.refl _) (Same.refl _) R
theorem ptsx_one {c : Expr} {f : Env → Out Bool} (h : PTx X g E Γ c Γ1 f) : PTsx X g E Γ [c] Γ1 f := ⟨h.le, pts_one h.pe⟩
abbrev hG (X : Cx) (Γ2 : List Bool) (G' : D → Env → Out Env) (ws : List Nat) : TG := fun v σ H Q => ∃ (g : G), ∃ d ρ Hf, Rp X.K X.mw g Γ2 ρ σ Hf H ∧ IsD X.K X.mw Hf d v ∧ ∃ ρ', G' d ρ = .ok ρ' ∧ ∀ σ', (∀ i, i ∉ ws → σ'[i]? = σ[i]?) → Rp X.K X.mw g Γ2 ρ' σ' Hf H → Q σ' H
abbrev hT (X : Cx) (Γ2 : List Bool) (tt : Env → Out Bool) : TT := fun σ H Q => ∃ (g : G), ∃ ρ Hf, Rp X.K X.mw g Γ2 ρ σ Hf H ∧ tG X.K X.mw g E0 Γ2 ρ σ Hf H (fun b _ H' => Q b H') (tt ρ)
abbrev hE (X : Cx) (Γ2 : List Bool) (f : Env → Out D) : TE := fun σ H Q => ∃ (g : G), ∃ ρ Hf, Rp X.K X.mw g Γ2 ρ σ Hf H ∧ tG X.K X.mw g E0 Γ2 ρ σ Hf H (PV X g Γ2 ρ σ .fr Q) (f ρ)
theorem lc_read {tg iter : Expr} {vs : List Nat} {it : Env → Out (List D)} {G' : D → Env → Out Env} {tt : Env → Out Bool} {f : Env → Out D} {ws : List Nat} (le : Le Γ2 Γ1) (no : ∀ i ∈ vs, ¬ Own Γ2 i) (hws : ∀ i ∈ ws, i ∈ vs)
    (AG : ∀ d ρ ρ', G' d ρ = .ok ρ' → (∀ i, i ∉ ws → ρ'[i]? = ρ[i]?) ∧ ρ'.length = ρ.length) {σ : St} {H : Hp} {Q : VK} {ρ : Env} {Hf : Hp} (R : Rp X.K X.mw g Γ ρ σ Hf H) {P : Env → St → Hp → Prop} (hP : P ρ σ Hf)
    (q : tG X.K X.mw g E Γ2 ρ σ Hf H (PV X g Γ2 ρ σ .ow Q) (eLc vs G' it tt f ρ)) :
    tLc (fun σ H R => ∃ ρ Hf, Rp X.K X.mw g Γ ρ σ Hf H ∧ P ρ σ Hf ∧ tG X.K X.mw g E Γ1 ρ σ Hf H (fun ds Hf' H' => ∀ J, Walks X.K X.mw g.H0 J Hf' ds → R J H') (it ρ)) (hG X Γ2 G' ws) (hT X Γ2 tt) (hE X Γ2 f) vs σ H Q := by
  refine ⟨ρ, Hf, R, hP, ?_⟩
  refine tG.bind le q fun ds F1 H1 s1 s2 R1 k J wk D nD => ?_
  refine (Classical.em (ds.length ≤ sizeLine)).elim (fun hz => ?_) (fun hz => by rw [chk_neg hz] at k; exact k.elim)
  rw [chk_pos hz] at k
  cases hl : lcL G' tt f (wipeE ρ (vs)) ds with
  | exc x => exact absurd hl (lcL_nx ds x)
  | stuck => rw [hl] at k; exact k.elim
  | ok total =>
  rw [hl] at k
  simp only [Out.bind_ok] at k
  obtain ⟨F2, s3, R2, _⟩ := R1.frz le
  have zf : F2 D = none := R2.same.free nD
  obtain ⟨t2, R3, n0, nf, ap⟩ := R2.newO (.lst []) nD
  refine ⟨fun i m H => m = ds.length - i ∧ i ≤ ds.length ∧ ∃ (acc : List V) (accD : List PD.D) (Hf : Hp) (rest : List PD.D), H D = some (.lst acc) ∧ IsDs X.K X.mw Hf accD acc ∧ Hf D = none ∧ lcL G' tt f (wipeE ρ (vs)) (ds.drop i) = .ok rest ∧ accD ++ rest = total ∧
      accD.length ≤ i ∧ Same F2 Hf ∧ Same H1 H ∧ Rp X.K X.mw g Γ2 ρ σ Hf H, ⟨ds.length, by simp, Nat.zero_le _, [], [], F2, total, upd_same, by simp only [IsDs], zf, hl, rfl, Nat.zero_le _, Same.refl _, t2, R3⟩, ?_⟩
  rintro i m H ⟨rfl, hi', acc, accD, Hf, rest, eD, ia, fD, er, et, la, sF, sH, RR⟩
  have RE := RR.enter n0 eD ap
  by_cases hlt : i < ds.length
  · have ed : ds[i]? = some ds[i] := by simp [hlt]
    have hd : ds.drop i = ds[i] :: ds.drop (i + 1) := List.drop_eq_getElem_cons hlt
    rw [hd] at er
    obtain ⟨ρ1, b, e1, e2, e3⟩ := lcL_ok er
    obtain ⟨go, yl⟩ := (wk _ Γ2 ρ σ Hf H (s3.trans sF) RE i).1 _ ed
    refine .inr ⟨go, fun H' => ∃ (acc : List V) (accD : List PD.D) (Hf : Hp) (rest : List PD.D), H' D = some (.lst acc) ∧ IsDs X.K X.mw Hf accD acc ∧ Hf D = none ∧ lcL G' tt f (wipeE ρ (vs)) (ds.drop (i + 1)) = .ok rest ∧ accD ++ rest = total ∧
      accD.length ≤ i + 1 ∧ Same F2 Hf ∧ Same H1 H' ∧ Rp X.K X.mw g Γ2 ρ σ Hf H', fun H' z => ⟨ds.length - (i + 1), by omega, rfl, hlt, z⟩, fun x H' y => ?_⟩
    obtain ⟨Hf3, s4, s5, R4, hx⟩ := yl x H' y
    refine ⟨_, ds[i], _, Hf3, R4.wipe (vs), hx, ρ1, e1, fun σ2 a2 R5 => ?_⟩
    have hlen : σ2.length = (L2.wipe σ (vs)).length := by
      rw [R5.len.1, (R4.wipe (vs)).len.1, (AG _ _ _ e1).2]
    have ag1 : ∀ j, j ∉ vs → ρ1[j]? = ρ[j]? := fun j nj => by
      rw [(AG _ _ _ e1).1 j fun z => nj (hws j z), wipeE_ne nj]
    have ag2 : ∀ j, j ∉ vs → σ2[j]? = σ[j]? := fun j nj => by
      rw [a2 j fun z => nj (hws j z), wipe_ne nj]
    refine ⟨wipe_same (by rw [hlen, wipe_length]) fun j nj => by rw [ag2 j nj, wipe_ne nj], _, ρ1, Hf3, R5, ?_⟩
    rw [e2]
    intro Hf4 H4 s6 s7 R6
    have back : ∀ {Hf5 H5 : Hp}, Same Hf3 Hf5 → Same H' H5 → Rp X.K X.mw ⟨upd g.H0 D (.lst acc), Hf, none⟩ Γ2 ρ1 σ2 Hf5 H5 → Rp X.K X.mw g Γ2 ρ σ Hf5 H5 ∧ Hf5 D = none ∧ H5 D = some (.lst acc) := fun {Hf5 H5} u1 u2 R7 => by
      refine ⟨RR.unwipe R7 (s4.trans u1) (s5.trans u2) rfl (fun c zc => ?_) ag1 ag2 no, ?_, R7.ent D _ upd_same⟩
      · by_cases h : c = D
        · subst h; exact n0
        · have zc' : upd g.H0 D (.lst acc) c = none := zc
          rw [upd_ne h] at zc'; exact zc'
      · cases h : Hf5 D with
        | none => rfl
        | some o =>
          rcases R7.news D o h with z | z
          · have z' : Hf D = some o := z
            rw [fD] at z'; cases z'
          · have z' : upd g.H0 D (.lst acc) D = none := z
            rw [upd_same] at z'; cases z'
    rcases e3 with ⟨rfl, yd, ys, e4, e5, e6⟩ | ⟨rfl, e4⟩
    · refine Eq.mpr (if_pos rfl) ?_
      refine ⟨_, ρ1, Hf4, R6, ?_⟩
      rw [e4]
      intro Hf5 H5 s8 s9 R7 yv hy
      obtain ⟨R8, f5, eD5⟩ := back (s6.trans s8) (s7.trans s9) R7
      have la2 : acc.length < sizeLine := by rw [ia.len]; omega
      refine ⟨acc, eD5, la2, acc ++ [yv], accD ++ [yd], Hf5, ys, upd_same, ?_, f5, e5, by rw [← et, e6]; simp, by simp; omega, sF.trans (s4.trans (s6.trans s8)), ?_, R8.other n0 f5 ap⟩
      · exact (IsDs.mono (s4.trans (s6.trans s8)) ia).snoc hy
      · intro c o ec
        rw [upd_ne (ne_of_none ec nD)]
        exact (sH.trans (s5.trans (s7.trans s9))) _ _ ec
    · obtain ⟨R8, f5, eD5⟩ := back s6 s7 R6
      refine Eq.mpr (if_neg Bool.false_ne_true) ?_
      exact ⟨acc, accD, Hf4, rest, eD5, IsDs.mono (s4.trans s6) ia, f5, e4, et, by omega, sF.trans (s4.trans s6), sH.trans (s5.trans s7), R8⟩
  · have e : i = ds.length := by omega
    subst e
    refine .inl ⟨(wk _ Γ2 ρ σ Hf H (s3.trans sF) RE _).2 (Nat.le_refl _), ?_⟩
    rw [List.drop_length] at er
    cases er
    rw [List.append_nil] at et
    subst et
    exact k Hf H (s3.trans sF) sH RR (.ref D) ⟨⟨D, acc, rfl, n0, fD, eD, ia⟩, fun i e ow e1 m _ e2 => ap i e ow e1 m e2⟩

theorem px_lc {elt tg iter : Expr} {ifs : List Expr} {scope : Scope} {own : List (Str × Nat)} {it : Env → Out (List D)} {G' : D → Env → Out Env} {tt : Env → Out Bool} {f : Env → Out D} {ws : List Nat}
    (hc : X.calm = true) (hN : X.N.Nodup) (hi : PIx X g E Γ tg iter Γ1 it) (le : Le Γ2 Γ1) (no : ∀ i ∈ own.map (·.2), ¬ Own Γ2 i) (ok : BlkOk X.N X.env.scope scope own)
    (hg : ∀ (g : G) (s : Shared) (H : Hp) (C : Addr) (cl : List (Str × Addr)) (fp : List Addr), PGx (X.blk s H scope (compEnvC scope cl C X.env) fp) g Γ2 tg Γ2 G' ws) (hws : ∀ i ∈ ws, i ∈ own.map (·.2))
    (ht : ∀ (g : G) (s : Shared) (H : Hp) (C : Addr) (cl : List (Str × Addr)) (fp : List Addr), PTsx (X.blk s H scope (compEnvC scope cl C X.env) fp) g E0 Γ2 ifs Γ2 tt)
    (he : ∀ (g : G) (s : Shared) (H : Hp) (C : Addr) (cl : List (Str × Addr)) (fp : List Addr), PX (X.blk s H scope (compEnvC scope cl C X.env) fp) g E0 Γ2 elt Γ2 .fr f) (hs : ∀ x, foldedSetIterable iter X.env x = pure x := by intro _; rfl) :
    PX X g E Γ (.ListComp elt [⟨tg, iter, ifs, 0⟩] scope pos) Γ2 .ow (eLc (own.map (·.2)) G' it tt f) := by
  have HG : ∀ (s : Shared) (H : Hp) (C : Addr) (cl : List (Str × Addr)) (fp : List Addr), PG (X.blk s H scope (compEnvC scope cl C X.env) fp) tg (hG X Γ2 G' ws) := fun s H C cl fp => ⟨fun pins s' σ H' v u Q I r ⟨g', z⟩ => (hg g' s H C cl fp).pg.run pins s' σ H' v u Q I r z⟩
  have HT : ∀ (s : Shared) (H : Hp) (C : Addr) (cl : List (Str × Addr)) (fp : List Addr), PTs (X.blk s H scope (compEnvC scope cl C X.env) fp) ifs (hT X Γ2 tt) := fun s H C cl fp => ⟨fun pins s' σ H' Q I ⟨g', z⟩ => (ht g' s H C cl fp).pe.run pins s' σ H' Q I z⟩
  have HE : ∀ (s : Shared) (H : Hp) (C : Addr) (cl : List (Str × Addr)) (fp : List Addr), PE (X.blk s H scope (compEnvC scope cl C X.env) fp) elt (hE X Γ2 f) := fun s H C cl fp => ⟨fun pins s' σ H' Q I ⟨g', z⟩ => (he g' s H C cl fp).pe.run pins s' σ H' Q I z⟩
  exact ⟨le.trans hi.le, (pe_lc hc hN (hi.pi.imp fun σ H R ⟨ρ, Hf, R, _, q⟩ => ⟨ρ, Hf, R, q⟩) ok HG HT HE hs).imp fun σ H Q ⟨ρ, Hf, R, q⟩ => lc_read (tg := tg) (iter := iter) le no hws (hg g ⟨{}, #[], {}, 0, {}⟩ (fun _ => none) 0 [] []).ag R (P := fun _ _ _ => True) trivial q⟩
theorem takes_no : Takes X E0 := fun u s' ⟨_, _, _, _, _, _, _, _, _, _, _, _, _, _, _, _, w⟩ => w.elim
end
end PD

namespace PD
open PySem PySem.Spec L2
open PyProof.Rows hiding St

open Classical in
noncomputable def dicGet (kvs : List (D × D)) (k : D) : Option D := (kvs.find? fun p => decide (p.1 = k)).map (·.2)
open Classical in
noncomputable def dicPut (kvs : List (D × D)) (k v : D) : List (D × D) := if (kvs.any fun p => decide (p.1 = k)) = true then kvs.map (fun p => if p.1 = k then (p.1, v) else p) else kvs ++ [(k, v)]
open Classical in
noncomputable def dicDrop (kvs : List (D × D)) (k : D) : List (D × D) := kvs.filter fun p => decide (p.1 ≠ k)
def flatK : D → Bool
  | .int _ => true
  | .str _ => true
  | _ => false
def DKey (kvs : List (D × D)) (k : D) : Prop := (flatK k = true ∧ ∀ p ∈ kvs, flatK p.1 = true) ∨ (TKey (toPy k) ∧ ∀ p ∈ kvs, TKey (toPy p.1))
theorem dicGet_pos {p : D × D} {r : List (D × D)} {k : D} (e : p.1 = k) : dicGet (p :: r) k = some p.2 := by simp [dicGet, List.find?_cons, e]
theorem dicGet_neg {p : D × D} {r : List (D × D)} {k : D} (e : ¬ p.1 = k) : dicGet (p :: r) k = dicGet r k := by simp [dicGet, List.find?_cons, e]
open Classical in
theorem dicGet_any (k : D) : ∀ kvs : List (D × D), (kvs.any fun p => decide (p.1 = k)) = (dicGet kvs k).isSome
  | [] => rfl
  | p :: r => by
    rw [List.any_cons]
    by_cases e : p.1 = k
    · rw [dicGet_pos e, decide_eq_true e]; rfl
    · rw [dicGet_neg e, decide_eq_false e, dicGet_any k r]; rfl
noncomputable def valT (zs : List (PyData × Addr × V)) (k : PyData) : Option V := (zs.find? fun z => decide (z.1 = k)).map (·.2.2)
theorem valT_pos {p : PyData × Addr × V} {r : List (PyData × Addr × V)} {k : PyData} (e : p.1 = k) : valT (p :: r) k = some p.2.2 := by simp [valT, List.find?_cons, e]
theorem valT_neg {p : PyData × Addr × V} {r : List (PyData × Addr × V)} {k : PyData} (e : ¬ p.1 = k) : valT (p :: r) k = valT r k := by simp [valT, List.find?_cons, e]
noncomputable def putT (zs : List (PyData × Addr × V)) (k : PyData) (b : Addr) (v : V) : List (PyData × Addr × V) := if (valT zs k).isSome = true then zs.map (fun z => if z.1 = k then (z.1, z.2.1, v) else z) else zs ++ [(k, b, v)]
mutual
theorem toPy_inj : ∀ (k k' : D), keyP (toPy k) = true → toPy k = toPy k' → k = k'
  | .int i, k', _, e => by cases k' <;> simp [toPy] at e; rw [e]
  | .str i, k', _, e => by cases k' <;> simp [toPy] at e; rw [e]
  | .tup ds, k', h, e => by
    cases k' with
    | tup es =>
      simp only [toPy, PyData.tuple.injEq] at e
      simp only [toPy, keyP] at h
      rw [toPys_inj ds es h e]
    | _ => simp [toPy] at e
  | .non, _, h, _ => by simp [toPy, keyP] at h
  | .bl _, _, h, _ => by simp [toPy, keyP] at h
  | .ty _, _, h, _ => by simp [toPy, keyP] at h
  | .scr _, _, h, _ => by simp [toPy, keyP] at h
  | .lst _, _, h, _ => by simp [toPy, keyP] at h
  | .dic _, _, h, _ => by simp [toPy, keyP] at h
  | .ins _ _, _, h, _ => by simp [toPy, keyP] at h
  | .adr _, _, h, _ => by simp [toPy, keyP] at h
  | .exn _ _, _, h, _ => by simp [toPy, keyP] at h
  | .cls _, _, h, _ => by simp [toPy, keyP] at h
theorem toPys_inj : ∀ (ks ks' : List D), keysP (toPys ks) = true → toPys ks = toPys ks' → ks = ks'
  | [], ks', _, e => by cases ks' with
    | nil => rfl
    | cons _ _ => simp [toPys] at e
  | k :: ks, ks', h, e => by
    cases ks' with
    | nil => simp [toPys] at e
    | cons k' ks' =>
      simp only [toPys, List.cons.injEq] at e
      simp only [toPys, keysP, Bool.and_eq_true] at h
      rw [toPy_inj k k' h.1 e.1, toPys_inj ks ks' h.2 e.2]
end
mutual
theorem toPy_injG : ∀ (k k' : D), keyG (toPy k) = true → toPy k = toPy k' → k = k'
  | .int i, k', _, e => by cases k' <;> simp [toPy] at e; rw [e]
  | .bl i, k', _, e => by cases k' <;> simp [toPy] at e; rw [e]
  | .str i, k', _, e => by cases k' <;> simp [toPy] at e; rw [e]
  | .tup ds, k', h, e => by
    cases k' with
    | tup es =>
      simp only [toPy, PyData.tuple.injEq] at e
      simp only [toPy, keyG] at h
      rw [toPys_injG ds es h e]
    | _ => simp [toPy] at e
  | .non, _, h, _ => by simp [toPy, keyG] at h
  | .ty _, _, h, _ => by simp [toPy, keyG] at h
  | .scr _, _, h, _ => by simp [toPy, keyG] at h
  | .lst _, _, h, _ => by simp [toPy, keyG] at h
  | .dic _, _, h, _ => by simp [toPy, keyG] at h
  | .ins _ _, _, h, _ => by simp [toPy, keyG] at h
  | .adr _, _, h, _ => by simp [toPy, keyG] at h
  | .exn _ _, _, h, _ => by simp [toPy, keyG] at h
  | .cls _, _, h, _ => by simp [toPy, keyG] at h
theorem toPys_injG : ∀ (ks ks' : List D), keysG (toPys ks) = true → toPys ks = toPys ks' → ks = ks'
  | [], ks', _, e => by
    cases ks' with
    | nil => rfl
    | cons _ _ => simp [toPys] at e
  | k :: ks, ks', h, e => by
    cases ks' with
    | nil => simp [toPys] at e
    | cons k' ks' =>
      simp only [toPys, List.cons.injEq] at e
      simp only [toPys, keysG, Bool.and_eq_true] at h
      rw [toPy_injG k k' h.1 e.1, toPys_injG ks ks' h.2 e.2]
end
theorem kD_flat (k : Key) : flatK (kD k) = true := by cases k <;> rfl
theorem kD_inj {a b : Key} (e : kD a = kD b) : a = b := by
  cases a <;> cases b <;> simp [kD] at e <;> rw [e]
theorem flat_kD {k : D} (h : flatK k = true) : ∃ κ, k = kD κ := by
  cases k with
  | int i => exact ⟨.inl i, rfl⟩
  | str x => exact ⟨.inr x, rfl⟩
  | _ => cases h
theorem tkey_nf {k : D} (h : TKey (toPy k)) : flatK k = false := by
  obtain ⟨xs, e⟩ := h.tup
  cases k <;> simp [toPy] at e <;> rfl
section
variable {K : PySem.W.Frag} {mg : Mg} {H : Hp}
theorem IsKVs.get : ∀ {kvs : List (D × D)} {xs : List (Key × V)} (κ : Key), IsKVs K mg H kvs xs → match dicGet kvs (kD κ) with
    | some d => ∃ v, valV xs κ = some v ∧ IsD K mg H d v
    | none => valV xs κ = none
  | [], xs, κ, h => by simp only [IsKVs] at h; subst h; rfl
  | (k, d) :: kvs, xs, κ, h => by
    simp only [IsKVs, IsKV] at h
    obtain ⟨⟨k', v⟩, us, rfl, ⟨e, q⟩, r⟩ := h
    simp only at e q
    subst e
    by_cases z : k' = κ
    · subst z
      rw [dicGet_pos rfl]
      exact ⟨v, valV_pos rfl, q⟩
    · rw [dicGet_neg (fun y => z (kD_inj y)), valV_neg z]
      exact IsKVs.get κ r
theorem IsKVs.flat : ∀ {kvs : List (D × D)} {xs : List (Key × V)}, IsKVs K mg H kvs xs → ∀ p ∈ kvs, flatK p.1 = true
  | (k, d) :: kvs, xs, h, p, m => by
    simp only [IsKVs, IsKV] at h
    obtain ⟨⟨k', v⟩, us, rfl, ⟨e, q⟩, r⟩ := h
    rcases List.mem_cons.mp m with rfl | m
    · simp only at e
      subst e
      exact kD_flat k'
    · exact IsKVs.flat r p m
theorem IsKVs.len : ∀ {kvs : List (D × D)} {xs : List (Key × V)}, IsKVs K mg H kvs xs → xs.length = kvs.length
  | [], _, h => by simp only [IsKVs] at h; subst h; rfl
  | _ :: kvs, _, h => by
    simp only [IsKVs] at h
    obtain ⟨_, us, rfl, _, r⟩ := h
    rw [List.length_cons, List.length_cons, IsKVs.len r]
theorem IsKTs.len : ∀ {kvs : List (D × D)} {xs : List (PyData × Addr × V)}, IsKTs K mg H kvs xs → xs.length = kvs.length
  | [], _, h => by simp only [IsKTs] at h; subst h; rfl
  | _ :: kvs, _, h => by
    simp only [IsKTs] at h
    obtain ⟨_, us, rfl, _, r⟩ := h
    rw [List.length_cons, List.length_cons, IsKTs.len r]
theorem IsKTs.keys : ∀ {kvs : List (D × D)} {xs : List (PyData × Addr × V)}, IsKTs K mg H kvs xs → ∀ p ∈ kvs, TKey (toPy p.1)
  | (k, d) :: kvs, xs, h, p, m => by
    simp only [IsKTs, IsKT] at h
    obtain ⟨⟨k', b, v⟩, us, rfl, ⟨e, t, q⟩, r⟩ := h
    rcases List.mem_cons.mp m with rfl | m
    · exact t
    · exact IsKTs.keys r p m
theorem IsKTs.get {k : D} (t : TKey (toPy k)) : ∀ {kvs : List (D × D)} {xs : List (PyData × Addr × V)}, IsKTs K mg H kvs xs → match dicGet kvs k with
    | some d => ∃ v, valT xs (toPy k) = some v ∧ IsD K mg H d v
    | none => valT xs (toPy k) = none
  | [], xs, h => by simp only [IsKTs] at h; subst h; rfl
  | (k0, d) :: kvs, xs, h => by
    simp only [IsKTs, IsKT] at h
    obtain ⟨⟨k', b, v⟩, us, rfl, ⟨e, t', q, q'⟩, r⟩ := h
    simp only at e q q'
    subst e
    by_cases z : k0 = k
    · subst z
      rw [dicGet_pos rfl]
      exact ⟨v, valT_pos rfl, q'⟩
    · rw [dicGet_neg z, valT_neg (fun y => z (toPy_injG _ _ (keyB_G _ t'.key) y))]
      exact IsKTs.get t r
open Classical in
theorem IsKVs.put (κ : Key) {d : D} {v : V} (hv : IsD K mg H d v) {kvs : List (D × D)} {xs : List (Key × V)} (h : IsKVs K mg H kvs xs) : IsKVs K mg H (dicPut kvs (kD κ) d) (putK xs κ v) := by
  have a : (kvs.any fun p => decide (p.1 = kD κ)) = (xs.any fun kv => decide (kv.1 = κ)) := by
    rw [dicGet_any, valV_any]
    have := h.get κ
    cases e : dicGet kvs (kD κ) with
    | some d => rw [e] at this; obtain ⟨v, e2, _⟩ := this; rw [e2]; rfl
    | none => rw [e] at this; simp only at this; rw [this]; rfl
  unfold dicPut putK
  rw [a]
  by_cases z : (xs.any fun kv => decide (kv.1 = κ)) = true
  · rw [if_pos z, if_pos z]
    clear a z
    induction kvs generalizing xs with
    | nil => simp only [IsKVs] at h; subst h; simp [IsKVs]
    | cons p kvs ih =>
      obtain ⟨k, d0⟩ := p
      simp only [IsKVs, IsKV] at h
      obtain ⟨⟨k', v'⟩, us, rfl, ⟨e, q⟩, r⟩ := h
      simp only at e q
      subst e
      rw [List.map_cons, List.map_cons]
      simp only [IsKVs]
      refine ⟨_, _, rfl, ?_, ih r⟩
      by_cases z : k' = κ
      · subst z
        simp only [if_true, IsKV]
        exact ⟨trivial, hv⟩
      · rw [if_neg z, if_neg (fun y => z (kD_inj y))]
        simp only [IsKV]
        exact ⟨trivial, q⟩
  · rw [if_neg z, if_neg z]
    clear a z
    induction kvs generalizing xs with
    | nil => simp only [IsKVs] at h; subst h; simp only [List.nil_append, IsKVs, IsKV]; exact ⟨_, _, rfl, ⟨rfl, hv⟩, rfl⟩
    | cons p kvs ih =>
      simp only [IsKVs] at h
      obtain ⟨u, us, rfl, q, r⟩ := h
      simp only [List.cons_append, IsKVs]
      exact ⟨_, _, rfl, q, ih r⟩
open Classical in
theorem IsKTs.put {k : D} (t : TKey (toPy k)) {b : Addr} (hb : IsD K mg H k (.ref b)) {d : D} {v : V} (hv : IsD K mg H d v) {kvs : List (D × D)} {xs : List (PyData × Addr × V)} (h : IsKTs K mg H kvs xs) : IsKTs K mg H (dicPut kvs k d) (putT xs (toPy k) b v) := by
  have a : (kvs.any fun p => decide (p.1 = k)) = (valT xs (toPy k)).isSome := by
    rw [dicGet_any]
    have := h.get t
    cases e : dicGet kvs k with
    | some d => rw [e] at this; obtain ⟨v, e2, _⟩ := this; rw [e2]; rfl
    | none => rw [e] at this; simp only at this; rw [this]; rfl
  unfold dicPut putT
  rw [a]
  by_cases z : (valT xs (toPy k)).isSome = true
  · rw [if_pos z, if_pos z]
    clear a z
    induction kvs generalizing xs with
    | nil => simp only [IsKTs] at h; subst h; simp [IsKTs]
    | cons p kvs ih =>
      obtain ⟨k0, d0⟩ := p
      simp only [IsKTs, IsKT] at h
      obtain ⟨⟨k', b', v'⟩, us, rfl, ⟨e, t', q, q'⟩, r⟩ := h
      simp only at e q q'
      subst e
      rw [List.map_cons, List.map_cons]
      simp only [IsKTs]
      refine ⟨_, _, rfl, ?_, ih r⟩
      by_cases z : k0 = k
      · subst z
        simp only [if_true, IsKT]
        exact ⟨trivial, t', q, hv⟩
      · rw [if_neg z, if_neg (fun y => z (toPy_injG _ _ (keyB_G _ t'.key) y))]
        simp only [IsKT]
        exact ⟨trivial, t', q, q'⟩
  · rw [if_neg z, if_neg z]
    clear a z
    induction kvs generalizing xs with
    | nil => simp only [IsKTs] at h; subst h; simp only [List.nil_append, IsKTs, IsKT]; exact ⟨_, _, rfl, ⟨rfl, t, hb, hv⟩, rfl⟩
    | cons p kvs ih =>
      simp only [IsKTs] at h
      obtain ⟨u, us, rfl, q, r⟩ := h
      simp only [List.cons_append, IsKTs]
      exact ⟨_, _, rfl, q, ih r⟩
end

section
variable {X : Cx} {pins : List (Addr × Obj)} {σ : St} {H Hf : Hp} {s : Shared} {a : Addr} {o : HO} {kvs : List (D × D)} {k : D} {y : V} {u : Value} {A : Around} {E : Value → Shared → Prop}
abbrev ZW : List (PyData × Addr × V) → List (PyData × Addr × Value) → Prop := Paired fun p q => p.1 = q.1 ∧ p.2.1 = q.2.1 ∧ RelV p.2.2 q.2.2
theorem ZW.val {zs : List (PyData × Addr × V)} {xs : List (PyData × Addr × Value)} (r : ZW zs xs) (k : PyData) : RelO (valT zs k) ((atKey xs k).map (·.2)) := by
  induction r with
  | nil => exact True.intro
  | @cons p q ps qs h t ih =>
    obtain ⟨h1, _, h2⟩ := h
    by_cases e : p.1 = k
    · have e' : q.1 = k := h1.symm.trans e
      have b : atKey (q :: qs) k = some q.2 := by simp [atKey, List.find?_cons, e']
      rw [valT_pos e, b]; exact h2
    · have e' : ¬ q.1 = k := fun z => e (h1.trans z)
      have b : atKey (q :: qs) k = atKey qs k := by simp [atKey, List.find?_cons, e']
      rw [valT_neg e, b]; exact ih
theorem ZW.put {zs : List (PyData × Addr × V)} {xs : List (PyData × Addr × Value)} (r : ZW zs xs) (k : PyData) (b : Addr) {y : V} {u : Value} (ry : RelV y u) : ZW (putT zs k b y) (storedH xs k b u) := by
  have e : (valT zs k).isSome = (atKey xs k).isSome := by rw [(r.val k).isSome_eq, Option.isSome_map]
  unfold putT storedH
  rw [e]
  by_cases q : (atKey xs k).isSome = true
  · rw [if_pos q, if_pos q]
    clear e q
    induction r with
    | nil => exact .nil
    | @cons p q ps qs h t ih =>
      rw [List.map_cons, List.map_cons]
      refine .cons ?_ ih
      obtain ⟨h1, h2, h3⟩ := h
      unfold putAt
      by_cases e : p.1 = k
      · rw [if_pos e, if_pos (h1.symm.trans e)]; exact ⟨h1, h2, ry⟩
      · rw [if_neg e, if_neg (fun z => e (h1.trans z))]; exact ⟨h1, h2, h3⟩
  · rw [if_neg q, if_neg q]; exact Paired.snoc r ⟨rfl, rfl, ry⟩
inductive Vw (X : Cx) (Hf : Hp) (h : Heap) (a : Addr) (kvs : List (D × D)) (k : D) (y : V) (u : Value) : Prop where
  | flat (κ : Key) (xs : List (Key × V)) (vs : List (Key × Value)) : k = kD κ → y = kV κ → RelV (kV κ) u → IsKVs X.K X.mw Hf kvs xs → KV xs vs → h.DictOf (mixKind X.prog X.w) a vs → Vw X Hf h a kvs k y u
  | deep (b : Addr) (zs : List (PyData × Addr × V)) (ws : List (PyData × Addr × Value)) : y = .ref b → u = .ref b → IsD X.K X.mw Hf k (.ref b) → TKey (toPy k) → (deepKind X.prog X.w).is h (toPy k) b → IsKTs X.K X.mw Hf kvs zs → ZW zs ws → h.DictOfH (deepKind X.prog X.w) a ws → Vw X Hf h a kvs k y u
theorem isd_ref {K : PySem.W.Frag} {mg : Mg} {k : D} {y : V} (h : IsD K mg Hf k y) (t : TKey (toPy k)) : ∃ b, y = .ref b := by
  obtain ⟨xs, e⟩ := t.tup
  cases k with
  | tup ds => simp only [IsD] at h; obtain ⟨a, _, e, _⟩ := h; exact ⟨a, e⟩
  | _ => simp [toPy] at e
theorem isd_flat {K : PySem.W.Frag} {mg : Mg} {κ : Key} {y : V} (h : IsD K mg Hf (kD κ) y) : y = kV κ := by
  cases κ <;> (simp only [kD, IsD] at h; subst h; rfl)
theorem zw_is (I : Inv X pins σ H s) (hs : Same Hf H) : ∀ {kvs : List (D × D)} {zs : List (PyData × Addr × V)} {ws : List (PyData × Addr × Value)}, IsKTs X.K X.mw Hf kvs zs → ZW zs ws → ∀ x ∈ ws, (deepKind X.prog X.w).is s.heap x.1 x.2.1
  | [], _, _, h, r, x, m => by simp only [IsKTs] at h; subst h; cases r; exact nomatch m
  | (k, d) :: kvs, _, _, h, r, x, m => by
    simp only [IsKTs, IsKT] at h
    obtain ⟨⟨k', b, v⟩, us, rfl, ⟨e, t, q, q'⟩, rr⟩ := h
    cases r with
    | @cons _ z _ qs hz tz =>
      rcases List.mem_cons.mp m with rfl | m
      · obtain ⟨h1, h2, _⟩ := hz
        simp only at e h1 h2 q
        rw [← h1, ← h2, e]
        obtain ⟨as, rd⟩ := Dp.reads I (toPy k) (.ref b) (.ref b) (dp_of (IsD.mono hs q) (keyG_lay _ (keyB_G _ t.key))) rfl
        exact ⟨t, as, rd⟩
      · exact zw_is I hs rr tz x m
theorem view (I : Inv X pins σ H s) (hs : Same Hf H) (hd : Rd H a o) (hk : DicAt X.K X.mw Hf kvs a o) (ky : IsD X.K X.mw Hf k y) (ry : RelV y u) (dk : DKey kvs k) : (a == sysModules) = false ∧ kvs.length ≤ sizeLine ∧ Vw X Hf s.heap a kvs k y u := by
  have ok := hd.ok I.hok
  rcases hk with ⟨xs, rfl, r⟩ | ⟨zs, rfl, r⟩
  · obtain ⟨z, hsys, vs, rel, dd⟩ := (show ObjOk X.prog X.w H s.heap a (.dK xs) from ok)
    refine ⟨hsys, by rw [← r.len]; exact z, ?_⟩
    rcases dk with ⟨f, _⟩ | ⟨t, all⟩
    · obtain ⟨κ, rfl⟩ := flat_kD f
      obtain rfl := isd_flat ky
      exact .flat κ xs vs rfl rfl ry r rel dd
    · have e : kvs = [] := by
        cases kvs with
        | nil => rfl
        | cons p kvs =>
          have h1 := r.flat p List.mem_cons_self
          rw [tkey_nf (all p List.mem_cons_self)] at h1
          cases h1
      subst e
      simp only [IsKVs] at r
      subst r
      cases rel
      obtain ⟨b, rfl⟩ := isd_ref ky t
      obtain rfl : u = .ref b := ry
      obtain ⟨as, rd⟩ := Dp.reads I (toPy k) (.ref b) (.ref b) (dp_of (IsD.mono hs ky) (keyG_lay _ (keyB_G _ t.key))) rfl
      obtain ⟨ob, es, ep, h1, h2, h3, h4, h5, h6⟩ := dd
      have ee : es.toList = [] := by
        generalize es.toList = l at h5
        cases h5; rfl
      exact .deep b [] [] rfl rfl ky t ⟨t, as, rd⟩ (by simp only [IsKTs]) .nil ⟨ob, es, ep, h1, h2, h3, by rw [ee]; rfl, fun x hx => (List.not_mem_nil hx).elim, List.nodup_nil⟩
  · obtain ⟨hne, hsys, z, ws, rel, ob, es, ep, h1, h2, h3, h4, h5⟩ := (show ObjOk X.prog X.w H s.heap a (dT X.w a zs) from ok).1
    refine ⟨hsys, by rw [← r.len]; exact z, ?_⟩
    rcases dk with ⟨f, all⟩ | ⟨t, _⟩
    · have e : kvs = [] := by
        cases kvs with
        | nil => rfl
        | cons p kvs =>
          have h1 := all p List.mem_cons_self
          rw [tkey_nf (r.keys p List.mem_cons_self)] at h1
          cases h1
      subst e
      simp only [IsKTs] at r
      subst r
      cases rel
      obtain ⟨κ, rfl⟩ := flat_kD f
      obtain rfl := isd_flat ky
      have ee : es.toList = [] := h4
      have e2 : es = #[] := by rw [← Array.toArray_toList (xs := es), ee]
      subst e2
      exact .flat κ [] [] rfl rfl ry (by simp only [IsKVs]) .nil ⟨ob, #[], ep, h1, h2, h3, fun e he => by simp at he, Pairs.nil, List.nodup_nil⟩
    · obtain ⟨b, rfl⟩ := isd_ref ky t
      obtain rfl : u = .ref b := ry
      obtain ⟨as, rd⟩ := Dp.reads I (toPy k) (.ref b) (.ref b) (dp_of (IsD.mono hs ky) (keyG_lay _ (keyB_G _ t.key))) rfl
      exact .deep b zs ws rfl rfl ky t ⟨t, as, rd⟩ r rel ⟨ob, es, ep, h1, h2, h3, h4, zw_is I hs r rel, h5⟩

theorem dk_room {A : Around} (hu : A.units + 64 < cLine) : (deepKind X.prog X.w).room A.in1 := by
  show A.units + 1 + 8 < cLine
  omega
theorem Vw.at (V0 : Vw X Hf s.heap a kvs k y u) : match dicGet kvs k with
    | some d => ∃ v w', IsD X.K X.mw Hf d v ∧ RelV v w' ∧ ((∃ κ vs, RelV (kV κ) u ∧ s.heap.DictOf (mixKind X.prog X.w) a vs ∧ valueAt vs κ = some w') ∨ ∃ b ws p, u = .ref b ∧ (deepKind X.prog X.w).is s.heap (toPy k) b ∧ s.heap.DictOfH (deepKind X.prog X.w) a ws ∧ atKey ws (toPy k) = some p ∧ p.2 = w')
    | none => (∃ κ vs, RelV (kV κ) u ∧ s.heap.DictOf (mixKind X.prog X.w) a vs ∧ valueAt vs κ = none) ∨ ∃ b ws, u = .ref b ∧ (deepKind X.prog X.w).is s.heap (toPy k) b ∧ s.heap.DictOfH (deepKind X.prog X.w) a ws ∧ atKey ws (toPy k) = none := by
  cases V0 with
  | flat κ xs vs ek ey ry r rel dd =>
    subst ek
    have g := r.get κ
    cases e : dicGet kvs (kD κ) with
    | some d =>
      rw [e] at g
      obtain ⟨v, e2, q⟩ := g
      obtain ⟨w', hw, rw'⟩ := RelO.some_of (v := v) (o := valueAt vs κ) (by rw [← e2]; exact rel.val κ)
      exact ⟨v, w', q, rw', .inl ⟨κ, vs, ry, dd, hw⟩⟩
    | none =>
      rw [e] at g
      exact .inl ⟨κ, vs, ry, dd, RelO.none_of (by rw [← g]; exact rel.val κ)⟩
  | deep b zs ws ey eu kd t is r rel dd =>
    have g := r.get t
    cases e : dicGet kvs k with
    | some d =>
      rw [e] at g
      obtain ⟨v, e2, q⟩ := g
      obtain ⟨w', hw, rw'⟩ := RelO.some_of (v := v) (o := (atKey ws (toPy k)).map (·.2)) (by rw [← e2]; exact rel.val _)
      obtain ⟨p, hp, hp2⟩ := Option.map_eq_some_iff.mp hw
      exact ⟨v, w', q, rw', .inr ⟨b, ws, p, eu, is, dd, hp, hp2⟩⟩
    | none =>
      rw [e] at g
      have : (atKey ws (toPy k)).map (·.2) = none := RelO.none_of (by rw [← g]; exact rel.val _)
      exact .inr ⟨b, ws, eu, is, dd, Option.map_eq_none_iff.mp this⟩
theorem x_getItem {d : D} {Q : Value → Shared → Prop} (hu : A.units + 64 < cLine) (I : Inv X pins σ H s) (V0 : Vw X Hf s.heap a kvs k y u) (g : dicGet kvs k = some d) (h : ∀ v w' s', Inv X pins σ H s' → IsD X.K X.mw Hf d v → RelV v w' → Q w' s') :
    wpAny (model X.prog X.w) A (getItem (.ref a) u) Q E s := by
  have z := V0.at
  rw [g] at z
  obtain ⟨v, w', q, rw', z⟩ := z
  rcases z with ⟨κ, vs, ry, dd, hw⟩ | ⟨b, ws, p, rfl, is, dd, hp, rfl⟩
  · exact wpAny_getItem_of (kV_is ry) dd.mapOf hw (h v w' _ (I.tok _) q rw')
  · exact wpAny_getItem_heap (dk_room hu) is dd hp (h v _ _ (I.tok _) q rw')
theorem x_in {Q : Value → Shared → Prop} (hu : A.units + 64 < cLine) (I : Inv X pins σ H s) (hsys : (a == sysModules) = false) (V0 : Vw X Hf s.heap a kvs k y u) (h : ∀ s', Inv X pins σ H s' → Q (.bool (dicGet kvs k).isSome) s') :
    wpAny (model X.prog X.w) A (compareOp .In u (.ref a)) Q E s := by
  have z := V0.at
  cases g : dicGet kvs k with
  | some d =>
    rw [g] at z h
    obtain ⟨v, w', q, rw', z⟩ := z
    rcases z with ⟨κ, vs, ry, dd, hw⟩ | ⟨b, ws, p, rfl, is, dd, hp, rfl⟩
    · refine wpAny_in_of (kV_is ry) hsys dd.mapOf ?_
      rw [hw]
      exact h _ (I.tok _)
    · refine wpAny_in_heap (dk_room hu) is hsys dd ?_
      rw [hp]
      exact h _ (I.tok _)
  | none =>
    rw [g] at z h
    rcases z with ⟨κ, vs, ry, dd, hw⟩ | ⟨b, ws, rfl, is, dd, hp⟩
    · refine wpAny_in_of (kV_is ry) hsys dd.mapOf ?_
      rw [hw]
      exact h _ (I.tok _)
    · refine wpAny_in_heap (dk_room hu) is hsys dd ?_
      rw [hp]
      exact h _ (I.tok _)
theorem x_notIn {Q : Value → Shared → Prop} (hu : A.units + 64 < cLine) (I : Inv X pins σ H s) (hsys : (a == sysModules) = false) (V0 : Vw X Hf s.heap a kvs k y u) (h : ∀ s', Inv X pins σ H s' → Q (.bool (!(dicGet kvs k).isSome)) s') :
    wpAny (model X.prog X.w) A (compareOp .NotIn u (.ref a)) Q E s := by
  have z := V0.at
  cases g : dicGet kvs k with
  | some d =>
    rw [g] at z h
    obtain ⟨v, w', q, rw', z⟩ := z
    rcases z with ⟨κ, vs, ry, dd, hw⟩ | ⟨b, ws, p, rfl, is, dd, hp, rfl⟩
    · refine wpAny_notIn_of (kV_is ry) hsys dd.mapOf ?_
      rw [hw]
      exact h _ (I.tok _)
    · refine wpAny_notIn_heap (dk_room hu) is hsys dd ?_
      rw [hp]
      exact h _ (I.tok _)
  | none =>
    rw [g] at z h
    rcases z with ⟨κ, vs, ry, dd, hw⟩ | ⟨b, ws, rfl, is, dd, hp⟩
    · refine wpAny_notIn_of (kV_is ry) hsys dd.mapOf ?_
      rw [hw]
      exact h _ (I.tok _)
    · refine wpAny_notIn_heap (dk_room hu) is hsys dd ?_
      rw [hp]
      exact h _ (I.tok _)
theorem x_get2 {dd0 : D} {r : Value} {x : V} {Q : Value → Shared → Prop} (hu : A.units + 64 < cLine) (I : Inv X pins σ H s) (hsys : (a == sysModules) = false) (V0 : Vw X Hf s.heap a kvs k y u) (hx : IsD X.K X.mw Hf dd0 x) (rx : RelV x r)
    (h : ∀ v w' s', Inv X pins σ H s' → IsD X.K X.mw Hf ((dicGet kvs k).getD dd0) v → RelV v w' → Q w' s') : wpAny (model X.prog X.w) A (call (.builtin "dict.get") [.ref a, u, r]) Q E s := by
  have z := V0.at
  cases g : dicGet kvs k with
  | some d =>
    rw [g] at z h
    obtain ⟨v, w', q, rw', z⟩ := z
    rcases z with ⟨κ, vs, ry, dd, hw⟩ | ⟨b, ws, p, rfl, is, dd, hp, rfl⟩
    · refine call_meetsIn PySem.F.slot_dict_get dd.typeIs PySem.F.entry_dict_get (PySem.F.args_dict_get_3 _ _ _) (meets_dict_get_default (mixKind X.prog X.w) a (kV_is ry) hsys r) ⟨_, dd.mapOf, ?_⟩
      rw [hw]
      exact h v w' _ (I.tok _) q rw'
    · refine call_meetsIn PySem.F.slot_dict_get dd.typeIs PySem.F.entry_dict_get (PySem.F.args_dict_get_3 _ _ _) (meetsH_dict_get_default (deepKind X.prog X.w) a b hsys r) ⟨dk_room hu, toPy k, ws, is, dd, ?_⟩
      rw [hp]
      exact h v _ _ (I.tok _) q rw'
  | none =>
    rw [g] at z h
    rcases z with ⟨κ, vs, ry, dd, hw⟩ | ⟨b, ws, rfl, is, dd, hp⟩
    · refine call_meetsIn PySem.F.slot_dict_get dd.typeIs PySem.F.entry_dict_get (PySem.F.args_dict_get_3 _ _ _) (meets_dict_get_default (mixKind X.prog X.w) a (kV_is ry) hsys r) ⟨_, dd.mapOf, ?_⟩
      rw [hw]
      exact h x r _ (I.tok _) hx rx
    · refine call_meetsIn PySem.F.slot_dict_get dd.typeIs PySem.F.entry_dict_get (PySem.F.args_dict_get_3 _ _ _) (meetsH_dict_get_default (deepKind X.prog X.w) a b hsys r) ⟨dk_room hu, toPy k, ws, is, dd, ?_⟩
      rw [hp]
      exact h x r _ (I.tok _) hx rx
theorem len_putT (zs : List (PyData × Addr × V)) (k : PyData) (b : Addr) (v : V) : (putT zs k b v).length ≤ zs.length + 1 := by
  unfold putT
  split
  · rw [List.length_map]; omega
  · simp
theorem putT_ne (zs : List (PyData × Addr × V)) (k : PyData) (b : Addr) (v : V) : putT zs k b v ≠ [] := by
  unfold putT
  split
  · rename_i h
    intro e
    cases zs with
    | nil => cases h
    | cons z zs => cases e
  · intro e
    exact absurd (List.append_eq_nil_iff.mp e).2 (List.cons_ne_nil _ _)
theorem x_setItem {d : D} {x : V} {r : Value} {Q : Unit → Shared → Prop} (hu : A.units + 64 < cLine) (I : Inv X pins σ H s) (hsys : (a == sysModules) = false) (mu : Mut (H a)) (hl : kvs.length < sizeLine) (V0 : Vw X Hf s.heap a kvs k y u) (hx : IsD X.K X.mw Hf d x) (rx : RelV x r)
    (h : ∀ o' s', DicAt X.K X.mw Hf (dicPut kvs k d) a o' → Inv X pins σ (upd H a o') s' → Q () s') : wpAny (model X.prog X.w) A (setItem (.ref a) u r) Q E s := by
  cases V0 with
  | flat κ xs vs ek ey ry r0 rel dd =>
    subst ek
    have hz : vs.length ≤ sizeLine := by rw [← rel.length, r0.len]; omega
    refine wpAny_setItem_pairs (hsz := hz) (kV_is ry) dd fun h' dd' hs => ?_
    have hl2 : (putK xs κ x).length ≤ sizeLine := by have := length_putK xs κ x; rw [r0.len] at this; omega
    have he : ∃ q, h'.get? a = some q := let ⟨q, _, _, hq, _⟩ := dd'; ⟨q, hq⟩
    exact h _ _ (.inl ⟨_, rfl, r0.put κ hx⟩) (d_write I mu hs he (dk_new hl2 hsys (rel.put κ rx) dd'))
  | deep b zs ws ey eu kd t is r0 rel dd =>
    subst eu
    have hz : ws.length ≤ sizeLine := by rw [← Paired.length rel, r0.len]; omega
    refine wpAny_setItem_heap (hsz := hz) (dk_room hu) is dd fun h' dd' hs => ?_
    have hl2 : (putT zs (toPy k) b x).length ≤ sizeLine := by have := len_putT zs (toPy k) b x; rw [r0.len] at this; omega
    obtain ⟨q, es, ep, hq, h2, h3, h4, _, h5⟩ := dd'
    refine h _ _ (.inr ⟨_, rfl, r0.put t kd hx⟩) (d_write I mu hs ⟨q, hq⟩ ?_)
    refine ⟨⟨putT_ne _ _ _ _, hsys, hl2, _, rel.put (toPy k) b rx, q, es, ep, hq, h2, h3, h4, h5⟩, ⟨q, hq⟩, fun g1 g2 ⟨p0, p1, p2, ys, p3, o1, e1, e2, p4, p5⟩ kk => ⟨p0, p1, p2, ys, p3, o1, e1, e2, kk _ p4, p5⟩⟩
end
end PD

namespace PD
open PySem PySem.Spec L2
open PyProof.Rows hiding St

noncomputable def dIx : D → D → Out D
  | .dic kvs, k => chk (DKey kvs k) (match dicGet kvs k with
    | some d => .ok d
    | none => .stuck)
  | x, k => dIxS x k
theorem dkey_flat {K : PySem.W.Frag} {mg : Mg} {Hf H : Hp} {kvs : List (D × D)} {k : D} {y : V} (d : DKey kvs k) (h : IsR K mg Hf H k y) : IsD K mg Hf k y := by
  rcases d with ⟨f, _⟩ | ⟨t, _⟩
  · cases k <;> first | exact h | cases f
  · obtain ⟨xs, e⟩ := t.tup
    cases k <;> first | exact h | (simp [toPy] at e; done)
def RdD (X : Cx) (Hf H : Hp) (kvs : List (D × D)) (k : D) (a : Addr) (y : V) : Prop := ∃ o, Same Hf H ∧ Rd H a o ∧ DicAt X.K X.mw Hf kvs a o ∧ IsD X.K X.mw Hf k y ∧ DKey kvs k
def rIxD (X : Cx) : R2 := fun x y H Q => ∃ a Hf kvs k d, x = .ref a ∧ RdD X Hf H kvs k a y ∧ dicGet kvs k = some d ∧ ∀ v, IsD X.K X.mw Hf d v → Q v H
section
variable {X : Cx}
theorem ty_dict {pins : List (Addr × Obj)} {σ : St} {H Hf : Hp} {s : Shared} {kvs : List (D × D)} {a : Addr} {o : HO} (I : Inv X pins σ H s) (hd : Rd H a o) (hk : DicAt X.K X.mw Hf kvs a o) : s.TypeIs (.ref a) "dict" ∧ (∀ b, Value.ref a = .ref b → ∃ ob, s.heap.get? b = some ob ∧ ob.dict = none) := by
  have ok := hd.ok I.hok
  rcases hk with ⟨xs, rfl, r⟩ | ⟨zs, rfl, r⟩
  · obtain ⟨z, hsys, vs, rel, ob, es, ep, h1, h2, _⟩ := (show ObjOk X.prog X.w H s.heap a (.dK xs) from ok)
    exact ⟨⟨ob, h1, h2.1⟩, fun b q => by cases q; exact ⟨ob, h1, h2.2.1⟩⟩
  · obtain ⟨hne, hsys, z, ws, rel, ob, es, ep, h1, h2, _⟩ := (show ObjOk X.prog X.w H s.heap a (dT X.w a zs) from ok).1
    exact ⟨⟨ob, h1, h2.1⟩, fun b q => by cases q; exact ⟨ob, h1, h2.2.1⟩⟩
theorem ix_dic (hu : X.A.units + 64 < cLine) : IxR X (rIxD X) := by
  intro value slice pins s σ H x y v u Q I rx ry h hs
  obtain ⟨a, Hf, kvs, k, d, rfl, ⟨o, sm, hd, hk, ky, dk⟩, g, q⟩ := h
  cases rx
  obtain ⟨_, _, V0⟩ := view I sm hd hk ky ry dk
  exact tail_any (ty_dict I hd hk).1 PySem.F.slot_dict_getitem.lookup (x_getItem hu I V0 g fun v w' s' I' q' rw' => ⟨v, H, I', rw', q v q'⟩) hs
theorem px_ix {kk : Nat} {g : G} {E : WX} {Γ Γ1 Γ2 : List Bool} {pos : Pos} {a b : Expr} {fa fb : Env → Out D} (hr : Room kk X.A) (ha : PX X g E Γ a Γ1 .rd fa) (hb : PX X g E Γ1 b Γ2 .rd fb) (hs : PlainIx b) : PX X g E Γ (.Subscript a b pos) Γ2 .fr (e2 dIx fa fb) := by
  refine ⟨hb.le.trans ha.le, (pe_ix (ix_seq.or (ix_dic hr.units)) ha.pe hb.pe hs).imp fun σ H Q ⟨ρ, Hf, R, k⟩ => ⟨ρ, Hf, R, ?_⟩⟩
  refine tG.bind hb.le k fun x F1 H1 s1 s2 R1 k1 v hv => ⟨ρ, F1, R1, ?_⟩
  refine tG.bind (Le.refl _) k1 fun y F2 H2 s3 s4 R2 k2 u hu => ?_
  replace hv := IsR.mono s3 s4 hv
  unfold dIx at k2
  split at k2
  · rename_i _ kvs
    refine .inr ?_
    by_cases c : DKey kvs y
    · rw [chk_pos c] at k2
      obtain ⟨p, o, rfl, q, r⟩ := hv
      cases gg : dicGet kvs y with
      | none => rw [gg] at k2; exact k2.elim
      | some d =>
        rw [gg] at k2
        exact ⟨p, F2, kvs, y, d, rfl, ⟨o, R2.same, q, r, dkey_flat c hu, c⟩, gg, fun v hv => k2 F2 H2 (Same.refl _) (Same.refl _) R2 v hv⟩
    · rw [chk_neg c] at k2; exact k2.elim
  · refine .inl ?_
    unfold dIxS at k2
    split at k2
    · rename_i ds i _
      obtain ⟨p, xs, rfl, q, r⟩ := hv
      cases hu
      cases e : atI ds i with
      | none => rw [e] at k2; exact k2.elim
      | some d =>
        rw [e] at k2
        obtain ⟨z, ez, hz⟩ := r.atI e
        exact .inl ⟨p, xs, i, z, rfl, rfl, .of q, ez, k2 F2 H2 (Same.refl _) (Same.refl _) R2 z hz⟩
    · rename_i ds i _
      simp only [Res, IsR, IsD] at hv
      obtain ⟨p, xs, rfl, q, r⟩ := hv
      cases hu
      cases e : atI ds i with
      | none => rw [e] at k2; exact k2.elim
      | some d =>
        rw [e] at k2
        obtain ⟨z, ez, hz⟩ := r.atI e
        exact .inr (.inl ⟨p, xs, i, z, rfl, rfl, (Same.seqT R2.same q).l, ez, k2 F2 H2 (Same.refl _) (Same.refl _) R2 z hz⟩)
    · rename_i ns i _
      simp only [Res, IsR, IsD] at hv
      obtain ⟨p, rfl, q⟩ := hv
      cases hu
      cases e : atI ns i with
      | none => rw [e] at k2; exact k2.elim
      | some n =>
        rw [e] at k2
        have ez : atI (ns.map V.int) i = some (V.int n) := by
          unfold L2.atI at e ⊢
          rw [List.length_map]
          cases q : ixN ns.length i with
          | none => rw [q] at e; cases e
          | some j =>
            rw [q] at e
            show (ns.map V.int)[j]? = _
            rw [List.getElem?_map, show ns[j]? = some n from e]; rfl
        exact .inl ⟨p, _, i, _, rfl, rfl, R2.same.seq q, ez, k2 F2 H2 (Same.refl _) (Same.refl _) R2 _ (show IsD _ _ _ _ _ by simp only [IsD])⟩
    · rename_i z i _
      simp only [Res, IsR, IsD] at hv
      cases hu
      by_cases l : z.length ≤ sizeLine
      · rw [chk_pos l] at k2
        cases e : atI z.cps.toList i with
        | none => rw [e] at k2; exact k2.elim
        | some c =>
          rw [e] at k2
          exact .inr (.inr ⟨z, i, c, hv, rfl, l, e, k2 F2 H2 (Same.refl _) (Same.refl _) R2 _ (show IsD _ _ _ _ _ by simp only [IsD])⟩)
      · rw [chk_neg l] at k2; exact k2.elim
    · exact k2.elim
noncomputable def dInD (neg : Bool) : D → D → Out D
  | k, .dic kvs => chk (DKey kvs k) (.ok (.bl (if neg then !(dicGet kvs k).isSome else (dicGet kvs k).isSome)))
  | _, _ => .stuck
def rInD (X : Cx) (neg : Bool) : R2 := fun y x H Q => ∃ a Hf kvs k, x = .ref a ∧ RdD X Hf H kvs k a y ∧ Q (.bl (if neg then !(dicGet kvs k).isSome else (dicGet kvs k).isSome)) H
theorem op_inD (hu : X.A.units + 64 < cLine) : OpR X (compareOp .In) (rInD X false) := by
  intro pins s σ H y x u v Q I ry rx h
  obtain ⟨a, Hf, kvs, k, rfl, ⟨o, sm, hd, hk, ky, dk⟩, q⟩ := h
  cases rx
  obtain ⟨hsys, _, V0⟩ := view I sm hd hk ky ry dk
  exact x_in hu I hsys V0 fun s' I' => ⟨.bl _, H, I', rfl, q⟩
theorem op_notInD (hu : X.A.units + 64 < cLine) : OpR X (compareOp .NotIn) (rInD X true) := by
  intro pins s σ H y x u v Q I ry rx h
  obtain ⟨a, Hf, kvs, k, rfl, ⟨o, sm, hd, hk, ky, dk⟩, q⟩ := h
  cases rx
  obtain ⟨hsys, _, V0⟩ := view I sm hd hk ky ry dk
  exact x_notIn hu I hsys V0 fun s' I' => ⟨.bl _, H, I', rfl, q⟩
theorem opd_inD {m : Md} {f : Value → Value → Sem Value} {neg : Bool} (ho : OpR X f (rInD X neg)) : OpD X f m (dInD neg) := by
  refine ⟨_, ho, fun g E Γ ρ σ Hf H x y v u Q R hx hy k => ?_⟩
  unfold dInD at k
  split at k
  · rename_i kvs
    by_cases c : DKey kvs x
    · rw [chk_pos c] at k
      obtain ⟨p, o, rfl, q, r⟩ := hy
      exact ⟨p, Hf, kvs, x, rfl, ⟨o, R.same, q, r, dkey_flat c hx, c⟩, k Hf H (Same.refl _) (Same.refl _) R _ (Res.dat R.same rfl (by simp only [IsD]))⟩
    · rw [chk_neg c] at k; exact k.elim
  · exact k.elim
noncomputable def dIn : D → D → Out D := dOr (dInL false) (dOr dInS (dInD false))
noncomputable def dNotIn : D → D → Out D := dOr (dInL true) (dOr dNotInS (dInD true))
theorem od_in {m : Md} {kk : Nat} (hr : Room kk X.A) : OpD X (compareOp .In) m dIn := od_inL.or (od_inS.or (opd_inD (op_inD hr.units)))
theorem od_notin {m : Md} {kk : Nat} (hr : Room kk X.A) : OpD X (compareOp .NotIn) m dNotIn := od_notinL.or (od_notinS.or (opd_inD (op_notInD hr.units)))
theorem px_dnew {g : G} {E : WX} {Γ : List Bool} {pos : Pos} : PX X g E Γ (.Dict [] [] pos) Γ .ow (eC (.dic [])) := by
  refine ⟨Le.refl _, pe_dnewK.imp fun σ H Q ⟨ρ, Hf, R, k⟩ p n => ?_⟩
  obtain ⟨t2, R2, n0, nf, ap⟩ := R.newO (.dK []) n
  exact k _ _ (Same.refl _) t2 R2 (.ref p) ⟨⟨p, .dK [], rfl, n0, nf, upd_same, .inl ⟨[], rfl, by simp only [IsKVs]⟩⟩, fun i e ow e1 m _ e2 => ap i e ow e1 m e2⟩
noncomputable def eGet2 (fd fk fx : Env → Out D) : Env → Out D := fun ρ => (fd ρ).bind fun d => match d with
  | .dic kvs => (fk ρ).bind fun k => (fx ρ).bind fun x => chk (DKey kvs k) (.ok ((dicGet kvs k).getD x))
  | _ => .stuck
def tXGet2 (X : Cx) (td ty tx : TE) : TE := fun σ H Q => td σ H fun x H1 => ∃ a o kvs Hf, x = .ref a ∧ Rd H1 a o ∧ DicAt X.K X.mw Hf kvs a o ∧ ty σ H1 fun y H2 => tx σ H2 fun z H3 => ∃ Hf kvs k d, RdD X Hf H3 kvs k a y ∧ IsD X.K X.mw Hf d z ∧ ∀ v, IsD X.K X.mw Hf ((dicGet kvs k).getD d) v → Q v H3
theorem pe_xget2 {o e f : Expr} {apos cpos : Pos} {td ty tx : TE} (hu : X.A.units + 64 < cLine) (ho : PE X o td) (he : PE X e ty) (hf : PE X f tx) (m : M2 X o "get" apos e f cpos) : PE X (.Call (.Attribute o "get" apos) [e, f] [] cpos) (tXGet2 X td ty tx) := by
  refine ⟨fun pins s σ H Q I h => ?_⟩
  refine wpAny_Call_method m.base m.few m.line PySem.F.plainAttrs_dict PySem.F.slot_dict_get PySem.F.type_dict_get (thn (ho.run pins s σ H _ I h) fun u s1 ⟨x, H1, I1, rx, a, ob, kvs0, Hf0, ex, rd0, dk0, q1⟩ => ?_)
  subst ex
  obtain rfl : u = Value.ref a := rx
  obtain ⟨t1, t2⟩ := ty_dict I1 rd0 dk0
  refine ⟨t1, t2, ?_⟩
  rw [m.trees]
  refine Calls.callWith_builtin rfl (Calls.evalArgs_plain (Calls.spliced_cons (thn (he.run pins s1 σ H1 _ I1 q1) fun iv s2 ⟨y, H2, I2, ry, q2⟩ =>
    Calls.spliced_cons (thn (hf.run pins s2 σ H2 _ I2 q2) fun fv s3 ⟨z, H3, I3, rz, Hf, kvs, k, d, ⟨o, sm, hd, hk, ky, dk⟩, hz, q3⟩ => Calls.spliced_nil ?_))))
  obtain ⟨hsys, _, V0⟩ := view I3 sm hd hk ky ry dk
  exact x_get2 hu I3 hsys V0 hz rz fun v w' s4 I4 hv rw' => ⟨v, H3, I4, rw', q3 v hv⟩
theorem px_get2 {kk : Nat} {g : G} {E : WX} {Γ Γ1 Γ2 Γ3 : List Bool} {apos pos : Pos} {a b c : Expr} {fa fb fc : Env → Out D} (hr : Room kk X.A) (ha : PX X g E Γ a Γ1 .rd fa) (hb : PX X g E Γ1 b Γ2 .rd fb) (hc : PX X g E Γ2 c Γ3 .fr fc) (m : M2 X a "get" apos b c pos) :
    PX X g E Γ (.Call (.Attribute a "get" apos) [b, c] [] pos) Γ3 .fr (eGet2 fa fb fc) := by
  refine ⟨hc.le.trans (hb.le.trans ha.le), (pe_xget2 hr.units ha.pe hb.pe hc.pe m).imp fun σ H Q ⟨ρ, Hf, R, k⟩ => ⟨ρ, Hf, R, ?_⟩⟩
  refine tG.bind (hc.le.trans hb.le) k fun x F1 H1 s1 s2 R1 k1 v hv => ?_
  cases x with
  | dic kvs =>
    have hv' : IsR X.K X.mw F1 H1 (.dic kvs) v := hv
    obtain ⟨p, o, rfl, q, r⟩ := hv
    refine ⟨p, o, kvs, F1, rfl, q, r, ρ, F1, R1, ?_⟩
    refine tG.bind hc.le k1 fun y F2 H2 s3 s4 R2 k2 u hu => ⟨ρ, F2, R2, ?_⟩
    refine tG.bind (Le.refl _) k2 fun z F3 H3 s5 s6 R3 k3 w hw => ?_
    by_cases c : DKey kvs y
    · rw [chk_pos c] at k3
      obtain ⟨p', o', e, q', r'⟩ := IsR.mono (s3.trans s5) (s4.trans s6) hv'
      obtain rfl : p = p' := V.ref.inj e
      exact ⟨F3, kvs, y, z, ⟨o', R3.same, q', r', dkey_flat c (IsR.mono s5 s6 hu), c⟩, hw, fun v hv => k3 F3 H3 (Same.refl _) (Same.refl _) R3 v hv⟩
    · rw [chk_neg c] at k3; exact k3.elim
  | _ => exact k1.elim
def rSetD (X : Cx) : V → V → V → Hp → (Hp → Prop) → Prop := fun o y x H Q => ∃ a Hf kvs k d, o = .ref a ∧ RdD X Hf H kvs k a y ∧ Mut (H a) ∧ kvs.length < sizeLine ∧ IsD X.K X.mw Hf d x ∧ ∀ o', DicAt X.K X.mw Hf (dicPut kvs k d) a o' → Q (upd H a o')
theorem set_dic (hu : X.A.units + 64 < cLine) : PSet X (rSetD X) := by
  intro pins s σ H o y x ov iv u Q I ro ri rv h
  obtain ⟨a, Hf, kvs, k, d, rfl, ⟨ob, sm, hd, hk, ky, dk⟩, mu, hl, hx, q⟩ := h
  cases ro
  obtain ⟨hsys, _, V0⟩ := view I sm hd hk ky ri dk
  exact x_setItem hu I hsys mu hl V0 hx rv fun o' s' da I' => ⟨_, I', q o' da⟩
theorem PSet.or {r r' : V → V → V → Hp → (Hp → Prop) → Prop} (h : PSet X r) (h' : PSet X r') : PSet X (fun o i v H Q => r o i v H Q ∨ r' o i v H Q) := by
  intro pins s σ H o y x ov iv u Q I ro ri rv q
  rcases q with q | q
  · exact h pins s σ H o y x ov iv u Q I ro ri rv q
  · exact h' pins s σ H o y x ov iv u Q I ro ri rv q
theorem mut_of_own {K : PySem.W.Frag} {mg : Mg} {Hf H : Hp} {kvs : List (D × D)} {a : Addr} {o : HO} (e : H a = some o) (h : DicAt K mg Hf kvs a o) : Mut (H a) := by
  rw [e]
  rcases h with ⟨xs, rfl, _⟩ | ⟨zs, rfl, _⟩ <;> exact True.intro
theorem IsDs.set {K : PySem.W.Frag} {mg : Mg} {H : Hp} {d : D} {v : V} (hv : IsD K mg H d v) : ∀ {ds : List D} {vs : List V} (j : Nat), IsDs K mg H ds vs → IsDs K mg H (ds.set j d) (vs.set j v)
  | [], _, _, h => by simp only [IsDs] at h; subst h; simp [IsDs]
  | x :: ds, _, 0, h => by
    simp only [IsDs] at h
    obtain ⟨u, us, rfl, q, r⟩ := h
    simp only [List.set_cons_zero, IsDs]
    exact ⟨_, _, rfl, hv, r⟩
  | x :: ds, _, j + 1, h => by
    simp only [IsDs] at h
    obtain ⟨u, us, rfl, q, r⟩ := h
    simp only [List.set_cons_succ, IsDs]
    exact ⟨_, _, rfl, q, IsDs.set hv j r⟩
noncomputable def putO : D → D → D → Out D
  | .lst xs, .int j, v => match ixN xs.length j with
    | some n => .ok (.lst (xs.set n v))
    | none => .stuck
  | .dic kvs, k, v => chk (DKey kvs k ∧ kvs.length < sizeLine) (.ok (.dic (dicPut kvs k v)))
  | _, _, _ => .stuck
noncomputable def sPut (i : Nat) (fk fv : Env → Out D) : Env → SO := fun ρ => oS (fv ρ) fun v => oS (eV i ρ) fun x => oS (fk ρ) fun k => oS (putO x k v) fun y => .nx (ρ.set i (some y))
theorem psx_put {kk : Nat} {g : G} {E : WX} {ro : Bool} {Γl Γ Γ1 Γ2 : List Bool} {pos pos' p : Pos} {i : Nat} {x : Str} {b c : Expr} {fb fc : Env → Out D} (hr : Room kk X.A) (h : PE X (.Name x p) (tVar i)) (hc : PX X g E Γ c Γ1 .fr fc) (hb : PX X g E Γ1 b Γ2 .rd fb) (o : Γ2.getD i false = true)
    (ha : ∀ v, assign (.Subscript (.Name x p) b pos') X.env v = (do
      let ov ← holding [v] (eval (.Name x p) X.env)
      let iv ← holding [v, ov] (eval b X.env)
      standAt pos'
      holding [v, ov, iv] (setItem ov iv v)
      release [v, ov, iv] []) := by intro _; rfl) (hs : swapsWithSole [.Subscript (.Name x p) b pos'] c pos.line X.env = pure false := by rfl) (hw : swappedStores [.Subscript (.Name x p) b pos'] c X.env = pure none := by rfl)
    (h1 : (assignEach [.Subscript (.Name x p) b pos'] X.env).map (·.2) = [assign (.Subscript (.Name x p) b pos') X.env] := by rfl) :
    PSx X g E ro Γl Γ (.Assign [.Subscript (.Name x p) b pos'] c pos) Γ2 (sPut i fb fc) := by
  refine ⟨(ps_asg hc.pe (pg_sub h hb.pe (PD.PSet.or set_list (set_dic hr.units)) ha) hs hw h1).imp fun Dn σ H ⟨ρ, Hf, R, q⟩ => ⟨ρ, Hf, R, ?_⟩⟩
  unfold sPut at q
  refine tG.toS q fun d F1 H1 s1 s2 R1 k1 v hv => ?_
  cases he : eV i ρ with
  | exc x => exact (eV_nx he).elim
  | stuck => rw [he] at k1; exact k1.elim
  | ok dx =>
  rw [he] at k1
  have e := eV_ok he
  have oo : Own Γ1 i := hb.le i o
  obtain ⟨vx, es, io⟩ := R1.own i _ oo e
  refine ⟨vx, es, ρ, F1, R1, ?_⟩
  refine tG.toS k1 fun y F2 H2 s3 s4 R2 k2 u hu => ?_
  obtain ⟨vx', es', io'⟩ := R2.own i _ o e
  rw [es] at es'
  obtain rfl : vx = vx' := Option.some.inj (Option.some.inj es')
  unfold putO at k2
  split at k2
  · rename_i _ xs j
    cases hu
    obtain ⟨p, ys, rfl, z0, zf, qH, r⟩ := io'
    cases hix : ixN xs.length j with
    | none => rw [hix] at k2; exact k2.elim
    | some n =>
      rw [hix] at k2
      refine .inl ⟨p, ys, j, n, rfl, rfl, qH, by rw [r.len]; exact hix, ?_⟩
      exact k2 σ F2 _ (R2.wr o e rfl es z0 zf ⟨p, _, rfl, z0, zf, upd_same, IsDs.set (IsD.mono s3 hv) n r⟩)
  · rename_i _ _ kvs
    obtain ⟨p, ob, rfl, z0, zf, qH, r⟩ := io'
    by_cases c : DKey kvs y ∧ kvs.length < sizeLine
    · rw [chk_pos c] at k2
      refine .inr ⟨p, F2, kvs, y, d, rfl, ⟨ob, R2.same, .inl qH, r, dkey_flat c.1 hu, c.1⟩, mut_of_own qH r, c.2, IsD.mono s3 hv, fun o' da => ?_⟩
      exact k2 σ F2 _ (R2.wr o e rfl es z0 zf ⟨p, o', rfl, z0, zf, upd_same, da⟩)
    · rw [chk_neg c] at k2; exact k2.elim
  · exact k2.elim
end
theorem dIx_lst {ds : List D} {k : Nat} {d : D} (h : ds[k]? = some d) : dIx (.lst ds) (.int k) = .ok d := by
  show (match atI ds (k : Nat) with | some n => Out.ok n | none => .stuck) = _
  rw [atI_nat h]
theorem dIx_tup {ds : List D} {k : Nat} {d : D} (h : ds[k]? = some d) : dIx (.tup ds) (.int k) = .ok d := by
  show (match atI ds (k : Nat) with | some n => Out.ok n | none => .stuck) = _
  rw [atI_nat h]
end PD

namespace PD
open PySem PySem.Calls PyProof.Rows
open PySem.W (EachIs AllAlike Sortable SortsAt dataKind dataType dataLt alike alikeAll dataLe keyToks keyToksAll)

section
variable {prog : Program} {w : World} {A : Around} {E : Value → Shared → Prop} {s : Shared}
theorem call_tuple_lt {Q : Value → Shared → Prop} {l b : Addr} {items items2 : Array Value} {e r : Nat → Bool} (hl : s.heap.IsTuple l items) (hb : s.heap.IsTuple b items2)
    (he : ∀ j (h1 : j < items.size) (h2 : j < items2.size), SeqAt.EqAt A.in1 s items[j] items2[j] (e j)) (hr : ∀ j (h1 : j < items.size) (h2 : j < items2.size), e j = false → SeqAt.RcLt A.in1 s items[j] items2[j] (r j))
    (h : Q (.bool (SeqAt.firstLt e r (decide (items.size < items2.size)) (List.range (min items.size items2.size)))) s) : wpAny (model prog w) A (call (.builtin "tuple.__lt__") [.ref l, .ref b]) Q E s := by
  obtain ⟨⟨cls, dd, data, sl⟩, ho, hc, n, hd⟩ := id hl
  obtain ⟨⟨cls2, dd2, data2, sl2⟩, ho2, hc2, n2, hd2⟩ := id hb
  simp only at hc hd hc2 hd2
  subst hc hd hc2 hd2
  exact call_meets F.slot_tuple_lt ⟨_, ho, rfl⟩ F.entry_tuple_lt (F.args_tuple_lt_2 _ _) (SeqAt.tuple_ltAt l b items items2 n n2 dd dd2 sl sl2 e r) ⟨ho, ho2, he, hr, h⟩
theorem oneLt_tup {xs ys : List PyData} {a b : Value} {as bs : List Addr} {Q : Bool → Shared → Prop} (ra : Reads s.heap a (.tuple xs) as) (rb : Reads s.heap b (.tuple ys) bs) (h : alike (.tuple xs) (.tuple ys) = true)
    (hu : A.units + min (PyData.tuple xs).depth (PyData.tuple ys).depth < cLine) (hq : Q (dataLt (.tuple xs) (.tuple ys)) s) : wpAny (model prog w) A (oneLt' true a b) Q E s := by
  have hal : alikeAll xs ys = true := by simpa [alike] using h
  cases ra with
  | @tuple l o vs n _ as₁ h1 h2 h3 h4 =>
    cases rb with
    | @tuple l' o' vs' n' _ bs₁ k1 k2 k3 k4 =>
      have n1 : vs.size = xs.length := by simpa using SeqAt.ReadsAll.length _ _ _ h4
      have n2 : vs'.size = ys.length := by simpa using SeqAt.ReadsAll.length _ _ _ k4
      rw [PySem.W.dataLt_tuple, ← PySem.W.firstLt_toks xs ys hal, ← n1, ← n2] at hq
      rw [oneLt'_eq]
      simp only [if_true]
      refine wpAny_bind (wpAny_cRoomFor (SeqAt.room_here hu) ?_)
      refine wpAny_bind (wpAny_callSpecialIfBound?_slot (T := "tuple") ⟨_, h1, h2⟩ F.slot_tuple_lt (call_tuple_lt (e := SeqAt.pairEq xs ys) (r := fun j => dataLt (xs.getD j .none) (ys.getD j .none)) ⟨_, h1, h2, _, h3⟩ ⟨_, k1, k2, _, k3⟩ (fun j j1 j2 => ?_) (fun j j1 j2 hj => ?_) ?_))
      · have := PySem.W.eqAt_alikeAll xs ys A.in1 s vs.toList vs'.toList _ _ h4 k4 hal (SeqAt.room_in hu) j (by simpa using j1) (by simpa using j2)
        simpa using this
      · have := PySem.W.rcLt_alikeAll xs ys A.in1 s vs.toList vs'.toList _ _ h4 k4 hal (SeqAt.room_in hu) j (by simpa using j1) (by simpa using j2) hj
        simpa using this
      · exact wpAny_truthy_bool hq
def fullT : PyData → Bool
  | .tuple (_ :: _) => true
  | _ => false
theorem firsts_any : ∀ (vs : List Value) (ds : List PyData) {Q : List (Option Value) → Shared → Prop}, EachIs (fun v d => ∃ as, Reads s.heap v d as) vs ds → (∀ d ∈ ds, ∃ xs, d = .tuple xs) →
    (∀ fs : List (Option Value), EachIs (fun f d => f.isSome = fullT d) fs ds → Q fs s) → wpAny (model prog w) A (vs.mapM firstOfTuple') Q E s
  | [], [], Q, _, _, h => by rw [List.mapM_nil]; exact wpAny_pure (h [] .nil)
  | v :: vs, d :: ds, Q, .cons ⟨as, r⟩ t, ht, h => by
    obtain ⟨xs, rfl⟩ := ht d List.mem_cons_self
    rw [List.mapM_cons]
    refine wpAny_bind ?_
    cases r with
    | @tuple a o its n _ _ ho hc hd hr =>
      rw [PySem.W.kas_first_eq]
      refine wpAny_bind (PySem.W.Looks.here (show PySem.W.Looks _ s.heap (typeOf (.ref a)) o.cls from (PySem.W.Looks.ld ho).andThen .now) ?_)
      rw [hc, if_neg (by first | decide | simp)]
      refine wpAny_bind (listItems_at ho hd (wpAny_pure ?_))
      refine wpAny_bind (firsts_any vs ds t (fun d hd => ht d (List.mem_cons_of_mem _ hd)) fun fs ef => wpAny_pure (h _ (.cons ?_ ef)))
      have hl := SeqAt.ReadsAll.length _ _ _ hr
      cases xs with
      | nil =>
        have : its = #[] := by
          rw [Array.length_toList] at hl
          exact Array.eq_empty_of_size_eq_zero hl
        subst this
        rfl
      | cons x xs =>
        have : 0 < its.size := by
          rw [Array.length_toList] at hl
          rw [hl]; simp
        rw [Array.getElem?_eq_getElem this]
        rfl
theorem each_all {fs : List (Option Value)} {ds : List PyData} (h : EachIs (fun f d => f.isSome = fullT d) fs ds) : (fs.all fun f => f.isSome) = ds.all fullT := by
  induction h with
  | nil => rfl
  | cons h _ ih => rw [List.all_cons, List.all_cons, h, ih]
theorem sortsAt_mixed {vs : List Value} {ds : List PyData} (e : EachIs (fun v d => ∃ as, Reads s.heap v d as) vs ds) (hal : AllAlike ds) (ht : ∀ d ∈ ds, ∃ xs, d = .tuple xs) (hn : ds.all fullT = false) (hu : ∀ d, d ∈ ds → A.units + d.depth < cLine) :
    SortsAt prog w A s (dataKind s.heap ds) vs := by
  have room : ∀ {d d' : PyData}, d ∈ ds → A.units + min d.depth d'.depth < cLine := fun {d d'} hd => Nat.lt_of_le_of_lt (Nat.add_le_add_left (Nat.min_le_left _ _) _) (hu d hd)
  have kk : ∀ (h2 : 2 ≤ vs.length) (E : Value → Shared → Prop) {Q : SortKind → Shared → Prop}, Q (if fullT (ds.headD .none) = true then general' else oneType') s → wpAny (model prog w) A (keyKind' vs.toArray) Q E s := by
    intro h2 E Q hq
    rw [kat_kind_eq, List.mapM_toArray, map_eq_pure_bind]
    refine wpAny_bind (wpAny_bind (firsts_any vs ds e ht fun fs ef => wpAny_pure ?_))
    have a1 := each_all ef
    rw [if_neg (by rw [List.all_toArray, a1, hn]; exact Bool.false_ne_true)]
    cases ef with
    | nil =>
      cases e
      exact absurd h2 (by simp)
    | @cons f d fs ds' hf tf =>
      have h0 : ((f :: fs).toArray[0]?.bind id) = f := by simp
      rw [h0]
      have hq' : Q (if fullT d = true then general' else oneType') s := hq
      by_cases c : fullT d = true
      · rw [if_pos (by rw [hf]; exact c)]
        rw [if_pos c] at hq'
        exact wpAny_pure hq'
      · rw [if_neg (by rw [hf]; exact c)]
        rw [if_neg c] at hq'
        rw [oneTypeOnly'_eq, List.mapM_toArray, map_eq_pure_bind]
        refine wpAny_bind (wpAny_bind (wpAny_bind (PySem.W.kas_mapM (r := Value.type "tuple") _ (fun v hv Q' hq => ?_) (wpAny_pure ?_))))
        · obtain ⟨d', hd', as, r⟩ := e.left v hv
          obtain ⟨xs, rfl⟩ := ht d' hd'
          exact (PySem.W.looks_reads r).here hq
        · have hall : ((List.map (fun _ => Value.type "tuple") vs).toArray.all fun x => x == Value.type "tuple") = true := by
            simp only [List.all_toArray, List.all_map, List.all_eq_true]
            intro _ _
            exact beq_self_eq_true _
          cases vs with
          | nil => cases e
          | cons v vs =>
            have h0 : (List.map (fun _ => Value.type "tuple") (v :: vs)).toArray[0]? = some (Value.type "tuple") := by simp
            rw [h0]
            simp only [hall, if_true]
            exact wpAny_pure (wpAny_pure hq')
  refine ⟨fun v hv => ?_, if fullT (ds.headD .none) = true then general' else oneType', ?_, fun h2 E Q hq => kk h2 E hq⟩
  · obtain ⟨d, hd, as, r⟩ := e.left v hv
    exact ⟨_, PySem.W.dataKind_some hal hd r⟩
  · intro E x y a b Q ha hb hq
    obtain ⟨d, as, hd, ra, rfl⟩ := PySem.W.dataKind_inv ha
    obtain ⟨d', as', hd', rb, rfl⟩ := PySem.W.dataKind_inv hb
    obtain ⟨xs, rfl⟩ := ht d hd
    obtain ⟨ys, rfl⟩ := ht d' hd'
    have hq' : Q (dataLt (.tuple xs) (.tuple ys)) s := hq
    by_cases c : fullT (ds.headD .none) = true
    · rw [if_pos c]
      show wpAny (model prog w) A (oneLt' false x y) Q E s
      exact PySem.W.oneLt_alike (f := false) (fun q => nomatch q) ra rb (hal _ hd _ hd') (fun q => nomatch q) (room hd) hq'
    · rw [if_neg c]
      rw [keyLt'_oneType]
      exact oneLt_tup ra rb (hal _ hd _ hd') (room hd) hq'
def SortX (ds : List PyData) : Prop := Sortable ds ∨ ∀ d ∈ ds, ∃ xs, d = .tuple xs
theorem fullT_of {d : PyData} (h : fullT d = true) : ∃ x r, d = .tuple (x :: r) := by
  cases d with
  | tuple xs => cases xs with
    | nil => cases h
    | cons x r => exact ⟨x, r, rfl⟩
  | _ => cases h
theorem sortsAt_any {vs : List Value} {ds : List PyData} (e : EachIs (fun v d => ∃ as, Reads s.heap v d as) vs ds) (hal : AllAlike ds) (hk : SortX ds) (hu : ∀ d, d ∈ ds → A.units + d.depth < cLine) :
    SortsAt prog w A s (dataKind s.heap ds) vs := by
  rcases hk with hk | ht
  · exact SortsAt.data e hal hk hu
  · cases c : ds.all fullT with
    | true => exact SortsAt.data e hal (.inl fun d hd => fullT_of (List.all_eq_true.mp c d hd)) hu
    | false => exact sortsAt_mixed e hal ht c hu
variable {β : Type} {vs : List Value} {bs : List β} {enc : β → PyData} {R : Value → β → Prop}
theorem sorted_any {l : Addr} {Q : Value → Shared → Prop} (hl : s.heap.IsList l vs.toArray) (e : EachIs R vs bs) (er : EachIs (fun v b => ∃ as, Reads s.heap v (enc b) as) vs bs) (hal : AllAlike (bs.map enc)) (hk : SortX (bs.map enc)) (hL : bs.length ≤ sizeLine)
    (hu : ∀ b, b ∈ bs → A.units + 2 + (enc b).depth < cLine) (h : ∀ out, out.length = bs.length → EachIs R out (bs.mergeSort (dataLe false enc)) → Q (.ref (s.heap.objs.size + 1)) { s with heap := sortedAll s.heap vs (List.toArray out) }) :
    wpAny (model prog w) A (call (.builtin "sorted") [.ref l]) Q E s := by
  have er' : EachIs (fun v b => ∃ as, Reads (PySem.W.sortingHeap (PySem.W.copyHeap s.heap vs) (s.heap.objs.size + 1) vs) v (enc b) as) vs bs := er.mono fun _ _ ⟨as, r⟩ => ⟨as, PyProof.Rows.Reads.keeps (fun _ _ => PySem.W.sorting_copy_old) r⟩
  exact PySem.W.sorted_vals hl (sortsAt_any (s := { s with heap := PySem.W.sortingHeap (PySem.W.copyHeap s.heap vs) (s.heap.objs.size + 1) vs }) (PySem.W.each_map (R := fun v d => ∃ as, Reads (PySem.W.sortingHeap (PySem.W.copyHeap s.heap vs) (s.heap.objs.size + 1) vs) v d as) enc er') hal hk (PySem.W.bound_map hu)) (by rw [e.length]; exact hL)
    (h _ (by rw [PySem.W.sortVals_length false rfl]; exact e.length) (PySem.W.sortVals_data false e er' hal))
end
end PD

namespace PD
section
open PySem PySem.Calls PyProof.Rows
open PySem.W (EachIs AllAlike Sortable SortsAt dataKind dataType dataLt alike alikeAll dataLe keyToks keyToksAll)
theorem lexAt_first {e r : Nat → Bool} {z : Bool} : ∀ (k i : Nat), Ob.lexAt e (fun j => !r j) (!z) i k = !SeqAt.firstLt e r z (List.range' i k)
  | 0, i => rfl
  | k + 1, i => by
    rw [Ob.lexAt_succ, List.range'_succ]
    unfold SeqAt.firstLt
    by_cases h : e i = true
    · rw [if_pos h, if_pos h, lexAt_first k (i + 1)]
    · rw [if_neg h, if_neg h]
theorem readsAll_at {h : Heap} : ∀ {xs : List PyData} {vs : List Value} {as : List Addr} (j : Nat) (h1 : j < vs.length) (h2 : j < xs.length), ReadsAll h vs xs as → ∃ as', Reads h vs[j] xs[j] as'
  | x :: xs, v :: vs, _, 0, _, _, r => by
    cases r with
    | cons r1 r2 => exact ⟨_, r1⟩
  | x :: xs, v :: vs, _, j + 1, h1, h2, r => by
    cases r with
    | cons r1 r2 => exact readsAll_at j (by simpa using h1) (by simpa using h2) r2
theorem alikeAll_at : ∀ {xs ys : List PyData} (j : Nat) (h1 : j < xs.length) (h2 : j < ys.length), alikeAll xs ys = true → alike xs[j] ys[j] = true
  | x :: xs, y :: ys, 0, _, _, h => (PySem.W.alike_all_cons h).1
  | x :: xs, y :: ys, j + 1, h1, h2, h => alikeAll_at j (by simpa using h1) (by simpa using h2) (PySem.W.alike_all_cons h).2
theorem rcGe_key (n : Nat) : ∀ (da db : PyData) (A : Around) (s : Shared) (a b : Value) (as bs : List Addr), da.depth ≤ n → keyP da = true → Reads s.heap a da as → Reads s.heap b db bs → alike da db = true → A.units + n < cLine → Ob.RcOp .GtE A s a b (!dataLt da db) := by
  induction n with
  | zero =>
    intro da db A s a b as bs hn hk ra rb h hu
    cases da with
    | int x =>
      cases db with
      | int y =>
        cases ra; cases rb
        rw [PySem.W.dataLt_int]
        have := Ob.RcOp.ge_int (A := A) (s := s) x y ‹Tok› ‹Tok›
        intro prog w E Q hq
        refine PyProof.Rows.ge_int ?_
        have e : decide (y ≤ x) = !decide (x < y) := by rw [← decide_not]; exact decide_eq_decide.mpr Int.not_lt.symm
        rw [e]; exact hq
      | _ => exact absurd h (by simp [alike])
    | str x =>
      cases db with
      | str y =>
        cases ra; cases rb
        rw [PySem.W.dataLt_str]
        intro prog w E Q hq
        exact PySem.P.ge_str hq
      | _ => exact absurd h (by simp [alike])
    | tuple xs => simp [PyData.depth] at hn
    | _ => exact nomatch hk
  | succ n ih =>
    intro da db A s a b as bs hn hk ra rb h hu
    cases da with
    | int x =>
      cases db with
      | int y =>
        cases ra; cases rb
        rw [PySem.W.dataLt_int]
        intro prog w E Q hq
        refine PyProof.Rows.ge_int ?_
        have e : decide (y ≤ x) = !decide (x < y) := by rw [← decide_not]; exact decide_eq_decide.mpr Int.not_lt.symm
        rw [e]; exact hq
      | _ => exact absurd h (by simp [alike])
    | str x =>
      cases db with
      | str y =>
        cases ra; cases rb
        rw [PySem.W.dataLt_str]
        intro prog w E Q hq
        exact PySem.P.ge_str hq
      | _ => exact absurd h (by simp [alike])
    | tuple xs =>
      cases db with
      | tuple ys =>
        have hal : alikeAll xs ys = true := by simpa [alike] using h
        have hd : PyData.depthAll xs ≤ n := by simpa [PyData.depth] using hn
        cases ra with
        | @tuple l o vs m _ as₁ h1 h2 h3 h4 =>
          cases rb with
          | @tuple l' o' vs' m' _ bs₁ k1 k2 k3 k4 =>
            have n1 : vs.size = xs.length := by simpa using SeqAt.ReadsAll.length _ _ _ h4
            have n2 : vs'.size = ys.length := by simpa using SeqAt.ReadsAll.length _ _ _ k4
            have hu1 : A.in1.units + min (PyData.depthAll xs) (PyData.depthAll ys) < cLine := by
              show A.units + 1 + min (PyData.depthAll xs) (PyData.depthAll ys) < cLine
              have := Nat.min_le_left (PyData.depthAll xs) (PyData.depthAll ys)
              omega
            have q := Ob.RcOp.tuples_ge (A := A) (s := s) (e := SeqAt.pairEq xs ys) (r := fun j => !dataLt (xs.getD j .none) (ys.getD j .none)) ⟨_, h1, h2, _, h3⟩ ⟨_, k1, k2, _, k3⟩ (by omega) (fun j j1 j2 => by
                have := PySem.W.eqAt_alikeAll xs ys A.in1 s vs.toList vs'.toList _ _ h4 k4 hal hu1 j (by simpa using j1) (by simpa using j2)
                simpa using this) (fun j j1 j2 hj => by
                obtain ⟨as', r1⟩ := readsAll_at j (by simpa using j1) (by omega) h4
                obtain ⟨bs', r2⟩ := readsAll_at j (by simpa using j2) (by omega) k4
                have g1 : xs.getD j .none = xs[j]'(by omega) := by rw [List.getD_eq_getElem?_getD, List.getElem?_eq_getElem (by omega)]; rfl
                have g2 : ys.getD j .none = ys[j]'(by omega) := by rw [List.getD_eq_getElem?_getD, List.getElem?_eq_getElem (by omega)]; rfl
                rw [g1, g2]
                have hm : xs[j]'(by omega) ∈ xs := List.getElem_mem _
                refine ih _ _ A.in1 s _ _ as' bs' (Nat.le_trans (depth_mem hm) hd) (keysP_mem hk _ hm) (by simpa using r1) (by simpa using r2) (alikeAll_at j (by omega) (by omega) hal) ?_
                show A.units + 1 + n < cLine
                omega)
            have z : decide (vs.size ≥ vs'.size) = !decide (xs.length < ys.length) := by
              rw [n1, n2, ← decide_not]; exact decide_eq_decide.mpr Nat.not_lt.symm
            rw [PySem.W.dataLt_tuple, ← PySem.W.firstLt_toks xs ys hal, List.range_eq_range', ← lexAt_first, ← n1, ← n2]
            rw [← n1, ← n2] at z
            intro prog w E Q hq
            refine q prog w E Q ?_
            rw [← z] at hq
            exact hq
      | _ => exact absurd h (by simp [alike])
    | _ => exact nomatch hk
end
end PD

namespace PD
open PySem PySem.Spec L2
open PyProof.Rows hiding St
open PySem.W (EachIs AllAlike dataLt alike dataLe)

def OrdOk (x y : D) : Prop := keyP (toPy x) = true ∧ keyP (toPy y) = true ∧ alike (toPy x) (toPy y) = true ∧ (toPy x).depth ≤ 60 ∧ ∃ ds, x = .tup ds
noncomputable def dLtK : D → D → Out D := fun x y => chk (OrdOk x y) (.ok (.bl (dataLt (toPy x) (toPy y))))
noncomputable def dGeK : D → D → Out D := fun x y => chk (OrdOk x y) (.ok (.bl (!dataLt (toPy x) (toPy y))))
section
variable {X : Cx} {m : Md}
def rOrd (X : Cx) (F : Bool → Bool) : R2 := fun x y H Q => ∃ d e, Dp X.K H x d ∧ Dp X.K H y e ∧ keyP d = true ∧ alike d e = true ∧ d.depth ≤ 60 ∧ Q (.bl (F (dataLt d e))) H
theorem op_ltK (hu : X.A.units + 64 < cLine) : OpR X (compareOp .Lt) (rOrd X id) := by
  intro pins s σ H x y v u Q I rx ry h
  obtain ⟨d, e, hd, he, kd, al, dp, q⟩ := h
  obtain ⟨as, r1⟩ := Dp.reads I d x v hd rx
  obtain ⟨bs, r2⟩ := Dp.reads I e y u he ry
  refine PySem.W.rcLt_alike d e X.A s v u as bs r1 r2 al (fun z => by subst z; cases kd) ?_ X.prog X.w _ _ ⟨.bl _, H, I, rfl, q⟩
  have := Nat.min_le_left d.depth e.depth
  omega
theorem op_geK (hu : X.A.units + 64 < cLine) : OpR X (compareOp .GtE) (rOrd X not) := by
  intro pins s σ H x y v u Q I rx ry h
  obtain ⟨d, e, hd, he, kd, al, dp, q⟩ := h
  obtain ⟨as, r1⟩ := Dp.reads I d x v hd rx
  obtain ⟨bs, r2⟩ := Dp.reads I e y u he ry
  exact rcGe_key 60 d e X.A s v u as bs dp kd r1 r2 al (by omega) X.prog X.w _ _ ⟨.bl _, H, I, rfl, q⟩
theorem od_ltK {kk : Nat} (hr : Room kk X.A) : OpD X (compareOp .Lt) m dLtK := by
  refine ⟨_, op_ltK hr.units, fun g E Γ ρ σ Hf H x y v u Q R hx hy k => ?_⟩
  unfold dLtK at k
  by_cases c : OrdOk x y
  · rw [chk_pos c] at k
    obtain ⟨c1, c2, c3, c4, _⟩ := c
    exact ⟨toPy x, toPy y, dp_read R.same hx (keyP_lay _ c1), dp_read R.same hy (keyP_lay _ c2), c1, c3, c4, k Hf H (Same.refl _) (Same.refl _) R _ (Res.dat R.same rfl (by simp only [IsD, id]))⟩
  · rw [chk_neg c] at k; exact k.elim
theorem od_geK {kk : Nat} (hr : Room kk X.A) : OpD X (compareOp .GtE) m dGeK := by
  refine ⟨_, op_geK hr.units, fun g E Γ ρ σ Hf H x y v u Q R hx hy k => ?_⟩
  unfold dGeK at k
  by_cases c : OrdOk x y
  · rw [chk_pos c] at k
    obtain ⟨c1, c2, c3, c4, _⟩ := c
    exact ⟨toPy x, toPy y, dp_read R.same hx (keyP_lay _ c1), dp_read R.same hy (keyP_lay _ c2), c1, c3, c4, k Hf H (Same.refl _) (Same.refl _) R _ (Res.dat R.same rfl (by simp only [IsD]))⟩
  · rw [chk_neg c] at k; exact k.elim
noncomputable def dLt : D → D → Out D := dOr dLtI (dOr dLtS dLtK)
noncomputable def dGe : D → D → Out D := dOr dGeI (dOr dGeS dGeK)
theorem od_lt {k : Nat} (hr : Room k X.A) : OpD X (compareOp .Lt) m dLt := od_ltI.or ((opd_str op_lt_str).or (od_ltK hr))
theorem od_ge {k : Nat} (hr : Room k X.A) : OpD X (compareOp .GtE) m dGe := od_geI.or ((opd_str op_ge_str).or (od_geK hr))

noncomputable def sortD (ds : List D) : List D := ds.mergeSort (dataLe false toPy)
def SOk (ds : List D) : Prop := AllAlike (ds.map toPy) ∧ SortX (ds.map toPy) ∧ (∀ d ∈ ds, (toPy d).canLay0 = true ∧ (toPy d).depth ≤ 60) ∧ ds.length ≤ sizeLine
def RD (K : PySem.W.Frag) (mg : Mg) (Hf : Hp) : Value → D → Prop := fun u d => ∃ v, RelV v u ∧ IsD K mg Hf d v
theorem each_of {K : PySem.W.Frag} {mg : Mg} {Hf : Hp} : ∀ {ds : List D} {vs : List V} {us : List Value}, IsDs K mg Hf ds vs → Vals vs us → EachIs (RD K mg Hf) us ds
  | [], _, _, h, r => by simp only [IsDs] at h; subst h; cases r; exact .nil
  | d :: ds, _, _, h, r => by
    simp only [IsDs] at h
    obtain ⟨v, vs, rfl, q, t⟩ := h
    cases r with
    | cons r1 r2 => exact .cons ⟨v, r1, q⟩ (each_of t r2)
theorem of_each {K : PySem.W.Frag} {mg : Mg} {Hf : Hp} : ∀ {ds : List D} {us : List Value}, EachIs (RD K mg Hf) us ds → ∃ vs, IsDs K mg Hf ds vs ∧ Vals vs us
  | [], _, h => by cases h; exact ⟨[], by simp only [IsDs], .nil⟩
  | d :: ds, _, h => by
    cases h with
    | cons h1 t =>
      obtain ⟨v, r1, q⟩ := h1
      obtain ⟨vs, i, r2⟩ := of_each t
      exact ⟨v :: vs, by simp only [IsDs]; exact ⟨v, vs, rfl, q, i⟩, .cons r1 r2⟩
theorem each_reads {pins : List (Addr × Obj)} {σ : St} {H Hf : Hp} {s : Shared} (I : Inv X pins σ H s) (sm : Same Hf H) : ∀ {ds : List D} {us : List Value}, (∀ d ∈ ds, (toPy d).canLay0 = true) → EachIs (RD X.K X.mw Hf) us ds → EachIs (fun u d => ∃ as, Reads s.heap u (toPy d) as) us ds
  | [], _, _, h => by cases h; exact .nil
  | d :: ds, _, l, h => by
    cases h with
    | cons h1 t =>
      obtain ⟨v, r1, q⟩ := h1
      exact .cons (Dp.reads I (toPy d) v _ (dp_of (IsD.mono sm q) (l d List.mem_cons_self)) r1) (each_reads I sm (fun d hd => l d (List.mem_cons_of_mem _ hd)) t)
def rSortL (X : Cx) : List V → Hp → VK → Prop := fun vs H Q => ∃ a Hf ds xs, vs = [V.ref a] ∧ Same Hf H ∧ SqL X.K H a xs ∧ IsDs X.K X.mw Hf ds xs ∧ SOk ds ∧ ∀ p ys, H p = none → IsDs X.K X.mw Hf (sortD ds) ys → Q (.ref p) (upd H p (.lst ys))
theorem cr_sortL (hu : X.A.units + 64 < cLine) : CallR X (.builtin "sorted") (rSortL X) := by
  intro pins s σ H vs us Q I r h
  obtain ⟨a, Hf, ds, xs, rfl, sm, hs, hi, ⟨o1, o2, o3, o4⟩, q⟩ := h
  obtain ⟨its, rv, hl, hz⟩ := I.list hs
  rw [Vals.ref1 r]
  have e1 := each_of hi rv
  refine sorted_any hl.isList e1 (each_reads I sm (fun d hd => (o3 d hd).1) e1) o1 o2 o4 (fun d hd => by have := (o3 d hd).2; omega) fun out hl2 eo => ?_
  obtain ⟨ys, iy, vy⟩ := of_each eo
  obtain ⟨ep, he'⟩ := PyProof.Rows.sortedAll_at s.heap its out.toArray
  have hlen : ys.length ≤ sizeLine := by rw [vy.length, hl2]; exact o4
  exact ⟨.ref _, upd H (s.heap.objs.size + 1) (.lst ys), I.laid (t' := s.toks) (fun _ _ => PyProof.Rows.sortedAll_old) (Nat.le_succ _) ⟨hlen, out, ep, vy, he'⟩, rfl, q _ ys (I.hok.fresh (Nat.le_succ _)) iy⟩
theorem dic_keys {pins : List (Addr × Obj)} {σ : St} {H Hf : Hp} {s : Shared} {kvs : List (D × D)} {a : Addr} {o : HO} (I : Inv X pins σ H s) (hd : Rd H a o) (hk : DicAt X.K X.mw Hf kvs a o) :
    (a == sysModules) = false ∧ kvs.length ≤ sizeLine ∧ ∃ ob es ep, s.heap.get? a = some ob ∧ ob.ExactDict ∧ ob.data = .dict es ep ∧ ∃ vs, IsDs X.K X.mw Hf (kvs.map (·.1)) vs ∧ Vals vs (es.toList.map (·.key)) := by
  have ok := hd.ok I.hok
  rcases hk with ⟨xs, rfl, r⟩ | ⟨zs, rfl, r⟩
  · obtain ⟨z, hsys, vs, rel, ob, es, ep, h1, h2, h3, h4, h5, h6⟩ := (show ObjOk X.prog X.w H s.heap a (.dK xs) from ok)
    refine ⟨hsys, by rw [← r.len]; exact z, ob, es, ep, h1, h2, h3, xs.map fun p => kV p.1, ?_, ?_⟩
    · clear z rel h5 h6 ok hd
      induction kvs generalizing xs with
      | nil => simp only [IsKVs] at r; subst r; simp only [List.map_nil, IsDs]
      | cons p kvs ih =>
        obtain ⟨k, d⟩ := p
        simp only [IsKVs, IsKV] at r
        obtain ⟨⟨κ, v⟩, us, rfl, ⟨e, _⟩, r⟩ := r
        simp only at e
        subst e
        simp only [List.map_cons, IsDs]
        exact ⟨_, _, rfl, by cases κ <;> simp only [kD, kV, IsD], ih _ r⟩
    · have key : ∀ {es : List DictEntry} {vs : List (Key × Value)} {xs : List (Key × V)}, Pairs (mixKind X.prog X.w) es vs → KV xs vs → Vals (xs.map fun p => kV p.1) (es.map (·.key)) := by
        intro es vs xs hp
        induction hp generalizing xs with
        | nil => intro hkv; cases hkv; exact .nil
        | @cons e kv es kvs h1 h2 _ ih =>
          intro hkv
          cases hkv with
          | @cons p _ ps _ hh tt =>
            rw [List.map_cons, List.map_cons]
            refine .cons ?_ (ih tt)
            rw [hh.1]
            have h1' : keyIs kv.1 e.key = true := h1
            rcases keyIs_shape h1' with ⟨i, t, ek, ev⟩ | ⟨x, t, ek, ev⟩
            · rw [ek, ev]; exact ⟨t, rfl⟩
            · rw [ek, ev]; exact ⟨t, rfl⟩
      exact key h5 rel
  · obtain ⟨hne, hsys, z, ws, rel, ob, es, ep, h1, h2, h3, h4, h5⟩ := (show ObjOk X.prog X.w H s.heap a (dT X.w a zs) from ok).1
    clear hne
    refine ⟨hsys, by rw [← r.len]; exact z, ob, es, ep, h1, h2, h3, zs.map fun p => V.ref p.2.1, ?_, ?_⟩
    · clear z rel h4 h5 ok hd
      induction kvs generalizing zs with
      | nil => simp only [IsKTs] at r; subst r; simp only [List.map_nil, IsDs]
      | cons p kvs ih =>
        obtain ⟨k, d⟩ := p
        simp only [IsKTs, IsKT] at r
        obtain ⟨⟨κ, b, v⟩, us, rfl, ⟨_, _, q, _⟩, r⟩ := r
        simp only [List.map_cons, IsDs]
        exact ⟨_, _, rfl, q, ih _ r⟩
    · rw [h4]
      clear h4 h5 z r ok hd
      induction rel with
      | nil => exact .nil
      | @cons p q ps qs hh _ ih =>
        rw [List.map_cons, List.map_cons, List.map_cons]
        refine .cons ?_ ih
        rw [hh.2.1]; rfl
def rSortDic (X : Cx) : List V → Hp → VK → Prop := fun vs H Q => ∃ a Hf kvs o, vs = [V.ref a] ∧ Same Hf H ∧ Rd H a o ∧ DicAt X.K X.mw Hf kvs a o ∧ SOk (kvs.map (·.1)) ∧ ∀ p ys, H p = none → IsDs X.K X.mw Hf (sortD (kvs.map (·.1))) ys → Q (.ref p) (upd H p (.lst ys))
theorem cr_sortDic (hc : X.calm = true) (hu : X.A.units + 64 < cLine) : CallR X (.builtin "sorted") (rSortDic X) := by
  intro pins s σ H vs us Q I r h
  obtain ⟨a, Hf, kvs, o, rfl, sm, hd, hk, ⟨o1, o2, o3, o4⟩, q⟩ := h
  rw [Vals.ref1 r]
  obtain ⟨lo, hz, ob, es, ep, ho, hx, hdt, xs, hi, rv⟩ := dic_keys I hd hk
  have hes : es.size = kvs.length := by
    have := rv.length
    have h2 := hi.len
    rw [List.length_map] at h2 this
    rw [← Array.length_toList]; omega
  refine Calls.call_function_entry PyProof.Rows.kind_sorted PyProof.Rows.plain_sorted PyProof.Rows.entry_sorted (PyProof.Rows.args_sorted1 _) ?_
  unfold Builtin.«sorted»
  refine wpAny_bind (m := checkCount "sorted" 1 1 _) (wpAny_pure ?_)
  refine wpAny_bind (PySem.W.kdu_collect (A := X.A.in1) (L2.kdl_raw lo hx hdt) (I.ok.hd hc) ho (by rw [hes]; exact hz) fun h' tk acc kk hacc => ?_)
  have ea : acc.toList = es.toList.map (·.key) := by
    have hl : acc.toList.length = es.size := by rw [Array.length_toList, hacc.1]
    apply List.ext_getElem?
    intro j
    rw [List.getElem?_map]
    cases hj : acc.toList[j]? with
    | none =>
      have h1 := List.getElem?_eq_none_iff.mp hj
      rw [List.getElem?_eq_none (by rw [Array.length_toList]; omega)]; rfl
    | some v =>
      obtain ⟨en, hen, hv⟩ := hacc.2 j v (by rw [← Array.getElem?_toList]; exact hj)
      rw [← Array.getElem?_toList] at hen
      rw [hen, hv]; rfl
  have I1 : Inv X pins σ H { s with heap := h', toks := tk } := I.kept kk
  have e1 : EachIs (RD X.K X.mw Hf) acc.toList (kvs.map (·.1)) := by rw [ea]; exact each_of hi rv
  have hal : acc.toList.length = (kvs.map (·.1)).length := e1.length
  refine wpAny_bind (wpAny_newList ?_ (by rw [hal]; exact o4))
  have hoL : (h'.push (seqObj "list" acc.toList.toArray 0)).get? h'.objs.size = some (seqObj "list" acc.toList.toArray 0) := Heap.get?_push_size _ rfl
  show wpAny _ _ _ _ _ { s with heap := h'.push (seqObj "list" acc.toList.toArray 0), toks := tk }
  have er : EachIs (fun u d => ∃ as, Reads (PySem.W.sortingHeap (h'.push (seqObj "list" acc.toList.toArray 0)) h'.objs.size acc.toList) u (toPy d) as) acc.toList (kvs.map (·.1)) := by
    refine (each_reads I1 sm (fun d hd => (o3 d hd).1) e1).mono fun u d ⟨as, rd⟩ => ⟨as, PyProof.Rows.Reads.keeps (fun b ob2 e => ?_) rd⟩
    exact PySem.W.sortingHeap_old (Nat.ne_of_lt (Heap.lt_size e)) (Heap.get?_push_of_some _ e)
  refine wpAny_bind (wpAny_holding (wpAny_call_entry PyProof.Rows.slot_list_sort ⟨_, hoL, rfl⟩ PyProof.Rows.entry_list_sort
    (PySem.W.list_sort_vals (s := { s with heap := h'.push (seqObj "list" acc.toList.toArray 0), toks := tk }) hoL (sortsAt_any (s := { s with heap := PySem.W.sortingHeap (h'.push (seqObj "list" acc.toList.toArray 0)) h'.objs.size acc.toList, toks := tk }) (PySem.W.each_map (R := fun v d => ∃ as, Reads (PySem.W.sortingHeap (h'.push (seqObj "list" acc.toList.toArray 0)) h'.objs.size acc.toList) v d as) toPy er) o1 o2 (PySem.W.bound_map (fun d hd => by
      have := (o3 d hd).2
      show X.A.units + 1 + 1 + (toPy d).depth < cLine
      omega))) (by rw [hal]; exact o4) ⟨_, rfl, ?_⟩)
    (PyProof.Rows.args_list_sort _)))
  have eo := PySem.W.sortVals_data false e1 er o1
  obtain ⟨ys, iy, vy⟩ := of_each eo
  obtain ⟨e', he'⟩ := PyProof.Rows.sortedHeap_at (vs := acc.toList) (out := (PySem.W.sortVals (PySem.W.dataKind (PySem.W.sortingHeap (h'.push (seqObj "list" acc.toList.toArray 0)) h'.objs.size acc.toList) ((kvs.map (·.1)).map toPy)) false acc.toList acc.toList).toArray) hoL
  have hlen : ys.length ≤ sizeLine := by
    rw [iy.len, List.length_mergeSort]; exact o4
  refine wpAny_pure ⟨_, rfl, .ref h'.objs.size, upd H h'.objs.size (.lst ys), I1.laid (t' := tk) (fun b u e => ?_) (Nat.le_refl _)
    (show ObjOk X.prog X.w _ _ _ (.lst ys) from ⟨hlen, _, e', vy, he'⟩), rfl, q _ ys (I1.hok.fresh (Nat.le_refl _)) iy⟩
  have hb : b < h'.objs.size := Heap.lt_size e
  rw [PyProof.Rows.sortedHeap_old (Nat.ne_of_lt hb) (by rw [size_push']; exact Nat.lt_succ_of_lt hb)]
  exact Heap.get?_push_of_some _ e
noncomputable def cSorted : List D → Out D
  | [.lst ds] => chk (SOk ds) (.ok (.lst (sortD ds)))
  | [.dic kvs] => chk (SOk (kvs.map (·.1))) (.ok (.lst (sortD (kvs.map (·.1)))))
  | _ => .stuck
theorem ca_sorted {kk : Nat} (hc : X.calm = true) (hr : Room kk X.A) : CaD X (.builtin "sorted") m cSorted := by
  refine ⟨_, (cr_sortL hr.units).or (cr_sortDic hc hr.units), fun g E Γ ρ σ Hf H ds vs Q R h k => ?_⟩
  unfold cSorted at k
  split at k
  · rename_i ds
    by_cases c : SOk ds
    · rw [chk_pos c] at k
      obtain ⟨v, rfl, p, xs, rfl, q, r⟩ := h.one
      exact .inl ⟨p, Hf, ds, xs, rfl, R.same, .of q, r, c, fun p ys n iy => pv_lst R iy n k⟩
    · rw [chk_neg c] at k; exact k.elim
  · rename_i kvs
    by_cases c : SOk (kvs.map (·.1))
    · rw [chk_pos c] at k
      obtain ⟨v, rfl, p, o, rfl, q, r⟩ := h.one
      exact .inr ⟨p, Hf, kvs, o, rfl, R.same, q, r, c, fun p ys n iy => pv_lst R iy n k⟩
    · rw [chk_neg c] at k; exact k.elim
  · exact k.elim
end
theorem dLt_int (i j : Int) : dLt (.int i) (.int j) = .ok (.bl (decide (i < j))) := rfl
theorem dGe_int (i j : Int) : dGe (.int i) (.int j) = .ok (.bl (decide (j ≤ i))) := rfl
end PD

namespace PD
open PySem PySem.Spec L2
open PyProof.Rows hiding St

theorem bb_sorted : bootBuiltins "sorted" = some (.builtin "sorted") := by decide +kernel
theorem oN_ap (ρ : Env) : oN ρ = .ok none := rfl
theorem oI_ap (f : Env → Out D) (ρ : Env) : oI f ρ = (f ρ).bind fun d => match d with
  | .int i => .ok (some i)
  | _ => .stuck := rfl
theorem eSl_ap (f : Env → Out D) (lo hi : Env → Out (Option Int)) (ρ : Env) : eSl f lo hi ρ = (f ρ).bind fun x => (lo ρ).bind fun l => (hi ρ).bind fun u => dSl x l u := rfl
theorem eSlSt_ap (f : Env → Out D) (lo hi st : Env → Out (Option Int)) (ρ : Env) : eSlSt f lo hi st ρ = (f ρ).bind fun x => (lo ρ).bind fun l => (hi ρ).bind fun u => (st ρ).bind fun s => dSlSt x l u s := rfl
theorem eS2_ap (F : Str → Str → D) (fa fb : Env → Out D) (ρ : Env) : eS2 F fa fb ρ = (fa ρ).bind fun x => match x with
  | .str a => (fb ρ).bind fun y => match y with
    | .str b => .ok (F a b)
    | _ => .stuck
  | _ => .stuck := rfl
theorem eLc_ap (vs : List Nat) (G : D → Env → Out Env) (it : Env → Out (List D)) (tt : Env → Out Bool) (f : Env → Out D) (ρ : Env) : eLc vs G it tt f ρ = (it ρ).bind fun ds => chk (ds.length ≤ sizeLine) ((lcL G tt f (wipeE ρ vs) ds).bind fun ys => .ok (.lst ys)) := rfl
theorem bYes_ap (ρ : Env) : bYes ρ = .ok true := rfl
theorem wipeE_nil (ρ : Env) : wipeE ρ [] = ρ := rfl
theorem wipeE_cons (ρ : Env) (v : Nat) (vs : List Nat) : wipeE ρ (v :: vs) = (wipeE ρ vs).set v none := rfl
theorem eGet2_ap (fd fk fx : Env → Out D) (ρ : Env) : eGet2 fd fk fx ρ = (fd ρ).bind fun d => match d with
  | .dic kvs => (fk ρ).bind fun k => (fx ρ).bind fun x => chk (DKey kvs k) (.ok ((dicGet kvs k).getD x))
  | _ => .stuck := rfl
theorem sPut_ap (i : Nat) (fk fv : Env → Out D) (ρ : Env) : sPut i fk fv ρ = oS (fv ρ) fun v => oS (eV i ρ) fun x => oS (fk ρ) fun k => oS (putO x k v) fun y => .nx (ρ.set i (some y)) := rfl
theorem dSl_lst (ds : List D) (lo hi : Option Int) : dSl (.lst ds) lo hi = .ok (.lst (cutD ds lo hi)) := rfl
theorem dSl_tup (ds : List D) (lo hi : Option Int) : dSl (.tup ds) lo hi = .ok (.tup (cutD ds lo hi)) := rfl
theorem dSl_scr (ns : List Int) (lo hi : Option Int) : dSl (.scr ns) lo hi = .ok (.lst ((cutD ns lo hi).map .int)) := rfl
theorem dSl_str {z : Str} (h : z.length ≤ 16777216) (lo hi : Option Int) : dSl (.str z) lo hi = .ok (.str (cutS z lo hi)) := chk_pos h
theorem cList_lst (ds : List D) : cList [.lst ds] = .ok (.lst ds) := rfl
theorem cList_tup (ds : List D) : cList [.tup ds] = .ok (.lst ds) := rfl
theorem cTuple_lst (ds : List D) : cTuple [.lst ds] = .ok (.tup ds) := rfl
theorem cTuple_tup (ds : List D) : cTuple [.tup ds] = .ok (.tup ds) := rfl
theorem lcL_cons (G : D → Env → Out Env) (tt : Env → Out Bool) (f : Env → Out D) (ρ : Env) (d : D) (ds : List D) : lcL G tt f ρ (d :: ds) = (G d ρ).nox.bind fun ρ1 => (tt ρ1).nox.bind fun b => if b = true then (f ρ1).nox.bind fun y => (lcL G tt f ρ ds).bind fun ys => .ok (y :: ys) else lcL G tt f ρ ds := rfl
end PD

namespace PD
open PySem PySem.Spec L2
open PyProof.Rows hiding St

def SO.at (o : SO) (i : Nat) (d : D) : SO := match o with
  | .nx r => .nx (r.set i (some d))
  | .bk r => .bk (r.set i (some d))
  | .ct r => .ct (r.set i (some d))
  | o => o
section
variable {i j : Nat}
end

noncomputable def sRow (i j : Nat) (fk fv : Env → Out D) : Env → SO := fun r => match r[i]? with
  | some (some (.dic kvs)) => oS (fk r) fun k => chkS (flatK k = true ∧ kvs.length < sizeLine ∧ j < r.length) (match (dicGet kvs k).getD (.lst []) with
    | .lst ds => oS (fv (r.set j none)) fun v => chkS (ds.length < sizeLine) (.nx ((r.set j none).set i (some (.dic (dicPut kvs k (.lst (ds ++ [v])))))))
    | _ => .stuck)
  | _ => .stuck

section
variable {K : PySem.W.Frag} {mg : Mg} {g0 Hf H Hf' H' : Hp}
def RowAt (K : PySem.W.Frag) (mg : Mg) (g0 Hf H : Hp) (d : D) (v : V) : Prop := ∃ ds b ys, d = .lst ds ∧ v = .ref b ∧ g0 b = none ∧ Hf b = none ∧ H b = some (.lst ys) ∧ IsDs K mg Hf ds ys
def Rows (K : PySem.W.Frag) (mg : Mg) (g0 Hf H : Hp) : List (D × D) → List (Key × V) → Prop
  | [], xs => xs = []
  | p :: ps, xs => ∃ q qs, xs = q :: qs ∧ p.1 = kD q.1 ∧ RowAt K mg g0 Hf H p.2 q.2 ∧ Rows K mg g0 Hf H ps qs
theorem RowAt.mono {d : D} {v : V} (s1 : Same Hf Hf') (s2 : Same H H') (nw : ∀ b o, Hf b = none → H b = some o → Hf' b = none) (h : RowAt K mg g0 Hf H d v) : RowAt K mg g0 Hf' H' d v := by
  obtain ⟨ds, b, ys, e1, e2, z0, zf, q, r⟩ := h
  exact ⟨ds, b, ys, e1, e2, z0, nw _ _ zf q, s2 _ _ q, IsDs.mono s1 r⟩
theorem Rows.mono (s1 : Same Hf Hf') (s2 : Same H H') (nw : ∀ b o, Hf b = none → H b = some o → Hf' b = none) : ∀ {ps : List (D × D)} {xs : List (Key × V)}, Rows K mg g0 Hf H ps xs → Rows K mg g0 Hf' H' ps xs
  | [], _, h => h
  | _ :: _, _, ⟨q, qs, e, k, r, t⟩ => ⟨q, qs, e, k, r.mono s1 s2 nw, Rows.mono s1 s2 nw t⟩
theorem Rows.other {b : Addr} {o : HO} : ∀ {ps : List (D × D)} {xs : List (Key × V)}, (V.ref b ∉ xs.map (·.2)) → Rows K mg g0 Hf H ps xs → Rows K mg g0 Hf (upd H b o) ps xs
  | [], _, _, h => h
  | _ :: _, _, n, ⟨q, qs, e, k, ⟨ds, c, ys, e1, e2, z0, zf, hq, r⟩, t⟩ => by
    subst e
    rw [List.map_cons, List.mem_cons, not_or] at n
    exact ⟨q, qs, rfl, k, ⟨ds, c, ys, e1, e2, z0, zf, by rw [upd_ne (fun z => n.1 (by rw [e2, z]))]; exact hq, r⟩, Rows.other n.2 t⟩
theorem Rows.keys : ∀ {ps : List (D × D)} {xs : List (Key × V)}, Rows K mg g0 Hf H ps xs → ps.map (·.1) = xs.map fun q => kD q.1
  | [], _, h => by cases h; rfl
  | _ :: _, _, ⟨q, qs, e, k, _, t⟩ => by subst e; rw [List.map_cons, List.map_cons, k, Rows.keys t]
theorem Rows.len {ps : List (D × D)} {xs : List (Key × V)} (h : Rows K mg g0 Hf H ps xs) : xs.length = ps.length := by
  have := congrArg List.length h.keys
  simpa using this.symm
theorem Rows.get (κ : Key) : ∀ {ps : List (D × D)} {xs : List (Key × V)}, Rows K mg g0 Hf H ps xs → match dicGet ps (kD κ) with
    | some d => ∃ v, valV xs κ = some v ∧ RowAt K mg g0 Hf H d v
    | none => valV xs κ = none
  | [], xs, h => by cases h; rfl
  | (k, d) :: ps, xs, ⟨q, qs, e, k1, r, t⟩ => by
    subst e
    simp only at k1 r
    by_cases z : q.1 = κ
    · rw [dicGet_pos (by rw [k1, z])]
      exact ⟨q.2, valV_pos z, r⟩
    · rw [dicGet_neg (fun y => z (kD_inj (k1.symm.trans y))), valV_neg z]
      exact Rows.get κ t
theorem Rows.snoc {κ : Key} {b : Addr} {ds' : List D} {ys' : List V} (r' : IsDs K mg Hf ds' ys') (z0 : g0 b = none) (zf : Hf b = none) (e : H b = some (.lst ys')) : ∀ {ps : List (D × D)} {xs : List (Key × V)}, Rows K mg g0 Hf H ps xs →
    Rows K mg g0 Hf H (ps ++ [(kD κ, .lst ds')]) (xs ++ [(κ, .ref b)])
  | [], _, h => by cases h; exact ⟨_, [], rfl, rfl, ⟨ds', b, ys', rfl, rfl, z0, zf, e, r'⟩, rfl⟩
  | _ :: _, _, ⟨q, qs, eq, k, r, t⟩ => by
    subst eq
    exact ⟨q, qs ++ [(κ, .ref b)], rfl, k, r, Rows.snoc r' z0 zf e t⟩
theorem Rows.data {F : Hp} (s : Same Hf F) : ∀ {ps : List (D × D)} {xs : List (Key × V)}, (∀ v ∈ xs.map (·.2), ∀ b, v = .ref b → F b = H b) → Rows K mg g0 Hf H ps xs → IsKVs K mg F ps xs
  | [], _, _, h => by cases h; simp only [IsKVs]
  | p :: ps, _, n, ⟨q, qs, eq, k, ⟨ds, c, ys, e3, e4, z0, zf, hq, r⟩, t⟩ => by
    subst eq
    obtain ⟨p1, p2⟩ := p
    simp only [IsKVs, IsKV]
    refine ⟨q, qs, rfl, ⟨k, ?_⟩, Rows.data s (fun v m => n v (List.mem_cons_of_mem _ m)) t⟩
    simp only at e3
    rw [e3]
    simp only [IsD]
    exact ⟨c, ys, e4, (n _ List.mem_cons_self c e4).trans hq, IsDs.mono s r⟩
structure Deep (K : PySem.W.Frag) (mg : Mg) (g0 Hf H : Hp) (a : Addr) (kvs : List (D × D)) (xs : List (Key × V)) : Prop where
  at_ : H a = some (.dK xs)
  z0 : g0 a = none
  zf : Hf a = none
  rows : Rows K mg g0 Hf H kvs xs
  n1 : (xs.map (·.1)).Nodup
  n2 : (xs.map (·.2)).Nodup
theorem Deep.mono {a : Addr} {kvs : List (D × D)} {xs : List (Key × V)} (s1 : Same Hf Hf') (s2 : Same H H') (nw : ∀ b o, Hf b = none → H b = some o → Hf' b = none) (h : Deep K mg g0 Hf H a kvs xs) : Deep K mg g0 Hf' H' a kvs xs :=
  ⟨s2 _ _ h.at_, h.z0, nw _ _ h.zf h.at_, h.rows.mono s1 s2 nw, h.n1, h.n2⟩
end
section
variable {X : Cx} {g : G} {E : WX} {ro : Bool} {Γl Γ Γ1 Γ2 Γ3 : List Bool} {m : Md} {pos : Pos} {ρ ρ' : Env} {σ σ' : St} {Hf H Hf' H' : Hp}
theorem Rp.out (no : ∀ i, ¬ Own Γ i) (R : Rp X.K X.mw g Γ ρ σ Hf H) (R' : Rp X.K X.mw ⟨H, Hf, g.slf⟩ Γ ρ' σ' Hf' H') : Rp X.K X.mw g Γ ρ' σ' Hf' H' := by
  refine ⟨R'.same, R.ent.trans R'.ent, R.ent2.trans R'.ent2, fun a o e => ?_, R'.len, fun i d o e => (no i o).elim, R'.dat, fun i j d e v n o => (no i o).elim⟩
  rcases R'.news a o e with z | z
  · exact R.news a o z
  · exact .inr (R.ent.free z)
theorem Rp.keep (no : ∀ i, ¬ Own Γ i) (R : Rp X.K X.mw g Γ ρ σ Hf H) : Rp X.K X.mw ⟨H, Hf, g.slf⟩ Γ ρ σ Hf H :=
  ⟨R.same, Same.refl _, Same.refl _, fun a o e => .inl e, R.len, fun i d o e => (no i o).elim, R.dat, fun i j d e v n o => (no i o).elim⟩
theorem Rp.nw (R' : Rp X.K X.mw ⟨H, Hf, g.slf⟩ Γ ρ' σ' Hf' H') : ∀ b o, Hf b = none → H b = some o → Hf' b = none := fun b o e1 e2 => by
  cases z : Hf' b with
  | none => rfl
  | some o' =>
    rcases R'.news b o' z with y | y
    · rw [show Hf b = some o' from y] at e1; cases e1
    · rw [show H b = none from y] at e2; cases e2
theorem Rp.adr (R : Rp X.K X.mw g Γ ρ σ Hf H) {i : Nat} {a : Addr} (no : ¬ Own Γ i) (e : ρ[i]? = some (some (.adr a))) : σ[i]? = some (some (.ref a)) := by
  obtain ⟨v, ev, r⟩ := R.dat i _ no e
  simp only [IsD] at r
  subst r
  exact ev
theorem Rp.any (no : ∀ i, ¬ Own Γ i) (R : Rp X.K X.mw g Γ ρ σ Hf H) {a : Addr} {o' : HO} (z0 : g.H0 a = none) (zf : Hf a = none) : Rp X.K X.mw g Γ ρ σ Hf (upd H a o') :=
  R.other z0 zf fun i e o => (no i o).elim
noncomputable def sForR (i : Nat) (G : D → Env → Out Env) (it : Env → Out (List D)) (b : Env → SO) : Env → SO := fun ρ => chkS (ρ[i]? = some (some (.dic []))) (sFor G it b ρ)
end
end PD

namespace PD
open PySem PySem.Spec L2
open PyProof.Rows hiding St

section
variable {X : Cx} {g : G} {E : WX} {ro : Bool} {Γl Γ Γ0 : List Bool}
variable {pos : Pos}
theorem sForR_ap (i : Nat) (G : D → Env → Out Env) (it : Env → Out (List D)) (b : Env → SO) (ρ : Env) : sForR i G it b ρ = chkS (ρ[i]? = some (some (.dic []))) (oS (it ρ) fun ds => forL G b ds ρ) := rfl
def eD (i : Nat) : Env → Out (List (D × D)) := fun ρ => match ρ[i]? with
  | some (some (.dic xs)) => .ok xs
  | _ => .stuck
theorem eD_0 (xs : List (D × D)) (ρ : Env) : eD 0 (some (.dic xs) :: ρ) = .ok xs := rfl
theorem eD_s (i : Nat) (x : Option D) (ρ : Env) : eD (i + 1) (x :: ρ) = eD i ρ := by simp [eD]
def asL : Option D → Out (List D)
  | none => .ok []
  | some (.lst ds) => .ok ds
  | _ => .stuck
theorem asL_none : asL none = .ok [] := rfl
theorem asL_some (ds : List D) : asL (some (.lst ds)) = .ok ds := rfl
theorem sRow_ap (i j : Nat) (fk fv : Env → Out D) (ρ : Env) : sRow i j fk fv ρ = oS (eD i ρ) fun kvs => oS (fk ρ) fun k => chkS (flatK k = true ∧ kvs.length < sizeLine ∧ j < ρ.length) (oS (asL (dicGet kvs k)) fun ds => oS (fv (ρ.set j none)) fun v => chkS (ds.length < sizeLine) (.nx ((ρ.set j none).set i (some (.dic (dicPut kvs k (.lst (ds ++ [v]))))))) ) := by
  unfold sRow eD
  cases ρ[i]? with
  | none => rfl
  | some o =>
    cases o with
    | none => rfl
    | some d =>
      cases d with
      | dic kvs =>
        show (oS (fk ρ) fun k => _) = oS (Out.ok kvs) fun kvs => oS (fk ρ) fun k => _
        rw [oS_ok]
        congr 1
        funext k
        congr 1
        cases dicGet kvs k with
        | none => rfl
        | some d => cases d <;> rfl
      | _ => rfl
end
end PD

namespace PD
open PySem PySem.Spec L2
open PyProof.Rows hiding St

theorem chk_bind {α β : Type} (p : Prop) (o : Out α) (k : α → Out β) : (chk p o).bind k = chk p (o.bind k) := by
  by_cases h : p
  · rw [chk_pos h, chk_pos h]
  · rw [chk_neg h, chk_neg h]; rfl
theorem oS_chk {α : Type} (p : Prop) (o : Out α) (k : α → SO) : oS (chk p o) k = chkS p (oS o k) := by
  by_cases h : p
  · rw [chk_pos h, chkS_pos h]
  · rw [chk_neg h, chkS_neg h]; rfl
theorem chkS_andThen (p : Prop) (o : SO) (k : Env → SO) : (chkS p o).andThen k = chkS p (o.andThen k) := by
  by_cases h : p
  · rw [chkS_pos h, chkS_pos h]
  · rw [chkS_neg h, chkS_neg h]; rfl
theorem chkS_turn (p : Prop) (o : SO) (k : Env → SO) : (chkS p o).turn k = chkS p (o.turn k) := by
  by_cases h : p
  · rw [chkS_pos h, chkS_pos h]
  · rw [chkS_neg h, chkS_neg h]; rfl
theorem chkS_res (p : Prop) (o : SO) : (chkS p o).res = chk p o.res := by
  by_cases h : p
  · rw [chkS_pos h, chk_pos h]
  · rw [chkS_neg h, chk_neg h]; rfl
theorem chk_nox {α : Type} (p : Prop) (o : Out α) : (chk p o).nox = chk p o.nox := by
  by_cases h : p
  · rw [chk_pos h, chk_pos h]
  · rw [chk_neg h, chk_neg h]; rfl
theorem chk_ok {α : Type} (p : Prop) (o : Out α) (a : α) : chk p o = .ok a ↔ p ∧ o = .ok a := by
  by_cases h : p
  · rw [chk_pos h]; exact ⟨fun e => ⟨h, e⟩, fun e => e.2⟩
  · rw [chk_neg h]; exact ⟨fun e => (by cases e), fun e => absurd e.1 h⟩
theorem chk_go {α : Type} {p : Prop} {o r : Out α} (h : p) (e : o = r) : chk p o = r := (chk_pos h).trans e
theorem chkS_go {p : Prop} {o r : SO} (h : p) (e : o = r) : chkS p o = r := (chkS_pos h).trans e
theorem chk_true {α : Type} (o : Out α) : chk True o = o := chk_pos trivial
theorem chkS_true (o : SO) : chkS True o = o := chkS_pos trivial
theorem mul_chk (i j : Int) : dMul (.int i) (.int j) = chk (CMulX i j) (.ok (.int (i * j))) := rfl
theorem div_chk (i j : Int) : dDiv (.int i) (.int j) = chk (CDivW i j) (.ok (.int (i / j))) := rfl
theorem mod_chk (i j : Int) : dMod (.int i) (.int j) = chk (0 < j) (.ok (.int (i % j))) := rfl
theorem cmul_sz {n m : Nat} {i j : Int} (h : Sz n i) (k : Sz m j) (l : n + m ≤ 134217728) : CMulX i j := by
  have := dMul_int h k l
  rw [mul_chk, chk_ok] at this
  exact this.1
theorem cdiv_sz {n : Nat} {i j : Int} (h : 0 < j) (k : Sz n j) (l : n ≤ 9000) : CDivW i j := by
  have := dDiv_int (i := i) h k l
  rw [div_chk, chk_ok] at this
  exact this.1
theorem rng1_chk (j : Int) : rng1 [.int j] = chk (-(2 ^ 62) ≤ j ∧ j < 2 ^ 62) (.ok ((List.range j.toNat).map fun (n : Nat) => .int n)) := rfl
theorem rng2_chk (i j : Int) : rng2 [.int i, .int j] = chk ((-(2 ^ 62) ≤ i ∧ i < 2 ^ 62) ∧ -(2 ^ 62) ≤ j ∧ j < 2 ^ 62) (.ok ((List.range (j - i).toNat).map fun (n : Nat) => .int (i + n))) := rfl
theorem len_ok {n : Nat} (h : n ≤ 16777216) : n ≤ sizeLine := h
theorem len_lt {n : Nat} (h : n < 16777216) : n < sizeLine := h

def SO.cont (o : SO) : SO := match o with
  | .ct r => .nx r
  | o => o
theorem cont_nx (r : Env) : (SO.nx r).cont = .nx r := rfl
theorem cont_ct (r : Env) : (SO.ct r).cont = .nx r := rfl
theorem cont_chkS (p : Prop) (o : SO) : (chkS p o).cont = chkS p o.cont := by
  by_cases h : p
  · rw [chkS_pos h, chkS_pos h]
  · rw [chkS_neg h, chkS_neg h]; rfl
theorem cont_ite (c : Prop) [Decidable c] (a b : SO) : (if c then a else b).cont = if c then a.cont else b.cont := by split <;> rfl
theorem cont_rt (d : D) : (SO.rt d).cont = .rt d := rfl
theorem cont_bk (r : Env) : (SO.bk r).cont = .bk r := rfl
theorem turn_of_cont {o : SO} {r : Env} (h : o.cont = .nx r) (k : Env → SO) : o.turn k = k r := by
  cases o with
  | nx r' => cases h; rfl
  | ct r' => cases h; rfl
  | _ => cases h
theorem forL_step {G : D → Env → Out Env} {b : Env → SO} {d : D} {ds : List D} {ρ ρ' : Env} (h : (oS (G d ρ) b).cont = .nx ρ') : forL G b (d :: ds) ρ = forL G b ds ρ' := by
  rw [forL_cons]
  cases hG : G d ρ with
  | ok r => rw [hG] at h; exact turn_of_cont h _
  | exc x => rw [hG] at h; cases h
  | stuck => rw [hG] at h; cases h
theorem forL_inv {α : Type} (enc : α → D) {G : D → Env → Out Env} {b : Env → SO} (I : List α → Env → Prop) (xs : List α) {ρ : Env} (h0 : I [] ρ)
    (hs : ∀ pre x post ρ, xs = pre ++ x :: post → I pre ρ → ∃ ρ', (oS (G (enc x) ρ) b).cont = .nx ρ' ∧ I (pre ++ [x]) ρ') : ∃ ρ', forL G b (xs.map enc) ρ = .nx ρ' ∧ I xs ρ' := by
  have key : ∀ (post pre : List α) (ρ : Env), xs = pre ++ post → I pre ρ → ∃ ρ', forL G b (post.map enc) ρ = .nx ρ' ∧ I xs ρ' := by
    intro post
    induction post with
    | nil => intro pre ρ e h; rw [List.append_nil] at e; subst e; exact ⟨ρ, rfl, h⟩
    | cons x post ih =>
      intro pre ρ e h
      obtain ⟨ρ1, e1, h1⟩ := hs pre x post ρ e h
      obtain ⟨ρ2, e2, h2⟩ := ih (pre ++ [x]) ρ1 (by simp [e]) h1
      exact ⟨ρ2, by rw [List.map_cons, forL_step e1, e2], h2⟩
  exact key xs [] ρ rfl h0
theorem forL_range {G : D → Env → Out Env} {b : Env → SO} (I : Nat → Env → Prop) (n : Nat) {ρ : Env} (h0 : I 0 ρ)
    (hs : ∀ k ρ, k < n → I k ρ → ∃ ρ', (oS (G (.int (k : Nat)) ρ) b).cont = .nx ρ' ∧ I (k + 1) ρ') : ∃ ρ', forL G b ((List.range n).map fun (k : Nat) => .int k) ρ = .nx ρ' ∧ I n ρ' := by
  have := forL_inv (fun (k : Nat) => D.int k) (G := G) (b := b) (fun pre ρ => ∃ k, pre = List.range k ∧ I k ρ) (List.range n) (ρ := ρ) ⟨0, rfl, h0⟩ fun pre x post ρ e ⟨k, ek, hk⟩ => by
    subst ek
    have hl := congrArg List.length e
    simp at hl
    have hx : x = k := by
      have hk2 : k < n := by omega
      have h3 : (List.range n)[k]? = some x := by rw [e, List.getElem?_append_right (by simp)]; simp
      rw [List.getElem?_range hk2] at h3
      exact (Option.some.inj h3).symm
    subst hx
    obtain ⟨ρ', e', h'⟩ := hs x ρ (by omega) hk
    exact ⟨ρ', e', x + 1, by rw [List.range_succ], h'⟩
  obtain ⟨ρ', e, k, ek, h⟩ := this
  have hk := congrArg List.length ek
  simp at hk
  subst hk
  exact ⟨ρ', e, h⟩
theorem lcL_map {α : Type} (enc : α → D) (f : α → D) {G : D → Env → Out Env} {tt : Env → Out Bool} {fe : Env → Out D} {ρ : Env} : ∀ (xs : List α), (∀ x ∈ xs, ((G (enc x) ρ).nox.bind fun ρ1 => (tt ρ1).nox.bind fun b => if b = true then (fe ρ1).nox else .stuck) = .ok (f x)) →
    lcL G tt fe ρ (xs.map enc) = .ok (xs.map f)
  | [], _ => rfl
  | x :: xs, h => by
    have ih := lcL_map enc f xs fun y hy => h y (List.mem_cons_of_mem _ hy)
    have hx := h x List.mem_cons_self
    rw [List.map_cons, lcL_cons, ih]
    cases h1 : (G (enc x) ρ).nox with
    | ok ρ1 =>
      rw [h1, Out.bind_ok] at hx
      rw [Out.bind_ok]
      cases h2 : (tt ρ1).nox with
      | ok b =>
        rw [h2, Out.bind_ok] at hx
        rw [Out.bind_ok]
        cases b with
        | true =>
          rw [if_pos rfl] at hx ⊢
          rw [hx]; rfl
        | false => rw [if_neg Bool.false_ne_true] at hx; cases hx
      | exc x => rw [h2] at hx; cases hx
      | stuck => rw [h2] at hx; cases hx
    | exc x => rw [h1] at hx; cases hx
    | stuck => rw [h1] at hx; cases hx
theorem lcL_filter {α : Type} (enc : α → D) (p : α → Bool) (f : α → D) {G : D → Env → Out Env} {tt : Env → Out Bool} {fe : Env → Out D} {ρ : Env} : ∀ (xs : List α), (∀ x ∈ xs, ((G (enc x) ρ).nox.bind fun ρ1 => (tt ρ1).nox.bind fun b => if b = true then ((fe ρ1).nox.bind fun y => .ok (some y)) else .ok none) = .ok (if p x = true then some (f x) else none)) →
    lcL G tt fe ρ (xs.map enc) = .ok ((xs.filter p).map f)
  | [], _ => rfl
  | x :: xs, h => by
    have ih := lcL_filter enc p f xs fun y hy => h y (List.mem_cons_of_mem _ hy)
    have hx := h x List.mem_cons_self
    rw [List.map_cons, lcL_cons, ih]
    cases h1 : (G (enc x) ρ).nox with
    | ok ρ1 =>
      rw [h1, Out.bind_ok] at hx
      rw [Out.bind_ok]
      cases h2 : (tt ρ1).nox with
      | ok b =>
        rw [h2, Out.bind_ok] at hx
        rw [Out.bind_ok]
        cases b with
        | true =>
          rw [if_pos rfl] at hx ⊢
          cases h3 : (fe ρ1).nox with
          | ok y =>
            rw [h3, Out.bind_ok] at hx
            by_cases c : p x = true
            · rw [if_pos c] at hx
              rw [List.filter_cons_of_pos c]
              cases hx; rfl
            · rw [if_neg c] at hx; cases hx
          | exc x => rw [h3] at hx; cases hx
          | stuck => rw [h3] at hx; cases hx
        | false =>
          rw [if_neg Bool.false_ne_true] at hx ⊢
          by_cases c : p x = true
          · rw [if_pos c] at hx; cases hx
          · rw [List.filter_cons_of_neg c]
      | exc x => rw [h2] at hx; cases hx
      | stuck => rw [h2] at hx; cases hx
    | exc x => rw [h1] at hx; cases hx
    | stuck => rw [h1] at hx; cases hx
theorem ixt0 (a : D) (l : List D) : dIx (.tup (a :: l)) (.int 0) = .ok a := dIx_tup (k := 0) rfl
theorem ixt1 (a b : D) (l : List D) : dIx (.tup (a :: b :: l)) (.int 1) = .ok b := dIx_tup (k := 1) rfl
theorem ixt2 (a b c : D) (l : List D) : dIx (.tup (a :: b :: c :: l)) (.int 2) = .ok c := dIx_tup (k := 2) rfl
theorem ixt3 (a b c d : D) (l : List D) : dIx (.tup (a :: b :: c :: d :: l)) (.int 3) = .ok d := dIx_tup (k := 3) rfl
theorem ixl0 (a : D) (l : List D) : dIx (.lst (a :: l)) (.int 0) = .ok a := dIx_lst (k := 0) rfl
theorem ixl1 (a b : D) (l : List D) : dIx (.lst (a :: b :: l)) (.int 1) = .ok b := dIx_lst (k := 1) rfl
theorem ixl2 (a b c : D) (l : List D) : dIx (.lst (a :: b :: c :: l)) (.int 2) = .ok c := dIx_lst (k := 2) rfl
theorem ixl3 (a b c d : D) (l : List D) : dIx (.lst (a :: b :: c :: d :: l)) (.int 3) = .ok d := dIx_lst (k := 3) rfl
end PD

namespace PD
open PySem PySem.Spec L2
open PyProof.Rows hiding St

def DicO (u : HO) : Prop := (∃ xs, u = .dK xs) ∨ ∃ f, u = .ext f
structure Emb (K : PySem.W.Frag) (H H' : Hp) : Prop where
  t : ∀ b xs, SqT K H b xs → SqT K H' b xs
  s : ∀ b xs, SqL K H b xs → SqL K H' b xs
  l : ∀ b xs, H b = some (.lst xs) → H' b = some (.lst xs)
  d : ∀ b o, DicO o → Rd H b o → Rd H' b o
  i : ∀ b C dx xs, H b = some (.ins C dx xs) → H' b = some (.ins C dx xs)
  x : ∀ b xs, H b = some (.xd xs) → H' b = some (.xd xs)
section
variable {K : PySem.W.Frag} {mg : Mg} {H H' : Hp}
mutual
theorem IsD.emb (s : Emb K H H') : ∀ {d : D} {v : V}, IsD K mg H d v → IsD K mg H' d v
  | .non, _, h => by simpa only [IsD] using h
  | .bl _, _, h => by simpa only [IsD] using h
  | .int _, _, h => by simpa only [IsD] using h
  | .str _, _, h => by simpa only [IsD] using h
  | .ty _, _, h => by simpa only [IsD] using h
  | .tup _, _, h => by
    simp only [IsD] at h ⊢
    obtain ⟨a, xs, e, q, r⟩ := h
    exact ⟨a, xs, e, s.t _ _ q, IsDs.emb s r⟩
  | .lst _, _, h => by
    simp only [IsD] at h ⊢
    obtain ⟨a, xs, e, q, r⟩ := h
    exact ⟨a, xs, e, s.l _ _ q, IsDs.emb s r⟩
  | .scr _, _, h => by
    simp only [IsD] at h ⊢
    obtain ⟨a, e, q⟩ := h
    exact ⟨a, e, s.s _ _ q⟩
  | .dic _, _, h => by
    simp only [IsD] at h ⊢
    obtain ⟨a, o, e, q, r⟩ := h
    rcases r with ⟨xs, eo, r⟩ | ⟨xs, eo, r⟩
    · exact ⟨a, o, e, s.d _ _ (.inl ⟨_, eo⟩) q, .inl ⟨xs, eo, IsKVs.emb s r⟩⟩
    · exact ⟨a, o, e, s.d _ _ (.inr ⟨_, eo⟩) q, .inr ⟨xs, eo, IsKTs.emb s r⟩⟩
  | .adr _, _, h => by simpa only [IsD] using h
  | .ins _ _, _, h => by
    simp only [IsD] at h ⊢
    obtain ⟨a, o, e, q, C, dx, xs, rfl, m, r⟩ := h
    exact ⟨a, _, e, s.i _ _ _ _ q, C, dx, xs, rfl, m, IsFs.emb s r⟩
  | .exn _ _, _, h => by
    simp only [IsD] at h ⊢
    obtain ⟨a, C, dd, e, m, q, r⟩ := h
    refine ⟨a, C, dd, e, m, s.d _ _ (.inr ⟨_, rfl⟩) q, ?_⟩
    rcases r with r | ⟨d, xs, ed, q2, r⟩
    · exact .inl r
    · exact .inr ⟨d, xs, ed, s.x _ _ q2, IsFs.emb s r⟩
  | .cls _, _, h => by simpa only [IsD] using h
theorem IsDs.emb (s : Emb K H H') : ∀ {d : List D} {v : List V}, IsDs K mg H d v → IsDs K mg H' d v
  | [], _, h => by simpa only [IsDs] using h
  | _ :: _, _, h => by
    simp only [IsDs] at h ⊢
    obtain ⟨v, vs, e, q, r⟩ := h
    exact ⟨v, vs, e, IsD.emb s q, IsDs.emb s r⟩
theorem IsKVs.emb (s : Emb K H H') : ∀ {d : List (D × D)} {v : List (Key × V)}, IsKVs K mg H d v → IsKVs K mg H' d v
  | [], _, h => by simpa only [IsKVs] using h
  | _ :: _, _, h => by
    simp only [IsKVs] at h ⊢
    obtain ⟨v, vs, e, q, r⟩ := h
    exact ⟨v, vs, e, IsKV.emb s q, IsKVs.emb s r⟩
theorem IsKV.emb (s : Emb K H H') : ∀ {d : D × D} {v : Key × V}, IsKV K mg H d v → IsKV K mg H' d v
  | (_, _), _, h => by
    simp only [IsKV] at h ⊢
    exact ⟨h.1, IsD.emb s h.2⟩
theorem IsKTs.emb (s : Emb K H H') : ∀ {d : List (D × D)} {v : List (PyData × Addr × V)}, IsKTs K mg H d v → IsKTs K mg H' d v
  | [], _, h => by simpa only [IsKTs] using h
  | _ :: _, _, h => by
    simp only [IsKTs] at h ⊢
    obtain ⟨v, vs, e, q, r⟩ := h
    exact ⟨v, vs, e, IsKT.emb s q, IsKTs.emb s r⟩
theorem IsKT.emb (s : Emb K H H') : ∀ {d : D × D} {v : PyData × Addr × V}, IsKT K mg H d v → IsKT K mg H' d v
  | (_, _), _, h => by
    simp only [IsKT] at h ⊢
    exact ⟨h.1, h.2.1, IsD.emb s h.2.2.1, IsD.emb s h.2.2.2⟩
theorem IsFs.emb (s : Emb K H H') : ∀ {d : List (Str × D)} {v : List (Str × V)}, IsFs K mg H d v → IsFs K mg H' d v
  | [], _, h => by simpa only [IsFs] using h
  | _ :: _, _, h => by
    simp only [IsFs] at h ⊢
    obtain ⟨v, vs, e, q, r⟩ := h
    exact ⟨v, vs, e, IsF.emb s q, IsFs.emb s r⟩
theorem IsF.emb (s : Emb K H H') : ∀ {d : Str × D} {v : Str × V}, IsF K mg H d v → IsF K mg H' d v
  | (_, _), _, h => by
    simp only [IsF] at h ⊢
    exact ⟨h.1, IsD.emb s h.2⟩
end
theorem InsAt.emb (s : Emb K H H') {c : Str} {fs : List (Str × D)} {o : HO} (h : InsAt K mg H c fs o) : InsAt K mg H' c fs o := by
  obtain ⟨C, dx, xs, eo, m, r⟩ := h
  exact ⟨C, dx, xs, eo, m, IsFs.emb s r⟩
theorem DicAt.emb (s : Emb K H H') {kvs : List (D × D)} {a : Addr} {o : HO} (h : DicAt K mg H kvs a o) : DicAt K mg H' kvs a o := by
  rcases h with ⟨xs, eo, r⟩ | ⟨xs, eo, r⟩
  · exact .inl ⟨xs, eo, IsKVs.emb s r⟩
  · exact .inr ⟨xs, eo, IsKTs.emb s r⟩
theorem dicO_ne {u : HO} (h : DicO u) : (∀ xs, u ≠ .tup xs) ∧ (∀ xs, u ≠ .lst xs) ∧ (∀ o v, u ≠ .frz o v) ∧ (∀ C dx xs, u ≠ .ins C dx xs) ∧ (∀ xs, u ≠ .xd xs) := by
  rcases h with ⟨xs, rfl⟩ | ⟨f, rfl⟩ <;> exact ⟨(fun _ z => by cases z), (fun _ z => by cases z), (fun _ _ z => by cases z), (fun _ _ _ z => by cases z), (fun _ z => by cases z)⟩
theorem emb_lock {a : Addr} {u : HO} {od : Obj} (e : H a = some u) (hu : DicO u) : Emb K H (upd H a (.frz od u)) := by
  obtain ⟨n1, n2, n3, n4, n5⟩ := dicO_ne hu
  have ne : ∀ b o, H b = some o → o ≠ u → b ≠ a := fun b o q h z => by
    subst z; rw [e] at q; cases q; exact h rfl
  refine ⟨fun b xs h => ?_, fun b xs h => ?_, fun b xs h => ?_, fun b o ho h => ?_, fun b C dx xs h => ?_, fun b xs h => ?_⟩
  · rcases h with ⟨o, h, hd⟩ | h
    · exact .inl ⟨o, by rw [upd_ne (ne b _ h (fun z => n3 _ _ z.symm))]; exact h, hd⟩
    · exact .inr h
  · rcases h with (h | ⟨o, h⟩) | h
    · exact .inl (.inl (by rw [upd_ne (ne b _ h (fun z => n2 _ z.symm))]; exact h))
    · exact .inl (.inr ⟨o, by rw [upd_ne (ne b _ h (fun z => n3 _ _ z.symm))]; exact h⟩)
    · exact .inr h
  · rw [upd_ne (ne b _ h (fun z => n2 _ z.symm))]; exact h
  · rcases h with h | ⟨o', h⟩
    · by_cases z : b = a
      · subst z
        rw [e] at h; cases h
        exact .inr ⟨od, upd_same⟩
      · exact .inl (by rw [upd_ne z]; exact h)
    · exact .inr ⟨o', by rw [upd_ne (ne b _ h (fun z => n3 _ _ z.symm))]; exact h⟩
  · rw [upd_ne (ne b _ h (fun z => n4 _ _ _ z.symm))]; exact h
  · rw [upd_ne (ne b _ h (fun z => n5 _ z.symm))]; exact h
theorem emb_unlock {a : Addr} {u : HO} {od : Obj} (e : H a = some (.frz od u)) (hu : DicO u) : Emb K H (upd H a u) := by
  obtain ⟨n1, n2, n3, n4, n5⟩ := dicO_ne hu
  have ne : ∀ b o, H b = some o → o ≠ .frz od u → b ≠ a := fun b o q h z => by
    subst z; rw [e] at q; cases q; exact h rfl
  refine ⟨fun b xs h => ?_, fun b xs h => ?_, fun b xs h => ?_, fun b o ho h => ?_, fun b C dx xs h => ?_, fun b xs h => ?_⟩
  · rcases h with ⟨o, h, hd⟩ | h
    · exact .inl ⟨o, by rw [upd_ne (ne b _ h (fun z => by cases z; exact n1 _ rfl))]; exact h, hd⟩
    · exact .inr h
  · rcases h with (h | ⟨o, h⟩) | h
    · exact .inl (.inl (by rw [upd_ne (ne b _ h (fun z => nomatch z))]; exact h))
    · exact .inl (.inr ⟨o, by rw [upd_ne (ne b _ h (fun z => by cases z; exact n2 _ rfl))]; exact h⟩)
    · exact .inr h
  · rw [upd_ne (ne b _ h (fun z => nomatch z))]; exact h
  · rcases h with h | ⟨o', h⟩
    · exact .inl (by rw [upd_ne (ne b _ h (fun z => (dicO_ne ho).2.2.1 _ _ z))]; exact h)
    · by_cases z : b = a
      · subst z
        rw [e] at h; cases h
        exact .inl upd_same
      · exact .inr ⟨o', by rw [upd_ne z]; exact h⟩
  · rw [upd_ne (ne b _ h (fun z => nomatch z))]; exact h
  · rw [upd_ne (ne b _ h (fun z => nomatch z))]; exact h
theorem IsO.emb {H0 H0' Hf Hf' H H' : Hp} {d : D} {v : V} (s : Emb K Hf Hf') (n0 : ∀ b o, H b = some o → H0 b = none → Hf b = none → H0' b = none ∧ Hf' b = none ∧ H' b = some o) (h : IsO K mg H0 Hf H d v) : IsO K mg H0' Hf' H' d v := by
  cases d with
  | lst ds =>
    obtain ⟨a, xs, e, z0, zf, q, r⟩ := h
    obtain ⟨y0, yf, yq⟩ := n0 _ _ q z0 zf
    exact ⟨a, xs, e, y0, yf, yq, r.emb s⟩
  | dic ds =>
    obtain ⟨a, xs, e, z0, zf, q, r⟩ := h
    obtain ⟨y0, yf, yq⟩ := n0 _ _ q z0 zf
    exact ⟨a, xs, e, y0, yf, yq, r.emb s⟩
  | ins c ds =>
    obtain ⟨a, xs, e, z0, zf, q, r⟩ := h
    obtain ⟨y0, yf, yq⟩ := n0 _ _ q z0 zf
    exact ⟨a, xs, e, y0, yf, yq, r.emb s⟩
  | _ => exact IsD.emb s h
end
section
variable {X : Cx} {g : G} {E : WX} {ro : Bool} {Γl Γ Γ1 Γ2 : List Bool} {pos : Pos} {ρ ρ' : Env} {σ σ' : St} {Hf H Hf' H' F : Hp} {a : Addr} {u : HO} {od : Obj}
abbrev lockG (g : G) (F : Hp) (a : Addr) (z : HO) : G := ⟨upd g.H0 a z, upd F a z, g.slf⟩
theorem Rp.lock (R : Rp X.K X.mw g Γ ρ σ F H) (e : F a = some u) (hu : DicO u) (od : Obj) : Rp X.K X.mw (lockG g F a (.frz od u)) Γ ρ σ (upd F a (.frz od u)) (upd H a (.frz od u)) := by
  have em := emb_lock (K := X.K) (od := od) e hu
  have sm : ∀ {A B : Hp}, Same A B → Same (upd A a (.frz od u)) (upd B a (.frz od u)) := fun {A B} s b o q => by
    by_cases h : b = a
    · subst h; rw [upd_same] at q ⊢; exact q
    · rw [upd_ne h] at q ⊢; exact s _ _ q
  refine ⟨sm R.same, sm R.ent, Same.refl _, fun b o q => .inl q, R.len, fun i d o q => ?_, fun i d o q => ?_, R.sep⟩
  · obtain ⟨v, ev, io⟩ := R.own i d o q
    refine ⟨v, ev, io.emb em fun b o' h1 h2 h3 => ?_⟩
    have nb : b ≠ a := fun z => by rw [z, e] at h3; cases h3
    exact ⟨by show upd g.H0 a _ b = none; rw [upd_ne nb]; exact h2, by rw [upd_ne nb]; exact h3, by rw [upd_ne nb]; exact h1⟩
  · obtain ⟨v, ev, r⟩ := R.dat i d o q
    exact ⟨v, ev, r.emb em⟩
theorem same_unlock {A B : Hp} (s : Same A B) : Same (upd A a u) (upd B a u) := fun b o q => by
  by_cases h : b = a
  · subst h; rw [upd_same] at q ⊢; exact q
  · rw [upd_ne h] at q ⊢; exact s _ _ q
theorem Rp.unlock (R : Rp X.K X.mw g Γ1 ρ σ F H) (e : F a = some u) (hu : DicO u) (R' : Rp X.K X.mw (lockG g F a (.frz od u)) Γ ρ' σ' Hf' H') : Hf' a = some (.frz od u) ∧ H' a = some (.frz od u) ∧ Rp X.K X.mw g Γ ρ' σ' (upd Hf' a u) (upd H' a u) := by
  have ef : Hf' a = some (.frz od u) := R'.ent2 a _ upd_same
  have eh : H' a = some (.frz od u) := R'.same a _ ef
  have em := emb_unlock (K := X.K) ef hu
  refine ⟨ef, eh, ⟨same_unlock R'.same, fun b o q => ?_, fun b o q => ?_, fun b o q => ?_, R'.len, fun i d o q => ?_, fun i d o q => ?_, R'.sep⟩⟩
  · by_cases h : b = a
    · subst h
      have := R.ent _ _ q
      rw [R.same _ _ e] at this
      cases this
      exact upd_same
    · rw [upd_ne h]
      exact R'.ent _ _ (show upd g.H0 a _ b = some o by rw [upd_ne h]; exact q)
  · by_cases h : b = a
    · subst h
      have := R.ent2 _ _ q
      rw [e] at this
      cases this
      exact upd_same
    · rw [upd_ne h]
      exact R'.ent2 _ _ (show upd F a _ b = some o by rw [upd_ne h]; exact R.ent2 _ _ q)
  · by_cases h : b = a
    · subst h
      rw [upd_same] at q
      cases q
      exact R.news _ _ e
    · rw [upd_ne h] at q
      rcases R'.news _ _ q with z | z
      · have z' : upd F a (.frz od u) b = some o := z
        rw [upd_ne h] at z'
        exact R.news _ _ z'
      · have z' : upd g.H0 a (.frz od u) b = none := z
        rw [upd_ne h] at z'
        exact .inr z'
  · obtain ⟨v, ev, io⟩ := R'.own i d o q
    refine ⟨v, ev, io.emb em fun b o' h1 h2 h3 => ?_⟩
    have nb : b ≠ a := fun z => by rw [z, ef] at h3; cases h3
    have h2' : upd g.H0 a (.frz od u) b = none := h2
    rw [upd_ne nb] at h2'
    exact ⟨h2', by rw [upd_ne nb]; exact h3, by rw [upd_ne nb]; exact h1⟩
  · obtain ⟨v, ev, r⟩ := R'.dat i d o q
    exact ⟨v, ev, r.emb em⟩
end
end PD

namespace PD
open PySem PySem.Spec L2
open PyProof.Rows hiding St

section
variable {X : Cx} {g : G} {E : WX} {ro : Bool} {Γl Γ Γ1 Γ2 : List Bool} {pos p : Pos} {ρ : Env}
def sSt : Env → SO := fun _ => .stuck
theorem psx_stuck {st : Stmt} : PSx X g E ro Γl Γ st Γ1 sSt := ⟨⟨fun pins s σ H D I ⟨ρ, Hf, R, q⟩ => q.elim⟩⟩
def noEx (o : SO) : SO := match o with
  | .ex _ => .stuck
  | o => o
def keysAt (i : Nat) : Env → Out (List D) := fun ρ => match ρ[i]? with
  | some (some (.dic kvs)) => .ok (kvs.map (·.1))
  | _ => .stuck
noncomputable def sForD (i : Nat) (G : D → Env → Out Env) (b : Env → SO) : Env → SO := fun ρ => oS (keysAt i ρ) fun ds => chkS (∀ d ∈ ds, flatK d = true) (noEx (forL G b ds ρ))
def LockedAt (i : Nat) (σ : St) (Hf : Hp) (ds : List D) : Prop := ∃ a od xs, σ[i]? = some (some (.ref a)) ∧ Hf a = some (.frz od (.dK xs)) ∧ ds = xs.map fun q => kD q.1
theorem walks_keys {K : PySem.W.Frag} {mg : Mg} {H0 F1 : Hp} {a : Addr} {od : Obj} {xs : List (Key × V)} (h : F1 a = some (.frz od (.dK xs))) : Walks K mg H0 (Itk a od xs) F1 (xs.map fun q => kD q.1) := by
  intro g Γ ρ σ Hf H s R i
  have hq : H a = some (.frz od (.dK xs)) := R.same _ _ (s _ _ h)
  refine ⟨fun d ed => ?_, fun l => ⟨hq, by simpa using l⟩⟩
  have hi : i < xs.length := by
    have := (List.getElem?_eq_some_iff.mp ed).1
    simpa using this
  rw [List.getElem?_map] at ed
  refine ⟨⟨hq, hi⟩, fun x H' ⟨eH, k, v, ek, ex⟩ => ?_⟩
  subst eH; subst ex
  rw [ek] at ed
  cases ed
  refine ⟨Hf, Same.refl _, Same.refl _, R, ?_⟩
  cases k <;> simp only [kD, kV, IsD]
theorem kvs_keys {K : PySem.W.Frag} {mg : Mg} {H : Hp} : ∀ {kvs : List (D × D)} {xs : List (Key × V)}, IsKVs K mg H kvs xs → kvs.map (·.1) = xs.map fun q => kD q.1
  | [], _, h => by simp only [IsKVs] at h; subst h; rfl
  | (k, d) :: kvs, _, h => by
    simp only [IsKVs, IsKV] at h
    obtain ⟨q, us, rfl, ⟨e, _⟩, r⟩ := h
    rw [List.map_cons, List.map_cons, kvs_keys r, ← e]
theorem pi_locked {tg : Expr} {i : Nat} {x : Str} (h : PE X (.Name x p) (tVar i)) (A : St → Hp → (It → Hp → Prop) → Prop) (ha : ∀ σ H R, A σ H R → ∃ (Hf : Hp) (ds : List D), Same Hf H ∧ LockedAt i σ Hf ds ∧ ∀ J, (∀ K' mg' H0', K' = X.K → Walks K' mg' H0' J Hf ds) → R J H) : PI X tg (.Name x p) A := by
  refine (pi_keys h).imp fun σ H R q => ?_
  obtain ⟨Hf, ds, s, ⟨a, od, xs, es, e, rfl⟩, k⟩ := ha σ H R q
  exact ⟨_, es, a, od, rfl, .inl ⟨xs, s _ _ e, k _ fun _ _ _ _ => walks_keys e⟩⟩
theorem for_locked {tg : Expr} {body : List Stmt} {G : D → Env → Out Env} {fb : Env → SO} {i : Nat} {x : Str} {ws : List Nat} (hp : PassesOwn (model X.prog X.w) X.A X.env X.xe) (hc : X.calm = true) (hx : PE X (.Name x p) (tVar i))
    (hg : ∀ g : PD.G, PGx X g Γ tg Γ2 G ws) (nx : ∀ d ρ x, G d ρ ≠ .exc x) (hb : ∀ g : PD.G, g.slf = none → PSsx X g E0 ro Γ Γ2 body Γ fb) (hs : ∀ y, foldedSetIterable (.Name x p) X.env y = pure y := by intro _; rfl) :
    PS X (.For tg (.Name x p) body [] pos) (fun Dn σ H => ∃ (g : PD.G) (ρ : Env) (Hf : Hp) (ds : List D), g.slf = none ∧ Rp X.K X.mw g Γ ρ σ Hf H ∧ LockedAt i σ Hf ds ∧ sR X.K X.mw g E0 Γ Γl ro Dn (noEx (forL G fb ds ρ))) := by
  have HI : PI X tg (.Name x p) (fun σ H R => ∃ (Hf : Hp) (ds : List D), Same Hf H ∧ LockedAt i σ Hf ds ∧ ∀ J, (∀ K' mg' H0', K' = X.K → Walks K' mg' H0' J Hf ds) → R J H) := pi_locked hx _ fun σ H R q => q
  have HG : PG X tg (fun v σ H Q => ∃ g d ρ Hf, Rp X.K X.mw g Γ ρ σ Hf H ∧ IsD X.K X.mw Hf d v ∧ ∃ ρ', G d ρ = .ok ρ' ∧ ∀ σ', Rp X.K X.mw g Γ2 ρ' σ' Hf H → Q σ' H) :=
    ⟨fun pins s σ H v u Q I r ⟨g', d, ρ, Hf, R, i, ρ', e, q⟩ => (hg g').pg.run pins s σ H v u Q I r ⟨d, ρ, Hf, R, i, ρ', e, fun σ' _ => q σ'⟩⟩
  have HB : PSs X body (fun Dn σ H => ∃ g, g.slf = none ∧ ∃ ρ Hf, Rp X.K X.mw g Γ2 ρ σ Hf H ∧ sR X.K X.mw g E0 Γ Γ ro Dn (fb ρ)) := ⟨fun pins s σ H D I ⟨g', hs, z⟩ => (hb g' hs).ps.run pins s σ H D I z⟩
  refine (ps_for hp hc HI HG HB hs).imp fun Dn σ H ⟨g, ρ, Hf, ds, hsl, R, lk, k⟩ => ⟨Hf, ds, R.same, lk, fun J wk => ?_⟩
  refine ⟨fun n m σ H => m = ds.length - n ∧ n ≤ ds.length ∧ ∃ ρ Hf', Same Hf Hf' ∧ Rp X.K X.mw g Γ ρ σ Hf' H ∧ sR X.K X.mw g E0 Γ Γl ro Dn (noEx (forL G fb (ds.drop n) ρ)), ⟨ds.length, by simp, Nat.zero_le _, ρ, Hf, Same.refl _, R, k⟩, ?_⟩
  rintro n m σ2 H2 ⟨rfl, hn, ρ2, Hf2, s2, R2, k2⟩
  have w2 := wk X.K X.mw (fun _ => none) rfl g Γ ρ2 σ2 Hf2 H2 s2 R2 n
  by_cases hlt : n < ds.length
  · have ed : ds[n]? = some ds[n] := by simp [hlt]
    have hd : ds.drop n = ds[n] :: ds.drop (n + 1) := List.drop_eq_getElem_cons hlt
    obtain ⟨go, yl⟩ := w2.1 _ ed
    refine .inr ⟨go, fun σ3 H3 => ∃ ρ Hf', Same Hf Hf' ∧ Rp X.K X.mw g Γ ρ σ3 Hf' H3 ∧ sR X.K X.mw g E0 Γ Γl ro Dn (noEx (forL G fb (ds.drop (n + 1)) ρ)), fun σ3 H3 z => ⟨ds.length - (n + 1), by omega, rfl, hlt, z⟩, fun x H' y => ?_⟩
    obtain ⟨Hf3, s3, s4, R3, hx⟩ := yl x H' y
    rw [hd, forL_cons] at k2
    cases hG : G ds[n] ρ2 with
    | exc x => exact absurd hG (nx _ _ x)
    | stuck => rw [hG] at k2; exact k2.elim
    | ok ρ3 =>
      rw [hG, oS_ok] at k2
      have s5 := s2.trans s3
      have R3' : ∀ {ρ : Env} {σ : St} {Hf4 H4 : Hp} {Γ' : List Bool}, Rp X.K X.mw ⟨g.H0, Hf3, g.slf⟩ Γ' ρ σ Hf4 H4 → Rp X.K X.mw g Γ' ρ σ Hf4 H4 := fun R => R.ofG R3.ent2 R3.news
      refine ⟨⟨g.H0, Hf3, g.slf⟩, ds[n], ρ2, Hf3, R3.toG (Same.refl _) R3.ent2, hx, ρ3, hG, fun σ' R4 => ⟨⟨g.H0, Hf3, g.slf⟩, hsl, ρ3, Hf3, R4, ?_⟩⟩
      cases hf : fb ρ3 with
      | nx r => rw [hf] at k2; exact fun σ5 Hf5 H5 R5 => ⟨r, Hf5, s5.trans R5.ent2, R3' R5, k2⟩
      | ct r => rw [hf] at k2; exact fun σ5 Hf5 H5 R5 => ⟨r, Hf5, s5.trans R5.ent2, R3' R5, k2⟩
      | bk r => rw [hf] at k2; exact fun σ5 Hf5 H5 R5 => k2 σ5 Hf5 H5 (R3' R5)
      | rt d => rw [hf] at k2; exact fun v Hf H t1 t2 t3 nw r => k2 v Hf H t1 t2 (R3.ent2.trans t3) (fun a o e => (nw a o e).elim (fun z => R3.news a o z) .inr) r
      | ex x => rw [hf] at k2; exact k2.elim
      | stuck => rw [hf] at k2; exact k2
  · have e : n = ds.length := by omega
    subst e
    refine .inl ⟨w2.2 (Nat.le_refl _), ?_⟩
    rw [List.drop_length] at k2
    exact k2 σ2 Hf2 H2 R2
theorem keysAt_ok {i : Nat} {ds : List D} (h : keysAt i ρ = .ok ds) : ∃ kvs, ρ[i]? = some (some (.dic kvs)) ∧ ds = kvs.map (·.1) := by
  unfold keysAt at h
  split at h
  · rename_i kvs e
    cases h
    exact ⟨kvs, e, rfl⟩
  · cases h
theorem keysAt_nx {i : Nat} {ρ : Env} {x : Exn} : keysAt i ρ ≠ .exc x := fun h => by
  unfold keysAt at h
  split at h <;> cases h
theorem dict_case {pins : List (Addr × Obj)} {s : Shared} {σ : St} {H Hf : Hp} {i : Nat} {kvs : List (D × D)} (I : Inv X pins σ H s) (R : Rp X.K X.mw g Γ ρ σ Hf H) (no : Γ.getD i false = false) (e : ρ[i]? = some (some (.dic kvs))) (fl : ∀ q ∈ kvs, flatK q.1 = true) :
    ∃ a xs, σ[i]? = some (some (.ref a)) ∧ kvs.map (·.1) = xs.map (fun q => kD q.1) ∧ (Hf a = some (.dK xs) ∨ ∃ od, Hf a = some (.frz od (.dK xs))) := by
  obtain ⟨v, ev, r⟩ := R.dat i _ (by unfold Own; rw [no]; exact Bool.false_ne_true) e
  simp only [IsD] at r
  obtain ⟨a, o, rfl, hr, ⟨xs, rfl, q⟩ | ⟨zs, rfl, q⟩⟩ := r
  · exact ⟨a, xs, ev, kvs_keys q, hr⟩
  · exfalso
    have ok : ObjOk X.prog X.w H s.heap a (dT X.w a zs) := (Rd.ok (Same.rd R.same hr) I.hok)
    obtain ⟨hne, _⟩ := ok.1
    cases kvs with
    | nil => simp only [IsKTs] at q; exact hne q
    | cons p kvs =>
      have h1 := fl p List.mem_cons_self
      rw [tkey_nf (q.keys p List.mem_cons_self)] at h1
      cases h1
theorem psx_forD {tg : Expr} {body : List Stmt} {G : D → Env → Out Env} {fb : Env → SO} {i : Nat} {x : Str} {ws : List Nat} (hp : PassesOwn (model X.prog X.w) X.A X.env X.xe) (hc : X.calm = true) (hx : PE X (.Name x p) (tVar i)) (no : Γ.getD i false = false)
    (hg : ∀ g : PD.G, PGx X g Γ tg Γ2 G ws) (nx : ∀ d ρ x, G d ρ ≠ .exc x) (hb : ∀ g : PD.G, g.slf = none → PSsx X g E0 ro Γ Γ2 body Γ fb) (hs : ∀ y, foldedSetIterable (.Name x p) X.env y = pure y := by intro _; rfl) (hsl : g.slf = none := by first | rfl | assumption) :
    PSx X g E ro Γl Γ (.For tg (.Name x p) body [] pos) Γ (sForD i G fb) := by
  have B := for_locked (Γl := Γl) (pos := pos) hp hc hx hg nx hb hs
  refine ⟨⟨fun pins s σ H Dn I ⟨ρ, Hf, R, q⟩ => ?_⟩⟩
  unfold sForD at q
  cases hk : keysAt i ρ with
  | stuck => rw [hk] at q; exact q.elim
  | exc x => exact absurd hk keysAt_nx
  | ok ds =>
  rw [hk, oS_ok] at q
  obtain ⟨kvs, e, rfl⟩ := keysAt_ok hk
  by_cases fl' : ∀ d ∈ kvs.map (·.1), flatK d = true
  · rw [chkS_pos fl'] at q
    have fl : ∀ z ∈ kvs, flatK z.1 = true := fun z hz => fl' _ (List.mem_map.mpr ⟨z, hz, rfl⟩)
    have q0 : sR X.K X.mw g E0 Γ Γl ro Dn (noEx (forL G fb (kvs.map (·.1)) ρ)) := by
      revert q
      cases forL G fb (kvs.map (·.1)) ρ <;> exact id
    obtain ⟨a, xs, es, ek, ea | ⟨od, ea⟩⟩ := dict_case I R no e fl
    · -- locked here
      have hu : DicO (HO.dK xs) := .inl ⟨_, rfl⟩
      refine (ps_lock B).run pins s σ H Dn I ⟨a, .dK xs, R.same _ _ ea, trivial, fun od => ⟨lockG g Hf a (.frz od (.dK xs)), ρ, upd Hf a (.frz od (.dK xs)), kvs.map (·.1), hsl, R.lock ea hu od, ⟨a, od, xs, es, upd_same, ek⟩, ?_⟩⟩
      cases hf : noEx (forL G fb (kvs.map (·.1)) ρ) with
      | nx r =>
        rw [hf] at q0
        intro σ2 Hf2 H2 R2
        obtain ⟨_, eh, R3⟩ := R.unlock ea hu R2
        exact ⟨eh, q0 σ2 _ _ R3⟩
      | bk r =>
        rw [hf] at q0
        intro σ2 Hf2 H2 R2
        obtain ⟨_, eh, R3⟩ := R.unlock ea hu R2
        exact ⟨eh, q0 σ2 _ _ R3⟩
      | ct r =>
        rw [hf] at q0
        intro σ2 Hf2 H2 R2
        obtain ⟨_, eh, R3⟩ := R.unlock ea hu R2
        exact ⟨eh, q0 σ2 _ _ R3⟩
      | rt d =>
        rw [hf] at q0
        intro v Hf2 H2 t1 t2 t3 nw rr
        have R2 : Rp X.K X.mw (lockG g Hf a (.frz od (.dK xs))) [] [] [] Hf2 H2 := ⟨t1, t2, t3, nw, ⟨rfl, fun b e => by rw [show (lockG g Hf a (.frz od (.dK xs))).slf = none from hsl] at e; cases e⟩, fun i d o => by simp [Own] at o, fun i d _ e => by simp at e, fun i j d e v n o => by simp [Own] at o⟩
        obtain ⟨ef, eh, R3⟩ := R.unlock ea hu R2
        refine ⟨eh, q0 v _ _ R3.same R3.ent R3.ent2 R3.news ?_⟩
        have em := emb_unlock (K := X.K) ef hu
        unfold RetG
        rw [hsl]
        unfold RetG at rr
        rw [show (lockG g Hf a (.frz od (.dK xs))).slf = none from hsl] at rr
        replace rr : RetRes _ _ _ ro Hf2 H2 d v := rr
        show RetRes _ _ _ _ _ _ _ _
        unfold RetRes at rr ⊢
        cases ro with
        | false => exact IsD.emb em rr
        | true =>
          refine IsO.emb em (fun b o h1 h2 h3 => ?_) rr
          have nb : b ≠ a := fun z => by rw [z, ef] at h3; cases h3
          have h2' : upd g.H0 a (.frz od (.dK xs)) b = none := h2
          rw [upd_ne nb] at h2'
          exact ⟨h2', by rw [upd_ne nb]; exact h3, by rw [upd_ne nb]; exact h1⟩
      | ex x =>
        exfalso
        revert hf
        cases forL G fb (kvs.map (·.1)) ρ <;> intro hf <;> cases hf
      | stuck => rw [hf] at q0; exact q0
    · exact B.run pins s σ H Dn I ⟨g, ρ, Hf, kvs.map (·.1), hsl, R, ⟨a, od, xs, es, ea, ek⟩, q0⟩
  · rw [chkS_neg fl'] at q; exact q.elim
noncomputable def iKeysD (i : Nat) : Env → Out (List D) := fun ρ => (keysAt i ρ).bind fun ds => chk (∀ d ∈ ds, flatK d = true) (.ok ds)
theorem iKeysD_ok {i : Nat} {ds : List D} (h : iKeysD i ρ = .ok ds) : ∃ kvs, ρ[i]? = some (some (.dic kvs)) ∧ ds = kvs.map (·.1) ∧ ∀ z ∈ kvs, flatK z.1 = true := by
  unfold iKeysD at h
  cases hk : keysAt i ρ with
  | stuck => rw [hk] at h; cases h
  | exc x => rw [hk] at h; cases h
  | ok es =>
    rw [hk, Out.bind_ok, chk_ok] at h
    obtain ⟨kvs, e, rfl⟩ := keysAt_ok hk
    obtain ⟨f, h⟩ := h
    cases h
    exact ⟨kvs, e, rfl, fun z hz => f _ (List.mem_map.mpr ⟨z, hz, rfl⟩)⟩
theorem iKeysD_nx {i : Nat} {x : Exn} : iKeysD i ρ ≠ .exc x := fun h => by
  unfold iKeysD at h
  cases hk : keysAt i ρ with
  | stuck => rw [hk] at h; cases h
  | exc x => exact keysAt_nx hk
  | ok es =>
    rw [hk, Out.bind_ok] at h
    by_cases c : ∀ d ∈ es, flatK d = true
    · rw [chk_pos c] at h; cases h
    · rw [chk_neg c] at h; cases h
theorem px_lcD {elt tg : Expr} {ifs : List Expr} {scope : Scope} {own : List (Str × Nat)} {i : Nat} {x : Str} {G' : D → Env → Out Env} {tt : Env → Out Bool} {f : Env → Out D} {ws : List Nat}
    (hc : X.calm = true) (hN : X.N.Nodup) (hx : PE X (.Name x p) (tVar i)) (nw : Γ.getD i false = false) (le : Le Γ2 Γ) (no : ∀ i ∈ own.map (·.2), ¬ Own Γ2 i) (ok : BlkOk X.N X.env.scope scope own)
    (hg : ∀ (g : PD.G) (s : Shared) (H : Hp) (C : Addr) (cl : List (Str × Addr)) (fp : List Addr), PGx (X.blk s H scope (compEnvC scope cl C X.env) fp) g Γ2 tg Γ2 G' ws) (hws : ∀ i ∈ ws, i ∈ own.map (·.2))
    (ht : ∀ (g : PD.G) (s : Shared) (H : Hp) (C : Addr) (cl : List (Str × Addr)) (fp : List Addr), PTsx (X.blk s H scope (compEnvC scope cl C X.env) fp) g E0 Γ2 ifs Γ2 tt)
    (he : ∀ (g : PD.G) (s : Shared) (H : Hp) (C : Addr) (cl : List (Str × Addr)) (fp : List Addr), PX (X.blk s H scope (compEnvC scope cl C X.env) fp) g E0 Γ2 elt Γ2 .fr f) (hs : ∀ y, foldedSetIterable (.Name x p) X.env y = pure y := by intro _; rfl) :
    PX X g E Γ (.ListComp elt [⟨tg, .Name x p, ifs, 0⟩] scope pos) Γ2 .ow (eLc (own.map (·.2)) G' (iKeysD i) tt f) := by
  have HG : ∀ (s : Shared) (H : Hp) (C : Addr) (cl : List (Str × Addr)) (fp : List Addr), PG (X.blk s H scope (compEnvC scope cl C X.env) fp) tg (hG X Γ2 G' ws) := fun s H C cl fp => ⟨fun pins s' σ H' v u Q I r ⟨g', z⟩ => (hg g' s H C cl fp).pg.run pins s' σ H' v u Q I r z⟩
  have HT : ∀ (s : Shared) (H : Hp) (C : Addr) (cl : List (Str × Addr)) (fp : List Addr), PTs (X.blk s H scope (compEnvC scope cl C X.env) fp) ifs (hT X Γ2 tt) := fun s H C cl fp => ⟨fun pins s' σ H' Q I ⟨g', z⟩ => (ht g' s H C cl fp).pe.run pins s' σ H' Q I z⟩
  have HE : ∀ (s : Shared) (H : Hp) (C : Addr) (cl : List (Str × Addr)) (fp : List Addr), PE (X.blk s H scope (compEnvC scope cl C X.env) fp) elt (hE X Γ2 f) := fun s H C cl fp => ⟨fun pins s' σ H' Q I ⟨g', z⟩ => (he g' s H C cl fp).pe.run pins s' σ H' Q I z⟩
  have B : ∀ g : PD.G, PE X (.ListComp elt [⟨tg, .Name x p, ifs, 0⟩] scope pos) (fun σ H Q => ∃ (ρ : Env) (Hf : Hp), Rp X.K X.mw g Γ ρ σ Hf H ∧ (∃ ds, iKeysD i ρ = .ok ds ∧ LockedAt i σ Hf ds) ∧ tG X.K X.mw g E0 Γ2 ρ σ Hf H (PV X g Γ2 ρ σ .ow Q) (eLc (own.map (·.2)) G' (iKeysD i) tt f ρ)) := fun g => by
    have HI : PI X tg (.Name x p) (fun σ H R => ∃ ρ Hf, Rp X.K X.mw g Γ ρ σ Hf H ∧ (∃ ds, iKeysD i ρ = .ok ds ∧ LockedAt i σ Hf ds) ∧ tG X.K X.mw g E0 Γ ρ σ Hf H (fun ds Hf' H' => ∀ J, Walks X.K X.mw g.H0 J Hf' ds → R J H') (iKeysD i ρ)) := by
      refine pi_locked hx _ fun σ H R ⟨ρ, Hf, R0, ⟨ds, hk, lk⟩, q⟩ => ⟨Hf, ds, R0.same, lk, fun J wk => ?_⟩
      rw [hk] at q
      exact q Hf H (Same.refl _) (Same.refl _) R0 J (wk _ _ _ rfl)
    exact (pe_lc hc hN HI ok HG HT HE hs).imp fun σ H Q ⟨ρ, Hf, R, P, q⟩ => lc_read (tg := tg) (iter := .Name x p) (P := fun ρ σ Hf => ∃ ds, iKeysD i ρ = .ok ds ∧ LockedAt i σ Hf ds) le no hws (hg g ⟨{}, #[], {}, 0, {}⟩ (fun _ => none) 0 [] []).ag R P q
  have B' : PE X (.ListComp elt [⟨tg, .Name x p, ifs, 0⟩] scope pos) (fun σ H Q => ∃ (g : PD.G) (ρ : Env) (Hf : Hp), Rp X.K X.mw g Γ ρ σ Hf H ∧ (∃ ds, iKeysD i ρ = .ok ds ∧ LockedAt i σ Hf ds) ∧ tG X.K X.mw g E0 Γ2 ρ σ Hf H (PV X g Γ2 ρ σ .ow Q) (eLc (own.map (·.2)) G' (iKeysD i) tt f ρ)) := ⟨fun pins s σ H Q I ⟨g', z⟩ => (B g').run pins s σ H Q I z⟩
  refine ⟨le, ⟨fun pins s σ H Q I ⟨ρ, Hf, R, q⟩ => ?_⟩⟩
  cases hk : iKeysD i ρ with
  | stuck => unfold eLc at q; rw [hk] at q; exact q.elim
  | exc x => exact absurd hk iKeysD_nx
  | ok ds =>
  have nx : ∀ x, eLc (own.map (·.2)) G' (iKeysD i) tt f ρ ≠ .exc x := fun x h => by
    unfold eLc at h
    rw [hk, Out.bind_ok] at h
    by_cases c : ds.length ≤ sizeLine
    · rw [chk_pos c] at h
      cases hl : lcL G' tt f (wipeE ρ (own.map (·.2))) ds with
      | ok ys => rw [hl] at h; cases h
      | exc x => exact lcL_nx ds x hl
      | stuck => rw [hl] at h; cases h
    · rw [chk_neg c] at h; cases h
  obtain ⟨kvs, e, rfl, fl⟩ := iKeysD_ok hk
  obtain ⟨a, xs, es, ek, ea | ⟨od, ea⟩⟩ := dict_case I R nw e fl
  · have hu : DicO (HO.dK xs) := .inl ⟨_, rfl⟩
    refine (pe_lock B').run pins s σ H Q I ⟨a, .dK xs, R.same _ _ ea, trivial, fun od => ⟨lockG g Hf a (.frz od (.dK xs)), ρ, upd Hf a (.frz od (.dK xs)), R.lock ea hu od, ⟨_, hk, a, od, xs, es, upd_same, ek⟩, ?_⟩⟩
    cases hl : eLc (own.map (·.2)) G' (iKeysD i) tt f ρ with
    | stuck => rw [hl] at q; exact q
    | exc x => exact absurd hl (nx x)
    | ok d =>
      rw [hl] at q
      intro Hf2 H2 t1 t2 R2 v hv
      obtain ⟨ef, eh, R3⟩ := R.unlock ea hu R2
      have em := emb_unlock (K := X.K) ef hu
      have s1 : Same Hf (upd Hf2 a (.dK xs)) := fun b o eb => by
        by_cases h : b = a
        · subst h; rw [ea] at eb; cases eb; exact upd_same
        · rw [upd_ne h]; exact t1 _ _ (by rw [upd_ne h]; exact eb)
      have s2 : Same H (upd H2 a (.dK xs)) := fun b o eb => by
        by_cases h : b = a
        · subst h; rw [R.same _ _ ea] at eb; cases eb; exact upd_same
        · rw [upd_ne h]; exact t2 _ _ (by rw [upd_ne h]; exact eb)
      refine ⟨eh, q _ _ s1 s2 R3 v ⟨IsO.emb em (fun b o h1 h2 h3 => ?_) hv.1, hv.2⟩⟩
      have nb : b ≠ a := fun z => by rw [z, ef] at h3; cases h3
      have h2' : upd g.H0 a (.frz od (.dK xs)) b = none := h2
      rw [upd_ne nb] at h2'
      exact ⟨h2', by rw [upd_ne nb]; exact h3, by rw [upd_ne nb]; exact h1⟩
  · refine B'.run pins s σ H Q I ⟨g, ρ, Hf, R, ⟨_, hk, a, od, xs, es, ea, ek⟩, ?_⟩
    cases hl : eLc (own.map (·.2)) G' (iKeysD i) tt f ρ with
    | stuck => rw [hl] at q; exact q
    | exc x => exact absurd hl (nx x)
    | ok d => rw [hl] at q; exact q
theorem iKeysD_ap (i : Nat) (ρ : Env) : iKeysD i ρ = (eD i ρ).bind fun kvs => chk (∀ d ∈ kvs.map (·.1), flatK d = true) (.ok (kvs.map (·.1))) := by
  unfold iKeysD keysAt eD
  cases ρ[i]? with
  | none => rfl
  | some o =>
    cases o with
    | none => rfl
    | some d => cases d <;> rfl
theorem sForD_ap (i : Nat) (G : D → Env → Out Env) (b : Env → SO) (ρ : Env) : sForD i G b ρ = oS (eD i ρ) fun kvs => chkS (∀ d ∈ kvs.map (·.1), flatK d = true) (noEx (forL G b (kvs.map (·.1)) ρ)) := by
  unfold sForD keysAt eD
  cases ρ[i]? with
  | none => rfl
  | some o =>
    cases o with
    | none => rfl
    | some d => cases d <;> rfl
end
end PD

namespace PD
open PySem PySem.Spec L2
open PyProof.Rows hiding St

section
variable {X : Cx} {g : G} {E : WX} {ro : Bool} {Γl Γ Γ1 Γ2 : List Bool} {pos p : Pos} {ρ : Env} {m : Md}
theorem PX.pre {e : Expr} {f : Env → Out D} (h : PX X g E Γ e Γ1 m f) (le : Le Γ Γ2) : PX X g E Γ2 e Γ1 m f := by
  refine ⟨h.le.trans le, h.pe.imp fun σ H Q ⟨ρ, Hf, R, q⟩ => ?_⟩
  obtain ⟨F2, s3, R2, _⟩ := R.frz le
  exact ⟨ρ, F2, R2, tG.mono s3 (Same.refl _) q⟩
def sLM (i : Nat) (F : List D → List D → Out (List D)) (fa : Env → Out (List D)) : Env → SO := fun ρ => oS (eL i ρ) fun xs => oS (fa ρ) fun ds => oS (F xs ds) fun xs' => .nx (ρ.set i (some (.lst xs')))
def LMok (X : Cx) (id : String) (F : List D → List D → Out (List D)) : Prop := (∀ xs ds x, F xs ds ≠ .exc x) ∧ ∃ r, MtR X id r ∧ ∀ (Hf H : Hp) (p : Addr) (xs ds : List D) (ys vs : List V) (Q : VK), Same Hf H → H p = some (.lst ys) → Hf p = none → IsDs X.K X.mw Hf xs ys → IsDs X.K X.mw Hf ds vs →
  (match F xs ds with
    | .ok xs' => ∀ ys', IsDs X.K X.mw Hf xs' ys' → Q .non (upd H p (.lst ys'))
    | _ => False) → r (.ref p) vs H Q
noncomputable def lmInsert : List D → List D → Out (List D) := fun xs ds => match ds with
  | [.int i, d] => chk (xs.length < sizeLine ∧ 0 ≤ i ∧ i < 2 ^ 63) (.ok (xs.take i.toNat ++ [d] ++ xs.drop i.toNat))
  | _ => .stuck
theorem LMok.of {id : String} {F : List D → List D → Out (List D)} (nx : ∀ xs ds x, F xs ds ≠ .exc x) {r : V → List V → Hp → VK → Prop} (mt : MtR X id r) (h : ∀ (Hf H : Hp) (p : Addr) (xs ds xs' : List D) (ys vs : List V) (Q : VK), Same Hf H → H p = some (.lst ys) → Hf p = none → IsDs X.K X.mw Hf xs ys → IsDs X.K X.mw Hf ds vs →
    F xs ds = .ok xs' → (∀ ys', IsDs X.K X.mw Hf xs' ys' → Q .non (upd H p (.lst ys'))) → r (.ref p) vs H Q) : LMok X id F := by
  refine ⟨nx, r, mt, fun Hf H p xs ds ys vs Q s e zf rr hv k => ?_⟩
  cases hF : F xs ds with
  | ok xs' => rw [hF] at k; exact h Hf H p xs ds xs' ys vs Q s e zf rr hv hF k
  | exc x => rw [hF] at k; exact k.elim
  | stuck => rw [hF] at k; exact k.elim
noncomputable def lmExtend : List D → List D → Out (List D) := fun xs ds => match ds with
  | [.lst zs] => chk (xs.length + zs.length ≤ sizeLine) (.ok (xs ++ zs))
  | [.tup zs] => chk (xs.length + zs.length ≤ sizeLine) (.ok (xs ++ zs))
  | _ => .stuck
theorem sLM_ap (i : Nat) (F : List D → List D → Out (List D)) (fa : Env → Out (List D)) (ρ : Env) : sLM i F fa ρ = oS (eL i ρ) fun xs => oS (fa ρ) fun ds => oS (F xs ds) fun xs' => .nx (ρ.set i (some (.lst xs'))) := rfl
theorem lmInsert_ap (xs : List D) (i : Int) (d : D) : lmInsert xs [.int i, d] = chk (xs.length < sizeLine ∧ 0 ≤ i ∧ i < 2 ^ 63) (.ok (xs.take i.toNat ++ [d] ++ xs.drop i.toNat)) := rfl
theorem lmExtend_lst (xs zs : List D) : lmExtend xs [.lst zs] = chk (xs.length + zs.length ≤ sizeLine) (.ok (xs ++ zs)) := rfl
theorem lmExtend_tup (xs zs : List D) : lmExtend xs [.tup zs] = chk (xs.length + zs.length ≤ sizeLine) (.ok (xs ++ zs)) := rfl
noncomputable def sDPop (i : Nat) (fk : Env → Out D) : Env → SO := fun ρ => oS (eD i ρ) fun kvs => chkS (∀ p ∈ kvs, flatK p.1 = true) (oS (fk ρ) fun k => chkS (flatK k = true) (.nx (ρ.set i (some (.dic (dicDrop kvs k))))))
theorem IsKVs.drop {K : PySem.W.Frag} {mg : Mg} {H : Hp} (κ : Key) : ∀ {kvs : List (D × D)} {xs : List (Key × V)}, IsKVs K mg H kvs xs → IsKVs K mg H (dicDrop kvs (kD κ)) (dropK xs κ)
  | [], _, h => by simp only [IsKVs] at h; subst h; simp only [dicDrop, dropK, List.filter_nil, IsKVs]
  | (k, d) :: kvs, _, h => by
    simp only [IsKVs, IsKV] at h
    obtain ⟨⟨k', v⟩, us, rfl, ⟨e, q⟩, r⟩ := h
    simp only at e q
    subst e
    have ih := IsKVs.drop κ r
    unfold dicDrop dropK at ih ⊢
    by_cases z : k' = κ
    · rw [List.filter_cons_of_neg (by simp [z]), List.filter_cons_of_neg (by simp [z])]
      exact ih
    · rw [List.filter_cons_of_pos (by simp; exact fun y => z (kD_inj y)), List.filter_cons_of_pos (by simp [z])]
      simp only [IsKVs, IsKV]
      exact ⟨_, _, rfl, ⟨rfl, q⟩, ih⟩
theorem sDPop_ap (i : Nat) (fk : Env → Out D) (ρ : Env) : sDPop i fk ρ = oS (eD i ρ) fun kvs => chkS (∀ p ∈ kvs, flatK p.1 = true) (oS (fk ρ) fun k => chkS (flatK k = true) (.nx (ρ.set i (some (.dic (dicDrop kvs k)))))) := rfl
end
end PD

namespace PD
open PySem PySem.Spec L2
open PyProof.Rows hiding St

section
variable {X : Cx} {g : G} {E : WX} {ro : Bool} {Γl Γ Γ1 Γ2 : List Bool} {pos p : Pos} {ρ : Env} {m : Md}
theorem Room.units65 {k : Nat} {A : Around} (r : Room k A) : A.units + 65 < cLine := by have := r.un; omega
end
end PD

namespace PD
open PySem PySem.Spec L2
open PyProof.Rows hiding St

def pickT {α : Type} (xs : List α) (lo hi : Option Int) (k : Int) : List α :=
  (List.range (Builtin.Slice.slicePlaces (Builtin.Slice.sliceAdjust lo hi k xs.length).1 (Builtin.Slice.sliceAdjust lo hi k xs.length).2 k)).filterMap fun (m : Nat) => xs[((Builtin.Slice.sliceAdjust lo hi k xs.length).1 + (m : Int) * k).toNat]?
section
variable {prog : Program} {w : World} {A : Around} {E : Value → Shared → Prop} {z : Shared}
end
section
variable {K : PySem.W.Frag} {mg : Mg} {H : Hp}
theorem IsDs.pickN {ds : List D} {vs : List V} (h : IsDs K mg H ds vs) (F : Nat → Nat) : ∀ is : List Nat, IsDs K mg H (is.filterMap fun m => ds[F m]?) (is.filterMap fun m => vs[F m]?)
  | [] => by simp only [List.filterMap_nil, IsDs]
  | m :: is => by
    rw [List.filterMap_cons, List.filterMap_cons]
    cases e : ds[F m]? with
    | none =>
      have e2 : vs[F m]? = none := by
        rw [List.getElem?_eq_none_iff] at e ⊢
        rw [h.len]; exact e
      rw [e2]
      exact IsDs.pickN h F is
    | some d =>
      obtain ⟨v, ev, q⟩ := h.at e
      rw [ev]
      simp only [IsDs]
      exact ⟨v, _, rfl, q, IsDs.pickN h F is⟩
theorem IsDs.pickT {ds : List D} {vs : List V} (h : IsDs K mg H ds vs) (lo hi : Option Int) (k : Int) : IsDs K mg H (PD.pickT ds lo hi k) (PD.pickT vs lo hi k) := by
  unfold PD.pickT
  rw [h.len]
  exact IsDs.pickN h (fun m => ((Builtin.Slice.sliceAdjust lo hi k ds.length).1 + (m : Int) * k).toNat) _
end
section
variable {X : Cx} {g : G} {E : WX} {Γ Γ1 Γ2 Γ3 Γ4 : List Bool} {m : Md} {pos p2 : Pos} {a : Expr} {lo hi st : Option Expr} {fa : Env → Out D} {fl fu fs : Env → Out (Option Int)}
noncomputable def dSlS2 : D → Option Int → Option Int → Option Int → Out D
  | .lst ds, lo, hi, st => chk (st ≠ some 0) (.ok (.lst (pickL ds lo hi st)))
  | .tup ds, lo, hi, some k => chk (2 ≤ k ∧ (pickT ds lo hi k).length ≤ sizeLine) (.ok (.tup (pickT ds lo hi k)))
  | _, _, _, _ => .stuck
noncomputable def eSlS2 (f : Env → Out D) (lo hi st : Env → Out (Option Int)) : Env → Out D := fun ρ => (f ρ).bind fun x => (lo ρ).bind fun l => (hi ρ).bind fun u => (st ρ).bind fun s => dSlS2 x l u s
theorem eSlS2_ap (f : Env → Out D) (lo hi st : Env → Out (Option Int)) (ρ : Env) : eSlS2 f lo hi st ρ = (f ρ).bind fun x => (lo ρ).bind fun l => (hi ρ).bind fun u => (st ρ).bind fun s => dSlS2 x l u s := rfl
end
end PD

namespace PD
open PySem PySem.Spec L2
open PyProof.Rows hiding St

section
variable {K : PySem.W.Frag} {mg : Mg} {g : G} {Γ Γ2 : List Bool} {ρ : Env} {σ : St} {Hf H : Hp} {p : Addr} {o : HO}
end
section
variable {X : Cx} {E : WX} {Γ Γ1 Γ2 : List Bool} {pos : Pos} {fk fv : Env → Out D} {fr : Env → Out (List (D × D))} {ks : List (Option Expr)} {vs : List Expr} {k v : Expr}
def pN : Env → Out (List (D × D)) := fun _ => .ok []
noncomputable def pC (fk fv : Env → Out D) (fr : Env → Out (List (D × D))) : Env → Out (List (D × D)) := fun ρ => (fk ρ).bind fun x => (fv ρ).bind fun y => (fr ρ).bind fun r => .ok ((x, y) :: r)
noncomputable def dicOf (ps : List (D × D)) : List (D × D) := ps.foldl (fun l p => dicPut l p.1 p.2) []
noncomputable def eDisp (fr : Env → Out (List (D × D))) : Env → Out D := fun ρ => (fr ρ).bind fun ps => chk ((∀ p ∈ ps, flatK p.1 = true) ∧ ps.length ≤ 15) (.ok (.dic (dicOf ps)))
theorem pN_ap (ρ : Env) : pN ρ = .ok [] := rfl
theorem pC_ap (fk fv : Env → Out D) (fr : Env → Out (List (D × D))) (ρ : Env) : pC fk fv fr ρ = (fk ρ).bind fun x => (fv ρ).bind fun y => (fr ρ).bind fun r => .ok ((x, y) :: r) := rfl
theorem eDisp_ap (fr : Env → Out (List (D × D))) (ρ : Env) : eDisp fr ρ = (fr ρ).bind fun ps => chk ((∀ p ∈ ps, flatK p.1 = true) ∧ ps.length ≤ 15) (.ok (.dic (dicOf ps))) := rfl
end
end PD

namespace PD
open PySem PySem.Spec L2
open PyProof.Rows hiding St

section
variable {X : Cx} {g : G} {E : WX} {ro : Bool} {Γl Γ Γ1 Γ2 : List Bool} {pos p : Pos} {ρ : Env} {m : Md}
end
end PD

namespace PD
open PySem PySem.Spec L2
open PySem.W (dataLt alike AlikeAll maxD minD)
open PyProof.Rows hiding St

section
variable {X : Cx} {g : G} {E : WX} {ro : Bool} {Γl Γ Γ1 Γ2 : List Bool} {pos p : Pos} {ρ : Env} {m : Md}
end
end PD

namespace PD
open PySem PySem.Spec L2
open PyProof.Rows hiding St

section
variable {X : Cx} {g : G} {E : WX} {ro : Bool} {Γl Γ Γ1 Γ2 : List Bool} {pos p : Pos} {ρ : Env} {m : Md} {a b : Expr} {fa fb : Env → Out D}
theorem IsDs.at' {K : PySem.W.Frag} {mg : Mg} {H : Hp} : ∀ {ds : List D} {vs : List V} {i : Nat} {v : V}, IsDs K mg H ds vs → vs[i]? = some v → ∃ d, ds[i]? = some d ∧ IsD K mg H d v
  | [], _, i, v, h, e => by simp only [IsDs] at h; subst h; cases e
  | d :: ds, _, i, v, h, e => by
    simp only [IsDs] at h
    obtain ⟨u, us, rfl, q, r⟩ := h
    cases i with
    | zero => simp only [List.getElem?_cons_zero, Option.some.injEq] at e; subst e; exact ⟨d, rfl, q⟩
    | succ i =>
      obtain ⟨d', h1, h2⟩ := IsDs.at' r (by simpa using e)
      exact ⟨d', by simpa using h1, h2⟩
end
end PD

namespace PD
open PySem PySem.Spec L2
open PyProof.Rows hiding St

def subC (c d : Str) : Bool := c == d || d == "RealError"
section
variable {X : Cx} {e : Expr} {es : List Expr} {ta : TA} {p p1 p2 pos : Pos}
end

def sRaise (f : Env → Out Exn) : Env → SO := fun ρ => oS (f ρ) .ex
def xP (c : Str) : Env → Out Exn := fun _ => .ok ⟨c, []⟩
def eX1 (c : Str) (fa : Env → Out (List D)) : Env → Out Exn := fun ρ => (fa ρ).bind fun ds => match ds with
  | [d] => .ok ⟨c, [("name", d)]⟩
  | _ => .stuck
def eX2 (c : Str) (fa : Env → Out (List D)) : Env → Out Exn := fun ρ => (fa ρ).bind fun ds => match ds with
  | [d, d'] => .ok ⟨c, [("form", d'), ("name", d)]⟩
  | _ => .stuck
section
variable {P : Program} {w : World} {K : PySem.W.Frag} {mg : Str → Option Value} {base : Heap} {q : Str} {st : Stmt} {fI : Addr} {fd : FuncData} {m : Str}
end
section
variable {X : Cx} {g : G} {E : WX} {ro : Bool} {Γl Γ Γ1 Γ2 : List Bool} {pos p p2 : Pos} {e e' : Expr} {es : List Expr} {fa : Env → Out (List D)} {c q : Str} {st : Stmt} {k : Nat}
end
end PD

namespace PD
open PySem PySem.Spec L2
open PyProof.Rows hiding St

section
variable {X : Cx} {g : G} {E : WX} {Γ Γ1 Γ2 : List Bool} {pos p : Pos} {m : Md} {e : Expr} {es : List Expr} {L : List Str} {c f : Str}
noncomputable def eAt (L : List Str) (f : Str) (fe : Env → Out D) : Env → Out D := fun ρ => (fe ρ).bind fun d => match d with
  | .exn c fs => chk (c ∈ L) (match fs.lookup f with | some d => .ok d | none => .stuck)
  | _ => .stuck
end
end PD

namespace PD
open PySem PySem.Spec L2
open PyProof.Rows hiding St

section
variable {X : Cx} {g : G} {E W : WX} {ro : Bool} {Γl Γ Γ1 Γ2 Γ3 : List Bool} {pos p : Pos} {m : Md} {e : Expr} {st : Stmt} {L : List Str} {ρ : Env} {σ : St} {Hf H : Hp} {pins : List (Addr × Obj)} {s : Shared}
def ySet (i : Nat) (f : Env → Out D) : Env → Out Env := fun ρ => (f ρ).bind fun d => .ok (ρ.set i (some d))
def yExpr (f : Env → Out D) : Env → Out Env := fun ρ => (f ρ).bind fun _ => .ok ρ
def yIf (t : Env → Out Bool) (a b : Env → Out Env) : Env → Out Env := fun ρ => (t ρ).bind fun c => if c = true then a ρ else b ρ
def SO.gone (i : Nat) : SO → SO
  | .nx r => .nx (r.set i none)
  | .bk r => .bk (r.set i none)
  | .ct r => .ct (r.set i none)
  | .rt d => .rt d
  | _ => .stuck
def SO.calm : SO → SO
  | .ex _ => .stuck
  | o => o
abbrev Hd := Str × Option Nat × (Env → SO)
def sSuite (f : Env → SO) (x : Exn) (ρ : Env) : Option Nat → SO
  | some i => (f (ρ.set i (some (.exn x.cls x.fs)))).gone i
  | none => (f ρ).calm
open Classical in
noncomputable def sHand (L : List Str) : List Hd → Exn → Env → SO
  | [], x, _ => .ex x
  | h :: r, x, ρ => chkS (x.cls ∈ L ∧ h.1 ∈ L) (if subC x.cls h.1 = true then sSuite h.2.2 x ρ h.2.1 else sHand L r x ρ)
noncomputable def sTry (L : List Str) (fb : Env → Out Env) (hs : List Hd) (fe : Env → SO) : Env → SO := fun ρ => match fb ρ with
  | .ok r => fe r
  | .exc x => sHand L hs x ρ
  | .stuck => .stuck
end
end PD

namespace PD
open PySem PySem.Spec L2
open PyProof.Rows hiding St

section
variable {X : Cx} {g : G} {E W : WX} {ro : Bool} {Γl Γ Γ1 Γ2 Γ3 : List Bool} {pos p : Pos} {L : List Str} {ρ : Env} {σ : St} {Hf H : Hp} {pins : List (Addr × Obj)} {s : Shared}
section
open PySem.W
end
end
end PD

namespace PD
open PySem PySem.Spec L2
open PyProof.Rows hiding St

def leO {α : Type} (a b : Out α) : Prop := a = .stuck ∨ a = b
def leE {α : Type} (f g : Env → Out α) : Prop := ∀ ρ, leO (f ρ) (g ρ)
def leF (f g : List D → Out D) : Prop := ∀ ds, leO (f ds) (g ds)
theorem leF.ok {f g : List D → Out D} (h : leF f g) {ds : List D} {d : D} (e : f ds = .ok d) : g ds = .ok d := by
  rcases h ds with z | z
  · rw [z] at e; cases e
  · rw [← z]; exact e
theorem leF.exc {f g : List D → Out D} (h : leF f g) {ds : List D} {x : Exn} (e : f ds = .exc x) : g ds = .exc x := by
  rcases h ds with z | z
  · rw [z] at e; cases e
  · rw [← z]; exact e
section
variable {α β : Type}
theorem leO_bind {o o' : Out α} {k k' : α → Out β} (h : leO o o') (hk : ∀ a, leO (k a) (k' a)) : leO (o.bind k) (o'.bind k') := by
  rcases h with rfl | rfl
  · exact .inl rfl
  · cases o with
    | ok a => exact hk a
    | exc x => exact .inr rfl
    | stuck => exact .inl rfl
variable {fa fb fc ga gb gc : Env → Out D} {fr gr : Env → Out (List D)} {ft gt fu gu : Env → Out Bool} {F F' : List D → Out D} {b b' c c' : Env → SO} {G : D → Env → Out Env} {fi gi fj gj fk gk : Env → Out (Option Int)}
theorem le_or (h : leE ft gt) (h' : leE fu gu) : leE (bOr ft fu) (bOr gt gu) := fun ρ => leO_bind (h ρ) fun c => by cases c; exact h' ρ; exact .inr rfl
end
end PD

namespace PD
open PySem PySem.Spec L2
open PyProof.Rows hiding St

section
variable {X : Cx} {pins : List (Addr × Obj)} {σ : St} {H Hf : Hp} {s : Shared} {m : Md} {a : Addr} {o : HO}
def FlatAt (K : PySem.W.Frag) (mg : Mg) (Hf : Hp) (kvs : List (D × D)) (a : Addr) (o : HO) (xs : List (Key × V)) : Prop := (o = .dK xs ∧ IsKVs K mg Hf kvs xs) ∨ (o = dT mg.w a [] ∧ kvs = [] ∧ xs = [])
theorem flat_at {K : PySem.W.Frag} {mg : Mg} {kvs : List (D × D)} (h : DicAt K mg Hf kvs a o) (fl : ∀ p ∈ kvs, flatK p.1 = true) : ∃ xs, FlatAt K mg Hf kvs a o xs := by
  rcases h with ⟨xs, rfl, r⟩ | ⟨zs, rfl, r⟩
  · exact ⟨xs, .inl ⟨rfl, r⟩⟩
  · cases kvs with
    | nil => simp only [IsKTs] at r; subst r; exact ⟨[], .inr ⟨rfl, rfl, rfl⟩⟩
    | cons p kvs =>
      have h1 := fl p List.mem_cons_self
      rw [tkey_nf (r.keys p List.mem_cons_self)] at h1
      cases h1
theorem no_dT (I : Inv X pins σ H s) (h : Rd H a (dT X.w a [])) : False := by
  obtain ⟨hne, _⟩ := (show ObjOk X.prog X.w H s.heap a (dT X.w a []) from (Rd.ok h I.hok)).1
  exact hne rfl
theorem call_dictC : CallR X (.type "dict") (fun xs H Q => ∃ (a : Addr) (o : HO) (kvs : List (Key × V)), xs = [.ref a] ∧ Rd H a o ∧ (o = .dK kvs ∨ o = dT X.w a []) ∧ ∀ p, H p = none → Q (.ref p) (upd H p (.dK kvs))) := by
  intro pins s σ H xs us Q I r q
  obtain ⟨a, o, kvs, ex, hd, ho, q⟩ := q
  rcases ho with rfl | rfl
  · exact call_dictD pins s σ H xs us Q I r ⟨a, kvs, ex, hd, q⟩
  · exact (no_dT I hd).elim
noncomputable def cDict : List D → Out D
  | [.dic kvs] => chk (∀ p ∈ kvs, flatK p.1 = true) (.ok (.dic kvs))
  | _ => .stuck
theorem pv_dic {g : G} {E : WX} {Γ : List Bool} {ρ : Env} {kvs : List (D × D)} {xs : List (Key × V)} {Q : VK} {p : Addr} (R : Rp X.K X.mw g Γ ρ σ Hf H) (hv : IsKVs X.K X.mw Hf kvs xs) (n : H p = none)
    (k : tG X.K X.mw g E Γ ρ σ Hf H (PV X g Γ ρ σ m Q) (.ok (.dic kvs))) : Q (.ref p) (upd H p (.dK xs)) := by
  cases m with
  | ow =>
    obtain ⟨t2, R2, n0, nf, ap⟩ := R.newO (.dK xs) n
    exact k _ _ (Same.refl _) t2 R2 (.ref p) ⟨⟨p, _, rfl, n0, nf, upd_same, .inl ⟨xs, rfl, hv⟩⟩, fun i e ow e1 m _ e2 => ap i e ow e1 m e2⟩
  | fr =>
    obtain ⟨t1, t2, R2⟩ := R.new (.dK xs) n
    refine k _ _ t1 t2 R2 (.ref p) ?_
    show IsD _ _ _ _ _
    simp only [PD.IsD]
    exact ⟨p, _, rfl, .inl upd_same, .inl ⟨xs, rfl, IsKVs.mono t1 hv⟩⟩
  | rd =>
    obtain ⟨t1, t2, R2⟩ := R.new (.dK xs) n
    exact k _ _ t1 t2 R2 (.ref p) ⟨p, _, rfl, .inl upd_same, .inl ⟨xs, rfl, IsKVs.mono t1 hv⟩⟩
theorem ca_dict : CaD X (.type "dict") m cDict := by
  refine ⟨_, call_dictC, fun g E Γ ρ σ Hf H ds vs Q R h k => ?_⟩
  unfold cDict at k
  split at k
  · rename_i kvs
    by_cases c : ∀ p ∈ kvs, flatK p.1 = true
    · rw [chk_pos c] at k
      obtain ⟨v, rfl, a, o, rfl, hd, da⟩ := h.one
      obtain ⟨xs, f⟩ := flat_at da c
      rcases f with ⟨rfl, r⟩ | ⟨rfl, rfl, rfl⟩
      · exact ⟨a, _, xs, rfl, hd, .inl rfl, fun p n => pv_dic R r n k⟩
      · exact ⟨a, _, [], rfl, hd, .inr rfl, fun p n => pv_dic R (by simp only [IsKVs]) n k⟩
    · rw [chk_neg c] at k; exact k.elim
  · exact k.elim
theorem hits_data {A : Around} (I : Inv X pins σ H s) (hu : A.in1.units + 64 < cLine) {ls : List (Key × V)} {vb : List (Key × Value)} (rb : KV ls vb) {ks : List (Key × V)} {va : List (Key × Value)}
    (ra : KV ks va) : (∀ p ∈ ks, ∃ u d, valV ls p.1 = some u ∧ Dp X.K H p.2 d ∧ Dp X.K H u d ∧ SeqAt.shaped d = true) → PySem.W.KeqHits A.in1 s vb va true := by
  unfold KV at ra
  induction ra with
  | nil => intro _; exact .nil
  | @cons p q ps qs h t k =>
    intro hp
    obtain ⟨h1, h2⟩ := h
    obtain ⟨u, d, e, f1, f2, sh⟩ := hp p List.mem_cons_self
    have rr : RelO (some u) (valueAt vb p.1) := by rw [← e]; exact rb.val p.1
    obtain ⟨y, hy, ry⟩ := rr.some_of
    obtain ⟨key, v⟩ := q
    have h3 : p.1 = key := h1
    rw [h3] at hy
    obtain ⟨as, r1⟩ := Dp.reads I d p.2 v f1 h2
    obtain ⟨bs, r2⟩ := Dp.reads I d u y f2 ry
    have eq := PySem.W.keq_at r1 r2 sh sh hu
    rw [SeqAt.eqv_refl _ (SeqAt.canLay_of_shaped sh)] at eq
    show PySem.W.KeqHits A.in1 s vb ((key, v) :: qs) (true && true)
    exact .hit hy eq (k fun p' hm => hp p' (List.mem_cons_of_mem _ hm))
def rCmpC (X : Cx) (b : Bool) : R2 := fun x y H Q => ∃ (a : Addr) (oa : HO) (ka : List (Key × V)) (c : Addr) (oc : HO) (kc : List (Key × V)), x = .ref a ∧ y = .ref c ∧ Rd H a oa ∧ (oa = .dK ka ∨ oa = dT X.w a []) ∧ Rd H c oc ∧ (oc = .dK kc ∨ oc = dT X.w c []) ∧
  ka.length = kc.length ∧ (∀ p ∈ ka, ∃ u d, valV kc p.1 = some u ∧ Dp X.K H p.2 d ∧ Dp X.K H u d ∧ SeqAt.shaped d = true) ∧ Q (.bl b) H
theorem op_eqC (hu : X.A.units + 65 < cLine) : OpR X (compareOp .Eq) (rCmpC X true) := by
  intro pins s σ H x y v u Q I rx ry h
  obtain ⟨a, oa, ka, c, oc, kc, rfl, rfl, ha, ea, hc, ec, hl, hp, q⟩ := h
  cases (show v = Value.ref a from rx)
  cases (show u = Value.ref c from ry)
  rcases ea with rfl | rfl
  · rcases ec with rfl | rfl
    · obtain ⟨_, ya, va, ra, da⟩ := dk_rd I.hok ha
      obtain ⟨_, yb, vb, rb, db⟩ := dk_rd I.hok hc
      refine PySem.W.keq_eq (knd := mixKind X.prog X.w) (r := true) ya yb da db (by omega) (fun _ => hits_data I (by show X.A.units + 1 + 64 < cLine; omega) rb ra hp) ?_
      have e : va.length = vb.length := by rw [← ra.length, ← rb.length]; exact hl
      rw [show (va.length == vb.length && true) = true from by rw [e]; simp]
      exact ⟨.bl true, H, I, rfl, q⟩
    · exact (no_dT I hc).elim
  · exact (no_dT I ha).elim
def AlikeC (kvs ms : List (D × D)) : Prop := kvs.length = ms.length ∧ (∀ p ∈ kvs, flatK p.1 = true) ∧ (∀ p ∈ ms, flatK p.1 = true) ∧ ∀ p ∈ kvs, dicGet ms p.1 = some p.2 ∧ SeqAt.shaped (toPy p.2) = true
noncomputable def dCmpC (b : Bool) : D → D → Out D
  | .dic kvs, .dic ms => chk (AlikeC kvs ms) (.ok (.bl b))
  | _, _ => .stuck
theorem IsKVs.mem {K : PySem.W.Frag} {mg : Mg} {Hf : Hp} : ∀ {kvs : List (D × D)} {xs : List (Key × V)}, IsKVs K mg Hf kvs xs → ∀ x ∈ xs, ∃ p ∈ kvs, p.1 = kD x.1 ∧ PD.IsD K mg Hf p.2 x.2
  | [], xs, h, x, hx => by simp only [IsKVs] at h; subst h; exact (List.not_mem_nil hx).elim
  | (k, d) :: kvs, xs, h, x, hx => by
    simp only [IsKVs, IsKV] at h
    obtain ⟨y, us, rfl, ⟨e, q⟩, r⟩ := h
    rcases List.mem_cons.mp hx with rfl | hx
    · exact ⟨(k, d), List.mem_cons_self, e, q⟩
    · obtain ⟨p, hp, z⟩ := IsKVs.mem r x hx
      exact ⟨p, List.mem_cons_of_mem _ hp, z⟩
theorem IsKVs.ln {K : PySem.W.Frag} {mg : Mg} {Hf : Hp} : ∀ {kvs : List (D × D)} {xs : List (Key × V)}, IsKVs K mg Hf kvs xs → kvs.length = xs.length
  | [], xs, h => by simp only [IsKVs] at h; subst h; rfl
  | (k, d) :: kvs, xs, h => by
    simp only [IsKVs, IsKV] at h
    obtain ⟨y, us, rfl, _, r⟩ := h
    rw [List.length_cons, List.length_cons, IsKVs.ln r]
theorem alike_run {g : G} {E : WX} {Γ : List Bool} {ρ : Env} {x y : D} {v u : V} {Q : VK} {b : Bool} (R : Rp X.K X.mw g Γ ρ σ Hf H) (hx : IsR X.K X.mw Hf H x v) (hy : IsR X.K X.mw Hf H y u)
    (k : tG X.K X.mw g E Γ ρ σ Hf H (PV X g Γ ρ σ m Q) (dCmpC b x y)) : rCmpC X b v u H Q := by
  unfold dCmpC at k
  split at k
  · rename_i kvs ms
    by_cases c : AlikeC kvs ms
    · rw [chk_pos c] at k
      obtain ⟨cl, f1, f2, cv⟩ := c
      obtain ⟨a, oa, rfl, ha, da⟩ := hx
      obtain ⟨e, oe, rfl, he, de⟩ := hy
      obtain ⟨ka, fa⟩ := flat_at da f1
      obtain ⟨ke, fe⟩ := flat_at de f2
      have q := k Hf H (Same.refl _) (Same.refl _) R (.bl b) (Res.dat R.same rfl (by simp only [PD.IsD]))
      have ia : (oa = .dK ka ∨ oa = dT X.w a []) ∧ IsKVs X.K X.mw Hf kvs ka := by
        rcases fa with ⟨q1, q2⟩ | ⟨q1, q2, q3⟩
        · exact ⟨.inl q1, q2⟩
        · subst q2 q3; exact ⟨.inr q1, by simp only [IsKVs]⟩
      have ie : (oe = .dK ke ∨ oe = dT X.w e []) ∧ IsKVs X.K X.mw Hf ms ke := by
        rcases fe with ⟨q1, q2⟩ | ⟨q1, q2, q3⟩
        · exact ⟨.inl q1, q2⟩
        · subst q2 q3; exact ⟨.inr q1, by simp only [IsKVs]⟩
      refine ⟨a, oa, ka, e, oe, ke, rfl, rfl, ha, ia.1, he, ie.1, by rw [← ia.2.ln, ← ie.2.ln]; exact cl, fun p hp => ?_, q⟩
      obtain ⟨p', hp', e1, e2⟩ := ia.2.mem p hp
      obtain ⟨g1, sh⟩ := cv p' hp'
      have z := ie.2.get p.1
      rw [← e1, g1] at z
      obtain ⟨w, z1, z2⟩ := z
      exact ⟨w, toPy p'.2, z1, dp_of (IsD.mono R.same e2) (SeqAt.canLay_of_shaped sh), dp_of (IsD.mono R.same z2) (SeqAt.canLay_of_shaped sh), sh⟩
    · rw [chk_neg c] at k; exact k.elim
  · exact k.elim
theorem od_eqC {n : Nat} (hr : Room n X.A) : OpD X (compareOp .Eq) m (dCmpC true) := ⟨_, op_eqC (Room.units65 hr), fun _ _ _ _ _ _ _ _ _ _ _ _ R hx hy k => alike_run R hx hy k⟩
end
end PD

namespace PD
open PySem PySem.Spec L2
open PyProof.Rows hiding St

section
variable {X : Cx} {pins : List (Addr × Obj)} {σ : St} {H Hf : Hp} {s : Shared} {a b : Addr} {E : WX} {g : G} {ro : Bool} {Γl Γ Γ1 : List Bool} {pos : Pos} {ρ : Env}
end
end PD

namespace PD
open PySem PySem.Spec L2
open PyProof.Rows hiding St

mutual
def plainD : D → Bool
  | .non => true
  | .bl _ => true
  | .int _ => true
  | .str _ => true
  | .ty _ => true
  | .tup ds => plainDs ds
  | _ => false
def plainDs : List D → Bool
  | [] => true
  | d :: ds => plainD d && plainDs ds
end
def plainR (ro : Bool) : D → Bool
  | .lst ds => ro && plainDs ds
  | d => plainD d
section
variable {K : PySem.W.Frag} {mg : Mg} {Hf H : Hp}
def NoTup (H : Hp) (x : Addr) : Prop := ∀ xs, ¬ Rd H x (.tup xs)
open Classical in
noncomputable def lendF (Hf H : Hp) : Hp := fun x => match Hf x with
  | some o => some o
  | none => if NoTup H x then H x else none
open Classical in
noncomputable def backF (Hf H Hf' : Hp) : Hp := fun x => match Hf x with
  | some o => some o
  | none => if H x = none then Hf' x else none
theorem lend_some {x : Addr} {o : HO} (h : Hf x = some o) : lendF Hf H x = some o := by unfold lendF; rw [h]
theorem lend_mut {x : Addr} {o : HO} (s : Same Hf H) (h : H x = some o) (n : NoTup H x) : lendF Hf H x = some o := by
  unfold lendF
  cases e : Hf x with
  | some o' => have := s x o' e; rw [h] at this; exact this.symm
  | none => simp only; rw [if_pos n, h]
theorem lend_same (s : Same Hf H) : Same Hf (lendF Hf H) := fun _ _ e => lend_some e
theorem lend_in (s : Same Hf H) : Same (lendF Hf H) H := fun x o e => by
  unfold lendF at e
  cases q : Hf x with
  | some o' => rw [q] at e; have e : some o' = some o := e; cases e; exact s x _ q
  | none =>
    rw [q] at e
    simp only at e
    split at e
    · exact e
    · cases e
theorem rd_notup {x : Addr} {u : HO} (h : Rd H x u) (n1 : ∀ xs, u ≠ .tup xs) (n2 : ∀ o v, u ≠ .frz o v) : NoTup H x := fun xs q => by
  rcases h with h | ⟨o, h⟩ <;> rcases q with q | ⟨o', q⟩ <;> rw [h] at q
  · exact n1 xs (Option.some.inj q)
  · exact n2 _ _ (Option.some.inj q)
  · cases q
  · have := Option.some.inj q
    injection this with _ e
    exact n1 xs e
theorem lend_R (s : Same Hf H) {d : D} {v : V} (h : IsR K mg Hf H d v) : IsD K mg (lendF Hf H) d v := by
  have key : IsR K mg Hf H d v → IsD K mg (lendF Hf H) d v := by
    cases d with
    | lst ds =>
      rintro ⟨a, xs, rfl, q, r⟩
      simp only [PD.IsD]
      exact ⟨a, xs, rfl, lend_mut s q (rd_notup (.inl q) (fun _ e => by cases e) fun _ _ e => by cases e), IsDs.mono (lend_same s) r⟩
    | dic kvs =>
      rintro ⟨a, o, rfl, q, r⟩
      have n1 : ∀ xs, o ≠ .tup xs := fun xs e => by
        rcases r with ⟨ys, e', _⟩ | ⟨zs, e', _⟩ <;> (rw [e'] at e; cases e)
      have n2 : ∀ o' u, o ≠ .frz o' u := fun o' u e => by
        rcases r with ⟨ys, e', _⟩ | ⟨zs, e', _⟩ <;> (rw [e'] at e; cases e)
      have nt := rd_notup q n1 n2
      simp only [PD.IsD]
      refine ⟨a, o, rfl, ?_, DicAt.mono (lend_same s) r⟩
      rcases q with q | ⟨o', q⟩
      · exact .inl (lend_mut s q nt)
      · exact .inr ⟨o', lend_mut s q nt⟩
    | ins c fs =>
      rintro ⟨a, o, rfl, q, r⟩
      have nt := rd_notup (.inl q) (fun xs e => by obtain ⟨_, _, _, e', _⟩ := r; rw [e'] at e; cases e) fun o' u e => by obtain ⟨_, _, _, e', _⟩ := r; rw [e'] at e; cases e
      simp only [PD.IsD]
      exact ⟨a, o, rfl, lend_mut s q nt, InsAt.mono (lend_same s) r⟩
    | _ => exact fun h => IsD.mono (lend_same s) h
  exact key h
theorem lend_Rs (s : Same Hf H) : ∀ {ds : List D} {vs : List V}, IsRs K mg Hf H ds vs → IsDs K mg (lendF Hf H) ds vs
  | [], vs, h => by simp only [IsDs]; exact h
  | d :: ds, vs, h => by
    obtain ⟨v, us, rfl, q, r⟩ := h
    simp only [IsDs]
    exact ⟨v, us, rfl, lend_R s q, lend_Rs s r⟩
variable {Hf' H' : Hp}
theorem back_1 : Same Hf (backF Hf H Hf') := fun x o e => by unfold backF; rw [e]
theorem back_2 (s : Same Hf H) (s3 : Same H H') (s2 : Same Hf' H') : Same (backF Hf H Hf') H' := fun x o e => by
  unfold backF at e
  cases q : Hf x with
  | some o' => rw [q] at e; have e : some o' = some o := e; cases e; exact s3 x _ (s x _ q)
  | none =>
    rw [q] at e
    simp only at e
    split at e
    · exact s2 x o e
    · cases e
theorem back_new (x : Addr) (o : HO) (e : backF Hf H Hf' x = some o) : Hf x = some o ∨ H x = none := by
  unfold backF at e
  cases q : Hf x with
  | some o' => rw [q] at e; have e : some o' = some o := e; cases e; exact .inl rfl
  | none =>
    rw [q] at e
    simp only at e
    split at e
    · rename_i n; exact .inr n
    · cases e
theorem back_rd (s : Same Hf H) (s1 : Same (lendF Hf H) Hf') (nw : ∀ a o, Hf' a = some o → lendF Hf H a = some o ∨ H a = none) {a : Addr} {xs : List V} {z : Obj} (h : Hf' a = some (.frz z (.tup xs))) : backF Hf H Hf' a = some (.frz z (.tup xs)) := by
  have key : ∀ o, Hf' a = some o → (o = .tup xs ∨ ∃ z, o = .frz z (.tup xs)) → backF Hf H Hf' a = some o := fun o e ho => by
    unfold backF
    cases q : Hf a with
    | some o' =>
      have := s1 a o' (lend_some q)
      rw [e] at this
      exact this.symm
    | none =>
      simp only
      rcases nw a o e with z | z
      · exfalso
        unfold lendF at z
        rw [q] at z
        simp only at z
        split at z
        · rename_i n
          rcases ho with rfl | ⟨w, rfl⟩
          · exact n xs (.inl z)
          · exact n xs (.inr ⟨w, z⟩)
        · cases z
      · rw [if_pos z]; exact e
  exact key _ h (.inr ⟨z, rfl⟩)
mutual
theorem back_D (s : Same Hf H) (s1 : Same (lendF Hf H) Hf') (nw : ∀ a o, Hf' a = some o → lendF Hf H a = some o ∨ H a = none) : ∀ {d : D} {v : V}, plainD d = true → IsD K mg Hf' d v → IsD K mg (backF Hf H Hf') d v
  | .non, v, _, h => by simpa only [PD.IsD] using h
  | .bl b, v, _, h => by simpa only [PD.IsD] using h
  | .int i, v, _, h => by simpa only [PD.IsD] using h
  | .str x, v, _, h => by simpa only [PD.IsD] using h
  | .ty n, v, _, h => by simpa only [PD.IsD] using h
  | .tup ds, v, p, h => by
    simp only [PD.IsD] at h ⊢
    obtain ⟨a, xs, e, q, r⟩ := h
    refine ⟨a, xs, e, ?_, back_Ds s s1 nw (by simpa only [plainD] using p) r⟩
    rcases q with ⟨o, q, hd⟩ | q
    · exact .inl ⟨o, back_rd s s1 nw q, hd⟩
    · exact .inr q
  | .lst ds, v, p, h => by simp [plainD] at p
  | .dic ds, v, p, h => by simp [plainD] at p
  | .scr ds, v, p, h => by simp [plainD] at p
  | .ins _ _, v, p, h => by simp [plainD] at p
  | .adr _, v, p, h => by simp [plainD] at p
  | .exn _ _, v, p, h => by simp [plainD] at p
  | .cls _, v, p, h => by simp [plainD] at p
theorem back_Ds (s : Same Hf H) (s1 : Same (lendF Hf H) Hf') (nw : ∀ a o, Hf' a = some o → lendF Hf H a = some o ∨ H a = none) : ∀ {ds : List D} {vs : List V}, plainDs ds = true → IsDs K mg Hf' ds vs → IsDs K mg (backF Hf H Hf') ds vs
  | [], vs, _, h => by simpa only [IsDs] using h
  | d :: ds, vs, p, h => by
    simp only [plainDs, Bool.and_eq_true] at p
    simp only [IsDs] at h ⊢
    obtain ⟨v, us, e, q, r⟩ := h
    exact ⟨v, us, e, back_D s s1 nw p.1 q, back_Ds s s1 nw p.2 r⟩
end
end
section
variable {X : Cx} {g : G} {E : WX} {ro : Bool} {Γ Γ1 : List Bool} {pos p : Pos} {x : Str} {e : Expr} {es : List Expr} {k : Nat} {ps : List Str} {F : List D → Out D} {fa : Env → Out (List D)}
noncomputable def eBor (ro : Bool) (F : List D → Out D) (fa : Env → Out (List D)) : Env → Out D := fun ρ => (fa ρ).bind fun ds => (F ds).nox.bind fun d => chk (plainR ro d = true) (.ok d)
theorem bor_sp {ρ : Env} {σ : St} {F1 H1 : Hp} {ds : List D} {vs : List V} {Q : VK} (R : Rp X.K X.mw g Γ ρ σ F1 H1) (hv : IsRs X.K X.mw F1 H1 ds vs) (k : tG X.K X.mw g E Γ ρ σ F1 H1 (PV X g Γ ρ σ (if ro = true then .ow else .fr) Q) ((F ds).nox.bind fun d => chk (plainR ro d = true) (.ok d))) : spD X.K X.mw ro F vs H1 Q (WE E σ) := by
  refine ⟨ds, lendF F1 H1, lend_in R.same, lend_Rs R.same hv, ?_⟩
  cases hF : F ds with
  | ok d =>
    rw [hF] at k
    replace k : tG X.K X.mw g E Γ ρ σ F1 H1 (PV X g Γ ρ σ (if ro = true then .ow else .fr) Q) (chk (plainR ro d = true) (.ok d)) := k
    by_cases c : plainR ro d = true
    · rw [chk_pos c] at k
      intro v Hf' H' t1 t2 t3 nw rr
      have R2 := R.back back_1 (back_2 R.same t3 t2) t3 back_new
      refine k (backF F1 H1 Hf') H' back_1 t3 R2 v ?_
      cases ro with
      | false =>
        rw [if_neg Bool.false_ne_true]
        have pl : plainD d = true := by
          cases d <;> simp_all [plainR, plainD]
        exact back_D R.same t1 nw pl rr
      | true =>
        rw [if_pos rfl]
        cases d with
        | lst es =>
          obtain ⟨a, xs, rfl, z0, zf, q, r⟩ := rr
          have n1 : F1 a = none := R.same.free z0
          have pl : plainDs es = true := by simpa [plainR] using c
          refine ⟨⟨a, xs, rfl, R.ent.free z0, ?_, q, back_Ds R.same t1 nw pl r⟩, fun i e' ow e1 m1 _ e2 => ?_⟩
          · unfold backF
            rw [n1]
            simp only
            rw [if_pos z0]; exact zf
          · obtain ⟨v', es', io⟩ := R.own i e' ow e1
            rw [e2] at es'
            obtain rfl : V.ref a = v' := Option.some.inj (Option.some.inj es')
            cases e' with
            | lst ys => obtain ⟨b, ws, eb, _, _, hb, _⟩ := io; cases eb; rw [z0] at hb; cases hb
            | dic ys => obtain ⟨b, ws, eb, _, _, hb, _⟩ := io; cases eb; rw [z0] at hb; cases hb
            | ins c ys => obtain ⟨b, ws, eb, _, _, hb, _⟩ := io; cases eb; rw [z0] at hb; cases hb
            | _ => cases m1
        | dic es => simp [plainR, plainD] at c
        | ins c es => simp [plainR, plainD] at c
        | _ => exact ⟨back_D R.same t1 nw c rr, fun i e' ow e1 m1 m2 e2 => by cases m2⟩
    · rw [chk_neg c] at k; exact k.elim
  | exc y => rw [hF] at k; exact k.elim
  | stuck => rw [hF] at k; exact k.elim
theorem px_callR (C : FnA X.prog X.w X.K X.mg X.base k x ps ro F) (hr : Room k X.A) (hg : Gl X x) (tk : Takes X E) (ha : PBx X g E Γ (e :: es) Γ1 fa) (hdb : (x == ("__debug__" : Str)) = false := by decide)
    (he : starEach (e :: es) X.env = (false, eval e X.env) :: starEach es X.env := by rfl) (hpl : (backTo pos (starEach es X.env)).any (·.1) = false := by rfl) : PX X g E Γ (.Call (.Name x p) (e :: es) [] pos) Γ1 (if ro = true then .ow else .fr) (eBor ro F fa) := by
  obtain ⟨f, fd, e1, e2, e3, e4, _⟩ := C.ex
  refine ⟨ha.le, (pe_callS e4 hr hg e1 e2 e3 (fun σ => passAt tk σ) ha.pe hdb he hpl).imp fun σ H Q ⟨ρ, Hf, R, q⟩ => ⟨ρ, Hf, R, ?_⟩⟩
  exact tG.bind (Le.refl _) q fun ds F1 H1 s1 s2 R1 k1 vs hv => bor_sp R1 hv k1
theorem px_callRF (C : FnA X.prog X.w X.K X.mg X.base k x ps false F) (hr : Room k X.A) (hg : Gl X x) (tk : Takes X E) (ha : PBx X g E Γ (e :: es) Γ1 fa) (hdb : (x == ("__debug__" : Str)) = false := by decide)
    (he : starEach (e :: es) X.env = (false, eval e X.env) :: starEach es X.env := by rfl) (hpl : (backTo pos (starEach es X.env)).any (·.1) = false := by rfl) : PX X g E Γ (.Call (.Name x p) (e :: es) [] pos) Γ1 .fr (eBor false F fa) := px_callR C hr hg tk ha hdb he hpl
theorem eBor_ap (ro : Bool) (F : List D → Out D) (fa : Env → Out (List D)) (ρ : Env) : eBor ro F fa ρ = (fa ρ).bind fun ds => (F ds).nox.bind fun d => chk (plainR ro d = true) (.ok d) := rfl
end
end PD

namespace PD
open PySem PySem.Spec L2
open PyProof.Rows hiding St

section
variable {X : Cx} {m : Md}
theorem op_mulS : OpR X (binaryOp .Mult) (fun x y H Q => ∃ (a : Str) (n : Int), x = .str a ∧ y = .int n ∧ a.length ≤ 16 ∧ -(2 ^ 63 : Int) ≤ n ∧ n ≤ ((1048576 : Nat) : Int) ∧ Q (.str (Txt.mul a n)) H) := by
  intro pins s σ H x y v u Q I rx ry h
  obtain ⟨a, n, rfl, rfl, h1, h2, h3, q⟩ := h
  obtain ⟨t, rfl⟩ := rx
  obtain ⟨t2, rfl⟩ := ry
  exact PySem.W.KXi.mul rfl h1 h2 h3 fun t' k _ _ => ⟨.str _, H, I.tok k, ⟨t', rfl⟩, q⟩
noncomputable def dMulS : D → D → Out D
  | .str a, .int n => chk (a.length ≤ 16 ∧ -(2 ^ 63 : Int) ≤ n ∧ n ≤ ((1048576 : Nat) : Int)) (.ok (.str (Txt.mul a n)))
  | _, _ => .stuck
theorem od_mulS {k : Nat} (_ : Room k X.A) : OpD X (binaryOp .Mult) m dMulS := by
  refine ⟨_, op_mulS, fun g E Γ ρ σ Hf H x y v u Q R hx hy k => ?_⟩
  unfold dMulS at k
  split at k
  · rename_i a n
    simp only [IsR, PD.IsD] at hx hy
    by_cases c : a.length ≤ 16 ∧ -(2 ^ 63 : Int) ≤ n ∧ n ≤ ((1048576 : Nat) : Int)
    · rw [chk_pos c] at k
      exact ⟨a, n, hx, hy, c.1, c.2.1, c.2.2, k Hf H (Same.refl _) (Same.refl _) R _ (Res.dat R.same rfl (by simp only [PD.IsD]))⟩
    · rw [chk_neg c] at k; exact k.elim
  · exact k.elim
end
end PD

namespace PD
open PySem PySem.Spec L2
open PyProof.Rows hiding St

section
variable {X : Cx} {g : G} {E : WX} {Γ Γ1 : List Bool} {tg a : Expr} {p p2 pos pos2 : Pos} {f : Env → Out D}
end
end PD

namespace PD
open PySem PySem.Spec L2
open PyProof.Rows hiding St

def DSz (h : Heap) (a : Addr) (n : Nat) : Prop := (a == sysModules) = false ∧ ∃ o es ep, h.get? a = some o ∧ o.ExactDict ∧ o.data = .dict es ep ∧ es.size = n
section
variable {X : Cx} {pins : List (Addr × Obj)} {σ : St} {H Hf : Hp} {s : Shared} {m : Md} {A : Around} {E : Value → Shared → Prop}
theorem DSz.typeIs {h : Heap} {a : Addr} {n : Nat} {s : Shared} (d : DSz s.heap a n) : s.TypeIs (.ref a) "dict" :=
  let ⟨_, o, _, _, ho, hc, _⟩ := d; ⟨o, ho, hc.1⟩
theorem IsKTs.ln {K : PySem.W.Frag} {mg : Mg} {Hf : Hp} : ∀ {kvs : List (D × D)} {xs : List (PyData × Addr × V)}, IsKTs K mg Hf kvs xs → kvs.length = xs.length
  | [], xs, h => by simp only [IsKTs] at h; subst h; rfl
  | (k, d) :: kvs, xs, h => by
    simp only [IsKTs, IsKT] at h
    obtain ⟨y, us, rfl, _, r⟩ := h
    rw [List.length_cons, List.length_cons, IsKTs.ln r]
end
end PD

namespace PD
open PySem PySem.Spec L2
open PyProof.Rows hiding St

section
variable {K : PySem.W.Frag} {mg : Mg} {H Hf : Hp}
theorem IsFs.lk {f : Str} : ∀ {fs : List (Str × D)} {xs : List (Str × V)}, IsFs K mg H fs xs → (∀ d, fs.lookup f = some d → ∃ v, xs.lookup f = some v ∧ PD.IsD K mg H d v) ∧ (fs.lookup f = none → xs.lookup f = none)
  | [], xs, q => by
    simp only [IsFs] at q
    subst q
    exact ⟨(fun d e => by cases e), fun _ => rfl⟩
  | (g, x) :: fs, xs, q => by
    simp only [IsFs, IsF] at q
    obtain ⟨⟨g', y⟩, us, rfl, ⟨e, qx⟩, r⟩ := q
    simp only at e
    subst e
    rw [List.lookup_cons, List.lookup_cons]
    cases f == g with
    | true => exact ⟨(fun d e => by cases e; exact ⟨y, rfl, qx⟩), fun e => by cases e⟩
    | false => exact IsFs.lk r
theorem IsFs.len : ∀ {fs : List (Str × D)} {xs : List (Str × V)}, IsFs K mg H fs xs → xs.length = fs.length
  | [], xs, q => by simp only [IsFs] at q; subst q; rfl
  | (g, x) :: fs, xs, q => by
    simp only [IsFs, IsF] at q
    obtain ⟨y, us, rfl, _, r⟩ := q
    rw [List.length_cons, List.length_cons, IsFs.len r]
end
noncomputable def eFld (L fl : List Str) (f : Str) (fe : Env → Out D) : Env → Out D := fun ρ => (fe ρ).bind fun d => match d with
  | .ins c fs => chk (c ∈ L ∧ f ∈ fl) (match fs.lookup f with
    | some d => .ok d
    | none => .stuck)
  | _ => .stuck
section
variable {X : Cx} {g : G} {E : WX} {ro : Bool} {Γl Γ Γ1 Γ2 : List Bool} {m : Md} {pos p p2 : Pos} {L fl : List Str} {e o : Expr} {f : Str} {fe fo : Env → Out D}
end

structure MeA (P : Program) (w : World) (K : PySem.W.Frag) (mg : Str → Option Value) (base : Heap) (k : Nat) (m : Str) (cs : List Str) (ps : List Str) (ro : Bool) (F : List D → Out D) : Prop where
  ex : ∃ f fd, (∀ c ∈ cs, ∃ C, mg c = some (.ref C) ∧ Cls K C ∧ Meth K C m f) ∧ Binds K fd ps [] ∧ FnOk P w K mg base (L2.CX P w) k f fd ps (spD K ⟨mg, w⟩ ro F)
theorem MeA.mono {P : Program} {w : World} {K : PySem.W.Frag} {mg : Str → Option Value} {base : Heap} {j k : Nat} {m : Str} {cs ps : List Str} {ro : Bool} {F : List D → Out D} (h : MeA P w K mg base j m cs ps ro F) (l : j ≤ k) : MeA P w K mg base k m cs ps ro F := by
  obtain ⟨f, fd, e1, e2, e3⟩ := h.ex
  exact ⟨f, fd, e1, e2, e3.mono l⟩
section
variable {X : Cx} {CX : CXT} {k : Nat} {f C : Addr} {fd : FuncData} {ps : List Str} {sp : Sp} {E : St → XK} {x m : Str} {p pos apos : Pos} {e o : Expr} {es : List Expr} {ta : TE} {t : TA}
end
def pick (tbl : List (List Str × (List D → Out D))) (c : Str) : Option (List D → Out D) := (tbl.find? fun q => decide (c ∈ q.1)).map (·.2)
noncomputable def eMth (m : Str) (tbl : List (List Str × (List D → Out D))) (fo : Env → Out D) (fa : Env → Out (List D)) : Env → Out D := fun ρ => (fo ρ).bind fun s => match s with
  | .ins c fs => chk (fs.lookup m = none) (match pick tbl c with
    | some F => (fa ρ).bind fun ds => F (s :: ds)
    | none => .stuck)
  | _ => .stuck
section
variable {X : Cx} {g : G} {E : WX} {ro : Bool} {Γ Γ1 Γ2 : List Bool} {pos apos : Pos} {e o : Expr} {es : List Expr} {k : Nat} {ps : List Str} {m : Str} {fo : Env → Out D} {fa : Env → Out (List D)} {tbl : List (List Str × (List D → Out D))}
end
section
variable {P : Program} {w : World} {K : PySem.W.Frag} {mg : Str → Option Value} {base : Heap}
end
end PD

namespace PD
open PySem PySem.Spec L2
open PyProof.Rows hiding St

def spM (K : PySem.W.Frag) (mg : Mg) (F : List D → Out D) : Sp := fun vs H Q E => ∃ a us c fs o ds Hf, vs = .ref a :: us ∧ H a = some o ∧ Hf a = none ∧ Same Hf H ∧ InsAt K mg Hf c fs o ∧ IsDs K mg Hf ds us ∧ match F (.ins c fs :: ds) with
  | .ok d => ∀ r c' fs' v Hf' H' o', d = .tup [r, .ins c' fs'] → Same Hf Hf' → Same Hf' H' → (∀ b x, b ≠ a → H b = some x → H' b = some x) → (∀ b x, Hf' b = some x → Hf b = some x ∨ H b = none) → Hf' a = none → H' a = some o' → InsAt K mg Hf' c' fs' o' → IsD K mg Hf' r v → Q v H'
  | .exc x => ∀ cl dd Hf' H', Same Hf Hf' → Same Hf' H' → (∀ b x, b ≠ a → H b = some x → H' b = some x) → (∀ b x, Hf' b = some x → Hf b = some x ∨ H b = none ∨ b = a) → IsX K mg x cl dd Hf' → E cl dd H'
  | .stuck => False
structure MmA (P : Program) (w : World) (K : PySem.W.Frag) (mg : Str → Option Value) (base : Heap) (k : Nat) (m : Str) (cs : List Str) (ps : List Str) (F : List D → Out D) : Prop where
  ex : ∃ f fd, (∀ c ∈ cs, ∃ C, mg c = some (.ref C) ∧ Cls K C ∧ Meth K C m f) ∧ Binds K fd ps [] ∧ FnOk P w K mg base (L2.CX P w) k f fd ps (spM K ⟨mg, w⟩ F)
theorem MmA.mono {P : Program} {w : World} {K : PySem.W.Frag} {mg : Str → Option Value} {base : Heap} {j k : Nat} {m : Str} {cs ps : List Str} {F : List D → Out D} (h : MmA P w K mg base j m cs ps F) (l : j ≤ k) : MmA P w K mg base k m cs ps F := by
  obtain ⟨f, fd, e1, e2, e3⟩ := h.ex
  exact ⟨f, fd, e1, e2, e3.mono l⟩
section
variable {P : Program} {w : World} {K : PySem.W.Frag} {mg : Str → Option Value} {base : Heap}
end
end PD

namespace PD
open PySem PySem.Spec L2
open PyProof.Rows hiding St

section
variable {X : Cx} {CX : CXT} {k : Nat} {f C : Addr} {fd : FuncData} {ps : List Str} {sp : Sp} {E : St → XK} {x m : Str} {p pos : Pos} {e : Expr} {es : List Expr} {t : TA}
end
section
variable {X : Cx} {g : G} {E : WX} {Γ Γ1 : List Bool} {pos p : Pos} {e : Expr} {es : List Expr} {k : Nat} {ps : List Str} {c : Str} {F : List D → Out D} {fa : Env → Out (List D)} {ρ : Env} {σ : St} {Hf H : Hp}
def eMk0 (c : Str) : Env → Out D := fun _ => .ok (.ins c [])
def eMake (c : Str) (F : List D → Out D) (fa : Env → Out (List D)) : Env → Out D := fun ρ => (fa ρ).bind fun ds => (F (.ins c [] :: ds)).bind fun d => match d with
  | .tup [.non, .ins c' fs] => .ok (.ins c' fs)
  | _ => .stuck
end
section
variable {P : Program} {w : World} {K : PySem.W.Frag} {mg : Str → Option Value} {base : Heap}
end
end PD

namespace PD
open PySem PySem.Spec L2
open PyProof.Rows hiding St

section
variable {X : Cx} {g : G} {E : WX} {ro : Bool} {Γl Γ Γ1 Γ2 Γ3 : List Bool} {m : Md} {pos p apos : Pos} {e a : Expr} {es : List Expr} {f fa fb : Env → Out D}
end
section
variable {X : Cx} {g : G} {E : WX} {Γ Γ1 : List Bool} {m : Md} {pos p : Pos} {e : Expr} {f : Env → Out D} {x : Str} {kvs : List (Str × Str)}
end
end PD

namespace PD
open PySem PySem.Spec L2
open PyProof.Rows hiding St

section
variable {K : PySem.W.Frag} {h : Heap} {mg : Str → Option Value} {m q : Str} {st : Stmt} {f : Addr} {cs : List Str}
end
section
variable {P : Program} {w : World} {K : PySem.W.Frag} {mg : Str → Option Value} {base : Heap} {k : Nat} {m : Str} {ps : List Str} {ro : Bool}
theorem MeA.sub {cs ds : List Str} {F : List D → Out D} (h : MeA P w K mg base k m cs ps ro F) (s : ∀ c ∈ ds, c ∈ cs) : MeA P w K mg base k m ds ps ro F := by
  obtain ⟨f, fd, e1, e2, e3⟩ := h.ex
  exact ⟨f, fd, fun c hc => e1 c (s c hc), e2, e3⟩
end
section
variable {X : Cx} {g : G} {E : WX} {Γ Γ1 Γ2 : List Bool} {pos apos : Pos} {e o : Expr} {es : List Expr} {k : Nat} {ps : List Str} {m : Str} {fo : Env → Out D} {fa : Env → Out (List D)} {tbl : List (List Str × (List D → Out D))}
end
end PD

namespace PD
open PySem PySem.Spec L2
open PyProof.Rows hiding St

section
variable {X : Cx} {g : G} {E : WX} {Γ : List Bool} {m : Md} {pos : Pos} {L : List Str} {b : Str}
end
end PD

namespace PD
open PySem PySem.Spec L2
open PyProof.Rows hiding St

def prT : D → Option (Str × D)
  | .tup [.str x, d] => some (x, d)
  | _ => none
def prsT : List D → Option (List (Str × D))
  | [] => some []
  | d :: ds => match prT d, prsT ds with
    | some p, some l => some (p :: l)
    | _, _ => none
noncomputable def putsT (acc : List (D × D)) (l : List (Str × D)) : List (D × D) := l.foldl (fun acc p => dicPut acc (.str p.1) p.2) acc
noncomputable def cDictT : List D → Out D
  | [.tup ds] => match prsT ds with
    | some l => .ok (.dic (putsT [] l))
    | none => .stuck
  | _ => .stuck
theorem cDictT_tup (ds : List D) {l : List (Str × D)} (h : prsT ds = some l) : cDictT [.tup ds] = .ok (.dic (putsT [] l)) := by
  show (match prsT ds with
    | some l => Out.ok (D.dic (putsT [] l))
    | none => .stuck) = _
  rw [h]
section
variable {X : Cx} {pins : List (Addr × Obj)} {σ : St} {H Hf : Hp} {s : Shared} {m : Md} {a : Addr} {o : HO}
theorem prT_is {K : PySem.W.Frag} {mg : Mg} {d : D} {x : Str} {e : D} {v : V} (h : prT d = some (x, e)) (i : IsD K mg Hf d v) : ∃ p y, v = .ref p ∧ SqT K Hf p [.str x, y] ∧ IsD K mg Hf e y := by
  unfold prT at h
  split at h
  · rename_i x' d'
    cases h
    simp only [IsD] at i
    obtain ⟨p, xs, rfl, q, r⟩ := i
    simp only [IsDs] at r
    obtain ⟨v1, vs, rfl, i1, v2, vs2, rfl, i2, rfl⟩ := r
    simp only [IsD] at i1
    subst i1
    exact ⟨p, v2, rfl, q, i2⟩
  · cases h
theorem prs_is {K : PySem.W.Frag} {mg : Mg} : ∀ {ds : List D} {l : List (Str × D)} {xs : List V}, prsT ds = some l → IsDs K mg Hf ds xs →
    ∃ (ps : List Addr) (kvs : List (Key × V)), xs = ps.map V.ref ∧ Paired (fun p kv => SqT K Hf p [kV kv.1, kv.2]) ps kvs ∧ ∀ acc ax, IsKVs K mg Hf acc ax → IsKVs K mg Hf (putsT acc l) (mergeK ax kvs)
  | [], l, xs, h, i => by
    cases h
    simp only [IsDs] at i
    subst i
    exact ⟨[], [], rfl, .nil, fun acc ax q => q⟩
  | d :: ds, l, xs, h, i => by
    unfold prsT at h
    split at h
    · rename_i p l' h1 h2
      cases h
      simp only [IsDs] at i
      obtain ⟨v, vs, rfl, i1, i2⟩ := i
      obtain ⟨x, e⟩ := p
      obtain ⟨b, y, rfl, q, ie⟩ := prT_is h1 i1
      obtain ⟨ps, kvs, rfl, pr, k⟩ := prs_is h2 i2
      refine ⟨b :: ps, (.inr x, y) :: kvs, rfl, .cons q pr, fun acc ax ha => ?_⟩
      show IsKVs K mg Hf (putsT (dicPut acc (.str x) e) l') (mergeK (putK ax (.inr x) y) kvs)
      exact k _ _ (IsKVs.put (.inr x) ie ha)
    · cases h
theorem plain_tup {xs : List V} (I : Inv X pins σ H s) (h : SqT X.K H a xs) : ∃ its : List Value, Vals xs its ∧ PlainSeq "tuple" s.heap a its.toArray ∧ its.length ≤ sizeLine := by
  rcases h with ⟨o, h, hd⟩ | ⟨o, its, n, hl, hc, hd, hdat, hz, rv⟩
  · obtain ⟨ho, hz, its, rv, o', ho', hc, n, hdat⟩ := (show ObjOk X.prog X.w H s.heap a (.frz o (.tup xs)) from I.hok a _ h)
    rw [ho] at ho'
    cases ho'
    exact ⟨its, rv, ⟨o, n, ho, hc, hd, hdat⟩, by rw [← rv.length]; exact hz⟩
  · refine ⟨its.toList, rv, ⟨o, n, I.kIn a o hl, hc, hd, by rw [hdat]⟩, by simpa using hz⟩
theorem call_dictT (hcalm : X.calm = true) : CallR X (.type "dict") (fun xs H Q => ∃ (a : Addr) (ps : List Addr) (kvs : List (Key × V)), xs = [.ref a] ∧ SqT X.K H a (ps.map V.ref) ∧ Paired (fun p kv => L2.SqT X.K H p [kV kv.1, kv.2]) ps kvs ∧
    ∀ p, H p = none → Q (.ref p) (upd H p (.dK (mergeK [] kvs)))) := by
  intro pins s σ H xs us Q I r q
  obtain ⟨a, ps, kvs, ex, hq, hp, q⟩ := q
  subst ex
  obtain ⟨u, eu, rx⟩ := vals1 r
  subst eu
  cases rx
  obtain ⟨its, rv, pl, hz⟩ := plain_tup I hq
  have ei := refs_at rv
  subst ei
  rw [List.length_map] at hz
  obtain ⟨prs, rel, hl, hpr⟩ := pairs_of I hp
  have ex : ∀ j : Nat, ∃ b : Addr, ∀ q, prs[j]? = some q → ps[j]? = some b := fun j => by
    cases e : prs[j]? with
    | none => exact ⟨0, fun q z => by cases z⟩
    | some q' => obtain ⟨b, u, e1, _⟩ := hpr j q' e; exact ⟨b, fun _ _ => e1⟩
  have ku : ∀ j : Nat, ∃ u : Value, ∀ q, prs[j]? = some q → ∃ b, ps[j]? = some b ∧ IsTup s.heap b #[u, q.2] ∧ keyIs q.1 u = true := fun j => by
    cases e : prs[j]? with
    | none => exact ⟨.none, fun q z => by cases z⟩
    | some q' => obtain ⟨b, u, e1, e2, e3⟩ := hpr j q' e; exact ⟨u, fun q z => by cases z; exact ⟨b, e1, e2, e3⟩⟩
  obtain ⟨K, hK⟩ := Classical.axiomOfChoice ku
  let kps : List (Value × Value) := (List.range prs.length).map fun j => (K j, ((prs[j]?).map (·.2)).getD .none)
  have kl : kps.length = prs.length := by simp [kps]
  have kat : ∀ (j : Nat) k v, kps[j]? = some (k, v) → ∃ q, prs[j]? = some q ∧ k = K j ∧ v = q.2 := fun j k v e => by
    have hj : j < prs.length := by
      have := (List.getElem?_eq_some_iff.mp e).1
      rwa [kl] at this
    have e' : prs[j]? = some prs[j] := List.getElem?_eq_getElem hj
    refine ⟨prs[j], e', ?_⟩
    simp only [kps, List.getElem?_map, List.getElem?_range hj, Option.map_some, e', Option.getD_some, Option.some.injEq, Prod.mk.injEq] at e
    exact ⟨e.1.symm, e.2.symm⟩
  refine PySem.call_dict_pairs (knd := mixKind X.prog X.w) (kvs := prs) (PairArg.tuple a (ps.map Value.ref).toArray (fun j => (ps[j]?).getD 0) kps) (I.ok.hd hcalm) ⟨pl, by simp [kl, hl], fun j k v e => ?_⟩ ⟨kl.symm, fun i key v e => ?_⟩ (by rw [kl, hl]; exact hz) fun h' tk hd' k => ?_
  · obtain ⟨q', e1, rfl, rfl⟩ := kat j k v e
    obtain ⟨b, e2, e3, _⟩ := hK j q' e1
    refine ⟨by simp [e2], ?_⟩
    show PairAt s.heap ((ps[j]?).getD 0) (K j) q'.2
    rw [e2]
    exact .inl e3
  · obtain ⟨q', e1, rfl, rfl⟩ := kat i key v e
    obtain ⟨b, e2, e3, e4⟩ := hK i q' e1
    exact ⟨q'.1, e1, e4⟩
  · have hm : (s.heap.objs.size == sysModules) = false := beq_eq_false_iff_ne.mpr (Nat.ne_of_gt I.big)
    have hlen : (mergeK [] kvs).length ≤ sizeLine := by
      refine Nat.le_trans (length_mergeK kvs []) ?_
      rw [List.length_nil, Nat.zero_add, rel.length, hl]
      exact hz
    exact ⟨.ref s.heap.objs.size, upd H s.heap.objs.size (.dK (mergeK [] kvs)), I.laid (t' := tk) (fun b o e => k b o (List.not_mem_nil) e) (Nat.le_refl _) (show ObjOk X.prog X.w _ _ _ (.dK (mergeK [] kvs)) from ⟨hlen, hm, merged [] prs, KV.merge rel .nil, hd'⟩), rfl, q _ (I.hok.fresh (Nat.le_refl _))⟩
theorem paired_mono {α β : Type} {R S : α → β → Prop} (h : ∀ a b, R a b → S a b) : ∀ {l : List α} {k : List β}, Paired R l k → Paired S l k
  | _, _, .nil => .nil
  | _, _, .cons a t => .cons (h _ _ a) (paired_mono h t)
theorem ca_dictT (hcalm : X.calm = true) : CaD X (.type "dict") m cDictT := by
  refine ⟨_, call_dictT hcalm, fun g E Γ ρ σ Hf H ds vs Q R h k => ?_⟩
  unfold cDictT at k
  split at k
  · rename_i ds'
    cases e : prsT ds' with
    | none => rw [e] at k; exact k.elim
    | some l =>
      rw [e] at k
      obtain ⟨v, rfl, z⟩ := h.one
      simp only [IsR, IsD] at z
      obtain ⟨a, xs, rfl, q, r⟩ := z
      obtain ⟨ps, kvs, rfl, pr, ik⟩ := prs_is e r
      refine ⟨a, ps, kvs, rfl, Same.seqT R.same q, paired_mono (fun p kv t => (Same.seqT R.same t).l) pr, fun p n => ?_⟩
      exact pv_dic R (ik [] [] (by simp only [IsKVs])) n k
  · exact k.elim
end
end PD

namespace PD
open PySem PySem.Spec L2
open PyProof.Rows hiding St

def tE (K : PySem.W.Frag) (mg : Mg) (g : G) (E : WX) (Γ : List Bool) (σ : St) (Hf : Hp) {α : Type} (P : α → Env → Hp → Hp → Prop) : Out (α × Env) → Prop
  | .ok p => ∀ Hf' H', Same Hf Hf' → Rp K mg g Γ p.2 σ Hf' H' → P p.1 p.2 Hf' H'
  | .exc x => ∀ c dd Hf' H', Same Hf' H' → Same g.H0 H' → Same g.F0 Hf' → (∀ a o, Hf' a = some o → g.F0 a = some o ∨ g.H0 a = none) → IsX K mg x c dd Hf' → E c dd σ H'
  | .stuck => False
section
variable {K : PySem.W.Frag} {mg : Mg} {g : G} {E : WX} {Γ Γ1 Γ2 : List Bool} {ρ : Env} {σ : St} {Hf H Hf' H' : Hp}
theorem tE.mono {α : Type} {P : α → Env → Hp → Hp → Prop} {o : Out (α × Env)} (s : Same Hf Hf') (h : tE K mg g E Γ σ Hf P o) : tE K mg g E Γ σ Hf' P o := by
  cases o with
  | ok p => exact fun F' H' a R => h F' H' (s.trans a) R
  | exc x => exact h
  | stuck => exact h
theorem tE.bind {α β : Type} {P1 : α → Env → Hp → Hp → Prop} {P2 : β → Env → Hp → Hp → Prop} {o : Out (α × Env)} {k : α × Env → Out (β × Env)} (h : tE K mg g E Γ2 σ Hf P2 (o.bind k))
    (hk : ∀ a ρ' Hf' H', Same Hf Hf' → Rp K mg g Γ1 ρ' σ Hf' H' → tE K mg g E Γ2 σ Hf' P2 (k (a, ρ')) → P1 a ρ' Hf' H') : tE K mg g E Γ1 σ Hf P1 o := by
  cases o with
  | ok p => exact fun F' H' s R => hk p.1 p.2 F' H' s R (tE.mono s h)
  | exc x => exact h
  | stuck => exact h
theorem tE.lift {α : Type} {P : α → Hp → Hp → Prop} {Q : α → Env → Hp → Hp → Prop} {o : Out α} (h : tE K mg g E Γ σ Hf Q (o.bind fun a => .ok (a, ρ))) (w : ∀ a Hf' H', Same Hf Hf' → Rp K mg g Γ ρ σ Hf' H' → Q a ρ Hf' H' → P a Hf' H') : tG K mg g E Γ ρ σ Hf H P o := by
  cases o with
  | ok a => exact fun F' H' s1 _ R => w a F' H' s1 R (h F' H' s1 R)
  | exc x => exact fun c dd F' H' _ _ R q => h c dd F' H' R.same R.ent R.ent2 R.news q
  | stuck => exact h
end
structure PTe (X : Cx) (g : G) (E : WX) (Γ : List Bool) (e : Expr) (Γ' : List Bool) (f : Env → Out (Bool × Env)) : Prop where
  le : Le Γ' Γ
  pe : PT X e (fun σ H Q => ∃ ρ Hf, Rp X.K X.mw g Γ ρ σ Hf H ∧ tE X.K X.mw g E Γ' σ Hf (fun b _ _ H' => Q b H') (f ρ))
structure PWe (X : Cx) (g : G) (E : WX) (Γ : List Bool) (e : Expr) (Γ' : List Bool) (f : Env → Out (Bool × Env)) : Prop where
  le : Le Γ' Γ
  pe : PW X e (fun σ H Q => ∃ ρ Hf, Rp X.K X.mw g Γ ρ σ Hf H ∧ tE X.K X.mw g E Γ' σ Hf (fun b _ _ H' => Q b H') (f ρ))
def u2 (F : D → D → Out D) (a b : Env → Out (D × Env)) : Env → Out (D × Env) := fun ρ => (a ρ).bind fun p => (b p.2).bind fun q => (F p.1 q.1).bind fun d => .ok (d, q.2)
section
variable {X : Cx} {g : G} {E : WX} {ro : Bool} {Γl Γ Γ1 Γ2 Γ3 : List Bool} {m : Md} {pos p apos : Pos} {a b e : Expr} {es rest : List Expr} {fa fb fe : Env → Out (D × Env)} {fs ft : Env → Out (Bool × Env)} {fr : Env → Out (List D × Env)}
end
end PD

namespace PD
open PySem PySem.Spec L2
open PyProof.Rows hiding St

theorem tE.toG {K : PySem.W.Frag} {mg : Mg} {g : G} {E : WX} {Γ Γ2 : List Bool} {ρ : Env} {σ : St} {Hf H : Hp} {α β : Type} {P : α → Hp → Hp → Prop} {Q : β → Env → Hp → Hp → Prop} {o : Out α} {k : α → Out (β × Env)} (h : tE K mg g E Γ2 σ Hf Q (o.bind k))
    (w : ∀ a Hf' H', Same Hf Hf' → Same H H' → Rp K mg g Γ ρ σ Hf' H' → tE K mg g E Γ2 σ Hf' Q (k a) → P a Hf' H') : tG K mg g E Γ ρ σ Hf H P o := by
  cases o with
  | ok a => exact fun F' H' s1 s2 R => w a F' H' s1 s2 R (tE.mono s1 h)
  | exc x => exact fun c dd F' H' _ _ R q => h c dd F' H' R.same R.ent R.ent2 R.news q
  | stuck => exact h
section
variable {X : Cx} {g : G} {E : WX} {ro : Bool} {Γl Γ Γ1 Γ2 Γ3 : List Bool} {m : Md} {pos p apos : Pos} {a b e : Expr} {es rest : List Expr} {fa fb fe : Env → Out (D × Env)} {fs ft : Env → Out (Bool × Env)} {fr : Env → Out (List D × Env)} {k : Nat} {ps : List Str} {mn : Str} {F : List D → Out D} {fp : Env → Out (List D)}
theorem PWe.pt {e : Expr} (h : PWe X g E Γ e Γ1 fs) : PTe X g E Γ e Γ1 fs := ⟨h.le, h.pe.pt⟩
end
section
variable {X : Cx} {g : G} {E : WX} {ro : Bool} {Γl Γ Γ1 Γ2 Γ3 : List Bool} {m : Md} {pos p apos : Pos} {a b e : Expr} {es rest : List Expr} {fa fb fe f : Env → Out (D × Env)} {fs ft : Env → Out (Bool × Env)} {fr : Env → Out (List D × Env)}
theorem tE.toS {Dn : Ends} {Γ1 : List Bool} {σ : St} {Hf : Hp} {α : Type} {P : α → Env → Hp → Hp → Prop} {o : Out (α × Env)} {k : α × Env → SO} (h : sR X.K X.mw g E Γ2 Γl ro Dn (oS o k))
    (hk : ∀ a ρ' Hf' H', Same Hf Hf' → Rp X.K X.mw g Γ1 ρ' σ Hf' H' → sR X.K X.mw g E Γ2 Γl ro Dn (k (a, ρ')) → P a ρ' Hf' H') : tE X.K X.mw g E Γ1 σ Hf P o := by
  cases o with
  | ok p => exact fun F1 H1 s1 R1 => hk p.1 p.2 F1 H1 s1 R1 h
  | exc x => exact fun c dd F1 H1 s1 s2 s3 nw q => h c dd σ F1 H1 s1 s2 s3 nw q
  | stuck => exact h
end
end PD
namespace PD
open PySem PySem.Spec L2
open PyProof.Rows hiding St
end PD
namespace PD
open PySem PySem.Spec L2
open PyProof.Rows hiding St
section
variable {X : Cx} {g : G} {E : WX} {Γ Γ1 : List Bool} {m : Md} {pos p : Pos} {e : Expr} {f : Env → Out D} {x : Str} {kvs : List (Str × Str)}
end
end PD

namespace PD
open PySem PySem.Spec L2
open PyProof.Rows hiding St
open RZ

section
variable {X : Cx} {g : G} {E : WX} {Γ Γ1 : List Bool} {pos p : Pos} {e e2 : Expr} {fa : Env → Out (List D)}
end
end PD

namespace PD
open PySem PySem.Spec L2
open PyProof.Rows hiding St

end PD

namespace PD
open PySem PySem.Spec L2
open PyProof.Rows hiding St

end PD

namespace PD
open PySem PySem.Spec L2
open PyProof.Rows hiding St

section
variable {X : Cx} {g : G} {E : WX} {Γ Γ1 : List Bool} {e : Expr}
end
end PD

namespace PD
open PySem PySem.Spec L2
open PyProof.Rows hiding St

def spP (K : PySem.W.Frag) (mg : Mg) (F : List D → Out D) : Sp := fun vs H Q E => ∃ ds Hf, Same Hf H ∧ IsDs K mg Hf ds vs ∧ match F ds with
  | .ok d => ∀ v Hf' H', Same Hf Hf' → Same Hf' H' → Same H H' → (∀ a o, Hf' a = some o → Hf a = some o ∨ H a = none) → RetPr K mg H Hf' H' d v → Q v H'
  | .exc x => ∀ c dd Hf' H', Same Hf Hf' → Same Hf' H' → Same H H' → (∀ a o, Hf' a = some o → Hf a = some o ∨ H a = none) → IsX K mg x c dd Hf' → E c dd H'
  | .stuck => False
structure FnP (P : Program) (w : World) (K : PySem.W.Frag) (mg : Str → Option Value) (base : Heap) (k : Nat) (x : Str) (ps : List Str) (F : List D → Out D) : Prop where
  ex : ∃ f fd, mg x = some (.ref f) ∧ PySem.W.keepIn K (.ref f) = true ∧ Binds K fd ps [] ∧ FnOk P w K mg base (L2.CX P w) k f fd ps (spP K ⟨mg, w⟩ F) ∧ ∃ oc od osl, K.lookup f = some ⟨oc, od, .func fd, osl⟩
def SO.resP (o : SO) : Out D := match o with
  | .rt d => .ok d
  | .ex x => .exc x
  | _ => .stuck
def fnP (n k : Nat) (b : Env → SO) : List D → Out D := fun ds => if ds.length = k then (b (ds.map some ++ List.replicate (n - k) none)).resP else .stuck
theorem fnP_ap (n k : Nat) (b : Env → SO) (ds : List D) : fnP n k b ds = if ds.length = k then (b (ds.map some ++ List.replicate (n - k) none)).resP else .stuck := rfl
section
variable {P : Program} {w : World} {K : PySem.W.Frag} {mg : Str → Option Value} {base : Heap}
theorem fnP_mk {x : Str} {st : Stmt} {N ps : List Str} {k : Nat} {Γl Γ' Γ0 : List Bool} {b : Env → SO} (T : FnT K mg x st) (S : FnScope N ps (defScope st)) (hl : ps.length ≤ N.length) (h0 : ∀ i, ¬ Own Γ0 i)
    (hbind : ∀ (kV doc pm : Value) (an : Option Addr) (cdv ct : Value) (us : List Value), us.length = ps.length → bindArgs (PySem.W.fnOf x x (defArgs st) (defBody st) (defScope st) .none kV doc pm an cdv ct) ⟨us, []⟩ = pure (ps.zip us))
    (body : ∀ (f : Addr) (cdv : Value) (A : Around) (outer : List PySem.Env) (s : Shared) (H : Hp) (E : XK) (Hf : Hp), Room k (A.deeper (envOfC x (defScope st) s.heap.objs.size f cdv)) →
      PSsx (cxD P w K mg base N x st f cdv A outer s H E) ⟨H, Hf, some none⟩ (fun c d _ H => E c d H) false Γl Γ0 (defBody st) Γ' b) : FnP P w K mg base (k + 1) x ps (fnP N.length ps.length b) := by
  obtain ⟨f, fd, hm, F⟩ := T.ex
  refine ⟨f, fd, hm, F.kp, F.binds hbind, F.okX S (fun vs H Q E h => ?_) fun cdv A outer s H vs Q E hr h => ?_, let ⟨oc, od, _, _, _, _, _, _, osl, _, l, _⟩ := F.ex; ⟨oc, od, osl, l⟩⟩
  · obtain ⟨ds, Hf, s1, hv, q⟩ := h
    rw [hv.len]
    unfold fnP at q
    by_cases l : ds.length = ps.length
    · exact l
    · rw [if_neg l] at q; exact q.elim
  · obtain ⟨ds, Hf, s1, hv, q⟩ := h
    refine ⟨_, (body f cdv A outer s H E Hf hr).ps, ?_⟩
    unfold fnP at q
    by_cases l : ds.length = ps.length
    · rw [if_pos l] at q
      have lv : vs.length = ps.length := hv.len.trans l
      refine ⟨ds.map some ++ List.replicate (N.length - ps.length) none, Hf, ⟨s1, Same.refl _, Same.refl _, fun a o e => .inl e, ⟨?_, fun a e => by cases e⟩, fun i d o _ => (h0 i o).elim, fun i d o e => ?_, fun i j d e v n o => (h0 i o).elim⟩, ?_⟩
      · unfold L2.start
        simp [lv, l]
      · unfold L2.start
        by_cases li : i < ds.length
        · rw [List.getElem?_append_left (by simpa using li)] at e
          obtain ⟨v, ev, r⟩ := IsDs.map hv e
          refine ⟨v, ?_, r⟩
          rw [List.getElem?_append_left (by simpa [hv.len] using li)]
          exact ev
        · rw [List.getElem?_append_right (by simpa using li), List.getElem?_replicate] at e
          split at e <;> simp at e
      · show sR K ⟨mg, w⟩ ⟨H, Hf, some none⟩ _ Γ' Γl false _ (b _)
        cases hb : b (ds.map some ++ List.replicate (N.length - ps.length) none) with
        | nx r => rw [hb] at q; exact q.elim
        | rt d => rw [hb] at q; exact fun v Hf1 H1 s1 s2 s3 nw r => q v Hf1 H1 s3 s1 s2 nw r
        | ex x => rw [hb] at q; exact fun c dd σ1 Hf1 H1 s1 s2 s3 nw ix => q c dd Hf1 H1 s3 s1 s2 nw ix
        | bk r => rw [hb] at q; exact q.elim
        | ct r => rw [hb] at q; exact q.elim
        | stuck => rw [hb] at q; exact q.elim
    · rw [if_neg l] at q; exact q.elim
end
section
variable {X : Cx} {g : G} {E : WX} {ro : Bool} {Γl Γ Γ1 Γ2 Γ3 : List Bool} {m : Md} {pos p cpos tpos : Pos} {x y : Str} {e : Expr} {es : List Expr} {k : Nat} {ps : List Str} {F : List D → Out D} {fa : Env → Out (List D)} {fe : Env → Out D}
def sRetPr (i : Nat) (f : Env → Out D) : Env → SO := fun ρ => match ρ[i]? with
  | some (some d) => oS (f ρ) fun y => .rt (.tup [d, y])
  | _ => .stuck
theorem IsO.mono2 {K : PySem.W.Frag} {mg : Mg} {H0 Hf H H' : Hp} {d : D} {v : V} (s : Same H H') (h : IsO K mg H0 Hf H d v) : IsO K mg H0 Hf H' d v := by
  cases d with
  | lst ds => obtain ⟨a, xs, e, z0, zf, q, r⟩ := h; exact ⟨a, xs, e, z0, zf, s _ _ q, r⟩
  | dic ds => obtain ⟨a, xs, e, z0, zf, q, r⟩ := h; exact ⟨a, xs, e, z0, zf, s _ _ q, r⟩
  | ins c ds => obtain ⟨a, xs, e, z0, zf, q, r⟩ := h; exact ⟨a, xs, e, z0, zf, s _ _ q, r⟩
  | _ => exact h
theorem psx_retPr {i n : Nat} (h : PE X (.Name x p) (tVar i)) (he : PX X g E Γ e Γ1 .fr fe) (o : Γ1.getD i false = true) (hs : g.slf = some none := by first | rfl | assumption)
    (h1 : starEach [.Name x p, e] X.env = (false, eval (.Name x p) X.env) :: starEach [e] X.env := by rfl) (h2 : starEach [e] X.env = (false, eval e X.env) :: starEach [] X.env := by rfl) : PSx X g E false Γl Γ (.Return (some (.Tuple [.Name x p, e] n tpos)) pos) Γ2 (sRetPr i fe) := by
  refine ⟨(ps_ret (pe_tupF (pa_cons h (pa_cons he.pe pa_nil h2) h1))).imp fun D σ H ⟨ρ, Hf, R, q⟩ => ?_⟩
  unfold sRetPr at q
  split at q
  · rename_i d er
    have o' := he.le i o
    obtain ⟨v, e1, io⟩ := R.own i d o' er
    refine ⟨v, e1, ρ, Hf, R, ?_⟩
    refine tG.toS q fun y F1 H1 s1 s2 R1 k u hu => ?_
    refine ⟨by show 2 ≤ sizeLine; decide, fun t ob hd nt => ?_⟩
    obtain ⟨v', e2, io'⟩ := R1.own i d o er
    rw [e1] at e2
    obtain rfl : v = v' := Option.some.inj (Option.some.inj e2)
    have su : Same H1 (upd H1 t (.frz ob (.tup [v, u]))) := (R1.newO _ nt).1
    refine k (.ref t) F1 _ (R1.same.trans su) (R1.ent.trans su) R1.ent2 R1.news ?_
    unfold RetG
    rw [hs]
    exact ⟨d, y, t, ob, v, u, rfl, rfl, upd_same, io'.mono2 su, hu⟩
  · exact q.elim
def sSetPr (i j : Nat) (f : Env → Out D) : Env → SO := fun ρ => oS (f ρ) fun d => match d with
  | .tup [x, y] => .nx ((ρ.set i (some x)).set j (some y))
  | _ => .stuck
theorem sSetPr_ap (i j : Nat) (f : Env → Out D) (ρ : Env) : sSetPr i j f ρ = oS (f ρ) fun d => match d with
  | .tup [x, y] => .nx ((ρ.set i (some x)).set j (some y))
  | _ => .stuck := rfl
theorem psx_setPr {i j n : Nat} {fx : Str} {fp px py : Pos} (hc : X.calm = true) (C : FnP X.prog X.w X.K X.mg X.base k fx ps F) (hr : Room k X.A) (hg : Gl X fx) (tk : Takes X E) (ha : PAx X g E Γ (e :: es) Γ1 fa) (hij : i ≠ j)
    (hN : X.N.Nodup) (hi : X.N[i]? = some x) (hj : X.N[j]? = some y) (hx : Loc X.env.scope x) (hy : Loc X.env.scope y) (hl : i < Γ1.length) (hfx : X.fn x = true ∨ X.env.scope.names.lookup x = some .local := by first | exact .inl rfl | exact .inr rfl | assumption) (hfy : X.fn y = true ∨ X.env.scope.names.lookup y = some .local := by first | exact .inl rfl | exact .inr rfl | assumption)
    (ni : NS g i := by first | exact .inr rfl | exact .inr (by assumption) | exact .inl (by decide)) (nj : NS g j := by first | exact .inr rfl | exact .inr (by assumption) | exact .inl (by decide)) (hdb : (fx == ("__debug__" : Str)) = false := by decide)
    (he : starEach (e :: es) X.env = (false, eval e X.env) :: starEach es X.env := by rfl) (hpl : (backTo cpos (starEach es X.env)).any (·.1) = false := by rfl)
    (hs : swapsWithSole [.Tuple [.Name x px, .Name y py] n tpos] (.Call (.Name fx fp) (e :: es) [] cpos) pos.line X.env = pure false := by rfl) (hw : swappedStores [.Tuple [.Name x px, .Name y py] n tpos] (.Call (.Name fx fp) (e :: es) [] cpos) X.env = pure none := by rfl)
    (h1 : (assignEach [.Tuple [.Name x px, .Name y py] n tpos] X.env).map (·.2) = [assign (.Tuple [.Name x px, .Name y py] n tpos) X.env] := by rfl)
    (g1 : (assignEach [.Name x px, .Name y py] X.env).map (·.2) = assign (.Name x px) X.env :: (assignEach [.Name y py] X.env).map (·.2) := by rfl) (g2 : (assignEach [.Name y py] X.env).map (·.2) = assign (.Name y py) X.env :: (assignEach [] X.env).map (·.2) := by rfl)
    (hn : (assignEach [.Name x px, .Name y py] X.env).length = 2 := by rfl) (hst : (assignEach [.Name x px, .Name y py] X.env).findIdx? (·.1) = none := by rfl) :
    PSx X g E ro Γl Γ (.Assign [.Tuple [.Name x px, .Name y py] n tpos] (.Call (.Name fx fp) (e :: es) [] cpos) pos) ((Γ1.set i true).set j false) (sSetPr i j (eA F fa)) := by
  obtain ⟨f, fd, e1, e2, e3, e4, _⟩ := C.ex
  refine ⟨(ps_asg (pe_callS e4 hr hg e1 e2 e3 (fun σ => passAt tk σ) ha.pe hdb he hpl) (pg_tup hc (pgs_cons (pg_name hN hi hx hfx) (pgs_cons (pg_name hN hj hy hfy) pgs_nil g2) g1) hn hst) hs hw h1).imp fun D σ H ⟨ρ, Hf, R, q⟩ => ⟨ρ, Hf, R, ?_⟩⟩
  unfold sSetPr eA at q
  cases hfa : fa ρ with
  | ok ds =>
    rw [hfa] at q
    intro F1 H1 s1 s2 R1 vs hv
    refine ⟨ds, F1, R1.same, hv, ?_⟩
    replace q : sR X.K X.mw g E ((Γ1.set i true).set j false) Γl ro D (oS (F ds) fun d => match d with
      | .tup [x, y] => .nx ((ρ.set i (some x)).set j (some y))
      | _ => .stuck) := q
    cases hF : F ds with
    | ok d =>
      rw [hF] at q
      intro v Hf' H' t1 t2 t3 nw rr
      obtain ⟨dx, dy, t, o, v1, v2, rfl, rfl, ht, io, idy⟩ := rr
      replace q : ∀ σ Hf H, Rp X.K X.mw g ((Γ1.set i true).set j false) ((ρ.set i (some dx)).set j (some dy)) σ Hf H → D.nx σ H := q
      have R2 := R1.back t1 t2 t3 nw
      have io2 : IsO X.K X.mw g.H0 Hf' H' dx v1 := by
        cases dx with
        | lst ds => obtain ⟨a, xs, e, z0, zf, q, r⟩ := io; exact ⟨a, xs, e, R1.ent.free z0, zf, q, r⟩
        | dic ds => obtain ⟨a, xs, e, z0, zf, q, r⟩ := io; exact ⟨a, xs, e, R1.ent.free z0, zf, q, r⟩
        | ins c ds => obtain ⟨a, xs, e, z0, zf, q, r⟩ := io; exact ⟨a, xs, e, R1.ent.free z0, zf, q, r⟩
        | _ => exact io
      have R3 := R2.setO (i := i) ni hl io2 fun i' e' ow e1 m1 m2 e2 => by
        obtain ⟨a, oo, rfl, z0, _, _⟩ := io.addr m2
        obtain ⟨v', e3, io'⟩ := R1.own i' e' ow e1
        obtain ⟨b, ob, e4, _, _, q⟩ := io'.addr m1
        rw [e2] at e3
        obtain rfl : V.ref a = v' := Option.some.inj (Option.some.inj e3)
        obtain rfl : a = b := V.ref.inj e4
        rw [z0] at q; cases q
      have R4 := R3.setF (i := j) nj idy
      exact ⟨t, [v1, v2], rfl, .inl (.inr ⟨o, ht⟩), rfl, v1, [v2], rfl, v2, [], rfl, rfl, q _ Hf' H' R4⟩
    | exc xx =>
      rw [hF] at q
      intro c dd Hf' H' t1 t2 t3 nw ix
      have R2 := R1.back t1 t2 t3 nw
      exact q c dd σ Hf' H' R2.same R2.ent R2.ent2 R2.news ix
    | stuck => rw [hF] at q; exact q.elim
  | exc xx => rw [hfa] at q; exact fun c dd F1 H1 s1 s2 R1 ix => q c dd σ F1 H1 R1.same R1.ent R1.ent2 R1.news ix
  | stuck => rw [hfa] at q; exact q.elim
end
end PD

namespace PD
open PySem PySem.Spec L2
open PySem.W (dataLt alike alikeAll dataLe AllAlike keyToks keyToksAll)
open PyProof.Rows hiding St
noncomputable def b_form_of_1 : Env → SO := (sPut 1 (eV 2) (e2 dAdd (eGet2 (eV 1) (eV 2) (eC (.int 0))) (eV 3)))
noncomputable def b_form_of : Env → SO := (sSeq (sSet 1 (eC (.dic [])))
 (sSeq (sFor (gT [(gN 2), (gN 3)]) (iSeq (eV 0))
 b_form_of_1)
 (sRet (eA cTuple (aC (eLc [2] (gN 2) (iSeq (eA cSorted (aC (eV 1) aN))) (tOf (e2 dNe (e2 dIx (eV 1) (eV 2)) (eC (.int 0)))) (eA mkTup (aC (eV 2) (aC (e2 dIx (eV 1) (eV 2)) aN)))) aN)))))
noncomputable def m_form_of : List D → Out D := fnM 4 1 b_form_of
noncomputable def b__law_fit : Env → SO := (sSeq (sIf (tOf (e2 dIn (eV 0) (eA mkLst (aC (eC (.str "some")) (aC (eC (.str "all")) (aC (eC (.str "and")) (aC (eC (.str "or")) (aC (eC (.str "not")) (aC (eC (.str "yes")) (aC (eC (.str "no")) aN))))))))))
 (sRet (e2 dAdd (eV 0) (eC (.str "q"))))
 sNx)
 (sRet (eV 0)))
noncomputable def m__law_fit : List D → Out D := fnM 1 1 b__law_fit
noncomputable def b__law_signed : Env → SO := (sSeq (sSet 0 (e2 dMod (eV 0) (e2 dAdd (e2 dMul (eC (.int 2)) (eV 1)) (eC (.int 1)))))
 (sSeq (sSet 2 (e2 dDiv (e2 dAdd (eV 0) (eC (.int 1))) (eC (.int 2))))
 (sSeq (sIf (tOf (e2 dEq (e2 dMod (eV 0) (eC (.int 2))) (eC (.int 1))))
 (sRet (eV 2))
 sNx)
 (sRet (e2 dSub (eC (.int 0)) (eV 2))))))
noncomputable def m__law_signed : List D → Out D := fnM 3 2 b__law_signed
noncomputable def b__law_sum_1 : Env → SO := (sPut 1 (eV 2) (e2 dAdd (eGet2 (eV 1) (eV 2) (eC (.int 0))) (eV 3)))
noncomputable def b__law_sum : Env → SO := (sSeq (sSet 1 (eC (.dic [])))
 (sSeq (sFor (gT [(gN 2), (gN 3)]) (iSeq (eV 0))
 b__law_sum_1)
 (sRet (eA cTuple (aC (eLc [2] (gN 2) (iSeq (eA cSorted (aC (eV 1) aN))) (tOf (e2 dNe (e2 dIx (eV 1) (eV 2)) (eC (.int 0)))) (eA mkTup (aC (eV 2) (aC (e2 dIx (eV 1) (eV 2)) aN)))) aN)))))
noncomputable def m__law_sum : List D → Out D := fnM 4 1 b__law_sum
noncomputable def b_names_of_1 : Env → SO := (sPut 1 (eV 4) (eC (.bl true)))
noncomputable def b_names_of_2 : Env → SO := (sFor (gT [(gN 4), (gN 5)]) (iSeq (eV 2))
 b_names_of_1)
noncomputable def b_names_of : Env → SO := (sSeq (sSet 1 (eC (.dic [])))
 (sSeq (sFor (gT [(gN 2), (gN 3)]) (iSeq (eV 0))
 b_names_of_2)
 (sRet (eA cTuple (aC (eA cSorted (aC (eV 1) aN)) aN)))))
noncomputable def m_names_of : List D → Out D := fnM 6 1 b_names_of
noncomputable def b_power_of_1 : Env → SO := (sIf (tOf (e2 dEq (eV 2) (eV 1)))
 (sRet (eV 3))
 sNx)
noncomputable def b_power_of : Env → SO := (sSeq (sFor (gT [(gN 2), (gN 3)]) (iSeq (eV 0))
 b_power_of_1)
 (sRet (eC (.int 0))))
noncomputable def m_power_of : List D → Out D := fnM 4 2 b_power_of
noncomputable def b_by_power_1 : Env → SO := (sSeq (sSet 6 (eA m_power_of (aC (eV 4) (aC (eV 1) aN))))
 (sSeq (sSet 7 (eA cTuple (aC (eLc [9] (gN 9) (iSeq (eV 4)) (tOf (e2 dNe (e2 dIx (eV 9) (eC (.int 0))) (eV 1))) (eV 9)) aN)))
 (sSeq (sRow 2 8 (eV 6) (eA mkTup (aC (eV 7) (aC (eV 5) aN))))
 (sSet 3 (eA cMax2 (aC (eV 3) (aC (eV 6) aN)))))))
noncomputable def b_by_power : Env → SO := (sSeq (sSet 2 (eC (.dic [])))
 (sSeq (sSet 3 (eC (.int 0)))
 (sSeq (sForR 2 (gT [(gN 4), (gN 5)]) (iSeq (eV 0))
 b_by_power_1)
 (sRet (eA cTuple (aC (eLc [6] (gN 6) (iRange1 (aC (e2 dAdd (eV 3) (eC (.int 1))) aN)) bYes (eA m_form_of (aC (eGet2 (eV 2) (eV 6) (eA mkLst aN)) aN))) aN))))))
noncomputable def m_by_power : List D → Out D := fnM 10 2 b_by_power
noncomputable def b_sign_of : Env → SO := (sSeq (sIf (tOf (e2 dGt (eV 0) (eC (.int 0))))
 (sRet (eC (.int 1)))
 sNx)
 (sSeq (sIf (tOf (e2 dLt (eV 0) (eC (.int 0))))
 (sRet (e1 dNeg (eC (.int 1))))
 sNx)
 (sRet (eC (.int 0)))))
noncomputable def m_sign_of : List D → Out D := fnM 1 1 b_sign_of
noncomputable def b_sign_one : Env → SO := (sSeq (sSet 3 (eA m_sign_of (aC (eV 0) aN)))
 (sSeq (sSet 4 (eA m_sign_of (aC (e2 dMul (eV 1) (eV 2)) aN)))
 (sSeq (sIf (bOr (tOf (e2 dEq (eV 3) (eV 4))) (tOf (e2 dEq (eV 4) (eC (.int 0)))))
 (sRet (eV 3))
 sNx)
 (sSeq (sIf (tOf (e2 dEq (eV 3) (eC (.int 0))))
 (sRet (eV 4))
 sNx)
 (sRet (e2 dMul (eV 3) (eA m_sign_of (aC (e2 dSub (e2 dMul (eV 0) (eV 0)) (e2 dMul (e2 dMul (eV 1) (eV 1)) (eV 2))) aN))))))))
noncomputable def m_sign_one : List D → Out D := fnM 5 3 b_sign_one
noncomputable def b__law_cell_v2 : Env → SO := (sSeq (sIf (tOf (e2 dLt (eV 1) (eA cLen (aC (eV 0) aN))))
 (sSeq (sSet 2 (e2 dMul (e2 dIx (eV 0) (eV 1)) (eC (.int 31415926535897932384626433832795028841971693993751058209749))))
 (sRet (e2 dMod (eV 2) (e2 dPow (eC (.int 10)) (eC (.int 60))))))
 sNx)
 (sRet (eC (.int 0))))
noncomputable def m__law_cell_v2 : List D → Out D := fnM 3 2 b__law_cell_v2
noncomputable def b__law_sign : Env → SO := (sSeq (sSet 3 (e2 dSub (eA cInt (aC (e2 dGt (eV 0) (eC (.int 0))) aN)) (eA cInt (aC (e2 dLt (eV 0) (eC (.int 0))) aN))))
 (sSeq (sSet 4 (e2 dSub (eA cInt (aC (e2 dGt (eV 1) (eC (.int 0))) aN)) (eA cInt (aC (e2 dLt (eV 1) (eC (.int 0))) aN))))
 (sSeq (sIf (tOf (e2 dEq (eV 2) (eC (.int 0))))
 (sSet 4 (eC (.int 0)))
 sNx)
 (sSeq (sIf (tOf (e2 dGe (e2 dMul (eV 3) (eV 4)) (eC (.int 0))))
 (sRet (eA cMax2 (aC (e1 dNeg (eC (.int 1))) (aC (eA cMin2 (aC (eC (.int 1)) (aC (e2 dAdd (eV 3) (eV 4)) aN))) aN))))
 sNx)
 (sSeq (sSet 5 (e2 dSub (e2 dMul (eV 0) (eV 0)) (e2 dMul (e2 dMul (eV 1) (eV 1)) (eV 2))))
 (sSeq (sIf (tOf (e2 dLt (eV 5) (eC (.int 0))))
 (sRet (eV 4))
 sNx)
 (sRet (e2 dMul (eV 3) (eA cInt (aC (e2 dGt (eV 5) (eC (.int 0))) aN))))))))))
noncomputable def m__law_sign : List D → Out D := fnM 6 3 b__law_sign
noncomputable def b__law_is_sign : Env → SO := (sRet (vAnd (eA cIsi (aC (eV 0) (aC (eC (.ty "int")) aN))) (vAnd (vNot (eA cIsi (aC (eV 0) (aC (eC (.ty "bool")) aN)))) (e2 dEq (eV 0) (eV 1)))))
noncomputable def m__law_is_sign : List D → Out D := fnM 2 2 b__law_is_sign
noncomputable def b_root_in_1 : Env → SO := (sIf (tOf (e2 dNe (e2 dIx (e2 dIx (eV 1) (eV 2)) (eC (.int 1))) (eC (.int 0))))
 (sRet (e2 dIx (e2 dIx (eV 1) (eV 2)) (eC (.int 2))))
 sNx)
noncomputable def b_root_in : Env → SO := (sSeq (sFor (gN 2) (iSeq (eV 0))
 b_root_in_1)
 (sRet (eC (.int 0))))
noncomputable def m_root_in : List D → Out D := fnM 3 2 b_root_in
noncomputable def b_tops_of_1 : Env → SO := (sPut 1 (eV 4) (eA cMax2 (aC (eGet2 (eV 1) (eV 4) (eC (.int 0))) (aC (eV 5) aN))))
noncomputable def b_tops_of_2 : Env → SO := (sFor (gT [(gN 4), (gN 5)]) (iSeq (eV 2))
 b_tops_of_1)
noncomputable def b_tops_of : Env → SO := (sSeq (sSet 1 (eC (.dic [])))
 (sSeq (sFor (gT [(gN 2), (gN 3)]) (iSeq (eV 0))
 b_tops_of_2)
 (sRet (eV 1))))
noncomputable def m_tops_of : List D → Out D := fnM 6 1 b_tops_of
noncomputable def b_pair_of_v2_1 : Env → SO := (sPar 5 6 (e2 dAdd (e2 dMul (eV 5) (eV 8)) (e2 dMul (e2 dMul (eV 6) (eV 9)) (eV 4))) (e2 dAdd (e2 dMul (eV 5) (eV 9)) (e2 dMul (eV 6) (eV 8))))
noncomputable def b_pair_of_v2_2 : Env → SO := (sPar 5 6 (e2 dMul (eV 5) (eV 11)) (e2 dMul (eV 6) (eV 11)))
noncomputable def b_pair_of_v2_3 : Env → SO := (sSeq (sAsg (gT [(gN 8), (gN 9), (gN 10), (gN 11)]) (e2 dIx (eV 2) (eV 7)))
 (sSeq (sSet 12 (eA m_power_of (aC (eV 0) (aC (eV 7) aN))))
 (sSeq (sFor (gN 13) (iRange1 (aC (eV 12) aN))
 b_pair_of_v2_1)
 (sFor (gN 13) (iRange1 (aC (e2 dSub (e2 dIx (eV 3) (eV 7)) (eV 12)) aN))
 b_pair_of_v2_2))))
noncomputable def b_pair_of_v2 : Env → SO := (sSeq (sSet 5 (eV 1))
 (sSeq (sSet 6 (eC (.int 0)))
 (sSeq (sForD 3 (gN 7)
 b_pair_of_v2_3)
 (sRet (eA mkTup (aC (eV 5) (aC (eV 6) aN)))))))
noncomputable def m_pair_of_v2 : List D → Out D := fnM 14 5 b_pair_of_v2
noncomputable def b_sign_at_1 : Env → SO := (sIf (tOf (e2 dNotIn (eV 3) (eV 1)))
 sSt
 sNx)
noncomputable def b_sign_at_2 : Env → SO := (sSeq (sAsg (gT [(gN 10), (gN 11)]) (eA m_pair_of_v2 (aC (eV 8) (aC (eV 9) (aC (eV 1) (aC (eV 5) (aC (eV 4) aN)))))))
 (sSeq (sSet 6 (e2 dAdd (eV 6) (eV 10)))
 (sSet 7 (e2 dAdd (eV 7) (eV 11)))))
noncomputable def b_sign_at : Env → SO := (sSeq (sSet 2 (eA m_names_of (aC (eV 0) aN)))
 (sSeq (sFor (gN 3) (iSeq (eV 2))
 b_sign_at_1)
 (sSeq (sSet 4 (eA m_root_in (aC (eV 2) (aC (eV 1) aN))))
 (sSeq (sSet 5 (eA m_tops_of (aC (eV 0) aN)))
 (sSeq (sSet 6 (eC (.int 0)))
 (sSeq (sSet 7 (eC (.int 0)))
 (sSeq (sFor (gT [(gN 8), (gN 9)]) (iSeq (eV 0))
 b_sign_at_2)
 (sRet (eA m_sign_one (aC (eV 6) (aC (eV 7) (aC (eV 4) aN))))))))))))
noncomputable def m_sign_at : List D → Out D := fnM 12 2 b_sign_at
noncomputable def b__law_names_v2_1 : Env → SO := (sSeq (sSet 2 (e2 dAdd (eV 2) (e2 dIx (eV 1) (e2 dMod (eV 3) (eC (.int 26))))))
 (sSet 3 (e2 dDiv (eV 3) (eC (.int 26)))))
noncomputable def b__law_names_v2 : Env → SO := (sSeq (sSet 1 (eC (.str "abcdefghijklmnopqrstuvwxyz")))
 (sSeq (sSet 2 (eC (.str "")))
 (sSeq (sSet 3 (e2 dDiv (eV 0) (eC (.int 5))))
 (sSeq (sFor (gN 4) (iRange1 (aC (e2 dAdd (eC (.int 1)) (e2 dMod (eV 0) (eC (.int 5)))) aN))
 b__law_names_v2_1)
 (sSeq (sSet 2 (eA m__law_fit (aC (eV 2) aN)))
 (sSeq (sSet 5 (e2 dMod (eV 3) (eA cLen (aC (eV 2) aN))))
 (sSeq (sSet 6 (e2 dMod (e2 dAdd (e2 dAdd (eS2 (fun a b => .int (Txt.find a b)) (eV 1) (e2 dIx (eV 2) (eV 5))) (eC (.int 1))) (e2 dMod (e2 dDiv (eV 3) (eC (.int 7))) (eC (.int 25)))) (eC (.int 26))))
 (sSeq (sSet 7 (eA m__law_fit (aC (e2 dAdd (e2 dAdd (eSl (eV 2) oN (oI (eV 5))) (e2 dIx (eV 1) (eV 6))) (eSl (eV 2) (oI (e2 dAdd (eV 5) (eC (.int 1)))) oN)) aN)))
 (sSeq (sSet 8 (eA m__law_fit (aC (e2 dAdd (eV 2) (e2 dIx (eV 1) (e2 dMod (e2 dDiv (eV 3) (eC (.int 175))) (eC (.int 26))))) aN)))
 (sRet (eA mkLst (aC (eV 2) (aC (eV 7) (aC (eV 8) aN))))))))))))))
noncomputable def m__law_names_v2 : List D → Out D := fnM 9 1 b__law_names_v2
noncomputable def b__law_value_v2_1 : Env → SO := (sSeq (sPar 6 7 (e2 dAdd (e2 dMul (eV 6) (eV 11)) (e2 dMul (e2 dMul (eV 7) (eV 12)) (eV 2))) (e2 dAdd (e2 dMul (eV 6) (eV 12)) (e2 dMul (eV 7) (eV 11))))
 (sSet 8 (e2 dMul (eV 8) (eV 14))))
noncomputable def b__law_value_v2_2 : Env → SO := (sSeq (sAsg (gT [(gN 11), (gN 12), (gN 13), (gN 14)]) (e2 dIx (eV 1) (eV 9)))
 (sFor (gN 15) (iRange1 (aC (eV 10) aN))
 b__law_value_v2_1))
noncomputable def b__law_value_v2_3 : Env → SO := (sSeq (sSet 6 (eV 5))
 (sSeq (sSet 7 (eC (.int 0)))
 (sSeq (sSet 8 (eC (.int 1)))
 (sSeq (sFor (gT [(gN 9), (gN 10)]) (iSeq (eV 4))
 b__law_value_v2_2)
 (sSet 3 (eA mkTup (aC (e2 dAdd (e2 dMul (e2 dIx (eV 3) (eC (.int 0))) (eV 8)) (e2 dMul (eV 6) (e2 dIx (eV 3) (eC (.int 2))))) (aC (e2 dAdd (e2 dMul (e2 dIx (eV 3) (eC (.int 1))) (eV 8)) (e2 dMul (eV 7) (e2 dIx (eV 3) (eC (.int 2))))) (aC (e2 dMul (e2 dIx (eV 3) (eC (.int 2))) (eV 8)) aN)))))))))
noncomputable def b__law_value_v2 : Env → SO := (sSeq (sSet 3 (eA mkTup (aC (eC (.int 0)) (aC (eC (.int 0)) (aC (eC (.int 1)) aN)))))
 (sSeq (sFor (gT [(gN 4), (gN 5)]) (iSeq (eV 0))
 b__law_value_v2_3)
 (sRet (eA m__law_sign (aC (e2 dIx (eV 3) (eC (.int 0))) (aC (e2 dIx (eV 3) (eC (.int 1))) (aC (eV 2) aN)))))))
noncomputable def m__law_value_v2 : List D → Out D := fnM 16 3 b__law_value_v2
noncomputable def b__law_times_1 : Env → SO := (sPut 7 (eV 8) (e2 dAdd (eGet2 (eV 7) (eV 8) (eC (.int 0))) (eV 9)))
noncomputable def b__law_times_2 : Env → SO := (sSeq (sSet 7 (eA cDictT (aC (eV 3) aN)))
 (sSeq (sFor (gT [(gN 8), (gN 9)]) (iSeq (eV 5))
 b__law_times_1)
 (sApp 2 (eA mkTup (aC (eA cTuple (aC (eA cSorted (aC (eLc [8] (gN 8) (iKeysD 7) bYes (eA mkTup (aC (eV 8) (aC (e2 dIx (eV 7) (eV 8)) aN)))) aN)) aN)) (aC (e2 dMul (eV 4) (eV 6)) aN))))))
noncomputable def b__law_times_3 : Env → SO := (sFor (gT [(gN 5), (gN 6)]) (iSeq (eV 1))
 b__law_times_2)
noncomputable def b__law_times : Env → SO := (sSeq (sSet 2 (eA mkLst aN))
 (sSeq (sFor (gT [(gN 3), (gN 4)]) (iSeq (eV 0))
 b__law_times_3)
 (sRet (eA m__law_sum (aC (eV 2) aN)))))
noncomputable def m__law_times : List D → Out D := fnM 10 2 b__law_times
noncomputable def b__law_product_v2_1 : Env → SO := (sSeq (sSet 4 (e2 dIx (eA mkLst (aC (eC (.int 0)) (aC (eC (.int 1)) (aC (eC (.int 2)) (aC (eC (.int 0)) (aC (eC (.int 1)) (aC (eC (.int 0)) (aC (eC (.int 3)) (aC (eC (.int 4)) (aC (eC (.int 6)) (aC (eC (.int 7)) aN))))))))))) (e2 dMod (eV 1) (eC (.int 10)))))
 (sSeq (sSet 1 (e2 dDiv (eV 1) (eC (.int 10))))
 (sIf (tOf (e2 dGt (eV 4) (eC (.int 0))))
 (sApp 2 (eA mkTup (aC (eV 3) (aC (eV 4) aN))))
 sNx)))
noncomputable def b__law_product_v2 : Env → SO := (sSeq (sSet 2 (eA mkLst aN))
 (sSeq (sFor (gN 3) (iSeq (eV 0))
 b__law_product_v2_1)
 (sRet (eA cTuple (aC (eA cSorted (aC (eV 2) aN)) aN)))))
noncomputable def m__law_product_v2 : List D → Out D := fnM 5 2 b__law_product_v2
noncomputable def b__law_point_v3_1 : Env → SO := (sSeq (sSet 3 (eA m__law_cell_v2 (aC (eV 1) (aC (e2 dAdd (eC (.int 14)) (eV 6)) aN))))
 (sSeq (sSet 7 (e2 dIx (eV 2) (e2 dMod (eV 3) (eC (.int 4)))))
 (sSeq (sSet 8 (eA m__law_signed (aC (e2 dDiv (eV 3) (eC (.int 8))) (aC (eV 7) aN))))
 (sSeq (sSet 9 (eA m__law_signed (aC (e2 dDiv (eV 3) (e2 dPow (eC (.int 10)) (eC (.int 36)))) (aC (eV 7) aN))))
 (sSeq (sSet 10 (e2 dAdd (eC (.int 1)) (e2 dMod (e2 dDiv (eV 3) (e2 dPow (eC (.int 10)) (eC (.int 20)))) (eV 7))))
 (sIf (tOf (e2 dEq (e2 dMod (e2 dDiv (eV 3) (eC (.int 4))) (eC (.int 2))) (eC (.int 0))))
 (sPut 5 (e2 dIx (eV 0) (eV 6)) (eA mkTup (aC (eV 8) (aC (eC (.int 0)) (aC (e2 dMod (e2 dDiv (eV 3) (e2 dPow (eC (.int 10)) (eC (.int 50)))) (eC (.int 9))) (aC (eV 10) aN))))))
 (sPut 5 (e2 dIx (eV 0) (eV 6)) (eA mkTup (aC (eV 8) (aC (eV 9) (aC (eV 4) (aC (eV 10) aN))))))))))))
noncomputable def b__law_point_v3 : Env → SO := (sSeq (sSet 2 (eA mkLst (aC (eC (.int 2)) (aC (eC (.int 9)) (aC (eC (.int 1000)) (aC (e2 dPow (eC (.int 10)) (eC (.int 6))) aN))))))
 (sSeq (sSet 3 (eA m__law_cell_v2 (aC (eV 1) (aC (eC (.int 1)) aN))))
 (sSeq (sSet 4 (e2 dMod (e2 dDiv (eV 3) (eC (.int 4))) (e2 dAdd (e2 dIx (eV 2) (e2 dMod (eV 3) (eC (.int 4)))) (eC (.int 1)))))
 (sSeq (sIf (tOf (e2 dEq (e2 dMod (e2 dDiv (eV 3) (e2 dPow (eC (.int 10)) (eC (.int 12)))) (eC (.int 4))) (eC (.int 1))))
 (sSet 4 (e2 dMul (e2 dMod (e2 dDiv (eV 3) (e2 dPow (eC (.int 10)) (eC (.int 20)))) (eC (.int 1000))) (e2 dMod (e2 dDiv (eV 3) (e2 dPow (eC (.int 10)) (eC (.int 20)))) (eC (.int 1000)))))
 sNx)
 (sSeq (sSet 5 (eC (.dic [])))
 (sSeq (sFor (gN 6) (iRange1 (aC (eA cLen (aC (eV 0) aN)) aN))
 b__law_point_v3_1)
 (sRetPr 5 (eV 4))))))))
noncomputable def m__law_point_v3 : List D → Out D := fnP 11 2 b__law_point_v3
noncomputable def b__law_multiplied_1 : Env → SO := (sPut 7 (eV 8) (e2 dAdd (eGet2 (eV 7) (eV 8) (eC (.int 0))) (eV 9)))
noncomputable def b__law_multiplied_2 : Env → SO := (sSeq (sSet 7 (eA cDictT (aC (eV 3) aN)))
 (sSeq (sFor (gT [(gN 8), (gN 9)]) (iSeq (eV 5))
 b__law_multiplied_1)
 (sApp 2 (eA mkTup (aC (eA cTuple (aC (eA cSorted (aC (eLc [8] (gN 8) (iKeysD 7) bYes (eA mkTup (aC (eV 8) (aC (e2 dIx (eV 7) (eV 8)) aN)))) aN)) aN)) (aC (e2 dMul (eV 4) (eV 6)) aN))))))
noncomputable def b__law_multiplied_3 : Env → SO := (sFor (gT [(gN 5), (gN 6)]) (iSeq (eV 1))
 b__law_multiplied_2)
noncomputable def b__law_multiplied : Env → SO := (sSeq (sSet 2 (eA mkLst aN))
 (sSeq (sFor (gT [(gN 3), (gN 4)]) (iSeq (eV 0))
 b__law_multiplied_3)
 (sRet (eA m__law_sum (aC (eV 2) aN)))))
noncomputable def m__law_multiplied : List D → Out D := fnM 10 2 b__law_multiplied
noncomputable def b__law_form_v8_1 : Env → SO := (sSeq (sSet 7 (eA m__law_cell_v2 (aC (eV 0) (aC (eV 6) aN))))
 (sApp 5 (eA mkTup (aC (eA m__law_product_v2 (aC (eV 1) (aC (e2 dMod (eV 7) (eC (.int 1000))) aN))) (aC (eA m__law_signed (aC (e2 dDiv (eV 7) (eC (.int 1000))) (aC (e2 dPow (eC (.int 10)) (eC (.int 9))) aN))) aN)))))
noncomputable def b__law_form_v8 : Env → SO := (sSeq (sSet 3 (eA m__law_cell_v2 (aC (eV 0) (aC (eC (.int 2)) aN))))
 (sSeq (sSet 4 (e2 dIx (eA mkLst (aC (eC (.int 14)) (aC (eC (.int 6)) (aC (eC (.int 6)) (aC (eC (.int 6)) aN))))) (e2 dMod (eV 3) (eC (.int 4)))))
 (sSeq (sSet 5 (eA mkLst aN))
 (sSeq (sFor (gN 6) (iRange2 (aC (eC (.int 3)) (aC (eA cMin2 (aC (eV 4) (aC (eA cLen (aC (eV 0) aN)) aN))) aN)))
 b__law_form_v8_1)
 (sSeq (sSet 8 (eA m__law_sum (aC (eV 5) aN)))
 (sSeq (sIf (tOf (e2 dEq (e2 dMod (eV 3) (eC (.int 4))) (eC (.int 0))))
 (sRet (eV 8))
 sNx)
 (sSeq (sSet 9 (e2 dIx (eV 1) (e2 dMod (e2 dDiv (eV 3) (eC (.int 4))) (eC (.int 3)))))
 (sSeq (sAsg (gT [(gN 10), (gN 11), (gN 12), (gN 13)]) (e2 dIx (eV 2) (eV 9)))
 (sSeq (sIf (tOf (e2 dEq (e2 dMod (eV 3) (eC (.int 4))) (eC (.int 1))))
 (sRet (eA m__law_multiplied (aC (eV 8) (aC (eA m__law_sum (aC (eA mkLst (aC (eA mkTup (aC (eA mkTup (aC (eA mkTup (aC (eV 9) (aC (eC (.int 1)) aN))) aN)) (aC (eV 13) aN))) (aC (eA mkTup (aC (eA mkTup aN) (aC (e2 dSub (eC (.int 0)) (eV 10)) aN))) aN))) aN)) aN))))
 sNx)
 (sSeq (sSet 14 (eA mkLst (aC (eA mkTup (aC (eA mkTup (aC (eA mkTup (aC (eV 9) (aC (eC (.int 2)) aN))) aN)) (aC (e2 dMul (eV 13) (eV 13)) aN))) (aC (eA mkTup (aC (eA mkTup (aC (eA mkTup (aC (eV 9) (aC (eC (.int 1)) aN))) aN)) (aC (e2 dSub (eC (.int 0)) (e2 dMul (e2 dMul (eC (.int 2)) (eV 10)) (eV 13))) aN))) (aC (eA mkTup (aC (eA mkTup aN) (aC (e2 dSub (e2 dMul (eV 10) (eV 10)) (e2 dMul (e2 dMul (eV 11) (eV 11)) (eV 12))) aN))) aN)))))
 (sSeq (sSet 8 (eA m__law_multiplied (aC (eV 8) (aC (eA m__law_sum (aC (eV 14) aN)) aN))))
 (sSeq (sIf (tOf (e2 dEq (e2 dMod (eV 3) (eC (.int 4))) (eC (.int 2))))
 (sRet (eV 8))
 sNx)
 (sRet (eA m__law_sum (aC (e2 dAdd (eA cList (aC (eV 8) aN)) (eA mkLst (aC (eA mkTup (aC (eA mkTup aN) (aC (e2 dSub (e2 dMod (e2 dDiv (eV 3) (eC (.int 12))) (eC (.int 3))) (eC (.int 1))) aN))) aN))) aN)))))))))))))))
noncomputable def m__law_form_v8 : List D → Out D := fnM 15 3 b__law_form_v8
noncomputable def b__law_right_v3 : Env → SO := (sSeq (sSet 3 (eA cDict (aC (eV 1) aN)))
 (sSeq (sSet 4 (eA m_sign_at (aC (eV 0) (aC (eV 1) aN))))
 (sRet (vAnd (e2 (dCmpC true) (eV 1) (eV 3)) (eA m__law_is_sign (aC (eV 4) (aC (eA m__law_value_v2 (aC (eV 0) (aC (eV 3) (aC (eV 2) aN)))) aN)))))))
noncomputable def m__law_right_v3 : List D → Out D := fnM 5 3 b__law_right_v3
noncomputable def b_law_v39_t7 : Env → SO := (sRet (eA m__law_right_v3 (aC (eV 4) (aC (eV 2) (aC (eV 3) aN)))))
noncomputable def b_law_v39_t6 : Env → SO := (sSeq (sPut 2 (e2 dMulS (eC (.str "z")) (eC (.int 8))) (eA mkTup (aC (eC (.int 1)) (aC (eC (.int 0)) (aC (eC (.int 0)) (aC (eC (.int 1)) aN))))))
 b_law_v39_t7)
noncomputable def b_law_v39_t5 : Env → SO := (sSeq (sPut 2 (e2 dIx (eV 1) (e2 dMod (eV 5) (eC (.int 3)))) (eA mkTup (aC (eA m__law_signed (aC (e2 dDiv (eV 5) (eC (.int 3))) (aC (eC (.int 9)) aN))) (aC (e2 dMod (e2 dDiv (eV 5) (eC (.int 60))) (eC (.int 3))) (aC (eV 3) (aC (e2 dAdd (eC (.int 1)) (e2 dMod (e2 dDiv (eV 5) (eC (.int 180))) (eC (.int 5)))) aN))))))
 b_law_v39_t6)
noncomputable def b_law_v39_t4 : Env → SO := (sSeq (sSet 5 (eA m__law_cell_v2 (aC (eV 0) (aC (eC (.int 17)) aN))))
 b_law_v39_t5)
noncomputable def b_law_v39_t3 : Env → SO := (sSeq (sIf (bNot (tOf (eBor false m__law_right_v3 (aC (eV 4) (aC (eV 2) (aC (eV 3) aN))))))
 (sRet (eC (.bl false)))
 sNx)
 b_law_v39_t4)
noncomputable def b_law_v39_t2 : Env → SO := (sSeq (sSet 4 (eBor false m__law_form_v8 (aC (eV 0) (aC (eV 1) (aC (eV 2) aN)))))
 b_law_v39_t3)
noncomputable def b_law_v39_t1 : Env → SO := (sSeq (sSetPr 2 3 (eA m__law_point_v3 (aC (eV 1) (aC (eV 0) aN))))
 b_law_v39_t2)
noncomputable def b_law_v39 : Env → SO := (sSeq (sSet 1 (eA m__law_names_v2 (aC (eA m__law_cell_v2 (aC (eV 0) (aC (eC (.int 0)) aN))) aN)))
 b_law_v39_t1)
noncomputable def m_law_v39 : List D → Out D := fnM 6 1 b_law_v39
def topS (i : Nat) : Stmt := PySem.Challenge.pw_realsay_k15_the_sign_of_a_form.main.body.getD i (.Pass ⟨0, 0, 0, 0⟩)
structure Tx (K : PySem.W.Frag) (mg : Str → Option Value) : Prop where
  z_bool : mg "bool" = none
  z_dict : mg "dict" = none
  z_int : mg "int" = none
  z_isinstance : mg "isinstance" = none
  z_len : mg "len" = none
  z_list : mg "list" = none
  z_max : mg "max" = none
  z_min : mg "min" = none
  z_range : mg "range" = none
  z_sorted : mg "sorted" = none
  z_tuple : mg "tuple" = none
  f_names_of : FnT K mg "names_of" (topS 4)
  f_power_of : FnT K mg "power_of" (topS 5)
  f_sign_of : FnT K mg "sign_of" (topS 7)
  f_sign_one : FnT K mg "sign_one" (topS 8)
  f_root_in : FnT K mg "root_in" (topS 10)
  f_tops_of : FnT K mg "tops_of" (topS 11)
  f_pair_of : FnT K mg "pair_of" (topS 12)
  f_sign_at : FnT K mg "sign_at" (topS 13)
  f__law_cell : FnT K mg "_law_cell" (topS 15)
  f__law_signed : FnT K mg "_law_signed" (topS 16)
  f__law_sign : FnT K mg "_law_sign" (topS 17)
  f__law_is_sign : FnT K mg "_law_is_sign" (topS 18)
  f__law_fit : FnT K mg "_law_fit" (topS 19)
  f__law_names : FnT K mg "_law_names" (topS 20)
  f__law_product : FnT K mg "_law_product" (topS 21)
  f__law_sum : FnT K mg "_law_sum" (topS 22)
  f__law_value : FnT K mg "_law_value" (topS 23)
  f__law_point : FnT K mg "_law_point" (topS 24)
  f__law_multiplied : FnT K mg "_law_multiplied" (topS 25)
  f__law_form : FnT K mg "_law_form" (topS 26)
  f__law_right : FnT K mg "_law_right" (topS 27)
  f_law : FnT K mg "law" (topS 28)
section
variable {P : Program} {w : World} {K : PySem.W.Frag} {mg : Str → Option Value} {base : Heap}
theorem w_names_of (T : Tx K mg) : FnA P w K mg base 1 "names_of" ["one"] false m_names_of := by
  have nd : (["one", "found", "product", "number", "name", "power"] : List Str).Nodup := by decide +kernel
  have S : FnScope ["one", "found", "product", "number", "name", "power"] ["one"] (defScope (topS 4)) := ⟨rfl, rfl, rfl, nd, rfl, by decide +kernel, by decide +kernel⟩
  refine fnA_mk (Γ0 := [false, false, false, false, false, false]) (Γl := []) (Γ' := []) T.f_names_of S (by decide) (no_own rfl) (fun _ _ _ _ _ _ us hl => match us, hl with | [_], _ => rfl) fun f cdv A outer s H E Hf hr => ?_
  have tk := takes_of (X := cxD P w K mg base ["one", "found", "product", "number", "name", "power"] "names_of" (topS 4) f cdv A outer s H E) rfl rfl rfl rfl
  have hp := passes_of (X := cxD P w K mg base ["one", "found", "product", "number", "name", "power"] "names_of" (topS 4) f cdv A outer s H E) rfl
  exact (pssx_cons (PSx.less (Γ2 := [false, true, false, false, false, false]) (psx_setO (i := 1) nd rfl (.inl rfl) px_dnew (by decide)) (le_of rfl))
 (pssx_cons (PSx.pre (psx_for (Γ := [false, true, false, false, false, false]) (Γ1 := [false, true, false, false, false, false]) hp rfl (pix_seq (px_fr' (pv 0) rfl)) (fun F1 => (pgx_tup rfl (pgsx_cons (pgx_name (i := 2) nd rfl (.inl rfl)) (pgsx_cons (pgx_name (i := 3) nd rfl (.inl rfl)) pgsx_nil)))) (gT_nx (nxs_cons gN_nx (nxs_cons gN_nx nxs_nil))) (fun F1 => (PSsx.less (Γ2 := [false, true, false, false, false, false]) (pssx_one (PSx.pre (psx_for (Γ := [false, true, false, false, false, false]) (Γ1 := [false, true, false, false, false, false]) hp rfl (pix_seq (px_fr' (pv 2) rfl)) (fun F1 => (pgx_tup rfl (pgsx_cons (pgx_name (i := 4) nd rfl (.inl rfl)) (pgsx_cons (pgx_name (i := 5) nd rfl (.inl rfl)) pgsx_nil)))) (gT_nx (nxs_cons gN_nx (nxs_cons gN_nx nxs_nil))) (fun F1 => (PSsx.less (Γ2 := [false, true, false, false, false, false]) (pssx_one (psx_put hr (pv 1) px_bl (px_rd (pv 4)) rfl)) (le_of rfl)))) (le_of rfl))) (le_of rfl)))) (le_of rfl))
 (pssx_one (psx_ret (px_callT ca_tuple rfl T.z_tuple bb_tuple (pbx_cons (px_callB (ca_sorted rfl hr) rfl T.z_sorted bb_sorted (pbx_cons (px_rd (pv 1)) pbx_nil)) pbx_nil))))))
theorem w_power_of (T : Tx K mg) : FnA P w K mg base 1 "power_of" ["product", "name"] false m_power_of := by
  have nd : (["product", "name", "other", "power"] : List Str).Nodup := by decide +kernel
  have S : FnScope ["product", "name", "other", "power"] ["product", "name"] (defScope (topS 5)) := ⟨rfl, rfl, rfl, nd, rfl, by decide +kernel, by decide +kernel⟩
  refine fnA_mk (Γ0 := []) (Γl := []) (Γ' := []) T.f_power_of S (by decide) (no_own rfl) (fun _ _ _ _ _ _ us hl => match us, hl with | [_, _], _ => rfl) fun f cdv A outer s H E Hf hr => ?_
  have tk := takes_of (X := cxD P w K mg base ["product", "name", "other", "power"] "power_of" (topS 5) f cdv A outer s H E) rfl rfl rfl rfl
  have hp := passes_of (X := cxD P w K mg base ["product", "name", "other", "power"] "power_of" (topS 5) f cdv A outer s H E) rfl
  exact (pssx_cons (PSx.pre (psx_for (Γ := []) (Γ1 := []) hp rfl (pix_seq (px_fr' (pv 0) rfl)) (fun F1 => (pgx_tup rfl (pgsx_cons (pgx_name (i := 2) nd rfl (.inl rfl)) (pgsx_cons (pgx_name (i := 3) nd rfl (.inl rfl)) pgsx_nil)))) (gT_nx (nxs_cons gN_nx (nxs_cons gN_nx nxs_nil))) (fun F1 => (PSsx.less (Γ2 := []) (pssx_one (psx_if (Γ2 := []) (ptx_cmp (od_eq hr) (px_rd (pv 2)) (px_rd (pv 1)) (nomark _))
 (pssx_one (psx_ret (px_fr' (pv 3) rfl)))
 (PSsx.less (Γ2 := []) pssx_nil (le_of rfl)))) (le_of rfl)))) (le_of rfl))
 (pssx_one (psx_ret px_int)))
theorem w_sign_of (T : Tx K mg) : FnA P w K mg base 1 "sign_of" ["number"] false m_sign_of := by
  have nd : (["number"] : List Str).Nodup := by decide +kernel
  have S : FnScope ["number"] ["number"] (defScope (topS 7)) := ⟨rfl, rfl, rfl, nd, rfl, by decide +kernel, by decide +kernel⟩
  refine fnA_mk (Γ0 := []) (Γl := []) (Γ' := []) T.f_sign_of S (by decide) (no_own rfl) (fun _ _ _ _ _ _ us hl => match us, hl with | [_], _ => rfl) fun f cdv A outer s H E Hf hr => ?_
  have tk := takes_of (X := cxD P w K mg base ["number"] "sign_of" (topS 7) f cdv A outer s H E) rfl rfl rfl rfl
  have hp := passes_of (X := cxD P w K mg base ["number"] "sign_of" (topS 7) f cdv A outer s H E) rfl
  exact (pssx_cons (psx_if (Γ2 := []) (ptx_cmp (od_gt hr) (px_rd (pv 0)) px_int (nomark _))
 (pssx_one (psx_ret px_int))
 (PSsx.less (Γ2 := []) pssx_nil (le_of rfl)))
 (pssx_cons (psx_if (Γ2 := []) (ptx_cmp (od_lt hr) (px_rd (pv 0)) px_int (nomark _))
 (pssx_one (psx_ret (px_un ud_neg px_int)))
 (PSsx.less (Γ2 := []) pssx_nil (le_of rfl)))
 (pssx_one (psx_ret px_int))))
theorem w_sign_one (T : Tx K mg) : FnA P w K mg base 2 "sign_one" ["u", "v", "r"] false m_sign_one := by
  have C_sign_of := w_sign_of (P := P) (w := w) (base := base) T
  have nd : (["u", "v", "r", "left", "right"] : List Str).Nodup := by decide +kernel
  have S : FnScope ["u", "v", "r", "left", "right"] ["u", "v", "r"] (defScope (topS 8)) := ⟨rfl, rfl, rfl, nd, rfl, by decide +kernel, by decide +kernel⟩
  refine fnA_mk (Γ0 := []) (Γl := []) (Γ' := []) T.f_sign_one S (by decide) (no_own rfl) (fun _ _ _ _ _ _ us hl => match us, hl with | [_, _, _], _ => rfl) fun f cdv A outer s H E Hf hr => ?_
  have tk := takes_of (X := cxD P w K mg base ["u", "v", "r", "left", "right"] "sign_one" (topS 8) f cdv A outer s H E) rfl rfl rfl rfl
  have hp := passes_of (X := cxD P w K mg base ["u", "v", "r", "left", "right"] "sign_one" (topS 8) f cdv A outer s H E) rfl
  exact (pssx_cons (PSx.less (Γ2 := []) (psx_set (i := 3) nd rfl (.inl rfl) (px_callF C_sign_of (hr.mono (by decide)) rfl tk (pax_cons (px_fr' (pv 0) rfl) pax_nil))) (le_of rfl))
 (pssx_cons (PSx.less (Γ2 := []) (psx_set (i := 4) nd rfl (.inl rfl) (px_callF C_sign_of (hr.mono (by decide)) rfl tk (pax_cons (px_bin (od_mul hr) (px_rd (pv 1)) (px_rd (pv 2))) pax_nil))) (le_of rfl))
 (pssx_cons (psx_if (Γ2 := []) (PWx.pt (pwx_or (ptx_cmp (od_eq hr) (px_rd (pv 3)) (px_rd (pv 4)) (nomark _)) (pwx_or1 (ptx_cmp (od_eq hr) (px_rd (pv 4)) px_int (nomark _)))))
 (pssx_one (psx_ret (px_fr' (pv 3) rfl)))
 (PSsx.less (Γ2 := []) pssx_nil (le_of rfl)))
 (pssx_cons (psx_if (Γ2 := []) (ptx_cmp (od_eq hr) (px_rd (pv 3)) px_int (nomark _))
 (pssx_one (psx_ret (px_fr' (pv 4) rfl)))
 (PSsx.less (Γ2 := []) pssx_nil (le_of rfl)))
 (pssx_one (psx_ret (px_bin (od_mul hr) (px_rd (pv 3)) (PX.rd (px_callF C_sign_of (hr.mono (by decide)) rfl tk (pax_cons (px_bin od_sub (px_bin (od_mul hr) (px_rd (pv 0)) (px_rd (pv 0))) (px_bin (od_mul hr) (px_bin (od_mul hr) (px_rd (pv 1)) (px_rd (pv 1))) (px_rd (pv 2)))) pax_nil))))))))))
theorem w_root_in (T : Tx K mg) : FnA P w K mg base 1 "root_in" ["names", "point"] false m_root_in := by
  have nd : (["names", "point", "name"] : List Str).Nodup := by decide +kernel
  have S : FnScope ["names", "point", "name"] ["names", "point"] (defScope (topS 10)) := ⟨rfl, rfl, rfl, nd, rfl, by decide +kernel, by decide +kernel⟩
  refine fnA_mk (Γ0 := []) (Γl := []) (Γ' := []) T.f_root_in S (by decide) (no_own rfl) (fun _ _ _ _ _ _ us hl => match us, hl with | [_, _], _ => rfl) fun f cdv A outer s H E Hf hr => ?_
  have tk := takes_of (X := cxD P w K mg base ["names", "point", "name"] "root_in" (topS 10) f cdv A outer s H E) rfl rfl rfl rfl
  have hp := passes_of (X := cxD P w K mg base ["names", "point", "name"] "root_in" (topS 10) f cdv A outer s H E) rfl
  exact (pssx_cons (PSx.pre (psx_for (Γ := []) (Γ1 := []) hp rfl (pix_seq (px_fr' (pv 0) rfl)) (fun F1 => (pgx_name (i := 2) nd rfl (.inl rfl))) gN_nx (fun F1 => (PSsx.less (Γ2 := []) (pssx_one (psx_if (Γ2 := []) (ptx_cmp (od_ne hr) (PX.rd (px_ix hr (PX.rd (px_ix hr (px_rd (pv 1)) (px_rd (pv 2)) (fun _ _ => rfl))) px_int (fun _ _ => rfl))) px_int (nomark _))
 (pssx_one (psx_ret (px_ix hr (PX.rd (px_ix hr (px_rd (pv 1)) (px_rd (pv 2)) (fun _ _ => rfl))) px_int (fun _ _ => rfl))))
 (PSsx.less (Γ2 := []) pssx_nil (le_of rfl)))) (le_of rfl)))) (le_of rfl))
 (pssx_one (psx_ret px_int)))
theorem w_tops_of (T : Tx K mg) : FnA P w K mg base 1 "tops_of" ["one"] true m_tops_of := by
  have nd : (["one", "found", "product", "number", "name", "power"] : List Str).Nodup := by decide +kernel
  have S : FnScope ["one", "found", "product", "number", "name", "power"] ["one"] (defScope (topS 11)) := ⟨rfl, rfl, rfl, nd, rfl, by decide +kernel, by decide +kernel⟩
  refine fnA_mk (Γ0 := [false, false, false, false, false, false]) (Γl := []) (Γ' := []) T.f_tops_of S (by decide) (no_own rfl) (fun _ _ _ _ _ _ us hl => match us, hl with | [_], _ => rfl) fun f cdv A outer s H E Hf hr => ?_
  have tk := takes_of (X := cxD P w K mg base ["one", "found", "product", "number", "name", "power"] "tops_of" (topS 11) f cdv A outer s H E) rfl rfl rfl rfl
  have hp := passes_of (X := cxD P w K mg base ["one", "found", "product", "number", "name", "power"] "tops_of" (topS 11) f cdv A outer s H E) rfl
  exact (pssx_cons (PSx.less (Γ2 := [false, true, false, false, false, false]) (psx_setO (i := 1) nd rfl (.inl rfl) px_dnew (by decide)) (le_of rfl))
 (pssx_cons (PSx.pre (psx_for (Γ := [false, true, false, false, false, false]) (Γ1 := [false, true, false, false, false, false]) hp rfl (pix_seq (px_fr' (pv 0) rfl)) (fun F1 => (pgx_tup rfl (pgsx_cons (pgx_name (i := 2) nd rfl (.inl rfl)) (pgsx_cons (pgx_name (i := 3) nd rfl (.inl rfl)) pgsx_nil)))) (gT_nx (nxs_cons gN_nx (nxs_cons gN_nx nxs_nil))) (fun F1 => (PSsx.less (Γ2 := [false, true, false, false, false, false]) (pssx_one (PSx.pre (psx_for (Γ := [false, true, false, false, false, false]) (Γ1 := [false, true, false, false, false, false]) hp rfl (pix_seq (px_fr' (pv 2) rfl)) (fun F1 => (pgx_tup rfl (pgsx_cons (pgx_name (i := 4) nd rfl (.inl rfl)) (pgsx_cons (pgx_name (i := 5) nd rfl (.inl rfl)) pgsx_nil)))) (gT_nx (nxs_cons gN_nx (nxs_cons gN_nx nxs_nil))) (fun F1 => (PSsx.less (Γ2 := [false, true, false, false, false, false]) (pssx_one (psx_put hr (pv 1) (px_callB (ca_max2 rfl) rfl T.z_max bb_max (pbx_cons (PX.rd (px_get2 hr (px_rd (pv 1)) (px_rd (pv 4)) px_int ⟨rfl, rfl, rfl, rfl⟩)) (pbx_cons (px_rd (pv 5)) pbx_nil))) (px_rd (pv 4)) rfl)) (le_of rfl)))) (le_of rfl))) (le_of rfl)))) (le_of rfl))
 (pssx_one (psx_retV (pv 1) rfl))))
theorem w_pair_of (T : Tx K mg) : FnA P w K mg base 2 "pair_of" ["product", "number", "point", "tops", "root"] false m_pair_of_v2 := by
  have C_power_of := w_power_of (P := P) (w := w) (base := base) T
  have nd : (["product", "number", "point", "tops", "root", "u", "v", "name", "p", "q", "r", "s", "power", "k"] : List Str).Nodup := by decide +kernel
  have S : FnScope ["product", "number", "point", "tops", "root", "u", "v", "name", "p", "q", "r", "s", "power", "k"] ["product", "number", "point", "tops", "root"] (defScope (topS 12)) := ⟨rfl, rfl, rfl, nd, rfl, by decide +kernel, by decide +kernel⟩
  refine fnA_mk (Γ0 := []) (Γl := []) (Γ' := []) T.f_pair_of S (by decide) (no_own rfl) (fun _ _ _ _ _ _ us hl => match us, hl with | [_, _, _, _, _], _ => rfl) fun f cdv A outer s H E Hf hr => ?_
  have tk := takes_of (X := cxD P w K mg base ["product", "number", "point", "tops", "root", "u", "v", "name", "p", "q", "r", "s", "power", "k"] "pair_of" (topS 12) f cdv A outer s H E) rfl rfl rfl rfl
  have hp := passes_of (X := cxD P w K mg base ["product", "number", "point", "tops", "root", "u", "v", "name", "p", "q", "r", "s", "power", "k"] "pair_of" (topS 12) f cdv A outer s H E) rfl
  exact (pssx_cons (PSx.less (Γ2 := []) (psx_set (i := 5) nd rfl (.inl rfl) (px_fr' (pv 1) rfl)) (le_of rfl))
 (pssx_cons (PSx.less (Γ2 := []) (psx_set (i := 6) nd rfl (.inl rfl) px_int) (le_of rfl))
 (pssx_cons (psx_forD (i := 3) (Γ := []) hp rfl (pv 3) rfl (fun g => (pgx_name (i := 7) nd rfl (.inl rfl))) gN_nx (fun g hs => (PSsx.less (Γ2 := []) (pssx_cons (PSx.less (Γ2 := []) (psx_asg (px_ix hr (px_rd (pv 2)) (px_rd (pv 7)) (fun _ _ => rfl)) (pgx_tup rfl (pgsx_cons (pgx_name (i := 8) nd rfl (.inl rfl)) (pgsx_cons (pgx_name (i := 9) nd rfl (.inl rfl)) (pgsx_cons (pgx_name (i := 10) nd rfl (.inl rfl)) (pgsx_cons (pgx_name (i := 11) nd rfl (.inl rfl)) pgsx_nil))))) (gT_nx (nxs_cons gN_nx (nxs_cons gN_nx (nxs_cons gN_nx (nxs_cons gN_nx nxs_nil)))))) (le_of rfl))
 (pssx_cons (PSx.less (Γ2 := []) (psx_set (i := 12) nd rfl (.inl rfl) (px_callF C_power_of (hr.mono (by decide)) rfl takes_no (pax_cons (px_fr' (pv 0) rfl) (pax_cons (px_fr' (pv 7) rfl) pax_nil)))) (le_of rfl))
 (pssx_cons (PSx.pre (psx_for (Γ := []) (Γ1 := []) hp rfl (pix_range1 rfl T.z_range (pax_cons (px_fr' (pv 12) rfl) pax_nil)) (fun F1 => (pgx_name (i := 13) nd rfl (.inl rfl))) gN_nx (fun F1 => (PSsx.less (Γ2 := []) (pssx_one (PSx.less (Γ2 := []) (psx_par (i := 5) (j := 6) rfl nd rfl rfl (by decide) rfl rfl (px_bin (od_add hr) (px_bin (od_mul hr) (px_rd (pv 5)) (px_rd (pv 8))) (px_bin (od_mul hr) (px_bin (od_mul hr) (px_rd (pv 6)) (px_rd (pv 9))) (px_rd (pv 4)))) (px_bin (od_add hr) (px_bin (od_mul hr) (px_rd (pv 5)) (px_rd (pv 9))) (px_bin (od_mul hr) (px_rd (pv 6)) (px_rd (pv 8))))) (le_of rfl))) (le_of rfl)))) (le_of rfl))
 (pssx_one (PSx.pre (psx_for (Γ := []) (Γ1 := []) hp rfl (pix_range1 rfl T.z_range (pax_cons (px_bin od_sub (PX.rd (px_ix hr (px_rd (pv 3)) (px_rd (pv 7)) (fun _ _ => rfl))) (px_rd (pv 12))) pax_nil)) (fun F1 => (pgx_name (i := 13) nd rfl (.inl rfl))) gN_nx (fun F1 => (PSsx.less (Γ2 := []) (pssx_one (PSx.less (Γ2 := []) (psx_par (i := 5) (j := 6) rfl nd rfl rfl (by decide) rfl rfl (px_bin (od_mul hr) (px_rd (pv 5)) (px_rd (pv 11))) (px_bin (od_mul hr) (px_rd (pv 6)) (px_rd (pv 11)))) (le_of rfl))) (le_of rfl)))) (le_of rfl)))))) (le_of rfl))))
 (pssx_one (psx_ret (px_tup (pax_cons (px_fr' (pv 5) rfl) (pax_cons (px_fr' (pv 6) rfl) pax_nil))))))))
theorem w_sign_at (T : Tx K mg) : FnA P w K mg base 3 "sign_at" ["one", "point"] false m_sign_at := by
  have C_names_of := w_names_of (P := P) (w := w) (base := base) T
  have C_root_in := w_root_in (P := P) (w := w) (base := base) T
  have C_tops_of := w_tops_of (P := P) (w := w) (base := base) T
  have C_pair_of := w_pair_of (P := P) (w := w) (base := base) T
  have C_sign_one := w_sign_one (P := P) (w := w) (base := base) T
  have nd : (["one", "point", "names", "name", "root", "tops", "u", "v", "product", "number", "more", "other"] : List Str).Nodup := by decide +kernel
  have S : FnScope ["one", "point", "names", "name", "root", "tops", "u", "v", "product", "number", "more", "other"] ["one", "point"] (defScope (topS 13)) := ⟨rfl, rfl, rfl, nd, rfl, by decide +kernel, by decide +kernel⟩
  refine fnA_mk (Γ0 := []) (Γl := []) (Γ' := []) T.f_sign_at S (by decide) (no_own rfl) (fun _ _ _ _ _ _ us hl => match us, hl with | [_, _], _ => rfl) fun f cdv A outer s H E Hf hr => ?_
  have tk := takes_of (X := cxD P w K mg base ["one", "point", "names", "name", "root", "tops", "u", "v", "product", "number", "more", "other"] "sign_at" (topS 13) f cdv A outer s H E) rfl rfl rfl rfl
  have hp := passes_of (X := cxD P w K mg base ["one", "point", "names", "name", "root", "tops", "u", "v", "product", "number", "more", "other"] "sign_at" (topS 13) f cdv A outer s H E) rfl
  exact (pssx_cons (PSx.less (Γ2 := []) (psx_set (i := 2) nd rfl (.inl rfl) (px_callF C_names_of (hr.mono (by decide)) rfl tk (pax_cons (px_fr' (pv 0) rfl) pax_nil))) (le_of rfl))
 (pssx_cons (PSx.pre (psx_for (Γ := []) (Γ1 := []) hp rfl (pix_seq (px_fr' (pv 2) rfl)) (fun F1 => (pgx_name (i := 3) nd rfl (.inl rfl))) gN_nx (fun F1 => (PSsx.less (Γ2 := []) (pssx_one (psx_if (Γ2 := []) (ptx_cmp (od_notin hr) (px_rd (pv 3)) (px_rd (pv 1)) (by rfl))
 (pssx_one psx_stuck)
 (PSsx.less (Γ2 := []) pssx_nil (le_of rfl)))) (le_of rfl)))) (le_of rfl))
 (pssx_cons (PSx.less (Γ2 := []) (psx_set (i := 4) nd rfl (.inl rfl) (px_callF C_root_in (hr.mono (by decide)) rfl tk (pax_cons (px_fr' (pv 2) rfl) (pax_cons (px_fr' (pv 1) rfl) pax_nil)))) (le_of rfl))
 (pssx_cons (PSx.less (Γ2 := []) (psx_set (i := 5) nd rfl (.inl rfl) (PX.fr (px_callO C_tops_of (hr.mono (by decide)) rfl tk (pax_cons (px_fr' (pv 0) rfl) pax_nil)))) (le_of rfl))
 (pssx_cons (PSx.less (Γ2 := []) (psx_set (i := 6) nd rfl (.inl rfl) px_int) (le_of rfl))
 (pssx_cons (PSx.less (Γ2 := []) (psx_set (i := 7) nd rfl (.inl rfl) px_int) (le_of rfl))
 (pssx_cons (PSx.pre (psx_for (Γ := []) (Γ1 := []) hp rfl (pix_seq (px_fr' (pv 0) rfl)) (fun F1 => (pgx_tup rfl (pgsx_cons (pgx_name (i := 8) nd rfl (.inl rfl)) (pgsx_cons (pgx_name (i := 9) nd rfl (.inl rfl)) pgsx_nil)))) (gT_nx (nxs_cons gN_nx (nxs_cons gN_nx nxs_nil))) (fun F1 => (PSsx.less (Γ2 := []) (pssx_cons (PSx.less (Γ2 := []) (psx_asg (px_callF C_pair_of (hr.mono (by decide)) rfl tk (pax_cons (px_fr' (pv 8) rfl) (pax_cons (px_fr' (pv 9) rfl) (pax_cons (px_fr' (pv 1) rfl) (pax_cons (px_fr' (pv 5) rfl) (pax_cons (px_fr' (pv 4) rfl) pax_nil)))))) (pgx_tup rfl (pgsx_cons (pgx_name (i := 10) nd rfl (.inl rfl)) (pgsx_cons (pgx_name (i := 11) nd rfl (.inl rfl)) pgsx_nil))) (gT_nx (nxs_cons gN_nx (nxs_cons gN_nx nxs_nil)))) (le_of rfl))
 (pssx_cons (PSx.less (Γ2 := []) (psx_set (i := 6) nd rfl (.inl rfl) (px_bin (od_add hr) (px_rd (pv 6)) (px_rd (pv 10)))) (le_of rfl))
 (pssx_one (PSx.less (Γ2 := []) (psx_set (i := 7) nd rfl (.inl rfl) (px_bin (od_add hr) (px_rd (pv 7)) (px_rd (pv 11)))) (le_of rfl))))) (le_of rfl)))) (le_of rfl))
 (pssx_one (psx_ret (px_callF C_sign_one (hr.mono (by decide)) rfl tk (pax_cons (px_fr' (pv 6) rfl) (pax_cons (px_fr' (pv 7) rfl) (pax_cons (px_fr' (pv 4) rfl) pax_nil)))))))))))))
theorem w__law_cell (T : Tx K mg) : FnA P w K mg base 1 "_law_cell" ["_law_script", "_law_k"] false m__law_cell_v2 := by
  have nd : (["_law_script", "_law_k", "_law_wide"] : List Str).Nodup := by decide +kernel
  have S : FnScope ["_law_script", "_law_k", "_law_wide"] ["_law_script", "_law_k"] (defScope (topS 15)) := ⟨rfl, rfl, rfl, nd, rfl, by decide +kernel, by decide +kernel⟩
  refine fnA_mk (Γ0 := []) (Γl := []) (Γ' := []) T.f__law_cell S (by decide) (no_own rfl) (fun _ _ _ _ _ _ us hl => match us, hl with | [_, _], _ => rfl) fun f cdv A outer s H E Hf hr => ?_
  have tk := takes_of (X := cxD P w K mg base ["_law_script", "_law_k", "_law_wide"] "_law_cell" (topS 15) f cdv A outer s H E) rfl rfl rfl rfl
  have hp := passes_of (X := cxD P w K mg base ["_law_script", "_law_k", "_law_wide"] "_law_cell" (topS 15) f cdv A outer s H E) rfl
  exact (pssx_cons (psx_if (Γ2 := []) (ptx_cmp (od_lt hr) (px_rd (pv 1)) (px_callB ca_len rfl T.z_len bb_len (pbx_cons (px_rd (pv 0)) pbx_nil)) (nomark _))
 (pssx_cons (PSx.less (Γ2 := []) (psx_set (i := 2) nd rfl (.inl rfl) (px_bin (od_mul hr) (PX.rd (px_ix hr (px_rd (pv 0)) (px_rd (pv 1)) (fun _ _ => rfl))) px_int)) (le_of rfl))
 (pssx_one (psx_ret (px_bin od_mod (px_rd (pv 2)) (px_bin od_pow px_int px_int)))))
 (PSsx.less (Γ2 := []) pssx_nil (le_of rfl)))
 (pssx_one (psx_ret px_int)))
theorem w__law_signed (T : Tx K mg) : FnA P w K mg base 1 "_law_signed" ["_law_number", "_law_most"] false m__law_signed := by
  have nd : (["_law_number", "_law_most", "_law_half"] : List Str).Nodup := by decide +kernel
  have S : FnScope ["_law_number", "_law_most", "_law_half"] ["_law_number", "_law_most"] (defScope (topS 16)) := ⟨rfl, rfl, rfl, nd, rfl, by decide +kernel, by decide +kernel⟩
  refine fnA_mk (Γ0 := []) (Γl := []) (Γ' := []) T.f__law_signed S (by decide) (no_own rfl) (fun _ _ _ _ _ _ us hl => match us, hl with | [_, _], _ => rfl) fun f cdv A outer s H E Hf hr => ?_
  have tk := takes_of (X := cxD P w K mg base ["_law_number", "_law_most", "_law_half"] "_law_signed" (topS 16) f cdv A outer s H E) rfl rfl rfl rfl
  have hp := passes_of (X := cxD P w K mg base ["_law_number", "_law_most", "_law_half"] "_law_signed" (topS 16) f cdv A outer s H E) rfl
  exact (pssx_cons (PSx.less (Γ2 := []) (psx_set (i := 0) nd rfl (.inl rfl) (px_bin od_mod (px_rd (pv 0)) (px_bin (od_add hr) (px_bin (od_mul hr) px_int (px_rd (pv 1))) px_int))) (le_of rfl))
 (pssx_cons (PSx.less (Γ2 := []) (psx_set (i := 2) nd rfl (.inl rfl) (px_bin od_div (px_bin (od_add hr) (px_rd (pv 0)) px_int) px_int)) (le_of rfl))
 (pssx_cons (psx_if (Γ2 := []) (ptx_cmp (od_eq hr) (px_bin od_mod (px_rd (pv 0)) px_int) px_int (nomark _))
 (pssx_one (psx_ret (px_fr' (pv 2) rfl)))
 (PSsx.less (Γ2 := []) pssx_nil (le_of rfl)))
 (pssx_one (psx_ret (px_bin od_sub px_int (px_rd (pv 2))))))))
theorem w__law_sign (T : Tx K mg) : FnA P w K mg base 1 "_law_sign" ["_law_u", "_law_v", "_law_r"] false m__law_sign := by
  have nd : (["_law_u", "_law_v", "_law_r", "_law_left", "_law_right_here", "_law_more"] : List Str).Nodup := by decide +kernel
  have S : FnScope ["_law_u", "_law_v", "_law_r", "_law_left", "_law_right_here", "_law_more"] ["_law_u", "_law_v", "_law_r"] (defScope (topS 17)) := ⟨rfl, rfl, rfl, nd, rfl, by decide +kernel, by decide +kernel⟩
  refine fnA_mk (Γ0 := []) (Γl := []) (Γ' := []) T.f__law_sign S (by decide) (no_own rfl) (fun _ _ _ _ _ _ us hl => match us, hl with | [_, _, _], _ => rfl) fun f cdv A outer s H E Hf hr => ?_
  have tk := takes_of (X := cxD P w K mg base ["_law_u", "_law_v", "_law_r", "_law_left", "_law_right_here", "_law_more"] "_law_sign" (topS 17) f cdv A outer s H E) rfl rfl rfl rfl
  have hp := passes_of (X := cxD P w K mg base ["_law_u", "_law_v", "_law_r", "_law_left", "_law_right_here", "_law_more"] "_law_sign" (topS 17) f cdv A outer s H E) rfl
  exact (pssx_cons (PSx.less (Γ2 := []) (psx_set (i := 3) nd rfl (.inl rfl) (px_bin od_sub (px_callT ca_int rfl T.z_int bb_int (pbx_cons (px_cmp (od_gt hr) (px_rd (pv 0)) px_int (nomark _)) pbx_nil)) (px_callT ca_int rfl T.z_int bb_int (pbx_cons (px_cmp (od_lt hr) (px_rd (pv 0)) px_int (nomark _)) pbx_nil)))) (le_of rfl))
 (pssx_cons (PSx.less (Γ2 := []) (psx_set (i := 4) nd rfl (.inl rfl) (px_bin od_sub (px_callT ca_int rfl T.z_int bb_int (pbx_cons (px_cmp (od_gt hr) (px_rd (pv 1)) px_int (nomark _)) pbx_nil)) (px_callT ca_int rfl T.z_int bb_int (pbx_cons (px_cmp (od_lt hr) (px_rd (pv 1)) px_int (nomark _)) pbx_nil)))) (le_of rfl))
 (pssx_cons (psx_if (Γ2 := []) (ptx_cmp (od_eq hr) (px_rd (pv 2)) px_int (nomark _))
 (PSsx.less (Γ2 := []) (pssx_one (PSx.less (Γ2 := []) (psx_set (i := 4) nd rfl (.inl rfl) px_int) (le_of rfl))) (le_of rfl))
 (PSsx.less (Γ2 := []) pssx_nil (le_of rfl)))
 (pssx_cons (psx_if (Γ2 := []) (ptx_cmp (od_ge hr) (px_bin (od_mul hr) (px_rd (pv 3)) (px_rd (pv 4))) px_int (nomark _))
 (pssx_one (psx_ret (px_callB (ca_max2 rfl) rfl T.z_max bb_max (pbx_cons (px_un ud_neg px_int) (pbx_cons (px_callB (ca_min2 rfl) rfl T.z_min bb_min (pbx_cons px_int (pbx_cons (px_bin (od_add hr) (px_rd (pv 3)) (px_rd (pv 4))) pbx_nil))) pbx_nil)))))
 (PSsx.less (Γ2 := []) pssx_nil (le_of rfl)))
 (pssx_cons (PSx.less (Γ2 := []) (psx_set (i := 5) nd rfl (.inl rfl) (px_bin od_sub (px_bin (od_mul hr) (px_rd (pv 0)) (px_rd (pv 0))) (px_bin (od_mul hr) (px_bin (od_mul hr) (px_rd (pv 1)) (px_rd (pv 1))) (px_rd (pv 2))))) (le_of rfl))
 (pssx_cons (psx_if (Γ2 := []) (ptx_cmp (od_lt hr) (px_rd (pv 5)) px_int (nomark _))
 (pssx_one (psx_ret (px_fr' (pv 4) rfl)))
 (PSsx.less (Γ2 := []) pssx_nil (le_of rfl)))
 (pssx_one (psx_ret (px_bin (od_mul hr) (px_rd (pv 3)) (px_callT ca_int rfl T.z_int bb_int (pbx_cons (px_cmp (od_gt hr) (px_rd (pv 5)) px_int (nomark _)) pbx_nil)))))))))))
theorem w__law_is_sign (T : Tx K mg) : FnA P w K mg base 1 "_law_is_sign" ["_law_found", "_law_due"] false m__law_is_sign := by
  have nd : (["_law_found", "_law_due"] : List Str).Nodup := by decide +kernel
  have S : FnScope ["_law_found", "_law_due"] ["_law_found", "_law_due"] (defScope (topS 18)) := ⟨rfl, rfl, rfl, nd, rfl, by decide +kernel, by decide +kernel⟩
  refine fnA_mk (Γ0 := []) (Γl := []) (Γ' := []) T.f__law_is_sign S (by decide) (no_own rfl) (fun _ _ _ _ _ _ us hl => match us, hl with | [_, _], _ => rfl) fun f cdv A outer s H E Hf hr => ?_
  have tk := takes_of (X := cxD P w K mg base ["_law_found", "_law_due"] "_law_is_sign" (topS 18) f cdv A outer s H E) rfl rfl rfl rfl
  have hp := passes_of (X := cxD P w K mg base ["_law_found", "_law_due"] "_law_is_sign" (topS 18) f cdv A outer s H E) rfl
  exact (pssx_one (psx_ret (px_and (px_callB ca_isi rfl T.z_isinstance bb_isinstance (pbx_cons (px_rd (pv 0)) (pbx_cons (px_type rfl T.z_int bb_int) pbx_nil))) (px_and (px_not (px_callB ca_isi rfl T.z_isinstance bb_isinstance (pbx_cons (px_rd (pv 0)) (pbx_cons (px_type rfl T.z_bool bb_bool) pbx_nil)))) (px_one (px_cmp (od_eq hr) (px_rd (pv 0)) (px_rd (pv 1)) (nomark _)))))))
theorem w__law_fit (T : Tx K mg) : FnA P w K mg base 1 "_law_fit" ["_law_word"] false m__law_fit := by
  have nd : (["_law_word"] : List Str).Nodup := by decide +kernel
  have S : FnScope ["_law_word"] ["_law_word"] (defScope (topS 19)) := ⟨rfl, rfl, rfl, nd, rfl, by decide +kernel, by decide +kernel⟩
  refine fnA_mk (Γ0 := []) (Γl := []) (Γ' := []) T.f__law_fit S (by decide) (no_own rfl) (fun _ _ _ _ _ _ us hl => match us, hl with | [_], _ => rfl) fun f cdv A outer s H E Hf hr => ?_
  have tk := takes_of (X := cxD P w K mg base ["_law_word"] "_law_fit" (topS 19) f cdv A outer s H E) rfl rfl rfl rfl
  have hp := passes_of (X := cxD P w K mg base ["_law_word"] "_law_fit" (topS 19) f cdv A outer s H E) rfl
  exact (pssx_cons (psx_if (Γ2 := []) (ptx_cmp (od_in hr) (px_rd (pv 0)) (PX.rd (px_lst (pax_cons px_str (pax_cons px_str (pax_cons px_str (pax_cons px_str (pax_cons px_str (pax_cons px_str (pax_cons px_str pax_nil))))))))) (by rfl))
 (pssx_one (psx_ret (px_bin (od_add hr) (px_rd (pv 0)) px_str)))
 (PSsx.less (Γ2 := []) pssx_nil (le_of rfl)))
 (pssx_one (psx_ret (px_fr' (pv 0) rfl))))
theorem w__law_names (T : Tx K mg) : FnA P w K mg base 2 "_law_names" ["_law_cell_here"] true m__law_names_v2 := by
  have C__law_fit := w__law_fit (P := P) (w := w) (base := base) T
  have nd : (["_law_cell_here", "_law_letters", "_law_first", "_law_rest", "_law_k", "_law_at", "_law_turn", "_law_second", "_law_third"] : List Str).Nodup := by decide +kernel
  have S : FnScope ["_law_cell_here", "_law_letters", "_law_first", "_law_rest", "_law_k", "_law_at", "_law_turn", "_law_second", "_law_third"] ["_law_cell_here"] (defScope (topS 20)) := ⟨rfl, rfl, rfl, nd, rfl, by decide +kernel, by decide +kernel⟩
  refine fnA_mk (Γ0 := []) (Γl := []) (Γ' := []) T.f__law_names S (by decide) (no_own rfl) (fun _ _ _ _ _ _ us hl => match us, hl with | [_], _ => rfl) fun f cdv A outer s H E Hf hr => ?_
  have tk := takes_of (X := cxD P w K mg base ["_law_cell_here", "_law_letters", "_law_first", "_law_rest", "_law_k", "_law_at", "_law_turn", "_law_second", "_law_third"] "_law_names" (topS 20) f cdv A outer s H E) rfl rfl rfl rfl
  have hp := passes_of (X := cxD P w K mg base ["_law_cell_here", "_law_letters", "_law_first", "_law_rest", "_law_k", "_law_at", "_law_turn", "_law_second", "_law_third"] "_law_names" (topS 20) f cdv A outer s H E) rfl
  exact (pssx_cons (PSx.less (Γ2 := []) (psx_set (i := 1) nd rfl (.inl rfl) px_str) (le_of rfl))
 (pssx_cons (PSx.less (Γ2 := []) (psx_set (i := 2) nd rfl (.inl rfl) px_str) (le_of rfl))
 (pssx_cons (PSx.less (Γ2 := []) (psx_set (i := 3) nd rfl (.inl rfl) (px_bin od_div (px_rd (pv 0)) px_int)) (le_of rfl))
 (pssx_cons (PSx.pre (psx_for (Γ := []) (Γ1 := []) hp rfl (pix_range1 rfl T.z_range (pax_cons (px_bin (od_add hr) px_int (px_bin od_mod (px_rd (pv 0)) px_int)) pax_nil)) (fun F1 => (pgx_name (i := 4) nd rfl (.inl rfl))) gN_nx (fun F1 => (PSsx.less (Γ2 := []) (pssx_cons (PSx.less (Γ2 := []) (psx_set (i := 2) nd rfl (.inl rfl) (px_bin (od_add hr) (px_rd (pv 2)) (PX.rd (px_ix hr (px_rd (pv 1)) (px_bin od_mod (px_rd (pv 3)) px_int) (fun _ _ => rfl))))) (le_of rfl))
 (pssx_one (PSx.less (Γ2 := []) (psx_set (i := 3) nd rfl (.inl rfl) (px_bin od_div (px_rd (pv 3)) px_int)) (le_of rfl)))) (le_of rfl)))) (le_of rfl))
 (pssx_cons (PSx.less (Γ2 := []) (psx_set (i := 2) nd rfl (.inl rfl) (px_callF C__law_fit (hr.mono (by decide)) rfl tk (pax_cons (px_fr' (pv 2) rfl) pax_nil))) (le_of rfl))
 (pssx_cons (PSx.less (Γ2 := []) (psx_set (i := 5) nd rfl (.inl rfl) (px_bin od_mod (px_rd (pv 3)) (px_callB ca_len rfl T.z_len bb_len (pbx_cons (px_rd (pv 2)) pbx_nil)))) (le_of rfl))
 (pssx_cons (PSx.less (Γ2 := []) (psx_set (i := 6) nd rfl (.inl rfl) (px_bin od_mod (px_bin (od_add hr) (px_bin (od_add hr) (px_find (px_rd (pv 1)) (PX.rd (px_ix hr (px_rd (pv 2)) (px_rd (pv 5)) (fun _ _ => rfl)))) px_int) (px_bin od_mod (px_bin od_div (px_rd (pv 3)) px_int) px_int)) px_int)) (le_of rfl))
 (pssx_cons (PSx.less (Γ2 := []) (psx_set (i := 7) nd rfl (.inl rfl) (px_callF C__law_fit (hr.mono (by decide)) rfl tk (pax_cons (px_bin (od_add hr) (px_bin (od_add hr) (px_slice (px_rd (pv 2)) pox_none (pox_some (px_rd (pv 5)))) (PX.rd (px_ix hr (px_rd (pv 1)) (px_rd (pv 6)) (fun _ _ => rfl)))) (px_slice (px_rd (pv 2)) (pox_some (px_bin (od_add hr) (px_rd (pv 5)) px_int)) pox_none)) pax_nil))) (le_of rfl))
 (pssx_cons (PSx.less (Γ2 := []) (psx_set (i := 8) nd rfl (.inl rfl) (px_callF C__law_fit (hr.mono (by decide)) rfl tk (pax_cons (px_bin (od_add hr) (px_rd (pv 2)) (PX.rd (px_ix hr (px_rd (pv 1)) (px_bin od_mod (px_bin od_div (px_rd (pv 3)) px_int) px_int) (fun _ _ => rfl)))) pax_nil))) (le_of rfl))
 (pssx_one (psx_retO (px_lst (pax_cons (px_fr' (pv 2) rfl) (pax_cons (px_fr' (pv 7) rfl) (pax_cons (px_fr' (pv 8) rfl) pax_nil)))))))))))))))
theorem w__law_product (T : Tx K mg) : FnA P w K mg base 1 "_law_product" ["_law_names_here", "_law_number"] false m__law_product_v2 := by
  have nd : (["_law_names_here", "_law_number", "_law_found", "_law_name", "_law_power"] : List Str).Nodup := by decide +kernel
  have S : FnScope ["_law_names_here", "_law_number", "_law_found", "_law_name", "_law_power"] ["_law_names_here", "_law_number"] (defScope (topS 21)) := ⟨rfl, rfl, rfl, nd, rfl, by decide +kernel, by decide +kernel⟩
  refine fnA_mk (Γ0 := [false, false, false, false, false]) (Γl := []) (Γ' := []) T.f__law_product S (by decide) (no_own rfl) (fun _ _ _ _ _ _ us hl => match us, hl with | [_, _], _ => rfl) fun f cdv A outer s H E Hf hr => ?_
  have tk := takes_of (X := cxD P w K mg base ["_law_names_here", "_law_number", "_law_found", "_law_name", "_law_power"] "_law_product" (topS 21) f cdv A outer s H E) rfl rfl rfl rfl
  have hp := passes_of (X := cxD P w K mg base ["_law_names_here", "_law_number", "_law_found", "_law_name", "_law_power"] "_law_product" (topS 21) f cdv A outer s H E) rfl
  exact (pssx_cons (PSx.less (Γ2 := [false, false, true, false, false]) (psx_setO (i := 2) nd rfl (.inl rfl) (px_lst pax_nil) (by decide)) (le_of rfl))
 (pssx_cons (PSx.pre (psx_for (Γ := [false, false, true, false, false]) (Γ1 := [false, false, true, false, false]) hp rfl (pix_seq (px_fr' (pv 0) rfl)) (fun F1 => (pgx_name (i := 3) nd rfl (.inl rfl))) gN_nx (fun F1 => (PSsx.less (Γ2 := [false, false, true, false, false]) (pssx_cons (PSx.less (Γ2 := [false, false, true, false, false]) (psx_set (i := 4) nd rfl (.inl rfl) (px_ix hr (PX.rd (px_lst (pax_cons px_int (pax_cons px_int (pax_cons px_int (pax_cons px_int (pax_cons px_int (pax_cons px_int (pax_cons px_int (pax_cons px_int (pax_cons px_int (pax_cons px_int pax_nil)))))))))))) (px_bin od_mod (px_rd (pv 1)) px_int) (fun _ _ => rfl))) (le_of rfl))
 (pssx_cons (PSx.less (Γ2 := [false, false, true, false, false]) (psx_set (i := 1) nd rfl (.inl rfl) (px_bin od_div (px_rd (pv 1)) px_int)) (le_of rfl))
 (pssx_one (psx_if (Γ2 := [false, false, true, false, false]) (ptx_cmp (od_gt hr) (px_rd (pv 4)) px_int (nomark _))
 (PSsx.less (Γ2 := [false, false, true, false, false]) (pssx_one (psx_append (pv 2) (px_tup (pax_cons (px_fr' (pv 3) rfl) (pax_cons (px_fr' (pv 4) rfl) pax_nil))) rfl)) (le_of rfl))
 (PSsx.less (Γ2 := [false, false, true, false, false]) pssx_nil (le_of rfl)))))) (le_of rfl)))) (le_of rfl))
 (pssx_one (psx_ret (px_callT ca_tuple rfl T.z_tuple bb_tuple (pbx_cons (px_callB (ca_sorted rfl hr) rfl T.z_sorted bb_sorted (pbx_cons (px_rd (pv 2)) pbx_nil)) pbx_nil))))))
theorem w__law_sum (T : Tx K mg) : FnA P w K mg base 1 "_law_sum" ["_law_pairs"] false m__law_sum := by
  have nd : (["_law_pairs", "_law_totals", "_law_product_here", "_law_number"] : List Str).Nodup := by decide +kernel
  have S : FnScope ["_law_pairs", "_law_totals", "_law_product_here", "_law_number"] ["_law_pairs"] (defScope (topS 22)) := ⟨rfl, rfl, rfl, nd, rfl, by decide +kernel, by decide +kernel⟩
  refine fnA_mk (Γ0 := [false, false, false, false]) (Γl := []) (Γ' := []) T.f__law_sum S (by decide) (no_own rfl) (fun _ _ _ _ _ _ us hl => match us, hl with | [_], _ => rfl) fun f cdv A outer s H E Hf hr => ?_
  have tk := takes_of (X := cxD P w K mg base ["_law_pairs", "_law_totals", "_law_product_here", "_law_number"] "_law_sum" (topS 22) f cdv A outer s H E) rfl rfl rfl rfl
  have hp := passes_of (X := cxD P w K mg base ["_law_pairs", "_law_totals", "_law_product_here", "_law_number"] "_law_sum" (topS 22) f cdv A outer s H E) rfl
  exact (pssx_cons (PSx.less (Γ2 := [false, true, false, false]) (psx_setO (i := 1) nd rfl (.inr rfl) px_dnew (by decide)) (le_of rfl))
 (pssx_cons (PSx.pre (psx_for (Γ := [false, true, false, false]) (Γ1 := [false, true, false, false]) hp rfl (pix_seq (px_fr' (pv 0) rfl)) (fun F1 => (pgx_tup rfl (pgsx_cons (pgx_name (i := 2) nd rfl (.inl rfl)) (pgsx_cons (pgx_name (i := 3) nd rfl (.inl rfl)) pgsx_nil)))) (gT_nx (nxs_cons gN_nx (nxs_cons gN_nx nxs_nil))) (fun F1 => (PSsx.less (Γ2 := [false, true, false, false]) (pssx_one (psx_put hr (pv 1) (px_bin (od_add hr) (PX.rd (px_get2 hr (px_rd (pv 1)) (px_rd (pv 2)) px_int ⟨rfl, rfl, rfl, rfl⟩)) (px_rd (pv 3))) (px_rd (pv 2)) rfl)) (le_of rfl)))) (le_of rfl))
 (pssx_one (psx_ret (px_callT ca_tuple rfl T.z_tuple bb_tuple (pbx_cons (PX.rd (px_lc (own := [("_law_product_here", 2)]) (Γ2 := [false, true, false, false]) rfl nd (pix_seq (px_callB (ca_sorted rfl hr) rfl T.z_sorted bb_sorted (pbx_cons (px_rd (pv 1)) pbx_nil))) (le_of rfl) (by decide) (blkOk_by (N := ["_law_pairs", "_law_totals", "_law_product_here", "_law_number"]) (sc := defScope (topS 22)) (own := [("_law_product_here", 2)]) (by decide +kernel)) (fun _ _ _ _ _ _ => (pgx_name (i := 2) nd rfl (.inl rfl))) (by decide) (fun _ _ _ _ _ _ => (ptsx_one (ptx_cmp (od_ne hr) (PX.rd (px_ix hr (px_rd (pv 1)) (px_rd (pv 2)) (fun _ _ => rfl))) px_int (nomark _)))) (fun _ _ _ _ _ _ => (px_tup (pax_cons (px_fr' (pv 2) rfl) (pax_cons (px_ix hr (px_rd (pv 1)) (px_rd (pv 2)) (fun _ _ => rfl)) pax_nil)))))) pbx_nil))))))
theorem w__law_value (T : Tx K mg) : FnA P w K mg base 2 "_law_value" ["_law_form_here", "_law_point_here", "_law_root"] false m__law_value_v2 := by
  have C__law_sign := w__law_sign (P := P) (w := w) (base := base) T
  have nd : (["_law_form_here", "_law_point_here", "_law_root", "_law_top", "_law_product_here", "_law_number", "_law_u", "_law_v", "_law_low", "_law_name", "_law_power", "_law_p", "_law_q", "_law_r", "_law_s", "_law_k"] : List Str).Nodup := by decide +kernel
  have S : FnScope ["_law_form_here", "_law_point_here", "_law_root", "_law_top", "_law_product_here", "_law_number", "_law_u", "_law_v", "_law_low", "_law_name", "_law_power", "_law_p", "_law_q", "_law_r", "_law_s", "_law_k"] ["_law_form_here", "_law_point_here", "_law_root"] (defScope (topS 23)) := ⟨rfl, rfl, rfl, nd, rfl, by decide +kernel, by decide +kernel⟩
  refine fnA_mk (Γ0 := []) (Γl := []) (Γ' := []) T.f__law_value S (by decide) (no_own rfl) (fun _ _ _ _ _ _ us hl => match us, hl with | [_, _, _], _ => rfl) fun f cdv A outer s H E Hf hr => ?_
  have tk := takes_of (X := cxD P w K mg base ["_law_form_here", "_law_point_here", "_law_root", "_law_top", "_law_product_here", "_law_number", "_law_u", "_law_v", "_law_low", "_law_name", "_law_power", "_law_p", "_law_q", "_law_r", "_law_s", "_law_k"] "_law_value" (topS 23) f cdv A outer s H E) rfl rfl rfl rfl
  have hp := passes_of (X := cxD P w K mg base ["_law_form_here", "_law_point_here", "_law_root", "_law_top", "_law_product_here", "_law_number", "_law_u", "_law_v", "_law_low", "_law_name", "_law_power", "_law_p", "_law_q", "_law_r", "_law_s", "_law_k"] "_law_value" (topS 23) f cdv A outer s H E) rfl
  exact (pssx_cons (PSx.less (Γ2 := []) (psx_set (i := 3) nd rfl (.inl rfl) (px_tup (pax_cons px_int (pax_cons px_int (pax_cons px_int pax_nil))))) (le_of rfl))
 (pssx_cons (PSx.pre (psx_for (Γ := []) (Γ1 := []) hp rfl (pix_seq (px_fr' (pv 0) rfl)) (fun F1 => (pgx_tup rfl (pgsx_cons (pgx_name (i := 4) nd rfl (.inl rfl)) (pgsx_cons (pgx_name (i := 5) nd rfl (.inl rfl)) pgsx_nil)))) (gT_nx (nxs_cons gN_nx (nxs_cons gN_nx nxs_nil))) (fun F1 => (PSsx.less (Γ2 := []) (pssx_cons (PSx.less (Γ2 := []) (psx_set (i := 6) nd rfl (.inl rfl) (px_fr' (pv 5) rfl)) (le_of rfl))
 (pssx_cons (PSx.less (Γ2 := []) (psx_set (i := 7) nd rfl (.inl rfl) px_int) (le_of rfl))
 (pssx_cons (PSx.less (Γ2 := []) (psx_set (i := 8) nd rfl (.inl rfl) px_int) (le_of rfl))
 (pssx_cons (PSx.pre (psx_for (Γ := []) (Γ1 := []) hp rfl (pix_seq (px_fr' (pv 4) rfl)) (fun F1 => (pgx_tup rfl (pgsx_cons (pgx_name (i := 9) nd rfl (.inl rfl)) (pgsx_cons (pgx_name (i := 10) nd rfl (.inl rfl)) pgsx_nil)))) (gT_nx (nxs_cons gN_nx (nxs_cons gN_nx nxs_nil))) (fun F1 => (PSsx.less (Γ2 := []) (pssx_cons (PSx.less (Γ2 := []) (psx_asg (px_ix hr (px_rd (pv 1)) (px_rd (pv 9)) (fun _ _ => rfl)) (pgx_tup rfl (pgsx_cons (pgx_name (i := 11) nd rfl (.inl rfl)) (pgsx_cons (pgx_name (i := 12) nd rfl (.inl rfl)) (pgsx_cons (pgx_name (i := 13) nd rfl (.inl rfl)) (pgsx_cons (pgx_name (i := 14) nd rfl (.inl rfl)) pgsx_nil))))) (gT_nx (nxs_cons gN_nx (nxs_cons gN_nx (nxs_cons gN_nx (nxs_cons gN_nx nxs_nil)))))) (le_of rfl))
 (pssx_one (PSx.pre (psx_for (Γ := []) (Γ1 := []) hp rfl (pix_range1 rfl T.z_range (pax_cons (px_fr' (pv 10) rfl) pax_nil)) (fun F1 => (pgx_name (i := 15) nd rfl (.inl rfl))) gN_nx (fun F1 => (PSsx.less (Γ2 := []) (pssx_cons (PSx.less (Γ2 := []) (psx_par (i := 6) (j := 7) rfl nd rfl rfl (by decide) rfl rfl (px_bin (od_add hr) (px_bin (od_mul hr) (px_rd (pv 6)) (px_rd (pv 11))) (px_bin (od_mul hr) (px_bin (od_mul hr) (px_rd (pv 7)) (px_rd (pv 12))) (px_rd (pv 2)))) (px_bin (od_add hr) (px_bin (od_mul hr) (px_rd (pv 6)) (px_rd (pv 12))) (px_bin (od_mul hr) (px_rd (pv 7)) (px_rd (pv 11))))) (le_of rfl))
 (pssx_one (PSx.less (Γ2 := []) (psx_set (i := 8) nd rfl (.inl rfl) (px_bin (od_mul hr) (px_rd (pv 8)) (px_rd (pv 14)))) (le_of rfl)))) (le_of rfl)))) (le_of rfl)))) (le_of rfl)))) (le_of rfl))
 (pssx_one (PSx.less (Γ2 := []) (psx_set (i := 3) nd rfl (.inl rfl) (px_tup (pax_cons (px_bin (od_add hr) (px_bin (od_mul hr) (PX.rd (px_ix hr (px_rd (pv 3)) px_int (fun _ _ => rfl))) (px_rd (pv 8))) (px_bin (od_mul hr) (px_rd (pv 6)) (PX.rd (px_ix hr (px_rd (pv 3)) px_int (fun _ _ => rfl))))) (pax_cons (px_bin (od_add hr) (px_bin (od_mul hr) (PX.rd (px_ix hr (px_rd (pv 3)) px_int (fun _ _ => rfl))) (px_rd (pv 8))) (px_bin (od_mul hr) (px_rd (pv 7)) (PX.rd (px_ix hr (px_rd (pv 3)) px_int (fun _ _ => rfl))))) (pax_cons (px_bin (od_mul hr) (PX.rd (px_ix hr (px_rd (pv 3)) px_int (fun _ _ => rfl))) (px_rd (pv 8))) pax_nil))))) (le_of rfl))))))) (le_of rfl)))) (le_of rfl))
 (pssx_one (psx_ret (px_callF C__law_sign (hr.mono (by decide)) rfl tk (pax_cons (px_ix hr (px_rd (pv 3)) px_int (fun _ _ => rfl)) (pax_cons (px_ix hr (px_rd (pv 3)) px_int (fun _ _ => rfl)) (pax_cons (px_fr' (pv 2) rfl) pax_nil))))))))
theorem w__law_point (T : Tx K mg) : FnP P w K mg base 2 "_law_point" ["_law_names_here", "_law_script"] m__law_point_v3 := by
  have C__law_cell := w__law_cell (P := P) (w := w) (base := base) T
  have C__law_signed := w__law_signed (P := P) (w := w) (base := base) T
  have nd : (["_law_names_here", "_law_script", "_law_sizes", "_law_number", "_law_root", "_law_point_here", "_law_k", "_law_size", "_law_p", "_law_q", "_law_s"] : List Str).Nodup := by decide +kernel
  have S : FnScope ["_law_names_here", "_law_script", "_law_sizes", "_law_number", "_law_root", "_law_point_here", "_law_k", "_law_size", "_law_p", "_law_q", "_law_s"] ["_law_names_here", "_law_script"] (defScope (topS 24)) := ⟨rfl, rfl, rfl, nd, rfl, by decide +kernel, by decide +kernel⟩
  refine fnP_mk (Γ0 := [false, false, false, false, false, false, false, false, false, false, false]) (Γl := []) (Γ' := []) T.f__law_point S (by decide) (no_own rfl) (fun _ _ _ _ _ _ us hl => match us, hl with | [_, _], _ => rfl) fun f cdv A outer s H E Hf hr => ?_
  have tk := takes_of (X := cxD P w K mg base ["_law_names_here", "_law_script", "_law_sizes", "_law_number", "_law_root", "_law_point_here", "_law_k", "_law_size", "_law_p", "_law_q", "_law_s"] "_law_point" (topS 24) f cdv A outer s H E) rfl rfl rfl rfl
  have hp := passes_of (X := cxD P w K mg base ["_law_names_here", "_law_script", "_law_sizes", "_law_number", "_law_root", "_law_point_here", "_law_k", "_law_size", "_law_p", "_law_q", "_law_s"] "_law_point" (topS 24) f cdv A outer s H E) rfl
  exact (pssx_cons (PSx.less (Γ2 := [false, false, false, false, false, false, false, false, false, false, false]) (psx_set (i := 2) nd rfl (.inl rfl) (PX.fr (px_lst (pax_cons px_int (pax_cons px_int (pax_cons px_int (pax_cons (px_bin od_pow px_int px_int) pax_nil))))))) (le_of rfl))
 (pssx_cons (PSx.less (Γ2 := [false, false, false, false, false, false, false, false, false, false, false]) (psx_set (i := 3) nd rfl (.inl rfl) (px_callF C__law_cell (hr.mono (by decide)) rfl tk (pax_cons (px_fr' (pv 1) rfl) (pax_cons px_int pax_nil)))) (le_of rfl))
 (pssx_cons (PSx.less (Γ2 := [false, false, false, false, false, false, false, false, false, false, false]) (psx_set (i := 4) nd rfl (.inl rfl) (px_bin od_mod (px_bin od_div (px_rd (pv 3)) px_int) (px_bin (od_add hr) (PX.rd (px_ix hr (px_rd (pv 2)) (px_bin od_mod (px_rd (pv 3)) px_int) (fun _ _ => rfl))) px_int))) (le_of rfl))
 (pssx_cons (psx_if (Γ2 := [false, false, false, false, false, false, false, false, false, false, false]) (ptx_cmp (od_eq hr) (px_bin od_mod (px_bin od_div (px_rd (pv 3)) (px_bin od_pow px_int px_int)) px_int) px_int (nomark _))
 (PSsx.less (Γ2 := [false, false, false, false, false, false, false, false, false, false, false]) (pssx_one (PSx.less (Γ2 := [false, false, false, false, false, false, false, false, false, false, false]) (psx_set (i := 4) nd rfl (.inl rfl) (px_bin (od_mul hr) (px_bin od_mod (px_bin od_div (px_rd (pv 3)) (px_bin od_pow px_int px_int)) px_int) (px_bin od_mod (px_bin od_div (px_rd (pv 3)) (px_bin od_pow px_int px_int)) px_int))) (le_of rfl))) (le_of rfl))
 (PSsx.less (Γ2 := [false, false, false, false, false, false, false, false, false, false, false]) pssx_nil (le_of rfl)))
 (pssx_cons (PSx.less (Γ2 := [false, false, false, false, false, true, false, false, false, false, false]) (psx_setO (i := 5) nd rfl (.inl rfl) px_dnew (by decide)) (le_of rfl))
 (pssx_cons (PSx.pre (psx_for (Γ := [false, false, false, false, false, true, false, false, false, false, false]) (Γ1 := [false, false, false, false, false, true, false, false, false, false, false]) hp rfl (pix_range1 rfl T.z_range (pax_cons (px_callB ca_len rfl T.z_len bb_len (pbx_cons (px_rd (pv 0)) pbx_nil)) pax_nil)) (fun F1 => (pgx_name (i := 6) nd rfl (.inl rfl))) gN_nx (fun F1 => (PSsx.less (Γ2 := [false, false, false, false, false, true, false, false, false, false, false]) (pssx_cons (PSx.less (Γ2 := [false, false, false, false, false, true, false, false, false, false, false]) (psx_set (i := 3) nd rfl (.inl rfl) (px_callF C__law_cell (hr.mono (by decide)) rfl tk (pax_cons (px_fr' (pv 1) rfl) (pax_cons (px_bin (od_add hr) px_int (px_rd (pv 6))) pax_nil)))) (le_of rfl))
 (pssx_cons (PSx.less (Γ2 := [false, false, false, false, false, true, false, false, false, false, false]) (psx_set (i := 7) nd rfl (.inl rfl) (px_ix hr (px_rd (pv 2)) (px_bin od_mod (px_rd (pv 3)) px_int) (fun _ _ => rfl))) (le_of rfl))
 (pssx_cons (PSx.less (Γ2 := [false, false, false, false, false, true, false, false, false, false, false]) (psx_set (i := 8) nd rfl (.inl rfl) (px_callF C__law_signed (hr.mono (by decide)) rfl tk (pax_cons (px_bin od_div (px_rd (pv 3)) px_int) (pax_cons (px_fr' (pv 7) rfl) pax_nil)))) (le_of rfl))
 (pssx_cons (PSx.less (Γ2 := [false, false, false, false, false, true, false, false, false, false, false]) (psx_set (i := 9) nd rfl (.inl rfl) (px_callF C__law_signed (hr.mono (by decide)) rfl tk (pax_cons (px_bin od_div (px_rd (pv 3)) (px_bin od_pow px_int px_int)) (pax_cons (px_fr' (pv 7) rfl) pax_nil)))) (le_of rfl))
 (pssx_cons (PSx.less (Γ2 := [false, false, false, false, false, true, false, false, false, false, false]) (psx_set (i := 10) nd rfl (.inl rfl) (px_bin (od_add hr) px_int (px_bin od_mod (px_bin od_div (px_rd (pv 3)) (px_bin od_pow px_int px_int)) (px_rd (pv 7))))) (le_of rfl))
 (pssx_one (psx_if (Γ2 := [false, false, false, false, false, true, false, false, false, false, false]) (ptx_cmp (od_eq hr) (px_bin od_mod (px_bin od_div (px_rd (pv 3)) px_int) px_int) px_int (nomark _))
 (PSsx.less (Γ2 := [false, false, false, false, false, true, false, false, false, false, false]) (pssx_one (psx_put hr (pv 5) (px_tup (pax_cons (px_fr' (pv 8) rfl) (pax_cons px_int (pax_cons (px_bin od_mod (px_bin od_div (px_rd (pv 3)) (px_bin od_pow px_int px_int)) px_int) (pax_cons (px_fr' (pv 10) rfl) pax_nil))))) (PX.rd (px_ix hr (px_rd (pv 0)) (px_rd (pv 6)) (fun _ _ => rfl))) rfl)) (le_of rfl))
 (PSsx.less (Γ2 := [false, false, false, false, false, true, false, false, false, false, false]) (pssx_one (psx_put hr (pv 5) (px_tup (pax_cons (px_fr' (pv 8) rfl) (pax_cons (px_fr' (pv 9) rfl) (pax_cons (px_fr' (pv 4) rfl) (pax_cons (px_fr' (pv 10) rfl) pax_nil))))) (PX.rd (px_ix hr (px_rd (pv 0)) (px_rd (pv 6)) (fun _ _ => rfl))) rfl)) (le_of rfl))))))))) (le_of rfl)))) (le_of rfl))
 (pssx_one (psx_retPr (pv 5) (px_fr' (pv 4) rfl) rfl))))))))
theorem w__law_multiplied (T : Tx K mg) : FnA P w K mg base 2 "_law_multiplied" ["_law_form_here", "_law_other"] false m__law_multiplied := by
  have C__law_sum := w__law_sum (P := P) (w := w) (base := base) T
  have nd : (["_law_form_here", "_law_other", "_law_pairs", "_law_product_here", "_law_number", "_law_more", "_law_factor", "_law_powers", "_law_name", "_law_power"] : List Str).Nodup := by decide +kernel
  have S : FnScope ["_law_form_here", "_law_other", "_law_pairs", "_law_product_here", "_law_number", "_law_more", "_law_factor", "_law_powers", "_law_name", "_law_power"] ["_law_form_here", "_law_other"] (defScope (topS 25)) := ⟨rfl, rfl, rfl, nd, rfl, by decide +kernel, by decide +kernel⟩
  refine fnA_mk (Γ0 := [false, false, false, false, false, false, false, false, false, false]) (Γl := []) (Γ' := []) T.f__law_multiplied S (by decide) (no_own rfl) (fun _ _ _ _ _ _ us hl => match us, hl with | [_, _], _ => rfl) fun f cdv A outer s H E Hf hr => ?_
  have tk := takes_of (X := cxD P w K mg base ["_law_form_here", "_law_other", "_law_pairs", "_law_product_here", "_law_number", "_law_more", "_law_factor", "_law_powers", "_law_name", "_law_power"] "_law_multiplied" (topS 25) f cdv A outer s H E) rfl rfl rfl rfl
  have hp := passes_of (X := cxD P w K mg base ["_law_form_here", "_law_other", "_law_pairs", "_law_product_here", "_law_number", "_law_more", "_law_factor", "_law_powers", "_law_name", "_law_power"] "_law_multiplied" (topS 25) f cdv A outer s H E) rfl
  exact (pssx_cons (PSx.less (Γ2 := [false, false, true, false, false, false, false, false, false, false]) (psx_setO (i := 2) nd rfl (.inl rfl) (px_lst pax_nil) (by decide)) (le_of rfl))
 (pssx_cons (PSx.pre (psx_for (Γ := [false, false, true, false, false, false, false, false, false, false]) (Γ1 := [false, false, true, false, false, false, false, false, false, false]) hp rfl (pix_seq (px_fr' (pv 0) rfl)) (fun F1 => (pgx_tup rfl (pgsx_cons (pgx_name (i := 3) nd rfl (.inl rfl)) (pgsx_cons (pgx_name (i := 4) nd rfl (.inl rfl)) pgsx_nil)))) (gT_nx (nxs_cons gN_nx (nxs_cons gN_nx nxs_nil))) (fun F1 => (PSsx.less (Γ2 := [false, false, true, false, false, false, false, false, false, false]) (pssx_one (PSx.pre (psx_for (Γ := [false, false, true, false, false, false, false, false, false, false]) (Γ1 := [false, false, true, false, false, false, false, false, false, false]) hp rfl (pix_seq (px_fr' (pv 1) rfl)) (fun F1 => (pgx_tup rfl (pgsx_cons (pgx_name (i := 5) nd rfl (.inl rfl)) (pgsx_cons (pgx_name (i := 6) nd rfl (.inl rfl)) pgsx_nil)))) (gT_nx (nxs_cons gN_nx (nxs_cons gN_nx nxs_nil))) (fun F1 => (PSsx.less (Γ2 := [false, false, true, false, false, false, false, false, false, false]) (pssx_cons (PSx.less (Γ2 := [false, false, true, false, false, false, false, true, false, false]) (psx_setO (i := 7) nd rfl (.inr rfl) (px_callT (ca_dictT rfl) rfl T.z_dict bb_dict (pbx_cons (px_rd (pv 3)) pbx_nil)) (by decide)) (le_of rfl))
 (pssx_cons (PSx.pre (psx_for (Γ := [false, false, true, false, false, false, false, true, false, false]) (Γ1 := [false, false, true, false, false, false, false, true, false, false]) hp rfl (pix_seq (px_fr' (pv 5) rfl)) (fun F1 => (pgx_tup rfl (pgsx_cons (pgx_name (i := 8) nd rfl (.inl rfl)) (pgsx_cons (pgx_name (i := 9) nd rfl (.inl rfl)) pgsx_nil)))) (gT_nx (nxs_cons gN_nx (nxs_cons gN_nx nxs_nil))) (fun F1 => (PSsx.less (Γ2 := [false, false, true, false, false, false, false, true, false, false]) (pssx_one (psx_put hr (pv 7) (px_bin (od_add hr) (PX.rd (px_get2 hr (px_rd (pv 7)) (px_rd (pv 8)) px_int ⟨rfl, rfl, rfl, rfl⟩)) (px_rd (pv 9))) (px_rd (pv 8)) rfl)) (le_of rfl)))) (le_of rfl))
 (pssx_one (psx_append (pv 2) (px_tup (pax_cons (px_callT ca_tuple rfl T.z_tuple bb_tuple (pbx_cons (px_callB (ca_sorted rfl hr) rfl T.z_sorted bb_sorted (pbx_cons (PX.rd (PX.pre (Γ := [false, false, true, false, false, false, false, false, false, false]) (Γ2 := [false, false, true, false, false, false, false, true, false, false]) (px_lcD (i := 7) (own := [("_law_name", 8)]) (Γ2 := [false, false, true, false, false, false, false, false, false, false]) rfl nd (pv 7) rfl (le_of rfl) (by decide) (blkOk_by (N := ["_law_form_here", "_law_other", "_law_pairs", "_law_product_here", "_law_number", "_law_more", "_law_factor", "_law_powers", "_law_name", "_law_power"]) (sc := defScope (topS 25)) (own := [("_law_name", 8)]) (by decide +kernel)) (fun _ _ _ _ _ _ => (pgx_name (i := 8) nd rfl (.inl rfl))) (by decide) (fun _ _ _ _ _ _ => ptsx_nil) (fun _ _ _ _ _ _ => (px_tup (pax_cons (px_fr' (pv 8) rfl) (pax_cons (px_ix hr (px_rd (pv 7)) (px_rd (pv 8)) (fun _ _ => rfl)) pax_nil))))) (le_of rfl))) pbx_nil)) pbx_nil)) (pax_cons (px_bin (od_mul hr) (px_rd (pv 4)) (px_rd (pv 6))) pax_nil))) rfl)))) (le_of rfl)))) (le_of rfl))) (le_of rfl)))) (le_of rfl))
 (pssx_one (psx_ret (px_callF C__law_sum (hr.mono (by decide)) rfl tk (pax_cons (px_fr (pv 2)) pax_nil))))))
theorem w__law_form (T : Tx K mg) : FnA P w K mg base 3 "_law_form" ["_law_script", "_law_names_here", "_law_point_here"] false m__law_form_v8 := by
  have C__law_cell := w__law_cell (P := P) (w := w) (base := base) T
  have C__law_product := w__law_product (P := P) (w := w) (base := base) T
  have C__law_signed := w__law_signed (P := P) (w := w) (base := base) T
  have C__law_sum := w__law_sum (P := P) (w := w) (base := base) T
  have C__law_multiplied := w__law_multiplied (P := P) (w := w) (base := base) T
  have nd : (["_law_script", "_law_names_here", "_law_point_here", "_law_way", "_law_last", "_law_pairs", "_law_k", "_law_number", "_law_form_here", "_law_name", "_law_p", "_law_q", "_law_r", "_law_s", "_law_factor"] : List Str).Nodup := by decide +kernel
  have S : FnScope ["_law_script", "_law_names_here", "_law_point_here", "_law_way", "_law_last", "_law_pairs", "_law_k", "_law_number", "_law_form_here", "_law_name", "_law_p", "_law_q", "_law_r", "_law_s", "_law_factor"] ["_law_script", "_law_names_here", "_law_point_here"] (defScope (topS 26)) := ⟨rfl, rfl, rfl, nd, rfl, by decide +kernel, by decide +kernel⟩
  refine fnA_mk (Γ0 := [false, false, false, false, false, false, false, false, false, false, false, false, false, false, false]) (Γl := []) (Γ' := []) T.f__law_form S (by decide) (no_own rfl) (fun _ _ _ _ _ _ us hl => match us, hl with | [_, _, _], _ => rfl) fun f cdv A outer s H E Hf hr => ?_
  have tk := takes_of (X := cxD P w K mg base ["_law_script", "_law_names_here", "_law_point_here", "_law_way", "_law_last", "_law_pairs", "_law_k", "_law_number", "_law_form_here", "_law_name", "_law_p", "_law_q", "_law_r", "_law_s", "_law_factor"] "_law_form" (topS 26) f cdv A outer s H E) rfl rfl rfl rfl
  have hp := passes_of (X := cxD P w K mg base ["_law_script", "_law_names_here", "_law_point_here", "_law_way", "_law_last", "_law_pairs", "_law_k", "_law_number", "_law_form_here", "_law_name", "_law_p", "_law_q", "_law_r", "_law_s", "_law_factor"] "_law_form" (topS 26) f cdv A outer s H E) rfl
  exact (pssx_cons (PSx.less (Γ2 := [false, false, false, false, false, false, false, false, false, false, false, false, false, false, false]) (psx_set (i := 3) nd rfl (.inl rfl) (px_callF C__law_cell (hr.mono (by decide)) rfl tk (pax_cons (px_fr' (pv 0) rfl) (pax_cons px_int pax_nil)))) (le_of rfl))
 (pssx_cons (PSx.less (Γ2 := [false, false, false, false, false, false, false, false, false, false, false, false, false, false, false]) (psx_set (i := 4) nd rfl (.inl rfl) (px_ix hr (PX.rd (px_lst (pax_cons px_int (pax_cons px_int (pax_cons px_int (pax_cons px_int pax_nil)))))) (px_bin od_mod (px_rd (pv 3)) px_int) (fun _ _ => rfl))) (le_of rfl))
 (pssx_cons (PSx.less (Γ2 := [false, false, false, false, false, true, false, false, false, false, false, false, false, false, false]) (psx_setO (i := 5) nd rfl (.inl rfl) (px_lst pax_nil) (by decide)) (le_of rfl))
 (pssx_cons (PSx.pre (psx_for (Γ := [false, false, false, false, false, true, false, false, false, false, false, false, false, false, false]) (Γ1 := [false, false, false, false, false, true, false, false, false, false, false, false, false, false, false]) hp rfl (pix_range2 rfl T.z_range (pax_cons px_int (pax_cons (px_callB (ca_min2 rfl) rfl T.z_min bb_min (pbx_cons (px_rd (pv 4)) (pbx_cons (px_callB ca_len rfl T.z_len bb_len (pbx_cons (px_rd (pv 0)) pbx_nil)) pbx_nil))) pax_nil))) (fun F1 => (pgx_name (i := 6) nd rfl (.inl rfl))) gN_nx (fun F1 => (PSsx.less (Γ2 := [false, false, false, false, false, true, false, false, false, false, false, false, false, false, false]) (pssx_cons (PSx.less (Γ2 := [false, false, false, false, false, true, false, false, false, false, false, false, false, false, false]) (psx_set (i := 7) nd rfl (.inl rfl) (px_callF C__law_cell (hr.mono (by decide)) rfl tk (pax_cons (px_fr' (pv 0) rfl) (pax_cons (px_fr' (pv 6) rfl) pax_nil)))) (le_of rfl))
 (pssx_one (psx_append (pv 5) (px_tup (pax_cons (px_callF C__law_product (hr.mono (by decide)) rfl tk (pax_cons (px_fr' (pv 1) rfl) (pax_cons (px_bin od_mod (px_rd (pv 7)) px_int) pax_nil))) (pax_cons (px_callF C__law_signed (hr.mono (by decide)) rfl tk (pax_cons (px_bin od_div (px_rd (pv 7)) px_int) (pax_cons (px_bin od_pow px_int px_int) pax_nil))) pax_nil))) rfl))) (le_of rfl)))) (le_of rfl))
 (pssx_cons (PSx.less (Γ2 := [false, false, false, false, false, false, false, false, false, false, false, false, false, false, false]) (psx_set (i := 8) nd rfl (.inl rfl) (px_callF C__law_sum (hr.mono (by decide)) rfl tk (pax_cons (px_fr (pv 5)) pax_nil))) (le_of rfl))
 (pssx_cons (psx_if (Γ2 := [false, false, false, false, false, false, false, false, false, false, false, false, false, false, false]) (ptx_cmp (od_eq hr) (px_bin od_mod (px_rd (pv 3)) px_int) px_int (nomark _))
 (pssx_one (psx_ret (px_fr' (pv 8) rfl)))
 (PSsx.less (Γ2 := [false, false, false, false, false, false, false, false, false, false, false, false, false, false, false]) pssx_nil (le_of rfl)))
 (pssx_cons (PSx.less (Γ2 := [false, false, false, false, false, false, false, false, false, false, false, false, false, false, false]) (psx_set (i := 9) nd rfl (.inl rfl) (px_ix hr (px_rd (pv 1)) (px_bin od_mod (px_bin od_div (px_rd (pv 3)) px_int) px_int) (fun _ _ => rfl))) (le_of rfl))
 (pssx_cons (PSx.less (Γ2 := [false, false, false, false, false, false, false, false, false, false, false, false, false, false, false]) (psx_asg (px_ix hr (px_rd (pv 2)) (px_rd (pv 9)) (fun _ _ => rfl)) (pgx_tup rfl (pgsx_cons (pgx_name (i := 10) nd rfl (.inl rfl)) (pgsx_cons (pgx_name (i := 11) nd rfl (.inl rfl)) (pgsx_cons (pgx_name (i := 12) nd rfl (.inl rfl)) (pgsx_cons (pgx_name (i := 13) nd rfl (.inl rfl)) pgsx_nil))))) (gT_nx (nxs_cons gN_nx (nxs_cons gN_nx (nxs_cons gN_nx (nxs_cons gN_nx nxs_nil)))))) (le_of rfl))
 (pssx_cons (psx_if (Γ2 := [false, false, false, false, false, false, false, false, false, false, false, false, false, false, false]) (ptx_cmp (od_eq hr) (px_bin od_mod (px_rd (pv 3)) px_int) px_int (nomark _))
 (pssx_one (psx_ret (px_callF C__law_multiplied (hr.mono (by decide)) rfl tk (pax_cons (px_fr' (pv 8) rfl) (pax_cons (px_callF C__law_sum (hr.mono (by decide)) rfl tk (pax_cons (PX.fr (px_lst (pax_cons (px_tup (pax_cons (px_tup (pax_cons (px_tup (pax_cons (px_fr' (pv 9) rfl) (pax_cons px_int pax_nil))) pax_nil)) (pax_cons (px_fr' (pv 13) rfl) pax_nil))) (pax_cons (px_tup (pax_cons (px_tup pax_nil) (pax_cons (px_bin od_sub px_int (px_rd (pv 10))) pax_nil))) pax_nil)))) pax_nil)) pax_nil)))))
 (PSsx.less (Γ2 := [false, false, false, false, false, false, false, false, false, false, false, false, false, false, false]) pssx_nil (le_of rfl)))
 (pssx_cons (PSx.less (Γ2 := [false, false, false, false, false, false, false, false, false, false, false, false, false, false, false]) (psx_set (i := 14) nd rfl (.inl rfl) (PX.fr (px_lst (pax_cons (px_tup (pax_cons (px_tup (pax_cons (px_tup (pax_cons (px_fr' (pv 9) rfl) (pax_cons px_int pax_nil))) pax_nil)) (pax_cons (px_bin (od_mul hr) (px_rd (pv 13)) (px_rd (pv 13))) pax_nil))) (pax_cons (px_tup (pax_cons (px_tup (pax_cons (px_tup (pax_cons (px_fr' (pv 9) rfl) (pax_cons px_int pax_nil))) pax_nil)) (pax_cons (px_bin od_sub px_int (px_bin (od_mul hr) (px_bin (od_mul hr) px_int (px_rd (pv 10))) (px_rd (pv 13)))) pax_nil))) (pax_cons (px_tup (pax_cons (px_tup pax_nil) (pax_cons (px_bin od_sub (px_bin (od_mul hr) (px_rd (pv 10)) (px_rd (pv 10))) (px_bin (od_mul hr) (px_bin (od_mul hr) (px_rd (pv 11)) (px_rd (pv 11))) (px_rd (pv 12)))) pax_nil))) pax_nil)))))) (le_of rfl))
 (pssx_cons (PSx.less (Γ2 := [false, false, false, false, false, false, false, false, false, false, false, false, false, false, false]) (psx_set (i := 8) nd rfl (.inl rfl) (px_callF C__law_multiplied (hr.mono (by decide)) rfl tk (pax_cons (px_fr' (pv 8) rfl) (pax_cons (px_callF C__law_sum (hr.mono (by decide)) rfl tk (pax_cons (px_fr' (pv 14) rfl) pax_nil)) pax_nil)))) (le_of rfl))
 (pssx_cons (psx_if (Γ2 := [false, false, false, false, false, false, false, false, false, false, false, false, false, false, false]) (ptx_cmp (od_eq hr) (px_bin od_mod (px_rd (pv 3)) px_int) px_int (nomark _))
 (pssx_one (psx_ret (px_fr' (pv 8) rfl)))
 (PSsx.less (Γ2 := [false, false, false, false, false, false, false, false, false, false, false, false, false, false, false]) pssx_nil (le_of rfl)))
 (pssx_one (psx_ret (px_callF C__law_sum (hr.mono (by decide)) rfl tk (pax_cons (px_bin (od_add hr) (px_callT ca_list rfl T.z_list bb_list (pbx_cons (px_rd (pv 8)) pbx_nil)) (PX.rd (px_lst (pax_cons (px_tup (pax_cons (px_tup pax_nil) (pax_cons (px_bin od_sub (px_bin od_mod (px_bin od_div (px_rd (pv 3)) px_int) px_int) px_int) pax_nil))) pax_nil)))) pax_nil))))))))))))))))
theorem w__law_right (T : Tx K mg) : FnA P w K mg base 4 "_law_right" ["_law_form_here", "_law_point_here", "_law_root"] false m__law_right_v3 := by
  have C_sign_at := w_sign_at (P := P) (w := w) (base := base) T
  have C__law_value := w__law_value (P := P) (w := w) (base := base) T
  have C__law_is_sign := w__law_is_sign (P := P) (w := w) (base := base) T
  have nd : (["_law_form_here", "_law_point_here", "_law_root", "_law_kept", "_law_found"] : List Str).Nodup := by decide +kernel
  have S : FnScope ["_law_form_here", "_law_point_here", "_law_root", "_law_kept", "_law_found"] ["_law_form_here", "_law_point_here", "_law_root"] (defScope (topS 27)) := ⟨rfl, rfl, rfl, nd, rfl, by decide +kernel, by decide +kernel⟩
  refine fnA_mk (Γ0 := []) (Γl := []) (Γ' := []) T.f__law_right S (by decide) (no_own rfl) (fun _ _ _ _ _ _ us hl => match us, hl with | [_, _, _], _ => rfl) fun f cdv A outer s H E Hf hr => ?_
  have tk := takes_of (X := cxD P w K mg base ["_law_form_here", "_law_point_here", "_law_root", "_law_kept", "_law_found"] "_law_right" (topS 27) f cdv A outer s H E) rfl rfl rfl rfl
  have hp := passes_of (X := cxD P w K mg base ["_law_form_here", "_law_point_here", "_law_root", "_law_kept", "_law_found"] "_law_right" (topS 27) f cdv A outer s H E) rfl
  exact (pssx_cons (PSx.less (Γ2 := []) (psx_set (i := 3) nd rfl (.inl rfl) (px_callT ca_dict rfl T.z_dict bb_dict (pbx_cons (px_rd (pv 1)) pbx_nil))) (le_of rfl))
 (pssx_cons (PSx.less (Γ2 := []) (psx_set (i := 4) nd rfl (.inl rfl) (px_callF C_sign_at (hr.mono (by decide)) rfl tk (pax_cons (px_fr' (pv 0) rfl) (pax_cons (px_fr' (pv 1) rfl) pax_nil)))) (le_of rfl))
 (pssx_one (psx_ret (px_and (px_cmp (od_eqC hr) (px_rd (pv 1)) (px_rd (pv 3)) (nomark _)) (px_one (px_callF C__law_is_sign (hr.mono (by decide)) rfl tk (pax_cons (px_fr' (pv 4) rfl) (pax_cons (px_callF C__law_value (hr.mono (by decide)) rfl tk (pax_cons (px_fr' (pv 0) rfl) (pax_cons (px_fr' (pv 3) rfl) (pax_cons (px_fr' (pv 2) rfl) pax_nil)))) pax_nil)))))))))
theorem w_law (T : Tx K mg) : FnA P w K mg base 5 "law" ["_law_script"] false m_law_v39 := by
  have C__law_cell := w__law_cell (P := P) (w := w) (base := base) T
  have C__law_names := w__law_names (P := P) (w := w) (base := base) T
  have C__law_point := w__law_point (P := P) (w := w) (base := base) T
  have C__law_form := w__law_form (P := P) (w := w) (base := base) T
  have C__law_right := w__law_right (P := P) (w := w) (base := base) T
  have C__law_signed := w__law_signed (P := P) (w := w) (base := base) T
  have nd : (["_law_script", "_law_names_here", "_law_point_here", "_law_root", "_law_form_here", "_law_number"] : List Str).Nodup := by decide +kernel
  have S : FnScope ["_law_script", "_law_names_here", "_law_point_here", "_law_root", "_law_form_here", "_law_number"] ["_law_script"] (defScope (topS 28)) := ⟨rfl, rfl, rfl, nd, rfl, by decide +kernel, by decide +kernel⟩
  refine fnA_mk (Γ0 := [false, false, false, false, false, false]) (Γl := []) (Γ' := []) T.f_law S (by decide) (no_own rfl) (fun _ _ _ _ _ _ us hl => match us, hl with | [_], _ => rfl) fun f cdv A outer s H E Hf hr => ?_
  have tk := takes_of (X := cxD P w K mg base ["_law_script", "_law_names_here", "_law_point_here", "_law_root", "_law_form_here", "_law_number"] "law" (topS 28) f cdv A outer s H E) rfl rfl rfl rfl
  have hp := passes_of (X := cxD P w K mg base ["_law_script", "_law_names_here", "_law_point_here", "_law_root", "_law_form_here", "_law_number"] "law" (topS 28) f cdv A outer s H E) rfl
  exact (pssx_cons (PSx.less (Γ2 := [false, false, false, false, false, false]) (psx_set (i := 1) nd rfl (.inl rfl) (PX.fr (px_callO C__law_names (hr.mono (by decide)) rfl tk (pax_cons (px_callF C__law_cell (hr.mono (by decide)) rfl tk (pax_cons (px_fr' (pv 0) rfl) (pax_cons px_int pax_nil))) pax_nil)))) (le_of rfl))
 (pssx_cons (PSx.less (Γ2 := [false, false, true, false, false, false]) (psx_setPr (i := 2) (j := 3) rfl C__law_point (hr.mono (by decide)) rfl tk (pax_cons (px_fr' (pv 1) rfl) (pax_cons (px_fr' (pv 0) rfl) pax_nil)) (by decide) nd rfl rfl (.inl rfl) (.inl rfl) (by decide)) (le_of rfl))
 (pssx_cons (PSx.less (Γ2 := [false, false, true, false, false, false]) (psx_set (i := 4) nd rfl (.inl rfl) (px_callRF C__law_form (hr.mono (by decide)) rfl tk (pbx_cons (px_rd (pv 0)) (pbx_cons (px_rd (pv 1)) (pbx_cons (px_rd (pv 2)) pbx_nil))))) (le_of rfl))
 (pssx_cons (psx_if (Γ2 := [false, false, true, false, false, false]) (ptx_not (ptx_val (PX.rd (px_callRF C__law_right (hr.mono (by decide)) rfl tk (pbx_cons (px_rd (pv 4)) (pbx_cons (px_rd (pv 2)) (pbx_cons (px_rd (pv 3)) pbx_nil)))))))
 (pssx_one (psx_ret px_bl))
 (PSsx.less (Γ2 := [false, false, true, false, false, false]) pssx_nil (le_of rfl)))
 (pssx_cons (PSx.less (Γ2 := [false, false, true, false, false, false]) (psx_set (i := 5) nd rfl (.inl rfl) (px_callF C__law_cell (hr.mono (by decide)) rfl tk (pax_cons (px_fr' (pv 0) rfl) (pax_cons px_int pax_nil)))) (le_of rfl))
 (pssx_cons (psx_put hr (pv 2) (px_tup (pax_cons (px_callF C__law_signed (hr.mono (by decide)) rfl tk (pax_cons (px_bin od_div (px_rd (pv 5)) px_int) (pax_cons px_int pax_nil))) (pax_cons (px_bin od_mod (px_bin od_div (px_rd (pv 5)) px_int) px_int) (pax_cons (px_fr' (pv 3) rfl) (pax_cons (px_bin (od_add hr) px_int (px_bin od_mod (px_bin od_div (px_rd (pv 5)) px_int) px_int)) pax_nil))))) (PX.rd (px_ix hr (px_rd (pv 1)) (px_bin od_mod (px_rd (pv 5)) px_int) (fun _ _ => rfl))) rfl)
 (pssx_cons (psx_put hr (pv 2) (px_tup (pax_cons px_int (pax_cons px_int (pax_cons px_int (pax_cons px_int pax_nil))))) (px_bin (od_mulS hr) px_str px_int) rfl)
 (pssx_one (psx_ret (px_callF C__law_right (hr.mono (by decide)) rfl tk (pax_cons (px_fr' (pv 4) rfl) (pax_cons (px_fr (pv 2)) (pax_cons (px_fr' (pv 3) rfl) pax_nil)))))))))))))
end
theorem all_mk {P : Program} {w : World} {K : PySem.W.Frag} {h : Heap} {mg : Str → Option Value} {fa : Addr} (X : K.In h) (G : h.Ns mainGlobals mg) (hfa : mg "law" = some (.ref fa))
    {f0 : Addr} {od0 an0 : Option Addr} {sl0 : Array (Option Value)} {oc0 kV0 dc0 pm0 cd0 ct0 : Value}
    (a0 : PySem.W.nsIn K mainGlobals "names_of" = some (some (.ref f0))) (l0 : K.lookup f0 = some ⟨oc0, od0, .func (PySem.W.fnOf "names_of" "names_of" (defArgs (topS 4)) (defBody (topS 4)) (defScope (topS 4)) .none kV0 dc0 pm0 an0 cd0 ct0), sl0⟩) (c0 : PySem.W.codeIn K cd0 "names_of" = true) (k0 : PySem.W.keepIn K (.ref f0) = true)
    {f1 : Addr} {od1 an1 : Option Addr} {sl1 : Array (Option Value)} {oc1 kV1 dc1 pm1 cd1 ct1 : Value}
    (a1 : PySem.W.nsIn K mainGlobals "power_of" = some (some (.ref f1))) (l1 : K.lookup f1 = some ⟨oc1, od1, .func (PySem.W.fnOf "power_of" "power_of" (defArgs (topS 5)) (defBody (topS 5)) (defScope (topS 5)) .none kV1 dc1 pm1 an1 cd1 ct1), sl1⟩) (c1 : PySem.W.codeIn K cd1 "power_of" = true) (k1 : PySem.W.keepIn K (.ref f1) = true)
    {f2 : Addr} {od2 an2 : Option Addr} {sl2 : Array (Option Value)} {oc2 kV2 dc2 pm2 cd2 ct2 : Value}
    (a2 : PySem.W.nsIn K mainGlobals "sign_of" = some (some (.ref f2))) (l2 : K.lookup f2 = some ⟨oc2, od2, .func (PySem.W.fnOf "sign_of" "sign_of" (defArgs (topS 7)) (defBody (topS 7)) (defScope (topS 7)) .none kV2 dc2 pm2 an2 cd2 ct2), sl2⟩) (c2 : PySem.W.codeIn K cd2 "sign_of" = true) (k2 : PySem.W.keepIn K (.ref f2) = true)
    {f3 : Addr} {od3 an3 : Option Addr} {sl3 : Array (Option Value)} {oc3 kV3 dc3 pm3 cd3 ct3 : Value}
    (a3 : PySem.W.nsIn K mainGlobals "sign_one" = some (some (.ref f3))) (l3 : K.lookup f3 = some ⟨oc3, od3, .func (PySem.W.fnOf "sign_one" "sign_one" (defArgs (topS 8)) (defBody (topS 8)) (defScope (topS 8)) .none kV3 dc3 pm3 an3 cd3 ct3), sl3⟩) (c3 : PySem.W.codeIn K cd3 "sign_one" = true) (k3 : PySem.W.keepIn K (.ref f3) = true)
    {f4 : Addr} {od4 an4 : Option Addr} {sl4 : Array (Option Value)} {oc4 kV4 dc4 pm4 cd4 ct4 : Value}
    (a4 : PySem.W.nsIn K mainGlobals "root_in" = some (some (.ref f4))) (l4 : K.lookup f4 = some ⟨oc4, od4, .func (PySem.W.fnOf "root_in" "root_in" (defArgs (topS 10)) (defBody (topS 10)) (defScope (topS 10)) .none kV4 dc4 pm4 an4 cd4 ct4), sl4⟩) (c4 : PySem.W.codeIn K cd4 "root_in" = true) (k4 : PySem.W.keepIn K (.ref f4) = true)
    {f5 : Addr} {od5 an5 : Option Addr} {sl5 : Array (Option Value)} {oc5 kV5 dc5 pm5 cd5 ct5 : Value}
    (a5 : PySem.W.nsIn K mainGlobals "tops_of" = some (some (.ref f5))) (l5 : K.lookup f5 = some ⟨oc5, od5, .func (PySem.W.fnOf "tops_of" "tops_of" (defArgs (topS 11)) (defBody (topS 11)) (defScope (topS 11)) .none kV5 dc5 pm5 an5 cd5 ct5), sl5⟩) (c5 : PySem.W.codeIn K cd5 "tops_of" = true) (k5 : PySem.W.keepIn K (.ref f5) = true)
    {f6 : Addr} {od6 an6 : Option Addr} {sl6 : Array (Option Value)} {oc6 kV6 dc6 pm6 cd6 ct6 : Value}
    (a6 : PySem.W.nsIn K mainGlobals "pair_of" = some (some (.ref f6))) (l6 : K.lookup f6 = some ⟨oc6, od6, .func (PySem.W.fnOf "pair_of" "pair_of" (defArgs (topS 12)) (defBody (topS 12)) (defScope (topS 12)) .none kV6 dc6 pm6 an6 cd6 ct6), sl6⟩) (c6 : PySem.W.codeIn K cd6 "pair_of" = true) (k6 : PySem.W.keepIn K (.ref f6) = true)
    {f7 : Addr} {od7 an7 : Option Addr} {sl7 : Array (Option Value)} {oc7 kV7 dc7 pm7 cd7 ct7 : Value}
    (a7 : PySem.W.nsIn K mainGlobals "sign_at" = some (some (.ref f7))) (l7 : K.lookup f7 = some ⟨oc7, od7, .func (PySem.W.fnOf "sign_at" "sign_at" (defArgs (topS 13)) (defBody (topS 13)) (defScope (topS 13)) .none kV7 dc7 pm7 an7 cd7 ct7), sl7⟩) (c7 : PySem.W.codeIn K cd7 "sign_at" = true) (k7 : PySem.W.keepIn K (.ref f7) = true)
    {f8 : Addr} {od8 an8 : Option Addr} {sl8 : Array (Option Value)} {oc8 kV8 dc8 pm8 cd8 ct8 : Value}
    (a8 : PySem.W.nsIn K mainGlobals "_law_cell" = some (some (.ref f8))) (l8 : K.lookup f8 = some ⟨oc8, od8, .func (PySem.W.fnOf "_law_cell" "_law_cell" (defArgs (topS 15)) (defBody (topS 15)) (defScope (topS 15)) .none kV8 dc8 pm8 an8 cd8 ct8), sl8⟩) (c8 : PySem.W.codeIn K cd8 "_law_cell" = true) (k8 : PySem.W.keepIn K (.ref f8) = true)
    {f9 : Addr} {od9 an9 : Option Addr} {sl9 : Array (Option Value)} {oc9 kV9 dc9 pm9 cd9 ct9 : Value}
    (a9 : PySem.W.nsIn K mainGlobals "_law_signed" = some (some (.ref f9))) (l9 : K.lookup f9 = some ⟨oc9, od9, .func (PySem.W.fnOf "_law_signed" "_law_signed" (defArgs (topS 16)) (defBody (topS 16)) (defScope (topS 16)) .none kV9 dc9 pm9 an9 cd9 ct9), sl9⟩) (c9 : PySem.W.codeIn K cd9 "_law_signed" = true) (k9 : PySem.W.keepIn K (.ref f9) = true)
    {f10 : Addr} {od10 an10 : Option Addr} {sl10 : Array (Option Value)} {oc10 kV10 dc10 pm10 cd10 ct10 : Value}
    (a10 : PySem.W.nsIn K mainGlobals "_law_sign" = some (some (.ref f10))) (l10 : K.lookup f10 = some ⟨oc10, od10, .func (PySem.W.fnOf "_law_sign" "_law_sign" (defArgs (topS 17)) (defBody (topS 17)) (defScope (topS 17)) .none kV10 dc10 pm10 an10 cd10 ct10), sl10⟩) (c10 : PySem.W.codeIn K cd10 "_law_sign" = true) (k10 : PySem.W.keepIn K (.ref f10) = true)
    {f11 : Addr} {od11 an11 : Option Addr} {sl11 : Array (Option Value)} {oc11 kV11 dc11 pm11 cd11 ct11 : Value}
    (a11 : PySem.W.nsIn K mainGlobals "_law_is_sign" = some (some (.ref f11))) (l11 : K.lookup f11 = some ⟨oc11, od11, .func (PySem.W.fnOf "_law_is_sign" "_law_is_sign" (defArgs (topS 18)) (defBody (topS 18)) (defScope (topS 18)) .none kV11 dc11 pm11 an11 cd11 ct11), sl11⟩) (c11 : PySem.W.codeIn K cd11 "_law_is_sign" = true) (k11 : PySem.W.keepIn K (.ref f11) = true)
    {f12 : Addr} {od12 an12 : Option Addr} {sl12 : Array (Option Value)} {oc12 kV12 dc12 pm12 cd12 ct12 : Value}
    (a12 : PySem.W.nsIn K mainGlobals "_law_fit" = some (some (.ref f12))) (l12 : K.lookup f12 = some ⟨oc12, od12, .func (PySem.W.fnOf "_law_fit" "_law_fit" (defArgs (topS 19)) (defBody (topS 19)) (defScope (topS 19)) .none kV12 dc12 pm12 an12 cd12 ct12), sl12⟩) (c12 : PySem.W.codeIn K cd12 "_law_fit" = true) (k12 : PySem.W.keepIn K (.ref f12) = true)
    {f13 : Addr} {od13 an13 : Option Addr} {sl13 : Array (Option Value)} {oc13 kV13 dc13 pm13 cd13 ct13 : Value}
    (a13 : PySem.W.nsIn K mainGlobals "_law_names" = some (some (.ref f13))) (l13 : K.lookup f13 = some ⟨oc13, od13, .func (PySem.W.fnOf "_law_names" "_law_names" (defArgs (topS 20)) (defBody (topS 20)) (defScope (topS 20)) .none kV13 dc13 pm13 an13 cd13 ct13), sl13⟩) (c13 : PySem.W.codeIn K cd13 "_law_names" = true) (k13 : PySem.W.keepIn K (.ref f13) = true)
    {f14 : Addr} {od14 an14 : Option Addr} {sl14 : Array (Option Value)} {oc14 kV14 dc14 pm14 cd14 ct14 : Value}
    (a14 : PySem.W.nsIn K mainGlobals "_law_product" = some (some (.ref f14))) (l14 : K.lookup f14 = some ⟨oc14, od14, .func (PySem.W.fnOf "_law_product" "_law_product" (defArgs (topS 21)) (defBody (topS 21)) (defScope (topS 21)) .none kV14 dc14 pm14 an14 cd14 ct14), sl14⟩) (c14 : PySem.W.codeIn K cd14 "_law_product" = true) (k14 : PySem.W.keepIn K (.ref f14) = true)
    {f15 : Addr} {od15 an15 : Option Addr} {sl15 : Array (Option Value)} {oc15 kV15 dc15 pm15 cd15 ct15 : Value}
    (a15 : PySem.W.nsIn K mainGlobals "_law_sum" = some (some (.ref f15))) (l15 : K.lookup f15 = some ⟨oc15, od15, .func (PySem.W.fnOf "_law_sum" "_law_sum" (defArgs (topS 22)) (defBody (topS 22)) (defScope (topS 22)) .none kV15 dc15 pm15 an15 cd15 ct15), sl15⟩) (c15 : PySem.W.codeIn K cd15 "_law_sum" = true) (k15 : PySem.W.keepIn K (.ref f15) = true)
    {f16 : Addr} {od16 an16 : Option Addr} {sl16 : Array (Option Value)} {oc16 kV16 dc16 pm16 cd16 ct16 : Value}
    (a16 : PySem.W.nsIn K mainGlobals "_law_value" = some (some (.ref f16))) (l16 : K.lookup f16 = some ⟨oc16, od16, .func (PySem.W.fnOf "_law_value" "_law_value" (defArgs (topS 23)) (defBody (topS 23)) (defScope (topS 23)) .none kV16 dc16 pm16 an16 cd16 ct16), sl16⟩) (c16 : PySem.W.codeIn K cd16 "_law_value" = true) (k16 : PySem.W.keepIn K (.ref f16) = true)
    {f17 : Addr} {od17 an17 : Option Addr} {sl17 : Array (Option Value)} {oc17 kV17 dc17 pm17 cd17 ct17 : Value}
    (a17 : PySem.W.nsIn K mainGlobals "_law_point" = some (some (.ref f17))) (l17 : K.lookup f17 = some ⟨oc17, od17, .func (PySem.W.fnOf "_law_point" "_law_point" (defArgs (topS 24)) (defBody (topS 24)) (defScope (topS 24)) .none kV17 dc17 pm17 an17 cd17 ct17), sl17⟩) (c17 : PySem.W.codeIn K cd17 "_law_point" = true) (k17 : PySem.W.keepIn K (.ref f17) = true)
    {f18 : Addr} {od18 an18 : Option Addr} {sl18 : Array (Option Value)} {oc18 kV18 dc18 pm18 cd18 ct18 : Value}
    (a18 : PySem.W.nsIn K mainGlobals "_law_multiplied" = some (some (.ref f18))) (l18 : K.lookup f18 = some ⟨oc18, od18, .func (PySem.W.fnOf "_law_multiplied" "_law_multiplied" (defArgs (topS 25)) (defBody (topS 25)) (defScope (topS 25)) .none kV18 dc18 pm18 an18 cd18 ct18), sl18⟩) (c18 : PySem.W.codeIn K cd18 "_law_multiplied" = true) (k18 : PySem.W.keepIn K (.ref f18) = true)
    {f19 : Addr} {od19 an19 : Option Addr} {sl19 : Array (Option Value)} {oc19 kV19 dc19 pm19 cd19 ct19 : Value}
    (a19 : PySem.W.nsIn K mainGlobals "_law_form" = some (some (.ref f19))) (l19 : K.lookup f19 = some ⟨oc19, od19, .func (PySem.W.fnOf "_law_form" "_law_form" (defArgs (topS 26)) (defBody (topS 26)) (defScope (topS 26)) .none kV19 dc19 pm19 an19 cd19 ct19), sl19⟩) (c19 : PySem.W.codeIn K cd19 "_law_form" = true) (k19 : PySem.W.keepIn K (.ref f19) = true)
    {f20 : Addr} {od20 an20 : Option Addr} {sl20 : Array (Option Value)} {oc20 kV20 dc20 pm20 cd20 ct20 : Value}
    (a20 : PySem.W.nsIn K mainGlobals "_law_right" = some (some (.ref f20))) (l20 : K.lookup f20 = some ⟨oc20, od20, .func (PySem.W.fnOf "_law_right" "_law_right" (defArgs (topS 27)) (defBody (topS 27)) (defScope (topS 27)) .none kV20 dc20 pm20 an20 cd20 ct20), sl20⟩) (c20 : PySem.W.codeIn K cd20 "_law_right" = true) (k20 : PySem.W.keepIn K (.ref f20) = true)
    {f21 : Addr} {od21 an21 : Option Addr} {sl21 : Array (Option Value)} {oc21 kV21 dc21 pm21 cd21 ct21 : Value}
    (a21 : PySem.W.nsIn K mainGlobals "law" = some (some (.ref f21))) (l21 : K.lookup f21 = some ⟨oc21, od21, .func (PySem.W.fnOf "law" "law" (defArgs (topS 28)) (defBody (topS 28)) (defScope (topS 28)) .none kV21 dc21 pm21 an21 cd21 ct21), sl21⟩) (c21 : PySem.W.codeIn K cd21 "law" = true) (k21 : PySem.W.keepIn K (.ref f21) = true)
    (z_bool : PySem.W.nsIn K mainGlobals "bool" = some none)
    (z_dict : PySem.W.nsIn K mainGlobals "dict" = some none)
    (z_int : PySem.W.nsIn K mainGlobals "int" = some none)
    (z_isinstance : PySem.W.nsIn K mainGlobals "isinstance" = some none)
    (z_len : PySem.W.nsIn K mainGlobals "len" = some none)
    (z_list : PySem.W.nsIn K mainGlobals "list" = some none)
    (z_max : PySem.W.nsIn K mainGlobals "max" = some none)
    (z_min : PySem.W.nsIn K mainGlobals "min" = some none)
    (z_range : PySem.W.nsIn K mainGlobals "range" = some none)
    (z_sorted : PySem.W.nsIn K mainGlobals "sorted" = some none)
    (z_tuple : PySem.W.nsIn K mainGlobals "tuple" = some none)
    (hL : ∀ ns : List Int, ns.length ≤ 63 → (∀ z ∈ ns, Builtin.Int.intBits z ≤ 1048576) → m_law_v39 [.scr ns] = .ok (.bl true)) :
    ∃ fd : FuncData, (∀ (s : Shared) (v : Value), BindsTo s fd ⟨[v], []⟩ [("_law_script", v)]) ∧ ∀ base : Heap, K.In base → base.Ns mainGlobals mg → FnOk P w K mg base (L2.CX P w) 5 fa fd ["_law_script"] (spLaw K) := by
  have T : Tx K mg := { z_bool := PySem.W.mg_none_of X G z_bool, z_dict := PySem.W.mg_none_of X G z_dict, z_int := PySem.W.mg_none_of X G z_int, z_isinstance := PySem.W.mg_none_of X G z_isinstance, z_len := PySem.W.mg_none_of X G z_len, z_list := PySem.W.mg_none_of X G z_list, z_max := PySem.W.mg_none_of X G z_max, z_min := PySem.W.mg_none_of X G z_min, z_range := PySem.W.mg_none_of X G z_range, z_sorted := PySem.W.mg_none_of X G z_sorted, z_tuple := PySem.W.mg_none_of X G z_tuple, f_names_of := fnT_of X G a0 l0 c0 k0, f_power_of := fnT_of X G a1 l1 c1 k1, f_sign_of := fnT_of X G a2 l2 c2 k2, f_sign_one := fnT_of X G a3 l3 c3 k3, f_root_in := fnT_of X G a4 l4 c4 k4, f_tops_of := fnT_of X G a5 l5 c5 k5, f_pair_of := fnT_of X G a6 l6 c6 k6, f_sign_at := fnT_of X G a7 l7 c7 k7, f__law_cell := fnT_of X G a8 l8 c8 k8, f__law_signed := fnT_of X G a9 l9 c9 k9, f__law_sign := fnT_of X G a10 l10 c10 k10, f__law_is_sign := fnT_of X G a11 l11 c11 k11, f__law_fit := fnT_of X G a12 l12 c12 k12, f__law_names := fnT_of X G a13 l13 c13 k13, f__law_product := fnT_of X G a14 l14 c14 k14, f__law_sum := fnT_of X G a15 l15 c15 k15, f__law_value := fnT_of X G a16 l16 c16 k16, f__law_point := fnT_of X G a17 l17 c17 k17, f__law_multiplied := fnT_of X G a18 l18 c18 k18, f__law_form := fnT_of X G a19 l19 c19 k19, f__law_right := fnT_of X G a20 l20 c20 k20, f_law := fnT_of X G a21 l21 c21 k21 }
  exact law_end T.f_law hfa (fun _ _ _ _ _ _ us hl => match us, hl with | [_], _ => rfl) (fun base => w_law T) hL
theorem p2 : dPow (.int 10) (.int 2) = .ok (.int 100) := chk_pos ⟨by decide, by decide, by decide⟩
theorem p3 : dPow (.int 10) (.int 3) = .ok (.int 1000) := chk_pos ⟨by decide, by decide, by decide⟩
theorem p4 : dPow (.int 10) (.int 4) = .ok (.int 10000) := chk_pos ⟨by decide, by decide, by decide⟩
theorem p5 : dPow (.int 10) (.int 5) = .ok (.int 100000) := chk_pos ⟨by decide, by decide, by decide⟩
theorem p6 : dPow (.int 10) (.int 6) = .ok (.int 1000000) := chk_pos ⟨by decide, by decide, by decide⟩
theorem p7 : dPow (.int 10) (.int 7) = .ok (.int 10000000) := chk_pos ⟨by decide, by decide, by decide⟩
theorem p8 : dPow (.int 10) (.int 8) = .ok (.int 100000000) := chk_pos ⟨by decide, by decide, by decide⟩
theorem p9 : dPow (.int 10) (.int 9) = .ok (.int 1000000000) := chk_pos ⟨by decide, by decide, by decide⟩
theorem p10 : dPow (.int 10) (.int 10) = .ok (.int 10000000000) := chk_pos ⟨by decide, by decide, by decide⟩
theorem p11 : dPow (.int 10) (.int 11) = .ok (.int 100000000000) := chk_pos ⟨by decide, by decide, by decide⟩
theorem p12 : dPow (.int 10) (.int 12) = .ok (.int 1000000000000) := chk_pos ⟨by decide, by decide, by decide⟩
theorem p13 : dPow (.int 10) (.int 13) = .ok (.int 10000000000000) := chk_pos ⟨by decide, by decide, by decide⟩
theorem p14 : dPow (.int 10) (.int 14) = .ok (.int 100000000000000) := chk_pos ⟨by decide, by decide, by decide⟩
theorem p15 : dPow (.int 10) (.int 15) = .ok (.int 1000000000000000) := chk_pos ⟨by decide, by decide, by decide⟩
theorem p16 : dPow (.int 10) (.int 16) = .ok (.int 10000000000000000) := chk_pos ⟨by decide, by decide, by decide⟩
theorem p18 : dPow (.int 10) (.int 18) = .ok (.int 1000000000000000000) := chk_pos ⟨by decide, by decide, by decide⟩
theorem p20 : dPow (.int 10) (.int 20) = .ok (.int 100000000000000000000) := chk_pos ⟨by decide, by decide, by decide⟩
theorem p22 : dPow (.int 10) (.int 22) = .ok (.int 10000000000000000000000) := chk_pos ⟨by decide, by decide, by decide⟩
theorem p24 : dPow (.int 10) (.int 24) = .ok (.int 1000000000000000000000000) := chk_pos ⟨by decide, by decide, by decide⟩
theorem p25 : dPow (.int 10) (.int 25) = .ok (.int 10000000000000000000000000) := chk_pos ⟨by decide, by decide, by decide⟩
theorem p26 : dPow (.int 10) (.int 26) = .ok (.int 100000000000000000000000000) := chk_pos ⟨by decide, by decide, by decide⟩
theorem p27 : dPow (.int 10) (.int 27) = .ok (.int 1000000000000000000000000000) := chk_pos ⟨by decide, by decide, by decide⟩
theorem p28 : dPow (.int 10) (.int 28) = .ok (.int 10000000000000000000000000000) := chk_pos ⟨by decide, by decide, by decide⟩
theorem p29 : dPow (.int 10) (.int 29) = .ok (.int 100000000000000000000000000000) := chk_pos ⟨by decide, by decide, by decide⟩
theorem p30 : dPow (.int 10) (.int 30) = .ok (.int 1000000000000000000000000000000) := chk_pos ⟨by decide, by decide, by decide⟩
theorem p35 : dPow (.int 10) (.int 35) = .ok (.int 100000000000000000000000000000000000) := chk_pos ⟨by decide, by decide, by decide⟩
theorem p40 : dPow (.int 10) (.int 40) = .ok (.int 10000000000000000000000000000000000000000) := chk_pos ⟨by decide, by decide, by decide⟩
theorem p60 : dPow (.int 10) (.int 60) = .ok (.int 1000000000000000000000000000000000000000000000000000000000000) := chk_pos ⟨by decide, by decide, by decide⟩
theorem dEq_lit {a b : Str} (ha : PyData.strOk a = true) (hb : PyData.strOk b = true) : dEq (.str a) (.str b) = .ok (.bl (a == b)) := by
  have e : PyData.eqv (.str a) (.str b) = (a == b) := by rw [PyData.eqv]
  have sh : ∀ {l : Str}, PyData.strOk l = true → SeqAt.shaped (.str l) = true := fun {l} h => by
    unfold SeqAt.shaped
    exact Bool.and_eq_true_iff.mpr ⟨h, rfl⟩
  show chk _ (Out.ok (D.bl (PyData.eqv (.str a) (.str b)))) = _
  rw [e]
  exact chk_pos ⟨sh ha, sh hb⟩
theorem dNe_lit {a b : Str} (ha : PyData.strOk a = true) (hb : PyData.strOk b = true) : dNe (.str a) (.str b) = .ok (.bl (!(a == b))) := by
  have e : PyData.eqv (.str a) (.str b) = (a == b) := by rw [PyData.eqv]
  have sh : ∀ {l : Str}, PyData.strOk l = true → SeqAt.shaped (.str l) = true := fun {l} h => by
    unfold SeqAt.shaped
    exact Bool.and_eq_true_iff.mpr ⟨h, rfl⟩
  show chk _ (Out.ok (D.bl (!PyData.eqv (.str a) (.str b)))) = _
  rw [e]
  exact chk_pos ⟨sh ha, sh hb⟩
theorem dIn_lit (a : Str) (l : List Str) : dIn (.str a) (.tup (l.map .str)) = .ok (.bl (l.any fun y => y == a)) := by
  show ((dInL false (.str a) (.tup (l.map .str))).or _) = _
  have : dInL false (.str a) (.tup (l.map .str)) = .ok (.bl (l.any fun y => y == a)) := by
    show chk _ (Out.ok (D.bl (if false = true then _ else _))) = _
    rw [chk_pos ⟨rfl, by simp [List.all_map, flatD]⟩, if_neg Bool.false_ne_true, List.any_map]
    rfl
  rw [this]; rfl
theorem ok_less : PyData.strOk ("less" : Str) = true := by decide +kernel
theorem ok_most : PyData.strOk ("most" : Str) = true := by decide +kernel
theorem ok_equal : PyData.strOk ("equal" : Str) = true := by decide +kernel
theorem ok_unlike : PyData.strOk ("unlike" : Str) = true := by decide +kernel
theorem ok_both : PyData.strOk ("both" : Str) = true := by decide +kernel
theorem ok_either : PyData.strOk ("either" : Str) = true := by decide +kernel
theorem ok_not : PyData.strOk ("not" : Str) = true := by decide +kernel
theorem ok_some : PyData.strOk ("some" : Str) = true := by decide +kernel
theorem ok_all : PyData.strOk ("all" : Str) = true := by decide +kernel
theorem ok_yes : PyData.strOk ("yes" : Str) = true := by decide +kernel
theorem ok_no : PyData.strOk ("no" : Str) = true := by decide +kernel
theorem kw_less_less : dEq (.str "less") (.str "less") = .ok (.bl true) := (dEq_lit ok_less ok_less).trans (congrArg (fun b => Out.ok (D.bl b)) (by decide +kernel))
theorem kn_less_less : dNe (.str "less") (.str "less") = .ok (.bl false) := (dNe_lit ok_less ok_less).trans (congrArg (fun b => Out.ok (D.bl b)) (by decide +kernel))
theorem kw_less_most : dEq (.str "less") (.str "most") = .ok (.bl false) := (dEq_lit ok_less ok_most).trans (congrArg (fun b => Out.ok (D.bl b)) (by decide +kernel))
theorem kn_less_most : dNe (.str "less") (.str "most") = .ok (.bl true) := (dNe_lit ok_less ok_most).trans (congrArg (fun b => Out.ok (D.bl b)) (by decide +kernel))
theorem kw_less_equal : dEq (.str "less") (.str "equal") = .ok (.bl false) := (dEq_lit ok_less ok_equal).trans (congrArg (fun b => Out.ok (D.bl b)) (by decide +kernel))
theorem kn_less_equal : dNe (.str "less") (.str "equal") = .ok (.bl true) := (dNe_lit ok_less ok_equal).trans (congrArg (fun b => Out.ok (D.bl b)) (by decide +kernel))
theorem kw_less_unlike : dEq (.str "less") (.str "unlike") = .ok (.bl false) := (dEq_lit ok_less ok_unlike).trans (congrArg (fun b => Out.ok (D.bl b)) (by decide +kernel))
theorem kn_less_unlike : dNe (.str "less") (.str "unlike") = .ok (.bl true) := (dNe_lit ok_less ok_unlike).trans (congrArg (fun b => Out.ok (D.bl b)) (by decide +kernel))
theorem kw_less_both : dEq (.str "less") (.str "both") = .ok (.bl false) := (dEq_lit ok_less ok_both).trans (congrArg (fun b => Out.ok (D.bl b)) (by decide +kernel))
theorem kn_less_both : dNe (.str "less") (.str "both") = .ok (.bl true) := (dNe_lit ok_less ok_both).trans (congrArg (fun b => Out.ok (D.bl b)) (by decide +kernel))
theorem kw_less_either : dEq (.str "less") (.str "either") = .ok (.bl false) := (dEq_lit ok_less ok_either).trans (congrArg (fun b => Out.ok (D.bl b)) (by decide +kernel))
theorem kn_less_either : dNe (.str "less") (.str "either") = .ok (.bl true) := (dNe_lit ok_less ok_either).trans (congrArg (fun b => Out.ok (D.bl b)) (by decide +kernel))
theorem kw_less_not : dEq (.str "less") (.str "not") = .ok (.bl false) := (dEq_lit ok_less ok_not).trans (congrArg (fun b => Out.ok (D.bl b)) (by decide +kernel))
theorem kn_less_not : dNe (.str "less") (.str "not") = .ok (.bl true) := (dNe_lit ok_less ok_not).trans (congrArg (fun b => Out.ok (D.bl b)) (by decide +kernel))
theorem kw_less_some : dEq (.str "less") (.str "some") = .ok (.bl false) := (dEq_lit ok_less ok_some).trans (congrArg (fun b => Out.ok (D.bl b)) (by decide +kernel))
theorem kn_less_some : dNe (.str "less") (.str "some") = .ok (.bl true) := (dNe_lit ok_less ok_some).trans (congrArg (fun b => Out.ok (D.bl b)) (by decide +kernel))
theorem kw_less_all : dEq (.str "less") (.str "all") = .ok (.bl false) := (dEq_lit ok_less ok_all).trans (congrArg (fun b => Out.ok (D.bl b)) (by decide +kernel))
theorem kn_less_all : dNe (.str "less") (.str "all") = .ok (.bl true) := (dNe_lit ok_less ok_all).trans (congrArg (fun b => Out.ok (D.bl b)) (by decide +kernel))
theorem kw_less_yes : dEq (.str "less") (.str "yes") = .ok (.bl false) := (dEq_lit ok_less ok_yes).trans (congrArg (fun b => Out.ok (D.bl b)) (by decide +kernel))
theorem kn_less_yes : dNe (.str "less") (.str "yes") = .ok (.bl true) := (dNe_lit ok_less ok_yes).trans (congrArg (fun b => Out.ok (D.bl b)) (by decide +kernel))
theorem kw_less_no : dEq (.str "less") (.str "no") = .ok (.bl false) := (dEq_lit ok_less ok_no).trans (congrArg (fun b => Out.ok (D.bl b)) (by decide +kernel))
theorem kn_less_no : dNe (.str "less") (.str "no") = .ok (.bl true) := (dNe_lit ok_less ok_no).trans (congrArg (fun b => Out.ok (D.bl b)) (by decide +kernel))
theorem kw_most_less : dEq (.str "most") (.str "less") = .ok (.bl false) := (dEq_lit ok_most ok_less).trans (congrArg (fun b => Out.ok (D.bl b)) (by decide +kernel))
theorem kn_most_less : dNe (.str "most") (.str "less") = .ok (.bl true) := (dNe_lit ok_most ok_less).trans (congrArg (fun b => Out.ok (D.bl b)) (by decide +kernel))
theorem kw_most_most : dEq (.str "most") (.str "most") = .ok (.bl true) := (dEq_lit ok_most ok_most).trans (congrArg (fun b => Out.ok (D.bl b)) (by decide +kernel))
theorem kn_most_most : dNe (.str "most") (.str "most") = .ok (.bl false) := (dNe_lit ok_most ok_most).trans (congrArg (fun b => Out.ok (D.bl b)) (by decide +kernel))
theorem kw_most_equal : dEq (.str "most") (.str "equal") = .ok (.bl false) := (dEq_lit ok_most ok_equal).trans (congrArg (fun b => Out.ok (D.bl b)) (by decide +kernel))
theorem kn_most_equal : dNe (.str "most") (.str "equal") = .ok (.bl true) := (dNe_lit ok_most ok_equal).trans (congrArg (fun b => Out.ok (D.bl b)) (by decide +kernel))
theorem kw_most_unlike : dEq (.str "most") (.str "unlike") = .ok (.bl false) := (dEq_lit ok_most ok_unlike).trans (congrArg (fun b => Out.ok (D.bl b)) (by decide +kernel))
theorem kn_most_unlike : dNe (.str "most") (.str "unlike") = .ok (.bl true) := (dNe_lit ok_most ok_unlike).trans (congrArg (fun b => Out.ok (D.bl b)) (by decide +kernel))
theorem kw_most_both : dEq (.str "most") (.str "both") = .ok (.bl false) := (dEq_lit ok_most ok_both).trans (congrArg (fun b => Out.ok (D.bl b)) (by decide +kernel))
theorem kn_most_both : dNe (.str "most") (.str "both") = .ok (.bl true) := (dNe_lit ok_most ok_both).trans (congrArg (fun b => Out.ok (D.bl b)) (by decide +kernel))
theorem kw_most_either : dEq (.str "most") (.str "either") = .ok (.bl false) := (dEq_lit ok_most ok_either).trans (congrArg (fun b => Out.ok (D.bl b)) (by decide +kernel))
theorem kn_most_either : dNe (.str "most") (.str "either") = .ok (.bl true) := (dNe_lit ok_most ok_either).trans (congrArg (fun b => Out.ok (D.bl b)) (by decide +kernel))
theorem kw_most_not : dEq (.str "most") (.str "not") = .ok (.bl false) := (dEq_lit ok_most ok_not).trans (congrArg (fun b => Out.ok (D.bl b)) (by decide +kernel))
theorem kn_most_not : dNe (.str "most") (.str "not") = .ok (.bl true) := (dNe_lit ok_most ok_not).trans (congrArg (fun b => Out.ok (D.bl b)) (by decide +kernel))
theorem kw_most_some : dEq (.str "most") (.str "some") = .ok (.bl false) := (dEq_lit ok_most ok_some).trans (congrArg (fun b => Out.ok (D.bl b)) (by decide +kernel))
theorem kn_most_some : dNe (.str "most") (.str "some") = .ok (.bl true) := (dNe_lit ok_most ok_some).trans (congrArg (fun b => Out.ok (D.bl b)) (by decide +kernel))
theorem kw_most_all : dEq (.str "most") (.str "all") = .ok (.bl false) := (dEq_lit ok_most ok_all).trans (congrArg (fun b => Out.ok (D.bl b)) (by decide +kernel))
theorem kn_most_all : dNe (.str "most") (.str "all") = .ok (.bl true) := (dNe_lit ok_most ok_all).trans (congrArg (fun b => Out.ok (D.bl b)) (by decide +kernel))
theorem kw_most_yes : dEq (.str "most") (.str "yes") = .ok (.bl false) := (dEq_lit ok_most ok_yes).trans (congrArg (fun b => Out.ok (D.bl b)) (by decide +kernel))
theorem kn_most_yes : dNe (.str "most") (.str "yes") = .ok (.bl true) := (dNe_lit ok_most ok_yes).trans (congrArg (fun b => Out.ok (D.bl b)) (by decide +kernel))
theorem kw_most_no : dEq (.str "most") (.str "no") = .ok (.bl false) := (dEq_lit ok_most ok_no).trans (congrArg (fun b => Out.ok (D.bl b)) (by decide +kernel))
theorem kn_most_no : dNe (.str "most") (.str "no") = .ok (.bl true) := (dNe_lit ok_most ok_no).trans (congrArg (fun b => Out.ok (D.bl b)) (by decide +kernel))
theorem kw_equal_less : dEq (.str "equal") (.str "less") = .ok (.bl false) := (dEq_lit ok_equal ok_less).trans (congrArg (fun b => Out.ok (D.bl b)) (by decide +kernel))
theorem kn_equal_less : dNe (.str "equal") (.str "less") = .ok (.bl true) := (dNe_lit ok_equal ok_less).trans (congrArg (fun b => Out.ok (D.bl b)) (by decide +kernel))
theorem kw_equal_most : dEq (.str "equal") (.str "most") = .ok (.bl false) := (dEq_lit ok_equal ok_most).trans (congrArg (fun b => Out.ok (D.bl b)) (by decide +kernel))
theorem kn_equal_most : dNe (.str "equal") (.str "most") = .ok (.bl true) := (dNe_lit ok_equal ok_most).trans (congrArg (fun b => Out.ok (D.bl b)) (by decide +kernel))
theorem kw_equal_equal : dEq (.str "equal") (.str "equal") = .ok (.bl true) := (dEq_lit ok_equal ok_equal).trans (congrArg (fun b => Out.ok (D.bl b)) (by decide +kernel))
theorem kn_equal_equal : dNe (.str "equal") (.str "equal") = .ok (.bl false) := (dNe_lit ok_equal ok_equal).trans (congrArg (fun b => Out.ok (D.bl b)) (by decide +kernel))
theorem kw_equal_unlike : dEq (.str "equal") (.str "unlike") = .ok (.bl false) := (dEq_lit ok_equal ok_unlike).trans (congrArg (fun b => Out.ok (D.bl b)) (by decide +kernel))
theorem kn_equal_unlike : dNe (.str "equal") (.str "unlike") = .ok (.bl true) := (dNe_lit ok_equal ok_unlike).trans (congrArg (fun b => Out.ok (D.bl b)) (by decide +kernel))
theorem kw_equal_both : dEq (.str "equal") (.str "both") = .ok (.bl false) := (dEq_lit ok_equal ok_both).trans (congrArg (fun b => Out.ok (D.bl b)) (by decide +kernel))
theorem kn_equal_both : dNe (.str "equal") (.str "both") = .ok (.bl true) := (dNe_lit ok_equal ok_both).trans (congrArg (fun b => Out.ok (D.bl b)) (by decide +kernel))
theorem kw_equal_either : dEq (.str "equal") (.str "either") = .ok (.bl false) := (dEq_lit ok_equal ok_either).trans (congrArg (fun b => Out.ok (D.bl b)) (by decide +kernel))
theorem kn_equal_either : dNe (.str "equal") (.str "either") = .ok (.bl true) := (dNe_lit ok_equal ok_either).trans (congrArg (fun b => Out.ok (D.bl b)) (by decide +kernel))
theorem kw_equal_not : dEq (.str "equal") (.str "not") = .ok (.bl false) := (dEq_lit ok_equal ok_not).trans (congrArg (fun b => Out.ok (D.bl b)) (by decide +kernel))
theorem kn_equal_not : dNe (.str "equal") (.str "not") = .ok (.bl true) := (dNe_lit ok_equal ok_not).trans (congrArg (fun b => Out.ok (D.bl b)) (by decide +kernel))
theorem kw_equal_some : dEq (.str "equal") (.str "some") = .ok (.bl false) := (dEq_lit ok_equal ok_some).trans (congrArg (fun b => Out.ok (D.bl b)) (by decide +kernel))
theorem kn_equal_some : dNe (.str "equal") (.str "some") = .ok (.bl true) := (dNe_lit ok_equal ok_some).trans (congrArg (fun b => Out.ok (D.bl b)) (by decide +kernel))
theorem kw_equal_all : dEq (.str "equal") (.str "all") = .ok (.bl false) := (dEq_lit ok_equal ok_all).trans (congrArg (fun b => Out.ok (D.bl b)) (by decide +kernel))
theorem kn_equal_all : dNe (.str "equal") (.str "all") = .ok (.bl true) := (dNe_lit ok_equal ok_all).trans (congrArg (fun b => Out.ok (D.bl b)) (by decide +kernel))
theorem kw_equal_yes : dEq (.str "equal") (.str "yes") = .ok (.bl false) := (dEq_lit ok_equal ok_yes).trans (congrArg (fun b => Out.ok (D.bl b)) (by decide +kernel))
theorem kn_equal_yes : dNe (.str "equal") (.str "yes") = .ok (.bl true) := (dNe_lit ok_equal ok_yes).trans (congrArg (fun b => Out.ok (D.bl b)) (by decide +kernel))
theorem kw_equal_no : dEq (.str "equal") (.str "no") = .ok (.bl false) := (dEq_lit ok_equal ok_no).trans (congrArg (fun b => Out.ok (D.bl b)) (by decide +kernel))
theorem kn_equal_no : dNe (.str "equal") (.str "no") = .ok (.bl true) := (dNe_lit ok_equal ok_no).trans (congrArg (fun b => Out.ok (D.bl b)) (by decide +kernel))
theorem kw_unlike_less : dEq (.str "unlike") (.str "less") = .ok (.bl false) := (dEq_lit ok_unlike ok_less).trans (congrArg (fun b => Out.ok (D.bl b)) (by decide +kernel))
theorem kn_unlike_less : dNe (.str "unlike") (.str "less") = .ok (.bl true) := (dNe_lit ok_unlike ok_less).trans (congrArg (fun b => Out.ok (D.bl b)) (by decide +kernel))
theorem kw_unlike_most : dEq (.str "unlike") (.str "most") = .ok (.bl false) := (dEq_lit ok_unlike ok_most).trans (congrArg (fun b => Out.ok (D.bl b)) (by decide +kernel))
theorem kn_unlike_most : dNe (.str "unlike") (.str "most") = .ok (.bl true) := (dNe_lit ok_unlike ok_most).trans (congrArg (fun b => Out.ok (D.bl b)) (by decide +kernel))
theorem kw_unlike_equal : dEq (.str "unlike") (.str "equal") = .ok (.bl false) := (dEq_lit ok_unlike ok_equal).trans (congrArg (fun b => Out.ok (D.bl b)) (by decide +kernel))
theorem kn_unlike_equal : dNe (.str "unlike") (.str "equal") = .ok (.bl true) := (dNe_lit ok_unlike ok_equal).trans (congrArg (fun b => Out.ok (D.bl b)) (by decide +kernel))
theorem kw_unlike_unlike : dEq (.str "unlike") (.str "unlike") = .ok (.bl true) := (dEq_lit ok_unlike ok_unlike).trans (congrArg (fun b => Out.ok (D.bl b)) (by decide +kernel))
theorem kn_unlike_unlike : dNe (.str "unlike") (.str "unlike") = .ok (.bl false) := (dNe_lit ok_unlike ok_unlike).trans (congrArg (fun b => Out.ok (D.bl b)) (by decide +kernel))
theorem kw_unlike_both : dEq (.str "unlike") (.str "both") = .ok (.bl false) := (dEq_lit ok_unlike ok_both).trans (congrArg (fun b => Out.ok (D.bl b)) (by decide +kernel))
theorem kn_unlike_both : dNe (.str "unlike") (.str "both") = .ok (.bl true) := (dNe_lit ok_unlike ok_both).trans (congrArg (fun b => Out.ok (D.bl b)) (by decide +kernel))
theorem kw_unlike_either : dEq (.str "unlike") (.str "either") = .ok (.bl false) := (dEq_lit ok_unlike ok_either).trans (congrArg (fun b => Out.ok (D.bl b)) (by decide +kernel))
theorem kn_unlike_either : dNe (.str "unlike") (.str "either") = .ok (.bl true) := (dNe_lit ok_unlike ok_either).trans (congrArg (fun b => Out.ok (D.bl b)) (by decide +kernel))
theorem kw_unlike_not : dEq (.str "unlike") (.str "not") = .ok (.bl false) := (dEq_lit ok_unlike ok_not).trans (congrArg (fun b => Out.ok (D.bl b)) (by decide +kernel))
theorem kn_unlike_not : dNe (.str "unlike") (.str "not") = .ok (.bl true) := (dNe_lit ok_unlike ok_not).trans (congrArg (fun b => Out.ok (D.bl b)) (by decide +kernel))
theorem kw_unlike_some : dEq (.str "unlike") (.str "some") = .ok (.bl false) := (dEq_lit ok_unlike ok_some).trans (congrArg (fun b => Out.ok (D.bl b)) (by decide +kernel))
theorem kn_unlike_some : dNe (.str "unlike") (.str "some") = .ok (.bl true) := (dNe_lit ok_unlike ok_some).trans (congrArg (fun b => Out.ok (D.bl b)) (by decide +kernel))
theorem kw_unlike_all : dEq (.str "unlike") (.str "all") = .ok (.bl false) := (dEq_lit ok_unlike ok_all).trans (congrArg (fun b => Out.ok (D.bl b)) (by decide +kernel))
theorem kn_unlike_all : dNe (.str "unlike") (.str "all") = .ok (.bl true) := (dNe_lit ok_unlike ok_all).trans (congrArg (fun b => Out.ok (D.bl b)) (by decide +kernel))
theorem kw_unlike_yes : dEq (.str "unlike") (.str "yes") = .ok (.bl false) := (dEq_lit ok_unlike ok_yes).trans (congrArg (fun b => Out.ok (D.bl b)) (by decide +kernel))
theorem kn_unlike_yes : dNe (.str "unlike") (.str "yes") = .ok (.bl true) := (dNe_lit ok_unlike ok_yes).trans (congrArg (fun b => Out.ok (D.bl b)) (by decide +kernel))
theorem kw_unlike_no : dEq (.str "unlike") (.str "no") = .ok (.bl false) := (dEq_lit ok_unlike ok_no).trans (congrArg (fun b => Out.ok (D.bl b)) (by decide +kernel))
theorem kn_unlike_no : dNe (.str "unlike") (.str "no") = .ok (.bl true) := (dNe_lit ok_unlike ok_no).trans (congrArg (fun b => Out.ok (D.bl b)) (by decide +kernel))
theorem kw_both_less : dEq (.str "both") (.str "less") = .ok (.bl false) := (dEq_lit ok_both ok_less).trans (congrArg (fun b => Out.ok (D.bl b)) (by decide +kernel))
theorem kn_both_less : dNe (.str "both") (.str "less") = .ok (.bl true) := (dNe_lit ok_both ok_less).trans (congrArg (fun b => Out.ok (D.bl b)) (by decide +kernel))
theorem kw_both_most : dEq (.str "both") (.str "most") = .ok (.bl false) := (dEq_lit ok_both ok_most).trans (congrArg (fun b => Out.ok (D.bl b)) (by decide +kernel))
theorem kn_both_most : dNe (.str "both") (.str "most") = .ok (.bl true) := (dNe_lit ok_both ok_most).trans (congrArg (fun b => Out.ok (D.bl b)) (by decide +kernel))
theorem kw_both_equal : dEq (.str "both") (.str "equal") = .ok (.bl false) := (dEq_lit ok_both ok_equal).trans (congrArg (fun b => Out.ok (D.bl b)) (by decide +kernel))
theorem kn_both_equal : dNe (.str "both") (.str "equal") = .ok (.bl true) := (dNe_lit ok_both ok_equal).trans (congrArg (fun b => Out.ok (D.bl b)) (by decide +kernel))
theorem kw_both_unlike : dEq (.str "both") (.str "unlike") = .ok (.bl false) := (dEq_lit ok_both ok_unlike).trans (congrArg (fun b => Out.ok (D.bl b)) (by decide +kernel))
theorem kn_both_unlike : dNe (.str "both") (.str "unlike") = .ok (.bl true) := (dNe_lit ok_both ok_unlike).trans (congrArg (fun b => Out.ok (D.bl b)) (by decide +kernel))
theorem kw_both_both : dEq (.str "both") (.str "both") = .ok (.bl true) := (dEq_lit ok_both ok_both).trans (congrArg (fun b => Out.ok (D.bl b)) (by decide +kernel))
theorem kn_both_both : dNe (.str "both") (.str "both") = .ok (.bl false) := (dNe_lit ok_both ok_both).trans (congrArg (fun b => Out.ok (D.bl b)) (by decide +kernel))
theorem kw_both_either : dEq (.str "both") (.str "either") = .ok (.bl false) := (dEq_lit ok_both ok_either).trans (congrArg (fun b => Out.ok (D.bl b)) (by decide +kernel))
theorem kn_both_either : dNe (.str "both") (.str "either") = .ok (.bl true) := (dNe_lit ok_both ok_either).trans (congrArg (fun b => Out.ok (D.bl b)) (by decide +kernel))
theorem kw_both_not : dEq (.str "both") (.str "not") = .ok (.bl false) := (dEq_lit ok_both ok_not).trans (congrArg (fun b => Out.ok (D.bl b)) (by decide +kernel))
theorem kn_both_not : dNe (.str "both") (.str "not") = .ok (.bl true) := (dNe_lit ok_both ok_not).trans (congrArg (fun b => Out.ok (D.bl b)) (by decide +kernel))
theorem kw_both_some : dEq (.str "both") (.str "some") = .ok (.bl false) := (dEq_lit ok_both ok_some).trans (congrArg (fun b => Out.ok (D.bl b)) (by decide +kernel))
theorem kn_both_some : dNe (.str "both") (.str "some") = .ok (.bl true) := (dNe_lit ok_both ok_some).trans (congrArg (fun b => Out.ok (D.bl b)) (by decide +kernel))
theorem kw_both_all : dEq (.str "both") (.str "all") = .ok (.bl false) := (dEq_lit ok_both ok_all).trans (congrArg (fun b => Out.ok (D.bl b)) (by decide +kernel))
theorem kn_both_all : dNe (.str "both") (.str "all") = .ok (.bl true) := (dNe_lit ok_both ok_all).trans (congrArg (fun b => Out.ok (D.bl b)) (by decide +kernel))
theorem kw_both_yes : dEq (.str "both") (.str "yes") = .ok (.bl false) := (dEq_lit ok_both ok_yes).trans (congrArg (fun b => Out.ok (D.bl b)) (by decide +kernel))
theorem kn_both_yes : dNe (.str "both") (.str "yes") = .ok (.bl true) := (dNe_lit ok_both ok_yes).trans (congrArg (fun b => Out.ok (D.bl b)) (by decide +kernel))
theorem kw_both_no : dEq (.str "both") (.str "no") = .ok (.bl false) := (dEq_lit ok_both ok_no).trans (congrArg (fun b => Out.ok (D.bl b)) (by decide +kernel))
theorem kn_both_no : dNe (.str "both") (.str "no") = .ok (.bl true) := (dNe_lit ok_both ok_no).trans (congrArg (fun b => Out.ok (D.bl b)) (by decide +kernel))
theorem kw_either_less : dEq (.str "either") (.str "less") = .ok (.bl false) := (dEq_lit ok_either ok_less).trans (congrArg (fun b => Out.ok (D.bl b)) (by decide +kernel))
theorem kn_either_less : dNe (.str "either") (.str "less") = .ok (.bl true) := (dNe_lit ok_either ok_less).trans (congrArg (fun b => Out.ok (D.bl b)) (by decide +kernel))
theorem kw_either_most : dEq (.str "either") (.str "most") = .ok (.bl false) := (dEq_lit ok_either ok_most).trans (congrArg (fun b => Out.ok (D.bl b)) (by decide +kernel))
theorem kn_either_most : dNe (.str "either") (.str "most") = .ok (.bl true) := (dNe_lit ok_either ok_most).trans (congrArg (fun b => Out.ok (D.bl b)) (by decide +kernel))
theorem kw_either_equal : dEq (.str "either") (.str "equal") = .ok (.bl false) := (dEq_lit ok_either ok_equal).trans (congrArg (fun b => Out.ok (D.bl b)) (by decide +kernel))
theorem kn_either_equal : dNe (.str "either") (.str "equal") = .ok (.bl true) := (dNe_lit ok_either ok_equal).trans (congrArg (fun b => Out.ok (D.bl b)) (by decide +kernel))
theorem kw_either_unlike : dEq (.str "either") (.str "unlike") = .ok (.bl false) := (dEq_lit ok_either ok_unlike).trans (congrArg (fun b => Out.ok (D.bl b)) (by decide +kernel))
theorem kn_either_unlike : dNe (.str "either") (.str "unlike") = .ok (.bl true) := (dNe_lit ok_either ok_unlike).trans (congrArg (fun b => Out.ok (D.bl b)) (by decide +kernel))
theorem kw_either_both : dEq (.str "either") (.str "both") = .ok (.bl false) := (dEq_lit ok_either ok_both).trans (congrArg (fun b => Out.ok (D.bl b)) (by decide +kernel))
theorem kn_either_both : dNe (.str "either") (.str "both") = .ok (.bl true) := (dNe_lit ok_either ok_both).trans (congrArg (fun b => Out.ok (D.bl b)) (by decide +kernel))
theorem kw_either_either : dEq (.str "either") (.str "either") = .ok (.bl true) := (dEq_lit ok_either ok_either).trans (congrArg (fun b => Out.ok (D.bl b)) (by decide +kernel))
theorem kn_either_either : dNe (.str "either") (.str "either") = .ok (.bl false) := (dNe_lit ok_either ok_either).trans (congrArg (fun b => Out.ok (D.bl b)) (by decide +kernel))
theorem kw_either_not : dEq (.str "either") (.str "not") = .ok (.bl false) := (dEq_lit ok_either ok_not).trans (congrArg (fun b => Out.ok (D.bl b)) (by decide +kernel))
theorem kn_either_not : dNe (.str "either") (.str "not") = .ok (.bl true) := (dNe_lit ok_either ok_not).trans (congrArg (fun b => Out.ok (D.bl b)) (by decide +kernel))
theorem kw_either_some : dEq (.str "either") (.str "some") = .ok (.bl false) := (dEq_lit ok_either ok_some).trans (congrArg (fun b => Out.ok (D.bl b)) (by decide +kernel))
theorem kn_either_some : dNe (.str "either") (.str "some") = .ok (.bl true) := (dNe_lit ok_either ok_some).trans (congrArg (fun b => Out.ok (D.bl b)) (by decide +kernel))
theorem kw_either_all : dEq (.str "either") (.str "all") = .ok (.bl false) := (dEq_lit ok_either ok_all).trans (congrArg (fun b => Out.ok (D.bl b)) (by decide +kernel))
theorem kn_either_all : dNe (.str "either") (.str "all") = .ok (.bl true) := (dNe_lit ok_either ok_all).trans (congrArg (fun b => Out.ok (D.bl b)) (by decide +kernel))
theorem kw_either_yes : dEq (.str "either") (.str "yes") = .ok (.bl false) := (dEq_lit ok_either ok_yes).trans (congrArg (fun b => Out.ok (D.bl b)) (by decide +kernel))
theorem kn_either_yes : dNe (.str "either") (.str "yes") = .ok (.bl true) := (dNe_lit ok_either ok_yes).trans (congrArg (fun b => Out.ok (D.bl b)) (by decide +kernel))
theorem kw_either_no : dEq (.str "either") (.str "no") = .ok (.bl false) := (dEq_lit ok_either ok_no).trans (congrArg (fun b => Out.ok (D.bl b)) (by decide +kernel))
theorem kn_either_no : dNe (.str "either") (.str "no") = .ok (.bl true) := (dNe_lit ok_either ok_no).trans (congrArg (fun b => Out.ok (D.bl b)) (by decide +kernel))
theorem kw_not_less : dEq (.str "not") (.str "less") = .ok (.bl false) := (dEq_lit ok_not ok_less).trans (congrArg (fun b => Out.ok (D.bl b)) (by decide +kernel))
theorem kn_not_less : dNe (.str "not") (.str "less") = .ok (.bl true) := (dNe_lit ok_not ok_less).trans (congrArg (fun b => Out.ok (D.bl b)) (by decide +kernel))
theorem kw_not_most : dEq (.str "not") (.str "most") = .ok (.bl false) := (dEq_lit ok_not ok_most).trans (congrArg (fun b => Out.ok (D.bl b)) (by decide +kernel))
theorem kn_not_most : dNe (.str "not") (.str "most") = .ok (.bl true) := (dNe_lit ok_not ok_most).trans (congrArg (fun b => Out.ok (D.bl b)) (by decide +kernel))
theorem kw_not_equal : dEq (.str "not") (.str "equal") = .ok (.bl false) := (dEq_lit ok_not ok_equal).trans (congrArg (fun b => Out.ok (D.bl b)) (by decide +kernel))
theorem kn_not_equal : dNe (.str "not") (.str "equal") = .ok (.bl true) := (dNe_lit ok_not ok_equal).trans (congrArg (fun b => Out.ok (D.bl b)) (by decide +kernel))
theorem kw_not_unlike : dEq (.str "not") (.str "unlike") = .ok (.bl false) := (dEq_lit ok_not ok_unlike).trans (congrArg (fun b => Out.ok (D.bl b)) (by decide +kernel))
theorem kn_not_unlike : dNe (.str "not") (.str "unlike") = .ok (.bl true) := (dNe_lit ok_not ok_unlike).trans (congrArg (fun b => Out.ok (D.bl b)) (by decide +kernel))
theorem kw_not_both : dEq (.str "not") (.str "both") = .ok (.bl false) := (dEq_lit ok_not ok_both).trans (congrArg (fun b => Out.ok (D.bl b)) (by decide +kernel))
theorem kn_not_both : dNe (.str "not") (.str "both") = .ok (.bl true) := (dNe_lit ok_not ok_both).trans (congrArg (fun b => Out.ok (D.bl b)) (by decide +kernel))
theorem kw_not_either : dEq (.str "not") (.str "either") = .ok (.bl false) := (dEq_lit ok_not ok_either).trans (congrArg (fun b => Out.ok (D.bl b)) (by decide +kernel))
theorem kn_not_either : dNe (.str "not") (.str "either") = .ok (.bl true) := (dNe_lit ok_not ok_either).trans (congrArg (fun b => Out.ok (D.bl b)) (by decide +kernel))
theorem kw_not_not : dEq (.str "not") (.str "not") = .ok (.bl true) := (dEq_lit ok_not ok_not).trans (congrArg (fun b => Out.ok (D.bl b)) (by decide +kernel))
theorem kn_not_not : dNe (.str "not") (.str "not") = .ok (.bl false) := (dNe_lit ok_not ok_not).trans (congrArg (fun b => Out.ok (D.bl b)) (by decide +kernel))
theorem kw_not_some : dEq (.str "not") (.str "some") = .ok (.bl false) := (dEq_lit ok_not ok_some).trans (congrArg (fun b => Out.ok (D.bl b)) (by decide +kernel))
theorem kn_not_some : dNe (.str "not") (.str "some") = .ok (.bl true) := (dNe_lit ok_not ok_some).trans (congrArg (fun b => Out.ok (D.bl b)) (by decide +kernel))
theorem kw_not_all : dEq (.str "not") (.str "all") = .ok (.bl false) := (dEq_lit ok_not ok_all).trans (congrArg (fun b => Out.ok (D.bl b)) (by decide +kernel))
theorem kn_not_all : dNe (.str "not") (.str "all") = .ok (.bl true) := (dNe_lit ok_not ok_all).trans (congrArg (fun b => Out.ok (D.bl b)) (by decide +kernel))
theorem kw_not_yes : dEq (.str "not") (.str "yes") = .ok (.bl false) := (dEq_lit ok_not ok_yes).trans (congrArg (fun b => Out.ok (D.bl b)) (by decide +kernel))
theorem kn_not_yes : dNe (.str "not") (.str "yes") = .ok (.bl true) := (dNe_lit ok_not ok_yes).trans (congrArg (fun b => Out.ok (D.bl b)) (by decide +kernel))
theorem kw_not_no : dEq (.str "not") (.str "no") = .ok (.bl false) := (dEq_lit ok_not ok_no).trans (congrArg (fun b => Out.ok (D.bl b)) (by decide +kernel))
theorem kn_not_no : dNe (.str "not") (.str "no") = .ok (.bl true) := (dNe_lit ok_not ok_no).trans (congrArg (fun b => Out.ok (D.bl b)) (by decide +kernel))
theorem kw_some_less : dEq (.str "some") (.str "less") = .ok (.bl false) := (dEq_lit ok_some ok_less).trans (congrArg (fun b => Out.ok (D.bl b)) (by decide +kernel))
theorem kn_some_less : dNe (.str "some") (.str "less") = .ok (.bl true) := (dNe_lit ok_some ok_less).trans (congrArg (fun b => Out.ok (D.bl b)) (by decide +kernel))
theorem kw_some_most : dEq (.str "some") (.str "most") = .ok (.bl false) := (dEq_lit ok_some ok_most).trans (congrArg (fun b => Out.ok (D.bl b)) (by decide +kernel))
theorem kn_some_most : dNe (.str "some") (.str "most") = .ok (.bl true) := (dNe_lit ok_some ok_most).trans (congrArg (fun b => Out.ok (D.bl b)) (by decide +kernel))
theorem kw_some_equal : dEq (.str "some") (.str "equal") = .ok (.bl false) := (dEq_lit ok_some ok_equal).trans (congrArg (fun b => Out.ok (D.bl b)) (by decide +kernel))
theorem kn_some_equal : dNe (.str "some") (.str "equal") = .ok (.bl true) := (dNe_lit ok_some ok_equal).trans (congrArg (fun b => Out.ok (D.bl b)) (by decide +kernel))
theorem kw_some_unlike : dEq (.str "some") (.str "unlike") = .ok (.bl false) := (dEq_lit ok_some ok_unlike).trans (congrArg (fun b => Out.ok (D.bl b)) (by decide +kernel))
theorem kn_some_unlike : dNe (.str "some") (.str "unlike") = .ok (.bl true) := (dNe_lit ok_some ok_unlike).trans (congrArg (fun b => Out.ok (D.bl b)) (by decide +kernel))
theorem kw_some_both : dEq (.str "some") (.str "both") = .ok (.bl false) := (dEq_lit ok_some ok_both).trans (congrArg (fun b => Out.ok (D.bl b)) (by decide +kernel))
theorem kn_some_both : dNe (.str "some") (.str "both") = .ok (.bl true) := (dNe_lit ok_some ok_both).trans (congrArg (fun b => Out.ok (D.bl b)) (by decide +kernel))
theorem kw_some_either : dEq (.str "some") (.str "either") = .ok (.bl false) := (dEq_lit ok_some ok_either).trans (congrArg (fun b => Out.ok (D.bl b)) (by decide +kernel))
theorem kn_some_either : dNe (.str "some") (.str "either") = .ok (.bl true) := (dNe_lit ok_some ok_either).trans (congrArg (fun b => Out.ok (D.bl b)) (by decide +kernel))
theorem kw_some_not : dEq (.str "some") (.str "not") = .ok (.bl false) := (dEq_lit ok_some ok_not).trans (congrArg (fun b => Out.ok (D.bl b)) (by decide +kernel))
theorem kn_some_not : dNe (.str "some") (.str "not") = .ok (.bl true) := (dNe_lit ok_some ok_not).trans (congrArg (fun b => Out.ok (D.bl b)) (by decide +kernel))
theorem kw_some_some : dEq (.str "some") (.str "some") = .ok (.bl true) := (dEq_lit ok_some ok_some).trans (congrArg (fun b => Out.ok (D.bl b)) (by decide +kernel))
theorem kn_some_some : dNe (.str "some") (.str "some") = .ok (.bl false) := (dNe_lit ok_some ok_some).trans (congrArg (fun b => Out.ok (D.bl b)) (by decide +kernel))
theorem kw_some_all : dEq (.str "some") (.str "all") = .ok (.bl false) := (dEq_lit ok_some ok_all).trans (congrArg (fun b => Out.ok (D.bl b)) (by decide +kernel))
theorem kn_some_all : dNe (.str "some") (.str "all") = .ok (.bl true) := (dNe_lit ok_some ok_all).trans (congrArg (fun b => Out.ok (D.bl b)) (by decide +kernel))
theorem kw_some_yes : dEq (.str "some") (.str "yes") = .ok (.bl false) := (dEq_lit ok_some ok_yes).trans (congrArg (fun b => Out.ok (D.bl b)) (by decide +kernel))
theorem kn_some_yes : dNe (.str "some") (.str "yes") = .ok (.bl true) := (dNe_lit ok_some ok_yes).trans (congrArg (fun b => Out.ok (D.bl b)) (by decide +kernel))
theorem kw_some_no : dEq (.str "some") (.str "no") = .ok (.bl false) := (dEq_lit ok_some ok_no).trans (congrArg (fun b => Out.ok (D.bl b)) (by decide +kernel))
theorem kn_some_no : dNe (.str "some") (.str "no") = .ok (.bl true) := (dNe_lit ok_some ok_no).trans (congrArg (fun b => Out.ok (D.bl b)) (by decide +kernel))
theorem kw_all_less : dEq (.str "all") (.str "less") = .ok (.bl false) := (dEq_lit ok_all ok_less).trans (congrArg (fun b => Out.ok (D.bl b)) (by decide +kernel))
theorem kn_all_less : dNe (.str "all") (.str "less") = .ok (.bl true) := (dNe_lit ok_all ok_less).trans (congrArg (fun b => Out.ok (D.bl b)) (by decide +kernel))
theorem kw_all_most : dEq (.str "all") (.str "most") = .ok (.bl false) := (dEq_lit ok_all ok_most).trans (congrArg (fun b => Out.ok (D.bl b)) (by decide +kernel))
theorem kn_all_most : dNe (.str "all") (.str "most") = .ok (.bl true) := (dNe_lit ok_all ok_most).trans (congrArg (fun b => Out.ok (D.bl b)) (by decide +kernel))
theorem kw_all_equal : dEq (.str "all") (.str "equal") = .ok (.bl false) := (dEq_lit ok_all ok_equal).trans (congrArg (fun b => Out.ok (D.bl b)) (by decide +kernel))
theorem kn_all_equal : dNe (.str "all") (.str "equal") = .ok (.bl true) := (dNe_lit ok_all ok_equal).trans (congrArg (fun b => Out.ok (D.bl b)) (by decide +kernel))
theorem kw_all_unlike : dEq (.str "all") (.str "unlike") = .ok (.bl false) := (dEq_lit ok_all ok_unlike).trans (congrArg (fun b => Out.ok (D.bl b)) (by decide +kernel))
theorem kn_all_unlike : dNe (.str "all") (.str "unlike") = .ok (.bl true) := (dNe_lit ok_all ok_unlike).trans (congrArg (fun b => Out.ok (D.bl b)) (by decide +kernel))
theorem kw_all_both : dEq (.str "all") (.str "both") = .ok (.bl false) := (dEq_lit ok_all ok_both).trans (congrArg (fun b => Out.ok (D.bl b)) (by decide +kernel))
theorem kn_all_both : dNe (.str "all") (.str "both") = .ok (.bl true) := (dNe_lit ok_all ok_both).trans (congrArg (fun b => Out.ok (D.bl b)) (by decide +kernel))
theorem kw_all_either : dEq (.str "all") (.str "either") = .ok (.bl false) := (dEq_lit ok_all ok_either).trans (congrArg (fun b => Out.ok (D.bl b)) (by decide +kernel))
theorem kn_all_either : dNe (.str "all") (.str "either") = .ok (.bl true) := (dNe_lit ok_all ok_either).trans (congrArg (fun b => Out.ok (D.bl b)) (by decide +kernel))
theorem kw_all_not : dEq (.str "all") (.str "not") = .ok (.bl false) := (dEq_lit ok_all ok_not).trans (congrArg (fun b => Out.ok (D.bl b)) (by decide +kernel))
theorem kn_all_not : dNe (.str "all") (.str "not") = .ok (.bl true) := (dNe_lit ok_all ok_not).trans (congrArg (fun b => Out.ok (D.bl b)) (by decide +kernel))
theorem kw_all_some : dEq (.str "all") (.str "some") = .ok (.bl false) := (dEq_lit ok_all ok_some).trans (congrArg (fun b => Out.ok (D.bl b)) (by decide +kernel))
theorem kn_all_some : dNe (.str "all") (.str "some") = .ok (.bl true) := (dNe_lit ok_all ok_some).trans (congrArg (fun b => Out.ok (D.bl b)) (by decide +kernel))
theorem kw_all_all : dEq (.str "all") (.str "all") = .ok (.bl true) := (dEq_lit ok_all ok_all).trans (congrArg (fun b => Out.ok (D.bl b)) (by decide +kernel))
theorem kn_all_all : dNe (.str "all") (.str "all") = .ok (.bl false) := (dNe_lit ok_all ok_all).trans (congrArg (fun b => Out.ok (D.bl b)) (by decide +kernel))
theorem kw_all_yes : dEq (.str "all") (.str "yes") = .ok (.bl false) := (dEq_lit ok_all ok_yes).trans (congrArg (fun b => Out.ok (D.bl b)) (by decide +kernel))
theorem kn_all_yes : dNe (.str "all") (.str "yes") = .ok (.bl true) := (dNe_lit ok_all ok_yes).trans (congrArg (fun b => Out.ok (D.bl b)) (by decide +kernel))
theorem kw_all_no : dEq (.str "all") (.str "no") = .ok (.bl false) := (dEq_lit ok_all ok_no).trans (congrArg (fun b => Out.ok (D.bl b)) (by decide +kernel))
theorem kn_all_no : dNe (.str "all") (.str "no") = .ok (.bl true) := (dNe_lit ok_all ok_no).trans (congrArg (fun b => Out.ok (D.bl b)) (by decide +kernel))
theorem kw_yes_less : dEq (.str "yes") (.str "less") = .ok (.bl false) := (dEq_lit ok_yes ok_less).trans (congrArg (fun b => Out.ok (D.bl b)) (by decide +kernel))
theorem kn_yes_less : dNe (.str "yes") (.str "less") = .ok (.bl true) := (dNe_lit ok_yes ok_less).trans (congrArg (fun b => Out.ok (D.bl b)) (by decide +kernel))
theorem kw_yes_most : dEq (.str "yes") (.str "most") = .ok (.bl false) := (dEq_lit ok_yes ok_most).trans (congrArg (fun b => Out.ok (D.bl b)) (by decide +kernel))
theorem kn_yes_most : dNe (.str "yes") (.str "most") = .ok (.bl true) := (dNe_lit ok_yes ok_most).trans (congrArg (fun b => Out.ok (D.bl b)) (by decide +kernel))
theorem kw_yes_equal : dEq (.str "yes") (.str "equal") = .ok (.bl false) := (dEq_lit ok_yes ok_equal).trans (congrArg (fun b => Out.ok (D.bl b)) (by decide +kernel))
theorem kn_yes_equal : dNe (.str "yes") (.str "equal") = .ok (.bl true) := (dNe_lit ok_yes ok_equal).trans (congrArg (fun b => Out.ok (D.bl b)) (by decide +kernel))
theorem kw_yes_unlike : dEq (.str "yes") (.str "unlike") = .ok (.bl false) := (dEq_lit ok_yes ok_unlike).trans (congrArg (fun b => Out.ok (D.bl b)) (by decide +kernel))
theorem kn_yes_unlike : dNe (.str "yes") (.str "unlike") = .ok (.bl true) := (dNe_lit ok_yes ok_unlike).trans (congrArg (fun b => Out.ok (D.bl b)) (by decide +kernel))
theorem kw_yes_both : dEq (.str "yes") (.str "both") = .ok (.bl false) := (dEq_lit ok_yes ok_both).trans (congrArg (fun b => Out.ok (D.bl b)) (by decide +kernel))
theorem kn_yes_both : dNe (.str "yes") (.str "both") = .ok (.bl true) := (dNe_lit ok_yes ok_both).trans (congrArg (fun b => Out.ok (D.bl b)) (by decide +kernel))
theorem kw_yes_either : dEq (.str "yes") (.str "either") = .ok (.bl false) := (dEq_lit ok_yes ok_either).trans (congrArg (fun b => Out.ok (D.bl b)) (by decide +kernel))
theorem kn_yes_either : dNe (.str "yes") (.str "either") = .ok (.bl true) := (dNe_lit ok_yes ok_either).trans (congrArg (fun b => Out.ok (D.bl b)) (by decide +kernel))
theorem kw_yes_not : dEq (.str "yes") (.str "not") = .ok (.bl false) := (dEq_lit ok_yes ok_not).trans (congrArg (fun b => Out.ok (D.bl b)) (by decide +kernel))
theorem kn_yes_not : dNe (.str "yes") (.str "not") = .ok (.bl true) := (dNe_lit ok_yes ok_not).trans (congrArg (fun b => Out.ok (D.bl b)) (by decide +kernel))
theorem kw_yes_some : dEq (.str "yes") (.str "some") = .ok (.bl false) := (dEq_lit ok_yes ok_some).trans (congrArg (fun b => Out.ok (D.bl b)) (by decide +kernel))
theorem kn_yes_some : dNe (.str "yes") (.str "some") = .ok (.bl true) := (dNe_lit ok_yes ok_some).trans (congrArg (fun b => Out.ok (D.bl b)) (by decide +kernel))
theorem kw_yes_all : dEq (.str "yes") (.str "all") = .ok (.bl false) := (dEq_lit ok_yes ok_all).trans (congrArg (fun b => Out.ok (D.bl b)) (by decide +kernel))
theorem kn_yes_all : dNe (.str "yes") (.str "all") = .ok (.bl true) := (dNe_lit ok_yes ok_all).trans (congrArg (fun b => Out.ok (D.bl b)) (by decide +kernel))
theorem kw_yes_yes : dEq (.str "yes") (.str "yes") = .ok (.bl true) := (dEq_lit ok_yes ok_yes).trans (congrArg (fun b => Out.ok (D.bl b)) (by decide +kernel))
theorem kn_yes_yes : dNe (.str "yes") (.str "yes") = .ok (.bl false) := (dNe_lit ok_yes ok_yes).trans (congrArg (fun b => Out.ok (D.bl b)) (by decide +kernel))
theorem kw_yes_no : dEq (.str "yes") (.str "no") = .ok (.bl false) := (dEq_lit ok_yes ok_no).trans (congrArg (fun b => Out.ok (D.bl b)) (by decide +kernel))
theorem kn_yes_no : dNe (.str "yes") (.str "no") = .ok (.bl true) := (dNe_lit ok_yes ok_no).trans (congrArg (fun b => Out.ok (D.bl b)) (by decide +kernel))
theorem kw_no_less : dEq (.str "no") (.str "less") = .ok (.bl false) := (dEq_lit ok_no ok_less).trans (congrArg (fun b => Out.ok (D.bl b)) (by decide +kernel))
theorem kn_no_less : dNe (.str "no") (.str "less") = .ok (.bl true) := (dNe_lit ok_no ok_less).trans (congrArg (fun b => Out.ok (D.bl b)) (by decide +kernel))
theorem kw_no_most : dEq (.str "no") (.str "most") = .ok (.bl false) := (dEq_lit ok_no ok_most).trans (congrArg (fun b => Out.ok (D.bl b)) (by decide +kernel))
theorem kn_no_most : dNe (.str "no") (.str "most") = .ok (.bl true) := (dNe_lit ok_no ok_most).trans (congrArg (fun b => Out.ok (D.bl b)) (by decide +kernel))
theorem kw_no_equal : dEq (.str "no") (.str "equal") = .ok (.bl false) := (dEq_lit ok_no ok_equal).trans (congrArg (fun b => Out.ok (D.bl b)) (by decide +kernel))
theorem kn_no_equal : dNe (.str "no") (.str "equal") = .ok (.bl true) := (dNe_lit ok_no ok_equal).trans (congrArg (fun b => Out.ok (D.bl b)) (by decide +kernel))
theorem kw_no_unlike : dEq (.str "no") (.str "unlike") = .ok (.bl false) := (dEq_lit ok_no ok_unlike).trans (congrArg (fun b => Out.ok (D.bl b)) (by decide +kernel))
theorem kn_no_unlike : dNe (.str "no") (.str "unlike") = .ok (.bl true) := (dNe_lit ok_no ok_unlike).trans (congrArg (fun b => Out.ok (D.bl b)) (by decide +kernel))
theorem kw_no_both : dEq (.str "no") (.str "both") = .ok (.bl false) := (dEq_lit ok_no ok_both).trans (congrArg (fun b => Out.ok (D.bl b)) (by decide +kernel))
theorem kn_no_both : dNe (.str "no") (.str "both") = .ok (.bl true) := (dNe_lit ok_no ok_both).trans (congrArg (fun b => Out.ok (D.bl b)) (by decide +kernel))
theorem kw_no_either : dEq (.str "no") (.str "either") = .ok (.bl false) := (dEq_lit ok_no ok_either).trans (congrArg (fun b => Out.ok (D.bl b)) (by decide +kernel))
theorem kn_no_either : dNe (.str "no") (.str "either") = .ok (.bl true) := (dNe_lit ok_no ok_either).trans (congrArg (fun b => Out.ok (D.bl b)) (by decide +kernel))
theorem kw_no_not : dEq (.str "no") (.str "not") = .ok (.bl false) := (dEq_lit ok_no ok_not).trans (congrArg (fun b => Out.ok (D.bl b)) (by decide +kernel))
theorem kn_no_not : dNe (.str "no") (.str "not") = .ok (.bl true) := (dNe_lit ok_no ok_not).trans (congrArg (fun b => Out.ok (D.bl b)) (by decide +kernel))
theorem kw_no_some : dEq (.str "no") (.str "some") = .ok (.bl false) := (dEq_lit ok_no ok_some).trans (congrArg (fun b => Out.ok (D.bl b)) (by decide +kernel))
theorem kn_no_some : dNe (.str "no") (.str "some") = .ok (.bl true) := (dNe_lit ok_no ok_some).trans (congrArg (fun b => Out.ok (D.bl b)) (by decide +kernel))
theorem kw_no_all : dEq (.str "no") (.str "all") = .ok (.bl false) := (dEq_lit ok_no ok_all).trans (congrArg (fun b => Out.ok (D.bl b)) (by decide +kernel))
theorem kn_no_all : dNe (.str "no") (.str "all") = .ok (.bl true) := (dNe_lit ok_no ok_all).trans (congrArg (fun b => Out.ok (D.bl b)) (by decide +kernel))
theorem kw_no_yes : dEq (.str "no") (.str "yes") = .ok (.bl false) := (dEq_lit ok_no ok_yes).trans (congrArg (fun b => Out.ok (D.bl b)) (by decide +kernel))
theorem kn_no_yes : dNe (.str "no") (.str "yes") = .ok (.bl true) := (dNe_lit ok_no ok_yes).trans (congrArg (fun b => Out.ok (D.bl b)) (by decide +kernel))
theorem kw_no_no : dEq (.str "no") (.str "no") = .ok (.bl true) := (dEq_lit ok_no ok_no).trans (congrArg (fun b => Out.ok (D.bl b)) (by decide +kernel))
theorem kn_no_no : dNe (.str "no") (.str "no") = .ok (.bl false) := (dNe_lit ok_no ok_no).trans (congrArg (fun b => Out.ok (D.bl b)) (by decide +kernel))
theorem ki_less : dIn (.str "less") (.tup [.str "less", .str "most", .str "equal", .str "unlike"]) = .ok (.bl true) := (dIn_lit "less" ["less", "most", "equal", "unlike"]).trans (congrArg (fun b => Out.ok (D.bl b)) (by decide +kernel))
theorem ki_most : dIn (.str "most") (.tup [.str "less", .str "most", .str "equal", .str "unlike"]) = .ok (.bl true) := (dIn_lit "most" ["less", "most", "equal", "unlike"]).trans (congrArg (fun b => Out.ok (D.bl b)) (by decide +kernel))
theorem ki_equal : dIn (.str "equal") (.tup [.str "less", .str "most", .str "equal", .str "unlike"]) = .ok (.bl true) := (dIn_lit "equal" ["less", "most", "equal", "unlike"]).trans (congrArg (fun b => Out.ok (D.bl b)) (by decide +kernel))
theorem ki_unlike : dIn (.str "unlike") (.tup [.str "less", .str "most", .str "equal", .str "unlike"]) = .ok (.bl true) := (dIn_lit "unlike" ["less", "most", "equal", "unlike"]).trans (congrArg (fun b => Out.ok (D.bl b)) (by decide +kernel))
theorem ki_both : dIn (.str "both") (.tup [.str "less", .str "most", .str "equal", .str "unlike"]) = .ok (.bl false) := (dIn_lit "both" ["less", "most", "equal", "unlike"]).trans (congrArg (fun b => Out.ok (D.bl b)) (by decide +kernel))
theorem ki_either : dIn (.str "either") (.tup [.str "less", .str "most", .str "equal", .str "unlike"]) = .ok (.bl false) := (dIn_lit "either" ["less", "most", "equal", "unlike"]).trans (congrArg (fun b => Out.ok (D.bl b)) (by decide +kernel))
theorem ki_not : dIn (.str "not") (.tup [.str "less", .str "most", .str "equal", .str "unlike"]) = .ok (.bl false) := (dIn_lit "not" ["less", "most", "equal", "unlike"]).trans (congrArg (fun b => Out.ok (D.bl b)) (by decide +kernel))
theorem ki_some : dIn (.str "some") (.tup [.str "less", .str "most", .str "equal", .str "unlike"]) = .ok (.bl false) := (dIn_lit "some" ["less", "most", "equal", "unlike"]).trans (congrArg (fun b => Out.ok (D.bl b)) (by decide +kernel))
theorem ki_all : dIn (.str "all") (.tup [.str "less", .str "most", .str "equal", .str "unlike"]) = .ok (.bl false) := (dIn_lit "all" ["less", "most", "equal", "unlike"]).trans (congrArg (fun b => Out.ok (D.bl b)) (by decide +kernel))
theorem ki_yes : dIn (.str "yes") (.tup [.str "less", .str "most", .str "equal", .str "unlike"]) = .ok (.bl false) := (dIn_lit "yes" ["less", "most", "equal", "unlike"]).trans (congrArg (fun b => Out.ok (D.bl b)) (by decide +kernel))
theorem ki_no : dIn (.str "no") (.tup [.str "less", .str "most", .str "equal", .str "unlike"]) = .ok (.bl false) := (dIn_lit "no" ["less", "most", "equal", "unlike"]).trans (congrArg (fun b => Out.ok (D.bl b)) (by decide +kernel))
theorem sRaise_ap (f : Env → Out Exn) (ρ : Env) : sRaise f ρ = oS (f ρ) .ex := rfl
theorem eX1_ap (c : Str) (fa : Env → Out (List D)) (ρ : Env) : eX1 c fa ρ = (fa ρ).bind fun ds => match ds with
  | [d] => .ok ⟨c, [("name", d)]⟩
  | _ => .stuck := rfl
theorem eX2_ap (c : Str) (fa : Env → Out (List D)) (ρ : Env) : eX2 c fa ρ = (fa ρ).bind fun ds => match ds with
  | [d, d'] => .ok ⟨c, [("form", d'), ("name", d)]⟩
  | _ => .stuck := rfl
theorem xP_ap (c : Str) (ρ : Env) : xP c ρ = .ok ⟨c, []⟩ := rfl
theorem ySet_ap (i : Nat) (f : Env → Out D) (ρ : Env) : ySet i f ρ = (f ρ).bind fun d => .ok (ρ.set i (some d)) := rfl
theorem yExpr_ap (f : Env → Out D) (ρ : Env) : yExpr f ρ = (f ρ).bind fun _ => .ok ρ := rfl
theorem yIf_ap (t : Env → Out Bool) (a b : Env → Out Env) (ρ : Env) : yIf t a b ρ = (t ρ).bind fun c => if c = true then a ρ else b ρ := rfl
noncomputable def tryO (L : List Str) (hs : List Hd) (fe : Env → SO) (ρ : Env) : Out Env → SO
  | .ok r => fe r
  | .exc x => sHand L hs x ρ
  | .stuck => .stuck
theorem sTry_ap (L : List Str) (fb : Env → Out Env) (hs : List Hd) (fe : Env → SO) (ρ : Env) : sTry L fb hs fe ρ = tryO L hs fe ρ (fb ρ) := by
  unfold sTry tryO
  cases fb ρ <;> rfl
theorem tryO_ok (L : List Str) (hs : List Hd) (fe : Env → SO) (ρ r : Env) : tryO L hs fe ρ (.ok r) = fe r := rfl
theorem tryO_exc (L : List Str) (hs : List Hd) (fe : Env → SO) (ρ : Env) (x : Exn) : tryO L hs fe ρ (.exc x) = sHand L hs x ρ := rfl
theorem hand_nil (L : List Str) (x : Exn) (ρ : Env) : sHand L [] x ρ = .ex x := rfl
theorem gone_nx (i : Nat) (r : Env) : (SO.nx r).gone i = .nx (r.set i none) := rfl
theorem gone_rt (i : Nat) (d : D) : (SO.rt d).gone i = .rt d := rfl
theorem calm_nx (r : Env) : (SO.nx r).calm = .nx r := rfl
theorem calm_rt (d : D) : (SO.rt d).calm = .rt d := rfl
theorem eAt_ap (L : List Str) (f : Str) (fe : Env → Out D) (ρ : Env) : eAt L f fe ρ = (fe ρ).bind fun d => match d with
  | .exn c fs => chk (c ∈ L) (match fs.lookup f with | some d => .ok d | none => .stuck)
  | _ => .stuck := rfl
theorem isN_exn (c : Str) (fs : List (Str × D)) : dIsN false (.exn c fs) .non = .ok (.bl false) := rfl
theorem isN_non : dIsN false .non .non = .ok (.bl true) := rfl
noncomputable def fldD (L fl : List Str) (f : Str) : D → Out D
  | .ins c fs => chk (c ∈ L ∧ f ∈ fl) (match fs.lookup f with
    | some d => .ok d
    | none => .stuck)
  | _ => .stuck
theorem eFld_d (L fl : List Str) (f : Str) (fe : Env → Out D) (ρ : Env) : eFld L fl f fe ρ = (fe ρ).bind (fldD L fl f) := rfl
noncomputable def mthD (m : Str) (tbl : List (List Str × (List D → Out D))) (oa : Out (List D)) : D → Out D
  | .ins c fs => chk (fs.lookup m = none) (match pick tbl c with
    | some F => oa.bind fun ds => F (.ins c fs :: ds)
    | none => .stuck)
  | _ => .stuck
theorem eMth_d (m : Str) (tbl : List (List Str × (List D → Out D))) (fo : Env → Out D) (fa : Env → Out (List D)) (ρ : Env) : eMth m tbl fo fa ρ = (fo ρ).bind fun s => mthD m tbl (fa ρ) s := by
  unfold eMth
  cases fo ρ with
  | ok d => cases d <;> rfl
  | exc _ => rfl
  | stuck => rfl
noncomputable def makD (c : Str) (F : List D → Out D) (ds : List D) : Out D := (F (.ins c [] :: ds)).bind fun d => match d with
  | .tup [.non, .ins c' fs] => .ok (.ins c' fs)
  | _ => .stuck
theorem eMake_d (c : Str) (F : List D → Out D) (fa : Env → Out (List D)) (ρ : Env) : eMake c F fa ρ = (fa ρ).bind (makD c F) := rfl
theorem eMk0_d (c : Str) (ρ : Env) : eMk0 c ρ = .ok (.ins c []) := rfl
local macro_rules | `(tactic| walk_at "pd") => `(tactic| simp only [sSeq_ap, sIf_ap, sSet_ap, sRet_ap, sExpr_ap, sAsg_ap, sFor_ap, sNx_ap, sBk_ap, sCt_ap, sRetN_ap, eC_ap, eV_0, eV_s, e2_ap, e1_ap, aN_ap, aC_ap, eA_ap, tOf_ap, bAnd_ap, bOr_ap, bNot_ap,
  vAnd_ap, vOr_ap, vNot_ap, eIf_ap, gN_ap, gT_ap, fnM_ap, iSeq_ap, sApp_ap, sPar_ap, iRange3_ap, eL_0, eL_s, gT_lst, nox_ok, nox_stuck, eSl_ap, oN_ap, oI_ap, eSlSt_ap, eS2_ap, eLc_ap, bYes_ap, eGet2_ap, sPut_ap, wipeE_nil, wipeE_cons, dSl_lst, dSl_tup, dSl_scr, cList_lst, cList_tup, cTuple_lst, cTuple_tup, iRange1_ap, iRange2_ap, mkTup_0, mkTup_1, mkTup_2, mkTup_3, mkTup_4, mkLst_0, mkLst_1, mkLst_2, mkLst_3, mkLst_4, dAdd_int, dSub_int, dNeg_int, dLt_int, dLe_int, dGt_int, dGe_int, dEq_int, dNe_int, cLen_scr, cLen_lst, cLen_tup, cInt_bl, cInt_int, cMax_int, cMin_int, cAbs_int, cIsi_int, cIsi_int_bool,
  andThen_ite, turn_ite, res_ite, bind_ite, oS_ite, turn_nx, turn_ct, turn_bk, turn_rt, turn_ex, turn_stuck, res_rt, res_nx, res_ex, decide_eq_true_eq,
  oS_ok, oS_exc, oS_stuck, Out.bind_ok, Out.bind_exc, Out.bind_stuck, andThen_nx, andThen_rt, andThen_bk, andThen_ct, andThen_ex, andThen_stuck,
  List.length_cons, List.length_nil, List.map_cons, List.map_nil, List.replicate_succ, List.replicate_zero, List.cons_append, List.nil_append, List.set_cons_zero, List.set_cons_succ, List.zip_cons_cons, List.zip_nil_right, List.foldl_cons, List.foldl_nil,
  Nat.reduceAdd, Nat.reduceSub, Nat.zero_add, if_true, if_false, ite_true, ite_false, Bool.false_eq_true, reduceIte, decide_eq_true_eq, decide_true, decide_false, Bool.not_true, Bool.not_false])
local macro_rules | `(tactic| walk_at "pda") => `(tactic| simp only [*, sSeq_ap, sIf_ap, sSet_ap, sRet_ap, sExpr_ap, sAsg_ap, sFor_ap, sNx_ap, sBk_ap, sCt_ap, sRetN_ap, eC_ap, eV_0, eV_s, e2_ap, e1_ap, aN_ap, aC_ap, eA_ap, tOf_ap, bAnd_ap, bOr_ap, bNot_ap,
  vAnd_ap, vOr_ap, vNot_ap, eIf_ap, gN_ap, gT_ap, fnM_ap, iSeq_ap, sApp_ap, sPar_ap, iRange3_ap, eL_0, eL_s, gT_lst, nox_ok, nox_stuck, eSl_ap, oN_ap, oI_ap, eSlSt_ap, eS2_ap, eLc_ap, bYes_ap, eGet2_ap, sPut_ap, wipeE_nil, wipeE_cons, dSl_lst, dSl_tup, dSl_scr, cList_lst, cList_tup, cTuple_lst, cTuple_tup, iRange1_ap, iRange2_ap, mkTup_0, mkTup_1, mkTup_2, mkTup_3, mkTup_4, mkLst_0, mkLst_1, mkLst_2, mkLst_3, mkLst_4, dAdd_int, dSub_int, dNeg_int, dLt_int, dLe_int, dGt_int, dGe_int, dEq_int, dNe_int, cLen_scr, cLen_lst, cLen_tup, cInt_bl, cInt_int, cMax_int, cMin_int, cAbs_int, cIsi_int, cIsi_int_bool,
  andThen_ite, turn_ite, res_ite, bind_ite, oS_ite, turn_nx, turn_ct, turn_bk, turn_rt, turn_ex, turn_stuck, res_rt, res_nx, res_ex, decide_eq_true_eq,
  oS_ok, oS_exc, oS_stuck, Out.bind_ok, Out.bind_exc, Out.bind_stuck, andThen_nx, andThen_rt, andThen_bk, andThen_ct, andThen_ex, andThen_stuck,
  List.length_cons, List.length_nil, List.map_cons, List.map_nil, List.replicate_succ, List.replicate_zero, List.cons_append, List.nil_append, List.set_cons_zero, List.set_cons_succ, List.zip_cons_cons, List.zip_nil_right, List.foldl_cons, List.foldl_nil,
  Nat.reduceAdd, Nat.reduceSub, Nat.zero_add, if_true, if_false, ite_true, ite_false, Bool.false_eq_true, reduceIte, decide_eq_true_eq, decide_true, decide_false, Bool.not_true, Bool.not_false])
local macro_rules | `(tactic| walk_at "wk") => `(tactic| simp only [chk_bind, oS_chk, chkS_andThen, chkS_turn, chkS_res, chk_nox, cont_chkS, cont_nx, cont_ct, cont_rt, cont_bk, cont_ite, chk_true, chkS_true, mul_chk, div_chk, mod_chk, p2, p3, p4, p5, p6, p7, p8, p9, p10, p11, p12, p13, p14, p15, p16, p18, p20, p22, p24, p25, p26, p27, p28, p29, p30, p35, p40, p60, rng1_chk, rng2_chk, ixt0, ixt1, ixt2, ixt3, ixl0, ixl1, ixl2, ixl3, sForR_ap, sRow_ap, eD_0, eD_s, asL_none, asL_some, sSeq_ap, sIf_ap, sSet_ap, sRet_ap, sExpr_ap, sAsg_ap, sFor_ap, sNx_ap, sBk_ap, sCt_ap, sRetN_ap, eC_ap, eV_0, eV_s, e2_ap, e1_ap, aN_ap, aC_ap, eA_ap, tOf_ap, bAnd_ap, bOr_ap, bNot_ap,
  vAnd_ap, vOr_ap, vNot_ap, eIf_ap, gN_ap, gT_ap, fnM_ap, iSeq_ap, sApp_ap, sPar_ap, iRange3_ap, eL_0, eL_s, gT_lst, nox_ok, nox_stuck, eSl_ap, oN_ap, oI_ap, eSlSt_ap, eS2_ap, eLc_ap, bYes_ap, eGet2_ap, sPut_ap, wipeE_nil, wipeE_cons, dSl_lst, dSl_tup, dSl_scr, cList_lst, cList_tup, cTuple_lst, cTuple_tup, iRange1_ap, iRange2_ap, mkTup_0, mkTup_1, mkTup_2, mkTup_3, mkTup_4, mkLst_0, mkLst_1, mkLst_2, mkLst_3, mkLst_4, dAdd_int, dSub_int, dNeg_int, dLt_int, dLe_int, dGt_int, dGe_int, dEq_int, dNe_int, cLen_scr, cLen_lst, cLen_tup, cInt_bl, cInt_int, cMax_int, cMin_int, cAbs_int, cIsi_int, cIsi_int_bool,
  andThen_ite, turn_ite, res_ite, bind_ite, oS_ite, turn_nx, turn_ct, turn_bk, turn_rt, turn_ex, turn_stuck, res_rt, res_nx, res_ex, decide_eq_true_eq,
  oS_ok, oS_exc, oS_stuck, Out.bind_ok, Out.bind_exc, Out.bind_stuck, andThen_nx, andThen_rt, andThen_bk, andThen_ct, andThen_ex, andThen_stuck,
  List.length_cons, List.length_nil, List.map_cons, List.map_nil, List.replicate_succ, List.replicate_zero, List.cons_append, List.nil_append, List.set_cons_zero, List.set_cons_succ, List.zip_cons_cons, List.zip_nil_right, List.foldl_cons, List.foldl_nil,
  Nat.reduceAdd, Nat.reduceSub, Nat.zero_add, if_true, if_false, ite_true, ite_false, Bool.false_eq_true, reduceIte, decide_eq_true_eq, decide_true, decide_false, Bool.not_true, Bool.not_false])
local macro_rules | `(tactic| walk_at "wka") => `(tactic| simp only [*, chk_bind, oS_chk, chkS_andThen, chkS_turn, chkS_res, chk_nox, cont_chkS, cont_nx, cont_ct, cont_rt, cont_bk, cont_ite, chk_true, chkS_true, mul_chk, div_chk, mod_chk, p2, p3, p4, p5, p6, p7, p8, p9, p10, p11, p12, p13, p14, p15, p16, p18, p20, p22, p24, p25, p26, p27, p28, p29, p30, p35, p40, p60, rng1_chk, rng2_chk, ixt0, ixt1, ixt2, ixt3, ixl0, ixl1, ixl2, ixl3, sForR_ap, sRow_ap, eD_0, eD_s, asL_none, asL_some, sSeq_ap, sIf_ap, sSet_ap, sRet_ap, sExpr_ap, sAsg_ap, sFor_ap, sNx_ap, sBk_ap, sCt_ap, sRetN_ap, eC_ap, eV_0, eV_s, e2_ap, e1_ap, aN_ap, aC_ap, eA_ap, tOf_ap, bAnd_ap, bOr_ap, bNot_ap,
  vAnd_ap, vOr_ap, vNot_ap, eIf_ap, gN_ap, gT_ap, fnM_ap, iSeq_ap, sApp_ap, sPar_ap, iRange3_ap, eL_0, eL_s, gT_lst, nox_ok, nox_stuck, eSl_ap, oN_ap, oI_ap, eSlSt_ap, eS2_ap, eLc_ap, bYes_ap, eGet2_ap, sPut_ap, wipeE_nil, wipeE_cons, dSl_lst, dSl_tup, dSl_scr, cList_lst, cList_tup, cTuple_lst, cTuple_tup, iRange1_ap, iRange2_ap, mkTup_0, mkTup_1, mkTup_2, mkTup_3, mkTup_4, mkLst_0, mkLst_1, mkLst_2, mkLst_3, mkLst_4, dAdd_int, dSub_int, dNeg_int, dLt_int, dLe_int, dGt_int, dGe_int, dEq_int, dNe_int, cLen_scr, cLen_lst, cLen_tup, cInt_bl, cInt_int, cMax_int, cMin_int, cAbs_int, cIsi_int, cIsi_int_bool,
  andThen_ite, turn_ite, res_ite, bind_ite, oS_ite, turn_nx, turn_ct, turn_bk, turn_rt, turn_ex, turn_stuck, res_rt, res_nx, res_ex, decide_eq_true_eq,
  oS_ok, oS_exc, oS_stuck, Out.bind_ok, Out.bind_exc, Out.bind_stuck, andThen_nx, andThen_rt, andThen_bk, andThen_ct, andThen_ex, andThen_stuck,
  List.length_cons, List.length_nil, List.map_cons, List.map_nil, List.replicate_succ, List.replicate_zero, List.cons_append, List.nil_append, List.set_cons_zero, List.set_cons_succ, List.zip_cons_cons, List.zip_nil_right, List.foldl_cons, List.foldl_nil,
  Nat.reduceAdd, Nat.reduceSub, Nat.zero_add, if_true, if_false, ite_true, ite_false, Bool.false_eq_true, reduceIte, decide_eq_true_eq, decide_true, decide_false, Bool.not_true, Bool.not_false])
local macro_rules | `(tactic| walk_at "go") => `(tactic| repeat (first | refine chk_go (by first | assumption | decide | omega | exact cmul_sz (by assumption) (by assumption) (by decide)) ?_ | refine chkS_go (by first | assumption | decide | omega | exact cmul_sz (by assumption) (by assumption) (by decide)) ?_ | walk_at "wka"))
local macro_rules | `(tactic| walk_at "kw") => `(tactic| simp only [kw_less_less, kw_less_most, kw_less_equal, kw_less_unlike, kw_less_both, kw_less_either, kw_less_not, kw_less_some, kw_less_all, kw_less_yes, kw_less_no, kw_most_less, kw_most_most, kw_most_equal, kw_most_unlike, kw_most_both, kw_most_either, kw_most_not, kw_most_some, kw_most_all, kw_most_yes, kw_most_no, kw_equal_less, kw_equal_most, kw_equal_equal, kw_equal_unlike, kw_equal_both, kw_equal_either, kw_equal_not, kw_equal_some, kw_equal_all, kw_equal_yes, kw_equal_no, kw_unlike_less, kw_unlike_most, kw_unlike_equal, kw_unlike_unlike, kw_unlike_both, kw_unlike_either, kw_unlike_not, kw_unlike_some, kw_unlike_all, kw_unlike_yes, kw_unlike_no, kw_both_less, kw_both_most, kw_both_equal, kw_both_unlike, kw_both_both, kw_both_either, kw_both_not, kw_both_some, kw_both_all, kw_both_yes, kw_both_no, kw_either_less, kw_either_most, kw_either_equal, kw_either_unlike, kw_either_both, kw_either_either, kw_either_not, kw_either_some, kw_either_all, kw_either_yes, kw_either_no, kw_not_less, kw_not_most, kw_not_equal, kw_not_unlike, kw_not_both, kw_not_either, kw_not_not, kw_not_some, kw_not_all, kw_not_yes, kw_not_no, kw_some_less, kw_some_most, kw_some_equal, kw_some_unlike, kw_some_both, kw_some_either, kw_some_not, kw_some_some, kw_some_all, kw_some_yes, kw_some_no, kw_all_less, kw_all_most, kw_all_equal, kw_all_unlike, kw_all_both, kw_all_either, kw_all_not, kw_all_some, kw_all_all, kw_all_yes, kw_all_no, kw_yes_less, kw_yes_most, kw_yes_equal, kw_yes_unlike, kw_yes_both, kw_yes_either, kw_yes_not, kw_yes_some, kw_yes_all, kw_yes_yes, kw_yes_no, kw_no_less, kw_no_most, kw_no_equal, kw_no_unlike, kw_no_both, kw_no_either, kw_no_not, kw_no_some, kw_no_all, kw_no_yes, kw_no_no, kn_less_less, kn_less_most, kn_less_equal, kn_less_unlike, kn_less_both, kn_less_either, kn_less_not, kn_less_some, kn_less_all, kn_less_yes, kn_less_no, kn_most_less, kn_most_most, kn_most_equal, kn_most_unlike, kn_most_both, kn_most_either, kn_most_not, kn_most_some, kn_most_all, kn_most_yes, kn_most_no, kn_equal_less, kn_equal_most, kn_equal_equal, kn_equal_unlike, kn_equal_both, kn_equal_either, kn_equal_not, kn_equal_some, kn_equal_all, kn_equal_yes, kn_equal_no, kn_unlike_less, kn_unlike_most, kn_unlike_equal, kn_unlike_unlike, kn_unlike_both, kn_unlike_either, kn_unlike_not, kn_unlike_some, kn_unlike_all, kn_unlike_yes, kn_unlike_no, kn_both_less, kn_both_most, kn_both_equal, kn_both_unlike, kn_both_both, kn_both_either, kn_both_not, kn_both_some, kn_both_all, kn_both_yes, kn_both_no, kn_either_less, kn_either_most, kn_either_equal, kn_either_unlike, kn_either_both, kn_either_either, kn_either_not, kn_either_some, kn_either_all, kn_either_yes, kn_either_no, kn_not_less, kn_not_most, kn_not_equal, kn_not_unlike, kn_not_both, kn_not_either, kn_not_not, kn_not_some, kn_not_all, kn_not_yes, kn_not_no, kn_some_less, kn_some_most, kn_some_equal, kn_some_unlike, kn_some_both, kn_some_either, kn_some_not, kn_some_some, kn_some_all, kn_some_yes, kn_some_no, kn_all_less, kn_all_most, kn_all_equal, kn_all_unlike, kn_all_both, kn_all_either, kn_all_not, kn_all_some, kn_all_all, kn_all_yes, kn_all_no, kn_yes_less, kn_yes_most, kn_yes_equal, kn_yes_unlike, kn_yes_both, kn_yes_either, kn_yes_not, kn_yes_some, kn_yes_all, kn_yes_yes, kn_yes_no, kn_no_less, kn_no_most, kn_no_equal, kn_no_unlike, kn_no_both, kn_no_either, kn_no_not, kn_no_some, kn_no_all, kn_no_yes, kn_no_no, ki_less, ki_most, ki_equal, ki_unlike, ki_both, ki_either, ki_not, ki_some, ki_all, ki_yes, ki_no])
local macro_rules | `(tactic| walk_at "gos") => `(tactic| repeat (first | refine chk_go (by first | with_reducible assumption | decide | omega | exact cmul_sz (by with_reducible assumption) (by with_reducible assumption) (by decide) | assumption) ?_ | refine chkS_go (by first | with_reducible assumption | decide | omega | exact cmul_sz (by with_reducible assumption) (by with_reducible assumption) (by decide) | assumption) ?_ | walk_at "wka" | walk_at "kw" | simp only [sLM_ap, lmExtend_tup, lmExtend_lst, lmInsert_ap, sDPop_ap, eDisp_ap, pC_ap, pN_ap, eSlS2_ap]))
local macro_rules | `(tactic| walk_at "gox") => `(tactic| repeat (first | refine chk_go (by first | with_reducible assumption | decide | omega | exact cmul_sz (by with_reducible assumption) (by with_reducible assumption) (by decide) | assumption) ?_ | refine chkS_go (by first | with_reducible assumption | decide | omega | exact cmul_sz (by with_reducible assumption) (by with_reducible assumption) (by decide) | assumption) ?_ | walk_at "wka" | walk_at "kw" | simp only [*, sLM_ap, lmExtend_tup, lmExtend_lst, lmInsert_ap, sDPop_ap, eDisp_ap, pC_ap, pN_ap, eSlS2_ap, sRaise_ap, eX1_ap, eX2_ap, xP_ap, ySet_ap, yExpr_ap, yIf_ap, sTry_ap, tryO_ok, tryO_exc, hand_nil, gone_nx, gone_rt, calm_nx, calm_rt, eAt_ap, isN_exn, isN_non]))
local macro_rules | `(tactic| walk_at "goi") => `(tactic| repeat (first | refine chk_go (by first | with_reducible assumption | decide | omega | exact cmul_sz (by with_reducible assumption) (by with_reducible assumption) (by decide) | assumption) ?_ | refine chkS_go (by first | with_reducible assumption | decide | omega | exact cmul_sz (by with_reducible assumption) (by with_reducible assumption) (by decide) | assumption) ?_ | walk_at "wka" | walk_at "kw" | simp only [*, eFld_d, eMth_d, eMake_d, eMk0_d, sLM_ap, lmExtend_tup, lmExtend_lst, lmInsert_ap, sDPop_ap, eDisp_ap, pC_ap, pN_ap, eSlS2_ap, sRaise_ap, eX1_ap, eX2_ap, xP_ap, ySet_ap, yExpr_ap, yIf_ap, sTry_ap, tryO_ok, tryO_exc, hand_nil, gone_nx, gone_rt, calm_nx, calm_rt, eAt_ap, isN_exn, isN_non]))
abbrev S (l : List Nat) : Str := ⟨l.toArray⟩
theorem S_list (l : List Nat) : (S l).cps.toList = l := rfl
theorem S_len (l : List Nat) : (S l).length = l.length := by show l.toArray.size = _; simp
theorem S_app (a b : List Nat) : S a ++ S b = S (a ++ b) := by
  show Str.append _ _ = _
  unfold Str.append
  simp
theorem S_inj {a b : List Nat} : S a = S b ↔ a = b := by
  constructor
  · intro h
    have := congrArg (fun s : Str => s.cps.toList) h
    simpa using this
  · intro h; rw [h]
theorem S_beq (a b : List Nat) : (S a == S b) = decide (a = b) := by
  by_cases h : a = b
  · subst h; simp
  · rw [decide_eq_false h]
    exact beq_eq_false_iff_ne.mpr fun z => h (S_inj.mp z)
theorem dAdd_S {a b : List Nat} (h : a.length + b.length ≤ 16777216) : dAdd (.str (S a)) (.str (S b)) = .ok (.str (S (a ++ b))) := by
  show ((Out.stuck : Out D).or ((dAddS (.str (S a)) (.str (S b))).or _)) = _
  have e : dAddS (.str (S a)) (.str (S b)) = .ok (.str (S (a ++ b))) := by
    show chk _ (Out.ok (D.str (S a ++ S b))) = _
    rw [S_app]
    exact chk_pos (by rw [S_len, S_len]; exact h)
  rw [e]; rfl
theorem dIx_S {l : List Nat} {k : Nat} {c : Nat} (h : l[k]? = some c) (z : l.length ≤ 16777216) : dIx (.str (S l)) (.int k) = .ok (.str (S [c])) := by
  show chk _ (match atI (S l).cps.toList (k : Nat) with | some c => Out.ok (D.str ⟨#[c]⟩) | none => .stuck) = _
  rw [S_list, atI_nat h]
  exact chk_pos (by rw [S_len]; exact z)
theorem cLen_S {l : List Nat} (z : l.length ≤ 16777216) : cLen [.str (S l)] = .ok (.int l.length) := by
  show chk _ (Out.ok (D.int (S l).length)) = _
  rw [S_len]
  exact chk_pos z
theorem dSl_S {l : List Nat} (z : l.length ≤ 16777216) (lo hi : Option Int) : dSl (.str (S l)) lo hi = .ok (.str (S (cutD l lo hi))) := by
  have e := dSl_str (z := S l) (by rw [S_len]; exact z) lo hi
  rw [e]
  have : cutS (S l) lo hi = S (cutD l lo hi) := by
    unfold cutS cutD
    rw [S_len]
  rw [this]
theorem cutD_to {α : Type} (l : List α) {k : Nat} (h : k ≤ l.length) : cutD l none (some (k : Int)) = l.take k := by
  unfold cutD
  rw [HT.sIx_none, HT.sIx_nat, List.drop_zero, Nat.sub_zero, Nat.min_eq_left h]
theorem cutD_from {α : Type} (l : List α) {k : Nat} (h : k ≤ l.length) : cutD l (some (k : Int)) none = l.drop k := by
  unfold cutD
  rw [HT.sIx_none, HT.sIx_nat, Nat.min_eq_left h]
  exact List.take_of_length_le (by rw [List.length_drop]; exact Nat.le_refl _)
def abc : List Nat := [97, 98, 99, 100, 101, 102, 103, 104, 105, 106, 107, 108, 109, 110, 111, 112, 113, 114, 115, 116, 117, 118, 119, 120, 121, 122]
theorem abc_str : Str.ofString "abcdefghijklmnopqrstuvwxyz" = S abc := by decide +kernel
theorem abc_at {i : Int} (h0 : 0 ≤ i) (h1 : i < 26) : dIx (.str (S abc)) (.int i) = .ok (.str (S [97 + i.toNat])) := by
  have e : i = (i.toNat : Int) := by omega
  have hl : i.toNat < 26 := by omega
  rw [e]
  generalize i.toNat = k at hl
  rw [Int.toNat_natCast]
  refine dIx_S ?_ (by decide)
  have : ∀ k : Nat, k < 26 → abc[k]? = some (97 + k) := by decide
  exact this k hl
theorem abc_find {c : Nat} (h0 : 97 ≤ c) (h1 : c ≤ 122) : Txt.find (S abc) (S [c]) = (c : Int) - 97 := by
  have : ∀ c : Nat, c < 123 → 97 ≤ c → Txt.find (S abc) (S [c]) = (c : Int) - 97 := by decide +kernel
  exact this c (by omega) h0
structure Nm (l : List Nat) : Prop where
  pos : 1 ≤ l.length
  len : l.length ≤ 10
  let_ : ∀ c ∈ l, 97 ≤ c ∧ c ≤ 122
def words : List (List Nat) := [[115, 111, 109, 101], [97, 108, 108], [97, 110, 100], [111, 114], [110, 111, 116], [121, 101, 115], [110, 111]]
def fit (l : List Nat) : List Nat := if l ∈ words then l ++ [113] else l
theorem fit_eq {l : List Nat} (h : l.length ≤ 100) : m__law_fit [.str (S l)] = .ok (.str (S (fit l))) := by
  have e0 : Str.ofString "some" = S [115, 111, 109, 101] := by decide +kernel
  have e1 : Str.ofString "all" = S [97, 108, 108] := by decide +kernel
  have e2 : Str.ofString "and" = S [97, 110, 100] := by decide +kernel
  have e3 : Str.ofString "or" = S [111, 114] := by decide +kernel
  have e4 : Str.ofString "not" = S [110, 111, 116] := by decide +kernel
  have e5 : Str.ofString "yes" = S [121, 101, 115] := by decide +kernel
  have e6 : Str.ofString "no" = S [110, 111] := by decide +kernel
  have e7 : Str.ofString "q" = S [113] := by decide +kernel
  have e8 : mkLst [.str (S [115, 111, 109, 101]), .str (S [97, 108, 108]), .str (S [97, 110, 100]), .str (S [111, 114]), .str (S [110, 111, 116]), .str (S [121, 101, 115]), .str (S [110, 111])] = .ok (.lst (words.map fun w => .str (S w))) := chk_pos (by decide)
  have e9 : dIn (.str (S l)) (.lst (words.map fun w => .str (S w))) = .ok (.bl (decide (l ∈ words))) := by
    show ((dInL false (.str (S l)) (.lst (words.map fun w => .str (S w)))).or _) = _
    have : dInL false (.str (S l)) (.lst (words.map fun w => .str (S w))) = .ok (.bl (decide (l ∈ words))) := by
      show chk _ (Out.ok (D.bl (if false = true then _ else _))) = _
      rw [chk_pos ⟨rfl, by simp [List.all_map, flatD]⟩, if_neg Bool.false_ne_true]
      congr 2
      rw [List.any_map]
      have : ((fun y => eqD y (D.str (S l))) ∘ fun w => D.str (S w)) = fun w => decide (w = l) := by
        funext w
        exact S_beq w l
      rw [this]
      exact Bool.eq_iff_iff.mpr (by simp [List.any_eq_true])
    rw [this]; rfl
  have e10 := dAdd_S (a := l) (b := [113]) (by simp; omega)
  unfold m__law_fit b__law_fit
  rw [e0, e1, e2, e3, e4, e5, e6, e7]
  walk_at "pda"
  unfold fit
  by_cases c : l ∈ words
  · simp [c]
  · simp [c]
theorem fit_nm {l : List Nat} (h : 1 ≤ l.length) (k : l.length ≤ 9) (z : ∀ c ∈ l, 97 ≤ c ∧ c ≤ 122) : Nm (fit l) := by
  unfold fit
  by_cases c : l ∈ words
  · rw [if_pos c]
    refine ⟨by simp, by simp; omega, fun c hc => ?_⟩
    rcases List.mem_append.mp hc with q | q
    · exact z c q
    · have : c = 113 := by simpa using q
      subst this; omega
  · rw [if_neg c]; exact ⟨h, by omega, z⟩
theorem fit_len (l : List Nat) : (fit l = l ∧ l ∉ words) ∨ (fit l = l ++ [113] ∧ l ∈ words) := by
  unfold fit
  by_cases c : l ∈ words
  · exact .inr ⟨if_pos c, c⟩
  · exact .inl ⟨if_neg c, c⟩
section
variable {κ ν : Type} [DecidableEq κ]
def fnd : List (κ × ν) → κ → Option ν
  | [], _ => none
  | q :: l, m => if q.1 = m then some q.2 else fnd l m
def put : List (κ × ν) → κ → ν → List (κ × ν)
  | [], m, z => [(m, z)]
  | q :: l, m, z => if q.1 = m then (m, z) :: l else q :: put l m z
theorem fnd_put (l : List (κ × ν)) (m k : κ) (z : ν) : fnd (put l m z) k = if m = k then some z else fnd l k := by
  induction l with
  | nil => simp only [put, fnd]
  | cons q l ih =>
    simp only [put]
    by_cases c : q.1 = m
    · rw [if_pos c]
      simp only [fnd]
      by_cases d : m = k
      · rw [if_pos d, if_pos d]
      · rw [if_neg d, if_neg d, if_neg (fun y => d (c.symm.trans y))]
    · rw [if_neg c]
      simp only [fnd, ih]
      by_cases d : q.1 = k
      · rw [if_pos d, if_pos d, if_neg (fun y => c (d.trans y.symm))]
      · rw [if_neg d, if_neg d]
theorem fnd_none {l : List (κ × ν)} {m : κ} : fnd l m = none ↔ m ∉ l.map (·.1) := by
  induction l with
  | nil => simp [fnd]
  | cons q l ih =>
    simp only [fnd, List.map_cons, List.mem_cons, not_or]
    by_cases c : q.1 = m
    · rw [if_pos c]
      constructor
      · intro z; cases z
      · intro z; exact absurd c.symm z.1
    · rw [if_neg c, ih]
      exact ⟨fun z => ⟨fun y => c y.symm, z⟩, fun z => z.2⟩
theorem put_keys (l : List (κ × ν)) (m : κ) (z : ν) : (put l m z).map (·.1) = if m ∈ l.map (·.1) then l.map (·.1) else l.map (·.1) ++ [m] := by
  induction l with
  | nil => simp [put]
  | cons q l ih =>
    simp only [put]
    by_cases c : q.1 = m
    · rw [if_pos c, if_pos (by simp [c])]
      simp [c]
    · rw [if_neg c, List.map_cons, ih]
      by_cases d : m ∈ l.map (·.1)
      · rw [if_pos d, if_pos (by rw [List.map_cons]; exact List.mem_cons_of_mem _ d)]
        rfl
      · rw [if_neg d, if_neg (by rw [List.map_cons, List.mem_cons, not_or]; exact ⟨fun y => c y.symm, d⟩)]
        rfl
theorem put_nodup {l : List (κ × ν)} (h : (l.map (·.1)).Nodup) (m : κ) (z : ν) : ((put l m z).map (·.1)).Nodup := by
  rw [put_keys]
  by_cases c : m ∈ l.map (·.1)
  · rw [if_pos c]; exact h
  · rw [if_neg c]
    exact List.nodup_append.mpr ⟨h, by simp, fun x hx y hy => by
      have : y = m := by simpa using hy
      subst this
      intro e; subst e; exact c hx⟩
theorem put_len (l : List (κ × ν)) (m : κ) (z : ν) : (put l m z).length ≤ l.length + 1 := by
  have := congrArg List.length (put_keys l m z)
  rw [List.length_map] at this
  rw [this]
  split <;> simp
theorem put_mem {l : List (κ × ν)} {m : κ} {z : ν} : ∀ k ∈ (put l m z).map (·.1), k = m ∨ k ∈ l.map (·.1) := by
  intro k hk
  rw [put_keys] at hk
  split at hk
  · exact .inr hk
  · rcases List.mem_append.mp hk with h | h
    · exact .inr h
    · exact .inl (by simpa using h)
theorem fnd_mem : ∀ {l : List (κ × ν)} {m : κ} {z : ν}, (l.map (·.1)).Nodup → (fnd l m = some z ↔ (m, z) ∈ l)
  | [], m, z, _ => by simp [fnd]
  | q :: l, m, z, h => by
    rw [List.map_cons, List.nodup_cons] at h
    simp only [fnd, List.mem_cons]
    by_cases c : q.1 = m
    · rw [if_pos c]
      constructor
      · intro e
        exact .inl (Prod.ext c.symm (Option.some.inj e).symm)
      · intro e
        rcases e with e | e
        · rw [← e]
        · exact absurd (List.mem_map.mpr ⟨(m, z), e, rfl⟩) (by rw [← c]; exact h.1)
    · rw [if_neg c, fnd_mem h.2]
      constructor
      · exact .inr
      · intro e
        rcases e with e | e
        · exact absurd (by rw [← e]) c
        · exact e

open Classical in
theorem dicGet_E {enc : κ → D} {ev : ν → D} (inj : ∀ {a b}, enc a = enc b → a = b) (l : List (κ × ν)) (m : κ) : dicGet (l.map fun q => (enc q.1, ev q.2)) (enc m) = (fnd l m).map ev := by
  induction l with
  | nil => rfl
  | cons q l ih =>
    rw [List.map_cons]
    simp only [fnd]
    by_cases c : q.1 = m
    · rw [if_pos c, dicGet_pos (show ((enc q.1, ev q.2) : D × D).1 = enc m by rw [← c])]; rfl
    · rw [if_neg c, dicGet_neg (fun z => c (inj z)), ih]
open Classical in
theorem dicPut_E {enc : κ → D} {ev : ν → D} (inj : ∀ {a b}, enc a = enc b → a = b) {l : List (κ × ν)} (h : (l.map (·.1)).Nodup) (m : κ) (z : ν) : dicPut (l.map fun q => (enc q.1, ev q.2)) (enc m) (ev z) = (put l m z).map fun q => (enc q.1, ev q.2) := by
  unfold dicPut
  rw [dicGet_any, dicGet_E inj]
  by_cases c : m ∈ l.map (·.1)
  · have : (fnd l m).isSome = true := by
      cases e : fnd l m with
      | none => exact absurd c (fnd_none.mp e)
      | some y => rfl
    rw [Option.isSome_map, if_pos this]
    clear this
    induction l with
    | nil => exact nomatch c
    | cons q l ih =>
      rw [List.map_cons, List.nodup_cons] at h
      rw [List.map_cons, List.map_cons]
      simp only [put]
      by_cases d : q.1 = m
      · rw [if_pos d, List.map_cons, if_pos (show enc q.1 = enc m by rw [← d])]
        rw [show ((enc q.1, ev z) : D × D) = (enc m, ev z) by rw [← d]]
        congr 1
        rw [List.map_map]
        refine List.map_congr_left fun r hr => ?_
        show (if enc r.1 = enc m then _ else _) = _
        rw [if_neg]
        intro y
        have y' : r.1 = m := inj y
        exact h.1 (by rw [d]; exact List.mem_map.mpr ⟨r, hr, y'⟩)
      · rw [if_neg d, List.map_cons, if_neg (show ¬ enc q.1 = enc m from fun y => d (inj y))]
        rw [List.map_cons] at c
        rw [ih h.2 ((List.mem_cons.mp c).resolve_left fun y => d y.symm)]
  · have : fnd l m = none := fnd_none.mpr c
    rw [this, if_neg (by simp)]
    clear this
    induction l with
    | nil => rfl
    | cons q l ih =>
      rw [List.map_cons, List.mem_cons, not_or] at c
      rw [List.map_cons, List.nodup_cons] at h
      rw [List.map_cons, List.cons_append, ih h.2 c.2]
      simp only [put]
      rw [if_neg (fun y => c.1 y.symm), List.map_cons]
def tot (l : List (κ × Int)) : List (κ × Int) → List (κ × Int)
  | [] => l
  | q :: ps => tot (put l q.1 ((fnd l q.1).getD 0 + q.2)) ps
def sumOf : List (κ × Int) → κ → Int
  | [], _ => 0
  | q :: ps, m => (if q.1 = m then q.2 else 0) + sumOf ps m
theorem tot_nodup : ∀ (ps l : List (κ × Int)), (l.map (·.1)).Nodup → ((tot l ps).map (·.1)).Nodup
  | [], _, h => h
  | q :: ps, l, h => tot_nodup ps _ (put_nodup h _ _)
theorem tot_mem : ∀ (ps l : List (κ × Int)), ∀ k ∈ (tot l ps).map (·.1), k ∈ l.map (·.1) ∨ k ∈ ps.map (·.1)
  | [], l, k, h => .inl h
  | q :: ps, l, k, h => by
    rcases tot_mem ps _ k h with z | z
    · rcases put_mem k z with y | y
      · exact .inr (by simp [y])
      · exact .inl y
    · exact .inr (by rw [List.map_cons]; exact List.mem_cons_of_mem _ z)
theorem tot_len : ∀ (ps l : List (κ × Int)), (tot l ps).length ≤ l.length + ps.length
  | [], l => by simp [tot]
  | q :: ps, l => by
    have h1 := tot_len ps (put l q.1 ((fnd l q.1).getD 0 + q.2))
    have h2 := put_len l q.1 ((fnd l q.1).getD 0 + q.2)
    simp only [tot, List.length_cons]
    omega
theorem tot_sum : ∀ (ps l : List (κ × Int)) (m : κ), (fnd (tot l ps) m).getD 0 = (fnd l m).getD 0 + sumOf ps m
  | [], l, m => by simp [tot, sumOf]
  | q :: ps, l, m => by
    simp only [tot, sumOf]
    rw [tot_sum ps, fnd_put]
    by_cases c : q.1 = m
    · rw [if_pos c, if_pos c, c, Option.getD_some]
      omega
    · rw [if_neg c, if_neg c]
      omega
theorem tot_has (ps : List (κ × Int)) {m : κ} {z : Int} (hz : z ≠ 0) : (m, z) ∈ tot [] ps ↔ sumOf ps m = z := by
  rw [← fnd_mem (tot_nodup ps [] List.nodup_nil)]
  have h := tot_sum ps [] m
  simp only [fnd, Option.getD_none, Int.zero_add] at h
  rw [← h]
  cases e : fnd (tot [] ps) m with
  | none =>
    simp only [Option.getD_none]
    constructor
    · intro y; cases y
    · intro y; exact absurd y.symm hz
  | some y =>
    simp only [Option.getD_some, Option.some.injEq]
theorem sumOf_app (a b : List (κ × Int)) (m : κ) : sumOf (a ++ b) m = sumOf a m + sumOf b m := by
  induction a with
  | nil => simp [sumOf]
  | cons q a ih => simp only [List.cons_append, sumOf, ih]; omega
end
theorem dataLt_asym {x y : PyData} (h : dataLt x y = true) : dataLt y x = false := by
  cases e : dataLt y x with
  | false => rfl
  | true =>
    have := PyProof.Rows.lex_trans _ _ _ h e
    rw [PyProof.Rows.lex_irrefl] at this
    cases this
theorem dataLe_trans {β : Type} (k : β → PyData) (a b c : β) (h1 : dataLe false k a b = true) (h2 : dataLe false k b c = true) : dataLe false k a c = true := by
  rw [PySem.W.dataLe_eq] at *
  simp only [cond_false, Bool.not_eq_true'] at *
  cases e : dataLt (k c) (k a) with
  | false => rfl
  | true =>
    rcases PyProof.Rows.lex_negTrans _ (keyToks (k b)) _ e with z | z
    · exact absurd (show dataLt (k c) (k b) = true from z) (by rw [h2]; exact Bool.false_ne_true)
    · exact absurd (show dataLt (k b) (k a) = true from z) (by rw [h1]; exact Bool.false_ne_true)
theorem dataLe_total {β : Type} (k : β → PyData) (a b : β) : (dataLe false k a b || dataLe false k b a) = true := by
  rw [PySem.W.dataLe_eq]
  simp only [cond_false]
  cases e : dataLt (k b) (k a) with
  | false => rfl
  | true => rw [dataLt_asym e]; rfl
theorem str_tri {x y : List Nat} (h1 : ¬ x < y) (h2 : ¬ y < x) : x = y := by
  have e1 := PySem.W.dataLt_str (S x) (S y)
  have e2 := PySem.W.dataLt_str (S y) (S x)
  rw [S_list, S_list, decide_eq_false h1] at e1
  rw [S_list, S_list, decide_eq_false h2] at e2
  have := PyProof.Rows.lex_total _ _ e1 e2
  simpa [keyToks] using this
theorem sort_map {β : Type} (f : β → D) (l : List β) : sortD (l.map f) = (l.mergeSort (dataLe false fun b => toPy (f b))).map f := by
  unfold sortD
  exact (List.map_mergeSort (f := f) (r := dataLe false fun b => toPy (f b)) (s := dataLe false toPy) (l := l) fun a _ b _ => rfl).symm
theorem sort_pair {β : Type} (k : β → PyData) (l : List β) : (l.mergeSort (dataLe false k)).Pairwise fun a b => dataLt (k b) (k a) = false := by
  refine (List.pairwise_mergeSort (le := dataLe false k) (fun a b c => dataLe_trans k a b c) (fun a b => dataLe_total k a b) l).imp fun h => ?_
  rw [PySem.W.dataLe_eq] at h
  simpa using h
theorem alike_tri {x y : PyData} (h : alike x y = true) (h1 : dataLt x y = false) (h2 : dataLt y x = false) : PyData.eqv x y = true := by
  have e := PyProof.Rows.lex_total _ _ h1 h2
  cases q : PyData.eqv x y with
  | true => rfl
  | false =>
    have w := (PySem.W.toks_eqv x y h).2 q [] [.inl 0]
    rw [e] at w
    rw [PySem.W.lex_pre] at w
    rw [PyProof.Rows.lex_irrefl] at w
    exact absurd w (by decide)
abbrev Pr := List Nat × Int
abbrev Mn := List Pr
def encP (p : Pr) : D := .tup [.str (S p.1), .int p.2]
def encM (m : Mn) : D := .tup (m.map encP)
structure Mono (most : Int) (m : Mn) : Prop where
  nm : ∀ p ∈ m, Nm p.1 ∧ 1 ≤ p.2 ∧ p.2 ≤ most
  up : m.Pairwise fun p q => p.1 < q.1
  few : m.length ≤ 1000
theorem strOk_nm {l : List Nat} (h : Nm l) : PyData.strOk (S l) = true := by
  unfold PyData.strOk
  show (l.toArray.all fun x => decide (x < 0x110000)) = true
  rw [List.all_toArray, List.all_eq_true]
  intro c hc
  have := h.let_ c hc
  exact decide_eq_true (by omega)
theorem toPy_P (p : Pr) : toPy (encP p) = .tuple [.str (S p.1), .int p.2] := rfl
theorem toPys_map (m : Mn) : toPys (m.map encP) = m.map fun p => .tuple [.str (S p.1), .int p.2] := by
  induction m with
  | nil => rfl
  | cons p m ih => simp only [List.map_cons, toPys, ih]; rfl
theorem toPy_M (m : Mn) : toPy (encM m) = .tuple (m.map fun p => .tuple [.str (S p.1), .int p.2]) := by
  show PyData.tuple (toPys _) = _
  rw [toPys_map]
theorem alike_P (p q : Pr) : alike (toPy (encP p)) (toPy (encP q)) = true := by
  simp [toPy_P, alike, alikeAll]
theorem alike_Ms : ∀ (m m' : Mn), alikeAll (m.map fun p => PyData.tuple [.str (S p.1), .int p.2]) (m'.map fun p => .tuple [.str (S p.1), .int p.2]) = true
  | [], _ => by simp [alikeAll]
  | _ :: _, [] => by simp [alikeAll]
  | p :: m, q :: m' => by simp [alikeAll, alike, alike_Ms m m']
theorem alike_M (m m' : Mn) : alike (toPy (encM m)) (toPy (encM m')) = true := by
  rw [toPy_M, toPy_M]
  simp [alike, alike_Ms]
theorem encP_inj {p q : Pr} (h : encP p = encP q) : p = q := by
  unfold encP at h
  simp at h
  obtain ⟨h1, h2⟩ := h
  exact Prod.ext h1 h2
theorem map_encP_inj : ∀ {m m' : Mn}, m.map encP = m'.map encP → m = m'
  | [], [], _ => rfl
  | [], _ :: _, h => by simp at h
  | _ :: _, [], h => by simp at h
  | p :: m, q :: m', h => by
    rw [List.map_cons, List.map_cons] at h
    injection h with h1 h2
    rw [encP_inj h1, map_encP_inj h2]
theorem encM_inj {m m' : Mn} (h : encM m = encM m') : m = m' := by
  unfold encM at h
  injection h with h
  exact map_encP_inj h
theorem lt_P {p q : Pr} (h : dataLt (toPy (encP q)) (toPy (encP p)) = false) (ne : p.1 ≠ q.1) : p.1 < q.1 := by
  rw [toPy_P, toPy_P, PySem.W.dataLt_pair (by rfl) (by rfl)] at h
  have e : PyData.eqv (.str (S q.1)) (.str (S p.1)) = false := by
    simp only [PyData.eqv]
    exact beq_eq_false_iff_ne.mpr fun z => ne (S_inj.mp z).symm
  rw [e, if_neg Bool.false_ne_true, PySem.W.dataLt_str, S_list, S_list, decide_eq_false_iff_not] at h
  cases Classical.em (p.1 < q.1) with
  | inl z => exact z
  | inr z => exact absurd (str_tri z h) ne
theorem depth_P (p : Pr) : (toPy (encP p)).depth = 1 := rfl
theorem depth_Ms : ∀ m : Mn, PyData.depthAll (m.map fun p => PyData.tuple [.str (S p.1), .int p.2]) ≤ 1
  | [] => by simp [PyData.depthAll]
  | p :: m => by
    have := depth_Ms m
    have e : (PyData.tuple [.str (S p.1), .int p.2]).depth = 1 := rfl
    simp only [List.map_cons, PyData.depthAll, e]
    omega
theorem depth_M (m : Mn) : (toPy (encM m)).depth ≤ 2 := by
  rw [toPy_M]
  have := depth_Ms m
  simp only [PyData.depth]
  omega
theorem keys_Ms : ∀ m : Mn, (∀ p ∈ m, Nm p.1) → keysP (m.map fun p => PyData.tuple [.str (S p.1), .int p.2]) = true
  | [], _ => rfl
  | p :: m, h => by
    simp only [List.map_cons, keysP, keyP, Bool.and_true, Bool.and_eq_true]
    exact ⟨strOk_nm (h p List.mem_cons_self), keys_Ms m fun q hq => h q (List.mem_cons_of_mem _ hq)⟩
theorem kp_M {most : Int} {m : Mn} (h : Mono most m) : keyP (toPy (encM m)) = true := by
  rw [toPy_M]
  exact keys_Ms m fun p hp => (h.nm p hp).1
theorem tkey_M {most : Int} {m : Mn} (h : Mono most m) : TKey (toPy (encM m)) := by
  refine ⟨⟨_, toPy_M m⟩, ?_, by have := depth_M m; omega⟩
  rw [toPy_M]
  have := keys_Ms m fun p hp => (h.nm p hp).1
  cases m with
  | nil => rfl
  | cons p m => exact this
theorem sorted_P {m : Mn} (hn : ∀ p ∈ m, Nm p.1) (nd : (m.map (·.1)).Nodup) (hl : m.length ≤ 1000) : ∃ r : Mn, cSorted [.lst (m.map encP)] = .ok (.lst (r.map encP)) ∧ r.Perm m ∧ r.Pairwise fun p q => p.1 < q.1 := by
  refine ⟨m.mergeSort (dataLe false fun b => toPy (encP b)), ?_, List.mergeSort_perm _ _, ?_⟩
  · show chk _ _ = _
    rw [sort_map]
    refine chk_pos ⟨?_, .inl (.inl ?_), ?_, ?_⟩
    · intro d hd e he
      rw [List.map_map] at hd he
      obtain ⟨p, _, rfl⟩ := List.mem_map.mp hd
      obtain ⟨q, _, rfl⟩ := List.mem_map.mp he
      exact alike_P p q
    · intro d hd
      rw [List.map_map] at hd
      obtain ⟨p, _, rfl⟩ := List.mem_map.mp hd
      exact ⟨_, _, rfl⟩
    · intro d hd
      obtain ⟨p, hp, rfl⟩ := List.mem_map.mp hd
      refine ⟨?_, by rw [depth_P]; decide⟩
      rw [toPy_P]
      simp [PyData.canLay0, PyData.canLayAll0, strOk_nm (hn p hp)]
    · rw [List.length_map]
      exact Nat.le_trans hl (by decide)
  · have h1 := sort_pair (fun b => toPy (encP b)) m
    have pm := List.mergeSort_perm m (dataLe false fun b => toPy (encP b))
    have h2 : ((m.mergeSort (dataLe false fun b => toPy (encP b))).map (·.1)).Nodup := (pm.map _).nodup_iff.mpr nd
    have h3 := List.pairwise_map.mp h2
    exact (h1.and h3).imp fun ⟨a, b⟩ => lt_P a b
abbrev Tm := Mn × Int
def encQ (q : Tm) : D := .tup [encM q.1, .int q.2]
def encK (q : Tm) : D × D := (encM q.1, .int q.2)
def ltM (a b : Mn) : Bool := dataLt (toPy (encM a)) (toPy (encM b))
def keyQ (q : Tm) : PyData := toPy (encM q.1)
noncomputable def formOf (ps : List Tm) : List Tm := ((tot [] ps).mergeSort (dataLe false keyQ)).filter fun q => decide (q.2 ≠ 0)
theorem eqv_M {a b : Mn} (ha : ∀ p ∈ a, Nm p.1) (hb : ∀ p ∈ b, Nm p.1) (h : PyData.eqv (toPy (encM a)) (toPy (encM b)) = true) : a = b := by
  have k1 : keyP (toPy (encM a)) = true := by rw [toPy_M]; exact keys_Ms a ha
  have k2 : keyP (toPy (encM b)) = true := by rw [toPy_M]; exact keys_Ms b hb
  exact encM_inj (toPy_inj _ _ k1 ((eqv_key _ _ k1 k2).mp h))
theorem ltM_tri {a b : Mn} (ha : ∀ p ∈ a, Nm p.1) (hb : ∀ p ∈ b, Nm p.1) (h1 : ltM a b = false) (h2 : ltM b a = false) : a = b :=
  eqv_M ha hb (alike_tri (alike_M a b) h1 h2)
structure Form (most : Int) (f : List Tm) : Prop where
  mono : ∀ q ∈ f, Mono most q.1
  nz : ∀ q ∈ f, q.2 ≠ 0
  up : f.Pairwise fun a b => ltM a.1 b.1 = true
theorem form_is {most : Int} {ps : List Tm} (h : ∀ q ∈ ps, Mono most q.1) : Form most (formOf ps) ∧ (∀ q, q ∈ formOf ps ↔ q.2 ≠ 0 ∧ sumOf ps q.1 = q.2) ∧ (formOf ps).length ≤ ps.length := by
  have pm := List.mergeSort_perm (tot [] ps) (dataLe false keyQ)
  have hk : ∀ q ∈ tot [] ps, Mono most q.1 := fun q hq => by
    rcases tot_mem ps [] q.1 (List.mem_map.mpr ⟨q, hq, rfl⟩) with z | z
    · exact nomatch z
    · obtain ⟨r, hr, e⟩ := List.mem_map.mp z
      rw [← e]; exact h r hr
  have hm : ∀ q, q ∈ formOf ps ↔ q ∈ tot [] ps ∧ q.2 ≠ 0 := fun q => by
    unfold formOf
    rw [List.mem_filter, pm.mem_iff, decide_eq_true_eq]
  have nd : (((tot [] ps).mergeSort (dataLe false keyQ)).map (·.1)).Nodup := (pm.map _).nodup_iff.mpr (tot_nodup ps [] List.nodup_nil)
  refine ⟨⟨fun q hq => hk q ((hm q).mp hq).1, fun q hq => ((hm q).mp hq).2, ?_⟩, fun q => ?_, ?_⟩
  · refine List.Pairwise.filter _ ?_
    have h1 := sort_pair keyQ (tot [] ps)
    have h2 := List.pairwise_map.mp nd
    have h3 : ((tot [] ps).mergeSort (dataLe false keyQ)).Pairwise fun a b => a ∈ tot [] ps ∧ b ∈ tot [] ps := by
      refine List.Pairwise.imp_of_mem (R := fun _ _ => True) (fun {a b} ha hb _ => ⟨pm.mem_iff.mp ha, pm.mem_iff.mp hb⟩) ?_
      exact List.pairwise_of_forall fun _ _ => trivial
    refine ((h1.and h2).and h3).imp fun {a b} ⟨⟨x, y⟩, z1, z2⟩ => ?_
    cases e : ltM a.1 b.1 with
    | true => rfl
    | false => exact absurd (ltM_tri (fun p hp => ((hk a z1).nm p hp).1) (fun p hp => ((hk b z2).nm p hp).1) e x) y
  · rw [hm]
    constructor
    · intro ⟨a, b⟩; exact ⟨b, (tot_has ps b).mp a⟩
    · intro ⟨a, b⟩; exact ⟨(tot_has ps a).mpr b, a⟩
  · unfold formOf
    refine Nat.le_trans (List.length_filter_le _ _) ?_
    rw [List.length_mergeSort]
    have := tot_len ps []
    simpa using this
theorem eq_of_up {α : Type} {R : α → α → Prop} (as : ∀ a b, R a b → R b a → False) : ∀ {l m : List α}, l.Pairwise R → m.Pairwise R → (∀ x, x ∈ l ↔ x ∈ m) → l = m
  | [], [], _, _, _ => rfl
  | [], b :: m, _, _, h => nomatch (h b).mpr List.mem_cons_self
  | a :: l, [], _, _, h => nomatch (h a).mp List.mem_cons_self
  | a :: l, b :: m, h1, h2, h => by
    rw [List.pairwise_cons] at h1 h2
    have e : a = b := by
      rcases List.mem_cons.mp ((h a).mp List.mem_cons_self) with z | z
      · exact z
      · rcases List.mem_cons.mp ((h b).mpr List.mem_cons_self) with y | y
        · exact y.symm
        · exact (as _ _ (h2.1 a z) (h1.1 b y)).elim
    subst e
    rw [eq_of_up as h1.2 h2.2 fun x => ?_]
    constructor
    · intro hx
      rcases List.mem_cons.mp ((h x).mp (List.mem_cons_of_mem _ hx)) with z | z
      · subst z; exact (as _ _ (h1.1 x hx) (h1.1 x hx)).elim
      · exact z
    · intro hx
      rcases List.mem_cons.mp ((h x).mpr (List.mem_cons_of_mem _ hx)) with z | z
      · subst z; exact (as _ _ (h2.1 x hx) (h2.1 x hx)).elim
      · exact z
theorem ltM_as (a b : Tm) (h : ltM a.1 b.1 = true) (k : ltM b.1 a.1 = true) : False := by
  have := dataLt_asym h
  rw [show dataLt (toPy (encM b.1)) (toPy (encM a.1)) = true from k] at this
  cases this
theorem dicGet_K (l : List Tm) (m : Mn) : dicGet (l.map encK) (encM m) = (fnd l m).map .int := dicGet_E (enc := encM) (ev := D.int) encM_inj l m
theorem dicPut_K {l : List Tm} (h : (l.map (·.1)).Nodup) (m : Mn) (z : Int) : dicPut (l.map encK) (encM m) (.int z) = (put l m z).map encK := dicPut_E (enc := encM) (ev := D.int) encM_inj h m z
theorem dkey_K {most : Int} {l : List Tm} {m : Mn} (hl : ∀ q ∈ l, Mono most q.1) (hm : Mono most m) : DKey (l.map encK) (encM m) := .inr ⟨tkey_M hm, fun p hp => by
  obtain ⟨q, hq, rfl⟩ := List.mem_map.mp hp
  exact tkey_M (hl q hq)⟩
theorem putO_K {most : Int} {l : List Tm} {m : Mn} {z : Int} (hl : ∀ q ∈ l, Mono most q.1) (hm : Mono most m) (h : (l.map (·.1)).Nodup) (z1 : l.length ≤ 10000) : putO (.dic (l.map encK)) (encM m) (.int z) = .ok (.dic ((put l m z).map encK)) := by
  show chk _ _ = _
  rw [dicPut_K h]
  exact chk_pos ⟨dkey_K hl hm, by rw [List.length_map]; exact Nat.lt_of_le_of_lt z1 (by decide)⟩
theorem get0_K (l : List Tm) (m : Mn) : (dicGet (l.map encK) (encM m)).getD (.int 0) = .int ((fnd l m).getD 0) := by
  rw [dicGet_K]
  cases fnd l m <;> rfl
theorem dIx_K {most : Int} {l : List Tm} {m : Mn} {z : Int} (hl : ∀ q ∈ l, Mono most q.1) (hm : Mono most m) (e : fnd l m = some z) : dIx (.dic (l.map encK)) (encM m) = .ok (.int z) := by
  show chk _ (match dicGet (l.map encK) (encM m) with | some d => Out.ok d | none => .stuck) = _
  rw [dicGet_K, e]
  exact chk_pos (dkey_K hl hm)
theorem sorted_K {most : Int} {l : List Tm} (hl : ∀ q ∈ l, Mono most q.1) (z1 : l.length ≤ 10000) : cSorted [.dic (l.map encK)] = .ok (.lst ((l.mergeSort (dataLe false keyQ)).map fun q => encM q.1)) := by
  show chk _ _ = _
  have e : (l.map encK).map (·.1) = l.map fun q => encM q.1 := by rw [List.map_map]; rfl
  rw [e, sort_map]
  refine chk_pos ⟨?_, .inr ?_, ?_, ?_⟩
  · intro d hd e he
    rw [List.map_map] at hd he
    obtain ⟨p, _, rfl⟩ := List.mem_map.mp hd
    obtain ⟨q, _, rfl⟩ := List.mem_map.mp he
    exact alike_M p.1 q.1
  · intro d hd
    rw [List.map_map] at hd
    obtain ⟨p, _, rfl⟩ := List.mem_map.mp hd
    exact ⟨_, toPy_M p.1⟩
  · intro d hd
    obtain ⟨p, hp, rfl⟩ := List.mem_map.mp hd
    exact ⟨keyP_lay _ (kp_M (hl p hp)), by have := depth_M p.1; omega⟩
  · rw [List.length_map]
    exact Nat.le_trans z1 (by decide)
theorem form_loop {most : Int} : ∀ (ps l : List Tm) (L x2 x3 : Option D), (∀ q ∈ ps, Mono most q.1) → (∀ q ∈ l, Mono most q.1) → (l.map (·.1)).Nodup → l.length + ps.length ≤ 10000 →
    ∃ x2' x3', forL (gT [gN 2, gN 3]) b_form_of_1 (ps.map encQ) [L, some (.dic (l.map encK)), x2, x3] = .nx [L, some (.dic ((tot l ps).map encK)), x2', x3'] := by
  intro ps
  induction ps with
  | nil => intro l L x2 x3 _ _ _ _; exact ⟨x2, x3, rfl⟩
  | cons q ps ih =>
    intro l L x2 x3 hp hl nd hz
    have hq := hp q List.mem_cons_self
    obtain ⟨x2', x3', e⟩ := ih (put l q.1 ((fnd l q.1).getD 0 + q.2)) L (some (encM q.1)) (some (.int q.2)) (fun r hr => hp r (List.mem_cons_of_mem _ hr)) (fun r hr => by
      rcases put_mem r.1 (List.mem_map.mpr ⟨r, hr, rfl⟩) with y | y
      · rw [y]; exact hq
      · obtain ⟨t, ht, et⟩ := List.mem_map.mp y
        rw [← et]; exact hl t ht) (put_nodup nd _ _) (by have := put_len l q.1 ((fnd l q.1).getD 0 + q.2); simp at hz; omega)
    refine ⟨x2', x3', ?_⟩
    simp only [tot]
    rw [← e]
    have e1 : ∀ o : Out D, chk (DKey (l.map encK) (encM q.1)) o = o := fun o => chk_pos (dkey_K hl hq)
    have e2 := putO_K (z := (fnd l q.1).getD 0 + q.2) hl hq nd (by simp at hz; omega)
    have e3 := get0_K l q.1
    rw [List.map_cons, forL_cons, show encQ q = .tup [encM q.1, .int q.2] from rfl]
    clear e ih hp hl nd hz
    generalize forL (gT [gN 2, gN 3]) b_form_of_1 (ps.map encQ) = R at *
    unfold b_form_of_1
    walk_at "pda"
theorem form_lc {kvs : List (D × D)} {L x3 : Option D} : ∀ (r : List Tm), (∀ q ∈ r, dIx (.dic kvs) (encM q.1) = .ok (.int q.2)) →
    lcL (gN 2) (tOf (PD.e2 dNe (PD.e2 dIx (eV 1) (eV 2)) (eC (.int 0)))) (eA mkTup (aC (eV 2) (aC (PD.e2 dIx (eV 1) (eV 2)) aN))) [L, some (.dic kvs), none, x3] (r.map fun q => encM q.1) = .ok ((r.filter fun q => decide (q.2 ≠ 0)).map encQ)
  | [], _ => rfl
  | q :: r, h => by
    have ih := form_lc (kvs := kvs) (L := L) (x3 := x3) r fun q hq => h q (List.mem_cons_of_mem _ hq)
    have h1 := h q List.mem_cons_self
    clear h
    rw [List.map_cons, lcL_cons]
    generalize lcL (gN 2) (tOf (PD.e2 dNe (PD.e2 dIx (eV 1) (eV 2)) (eC (.int 0)))) (eA mkTup (aC (eV 2) (aC (PD.e2 dIx (eV 1) (eV 2)) aN))) [L, some (.dic kvs), none, x3] (r.map fun q => encM q.1) = R at *
    by_cases c : q.2 = 0
    · walk_at "pda"
      simp [c]
    · walk_at "pda"
      simp [c]
      rfl
theorem form_eq {most : Int} {ps : List Tm} (h : ∀ q ∈ ps, Mono most q.1) (hz : ps.length ≤ 10000) : m_form_of [.lst (ps.map encQ)] = .ok (.tup ((formOf ps).map encQ)) := by
  obtain ⟨x2, x3, e⟩ := form_loop ps [] (some (.lst (ps.map encQ))) none none h (fun q hq => nomatch hq) List.nodup_nil (by simpa using hz)
  have hk : ∀ q ∈ tot [] ps, Mono most q.1 := fun q hq => by
    rcases tot_mem ps [] q.1 (List.mem_map.mpr ⟨q, hq, rfl⟩) with z | z
    · exact nomatch z
    · obtain ⟨r, hr, e⟩ := List.mem_map.mp z
      rw [← e]; exact h r hr
  have hl : (tot [] ps).length ≤ 10000 := by have := tot_len ps []; simp at this; omega
  have e1 := sorted_K hk hl
  have pm := List.mergeSort_perm (tot [] ps) (dataLe false keyQ)
  have nd := tot_nodup ps [] List.nodup_nil
  have e2 := form_lc (kvs := (tot [] ps).map encK) (L := some (.lst (ps.map encQ))) (x3 := x3) ((tot [] ps).mergeSort (dataLe false keyQ)) fun q hq => by
    have hq' := pm.mem_iff.mp hq
    exact dIx_K hk (hk q hq') ((fnd_mem nd).mpr hq')
  have e3 : ∀ o : Out D, chk ((((tot [] ps).mergeSort (dataLe false keyQ)).map fun q => encM q.1).length ≤ sizeLine) o = o := fun o => chk_pos (by rw [List.length_map, List.length_mergeSort]; exact Nat.le_trans hl (by decide))
  have e' : forL (gT [gN 2, gN 3]) b_form_of_1 (ps.map encQ) [some (.lst (ps.map encQ)), some (.dic []), none, none] = .nx [some (.lst (ps.map encQ)), some (.dic ((tot [] ps).map encK)), x2, x3] := e
  unfold formOf
  clear e
  generalize ((tot [] ps).mergeSort (dataLe false keyQ)) = r at *
  generalize ((tot [] ps).map encK) = kvs at *
  generalize (ps.map encQ) = ds at *
  clear hk hl pm nd h hz
  unfold m_form_of b_form_of
  walk_at "pda"
theorem signed_eq {n m : Int} (h : 0 ≤ m) (k : m < 2 ^ 200) : ∃ i, m__law_signed [.int n, .int m] = .ok (.int i) ∧ -m ≤ i ∧ i ≤ m := by
  have e1 := dMul_int (show Sz 2 2 by unfold Sz; decide) (show Sz 200 m by unfold Sz; omega) (by decide)
  have e2 := dMod_int (i := n) (show 0 < 2 * m + 1 by omega)
  have e3 := fun i => dDiv_int (i := i) (j := 2) (by decide) (show Sz 2 2 by unfold Sz; decide) (by decide)
  have e4 := fun i => dMod_int (i := i) (j := 2) (by decide)
  have b1 : 0 ≤ n % (2 * m + 1) := Int.emod_nonneg _ (by omega)
  have b2 : n % (2 * m + 1) < 2 * m + 1 := Int.emod_lt_of_pos _ (by omega)
  unfold m__law_signed b__law_signed
  walk_at "pda"
  generalize n % (2 * m + 1) = x at *
  by_cases h : x % 2 = 1
  · simp only [h, if_true]
    exact ⟨_, rfl, by omega, by omega⟩
  · simp only [h, if_false]
    exact ⟨_, rfl, by omega, by omega⟩
section
variable (pt : List Nat → Int)
end
noncomputable def mulM (a b : Mn) : Mn := (tot [] (a ++ b)).mergeSort (dataLe false fun q => PyData.str (S q.1))
noncomputable def timesL (a b : List Tm) : List Tm := a.flatMap fun q => b.map fun r => (mulM q.1 r.1, q.2 * r.2)
theorem fnd_some {κ ν : Type} [DecidableEq κ] {l : List (κ × ν)} {m : κ} {z : ν} (h : fnd l m = some z) : (m, z) ∈ l := by
  induction l with
  | nil => cases h
  | cons q l ih =>
    simp only [fnd] at h
    by_cases c : q.1 = m
    · rw [if_pos c] at h
      cases h
      exact List.mem_cons.mpr (.inl (Prod.ext c.symm rfl))
    · rw [if_neg c] at h
      exact List.mem_cons_of_mem _ (ih h)
theorem sumOf_le {most : Int} (h0 : 0 ≤ most) : ∀ {m : Mn} (n : List Nat), (m.map (·.1)).Nodup → (∀ p ∈ m, p.2 ≤ most) → sumOf m n ≤ most
  | [], n, _, _ => h0
  | q :: m, n, nd, h => by
    rw [List.map_cons, List.nodup_cons] at nd
    simp only [sumOf]
    by_cases c : q.1 = n
    · rw [if_pos c]
      have z : ∀ {l : Mn}, n ∉ l.map (·.1) → sumOf l n = 0 := by
        intro l
        induction l with
        | nil => intro _; rfl
        | cons r l ih =>
          intro hh
          rw [List.map_cons, List.mem_cons, not_or] at hh
          simp only [sumOf]
          rw [if_neg (fun y => hh.1 y.symm), ih hh.2]; rfl
      rw [z (by rw [← c]; exact nd.1)]
      have := h q List.mem_cons_self
      omega
    · rw [if_neg c]
      have := sumOf_le h0 n nd.2 fun p hp => h p (List.mem_cons_of_mem _ hp)
      omega
theorem up_nodup {m : Mn} (h : m.Pairwise fun p q => p.1 < q.1) : (m.map (·.1)).Nodup := by
  refine List.pairwise_map.mpr (h.imp fun {a b} lt e => ?_)
  rw [e] at lt
  exact absurd lt (List.lt_irrefl _)
theorem put_pos {l : Mn} {n : List Nat} {z : Int} (hz : 1 ≤ z) (hl : ∀ p ∈ l, 1 ≤ p.2) : ∀ p ∈ put l n ((fnd l n).getD 0 + z), 1 ≤ p.2 := by
  induction l with
  | nil =>
    intro p hp
    have : p = (n, 0 + z) := by simpa [put, fnd] using hp
    subst this; show 1 ≤ 0 + z; omega
  | cons q l ih =>
    intro p hp
    have hq := hl q List.mem_cons_self
    simp only [put, fnd] at hp
    by_cases c : q.1 = n
    · rw [if_pos c, if_pos c] at hp
      rcases List.mem_cons.mp hp with rfl | hp
      · show 1 ≤ q.2 + z; omega
      · exact hl p (List.mem_cons_of_mem _ hp)
    · rw [if_neg c, if_neg c] at hp
      rcases List.mem_cons.mp hp with rfl | hp
      · exact hq
      · exact ih (fun p hp => hl p (List.mem_cons_of_mem _ hp)) p hp
theorem tot_pos : ∀ (ps l : Mn), (∀ p ∈ ps, 1 ≤ p.2) → (∀ p ∈ l, 1 ≤ p.2) → ∀ p ∈ tot l ps, 1 ≤ p.2
  | [], l, _, hl => hl
  | q :: ps, l, h, hl => tot_pos ps _ (fun p hp => h p (List.mem_cons_of_mem _ hp)) (put_pos (h q List.mem_cons_self) hl)
theorem mono_mul {x y : Int} {a b : Mn} (ha : Mono x a) (hb : Mono y b) (hx : 0 ≤ x) (hy : 0 ≤ y) (hl : a.length + b.length ≤ 1000) : Mono (x + y) (mulM a b) ∧ (∀ p ∈ mulM a b, p.1 ∈ a.map (·.1) ∨ p.1 ∈ b.map (·.1)) := by
  have pm : (mulM a b).Perm (tot [] (a ++ b)) := List.mergeSort_perm _ _
  have nd := tot_nodup (a ++ b) [] List.nodup_nil
  have hin : ∀ p ∈ tot [] (a ++ b), p.1 ∈ a.map (·.1) ∨ p.1 ∈ b.map (·.1) := fun p hp => by
    rcases tot_mem (a ++ b) [] p.1 (List.mem_map.mpr ⟨p, hp, rfl⟩) with z | z
    · exact nomatch z
    · rw [List.map_append] at z
      exact List.mem_append.mp z
  refine ⟨⟨fun p hp => ?_, ?_, ?_⟩, fun p hp => hin p (pm.mem_iff.mp hp)⟩
  · have hp' := pm.mem_iff.mp hp
    refine ⟨?_, tot_pos _ _ (fun p hp => (List.mem_append.mp hp).elim (fun z => (ha.nm p z).2.1) (fun z => (hb.nm p z).2.1)) (fun p hp => absurd hp List.not_mem_nil) p hp', ?_⟩
    · rcases hin p hp' with z | z
      · obtain ⟨r, hr, e⟩ := List.mem_map.mp z
        rw [← e]; exact (ha.nm r hr).1
      · obtain ⟨r, hr, e⟩ := List.mem_map.mp z
        rw [← e]; exact (hb.nm r hr).1
    · have h1 := tot_sum (a ++ b) [] p.1
      rw [(fnd_mem nd).mpr (show (p.1, p.2) ∈ tot [] (a ++ b) from hp'), sumOf_app] at h1
      simp only [fnd, Option.getD_none, Option.getD_some] at h1
      have h2 := sumOf_le hx p.1 (up_nodup ha.up) fun p hp => (ha.nm p hp).2.2
      have h3 := sumOf_le hy p.1 (up_nodup hb.up) fun p hp => (hb.nm p hp).2.2
      omega
  · have h1 := sort_pair (fun q : Pr => PyData.str (S q.1)) (tot [] (a ++ b))
    have h2 := List.pairwise_map.mp ((pm.map (·.1)).nodup_iff.mpr nd)
    refine (h1.and h2).imp fun {p q} ⟨u, v⟩ => ?_
    rw [PySem.W.dataLt_str, S_list, S_list, decide_eq_false_iff_not] at u
    cases Classical.em (p.1 < q.1) with
    | inl z => exact z
    | inr z => exact absurd (str_tri z u) v
  · rw [pm.length_eq]
    have := tot_len (a ++ b) []
    simp at this
    omega
def encN (n : List Nat) : D := .str (S n)
def encS (q : List Nat × Int) : D × D := (encN q.1, .int q.2)
theorem encN_inj {a b : List Nat} (h : encN a = encN b) : a = b := S_inj.mp (D.str.inj h)
theorem dkey_N (l : List (List Nat × Int)) (n : List Nat) : DKey (l.map encS) (encN n) := .inl ⟨rfl, fun p hp => by
  obtain ⟨q, _, rfl⟩ := List.mem_map.mp hp
  rfl⟩
theorem putO_N {l : List (List Nat × Int)} (h : (l.map (·.1)).Nodup) (hz : l.length ≤ 10000) (n : List Nat) (z : Int) : putO (.dic (l.map encS)) (encN n) (.int z) = .ok (.dic ((put l n z).map encS)) := by
  show chk _ (Out.ok (D.dic (dicPut _ _ _))) = _
  rw [show dicPut (l.map encS) (encN n) (.int z) = (put l n z).map encS from dicPut_E (enc := encN) (ev := D.int) encN_inj h n z]
  exact chk_pos ⟨dkey_N l n, by rw [List.length_map]; exact Nat.lt_of_le_of_lt hz (by decide)⟩
theorem get0_N (l : List (List Nat × Int)) (n : List Nat) : (dicGet (l.map encS) (encN n)).getD (.int 0) = .int ((fnd l n).getD 0) := by
  rw [show dicGet (l.map encS) (encN n) = (fnd l n).map .int from dicGet_E (enc := encN) (ev := D.int) encN_inj l n]
  cases fnd l n <;> rfl
theorem dIx_N {l : List (List Nat × Int)} {n : List Nat} {z : Int} (e : fnd l n = some z) : dIx (.dic (l.map encS)) (encN n) = .ok (.int z) := by
  show chk _ (match dicGet (l.map encS) (encN n) with | some d => Out.ok d | none => .stuck) = _
  rw [show dicGet (l.map encS) (encN n) = (fnd l n).map .int from dicGet_E (enc := encN) (ev := D.int) encN_inj l n, e]
  exact chk_pos (dkey_N l n)
theorem dAdd_L {xs ys : List D} (h : xs.length + ys.length ≤ 16777216) : dAdd (.lst xs) (.lst ys) = .ok (.lst (xs ++ ys)) := by
  show ((Out.stuck : Out D).or ((Out.stuck : Out D).or ((Out.stuck : Out D).or (dAddL (.lst xs) (.lst ys))))) = _
  have e : dAddL (.lst xs) (.lst ys) = .ok (.lst (xs ++ ys)) := chk_pos h
  rw [e]; rfl
theorem len_times (f g : List Tm) : (timesL f g).length = f.length * g.length := by
  unfold timesL
  induction f with
  | nil => simp
  | cons q f ih => rw [List.flatMap_cons, List.length_append, ih, List.length_map, List.length_cons, Nat.add_mul]; omega
theorem times_mono {most : Int} (h0 : 0 ≤ most) {f g : List Tm} (hf : ∀ q ∈ f, Mono most q.1 ∧ q.1.length ≤ 500) (hg : ∀ q ∈ g, Mono most q.1 ∧ q.1.length ≤ 500) : ∀ q ∈ timesL f g, Mono (most + most) q.1 ∧ ∃ r ∈ f, ∃ t ∈ g, q = (mulM r.1 t.1, r.2 * t.2) := by
  intro q hq
  unfold timesL at hq
  obtain ⟨r, hr, hq⟩ := List.mem_flatMap.mp hq
  obtain ⟨t, ht, rfl⟩ := List.mem_map.mp hq
  have h1 := hf r hr
  have h2 := hg t ht
  exact ⟨(mono_mul h1.1 h2.1 h0 h0 (by omega)).1, r, hr, t, ht, rfl⟩
theorem formOf_key {ps : List Tm} {q : Tm} (h : q ∈ formOf ps) : ∃ r ∈ ps, r.1 = q.1 := by
  unfold formOf at h
  have h1 := (List.mergeSort_perm (tot [] ps) (dataLe false keyQ)).mem_iff.mp (List.mem_filter.mp h).1
  rcases tot_mem ps [] q.1 (List.mem_map.mpr ⟨q, h1, rfl⟩) with z | z
  · exact absurd z List.not_mem_nil
  · obtain ⟨r, hr, e⟩ := List.mem_map.mp z
    exact ⟨r, hr, e⟩
theorem sumOf_abs {b : Nat} : ∀ {ps : List Tm} (m : Mn), (∀ q ∈ ps, Sz b q.2) → (sumOf ps m).natAbs ≤ ps.length * 2 ^ b
  | [], m, _ => by simp [sumOf]
  | q :: ps, m, h => by
    have h1 := sumOf_abs m fun r hr => h r (List.mem_cons_of_mem _ hr)
    have h2 : q.2.natAbs < 2 ^ b := h q List.mem_cons_self
    simp only [sumOf, List.length_cons, Nat.add_mul, Nat.one_mul]
    generalize ps.length * 2 ^ b = x at *
    generalize 2 ^ b = y at *
    split <;> omega
theorem sumOf_sz {b j : Nat} {ps : List Tm} (m : Mn) (h : ∀ q ∈ ps, Sz b q.2) (hl : ps.length < 2 ^ j) : Sz (b + j) (sumOf ps m) := by
  have h1 := sumOf_abs m h
  unfold Sz
  rw [Nat.pow_add, Nat.mul_comm]
  exact Nat.lt_of_le_of_lt h1 (Nat.mul_lt_mul_of_pos_right hl (Nat.two_pow_pos b))
structure Ok (xs : List (List Nat)) (most : Int) (k b : Nat) (f : List Tm) : Prop where
  mono : ∀ q ∈ f, Mono most q.1
  nin : ∀ q ∈ f, ∀ p ∈ q.1, p.1 ∈ xs
  few : ∀ q ∈ f, q.1.length ≤ k
  sz : ∀ q ∈ f, Sz b q.2
theorem Ok.form {xs : List (List Nat)} {most : Int} {k b j : Nat} {f : List Tm} (h : Ok xs most k b f) (hl : f.length < 2 ^ j) : Ok xs most k (b + j) (formOf f) := by
  obtain ⟨_, h2, _⟩ := form_is h.mono
  refine ⟨fun q hq => ?_, fun q hq => ?_, fun q hq => ?_, fun q hq => ?_⟩
  · obtain ⟨r, hr, e⟩ := formOf_key hq
    rw [← e]; exact h.mono r hr
  · obtain ⟨r, hr, e⟩ := formOf_key hq
    rw [← e]; exact h.nin r hr
  · obtain ⟨r, hr, e⟩ := formOf_key hq
    rw [← e]; exact h.few r hr
  · rw [← ((h2 q).mp hq).2]
    exact sumOf_sz q.1 h.sz hl
theorem Ok.up {xs : List (List Nat)} {most : Int} {k b c : Nat} {f : List Tm} (h : Ok xs most k b f) (l : b ≤ c) : Ok xs most k c f := ⟨h.mono, h.nin, h.few, fun q hq => (h.sz q hq).mono l⟩
theorem Ok.app {xs : List (List Nat)} {most : Int} {k b : Nat} {f g : List Tm} (h : Ok xs most k b f) (i : Ok xs most k b g) : Ok xs most k b (f ++ g) :=
  ⟨fun q hq => (List.mem_append.mp hq).elim (h.mono q) (i.mono q), fun q hq => (List.mem_append.mp hq).elim (h.nin q) (i.nin q), fun q hq => (List.mem_append.mp hq).elim (h.few q) (i.few q), fun q hq => (List.mem_append.mp hq).elim (h.sz q) (i.sz q)⟩
theorem Ok.scale {xs : List (List Nat)} {most : Int} {k b c : Nat} {f : List Tm} {n : Int} (h : Ok xs most k b f) (hn : Sz c n) : Ok xs most k (c + b) (f.map fun q => (q.1, n * q.2)) := by
  refine ⟨fun q hq => ?_, fun q hq => ?_, fun q hq => ?_, fun q hq => ?_⟩ <;> obtain ⟨r, hr, rfl⟩ := List.mem_map.mp hq
  · exact h.mono r hr
  · exact h.nin r hr
  · exact h.few r hr
  · exact hn.mul (h.sz r hr)
theorem Ok.neg {xs : List (List Nat)} {most : Int} {k b : Nat} {f : List Tm} (h : Ok xs most k b f) : Ok xs most k b (f.map fun q => (q.1, 0 - q.2)) := by
  refine ⟨fun q hq => ?_, fun q hq => ?_, fun q hq => ?_, fun q hq => ?_⟩ <;> obtain ⟨r, hr, rfl⟩ := List.mem_map.mp hq
  · exact h.mono r hr
  · exact h.nin r hr
  · exact h.few r hr
  · have := (h.sz r hr).neg
    rw [← Int.zero_sub] at this
    exact this
theorem mulM_len (a b : Mn) : (mulM a b).length ≤ a.length + b.length := by
  unfold mulM
  have := tot_len (a ++ b) []
  rw [(List.mergeSort_perm _ _).length_eq]
  simp at this
  exact this
theorem Ok.times {xs : List (List Nat)} {most : Int} {k b : Nat} {f g : List Tm} (h0 : 0 ≤ most) (hk : k ≤ 500) (h : Ok xs most k b f) (i : Ok xs most k b g) : Ok xs (most + most) (k + k) (b + b) (timesL f g) := by
  have m := times_mono h0 (f := f) (g := g) (fun q hq => ⟨h.mono q hq, Nat.le_trans (h.few q hq) hk⟩) (fun q hq => ⟨i.mono q hq, Nat.le_trans (i.few q hq) hk⟩)
  refine ⟨fun q hq => (m q hq).1, fun q hq p hp => ?_, fun q hq => ?_, fun q hq => ?_⟩ <;> obtain ⟨_, r, hr, t, ht, rfl⟩ := m q hq
  · have := (mono_mul (h.mono r hr) (i.mono t ht) h0 h0 (by have := h.few r hr; have := i.few t ht; omega)).2 p hp
    rcases this with z | z
    · obtain ⟨s, hs, e⟩ := List.mem_map.mp z
      rw [← e]; exact h.nin r hr s hs
    · obtain ⟨s, hs, e⟩ := List.mem_map.mp z
      rw [← e]; exact i.nin t ht s hs
  · have h1 := mulM_len r.1 t.1
    have h2 := h.few r hr
    have h3 := i.few t ht
    show (mulM r.1 t.1).length ≤ k + k
    omega
  · exact (h.sz r hr).mul (i.sz t ht)
theorem Ok.nn {xs : List (List Nat)} {most : Int} {k b : Nat} {f : List Tm} (h : Ok xs most k b f) : ∀ q ∈ f, ∀ p ∈ q.1, 0 ≤ p.2 := fun q hq p hp => by
  have := ((h.mono q hq).nm p hp).2.1
  omega
theorem sz_one : Sz 1 1 := by unfold Sz; decide
section
variable {κ ν : Type} [DecidableEq κ] {ek : κ → D} {ev : ν → D}
def encE (ek : κ → D) (ev : ν → D) (q : κ × ν) : D × D := (ek q.1, ev q.2)
theorem dicGet_F (inj : ∀ {a b}, ek a = ek b → a = b) (l : List (κ × ν)) (k : κ) : dicGet (l.map (encE ek ev)) (ek k) = (fnd l k).map ev := dicGet_E inj l k
theorem dkey_F (fl : ∀ k, flatK (ek k) = true) (l : List (κ × ν)) (k : κ) : DKey (l.map (encE ek ev)) (ek k) := .inl ⟨fl k, fun p hp => by
  obtain ⟨q, _, rfl⟩ := List.mem_map.mp hp
  exact fl _⟩
theorem dicPut_F (inj : ∀ {a b}, ek a = ek b → a = b) {l : List (κ × ν)} (h : (l.map (·.1)).Nodup) (k : κ) (v : ν) : dicPut (l.map (encE ek ev)) (ek k) (ev v) = (put l k v).map (encE ek ev) := dicPut_E inj h k v
theorem putO_F (inj : ∀ {a b}, ek a = ek b → a = b) (fl : ∀ k, flatK (ek k) = true) {l : List (κ × ν)} (h : (l.map (·.1)).Nodup) (hz : l.length ≤ 10000) (k : κ) (v : ν) : putO (.dic (l.map (encE ek ev))) (ek k) (ev v) = .ok (.dic ((put l k v).map (encE ek ev))) := by
  show chk _ (Out.ok (D.dic (dicPut _ _ _))) = _
  rw [dicPut_F inj h k v]
  exact chk_pos ⟨dkey_F fl l k, by rw [List.length_map]; exact Nat.lt_of_le_of_lt hz (by decide)⟩
theorem getF (inj : ∀ {a b}, ek a = ek b → a = b) (l : List (κ × ν)) (k : κ) (d : ν) : (dicGet (l.map (encE ek ev)) (ek k)).getD (ev d) = ev ((fnd l k).getD d) := by
  rw [dicGet_F inj]
  cases fnd l k <;> rfl
theorem dIx_F (inj : ∀ {a b}, ek a = ek b → a = b) (fl : ∀ k, flatK (ek k) = true) {l : List (κ × ν)} {k : κ} {v : ν} (e : fnd l k = some v) : dIx (.dic (l.map (encE ek ev))) (ek k) = .ok (ev v) := by
  show chk _ (match dicGet (l.map (encE ek ev)) (ek k) with | some d => Out.ok d | none => .stuck) = _
  rw [dicGet_F inj, e]
  exact chk_pos (dkey_F fl l k)
theorem dNotIn_F (inj : ∀ {a b}, ek a = ek b → a = b) (fl : ∀ k, flatK (ek k) = true) (hs : ∀ k, (∃ i, ek k = .int i) ∨ ∃ x, ek k = .str x) (l : List (κ × ν)) (k : κ) : dNotIn (ek k) (.dic (l.map (encE ek ev))) = .ok (.bl !(fnd l k).isSome) := by
  have e : dInD true (ek k) (.dic (l.map (encE ek ev))) = .ok (.bl !(fnd l k).isSome) := by
    show chk _ (Out.ok (D.bl (if true = true then !(dicGet _ _).isSome else _))) = _
    rw [dicGet_F inj, chk_pos (dkey_F fl l k)]
    cases fnd l k <;> rfl
  show ((dInL true (ek k) (.dic (l.map (encE ek ev)))).or ((dNotInS (ek k) (.dic (l.map (encE ek ev)))).or (dInD true (ek k) (.dic (l.map (encE ek ev)))))) = _
  rw [e]
  rcases hs k with ⟨i, h⟩ | ⟨x, h⟩ <;> rw [h] <;> rfl
end
theorem int_inj {a b : Int} (h : D.int a = D.int b) : a = b := D.int.inj h
theorem flat_N (k : List Nat) : flatK (encN k) = true := rfl
theorem flat_I (k : Int) : flatK (D.int k) = true := rfl
theorem hs_N (k : List Nat) : (∃ i, encN k = .int i) ∨ ∃ x, encN k = .str x := .inr ⟨_, rfl⟩
noncomputable def sortN (l : List (List Nat)) : List (List Nat) := l.mergeSort (dataLe false fun k => PyData.str (S k))
theorem sortN_mem {l : List (List Nat)} {x : List Nat} : x ∈ sortN l ↔ x ∈ l := (List.mergeSort_perm _ _).mem_iff
theorem sok_N {ks : List (List Nat)} (h : ∀ k ∈ ks, Nm k) (z1 : ks.length ≤ 10000) : SOk (ks.map encN) := by
  refine ⟨?_, .inl (.inr ?_), ?_, ?_⟩
  · intro d hd e he
    rw [List.map_map] at hd he
    obtain ⟨p, _, rfl⟩ := List.mem_map.mp hd
    obtain ⟨q, _, rfl⟩ := List.mem_map.mp he
    rfl
  · intro d hd
    rw [List.map_map] at hd
    obtain ⟨p, _, rfl⟩ := List.mem_map.mp hd
    refine ⟨?_, fun xs q => ?_⟩
    · intro q; cases q
    · cases q
  · intro d hd
    obtain ⟨p, hp, rfl⟩ := List.mem_map.mp hd
    exact ⟨strOk_nm (h p hp), Nat.zero_le _⟩
  · rw [List.length_map]
    exact Nat.le_trans z1 (by decide)
theorem sortD_N (ks : List (List Nat)) : sortD (ks.map encN) = (sortN ks).map encN := by
  rw [sort_map]; rfl
theorem sorted_D {kvs : List (D × D)} {ks : List (List Nat)} (e : kvs.map (·.1) = ks.map encN) (h : ∀ k ∈ ks, Nm k) (z1 : ks.length ≤ 10000) : cSorted [.dic kvs] = .ok (.lst ((sortN ks).map encN)) := by
  show chk (SOk (kvs.map (·.1))) _ = _
  rw [e, sortD_N, chk_pos (sok_N h z1)]
theorem keys_E {κ ν : Type} (ek : κ → D) (ev : ν → D) (l : List (κ × ν)) : (l.map (encE ek ev)).map (·.1) = (l.map (·.1)).map ek := by
  rw [List.map_map, List.map_map]; rfl
def allP (f : List Tm) : List Pr := f.flatMap (·.1)
def addN (l : List (List Nat × Bool)) (p : Pr) : List (List Nat × Bool) := put l p.1 true
def nmsL (ps : List Pr) : List (List Nat × Bool) := ps.foldl addN []
theorem nms_nodup : ∀ (ps : List Pr) (l : List (List Nat × Bool)), (l.map (·.1)).Nodup → ((ps.foldl addN l).map (·.1)).Nodup
  | [], _, h => h
  | p :: ps, l, h => nms_nodup ps _ (put_nodup h _ _)
theorem nms_mem : ∀ (ps : List Pr) (l : List (List Nat × Bool)) (x : List Nat), x ∈ (ps.foldl addN l).map (·.1) ↔ x ∈ l.map (·.1) ∨ x ∈ ps.map (·.1)
  | [], _, _ => by simp
  | p :: ps, l, x => by
    rw [List.foldl_cons, nms_mem ps]
    unfold addN
    rw [put_keys]
    by_cases c : p.1 ∈ l.map (·.1)
    · rw [if_pos c, List.map_cons, List.mem_cons]
      constructor
      · rintro (h | h)
        · exact .inl h
        · exact .inr (.inr h)
      · rintro (h | h | h)
        · exact .inl h
        · exact .inl (h ▸ c)
        · exact .inr h
    · rw [if_neg c, List.mem_append, List.mem_singleton, List.map_cons, List.mem_cons, or_assoc]
theorem nms_len : ∀ (ps : List Pr) (l : List (List Nat × Bool)), (ps.foldl addN l).length ≤ l.length + ps.length
  | [], _ => Nat.le_refl _
  | p :: ps, l => by
    rw [List.foldl_cons]
    have h1 := nms_len ps (addN l p)
    have h2 := put_len l p.1 true
    rw [List.length_cons]
    unfold addN at *
    omega
noncomputable def namesOf (f : List Tm) : List (List Nat) := sortN ((nmsL (allP f)).map (·.1))
theorem namesOf_mem {f : List Tm} {x : List Nat} : x ∈ namesOf f ↔ ∃ q ∈ f, ∃ p ∈ q.1, p.1 = x := by
  unfold namesOf nmsL
  rw [sortN_mem, nms_mem]
  unfold allP
  constructor
  · rintro (h | h)
    · exact absurd h List.not_mem_nil
    · obtain ⟨p, hp, e⟩ := List.mem_map.mp h
      obtain ⟨q, hq, hp⟩ := List.mem_flatMap.mp hp
      exact ⟨q, hq, p, hp, e⟩
  · rintro ⟨q, hq, p, hp, e⟩
    exact .inr (List.mem_map.mpr ⟨p, List.mem_flatMap.mpr ⟨q, hq, hp⟩, e⟩)
abbrev encB : List Nat × Bool → D × D := encE encN D.bl
theorem names_1 (x0 x2 x3 : Option D) : ∀ (m : Mn) (l : List (List Nat × Bool)) (x4 x5 : Option D), (l.map (·.1)).Nodup → l.length + m.length ≤ 10000 →
    ∃ x4' x5', forL (gT [gN 4, gN 5]) b_names_of_1 (m.map encP) [x0, some (.dic (l.map encB)), x2, x3, x4, x5] = .nx [x0, some (.dic ((m.foldl addN l).map encB)), x2, x3, x4', x5']
  | [], l, x4, x5, _, _ => ⟨x4, x5, rfl⟩
  | p :: m, l, x4, x5, nd, hl => by
    obtain ⟨x4', x5', e⟩ := names_1 x0 x2 x3 m (addN l p) (some (encN p.1)) (some (.int p.2)) (put_nodup nd _ _) (by have := put_len l p.1 true; unfold addN; rw [List.length_cons] at hl; omega)
    refine ⟨x4', x5', ?_⟩
    have e1 := putO_F (ev := D.bl) encN_inj flat_N nd (by omega) p.1 true
    rw [List.foldl_cons, ← e, List.map_cons]
    refine forL_step ?_
    unfold b_names_of_1
    rw [show encP p = .tup [encN p.1, .int p.2] from rfl]
    walk_at "wka"
    rfl
theorem names_2 (x0 : Option D) {b : Nat} : ∀ (f : List Tm) (l : List (List Nat × Bool)) (x2 x3 x4 x5 : Option D), (l.map (·.1)).Nodup → (∀ q ∈ f, q.1.length ≤ b) → l.length + f.length * b ≤ 10000 →
    ∃ x2' x3' x4' x5', forL (gT [gN 2, gN 3]) b_names_of_2 (f.map encQ) [x0, some (.dic (l.map encB)), x2, x3, x4, x5] = .nx [x0, some (.dic (((allP f).foldl addN l).map encB)), x2', x3', x4', x5']
  | [], l, x2, x3, x4, x5, _, _, _ => ⟨x2, x3, x4, x5, rfl⟩
  | q :: f, l, x2, x3, x4, x5, nd, hb, hl => by
    have hq := hb q List.mem_cons_self
    rw [List.length_cons, Nat.add_mul, Nat.one_mul] at hl
    obtain ⟨y4, y5, e1⟩ := names_1 x0 (some (encM q.1)) (some (.int q.2)) q.1 l x4 x5 nd (by omega)
    have nl := nms_len q.1 l
    obtain ⟨x2', x3', x4', x5', e⟩ := names_2 x0 f (q.1.foldl addN l) (some (encM q.1)) (some (.int q.2)) y4 y5 (nms_nodup _ _ nd) (fun r hr => hb r (List.mem_cons_of_mem _ hr)) (by omega)
    refine ⟨x2', x3', x4', x5', ?_⟩
    rw [show allP (q :: f) = q.1 ++ allP f from rfl, List.foldl_append, ← e, List.map_cons]
    refine forL_step ?_
    unfold b_names_of_2
    rw [show encQ q = .tup [encM q.1, .int q.2] from rfl]
    walk_at "wk"
    rw [show encM q.1 = .tup (q.1.map encP) from rfl] at e1 ⊢
    walk_at "wk"
    rw [e1]
    walk_at "wk"
theorem names_of_eq {f : List Tm} {b : Nat} (hn : ∀ q ∈ f, ∀ p ∈ q.1, Nm p.1) (hb : ∀ q ∈ f, q.1.length ≤ b) (hl : f.length * b ≤ 10000) : m_names_of [.tup (f.map encQ)] = .ok (.tup ((namesOf f).map encN)) := by
  obtain ⟨x2, x3, x4, x5, e⟩ := names_2 (some (.tup (f.map encQ))) f [] none none none none List.nodup_nil hb (by simpa using hl)
  have e' : forL (gT [gN 2, gN 3]) b_names_of_2 (f.map encQ) [some (.tup (f.map encQ)), some (.dic []), none, none, none, none] = _ := e
  have e2 := sorted_D (kvs := ((allP f).foldl addN []).map encB) (ks := (nmsL (allP f)).map (·.1)) (keys_E encN D.bl _) (fun k hk => by
    have := (nms_mem (allP f) [] k).mp hk
    rcases this with h | h
    · exact absurd h List.not_mem_nil
    · obtain ⟨p, hp, rfl⟩ := List.mem_map.mp h
      obtain ⟨q, hq, hp⟩ := List.mem_flatMap.mp hp
      exact hn q hq p hp) (by
    rw [List.length_map]
    refine Nat.le_trans (nms_len (allP f) []) ?_
    rw [List.length_nil, Nat.zero_add]
    have : ∀ f : List Tm, (∀ q ∈ f, q.1.length ≤ b) → (allP f).length ≤ f.length * b := by
      intro f
      induction f with
      | nil => intro _; simp [allP]
      | cons q f ih =>
        intro h
        have h1 := ih fun r hr => h r (List.mem_cons_of_mem _ hr)
        have h2 := h q List.mem_cons_self
        rw [show allP (q :: f) = q.1 ++ allP f from rfl, List.length_append, List.length_cons, Nat.add_mul, Nat.one_mul]
        omega
    exact Nat.le_trans (this f hb) hl)
  unfold m_names_of b_names_of
  walk_at "wk"
  rw [e']
  walk_at "wk"
  rw [e2]
  walk_at "wk"
  rfl
def powOf (m : Mn) (x : List Nat) : Int := (fnd m x).getD 0
theorem dEq_N {a b : List Nat} (ha : Nm a) (hb : Nm b) : dEq (encN a) (encN b) = .ok (.bl (decide (a = b))) := by
  have e : PyData.eqv (toPy (encN a)) (toPy (encN b)) = decide (a = b) := by
    show PyData.eqv (.str (S a)) (.str (S b)) = _
    rw [PyData.eqv, S_beq]
  have sh : ∀ {l : List Nat}, Nm l → SeqAt.shaped (toPy (encN l)) = true := fun {l} h => by
    unfold SeqAt.shaped
    exact Bool.and_eq_true_iff.mpr ⟨strOk_nm h, rfl⟩
  show chk _ (Out.ok (D.bl (PyData.eqv (toPy (encN a)) (toPy (encN b))))) = _
  rw [e]
  exact chk_pos ⟨sh ha, sh hb⟩
theorem dNe_N {a b : List Nat} (ha : Nm a) (hb : Nm b) : dNe (encN a) (encN b) = .ok (.bl (!decide (a = b))) := by
  have h := dEq_N ha hb
  unfold dEq at h
  rw [chk_ok] at h
  obtain ⟨c, h⟩ := h
  have e : PyData.eqv (toPy (encN a)) (toPy (encN b)) = decide (a = b) := D.bl.inj (Out.ok.inj h)
  show chk _ (Out.ok (D.bl (!PyData.eqv (toPy (encN a)) (toPy (encN b))))) = _
  rw [e]
  exact chk_pos c
theorem pow_1 {x : List Nat} (hx : Nm x) (x0 : Option D) : ∀ (m : Mn) (x2 x3 : Option D), (∀ p ∈ m, Nm p.1) → (∃ x2' x3', forL (gT [gN 2, gN 3]) b_power_of_1 (m.map encP) [x0, some (encN x), x2, x3] = .nx [x0, some (encN x), x2', x3'] ∧ fnd m x = none) ∨
    ∃ v, forL (gT [gN 2, gN 3]) b_power_of_1 (m.map encP) [x0, some (encN x), x2, x3] = .rt (.int v) ∧ fnd m x = some v
  | [], x2, x3, _ => .inl ⟨x2, x3, rfl, rfl⟩
  | p :: m, x2, x3, hm => by
    have hp := hm p List.mem_cons_self
    have hm' := fun q (hq : q ∈ m) => hm q (List.mem_cons_of_mem _ hq)
    clear hm
    by_cases c : p.1 = x
    · refine .inr ⟨p.2, ?_, by simp [fnd, c]⟩
      rw [List.map_cons, forL_cons, show encP p = .tup [encN p.1, .int p.2] from rfl]
      unfold b_power_of_1
      have e1 := dEq_N hp hx
      rw [decide_eq_true c] at e1
      clear c
      walk_at "wka"
    · have e1 := dEq_N hp hx
      rw [decide_eq_false c] at e1
      have st : forL (gT [gN 2, gN 3]) b_power_of_1 ((p :: m).map encP) [x0, some (encN x), x2, x3] = forL (gT [gN 2, gN 3]) b_power_of_1 (m.map encP) [x0, some (encN x), some (encN p.1), some (.int p.2)] := by
        rw [List.map_cons]
        refine forL_step ?_
        rw [show encP p = .tup [encN p.1, .int p.2] from rfl]
        unfold b_power_of_1
        walk_at "wka"
      rw [st]
      have ef : fnd (p :: m) x = fnd m x := by simp [fnd, c]
      rw [ef]
      exact pow_1 hx x0 m _ _ hm'
theorem power_of_eq {m : Mn} {x : List Nat} (hm : ∀ p ∈ m, Nm p.1) (hx : Nm x) : m_power_of [encM m, encN x] = .ok (.int (powOf m x)) := by
  unfold m_power_of b_power_of powOf
  rw [show encM m = .tup (m.map encP) from rfl]
  walk_at "wk"
  rcases pow_1 hx (some (.tup (m.map encP))) m none none hm with ⟨x2, x3, e, f⟩ | ⟨v, e, f⟩
  · rw [e, f]; walk_at "wk"; rfl
  · rw [e, f]; walk_at "wk"; rfl
def restOf (m : Mn) (x : List Nat) : Mn := m.filter fun p => !decide (p.1 = x)
def rowQ (x : List Nat) (q : Tm) : Tm := (restOf q.1 x, q.2)
noncomputable def rowsOf (x : List Nat) (f : List Tm) : List (Int × List Tm) := f.foldl (fun l q => put l (powOf q.1 x) ((fnd l (powOf q.1 x)).getD [] ++ [rowQ x q])) []
def topOf (x : List Nat) (f : List Tm) : Int := f.foldl (fun t q => max t (powOf q.1 x)) 0
def partOf (x : List Nat) (f : List Tm) (k : Int) : List Tm := (f.filter fun q => decide (powOf q.1 x = k)).map (rowQ x)
noncomputable def byPow (x : List Nat) (f : List Tm) : List (List Tm) := (List.range (topOf x f + 1).toNat).map fun (k : Nat) => formOf (partOf x f k)
theorem rows_get (x : List Nat) (k : Int) : ∀ (f : List Tm) (l : List (Int × List Tm)), (fnd (f.foldl (fun l q => put l (powOf q.1 x) ((fnd l (powOf q.1 x)).getD [] ++ [rowQ x q])) l) k).getD [] = (fnd l k).getD [] ++ partOf x f k
  | [], l => by simp [partOf]
  | q :: f, l => by
    rw [List.foldl_cons, rows_get x k f, fnd_put]
    unfold partOf
    by_cases c : powOf q.1 x = k
    · rw [if_pos c, List.filter_cons_of_pos (by simp [c])]
      simp [c]
    · rw [if_neg c, List.filter_cons_of_neg (by simp [c])]
theorem top_le (x : List Nat) {b : Int} : ∀ (f : List Tm) (t : Int), (∀ q ∈ f, powOf q.1 x ≤ b) → t ≤ b → f.foldl (fun t q => max t (powOf q.1 x)) t ≤ b
  | [], _, _, h => h
  | q :: f, t, h, ht => top_le x f _ (fun r hr => h r (List.mem_cons_of_mem _ hr)) (by have := h q List.mem_cons_self; show max t (powOf q.1 x) ≤ b; omega)
theorem top_ge (x : List Nat) : ∀ (f : List Tm) (t : Int), t ≤ f.foldl (fun t q => max t (powOf q.1 x)) t
  | [], _ => Int.le_refl _
  | q :: f, t => Int.le_trans (Int.le_max_left _ _) (top_ge x f _)
theorem pow_le_top (x : List Nat) : ∀ (f : List Tm) (t : Int), ∀ q ∈ f, powOf q.1 x ≤ f.foldl (fun t q => max t (powOf q.1 x)) t
  | q :: f, t, r, hr => by
    rcases List.mem_cons.mp hr with rfl | hr
    · exact Int.le_trans (Int.le_max_right _ _) (top_ge x f _)
    · exact pow_le_top x f _ r hr
theorem powOf_le {most : Int} (h0 : 0 ≤ most) {m : Mn} (h : ∀ p ∈ m, p.2 ≤ most) (x : List Nat) : powOf m x ≤ most := by
  unfold powOf
  cases e : fnd m x with
  | none => exact h0
  | some v => exact h _ (fnd_some e)
theorem powOf_nn {m : Mn} (h : ∀ p ∈ m, 0 ≤ p.2) (x : List Nat) : 0 ≤ powOf m x := by
  unfold powOf
  cases e : fnd m x with
  | none => exact Int.le_refl _
  | some v => exact h _ (fnd_some e)
theorem Mono.rest {most : Int} {m : Mn} (h : Mono most m) (x : List Nat) : Mono most (restOf m x) :=
  ⟨fun p hp => h.nm p (List.mem_filter.mp hp).1, h.up.filter _, Nat.le_trans (List.length_filter_le _ _) h.few⟩
theorem rest_lc {x : List Nat} (hx : Nm x) {m : Mn} (hm : ∀ p ∈ m, Nm p.1) {x0 x2 x3 x4 x5 x6 x7 x8 : Option D} :
    lcL (gN 9) (tOf (PD.e2 dNe (PD.e2 dIx (eV 9) (eC (.int 0))) (eV 1))) (eV 9) [x0, some (encN x), x2, x3, x4, x5, x6, x7, x8, none] (m.map encP) = .ok ((restOf m x).map encP) := by
  refine lcL_filter encP (fun p => !decide (p.1 = x)) encP m fun p hp => ?_
  rw [show encP p = .tup [encN p.1, .int p.2] from rfl]
  walk_at "wk"
  rw [dNe_N (hm p hp) hx]
  walk_at "wk"
  by_cases c : p.1 = x <;> simp [c]
theorem by_1 {x : List Nat} (hx : Nm x) (x0 : Option D) : ∀ (f : List Tm) (l : List (Int × List Tm)) (t : Int) (x4 x5 x6 x7 x9 : Option D), (l.map (·.1)).Nodup → (∀ q ∈ f, (∀ p ∈ q.1, Nm p.1) ∧ q.1.length ≤ 1000) → l.length + f.length ≤ 10000 → (∀ k, ((fnd l k).getD []).length + f.length ≤ 10000) →
    ∃ x4' x5' x6' x7' x8' x9', forL (gT [gN 4, gN 5]) b_by_power_1 (f.map encQ) [x0, some (encN x), some (.dic (l.map (encE D.int fun g : List Tm => .lst (g.map encQ)))), some (.int t), x4, x5, x6, x7, none, x9]
      = .nx [x0, some (encN x), some (.dic ((f.foldl (fun l q => put l (powOf q.1 x) ((fnd l (powOf q.1 x)).getD [] ++ [rowQ x q])) l).map (encE D.int fun g : List Tm => .lst (g.map encQ)))), some (.int (f.foldl (fun t q => max t (powOf q.1 x)) t)), x4', x5', x6', x7', x8', x9']
  | [], l, t, x4, x5, x6, x7, x9, _, _, _, _ => ⟨x4, x5, x6, x7, none, x9, rfl⟩
  | q :: f, l, t, x4, x5, x6, x7, x9, nd, hf, hl, hk => by
    obtain ⟨hq, hq2⟩ := hf q List.mem_cons_self
    have hl' : l.length + (f.length + 1) ≤ 10000 := hl
    have hk' := fun k => (show ((fnd l k).getD []).length + (f.length + 1) ≤ 10000 from hk k)
    obtain ⟨y4, y5, y6, y7, y8, y9, e⟩ := by_1 hx x0 f (put l (powOf q.1 x) ((fnd l (powOf q.1 x)).getD [] ++ [rowQ x q])) (max t (powOf q.1 x)) (some (encM q.1)) (some (.int q.2)) (some (.int (powOf q.1 x))) (some (encM (restOf q.1 x))) x9 (put_nodup nd _ _)
      (fun r hr => hf r (List.mem_cons_of_mem _ hr)) (by have := put_len l (powOf q.1 x) ((fnd l (powOf q.1 x)).getD [] ++ [rowQ x q]); omega) (fun k => by
        rw [fnd_put]
        by_cases c : powOf q.1 x = k
        · rw [if_pos c, c, Option.getD_some, List.length_append, List.length_singleton]
          have := hk' k; omega
        · rw [if_neg c]; have := hk' k; omega)
    refine ⟨y4, y5, y6, y7, y8, y9, ?_⟩
    rw [List.foldl_cons, List.foldl_cons, ← e, List.map_cons]
    refine forL_step ?_
    have e1 := power_of_eq hq hx
    have e2 := fun x0 x2 x3 x4 x5 x6 x7 x8 => rest_lc hx hq (x0 := x0) (x2 := x2) (x3 := x3) (x4 := x4) (x5 := x5) (x6 := x6) (x7 := x7) (x8 := x8)
    have e3 := dicGet_F (ev := fun g : List Tm => .lst (g.map encQ)) int_inj l (powOf q.1 x)
    have e4 := dicPut_F (ev := fun g : List Tm => .lst (g.map encQ)) int_inj nd (powOf q.1 x) ((fnd l (powOf q.1 x)).getD [] ++ [rowQ x q])
    have e5 : asL ((fnd l (powOf q.1 x)).map fun g : List Tm => .lst (g.map encQ)) = .ok (((fnd l (powOf q.1 x)).getD []).map encQ) := by cases fnd l (powOf q.1 x) <;> rfl
    have k1 := hk' (powOf q.1 x)
    unfold b_by_power_1
    rw [show encQ q = .tup [encM q.1, .int q.2] from rfl]
    walk_at "wk"
    rw [e1]
    walk_at "wk"
    rw [show encM q.1 = .tup (q.1.map encP) from rfl]
    walk_at "wk"
    rw [e2]
    walk_at "wk"
    rw [e3, e5]
    walk_at "wk"
    rw [chkS_pos (by rw [List.length_map]; exact Nat.le_trans hq2 (by decide)), chkS_pos ⟨rfl, by rw [List.length_map]; exact Nat.lt_of_le_of_lt (show l.length ≤ 10000 by omega) (by decide), by decide⟩, chkS_pos (by rw [List.length_map]; exact Nat.lt_of_le_of_lt (show _ ≤ 10000 by omega) (by decide))]
    rw [List.map_append] at e4
    rw [← e4]
    rfl
theorem partOf_mono {most : Int} {x : List Nat} {f : List Tm} (h : ∀ q ∈ f, Mono most q.1) (k : Int) : ∀ q ∈ partOf x f k, Mono most q.1 := fun q hq => by
  obtain ⟨r, hr, rfl⟩ := List.mem_map.mp hq
  exact (h r (List.mem_filter.mp hr).1).rest x
theorem partOf_len (x : List Nat) (f : List Tm) (k : Int) : (partOf x f k).length ≤ f.length := by
  unfold partOf
  rw [List.length_map]
  exact List.length_filter_le _ _
theorem by_power_eq {most : Int} {x : List Nat} {f : List Tm} (hx : Nm x) (h0 : 0 ≤ most) (hm : most ≤ 10000) (hf : ∀ q ∈ f, Mono most q.1) (hl : f.length ≤ 10000) : m_by_power [.tup (f.map encQ), encN x] = .ok (.tup ((byPow x f).map fun g => .tup (g.map encQ))) := by
  obtain ⟨x4, x5, x6, x7, x8, x9, e⟩ := by_1 hx (some (.tup (f.map encQ))) f [] 0 none none none none none List.nodup_nil (fun q hq => ⟨fun p hp => ((hf q hq).nm p hp).1, (hf q hq).few⟩) (by simpa using hl) (fun k => by simpa [fnd] using hl)
  have e' : forL (gT [gN 4, gN 5]) b_by_power_1 (f.map encQ) [some (.tup (f.map encQ)), some (encN x), some (.dic []), some (.int 0), none, none, none, none, none, none] = .nx [some (.tup (f.map encQ)), some (encN x), some (.dic ((rowsOf x f).map (encE D.int fun g : List Tm => .lst (g.map encQ)))), some (.int (topOf x f)), x4, x5, x6, x7, x8, x9] := e
  have ht : topOf x f ≤ most := top_le x f 0 (fun q hq => powOf_le h0 (fun p hp => ((hf q hq).nm p hp).2.2) x) h0
  have ht0 : 0 ≤ topOf x f := top_ge x f 0
  have e2 : ∀ (kvs : List (D × D)) (x0 x3 x4 x5 x7 x8 x9 : Option D), kvs = (rowsOf x f).map (encE D.int fun g : List Tm => .lst (g.map encQ)) →
      lcL (gN 6) bYes (eA m_form_of (aC (eGet2 (eV 2) (eV 6) (eA mkLst aN)) aN)) [x0, some (encN x), some (.dic kvs), x3, x4, x5, none, x7, x8, x9] ((List.range (topOf x f + 1).toNat).map fun (k : Nat) => .int k) = .ok ((byPow x f).map fun g => .tup (g.map encQ)) := by
    intro kvs x0 x3 x4 x5 x7 x8 x9 ek
    unfold byPow
    rw [List.map_map]
    refine lcL_map (fun (k : Nat) => D.int k) _ _ fun k hk => ?_
    have g1 := getF (ev := fun g : List Tm => .lst (g.map encQ)) int_inj (rowsOf x f) (k : Int) []
    have g2 := dkey_F (ev := fun g : List Tm => .lst (g.map encQ)) flat_I (rowsOf x f) (k : Int)
    rw [← ek] at g1 g2
    have g3 : (fnd (rowsOf x f) (k : Int)).getD [] = partOf x f k := by
      have := rows_get x k f []
      rw [show fnd ([] : List (Int × List Tm)) (k : Int) = none from rfl] at this
      unfold rowsOf
      simpa using this
    rw [g3] at g1
    have g4 := form_eq (ps := partOf x f k) (partOf_mono hf k) (Nat.le_trans (partOf_len x f k) hl)
    walk_at "wk"
    rw [chk_pos g2]
    rw [show D.lst [] = (fun g : List Tm => D.lst (g.map encQ)) [] from rfl, g1]
    rw [g4]
    walk_at "wk"
    rfl
  unfold m_by_power b_by_power
  walk_at "wk"
  refine chk_go rfl ?_
  rw [e']
  walk_at "wk"
  rw [e2 _ _ _ _ _ _ _ _ rfl, List.length_map, List.length_range]
  walk_at "wk"
  rw [chk_pos ⟨by omega, by omega⟩, chk_pos (len_ok (by omega))]
def addS (l : List (List Nat × Int)) (p : Pr) : List (List Nat × Int) := put l p.1 (max p.2 ((fnd l p.1).getD 0))
def stL (ps : List Pr) : List (List Nat × Int) := ps.foldl addS []
theorem st_nodup : ∀ (ps : List Pr) (l : List (List Nat × Int)), (l.map (·.1)).Nodup → ((ps.foldl addS l).map (·.1)).Nodup
  | [], _, h => h
  | p :: ps, l, h => st_nodup ps _ (put_nodup h _ _)
theorem st_len : ∀ (ps : List Pr) (l : List (List Nat × Int)), (ps.foldl addS l).length ≤ l.length + ps.length
  | [], _ => Nat.le_refl _
  | p :: ps, l => by
    rw [List.foldl_cons]
    have h1 := st_len ps (addS l p)
    have h2 := put_len l p.1 (max p.2 ((fnd l p.1).getD 0))
    rw [List.length_cons]
    unfold addS at *
    omega
theorem st_keys : ∀ (ps : List Pr) (l : List (List Nat × Int)) (x : List Nat), x ∈ (ps.foldl addS l).map (·.1) ↔ x ∈ l.map (·.1) ∨ x ∈ ps.map (·.1)
  | [], _, _ => by simp
  | p :: ps, l, x => by
    rw [List.foldl_cons, st_keys ps]
    unfold addS
    rw [put_keys]
    by_cases c : p.1 ∈ l.map (·.1)
    · rw [if_pos c, List.map_cons, List.mem_cons]
      constructor
      · rintro (h | h)
        · exact .inl h
        · exact .inr (.inr h)
      · rintro (h | h | h)
        · exact .inl h
        · exact .inl (h ▸ c)
        · exact .inr h
    · rw [if_neg c, List.mem_append, List.mem_singleton, List.map_cons, List.mem_cons, or_assoc]
def maxP (x : List Nat) : List Pr → Int → Int
  | [], t => t
  | p :: ps, t => maxP x ps (if p.1 = x then max p.2 t else t)
theorem st_get (x : List Nat) : ∀ (ps : List Pr) (l : List (List Nat × Int)), (fnd (ps.foldl addS l) x).getD 0 = maxP x ps ((fnd l x).getD 0)
  | [], _ => rfl
  | p :: ps, l => by
    rw [List.foldl_cons, st_get x ps]
    unfold addS
    rw [fnd_put]
    show _ = maxP x ps _
    by_cases c : p.1 = x
    · rw [if_pos c, if_pos c, Option.getD_some, c]
    · rw [if_neg c, if_neg c]
theorem maxP_app (x : List Nat) : ∀ (a b : List Pr) (t : Int), maxP x (a ++ b) t = maxP x b (maxP x a t)
  | [], _, _ => rfl
  | p :: a, b, t => maxP_app x a b _
theorem maxP_none (x : List Nat) : ∀ (m : Mn) (t : Int), x ∉ m.map (·.1) → maxP x m t = t
  | [], _, _ => rfl
  | p :: m, t, h => by
    rw [List.map_cons, List.mem_cons, not_or] at h
    show maxP x m (if p.1 = x then _ else _) = _
    rw [if_neg (fun z => h.1 z.symm), maxP_none x m t h.2]
theorem maxP_mono (x : List Nat) : ∀ (m : Mn) (t : Int), (m.map (·.1)).Nodup → 0 ≤ t → maxP x m t = max t (powOf m x)
  | [], t, _, h => by show t = max t 0; omega
  | p :: m, t, nd, h => by
    rw [List.map_cons, List.nodup_cons] at nd
    show maxP x m (if p.1 = x then _ else _) = _
    unfold powOf
    by_cases c : p.1 = x
    · rw [if_pos c, maxP_none x m _ (by rw [← c]; exact nd.1)]
      simp only [fnd, if_pos c, Option.getD_some]
      omega
    · rw [if_neg c, maxP_mono x m t nd.2 h]
      simp only [fnd, if_neg c]
      rfl
theorem maxP_form (x : List Nat) : ∀ (f : List Tm) (t : Int), (∀ q ∈ f, (q.1.map (·.1)).Nodup) → 0 ≤ t → maxP x (allP f) t = f.foldl (fun t q => max t (powOf q.1 x)) t
  | [], _, _, _ => rfl
  | q :: f, t, h, ht => by
    rw [show allP (q :: f) = q.1 ++ allP f from rfl, maxP_app, maxP_mono x q.1 t (h q List.mem_cons_self) ht, List.foldl_cons]
    exact maxP_form x f _ (fun r hr => h r (List.mem_cons_of_mem _ hr)) (by omega)
theorem stands_get {most : Int} {f : List Tm} (h : ∀ q ∈ f, Mono most q.1) (x : List Nat) : (fnd (stL (allP f)) x).getD 0 = topOf x f := by
  unfold stL
  rw [st_get]
  exact maxP_form x f 0 (fun q hq => up_nodup (h q hq).up) (Int.le_refl _)
theorem stands_keys (f : List Tm) (x : List Nat) : x ∈ (stL (allP f)).map (·.1) ↔ x ∈ namesOf f := by
  unfold stL namesOf nmsL
  rw [st_keys, sortN_mem, nms_mem]
  rfl
theorem tops_1 (x0 x2 x3 : Option D) : ∀ (m : Mn) (l : List (List Nat × Int)) (x4 x5 : Option D), (l.map (·.1)).Nodup → l.length + m.length ≤ 10000 →
    ∃ x4' x5', forL (gT [gN 4, gN 5]) b_tops_of_1 (m.map encP) [x0, some (.dic (l.map (encE encN D.int))), x2, x3, x4, x5] = .nx [x0, some (.dic ((m.foldl addS l).map (encE encN D.int))), x2, x3, x4', x5']
  | [], l, x4, x5, _, _ => ⟨x4, x5, rfl⟩
  | p :: m, l, x4, x5, nd, hl => by
    obtain ⟨x4', x5', e⟩ := tops_1 x0 x2 x3 m (addS l p) (some (encN p.1)) (some (.int p.2)) (put_nodup nd _ _) (by have := put_len l p.1 (max p.2 ((fnd l p.1).getD 0)); unfold addS; rw [List.length_cons] at hl; omega)
    refine ⟨x4', x5', ?_⟩
    have e1 := putO_F (ev := D.int) encN_inj flat_N nd (by omega) p.1 (max p.2 ((fnd l p.1).getD 0))
    have em : max ((fnd l p.1).getD 0) p.2 = max p.2 ((fnd l p.1).getD 0) := by omega
    have e2 := dkey_F (ev := D.int) flat_N l p.1
    have e3 := getF (ev := D.int) encN_inj l p.1 0
    rw [List.foldl_cons, ← e, List.map_cons]
    refine forL_step ?_
    unfold b_tops_of_1
    rw [show encP p = .tup [encN p.1, .int p.2] from rfl]
    walk_at "wka"
    rfl
theorem tops_2 (x0 : Option D) {b : Nat} : ∀ (f : List Tm) (l : List (List Nat × Int)) (x2 x3 x4 x5 : Option D), (l.map (·.1)).Nodup → (∀ q ∈ f, q.1.length ≤ b) → l.length + f.length * b ≤ 10000 →
    ∃ x2' x3' x4' x5', forL (gT [gN 2, gN 3]) b_tops_of_2 (f.map encQ) [x0, some (.dic (l.map (encE encN D.int))), x2, x3, x4, x5] = .nx [x0, some (.dic (((allP f).foldl addS l).map (encE encN D.int))), x2', x3', x4', x5']
  | [], l, x2, x3, x4, x5, _, _, _ => ⟨x2, x3, x4, x5, rfl⟩
  | q :: f, l, x2, x3, x4, x5, nd, hb, hl => by
    have hq := hb q List.mem_cons_self
    rw [List.length_cons, Nat.add_mul, Nat.one_mul] at hl
    obtain ⟨y4, y5, e1⟩ := tops_1 x0 (some (encM q.1)) (some (.int q.2)) q.1 l x4 x5 nd (by omega)
    have nl := st_len q.1 l
    obtain ⟨x2', x3', x4', x5', e⟩ := tops_2 x0 f (q.1.foldl addS l) (some (encM q.1)) (some (.int q.2)) y4 y5 (st_nodup _ _ nd) (fun r hr => hb r (List.mem_cons_of_mem _ hr)) (by omega)
    refine ⟨x2', x3', x4', x5', ?_⟩
    rw [show allP (q :: f) = q.1 ++ allP f from rfl, List.foldl_append, ← e, List.map_cons]
    refine forL_step ?_
    unfold b_tops_of_2
    rw [show encQ q = .tup [encM q.1, .int q.2] from rfl]
    walk_at "wk"
    rw [show encM q.1 = .tup (q.1.map encP) from rfl] at e1 ⊢
    walk_at "wk"
    rw [e1]
    walk_at "wk"
theorem tops_eq {f : List Tm} {b : Nat} (hb : ∀ q ∈ f, q.1.length ≤ b) (hl : f.length * b ≤ 10000) : m_tops_of [.tup (f.map encQ)] = .ok (.dic ((stL (allP f)).map (encE encN D.int))) := by
  obtain ⟨x2, x3, x4, x5, e⟩ := tops_2 (some (.tup (f.map encQ))) f [] none none none none List.nodup_nil hb (by simpa using hl)
  have e' : forL (gT [gN 2, gN 3]) b_tops_of_2 (f.map encQ) [some (.tup (f.map encQ)), some (.dic []), none, none, none, none] = .nx [some (.tup (f.map encQ)), some (.dic ((stL (allP f)).map (encE encN D.int))), x2, x3, x4, x5] := e
  unfold m_tops_of b_tops_of
  walk_at "wk"
  rw [e']
  walk_at "wk"
namespace RR
abbrev Sq := Nat → Rat
def Pos (f : Sq) : Prop := ∃ e : Rat, 0 < e ∧ ∃ N, ∀ n, N ≤ n → e ≤ f n
def Null (f : Sq) : Prop := ∀ e : Rat, 0 < e → ∃ N, ∀ n, N ≤ n → -e ≤ f n ∧ f n ≤ e
def Bd (f : Sq) : Prop := ∃ b : Rat, 0 < b ∧ ∀ n, -b ≤ f n ∧ f n ≤ b
theorem Pos.add {f g : Sq} (hf : Pos f) (hg : Pos g) : Pos fun n => f n + g n := by
  obtain ⟨e, he, N, h⟩ := hf
  obtain ⟨d, hd, M, k⟩ := hg
  refine ⟨e + d, by grind, max N M, fun n hn => ?_⟩
  have := h n (by omega)
  have := k n (by omega)
  grind
theorem Pos.mul {f g : Sq} (hf : Pos f) (hg : Pos g) : Pos fun n => f n * g n := by
  obtain ⟨e, he, N, h⟩ := hf
  obtain ⟨d, hd, M, k⟩ := hg
  refine ⟨e * d, Rat.mul_pos he hd, max N M, fun n hn => ?_⟩
  have h1 := h n (by omega)
  have h2 := k n (by omega)
  have h3 : 0 ≤ (f n - e) * d := Rat.mul_nonneg (by grind) (by grind)
  have h4 : 0 ≤ f n * (g n - d) := Rat.mul_nonneg (by grind) (by grind)
  grind
theorem Null.add {f g : Sq} (hf : Null f) (hg : Null g) : Null fun n => f n + g n := fun e he => by
  obtain ⟨N, h⟩ := hf (e / 2) (by grind)
  obtain ⟨M, k⟩ := hg (e / 2) (by grind)
  refine ⟨max N M, fun n hn => ?_⟩
  have := h n (by omega)
  have := k n (by omega)
  grind
theorem Pos.null {f g : Sq} (hf : Pos f) (hg : Null g) : Pos fun n => f n + g n := by
  obtain ⟨e, he, N, h⟩ := hf
  obtain ⟨M, k⟩ := hg (e / 2) (by grind)
  refine ⟨e / 2, by grind, max N M, fun n hn => ?_⟩
  have := h n (by omega)
  have := k n (by omega)
  grind
theorem Pos.not_null {f : Sq} (hf : Pos f) (hg : Null f) : False := by
  obtain ⟨e, he, N, h⟩ := hf
  obtain ⟨M, k⟩ := hg (e / 2) (by grind)
  have := h (max N M) (by omega)
  have := k (max N M) (by omega)
  grind
end RR
namespace RR
theorem root_ex (m : Nat) : ∃ k : Nat, k * k ≤ m ∧ m < (k + 1) * (k + 1) := by
  induction m with
  | zero => exact ⟨0, by decide, by decide⟩
  | succ m ih =>
    obtain ⟨k, h1, h2⟩ := ih
    by_cases c : m + 1 < (k + 1) * (k + 1)
    · exact ⟨k, by omega, c⟩
    · refine ⟨k + 1, by omega, ?_⟩
      have : (k + 1) * (k + 1) < (k + 1 + 1) * (k + 1 + 1) := Nat.mul_lt_mul'' (by omega) (by omega)
      omega
noncomputable def rt (m : Nat) : Nat := Classical.choose (root_ex m)
theorem rt_le (m : Nat) : rt m * rt m ≤ m := (Classical.choose_spec (root_ex m)).1
theorem rt_lt (m : Nat) : m < (rt m + 1) * (rt m + 1) := (Classical.choose_spec (root_ex m)).2
noncomputable def sq (r : Nat) : Sq := fun n => (rt (r * ((n + 1) * (n + 1))) : Rat) / ((n + 1 : Nat) : Rat)
theorem arch (e : Rat) (he : 0 < e) (c : Rat) : ∃ N : Nat, ∀ n : Nat, N ≤ n → c ≤ e * ((n + 1 : Nat) : Rat) := by
  refine ⟨(c / e).ceil.toNat, fun n hn => ?_⟩
  have h1 : c / e ≤ ((c / e).ceil : Rat) := Rat.le_ceil
  have h2 : (c / e).ceil ≤ ((n + 1 : Nat) : Int) := by omega
  have h3 : ((c / e).ceil : Rat) ≤ (((n + 1 : Nat) : Int) : Rat) := by exact_mod_cast h2
  have h4 : (((n + 1 : Nat) : Int) : Rat) = ((n + 1 : Nat) : Rat) := rfl
  have h5 : c / e ≤ ((n + 1 : Nat) : Rat) := by rw [← h4]; exact Rat.le_trans h1 h3
  have h6 : c = e * (c / e) := by grind
  rw [h6]
  exact Rat.mul_le_mul_of_nonneg_left h5 (by grind)
end RR
namespace RR
theorem sq_mul (r n : Nat) : sq r n * ((n + 1 : Nat) : Rat) = (rt (r * ((n + 1) * (n + 1))) : Rat) := by
  unfold sq
  have : ((n + 1 : Nat) : Rat) ≠ 0 := by
    have : 0 < ((n + 1 : Nat) : Rat) := by exact_mod_cast Nat.succ_pos n
    grind
  grind
theorem N_pos (n : Nat) : 0 < ((n + 1 : Nat) : Rat) := by exact_mod_cast Nat.succ_pos n
theorem rt_small (r n : Nat) : rt (r * ((n + 1) * (n + 1))) ≤ (r + 1) * (n + 1) := by
  have h := rt_le (r * ((n + 1) * (n + 1)))
  apply Classical.byContradiction
  intro c
  have h1 : ((r + 1) * (n + 1)) * ((r + 1) * (n + 1)) < rt (r * ((n + 1) * (n + 1))) * rt (r * ((n + 1) * (n + 1))) := Nat.mul_lt_mul'' (by omega) (by omega)
  have h2 : r * ((n + 1) * (n + 1)) ≤ ((r + 1) * (n + 1)) * ((r + 1) * (n + 1)) := by
    have : ((r + 1) * (n + 1)) * ((r + 1) * (n + 1)) = ((r + 1) * (r + 1)) * ((n + 1) * (n + 1)) := by grind
    rw [this]
    exact Nat.mul_le_mul_right _ (by grind)
  omega
theorem sq_nn (r n : Nat) : 0 ≤ sq r n := by
  have h1 := N_pos n
  have h2 : (0 : Rat) ≤ (rt (r * ((n + 1) * (n + 1))) : Rat) := by exact_mod_cast Nat.zero_le _
  rw [← sq_mul] at h2
  exact Rat.le_of_mul_le_mul_right (by grind) h1
theorem sq_le (r n : Nat) : sq r n ≤ (r : Rat) + 1 := by
  have h1 := N_pos n
  have h2 : (rt (r * ((n + 1) * (n + 1))) : Rat) ≤ (((r + 1) * (n + 1) : Nat) : Rat) := by exact_mod_cast rt_small r n
  have h3 : (((r + 1) * (n + 1) : Nat) : Rat) = ((r : Rat) + 1) * ((n + 1 : Nat) : Rat) := by push_cast; rfl
  rw [← sq_mul, h3] at h2
  exact Rat.le_of_mul_le_mul_right h2 h1
theorem sq_sq (r : Nat) : Null fun n => sq r n * sq r n - (r : Rat) := fun e he => by
  obtain ⟨M, h⟩ := arch e he (2 * ((r : Rat) + 1))
  refine ⟨M, fun n hn => ?_⟩
  show -e ≤ sq r n * sq r n - (r : Rat) ∧ sq r n * sq r n - (r : Rat) ≤ e
  have h0 := h n hn
  have h1 := N_pos n
  have k1 := rt_le (r * ((n + 1) * (n + 1)))
  have k2 := rt_lt (r * ((n + 1) * (n + 1)))
  have k3 := sq_mul r n
  have k4 := sq_le r n
  have k5 := sq_nn r n
  generalize rt (r * ((n + 1) * (n + 1))) = k at *
  have q1 : ((k * k : Nat) : Rat) ≤ ((r * ((n + 1) * (n + 1)) : Nat) : Rat) := by exact_mod_cast k1
  have q2 : ((r * ((n + 1) * (n + 1)) : Nat) : Rat) ≤ ((k * k + 2 * k : Nat) : Rat) := by exact_mod_cast (by grind : r * ((n + 1) * (n + 1)) ≤ k * k + 2 * k)
  have c1 : ((k * k : Nat) : Rat) = (k : Rat) * k := by push_cast; rfl
  have c2 : ((r * ((n + 1) * (n + 1)) : Nat) : Rat) = (r : Rat) * (((n + 1 : Nat) : Rat) * ((n + 1 : Nat) : Rat)) := by push_cast; rfl
  have c3 : ((k * k + 2 * k : Nat) : Rat) = (k : Rat) * k + 2 * k := by push_cast; rfl
  rw [c1, c2] at q1
  rw [c2, c3] at q2
  rw [← k3] at q1 q2
  generalize ((n + 1 : Nat) : Rat) = N at *
  generalize sq r n = s at *
  have N2 : 0 < N * N := Rat.mul_pos h1 h1
  have a1 : (s * s) * (N * N) ≤ (r : Rat) * (N * N) := by grind
  have a2 : s * s ≤ (r : Rat) := Rat.le_of_mul_le_mul_right a1 N2
  have a3 : ((r : Rat) - s * s) * N ≤ 2 * s := by
    have : (((r : Rat) - s * s) * N) * N ≤ (2 * s) * N := by grind
    exact Rat.le_of_mul_le_mul_right this h1
  have a4 : ((r : Rat) - s * s) * N ≤ e * N := by grind
  have a5 := Rat.le_of_mul_le_mul_right a4 h1
  grind
end RR
namespace RR
theorem sq_ge (r n : Nat) (h : 1 ≤ r) : 1 ≤ sq r n := by
  have h1 := N_pos n
  have k2 := rt_lt (r * ((n + 1) * (n + 1)))
  have k3 := sq_mul r n
  generalize rt (r * ((n + 1) * (n + 1))) = k at *
  have c : n + 1 ≤ k := by
    apply Classical.byContradiction
    intro c
    have h2 : (k + 1) * (k + 1) ≤ (n + 1) * (n + 1) := Nat.mul_le_mul (by omega) (by omega)
    have h3 : 1 * ((n + 1) * (n + 1)) ≤ r * ((n + 1) * (n + 1)) := Nat.mul_le_mul_right _ h
    omega
  have c' : ((n + 1 : Nat) : Rat) ≤ (k : Rat) := by exact_mod_cast c
  rw [← k3] at c'
  exact Rat.le_of_mul_le_mul_right (by grind) h1
theorem div_pos {e b : Rat} (he : 0 < e) (hb : 0 < b) : 0 < e / b := by
  have h4 : e = (e / b) * b := by grind
  apply Classical.byContradiction
  intro c
  have := Rat.mul_nonneg (show 0 ≤ -(e / b) by grind) (show 0 ≤ b by grind)
  grind
theorem Null.mul {f g : Sq} (hf : Null f) (hg : Bd g) : Null fun n => f n * g n := fun e he => by
  obtain ⟨b, b0, hb⟩ := hg
  obtain ⟨N, h⟩ := hf (e / b) (div_pos he b0)
  refine ⟨N, fun n hn => ?_⟩
  have h1 := h n hn
  have h2 := hb n
  show -e ≤ f n * g n ∧ f n * g n ≤ e
  have h4 : e = (e / b) * b := by grind
  have h5 : 0 < e / b := div_pos he b0
  generalize e / b = d at *
  generalize f n = x at *
  generalize g n = y at *
  have q1 : 0 ≤ (d - x) * (b + y) := Rat.mul_nonneg (by grind) (by grind)
  have q2 : 0 ≤ (d + x) * (b - y) := Rat.mul_nonneg (by grind) (by grind)
  have q3 : 0 ≤ (d - x) * (b - y) := Rat.mul_nonneg (by grind) (by grind)
  have q4 : 0 ≤ (d + x) * (b + y) := Rat.mul_nonneg (by grind) (by grind)
  constructor <;> grind
end RR
namespace RR
theorem Bd.const (c : Rat) : Bd fun _ => c := by
  by_cases h : 0 ≤ c
  · exact ⟨c + 1, by grind, fun n => by grind⟩
  · exact ⟨1 - c, by grind, fun n => by grind⟩
theorem Bd.add {f g : Sq} (hf : Bd f) (hg : Bd g) : Bd fun n => f n + g n := by
  obtain ⟨a, a0, ha⟩ := hf
  obtain ⟨b, b0, hb⟩ := hg
  refine ⟨a + b, by grind, fun n => ?_⟩
  have := ha n
  have := hb n
  grind
theorem Bd.neg {f : Sq} (hf : Bd f) : Bd fun n => - f n := by
  obtain ⟨a, a0, ha⟩ := hf
  refine ⟨a, a0, fun n => ?_⟩
  have := ha n
  grind
theorem Bd.mul {f g : Sq} (hf : Bd f) (hg : Bd g) : Bd fun n => f n * g n := by
  obtain ⟨a, a0, ha⟩ := hf
  obtain ⟨b, b0, hb⟩ := hg
  refine ⟨3 * (a * b), by have := Rat.mul_pos a0 b0; grind, fun n => ?_⟩
  have h1 := ha n
  have h2 := hb n
  show -(3 * (a * b)) ≤ f n * g n ∧ f n * g n ≤ 3 * (a * b)
  generalize f n = x at *
  generalize g n = y at *
  have q1 : 0 ≤ (a - x) * (b + y) := Rat.mul_nonneg (by grind) (by grind)
  have q2 : 0 ≤ (a + x) * (b - y) := Rat.mul_nonneg (by grind) (by grind)
  have q3 : 0 ≤ (a - x) * (b - y) := Rat.mul_nonneg (by grind) (by grind)
  have q4 : 0 ≤ (a + x) * (b + y) := Rat.mul_nonneg (by grind) (by grind)
  have q5 := Rat.mul_pos a0 b0
  constructor <;> grind
theorem Bd.sq (r : Nat) : Bd (sq r) := by
  have h : (0 : Rat) ≤ (r : Rat) := by exact_mod_cast Nat.zero_le r
  refine ⟨(r : Rat) + 1, by grind, fun n => ?_⟩
  have h1 := sq_nn r n
  have h2 := sq_le r n
  grind
theorem Null.neg {f : Sq} (hf : Null f) : Null fun n => - f n := fun e he => by
  obtain ⟨N, h⟩ := hf e he
  refine ⟨N, fun n hn => ?_⟩
  have := h n hn
  show -e ≤ - f n ∧ - f n ≤ e
  grind
theorem Pos.const {c : Rat} (h : 0 < c) : Pos fun _ => c := ⟨c, h, 0, fun _ _ => by grind⟩
theorem Null.zero : Null fun _ => 0 := fun e he => ⟨0, fun _ _ => by grind⟩
theorem Pos.cg {f g : Sq} (hf : Pos f) (h : Null fun n => g n - f n) : Pos g := by
  have := hf.null h
  have e : (fun n => f n + (g n - f n)) = g := by funext n; grind
  rwa [e] at this
theorem Null.cg {f g : Sq} (hf : Null f) (h : Null fun n => g n - f n) : Null g := by
  have := hf.add h
  have e : (fun n => f n + (g n - f n)) = g := by funext n; grind
  rwa [e] at this
end RR
namespace RR
def Sg (s : Int) (f : Sq) : Prop := (s = 1 ∧ Pos f) ∨ (s = 0 ∧ Null f) ∨ (s = -1 ∧ Pos fun n => - f n)
theorem Pos.of_sq' {f g : Sq} (h : Pos fun n => f n * f n - g n * g n) (pf : Pos f) (pg : Pos g) (bf : Bd f) (bg : Bd g) : Pos fun n => f n - g n := by
  obtain ⟨e, he, N, h⟩ := h
  obtain ⟨c, hc, M, pf⟩ := pf
  obtain ⟨d, hd, L, pg⟩ := pg
  obtain ⟨a, a0, ba⟩ := bf
  obtain ⟨b, b0, bb⟩ := bg
  have q := div_pos he (show 0 < a + b by grind)
  refine ⟨e / (a + b), q, max N (max M L), fun n hn => ?_⟩
  have h1 : e ≤ f n * f n - g n * g n := h n (by omega)
  have h2 := pf n (by omega)
  have h3 := pg n (by omega)
  have h4 := ba n
  have h5 := bb n
  have h6 : e = (e / (a + b)) * (a + b) := by grind
  show e / (a + b) ≤ f n - g n
  generalize e / (a + b) = k at *
  generalize f n = x at *
  generalize g n = y at *
  apply Classical.byContradiction
  intro z
  have s0 : 0 < x + y := by grind
  have h7 : (x - y) * (x + y) < k * (x + y) := Rat.mul_lt_mul_of_pos_right (by grind) s0
  have h8 : k * (x + y) ≤ k * (a + b) := Rat.mul_le_mul_of_nonneg_left (by grind) (by grind)
  grind
theorem Null.of_sq' {f g : Sq} (h : Null fun n => f n * f n - g n * g n) (pf : Pos f) (pg : Pos g) : Null fun n => f n - g n := fun e he => by
  obtain ⟨c, hc, M, pf⟩ := pf
  obtain ⟨d, hd, L, pg⟩ := pg
  obtain ⟨N, h⟩ := h (e * c) (Rat.mul_pos he hc)
  refine ⟨max N (max M L), fun n hn => ?_⟩
  have h1 : -(e * c) ≤ f n * f n - g n * g n ∧ f n * f n - g n * g n ≤ e * c := h n (by omega)
  have h2 := pf n (by omega)
  have h3 := pg n (by omega)
  show -e ≤ f n - g n ∧ f n - g n ≤ e
  generalize f n = x at *
  generalize g n = y at *
  have p : 0 < x + y := by grind
  have h3 : e * c ≤ e * (x + y) := Rat.mul_le_mul_of_nonneg_left (by grind) (by grind)
  constructor
  · exact Rat.le_of_mul_le_mul_right (by grind) p
  · exact Rat.le_of_mul_le_mul_right (by grind) p
theorem Sg.of {s : Int} {f g : Sq} (h : Sg s f) (e : ∀ n, f n = g n) : Sg s g := by
  have : f = g := funext e
  rwa [← this]
theorem Sg.neg {s : Int} {f : Sq} (h : Sg s f) : Sg (-s) fun n => - f n := by
  rcases h with ⟨h, p⟩ | ⟨h, p⟩ | ⟨h, p⟩ <;> subst h
  · refine .inr (.inr ⟨rfl, ?_⟩)
    have e : (fun n => - - f n) = f := by funext n; grind
    rwa [e]
  · exact .inr (.inl ⟨rfl, p.neg⟩)
  · exact .inl ⟨rfl, p⟩
end RR
namespace RR
theorem Sg.sum {a b c : Int} {f g : Sq} (ha : Sg a f) (hb : Sg b g) (hc : Sg c fun n => f n * f n - g n * g n) (bf : Bd f) (bg : Bd g) :
    Sg (if a = b ∨ b = 0 then a else if a = 0 then b else a * c) fun n => f n + g n := by
  have sw : ∀ {u v : Sq}, (fun n => u n + v n) = fun n => v n + u n := fun {u v} => by funext n; grind
  rcases ha with ⟨ha, pa⟩ | ⟨ha, pa⟩ | ⟨ha, pa⟩ <;> rcases hb with ⟨hb, pb⟩ | ⟨hb, pb⟩ | ⟨hb, pb⟩ <;> subst ha <;> subst hb
  · exact .inl ⟨rfl, pa.add pb⟩
  · exact .inl ⟨rfl, pa.null pb⟩
  · -- f above, g below
    have e0 : (fun n => f n + g n) = fun n => f n - (- g n) := by funext n; grind
    have e1 : (fun n => f n * f n - g n * g n) = fun n => f n * f n - (- g n) * (- g n) := by funext n; grind
    have e2 : (fun n => -(f n + g n)) = fun n => (- g n) - f n := by funext n; grind
    have e3 : (fun n => -(f n * f n - g n * g n)) = fun n => (- g n) * (- g n) - f n * f n := by funext n; grind
    rcases hc with ⟨hc, pc⟩ | ⟨hc, pc⟩ | ⟨hc, pc⟩ <;> subst hc
    · refine .inl ⟨rfl, ?_⟩
      rw [e0]; rw [e1] at pc
      exact Pos.of_sq' (g := fun n => - g n) pc pa pb bf bg.neg
    · refine .inr (.inl ⟨rfl, ?_⟩)
      rw [e0]; rw [e1] at pc
      exact Null.of_sq' (g := fun n => - g n) pc pa pb
    · refine .inr (.inr ⟨rfl, ?_⟩)
      rw [e2]; rw [e3] at pc
      exact Pos.of_sq' (f := fun n => - g n) pc pb pa bg.neg bf
  · rw [sw]; exact .inl ⟨rfl, pb.null pa⟩
  · exact .inr (.inl ⟨rfl, pa.add pb⟩)
  · refine .inr (.inr ⟨rfl, ?_⟩)
    have := pb.null pa.neg
    have e : (fun n => - g n + - f n) = fun n => -(f n + g n) := by funext n; grind
    rwa [e] at this
  · have e0 : (fun n => f n + g n) = fun n => g n - (- f n) := by funext n; grind
    have e1 : (fun n => -(f n * f n - g n * g n)) = fun n => g n * g n - (- f n) * (- f n) := by funext n; grind
    have e2 : (fun n => -(f n + g n)) = fun n => (- f n) - g n := by funext n; grind
    have e3 : (fun n => f n * f n - g n * g n) = fun n => (- f n) * (- f n) - g n * g n := by funext n; grind
    rcases hc with ⟨hc, pc⟩ | ⟨hc, pc⟩ | ⟨hc, pc⟩ <;> subst hc
    · refine .inr (.inr ⟨rfl, ?_⟩)
      rw [e2]; rw [e3] at pc
      exact Pos.of_sq' (f := fun n => - f n) pc pa pb bf.neg bg
    · refine .inr (.inl ⟨rfl, ?_⟩)
      rw [e3] at pc
      have := (Null.of_sq' (f := fun n => - f n) pc pa pb).neg
      have e : (fun n => -(- f n - g n)) = fun n => f n + g n := by funext n; grind
      rwa [e] at this
    · refine .inl ⟨rfl, ?_⟩
      rw [e0]; rw [e1] at pc
      exact Pos.of_sq' (g := fun n => - f n) pc pb pa bg bf.neg
  · refine .inr (.inr ⟨rfl, ?_⟩)
    have := pa.null pb.neg
    have e : (fun n => - f n + - g n) = fun n => -(f n + g n) := by funext n; grind
    rwa [e] at this
  · refine .inr (.inr ⟨rfl, ?_⟩)
    have := pa.add pb
    have e : (fun n => - f n + - g n) = fun n => -(f n + g n) := by funext n; grind
    rwa [e] at this
end RR
namespace RR
def Cy (f : Sq) : Prop := ∀ e : Rat, 0 < e → ∃ N, ∀ n m, N ≤ n → N ≤ m → f n - f m ≤ e
theorem bd_head (f : Sq) (N : Nat) : ∃ b : Rat, 0 < b ∧ ∀ n, n < N → -b ≤ f n ∧ f n ≤ b := by
  induction N with
  | zero => exact ⟨1, by grind, fun n h => absurd h (Nat.not_lt_zero n)⟩
  | succ N ih =>
    obtain ⟨b, hb, h⟩ := ih
    by_cases c : 0 ≤ f N
    · refine ⟨b + f N, by grind, fun n hn => ?_⟩
      by_cases e : n = N
      · subst e; constructor <;> grind
      · have := h n (by omega); constructor <;> grind
    · refine ⟨b + - f N, by grind, fun n hn => ?_⟩
      by_cases e : n = N
      · subst e; constructor <;> grind
      · have := h n (by omega); constructor <;> grind
theorem Cy.bd {f : Sq} (h : Cy f) : Bd f := by
  obtain ⟨N, hN⟩ := h 1 (by grind)
  obtain ⟨b, hb, k⟩ := bd_head f (N + 1)
  refine ⟨b + 1, by grind, fun n => ?_⟩
  by_cases c : n < N + 1
  · have := k n c; constructor <;> grind
  · have a1 := hN n N (by omega) (by omega)
    have a2 := hN N n (by omega) (by omega)
    have := k N (by omega)
    constructor <;> grind
theorem Cy.const (c : Rat) : Cy fun _ => c := fun e he => ⟨0, fun _ _ _ _ => by grind⟩
theorem Cy.add {f g : Sq} (hf : Cy f) (hg : Cy g) : Cy fun n => f n + g n := fun e he => by
  obtain ⟨N, h⟩ := hf (e / 2) (by grind)
  obtain ⟨M, k⟩ := hg (e / 2) (by grind)
  refine ⟨max N M, fun n m hn hm => ?_⟩
  have := h n m (by omega) (by omega)
  have := k n m (by omega) (by omega)
  grind
theorem Cy.neg {f : Sq} (hf : Cy f) : Cy fun n => - f n := fun e he => by
  obtain ⟨N, h⟩ := hf e he
  exact ⟨N, fun n m hn hm => by have := h m n hm hn; grind⟩
theorem Cy.mul {f g : Sq} (hf : Cy f) (hg : Cy g) : Cy fun n => f n * g n := fun e he => by
  obtain ⟨b, hb, kb⟩ := hf.bd
  obtain ⟨c, hc, kc⟩ := hg.bd
  obtain ⟨N, h⟩ := hf (e / (2 * c)) (div_pos he (by grind))
  obtain ⟨M, k⟩ := hg (e / (2 * b)) (div_pos he (by grind))
  refine ⟨max N M, fun n m hn hm => ?_⟩
  have a1 := h n m (by omega) (by omega)
  have a2 := h m n (by omega) (by omega)
  have a3 := k n m (by omega) (by omega)
  have a4 := k m n (by omega) (by omega)
  have b1 := kb m
  have b2 := kc n
  have e1 : e / (2 * c) * c = e / 2 := by grind
  have e2 : e / (2 * b) * b = e / 2 := by grind
  show f n * g n - f m * g m ≤ e
  generalize e / (2 * c) = d at *
  generalize e / (2 * b) = d' at *
  generalize f n = x at *
  generalize f m = x' at *
  generalize g n = y at *
  generalize g m = y' at *
  have s1 : (x - x') * y ≤ d * c := by
    have t1 : 0 ≤ (d - (x - x')) * (c + y) := Rat.mul_nonneg (by grind) (by grind)
    have t2 : 0 ≤ (d + (x - x')) * (c - y) := Rat.mul_nonneg (by grind) (by grind)
    grind
  have s2 : (y - y') * x' ≤ d' * b := by
    have t1 : 0 ≤ (d' - (y - y')) * (b + x') := Rat.mul_nonneg (by grind) (by grind)
    have t2 : 0 ≤ (d' + (y - y')) * (b - x') := Rat.mul_nonneg (by grind) (by grind)
    grind
  grind
theorem Cy.tri {f : Sq} (h : Cy f) : Pos f ∨ Null f ∨ Pos fun n => - f n := by
  by_cases c : Null f
  · exact .inr (.inl c)
  · unfold Null at c
    obtain ⟨e, c⟩ := Classical.not_forall.mp c
    have he : 0 < e := Classical.byContradiction fun k => c fun k' => absurd k' k
    obtain ⟨N, hN⟩ := h (e / 2) (by grind)
    have : ∃ n, N ≤ n ∧ ¬ (-e ≤ f n ∧ f n ≤ e) := Classical.byContradiction fun k => c fun _ => ⟨N, fun n hn => Classical.byContradiction fun k' => k ⟨n, hn, k'⟩⟩
    obtain ⟨n, hn, k⟩ := this
    by_cases p : e < f n
    · exact .inl ⟨e / 2, by grind, N, fun m hm => by have := hN n m hn hm; grind⟩
    · exact .inr (.inr ⟨e / 2, by grind, N, fun m hm => by have := hN m n hm hn; show e / 2 ≤ - f m; grind⟩)
theorem Cy.inv {f : Sq} (h : Cy f) (p : Pos f) : ∃ g, Cy g ∧ Null fun n => f n * g n - 1 := by
  obtain ⟨e, he, N, k⟩ := p
  refine ⟨fun n => if N ≤ n then 1 / f n else 1, fun d hd => ?_, fun d hd => ⟨N, fun n hn => ?_⟩⟩
  · obtain ⟨M, q⟩ := h (d * (e * e)) (Rat.mul_pos hd (Rat.mul_pos he he))
    refine ⟨max N M, fun n m hn hm => ?_⟩
    show (if N ≤ n then 1 / f n else 1) - (if N ≤ m then 1 / f m else 1) ≤ d
    rw [if_pos (by omega), if_pos (by omega)]
    have a1 := k n (by omega)
    have a2 := k m (by omega)
    have a3 := q m n (by omega) (by omega)
    generalize f n = x at *
    generalize f m = y at *
    have x0 : 0 < x := by grind
    have y0 : 0 < y := by grind
    have xy : 0 < x * y := Rat.mul_pos x0 y0
    have t : e * e ≤ x * y := by
      have t1 : 0 ≤ (x - e) * y := Rat.mul_nonneg (by grind) (by grind)
      have t2 : 0 ≤ e * (y - e) := Rat.mul_nonneg (by grind) (by grind)
      grind
    have t3 : 0 ≤ d * (x * y - e * e) := Rat.mul_nonneg (by grind) (by grind)
    have : (1 / x - 1 / y) * (x * y) ≤ d * (x * y) := by
      have : (1 / x - 1 / y) * (x * y) = y - x := by grind
      grind
    exact Rat.le_of_mul_le_mul_right this xy
  · show -d ≤ f n * (if N ≤ n then 1 / f n else 1) - 1 ∧ f n * (if N ≤ n then 1 / f n else 1) - 1 ≤ d
    rw [if_pos hn]
    have a1 := k n hn
    have : f n * (1 / f n) = 1 := by grind
    rw [this]
    constructor <;> grind
theorem nul {f : Sq} (h : ∀ n, f n = 0) : Null f := fun e he => ⟨0, fun n _ => by rw [h n]; constructor <;> grind⟩
theorem Null.of {f g : Sq} (h : Null f) (k : ∀ n, g n = f n) : Null g := by rw [show g = f from funext k]; exact h
theorem Pos.of {f g : Sq} (h : Pos f) (k : ∀ n, g n = f n) : Pos g := by rw [show g = f from funext k]; exact h
structure CSq where
  f : Sq
  c : Cy f
def CSq.rel (a b : CSq) : Prop := Null fun n => a.f n - b.f n
instance CSq.S : Setoid CSq where
  r := CSq.rel
  iseqv := ⟨fun a => nul fun n => by grind, fun h => Null.of (Null.neg h) fun n => by grind, fun h k => Null.of (Null.add h k) fun n => by grind⟩
end RR
def Re : Type := Quotient RR.CSq.S
namespace Re
open RR
def mk (a : CSq) : Re := Quotient.mk CSq.S a
theorem sound {a b : CSq} (h : ∀ n, a.f n = b.f n) : mk a = mk b := Quotient.sound (nul fun n => by rw [h n]; grind)
theorem ind {P : Re → Prop} (h : ∀ a, P (mk a)) (x : Re) : P x := Quotient.ind h x
def ofQ (q : Rat) : Re := mk ⟨fun _ => q, Cy.const q⟩
def add : Re → Re → Re := Quotient.lift₂ (fun a b => mk ⟨fun n => a.f n + b.f n, a.c.add b.c⟩) fun a b c d h k => Quotient.sound (Null.of (Null.add h k) fun n => by grind)
def neg : Re → Re := Quotient.lift (fun a => mk ⟨fun n => - a.f n, a.c.neg⟩) fun a b h => Quotient.sound (Null.of (Null.neg h) fun n => by grind)
def mul : Re → Re → Re := Quotient.lift₂ (fun a b => mk ⟨fun n => a.f n * b.f n, a.c.mul b.c⟩) fun a b c d h k => Quotient.sound (Null.of (Null.add (Null.mul h b.c.bd) (Null.mul k c.c.bd)) fun n => by grind)
def pos : Re → Prop := Quotient.lift (fun a => Pos a.f) fun a b h => propext ⟨fun p => Pos.cg p (Null.of (Null.neg h) fun n => by grind), fun p => Pos.cg p h⟩
instance : Add Re := ⟨add⟩
instance : Neg Re := ⟨neg⟩
instance : Mul Re := ⟨mul⟩
instance : Sub Re := ⟨fun a b => a + -b⟩
instance : NatCast Re := ⟨fun n => ofQ n⟩
instance : IntCast Re := ⟨fun n => ofQ n⟩
instance (n : Nat) : OfNat Re n := ⟨ofQ n⟩
def pw (a : Re) : Nat → Re
  | 0 => 1
  | n + 1 => pw a n * a
instance : HPow Re Nat Re := ⟨pw⟩
theorem num (n : Nat) : (OfNat.ofNat n : Re) = mk ⟨fun _ => (n : Rat), Cy.const _⟩ := rfl
instance : Lean.Grind.CommRing Re where
  nsmul := ⟨fun n a => ofQ n * a⟩
  zsmul := ⟨fun n a => ofQ n * a⟩
  add_zero a := by revert a; exact ind fun a => sound fun n => by show a.f n + ((0 : Nat) : Rat) = a.f n; exact Rat.add_zero _
  add_comm a b := by revert a b; exact ind fun a => ind fun b => sound fun n => by show a.f n + b.f n = b.f n + a.f n; exact Rat.add_comm _ _
  add_assoc a b c := by revert a b c; exact ind fun a => ind fun b => ind fun c => sound fun n => by show a.f n + b.f n + c.f n = a.f n + (b.f n + c.f n); exact Rat.add_assoc _ _ _
  neg_add_cancel a := by revert a; exact ind fun a => sound fun n => by show - a.f n + a.f n = ((0 : Nat) : Rat); exact Rat.neg_add_cancel _
  mul_assoc a b c := by revert a b c; exact ind fun a => ind fun b => ind fun c => sound fun n => by show a.f n * b.f n * c.f n = a.f n * (b.f n * c.f n); exact Rat.mul_assoc _ _ _
  mul_comm a b := by revert a b; exact ind fun a => ind fun b => sound fun n => by show a.f n * b.f n = b.f n * a.f n; exact Rat.mul_comm _ _
  mul_one a := by revert a; exact ind fun a => sound fun n => by show a.f n * ((1 : Nat) : Rat) = a.f n; exact Rat.mul_one _
  one_mul a := by revert a; exact ind fun a => sound fun n => by show ((1 : Nat) : Rat) * a.f n = a.f n; exact Rat.one_mul _
  left_distrib a b c := by revert a b c; exact ind fun a => ind fun b => ind fun c => sound fun n => by show a.f n * (b.f n + c.f n) = a.f n * b.f n + a.f n * c.f n; exact Rat.mul_add _ _ _
  right_distrib a b c := by revert a b c; exact ind fun a => ind fun b => ind fun c => sound fun n => by show (a.f n + b.f n) * c.f n = a.f n * c.f n + b.f n * c.f n; exact Rat.add_mul _ _ _
  zero_mul a := by revert a; exact ind fun a => sound fun n => by show ((0 : Nat) : Rat) * a.f n = ((0 : Nat) : Rat); exact Rat.zero_mul _
  mul_zero a := by revert a; exact ind fun a => sound fun n => by show a.f n * ((0 : Nat) : Rat) = ((0 : Nat) : Rat); exact Rat.mul_zero _
  pow_zero a := rfl
  pow_succ a n := rfl
  ofNat_succ x := sound fun n => by show ((x + 1 : Nat) : Rat) = ((x : Nat) : Rat) + ((1 : Nat) : Rat); push_cast; rfl
  ofNat_eq_natCast n := rfl
  nsmul_eq_natCast_mul n a := rfl
  sub_eq_add_neg a b := rfl
  neg_zsmul i a := by revert a; exact ind fun a => sound fun n => by show ((-i : Int) : Rat) * a.f n = - ((i : Rat) * a.f n); rw [Rat.intCast_neg, Rat.neg_mul]
  zsmul_natCast_eq_nsmul n a := rfl
  intCast_ofNat n := rfl
  intCast_neg i := sound fun n => by show ((-i : Int) : Rat) = - (i : Rat); exact Rat.intCast_neg i
theorem tri (x : Re) : pos x ∨ x = 0 ∨ pos (-x) := by
  revert x
  refine ind fun a => ?_
  rcases a.c.tri with h | h | h
  · exact .inl h
  · exact .inr (.inl (Quotient.sound (Null.of h fun n => by show a.f n - ((0 : Nat) : Rat) = a.f n; grind)))
  · exact .inr (.inr h)
theorem pos_add {x y : Re} (h : pos x) (k : pos y) : pos (x + y) := by
  revert h k; revert x y
  exact fun {x y} => ind (P := fun x => pos x → pos y → pos (x + y)) (fun a => ind (P := fun y => pos (mk a) → pos y → pos (mk a + y)) (fun b h k => Pos.add h k) y) x
theorem pos_mul {x y : Re} (h : pos x) (k : pos y) : pos (x * y) := by
  revert h k; revert x y
  exact fun {x y} => ind (P := fun x => pos x → pos y → pos (x * y)) (fun a => ind (P := fun y => pos (mk a) → pos y → pos (mk a * y)) (fun b h k => Pos.mul h k) y) x
theorem pos_ne {x : Re} (h : pos x) : x ≠ 0 := by
  rintro rfl
  exact Pos.not_null (f := fun _ => ((0 : Nat) : Rat)) h (nul fun _ => rfl)
theorem pos_neg {x : Re} (h : pos x) (k : pos (-x)) : False := by
  have := pos_add h k
  rw [show x + -x = 0 by grind] at this
  exact pos_ne this rfl
instance : LT Re := ⟨fun a b => pos (b - a)⟩
instance : LE Re := ⟨fun a b => ¬ pos (a - b)⟩
theorem lt_def (a b : Re) : a < b ↔ pos (b - a) := Iff.rfl
theorem le_def (a b : Re) : a ≤ b ↔ ¬ pos (a - b) := Iff.rfl
theorem le_or (a b : Re) : a ≤ b ↔ a = b ∨ a < b := by
  rw [le_def, lt_def]
  rcases tri (b - a) with h | h | h
  · refine ⟨fun _ => .inr h, fun _ k => pos_neg h ?_⟩
    rwa [show -(b - a) = a - b by grind]
  · have : a = b := by grind
    subst this
    exact ⟨fun _ => .inl rfl, fun _ k => pos_ne k (by grind)⟩
  · rw [show -(b - a) = a - b by grind] at h
    refine ⟨fun k => absurd h k, fun k => ?_⟩
    rcases k with k | k
    · subst k; exact absurd (by grind) (pos_ne h)
    · exact (pos_neg h (by rwa [show -(a - b) = b - a by grind])).elim
instance : Std.IsLinearOrder Re where
  le_refl a := (le_or a a).mpr (.inl rfl)
  le_trans a b c h k := by
    rw [le_or] at *
    rcases h with rfl | h
    · exact k
    · rcases k with rfl | k
      · exact .inr h
      · exact .inr (by rw [lt_def] at *; rw [show c - a = (b - a) + (c - b) by grind]; exact pos_add h k)
  le_antisymm a b h k := by
    rw [le_or] at h
    rcases h with h | h
    · exact h
    · exact absurd h k
  le_total a b := by
    by_cases h : a ≤ b
    · exact .inl h
    · refine .inr ((le_or b a).mpr (.inr ?_))
      exact Classical.byContradiction fun k => h k
instance : Std.LawfulOrderLT Re where
  lt_iff a b := by
    constructor
    · exact fun h => ⟨(le_or a b).mpr (.inr h), fun k => k h⟩
    · exact fun h => Classical.byContradiction fun k => h.2 k
theorem pos_one : pos 1 := Pos.const (c := ((1 : Nat) : Rat)) (by decide)
instance : Lean.Grind.OrderedRing Re where
  add_le_left_iff {a b} c := by rw [le_def, le_def, show a + c - (b + c) = a - b by grind]
  zero_lt_one := by rw [lt_def, show (1 : Re) - 0 = 1 by grind]; exact pos_one
  mul_lt_mul_of_pos_left {a b c} h k := by
    rw [lt_def] at *
    rw [show c * b - c * a = (c - 0) * (b - a) by grind]
    exact pos_mul k h
  mul_lt_mul_of_pos_right {a b c} h k := by
    rw [lt_def] at *
    rw [show b * c - a * c = (c - 0) * (b - a) by grind]
    exact pos_mul k h
end Re
def sg (n : Int) : Int := if 0 < n then 1 else if n < 0 then -1 else 0
def signOne (u v r : Int) : Int := if sg u = sg (v * r) ∨ sg (v * r) = 0 then sg u else if sg u = 0 then sg (v * r) else sg u * sg (u * u - v * v * r)
theorem sg_sz (n : Int) : Sz 1 (sg n) := by
  unfold Sz sg
  split
  · decide
  · split <;> decide
theorem sg_mul {v r : Int} (h : 0 < r) : sg (v * r) = sg v := by
  unfold sg
  by_cases h1 : 0 < v
  · rw [if_pos h1, if_pos (Int.mul_pos h1 h)]
  · by_cases h2 : v < 0
    · have : v * r < 0 := Int.mul_neg_of_neg_of_pos h2 h
      rw [if_neg h1, if_pos h2, if_neg (by omega), if_pos this]
    · have : v = 0 := by omega
      subst this
      simp
theorem sign_of_eq (n : Int) : m_sign_of [.int n] = .ok (.int (sg n)) := by
  unfold m_sign_of b_sign_of sg
  walk_at "pd"
  simp only [ok_ite, int_ite]
theorem sign_one_eq {a : Nat} {u v r : Int} (hu : Sz a u) (hv : Sz a v) (hr : Sz a r) (la : a ≤ 1000000) : m_sign_one [.int u, .int v, .int r] = .ok (.int (signOne u v r)) := by
  unfold m_sign_one b_sign_one signOne
  have e1 := dMul_int hv hr (by omega)
  have e2 := dMul_int hu hu (by omega)
  have e3 := dMul_int hv hv (by omega)
  have e4 := dMul_int (hv.mul hv) hr (by omega)
  have e5 := dMul_int (sg_sz u) (sg_sz (u * u - v * v * r)) (by decide)
  have e6 := sign_of_eq
  walk_at "pda"
  by_cases h1 : sg u = sg (v * r)
  · simp [h1]
  · by_cases h2 : sg (v * r) = 0
    · simp [h2]
    · by_cases h3 : sg u = 0
      · rw [h3] at h1
        simp [h1, h2, h3]
      · simp [h1, h2, h3]
def signTwo (u v r w t : Int) : Int := if signOne u v r = sg (w * t) ∨ sg (w * t) = 0 then signOne u v r else if signOne u v r = 0 then sg (w * t) else signOne u v r * signOne (u * u + v * v * r - w * w * t) (2 * u * v) r
def lawSign (u v r : Int) : Int :=
  let left : Int := (if 0 < u then 1 else 0) - (if u < 0 then 1 else 0)
  let right : Int := if r = 0 then 0 else (if 0 < v then 1 else 0) - (if v < 0 then 1 else 0)
  if 0 ≤ left * right then max (-1) (min 1 (left + right)) else
  let more := u * u - v * v * r
  if more < 0 then right else left * (if 0 < more then 1 else 0)
theorem law_sign_eq {a : Nat} {u v r : Int} (hu : Sz a u) (hv : Sz a v) (hr : Sz a r) (la : a ≤ 1000000) : m__law_sign [.int u, .int v, .int r] = .ok (.int (lawSign u v r)) := by
  unfold m__law_sign b__law_sign lawSign
  have e2 := dMul_int hu hu (by omega)
  have e3 := dMul_int hv hv (by omega)
  have e4 := dMul_int (hv.mul hv) hr (by omega)
  have bs : ∀ (p : Prop) [Decidable p], Sz 1 (if p then (1 : Int) else 0) := fun p _ => by unfold Sz; split <;> decide
  have e5 := fun (p q p' q' : Prop) [Decidable p] [Decidable q] [Decidable p'] [Decidable q'] => dMul_int ((bs p).sub (bs q)) ((bs p').sub (bs q')) (by decide)
  have e6 := fun (p q : Prop) [Decidable p] [Decidable q]  => dMul_int ((bs p).sub (bs q)) (show Sz 1 0 by unfold Sz; decide) (by decide)
  have e7 := fun (p q p' : Prop) [Decidable p] [Decidable q] [Decidable p'] => dMul_int ((bs p).sub (bs q)) (bs p') (by decide)
  walk_at "pda"
  by_cases h : r = 0 <;> simp only [h, if_true, if_false, ok_ite, int_ite]
theorem sign_law {u v r : Int} (h : 0 ≤ r) : signOne u v r = lawSign u v r := by
  unfold signOne lawSign
  by_cases hr : r = 0
  · subst hr
    simp only [Int.mul_zero, if_true, Int.sub_zero]
    have z : sg 0 = 0 := rfl
    rw [z]
    unfold sg
    by_cases h1 : 0 < u
    · have h2 : ¬ u < 0 := by omega
      simp [h1, h2]
      decide
    · by_cases h2 : u < 0
      · simp [h1, h2]
        decide
      · simp [h1, h2]
        decide
  · have hp : 0 < r := by omega
    rw [sg_mul hp]
    simp only [hr, if_false]
    generalize u * u - v * v * r = m
    unfold sg
    by_cases h1 : 0 < u <;> by_cases h2 : u < 0 <;> by_cases h3 : 0 < v <;> by_cases h4 : v < 0 <;> by_cases h5 : 0 < m <;> by_cases h6 : m < 0 <;> first | omega | (simp [h1, h2, h3, h4, h5, h6]; try decide) | simp [h1, h2, h3, h4, h5, h6]
theorem is_sign_eq (i j : Int) : m__law_is_sign [.int i, .int j] = .ok (.bl (decide (i = j))) := by
  unfold m__law_is_sign b__law_is_sign
  walk_at "pda"
theorem cell_eq {ns : List Int} (hb : ∀ z ∈ ns, Builtin.Int.intBits z ≤ 1048576) {k : Nat} (hk : k < ns.length) : ∃ n : Int, m__law_cell_v2 [.scr ns, .int k] = .ok (.int n) ∧ 0 ≤ n ∧ n < 1000000000000000000000000000000000000000000000000000000000000 := by
  have e1 : dIx (.scr ns) (.int k) = .ok (.int ns[k]) := by
    show (match atI ns (k : Nat) with | some n => Out.ok (D.int n) | none => .stuck) = _
    rw [atI_nat (v := ns[k]) (by simp)]
  have sz := sz_of_bits (hb ns[k] (List.getElem_mem hk))
  have e2 := dMul_int (j := 31415926535897932384626433832795028841971693993751058209749) sz (show Sz 200 _ by unfold Sz; decide) (by decide)
  have e3 := fun i => dMod_int (i := i) (j := 1000000000000000000000000000000000000000000000000000000000000) (by decide)
  have e4 := p60
  have e5 : (k : Int) < ns.length := by omega
  clear sz hb
  unfold m__law_cell_v2 b__law_cell_v2
  walk_at "pda"
  exact ⟨_, rfl, Int.emod_nonneg _ (by decide), Int.emod_lt_of_pos _ (by decide)⟩
def Num (d : D) : Prop := ∃ p q r s : Int, d = .tup [.int p, .int q, .int r, .int s] ∧ 0 ≤ r ∧ 0 < s ∧ Sz 120 p ∧ Sz 120 q ∧ Sz 120 r ∧ Sz 120 s
def NumB (d : D) : Prop := ∃ p q r s : Int, d = .tup [.int p, .int q, .int r, .int s] ∧ 0 ≤ r ∧ 0 < s ∧ Sz 100 p ∧ Sz 100 q ∧ Sz 100 r ∧ Sz 100 s
theorem NumB.num {d : D} (h : NumB d) : Num d := by
  obtain ⟨p, q, r, s, e, h0, h1, a, b, c, d⟩ := h
  exact ⟨p, q, r, s, e, h0, h1, a.mono (by decide), b.mono (by decide), c.mono (by decide), d.mono (by decide)⟩
theorem sq_nn (a : Int) : 0 ≤ a * a := by
  rcases Int.le_total 0 a with h | h
  · exact Int.mul_nonneg h h
  · exact Int.mul_nonneg_of_nonpos_of_nonpos h h
theorem sq_le {a b : Int} (h0 : 0 ≤ a) (h : a ≤ b) : a * a ≤ b * b := Int.mul_le_mul h h h0 (by omega)
def ordOf (p q r s a b t d : Int) : Int := signTwo (p * d - a * s) (q * d) r (0 - b * s) t
theorem sg_real (u : Int) : RR.Sg (sg u) fun _ => (u : Rat) := by
  unfold sg
  by_cases h : 0 < u
  · rw [if_pos h]
    exact .inl ⟨rfl, RR.Pos.const (by exact_mod_cast h)⟩
  · rw [if_neg h]
    by_cases k : u < 0
    · rw [if_pos k]
      have : (u : Rat) < 0 := by exact_mod_cast k
      exact .inr (.inr ⟨rfl, RR.Pos.const (c := -(u : Rat)) (by grind)⟩)
    · rw [if_neg k]
      have : u = 0 := by omega
      subst this
      exact .inr (.inl ⟨rfl, RR.Null.zero⟩)
theorem sgv_real {v r : Int} (h : 0 ≤ r) : RR.Sg (sg (v * r)) fun n => (v : Rat) * RR.sq r.toNat n := by
  by_cases h0 : r = 0
  · subst h0
    rw [Int.mul_zero]
    refine .inr (.inl ⟨rfl, ?_⟩)
    intro e he
    refine ⟨0, fun n _ => ?_⟩
    have h1 : RR.rt 0 = 0 := by
      have := RR.rt_le 0
      have : RR.rt 0 * RR.rt 0 = 0 := by omega
      exact (Nat.mul_eq_zero.mp this).elim id id
    have h2 : RR.sq (0 : Int).toNat n = 0 := by
      show RR.sq 0 n = 0
      have h3 := RR.sq_mul 0 n
      rw [Nat.zero_mul, h1] at h3
      have p := RR.N_pos n
      have z0 : ((0 : Nat) : Rat) = 0 := rfl
      have z1 : RR.sq 0 n ≤ 0 := Rat.le_of_mul_le_mul_right (by rw [h3, z0]; grind) p
      have z2 := RR.sq_nn 0 n
      grind
    show -e ≤ (v : Rat) * RR.sq (0 : Int).toNat n ∧ (v : Rat) * RR.sq (0 : Int).toNat n ≤ e
    rw [h2]
    constructor <;> grind
  · have h1 : RR.Pos (RR.sq r.toNat) := ⟨1, by grind, 0, fun n _ => RR.sq_ge _ n (by omega)⟩
    rw [sg_mul (by omega)]
    rcases sg_real v with ⟨e, p⟩ | ⟨e, p⟩ | ⟨e, p⟩
    · exact .inl ⟨e, p.mul h1⟩
    · exact .inr (.inl ⟨e, p.mul (RR.Bd.sq _)⟩)
    · refine .inr (.inr ⟨e, ?_⟩)
      have := p.mul h1
      have e : (fun n => -(v : Rat) * RR.sq r.toNat n) = fun n => -((v : Rat) * RR.sq r.toNat n) := by funext n; grind
      rwa [e] at this
noncomputable def one (u v r : Int) : RR.Sq := fun n => (u : Rat) + (v : Rat) * RR.sq r.toNat n
theorem sqr_real {r : Int} (h : 0 ≤ r) : RR.Null fun n => RR.sq r.toNat n * RR.sq r.toNat n - (r : Rat) := by
  have := RR.sq_sq r.toNat
  have e : ((r.toNat : Nat) : Rat) = (r : Rat) := by
    have : ((r.toNat : Nat) : Int) = r := Int.toNat_of_nonneg h
    exact_mod_cast congrArg (fun z : Int => (z : Rat)) this
  rwa [e] at this
theorem RR.Sg.cg {s : Int} {f g : RR.Sq} (h : RR.Sg s f) (e : RR.Null fun n => g n - f n) : RR.Sg s g := by
  rcases h with ⟨h, p⟩ | ⟨h, p⟩ | ⟨h, p⟩
  · exact .inl ⟨h, p.cg e⟩
  · exact .inr (.inl ⟨h, p.cg e⟩)
  · refine .inr (.inr ⟨h, p.cg ?_⟩)
    have := e.neg
    have q : (fun n => -(g n - f n)) = fun n => - g n - - f n := by funext n; grind
    rwa [q] at this
theorem one_real {u v r : Int} (h : 0 ≤ r) : RR.Sg (signOne u v r) (one u v r) := by
  refine RR.Sg.sum (sg_real u) (sgv_real h) ?_ (RR.Bd.const _) ((RR.Bd.const _).mul (RR.Bd.sq _))
  refine (sg_real (u * u - v * v * r)).cg ?_
  have := (sqr_real h).mul (RR.Bd.const (-((v : Rat) * v)))
  have q : (fun n => (RR.sq r.toNat n * RR.sq r.toNat n - (r : Rat)) * -((v : Rat) * v)) = fun n => ((u : Rat) * u - (v : Rat) * RR.sq r.toNat n * ((v : Rat) * RR.sq r.toNat n)) - ((u * u - v * v * r : Int) : Rat) := by
    funext n
    push_cast
    grind
  rwa [q] at this
noncomputable def two (u v r w t : Int) : RR.Sq := fun n => one u v r n + (w : Rat) * RR.sq t.toNat n
theorem one_bd (u v r : Int) : RR.Bd (one u v r) := (RR.Bd.const _).add ((RR.Bd.const _).mul (RR.Bd.sq _))
theorem two_real {u v r w t : Int} (h : 0 ≤ r) (k : 0 ≤ t) : RR.Sg (signTwo u v r w t) (two u v r w t) := by
  refine RR.Sg.sum (one_real h) (sgv_real k) ?_ (one_bd _ _ _) ((RR.Bd.const _).mul (RR.Bd.sq _))
  refine (one_real (u := u * u + v * v * r - w * w * t) (v := 2 * u * v) h).cg ?_
  have h1 := (sqr_real h).mul (RR.Bd.const ((v : Rat) * v))
  have h2 := (sqr_real k).mul (RR.Bd.const (-((w : Rat) * w)))
  have h3 := h1.add h2
  have q : (fun n => (RR.sq r.toNat n * RR.sq r.toNat n - (r : Rat)) * ((v : Rat) * v) + (RR.sq t.toNat n * RR.sq t.toNat n - (t : Rat)) * -((w : Rat) * w)) = fun n => (one u v r n * one u v r n - (w : Rat) * RR.sq t.toNat n * ((w : Rat) * RR.sq t.toNat n)) - one (u * u + v * v * r - w * w * t) (2 * u * v) r n := by
    funext n
    unfold one
    push_cast
    grind
  rwa [q] at h3
namespace Re
open RR
theorem inv_ex (x : Re) (h : x ≠ 0) : ∃ y, x * y = 1 := by
  have key : ∀ x : Re, pos x → ∃ y, x * y = 1 := ind fun a h => by
    obtain ⟨g, cg, ng⟩ := Cy.inv a.c h
    exact ⟨mk ⟨g, cg⟩, Quotient.sound (Null.of ng fun n => by show a.f n * g n - ((1 : Nat) : Rat) = a.f n * g n - 1; rfl)⟩
  rcases tri x with p | p | p
  · exact key x p
  · exact absurd p h
  · obtain ⟨y, e⟩ := key (-x) p
    exact ⟨-y, by grind⟩
open Classical in
noncomputable def inv (x : Re) : Re := if h : x = 0 then 0 else Classical.choose (inv_ex x h)
noncomputable instance : Inv Re := ⟨inv⟩
noncomputable instance : Div Re := ⟨fun a b => a * inv b⟩
theorem mul_inv {x : Re} (h : x ≠ 0) : x * x⁻¹ = 1 := by
  show x * inv x = 1
  unfold inv
  rw [dif_neg h]
  exact Classical.choose_spec (inv_ex x h)
theorem inv_0 : (0 : Re)⁻¹ = 0 := by
  show inv 0 = 0
  unfold inv
  rw [dif_pos rfl]
theorem one_ne : (0 : Re) ≠ 1 := fun h => pos_ne pos_one h.symm
theorem inv_inv (x : Re) : (x⁻¹)⁻¹ = x := by
  by_cases h : x = 0
  · subst h; rw [inv_0, inv_0]
  · have h1 := mul_inv h
    have h2 : x⁻¹ ≠ 0 := fun k => by rw [k] at h1; exact one_ne (by grind)
    have h3 := mul_inv h2
    generalize (x⁻¹)⁻¹ = z at *
    generalize x⁻¹ = y at *
    have : x * (y * z) = x := by rw [h3]; grind
    grind
noncomputable def zpw (a : Re) : Int → Re
  | .ofNat n => a ^ n
  | .negSucc n => (a ^ (n + 1))⁻¹
noncomputable instance : HPow Re Int Re := ⟨zpw⟩
theorem inv_1 : (1 : Re)⁻¹ = 1 := by
  have := mul_inv (x := 1) (fun h => one_ne h.symm)
  grind
noncomputable instance : Lean.Grind.Field Re where
  div_eq_mul_inv a b := rfl
  zero_ne_one := one_ne
  inv_zero := inv_0
  mul_inv_cancel h := mul_inv h
  zpow_zero a := rfl
  zpow_succ a n := rfl
  zpow_neg a n := by
    rcases n with n | n
    · cases n with
      | zero => show (1 : Re) = (1 : Re)⁻¹; rw [inv_1]
      | succ n => rfl
    · show a ^ (n + 1) = ((a ^ (n + 1))⁻¹)⁻¹
      rw [inv_inv]
open Classical in
noncomputable def sgn (x : Re) : Int := if pos x then 1 else if x = 0 then 0 else -1
theorem sgn_pos {x : Re} : sgn x = 1 ↔ 0 < x := by
  rw [lt_def, show x - 0 = x by grind]
  unfold sgn
  split
  · simp [*]
  · split
    · rename_i h; exact ⟨fun k => by simp at k, fun k => absurd k (by rw [h]; exact fun q => pos_ne q rfl)⟩
    · simp [*]
theorem sgn_zero {x : Re} : sgn x = 0 ↔ x = 0 := by
  unfold sgn
  split
  · exact ⟨fun h => by simp at h, fun h => absurd h (pos_ne ‹_›)⟩
  · split <;> simp [*]
theorem sgn_neg {x : Re} : sgn x = -1 ↔ x < 0 := by
  rw [lt_def, show 0 - x = -x by grind]
  rcases tri x with h | h | h
  · have : sgn x = 1 := by unfold sgn; rw [if_pos h]
    rw [this]
    exact ⟨fun k => by omega, fun k => (pos_neg h k).elim⟩
  · subst h
    have : sgn 0 = 0 := sgn_zero.mpr rfl
    rw [this]
    exact ⟨fun k => by omega, fun k => absurd (by grind) (pos_ne k)⟩
  · have h1 : ¬ pos x := fun k => pos_neg k h
    have h2 : x ≠ 0 := fun k => pos_ne h (by grind)
    unfold sgn
    rw [if_neg h1, if_neg h2]
    exact ⟨fun _ => h, fun _ => rfl⟩
theorem sgn_of {s : Int} {a : CSq} (h : Sg s a.f) : sgn (mk a) = s := by
  rcases h with ⟨rfl, h⟩ | ⟨rfl, h⟩ | ⟨rfl, h⟩
  · exact sgn_pos.mpr (by rw [lt_def, show mk a - 0 = mk a by grind]; exact h)
  · exact sgn_zero.mpr (Quotient.sound (Null.of h fun n => by show a.f n - ((0 : Nat) : Rat) = a.f n; grind))
  · exact sgn_neg.mpr (by rw [lt_def, show 0 - mk a = - mk a by grind]; exact h)
theorem sgn_cases (x : Re) : (sgn x = 1 ∧ 0 < x) ∨ (sgn x = 0 ∧ x = 0) ∨ (sgn x = -1 ∧ x < 0) := by
  rcases tri x with h | h | h
  · have : 0 < x := by rw [lt_def, show x - 0 = x by grind]; exact h
    exact .inl ⟨sgn_pos.mpr this, this⟩
  · exact .inr (.inl ⟨sgn_zero.mpr h, h⟩)
  · have : x < 0 := by rw [lt_def, show 0 - x = -x by grind]; exact h
    exact .inr (.inr ⟨sgn_neg.mpr this, this⟩)
end Re
theorem RR.Cy.sq (r : Nat) : RR.Cy (RR.sq r) := fun e he => by
  obtain ⟨N, h⟩ := RR.sq_sq r e he
  refine ⟨N, fun n m hn hm => ?_⟩
  have a1 := h n hn
  have a2 := h m hm
  by_cases c : 1 ≤ r
  · have b1 := RR.sq_ge r n c
    have b2 := RR.sq_ge r m c
    simp only [] at a1 a2
    generalize RR.sq r n = x at *
    generalize RR.sq r m = y at *
    apply Classical.byContradiction
    intro k
    have t : 0 ≤ (x - y - e) * (x + y) := Rat.mul_nonneg (by grind) (by grind)
    have t2 : 0 ≤ e * (x + y - 2) := Rat.mul_nonneg (by grind) (by grind)
    have t3 : 0 < (x - y - e) * (x + y) := Rat.mul_pos (by grind) (by grind)
    grind
  · have : r = 0 := by omega
    subst this
    have z : ∀ n, RR.sq 0 n = 0 := fun n => by
      unfold RR.sq
      have h := RR.rt_le (0 * ((n + 1) * (n + 1)))
      have : RR.rt (0 * ((n + 1) * (n + 1))) = 0 := by
        generalize RR.rt (0 * ((n + 1) * (n + 1))) = k at *
        rcases k with _ | k
        · rfl
        · rw [Nat.zero_mul] at h
          exact absurd h (Nat.not_le.mpr (Nat.mul_pos (Nat.succ_pos k) (Nat.succ_pos k)))
      rw [this]
      show (((0 : Nat) : Rat)) / _ = 0
      grind
    rw [z n, z m]
    grind
namespace Re
open RR
noncomputable def root (r : Int) : Re := mk ⟨RR.sq r.toNat, Cy.sq _⟩
theorem root_sq {r : Int} (h : 0 ≤ r) : root r * root r = (r : Re) := Quotient.sound (by
  refine Null.of (RR.sq_sq r.toNat) fun n => ?_
  show RR.sq r.toNat n * RR.sq r.toNat n - (r : Rat) = _
  rw [show (r : Rat) = ((r.toNat : Nat) : Rat) by
    show (r : Rat) = ((r.toNat : Int) : Rat)
    rw [Int.toNat_of_nonneg h]])
theorem one_sgn {u v r : Int} (h : 0 ≤ r) : signOne u v r = sgn (u + v * root r) :=
  (sgn_of (a := ⟨fun n => (u : Rat) + (v : Rat) * RR.sq r.toNat n, (Cy.const _).add ((Cy.const _).mul (Cy.sq _))⟩) (one_real h)).symm
theorem two_sgn {u v r w t : Int} (h : 0 ≤ r) (k : 0 ≤ t) : signTwo u v r w t = sgn (u + v * root r + w * root t) :=
  (sgn_of (a := ⟨fun n => (u : Rat) + (v : Rat) * RR.sq r.toNat n + (w : Rat) * RR.sq t.toNat n, ((Cy.const _).add ((Cy.const _).mul (Cy.sq _))).add ((Cy.const _).mul (Cy.sq _))⟩) (two_real h k)).symm
theorem cast_add (a b : Int) : ((a + b : Int) : Re) = a + b := Lean.Grind.Ring.intCast_add a b
theorem cast_mul (a b : Int) : ((a * b : Int) : Re) = a * b := Lean.Grind.Ring.intCast_mul a b
theorem cast_sub (a b : Int) : ((a - b : Int) : Re) = a - b := Lean.Grind.Ring.intCast_sub a b
theorem cast_0 : ((0 : Int) : Re) = 0 := rfl
theorem cast_1 : ((1 : Int) : Re) = 1 := rfl
theorem cast_pos' {a : Int} (h : 0 < a) : (0 : Re) < (a : Re) := by
  rw [lt_def]
  refine Pos.of (Pos.const (c := (a : Rat)) (by exact_mod_cast h)) fun n => ?_
  show (a : Rat) + - ((0 : Nat) : Rat) = (a : Rat)
  have z : ((0 : Nat) : Rat) = 0 := rfl
  grind
end Re
abbrev T3 := Int × Int × Int
def SzT (n : Nat) (t : T3) : Prop := Sz n t.1 ∧ Sz n t.2.1 ∧ Sz n t.2.2
theorem SzT.mono {n m : Nat} {t : T3} (h : SzT n t) (l : n ≤ m) : SzT m t := ⟨h.1.mono l, h.2.1.mono l, h.2.2.mono l⟩
abbrev N4 := Int × Int × Int × Int
def encX (x : N4) : D := .tup [.int x.1, .int x.2.1, .int x.2.2.1, .int x.2.2.2]
noncomputable def val (x : N4) : Re := ((x.1 : Re) + (x.2.1 : Re) * Re.root x.2.2.1) / (x.2.2.2 : Re)
structure GoodX (n : Nat) (x : N4) : Prop where
  r0 : 0 ≤ x.2.2.1
  s0 : 0 < x.2.2.2
  sp : Sz n x.1
  sq : Sz n x.2.1
  sr : Sz n x.2.2.1
  ss : Sz n x.2.2.2
theorem GoodX.mono {n m : Nat} {x : N4} (h : GoodX n x) (l : n ≤ m) : GoodX m x := ⟨h.r0, h.s0, h.sp.mono l, h.sq.mono l, h.sr.mono l, h.ss.mono l⟩
theorem Re.sgn_scale {c x : Re} (h : 0 < c) : Re.sgn (c * x) = Re.sgn x := by
  rcases Re.sgn_cases x with ⟨e, k⟩ | ⟨e, k⟩ | ⟨e, k⟩
  · rw [e, Re.sgn_pos]
    have := Lean.Grind.OrderedRing.mul_lt_mul_of_pos_left k h
    grind
  · rw [e, Re.sgn_zero, k]; grind
  · rw [e, Re.sgn_neg]
    have := Lean.Grind.OrderedRing.mul_lt_mul_of_pos_left k h
    grind
theorem val_mul {x : N4} (h : 0 < x.2.2.2) : val x * (x.2.2.2 : Re) = (x.1 : Re) + (x.2.1 : Re) * Re.root x.2.2.1 := by
  have := Re.cast_pos' h
  unfold val
  grind
def ordX (x y : N4) : Int := ordOf x.1 x.2.1 x.2.2.1 x.2.2.2 y.1 y.2.1 y.2.2.1 y.2.2.2
theorem ordX_sgn {x y : N4} (r0 : 0 ≤ x.2.2.1) (s0 : 0 < x.2.2.2) (t0 : 0 ≤ y.2.2.1) (d0 : 0 < y.2.2.2) : ordX x y = Re.sgn (val x - val y) := by
  have h1 := val_mul s0
  have h2 := val_mul d0
  unfold ordX ordOf
  rw [Re.two_sgn r0 t0]
  have c1 := Re.cast_pos' s0
  have c2 := Re.cast_pos' d0
  have c3 : (0 : Re) < (x.2.2.2 : Re) * (y.2.2.2 : Re) := by
    have := Lean.Grind.OrderedRing.mul_lt_mul_of_pos_left c2 c1
    grind
  rw [← Re.sgn_scale (x := val x - val y) c3]
  congr 1
  simp only [Re.cast_sub, Re.cast_mul, Re.cast_0]
  grind
theorem ordX_lt {n m : Nat} {x y : N4} (h : GoodX n x) (k : GoodX m y) : ordX x y < 0 ↔ val x < val y := by
  rw [ordX_sgn h.r0 h.s0 k.r0 k.s0]
  rcases Re.sgn_cases (val x - val y) with ⟨e, q⟩ | ⟨e, q⟩ | ⟨e, q⟩ <;> rw [e]
  · exact ⟨fun z => absurd z (by decide), fun z => by grind⟩
  · exact ⟨fun z => absurd z (by decide), fun z => by grind⟩
  · exact ⟨fun _ => by grind, fun _ => by decide⟩
theorem ordX_gt {n m : Nat} {x y : N4} (h : GoodX n x) (k : GoodX m y) : 0 < ordX x y ↔ val y < val x := by
  rw [ordX_sgn h.r0 h.s0 k.r0 k.s0]
  rcases Re.sgn_cases (val x - val y) with ⟨e, q⟩ | ⟨e, q⟩ | ⟨e, q⟩ <;> rw [e]
  · exact ⟨fun _ => by grind, fun _ => by decide⟩
  · exact ⟨fun z => absurd z (by decide), fun z => by grind⟩
  · exact ⟨fun z => absurd z (by decide), fun z => by grind⟩
theorem Re.sq_nn (x : Re) : 0 ≤ x * x := by
  by_cases c : 0 ≤ x
  · have := Lean.Grind.OrderedRing.mul_le_mul_of_nonneg_left c c
    grind
  · have c' : 0 ≤ -x := by grind
    have := Lean.Grind.OrderedRing.mul_le_mul_of_nonneg_left c' c'
    grind
theorem Re.mul_pp {x y : Re} (h : 0 < x) (k : 0 < y) : 0 < x * y := by
  have := Lean.Grind.OrderedRing.mul_lt_mul_of_pos_left k h
  grind
structure PtX (n : Nat) (rt : Int) (x : N4) : Prop where
  good : GoodX n x
  same : x.2.1 = 0 ∨ x.2.2.1 = rt
theorem PtX.val {n : Nat} {rt : Int} {x : N4} (h : PtX n rt x) : PD.val x * (x.2.2.2 : Re) = (x.1 : Re) + (x.2.1 : Re) * Re.root rt := by
  rw [val_mul h.good.s0]
  rcases h.same with e | e
  · rw [e, Re.cast_0]; grind
  · rw [e]
theorem pair_1 {n a : Nat} {rt p q r s : Int} (zp : Sz n p) (zq : Sz n q) (zr : Sz n rt) (r0 : 0 ≤ rt) (hn : n ≤ 100000) {x0 x1 x2 x3 x7 x12 : Option D} (k : Nat) : ∀ (u v : Int) (x13 : Option D), Sz a u → Sz a v → a + k * (3 * n + 1) ≤ 1000000 →
    ∃ u' v' x13', forL (gN 13) b_pair_of_v2_1 ((List.range k).map fun (j : Nat) => .int j) [x0, x1, x2, x3, some (.int rt), some (.int u), some (.int v), x7, some (.int p), some (.int q), some (.int r), some (.int s), x12, x13] =
      .nx [x0, x1, x2, x3, some (.int rt), some (.int u'), some (.int v'), x7, some (.int p), some (.int q), some (.int r), some (.int s), x12, x13'] ∧
      Sz (a + k * (3 * n + 1)) u' ∧ Sz (a + k * (3 * n + 1)) v' ∧ (u' : Re) + (v' : Re) * Re.root rt = ((u : Re) + (v : Re) * Re.root rt) * ((p : Re) + (q : Re) * Re.root rt) ^ k := by
  intro u v x13 zu zv hl
  have e2 := Re.root_sq r0
  obtain ⟨ρ', e, u', v', x13', rfl, h1, h2, h3⟩ := forL_range (G := gN 13) (b := b_pair_of_v2_1) (fun j ρ => ∃ (u' v' : Int) (x13' : Option D), ρ = [x0, x1, x2, x3, some (.int rt), some (.int u'), some (.int v'), x7, some (.int p), some (.int q), some (.int r), some (.int s), x12, x13'] ∧
      Sz (a + j * (3 * n + 1)) u' ∧ Sz (a + j * (3 * n + 1)) v' ∧ (u' : Re) + (v' : Re) * Re.root rt = ((u : Re) + (v : Re) * Re.root rt) * ((p : Re) + (q : Re) * Re.root rt) ^ j) k
    (ρ := [x0, x1, x2, x3, some (.int rt), some (.int u), some (.int v), x7, some (.int p), some (.int q), some (.int r), some (.int s), x12, x13]) ⟨u, v, x13, rfl, zu.mono (by omega), zv.mono (by omega), by rw [Lean.Grind.Semiring.pow_zero]; grind⟩ (by
      rintro j ρ hj ⟨u', v', x13', rfl, h1, h2, h3⟩
      have hm : j * (3 * n + 1) ≤ k * (3 * n + 1) := Nat.mul_le_mul_right _ (by omega)
      generalize hw : a + j * (3 * n + 1) = w at *
      have k1 := cmul_sz h1 zp (by omega)
      have k2 := cmul_sz h2 zq (by omega)
      have k3 := cmul_sz (h2.mul zq) zr (by omega)
      have k4 := cmul_sz h1 zq (by omega)
      have k5 := cmul_sz h2 zp (by omega)
      have ew : a + (j + 1) * (3 * n + 1) = w + (3 * n + 1) := by rw [Nat.add_mul]; omega
      have y1 := (((h1.mul zp).mono (show w + n ≤ w + 3 * n by omega)).add (((h2.mul zq).mul zr).mono (show w + n + n ≤ w + 3 * n by omega)))
      have y2 := (((h1.mul zq).mono (show w + n ≤ w + 3 * n by omega)).add ((h2.mul zp).mono (show w + n ≤ w + 3 * n by omega)))
      refine ⟨_, ?_, u' * p + v' * q * rt, u' * q + v' * p, some (.int (j : Nat)), rfl, y1.mono (by omega), y2.mono (by omega), ?_⟩
      · clear h1 h2 h3 zp zq zr zu zv y1 y2 e2 hm ew hl
        unfold b_pair_of_v2_1
        walk_at "go"
      · rw [Lean.Grind.Semiring.pow_succ, ← Lean.Grind.Semiring.mul_assoc, ← h3]
        simp only [Re.cast_add, Re.cast_mul]
        rw [← e2]
        grind)
  exact ⟨u', v', x13', e, h1, h2, h3⟩
theorem pair_2 {n a : Nat} {s : Int} (zs : Sz n s) (hn : n ≤ 100000) {x0 x1 x2 x3 x4 x7 x8 x9 x10 x12 : Option D} (R : Re) (k : Nat) : ∀ (u v : Int) (x13 : Option D), Sz a u → Sz a v → a + k * n ≤ 1000000 →
    ∃ u' v' x13', forL (gN 13) b_pair_of_v2_2 ((List.range k).map fun (j : Nat) => .int j) [x0, x1, x2, x3, x4, some (.int u), some (.int v), x7, x8, x9, x10, some (.int s), x12, x13] =
      .nx [x0, x1, x2, x3, x4, some (.int u'), some (.int v'), x7, x8, x9, x10, some (.int s), x12, x13'] ∧
      Sz (a + k * n) u' ∧ Sz (a + k * n) v' ∧ (u' : Re) + (v' : Re) * R = ((u : Re) + (v : Re) * R) * (s : Re) ^ k := by
  intro u v x13 zu zv hl
  obtain ⟨ρ', e, u', v', x13', rfl, h1, h2, h3⟩ := forL_range (G := gN 13) (b := b_pair_of_v2_2) (fun j ρ => ∃ (u' v' : Int) (x13' : Option D), ρ = [x0, x1, x2, x3, x4, some (.int u'), some (.int v'), x7, x8, x9, x10, some (.int s), x12, x13'] ∧
      Sz (a + j * n) u' ∧ Sz (a + j * n) v' ∧ (u' : Re) + (v' : Re) * R = ((u : Re) + (v : Re) * R) * (s : Re) ^ j) k
    (ρ := [x0, x1, x2, x3, x4, some (.int u), some (.int v), x7, x8, x9, x10, some (.int s), x12, x13]) ⟨u, v, x13, rfl, zu.mono (by omega), zv.mono (by omega), by rw [Lean.Grind.Semiring.pow_zero]; grind⟩ (by
      rintro j ρ hj ⟨u', v', x13', rfl, h1, h2, h3⟩
      have hm : j * n ≤ k * n := Nat.mul_le_mul_right _ (by omega)
      generalize hw : a + j * n = w at *
      have k1 := cmul_sz h1 zs (by omega)
      have k2 := cmul_sz h2 zs (by omega)
      have ew : a + (j + 1) * n = w + n := by rw [Nat.add_mul]; omega
      have y1 := h1.mul zs
      have y2 := h2.mul zs
      refine ⟨_, ?_, u' * s, v' * s, some (.int (j : Nat)), rfl, y1.mono (by omega), y2.mono (by omega), ?_⟩
      · clear h1 h2 h3 zs zu zv y1 y2 hm ew hl
        unfold b_pair_of_v2_2
        walk_at "go"
      · rw [Lean.Grind.Semiring.pow_succ, ← Lean.Grind.Semiring.mul_assoc, ← h3]
        simp only [Re.cast_mul]
        grind)
  exact ⟨u', v', x13', e, h1, h2, h3⟩
theorem pair_3 {n a : Nat} {rt : Int} {x : N4} (hx : PtX n rt x) (zr : Sz n rt) (r0 : 0 ≤ rt) (hn : n ≤ 100000) {M P T : D} {nm : List Nat} {w t : Nat} (hp : dIx P (encN nm) = .ok (encX x)) (ht : dIx T (encN nm) = .ok (.int (t : Int))) (hw : m_power_of [M, encN nm] = .ok (.int (w : Int))) (wt : w ≤ t) (t1 : t ≤ 1000)
    {x1 x7 x8 x9 x10 x11 x12 x13 : Option D} {u v : Int} (zu : Sz a u) (zv : Sz a v) (hl : a + t * (3 * n + 1) ≤ 1000000) :
    ∃ u' v' x7' x8' x9' x10' x11' x12' x13', (oS (gN 7 (encN nm) [some M, x1, some P, some T, some (.int rt), some (.int u), some (.int v), x7, x8, x9, x10, x11, x12, x13]) b_pair_of_v2_3).cont = .nx [some M, x1, some P, some T, some (.int rt), some (.int u'), some (.int v'), x7', x8', x9', x10', x11', x12', x13'] ∧
      Sz (a + t * (3 * n + 1)) u' ∧ Sz (a + t * (3 * n + 1)) v' ∧ (u' : Re) + (v' : Re) * Re.root rt = ((u : Re) + (v : Re) * Re.root rt) * ((x.1 : Re) + (x.2.1 : Re) * Re.root rt) ^ w * (x.2.2.2 : Re) ^ (t - w) := by
  obtain ⟨p, q, r, s⟩ := x
  obtain ⟨⟨g1, g2, g3, g4, g5, g6⟩, _⟩ := hx
  simp only [] at *
  have m1 : w * (3 * n + 1) + (t - w) * (3 * n + 1) = t * (3 * n + 1) := by rw [← Nat.add_mul]; congr 1; omega
  have m2 : (t - w) * n ≤ (t - w) * (3 * n + 1) := Nat.mul_le_mul_left _ (by omega)
  obtain ⟨u1, v1, y1, e1, z1, z2, v1e⟩ := pair_1 (r := r) (s := s) g3 g4 zr r0 hn (x0 := some M) (x1 := x1) (x2 := some P) (x3 := some T) (x7 := some (encN nm)) (x12 := some (.int (w : Int))) w u v x13 zu zv (by omega)
  obtain ⟨u2, v2, y2, e2, z3, z4, v2e⟩ := pair_2 g6 hn (x0 := some M) (x1 := x1) (x2 := some P) (x3 := some T) (x4 := some (.int rt)) (x7 := some (encN nm)) (x8 := some (.int p)) (x9 := some (.int q)) (x10 := some (.int r)) (x12 := some (.int (w : Int))) (Re.root rt) (t - w) u1 v1 y1 z1 z2 (by omega)
  refine ⟨u2, v2, some (encN nm), some (.int p), some (.int q), some (.int r), some (.int s), some (.int (w : Int)), y2, ?_, z3.mono (by omega), z4.mono (by omega), by rw [v2e, v1e]⟩
  have k1 : ((w : Int)).toNat = w := by omega
  have k2 : ((t : Int) - (w : Int)).toNat = t - w := by omega
  have k3 : -(2 ^ 62) ≤ (w : Int) ∧ (w : Int) < 2 ^ 62 := by omega
  have k4 : -(2 ^ 62) ≤ (t : Int) - (w : Int) ∧ (t : Int) - (w : Int) < 2 ^ 62 := by omega
  rw [show encX (p, q, r, s) = .tup [.int p, .int q, .int r, .int s] from rfl] at hp
  clear z1 z2 z3 z4 v1e v2e zu zv g1 g2 g3 g4 g5 g6 zr r0 m1 m2 hl
  unfold b_pair_of_v2_3
  walk_at "go"
noncomputable def prodX (F : List Nat × Int → Re) : List (List Nat × Int) → Re
  | [] => 1
  | p :: l => F p * prodX F l
theorem pair_loop {n B mo : Nat} (hB : mo * (3 * n + 1) ≤ B) (hmo : mo ≤ 1000) {rt : Int} (zr : Sz n rt) (r0 : 0 ≤ rt) (hn : n ≤ 100000) {M P T : D} {pt : List Nat → N4} {w : List Nat → Nat} {x1 : Option D} : ∀ (L : List (List Nat × Int)) (a : Nat) (u v : Int) (x7 x8 x9 x10 x11 x12 x13 : Option D),
    (∀ p ∈ L, PtX n rt (pt p.1) ∧ dIx P (encN p.1) = .ok (encX (pt p.1)) ∧ dIx T (encN p.1) = .ok (.int p.2) ∧ m_power_of [M, encN p.1] = .ok (.int (w p.1 : Int)) ∧ (w p.1 : Int) ≤ p.2 ∧ p.2 ≤ mo) →
    Sz a u → Sz a v → a + L.length * B ≤ 1000000 →
    ∃ u' v' x7' x8' x9' x10' x11' x12' x13', forL (gN 7) b_pair_of_v2_3 (L.map fun p => encN p.1) [some M, x1, some P, some T, some (.int rt), some (.int u), some (.int v), x7, x8, x9, x10, x11, x12, x13] = .nx [some M, x1, some P, some T, some (.int rt), some (.int u'), some (.int v'), x7', x8', x9', x10', x11', x12', x13'] ∧
      Sz (a + L.length * B) u' ∧ Sz (a + L.length * B) v' ∧
      (u' : Re) + (v' : Re) * Re.root rt = ((u : Re) + (v : Re) * Re.root rt) * prodX (fun p => (((pt p.1).1 : Re) + ((pt p.1).2.1 : Re) * Re.root rt) ^ (w p.1) * ((pt p.1).2.2.2 : Re) ^ (p.2.toNat - w p.1)) L := by
  intro L
  induction L with
  | nil => intro a u v x7 x8 x9 x10 x11 x12 x13 _ zu zv _; exact ⟨u, v, x7, x8, x9, x10, x11, x12, x13, rfl, zu.mono (by omega), zv.mono (by omega), by unfold prodX; grind⟩
  | cons p L ih =>
    intro a u v x7 x8 x9 x10 x11 x12 x13 h zu zv hl
    obtain ⟨h1, h2, h3, h4, h5, h6⟩ := h p List.mem_cons_self
    rw [List.length_cons, Nat.add_mul, Nat.one_mul] at hl
    have ep : p.2 = ((p.2.toNat : Nat) : Int) := by omega
    rw [ep] at h3
    have hm : p.2.toNat * (3 * n + 1) ≤ mo * (3 * n + 1) := Nat.mul_le_mul_right _ (by omega)
    obtain ⟨u1, v1, y7, y8, y9, y10, y11, y12, y13, e1, z1, z2, ve⟩ := pair_3 h1 zr r0 hn h2 h3 h4 (by omega) (by omega) (x1 := x1) (x7 := x7) (x8 := x8) (x9 := x9) (x10 := x10) (x11 := x11) (x12 := x12) (x13 := x13) zu zv (by omega)
    obtain ⟨u2, v2, w7, w8, w9, w10, w11, w12, w13, e2, z3, z4, ve2⟩ := ih (a + B) u1 v1 y7 y8 y9 y10 y11 y12 y13 (fun q hq => h q (List.mem_cons_of_mem _ hq)) (z1.mono (by omega)) (z2.mono (by omega)) (by omega)
    refine ⟨u2, v2, w7, w8, w9, w10, w11, w12, w13, ?_, ?_, ?_, ?_⟩
    · rw [List.map_cons, forL_step e1, e2]
    · rw [List.length_cons, Nat.add_mul, Nat.one_mul]; exact z3.mono (by omega)
    · rw [List.length_cons, Nat.add_mul, Nat.one_mul]; exact z4.mono (by omega)
    · rw [ve2, ve]
      show _ = _ * (_ * _)
      grind
theorem pair_of_eq {n a B mo : Nat} (hB : mo * (3 * n + 1) ≤ B) (hmo : mo ≤ 1000) {rt num : Int} (zr : Sz n rt) (r0 : 0 ≤ rt) (hn : n ≤ 100000) {m : Mn} {P : D} {pt : List Nat → N4} {L : List (List Nat × Int)} (nd : (L.map (·.1)).Nodup) (nL : ∀ p ∈ L, Nm p.1) (nM : ∀ p ∈ m, Nm p.1) (pM : ∀ p ∈ m, 0 ≤ p.2)
    (hP : ∀ p ∈ L, PtX n rt (pt p.1) ∧ dIx P (encN p.1) = .ok (encX (pt p.1)) ∧ powOf m p.1 ≤ p.2 ∧ p.2 ≤ mo) (zn : Sz a num) (a1 : 1 ≤ a) (hl : a + L.length * B ≤ 1000000) :
    ∃ u v : Int, m_pair_of_v2 [encM m, .int num, P, .dic (L.map (encE encN D.int)), .int rt] = .ok (.tup [.int u, .int v]) ∧ Sz (a + L.length * B) u ∧ Sz (a + L.length * B) v ∧
      (u : Re) + (v : Re) * Re.root rt = (num : Re) * prodX (fun p => (((pt p.1).1 : Re) + ((pt p.1).2.1 : Re) * Re.root rt) ^ (powOf m p.1).toNat * ((pt p.1).2.2.2 : Re) ^ (p.2.toNat - (powOf m p.1).toNat)) L := by
  obtain ⟨u, v, y7, y8, y9, y10, y11, y12, y13, e, z1, z2, ve⟩ := pair_loop (M := encM m) (P := P) (T := .dic (L.map (encE encN D.int))) (pt := pt) (w := fun x => (powOf m x).toNat) (x1 := some (.int num)) hB hmo zr r0 hn L a num 0 none none none none none none none (fun p hp => by
    obtain ⟨h1, h2, h3, h4⟩ := hP p hp
    have hw := power_of_eq nM (nL p hp)
    have h0 := powOf_nn pM p.1
    refine ⟨h1, h2, ?_, ?_, by omega, h4⟩
    · exact dIx_F encN_inj flat_N ((fnd_mem nd).mpr hp)
    · rw [show ((powOf m p.1).toNat : Int) = powOf m p.1 by omega]; exact hw) zn ((show Sz 1 0 by unfold Sz; decide).mono a1) hl
  refine ⟨u, v, ?_, z1, z2, by rw [ve, Re.cast_0]; grind⟩
  have ek : (L.map (encE encN D.int)).map (·.1) = L.map fun p => encN p.1 := by rw [List.map_map]; rfl
  have ef : ∀ d ∈ L.map (fun p => encN p.1), flatK d = true := fun d hd => by
    obtain ⟨p, _, rfl⟩ := List.mem_map.mp hd
    exact flat_N p.1
  generalize hT : D.dic (L.map (encE encN D.int)) = T at *
  unfold m_pair_of_v2 b_pair_of_v2
  walk_at "wk"
  simp only [sForD_ap]
  rw [← hT]
  walk_at "wk"
  rw [ek]
  refine chk_go ef ?_
  rw [hT, e]
  show ((SO.nx [some (encM m), some (.int num), some P, some T, some (.int rt), some (.int u), some (.int v), y7, y8, y9, y10, y11, y12, y13]).andThen (sRet (eA mkTup (aC (eV 5) (aC (eV 6) aN))))).res = _
  clear e ve hP hT ef ek
  walk_at "go"
def rootIn (pt : List Nat → N4) : List (List Nat) → Int
  | [] => 0
  | x :: l => if (pt x).2.1 ≠ 0 then (pt x).2.2.1 else rootIn pt l
theorem root_in_eq {P : D} {pt : List Nat → N4} {xs : List (List Nat)} (hP : ∀ x ∈ xs, dIx P (encN x) = .ok (encX (pt x))) : m_root_in [.tup (xs.map encN), P] = .ok (.int (rootIn pt xs)) := by
  have key : ∀ (l : List (List Nat)) (x0 x2 : Option D), (∀ x ∈ l, dIx P (encN x) = .ok (encX (pt x))) → (∃ x2', forL (gN 2) b_root_in_1 (l.map encN) [x0, some P, x2] = .nx [x0, some P, x2'] ∧ rootIn pt l = 0) ∨ forL (gN 2) b_root_in_1 (l.map encN) [x0, some P, x2] = .rt (.int (rootIn pt l)) := by
    intro l
    induction l with
    | nil => intro x0 x2 _; exact .inl ⟨x2, rfl, rfl⟩
    | cons x l ih =>
      intro x0 x2 h
      have hx := h x List.mem_cons_self
      have e1 : dIx (encX (pt x)) (.int 1) = .ok (.int (pt x).2.1) := ixt1 _ _ _
      have e2 : dIx (encX (pt x)) (.int 2) = .ok (.int (pt x).2.2.1) := ixt2 _ _ _ _
      have ih' := ih x0 (some (encN x)) fun y hy => h y (List.mem_cons_of_mem _ hy)
      clear h ih
      unfold rootIn
      rw [List.map_cons]
      by_cases c : (pt x).2.1 = 0
      · rw [if_neg (by simpa using c)]
        have st : (oS (gN 2 (encN x) [x0, some P, x2]) b_root_in_1).cont = .nx [x0, some P, some (encN x)] := by
          clear ih'
          unfold b_root_in_1
          walk_at "go"
        rw [forL_step st]
        exact ih'
      · rw [if_pos c]
        right
        rw [forL_cons]
        clear ih'
        generalize forL (gN 2) b_root_in_1 (l.map encN) = R
        unfold b_root_in_1
        walk_at "go"
  rcases key xs (some (.tup (xs.map encN))) none hP with ⟨x2', e, e0⟩ | e
  · rw [e0]
    unfold m_root_in b_root_in
    clear key hP
    walk_at "go"
  · unfold m_root_in b_root_in
    clear key hP
    walk_at "go"
noncomputable def wX (X : List Nat → Re) : Mn → Re
  | [] => 1
  | p :: m => X p.1 ^ p.2.toNat * wX X m
noncomputable def valX (X : List Nat → Re) : List Tm → Re
  | [] => 0
  | q :: f => (q.2 : Re) * wX X q.1 + valX X f
theorem prodX_mul (F G : List Nat × Int → Re) : ∀ L, prodX (fun p => F p * G p) L = prodX F L * prodX G L
  | [] => by unfold prodX; grind
  | p :: L => by
    show F p * G p * prodX (fun p => F p * G p) L = F p * prodX F L * (G p * prodX G L)
    rw [prodX_mul F G L]
    grind
theorem prodX_congr {F G : List Nat × Int → Re} : ∀ {L}, (∀ p ∈ L, F p = G p) → prodX F L = prodX G L
  | [], _ => rfl
  | p :: L, h => by
    show F p * prodX F L = G p * prodX G L
    rw [h p List.mem_cons_self, prodX_congr fun q hq => h q (List.mem_cons_of_mem _ hq)]
theorem prodX_one : ∀ L : List (List Nat × Int), prodX (fun _ => 1) L = 1
  | [] => rfl
  | _ :: L => by show (1 : Re) * prodX (fun _ => 1) L = 1; rw [prodX_one L]; grind
theorem Re.pow_pos {x : Re} (h : 0 < x) : ∀ k : Nat, 0 < x ^ k
  | 0 => by rw [Lean.Grind.Semiring.pow_zero]; exact Lean.Grind.OrderedRing.zero_lt_one
  | k + 1 => by rw [Lean.Grind.Semiring.pow_succ]; exact Re.mul_pp (Re.pow_pos h k) h
theorem prodX_pos {F : List Nat × Int → Re} : ∀ {L}, (∀ p ∈ L, 0 < F p) → 0 < prodX F L
  | [], _ => Lean.Grind.OrderedRing.zero_lt_one
  | p :: L, h => Re.mul_pp (h p List.mem_cons_self) (prodX_pos fun q hq => h q (List.mem_cons_of_mem _ hq))
theorem prodX_point {x : List Nat} {F G : List Nat × Int → Re} {c : Re} : ∀ {L : List (List Nat × Int)}, (L.map (·.1)).Nodup → x ∈ L.map (·.1) → (∀ p ∈ L, p.1 ≠ x → F p = G p) → (∀ p ∈ L, p.1 = x → F p = c * G p) → prodX F L = c * prodX G L
  | [], _, h, _, _ => by cases h
  | p :: L, nd, h, h1, h2 => by
    rw [List.map_cons, List.nodup_cons] at nd
    show F p * prodX F L = c * (G p * prodX G L)
    by_cases e : p.1 = x
    · rw [h2 p List.mem_cons_self e, prodX_congr (F := F) (G := G) fun q hq => h1 q (List.mem_cons_of_mem _ hq) fun z => nd.1 (by rw [e, ← z]; exact List.mem_map_of_mem hq)]
      grind
    · have h' : x ∈ L.map (·.1) := by
        rcases List.mem_cons.mp h with q | q
        · exact absurd q.symm e
        · exact q
      rw [h1 p List.mem_cons_self e, prodX_point nd.2 h' (fun q hq => h1 q (List.mem_cons_of_mem _ hq)) fun q hq => h2 q (List.mem_cons_of_mem _ hq)]
      grind
theorem prodX_pow (X : List Nat → Re) {L : List (List Nat × Int)} (nd : (L.map (·.1)).Nodup) : ∀ {m : Mn}, (m.map (·.1)).Nodup → (∀ p ∈ m, p.1 ∈ L.map (·.1)) → prodX (fun p => X p.1 ^ (powOf m p.1).toNat) L = wX X m
  | [], _, _ => by
    show prodX (fun p => X p.1 ^ (0 : Int).toNat) L = 1
    rw [← prodX_one L]
    exact prodX_congr fun p _ => Lean.Grind.Semiring.pow_zero _
  | q :: m, nm, h => by
    rw [List.map_cons, List.nodup_cons] at nm
    show _ = X q.1 ^ q.2.toNat * wX X m
    rw [← prodX_pow X nd nm.2 fun p hp => h p (List.mem_cons_of_mem _ hp)]
    refine prodX_point nd (h q List.mem_cons_self) (fun p _ ne => ?_) fun p _ e => ?_
    · have : powOf (q :: m) p.1 = powOf m p.1 := by
        show ((if q.1 = p.1 then some q.2 else fnd m p.1).getD 0) = (fnd m p.1).getD 0
        rw [if_neg fun z => ne z.symm]
      rw [this]
    · have h1 : powOf (q :: m) p.1 = q.2 := by
        show ((if q.1 = p.1 then some q.2 else fnd m p.1).getD 0) = q.2
        rw [if_pos e.symm]; rfl
      have h2 : powOf m p.1 = 0 := by
        unfold powOf
        rw [fnd_none.mpr (by rw [e]; exact nm.1)]; rfl
      rw [h1, h2, e, show (0 : Int).toNat = 0 from rfl, Lean.Grind.Semiring.pow_zero]
      grind
theorem sums_2 {n a B mo : Nat} (hB : mo * (3 * n + 1) ≤ B) (hmo : mo ≤ 1000) {rt : Int} (zr : Sz n rt) (r0 : 0 ≤ rt) (hn : n ≤ 100000) (a1 : 1 ≤ a) {P : D} {pt : List Nat → N4} {L : List (List Nat × Int)} (nd : (L.map (·.1)).Nodup) (nL : ∀ p ∈ L, Nm p.1)
    (hP : ∀ p ∈ L, PtX n rt (pt p.1) ∧ dIx P (encN p.1) = .ok (encX (pt p.1)) ∧ p.2 ≤ mo) {W : Nat} (hW : a + L.length * B = W) (hl : W ≤ 900000) {x0 x2 x3 : Option D} :
    ∀ (f : List Tm) (j : Nat) (u v : Int) (x8 x9 x10 x11 : Option D), (∀ q ∈ f, (∀ p ∈ q.1, Nm p.1 ∧ 0 ≤ p.2) ∧ Sz a q.2 ∧ ∀ p ∈ L, powOf q.1 p.1 ≤ p.2) → Sz (W + j) u → Sz (W + j) v → j + f.length ≤ 10000 →
    ∃ u' v' x8' x9' x10' x11', forL (gT [gN 8, gN 9]) b_sign_at_2 (f.map encQ) [x0, some P, x2, x3, some (.int rt), some (.dic (L.map (encE encN D.int))), some (.int u), some (.int v), x8, x9, x10, x11] = .nx [x0, some P, x2, x3, some (.int rt), some (.dic (L.map (encE encN D.int))), some (.int u'), some (.int v'), x8', x9', x10', x11'] ∧
      Sz (W + j + f.length) u' ∧ Sz (W + j + f.length) v' ∧
      (u' : Re) + (v' : Re) * Re.root rt = ((u : Re) + (v : Re) * Re.root rt) + (f.map fun q => (q.2 : Re) * prodX (fun p => (((pt p.1).1 : Re) + ((pt p.1).2.1 : Re) * Re.root rt) ^ (powOf q.1 p.1).toNat * ((pt p.1).2.2.2 : Re) ^ (p.2.toNat - (powOf q.1 p.1).toNat)) L).foldr (· + ·) 0 := by
  intro f
  induction f with
  | nil => intro j u v x8 x9 x10 x11 _ zu zv _; exact ⟨u, v, x8, x9, x10, x11, rfl, zu, zv, by show _ = _ + (0 : Re); grind⟩
  | cons q f ih =>
    intro j u v x8 x9 x10 x11 h zu zv hj
    obtain ⟨h1, h2, h3⟩ := h q List.mem_cons_self
    rw [List.length_cons] at hj
    obtain ⟨u1, v1, e1, z1, z2, ve⟩ := pair_of_eq (m := q.1) hB hmo zr r0 hn nd nL (fun p hp => (h1 p hp).1) (fun p hp => (h1 p hp).2) (fun p hp => ⟨(hP p hp).1, (hP p hp).2.1, h3 p hp, (hP p hp).2.2⟩) h2 a1 (by omega)
    rw [hW] at z1 z2
    obtain ⟨u2, v2, y8, y9, y10, y11, e2, z3, z4, ve2⟩ := ih (j + 1) (u + u1) (v + v1) (some (encM q.1)) (some (.int q.2)) (some (.int u1)) (some (.int v1)) (fun r hr => h r (List.mem_cons_of_mem _ hr)) (zu.add (z1.mono (by omega))) (zv.add (z2.mono (by omega))) (by omega)
    refine ⟨u2, v2, y8, y9, y10, y11, ?_, ?_, ?_, ?_⟩
    · rw [List.map_cons, ← e2]
      refine forL_step ?_
      clear e2 ih h hP zu zv z1 z2 z3 z4 ve ve2
      unfold b_sign_at_2
      rw [show encQ q = .tup [encM q.1, .int q.2] from rfl]
      generalize D.dic (L.map (encE encN D.int)) = T at *
      generalize encM q.1 = M at *
      walk_at "go"
    · rw [List.length_cons]; exact z3.mono (by omega)
    · rw [List.length_cons]; exact z4.mono (by omega)
    · rw [ve2, List.map_cons, List.foldr_cons, ← ve]
      simp only [Re.cast_add]
      grind
theorem PtX.pow {n : Nat} {rt : Int} {x : N4} (h : PtX n rt x) (w t : Nat) (l : w ≤ t) : ((x.1 : Re) + (x.2.1 : Re) * Re.root rt) ^ w * (x.2.2.2 : Re) ^ (t - w) = PD.val x ^ w * (x.2.2.2 : Re) ^ t := by
  rw [← h.val]
  have e : ∀ k : Nat, (PD.val x * (x.2.2.2 : Re)) ^ k = PD.val x ^ k * (x.2.2.2 : Re) ^ k := fun k => by
    induction k with
    | zero => rw [Lean.Grind.Semiring.pow_zero, Lean.Grind.Semiring.pow_zero, Lean.Grind.Semiring.pow_zero]; grind
    | succ k ih => rw [Lean.Grind.Semiring.pow_succ, Lean.Grind.Semiring.pow_succ, Lean.Grind.Semiring.pow_succ, ih]; grind
  rw [e, Lean.Grind.Semiring.mul_assoc, ← Lean.Grind.Semiring.pow_add, show w + (t - w) = t by omega]
theorem sum_val {n : Nat} {rt : Int} {pt : List Nat → N4} {L : List (List Nat × Int)} (nd : (L.map (·.1)).Nodup) (hP : ∀ p ∈ L, PtX n rt (pt p.1)) : ∀ f : List Tm, (∀ q ∈ f, (q.1.map (·.1)).Nodup ∧ (∀ p ∈ q.1, p.1 ∈ L.map (·.1)) ∧ ∀ p ∈ L, powOf q.1 p.1 ≤ p.2) →
    (f.map fun q => (q.2 : Re) * prodX (fun p => (((pt p.1).1 : Re) + ((pt p.1).2.1 : Re) * Re.root rt) ^ (powOf q.1 p.1).toNat * ((pt p.1).2.2.2 : Re) ^ (p.2.toNat - (powOf q.1 p.1).toNat)) L).foldr (· + ·) 0 = prodX (fun p => ((pt p.1).2.2.2 : Re) ^ p.2.toNat) L * valX (fun x => PD.val (pt x)) f := by
  intro f
  induction f with
  | nil => intro _; show (0 : Re) = _ * 0; grind
  | cons q f ih =>
    intro h
    obtain ⟨h1, h2, h3⟩ := h q List.mem_cons_self
    rw [List.map_cons, List.foldr_cons, ih fun r hr => h r (List.mem_cons_of_mem _ hr)]
    rw [prodX_congr (F := fun p => (((pt p.1).1 : Re) + ((pt p.1).2.1 : Re) * Re.root rt) ^ (powOf q.1 p.1).toNat * ((pt p.1).2.2.2 : Re) ^ (p.2.toNat - (powOf q.1 p.1).toNat)) (G := fun p => PD.val (pt p.1) ^ (powOf q.1 p.1).toNat * ((pt p.1).2.2.2 : Re) ^ p.2.toNat) fun p hp => (hP p hp).pow _ _ (by have := h3 p hp; omega)]
    rw [prodX_mul, prodX_pow (fun x => PD.val (pt x)) nd h1 h2]
    show _ = _ * ((q.2 : Re) * wX (fun x => PD.val (pt x)) q.1 + valX (fun x => PD.val (pt x)) f)
    grind
theorem signat_1 {P : D} {x0 x2 x4 x5 x6 x7 x8 x9 x10 x11 : Option D} : ∀ (xs : List (List Nat)) (x3 : Option D), (∀ x ∈ xs, dNotIn (encN x) P = .ok (.bl false)) →
    ∃ x3', forL (gN 3) b_sign_at_1 (xs.map encN) [x0, some P, x2, x3, x4, x5, x6, x7, x8, x9, x10, x11] = .nx [x0, some P, x2, x3', x4, x5, x6, x7, x8, x9, x10, x11]
  | [], x3, _ => ⟨x3, rfl⟩
  | x :: xs, x3, h => by
    obtain ⟨x3', e⟩ := signat_1 xs (some (encN x)) fun y hy => h y (List.mem_cons_of_mem _ hy)
    refine ⟨x3', ?_⟩
    rw [List.map_cons, ← e]
    refine forL_step ?_
    have h1 := h x List.mem_cons_self
    clear e h
    unfold b_sign_at_1
    walk_at "go"
theorem sign_at_eq {n a b B mo : Nat} {f : List Tm} {P : D} {pt : List Nat → N4} (hB : mo * (3 * n + 1) ≤ B) (hmo : mo ≤ 1000) (hm : ∀ q ∈ f, Mono mo q.1) (hb : ∀ q ∈ f, q.1.length ≤ b) (hf : f.length * b ≤ 10000) (hf2 : f.length ≤ 10000) (hz : ∀ q ∈ f, Sz a q.2) (a1 : 1 ≤ a) (hn : n ≤ 100000)
    (hP : ∀ x ∈ namesOf f, PtX n (rootIn pt (namesOf f)) (pt x) ∧ dIx P (encN x) = .ok (encX (pt x)) ∧ dNotIn (encN x) P = .ok (.bl false)) (r0 : 0 ≤ rootIn pt (namesOf f)) (zr : Sz n (rootIn pt (namesOf f)))
    (hl : a + (stL (allP f)).length * B ≤ 900000) : m_sign_at [.tup (f.map encQ), P] = .ok (.int (Re.sgn (valX (fun x => val (pt x)) f))) := by
  have nd : ((stL (allP f)).map (·.1)).Nodup := st_nodup (allP f) [] List.nodup_nil
  have mem : ∀ p ∈ stL (allP f), p.1 ∈ namesOf f := fun p hp => (stands_keys f p.1).mp (List.mem_map_of_mem hp)
  have top : ∀ p ∈ stL (allP f), p.2 = topOf p.1 f := fun p hp => by
    have h1 : fnd (stL (allP f)) p.1 = some p.2 := (fnd_mem nd).mpr hp
    have h2 := stands_get hm p.1
    rw [h1] at h2
    exact h2
  have low : ∀ q ∈ f, ∀ p ∈ stL (allP f), powOf q.1 p.1 ≤ p.2 := fun q hq p hp => by
    rw [top p hp]
    exact pow_le_top p.1 f 0 q hq
  have tb : ∀ p ∈ stL (allP f), p.2 ≤ (mo : Int) := fun p hp => by
    rw [top p hp]
    exact top_le p.1 f 0 (fun q hq => powOf_le (by omega) (fun r hr => ((hm q hq).nm r hr).2.2) _) (by omega)
  have nmL : ∀ p ∈ stL (allP f), Nm p.1 := fun p hp => by
    obtain ⟨q, hq, r, hr, e⟩ := namesOf_mem.mp (mem p hp)
    rw [← e]
    exact ((hm q hq).nm r hr).1
  have e1 := names_of_eq (f := f) (fun q hq p hp => ((hm q hq).nm p hp).1) hb hf
  have e2 := root_in_eq (P := P) (pt := pt) (xs := namesOf f) fun x hx => (hP x hx).2.1
  have e3 := tops_eq hb hf
  obtain ⟨x3', l1⟩ := signat_1 (P := P) (x0 := some (.tup (f.map encQ))) (x2 := some (.tup ((namesOf f).map encN))) (x4 := none) (x5 := none) (x6 := none) (x7 := none) (x8 := none) (x9 := none) (x10 := none) (x11 := none) (namesOf f) none fun x hx => (hP x hx).2.2
  generalize hrt : rootIn pt (namesOf f) = rt at *
  obtain ⟨u, v, y8, y9, y10, y11, l2, z1, z2, ve⟩ := sums_2 (P := P) (pt := pt) hB hmo zr r0 hn a1 nd nmL (fun p hp => ⟨(hP p.1 (mem p hp)).1, (hP p.1 (mem p hp)).2.1, tb p hp⟩) rfl hl (x0 := some (.tup (f.map encQ))) (x2 := some (.tup ((namesOf f).map encN))) (x3 := x3') f 0 0 0 none none none none
    (fun q hq => ⟨fun p hp => ⟨((hm q hq).nm p hp).1, by have := ((hm q hq).nm p hp).2.1; omega⟩, hz q hq, low q hq⟩) ((show Sz 1 0 by unfold Sz; decide).mono (by omega)) ((show Sz 1 0 by unfold Sz; decide).mono (by omega)) (by omega)
  have e4 := sign_one_eq (a := 1000000) (z1.mono (by omega)) (z2.mono (by omega)) (zr.mono (by omega)) (Nat.le_refl _)
  have sv := sum_val (n := n) (rt := rt) (pt := pt) nd (fun p hp => (hP p.1 (mem p hp)).1) f fun q hq => ⟨up_nodup (hm q hq).up, fun p hp => (stands_keys f p.1).mpr (namesOf_mem.mpr ⟨q, hq, p, hp, rfl⟩), low q hq⟩
  have fin : signOne u v rt = Re.sgn (valX (fun x => val (pt x)) f) := by
    have pp : 0 < prodX (fun p => ((pt p.1).2.2.2 : Re) ^ p.2.toNat) (stL (allP f)) := prodX_pos fun p hp => Re.pow_pos (Re.cast_pos' (hP p.1 (mem p hp)).1.good.s0) _
    rw [sv, Re.cast_0] at ve
    generalize prodX (fun p => ((pt p.1).2.2.2 : Re) ^ p.2.toNat) (stL (allP f)) = Z at *
    generalize valX (fun x => PD.val (pt x)) f = Y at *
    have vz : (u : Re) + (v : Re) * Re.root rt = Z * Y := by rw [ve]; clear ve sv; grind
    rw [Re.one_sgn r0, vz, Re.sgn_scale pp]
  rw [fin] at e4
  clear fin sv ve z1 z2 hP hl hz hm hb hf hf2 nd mem top low tb nmL hB hmo zr r0 hrt
  generalize (stL (allP f)).map (encE encN D.int) = T at *
  generalize (namesOf f).map encN = M at *
  generalize f.map encQ = F at *
  unfold m_sign_at b_sign_at
  walk_at "go"
inductive Wd where | less | most | equal | unlike
deriving DecidableEq
def Wd.str : Wd → Str
  | .less => "less"
  | .most => "most"
  | .equal => "equal"
  | .unlike => "unlike"
inductive Sn where
  | yes | no | cmp (w : Wd) (f : List Tm) | both (l : List Sn) | either (l : List Sn) | neg (s : Sn) | some (x : List Nat) (s : Sn) | all (x : List Nat) (s : Sn)
mutual
def Sn.depth : Sn → Nat
  | .yes => 1
  | .no => 1
  | .cmp _ _ => 1
  | .both l => Sn.depths l + 1
  | .either l => Sn.depths l + 1
  | .neg s => s.depth + 1
  | .some _ s => s.depth + 1
  | .all _ s => s.depth + 1
def Sn.depths : List Sn → Nat
  | [] => 0
  | s :: l => max s.depth (Sn.depths l)
end
mutual
def Sn.cmps : Sn → List (Wd × List Tm)
  | .yes => []
  | .no => []
  | .cmp w f => [(w, f)]
  | .both l => Sn.cmpss l
  | .either l => Sn.cmpss l
  | .neg s => s.cmps
  | .some _ s => s.cmps
  | .all _ s => s.cmps
def Sn.cmpss : List Sn → List (Wd × List Tm)
  | [] => []
  | s :: l => s.cmps ++ Sn.cmpss l
end
theorem cmpss_flat : ∀ l : List Sn, Sn.cmpss l = l.flatMap Sn.cmps
  | [] => rfl
  | s :: l => by rw [Sn.cmpss, cmpss_flat l, List.flatMap_cons]
mutual
noncomputable def Sn.fv : Sn → List (List Nat)
  | .yes => []
  | .no => []
  | .cmp _ f => namesOf f
  | .both l => Sn.fvs l
  | .either l => Sn.fvs l
  | .neg s => s.fv
  | .some x s => s.fv.filter fun y => decide (y ≠ x)
  | .all x s => s.fv.filter fun y => decide (y ≠ x)
noncomputable def Sn.fvs : List Sn → List (List Nat)
  | [] => []
  | s :: l => s.fv ++ Sn.fvs l
end
noncomputable def setN (xs : List (List Nat)) (l : List (List Nat × Bool)) : List (List Nat × Bool) := xs.foldl (fun l x => put l x true) l
noncomputable def Sn.free (s : Sn) : List (List Nat) := sortN ((setN s.fv []).map (·.1))
theorem ltN_irrefl (a : List Nat) : ¬ a < a := List.lt_irrefl _
theorem prU_as (p q : Pr) (h : p.1 < q.1) (k : q.1 < p.1) : False := ltN_irrefl _ (List.lt_trans h k)
theorem put_new {κ ν : Type} [DecidableEq κ] : ∀ {l : List (κ × ν)} {k : κ} {v : ν}, k ∉ l.map (·.1) → put l k v = l ++ [(k, v)]
  | [], _, _, _ => rfl
  | q :: l, k, v, n => by
    rw [List.map_cons, List.mem_cons, not_or] at n
    show (if q.1 = k then _ else _) = _
    rw [if_neg (fun z => n.1 z.symm), put_new n.2]; rfl
theorem tot_id : ∀ (ps l : List Tm), ((l ++ ps).map (·.1)).Nodup → tot l ps = l ++ ps
  | [], l, _ => by simp [tot]
  | q :: ps, l, h => by
    have nq : q.1 ∉ l.map (·.1) := fun z => by
      rw [List.map_append, List.nodup_append] at h
      exact h.2.2 _ z _ (by rw [List.map_cons]; exact List.mem_cons_self) rfl
    show tot (put l q.1 ((fnd l q.1).getD 0 + q.2)) ps = _
    rw [put_new nq, fnd_none.mpr nq, Option.getD_none, Int.zero_add, tot_id ps _ (by simpa using h)]
    simp
theorem formOf_perm {ps : List Tm} (nd : (ps.map (·.1)).Nodup) (nz : ∀ q ∈ ps, q.2 ≠ 0) : (formOf ps).Perm ps := by
  unfold formOf
  have e : tot [] ps = ps := tot_id ps [] (by simpa using nd)
  rw [e, List.filter_eq_self.mpr fun q hq => ?_]
  · exact List.mergeSort_perm _ _
  · exact decide_eq_true (nz q ((List.mergeSort_perm _ _).mem_iff.mp hq))
theorem Form.nodup {most : Int} {f : List Tm} (h : Form most f) : (f.map (·.1)).Nodup := by
  refine List.pairwise_map.mpr (h.up.imp fun {a b} lt e => ?_)
  rw [e] at lt
  exact ltM_as b b lt lt
theorem formOf_id {most : Int} {f : List Tm} (h : Form most f) : formOf f = f := by
  obtain ⟨f1, _, _⟩ := form_is h.mono
  have pm := formOf_perm h.nodup h.nz
  exact eq_of_up ltM_as f1.up h.up fun q => pm.mem_iff
theorem Form.take {most : Int} {f : List Tm} (h : Form most f) (k : Nat) : Form most (f.take k) :=
  ⟨fun q hq => h.mono q (List.mem_of_mem_take hq), fun q hq => h.nz q (List.mem_of_mem_take hq), h.up.sublist (List.take_sublist k f)⟩
def gcdN (f : List Tm) (t : Nat) : Nat := f.foldl (fun t q => Nat.gcd q.2.natAbs t) t
def leanF (f : List Tm) : List Tm := if gcdN f 0 < 2 then f else f.map fun q => (q.1, q.2 / (gcdN f 0 : Int))
def insX (x : N4) : List N4 → List N4
  | [] => [x]
  | y :: l => if ordX y x < 0 then y :: insX x l else if 0 < ordX y x then x :: y :: l else y :: l
theorem insX_sub {x : N4} : ∀ (l : List N4), ∀ y ∈ insX x l, y = x ∨ y ∈ l := by
  intro l
  induction l with
  | nil => intro y hy; exact .inl (List.mem_singleton.mp hy)
  | cons z l ih =>
    intro y hy
    unfold insX at hy
    split at hy
    · rcases List.mem_cons.mp hy with rfl | hy
      · exact .inr List.mem_cons_self
      · rcases ih y hy with h | h
        · exact .inl h
        · exact .inr (List.mem_cons_of_mem _ h)
    · split at hy
      · rcases List.mem_cons.mp hy with rfl | hy
        · exact .inl rfl
        · exact .inr hy
      · exact .inr hy
abbrev UpX (l : List N4) : Prop := l.Pairwise fun x y => val x < val y
theorem insX_up {n : Nat} {x : N4} (hx : GoodX n x) : ∀ (l : List N4), (∀ y ∈ l, GoodX n y) → UpX l → UpX (insX x l) := by
  intro l
  induction l with
  | nil => intro _ _; exact List.pairwise_singleton _ _
  | cons z l ih =>
    intro h u
    have hz := h z List.mem_cons_self
    obtain ⟨u1, u2⟩ := List.pairwise_cons.mp u
    unfold insX
    split
    · rename_i c
      rw [ordX_lt hz hx] at c
      refine List.pairwise_cons.mpr ⟨fun y hy => ?_, ih (fun y hy => h y (List.mem_cons_of_mem _ hy)) u2⟩
      rcases insX_sub l y hy with rfl | hy
      · exact c
      · exact u1 y hy
    · split
      · rename_i d
        rw [ordX_gt hz hx] at d
        refine List.pairwise_cons.mpr ⟨fun y hy => ?_, u⟩
        rcases List.mem_cons.mp hy with rfl | hy
        · exact d
        · have := u1 y hy; grind
      · exact u
structure BX (n : Nat) (l : List N4) : Prop where
  good : ∀ y ∈ l, GoodX n y
  up : UpX l
theorem BX.ins {n : Nat} {l : List N4} (h : BX n l) {x : N4} (hx : GoodX n x) : BX n (insX x l) :=
  ⟨fun y hy => (insX_sub l y hy).elim (fun e => e ▸ hx) (h.good y), insX_up hx l h.good h.up⟩
theorem BX.nil (n : Nat) : BX n [] := ⟨(fun y hy => by cases hy), List.Pairwise.nil⟩
mutual
def Sn.size : Sn → Nat
  | .both l => Sn.sizes l + 1
  | .either l => Sn.sizes l + 1
  | .neg s => s.size + 1
  | .some _ s => s.size + 1
  | .all _ s => s.size + 1
  | _ => 1
def Sn.sizes : List Sn → Nat
  | [] => 0
  | s :: l => s.size + Sn.sizes l
end
theorem cell_w {ns : List Int} (hb : ∀ z ∈ ns, Builtin.Int.intBits z ≤ 1048576) (k : Nat) : ∃ n : Int, m__law_cell_v2 [.scr ns, .int k] = .ok (.int n) ∧ 0 ≤ n ∧ n < 1000000000000000000000000000000000000000000000000000000000000 := by
  by_cases h : k < ns.length
  · exact cell_eq hb h
  · refine ⟨0, ?_, by decide, by decide⟩
    have e5 : ¬ (k : Int) < ns.length := by omega
    unfold m__law_cell_v2 b__law_cell_v2
    walk_at "go"
def flat (prs : List (N4 × N4)) : List N4 := prs.flatMap fun p => [p.1, p.2]
theorem BX.snoc {n : Nat} {l : List N4} (h : BX n l) {x : N4} (g : GoodX n x) (u : ∀ w ∈ l, val w < val x) : BX n (l ++ [x]) :=
  ⟨fun y hy => (List.mem_append.mp hy).elim (h.good y) fun q => by rw [List.mem_singleton] at q; subst q; exact g,
   List.pairwise_append.mpr ⟨h.up, List.pairwise_singleton _ _, fun a ha b hb => by rw [List.mem_singleton] at hb; subst hb; exact u a ha⟩⟩
theorem valX_nz (X : List Nat → Re) : ∀ f : List Tm, valX X (f.filter fun q => decide (q.2 ≠ 0)) = valX X f
  | [] => rfl
  | q :: f => by
    by_cases c : q.2 = 0
    · rw [List.filter_cons_of_neg (by simpa using c), valX_nz X f]
      show _ = (q.2 : Re) * wX X q.1 + valX X f
      rw [c, Re.cast_0]; grind
    · rw [List.filter_cons_of_pos (by simpa using c)]
      show (q.2 : Re) * wX X q.1 + valX X (f.filter fun q => decide (q.2 ≠ 0)) = (q.2 : Re) * wX X q.1 + valX X f
      rw [valX_nz X f]
mutual
def Sn.bnd : Sn → List (List Nat)
  | .both l => Sn.bnds l
  | .either l => Sn.bnds l
  | .neg s => s.bnd
  | .some x s => x :: s.bnd
  | .all x s => x :: s.bnd
  | _ => []
def Sn.bnds : List Sn → List (List Nat)
  | [] => []
  | s :: l => s.bnd ++ Sn.bnds l
end
theorem bnds_flat : ∀ l : List Sn, Sn.bnds l = l.flatMap Sn.bnd
  | [] => rfl
  | s :: l => by rw [Sn.bnds, bnds_flat l, List.flatMap_cons]
structure NmS (s : Sn) : Prop where
  c : ∀ c ∈ s.cmps, ∀ q ∈ c.2, ∀ p ∈ q.1, Nm p.1
  b : ∀ x ∈ s.bnd, Nm x
theorem NmS.both {l : List Sn} (h : NmS (.both l)) : ∀ s ∈ l, NmS s := fun s hs => ⟨fun c hc => h.c c (by rw [Sn.cmps, cmpss_flat]; exact List.mem_flatMap.mpr ⟨s, hs, hc⟩), fun x hx => h.b x (by rw [Sn.bnd, bnds_flat]; exact List.mem_flatMap.mpr ⟨s, hs, hx⟩)⟩
theorem NmS.either {l : List Sn} (h : NmS (.either l)) : ∀ s ∈ l, NmS s := fun s hs => ⟨fun c hc => h.c c (by rw [Sn.cmps, cmpss_flat]; exact List.mem_flatMap.mpr ⟨s, hs, hc⟩), fun x hx => h.b x (by rw [Sn.bnd, bnds_flat]; exact List.mem_flatMap.mpr ⟨s, hs, hx⟩)⟩
theorem NmS.yes : NmS .yes := ⟨fun c hc => (List.not_mem_nil hc).elim, fun x hx => by
  rw [show Sn.bnd .yes = [] from by simp [Sn.bnd]] at hx; exact (List.not_mem_nil hx).elim⟩
theorem NmS.no : NmS .no := ⟨fun c hc => (List.not_mem_nil hc).elim, fun x hx => by
  rw [show Sn.bnd .no = [] from by simp [Sn.bnd]] at hx; exact (List.not_mem_nil hx).elim⟩
open Classical in
noncomputable def addK (gone : Sn) (kept : List Sn) (p : Sn) : List Sn := if p ≠ gone ∧ p ∉ kept then kept ++ [p] else kept
noncomputable def keptS (gone : Sn) (l : List Sn) : List Sn := l.foldl (addK gone) []
def goneS (b : Bool) : Sn := if b then .yes else .no
def ruleS (b : Bool) : Sn := if b then .no else .yes
def putS (b : Bool) (l : List Sn) : Sn := if b then .both l else .either l
open Classical in
noncomputable def foldS (b : Bool) (l : List Sn) : Sn :=
  if ruleS b ∈ l then ruleS b else match keptS (goneS b) l with
    | [] => goneS b
    | [p] => p
    | k => putS b k
theorem Ok.most {xs : List (List Nat)} {most m2 : Int} {k b : Nat} {f : List Tm} (h : Ok xs most k b f) (l : most ≤ m2) : Ok xs m2 k b f :=
  ⟨fun q hq => ⟨fun p hp => ⟨((h.mono q hq).nm p hp).1, ((h.mono q hq).nm p hp).2.1, Int.le_trans ((h.mono q hq).nm p hp).2.2 l⟩, (h.mono q hq).up, (h.mono q hq).few⟩, h.nin, h.few, h.sz⟩
theorem sz_zero (n : Nat) : Sz n 0 := by unfold Sz; exact Nat.two_pow_pos _
def cst (f : List Tm) : Bool := f.all fun q => decide (q.1 = [])
structure FG (b : Nat) (f : List Tm) : Prop where
  form : Form 1000 f
  few : ∀ q ∈ f, q.1.length ≤ 20
  sz : ∀ q ∈ f, Sz b q.2
  len : f.length ≤ 400
theorem FG.nm {b : Nat} {f : List Tm} (h : FG b f) : ∀ q ∈ f, ∀ p ∈ q.1, Nm p.1 := fun q hq p hp => ((h.form.mono q hq).nm p hp).1
theorem mkLst_10 (a b c d e f g h i j : D) : mkLst [a, b, c, d, e, f, g, h, i, j] = .ok (.lst [a, b, c, d, e, f, g, h, i, j]) := mkLst_ok (by simp)
structure FF (xs : List (List Nat)) (b n : Nat) (f : List Tm) : Prop where
  form : Form 100 f
  nin : ∀ q ∈ f, ∀ p ∈ q.1, p.1 ∈ xs
  few : ∀ q ∈ f, q.1.length ≤ 3
  sz : ∀ q ∈ f, Sz b q.2
  len : f.length ≤ n
theorem Form.up2 {a b : Int} {f : List Tm} (h : Form a f) (l : a ≤ b) : Form b f := ⟨fun q hq => ⟨fun p hp => ⟨((h.mono q hq).nm p hp).1, ((h.mono q hq).nm p hp).2.1, Int.le_trans ((h.mono q hq).nm p hp).2.2 l⟩, (h.mono q hq).up, (h.mono q hq).few⟩, h.nz, h.up⟩
theorem Ok.snoc {xs : List (List Nat)} {most : Int} {k b : Nat} {f : List Tm} (h : Ok xs most k b f) {m : Mn} {z : Int} (hm : Mono most m) (hn : ∀ p ∈ m, p.1 ∈ xs) (hk : m.length ≤ k) (hz : Sz b z) : Ok xs most k b (f ++ [(m, z)]) := by
  refine h.app ⟨fun q hq => ?_, fun q hq => ?_, fun q hq => ?_, fun q hq => ?_⟩ <;> (rw [List.mem_singleton.mp hq]; assumption)
theorem ok_nil (xs : List (List Nat)) (most : Int) (k b : Nat) : Ok xs most k b [] := ⟨fun q hq => absurd hq List.not_mem_nil, fun q hq => absurd hq List.not_mem_nil, fun q hq => absurd hq List.not_mem_nil, fun q hq => absurd hq List.not_mem_nil⟩
mutual
def Sn.slim : Sn → Bool
  | .both l => decide (l.length ≤ 100) && Sn.slims l
  | .either l => decide (l.length ≤ 100) && Sn.slims l
  | .neg s => s.slim
  | .some _ s => s.slim
  | .all _ s => s.slim
  | _ => true
def Sn.slims : List Sn → Bool
  | [] => true
  | s :: l => s.slim && Sn.slims l
end
mutual
def Sn.can : Sn → Prop
  | .yes => True
  | .no => True
  | .cmp _ f => cst f = false ∧ leanF f = f
  | .both l => foldS true l = .both l ∧ Sn.cans l
  | .either l => foldS false l = .either l ∧ Sn.cans l
  | .neg s => (s ≠ .yes ∧ s ≠ .no) ∧ s.can
  | .some _ s => (s ≠ .yes ∧ s ≠ .no) ∧ s.can
  | .all _ s => (s ≠ .yes ∧ s ≠ .no) ∧ s.can
def Sn.cans : List Sn → Prop
  | [] => True
  | s :: l => s.can ∧ Sn.cans l
end
structure PS (xs : List (List Nat)) (b n d m : Nat) (s : Sn) : Prop where
  ff : ∀ c ∈ s.cmps, FF xs b n c.2
  bnd : ∀ x ∈ s.bnd, x ∈ xs
  dep : s.depth ≤ d
  few : s.cmps.length ≤ m
  can : s.can
  slim : s.slim = true
theorem PS.nms {xs : List (List Nat)} (hx : ∀ x ∈ xs, Nm x) {b n d m : Nat} {s : Sn} (h : PS xs b n d m s) : NmS s :=
  ⟨fun c hc q hq p hp => hx _ ((h.ff c hc).nin q hq p hp), fun x hx' => hx x (h.bnd x hx')⟩
theorem PS.mono {xs : List (List Nat)} {b n d m d' m' : Nat} {s : Sn} (h : PS xs b n d m s) (hd : d ≤ d') (hm : m ≤ m') : PS xs b n d' m' s :=
  ⟨h.ff, h.bnd, Nat.le_trans h.dep hd, Nat.le_trans h.few hm, h.can, h.slim⟩
mutual
def Sn.bare : Sn → Bool
  | .both l => Sn.bares l
  | .either l => Sn.bares l
  | .neg _ => false
  | .some _ _ => false
  | .all _ _ => false
  | _ => true
def Sn.bares : List Sn → Bool
  | [] => true
  | s :: l => s.bare && Sn.bares l
end
abbrev U3 := Int × Int × Int
def stepU (x : N4) (R : Int) (t : U3) : U3 := (t.1 * x.1 + t.2.1 * x.2.1 * R, t.1 * x.2.1 + t.2.1 * x.1, t.2.2 * x.2.2.2)
def powU (x : N4) (R : Int) : Nat → U3 → U3
  | 0, t => t
  | k + 1, t => powU x R k (stepU x R t)
def prodU (pt : List Nat → N4) (R : Int) : Mn → U3 → U3
  | [], t => t
  | p :: m, t => prodU pt R m (powU (pt p.1) R p.2.toNat t)
def addU (t a : U3) : U3 := (t.1 * a.2.2 + a.1 * t.2.2, t.2.1 * a.2.2 + a.2.1 * t.2.2, t.2.2 * a.2.2)
def sumU (pt : List Nat → N4) (R : Int) : List Tm → U3 → U3
  | [], t => t
  | q :: f, t => sumU pt R f (addU t (prodU pt R q.1 (q.2, 0, 1)))
def SzU (n : Nat) (t : U3) : Prop := Sz n t.1 ∧ Sz n t.2.1 ∧ Sz n t.2.2
theorem SzU.mono {n m : Nat} {t : U3} (h : SzU n t) (l : n ≤ m) : SzU m t := ⟨h.1.mono l, h.2.1.mono l, h.2.2.mono l⟩
def SzX (x : N4) : Prop := Sz 31 x.1 ∧ Sz 31 x.2.1 ∧ Sz 31 x.2.2.2
theorem stepU_sz {n : Nat} {x : N4} {R : Int} (hx : SzX x) (hR : Sz 31 R) {t : U3} (h : SzU n t) : SzU (n + 64) (stepU x R t) :=
  ⟨((h.1.mul hx.1).mono (by omega : n + 31 ≤ n + 63)).add (((h.2.1.mul hx.2.1).mul hR).mono (by omega)), ((h.1.mul hx.2.1).mono (by omega : n + 31 ≤ n + 63)).add ((h.2.1.mul hx.1).mono (by omega)), (h.2.2.mul hx.2.2).mono (by omega)⟩
theorem powU_sz {x : N4} {R : Int} (hx : SzX x) (hR : Sz 31 R) : ∀ (k n : Nat) {t : U3}, SzU n t → SzU (n + 64 * k) (powU x R k t)
  | 0, n, t, h => h
  | k + 1, n, t, h => (powU_sz hx hR k (n + 64) (stepU_sz hx hR h)).mono (by omega)
structure FU (xs : List (List Nat)) (b : Nat) (q : Tm) : Prop where
  pr : ∀ p ∈ q.1, p.1 ∈ xs ∧ 0 ≤ p.2 ∧ p.2 ≤ 9
  few : q.1.length ≤ 3
  sz : Sz b q.2
theorem ps_bound {xs : List (List Nat)} (hx : ∀ x ∈ xs, Nm x) {b n d m : Nat} {s : Sn} (h : PS xs b n d m s) (hd : d ≤ 28) : NmS s ∧ s.depth ≤ 28 := ⟨h.nms hx, Nat.le_trans h.dep hd⟩
def GoodP (v : N4) : Prop := SzX v ∧ Sz 31 v.2.2.1
noncomputable def upU (R : Int) (t : U3) : Re := (t.1 : Re) + (t.2.1 : Re) * Re.root R
theorem step_up {R : Int} (h : 0 ≤ R) (x : N4) (t : U3) : upU R (stepU x R t) = upU R t * ((x.1 : Re) + (x.2.1 : Re) * Re.root R) := by
  have e := Re.root_sq h
  unfold upU stepU
  simp only [Re.cast_add, Re.cast_mul]
  rw [← e]
  grind
theorem pow_up {n : Nat} {R : Int} (h : 0 ≤ R) {x : N4} (px : PtX n R x) : ∀ (k : Nat) (t : U3) (Y : Re), upU R t = (t.2.2 : Re) * Y → 0 < t.2.2 → upU R (powU x R k t) = ((powU x R k t).2.2 : Re) * (Y * val x ^ k) ∧ 0 < (powU x R k t).2.2
  | 0, t, Y, e, p => ⟨by show upU R t = _; rw [Lean.Grind.Semiring.pow_zero, e]; show _ = (t.2.2 : Re) * _; grind, p⟩
  | k + 1, t, Y, e, p => by
    have s0 := px.good.s0
    have ev := px.val
    have ih := pow_up h px k (stepU x R t) (Y * val x) (by
      rw [step_up h, e, ← ev]
      show _ = ((t.2.2 * x.2.2.2 : Int) : Re) * _
      rw [Re.cast_mul]
      grind) (Int.mul_pos p s0)
    refine ⟨?_, ih.2⟩
    show upU R (powU x R k (stepU x R t)) = ((powU x R k (stepU x R t)).2.2 : Re) * _
    rw [ih.1, Lean.Grind.Semiring.pow_succ]
    grind
theorem prod_up {n : Nat} {R : Int} (h : 0 ≤ R) {pt : List Nat → N4} : ∀ (m : Mn) (t : U3) (Y : Re), (∀ p ∈ m, PtX n R (pt p.1)) → upU R t = (t.2.2 : Re) * Y → 0 < t.2.2 → upU R (prodU pt R m t) = ((prodU pt R m t).2.2 : Re) * (Y * wX (fun x => val (pt x)) m) ∧ 0 < (prodU pt R m t).2.2
  | [], t, Y, _, e, p => ⟨by show upU R t = (t.2.2 : Re) * (Y * 1); rw [e]; grind, p⟩
  | q :: m, t, Y, hm, e, p => by
    have h1 := pow_up h (hm q List.mem_cons_self) q.2.toNat t Y e p
    have h2 := prod_up h m (powU (pt q.1) R q.2.toNat t) _ (fun r hr => hm r (List.mem_cons_of_mem _ hr)) h1.1 h1.2
    refine ⟨?_, h2.2⟩
    show upU R (prodU pt R m (powU (pt q.1) R q.2.toNat t)) = ((prodU pt R m (powU (pt q.1) R q.2.toNat t)).2.2 : Re) * (Y * (val (pt q.1) ^ q.2.toNat * wX (fun x => val (pt x)) m))
    rw [h2.1]
    grind
theorem sum_up {n : Nat} {R : Int} (h : 0 ≤ R) {pt : List Nat → N4} : ∀ (f : List Tm) (t : U3) (Y : Re), (∀ q ∈ f, ∀ p ∈ q.1, PtX n R (pt p.1)) → upU R t = (t.2.2 : Re) * Y → 0 < t.2.2 → upU R (sumU pt R f t) = ((sumU pt R f t).2.2 : Re) * (Y + valX (fun x => val (pt x)) f) ∧ 0 < (sumU pt R f t).2.2
  | [], t, Y, _, e, p => ⟨by show upU R t = (t.2.2 : Re) * (Y + 0); rw [e]; grind, p⟩
  | q :: f, t, Y, hm, e, p => by
    have h1 := prod_up h q.1 (q.2, 0, 1) (q.2 : Re) (hm q List.mem_cons_self) (by
      show (q.2 : Re) + ((0 : Int) : Re) * Re.root R = ((1 : Int) : Re) * (q.2 : Re)
      rw [Re.cast_0, Re.cast_1]; grind) (by show (0 : Int) < 1; decide)
    generalize ha : prodU pt R q.1 (q.2, 0, 1) = a at h1
    have h2 := sum_up h f (addU t a) (Y + (q.2 : Re) * wX (fun x => val (pt x)) q.1) (fun r hr => hm r (List.mem_cons_of_mem _ hr)) (by
      have e1 := h1.1
      unfold upU at e e1 ⊢
      unfold addU
      simp only [Re.cast_add, Re.cast_mul]
      grind) (Int.mul_pos p h1.2)
    refine ⟨?_, by rw [show sumU pt R (q :: f) t = sumU pt R f (addU t a) by rw [← ha]; rfl]; exact h2.2⟩
    show upU R (sumU pt R f (addU t (prodU pt R q.1 (q.2, 0, 1)))) = ((sumU pt R f (addU t (prodU pt R q.1 (q.2, 0, 1)))).2.2 : Re) * (Y + ((q.2 : Re) * wX (fun x => val (pt x)) q.1 + valX (fun x => val (pt x)) f))
    rw [ha, h2.1]
    grind
def GR (rt : Int) (v : N4) : Prop := GoodP v ∧ 0 ≤ v.2.2.1 ∧ 0 < v.2.2.2 ∧ (v.2.1 = 0 ∨ v.2.2.1 = rt)
structure PtOk (rt : Int) (l : List (List Nat × N4)) : Prop where
  nd : (l.map (·.1)).Nodup
  len : l.length ≤ 10
  r0 : 0 ≤ rt
  rs : Sz 31 rt
  good : ∀ q ∈ l, GR rt q.2
def ptL (l : List (List Nat × N4)) (x : List Nat) : N4 := (fnd l x).getD (0, 0, 0, 1)
def mis (l : List (List Nat × N4)) (x : List Nat) : Bool := !(fnd l x).isSome
def ptd (l : List (List Nat × N4)) : D := .dic (l.map (encE encN encX))
theorem pt_there {rt : Int} {l : List (List Nat × N4)} (h : PtOk rt l) {x : List Nat} (hx : mis l x = false) : fnd l x = some (ptL l x) ∧ GR rt (ptL l x) ∧ x ∈ l.map (·.1) := by
  unfold mis at hx
  cases e : fnd l x with
  | none => rw [e] at hx; cases hx
  | some v =>
    have m := (fnd_mem h.nd).mp e
    unfold ptL
    rw [e]
    exact ⟨rfl, h.good _ m, List.mem_map.mpr ⟨_, m, rfl⟩⟩
theorem ptd_in (l : List (List Nat × N4)) (x : List Nat) : dNotIn (encN x) (ptd l) = .ok (.bl (mis l x)) := dNotIn_F encN_inj flat_N hs_N l x
theorem root_same {pt : List Nat → N4} {rt : Int} : ∀ {xs : List (List Nat)}, (∀ x ∈ xs, (pt x).2.1 = 0 ∨ (pt x).2.2.1 = rt) → ((∀ x ∈ xs, (pt x).2.1 = 0) ∧ rootIn pt xs = 0) ∨ rootIn pt xs = rt
  | [], _ => .inl ⟨fun x hx => (List.not_mem_nil hx).elim, rfl⟩
  | x :: xs, h => by
    by_cases c : (pt x).2.1 = 0
    · have e : rootIn pt (x :: xs) = rootIn pt xs := by rw [rootIn, if_neg (fun q => q c)]
      rw [e]
      rcases root_same (xs := xs) fun y hy => h y (List.mem_cons_of_mem _ hy) with ⟨h1, h2⟩ | h1
      · exact .inl ⟨fun y hy => (List.mem_cons.mp hy).elim (fun e => by rw [e]; exact c) (h1 y), h2⟩
      · exact .inr h1
    · refine .inr ?_
      rw [rootIn, if_pos c]
      exact (h x List.mem_cons_self).resolve_left c
theorem allP_len3 {f : List Tm} (h : ∀ q ∈ f, q.1.length ≤ 3) : (allP f).length ≤ 3 * f.length := by
  induction f with
  | nil => exact Nat.le_refl _
  | cons q f ih =>
    have := ih fun r hr => h r (List.mem_cons_of_mem _ hr)
    have := h q List.mem_cons_self
    unfold allP at *
    rw [List.flatMap_cons, List.length_append, List.length_cons]
    omega
theorem cDict_pt (l : List (List Nat × N4)) : cDict [ptd l] = .ok (ptd l) := by
  show chk _ _ = _
  exact chk_pos fun p hp => by
    obtain ⟨q, _, rfl⟩ := List.mem_map.mp hp
    rfl
theorem pow_walk16 {x : N4} {R : Int} (hx : SzX x) (hR : Sz 31 R) {x0 x1 x3 x6 x7 x11 x12 : Option D} : ∀ (l : List D) (n : Nat) (t : U3) (x17 : Option D), SzU n t → n + 64 * l.length ≤ 100000 →
    ∃ x17', forL (gN 15) b__law_value_v2_1 l [x0, x1, some (.int R), x3, x6, x7, some (.int t.1), some (.int t.2.1), some (.int t.2.2), x11, x12, some (.int x.1), some (.int x.2.1), some (.int x.2.2.1), some (.int x.2.2.2), x17]
      = .nx [x0, x1, some (.int R), x3, x6, x7, some (.int (powU x R l.length t).1), some (.int (powU x R l.length t).2.1), some (.int (powU x R l.length t).2.2), x11, x12, some (.int x.1), some (.int x.2.1), some (.int x.2.2.1), some (.int x.2.2.2), x17']
  | [], n, t, x17, _, _ => ⟨x17, rfl⟩
  | d :: l, n, t, x17, h, hl => by
    rw [List.length_cons] at hl
    obtain ⟨x17', e⟩ := pow_walk16 hx hR (x0 := x0) (x1 := x1) (x3 := x3) (x6 := x6) (x7 := x7) (x11 := x11) (x12 := x12) l (n + 64) (stepU x R t) (some d) (stepU_sz hx hR h) (by omega)
    refine ⟨x17', ?_⟩
    show _ = SO.nx [_, _, _, _, _, _, some (.int (powU x R l.length (stepU x R t)).1), some (.int (powU x R l.length (stepU x R t)).2.1), some (.int (powU x R l.length (stepU x R t)).2.2), _, _, _, _, _, _, _]
    rw [← e]
    refine forL_step ?_
    obtain ⟨a, b, c⟩ := t
    obtain ⟨p, q, r, s⟩ := x
    obtain ⟨h1, h2, h3⟩ := h
    obtain ⟨g1, g2, g3⟩ := hx
    simp only [] at h1 h2 h3 g1 g2 g3
    have c1 : CMulX a p := cmul_sz h1 g1 (by omega)
    have c2 : CMulX b q := cmul_sz h2 g2 (by omega)
    have c3 : CMulX (b * q) R := cmul_sz (h2.mul g2) hR (by omega)
    have c4 : CMulX a q := cmul_sz h1 g2 (by omega)
    have c5 : CMulX b p := cmul_sz h2 g1 (by omega)
    have c6 : CMulX c s := cmul_sz h3 g3 (by omega)
    clear e h1 h2 h3 g1 g2 g3 hl hR
    unfold b__law_value_v2_1 stepU
    walk_at "gos"
theorem prod_walk16 {xs : List (List Nat)} {P : D} {pt : List Nat → N4} {R : Int} (hP : ∀ x ∈ xs, dIx P (encN x) = .ok (encX (pt x))) (hx : ∀ x ∈ xs, SzX (pt x)) (hR : Sz 31 R) {x0 x3 x6 x7 : Option D} : ∀ (m : Mn) (n : Nat) (t : U3) (x11 x12 x13 x14 x15 x16 x17 : Option D), (∀ p ∈ m, p.1 ∈ xs ∧ 0 ≤ p.2 ∧ p.2 ≤ 9) → SzU n t → n + 576 * m.length ≤ 90000 →
    ∃ x11' x12' x13' x14' x15' x16' x17', forL (gT [gN 9, gN 10]) b__law_value_v2_2 (m.map encP) [x0, some P, some (.int R), x3, x6, x7, some (.int t.1), some (.int t.2.1), some (.int t.2.2), x11, x12, x13, x14, x15, x16, x17]
      = .nx [x0, some P, some (.int R), x3, x6, x7, some (.int (prodU pt R m t).1), some (.int (prodU pt R m t).2.1), some (.int (prodU pt R m t).2.2), x11', x12', x13', x14', x15', x16', x17'] ∧ SzU (n + 576 * m.length) (prodU pt R m t)
  | [], n, t, x11, x12, x13, x14, x15, x16, x17, _, h, _ => ⟨x11, x12, x13, x14, x15, x16, x17, rfl, h⟩
  | p :: m, n, t, x11, x12, x13, x14, x15, x16, x17, hm, h, hl => by
    rw [List.length_cons] at hl
    have hp := hm p List.mem_cons_self
    have h9 : p.2.toNat ≤ 9 := by omega
    have ex : dIx P (encN p.1) = .ok (.tup [.int (pt p.1).1, .int (pt p.1).2.1, .int (pt p.1).2.2.1, .int (pt p.1).2.2.2]) := hP p.1 hp.1
    obtain ⟨x17', e1⟩ := pow_walk16 (hx p.1 hp.1) hR (x0 := x0) (x1 := some P) (x3 := x3) (x6 := x6) (x7 := x7) (x11 := some (encN p.1)) (x12 := some (.int p.2)) ((List.range p.2.toNat).map fun (k : Nat) => D.int k) n t x17 h (by rw [List.length_map, List.length_range]; omega)
    have z1 := powU_sz (hx p.1 hp.1) hR p.2.toNat n h
    simp only [List.length_map, List.length_range] at e1
    obtain ⟨y11, y12, y13, y14, y15, y16, y17, e, z⟩ := prod_walk16 hP hx hR (x0 := x0) (x3 := x3) (x6 := x6) (x7 := x7) m (n + 576) (powU (pt p.1) R p.2.toNat t) (some (encN p.1)) (some (.int p.2)) (some (.int (pt p.1).1)) (some (.int (pt p.1).2.1)) (some (.int (pt p.1).2.2.1)) (some (.int (pt p.1).2.2.2)) x17' (fun q hq => hm q (List.mem_cons_of_mem _ hq)) (z1.mono (by omega)) (by omega)
    refine ⟨y11, y12, y13, y14, y15, y16, y17, ?_, z.mono (by rw [List.length_cons]; omega)⟩
    show _ = SO.nx [_, _, _, _, _, _, some (.int (prodU pt R m (powU (pt p.1) R p.2.toNat t)).1), some (.int (prodU pt R m (powU (pt p.1) R p.2.toNat t)).2.1), some (.int (prodU pt R m (powU (pt p.1) R p.2.toNat t)).2.2), _, _, _, _, _, _, _]
    rw [← e, List.map_cons]
    refine forL_step ?_
    have r1 : -(2 ^ 62) ≤ p.2 ∧ p.2 < 2 ^ 62 := by omega
    rw [show encP p = .tup [encN p.1, .int p.2] from rfl]
    clear e z z1 h hl hm hp hP hx hR h9
    generalize encN p.1 = N at *
    generalize pt p.1 = x at *
    generalize powU x R p.2.toNat t = T at *
    obtain ⟨a, b, c⟩ := t
    obtain ⟨a', b', c'⟩ := T
    simp only [] at e1 ⊢
    unfold b__law_value_v2_2
    walk_at "gos"
theorem sum_walk16 {xs : List (List Nat)} {P : D} {pt : List Nat → N4} {R : Int} (hP : ∀ x ∈ xs, dIx P (encN x) = .ok (encX (pt x))) (hx : ∀ x ∈ xs, SzX (pt x)) (hR : Sz 31 R) {x0 : Option D} {b : Nat} (hb : 1 ≤ b) (hb2 : b ≤ 50000) : ∀ (f : List Tm) (n : Nat) (t : U3) (x6 x7 x8 x9 x10 x11 x12 x13 x14 x15 x16 x17 : Option D), (∀ q ∈ f, FU xs b q) → SzU n t → n + f.length * (b + 1729) ≤ 1000000 →
    ∃ x6' x7' x8' x9' x10' x11' x12' x13' x14' x15' x16' x17', forL (gT [gN 4, gN 5]) b__law_value_v2_3 (f.map encQ) [x0, some P, some (.int R), some (.tup [.int t.1, .int t.2.1, .int t.2.2]), x6, x7, x8, x9, x10, x11, x12, x13, x14, x15, x16, x17]
      = .nx [x0, some P, some (.int R), some (.tup [.int (sumU pt R f t).1, .int (sumU pt R f t).2.1, .int (sumU pt R f t).2.2]), x6', x7', x8', x9', x10', x11', x12', x13', x14', x15', x16', x17'] ∧ SzU (n + f.length * (b + 1729)) (sumU pt R f t)
  | [], n, t, x6, x7, x8, x9, x10, x11, x12, x13, x14, x15, x16, x17, _, h, _ => ⟨x6, x7, x8, x9, x10, x11, x12, x13, x14, x15, x16, x17, rfl, h.mono (Nat.le_add_right _ _)⟩
  | q :: f, n, t, x6, x7, x8, x9, x10, x11, x12, x13, x14, x15, x16, x17, hf, h, hl => by
    rw [List.length_cons, Nat.add_mul, Nat.one_mul] at hl
    have hq := hf q List.mem_cons_self
    have h0 : SzU b (q.2, 0, 1) := ⟨hq.sz, sz_zero b, sz_one.mono hb⟩
    obtain ⟨y11, y12, y13, y14, y15, y16, y17, e1, z1⟩ := prod_walk16 hP hx hR (x0 := x0) (x3 := some (.tup [.int t.1, .int t.2.1, .int t.2.2])) (x6 := some (encM q.1)) (x7 := some (.int q.2)) q.1 b (q.2, 0, 1) x11 x12 x13 x14 x15 x16 x17 hq.pr h0 (by have := hq.few; omega)
    have z1 : SzU (b + 1728) (prodU pt R q.1 (q.2, 0, 1)) := z1.mono (by have := hq.few; omega)
    have z2 : SzU (n + (b + 1729)) (addU t (prodU pt R q.1 (q.2, 0, 1))) :=
      ⟨((h.1.mul z1.2.2).mono (by omega : n + (b + 1728) ≤ n + (b + 1728))).add ((z1.1.mul h.2.2).mono (by omega)), ((h.2.1.mul z1.2.2).mono (by omega : n + (b + 1728) ≤ n + (b + 1728))).add ((z1.2.1.mul h.2.2).mono (by omega)), (h.2.2.mul z1.2.2).mono (by omega)⟩
    generalize hT : prodU pt R q.1 (q.2, 0, 1) = T at *
    obtain ⟨u6, u7, u8, u9, u10, u11, u12, u13, u14, u15, u16, u17, e, z⟩ := sum_walk16 hP hx hR hb hb2 (x0 := x0) f (n + (b + 1729)) (addU t T) (some (encM q.1)) (some (.int q.2)) (some (.int T.1)) (some (.int T.2.1)) (some (.int T.2.2)) y11 y12 y13 y14 y15 y16 y17 (fun r hr => hf r (List.mem_cons_of_mem _ hr)) z2 (by omega)
    have es : sumU pt R (q :: f) t = sumU pt R f (addU t T) := by rw [← hT]; rfl
    rw [es]
    refine ⟨u6, u7, u8, u9, u10, u11, u12, u13, u14, u15, u16, u17, ?_, z.mono (by rw [List.length_cons, Nat.add_mul, Nat.one_mul]; omega)⟩
    rw [← e, List.map_cons]
    refine forL_step ?_
    have c1 : CMulX t.1 T.2.2 := cmul_sz h.1 z1.2.2 (by omega)
    have c2 : CMulX T.1 t.2.2 := cmul_sz z1.1 h.2.2 (by omega)
    have c3 : CMulX t.2.1 T.2.2 := cmul_sz h.2.1 z1.2.2 (by omega)
    have c4 : CMulX T.2.1 t.2.2 := cmul_sz z1.2.1 h.2.2 (by omega)
    have c5 : CMulX t.2.2 T.2.2 := cmul_sz h.2.2 z1.2.2 (by omega)
    rw [show encQ q = .tup [encM q.1, .int q.2] from rfl]
    have em : encM q.1 = .tup (q.1.map encP) := rfl
    rw [em] at e1 ⊢
    clear e z z1 z2 h hl hf hq hP hx hR h0 hT es em hb hb2
    generalize q.1.map encP = M at *
    obtain ⟨a, b', c⟩ := t
    obtain ⟨a', b'', c'⟩ := T
    simp only [addU] at e1 c1 c2 c3 c4 c5 ⊢
    have i0 : ∀ a b c : D, dIx (.tup [a, b, c]) (.int 0) = .ok a := fun _ _ _ => dIx_tup (k := 0) rfl
    have i1 : ∀ a b c : D, dIx (.tup [a, b, c]) (.int 1) = .ok b := fun _ _ _ => dIx_tup (k := 1) rfl
    have i2 : ∀ a b c : D, dIx (.tup [a, b, c]) (.int 2) = .ok c := fun _ _ _ => dIx_tup (k := 2) rfl
    unfold b__law_value_v2_3
    walk_at "gos"
structure F15 (xs : List (List Nat)) (f : List Tm) : Prop where
  form : Form 9 f
  nin : ∀ q ∈ f, ∀ p ∈ q.1, p.1 ∈ xs
  few : ∀ q ∈ f, q.1.length ≤ 3
  sz : ∀ q ∈ f, Sz 300 q.2
  len : f.length ≤ 15
theorem isX_r {rt : Int} {v : N4} (g : GR rt v) : PtX 31 rt v := ⟨⟨g.2.1, g.2.2.1, g.1.1.1, g.1.1.2.1, g.1.2, g.1.1.2.2⟩, g.2.2.2⟩
theorem value15_eq {P : D} {pt : List Nat → N4} {xs : List (List Nat)} {f : List Tm} {rt : Int} (h0 : 0 ≤ rt) (hr : Sz 31 rt) (ff : F15 xs f) (hP : ∀ x ∈ namesOf f, dIx P (encN x) = .ok (encX (pt x)) ∧ GR rt (pt x)) :
    m__law_value_v2 [.tup (f.map encQ), P, .int rt] = .ok (.int (Re.sgn (valX (fun x => val (pt x)) f))) := by
  obtain ⟨u6, u7, u8, u9, u10, u11, u12, u13, u14, u15, u16, u17, e, z⟩ := sum_walk16 (xs := namesOf f) (P := P) (pt := pt) (R := rt) (fun x hx => (hP x hx).1) (fun x hx => (hP x hx).2.1.1) hr (x0 := some (.tup (f.map encQ))) (b := 300) (by decide) (by decide) f 1 (0, 0, 1) none none none none none none none none none none none none
    (fun q hq => ⟨fun p hp => ⟨namesOf_mem.mpr ⟨q, hq, p, hp, rfl⟩, by have := ((ff.form.mono q hq).nm p hp).2; omega, ((ff.form.mono q hq).nm p hp).2.2⟩, ff.few q hq, ff.sz q hq⟩) ⟨sz_zero 1, sz_zero 1, sz_one⟩ (by have := ff.len; omega)
  have k := sum_up (n := 31) (R := rt) h0 (pt := pt) f (0, 0, 1) 0 (fun q hq p hp => isX_r (hP p.1 (namesOf_mem.mpr ⟨q, hq, p, hp, rfl⟩)).2) (by
    show ((0 : Int) : Re) + ((0 : Int) : Re) * Re.root rt = ((1 : Int) : Re) * 0
    rw [Re.cast_0]; grind) (by show (0 : Int) < 1; decide)
  have es := law_sign_eq (a := 1000000) (z.1.mono (by have := ff.len; omega)) (z.2.1.mono (by have := ff.len; omega)) (hr.mono (by decide)) (Nat.le_refl _)
  rw [← sign_law h0, Re.one_sgn h0] at es
  have sv : Re.sgn (((sumU pt rt f (0, 0, 1)).1 : Re) + ((sumU pt rt f (0, 0, 1)).2.1 : Re) * Re.root rt) = Re.sgn (valX (fun x => val (pt x)) f) := by
    show Re.sgn (upU rt (sumU pt rt f (0, 0, 1))) = _
    rw [k.1, Re.sgn_scale (Re.cast_pos' k.2)]
    congr 1
    grind
  rw [sv] at es
  have i0 : ∀ a b c : D, dIx (.tup [a, b, c]) (.int 0) = .ok a := fun _ _ _ => dIx_tup (k := 0) rfl
  have i1 : ∀ a b c : D, dIx (.tup [a, b, c]) (.int 1) = .ok b := fun _ _ _ => dIx_tup (k := 1) rfl
  have ls : (f.map encQ).length ≤ sizeLine := by rw [List.length_map]; have := ff.len; unfold sizeLine; omega
  clear k sv z hP ff
  generalize Re.sgn (valX (fun x => val (pt x)) f) = A at *
  generalize sumU pt rt f (0, 0, 1) = U at *
  generalize f.map encQ = F at *
  unfold m__law_value_v2 b__law_value_v2
  walk_at "gos"
theorem sign15_eq {P : D} {pt : List Nat → N4} {xs : List (List Nat)} {f : List Tm} {rt : Int} (h0 : 0 ≤ rt) (hr : Sz 31 rt) (ff : F15 xs f) (hP : ∀ x ∈ namesOf f, dIx P (encN x) = .ok (encX (pt x)) ∧ GR rt (pt x) ∧ dNotIn (encN x) P = .ok (.bl false)) :
    m_sign_at [.tup (f.map encQ), P] = .ok (.int (Re.sgn (valX (fun x => val (pt x)) f))) := by
  have sm : ∀ x ∈ namesOf f, (pt x).2.1 = 0 ∨ (pt x).2.2.1 = rt := fun x hx => (hP x hx).2.1.2.2.2
  have rr := root_same (pt := pt) (rt := rt) (xs := namesOf f) sm
  have st : (stL (allP f)).length ≤ 60 := by
    have := st_len (allP f) []
    have := allP_len3 ff.few
    have := ff.len
    unfold stL
    simp at *
    omega
  have key : (∀ x ∈ namesOf f, PtX 31 (rootIn pt (namesOf f)) (pt x)) ∧ 0 ≤ rootIn pt (namesOf f) ∧ Sz 31 (rootIn pt (namesOf f)) := by
    rcases rr with ⟨z, e⟩ | e
    · rw [e]
      exact ⟨fun x hx => ⟨(isX_r (hP x hx).2.1).good, .inl (z x hx)⟩, Int.le_refl _, sz_zero 31⟩
    · rw [e]
      exact ⟨fun x hx => isX_r (hP x hx).2.1, h0, hr⟩
  exact sign_at_eq (n := 31) (a := 300) (b := 3) (B := 846) (mo := 9) (pt := pt) (P := P) (by decide) (by decide) ff.form.mono ff.few (by have := ff.len; omega) (by have := ff.len; omega) ff.sz (by decide) (by decide)
    (fun x hx => ⟨key.1 x hx, (hP x hx).1, (hP x hx).2.2⟩) key.2.1 key.2.2 (by omega)
theorem same_ptT {rt : Int} {l : List (List Nat × N4)} (h : PtOk rt l) : dCmpC true (ptd l) (ptd l) = .ok (.bl true) := by
  show chk _ _ = _
  refine chk_pos ⟨rfl, fun p hp => ?_, fun p hp => ?_, fun p hp => ?_⟩
  · obtain ⟨q, _, rfl⟩ := List.mem_map.mp hp; rfl
  · obtain ⟨q, _, rfl⟩ := List.mem_map.mp hp; rfl
  · obtain ⟨q, hq, rfl⟩ := List.mem_map.mp hp
    refine ⟨?_, ?_⟩
    · show dicGet (l.map (encE encN encX)) (encN q.1) = some (encX q.2)
      rw [dicGet_F encN_inj, (fnd_mem h.nd).mpr hq]; rfl
    · obtain ⟨x, p, q, r, s⟩ := q
      rfl
theorem right15_eq {rt : Int} {l : List (List Nat × N4)} (h : PtOk rt l) {xs : List (List Nat)} (hm : ∀ x ∈ xs, mis l x = false) {f : List Tm} (ff : F15 xs f) : m__law_right_v3 [.tup (f.map encQ), ptd l, .int rt] = .ok (.bl true) := by
  have nm : ∀ x ∈ namesOf f, mis l x = false := fun x hx => by
    obtain ⟨q, hq, p, hp, rfl⟩ := namesOf_mem.mp hx
    exact hm _ (ff.nin q hq p hp)
  have k := fun x hx => pt_there h (nm x hx)
  have s := sign15_eq (P := ptd l) (pt := ptL l) h.r0 h.rs ff fun x hx => ⟨dIx_F encN_inj flat_N (k x hx).1, (k x hx).2.1, by rw [ptd_in, nm x hx]⟩
  have v := value15_eq (P := ptd l) (pt := ptL l) h.r0 h.rs ff fun x hx => ⟨dIx_F encN_inj flat_N (k x hx).1, (k x hx).2.1⟩
  have c := cDict_pt l
  have e := same_ptT h
  have i := is_sign_eq (Re.sgn (valX (fun x => val (ptL l x)) f)) (Re.sgn (valX (fun x => val (ptL l x)) f))
  rw [decide_eq_true rfl] at i
  clear k nm hm ff h
  generalize Re.sgn (valX (fun x => val (ptL l x)) f) = Z at *
  generalize ptd l = P at *
  generalize f.map encQ = F at *
  unfold m__law_right_v3 b__law_right_v3
  walk_at "gos"
abbrev eF (f : List Tm) : D := .tup (f.map encQ)
noncomputable def tmF (f g : List Tm) : List Tm := formOf (timesL f g)
noncomputable def plF (f g : List Tm) : List Tm := formOf (f ++ g)
noncomputable def scF (n : Int) (f : List Tm) : List Tm := formOf (f.map fun q => (q.1, n * q.2))
structure FQ (xs : List (List Nat)) (p : Int) (b n : Nat) (f : List Tm) : Prop where
  form : Form p f
  nin : ∀ q ∈ f, ∀ r ∈ q.1, r.1 ∈ xs
  sz : ∀ q ∈ f, Sz b q.2
  len : f.length ≤ n
theorem nd_len {α : Type} [DecidableEq α] : ∀ {l xs : List α}, l.Nodup → (∀ a ∈ l, a ∈ xs) → l.length ≤ xs.length
  | [], _, _, _ => Nat.zero_le _
  | a :: l, xs, nd, h => by
    rw [List.nodup_cons] at nd
    have ha := h a List.mem_cons_self
    have := nd_len (l := l) (xs := xs.erase a) nd.2 fun b hb => (List.mem_erase_of_ne (fun e : b = a => nd.1 (by rw [← e]; exact hb))).mpr (h b (List.mem_cons_of_mem _ hb))
    rw [List.length_erase_of_mem ha] at this
    have := List.length_pos_of_mem ha
    rw [List.length_cons]
    omega
theorem mono_nd {p : Int} {m : Mn} (h : Mono p m) : (m.map (·.1)).Nodup := by
  rw [List.nodup_iff_pairwise_ne, List.pairwise_map]
  refine List.Pairwise.imp (S := fun a b : Pr => a.1 ≠ b.1) (fun {a b} z e => ?_) h.up
  have z' : a.1 < b.1 := z
  rw [e] at z'
  exact List.lt_irrefl b.1 z'
theorem mono_few {p : Int} {xs : List (List Nat)} {m : Mn} (h : Mono p m) (hi : ∀ r ∈ m, r.1 ∈ xs) : m.length ≤ xs.length := by
  have := nd_len (mono_nd h) (xs := xs) fun a ha => by
    obtain ⟨r, hr, rfl⟩ := List.mem_map.mp ha
    exact hi r hr
  rwa [List.length_map] at this
theorem FQ.up {xs : List (List Nat)} {p p' : Int} {b b' n n' : Nat} {f : List Tm} (h : FQ xs p b n f) (hp : p ≤ p') (hb : b ≤ b') (hn : n ≤ n') : FQ xs p' b' n' f :=
  ⟨h.form.up2 hp, h.nin, fun q hq => (h.sz q hq).mono hb, Nat.le_trans h.len hn⟩
theorem FQ.few {xs : List (List Nat)} {p : Int} {b n : Nat} {f : List Tm} (h : FQ xs p b n f) : ∀ q ∈ f, q.1.length ≤ xs.length :=
  fun q hq => mono_few (h.form.mono q hq) (h.nin q hq)
theorem FQ.ok {xs : List (List Nat)} {p : Int} {b n : Nat} {f : List Tm} (h : FQ xs p b n f) : Ok xs p xs.length b f := ⟨h.form.mono, h.nin, h.few, h.sz⟩
theorem FQ.ff {xs : List (List Nat)} {p : Int} {b n : Nat} {f : List Tm} (hx : xs.length ≤ 3) (hp : p ≤ 100) (h : FQ xs p b n f) : FF xs b n f :=
  ⟨h.form.up2 hp, h.nin, fun q hq => Nat.le_trans (h.few q hq) hx, h.sz, h.len⟩
theorem fq_nil (xs : List (List Nat)) (p : Int) (b n : Nat) : FQ xs p b n [] :=
  ⟨⟨fun q hq => (List.not_mem_nil hq).elim, fun q hq => (List.not_mem_nil hq).elim, List.Pairwise.nil⟩, fun q hq => (List.not_mem_nil hq).elim, fun q hq => (List.not_mem_nil hq).elim, Nat.zero_le _⟩
theorem fq_of {xs : List (List Nat)} {p : Int} {k b j n : Nat} {ps : List Tm} (h : Ok xs p k b ps) (hj : ps.length < 2 ^ j) (hn : ps.length ≤ n) : FQ xs p (b + j) n (formOf ps) := by
  have o := h.form hj
  obtain ⟨f1, _, f3⟩ := form_is h.mono
  exact ⟨f1, o.nin, o.sz, Nat.le_trans f3 hn⟩
theorem FQ.tm {xs : List (List Nat)} {p : Int} {b b' n n' j : Nat} {f g : List Tm} (hx : xs.length ≤ 3) (hp : 0 ≤ p) (h : FQ xs p b n f) (i : FQ xs p b' n' g) (hj : n * n' < 2 ^ j) : FQ xs (p + p) (max b b' + max b b' + j) (n * n') (tmF f g) := by
  have o := Ok.times hp (by omega) ((h.up (Int.le_refl _) (Nat.le_max_left b b') (Nat.le_refl _)).ok) ((i.up (Int.le_refl _) (Nat.le_max_right b b') (Nat.le_refl _)).ok)
  have l : (timesL f g).length ≤ n * n' := by rw [len_times]; exact Nat.mul_le_mul h.len i.len
  exact fq_of o (by omega) l
theorem FQ.pl {xs : List (List Nat)} {p : Int} {b b' n n' j : Nat} {f g : List Tm} (h : FQ xs p b n f) (i : FQ xs p b' n' g) (hj : n + n' < 2 ^ j) : FQ xs p (max b b' + j) (n + n') (plF f g) := by
  have o := Ok.app ((h.up (Int.le_refl _) (Nat.le_max_left b b') (Nat.le_refl _)).ok) ((i.up (Int.le_refl _) (Nat.le_max_right b b') (Nat.le_refl _)).ok)
  have l : (f ++ g).length ≤ n + n' := by rw [List.length_append]; exact Nat.add_le_add h.len i.len
  exact fq_of o (by omega) l
theorem FQ.sc {xs : List (List Nat)} {p : Int} {b c n j : Nat} {z : Int} {f : List Tm} (h : FQ xs p b n f) (hz : Sz c z) (hj : n < 2 ^ j) : FQ xs p (c + b + j) n (scF z f) := by
  have o := h.ok.scale hz
  have l : (f.map fun q => (q.1, z * q.2)).length ≤ n := by rw [List.length_map]; exact h.len
  exact fq_of o (by omega) l
structure PZ (xs : List (List Nat)) (d : Nat) (s : Sn) : Prop where
  ps : PS xs 9000 400 d s.cmps.length s
  bare : s.bare = true
theorem PZ.mono {xs : List (List Nat)} {d d' : Nat} {s : Sn} (h : PZ xs d s) (l : d ≤ d') : PZ xs d' s := ⟨h.ps.mono l (Nat.le_refl _), h.bare⟩
theorem PZ.bd {xs : List (List Nat)} (hx : ∀ x ∈ xs, Nm x) {d : Nat} {s : Sn} (h : PZ xs d s) (hd : d ≤ 28) : NmS s ∧ s.depth ≤ 28 := ps_bound hx h.ps hd
noncomputable def wG (u v r : List Tm) : List Tm := plF (tmF u u) (scF (-1) (tmF (tmF v v) r))
structure Bor where
  top : List Tm
  sign : Int
  root : List Tm
  bottom : List Tm
inductive Pl where
  | far | border (b : Bor) | past (b : Bor)
noncomputable def sqB (p : Bor) : List Tm := if p.sign = 0 then tmF p.top p.top else plF (tmF p.top p.top) p.root
noncomputable def uB (p : Bor) (a b c : List Tm) : List Tm := plF (plF (tmF a (sqB p)) (tmF b (tmF p.bottom p.top))) (tmF c (tmF p.bottom p.bottom))
noncomputable def vB (p : Bor) (a b : List Tm) : List Tm := scF p.sign (plF (scF 2 (tmF a p.top)) (tmF b p.bottom))
structure BQ (xs : List (List Nat)) (nt nr ns : Nat) (p : Bor) : Prop where
  top : FQ xs 9 80 nt p.top
  root : FQ xs 18 200 nr p.root
  bottom : FQ xs 9 80 ns p.bottom
  sign : Sz 1 p.sign
theorem sum0 (m : Mn) : ∀ f : List Tm, sumOf (f.map fun q => (q.1, 0 * q.2)) m = 0
  | [] => rfl
  | r :: f => by
    have ih := sum0 m f
    simp only [List.map_cons, sumOf, Int.zero_mul] at ih ⊢
    split <;> simp [ih]
theorem scF_0 (f : List Tm) {p : Int} (h : ∀ q ∈ f, Mono p q.1) : scF 0 f = [] := by
  unfold scF
  obtain ⟨h1, h2, _⟩ := form_is (ps := f.map fun q => (q.1, 0 * q.2)) fun q hq => by obtain ⟨r, hr, rfl⟩ := List.mem_map.mp hq; exact h r hr
  cases e : formOf (f.map fun q => (q.1, 0 * q.2)) with
  | nil => rfl
  | cons q l =>
    exfalso
    have hq : q ∈ formOf (f.map fun q => (q.1, 0 * q.2)) := by rw [e]; exact List.mem_cons_self
    obtain ⟨nz, es⟩ := (h2 q).mp hq
    refine nz (es ▸ ?_)
    exact sum0 q.1 f
theorem sz_2 : Sz 2 2 := by unfold Sz; decide
theorem sz_m1 : Sz 1 (-1) := by unfold Sz; decide
def BL (p : Bor) (a b c : List Tm) (nt nr ns na nb nc : Nat) : Prop :=
  na * (nt * nt + nr) + nb * (ns * nt) + nc * (ns * ns) ≤ 100 ∧ na * nt + nb * ns ≤ 100 ∧
    (p.sign = 0 ∨ (((na * (nt * nt + nr) + nb * (ns * nt) + nc * (ns * ns)) * (na * (nt * nt + nr) + nb * (ns * nt) + nc * (ns * ns)) + (na * nt + nb * ns) * (na * nt + nb * ns) * nr ≤ 9000 ∧ (na * (nt * nt + nr) + nb * (ns * nt) + nc * (ns * ns)) * (na * nt + nb * ns) ≤ 9000) ∧ (wG (uB p a b c) (vB p a b) p.root).length ≤ 400 ∧ (tmF (uB p a b c) (vB p a b)).length ≤ 400))
def PL : Pl → List (List Nat) → List Tm → List Tm → List Tm → Nat → Nat → Nat → Prop
  | .far, _, _, _, _, na, nb, nc => na ≤ 12 ∧ nb ≤ 12 ∧ nc ≤ 12
  | .border p, xs, a, b, c, na, nb, nc => ∃ nt nr ns, BQ xs nt nr ns p ∧ (nt ≤ 12 ∧ nr ≤ 12 ∧ ns ≤ 12 ∧ na ≤ 12 ∧ nb ≤ 12 ∧ nc ≤ 12) ∧ BL p a b c nt nr ns na nb nc
  | .past p, xs, a, b, c, na, nb, nc => ∃ nt nr ns, BQ xs nt nr ns p ∧ (nt ≤ 12 ∧ nr ≤ 12 ∧ ns ≤ 12 ∧ na ≤ 12 ∧ nb ≤ 12 ∧ nc ≤ 12) ∧ BL p a b c nt nr ns na nb nc ∧ BL p [] (scF 2 a) b nt nr ns 0 na nb
theorem by_len (x : List Nat) (f : List Tm) : (byPow x f).length = (topOf x f + 1).toNat := by unfold byPow; rw [List.length_map, List.length_range]
structure IQ (xs : List (List Nat)) (x : List Nat) (na nb nc : Nat) (f : List Tm) : Prop where
  form : Form 9 f
  len : f.length ≤ 100
  a : FQ xs 9 70 na ((byPow x f).getD 2 [])
  b : FQ xs 9 70 nb ((byPow x f).getD 1 [])
  c : FQ xs 9 70 nc ((byPow x f).getD 0 [])
  flat : (byPow x f).length = 1 → FQ xs 9 70 100 f
theorem IQ.by {xs : List (List Nat)} {x : List Nat} (hx : Nm x) {na nb nc : Nat} {f : List Tm} (h : IQ xs x na nb nc f) : m_by_power [eF f, encN x] = .ok (.tup ((byPow x f).map eF)) :=
  by_power_eq hx (by decide) (by decide) h.form.mono (Nat.le_trans h.len (by decide))
def Fits (xs : List (List Nat)) (x : List Nat) (p : Pl) (f : List Tm) : Prop := ∃ na nb nc, IQ xs x na nb nc f ∧ (byPow x f).length ≤ 3 ∧ PL p xs ((byPow x f).getD 2 []) ((byPow x f).getD 1 []) ((byPow x f).getD 0 []) na nb nc
noncomputable def letsIn (x : List Nat) (f : List Tm) : Bool := decide ((byPow x f).length < 3) || (decide ((byPow x f).length = 3) && decide (namesOf ((byPow x f).getD 2 []) = []))
noncomputable def rootOf (c b a : List Tm) : List Tm := plF (tmF (scF (-1) b) (scF (-1) b)) (scF (-4) (tmF a c))
noncomputable def bordersG (x : List Nat) (f : List Tm) : List Bor := match byPow x f with
  | [c, b] => [⟨scF (-1) c, 0, [], b⟩]
  | [c, b, a] => [⟨scF (-1) b, 1, rootOf c b a, scF 2 a⟩, ⟨scF (-1) b, -1, rootOf c b a, scF 2 a⟩]
  | _ => []
theorem sz_0 : Sz 1 0 := by unfold Sz; decide
theorem sz_1 : Sz 1 1 := by unfold Sz; decide
instance decTm : DecidableEq Tm := instDecidableEqProd
instance decBT : DecidableEq (Bool × List Tm) := instDecidableEqProd
def clW (w : Wd) : Bool := decide (w = .most) || decide (w = .equal)
noncomputable def plW (c : Bool) (p : Bor) : Pl := if c = true then .border p else .past p
noncomputable def ptStep (x : List Nat) (st : List (Bool × List Tm) × List Pl) (c : Wd × List Tm) : List (Bool × List Tm) × List Pl :=
  if (clW c.1, c.2) ∈ st.1 then st else (st.1 ++ [(clW c.1, c.2)], st.2 ++ (bordersG x c.2).map (plW (clW c.1)))
noncomputable def ptsOf (x : List Nat) (cs : List (Wd × List Tm)) : List Pl := (cs.foldl (ptStep x) ([], [.far])).2
def Lets (xs : List (List Nat)) (x : List Nat) (f : List Tm) : Prop := ∃ na nb nc, IQ xs x na nb nc f ∧ (na ≤ 12 ∧ nb ≤ 12 ∧ nc ≤ 12)
theorem lets_le {x : List Nat} {f : List Tm} (h : letsIn x f = true) : (byPow x f).length ≤ 3 := by
  unfold letsIn at h
  simp only [Bool.or_eq_true, Bool.and_eq_true, decide_eq_true_eq] at h
  omega
def PG (xs : List (List Nat)) : Pl → Prop
  | .far => True
  | .border p => ∃ nt nr ns, BQ xs nt nr ns p ∧ nr ≤ 10 ∧ ns ≤ 10
  | .past p => ∃ nt nr ns, BQ xs nt nr ns p ∧ nr ≤ 10 ∧ ns ≤ 10
instance decMn : DecidableEq Mn := inferInstanceAs (DecidableEq (List (List Nat × Int)))
theorem part_above {x : List Nat} {f : List Tm} {k : Nat} (h : (byPow x f).length ≤ k) : partOf x f (k : Nat) = [] := by
  rw [by_len] at h
  unfold partOf
  rw [List.filter_eq_nil_iff.mpr]
  · rfl
  · intro q hq e
    have := pow_le_top x f 0 q hq
    have e' : powOf q.1 x = k := of_decide_eq_true e
    unfold topOf at h
    omega
theorem formOf_nil : formOf [] = [] := formOf_id (most := 0) (fq_nil [] 0 0 0).form
theorem by_get (x : List Nat) (f : List Tm) (k : Nat) : (byPow x f).getD k [] = formOf (partOf x f (k : Nat)) := by
  by_cases c : k < (byPow x f).length
  · have e : (byPow x f)[k]? = some (formOf (partOf x f (k : Nat))) := by
      rw [by_len] at c
      unfold byPow
      rw [List.getElem?_map, List.getElem?_range c]
      rfl
    rw [List.getD_eq_getElem?_getD, e]
    rfl
  · rw [part_above (by omega), List.getD_eq_getElem?_getD, List.getElem?_eq_none (by omega), formOf_nil]
    rfl
section
variable (X : List Nat → Re)
theorem valX_put (l : List Tm) (m : Mn) (z : Int) : valX X (put l m ((fnd l m).getD 0 + z)) = valX X l + (z : Re) * wX X m := by
  induction l with
  | nil =>
    show ((0 + z : Int) : Re) * wX X m + 0 = 0 + (z : Re) * wX X m
    rw [Int.zero_add]
    grind
  | cons q l ih =>
    simp only [put, fnd]
    by_cases c : q.1 = m
    · rw [if_pos c, if_pos c]
      show ((q.2 + z : Int) : Re) * wX X m + valX X l = (q.2 : Re) * wX X q.1 + valX X l + (z : Re) * wX X m
      rw [Re.cast_add, c]
      grind
    · rw [if_neg c, if_neg c]
      show (q.2 : Re) * wX X q.1 + valX X _ = (q.2 : Re) * wX X q.1 + valX X l + (z : Re) * wX X m
      rw [ih]
      grind
theorem valX_tot : ∀ (ps l : List Tm), valX X (tot l ps) = valX X l + valX X ps
  | [], l => by show valX X l = valX X l + 0; grind
  | q :: ps, l => by
    show valX X (tot (put l q.1 ((fnd l q.1).getD 0 + q.2)) ps) = valX X l + ((q.2 : Re) * wX X q.1 + valX X ps)
    rw [valX_tot ps, valX_put]
    grind
theorem valX_perm {l m : List Tm} (h : l.Perm m) : valX X l = valX X m := by
  induction h with
  | nil => rfl
  | cons x _ ih => show _ + valX X _ = _ + valX X _; rw [ih]
  | swap x y l =>
    show (y.2 : Re) * wX X y.1 + ((x.2 : Re) * wX X x.1 + valX X l) = (x.2 : Re) * wX X x.1 + ((y.2 : Re) * wX X y.1 + valX X l)
    grind
  | trans _ _ a b => rw [a, b]
theorem valX_form (ps : List Tm) : valX X (formOf ps) = valX X ps := by
  unfold formOf
  rw [valX_nz, valX_perm X (List.mergeSort_perm _ _), valX_tot]
  show 0 + valX X ps = valX X ps
  grind
theorem Form.nn {p : Int} {f : List Tm} (h : Form p f) : ∀ q ∈ f, ∀ r ∈ q.1, 0 ≤ r.2 := fun q hq r hr => by have := ((h.mono q hq).nm r hr).2.1; omega
theorem wX_rest {p : Int} {m : Mn} (h : Mono p m) (x : List Nat) : wX X m = X x ^ (powOf m x).toNat * wX X (restOf m x) := by
  have nd := mono_nd h
  clear h
  induction m with
  | nil =>
    show (1 : Re) = X x ^ (0 : Int).toNat * 1
    rw [show (0 : Int).toNat = 0 from rfl, Lean.Grind.Semiring.pow_zero]
    grind
  | cons q m ih =>
    rw [List.map_cons, List.nodup_cons] at nd
    by_cases c : q.1 = x
    · have e1 : powOf (q :: m) x = q.2 := by unfold powOf; simp [fnd, c]
      have e2 : restOf (q :: m) x = m := by
        unfold restOf
        rw [List.filter_cons_of_neg (by simp [c])]
        refine List.filter_eq_self.mpr fun r hr => ?_
        have : r.1 ≠ x := fun e => nd.1 (by rw [c, ← e]; exact List.mem_map.mpr ⟨r, hr, rfl⟩)
        simp [this]
      rw [e1, e2]
      show X q.1 ^ q.2.toNat * wX X m = _
      rw [c]
    · have e1 : powOf (q :: m) x = powOf m x := by unfold powOf; simp [fnd, c]
      have e2 : restOf (q :: m) x = q :: restOf m x := by
        unfold restOf
        rw [List.filter_cons_of_pos (by simp [c])]
      rw [e1, e2]
      show X q.1 ^ q.2.toNat * wX X m = X x ^ (powOf m x).toNat * (X q.1 ^ q.2.toNat * wX X (restOf m x))
      rw [ih nd.2]
      grind
theorem part_one (x : List Nat) (q : Tm) (f : List Tm) (k : Int) : valX X (partOf x (q :: f) k) = (if powOf q.1 x = k then (q.2 : Re) * wX X (restOf q.1 x) else 0) + valX X (partOf x f k) := by
  unfold partOf
  by_cases c : powOf q.1 x = k
  · rw [List.filter_cons_of_pos (by simp [c]), if_pos c]
    rfl
  · rw [List.filter_cons_of_neg (by simp [c]), if_neg c]
    grind
theorem parts_val {p : Int} {x : List Nat} : ∀ {f : List Tm}, (∀ q ∈ f, Mono p q.1) → (∀ q ∈ f, powOf q.1 x ≤ 2) → valX X f = valX X (partOf x f 0) + X x * valX X (partOf x f 1) + X x * X x * valX X (partOf x f 2)
  | [], _, _ => by show (0 : Re) = 0 + X x * 0 + X x * X x * 0; grind
  | q :: f, h, l => by
    have ih := parts_val (f := f) (fun r hr => h r (List.mem_cons_of_mem _ hr)) fun r hr => l r (List.mem_cons_of_mem _ hr)
    have nn := powOf_nn (fun r hr => by have := ((h q List.mem_cons_self).nm r hr).2.1; omega) x (m := q.1)
    have l2 := l q List.mem_cons_self
    show (q.2 : Re) * wX X q.1 + valX X f = _
    rw [part_one, part_one, part_one, wX_rest X (h q List.mem_cons_self) x, ih]
    have h1 : X x ^ (1 : Nat) = X x := by rw [Lean.Grind.Semiring.pow_succ, Lean.Grind.Semiring.pow_zero]; grind
    have h2 : X x ^ (2 : Nat) = X x * X x := by rw [Lean.Grind.Semiring.pow_succ, h1]
    have h0 : X x ^ (0 : Nat) = 1 := Lean.Grind.Semiring.pow_zero _
    have c : powOf q.1 x = 0 ∨ powOf q.1 x = 1 ∨ powOf q.1 x = 2 := by omega
    rcases c with c | c | c <;> rw [c]
    · rw [show (0 : Int).toNat = 0 from rfl, h0, if_pos rfl, if_neg (by decide), if_neg (by decide)]
      grind
    · rw [show (1 : Int).toNat = 1 from rfl, h1, if_pos rfl, if_neg (by decide), if_neg (by decide)]
      grind
    · rw [show (2 : Int).toNat = 2 from rfl, h2, if_pos rfl, if_neg (by decide), if_neg (by decide)]
      grind
theorem by_val {p : Int} {x : List Nat} {f : List Tm} (h : Form p f) (l : (byPow x f).length ≤ 3) : valX X f = valX X ((byPow x f).getD 0 []) + X x * valX X ((byPow x f).getD 1 []) + X x * X x * valX X ((byPow x f).getD 2 []) := by
  rw [by_get, by_get, by_get, valX_form, valX_form, valX_form]
  refine parts_val X h.mono fun q hq => ?_
  have := pow_le_top x f 0 q hq
  rw [by_len] at l
  unfold topOf at l
  omega
end
noncomputable def sgX (X : List Nat → Re) (f : List Tm) : Int := Re.sgn (valX X f)
theorem Form.pl {p : Int} {f g : List Tm} (h : Form p f) (i : Form p g) : Form p (plF f g) := (form_is fun q hq => (List.mem_append.mp hq).elim (h.mono q) (i.mono q)).1
theorem Form.sc {p : Int} {f : List Tm} (z : Int) (h : Form p f) : Form p (scF z f) := (form_is fun q hq => by obtain ⟨r, hr, rfl⟩ := List.mem_map.mp hq; exact h.mono r hr).1
namespace RR
end RR
namespace Re
end Re
def ev (a b c ξ : Re) : Re := a * ξ * ξ + b * ξ + c
noncomputable def XU (X : List Nat → Re) (x : List Nat) (ξ : Re) : List Nat → Re := fun y => if y = x then ξ else X y
theorem wX_congr {X Y : List Nat → Re} : ∀ {m : Mn}, (∀ r ∈ m, X r.1 = Y r.1) → wX X m = wX Y m
  | [], _ => rfl
  | r :: m, h => by
    show X r.1 ^ r.2.toNat * wX X m = Y r.1 ^ r.2.toNat * wX Y m
    rw [h r List.mem_cons_self, wX_congr fun q hq => h q (List.mem_cons_of_mem _ hq)]
theorem valX_congr {X Y : List Nat → Re} : ∀ {f : List Tm}, (∀ q ∈ f, ∀ r ∈ q.1, X r.1 = Y r.1) → valX X f = valX Y f
  | [], _ => rfl
  | q :: f, h => by
    show (q.2 : Re) * wX X q.1 + valX X f = (q.2 : Re) * wX Y q.1 + valX Y f
    rw [wX_congr (h q List.mem_cons_self), valX_congr fun r hr => h r (List.mem_cons_of_mem _ hr)]
theorem valX_same {X : List Nat → Re} {ys : List (List Nat)} {x : List Nat} {ξ : Re} (nx : x ∉ ys) {p : Int} {b n : Nat} {f : List Tm} (h : FQ ys p b n f) : valX (XU X x ξ) f = valX X f :=
  valX_congr fun q hq r hr => by
    unfold XU
    rw [if_neg]
    intro e
    exact nx (e ▸ h.nin q hq r hr)
noncomputable def cA (X : List Nat → Re) (x : List Nat) (f : List Tm) : Re := valX X ((byPow x f).getD 2 [])
noncomputable def cB (X : List Nat → Re) (x : List Nat) (f : List Tm) : Re := valX X ((byPow x f).getD 1 [])
noncomputable def cC (X : List Nat → Re) (x : List Nat) (f : List Tm) : Re := valX X ((byPow x f).getD 0 [])
noncomputable def evF (X : List Nat → Re) (x : List Nat) (f : List Tm) (ξ : Re) : Re := ev (cA X x f) (cB X x f) (cC X x f) ξ
theorem val_at {X : List Nat → Re} {ys : List (List Nat)} {x : List Nat} (nx : x ∉ ys) {na nb nc : Nat} {f : List Tm} (h : IQ ys x na nb nc f) (l : (byPow x f).length ≤ 3) (ξ : Re) : valX (XU X x ξ) f = evF X x f ξ := by
  have e := by_val (XU X x ξ) h.form (x := x) l
  rw [valX_same nx h.a, valX_same nx h.b, valX_same nx h.c, show XU X x ξ x = ξ from if_pos rfl] at e
  rw [e]
  unfold evF ev cA cB cC
  grind
theorem sgX_at {X : List Nat → Re} {ys : List (List Nat)} {x : List Nat} (nx : x ∉ ys) {na nb nc : Nat} {f : List Tm} (h : IQ ys x na nb nc f) (l : (byPow x f).length ≤ 3) (ξ : Re) : sgX (XU X x ξ) f = Re.sgn (evF X x f ξ) := by
  unfold sgX
  rw [val_at nx h l ξ]
structure VsOk (ys : List (List Nat)) (x : List Nat) (s : Sn) : Prop where
  nx : x ∉ ys
  nm : ∀ y ∈ ys, Nm y
  few : ys.length ≤ 3
  bare : s.bare = true
  lets : ∀ c ∈ s.cmps, Lets ys x c.2
  li : ∀ c ∈ s.cmps, letsIn x c.2 = true
  pg : ∀ p ∈ ptsOf x s.cmps, PG ys p ∧ ∀ c ∈ s.cmps, Fits ys x p c.2
theorem VsOk.at {ys : List (List Nat)} {x : List Nat} {s : Sn} (h : VsOk ys x s) (X : List Nat → Re) {c : Wd × List Tm} (hc : c ∈ s.cmps) (ξ : Re) : sgX (XU X x ξ) c.2 = Re.sgn (evF X x c.2 ξ) := by
  obtain ⟨na, nb, nc, iq, _⟩ := h.lets c hc
  exact sgX_at h.nx iq (lets_le (h.li c hc)) ξ
theorem mono_ext {p q : Int} {a b : Mn} (ha : Mono p a) (hb : Mono q b) (h : ∀ n, powOf a n = powOf b n) : a = b := by
  have one : ∀ {p q : Int} {a b : Mn}, Mono p a → Mono q b → (∀ n, powOf a n = powOf b n) → ∀ r ∈ a, r ∈ b := fun {p q a b} ha hb h r hr => by
    have e1 : fnd a r.1 = some r.2 := (fnd_mem (mono_nd ha)).mpr hr
    have e2 : powOf a r.1 = r.2 := by unfold powOf; rw [e1]; rfl
    have e3 := h r.1
    rw [e2] at e3
    have r1 := (ha.nm r hr).2.1
    cases e4 : fnd b r.1 with
    | none =>
      unfold powOf at e3
      rw [e4] at e3
      simp at e3
      omega
    | some k =>
      unfold powOf at e3
      rw [e4] at e3
      have : r.2 = k := e3
      have m := (fnd_mem (mono_nd hb)).mp e4
      rw [← this] at m
      exact m
  exact eq_of_up (R := fun p q : Pr => p.1 < q.1) prU_as ha.up hb.up fun r => ⟨one ha hb h r, one hb ha (fun n => (h n).symm) r⟩
theorem nodup_map {α β : Type} {g : α → β} : ∀ {l : List α}, (∀ a ∈ l, ∀ b ∈ l, g a = g b → a = b) → l.Nodup → (l.map g).Nodup
  | [], _, _ => List.nodup_nil
  | a :: l, h, nd => by
    rw [List.nodup_cons] at nd
    rw [List.map_cons, List.nodup_cons]
    refine ⟨fun m => ?_, nodup_map (fun b hb c hc => h b (List.mem_cons_of_mem _ hb) c (List.mem_cons_of_mem _ hc)) nd.2⟩
    obtain ⟨b, hb, e⟩ := List.mem_map.mp m
    exact nd.1 (h a List.mem_cons_self b (List.mem_cons_of_mem _ hb) e.symm ▸ hb)
theorem sum_const {α : Type} (c : Nat) : ∀ l : List α, (l.map fun _ => c).sum = l.length * c
  | [] => by simp
  | a :: l => by rw [List.map_cons, List.sum_cons, sum_const c l, List.length_cons, Nat.succ_mul]; omega
theorem deg_len {y z : List Nat} {P : Nat} {f : List Tm} (h : Form (P : Int) f) (hi : ∀ q ∈ f, ∀ r ∈ q.1, r.1 ∈ [y, z]) : f.length ≤ (P + 1) * (P + 1) := by
  have pb : ∀ q ∈ f, ∀ n, 0 ≤ powOf q.1 n ∧ powOf q.1 n ≤ P := fun q hq n =>
    ⟨powOf_nn (fun r hr => by have := ((h.mono q hq).nm r hr).2.1; omega) n, powOf_le (by omega) (fun r hr => ((h.mono q hq).nm r hr).2.2) n⟩
  have out : ∀ q ∈ f, ∀ n, n ≠ y → n ≠ z → powOf q.1 n = 0 := fun q hq n h1 h2 => by
    unfold powOf
    rw [fnd_none.mpr]
    · rfl
    · intro m
      obtain ⟨r, hr, e⟩ := List.mem_map.mp m
      have := hi q hq r hr
      simp only [List.mem_cons, List.not_mem_nil, or_false] at this
      rcases this with k | k
      · exact h1 (by rw [← e]; exact k)
      · exact h2 (by rw [← e]; exact k)
  have nd : (f.map fun q => ((powOf q.1 y).toNat, (powOf q.1 z).toNat)).Nodup := by
    have nf : (f.map (·.1)).Nodup := h.nodup
    rw [show (f.map fun q => ((powOf q.1 y).toNat, (powOf q.1 z).toNat)) = (f.map (·.1)).map fun m => ((powOf m y).toNat, (powOf m z).toNat) by rw [List.map_map]; rfl]
    refine nodup_map (fun a ha b hb e => ?_) nf
    obtain ⟨qa, ja, rfl⟩ := List.mem_map.mp ha
    obtain ⟨qb, jb, rfl⟩ := List.mem_map.mp hb
    replace ha := ja
    replace hb := jb
    refine mono_ext (h.mono qa ha) (h.mono qb hb) fun n => ?_
    have e1 := congrArg Prod.fst e
    have e2 := congrArg Prod.snd e
    simp only at e1 e2
    have a1 := pb qa ha y
    have a2 := pb qb hb y
    have a3 := pb qa ha z
    have a4 := pb qb hb z
    by_cases c1 : n = y
    · rw [c1]; omega
    · by_cases c2 : n = z
      · rw [c2]; omega
      · rw [out qa ha n c1 c2, out qb hb n c1 c2]
  have := nd_len nd (xs := (List.range (P + 1)).flatMap fun i => (List.range (P + 1)).map fun j => (i, j)) fun a ha => by
    obtain ⟨q, hq, rfl⟩ := List.mem_map.mp ha
    have a1 := pb q hq y
    have a3 := pb q hq z
    exact List.mem_flatMap.mpr ⟨_, List.mem_range.mpr (by omega), List.mem_map.mpr ⟨_, List.mem_range.mpr (by omega), rfl⟩⟩
  rw [List.length_map] at this
  refine Nat.le_trans this (Nat.le_of_eq ?_)
  rw [List.length_flatMap]
  simp only [List.length_map, List.length_range]
  rw [sum_const, List.length_range]
theorem FQ.tmA {xs : List (List Nat)} {p p' : Int} {b b' n n' j : Nat} {f g : List Tm} (hx : xs.length ≤ 3) (hp : 0 ≤ p) (hp' : 0 ≤ p') (h : FQ xs p b n f) (i : FQ xs p' b' n' g) (hj : n * n' < 2 ^ j) : FQ xs (p + p') (b + b' + j) (n * n') (tmF f g) := by
  have mem : ∀ q ∈ timesL f g, ∃ r ∈ f, ∃ t ∈ g, q = (mulM r.1 t.1, r.2 * t.2) := fun q hq => by
    unfold timesL at hq
    obtain ⟨r, hr, hq⟩ := List.mem_flatMap.mp hq
    obtain ⟨t, ht, rfl⟩ := List.mem_map.mp hq
    exact ⟨r, hr, t, ht, rfl⟩
  have mm : ∀ r ∈ f, ∀ t ∈ g, Mono (p + p') (mulM r.1 t.1) ∧ ∀ q ∈ mulM r.1 t.1, q.1 ∈ xs := fun r hr t ht => by
    obtain ⟨m1, m2⟩ := mono_mul (h.form.mono r hr) (i.form.mono t ht) hp hp' (by have := h.few r hr; have := i.few t ht; omega)
    refine ⟨m1, fun q hq => ?_⟩
    rcases m2 q hq with k | k
    · obtain ⟨s, hs, e⟩ := List.mem_map.mp k
      rw [← e]; exact h.nin r hr s hs
    · obtain ⟨s, hs, e⟩ := List.mem_map.mp k
      rw [← e]; exact i.nin t ht s hs
  have ok : Ok xs (p + p') 3 (b + b') (timesL f g) := by
    refine ⟨fun q hq => ?_, fun q hq => ?_, fun q hq => ?_, fun q hq => ?_⟩ <;> obtain ⟨r, hr, t, ht, rfl⟩ := mem q hq
    · exact (mm r hr t ht).1
    · exact (mm r hr t ht).2
    · exact Nat.le_trans (mono_few (mm r hr t ht).1 (mm r hr t ht).2) hx
    · exact (h.sz r hr).mul (i.sz t ht)
  have l : (timesL f g).length ≤ n * n' := by rw [len_times]; exact Nat.mul_le_mul h.len i.len
  exact fq_of ok (by omega) l
def AC (P : List Tm → Prop) (s : Sn) : Prop := ∀ c ∈ s.cmps, P c.2
def BorOk (P : List Tm → Prop) (p : Bor) (a b c : List Tm) : Prop := P (uB p a b c) ∧ (vB p a b = [] ∨ (P (vB p a b) ∧ P (wG (uB p a b c) (vB p a b) p.root) ∧ P (scF (-1) (wG (uB p a b c) (vB p a b) p.root)) ∧ P (tmF (uB p a b c) (vB p a b))))
def PlOk (P : List Tm → Prop) : Pl → List Tm → List Tm → List Tm → Prop
  | .far, a, b, c => P a ∧ P (scF (-1) b) ∧ P c
  | .border p, a, b, c => BorOk P p a b c
  | .past p, a, b, c => BorOk P p a b c ∧ BorOk P p [] (scF 2 a) b ∧ P a
def FpOk' (P : List Tm → Prop) (x : List Nat) (p : Pl) (f : List Tm) : Prop := PlOk P p ((byPow x f).getD 2 []) ((byPow x f).getD 1 []) ((byPow x f).getD 0 []) ∧ ((byPow x f).length = 1 → P f)
def Tn (ys : List (List Nat)) (f : List Tm) : Prop := FQ ys 9 500 100 f
structure K64 (ys : List (List Nat)) (x : List Nat) (f : List Tm) : Prop where
  form : Form 9 f
  len : f.length ≤ 10
  a : FQ ys 0 45 1 ((byPow x f).getD 2 [])
  b : FQ ys 2 45 2 ((byPow x f).getD 1 [])
  c : FQ ys 3 45 2 ((byPow x f).getD 0 [])
  flat : (byPow x f).length = 1 → FQ ys 9 45 10 f
theorem K64.iq {ys : List (List Nat)} {x : List Nat} {f : List Tm} (h : K64 ys x f) : IQ ys x 1 2 2 f :=
  ⟨h.form, by have := h.len; omega, h.a.up (by decide) (by decide) (Nat.le_refl _), h.b.up (by decide) (by decide) (Nat.le_refl _), h.c.up (by decide) (by decide) (Nat.le_refl _), fun e => (h.flat e).up (Int.le_refl _) (by decide) (by decide)⟩
def BorX (ys : List (List Nat)) (p : Bor) : Prop :=
  (p.sign = 0 ∧ FQ ys 3 50 2 p.top ∧ p.root = [] ∧ FQ ys 2 50 2 p.bottom) ∨ ((p.sign = 1 ∨ p.sign = -1) ∧ FQ ys 2 50 2 p.top ∧ FQ ys 4 120 6 p.root ∧ FQ ys 0 50 1 p.bottom)
theorem BorX.sz {ys : List (List Nat)} {p : Bor} (h : BorX ys p) : Sz 1 p.sign := by
  rcases h with ⟨s, _⟩ | ⟨s | s, _⟩ <;> rw [s]
  · exact sz_0
  · exact sz_1
  · exact sz_m1
theorem BorX.bq {ys : List (List Nat)} {p : Bor} (h : BorX ys p) : BQ ys 2 6 2 p := by
  have hs := h.sz
  rcases h with ⟨s, t, r, b⟩ | ⟨s, t, r, b⟩
  · exact ⟨t.up (by decide) (by decide) (Nat.le_refl _), by rw [r]; exact fq_nil _ _ _ _, b.up (by decide) (by decide) (Nat.le_refl _), hs⟩
  · exact ⟨t.up (by decide) (by decide) (Nat.le_refl _), r.up (by decide) (by decide) (Nat.le_refl _), b.up (by decide) (by decide) (by decide), hs⟩
theorem quad_uv {y z : List Nat} {ys : List (List Nat)} (hy : ∀ w ∈ ys, w ∈ [y, z]) (h3 : ys.length ≤ 3) {p : Bor} (hs : Sz 1 p.sign) (t : FQ ys 2 50 2 p.top) (r : FQ ys 4 120 6 p.root) (b' : FQ ys 0 50 1 p.bottom) {a b c : List Tm} (ha : FQ ys 0 50 1 a) (hb : FQ ys 2 50 2 b) (hc : FQ ys 3 50 2 c) :
    FQ ys 9 500 100 (uB p a b c) ∧ FQ ys 9 500 100 (vB p a b) ∧ FQ ys 9 500 100 (wG (uB p a b c) (vB p a b) p.root) ∧ FQ ys 9 500 100 (scF (-1) (wG (uB p a b c) (vB p a b) p.root)) ∧ FQ ys 9 500 100 (tmF (uB p a b c) (vB p a b)) := by
  have tt := (FQ.tmA (j := 3) h3 (by decide) (by decide) t t (by decide)).up (show (2 : Int) + 2 ≤ 4 by decide) (show _ ≤ 120 by decide) (show _ ≤ 4 by decide)
  have sq : FQ ys 4 124 10 (sqB p) := by
    unfold sqB
    split
    · exact tt.up (Int.le_refl _) (by decide) (by decide)
    · exact FQ.pl (j := 4) tt r (by decide)
  have asq := (FQ.tmA (j := 4) h3 (by decide) (by decide) ha sq (by decide)).up (show (0 : Int) + 4 ≤ 4 by decide) (show _ ≤ 178 by decide) (show _ ≤ 10 by decide)
  have st := (FQ.tmA (j := 2) h3 (by decide) (by decide) b' t (by decide)).up (show (0 : Int) + 2 ≤ 2 by decide) (show _ ≤ 102 by decide) (show _ ≤ 2 by decide)
  have bst := (FQ.tmA (j := 3) h3 (by decide) (by decide) hb st (by decide)).up (show (2 : Int) + 2 ≤ 4 by decide) (show _ ≤ 178 by decide) (show _ ≤ 4 by decide)
  have ss := (FQ.tmA (j := 1) h3 (by decide) (by decide) b' b' (by decide)).up (show (0 : Int) + 0 ≤ 0 by decide) (show _ ≤ 102 by decide) (show _ ≤ 1 by decide)
  have css := (FQ.tmA (j := 2) h3 (by decide) (by decide) hc ss (by decide)).up (show (3 : Int) + 0 ≤ 4 by decide) (show _ ≤ 182 by decide) (show _ ≤ 2 by decide)
  have u : FQ ys 4 187 16 (uB p a b c) := (FQ.pl (j := 5) ((FQ.pl (j := 4) asq bst (by decide)).up (Int.le_refl _) (show _ ≤ 182 by decide) (show _ ≤ 14 by decide)) css (by decide)).up (Int.le_refl _) (by decide) (by decide)
  have at' := (FQ.tmA (j := 2) h3 (by decide) (by decide) ha t (by decide)).up (show (0 : Int) + 2 ≤ 2 by decide) (show _ ≤ 102 by decide) (show _ ≤ 2 by decide)
  have bs := (FQ.tmA (j := 2) h3 (by decide) (by decide) hb b' (by decide)).up (show (2 : Int) + 0 ≤ 2 by decide) (show _ ≤ 106 by decide) (show _ ≤ 2 by decide)
  have v : FQ ys 2 113 4 (vB p a b) := (FQ.sc (j := 3) ((FQ.pl (j := 3) ((FQ.sc (j := 2) at' sz_2 (by decide)).up (Int.le_refl _) (show _ ≤ 106 by decide) (Nat.le_refl _)) bs (by decide)).up (Int.le_refl _) (show _ ≤ 109 by decide) (show _ ≤ 4 by decide)) hs (by decide)).up (Int.le_refl _) (by decide) (Nat.le_refl _)
  have uu := (FQ.tmA (j := 9) h3 (by decide) (by decide) u u (by decide)).up (show (4 : Int) + 4 ≤ 8 by decide) (show _ ≤ 400 by decide) (show _ ≤ 256 by decide)
  have vv := (FQ.tmA (j := 5) h3 (by decide) (by decide) v v (by decide)).up (show (2 : Int) + 2 ≤ 4 by decide) (show _ ≤ 232 by decide) (show _ ≤ 16 by decide)
  have vr := (FQ.sc (j := 7) (FQ.tmA (j := 7) h3 (by decide) (by decide) vv r (by decide)) sz_m1 (by decide)).up (show (4 : Int) + 4 ≤ 8 by decide) (show _ ≤ 400 by decide) (show _ ≤ 96 by decide)
  have w0 : FQ ys 8 409 352 (wG (uB p a b c) (vB p a b) p.root) := (FQ.pl (j := 9) uu vr (by decide)).up (Int.le_refl _) (by decide) (by decide)
  have lw : (wG (uB p a b c) (vB p a b) p.root).length ≤ (8 + 1) * (8 + 1) := deg_len (P := 8) w0.form fun q hq s hs' => hy _ (w0.nin q hq s hs')
  have w : FQ ys 8 409 81 (wG (uB p a b c) (vB p a b) p.root) := ⟨w0.form, w0.nin, w0.sz, lw⟩
  have nw := FQ.sc (j := 7) w sz_m1 (by decide)
  have uv := FQ.tmA (j := 7) h3 (by decide) (by decide) u v (by decide)
  exact ⟨u.up (by decide) (by decide) (by decide), v.up (by decide) (by decide) (by decide), w.up (by decide) (by decide) (by decide), nw.up (by decide) (by decide) (by decide), uv.up (by decide) (by decide) (by decide)⟩
theorem lin_u {ys : List (List Nat)} (h3 : ys.length ≤ 3) {p : Bor} (s0 : p.sign = 0) (t : FQ ys 3 50 2 p.top) (b' : FQ ys 2 50 2 p.bottom) {a b c : List Tm} (ha : FQ ys 0 50 1 a) (hb : FQ ys 2 50 2 b) (hc : FQ ys 3 50 2 c) :
    FQ ys 9 500 100 (uB p a b c) ∧ vB p a b = [] := by
  have tt := (FQ.tmA (j := 3) h3 (by decide) (by decide) t t (by decide)).up (show (3 : Int) + 3 ≤ 6 by decide) (show _ ≤ 103 by decide) (show _ ≤ 4 by decide)
  have sq : FQ ys 6 103 4 (sqB p) := by
    unfold sqB
    rw [if_pos s0]
    exact tt
  have asq := (FQ.tmA (j := 3) h3 (by decide) (by decide) ha sq (by decide)).up (show (0 : Int) + 6 ≤ 7 by decide) (show _ ≤ 160 by decide) (show _ ≤ 4 by decide)
  have st := (FQ.tmA (j := 3) h3 (by decide) (by decide) b' t (by decide)).up (show (2 : Int) + 3 ≤ 5 by decide) (show _ ≤ 103 by decide) (show _ ≤ 4 by decide)
  have bst := (FQ.tmA (j := 4) h3 (by decide) (by decide) hb st (by decide)).up (show (2 : Int) + 5 ≤ 7 by decide) (show _ ≤ 160 by decide) (show _ ≤ 8 by decide)
  have ss := (FQ.tmA (j := 3) h3 (by decide) (by decide) b' b' (by decide)).up (show (2 : Int) + 2 ≤ 4 by decide) (show _ ≤ 103 by decide) (show _ ≤ 4 by decide)
  have css := (FQ.tmA (j := 4) h3 (by decide) (by decide) hc ss (by decide)).up (show (3 : Int) + 4 ≤ 7 by decide) (show _ ≤ 160 by decide) (show _ ≤ 8 by decide)
  have u := FQ.pl (j := 6) (FQ.pl (j := 5) asq bst (by decide)) css (by decide)
  refine ⟨u.up (by decide) (by decide) (by decide), ?_⟩
  unfold vB
  rw [s0]
  have at' := FQ.tmA (j := 2) h3 (by decide) (by decide) ha t (by decide)
  have bs := FQ.tmA (j := 3) h3 (by decide) (by decide) hb b' (by decide)
  exact scF_0 _ ((at'.form.sc 2).up2 (show (0 : Int) + 3 ≤ 9 by decide) |>.pl (bs.form.up2 (show (2 : Int) + 2 ≤ 9 by decide))).mono
theorem bl_num {p : Bor} {a b c : List Tm} (h : p.sign = 0 ∨ ((wG (uB p a b c) (vB p a b) p.root).length ≤ 100 ∧ (tmF (uB p a b c) (vB p a b)).length ≤ 100)) {ma mb mc : Nat} (m1 : ma ≤ 1) (m2 : mb ≤ 2) (m3 : mc ≤ 2) : BL p a b c 2 6 2 ma mb mc := by
  have c1 : ma = 0 ∨ ma = 1 := by omega
  have c2 : mb = 0 ∨ mb = 1 ∨ mb = 2 := by omega
  have c3 : mc = 0 ∨ mc = 1 ∨ mc = 2 := by omega
  rcases c1 with rfl | rfl <;> rcases c2 with rfl | rfl | rfl <;> rcases c3 with rfl | rfl | rfl <;> exact ⟨by decide, by decide, h.imp id fun k => ⟨by decide, Nat.le_trans k.1 (by decide), Nat.le_trans k.2 (by decide)⟩⟩
theorem borx_ok {y z : List Nat} {ys : List (List Nat)} (hy : ∀ w ∈ ys, w ∈ [y, z]) (h3 : ys.length ≤ 3) {p : Bor} (h : BorX ys p) {a b c : List Tm} {na nb nc : Nat} (n1 : na ≤ 1) (n2 : nb ≤ 2) (n3 : nc ≤ 2) (ha : FQ ys 0 50 na a) (hb : FQ ys 2 50 nb b) (hc : FQ ys 3 50 nc c) : BorOk (Tn ys) p a b c ∧ BL p a b c 2 6 2 na nb nc := by
  have ha := ha.up (Int.le_refl _) (Nat.le_refl _) n1
  have hb := hb.up (Int.le_refl _) (Nat.le_refl _) n2
  have hc := hc.up (Int.le_refl _) (Nat.le_refl _) n3
  have hs := h.sz
  rcases h with ⟨s0, t, r, b'⟩ | ⟨_, t, r, b'⟩
  · obtain ⟨u, v⟩ := lin_u h3 s0 t b' ha hb hc
    exact ⟨⟨u, .inl v⟩, bl_num (.inl s0) n1 n2 n3⟩
  · obtain ⟨u, v, w, nw, uv⟩ := quad_uv hy h3 hs t r b' ha hb hc
    exact ⟨⟨u, .inr ⟨v, w, nw, uv⟩⟩, bl_num (.inr ⟨w.len, uv.len⟩) n1 n2 n3⟩
theorem K64.at {y z : List Nat} {ys : List (List Nat)} (hy : ∀ w ∈ ys, w ∈ [y, z]) (h3 : ys.length ≤ 3) {x : List Nat} {f : List Tm} (h : K64 ys x f) (l : (byPow x f).length ≤ 3) {P : Pl} (hP : P = .far ∨ ∃ b, BorX ys b ∧ (P = .border b ∨ P = .past b)) : Fits ys x P f ∧ FpOk' (Tn ys) x P f := by
  have a := h.a.up (Int.le_refl _) (show 45 ≤ 50 by decide) (Nat.le_refl _)
  have b := h.b.up (Int.le_refl _) (show 45 ≤ 50 by decide) (Nat.le_refl _)
  have c := h.c.up (Int.le_refl _) (show 45 ≤ 50 by decide) (Nat.le_refl _)
  have fl : (byPow x f).length = 1 → Tn ys f := fun e => (h.flat e).up (Int.le_refl _) (by decide) (by decide)
  rcases hP with rfl | ⟨q, bx, rfl | rfl⟩
  · refine ⟨⟨1, 2, 2, h.iq, l, by show 1 ≤ 12 ∧ 2 ≤ 12 ∧ 2 ≤ 12; decide⟩, ⟨a.up (by decide) (by decide) (by decide), ?_, c.up (by decide) (by decide) (by decide)⟩, fl⟩
    exact (FQ.sc (j := 2) b sz_m1 (by decide)).up (by decide) (by decide) (by decide)
  · obtain ⟨k1, k2⟩ := borx_ok hy h3 bx (by decide) (by decide) (by decide) a b c
    exact ⟨⟨1, 2, 2, h.iq, l, 2, 6, 2, bx.bq, by decide, k2⟩, k1, fl⟩
  · obtain ⟨k1, k2⟩ := borx_ok hy h3 bx (by decide) (by decide) (by decide) a b c
    have a2 := (FQ.sc (j := 1) h.a sz_2 (by decide)).up (show (0 : Int) ≤ 2 by decide) (show _ ≤ 50 by decide) (Nat.le_refl _)
    obtain ⟨k3, k4⟩ := borx_ok hy h3 bx (a := []) (na := 0) (by decide) (by decide) (by decide) (fq_nil _ _ _ _) a2 (b.up (show (2 : Int) ≤ 3 by decide) (Nat.le_refl _) (Nat.le_refl _))
    exact ⟨⟨1, 2, 2, h.iq, l, 2, 6, 2, bx.bq, by decide, k2, k4⟩, ⟨k1, k3, a.up (by decide) (by decide) (by decide)⟩, fl⟩
theorem BorX.gd {ys : List (List Nat)} {p : Bor} (h : BorX ys p) : Tn ys p.bottom ∧ Tn ys (scF (-1) p.root) := by
  rcases h with ⟨_, t, r, b⟩ | ⟨_, t, r, b⟩
  · exact ⟨b.up (by decide) (by decide) (by decide), by rw [r]; exact (FQ.sc (j := 1) (fq_nil ys 0 0 0) sz_m1 (by decide)).up (by decide) (by decide) (by decide)⟩
  · exact ⟨b.up (by decide) (by decide) (by decide), (FQ.sc (j := 3) r sz_m1 (by decide)).up (by decide) (by decide) (by decide)⟩
theorem tot_app {κ : Type} [DecidableEq κ] : ∀ (a b l : List (κ × Int)), tot l (a ++ b) = tot (tot l a) b
  | [], _, _ => rfl
  | q :: a, b, l => tot_app a b (put l q.1 ((fnd l q.1).getD 0 + q.2))
theorem tot_self {κ : Type} [DecidableEq κ] : ∀ (m l : List (κ × Int)), ((l ++ m).map (·.1)).Nodup → tot l m = l ++ m
  | [], l, _ => (List.append_nil l).symm
  | q :: m, l, nd => by
    have nk : q.1 ∉ l.map (·.1) := by
      rw [List.map_append, List.map_cons] at nd
      intro h
      exact (List.nodup_append.mp nd).2.2 _ h _ List.mem_cons_self rfl
    have e : put l q.1 ((fnd l q.1).getD 0 + q.2) = l ++ [q] := by
      rw [put_new nk, fnd_none.mpr nk]
      simp
    show tot (put l q.1 ((fnd l q.1).getD 0 + q.2)) m = _
    rw [e, tot_self m (l ++ [q]) (by simpa using nd)]
    simp
theorem prs_enc : ∀ m : Mn, prsT (m.map encP) = some (m.map fun p => (S p.1, D.int p.2))
  | [] => rfl
  | p :: m => by
    rw [List.map_cons, show prsT (encP p :: m.map encP) = (match prT (encP p), prsT (m.map encP) with | some p, some l => some (p :: l) | _, _ => none) from rfl, prs_enc m]
    rfl
theorem puts_self : ∀ (m l : Mn), ((l ++ m).map (·.1)).Nodup → putsT (l.map encS) (m.map fun p => (S p.1, D.int p.2)) = (l ++ m).map encS
  | [], l, _ => by rw [List.append_nil]; rfl
  | q :: m, l, nd => by
    have nk : q.1 ∉ l.map (·.1) := by
      rw [List.map_append, List.map_cons] at nd
      intro h
      exact (List.nodup_append.mp nd).2.2 _ h _ List.mem_cons_self rfl
    have ndl : (l.map (·.1)).Nodup := by
      rw [List.map_append] at nd
      exact (List.nodup_append.mp nd).1
    have e : dicPut (l.map encS) (encN q.1) (.int q.2) = (l ++ [q]).map encS := by
      rw [show dicPut (l.map encS) (encN q.1) (.int q.2) = (put l q.1 q.2).map encS from dicPut_E (enc := encN) (ev := D.int) encN_inj ndl q.1 q.2, put_new nk]
    show putsT (dicPut (l.map encS) (encN q.1) (.int q.2)) (m.map fun p => (S p.1, D.int p.2)) = _
    rw [e, puts_self m (l ++ [q]) (by simpa using nd)]
    simp
theorem dictT_M {m : Mn} (nd : (m.map (·.1)).Nodup) : cDictT [.tup (m.map encP)] = .ok (.dic (m.map encS)) := by
  rw [cDictT_tup _ (prs_enc m), show ([] : List (D × D)) = ([] : Mn).map encS from rfl, puts_self m [] (by simpa using nd)]
  rfl
theorem lt_loop {x0 x1 x2 x3 x4 x5 x6 : Option D} : ∀ (ps l : Mn) (x8 x9 : Option D), (l.map (·.1)).Nodup → l.length + ps.length ≤ 10000 →
    ∃ x8' x9', forL (gT [gN 8, gN 9]) b__law_times_1 (ps.map encP) [x0, x1, x2, x3, x4, x5, x6, some (.dic (l.map encS)), x8, x9] = .nx [x0, x1, x2, x3, x4, x5, x6, some (.dic ((tot l ps).map encS)), x8', x9'] := by
  intro ps
  induction ps with
  | nil => intro l x8 x9 _ _; exact ⟨x8, x9, rfl⟩
  | cons q ps ih =>
    intro l x8 x9 nd hz
    obtain ⟨x8', x9', e⟩ := ih (put l q.1 ((fnd l q.1).getD 0 + q.2)) (some (encN q.1)) (some (.int q.2)) (put_nodup nd _ _) (by have := put_len l q.1 ((fnd l q.1).getD 0 + q.2); simp at hz; omega)
    refine ⟨x8', x9', ?_⟩
    simp only [tot]
    rw [← e]
    have e1 : ∀ o : Out D, chk (DKey (l.map encS) (encN q.1)) o = o := fun o => chk_pos (dkey_N l q.1)
    have e2 := putO_N (z := (fnd l q.1).getD 0 + q.2) nd (by simp at hz; omega) q.1
    have e3 := get0_N l q.1
    rw [List.map_cons, forL_cons, show encP q = .tup [encN q.1, .int q.2] from rfl]
    clear e ih nd hz
    generalize forL (gT [gN 8, gN 9]) b__law_times_1 (ps.map encP) = R at *
    unfold b__law_times_1
    walk_at "goi"
theorem lt_lc {kvs : List (D × D)} {x0 x1 x2 x3 x4 x5 x6 x9 : Option D} : ∀ (r : Mn), (∀ q ∈ r, dIx (.dic kvs) (encN q.1) = .ok (.int q.2)) →
    lcL (gN 8) bYes (eA mkTup (aC (eV 8) (aC (PD.e2 dIx (eV 7) (eV 8)) aN))) [x0, x1, x2, x3, x4, x5, x6, some (.dic kvs), none, x9] (r.map fun q => encN q.1) = .ok (r.map encP)
  | [], _ => rfl
  | q :: r, h => by
    have ih := lt_lc (kvs := kvs) (x0 := x0) (x1 := x1) (x2 := x2) (x3 := x3) (x4 := x4) (x5 := x5) (x6 := x6) (x9 := x9) r fun q hq => h q (List.mem_cons_of_mem _ hq)
    have h1 := h q List.mem_cons_self
    clear h
    rw [List.map_cons, lcL_cons, List.map_cons, show encP q = .tup [encN q.1, .int q.2] from rfl]
    generalize lcL (gN 8) bYes (eA mkTup (aC (eV 8) (aC (PD.e2 dIx (eV 7) (eV 8)) aN))) [x0, x1, x2, x3, x4, x5, x6, some (.dic kvs), none, x9] (r.map fun q => encN q.1) = R at *
    walk_at "goi"
theorem lt_prod {a b : Mn} {p q : Int} (ha : Mono p a) (hb : Mono q b) (hp : 0 ≤ p) (hq : 0 ≤ q) (hl : a.length + b.length ≤ 1000) :
    cSorted [.lst ((tot a b).map encP)] = .ok (.lst ((mulM a b).map encP)) := by
  have ea : tot [] (a ++ b) = tot a b := by
    rw [tot_app, tot_self a [] (by simpa using mono_nd ha)]
    rfl
  have mm := mono_mul ha hb hp hq hl
  have pm : (mulM a b).Perm (tot a b) := by rw [← ea]; exact List.mergeSort_perm _ _
  have nd : ((tot a b).map (·.1)).Nodup := tot_nodup b a (mono_nd ha)
  have nm : ∀ r ∈ tot a b, Nm r.1 := fun r hr => (mm.1.nm r (pm.mem_iff.mpr hr)).1
  obtain ⟨r, e, pr, up⟩ := sorted_P nm nd (by have := tot_len b a; omega)
  rw [e]
  have : r = mulM a b := eq_of_up (R := fun p q : Pr => p.1 < q.1) prU_as up mm.1.up fun t => (pr.mem_iff).trans pm.mem_iff.symm
  rw [this]
theorem lt_inner {p q : Int} {m : Mn} {z : Int} {b : Nat} (hp : 0 ≤ p) (hq : 0 ≤ q) (hm : Mono p m) (hmk : m.length ≤ 300) (hz : Sz b z) (hb : b ≤ 10000) {x0 x1 : Option D} : ∀ (g acc : List Tm) (x5 x6 x7 x8 x9 : Option D), (∀ t ∈ g, Mono q t.1 ∧ t.1.length ≤ 300 ∧ Sz b t.2) → acc.length + g.length ≤ 10000 →
    ∃ x5' x6' x7' x8' x9', forL (gT [gN 5, gN 6]) b__law_times_2 (g.map encQ) [x0, x1, some (.lst (acc.map encQ)), some (encM m), some (.int z), x5, x6, x7, x8, x9] = .nx [x0, x1, some (.lst ((acc ++ g.map fun r => (mulM m r.1, z * r.2)).map encQ)), some (encM m), some (.int z), x5', x6', x7', x8', x9'] := by
  intro g
  induction g with
  | nil => intro acc x5 x6 x7 x8 x9 _ _; exact ⟨x5, x6, x7, x8, x9, by simp only [List.map_nil, List.append_nil]; rfl⟩
  | cons t g ih =>
    intro acc x5 x6 x7 x8 x9 h hl
    obtain ⟨h1, h2, h3⟩ := h t List.mem_cons_self
    have d1 := dictT_M (mono_nd hm)
    obtain ⟨y8, y9, e1⟩ := lt_loop (x0 := x0) (x1 := x1) (x2 := some (.lst (acc.map encQ))) (x3 := some (.tup (m.map encP))) (x4 := some (.int z)) (x5 := some (.tup (t.1.map encP))) (x6 := some (.int t.2)) t.1 m x8 x9 (mono_nd hm) (by omega)
    obtain ⟨x5', x6', x7', x8', x9', e⟩ := ih (acc ++ [(mulM m t.1, z * t.2)]) (some (encM t.1)) (some (.int t.2)) (some (.dic ((tot m t.1).map encS))) y8 y9 (fun r hr => h r (List.mem_cons_of_mem _ hr)) (by simp at hl ⊢; omega)
    refine ⟨x5', x6', x7', x8', x9', ?_⟩
    rw [show acc ++ (t :: g).map (fun r => (mulM m r.1, z * r.2)) = acc ++ [(mulM m t.1, z * t.2)] ++ g.map (fun r => (mulM m r.1, z * r.2)) by simp, ← e]
    have nd := tot_nodup t.1 m (mono_nd hm)
    have e2 := lt_lc (kvs := (tot m t.1).map encS) (x0 := x0) (x1 := x1) (x2 := some (.lst (acc.map encQ))) (x3 := some (.tup (m.map encP))) (x4 := some (.int z)) (x5 := some (.tup (t.1.map encP))) (x6 := some (.int t.2)) (x9 := y9) (tot m t.1) fun r hr => dIx_N ((fnd_mem nd).mpr hr)
    have e3 := lt_prod hm h1 hp hq (by omega)
    have e4 := dMul_int hz h3 (by omega)
    have e5 : ∀ o, chkS ((acc.map encQ).length < sizeLine) o = o := fun o => app_ok (by rw [List.length_map]; simp at hl; omega) o
    have e6 : (acc ++ [(mulM m t.1, z * t.2)]).map encQ = acc.map encQ ++ [.tup [.tup ((mulM m t.1).map encP), .int (z * t.2)]] := by rw [List.map_append]; rfl
    have kf : ∀ d ∈ ((tot m t.1).map encS).map (·.1), flatK d = true := fun d hd => by
      obtain ⟨r, hr, rfl⟩ := List.mem_map.mp hd
      obtain ⟨s, _, rfl⟩ := List.mem_map.mp hr
      exact flat_N s.1
    have lt' : (tot m t.1).length ≤ 1000 := by have := tot_len t.1 m; omega
    have e7 : (((tot m t.1).map encS).map (·.1)) = (tot m t.1).map fun q => encN q.1 := by rw [List.map_map]; rfl
    have e8 : ((tot m t.1).map fun q => encN q.1).length ≤ sizeLine := len_ok (by rw [List.length_map]; omega)
    have e9 : ((mulM m t.1).map encP).length ≤ sizeLine := len_ok (by
      rw [List.length_map]
      have : (mulM m t.1).length = (tot [] (m ++ t.1)).length := List.length_mergeSort _
      have := tot_len (m ++ t.1) []
      simp at this
      omega)
    have ik : ∀ (a b c d f g h : Option D) (r : Env), iKeysD 7 (a :: b :: c :: d :: f :: g :: h :: some (.dic ((tot m t.1).map encS)) :: r) = .ok ((tot m t.1).map fun q => encN q.1) := fun a b c d f g h r => by
      rw [iKeysD_ap, show eD 7 (a :: b :: c :: d :: f :: g :: h :: some (.dic ((tot m t.1).map encS)) :: r) = .ok ((tot m t.1).map encS) from rfl, Out.bind_ok, e7]
      rw [e7] at kf
      exact chk_pos kf
    rw [List.map_cons, forL_cons, e6, show encQ t = .tup [.tup (t.1.map encP), .int t.2] from rfl, show encM m = .tup (m.map encP) from rfl]
    replace e1 : forL (gT [gN 8, gN 9]) b__law_times_1 (t.1.map encP) [x0, x1, some (.lst (acc.map encQ)), some (.tup (m.map encP)), some (.int z), some (.tup (t.1.map encP)), some (.int t.2), some (.dic (m.map encS)), x8, x9] = _ := e1
    rw [show encM t.1 = .tup (t.1.map encP) from rfl]
    clear e ih h hl e6 h1 h2 h3 hz hm hmk nd kf lt' e7
    generalize forL (gT [gN 5, gN 6]) b__law_times_2 (g.map encQ) = R at *
    generalize (tot m t.1).map (fun q => encN q.1) = KS at *
    generalize (tot m t.1).map encS = TS at *
    generalize (tot m t.1).map encP = TP at *
    generalize (mulM m t.1).map encP = MP at *
    generalize m.map encP = M at *
    generalize m.map encS = MS at *
    generalize t.1.map encP = TT at *
    generalize acc.map encQ = AC at *
    generalize t.2 = T2 at *
    unfold b__law_times_2
    walk_at "goi"
theorem lt_outer {p q : Int} {b : Nat} (hp : 0 ≤ p) (hq : 0 ≤ q) {g : List Tm} (hb : b ≤ 10000) (hg : ∀ t ∈ g, Mono q t.1 ∧ t.1.length ≤ 300 ∧ Sz b t.2) {x0 : Option D} : ∀ (f acc : List Tm) (x3 x4 x5 x6 x7 x8 x9 : Option D), (∀ t ∈ f, Mono p t.1 ∧ t.1.length ≤ 300 ∧ Sz b t.2) → acc.length + f.length * g.length ≤ 10000 →
    ∃ x3' x4' x5' x6' x7' x8' x9', forL (gT [gN 3, gN 4]) b__law_times_3 (f.map encQ) [x0, some (.tup (g.map encQ)), some (.lst (acc.map encQ)), x3, x4, x5, x6, x7, x8, x9] = .nx [x0, some (.tup (g.map encQ)), some (.lst ((acc ++ timesL f g).map encQ)), x3', x4', x5', x6', x7', x8', x9'] := by
  intro f
  induction f with
  | nil => intro acc x3 x4 x5 x6 x7 x8 x9 _ _; exact ⟨x3, x4, x5, x6, x7, x8, x9, by rw [show timesL [] g = [] from rfl, List.append_nil]; rfl⟩
  | cons t f ih =>
    intro acc x3 x4 x5 x6 x7 x8 x9 h hl
    obtain ⟨h1, h2, h3⟩ := h t List.mem_cons_self
    have hl' : acc.length + (f.length * g.length + g.length) ≤ 10000 := by rw [List.length_cons, Nat.add_mul, Nat.one_mul] at hl; exact hl
    obtain ⟨y5, y6, y7, y8, y9, e1⟩ := lt_inner hp hq h1 h2 h3 hb (x0 := x0) (x1 := some (.tup (g.map encQ))) g acc x5 x6 x7 x8 x9 hg (by omega)
    obtain ⟨x3', x4', x5', x6', x7', x8', x9', e⟩ := ih (acc ++ g.map fun r => (mulM t.1 r.1, t.2 * r.2)) (some (encM t.1)) (some (.int t.2)) y5 y6 y7 y8 y9 (fun r hr => h r (List.mem_cons_of_mem _ hr)) (by simp; omega)
    refine ⟨x3', x4', x5', x6', x7', x8', x9', ?_⟩
    rw [show acc ++ timesL (t :: f) g = acc ++ (g.map fun r => (mulM t.1 r.1, t.2 * r.2)) ++ timesL f g by simp [timesL], ← e]
    rw [List.map_cons, forL_cons, show encQ t = .tup [encM t.1, .int t.2] from rfl]
    have lg : (g.map encQ).length ≤ sizeLine ∨ True := .inr trivial
    clear e ih h hl hl' h1 h2 h3 hg lg
    generalize forL (gT [gN 3, gN 4]) b__law_times_3 (f.map encQ) = R at *
    generalize g.map encQ = gs at *
    unfold b__law_times_3
    walk_at "goi"
theorem law_times_eq {xs : List (List Nat)} {p q : Int} {b b' n n' : Nat} (hp : 0 ≤ p) (hq : 0 ≤ q) {f g : List Tm} (h3 : xs.length ≤ 3) (h : FQ xs p b n f) (i : FQ xs q b' n' g) (hb : max b b' ≤ 10000) (hl : n * n' ≤ 10000) : m__law_times [eF f, eF g] = .ok (eF (tmF f g)) := by
  have hf : ∀ t ∈ f, Mono p t.1 ∧ t.1.length ≤ 300 ∧ Sz (max b b') t.2 := fun t ht => ⟨h.form.mono t ht, by have := h.few t ht; omega, (h.sz t ht).mono (Nat.le_max_left _ _)⟩
  have hg : ∀ t ∈ g, Mono q t.1 ∧ t.1.length ≤ 300 ∧ Sz (max b b') t.2 := fun t ht => ⟨i.form.mono t ht, by have := i.few t ht; omega, (i.sz t ht).mono (Nat.le_max_right _ _)⟩
  have hl' : f.length * g.length ≤ 10000 := Nat.le_trans (Nat.mul_le_mul h.len i.len) hl
  obtain ⟨y3, y4, y5, y6, y7, y8, y9, e⟩ := lt_outer hp hq hb hg (x0 := some (eF f)) f [] none none none none none none none hf (by simpa using hl')
  have mo : ∀ t ∈ timesL f g, Mono (p + q) t.1 := fun t ht => by
    unfold timesL at ht
    obtain ⟨r, hr, ht⟩ := List.mem_flatMap.mp ht
    obtain ⟨s, hs, rfl⟩ := List.mem_map.mp ht
    exact (mono_mul (hf r hr).1 (hg s hs).1 hp hq (by have := (hf r hr).2.1; have := (hg s hs).2.1; omega)).1
  have fe := form_eq mo (by rw [len_times]; exact hl')
  replace fe : m__law_sum [.lst ((timesL f g).map encQ)] = .ok (eF (tmF f g)) := fe
  rw [List.nil_append] at e
  replace e : forL (gT [gN 3, gN 4]) b__law_times_3 (f.map encQ) [some (.tup (f.map encQ)), some (.tup (g.map encQ)), some (.lst []), none, none, none, none, none, none, none] = _ := e
  show m__law_times [.tup (f.map encQ), .tup (g.map encQ)] = _
  clear mo hf hg h i hl hl' hb h3 hp hq
  generalize (timesL f g).map encQ = T at *
  generalize eF (tmF f g) = R at *
  generalize f.map encQ = F at *
  generalize g.map encQ = G at *
  unfold m__law_times b__law_times
  walk_at "goi"
theorem names_loop5 : ∀ (n : Nat) (f : Nat → D) (c : D) (acc : List Nat) (rest : Int) (x4 : Option D), acc.length + n ≤ 10 → 0 ≤ rest → (∀ c ∈ acc, 97 ≤ c ∧ c ≤ 122) →
    ∃ acc' rest' x4', forL (gN 4) b__law_names_v2_1 ((List.range n).map f) [some c, some (.str (S abc)), some (.str (S acc)), some (.int rest), x4, none, none, none, none] = .nx [some c, some (.str (S abc)), some (.str (S acc')), some (.int rest'), x4', none, none, none, none] ∧
      acc'.length = acc.length + n ∧ 0 ≤ rest' ∧ ∀ c ∈ acc', 97 ≤ c ∧ c ≤ 122 := by
  intro n
  induction n with
  | zero => intro f c acc rest x4 _ h z; exact ⟨acc, rest, x4, rfl, rfl, h, z⟩
  | succ n ih =>
    intro f c acc rest x4 hl h0 z
    have m0 : 0 ≤ rest % 26 := Int.emod_nonneg _ (by decide)
    have m1 : rest % 26 < 26 := Int.emod_lt_of_pos _ (by decide)
    have h1 : 0 ≤ rest / 26 := Int.ediv_nonneg h0 (by decide)
    obtain ⟨acc', rest', x4', e, l', r', z'⟩ := ih (fun k => f (k + 1)) c (acc ++ [97 + (rest % 26).toNat]) (rest / 26) (some (f 0)) (by simp; omega) h1 (fun c hc => by
      rcases List.mem_append.mp hc with q | q
      · exact z c q
      · have : c = 97 + (rest % 26).toNat := by simpa using q
        subst this; omega)
    refine ⟨acc', rest', x4', ?_, by rw [l']; simp; omega, r', z'⟩
    have e1 := abc_at m0 m1
    have e2 := dMod_int (i := rest) (j := 26) (by decide)
    have e3 := dDiv_int (i := rest) (j := 26) (by decide) (show Sz 5 26 by unfold Sz; decide) (by decide)
    have e4 := dAdd_S (a := acc) (b := [97 + (rest % 26).toNat]) (by simp; omega)
    rw [List.range_succ_eq_map, List.map_cons, List.map_map, forL_cons]
    have e5 : ((List.range n).map (f ∘ Nat.succ)) = (List.range n).map (fun k => f (k + 1)) := rfl
    rw [e5]
    clear ih z z' l' r' hl h0 h1 m0 m1
    generalize forL (gN 4) b__law_names_v2_1 ((List.range n).map (fun k => f (k + 1))) = R at *
    unfold b__law_names_v2_1
    walk_at "pda"
theorem names_ok16 {c : Int} (h : 0 ≤ c) : ∃ a b d, m__law_names_v2 [.int c] = .ok (.lst [.str (S a), .str (S b), .str (S d)]) ∧ Nm a ∧ Nm b ∧ Nm d ∧ a ≠ b ∧ a ≠ d ∧ b ≠ d ∧ a.length ≤ 7 ∧ b.length ≤ 7 ∧ d.length ≤ 7 := by
  have m0 : 0 ≤ c % 5 := Int.emod_nonneg _ (by decide)
  have m1 : c % 5 < 5 := Int.emod_lt_of_pos _ (by decide)
  have h1 : 0 ≤ c / 5 := Int.ediv_nonneg h (by decide)
  obtain ⟨acc, rest, x4, e, la, r0, za⟩ := names_loop5 (1 + c % 5).toNat (fun (n : Nat) => .int n) (.int c) [] (c / 5) none (by simp; omega) h1 (fun c hc => nomatch hc)
  have la' : 1 ≤ acc.length ∧ acc.length ≤ 5 := by rw [la]; simp; omega
  have e1 := fit_eq (l := acc) (by omega)
  have nF := fit_nm la'.1 (by omega) za
  have lF : (fit acc).length ≤ 6 := by
    rcases fit_len acc with ⟨q, _⟩ | ⟨q, _⟩
    · rw [q]; omega
    · rw [q]; simp; omega
  generalize fit acc = F at e1 nF lF
  obtain ⟨F1, F2, F3⟩ := nF
  have k0 : 0 ≤ rest % (F.length : Int) := Int.emod_nonneg _ (by omega)
  have k1 : rest % (F.length : Int) < F.length := Int.emod_lt_of_pos _ (by omega)
  have ek : rest % (F.length : Int) = ((rest % (F.length : Int)).toNat : Int) := by omega
  have hk : (rest % (F.length : Int)).toNat < F.length := by omega
  generalize (rest % (F.length : Int)).toNat = k at ek hk
  have hch := F3 F[k] (List.getElem_mem hk)
  have e2 := dIx_S (l := F) (k := k) (c := F[k]) (by simp) (by omega)
  have e3 := cLen_S (l := F) (by omega)
  have e4 := fun i => dMod_int (i := i) (j := (F.length : Int)) (by omega)
  have e5 := fun i => dMod_int (i := i) (j := 26) (by decide)
  have e6 := fun i => dMod_int (i := i) (j := 25) (by decide)
  have e7 := fun i => dMod_int (i := i) (j := 7) (by decide)
  have e8 := fun i => dDiv_int (i := i) (j := 7) (by decide) (show Sz 5 7 by unfold Sz; decide) (by decide)
  have e7b := fun i => dMod_int (i := i) (j := 5) (by decide)
  have e8b := fun i => dDiv_int (i := i) (j := 5) (by decide) (show Sz 5 5 by unfold Sz; decide) (by decide)
  have e9 := fun i => dDiv_int (i := i) (j := 175) (by decide) (show Sz 8 175 by unfold Sz; decide) (by decide)
  have e10 := abc_find hch.1 hch.2
  have t0 : 0 ≤ ((F[k] : Int) - 97 + 1 + rest / 7 % 25) % 26 := Int.emod_nonneg _ (by decide)
  have t1 : ((F[k] : Int) - 97 + 1 + rest / 7 % 25) % 26 < 26 := Int.emod_lt_of_pos _ (by decide)
  have s0 : 0 ≤ rest / 7 % 25 := Int.emod_nonneg _ (by decide)
  have s1 : rest / 7 % 25 < 25 := Int.emod_lt_of_pos _ (by decide)
  have u0 : 0 ≤ rest / 175 % 26 := Int.emod_nonneg _ (by decide)
  have u1 : rest / 175 % 26 < 26 := Int.emod_lt_of_pos _ (by decide)
  have e11 := abc_at t0 t1
  have e12 := abc_at u0 u1
  have e13 := dSl_S (l := F) (by omega) none (some (k : Int))
  rw [cutD_to F (by omega)] at e13
  have e14 := dSl_S (l := F) (by omega) (some (((k + 1 : Nat)) : Int)) none
  rw [cutD_from F (by omega)] at e14
  have e15 : ((k : Int) + 1) = ((k + 1 : Nat) : Int) := by omega
  have ne : 97 + (((F[k] : Int) - 97 + 1 + rest / 7 % 25) % 26).toNat ≠ F[k] := by omega
  have let1 : 97 ≤ 97 + (((F[k] : Int) - 97 + 1 + rest / 7 % 25) % 26).toNat ∧ 97 + (((F[k] : Int) - 97 + 1 + rest / 7 % 25) % 26).toNat ≤ 122 := by omega
  have let2 : 97 ≤ 97 + (rest / 175 % 26).toNat ∧ 97 + (rest / 175 % 26).toNat ≤ 122 := by omega
  generalize 97 + (((F[k] : Int) - 97 + 1 + rest / 7 % 25) % 26).toNat = p at e11 ne let1
  generalize 97 + (rest / 175 % 26).toNat = q at e12 let2
  have lt : (F.take k).length = k := by rw [List.length_take]; omega
  have e16 := dAdd_S (a := F.take k) (b := [p]) (by rw [lt]; simp; omega)
  have e17 := dAdd_S (a := F.take k ++ [p]) (b := F.drop (k + 1)) (by simp; omega)
  have lp : (F.take k ++ [p] ++ F.drop (k + 1)).length = F.length := by simp; omega
  have e18 := fit_eq (l := F.take k ++ [p] ++ F.drop (k + 1)) (by omega)
  have e19 := dAdd_S (a := F) (b := [q]) (by simp; omega)
  have e20 := fit_eq (l := F ++ [q]) (by simp; omega)
  have e21 : rng1 [.int (1 + c % 5)] = .ok ((List.range (1 + c % 5).toNat).map fun (n : Nat) => .int n) := chk_pos (by omega)
  have n2 : Nm (fit (F.take k ++ [p] ++ F.drop (k + 1))) := fit_nm (by omega) (by omega) fun x hx => by
    rcases List.mem_append.mp hx with hx | hx
    · rcases List.mem_append.mp hx with hx | hx
      · exact F3 x (List.mem_of_mem_take hx)
      · have : x = p := by simpa using hx
        subst this; exact let1
    · exact F3 x (List.mem_of_mem_drop hx)
  have n3 : Nm (fit (F ++ [q])) := fit_nm (by simp) (by simp; omega) fun x hx => by
    rcases List.mem_append.mp hx with hx | hx
    · exact F3 x hx
    · have : x = q := by simpa using hx
      subst this; exact let2
  have pk : F.take k ++ [p] ++ F.drop (k + 1) ≠ F := fun z => by
    have : (F.take k ++ [p] ++ F.drop (k + 1))[k]? = F[k]? := by rw [z]
    rw [List.append_assoc, List.getElem?_append_right (by omega), lt, Nat.sub_self] at this
    simp [hk] at this
    exact ne this
  refine ⟨F, fit (F.take k ++ [p] ++ F.drop (k + 1)), fit (F ++ [q]), ?_, ⟨F1, F2, F3⟩, n2, n3, ?_, ?_, ?_, ?_, ?_, ?_⟩
  · have a1 : Str.ofString "" = S [] := by decide +kernel
    clear n2 n3 pk F1 F2 F3 let1 let2 ne la la' za hch lt lp k1 t0 t1 s0 s1 u0 u1 m0 m1 h h1 r0 lF k0
    unfold m__law_names_v2 b__law_names_v2
    rw [abc_str, a1]
    walk_at "pda"
  · rcases fit_len (F.take k ++ [p] ++ F.drop (k + 1)) with ⟨z, _⟩ | ⟨z, _⟩
    · rw [z]; exact fun y => pk y.symm
    · rw [z]
      intro y
      have := congrArg List.length y
      simp at this; omega
  · rcases fit_len (F ++ [q]) with ⟨z, _⟩ | ⟨z, _⟩
    · rw [z]
      intro y
      have := congrArg List.length y
      simp at this
    · rw [z]
      intro y
      have := congrArg List.length y
      simp at this
  · rcases fit_len (F.take k ++ [p] ++ F.drop (k + 1)) with ⟨z, _⟩ | ⟨z, w⟩
    · rw [z]
      rcases fit_len (F ++ [q]) with ⟨z', _⟩ | ⟨z', _⟩
      · rw [z']
        intro y
        have := congrArg List.length y
        simp at this; omega
      · rw [z']
        intro y
        have := congrArg List.length y
        simp at this; omega
    · rw [z]
      rcases fit_len (F ++ [q]) with ⟨z', _⟩ | ⟨z', _⟩
      · rw [z']
        intro y
        have := List.append_inj' y rfl
        exact pk this.1
      · rw [z']
        intro y
        have := congrArg List.length y
        simp at this; omega
  · omega
  · rcases fit_len (F.take k ++ [p] ++ F.drop (k + 1)) with ⟨z, _⟩ | ⟨z, _⟩
    · rw [z, lp]; omega
    · rw [z, List.length_append, lp, List.length_singleton]; omega
  · rcases fit_len (F ++ [q]) with ⟨z, _⟩ | ⟨z, w⟩
    · rw [z, List.length_append, List.length_singleton]; omega
    · have short : ∀ l ∈ words, l.length ≤ 4 := by decide
      have := short _ w
      rw [z, List.length_append, List.length_singleton]; omega
theorem pickNR {l : List (List Nat)} {i : Int} (h0 : 0 ≤ i) (h : i < l.length) : ∃ x ∈ l, dIx (.lst (l.map encN)) (.int i) = .ok (encN x) := by
  have hk : i.toNat < l.length := by omega
  refine ⟨l[i.toNat], List.getElem_mem hk, ?_⟩
  have e := dIx_lst (ds := l.map encN) (k := i.toNat) (d := encN l[i.toNat]) (by rw [List.getElem?_map, List.getElem?_eq_getElem hk]; rfl)
  rwa [show ((i.toNat : Nat) : Int) = i from by omega] at e
theorem power_ix15 {n : Int} : ∃ p : Int, dIx (.lst [.int 0, .int 1, .int 2, .int 0, .int 1, .int 0, .int 3, .int 4, .int 6, .int 7]) (.int (n % 10)) = .ok (.int p) ∧ 0 ≤ p ∧ p ≤ 7 := by
  have : n % 10 = 0 ∨ n % 10 = 1 ∨ n % 10 = 2 ∨ n % 10 = 3 ∨ n % 10 = 4 ∨ n % 10 = 5 ∨ n % 10 = 6 ∨ n % 10 = 7 ∨ n % 10 = 8 ∨ n % 10 = 9 := by omega
  rcases this with e | e | e | e | e | e | e | e | e | e <;> (rw [e]; exact ⟨_, rfl, by decide, by decide⟩)
theorem prod15_loop : ∀ (xs : List (List Nat)) (n : Int) (acc : Mn) (L x3 x4 : Option D), acc.length + xs.length ≤ 1000 →
    ∃ (l : Mn) (n' : Int) (x3' x4' : Option D), forL (gN 3) b__law_product_v2_1 (xs.map fun w => .str (S w)) [L, some (.int n), some (.lst (acc.map encP)), x3, x4] = .nx [L, some (.int n'), some (.lst ((acc ++ l).map encP)), x3', x4'] ∧ (l.map (·.1)).Sublist xs ∧ ∀ p ∈ l, 1 ≤ p.2 ∧ p.2 ≤ 7 := by
  intro xs
  induction xs with
  | nil => intro n acc L x3 x4 _; exact ⟨[], n, x3, x4, by rw [List.append_nil]; rfl, List.Sublist.refl _, fun p hp => nomatch hp⟩
  | cons w xs ih =>
    intro n acc L x3 x4 hl
    rw [List.length_cons] at hl
    obtain ⟨p, e1, p0, p7⟩ := power_ix15 (n := n)
    have e2 := mkLst_10
    have d1 : CDivW n 10 := cdiv_sz (by decide) (show Sz 4 10 by unfold Sz; decide) (by decide)
    have la : (acc.map encP).length < sizeLine := len_lt (by rw [List.length_map]; omega)
    by_cases c : 0 < p
    · obtain ⟨l, n', x3', x4', e, sl, pl⟩ := ih (n / 10) (acc ++ [(w, p)]) L (some (.str (S w))) (some (.int p)) (by simp; omega)
      refine ⟨(w, p) :: l, n', x3', x4', ?_, by rw [List.map_cons]; exact List.Sublist.cons₂ w sl, ?_⟩
      · rw [show acc ++ (w, p) :: l = acc ++ [(w, p)] ++ l by simp, ← e]
        have e8 : (acc ++ [(w, p)]).map encP = acc.map encP ++ [.tup [.str (S w), .int p]] := by rw [List.map_append]; rfl
        rw [e8, List.map_cons]
        refine forL_step ?_
        clear ih e sl pl hl p0 p7
        generalize acc.map encP = A at *
        unfold b__law_product_v2_1
        walk_at "gos"
      · intro q hq
        rcases List.mem_cons.mp hq with rfl | hq
        · exact ⟨c, p7⟩
        · exact pl q hq
    · obtain ⟨l, n', x3', x4', e, sl, pl⟩ := ih (n / 10) acc L (some (.str (S w))) (some (.int p)) (by omega)
      refine ⟨l, n', x3', x4', ?_, List.Sublist.cons w sl, pl⟩
      rw [← e, List.map_cons]
      refine forL_step ?_
      clear ih e sl pl hl p0 p7
      generalize acc.map encP = A at *
      unfold b__law_product_v2_1
      walk_at "gos"
theorem prod15_eq {xs : List (List Nat)} (hx : ∀ w ∈ xs, Nm w) (nd : xs.Nodup) (hl : xs.length ≤ 10) (n : Int) : ∃ m, m__law_product_v2 [.lst (xs.map encN), .int n] = .ok (encM m) ∧ Mono 7 m ∧ (∀ p ∈ m, p.1 ∈ xs) ∧ m.length ≤ xs.length := by
  obtain ⟨l, n', x3, x4, e, sl, pl⟩ := prod15_loop xs n [] (some (.lst (xs.map fun w => .str (S w)))) none none (by simp; omega)
  have hin : ∀ p ∈ l, p.1 ∈ xs := fun p hp => sl.mem (List.mem_map.mpr ⟨p, hp, rfl⟩)
  have ll : l.length ≤ 10 := by have := sl.length_le; rw [List.length_map] at this; omega
  obtain ⟨r, e1, pm, up⟩ := sorted_P (m := l) (fun p hp => hx _ (hin p hp)) (nd.sublist sl) (by omega)
  refine ⟨r, ?_, ⟨fun p hp => ?_, up, by rw [pm.length_eq]; omega⟩, fun p hp => hin p (pm.mem_iff.mp hp), by rw [pm.length_eq, ← List.length_map (f := (·.1))]; exact sl.length_le⟩
  · have e' : forL (gN 3) b__law_product_v2_1 (xs.map fun w => D.str (S w)) [some (.lst (xs.map fun w => .str (S w))), some (.int n), some (.lst []), none, none] = .nx [some (.lst (xs.map fun w => .str (S w))), some (.int n'), some (.lst (l.map encP)), x3, x4] := e
    show m__law_product_v2 [.lst (xs.map fun w => .str (S w)), .int n] = _
    unfold m__law_product_v2 b__law_product_v2
    generalize (xs.map fun w => D.str (S w)) = ns at *
    clear e
    walk_at "pda"
    rfl
  · have hp' := pm.mem_iff.mp hp
    exact ⟨hx _ (hin p hp'), pl p hp'⟩

theorem F15.of {xs : List (List Nat)} {k b : Nat} {ps : List Tm} (h3 : xs.length ≤ 3) (h : Ok xs 9 k b ps) (hl : ps.length ≤ 15) (hb : b ≤ 295) : F15 xs (formOf ps) := by
  have fq := fq_of (j := 4) (n := 15) h (by omega) hl
  exact ⟨fq.form, fq.nin, fun q hq => by have := fq.few q hq; omega, fun q hq => (fq.sz q hq).mono (by omega), by have := fq.len; omega⟩
theorem pairs15 {ns : List Int} (hl : ns.length ≤ 63) (hb : ∀ z ∈ ns, Builtin.Int.intBits z ≤ 1048576) {xs : List (List Nat)} (hx : ∀ w ∈ xs, Nm w) (nd : xs.Nodup) (h3 : xs.length = 3) (last : Int) (h14 : last ≤ 14) (h0 : 0 ≤ last) {x2 x3 : Option D} :
    ∃ (ps : List Tm) (x6 x7 : Option D), forL (gN 6) b__law_form_v8_1 ((List.range (min last ns.length - 3).toNat).map fun (n : Nat) => D.int ((3 : Int) + n)) [some (.scr ns), some (.lst (xs.map encN)), x2, x3, some (.int last), some (.lst []), none, none, none, none, none, none, none, none, none]
      = .nx [some (.scr ns), some (.lst (xs.map encN)), x2, x3, some (.int last), some (.lst (ps.map encQ)), x6, x7, none, none, none, none, none, none, none] ∧ Ok xs 7 3 31 ps ∧ ps.length ≤ (last - 3).toNat := by
  have loop := forL_inv (fun (n : Nat) => D.int ((3 : Int) + n)) (G := gN 6) (b := b__law_form_v8_1)
    (fun pre ρ => ∃ (ps : List Tm) (x6 x7 : Option D), ρ = [some (.scr ns), some (.lst (xs.map encN)), x2, x3, some (.int last), some (.lst (ps.map encQ)), x6, x7, none, none, none, none, none, none, none] ∧ Ok xs 7 3 31 ps ∧ ps.length = pre.length)
    (List.range (min last ns.length - 3).toNat) (ρ := [some (.scr ns), some (.lst (xs.map encN)), x2, x3, some (.int last), some (.lst []), none, none, none, none, none, none, none, none, none])
    ⟨[], none, none, rfl, ⟨fun q hq => (List.not_mem_nil hq).elim, fun q hq => (List.not_mem_nil hq).elim, fun q hq => (List.not_mem_nil hq).elim, fun q hq => (List.not_mem_nil hq).elim⟩, rfl⟩ (by
      rintro pre k post ρ e ⟨ps, x6, x7, rfl, ok, lp⟩
      have hpre : pre.length ≤ 11 := by
        have := congrArg List.length e
        simp at this
        omega
      obtain ⟨n, ec, n0, _⟩ := cell_w hb (3 + k)
      rw [show ((3 + k : Nat) : Int) = (3 : Int) + k by omega] at ec
      obtain ⟨m, em, hm, hin, hlm⟩ := prod15_eq hx nd (by omega) (n % 1000)
      obtain ⟨s, es, s0, s1⟩ := signed_eq (n := n / 1000) (m := 1000000000) (by decide) (by decide)
      have d3 := dDiv_int (i := n) (j := 1000) (by decide) (show Sz 12 1000 by unfold Sz; decide) (by decide)
      have m3 := dMod_int (i := n) (j := 1000) (by decide)
      have p9' := p9
      have la : (ps.map encQ).length < sizeLine := len_lt (by rw [List.length_map]; omega)
      refine ⟨_, ?_, ps ++ [(m, s)], some (.int ((3 : Int) + k)), some (.int n), rfl, ok.snoc hm hin (by omega) (by unfold Sz; omega), by simp [lp]⟩
      rw [show (ps ++ [(m, s)]).map encQ = ps.map encQ ++ [.tup [encM m, .int s]] by rw [List.map_append]; rfl]
      clear ok lp hm hin hlm s0 s1 h3 n0 hl nd hx e hb hpre h14 h0
      generalize ps.map encQ = P at *
      generalize xs.map encN = X at *
      unfold b__law_form_v8_1
      walk_at "go")
  obtain ⟨ρ', e1, ps, x6, x7, rfl, ok, lp⟩ := loop
  rw [List.length_range] at lp
  exact ⟨ps, x6, x7, e1, ok, by omega⟩
theorem one_N {x : List Nat} (hx : Nm x) {k p : Int} (h1 : 1 ≤ k) (h2 : k ≤ p) : Mono p [(x, k)] := ⟨fun q hq => by rw [List.mem_singleton.mp hq]; exact ⟨hx, h1, h2⟩, List.pairwise_singleton _ _, by simp⟩
theorem nil_N (p : Int) : Mono p [] := ⟨fun q hq => absurd hq List.not_mem_nil, List.Pairwise.nil, by simp⟩
theorem times15 {xs : List (List Nat)} (h3 : xs.length = 3) {f : List Tm} (hf : FQ xs 7 33 3 f) {gs : List Tm} {b : Nat} (hg : Ok xs 2 1 b gs) (gl : gs.length ≤ 3) (hb : b ≤ 110) :
    m__law_multiplied [eF f, eF (formOf gs)] = .ok (eF (tmF f (formOf gs))) ∧ F15 xs (tmF f (formOf gs)) ∧ (∀ q ∈ tmF f (formOf gs), Sz 290 q.2) ∧ (tmF f (formOf gs)).length ≤ 9 := by
  have g : FQ xs 2 (b + 2) 3 (formOf gs) := fq_of hg (by omega) gl
  have e := law_times_eq (by decide) (by decide) (by omega) hf g (by omega) (by decide)
  have t := FQ.tm (j := 4) (by omega) (by decide) hf (g.up (show (2 : Int) ≤ 7 by decide) (Nat.le_refl _) (Nat.le_refl _)) (by decide)
  have mo : ∀ q ∈ timesL f (formOf gs), Mono (7 + 2) q.1 := fun q hq => by
    unfold timesL at hq
    obtain ⟨r, hr, hq⟩ := List.mem_flatMap.mp hq
    obtain ⟨s, hs, rfl⟩ := List.mem_map.mp hq
    exact (mono_mul (hf.form.mono r hr) (g.form.mono s hs) (by decide) (by decide) (by have := hf.few r hr; have := g.few s hs; omega)).1
  refine ⟨e, ⟨(form_is mo).1, t.nin, fun q hq => by have := t.few q hq; omega, fun q hq => (t.sz q hq).mono (by omega), by have := t.len; omega⟩, fun q hq => (t.sz q hq).mono (by omega), t.len⟩
theorem form15_eq {ns : List Int} (hl : ns.length ≤ 63) (hb : ∀ z ∈ ns, Builtin.Int.intBits z ≤ 1048576) {xs : List (List Nat)} (hx : ∀ w ∈ xs, Nm w) (nd : xs.Nodup) (h3 : xs.length = 3) {P : D} {rt : Int} (hP : ∀ x ∈ xs, ∃ v, dIx P (encN x) = .ok (encX v) ∧ GR rt v) :
    ∃ f : List Tm, m__law_form_v8 [.scr ns, .lst (xs.map encN), P] = .ok (.tup (f.map encQ)) ∧ F15 xs f := by
  obtain ⟨way, ew, w0, _⟩ := cell_w hb 2
  replace ew : m__law_cell_v2 [.scr ns, .int 2] = .ok (.int way) := ew
  have m4 := dMod_int (i := way) (j := 4) (by decide)
  have d4 := dDiv_int (i := way) (j := 4) (by decide) (show Sz 5 4 by unfold Sz; decide) (by decide)
  have m3 := dMod_int (i := way / 4) (j := 3) (by decide)
  have d12 := dDiv_int (i := way) (j := 12) (by decide) (show Sz 5 12 by unfold Sz; decide) (by decide)
  have m12 := dMod_int (i := way / 12) (j := 3) (by decide)
  have b0 : 0 ≤ way % 4 := Int.emod_nonneg _ (by decide)
  have b1 : way % 4 < 4 := Int.emod_lt_of_pos _ (by decide)
  have mk4 : ∀ a b c d : D, mkLst [a, b, c, d] = .ok (.lst [a, b, c, d]) := fun a b c d => chk_pos (by show 4 ≤ sizeLine; decide)
  have mk3 : ∀ a b c : D, mkLst [a, b, c] = .ok (.lst [a, b, c]) := fun a b c => chk_pos (by show 3 ≤ sizeLine; decide)
  have mk2 : ∀ a b : D, mkLst [a, b] = .ok (.lst [a, b]) := fun a b => chk_pos (by show 2 ≤ sizeLine; decide)
  have mk1 : ∀ a : D, mkLst [a] = .ok (.lst [a]) := fun a => chk_pos (by show 1 ≤ sizeLine; decide)
  have mt2 : ∀ a b : D, mkTup [a, b] = .ok (.tup [a, b]) := fun a b => chk_pos (by show 2 ≤ sizeLine; decide)
  have mt1 : ∀ a : D, mkTup [a] = .ok (.tup [a]) := fun a => chk_pos (by show 1 ≤ sizeLine; decide)
  have mt0 : mkTup [] = .ok (.tup []) := chk_pos (by decide)
  have cl : cLen [.scr ns] = .ok (.int (ns.length : Nat)) := rfl
  have e14 : dIx (.lst [.int 14, .int 6, .int 6, .int 6]) (.int 0) = .ok (.int 14) := rfl
  by_cases w1 : way % 4 = 0
  · obtain ⟨ps, x6, x7, e1, ok, lp⟩ := pairs15 hl hb hx nd h3 14 (by decide) (by decide) (x2 := some P) (x3 := some (.int way))
    have mn := cMin_int 14 (ns.length : Int)
    have r := rng2_ok (i := 3) (j := min (14 : Int) ns.length) (by omega) (by omega) (by omega) (by omega)
    have ok9 : Ok xs 9 3 31 ps := ⟨fun q hq => ⟨fun p hp => ⟨((ok.mono q hq).nm p hp).1, ((ok.mono q hq).nm p hp).2.1, by have := ((ok.mono q hq).nm p hp).2.2; omega⟩, (ok.mono q hq).up, (ok.mono q hq).few⟩, ok.nin, ok.few, ok.sz⟩
    have e2 : m__law_sum [.lst (ps.map encQ)] = .ok (.tup ((formOf ps).map encQ)) := form_eq ok.mono (by have : (14 - 3 : Int).toNat = 11 := rfl; omega)
    have lp' : ps.length ≤ 11 := lp
    refine ⟨formOf ps, ?_, F15.of (by omega) ok9 (by omega) (by decide)⟩
    rw [w1] at m4
    clear ok ok9 lp lp' h3 hl nd hx hb hP b0 b1 w0 w1
    generalize ((List.range (min (14 : Int) ns.length - 3).toNat).map fun (n : Nat) => D.int ((3 : Int) + n)) = RR at *
    generalize formOf ps = F at *
    generalize xs.map encN = X at *
    generalize ps.map encQ = PS at *
    unfold m__law_form_v8 b__law_form_v8
    walk_at "go"
  · have w1' : (way % 4 = 0) = False := eq_false w1
    obtain ⟨ps, x6, x7, e1, ok, lp⟩ := pairs15 hl hb hx nd h3 6 (by decide) (by decide) (x2 := some P) (x3 := some (.int way))
    have mn := cMin_int 6 (ns.length : Int)
    have r := rng2_ok (i := 3) (j := min (6 : Int) ns.length) (by omega) (by omega) (by omega) (by omega)
    have lp' : ps.length ≤ 3 := lp
    have e6 : dIx (.lst [.int 14, .int 6, .int 6, .int 6]) (.int (way % 4)) = .ok (.int 6) := by
      have : way % 4 = 1 ∨ way % 4 = 2 ∨ way % 4 = 3 := by omega
      rcases this with e | e | e <;> (rw [e]; rfl)
    have e2 : m__law_sum [.lst (ps.map encQ)] = .ok (.tup ((formOf ps).map encQ)) := form_eq ok.mono (by omega)
    have fq : FQ xs 7 33 3 (formOf ps) := fq_of (j := 2) ok (by omega) lp'
    obtain ⟨x, hxs, ex⟩ := pickNR (l := xs) (i := way / 4 % 3) (Int.emod_nonneg _ (by decide)) (by rw [h3]; exact Int.emod_lt_of_pos _ (by decide))
    obtain ⟨⟨p, q, rr, s⟩, ev, ⟨⟨⟨zp, zq, zs⟩, zr⟩, hr0, hs0, _⟩⟩ := hP x hxs
    rw [show encX (p, q, rr, s) = .tup [.int p, .int q, .int rr, .int s] from rfl] at ev
    replace zp : Sz 31 p := zp
    replace zq : Sz 31 q := zq
    replace zs : Sz 31 s := zs
    replace zr : Sz 31 rr := zr
    have nx := hx x hxs
    by_cases w2 : way % 4 = 1
    · have w2' : (way % 4 = 1) = True := eq_true w2
      have og : Ok xs 2 1 40 [([(x, (1 : Int))], s), ([], 0 - p)] := by
        refine Ok.snoc (f := [([(x, (1 : Int))], s)]) (Ok.snoc (ok_nil _ _ _ _) (one_N nx (by decide) (by decide)) (fun r hr => by rw [List.mem_singleton.mp hr]; exact hxs) (by simp) (zs.mono (by decide))) (nil_N 2) (fun r hr => absurd hr List.not_mem_nil) (by simp) ?_
        unfold Sz at *; omega
      obtain ⟨e3, ff, fz, fl⟩ := times15 h3 fq og (by simp) (by decide)
      have e4 : m__law_sum [.lst [.tup [.tup [.tup [encN x, .int 1]], .int s], .tup [.tup [], .int (0 - p)]]] = .ok (eF (formOf [([(x, (1 : Int))], s), ([], 0 - p)])) := form_eq og.mono (by simp)
      refine ⟨_, ?_, ff⟩
      clear ok lp lp' h3 hl nd hx hb hP b0 b1 w0 fq og ff fz fl zp zq zs zr nx hr0 hs0 w1 w2 hxs
      generalize ((List.range (min (6 : Int) ns.length - 3).toNat).map fun (n : Nat) => D.int ((3 : Int) + n)) = RR at *
      generalize formOf [([(x, (1 : Int))], s), ([], 0 - p)] = GG at *
      generalize tmF (formOf ps) GG = TT at *
      generalize formOf ps = F at *
      generalize xs.map encN = X at *
      generalize ps.map encQ = PS at *
      generalize encN x = N at *
      unfold eF at *
      unfold m__law_form_v8 b__law_form_v8
      walk_at "go"
    · have w2' : (way % 4 = 1) = False := eq_false w2
      have c1 : CMulX s s := cmul_sz zs zs (by decide)
      have c2 : CMulX 2 p := cmul_sz (n := 2) (by unfold Sz; decide) zp (by decide)
      have z2 : Sz 33 (2 * p) := by unfold Sz at *; omega
      have c3 : CMulX (2 * p) s := cmul_sz z2 zs (by decide)
      have c4 : CMulX p p := cmul_sz zp zp (by decide)
      have c5 : CMulX q q := cmul_sz zq zq (by decide)
      have c6 : CMulX (q * q) rr := cmul_sz (zq.mul zq) zr (by decide)
      have og : Ok xs 2 1 100 [([(x, (2 : Int))], s * s), ([(x, (1 : Int))], 0 - 2 * p * s), ([], p * p - q * q * rr)] := by
        refine Ok.snoc (f := [([(x, (2 : Int))], s * s), ([(x, (1 : Int))], 0 - 2 * p * s)]) (Ok.snoc (f := [([(x, (2 : Int))], s * s)]) (Ok.snoc (ok_nil _ _ _ _) (one_N nx (by decide) (by decide)) (fun r hr => by rw [List.mem_singleton.mp hr]; exact hxs) (by simp) ((zs.mul zs).mono (by decide))) (one_N nx (by decide) (by decide)) (fun r hr => by rw [List.mem_singleton.mp hr]; exact hxs) (by simp) ?_) (nil_N 2) (fun r hr => absurd hr List.not_mem_nil) (by simp) ?_
        · have := (z2.mul zs).mono (show 33 + 31 ≤ 99 by decide)
          unfold Sz at *; omega
        · have y1 := (zp.mul zp).mono (show 31 + 31 ≤ 99 by decide)
          have y2 := ((zq.mul zq).mul zr).mono (show 31 + 31 + 31 ≤ 99 by decide)
          unfold Sz at *; omega
      obtain ⟨e3, ff, fz, fl⟩ := times15 h3 fq og (by simp) (by decide)
      have e4 : m__law_sum [.lst [.tup [.tup [.tup [encN x, .int 2]], .int (s * s)], .tup [.tup [.tup [encN x, .int 1]], .int (0 - 2 * p * s)], .tup [.tup [], .int (p * p - q * q * rr)]]] = .ok (eF (formOf [([(x, (2 : Int))], s * s), ([(x, (1 : Int))], 0 - 2 * p * s), ([], p * p - q * q * rr)])) := form_eq og.mono (by simp)
      by_cases w3 : way % 4 = 2
      · have w3' : (way % 4 = 2) = True := eq_true w3
        refine ⟨_, ?_, ff⟩
        clear ok lp lp' h3 hl nd hx hb hP b0 b1 w0 fq og ff fz fl zp zq zs zr nx hr0 hs0 w1 w2 hxs z2 w3
        generalize ((List.range (min (6 : Int) ns.length - 3).toNat).map fun (n : Nat) => D.int ((3 : Int) + n)) = RR at *
        generalize formOf [([(x, (2 : Int))], s * s), ([(x, (1 : Int))], 0 - 2 * p * s), ([], p * p - q * q * rr)] = GG at *
        generalize tmF (formOf ps) GG = TT at *
        generalize formOf ps = F at *
        generalize xs.map encN = X at *
        generalize ps.map encQ = PS at *
        generalize encN x = N at *
        unfold eF at *
        unfold m__law_form_v8 b__law_form_v8
        walk_at "go"
      · have w3' : (way % 4 = 2) = False := eq_false w3
        generalize formOf [([(x, (2 : Int))], s * s), ([(x, (1 : Int))], 0 - 2 * p * s), ([], p * p - q * q * rr)] = GG at *
        generalize hT : tmF (formOf ps) GG = TT at *
        have o5 : Ok xs 9 3 290 (TT ++ [([], way / 12 % 3 - 1)]) := Ok.snoc (f := TT) ⟨ff.form.mono, ff.nin, ff.few, fz⟩ (nil_N 9) (fun r hr => absurd hr List.not_mem_nil) (by simp) (by unfold Sz; omega)
        have e5 : m__law_sum [.lst ((TT ++ [([], way / 12 % 3 - 1)]).map encQ)] = .ok (.tup ((formOf (TT ++ [([], way / 12 % 3 - 1)])).map encQ)) := form_eq o5.mono (by rw [List.length_append]; have := ff.len; simp; omega)
        refine ⟨_, ?_, F15.of (by omega) o5 ?_ (by decide)⟩
        · rw [List.map_append, List.map_cons, List.map_nil] at e5
          have da := dAdd_L (xs := TT.map encQ) (ys := [encQ ([], way / 12 % 3 - 1)]) (by rw [List.length_map]; have := ff.len; simp; omega)
          have cT : cList [.tup (TT.map encQ)] = .ok (.lst (TT.map encQ)) := rfl
          rw [show encQ ([], way / 12 % 3 - 1) = .tup [.tup [], .int (way / 12 % 3 - 1)] from rfl] at e5 da
          clear ok lp lp' h3 hl nd hx hb hP b0 b1 w0 fq og ff fz fl zp zq zs zr nx hr0 hs0 w1 w2 hxs z2 w3 o5 hT
          generalize ((List.range (min (6 : Int) ns.length - 3).toNat).map fun (n : Nat) => D.int ((3 : Int) + n)) = RR at *
          generalize formOf (TT ++ [([], way / 12 % 3 - 1)]) = G2 at *
          generalize formOf ps = F at *
          generalize xs.map encN = X at *
          generalize ps.map encQ = PS at *
          generalize encN x = N at *
          unfold eF at *
          generalize TT.map encQ ++ [.tup [.tup [], .int (way / 12 % 3 - 1)]] = T2 at *
          unfold m__law_form_v8 b__law_form_v8
          walk_at "go"
        · rw [List.length_append]; simp; omega
theorem p36 : dPow (.int 10) (.int 36) = .ok (.int 1000000000000000000000000000000000000) := chk_pos ⟨by decide, by decide, by decide⟩
theorem p50 : dPow (.int 10) (.int 50) = .ok (.int 100000000000000000000000000000000000000000000000000) := chk_pos ⟨by decide, by decide, by decide⟩
theorem PtOk.put {rt : Int} {l : List (List Nat × N4)} (h : PtOk rt l) {x : List Nat} {v : N4} (hl : l.length ≤ 9) (g : GR rt v) : PtOk rt (PD.put l x v) ∧ putO (ptd l) (encN x) (encX v) = .ok (ptd (PD.put l x v)) ∧ (∀ y, mis l y = false → mis (PD.put l x v) y = false) ∧ mis (PD.put l x v) x = false ∧ (PD.put l x v).length ≤ l.length + 1 := by
  have ndp := put_nodup h.nd x v
  have gd : ∀ q ∈ PD.put l x v, GR rt q.2 := fun q hq => by
    have := (fnd_mem ndp).mpr (show (q.1, q.2) ∈ PD.put l x v from hq)
    rw [fnd_put] at this
    split at this
    · cases this; exact g
    · exact h.good _ ((fnd_mem h.nd).mp this)
  refine ⟨⟨ndp, by have := put_len l x v; omega, h.r0, h.rs, gd⟩, putO_F (ek := encN) (ev := encX) encN_inj flat_N h.nd (by omega) x v, fun y hy => ?_, ?_, put_len l x v⟩
  · unfold mis at *
    rw [fnd_put]
    split
    · rfl
    · exact hy
  · unfold mis
    rw [fnd_put, if_pos rfl]; rfl
theorem size15 {n : Int} : ∃ z : Int, dIx (.lst [.int 2, .int 9, .int 1000, .int 1000000]) (.int (n % 4)) = .ok (.int z) ∧ 1 ≤ z ∧ z ≤ 1000000 := by
  have : n % 4 = 0 ∨ n % 4 = 1 ∨ n % 4 = 2 ∨ n % 4 = 3 := by omega
  rcases this with e | e | e | e <;> (rw [e]; exact ⟨_, rfl, by decide, by decide⟩)
theorem point15_eq {ns : List Int} (hb : ∀ z ∈ ns, Builtin.Int.intBits z ≤ 1048576) {xs : List (List Nat)} (h3 : xs.length = 3) :
    ∃ (rt : Int) (l : List (List Nat × N4)), m__law_point_v3 [.lst (xs.map encN), .scr ns] = .ok (.tup [ptd l, .int rt]) ∧ PtOk rt l ∧ l.length ≤ 3 ∧ ∀ x ∈ xs, mis l x = false := by
  have b31 : ∀ z : Int, -1000000 ≤ z → z ≤ 1000000 → Sz 31 z := fun z h h' => by unfold Sz; omega
  have dv : ∀ (i j : Int), 0 < j → j < 2 ^ 200 → dDiv (.int i) (.int j) = .ok (.int (i / j)) := fun i j h0 h => dDiv_int (by omega) (show Sz 200 j by unfold Sz; omega) (by decide)
  have md : ∀ (i j : Int), 0 < j → dMod (.int i) (.int j) = .ok (.int (i % j)) := fun i j h => dMod_int h
  have mk4 : ∀ a b c d : D, mkLst [a, b, c, d] = .ok (.lst [a, b, c, d]) := fun a b c d => chk_pos (by show 4 ≤ sizeLine; decide)
  have mt4 : ∀ a b c d : D, mkTup [a, b, c, d] = .ok (.tup [a, b, c, d]) := fun a b c d => chk_pos (by show 4 ≤ sizeLine; decide)
  have loop : ∀ (rt : Int) (x3 : Option D), 0 ≤ rt → rt ≤ 1000000 → ∃ (l : List (List Nat × N4)) (y3 y6 y7 y8 y9 y10 : Option D), forL (gN 6) b__law_point_v3_1 ((List.range 3).map fun (k : Nat) => D.int k) [some (.lst (xs.map encN)), some (.scr ns), some (.lst [.int 2, .int 9, .int 1000, .int 1000000]), x3, some (.int rt), some (.dic []), none, none, none, none, none]
      = .nx [some (.lst (xs.map encN)), some (.scr ns), some (.lst [.int 2, .int 9, .int 1000, .int 1000000]), y3, some (.int rt), some (ptd l), y6, y7, y8, y9, y10] ∧ PtOk rt l ∧ l.length ≤ 3 ∧ ∀ x ∈ xs, mis l x = false := by
    intro rt x3 r0 r1
    obtain ⟨ρ', e, l, y3, y6, y7, y8, y9, y10, hρ, ok, ll, ms⟩ := forL_range (G := gN 6) (b := b__law_point_v3_1) (fun k ρ => ∃ (l : List (List Nat × N4)) (y3 y6 y7 y8 y9 y10 : Option D), ρ = [some (.lst (xs.map encN)), some (.scr ns), some (.lst [.int 2, .int 9, .int 1000, .int 1000000]), y3, some (.int rt), some (ptd l), y6, y7, y8, y9, y10] ∧ PtOk rt l ∧ l.length ≤ k ∧ ∀ x ∈ xs.take k, mis l x = false) 3
      (ρ := [some (.lst (xs.map encN)), some (.scr ns), some (.lst [.int 2, .int 9, .int 1000, .int 1000000]), x3, some (.int rt), some (.dic []), none, none, none, none, none])
      ⟨[], x3, none, none, none, none, none, rfl, ⟨by simp, by simp, r0, b31 _ (by omega) (by omega), fun q hq => absurd hq List.not_mem_nil⟩, by simp, fun x hx => by simp at hx⟩ (by
        rintro k ρ hk ⟨l, y3, y6, y7, y8, y9, y10, rfl, ok, ll, ms⟩
        obtain ⟨n, en, n0, n1⟩ := cell_w hb (14 + k)
        rw [show ((14 + k : Nat) : Int) = (14 : Int) + k by omega] at en
        obtain ⟨z, ez, z1, z2⟩ := size15 (n := n)
        obtain ⟨p, ep, p0, p1⟩ := signed_eq (n := n / 8) (m := z) (by omega) (by omega)
        obtain ⟨q, eq, q0, q1⟩ := signed_eq (n := n / 1000000000000000000000000000000000000) (m := z) (by omega) (by omega)
        have hkx : k < xs.length := by omega
        have e6 : dIx (.lst (xs.map encN)) (.int (k : Nat)) = .ok (encN xs[k]) := dIx_lst (by rw [List.getElem?_map, List.getElem?_eq_getElem hkx]; rfl)
        have tk : xs.take (k + 1) = xs.take k ++ [xs[k]] := by rw [List.take_succ, List.getElem?_eq_getElem hkx]; rfl
        have d1 := dv n 8 (by decide) (by decide)
        have d2 := dv n 1000000000000000000000000000000000000 (by decide) (by decide)
        have d3 := dv n 100000000000000000000 (by decide) (by decide)
        have d4 := dv n 4 (by decide) (by decide)
        have d5 := dv n 100000000000000000000000000000000000000000000000000 (by decide) (by decide)
        have m1 := md n 4 (by decide)
        have m2 := md (n / 100000000000000000000) z (by omega)
        have m3 := md (n / 4) 2 (by decide)
        have m4 := md (n / 100000000000000000000000000000000000000000000000000) 9 (by decide)
        have p20' := p20
        have p36' := p36
        have p50' := p50
        have s0 : 0 ≤ n / 100000000000000000000 % z := Int.emod_nonneg _ (by omega)
        have s1 : n / 100000000000000000000 % z < z := Int.emod_lt_of_pos _ (by omega)
        have fin : ∀ v : N4, GR rt v → (PtOk rt (put l xs[k] v) ∧ (put l xs[k] v).length ≤ k + 1 ∧ ∀ x ∈ xs.take (k + 1), mis (put l xs[k] v) x = false) ∧ putO (ptd l) (encN xs[k]) (encX v) = .ok (ptd (put l xs[k] v)) := fun v g => by
          obtain ⟨a, b, c, d, e⟩ := ok.put (x := xs[k]) (v := v) (by omega) g
          refine ⟨⟨a, by omega, fun x hx => ?_⟩, b⟩
          rw [tk] at hx
          rcases List.mem_append.mp hx with hx | hx
          · exact c x (ms x hx)
          · rw [List.mem_singleton.mp hx]; exact d
        have sS : Sz 31 (1 + n / 100000000000000000000 % z) := b31 _ (by omega) (by omega)
        by_cases c : n / 4 % 2 = 0
        · have c' : (n / 4 % 2 = 0) = True := eq_true c
          have y0 : 0 ≤ n / 100000000000000000000000000000000000000000000000000 % 9 := Int.emod_nonneg _ (by decide)
          have y1 : n / 100000000000000000000000000000000000000000000000000 % 9 < 9 := Int.emod_lt_of_pos _ (by decide)
          obtain ⟨f1, f2⟩ := fin (p, 0, n / 100000000000000000000000000000000000000000000000000 % 9, 1 + n / 100000000000000000000 % z) ⟨⟨⟨b31 p (by omega) (by omega), sz_zero 31, sS⟩, b31 (n / 100000000000000000000000000000000000000000000000000 % 9) (by omega) (by omega)⟩, y0, by show 0 < 1 + _; omega, .inl rfl⟩
          refine ⟨_, ?_, _, some (.int n), some (.int (k : Nat)), some (.int z), some (.int p), some (.int q), some (.int (1 + n / 100000000000000000000 % z)), rfl, f1⟩
          rw [show encX (p, 0, n / 100000000000000000000000000000000000000000000000000 % 9, 1 + n / 100000000000000000000 % z) = .tup [.int p, .int 0, .int (n / 100000000000000000000000000000000000000000000000000 % 9), .int (1 + n / 100000000000000000000 % z)] from rfl] at f2
          clear fin f1 y0 y1 sS s0 s1 tk c ok ll ms dv md b31 p0 p1 q0 q1 z1 z2 n0 n1 hb h3 r0 r1
          generalize ptd (put l xs[k] (p, 0, n / 100000000000000000000000000000000000000000000000000 % 9, 1 + n / 100000000000000000000 % z)) = L' at *
          unfold ptd at *
          generalize l.map (encE encN encX) = L at *
          generalize encN xs[k] = N at *
          generalize xs.map encN = X at *
          unfold b__law_point_v3_1
          walk_at "gos"
        · have c' : (n / 4 % 2 = 0) = False := eq_false c
          obtain ⟨f1, f2⟩ := fin (p, q, rt, 1 + n / 100000000000000000000 % z) ⟨⟨⟨b31 p (by omega) (by omega), b31 q (by omega) (by omega), sS⟩, b31 rt (by omega) (by omega)⟩, r0, by show 0 < 1 + _; omega, .inr rfl⟩
          refine ⟨_, ?_, _, some (.int n), some (.int (k : Nat)), some (.int z), some (.int p), some (.int q), some (.int (1 + n / 100000000000000000000 % z)), rfl, f1⟩
          rw [show encX (p, q, rt, 1 + n / 100000000000000000000 % z) = .tup [.int p, .int q, .int rt, .int (1 + n / 100000000000000000000 % z)] from rfl] at f2
          clear fin f1 sS s0 s1 tk c ok ll ms dv md b31 p0 p1 q0 q1 z1 z2 n0 n1 hb h3 r0 r1
          generalize ptd (put l xs[k] (p, q, rt, 1 + n / 100000000000000000000 % z)) = L' at *
          unfold ptd at *
          generalize l.map (encE encN encX) = L at *
          generalize encN xs[k] = N at *
          generalize xs.map encN = X at *
          unfold b__law_point_v3_1
          walk_at "gos")
    subst hρ
    exact ⟨l, y3, y6, y7, y8, y9, y10, e, ok, ll, fun x hx => ms x (by rw [List.take_of_length_le (by omega)]; exact hx)⟩
  obtain ⟨n, en, n0, n1⟩ := cell_w hb 1
  replace en : m__law_cell_v2 [.scr ns, .int 1] = .ok (.int n) := en
  obtain ⟨z, ez, z1, z2⟩ := size15 (n := n)
  have d1 := dv n 4 (by decide) (by decide)
  have m1 := md n 4 (by decide)
  have m2 := md (n / 4) (z + 1) (by omega)
  have d2 := dv n 1000000000000 (by decide) (by decide)
  have m3 := md (n / 1000000000000) 4 (by decide)
  have d3 := dv n 100000000000000000000 (by decide) (by decide)
  have m4 := md (n / 100000000000000000000) 1000 (by decide)
  have p6' := p6
  have p12' := p12
  have p20' := p20
  have s0 : 0 ≤ n / 100000000000000000000 % 1000 := Int.emod_nonneg _ (by decide)
  have s1 : n / 100000000000000000000 % 1000 < 1000 := Int.emod_lt_of_pos _ (by decide)
  have t0 : 0 ≤ n / 4 % (z + 1) := Int.emod_nonneg _ (by omega)
  have t1 : n / 4 % (z + 1) < z + 1 := Int.emod_lt_of_pos _ (by omega)
  have cl : cLen [.lst (xs.map encN)] = .ok (.int 3) := by
    show Out.ok (D.int ((xs.map encN).length : Nat)) = _
    rw [List.length_map, h3]; rfl
  have r1 : rng1 [.int 3] = .ok ((List.range 3).map fun (k : Nat) => .int k) := chk_pos (by decide)
  by_cases c : n / 1000000000000 % 4 = 1
  · have c' : (n / 1000000000000 % 4 = 1) = True := eq_true c
    have g1 : CMulX (n / 100000000000000000000 % 1000) (n / 100000000000000000000 % 1000) := cmul_sz (n := 20) (m := 20) (by unfold Sz; omega) (by unfold Sz; omega) (by decide)
    have nn : 0 ≤ n / 100000000000000000000 % 1000 * (n / 100000000000000000000 % 1000) := Int.mul_nonneg s0 s0
    have n2 : n / 100000000000000000000 % 1000 * (n / 100000000000000000000 % 1000) ≤ 1000000 := by
      have := Int.mul_le_mul (a := n / 100000000000000000000 % 1000) (b := n / 100000000000000000000 % 1000) (c := 1000) (d := 1000) (by omega) (by omega) s0 (by decide)
      omega
    obtain ⟨l, y3, y6, y7, y8, y9, y10, e, ok, ll, ms⟩ := loop _ (some (.int n)) nn n2
    refine ⟨_, l, ?_, ok, ll, ms⟩
    clear loop ok ll ms nn n2 s0 s1 t0 t1 z1 z2 n0 n1 b31 dv md h3 hb c
    generalize ((List.range 3).map fun (k : Nat) => D.int k) = RR at *
    generalize ptd l = L at *
    generalize xs.map encN = X at *
    unfold m__law_point_v3 b__law_point_v3
    rw [fnP_ap]
    walk_at "gos"
    rfl
  · have c' : (n / 1000000000000 % 4 = 1) = False := eq_false c
    obtain ⟨l, y3, y6, y7, y8, y9, y10, e, ok, ll, ms⟩ := loop (n / 4 % (z + 1)) (some (.int n)) t0 (by omega)
    refine ⟨_, l, ?_, ok, ll, ms⟩
    clear loop ok ll ms s0 s1 t0 t1 z1 z2 n0 n1 b31 dv md h3 hb c
    generalize ((List.range 3).map fun (k : Nat) => D.int k) = RR at *
    generalize ptd l = L at *
    generalize xs.map encN = X at *
    unfold m__law_point_v3 b__law_point_v3
    rw [fnP_ap]
    walk_at "gos"
    rfl
theorem plain_P15 : ∀ m : Mn, plainDs (m.map encP) = true
  | [] => rfl
  | p :: m => by rw [List.map_cons]; show (plainD (encP p) && plainDs (m.map encP)) = true; rw [plain_P15 m]; rfl
theorem plain_F15 : ∀ f : List Tm, plainDs (f.map encQ) = true
  | [] => rfl
  | q :: f => by
    rw [List.map_cons]
    show ((plainDs (q.1.map encP) && true) && plainDs (f.map encQ)) = true
    rw [plain_F15 f, plain_P15]; rfl
def z8 : List Nat := [122, 122, 122, 122, 122, 122, 122, 122]
theorem z8_eq : dMulS (.str "z") (.int 8) = .ok (encN z8) := by
  show chk _ (Out.ok (D.str _)) = _
  rw [chk_pos ⟨by decide +kernel, by decide, by decide⟩]
  exact congrArg (fun x => Out.ok (D.str x)) (by decide +kernel)
theorem law_true (ns : List Int) (hl : ns.length ≤ 63) (hb : ∀ z ∈ ns, Builtin.Int.intBits z ≤ 1048576) : m_law_v39 [.scr ns] = .ok (.bl true) := by
  obtain ⟨c, ec, c0, _⟩ := cell_w hb 0
  obtain ⟨a, b, d, en, ha, hbb, hd, n1, n2, n3, _, _, _⟩ := names_ok16 c0
  have hx : ∀ x ∈ [a, b, d], Nm x := fun x h => by
    rcases List.mem_cons.mp h with rfl | h
    · exact ha
    · rcases List.mem_cons.mp h with rfl | h
      · exact hbb
      · rw [List.mem_singleton.mp h]; exact hd
  have nd : [a, b, d].Nodup := by simp [n1, n2, n3]
  have h3 : [a, b, d].length = 3 := rfl
  replace en : m__law_names_v2 [.int c] = .ok (.lst ([a, b, d].map encN)) := en
  replace ec : m__law_cell_v2 [.scr ns, .int 0] = .ok (.int c) := ec
  generalize [a, b, d] = xs at *
  obtain ⟨rt, l, ep, ok, ll, ms⟩ := point15_eq hb (xs := xs) h3
  obtain ⟨f, ef, ff⟩ := form15_eq hl hb hx nd h3 (P := ptd l) (rt := rt) fun x h => by
    obtain ⟨q1, q2, _⟩ := pt_there ok (ms x h)
    exact ⟨_, dIx_F encN_inj flat_N q1, q2⟩
  have r1 := right15_eq ok ms ff
  obtain ⟨n, ec17, m0, _⟩ := cell_w hb 17
  replace ec17 : m__law_cell_v2 [.scr ns, .int 17] = .ok (.int n) := ec17
  obtain ⟨x, hxs, ex⟩ := pickNR (l := xs) (i := n % 3) (Int.emod_nonneg _ (by decide)) (by rw [h3]; exact Int.emod_lt_of_pos _ (by decide))
  obtain ⟨p, ep9, p0, p1⟩ := signed_eq (n := n / 3) (m := 9) (by decide) (by decide)
  have q0 : 0 ≤ n / 60 % 3 := Int.emod_nonneg _ (by decide)
  have q1 : n / 60 % 3 < 3 := Int.emod_lt_of_pos _ (by decide)
  have s0 : 0 ≤ n / 180 % 5 := Int.emod_nonneg _ (by decide)
  have s1 : n / 180 % 5 < 5 := Int.emod_lt_of_pos _ (by decide)
  have b31 : ∀ z : Int, -1000 ≤ z → z ≤ 1000 → Sz 31 z := fun z h h' => by unfold Sz; omega
  obtain ⟨ok1, u1, ms1, _, ll1⟩ := ok.put (x := x) (v := (p, n / 60 % 3, rt, 1 + n / 180 % 5)) (by omega) ⟨⟨⟨b31 p (by omega) (by omega), b31 (n / 60 % 3) (by omega) (by omega), b31 (1 + n / 180 % 5) (by omega) (by omega)⟩, ok.rs⟩, ok.r0, by show 0 < 1 + _; omega, .inr rfl⟩
  obtain ⟨ok2, u2, ms2, _, ll2⟩ := ok1.put (x := z8) (v := (1, 0, 0, 1)) (by omega) ⟨⟨⟨b31 _ (by decide) (by decide), b31 _ (by decide) (by decide), b31 _ (by decide) (by decide)⟩, b31 _ (by decide) (by decide)⟩, by decide, by decide, .inl rfl⟩
  have r2 := right15_eq ok2 (fun x h => ms2 x (ms1 x (ms x h))) ff
  have z8' := z8_eq
  have bo := eBor_ap
  have nx := @nox_ok D
  have pl1 : plainR false (.tup (f.map encQ)) = true := plain_F15 f
  have pl2 : plainR false (.bl true) = true := rfl
  rw [show encX (p, n / 60 % 3, rt, 1 + n / 180 % 5) = .tup [.int p, .int (n / 60 % 3), .int rt, .int (1 + n / 180 % 5)] from rfl] at u1
  rw [show encX (1, 0, 0, 1) = .tup [.int 1, .int 0, .int 0, .int 1] from rfl] at u2
  have mt4 : ∀ a b c d : D, mkTup [a, b, c, d] = .ok (.tup [a, b, c, d]) := fun a b c d => chk_pos (by show 4 ≤ sizeLine; decide)
  have f1 := dDiv_int (i := n) (j := 3) (by decide) (show Sz 5 3 by unfold Sz; decide) (by decide)
  have f2 := dDiv_int (i := n) (j := 60) (by decide) (show Sz 7 60 by unfold Sz; decide) (by decide)
  have f3 := dDiv_int (i := n) (j := 180) (by decide) (show Sz 8 180 by unfold Sz; decide) (by decide)
  have f4 := dMod_int (i := n) (j := 3) (by decide)
  have f5 := dMod_int (i := n / 60) (j := 3) (by decide)
  have f6 := dMod_int (i := n / 180) (j := 5) (by decide)
  have sp : (sSetPr 2 3 (eA m__law_point_v3 (aC (eV 1) (aC (eV 0) aN)))) [some (.scr ns), some (.lst (xs.map encN)), none, none, none, none] = .nx [some (.scr ns), some (.lst (xs.map encN)), some (ptd l), some (.int rt), none, none] := by
    rw [sSetPr_ap]
    show oS (m__law_point_v3 [.lst (xs.map encN), .scr ns]) _ = _
    rw [ep]; rfl
  clear ok ok1 ok2 ms ms1 ms2 ll ll1 ll2 ff hx nd h3 hb hl c0 n1 n2 n3 ha hbb hd m0 hxs p0 p1 q0 q1 s0 s1 b31 ep
  generalize ptd (put (put l x (p, n / 60 % 3, rt, 1 + n / 180 % 5)) z8 (1, 0, 0, 1)) = P2 at *
  unfold ptd at *
  generalize (put l x (p, n / 60 % 3, rt, 1 + n / 180 % 5)).map (encE encN encX) = P1 at *
  generalize l.map (encE encN encX) = P0 at *
  generalize f.map encQ = F at *
  generalize xs.map encN = X at *
  generalize encN x = N at *
  generalize encN z8 = Z8 at *
  unfold m_law_v39 b_law_v39 b_law_v39_t1 b_law_v39_t2 b_law_v39_t3 b_law_v39_t4 b_law_v39_t5 b_law_v39_t6 b_law_v39_t7
  walk_at "gos"
end PD
open PySem PySem.W PyProof.Rows
set_option maxHeartbeats 0 in
theorem PySem.Challenge.cw_realsay_k15_the_sign_of_a_form_holds : PySem.Challenge.rw_realsay_k15_the_sign_of_a_form.Holds := by
  w_on; o_law; k_head; (case hw => w_witness2)
  k_fill
  refine L2.walk_ofB (l := PySem.Challenge.rw_realsay_k15_the_sign_of_a_form) (n := 63) (k := 5) (x := "_law_script") (CX := fun w => L2.CX PySem.Challenge.rw_realsay_k15_the_sign_of_a_form.prog w) (sp := fun w => PD.spLaw _) rfl (by decide) rfl ⟨rfl, by decide, by decide⟩ (fun w h Y => PySem.W.kIn_of Y) ?F (fun _ _ a ns hl hb _ hS => ⟨a, ns, rfl, hS, hl, hb, fun _ => rfl⟩) (fun w H s e s' h => PD.cx_no h)
  case F =>
    intro w mg fa h KX G hmg
    refine' PD.all_mk KX G hmg ?a0 ?l0 ?c0 ?k0 ?a1 ?l1 ?c1 ?k1 ?a2 ?l2 ?c2 ?k2 ?a3 ?l3 ?c3 ?k3 ?a4 ?l4 ?c4 ?k4 ?a5 ?l5 ?c5 ?k5 ?a6 ?l6 ?c6 ?k6 ?a7 ?l7 ?c7 ?k7 ?a8 ?l8 ?c8 ?k8 ?a9 ?l9 ?c9 ?k9 ?a10 ?l10 ?c10 ?k10 ?a11 ?l11 ?c11 ?k11 ?a12 ?l12 ?c12 ?k12 ?a13 ?l13 ?c13 ?k13 ?a14 ?l14 ?c14 ?k14 ?a15 ?l15 ?c15 ?k15 ?a16 ?l16 ?c16 ?k16 ?a17 ?l17 ?c17 ?k17 ?a18 ?l18 ?c18 ?k18 ?a19 ?l19 ?c19 ?k19 ?a20 ?l20 ?c20 ?k20 ?a21 ?l21 ?c21 ?k21 ?z_bool ?z_dict ?z_int ?z_isinstance ?z_len ?z_list ?z_max ?z_min ?z_range ?z_sorted ?z_tuple PD.law_true
    (case a0 => k_is); (case l0 => k_is); (case c0 => k_is); (case k0 => k_is); (case a1 => k_is); (case l1 => k_is); (case c1 => k_is); (case k1 => k_is)
    (case a2 => k_is); (case l2 => k_is); (case c2 => k_is); (case k2 => k_is); (case a3 => k_is); (case l3 => k_is); (case c3 => k_is); (case k3 => k_is)
    (case a4 => k_is); (case l4 => k_is); (case c4 => k_is); (case k4 => k_is); (case a5 => k_is); (case l5 => k_is); (case c5 => k_is); (case k5 => k_is)
    (case a6 => k_is); (case l6 => k_is); (case c6 => k_is); (case k6 => k_is); (case a7 => k_is); (case l7 => k_is); (case c7 => k_is); (case k7 => k_is)
    (case a8 => k_is); (case l8 => k_is); (case c8 => k_is); (case k8 => k_is); (case a9 => k_is); (case l9 => k_is); (case c9 => k_is); (case k9 => k_is)
    (case a10 => k_is); (case l10 => k_is); (case c10 => k_is); (case k10 => k_is); (case a11 => k_is); (case l11 => k_is); (case c11 => k_is); (case k11 => k_is)
    (case a12 => k_is); (case l12 => k_is); (case c12 => k_is); (case k12 => k_is); (case a13 => k_is); (case l13 => k_is); (case c13 => k_is); (case k13 => k_is)
    (case a14 => k_is); (case l14 => k_is); (case c14 => k_is); (case k14 => k_is); (case a15 => k_is); (case l15 => k_is); (case c15 => k_is); (case k15 => k_is)
    (case a16 => k_is); (case l16 => k_is); (case c16 => k_is); (case k16 => k_is); (case a17 => k_is); (case l17 => k_is); (case c17 => k_is); (case k17 => k_is)
    (case a18 => k_is); (case l18 => k_is); (case c18 => k_is); (case k18 => k_is); (case a19 => k_is); (case l19 => k_is); (case c19 => k_is); (case k19 => k_is)
    (case a20 => k_is); (case l20 => k_is); (case c20 => k_is); (case k20 => k_is); (case a21 => k_is); (case l21 => k_is); (case c21 => k_is); (case k21 => k_is)
    (case z_bool => k_is); (case z_dict => k_is); (case z_int => k_is); (case z_isinstance => k_is); (case z_len => k_is); (case z_list => k_is); (case z_max => k_is); (case z_min => k_is)
    (case z_range => k_is); (case z_sorted => k_is); (case z_tuple => k_is)
