import PyProof.Rows.All
import Wide.All
import OpenK.AllK
import Wide.FinOn
import PyProof.EqAt
import PyProof.EqKinds
import PyProof.TupleCall
import PyProof.TupleKey
import PyProof.DictRoadsH
import PyProof.DictMoreH
import PyProof.P3Eq
import HandS.ForMost
import HandS.ForExc
import HandS.Wide
import HandS.WideBits
import HandS.EndBits
import HandS.IsInst
import HandS.CallSlots
import HandS.NoneIn
import HandS.TupAny
import KE.SortData
import HandS.TupLe
import HandS.Conv
import HandS.More
import HandS.SetKeys
import HandS.Iter
import HandS.Rev
import HandS.Dict
import HandS.Deep
import PySem.Challenge.RW_realsay_k44_the_line
set_option Elab.async false
set_option linter.all false
set_option maxRecDepth 100000
set_option maxHeartbeats 4000000
namespace PD
open PySem PySem.Spec L2
open PyProof.Rows hiding St

/-! ## keys: whole numbers, texts, tuples of keys -/
mutual
def keyP : PyData → Bool
  | .int _ => true
  | .str x => PyData.strOk x
  | .tuple xs => keysP xs
  | _ => false
def keysP : List PyData → Bool
  | [] => true
  | x :: xs => keyP x && keysP xs
end
mutual
def hashP (w : World) : PyData → Int
  | .int i => hashInt i
  | .str x => hashStr w x
  | .tuple xs => reduceHash (Builtin.Tuple.tupleHashOf (hashesP w xs))
  | _ => 0
def hashesP (w : World) : List PyData → List Int
  | [] => []
  | x :: xs => hashP w x :: hashesP w xs
end
mutual
def drawsP : PyData → Nat
  | .tuple xs => drawsAP xs + 1
  | _ => 1
def drawsAP : List PyData → Nat
  | [] => 0
  | x :: xs => drawsP x + drawsAP xs
end
mutual
theorem keyP_lay : ∀ d : PyData, keyP d = true → d.canLay0 = true
  | .int _, _ => rfl
  | .str _, h => h
  | .tuple xs, h => keysP_lay xs h
  | .none, h => nomatch h
  | .bool _, h => nomatch h
  | .list _, h => nomatch h
  | .dict _, h => nomatch h
theorem keysP_lay : ∀ xs : List PyData, keysP xs = true → PyData.canLayAll0 xs = true
  | [], _ => rfl
  | x :: xs, h => by
    have h' : keyP x = true ∧ keysP xs = true := by simpa [keysP] using h
    simp [PyData.canLayAll0, keyP_lay x h'.1, keysP_lay xs h'.2]
end
mutual
theorem eqv_key : ∀ x y : PyData, keyP x = true → keyP y = true → (PyData.eqv x y = true ↔ x = y)
  | .int a, .int b, _, _ => by simp [PyData.eqv]
  | .int a, .str b, _, _ => by simp [PyData.eqv]
  | .int a, .tuple b, _, _ => by simp [PyData.eqv]
  | .str a, .int b, _, _ => by simp [PyData.eqv]
  | .str a, .str b, _, _ => by simp [PyData.eqv]
  | .str a, .tuple b, _, _ => by simp [PyData.eqv]
  | .tuple a, .int b, _, _ => by simp [PyData.eqv]
  | .tuple a, .str b, _, _ => by simp [PyData.eqv]
  | .tuple a, .tuple b, h, k => by
    rw [PyData.eqv, eqvAll_key a b h k]
    exact ⟨fun e => by rw [e], fun e => by cases e; rfl⟩
  | .none, _, h, _ => nomatch h
  | .bool _, _, h, _ => nomatch h
  | .list _, _, h, _ => nomatch h
  | .dict _, _, h, _ => nomatch h
  | .int _, .none, _, h => nomatch h
  | .int _, .bool _, _, h => nomatch h
  | .int _, .list _, _, h => nomatch h
  | .int _, .dict _, _, h => nomatch h
  | .str _, .none, _, h => nomatch h
  | .str _, .bool _, _, h => nomatch h
  | .str _, .list _, _, h => nomatch h
  | .str _, .dict _, _, h => nomatch h
  | .tuple _, .none, _, h => nomatch h
  | .tuple _, .bool _, _, h => nomatch h
  | .tuple _, .list _, _, h => nomatch h
  | .tuple _, .dict _, _, h => nomatch h
theorem eqvAll_key : ∀ xs ys : List PyData, keysP xs = true → keysP ys = true → (PyData.eqvAll xs ys = true ↔ xs = ys)
  | [], [], _, _ => by simp [PyData.eqvAll]
  | [], _ :: _, _, _ => by simp [PyData.eqvAll]
  | _ :: _, [], _, _ => by simp [PyData.eqvAll]
  | x :: xs, y :: ys, h, k => by
    have h' : keyP x = true ∧ keysP xs = true := by simpa [keysP] using h
    have k' : keyP y = true ∧ keysP ys = true := by simpa [keysP] using k
    rw [PyData.eqvAll, Bool.and_eq_true, eqv_key x y h'.1 k'.1, eqvAll_key xs ys h'.2 k'.2]
    simp
end
section
variable {h h' : Heap}
mutual
theorem reads_keep (k : ∀ a o, h.get? a = some o → o.cls = .type "tuple" → h'.get? a = some o) : ∀ (d : PyData) (v : Value) (as : List Addr), keyP d = true → Reads h v d as → Reads h' v d as
  | .int _, _, _, _, r => by cases r; exact .int _ _
  | .str _, _, _, _, r => by cases r; exact .str _ _
  | .tuple xs, _, _, z, r => by
    cases r with
    | tuple h1 h2 h3 h4 => exact .tuple (k _ _ h1 h2) h2 h3 (readsAll_keep k xs _ _ z h4)
  | .none, _, _, z, _ => nomatch z
  | .bool _, _, _, z, _ => nomatch z
  | .list _, _, _, z, _ => nomatch z
  | .dict _, _, _, z, _ => nomatch z
theorem readsAll_keep (k : ∀ a o, h.get? a = some o → o.cls = .type "tuple" → h'.get? a = some o) : ∀ (xs : List PyData) (vs : List Value) (as : List Addr), keysP xs = true → ReadsAll h vs xs as → ReadsAll h' vs xs as
  | [], _, _, _, r => by cases r; exact .nil
  | x :: xs, _, _, z, r => by
    have z' : keyP x = true ∧ keysP xs = true := by simpa [keysP] using z
    cases r with
    | cons r1 r2 => exact .cons (reads_keep k x _ _ z'.1 r1) (readsAll_keep k xs _ _ z'.2 r2)
end
end
theorem keysP_mem : ∀ {xs : List PyData}, keysP xs = true → ∀ x ∈ xs, keyP x = true
  | [], _, x, h => nomatch h
  | y :: xs, z, x, h => by
    have z' : keyP y = true ∧ keysP xs = true := by simpa [keysP] using z
    rcases List.mem_cons.mp h with rfl | h
    · exact z'.1
    · exact keysP_mem z'.2 x h
theorem depth_mem : ∀ {ks : List PyData} {k : PyData}, k ∈ ks → k.depth ≤ PyData.depthAll ks
  | y :: ys, k, km => by
    simp only [PyData.depthAll]
    rcases List.mem_cons.mp km with rfl | q
    · exact Nat.le_max_left _ _
    · exact Nat.le_trans (depth_mem q) (Nat.le_max_right _ _)
theorem hashes_snoc (w : World) (y : PyData) : ∀ l : List PyData, hashesP w (l ++ [y]) = hashesP w l ++ [hashP w y]
  | [] => rfl
  | z :: l => by simp only [List.cons_append, hashesP, hashes_snoc w y l]
theorem draws_snoc (y : PyData) : ∀ l : List PyData, drawsAP (l ++ [y]) = drawsAP l + drawsP y
  | [] => by simp [drawsAP]
  | z :: l => by simp only [List.cons_append, drawsAP, draws_snoc y l, Nat.add_assoc]
theorem reads_list {h h' : Heap} {n : Nat} (ih : ∀ (d' : PyData) (v : Value) (as : List Addr), d'.depth ≤ n → keyP d' = true → Reads h v d' as → Reads h' v d' as) : ∀ {xs : List PyData} {vs : List Value} {as : List Addr}, PyData.depthAll xs ≤ n → keysP xs = true → ReadsAll h vs xs as → ReadsAll h' vs xs as
  | [], _, _, _, _, r => by cases r; exact .nil
  | x :: xs, _, _, hn, hk, r => by
    have q : keyP x = true ∧ keysP xs = true := by simpa [keysP] using hk
    simp only [PyData.depthAll] at hn
    cases r with
    | cons r1 r2 => exact .cons (ih x _ _ (Nat.le_trans (Nat.le_max_left _ _) hn) q.1 r1) (reads_list ih (Nat.le_trans (Nat.le_max_right _ _) hn) q.2 r2)

section
variable {prog : Program} {w : World}
/-- hash(key) -/
theorem hash_key (n : Nat) : ∀ (d : PyData) (A : Around) (E : Value → Shared → Prop) (s : Shared) (v : Value) (as : List Addr) (Q : Int → Shared → Prop), d.depth ≤ n → keyP d = true → A.units + d.depth < cLine → Reads s.heap v d as →
    Q (hashP w d) { s with toks := s.toks + drawsP d } → wpAny (model prog w) A (pyHash v) Q E s := by
  induction n with
  | zero =>
    intro d A E s v as Q hn hk hu r h
    cases r with
    | int => exact wpAny_pyHash_int h
    | str => exact wpAny_pyHash_str h
    | tuple h1 h2 h3 h4 => simp [PyData.depth] at hn
    | none => exact nomatch hk
    | bool => exact nomatch hk
    | list => exact nomatch hk
    | dict => exact nomatch hk
  | succ n ih =>
    intro d A E s v as Q hn hk hu r h
    cases r with
    | int => exact wpAny_pyHash_int h
    | str => exact wpAny_pyHash_str h
    | none => exact nomatch hk
    | bool => exact nomatch hk
    | list => exact nomatch hk
    | dict => exact nomatch hk
    | @tuple a o items m ks as ho hc hd hi =>
    have hd' : PyData.depthAll ks ≤ n := by simpa [PyData.depth] using hn
    have hu' : A.units + (PyData.depthAll ks + 1) < cLine := by simpa [PyData.depth] using hu
    have hT : s.TypeIs (.ref a) "tuple" := ⟨o, ho, hc⟩
    unfold pyHash
    first | unfold pyHashByItsType | skip
    first | refine wpAny_bind (wpAny_cRoomFor_or (.inr (by omega)) ?_) | skip
    refine wpAny_bind (wpAny_specialOf hT F.slot_tuple_hash.lookup ?_)
    show wpAny _ _ (if (some (Value.builtin "tuple.__hash__") == some Value.none) = true then _ else _) Q E s
    rw [if_neg (by rw [beq_builtin_none]; exact Bool.false_ne_true)]
    refine wpAny_bind (wpAny_specialOf hT F.slot_tuple_hash.lookup ?_)
    show wpAny _ _ (callSpecialIfBoundUnlessNone? (.ref a) "__hash__" _ >>= _) Q E s
    refine wpAny_bind (wpAny_callSpecialIfBoundUnlessNone?_slot hT F.slot_tuple_hash (wpAny_call_entry F.slot_tuple_hash hT F.entry_tuple_hash ?_ (F.args_tuple_hash_1 _)))
    show wpAny _ _ (Builtin.Tuple.tupleItemsOf (.ref a) >>= _) _ _ s
    refine wpAny_bind (wpAny_tupleItemsOf ho hd ?_)
    refine wpAny_bind ?_
    rw [← Array.forIn_toList]
    refine wpAny_forIn_list _
      (fun rest (b : Array Int) s' => ∃ done left as2, ks = done ++ left ∧ ReadsAll s.heap rest left as2 ∧ b.toList = hashesP w done ∧ s' = { s with toks := s.toks + drawsAP done })
      _ ?_ ?_ _ _ ⟨[], ks, as, rfl, hi, rfl, rfl⟩
    · rintro x rest b s' ⟨done, left, as2, e, hl, hb, rfl⟩
      cases hl with
      | @cons _ _ k ks' bs cs h1 hl' =>
        have km : k ∈ ks := by rw [e]; simp
        have kk : keyP k = true := keysP_mem hk k km
        have kd : k.depth ≤ PyData.depthAll ks := depth_mem km
        refine wpAny_bind (ih k _ _ _ _ _ _ (Nat.le_trans kd hd') kk ?_ h1 ?_)
        · show A.units + 1 + k.depth < cLine
          omega
        · first
            | exact wpAny_pure ⟨done ++ [k], ks', cs, by rw [e]; simp, hl', by rw [hashes_snoc]; simp [hb], by rw [draws_snoc]; simp [Nat.add_assoc]⟩
            | exact wpAny_bind (wpAny_pure (wpAny_pure ⟨done ++ [k], ks', cs, by rw [e]; simp, hl', by rw [hashes_snoc]; simp [hb], by rw [draws_snoc]; simp [Nat.add_assoc]⟩))
    · rintro b s' ⟨done, left, as2, e, hl, hb, rfl⟩
      cases hl
      rw [List.append_nil] at e
      subst e
      have h : Q (reduceHash (Builtin.Tuple.tupleHashOf (hashesP w ks))) { s with toks := s.toks + (drawsAP ks + 1) } := h
      show wpAny _ _ (retInt (Builtin.Tuple.tupleHashOf b.toList)) _ _ _
      rw [hb]
      refine wpAny_ret_mkInt ?_
      show wpAny _ _ (if (decide (-(2 : Int) ^ 63 ≤ Builtin.Tuple.tupleHashOf (hashesP w ks)) && decide (Builtin.Tuple.tupleHashOf (hashesP w ks) < 2 ^ 63)) = true then _ else _) Q E _
      unfold reduceHash at h
      by_cases hr : (decide (-(2 : Int) ^ 63 ≤ Builtin.Tuple.tupleHashOf (hashesP w ks)) && decide (Builtin.Tuple.tupleHashOf (hashesP w ks) < 2 ^ 63)) = true
      · rw [if_pos hr]
        rw [if_pos hr] at h
        exact wpAny_pure (by simpa [Nat.add_assoc] using h)
      · rw [if_neg hr]
        rw [if_neg hr] at h
        exact wpAny_bind (wpAny_rule (wpAny_pure (by simpa [Nat.add_assoc] using h)))
/-- a key's == is quiet -/
theorem quiet_key (n : Nat) : ∀ (d : PyData) (A : Around) (E : Value → Shared → Prop) (s : Shared) (v : Value) (as : List Addr) (Q : Bool → Shared → Prop), d.depth ≤ n → keyP d = true → Reads s.heap v d as → Q true s →
    wpAny (model prog w) A (eqIsQuiet n v) Q E s := by
  induction n with
  | zero =>
    intro d A E s v as Q hn hk r h
    cases r with
    | int => rw [eqIsQuiet_byValue _ rfl]; exact wpAny_pure h
    | str => rw [eqIsQuiet_byValue _ rfl]; exact wpAny_pure h
    | tuple h1 h2 h3 h4 => simp [PyData.depth] at hn
    | none => exact nomatch hk
    | bool => exact nomatch hk
    | list => exact nomatch hk
    | dict => exact nomatch hk
  | succ n ih =>
    intro d A E s v as Q hn hk r h
    cases r with
    | int => rw [eqIsQuiet_byValue _ rfl]; exact wpAny_pure h
    | str => rw [eqIsQuiet_byValue _ rfl]; exact wpAny_pure h
    | none => exact nomatch hk
    | bool => exact nomatch hk
    | list => exact nomatch hk
    | dict => exact nomatch hk
    | @tuple a o items m ks as ho hc hd hi =>
    have hd' : PyData.depthAll ks ≤ n := by simpa [PyData.depth] using hn
    have hT : s.TypeIs (.ref a) "tuple" := ⟨o, ho, hc⟩
    unfold eqIsQuiet
    refine wpAny_bind (wpAny_specialOf hT F.slot_tuple_eq.lookup ?_)
    show wpAny _ _ (isInstance (.ref a) (.type "tuple") >>= _) _ _ s
    refine wpAny_bind (wpAny_isInstance hT isSubtype_tuple_tuple ?_)
    simp only [Bool.not_true, Bool.false_eq_true, if_false]
    refine wpAny_bind (wpAny_seqItems ho hd ?_)
    refine wpAny_bind ?_
    show wpAny _ _ (forIn items _ _) _ _ s
    rw [← Array.forIn_toList]
    refine wpAny_forIn_list _ (fun rest r s' => r.1 = none ∧ s' = s ∧ ∃ left as2, ReadsAll s.heap rest left as2 ∧ ∀ k ∈ left, k ∈ ks) _ ?_ ?_ _ _ ⟨rfl, rfl, ks, as, hi, fun _ q => q⟩
    · rintro v rest r s' ⟨hr, rfl, left, as2, hl, hm⟩
      cases hl with
      | @cons _ _ k ks' bs cs h1 hl' =>
        have km : k ∈ ks := hm k List.mem_cons_self
        have kk : keyP k = true := keysP_mem hk k km
        have kd : k.depth ≤ PyData.depthAll ks := depth_mem km
        refine wpAny_bind (ih k _ _ _ _ _ _ (Nat.le_trans kd hd') kk h1 ?_)
        simp only [Bool.not_true, Bool.false_eq_true, if_false]
        exact wpAny_pure ⟨rfl, rfl, ks', cs, hl', fun y q => hm y (List.mem_cons_of_mem _ q)⟩
    · rintro ⟨r1, r2⟩ s' ⟨hr, rfl, _⟩
      simp only at hr
      subst hr
      exact wpAny_pure h
end
noncomputable instance : DecidableEq PyData := Classical.typeDecidableEq _
/-- a key of a dict: a tuple of keys, at most eight within one another -/
structure TKey (d : PyData) : Prop where
  tup : ∃ xs, d = .tuple xs
  key : keyP d = true
  dep : d.depth ≤ 8
theorem of_same {h h' : Heap} {d : Addr} {o : Obj} {es ep} (ho : h.get? d = some o) (hd : o.data = .dict es ep) (hs : Heap.SameBut d h h') {a : Addr} {o' : Obj} {xs n} (e : h.get? a = some o') (z : o'.data = .seq xs n) : h'.get? a = some o' := by
  have hne : a ≠ d := by
    rintro rfl
    rw [ho] at e; cases e
    rw [hd] at z; exact nomatch z
  exact (hs.2 a hne).trans e
noncomputable def deepKind (prog : Program) (w : World) : HeapKind prog w PyData where
  is := fun h k a => TKey k ∧ ∃ as, Reads h (.ref a) k as
  hash := hashP w
  draws := drawsP
  room := fun A => A.units + 8 < cLine
  inj := fun ⟨k, as, r⟩ ⟨k', as', r'⟩ => SeqAt.Reads.unique _ _ _ _ _ (keyP_lay _ k.key) r r'
  keeps := fun {h h' k a d o es ep} ⟨z, as, r⟩ ho hd hs => ⟨z, as, by
    have key : ∀ (n : Nat) (d' : PyData) (v : Value) (as : List Addr), d'.depth ≤ n → keyP d' = true → Reads h v d' as → Reads h' v d' as := by
      intro n
      induction n with
      | zero =>
        intro d' v as hn hk r
        cases r with
        | int => exact .int _ _
        | str => exact .str _ _
        | tuple h1 h2 h3 h4 => simp [PyData.depth] at hn
        | none => exact nomatch hk
        | bool => exact nomatch hk
        | list => exact nomatch hk
        | dict => exact nomatch hk
      | succ n ih =>
        intro d' v as hn hk r
        cases r with
        | int => exact .int _ _
        | str => exact .str _ _
        | tuple h1 h2 h3 h4 => exact .tuple (of_same ho hd hs h1 h3) h2 h3 (reads_list ih (by simpa [PyData.depth] using hn) hk h4)
        | none => exact nomatch hk
        | bool => exact nomatch hk
        | list => exact nomatch hk
        | dict => exact nomatch hk
    exact key _ k _ _ (Nat.le_refl _) z.key r⟩
  pyHash := fun hu ⟨z, as, r⟩ h => hash_key _ _ _ _ _ _ _ _ (Nat.le_refl _) z.key (by have := z.dep; omega) r h
  eqBool := fun {A E s x y a b Q} hu ⟨z, as, r⟩ ⟨z', as', r'⟩ h => by
    refine SeqAt.eqAt_reads x y A s _ _ _ _ r r' (keyP_lay _ z.key) (keyP_lay _ z'.key) ?_ prog w E Q ?_
    · have h1 := z.dep
      have h2 : min x.depth y.depth ≤ x.depth := Nat.min_le_left _ _
      omega
    · have e : PyData.eqv x y = decide (x = y) := by
        by_cases q : x = y
        · rw [decide_eq_true q, (eqv_key x y z.key z'.key).mpr q]
        · rw [decide_eq_false q]
          cases hh : PyData.eqv x y with
          | false => rfl
          | true => exact absurd ((eqv_key x y z.key z'.key).mp hh) q
      rw [e]
      exact h
  quiet := fun ⟨z, as, r⟩ h => quiet_key 8 _ _ _ _ _ _ _ z.dep z.key r h
end PD

namespace PD
open PySem PySem.Spec L2
open PyProof.Rows hiding St

/-! ## data -/
inductive D where
  | non | bl (b : Bool) | int (i : Int) | str (x : Str) | ty (n : String)
  | scr (ns : List Int) | tup (xs : List D) | lst (xs : List D) | dic (kvs : List (D × D)) | ins (c : Str) (fs : List (Str × D)) | adr (a : Addr)

mutual
def toPy : D → PyData
  | .non => .none
  | .bl b => .bool b
  | .int i => .int i
  | .str x => .str x
  | .ty _ => .dict []
  | .scr ns => .list (ns.map .int)
  | .tup ds => .tuple (toPys ds)
  | .lst ds => .list (toPys ds)
  | .dic _ => .dict []
  | .ins _ _ => .dict []
  | .adr _ => .dict []
def toPys : List D → List PyData
  | [] => []
  | d :: ds => toPy d :: toPys ds
end
/-- the names of the module's top, the world -/
structure Mg where
  f : Str → Option Value
  w : World
/-- a dict whose keys are tuples -/
def dT (w : World) (a : Addr) (zs : List (PyData × Addr × V)) : HO := .ext fun h => zs ≠ [] ∧ (a == sysModules) = false ∧ zs.length ≤ sizeLine ∧ ∃ xs : List (PyData × Addr × Value), Paired (fun p q => p.1 = q.1 ∧ p.2.1 = q.2.1 ∧ RelV p.2.2 q.2.2) zs xs ∧
  ∃ o es ep, h.get? a = some o ∧ o.ExactDict ∧ o.data = .dict es ep ∧ es.toList = xs.map (fun x => ⟨hashP w x.1, .ref x.2.1, x.2.2⟩) ∧ (xs.map (·.1)).Nodup
def kD : Key → D
  | .inl i => .int i
  | .inr x => .str x

mutual
def IsD (K : PySem.W.Frag) (mg : Mg) (H : Hp) : D → V → Prop
  | .non, v => v = .non
  | .bl b, v => v = .bl b
  | .int i, v => v = .int i
  | .str x, v => v = .str x
  | .ty n, v => v = .ty n
  | .scr ns, v => ∃ a, v = .ref a ∧ SqL K H a (ns.map V.int)
  | .tup ds, v => ∃ a xs, v = .ref a ∧ SqT K H a xs ∧ IsDs K mg H ds xs
  | .lst ds, v => ∃ a xs, v = .ref a ∧ H a = some (.lst xs) ∧ IsDs K mg H ds xs
  | .dic kvs, v => ∃ a o, v = .ref a ∧ Rd H a o ∧ ((∃ xs, o = .dK xs ∧ IsKVs K mg H kvs xs) ∨ ∃ zs, o = dT mg.w a zs ∧ IsKTs K mg H kvs zs)
  | .ins c fs, v => ∃ a C dx xs, v = .ref a ∧ mg.f c = some (.ref C) ∧ H a = some (.ins C dx xs) ∧ IsFs K mg H fs xs
  | .adr a, v => v = .ref a
def IsDs (K : PySem.W.Frag) (mg : Mg) (H : Hp) : List D → List V → Prop
  | [], xs => xs = []
  | d :: ds, xs => ∃ v vs, xs = v :: vs ∧ IsD K mg H d v ∧ IsDs K mg H ds vs
def IsKVs (K : PySem.W.Frag) (mg : Mg) (H : Hp) : List (D × D) → List (Key × V) → Prop
  | [], xs => xs = []
  | p :: ds, xs => ∃ v vs, xs = v :: vs ∧ IsKV K mg H p v ∧ IsKVs K mg H ds vs
def IsKV (K : PySem.W.Frag) (mg : Mg) (H : Hp) : D × D → Key × V → Prop
  | (k, d), p => k = kD p.1 ∧ IsD K mg H d p.2
def IsKTs (K : PySem.W.Frag) (mg : Mg) (H : Hp) : List (D × D) → List (PyData × Addr × V) → Prop
  | [], xs => xs = []
  | p :: ds, xs => ∃ v vs, xs = v :: vs ∧ IsKT K mg H p v ∧ IsKTs K mg H ds vs
def IsKT (K : PySem.W.Frag) (mg : Mg) (H : Hp) : D × D → PyData × Addr × V → Prop
  | (k, d), p => p.1 = toPy k ∧ TKey (toPy k) ∧ IsD K mg H k (.ref p.2.1) ∧ IsD K mg H d p.2.2
def IsFs (K : PySem.W.Frag) (mg : Mg) (H : Hp) : List (Str × D) → List (Str × V) → Prop
  | [], xs => xs = []
  | p :: ds, xs => ∃ v vs, xs = v :: vs ∧ IsF K mg H p v ∧ IsFs K mg H ds vs
def IsF (K : PySem.W.Frag) (mg : Mg) (H : Hp) : Str × D → Str × V → Prop
  | (k, d), p => k = p.1 ∧ IsD K mg H d p.2
end

theorem Same.seqT {K : PySem.W.Frag} {H H' : Hp} {a : Addr} {xs : List V} (e : Same H H') (h : SqT K H a xs) : SqT K H' a xs := by
  rcases h with (h | ⟨o, h⟩) | h
  · exact .inl (.inl (e _ _ h))
  · exact .inl (.inr ⟨o, e _ _ h⟩)
  · exact .inr h
theorem Same.rd {H H' : Hp} {a : Addr} {u : HO} (e : Same H H') (h : Rd H a u) : Rd H' a u := by
  rcases h with h | ⟨o, h⟩
  · exact .inl (e _ _ h)
  · exact .inr ⟨o, e _ _ h⟩

section
variable {K : PySem.W.Frag} {mg : Mg} {H H' : Hp}
mutual
theorem IsD.mono (s : Same H H') : ∀ {d : D} {v : V}, IsD K mg H d v → IsD K mg H' d v
  | .non, _, h => by simpa only [IsD] using h
  | .bl _, _, h => by simpa only [IsD] using h
  | .int _, _, h => by simpa only [IsD] using h
  | .str _, _, h => by simpa only [IsD] using h
  | .ty _, _, h => by simpa only [IsD] using h
  | .tup _, _, h => by
    simp only [IsD] at h ⊢
    obtain ⟨a, xs, e, q, r⟩ := h
    exact ⟨a, xs, e, Same.seqT s q, IsDs.mono s r⟩
  | .lst _, _, h => by
    simp only [IsD] at h ⊢
    obtain ⟨a, xs, e, q, r⟩ := h
    exact ⟨a, xs, e, s _ _ q, IsDs.mono s r⟩
  | .scr _, _, h => by
    simp only [IsD] at h ⊢
    obtain ⟨a, e, q⟩ := h
    exact ⟨a, e, s.seq q⟩
  | .dic _, _, h => by
    simp only [IsD] at h ⊢
    obtain ⟨a, o, e, q, r⟩ := h
    refine ⟨a, o, e, Same.rd s q, ?_⟩
    rcases r with ⟨xs, eo, r⟩ | ⟨xs, eo, r⟩
    · exact .inl ⟨xs, eo, IsKVs.mono s r⟩
    · exact .inr ⟨xs, eo, IsKTs.mono s r⟩
  | .adr _, _, h => by simpa only [IsD] using h
  | .ins _ _, _, h => by
    simp only [IsD] at h ⊢
    obtain ⟨a, C, dx, xs, e, m, q, r⟩ := h
    exact ⟨a, C, dx, xs, e, m, s _ _ q, IsFs.mono s r⟩
theorem IsDs.mono (s : Same H H') : ∀ {d : List D} {v : List V}, IsDs K mg H d v → IsDs K mg H' d v
  | [], _, h => by simpa only [IsDs] using h
  | _ :: _, _, h => by
    simp only [IsDs] at h ⊢
    obtain ⟨v, vs, e, q, r⟩ := h
    exact ⟨v, vs, e, IsD.mono s q, IsDs.mono s r⟩
theorem IsKVs.mono (s : Same H H') : ∀ {d : List (D × D)} {v : List (Key × V)}, IsKVs K mg H d v → IsKVs K mg H' d v
  | [], _, h => by simpa only [IsKVs] using h
  | _ :: _, _, h => by
    simp only [IsKVs] at h ⊢
    obtain ⟨v, vs, e, q, r⟩ := h
    exact ⟨v, vs, e, IsKV.mono s q, IsKVs.mono s r⟩
theorem IsKV.mono (s : Same H H') : ∀ {d : D × D} {v : Key × V}, IsKV K mg H d v → IsKV K mg H' d v
  | (_, _), _, h => by
    simp only [IsKV] at h ⊢
    exact ⟨h.1, IsD.mono s h.2⟩
theorem IsKTs.mono (s : Same H H') : ∀ {d : List (D × D)} {v : List (PyData × Addr × V)}, IsKTs K mg H d v → IsKTs K mg H' d v
  | [], _, h => by simpa only [IsKTs] using h
  | _ :: _, _, h => by
    simp only [IsKTs] at h ⊢
    obtain ⟨v, vs, e, q, r⟩ := h
    exact ⟨v, vs, e, IsKT.mono s q, IsKTs.mono s r⟩
theorem IsKT.mono (s : Same H H') : ∀ {d : D × D} {v : PyData × Addr × V}, IsKT K mg H d v → IsKT K mg H' d v
  | (_, _), _, h => by
    simp only [IsKT] at h ⊢
    exact ⟨h.1, h.2.1, IsD.mono s h.2.2.1, IsD.mono s h.2.2.2⟩
theorem IsFs.mono (s : Same H H') : ∀ {d : List (Str × D)} {v : List (Str × V)}, IsFs K mg H d v → IsFs K mg H' d v
  | [], _, h => by simpa only [IsFs] using h
  | _ :: _, _, h => by
    simp only [IsFs] at h ⊢
    obtain ⟨v, vs, e, q, r⟩ := h
    exact ⟨v, vs, e, IsF.mono s q, IsFs.mono s r⟩
theorem IsF.mono (s : Same H H') : ∀ {d : Str × D} {v : Str × V}, IsF K mg H d v → IsF K mg H' d v
  | (_, _), _, h => by
    simp only [IsF] at h ⊢
    exact ⟨h.1, IsD.mono s h.2⟩
end
/-- a dict's object: its keys whole numbers and texts, or tuples -/
def DicAt (K : PySem.W.Frag) (mg : Mg) (H : Hp) (kvs : List (D × D)) (a : Addr) (o : HO) : Prop := (∃ xs, o = .dK xs ∧ IsKVs K mg H kvs xs) ∨ ∃ zs, o = dT mg.w a zs ∧ IsKTs K mg H kvs zs
theorem DicAt.mono (s : Same H H') {kvs : List (D × D)} {a : Addr} {o : HO} (h : DicAt K mg H kvs a o) : DicAt K mg H' kvs a o := by
  rcases h with ⟨xs, eo, r⟩ | ⟨xs, eo, r⟩
  · exact .inl ⟨xs, eo, IsKVs.mono s r⟩
  · exact .inr ⟨xs, eo, IsKTs.mono s r⟩
end
end PD

namespace PD
open PySem PySem.Spec L2
open PyProof.Rows hiding St

abbrev _root_.L2.Cx.mw (X : Cx) : Mg := ⟨X.mg, X.w⟩
/-! ## outcomes -/
structure Exn where
  cls : Str
  fs : List (Str × D)
inductive Out (α : Type) where
  | ok (a : α) | exc (x : Exn) | stuck
def Out.bind {α β : Type} (o : Out α) (k : α → Out β) : Out β := match o with
  | .ok a => k a
  | .exc x => .exc x
  | .stuck => .stuck
@[simp] theorem Out.bind_ok {α β : Type} (a : α) (k : α → Out β) : (Out.ok a).bind k = k a := rfl
@[simp] theorem Out.bind_exc {α β : Type} (x : Exn) (k : α → Out β) : (Out.exc x).bind k = .exc x := rfl
@[simp] theorem Out.bind_stuck {α β : Type} (k : α → Out β) : (Out.stuck : Out α).bind k = .stuck := rfl
theorem Out.bind_assoc {α β γ : Type} (o : Out α) (k : α → Out β) (l : β → Out γ) : (o.bind k).bind l = o.bind fun a => (k a).bind l := by
  cases o <;> rfl
/-- an outcome under a condition (never to be reckoned with: the condition is shown) -/
noncomputable def chk {α : Type} (p : Prop) (o : Out α) : Out α := @ite _ p (Classical.propDecidable p) o .stuck
theorem chk_pos {α : Type} {p : Prop} {o : Out α} (h : p) : chk p o = o := if_pos h
theorem chk_neg {α : Type} {p : Prop} {o : Out α} (h : ¬ p) : chk p o = .stuck := if_neg h
abbrev Env := List (Option D)
inductive SO where
  | nx (r : Env) | rt (d : D) | bk (r : Env) | ct (r : Env) | ex (x : Exn) | stuck

def D.mut : D → Bool
  | .lst _ => true
  | .dic _ => true
  | _ => false

/-! ## representation -/
/-- the entry of a def: all that is tracked; what of it is read as data -/
structure G where
  H0 : Hp
  F0 : Hp
section
variable (K : PySem.W.Frag) (mg : Mg)
/-- owned: a list or dict that this frame alone may change; else data -/
def IsO (H0 Hf H : Hp) : D → V → Prop
  | .lst ds, v => ∃ a xs, v = .ref a ∧ H0 a = none ∧ Hf a = none ∧ H a = some (.lst xs) ∧ IsDs K mg Hf ds xs
  | .dic kvs, v => ∃ a o, v = .ref a ∧ H0 a = none ∧ Hf a = none ∧ H a = some o ∧ DicAt K mg Hf kvs a o
  | d, v => IsD K mg Hf d v
/-- read: the outermost object stands in H, what it holds is data -/
def IsR (Hf H : Hp) : D → V → Prop
  | .lst ds, v => ∃ a xs, v = .ref a ∧ H a = some (.lst xs) ∧ IsDs K mg Hf ds xs
  | .dic kvs, v => ∃ a o, v = .ref a ∧ Rd H a o ∧ DicAt K mg Hf kvs a o
  | d, v => IsD K mg Hf d v
abbrev Own (Γ : List Bool) (i : Nat) : Prop := Γ.getD i false = true
structure Rp (g : G) (Γ : List Bool) (ρ : Env) (σ : St) (Hf H : Hp) : Prop where
  same : Same Hf H
  ent : Same g.H0 H
  ent2 : Same g.F0 Hf
  news : ∀ a o, Hf a = some o → g.F0 a = some o ∨ g.H0 a = none
  len : σ.length = ρ.length
  own : ∀ i d, Own Γ i → ρ[i]? = some (some d) → ∃ v, σ[i]? = some (some v) ∧ IsO K mg g.H0 Hf H d v
  dat : ∀ i d, ¬ Own Γ i → ρ[i]? = some (some d) → ∃ v, σ[i]? = some (some v) ∧ IsD K mg Hf d v
  sep : ∀ i j d e v, i ≠ j → Own Γ i → Own Γ j → ρ[i]? = some (some d) → ρ[j]? = some (some e) → d.mut = true → e.mut = true → σ[i]? = some (some v) → σ[j]? = some (some v) → False
inductive Md where
  | rd | fr | ow
def Res (g : G) (Γ : List Bool) (ρ : Env) (σ : St) (Hf H : Hp) (m : Md) (d : D) (v : V) : Prop := match m with
  | .rd => IsR K mg Hf H d v
  | .fr => IsD K mg Hf d v
  | .ow => IsO K mg g.H0 Hf H d v ∧ ∀ i e, Own Γ i → ρ[i]? = some (some e) → e.mut = true → d.mut = true → σ[i]? = some (some v) → False
def IsX (x : Exn) (c : Value) (dd : Option Addr) (H : Hp) : Prop :=
  (∃ C, c = .ref C ∧ mg.f x.cls = some (.ref C)) ∧ (x.fs = [] ∨ ∃ d xs, dd = some d ∧ H d = some (.xd xs) ∧ IsFs K mg H x.fs xs)
def Le (Γ' Γ : List Bool) : Prop := ∀ i, Own Γ' i → Own Γ i
/-- an outcome of an expression, told -/
def tG (g : G) (E : WX) (Γ : List Bool) (ρ : Env) (σ : St) (Hf H : Hp) {α : Type} (P : α → Hp → Hp → Prop) : Out α → Prop
  | .ok a => ∀ Hf' H', Same Hf Hf' → Same H H' → Rp K mg g Γ ρ σ Hf' H' → P a Hf' H'
  | .exc x => ∀ c dd Hf' H', Same Hf Hf' → Same H H' → Rp K mg g Γ ρ σ Hf' H' → IsX K mg x c dd H' → E c dd σ H'
  | .stuck => False
/-- what a call hands back -/
def RetRes (H0 : Hp) (ro : Bool) (Hf H : Hp) (d : D) (v : V) : Prop := if ro = true then IsO K mg H0 Hf H d v else IsD K mg Hf d v
def sR (g : G) (E : WX) (Γ Γl : List Bool) (ro : Bool) (Dn : Ends) : SO → Prop
  | .nx ρ => ∀ σ Hf H, Rp K mg g Γ ρ σ Hf H → Dn.nx σ H
  | .bk ρ => ∀ σ Hf H, Rp K mg g Γl ρ σ Hf H → Dn.bk σ H
  | .ct ρ => ∀ σ Hf H, Rp K mg g Γl ρ σ Hf H → Dn.ct σ H
  | .rt d => ∀ v Hf H, Same Hf H → Same g.H0 H → Same g.F0 Hf → (∀ a o, Hf a = some o → g.F0 a = some o ∨ g.H0 a = none) → RetRes K mg g.H0 ro Hf H d v → Dn.rt v H
  | .ex x => ∀ c dd σ H, Same g.H0 H → IsX K mg x c dd H → E c dd σ H
  | .stuck => False
/-- a def's promise by its meaning -/
def spD (ro : Bool) (F : List D → Out D) : Sp := fun vs H Q E => ∃ ds Hf, Same Hf H ∧ IsDs K mg Hf ds vs ∧ match F ds with
  | .ok d => ∀ v Hf' H', Same Hf Hf' → Same Hf' H' → Same H H' → (∀ a o, Hf' a = some o → Hf a = some o ∨ H a = none) → RetRes K mg H ro Hf' H' d v → Q v H'
  | .exc x => ∀ c dd H', Same H H' → IsX K mg x c dd H' → E c dd H'
  | .stuck => False
end

section
variable {K : PySem.W.Frag} {mg : Mg}
theorem Le.refl (Γ : List Bool) : Le Γ Γ := fun _ h => h
theorem Le.trans {a b c : List Bool} (h : Le a b) (k : Le b c) : Le a c := fun i z => k i (h i z)
theorem Le.set (Γ : List Bool) (i : Nat) : Le (Γ.set i false) Γ := fun j h => by
  unfold Own at *
  rw [List.getD_eq_getElem?_getD, List.getElem?_set] at h
  by_cases e : i = j
  · subst e
    rw [if_pos rfl] at h
    by_cases l : i < Γ.length
    · rw [if_pos l] at h; simp at h
    · rw [if_neg l] at h; simp at h
  · rw [if_neg e] at h
    rw [List.getD_eq_getElem?_getD]; exact h

/-! ### scalars and modes -/
theorem IsO.of_dat {H0 Hf H : Hp} {d : D} {v : V} (n : d.mut = false) (h : IsD K mg Hf d v) : IsO K mg H0 Hf H d v := by
  cases d <;> first | exact h | cases n
theorem IsR.of_dat {Hf H : Hp} {d : D} {v : V} (s : Same Hf H) (h : IsD K mg Hf d v) : IsR K mg Hf H d v := by
  cases d <;> first | exact h | (simp only [IsD] at h; obtain ⟨a, xs, e, q, r⟩ := h; first | exact ⟨a, xs, e, s _ _ q, r⟩ | exact ⟨a, xs, e, Same.rd s q, r⟩)
theorem IsR.of_own {H0 Hf H : Hp} {d : D} {v : V} (h : IsO K mg H0 Hf H d v) : IsR K mg Hf H d v := by
  cases d <;> first | exact h | (obtain ⟨a, xs, e, _, _, q, r⟩ := h; first | exact ⟨a, xs, e, q, r⟩ | exact ⟨a, xs, e, .inl q, r⟩)
theorem IsR.mono {Hf Hf' H H' : Hp} {d : D} {v : V} (s1 : Same Hf Hf') (s2 : Same H H') (h : IsR K mg Hf H d v) : IsR K mg Hf' H' d v := by
  cases d <;> first
    | exact IsD.mono s1 h
    | (obtain ⟨a, xs, e, q, r⟩ := h; first | exact ⟨a, xs, e, s2 _ _ q, IsDs.mono s1 r⟩ | exact ⟨a, xs, e, Same.rd s2 q, DicAt.mono s1 r⟩)
/-- the address of what is owned -/
theorem IsO.addr {H0 Hf H : Hp} {d : D} {v : V} (m : d.mut = true) (h : IsO K mg H0 Hf H d v) : ∃ a o, v = .ref a ∧ H0 a = none ∧ Hf a = none ∧ H a = some o := by
  cases d with
  | lst ds => obtain ⟨a, xs, e, z0, zf, q, r⟩ := h; exact ⟨a, _, e, z0, zf, q⟩
  | dic ds => obtain ⟨a, xs, e, z0, zf, q, r⟩ := h; exact ⟨a, _, e, z0, zf, q⟩
  | _ => cases m
theorem Res.dat {g : G} {Γ : List Bool} {ρ : Env} {σ : St} {Hf H : Hp} {m : Md} {d : D} {v : V} (s : Same Hf H) (n : d.mut = false) (h : IsD K mg Hf d v) : Res K mg g Γ ρ σ Hf H m d v := by
  cases m with
  | rd => exact IsR.of_dat s h
  | fr => exact h
  | ow => exact ⟨IsO.of_dat n h, fun i e _ _ _ q => by rw [n] at q; cases q⟩
theorem Res.rd {g : G} {Γ : List Bool} {ρ : Env} {σ : St} {Hf H : Hp} {m : Md} {d : D} {v : V} (s : Same Hf H) (h : Res K mg g Γ ρ σ Hf H m d v) : IsR K mg Hf H d v := by
  cases m with
  | rd => exact h
  | fr => exact IsR.of_dat s h
  | ow => exact IsR.of_own h.1

/-! ### freezing -/
/-- what the addresses in p hold becomes data -/
theorem frz_same {Hf H : Hp} (p : Addr → Prop) [DecidablePred p] (s : Same Hf H) : Same Hf (fun a => if p a then H a else Hf a) := fun a o e => by
  by_cases h : p a
  · show (if p a then H a else Hf a) = some o
    rw [if_pos h]; exact s _ _ e
  · show (if p a then H a else Hf a) = some o
    rw [if_neg h]; exact e
theorem frz_same2 {Hf H : Hp} (p : Addr → Prop) [DecidablePred p] (s : Same Hf H) : Same (fun a => if p a then H a else Hf a) H := fun a o e => by
  have e' : (if p a then H a else Hf a) = some o := e
  by_cases h : p a
  · rw [if_pos h] at e'; exact e'
  · rw [if_neg h] at e'; exact s _ _ e'
theorem IsD.of_own {H0 Hf Hf' H : Hp} {d : D} {v : V} (s : Same Hf Hf') (at_ : ∀ a, v = .ref a → d.mut = true → Hf' a = H a) (h : IsO K mg H0 Hf H d v) : IsD K mg Hf' d v := by
  cases d with
  | lst ds =>
    obtain ⟨a, xs, e, z0, zf, q, r⟩ := h
    simp only [IsD]
    exact ⟨a, xs, e, (at_ a e rfl).trans q, IsDs.mono s r⟩
  | dic ds =>
    obtain ⟨a, xs, e, z0, zf, q, r⟩ := h
    simp only [IsD]
    exact ⟨a, xs, e, .inl ((at_ a e rfl).trans q), DicAt.mono s r⟩
  | _ => exact IsD.mono s h
theorem IsO.keep {H0 Hf Hf' H : Hp} {d : D} {v : V} (s : Same Hf Hf') (at_ : ∀ a, v = .ref a → d.mut = true → Hf' a = none) (h : IsO K mg H0 Hf H d v) : IsO K mg H0 Hf' H d v := by
  cases d with
  | lst ds =>
    obtain ⟨a, xs, e, z0, zf, q, r⟩ := h
    exact ⟨a, xs, e, z0, at_ a e rfl, q, IsDs.mono s r⟩
  | dic ds =>
    obtain ⟨a, xs, e, z0, zf, q, r⟩ := h
    exact ⟨a, xs, e, z0, at_ a e rfl, q, DicAt.mono s r⟩
  | _ => exact IsD.mono s h
open Classical in
theorem Rp.frz {g : G} {Γ Γ' : List Bool} {ρ : Env} {σ : St} {Hf H : Hp} (R : Rp K mg g Γ ρ σ Hf H) (le : Le Γ' Γ) : ∃ Hf', Same Hf Hf' ∧ Rp K mg g Γ' ρ σ Hf' H ∧ ∀ a o, Hf' a = some o → Hf a = none →
    ∃ i d, Own Γ i ∧ ¬ Own Γ' i ∧ ρ[i]? = some (some d) ∧ d.mut = true ∧ σ[i]? = some (some (.ref a)) := by
  let p : Addr → Prop := fun a => ∃ i d, Own Γ i ∧ ¬ Own Γ' i ∧ ρ[i]? = some (some d) ∧ d.mut = true ∧ σ[i]? = some (some (.ref a))
  have s1 : Same Hf (fun a => if p a then H a else Hf a) := frz_same p R.same
  refine ⟨fun a => if p a then H a else Hf a, s1, ⟨frz_same2 p R.same, R.ent, R.ent2.trans s1, fun a o e => ?_, R.len, fun i d o e => ?_, fun i d o e => ?_, fun i j d e v n o1 o2 => R.sep i j d e v n (le i o1) (le j o2)⟩, fun a o e n => ?_⟩
  · have e' : (if p a then H a else Hf a) = some o := e
    by_cases h : p a
    · obtain ⟨i, d, o1, o2, e1, m, e2⟩ := h
      obtain ⟨v, e3, io⟩ := R.own i d o1 e1
      rw [e2] at e3
      obtain rfl : V.ref a = v := Option.some.inj (Option.some.inj e3)
      obtain ⟨b, ob, e4, z0, _⟩ := io.addr m
      obtain rfl : a = b := V.ref.inj e4
      exact .inr z0
    · rw [if_neg h] at e'
      exact R.news a o e'
  · obtain ⟨v, e1, io⟩ := R.own i d (le i o) e
    refine ⟨v, e1, io.keep s1 fun a ea m => ?_⟩
    obtain ⟨b, ob, e4, z0, zf, _⟩ := io.addr m
    rw [ea] at e4
    obtain rfl : a = b := V.ref.inj e4
    have np : ¬ p a := fun ⟨j, e', o1, o2, e2, m2, e3⟩ => by
      by_cases ij : i = j
      · subst ij; exact o2 o
      · exact R.sep i j d e' (.ref a) ij (le i o) o1 e e2 m m2 (ea ▸ e1) e3
    show (if p a then H a else Hf a) = none
    rw [if_neg np]; exact zf
  · by_cases oΓ : Own Γ i
    · obtain ⟨v, e1, io⟩ := R.own i d oΓ e
      refine ⟨v, e1, IsD.of_own s1 (fun a ea m => ?_) io⟩
      show (if p a then H a else Hf a) = H a
      exact if_pos ⟨i, d, oΓ, o, e, m, ea ▸ e1⟩
    · obtain ⟨v, e1, id⟩ := R.dat i d oΓ e
      exact ⟨v, e1, id.mono s1⟩
  · have e' : (if p a then H a else Hf a) = some o := e
    by_cases h : p a
    · exact h
    · rw [if_neg h, n] at e'; cases e'
end
end PD

namespace PD
open PySem PySem.Spec L2
open PyProof.Rows hiding St

section
variable {K : PySem.W.Frag} {mg : Mg} {g : G} {E : WX} {Γ Γ1 Γ2 : List Bool} {ρ : Env} {σ : St} {Hf H Hf' H' : Hp}
theorem tG.mono {α : Type} {P : α → Hp → Hp → Prop} {o : Out α} (s1 : Same Hf Hf') (s2 : Same H H') (h : tG K mg g E Γ ρ σ Hf H P o) : tG K mg g E Γ ρ σ Hf' H' P o := by
  cases o with
  | ok a => exact fun F' H' a b R => h F' H' (s1.trans a) (s2.trans b) R
  | exc x => exact fun c dd F' H' a b R q => h c dd F' H' (s1.trans a) (s2.trans b) R q
  | stuck => exact h
theorem tG.imp {α : Type} {P P' : α → Hp → Hp → Prop} {o : Out α} (h : tG K mg g E Γ ρ σ Hf H P o) (w : ∀ a Hf' H', Same Hf Hf' → Same H H' → Rp K mg g Γ ρ σ Hf' H' → P a Hf' H' → P' a Hf' H') : tG K mg g E Γ ρ σ Hf H P' o := by
  cases o with
  | ok a => exact fun F' H' a b R => w _ F' H' a b R (h F' H' a b R)
  | exc x => exact h
  | stuck => exact h
theorem tG.bind {α β : Type} {P1 : α → Hp → Hp → Prop} {P2 : β → Hp → Hp → Prop} {o : Out α} {k : α → Out β} (le : Le Γ2 Γ1) (h : tG K mg g E Γ2 ρ σ Hf H P2 (o.bind k))
    (hk : ∀ a Hf' H', Same Hf Hf' → Same H H' → Rp K mg g Γ1 ρ σ Hf' H' → tG K mg g E Γ2 ρ σ Hf' H' P2 (k a) → P1 a Hf' H') : tG K mg g E Γ1 ρ σ Hf H P1 o := by
  cases o with
  | ok a => exact fun F' H' s1 s2 R => hk a F' H' s1 s2 R (tG.mono s1 s2 h)
  | exc x =>
    intro c dd F' H' s1 s2 R q
    obtain ⟨F'', s3, R', _⟩ := R.frz le
    exact h c dd F'' H' (s1.trans s3) s2 R' q
  | stuck => exact h
end

/-! ## judgements -/
def PV (X : Cx) (g : G) (Γ : List Bool) (ρ : Env) (σ : St) (m : Md) (Q : VK) : D → Hp → Hp → Prop := fun d Hf H => ∀ v, Res X.K X.mw g Γ ρ σ Hf H m d v → Q v H
structure PX (X : Cx) (g : G) (E : WX) (Γ : List Bool) (e : Expr) (Γ' : List Bool) (m : Md) (f : Env → Out D) : Prop where
  le : Le Γ' Γ
  pe : PE X e (fun σ H Q => ∃ ρ Hf, Rp X.K X.mw g Γ ρ σ Hf H ∧ tG X.K X.mw g E Γ' ρ σ Hf H (PV X g Γ' ρ σ m Q) (f ρ))
structure PTx (X : Cx) (g : G) (E : WX) (Γ : List Bool) (e : Expr) (Γ' : List Bool) (f : Env → Out Bool) : Prop where
  le : Le Γ' Γ
  pe : PT X e (fun σ H Q => ∃ ρ Hf, Rp X.K X.mw g Γ ρ σ Hf H ∧ tG X.K X.mw g E Γ' ρ σ Hf H (fun b _ H' => Q b H') (f ρ))
structure PWx (X : Cx) (g : G) (E : WX) (Γ : List Bool) (e : Expr) (Γ' : List Bool) (f : Env → Out Bool) : Prop where
  le : Le Γ' Γ
  pe : PW X e (fun σ H Q => ∃ ρ Hf, Rp X.K X.mw g Γ ρ σ Hf H ∧ tG X.K X.mw g E Γ' ρ σ Hf H (fun b _ H' => Q b H') (f ρ))
structure PAx (X : Cx) (g : G) (E : WX) (Γ : List Bool) (e : List Expr) (Γ' : List Bool) (f : Env → Out (List D)) : Prop where
  le : Le Γ' Γ
  pe : PA X e (fun σ H Q => ∃ ρ Hf, Rp X.K X.mw g Γ ρ σ Hf H ∧ tG X.K X.mw g E Γ' ρ σ Hf H (fun ds Hf' H' => ∀ vs, IsDs X.K X.mw Hf' ds vs → Q vs H') (f ρ))

theorem _root_.L2.PE.imp {X : Cx} {e : Expr} {t t' : TE} (h : PE X e t) (w : ∀ σ H Q, t' σ H Q → t σ H Q) : PE X e t' :=
  ⟨fun pins s σ H Q I q => h.run pins s σ H Q I (w σ H Q q)⟩
theorem _root_.L2.PT.imp {X : Cx} {e : Expr} {t t' : TT} (h : PT X e t) (w : ∀ σ H Q, t' σ H Q → t σ H Q) : PT X e t' :=
  ⟨fun pins s σ H Q I q => h.run pins s σ H Q I (w σ H Q q)⟩
theorem _root_.L2.PW.imp {X : Cx} {e : Expr} {t t' : TT} (h : PW X e t) (w : ∀ σ H Q, t' σ H Q → t σ H Q) : PW X e t' :=
  ⟨fun wh pins s σ H Q I q => h.run wh pins s σ H Q I (w σ H Q q)⟩
theorem _root_.L2.PA.imp {X : Cx} {e : List Expr} {t t' : TA} (h : PA X e t) (w : ∀ σ H Q, t' σ H Q → t σ H Q) : PA X e t' :=
  ⟨fun p pins s σ H Q I q => h.run p pins s σ H Q I (w σ H Q q)⟩

section
variable {X : Cx} {g : G} {E : WX} {Γ Γ1 Γ2 Γ3 : List Bool} {m : Md} {pos : Pos}

/-! ### meanings -/
def eC (d : D) : Env → Out D := fun _ => .ok d
def eV (i : Nat) : Env → Out D := fun ρ => match ρ[i]? with
  | some (some d) => .ok d
  | _ => .stuck
def e2 (F : D → D → Out D) (a b : Env → Out D) : Env → Out D := fun ρ => (a ρ).bind fun x => (b ρ).bind fun y => F x y
def e1 (F : D → Out D) (a : Env → Out D) : Env → Out D := fun ρ => (a ρ).bind F
def aN : Env → Out (List D) := fun _ => .ok []
def aC (a : Env → Out D) (r : Env → Out (List D)) : Env → Out (List D) := fun ρ => (a ρ).bind fun x => (r ρ).bind fun xs => .ok (x :: xs)
def eA (F : List D → Out D) (a : Env → Out (List D)) : Env → Out D := fun ρ => (a ρ).bind F

/-! ### modes -/
open Classical in
/-- a temporary becomes data -/
theorem Rp.cool {K : PySem.W.Frag} {mg : Mg} {ρ : Env} {σ : St} {Hf H : Hp} (R : Rp K mg g Γ ρ σ Hf H) {d : D} {v : V} (io : IsO K mg g.H0 Hf H d v)
    (ap : ∀ i e, Own Γ i → ρ[i]? = some (some e) → e.mut = true → d.mut = true → σ[i]? = some (some v) → False) : ∃ Hf', Same Hf Hf' ∧ Rp K mg g Γ ρ σ Hf' H ∧ IsD K mg Hf' d v := by
  by_cases md : d.mut = true
  · obtain ⟨a, o, rfl, z0, zf, hH⟩ := io.addr md
    have s1 : Same Hf (fun b => if b = a then H b else Hf b) := frz_same (fun b => b = a) R.same
    refine ⟨fun b => if b = a then H b else Hf b, s1, ⟨frz_same2 (fun b => b = a) R.same, R.ent, R.ent2.trans s1, fun b o e => ?_, R.len, fun i d' o e => ?_, fun i d' o e => ?_, R.sep⟩, IsD.of_own s1 (fun b eb _ => ?_) io⟩
    · have e' : (if b = a then H b else Hf b) = some o := e
      by_cases h : b = a
      · subst h; exact .inr z0
      · rw [if_neg h] at e'; exact R.news b o e'
    · obtain ⟨v, e1, io'⟩ := R.own i d' o e
      refine ⟨v, e1, io'.keep s1 fun b eb m => ?_⟩
      subst eb
      have hb : b ≠ a := fun z => ap i d' o e m md (z ▸ e1)
      obtain ⟨c, oc, e4, _, zf', _⟩ := io'.addr m
      obtain rfl : b = c := V.ref.inj e4
      show (if b = a then H b else Hf b) = none
      rw [if_neg hb]; exact zf'
    · obtain ⟨v, e1, q⟩ := R.dat i d' o e
      exact ⟨v, e1, q.mono s1⟩
    · obtain rfl : a = b := V.ref.inj eb
      exact if_pos rfl
  · refine ⟨Hf, Same.refl _, R, ?_⟩
    cases d <;> first | exact io | exact absurd rfl md
theorem PX.fr {e : Expr} {f : Env → Out D} (h : PX X g E Γ e Γ1 .ow f) : PX X g E Γ e Γ1 .fr f := by
  refine ⟨h.le, h.pe.imp fun σ H Q ⟨ρ, Hf, R, q⟩ => ⟨ρ, Hf, R, ?_⟩⟩
  cases hf : f ρ with
  | ok d =>
    rw [hf] at q
    intro F1 H1 s1 s2 R1 v hv
    obtain ⟨io, ap⟩ := hv
    obtain ⟨F2, s3, R2, id⟩ := R1.cool io ap
    exact q F2 H1 (s1.trans s3) s2 R2 v id
  | exc x => rw [hf] at q; exact q
  | stuck => rw [hf] at q; exact q
theorem PX.rd {e : Expr} {f : Env → Out D} (h : PX X g E Γ e Γ1 m f) : PX X g E Γ e Γ1 .rd f := by
  refine ⟨h.le, h.pe.imp fun σ H Q ⟨ρ, Hf, R, q⟩ => ⟨ρ, Hf, R, tG.imp q fun d F1 H1 s1 s2 R1 k v hv => k v (Res.rd R1.same hv)⟩⟩

/-! ### names, constants -/
theorem PX.atom {e : Expr} {d : D} {v0 : V} (h : PE X e (tC v0)) (n : d.mut = false) (q : ∀ F v, v = v0 → IsD X.K X.mw F d v) : PX X g E Γ e Γ m (eC d) := by
  refine ⟨Le.refl _, h.imp fun σ H Q ⟨ρ, Hf, R, k⟩ => ?_⟩
  exact k Hf H (Same.refl _) (Same.refl _) R v0 (Res.dat R.same n (q Hf v0 rfl))
theorem px_int {i : Int} {j pos} : PX X g E Γ (.Constant (.int i) j pos) Γ m (eC (.int i)) := .atom pe_int rfl fun F v e => by simpa only [IsD] using e
theorem px_bl {b : Bool} {j pos} : PX X g E Γ (.Constant (.bool b) j pos) Γ m (eC (.bl b)) := .atom pe_bl rfl fun F v e => by simpa only [IsD] using e
theorem px_non {j pos} : PX X g E Γ (.Constant .none j pos) Γ m (eC .non) := .atom pe_non rfl fun F v e => by simpa only [IsD] using e
theorem px_str {x : Str} {j pos} : PX X g E Γ (.Constant (.str x) j pos) Γ m (eC (.str x)) := .atom pe_str rfl fun F v e => by simpa only [IsD] using e
theorem eV_ok {i : Nat} {ρ : Env} {d : D} (h : eV i ρ = .ok d) : ρ[i]? = some (some d) := by
  unfold eV at h
  split at h
  · cases h; assumption
  · cases h
theorem eV_nx {i : Nat} {ρ : Env} {x : Exn} (h : eV i ρ = .exc x) : False := by
  unfold eV at h
  split at h <;> cases h
/-- a name, read -/
theorem px_rd {x : Str} {i : Nat} (h : PE X (.Name x pos) (tVar i)) : PX X g E Γ (.Name x pos) Γ .rd (eV i) := by
  refine ⟨Le.refl _, h.imp fun σ H Q ⟨ρ, Hf, R, k⟩ => ?_⟩
  cases he : eV i ρ with
  | ok d =>
    rw [he] at k
    have e := eV_ok he
    by_cases o : Own Γ i
    · obtain ⟨v, e1, io⟩ := R.own i d o e
      exact ⟨v, e1, k Hf H (Same.refl _) (Same.refl _) R v (IsR.of_own io)⟩
    · obtain ⟨v, e1, io⟩ := R.dat i d o e
      exact ⟨v, e1, k Hf H (Same.refl _) (Same.refl _) R v (IsR.of_dat R.same io)⟩
  | exc x => exact (eV_nx he).elim
  | stuck => rw [he] at k; exact k.elim
/-- a name, as data: what it owned is data from here on -/
theorem px_fr {x : Str} {i : Nat} (h : PE X (.Name x pos) (tVar i)) : PX X g E Γ (.Name x pos) (Γ.set i false) .fr (eV i) := by
  refine ⟨Le.set Γ i, h.imp fun σ H Q ⟨ρ, Hf, R, k⟩ => ?_⟩
  cases he : eV i ρ with
  | ok d =>
    rw [he] at k
    have e := eV_ok he
    obtain ⟨F', s1, R', _⟩ := R.frz (Le.set Γ i)
    have no : ¬ Own (Γ.set i false) i := fun z => by
      unfold Own at z
      rw [List.getD_eq_getElem?_getD, List.getElem?_set] at z
      by_cases l : i < Γ.length
      · simp [l] at z
      · simp [l] at z
    obtain ⟨v, e1, q⟩ := R'.dat i d no e
    exact ⟨v, e1, k F' H s1 (Same.refl _) R' v q⟩
  | exc x => exact (eV_nx he).elim
  | stuck => rw [he] at k; exact k.elim
/-- .. where nothing is owned there -/
theorem px_fr' {x : Str} {i : Nat} (h : PE X (.Name x pos) (tVar i)) (no : Γ.getD i false = false) : PX X g E Γ (.Name x pos) Γ .fr (eV i) := by
  refine ⟨Le.refl _, h.imp fun σ H Q ⟨ρ, Hf, R, k⟩ => ?_⟩
  cases he : eV i ρ with
  | ok d =>
    rw [he] at k
    have e := eV_ok he
    obtain ⟨v, e1, q⟩ := R.dat i d (fun z => by unfold Own at z; rw [no] at z; cases z) e
    exact ⟨v, e1, k Hf H (Same.refl _) (Same.refl _) R v q⟩
  | exc x => exact (eV_nx he).elim
  | stuck => rw [he] at k; exact k.elim

/-! ### operators by their meaning -/
/-- f, on two read things, means F -/
def OpD (X : Cx) (f : Value → Value → Sem Value) (m : Md) (F : D → D → Out D) : Prop := ∃ r, OpR X f r ∧
  ∀ g E Γ ρ σ Hf H x y v u Q, Rp X.K X.mw g Γ ρ σ Hf H → IsR X.K X.mw Hf H x v → IsR X.K X.mw Hf H y u → tG X.K X.mw g E Γ ρ σ Hf H (PV X g Γ ρ σ m Q) (F x y) → r v u H Q
def UnD (X : Cx) (f : Value → Sem Value) (m : Md) (F : D → Out D) : Prop := ∃ r, UnR X f r ∧
  ∀ g E Γ ρ σ Hf H x v Q, Rp X.K X.mw g Γ ρ σ Hf H → IsR X.K X.mw Hf H x v → tG X.K X.mw g E Γ ρ σ Hf H (PV X g Γ ρ σ m Q) (F x) → r v H Q
variable {a b : Expr} {fa fb : Env → Out D}
theorem px_bin {op : Operator} {F : D → D → Out D} (ho : OpD X (binaryOp op) m F) (ha : PX X g E Γ a Γ1 .rd fa) (hb : PX X g E Γ1 b Γ2 .rd fb) : PX X g E Γ (.BinOp a op b pos) Γ2 m (e2 F fa fb) := by
  obtain ⟨r, hr, w⟩ := ho
  refine ⟨hb.le.trans ha.le, (pe_op hr ha.pe hb.pe).imp fun σ H Q ⟨ρ, Hf, R, k⟩ => ⟨ρ, Hf, R, ?_⟩⟩
  refine tG.bind hb.le k fun x F1 H1 s1 s2 R1 k1 v hv => ⟨ρ, F1, R1, ?_⟩
  refine tG.bind (Le.refl _) k1 fun y F2 H2 s3 s4 R2 k2 u hu => ?_
  exact w g E Γ2 ρ σ F2 H2 x y v u Q R2 (IsR.mono s3 s4 hv) hu k2
theorem px_cmp {op : CmpOp} {F : D → D → Out D} (ho : OpD X (compareOp op) m F) (ha : PX X g E Γ a Γ1 .rd fa) (hb : PX X g E Γ1 b Γ2 .rd fb) (hm : behindInMarks op b = false) : PX X g E Γ (.Compare a [op] [b] pos) Γ2 m (e2 F fa fb) := by
  obtain ⟨r, hr, w⟩ := ho
  refine ⟨hb.le.trans ha.le, (pe_cmpR hr ha.pe hb.pe hm).imp fun σ H Q ⟨ρ, Hf, R, k⟩ => ⟨ρ, Hf, R, ?_⟩⟩
  refine tG.bind hb.le k fun x F1 H1 s1 s2 R1 k1 v hv => ⟨ρ, F1, R1, ?_⟩
  refine tG.bind (Le.refl _) k1 fun y F2 H2 s3 s4 R2 k2 u hu => ?_
  exact w g E Γ2 ρ σ F2 H2 x y v u Q R2 (IsR.mono s3 s4 hv) hu k2
theorem px_un {op : UnaryOp} {F : D → Out D} (ho : UnD X (unaryOp op) m F) (ha : PX X g E Γ a Γ1 .rd fa) : PX X g E Γ (.UnaryOp op a pos) Γ1 m (e1 F fa) := by
  obtain ⟨r, hr, w⟩ := ho
  refine ⟨ha.le, (pe_un hr ha.pe).imp fun σ H Q ⟨ρ, Hf, R, k⟩ => ⟨ρ, Hf, R, ?_⟩⟩
  refine tG.bind (Le.refl _) k fun x F1 H1 s1 s2 R1 k1 v hv => ?_
  exact w g E Γ1 ρ σ F1 H1 x v Q R1 hv k1

/-! ### tests -/
def tOf (f : Env → Out D) : Env → Out Bool := fun ρ => (f ρ).bind fun d => match d with
  | .bl b => .ok b
  | _ => .stuck
theorem pt_of {e : Expr} {t : TE} {f : Env → Out D} (hp : PT X e (tTest t)) (w : ∀ σ H Q, (∃ ρ Hf, Rp X.K X.mw g Γ ρ σ Hf H ∧ tG X.K X.mw g E Γ1 ρ σ Hf H (PV X g Γ1 ρ σ .rd Q) (f ρ)) → t σ H Q) (le : Le Γ1 Γ) : PTx X g E Γ e Γ1 (tOf f) := by
  refine ⟨le, hp.imp fun σ H Q ⟨ρ, Hf, R, k⟩ => w σ H _ ⟨ρ, Hf, R, ?_⟩⟩
  refine tG.bind (Le.refl _) k fun x F1 H1 s1 s2 R1 k1 v hv => ?_
  cases x with
  | bl b => exact ⟨b, hv, k1 F1 H1 (Same.refl _) (Same.refl _) R1⟩
  | _ => exact k1.elim
theorem ptx_val {e : Expr} {f : Env → Out D} (h : PX X g E Γ e Γ1 .rd f) (he : ∀ whole, isTrue e X.env whole = (do let v ← whole; standAt e.pos; holding [v] (truthy v)) := by intro _; rfl) : PTx X g E Γ e Γ1 (tOf f) :=
  pt_of (pt_val h.pe he) (fun _ _ _ z => z) h.le
theorem ptx_cmp {op : CmpOp} {F : D → D → Out D} (ho : OpD X (compareOp op) .rd F) (ha : PX X g E Γ a Γ1 .rd fa) (hb : PX X g E Γ1 b Γ2 .rd fb) (hm : behindInMarks op b = false) : PTx X g E Γ (.Compare a [op] [b] pos) Γ2 (tOf (e2 F fa fb)) := by
  obtain ⟨r, hr, w⟩ := ho
  refine pt_of (pt_cmpR hr ha.pe hb.pe hm) (fun σ H Q ⟨ρ, Hf, R, k⟩ => ⟨ρ, Hf, R, ?_⟩) (hb.le.trans ha.le)
  refine tG.bind hb.le k fun x F1 H1 s1 s2 R1 k1 v hv => ⟨ρ, F1, R1, ?_⟩
  refine tG.bind (Le.refl _) k1 fun y F2 H2 s3 s4 R2 k2 u hu => ?_
  exact w g E Γ2 ρ σ F2 H2 x y v u Q R2 (IsR.mono s3 s4 hv) hu k2
def bAnd (s t : Env → Out Bool) : Env → Out Bool := fun ρ => (s ρ).bind fun b => if b = true then t ρ else .ok false
def bOr (s t : Env → Out Bool) : Env → Out Bool := fun ρ => (s ρ).bind fun b => if b = true then .ok true else t ρ
def bNot (s : Env → Out Bool) : Env → Out Bool := fun ρ => (s ρ).bind fun b => .ok (!b)
variable {fs ft : Env → Out Bool} {rest : List Expr}
theorem pwx_and1 (ha : PTx X g E Γ a Γ1 fs) : PWx X g E Γ (.BoolOp .And [a] pos) Γ1 fs := ⟨ha.le, pw_and1 ha.pe⟩
theorem pwx_or1 (ha : PTx X g E Γ a Γ1 fs) : PWx X g E Γ (.BoolOp .Or [a] pos) Γ1 fs := ⟨ha.le, pw_or1 ha.pe⟩
theorem PWx.pt {e : Expr} (h : PWx X g E Γ e Γ1 fs) : PTx X g E Γ e Γ1 fs := ⟨h.le, h.pe.pt⟩
/-- .. only what stays owned on both ways stays owned -/
theorem pwx_and (ha : PTx X g E Γ a Γ1 fs) (hb : PWx X g E Γ1 (.BoolOp .And (b :: rest) pos) Γ2 ft) : PWx X g E Γ (.BoolOp .And (a :: b :: rest) pos) Γ2 (bAnd fs ft) := by
  refine ⟨hb.le.trans ha.le, (pw_and ha.pe hb.pe).imp fun σ H Q ⟨ρ, Hf, R, k⟩ => ⟨ρ, Hf, R, ?_⟩⟩
  refine tG.bind hb.le k fun x F1 H1 s1 s2 R1 k1 => ?_
  cases x with
  | true => exact ⟨ρ, F1, R1, k1⟩
  | false =>
    obtain ⟨F2, s3, R2, _⟩ := R1.frz hb.le
    exact k1 F2 H1 s3 (Same.refl _) R2
theorem pwx_or (ha : PTx X g E Γ a Γ1 fs) (hb : PWx X g E Γ1 (.BoolOp .Or (b :: rest) pos) Γ2 ft) : PWx X g E Γ (.BoolOp .Or (a :: b :: rest) pos) Γ2 (bOr fs ft) := by
  refine ⟨hb.le.trans ha.le, (pw_or ha.pe hb.pe).imp fun σ H Q ⟨ρ, Hf, R, k⟩ => ⟨ρ, Hf, R, ?_⟩⟩
  refine tG.bind hb.le k fun x F1 H1 s1 s2 R1 k1 => ?_
  cases x with
  | false => exact ⟨ρ, F1, R1, k1⟩
  | true =>
    obtain ⟨F2, s3, R2, _⟩ := R1.frz hb.le
    exact k1 F2 H1 s3 (Same.refl _) R2
theorem ptx_not (ha : PTx X g E Γ a Γ1 fs) : PTx X g E Γ (.UnaryOp .Not a pos) Γ1 (bNot fs) := by
  refine ⟨ha.le, (pt_not ha.pe).imp fun σ H Q ⟨ρ, Hf, R, k⟩ => ⟨ρ, Hf, R, ?_⟩⟩
  exact tG.bind (Le.refl _) k fun x F1 H1 s1 s2 R1 k1 => k1 F1 H1 (Same.refl _) (Same.refl _) R1
/-- .. as values -/
def vAnd (a b : Env → Out D) : Env → Out D := fun ρ => (a ρ).bind fun x => match x with
  | .bl c => if c = true then b ρ else .ok (.bl false)
  | _ => .stuck
def vOr (a b : Env → Out D) : Env → Out D := fun ρ => (a ρ).bind fun x => match x with
  | .bl c => if c = true then .ok (.bl true) else b ρ
  | _ => .stuck
theorem px_one {op} (h : PX X g E Γ a Γ1 m fa) : PX X g E Γ (.BoolOp op [a] pos) Γ1 m fa := ⟨h.le, pe_one h.pe⟩
theorem px_and (ha : PX X g E Γ a Γ1 .rd fa) (hb : PX X g E Γ1 (.BoolOp .And (b :: rest) pos) Γ2 m fb) : PX X g E Γ (.BoolOp .And (a :: b :: rest) pos) Γ2 m (vAnd fa fb) := by
  refine ⟨hb.le.trans ha.le, (pe_and ha.pe hb.pe).imp fun σ H Q ⟨ρ, Hf, R, k⟩ => ⟨ρ, Hf, R, ?_⟩⟩
  refine tG.bind hb.le k fun x F1 H1 s1 s2 R1 k1 v hv => ?_
  cases x with
  | bl c =>
    refine ⟨c, hv, ?_⟩
    cases c with
    | true => exact ⟨ρ, F1, R1, k1⟩
    | false =>
      obtain ⟨F2, s3, R2, _⟩ := R1.frz hb.le
      exact k1 F2 H1 s3 (Same.refl _) R2 (.bl false) (Res.dat R2.same rfl (by simp only [IsD]))
  | _ => exact k1.elim
theorem px_or (ha : PX X g E Γ a Γ1 .rd fa) (hb : PX X g E Γ1 (.BoolOp .Or (b :: rest) pos) Γ2 m fb) : PX X g E Γ (.BoolOp .Or (a :: b :: rest) pos) Γ2 m (vOr fa fb) := by
  refine ⟨hb.le.trans ha.le, (pe_or ha.pe hb.pe).imp fun σ H Q ⟨ρ, Hf, R, k⟩ => ⟨ρ, Hf, R, ?_⟩⟩
  refine tG.bind hb.le k fun x F1 H1 s1 s2 R1 k1 v hv => ?_
  cases x with
  | bl c =>
    refine ⟨c, hv, ?_⟩
    cases c with
    | false => exact ⟨ρ, F1, R1, k1⟩
    | true =>
      obtain ⟨F2, s3, R2, _⟩ := R1.frz hb.le
      exact k1 F2 H1 s3 (Same.refl _) R2 (.bl true) (Res.dat R2.same rfl (by simp only [IsD]))
  | _ => exact k1.elim
def vNot (a : Env → Out D) : Env → Out D := fun ρ => (a ρ).bind fun x => match x with
  | .bl c => .ok (.bl (!c))
  | _ => .stuck
theorem px_not (ha : PX X g E Γ a Γ1 .rd fa) : PX X g E Γ (.UnaryOp .Not a pos) Γ1 m (vNot fa) := by
  refine ⟨ha.le, (pe_not ha.pe).imp fun σ H Q ⟨ρ, Hf, R, k⟩ => ⟨ρ, Hf, R, ?_⟩⟩
  refine tG.bind (Le.refl _) k fun x F1 H1 s1 s2 R1 k1 v hv => ?_
  cases x with
  | bl c => exact ⟨c, hv, k1 F1 H1 (Same.refl _) (Same.refl _) R1 (.bl (!c)) (Res.dat R1.same rfl (by simp only [IsD]))⟩
  | _ => exact k1.elim
def eIf (t : Env → Out Bool) (a b : Env → Out D) : Env → Out D := fun ρ => (t ρ).bind fun c => if c = true then a ρ else b ρ
theorem px_if {c : Expr} (hc : PTx X g E Γ c Γ1 ft) (ha : PX X g E Γ1 a Γ1 m fa) (hb : PX X g E Γ1 b Γ1 m fb) : PX X g E Γ (.IfExp c a b pos) Γ1 m (eIf ft fa fb) := by
  refine ⟨hc.le, (pe_ifExp hc.pe ha.pe hb.pe).imp fun σ H Q ⟨ρ, Hf, R, k⟩ => ⟨ρ, Hf, R, ?_⟩⟩
  refine tG.bind (Le.refl _) k fun x F1 H1 s1 s2 R1 k1 => ?_
  cases x with
  | true => exact ⟨ρ, F1, R1, k1⟩
  | false => exact ⟨ρ, F1, R1, k1⟩

/-! ### arguments, displays -/
variable {es : List Expr} {fr : Env → Out (List D)}
theorem pax_nil : PAx X g E Γ [] Γ aN := by
  refine ⟨Le.refl _, pa_nil.imp fun σ H Q ⟨ρ, Hf, R, k⟩ => ?_⟩
  exact k Hf H (Same.refl _) (Same.refl _) R [] (by simp only [IsDs])
theorem pax_cons (ha : PX X g E Γ a Γ1 .fr fa) (hr : PAx X g E Γ1 es Γ2 fr) (hs : starEach (a :: es) X.env = (false, eval a X.env) :: starEach es X.env := by rfl) : PAx X g E Γ (a :: es) Γ2 (aC fa fr) := by
  refine ⟨hr.le.trans ha.le, (pa_cons ha.pe hr.pe hs).imp fun σ H Q ⟨ρ, Hf, R, k⟩ => ⟨ρ, Hf, R, ?_⟩⟩
  refine tG.bind hr.le k fun x F1 H1 s1 s2 R1 k1 v hv => ⟨ρ, F1, R1, ?_⟩
  refine tG.bind (Le.refl _) k1 fun ys F2 H2 s3 s4 R2 k2 us hu => ?_
  refine k2 F2 H2 (Same.refl _) (Same.refl _) R2 (v :: us) ?_
  simp only [IsDs]
  exact ⟨v, us, rfl, IsD.mono s3 hv, hu⟩
theorem IsDs.len {K : PySem.W.Frag} {mg : Mg} {H : Hp} : ∀ {ds : List D} {vs : List V}, IsDs K mg H ds vs → vs.length = ds.length
  | [], vs, h => by simp only [IsDs] at h; rw [h]; rfl
  | d :: ds, vs, h => by
    simp only [IsDs] at h
    obtain ⟨v, us, e, _, r⟩ := h
    rw [e, List.length_cons, List.length_cons, IsDs.len r]
noncomputable def mkTup (ds : List D) : Out D := chk (ds.length ≤ sizeLine) (.ok (.tup ds))
noncomputable def mkLst (ds : List D) : Out D := chk (ds.length ≤ sizeLine) (.ok (.lst ds))
/-- a new object, that is data -/
theorem Rp.new {K : PySem.W.Frag} {mg : Mg} {ρ : Env} {σ : St} {Hf H : Hp} (R : Rp K mg g Γ ρ σ Hf H) {p : Addr} (o : HO) (n : H p = none) : Same Hf (upd Hf p o) ∧ Same H (upd H p o) ∧ Rp K mg g Γ ρ σ (upd Hf p o) (upd H p o) := by
  have nf : Hf p = none := R.same.free n
  have n0 : g.H0 p = none := R.ent.free n
  have s1 : Same Hf (upd Hf p o) := fun b x e => by rw [upd_ne (ne_of_none e nf)]; exact e
  have s2 : Same H (upd H p o) := fun b x e => by rw [upd_ne (ne_of_none e n)]; exact e
  refine ⟨s1, s2, ⟨fun b x e => ?_, R.ent.trans s2, R.ent2.trans s1, fun b x e => ?_, R.len, fun i d ow e => ?_, fun i d ow e => ?_, R.sep⟩⟩
  · by_cases h : b = p
    · subst h; rw [upd_same] at e ⊢; exact e
    · rw [upd_ne h] at e ⊢; exact R.same _ _ e
  · by_cases h : b = p
    · subst h; exact .inr n0
    · rw [upd_ne h] at e; exact R.news _ _ e
  · obtain ⟨v, e1, io⟩ := R.own i d ow e
    refine ⟨v, e1, ?_⟩
    cases d with
    | lst ds =>
      obtain ⟨a, xs, e, z0, zf, q, r⟩ := io
      exact ⟨a, xs, e, z0, by rw [upd_ne (ne_of_none q n)]; exact zf, s2 _ _ q, IsDs.mono s1 r⟩
    | dic ds =>
      obtain ⟨a, xs, e, z0, zf, q, r⟩ := io
      exact ⟨a, xs, e, z0, by rw [upd_ne (ne_of_none q n)]; exact zf, s2 _ _ q, DicAt.mono s1 r⟩
    | _ => exact IsD.mono s1 io
  · obtain ⟨v, e1, q⟩ := R.dat i d ow e
    exact ⟨v, e1, q.mono s1⟩
/-- a new object that is owned -/
theorem Rp.newO {K : PySem.W.Frag} {mg : Mg} {ρ : Env} {σ : St} {Hf H : Hp} (R : Rp K mg g Γ ρ σ Hf H) {p : Addr} (o : HO) (n : H p = none) : Same H (upd H p o) ∧ Rp K mg g Γ ρ σ Hf (upd H p o) ∧ g.H0 p = none ∧ Hf p = none ∧
    ∀ i e, Own Γ i → ρ[i]? = some (some e) → e.mut = true → σ[i]? = some (some (.ref p)) → False := by
  have nf : Hf p = none := R.same.free n
  have n0 : g.H0 p = none := R.ent.free n
  have s2 : Same H (upd H p o) := fun b x e => by rw [upd_ne (ne_of_none e n)]; exact e
  refine ⟨s2, ⟨R.same.trans s2, R.ent.trans s2, R.ent2, R.news, R.len, fun i d ow e => ?_, R.dat, R.sep⟩, n0, nf, fun i e ow e1 m e2 => ?_⟩
  · obtain ⟨v, e1, io⟩ := R.own i d ow e
    refine ⟨v, e1, ?_⟩
    cases d with
    | lst ds =>
      obtain ⟨a, xs, e, z0, zf, q, r⟩ := io
      exact ⟨a, xs, e, z0, zf, s2 _ _ q, r⟩
    | dic ds =>
      obtain ⟨a, xs, e, z0, zf, q, r⟩ := io
      exact ⟨a, xs, e, z0, zf, s2 _ _ q, r⟩
    | _ => exact io
  · obtain ⟨v, e3, io⟩ := R.own i e ow e1
    obtain ⟨a, oo, e4, _, _, q⟩ := io.addr m
    rw [e2] at e3
    obtain rfl : V.ref p = v := Option.some.inj (Option.some.inj e3)
    obtain rfl : p = a := V.ref.inj e4
    rw [n] at q; cases q
theorem px_tup {k : Nat} (h : PAx X g E Γ es Γ1 fr) : PX X g E Γ (.Tuple es k pos) Γ1 m (eA mkTup fr) := by
  refine ⟨h.le, (pe_tup h.pe).imp fun σ H Q ⟨ρ, Hf, R, q⟩ => ⟨ρ, Hf, R, ?_⟩⟩
  refine tG.bind (Le.refl _) q fun ds F1 H1 s1 s2 R1 k1 vs hv => ?_
  unfold mkTup at k1
  by_cases z : ds.length ≤ sizeLine
  · rw [chk_pos z] at k1
    refine ⟨by rw [hv.len]; exact z, fun p n => ?_⟩
    obtain ⟨t1, t2, R2⟩ := R1.new (.tup vs) n
    refine k1 _ _ t1 t2 R2 _ (Res.dat R2.same rfl ?_)
    simp only [IsD]
    exact ⟨p, vs, rfl, .inl (.inl upd_same), IsDs.mono t1 hv⟩
  · rw [chk_neg z] at k1; exact k1.elim
theorem px_lst (h : PAx X g E Γ es Γ1 fr) : PX X g E Γ (.List es pos) Γ1 .ow (eA mkLst fr) := by
  refine ⟨h.le, (pe_lst h.pe).imp fun σ H Q ⟨ρ, Hf, R, q⟩ => ⟨ρ, Hf, R, ?_⟩⟩
  refine tG.bind (Le.refl _) q fun ds F1 H1 s1 s2 R1 k1 vs hv => ?_
  unfold mkLst at k1
  by_cases z : ds.length ≤ sizeLine
  · rw [chk_pos z] at k1
    refine ⟨by rw [hv.len]; exact z, fun p n => ?_⟩
    obtain ⟨t2, R2, n0, nf, ap⟩ := R1.newO (.lst vs) n
    exact k1 _ _ (Same.refl _) t2 R2 (.ref p) ⟨⟨p, vs, rfl, n0, nf, upd_same, hv⟩, fun i e ow e1 m _ e2 => ap i e ow e1 m e2⟩
  · rw [chk_neg z] at k1; exact k1.elim
end
end PD

namespace PD
open PySem PySem.Spec L2
open PyProof.Rows hiding St

/-! ## statements -/
structure PSx (X : Cx) (g : G) (E : WX) (ro : Bool) (Γl : List Bool) (Γ : List Bool) (st : Stmt) (Γ' : List Bool) (f : Env → SO) : Prop where
  ps : PS X st (fun Dn σ H => ∃ ρ Hf, Rp X.K X.mw g Γ ρ σ Hf H ∧ sR X.K X.mw g E Γ' Γl ro Dn (f ρ))
structure PSsx (X : Cx) (g : G) (E : WX) (ro : Bool) (Γl : List Bool) (Γ : List Bool) (st : List Stmt) (Γ' : List Bool) (f : Env → SO) : Prop where
  ps : PSs X st (fun Dn σ H => ∃ ρ Hf, Rp X.K X.mw g Γ ρ σ Hf H ∧ sR X.K X.mw g E Γ' Γl ro Dn (f ρ))
theorem _root_.L2.PS.imp {X : Cx} {e : Stmt} {t t' : TS} (h : PS X e t) (w : ∀ D σ H, t' D σ H → t D σ H) : PS X e t' :=
  ⟨fun pins s σ H D I q => h.run pins s σ H D I (w D σ H q)⟩
theorem _root_.L2.PSs.imp {X : Cx} {e : List Stmt} {t t' : TS} (h : PSs X e t) (w : ∀ D σ H, t' D σ H → t D σ H) : PSs X e t' :=
  ⟨fun pins s σ H D I q => h.run pins s σ H D I (w D σ H q)⟩
theorem _root_.L2.PG.imp {X : Cx} {e : Expr} {t t' : TG} (h : PG X e t) (w : ∀ v σ H Q, t' v σ H Q → t v σ H Q) : PG X e t' :=
  ⟨fun pins s σ H v u Q I r q => h.run pins s σ H v u Q I r (w v σ H Q q)⟩
theorem _root_.L2.PGs.imp {X : Cx} {e : List Expr} {t t' : TGs} (h : PGs X e t) (w : ∀ v σ H Q, t' v σ H Q → t v σ H Q) : PGs X e t' :=
  ⟨fun pins s σ H v u Q I r q => h.run pins s σ H v u Q I r (w v σ H Q q)⟩

/-! ### meanings -/
def sNx : Env → SO := fun ρ => .nx ρ
def sBk : Env → SO := fun ρ => .bk ρ
def sCt : Env → SO := fun ρ => .ct ρ
def SO.andThen (o : SO) (k : Env → SO) : SO := match o with
  | .nx r => k r
  | o => o
def sSeq (f k : Env → SO) : Env → SO := fun ρ => (f ρ).andThen k
def oS {α : Type} (o : Out α) (k : α → SO) : SO := match o with
  | .ok a => k a
  | .exc x => .ex x
  | .stuck => .stuck
@[simp] theorem oS_ok {α : Type} (a : α) (k : α → SO) : oS (.ok a) k = k a := rfl
@[simp] theorem oS_exc {α : Type} (x : Exn) (k : α → SO) : oS (.exc x) k = .ex x := rfl
@[simp] theorem oS_stuck {α : Type} (k : α → SO) : oS (.stuck : Out α) k = .stuck := rfl
@[simp] theorem andThen_nx (r : Env) (k : Env → SO) : (SO.nx r).andThen k = k r := rfl
@[simp] theorem andThen_rt (d : D) (k : Env → SO) : (SO.rt d).andThen k = .rt d := rfl
@[simp] theorem andThen_bk (r : Env) (k : Env → SO) : (SO.bk r).andThen k = .bk r := rfl
@[simp] theorem andThen_ct (r : Env) (k : Env → SO) : (SO.ct r).andThen k = .ct r := rfl
@[simp] theorem andThen_ex (x : Exn) (k : Env → SO) : (SO.ex x).andThen k = .ex x := rfl
@[simp] theorem andThen_stuck (k : Env → SO) : SO.stuck.andThen k = .stuck := rfl
def sSet (i : Nat) (f : Env → Out D) : Env → SO := fun ρ => oS (f ρ) fun d => .nx (ρ.set i (some d))
def sIf (t : Env → Out Bool) (a b : Env → SO) : Env → SO := fun ρ => oS (t ρ) fun c => if c = true then a ρ else b ρ
def sRet (f : Env → Out D) : Env → SO := fun ρ => oS (f ρ) .rt
def sRetN : Env → SO := fun _ => .rt .non
def sExpr (f : Env → Out D) : Env → SO := fun ρ => oS (f ρ) fun _ => .nx ρ
/-- a target: what it stores -/
def gN (i : Nat) : D → Env → Out Env := fun d ρ => .ok (ρ.set i (some d))
def gT (gs : List (D → Env → Out Env)) : D → Env → Out Env := fun d ρ => match d with
  | .tup ds => if ds.length = gs.length then (gs.zip ds).foldl (fun o p => o.bind (p.1 p.2)) (.ok ρ) else .stuck
  | .lst ds => if ds.length = gs.length then (gs.zip ds).foldl (fun o p => o.bind (p.1 p.2)) (.ok ρ) else .stuck
  | _ => .stuck
def sAsg (G : D → Env → Out Env) (f : Env → Out D) : Env → SO := fun ρ => oS (f ρ) fun d => oS (G d ρ) .nx
/-- behind a loop's turn -/
def SO.turn (o : SO) (k : Env → SO) : SO := match o with
  | .nx r => k r
  | .ct r => k r
  | .bk r => .nx r
  | o => o
@[simp] theorem turn_nx (r : Env) (k : Env → SO) : (SO.nx r).turn k = k r := rfl
@[simp] theorem turn_ct (r : Env) (k : Env → SO) : (SO.ct r).turn k = k r := rfl
@[simp] theorem turn_bk (r : Env) (k : Env → SO) : (SO.bk r).turn k = .nx r := rfl
@[simp] theorem turn_rt (d : D) (k : Env → SO) : (SO.rt d).turn k = .rt d := rfl
@[simp] theorem turn_ex (x : Exn) (k : Env → SO) : (SO.ex x).turn k = .ex x := rfl
@[simp] theorem turn_stuck (k : Env → SO) : SO.stuck.turn k = .stuck := rfl
/-- a loop over items -/
def forL (G : D → Env → Out Env) (b : Env → SO) : List D → Env → SO
  | [], ρ => .nx ρ
  | d :: ds, ρ => oS (G d ρ) fun ρ1 => (b ρ1).turn fun r => forL G b ds r
def sFor (G : D → Env → Out Env) (it : Env → Out (List D)) (b : Env → SO) : Env → SO := fun ρ => oS (it ρ) fun ds => forL G b ds ρ
def whileN (t : Env → Out Bool) (b : Env → SO) : Nat → Env → SO
  | 0, _ => .stuck
  | n + 1, ρ => oS (t ρ) fun c => if c = true then (b ρ).turn fun r => whileN t b n r else .nx ρ
open Classical in
noncomputable def sWhile (t : Env → Out Bool) (b : Env → SO) : Env → SO := fun ρ => if h : ∃ n, whileN t b n ρ ≠ .stuck then whileN t b (Classical.choose h) ρ else .stuck
theorem whileN_more {t : Env → Out Bool} {b : Env → SO} : ∀ {n : Nat} {ρ : Env}, whileN t b n ρ ≠ .stuck → ∀ m, n ≤ m → whileN t b m ρ = whileN t b n ρ
  | 0, ρ, h, _, _ => absurd rfl h
  | n + 1, ρ, h, 0, l => absurd l (by omega)
  | n + 1, ρ, h, m + 1, l => by
    unfold whileN at h ⊢
    cases ht : t ρ with
    | ok c =>
      rw [ht] at h
      simp only [oS_ok] at h ⊢
      cases c with
      | true =>
        simp only [if_true] at h ⊢
        cases hb : b ρ with
        | nx r => rw [hb] at h; exact whileN_more h m (by omega)
        | ct r => rw [hb] at h; exact whileN_more h m (by omega)
        | _ => rfl
      | false => rfl
    | exc x => rfl
    | stuck => rfl
theorem sWhile_eq {t : Env → Out Bool} {b : Env → SO} {n : Nat} {ρ : Env} (h : whileN t b n ρ ≠ .stuck) : sWhile t b ρ = whileN t b n ρ := by
  have hx : ∃ n, whileN t b n ρ ≠ .stuck := ⟨n, h⟩
  have hc := Classical.choose_spec hx
  unfold sWhile
  rw [dif_pos hx]
  rcases Nat.le_total (Classical.choose hx) n with l | l
  · exact (whileN_more hc n l).symm
  · exact whileN_more h _ l
theorem sWhile_some {t : Env → Out Bool} {b : Env → SO} {ρ : Env} (h : sWhile t b ρ ≠ .stuck) : ∃ n, whileN t b n ρ = sWhile t b ρ := by
  unfold sWhile at h ⊢
  by_cases hx : ∃ n, whileN t b n ρ ≠ .stuck
  · rw [dif_pos hx]; exact ⟨_, rfl⟩
  · rw [dif_neg hx] at h; exact absurd rfl h

section
variable {X : Cx} {g : G} {E : WX} {ro : Bool} {Γl Γ Γ1 Γ2 Γ3 : List Bool} {m : Md} {pos : Pos}

/-! ### small ones -/
theorem sR.imp {Dn Dn' : Ends} {o : SO} (h : sR X.K X.mw g E Γ1 Γl ro Dn o) (w : ∀ ρ σ Hf H, o = .nx ρ → Rp X.K X.mw g Γ1 ρ σ Hf H → Dn.nx σ H → Dn'.nx σ H) (e1 : Dn'.rt = Dn.rt) (e2 : Dn'.bk = Dn.bk) (e3 : Dn'.ct = Dn.ct) : sR X.K X.mw g E Γ1 Γl ro Dn' o := by
  cases o with
  | nx ρ => exact fun σ Hf H R => w ρ σ Hf H rfl R (h σ Hf H R)
  | rt d => unfold sR at h ⊢; rw [e1]; exact h
  | bk ρ => unfold sR at h ⊢; rw [e2]; exact h
  | ct ρ => unfold sR at h ⊢; rw [e3]; exact h
  | ex x => exact h
  | stuck => exact h
theorem pssx_nil : PSsx X g E ro Γl Γ [] Γ sNx := ⟨pss_nil.imp fun D σ H ⟨ρ, Hf, R, q⟩ => q σ Hf H R⟩
theorem psx_pass : PSx X g E ro Γl Γ (.Pass pos) Γ sNx := ⟨ps_pass.imp fun D σ H ⟨ρ, Hf, R, q⟩ => q σ Hf H R⟩
theorem psx_break : PSx X g E ro Γl Γl (.Break pos) Γ sBk := ⟨ps_break.imp fun D σ H ⟨ρ, Hf, R, q⟩ => q σ Hf H R⟩
theorem psx_cont : PSx X g E ro Γl Γl (.Continue pos) Γ sCt := ⟨ps_continue.imp fun D σ H ⟨ρ, Hf, R, q⟩ => q σ Hf H R⟩
theorem psx_doc {x j pos'} : PSx X g E ro Γl Γ (.Expr (.Constant (.str x) j pos) pos') Γ sNx := ⟨ps_doc.imp fun D σ H ⟨ρ, Hf, R, q⟩ => q σ Hf H R⟩
theorem pssx_one {st : Stmt} {f : Env → SO} (h : PSx X g E ro Γl Γ st Γ1 f) : PSsx X g E ro Γl Γ [st] Γ1 f := ⟨pss_one h.ps⟩
theorem pssx_cons {st : Stmt} {r : List Stmt} {f k : Env → SO} (h : PSx X g E ro Γl Γ st Γ1 f) (hr : PSsx X g E ro Γl Γ1 r Γ2 k) : PSsx X g E ro Γl Γ (st :: r) Γ2 (sSeq f k) := by
  refine ⟨(pss_cons h.ps hr.ps).imp fun D σ H ⟨ρ, Hf, R, q⟩ => ⟨ρ, Hf, R, ?_⟩⟩
  unfold sSeq at q
  cases hf : f ρ with
  | nx r => rw [hf] at q; exact fun σ' Hf' H' R' => ⟨r, Hf', R', q⟩
  | rt d => rw [hf] at q; exact q
  | bk r => rw [hf] at q; exact q
  | ct r => rw [hf] at q; exact q
  | ex x => rw [hf] at q; exact q
  | stuck => rw [hf] at q; exact q
/-- less is owned behind it -/
theorem sR.less {Dn : Ends} {o : SO} (le : Le Γ2 Γ1) (h : sR X.K X.mw g E Γ2 Γl ro Dn o) : sR X.K X.mw g E Γ1 Γl ro Dn o := by
  cases o with
  | nx ρ =>
    intro σ Hf H R
    obtain ⟨F', s1, R', _⟩ := R.frz le
    exact h σ F' H R'
  | _ => exact h
theorem PSsx.less {st : List Stmt} {f : Env → SO} (h : PSsx X g E ro Γl Γ st Γ1 f) (le : Le Γ2 Γ1) : PSsx X g E ro Γl Γ st Γ2 f :=
  ⟨h.ps.imp fun D σ H ⟨ρ, Hf, R, q⟩ => ⟨ρ, Hf, R, q.less le⟩⟩
theorem PSx.less {st : Stmt} {f : Env → SO} (h : PSx X g E ro Γl Γ st Γ1 f) (le : Le Γ2 Γ1) : PSx X g E ro Γl Γ st Γ2 f :=
  ⟨h.ps.imp fun D σ H ⟨ρ, Hf, R, q⟩ => ⟨ρ, Hf, R, q.less le⟩⟩
/-- less is owned ahead of it -/
theorem PSx.pre {st : Stmt} {f : Env → SO} (h : PSx X g E ro Γl Γ st Γ1 f) (le : Le Γ Γ2) : PSx X g E ro Γl Γ2 st Γ1 f :=
  ⟨h.ps.imp fun D σ H ⟨ρ, Hf, R, q⟩ => by
    obtain ⟨F', s1, R', _⟩ := R.frz le
    exact ⟨ρ, F', R', q⟩⟩
/-- nothing comes behind it: any flags -/
theorem sR.any {Dn : Ends} {o : SO} (n : ∀ ρ, o ≠ .nx ρ) (h : sR X.K X.mw g E Γ2 Γl ro Dn o) : sR X.K X.mw g E Γ1 Γl ro Dn o := by
  cases o with
  | nx ρ => exact absurd rfl (n ρ)
  | _ => exact h
theorem tG.toS {Dn : Ends} {Γ1 : List Bool} {ρ : Env} {σ : St} {Hf H : Hp} {α : Type} {P : α → Hp → Hp → Prop} {o : Out α} {k : α → SO} (h : sR X.K X.mw g E Γ2 Γl ro Dn (oS o k))
    (hk : ∀ a Hf' H', Same Hf Hf' → Same H H' → Rp X.K X.mw g Γ1 ρ σ Hf' H' → sR X.K X.mw g E Γ2 Γl ro Dn (k a) → P a Hf' H') : tG X.K X.mw g E Γ1 ρ σ Hf H P o := by
  cases o with
  | ok a => exact fun F1 H1 s1 s2 R1 => hk a F1 H1 s1 s2 R1 h
  | exc x => exact fun c dd F1 H1 s1 s2 R1 q => h c dd σ H1 R1.ent q
  | stuck => exact h
theorem psx_expr {e : Expr} {f : Env → Out D} (he : PX X g E Γ e Γ1 .rd f) (hs : swapsWith e none pos.line X.env = pure false := by rfl) : PSx X g E ro Γl Γ (.Expr e pos) Γ1 (sExpr f) := by
  refine ⟨(ps_expr he.pe hs).imp fun D σ H ⟨ρ, Hf, R, q⟩ => ⟨ρ, Hf, R, tG.toS q fun d F1 H1 s1 s2 R1 k v hv => k σ F1 H1 R1⟩⟩
theorem psx_ret {e : Expr} {f : Env → Out D} (he : PX X g E Γ e Γ1 .fr f) : PSx X g E false Γl Γ (.Return (some e) pos) Γ2 (sRet f) := by
  refine ⟨(ps_ret he.pe).imp fun D σ H ⟨ρ, Hf, R, q⟩ => ⟨ρ, Hf, R, tG.toS q fun d F1 H1 s1 s2 R1 k v hv => ?_⟩⟩
  exact k v F1 H1 R1.same R1.ent R1.ent2 R1.news (by unfold RetRes; rw [if_neg Bool.false_ne_true]; exact hv)
theorem psx_retO {e : Expr} {f : Env → Out D} (he : PX X g E Γ e Γ1 .ow f) : PSx X g E true Γl Γ (.Return (some e) pos) Γ2 (sRet f) := by
  refine ⟨(ps_ret he.pe).imp fun D σ H ⟨ρ, Hf, R, q⟩ => ⟨ρ, Hf, R, tG.toS q fun d F1 H1 s1 s2 R1 k v hv => ?_⟩⟩
  exact k v F1 H1 R1.same R1.ent R1.ent2 R1.news (by unfold RetRes; rw [if_pos rfl]; exact hv.1)
/-- return x, x owned -/
theorem psx_retV {x : Str} {i : Nat} {p : Pos} (h : PE X (.Name x p) (tVar i)) (o : Γ.getD i false = true) : PSx X g E true Γl Γ (.Return (some (.Name x p)) pos) Γ2 (sRet (eV i)) := by
  refine ⟨(ps_ret h).imp fun D σ H ⟨ρ, Hf, R, q⟩ => ?_⟩
  unfold sRet at q
  cases he : eV i ρ with
  | ok d =>
    rw [he] at q
    obtain ⟨v, e1, io⟩ := R.own i d o (eV_ok he)
    exact ⟨v, e1, q v Hf H R.same R.ent R.ent2 R.news (by unfold RetRes; rw [if_pos rfl]; exact io)⟩
  | exc x => exact (eV_nx he).elim
  | stuck => rw [he] at q; exact q.elim
theorem psx_retN : PSx X g E ro Γl Γ (.Return none pos) Γ2 sRetN := by
  refine ⟨ps_retN.imp fun D σ H ⟨ρ, Hf, R, q⟩ => ?_⟩
  refine q .non Hf H R.same R.ent R.ent2 R.news ?_
  unfold RetRes
  cases ro <;> simp [IsO, IsD]
theorem psx_if {c : Expr} {a b : List Stmt} {ft : Env → Out Bool} {fa fb : Env → SO} (hc : PTx X g E Γ c Γ1 ft) (ha : PSsx X g E ro Γl Γ1 a Γ2 fa) (hb : PSsx X g E ro Γl Γ1 b Γ2 fb) : PSx X g E ro Γl Γ (.If c a b pos) Γ2 (sIf ft fa fb) := by
  refine ⟨(ps_if hc.pe ha.ps hb.ps).imp fun D σ H ⟨ρ, Hf, R, q⟩ => ⟨ρ, Hf, R, tG.toS q fun d F1 H1 s1 s2 R1 k => ?_⟩⟩
  cases d with
  | true => exact ⟨ρ, F1, R1, k⟩
  | false => exact ⟨ρ, F1, R1, k⟩

/-! ### stores -/
theorem getD_set {Γ : List Bool} {i j : Nat} {b : Bool} : (Γ.set i b).getD j false = if i = j ∧ i < Γ.length then b else Γ.getD j false := by
  rw [List.getD_eq_getElem?_getD, List.getElem?_set, List.getD_eq_getElem?_getD]
  by_cases e : i = j
  · subst e
    by_cases l : i < Γ.length
    · simp [l]
    · simp [l]
  · simp [e]
theorem set_get {α : Type} {l : List (Option α)} {i j : Nat} {x y : α} (h : (l.set i (some x))[j]? = some (some y)) : (i = j ∧ i < l.length ∧ x = y) ∨ (i ≠ j ∧ l[j]? = some (some y)) := by
  rw [List.getElem?_set] at h
  by_cases e : i = j
  · rw [if_pos e] at h
    by_cases l' : i < l.length
    · rw [if_pos l'] at h; exact .inl ⟨e, l', Option.some.inj (Option.some.inj h)⟩
    · rw [if_neg l'] at h; cases h
  · rw [if_neg e] at h; exact .inr ⟨e, h⟩
theorem Rp.setF {K : PySem.W.Frag} {mg : Mg} {ρ : Env} {σ : St} {Hf H : Hp} (R : Rp K mg g Γ ρ σ Hf H) {i : Nat} {d : D} {v : V} (h : IsD K mg Hf d v) : Rp K mg g (Γ.set i false) (ρ.set i (some d)) (σ.set i (some v)) Hf H := by
  have ne : ∀ {j}, Own (Γ.set i false) j → i ≠ j ∨ ¬ i < Γ.length := fun {j} o => by
    unfold Own at o; rw [getD_set] at o
    by_cases z : i = j ∧ i < Γ.length
    · rw [if_pos z] at o; cases o
    · by_cases e : i = j
      · exact .inr fun l => z ⟨e, l⟩
      · exact .inl e
  have ow : ∀ {j}, Own (Γ.set i false) j → i ≠ j ∧ Own Γ j := fun {j} o => by
    have o' := Le.set Γ i j o
    refine ⟨fun e => ?_, o'⟩
    rcases ne o with z | z
    · exact z e
    · subst e
      unfold Own at o'
      rw [List.getD_eq_getElem?_getD, List.getElem?_eq_none (by omega)] at o'
      simp at o'
  have sg : ∀ {j}, i ≠ j → (σ.set i (some v))[j]? = σ[j]? := fun {j} e => by rw [List.getElem?_set]; simp [e]
  refine ⟨R.same, R.ent, R.ent2, R.news, by simp [R.len], fun j d' o e => ?_, fun j d' o e => ?_, fun j k d' e v n o1 o2 e1 e2 m1 m2 s1 s2 => ?_⟩
  · obtain ⟨nij, oΓ⟩ := ow o
    rcases set_get e with ⟨e', _⟩ | ⟨_, e'⟩
    · exact absurd e' nij
    · rw [sg nij]; exact R.own j d' oΓ e'
  · rcases set_get e with ⟨rfl, l, rfl⟩ | ⟨nij, e'⟩
    · exact ⟨v, by rw [List.getElem?_set_self (by rw [R.len]; exact l)], h⟩
    · rw [sg nij]
      refine R.dat j d' (fun z => o ?_) e'
      unfold Own; rw [getD_set, if_neg (fun q => nij q.1)]; exact z
  · obtain ⟨n1, p1⟩ := ow o1
    obtain ⟨n2, p2⟩ := ow o2
    rw [sg n1] at s1; rw [sg n2] at s2
    rcases set_get e1 with ⟨z, _⟩ | ⟨_, e1'⟩
    · exact n1 z
    · rcases set_get e2 with ⟨z, _⟩ | ⟨_, e2'⟩
      · exact n2 z
      · exact R.sep j k d' e _ n p1 p2 e1' e2' m1 m2 s1 s2
theorem Rp.setO {K : PySem.W.Frag} {mg : Mg} {ρ : Env} {σ : St} {Hf H : Hp} (R : Rp K mg g Γ ρ σ Hf H) {i : Nat} {d : D} {v : V} (hi : i < Γ.length) (h : IsO K mg g.H0 Hf H d v)
    (ap : ∀ i e, Own Γ i → ρ[i]? = some (some e) → e.mut = true → d.mut = true → σ[i]? = some (some v) → False) : Rp K mg g (Γ.set i true) (ρ.set i (some d)) (σ.set i (some v)) Hf H := by
  have sg : ∀ {j}, i ≠ j → (σ.set i (some v))[j]? = σ[j]? := fun {j} e => by rw [List.getElem?_set]; simp [e]
  have ow : ∀ {j}, i ≠ j → (Own (Γ.set i true) j ↔ Own Γ j) := fun {j} e => by unfold Own; rw [getD_set, if_neg fun q => e q.1]
  have oi : Own (Γ.set i true) i := by unfold Own; rw [getD_set, if_pos ⟨rfl, hi⟩]
  refine ⟨R.same, R.ent, R.ent2, R.news, by simp [R.len], fun j d' o e => ?_, fun j d' o e => ?_, fun j k d' e v' n o1 o2 e1 e2 m1 m2 s1 s2 => ?_⟩
  · rcases set_get e with ⟨rfl, l, rfl⟩ | ⟨nij, e'⟩
    · exact ⟨v, by rw [List.getElem?_set_self (by rw [R.len]; exact l)], h⟩
    · rw [sg nij]; exact R.own j d' ((ow nij).mp o) e'
  · rcases set_get e with ⟨rfl, l, rfl⟩ | ⟨nij, e'⟩
    · exact absurd oi o
    · rw [sg nij]; exact R.dat j d' (fun z => o ((ow nij).mpr z)) e'
  · rcases set_get e1 with ⟨rfl, l1, rfl⟩ | ⟨n1, e1'⟩
    · rcases set_get e2 with ⟨rfl, _⟩ | ⟨n2, e2'⟩
      · exact n rfl
      · rw [sg n2] at s2
        rw [List.getElem?_set_self (by rw [R.len]; exact l1)] at s1
        obtain rfl : v = v' := Option.some.inj (Option.some.inj s1)
        exact ap k e ((ow n2).mp o2) e2' m2 m1 s2
    · rw [sg n1] at s1
      rcases set_get e2 with ⟨rfl, l2, rfl⟩ | ⟨n2, e2'⟩
      · rw [List.getElem?_set_self (by rw [R.len]; exact l2)] at s2
        obtain rfl : v = v' := Option.some.inj (Option.some.inj s2)
        exact ap j d' ((ow n1).mp o1) e1' m1 m2 s1
      · rw [sg n2] at s2
        exact R.sep j k d' e v' n ((ow n1).mp o1) ((ow n2).mp o2) e1' e2' m1 m2 s1 s2
/-- x = e, data -/
theorem psx_set {i : Nat} {x : Str} {e : Expr} {p : Pos} {f : Env → Out D} (hN : X.N.Nodup) (hi : X.N[i]? = some x) (hx : Loc X.env.scope x) (he : PX X g E Γ e Γ1 .fr f) (hf : X.fn x = true ∨ X.env.scope.names.lookup x = some .local := by first | exact .inl rfl | exact .inr rfl | assumption) (hs : swapsWith e (some (.Name x p)) pos.line X.env = pure false := by rfl) :
    PSx X g E ro Γl Γ (.Assign [.Name x p] e pos) (Γ1.set i false) (sSet i f) := by
  refine ⟨(ps_set hN hi hx he.pe hs hf).imp fun D σ H ⟨ρ, Hf, R, q⟩ => ⟨ρ, Hf, R, tG.toS q fun d F1 H1 s1 s2 R1 k v hv => ?_⟩⟩
  exact k _ F1 H1 (R1.setF hv)
/-- x = e, owned -/
theorem psx_setO {i : Nat} {x : Str} {e : Expr} {p : Pos} {f : Env → Out D} (hN : X.N.Nodup) (hi : X.N[i]? = some x) (hx : Loc X.env.scope x) (he : PX X g E Γ e Γ1 .ow f) (hl : i < Γ1.length) (hf : X.fn x = true ∨ X.env.scope.names.lookup x = some .local := by first | exact .inl rfl | exact .inr rfl | assumption) (hs : swapsWith e (some (.Name x p)) pos.line X.env = pure false := by rfl) :
    PSx X g E ro Γl Γ (.Assign [.Name x p] e pos) (Γ1.set i true) (sSet i f) := by
  refine ⟨(ps_set hN hi hx he.pe hs hf).imp fun D σ H ⟨ρ, Hf, R, q⟩ => ⟨ρ, Hf, R, tG.toS q fun d F1 H1 s1 s2 R1 k v hv => ?_⟩⟩
  exact k _ F1 H1 (R1.setO hl hv.1 hv.2)

/-! ### targets -/
structure PGx (X : Cx) (g : G) (Γ : List Bool) (tg : Expr) (Γ' : List Bool) (F : D → Env → Out Env) (vs : List Nat) : Prop where
  pg : PG X tg (fun v σ H Q => ∃ d ρ Hf, Rp X.K X.mw g Γ ρ σ Hf H ∧ IsD X.K X.mw Hf d v ∧ ∃ ρ', F d ρ = .ok ρ' ∧ ∀ σ', (∀ i, i ∉ vs → σ'[i]? = σ[i]?) → Rp X.K X.mw g Γ' ρ' σ' Hf H → Q σ' H)
  ag : ∀ d ρ ρ', F d ρ = .ok ρ' → (∀ i, i ∉ vs → ρ'[i]? = ρ[i]?) ∧ ρ'.length = ρ.length
structure PGsx (X : Cx) (g : G) (Γ : List Bool) (tg : List Expr) (Γ' : List Bool) (Fs : List (D → Env → Out Env)) (ws : List Nat) : Prop where
  pg : PGs X tg (fun vs σ H Q => ∃ ds ρ Hf, Rp X.K X.mw g Γ ρ σ Hf H ∧ IsDs X.K X.mw Hf ds vs ∧ ds.length = Fs.length ∧ ∃ ρ', (Fs.zip ds).foldl (fun o p => o.bind (p.1 p.2)) (Out.ok ρ) = .ok ρ' ∧ ∀ σ', (∀ i, i ∉ ws → σ'[i]? = σ[i]?) → Rp X.K X.mw g Γ' ρ' σ' Hf H → Q σ' H)
  ag : ∀ ds ρ ρ', (Fs.zip ds).foldl (fun o p => o.bind (p.1 p.2)) (Out.ok ρ) = .ok ρ' → (∀ i, i ∉ ws → ρ'[i]? = ρ[i]?) ∧ ρ'.length = ρ.length
theorem foldl_bad {l : List ((D → Env → Out Env) × D)} {o : Out Env} (h : ∀ r, o ≠ .ok r) : ∀ r, l.foldl (fun o p => o.bind (p.1 p.2)) o ≠ .ok r := by
  induction l generalizing o with
  | nil => exact h
  | cons p l ih =>
    intro r
    rw [List.foldl_cons]
    refine ih (fun r' => ?_) r
    cases o with
    | ok a => exact absurd rfl (h a)
    | exc x => intro z; cases z
    | stuck => intro z; cases z
theorem pgx_name {i : Nat} {x : Str} (hN : X.N.Nodup) (hi : X.N[i]? = some x) (hx : Loc X.env.scope x) (hf : X.fn x = true ∨ X.env.scope.names.lookup x = some .local := by first | exact .inl rfl | exact .inr rfl | assumption) : PGx X g Γ (.Name x pos) (Γ.set i false) (gN i) [i] :=
  ⟨(pg_name hN hi hx hf).imp fun v σ H Q ⟨d, ρ, Hf, R, h, ρ', e, q⟩ => by
    cases e
    exact q _ (fun j nj => by rw [List.getElem?_set_ne (fun z => nj (by simp [z]))]) (R.setF h), fun d ρ ρ' e => by
    cases e
    exact ⟨fun j nj => by rw [List.getElem?_set_ne (fun z => nj (by simp [z]))], by simp⟩⟩
theorem pgsx_nil : PGsx X g Γ [] Γ [] [] := ⟨pgs_nil.imp fun vs σ H Q ⟨ds, ρ, Hf, R, h, l, ρ', e, q⟩ => (by
  cases ds with
  | nil =>
    simp only [IsDs] at h
    cases e
    exact ⟨h, q σ (fun _ _ => rfl) R⟩
  | cons d ds => cases l), fun ds ρ ρ' e => by
  cases e; exact ⟨fun _ _ => rfl, rfl⟩⟩
theorem pgsx_cons {t : Expr} {ts : List Expr} {F : D → Env → Out Env} {Fs : List (D → Env → Out Env)} {ws us : List Nat} (h1 : PGx X g Γ t Γ1 F ws) (h2 : PGsx X g Γ1 ts Γ2 Fs us)
    (hs : (assignEach (t :: ts) X.env).map (·.2) = assign t X.env :: (assignEach ts X.env).map (·.2) := by rfl) : PGsx X g Γ (t :: ts) Γ2 (F :: Fs) (ws ++ us) :=
  ⟨(pgs_cons h1.pg h2.pg hs).imp fun vs σ H Q ⟨ds, ρ, Hf, R, h, l, ρ', e, q⟩ => (by
    cases ds with
    | nil => cases l
    | cons d ds =>
      simp only [IsDs] at h
      obtain ⟨v, us', ev, hv, hr⟩ := h
      subst ev
      rw [List.zip_cons_cons, List.foldl_cons] at e
      cases hF : F d ρ with
      | ok ρ1 =>
        simp only [Out.bind_ok, hF] at e
        exact ⟨v, us', rfl, d, ρ, Hf, R, hv, ρ1, hF, fun σ1 a1 R1 => ⟨ds, ρ1, Hf, R1, hr, by simpa using l, ρ', e, fun σ' a2 R2 => q σ' (fun j nj => (a2 j fun z => nj (List.mem_append_right _ z)).trans (a1 j fun z => nj (List.mem_append_left _ z))) R2⟩⟩
      | exc x => simp only [Out.bind_ok, hF] at e; exact absurd e (foldl_bad (fun r z => by cases z) ρ')
      | stuck => simp only [Out.bind_ok, hF] at e; exact absurd e (foldl_bad (fun r z => by cases z) ρ')), fun ds ρ ρ' e => by
    cases ds with
    | nil => cases e; exact ⟨fun _ _ => rfl, rfl⟩
    | cons d ds =>
      rw [List.zip_cons_cons, List.foldl_cons] at e
      cases hF : F d ρ with
      | ok ρ1 =>
        simp only [Out.bind_ok, hF] at e
        exact ⟨fun j nj => ((h2.ag _ _ _ e).1 j fun z => nj (List.mem_append_right _ z)).trans ((h1.ag _ _ _ hF).1 j fun z => nj (List.mem_append_left _ z)), (h2.ag _ _ _ e).2.trans (h1.ag _ _ _ hF).2⟩
      | exc x => simp only [Out.bind_ok, hF] at e; exact absurd e (foldl_bad (fun r z => by cases z) ρ')
      | stuck => simp only [Out.bind_ok, hF] at e; exact absurd e (foldl_bad (fun r z => by cases z) ρ')⟩
theorem _root_.L2.PG.or {e : Expr} {t t' : TG} (h : PG X e t) (h' : PG X e t') : PG X e (fun v σ H Q => t v σ H Q ∨ t' v σ H Q) :=
  ⟨fun pins s σ H v u Q I r q => q.elim (h.run pins s σ H v u Q I r) (h'.run pins s σ H v u Q I r)⟩
theorem pgx_tup {ts : List Expr} {k : Nat} {Fs : List (D → Env → Out Env)} {ws : List Nat} (hc : X.calm = true) (h : PGsx X g Γ ts Γ1 Fs ws) (hn : (assignEach ts X.env).length = Fs.length := by rfl) (hst : (assignEach ts X.env).findIdx? (·.1) = none := by rfl) :
    PGx X g Γ (.Tuple ts k pos) Γ1 (gT Fs) ws :=
  ⟨((pg_tup hc h.pg hn hst).or (pg_unl hc h.pg hn hst)).imp fun v σ H Q ⟨d, ρ, Hf, R, h', ρ', e, q⟩ => (by
    cases d with
    | tup ds =>
      simp only [IsD] at h'
      obtain ⟨a, xs, ev, hq, hr⟩ := h'
      unfold gT at e
      simp only at e
      by_cases l : ds.length = Fs.length
      · rw [if_pos l] at e
        exact .inl ⟨a, xs, ev, Same.seqT R.same hq, by rw [hr.len, l], ds, ρ, Hf, R, hr, l, ρ', e, q⟩
      · rw [if_neg l] at e; cases e
    | lst ds =>
      simp only [IsD] at h'
      obtain ⟨a, xs, ev, hq, hr⟩ := h'
      unfold gT at e
      simp only at e
      by_cases l : ds.length = Fs.length
      · rw [if_pos l] at e
        exact .inr ⟨a, xs, ev, .of (R.same _ _ hq), by rw [hr.len, l], ds, ρ, Hf, R, hr, l, ρ', e, q⟩
      · rw [if_neg l] at e; cases e
    | _ => cases e), fun d ρ ρ' e => by
    unfold gT at e
    cases d with
    | tup ds =>
      simp only at e
      by_cases l : ds.length = Fs.length
      · rw [if_pos l] at e; exact h.ag _ _ _ e
      · rw [if_neg l] at e; cases e
    | lst ds =>
      simp only at e
      by_cases l : ds.length = Fs.length
      · rw [if_pos l] at e; exact h.ag _ _ _ e
      · rw [if_neg l] at e; cases e
    | _ => cases e⟩
theorem psx_asg {tg e : Expr} {F : D → Env → Out Env} {f : Env → Out D} (he : PX X g E Γ e Γ1 .fr f) {ws : List Nat} (hg : PGx X g Γ1 tg Γ2 F ws) (nx : ∀ d ρ x, F d ρ ≠ .exc x) (hs : swapsWithSole [tg] e pos.line X.env = pure false := by rfl) (hw : swappedStores [tg] e X.env = pure none := by rfl)
    (h1 : (assignEach [tg] X.env).map (·.2) = [assign tg X.env] := by rfl) : PSx X g E ro Γl Γ (.Assign [tg] e pos) Γ2 (sAsg F f) := by
  refine ⟨(ps_asg he.pe hg.pg hs hw h1).imp fun D σ H ⟨ρ, Hf, R, q⟩ => ⟨ρ, Hf, R, tG.toS q fun d F1 H1 s1 s2 R1 k v hv => ?_⟩⟩
  cases hF : F d ρ with
  | ok ρ' => rw [hF] at k; exact ⟨d, ρ, F1, R1, hv, ρ', hF, fun σ' _ R' => k σ' F1 H1 R'⟩
  | exc x => exact absurd hF (nx d ρ x)
  | stuck => rw [hF] at k; exact k.elim
theorem gN_nx {i : Nat} : ∀ d ρ x, gN i d ρ ≠ .exc x := fun d ρ x z => by cases z
theorem gT_nx {Fs : List (D → Env → Out Env)} (h : ∀ F ∈ Fs, ∀ d ρ x, F d ρ ≠ .exc x) : ∀ d ρ x, gT Fs d ρ ≠ .exc x := by
  have key : ∀ (l : List ((D → Env → Out Env) × D)) (o : Out Env), (∀ x, o ≠ .exc x) → (∀ p ∈ l, ∀ d ρ x, p.1 d ρ ≠ .exc x) → ∀ x, l.foldl (fun o p => o.bind (p.1 p.2)) o ≠ .exc x := by
    intro l
    induction l with
    | nil => intro o h _; exact h
    | cons p l ih =>
      intro o ho hl
      rw [List.foldl_cons]
      refine ih _ (fun x => ?_) fun q hq => hl q (List.mem_cons_of_mem _ hq)
      cases o with
      | ok a => exact hl p List.mem_cons_self p.2 a x
      | exc y => exact absurd rfl (ho y)
      | stuck => intro z; cases z
  intro d ρ x
  unfold gT
  cases d with
  | tup ds =>
    simp only
    by_cases l : ds.length = Fs.length
    · rw [if_pos l]
      refine key _ _ (fun x z => by cases z) (fun p hp => ?_) x
      exact h p.1 (List.of_mem_zip hp).1
    · rw [if_neg l]; intro z; cases z
  | lst ds =>
    simp only
    by_cases l : ds.length = Fs.length
    · rw [if_pos l]
      refine key _ _ (fun x z => by cases z) (fun p hp => ?_) x
      exact h p.1 (List.of_mem_zip hp).1
    · rw [if_neg l]; intro z; cases z
  | _ => intro z; cases z
end
end PD

namespace PD
open PySem PySem.Spec L2
open PyProof.Rows hiding St

theorem _root_.L2.PI.imp {X : Cx} {tg e : Expr} {t t' : TI} (h : PI X tg e t) (w : ∀ σ H Q, t' σ H Q → t σ H Q) : PI X tg e t' :=
  ⟨fun pins s σ H R I q => h.run pins s σ H R I (w σ H R q)⟩

/-! ## what is walked -/
def Walks (K : PySem.W.Frag) (mg : Mg) (H0 : Hp) (J : It) (F1 : Hp) (ds : List D) : Prop :=
  ∀ (g : G) Γ ρ σ Hf H, Same F1 Hf → Rp K mg g Γ ρ σ Hf H → ∀ i,
    (∀ d, ds[i]? = some d → J.go i H ∧ ∀ x H', J.yld i H x H' → ∃ Hf', Same Hf Hf' ∧ Same H H' ∧ Rp K mg g Γ ρ σ Hf' H' ∧ IsD K mg Hf' d x) ∧ (ds.length ≤ i → J.stop i H)
structure PIx (X : Cx) (g : G) (E : WX) (Γ : List Bool) (tg iter : Expr) (Γ' : List Bool) (f : Env → Out (List D)) : Prop where
  le : Le Γ' Γ
  pi : PI X tg iter (fun σ H R => ∃ ρ Hf, Rp X.K X.mw g Γ ρ σ Hf H ∧ tG X.K X.mw g E Γ' ρ σ Hf H (fun ds Hf' H' => ∀ J, Walks X.K X.mw g.H0 J Hf' ds → R J H') (f ρ))
def iSeq (f : Env → Out D) : Env → Out (List D) := fun ρ => (f ρ).bind fun d => match d with
  | .lst ds => .ok ds
  | .tup ds => .ok ds
  | .scr ns => .ok (ns.map .int)
  | _ => .stuck
noncomputable def rng1 : List D → Out (List D)
  | [.int j] => chk (-(2 ^ 62) ≤ j ∧ j < 2 ^ 62) (.ok ((List.range j.toNat).map fun (n : Nat) => .int n))
  | _ => .stuck
noncomputable def rng2 : List D → Out (List D)
  | [.int i, .int j] => chk ((-(2 ^ 62) ≤ i ∧ i < 2 ^ 62) ∧ -(2 ^ 62) ≤ j ∧ j < 2 ^ 62) (.ok ((List.range (j - i).toNat).map fun (n : Nat) => .int (i + n)))
  | _ => .stuck
noncomputable def iRange1 (f : Env → Out (List D)) : Env → Out (List D) := fun ρ => (f ρ).bind rng1
noncomputable def iRange2 (f : Env → Out (List D)) : Env → Out (List D) := fun ρ => (f ρ).bind rng2

section
variable {X : Cx} {tg : Expr}
/-- a list or a tuple -/
theorem pi_any {l : Expr} {tl : TE} (hl : PE X l tl) : PI X tg l (fun σ H R => tl σ H fun x H1 => ∃ a, x = .ref a ∧ (((∃ xs, SqL X.K H1 a xs) ∧ R (Itl X.K a) H1) ∨ ((∃ xs, SqT X.K H1 a xs) ∧ R (Itt X.K a) H1))) := by
  refine ⟨fun pins s σ H R I h => ?_⟩
  refine thn (hl.run pins s σ H _ I h) fun v s1 ⟨x, H1, I1, r1, q1⟩ => ?_
  obtain ⟨a, e, q⟩ := q1
  subst e
  cases r1
  rcases q with ⟨⟨xs, hq⟩, q⟩ | ⟨⟨xs, hq⟩, q⟩
  · obtain ⟨its, rv, p, hz⟩ := I1.list hq
    refine wpAny_pyIter_list p.isList ?_
    refine ⟨s1.heap.objs.size, [s1.heap.objs.size], _, _, H1, rfl, I1.kept (t' := s1.toks) fun b o e => Heap.get?_push_of_some _ e, turn_list a _, ⟨_, Heap.get?_push_size _ rfl, rfl, rfl⟩, fun b hb => ?_, q⟩
    have e : b = s1.heap.objs.size := by simpa using hb
    subst e
    exact I1.fpOk (Nat.le_refl _) (I1.hok.fresh (Nat.le_refl _))
  · obtain ⟨its, rv, p, hz⟩ := I1.tuple hq
    refine wpAny_pyIter_tuple (show s1.heap.IsTuple a its.toArray from p) ?_
    refine ⟨s1.heap.objs.size, [s1.heap.objs.size], _, _, H1, rfl, I1.kept (t' := s1.toks) fun b o e => Heap.get?_push_of_some _ e, turn_tuple a _, ⟨_, Heap.get?_push_size _ rfl, rfl, rfl⟩, fun b hb => ?_, q⟩
    have e : b = s1.heap.objs.size := by simpa using hb
    subst e
    exact I1.fpOk (Nat.le_refl _) (I1.hok.fresh (Nat.le_refl _))
end
theorem IsDs.at {K : PySem.W.Frag} {mg : Mg} {H : Hp} : ∀ {ds : List D} {vs : List V} {i : Nat} {d : D}, IsDs K mg H ds vs → ds[i]? = some d → ∃ v, vs[i]? = some v ∧ IsD K mg H d v
  | [], _, i, d, _, e => by simp at e
  | d :: ds, vs, 0, d', h, e => by
    simp only [IsDs] at h
    obtain ⟨v, us, rfl, q, r⟩ := h
    simp at e; subst e
    exact ⟨v, rfl, q⟩
  | d :: ds, vs, i + 1, d', h, e => by
    simp only [IsDs] at h
    obtain ⟨v, us, rfl, q, r⟩ := h
    have := IsDs.at (i := i) r (by simpa using e)
    simpa using this

section
variable {X : Cx} {g : G} {E : WX} {ro : Bool} {Γl Γ Γ1 Γ2 Γ3 : List Bool} {m : Md} {pos : Pos} {tg : Expr}
theorem walks_lst {K : PySem.W.Frag} {mg : Mg} {H0 F1 : Hp} {a : Addr} {xs : List V} {ds : List D} (h : SqL K F1 a xs) (r : IsDs K mg F1 ds xs) : Walks K mg H0 (Itl K a) F1 ds := by
  intro g Γ ρ σ Hf H s R i
  have hq : SqL K H a xs := R.same.seq (s.seq h)
  refine ⟨fun d e => ?_, fun l => ⟨xs, hq, by rw [r.len]; exact l⟩⟩
  obtain ⟨v, ev, q⟩ := IsDs.at r e
  refine ⟨⟨xs, v, hq, ev⟩, fun x H' y => ?_⟩
  obtain ⟨rfl, y⟩ := y
  have := y xs hq
  rw [ev] at this
  cases this
  exact ⟨Hf, Same.refl _, Same.refl _, R, q.mono s⟩
theorem walks_tup {K : PySem.W.Frag} {mg : Mg} {H0 F1 : Hp} {a : Addr} {xs : List V} {ds : List D} (h : SqT K F1 a xs) (r : IsDs K mg F1 ds xs) : Walks K mg H0 (Itt K a) F1 ds := by
  intro g Γ ρ σ Hf H s R i
  have hq : SqT K H a xs := Same.seqT R.same (Same.seqT s h)
  refine ⟨fun d e => ?_, fun l => ⟨xs, hq, by rw [r.len]; exact l⟩⟩
  obtain ⟨v, ev, q⟩ := IsDs.at r e
  refine ⟨⟨xs, v, hq, ev⟩, fun x H' y => ?_⟩
  obtain ⟨rfl, y⟩ := y
  have := y xs hq
  rw [ev] at this
  cases this
  exact ⟨Hf, Same.refl _, Same.refl _, R, q.mono s⟩
theorem walks_rng {K : PySem.W.Frag} {mg : Mg} {H0 F1 : Hp} {lo : Int} {n : Nat} : Walks K mg H0 (Itr lo n) F1 ((List.range n).map fun (k : Nat) => .int (lo + k)) := by
  intro g Γ ρ σ Hf H s R i
  refine ⟨fun d e => ?_, fun l => show n ≤ i by simpa using l⟩
  rw [List.getElem?_map] at e
  by_cases l : i < n
  · rw [List.getElem?_range l] at e
    cases e
    refine ⟨l, fun x H' y => ?_⟩
    obtain ⟨rfl, rfl⟩ := y
    exact ⟨Hf, Same.refl _, Same.refl _, R, by simp only [IsD]⟩
  · rw [List.getElem?_eq_none (by simpa using l)] at e
    cases e
theorem IsDs.ints {K : PySem.W.Frag} {mg : Mg} {H : Hp} : ∀ ns : List Int, IsDs K mg H (ns.map .int) (ns.map V.int)
  | [] => by simp only [List.map_nil, IsDs]
  | n :: ns => by
    simp only [List.map_cons, IsDs, IsD]
    exact ⟨_, _, rfl, rfl, IsDs.ints ns⟩
theorem pix_seq {e : Expr} {f : Env → Out D} (h : PX X g E Γ e Γ1 .fr f) : PIx X g E Γ tg e Γ1 (iSeq f) := by
  refine ⟨h.le, (pi_any h.pe).imp fun σ H Q ⟨ρ, Hf, R, q⟩ => ⟨ρ, Hf, R, ?_⟩⟩
  refine tG.bind (Le.refl _) q fun d F1 H1 s1 s2 R1 k v hv => ?_
  cases d with
  | lst ds =>
    simp only [Res, IsD] at hv
    obtain ⟨a, xs, rfl, q1, q2⟩ := hv
    exact ⟨a, rfl, .inl ⟨⟨xs, R1.same.seq (.of q1)⟩, k F1 H1 (Same.refl _) (Same.refl _) R1 _ (walks_lst (.of q1) q2)⟩⟩
  | scr ns =>
    simp only [Res, IsD] at hv
    obtain ⟨a, rfl, q1⟩ := hv
    exact ⟨a, rfl, .inl ⟨⟨_, R1.same.seq q1⟩, k F1 H1 (Same.refl _) (Same.refl _) R1 _ (walks_lst q1 (IsDs.ints _))⟩⟩
  | tup ds =>
    simp only [Res, IsD] at hv
    obtain ⟨a, xs, rfl, q1, q2⟩ := hv
    exact ⟨a, rfl, .inr ⟨⟨xs, Same.seqT R1.same q1⟩, k F1 H1 (Same.refl _) (Same.refl _) R1 _ (walks_tup q1 q2)⟩⟩
  | _ => exact k.elim
theorem IsDs.one {K : PySem.W.Frag} {mg : Mg} {H : Hp} {d : D} {vs : List V} (h : IsDs K mg H [d] vs) : ∃ v, vs = [v] ∧ IsD K mg H d v := by
  simp only [IsDs] at h
  obtain ⟨v, us, e, q, rfl⟩ := h
  exact ⟨v, e, q⟩
theorem IsDs.two {K : PySem.W.Frag} {mg : Mg} {H : Hp} {d e : D} {vs : List V} (h : IsDs K mg H [d, e] vs) : ∃ v u, vs = [v, u] ∧ IsD K mg H d v ∧ IsD K mg H e u := by
  simp only [IsDs] at h
  obtain ⟨v, us, e1, q, u, us', e2, q2, rfl⟩ := h
  exact ⟨v, u, by rw [e1, e2], q, q2⟩
theorem pix_range1 {a : Expr} {p : Pos} {f : Env → Out (List D)} (hg : Gl X "range") (hm : X.mg "range" = none) (h : PAx X g E Γ [a] Γ1 f) (hs : starEach [a] X.env = [(false, eval a X.env)] := by rfl) :
    PIx X g E Γ tg (.Call (.Name "range" p) [a] [] pos) Γ1 (iRange1 f) := by
  refine ⟨h.le, (pi_range1 hg hm h.pe hs).imp fun σ H Q ⟨ρ, Hf, R, q⟩ => ⟨ρ, Hf, R, ?_⟩⟩
  refine tG.bind (Le.refl _) q fun ds F1 H1 s1 s2 R1 k vs hv => ?_
  unfold rng1 at k
  split at k
  · rename_i j
    obtain ⟨v, rfl, q1⟩ := hv.one
    simp only [IsD] at q1
    subst q1
    by_cases z : -(2 ^ 62) ≤ j ∧ j < 2 ^ 62
    · rw [chk_pos z] at k
      refine ⟨j, rfl, z.1, z.2, k F1 H1 (Same.refl _) (Same.refl _) R1 _ ?_⟩
      have := walks_rng (K := X.K) (mg := X.mw) (H0 := g.H0) (F1 := F1) (lo := 0) (n := j.toNat)
      simpa using this
    · rw [chk_neg z] at k; exact k.elim
  · exact k.elim
theorem pix_range2 {a b : Expr} {p : Pos} {f : Env → Out (List D)} (hg : Gl X "range") (hm : X.mg "range" = none) (h : PAx X g E Γ [a, b] Γ1 f) (hs : starEach [a, b] X.env = [(false, eval a X.env), (false, eval b X.env)] := by rfl) (hs2 : starEach [b] X.env = [(false, eval b X.env)] := by rfl) :
    PIx X g E Γ tg (.Call (.Name "range" p) [a, b] [] pos) Γ1 (iRange2 f) := by
  refine ⟨h.le, (pi_range2 hg hm h.pe hs hs2).imp fun σ H Q ⟨ρ, Hf, R, q⟩ => ⟨ρ, Hf, R, ?_⟩⟩
  refine tG.bind (Le.refl _) q fun ds F1 H1 s1 s2 R1 k vs hv => ?_
  unfold rng2 at k
  split at k
  · rename_i i j
    obtain ⟨v, u, rfl, q1, q2⟩ := hv.two
    simp only [IsD] at q1 q2
    subst q1; subst q2
    by_cases z : (-(2 ^ 62) ≤ i ∧ i < 2 ^ 62) ∧ -(2 ^ 62) ≤ j ∧ j < 2 ^ 62
    · rw [chk_pos z] at k
      exact ⟨i, j, rfl, ⟨z.1.1, z.1.2, z.2.1, z.2.2⟩, k F1 H1 (Same.refl _) (Same.refl _) R1 _ walks_rng⟩
    · rw [chk_neg z] at k; exact k.elim
  · exact k.elim

/-! ## loops -/
theorem Rp.ofG {K : PySem.W.Frag} {mg : Mg} {ρ : Env} {σ : St} {F1 Hf H : Hp} (s : Same g.F0 F1) (n : ∀ a o, F1 a = some o → g.F0 a = some o ∨ g.H0 a = none) (R : Rp K mg ⟨g.H0, F1⟩ Γ ρ σ Hf H) : Rp K mg g Γ ρ σ Hf H :=
  ⟨R.same, R.ent, s.trans R.ent2, fun a o e => (R.news a o e).elim (fun z => n a o z) .inr, R.len, R.own, R.dat, R.sep⟩
theorem Rp.toG {K : PySem.W.Frag} {mg : Mg} {ρ : Env} {σ : St} {F1 Hf H : Hp} (s : Same F1 Hf) (s0 : Same g.F0 F1) (R : Rp K mg g Γ ρ σ Hf H) : Rp K mg ⟨g.H0, F1⟩ Γ ρ σ Hf H :=
  ⟨R.same, R.ent, s, fun a o e => (R.news a o e).elim (fun z => .inl (s0 a o z)) .inr, R.len, R.own, R.dat, R.sep⟩
theorem sR.toG {F1 : Hp} {Dn : Ends} {o : SO} (s : Same g.F0 F1) (n : ∀ a o, F1 a = some o → g.F0 a = some o ∨ g.H0 a = none) (h : sR X.K X.mw g E Γ Γl ro Dn o) : sR X.K X.mw ⟨g.H0, F1⟩ E Γ Γl ro Dn o := by
  cases o with
  | nx ρ => exact fun σ Hf H R => h σ Hf H (R.ofG s n)
  | bk ρ => exact fun σ Hf H R => h σ Hf H (R.ofG s n)
  | ct ρ => exact fun σ Hf H R => h σ Hf H (R.ofG s n)
  | rt d => exact fun v Hf H s1 s2 s3 nw r => h v Hf H s1 s2 (s.trans s3) (fun a o e => (nw a o e).elim (fun z => n a o z) .inr) r
  | ex x => exact h
  | stuck => exact h
/-- what the loop's end is asked for -/
theorem psx_for {iter : Expr} {body : List Stmt} {G : D → Env → Out Env} {it : Env → Out (List D)} {fb : Env → SO} (hp : PassesOwn (model X.prog X.w) X.A X.env X.xe) (hc : X.calm = true) (hi : PIx X g E Γ tg iter Γ1 it)
    {ws : List Nat} (hg : ∀ F1, PGx X ⟨g.H0, F1⟩ Γ1 tg Γ2 G ws) (nx : ∀ d ρ x, G d ρ ≠ .exc x) (hb : ∀ F1, PSsx X ⟨g.H0, F1⟩ E ro Γ1 Γ2 body Γ1 fb) (hs : ∀ x, foldedSetIterable iter X.env x = pure x := by intro _; rfl) :
    PSx X g E ro Γl Γ (.For tg iter body [] pos) Γ1 (sFor G it fb) := by
  refine ⟨⟨fun pins s σ H Dn I ⟨ρ, Hf, R, q⟩ => ?_⟩⟩
  -- the frozen part at the loop's start is told by the iterator
  let hbody : ∀ F1, PSs X body (fun Dn σ H => ∃ ρ Hf, Rp X.K X.mw ⟨g.H0, F1⟩ Γ2 ρ σ Hf H ∧ sR X.K X.mw ⟨g.H0, F1⟩ E Γ1 Γ1 ro Dn (fb ρ)) := fun F1 => (hb F1).ps
  let hgt : ∀ F1, PG X tg (fun v σ H Q => ∃ d ρ Hf, Rp X.K X.mw ⟨g.H0, F1⟩ Γ1 ρ σ Hf H ∧ IsD X.K X.mw Hf d v ∧ ∃ ρ', G d ρ = .ok ρ' ∧ ∀ σ', Rp X.K X.mw ⟨g.H0, F1⟩ Γ2 ρ' σ' Hf H → Q σ' H) := fun F1 => (hg F1).pg.imp fun v σ H Q ⟨d, ρ, Hf, R, i, ρ', e, q⟩ => ⟨d, ρ, Hf, R, i, ρ', e, fun σ' _ => q σ'⟩
  have HB : PSs X body (fun Dn σ H => ∃ F1 ρ Hf, Rp X.K X.mw ⟨g.H0, F1⟩ Γ2 ρ σ Hf H ∧ sR X.K X.mw ⟨g.H0, F1⟩ E Γ1 Γ1 ro Dn (fb ρ)) := ⟨fun pins s σ H D I ⟨F1, z⟩ => (hbody F1).run pins s σ H D I z⟩
  have HG : PG X tg (fun v σ H Q => ∃ F1 d ρ Hf, Rp X.K X.mw ⟨g.H0, F1⟩ Γ1 ρ σ Hf H ∧ IsD X.K X.mw Hf d v ∧ ∃ ρ', G d ρ = .ok ρ' ∧ ∀ σ', Rp X.K X.mw ⟨g.H0, F1⟩ Γ2 ρ' σ' Hf H → Q σ' H) := ⟨fun pins s σ H v u Q I r ⟨F1, z⟩ => (hgt F1).run pins s σ H v u Q I r z⟩
  refine (ps_for hp hc hi.pi HG HB hs).run pins s σ H Dn I ⟨ρ, Hf, R, ?_⟩
  refine tG.toS q fun ds F1 H1 s1 s2 R1 k J wk => ?_
  have sF : Same g.F0 F1 := R1.ent2
  have nF := R1.news
  refine ⟨fun i n σ H => n = ds.length - i ∧ i ≤ ds.length ∧ ∃ ρ Hf, Rp X.K X.mw ⟨g.H0, F1⟩ Γ1 ρ σ Hf H ∧ sR X.K X.mw g E Γ1 Γl ro Dn (forL G fb (ds.drop i) ρ), ⟨ds.length, by simp, Nat.zero_le _, ρ, F1, R1.toG (Same.refl _) sF, k⟩, ?_⟩
  rintro i n σ2 H2 ⟨rfl, hi', ρ2, Hf2, R2, k2⟩
  by_cases hlt : i < ds.length
  · have ed : ds[i]? = some ds[i] := by simp [hlt]
    have hd : ds.drop i = ds[i] :: ds.drop (i + 1) := List.drop_eq_getElem_cons hlt
    obtain ⟨go, yl⟩ := (wk ⟨g.H0, F1⟩ Γ1 ρ2 σ2 Hf2 H2 R2.ent2 R2 i).1 _ ed
    refine .inr ⟨go, fun σ3 H3 => ∃ ρ Hf, Rp X.K X.mw ⟨g.H0, F1⟩ Γ1 ρ σ3 Hf H3 ∧ sR X.K X.mw g E Γ1 Γl ro Dn (forL G fb (ds.drop (i + 1)) ρ), fun σ3 H3 ⟨ρ3, Hf3, R3, k3⟩ => ⟨ds.length - (i + 1), by omega, rfl, hlt, ρ3, Hf3, R3, k3⟩, fun x H' y => ?_⟩
    obtain ⟨Hf3, s3, s4, R3, hx⟩ := yl x H' y
    rw [hd] at k2
    unfold forL at k2
    cases hG : G ds[i] ρ2 with
    | ok ρ3 =>
      rw [hG] at k2
      refine ⟨F1, ds[i], ρ2, Hf3, R3, hx, ρ3, hG, fun σ' R4 => ⟨F1, ρ3, Hf3, R4, ?_⟩⟩
      simp only [oS_ok] at k2
      cases hf : fb ρ3 with
      | nx r => rw [hf] at k2; exact fun σ5 Hf5 H5 R5 => ⟨r, Hf5, R5, k2⟩
      | ct r => rw [hf] at k2; exact fun σ5 Hf5 H5 R5 => ⟨r, Hf5, R5, k2⟩
      | bk r => rw [hf] at k2; exact fun σ5 Hf5 H5 R5 => k2 σ5 Hf5 H5 (R5.ofG sF nF)
      | rt d => rw [hf] at k2; exact fun v Hf H s1 s2 s3 nw r => k2 v Hf H s1 s2 (sF.trans s3) (fun a o e => (nw a o e).elim (fun z => nF a o z) .inr) r
      | ex x => rw [hf] at k2; exact k2
      | stuck => rw [hf] at k2; exact k2
    | exc x => exact absurd hG (nx _ _ x)
    | stuck => rw [hG] at k2; exact k2.elim
  · have e : i = ds.length := by omega
    subst e
    refine .inl ⟨(wk ⟨g.H0, F1⟩ Γ1 ρ2 σ2 Hf2 H2 R2.ent2 R2 _).2 (Nat.le_refl _), ?_⟩
    rw [List.drop_length] at k2
    exact k2 σ2 Hf2 H2 (R2.ofG sF nF)
theorem psx_while {c : Expr} {body : List Stmt} {ft : Env → Out Bool} {fb : Env → SO} (hp : PassesOwn (model X.prog X.w) X.A X.env X.xe) (hc : PTx X g E Γ c Γ ft) (hb : PSsx X g E ro Γ Γ body Γ fb) : PSx X g E ro Γl Γ (.While c body [] pos) Γ (sWhile ft fb) := by
  refine ⟨(ps_while hp hc.pe hb.ps).imp fun Dn σ H ⟨ρ, Hf, R, q⟩ => ?_⟩
  by_cases st : sWhile ft fb ρ = .stuck
  · rw [st] at q; exact q.elim
  obtain ⟨n0, e0⟩ := sWhile_some st
  rw [← e0] at q
  refine ⟨fun n σ H => ∃ ρ Hf, Rp X.K X.mw g Γ ρ σ Hf H ∧ sR X.K X.mw g E Γ Γl ro Dn (whileN ft fb n ρ), ⟨n0, ρ, Hf, R, q⟩, ?_⟩
  rintro n σ1 H1 ⟨ρ1, Hf1, R1, k1⟩
  refine ⟨ρ1, Hf1, R1, ?_⟩
  cases n with
  | zero => exact k1.elim
  | succ n =>
    unfold whileN at k1
    refine tG.toS k1 fun b F2 H2 s1 s2 R2 k2 => ?_
    cases b with
    | true =>
      rw [if_pos rfl] at k2 ⊢
      refine ⟨fun σ3 H3 => ∃ ρ Hf, Rp X.K X.mw g Γ ρ σ3 Hf H3 ∧ sR X.K X.mw g E Γ Γl ro Dn (whileN ft fb n ρ), fun σ3 H3 z => ⟨n, Nat.lt_succ_self _, z⟩, ρ1, F2, R2, ?_⟩
      cases hf : fb ρ1 with
      | nx r => rw [hf] at k2; exact fun σ5 Hf5 H5 R5 => ⟨r, Hf5, R5, k2⟩
      | ct r => rw [hf] at k2; exact fun σ5 Hf5 H5 R5 => ⟨r, Hf5, R5, k2⟩
      | bk r => rw [hf] at k2; exact fun σ5 Hf5 H5 R5 => k2 σ5 Hf5 H5 R5
      | rt d => rw [hf] at k2; exact k2
      | ex x => rw [hf] at k2; exact k2
      | stuck => rw [hf] at k2; exact k2
    | false =>
      rw [if_neg Bool.false_ne_true] at k2 ⊢
      exact k2 σ1 F2 H2 R2
end

/-! ## defs -/
structure FnT (K : PySem.W.Frag) (mg : Str → Option Value) (x : Str) (st : Stmt) : Prop where
  ex : ∃ f fd, mg x = some (.ref f) ∧ Fun K x x st f fd
structure FnA (P : Program) (w : World) (K : PySem.W.Frag) (mg : Str → Option Value) (base : Heap) (k : Nat) (x : Str) (ps : List Str) (ro : Bool) (F : List D → Out D) : Prop where
  ex : ∃ f fd, mg x = some (.ref f) ∧ PySem.W.keepIn K (.ref f) = true ∧ Binds K fd ps [] ∧ FnOk P w K mg base (L2.CX P w) k f fd ps (spD K ⟨mg, w⟩ ro F) ∧ ∃ oc od osl, K.lookup f = some ⟨oc, od, .func fd, osl⟩
theorem FnA.mono {P : Program} {w : World} {K : PySem.W.Frag} {mg : Str → Option Value} {base : Heap} {j k : Nat} {x : Str} {ps : List Str} {ro : Bool} {F : List D → Out D} (h : FnA P w K mg base j x ps ro F) (l : j ≤ k) : FnA P w K mg base k x ps ro F := by
  obtain ⟨f, fd, e1, e2, e3, e4, e5⟩ := h.ex
  exact ⟨f, fd, e1, e2, e3, e4.mono l, e5⟩
/-- the meaning of a def by its body's: n slots, k parameters -/
def SO.res (o : SO) : Out D := match o with
  | .rt d => .ok d
  | .nx _ => .ok .non
  | .ex x => .exc x
  | _ => .stuck
@[simp] theorem res_rt (d : D) : (SO.rt d).res = .ok d := rfl
@[simp] theorem res_nx (r : Env) : (SO.nx r).res = .ok .non := rfl
@[simp] theorem res_ex (x : Exn) : (SO.ex x).res = .exc x := rfl
def fnM (n k : Nat) (b : Env → SO) : List D → Out D := fun ds => if ds.length = k then (b (ds.map some ++ List.replicate (n - k) none)).res else .stuck
def cxD (P : Program) (w : World) (K : PySem.W.Frag) (mg : Str → Option Value) (base : Heap) (N : List Str) (x : Str) (st : Stmt) (f : Addr) (cdv : Value) (A : Around) (outer : List PySem.Env) (s : Shared) (H : Hp) (E : XK) : Cx :=
  cxOf (L2.CX P w) P w K mg base N x (defScope st) f cdv A outer s H E
section
variable {P : Program} {w : World} {K : PySem.W.Frag} {mg : Str → Option Value} {base : Heap}
theorem IsDs.map {mg : Mg} {H : Hp} : ∀ {ds : List D} {vs : List V} {i : Nat} {d : D}, IsDs K mg H ds vs → (ds.map some)[i]? = some (some d) → ∃ v, (vs.map some)[i]? = some (some v) ∧ IsD K mg H d v := fun {ds vs i d} h e => by
  rw [List.getElem?_map] at e
  cases q : ds[i]? with
  | none => rw [q] at e; cases e
  | some d' =>
    rw [q] at e
    cases e
    obtain ⟨v, ev, r⟩ := h.at q
    exact ⟨v, by rw [List.getElem?_map, ev]; rfl, r⟩
theorem fnA_mk {x : Str} {st : Stmt} {N ps : List Str} {k : Nat} {ro : Bool} {Γl Γ' Γ0 : List Bool} {b : Env → SO} (T : FnT K mg x st) (S : FnScope N ps (defScope st)) (hl : ps.length ≤ N.length) (h0 : ∀ i, ¬ Own Γ0 i)
    (hbind : ∀ (kV doc pm : Value) (an : Option Addr) (cdv ct : Value) (us : List Value), us.length = ps.length → bindArgs (PySem.W.fnOf x x (defArgs st) (defBody st) (defScope st) .none kV doc pm an cdv ct) ⟨us, []⟩ = pure (ps.zip us))
    (body : ∀ (f : Addr) (cdv : Value) (A : Around) (outer : List PySem.Env) (s : Shared) (H : Hp) (E : XK) (Hf : Hp), Room k (A.deeper (envOfC x (defScope st) s.heap.objs.size f cdv)) →
      PSsx (cxD P w K mg base N x st f cdv A outer s H E) ⟨H, Hf⟩ (fun c d _ H => E c d H) ro Γl Γ0 (defBody st) Γ' b) : FnA P w K mg base (k + 1) x ps ro (fnM N.length ps.length b) := by
  obtain ⟨f, fd, hm, F⟩ := T.ex
  refine ⟨f, fd, hm, F.kp, F.binds hbind, F.okX S (fun vs H Q E h => ?_) fun cdv A outer s H vs Q E hr h => ?_, let ⟨oc, od, _, _, _, _, _, _, osl, _, l, _⟩ := F.ex; ⟨oc, od, osl, l⟩⟩
  · obtain ⟨ds, Hf, s1, hv, q⟩ := h
    rw [hv.len]
    unfold fnM at q
    by_cases l : ds.length = ps.length
    · exact l
    · rw [if_neg l] at q; exact q.elim
  · obtain ⟨ds, Hf, s1, hv, q⟩ := h
    refine ⟨_, (body f cdv A outer s H E Hf hr).ps, ?_⟩
    unfold fnM at q
    by_cases l : ds.length = ps.length
    · rw [if_pos l] at q
      have lv : vs.length = ps.length := hv.len.trans l
      refine ⟨ds.map some ++ List.replicate (N.length - ps.length) none, Hf, ⟨s1, Same.refl _, Same.refl _, fun a o e => .inl e, ?_, fun i d o _ => (h0 i o).elim, fun i d o e => ?_, fun i j d e v n o => (h0 i o).elim⟩, ?_⟩
      · unfold L2.start
        simp [lv, l]
      · unfold L2.start
        by_cases li : i < ds.length
        · rw [List.getElem?_append_left (by simpa using li)] at e
          obtain ⟨v, ev, r⟩ := IsDs.map hv e
          refine ⟨v, ?_, r⟩
          rw [List.getElem?_append_left (by simpa [hv.len] using li)]
          exact ev
        · rw [List.getElem?_append_right (by simpa using li), List.getElem?_replicate] at e
          split at e <;> simp at e
      · show sR K ⟨mg, w⟩ ⟨H, Hf⟩ _ Γ' Γl ro _ (b _)
        cases hb : b (ds.map some ++ List.replicate (N.length - ps.length) none) with
        | nx r =>
          rw [hb] at q
          intro σ1 Hf1 H1 R1
          refine q .non Hf1 H1 R1.ent2 R1.same R1.ent R1.news ?_
          unfold RetRes
          cases ro <;> simp [IsO, IsD]
        | rt d => rw [hb] at q; exact fun v Hf1 H1 s1 s2 s3 nw r => q v Hf1 H1 s3 s1 s2 nw r
        | ex x => rw [hb] at q; exact fun c dd σ1 H1 s2 ix => q c dd H1 s2 ix
        | bk r => rw [hb] at q; exact q.elim
        | ct r => rw [hb] at q; exact q.elim
        | stuck => rw [hb] at q; exact q.elim
    · rw [if_neg l] at q; exact q.elim
/-- a def that is never to be called -/
theorem fnA_stuck {x : Str} {st : Stmt} {ps : List Str} {k : Nat} {ro : Bool} (T : FnT K mg x st)
    (hbind : ∀ (kV doc pm : Value) (an : Option Addr) (cdv ct : Value) (us : List Value), us.length = ps.length → bindArgs (PySem.W.fnOf x x (defArgs st) (defBody st) (defScope st) .none kV doc pm an cdv ct) ⟨us, []⟩ = pure (ps.zip us)) :
    FnA P w K mg base k x ps ro (fun _ => .stuck) := by
  obtain ⟨f, fd, hm, F⟩ := T.ex
  exact ⟨f, fd, hm, F.kp, F.binds hbind, ⟨fun vs H Q E ⟨_, _, _, _, z⟩ => z.elim, fun A outer s H args us vs Q E _ _ _ _ ⟨_, _, _, _, z⟩ => z.elim⟩, let ⟨oc, od, _, _, _, _, _, _, osl, _, l, _⟩ := F.ex; ⟨oc, od, osl, l⟩⟩
end

/-! ## calls -/
section
variable {X : Cx} {g : G} {E : WX} {ro : Bool} {Γl Γ Γ1 Γ2 Γ3 : List Bool} {m : Md} {pos p : Pos} {x : Str} {e : Expr} {es : List Expr} {k : Nat} {ps : List Str} {F : List D → Out D} {fa : Env → Out (List D)}
/-- behind a callee -/
theorem Rp.back {K : PySem.W.Frag} {mg : Mg} {ρ : Env} {σ : St} {F1 H1 Hf' H' : Hp} (R : Rp K mg g Γ ρ σ F1 H1) (s1 : Same F1 Hf') (s2 : Same Hf' H') (s3 : Same H1 H') (nw : ∀ a o, Hf' a = some o → F1 a = some o ∨ H1 a = none) : Rp K mg g Γ ρ σ Hf' H' := by
  refine ⟨s2, R.ent.trans s3, R.ent2.trans s1, fun a o e => ?_, R.len, fun i d o e => ?_, fun i d o e => ?_, R.sep⟩
  · rcases nw a o e with z | z
    · exact R.news a o z
    · exact .inr (R.ent.free z)
  · obtain ⟨v, e1, io⟩ := R.own i d o e
    refine ⟨v, e1, ?_⟩
    have nn : ∀ a oo, F1 a = none → H1 a = some oo → Hf' a = none := fun a oo zf q => by
      cases z : Hf' a with
      | none => rfl
      | some o' =>
        rcases nw a o' z with y | y
        · rw [zf] at y; cases y
        · rw [q] at y; cases y
    cases d with
    | lst ds =>
      obtain ⟨a, xs, e, z0, zf, q, r⟩ := io
      exact ⟨a, xs, e, z0, nn a _ zf q, s3 _ _ q, IsDs.mono s1 r⟩
    | dic ds =>
      obtain ⟨a, xs, e, z0, zf, q, r⟩ := io
      exact ⟨a, xs, e, z0, nn a _ zf q, s3 _ _ q, DicAt.mono s1 r⟩
    | _ => exact IsD.mono s1 io
  · obtain ⟨v, e1, q⟩ := R.dat i d o e
    exact ⟨v, e1, q.mono s1⟩
/-- a callee's promise is what a caller's wish wants -/
theorem call_sp {ρ : Env} {σ : St} {F1 H1 : Hp} {ds : List D} {vs : List V} {Q : VK} (R : Rp X.K X.mw g Γ ρ σ F1 H1) (hv : IsDs X.K X.mw F1 ds vs) (k : tG X.K X.mw g E Γ ρ σ F1 H1 (PV X g Γ ρ σ (if ro = true then .ow else .fr) Q) (F ds)) : spD X.K X.mw ro F vs H1 Q (WE E σ) := by
  refine ⟨ds, F1, R.same, hv, ?_⟩
  cases hF : F ds with
  | ok d =>
    rw [hF] at k
    intro v Hf' H' s1 s2 s3 nw rr
    refine k Hf' H' s1 s3 (R.back s1 s2 s3 nw) v ?_
    cases ro with
    | true =>
      unfold RetRes at rr
      rw [if_pos rfl] at rr
      refine ⟨?_, fun i e o e1 m1 m2 e2 => ?_⟩
      · cases d with
        | lst ds => obtain ⟨a, xs, e, z0, zf, q, r⟩ := rr; exact ⟨a, xs, e, R.ent.free z0, zf, q, r⟩
        | dic ds => obtain ⟨a, xs, e, z0, zf, q, r⟩ := rr; exact ⟨a, xs, e, R.ent.free z0, zf, q, r⟩
        | _ => exact rr
      · obtain ⟨a, oo, rfl, z0, _, _⟩ := rr.addr m2
        obtain ⟨v', e3, io⟩ := R.own i e o e1
        obtain ⟨b, ob, e4, _, _, q⟩ := io.addr m1
        rw [e2] at e3
        obtain rfl : V.ref a = v' := Option.some.inj (Option.some.inj e3)
        obtain rfl : a = b := V.ref.inj e4
        rw [z0] at q; cases q
    | false =>
      unfold RetRes at rr
      rw [if_neg Bool.false_ne_true] at rr
      exact rr
  | exc x =>
    rw [hF] at k
    intro c dd H' s3 ix
    exact k c dd F1 H' (Same.refl _) s3 ⟨R.same.trans s3, R.ent.trans s3, R.ent2, R.news, R.len, fun i d o e => by
      obtain ⟨v, e1, io⟩ := R.own i d o e
      refine ⟨v, e1, ?_⟩
      cases d with
      | lst ds => obtain ⟨a, xs, e, z0, zf, q, r⟩ := io; exact ⟨a, xs, e, z0, zf, s3 _ _ q, r⟩
      | dic ds => obtain ⟨a, xs, e, z0, zf, q, r⟩ := io; exact ⟨a, xs, e, z0, zf, s3 _ _ q, r⟩
      | _ => exact io, R.dat, R.sep⟩ ix
  | stuck => rw [hF] at k; exact k
theorem px_call (C : FnA X.prog X.w X.K X.mg X.base k x ps ro F) (hr : Room k X.A) (hg : Gl X x) (tk : Takes X E) (ha : PAx X g E Γ (e :: es) Γ1 fa) (hdb : (x == ("__debug__" : Str)) = false := by decide)
    (he : starEach (e :: es) X.env = (false, eval e X.env) :: starEach es X.env := by rfl) (hpl : (backTo pos (starEach es X.env)).any (·.1) = false := by rfl) : PX X g E Γ (.Call (.Name x p) (e :: es) [] pos) Γ1 (if ro = true then .ow else .fr) (eA F fa) := by
  obtain ⟨f, fd, e1, e2, e3, e4, _⟩ := C.ex
  refine ⟨ha.le, (pe_callS e4 hr hg e1 e2 e3 (fun σ => passAt tk σ) ha.pe hdb he hpl).imp fun σ H Q ⟨ρ, Hf, R, q⟩ => ⟨ρ, Hf, R, ?_⟩⟩
  exact tG.bind (Le.refl _) q fun ds F1 H1 s1 s2 R1 k1 vs hv => call_sp R1 hv k1
end
end PD

namespace PD
open PySem PySem.Spec L2
open PyProof.Rows hiding St

/-! ## operators -/
section
variable {X : Cx} {m : Md}
theorem OpD.mode {f : Value → Value → Sem Value} {F : D → D → Out D} (h : OpD X f .ow F) : OpD X f .fr F := by
  obtain ⟨r, hr, w⟩ := h
  refine ⟨r, hr, fun g E Γ ρ σ Hf H x y v u Q R hx hy k => w g E Γ ρ σ Hf H x y v u Q R hx hy ?_⟩
  cases hF : F x y with
  | ok d =>
    rw [hF] at k
    intro F1 H1 s1 s2 R1 v hv
    obtain ⟨F2, s3, R2, id⟩ := R1.cool hv.1 hv.2
    exact k F2 H1 (s1.trans s3) s2 R2 v id
  | exc x => rw [hF] at k; exact k
  | stuck => rw [hF] at k; exact k
def Out.or {α : Type} (a b : Out α) : Out α := match a with
  | .stuck => b
  | o => o
@[simp] theorem Out.or_ok {α : Type} (a : α) (b : Out α) : (Out.ok a).or b = .ok a := rfl
@[simp] theorem Out.or_stuck {α : Type} (b : Out α) : (Out.stuck : Out α).or b = b := rfl
def dOr (F F' : D → D → Out D) : D → D → Out D := fun x y => (F x y).or (F' x y)
theorem OpD.or {f : Value → Value → Sem Value} {F F' : D → D → Out D} (h : OpD X f m F) (h' : OpD X f m F') : OpD X f m (dOr F F') := by
  obtain ⟨r, hr, w⟩ := h
  obtain ⟨r', hr', w'⟩ := h'
  refine ⟨_, hr.or hr', fun g E Γ ρ σ Hf H x y v u Q R hx hy k => ?_⟩
  unfold dOr at k
  cases hF : F x y with
  | ok d => rw [hF] at k; exact .inl (w g E Γ ρ σ Hf H x y v u Q R hx hy (by rw [hF]; exact k))
  | exc e => rw [hF] at k; exact .inl (w g E Γ ρ σ Hf H x y v u Q R hx hy (by rw [hF]; exact k))
  | stuck => rw [hF] at k; exact .inr (w' g E Γ ρ σ Hf H x y v u Q R hx hy k)
/-- two ints -/
noncomputable def dI (C : Int → Int → Prop) (h : Int → Int → D) : D → D → Out D
  | .int i, .int j => chk (C i j) (.ok (h i j))
  | _, _ => .stuck
def dI0 (h : Int → Int → D) : D → D → Out D
  | .int i, .int j => .ok (h i j)
  | _, _ => .stuck
theorem opd_int {f : Value → Value → Sem Value} {C : Int → Int → Prop} {h : Int → Int → Int} (ho : OpR X f (rI C fun i j => .int (h i j))) : OpD X f m (dI C fun i j => .int (h i j)) := by
  refine ⟨_, ho, fun g E Γ ρ σ Hf H x y v u Q R hx hy k => ?_⟩
  unfold dI at k
  split at k
  · rename_i i j
    simp only [IsR, IsD] at hx hy
    by_cases c : C i j
    · rw [chk_pos c] at k
      exact ⟨i, j, hx, hy, c, k Hf H (Same.refl _) (Same.refl _) R _ (Res.dat R.same rfl (by simp only [IsD]))⟩
    · rw [chk_neg c] at k; exact k.elim
  · exact k.elim
theorem opd_int0 {f : Value → Value → Sem Value} {h : Int → Int → Int} (ho : OpR X f (rI0 fun i j => .int (h i j))) : OpD X f m (dI0 fun i j => .int (h i j)) := by
  refine ⟨_, ho, fun g E Γ ρ σ Hf H x y v u Q R hx hy k => ?_⟩
  unfold dI0 at k
  split at k
  · rename_i i j
    simp only [IsR, IsD] at hx hy
    exact ⟨i, j, hx, hy, k Hf H (Same.refl _) (Same.refl _) R _ (Res.dat R.same rfl (by simp only [IsD]))⟩
  · exact k.elim
theorem opd_cmp {f : Value → Value → Sem Value} {h : Int → Int → Bool} (ho : OpR X f (rI0 fun i j => .bl (h i j))) : OpD X f m (dI0 fun i j => .bl (h i j)) := by
  refine ⟨_, ho, fun g E Γ ρ σ Hf H x y v u Q R hx hy k => ?_⟩
  unfold dI0 at k
  split at k
  · rename_i i j
    simp only [IsR, IsD] at hx hy
    exact ⟨i, j, hx, hy, k Hf H (Same.refl _) (Same.refl _) R _ (Res.dat R.same rfl (by simp only [IsD]))⟩
  · exact k.elim
def dAddI : D → D → Out D := dI0 fun i j => .int (i + j)
def dSub : D → D → Out D := dI0 fun i j => .int (i - j)
noncomputable def dMulI : D → D → Out D := dI CMulX fun i j => .int (i * j)
noncomputable def dDiv : D → D → Out D := dI CDivW fun i j => .int (i / j)
noncomputable def dMod : D → D → Out D := dI (fun _ j => 0 < j) fun i j => .int (i % j)
noncomputable def dPow : D → D → Out D := dI CPow fun i j => .int (i ^ j.toNat)
def dLtI : D → D → Out D := dI0 fun i j => .bl (decide (i < j))
def dLeI : D → D → Out D := dI0 fun i j => .bl (decide (i ≤ j))
def dGtI : D → D → Out D := dI0 fun i j => .bl (decide (j < i))
def dGeI : D → D → Out D := dI0 fun i j => .bl (decide (j ≤ i))
theorem od_addI : OpD X (binaryOp .Add) m dAddI := opd_int0 op_add
theorem od_sub : OpD X (binaryOp .Sub) m dSub := opd_int0 op_sub
theorem od_mulI : OpD X (binaryOp .Mult) m dMulI := opd_int op_mulX
theorem od_div : OpD X (binaryOp .FloorDiv) m dDiv := opd_int op_fdivW
theorem od_mod : OpD X (binaryOp .Mod) m dMod := opd_int op_mod
theorem od_pow : OpD X (binaryOp .Pow) m dPow := opd_int op_pow
theorem od_ltI : OpD X (compareOp .Lt) m dLtI := opd_cmp op_lt
theorem od_leI : OpD X (compareOp .LtE) m dLeI := opd_cmp op_le
theorem od_gtI : OpD X (compareOp .Gt) m dGtI := opd_cmp op_gt
theorem od_geI : OpD X (compareOp .GtE) m dGeI := opd_cmp op_ge
/-- texts -/
noncomputable def dAddS : D → D → Out D
  | .str i, .str j => chk (i.length + j.length ≤ sizeLine) (.ok (.str (i ++ j)))
  | _, _ => .stuck
theorem od_addS : OpD X (binaryOp .Add) m dAddS := by
  refine ⟨_, op_add_str, fun g E Γ ρ σ Hf H x y v u Q R hx hy k => ?_⟩
  unfold dAddS at k
  split at k
  · rename_i i j
    simp only [IsR, IsD] at hx hy
    by_cases c : i.length + j.length ≤ sizeLine
    · rw [chk_pos c] at k
      exact ⟨i, j, hx, hy, c, k Hf H (Same.refl _) (Same.refl _) R _ (Res.dat R.same rfl (by simp only [IsD]))⟩
    · rw [chk_neg c] at k; exact k.elim
  · exact k.elim
def dS (h : Str → Str → Bool) : D → D → Out D
  | .str i, .str j => .ok (.bl (h i j))
  | _, _ => .stuck
theorem opd_str {f : Value → Value → Sem Value} {h : Str → Str → Bool} (ho : OpR X f (fun x y H Q => ∃ i j, x = .str i ∧ y = .str j ∧ Q (.bl (h i j)) H)) : OpD X f m (dS h) := by
  refine ⟨_, ho, fun g E Γ ρ σ Hf H x y v u Q R hx hy k => ?_⟩
  unfold dS at k
  split at k
  · rename_i i j
    simp only [IsR, IsD] at hx hy
    exact ⟨i, j, hx, hy, k Hf H (Same.refl _) (Same.refl _) R _ (Res.dat R.same rfl (by simp only [IsD]))⟩
  · exact k.elim
def dLtS : D → D → Out D := dS fun i j => decide (i.cps.toList < j.cps.toList)
def dLeS : D → D → Out D := dS fun i j => !decide (j.cps.toList < i.cps.toList)
def dGtS : D → D → Out D := dS fun i j => decide (j.cps.toList < i.cps.toList)
def dGeS : D → D → Out D := dS fun i j => !decide (i.cps.toList < j.cps.toList)
/-- a new list -/
theorem pv_lst {g : G} {E : WX} {Γ : List Bool} {ρ : Env} {σ : St} {Hf H : Hp} {ds : List D} {vs : List V} {Q : VK} {p : Addr} (R : Rp X.K X.mw g Γ ρ σ Hf H) (hv : IsDs X.K X.mw Hf ds vs) (n : H p = none)
    (k : tG X.K X.mw g E Γ ρ σ Hf H (PV X g Γ ρ σ m Q) (.ok (.lst ds))) : Q (.ref p) (upd H p (.lst vs)) := by
  cases m with
  | ow =>
    obtain ⟨t2, R2, n0, nf, ap⟩ := R.newO (.lst vs) n
    exact k _ _ (Same.refl _) t2 R2 (.ref p) ⟨⟨p, vs, rfl, n0, nf, upd_same, hv⟩, fun i e ow e1 m _ e2 => ap i e ow e1 m e2⟩
  | fr =>
    obtain ⟨t1, t2, R2⟩ := R.new (.lst vs) n
    refine k _ _ t1 t2 R2 (.ref p) ?_
    show IsD _ _ _ _ _
    simp only [IsD]
    exact ⟨p, vs, rfl, upd_same, IsDs.mono t1 hv⟩
  | rd =>
    obtain ⟨t1, t2, R2⟩ := R.new (.lst vs) n
    exact k _ _ t1 t2 R2 (.ref p) ⟨p, vs, rfl, upd_same, IsDs.mono t1 hv⟩
/-- a new tuple -/
theorem pv_tup {g : G} {E : WX} {Γ : List Bool} {ρ : Env} {σ : St} {Hf H : Hp} {ds : List D} {vs : List V} {Q : VK} {p : Addr} (R : Rp X.K X.mw g Γ ρ σ Hf H) (hv : IsDs X.K X.mw Hf ds vs) (n : H p = none)
    (k : tG X.K X.mw g E Γ ρ σ Hf H (PV X g Γ ρ σ m Q) (.ok (.tup ds))) : Q (.ref p) (upd H p (.tup vs)) := by
  obtain ⟨t1, t2, R2⟩ := R.new (.tup vs) n
  refine k _ _ t1 t2 R2 _ (Res.dat R2.same rfl ?_)
  simp only [IsD]
  exact ⟨p, vs, rfl, .inl (.inl upd_same), IsDs.mono t1 hv⟩
theorem IsDs.app {K : PySem.W.Frag} {mg : Mg} {H : Hp} {es : List D} {us : List V} (k : IsDs K mg H es us) : ∀ {ds : List D} {vs : List V}, IsDs K mg H ds vs → IsDs K mg H (ds ++ es) (vs ++ us)
  | [], vs, h => by
    simp only [IsDs] at h
    subst h
    exact k
  | x :: ds, vs, h => by
    simp only [IsDs, List.cons_append] at h ⊢
    obtain ⟨u, ws, rfl, q, r⟩ := h
    exact ⟨u, ws ++ us, rfl, q, IsDs.app k r⟩
noncomputable def dAddL : D → D → Out D
  | .lst xs, .lst ys => chk (xs.length + ys.length ≤ sizeLine) (.ok (.lst (xs ++ ys)))
  | _, _ => .stuck
theorem od_addL : OpD X (binaryOp .Add) m dAddL := by
  refine ⟨_, op_cat, fun g E Γ ρ σ Hf H x y v u Q R hx hy k => ?_⟩
  unfold dAddL at k
  split at k
  · rename_i ds es
    by_cases c : ds.length + es.length ≤ sizeLine
    · rw [chk_pos c] at k
      obtain ⟨a, xs, rfl, q, r⟩ := hx
      obtain ⟨b, ys, rfl, q2, r2⟩ := hy
      exact ⟨a, b, xs, ys, rfl, rfl, q, q2, by rw [r.len, r2.len]; exact c, fun p n => pv_lst R (IsDs.app r2 r) n k⟩
    · rw [chk_neg c] at k; exact k.elim
  · exact k.elim
noncomputable def dAddT : D → D → Out D
  | .tup xs, .tup ys => chk (xs.length + ys.length ≤ sizeLine) (.ok (.tup (xs ++ ys)))
  | _, _ => .stuck
theorem od_addT : OpD X (binaryOp .Add) m dAddT := by
  refine ⟨_, op_catA, fun g E Γ ρ σ Hf H x y v u Q R hx hy k => ?_⟩
  unfold dAddT at k
  split at k
  · rename_i ds es
    by_cases c : ds.length + es.length ≤ sizeLine
    · rw [chk_pos c] at k
      have hx' := hx
      have hy' := hy
      simp only [IsR, IsD] at hx hy
      obtain ⟨a, xs, rfl, q, r⟩ := hx
      obtain ⟨b, ys, rfl, q2, r2⟩ := hy
      refine ⟨a, b, xs, ys, rfl, rfl, Same.seqT R.same q, Same.seqT R.same q2, by rw [r.len, r2.len]; exact c, fun e => ?_, fun _ e => ?_, fun _ _ p n => pv_tup R (IsDs.app r2 r) n k⟩
      · subst e
        have : ds = [] := List.eq_nil_of_length_eq_zero (by rw [← r.len]; rfl)
        subst this
        exact k Hf H (Same.refl _) (Same.refl _) R _ (Res.dat R.same rfl hy')
      · subst e
        have : es = [] := List.eq_nil_of_length_eq_zero (by rw [← r2.len]; rfl)
        subst this
        rw [List.append_nil] at k
        exact k Hf H (Same.refl _) (Same.refl _) R _ (Res.dat R.same rfl hx')
    · rw [chk_neg c] at k; exact k.elim
  · exact k.elim
noncomputable def dAdd : D → D → Out D := dOr dAddI (dOr dAddS (dOr dAddT dAddL))
noncomputable def dMul : D → D → Out D := dMulI

def dLe : D → D → Out D := dOr dLeI dLeS
def dGt : D → D → Out D := dOr dGtI dGtS

theorem od_add {k : Nat} (_ : Room k X.A) : OpD X (binaryOp .Add) m dAdd := od_addI.or (od_addS.or (od_addT.or od_addL))
theorem od_mul {k : Nat} (_ : Room k X.A) : OpD X (binaryOp .Mult) m dMul := od_mulI
theorem od_le {k : Nat} (_ : Room k X.A) : OpD X (compareOp .LtE) m dLe := od_leI.or (opd_str op_le_str)
theorem od_gt {k : Nat} (_ : Room k X.A) : OpD X (compareOp .Gt) m dGt := od_gtI.or (opd_str op_gt_str)
/-- x in a text; in a list or tuple of flat things -/
def flatD : D → Bool
  | .non => true
  | .bl _ => true
  | .int _ => true
  | .str _ => true
  | _ => false
def eqD : D → D → Bool
  | .non, .non => true
  | .bl a, .bl b => a == b
  | .bl a, .int b => (if a then 1 else 0) == b
  | .int a, .bl b => a == (if b then 1 else 0)
  | .int a, .int b => a == b
  | .str a, .str b => a == b
  | _, _ => false
noncomputable def dInQ (neg : Bool) (x : D) (ds : List D) : Out D := chk (flatD x = true ∧ ds.all flatD = true) (.ok (.bl (if neg then !(ds.any fun y => eqD y x) else ds.any fun y => eqD y x)))
noncomputable def dInL (neg : Bool) : D → D → Out D
  | x, .lst ds => dInQ neg x ds
  | x, .tup ds => dInQ neg x ds
  | _, _ => .stuck
theorem flat_v {K : PySem.W.Frag} {mg : Mg} {Hf H : Hp} {x : D} {v : V} (h : IsD K mg H x v) (f : flatD x = true) : flatV v = true := by
  cases x <;> first | (simp [flatD] at f; done) | (simp only [IsD] at h; subst h; rfl)
theorem flat_r {K : PySem.W.Frag} {mg : Mg} {Hf H : Hp} {x : D} {v : V} (h : IsR K mg Hf H x v) (f : flatD x = true) : IsD K mg Hf x v := by
  cases x <;> first | (simp [flatD] at f; done) | exact h
theorem flat_eq {K : PySem.W.Frag} {mg : Mg} {H : Hp} {x y : D} {v u : V} (h : IsD K mg H x v) (h' : IsD K mg H y u) (f : flatD x = true) (f' : flatD y = true) : eqV v u = eqD x y := by
  cases x <;> first
    | (simp [flatD] at f; done)
    | (cases y <;> first
      | (simp [flatD] at f'; done)
      | (simp only [IsD] at h h'; subst h h'; rfl))
theorem flat_in {K : PySem.W.Frag} {mg : Mg} {H : Hp} {x : D} {v : V} (h : IsD K mg H x v) (f : flatD x = true) : ∀ {ds : List D} {vs : List V}, IsDs K mg H ds vs → ds.all flatD = true → vs.all flatV = true ∧ inV v vs = ds.any fun y => eqD y x
  | [], _, k, _ => by simp only [IsDs] at k; subst k; exact ⟨rfl, rfl⟩
  | d :: ds, _, k, z => by
    simp only [IsDs] at k
    obtain ⟨u, us, rfl, q, r⟩ := k
    simp only [List.all_cons, Bool.and_eq_true] at z
    obtain ⟨i1, i2⟩ := flat_in h f r z.2
    refine ⟨by rw [List.all_cons, i1, flat_v (Hf := H) q z.1]; rfl, ?_⟩
    unfold inV at i2 ⊢
    rw [List.any_cons, List.any_cons, i2, flat_eq q h z.1 f]
theorem opd_in {f : Value → Value → Sem Value} {neg : Bool} (ho : OpR X f (rIn X.K neg)) : OpD X f m (dInL neg) := by
  refine ⟨_, ho, fun g E Γ ρ σ Hf H x y v u Q R hx hy k => ?_⟩
  unfold dInL at k
  split at k
  · rename_i ds
    unfold dInQ at k
    by_cases c : flatD x = true ∧ ds.all flatD = true
    · rw [chk_pos c] at k
      obtain ⟨a, xs, rfl, q, r⟩ := hy
      obtain ⟨i1, i2⟩ := flat_in (flat_r hx c.1) c.1 r c.2
      refine ⟨a, xs, rfl, .inl (.of q), flat_v (Hf := Hf) (flat_r hx c.1) c.1, i1, ?_⟩
      rw [i2]
      exact k Hf H (Same.refl _) (Same.refl _) R _ (Res.dat R.same rfl (by simp only [IsD]))
    · rw [chk_neg c] at k; exact k.elim
  · rename_i ds
    unfold dInQ at k
    by_cases c : flatD x = true ∧ ds.all flatD = true
    · rw [chk_pos c] at k
      simp only [IsR, IsD] at hy
      obtain ⟨a, xs, rfl, q, r⟩ := hy
      obtain ⟨i1, i2⟩ := flat_in (flat_r hx c.1) c.1 r c.2
      refine ⟨a, xs, rfl, .inr (Same.seqT R.same q), flat_v (Hf := Hf) (flat_r hx c.1) c.1, i1, ?_⟩
      rw [i2]
      exact k Hf H (Same.refl _) (Same.refl _) R _ (Res.dat R.same rfl (by simp only [IsD]))
    · rw [chk_neg c] at k; exact k.elim
  · exact k.elim
def dInS : D → D → Out D := dS fun i j => !(Builtin.Str.occurrences j i 0 j.length 1).isEmpty
def dNotInS : D → D → Out D := dS fun i j => !(!(Builtin.Str.occurrences j i 0 j.length 1).isEmpty)
theorem od_inL : OpD X (compareOp .In) m (dInL false) := opd_in op_in_seq
theorem od_notinL : OpD X (compareOp .NotIn) m (dInL true) := opd_in op_notIn_seq
theorem od_inS : OpD X (compareOp .In) m dInS := opd_str op_in_str
theorem od_notinS : OpD X (compareOp .NotIn) m dNotInS := opd_str op_notIn_str
/-- x is None -/
def isNon : D → Bool
  | .non => true
  | _ => false
def dIsN (neg : Bool) : D → D → Out D
  | x, .non => .ok (.bl (if neg then !isNon x else isNon x))
  | _, _ => .stuck
theorem non_v {K : PySem.W.Frag} {mg : Mg} {Hf H : Hp} {x : D} {v : V} (h : IsR K mg Hf H x v) : decide (v = .non) = isNon x := by
  cases x with
  | lst ds => obtain ⟨a, xs, rfl, _⟩ := h; rfl
  | dic ds => obtain ⟨a, xs, rfl, _⟩ := h; rfl
  | non => simp only [IsR, IsD] at h; subst h; rfl
  | bl b => simp only [IsR, IsD] at h; subst h; rfl
  | int b => simp only [IsR, IsD] at h; subst h; rfl
  | str b => simp only [IsR, IsD] at h; subst h; rfl
  | ty b => simp only [IsR, IsD] at h; subst h; rfl
  | scr ns => simp only [IsR, IsD] at h; obtain ⟨a, rfl, _⟩ := h; rfl
  | tup ns => simp only [IsR, IsD] at h; obtain ⟨a, xs, rfl, _⟩ := h; rfl
  | ins c fs => simp only [IsR, IsD] at h; obtain ⟨a, C, dx, xs, rfl, _⟩ := h; rfl
  | adr a => simp only [IsR, IsD] at h; subst h; rfl
theorem od_isN : OpD X (compareOp .Is) m (dIsN false) := by
  refine ⟨_, op_isN, fun g E Γ ρ σ Hf H x y v u Q R hx hy k => ?_⟩
  unfold dIsN at k
  split at k
  · simp only [IsR, IsD] at hy
    refine ⟨hy, ?_⟩
    rw [non_v hx]
    exact k Hf H (Same.refl _) (Same.refl _) R _ (Res.dat R.same rfl (by simp [IsD]))
  · exact k.elim
theorem od_isnotN : OpD X (compareOp .IsNot) m (dIsN true) := by
  refine ⟨_, op_notN, fun g E Γ ρ σ Hf H x y v u Q R hx hy k => ?_⟩
  unfold dIsN at k
  split at k
  · simp only [IsR, IsD] at hy
    refine ⟨hy, ?_⟩
    rw [non_v hx]
    exact k Hf H (Same.refl _) (Same.refl _) R _ (Res.dat R.same rfl (by simp [IsD]))
  · exact k.elim
def dNeg : D → Out D
  | .int i => .ok (.int (-i))
  | _ => .stuck
theorem ud_neg : UnD X (unaryOp .USub) m dNeg := by
  refine ⟨_, un_neg, fun g E Γ ρ σ Hf H x v Q R hx k => ?_⟩
  unfold dNeg at k
  split at k
  · rename_i i
    simp only [IsR, IsD] at hx
    exact ⟨i, hx, k Hf H (Same.refl _) (Same.refl _) R _ (Res.dat R.same rfl (by simp only [IsD]))⟩
  · exact k.elim

/-! ### == -/
section
variable {K : PySem.W.Frag} {mg : Mg} {H : Hp}
theorem dp_ints : ∀ ns : List Int, DpAll K H (ns.map V.int) (ns.map .int)
  | [] => .nil
  | n :: ns => .cons (.int n) (dp_ints ns)
mutual
theorem dp_of : ∀ {d : D} {v : V}, IsD K mg H d v → (toPy d).canLay0 = true → Dp K H v (toPy d)
  | .non, _, h, _ => by simp only [IsD] at h; subst h; unfold toPy; exact .non
  | .bl b, _, h, _ => by simp only [IsD] at h; subst h; unfold toPy; exact .bl b
  | .int b, _, h, _ => by simp only [IsD] at h; subst h; unfold toPy; exact .int b
  | .str b, _, h, _ => by simp only [IsD] at h; subst h; unfold toPy; exact .str b
  | .ty _, _, _, z => by unfold toPy at z; simp [PyData.canLay0] at z
  | .scr ns, _, h, _ => by
    simp only [IsD] at h
    obtain ⟨a, rfl, q⟩ := h
    unfold toPy
    exact .lst q (dp_ints ns)
  | .tup ds, _, h, z => by
    simp only [IsD] at h
    obtain ⟨a, xs, rfl, q, r⟩ := h
    unfold toPy at z ⊢
    exact .tup q (dp_ofs r (by simpa [PyData.canLay0] using z))
  | .lst ds, _, h, z => by
    simp only [IsD] at h
    obtain ⟨a, xs, rfl, q, r⟩ := h
    unfold toPy at z ⊢
    exact .lst (.of q) (dp_ofs r (by simpa [PyData.canLay0] using z))
  | .dic _, _, _, z => by unfold toPy at z; simp [PyData.canLay0] at z
  | .ins _ _, _, _, z => by unfold toPy at z; simp [PyData.canLay0] at z
  | .adr _, _, _, z => by unfold toPy at z; simp [PyData.canLay0] at z
theorem dp_ofs : ∀ {d : List D} {v : List V}, IsDs K mg H d v → PyData.canLayAll0 (toPys d) = true → DpAll K H v (toPys d)
  | [], _, h, _ => by simp only [IsDs] at h; subst h; unfold toPys; exact .nil
  | d :: ds, _, h, z => by
    simp only [IsDs] at h
    obtain ⟨v, vs, rfl, q, r⟩ := h
    unfold toPys at z ⊢
    have z' : (toPy d).canLay0 = true ∧ PyData.canLayAll0 (toPys ds) = true := by simpa [PyData.canLayAll0] using z
    exact .cons (dp_of q z'.1) (dp_ofs r z'.2)
end
theorem dp_read {Hf : Hp} {d : D} {v : V} (s : Same Hf H) (h : IsR K mg Hf H d v) (z : (toPy d).canLay0 = true) : Dp K H v (toPy d) := by
  cases d with
  | lst ds =>
    obtain ⟨a, xs, rfl, q, r⟩ := h
    unfold toPy at z ⊢
    exact .lst (.of q) (dp_ofs (IsDs.mono s r) (by simpa [PyData.canLay0] using z))
  | dic ds => unfold toPy at z; simp [PyData.canLay0] at z
  | _ => exact dp_of (mg := mg) (IsD.mono s h) z
end
noncomputable def dEq : D → D → Out D := fun x y => chk (SeqAt.shaped (toPy x) = true ∧ SeqAt.shaped (toPy y) = true) (.ok (.bl (PyData.eqv (toPy x) (toPy y))))
noncomputable def dNe : D → D → Out D := fun x y => chk (SeqAt.shaped (toPy x) = true ∧ SeqAt.shaped (toPy y) = true) (.ok (.bl (!PyData.eqv (toPy x) (toPy y))))
theorem od_eq {k : Nat} (hr : Room k X.A) : OpD X (compareOp .Eq) m dEq := by
  refine ⟨_, op_eqD hr.units, fun g E Γ ρ σ Hf H x y v u Q R hx hy k => ?_⟩
  unfold dEq at k
  by_cases c : SeqAt.shaped (toPy x) = true ∧ SeqAt.shaped (toPy y) = true
  · rw [chk_pos c] at k
    exact ⟨toPy x, toPy y, dp_read R.same hx (SeqAt.canLay_of_shaped c.1), dp_read R.same hy (SeqAt.canLay_of_shaped c.2), c.1, c.2, k Hf H (Same.refl _) (Same.refl _) R _ (Res.dat R.same rfl (by simp only [IsD]))⟩
  · rw [chk_neg c] at k; exact k.elim
theorem od_ne {k : Nat} (hr : Room k X.A) : OpD X (compareOp .NotEq) m dNe := by
  refine ⟨_, op_neD hr.units, fun g E Γ ρ σ Hf H x y v u Q R hx hy k => ?_⟩
  unfold dNe at k
  by_cases c : SeqAt.shaped (toPy x) = true ∧ SeqAt.shaped (toPy y) = true
  · rw [chk_pos c] at k
    exact ⟨toPy x, toPy y, dp_read R.same hx (SeqAt.canLay_of_shaped c.1), dp_read R.same hy (SeqAt.canLay_of_shaped c.2), c.1, c.2, k Hf H (Same.refl _) (Same.refl _) R _ (Res.dat R.same rfl (by simp only [IsD]))⟩
  · rw [chk_neg c] at k; exact k.elim

/-! ### a subscript -/
noncomputable def dIxS : D → D → Out D
  | .lst ds, .int i => match atI ds i with
    | some d => .ok d
    | none => .stuck
  | .tup ds, .int i => match atI ds i with
    | some d => .ok d
    | none => .stuck
  | .scr ns, .int i => match atI ns i with
    | some n => .ok (.int n)
    | none => .stuck
  | .str z, .int i => chk (z.length ≤ sizeLine) (match atI z.cps.toList i with
    | some c => .ok (.str ⟨#[c]⟩)
    | none => .stuck)
  | _, _ => .stuck
theorem IsDs.atI {K : PySem.W.Frag} {mg : Mg} {H : Hp} {ds : List D} {vs : List V} {i : Int} {d : D} (h : IsDs K mg H ds vs) (e : atI ds i = some d) : ∃ v, atI vs i = some v ∧ IsD K mg H d v := by
  unfold L2.atI at e ⊢
  rw [h.len]
  cases q : ixN ds.length i with
  | none => rw [q] at e; cases e
  | some j =>
    rw [q] at e
    exact h.at e
theorem px_ixS {g : G} {E : WX} {Γ Γ1 Γ2 : List Bool} {pos : Pos} {a b : Expr} {fa fb : Env → Out D} (ha : PX X g E Γ a Γ1 .rd fa) (hb : PX X g E Γ1 b Γ2 .rd fb) (hs : PlainIx b) : PX X g E Γ (.Subscript a b pos) Γ2 .fr (e2 dIxS fa fb) := by
  refine ⟨hb.le.trans ha.le, (pe_ix ix_seq ha.pe hb.pe hs).imp fun σ H Q ⟨ρ, Hf, R, k⟩ => ⟨ρ, Hf, R, ?_⟩⟩
  refine tG.bind hb.le k fun x F1 H1 s1 s2 R1 k1 v hv => ⟨ρ, F1, R1, ?_⟩
  refine tG.bind (Le.refl _) k1 fun y F2 H2 s3 s4 R2 k2 u hu => ?_
  have hv := IsR.mono s3 s4 hv
  unfold dIxS at k2
  split at k2
  · rename_i ds i _
    obtain ⟨p, xs, rfl, q, r⟩ := hv
    cases hu
    cases e : atI ds i with
    | none => rw [e] at k2; exact k2.elim
    | some d =>
      rw [e] at k2
      obtain ⟨z, ez, hz⟩ := r.atI e
      exact .inl ⟨p, xs, i, z, rfl, rfl, .of q, ez, k2 F2 H2 (Same.refl _) (Same.refl _) R2 z hz⟩
  · rename_i ds i _
    simp only [IsR, IsD] at hv
    obtain ⟨p, xs, rfl, q, r⟩ := hv
    cases hu
    cases e : atI ds i with
    | none => rw [e] at k2; exact k2.elim
    | some d =>
      rw [e] at k2
      obtain ⟨z, ez, hz⟩ := r.atI e
      exact .inr (.inl ⟨p, xs, i, z, rfl, rfl, Same.seqT R2.same q, ez, k2 F2 H2 (Same.refl _) (Same.refl _) R2 z hz⟩)
  · rename_i ns i _
    simp only [IsR, IsD] at hv
    obtain ⟨p, rfl, q⟩ := hv
    cases hu
    cases e : atI ns i with
    | none => rw [e] at k2; exact k2.elim
    | some n =>
      rw [e] at k2
      have ez : atI (ns.map V.int) i = some (V.int n) := by
        unfold L2.atI at e ⊢
        rw [List.length_map]
        cases q : ixN ns.length i with
        | none => rw [q] at e; cases e
        | some j =>
          rw [q] at e
          show (ns.map V.int)[j]? = _
          rw [List.getElem?_map, show ns[j]? = some n from e]; rfl
      exact .inl ⟨p, _, i, _, rfl, rfl, R2.same.seq q, ez, k2 F2 H2 (Same.refl _) (Same.refl _) R2 _ (show IsD _ _ _ _ _ by simp only [IsD])⟩
  · rename_i z i _
    simp only [IsR, IsD] at hv
    cases hu
    by_cases l : z.length ≤ sizeLine
    · rw [chk_pos l] at k2
      cases e : atI z.cps.toList i with
      | none => rw [e] at k2; exact k2.elim
      | some c =>
        rw [e] at k2
        exact .inr (.inr ⟨z, i, c, hv, rfl, l, e, k2 F2 H2 (Same.refl _) (Same.refl _) R2 _ (show IsD _ _ _ _ _ by simp only [IsD])⟩)
    · rw [chk_neg l] at k2; exact k2.elim
  · exact k2.elim
end

/-! ## built-in calls: the arguments read -/
section
variable {K : PySem.W.Frag} {mg : Mg}
def IsRs (K : PySem.W.Frag) (mg : Mg) (Hf H : Hp) : List D → List V → Prop
  | [], xs => xs = []
  | d :: ds, xs => ∃ v vs, xs = v :: vs ∧ IsR K mg Hf H d v ∧ IsRs K mg Hf H ds vs
end
structure PBx (X : Cx) (g : G) (E : WX) (Γ : List Bool) (e : List Expr) (Γ' : List Bool) (f : Env → Out (List D)) : Prop where
  le : Le Γ' Γ
  pe : PA X e (fun σ H Q => ∃ ρ Hf, Rp X.K X.mw g Γ ρ σ Hf H ∧ tG X.K X.mw g E Γ' ρ σ Hf H (fun ds Hf' H' => ∀ vs, IsRs X.K X.mw Hf' H' ds vs → Q vs H') (f ρ))
/-- the built-in u, called on read things, means F -/
def CaD (X : Cx) (u : Value) (m : Md) (F : List D → Out D) : Prop := ∃ r, CallR X u r ∧
  ∀ g E Γ ρ σ Hf H ds vs Q, Rp X.K X.mw g Γ ρ σ Hf H → IsRs X.K X.mw Hf H ds vs → tG X.K X.mw g E Γ ρ σ Hf H (PV X g Γ ρ σ m Q) (F ds) → r vs H Q
section
variable {X : Cx} {g : G} {E : WX} {Γ Γ1 Γ2 : List Bool} {m : Md} {pos p : Pos} {a : Expr} {es : List Expr} {fa : Env → Out D} {fr : Env → Out (List D)} {x : Str} {id T : String} {F : List D → Out D}
theorem pbx_nil : PBx X g E Γ [] Γ aN := by
  refine ⟨Le.refl _, pa_nil.imp fun σ H Q ⟨ρ, Hf, R, k⟩ => ?_⟩
  exact k Hf H (Same.refl _) (Same.refl _) R [] rfl
theorem pbx_cons (ha : PX X g E Γ a Γ1 .rd fa) (hr : PBx X g E Γ1 es Γ2 fr) (hs : starEach (a :: es) X.env = (false, eval a X.env) :: starEach es X.env := by rfl) : PBx X g E Γ (a :: es) Γ2 (aC fa fr) := by
  refine ⟨hr.le.trans ha.le, (pa_cons ha.pe hr.pe hs).imp fun σ H Q ⟨ρ, Hf, R, k⟩ => ⟨ρ, Hf, R, ?_⟩⟩
  refine tG.bind hr.le k fun x F1 H1 s1 s2 R1 k1 v hv => ⟨ρ, F1, R1, ?_⟩
  refine tG.bind (Le.refl _) k1 fun ys F2 H2 s3 s4 R2 k2 us hu => ?_
  exact k2 F2 H2 (Same.refl _) (Same.refl _) R2 (v :: us) ⟨v, us, rfl, IsR.mono s3 s4 hv, hu⟩
theorem px_callB (hc : CaD X (.builtin id) m F) (hg : Gl X x) (hm : X.mg x = none) (hv : bootBuiltins x = some (.builtin id)) (ha : PBx X g E Γ (a :: es) Γ1 fr) (hn : x ≠ "__name__" := by decide) (hdb : (x == ("__debug__" : Str)) = false := by decide)
    (he : starEach (a :: es) X.env = (false, eval a X.env) :: starEach es X.env := by rfl) (hpl : (backTo pos (starEach es X.env)).any (·.1) = false := by rfl) : PX X g E Γ (.Call (.Name x p) (a :: es) [] pos) Γ1 m (eA F fr) := by
  obtain ⟨r, hr, w⟩ := hc
  refine ⟨ha.le, (pe_callB hr hg hm hv ha.pe hn hdb he hpl).imp fun σ H Q ⟨ρ, Hf, R, k⟩ => ⟨ρ, Hf, R, ?_⟩⟩
  exact tG.bind (Le.refl _) k fun ds F1 H1 s1 s2 R1 k1 vs hv => w g E Γ1 ρ σ F1 H1 ds vs Q R1 hv k1
theorem px_callT (hc : CaD X (.type T) m F) (hg : Gl X x) (hm : X.mg x = none) (hv : bootBuiltins x = some (.type T)) (ha : PBx X g E Γ (a :: es) Γ1 fr) (hn : x ≠ "__name__" := by decide) (hdb : (x == ("__debug__" : Str)) = false := by decide)
    (he : starEach (a :: es) X.env = (false, eval a X.env) :: starEach es X.env := by rfl) (hpl : (backTo pos (starEach es X.env)).any (·.1) = false := by rfl) : PX X g E Γ (.Call (.Name x p) (a :: es) [] pos) Γ1 m (eA F fr) := by
  obtain ⟨r, hr, w⟩ := hc
  refine ⟨ha.le, (pe_callTy hr hg hm hv ha.pe hn hdb he hpl).imp fun σ H Q ⟨ρ, Hf, R, k⟩ => ⟨ρ, Hf, R, ?_⟩⟩
  exact tG.bind (Le.refl _) k fun ds F1 H1 s1 s2 R1 k1 vs hv => w g E Γ1 ρ σ F1 H1 ds vs Q R1 hv k1
theorem IsRs.one {K : PySem.W.Frag} {mg : Mg} {Hf H : Hp} {d : D} {vs : List V} (h : IsRs K mg Hf H [d] vs) : ∃ v, vs = [v] ∧ IsR K mg Hf H d v := by
  obtain ⟨v, us, e, q, rfl⟩ := h
  exact ⟨v, e, q⟩
theorem IsRs.two {K : PySem.W.Frag} {mg : Mg} {Hf H : Hp} {d e : D} {vs : List V} (h : IsRs K mg Hf H [d, e] vs) : ∃ v u, vs = [v, u] ∧ IsR K mg Hf H d v ∧ IsR K mg Hf H e u := by
  obtain ⟨v, us, e1, q, u, us', e2, q2, rfl⟩ := h
  exact ⟨v, u, by rw [e1, e2], q, q2⟩
/-- a built-in type as a value -/
theorem px_type (hg : Gl X x) (hm : X.mg x = none) (hv : bootBuiltins x = some (.type T)) (hn : x ≠ "__name__" := by decide) (hd : (x == ("__debug__" : Str)) = false := by decide) : PX X g E Γ (.Name x pos) Γ m (eC (.ty T)) :=
  .atom (pe_bltn (v := .ty T) hg hm hv rfl hn hd) rfl fun F v e => by simpa only [IsD] using e
noncomputable def cLen : List D → Out D
  | [.lst ds] => .ok (.int ds.length)
  | [.tup ds] => .ok (.int ds.length)
  | [.scr ns] => .ok (.int ns.length)
  | [.str z] => chk (z.length ≤ sizeLine) (.ok (.int z.length))
  | _ => .stuck
theorem CallR.or {u : Value} {r r' : List V → Hp → VK → Prop} (h : CallR X u r) (h' : CallR X u r') : CallR X u (fun x H Q => r x H Q ∨ r' x H Q) := by
  intro pins s σ H xs us Q I rx q
  rcases q with q | q
  · exact h pins s σ H xs us Q I rx q
  · exact h' pins s σ H xs us Q I rx q
theorem call_len_str' : CallR X (.builtin "len") (fun xs H Q => ∃ z : Str, xs = [.str z] ∧ z.length ≤ sizeLine ∧ Q (.int z.length) H) := by
  intro pins s σ H xs us Q I r h
  obtain ⟨z, rfl, l, q⟩ := h
  exact call_len pins s σ H _ us Q I r ⟨.str z, z.length, rfl, ⟨l, rfl⟩, q⟩
theorem ca_len : CaD X (.builtin "len") m cLen := by
  refine ⟨_, call_len_seq.or call_len_str', fun g E Γ ρ σ Hf H ds vs Q R h k => ?_⟩
  unfold cLen at k
  split at k
  · rename_i ds
    obtain ⟨v, rfl, p, xs, rfl, q, r⟩ := h.one
    rw [← r.len] at k
    exact .inl ⟨p, xs, rfl, .inl (.of q), k Hf H (Same.refl _) (Same.refl _) R _ (Res.dat R.same rfl (by simp only [IsD]))⟩
  · rename_i ds
    obtain ⟨v, rfl, z⟩ := h.one
    simp only [IsR, IsD] at z
    obtain ⟨p, xs, rfl, q, r⟩ := z
    rw [← r.len] at k
    exact .inl ⟨p, xs, rfl, .inr (Same.seqT R.same q), k Hf H (Same.refl _) (Same.refl _) R _ (Res.dat R.same rfl (by simp only [IsD]))⟩
  · rename_i ns
    obtain ⟨v, rfl, z⟩ := h.one
    simp only [IsR, IsD] at z
    obtain ⟨p, rfl, q⟩ := z
    refine .inl ⟨p, _, rfl, .inl (R.same.seq q), ?_⟩
    rw [List.length_map]
    exact k Hf H (Same.refl _) (Same.refl _) R _ (Res.dat R.same rfl (by simp only [IsD]))
  · rename_i z
    obtain ⟨v, rfl, e⟩ := h.one
    simp only [IsR, IsD] at e
    subst e
    by_cases l : z.length ≤ sizeLine
    · rw [chk_pos l] at k
      exact .inr ⟨z, rfl, l, k Hf H (Same.refl _) (Same.refl _) R _ (Res.dat R.same rfl (by simp only [IsD]))⟩
    · rw [chk_neg l] at k; exact k.elim
  · exact k.elim
def cMax2 : List D → Out D
  | [.int i, .int j] => .ok (.int (if j > i then j else i))
  | _ => .stuck
def cMin2 : List D → Out D
  | [.int i, .int j] => .ok (.int (if j < i then j else i))
  | _ => .stuck
theorem ca_max2 (hc : X.calm = true) : CaD X (.builtin "max") m cMax2 := by
  refine ⟨_, call_max2 hc, fun g E Γ ρ σ Hf H ds vs Q R h k => ?_⟩
  unfold cMax2 at k
  split at k
  · obtain ⟨v, u, rfl, q1, q2⟩ := h.two
    cases q1; cases q2
    exact ⟨_, _, rfl, k Hf H (Same.refl _) (Same.refl _) R _ (Res.dat R.same rfl (by simp only [IsD]))⟩
  · exact k.elim
theorem ca_min2 (hc : X.calm = true) : CaD X (.builtin "min") m cMin2 := by
  refine ⟨_, call_min2 hc, fun g E Γ ρ σ Hf H ds vs Q R h k => ?_⟩
  unfold cMin2 at k
  split at k
  · obtain ⟨v, u, rfl, q1, q2⟩ := h.two
    cases q1; cases q2
    exact ⟨_, _, rfl, k Hf H (Same.refl _) (Same.refl _) R _ (Res.dat R.same rfl (by simp only [IsD]))⟩
  · exact k.elim
def cAbs : List D → Out D
  | [.int i] => .ok (.int (if i < 0 then -i else i))
  | _ => .stuck
theorem ca_abs : CaD X (.builtin "abs") m cAbs := by
  refine ⟨_, call_abs, fun g E Γ ρ σ Hf H ds vs Q R h k => ?_⟩
  unfold cAbs at k
  split at k
  · obtain ⟨v, rfl, q1⟩ := h.one
    cases q1
    exact ⟨_, rfl, k Hf H (Same.refl _) (Same.refl _) R _ (Res.dat R.same rfl (by simp only [IsD]))⟩
  · exact k.elim
def cInt : List D → Out D
  | [.int i] => .ok (.int i)
  | [.bl b] => .ok (.int (if b then 1 else 0))
  | _ => .stuck
theorem ca_int : CaD X (.type "int") m cInt := by
  refine ⟨_, call_int1, fun g E Γ ρ σ Hf H ds vs Q R h k => ?_⟩
  unfold cInt at k
  split at k
  · obtain ⟨v, rfl, q1⟩ := h.one
    cases q1
    exact .inl ⟨_, rfl, k Hf H (Same.refl _) (Same.refl _) R _ (Res.dat R.same rfl (by simp only [IsD]))⟩
  · obtain ⟨v, rfl, q1⟩ := h.one
    cases q1
    exact .inr ⟨_, rfl, k Hf H (Same.refl _) (Same.refl _) R _ (Res.dat R.same rfl (by simp only [IsD]))⟩
  · exact k.elim
/-- isinstance(x, T), T a built-in class -/
def tyName : D → Option String
  | .non => some "NoneType"
  | .bl _ => some "bool"
  | .int _ => some "int"
  | .str _ => some "str"
  | .tup _ => some "tuple"
  | .lst _ => some "list"
  | .scr _ => some "list"
  | _ => none
def cIsi : List D → Out D
  | [d, .ty t] => match tyName d with
    | some n => match kitB n t with
      | some b => .ok (.bl b)
      | none => .stuck
    | none => .stuck
  | _ => .stuck
theorem rd_ty {H : Hp} {a : Addr} {kvs : List (Key × V)} {K : PySem.W.Frag} (h : Rd H a (.dK kvs)) : TyX K H (.ref a) (.type "dict") := by
  rcases h with h | ⟨o, h⟩
  · exact .base (.dK h)
  · exact .fDict h
theorem sq_ty {H : Hp} {a : Addr} {xs : List V} {K : PySem.W.Frag} (h : SqL K H a xs) : TyX K H (.ref a) (.type "list") := by
  rcases h with (h | ⟨o, h⟩) | ⟨o, its, n, e, c, _⟩
  · exact .base (.lst h)
  · exact .base (.frz h)
  · exact .kList e c
theorem tup_ty {H : Hp} {a : Addr} {xs : List V} {K : PySem.W.Frag} (h : SqT K H a xs) : TyX K H (.ref a) (.type "tuple") := by
  rcases h with (h | ⟨o, h⟩) | ⟨o, its, n, e, c, _⟩
  · exact .base (.tup h)
  · exact .fTuple h
  · exact .kTuple e c
theorem ty_of {K : PySem.W.Frag} {mg : Mg} {Hf H : Hp} {d : D} {v : V} {n : String} (s : Same Hf H) (h : IsR K mg Hf H d v) (e : tyName d = some n) : TyX K H v (.type n) := by
  cases d with
  | non => cases e; cases h; exact .base .non
  | bl b => cases e; cases h; exact .base (.bl b)
  | int i => cases e; cases h; exact .base (.int i)
  | str x => cases e; cases h; exact .base (.str x)
  | ty x => cases e
  | scr ns => cases e; simp only [IsR, IsD] at h; obtain ⟨a, rfl, q⟩ := h; exact sq_ty (s.seq q)
  | tup ds => cases e; simp only [IsR, IsD] at h; obtain ⟨a, xs, rfl, q, r⟩ := h; exact tup_ty (Same.seqT s q)
  | lst ds => cases e; obtain ⟨a, xs, rfl, q, r⟩ := h; exact .base (.lst q)
  | dic ds => cases e
  | ins c fs => cases e
  | adr a => cases e
theorem ca_isi : CaD X (.builtin "isinstance") m cIsi := by
  refine ⟨_, call_isi, fun g E Γ ρ σ Hf H ds vs Q R h k => ?_⟩
  unfold cIsi at k
  split at k
  · rename_i d t
    obtain ⟨v, u, rfl, q1, q2⟩ := h.two
    cases q2
    cases e : tyName d with
    | none => rw [e] at k; exact k.elim
    | some n =>
      rw [e] at k
      simp only at k
      cases e2 : kitB n t with
      | none => rw [e2] at k; exact k.elim
      | some b =>
        rw [e2] at k
        exact ⟨v, .ty t, .type n, .type t, b, rfl, .ty t, ty_of R.same q1 e, kit_ty e2, k Hf H (Same.refl _) (Same.refl _) R _ (Res.dat R.same rfl (by simp only [IsD]))⟩
  · exact k.elim
end
end PD

namespace PD
open PySem PySem.Spec L2
open PyProof.Rows hiding St

def leB : List Bool → List Bool → Bool
  | [], _ => true
  | a :: as, [] => !a && leB as []
  | a :: as, b :: bs => (!a || b) && leB as bs
theorem le_of : ∀ {a b : List Bool}, leB a b = true → Le a b
  | [], b, _, i, h => by unfold Own at h; simp at h
  | a :: as, [], e, i, h => by
    unfold leB at e
    simp only [Bool.and_eq_true] at e
    cases i with
    | zero =>
      unfold Own at h
      have h' : a = true := by simpa using h
      rw [h'] at e
      simp at e
    | succ i =>
      have h' : Own as i := by unfold Own at h ⊢; simpa using h
      have := le_of e.2 i h'
      unfold Own at this
      simp at this
  | a :: as, b :: bs, e, i, h => by
    unfold leB at e
    simp only [Bool.and_eq_true] at e
    cases i with
    | zero =>
      unfold Own at h ⊢
      have h' : a = true := by simpa using h
      have e1 := e.1
      rw [h'] at e1
      simpa using e1
    | succ i =>
      have h' : Own as i := by unfold Own at h ⊢; simpa using h
      have := le_of e.2 i h'
      unfold Own at this ⊢
      simpa using this

theorem no_own {a : List Bool} (h : leB a [] = true) : ∀ i, ¬ Own a i := fun i o => by
  have := le_of h i o
  unfold Own at this
  simp at this
theorem nxs_nil : ∀ F ∈ ([] : List (D → Env → Out Env)), ∀ d ρ x, F d ρ ≠ .exc x := fun F h => by cases h
theorem nxs_cons {F : D → Env → Out Env} {Fs : List (D → Env → Out Env)} (h : ∀ d ρ x, F d ρ ≠ .exc x) (t : ∀ F ∈ Fs, ∀ d ρ x, F d ρ ≠ .exc x) : ∀ F' ∈ F :: Fs, ∀ d ρ x, F' d ρ ≠ .exc x := fun F' m => by
  rcases List.mem_cons.mp m with rfl | m
  · exact h
  · exact t F' m
section
variable {X : Cx} {g : G} {E : WX} {ro : Bool} {Γl Γ Γ1 Γ2 Γ3 : List Bool} {m : Md} {pos p : Pos} {x : Str} {e : Expr} {es : List Expr} {k : Nat} {ps : List Str} {F : List D → Out D} {fa : Env → Out (List D)}
theorem px_callF (C : FnA X.prog X.w X.K X.mg X.base k x ps false F) (hr : Room k X.A) (hg : Gl X x) (tk : Takes X E) (ha : PAx X g E Γ (e :: es) Γ1 fa) (hdb : (x == ("__debug__" : Str)) = false := by decide)
    (he : starEach (e :: es) X.env = (false, eval e X.env) :: starEach es X.env := by rfl) (hpl : (backTo pos (starEach es X.env)).any (·.1) = false := by rfl) : PX X g E Γ (.Call (.Name x p) (e :: es) [] pos) Γ1 .fr (eA F fa) := px_call C hr hg tk ha hdb he hpl
theorem px_callO (C : FnA X.prog X.w X.K X.mg X.base k x ps true F) (hr : Room k X.A) (hg : Gl X x) (tk : Takes X E) (ha : PAx X g E Γ (e :: es) Γ1 fa) (hdb : (x == ("__debug__" : Str)) = false := by decide)
    (he : starEach (e :: es) X.env = (false, eval e X.env) :: starEach es X.env := by rfl) (hpl : (backTo pos (starEach es X.env)).any (·.1) = false := by rfl) : PX X g E Γ (.Call (.Name x p) (e :: es) [] pos) Γ1 .ow (eA F fa) := px_call C hr hg tk ha hdb he hpl
end

theorem bb_len : bootBuiltins "len" = some (.builtin "len") := by decide +kernel
theorem bb_max : bootBuiltins "max" = some (.builtin "max") := by decide +kernel
theorem bb_min : bootBuiltins "min" = some (.builtin "min") := by decide +kernel
theorem bb_abs : bootBuiltins "abs" = some (.builtin "abs") := by decide +kernel
theorem bb_isinstance : bootBuiltins "isinstance" = some (.builtin "isinstance") := by decide +kernel
theorem bb_int : bootBuiltins "int" = some (.type "int") := by decide +kernel
theorem bb_bool : bootBuiltins "bool" = some (.type "bool") := by decide +kernel
theorem bb_tuple : bootBuiltins "tuple" = some (.type "tuple") := by decide +kernel
theorem bb_str : bootBuiltins "str" = some (.type "str") := by decide +kernel
theorem bb_list : bootBuiltins "list" = some (.type "list") := by decide +kernel
theorem bb_dict : bootBuiltins "dict" = some (.type "dict") := by decide +kernel

/-! ## the end -/
theorem fnT_of {K : PySem.W.Frag} {h : Heap} {mg : Str → Option Value} {x : Str} {st : Stmt} {f : Addr} {oc : Value} {od an : Option Addr} {osl : Array (Option Value)} {kV doc pm cdv ct : Value} (X : K.In h) (G : h.Ns mainGlobals mg)
    (a : PySem.W.nsIn K mainGlobals x = some (some (.ref f))) (l : K.lookup f = some ⟨oc, od, .func (PySem.W.fnOf x x (defArgs st) (defBody st) (defScope st) .none kV doc pm an cdv ct), osl⟩)
    (c : PySem.W.codeIn K cdv x = true) (k : PySem.W.keepIn K (.ref f) = true) : FnT K mg x st :=
  ⟨⟨f, _, PySem.W.mg_of X G a, fun_mk (st := st) l c k⟩⟩
def spLaw (K : PySem.W.Frag) : Sp := fun vs H Q _ => ∃ (a : Addr) (ns : List Int), vs = [.ref a] ∧ SqL K H a (ns.map V.int) ∧ ns.length ≤ 63 ∧ (∀ z ∈ ns, Builtin.Int.intBits z ≤ 1048576) ∧ ∀ H', Q (.bl true) H'
theorem law_imp {K : PySem.W.Frag} {mg : Mg} {ro : Bool} {F : List D → Out D} (hF : ∀ ns : List Int, ns.length ≤ 63 → (∀ z ∈ ns, Builtin.Int.intBits z ≤ 1048576) → F [.scr ns] = .ok (.bl true)) (vs : List V) (H : Hp) (Q : VK) (E : XK) (h : spLaw K vs H Q E) : spD K mg ro F vs H Q E := by
  obtain ⟨a, ns, rfl, q, l, b, k⟩ := h
  refine ⟨[.scr ns], H, Same.refl _, by simp only [IsDs, IsD]; exact ⟨_, _, rfl, ⟨a, rfl, q⟩, rfl⟩, ?_⟩
  rw [hF ns l b]
  intro v Hf' H' _ _ _ _ r
  have : v = .bl true := by
    unfold RetRes at r
    cases ro <;> simpa [IsO, IsD] using r
  subst this
  exact k H'
theorem cx_no {P : Program} {w : World} {H : Hp} {s : Shared} {e : Value} {s' : Shared} (h : L2.CX P w [] H s (fun _ _ _ => False) e s') : False := by
  obtain ⟨_, _, _, _, _, _, _, _, _, _, _, _, z⟩ := h
  exact z
/-- the law's def, for walk_ofB -/
theorem law_end {P : Program} {w : World} {K : PySem.W.Frag} {mg : Str → Option Value} {k : Nat} {fa : Addr} {ro : Bool} {F : List D → Out D} {x : Str} {st : Stmt} (T : FnT K mg "law" st) (hfa : mg "law" = some (.ref fa))
    (hb : ∀ (kV doc pm : Value) (an : Option Addr) (cdv ct : Value) (us : List Value), us.length = 1 → bindArgs (PySem.W.fnOf "law" "law" (defArgs st) (defBody st) (defScope st) .none kV doc pm an cdv ct) ⟨us, []⟩ = pure ([x].zip us))
    (A : ∀ base : Heap, FnA P w K mg base k "law" [x] ro F)
    (hF : ∀ ns : List Int, ns.length ≤ 63 → (∀ z ∈ ns, Builtin.Int.intBits z ≤ 1048576) → F [.scr ns] = .ok (.bl true)) :
    ∃ fd : FuncData, (∀ (s : Shared) (v : Value), BindsTo s fd ⟨[v], []⟩ [(x, v)]) ∧ ∀ base : Heap, K.In base → base.Ns mainGlobals mg → FnOk P w K mg base (L2.CX P w) k fa fd [x] (spLaw K) := by
  obtain ⟨f, fd, e1, Fn⟩ := T.ex
  rw [hfa] at e1
  cases e1
  refine ⟨fd, fun s v => ?_, fun base _ _ => ?_⟩
  · obtain ⟨oc, od, kV, doc, pm, an, cdv, ct, osl, rfl, lk, hcd⟩ := Fn.ex
    exact .of_eq (hb kV doc pm an cdv ct [v] rfl)
  · obtain ⟨f', fd', e1, e2, e3, e4, oc', od', osl', lk'⟩ := (A base).ex
    rw [hfa] at e1
    cases e1
    obtain ⟨oc, od, kV, doc, pm, an, cdv, ct, osl, rfl, lk, hcd⟩ := Fn.ex
    rw [lk] at lk'
    cases lk'
    exact e4.imp (law_imp hF)
end PD

namespace PD
open PySem PySem.Spec L2
open PyProof.Rows hiding St
/-! ## evaluation -/
theorem sSeq_ap (f k : Env → SO) (ρ : Env) : sSeq f k ρ = (f ρ).andThen k := rfl
theorem sIf_ap (t : Env → Out Bool) (a b : Env → SO) (ρ : Env) : sIf t a b ρ = oS (t ρ) fun c => if c = true then a ρ else b ρ := rfl
theorem sSet_ap (i : Nat) (f : Env → Out D) (ρ : Env) : sSet i f ρ = oS (f ρ) fun d => .nx (ρ.set i (some d)) := rfl
theorem sRet_ap (f : Env → Out D) (ρ : Env) : sRet f ρ = oS (f ρ) .rt := rfl
theorem sExpr_ap (f : Env → Out D) (ρ : Env) : sExpr f ρ = oS (f ρ) fun _ => .nx ρ := rfl
theorem sAsg_ap (G : D → Env → Out Env) (f : Env → Out D) (ρ : Env) : sAsg G f ρ = oS (f ρ) fun d => oS (G d ρ) .nx := rfl
theorem sFor_ap (G : D → Env → Out Env) (it : Env → Out (List D)) (b : Env → SO) (ρ : Env) : sFor G it b ρ = oS (it ρ) fun ds => forL G b ds ρ := rfl
theorem sNx_ap (ρ : Env) : sNx ρ = .nx ρ := rfl
theorem sBk_ap (ρ : Env) : sBk ρ = .bk ρ := rfl
theorem sCt_ap (ρ : Env) : sCt ρ = .ct ρ := rfl
theorem sRetN_ap (ρ : Env) : sRetN ρ = .rt .non := rfl
theorem eC_ap (d : D) (ρ : Env) : eC d ρ = .ok d := rfl
theorem eV_0 (d : D) (ρ : Env) : eV 0 (some d :: ρ) = .ok d := rfl
theorem eV_s (i : Nat) (x : Option D) (ρ : Env) : eV (i + 1) (x :: ρ) = eV i ρ := by simp [eV]
theorem e2_ap (F : D → D → Out D) (a b : Env → Out D) (ρ : Env) : e2 F a b ρ = (a ρ).bind fun x => (b ρ).bind fun y => F x y := rfl
theorem e1_ap (F : D → Out D) (a : Env → Out D) (ρ : Env) : e1 F a ρ = (a ρ).bind F := rfl
theorem aN_ap (ρ : Env) : aN ρ = .ok [] := rfl
theorem aC_ap (a : Env → Out D) (r : Env → Out (List D)) (ρ : Env) : aC a r ρ = (a ρ).bind fun x => (r ρ).bind fun xs => .ok (x :: xs) := rfl
theorem eA_ap (F : List D → Out D) (a : Env → Out (List D)) (ρ : Env) : eA F a ρ = (a ρ).bind F := rfl
theorem tOf_ap (f : Env → Out D) (ρ : Env) : tOf f ρ = (f ρ).bind fun d => match d with
  | .bl b => .ok b
  | _ => .stuck := rfl
theorem bAnd_ap (s t : Env → Out Bool) (ρ : Env) : bAnd s t ρ = (s ρ).bind fun b => if b = true then t ρ else .ok false := rfl
theorem bOr_ap (s t : Env → Out Bool) (ρ : Env) : bOr s t ρ = (s ρ).bind fun b => if b = true then .ok true else t ρ := rfl
theorem bNot_ap (s : Env → Out Bool) (ρ : Env) : bNot s ρ = (s ρ).bind fun b => .ok (!b) := rfl
theorem vAnd_ap (a b : Env → Out D) (ρ : Env) : vAnd a b ρ = (a ρ).bind fun x => match x with
  | .bl c => if c = true then b ρ else .ok (.bl false)
  | _ => .stuck := rfl
theorem vOr_ap (a b : Env → Out D) (ρ : Env) : vOr a b ρ = (a ρ).bind fun x => match x with
  | .bl c => if c = true then .ok (.bl true) else b ρ
  | _ => .stuck := rfl
theorem vNot_ap (a : Env → Out D) (ρ : Env) : vNot a ρ = (a ρ).bind fun x => match x with
  | .bl c => .ok (.bl (!c))
  | _ => .stuck := rfl
theorem eIf_ap (t : Env → Out Bool) (a b : Env → Out D) (ρ : Env) : eIf t a b ρ = (t ρ).bind fun c => if c = true then a ρ else b ρ := rfl
theorem gN_ap (i : Nat) (d : D) (ρ : Env) : gN i d ρ = .ok (ρ.set i (some d)) := rfl
theorem gT_ap (gs : List (D → Env → Out Env)) (ds : List D) (ρ : Env) : gT gs (.tup ds) ρ = if ds.length = gs.length then (gs.zip ds).foldl (fun o p => o.bind (p.1 p.2)) (.ok ρ) else .stuck := rfl
theorem forL_nil (G : D → Env → Out Env) (b : Env → SO) (ρ : Env) : forL G b [] ρ = .nx ρ := rfl
theorem forL_cons (G : D → Env → Out Env) (b : Env → SO) (d : D) (ds : List D) (ρ : Env) : forL G b (d :: ds) ρ = oS (G d ρ) fun ρ1 => (b ρ1).turn fun r => forL G b ds r := rfl
theorem fnM_ap (n k : Nat) (b : Env → SO) (ds : List D) : fnM n k b ds = if ds.length = k then (b (ds.map some ++ List.replicate (n - k) none)).res else .stuck := rfl
theorem andThen_ite (c : Prop) [Decidable c] (a b : SO) (k : Env → SO) : (if c then a else b).andThen k = if c then a.andThen k else b.andThen k := by split <;> rfl
theorem turn_ite (c : Prop) [Decidable c] (a b : SO) (k : Env → SO) : (if c then a else b).turn k = if c then a.turn k else b.turn k := by split <;> rfl
theorem res_ite (c : Prop) [Decidable c] (a b : SO) : (if c then a else b).res = if c then a.res else b.res := by split <;> rfl
theorem bind_ite {α β : Type} (c : Prop) [Decidable c] (a b : Out α) (k : α → Out β) : (if c then a else b).bind k = if c then a.bind k else b.bind k := by split <;> rfl
theorem oS_ite {α : Type} (c : Prop) [Decidable c] (a b : Out α) (k : α → SO) : oS (if c then a else b) k = if c then oS a k else oS b k := by split <;> rfl
theorem ok_ite {α : Type} (c : Prop) [Decidable c] (a b : α) : (if c then Out.ok a else Out.ok b) = Out.ok (if c then a else b) := by split <;> rfl
theorem int_ite (c : Prop) [Decidable c] (a b : Int) : (if c then D.int a else D.int b) = D.int (if c then a else b) := by split <;> rfl
theorem iSeq_ap (f : Env → Out D) (ρ : Env) : iSeq f ρ = (f ρ).bind fun d => match d with
  | .lst ds => .ok ds
  | .tup ds => .ok ds
  | .scr ns => .ok (ns.map .int)
  | _ => .stuck := rfl
theorem iRange1_ap (f : Env → Out (List D)) (ρ : Env) : iRange1 f ρ = (f ρ).bind rng1 := rfl
theorem iRange2_ap (f : Env → Out (List D)) (ρ : Env) : iRange2 f ρ = (f ρ).bind rng2 := rfl
theorem rng1_ok {j : Int} (h0 : -1000000 ≤ j) (h1 : j ≤ 1000000) : rng1 [.int j] = .ok ((List.range j.toNat).map fun (n : Nat) => .int n) := chk_pos ⟨by omega, by omega⟩
theorem rng2_ok {i j : Int} (h0 : -1000000 ≤ i) (h1 : i ≤ 1000000) (h2 : -1000000 ≤ j) (h3 : j ≤ 1000000) : rng2 [.int i, .int j] = .ok ((List.range (j - i).toNat).map fun (n : Nat) => .int (i + n)) := chk_pos ⟨by omega, by omega⟩
theorem mkLst_ok {ds : List D} (h : ds.length ≤ 16777216) : mkLst ds = .ok (.lst ds) := chk_pos h
theorem mkTup_ok {ds : List D} (h : ds.length ≤ 16777216) : mkTup ds = .ok (.tup ds) := chk_pos h
theorem mkTup_0 : mkTup [] = .ok (.tup []) := mkTup_ok (by simp)
theorem mkTup_1 (a : D) : mkTup [a] = .ok (.tup [a]) := mkTup_ok (by simp)
theorem mkTup_2 (a b : D) : mkTup [a, b] = .ok (.tup [a, b]) := mkTup_ok (by simp)
theorem mkTup_3 (a b c : D) : mkTup [a, b, c] = .ok (.tup [a, b, c]) := mkTup_ok (by simp)
theorem mkTup_4 (a b c d : D) : mkTup [a, b, c, d] = .ok (.tup [a, b, c, d]) := mkTup_ok (by simp)
theorem mkLst_0 : mkLst [] = .ok (.lst []) := mkLst_ok (by simp)
theorem mkLst_1 (a : D) : mkLst [a] = .ok (.lst [a]) := mkLst_ok (by simp)
theorem mkLst_2 (a b : D) : mkLst [a, b] = .ok (.lst [a, b]) := mkLst_ok (by simp)
theorem mkLst_3 (a b c : D) : mkLst [a, b, c] = .ok (.lst [a, b, c]) := mkLst_ok (by simp)
theorem mkLst_4 (a b c d : D) : mkLst [a, b, c, d] = .ok (.lst [a, b, c, d]) := mkLst_ok (by simp)
theorem dAdd_int (i j : Int) : dAdd (.int i) (.int j) = .ok (.int (i + j)) := rfl
theorem dSub_int (i j : Int) : dSub (.int i) (.int j) = .ok (.int (i - j)) := rfl
theorem dNeg_int (i : Int) : dNeg (.int i) = .ok (.int (-i)) := rfl
theorem dLe_int (i j : Int) : dLe (.int i) (.int j) = .ok (.bl (decide (i ≤ j))) := rfl
theorem dGt_int (i j : Int) : dGt (.int i) (.int j) = .ok (.bl (decide (j < i))) := rfl
theorem dEq_int (i j : Int) : dEq (.int i) (.int j) = .ok (.bl (decide (i = j))) := by
  unfold dEq
  rw [chk_pos ⟨rfl, rfl⟩]
  simp only [toPy, PyData.eqv]
  rw [Bool.beq_eq_decide_eq]
theorem dNe_int (i j : Int) : dNe (.int i) (.int j) = .ok (.bl (!decide (i = j))) := by
  unfold dNe
  rw [chk_pos ⟨rfl, rfl⟩]
  simp only [toPy, PyData.eqv]
  rw [Bool.beq_eq_decide_eq]
theorem cLen_scr (ns : List Int) : cLen [.scr ns] = .ok (.int ns.length) := rfl
theorem cLen_lst (ns : List D) : cLen [.lst ns] = .ok (.int ns.length) := rfl
theorem cLen_tup (ns : List D) : cLen [.tup ns] = .ok (.int ns.length) := rfl
theorem cInt_bl (b : Bool) : cInt [.bl b] = .ok (.int (if b then 1 else 0)) := rfl
theorem cInt_int (i : Int) : cInt [.int i] = .ok (.int i) := rfl
theorem cMax_int (i j : Int) : cMax2 [.int i, .int j] = .ok (.int (max i j)) := by
  show Out.ok (D.int (if j > i then j else i)) = _
  congr 2
  rw [Int.max_def]
  split <;> split <;> omega
theorem cMin_int (i j : Int) : cMin2 [.int i, .int j] = .ok (.int (min i j)) := by
  show Out.ok (D.int (if j < i then j else i)) = _
  congr 2
  rw [Int.min_def]
  split <;> split <;> omega
theorem cAbs_int (i : Int) : cAbs [.int i] = .ok (.int i.natAbs) := by
  show Out.ok (D.int (if i < 0 then -i else i)) = _
  congr 2
  split <;> omega
theorem cIsi_int (i : Int) : cIsi [.int i, .ty "int"] = .ok (.bl true) := rfl
theorem cIsi_int_bool (i : Int) : cIsi [.int i, .ty "bool"] = .ok (.bl false) := rfl
/-! sizes -/
def Sz (n : Nat) (i : Int) : Prop := i.natAbs < 2 ^ n
theorem Sz.mono {n m : Nat} {i : Int} (h : Sz n i) (l : n ≤ m) : Sz m i := Nat.lt_of_lt_of_le h (Nat.pow_le_pow_right (by decide) l)
theorem Sz.mul {n m : Nat} {i j : Int} (h : Sz n i) (k : Sz m j) : Sz (n + m) (i * j) := by
  unfold Sz at *
  rw [Int.natAbs_mul, Nat.pow_add]
  exact Nat.mul_lt_mul'' h k
theorem Sz.add {n : Nat} {i j : Int} (h : Sz n i) (k : Sz n j) : Sz (n + 1) (i + j) := by
  unfold Sz at *
  rw [Nat.pow_succ]
  omega
theorem Sz.sub {n : Nat} {i j : Int} (h : Sz n i) (k : Sz n j) : Sz (n + 1) (i - j) := by
  unfold Sz at *
  rw [Nat.pow_succ]
  omega
theorem Sz.neg {n : Nat} {i : Int} (h : Sz n i) : Sz n (-i) := by
  unfold Sz at *
  omega
theorem sz_of_bits {n : Nat} {i : Int} (h : Builtin.Int.intBits i ≤ n) : Sz n i := by
  unfold Sz Builtin.Int.intBits at *
  by_cases z : (i == 0) = true
  · rw [eq_of_beq z]; exact Nat.two_pow_pos n
  · rw [if_neg z] at h
    exact Nat.lt_of_lt_of_le Nat.lt_log2_self (Nat.pow_le_pow_right (by decide) h)
theorem dMul_int {n m : Nat} {i j : Int} (h : Sz n i) (k : Sz m j) (l : n + m ≤ 134217728) : dMul (.int i) (.int j) = .ok (.int (i * j)) := by
  exact chk_pos (mulx_ok h k l)
theorem dDiv_int {n : Nat} {i j : Int} (h : 0 < j) (k : Sz n j) (l : n ≤ 9000) : dDiv (.int i) (.int j) = .ok (.int (i / j)) := by
  refine chk_pos ?_
  cases n with
  | zero => unfold Sz at k; omega
  | succ n => exact wide_div h k (by omega) l
theorem dMod_int {i j : Int} (h : 0 < j) : dMod (.int i) (.int j) = .ok (.int (i % j)) := by
  exact chk_pos h
theorem dPow_int {i j : Int} (h : CPow i j) : dPow (.int i) (.int j) = .ok (.int (i ^ j.toNat)) := by
  exact chk_pos h
end PD

namespace PD
open PySem PySem.Spec L2
open PyProof.Rows hiding St

/-! ## what is owned is changed -/
noncomputable def chkS (p : Prop) (o : SO) : SO := @ite _ p (Classical.propDecidable p) o .stuck
theorem chkS_pos {p : Prop} {o : SO} (h : p) : chkS p o = o := if_pos h
theorem chkS_neg {p : Prop} {o : SO} (h : ¬ p) : chkS p o = .stuck := if_neg h
section
variable {X : Cx} {g : G} {E : WX} {ro : Bool} {Γl Γ Γ1 Γ2 Γ3 : List Bool} {m : Md} {pos : Pos}
theorem Rp.wr {K : PySem.W.Frag} {mg : Mg} {ρ : Env} {σ : St} {Hf H : Hp} (R : Rp K mg g Γ ρ σ Hf H) {i : Nat} {d d' : D} {a : Addr} {o' : HO} (o : Own Γ i) (e : ρ[i]? = some (some d)) (md : d.mut = true) (es : σ[i]? = some (some (.ref a)))
    (z0 : g.H0 a = none) (zf : Hf a = none) (new : IsO K mg g.H0 Hf (upd H a o') d' (.ref a)) : Rp K mg g Γ (ρ.set i (some d')) σ Hf (upd H a o') := by
  have li : i < ρ.length := (List.getElem?_eq_some_iff.mp e).1
  refine ⟨fun b x q => ?_, fun b x q => ?_, R.ent2, R.news, by simp [R.len], fun j e' ow ej => ?_, fun j e' ow ej => ?_, fun j k e1 e2 v n o1 o2 q1 q2 m1 m2 s1 s2 => ?_⟩
  · rw [upd_ne (ne_of_none q zf)]; exact R.same _ _ q
  · rw [upd_ne (ne_of_none q z0)]; exact R.ent _ _ q
  · rcases set_get ej with ⟨rfl, _, rfl⟩ | ⟨nij, ej'⟩
    · exact ⟨_, es, new⟩
    · obtain ⟨v, ev, io⟩ := R.own j e' ow ej'
      refine ⟨v, ev, ?_⟩
      have key : ∀ b, v = .ref b → e'.mut = true → b ≠ a := fun b eb me z => by
        subst eb; subst z
        exact R.sep i j d e' _ nij o ow e ej' md me es ev
      cases e' with
      | lst ds => obtain ⟨b, xs, eb, w0, wf, q, r⟩ := io; exact ⟨b, xs, eb, w0, wf, by rw [upd_ne (key b eb rfl)]; exact q, r⟩
      | dic ds => obtain ⟨b, xs, eb, w0, wf, q, r⟩ := io; exact ⟨b, xs, eb, w0, wf, by rw [upd_ne (key b eb rfl)]; exact q, r⟩
      | _ => exact io
  · rcases set_get ej with ⟨rfl, _, rfl⟩ | ⟨nij, ej'⟩
    · exact absurd o ow
    · exact R.dat j e' ow ej'
  · rcases set_get q1 with ⟨rfl, _, rfl⟩ | ⟨n1, q1'⟩
    · rcases set_get q2 with ⟨rfl, _⟩ | ⟨n2, q2'⟩
      · exact n rfl
      · exact R.sep i k d e2 v n o1 o2 e q2' md m2 s1 s2
    · rcases set_get q2 with ⟨rfl, _, rfl⟩ | ⟨n2, q2'⟩
      · exact R.sep j i e1 d v n o1 o2 q1' e m1 md s1 s2
      · exact R.sep j k e1 e2 v n o1 o2 q1' q2' m1 m2 s1 s2
theorem IsDs.snoc {K : PySem.W.Frag} {mg : Mg} {H : Hp} {d : D} {v : V} : ∀ {ds : List D} {vs : List V}, IsDs K mg H ds vs → IsD K mg H d v → IsDs K mg H (ds ++ [d]) (vs ++ [v])
  | [], vs, h, k => by
    simp only [IsDs] at h
    subst h
    show IsDs K mg H [d] [v]
    simp only [IsDs]
    exact ⟨v, [], rfl, k, rfl⟩
  | x :: ds, vs, h, k => by
    simp only [IsDs, List.cons_append] at h ⊢
    obtain ⟨u, us, rfl, q, r⟩ := h
    exact ⟨u, us ++ [v], rfl, q, r.snoc k⟩
/-- the list in slot i changed by a value -/
def onLst (i : Nat) (f : Env → Out D) (k : List D → D → Env → SO) : Env → SO := fun ρ => match ρ[i]? with
  | some (some (.lst xs)) => oS (f ρ) fun d => k xs d ρ
  | _ => .stuck
noncomputable def sApp (i : Nat) (f : Env → Out D) : Env → SO := onLst i f fun xs d ρ => chkS (xs.length < sizeLine) (.nx (ρ.set i (some (.lst (xs ++ [d])))))
theorem psx_append {i : Nat} {x : Str} {a : Expr} {p ap cp : Pos} {fa : Env → Out D} (h : PE X (.Name x p) (tVar i)) (ha : PX X g E Γ a Γ1 .fr fa) (o : Γ1.getD i false = true)
    (hbase : attributeBase (.Name x p) "append" X.env (eval (.Name x p) X.env) = eval (.Name x p) X.env := by rfl)
    (hfew : ((backTo cp (starEach (a :: []) X.env)).all (fun x => !x.1) && (backToKw cp (keywordEach [] X.env)).all (fun x => x.1.isSome)
      && decide ((a :: []).length + ([] : List Keyword).length + (if ([] : List Keyword).isEmpty then 0 else 1) < 30)) = true := by rfl)
    (hline : (ap.endLine == cp.line) = true := by rfl) (hs : starEach (a :: []) X.env = (false, eval a X.env) :: starEach [] X.env := by rfl) (hplain : (backTo cp (starEach [] X.env)).any (·.1) = false := by rfl)
    (hsw : swapsWith (.Call (.Attribute (.Name x p) "append" ap) [a] [] cp) none pos.line X.env = pure false := by rfl) :
    PSx X g E ro Γl Γ (.Expr (.Call (.Attribute (.Name x p) "append" ap) [a] [] cp) pos) Γ1 (sApp i fa) := by
  refine ⟨(ps_expr (pe_bm PySem.F.plainAttrs_list PySem.F.slot_list_append PySem.F.type_list_append mt_append h (pa_cons ha.pe pa_nil hs) hbase hfew hline hs hplain) hsw).imp fun Dn σ H ⟨ρ, Hf, R, q⟩ => ?_⟩
  unfold sApp onLst at q
  split at q
  · rename_i xs e
    simp only at q
    obtain ⟨v, es, io⟩ := R.own i _ (ha.le i o) e
    obtain ⟨p, ys, rfl, z0, zf, qH, r⟩ := io
    refine ⟨_, es, .inl ⟨rfl, ys, SqL.of qH⟩, ρ, Hf, R, ?_⟩
    refine tG.toS q fun d F1 H1 s1 s2 R1 k v hv => ?_
    obtain ⟨v', es', io'⟩ := R1.own i _ o e
    rw [es] at es'
    obtain rfl : V.ref p = v' := Option.some.inj (Option.some.inj es')
    obtain ⟨p', ys', ep, z0', zf', qH', r'⟩ := io'
    obtain rfl : p = p' := V.ref.inj ep
    by_cases l : xs.length < sizeLine
    · rw [chkS_pos l] at k
      refine ⟨p, ys', v, rfl, rfl, qH', by rw [r'.len]; exact l, ?_⟩
      exact k σ F1 _ (R1.wr o e rfl es z0' zf' ⟨p, _, rfl, z0', zf', upd_same, r'.snoc hv⟩)
    · rw [chkS_neg l] at k; exact k.elim
  · exact q.elim
/-! ## a, b = e1, e2 -/
def sPar (i j : Nat) (a b : Env → Out D) : Env → SO := fun ρ => oS (a ρ) fun x => oS (b ρ) fun y => .nx ((ρ.set i (some x)).set j (some y))
theorem psx_par {i j : Nat} {x y : Str} {a b : Expr} {fa fb : Env → Out D} {px py pt : Pos} {kt k2 pt2} (hc : X.calm = true) (hN : X.N.Nodup) (hi : X.N[i]? = some x) (hj : X.N[j]? = some y) (hij : i ≠ j)
    (hx : X.env.scope.names.lookup x = some .local) (hy : X.env.scope.names.lookup y = some .local) (ha : PX X g E Γ a Γ1 .fr fa) (hb : PX X g E Γ1 b Γ2 .fr fb)
    (h1 : starEach [a, b] X.env = (false, eval a X.env) :: starEach [b] X.env := by rfl) (h2 : starEach [b] X.env = (false, eval b X.env) :: starEach [] X.env := by rfl)
    (hw : swappedStores [.Tuple [.Name x px, .Name y py] kt pt] (.Tuple [a, b] k2 pt2) X.env = pure (some [x, y]) := by rfl)
    (hs : swapsWithSole [.Tuple [.Name x px, .Name y py] kt pt] (.Tuple [a, b] k2 pt2) pos.line X.env = pure false := by rfl) :
    PSx X g E ro Γl Γ (.Assign [.Tuple [.Name x px, .Name y py] kt pt] (.Tuple [a, b] k2 pt2) pos) ((Γ2.set i false).set j false) (sPar i j fa fb) := by
  refine ⟨(ps_par hc hN hi hj hij hx hy (pa_cons ha.pe (pa_cons hb.pe pa_nil h2) h1) hw hs).imp fun Dn σ H ⟨ρ, Hf, R, q⟩ => ⟨ρ, Hf, R, ?_⟩⟩
  unfold sPar at q
  cases hfa : fa ρ with
  | ok d1 =>
    rw [hfa] at q
    intro F1 H1 s1 s2 R1 v hv
    refine ⟨ρ, F1, R1, ?_⟩
    refine tG.toS q fun d2 F2 H2 s3 s4 R2 k u hu => ?_
    exact ⟨v, u, rfl, k _ F2 H2 ((R2.setF (IsD.mono s3 hv)).setF hu)⟩
  | exc x => rw [hfa] at q; exact fun c dd F1 H1 s1 s2 R1 ix => q c dd σ H1 R1.ent ix
  | stuck => rw [hfa] at q; exact q.elim
/-! ## range by steps -/
noncomputable def rng3 : List D → Out (List D)
  | [.int i, .int j, .int c] => chk (RgC i j c (Builtin.Range.rangeSize i j c).toNat) (.ok ((List.range (Builtin.Range.rangeSize i j c).toNat).map fun (n : Nat) => .int (i + n * c)))
  | _ => .stuck
noncomputable def iRange3 (f : Env → Out (List D)) : Env → Out (List D) := fun ρ => (f ρ).bind rng3
theorem walks_rngC {K : PySem.W.Frag} {mg : Mg} {H0 F1 : Hp} {lo c : Int} {n : Nat} : Walks K mg H0 (Itc lo c n) F1 ((List.range n).map fun (k : Nat) => .int (lo + k * c)) := by
  intro g Γ ρ σ Hf H s R i
  refine ⟨fun d e => ?_, fun l => show n ≤ i by simpa using l⟩
  rw [List.getElem?_map] at e
  by_cases l : i < n
  · rw [List.getElem?_range l] at e
    cases e
    refine ⟨l, fun x H' y => ?_⟩
    obtain ⟨rfl, rfl⟩ := y
    exact ⟨Hf, Same.refl _, Same.refl _, R, by simp only [IsD]⟩
  · rw [List.getElem?_eq_none (by simpa using l)] at e
    cases e
theorem pix_range3 {tg a b c : Expr} {p : Pos} {f : Env → Out (List D)} (hg : Gl X "range") (hm : X.mg "range" = none) (h : PAx X g E Γ [a, b, c] Γ1 f) (hs : starEach [a, b, c] X.env = (false, eval a X.env) :: starEach [b, c] X.env := by rfl) (hpl : (backTo pos (starEach [b, c] X.env)).any (·.1) = false := by rfl) :
    PIx X g E Γ tg (.Call (.Name "range" p) [a, b, c] [] pos) Γ1 (iRange3 f) := by
  refine ⟨h.le, (pi_range3 hg hm h.pe hs hpl).imp fun σ H Q ⟨ρ, Hf, R, q⟩ => ⟨ρ, Hf, R, ?_⟩⟩
  refine tG.bind (Le.refl _) q fun ds F1 H1 s1 s2 R1 k vs hv => ?_
  unfold rng3 at k
  split at k
  · rename_i i j c
    simp only [IsDs, IsD] at hv
    obtain ⟨_, _, rfl, rfl, _, _, rfl, rfl, _, _, rfl, rfl, rfl⟩ := hv
    by_cases z : RgC i j c (Builtin.Range.rangeSize i j c).toNat
    · rw [chk_pos z] at k
      exact ⟨i, j, c, _, rfl, z, k F1 H1 (Same.refl _) (Same.refl _) R1 _ walks_rngC⟩
    · rw [chk_neg z] at k; exact k.elim
  · exact k.elim
end
/-! evaluation -/
def eL (i : Nat) : Env → Out (List D) := fun ρ => match ρ[i]? with
  | some (some (.lst xs)) => .ok xs
  | _ => .stuck
theorem eL_0 (xs : List D) (ρ : Env) : eL 0 (some (.lst xs) :: ρ) = .ok xs := rfl
theorem eL_s (i : Nat) (x : Option D) (ρ : Env) : eL (i + 1) (x :: ρ) = eL i ρ := by simp [eL]
theorem onLst_ap (i : Nat) (f : Env → Out D) (k : List D → D → Env → SO) (ρ : Env) : onLst i f k ρ = oS (eL i ρ) fun xs => oS (f ρ) fun d => k xs d ρ := by
  unfold onLst eL
  split
  · rename_i xs e
    simp only [oS_ok]
  · rfl
theorem sApp_ap (i : Nat) (f : Env → Out D) (ρ : Env) : sApp i f ρ = oS (eL i ρ) fun xs => oS (f ρ) fun d => chkS (xs.length < sizeLine) (.nx (ρ.set i (some (.lst (xs ++ [d]))))) := onLst_ap i f _ ρ
theorem sPar_ap (i j : Nat) (a b : Env → Out D) (ρ : Env) : sPar i j a b ρ = oS (a ρ) fun x => oS (b ρ) fun y => .nx ((ρ.set i (some x)).set j (some y)) := rfl
theorem iRange3_ap (f : Env → Out (List D)) (ρ : Env) : iRange3 f ρ = (f ρ).bind rng3 := rfl
theorem rng3_ok {i j c : Int} (h0 : -1000000 ≤ i) (h1 : i ≤ 1000000) (h2 : -1000000 ≤ j) (h3 : j ≤ 1000000) (h4 : 0 < c) (h5 : c ≤ 1000000) {n : Nat} (hn : (if i < j then (j - i - 1) / c + 1 else 0) = (n : Int)) :
    rng3 [.int i, .int j, .int c] = .ok ((List.range n).map fun (k : Nat) => .int (i + k * c)) := by
  have e : Builtin.Range.rangeSize i j c = (n : Int) := by unfold Builtin.Range.rangeSize; rw [if_pos (by omega)]; exact hn
  have l : (n : Int) ≤ 2000001 := by
    rw [← hn]
    split
    · have := Int.ediv_le_self (a := j - i - 1) c (by omega)
      omega
    · omega
  have z : RgC i j c n := by
    refine ⟨by omega, by omega, ?_, e⟩
    unfold Builtin.Range.small
    rw [e]
    have hc : c > 0 := h4
    simp only [Builtin.Range.rangeFitsLong, Bool.and_eq_true, Bool.or_eq_true, decide_eq_true_eq, beq_iff_eq, hc, if_true]
    omega
  show chk _ _ = _
  rw [e, Int.toNat_natCast]
  exact chk_pos z
theorem app_ok {n : Nat} (h : n < 16777216) (o : SO) : chkS (n < sizeLine) o = o := chkS_pos h
theorem gT_lst (gs : List (D → Env → Out Env)) (ds : List D) (ρ : Env) : gT gs (.lst ds) ρ = if ds.length = gs.length then (gs.zip ds).foldl (fun o p => o.bind (p.1 p.2)) (.ok ρ) else .stuck := rfl
end PD

namespace PD
open PySem PySem.Spec L2
open PyProof.Rows hiding St

/-! ## slices -/
structure POx (X : Cx) (g : G) (E : WX) (Γ : List Bool) (e : Option Expr) (Γ' : List Bool) (f : Env → Out (Option Int)) : Prop where
  le : Le Γ' Γ
  po : PO X e (fun σ H Q => ∃ ρ Hf, Rp X.K X.mw g Γ ρ σ Hf H ∧ tG X.K X.mw g E Γ' ρ σ Hf H (fun o _ H' => Q o H') (f ρ))
theorem _root_.L2.PO.imp {X : Cx} {e : Option Expr} {t t' : TO} (h : PO X e t) (w : ∀ σ H Q, t' σ H Q → t σ H Q) : PO X e t' :=
  ⟨fun pins s σ H Q I q => h.run pins s σ H Q I (w σ H Q q)⟩
def oN : Env → Out (Option Int) := fun _ => .ok none
def oI (f : Env → Out D) : Env → Out (Option Int) := fun ρ => (f ρ).bind fun d => match d with
  | .int i => .ok (some i)
  | _ => .stuck
def cutD {α : Type} (xs : List α) (lo hi : Option Int) : List α := (xs.drop (HT.sIx xs.length 0 lo)).take (HT.sIx xs.length xs.length hi - HT.sIx xs.length 0 lo)
noncomputable def dSl : D → Option Int → Option Int → Out D
  | .lst ds, lo, hi => .ok (.lst (cutD ds lo hi))
  | .tup ds, lo, hi => .ok (.tup (cutD ds lo hi))
  | .scr ns, lo, hi => .ok (.lst ((cutD ns lo hi).map .int))
  | .str z, lo, hi => chk (z.length ≤ sizeLine) (.ok (.str (cutS z lo hi)))
  | _, _, _ => .stuck
noncomputable def eSl (f : Env → Out D) (lo hi : Env → Out (Option Int)) : Env → Out D := fun ρ => (f ρ).bind fun x => (lo ρ).bind fun l => (hi ρ).bind fun u => dSl x l u
def pickL {α : Type} (xs : List α) (lo hi st : Option Int) : List α := (sliceRange (sliceBounds lo hi st xs.length).1 (sliceBounds lo hi st xs.length).2.1 (sliceBounds lo hi st xs.length).2.2).filterMap fun i => xs[i]?
noncomputable def dSlSt : D → Option Int → Option Int → Option Int → Out D
  | .lst ds, lo, hi, st => chk (st ≠ some 0) (.ok (.lst (pickL ds lo hi st)))
  | _, _, _, _ => .stuck
noncomputable def eSlSt (f : Env → Out D) (lo hi st : Env → Out (Option Int)) : Env → Out D := fun ρ => (f ρ).bind fun x => (lo ρ).bind fun l => (hi ρ).bind fun u => (st ρ).bind fun s => dSlSt x l u s
section
variable {K : PySem.W.Frag} {mg : Mg} {H : Hp}
theorem IsDs.drop : ∀ (n : Nat) {ds : List D} {vs : List V}, IsDs K mg H ds vs → IsDs K mg H (ds.drop n) (vs.drop n)
  | 0, _, _, h => h
  | n + 1, [], _, h => by simp only [IsDs] at h; subst h; simp [IsDs]
  | n + 1, d :: ds, _, h => by
    simp only [IsDs] at h
    obtain ⟨v, vs, rfl, q, r⟩ := h
    exact IsDs.drop n r
theorem IsDs.take : ∀ (n : Nat) {ds : List D} {vs : List V}, IsDs K mg H ds vs → IsDs K mg H (ds.take n) (vs.take n)
  | 0, _, _, h => by simp [IsDs]
  | n + 1, [], _, h => by simp only [IsDs] at h; subst h; simp [IsDs]
  | n + 1, d :: ds, _, h => by
    simp only [IsDs] at h
    obtain ⟨v, vs, rfl, q, r⟩ := h
    rw [List.take_succ_cons, List.take_succ_cons]
    simp only [IsDs]
    exact ⟨v, _, rfl, q, IsDs.take n r⟩
theorem IsDs.cut {ds : List D} {vs : List V} (h : IsDs K mg H ds vs) (lo hi : Option Int) : IsDs K mg H (cutD ds lo hi) (cutV vs lo hi) := by
  unfold cutD cutV
  rw [h.len]
  exact IsDs.take _ (IsDs.drop _ h)
theorem IsDs.pickI {ds : List D} {vs : List V} (h : IsDs K mg H ds vs) : ∀ is : List Nat, IsDs K mg H (is.filterMap fun i => ds[i]?) (is.filterMap fun i => vs[i]?)
  | [] => by simp [IsDs]
  | i :: is => by
    rw [List.filterMap_cons, List.filterMap_cons]
    cases e : ds[i]? with
    | none =>
      have e2 : vs[i]? = none := by
        rw [List.getElem?_eq_none_iff] at e ⊢
        rw [h.len]; exact e
      rw [e2]
      exact IsDs.pickI h is
    | some d =>
      obtain ⟨v, ev, q⟩ := h.at e
      rw [ev]
      simp only [IsDs]
      exact ⟨v, _, rfl, q, IsDs.pickI h is⟩
theorem IsDs.pick {ds : List D} {vs : List V} (h : IsDs K mg H ds vs) (lo hi st : Option Int) : IsDs K mg H (pickL ds lo hi st) (pickL vs lo hi st) := by
  unfold pickL
  rw [h.len]
  exact IsDs.pickI h _
theorem vals_pickI {vs : List V} {us : List Value} (h : Vals vs us) : ∀ is : List Nat, Vals (is.filterMap fun i => vs[i]?) (is.filterMap fun i => us[i]?)
  | [] => .nil
  | i :: is => by
    rw [List.filterMap_cons, List.filterMap_cons]
    cases e : vs[i]? with
    | none => rw [h.none_of e]; exact vals_pickI h is
    | some v =>
      obtain ⟨u, eu, r⟩ := Vals.get h e
      rw [eu]
      exact .cons r (vals_pickI h is)
theorem pickL_len {vs : List V} {us : List Value} (h : Vals vs us) (lo hi st : Option Int) : (pickL vs lo hi st).length ≤ vs.length := by
  have e := (vals_pickI h (sliceRange (sliceBounds lo hi st vs.length).1 (sliceBounds lo hi st vs.length).2.1 (sliceBounds lo hi st vs.length).2.2)).length
  have k := slicePick_size_le us.toArray lo hi st
  unfold slicePick at k
  rw [List.size_toArray, List.size_toArray] at k
  unfold pickL
  rw [e, h.length]
  rw [h.length] at e
  have q : (List.filterMap (fun i => us[i]?) (sliceRange (sliceBounds lo hi st us.length).1 (sliceBounds lo hi st us.length).2.1 (sliceBounds lo hi st us.length).2.2)).length ≤ us.length := by simpa using k
  exact q
end
section
variable {X : Cx} {g : G} {E : WX} {Γ Γ1 Γ2 Γ3 Γ4 : List Bool} {m : Md} {pos p2 : Pos} {a : Expr} {lo hi st : Option Expr} {fa : Env → Out D} {fl fu fs : Env → Out (Option Int)}
theorem pox_none : POx X g E Γ none Γ oN := by
  refine ⟨Le.refl _, po_none.imp fun σ H Q ⟨ρ, Hf, R, k⟩ => ?_⟩
  exact k Hf H (Same.refl _) (Same.refl _) R
theorem pox_some (h : PX X g E Γ a Γ1 .rd fa) : POx X g E Γ (some a) Γ1 (oI fa) := by
  refine ⟨h.le, (po_some h.pe).imp fun σ H Q ⟨ρ, Hf, R, k⟩ => ⟨ρ, Hf, R, ?_⟩⟩
  refine tG.bind (Le.refl _) k fun x F1 H1 s1 s2 R1 k1 v hv => ?_
  cases x with
  | int i =>
    simp only [Res, IsR, IsD] at hv
    exact ⟨i, hv, k1 F1 H1 (Same.refl _) (Same.refl _) R1⟩
  | _ => exact k1.elim
theorem px_slice (ha : PX X g E Γ a Γ1 .rd fa) (hl : POx X g E Γ1 lo Γ2 fl) (hu : POx X g E Γ2 hi Γ3 fu) : PX X g E Γ (.Subscript a (.Slice lo hi none p2) pos) Γ3 m (eSl fa fl fu) := by
  refine ⟨hu.le.trans (hl.le.trans ha.le), (pe_slice (sl_list.or (sl_tupA.or sl_str)) ha.pe hl.po hu.po).imp fun σ H Q ⟨ρ, Hf, R, k⟩ => ⟨ρ, Hf, R, ?_⟩⟩
  refine tG.bind (hu.le.trans hl.le) k fun x F1 H1 s1 s2 R1 k1 v hv => ⟨ρ, F1, R1, ?_⟩
  refine tG.bind hu.le k1 fun l F2 H2 s3 s4 R2 k2 => ⟨ρ, F2, R2, ?_⟩
  refine tG.bind (Le.refl _) k2 fun u F3 H3 s5 s6 R3 k3 => ?_
  replace hv := IsR.mono (s3.trans s5) (s4.trans s6) hv
  unfold dSl at k3
  split at k3
  · rename_i _ _ ds
    obtain ⟨p, xs, rfl, q, r⟩ := hv
    exact .inl ⟨p, xs, rfl, .of q, fun p n => pv_lst R3 (r.cut _ _) n k3⟩
  · rename_i _ _ ds
    have hv' := hv
    simp only [IsR, IsD] at hv
    obtain ⟨p, xs, rfl, q, r⟩ := hv
    refine .inr (.inl ⟨p, xs, rfl, Same.seqT R3.same q, fun w => ?_, fun _ p n => pv_tup R3 (r.cut _ _) n k3⟩)
    have e : cutD ds l u = ds := by
      unfold cutD
      rw [← r.len, w.1, w.2, List.drop_zero, Nat.sub_zero, List.take_of_length_le (by rw [r.len]; exact Nat.le_refl _)]
    rw [e] at k3
    exact k3 F3 H3 (Same.refl _) (Same.refl _) R3 _ (Res.dat R3.same rfl hv')
  · rename_i _ _ ns
    simp only [IsR, IsD] at hv
    obtain ⟨p, rfl, q⟩ := hv
    refine .inl ⟨p, _, rfl, R3.same.seq q, fun p n => pv_lst R3 ?_ n k3⟩
    have e : cutV (ns.map V.int) l u = (cutD ns l u).map V.int := by
      unfold cutV cutD
      rw [List.length_map, List.map_take, List.map_drop]
    rw [e]
    exact IsDs.ints _
  · rename_i _ _ z
    simp only [IsR, IsD] at hv
    by_cases c : z.length ≤ sizeLine
    · rw [chk_pos c] at k3
      exact .inr (.inr ⟨z, hv, c, k3 F3 H3 (Same.refl _) (Same.refl _) R3 _ (Res.dat R3.same rfl (by simp only [IsD]))⟩)
    · rw [chk_neg c] at k3; exact k3.elim
  · exact k3.elim
/-- a[lo:hi:st], a list -/
def tSlSt (K : PySem.W.Frag) (te : TE) (tl th ts : TO) : TE := fun σ H Q => te σ H fun x H1 => tl σ H1 fun l H2 => th σ H2 fun u H3 => ts σ H3 fun st H4 => ∃ a xs, x = .ref a ∧ SqL K H4 a xs ∧ st ≠ some 0 ∧ ∀ p, H4 p = none → Q (.ref p) (upd H4 p (.lst (pickL xs l u st)))
theorem pe_sliceSt {te : TE} {tl th ts : TO} {st : Expr} (he : PE X a te) (hl : PO X lo tl) (hu : PO X hi th) (hs : PO X (some st) ts) (hsub : ∀ o i, subscripted (.Slice lo hi (some st) p2) false o i = operate [o, i] (getItem o i)) : PE X (.Subscript a (.Slice lo hi (some st) p2) pos) (tSlSt X.K te tl th ts) := by
  refine ⟨fun pins s σ H Q I h => ?_⟩
  refine Subscript_ (thn (he.run pins s σ H _ I h) fun v s1 ⟨x, H1, I1, r1, q1⟩ => ?_)
  refine wpAny_Slice (thn (hl.run pins s1 σ H1 _ I1 q1) fun vl s2 ⟨l, H2, I2, pl, q2⟩ => thn (hu.run pins s2 σ H2 _ I2 q2) fun vu s3 ⟨u, H3, I3, pu, q3⟩ => thn (hs.run pins s3 σ H3 _ I3 q3) fun vs s4 ⟨st', H4, I4, ps, q4⟩ => ?_)
  obtain ⟨b, xs, rfl, hx, nz, q⟩ := q4
  cases r1
  have I5 : Inv X pins σ H4 { s4 with heap := s4.heap.push { cls := .type "slice", data := .fields #[vl, vu, vs] } } := I4.kept (t' := s4.toks) fun b ob q => Heap.get?_push_of_some _ q
  obtain ⟨its, r, ht, hz⟩ := I5.list hx
  show wpAny (model X.prog X.w) X.A (subscriptTail a (.Slice lo hi (some st) p2) (.ref b) (.ref s4.heap.objs.size)) (EP X pins σ Q) X.xe { s4 with heap := s4.heap.push { cls := .type "slice", data := .fields #[vl, vu, vs] } }
  refine tail_any (ops := [.ref b, .ref s4.heap.objs.size]) ht.isList.typeIs slot_list_getitem.lookup ?_ (hsub _ _)
  refine wpAny_getItem_list_slice ht.isList (Heap.IsSliceOf.new ..) pl pu ps nz ?_ (by rw [List.size_toArray] <;> have := r.length <;> omega)
  have e : slicePick its.toArray l u st' = (pickL its l u st').toArray := by
    unfold slicePick pickL
    simp
  rw [e]
  refine ⟨.ref _, _, I5.laid (t' := s4.toks) (o := .lst (pickL xs l u st')) (fun b ob q => Heap.get?_push_of_some _ q) (Nat.le_refl _) ?_, rfl, q _ (I5.hok.fresh (Nat.le_refl _))⟩
  refine ⟨Nat.le_trans (pickL_len r l u st') hz, _, 0, ?_, Heap.get?_push_size _ rfl⟩
  unfold pickL
  rw [r.length]
  exact vals_pickI r _
theorem px_sliceSt {st : Expr} (ha : PX X g E Γ a Γ1 .rd fa) (hl : POx X g E Γ1 lo Γ2 fl) (hu : POx X g E Γ2 hi Γ3 fu) (hs : POx X g E Γ3 (some st) Γ4 fs) (hsub : ∀ o i, subscripted (.Slice lo hi (some st) p2) false o i = operate [o, i] (getItem o i)) : PX X g E Γ (.Subscript a (.Slice lo hi (some st) p2) pos) Γ4 m (eSlSt fa fl fu fs) := by
  refine ⟨hs.le.trans (hu.le.trans (hl.le.trans ha.le)), (pe_sliceSt ha.pe hl.po hu.po hs.po hsub).imp fun σ H Q ⟨ρ, Hf, R, k⟩ => ⟨ρ, Hf, R, ?_⟩⟩
  refine tG.bind (hs.le.trans (hu.le.trans hl.le)) k fun x F1 H1 s1 s2 R1 k1 v hv => ⟨ρ, F1, R1, ?_⟩
  refine tG.bind (hs.le.trans hu.le) k1 fun l F2 H2 s3 s4 R2 k2 => ⟨ρ, F2, R2, ?_⟩
  refine tG.bind hs.le k2 fun u F3 H3 s5 s6 R3 k3 => ⟨ρ, F3, R3, ?_⟩
  refine tG.bind (Le.refl _) k3 fun w F4 H4 s7 s8 R4 k4 => ?_
  replace hv := IsR.mono (s3.trans (s5.trans s7)) (s4.trans (s6.trans s8)) hv
  unfold dSlSt at k4
  split at k4
  · rename_i _ _ _ ds
    by_cases c : w ≠ some 0
    · rw [chk_pos c] at k4
      obtain ⟨p, xs, rfl, q, r⟩ := hv
      exact ⟨p, xs, rfl, .of q, c, fun p n => pv_lst R4 (r.pick _ _ _) n k4⟩
    · rw [chk_neg c] at k4; exact k4.elim
  · exact k4.elim

/-! ## calls -/
def cList : List D → Out D
  | [.lst ds] => .ok (.lst ds)
  | [.tup ds] => .ok (.lst ds)
  | [.scr ns] => .ok (.lst (ns.map .int))
  | _ => .stuck
theorem ca_list : CaD X (.type "list") m cList := by
  refine ⟨_, call_list_of, fun g E Γ ρ σ Hf H ds vs Q R h k => ?_⟩
  unfold cList at k
  split at k
  · obtain ⟨v, rfl, p, xs, rfl, q, r⟩ := h.one
    exact ⟨p, xs, rfl, .inl (.of q), fun l n => pv_lst R r n k⟩
  · obtain ⟨v, rfl, z⟩ := h.one
    simp only [IsR, IsD] at z
    obtain ⟨p, xs, rfl, q, r⟩ := z
    exact ⟨p, xs, rfl, .inr (Same.seqT R.same q), fun l n => pv_lst R r n k⟩
  · obtain ⟨v, rfl, z⟩ := h.one
    simp only [IsR, IsD] at z
    obtain ⟨p, rfl, q⟩ := z
    exact ⟨p, _, rfl, .inl (R.same.seq q), fun l n => pv_lst R (IsDs.ints _) n k⟩
  · exact k.elim
def cTuple : List D → Out D
  | [.lst ds] => .ok (.tup ds)
  | [.tup ds] => .ok (.tup ds)
  | [.scr ns] => .ok (.tup (ns.map .int))
  | _ => .stuck
theorem ca_tuple : CaD X (.type "tuple") m cTuple := by
  refine ⟨_, call_tuple_of, fun g E Γ ρ σ Hf H ds vs Q R h k => ?_⟩
  unfold cTuple at k
  split at k
  · obtain ⟨v, rfl, p, xs, rfl, q, r⟩ := h.one
    exact ⟨p, xs, rfl, .inl ⟨.of q, fun l n => pv_tup R r n k⟩⟩
  · obtain ⟨v, rfl, z'⟩ := h.one
    have z := z'
    simp only [IsR, IsD] at z
    obtain ⟨p, xs, rfl, q, r⟩ := z
    exact ⟨p, xs, rfl, .inr ⟨Same.seqT R.same q, k Hf H (Same.refl _) (Same.refl _) R _ (Res.dat R.same rfl z')⟩⟩
  · obtain ⟨v, rfl, z⟩ := h.one
    simp only [IsR, IsD] at z
    obtain ⟨p, rfl, q⟩ := z
    exact ⟨p, _, rfl, .inl ⟨R.same.seq q, fun l n => pv_tup R (IsDs.ints _) n k⟩⟩
  · exact k.elim
def intsD : List D → Option (List Int)
  | [] => some []
  | .int i :: ds => (intsD ds).map (i :: ·)
  | _ => none
def blsD : List D → Option (List Bool)
  | [] => some []
  | .bl i :: ds => (blsD ds).map (i :: ·)
  | _ => none
theorem ints_of {K : PySem.W.Frag} {mg : Mg} {H : Hp} : ∀ {ds : List D} {ns : List Int} {vs : List V}, intsD ds = some ns → IsDs K mg H ds vs → vs = ns.map V.int
  | [], _, _, e, h => by cases e; simp only [IsDs] at h; exact h
  | .int i :: ds, _, _, e, h => by
    unfold intsD at e
    obtain ⟨ms, e1, e2⟩ := Option.map_eq_some_iff.mp e
    simp only [IsDs, IsD] at h
    obtain ⟨v, vs, rfl, rfl, r⟩ := h
    rw [← e2, List.map_cons, ints_of e1 r]
  | .non :: _, _, _, e, _ => nomatch e
  | .bl _ :: _, _, _, e, _ => nomatch e
  | .str _ :: _, _, _, e, _ => nomatch e
  | .ty _ :: _, _, _, e, _ => nomatch e
  | .scr _ :: _, _, _, e, _ => nomatch e
  | .tup _ :: _, _, _, e, _ => nomatch e
  | .lst _ :: _, _, _, e, _ => nomatch e
  | .dic _ :: _, _, _, e, _ => nomatch e
  | .ins _ _ :: _, _, _, e, _ => nomatch e
  | .adr _ :: _, _, _, e, _ => nomatch e
theorem bls_of {K : PySem.W.Frag} {mg : Mg} {H : Hp} : ∀ {ds : List D} {ns : List Bool} {vs : List V}, blsD ds = some ns → IsDs K mg H ds vs → vs = ns.map V.bl
  | [], _, _, e, h => by cases e; simp only [IsDs] at h; exact h
  | .bl i :: ds, _, _, e, h => by
    unfold blsD at e
    obtain ⟨ms, e1, e2⟩ := Option.map_eq_some_iff.mp e
    simp only [IsDs, IsD] at h
    obtain ⟨v, vs, rfl, rfl, r⟩ := h
    rw [← e2, List.map_cons, bls_of e1 r]
  | .non :: _, _, _, e, _ => nomatch e
  | .int _ :: _, _, _, e, _ => nomatch e
  | .str _ :: _, _, _, e, _ => nomatch e
  | .ty _ :: _, _, _, e, _ => nomatch e
  | .scr _ :: _, _, _, e, _ => nomatch e
  | .tup _ :: _, _, _, e, _ => nomatch e
  | .lst _ :: _, _, _, e, _ => nomatch e
  | .dic _ :: _, _, _, e, _ => nomatch e
  | .ins _ _ :: _, _, _, e, _ => nomatch e
  | .adr _ :: _, _, _, e, _ => nomatch e
def cSum : List D → Out D
  | [.lst ds] => match intsD ds with
    | some ns => .ok (.int ns.sum)
    | none => .stuck
  | _ => .stuck
theorem ca_sum (hc : X.calm = true) : CaD X (.builtin "sum") m cSum := by
  refine ⟨_, cr_sum hc, fun g E Γ ρ σ Hf H ds vs Q R h k => ?_⟩
  unfold cSum at k
  split at k
  · rename_i ds
    obtain ⟨v, rfl, p, xs, rfl, q, r⟩ := h.one
    cases e : intsD ds with
    | none => rw [e] at k; exact k.elim
    | some ns =>
      rw [e] at k
      have := ints_of e r
      subst this
      exact ⟨p, ns, rfl, .of q, k Hf H (Same.refl _) (Same.refl _) R _ (Res.dat R.same rfl (by simp only [IsD]))⟩
  · exact k.elim
def cAny : List D → Out D
  | [.lst ds] => match blsD ds with
    | some ns => .ok (.bl (ns.any id))
    | none => .stuck
  | _ => .stuck
theorem ca_any (hc : X.calm = true) : CaD X (.builtin "any") m cAny := by
  refine ⟨_, cr_any hc, fun g E Γ ρ σ Hf H ds vs Q R h k => ?_⟩
  unfold cAny at k
  split at k
  · rename_i ds
    obtain ⟨v, rfl, p, xs, rfl, q, r⟩ := h.one
    cases e : blsD ds with
    | none => rw [e] at k; exact k.elim
    | some ns =>
      rw [e] at k
      have := bls_of e r
      subst this
      exact ⟨p, ns, rfl, .of q, k Hf H (Same.refl _) (Same.refl _) R _ (Res.dat R.same rfl (by simp only [IsD]))⟩
  · exact k.elim
def cAll : List D → Out D
  | [.lst ds] => match blsD ds with
    | some ns => .ok (.bl (ns.all id))
    | none => .stuck
  | _ => .stuck
theorem ca_all (hc : X.calm = true) : CaD X (.builtin "all") m cAll := by
  refine ⟨_, cr_all hc, fun g E Γ ρ σ Hf H ds vs Q R h k => ?_⟩
  unfold cAll at k
  split at k
  · rename_i ds
    obtain ⟨v, rfl, p, xs, rfl, q, r⟩ := h.one
    cases e : blsD ds with
    | none => rw [e] at k; exact k.elim
    | some ns =>
      rw [e] at k
      have := bls_of e r
      subst this
      exact ⟨p, ns, rfl, .of q, k Hf H (Same.refl _) (Same.refl _) R _ (Res.dat R.same rfl (by simp only [IsD]))⟩
  · exact k.elim
/-- s.m(t), texts -/
def eS2 (F : Str → Str → D) (fa fb : Env → Out D) : Env → Out D := fun ρ => (fa ρ).bind fun x => match x with
  | .str a => (fb ρ).bind fun y => match y with
    | .str b => .ok (F a b)
    | _ => .stuck
  | _ => .stuck
theorem px_find {b : Expr} {fb : Env → Out D} {apos : Pos} (ha : PX X g E Γ a Γ1 .rd fa) (hb : PX X g E Γ1 b Γ2 .rd fb) (hs : starEach [b] X.env = [(false, eval b X.env)] := by rfl)
    (hbase : attributeBase a "find" X.env (eval a X.env) = eval a X.env := by rfl) (hline : (apos.endLine == pos.line) = true := by rfl) : PX X g E Γ (.Call (.Attribute a "find" apos) [b] [] pos) Γ2 m (eS2 (fun a b => .int (Txt.find a b)) fa fb) := by
  refine ⟨hb.le.trans ha.le, (pe_m1 PySem.F.slot_str_find PySem.F.type_str_find mt_find ha.pe hb.pe hs hbase hline).imp fun σ H Q ⟨ρ, Hf, R, k⟩ => ⟨ρ, Hf, R, ?_⟩⟩
  refine tG.bind hb.le k fun x F1 H1 s1 s2 R1 k1 v hv => ?_
  cases x with
  | str z =>
    simp only [Res, IsR, IsD] at hv
    refine ⟨⟨z, hv⟩, ρ, F1, R1, ?_⟩
    refine tG.bind (Le.refl _) k1 fun y F2 H2 s3 s4 R2 k2 u hu => ?_
    cases y with
    | str w =>
      simp only [Res, IsR, IsD] at hu
      exact ⟨z, w, hv, by rw [hu], k2 F2 H2 (Same.refl _) (Same.refl _) R2 _ (Res.dat R2.same rfl (by simp only [IsD]))⟩
    | _ => exact k2.elim
  | _ => exact k1.elim
end
end PD

namespace PD
open PySem PySem.Spec L2
open PyProof.Rows hiding St

/-! ## list comprehensions -/
def wipeE (ρ : Env) : List Nat → Env
  | [] => ρ
  | v :: vs => (wipeE ρ vs).set v none
def Out.nox {α : Type} (o : Out α) : Out α := match o with
  | .exc _ => .stuck
  | o => o
@[simp] theorem nox_ok {α : Type} (a : α) : (Out.ok a).nox = .ok a := rfl
@[simp] theorem nox_stuck {α : Type} : (Out.stuck : Out α).nox = .stuck := rfl
@[simp] theorem nox_exc {α : Type} (x : Exn) : (Out.exc x : Out α).nox = .stuck := rfl
def lcL (G : D → Env → Out Env) (tt : Env → Out Bool) (f : Env → Out D) (ρ : Env) : List D → Out (List D)
  | [] => .ok []
  | d :: ds => (G d ρ).nox.bind fun ρ1 => (tt ρ1).nox.bind fun b => if b = true then (f ρ1).nox.bind fun y => (lcL G tt f ρ ds).bind fun ys => .ok (y :: ys) else lcL G tt f ρ ds
noncomputable def eLc (vs : List Nat) (G : D → Env → Out Env) (it : Env → Out (List D)) (tt : Env → Out Bool) (f : Env → Out D) : Env → Out D := fun ρ => (it ρ).bind fun ds => chk (ds.length ≤ sizeLine) ((lcL G tt f (wipeE ρ vs) ds).bind fun ys => .ok (.lst ys))
def bYes : Env → Out Bool := fun _ => .ok true
theorem lcL_nx {G : D → Env → Out Env} {tt : Env → Out Bool} {f : Env → Out D} {ρ : Env} : ∀ (ds : List D) (x : Exn), lcL G tt f ρ ds ≠ .exc x
  | [], x, h => by cases h
  | d :: ds, x, h => by
    unfold lcL at h
    cases hG : G d ρ with
    | exc y => rw [hG] at h; cases h
    | stuck => rw [hG] at h; cases h
    | ok ρ1 =>
      rw [hG] at h
      simp only [nox_ok, Out.bind_ok] at h
      cases ht : tt ρ1 with
      | exc y => rw [ht] at h; cases h
      | stuck => rw [ht] at h; cases h
      | ok b =>
        rw [ht] at h
        simp only [nox_ok, Out.bind_ok] at h
        cases b with
        | false => simp only [Bool.false_eq_true, if_false] at h; exact lcL_nx ds x h
        | true =>
          simp only [if_true] at h
          cases hf : f ρ1 with
          | exc y => rw [hf] at h; cases h
          | stuck => rw [hf] at h; cases h
          | ok y =>
            rw [hf] at h
            simp only [nox_ok, Out.bind_ok] at h
            cases hl : lcL G tt f ρ ds with
            | ok ys => rw [hl] at h; cases h
            | exc z => exact lcL_nx ds z hl
            | stuck => rw [hl] at h; cases h
theorem lcL_ok {G : D → Env → Out Env} {tt : Env → Out Bool} {f : Env → Out D} {ρ : Env} {d : D} {ds rest : List D} (h : lcL G tt f ρ (d :: ds) = .ok rest) :
    ∃ ρ1 b, G d ρ = .ok ρ1 ∧ tt ρ1 = .ok b ∧ ((b = true ∧ ∃ y ys, f ρ1 = .ok y ∧ lcL G tt f ρ ds = .ok ys ∧ rest = y :: ys) ∨ (b = false ∧ lcL G tt f ρ ds = .ok rest)) := by
  unfold lcL at h
  cases hG : G d ρ with
  | exc y => rw [hG] at h; cases h
  | stuck => rw [hG] at h; cases h
  | ok ρ1 =>
    rw [hG] at h
    simp only [nox_ok, Out.bind_ok] at h
    cases ht : tt ρ1 with
    | exc y => rw [ht] at h; cases h
    | stuck => rw [ht] at h; cases h
    | ok b =>
      rw [ht] at h
      simp only [nox_ok, Out.bind_ok] at h
      refine ⟨ρ1, b, rfl, ht, ?_⟩
      cases b with
      | false => simp only [Bool.false_eq_true, if_false] at h; exact .inr ⟨rfl, h⟩
      | true =>
        simp only [if_true] at h
        cases hf : f ρ1 with
        | exc y => rw [hf] at h; cases h
        | stuck => rw [hf] at h; cases h
        | ok y =>
          rw [hf] at h
          simp only [nox_ok, Out.bind_ok] at h
          cases hl : lcL G tt f ρ ds with
          | ok ys => rw [hl] at h; cases h; exact .inl ⟨rfl, y, ys, rfl, rfl, rfl⟩
          | exc z => rw [hl] at h; cases h
          | stuck => rw [hl] at h; cases h
theorem wipeE_at {ρ : Env} {i : Nat} {d : D} : ∀ {vs : List Nat}, (wipeE ρ vs)[i]? = some (some d) → ρ[i]? = some (some d) ∧ i ∉ vs
  | [], h => ⟨h, by simp⟩
  | v :: vs, h => by
    unfold wipeE at h
    by_cases hi : v = i
    · subst hi
      by_cases hv : v < (wipeE ρ vs).length
      · rw [List.getElem?_set_self hv] at h; cases h
      · rw [List.getElem?_eq_none (by simpa using hv)] at h; cases h
    · rw [List.getElem?_set_ne hi] at h
      obtain ⟨h1, h2⟩ := wipeE_at h
      exact ⟨h1, by simp only [List.mem_cons, not_or]; exact ⟨fun e => hi e.symm, h2⟩⟩
theorem wipeE_ne {ρ : Env} {i : Nat} : ∀ {vs : List Nat}, i ∉ vs → (wipeE ρ vs)[i]? = ρ[i]?
  | [], _ => rfl
  | v :: vs, h => by
    simp only [List.mem_cons, not_or] at h
    unfold wipeE
    rw [List.getElem?_set_ne (fun e => h.1 e.symm), wipeE_ne h.2]
theorem wipeE_len {ρ : Env} : ∀ vs : List Nat, (wipeE ρ vs).length = ρ.length
  | [] => rfl
  | v :: vs => by unfold wipeE; rw [List.length_set, wipeE_len vs]
theorem wipe_ne {σ : St} {i : Nat} : ∀ {vs : List Nat}, i ∉ vs → (wipe σ vs)[i]? = σ[i]?
  | [], _ => rfl
  | v :: vs, h => by
    simp only [List.mem_cons, not_or] at h
    unfold wipe
    rw [List.getElem?_set_ne (fun e => h.1 e.symm), wipe_ne h.2]
theorem wipe_in {σ σ' : St} (l : σ'.length = σ.length) {i : Nat} : ∀ {vs : List Nat}, i ∈ vs → (wipe σ' vs)[i]? = (wipe σ vs)[i]?
  | v :: vs, h => by
    unfold wipe
    by_cases e : v = i
    · subst e
      rw [List.getElem?_set, List.getElem?_set, if_pos rfl, if_pos rfl, wipe_length, wipe_length, l]
    · rw [List.getElem?_set_ne e, List.getElem?_set_ne e]
      rcases List.mem_cons.mp h with h | h
      · exact absurd h.symm e
      · exact wipe_in l h
theorem wipe_same {σ σ' : St} {vs : List Nat} (l : σ'.length = σ.length) (h : ∀ i, i ∉ vs → σ'[i]? = (wipe σ vs)[i]?) : wipe σ' vs = wipe σ vs := by
  refine List.ext_getElem? fun i => ?_
  by_cases m : i ∈ vs
  · exact wipe_in l m
  · rw [wipe_ne m, h i m]
section
variable {K : PySem.W.Frag} {mg : Mg} {g g' : G} {Γ : List Bool} {ρ ρ1 : Env} {σ σ2 : St} {Hf H Hf' H' : Hp} {vs : List Nat}
theorem Rp.wipe (R : Rp K mg g Γ ρ σ Hf H) (vs : List Nat) : Rp K mg g Γ (wipeE ρ vs) (L2.wipe σ vs) Hf H := by
  have s : ∀ {i d v}, (wipeE ρ vs)[i]? = some (some d) → σ[i]? = v → (L2.wipe σ vs)[i]? = v := fun {i d v} e e2 => by rw [wipe_ne (wipeE_at e).2]; exact e2
  have s' : ∀ {i v}, (L2.wipe σ vs)[i]? = some (some v) → σ[i]? = some (some v) := fun {i v} e => (wipe_some e).1
  refine ⟨R.same, R.ent, R.ent2, R.news, by rw [wipe_length, wipeE_len, R.len], fun i d o e => ?_, fun i d o e => ?_, fun i j d e v n o1 o2 e1 e2 m1 m2 s1 s2 => ?_⟩
  · obtain ⟨v, ev, h⟩ := R.own i d o (wipeE_at e).1
    exact ⟨v, s e ev, h⟩
  · obtain ⟨v, ev, h⟩ := R.dat i d o (wipeE_at e).1
    exact ⟨v, s e ev, h⟩
  · exact R.sep i j d e v n o1 o2 (wipeE_at e1).1 (wipeE_at e2).1 m1 m2 (s' s1) (s' s2)
/-- behind a block's turn: the frame's own names -/
theorem Rp.unwipe (R : Rp K mg g Γ ρ σ Hf H) (R' : Rp K mg g' Γ ρ1 σ2 Hf' H') (s1 : Same Hf Hf') (s2 : Same H H') (ef : g'.F0 = Hf) (eh : ∀ a, g'.H0 a = none → g.H0 a = none) (a1 : ∀ i, i ∉ vs → ρ1[i]? = ρ[i]?) (a2 : ∀ i, i ∉ vs → σ2[i]? = σ[i]?)
    (no : ∀ i ∈ vs, ¬ Own Γ i) : Rp K mg g Γ ρ σ Hf' H' := by
  refine ⟨R'.same, R.ent.trans s2, R.ent2.trans s1, fun a o e => ?_, R.len, fun i d o e => ?_, fun i d o e => ?_, R.sep⟩
  · rcases R'.news a o e with z | z
    · rw [ef] at z; exact R.news a o z
    · exact .inr (eh a z)
  · have ni : i ∉ vs := fun z => no i z o
    obtain ⟨v, ev, h⟩ := R'.own i d o (by rw [a1 i ni]; exact e)
    rw [a2 i ni] at ev
    refine ⟨v, ev, ?_⟩
    cases d with
    | lst ds => obtain ⟨a, xs, e, z0, zf, q, r⟩ := h; exact ⟨a, xs, e, eh a z0, zf, q, r⟩
    | dic ds => obtain ⟨a, xs, e, z0, zf, q, r⟩ := h; exact ⟨a, xs, e, eh a z0, zf, q, r⟩
    | _ => exact h
  · obtain ⟨v, ev, h⟩ := R.dat i d o e
    exact ⟨v, ev, h.mono s1⟩
/-- an object that nobody knows is changed -/
theorem Rp.other (R : Rp K mg g Γ ρ σ Hf H) {a : Addr} {o' : HO} (z0 : g.H0 a = none) (zf : Hf a = none) (ap : ∀ i e, Own Γ i → ρ[i]? = some (some e) → e.mut = true → σ[i]? = some (some (.ref a)) → False) : Rp K mg g Γ ρ σ Hf (upd H a o') := by
  refine ⟨fun b x q => ?_, fun b x q => ?_, R.ent2, R.news, R.len, fun j e' ow ej => ?_, R.dat, R.sep⟩
  · rw [upd_ne (ne_of_none q zf)]; exact R.same _ _ q
  · rw [upd_ne (ne_of_none q z0)]; exact R.ent _ _ q
  · obtain ⟨v, ev, io⟩ := R.own j e' ow ej
    refine ⟨v, ev, ?_⟩
    cases e' with
    | lst ds => obtain ⟨b, xs, eb, w0, wf, q, r⟩ := io; exact ⟨b, xs, eb, w0, wf, by rw [upd_ne (fun z => by subst eb; subst z; exact ap j _ ow ej rfl ev)]; exact q, r⟩
    | dic ds => obtain ⟨b, xs, eb, w0, wf, q, r⟩ := io; exact ⟨b, xs, eb, w0, wf, by rw [upd_ne (fun z => by subst eb; subst z; exact ap j _ ow ej rfl ev)]; exact q, r⟩
    | _ => exact io
/-- the block's own entry: the list that grows stands -/
theorem Rp.enter (R : Rp K mg g Γ ρ σ Hf H) {a : Addr} {o : HO} (z0 : g.H0 a = none) (e : H a = some o) (ap : ∀ i e, Own Γ i → ρ[i]? = some (some e) → e.mut = true → σ[i]? = some (some (.ref a)) → False) : Rp K mg ⟨upd g.H0 a o, Hf⟩ Γ ρ σ Hf H := by
  refine ⟨R.same, fun b x q => ?_, Same.refl _, fun b x q => .inl q, R.len, fun j e' ow ej => ?_, R.dat, R.sep⟩
  · by_cases h : b = a
    · subst h
      have q' : upd g.H0 b o b = some x := q
      rw [upd_same] at q'
      rw [e, q']
    · have q' : upd g.H0 a o b = some x := q
      rw [upd_ne h] at q'
      exact R.ent _ _ q'
  · obtain ⟨v, ev, io⟩ := R.own j e' ow ej
    refine ⟨v, ev, ?_⟩
    cases e' with
    | lst ds => obtain ⟨b, xs, eb, w0, wf, q, r⟩ := io; exact ⟨b, xs, eb, (upd_ne (fun z => by subst eb; subst z; exact ap j _ ow ej rfl ev)).trans w0, wf, q, r⟩
    | dic ds => obtain ⟨b, xs, eb, w0, wf, q, r⟩ := io; exact ⟨b, xs, eb, (upd_ne (fun z => by subst eb; subst z; exact ap j _ ow ej rfl ev)).trans w0, wf, q, r⟩
    | _ => exact io
end
structure PTsx (X : Cx) (g : G) (E : WX) (Γ : List Bool) (e : List Expr) (Γ' : List Bool) (f : Env → Out Bool) : Prop where
  le : Le Γ' Γ
  pe : PTs X e (fun σ H Q => ∃ ρ Hf, Rp X.K X.mw g Γ ρ σ Hf H ∧ tG X.K X.mw g E Γ' ρ σ Hf H (fun b _ H' => Q b H') (f ρ))
theorem _root_.L2.PTs.imp {X : Cx} {e : List Expr} {t t' : TT} (h : PTs X e t) (w : ∀ σ H Q, t' σ H Q → t σ H Q) : PTs X e t' :=
  ⟨fun pins s σ H Q I q => h.run pins s σ H Q I (w σ H Q q)⟩
abbrev E0 : WX := fun _ _ _ _ => False
section
variable {X : Cx} {g : G} {E : WX} {Γ Γ1 Γ2 : List Bool} {pos : Pos}
theorem ptsx_nil : PTsx X g E Γ [] Γ bYes := by
  refine ⟨Le.refl _, pts_nil.imp fun σ H Q ⟨ρ, Hf, R, k⟩ => ?_⟩
  exact k Hf H (Same.refl _) (Same.refl _) R
theorem ptsx_one {c : Expr} {f : Env → Out Bool} (h : PTx X g E Γ c Γ1 f) : PTsx X g E Γ [c] Γ1 f := ⟨h.le, pts_one h.pe⟩
abbrev hG (X : Cx) (Γ2 : List Bool) (G' : D → Env → Out Env) (ws : List Nat) : TG := fun v σ H Q => ∃ (g : G), ∃ d ρ Hf, Rp X.K X.mw g Γ2 ρ σ Hf H ∧ IsD X.K X.mw Hf d v ∧ ∃ ρ', G' d ρ = .ok ρ' ∧ ∀ σ', (∀ i, i ∉ ws → σ'[i]? = σ[i]?) → Rp X.K X.mw g Γ2 ρ' σ' Hf H → Q σ' H
abbrev hT (X : Cx) (Γ2 : List Bool) (tt : Env → Out Bool) : TT := fun σ H Q => ∃ (g : G), ∃ ρ Hf, Rp X.K X.mw g Γ2 ρ σ Hf H ∧ tG X.K X.mw g E0 Γ2 ρ σ Hf H (fun b _ H' => Q b H') (tt ρ)
abbrev hE (X : Cx) (Γ2 : List Bool) (f : Env → Out D) : TE := fun σ H Q => ∃ (g : G), ∃ ρ Hf, Rp X.K X.mw g Γ2 ρ σ Hf H ∧ tG X.K X.mw g E0 Γ2 ρ σ Hf H (PV X g Γ2 ρ σ .fr Q) (f ρ)
theorem lc_read {tg iter : Expr} {vs : List Nat} {it : Env → Out (List D)} {G' : D → Env → Out Env} {tt : Env → Out Bool} {f : Env → Out D} {ws : List Nat} (le : Le Γ2 Γ1) (no : ∀ i ∈ vs, ¬ Own Γ2 i) (hws : ∀ i ∈ ws, i ∈ vs)
    (AG : ∀ d ρ ρ', G' d ρ = .ok ρ' → (∀ i, i ∉ ws → ρ'[i]? = ρ[i]?) ∧ ρ'.length = ρ.length) {σ : St} {H : Hp} {Q : VK} {ρ : Env} {Hf : Hp} (R : Rp X.K X.mw g Γ ρ σ Hf H) {P : Env → St → Hp → Prop} (hP : P ρ σ Hf)
    (q : tG X.K X.mw g E Γ2 ρ σ Hf H (PV X g Γ2 ρ σ .ow Q) (eLc vs G' it tt f ρ)) :
    tLc (fun σ H R => ∃ ρ Hf, Rp X.K X.mw g Γ ρ σ Hf H ∧ P ρ σ Hf ∧ tG X.K X.mw g E Γ1 ρ σ Hf H (fun ds Hf' H' => ∀ J, Walks X.K X.mw g.H0 J Hf' ds → R J H') (it ρ)) (hG X Γ2 G' ws) (hT X Γ2 tt) (hE X Γ2 f) vs σ H Q := by
  refine ⟨ρ, Hf, R, hP, ?_⟩
  refine tG.bind le q fun ds F1 H1 s1 s2 R1 k J wk D nD => ?_
  refine (Classical.em (ds.length ≤ sizeLine)).elim (fun hz => ?_) (fun hz => by rw [chk_neg hz] at k; exact k.elim)
  rw [chk_pos hz] at k
  cases hl : lcL G' tt f (wipeE ρ (vs)) ds with
  | exc x => exact absurd hl (lcL_nx ds x)
  | stuck => rw [hl] at k; exact k.elim
  | ok total =>
  rw [hl] at k
  simp only [Out.bind_ok] at k
  -- what the frame hands on is data from here on
  obtain ⟨F2, s3, R2, _⟩ := R1.frz le
  have zf : F2 D = none := R2.same.free nD
  obtain ⟨t2, R3, n0, nf, ap⟩ := R2.newO (.lst []) nD
  refine ⟨fun i m H => m = ds.length - i ∧ i ≤ ds.length ∧ ∃ (acc : List V) (accD : List PD.D) (Hf : Hp) (rest : List PD.D), H D = some (.lst acc) ∧ IsDs X.K X.mw Hf accD acc ∧ Hf D = none ∧ lcL G' tt f (wipeE ρ (vs)) (ds.drop i) = .ok rest ∧ accD ++ rest = total ∧
      accD.length ≤ i ∧ Same F2 Hf ∧ Same H1 H ∧ Rp X.K X.mw g Γ2 ρ σ Hf H, ⟨ds.length, by simp, Nat.zero_le _, [], [], F2, total, upd_same, by simp only [IsDs], zf, hl, rfl, Nat.zero_le _, Same.refl _, t2, R3⟩, ?_⟩
  rintro i m H ⟨rfl, hi', acc, accD, Hf, rest, eD, ia, fD, er, et, la, sF, sH, RR⟩
  have RE := RR.enter n0 eD ap
  by_cases hlt : i < ds.length
  · have ed : ds[i]? = some ds[i] := by simp [hlt]
    have hd : ds.drop i = ds[i] :: ds.drop (i + 1) := List.drop_eq_getElem_cons hlt
    rw [hd] at er
    obtain ⟨ρ1, b, e1, e2, e3⟩ := lcL_ok er
    obtain ⟨go, yl⟩ := (wk _ Γ2 ρ σ Hf H (s3.trans sF) RE i).1 _ ed
    refine .inr ⟨go, fun H' => ∃ (acc : List V) (accD : List PD.D) (Hf : Hp) (rest : List PD.D), H' D = some (.lst acc) ∧ IsDs X.K X.mw Hf accD acc ∧ Hf D = none ∧ lcL G' tt f (wipeE ρ (vs)) (ds.drop (i + 1)) = .ok rest ∧ accD ++ rest = total ∧
      accD.length ≤ i + 1 ∧ Same F2 Hf ∧ Same H1 H' ∧ Rp X.K X.mw g Γ2 ρ σ Hf H', fun H' z => ⟨ds.length - (i + 1), by omega, rfl, hlt, z⟩, fun x H' y => ?_⟩
    obtain ⟨Hf3, s4, s5, R4, hx⟩ := yl x H' y
    refine ⟨_, ds[i], _, Hf3, R4.wipe (vs), hx, ρ1, e1, fun σ2 a2 R5 => ?_⟩
    have hlen : σ2.length = (L2.wipe σ (vs)).length := by
      rw [R5.len, (R4.wipe (vs)).len, (AG _ _ _ e1).2]
    have ag1 : ∀ j, j ∉ vs → ρ1[j]? = ρ[j]? := fun j nj => by
      rw [(AG _ _ _ e1).1 j fun z => nj (hws j z), wipeE_ne nj]
    have ag2 : ∀ j, j ∉ vs → σ2[j]? = σ[j]? := fun j nj => by
      rw [a2 j fun z => nj (hws j z), wipe_ne nj]
    refine ⟨wipe_same (by rw [hlen, wipe_length]) fun j nj => by rw [ag2 j nj, wipe_ne nj], _, ρ1, Hf3, R5, ?_⟩
    rw [e2]
    intro Hf4 H4 s6 s7 R6
    have back : ∀ {Hf5 H5 : Hp}, Same Hf3 Hf5 → Same H' H5 → Rp X.K X.mw ⟨upd g.H0 D (.lst acc), Hf⟩ Γ2 ρ1 σ2 Hf5 H5 → Rp X.K X.mw g Γ2 ρ σ Hf5 H5 ∧ Hf5 D = none ∧ H5 D = some (.lst acc) := fun {Hf5 H5} u1 u2 R7 => by
      refine ⟨RR.unwipe R7 (s4.trans u1) (s5.trans u2) rfl (fun c zc => ?_) ag1 ag2 no, ?_, R7.ent D _ upd_same⟩
      · by_cases h : c = D
        · subst h; exact n0
        · have zc' : upd g.H0 D (.lst acc) c = none := zc
          rw [upd_ne h] at zc'; exact zc'
      · cases h : Hf5 D with
        | none => rfl
        | some o =>
          rcases R7.news D o h with z | z
          · have z' : Hf D = some o := z
            rw [fD] at z'; cases z'
          · have z' : upd g.H0 D (.lst acc) D = none := z
            rw [upd_same] at z'; cases z'
    rcases e3 with ⟨rfl, yd, ys, e4, e5, e6⟩ | ⟨rfl, e4⟩
    · refine Eq.mpr (if_pos rfl) ?_
      refine ⟨_, ρ1, Hf4, R6, ?_⟩
      rw [e4]
      intro Hf5 H5 s8 s9 R7 yv hy
      obtain ⟨R8, f5, eD5⟩ := back (s6.trans s8) (s7.trans s9) R7
      have la2 : acc.length < sizeLine := by rw [ia.len]; omega
      refine ⟨acc, eD5, la2, acc ++ [yv], accD ++ [yd], Hf5, ys, upd_same, ?_, f5, e5, by rw [← et, e6]; simp, by simp; omega, sF.trans (s4.trans (s6.trans s8)), ?_, R8.other n0 f5 ap⟩
      · exact (IsDs.mono (s4.trans (s6.trans s8)) ia).snoc hy
      · intro c o ec
        rw [upd_ne (ne_of_none ec nD)]
        exact (sH.trans (s5.trans (s7.trans s9))) _ _ ec
    · obtain ⟨R8, f5, eD5⟩ := back s6 s7 R6
      refine Eq.mpr (if_neg Bool.false_ne_true) ?_
      exact ⟨acc, accD, Hf4, rest, eD5, IsDs.mono (s4.trans s6) ia, f5, e4, et, by omega, sF.trans (s4.trans s6), sH.trans (s5.trans s7), R8⟩
  · have e : i = ds.length := by omega
    subst e
    refine .inl ⟨(wk _ Γ2 ρ σ Hf H (s3.trans sF) RE _).2 (Nat.le_refl _), ?_⟩
    rw [List.drop_length] at er
    cases er
    rw [List.append_nil] at et
    subst et
    exact k Hf H (s3.trans sF) sH RR (.ref D) ⟨⟨D, acc, rfl, n0, fD, eD, ia⟩, fun i e ow e1 m _ e2 => ap i e ow e1 m e2⟩

theorem px_lc {elt tg iter : Expr} {ifs : List Expr} {scope : Scope} {own : List (Str × Nat)} {it : Env → Out (List D)} {G' : D → Env → Out Env} {tt : Env → Out Bool} {f : Env → Out D} {ws : List Nat}
    (hc : X.calm = true) (hN : X.N.Nodup) (hi : PIx X g E Γ tg iter Γ1 it) (le : Le Γ2 Γ1) (no : ∀ i ∈ own.map (·.2), ¬ Own Γ2 i) (ok : BlkOk X.N X.env.scope scope own)
    (hg : ∀ (g : G) (s : Shared) (H : Hp) (C : Addr) (cl : List (Str × Addr)) (fp : List Addr), PGx (X.blk s H scope (compEnvC scope cl C X.env) fp) g Γ2 tg Γ2 G' ws) (hws : ∀ i ∈ ws, i ∈ own.map (·.2))
    (ht : ∀ (g : G) (s : Shared) (H : Hp) (C : Addr) (cl : List (Str × Addr)) (fp : List Addr), PTsx (X.blk s H scope (compEnvC scope cl C X.env) fp) g E0 Γ2 ifs Γ2 tt)
    (he : ∀ (g : G) (s : Shared) (H : Hp) (C : Addr) (cl : List (Str × Addr)) (fp : List Addr), PX (X.blk s H scope (compEnvC scope cl C X.env) fp) g E0 Γ2 elt Γ2 .fr f) (hs : ∀ x, foldedSetIterable iter X.env x = pure x := by intro _; rfl) :
    PX X g E Γ (.ListComp elt [⟨tg, iter, ifs, 0⟩] scope pos) Γ2 .ow (eLc (own.map (·.2)) G' it tt f) := by
  have HG : ∀ (s : Shared) (H : Hp) (C : Addr) (cl : List (Str × Addr)) (fp : List Addr), PG (X.blk s H scope (compEnvC scope cl C X.env) fp) tg (hG X Γ2 G' ws) := fun s H C cl fp => ⟨fun pins s' σ H' v u Q I r ⟨g', z⟩ => (hg g' s H C cl fp).pg.run pins s' σ H' v u Q I r z⟩
  have HT : ∀ (s : Shared) (H : Hp) (C : Addr) (cl : List (Str × Addr)) (fp : List Addr), PTs (X.blk s H scope (compEnvC scope cl C X.env) fp) ifs (hT X Γ2 tt) := fun s H C cl fp => ⟨fun pins s' σ H' Q I ⟨g', z⟩ => (ht g' s H C cl fp).pe.run pins s' σ H' Q I z⟩
  have HE : ∀ (s : Shared) (H : Hp) (C : Addr) (cl : List (Str × Addr)) (fp : List Addr), PE (X.blk s H scope (compEnvC scope cl C X.env) fp) elt (hE X Γ2 f) := fun s H C cl fp => ⟨fun pins s' σ H' Q I ⟨g', z⟩ => (he g' s H C cl fp).pe.run pins s' σ H' Q I z⟩
  exact ⟨le.trans hi.le, (pe_lc hc hN (hi.pi.imp fun σ H R ⟨ρ, Hf, R, _, q⟩ => ⟨ρ, Hf, R, q⟩) ok HG HT HE hs).imp fun σ H Q ⟨ρ, Hf, R, q⟩ => lc_read (tg := tg) (iter := iter) le no hws (hg g ⟨{}, #[], {}, 0, {}⟩ (fun _ => none) 0 [] []).ag R (P := fun _ _ _ => True) trivial q⟩
/-- y = [..], y a name of the def that no block uses -/
theorem psx_setLc {ro : Bool} {Γl : List Bool} {spos : Pos} {i : Nat} {y : Str} {py : Pos} {ow : Bool} {elt tg iter : Expr} {ifs : List Expr} {scope : Scope} {own : List (Str × Nat)} {it : Env → Out (List D)} {G' : D → Env → Out Env} {tt : Env → Out Bool} {f : Env → Out D} {ws : List Nat}
    (hc : X.calm = true) (hN : X.N.Nodup) (hy : X.N[i]? = some y) (hyl : X.env.scope.names.lookup y = some .local) (hsw : swapsWith (.ListComp elt [⟨tg, iter, ifs, 0⟩] scope pos) (some (.Name y py)) spos.line X.env = pure true) (hi : PIx X g E Γ tg iter Γ1 it) (le : Le Γ2 Γ1) (no : ∀ i ∈ own.map (·.2), ¬ Own Γ2 i) (hl : ow = true → i < Γ2.length) (ok : BlkOk X.N X.env.scope scope own)
    (hg : ∀ (g : G) (s : Shared) (H : Hp) (C : Addr) (cl : List (Str × Addr)) (fp : List Addr), PGx (X.blk s H scope (compEnvC scope cl C X.env) fp) g Γ2 tg Γ2 G' ws) (hws : ∀ i ∈ ws, i ∈ own.map (·.2))
    (ht : ∀ (g : G) (s : Shared) (H : Hp) (C : Addr) (cl : List (Str × Addr)) (fp : List Addr), PTsx (X.blk s H scope (compEnvC scope cl C X.env) fp) g E0 Γ2 ifs Γ2 tt)
    (he : ∀ (g : G) (s : Shared) (H : Hp) (C : Addr) (cl : List (Str × Addr)) (fp : List Addr), PX (X.blk s H scope (compEnvC scope cl C X.env) fp) g E0 Γ2 elt Γ2 .fr f) (hs : ∀ x, foldedSetIterable iter X.env x = pure x := by intro _; rfl) :
    PSx X g E ro Γl Γ (.Assign [.Name y py] (.ListComp elt [⟨tg, iter, ifs, 0⟩] scope pos) spos) (Γ2.set i ow) (sSet i (eLc (own.map (·.2)) G' it tt f)) := by
  have HG : ∀ (s : Shared) (H : Hp) (C : Addr) (cl : List (Str × Addr)) (fp : List Addr), PG (X.blk s H scope (compEnvC scope cl C X.env) fp) tg (hG X Γ2 G' ws) := fun s H C cl fp => ⟨fun pins s' σ H' v u Q I r ⟨g', z⟩ => (hg g' s H C cl fp).pg.run pins s' σ H' v u Q I r z⟩
  have HT : ∀ (s : Shared) (H : Hp) (C : Addr) (cl : List (Str × Addr)) (fp : List Addr), PTs (X.blk s H scope (compEnvC scope cl C X.env) fp) ifs (hT X Γ2 tt) := fun s H C cl fp => ⟨fun pins s' σ H' Q I ⟨g', z⟩ => (ht g' s H C cl fp).pe.run pins s' σ H' Q I z⟩
  have HE : ∀ (s : Shared) (H : Hp) (C : Addr) (cl : List (Str × Addr)) (fp : List Addr), PE (X.blk s H scope (compEnvC scope cl C X.env) fp) elt (hE X Γ2 f) := fun s H C cl fp => ⟨fun pins s' σ H' Q I ⟨g', z⟩ => (he g' s H C cl fp).pe.run pins s' σ H' Q I z⟩
  refine ⟨(ps_setLc hc hN hy hyl hsw (hi.pi.imp fun σ H R ⟨ρ, Hf, R, _, q⟩ => ⟨ρ, Hf, R, q⟩) ok HG HT HE hs).imp fun Dn σ H ⟨ρ, Hf, R, q⟩ => lc_read (tg := tg) (iter := iter) (Q := fun x H1 => gName i x σ H1 Dn.nx) le no hws (hg g ⟨{}, #[], {}, 0, {}⟩ (fun _ => none) 0 [] []).ag R (P := fun _ _ _ => True) trivial ?_⟩
  unfold sSet at q
  refine tG.toS q fun d F1 H1 s1 s2 R1 k v hv => ?_
  show Dn.nx (σ.set i (some v)) H1
  cases ow with
  | true => exact k _ F1 H1 (R1.setO (hl rfl) hv.1 hv.2)
  | false =>
    obtain ⟨F2, s3, R2, id⟩ := R1.cool hv.1 hv.2
    exact k _ F2 H1 (R2.setF id)
theorem takes_no : Takes X E0 := fun u s' ⟨_, _, _, _, _, _, _, _, _, _, _, _, _, _, _, _, w⟩ => w.elim
end
end PD

namespace PD
open PySem PySem.Spec L2
open PyProof.Rows hiding St

/-! ## dicts, told -/
open Classical in
noncomputable def dicGet (kvs : List (D × D)) (k : D) : Option D := (kvs.find? fun p => decide (p.1 = k)).map (·.2)
open Classical in
noncomputable def dicPut (kvs : List (D × D)) (k v : D) : List (D × D) := if (kvs.any fun p => decide (p.1 = k)) = true then kvs.map (fun p => if p.1 = k then (p.1, v) else p) else kvs ++ [(k, v)]
open Classical in
noncomputable def dicDrop (kvs : List (D × D)) (k : D) : List (D × D) := kvs.filter fun p => decide (p.1 ≠ k)
def flatK : D → Bool
  | .int _ => true
  | .str _ => true
  | _ => false
/-- a key that the dict may be asked for -/
def DKey (kvs : List (D × D)) (k : D) : Prop := (flatK k = true ∧ ∀ p ∈ kvs, flatK p.1 = true) ∨ (TKey (toPy k) ∧ ∀ p ∈ kvs, TKey (toPy p.1))
theorem dicGet_nil (k : D) : dicGet [] k = none := rfl
theorem dicGet_pos {p : D × D} {r : List (D × D)} {k : D} (e : p.1 = k) : dicGet (p :: r) k = some p.2 := by simp [dicGet, List.find?_cons, e]
theorem dicGet_neg {p : D × D} {r : List (D × D)} {k : D} (e : ¬ p.1 = k) : dicGet (p :: r) k = dicGet r k := by simp [dicGet, List.find?_cons, e]
open Classical in
theorem dicGet_any (k : D) : ∀ kvs : List (D × D), (kvs.any fun p => decide (p.1 = k)) = (dicGet kvs k).isSome
  | [] => rfl
  | p :: r => by
    rw [List.any_cons]
    by_cases e : p.1 = k
    · rw [dicGet_pos e, decide_eq_true e]; rfl
    · rw [dicGet_neg e, decide_eq_false e, dicGet_any k r]; rfl
noncomputable def valT (zs : List (PyData × Addr × V)) (k : PyData) : Option V := (zs.find? fun z => decide (z.1 = k)).map (·.2.2)
theorem valT_pos {p : PyData × Addr × V} {r : List (PyData × Addr × V)} {k : PyData} (e : p.1 = k) : valT (p :: r) k = some p.2.2 := by simp [valT, List.find?_cons, e]
theorem valT_neg {p : PyData × Addr × V} {r : List (PyData × Addr × V)} {k : PyData} (e : ¬ p.1 = k) : valT (p :: r) k = valT r k := by simp [valT, List.find?_cons, e]
noncomputable def putT (zs : List (PyData × Addr × V)) (k : PyData) (b : Addr) (v : V) : List (PyData × Addr × V) := if (valT zs k).isSome = true then zs.map (fun z => if z.1 = k then (z.1, z.2.1, v) else z) else zs ++ [(k, b, v)]
noncomputable def dropT (zs : List (PyData × Addr × V)) (k : PyData) : List (PyData × Addr × V) := zs.filter fun z => decide (z.1 ≠ k)
mutual
theorem toPy_inj : ∀ (k k' : D), keyP (toPy k) = true → toPy k = toPy k' → k = k'
  | .int i, k', _, e => by cases k' <;> simp [toPy] at e; rw [e]
  | .str i, k', _, e => by cases k' <;> simp [toPy] at e; rw [e]
  | .tup ds, k', h, e => by
    cases k' with
    | tup es =>
      simp only [toPy, PyData.tuple.injEq] at e
      simp only [toPy, keyP] at h
      rw [toPys_inj ds es h e]
    | _ => simp [toPy] at e
  | .non, _, h, _ => by simp [toPy, keyP] at h
  | .bl _, _, h, _ => by simp [toPy, keyP] at h
  | .ty _, _, h, _ => by simp [toPy, keyP] at h
  | .scr _, _, h, _ => by simp [toPy, keyP] at h
  | .lst _, _, h, _ => by simp [toPy, keyP] at h
  | .dic _, _, h, _ => by simp [toPy, keyP] at h
  | .ins _ _, _, h, _ => by simp [toPy, keyP] at h
  | .adr _, _, h, _ => by simp [toPy, keyP] at h
theorem toPys_inj : ∀ (ks ks' : List D), keysP (toPys ks) = true → toPys ks = toPys ks' → ks = ks'
  | [], ks', _, e => by cases ks' with
    | nil => rfl
    | cons _ _ => simp [toPys] at e
  | k :: ks, ks', h, e => by
    cases ks' with
    | nil => simp [toPys] at e
    | cons k' ks' =>
      simp only [toPys, List.cons.injEq] at e
      simp only [toPys, keysP, Bool.and_eq_true] at h
      rw [toPy_inj k k' h.1 e.1, toPys_inj ks ks' h.2 e.2]
end
theorem kD_flat (k : Key) : flatK (kD k) = true := by cases k <;> rfl
theorem kD_inj {a b : Key} (e : kD a = kD b) : a = b := by
  cases a <;> cases b <;> simp [kD] at e <;> rw [e]
theorem flat_kD {k : D} (h : flatK k = true) : ∃ κ, k = kD κ := by
  cases k with
  | int i => exact ⟨.inl i, rfl⟩
  | str x => exact ⟨.inr x, rfl⟩
  | _ => cases h
theorem tkey_nf {k : D} (h : TKey (toPy k)) : flatK k = false := by
  obtain ⟨xs, e⟩ := h.tup
  cases k <;> simp [toPy] at e <;> rfl
section
variable {K : PySem.W.Frag} {mg : Mg} {H : Hp}
theorem IsKVs.get : ∀ {kvs : List (D × D)} {xs : List (Key × V)} (κ : Key), IsKVs K mg H kvs xs → match dicGet kvs (kD κ) with
    | some d => ∃ v, valV xs κ = some v ∧ IsD K mg H d v
    | none => valV xs κ = none
  | [], xs, κ, h => by simp only [IsKVs] at h; subst h; rfl
  | (k, d) :: kvs, xs, κ, h => by
    simp only [IsKVs, IsKV] at h
    obtain ⟨⟨k', v⟩, us, rfl, ⟨e, q⟩, r⟩ := h
    simp only at e q
    subst e
    by_cases z : k' = κ
    · subst z
      rw [dicGet_pos rfl]
      exact ⟨v, valV_pos rfl, q⟩
    · rw [dicGet_neg (fun y => z (kD_inj y)), valV_neg z]
      exact IsKVs.get κ r
theorem IsKVs.flat : ∀ {kvs : List (D × D)} {xs : List (Key × V)}, IsKVs K mg H kvs xs → ∀ p ∈ kvs, flatK p.1 = true
  | (k, d) :: kvs, xs, h, p, m => by
    simp only [IsKVs, IsKV] at h
    obtain ⟨⟨k', v⟩, us, rfl, ⟨e, q⟩, r⟩ := h
    rcases List.mem_cons.mp m with rfl | m
    · simp only at e
      subst e
      exact kD_flat k'
    · exact IsKVs.flat r p m
theorem IsKVs.len : ∀ {kvs : List (D × D)} {xs : List (Key × V)}, IsKVs K mg H kvs xs → xs.length = kvs.length
  | [], _, h => by simp only [IsKVs] at h; subst h; rfl
  | _ :: kvs, _, h => by
    simp only [IsKVs] at h
    obtain ⟨_, us, rfl, _, r⟩ := h
    rw [List.length_cons, List.length_cons, IsKVs.len r]
theorem IsKTs.len : ∀ {kvs : List (D × D)} {xs : List (PyData × Addr × V)}, IsKTs K mg H kvs xs → xs.length = kvs.length
  | [], _, h => by simp only [IsKTs] at h; subst h; rfl
  | _ :: kvs, _, h => by
    simp only [IsKTs] at h
    obtain ⟨_, us, rfl, _, r⟩ := h
    rw [List.length_cons, List.length_cons, IsKTs.len r]
theorem IsKTs.keys : ∀ {kvs : List (D × D)} {xs : List (PyData × Addr × V)}, IsKTs K mg H kvs xs → ∀ p ∈ kvs, TKey (toPy p.1)
  | (k, d) :: kvs, xs, h, p, m => by
    simp only [IsKTs, IsKT] at h
    obtain ⟨⟨k', b, v⟩, us, rfl, ⟨e, t, q⟩, r⟩ := h
    rcases List.mem_cons.mp m with rfl | m
    · exact t
    · exact IsKTs.keys r p m
theorem IsKTs.get {k : D} (t : TKey (toPy k)) : ∀ {kvs : List (D × D)} {xs : List (PyData × Addr × V)}, IsKTs K mg H kvs xs → match dicGet kvs k with
    | some d => ∃ v, valT xs (toPy k) = some v ∧ IsD K mg H d v
    | none => valT xs (toPy k) = none
  | [], xs, h => by simp only [IsKTs] at h; subst h; rfl
  | (k0, d) :: kvs, xs, h => by
    simp only [IsKTs, IsKT] at h
    obtain ⟨⟨k', b, v⟩, us, rfl, ⟨e, t', q, q'⟩, r⟩ := h
    simp only at e q q'
    subst e
    by_cases z : k0 = k
    · subst z
      rw [dicGet_pos rfl]
      exact ⟨v, valT_pos rfl, q'⟩
    · rw [dicGet_neg z, valT_neg (fun y => z (toPy_inj _ _ t'.key y))]
      exact IsKTs.get t r
open Classical in
theorem IsKVs.put (κ : Key) {d : D} {v : V} (hv : IsD K mg H d v) {kvs : List (D × D)} {xs : List (Key × V)} (h : IsKVs K mg H kvs xs) : IsKVs K mg H (dicPut kvs (kD κ) d) (putK xs κ v) := by
  have a : (kvs.any fun p => decide (p.1 = kD κ)) = (xs.any fun kv => decide (kv.1 = κ)) := by
    rw [dicGet_any, valV_any]
    have := h.get κ
    cases e : dicGet kvs (kD κ) with
    | some d => rw [e] at this; obtain ⟨v, e2, _⟩ := this; rw [e2]; rfl
    | none => rw [e] at this; simp only at this; rw [this]; rfl
  unfold dicPut putK
  rw [a]
  by_cases z : (xs.any fun kv => decide (kv.1 = κ)) = true
  · rw [if_pos z, if_pos z]
    clear a z
    induction kvs generalizing xs with
    | nil => simp only [IsKVs] at h; subst h; simp [IsKVs]
    | cons p kvs ih =>
      obtain ⟨k, d0⟩ := p
      simp only [IsKVs, IsKV] at h
      obtain ⟨⟨k', v'⟩, us, rfl, ⟨e, q⟩, r⟩ := h
      simp only at e q
      subst e
      rw [List.map_cons, List.map_cons]
      simp only [IsKVs]
      refine ⟨_, _, rfl, ?_, ih r⟩
      by_cases z : k' = κ
      · subst z
        simp only [if_true, IsKV]
        exact ⟨trivial, hv⟩
      · rw [if_neg z, if_neg (fun y => z (kD_inj y))]
        simp only [IsKV]
        exact ⟨trivial, q⟩
  · rw [if_neg z, if_neg z]
    clear a z
    induction kvs generalizing xs with
    | nil => simp only [IsKVs] at h; subst h; simp only [List.nil_append, IsKVs, IsKV]; exact ⟨_, _, rfl, ⟨rfl, hv⟩, rfl⟩
    | cons p kvs ih =>
      simp only [IsKVs] at h
      obtain ⟨u, us, rfl, q, r⟩ := h
      simp only [List.cons_append, IsKVs]
      exact ⟨_, _, rfl, q, ih r⟩
open Classical in
theorem IsKTs.put {k : D} (t : TKey (toPy k)) {b : Addr} (hb : IsD K mg H k (.ref b)) {d : D} {v : V} (hv : IsD K mg H d v) {kvs : List (D × D)} {xs : List (PyData × Addr × V)} (h : IsKTs K mg H kvs xs) : IsKTs K mg H (dicPut kvs k d) (putT xs (toPy k) b v) := by
  have a : (kvs.any fun p => decide (p.1 = k)) = (valT xs (toPy k)).isSome := by
    rw [dicGet_any]
    have := h.get t
    cases e : dicGet kvs k with
    | some d => rw [e] at this; obtain ⟨v, e2, _⟩ := this; rw [e2]; rfl
    | none => rw [e] at this; simp only at this; rw [this]; rfl
  unfold dicPut putT
  rw [a]
  by_cases z : (valT xs (toPy k)).isSome = true
  · rw [if_pos z, if_pos z]
    clear a z
    induction kvs generalizing xs with
    | nil => simp only [IsKTs] at h; subst h; simp [IsKTs]
    | cons p kvs ih =>
      obtain ⟨k0, d0⟩ := p
      simp only [IsKTs, IsKT] at h
      obtain ⟨⟨k', b', v'⟩, us, rfl, ⟨e, t', q, q'⟩, r⟩ := h
      simp only at e q q'
      subst e
      rw [List.map_cons, List.map_cons]
      simp only [IsKTs]
      refine ⟨_, _, rfl, ?_, ih r⟩
      by_cases z : k0 = k
      · subst z
        simp only [if_true, IsKT]
        exact ⟨trivial, t', q, hv⟩
      · rw [if_neg z, if_neg (fun y => z (toPy_inj _ _ t'.key y))]
        simp only [IsKT]
        exact ⟨trivial, t', q, q'⟩
  · rw [if_neg z, if_neg z]
    clear a z
    induction kvs generalizing xs with
    | nil => simp only [IsKTs] at h; subst h; simp only [List.nil_append, IsKTs, IsKT]; exact ⟨_, _, rfl, ⟨rfl, t, hb, hv⟩, rfl⟩
    | cons p kvs ih =>
      simp only [IsKTs] at h
      obtain ⟨u, us, rfl, q, r⟩ := h
      simp only [List.cons_append, IsKTs]
      exact ⟨_, _, rfl, q, ih r⟩
end

/-! ## the heap's dict -/
section
variable {X : Cx} {pins : List (Addr × Obj)} {σ : St} {H Hf : Hp} {s : Shared} {a : Addr} {o : HO} {kvs : List (D × D)} {k : D} {y : V} {u : Value} {A : Around} {E : Value → Shared → Prop}
abbrev ZW : List (PyData × Addr × V) → List (PyData × Addr × Value) → Prop := Paired fun p q => p.1 = q.1 ∧ p.2.1 = q.2.1 ∧ RelV p.2.2 q.2.2
theorem ZW.val {zs : List (PyData × Addr × V)} {xs : List (PyData × Addr × Value)} (r : ZW zs xs) (k : PyData) : RelO (valT zs k) ((atKey xs k).map (·.2)) := by
  induction r with
  | nil => exact True.intro
  | @cons p q ps qs h t ih =>
    obtain ⟨h1, _, h2⟩ := h
    by_cases e : p.1 = k
    · have e' : q.1 = k := h1.symm.trans e
      have b : atKey (q :: qs) k = some q.2 := by simp [atKey, List.find?_cons, e']
      rw [valT_pos e, b]; exact h2
    · have e' : ¬ q.1 = k := fun z => e (h1.trans z)
      have b : atKey (q :: qs) k = atKey qs k := by simp [atKey, List.find?_cons, e']
      rw [valT_neg e, b]; exact ih
theorem ZW.put {zs : List (PyData × Addr × V)} {xs : List (PyData × Addr × Value)} (r : ZW zs xs) (k : PyData) (b : Addr) {y : V} {u : Value} (ry : RelV y u) : ZW (putT zs k b y) (storedH xs k b u) := by
  have e : (valT zs k).isSome = (atKey xs k).isSome := by rw [(r.val k).isSome_eq, Option.isSome_map]
  unfold putT storedH
  rw [e]
  by_cases q : (atKey xs k).isSome = true
  · rw [if_pos q, if_pos q]
    clear e q
    induction r with
    | nil => exact .nil
    | @cons p q ps qs h t ih =>
      rw [List.map_cons, List.map_cons]
      refine .cons ?_ ih
      obtain ⟨h1, h2, h3⟩ := h
      unfold putAt
      by_cases e : p.1 = k
      · rw [if_pos e, if_pos (h1.symm.trans e)]; exact ⟨h1, h2, ry⟩
      · rw [if_neg e, if_neg (fun z => e (h1.trans z))]; exact ⟨h1, h2, h3⟩
  · rw [if_neg q, if_neg q]; exact Paired.snoc r ⟨rfl, rfl, ry⟩
/-- both ways to see the dict at a -/
inductive Vw (X : Cx) (Hf : Hp) (h : Heap) (a : Addr) (kvs : List (D × D)) (k : D) (y : V) (u : Value) : Prop where
  | flat (κ : Key) (xs : List (Key × V)) (vs : List (Key × Value)) : k = kD κ → y = kV κ → RelV (kV κ) u → IsKVs X.K X.mw Hf kvs xs → KV xs vs → h.DictOf (mixKind X.prog X.w) a vs → Vw X Hf h a kvs k y u
  | deep (b : Addr) (zs : List (PyData × Addr × V)) (ws : List (PyData × Addr × Value)) : y = .ref b → u = .ref b → IsD X.K X.mw Hf k (.ref b) → TKey (toPy k) → (deepKind X.prog X.w).is h (toPy k) b → IsKTs X.K X.mw Hf kvs zs → ZW zs ws → h.DictOfH (deepKind X.prog X.w) a ws → Vw X Hf h a kvs k y u
theorem isd_ref {K : PySem.W.Frag} {mg : Mg} {k : D} {y : V} (h : IsD K mg Hf k y) (t : TKey (toPy k)) : ∃ b, y = .ref b := by
  obtain ⟨xs, e⟩ := t.tup
  cases k with
  | tup ds => simp only [IsD] at h; obtain ⟨a, _, e, _⟩ := h; exact ⟨a, e⟩
  | _ => simp [toPy] at e
theorem isd_flat {K : PySem.W.Frag} {mg : Mg} {κ : Key} {y : V} (h : IsD K mg Hf (kD κ) y) : y = kV κ := by
  cases κ <;> (simp only [kD, IsD] at h; subst h; rfl)
theorem zw_is (I : Inv X pins σ H s) (hs : Same Hf H) : ∀ {kvs : List (D × D)} {zs : List (PyData × Addr × V)} {ws : List (PyData × Addr × Value)}, IsKTs X.K X.mw Hf kvs zs → ZW zs ws → ∀ x ∈ ws, (deepKind X.prog X.w).is s.heap x.1 x.2.1
  | [], _, _, h, r, x, m => by simp only [IsKTs] at h; subst h; cases r; exact nomatch m
  | (k, d) :: kvs, _, _, h, r, x, m => by
    simp only [IsKTs, IsKT] at h
    obtain ⟨⟨k', b, v⟩, us, rfl, ⟨e, t, q, q'⟩, rr⟩ := h
    cases r with
    | @cons _ z _ qs hz tz =>
      rcases List.mem_cons.mp m with rfl | m
      · obtain ⟨h1, h2, _⟩ := hz
        simp only at e h1 h2 q
        rw [← h1, ← h2, e]
        obtain ⟨as, rd⟩ := Dp.reads I (toPy k) (.ref b) (.ref b) (dp_of (IsD.mono hs q) (keyP_lay _ t.key)) rfl
        exact ⟨t, as, rd⟩
      · exact zw_is I hs rr tz x m
theorem view (I : Inv X pins σ H s) (hs : Same Hf H) (hd : Rd H a o) (hk : DicAt X.K X.mw Hf kvs a o) (ky : IsD X.K X.mw Hf k y) (ry : RelV y u) (dk : DKey kvs k) : (a == sysModules) = false ∧ kvs.length ≤ sizeLine ∧ Vw X Hf s.heap a kvs k y u := by
  have ok := hd.ok I.hok
  rcases hk with ⟨xs, rfl, r⟩ | ⟨zs, rfl, r⟩
  · obtain ⟨z, hsys, vs, rel, dd⟩ := (show ObjOk X.prog X.w H s.heap a (.dK xs) from ok)
    refine ⟨hsys, by rw [← r.len]; exact z, ?_⟩
    rcases dk with ⟨f, _⟩ | ⟨t, all⟩
    · obtain ⟨κ, rfl⟩ := flat_kD f
      obtain rfl := isd_flat ky
      exact .flat κ xs vs rfl rfl ry r rel dd
    · have e : kvs = [] := by
        cases kvs with
        | nil => rfl
        | cons p kvs =>
          have h1 := r.flat p List.mem_cons_self
          rw [tkey_nf (all p List.mem_cons_self)] at h1
          cases h1
      subst e
      simp only [IsKVs] at r
      subst r
      cases rel
      obtain ⟨b, rfl⟩ := isd_ref ky t
      obtain rfl : u = .ref b := ry
      obtain ⟨as, rd⟩ := Dp.reads I (toPy k) (.ref b) (.ref b) (dp_of (IsD.mono hs ky) (keyP_lay _ t.key)) rfl
      obtain ⟨ob, es, ep, h1, h2, h3, h4, h5, h6⟩ := dd
      have ee : es.toList = [] := by
        generalize es.toList = l at h5
        cases h5; rfl
      exact .deep b [] [] rfl rfl ky t ⟨t, as, rd⟩ (by simp only [IsKTs]) .nil ⟨ob, es, ep, h1, h2, h3, by rw [ee]; rfl, fun x hx => (List.not_mem_nil hx).elim, List.nodup_nil⟩
  · obtain ⟨hne, hsys, z, ws, rel, ob, es, ep, h1, h2, h3, h4, h5⟩ := (show ObjOk X.prog X.w H s.heap a (dT X.w a zs) from ok).1
    refine ⟨hsys, by rw [← r.len]; exact z, ?_⟩
    rcases dk with ⟨f, all⟩ | ⟨t, _⟩
    · have e : kvs = [] := by
        cases kvs with
        | nil => rfl
        | cons p kvs =>
          have h1 := all p List.mem_cons_self
          rw [tkey_nf (r.keys p List.mem_cons_self)] at h1
          cases h1
      subst e
      simp only [IsKTs] at r
      subst r
      cases rel
      obtain ⟨κ, rfl⟩ := flat_kD f
      obtain rfl := isd_flat ky
      have ee : es.toList = [] := h4
      have e2 : es = #[] := by rw [← Array.toArray_toList (xs := es), ee]
      subst e2
      exact .flat κ [] [] rfl rfl ry (by simp only [IsKVs]) .nil ⟨ob, #[], ep, h1, h2, h3, fun e he => by simp at he, Pairs.nil, List.nodup_nil⟩
    · obtain ⟨b, rfl⟩ := isd_ref ky t
      obtain rfl : u = .ref b := ry
      obtain ⟨as, rd⟩ := Dp.reads I (toPy k) (.ref b) (.ref b) (dp_of (IsD.mono hs ky) (keyP_lay _ t.key)) rfl
      exact .deep b zs ws rfl rfl ky t ⟨t, as, rd⟩ r rel ⟨ob, es, ep, h1, h2, h3, h4, zw_is I hs r rel, h5⟩

theorem dk_room {A : Around} (hu : A.units + 64 < cLine) : (deepKind X.prog X.w).room A.in1 := by
  show A.units + 1 + 8 < cLine
  omega
/-- what the dict holds at k -/
theorem Vw.at (V0 : Vw X Hf s.heap a kvs k y u) : match dicGet kvs k with
    | some d => ∃ v w', IsD X.K X.mw Hf d v ∧ RelV v w' ∧ ((∃ κ vs, RelV (kV κ) u ∧ s.heap.DictOf (mixKind X.prog X.w) a vs ∧ valueAt vs κ = some w') ∨ ∃ b ws p, u = .ref b ∧ (deepKind X.prog X.w).is s.heap (toPy k) b ∧ s.heap.DictOfH (deepKind X.prog X.w) a ws ∧ atKey ws (toPy k) = some p ∧ p.2 = w')
    | none => (∃ κ vs, RelV (kV κ) u ∧ s.heap.DictOf (mixKind X.prog X.w) a vs ∧ valueAt vs κ = none) ∨ ∃ b ws, u = .ref b ∧ (deepKind X.prog X.w).is s.heap (toPy k) b ∧ s.heap.DictOfH (deepKind X.prog X.w) a ws ∧ atKey ws (toPy k) = none := by
  cases V0 with
  | flat κ xs vs ek ey ry r rel dd =>
    subst ek
    have g := r.get κ
    cases e : dicGet kvs (kD κ) with
    | some d =>
      rw [e] at g
      obtain ⟨v, e2, q⟩ := g
      obtain ⟨w', hw, rw'⟩ := RelO.some_of (v := v) (o := valueAt vs κ) (by rw [← e2]; exact rel.val κ)
      exact ⟨v, w', q, rw', .inl ⟨κ, vs, ry, dd, hw⟩⟩
    | none =>
      rw [e] at g
      exact .inl ⟨κ, vs, ry, dd, RelO.none_of (by rw [← g]; exact rel.val κ)⟩
  | deep b zs ws ey eu kd t is r rel dd =>
    have g := r.get t
    cases e : dicGet kvs k with
    | some d =>
      rw [e] at g
      obtain ⟨v, e2, q⟩ := g
      obtain ⟨w', hw, rw'⟩ := RelO.some_of (v := v) (o := (atKey ws (toPy k)).map (·.2)) (by rw [← e2]; exact rel.val _)
      obtain ⟨p, hp, hp2⟩ := Option.map_eq_some_iff.mp hw
      exact ⟨v, w', q, rw', .inr ⟨b, ws, p, eu, is, dd, hp, hp2⟩⟩
    | none =>
      rw [e] at g
      have : (atKey ws (toPy k)).map (·.2) = none := RelO.none_of (by rw [← g]; exact rel.val _)
      exact .inr ⟨b, ws, eu, is, dd, Option.map_eq_none_iff.mp this⟩
/-- d[k], there -/
theorem x_getItem {d : D} {Q : Value → Shared → Prop} (hu : A.units + 64 < cLine) (I : Inv X pins σ H s) (V0 : Vw X Hf s.heap a kvs k y u) (g : dicGet kvs k = some d) (h : ∀ v w' s', Inv X pins σ H s' → IsD X.K X.mw Hf d v → RelV v w' → Q w' s') :
    wpAny (model X.prog X.w) A (getItem (.ref a) u) Q E s := by
  have z := V0.at
  rw [g] at z
  obtain ⟨v, w', q, rw', z⟩ := z
  rcases z with ⟨κ, vs, ry, dd, hw⟩ | ⟨b, ws, p, rfl, is, dd, hp, rfl⟩
  · exact wpAny_getItem_of (kV_is ry) dd.mapOf hw (h v w' _ (I.tok _) q rw')
  · exact wpAny_getItem_heap (dk_room hu) is dd hp (h v _ _ (I.tok _) q rw')
/-- k in d -/
theorem x_in {Q : Value → Shared → Prop} (hu : A.units + 64 < cLine) (I : Inv X pins σ H s) (hsys : (a == sysModules) = false) (V0 : Vw X Hf s.heap a kvs k y u) (h : ∀ s', Inv X pins σ H s' → Q (.bool (dicGet kvs k).isSome) s') :
    wpAny (model X.prog X.w) A (compareOp .In u (.ref a)) Q E s := by
  have z := V0.at
  cases g : dicGet kvs k with
  | some d =>
    rw [g] at z h
    obtain ⟨v, w', q, rw', z⟩ := z
    rcases z with ⟨κ, vs, ry, dd, hw⟩ | ⟨b, ws, p, rfl, is, dd, hp, rfl⟩
    · refine wpAny_in_of (kV_is ry) hsys dd.mapOf ?_
      rw [hw]
      exact h _ (I.tok _)
    · refine wpAny_in_heap (dk_room hu) is hsys dd ?_
      rw [hp]
      exact h _ (I.tok _)
  | none =>
    rw [g] at z h
    rcases z with ⟨κ, vs, ry, dd, hw⟩ | ⟨b, ws, rfl, is, dd, hp⟩
    · refine wpAny_in_of (kV_is ry) hsys dd.mapOf ?_
      rw [hw]
      exact h _ (I.tok _)
    · refine wpAny_in_heap (dk_room hu) is hsys dd ?_
      rw [hp]
      exact h _ (I.tok _)
theorem x_notIn {Q : Value → Shared → Prop} (hu : A.units + 64 < cLine) (I : Inv X pins σ H s) (hsys : (a == sysModules) = false) (V0 : Vw X Hf s.heap a kvs k y u) (h : ∀ s', Inv X pins σ H s' → Q (.bool (!(dicGet kvs k).isSome)) s') :
    wpAny (model X.prog X.w) A (compareOp .NotIn u (.ref a)) Q E s := by
  have z := V0.at
  cases g : dicGet kvs k with
  | some d =>
    rw [g] at z h
    obtain ⟨v, w', q, rw', z⟩ := z
    rcases z with ⟨κ, vs, ry, dd, hw⟩ | ⟨b, ws, p, rfl, is, dd, hp, rfl⟩
    · refine wpAny_notIn_of (kV_is ry) hsys dd.mapOf ?_
      rw [hw]
      exact h _ (I.tok _)
    · refine wpAny_notIn_heap (dk_room hu) is hsys dd ?_
      rw [hp]
      exact h _ (I.tok _)
  | none =>
    rw [g] at z h
    rcases z with ⟨κ, vs, ry, dd, hw⟩ | ⟨b, ws, rfl, is, dd, hp⟩
    · refine wpAny_notIn_of (kV_is ry) hsys dd.mapOf ?_
      rw [hw]
      exact h _ (I.tok _)
    · refine wpAny_notIn_heap (dk_room hu) is hsys dd ?_
      rw [hp]
      exact h _ (I.tok _)
/-- d.get(k, x) -/
theorem x_get2 {dd0 : D} {r : Value} {x : V} {Q : Value → Shared → Prop} (hu : A.units + 64 < cLine) (I : Inv X pins σ H s) (hsys : (a == sysModules) = false) (V0 : Vw X Hf s.heap a kvs k y u) (hx : IsD X.K X.mw Hf dd0 x) (rx : RelV x r)
    (h : ∀ v w' s', Inv X pins σ H s' → IsD X.K X.mw Hf ((dicGet kvs k).getD dd0) v → RelV v w' → Q w' s') : wpAny (model X.prog X.w) A (call (.builtin "dict.get") [.ref a, u, r]) Q E s := by
  have z := V0.at
  cases g : dicGet kvs k with
  | some d =>
    rw [g] at z h
    obtain ⟨v, w', q, rw', z⟩ := z
    rcases z with ⟨κ, vs, ry, dd, hw⟩ | ⟨b, ws, p, rfl, is, dd, hp, rfl⟩
    · refine call_meetsIn PySem.F.slot_dict_get dd.typeIs PySem.F.entry_dict_get (PySem.F.args_dict_get_3 _ _ _) (meets_dict_get_default (mixKind X.prog X.w) a (kV_is ry) hsys r) ⟨_, dd.mapOf, ?_⟩
      rw [hw]
      exact h v w' _ (I.tok _) q rw'
    · refine call_meetsIn PySem.F.slot_dict_get dd.typeIs PySem.F.entry_dict_get (PySem.F.args_dict_get_3 _ _ _) (meetsH_dict_get_default (deepKind X.prog X.w) a b hsys r) ⟨dk_room hu, toPy k, ws, is, dd, ?_⟩
      rw [hp]
      exact h v _ _ (I.tok _) q rw'
  | none =>
    rw [g] at z h
    rcases z with ⟨κ, vs, ry, dd, hw⟩ | ⟨b, ws, rfl, is, dd, hp⟩
    · refine call_meetsIn PySem.F.slot_dict_get dd.typeIs PySem.F.entry_dict_get (PySem.F.args_dict_get_3 _ _ _) (meets_dict_get_default (mixKind X.prog X.w) a (kV_is ry) hsys r) ⟨_, dd.mapOf, ?_⟩
      rw [hw]
      exact h x r _ (I.tok _) hx rx
    · refine call_meetsIn PySem.F.slot_dict_get dd.typeIs PySem.F.entry_dict_get (PySem.F.args_dict_get_3 _ _ _) (meetsH_dict_get_default (deepKind X.prog X.w) a b hsys r) ⟨dk_room hu, toPy k, ws, is, dd, ?_⟩
      rw [hp]
      exact h x r _ (I.tok _) hx rx
theorem len_dicPut (kvs : List (D × D)) (k v : D) : (dicPut kvs k v).length ≤ kvs.length + 1 := by
  unfold dicPut
  split
  · rw [List.length_map]; omega
  · simp
theorem len_putT (zs : List (PyData × Addr × V)) (k : PyData) (b : Addr) (v : V) : (putT zs k b v).length ≤ zs.length + 1 := by
  unfold putT
  split
  · rw [List.length_map]; omega
  · simp
theorem putT_ne (zs : List (PyData × Addr × V)) (k : PyData) (b : Addr) (v : V) : putT zs k b v ≠ [] := by
  unfold putT
  split
  · rename_i h
    intro e
    cases zs with
    | nil => cases h
    | cons z zs => cases e
  · intro e
    exact absurd (List.append_eq_nil_iff.mp e).2 (List.cons_ne_nil _ _)
/-- d[k] = v -/
theorem x_setItem {d : D} {x : V} {r : Value} {Q : Unit → Shared → Prop} (hu : A.units + 64 < cLine) (I : Inv X pins σ H s) (hsys : (a == sysModules) = false) (mu : Mut (H a)) (hl : kvs.length < sizeLine) (V0 : Vw X Hf s.heap a kvs k y u) (hx : IsD X.K X.mw Hf d x) (rx : RelV x r)
    (h : ∀ o' s', DicAt X.K X.mw Hf (dicPut kvs k d) a o' → Inv X pins σ (upd H a o') s' → Q () s') : wpAny (model X.prog X.w) A (setItem (.ref a) u r) Q E s := by
  cases V0 with
  | flat κ xs vs ek ey ry r0 rel dd =>
    subst ek
    have hz : vs.length ≤ sizeLine := by rw [← rel.length, r0.len]; omega
    refine wpAny_setItem_pairs (hsz := hz) (kV_is ry) dd fun h' dd' hs => ?_
    have hl2 : (putK xs κ x).length ≤ sizeLine := by have := length_putK xs κ x; rw [r0.len] at this; omega
    have he : ∃ q, h'.get? a = some q := let ⟨q, _, _, hq, _⟩ := dd'; ⟨q, hq⟩
    exact h _ _ (.inl ⟨_, rfl, r0.put κ hx⟩) (d_write I mu hs he (dk_new hl2 hsys (rel.put κ rx) dd'))
  | deep b zs ws ey eu kd t is r0 rel dd =>
    subst eu
    have hz : ws.length ≤ sizeLine := by rw [← Paired.length rel, r0.len]; omega
    refine wpAny_setItem_heap (hsz := hz) (dk_room hu) is dd fun h' dd' hs => ?_
    have hl2 : (putT zs (toPy k) b x).length ≤ sizeLine := by have := len_putT zs (toPy k) b x; rw [r0.len] at this; omega
    obtain ⟨q, es, ep, hq, h2, h3, h4, _, h5⟩ := dd'
    refine h _ _ (.inr ⟨_, rfl, r0.put t kd hx⟩) (d_write I mu hs ⟨q, hq⟩ ?_)
    refine ⟨⟨putT_ne _ _ _ _, hsys, hl2, _, rel.put (toPy k) b rx, q, es, ep, hq, h2, h3, h4, h5⟩, ⟨q, hq⟩, fun g1 g2 ⟨p0, p1, p2, ys, p3, o1, e1, e2, p4, p5⟩ kk => ⟨p0, p1, p2, ys, p3, o1, e1, e2, kk _ p4, p5⟩⟩
end
end PD

namespace PD
open PySem PySem.Spec L2
open PyProof.Rows hiding St

/-! ## dicts in expressions and statements -/
noncomputable def dIx : D → D → Out D
  | .dic kvs, k => chk (DKey kvs k) (match dicGet kvs k with
    | some d => .ok d
    | none => .stuck)
  | x, k => dIxS x k
theorem dkey_flat {K : PySem.W.Frag} {mg : Mg} {Hf H : Hp} {kvs : List (D × D)} {k : D} {y : V} (d : DKey kvs k) (h : IsR K mg Hf H k y) : IsD K mg Hf k y := by
  rcases d with ⟨f, _⟩ | ⟨t, _⟩
  · cases k <;> first | exact h | cases f
  · obtain ⟨xs, e⟩ := t.tup
    cases k <;> first | exact h | (simp [toPy] at e; done)
/-- the dict that is read -/
def RdD (X : Cx) (Hf H : Hp) (kvs : List (D × D)) (k : D) (a : Addr) (y : V) : Prop := ∃ o, Same Hf H ∧ Rd H a o ∧ DicAt X.K X.mw Hf kvs a o ∧ IsD X.K X.mw Hf k y ∧ DKey kvs k
def rIxD (X : Cx) : R2 := fun x y H Q => ∃ a Hf kvs k d, x = .ref a ∧ RdD X Hf H kvs k a y ∧ dicGet kvs k = some d ∧ ∀ v, IsD X.K X.mw Hf d v → Q v H
section
variable {X : Cx}
theorem ty_dict {pins : List (Addr × Obj)} {σ : St} {H Hf : Hp} {s : Shared} {kvs : List (D × D)} {a : Addr} {o : HO} (I : Inv X pins σ H s) (hd : Rd H a o) (hk : DicAt X.K X.mw Hf kvs a o) : s.TypeIs (.ref a) "dict" ∧ (∀ b, Value.ref a = .ref b → ∃ ob, s.heap.get? b = some ob ∧ ob.dict = none) := by
  have ok := hd.ok I.hok
  rcases hk with ⟨xs, rfl, r⟩ | ⟨zs, rfl, r⟩
  · obtain ⟨z, hsys, vs, rel, ob, es, ep, h1, h2, _⟩ := (show ObjOk X.prog X.w H s.heap a (.dK xs) from ok)
    exact ⟨⟨ob, h1, h2.1⟩, fun b q => by cases q; exact ⟨ob, h1, h2.2.1⟩⟩
  · obtain ⟨hne, hsys, z, ws, rel, ob, es, ep, h1, h2, _⟩ := (show ObjOk X.prog X.w H s.heap a (dT X.w a zs) from ok).1
    exact ⟨⟨ob, h1, h2.1⟩, fun b q => by cases q; exact ⟨ob, h1, h2.2.1⟩⟩
theorem ix_dic (hu : X.A.units + 64 < cLine) : IxR X (rIxD X) := by
  intro value slice pins s σ H x y v u Q I rx ry h hs
  obtain ⟨a, Hf, kvs, k, d, rfl, ⟨o, sm, hd, hk, ky, dk⟩, g, q⟩ := h
  cases rx
  obtain ⟨_, _, V0⟩ := view I sm hd hk ky ry dk
  exact tail_any (ty_dict I hd hk).1 PySem.F.slot_dict_getitem.lookup (x_getItem hu I V0 g fun v w' s' I' q' rw' => ⟨v, H, I', rw', q v q'⟩) hs
theorem px_ix {kk : Nat} {g : G} {E : WX} {Γ Γ1 Γ2 : List Bool} {pos : Pos} {a b : Expr} {fa fb : Env → Out D} (hr : Room kk X.A) (ha : PX X g E Γ a Γ1 .rd fa) (hb : PX X g E Γ1 b Γ2 .rd fb) (hs : PlainIx b) : PX X g E Γ (.Subscript a b pos) Γ2 .fr (e2 dIx fa fb) := by
  refine ⟨hb.le.trans ha.le, (pe_ix (ix_seq.or (ix_dic hr.units)) ha.pe hb.pe hs).imp fun σ H Q ⟨ρ, Hf, R, k⟩ => ⟨ρ, Hf, R, ?_⟩⟩
  refine tG.bind hb.le k fun x F1 H1 s1 s2 R1 k1 v hv => ⟨ρ, F1, R1, ?_⟩
  refine tG.bind (Le.refl _) k1 fun y F2 H2 s3 s4 R2 k2 u hu => ?_
  replace hv := IsR.mono s3 s4 hv
  unfold dIx at k2
  split at k2
  · rename_i _ kvs
    refine .inr ?_
    by_cases c : DKey kvs y
    · rw [chk_pos c] at k2
      obtain ⟨p, o, rfl, q, r⟩ := hv
      cases gg : dicGet kvs y with
      | none => rw [gg] at k2; exact k2.elim
      | some d =>
        rw [gg] at k2
        exact ⟨p, F2, kvs, y, d, rfl, ⟨o, R2.same, q, r, dkey_flat c hu, c⟩, gg, fun v hv => k2 F2 H2 (Same.refl _) (Same.refl _) R2 v hv⟩
    · rw [chk_neg c] at k2; exact k2.elim
  · refine .inl ?_
    unfold dIxS at k2
    split at k2
    · rename_i ds i _
      obtain ⟨p, xs, rfl, q, r⟩ := hv
      cases hu
      cases e : atI ds i with
      | none => rw [e] at k2; exact k2.elim
      | some d =>
        rw [e] at k2
        obtain ⟨z, ez, hz⟩ := r.atI e
        exact .inl ⟨p, xs, i, z, rfl, rfl, .of q, ez, k2 F2 H2 (Same.refl _) (Same.refl _) R2 z hz⟩
    · rename_i ds i _
      simp only [Res, IsR, IsD] at hv
      obtain ⟨p, xs, rfl, q, r⟩ := hv
      cases hu
      cases e : atI ds i with
      | none => rw [e] at k2; exact k2.elim
      | some d =>
        rw [e] at k2
        obtain ⟨z, ez, hz⟩ := r.atI e
        exact .inr (.inl ⟨p, xs, i, z, rfl, rfl, Same.seqT R2.same q, ez, k2 F2 H2 (Same.refl _) (Same.refl _) R2 z hz⟩)
    · rename_i ns i _
      simp only [Res, IsR, IsD] at hv
      obtain ⟨p, rfl, q⟩ := hv
      cases hu
      cases e : atI ns i with
      | none => rw [e] at k2; exact k2.elim
      | some n =>
        rw [e] at k2
        have ez : atI (ns.map V.int) i = some (V.int n) := by
          unfold L2.atI at e ⊢
          rw [List.length_map]
          cases q : ixN ns.length i with
          | none => rw [q] at e; cases e
          | some j =>
            rw [q] at e
            show (ns.map V.int)[j]? = _
            rw [List.getElem?_map, show ns[j]? = some n from e]; rfl
        exact .inl ⟨p, _, i, _, rfl, rfl, R2.same.seq q, ez, k2 F2 H2 (Same.refl _) (Same.refl _) R2 _ (show IsD _ _ _ _ _ by simp only [IsD])⟩
    · rename_i z i _
      simp only [Res, IsR, IsD] at hv
      cases hu
      by_cases l : z.length ≤ sizeLine
      · rw [chk_pos l] at k2
        cases e : atI z.cps.toList i with
        | none => rw [e] at k2; exact k2.elim
        | some c =>
          rw [e] at k2
          exact .inr (.inr ⟨z, i, c, hv, rfl, l, e, k2 F2 H2 (Same.refl _) (Same.refl _) R2 _ (show IsD _ _ _ _ _ by simp only [IsD])⟩)
      · rw [chk_neg l] at k2; exact k2.elim
    · exact k2.elim
/-- k in d -/
noncomputable def dInD (neg : Bool) : D → D → Out D
  | k, .dic kvs => chk (DKey kvs k) (.ok (.bl (if neg then !(dicGet kvs k).isSome else (dicGet kvs k).isSome)))
  | _, _ => .stuck
def rInD (X : Cx) (neg : Bool) : R2 := fun y x H Q => ∃ a Hf kvs k, x = .ref a ∧ RdD X Hf H kvs k a y ∧ Q (.bl (if neg then !(dicGet kvs k).isSome else (dicGet kvs k).isSome)) H
theorem op_inD (hu : X.A.units + 64 < cLine) : OpR X (compareOp .In) (rInD X false) := by
  intro pins s σ H y x u v Q I ry rx h
  obtain ⟨a, Hf, kvs, k, rfl, ⟨o, sm, hd, hk, ky, dk⟩, q⟩ := h
  cases rx
  obtain ⟨hsys, _, V0⟩ := view I sm hd hk ky ry dk
  exact x_in hu I hsys V0 fun s' I' => ⟨.bl _, H, I', rfl, q⟩
theorem op_notInD (hu : X.A.units + 64 < cLine) : OpR X (compareOp .NotIn) (rInD X true) := by
  intro pins s σ H y x u v Q I ry rx h
  obtain ⟨a, Hf, kvs, k, rfl, ⟨o, sm, hd, hk, ky, dk⟩, q⟩ := h
  cases rx
  obtain ⟨hsys, _, V0⟩ := view I sm hd hk ky ry dk
  exact x_notIn hu I hsys V0 fun s' I' => ⟨.bl _, H, I', rfl, q⟩
theorem opd_inD {m : Md} {f : Value → Value → Sem Value} {neg : Bool} (ho : OpR X f (rInD X neg)) : OpD X f m (dInD neg) := by
  refine ⟨_, ho, fun g E Γ ρ σ Hf H x y v u Q R hx hy k => ?_⟩
  unfold dInD at k
  split at k
  · rename_i kvs
    by_cases c : DKey kvs x
    · rw [chk_pos c] at k
      obtain ⟨p, o, rfl, q, r⟩ := hy
      exact ⟨p, Hf, kvs, x, rfl, ⟨o, R.same, q, r, dkey_flat c hx, c⟩, k Hf H (Same.refl _) (Same.refl _) R _ (Res.dat R.same rfl (by simp only [IsD]))⟩
    · rw [chk_neg c] at k; exact k.elim
  · exact k.elim
noncomputable def dIn : D → D → Out D := dOr (dInL false) (dOr dInS (dInD false))
noncomputable def dNotIn : D → D → Out D := dOr (dInL true) (dOr dNotInS (dInD true))
theorem od_in {m : Md} {kk : Nat} (hr : Room kk X.A) : OpD X (compareOp .In) m dIn := od_inL.or (od_inS.or (opd_inD (op_inD hr.units)))
theorem od_notin {m : Md} {kk : Nat} (hr : Room kk X.A) : OpD X (compareOp .NotIn) m dNotIn := od_notinL.or (od_notinS.or (opd_inD (op_notInD hr.units)))
/-- {} -/
def cDic0 : Out D := .ok (.dic [])
theorem px_dnew {g : G} {E : WX} {Γ : List Bool} {pos : Pos} : PX X g E Γ (.Dict [] [] pos) Γ .ow (eC (.dic [])) := by
  refine ⟨Le.refl _, pe_dnewK.imp fun σ H Q ⟨ρ, Hf, R, k⟩ p n => ?_⟩
  obtain ⟨t2, R2, n0, nf, ap⟩ := R.newO (.dK []) n
  exact k _ _ (Same.refl _) t2 R2 (.ref p) ⟨⟨p, .dK [], rfl, n0, nf, upd_same, .inl ⟨[], rfl, by simp only [IsKVs]⟩⟩, fun i e ow e1 m _ e2 => ap i e ow e1 m e2⟩
/-- d.get(k, x) -/
noncomputable def eGet2 (fd fk fx : Env → Out D) : Env → Out D := fun ρ => (fd ρ).bind fun d => match d with
  | .dic kvs => (fk ρ).bind fun k => (fx ρ).bind fun x => chk (DKey kvs k) (.ok ((dicGet kvs k).getD x))
  | _ => .stuck
def tXGet2 (X : Cx) (td ty tx : TE) : TE := fun σ H Q => td σ H fun x H1 => ∃ a o kvs Hf, x = .ref a ∧ Rd H1 a o ∧ DicAt X.K X.mw Hf kvs a o ∧ ty σ H1 fun y H2 => tx σ H2 fun z H3 => ∃ Hf kvs k d, RdD X Hf H3 kvs k a y ∧ IsD X.K X.mw Hf d z ∧ ∀ v, IsD X.K X.mw Hf ((dicGet kvs k).getD d) v → Q v H3
theorem pe_xget2 {o e f : Expr} {apos cpos : Pos} {td ty tx : TE} (hu : X.A.units + 64 < cLine) (ho : PE X o td) (he : PE X e ty) (hf : PE X f tx) (m : M2 X o "get" apos e f cpos) : PE X (.Call (.Attribute o "get" apos) [e, f] [] cpos) (tXGet2 X td ty tx) := by
  refine ⟨fun pins s σ H Q I h => ?_⟩
  refine wpAny_Call_method m.base m.few m.line PySem.F.plainAttrs_dict PySem.F.slot_dict_get PySem.F.type_dict_get (thn (ho.run pins s σ H _ I h) fun u s1 ⟨x, H1, I1, rx, a, ob, kvs0, Hf0, ex, rd0, dk0, q1⟩ => ?_)
  subst ex
  obtain rfl : u = Value.ref a := rx
  obtain ⟨t1, t2⟩ := ty_dict I1 rd0 dk0
  refine ⟨t1, t2, ?_⟩
  rw [m.trees]
  refine Calls.callWith_builtin rfl (Calls.evalArgs_plain (Calls.spliced_cons (thn (he.run pins s1 σ H1 _ I1 q1) fun iv s2 ⟨y, H2, I2, ry, q2⟩ =>
    Calls.spliced_cons (thn (hf.run pins s2 σ H2 _ I2 q2) fun fv s3 ⟨z, H3, I3, rz, Hf, kvs, k, d, ⟨o, sm, hd, hk, ky, dk⟩, hz, q3⟩ => Calls.spliced_nil ?_))))
  obtain ⟨hsys, _, V0⟩ := view I3 sm hd hk ky ry dk
  exact x_get2 hu I3 hsys V0 hz rz fun v w' s4 I4 hv rw' => ⟨v, H3, I4, rw', q3 v hv⟩
theorem px_get2 {kk : Nat} {g : G} {E : WX} {Γ Γ1 Γ2 Γ3 : List Bool} {apos pos : Pos} {a b c : Expr} {fa fb fc : Env → Out D} (hr : Room kk X.A) (ha : PX X g E Γ a Γ1 .rd fa) (hb : PX X g E Γ1 b Γ2 .rd fb) (hc : PX X g E Γ2 c Γ3 .fr fc) (m : M2 X a "get" apos b c pos) :
    PX X g E Γ (.Call (.Attribute a "get" apos) [b, c] [] pos) Γ3 .fr (eGet2 fa fb fc) := by
  refine ⟨hc.le.trans (hb.le.trans ha.le), (pe_xget2 hr.units ha.pe hb.pe hc.pe m).imp fun σ H Q ⟨ρ, Hf, R, k⟩ => ⟨ρ, Hf, R, ?_⟩⟩
  refine tG.bind (hc.le.trans hb.le) k fun x F1 H1 s1 s2 R1 k1 v hv => ?_
  cases x with
  | dic kvs =>
    have hv' : IsR X.K X.mw F1 H1 (.dic kvs) v := hv
    obtain ⟨p, o, rfl, q, r⟩ := hv
    refine ⟨p, o, kvs, F1, rfl, q, r, ρ, F1, R1, ?_⟩
    refine tG.bind hc.le k1 fun y F2 H2 s3 s4 R2 k2 u hu => ⟨ρ, F2, R2, ?_⟩
    refine tG.bind (Le.refl _) k2 fun z F3 H3 s5 s6 R3 k3 w hw => ?_
    by_cases c : DKey kvs y
    · rw [chk_pos c] at k3
      obtain ⟨p', o', e, q', r'⟩ := IsR.mono (s3.trans s5) (s4.trans s6) hv'
      obtain rfl : p = p' := V.ref.inj e
      exact ⟨F3, kvs, y, z, ⟨o', R3.same, q', r', dkey_flat c (IsR.mono s5 s6 hu), c⟩, hw, fun v hv => k3 F3 H3 (Same.refl _) (Same.refl _) R3 v hv⟩
    · rw [chk_neg c] at k3; exact k3.elim
  | _ => exact k1.elim
/-! ### x[k] = v, x owned -/
def rSetD (X : Cx) : V → V → V → Hp → (Hp → Prop) → Prop := fun o y x H Q => ∃ a Hf kvs k d, o = .ref a ∧ RdD X Hf H kvs k a y ∧ Mut (H a) ∧ kvs.length < sizeLine ∧ IsD X.K X.mw Hf d x ∧ ∀ o', DicAt X.K X.mw Hf (dicPut kvs k d) a o' → Q (upd H a o')
theorem set_dic (hu : X.A.units + 64 < cLine) : PSet X (rSetD X) := by
  intro pins s σ H o y x ov iv u Q I ro ri rv h
  obtain ⟨a, Hf, kvs, k, d, rfl, ⟨ob, sm, hd, hk, ky, dk⟩, mu, hl, hx, q⟩ := h
  cases ro
  obtain ⟨hsys, _, V0⟩ := view I sm hd hk ky ri dk
  exact x_setItem hu I hsys mu hl V0 hx rv fun o' s' da I' => ⟨_, I', q o' da⟩
theorem PSet.or {r r' : V → V → V → Hp → (Hp → Prop) → Prop} (h : PSet X r) (h' : PSet X r') : PSet X (fun o i v H Q => r o i v H Q ∨ r' o i v H Q) := by
  intro pins s σ H o y x ov iv u Q I ro ri rv q
  rcases q with q | q
  · exact h pins s σ H o y x ov iv u Q I ro ri rv q
  · exact h' pins s σ H o y x ov iv u Q I ro ri rv q
theorem mut_of_own {K : PySem.W.Frag} {mg : Mg} {Hf H : Hp} {kvs : List (D × D)} {a : Addr} {o : HO} (e : H a = some o) (h : DicAt K mg Hf kvs a o) : Mut (H a) := by
  rw [e]
  rcases h with ⟨xs, rfl, _⟩ | ⟨zs, rfl, _⟩ <;> exact True.intro
theorem IsDs.set {K : PySem.W.Frag} {mg : Mg} {H : Hp} {d : D} {v : V} (hv : IsD K mg H d v) : ∀ {ds : List D} {vs : List V} (j : Nat), IsDs K mg H ds vs → IsDs K mg H (ds.set j d) (vs.set j v)
  | [], _, _, h => by simp only [IsDs] at h; subst h; simp [IsDs]
  | x :: ds, _, 0, h => by
    simp only [IsDs] at h
    obtain ⟨u, us, rfl, q, r⟩ := h
    simp only [List.set_cons_zero, IsDs]
    exact ⟨_, _, rfl, hv, r⟩
  | x :: ds, _, j + 1, h => by
    simp only [IsDs] at h
    obtain ⟨u, us, rfl, q, r⟩ := h
    simp only [List.set_cons_succ, IsDs]
    exact ⟨_, _, rfl, q, IsDs.set hv j r⟩
noncomputable def putO : D → D → D → Out D
  | .lst xs, .int j, v => match ixN xs.length j with
    | some n => .ok (.lst (xs.set n v))
    | none => .stuck
  | .dic kvs, k, v => chk (DKey kvs k ∧ kvs.length < sizeLine) (.ok (.dic (dicPut kvs k v)))
  | _, _, _ => .stuck
noncomputable def sPut (i : Nat) (fk fv : Env → Out D) : Env → SO := fun ρ => oS (fv ρ) fun v => oS (eV i ρ) fun x => oS (fk ρ) fun k => oS (putO x k v) fun y => .nx (ρ.set i (some y))
theorem psx_put {kk : Nat} {g : G} {E : WX} {ro : Bool} {Γl Γ Γ1 Γ2 : List Bool} {pos pos' p : Pos} {i : Nat} {x : Str} {b c : Expr} {fb fc : Env → Out D} (hr : Room kk X.A) (h : PE X (.Name x p) (tVar i)) (hc : PX X g E Γ c Γ1 .fr fc) (hb : PX X g E Γ1 b Γ2 .rd fb) (o : Γ2.getD i false = true)
    (ha : ∀ v, assign (.Subscript (.Name x p) b pos') X.env v = (do
      let ov ← holding [v] (eval (.Name x p) X.env)
      let iv ← holding [v, ov] (eval b X.env)
      standAt pos'
      holding [v, ov, iv] (setItem ov iv v)
      release [v, ov, iv] []) := by intro _; rfl) (hs : swapsWithSole [.Subscript (.Name x p) b pos'] c pos.line X.env = pure false := by rfl) (hw : swappedStores [.Subscript (.Name x p) b pos'] c X.env = pure none := by rfl)
    (h1 : (assignEach [.Subscript (.Name x p) b pos'] X.env).map (·.2) = [assign (.Subscript (.Name x p) b pos') X.env] := by rfl) :
    PSx X g E ro Γl Γ (.Assign [.Subscript (.Name x p) b pos'] c pos) Γ2 (sPut i fb fc) := by
  refine ⟨(ps_asg hc.pe (pg_sub h hb.pe (PD.PSet.or set_list (set_dic hr.units)) ha) hs hw h1).imp fun Dn σ H ⟨ρ, Hf, R, q⟩ => ⟨ρ, Hf, R, ?_⟩⟩
  unfold sPut at q
  refine tG.toS q fun d F1 H1 s1 s2 R1 k1 v hv => ?_
  cases he : eV i ρ with
  | exc x => exact (eV_nx he).elim
  | stuck => rw [he] at k1; exact k1.elim
  | ok dx =>
  rw [he] at k1
  have e := eV_ok he
  have oo : Own Γ1 i := hb.le i o
  obtain ⟨vx, es, io⟩ := R1.own i _ oo e
  refine ⟨vx, es, ρ, F1, R1, ?_⟩
  refine tG.toS k1 fun y F2 H2 s3 s4 R2 k2 u hu => ?_
  obtain ⟨vx', es', io'⟩ := R2.own i _ o e
  rw [es] at es'
  obtain rfl : vx = vx' := Option.some.inj (Option.some.inj es')
  unfold putO at k2
  split at k2
  · rename_i _ xs j
    cases hu
    obtain ⟨p, ys, rfl, z0, zf, qH, r⟩ := io'
    cases hix : ixN xs.length j with
    | none => rw [hix] at k2; exact k2.elim
    | some n =>
      rw [hix] at k2
      refine .inl ⟨p, ys, j, n, rfl, rfl, qH, by rw [r.len]; exact hix, ?_⟩
      exact k2 σ F2 _ (R2.wr o e rfl es z0 zf ⟨p, _, rfl, z0, zf, upd_same, IsDs.set (IsD.mono s3 hv) n r⟩)
  · rename_i _ _ kvs
    obtain ⟨p, ob, rfl, z0, zf, qH, r⟩ := io'
    by_cases c : DKey kvs y ∧ kvs.length < sizeLine
    · rw [chk_pos c] at k2
      refine .inr ⟨p, F2, kvs, y, d, rfl, ⟨ob, R2.same, .inl qH, r, dkey_flat c.1 hu, c.1⟩, mut_of_own qH r, c.2, IsD.mono s3 hv, fun o' da => ?_⟩
      exact k2 σ F2 _ (R2.wr o e rfl es z0 zf ⟨p, o', rfl, z0, zf, upd_same, da⟩)
    · rw [chk_neg c] at k2; exact k2.elim
  · exact k2.elim
end
/-! evaluation -/
theorem dIx_lst {ds : List D} {k : Nat} {d : D} (h : ds[k]? = some d) : dIx (.lst ds) (.int k) = .ok d := by
  show (match atI ds (k : Nat) with | some n => Out.ok n | none => .stuck) = _
  rw [atI_nat h]
theorem dIx_tup {ds : List D} {k : Nat} {d : D} (h : ds[k]? = some d) : dIx (.tup ds) (.int k) = .ok d := by
  show (match atI ds (k : Nat) with | some n => Out.ok n | none => .stuck) = _
  rw [atI_nat h]
theorem dIx_scr {ns : List Int} {k : Nat} {n : Int} (h : ns[k]? = some n) : dIx (.scr ns) (.int k) = .ok (.int n) := by
  show (match atI ns (k : Nat) with | some n => Out.ok (D.int n) | none => .stuck) = _
  rw [atI_nat h]
end PD

namespace PD
open PySem PySem.Calls PyProof.Rows
open PySem.W (EachIs AllAlike Sortable SortsAt dataKind dataType dataLt alike alikeAll dataLe keyToks keyToksAll)

/-! ## sorting tuples, empty ones among them -/
section
variable {prog : Program} {w : World} {A : Around} {E : Value → Shared → Prop} {s : Shared}
theorem call_tuple_lt {Q : Value → Shared → Prop} {l b : Addr} {items items2 : Array Value} {e r : Nat → Bool} (hl : s.heap.IsTuple l items) (hb : s.heap.IsTuple b items2)
    (he : ∀ j (h1 : j < items.size) (h2 : j < items2.size), SeqAt.EqAt A.in1 s items[j] items2[j] (e j)) (hr : ∀ j (h1 : j < items.size) (h2 : j < items2.size), e j = false → SeqAt.RcLt A.in1 s items[j] items2[j] (r j))
    (h : Q (.bool (SeqAt.firstLt e r (decide (items.size < items2.size)) (List.range (min items.size items2.size)))) s) : wpAny (model prog w) A (call (.builtin "tuple.__lt__") [.ref l, .ref b]) Q E s := by
  obtain ⟨⟨cls, dd, data, sl⟩, ho, hc, n, hd⟩ := id hl
  obtain ⟨⟨cls2, dd2, data2, sl2⟩, ho2, hc2, n2, hd2⟩ := id hb
  simp only at hc hd hc2 hd2
  subst hc hd hc2 hd2
  exact call_meets F.slot_tuple_lt ⟨_, ho, rfl⟩ F.entry_tuple_lt (F.args_tuple_lt_2 _ _) (SeqAt.tuple_ltAt l b items items2 n n2 dd dd2 sl sl2 e r) ⟨ho, ho2, he, hr, h⟩
theorem oneLt_tup {xs ys : List PyData} {a b : Value} {as bs : List Addr} {Q : Bool → Shared → Prop} (ra : Reads s.heap a (.tuple xs) as) (rb : Reads s.heap b (.tuple ys) bs) (h : alike (.tuple xs) (.tuple ys) = true)
    (hu : A.units + min (PyData.tuple xs).depth (PyData.tuple ys).depth < cLine) (hq : Q (dataLt (.tuple xs) (.tuple ys)) s) : wpAny (model prog w) A (oneLt' true a b) Q E s := by
  have hal : alikeAll xs ys = true := by simpa [alike] using h
  cases ra with
  | @tuple l o vs n _ as₁ h1 h2 h3 h4 =>
    cases rb with
    | @tuple l' o' vs' n' _ bs₁ k1 k2 k3 k4 =>
      have n1 : vs.size = xs.length := by simpa using SeqAt.ReadsAll.length _ _ _ h4
      have n2 : vs'.size = ys.length := by simpa using SeqAt.ReadsAll.length _ _ _ k4
      rw [PySem.W.dataLt_tuple, ← PySem.W.firstLt_toks xs ys hal, ← n1, ← n2] at hq
      rw [oneLt'_eq]
      simp only [if_true]
      refine wpAny_bind (wpAny_cRoomFor (SeqAt.room_here hu) ?_)
      refine wpAny_bind (wpAny_callSpecialIfBound?_slot (T := "tuple") ⟨_, h1, h2⟩ F.slot_tuple_lt (call_tuple_lt (e := SeqAt.pairEq xs ys) (r := fun j => dataLt (xs.getD j .none) (ys.getD j .none)) ⟨_, h1, h2, _, h3⟩ ⟨_, k1, k2, _, k3⟩ (fun j j1 j2 => ?_) (fun j j1 j2 hj => ?_) ?_))
      · have := PySem.W.eqAt_alikeAll xs ys A.in1 s vs.toList vs'.toList _ _ h4 k4 hal (SeqAt.room_in hu) j (by simpa using j1) (by simpa using j2)
        simpa using this
      · have := PySem.W.rcLt_alikeAll xs ys A.in1 s vs.toList vs'.toList _ _ h4 k4 hal (SeqAt.room_in hu) j (by simpa using j1) (by simpa using j2) hj
        simpa using this
      · exact wpAny_truthy_bool hq
def fullT : PyData → Bool
  | .tuple (_ :: _) => true
  | _ => false
theorem firsts_any : ∀ (vs : List Value) (ds : List PyData) {Q : List (Option Value) → Shared → Prop}, EachIs (fun v d => ∃ as, Reads s.heap v d as) vs ds → (∀ d ∈ ds, ∃ xs, d = .tuple xs) →
    (∀ fs : List (Option Value), EachIs (fun f d => f.isSome = fullT d) fs ds → Q fs s) → wpAny (model prog w) A (vs.mapM firstOfTuple') Q E s
  | [], [], Q, _, _, h => by rw [List.mapM_nil]; exact wpAny_pure (h [] .nil)
  | v :: vs, d :: ds, Q, .cons ⟨as, r⟩ t, ht, h => by
    obtain ⟨xs, rfl⟩ := ht d List.mem_cons_self
    rw [List.mapM_cons]
    refine wpAny_bind ?_
    cases r with
    | @tuple a o its n _ _ ho hc hd hr =>
      rw [PySem.W.kas_first_eq]
      refine wpAny_bind (PySem.W.Looks.here (show PySem.W.Looks _ s.heap (typeOf (.ref a)) o.cls from (PySem.W.Looks.ld ho).andThen .now) ?_)
      rw [hc, if_neg (by first | decide | simp)]
      refine wpAny_bind (listItems_at ho hd (wpAny_pure ?_))
      refine wpAny_bind (firsts_any vs ds t (fun d hd => ht d (List.mem_cons_of_mem _ hd)) fun fs ef => wpAny_pure (h _ (.cons ?_ ef)))
      have hl := SeqAt.ReadsAll.length _ _ _ hr
      cases xs with
      | nil =>
        have : its = #[] := by
          rw [Array.length_toList] at hl
          exact Array.eq_empty_of_size_eq_zero hl
        subst this
        rfl
      | cons x xs =>
        have : 0 < its.size := by
          rw [Array.length_toList] at hl
          rw [hl]; simp
        rw [Array.getElem?_eq_getElem this]
        rfl
theorem each_all {fs : List (Option Value)} {ds : List PyData} (h : EachIs (fun f d => f.isSome = fullT d) fs ds) : (fs.all fun f => f.isSome) = ds.all fullT := by
  induction h with
  | nil => rfl
  | cons h _ ih => rw [List.all_cons, List.all_cons, h, ih]
/-- tuples, some of them empty -/
theorem sortsAt_mixed {vs : List Value} {ds : List PyData} (e : EachIs (fun v d => ∃ as, Reads s.heap v d as) vs ds) (hal : AllAlike ds) (ht : ∀ d ∈ ds, ∃ xs, d = .tuple xs) (hn : ds.all fullT = false) (hu : ∀ d, d ∈ ds → A.units + d.depth < cLine) :
    SortsAt prog w A s (dataKind s.heap ds) vs := by
  have room : ∀ {d d' : PyData}, d ∈ ds → A.units + min d.depth d'.depth < cLine := fun {d d'} hd => Nat.lt_of_le_of_lt (Nat.add_le_add_left (Nat.min_le_left _ _) _) (hu d hd)
  have kk : ∀ (h2 : 2 ≤ vs.length) (E : Value → Shared → Prop) {Q : SortKind → Shared → Prop}, Q (if fullT (ds.headD .none) = true then general' else oneType') s → wpAny (model prog w) A (keyKind' vs.toArray) Q E s := by
    intro h2 E Q hq
    rw [kat_kind_eq, List.mapM_toArray, map_eq_pure_bind]
    refine wpAny_bind (wpAny_bind (firsts_any vs ds e ht fun fs ef => wpAny_pure ?_))
    have a1 := each_all ef
    rw [if_neg (by rw [List.all_toArray, a1, hn]; exact Bool.false_ne_true)]
    cases ef with
    | nil =>
      cases e
      exact absurd h2 (by simp)
    | @cons f d fs ds' hf tf =>
      have h0 : ((f :: fs).toArray[0]?.bind id) = f := by simp
      rw [h0]
      have hq' : Q (if fullT d = true then general' else oneType') s := hq
      by_cases c : fullT d = true
      · rw [if_pos (by rw [hf]; exact c)]
        rw [if_pos c] at hq'
        exact wpAny_pure hq'
      · rw [if_neg (by rw [hf]; exact c)]
        rw [if_neg c] at hq'
        rw [oneTypeOnly'_eq, List.mapM_toArray, map_eq_pure_bind]
        refine wpAny_bind (wpAny_bind (wpAny_bind (PySem.W.kas_mapM (r := Value.type "tuple") _ (fun v hv Q' hq => ?_) (wpAny_pure ?_))))
        · obtain ⟨d', hd', as, r⟩ := e.left v hv
          obtain ⟨xs, rfl⟩ := ht d' hd'
          exact (PySem.W.looks_reads r).here hq
        · have hall : ((List.map (fun _ => Value.type "tuple") vs).toArray.all fun x => x == Value.type "tuple") = true := by
            simp only [List.all_toArray, List.all_map, List.all_eq_true]
            intro _ _
            exact beq_self_eq_true _
          cases vs with
          | nil => cases e
          | cons v vs =>
            have h0 : (List.map (fun _ => Value.type "tuple") (v :: vs)).toArray[0]? = some (Value.type "tuple") := by simp
            rw [h0]
            simp only [hall, if_true]
            exact wpAny_pure (wpAny_pure hq')
  refine ⟨fun v hv => ?_, if fullT (ds.headD .none) = true then general' else oneType', ?_, fun h2 E Q hq => kk h2 E hq⟩
  · obtain ⟨d, hd, as, r⟩ := e.left v hv
    exact ⟨_, PySem.W.dataKind_some hal hd r⟩
  · intro E x y a b Q ha hb hq
    obtain ⟨d, as, hd, ra, rfl⟩ := PySem.W.dataKind_inv ha
    obtain ⟨d', as', hd', rb, rfl⟩ := PySem.W.dataKind_inv hb
    obtain ⟨xs, rfl⟩ := ht d hd
    obtain ⟨ys, rfl⟩ := ht d' hd'
    have hq' : Q (dataLt (.tuple xs) (.tuple ys)) s := hq
    by_cases c : fullT (ds.headD .none) = true
    · rw [if_pos c]
      show wpAny (model prog w) A (oneLt' false x y) Q E s
      exact PySem.W.oneLt_alike (f := false) (fun q => nomatch q) ra rb (hal _ hd _ hd') (fun q => nomatch q) (room hd) hq'
    · rw [if_neg c]
      rw [keyLt'_oneType]
      exact oneLt_tup ra rb (hal _ hd _ hd') (room hd) hq'
def SortX (ds : List PyData) : Prop := Sortable ds ∨ ∀ d ∈ ds, ∃ xs, d = .tuple xs
theorem fullT_of {d : PyData} (h : fullT d = true) : ∃ x r, d = .tuple (x :: r) := by
  cases d with
  | tuple xs => cases xs with
    | nil => cases h
    | cons x r => exact ⟨x, r, rfl⟩
  | _ => cases h
theorem sortsAt_any {vs : List Value} {ds : List PyData} (e : EachIs (fun v d => ∃ as, Reads s.heap v d as) vs ds) (hal : AllAlike ds) (hk : SortX ds) (hu : ∀ d, d ∈ ds → A.units + d.depth < cLine) :
    SortsAt prog w A s (dataKind s.heap ds) vs := by
  rcases hk with hk | ht
  · exact SortsAt.data e hal hk hu
  · cases c : ds.all fullT with
    | true => exact SortsAt.data e hal (.inl fun d hd => fullT_of (List.all_eq_true.mp c d hd)) hu
    | false => exact sortsAt_mixed e hal ht c hu
variable {β : Type} {vs : List Value} {bs : List β} {enc : β → PyData} {R : Value → β → Prop}
theorem sorted_any {l : Addr} {Q : Value → Shared → Prop} (hl : s.heap.IsList l vs.toArray) (e : EachIs R vs bs) (er : EachIs (fun v b => ∃ as, Reads s.heap v (enc b) as) vs bs) (hal : AllAlike (bs.map enc)) (hk : SortX (bs.map enc)) (hL : bs.length ≤ sizeLine)
    (hu : ∀ b, b ∈ bs → A.units + 2 + (enc b).depth < cLine) (h : ∀ out, out.length = bs.length → EachIs R out (bs.mergeSort (dataLe false enc)) → Q (.ref (s.heap.objs.size + 1)) { s with heap := sortedAll s.heap vs (List.toArray out) }) :
    wpAny (model prog w) A (call (.builtin "sorted") [.ref l]) Q E s := by
  have er' : EachIs (fun v b => ∃ as, Reads (PySem.W.sortingHeap (PySem.W.copyHeap s.heap vs) (s.heap.objs.size + 1) vs) v (enc b) as) vs bs := er.mono fun _ _ ⟨as, r⟩ => ⟨as, PyProof.Rows.Reads.keeps (fun _ _ => PySem.W.sorting_copy_old) r⟩
  exact PySem.W.sorted_vals hl (sortsAt_any (s := { s with heap := PySem.W.sortingHeap (PySem.W.copyHeap s.heap vs) (s.heap.objs.size + 1) vs }) (PySem.W.each_map (R := fun v d => ∃ as, Reads (PySem.W.sortingHeap (PySem.W.copyHeap s.heap vs) (s.heap.objs.size + 1) vs) v d as) enc er') hal hk (PySem.W.bound_map hu)) (by rw [e.length]; exact hL)
    (h _ (by rw [PySem.W.sortVals_length false rfl]; exact e.length) (PySem.W.sortVals_data false e er' hal))
end
end PD

namespace PD
section
open PySem PySem.Calls PyProof.Rows
open PySem.W (EachIs AllAlike Sortable SortsAt dataKind dataType dataLt alike alikeAll dataLe keyToks keyToksAll)
theorem lexAt_first {e r : Nat → Bool} {z : Bool} : ∀ (k i : Nat), Ob.lexAt e (fun j => !r j) (!z) i k = !SeqAt.firstLt e r z (List.range' i k)
  | 0, i => rfl
  | k + 1, i => by
    rw [Ob.lexAt_succ, List.range'_succ]
    unfold SeqAt.firstLt
    by_cases h : e i = true
    · rw [if_pos h, if_pos h, lexAt_first k (i + 1)]
    · rw [if_neg h, if_neg h]
theorem readsAll_at {h : Heap} : ∀ {xs : List PyData} {vs : List Value} {as : List Addr} (j : Nat) (h1 : j < vs.length) (h2 : j < xs.length), ReadsAll h vs xs as → ∃ as', Reads h vs[j] xs[j] as'
  | x :: xs, v :: vs, _, 0, _, _, r => by
    cases r with
    | cons r1 r2 => exact ⟨_, r1⟩
  | x :: xs, v :: vs, _, j + 1, h1, h2, r => by
    cases r with
    | cons r1 r2 => exact readsAll_at j (by simpa using h1) (by simpa using h2) r2
theorem alikeAll_at : ∀ {xs ys : List PyData} (j : Nat) (h1 : j < xs.length) (h2 : j < ys.length), alikeAll xs ys = true → alike xs[j] ys[j] = true
  | x :: xs, y :: ys, 0, _, _, h => (PySem.W.alike_all_cons h).1
  | x :: xs, y :: ys, j + 1, h1, h2, h => alikeAll_at j (by simpa using h1) (by simpa using h2) (PySem.W.alike_all_cons h).2
/-- a >= b of keys -/
theorem rcGe_key (n : Nat) : ∀ (da db : PyData) (A : Around) (s : Shared) (a b : Value) (as bs : List Addr), da.depth ≤ n → keyP da = true → Reads s.heap a da as → Reads s.heap b db bs → alike da db = true → A.units + n < cLine → Ob.RcOp .GtE A s a b (!dataLt da db) := by
  induction n with
  | zero =>
    intro da db A s a b as bs hn hk ra rb h hu
    cases da with
    | int x =>
      cases db with
      | int y =>
        cases ra; cases rb
        rw [PySem.W.dataLt_int]
        have := Ob.RcOp.ge_int (A := A) (s := s) x y ‹Tok› ‹Tok›
        intro prog w E Q hq
        refine PyProof.Rows.ge_int ?_
        have e : decide (y ≤ x) = !decide (x < y) := by rw [← decide_not]; exact decide_eq_decide.mpr Int.not_lt.symm
        rw [e]; exact hq
      | _ => exact absurd h (by simp [alike])
    | str x =>
      cases db with
      | str y =>
        cases ra; cases rb
        rw [PySem.W.dataLt_str]
        intro prog w E Q hq
        exact PySem.P.ge_str hq
      | _ => exact absurd h (by simp [alike])
    | tuple xs => simp [PyData.depth] at hn
    | _ => exact nomatch hk
  | succ n ih =>
    intro da db A s a b as bs hn hk ra rb h hu
    cases da with
    | int x =>
      cases db with
      | int y =>
        cases ra; cases rb
        rw [PySem.W.dataLt_int]
        intro prog w E Q hq
        refine PyProof.Rows.ge_int ?_
        have e : decide (y ≤ x) = !decide (x < y) := by rw [← decide_not]; exact decide_eq_decide.mpr Int.not_lt.symm
        rw [e]; exact hq
      | _ => exact absurd h (by simp [alike])
    | str x =>
      cases db with
      | str y =>
        cases ra; cases rb
        rw [PySem.W.dataLt_str]
        intro prog w E Q hq
        exact PySem.P.ge_str hq
      | _ => exact absurd h (by simp [alike])
    | tuple xs =>
      cases db with
      | tuple ys =>
        have hal : alikeAll xs ys = true := by simpa [alike] using h
        have hd : PyData.depthAll xs ≤ n := by simpa [PyData.depth] using hn
        cases ra with
        | @tuple l o vs m _ as₁ h1 h2 h3 h4 =>
          cases rb with
          | @tuple l' o' vs' m' _ bs₁ k1 k2 k3 k4 =>
            have n1 : vs.size = xs.length := by simpa using SeqAt.ReadsAll.length _ _ _ h4
            have n2 : vs'.size = ys.length := by simpa using SeqAt.ReadsAll.length _ _ _ k4
            have hu1 : A.in1.units + min (PyData.depthAll xs) (PyData.depthAll ys) < cLine := by
              show A.units + 1 + min (PyData.depthAll xs) (PyData.depthAll ys) < cLine
              have := Nat.min_le_left (PyData.depthAll xs) (PyData.depthAll ys)
              omega
            have q := Ob.RcOp.tuples_ge (A := A) (s := s) (e := SeqAt.pairEq xs ys) (r := fun j => !dataLt (xs.getD j .none) (ys.getD j .none)) ⟨_, h1, h2, _, h3⟩ ⟨_, k1, k2, _, k3⟩ (by omega) (fun j j1 j2 => by
                have := PySem.W.eqAt_alikeAll xs ys A.in1 s vs.toList vs'.toList _ _ h4 k4 hal hu1 j (by simpa using j1) (by simpa using j2)
                simpa using this) (fun j j1 j2 hj => by
                obtain ⟨as', r1⟩ := readsAll_at j (by simpa using j1) (by omega) h4
                obtain ⟨bs', r2⟩ := readsAll_at j (by simpa using j2) (by omega) k4
                have g1 : xs.getD j .none = xs[j]'(by omega) := by rw [List.getD_eq_getElem?_getD, List.getElem?_eq_getElem (by omega)]; rfl
                have g2 : ys.getD j .none = ys[j]'(by omega) := by rw [List.getD_eq_getElem?_getD, List.getElem?_eq_getElem (by omega)]; rfl
                rw [g1, g2]
                have hm : xs[j]'(by omega) ∈ xs := List.getElem_mem _
                refine ih _ _ A.in1 s _ _ as' bs' (Nat.le_trans (depth_mem hm) hd) (keysP_mem hk _ hm) (by simpa using r1) (by simpa using r2) (alikeAll_at j (by omega) (by omega) hal) ?_
                show A.units + 1 + n < cLine
                omega)
            have z : decide (vs.size ≥ vs'.size) = !decide (xs.length < ys.length) := by
              rw [n1, n2, ← decide_not]; exact decide_eq_decide.mpr Nat.not_lt.symm
            rw [PySem.W.dataLt_tuple, ← PySem.W.firstLt_toks xs ys hal, List.range_eq_range', ← lexAt_first, ← n1, ← n2]
            rw [← n1, ← n2] at z
            intro prog w E Q hq
            refine q prog w E Q ?_
            rw [← z] at hq
            exact hq
      | _ => exact absurd h (by simp [alike])
    | _ => exact nomatch hk
end
end PD

namespace PD
open PySem PySem.Spec L2
open PyProof.Rows hiding St
open PySem.W (EachIs AllAlike dataLt alike dataLe)

/-! ## the order of tuples -/
def OrdOk (x y : D) : Prop := keyP (toPy x) = true ∧ keyP (toPy y) = true ∧ alike (toPy x) (toPy y) = true ∧ (toPy x).depth ≤ 60 ∧ ∃ ds, x = .tup ds
noncomputable def dLtK : D → D → Out D := fun x y => chk (OrdOk x y) (.ok (.bl (dataLt (toPy x) (toPy y))))
noncomputable def dGeK : D → D → Out D := fun x y => chk (OrdOk x y) (.ok (.bl (!dataLt (toPy x) (toPy y))))
section
variable {X : Cx} {m : Md}
def rOrd (X : Cx) (F : Bool → Bool) : R2 := fun x y H Q => ∃ d e, Dp X.K H x d ∧ Dp X.K H y e ∧ keyP d = true ∧ alike d e = true ∧ d.depth ≤ 60 ∧ Q (.bl (F (dataLt d e))) H
theorem op_ltK (hu : X.A.units + 64 < cLine) : OpR X (compareOp .Lt) (rOrd X id) := by
  intro pins s σ H x y v u Q I rx ry h
  obtain ⟨d, e, hd, he, kd, al, dp, q⟩ := h
  obtain ⟨as, r1⟩ := Dp.reads I d x v hd rx
  obtain ⟨bs, r2⟩ := Dp.reads I e y u he ry
  refine PySem.W.rcLt_alike d e X.A s v u as bs r1 r2 al (fun z => by subst z; cases kd) ?_ X.prog X.w _ _ ⟨.bl _, H, I, rfl, q⟩
  have := Nat.min_le_left d.depth e.depth
  omega
theorem op_geK (hu : X.A.units + 64 < cLine) : OpR X (compareOp .GtE) (rOrd X not) := by
  intro pins s σ H x y v u Q I rx ry h
  obtain ⟨d, e, hd, he, kd, al, dp, q⟩ := h
  obtain ⟨as, r1⟩ := Dp.reads I d x v hd rx
  obtain ⟨bs, r2⟩ := Dp.reads I e y u he ry
  exact rcGe_key 60 d e X.A s v u as bs dp kd r1 r2 al (by omega) X.prog X.w _ _ ⟨.bl _, H, I, rfl, q⟩
theorem od_ltK {kk : Nat} (hr : Room kk X.A) : OpD X (compareOp .Lt) m dLtK := by
  refine ⟨_, op_ltK hr.units, fun g E Γ ρ σ Hf H x y v u Q R hx hy k => ?_⟩
  unfold dLtK at k
  by_cases c : OrdOk x y
  · rw [chk_pos c] at k
    obtain ⟨c1, c2, c3, c4, _⟩ := c
    exact ⟨toPy x, toPy y, dp_read R.same hx (keyP_lay _ c1), dp_read R.same hy (keyP_lay _ c2), c1, c3, c4, k Hf H (Same.refl _) (Same.refl _) R _ (Res.dat R.same rfl (by simp only [IsD, id]))⟩
  · rw [chk_neg c] at k; exact k.elim
theorem od_geK {kk : Nat} (hr : Room kk X.A) : OpD X (compareOp .GtE) m dGeK := by
  refine ⟨_, op_geK hr.units, fun g E Γ ρ σ Hf H x y v u Q R hx hy k => ?_⟩
  unfold dGeK at k
  by_cases c : OrdOk x y
  · rw [chk_pos c] at k
    obtain ⟨c1, c2, c3, c4, _⟩ := c
    exact ⟨toPy x, toPy y, dp_read R.same hx (keyP_lay _ c1), dp_read R.same hy (keyP_lay _ c2), c1, c3, c4, k Hf H (Same.refl _) (Same.refl _) R _ (Res.dat R.same rfl (by simp only [IsD]))⟩
  · rw [chk_neg c] at k; exact k.elim
noncomputable def dLt : D → D → Out D := dOr dLtI (dOr dLtS dLtK)
noncomputable def dGe : D → D → Out D := dOr dGeI (dOr dGeS dGeK)
theorem od_lt {k : Nat} (hr : Room k X.A) : OpD X (compareOp .Lt) m dLt := od_ltI.or ((opd_str op_lt_str).or (od_ltK hr))
theorem od_ge {k : Nat} (hr : Room k X.A) : OpD X (compareOp .GtE) m dGe := od_geI.or ((opd_str op_ge_str).or (od_geK hr))

/-! ## sorted -/
noncomputable def sortD (ds : List D) : List D := ds.mergeSort (dataLe false toPy)
def SOk (ds : List D) : Prop := AllAlike (ds.map toPy) ∧ SortX (ds.map toPy) ∧ (∀ d ∈ ds, (toPy d).canLay0 = true ∧ (toPy d).depth ≤ 60) ∧ ds.length ≤ sizeLine
/-- what a value stands for -/
def RD (K : PySem.W.Frag) (mg : Mg) (Hf : Hp) : Value → D → Prop := fun u d => ∃ v, RelV v u ∧ IsD K mg Hf d v
theorem each_of {K : PySem.W.Frag} {mg : Mg} {Hf : Hp} : ∀ {ds : List D} {vs : List V} {us : List Value}, IsDs K mg Hf ds vs → Vals vs us → EachIs (RD K mg Hf) us ds
  | [], _, _, h, r => by simp only [IsDs] at h; subst h; cases r; exact .nil
  | d :: ds, _, _, h, r => by
    simp only [IsDs] at h
    obtain ⟨v, vs, rfl, q, t⟩ := h
    cases r with
    | cons r1 r2 => exact .cons ⟨v, r1, q⟩ (each_of t r2)
theorem of_each {K : PySem.W.Frag} {mg : Mg} {Hf : Hp} : ∀ {ds : List D} {us : List Value}, EachIs (RD K mg Hf) us ds → ∃ vs, IsDs K mg Hf ds vs ∧ Vals vs us
  | [], _, h => by cases h; exact ⟨[], by simp only [IsDs], .nil⟩
  | d :: ds, _, h => by
    cases h with
    | cons h1 t =>
      obtain ⟨v, r1, q⟩ := h1
      obtain ⟨vs, i, r2⟩ := of_each t
      exact ⟨v :: vs, by simp only [IsDs]; exact ⟨v, vs, rfl, q, i⟩, .cons r1 r2⟩
theorem each_reads {pins : List (Addr × Obj)} {σ : St} {H Hf : Hp} {s : Shared} (I : Inv X pins σ H s) (sm : Same Hf H) : ∀ {ds : List D} {us : List Value}, (∀ d ∈ ds, (toPy d).canLay0 = true) → EachIs (RD X.K X.mw Hf) us ds → EachIs (fun u d => ∃ as, Reads s.heap u (toPy d) as) us ds
  | [], _, _, h => by cases h; exact .nil
  | d :: ds, _, l, h => by
    cases h with
    | cons h1 t =>
      obtain ⟨v, r1, q⟩ := h1
      exact .cons (Dp.reads I (toPy d) v _ (dp_of (IsD.mono sm q) (l d List.mem_cons_self)) r1) (each_reads I sm (fun d hd => l d (List.mem_cons_of_mem _ hd)) t)
def rSortL (X : Cx) : List V → Hp → VK → Prop := fun vs H Q => ∃ a Hf ds xs, vs = [V.ref a] ∧ Same Hf H ∧ SqL X.K H a xs ∧ IsDs X.K X.mw Hf ds xs ∧ SOk ds ∧ ∀ p ys, H p = none → IsDs X.K X.mw Hf (sortD ds) ys → Q (.ref p) (upd H p (.lst ys))
theorem cr_sortL (hu : X.A.units + 64 < cLine) : CallR X (.builtin "sorted") (rSortL X) := by
  intro pins s σ H vs us Q I r h
  obtain ⟨a, Hf, ds, xs, rfl, sm, hs, hi, ⟨o1, o2, o3, o4⟩, q⟩ := h
  obtain ⟨its, rv, hl, hz⟩ := I.list hs
  rw [Vals.ref1 r]
  have e1 := each_of hi rv
  refine sorted_any hl.isList e1 (each_reads I sm (fun d hd => (o3 d hd).1) e1) o1 o2 o4 (fun d hd => by have := (o3 d hd).2; omega) fun out hl2 eo => ?_
  obtain ⟨ys, iy, vy⟩ := of_each eo
  obtain ⟨ep, he'⟩ := PyProof.Rows.sortedAll_at s.heap its out.toArray
  have hlen : ys.length ≤ sizeLine := by rw [vy.length, hl2]; exact o4
  exact ⟨.ref _, upd H (s.heap.objs.size + 1) (.lst ys), I.laid (t' := s.toks) (fun _ _ => PyProof.Rows.sortedAll_old) (Nat.le_succ _) ⟨hlen, out, ep, vy, he'⟩, rfl, q _ ys (I.hok.fresh (Nat.le_succ _)) iy⟩
/-- the keys of a dict, as they stand -/
theorem dic_keys {pins : List (Addr × Obj)} {σ : St} {H Hf : Hp} {s : Shared} {kvs : List (D × D)} {a : Addr} {o : HO} (I : Inv X pins σ H s) (hd : Rd H a o) (hk : DicAt X.K X.mw Hf kvs a o) :
    (a == sysModules) = false ∧ kvs.length ≤ sizeLine ∧ ∃ ob es ep, s.heap.get? a = some ob ∧ ob.ExactDict ∧ ob.data = .dict es ep ∧ ∃ vs, IsDs X.K X.mw Hf (kvs.map (·.1)) vs ∧ Vals vs (es.toList.map (·.key)) := by
  have ok := hd.ok I.hok
  rcases hk with ⟨xs, rfl, r⟩ | ⟨zs, rfl, r⟩
  · obtain ⟨z, hsys, vs, rel, ob, es, ep, h1, h2, h3, h4, h5, h6⟩ := (show ObjOk X.prog X.w H s.heap a (.dK xs) from ok)
    refine ⟨hsys, by rw [← r.len]; exact z, ob, es, ep, h1, h2, h3, xs.map fun p => kV p.1, ?_, ?_⟩
    · clear z rel h5 h6 ok hd
      induction kvs generalizing xs with
      | nil => simp only [IsKVs] at r; subst r; simp only [List.map_nil, IsDs]
      | cons p kvs ih =>
        obtain ⟨k, d⟩ := p
        simp only [IsKVs, IsKV] at r
        obtain ⟨⟨κ, v⟩, us, rfl, ⟨e, _⟩, r⟩ := r
        simp only at e
        subst e
        simp only [List.map_cons, IsDs]
        exact ⟨_, _, rfl, by cases κ <;> simp only [kD, kV, IsD], ih _ r⟩
    · have key : ∀ {es : List DictEntry} {vs : List (Key × Value)} {xs : List (Key × V)}, Pairs (mixKind X.prog X.w) es vs → KV xs vs → Vals (xs.map fun p => kV p.1) (es.map (·.key)) := by
        intro es vs xs hp
        induction hp generalizing xs with
        | nil => intro hkv; cases hkv; exact .nil
        | @cons e kv es kvs h1 h2 _ ih =>
          intro hkv
          cases hkv with
          | @cons p _ ps _ hh tt =>
            rw [List.map_cons, List.map_cons]
            refine .cons ?_ (ih tt)
            rw [hh.1]
            have h1' : keyIs kv.1 e.key = true := h1
            rcases keyIs_shape h1' with ⟨i, t, ek, ev⟩ | ⟨x, t, ek, ev⟩
            · rw [ek, ev]; exact ⟨t, rfl⟩
            · rw [ek, ev]; exact ⟨t, rfl⟩
      exact key h5 rel
  · obtain ⟨hne, hsys, z, ws, rel, ob, es, ep, h1, h2, h3, h4, h5⟩ := (show ObjOk X.prog X.w H s.heap a (dT X.w a zs) from ok).1
    clear hne
    refine ⟨hsys, by rw [← r.len]; exact z, ob, es, ep, h1, h2, h3, zs.map fun p => V.ref p.2.1, ?_, ?_⟩
    · clear z rel h4 h5 ok hd
      induction kvs generalizing zs with
      | nil => simp only [IsKTs] at r; subst r; simp only [List.map_nil, IsDs]
      | cons p kvs ih =>
        obtain ⟨k, d⟩ := p
        simp only [IsKTs, IsKT] at r
        obtain ⟨⟨κ, b, v⟩, us, rfl, ⟨_, _, q, _⟩, r⟩ := r
        simp only [List.map_cons, IsDs]
        exact ⟨_, _, rfl, q, ih _ r⟩
    · rw [h4]
      clear h4 h5 z r ok hd
      induction rel with
      | nil => exact .nil
      | @cons p q ps qs hh _ ih =>
        rw [List.map_cons, List.map_cons, List.map_cons]
        refine .cons ?_ ih
        rw [hh.2.1]; rfl
def rSortDic (X : Cx) : List V → Hp → VK → Prop := fun vs H Q => ∃ a Hf kvs o, vs = [V.ref a] ∧ Same Hf H ∧ Rd H a o ∧ DicAt X.K X.mw Hf kvs a o ∧ SOk (kvs.map (·.1)) ∧ ∀ p ys, H p = none → IsDs X.K X.mw Hf (sortD (kvs.map (·.1))) ys → Q (.ref p) (upd H p (.lst ys))
theorem cr_sortDic (hc : X.calm = true) (hu : X.A.units + 64 < cLine) : CallR X (.builtin "sorted") (rSortDic X) := by
  intro pins s σ H vs us Q I r h
  obtain ⟨a, Hf, kvs, o, rfl, sm, hd, hk, ⟨o1, o2, o3, o4⟩, q⟩ := h
  rw [Vals.ref1 r]
  obtain ⟨lo, hz, ob, es, ep, ho, hx, hdt, xs, hi, rv⟩ := dic_keys I hd hk
  have hes : es.size = kvs.length := by
    have := rv.length
    have h2 := hi.len
    rw [List.length_map] at h2 this
    rw [← Array.length_toList]; omega
  refine Calls.call_function_entry PyProof.Rows.kind_sorted PyProof.Rows.plain_sorted PyProof.Rows.entry_sorted (PyProof.Rows.args_sorted1 _) ?_
  unfold Builtin.«sorted»
  refine wpAny_bind (m := checkCount "sorted" 1 1 _) (wpAny_pure ?_)
  refine wpAny_bind (PySem.W.kdu_collect (A := X.A.in1) (L2.kdl_raw lo hx hdt) (I.ok.hd hc) ho (by rw [hes]; exact hz) fun h' tk acc kk hacc => ?_)
  have ea : acc.toList = es.toList.map (·.key) := by
    have hl : acc.toList.length = es.size := by rw [Array.length_toList, hacc.1]
    apply List.ext_getElem?
    intro j
    rw [List.getElem?_map]
    cases hj : acc.toList[j]? with
    | none =>
      have h1 := List.getElem?_eq_none_iff.mp hj
      rw [List.getElem?_eq_none (by rw [Array.length_toList]; omega)]; rfl
    | some v =>
      obtain ⟨en, hen, hv⟩ := hacc.2 j v (by rw [← Array.getElem?_toList]; exact hj)
      rw [← Array.getElem?_toList] at hen
      rw [hen, hv]; rfl
  have I1 : Inv X pins σ H { s with heap := h', toks := tk } := I.kept kk
  have e1 : EachIs (RD X.K X.mw Hf) acc.toList (kvs.map (·.1)) := by rw [ea]; exact each_of hi rv
  have hal : acc.toList.length = (kvs.map (·.1)).length := e1.length
  refine wpAny_bind (wpAny_newList ?_ (by rw [hal]; exact o4))
  have hoL : (h'.push (seqObj "list" acc.toList.toArray 0)).get? h'.objs.size = some (seqObj "list" acc.toList.toArray 0) := Heap.get?_push_size _ rfl
  show wpAny _ _ _ _ _ { s with heap := h'.push (seqObj "list" acc.toList.toArray 0), toks := tk }
  have er : EachIs (fun u d => ∃ as, Reads (PySem.W.sortingHeap (h'.push (seqObj "list" acc.toList.toArray 0)) h'.objs.size acc.toList) u (toPy d) as) acc.toList (kvs.map (·.1)) := by
    refine (each_reads I1 sm (fun d hd => (o3 d hd).1) e1).mono fun u d ⟨as, rd⟩ => ⟨as, PyProof.Rows.Reads.keeps (fun b ob2 e => ?_) rd⟩
    exact PySem.W.sortingHeap_old (Nat.ne_of_lt (Heap.lt_size e)) (Heap.get?_push_of_some _ e)
  refine wpAny_bind (wpAny_holding (wpAny_call_entry PyProof.Rows.slot_list_sort ⟨_, hoL, rfl⟩ PyProof.Rows.entry_list_sort
    (PySem.W.list_sort_vals (s := { s with heap := h'.push (seqObj "list" acc.toList.toArray 0), toks := tk }) hoL (sortsAt_any (s := { s with heap := PySem.W.sortingHeap (h'.push (seqObj "list" acc.toList.toArray 0)) h'.objs.size acc.toList, toks := tk }) (PySem.W.each_map (R := fun v d => ∃ as, Reads (PySem.W.sortingHeap (h'.push (seqObj "list" acc.toList.toArray 0)) h'.objs.size acc.toList) v d as) toPy er) o1 o2 (PySem.W.bound_map (fun d hd => by
      have := (o3 d hd).2
      show X.A.units + 1 + 1 + (toPy d).depth < cLine
      omega))) (by rw [hal]; exact o4) ⟨_, rfl, ?_⟩)
    (PyProof.Rows.args_list_sort _)))
  have eo := PySem.W.sortVals_data false e1 er o1
  obtain ⟨ys, iy, vy⟩ := of_each eo
  obtain ⟨e', he'⟩ := PyProof.Rows.sortedHeap_at (vs := acc.toList) (out := (PySem.W.sortVals (PySem.W.dataKind (PySem.W.sortingHeap (h'.push (seqObj "list" acc.toList.toArray 0)) h'.objs.size acc.toList) ((kvs.map (·.1)).map toPy)) false acc.toList acc.toList).toArray) hoL
  have hlen : ys.length ≤ sizeLine := by
    rw [iy.len, List.length_mergeSort]; exact o4
  refine wpAny_pure ⟨_, rfl, .ref h'.objs.size, upd H h'.objs.size (.lst ys), I1.laid (t' := tk) (fun b u e => ?_) (Nat.le_refl _)
    (show ObjOk X.prog X.w _ _ _ (.lst ys) from ⟨hlen, _, e', vy, he'⟩), rfl, q _ ys (I1.hok.fresh (Nat.le_refl _)) iy⟩
  have hb : b < h'.objs.size := Heap.lt_size e
  rw [PyProof.Rows.sortedHeap_old (Nat.ne_of_lt hb) (by rw [size_push']; exact Nat.lt_succ_of_lt hb)]
  exact Heap.get?_push_of_some _ e
noncomputable def cSorted : List D → Out D
  | [.lst ds] => chk (SOk ds) (.ok (.lst (sortD ds)))
  | [.dic kvs] => chk (SOk (kvs.map (·.1))) (.ok (.lst (sortD (kvs.map (·.1)))))
  | _ => .stuck
theorem ca_sorted {kk : Nat} (hc : X.calm = true) (hr : Room kk X.A) : CaD X (.builtin "sorted") m cSorted := by
  refine ⟨_, (cr_sortL hr.units).or (cr_sortDic hc hr.units), fun g E Γ ρ σ Hf H ds vs Q R h k => ?_⟩
  unfold cSorted at k
  split at k
  · rename_i ds
    by_cases c : SOk ds
    · rw [chk_pos c] at k
      obtain ⟨v, rfl, p, xs, rfl, q, r⟩ := h.one
      exact .inl ⟨p, Hf, ds, xs, rfl, R.same, .of q, r, c, fun p ys n iy => pv_lst R iy n k⟩
    · rw [chk_neg c] at k; exact k.elim
  · rename_i kvs
    by_cases c : SOk (kvs.map (·.1))
    · rw [chk_pos c] at k
      obtain ⟨v, rfl, p, o, rfl, q, r⟩ := h.one
      exact .inr ⟨p, Hf, kvs, o, rfl, R.same, q, r, c, fun p ys n iy => pv_lst R iy n k⟩
    · rw [chk_neg c] at k; exact k.elim
  · exact k.elim
end
theorem dLt_int (i j : Int) : dLt (.int i) (.int j) = .ok (.bl (decide (i < j))) := rfl
theorem dGe_int (i j : Int) : dGe (.int i) (.int j) = .ok (.bl (decide (j ≤ i))) := rfl
end PD

namespace PD
open PySem PySem.Spec L2
open PyProof.Rows hiding St

theorem bb_sum : bootBuiltins "sum" = some (.builtin "sum") := by decide +kernel
theorem bb_any : bootBuiltins "any" = some (.builtin "any") := by decide +kernel
theorem bb_all : bootBuiltins "all" = some (.builtin "all") := by decide +kernel
theorem bb_sorted : bootBuiltins "sorted" = some (.builtin "sorted") := by decide +kernel
/-! evaluation -/
theorem oN_ap (ρ : Env) : oN ρ = .ok none := rfl
theorem oI_ap (f : Env → Out D) (ρ : Env) : oI f ρ = (f ρ).bind fun d => match d with
  | .int i => .ok (some i)
  | _ => .stuck := rfl
theorem eSl_ap (f : Env → Out D) (lo hi : Env → Out (Option Int)) (ρ : Env) : eSl f lo hi ρ = (f ρ).bind fun x => (lo ρ).bind fun l => (hi ρ).bind fun u => dSl x l u := rfl
theorem eSlSt_ap (f : Env → Out D) (lo hi st : Env → Out (Option Int)) (ρ : Env) : eSlSt f lo hi st ρ = (f ρ).bind fun x => (lo ρ).bind fun l => (hi ρ).bind fun u => (st ρ).bind fun s => dSlSt x l u s := rfl
theorem eS2_ap (F : Str → Str → D) (fa fb : Env → Out D) (ρ : Env) : eS2 F fa fb ρ = (fa ρ).bind fun x => match x with
  | .str a => (fb ρ).bind fun y => match y with
    | .str b => .ok (F a b)
    | _ => .stuck
  | _ => .stuck := rfl
theorem eLc_ap (vs : List Nat) (G : D → Env → Out Env) (it : Env → Out (List D)) (tt : Env → Out Bool) (f : Env → Out D) (ρ : Env) : eLc vs G it tt f ρ = (it ρ).bind fun ds => chk (ds.length ≤ sizeLine) ((lcL G tt f (wipeE ρ vs) ds).bind fun ys => .ok (.lst ys)) := rfl
theorem bYes_ap (ρ : Env) : bYes ρ = .ok true := rfl
theorem wipeE_nil (ρ : Env) : wipeE ρ [] = ρ := rfl
theorem wipeE_cons (ρ : Env) (v : Nat) (vs : List Nat) : wipeE ρ (v :: vs) = (wipeE ρ vs).set v none := rfl
theorem eGet2_ap (fd fk fx : Env → Out D) (ρ : Env) : eGet2 fd fk fx ρ = (fd ρ).bind fun d => match d with
  | .dic kvs => (fk ρ).bind fun k => (fx ρ).bind fun x => chk (DKey kvs k) (.ok ((dicGet kvs k).getD x))
  | _ => .stuck := rfl
theorem sPut_ap (i : Nat) (fk fv : Env → Out D) (ρ : Env) : sPut i fk fv ρ = oS (fv ρ) fun v => oS (eV i ρ) fun x => oS (fk ρ) fun k => oS (putO x k v) fun y => .nx (ρ.set i (some y)) := rfl
theorem dSl_lst (ds : List D) (lo hi : Option Int) : dSl (.lst ds) lo hi = .ok (.lst (cutD ds lo hi)) := rfl
theorem dSl_tup (ds : List D) (lo hi : Option Int) : dSl (.tup ds) lo hi = .ok (.tup (cutD ds lo hi)) := rfl
theorem dSl_scr (ns : List Int) (lo hi : Option Int) : dSl (.scr ns) lo hi = .ok (.lst ((cutD ns lo hi).map .int)) := rfl
theorem dSl_str {z : Str} (h : z.length ≤ 16777216) (lo hi : Option Int) : dSl (.str z) lo hi = .ok (.str (cutS z lo hi)) := chk_pos h
theorem cList_lst (ds : List D) : cList [.lst ds] = .ok (.lst ds) := rfl
theorem cList_tup (ds : List D) : cList [.tup ds] = .ok (.lst ds) := rfl
theorem cTuple_lst (ds : List D) : cTuple [.lst ds] = .ok (.tup ds) := rfl
theorem cTuple_tup (ds : List D) : cTuple [.tup ds] = .ok (.tup ds) := rfl
theorem dIsN_non : dIsN false .non .non = .ok (.bl true) := rfl
theorem lcL_nil (G : D → Env → Out Env) (tt : Env → Out Bool) (f : Env → Out D) (ρ : Env) : lcL G tt f ρ [] = .ok [] := rfl
theorem lcL_cons (G : D → Env → Out Env) (tt : Env → Out Bool) (f : Env → Out D) (ρ : Env) (d : D) (ds : List D) : lcL G tt f ρ (d :: ds) = (G d ρ).nox.bind fun ρ1 => (tt ρ1).nox.bind fun b => if b = true then (f ρ1).nox.bind fun y => (lcL G tt f ρ ds).bind fun ys => .ok (y :: ys) else lcL G tt f ρ ds := rfl
end PD

namespace PD
open PySem PySem.Spec L2
open PyProof.Rows hiding St

/-! ## lists that stand in an owned dict: rows.setdefault(k, []).append(v) -/
/-! ### what does not look at a slot -/
def SO.at (o : SO) (i : Nat) (d : D) : SO := match o with
  | .nx r => .nx (r.set i (some d))
  | .bk r => .bk (r.set i (some d))
  | .ct r => .ct (r.set i (some d))
  | o => o
def FrE {α : Type} (i : Nat) (f : Env → Out α) : Prop := ∀ ρ d, f (ρ.set i (some d)) = f ρ
def FrS (i : Nat) (f : Env → SO) : Prop := ∀ ρ d, f (ρ.set i (some d)) = (f ρ).at i d
def FrG (i : Nat) (G : D → Env → Out Env) : Prop := ∀ x ρ d, G x (ρ.set i (some d)) = (G x ρ).bind fun r => .ok (r.set i (some d))
def NxS (f : Env → SO) : Prop := ∀ ρ, (∃ r, f ρ = .nx r) ∨ (∃ x, f ρ = .ex x) ∨ f ρ = .stuck
section
variable {i j : Nat}
theorem fr_C {d : D} : FrE i (eC d) := fun _ _ => rfl
theorem fr_V (h : i ≠ j) : FrE i (eV j) := fun ρ d => by unfold eV; rw [List.getElem?_set_ne h]
theorem fr_2 {F : D → D → Out D} {a b : Env → Out D} (ha : FrE i a) (hb : FrE i b) : FrE i (e2 F a b) := fun ρ d => by unfold e2; rw [ha ρ d, hb ρ d]
theorem fr_1 {F : D → Out D} {a : Env → Out D} (ha : FrE i a) : FrE i (e1 F a) := fun ρ d => by unfold e1; rw [ha ρ d]
theorem fr_aN : FrE i aN := fun _ _ => rfl
theorem fr_aC {a : Env → Out D} {r : Env → Out (List D)} (ha : FrE i a) (hb : FrE i r) : FrE i (aC a r) := fun ρ d => by unfold aC; rw [ha ρ d, hb ρ d]
theorem fr_A {F : List D → Out D} {r : Env → Out (List D)} (hb : FrE i r) : FrE i (eA F r) := fun ρ d => by unfold eA; rw [hb ρ d]
theorem fr_t {f : Env → Out D} (hb : FrE i f) : FrE i (tOf f) := fun ρ d => by unfold tOf; rw [hb ρ d]
theorem fr_yes : FrE i bYes := fun _ _ => rfl
theorem fr_seq {f : Env → Out D} (hb : FrE i f) : FrE i (iSeq f) := fun ρ d => by unfold iSeq; rw [hb ρ d]
theorem fr_gN (h : j ≠ i) : FrG i (gN j) := fun x ρ d => by unfold gN; rw [List.set_comm _ _ (Ne.symm h)]; rfl
theorem fr_fold : ∀ (l : List ((D → Env → Out Env) × D)) (o : Out Env) (d : D), (∀ p ∈ l, FrG i p.1) → l.foldl (fun o p => o.bind (p.1 p.2)) (o.bind fun r => .ok (r.set i (some d))) = (l.foldl (fun o p => o.bind (p.1 p.2)) o).bind fun r => .ok (r.set i (some d))
  | [], o, d, _ => rfl
  | p :: l, o, d, h => by
    rw [List.foldl_cons, List.foldl_cons, ← fr_fold l _ d fun q hq => h q (List.mem_cons_of_mem _ hq)]
    congr 1
    cases o with
    | ok r => exact h p List.mem_cons_self p.2 r d
    | exc x => rfl
    | stuck => rfl
theorem fr_gT {gs : List (D → Env → Out Env)} (h : ∀ G ∈ gs, FrG i G) : FrG i (gT gs) := fun x ρ d => by
  have key : ∀ ds : List D, (if ds.length = gs.length then (gs.zip ds).foldl (fun o p => o.bind (p.1 p.2)) (Out.ok (ρ.set i (some d))) else .stuck) = Out.bind (if ds.length = gs.length then (gs.zip ds).foldl (fun o p => o.bind (p.1 p.2)) (Out.ok ρ) else .stuck) fun r => .ok (r.set i (some d)) := fun ds => by
    by_cases l : ds.length = gs.length
    · rw [if_pos l, if_pos l]
      exact fr_fold (gs.zip ds) (.ok ρ) d fun p hp => h _ (List.of_mem_zip hp).1
    · rw [if_neg l, if_neg l]; rfl
  unfold gT
  cases x with
  | tup ds => exact key ds
  | lst ds => exact key ds
  | _ => rfl
theorem frg_nil : ∀ G ∈ ([] : List (D → Env → Out Env)), FrG i G := fun _ h => by cases h
theorem frg_cons {G : D → Env → Out Env} {gs : List (D → Env → Out Env)} (h : FrG i G) (t : ∀ F ∈ gs, FrG i F) : ∀ F ∈ G :: gs, FrG i F := fun F m => by
  rcases List.mem_cons.mp m with rfl | m
  · exact h
  · exact t F m
theorem wipe_set {ρ : Env} {d : D} : ∀ {vs : List Nat}, i ∉ vs → wipeE (ρ.set i (some d)) vs = (wipeE ρ vs).set i (some d)
  | [], _ => rfl
  | v :: vs, h => by
    rw [List.mem_cons, not_or] at h
    rw [wipeE_cons, wipeE_cons, wipe_set h.2, List.set_comm _ _ h.1]
theorem fr_lcL {G : D → Env → Out Env} {tt : Env → Out Bool} {f : Env → Out D} (hG : FrG i G) (ht : FrE i tt) (hf : FrE i f) (ρ : Env) (d : D) : ∀ ds : List D, lcL G tt f (ρ.set i (some d)) ds = lcL G tt f ρ ds
  | [] => rfl
  | x :: ds => by
    rw [lcL_cons, lcL_cons, hG x ρ d, fr_lcL hG ht hf ρ d ds]
    cases G x ρ with
    | ok r =>
      simp only [Out.nox, Out.bind_ok]
      rw [ht r d, hf r d]
    | exc x => rfl
    | stuck => rfl
theorem fr_Lc {vs : List Nat} {G : D → Env → Out Env} {it : Env → Out (List D)} {tt : Env → Out Bool} {f : Env → Out D} (hv : i ∉ vs) (hG : FrG i G) (hi : FrE i it) (ht : FrE i tt) (hf : FrE i f) : FrE i (eLc vs G it tt f) := fun ρ d => by
  unfold eLc
  rw [hi ρ d, wipe_set hv]
  congr 1
  funext ds
  rw [fr_lcL hG ht hf]
theorem frs_set {f : Env → Out D} (h : j ≠ i) (hf : FrE i f) : FrS i (sSet j f) := fun ρ d => by
  unfold sSet
  rw [hf ρ d]
  cases f ρ with
  | ok x => show SO.nx _ = SO.nx _; rw [List.set_comm _ _ (Ne.symm h)]
  | exc x => rfl
  | stuck => rfl
theorem frs_seq {f k : Env → SO} (hf : FrS i f) (hk : FrS i k) : FrS i (sSeq f k) := fun ρ d => by
  unfold sSeq
  rw [hf ρ d]
  cases f ρ with
  | nx r => exact hk r d
  | _ => rfl
theorem nxs_set {f : Env → Out D} : NxS (sSet j f) := fun ρ => by
  unfold sSet
  cases f ρ with
  | ok x => exact .inl ⟨_, rfl⟩
  | exc x => exact .inr (.inl ⟨_, rfl⟩)
  | stuck => exact .inr (.inr rfl)
theorem nxs_seq {f k : Env → SO} (hf : NxS f) (hk : NxS k) : NxS (sSeq f k) := fun ρ => by
  unfold sSeq
  rcases hf ρ with ⟨r, e⟩ | ⟨x, e⟩ | e
  · rw [e]; exact hk r
  · rw [e]; exact .inr (.inl ⟨x, rfl⟩)
  · rw [e]; exact .inr (.inr rfl)
end

/-! ### the pair's meaning -/
noncomputable def sRow (i j : Nat) (fk fv : Env → Out D) : Env → SO := fun r => match r[i]? with
  | some (some (.dic kvs)) => oS (fk r) fun k => chkS (flatK k = true ∧ kvs.length < sizeLine ∧ j < r.length) (match (dicGet kvs k).getD (.lst []) with
    | .lst ds => oS (fv (r.set j none)) fun v => chkS (ds.length < sizeLine) (.nx ((r.set j none).set i (some (.dic (dicPut kvs k (.lst (ds ++ [v])))))))
    | _ => .stuck)
  | _ => .stuck

/-! ### the rows as they stand -/
section
variable {K : PySem.W.Frag} {mg : Mg} {g0 Hf H Hf' H' : Hp}
def RowAt (K : PySem.W.Frag) (mg : Mg) (g0 Hf H : Hp) (d : D) (v : V) : Prop := ∃ ds b ys, d = .lst ds ∧ v = .ref b ∧ g0 b = none ∧ Hf b = none ∧ H b = some (.lst ys) ∧ IsDs K mg Hf ds ys
def Rows (K : PySem.W.Frag) (mg : Mg) (g0 Hf H : Hp) : List (D × D) → List (Key × V) → Prop
  | [], xs => xs = []
  | p :: ps, xs => ∃ q qs, xs = q :: qs ∧ p.1 = kD q.1 ∧ RowAt K mg g0 Hf H p.2 q.2 ∧ Rows K mg g0 Hf H ps qs
theorem RowAt.mono {d : D} {v : V} (s1 : Same Hf Hf') (s2 : Same H H') (nw : ∀ b o, Hf b = none → H b = some o → Hf' b = none) (h : RowAt K mg g0 Hf H d v) : RowAt K mg g0 Hf' H' d v := by
  obtain ⟨ds, b, ys, e1, e2, z0, zf, q, r⟩ := h
  exact ⟨ds, b, ys, e1, e2, z0, nw _ _ zf q, s2 _ _ q, IsDs.mono s1 r⟩
theorem Rows.mono (s1 : Same Hf Hf') (s2 : Same H H') (nw : ∀ b o, Hf b = none → H b = some o → Hf' b = none) : ∀ {ps : List (D × D)} {xs : List (Key × V)}, Rows K mg g0 Hf H ps xs → Rows K mg g0 Hf' H' ps xs
  | [], _, h => h
  | _ :: _, _, ⟨q, qs, e, k, r, t⟩ => ⟨q, qs, e, k, r.mono s1 s2 nw, Rows.mono s1 s2 nw t⟩
theorem Rows.other {b : Addr} {o : HO} : ∀ {ps : List (D × D)} {xs : List (Key × V)}, (V.ref b ∉ xs.map (·.2)) → Rows K mg g0 Hf H ps xs → Rows K mg g0 Hf (upd H b o) ps xs
  | [], _, _, h => h
  | _ :: _, _, n, ⟨q, qs, e, k, ⟨ds, c, ys, e1, e2, z0, zf, hq, r⟩, t⟩ => by
    subst e
    rw [List.map_cons, List.mem_cons, not_or] at n
    exact ⟨q, qs, rfl, k, ⟨ds, c, ys, e1, e2, z0, zf, by rw [upd_ne (fun z => n.1 (by rw [e2, z]))]; exact hq, r⟩, Rows.other n.2 t⟩
theorem Rows.keys : ∀ {ps : List (D × D)} {xs : List (Key × V)}, Rows K mg g0 Hf H ps xs → ps.map (·.1) = xs.map fun q => kD q.1
  | [], _, h => by cases h; rfl
  | _ :: _, _, ⟨q, qs, e, k, _, t⟩ => by subst e; rw [List.map_cons, List.map_cons, k, Rows.keys t]
theorem Rows.len {ps : List (D × D)} {xs : List (Key × V)} (h : Rows K mg g0 Hf H ps xs) : xs.length = ps.length := by
  have := congrArg List.length h.keys
  simpa using this.symm
theorem Rows.get (κ : Key) : ∀ {ps : List (D × D)} {xs : List (Key × V)}, Rows K mg g0 Hf H ps xs → match dicGet ps (kD κ) with
    | some d => ∃ v, valV xs κ = some v ∧ RowAt K mg g0 Hf H d v
    | none => valV xs κ = none
  | [], xs, h => by cases h; rfl
  | (k, d) :: ps, xs, ⟨q, qs, e, k1, r, t⟩ => by
    subst e
    simp only at k1 r
    by_cases z : q.1 = κ
    · rw [dicGet_pos (by rw [k1, z])]
      exact ⟨q.2, valV_pos z, r⟩
    · rw [dicGet_neg (fun y => z (kD_inj (k1.symm.trans y))), valV_neg z]
      exact Rows.get κ t
theorem row_ref {d : D} {v : V} (h : RowAt K mg g0 Hf H d v) : ∃ b o, v = .ref b ∧ H b = some o := by
  obtain ⟨ds, b, ys, e1, e2, z0, zf, q, r⟩ := h
  exact ⟨b, _, e2, q⟩
theorem Rows.vals : ∀ {ps : List (D × D)} {xs : List (Key × V)}, Rows K mg g0 Hf H ps xs → ∀ v ∈ xs.map (·.2), ∃ b ys, v = .ref b ∧ H b = some (.lst ys) ∧ g0 b = none ∧ Hf b = none
  | [], _, h, v, m => by cases h; cases m
  | _ :: _, _, ⟨q, qs, e, k, r, t⟩, v, m => by
    subst e
    rw [List.map_cons] at m
    rcases List.mem_cons.mp m with rfl | m
    · obtain ⟨ds, b, ys, e1, e2, z0, zf, q, r⟩ := r
      exact ⟨b, ys, e2, q, z0, zf⟩
    · exact Rows.vals t v m
/-- a row grows -/
theorem Rows.grow {κ : Key} {b : Addr} {ds' : List D} {ys' : List V} (r' : IsDs K mg Hf ds' ys') : ∀ {ps : List (D × D)} {xs : List (Key × V)}, (xs.map (·.1)).Nodup → (xs.map (·.2)).Nodup → valV xs κ = some (.ref b) → Rows K mg g0 Hf H ps xs →
    Rows K mg g0 Hf (upd H b (.lst ys')) (ps.map fun p => @ite _ (p.1 = kD κ) (Classical.propDecidable _) (p.1, .lst ds') p) xs
  | [], _, _, _, e, h => by cases h; cases e
  | p :: ps, _, n1, n2, e, ⟨q, qs, eq, k, r, t⟩ => by
    subst eq
    rw [List.map_cons, List.nodup_cons] at n1 n2
    rw [List.map_cons]
    by_cases z : q.1 = κ
    · rw [valV_pos z] at e
      have e2 : q.2 = .ref b := Option.some.inj e
      obtain ⟨ds, c, ys, e3, e4, z0, zf, hq, r⟩ := r
      rw [e2] at e4
      obtain rfl : b = c := V.ref.inj e4
      refine ⟨q, qs, rfl, ?_, ⟨ds', b, ys', ?_, e2, z0, zf, upd_same, r'⟩, ?_⟩
      · rw [if_pos (by rw [k, z])]; exact k
      · rw [if_pos (by rw [k, z])]
      · have id : ps.map (fun p => @ite _ (p.1 = kD κ) (Classical.propDecidable _) (p.1, D.lst ds') p) = ps := by
          refine (List.map_congr_left fun p hp => ?_).trans (List.map_id' ps)
          have hk := t.keys
          have : p.1 ∈ qs.map fun q => kD q.1 := by rw [← hk]; exact List.mem_map.mpr ⟨p, hp, rfl⟩
          obtain ⟨q', hq', e'⟩ := List.mem_map.mp this
          refine if_neg fun y => ?_
          rw [y] at e'
          refine n1.1 ?_
          rw [z, ← kD_inj e']
          exact List.mem_map.mpr ⟨q', hq', rfl⟩
        rw [id]
        exact Rows.other (by rw [← e2]; exact n2.1) t
    · rw [valV_neg z] at e
      have mb : V.ref b ∈ qs.map (·.2) := by
        have := valV_any κ qs
        clear this
        clear r t n1 n2
        induction qs with
        | nil => cases e
        | cons u us ih =>
          by_cases y : u.1 = κ
          · rw [valV_pos y] at e; rw [List.map_cons, Option.some.inj e]; exact List.mem_cons_self
          · rw [valV_neg y] at e; exact List.mem_cons_of_mem _ (ih e)
      refine ⟨q, qs, rfl, ?_, ?_, Rows.grow r' n1.2 n2.2 e t⟩
      · rw [if_neg (fun y => z (kD_inj (k.symm.trans y)))]; exact k
      · rw [if_neg (fun y => z (kD_inj (k.symm.trans y)))]
        obtain ⟨ds, c, ys, e3, e4, z0, zf, hq, r⟩ := r
        refine ⟨ds, c, ys, e3, e4, z0, zf, ?_, r⟩
        rw [upd_ne (fun y => n2.1 (by rw [e4, y]; exact mb))]
        exact hq
/-- a new row -/
theorem Rows.snoc {κ : Key} {b : Addr} {ds' : List D} {ys' : List V} (r' : IsDs K mg Hf ds' ys') (z0 : g0 b = none) (zf : Hf b = none) (e : H b = some (.lst ys')) : ∀ {ps : List (D × D)} {xs : List (Key × V)}, Rows K mg g0 Hf H ps xs →
    Rows K mg g0 Hf H (ps ++ [(kD κ, .lst ds')]) (xs ++ [(κ, .ref b)])
  | [], _, h => by cases h; exact ⟨_, [], rfl, rfl, ⟨ds', b, ys', rfl, rfl, z0, zf, e, r'⟩, rfl⟩
  | _ :: _, _, ⟨q, qs, eq, k, r, t⟩ => by
    subst eq
    exact ⟨q, qs ++ [(κ, .ref b)], rfl, k, r, Rows.snoc r' z0 zf e t⟩
/-- rows become data -/
theorem Rows.data {F : Hp} (s : Same Hf F) : ∀ {ps : List (D × D)} {xs : List (Key × V)}, (∀ v ∈ xs.map (·.2), ∀ b, v = .ref b → F b = H b) → Rows K mg g0 Hf H ps xs → IsKVs K mg F ps xs
  | [], _, _, h => by cases h; simp only [IsKVs]
  | p :: ps, _, n, ⟨q, qs, eq, k, ⟨ds, c, ys, e3, e4, z0, zf, hq, r⟩, t⟩ => by
    subst eq
    obtain ⟨p1, p2⟩ := p
    simp only [IsKVs, IsKV]
    refine ⟨q, qs, rfl, ⟨k, ?_⟩, Rows.data s (fun v m => n v (List.mem_cons_of_mem _ m)) t⟩
    simp only at e3
    rw [e3]
    simp only [IsD]
    exact ⟨c, ys, e4, (n _ List.mem_cons_self c e4).trans hq, IsDs.mono s r⟩
structure Deep (K : PySem.W.Frag) (mg : Mg) (g0 Hf H : Hp) (a : Addr) (kvs : List (D × D)) (xs : List (Key × V)) : Prop where
  at_ : H a = some (.dK xs)
  z0 : g0 a = none
  zf : Hf a = none
  rows : Rows K mg g0 Hf H kvs xs
  n1 : (xs.map (·.1)).Nodup
  n2 : (xs.map (·.2)).Nodup
theorem Deep.mono {a : Addr} {kvs : List (D × D)} {xs : List (Key × V)} (s1 : Same Hf Hf') (s2 : Same H H') (nw : ∀ b o, Hf b = none → H b = some o → Hf' b = none) (h : Deep K mg g0 Hf H a kvs xs) : Deep K mg g0 Hf' H' a kvs xs :=
  ⟨s2 _ _ h.at_, h.z0, nw _ _ h.zf h.at_, h.rows.mono s1 s2 nw, h.n1, h.n2⟩
end
section
variable {X : Cx} {g : G} {E : WX} {ro : Bool} {Γl Γ Γ1 Γ2 Γ3 : List Bool} {m : Md} {pos : Pos} {ρ ρ' : Env} {σ σ' : St} {Hf H Hf' H' : Hp}
/-- behind what ran with everything kept -/
theorem Rp.out (no : ∀ i, ¬ Own Γ i) (R : Rp X.K X.mw g Γ ρ σ Hf H) (R' : Rp X.K X.mw ⟨H, Hf⟩ Γ ρ' σ' Hf' H') : Rp X.K X.mw g Γ ρ' σ' Hf' H' := by
  refine ⟨R'.same, R.ent.trans R'.ent, R.ent2.trans R'.ent2, fun a o e => ?_, R'.len, fun i d o e => (no i o).elim, R'.dat, fun i j d e v n o => (no i o).elim⟩
  rcases R'.news a o e with z | z
  · exact R.news a o z
  · exact .inr (R.ent.free z)
theorem Rp.keep (no : ∀ i, ¬ Own Γ i) (R : Rp X.K X.mw g Γ ρ σ Hf H) : Rp X.K X.mw ⟨H, Hf⟩ Γ ρ σ Hf H :=
  ⟨R.same, Same.refl _, Same.refl _, fun a o e => .inl e, R.len, fun i d o e => (no i o).elim, R.dat, fun i j d e v n o => (no i o).elim⟩
theorem Rp.nw (R' : Rp X.K X.mw ⟨H, Hf⟩ Γ ρ' σ' Hf' H') : ∀ b o, Hf b = none → H b = some o → Hf' b = none := fun b o e1 e2 => by
  cases z : Hf' b with
  | none => rfl
  | some o' =>
    rcases R'.news b o' z with y | y
    · rw [show Hf b = some o' from y] at e1; cases e1
    · rw [show H b = none from y] at e2; cases e2
/-- a slot of which nothing is known -/
theorem Rp.dark (no : ∀ i, ¬ Own Γ i) (R : Rp X.K X.mw g Γ ρ σ Hf H) (j : Nat) (v : V) : Rp X.K X.mw g Γ (ρ.set j none) (σ.set j (some v)) Hf H := by
  refine ⟨R.same, R.ent, R.ent2, R.news, by simp [R.len], fun i d o e => (no i o).elim, fun i d o e => ?_, fun i j d e v n o => (no i o).elim⟩
  rw [List.getElem?_set] at e
  by_cases ij : j = i
  · rw [if_pos ij] at e
    split at e <;> simp at e
  · rw [if_neg ij] at e
    obtain ⟨u, eu, r⟩ := R.dat i d o e
    exact ⟨u, by rw [List.getElem?_set_ne ij]; exact eu, r⟩
theorem Rp.adr (R : Rp X.K X.mw g Γ ρ σ Hf H) {i : Nat} {a : Addr} (no : ¬ Own Γ i) (e : ρ[i]? = some (some (.adr a))) : σ[i]? = some (some (.ref a)) := by
  obtain ⟨v, ev, r⟩ := R.dat i _ no e
  simp only [IsD] at r
  subst r
  exact ev
/-- objects that nobody knows are changed or made -/
theorem Rp.any (no : ∀ i, ¬ Own Γ i) (R : Rp X.K X.mw g Γ ρ σ Hf H) {a : Addr} {o' : HO} (z0 : g.H0 a = none) (zf : Hf a = none) : Rp X.K X.mw g Γ ρ σ Hf (upd H a o') :=
  R.other z0 zf fun i e o => (no i o).elim
theorem ix_set {α : Type} {l : List (Option α)} {i : Nat} {x y : α} (h : l[i]? = some (some x)) : (l.set i (some y))[i]? = some (some y) := by
  have li := (List.getElem?_eq_some_iff.mp h).1
  rw [List.getElem?_set_self li]
theorem set_ix {α : Type} {l : List (Option α)} {i : Nat} {x : α} (h : l[i]? = some (some x)) : l.set i (some x) = l := by
  have li := (List.getElem?_eq_some_iff.mp h).1
  refine List.ext_getElem? fun n => ?_
  rw [List.getElem?_set]
  by_cases e : i = n
  · subst e; rw [if_pos rfl, if_pos li, h]
  · rw [if_neg e]
/-- what runs between -/
theorem frs_use {i : Nat} {f : Env → SO} (fr : FrS i f) {kvs : List (D × D)} (e : ρ[i]? = some (some (.dic kvs))) {r : Env} (h : f ρ = .nx r) (a : Addr) : f (ρ.set i (some (.adr a))) = .nx (r.set i (some (.adr a))) ∧ r.set i (some (.dic kvs)) = r := by
  refine ⟨by rw [fr ρ _, h]; rfl, ?_⟩
  have := fr ρ (.dic kvs)
  rw [set_ix e, h] at this
  exact (SO.nx.inj this).symm
theorem sR.keepEx {Dn : Ends} {x : Exn} (R : Rp X.K X.mw g Γ ρ σ Hf H) (h : sR X.K X.mw g E Γ1 Γl ro Dn (.ex x)) {Dn' : Ends} {ro' : Bool} {Γ1' Γl' : List Bool} : sR X.K X.mw ⟨H, Hf⟩ E Γ1' Γl' ro' Dn' (.ex x) :=
  fun c dd σ H' s ix => h c dd σ H' (R.ent.trans s) ix
/-- an empty dict, as one for whole numbers and texts -/
theorem Inv.plainDict {pins : List (Addr × Obj)} {s : Shared} {a : Addr} {o : HO} (I : Inv X pins σ H s) (hs : Same Hf H) (e : H a = some o) (hk : DicAt X.K X.mw Hf [] a o) : Inv X pins σ (upd H a (.dK [])) s := by
  obtain ⟨hsys, z, V0⟩ := view (k := .int 0) (y := .int 0) (u := .int 0 0) I hs (.inl e) hk (by simp only [IsD]) ⟨_, rfl⟩ (.inl ⟨rfl, fun _ h => by cases h⟩)
  cases V0 with
  | flat κ xs vs e1 e2 r1 r2 r3 r4 =>
    have hx : xs = [] := by simpa only [IsKVs] using r2
    subst hx
    have he : ∃ q, s.heap.get? a = some q := let ⟨q, _, _, hq, _⟩ := r4; ⟨q, hq⟩
    exact d_write (h' := s.heap) (t' := s.toks) I (by rw [e]; exact mut_of_own (H := fun _ => some o) (a := a) rfl hk) ⟨rfl, fun _ _ => rfl⟩ he (dk_new (Nat.zero_le _) hsys r3 r4)
  | deep b zs ws e1 => cases e1
noncomputable def sForR (i : Nat) (G : D → Env → Out Env) (it : Env → Out (List D)) (b : Env → SO) : Env → SO := fun ρ => chkS (ρ[i]? = some (some (.dic []))) (sFor G it b ρ)
end
end PD

namespace PD
open PySem PySem.Spec L2
open PyProof.Rows hiding St

section
variable {X : Cx} {g : G} {E : WX} {ro : Bool} {Γl Γ Γ0 : List Bool}
abbrev tRd (X : Cx) (E : WX) (Γ0 : List Bool) (m : Md) (f : Env → Out D) : TE := fun σ H Q => ∃ g' ρ Hf, Rp X.K X.mw g' Γ0 ρ σ Hf H ∧ tG X.K X.mw g' E Γ0 ρ σ Hf H (PV X g' Γ0 ρ σ m Q) (f ρ)
noncomputable abbrev mapK (kvs : List (D × D)) (κ : Key) (ds : List D) : List (D × D) := kvs.map fun p => @ite _ (p.1 = kD κ) (Classical.propDecidable _) (p.1, .lst ds) p
/-- the row in slot j grows by a value -/
theorem row_app {i j : Nat} {fv : Env → Out D} {r : Env} {σ : St} {Hf H : Hp} {a b : Addr} {kvs : List (D × D)} {xs : List (Key × V)} {Dn : Ends} {k2 : Env → SO} {Γl' : List Bool} {κ : Key} {ds : List D}
    (no : ∀ i, ¬ Own Γ0 i) (hij : i ≠ j) (frv : FrE i fv)
    (R : Rp X.K X.mw g Γ0 ((r.set j none).set i (some (.adr a))) (σ.set j (some (.ref b))) Hf H) (lj : j < r.length) (dp : Deep X.K X.mw g.H0 Hf H a kvs xs) (vb : valV xs κ = some (.ref b)) (dg : dicGet kvs (kD κ) = some (.lst ds))
    (k : sR X.K X.mw g E Γ0 Γl' ro Dn ((oS (fv (r.set j none)) fun v => chkS (ds.length < sizeLine) (.nx ((r.set j none).set i (some (.dic (mapK kvs κ (ds ++ [v]))))))).andThen k2))
    {Nx : St → Hp → Prop} (nx : ∀ (r' : Env) (kvs' : List (D × D)) (xs' : List (Key × V)) (σ' : St) (Hf' H' : Hp), Same Hf Hf' → r'[i]? = some (some (.dic kvs')) → Rp X.K X.mw g Γ0 (r'.set i (some (.adr a))) σ' Hf' H' → Deep X.K X.mw g.H0 Hf' H' a kvs' xs' →
      sR X.K X.mw g E Γ0 Γl' ro Dn (k2 r') → Nx σ' H') (li : i < r.length) :
    (tDrop (tBM X.K "list" rAppend (tVar j) (tCons (tRd X E Γ0 .fr fv) tNil))) ⟨Nx, Dn.rt, Dn.bk, Dn.ct⟩ (σ.set j (some (.ref b))) H := by
  have ls : σ.length = r.length := by have := R.len; simpa using this
  have ej : (σ.set j (some (V.ref b)))[j]? = some (some (.ref b)) := by rw [List.getElem?_set_self (by omega)]
  obtain ⟨ds0, b0, ys, e1, e2, z0, zf, hb, rb⟩ : RowAt X.K X.mw g.H0 Hf H (.lst ds) (.ref b) := by
    have := dp.rows.get κ
    rw [dg] at this
    obtain ⟨v, ev, ra⟩ := this
    rw [vb] at ev
    cases ev
    exact ra
  cases e1
  obtain rfl : b = b0 := V.ref.inj e2
  refine ⟨_, ej, .inl ⟨rfl, ys, SqL.of hb⟩, ⟨H, Hf⟩, _, Hf, R.keep no, ?_⟩
  rw [frv _ (.adr a)]
  cases hv : fv (r.set j none) with
  | stuck => rw [hv] at k; exact k.elim
  | exc x =>
    rw [hv] at k
    exact fun c dd Hf' H' s1 s2 R' ix => k c dd _ H' (R.ent.trans s2) ix
  | ok vd =>
  rw [hv, oS_ok] at k
  intro Hf1 H1 s1 s2 R1 u hu
  have D1 := dp.mono s1 s2 R1.nw
  have R1' := Rp.out no R R1
  by_cases c : ds.length < sizeLine
  · rw [chkS_pos c] at k
    have hu' : IsD X.K X.mw Hf1 vd u := hu
    have hb1 := s2 _ _ hb
    refine ⟨b, ys, u, rfl, rfl, hb1, by rw [rb.len]; exact c, ?_⟩
    have zf1 := R1.nw b _ zf hb
    refine nx _ _ xs _ _ _ s1 (List.getElem?_set_self (by simpa using li)) ?_ ⟨?_, D1.z0, D1.zf, Rows.grow ((IsDs.mono s1 rb).snoc hu') D1.n1 D1.n2 vb D1.rows, D1.n1, D1.n2⟩ k
    · rw [List.set_set]
      exact R1'.any no z0 zf1
    · rw [upd_ne (fun z => by rw [← z, D1.at_] at hb1; cases hb1)]
      exact D1.at_
  · rw [chkS_neg c] at k; exact k.elim
/-- one turn's pair, told of what stands -/
theorem row_step {i j : Nat} {fk fv : Env → Out D} {r : Env} {σ : St} {Hf H : Hp} {a : Addr} {kvs : List (D × D)} {xs : List (Key × V)} {Dn : Ends} {k2 : Env → SO} {Γl' : List Bool}
    (no : ∀ i, ¬ Own Γ0 i) (hij : i ≠ j) (frk : FrE i fk) (frv : FrE i fv)
    (R : Rp X.K X.mw g Γ0 (r.set i (some (.adr a))) σ Hf H) (ei : r[i]? = some (some (.dic kvs))) (dp : Deep X.K X.mw g.H0 Hf H a kvs xs)
    (k : sR X.K X.mw g E Γ0 Γl' ro Dn ((sRow i j fk fv r).andThen k2))
    {Nx : St → Hp → Prop} (nx : ∀ (r' : Env) (kvs' : List (D × D)) (xs' : List (Key × V)) (σ' : St) (Hf' H' : Hp), Same Hf Hf' → r'[i]? = some (some (.dic kvs')) → Rp X.K X.mw g Γ0 (r'.set i (some (.adr a))) σ' Hf' H' → Deep X.K X.mw g.H0 Hf' H' a kvs' xs' →
      sR X.K X.mw g E Γ0 Γl' ro Dn (k2 r') → Nx σ' H') :
    (tAsg (tDSetd (tVar i) (tRd X E Γ0 .rd fk) (tLst tNil)) (gName j)) ⟨fun σ2 H2 => (tDrop (tBM X.K "list" rAppend (tVar j) (tCons (tRd X E Γ0 .fr fv) tNil)))
      ⟨Nx, Dn.rt, Dn.bk, Dn.ct⟩ σ2 H2, Dn.rt, Dn.bk, Dn.ct⟩ σ H := by
  have ea : (r.set i (some (.adr a)))[i]? = some (some (.adr a)) := ix_set ei
  have es : σ[i]? = some (some (.ref a)) := R.adr (no i) ea
  have li : i < r.length := (List.getElem?_eq_some_iff.mp ei).1
  refine ⟨_, es, a, rfl, .inl ⟨xs, .inl dp.at_⟩, ⟨H, Hf⟩, _, Hf, R.keep no, ?_⟩
  rw [frk r (.adr a)]
  unfold sRow at k
  rw [ei] at k
  simp only at k
  cases hk : fk r with
  | stuck => rw [hk] at k; exact k.elim
  | exc x => rw [hk] at k; exact fun c dd Hf' H' s1 s2 R' ix => k c dd σ H' (R.ent.trans s2) ix
  | ok kd =>
  rw [hk, oS_ok] at k
  intro Hf1 H1 s1 s2 R1 vk hvk
  have D1 := dp.mono s1 s2 R1.nw
  have R1' := Rp.out no R R1
  refine ⟨Nat.zero_le _, fun p np => ?_⟩
  obtain ⟨sp, R2, z0p, zfp, _⟩ := R1'.newO (.lst []) np
  have D2 := D1.mono (Same.refl _) sp fun b o e _ => e
  have npv : ∀ v ∈ xs.map (·.2), v ≠ .ref p := fun v hv e => by
    obtain ⟨b, ys, eb, hb, _⟩ := D1.rows.vals v hv
    rw [e] at eb
    obtain rfl : p = b := V.ref.inj eb
    rw [np] at hb; cases hb
  -- the key is flat, by what is told of the row's value
  have key : ∃ κ, kd = kD κ ∧ kvs.length < sizeLine ∧ j < r.length ∧ match dicGet kvs kd with
      | some (.lst ds) => sR X.K X.mw g E Γ0 Γl' ro Dn ((oS (fv (r.set j none)) fun v => chkS (ds.length < sizeLine) (.nx ((r.set j none).set i (some (.dic (dicPut kvs kd (.lst (ds ++ [v])))))))).andThen k2)
      | some _ => False
      | none => sR X.K X.mw g E Γ0 Γl' ro Dn ((oS (fv (r.set j none)) fun v => chkS (([] : List D).length < sizeLine) (.nx ((r.set j none).set i (some (.dic (dicPut kvs kd (.lst ([] ++ [v])))))))).andThen k2) := by
    by_cases c : flatK kd = true ∧ kvs.length < sizeLine ∧ j < r.length
    · rw [chkS_pos c] at k
      obtain ⟨κ, e⟩ := flat_kD c.1
      refine ⟨κ, e, c.2.1, c.2.2, ?_⟩
      cases dg : dicGet kvs kd with
      | none => rw [dg] at k; exact k
      | some d =>
        rw [dg] at k
        cases d with
        | lst ds => exact k
        | _ => exact k.elim
    · rw [chkS_neg c] at k; exact k.elim
  obtain ⟨κ, rfl, hl, lj, hg⟩ := key
  have evk : vk = kV κ := by
    refine isd_flat (K := X.K) (mg := X.mw) (Hf := Hf1) ?_
    cases κ <;> exact hvk
  have hget := D1.rows.get κ
  refine ⟨xs, κ, ?_, evk, ?_, ?_, ?_⟩
  · exact D2.at_
  · rw [D1.rows.len]; exact hl
  · intro v hv
    cases dg : dicGet kvs (kD κ) with
    | none => rw [dg] at hget; rw [hget] at hv; cases hv
    | some d =>
      rw [dg] at hget hg
      obtain ⟨v', ev', ra⟩ := hget
      rw [hv] at ev'
      obtain rfl : v = v' := Option.some.inj ev'
      obtain ⟨ds, b, ys, rfl, rfl, _⟩ := ra
      refine row_app (kvs := kvs) (xs := xs) (κ := κ) (ds := ds) no hij frv ?_ lj D2 hv dg ?_ (fun r' kvs' xs' σ' Hf' H' s => nx r' kvs' xs' σ' Hf' H' (s1.trans s)) li
      · rw [List.set_comm _ _ (Ne.symm hij)]
        exact R2.dark no j _
      · have : ∀ v, dicPut kvs (kD κ) (.lst (ds ++ [v])) = mapK kvs κ (ds ++ [v]) := fun v => by
          unfold dicPut
          rw [if_pos (by rw [dicGet_any, dg]; rfl)]
        simp only [this] at hg
        exact hg
  · intro hv
    cases dg : dicGet kvs (kD κ) with
    | some d =>
      rw [dg] at hget
      obtain ⟨v', ev', ra⟩ := hget
      rw [hv] at ev'; cases ev'
    | none =>
      rw [dg] at hg
      have ap : a ≠ p := fun z => by rw [← z] at np; rw [D1.at_] at np; cases np
      have eput : putK xs κ (.ref p) = xs ++ [(κ, .ref p)] := by
        unfold putK
        rw [if_neg (by rw [valV_any, hv]; exact Bool.false_ne_true)]
      have nk : κ ∉ xs.map (·.1) := fun m => by
        obtain ⟨q, hq, e⟩ := List.mem_map.mp m
        have := valV_any κ xs
        rw [hv] at this
        have h2 : (xs.any fun kv => decide (kv.1 = κ)) = true := List.any_eq_true.mpr ⟨q, hq, decide_eq_true e⟩
        rw [this] at h2; cases h2
      refine row_app (kvs := kvs ++ [(kD κ, .lst [])]) (xs := xs ++ [(κ, .ref p)]) (κ := κ) (ds := []) no hij frv ?_ lj ⟨?_, D1.z0, D1.zf, ?_, ?_, ?_⟩ ?_ ?_ ?_ (fun r' kvs' xs' σ' Hf' H' s => nx r' kvs' xs' σ' Hf' H' (s1.trans s)) li
      · rw [List.set_comm _ _ (Ne.symm hij)]
        exact (R2.any no D2.z0 D2.zf).dark no j _
      · rw [eput]; exact upd_same
      · refine Rows.snoc (ys' := []) (by simp only [IsDs]) z0p zfp ?_ ?_
        · rw [upd_ne (Ne.symm ap)]; exact upd_same
        · refine Rows.other (fun m => ?_) D2.rows
          obtain ⟨b, ys, eb, hb, _⟩ := D1.rows.vals _ m
          obtain rfl : a = b := V.ref.inj eb
          rw [D1.at_] at hb; cases hb
      · rw [List.map_append, List.nodup_append]
        refine ⟨D1.n1, by simp, fun x hx y hy e => ?_⟩
        simp at hy
        subst hy; subst e
        exact nk hx
      · rw [List.map_append, List.nodup_append]
        refine ⟨D1.n2, by simp, fun x hx y hy e => ?_⟩
        simp at hy
        subst hy; subst e
        exact npv _ hx rfl
      · rw [valV_snoc κ κ (.ref p) xs hv, if_pos rfl]
      · have h0 : ∀ l : List (D × D), dicGet l (kD κ) = none → dicGet (l ++ [(kD κ, D.lst [])]) (kD κ) = some (.lst []) := by
          intro l
          induction l with
          | nil => intro _; exact dicGet_pos rfl
          | cons q l ih =>
            intro h
            by_cases z : q.1 = kD κ
            · rw [dicGet_pos z] at h; cases h
            · rw [dicGet_neg z] at h
              rw [List.cons_append, dicGet_neg z]
              exact ih h
        exact h0 kvs dg
      · have : ∀ v, dicPut kvs (kD κ) (.lst ([] ++ [v])) = mapK (kvs ++ [(kD κ, .lst [])]) κ ([] ++ [v]) := fun v => by
          unfold dicPut mapK
          rw [if_neg (by rw [dicGet_any, dg]; exact Bool.false_ne_true), List.map_append, List.map_cons, List.map_nil, if_pos rfl]
          have id : ∀ l : List (D × D), dicGet l (kD κ) = none → l.map (fun p => @ite _ (p.1 = kD κ) (Classical.propDecidable _) (p.1, D.lst ([] ++ [v])) p) = l := by
            intro l
            induction l with
            | nil => intro _; rfl
            | cons q l ih =>
              intro h
              by_cases z : q.1 = kD κ
              · rw [dicGet_pos z] at h; cases h
              · rw [dicGet_neg z] at h
                rw [List.map_cons, if_neg z, ih h]
          rw [id kvs dg]
        simp only [this] at hg
        exact hg
variable {pos : Pos}
def oneB (Γ : List Bool) (i : Nat) : Bool := (List.range Γ.length).all fun k => !(Γ.getD k false) || k == i
theorem one_of {Γ : List Bool} {i : Nat} (h : oneB Γ i = true) : ∀ k, Own Γ k → k = i := fun k o => by
  have lk : k < Γ.length := by
    cases Nat.lt_or_ge k Γ.length with
    | inl z => exact z
    | inr z => unfold Own at o; rw [List.getD_eq_getElem?_getD, List.getElem?_eq_none z] at o; cases o
  have := List.all_eq_true.mp h k (List.mem_range.mpr lk)
  unfold Own at o
  rw [o] at this
  simpa using this
theorem nxs_row {i j : Nat} {fk fv : Env → Out D} : NxS (sRow i j fk fv) := fun ρ => by
  unfold sRow
  split
  · rename_i kvs _
    cases fk ρ with
    | exc x => exact .inr (.inl ⟨x, rfl⟩)
    | stuck => exact .inr (.inr rfl)
    | ok kd =>
      rw [oS_ok]
      by_cases c : flatK kd = true ∧ kvs.length < sizeLine ∧ j < ρ.length
      · rw [chkS_pos c]
        split
        · cases fv (ρ.set j none) with
          | exc x => exact .inr (.inl ⟨x, rfl⟩)
          | stuck => exact .inr (.inr rfl)
          | ok v =>
            rename_i ds _
            rw [oS_ok]
            by_cases c : ds.length < sizeLine
            · rw [chkS_pos c]; exact .inl ⟨_, rfl⟩
            · rw [chkS_neg c]; exact .inr (.inr rfl)
        · exact .inr (.inr rfl)
      · rw [chkS_neg c]; exact .inr (.inr rfl)
  · exact .inr (.inr rfl)
theorem psx_rows {tg iter ek ev : Expr} {s1 s2 s3 : Stmt} {i j : Nat} {xd xr : Str} {p0 p1 p2 p3 p4 p5 p6 p7 p8 p9 : Pos} {G : D → Env → Out Env} {it : Env → Out (List D)} {f1 f2 f3 : Env → SO} {fk fv : Env → Out D} {ws : List Nat}
    (hp : PassesOwn (model X.prog X.w) X.A X.env X.xe) (hc : X.calm = true) (hN : X.N.Nodup) (hj : X.N[j]? = some xr) (hxr : Loc X.env.scope xr) (hd : ∀ p, PE X (.Name xd p) (tVar i)) (hr : ∀ p, PE X (.Name xr p) (tVar j))
    (no : ∀ k, ¬ Own Γ0 k) (one : ∀ k, Own Γ k → k = i) (hi0 : Γ.getD i false = true) (hij : i ≠ j)
    (hi : ∀ g : PD.G, PIx X g E Γ0 tg iter Γ0 it) (hg : ∀ g : PD.G, PGx X g Γ0 tg Γ0 G ws) (nx : ∀ d ρ x, G d ρ ≠ .exc x)
    (h1 : ∀ g : PD.G, PSx X g E ro Γ0 Γ0 s1 Γ0 f1) (h2 : ∀ g : PD.G, PSx X g E ro Γ0 Γ0 s2 Γ0 f2) (hk : ∀ g : PD.G, PX X g E Γ0 ek Γ0 .rd fk) (hv : ∀ g : PD.G, PX X g E Γ0 ev Γ0 .fr fv) (h3 : ∀ g : PD.G, PSx X g E ro Γ0 Γ0 s3 Γ0 f3)
    (ri : FrE i it) (rg : FrG i G) (r1 : FrS i f1) (r2 : FrS i f2) (rk : FrE i fk) (rv : FrE i fv) (r3 : FrS i f3) (n1 : NxS f1) (n2 : NxS f2) (n3 : NxS f3)
    (m : M2 X (.Name xd p0) "setdefault" p1 ek (.List [] p2) p3)
    (hsA : swapsWith (.Call (.Attribute (.Name xd p0) "setdefault" p1) [ek, .List [] p2] [] p3) (some (.Name xr p4)) p5.line X.env = pure false := by rfl)
    (hbase : attributeBase (.Name xr p6) "append" X.env (eval (.Name xr p6) X.env) = eval (.Name xr p6) X.env := by rfl)
    (hfew : ((backTo p8 (starEach (ev :: []) X.env)).all (fun x => !x.1) && (backToKw p8 (keywordEach [] X.env)).all (fun x => x.1.isSome)
      && decide ((ev :: []).length + ([] : List Keyword).length + (if ([] : List Keyword).isEmpty then 0 else 1) < 30)) = true := by rfl)
    (hline : (p7.endLine == p8.line) = true := by rfl) (hstar : starEach (ev :: []) X.env = (false, eval ev X.env) :: starEach [] X.env := by rfl) (hplain : (backTo p8 (starEach [] X.env)).any (·.1) = false := by rfl)
    (hsB : swapsWith (.Call (.Attribute (.Name xr p6) "append" p7) [ev] [] p8) none p9.line X.env = pure false := by rfl)
    (hf : X.fn xr = true ∨ X.env.scope.names.lookup xr = some .local := by first | exact .inl rfl | exact .inr rfl | assumption)
    (hs : ∀ x, foldedSetIterable iter X.env x = pure x := by intro _; rfl) :
    PSx X g E ro Γl Γ (.For tg iter [s1, s2, .Assign [.Name xr p4] (.Call (.Attribute (.Name xd p0) "setdefault" p1) [ek, .List [] p2] [] p3) p5, .Expr (.Call (.Attribute (.Name xr p6) "append" p7) [ev] [] p8) p9, s3] [] pos) Γ0
      (sForR i G it (sSeq f1 (sSeq f2 (sSeq (sRow i j fk fv) f3)))) := by
  refine ⟨⟨fun pins s σ H Dn I ⟨ρ, Hf, R, q⟩ => ?_⟩⟩
  unfold sForR at q
  by_cases e0' : ¬ (ρ[i]? = some (some (.dic [])))
  · rw [chkS_neg e0'] at q; exact q.elim
  have e0 := Classical.not_not.mp e0'
  rw [chkS_pos e0] at q
  obtain ⟨v0, es, a, o, rfl, z0, zf, ea, da⟩ := R.own i _ hi0 e0
  have I' := Inv.plainDict I R.same ea da
  -- the dict becomes an address
  have Ra : Rp X.K X.mw g Γ0 (ρ.set i (some (.adr a))) σ Hf (upd H a (.dK [])) := by
    refine ⟨fun b x e => ?_, fun b x e => ?_, R.ent2, R.news, by simp [R.len], fun k d o' => (no k o').elim, fun k d _ e => ?_, fun k l d e v n o' => (no k o').elim⟩
    · rw [upd_ne (ne_of_none e zf)]; exact R.same _ _ e
    · rw [upd_ne (ne_of_none e z0)]; exact R.ent _ _ e
    · rcases set_get e with ⟨rfl, _, rfl⟩ | ⟨n, e'⟩
      · exact ⟨_, es, by simp only [IsD]⟩
      · exact R.dat k d (fun o' => n (one k o').symm) e'
  have D0 : Deep X.K X.mw g.H0 Hf (upd H a (.dK [])) a [] [] := ⟨upd_same, z0, zf, rfl, List.nodup_nil, List.nodup_nil⟩
  have P1 : PS X s1 (fun Dn σ H => ∃ g ρ Hf, Rp X.K X.mw g Γ0 ρ σ Hf H ∧ sR X.K X.mw g E Γ0 Γ0 ro Dn (f1 ρ)) := ⟨fun pins s σ H D I ⟨g', z⟩ => (h1 g').ps.run pins s σ H D I z⟩
  have P2 : PS X s2 (fun Dn σ H => ∃ g ρ Hf, Rp X.K X.mw g Γ0 ρ σ Hf H ∧ sR X.K X.mw g E Γ0 Γ0 ro Dn (f2 ρ)) := ⟨fun pins s σ H D I ⟨g', z⟩ => (h2 g').ps.run pins s σ H D I z⟩
  have P3 : PS X s3 (fun Dn σ H => ∃ g ρ Hf, Rp X.K X.mw g Γ0 ρ σ Hf H ∧ sR X.K X.mw g E Γ0 Γ0 ro Dn (f3 ρ)) := ⟨fun pins s σ H D I ⟨g', z⟩ => (h3 g').ps.run pins s σ H D I z⟩
  have PK : PE X ek (tRd X E Γ0 .rd fk) := ⟨fun pins s σ H D I ⟨g', z⟩ => (hk g').pe.run pins s σ H D I z⟩
  have PV' : PE X ev (tRd X E Γ0 .fr fv) := ⟨fun pins s σ H D I ⟨g', z⟩ => (hv g').pe.run pins s σ H D I z⟩
  have HI : PI X tg iter (fun σ H R => ∃ g ρ Hf, Rp X.K X.mw g Γ0 ρ σ Hf H ∧ tG X.K X.mw g E Γ0 ρ σ Hf H (fun ds Hf' H' => ∀ J, Walks X.K X.mw g.H0 J Hf' ds → R J H') (it ρ)) := ⟨fun pins s σ H R I ⟨g', z⟩ => (hi g').pi.run pins s σ H R I z⟩
  have HG : PG X tg (fun v σ H Q => ∃ g d ρ Hf, Rp X.K X.mw g Γ0 ρ σ Hf H ∧ IsD X.K X.mw Hf d v ∧ ∃ ρ', G d ρ = .ok ρ' ∧ ∀ σ', Rp X.K X.mw g Γ0 ρ' σ' Hf H → Q σ' H) :=
    ⟨fun pins s σ H v u Q I r ⟨g', d, ρ, Hf, R, i, ρ', e, q⟩ => (hg g').pg.run pins s σ H v u Q I r ⟨d, ρ, Hf, R, i, ρ', e, fun σ' _ => q σ'⟩⟩
  have SA := ps_set (pos' := p4) (pos := p5) hN hj hxr (pe_dsetd (cpos := p3) (hd p0) PK (pe_lst (pos := p2) pa_nil) m) hsA hf
  have SB := ps_expr (pos := p9) (pe_bm PySem.F.plainAttrs_list PySem.F.slot_list_append PySem.F.type_list_append mt_append (hr p6) (pa_cons PV' pa_nil hstar) hbase hfew hline hstar hplain) hsB
  have HB := pss_cons P1 (pss_cons P2 (pss_cons SA (pss_cons SB (pss_one P3))))
  refine (ps_for hp hc HI HG HB hs).run pins s σ _ Dn I' ⟨⟨upd H a (.dK []), Hf⟩, _, Hf, Ra.keep no, ?_⟩
  unfold sFor at q
  rw [ri ρ (.adr a)]
  cases hit : it ρ with
  | stuck => rw [hit] at q; exact q.elim
  | exc x => rw [hit] at q; exact fun c dd Hf' H' s1 s2 R' ix => q c dd _ H' (Ra.ent.trans s2) ix
  | ok ds =>
  rw [hit, oS_ok] at q
  intro F1 H1 s1 s2 R1 J wk
  have Ra1 := Rp.out no Ra R1
  have D1 := D0.mono s1 s2 R1.nw
  refine ⟨fun n m σ H => m = ds.length - n ∧ n ≤ ds.length ∧ ∃ ρ kvs xs Hf, Same F1 Hf ∧ ρ.set i (some (.dic kvs)) = ρ ∧ Rp X.K X.mw g Γ0 (ρ.set i (some (.adr a))) σ Hf H ∧ Deep X.K X.mw g.H0 Hf H a kvs xs ∧ sR X.K X.mw g E Γ0 Γl ro Dn (forL G (sSeq f1 (sSeq f2 (sSeq (sRow i j fk fv) f3))) (ds.drop n) ρ),
    ⟨ds.length, by simp, Nat.zero_le _, ρ, [], [], F1, Same.refl _, set_ix e0, Ra1, D1, q⟩, ?_⟩
  rintro n m σ2 H2 ⟨rfl, hn, ρ2, kvs, xs, Hf2, sF, e2, R2, D2, k2⟩
  have ws2 := wk ⟨H2, Hf2⟩ Γ0 _ σ2 Hf2 H2 sF (R2.keep no) n
  by_cases hlt' : ¬ n < ds.length
  · have e : n = ds.length := by omega
    subst e
    refine .inl ⟨ws2.2 (Nat.le_refl _), ?_⟩
    rw [List.drop_length] at k2
    -- all becomes data
    let pz : Addr → Prop := fun b => b = a ∨ V.ref b ∈ xs.map (·.2)
    have dz : ∀ b, Decidable (pz b) := fun b => Classical.propDecidable _
    have sm1 : Same Hf2 (fun b => @ite _ (pz b) (dz b) (H2 b) (Hf2 b)) := fun b x e => by
      show @ite _ (pz b) (dz b) (H2 b) (Hf2 b) = some x
      by_cases h : pz b
      · rw [if_pos h]; exact R2.same _ _ e
      · rw [if_neg h]; exact e
    refine k2 σ2 (fun b => @ite _ (pz b) (dz b) (H2 b) (Hf2 b)) H2 ⟨fun b x e => ?_, R2.ent, R2.ent2.trans sm1, fun b x e => ?_, by have := R2.len; simpa using this, fun k d o' => (no k o').elim, fun k d _ e => ?_, fun k l d e v n o' => (no k o').elim⟩
    · have e' : @ite _ (pz b) (dz b) (H2 b) (Hf2 b) = some x := e
      by_cases h : pz b
      · rw [if_pos h] at e'; exact e'
      · rw [if_neg h] at e'; exact R2.same _ _ e'
    · have e' : @ite _ (pz b) (dz b) (H2 b) (Hf2 b) = some x := e
      by_cases h : pz b
      · rcases h with rfl | h
        · exact .inr D2.z0
        · obtain ⟨c, ys, ec, hc', zc, _⟩ := D2.rows.vals _ h
          obtain rfl : b = c := V.ref.inj ec
          exact .inr zc
      · rw [if_neg h] at e'; exact R2.news b x e'
    · by_cases hk' : k = i
      · subst hk'
        have e3 := ix_set (y := D.dic kvs) e
        rw [e2, e] at e3
        obtain rfl : d = D.dic kvs := Option.some.inj (Option.some.inj e3)
        refine ⟨_, R2.adr (no k) (ix_set e), ?_⟩
        simp only [IsD]
        refine ⟨a, .dK xs, rfl, .inl ?_, .inl ⟨xs, rfl, Rows.data sm1 (fun v hv b eb => ?_) D2.rows⟩⟩
        · show @ite _ (pz a) (dz a) (H2 a) (Hf2 a) = _
          rw [if_pos (.inl rfl)]; exact D2.at_
        · show @ite _ (pz b) (dz b) (H2 b) (Hf2 b) = H2 b
          exact if_pos (.inr (eb ▸ hv))
      · obtain ⟨v, ev', hv'⟩ := R2.dat k d (no k) (by rw [List.getElem?_set_ne (Ne.symm hk')]; exact e)
        exact ⟨v, ev', hv'.mono sm1⟩
  · have hlt := Classical.not_not.mp hlt'
    have ed : ds[n]? = some ds[n] := by simp [hlt]
    have hd' : ds.drop n = ds[n] :: ds.drop (n + 1) := List.drop_eq_getElem_cons hlt
    obtain ⟨go, yl⟩ := ws2.1 _ ed
    refine .inr ⟨go, fun σ3 H3 => ∃ ρ kvs xs Hf, Same F1 Hf ∧ ρ.set i (some (.dic kvs)) = ρ ∧ Rp X.K X.mw g Γ0 (ρ.set i (some (.adr a))) σ3 Hf H3 ∧ Deep X.K X.mw g.H0 Hf H3 a kvs xs ∧ sR X.K X.mw g E Γ0 Γl ro Dn (forL G (sSeq f1 (sSeq f2 (sSeq (sRow i j fk fv) f3))) (ds.drop (n + 1)) ρ),
      fun σ3 H3 z => ⟨ds.length - (n + 1), by omega, rfl, hlt, z⟩, fun x H' y => ?_⟩
    obtain ⟨Hf3, s3, s4, R3k, hx⟩ := yl x H' y
    have R3 := Rp.out no R2 R3k
    have D3 := D2.mono s3 s4 R3k.nw
    rw [hd'] at k2
    unfold forL at k2
    cases hG : G ds[n] ρ2 with
    | exc x => exact absurd hG (nx _ _ x)
    | stuck => rw [hG] at k2; exact k2.elim
    | ok ρ3 =>
    rw [hG, oS_ok] at k2
    have g1 := rg ds[n] ρ2 (.adr a)
    have g2 := rg ds[n] ρ2 (.dic kvs)
    rw [hG] at g1
    rw [e2, hG] at g2
    have e3 : ρ3.set i (some (.dic kvs)) = ρ3 := (Out.ok.inj g2).symm
    refine ⟨g, ds[n], _, Hf3, R3, hx, _, g1, fun σ4 R4 => ?_⟩
    generalize hk3 : (fun r => forL G (sSeq f1 (sSeq f2 (sSeq (sRow i j fk fv) f3))) (ds.drop (n + 1)) r) = kl at k2
    have use : ∀ {f : Env → SO} {ρ r : Env}, FrS i f → ρ.set i (some (.dic kvs)) = ρ → f ρ = .nx r → f (ρ.set i (some (.adr a))) = .nx (r.set i (some (.adr a))) ∧ r.set i (some (.dic kvs)) = r := fun {f ρ r} fr e h => by
      refine ⟨by rw [fr ρ _, h]; rfl, ?_⟩
      have := fr ρ (.dic kvs)
      rw [e, h] at this
      exact (SO.nx.inj this).symm
    -- first
    refine ⟨⟨H', Hf3⟩, _, Hf3, R4.keep no, ?_⟩
    have t1 : ∀ {f k : Env → SO} {ρ : Env}, sSeq f k ρ = (f ρ).andThen k := rfl
    rw [t1] at k2
    rcases n1 ρ3 with ⟨r, h⟩ | ⟨x, h⟩ | h
    rotate_left
    · rw [h] at k2; rw [r1 ρ3, h]; exact fun c dd σ H5 s ix => k2 c dd σ H5 (R4.ent.trans s) ix
    · rw [h] at k2; exact k2.elim
    obtain ⟨u1, e4⟩ := use r1 e3 h
    rw [h, andThen_nx, t1] at k2
    rw [u1]
    intro σ5 Hf5 H5 R5k
    have R5 := Rp.out no R4 R5k
    have D5 := D3.mono R5k.ent2 R5k.ent R5k.nw
    -- second
    refine ⟨⟨H5, Hf5⟩, _, Hf5, R5.keep no, ?_⟩
    rcases n2 r with ⟨r', h'⟩ | ⟨x, h'⟩ | h'
    rotate_left
    · rw [h'] at k2; rw [r2 r, h']; exact fun c dd σ H5 s ix => k2 c dd σ H5 (R5.ent.trans s) ix
    · rw [h'] at k2; exact k2.elim
    obtain ⟨u2, e5⟩ := use r2 e4 h'
    rw [h', andThen_nx, t1] at k2
    rw [u2]
    intro σ6 Hf6 H6 R6k
    have R6 := Rp.out no R5 R6k
    have D6 := D5.mono R6k.ent2 R6k.ent R6k.nw
    have sF6 : Same F1 Hf6 := ((sF.trans s3).trans R5k.ent2).trans R6k.ent2
    have e6 : r'[i]? = some (some (.dic kvs)) := by
      cases q6 : r'[i]? with
      | none => rw [show sRow i j fk fv r' = .stuck by unfold sRow; rw [q6]] at k2; exact k2.elim
      | some o6 =>
        cases o6 with
        | none => rw [show sRow i j fk fv r' = .stuck by unfold sRow; rw [q6]] at k2; exact k2.elim
        | some d6 =>
          have e7 := ix_set (y := D.dic kvs) q6
          rw [e5, q6] at e7
          exact e7
    have t2 : ((sSeq (sRow i j fk fv) f3 r').turn kl) = (sRow i j fk fv r').andThen fun r => (f3 r).turn kl := by
      rw [t1]
      rcases nxs_row (i := i) (j := j) (fk := fk) (fv := fv) r' with ⟨w, h⟩ | ⟨x, h⟩ | h <;> rw [h] <;> rfl
    have k3 : sR X.K X.mw g E Γ0 Γl ro Dn ((sRow i j fk fv r').andThen fun r => (f3 r).turn kl) := by
      rw [← t2]; exact k2
    refine row_step (Γl' := Γl) (Dn := Dn) (k2 := fun r => (f3 r).turn kl) no hij rk rv R6 e6 D6 k3 fun r7 kvs7 xs7 σ7 Hf7 H7 s7 e7 R7 D7 k7 => ?_
    refine ⟨⟨H7, Hf7⟩, _, Hf7, R7.keep no, ?_⟩
    rcases n3 r7 with ⟨r8, h8⟩ | ⟨x, h8⟩ | h8
    rotate_left
    · rw [h8] at k7; rw [r3 r7, h8]; exact fun c dd σ H5 s ix => k7 c dd σ H5 (R7.ent.trans s) ix
    · rw [h8] at k7; exact k7.elim
    have u3 : f3 (r7.set i (some (.adr a))) = .nx (r8.set i (some (.adr a))) ∧ r8.set i (some (.dic kvs7)) = r8 := by
      refine ⟨by rw [r3 r7 _, h8]; rfl, ?_⟩
      have := r3 r7 (.dic kvs7)
      rw [set_ix e7, h8] at this
      exact (SO.nx.inj this).symm
    rw [u3.1]
    intro σ9 Hf9 H9 R9k
    have R9 := Rp.out no R7 R9k
    have D9 := D7.mono R9k.ent2 R9k.ent R9k.nw
    rw [h8] at k7
    refine ⟨r8, kvs7, xs7, Hf9, (sF6.trans s7).trans R9k.ent2, u3.2, R9, D9, ?_⟩
    rw [← hk3] at k7
    exact k7
theorem sForR_ap (i : Nat) (G : D → Env → Out Env) (it : Env → Out (List D)) (b : Env → SO) (ρ : Env) : sForR i G it b ρ = chkS (ρ[i]? = some (some (.dic []))) (oS (it ρ) fun ds => forL G b ds ρ) := rfl
/-- slot i's dict -/
def eD (i : Nat) : Env → Out (List (D × D)) := fun ρ => match ρ[i]? with
  | some (some (.dic xs)) => .ok xs
  | _ => .stuck
theorem eD_0 (xs : List (D × D)) (ρ : Env) : eD 0 (some (.dic xs) :: ρ) = .ok xs := rfl
theorem eD_s (i : Nat) (x : Option D) (ρ : Env) : eD (i + 1) (x :: ρ) = eD i ρ := by simp [eD]
/-- a list's value, or none -/
def asL : Option D → Out (List D)
  | none => .ok []
  | some (.lst ds) => .ok ds
  | _ => .stuck
theorem asL_none : asL none = .ok [] := rfl
theorem asL_some (ds : List D) : asL (some (.lst ds)) = .ok ds := rfl
theorem sRow_ap (i j : Nat) (fk fv : Env → Out D) (ρ : Env) : sRow i j fk fv ρ = oS (eD i ρ) fun kvs => oS (fk ρ) fun k => chkS (flatK k = true ∧ kvs.length < sizeLine ∧ j < ρ.length) (oS (asL (dicGet kvs k)) fun ds => oS (fv (ρ.set j none)) fun v => chkS (ds.length < sizeLine) (.nx ((ρ.set j none).set i (some (.dic (dicPut kvs k (.lst (ds ++ [v]))))))) ) := by
  unfold sRow eD
  cases ρ[i]? with
  | none => rfl
  | some o =>
    cases o with
    | none => rfl
    | some d =>
      cases d with
      | dic kvs =>
        show (oS (fk ρ) fun k => _) = oS (Out.ok kvs) fun kvs => oS (fk ρ) fun k => _
        rw [oS_ok]
        congr 1
        funext k
        congr 1
        cases dicGet kvs k with
        | none => rfl
        | some d => cases d <;> rfl
      | _ => rfl
end
end PD

namespace PD
open PySem PySem.Spec L2
open PyProof.Rows hiding St

/-! ## conditions go outward -/
theorem chk_bind {α β : Type} (p : Prop) (o : Out α) (k : α → Out β) : (chk p o).bind k = chk p (o.bind k) := by
  by_cases h : p
  · rw [chk_pos h, chk_pos h]
  · rw [chk_neg h, chk_neg h]; rfl
theorem oS_chk {α : Type} (p : Prop) (o : Out α) (k : α → SO) : oS (chk p o) k = chkS p (oS o k) := by
  by_cases h : p
  · rw [chk_pos h, chkS_pos h]
  · rw [chk_neg h, chkS_neg h]; rfl
theorem chkS_andThen (p : Prop) (o : SO) (k : Env → SO) : (chkS p o).andThen k = chkS p (o.andThen k) := by
  by_cases h : p
  · rw [chkS_pos h, chkS_pos h]
  · rw [chkS_neg h, chkS_neg h]; rfl
theorem chkS_turn (p : Prop) (o : SO) (k : Env → SO) : (chkS p o).turn k = chkS p (o.turn k) := by
  by_cases h : p
  · rw [chkS_pos h, chkS_pos h]
  · rw [chkS_neg h, chkS_neg h]; rfl
theorem chkS_res (p : Prop) (o : SO) : (chkS p o).res = chk p o.res := by
  by_cases h : p
  · rw [chkS_pos h, chk_pos h]
  · rw [chkS_neg h, chk_neg h]; rfl
theorem chk_nox {α : Type} (p : Prop) (o : Out α) : (chk p o).nox = chk p o.nox := by
  by_cases h : p
  · rw [chk_pos h, chk_pos h]
  · rw [chk_neg h, chk_neg h]; rfl
theorem chk_ok {α : Type} (p : Prop) (o : Out α) (a : α) : chk p o = .ok a ↔ p ∧ o = .ok a := by
  by_cases h : p
  · rw [chk_pos h]; exact ⟨fun e => ⟨h, e⟩, fun e => e.2⟩
  · rw [chk_neg h]; exact ⟨fun e => (by cases e), fun e => absurd e.1 h⟩
theorem chkS_nx (p : Prop) (o : SO) (r : Env) : chkS p o = .nx r ↔ p ∧ o = .nx r := by
  by_cases h : p
  · rw [chkS_pos h]; exact ⟨fun e => ⟨h, e⟩, fun e => e.2⟩
  · rw [chkS_neg h]; exact ⟨fun e => (by cases e), fun e => absurd e.1 h⟩
theorem chkS_rt (p : Prop) (o : SO) (r : D) : chkS p o = .rt r ↔ p ∧ o = .rt r := by
  by_cases h : p
  · rw [chkS_pos h]; exact ⟨fun e => ⟨h, e⟩, fun e => e.2⟩
  · rw [chkS_neg h]; exact ⟨fun e => (by cases e), fun e => absurd e.1 h⟩
theorem chk_go {α : Type} {p : Prop} {o r : Out α} (h : p) (e : o = r) : chk p o = r := (chk_pos h).trans e
theorem chkS_go {p : Prop} {o r : SO} (h : p) (e : o = r) : chkS p o = r := (chkS_pos h).trans e
theorem chk_true {α : Type} (o : Out α) : chk True o = o := chk_pos trivial
theorem chkS_true (o : SO) : chkS True o = o := chkS_pos trivial
theorem chk_and {α : Type} (p q : Prop) (o : Out α) : chk p (chk q o) = chk (p ∧ q) o := by
  by_cases h : p
  · by_cases k : q
    · rw [chk_pos h, chk_pos k, chk_pos ⟨h, k⟩]
    · rw [chk_pos h, chk_neg k, chk_neg fun z => k z.2]
  · rw [chk_neg h, chk_neg fun z => h z.1]
theorem mul_chk (i j : Int) : dMul (.int i) (.int j) = chk (CMulX i j) (.ok (.int (i * j))) := rfl
theorem div_chk (i j : Int) : dDiv (.int i) (.int j) = chk (CDivW i j) (.ok (.int (i / j))) := rfl
theorem mod_chk (i j : Int) : dMod (.int i) (.int j) = chk (0 < j) (.ok (.int (i % j))) := rfl
theorem pow_chk (i j : Int) : dPow (.int i) (.int j) = chk (CPow i j) (.ok (.int (i ^ j.toNat))) := rfl
theorem cmul_sz {n m : Nat} {i j : Int} (h : Sz n i) (k : Sz m j) (l : n + m ≤ 134217728) : CMulX i j := by
  have := dMul_int h k l
  rw [mul_chk, chk_ok] at this
  exact this.1
theorem cdiv_sz {n : Nat} {i j : Int} (h : 0 < j) (k : Sz n j) (l : n ≤ 9000) : CDivW i j := by
  have := dDiv_int (i := i) h k l
  rw [div_chk, chk_ok] at this
  exact this.1
theorem rng1_chk (j : Int) : rng1 [.int j] = chk (-(2 ^ 62) ≤ j ∧ j < 2 ^ 62) (.ok ((List.range j.toNat).map fun (n : Nat) => .int n)) := rfl
theorem rng2_chk (i j : Int) : rng2 [.int i, .int j] = chk ((-(2 ^ 62) ≤ i ∧ i < 2 ^ 62) ∧ -(2 ^ 62) ≤ j ∧ j < 2 ^ 62) (.ok ((List.range (j - i).toNat).map fun (n : Nat) => .int (i + n))) := rfl
theorem mkTup_chk (ds : List D) : mkTup ds = chk (ds.length ≤ sizeLine) (.ok (.tup ds)) := rfl
theorem mkLst_chk (ds : List D) : mkLst ds = chk (ds.length ≤ sizeLine) (.ok (.lst ds)) := rfl
theorem len_ok {n : Nat} (h : n ≤ 16777216) : n ≤ sizeLine := h
theorem len_lt {n : Nat} (h : n < 16777216) : n < sizeLine := h

/-! ## loops -/
def SO.cont (o : SO) : SO := match o with
  | .ct r => .nx r
  | o => o
theorem cont_nx (r : Env) : (SO.nx r).cont = .nx r := rfl
theorem cont_ct (r : Env) : (SO.ct r).cont = .nx r := rfl
theorem cont_chkS (p : Prop) (o : SO) : (chkS p o).cont = chkS p o.cont := by
  by_cases h : p
  · rw [chkS_pos h, chkS_pos h]
  · rw [chkS_neg h, chkS_neg h]; rfl
theorem cont_ite (c : Prop) [Decidable c] (a b : SO) : (if c then a else b).cont = if c then a.cont else b.cont := by split <;> rfl
theorem cont_rt (d : D) : (SO.rt d).cont = .rt d := rfl
theorem cont_bk (r : Env) : (SO.bk r).cont = .bk r := rfl
theorem turn_of_cont {o : SO} {r : Env} (h : o.cont = .nx r) (k : Env → SO) : o.turn k = k r := by
  cases o with
  | nx r' => cases h; rfl
  | ct r' => cases h; rfl
  | _ => cases h
theorem forL_step {G : D → Env → Out Env} {b : Env → SO} {d : D} {ds : List D} {ρ ρ' : Env} (h : (oS (G d ρ) b).cont = .nx ρ') : forL G b (d :: ds) ρ = forL G b ds ρ' := by
  rw [forL_cons]
  cases hG : G d ρ with
  | ok r => rw [hG] at h; exact turn_of_cont h _
  | exc x => rw [hG] at h; cases h
  | stuck => rw [hG] at h; cases h
/-- a loop that goes on to its end: what holds ahead of each turn -/
theorem forL_inv {α : Type} (enc : α → D) {G : D → Env → Out Env} {b : Env → SO} (I : List α → Env → Prop) (xs : List α) {ρ : Env} (h0 : I [] ρ)
    (hs : ∀ pre x post ρ, xs = pre ++ x :: post → I pre ρ → ∃ ρ', (oS (G (enc x) ρ) b).cont = .nx ρ' ∧ I (pre ++ [x]) ρ') : ∃ ρ', forL G b (xs.map enc) ρ = .nx ρ' ∧ I xs ρ' := by
  have key : ∀ (post pre : List α) (ρ : Env), xs = pre ++ post → I pre ρ → ∃ ρ', forL G b (post.map enc) ρ = .nx ρ' ∧ I xs ρ' := by
    intro post
    induction post with
    | nil => intro pre ρ e h; rw [List.append_nil] at e; subst e; exact ⟨ρ, rfl, h⟩
    | cons x post ih =>
      intro pre ρ e h
      obtain ⟨ρ1, e1, h1⟩ := hs pre x post ρ e h
      obtain ⟨ρ2, e2, h2⟩ := ih (pre ++ [x]) ρ1 (by simp [e]) h1
      exact ⟨ρ2, by rw [List.map_cons, forL_step e1, e2], h2⟩
  exact key xs [] ρ rfl h0
/-- a loop over the numbers 0 .. n - 1 -/
theorem forL_range {G : D → Env → Out Env} {b : Env → SO} (I : Nat → Env → Prop) (n : Nat) {ρ : Env} (h0 : I 0 ρ)
    (hs : ∀ k ρ, k < n → I k ρ → ∃ ρ', (oS (G (.int (k : Nat)) ρ) b).cont = .nx ρ' ∧ I (k + 1) ρ') : ∃ ρ', forL G b ((List.range n).map fun (k : Nat) => .int k) ρ = .nx ρ' ∧ I n ρ' := by
  have := forL_inv (fun (k : Nat) => D.int k) (G := G) (b := b) (fun pre ρ => ∃ k, pre = List.range k ∧ I k ρ) (List.range n) (ρ := ρ) ⟨0, rfl, h0⟩ fun pre x post ρ e ⟨k, ek, hk⟩ => by
    subst ek
    have hl := congrArg List.length e
    simp at hl
    have hx : x = k := by
      have hk2 : k < n := by omega
      have h3 : (List.range n)[k]? = some x := by rw [e, List.getElem?_append_right (by simp)]; simp
      rw [List.getElem?_range hk2] at h3
      exact (Option.some.inj h3).symm
    subst hx
    obtain ⟨ρ', e', h'⟩ := hs x ρ (by omega) hk
    exact ⟨ρ', e', x + 1, by rw [List.range_succ], h'⟩
  obtain ⟨ρ', e, k, ek, h⟩ := this
  have hk := congrArg List.length ek
  simp at hk
  subst hk
  exact ⟨ρ', e, h⟩
/-- comprehensions -/
theorem lcL_map {α : Type} (enc : α → D) (f : α → D) {G : D → Env → Out Env} {tt : Env → Out Bool} {fe : Env → Out D} {ρ : Env} : ∀ (xs : List α), (∀ x ∈ xs, ((G (enc x) ρ).nox.bind fun ρ1 => (tt ρ1).nox.bind fun b => if b = true then (fe ρ1).nox else .stuck) = .ok (f x)) →
    lcL G tt fe ρ (xs.map enc) = .ok (xs.map f)
  | [], _ => rfl
  | x :: xs, h => by
    have ih := lcL_map enc f xs fun y hy => h y (List.mem_cons_of_mem _ hy)
    have hx := h x List.mem_cons_self
    rw [List.map_cons, lcL_cons, ih]
    cases h1 : (G (enc x) ρ).nox with
    | ok ρ1 =>
      rw [h1, Out.bind_ok] at hx
      rw [Out.bind_ok]
      cases h2 : (tt ρ1).nox with
      | ok b =>
        rw [h2, Out.bind_ok] at hx
        rw [Out.bind_ok]
        cases b with
        | true =>
          rw [if_pos rfl] at hx ⊢
          rw [hx]; rfl
        | false => rw [if_neg Bool.false_ne_true] at hx; cases hx
      | exc x => rw [h2] at hx; cases hx
      | stuck => rw [h2] at hx; cases hx
    | exc x => rw [h1] at hx; cases hx
    | stuck => rw [h1] at hx; cases hx
theorem lcL_filter {α : Type} (enc : α → D) (p : α → Bool) (f : α → D) {G : D → Env → Out Env} {tt : Env → Out Bool} {fe : Env → Out D} {ρ : Env} : ∀ (xs : List α), (∀ x ∈ xs, ((G (enc x) ρ).nox.bind fun ρ1 => (tt ρ1).nox.bind fun b => if b = true then ((fe ρ1).nox.bind fun y => .ok (some y)) else .ok none) = .ok (if p x = true then some (f x) else none)) →
    lcL G tt fe ρ (xs.map enc) = .ok ((xs.filter p).map f)
  | [], _ => rfl
  | x :: xs, h => by
    have ih := lcL_filter enc p f xs fun y hy => h y (List.mem_cons_of_mem _ hy)
    have hx := h x List.mem_cons_self
    rw [List.map_cons, lcL_cons, ih]
    cases h1 : (G (enc x) ρ).nox with
    | ok ρ1 =>
      rw [h1, Out.bind_ok] at hx
      rw [Out.bind_ok]
      cases h2 : (tt ρ1).nox with
      | ok b =>
        rw [h2, Out.bind_ok] at hx
        rw [Out.bind_ok]
        cases b with
        | true =>
          rw [if_pos rfl] at hx ⊢
          cases h3 : (fe ρ1).nox with
          | ok y =>
            rw [h3, Out.bind_ok] at hx
            by_cases c : p x = true
            · rw [if_pos c] at hx
              rw [List.filter_cons_of_pos c]
              cases hx; rfl
            · rw [if_neg c] at hx; cases hx
          | exc x => rw [h3] at hx; cases hx
          | stuck => rw [h3] at hx; cases hx
        | false =>
          rw [if_neg Bool.false_ne_true] at hx ⊢
          by_cases c : p x = true
          · rw [if_pos c] at hx; cases hx
          · rw [List.filter_cons_of_neg c]
      | exc x => rw [h2] at hx; cases hx
      | stuck => rw [h2] at hx; cases hx
    | exc x => rw [h1] at hx; cases hx
    | stuck => rw [h1] at hx; cases hx
/-! items by literal places -/
theorem ixt0 (a : D) (l : List D) : dIx (.tup (a :: l)) (.int 0) = .ok a := dIx_tup (k := 0) rfl
theorem ixt1 (a b : D) (l : List D) : dIx (.tup (a :: b :: l)) (.int 1) = .ok b := dIx_tup (k := 1) rfl
theorem ixt2 (a b c : D) (l : List D) : dIx (.tup (a :: b :: c :: l)) (.int 2) = .ok c := dIx_tup (k := 2) rfl
theorem ixt3 (a b c d : D) (l : List D) : dIx (.tup (a :: b :: c :: d :: l)) (.int 3) = .ok d := dIx_tup (k := 3) rfl
theorem ixl0 (a : D) (l : List D) : dIx (.lst (a :: l)) (.int 0) = .ok a := dIx_lst (k := 0) rfl
theorem ixl1 (a b : D) (l : List D) : dIx (.lst (a :: b :: l)) (.int 1) = .ok b := dIx_lst (k := 1) rfl
theorem ixl2 (a b c : D) (l : List D) : dIx (.lst (a :: b :: c :: l)) (.int 2) = .ok c := dIx_lst (k := 2) rfl
theorem ixl3 (a b c d : D) (l : List D) : dIx (.lst (a :: b :: c :: d :: l)) (.int 3) = .ok d := dIx_lst (k := 3) rfl
end PD

namespace PD
open PySem PySem.Spec L2
open PyProof.Rows hiding St

/-! ## loops over a dict: it is locked meanwhile -/
def DicO (u : HO) : Prop := (∃ xs, u = .dK xs) ∨ ∃ f, u = .ext f
/-- what reads the same -/
structure Emb (K : PySem.W.Frag) (H H' : Hp) : Prop where
  t : ∀ b xs, SqT K H b xs → SqT K H' b xs
  s : ∀ b xs, SqL K H b xs → SqL K H' b xs
  l : ∀ b xs, H b = some (.lst xs) → H' b = some (.lst xs)
  d : ∀ b o, DicO o → Rd H b o → Rd H' b o
  i : ∀ b C dx xs, H b = some (.ins C dx xs) → H' b = some (.ins C dx xs)
section
variable {K : PySem.W.Frag} {mg : Mg} {H H' : Hp}
mutual
theorem IsD.emb (s : Emb K H H') : ∀ {d : D} {v : V}, IsD K mg H d v → IsD K mg H' d v
  | .non, _, h => by simpa only [IsD] using h
  | .bl _, _, h => by simpa only [IsD] using h
  | .int _, _, h => by simpa only [IsD] using h
  | .str _, _, h => by simpa only [IsD] using h
  | .ty _, _, h => by simpa only [IsD] using h
  | .tup _, _, h => by
    simp only [IsD] at h ⊢
    obtain ⟨a, xs, e, q, r⟩ := h
    exact ⟨a, xs, e, s.t _ _ q, IsDs.emb s r⟩
  | .lst _, _, h => by
    simp only [IsD] at h ⊢
    obtain ⟨a, xs, e, q, r⟩ := h
    exact ⟨a, xs, e, s.l _ _ q, IsDs.emb s r⟩
  | .scr _, _, h => by
    simp only [IsD] at h ⊢
    obtain ⟨a, e, q⟩ := h
    exact ⟨a, e, s.s _ _ q⟩
  | .dic _, _, h => by
    simp only [IsD] at h ⊢
    obtain ⟨a, o, e, q, r⟩ := h
    rcases r with ⟨xs, eo, r⟩ | ⟨xs, eo, r⟩
    · exact ⟨a, o, e, s.d _ _ (.inl ⟨_, eo⟩) q, .inl ⟨xs, eo, IsKVs.emb s r⟩⟩
    · exact ⟨a, o, e, s.d _ _ (.inr ⟨_, eo⟩) q, .inr ⟨xs, eo, IsKTs.emb s r⟩⟩
  | .adr _, _, h => by simpa only [IsD] using h
  | .ins _ _, _, h => by
    simp only [IsD] at h ⊢
    obtain ⟨a, C, dx, xs, e, m, q, r⟩ := h
    exact ⟨a, C, dx, xs, e, m, s.i _ _ _ _ q, IsFs.emb s r⟩
theorem IsDs.emb (s : Emb K H H') : ∀ {d : List D} {v : List V}, IsDs K mg H d v → IsDs K mg H' d v
  | [], _, h => by simpa only [IsDs] using h
  | _ :: _, _, h => by
    simp only [IsDs] at h ⊢
    obtain ⟨v, vs, e, q, r⟩ := h
    exact ⟨v, vs, e, IsD.emb s q, IsDs.emb s r⟩
theorem IsKVs.emb (s : Emb K H H') : ∀ {d : List (D × D)} {v : List (Key × V)}, IsKVs K mg H d v → IsKVs K mg H' d v
  | [], _, h => by simpa only [IsKVs] using h
  | _ :: _, _, h => by
    simp only [IsKVs] at h ⊢
    obtain ⟨v, vs, e, q, r⟩ := h
    exact ⟨v, vs, e, IsKV.emb s q, IsKVs.emb s r⟩
theorem IsKV.emb (s : Emb K H H') : ∀ {d : D × D} {v : Key × V}, IsKV K mg H d v → IsKV K mg H' d v
  | (_, _), _, h => by
    simp only [IsKV] at h ⊢
    exact ⟨h.1, IsD.emb s h.2⟩
theorem IsKTs.emb (s : Emb K H H') : ∀ {d : List (D × D)} {v : List (PyData × Addr × V)}, IsKTs K mg H d v → IsKTs K mg H' d v
  | [], _, h => by simpa only [IsKTs] using h
  | _ :: _, _, h => by
    simp only [IsKTs] at h ⊢
    obtain ⟨v, vs, e, q, r⟩ := h
    exact ⟨v, vs, e, IsKT.emb s q, IsKTs.emb s r⟩
theorem IsKT.emb (s : Emb K H H') : ∀ {d : D × D} {v : PyData × Addr × V}, IsKT K mg H d v → IsKT K mg H' d v
  | (_, _), _, h => by
    simp only [IsKT] at h ⊢
    exact ⟨h.1, h.2.1, IsD.emb s h.2.2.1, IsD.emb s h.2.2.2⟩
theorem IsFs.emb (s : Emb K H H') : ∀ {d : List (Str × D)} {v : List (Str × V)}, IsFs K mg H d v → IsFs K mg H' d v
  | [], _, h => by simpa only [IsFs] using h
  | _ :: _, _, h => by
    simp only [IsFs] at h ⊢
    obtain ⟨v, vs, e, q, r⟩ := h
    exact ⟨v, vs, e, IsF.emb s q, IsFs.emb s r⟩
theorem IsF.emb (s : Emb K H H') : ∀ {d : Str × D} {v : Str × V}, IsF K mg H d v → IsF K mg H' d v
  | (_, _), _, h => by
    simp only [IsF] at h ⊢
    exact ⟨h.1, IsD.emb s h.2⟩
end
theorem DicAt.emb (s : Emb K H H') {kvs : List (D × D)} {a : Addr} {o : HO} (h : DicAt K mg H kvs a o) : DicAt K mg H' kvs a o := by
  rcases h with ⟨xs, eo, r⟩ | ⟨xs, eo, r⟩
  · exact .inl ⟨xs, eo, IsKVs.emb s r⟩
  · exact .inr ⟨xs, eo, IsKTs.emb s r⟩
theorem dicO_ne {u : HO} (h : DicO u) : (∀ xs, u ≠ .tup xs) ∧ (∀ xs, u ≠ .lst xs) ∧ (∀ o v, u ≠ .frz o v) ∧ (∀ C dx xs, u ≠ .ins C dx xs) := by
  rcases h with ⟨xs, rfl⟩ | ⟨f, rfl⟩ <;> exact ⟨(fun _ z => by cases z), (fun _ z => by cases z), (fun _ _ z => by cases z), (fun _ _ _ z => by cases z)⟩
theorem emb_lock {a : Addr} {u : HO} {od : Obj} (e : H a = some u) (hu : DicO u) : Emb K H (upd H a (.frz od u)) := by
  obtain ⟨n1, n2, n3, n4⟩ := dicO_ne hu
  have ne : ∀ b o, H b = some o → o ≠ u → b ≠ a := fun b o q h z => by
    subst z; rw [e] at q; cases q; exact h rfl
  refine ⟨fun b xs h => ?_, fun b xs h => ?_, fun b xs h => ?_, fun b o ho h => ?_, fun b C dx xs h => ?_⟩
  · rcases h with (h | ⟨o, h⟩) | h
    · exact .inl (.inl (by rw [upd_ne (ne b _ h (fun z => n1 _ z.symm))]; exact h))
    · exact .inl (.inr ⟨o, by rw [upd_ne (ne b _ h (fun z => n3 _ _ z.symm))]; exact h⟩)
    · exact .inr h
  · rcases h with (h | ⟨o, h⟩) | h
    · exact .inl (.inl (by rw [upd_ne (ne b _ h (fun z => n2 _ z.symm))]; exact h))
    · exact .inl (.inr ⟨o, by rw [upd_ne (ne b _ h (fun z => n3 _ _ z.symm))]; exact h⟩)
    · exact .inr h
  · rw [upd_ne (ne b _ h (fun z => n2 _ z.symm))]; exact h
  · rcases h with h | ⟨o', h⟩
    · by_cases z : b = a
      · subst z
        rw [e] at h; cases h
        exact .inr ⟨od, upd_same⟩
      · exact .inl (by rw [upd_ne z]; exact h)
    · exact .inr ⟨o', by rw [upd_ne (ne b _ h (fun z => n3 _ _ z.symm))]; exact h⟩
  · rw [upd_ne (ne b _ h (fun z => n4 _ _ _ z.symm))]; exact h
theorem emb_unlock {a : Addr} {u : HO} {od : Obj} (e : H a = some (.frz od u)) (hu : DicO u) : Emb K H (upd H a u) := by
  obtain ⟨n1, n2, n3, n4⟩ := dicO_ne hu
  have ne : ∀ b o, H b = some o → o ≠ .frz od u → b ≠ a := fun b o q h z => by
    subst z; rw [e] at q; cases q; exact h rfl
  refine ⟨fun b xs h => ?_, fun b xs h => ?_, fun b xs h => ?_, fun b o ho h => ?_, fun b C dx xs h => ?_⟩
  · rcases h with (h | ⟨o, h⟩) | h
    · exact .inl (.inl (by rw [upd_ne (ne b _ h (fun z => nomatch z))]; exact h))
    · exact .inl (.inr ⟨o, by rw [upd_ne (ne b _ h (fun z => by cases z; exact n1 _ rfl))]; exact h⟩)
    · exact .inr h
  · rcases h with (h | ⟨o, h⟩) | h
    · exact .inl (.inl (by rw [upd_ne (ne b _ h (fun z => nomatch z))]; exact h))
    · exact .inl (.inr ⟨o, by rw [upd_ne (ne b _ h (fun z => by cases z; exact n2 _ rfl))]; exact h⟩)
    · exact .inr h
  · rw [upd_ne (ne b _ h (fun z => nomatch z))]; exact h
  · rcases h with h | ⟨o', h⟩
    · exact .inl (by rw [upd_ne (ne b _ h (fun z => (dicO_ne ho).2.2.1 _ _ z))]; exact h)
    · by_cases z : b = a
      · subst z
        rw [e] at h; cases h
        exact .inl upd_same
      · exact .inr ⟨o', by rw [upd_ne z]; exact h⟩
  · rw [upd_ne (ne b _ h (fun z => nomatch z))]; exact h
theorem IsO.emb {H0 H0' Hf Hf' H H' : Hp} {d : D} {v : V} (s : Emb K Hf Hf') (n0 : ∀ b o, H b = some o → H0 b = none → Hf b = none → H0' b = none ∧ Hf' b = none ∧ H' b = some o) (h : IsO K mg H0 Hf H d v) : IsO K mg H0' Hf' H' d v := by
  cases d with
  | lst ds =>
    obtain ⟨a, xs, e, z0, zf, q, r⟩ := h
    obtain ⟨y0, yf, yq⟩ := n0 _ _ q z0 zf
    exact ⟨a, xs, e, y0, yf, yq, r.emb s⟩
  | dic ds =>
    obtain ⟨a, xs, e, z0, zf, q, r⟩ := h
    obtain ⟨y0, yf, yq⟩ := n0 _ _ q z0 zf
    exact ⟨a, xs, e, y0, yf, yq, r.emb s⟩
  | _ => exact IsD.emb s h
end
section
variable {X : Cx} {g : G} {E : WX} {ro : Bool} {Γl Γ Γ1 Γ2 : List Bool} {pos : Pos} {ρ ρ' : Env} {σ σ' : St} {Hf H Hf' H' F : Hp} {a : Addr} {u : HO} {od : Obj}
abbrev lockG (g : G) (F : Hp) (a : Addr) (z : HO) : G := ⟨upd g.H0 a z, upd F a z⟩
theorem Rp.lock (R : Rp X.K X.mw g Γ ρ σ F H) (e : F a = some u) (hu : DicO u) (od : Obj) : Rp X.K X.mw (lockG g F a (.frz od u)) Γ ρ σ (upd F a (.frz od u)) (upd H a (.frz od u)) := by
  have em := emb_lock (K := X.K) (od := od) e hu
  have sm : ∀ {A B : Hp}, Same A B → Same (upd A a (.frz od u)) (upd B a (.frz od u)) := fun {A B} s b o q => by
    by_cases h : b = a
    · subst h; rw [upd_same] at q ⊢; exact q
    · rw [upd_ne h] at q ⊢; exact s _ _ q
  refine ⟨sm R.same, sm R.ent, Same.refl _, fun b o q => .inl q, R.len, fun i d o q => ?_, fun i d o q => ?_, R.sep⟩
  · obtain ⟨v, ev, io⟩ := R.own i d o q
    refine ⟨v, ev, io.emb em fun b o' h1 h2 h3 => ?_⟩
    have nb : b ≠ a := fun z => by rw [z, e] at h3; cases h3
    exact ⟨by show upd g.H0 a _ b = none; rw [upd_ne nb]; exact h2, by rw [upd_ne nb]; exact h3, by rw [upd_ne nb]; exact h1⟩
  · obtain ⟨v, ev, r⟩ := R.dat i d o q
    exact ⟨v, ev, r.emb em⟩
theorem same_unlock {A B : Hp} (s : Same A B) : Same (upd A a u) (upd B a u) := fun b o q => by
  by_cases h : b = a
  · subst h; rw [upd_same] at q ⊢; exact q
  · rw [upd_ne h] at q ⊢; exact s _ _ q
theorem Rp.unlock (R : Rp X.K X.mw g Γ1 ρ σ F H) (e : F a = some u) (hu : DicO u) (R' : Rp X.K X.mw (lockG g F a (.frz od u)) Γ ρ' σ' Hf' H') : Hf' a = some (.frz od u) ∧ H' a = some (.frz od u) ∧ Rp X.K X.mw g Γ ρ' σ' (upd Hf' a u) (upd H' a u) := by
  have ef : Hf' a = some (.frz od u) := R'.ent2 a _ upd_same
  have eh : H' a = some (.frz od u) := R'.same a _ ef
  have em := emb_unlock (K := X.K) ef hu
  refine ⟨ef, eh, ⟨same_unlock R'.same, fun b o q => ?_, fun b o q => ?_, fun b o q => ?_, R'.len, fun i d o q => ?_, fun i d o q => ?_, R'.sep⟩⟩
  · by_cases h : b = a
    · subst h
      have := R.ent _ _ q
      rw [R.same _ _ e] at this
      cases this
      exact upd_same
    · rw [upd_ne h]
      exact R'.ent _ _ (show upd g.H0 a _ b = some o by rw [upd_ne h]; exact q)
  · by_cases h : b = a
    · subst h
      have := R.ent2 _ _ q
      rw [e] at this
      cases this
      exact upd_same
    · rw [upd_ne h]
      exact R'.ent2 _ _ (show upd F a _ b = some o by rw [upd_ne h]; exact R.ent2 _ _ q)
  · by_cases h : b = a
    · subst h
      rw [upd_same] at q
      cases q
      exact R.news _ _ e
    · rw [upd_ne h] at q
      rcases R'.news _ _ q with z | z
      · have z' : upd F a (.frz od u) b = some o := z
        rw [upd_ne h] at z'
        exact R.news _ _ z'
      · have z' : upd g.H0 a (.frz od u) b = none := z
        rw [upd_ne h] at z'
        exact .inr z'
  · obtain ⟨v, ev, io⟩ := R'.own i d o q
    refine ⟨v, ev, io.emb em fun b o' h1 h2 h3 => ?_⟩
    have nb : b ≠ a := fun z => by rw [z, ef] at h3; cases h3
    have h2' : upd g.H0 a (.frz od u) b = none := h2
    rw [upd_ne nb] at h2'
    exact ⟨h2', by rw [upd_ne nb]; exact h3, by rw [upd_ne nb]; exact h1⟩
  · obtain ⟨v, ev, r⟩ := R'.dat i d o q
    exact ⟨v, ev, r.emb em⟩
end
end PD

namespace PD
open PySem PySem.Spec L2
open PyProof.Rows hiding St

section
variable {X : Cx} {g : G} {E : WX} {ro : Bool} {Γl Γ Γ1 Γ2 : List Bool} {pos p : Pos} {ρ : Env}
/-! ### what is never to be reached -/
def sSt : Env → SO := fun _ => .stuck
theorem psx_stuck {st : Stmt} : PSx X g E ro Γl Γ st Γ1 sSt := ⟨⟨fun pins s σ H D I ⟨ρ, Hf, R, q⟩ => q.elim⟩⟩
theorem sSt_ap (ρ : Env) : sSt ρ = .stuck := rfl

/-! ### reversed(x) -/
def iRev (f : Env → Out D) : Env → Out (List D) := fun ρ => (f ρ).bind fun d => match d with
  | .lst ds => .ok ds.reverse
  | .tup ds => .ok ds.reverse
  | _ => .stuck
theorem rev_at {α : Type} {l : List α} {i : Nat} {x : α} (h : l.reverse[i]? = some x) : i < l.length ∧ l[l.length - 1 - i]? = some x := by
  have hi : i < l.length := by
    have := (List.getElem?_eq_some_iff.mp h).1
    simpa using this
  refine ⟨hi, ?_⟩
  rw [List.getElem?_reverse hi] at h
  exact h
theorem walks_revL {K : PySem.W.Frag} {mg : Mg} {H0 F1 : Hp} {a : Addr} {xs : List V} {ds : List D} (h : SqL K F1 a xs) (r : IsDs K mg F1 ds xs) : Walks K mg H0 (Itv K a xs.length) F1 ds.reverse := by
  intro g Γ ρ σ Hf H s R i
  have hq : SqL K H a xs := R.same.seq (s.seq h)
  refine ⟨fun d ed => ?_, fun l => ?_⟩
  · obtain ⟨hi, e⟩ := rev_at ed
    rw [← r.len] at e hi
    obtain ⟨v, ev, q⟩ := (IsDs.mono s r).at e
    refine ⟨⟨hi, xs, v, hq, ev⟩, fun x H' ⟨eH, ex⟩ => ?_⟩
    subst eH
    have := ex xs hq
    rw [ev] at this
    cases this
    exact ⟨Hf, Same.refl _, Same.refl _, R, q⟩
  · rw [List.length_reverse, ← r.len] at l
    exact l
theorem walks_revT {K : PySem.W.Frag} {mg : Mg} {H0 F1 : Hp} {a : Addr} {xs : List V} {ds : List D} (h : SqT K F1 a xs) (r : IsDs K mg F1 ds xs) : Walks K mg H0 (RT.ItvT K a xs.length) F1 ds.reverse := by
  intro g Γ ρ σ Hf H s R i
  have hq : SqT K H a xs := Same.seqT R.same (Same.seqT s h)
  refine ⟨fun d ed => ?_, fun l => ?_⟩
  · obtain ⟨hi, e⟩ := rev_at ed
    rw [← r.len] at e hi
    obtain ⟨v, ev, q⟩ := (IsDs.mono s r).at e
    refine ⟨⟨hi, xs, v, hq, ev⟩, fun x H' ⟨eH, ex⟩ => ?_⟩
    subst eH
    have := ex xs hq
    rw [ev] at this
    cases this
    exact ⟨Hf, Same.refl _, Same.refl _, R, q⟩
  · rw [List.length_reverse, ← r.len] at l
    exact l
theorem pix_rev {tg e : Expr} {f : Env → Out D} (hg : Gl X "reversed") (hm : X.mg "reversed" = none) (h : PX X g E Γ e Γ1 .fr f) (hs : starEach [e] X.env = (false, eval e X.env) :: starEach [] X.env := by rfl) : PIx X g E Γ tg (.Call (.Name "reversed" p) [e] [] pos) Γ1 (iRev f) := by
  refine ⟨h.le, (RT.pi_revA hg hm h.pe hs).imp fun σ H R ⟨ρ, Hf, R0, q⟩ => ⟨ρ, Hf, R0, ?_⟩⟩
  unfold iRev at q
  refine tG.bind (Le.refl _) q fun d F1 H1 s1 s2 R1 k v hv => ?_
  cases d with
  | lst ds =>
    have hv' : IsD X.K X.mw F1 (.lst ds) v := hv
    simp only [IsD] at hv'
    obtain ⟨a, xs, e, q', r⟩ := hv'
    refine ⟨a, xs, e, .inl ⟨R1.same.seq (.of q'), ?_⟩⟩
    exact k F1 H1 (Same.refl _) (Same.refl _) R1 _ (walks_revL (.of q') r)
  | tup ds =>
    have hv' : IsD X.K X.mw F1 (.tup ds) v := hv
    simp only [IsD] at hv'
    obtain ⟨a, xs, e, q', r⟩ := hv'
    refine ⟨a, xs, e, .inr ⟨Same.seqT R1.same q', ?_⟩⟩
    exact k F1 H1 (Same.refl _) (Same.refl _) R1 _ (walks_revT q' r)
  | _ => exact k.elim

/-! ### for x in d, d a name's dict that is data -/
def noEx (o : SO) : SO := match o with
  | .ex _ => .stuck
  | o => o
def keysAt (i : Nat) : Env → Out (List D) := fun ρ => match ρ[i]? with
  | some (some (.dic kvs)) => .ok (kvs.map (·.1))
  | _ => .stuck
noncomputable def sForD (i : Nat) (G : D → Env → Out Env) (b : Env → SO) : Env → SO := fun ρ => oS (keysAt i ρ) fun ds => chkS (∀ d ∈ ds, flatK d = true) (noEx (forL G b ds ρ))
/-- the dict in slot i is locked -/
def LockedAt (i : Nat) (σ : St) (Hf : Hp) (ds : List D) : Prop := ∃ a od xs, σ[i]? = some (some (.ref a)) ∧ Hf a = some (.frz od (.dK xs)) ∧ ds = xs.map fun q => kD q.1
theorem walks_keys {K : PySem.W.Frag} {mg : Mg} {H0 F1 : Hp} {a : Addr} {od : Obj} {xs : List (Key × V)} (h : F1 a = some (.frz od (.dK xs))) : Walks K mg H0 (Itk a od xs) F1 (xs.map fun q => kD q.1) := by
  intro g Γ ρ σ Hf H s R i
  have hq : H a = some (.frz od (.dK xs)) := R.same _ _ (s _ _ h)
  refine ⟨fun d ed => ?_, fun l => ⟨hq, by simpa using l⟩⟩
  have hi : i < xs.length := by
    have := (List.getElem?_eq_some_iff.mp ed).1
    simpa using this
  rw [List.getElem?_map] at ed
  refine ⟨⟨hq, hi⟩, fun x H' ⟨eH, k, v, ek, ex⟩ => ?_⟩
  subst eH; subst ex
  rw [ek] at ed
  cases ed
  refine ⟨Hf, Same.refl _, Same.refl _, R, ?_⟩
  cases k <;> simp only [kD, kV, IsD]
theorem kvs_keys {K : PySem.W.Frag} {mg : Mg} {H : Hp} : ∀ {kvs : List (D × D)} {xs : List (Key × V)}, IsKVs K mg H kvs xs → kvs.map (·.1) = xs.map fun q => kD q.1
  | [], _, h => by simp only [IsKVs] at h; subst h; rfl
  | (k, d) :: kvs, _, h => by
    simp only [IsKVs, IsKV] at h
    obtain ⟨q, us, rfl, ⟨e, _⟩, r⟩ := h
    rw [List.map_cons, List.map_cons, kvs_keys r, ← e]
theorem pi_locked {tg : Expr} {i : Nat} {x : Str} (h : PE X (.Name x p) (tVar i)) (A : St → Hp → (It → Hp → Prop) → Prop) (ha : ∀ σ H R, A σ H R → ∃ (Hf : Hp) (ds : List D), Same Hf H ∧ LockedAt i σ Hf ds ∧ ∀ J, (∀ K' mg' H0', K' = X.K → Walks K' mg' H0' J Hf ds) → R J H) : PI X tg (.Name x p) A := by
  refine (pi_keys h).imp fun σ H R q => ?_
  obtain ⟨Hf, ds, s, ⟨a, od, xs, es, e, rfl⟩, k⟩ := ha σ H R q
  exact ⟨_, es, a, od, rfl, .inl ⟨xs, s _ _ e, k _ fun _ _ _ _ => walks_keys e⟩⟩
/-- the loop where the dict stands locked -/
theorem for_locked {tg : Expr} {body : List Stmt} {G : D → Env → Out Env} {fb : Env → SO} {i : Nat} {x : Str} {ws : List Nat} (hp : PassesOwn (model X.prog X.w) X.A X.env X.xe) (hc : X.calm = true) (hx : PE X (.Name x p) (tVar i))
    (hg : ∀ g : PD.G, PGx X g Γ tg Γ2 G ws) (nx : ∀ d ρ x, G d ρ ≠ .exc x) (hb : ∀ g : PD.G, PSsx X g E0 ro Γ Γ2 body Γ fb) (hs : ∀ y, foldedSetIterable (.Name x p) X.env y = pure y := by intro _; rfl) :
    PS X (.For tg (.Name x p) body [] pos) (fun Dn σ H => ∃ (g : PD.G) (ρ : Env) (Hf : Hp) (ds : List D), Rp X.K X.mw g Γ ρ σ Hf H ∧ LockedAt i σ Hf ds ∧ sR X.K X.mw g E0 Γ Γl ro Dn (noEx (forL G fb ds ρ))) := by
  have HI : PI X tg (.Name x p) (fun σ H R => ∃ (Hf : Hp) (ds : List D), Same Hf H ∧ LockedAt i σ Hf ds ∧ ∀ J, (∀ K' mg' H0', K' = X.K → Walks K' mg' H0' J Hf ds) → R J H) := pi_locked hx _ fun σ H R q => q
  have HG : PG X tg (fun v σ H Q => ∃ g d ρ Hf, Rp X.K X.mw g Γ ρ σ Hf H ∧ IsD X.K X.mw Hf d v ∧ ∃ ρ', G d ρ = .ok ρ' ∧ ∀ σ', Rp X.K X.mw g Γ2 ρ' σ' Hf H → Q σ' H) :=
    ⟨fun pins s σ H v u Q I r ⟨g', d, ρ, Hf, R, i, ρ', e, q⟩ => (hg g').pg.run pins s σ H v u Q I r ⟨d, ρ, Hf, R, i, ρ', e, fun σ' _ => q σ'⟩⟩
  have HB : PSs X body (fun Dn σ H => ∃ g ρ Hf, Rp X.K X.mw g Γ2 ρ σ Hf H ∧ sR X.K X.mw g E0 Γ Γ ro Dn (fb ρ)) := ⟨fun pins s σ H D I ⟨g', z⟩ => (hb g').ps.run pins s σ H D I z⟩
  refine (ps_for hp hc HI HG HB hs).imp fun Dn σ H ⟨g, ρ, Hf, ds, R, lk, k⟩ => ⟨Hf, ds, R.same, lk, fun J wk => ?_⟩
  refine ⟨fun n m σ H => m = ds.length - n ∧ n ≤ ds.length ∧ ∃ ρ Hf', Same Hf Hf' ∧ Rp X.K X.mw g Γ ρ σ Hf' H ∧ sR X.K X.mw g E0 Γ Γl ro Dn (noEx (forL G fb (ds.drop n) ρ)), ⟨ds.length, by simp, Nat.zero_le _, ρ, Hf, Same.refl _, R, k⟩, ?_⟩
  rintro n m σ2 H2 ⟨rfl, hn, ρ2, Hf2, s2, R2, k2⟩
  have w2 := wk X.K X.mw (fun _ => none) rfl g Γ ρ2 σ2 Hf2 H2 s2 R2 n
  by_cases hlt : n < ds.length
  · have ed : ds[n]? = some ds[n] := by simp [hlt]
    have hd : ds.drop n = ds[n] :: ds.drop (n + 1) := List.drop_eq_getElem_cons hlt
    obtain ⟨go, yl⟩ := w2.1 _ ed
    refine .inr ⟨go, fun σ3 H3 => ∃ ρ Hf', Same Hf Hf' ∧ Rp X.K X.mw g Γ ρ σ3 Hf' H3 ∧ sR X.K X.mw g E0 Γ Γl ro Dn (noEx (forL G fb (ds.drop (n + 1)) ρ)), fun σ3 H3 z => ⟨ds.length - (n + 1), by omega, rfl, hlt, z⟩, fun x H' y => ?_⟩
    obtain ⟨Hf3, s3, s4, R3, hx⟩ := yl x H' y
    rw [hd, forL_cons] at k2
    cases hG : G ds[n] ρ2 with
    | exc x => exact absurd hG (nx _ _ x)
    | stuck => rw [hG] at k2; exact k2.elim
    | ok ρ3 =>
      rw [hG, oS_ok] at k2
      have s5 := s2.trans s3
      -- the body runs with this frozen part as its entry's
      have R3' : ∀ {ρ : Env} {σ : St} {Hf4 H4 : Hp} {Γ' : List Bool}, Rp X.K X.mw ⟨g.H0, Hf3⟩ Γ' ρ σ Hf4 H4 → Rp X.K X.mw g Γ' ρ σ Hf4 H4 := fun R => R.ofG R3.ent2 R3.news
      refine ⟨⟨g.H0, Hf3⟩, ds[n], ρ2, Hf3, R3.toG (Same.refl _) R3.ent2, hx, ρ3, hG, fun σ' R4 => ⟨⟨g.H0, Hf3⟩, ρ3, Hf3, R4, ?_⟩⟩
      cases hf : fb ρ3 with
      | nx r => rw [hf] at k2; exact fun σ5 Hf5 H5 R5 => ⟨r, Hf5, s5.trans R5.ent2, R3' R5, k2⟩
      | ct r => rw [hf] at k2; exact fun σ5 Hf5 H5 R5 => ⟨r, Hf5, s5.trans R5.ent2, R3' R5, k2⟩
      | bk r => rw [hf] at k2; exact fun σ5 Hf5 H5 R5 => k2 σ5 Hf5 H5 (R3' R5)
      | rt d => rw [hf] at k2; exact fun v Hf H t1 t2 t3 nw r => k2 v Hf H t1 t2 (R3.ent2.trans t3) (fun a o e => (nw a o e).elim (fun z => R3.news a o z) .inr) r
      | ex x => rw [hf] at k2; exact k2.elim
      | stuck => rw [hf] at k2; exact k2
  · have e : n = ds.length := by omega
    subst e
    refine .inl ⟨w2.2 (Nat.le_refl _), ?_⟩
    rw [List.drop_length] at k2
    exact k2 σ2 Hf2 H2 R2
theorem keysAt_ok {i : Nat} {ds : List D} (h : keysAt i ρ = .ok ds) : ∃ kvs, ρ[i]? = some (some (.dic kvs)) ∧ ds = kvs.map (·.1) := by
  unfold keysAt at h
  split at h
  · rename_i kvs e
    cases h
    exact ⟨kvs, e, rfl⟩
  · cases h
theorem keysAt_nx {i : Nat} {ρ : Env} {x : Exn} : keysAt i ρ ≠ .exc x := fun h => by
  unfold keysAt at h
  split at h <;> cases h
/-- what a name's dict is, by what is told -/
theorem dict_case {pins : List (Addr × Obj)} {s : Shared} {σ : St} {H Hf : Hp} {i : Nat} {kvs : List (D × D)} (I : Inv X pins σ H s) (R : Rp X.K X.mw g Γ ρ σ Hf H) (no : Γ.getD i false = false) (e : ρ[i]? = some (some (.dic kvs))) (fl : ∀ q ∈ kvs, flatK q.1 = true) :
    ∃ a xs, σ[i]? = some (some (.ref a)) ∧ kvs.map (·.1) = xs.map (fun q => kD q.1) ∧ (Hf a = some (.dK xs) ∨ ∃ od, Hf a = some (.frz od (.dK xs))) := by
  obtain ⟨v, ev, r⟩ := R.dat i _ (by unfold Own; rw [no]; exact Bool.false_ne_true) e
  simp only [IsD] at r
  obtain ⟨a, o, rfl, hr, ⟨xs, rfl, q⟩ | ⟨zs, rfl, q⟩⟩ := r
  · exact ⟨a, xs, ev, kvs_keys q, hr⟩
  · exfalso
    have ok : ObjOk X.prog X.w H s.heap a (dT X.w a zs) := (Rd.ok (Same.rd R.same hr) I.hok)
    obtain ⟨hne, _⟩ := ok.1
    cases kvs with
    | nil => simp only [IsKTs] at q; exact hne q
    | cons p kvs =>
      have h1 := fl p List.mem_cons_self
      rw [tkey_nf (q.keys p List.mem_cons_self)] at h1
      cases h1
theorem psx_forD {tg : Expr} {body : List Stmt} {G : D → Env → Out Env} {fb : Env → SO} {i : Nat} {x : Str} {ws : List Nat} (hp : PassesOwn (model X.prog X.w) X.A X.env X.xe) (hc : X.calm = true) (hx : PE X (.Name x p) (tVar i)) (no : Γ.getD i false = false)
    (hg : ∀ g : PD.G, PGx X g Γ tg Γ2 G ws) (nx : ∀ d ρ x, G d ρ ≠ .exc x) (hb : ∀ g : PD.G, PSsx X g E0 ro Γ Γ2 body Γ fb) (hs : ∀ y, foldedSetIterable (.Name x p) X.env y = pure y := by intro _; rfl) :
    PSx X g E ro Γl Γ (.For tg (.Name x p) body [] pos) Γ (sForD i G fb) := by
  have B := for_locked (Γl := Γl) (pos := pos) hp hc hx hg nx hb hs
  refine ⟨⟨fun pins s σ H Dn I ⟨ρ, Hf, R, q⟩ => ?_⟩⟩
  unfold sForD at q
  cases hk : keysAt i ρ with
  | stuck => rw [hk] at q; exact q.elim
  | exc x => exact absurd hk keysAt_nx
  | ok ds =>
  rw [hk, oS_ok] at q
  obtain ⟨kvs, e, rfl⟩ := keysAt_ok hk
  by_cases fl' : ∀ d ∈ kvs.map (·.1), flatK d = true
  · rw [chkS_pos fl'] at q
    have fl : ∀ z ∈ kvs, flatK z.1 = true := fun z hz => fl' _ (List.mem_map.mpr ⟨z, hz, rfl⟩)
    have q0 : sR X.K X.mw g E0 Γ Γl ro Dn (noEx (forL G fb (kvs.map (·.1)) ρ)) := by
      revert q
      cases forL G fb (kvs.map (·.1)) ρ <;> exact id
    obtain ⟨a, xs, es, ek, ea | ⟨od, ea⟩⟩ := dict_case I R no e fl
    · -- locked here
      have hu : DicO (HO.dK xs) := .inl ⟨_, rfl⟩
      refine (ps_lock B).run pins s σ H Dn I ⟨a, .dK xs, R.same _ _ ea, trivial, fun od => ⟨lockG g Hf a (.frz od (.dK xs)), ρ, upd Hf a (.frz od (.dK xs)), kvs.map (·.1), R.lock ea hu od, ⟨a, od, xs, es, upd_same, ek⟩, ?_⟩⟩
      cases hf : noEx (forL G fb (kvs.map (·.1)) ρ) with
      | nx r =>
        rw [hf] at q0
        intro σ2 Hf2 H2 R2
        obtain ⟨_, eh, R3⟩ := R.unlock ea hu R2
        exact ⟨eh, q0 σ2 _ _ R3⟩
      | bk r =>
        rw [hf] at q0
        intro σ2 Hf2 H2 R2
        obtain ⟨_, eh, R3⟩ := R.unlock ea hu R2
        exact ⟨eh, q0 σ2 _ _ R3⟩
      | ct r =>
        rw [hf] at q0
        intro σ2 Hf2 H2 R2
        obtain ⟨_, eh, R3⟩ := R.unlock ea hu R2
        exact ⟨eh, q0 σ2 _ _ R3⟩
      | rt d =>
        rw [hf] at q0
        intro v Hf2 H2 t1 t2 t3 nw rr
        -- an empty frame tells what is there
        have R2 : Rp X.K X.mw (lockG g Hf a (.frz od (.dK xs))) [] [] [] Hf2 H2 := ⟨t1, t2, t3, nw, rfl, fun i d o => by simp [Own] at o, fun i d _ e => by simp at e, fun i j d e v n o => by simp [Own] at o⟩
        obtain ⟨ef, eh, R3⟩ := R.unlock ea hu R2
        refine ⟨eh, q0 v _ _ R3.same R3.ent R3.ent2 R3.news ?_⟩
        have em := emb_unlock (K := X.K) ef hu
        unfold RetRes at rr ⊢
        cases ro with
        | false => exact IsD.emb em rr
        | true =>
          refine IsO.emb em (fun b o h1 h2 h3 => ?_) rr
          have nb : b ≠ a := fun z => by rw [z, ef] at h3; cases h3
          have h2' : upd g.H0 a (.frz od (.dK xs)) b = none := h2
          rw [upd_ne nb] at h2'
          exact ⟨h2', by rw [upd_ne nb]; exact h3, by rw [upd_ne nb]; exact h1⟩
      | ex x =>
        exfalso
        revert hf
        cases forL G fb (kvs.map (·.1)) ρ <;> intro hf <;> cases hf
      | stuck => rw [hf] at q0; exact q0
    · exact B.run pins s σ H Dn I ⟨g, ρ, Hf, kvs.map (·.1), R, ⟨a, od, xs, es, ea, ek⟩, q0⟩
  · rw [chkS_neg fl'] at q; exact q.elim
/-! ### [.. for x in d ..] -/
noncomputable def iKeysD (i : Nat) : Env → Out (List D) := fun ρ => (keysAt i ρ).bind fun ds => chk (∀ d ∈ ds, flatK d = true) (.ok ds)
theorem iKeysD_ok {i : Nat} {ds : List D} (h : iKeysD i ρ = .ok ds) : ∃ kvs, ρ[i]? = some (some (.dic kvs)) ∧ ds = kvs.map (·.1) ∧ ∀ z ∈ kvs, flatK z.1 = true := by
  unfold iKeysD at h
  cases hk : keysAt i ρ with
  | stuck => rw [hk] at h; cases h
  | exc x => rw [hk] at h; cases h
  | ok es =>
    rw [hk, Out.bind_ok, chk_ok] at h
    obtain ⟨kvs, e, rfl⟩ := keysAt_ok hk
    obtain ⟨f, h⟩ := h
    cases h
    exact ⟨kvs, e, rfl, fun z hz => f _ (List.mem_map.mpr ⟨z, hz, rfl⟩)⟩
theorem iKeysD_nx {i : Nat} {x : Exn} : iKeysD i ρ ≠ .exc x := fun h => by
  unfold iKeysD at h
  cases hk : keysAt i ρ with
  | stuck => rw [hk] at h; cases h
  | exc x => exact keysAt_nx hk
  | ok es =>
    rw [hk, Out.bind_ok] at h
    by_cases c : ∀ d ∈ es, flatK d = true
    · rw [chk_pos c] at h; cases h
    · rw [chk_neg c] at h; cases h
theorem PEor {e : Expr} {t t' : TE} (h : PE X e t) (h' : PE X e t') : PE X e (fun σ H Q => t σ H Q ∨ t' σ H Q) := ⟨fun pins s σ H Q I q => q.elim (h.run pins s σ H Q I) (h'.run pins s σ H Q I)⟩
theorem px_lcD {elt tg : Expr} {ifs : List Expr} {scope : Scope} {own : List (Str × Nat)} {i : Nat} {x : Str} {G' : D → Env → Out Env} {tt : Env → Out Bool} {f : Env → Out D} {ws : List Nat}
    (hc : X.calm = true) (hN : X.N.Nodup) (hx : PE X (.Name x p) (tVar i)) (nw : Γ.getD i false = false) (le : Le Γ2 Γ) (no : ∀ i ∈ own.map (·.2), ¬ Own Γ2 i) (ok : BlkOk X.N X.env.scope scope own)
    (hg : ∀ (g : PD.G) (s : Shared) (H : Hp) (C : Addr) (cl : List (Str × Addr)) (fp : List Addr), PGx (X.blk s H scope (compEnvC scope cl C X.env) fp) g Γ2 tg Γ2 G' ws) (hws : ∀ i ∈ ws, i ∈ own.map (·.2))
    (ht : ∀ (g : PD.G) (s : Shared) (H : Hp) (C : Addr) (cl : List (Str × Addr)) (fp : List Addr), PTsx (X.blk s H scope (compEnvC scope cl C X.env) fp) g E0 Γ2 ifs Γ2 tt)
    (he : ∀ (g : PD.G) (s : Shared) (H : Hp) (C : Addr) (cl : List (Str × Addr)) (fp : List Addr), PX (X.blk s H scope (compEnvC scope cl C X.env) fp) g E0 Γ2 elt Γ2 .fr f) (hs : ∀ y, foldedSetIterable (.Name x p) X.env y = pure y := by intro _; rfl) :
    PX X g E Γ (.ListComp elt [⟨tg, .Name x p, ifs, 0⟩] scope pos) Γ2 .ow (eLc (own.map (·.2)) G' (iKeysD i) tt f) := by
  have HG : ∀ (s : Shared) (H : Hp) (C : Addr) (cl : List (Str × Addr)) (fp : List Addr), PG (X.blk s H scope (compEnvC scope cl C X.env) fp) tg (hG X Γ2 G' ws) := fun s H C cl fp => ⟨fun pins s' σ H' v u Q I r ⟨g', z⟩ => (hg g' s H C cl fp).pg.run pins s' σ H' v u Q I r z⟩
  have HT : ∀ (s : Shared) (H : Hp) (C : Addr) (cl : List (Str × Addr)) (fp : List Addr), PTs (X.blk s H scope (compEnvC scope cl C X.env) fp) ifs (hT X Γ2 tt) := fun s H C cl fp => ⟨fun pins s' σ H' Q I ⟨g', z⟩ => (ht g' s H C cl fp).pe.run pins s' σ H' Q I z⟩
  have HE : ∀ (s : Shared) (H : Hp) (C : Addr) (cl : List (Str × Addr)) (fp : List Addr), PE (X.blk s H scope (compEnvC scope cl C X.env) fp) elt (hE X Γ2 f) := fun s H C cl fp => ⟨fun pins s' σ H' Q I ⟨g', z⟩ => (he g' s H C cl fp).pe.run pins s' σ H' Q I z⟩
  -- where it stands locked
  have B : ∀ g : PD.G, PE X (.ListComp elt [⟨tg, .Name x p, ifs, 0⟩] scope pos) (fun σ H Q => ∃ (ρ : Env) (Hf : Hp), Rp X.K X.mw g Γ ρ σ Hf H ∧ (∃ ds, iKeysD i ρ = .ok ds ∧ LockedAt i σ Hf ds) ∧ tG X.K X.mw g E0 Γ2 ρ σ Hf H (PV X g Γ2 ρ σ .ow Q) (eLc (own.map (·.2)) G' (iKeysD i) tt f ρ)) := fun g => by
    have HI : PI X tg (.Name x p) (fun σ H R => ∃ ρ Hf, Rp X.K X.mw g Γ ρ σ Hf H ∧ (∃ ds, iKeysD i ρ = .ok ds ∧ LockedAt i σ Hf ds) ∧ tG X.K X.mw g E0 Γ ρ σ Hf H (fun ds Hf' H' => ∀ J, Walks X.K X.mw g.H0 J Hf' ds → R J H') (iKeysD i ρ)) := by
      refine pi_locked hx _ fun σ H R ⟨ρ, Hf, R0, ⟨ds, hk, lk⟩, q⟩ => ⟨Hf, ds, R0.same, lk, fun J wk => ?_⟩
      rw [hk] at q
      exact q Hf H (Same.refl _) (Same.refl _) R0 J (wk _ _ _ rfl)
    exact (pe_lc hc hN HI ok HG HT HE hs).imp fun σ H Q ⟨ρ, Hf, R, P, q⟩ => lc_read (tg := tg) (iter := .Name x p) (P := fun ρ σ Hf => ∃ ds, iKeysD i ρ = .ok ds ∧ LockedAt i σ Hf ds) le no hws (hg g ⟨{}, #[], {}, 0, {}⟩ (fun _ => none) 0 [] []).ag R P q
  have B' : PE X (.ListComp elt [⟨tg, .Name x p, ifs, 0⟩] scope pos) (fun σ H Q => ∃ (g : PD.G) (ρ : Env) (Hf : Hp), Rp X.K X.mw g Γ ρ σ Hf H ∧ (∃ ds, iKeysD i ρ = .ok ds ∧ LockedAt i σ Hf ds) ∧ tG X.K X.mw g E0 Γ2 ρ σ Hf H (PV X g Γ2 ρ σ .ow Q) (eLc (own.map (·.2)) G' (iKeysD i) tt f ρ)) := ⟨fun pins s σ H Q I ⟨g', z⟩ => (B g').run pins s σ H Q I z⟩
  refine ⟨le, ⟨fun pins s σ H Q I ⟨ρ, Hf, R, q⟩ => ?_⟩⟩
  cases hk : iKeysD i ρ with
  | stuck => unfold eLc at q; rw [hk] at q; exact q.elim
  | exc x => exact absurd hk iKeysD_nx
  | ok ds =>
  have nx : ∀ x, eLc (own.map (·.2)) G' (iKeysD i) tt f ρ ≠ .exc x := fun x h => by
    unfold eLc at h
    rw [hk, Out.bind_ok] at h
    by_cases c : ds.length ≤ sizeLine
    · rw [chk_pos c] at h
      cases hl : lcL G' tt f (wipeE ρ (own.map (·.2))) ds with
      | ok ys => rw [hl] at h; cases h
      | exc x => exact lcL_nx ds x hl
      | stuck => rw [hl] at h; cases h
    · rw [chk_neg c] at h; cases h
  obtain ⟨kvs, e, rfl, fl⟩ := iKeysD_ok hk
  obtain ⟨a, xs, es, ek, ea | ⟨od, ea⟩⟩ := dict_case I R nw e fl
  · have hu : DicO (HO.dK xs) := .inl ⟨_, rfl⟩
    refine (pe_lock B').run pins s σ H Q I ⟨a, .dK xs, R.same _ _ ea, trivial, fun od => ⟨lockG g Hf a (.frz od (.dK xs)), ρ, upd Hf a (.frz od (.dK xs)), R.lock ea hu od, ⟨_, hk, a, od, xs, es, upd_same, ek⟩, ?_⟩⟩
    cases hl : eLc (own.map (·.2)) G' (iKeysD i) tt f ρ with
    | stuck => rw [hl] at q; exact q
    | exc x => exact absurd hl (nx x)
    | ok d =>
      rw [hl] at q
      intro Hf2 H2 t1 t2 R2 v hv
      obtain ⟨ef, eh, R3⟩ := R.unlock ea hu R2
      have em := emb_unlock (K := X.K) ef hu
      have s1 : Same Hf (upd Hf2 a (.dK xs)) := fun b o eb => by
        by_cases h : b = a
        · subst h; rw [ea] at eb; cases eb; exact upd_same
        · rw [upd_ne h]; exact t1 _ _ (by rw [upd_ne h]; exact eb)
      have s2 : Same H (upd H2 a (.dK xs)) := fun b o eb => by
        by_cases h : b = a
        · subst h; rw [R.same _ _ ea] at eb; cases eb; exact upd_same
        · rw [upd_ne h]; exact t2 _ _ (by rw [upd_ne h]; exact eb)
      refine ⟨eh, q _ _ s1 s2 R3 v ⟨IsO.emb em (fun b o h1 h2 h3 => ?_) hv.1, hv.2⟩⟩
      have nb : b ≠ a := fun z => by rw [z, ef] at h3; cases h3
      have h2' : upd g.H0 a (.frz od (.dK xs)) b = none := h2
      rw [upd_ne nb] at h2'
      exact ⟨h2', by rw [upd_ne nb]; exact h3, by rw [upd_ne nb]; exact h1⟩
  · refine B'.run pins s σ H Q I ⟨g, ρ, Hf, R, ⟨_, hk, a, od, xs, es, ea, ek⟩, ?_⟩
    cases hl : eLc (own.map (·.2)) G' (iKeysD i) tt f ρ with
    | stuck => rw [hl] at q; exact q
    | exc x => exact absurd hl (nx x)
    | ok d => rw [hl] at q; exact q
theorem iKeysD_ap (i : Nat) (ρ : Env) : iKeysD i ρ = (eD i ρ).bind fun kvs => chk (∀ d ∈ kvs.map (·.1), flatK d = true) (.ok (kvs.map (·.1))) := by
  unfold iKeysD keysAt eD
  cases ρ[i]? with
  | none => rfl
  | some o =>
    cases o with
    | none => rfl
    | some d => cases d <;> rfl
theorem sForD_ap (i : Nat) (G : D → Env → Out Env) (b : Env → SO) (ρ : Env) : sForD i G b ρ = oS (eD i ρ) fun kvs => chkS (∀ d ∈ kvs.map (·.1), flatK d = true) (noEx (forL G b (kvs.map (·.1)) ρ)) := by
  unfold sForD keysAt eD
  cases ρ[i]? with
  | none => rfl
  | some o =>
    cases o with
    | none => rfl
    | some d => cases d <;> rfl
theorem noEx_nx (r : Env) : noEx (.nx r) = .nx r := rfl
theorem noEx_rt (d : D) : noEx (.rt d) = .rt d := rfl
theorem iRev_ap (f : Env → Out D) (ρ : Env) : iRev f ρ = (f ρ).bind fun d => match d with
  | .lst ds => .ok ds.reverse
  | .tup ds => .ok ds.reverse
  | _ => .stuck := rfl
end
end PD

namespace PD
open PySem PySem.Spec L2
open PyProof.Rows hiding St

section
variable {X : Cx} {g : G} {E : WX} {ro : Bool} {Γl Γ Γ1 Γ2 : List Bool} {pos p : Pos} {ρ : Env} {m : Md}
theorem PX.pre {e : Expr} {f : Env → Out D} (h : PX X g E Γ e Γ1 m f) (le : Le Γ Γ2) : PX X g E Γ2 e Γ1 m f := by
  refine ⟨h.le.trans le, h.pe.imp fun σ H Q ⟨ρ, Hf, R, q⟩ => ?_⟩
  obtain ⟨F2, s3, R2, _⟩ := R.frz le
  exact ⟨ρ, F2, R2, tG.mono s3 (Same.refl _) q⟩
/-- y = [.. for x in d ..] -/
theorem psx_setLcD {spos py : Pos} {i j : Nat} {y : Str} {ow : Bool} {elt tg : Expr} {ifs : List Expr} {scope : Scope} {own : List (Str × Nat)} {x : Str} {G' : D → Env → Out Env} {tt : Env → Out Bool} {f : Env → Out D} {ws : List Nat}
    (hc : X.calm = true) (hN : X.N.Nodup) (hy : X.N[j]? = some y) (hyl : X.env.scope.names.lookup y = some .local) (hsw : swapsWith (.ListComp elt [⟨tg, .Name x p, ifs, 0⟩] scope pos) (some (.Name y py)) spos.line X.env = pure true)
    (hx : PE X (.Name x p) (tVar i)) (nw : Γ.getD i false = false) (le : Le Γ2 Γ) (no : ∀ i ∈ own.map (·.2), ¬ Own Γ2 i) (hl : ow = true → j < Γ2.length) (ok : BlkOk X.N X.env.scope scope own)
    (hg : ∀ (g : PD.G) (s : Shared) (H : Hp) (C : Addr) (cl : List (Str × Addr)) (fp : List Addr), PGx (X.blk s H scope (compEnvC scope cl C X.env) fp) g Γ2 tg Γ2 G' ws) (hws : ∀ i ∈ ws, i ∈ own.map (·.2))
    (ht : ∀ (g : PD.G) (s : Shared) (H : Hp) (C : Addr) (cl : List (Str × Addr)) (fp : List Addr), PTsx (X.blk s H scope (compEnvC scope cl C X.env) fp) g E0 Γ2 ifs Γ2 tt)
    (he : ∀ (g : PD.G) (s : Shared) (H : Hp) (C : Addr) (cl : List (Str × Addr)) (fp : List Addr), PX (X.blk s H scope (compEnvC scope cl C X.env) fp) g E0 Γ2 elt Γ2 .fr f) (hs : ∀ y, foldedSetIterable (.Name x p) X.env y = pure y := by intro _; rfl) :
    PSx X g E ro Γl Γ (.Assign [.Name y py] (.ListComp elt [⟨tg, .Name x p, ifs, 0⟩] scope pos) spos) (Γ2.set j ow) (sSet j (eLc (own.map (·.2)) G' (iKeysD i) tt f)) := by
  have HG : ∀ (s : Shared) (H : Hp) (C : Addr) (cl : List (Str × Addr)) (fp : List Addr), PG (X.blk s H scope (compEnvC scope cl C X.env) fp) tg (hG X Γ2 G' ws) := fun s H C cl fp => ⟨fun pins s' σ H' v u Q I r ⟨g', z⟩ => (hg g' s H C cl fp).pg.run pins s' σ H' v u Q I r z⟩
  have HT : ∀ (s : Shared) (H : Hp) (C : Addr) (cl : List (Str × Addr)) (fp : List Addr), PTs (X.blk s H scope (compEnvC scope cl C X.env) fp) ifs (hT X Γ2 tt) := fun s H C cl fp => ⟨fun pins s' σ H' Q I ⟨g', z⟩ => (ht g' s H C cl fp).pe.run pins s' σ H' Q I z⟩
  have HE : ∀ (s : Shared) (H : Hp) (C : Addr) (cl : List (Str × Addr)) (fp : List Addr), PE (X.blk s H scope (compEnvC scope cl C X.env) fp) elt (hE X Γ2 f) := fun s H C cl fp => ⟨fun pins s' σ H' Q I ⟨g', z⟩ => (he g' s H C cl fp).pe.run pins s' σ H' Q I z⟩
  have B : ∀ g : PD.G, PS X (.Assign [.Name y py] (.ListComp elt [⟨tg, .Name x p, ifs, 0⟩] scope pos) spos) (fun Dn σ H => ∃ (ρ : Env) (Hf : Hp), Rp X.K X.mw g Γ ρ σ Hf H ∧ (∃ ds, iKeysD i ρ = .ok ds ∧ LockedAt i σ Hf ds) ∧
      tG X.K X.mw g E0 Γ2 ρ σ Hf H (PV X g Γ2 ρ σ .ow fun v H1 => Dn.nx (σ.set j (some v)) H1) (eLc (own.map (·.2)) G' (iKeysD i) tt f ρ)) := fun g => by
    have HI : PI X tg (.Name x p) (fun σ H R => ∃ ρ Hf, Rp X.K X.mw g Γ ρ σ Hf H ∧ (∃ ds, iKeysD i ρ = .ok ds ∧ LockedAt i σ Hf ds) ∧ tG X.K X.mw g E0 Γ ρ σ Hf H (fun ds Hf' H' => ∀ J, Walks X.K X.mw g.H0 J Hf' ds → R J H') (iKeysD i ρ)) := by
      refine pi_locked hx _ fun σ H R ⟨ρ, Hf, R0, ⟨ds, hk, lk⟩, q⟩ => ⟨Hf, ds, R0.same, lk, fun J wk => ?_⟩
      rw [hk] at q
      exact q Hf H (Same.refl _) (Same.refl _) R0 J (wk _ _ _ rfl)
    exact (ps_setLc hc hN hy hyl hsw HI ok HG HT HE hs).imp fun Dn σ H ⟨ρ, Hf, R, P, q⟩ => lc_read (tg := tg) (iter := .Name x p) (Q := fun x H1 => gName j x σ H1 Dn.nx) (P := fun ρ σ Hf => ∃ ds, iKeysD i ρ = .ok ds ∧ LockedAt i σ Hf ds) le no hws (hg g ⟨{}, #[], {}, 0, {}⟩ (fun _ => none) 0 [] []).ag R P q
  have B' : PS X (.Assign [.Name y py] (.ListComp elt [⟨tg, .Name x p, ifs, 0⟩] scope pos) spos) (fun Dn σ H => ∃ (g : PD.G) (ρ : Env) (Hf : Hp), Rp X.K X.mw g Γ ρ σ Hf H ∧ (∃ ds, iKeysD i ρ = .ok ds ∧ LockedAt i σ Hf ds) ∧
      tG X.K X.mw g E0 Γ2 ρ σ Hf H (PV X g Γ2 ρ σ .ow fun v H1 => Dn.nx (σ.set j (some v)) H1) (eLc (own.map (·.2)) G' (iKeysD i) tt f ρ)) := ⟨fun pins s σ H Q I ⟨g', z⟩ => (B g').run pins s σ H Q I z⟩
  refine ⟨⟨fun pins s σ H Dn I ⟨ρ, Hf, R, q0⟩ => ?_⟩⟩
  unfold sSet at q0
  cases hk : iKeysD i ρ with
  | stuck => unfold eLc at q0; rw [hk] at q0; exact q0.elim
  | exc x => exact absurd hk iKeysD_nx
  | ok ds =>
  have nx : ∀ x, eLc (own.map (·.2)) G' (iKeysD i) tt f ρ ≠ .exc x := fun x h => by
    unfold eLc at h
    rw [hk, Out.bind_ok] at h
    by_cases c : ds.length ≤ sizeLine
    · rw [chk_pos c] at h
      cases hl : lcL G' tt f (wipeE ρ (own.map (·.2))) ds with
      | ok ys => rw [hl] at h; cases h
      | exc x => exact lcL_nx ds x hl
      | stuck => rw [hl] at h; cases h
    · rw [chk_neg c] at h; cases h
  have fin : ∀ {d : D} {v : V} {Hf2 H2 : Hp}, sR X.K X.mw g E (Γ2.set j ow) Γl ro Dn (.nx (ρ.set j (some d))) → Rp X.K X.mw g Γ2 ρ σ Hf2 H2 → Res X.K X.mw g Γ2 ρ σ Hf2 H2 .ow d v → Dn.nx (σ.set j (some v)) H2 := fun {d v Hf2 H2} k R hv => by
    cases ow with
    | true => exact k _ Hf2 H2 (R.setO (hl rfl) hv.1 hv.2)
    | false =>
      obtain ⟨F2, s3, R2, id⟩ := R.cool hv.1 hv.2
      exact k _ F2 H2 (R2.setF id)
  obtain ⟨kvs, e, rfl, fl⟩ := iKeysD_ok hk
  obtain ⟨a, xs, es, ek, ea | ⟨od, ea⟩⟩ := dict_case I R nw e fl
  · have hu : DicO (HO.dK xs) := .inl ⟨_, rfl⟩
    refine (ps_lock B').run pins s σ H Dn I ⟨a, .dK xs, R.same _ _ ea, trivial, fun od => ⟨lockG g Hf a (.frz od (.dK xs)), ρ, upd Hf a (.frz od (.dK xs)), R.lock ea hu od, ⟨_, hk, a, od, xs, es, upd_same, ek⟩, ?_⟩⟩
    cases hl : eLc (own.map (·.2)) G' (iKeysD i) tt f ρ with
    | stuck => rw [hl] at q0; exact q0
    | exc x => exact absurd hl (nx x)
    | ok d =>
      rw [hl, oS_ok] at q0
      intro Hf2 H2 t1 t2 R2 v hv
      obtain ⟨ef, eh, R3⟩ := R.unlock ea hu R2
      have em := emb_unlock (K := X.K) ef hu
      refine ⟨eh, fin q0 R3 ⟨IsO.emb em (fun b o h1 h2 h3 => ?_) hv.1, hv.2⟩⟩
      have nb : b ≠ a := fun z => by rw [z, ef] at h3; cases h3
      have h2' : upd g.H0 a (.frz od (.dK xs)) b = none := h2
      rw [upd_ne nb] at h2'
      exact ⟨h2', by rw [upd_ne nb]; exact h3, by rw [upd_ne nb]; exact h1⟩
  · refine B'.run pins s σ H Dn I ⟨g, ρ, Hf, R, ⟨_, hk, a, od, xs, es, ea, ek⟩, ?_⟩
    cases hl : eLc (own.map (·.2)) G' (iKeysD i) tt f ρ with
    | stuck => rw [hl] at q0; exact q0
    | exc x => exact absurd hl (nx x)
    | ok d =>
      rw [hl, oS_ok] at q0
      exact fun Hf2 H2 t1 t2 R2 v hv => fin q0 R2 hv

/-! ### methods that change a list -/
def sLM (i : Nat) (F : List D → List D → Out (List D)) (fa : Env → Out (List D)) : Env → SO := fun ρ => oS (eL i ρ) fun xs => oS (fa ρ) fun ds => oS (F xs ds) fun xs' => .nx (ρ.set i (some (.lst xs')))
def LMok (X : Cx) (id : String) (F : List D → List D → Out (List D)) : Prop := (∀ xs ds x, F xs ds ≠ .exc x) ∧ ∃ r, MtR X id r ∧ ∀ (Hf H : Hp) (p : Addr) (xs ds : List D) (ys vs : List V) (Q : VK), Same Hf H → H p = some (.lst ys) → Hf p = none → IsDs X.K X.mw Hf xs ys → IsDs X.K X.mw Hf ds vs →
  (match F xs ds with
    | .ok xs' => ∀ ys', IsDs X.K X.mw Hf xs' ys' → Q .non (upd H p (.lst ys'))
    | _ => False) → r (.ref p) vs H Q
theorem psx_lm {i : Nat} {x name : Str} {id : String} {a : Expr} {as : List Expr} {pn ap cp : Pos} {fa : Env → Out (List D)} {F : List D → List D → Out (List D)} (M : LMok X id F) (slot : Slot "list" name id) (hty : typeOf (.builtin id) = pure (.type "method_descriptor"))
    (h : PE X (.Name x pn) (tVar i)) (ha : PAx X g E Γ (a :: as) Γ1 fa) (o : Γ1.getD i false = true)
    (hbase : attributeBase (.Name x pn) name X.env (eval (.Name x pn) X.env) = eval (.Name x pn) X.env := by rfl)
    (hfew : ((backTo cp (starEach (a :: as) X.env)).all (fun x => !x.1) && (backToKw cp (keywordEach [] X.env)).all (fun x => x.1.isSome)
      && decide ((a :: as).length + ([] : List Keyword).length + (if ([] : List Keyword).isEmpty then 0 else 1) < 30)) = true := by rfl)
    (hline : (ap.endLine == cp.line) = true := by rfl) (hs : starEach (a :: as) X.env = (false, eval a X.env) :: starEach as X.env := by rfl) (hplain : (backTo cp (starEach as X.env)).any (·.1) = false := by rfl)
    (hsw : swapsWith (.Call (.Attribute (.Name x pn) name ap) (a :: as) [] cp) none pos.line X.env = pure false := by rfl) :
    PSx X g E ro Γl Γ (.Expr (.Call (.Attribute (.Name x pn) name ap) (a :: as) [] cp) pos) Γ1 (sLM i F fa) := by
  obtain ⟨nx, r, mt, hr⟩ := M
  refine ⟨(ps_expr (pe_bm PySem.F.plainAttrs_list slot hty mt h ha.pe hbase hfew hline hs hplain) hsw).imp fun Dn σ H ⟨ρ, Hf, R, q⟩ => ?_⟩
  unfold sLM at q
  cases hL : eL i ρ with
  | stuck => rw [hL] at q; exact q.elim
  | exc x =>
    unfold eL at hL
    split at hL <;> cases hL
  | ok xs =>
  rw [hL, oS_ok] at q
  have e : ρ[i]? = some (some (.lst xs)) := by
    unfold eL at hL
    split at hL
    · rename_i ys e; cases hL; exact e
    · cases hL
  obtain ⟨v, es, io⟩ := R.own i _ (ha.le i o) e
  obtain ⟨p, ys, rfl, z0, zf, qH, rr⟩ := io
  refine ⟨_, es, .inl ⟨rfl, ys, SqL.of qH⟩, ρ, Hf, R, ?_⟩
  refine tG.toS q fun ds F1 H1 s1 s2 R1 k vs hv => ?_
  obtain ⟨v', es', io'⟩ := R1.own i _ o e
  rw [es] at es'
  obtain rfl : V.ref p = v' := Option.some.inj (Option.some.inj es')
  obtain ⟨p', ys', ep, z0', zf', qH', r'⟩ := io'
  obtain rfl : p = p' := V.ref.inj ep
  refine hr F1 H1 p xs ds ys' vs _ R1.same qH' zf' r' hv ?_
  cases hF : F xs ds with
  | ok xs' =>
    rw [hF, oS_ok] at k
    exact fun ys2 h2 => k σ F1 _ (R1.wr o e rfl es z0' zf' ⟨p, _, rfl, z0', zf', upd_same, h2⟩)
  | exc x => exact absurd hF (nx _ _ _)
  | stuck => rw [hF] at k; exact k
noncomputable def lmInsert : List D → List D → Out (List D) := fun xs ds => match ds with
  | [.int i, d] => chk (xs.length < sizeLine ∧ 0 ≤ i ∧ i < 2 ^ 63) (.ok (xs.take i.toNat ++ [d] ++ xs.drop i.toNat))
  | _ => .stuck
theorem lmInsert_ok {xs ds xs' : List D} (h : lmInsert xs ds = .ok xs') : ∃ i d, ds = [.int i, d] ∧ (xs.length < sizeLine ∧ 0 ≤ i ∧ i < 2 ^ 63) ∧ xs' = xs.take i.toNat ++ [d] ++ xs.drop i.toNat := by
  unfold lmInsert at h
  split at h
  · rename_i i d
    rw [chk_ok] at h
    exact ⟨i, d, rfl, h.1, (Out.ok.inj h.2).symm⟩
  · cases h
theorem LMok.of {id : String} {F : List D → List D → Out (List D)} (nx : ∀ xs ds x, F xs ds ≠ .exc x) {r : V → List V → Hp → VK → Prop} (mt : MtR X id r) (h : ∀ (Hf H : Hp) (p : Addr) (xs ds xs' : List D) (ys vs : List V) (Q : VK), Same Hf H → H p = some (.lst ys) → Hf p = none → IsDs X.K X.mw Hf xs ys → IsDs X.K X.mw Hf ds vs →
    F xs ds = .ok xs' → (∀ ys', IsDs X.K X.mw Hf xs' ys' → Q .non (upd H p (.lst ys'))) → r (.ref p) vs H Q) : LMok X id F := by
  refine ⟨nx, r, mt, fun Hf H p xs ds ys vs Q s e zf rr hv k => ?_⟩
  cases hF : F xs ds with
  | ok xs' => rw [hF] at k; exact h Hf H p xs ds xs' ys vs Q s e zf rr hv hF k
  | exc x => rw [hF] at k; exact k.elim
  | stuck => rw [hF] at k; exact k.elim
theorem lm_insert : LMok X "list.insert" lmInsert := by
  refine LMok.of (fun xs ds x h => ?_) mt_insert fun Hf H p xs ds xs' ys vs Q s e zf r hv hF k => ?_
  · unfold lmInsert at h
    split at h
    · unfold chk at h
      split at h <;> cases h
    · cases h
  · obtain ⟨i, d, rfl, c, rfl⟩ := lmInsert_ok hF
    obtain ⟨v, u, rfl, hv1, hv2⟩ := hv.two
    simp only [IsD] at hv1
    subst hv1
    refine ⟨p, ys, i, u, rfl, rfl, e, by rw [r.len]; exact c.1, c.2.1, c.2.2, k _ ?_⟩
    exact IsDs.app (r.drop _) (IsDs.app (by simp only [IsDs]; exact ⟨u, [], rfl, hv2, rfl⟩) (r.take _))
/-! extend by a list or a tuple -/
theorem extend_any (l : Addr) (items : Array Value) (n : Nat) (b : Addr) (items2 : Array Value) (n2 : Nat) (dd : Option Addr) (sl : Array (Option Value)) (hs0 : ¬(!items.isEmpty && Builtin.List.listTooLong (items.size + items2.size)) = true) (hs1 : items.size ≤ sizeLine) (hs2 : items.size + items2.size ≤ sizeLine + 1) :
    Meets (Builtin.«list.extend» ⟨[.ref l, .ref b], []⟩) (fun _ R s => s.heap.get? l = some { cls := .type "list", dict := none, data := .seq items n, slots := #[] } ∧ s.heap.get? b = some { cls := .type "tuple", dict := dd, data := .seq items2 n2, slots := sl } ∧ R (.ok (.ret Value.none)) { s with heap := s.heap.update l (Obj.mapSeq fun x => x ++ items2), toks := s.toks }) :=
  .of_wp fun prog w A R s h => by
    obtain ⟨hp, g, d, tk, os⟩ := s; obtain ⟨hl, hb, h⟩ := h; have f1 := AutoSeq1.idx_int; have f2 := AutoSeq1.sub_tuple_tuple; have f3 := AutoSeq1.sub_list_list; have f4 := AutoSeq1.sub_tuple_list; have f5 := AutoSeq1.sub_list_tuple;
    have hz' : (items ++ items2).size ≤ sizeLine + 1 := (Array.size_append ▸ hs2)
    wp_walk using (wpAny_updateSeq hl rfl (hz := hs1) (_hz' := hz')), AutoSeq1.wpAny_loadPart' hl, AutoSeq1.wpAny_loadPart' hb; exact ⟨_, rfl, h⟩
theorem mt_extendA : MtR X "list.extend" (fun x vs H Q => ∃ l b xs zs, x = .ref l ∧ vs = [.ref b] ∧ H l = some (.lst xs) ∧ (H b = some (.lst zs) ∨ SqT X.K H b zs) ∧ xs.length + zs.length ≤ sizeLine ∧ Q .non (upd H l (.lst (xs ++ zs)))) := by
  intro pins s σ H x vs v us Q I rx rv ⟨l, b, xs, zs, e1, e2, hH, hB, hz, q⟩
  rcases hB with hB | hB
  · exact mt_extend pins s σ H x vs v us Q I rx rv ⟨l, b, xs, zs, e1, e2, hH, hB, hz, q⟩
  · subst e1; subst e2
    cases rx
    obtain ⟨u, rfl, ru⟩ := rv.one
    cases ru
    obtain ⟨z, its, n, r, hl, e⟩ := I.lstM hH
    obtain ⟨its2, r2, ⟨⟨cls, dd, data, sl⟩, ho, hc, n2, hd⟩, hl2⟩ := I.tuple hB
    simp only at hc hd
    subst hc hd
    have hr2 := r2.length
    have hsz : its.toArray.size + its2.toArray.size ≤ sizeLine := by rw [List.size_toArray, List.size_toArray]; omega
    have hlong : ¬ (!its.toArray.isEmpty && Builtin.List.listTooLong (its.toArray.size + its2.toArray.size)) = true := by
      rw [notLongL hsz, Bool.and_false]
      exact Bool.false_ne_true
    refine call_meets PySem.F.slot_list_extend ⟨_, e, rfl⟩ PySem.F.entry_list_extend (PySem.F.args_list_extend_2 _ _) (extend_any l its.toArray n b its2.toArray n2 dd sl hlong (by rw [List.size_toArray]; omega) (by omega)) ⟨e, ho, ?_⟩
    refine ⟨.non, _, I.lset (its' := its ++ its2) hH e (by simp) (r.append r2) ?_, rfl, q⟩
    rw [List.length_append]
    omega
noncomputable def lmExtend : List D → List D → Out (List D) := fun xs ds => match ds with
  | [.lst zs] => chk (xs.length + zs.length ≤ sizeLine) (.ok (xs ++ zs))
  | [.tup zs] => chk (xs.length + zs.length ≤ sizeLine) (.ok (xs ++ zs))
  | _ => .stuck
theorem lmExtend_ok {xs ds xs' : List D} (h : lmExtend xs ds = .ok xs') : ∃ zs, (ds = [.lst zs] ∨ ds = [.tup zs]) ∧ xs.length + zs.length ≤ sizeLine ∧ xs' = xs ++ zs := by
  unfold lmExtend at h
  split at h
  · rename_i zs
    rw [chk_ok] at h
    exact ⟨zs, .inl rfl, h.1, (Out.ok.inj h.2).symm⟩
  · rename_i zs
    rw [chk_ok] at h
    exact ⟨zs, .inr rfl, h.1, (Out.ok.inj h.2).symm⟩
  · cases h
theorem lm_extend : LMok X "list.extend" lmExtend := by
  refine LMok.of (fun xs ds x h => ?_) mt_extendA fun Hf H p xs ds xs' ys vs Q s e zf r hv hF k => ?_
  · unfold lmExtend at h
    split at h
    · unfold chk at h; split at h <;> cases h
    · unfold chk at h; split at h <;> cases h
    · cases h
  · obtain ⟨zs, hd, c, rfl⟩ := lmExtend_ok hF
    rcases hd with rfl | rfl
    · obtain ⟨v, rfl, hv1⟩ := hv.one
      simp only [IsD] at hv1
      obtain ⟨b, ws, rfl, hb, rb⟩ := hv1
      exact ⟨p, b, ys, ws, rfl, rfl, e, .inl (s _ _ hb), by rw [r.len, rb.len]; exact c, k _ (IsDs.app rb r)⟩
    · obtain ⟨v, rfl, hv1⟩ := hv.one
      simp only [IsD] at hv1
      obtain ⟨b, ws, rfl, hb, rb⟩ := hv1
      exact ⟨p, b, ys, ws, rfl, rfl, e, .inr (Same.seqT s hb), by rw [r.len, rb.len]; exact c, k _ (IsDs.app rb r)⟩
theorem sLM_ap (i : Nat) (F : List D → List D → Out (List D)) (fa : Env → Out (List D)) (ρ : Env) : sLM i F fa ρ = oS (eL i ρ) fun xs => oS (fa ρ) fun ds => oS (F xs ds) fun xs' => .nx (ρ.set i (some (.lst xs'))) := rfl
theorem lmInsert_ap (xs : List D) (i : Int) (d : D) : lmInsert xs [.int i, d] = chk (xs.length < sizeLine ∧ 0 ≤ i ∧ i < 2 ^ 63) (.ok (xs.take i.toNat ++ [d] ++ xs.drop i.toNat)) := rfl
theorem lmExtend_lst (xs zs : List D) : lmExtend xs [.lst zs] = chk (xs.length + zs.length ≤ sizeLine) (.ok (xs ++ zs)) := rfl
theorem lmExtend_tup (xs zs : List D) : lmExtend xs [.tup zs] = chk (xs.length + zs.length ≤ sizeLine) (.ok (xs ++ zs)) := rfl
/-! d.pop(k, x) as a statement -/
noncomputable def sDPop (i : Nat) (fk : Env → Out D) : Env → SO := fun ρ => oS (eD i ρ) fun kvs => chkS (∀ p ∈ kvs, flatK p.1 = true) (oS (fk ρ) fun k => chkS (flatK k = true) (.nx (ρ.set i (some (.dic (dicDrop kvs k))))))
theorem eD_ok {i : Nat} {kvs : List (D × D)} (h : eD i ρ = .ok kvs) : ρ[i]? = some (some (.dic kvs)) := by
  unfold eD at h
  split at h
  · rename_i ys e; cases h; exact e
  · cases h
theorem eD_nx {i : Nat} {x : Exn} : eD i ρ ≠ .exc x := fun h => by
  unfold eD at h
  split at h <;> cases h
theorem IsKVs.drop {K : PySem.W.Frag} {mg : Mg} {H : Hp} (κ : Key) : ∀ {kvs : List (D × D)} {xs : List (Key × V)}, IsKVs K mg H kvs xs → IsKVs K mg H (dicDrop kvs (kD κ)) (dropK xs κ)
  | [], _, h => by simp only [IsKVs] at h; subst h; simp only [dicDrop, dropK, List.filter_nil, IsKVs]
  | (k, d) :: kvs, _, h => by
    simp only [IsKVs, IsKV] at h
    obtain ⟨⟨k', v⟩, us, rfl, ⟨e, q⟩, r⟩ := h
    simp only at e q
    subst e
    have ih := IsKVs.drop κ r
    unfold dicDrop dropK at ih ⊢
    by_cases z : k' = κ
    · rw [List.filter_cons_of_neg (by simp [z]), List.filter_cons_of_neg (by simp [z])]
      exact ih
    · rw [List.filter_cons_of_pos (by simp; exact fun y => z (kD_inj y)), List.filter_cons_of_pos (by simp [z])]
      simp only [IsKVs, IsKV]
      exact ⟨_, _, rfl, ⟨rfl, q⟩, ih⟩
open Classical in
theorem dropK_none {kvs : List (D × D)} {k : D} (h : dicGet kvs k = none) : dicDrop kvs k = kvs := by
  unfold dicDrop
  refine List.filter_eq_self.mpr fun p hp => ?_
  rw [decide_eq_true_eq]
  intro e
  have := dicGet_any k kvs
  rw [h] at this
  have h2 : (kvs.any fun p => decide (p.1 = k)) = true := List.any_eq_true.mpr ⟨p, hp, decide_eq_true e⟩
  rw [this] at h2; cases h2
theorem psx_dpop {i : Nat} {x : Str} {ek ex : Expr} {pn ap cp : Pos} {fk : Env → Out D} {d0 : D} (h : PE X (.Name x pn) (tVar i)) (hk : PX X g E Γ ek Γ1 .rd fk) (hd : ∀ g : PD.G, PX X g E Γ1 ex Γ1 .fr (eC d0)) (o : Γ1.getD i false = true)
    (m : M2 X (.Name x pn) "pop" ap ek ex cp) (hsw : swapsWith (.Call (.Attribute (.Name x pn) "pop" ap) [ek, ex] [] cp) none pos.line X.env = pure false := by rfl) :
    PSx X g E ro Γl Γ (.Expr (.Call (.Attribute (.Name x pn) "pop" ap) [ek, ex] [] cp) pos) Γ1 (sDPop i fk) := by
  refine ⟨⟨fun pins s σ H Dn I ⟨ρ, Hf, R, q⟩ => ?_⟩⟩
  unfold sDPop at q
  cases hL : eD i ρ with
  | stuck => rw [hL] at q; exact q.elim
  | exc x => exact absurd hL eD_nx
  | ok kvs =>
  rw [hL, oS_ok] at q
  have e := eD_ok hL
  obtain ⟨v, es, io⟩ := R.own i _ (hk.le i o) e
  obtain ⟨a, ob, rfl, z0, zf, qH, da⟩ := io
  have key : PS X (.Expr (.Call (.Attribute (.Name x pn) "pop" ap) [ek, ex] [] cp) pos) (tDrop (tDPop2 (tVar i) (fun σ H Q => ∃ ρ Hf, Rp X.K X.mw g Γ ρ σ Hf H ∧ tG X.K X.mw g E Γ1 ρ σ Hf H (PV X g Γ1 ρ σ .rd Q) (fk ρ)) (fun σ H Q => ∃ (g : PD.G) (ρ : Env) (Hf : Hp), Rp X.K X.mw g Γ1 ρ σ Hf H ∧ tG X.K X.mw g E Γ1 ρ σ Hf H (PV X g Γ1 ρ σ .fr Q) (eC d0 ρ)))) :=
    ps_expr (pe_dpop2 h hk.pe ⟨fun pins s σ H Q I ⟨g', z⟩ => (hd g').pe.run pins s σ H Q I z⟩ m) hsw
  by_cases fl' : ¬ ∀ p ∈ kvs, flatK p.1 = true
  · rw [chkS_neg fl'] at q; exact q.elim
  have fl := Classical.not_not.mp fl'
  rw [chkS_pos fl] at q
  obtain ⟨xs, rfl, r⟩ : ∃ xs, ob = .dK xs ∧ IsKVs X.K X.mw Hf kvs xs := by
    rcases da with ⟨xs, rfl, r⟩ | ⟨zs, rfl, r⟩
    · exact ⟨xs, rfl, r⟩
    · exfalso
      obtain ⟨hne, _⟩ := (show ObjOk X.prog X.w H s.heap a (dT X.w a zs) from (Rd.ok (.inl qH) I.hok)).1
      cases kvs with
      | nil => simp only [IsKTs] at r; exact hne r
      | cons p kvs =>
        have h1 := fl p List.mem_cons_self
        rw [tkey_nf (r.keys p List.mem_cons_self)] at h1
        cases h1
  refine key.run pins s σ H Dn I ⟨_, es, a, rfl, .inl ⟨xs, .inl qH⟩, ρ, Hf, R, ?_⟩
  refine tG.toS q fun kd F1 H1 s1 s2 R1 k vk hk' => ?_
  by_cases fk' : ¬ flatK kd = true
  · rw [chkS_neg fk'] at k; exact k.elim
  rw [chkS_pos (Classical.not_not.mp fk')] at k
  obtain ⟨κ, rfl⟩ := flat_kD (Classical.not_not.mp fk')
  refine ⟨g, ρ, F1, R1, ?_⟩
  intro F2 H2 s3 s4 R2 vd _
  obtain ⟨v', es', io'⟩ := R2.own i _ o e
  rw [es] at es'
  obtain rfl : V.ref a = v' := Option.some.inj (Option.some.inj es')
  obtain ⟨a', ob', ea', z0', zf', qH', da'⟩ := io'
  obtain rfl : a = a' := V.ref.inj ea'
  have q2 := s4 _ _ (s2 _ _ qH)
  have evk : vk = kV κ := by
    refine isd_flat (K := X.K) (mg := X.mw) (Hf := F1) ?_
    cases κ <;> exact hk'
  have r2 := (IsKVs.mono s3 (IsKVs.mono s1 r))
  have fin : ∀ o', DicAt X.K X.mw F2 (dicDrop kvs (kD κ)) a o' → Dn.nx σ (upd H2 a o') := fun o' da2 => k σ F2 _ (R2.wr o e rfl es z0' zf' ⟨a, o', rfl, z0', zf', upd_same, da2⟩)
  refine ⟨xs, κ, q2, evk, fun v hv => fin _ (.inl ⟨_, rfl, r2.drop κ⟩), fun hn => ?_⟩
  have hg := r2.get κ
  have e0 : dicGet kvs (kD κ) = none := by
    cases hg' : dicGet kvs (kD κ) with
    | none => rfl
    | some d => rw [hg'] at hg; obtain ⟨v, ev, _⟩ := hg; rw [hn] at ev; cases ev
  have := fin (.dK xs) (by rw [dropK_none e0]; exact .inl ⟨xs, rfl, r2⟩)
  have eu : upd H2 a (.dK xs) = H2 := by
    funext b
    by_cases h : b = a
    · subst h; rw [upd_same, q2]
    · rw [upd_ne h]
  rw [eu] at this
  exact this
theorem sDPop_ap (i : Nat) (fk : Env → Out D) (ρ : Env) : sDPop i fk ρ = oS (eD i ρ) fun kvs => chkS (∀ p ∈ kvs, flatK p.1 = true) (oS (fk ρ) fun k => chkS (flatK k = true) (.nx (ρ.set i (some (.dic (dicDrop kvs k)))))) := rfl
end
end PD

namespace PD
open PySem PySem.Spec L2
open PyProof.Rows hiding St

section
variable {X : Cx} {g : G} {E : WX} {ro : Bool} {Γl Γ Γ1 Γ2 : List Bool} {pos p : Pos} {ρ : Env} {m : Md}
/-! ### what the module's top names -/
structure GlT (K : PySem.W.Frag) (mg : Str → Option Value) (x : Str) (d : D) : Prop where
  ex : ∃ u v, mg x = some u ∧ RelV v u ∧ d.mut = false ∧ ∀ mg' H, IsD K mg' H d v
theorem glT_tup {K : PySem.W.Frag} {h : Heap} {mg : Str → Option Value} {x : Str} {a : Addr} {od : Option Addr} {its : Array Value} {n : Nat} {osl : Array (Option Value)} {xs : List Str} (X : K.In h) (G : h.Ns mainGlobals mg)
    (e : PySem.W.nsIn K mainGlobals x = some (some (.ref a))) (l : K.lookup a = some ⟨.type "tuple", od, .seq its n, osl⟩) (z : its.size ≤ 1000) (v : Vals (xs.map V.str) its.toList) : GlT K mg x (.tup (xs.map D.str)) := by
  refine ⟨.ref a, .ref a, PySem.W.mg_of X G e, rfl, rfl, fun mg' H => ?_⟩
  simp only [IsD]
  refine ⟨a, xs.map V.str, rfl, .inr ⟨_, its, n, l, rfl, rfl, Nat.le_trans z (by decide), v⟩, ?_⟩
  clear v
  induction xs with
  | nil => simp only [List.map_nil, IsDs]
  | cons x xs ih =>
    simp only [List.map_cons, IsDs]
    exact ⟨_, _, rfl, by simp only [IsD], ih⟩
theorem glT_str {K : PySem.W.Frag} {h : Heap} {mg : Str → Option Value} {x : Str} {y : Str} {t : Tok} (X : K.In h) (G : h.Ns mainGlobals mg) (e : PySem.W.nsIn K mainGlobals x = some (some (.str y t))) : GlT K mg x (.str y) :=
  ⟨.str y t, .str y, PySem.W.mg_of X G e, ⟨t, rfl⟩, rfl, fun mg' H => by simp only [IsD]⟩
theorem glT_int {K : PySem.W.Frag} {h : Heap} {mg : Str → Option Value} {x : Str} {y : Int} {t : Tok} (X : K.In h) (G : h.Ns mainGlobals mg) (e : PySem.W.nsIn K mainGlobals x = some (some (.int y t))) : GlT K mg x (.int y) :=
  ⟨.int y t, .int y, PySem.W.mg_of X G e, ⟨t, rfl⟩, rfl, fun mg' H => by simp only [IsD]⟩
theorem px_glob {x : Str} {d : D} (h : GlT X.K X.mg x d) (hg : Gl X x) (hd : (x == ("__debug__" : Str)) = false := by decide) : PX X g E Γ (.Name x pos) Γ m (eC d) := by
  obtain ⟨u, v, e, r, n, i⟩ := h.ex
  exact .atom (pe_glob hg e r hd) n fun F v' e' => by subst e'; exact i _ F
/-! ### x in a list of data -/
noncomputable def dInDp (neg : Bool) : D → D → Out D
  | x, .lst ds => chk (SeqAt.shaped (toPy x) = true ∧ SeqAt.shaped (toPy (.lst ds)) = true) (.ok (.bl (if neg then !((toPys ds).any fun z => PyData.eqv z (toPy x)) else (toPys ds).any fun z => PyData.eqv z (toPy x))))
  | _, _ => .stuck
theorem Room.units65 {k : Nat} {A : Around} (r : Room k A) : A.units + 65 < cLine := by have := r.un; omega
theorem od_inDp {kk : Nat} (hr : Room kk X.A) : OpD X (compareOp .In) m (dInDp false) := by
  refine ⟨_, L2.op_inD (Room.units65 hr), fun g E Γ ρ σ Hf H x y v u Q R hx hy k => ?_⟩
  unfold dInDp at k
  split at k
  · rename_i ds
    by_cases c : SeqAt.shaped (toPy x) = true ∧ SeqAt.shaped (toPy (.lst ds)) = true
    · rw [chk_pos c] at k
      refine ⟨_, _, dp_read R.same hx (SeqAt.canLay_of_shaped c.1), dp_read R.same hy (SeqAt.canLay_of_shaped c.2), c.1, c.2, ?_⟩
      exact k Hf H (Same.refl _) (Same.refl _) R _ (Res.dat R.same rfl (by simp only [IsD]; rfl))
    · rw [chk_neg c] at k; exact k.elim
  · exact k.elim
theorem od_notinDp {kk : Nat} (hr : Room kk X.A) : OpD X (compareOp .NotIn) m (dInDp true) := by
  refine ⟨_, L2.op_notInD (Room.units65 hr), fun g E Γ ρ σ Hf H x y v u Q R hx hy k => ?_⟩
  unfold dInDp at k
  split at k
  · rename_i ds
    by_cases c : SeqAt.shaped (toPy x) = true ∧ SeqAt.shaped (toPy (.lst ds)) = true
    · rw [chk_pos c] at k
      refine ⟨_, _, dp_read R.same hx (SeqAt.canLay_of_shaped c.1), dp_read R.same hy (SeqAt.canLay_of_shaped c.2), c.1, c.2, ?_⟩
      exact k Hf H (Same.refl _) (Same.refl _) R _ (Res.dat R.same rfl (by simp only [IsD]; rfl))
    · rw [chk_neg c] at k; exact k.elim
  · exact k.elim
end
end PD

namespace PD
open PySem PySem.Spec L2
open PyProof.Rows hiding St

/-! ## slices of tuples, by steps of two and more -/
def pickT {α : Type} (xs : List α) (lo hi : Option Int) (k : Int) : List α :=
  (List.range (Builtin.Slice.slicePlaces (Builtin.Slice.sliceAdjust lo hi k xs.length).1 (Builtin.Slice.sliceAdjust lo hi k xs.length).2 k)).filterMap fun (m : Nat) => xs[((Builtin.Slice.sliceAdjust lo hi k xs.length).1 + (m : Int) * k).toNat]?
section
variable {prog : Program} {w : World} {A : Around} {E : Value → Shared → Prop} {z : Shared}
theorem applied_st {sl : Addr} {vl vu vs : Value} {lo hi : Option Int} {k : Int} {n : Nat} {Q : Int × Int × Nat → Shared → Prop} (hs : z.heap.IsSliceOf sl vl vu vs) (pl : IsPart vl lo) (pu : IsPart vu hi) (ps : IsPart vs (some k)) (h0 : 2 ≤ k)
    (h : Q ((Builtin.Slice.sliceAdjust lo hi k (n : Int)).1, k, Builtin.Slice.slicePlaces (Builtin.Slice.sliceAdjust lo hi k (n : Int)).1 (Builtin.Slice.sliceAdjust lo hi k (n : Int)).2 k) z) :
    wpAny (model prog w) A (Builtin.Slice.sliceApplied (.ref sl) (pure (n : Int))) Q E z := by
  obtain ⟨oz, hoz, hcz, hdz⟩ := id hs
  unfold Builtin.Slice.sliceApplied; unfold Builtin.Slice.sliceFields
  refine wpAny_bind (wpAny_bind (wpAny_field hoz hdz (x := vl) rfl (wpAny_bind (wpAny_field hoz hdz (x := vu) rfl (wpAny_bind (wpAny_field hoz hdz (x := vs) rfl (wpAny_pure ?_)))))))
  refine wpAny_bind (HT.slicePart_ ps ?_)
  show wpAny _ _ (if (k == 0) = true then _ else _) _ _ z
  rw [if_neg (by simp; omega)]
  refine wpAny_bind (HT.slicePart_ pl (wpAny_bind (HT.slicePart_ pu (wpAny_bind (wpAny_pure ?_)))))
  exact wpAny_pure h
theorem item_tuple_st {t sl : Addr} {its : Array Value} {vl vu vs : Value} {lo hi : Option Int} {k : Int} {Q : Value → Shared → Prop} (ht : IsTup z.heap t its) (hs : z.heap.IsSliceOf sl vl vu vs) (pl : IsPart vl lo) (pu : IsPart vu hi) (ps : IsPart vs (some k)) (h0 : 2 ≤ k)
    (h : Q (.ref z.heap.objs.size) { z with heap := z.heap.push { cls := .type "tuple", data := .seq (pickT its.toList lo hi k).toArray } })
    (hz : (pickT its.toList lo hi k).length ≤ sizeLine) : wpAny (model prog w) A (getItem (.ref t) (.ref sl)) Q E z := by
  have hfit : sizeOk (.seq (pickT its.toList lo hi k).toArray) := by
    show (pickT its.toList lo hi k).toArray.size ≤ sizeLine
    rw [List.size_toArray]; exact hz
  obtain ⟨oz, hoz, hcz, hdz⟩ := id hs
  have hT : z.TypeIs (.ref sl) "slice" := ⟨oz, hoz, hcz⟩
  unfold getItem
  try with_reducible refine wpAny_holding ?_
  first | refine wpAny_bind (wpAny_pure ?_) | skip
  refine wpAny_bind (wpAny_sequenceKey ht.typeIs (by decide) ?_)
  refine wpAny_bind (wpAny_callSpecial?_slot (name := Str.ofString "__getitem__") ht.typeIs PyProof.Rows.slot_tuple_getitem (wpAny_call_entry PyProof.Rows.slot_tuple_getitem ht.typeIs entry_tuple_getitem ?_ (args_tuple_getitem _ _)))
  show wpAny _ _ (Builtin.Tuple.tupleItemsOf (.ref t) >>= _) _ _ z
  refine wpAny_bind (tupleItemsOf_ ht ?_); refine wpAny_bind (wpAny_typeOf hT ?_)
  rw [if_pos (by decide)]
  refine wpAny_bind (applied_st hs pl pu ps h0 ?_)
  have e1 : ((Builtin.Slice.sliceAdjust lo hi k ((its.size : Nat) : Int)).1 == 0 && k == 1 && Builtin.Slice.slicePlaces (Builtin.Slice.sliceAdjust lo hi k ((its.size : Nat) : Int)).1 (Builtin.Slice.sliceAdjust lo hi k ((its.size : Nat) : Int)).2 k == its.size) = false := by
    have : (k == 1) = false := by simp; omega
    rw [this, Bool.and_false, Bool.false_and]
  show wpAny _ _ (if ((Builtin.Slice.sliceAdjust lo hi k ((its.size : Nat) : Int)).1 == 0 && k == 1 && Builtin.Slice.slicePlaces (Builtin.Slice.sliceAdjust lo hi k ((its.size : Nat) : Int)).1 (Builtin.Slice.sliceAdjust lo hi k ((its.size : Nat) : Int)).2 k == its.size) = true then _ else _) _ _ z
  rw [e1, if_neg Bool.false_ne_true]
  have e2 : ((List.range (Builtin.Slice.slicePlaces (Builtin.Slice.sliceAdjust lo hi k ((its.size : Nat) : Int)).1 (Builtin.Slice.sliceAdjust lo hi k ((its.size : Nat) : Int)).2 k)).filterMap fun (m : Nat) => its[((Builtin.Slice.sliceAdjust lo hi k ((its.size : Nat) : Int)).1 + (m : Int) * k).toNat]?).toArray = (pickT its.toList lo hi k).toArray := by
    unfold pickT
    simp
  rw [e2]
  first
    | exact wpAny_bind (m := Builtin.Tuple.tupleExact _) (wpAny_newObj_type (wpAny_pure ⟨_, rfl, wpAny_pure h⟩) hfit)
    | exact wpAny_bind (m := Builtin.Tuple.tupleExact _) (wpAny_newObj_type (wpAny_bind (wpAny_pure (wpAny_pure ⟨_, rfl, wpAny_pure h⟩))) hfit)
    | exact wpAny_bind (wpAny_bind (m := Builtin.Tuple.tupleExact _) (wpAny_newObj_type (wpAny_pure (wpAny_pure ⟨_, rfl, wpAny_pure h⟩)) hfit))
    | exact wpAny_bind (wpAny_bind (m := Builtin.Tuple.tupleExact _) (wpAny_newObj_type (wpAny_pure ⟨_, rfl, wpAny_pure h⟩) hfit))
end
section
variable {K : PySem.W.Frag} {mg : Mg} {H : Hp}
theorem vals_pickN {vs : List V} {us : List Value} (h : Vals vs us) (F : Nat → Nat) : ∀ is : List Nat, Vals (is.filterMap fun m => vs[F m]?) (is.filterMap fun m => us[F m]?)
  | [] => .nil
  | m :: is => by
    rw [List.filterMap_cons, List.filterMap_cons]
    cases e : vs[F m]? with
    | none => rw [h.none_of e]; exact vals_pickN h F is
    | some v =>
      obtain ⟨u, eu, r⟩ := Vals.get h e
      rw [eu]
      exact .cons r (vals_pickN h F is)
theorem IsDs.pickN {ds : List D} {vs : List V} (h : IsDs K mg H ds vs) (F : Nat → Nat) : ∀ is : List Nat, IsDs K mg H (is.filterMap fun m => ds[F m]?) (is.filterMap fun m => vs[F m]?)
  | [] => by simp only [List.filterMap_nil, IsDs]
  | m :: is => by
    rw [List.filterMap_cons, List.filterMap_cons]
    cases e : ds[F m]? with
    | none =>
      have e2 : vs[F m]? = none := by
        rw [List.getElem?_eq_none_iff] at e ⊢
        rw [h.len]; exact e
      rw [e2]
      exact IsDs.pickN h F is
    | some d =>
      obtain ⟨v, ev, q⟩ := h.at e
      rw [ev]
      simp only [IsDs]
      exact ⟨v, _, rfl, q, IsDs.pickN h F is⟩
theorem IsDs.pickT {ds : List D} {vs : List V} (h : IsDs K mg H ds vs) (lo hi : Option Int) (k : Int) : IsDs K mg H (PD.pickT ds lo hi k) (PD.pickT vs lo hi k) := by
  unfold PD.pickT
  rw [h.len]
  exact IsDs.pickN h (fun m => ((Builtin.Slice.sliceAdjust lo hi k ds.length).1 + (m : Int) * k).toNat) _
theorem vals_pickT {vs : List V} {us : List Value} (h : Vals vs us) (lo hi : Option Int) (k : Int) : Vals (PD.pickT vs lo hi k) (PD.pickT us lo hi k) := by
  unfold PD.pickT
  rw [h.length]
  exact vals_pickN h (fun m => ((Builtin.Slice.sliceAdjust lo hi k us.length).1 + (m : Int) * k).toNat) _
end
section
variable {X : Cx} {g : G} {E : WX} {Γ Γ1 Γ2 Γ3 Γ4 : List Bool} {m : Md} {pos p2 : Pos} {a : Expr} {lo hi st : Option Expr} {fa : Env → Out D} {fl fu fs : Env → Out (Option Int)}
noncomputable def dSlS2 : D → Option Int → Option Int → Option Int → Out D
  | .lst ds, lo, hi, st => chk (st ≠ some 0) (.ok (.lst (pickL ds lo hi st)))
  | .tup ds, lo, hi, some k => chk (2 ≤ k ∧ (pickT ds lo hi k).length ≤ sizeLine) (.ok (.tup (pickT ds lo hi k)))
  | _, _, _, _ => .stuck
noncomputable def eSlS2 (f : Env → Out D) (lo hi st : Env → Out (Option Int)) : Env → Out D := fun ρ => (f ρ).bind fun x => (lo ρ).bind fun l => (hi ρ).bind fun u => (st ρ).bind fun s => dSlS2 x l u s
/-- a[lo:hi:st], a list, or a tuple by two or more -/
def tSlS2 (K : PySem.W.Frag) (te : TE) (tl th ts : TO) : TE := fun σ H Q => te σ H fun x H1 => tl σ H1 fun l H2 => th σ H2 fun u H3 => ts σ H3 fun st H4 =>
  (∃ a xs, x = .ref a ∧ SqL K H4 a xs ∧ st ≠ some 0 ∧ ∀ p, H4 p = none → Q (.ref p) (upd H4 p (.lst (pickL xs l u st)))) ∨
  (∃ a xs k, x = .ref a ∧ SqT K H4 a xs ∧ st = some k ∧ 2 ≤ k ∧ (pickT xs l u k).length ≤ sizeLine ∧ ∀ p, H4 p = none → Q (.ref p) (upd H4 p (.tup (pickT xs l u k))))
theorem pe_sliceS2 {te : TE} {tl th ts : TO} {st : Expr} (he : PE X a te) (hl : PO X lo tl) (hu : PO X hi th) (hs : PO X (some st) ts) (hsub : ∀ o i, subscripted (.Slice lo hi (some st) p2) false o i = operate [o, i] (getItem o i)) : PE X (.Subscript a (.Slice lo hi (some st) p2) pos) (tSlS2 X.K te tl th ts) := by
  refine ⟨fun pins s σ H Q I h => ?_⟩
  refine Subscript_ (thn (he.run pins s σ H _ I h) fun v s1 ⟨x, H1, I1, r1, q1⟩ => ?_)
  refine wpAny_Slice (thn (hl.run pins s1 σ H1 _ I1 q1) fun vl s2 ⟨l, H2, I2, pl, q2⟩ => thn (hu.run pins s2 σ H2 _ I2 q2) fun vu s3 ⟨u, H3, I3, pu, q3⟩ => thn (hs.run pins s3 σ H3 _ I3 q3) fun vs s4 ⟨st', H4, I4, ps, q4⟩ => ?_)
  have I5 : Inv X pins σ H4 { s4 with heap := s4.heap.push { cls := .type "slice", data := .fields #[vl, vu, vs] } } := I4.kept (t' := s4.toks) fun b ob q => Heap.get?_push_of_some _ q
  rcases q4 with ⟨b, xs, rfl, hx, nz, q⟩ | ⟨b, xs, k, rfl, hx, rfl, k2, hz2, q⟩
  · cases r1
    obtain ⟨its, r, ht, hz⟩ := I5.list hx
    show wpAny (model X.prog X.w) X.A (subscriptTail a (.Slice lo hi (some st) p2) (.ref b) (.ref s4.heap.objs.size)) (EP X pins σ Q) X.xe { s4 with heap := s4.heap.push { cls := .type "slice", data := .fields #[vl, vu, vs] } }
    refine tail_any (ops := [.ref b, .ref s4.heap.objs.size]) ht.isList.typeIs slot_list_getitem.lookup ?_ (hsub _ _)
    refine wpAny_getItem_list_slice ht.isList (Heap.IsSliceOf.new ..) pl pu ps nz ?_ (by rw [List.size_toArray] <;> have := r.length <;> omega)
    have e : slicePick its.toArray l u st' = (pickL its l u st').toArray := by
      unfold slicePick pickL
      simp
    rw [e]
    refine ⟨.ref _, _, I5.laid (t' := s4.toks) (o := .lst (pickL xs l u st')) (fun b ob q => Heap.get?_push_of_some _ q) (Nat.le_refl _) ?_, rfl, q _ (I5.hok.fresh (Nat.le_refl _))⟩
    refine ⟨Nat.le_trans (pickL_len r l u st') hz, _, 0, ?_, Heap.get?_push_size _ rfl⟩
    unfold pickL
    rw [r.length]
    exact vals_pickI r _
  · cases r1
    obtain ⟨its, r, ht, hz⟩ := I5.tuple hx
    show wpAny (model X.prog X.w) X.A (subscriptTail a (.Slice lo hi (some st) p2) (.ref b) (.ref s4.heap.objs.size)) (EP X pins σ Q) X.xe { s4 with heap := s4.heap.push { cls := .type "slice", data := .fields #[vl, vu, vs] } }
    refine tail_any (ops := [.ref b, .ref s4.heap.objs.size]) ht.typeIs PyProof.Rows.slot_tuple_getitem.lookup ?_ (hsub _ _)
    have el := (vals_pickT r l u k).length
    refine item_tuple_st ht (Heap.IsSliceOf.new ..) pl pu ps k2 ?_ (by show (pickT its l u k).length ≤ sizeLine; rw [← el]; exact hz2)
    refine ⟨.ref _, _, I5.laid (t' := s4.toks) (o := .tup (pickT xs l u k)) (fun b ob q => Heap.get?_push_of_some _ q) (Nat.le_refl _) ?_, rfl, q _ (I5.hok.fresh (Nat.le_refl _))⟩
    exact ⟨hz2, _, vals_pickT r l u k, IsTup.new _ _⟩
theorem px_sliceS2 {st : Expr} (ha : PX X g E Γ a Γ1 .rd fa) (hl : POx X g E Γ1 lo Γ2 fl) (hu : POx X g E Γ2 hi Γ3 fu) (hs : POx X g E Γ3 (some st) Γ4 fs) (hsub : ∀ o i, subscripted (.Slice lo hi (some st) p2) false o i = operate [o, i] (getItem o i)) : PX X g E Γ (.Subscript a (.Slice lo hi (some st) p2) pos) Γ4 m (eSlS2 fa fl fu fs) := by
  refine ⟨hs.le.trans (hu.le.trans (hl.le.trans ha.le)), (pe_sliceS2 ha.pe hl.po hu.po hs.po hsub).imp fun σ H Q ⟨ρ, Hf, R, k⟩ => ⟨ρ, Hf, R, ?_⟩⟩
  refine tG.bind (hs.le.trans (hu.le.trans hl.le)) k fun x F1 H1 s1 s2 R1 k1 v hv => ⟨ρ, F1, R1, ?_⟩
  refine tG.bind (hs.le.trans hu.le) k1 fun l F2 H2 s3 s4 R2 k2 => ⟨ρ, F2, R2, ?_⟩
  refine tG.bind hs.le k2 fun u F3 H3 s5 s6 R3 k3 => ⟨ρ, F3, R3, ?_⟩
  refine tG.bind (Le.refl _) k3 fun w F4 H4 s7 s8 R4 k4 => ?_
  replace hv := IsR.mono (s3.trans (s5.trans s7)) (s4.trans (s6.trans s8)) hv
  unfold dSlS2 at k4
  split at k4
  · rename_i _ _ _ ds
    by_cases c : w ≠ some 0
    · rw [chk_pos c] at k4
      obtain ⟨p, xs, rfl, q, r⟩ := hv
      exact .inl ⟨p, xs, rfl, .of q, c, fun p n => pv_lst R4 (r.pick _ _ _) n k4⟩
    · rw [chk_neg c] at k4; exact k4.elim
  · rename_i _ _ _ ds kk
    by_cases c : 2 ≤ kk ∧ (pickT ds l u kk).length ≤ sizeLine
    · rw [chk_pos c] at k4
      simp only [IsR, IsD] at hv
      obtain ⟨p, xs, rfl, q, r⟩ := hv
      have el := (r.pickT l u kk).len
      exact .inr ⟨p, xs, kk, rfl, Same.seqT R4.same q, rfl, c.1, by rw [el]; exact c.2, fun p n => pv_tup R4 (r.pickT _ _ _) n k4⟩
    · rw [chk_neg c] at k4; exact k4.elim
  · exact k4.elim
theorem eSlS2_ap (f : Env → Out D) (lo hi st : Env → Out (Option Int)) (ρ : Env) : eSlS2 f lo hi st ρ = (f ρ).bind fun x => (lo ρ).bind fun l => (hi ρ).bind fun u => (st ρ).bind fun s => dSlS2 x l u s := rfl
theorem dSlS2_tup (ds : List D) (lo hi : Option Int) (k : Int) : dSlS2 (.tup ds) lo hi (some k) = chk (2 ≤ k ∧ (pickT ds lo hi k).length ≤ sizeLine) (.ok (.tup (pickT ds lo hi k))) := rfl
end
end PD

namespace PD
open PySem PySem.Spec L2
open PySem.W (dataLt alike alikeAll dataLe AllAlike keyToks keyToksAll)
open PyProof.Rows hiding St
noncomputable def b_form_of_1 : Env → SO := (sPut 1 (eV 2) (e2 dAdd (eGet2 (eV 1) (eV 2) (eC (.int 0))) (eV 3)))
noncomputable def b_form_of : Env → SO := (sSeq (sSet 1 (eC (.dic [])))
 (sSeq (sFor (gT [(gN 2), (gN 3)]) (iSeq (eV 0))
 b_form_of_1)
 (sRet (eA cTuple (aC (eLc [2] (gN 2) (iSeq (eA cSorted (aC (eV 1) aN))) (tOf (e2 dNe (e2 dIx (eV 1) (eV 2)) (eC (.int 0)))) (eA mkTup (aC (eV 2) (aC (e2 dIx (eV 1) (eV 2)) aN)))) aN)))))
noncomputable def m_form_of : List D → Out D := fnM 4 1 b_form_of
noncomputable def b__law_cell : Env → SO := (sSeq (sIf (tOf (e2 dLt (eV 1) (eA cLen (aC (eV 0) aN))))
 (sRet (e2 dMod (e2 dIx (eV 0) (eV 1)) (e2 dPow (eC (.int 10)) (eC (.int 60)))))
 sNx)
 (sRet (eC (.int 0))))
noncomputable def m__law_cell : List D → Out D := fnM 2 2 b__law_cell
noncomputable def b__law_fit : Env → SO := (sSeq (sIf (tOf (e2 dIn (eV 0) (eA mkLst (aC (eC (.str "some")) (aC (eC (.str "all")) (aC (eC (.str "and")) (aC (eC (.str "or")) (aC (eC (.str "not")) (aC (eC (.str "yes")) (aC (eC (.str "no")) aN))))))))))
 (sRet (e2 dAdd (eV 0) (eC (.str "q"))))
 sNx)
 (sRet (eV 0)))
noncomputable def m__law_fit : List D → Out D := fnM 1 1 b__law_fit
noncomputable def b__law_names_1 : Env → SO := (sSeq (sSet 2 (e2 dAdd (eV 2) (e2 dIx (eV 1) (e2 dMod (eV 3) (eC (.int 26))))))
 (sSet 3 (e2 dDiv (eV 3) (eC (.int 26)))))
noncomputable def b__law_names : Env → SO := (sSeq (sSet 1 (eC (.str "abcdefghijklmnopqrstuvwxyz")))
 (sSeq (sSet 2 (eC (.str "")))
 (sSeq (sSet 3 (e2 dDiv (eV 0) (eC (.int 7))))
 (sSeq (sFor (gN 4) (iRange1 (aC (e2 dAdd (eC (.int 1)) (e2 dMod (eV 0) (eC (.int 7)))) aN))
 b__law_names_1)
 (sSeq (sSet 2 (eA m__law_fit (aC (eV 2) aN)))
 (sSeq (sSet 5 (e2 dMod (eV 3) (eA cLen (aC (eV 2) aN))))
 (sSeq (sSet 6 (e2 dMod (e2 dAdd (e2 dAdd (eS2 (fun a b => .int (Txt.find a b)) (eV 1) (e2 dIx (eV 2) (eV 5))) (eC (.int 1))) (e2 dMod (e2 dDiv (eV 3) (eC (.int 7))) (eC (.int 25)))) (eC (.int 26))))
 (sSeq (sSet 7 (eA m__law_fit (aC (e2 dAdd (e2 dAdd (eSl (eV 2) oN (oI (eV 5))) (e2 dIx (eV 1) (eV 6))) (eSl (eV 2) (oI (e2 dAdd (eV 5) (eC (.int 1)))) oN)) aN)))
 (sSeq (sSet 8 (eA m__law_fit (aC (e2 dAdd (eV 2) (e2 dIx (eV 1) (e2 dMod (e2 dDiv (eV 3) (eC (.int 175))) (eC (.int 26))))) aN)))
 (sRet (eA mkLst (aC (eV 2) (aC (eV 7) (aC (eV 8) aN))))))))))))))
noncomputable def m__law_names : List D → Out D := fnM 9 1 b__law_names
noncomputable def b__law_signed : Env → SO := (sSeq (sSet 0 (e2 dMod (eV 0) (e2 dAdd (e2 dMul (eC (.int 2)) (eV 1)) (eC (.int 1)))))
 (sSeq (sSet 2 (e2 dDiv (e2 dAdd (eV 0) (eC (.int 1))) (eC (.int 2))))
 (sSeq (sIf (tOf (e2 dEq (e2 dMod (eV 0) (eC (.int 2))) (eC (.int 1))))
 (sRet (eV 2))
 sNx)
 (sRet (e2 dSub (eC (.int 0)) (eV 2))))))
noncomputable def m__law_signed : List D → Out D := fnM 3 2 b__law_signed
noncomputable def b__law_product_1 : Env → SO := (sSeq (sSet 4 (e2 dMul (e2 dMod (eV 1) (eC (.int 10))) (eA cInt (aC (e2 dGt (e2 dMod (e2 dDiv (eV 1) (eC (.int 10))) (eC (.int 3))) (eC (.int 0))) aN))))
 (sSeq (sSet 1 (e2 dDiv (eV 1) (eC (.int 30))))
 (sIf (tOf (e2 dGt (eV 4) (eC (.int 0))))
 (sApp 2 (eA mkTup (aC (eV 3) (aC (eV 4) aN))))
 sNx)))
noncomputable def b__law_product : Env → SO := (sSeq (sSet 2 (eA mkLst aN))
 (sSeq (sFor (gN 3) (iSeq (eV 0))
 b__law_product_1)
 (sRet (eA cTuple (aC (eA cSorted (aC (eV 2) aN)) aN)))))
noncomputable def m__law_product : List D → Out D := fnM 5 2 b__law_product
noncomputable def b__law_whole : Env → SO := (sRet (vAnd (eA cIsi (aC (eV 0) (aC (eC (.ty "int")) aN))) (vNot (eA cIsi (aC (eV 0) (aC (eC (.ty "bool")) aN))))))
noncomputable def m__law_whole : List D → Out D := fnM 1 1 b__law_whole
noncomputable def b__law_sum_1 : Env → SO := (sPut 1 (eV 2) (e2 dAdd (eGet2 (eV 1) (eV 2) (eC (.int 0))) (eV 3)))
noncomputable def b__law_sum : Env → SO := (sSeq (sSet 1 (eC (.dic [])))
 (sSeq (sFor (gT [(gN 2), (gN 3)]) (iSeq (eV 0))
 b__law_sum_1)
 (sRet (eA cTuple (aC (eLc [2] (gN 2) (iSeq (eA cSorted (aC (eV 1) aN))) (tOf (e2 dNe (e2 dIx (eV 1) (eV 2)) (eC (.int 0)))) (eA mkTup (aC (eV 2) (aC (e2 dIx (eV 1) (eV 2)) aN)))) aN)))))
noncomputable def m__law_sum : List D → Out D := fnM 4 1 b__law_sum
noncomputable def b__law_is_form_1 : Env → SO := (sSeq (sIf (bOr (bNot (tOf (eA cIsi (aC (eV 2) (aC (eC (.ty "tuple")) aN))))) (bOr (tOf (e2 dNe (eA cLen (aC (eV 2) aN)) (eC (.int 2)))) (bNot (tOf (eA cIsi (aC (e2 dIx (eV 2) (eC (.int 0))) (aC (eC (.ty "str")) aN)))))))
 (sRet (eC (.bl false)))
 sNx)
 (sIf (bOr (bNot (tOf (eA m__law_whole (aC (e2 dIx (eV 2) (eC (.int 1))) aN)))) (tOf (e2 dLt (e2 dIx (eV 2) (eC (.int 1))) (eC (.int 1)))))
 (sRet (eC (.bl false)))
 sNx))
noncomputable def b__law_is_form_2 : Env → SO := (sIf (tOf (e2 dGe (e2 dIx (e2 dIx (e2 dIx (eV 1) (eC (.int 0))) (e2 dSub (eV 3) (eC (.int 1)))) (eC (.int 0))) (e2 dIx (e2 dIx (e2 dIx (eV 1) (eC (.int 0))) (eV 3)) (eC (.int 0)))))
 (sRet (eC (.bl false)))
 sNx)
noncomputable def b__law_is_form_3 : Env → SO := (sSeq (sIf (bOr (bNot (tOf (eA cIsi (aC (eV 1) (aC (eC (.ty "tuple")) aN))))) (bOr (tOf (e2 dNe (eA cLen (aC (eV 1) aN)) (eC (.int 2)))) (bNot (tOf (eA cIsi (aC (e2 dIx (eV 1) (eC (.int 0))) (aC (eC (.ty "tuple")) aN)))))))
 (sRet (eC (.bl false)))
 sNx)
 (sSeq (sIf (bOr (bNot (tOf (eA m__law_whole (aC (e2 dIx (eV 1) (eC (.int 1))) aN)))) (tOf (e2 dEq (e2 dIx (eV 1) (eC (.int 1))) (eC (.int 0)))))
 (sRet (eC (.bl false)))
 sNx)
 (sSeq (sFor (gN 2) (iSeq (e2 dIx (eV 1) (eC (.int 0))))
 b__law_is_form_1)
 (sFor (gN 3) (iRange2 (aC (eC (.int 1)) (aC (eA cLen (aC (e2 dIx (eV 1) (eC (.int 0))) aN)) aN)))
 b__law_is_form_2))))
noncomputable def b__law_is_form_4 : Env → SO := (sIf (tOf (e2 dGe (e2 dIx (e2 dIx (eV 0) (e2 dSub (eV 3) (eC (.int 1)))) (eC (.int 0))) (e2 dIx (e2 dIx (eV 0) (eV 3)) (eC (.int 0)))))
 (sRet (eC (.bl false)))
 sNx)
noncomputable def b__law_is_form : Env → SO := (sSeq (sIf (bNot (tOf (eA cIsi (aC (eV 0) (aC (eC (.ty "tuple")) aN)))))
 (sRet (eC (.bl false)))
 sNx)
 (sSeq (sFor (gN 1) (iSeq (eV 0))
 b__law_is_form_3)
 (sSeq (sFor (gN 3) (iRange2 (aC (eC (.int 1)) (aC (eA cLen (aC (eV 0) aN)) aN)))
 b__law_is_form_4)
 (sRet (eC (.bl true))))))
noncomputable def m__law_is_form : List D → Out D := fnM 4 1 b__law_is_form
noncomputable def b_plus : Env → SO := (sRet (eA m_form_of (aC (e2 dAdd (eA cList (aC (eV 0) aN)) (eA cList (aC (eV 1) aN))) aN)))
noncomputable def m_plus : List D → Out D := fnM 2 2 b_plus
noncomputable def b_product_of_1 : Env → SO := (sPut 2 (eV 3) (e2 dAdd (eGet2 (eV 2) (eV 3) (eC (.int 0))) (eV 4)))
noncomputable def b_product_of : Env → SO := (sSeq (sSet 2 (eC (.dic [])))
 (sSeq (sFor (gT [(gN 3), (gN 4)]) (iSeq (e2 dAdd (eV 0) (eV 1)))
 b_product_of_1)
 (sRet (eA cTuple (aC (eLc [3] (gN 3) (iSeq (eA cSorted (aC (eV 2) aN))) bYes (eA mkTup (aC (eV 3) (aC (e2 dIx (eV 2) (eV 3)) aN)))) aN)))))
noncomputable def m_product_of : List D → Out D := fnM 5 2 b_product_of
noncomputable def b_times_1 : Env → SO := (sApp 2 (eA mkTup (aC (eA m_product_of (aC (eV 3) (aC (eV 5) aN))) (aC (e2 dMul (eV 4) (eV 6)) aN))))
noncomputable def b_times_2 : Env → SO := (sFor (gT [(gN 5), (gN 6)]) (iSeq (eV 1))
 b_times_1)
noncomputable def b_times : Env → SO := (sSeq (sSet 2 (eA mkLst aN))
 (sSeq (sFor (gT [(gN 3), (gN 4)]) (iSeq (eV 0))
 b_times_2)
 (sRet (eA m_form_of (aC (eV 2) aN)))))
noncomputable def m_times : List D → Out D := fnM 7 2 b_times
noncomputable def b_scaled : Env → SO := (sRet (eA m_form_of (aC (eLc [2, 3] (gT [(gN 2), (gN 3)]) (iSeq (eV 0)) bYes (eA mkTup (aC (eV 2) (aC (e2 dMul (eV 1) (eV 3)) aN)))) aN)))
noncomputable def m_scaled : List D → Out D := fnM 4 2 b_scaled
noncomputable def b__law_form_1 : Env → SO := (sSeq (sSet 6 (e2 dMod (eV 5) (e2 dPow (eC (.int 10)) (eC (.int 60)))))
 (sApp 4 (eA mkTup (aC (eA m__law_product (aC (eV 1) (aC (e2 dMod (eV 6) (eC (.int 27000))) aN))) (aC (eA m__law_signed (aC (e2 dDiv (eV 6) (eC (.int 27000))) (aC (e2 dPow (eC (.int 10)) (eC (.int 28))) aN))) aN)))))
noncomputable def b__law_form : Env → SO := (sSeq (sSet 4 (eA mkLst aN))
 (sSeq (sFor (gN 5) (iSeq (eSl (eV 0) (oI (eV 2)) (oI (eV 3))))
 b__law_form_1)
 (sRet (eA m__law_sum (aC (eV 4) aN)))))
noncomputable def m__law_form : List D → Out D := fnM 7 4 b__law_form
noncomputable def b__law_value_1 : Env → SO := (sSet 4 (e2 dMul (eV 4) (e2 dIx (eV 1) (eV 5))))
noncomputable def b__law_value_2 : Env → SO := (sFor (gN 7) (iRange1 (aC (eV 6) aN))
 b__law_value_1)
noncomputable def b__law_value_3 : Env → SO := (sSeq (sFor (gT [(gN 5), (gN 6)]) (iSeq (eV 3))
 b__law_value_2)
 (sSet 2 (e2 dAdd (eV 2) (eV 4))))
noncomputable def b__law_value : Env → SO := (sSeq (sSet 2 (eC (.int 0)))
 (sSeq (sFor (gT [(gN 3), (gN 4)]) (iSeq (eV 0))
 b__law_value_3)
 (sRet (eV 2))))
noncomputable def m__law_value : List D → Out D := fnM 8 2 b__law_value
noncomputable def b__law_good_1 : Env → SO := (sIf (tOf (e2 dNotIn (eV 6) (eV 1)))
 (sRet (eC (.bl false)))
 sNx)
noncomputable def b__law_good_2 : Env → SO := (sFor (gT [(gN 6), (gN 7)]) (iSeq (eV 4))
 b__law_good_1)
noncomputable def b__law_good : Env → SO := (sSeq (sIf (bNot (tOf (eA m__law_is_form (aC (eV 0) aN))))
 (sRet (eC (.bl false)))
 sNx)
 (sSeq (sFor (gT [(gN 4), (gN 5)]) (iSeq (eV 0))
 b__law_good_2)
 (sRet (e2 dEq (eA m__law_value (aC (eV 0) (aC (eV 2) aN))) (eV 3)))))
noncomputable def m__law_good : List D → Out D := fnM 8 4 b__law_good
noncomputable def b_names_of_1 : Env → SO := (sPut 1 (eV 4) (eC (.bl true)))
noncomputable def b_names_of_2 : Env → SO := (sFor (gT [(gN 4), (gN 5)]) (iSeq (eV 2))
 b_names_of_1)
noncomputable def b_names_of : Env → SO := (sSeq (sSet 1 (eC (.dic [])))
 (sSeq (sFor (gT [(gN 2), (gN 3)]) (iSeq (eV 0))
 b_names_of_2)
 (sRet (eA cTuple (aC (eA cSorted (aC (eV 1) aN)) aN)))))
noncomputable def m_names_of : List D → Out D := fnM 6 1 b_names_of
noncomputable def b_power_of_1 : Env → SO := (sIf (tOf (e2 dEq (eV 2) (eV 1)))
 (sRet (eV 3))
 sNx)
noncomputable def b_power_of : Env → SO := (sSeq (sFor (gT [(gN 2), (gN 3)]) (iSeq (eV 0))
 b_power_of_1)
 (sRet (eC (.int 0))))
noncomputable def m_power_of : List D → Out D := fnM 4 2 b_power_of
noncomputable def b_by_power_1 : Env → SO := (sSeq (sSet 6 (eA m_power_of (aC (eV 4) (aC (eV 1) aN))))
 (sSeq (sSet 7 (eA cTuple (aC (eLc [9] (gN 9) (iSeq (eV 4)) (tOf (e2 dNe (e2 dIx (eV 9) (eC (.int 0))) (eV 1))) (eV 9)) aN)))
 (sSeq (sRow 2 8 (eV 6) (eA mkTup (aC (eV 7) (aC (eV 5) aN))))
 (sSet 3 (eA cMax2 (aC (eV 3) (aC (eV 6) aN)))))))
noncomputable def b_by_power : Env → SO := (sSeq (sSet 2 (eC (.dic [])))
 (sSeq (sSet 3 (eC (.int 0)))
 (sSeq (sForR 2 (gT [(gN 4), (gN 5)]) (iSeq (eV 0))
 b_by_power_1)
 (sRet (eA cTuple (aC (eLc [6] (gN 6) (iRange1 (aC (e2 dAdd (eV 3) (eC (.int 1))) aN)) bYes (eA m_form_of (aC (eGet2 (eV 2) (eV 6) (eA mkLst aN)) aN))) aN))))))
noncomputable def m_by_power : List D → Out D := fnM 10 2 b_by_power
noncomputable def b__law_stands_1 : Env → SO := (sPut 1 (eV 4) (eA cMax2 (aC (eV 5) (aC (eGet2 (eV 1) (eV 4) (eC (.int 0))) aN))))
noncomputable def b__law_stands_2 : Env → SO := (sFor (gT [(gN 4), (gN 5)]) (iSeq (eV 2))
 b__law_stands_1)
noncomputable def b__law_stands : Env → SO := (sSeq (sSet 1 (eC (.dic [])))
 (sSeq (sFor (gT [(gN 2), (gN 3)]) (iSeq (eV 0))
 b__law_stands_2)
 (sRet (eV 1))))
noncomputable def m__law_stands : List D → Out D := fnM 6 1 b__law_stands
noncomputable def b_divisor_1 : Env → SO := (sPar 0 1 (eV 1) (e2 dMod (eV 0) (eV 1)))
noncomputable def b_divisor : Env → SO := (sSeq (sWhile (tOf (e2 dNe (eV 1) (eC (.int 0))))
 b_divisor_1)
 (sRet (eV 0)))
noncomputable def m_divisor : List D → Out D := fnM 2 2 b_divisor
noncomputable def b_lean_1 : Env → SO := (sSet 1 (eA m_divisor (aC (eV 1) (aC (eA cAbs (aC (eV 3) aN)) aN))))
noncomputable def b_lean : Env → SO := (sSeq (sSet 1 (eC (.int 0)))
 (sSeq (sFor (gT [(gN 2), (gN 3)]) (iSeq (eV 0))
 b_lean_1)
 (sSeq (sIf (tOf (e2 dLt (eV 1) (eC (.int 2))))
 (sRet (eV 0))
 sNx)
 (sRet (eA cTuple (aC (eLc [2, 3] (gT [(gN 2), (gN 3)]) (iSeq (eV 0)) bYes (eA mkTup (aC (eV 2) (aC (e2 dDiv (eV 3) (eV 1)) aN)))) aN))))))
noncomputable def m_lean : List D → Out D := fnM 4 1 b_lean
noncomputable def b__law_share_1 : Env → SO := (sPar 1 4 (eV 4) (e2 dMod (eV 1) (eV 4)))
noncomputable def b__law_share_2 : Env → SO := (sSeq (sSet 4 (eA cAbs (aC (eV 3) aN)))
 (sWhile (tOf (e2 dNe (eV 4) (eC (.int 0))))
 b__law_share_1))
noncomputable def b__law_share : Env → SO := (sSeq (sSet 1 (eC (.int 0)))
 (sSeq (sFor (gT [(gN 2), (gN 3)]) (iSeq (eV 0))
 b__law_share_2)
 (sRet (eV 1))))
noncomputable def m__law_share : List D → Out D := fnM 5 1 b__law_share
noncomputable def b_sign_of : Env → SO := (sSeq (sIf (tOf (e2 dGt (eV 0) (eC (.int 0))))
 (sRet (eC (.int 1)))
 sNx)
 (sSeq (sIf (tOf (e2 dLt (eV 0) (eC (.int 0))))
 (sRet (e1 dNeg (eC (.int 1))))
 sNx)
 (sRet (eC (.int 0)))))
noncomputable def m_sign_of : List D → Out D := fnM 1 1 b_sign_of
noncomputable def b_sign_one : Env → SO := (sSeq (sSet 3 (eA m_sign_of (aC (eV 0) aN)))
 (sSeq (sSet 4 (eA m_sign_of (aC (e2 dMul (eV 1) (eV 2)) aN)))
 (sSeq (sIf (bOr (tOf (e2 dEq (eV 3) (eV 4))) (tOf (e2 dEq (eV 4) (eC (.int 0)))))
 (sRet (eV 3))
 sNx)
 (sSeq (sIf (tOf (e2 dEq (eV 3) (eC (.int 0))))
 (sRet (eV 4))
 sNx)
 (sRet (e2 dMul (eV 3) (eA m_sign_of (aC (e2 dSub (e2 dMul (eV 0) (eV 0)) (e2 dMul (e2 dMul (eV 1) (eV 1)) (eV 2))) aN))))))))
noncomputable def m_sign_one : List D → Out D := fnM 5 3 b_sign_one
noncomputable def b__law_cell_v2 : Env → SO := (sSeq (sIf (tOf (e2 dLt (eV 1) (eA cLen (aC (eV 0) aN))))
 (sSeq (sSet 2 (e2 dMul (e2 dIx (eV 0) (eV 1)) (eC (.int 31415926535897932384626433832795028841971693993751058209749))))
 (sRet (e2 dMod (eV 2) (e2 dPow (eC (.int 10)) (eC (.int 60))))))
 sNx)
 (sRet (eC (.int 0))))
noncomputable def m__law_cell_v2 : List D → Out D := fnM 3 2 b__law_cell_v2
noncomputable def b__law_sign : Env → SO := (sSeq (sSet 3 (e2 dSub (eA cInt (aC (e2 dGt (eV 0) (eC (.int 0))) aN)) (eA cInt (aC (e2 dLt (eV 0) (eC (.int 0))) aN))))
 (sSeq (sSet 4 (e2 dSub (eA cInt (aC (e2 dGt (eV 1) (eC (.int 0))) aN)) (eA cInt (aC (e2 dLt (eV 1) (eC (.int 0))) aN))))
 (sSeq (sIf (tOf (e2 dEq (eV 2) (eC (.int 0))))
 (sSet 4 (eC (.int 0)))
 sNx)
 (sSeq (sIf (tOf (e2 dGe (e2 dMul (eV 3) (eV 4)) (eC (.int 0))))
 (sRet (eA cMax2 (aC (e1 dNeg (eC (.int 1))) (aC (eA cMin2 (aC (eC (.int 1)) (aC (e2 dAdd (eV 3) (eV 4)) aN))) aN))))
 sNx)
 (sSeq (sSet 5 (e2 dSub (e2 dMul (eV 0) (eV 0)) (e2 dMul (e2 dMul (eV 1) (eV 1)) (eV 2))))
 (sSeq (sIf (tOf (e2 dLt (eV 5) (eC (.int 0))))
 (sRet (eV 4))
 sNx)
 (sRet (e2 dMul (eV 3) (eA cInt (aC (e2 dGt (eV 5) (eC (.int 0))) aN))))))))))
noncomputable def m__law_sign : List D → Out D := fnM 6 3 b__law_sign
noncomputable def b__law_is_sign : Env → SO := (sRet (vAnd (eA cIsi (aC (eV 0) (aC (eC (.ty "int")) aN))) (vAnd (vNot (eA cIsi (aC (eV 0) (aC (eC (.ty "bool")) aN)))) (e2 dEq (eV 0) (eV 1)))))
noncomputable def m__law_is_sign : List D → Out D := fnM 2 2 b__law_is_sign
noncomputable def b__law_by_digits : Env → SO := (sRet (vAnd (e2 dGt (eA cLen (aC (eV 0) aN)) (eC (.int 0))) (e2 dEq (e2 dMod (e2 dDiv (e2 dIx (eV 0) (eC (.int 0))) (eC (.int 3))) (eC (.int 2))) (eC (.int 1)))))
noncomputable def m__law_by_digits : List D → Out D := fnM 1 1 b__law_by_digits
noncomputable def b_sign_two : Env → SO := (sSeq (sSet 5 (eA m_sign_one (aC (eV 0) (aC (eV 1) (aC (eV 2) aN)))))
 (sSeq (sSet 6 (eA m_sign_of (aC (e2 dMul (eV 3) (eV 4)) aN)))
 (sSeq (sIf (bOr (tOf (e2 dEq (eV 5) (eV 6))) (tOf (e2 dEq (eV 6) (eC (.int 0)))))
 (sRet (eV 5))
 sNx)
 (sSeq (sIf (tOf (e2 dEq (eV 5) (eC (.int 0))))
 (sRet (eV 6))
 sNx)
 (sRet (e2 dMul (eV 5) (eA m_sign_one (aC (e2 dSub (e2 dAdd (e2 dMul (eV 0) (eV 0)) (e2 dMul (e2 dMul (eV 1) (eV 1)) (eV 2))) (e2 dMul (e2 dMul (eV 3) (eV 3)) (eV 4))) (aC (e2 dMul (e2 dMul (eC (.int 2)) (eV 0)) (eV 1)) (aC (eV 2) aN))))))))))
noncomputable def m_sign_two : List D → Out D := fnM 7 5 b_sign_two
noncomputable def b__law_sign_two : Env → SO := (sSeq (sSet 5 (eA m__law_sign (aC (eV 0) (aC (eV 1) (aC (eV 2) aN)))))
 (sSeq (sSet 6 (e2 dSub (eA cInt (aC (e2 dGt (eV 3) (eC (.int 0))) aN)) (eA cInt (aC (e2 dLt (eV 3) (eC (.int 0))) aN))))
 (sSeq (sIf (tOf (e2 dEq (eV 4) (eC (.int 0))))
 (sSet 6 (eC (.int 0)))
 sNx)
 (sSeq (sIf (tOf (e2 dGe (e2 dMul (eV 5) (eV 6)) (eC (.int 0))))
 (sRet (eA cMax2 (aC (e1 dNeg (eC (.int 1))) (aC (eA cMin2 (aC (eC (.int 1)) (aC (e2 dAdd (eV 5) (eV 6)) aN))) aN))))
 sNx)
 (sSeq (sSet 7 (e2 dSub (e2 dAdd (e2 dMul (eV 0) (eV 0)) (e2 dMul (e2 dMul (eV 1) (eV 1)) (eV 2))) (e2 dMul (e2 dMul (eV 3) (eV 3)) (eV 4))))
 (sRet (e2 dMul (eV 5) (eA m__law_sign (aC (eV 7) (aC (e2 dMul (e2 dMul (eC (.int 2)) (eV 0)) (eV 1)) (aC (eV 2) aN)))))))))))
noncomputable def m__law_sign_two : List D → Out D := fnM 8 5 b__law_sign_two
noncomputable def b_order : Env → SO := (sSeq (sAsg (gT [(gN 2), (gN 3), (gN 4), (gN 5)]) (eV 0))
 (sSeq (sAsg (gT [(gN 6), (gN 7), (gN 8), (gN 9)]) (eV 1))
 (sRet (eA m_sign_two (aC (e2 dSub (e2 dMul (eV 2) (eV 9)) (e2 dMul (eV 6) (eV 5))) (aC (e2 dMul (eV 3) (eV 9)) (aC (eV 4) (aC (e2 dSub (eC (.int 0)) (e2 dMul (eV 7) (eV 5))) (aC (eV 8) aN)))))))))
noncomputable def m_order : List D → Out D := fnM 10 2 b_order
noncomputable def b__law_order : Env → SO := (sSeq (sAsg (gT [(gN 2), (gN 3), (gN 4), (gN 5)]) (eV 0))
 (sSeq (sAsg (gT [(gN 6), (gN 7), (gN 8), (gN 9)]) (eV 1))
 (sRet (eA m__law_sign_two (aC (e2 dSub (e2 dMul (eV 2) (eV 9)) (e2 dMul (eV 6) (eV 5))) (aC (e2 dMul (eV 3) (eV 9)) (aC (eV 4) (aC (e2 dSub (eC (.int 0)) (e2 dMul (eV 7) (eV 5))) (aC (eV 8) aN)))))))))
noncomputable def m__law_order : List D → Out D := fnM 10 2 b__law_order
noncomputable def b__law_base_1 : Env → SO := (sSeq (sSet 0 (e2 dMod (e2 dMul (eV 0) (eC (.int 69621))) (e2 dAdd (e2 dPow (eC (.int 10)) (eC (.int 60))) (eC (.int 7)))))
 (sApp 2 (e2 dDiv (eV 0) (e2 dPow (eC (.int 10)) (eC (.int 24))))))
noncomputable def b__law_base : Env → SO := (sSeq (sSet 1 (e2 dIx (eA mkLst (aC (eC (.int 3)) (aC (eC (.int 60)) (aC (e2 dPow (eC (.int 10)) (eC (.int 6))) (aC (e2 dPow (eC (.int 10)) (eC (.int 12))) (aC (e2 dPow (eC (.int 10)) (eC (.int 28))) aN)))))) (e2 dMod (eV 0) (eC (.int 5)))))
 (sSeq (sSet 2 (eA mkLst aN))
 (sSeq (sFor (gN 3) (iRange1 (aC (eC (.int 4)) aN))
 b__law_base_1)
 (sSeq (sSet 4 (eA m__law_signed (aC (e2 dIx (eV 2) (eC (.int 0))) (aC (eV 1) aN))))
 (sSeq (sSet 5 (eA m__law_signed (aC (e2 dIx (eV 2) (eC (.int 1))) (aC (eV 1) aN))))
 (sRet (eA mkTup (aC (eV 4) (aC (eV 5) (aC (e2 dMod (e2 dIx (eV 2) (eC (.int 2))) (e2 dAdd (eV 1) (eC (.int 1)))) (aC (e2 dAdd (eC (.int 1)) (e2 dMod (e2 dIx (eV 2) (eC (.int 3))) (eV 1))) aN)))))))))))
noncomputable def m__law_base : List D → Out D := fnM 6 1 b__law_base
noncomputable def b__law_again : Env → SO := (sSeq (sAsg (gT [(gN 2), (gN 3), (gN 4), (gN 5)]) (eV 0))
 (sSeq (sSet 6 (e2 dAdd (eC (.int 1)) (e2 dMod (eV 1) (eC (.int 5)))))
 (sSeq (sSet 7 (e2 dAdd (eC (.int 1)) (e2 dMod (e2 dDiv (eV 1) (eC (.int 5))) (eC (.int 7)))))
 (sRet (eA mkTup (aC (e2 dMul (e2 dMul (eV 2) (eV 6)) (eV 7)) (aC (e2 dMul (eV 3) (eV 7)) (aC (e2 dMul (e2 dMul (eV 4) (eV 6)) (eV 6)) (aC (e2 dMul (e2 dMul (eV 5) (eV 6)) (eV 7)) aN)))))))))
noncomputable def m__law_again : List D → Out D := fnM 8 2 b__law_again
noncomputable def b__law_near : Env → SO := (sSeq (sAsg (gT [(gN 2), (gN 3), (gN 4), (gN 5)]) (eV 0))
 (sSeq (sIf (tOf (e2 dEq (e2 dMod (eV 1) (eC (.int 3))) (eC (.int 0))))
 (sRet (eA mkTup (aC (e2 dAdd (eV 2) (eC (.int 1))) (aC (eV 3) (aC (eV 4) (aC (eV 5) aN))))))
 sNx)
 (sSeq (sIf (tOf (e2 dEq (e2 dMod (eV 1) (eC (.int 3))) (eC (.int 1))))
 (sRet (eA mkTup (aC (eV 2) (aC (eV 3) (aC (e2 dAdd (eV 4) (eC (.int 1))) (aC (eV 5) aN))))))
 sNx)
 (sRet (eA mkTup (aC (eV 2) (aC (eV 3) (aC (eV 4) (aC (e2 dAdd (eV 5) (eC (.int 1))) aN)))))))))
noncomputable def m__law_near : List D → Out D := fnM 6 2 b__law_near
noncomputable def b__law_read_v3 : Env → SO := (sSeq (sSet 1 (e2 dIx (eA mkLst (aC (eC (.int 3)) (aC (eC (.int 60)) (aC (e2 dPow (eC (.int 10)) (eC (.int 6))) (aC (e2 dPow (eC (.int 10)) (eC (.int 12))) (aC (e2 dPow (eC (.int 10)) (eC (.int 28))) aN)))))) (e2 dMod (eV 0) (eC (.int 5)))))
 (sSeq (sSet 0 (e2 dDiv (eV 0) (eC (.int 5))))
 (sSeq (sSet 2 (eA m__law_signed (aC (eV 0) (aC (eV 1) aN))))
 (sSeq (sSet 0 (e2 dDiv (eV 0) (e2 dAdd (e2 dMul (eC (.int 2)) (eV 1)) (eC (.int 1)))))
 (sSeq (sSet 3 (eA m__law_signed (aC (eV 0) (aC (eV 1) aN))))
 (sSeq (sSet 0 (e2 dDiv (eV 0) (e2 dAdd (e2 dMul (eC (.int 2)) (eV 1)) (eC (.int 1)))))
 (sRet (eA mkTup (aC (eV 2) (aC (eV 3) (aC (e2 dMod (eV 0) (e2 dAdd (eV 1) (eC (.int 1)))) (aC (e2 dAdd (eC (.int 1)) (e2 dMod (e2 dDiv (eV 0) (e2 dAdd (eV 1) (eC (.int 1)))) (eV 1))) aN))))))))))))
noncomputable def m__law_read_v3 : List D → Out D := fnM 4 1 b__law_read_v3
noncomputable def b__law_numbers_1 : Env → SO := (sSeq (sSet 6 (eA m__law_cell_v2 (aC (eV 0) (aC (eV 5) aN))))
 (sSeq (sSet 7 (e2 dMod (eV 6) (eC (.int 5))))
 (sIf (tOf (eA m__law_by_digits (aC (eV 0) aN)))
 (sApp 3 (eA m__law_read_v3 (aC (e2 dIx (eV 0) (eV 5)) aN)))
 (sIf (tOf (e2 dEq (eV 7) (eC (.int 3))))
 (sApp 3 (eA m__law_again (aC (eV 4) (aC (e2 dDiv (eV 6) (eC (.int 5))) aN))))
 (sIf (tOf (e2 dEq (eV 7) (eC (.int 4))))
 (sApp 3 (eA m__law_near (aC (eV 4) (aC (e2 dDiv (eV 6) (eC (.int 5))) aN))))
 (sSeq (sSet 4 (eA m__law_base (aC (e2 dDiv (eV 6) (eC (.int 5))) aN)))
 (sApp 3 (eV 4))))))))
noncomputable def b__law_numbers : Env → SO := (sSeq (sSet 3 (eA mkLst aN))
 (sSeq (sSet 4 (eA mkTup (aC (eC (.int 0)) (aC (eC (.int 0)) (aC (eC (.int 0)) (aC (eC (.int 1)) aN))))))
 (sSeq (sFor (gN 5) (iRange2 (aC (eV 1) (aC (eA cMin2 (aC (eV 2) (aC (eA cLen (aC (eV 0) aN)) aN))) aN)))
 b__law_numbers_1)
 (sRet (eV 3)))))
noncomputable def m__law_numbers : List D → Out D := fnM 8 3 b__law_numbers
noncomputable def b_whole_root_1 : Env → SO := (sSet 1 (e2 dMul (eV 1) (eC (.int 2))))
noncomputable def b_whole_root_2 : Env → SO := (sSeq (sIf (tOf (e2 dLe (e2 dMul (e2 dAdd (eV 2) (eV 1)) (e2 dAdd (eV 2) (eV 1))) (eV 0)))
 (sSet 2 (e2 dAdd (eV 2) (eV 1)))
 sNx)
 (sSet 1 (e2 dDiv (eV 1) (eC (.int 2)))))
noncomputable def b_whole_root : Env → SO := (sSeq (sSet 1 (eC (.int 1)))
 (sSeq (sWhile (tOf (e2 dLe (e2 dMul (eV 1) (eV 1)) (eV 0)))
 b_whole_root_1)
 (sSeq (sSet 2 (eC (.int 0)))
 (sSeq (sWhile (tOf (e2 dGt (eV 1) (eC (.int 0))))
 b_whole_root_2)
 (sRet (eV 2))))))
noncomputable def m_whole_root : List D → Out D := fnM 3 1 b_whole_root
noncomputable def b_floor_of : Env → SO := (sSeq (sAsg (gT [(gN 1), (gN 2), (gN 3), (gN 4)]) (eV 0))
 (sSeq (sSet 5 (e2 dMul (e2 dMul (eV 2) (eV 2)) (eV 3)))
 (sSeq (sSet 6 (eA m_whole_root (aC (eV 5) aN)))
 (sSeq (sIf (tOf (e2 dGe (eV 2) (eC (.int 0))))
 (sRet (e2 dDiv (e2 dAdd (eV 1) (eV 6)) (eV 4)))
 sNx)
 (sSeq (sIf (tOf (e2 dLt (e2 dMul (eV 6) (eV 6)) (eV 5)))
 (sSet 6 (e2 dAdd (eV 6) (eC (.int 1))))
 sNx)
 (sRet (e2 dDiv (e2 dSub (eV 1) (eV 6)) (eV 4))))))))
noncomputable def m_floor_of : List D → Out D := fnM 7 1 b_floor_of
noncomputable def b_let_in_1 : Env → SO := (sIf (tOf (e2 dNe (eV 3) (eV 1)))
 sSt
 sNx)
noncomputable def b_let_in_2 : Env → SO := (sFor (gN 3) (iSeq (eA m_names_of (aC (eV 2) aN)))
 b_let_in_1)
noncomputable def b_let_in_3 : Env → SO := (sIf (tOf (e2 dGt (eA cLen (aC (eA m_by_power (aC (eV 2) (aC (eV 1) aN))) aN)) (eC (.int 3))))
 sSt
 sNx)
noncomputable def b_let_in : Env → SO := (sSeq (sFor (gN 2) (iSeq (eV 0))
 b_let_in_2)
 (sFor (gN 2) (iSeq (eV 0))
 b_let_in_3))
noncomputable def m_let_in : List D → Out D := fnM 4 2 b_let_in
noncomputable def b_numbers_of_1 : Env → SO := (sApp 2 (eC (.int 0)))
noncomputable def b_numbers_of : Env → SO := (sSeq (sSet 2 (eLc [3] (gN 3) (iSeq (eA m_by_power (aC (eV 0) (aC (eV 1) aN)))) bYes (eA cSum (aC (eLc [4, 5] (gT [(gN 4), (gN 5)]) (iSeq (eV 3)) bYes (eV 5)) aN))))
 (sSeq (sWhile (tOf (e2 dLt (eA cLen (aC (eV 2) aN)) (eC (.int 3))))
 b_numbers_of_1)
 (sRet (eV 2))))
noncomputable def m_numbers_of : List D → Out D := fnM 6 2 b_numbers_of
noncomputable def b_roots_of : Env → SO := (sSeq (sIf (bOr (tOf (e2 dLt (eV 2) (eC (.int 0)))) (bAnd (tOf (e2 dEq (eV 2) (eC (.int 0)))) (tOf (e2 dLt (eV 1) (eC (.int 0))))))
 (sSeq (sSet 2 (e2 dSub (eC (.int 0)) (eV 2)))
 (sSeq (sSet 1 (e2 dSub (eC (.int 0)) (eV 1)))
 (sSet 0 (e2 dSub (eC (.int 0)) (eV 0)))))
 sNx)
 (sSeq (sIf (bAnd (tOf (e2 dEq (eV 2) (eC (.int 0)))) (tOf (e2 dEq (eV 1) (eC (.int 0)))))
 (sRet (eA mkLst aN))
 sNx)
 (sSeq (sIf (tOf (e2 dEq (eV 2) (eC (.int 0))))
 (sRet (eA mkLst (aC (eA mkTup (aC (e2 dSub (eC (.int 0)) (eV 0)) (aC (eC (.int 0)) (aC (eC (.int 0)) (aC (eV 1) aN))))) aN)))
 sNx)
 (sSeq (sSet 3 (e2 dSub (e2 dMul (eV 1) (eV 1)) (e2 dMul (e2 dMul (eC (.int 4)) (eV 2)) (eV 0))))
 (sSeq (sIf (tOf (e2 dLt (eV 3) (eC (.int 0))))
 (sRet (eA mkLst aN))
 sNx)
 (sSeq (sIf (tOf (e2 dEq (eV 3) (eC (.int 0))))
 (sRet (eA mkLst (aC (eA mkTup (aC (e2 dSub (eC (.int 0)) (eV 1)) (aC (eC (.int 0)) (aC (eC (.int 0)) (aC (e2 dMul (eC (.int 2)) (eV 2)) aN))))) aN)))
 sNx)
 (sRet (eA mkLst (aC (eA mkTup (aC (e2 dSub (eC (.int 0)) (eV 1)) (aC (e1 dNeg (eC (.int 1))) (aC (eV 3) (aC (e2 dMul (eC (.int 2)) (eV 2)) aN))))) (aC (eA mkTup (aC (e2 dSub (eC (.int 0)) (eV 1)) (aC (eC (.int 1)) (aC (eV 3) (aC (e2 dMul (eC (.int 2)) (eV 2)) aN))))) aN))))))))))
noncomputable def m_roots_of : List D → Out D := fnM 4 3 b_roots_of
noncomputable def b_borders_1 : Env → SO := (sSet 8 (e2 dAdd (eV 8) (eC (.int 1))))
noncomputable def b_borders_2 : Env → SO := (sSeq (sSet 8 (eC (.int 0)))
 (sSeq (sWhile (bAnd (tOf (e2 dLt (eV 8) (eA cLen (aC (eV 2) aN)))) (tOf (e2 dLt (eA m_order (aC (e2 dIx (eV 2) (eV 8)) (aC (eV 7) aN))) (eC (.int 0)))))
 b_borders_1)
 (sIf (bOr (tOf (e2 dEq (eV 8) (eA cLen (aC (eV 2) aN)))) (tOf (e2 dGt (eA m_order (aC (e2 dIx (eV 2) (eV 8)) (aC (eV 7) aN))) (eC (.int 0)))))
 (sLM 2 lmInsert (aC (eV 8) (aC (eV 7) aN)))
 sNx)))
noncomputable def b_borders_3 : Env → SO := (sSeq (sAsg (gT [(gN 4), (gN 5), (gN 6)]) (eA m_numbers_of (aC (eV 3) (aC (eV 1) aN))))
 (sFor (gN 7) (iSeq (eA m_roots_of (aC (eV 4) (aC (eV 5) (aC (eV 6) aN)))))
 b_borders_2))
noncomputable def b_borders : Env → SO := (sSeq (sExpr (eA m_let_in (aC (eV 0) (aC (eV 1) aN))))
 (sSeq (sSet 2 (eA mkLst aN))
 (sSeq (sFor (gN 3) (iSeq (eV 0))
 b_borders_3)
 (sRet (eA cTuple (aC (eV 2) aN))))))
noncomputable def m_borders : List D → Out D := fnM 9 2 b_borders
noncomputable def b__law_name_1 : Env → SO := (sSeq (sSet 0 (e2 dDiv (eV 0) (eC (.int 8))))
 (sSeq (sSet 2 (e2 dAdd (eV 2) (e2 dIx (eV 1) (e2 dMod (eV 0) (eC (.int 26))))))
 (sSet 0 (e2 dDiv (eV 0) (eC (.int 4))))))
noncomputable def b__law_name : Env → SO := (sSeq (sSet 1 (eC (.str "abcdefghijklmnopqrstuvwxyz")))
 (sSeq (sSet 2 (eC (.str "")))
 (sSeq (sFor (gN 3) (iRange1 (aC (e2 dAdd (eC (.int 1)) (e2 dMod (eV 0) (eC (.int 8)))) aN))
 b__law_name_1)
 (sSeq (sIf (tOf (e2 dIn (eV 2) (eA mkLst (aC (eC (.str "some")) (aC (eC (.str "all")) (aC (eC (.str "and")) (aC (eC (.str "or")) (aC (eC (.str "not")) (aC (eC (.str "yes")) (aC (eC (.str "no")) aN))))))))))
 (sRet (e2 dAdd (eV 2) (eC (.str "q"))))
 sNx)
 (sRet (eV 2))))))
noncomputable def m__law_name : List D → Out D := fnM 4 1 b__law_name
noncomputable def b__law_free_1 : Env → SO := (sSeq (sSet 0 (e2 dMod (e2 dMul (eV 0) (eC (.int 69621))) (e2 dAdd (e2 dPow (eC (.int 10)) (eC (.int 60))) (eC (.int 7)))))
 (sApp 2 (eA m__law_signed (aC (e2 dDiv (eV 0) (e2 dPow (eC (.int 10)) (eC (.int 24)))) (aC (eV 1) aN)))))
noncomputable def b__law_free : Env → SO := (sSeq (sSet 1 (e2 dIx (eA mkLst (aC (eC (.int 2)) (aC (eC (.int 9)) (aC (e2 dPow (eC (.int 10)) (eC (.int 6))) (aC (e2 dPow (eC (.int 10)) (eC (.int 9))) (aC (e2 dPow (eC (.int 10)) (eC (.int 25))) aN)))))) (e2 dMod (eV 0) (eC (.int 5)))))
 (sSeq (sSet 2 (eA mkLst aN))
 (sSeq (sFor (gN 3) (iRange1 (aC (eC (.int 3)) aN))
 b__law_free_1)
 (sRet (eA cTuple (aC (eV 2) aN))))))
noncomputable def m__law_free : List D → Out D := fnM 4 1 b__law_free
noncomputable def b__law_planted : Env → SO := (sSeq (sSet 2 (e2 dIx (eA mkLst (aC (eC (.int 2)) (aC (eC (.int 9)) (aC (e2 dPow (eC (.int 10)) (eC (.int 4))) (aC (e2 dPow (eC (.int 10)) (eC (.int 9))) aN))))) (e2 dMod (eV 0) (eC (.int 4)))))
 (sSeq (sSet 3 (eA m__law_signed (aC (e2 dDiv (eV 0) (eC (.int 4))) (aC (eV 2) aN))))
 (sSeq (sSet 4 (e2 dAdd (eC (.int 1)) (e2 dMod (e2 dDiv (eV 0) (e2 dPow (eC (.int 10)) (eC (.int 12)))) (eV 2))))
 (sSeq (sSet 5 (eA m__law_signed (aC (e2 dDiv (eV 0) (e2 dPow (eC (.int 10)) (eC (.int 24)))) (aC (eV 2) aN))))
 (sSeq (sSet 6 (e2 dAdd (eC (.int 1)) (e2 dMod (e2 dDiv (eV 0) (e2 dPow (eC (.int 10)) (eC (.int 36)))) (eV 2))))
 (sSeq (sSet 7 (e2 dSub (eC (.int 1)) (e2 dMul (eC (.int 2)) (e2 dMod (e2 dDiv (eV 0) (e2 dPow (eC (.int 10)) (eC (.int 46)))) (eC (.int 2))))))
 (sSeq (sIf (tOf (e2 dEq (eV 1) (eC (.int 0))))
 (sRet (eA mkTup (aC (e2 dMul (e2 dMul (eV 7) (eV 3)) (eV 5)) (aC (e2 dSub (eC (.int 0)) (e2 dMul (eV 7) (e2 dAdd (e2 dMul (eV 3) (eV 6)) (e2 dMul (eV 5) (eV 4))))) (aC (e2 dMul (e2 dMul (eV 7) (eV 4)) (eV 6)) aN)))))
 sNx)
 (sSeq (sIf (tOf (e2 dEq (eV 1) (eC (.int 1))))
 (sRet (eA mkTup (aC (e2 dMul (eV 7) (e2 dSub (e2 dMul (eV 3) (eV 3)) (eV 5))) (aC (e2 dSub (eC (.int 0)) (e2 dMul (e2 dMul (e2 dMul (eC (.int 2)) (eV 7)) (eV 3)) (eV 4))) (aC (e2 dMul (e2 dMul (eV 7) (eV 4)) (eV 4)) aN)))))
 sNx)
 (sRet (e2 dIx (eA mkLst (aC (eA mkTup (aC (e2 dMul (eV 7) (eV 3)) (aC (e2 dMul (eV 7) (eV 4)) (aC (eC (.int 0)) aN)))) (aC (eA mkTup (aC (e2 dMul (eV 7) (eV 3)) (aC (eC (.int 0)) (aC (eC (.int 0)) aN)))) (aC (eA mkTup (aC (eC (.int 0)) (aC (eC (.int 0)) (aC (eC (.int 0)) aN)))) aN)))) (e2 dMod (e2 dDiv (eV 0) (e2 dPow (eC (.int 10)) (eC (.int 48)))) (eC (.int 3)))))))))))))
noncomputable def m__law_planted : List D → Out D := fnM 8 2 b__law_planted
noncomputable def b__law_triple : Env → SO := (sSeq (sSet 2 (e2 dMod (eV 0) (eC (.int 7))))
 (sSeq (sSet 0 (e2 dDiv (eV 0) (eC (.int 7))))
 (sSeq (sIf (tOf (e2 dLt (eV 2) (eC (.int 3))))
 (sRet (eA m__law_planted (aC (eV 0) (aC (eV 2) aN))))
 sNx)
 (sSeq (sAsg (gT [(gN 3), (gN 4), (gN 5)]) (eV 1))
 (sSeq (sIf (tOf (e2 dEq (eV 2) (eC (.int 3))))
 (sRet (eA mkTup (aC (e2 dSub (e2 dAdd (eV 3) (eC (.int 1))) (e2 dMod (eV 0) (eC (.int 3)))) (aC (eV 4) (aC (eV 5) aN)))))
 sNx)
 (sSeq (sIf (tOf (e2 dEq (eV 2) (eC (.int 4))))
 (sSeq (sSet 6 (e2 dIx (eA mkLst (aC (eC (.int 2)) (aC (e1 dNeg (eC (.int 1))) (aC (e1 dNeg (eC (.int 3))) (aC (eC (.int 5)) aN))))) (e2 dMod (eV 0) (eC (.int 4)))))
 (sRet (eA mkTup (aC (e2 dMul (eV 3) (eV 6)) (aC (e2 dMul (eV 4) (eV 6)) (aC (e2 dMul (eV 5) (eV 6)) aN))))))
 sNx)
 (sRet (eA m__law_free (aC (eV 0) aN)))))))))
noncomputable def m__law_triple : List D → Out D := fnM 7 2 b__law_triple
noncomputable def b__law_digits_1 : Env → SO := (sSeq (sApp 2 (eA m__law_signed (aC (eV 0) (aC (eV 1) aN))))
 (sSet 0 (e2 dDiv (eV 0) (e2 dAdd (e2 dMul (eC (.int 2)) (eV 1)) (eC (.int 1))))))
noncomputable def b__law_digits : Env → SO := (sSeq (sSet 1 (e2 dIx (eA mkLst (aC (eC (.int 2)) (aC (eC (.int 9)) (aC (e2 dPow (eC (.int 10)) (eC (.int 6))) (aC (e2 dPow (eC (.int 10)) (eC (.int 25))) aN))))) (e2 dMod (eV 0) (eC (.int 4)))))
 (sSeq (sSet 0 (e2 dDiv (eV 0) (eC (.int 4))))
 (sSeq (sSet 2 (eA mkLst aN))
 (sSeq (sFor (gN 3) (iRange1 (aC (eC (.int 3)) aN))
 b__law_digits_1)
 (sRet (eA cTuple (aC (eV 2) aN)))))))
noncomputable def m__law_digits : List D → Out D := fnM 4 1 b__law_digits
noncomputable def b__law_triples_1 : Env → SO := (sSeq (sSet 4 (eA m__law_triple (aC (eA m__law_cell_v2 (aC (eV 0) (aC (eV 5) aN))) (aC (eV 4) aN))))
 (sSeq (sIf (tOf (eA m__law_by_digits (aC (eV 0) aN)))
 (sSet 4 (eA m__law_digits (aC (e2 dIx (eV 0) (eV 5)) aN)))
 sNx)
 (sApp 3 (eV 4))))
noncomputable def b__law_triples : Env → SO := (sSeq (sSet 3 (eA mkLst aN))
 (sSeq (sSet 4 (eA mkTup (aC (eC (.int 0)) (aC (eC (.int 0)) (aC (eC (.int 0)) aN)))))
 (sSeq (sFor (gN 5) (iRange2 (aC (eV 1) (aC (eA cMin2 (aC (eV 2) (aC (eA cLen (aC (eV 0) aN)) aN))) aN)))
 b__law_triples_1)
 (sRet (eV 3)))))
noncomputable def m__law_triples : List D → Out D := fnM 6 3 b__law_triples
noncomputable def b__law_form_v4 : Env → SO := (sSeq (sAsg (gT [(gN 2), (gN 3), (gN 4)]) (eV 0))
 (sSeq (sSet 5 (eA mkLst (aC (eA mkTup (aC (eA mkTup aN) (aC (eV 2) aN))) (aC (eA mkTup (aC (eA mkTup (aC (eA mkTup (aC (eV 1) (aC (eC (.int 1)) aN))) aN)) (aC (eV 3) aN))) (aC (eA mkTup (aC (eA mkTup (aC (eA mkTup (aC (eV 1) (aC (eC (.int 2)) aN))) aN)) (aC (eV 4) aN))) aN)))))
 (sRet (eA cTuple (aC (eLc [6, 7] (gT [(gN 6), (gN 7)]) (iSeq (eV 5)) (tOf (e2 dNe (eV 7) (eC (.int 0)))) (eA mkTup (aC (eV 6) (aC (eV 7) aN)))) aN)))))
noncomputable def m__law_form_v4 : List D → Out D := fnM 8 2 b__law_form_v4
noncomputable def b__law_at : Env → SO := (sSeq (sAsg (gT [(gN 2), (gN 3), (gN 4)]) (eV 0))
 (sSeq (sAsg (gT [(gN 5), (gN 6), (gN 7), (gN 8)]) (eV 1))
 (sSeq (sSet 9 (e2 dAdd (e2 dAdd (e2 dMul (eV 4) (e2 dAdd (e2 dMul (eV 5) (eV 5)) (e2 dMul (e2 dMul (eV 6) (eV 6)) (eV 7)))) (e2 dMul (e2 dMul (eV 3) (eV 5)) (eV 8))) (e2 dMul (e2 dMul (eV 2) (eV 8)) (eV 8))))
 (sRet (eA m__law_sign (aC (eV 9) (aC (e2 dAdd (e2 dMul (e2 dMul (e2 dMul (eC (.int 2)) (eV 4)) (eV 5)) (eV 6)) (e2 dMul (e2 dMul (eV 3) (eV 6)) (eV 8))) (aC (eV 7) aN))))))))
noncomputable def m__law_at : List D → Out D := fnM 10 2 b__law_at
noncomputable def b__law_is_number_1 : Env → SO := (sIf (bOr (bNot (tOf (eA cIsi (aC (eV 1) (aC (eC (.ty "int")) aN))))) (tOf (eA cIsi (aC (eV 1) (aC (eC (.ty "bool")) aN)))))
 (sRet (eC (.bl false)))
 sNx)
noncomputable def b__law_is_number : Env → SO := (sSeq (sIf (bOr (bNot (tOf (eA cIsi (aC (eV 0) (aC (eC (.ty "tuple")) aN))))) (tOf (e2 dNe (eA cLen (aC (eV 0) aN)) (eC (.int 4)))))
 (sRet (eC (.bl false)))
 sNx)
 (sSeq (sFor (gN 1) (iSeq (eV 0))
 b__law_is_number_1)
 (sRet (vAnd (e2 dGe (e2 dIx (eV 0) (eC (.int 2))) (eC (.int 0))) (e2 dGe (e2 dIx (eV 0) (eC (.int 3))) (eC (.int 1)))))))
noncomputable def m__law_is_number : List D → Out D := fnM 2 1 b__law_is_number
noncomputable def b__law_many : Env → SO := (sSeq (sAsg (gT [(gN 1), (gN 2), (gN 3)]) (eV 0))
 (sSeq (sIf (tOf (e2 dEq (eV 3) (eC (.int 0))))
 (sRet (eA cInt (aC (e2 dNe (eV 2) (eC (.int 0))) aN)))
 sNx)
 (sSeq (sSet 4 (e2 dSub (e2 dMul (eV 2) (eV 2)) (e2 dMul (e2 dMul (eC (.int 4)) (eV 3)) (eV 1))))
 (sRet (e2 dAdd (eA cInt (aC (e2 dGe (eV 4) (eC (.int 0))) aN)) (eA cInt (aC (e2 dGt (eV 4) (eC (.int 0))) aN)))))))
noncomputable def m__law_many : List D → Out D := fnM 5 1 b__law_many
noncomputable def b__law_rising_1 : Env → SO := (sSeq (sIf (bNot (tOf (eA m__law_is_number (aC (e2 dIx (eV 0) (eV 1)) aN))))
 (sRet (eC (.bl false)))
 sNx)
 (sIf (bAnd (tOf (e2 dGt (eV 1) (eC (.int 0)))) (tOf (e2 dGe (eA m__law_order (aC (e2 dIx (eV 0) (e2 dSub (eV 1) (eC (.int 1)))) (aC (e2 dIx (eV 0) (eV 1)) aN))) (eC (.int 0)))))
 (sRet (eC (.bl false)))
 sNx))
noncomputable def b__law_rising : Env → SO := (sSeq (sFor (gN 1) (iRange1 (aC (eA cLen (aC (eV 0) aN)) aN))
 b__law_rising_1)
 (sRet (eC (.bl true))))
noncomputable def m__law_rising : List D → Out D := fnM 2 1 b__law_rising
noncomputable def b__law_just_1 : Env → SO := (sIf (bNot (tOf (eA cAny (aC (eLc [4] (gN 4) (iSeq (eV 2)) bYes (e2 dEq (eA m__law_at (aC (eV 4) (aC (eV 3) aN))) (eC (.int 0)))) aN))))
 (sRet (eC (.bl false)))
 sNx)
noncomputable def b__law_just_2 : Env → SO := (sIf (tOf (e2 dNe (eA cLen (aC (eLc [3] (gN 3) (iSeq (eV 0)) (tOf (e2 dEq (eA m__law_at (aC (eV 4) (aC (eV 3) aN))) (eC (.int 0)))) (eV 3)) aN)) (eA m__law_many (aC (eV 4) aN))))
 (sRet (eC (.bl false)))
 sNx)
noncomputable def b__law_just : Env → SO := (sSeq (sSet 2 (eLc [4] (gN 4) (iSeq (eV 1)) (tOf (e2 dNe (eV 4) (eA mkTup (aC (eC (.int 0)) (aC (eC (.int 0)) (aC (eC (.int 0)) aN)))))) (eV 4)))
 (sSeq (sFor (gN 3) (iSeq (eV 0))
 b__law_just_1)
 (sSeq (sFor (gN 4) (iSeq (eV 2))
 b__law_just_2)
 (sRet (eC (.bl true))))))
noncomputable def m__law_just : List D → Out D := fnM 5 2 b__law_just
noncomputable def b_above : Env → SO := (sSeq (sAsg (gT [(gN 2), (gN 3), (gN 4), (gN 5)]) (eV 0))
 (sRet (e2 dAdd (eA m_floor_of (aC (eA mkTup (aC (e2 dMul (eV 2) (eV 1)) (aC (e2 dMul (eV 3) (eV 1)) (aC (eV 4) (aC (eV 5) aN))))) aN)) (eC (.int 1)))))
noncomputable def m_above : List D → Out D := fnM 6 2 b_above
noncomputable def b_between_1 : Env → SO := (sSeq (sSet 2 (e2 dMul (e2 dMul (eC (.int 2)) (eV 2)) (eV 2)))
 (sSet 3 (eA m_above (aC (eV 0) (aC (eV 2) aN)))))
noncomputable def b_between : Env → SO := (sSeq (sSet 2 (eC (.int 1)))
 (sSeq (sSet 3 (eA m_above (aC (eV 0) (aC (eV 2) aN))))
 (sSeq (sWhile (tOf (e2 dGe (eA m_order (aC (eA mkTup (aC (eV 3) (aC (eC (.int 0)) (aC (eC (.int 0)) (aC (eV 2) aN))))) (aC (eV 1) aN))) (eC (.int 0))))
 b_between_1)
 (sRet (eA mkTup (aC (eV 3) (aC (eC (.int 0)) (aC (eC (.int 0)) (aC (eV 2) aN)))))))))
noncomputable def m_between : List D → Out D := fnM 4 2 b_between
noncomputable def b_line_1 : Env → SO := (sSeq (sApp 3 (eA m_between (aC (e2 dIx (eV 2) (e2 dSub (eV 4) (eC (.int 1)))) (aC (e2 dIx (eV 2) (eV 4)) aN))))
 (sApp 3 (e2 dIx (eV 2) (eV 4))))
noncomputable def b_line : Env → SO := (sSeq (sSet 2 (eA m_borders (aC (eV 0) (aC (eV 1) aN))))
 (sSeq (sIf (tOf (e2 dEq (eV 2) (eA mkTup aN)))
 (sRet (eA mkTup (aC (eA mkTup (aC (eC (.int 0)) (aC (eC (.int 0)) (aC (eC (.int 0)) (aC (eC (.int 1)) aN))))) aN)))
 sNx)
 (sSeq (sSet 3 (eA mkLst (aC (eA mkTup (aC (e2 dSub (eA m_floor_of (aC (e2 dIx (eV 2) (eC (.int 0))) aN)) (eC (.int 1))) (aC (eC (.int 0)) (aC (eC (.int 0)) (aC (eC (.int 1)) aN))))) (aC (e2 dIx (eV 2) (eC (.int 0))) aN))))
 (sSeq (sFor (gN 4) (iRange2 (aC (eC (.int 1)) (aC (eA cLen (aC (eV 2) aN)) aN)))
 b_line_1)
 (sSeq (sApp 3 (eA mkTup (aC (eA m_above (aC (e2 dIx (eV 2) (e1 dNeg (eC (.int 1)))) (aC (eC (.int 1)) aN))) (aC (eC (.int 0)) (aC (eC (.int 0)) (aC (eC (.int 1)) aN))))))
 (sRet (eA cTuple (aC (eV 3) aN))))))))
noncomputable def m_line : List D → Out D := fnM 5 2 b_line
noncomputable def b_law_v12_1 : Env → SO := (sIf (tOf (e2 dNe (eA m_order (aC (e2 dIx (eV 5) (e2 dSub (eV 6) (eC (.int 1)))) (aC (e2 dIx (eV 5) (eV 6)) aN))) (e1 dNeg (eC (.int 1)))))
 (sRet (eC (.bl false)))
 sNx)
noncomputable def b_law_v12_2 : Env → SO := (sSeq (sIf (tOf (e2 dNe (e2 dIx (eV 7) (eC (.int 1))) (eC (.int 0))))
 (sRet (eC (.bl false)))
 sNx)
 (sIf (tOf (eA cAny (aC (eLc [8] (gN 8) (iSeq (eV 2)) (tOf (e2 dNe (eV 8) (eA mkTup (aC (eC (.int 0)) (aC (eC (.int 0)) (aC (eC (.int 0)) aN)))))) (e2 dEq (eA m__law_at (aC (eV 8) (aC (eV 7) aN))) (eC (.int 0)))) aN)))
 (sRet (eC (.bl false)))
 sNx))
noncomputable def b_law_v12_t9 : Env → SO := (sRet (eC (.bl true)))
noncomputable def b_law_v12_t8 : Env → SO := (sSeq (sFor (gN 7) (iSeq (eSlS2 (eV 5) oN oN (oI (eC (.int 2)))))
 b_law_v12_2)
 b_law_v12_t9)
noncomputable def b_law_v12_t7 : Env → SO := (sSeq (sFor (gN 6) (iRange2 (aC (eC (.int 1)) (aC (eA cLen (aC (eV 5) aN)) aN)))
 b_law_v12_1)
 b_law_v12_t8)
noncomputable def b_law_v12_t6 : Env → SO := (sSeq (sIf (bOr (bNot (tOf (eA m__law_rising (aC (eV 5) aN)))) (bNot (tOf (eA m__law_just (aC (eSlS2 (eV 5) (oI (eC (.int 1))) oN (oI (eC (.int 2)))) (aC (eV 2) aN))))))
 (sRet (eC (.bl false)))
 sNx)
 b_law_v12_t7)
noncomputable def b_law_v12_t5 : Env → SO := (sSeq (sIf (bOr (bNot (tOf (eA cIsi (aC (eV 5) (aC (eC (.ty "tuple")) aN))))) (bOr (tOf (e2 dNe (e2 dMod (eA cLen (aC (eV 5) aN)) (eC (.int 2))) (eC (.int 1)))) (tOf (e2 dNe (eV 4) (eV 3)))))
 (sRet (eC (.bl false)))
 sNx)
 b_law_v12_t6)
noncomputable def b_law_v12_t4 : Env → SO := (sSeq (sSet 5 (eA m_line (aC (eV 4) (aC (eV 1) aN))))
 b_law_v12_t5)
noncomputable def b_law_v12_t3 : Env → SO := (sSeq (sSet 4 (eA cList (aC (eV 3) aN)))
 b_law_v12_t4)
noncomputable def b_law_v12_t2 : Env → SO := (sSeq (sSet 3 (eLc [8] (gN 8) (iSeq (eV 2)) bYes (eA m__law_form_v4 (aC (eV 8) (aC (eV 1) aN)))))
 b_law_v12_t3)
noncomputable def b_law_v12_t1 : Env → SO := (sSeq (sSet 2 (eA m__law_triples (aC (eV 0) (aC (eC (.int 1)) (aC (eC (.int 7)) aN)))))
 b_law_v12_t2)
noncomputable def b_law_v12 : Env → SO := (sSeq (sSet 1 (eA m__law_name (aC (eA m__law_cell_v2 (aC (eV 0) (aC (eC (.int 0)) aN))) aN)))
 b_law_v12_t1)
noncomputable def m_law_v12 : List D → Out D := fnM 9 1 b_law_v12
/-! ## the text -/
def topS (i : Nat) : Stmt := PySem.Challenge.pw_realsay_k44_the_line.main.body.getD i (.Pass ⟨0, 0, 0, 0⟩)
structure Tx (K : PySem.W.Frag) (mg : Str → Option Value) : Prop where
  z_any : mg "any" = none
  z_bool : mg "bool" = none
  z_int : mg "int" = none
  z_isinstance : mg "isinstance" = none
  z_len : mg "len" = none
  z_list : mg "list" = none
  z_max : mg "max" = none
  z_min : mg "min" = none
  z_range : mg "range" = none
  z_sorted : mg "sorted" = none
  z_sum : mg "sum" = none
  z_tuple : mg "tuple" = none
  f_form_of : FnT K mg "form_of" (topS 5)
  f_names_of : FnT K mg "names_of" (topS 6)
  f_power_of : FnT K mg "power_of" (topS 7)
  f_by_power : FnT K mg "by_power" (topS 8)
  f_sign_of : FnT K mg "sign_of" (topS 10)
  f_sign_one : FnT K mg "sign_one" (topS 11)
  f_sign_two : FnT K mg "sign_two" (topS 12)
  f_order : FnT K mg "order" (topS 13)
  f_whole_root : FnT K mg "whole_root" (topS 14)
  f_floor_of : FnT K mg "floor_of" (topS 15)
  f_let_in : FnT K mg "let_in" (topS 17)
  f_numbers_of : FnT K mg "numbers_of" (topS 18)
  f_roots_of : FnT K mg "roots_of" (topS 19)
  f_borders : FnT K mg "borders" (topS 20)
  f_above : FnT K mg "above" (topS 21)
  f_between : FnT K mg "between" (topS 22)
  f_line : FnT K mg "line" (topS 23)
  f__law_cell : FnT K mg "_law_cell" (topS 25)
  f__law_signed : FnT K mg "_law_signed" (topS 26)
  f__law_sign : FnT K mg "_law_sign" (topS 27)
  f__law_sign_two : FnT K mg "_law_sign_two" (topS 28)
  f__law_order : FnT K mg "_law_order" (topS 29)
  f__law_name : FnT K mg "_law_name" (topS 30)
  f__law_free : FnT K mg "_law_free" (topS 31)
  f__law_planted : FnT K mg "_law_planted" (topS 32)
  f__law_triple : FnT K mg "_law_triple" (topS 33)
  f__law_by_digits : FnT K mg "_law_by_digits" (topS 34)
  f__law_digits : FnT K mg "_law_digits" (topS 35)
  f__law_triples : FnT K mg "_law_triples" (topS 36)
  f__law_form : FnT K mg "_law_form" (topS 37)
  f__law_at : FnT K mg "_law_at" (topS 38)
  f__law_is_number : FnT K mg "_law_is_number" (topS 39)
  f__law_many : FnT K mg "_law_many" (topS 40)
  f__law_rising : FnT K mg "_law_rising" (topS 41)
  f__law_just : FnT K mg "_law_just" (topS 42)
  f_law : FnT K mg "law" (topS 43)
section
variable {P : Program} {w : World} {K : PySem.W.Frag} {mg : Str → Option Value} {base : Heap}
theorem w_form_of (T : Tx K mg) : FnA P w K mg base 1 "form_of" ["pairs"] false m_form_of := by
  have nd : (["pairs", "found", "product", "number"] : List Str).Nodup := by decide +kernel
  have S : FnScope ["pairs", "found", "product", "number"] ["pairs"] (defScope (topS 5)) := ⟨rfl, rfl, rfl, nd, rfl, by decide +kernel, by decide +kernel⟩
  refine fnA_mk (Γ0 := [false, false, false, false]) (Γl := []) (Γ' := []) T.f_form_of S (by decide) (no_own rfl) (fun _ _ _ _ _ _ us hl => match us, hl with | [_], _ => rfl) fun f cdv A outer s H E Hf hr => ?_
  have tk := takes_of (X := cxD P w K mg base ["pairs", "found", "product", "number"] "form_of" (topS 5) f cdv A outer s H E) rfl rfl rfl rfl
  have hp := passes_of (X := cxD P w K mg base ["pairs", "found", "product", "number"] "form_of" (topS 5) f cdv A outer s H E) rfl
  exact (pssx_cons (PSx.less (Γ2 := [false, true, false, false]) (psx_setO (i := 1) nd rfl (.inr rfl) px_dnew (by decide)) (le_of rfl))
 (pssx_cons (PSx.pre (psx_for (Γ := [false, true, false, false]) (Γ1 := [false, true, false, false]) hp rfl (pix_seq (px_fr' (pv 0) rfl)) (fun F1 => (pgx_tup rfl (pgsx_cons (pgx_name (i := 2) nd rfl (.inl rfl)) (pgsx_cons (pgx_name (i := 3) nd rfl (.inl rfl)) pgsx_nil)))) (gT_nx (nxs_cons gN_nx (nxs_cons gN_nx nxs_nil))) (fun F1 => (PSsx.less (Γ2 := [false, true, false, false]) (pssx_one (psx_put hr (pv 1) (px_bin (od_add hr) (PX.rd (px_get2 hr (px_rd (pv 1)) (px_rd (pv 2)) px_int ⟨rfl, rfl, rfl, rfl⟩)) (px_rd (pv 3))) (px_rd (pv 2)) rfl)) (le_of rfl)))) (le_of rfl))
 (pssx_one (psx_ret (px_callT ca_tuple rfl T.z_tuple bb_tuple (pbx_cons (PX.rd (px_lc (own := [("product", 2)]) (Γ2 := [false, true, false, false]) rfl nd (pix_seq (px_callB (ca_sorted rfl hr) rfl T.z_sorted bb_sorted (pbx_cons (px_rd (pv 1)) pbx_nil))) (le_of rfl) (by decide) (blkOk_by (N := ["pairs", "found", "product", "number"]) (sc := defScope (topS 5)) (own := [("product", 2)]) (by decide +kernel)) (fun _ _ _ _ _ _ => (pgx_name (i := 2) nd rfl (.inl rfl))) (by decide) (fun _ _ _ _ _ _ => (ptsx_one (ptx_cmp (od_ne hr) (PX.rd (px_ix hr (px_rd (pv 1)) (px_rd (pv 2)) (fun _ _ => rfl))) px_int (nomark _)))) (fun _ _ _ _ _ _ => (px_tup (pax_cons (px_fr' (pv 2) rfl) (pax_cons (px_ix hr (px_rd (pv 1)) (px_rd (pv 2)) (fun _ _ => rfl)) pax_nil)))))) pbx_nil))))))
theorem w_names_of (T : Tx K mg) : FnA P w K mg base 1 "names_of" ["one"] false m_names_of := by
  have nd : (["one", "found", "product", "number", "name", "power"] : List Str).Nodup := by decide +kernel
  have S : FnScope ["one", "found", "product", "number", "name", "power"] ["one"] (defScope (topS 6)) := ⟨rfl, rfl, rfl, nd, rfl, by decide +kernel, by decide +kernel⟩
  refine fnA_mk (Γ0 := [false, false, false, false, false, false]) (Γl := []) (Γ' := []) T.f_names_of S (by decide) (no_own rfl) (fun _ _ _ _ _ _ us hl => match us, hl with | [_], _ => rfl) fun f cdv A outer s H E Hf hr => ?_
  have tk := takes_of (X := cxD P w K mg base ["one", "found", "product", "number", "name", "power"] "names_of" (topS 6) f cdv A outer s H E) rfl rfl rfl rfl
  have hp := passes_of (X := cxD P w K mg base ["one", "found", "product", "number", "name", "power"] "names_of" (topS 6) f cdv A outer s H E) rfl
  exact (pssx_cons (PSx.less (Γ2 := [false, true, false, false, false, false]) (psx_setO (i := 1) nd rfl (.inl rfl) px_dnew (by decide)) (le_of rfl))
 (pssx_cons (PSx.pre (psx_for (Γ := [false, true, false, false, false, false]) (Γ1 := [false, true, false, false, false, false]) hp rfl (pix_seq (px_fr' (pv 0) rfl)) (fun F1 => (pgx_tup rfl (pgsx_cons (pgx_name (i := 2) nd rfl (.inl rfl)) (pgsx_cons (pgx_name (i := 3) nd rfl (.inl rfl)) pgsx_nil)))) (gT_nx (nxs_cons gN_nx (nxs_cons gN_nx nxs_nil))) (fun F1 => (PSsx.less (Γ2 := [false, true, false, false, false, false]) (pssx_one (PSx.pre (psx_for (Γ := [false, true, false, false, false, false]) (Γ1 := [false, true, false, false, false, false]) hp rfl (pix_seq (px_fr' (pv 2) rfl)) (fun F1 => (pgx_tup rfl (pgsx_cons (pgx_name (i := 4) nd rfl (.inl rfl)) (pgsx_cons (pgx_name (i := 5) nd rfl (.inl rfl)) pgsx_nil)))) (gT_nx (nxs_cons gN_nx (nxs_cons gN_nx nxs_nil))) (fun F1 => (PSsx.less (Γ2 := [false, true, false, false, false, false]) (pssx_one (psx_put hr (pv 1) px_bl (px_rd (pv 4)) rfl)) (le_of rfl)))) (le_of rfl))) (le_of rfl)))) (le_of rfl))
 (pssx_one (psx_ret (px_callT ca_tuple rfl T.z_tuple bb_tuple (pbx_cons (px_callB (ca_sorted rfl hr) rfl T.z_sorted bb_sorted (pbx_cons (px_rd (pv 1)) pbx_nil)) pbx_nil))))))
theorem w_power_of (T : Tx K mg) : FnA P w K mg base 1 "power_of" ["product", "name"] false m_power_of := by
  have nd : (["product", "name", "other", "power"] : List Str).Nodup := by decide +kernel
  have S : FnScope ["product", "name", "other", "power"] ["product", "name"] (defScope (topS 7)) := ⟨rfl, rfl, rfl, nd, rfl, by decide +kernel, by decide +kernel⟩
  refine fnA_mk (Γ0 := []) (Γl := []) (Γ' := []) T.f_power_of S (by decide) (no_own rfl) (fun _ _ _ _ _ _ us hl => match us, hl with | [_, _], _ => rfl) fun f cdv A outer s H E Hf hr => ?_
  have tk := takes_of (X := cxD P w K mg base ["product", "name", "other", "power"] "power_of" (topS 7) f cdv A outer s H E) rfl rfl rfl rfl
  have hp := passes_of (X := cxD P w K mg base ["product", "name", "other", "power"] "power_of" (topS 7) f cdv A outer s H E) rfl
  exact (pssx_cons (PSx.pre (psx_for (Γ := []) (Γ1 := []) hp rfl (pix_seq (px_fr' (pv 0) rfl)) (fun F1 => (pgx_tup rfl (pgsx_cons (pgx_name (i := 2) nd rfl (.inl rfl)) (pgsx_cons (pgx_name (i := 3) nd rfl (.inl rfl)) pgsx_nil)))) (gT_nx (nxs_cons gN_nx (nxs_cons gN_nx nxs_nil))) (fun F1 => (PSsx.less (Γ2 := []) (pssx_one (psx_if (Γ2 := []) (ptx_cmp (od_eq hr) (px_rd (pv 2)) (px_rd (pv 1)) (nomark _))
 (pssx_one (psx_ret (px_fr' (pv 3) rfl)))
 (PSsx.less (Γ2 := []) pssx_nil (le_of rfl)))) (le_of rfl)))) (le_of rfl))
 (pssx_one (psx_ret px_int)))
theorem w_by_power (T : Tx K mg) : FnA P w K mg base 2 "by_power" ["one", "name"] false m_by_power := by
  have C_power_of := w_power_of (P := P) (w := w) (base := base) T
  have C_form_of := w_form_of (P := P) (w := w) (base := base) T
  have nd : (["one", "name", "rows", "top", "product", "number", "power", "rest", "row", "pair"] : List Str).Nodup := by decide +kernel
  have S : FnScope ["one", "name", "rows", "top", "product", "number", "power", "rest", "row", "pair"] ["one", "name"] (defScope (topS 8)) := ⟨rfl, rfl, rfl, nd, rfl, by decide +kernel, by decide +kernel⟩
  refine fnA_mk (Γ0 := [false, false, false, false, false, false, false, false, false, false]) (Γl := []) (Γ' := []) T.f_by_power S (by decide) (no_own rfl) (fun _ _ _ _ _ _ us hl => match us, hl with | [_, _], _ => rfl) fun f cdv A outer s H E Hf hr => ?_
  have tk := takes_of (X := cxD P w K mg base ["one", "name", "rows", "top", "product", "number", "power", "rest", "row", "pair"] "by_power" (topS 8) f cdv A outer s H E) rfl rfl rfl rfl
  have hp := passes_of (X := cxD P w K mg base ["one", "name", "rows", "top", "product", "number", "power", "rest", "row", "pair"] "by_power" (topS 8) f cdv A outer s H E) rfl
  exact (pssx_cons (PSx.less (Γ2 := [false, false, true, false, false, false, false, false, false, false]) (psx_setO (i := 2) nd rfl (.inr rfl) px_dnew (by decide)) (le_of rfl))
 (pssx_cons (PSx.less (Γ2 := [false, false, true, false, false, false, false, false, false, false]) (psx_set (i := 3) nd rfl (.inl rfl) px_int) (le_of rfl))
 (pssx_cons (psx_rows (i := 2) (j := 8) (Γ := [false, false, true, false, false, false, false, false, false, false]) (Γ0 := [false, false, false, false, false, false, false, false, false, false]) hp rfl nd rfl (.inl rfl) (fun _ => pv 2) (fun _ => pv 8) (no_own rfl) (one_of rfl) rfl (by decide)
 (fun g => (pix_seq (px_fr' (pv 0) rfl))) (fun g => (pgx_tup rfl (pgsx_cons (pgx_name (i := 4) nd rfl (.inl rfl)) (pgsx_cons (pgx_name (i := 5) nd rfl (.inl rfl)) pgsx_nil)))) (gT_nx (nxs_cons gN_nx (nxs_cons gN_nx nxs_nil)))
 (fun g => (PSx.less (Γ2 := [false, false, false, false, false, false, false, false, false, false]) (psx_set (i := 6) nd rfl (.inl rfl) (px_callF C_power_of (hr.mono (by decide)) rfl tk (pax_cons (px_fr' (pv 4) rfl) (pax_cons (px_fr' (pv 1) rfl) pax_nil)))) (le_of rfl)))
 (fun g => (PSx.less (Γ2 := [false, false, false, false, false, false, false, false, false, false]) (psx_set (i := 7) nd rfl (.inl rfl) (px_callT ca_tuple rfl T.z_tuple bb_tuple (pbx_cons (PX.rd (px_lc (own := [("pair", 9)]) (Γ2 := [false, false, false, false, false, false, false, false, false, false]) rfl nd (pix_seq (px_fr' (pv 4) rfl)) (le_of rfl) (by decide) (blkOk_by (N := ["one", "name", "rows", "top", "product", "number", "power", "rest", "row", "pair"]) (sc := defScope (topS 8)) (own := [("pair", 9)]) (by decide +kernel)) (fun _ _ _ _ _ _ => (pgx_name (i := 9) nd rfl (.inl rfl))) (by decide) (fun _ _ _ _ _ _ => (ptsx_one (ptx_cmp (od_ne hr) (PX.rd (px_ix hr (px_rd (pv 9)) px_int (fun _ _ => rfl))) (px_rd (pv 1)) (nomark _)))) (fun _ _ _ _ _ _ => (px_fr' (pv 9) rfl)))) pbx_nil))) (le_of rfl)))
 (fun g => (px_rd (pv 6)))
 (fun g => (px_tup (pax_cons (px_fr' (pv 7) rfl) (pax_cons (px_fr' (pv 5) rfl) pax_nil))))
 (fun g => (PSx.less (Γ2 := [false, false, false, false, false, false, false, false, false, false]) (psx_set (i := 3) nd rfl (.inl rfl) (px_callB (ca_max2 rfl) rfl T.z_max bb_max (pbx_cons (px_rd (pv 3)) (pbx_cons (px_rd (pv 6)) pbx_nil)))) (le_of rfl)))
 (fr_seq (fr_V (by decide))) (fr_gT (frg_cons (fr_gN (by decide)) (frg_cons (fr_gN (by decide)) frg_nil))) (frs_set (by decide) (fr_A (fr_aC (fr_V (by decide)) (fr_aC (fr_V (by decide)) fr_aN)))) (frs_set (by decide) (fr_A (fr_aC (fr_Lc (by decide) (fr_gN (by decide)) (fr_seq (fr_V (by decide))) (fr_t (fr_2 (fr_2 (fr_V (by decide)) fr_C) (fr_V (by decide)))) (fr_V (by decide))) fr_aN))) (fr_V (by decide)) (fr_A (fr_aC (fr_V (by decide)) (fr_aC (fr_V (by decide)) fr_aN))) (frs_set (by decide) (fr_A (fr_aC (fr_V (by decide)) (fr_aC (fr_V (by decide)) fr_aN)))) nxs_set nxs_set nxs_set ⟨rfl, rfl, rfl, rfl⟩)
 (pssx_one (psx_ret (px_callT ca_tuple rfl T.z_tuple bb_tuple (pbx_cons (PX.rd (px_lc (own := [("power", 6)]) (Γ2 := [false, false, false, false, false, false, false, false, false, false]) rfl nd (pix_range1 rfl T.z_range (pax_cons (px_bin (od_add hr) (px_rd (pv 3)) px_int) pax_nil)) (le_of rfl) (by decide) (blkOk_by (N := ["one", "name", "rows", "top", "product", "number", "power", "rest", "row", "pair"]) (sc := defScope (topS 8)) (own := [("power", 6)]) (by decide +kernel)) (fun _ _ _ _ _ _ => (pgx_name (i := 6) nd rfl (.inl rfl))) (by decide) (fun _ _ _ _ _ _ => ptsx_nil) (fun _ _ _ _ _ _ => (px_callF C_form_of (hr.mono (by decide)) rfl takes_no (pax_cons (px_get2 hr (px_rd (pv 2)) (px_rd (pv 6)) (PX.fr (px_lst pax_nil)) ⟨rfl, rfl, rfl, rfl⟩) pax_nil))))) pbx_nil)))))))
theorem w_sign_of (T : Tx K mg) : FnA P w K mg base 1 "sign_of" ["number"] false m_sign_of := by
  have nd : (["number"] : List Str).Nodup := by decide +kernel
  have S : FnScope ["number"] ["number"] (defScope (topS 10)) := ⟨rfl, rfl, rfl, nd, rfl, by decide +kernel, by decide +kernel⟩
  refine fnA_mk (Γ0 := []) (Γl := []) (Γ' := []) T.f_sign_of S (by decide) (no_own rfl) (fun _ _ _ _ _ _ us hl => match us, hl with | [_], _ => rfl) fun f cdv A outer s H E Hf hr => ?_
  have tk := takes_of (X := cxD P w K mg base ["number"] "sign_of" (topS 10) f cdv A outer s H E) rfl rfl rfl rfl
  have hp := passes_of (X := cxD P w K mg base ["number"] "sign_of" (topS 10) f cdv A outer s H E) rfl
  exact (pssx_cons (psx_if (Γ2 := []) (ptx_cmp (od_gt hr) (px_rd (pv 0)) px_int (nomark _))
 (pssx_one (psx_ret px_int))
 (PSsx.less (Γ2 := []) pssx_nil (le_of rfl)))
 (pssx_cons (psx_if (Γ2 := []) (ptx_cmp (od_lt hr) (px_rd (pv 0)) px_int (nomark _))
 (pssx_one (psx_ret (px_un ud_neg px_int)))
 (PSsx.less (Γ2 := []) pssx_nil (le_of rfl)))
 (pssx_one (psx_ret px_int))))
theorem w_sign_one (T : Tx K mg) : FnA P w K mg base 2 "sign_one" ["u", "v", "r"] false m_sign_one := by
  have C_sign_of := w_sign_of (P := P) (w := w) (base := base) T
  have nd : (["u", "v", "r", "left", "right"] : List Str).Nodup := by decide +kernel
  have S : FnScope ["u", "v", "r", "left", "right"] ["u", "v", "r"] (defScope (topS 11)) := ⟨rfl, rfl, rfl, nd, rfl, by decide +kernel, by decide +kernel⟩
  refine fnA_mk (Γ0 := []) (Γl := []) (Γ' := []) T.f_sign_one S (by decide) (no_own rfl) (fun _ _ _ _ _ _ us hl => match us, hl with | [_, _, _], _ => rfl) fun f cdv A outer s H E Hf hr => ?_
  have tk := takes_of (X := cxD P w K mg base ["u", "v", "r", "left", "right"] "sign_one" (topS 11) f cdv A outer s H E) rfl rfl rfl rfl
  have hp := passes_of (X := cxD P w K mg base ["u", "v", "r", "left", "right"] "sign_one" (topS 11) f cdv A outer s H E) rfl
  exact (pssx_cons (PSx.less (Γ2 := []) (psx_set (i := 3) nd rfl (.inl rfl) (px_callF C_sign_of (hr.mono (by decide)) rfl tk (pax_cons (px_fr' (pv 0) rfl) pax_nil))) (le_of rfl))
 (pssx_cons (PSx.less (Γ2 := []) (psx_set (i := 4) nd rfl (.inl rfl) (px_callF C_sign_of (hr.mono (by decide)) rfl tk (pax_cons (px_bin (od_mul hr) (px_rd (pv 1)) (px_rd (pv 2))) pax_nil))) (le_of rfl))
 (pssx_cons (psx_if (Γ2 := []) (PWx.pt (pwx_or (ptx_cmp (od_eq hr) (px_rd (pv 3)) (px_rd (pv 4)) (nomark _)) (pwx_or1 (ptx_cmp (od_eq hr) (px_rd (pv 4)) px_int (nomark _)))))
 (pssx_one (psx_ret (px_fr' (pv 3) rfl)))
 (PSsx.less (Γ2 := []) pssx_nil (le_of rfl)))
 (pssx_cons (psx_if (Γ2 := []) (ptx_cmp (od_eq hr) (px_rd (pv 3)) px_int (nomark _))
 (pssx_one (psx_ret (px_fr' (pv 4) rfl)))
 (PSsx.less (Γ2 := []) pssx_nil (le_of rfl)))
 (pssx_one (psx_ret (px_bin (od_mul hr) (px_rd (pv 3)) (PX.rd (px_callF C_sign_of (hr.mono (by decide)) rfl tk (pax_cons (px_bin od_sub (px_bin (od_mul hr) (px_rd (pv 0)) (px_rd (pv 0))) (px_bin (od_mul hr) (px_bin (od_mul hr) (px_rd (pv 1)) (px_rd (pv 1))) (px_rd (pv 2)))) pax_nil))))))))))
theorem w_sign_two (T : Tx K mg) : FnA P w K mg base 3 "sign_two" ["u", "v", "r", "w", "t"] false m_sign_two := by
  have C_sign_one := w_sign_one (P := P) (w := w) (base := base) T
  have C_sign_of := w_sign_of (P := P) (w := w) (base := base) T
  have nd : (["u", "v", "r", "w", "t", "left", "right"] : List Str).Nodup := by decide +kernel
  have S : FnScope ["u", "v", "r", "w", "t", "left", "right"] ["u", "v", "r", "w", "t"] (defScope (topS 12)) := ⟨rfl, rfl, rfl, nd, rfl, by decide +kernel, by decide +kernel⟩
  refine fnA_mk (Γ0 := []) (Γl := []) (Γ' := []) T.f_sign_two S (by decide) (no_own rfl) (fun _ _ _ _ _ _ us hl => match us, hl with | [_, _, _, _, _], _ => rfl) fun f cdv A outer s H E Hf hr => ?_
  have tk := takes_of (X := cxD P w K mg base ["u", "v", "r", "w", "t", "left", "right"] "sign_two" (topS 12) f cdv A outer s H E) rfl rfl rfl rfl
  have hp := passes_of (X := cxD P w K mg base ["u", "v", "r", "w", "t", "left", "right"] "sign_two" (topS 12) f cdv A outer s H E) rfl
  exact (pssx_cons (PSx.less (Γ2 := []) (psx_set (i := 5) nd rfl (.inl rfl) (px_callF C_sign_one (hr.mono (by decide)) rfl tk (pax_cons (px_fr' (pv 0) rfl) (pax_cons (px_fr' (pv 1) rfl) (pax_cons (px_fr' (pv 2) rfl) pax_nil))))) (le_of rfl))
 (pssx_cons (PSx.less (Γ2 := []) (psx_set (i := 6) nd rfl (.inl rfl) (px_callF C_sign_of (hr.mono (by decide)) rfl tk (pax_cons (px_bin (od_mul hr) (px_rd (pv 3)) (px_rd (pv 4))) pax_nil))) (le_of rfl))
 (pssx_cons (psx_if (Γ2 := []) (PWx.pt (pwx_or (ptx_cmp (od_eq hr) (px_rd (pv 5)) (px_rd (pv 6)) (nomark _)) (pwx_or1 (ptx_cmp (od_eq hr) (px_rd (pv 6)) px_int (nomark _)))))
 (pssx_one (psx_ret (px_fr' (pv 5) rfl)))
 (PSsx.less (Γ2 := []) pssx_nil (le_of rfl)))
 (pssx_cons (psx_if (Γ2 := []) (ptx_cmp (od_eq hr) (px_rd (pv 5)) px_int (nomark _))
 (pssx_one (psx_ret (px_fr' (pv 6) rfl)))
 (PSsx.less (Γ2 := []) pssx_nil (le_of rfl)))
 (pssx_one (psx_ret (px_bin (od_mul hr) (px_rd (pv 5)) (PX.rd (px_callF C_sign_one (hr.mono (by decide)) rfl tk (pax_cons (px_bin od_sub (px_bin (od_add hr) (px_bin (od_mul hr) (px_rd (pv 0)) (px_rd (pv 0))) (px_bin (od_mul hr) (px_bin (od_mul hr) (px_rd (pv 1)) (px_rd (pv 1))) (px_rd (pv 2)))) (px_bin (od_mul hr) (px_bin (od_mul hr) (px_rd (pv 3)) (px_rd (pv 3))) (px_rd (pv 4)))) (pax_cons (px_bin (od_mul hr) (px_bin (od_mul hr) px_int (px_rd (pv 0))) (px_rd (pv 1))) (pax_cons (px_fr' (pv 2) rfl) pax_nil))))))))))))
theorem w_order (T : Tx K mg) : FnA P w K mg base 4 "order" ["one", "other"] false m_order := by
  have C_sign_two := w_sign_two (P := P) (w := w) (base := base) T
  have nd : (["one", "other", "p", "q", "r", "s", "a", "b", "t", "d"] : List Str).Nodup := by decide +kernel
  have S : FnScope ["one", "other", "p", "q", "r", "s", "a", "b", "t", "d"] ["one", "other"] (defScope (topS 13)) := ⟨rfl, rfl, rfl, nd, rfl, by decide +kernel, by decide +kernel⟩
  refine fnA_mk (Γ0 := []) (Γl := []) (Γ' := []) T.f_order S (by decide) (no_own rfl) (fun _ _ _ _ _ _ us hl => match us, hl with | [_, _], _ => rfl) fun f cdv A outer s H E Hf hr => ?_
  have tk := takes_of (X := cxD P w K mg base ["one", "other", "p", "q", "r", "s", "a", "b", "t", "d"] "order" (topS 13) f cdv A outer s H E) rfl rfl rfl rfl
  have hp := passes_of (X := cxD P w K mg base ["one", "other", "p", "q", "r", "s", "a", "b", "t", "d"] "order" (topS 13) f cdv A outer s H E) rfl
  exact (pssx_cons (PSx.less (Γ2 := []) (psx_asg (px_fr' (pv 0) rfl) (pgx_tup rfl (pgsx_cons (pgx_name (i := 2) nd rfl (.inl rfl)) (pgsx_cons (pgx_name (i := 3) nd rfl (.inl rfl)) (pgsx_cons (pgx_name (i := 4) nd rfl (.inl rfl)) (pgsx_cons (pgx_name (i := 5) nd rfl (.inl rfl)) pgsx_nil))))) (gT_nx (nxs_cons gN_nx (nxs_cons gN_nx (nxs_cons gN_nx (nxs_cons gN_nx nxs_nil)))))) (le_of rfl))
 (pssx_cons (PSx.less (Γ2 := []) (psx_asg (px_fr' (pv 1) rfl) (pgx_tup rfl (pgsx_cons (pgx_name (i := 6) nd rfl (.inl rfl)) (pgsx_cons (pgx_name (i := 7) nd rfl (.inl rfl)) (pgsx_cons (pgx_name (i := 8) nd rfl (.inl rfl)) (pgsx_cons (pgx_name (i := 9) nd rfl (.inl rfl)) pgsx_nil))))) (gT_nx (nxs_cons gN_nx (nxs_cons gN_nx (nxs_cons gN_nx (nxs_cons gN_nx nxs_nil)))))) (le_of rfl))
 (pssx_one (psx_ret (px_callF C_sign_two (hr.mono (by decide)) rfl tk (pax_cons (px_bin od_sub (px_bin (od_mul hr) (px_rd (pv 2)) (px_rd (pv 9))) (px_bin (od_mul hr) (px_rd (pv 6)) (px_rd (pv 5)))) (pax_cons (px_bin (od_mul hr) (px_rd (pv 3)) (px_rd (pv 9))) (pax_cons (px_fr' (pv 4) rfl) (pax_cons (px_bin od_sub px_int (px_bin (od_mul hr) (px_rd (pv 7)) (px_rd (pv 5)))) (pax_cons (px_fr' (pv 8) rfl) pax_nil))))))))))
theorem w_whole_root (T : Tx K mg) : FnA P w K mg base 1 "whole_root" ["number"] false m_whole_root := by
  have nd : (["number", "step", "found"] : List Str).Nodup := by decide +kernel
  have S : FnScope ["number", "step", "found"] ["number"] (defScope (topS 14)) := ⟨rfl, rfl, rfl, nd, rfl, by decide +kernel, by decide +kernel⟩
  refine fnA_mk (Γ0 := []) (Γl := []) (Γ' := []) T.f_whole_root S (by decide) (no_own rfl) (fun _ _ _ _ _ _ us hl => match us, hl with | [_], _ => rfl) fun f cdv A outer s H E Hf hr => ?_
  have tk := takes_of (X := cxD P w K mg base ["number", "step", "found"] "whole_root" (topS 14) f cdv A outer s H E) rfl rfl rfl rfl
  have hp := passes_of (X := cxD P w K mg base ["number", "step", "found"] "whole_root" (topS 14) f cdv A outer s H E) rfl
  exact (pssx_cons (PSx.less (Γ2 := []) (psx_set (i := 1) nd rfl (.inl rfl) px_int) (le_of rfl))
 (pssx_cons (PSx.pre (psx_while (Γ := []) hp (ptx_cmp (od_le hr) (px_bin (od_mul hr) (px_rd (pv 1)) (px_rd (pv 1))) (px_rd (pv 0)) (nomark _)) (PSsx.less (Γ2 := []) (pssx_one (PSx.less (Γ2 := []) (psx_set (i := 1) nd rfl (.inl rfl) (px_bin (od_mul hr) (px_rd (pv 1)) px_int)) (le_of rfl))) (le_of rfl))) (le_of rfl))
 (pssx_cons (PSx.less (Γ2 := []) (psx_set (i := 2) nd rfl (.inl rfl) px_int) (le_of rfl))
 (pssx_cons (PSx.pre (psx_while (Γ := []) hp (ptx_cmp (od_gt hr) (px_rd (pv 1)) px_int (nomark _)) (PSsx.less (Γ2 := []) (pssx_cons (psx_if (Γ2 := []) (ptx_cmp (od_le hr) (px_bin (od_mul hr) (px_bin (od_add hr) (px_rd (pv 2)) (px_rd (pv 1))) (px_bin (od_add hr) (px_rd (pv 2)) (px_rd (pv 1)))) (px_rd (pv 0)) (nomark _))
 (PSsx.less (Γ2 := []) (pssx_one (PSx.less (Γ2 := []) (psx_set (i := 2) nd rfl (.inl rfl) (px_bin (od_add hr) (px_rd (pv 2)) (px_rd (pv 1)))) (le_of rfl))) (le_of rfl))
 (PSsx.less (Γ2 := []) pssx_nil (le_of rfl)))
 (pssx_one (PSx.less (Γ2 := []) (psx_set (i := 1) nd rfl (.inl rfl) (px_bin od_div (px_rd (pv 1)) px_int)) (le_of rfl)))) (le_of rfl))) (le_of rfl))
 (pssx_one (psx_ret (px_fr' (pv 2) rfl)))))))
theorem w_floor_of (T : Tx K mg) : FnA P w K mg base 2 "floor_of" ["number"] false m_floor_of := by
  have C_whole_root := w_whole_root (P := P) (w := w) (base := base) T
  have nd : (["number", "p", "q", "r", "s", "square", "root"] : List Str).Nodup := by decide +kernel
  have S : FnScope ["number", "p", "q", "r", "s", "square", "root"] ["number"] (defScope (topS 15)) := ⟨rfl, rfl, rfl, nd, rfl, by decide +kernel, by decide +kernel⟩
  refine fnA_mk (Γ0 := []) (Γl := []) (Γ' := []) T.f_floor_of S (by decide) (no_own rfl) (fun _ _ _ _ _ _ us hl => match us, hl with | [_], _ => rfl) fun f cdv A outer s H E Hf hr => ?_
  have tk := takes_of (X := cxD P w K mg base ["number", "p", "q", "r", "s", "square", "root"] "floor_of" (topS 15) f cdv A outer s H E) rfl rfl rfl rfl
  have hp := passes_of (X := cxD P w K mg base ["number", "p", "q", "r", "s", "square", "root"] "floor_of" (topS 15) f cdv A outer s H E) rfl
  exact (pssx_cons (PSx.less (Γ2 := []) (psx_asg (px_fr' (pv 0) rfl) (pgx_tup rfl (pgsx_cons (pgx_name (i := 1) nd rfl (.inl rfl)) (pgsx_cons (pgx_name (i := 2) nd rfl (.inl rfl)) (pgsx_cons (pgx_name (i := 3) nd rfl (.inl rfl)) (pgsx_cons (pgx_name (i := 4) nd rfl (.inl rfl)) pgsx_nil))))) (gT_nx (nxs_cons gN_nx (nxs_cons gN_nx (nxs_cons gN_nx (nxs_cons gN_nx nxs_nil)))))) (le_of rfl))
 (pssx_cons (PSx.less (Γ2 := []) (psx_set (i := 5) nd rfl (.inl rfl) (px_bin (od_mul hr) (px_bin (od_mul hr) (px_rd (pv 2)) (px_rd (pv 2))) (px_rd (pv 3)))) (le_of rfl))
 (pssx_cons (PSx.less (Γ2 := []) (psx_set (i := 6) nd rfl (.inl rfl) (px_callF C_whole_root (hr.mono (by decide)) rfl tk (pax_cons (px_fr' (pv 5) rfl) pax_nil))) (le_of rfl))
 (pssx_cons (psx_if (Γ2 := []) (ptx_cmp (od_ge hr) (px_rd (pv 2)) px_int (nomark _))
 (pssx_one (psx_ret (px_bin od_div (px_bin (od_add hr) (px_rd (pv 1)) (px_rd (pv 6))) (px_rd (pv 4)))))
 (PSsx.less (Γ2 := []) pssx_nil (le_of rfl)))
 (pssx_cons (psx_if (Γ2 := []) (ptx_cmp (od_lt hr) (px_bin (od_mul hr) (px_rd (pv 6)) (px_rd (pv 6))) (px_rd (pv 5)) (nomark _))
 (PSsx.less (Γ2 := []) (pssx_one (PSx.less (Γ2 := []) (psx_set (i := 6) nd rfl (.inl rfl) (px_bin (od_add hr) (px_rd (pv 6)) px_int)) (le_of rfl))) (le_of rfl))
 (PSsx.less (Γ2 := []) pssx_nil (le_of rfl)))
 (pssx_one (psx_ret (px_bin od_div (px_bin od_sub (px_rd (pv 1)) (px_rd (pv 6))) (px_rd (pv 4))))))))))
theorem w_let_in (T : Tx K mg) : FnA P w K mg base 3 "let_in" ["forms", "name"] false m_let_in := by
  have C_names_of := w_names_of (P := P) (w := w) (base := base) T
  have C_by_power := w_by_power (P := P) (w := w) (base := base) T
  have nd : (["forms", "name", "one", "other"] : List Str).Nodup := by decide +kernel
  have S : FnScope ["forms", "name", "one", "other"] ["forms", "name"] (defScope (topS 17)) := ⟨rfl, rfl, rfl, nd, rfl, by decide +kernel, by decide +kernel⟩
  refine fnA_mk (Γ0 := []) (Γl := []) (Γ' := []) T.f_let_in S (by decide) (no_own rfl) (fun _ _ _ _ _ _ us hl => match us, hl with | [_, _], _ => rfl) fun f cdv A outer s H E Hf hr => ?_
  have tk := takes_of (X := cxD P w K mg base ["forms", "name", "one", "other"] "let_in" (topS 17) f cdv A outer s H E) rfl rfl rfl rfl
  have hp := passes_of (X := cxD P w K mg base ["forms", "name", "one", "other"] "let_in" (topS 17) f cdv A outer s H E) rfl
  exact (pssx_cons (PSx.pre (psx_for (Γ := []) (Γ1 := []) hp rfl (pix_seq (px_fr' (pv 0) rfl)) (fun F1 => (pgx_name (i := 2) nd rfl (.inl rfl))) gN_nx (fun F1 => (PSsx.less (Γ2 := []) (pssx_one (PSx.pre (psx_for (Γ := []) (Γ1 := []) hp rfl (pix_seq (px_callF C_names_of (hr.mono (by decide)) rfl tk (pax_cons (px_fr' (pv 2) rfl) pax_nil))) (fun F1 => (pgx_name (i := 3) nd rfl (.inl rfl))) gN_nx (fun F1 => (PSsx.less (Γ2 := []) (pssx_one (psx_if (Γ2 := []) (ptx_cmp (od_ne hr) (px_rd (pv 3)) (px_rd (pv 1)) (nomark _))
 (pssx_one psx_stuck)
 (PSsx.less (Γ2 := []) pssx_nil (le_of rfl)))) (le_of rfl)))) (le_of rfl))) (le_of rfl)))) (le_of rfl))
 (pssx_one (PSx.pre (psx_for (Γ := []) (Γ1 := []) hp rfl (pix_seq (px_fr' (pv 0) rfl)) (fun F1 => (pgx_name (i := 2) nd rfl (.inl rfl))) gN_nx (fun F1 => (PSsx.less (Γ2 := []) (pssx_one (psx_if (Γ2 := []) (ptx_cmp (od_gt hr) (px_callB ca_len rfl T.z_len bb_len (pbx_cons (PX.rd (px_callF C_by_power (hr.mono (by decide)) rfl tk (pax_cons (px_fr' (pv 2) rfl) (pax_cons (px_fr' (pv 1) rfl) pax_nil)))) pbx_nil)) px_int (nomark _))
 (pssx_one psx_stuck)
 (PSsx.less (Γ2 := []) pssx_nil (le_of rfl)))) (le_of rfl)))) (le_of rfl))))
theorem w_numbers_of (T : Tx K mg) : FnA P w K mg base 3 "numbers_of" ["one", "name"] true m_numbers_of := by
  have C_by_power := w_by_power (P := P) (w := w) (base := base) T
  have nd : (["one", "name", "found", "part", "product", "number"] : List Str).Nodup := by decide +kernel
  have S : FnScope ["one", "name", "found", "part", "product", "number"] ["one", "name"] (defScope (topS 18)) := ⟨rfl, rfl, rfl, nd, rfl, by decide +kernel, by decide +kernel⟩
  refine fnA_mk (Γ0 := [false, false, false, false, false, false]) (Γl := []) (Γ' := []) T.f_numbers_of S (by decide) (no_own rfl) (fun _ _ _ _ _ _ us hl => match us, hl with | [_, _], _ => rfl) fun f cdv A outer s H E Hf hr => ?_
  have tk := takes_of (X := cxD P w K mg base ["one", "name", "found", "part", "product", "number"] "numbers_of" (topS 18) f cdv A outer s H E) rfl rfl rfl rfl
  have hp := passes_of (X := cxD P w K mg base ["one", "name", "found", "part", "product", "number"] "numbers_of" (topS 18) f cdv A outer s H E) rfl
  exact (pssx_cons (PSx.less (Γ2 := [false, false, true, false, false, false]) (psx_setLc (i := 2) (ow := true) (own := [("part", 3)]) (Γ2 := [false, false, false, false, false, false]) rfl nd rfl rfl (sw_true rfl rfl rfl (by decide +kernel)) (pix_seq (px_callF C_by_power (hr.mono (by decide)) rfl tk (pax_cons (px_fr' (pv 0) rfl) (pax_cons (px_fr' (pv 1) rfl) pax_nil)))) (le_of rfl) (by decide) (by decide) (blkOk_by (N := ["one", "name", "found", "part", "product", "number"]) (sc := defScope (topS 18)) (own := [("part", 3)]) (by decide +kernel)) (fun _ _ _ _ _ _ => (pgx_name (i := 3) nd rfl (.inl rfl))) (by decide) (fun _ _ _ _ _ _ => ptsx_nil) (fun _ _ _ _ _ _ => (px_callB (ca_sum rfl) rfl T.z_sum bb_sum (pbx_cons (PX.rd (px_lc (own := [("product", 4), ("number", 5)]) (Γ2 := [false, false, false, false, false, false]) rfl nd (pix_seq (px_fr' (pv 3) rfl)) (le_of rfl) (by decide) (blkOk_by (N := ["one", "name", "found", "part", "product", "number"]) (own := [("product", 4), ("number", 5)]) rfl) (fun _ _ _ _ _ _ => (pgx_tup rfl (pgsx_cons (pgx_name (i := 4) nd rfl (.inl rfl)) (pgsx_cons (pgx_name (i := 5) nd rfl (.inl rfl)) pgsx_nil)))) (by decide) (fun _ _ _ _ _ _ => ptsx_nil) (fun _ _ _ _ _ _ => (px_fr' (pv 5) rfl)))) pbx_nil)))) (le_of rfl))
 (pssx_cons (PSx.pre (psx_while (Γ := [false, false, true, false, false, false]) hp (ptx_cmp (od_lt hr) (px_callB ca_len rfl T.z_len bb_len (pbx_cons (px_rd (pv 2)) pbx_nil)) px_int (nomark _)) (PSsx.less (Γ2 := [false, false, true, false, false, false]) (pssx_one (psx_append (pv 2) px_int rfl)) (le_of rfl))) (le_of rfl))
 (pssx_one (psx_retV (pv 2) rfl))))
theorem w_roots_of (T : Tx K mg) : FnA P w K mg base 1 "roots_of" ["c", "b", "a"] true m_roots_of := by
  have nd : (["c", "b", "a", "under"] : List Str).Nodup := by decide +kernel
  have S : FnScope ["c", "b", "a", "under"] ["c", "b", "a"] (defScope (topS 19)) := ⟨rfl, rfl, rfl, nd, rfl, by decide +kernel, by decide +kernel⟩
  refine fnA_mk (Γ0 := []) (Γl := []) (Γ' := []) T.f_roots_of S (by decide) (no_own rfl) (fun _ _ _ _ _ _ us hl => match us, hl with | [_, _, _], _ => rfl) fun f cdv A outer s H E Hf hr => ?_
  have tk := takes_of (X := cxD P w K mg base ["c", "b", "a", "under"] "roots_of" (topS 19) f cdv A outer s H E) rfl rfl rfl rfl
  have hp := passes_of (X := cxD P w K mg base ["c", "b", "a", "under"] "roots_of" (topS 19) f cdv A outer s H E) rfl
  exact (pssx_cons (psx_if (Γ2 := []) (PWx.pt (pwx_or (ptx_cmp (od_lt hr) (px_rd (pv 2)) px_int (nomark _)) (pwx_or1 (PWx.pt (pwx_and (ptx_cmp (od_eq hr) (px_rd (pv 2)) px_int (nomark _)) (pwx_and1 (ptx_cmp (od_lt hr) (px_rd (pv 1)) px_int (nomark _))))))))
 (PSsx.less (Γ2 := []) (pssx_cons (PSx.less (Γ2 := []) (psx_set (i := 2) nd rfl (.inl rfl) (px_bin od_sub px_int (px_rd (pv 2)))) (le_of rfl))
 (pssx_cons (PSx.less (Γ2 := []) (psx_set (i := 1) nd rfl (.inl rfl) (px_bin od_sub px_int (px_rd (pv 1)))) (le_of rfl))
 (pssx_one (PSx.less (Γ2 := []) (psx_set (i := 0) nd rfl (.inl rfl) (px_bin od_sub px_int (px_rd (pv 0)))) (le_of rfl))))) (le_of rfl))
 (PSsx.less (Γ2 := []) pssx_nil (le_of rfl)))
 (pssx_cons (psx_if (Γ2 := []) (PWx.pt (pwx_and (ptx_cmp (od_eq hr) (px_rd (pv 2)) px_int (nomark _)) (pwx_and1 (ptx_cmp (od_eq hr) (px_rd (pv 1)) px_int (nomark _)))))
 (pssx_one (psx_retO (px_lst pax_nil)))
 (PSsx.less (Γ2 := []) pssx_nil (le_of rfl)))
 (pssx_cons (psx_if (Γ2 := []) (ptx_cmp (od_eq hr) (px_rd (pv 2)) px_int (nomark _))
 (pssx_one (psx_retO (px_lst (pax_cons (px_tup (pax_cons (px_bin od_sub px_int (px_rd (pv 0))) (pax_cons px_int (pax_cons px_int (pax_cons (px_fr' (pv 1) rfl) pax_nil))))) pax_nil))))
 (PSsx.less (Γ2 := []) pssx_nil (le_of rfl)))
 (pssx_cons (PSx.less (Γ2 := []) (psx_set (i := 3) nd rfl (.inl rfl) (px_bin od_sub (px_bin (od_mul hr) (px_rd (pv 1)) (px_rd (pv 1))) (px_bin (od_mul hr) (px_bin (od_mul hr) px_int (px_rd (pv 2))) (px_rd (pv 0))))) (le_of rfl))
 (pssx_cons (psx_if (Γ2 := []) (ptx_cmp (od_lt hr) (px_rd (pv 3)) px_int (nomark _))
 (pssx_one (psx_retO (px_lst pax_nil)))
 (PSsx.less (Γ2 := []) pssx_nil (le_of rfl)))
 (pssx_cons (psx_if (Γ2 := []) (ptx_cmp (od_eq hr) (px_rd (pv 3)) px_int (nomark _))
 (pssx_one (psx_retO (px_lst (pax_cons (px_tup (pax_cons (px_bin od_sub px_int (px_rd (pv 1))) (pax_cons px_int (pax_cons px_int (pax_cons (px_bin (od_mul hr) px_int (px_rd (pv 2))) pax_nil))))) pax_nil))))
 (PSsx.less (Γ2 := []) pssx_nil (le_of rfl)))
 (pssx_one (psx_retO (px_lst (pax_cons (px_tup (pax_cons (px_bin od_sub px_int (px_rd (pv 1))) (pax_cons (px_un ud_neg px_int) (pax_cons (px_fr' (pv 3) rfl) (pax_cons (px_bin (od_mul hr) px_int (px_rd (pv 2))) pax_nil))))) (pax_cons (px_tup (pax_cons (px_bin od_sub px_int (px_rd (pv 1))) (pax_cons px_int (pax_cons (px_fr' (pv 3) rfl) (pax_cons (px_bin (od_mul hr) px_int (px_rd (pv 2))) pax_nil))))) pax_nil)))))))))))
theorem w_borders (T : Tx K mg) : FnA P w K mg base 5 "borders" ["forms", "name"] false m_borders := by
  have C_let_in := w_let_in (P := P) (w := w) (base := base) T
  have C_numbers_of := w_numbers_of (P := P) (w := w) (base := base) T
  have C_roots_of := w_roots_of (P := P) (w := w) (base := base) T
  have C_order := w_order (P := P) (w := w) (base := base) T
  have nd : (["forms", "name", "found", "one", "c", "b", "a", "number", "at"] : List Str).Nodup := by decide +kernel
  have S : FnScope ["forms", "name", "found", "one", "c", "b", "a", "number", "at"] ["forms", "name"] (defScope (topS 20)) := ⟨rfl, rfl, rfl, nd, rfl, by decide +kernel, by decide +kernel⟩
  refine fnA_mk (Γ0 := [false, false, false, false, false, false, false, false, false]) (Γl := []) (Γ' := []) T.f_borders S (by decide) (no_own rfl) (fun _ _ _ _ _ _ us hl => match us, hl with | [_, _], _ => rfl) fun f cdv A outer s H E Hf hr => ?_
  have tk := takes_of (X := cxD P w K mg base ["forms", "name", "found", "one", "c", "b", "a", "number", "at"] "borders" (topS 20) f cdv A outer s H E) rfl rfl rfl rfl
  have hp := passes_of (X := cxD P w K mg base ["forms", "name", "found", "one", "c", "b", "a", "number", "at"] "borders" (topS 20) f cdv A outer s H E) rfl
  exact (pssx_cons (psx_expr (PX.rd (px_callF C_let_in (hr.mono (by decide)) rfl tk (pax_cons (px_fr' (pv 0) rfl) (pax_cons (px_fr' (pv 1) rfl) pax_nil)))))
 (pssx_cons (PSx.less (Γ2 := [false, false, true, false, false, false, false, false, false]) (psx_setO (i := 2) nd rfl (.inl rfl) (px_lst pax_nil) (by decide)) (le_of rfl))
 (pssx_cons (PSx.pre (psx_for (Γ := [false, false, true, false, false, false, false, false, false]) (Γ1 := [false, false, true, false, false, false, false, false, false]) hp rfl (pix_seq (px_fr' (pv 0) rfl)) (fun F1 => (pgx_name (i := 3) nd rfl (.inl rfl))) gN_nx (fun F1 => (PSsx.less (Γ2 := [false, false, true, false, false, false, false, false, false]) (pssx_cons (PSx.less (Γ2 := [false, false, true, false, false, false, false, false, false]) (psx_asg (PX.fr (px_callO C_numbers_of (hr.mono (by decide)) rfl tk (pax_cons (px_fr' (pv 3) rfl) (pax_cons (px_fr' (pv 1) rfl) pax_nil)))) (pgx_tup rfl (pgsx_cons (pgx_name (i := 4) nd rfl (.inl rfl)) (pgsx_cons (pgx_name (i := 5) nd rfl (.inl rfl)) (pgsx_cons (pgx_name (i := 6) nd rfl (.inl rfl)) pgsx_nil)))) (gT_nx (nxs_cons gN_nx (nxs_cons gN_nx (nxs_cons gN_nx nxs_nil))))) (le_of rfl))
 (pssx_one (PSx.pre (psx_for (Γ := [false, false, true, false, false, false, false, false, false]) (Γ1 := [false, false, true, false, false, false, false, false, false]) hp rfl (pix_seq (PX.fr (px_callO C_roots_of (hr.mono (by decide)) rfl tk (pax_cons (px_fr' (pv 4) rfl) (pax_cons (px_fr' (pv 5) rfl) (pax_cons (px_fr' (pv 6) rfl) pax_nil)))))) (fun F1 => (pgx_name (i := 7) nd rfl (.inl rfl))) gN_nx (fun F1 => (PSsx.less (Γ2 := [false, false, true, false, false, false, false, false, false]) (pssx_cons (PSx.less (Γ2 := [false, false, true, false, false, false, false, false, false]) (psx_set (i := 8) nd rfl (.inl rfl) px_int) (le_of rfl))
 (pssx_cons (PSx.pre (psx_while (Γ := [false, false, true, false, false, false, false, false, false]) hp (PWx.pt (pwx_and (ptx_cmp (od_lt hr) (px_rd (pv 8)) (px_callB ca_len rfl T.z_len bb_len (pbx_cons (px_rd (pv 2)) pbx_nil)) (nomark _)) (pwx_and1 (ptx_cmp (od_lt hr) (PX.rd (px_callF C_order (hr.mono (by decide)) rfl tk (pax_cons (px_ix hr (px_rd (pv 2)) (px_rd (pv 8)) (fun _ _ => rfl)) (pax_cons (px_fr' (pv 7) rfl) pax_nil)))) px_int (nomark _))))) (PSsx.less (Γ2 := [false, false, true, false, false, false, false, false, false]) (pssx_one (PSx.less (Γ2 := [false, false, true, false, false, false, false, false, false]) (psx_set (i := 8) nd rfl (.inl rfl) (px_bin (od_add hr) (px_rd (pv 8)) px_int)) (le_of rfl))) (le_of rfl))) (le_of rfl))
 (pssx_one (psx_if (Γ2 := [false, false, true, false, false, false, false, false, false]) (PWx.pt (pwx_or (ptx_cmp (od_eq hr) (px_rd (pv 8)) (px_callB ca_len rfl T.z_len bb_len (pbx_cons (px_rd (pv 2)) pbx_nil)) (nomark _)) (pwx_or1 (ptx_cmp (od_gt hr) (PX.rd (px_callF C_order (hr.mono (by decide)) rfl tk (pax_cons (px_ix hr (px_rd (pv 2)) (px_rd (pv 8)) (fun _ _ => rfl)) (pax_cons (px_fr' (pv 7) rfl) pax_nil)))) px_int (nomark _)))))
 (PSsx.less (Γ2 := [false, false, true, false, false, false, false, false, false]) (pssx_one (psx_lm lm_insert PySem.F.slot_list_insert PySem.F.type_list_insert (pv 2) (pax_cons (px_fr' (pv 8) rfl) (pax_cons (px_fr' (pv 7) rfl) pax_nil)) rfl)) (le_of rfl))
 (PSsx.less (Γ2 := [false, false, true, false, false, false, false, false, false]) pssx_nil (le_of rfl)))))) (le_of rfl)))) (le_of rfl)))) (le_of rfl)))) (le_of rfl))
 (pssx_one (psx_ret (px_callT ca_tuple rfl T.z_tuple bb_tuple (pbx_cons (px_rd (pv 2)) pbx_nil)))))))
theorem w_above (T : Tx K mg) : FnA P w K mg base 3 "above" ["number", "scale"] false m_above := by
  have C_floor_of := w_floor_of (P := P) (w := w) (base := base) T
  have nd : (["number", "scale", "p", "q", "r", "s"] : List Str).Nodup := by decide +kernel
  have S : FnScope ["number", "scale", "p", "q", "r", "s"] ["number", "scale"] (defScope (topS 21)) := ⟨rfl, rfl, rfl, nd, rfl, by decide +kernel, by decide +kernel⟩
  refine fnA_mk (Γ0 := []) (Γl := []) (Γ' := []) T.f_above S (by decide) (no_own rfl) (fun _ _ _ _ _ _ us hl => match us, hl with | [_, _], _ => rfl) fun f cdv A outer s H E Hf hr => ?_
  have tk := takes_of (X := cxD P w K mg base ["number", "scale", "p", "q", "r", "s"] "above" (topS 21) f cdv A outer s H E) rfl rfl rfl rfl
  have hp := passes_of (X := cxD P w K mg base ["number", "scale", "p", "q", "r", "s"] "above" (topS 21) f cdv A outer s H E) rfl
  exact (pssx_cons (PSx.less (Γ2 := []) (psx_asg (px_fr' (pv 0) rfl) (pgx_tup rfl (pgsx_cons (pgx_name (i := 2) nd rfl (.inl rfl)) (pgsx_cons (pgx_name (i := 3) nd rfl (.inl rfl)) (pgsx_cons (pgx_name (i := 4) nd rfl (.inl rfl)) (pgsx_cons (pgx_name (i := 5) nd rfl (.inl rfl)) pgsx_nil))))) (gT_nx (nxs_cons gN_nx (nxs_cons gN_nx (nxs_cons gN_nx (nxs_cons gN_nx nxs_nil)))))) (le_of rfl))
 (pssx_one (psx_ret (px_bin (od_add hr) (PX.rd (px_callF C_floor_of (hr.mono (by decide)) rfl tk (pax_cons (px_tup (pax_cons (px_bin (od_mul hr) (px_rd (pv 2)) (px_rd (pv 1))) (pax_cons (px_bin (od_mul hr) (px_rd (pv 3)) (px_rd (pv 1))) (pax_cons (px_fr' (pv 4) rfl) (pax_cons (px_fr' (pv 5) rfl) pax_nil))))) pax_nil))) px_int))))
theorem w_between (T : Tx K mg) : FnA P w K mg base 5 "between" ["one", "other"] false m_between := by
  have C_above := w_above (P := P) (w := w) (base := base) T
  have C_order := w_order (P := P) (w := w) (base := base) T
  have nd : (["one", "other", "scale", "top"] : List Str).Nodup := by decide +kernel
  have S : FnScope ["one", "other", "scale", "top"] ["one", "other"] (defScope (topS 22)) := ⟨rfl, rfl, rfl, nd, rfl, by decide +kernel, by decide +kernel⟩
  refine fnA_mk (Γ0 := []) (Γl := []) (Γ' := []) T.f_between S (by decide) (no_own rfl) (fun _ _ _ _ _ _ us hl => match us, hl with | [_, _], _ => rfl) fun f cdv A outer s H E Hf hr => ?_
  have tk := takes_of (X := cxD P w K mg base ["one", "other", "scale", "top"] "between" (topS 22) f cdv A outer s H E) rfl rfl rfl rfl
  have hp := passes_of (X := cxD P w K mg base ["one", "other", "scale", "top"] "between" (topS 22) f cdv A outer s H E) rfl
  exact (pssx_cons (PSx.less (Γ2 := []) (psx_set (i := 2) nd rfl (.inl rfl) px_int) (le_of rfl))
 (pssx_cons (PSx.less (Γ2 := []) (psx_set (i := 3) nd rfl (.inl rfl) (px_callF C_above (hr.mono (by decide)) rfl tk (pax_cons (px_fr' (pv 0) rfl) (pax_cons (px_fr' (pv 2) rfl) pax_nil)))) (le_of rfl))
 (pssx_cons (PSx.pre (psx_while (Γ := []) hp (ptx_cmp (od_ge hr) (PX.rd (px_callF C_order (hr.mono (by decide)) rfl tk (pax_cons (px_tup (pax_cons (px_fr' (pv 3) rfl) (pax_cons px_int (pax_cons px_int (pax_cons (px_fr' (pv 2) rfl) pax_nil))))) (pax_cons (px_fr' (pv 1) rfl) pax_nil)))) px_int (nomark _)) (PSsx.less (Γ2 := []) (pssx_cons (PSx.less (Γ2 := []) (psx_set (i := 2) nd rfl (.inl rfl) (px_bin (od_mul hr) (px_bin (od_mul hr) px_int (px_rd (pv 2))) (px_rd (pv 2)))) (le_of rfl))
 (pssx_one (PSx.less (Γ2 := []) (psx_set (i := 3) nd rfl (.inl rfl) (px_callF C_above (hr.mono (by decide)) rfl tk (pax_cons (px_fr' (pv 0) rfl) (pax_cons (px_fr' (pv 2) rfl) pax_nil)))) (le_of rfl)))) (le_of rfl))) (le_of rfl))
 (pssx_one (psx_ret (px_tup (pax_cons (px_fr' (pv 3) rfl) (pax_cons px_int (pax_cons px_int (pax_cons (px_fr' (pv 2) rfl) pax_nil))))))))))
theorem w_line (T : Tx K mg) : FnA P w K mg base 6 "line" ["forms", "name"] false m_line := by
  have C_borders := w_borders (P := P) (w := w) (base := base) T
  have C_floor_of := w_floor_of (P := P) (w := w) (base := base) T
  have C_between := w_between (P := P) (w := w) (base := base) T
  have C_above := w_above (P := P) (w := w) (base := base) T
  have nd : (["forms", "name", "found", "row", "k"] : List Str).Nodup := by decide +kernel
  have S : FnScope ["forms", "name", "found", "row", "k"] ["forms", "name"] (defScope (topS 23)) := ⟨rfl, rfl, rfl, nd, rfl, by decide +kernel, by decide +kernel⟩
  refine fnA_mk (Γ0 := [false, false, false, false, false]) (Γl := []) (Γ' := []) T.f_line S (by decide) (no_own rfl) (fun _ _ _ _ _ _ us hl => match us, hl with | [_, _], _ => rfl) fun f cdv A outer s H E Hf hr => ?_
  have tk := takes_of (X := cxD P w K mg base ["forms", "name", "found", "row", "k"] "line" (topS 23) f cdv A outer s H E) rfl rfl rfl rfl
  have hp := passes_of (X := cxD P w K mg base ["forms", "name", "found", "row", "k"] "line" (topS 23) f cdv A outer s H E) rfl
  exact (pssx_cons (PSx.less (Γ2 := [false, false, false, false, false]) (psx_set (i := 2) nd rfl (.inl rfl) (px_callF C_borders (hr.mono (by decide)) rfl tk (pax_cons (px_fr' (pv 0) rfl) (pax_cons (px_fr' (pv 1) rfl) pax_nil)))) (le_of rfl))
 (pssx_cons (psx_if (Γ2 := [false, false, false, false, false]) (ptx_cmp (od_eq hr) (px_rd (pv 2)) (px_tup pax_nil) (nomark _))
 (pssx_one (psx_ret (px_tup (pax_cons (px_tup (pax_cons px_int (pax_cons px_int (pax_cons px_int (pax_cons px_int pax_nil))))) pax_nil))))
 (PSsx.less (Γ2 := [false, false, false, false, false]) pssx_nil (le_of rfl)))
 (pssx_cons (PSx.less (Γ2 := [false, false, false, true, false]) (psx_setO (i := 3) nd rfl (.inl rfl) (px_lst (pax_cons (px_tup (pax_cons (px_bin od_sub (PX.rd (px_callF C_floor_of (hr.mono (by decide)) rfl tk (pax_cons (px_ix hr (px_rd (pv 2)) px_int (fun _ _ => rfl)) pax_nil))) px_int) (pax_cons px_int (pax_cons px_int (pax_cons px_int pax_nil))))) (pax_cons (px_ix hr (px_rd (pv 2)) px_int (fun _ _ => rfl)) pax_nil))) (by decide)) (le_of rfl))
 (pssx_cons (PSx.pre (psx_for (Γ := [false, false, false, true, false]) (Γ1 := [false, false, false, true, false]) hp rfl (pix_range2 rfl T.z_range (pax_cons px_int (pax_cons (px_callB ca_len rfl T.z_len bb_len (pbx_cons (px_rd (pv 2)) pbx_nil)) pax_nil))) (fun F1 => (pgx_name (i := 4) nd rfl (.inl rfl))) gN_nx (fun F1 => (PSsx.less (Γ2 := [false, false, false, true, false]) (pssx_cons (psx_append (pv 3) (px_callF C_between (hr.mono (by decide)) rfl tk (pax_cons (px_ix hr (px_rd (pv 2)) (px_bin od_sub (px_rd (pv 4)) px_int) (fun _ _ => rfl)) (pax_cons (px_ix hr (px_rd (pv 2)) (px_rd (pv 4)) (fun _ _ => rfl)) pax_nil))) rfl)
 (pssx_one (psx_append (pv 3) (px_ix hr (px_rd (pv 2)) (px_rd (pv 4)) (fun _ _ => rfl)) rfl))) (le_of rfl)))) (le_of rfl))
 (pssx_cons (psx_append (pv 3) (px_tup (pax_cons (px_callF C_above (hr.mono (by decide)) rfl tk (pax_cons (px_ix hr (px_rd (pv 2)) (px_un ud_neg px_int) (fun _ _ => rfl)) (pax_cons px_int pax_nil))) (pax_cons px_int (pax_cons px_int (pax_cons px_int pax_nil))))) rfl)
 (pssx_one (psx_ret (px_callT ca_tuple rfl T.z_tuple bb_tuple (pbx_cons (px_rd (pv 3)) pbx_nil)))))))))
theorem w__law_cell (T : Tx K mg) : FnA P w K mg base 1 "_law_cell" ["_law_script", "_law_k"] false m__law_cell_v2 := by
  have nd : (["_law_script", "_law_k", "_law_wide"] : List Str).Nodup := by decide +kernel
  have S : FnScope ["_law_script", "_law_k", "_law_wide"] ["_law_script", "_law_k"] (defScope (topS 25)) := ⟨rfl, rfl, rfl, nd, rfl, by decide +kernel, by decide +kernel⟩
  refine fnA_mk (Γ0 := []) (Γl := []) (Γ' := []) T.f__law_cell S (by decide) (no_own rfl) (fun _ _ _ _ _ _ us hl => match us, hl with | [_, _], _ => rfl) fun f cdv A outer s H E Hf hr => ?_
  have tk := takes_of (X := cxD P w K mg base ["_law_script", "_law_k", "_law_wide"] "_law_cell" (topS 25) f cdv A outer s H E) rfl rfl rfl rfl
  have hp := passes_of (X := cxD P w K mg base ["_law_script", "_law_k", "_law_wide"] "_law_cell" (topS 25) f cdv A outer s H E) rfl
  exact (pssx_cons (psx_if (Γ2 := []) (ptx_cmp (od_lt hr) (px_rd (pv 1)) (px_callB ca_len rfl T.z_len bb_len (pbx_cons (px_rd (pv 0)) pbx_nil)) (nomark _))
 (pssx_cons (PSx.less (Γ2 := []) (psx_set (i := 2) nd rfl (.inl rfl) (px_bin (od_mul hr) (PX.rd (px_ix hr (px_rd (pv 0)) (px_rd (pv 1)) (fun _ _ => rfl))) px_int)) (le_of rfl))
 (pssx_one (psx_ret (px_bin od_mod (px_rd (pv 2)) (px_bin od_pow px_int px_int)))))
 (PSsx.less (Γ2 := []) pssx_nil (le_of rfl)))
 (pssx_one (psx_ret px_int)))
theorem w__law_signed (T : Tx K mg) : FnA P w K mg base 1 "_law_signed" ["_law_number", "_law_most"] false m__law_signed := by
  have nd : (["_law_number", "_law_most", "_law_half"] : List Str).Nodup := by decide +kernel
  have S : FnScope ["_law_number", "_law_most", "_law_half"] ["_law_number", "_law_most"] (defScope (topS 26)) := ⟨rfl, rfl, rfl, nd, rfl, by decide +kernel, by decide +kernel⟩
  refine fnA_mk (Γ0 := []) (Γl := []) (Γ' := []) T.f__law_signed S (by decide) (no_own rfl) (fun _ _ _ _ _ _ us hl => match us, hl with | [_, _], _ => rfl) fun f cdv A outer s H E Hf hr => ?_
  have tk := takes_of (X := cxD P w K mg base ["_law_number", "_law_most", "_law_half"] "_law_signed" (topS 26) f cdv A outer s H E) rfl rfl rfl rfl
  have hp := passes_of (X := cxD P w K mg base ["_law_number", "_law_most", "_law_half"] "_law_signed" (topS 26) f cdv A outer s H E) rfl
  exact (pssx_cons (PSx.less (Γ2 := []) (psx_set (i := 0) nd rfl (.inl rfl) (px_bin od_mod (px_rd (pv 0)) (px_bin (od_add hr) (px_bin (od_mul hr) px_int (px_rd (pv 1))) px_int))) (le_of rfl))
 (pssx_cons (PSx.less (Γ2 := []) (psx_set (i := 2) nd rfl (.inl rfl) (px_bin od_div (px_bin (od_add hr) (px_rd (pv 0)) px_int) px_int)) (le_of rfl))
 (pssx_cons (psx_if (Γ2 := []) (ptx_cmp (od_eq hr) (px_bin od_mod (px_rd (pv 0)) px_int) px_int (nomark _))
 (pssx_one (psx_ret (px_fr' (pv 2) rfl)))
 (PSsx.less (Γ2 := []) pssx_nil (le_of rfl)))
 (pssx_one (psx_ret (px_bin od_sub px_int (px_rd (pv 2))))))))
theorem w__law_sign (T : Tx K mg) : FnA P w K mg base 1 "_law_sign" ["_law_u", "_law_v", "_law_r"] false m__law_sign := by
  have nd : (["_law_u", "_law_v", "_law_r", "_law_left", "_law_right", "_law_more"] : List Str).Nodup := by decide +kernel
  have S : FnScope ["_law_u", "_law_v", "_law_r", "_law_left", "_law_right", "_law_more"] ["_law_u", "_law_v", "_law_r"] (defScope (topS 27)) := ⟨rfl, rfl, rfl, nd, rfl, by decide +kernel, by decide +kernel⟩
  refine fnA_mk (Γ0 := []) (Γl := []) (Γ' := []) T.f__law_sign S (by decide) (no_own rfl) (fun _ _ _ _ _ _ us hl => match us, hl with | [_, _, _], _ => rfl) fun f cdv A outer s H E Hf hr => ?_
  have tk := takes_of (X := cxD P w K mg base ["_law_u", "_law_v", "_law_r", "_law_left", "_law_right", "_law_more"] "_law_sign" (topS 27) f cdv A outer s H E) rfl rfl rfl rfl
  have hp := passes_of (X := cxD P w K mg base ["_law_u", "_law_v", "_law_r", "_law_left", "_law_right", "_law_more"] "_law_sign" (topS 27) f cdv A outer s H E) rfl
  exact (pssx_cons (PSx.less (Γ2 := []) (psx_set (i := 3) nd rfl (.inl rfl) (px_bin od_sub (px_callT ca_int rfl T.z_int bb_int (pbx_cons (px_cmp (od_gt hr) (px_rd (pv 0)) px_int (nomark _)) pbx_nil)) (px_callT ca_int rfl T.z_int bb_int (pbx_cons (px_cmp (od_lt hr) (px_rd (pv 0)) px_int (nomark _)) pbx_nil)))) (le_of rfl))
 (pssx_cons (PSx.less (Γ2 := []) (psx_set (i := 4) nd rfl (.inl rfl) (px_bin od_sub (px_callT ca_int rfl T.z_int bb_int (pbx_cons (px_cmp (od_gt hr) (px_rd (pv 1)) px_int (nomark _)) pbx_nil)) (px_callT ca_int rfl T.z_int bb_int (pbx_cons (px_cmp (od_lt hr) (px_rd (pv 1)) px_int (nomark _)) pbx_nil)))) (le_of rfl))
 (pssx_cons (psx_if (Γ2 := []) (ptx_cmp (od_eq hr) (px_rd (pv 2)) px_int (nomark _))
 (PSsx.less (Γ2 := []) (pssx_one (PSx.less (Γ2 := []) (psx_set (i := 4) nd rfl (.inl rfl) px_int) (le_of rfl))) (le_of rfl))
 (PSsx.less (Γ2 := []) pssx_nil (le_of rfl)))
 (pssx_cons (psx_if (Γ2 := []) (ptx_cmp (od_ge hr) (px_bin (od_mul hr) (px_rd (pv 3)) (px_rd (pv 4))) px_int (nomark _))
 (pssx_one (psx_ret (px_callB (ca_max2 rfl) rfl T.z_max bb_max (pbx_cons (px_un ud_neg px_int) (pbx_cons (px_callB (ca_min2 rfl) rfl T.z_min bb_min (pbx_cons px_int (pbx_cons (px_bin (od_add hr) (px_rd (pv 3)) (px_rd (pv 4))) pbx_nil))) pbx_nil)))))
 (PSsx.less (Γ2 := []) pssx_nil (le_of rfl)))
 (pssx_cons (PSx.less (Γ2 := []) (psx_set (i := 5) nd rfl (.inl rfl) (px_bin od_sub (px_bin (od_mul hr) (px_rd (pv 0)) (px_rd (pv 0))) (px_bin (od_mul hr) (px_bin (od_mul hr) (px_rd (pv 1)) (px_rd (pv 1))) (px_rd (pv 2))))) (le_of rfl))
 (pssx_cons (psx_if (Γ2 := []) (ptx_cmp (od_lt hr) (px_rd (pv 5)) px_int (nomark _))
 (pssx_one (psx_ret (px_fr' (pv 4) rfl)))
 (PSsx.less (Γ2 := []) pssx_nil (le_of rfl)))
 (pssx_one (psx_ret (px_bin (od_mul hr) (px_rd (pv 3)) (px_callT ca_int rfl T.z_int bb_int (pbx_cons (px_cmp (od_gt hr) (px_rd (pv 5)) px_int (nomark _)) pbx_nil)))))))))))
theorem w__law_sign_two (T : Tx K mg) : FnA P w K mg base 2 "_law_sign_two" ["_law_u", "_law_v", "_law_r", "_law_w", "_law_t"] false m__law_sign_two := by
  have C__law_sign := w__law_sign (P := P) (w := w) (base := base) T
  have nd : (["_law_u", "_law_v", "_law_r", "_law_w", "_law_t", "_law_left", "_law_right", "_law_more"] : List Str).Nodup := by decide +kernel
  have S : FnScope ["_law_u", "_law_v", "_law_r", "_law_w", "_law_t", "_law_left", "_law_right", "_law_more"] ["_law_u", "_law_v", "_law_r", "_law_w", "_law_t"] (defScope (topS 28)) := ⟨rfl, rfl, rfl, nd, rfl, by decide +kernel, by decide +kernel⟩
  refine fnA_mk (Γ0 := []) (Γl := []) (Γ' := []) T.f__law_sign_two S (by decide) (no_own rfl) (fun _ _ _ _ _ _ us hl => match us, hl with | [_, _, _, _, _], _ => rfl) fun f cdv A outer s H E Hf hr => ?_
  have tk := takes_of (X := cxD P w K mg base ["_law_u", "_law_v", "_law_r", "_law_w", "_law_t", "_law_left", "_law_right", "_law_more"] "_law_sign_two" (topS 28) f cdv A outer s H E) rfl rfl rfl rfl
  have hp := passes_of (X := cxD P w K mg base ["_law_u", "_law_v", "_law_r", "_law_w", "_law_t", "_law_left", "_law_right", "_law_more"] "_law_sign_two" (topS 28) f cdv A outer s H E) rfl
  exact (pssx_cons (PSx.less (Γ2 := []) (psx_set (i := 5) nd rfl (.inl rfl) (px_callF C__law_sign (hr.mono (by decide)) rfl tk (pax_cons (px_fr' (pv 0) rfl) (pax_cons (px_fr' (pv 1) rfl) (pax_cons (px_fr' (pv 2) rfl) pax_nil))))) (le_of rfl))
 (pssx_cons (PSx.less (Γ2 := []) (psx_set (i := 6) nd rfl (.inl rfl) (px_bin od_sub (px_callT ca_int rfl T.z_int bb_int (pbx_cons (px_cmp (od_gt hr) (px_rd (pv 3)) px_int (nomark _)) pbx_nil)) (px_callT ca_int rfl T.z_int bb_int (pbx_cons (px_cmp (od_lt hr) (px_rd (pv 3)) px_int (nomark _)) pbx_nil)))) (le_of rfl))
 (pssx_cons (psx_if (Γ2 := []) (ptx_cmp (od_eq hr) (px_rd (pv 4)) px_int (nomark _))
 (PSsx.less (Γ2 := []) (pssx_one (PSx.less (Γ2 := []) (psx_set (i := 6) nd rfl (.inl rfl) px_int) (le_of rfl))) (le_of rfl))
 (PSsx.less (Γ2 := []) pssx_nil (le_of rfl)))
 (pssx_cons (psx_if (Γ2 := []) (ptx_cmp (od_ge hr) (px_bin (od_mul hr) (px_rd (pv 5)) (px_rd (pv 6))) px_int (nomark _))
 (pssx_one (psx_ret (px_callB (ca_max2 rfl) rfl T.z_max bb_max (pbx_cons (px_un ud_neg px_int) (pbx_cons (px_callB (ca_min2 rfl) rfl T.z_min bb_min (pbx_cons px_int (pbx_cons (px_bin (od_add hr) (px_rd (pv 5)) (px_rd (pv 6))) pbx_nil))) pbx_nil)))))
 (PSsx.less (Γ2 := []) pssx_nil (le_of rfl)))
 (pssx_cons (PSx.less (Γ2 := []) (psx_set (i := 7) nd rfl (.inl rfl) (px_bin od_sub (px_bin (od_add hr) (px_bin (od_mul hr) (px_rd (pv 0)) (px_rd (pv 0))) (px_bin (od_mul hr) (px_bin (od_mul hr) (px_rd (pv 1)) (px_rd (pv 1))) (px_rd (pv 2)))) (px_bin (od_mul hr) (px_bin (od_mul hr) (px_rd (pv 3)) (px_rd (pv 3))) (px_rd (pv 4))))) (le_of rfl))
 (pssx_one (psx_ret (px_bin (od_mul hr) (px_rd (pv 5)) (PX.rd (px_callF C__law_sign (hr.mono (by decide)) rfl tk (pax_cons (px_fr' (pv 7) rfl) (pax_cons (px_bin (od_mul hr) (px_bin (od_mul hr) px_int (px_rd (pv 0))) (px_rd (pv 1))) (pax_cons (px_fr' (pv 2) rfl) pax_nil)))))))))))))
theorem w__law_order (T : Tx K mg) : FnA P w K mg base 3 "_law_order" ["_law_one", "_law_other"] false m__law_order := by
  have C__law_sign_two := w__law_sign_two (P := P) (w := w) (base := base) T
  have nd : (["_law_one", "_law_other", "_law_p", "_law_q", "_law_r", "_law_s", "_law_a", "_law_b", "_law_t", "_law_d"] : List Str).Nodup := by decide +kernel
  have S : FnScope ["_law_one", "_law_other", "_law_p", "_law_q", "_law_r", "_law_s", "_law_a", "_law_b", "_law_t", "_law_d"] ["_law_one", "_law_other"] (defScope (topS 29)) := ⟨rfl, rfl, rfl, nd, rfl, by decide +kernel, by decide +kernel⟩
  refine fnA_mk (Γ0 := []) (Γl := []) (Γ' := []) T.f__law_order S (by decide) (no_own rfl) (fun _ _ _ _ _ _ us hl => match us, hl with | [_, _], _ => rfl) fun f cdv A outer s H E Hf hr => ?_
  have tk := takes_of (X := cxD P w K mg base ["_law_one", "_law_other", "_law_p", "_law_q", "_law_r", "_law_s", "_law_a", "_law_b", "_law_t", "_law_d"] "_law_order" (topS 29) f cdv A outer s H E) rfl rfl rfl rfl
  have hp := passes_of (X := cxD P w K mg base ["_law_one", "_law_other", "_law_p", "_law_q", "_law_r", "_law_s", "_law_a", "_law_b", "_law_t", "_law_d"] "_law_order" (topS 29) f cdv A outer s H E) rfl
  exact (pssx_cons (PSx.less (Γ2 := []) (psx_asg (px_fr' (pv 0) rfl) (pgx_tup rfl (pgsx_cons (pgx_name (i := 2) nd rfl (.inl rfl)) (pgsx_cons (pgx_name (i := 3) nd rfl (.inl rfl)) (pgsx_cons (pgx_name (i := 4) nd rfl (.inl rfl)) (pgsx_cons (pgx_name (i := 5) nd rfl (.inl rfl)) pgsx_nil))))) (gT_nx (nxs_cons gN_nx (nxs_cons gN_nx (nxs_cons gN_nx (nxs_cons gN_nx nxs_nil)))))) (le_of rfl))
 (pssx_cons (PSx.less (Γ2 := []) (psx_asg (px_fr' (pv 1) rfl) (pgx_tup rfl (pgsx_cons (pgx_name (i := 6) nd rfl (.inl rfl)) (pgsx_cons (pgx_name (i := 7) nd rfl (.inl rfl)) (pgsx_cons (pgx_name (i := 8) nd rfl (.inl rfl)) (pgsx_cons (pgx_name (i := 9) nd rfl (.inl rfl)) pgsx_nil))))) (gT_nx (nxs_cons gN_nx (nxs_cons gN_nx (nxs_cons gN_nx (nxs_cons gN_nx nxs_nil)))))) (le_of rfl))
 (pssx_one (psx_ret (px_callF C__law_sign_two (hr.mono (by decide)) rfl tk (pax_cons (px_bin od_sub (px_bin (od_mul hr) (px_rd (pv 2)) (px_rd (pv 9))) (px_bin (od_mul hr) (px_rd (pv 6)) (px_rd (pv 5)))) (pax_cons (px_bin (od_mul hr) (px_rd (pv 3)) (px_rd (pv 9))) (pax_cons (px_fr' (pv 4) rfl) (pax_cons (px_bin od_sub px_int (px_bin (od_mul hr) (px_rd (pv 7)) (px_rd (pv 5)))) (pax_cons (px_fr' (pv 8) rfl) pax_nil))))))))))
theorem w__law_name (T : Tx K mg) : FnA P w K mg base 1 "_law_name" ["_law_cell_here"] false m__law_name := by
  have nd : (["_law_cell_here", "_law_letters", "_law_name_here", "_law_k"] : List Str).Nodup := by decide +kernel
  have S : FnScope ["_law_cell_here", "_law_letters", "_law_name_here", "_law_k"] ["_law_cell_here"] (defScope (topS 30)) := ⟨rfl, rfl, rfl, nd, rfl, by decide +kernel, by decide +kernel⟩
  refine fnA_mk (Γ0 := []) (Γl := []) (Γ' := []) T.f__law_name S (by decide) (no_own rfl) (fun _ _ _ _ _ _ us hl => match us, hl with | [_], _ => rfl) fun f cdv A outer s H E Hf hr => ?_
  have tk := takes_of (X := cxD P w K mg base ["_law_cell_here", "_law_letters", "_law_name_here", "_law_k"] "_law_name" (topS 30) f cdv A outer s H E) rfl rfl rfl rfl
  have hp := passes_of (X := cxD P w K mg base ["_law_cell_here", "_law_letters", "_law_name_here", "_law_k"] "_law_name" (topS 30) f cdv A outer s H E) rfl
  exact (pssx_cons (PSx.less (Γ2 := []) (psx_set (i := 1) nd rfl (.inl rfl) px_str) (le_of rfl))
 (pssx_cons (PSx.less (Γ2 := []) (psx_set (i := 2) nd rfl (.inl rfl) px_str) (le_of rfl))
 (pssx_cons (PSx.pre (psx_for (Γ := []) (Γ1 := []) hp rfl (pix_range1 rfl T.z_range (pax_cons (px_bin (od_add hr) px_int (px_bin od_mod (px_rd (pv 0)) px_int)) pax_nil)) (fun F1 => (pgx_name (i := 3) nd rfl (.inl rfl))) gN_nx (fun F1 => (PSsx.less (Γ2 := []) (pssx_cons (PSx.less (Γ2 := []) (psx_set (i := 0) nd rfl (.inl rfl) (px_bin od_div (px_rd (pv 0)) px_int)) (le_of rfl))
 (pssx_cons (PSx.less (Γ2 := []) (psx_set (i := 2) nd rfl (.inl rfl) (px_bin (od_add hr) (px_rd (pv 2)) (PX.rd (px_ix hr (px_rd (pv 1)) (px_bin od_mod (px_rd (pv 0)) px_int) (fun _ _ => rfl))))) (le_of rfl))
 (pssx_one (PSx.less (Γ2 := []) (psx_set (i := 0) nd rfl (.inl rfl) (px_bin od_div (px_rd (pv 0)) px_int)) (le_of rfl))))) (le_of rfl)))) (le_of rfl))
 (pssx_cons (psx_if (Γ2 := []) (ptx_cmp (od_in hr) (px_rd (pv 2)) (PX.rd (px_lst (pax_cons px_str (pax_cons px_str (pax_cons px_str (pax_cons px_str (pax_cons px_str (pax_cons px_str (pax_cons px_str pax_nil))))))))) (by rfl))
 (pssx_one (psx_ret (px_bin (od_add hr) (px_rd (pv 2)) px_str)))
 (PSsx.less (Γ2 := []) pssx_nil (le_of rfl)))
 (pssx_one (psx_ret (px_fr' (pv 2) rfl)))))))
theorem w__law_free (T : Tx K mg) : FnA P w K mg base 2 "_law_free" ["_law_number"] false m__law_free := by
  have C__law_signed := w__law_signed (P := P) (w := w) (base := base) T
  have nd : (["_law_number", "_law_size", "_law_found", "_law_k"] : List Str).Nodup := by decide +kernel
  have S : FnScope ["_law_number", "_law_size", "_law_found", "_law_k"] ["_law_number"] (defScope (topS 31)) := ⟨rfl, rfl, rfl, nd, rfl, by decide +kernel, by decide +kernel⟩
  refine fnA_mk (Γ0 := [false, false, false, false]) (Γl := []) (Γ' := []) T.f__law_free S (by decide) (no_own rfl) (fun _ _ _ _ _ _ us hl => match us, hl with | [_], _ => rfl) fun f cdv A outer s H E Hf hr => ?_
  have tk := takes_of (X := cxD P w K mg base ["_law_number", "_law_size", "_law_found", "_law_k"] "_law_free" (topS 31) f cdv A outer s H E) rfl rfl rfl rfl
  have hp := passes_of (X := cxD P w K mg base ["_law_number", "_law_size", "_law_found", "_law_k"] "_law_free" (topS 31) f cdv A outer s H E) rfl
  exact (pssx_cons (PSx.less (Γ2 := [false, false, false, false]) (psx_set (i := 1) nd rfl (.inl rfl) (px_ix hr (PX.rd (px_lst (pax_cons px_int (pax_cons px_int (pax_cons (px_bin od_pow px_int px_int) (pax_cons (px_bin od_pow px_int px_int) (pax_cons (px_bin od_pow px_int px_int) pax_nil))))))) (px_bin od_mod (px_rd (pv 0)) px_int) (fun _ _ => rfl))) (le_of rfl))
 (pssx_cons (PSx.less (Γ2 := [false, false, true, false]) (psx_setO (i := 2) nd rfl (.inl rfl) (px_lst pax_nil) (by decide)) (le_of rfl))
 (pssx_cons (PSx.pre (psx_for (Γ := [false, false, true, false]) (Γ1 := [false, false, true, false]) hp rfl (pix_range1 rfl T.z_range (pax_cons px_int pax_nil)) (fun F1 => (pgx_name (i := 3) nd rfl (.inl rfl))) gN_nx (fun F1 => (PSsx.less (Γ2 := [false, false, true, false]) (pssx_cons (PSx.less (Γ2 := [false, false, true, false]) (psx_set (i := 0) nd rfl (.inl rfl) (px_bin od_mod (px_bin (od_mul hr) (px_rd (pv 0)) px_int) (px_bin (od_add hr) (px_bin od_pow px_int px_int) px_int))) (le_of rfl))
 (pssx_one (psx_append (pv 2) (px_callF C__law_signed (hr.mono (by decide)) rfl tk (pax_cons (px_bin od_div (px_rd (pv 0)) (px_bin od_pow px_int px_int)) (pax_cons (px_fr' (pv 1) rfl) pax_nil))) rfl))) (le_of rfl)))) (le_of rfl))
 (pssx_one (psx_ret (px_callT ca_tuple rfl T.z_tuple bb_tuple (pbx_cons (px_rd (pv 2)) pbx_nil)))))))
theorem w__law_planted (T : Tx K mg) : FnA P w K mg base 2 "_law_planted" ["_law_number", "_law_way"] false m__law_planted := by
  have C__law_signed := w__law_signed (P := P) (w := w) (base := base) T
  have nd : (["_law_number", "_law_way", "_law_size", "_law_p", "_law_s", "_law_u", "_law_t", "_law_sign_here"] : List Str).Nodup := by decide +kernel
  have S : FnScope ["_law_number", "_law_way", "_law_size", "_law_p", "_law_s", "_law_u", "_law_t", "_law_sign_here"] ["_law_number", "_law_way"] (defScope (topS 32)) := ⟨rfl, rfl, rfl, nd, rfl, by decide +kernel, by decide +kernel⟩
  refine fnA_mk (Γ0 := []) (Γl := []) (Γ' := []) T.f__law_planted S (by decide) (no_own rfl) (fun _ _ _ _ _ _ us hl => match us, hl with | [_, _], _ => rfl) fun f cdv A outer s H E Hf hr => ?_
  have tk := takes_of (X := cxD P w K mg base ["_law_number", "_law_way", "_law_size", "_law_p", "_law_s", "_law_u", "_law_t", "_law_sign_here"] "_law_planted" (topS 32) f cdv A outer s H E) rfl rfl rfl rfl
  have hp := passes_of (X := cxD P w K mg base ["_law_number", "_law_way", "_law_size", "_law_p", "_law_s", "_law_u", "_law_t", "_law_sign_here"] "_law_planted" (topS 32) f cdv A outer s H E) rfl
  exact (pssx_cons (PSx.less (Γ2 := []) (psx_set (i := 2) nd rfl (.inl rfl) (px_ix hr (PX.rd (px_lst (pax_cons px_int (pax_cons px_int (pax_cons (px_bin od_pow px_int px_int) (pax_cons (px_bin od_pow px_int px_int) pax_nil)))))) (px_bin od_mod (px_rd (pv 0)) px_int) (fun _ _ => rfl))) (le_of rfl))
 (pssx_cons (PSx.less (Γ2 := []) (psx_set (i := 3) nd rfl (.inl rfl) (px_callF C__law_signed (hr.mono (by decide)) rfl tk (pax_cons (px_bin od_div (px_rd (pv 0)) px_int) (pax_cons (px_fr' (pv 2) rfl) pax_nil)))) (le_of rfl))
 (pssx_cons (PSx.less (Γ2 := []) (psx_set (i := 4) nd rfl (.inl rfl) (px_bin (od_add hr) px_int (px_bin od_mod (px_bin od_div (px_rd (pv 0)) (px_bin od_pow px_int px_int)) (px_rd (pv 2))))) (le_of rfl))
 (pssx_cons (PSx.less (Γ2 := []) (psx_set (i := 5) nd rfl (.inl rfl) (px_callF C__law_signed (hr.mono (by decide)) rfl tk (pax_cons (px_bin od_div (px_rd (pv 0)) (px_bin od_pow px_int px_int)) (pax_cons (px_fr' (pv 2) rfl) pax_nil)))) (le_of rfl))
 (pssx_cons (PSx.less (Γ2 := []) (psx_set (i := 6) nd rfl (.inl rfl) (px_bin (od_add hr) px_int (px_bin od_mod (px_bin od_div (px_rd (pv 0)) (px_bin od_pow px_int px_int)) (px_rd (pv 2))))) (le_of rfl))
 (pssx_cons (PSx.less (Γ2 := []) (psx_set (i := 7) nd rfl (.inl rfl) (px_bin od_sub px_int (px_bin (od_mul hr) px_int (px_bin od_mod (px_bin od_div (px_rd (pv 0)) (px_bin od_pow px_int px_int)) px_int)))) (le_of rfl))
 (pssx_cons (psx_if (Γ2 := []) (ptx_cmp (od_eq hr) (px_rd (pv 1)) px_int (nomark _))
 (pssx_one (psx_ret (px_tup (pax_cons (px_bin (od_mul hr) (px_bin (od_mul hr) (px_rd (pv 7)) (px_rd (pv 3))) (px_rd (pv 5))) (pax_cons (px_bin od_sub px_int (px_bin (od_mul hr) (px_rd (pv 7)) (px_bin (od_add hr) (px_bin (od_mul hr) (px_rd (pv 3)) (px_rd (pv 6))) (px_bin (od_mul hr) (px_rd (pv 5)) (px_rd (pv 4)))))) (pax_cons (px_bin (od_mul hr) (px_bin (od_mul hr) (px_rd (pv 7)) (px_rd (pv 4))) (px_rd (pv 6))) pax_nil))))))
 (PSsx.less (Γ2 := []) pssx_nil (le_of rfl)))
 (pssx_cons (psx_if (Γ2 := []) (ptx_cmp (od_eq hr) (px_rd (pv 1)) px_int (nomark _))
 (pssx_one (psx_ret (px_tup (pax_cons (px_bin (od_mul hr) (px_rd (pv 7)) (px_bin od_sub (px_bin (od_mul hr) (px_rd (pv 3)) (px_rd (pv 3))) (px_rd (pv 5)))) (pax_cons (px_bin od_sub px_int (px_bin (od_mul hr) (px_bin (od_mul hr) (px_bin (od_mul hr) px_int (px_rd (pv 7))) (px_rd (pv 3))) (px_rd (pv 4)))) (pax_cons (px_bin (od_mul hr) (px_bin (od_mul hr) (px_rd (pv 7)) (px_rd (pv 4))) (px_rd (pv 4))) pax_nil))))))
 (PSsx.less (Γ2 := []) pssx_nil (le_of rfl)))
 (pssx_one (psx_ret (px_ix hr (PX.rd (px_lst (pax_cons (px_tup (pax_cons (px_bin (od_mul hr) (px_rd (pv 7)) (px_rd (pv 3))) (pax_cons (px_bin (od_mul hr) (px_rd (pv 7)) (px_rd (pv 4))) (pax_cons px_int pax_nil)))) (pax_cons (px_tup (pax_cons (px_bin (od_mul hr) (px_rd (pv 7)) (px_rd (pv 3))) (pax_cons px_int (pax_cons px_int pax_nil)))) (pax_cons (px_tup (pax_cons px_int (pax_cons px_int (pax_cons px_int pax_nil)))) pax_nil))))) (px_bin od_mod (px_bin od_div (px_rd (pv 0)) (px_bin od_pow px_int px_int)) px_int) (fun _ _ => rfl))))))))))))
theorem w__law_triple (T : Tx K mg) : FnA P w K mg base 3 "_law_triple" ["_law_number", "_law_last"] false m__law_triple := by
  have C__law_planted := w__law_planted (P := P) (w := w) (base := base) T
  have C__law_free := w__law_free (P := P) (w := w) (base := base) T
  have nd : (["_law_number", "_law_last", "_law_way", "_law_c", "_law_b", "_law_a", "_law_factor"] : List Str).Nodup := by decide +kernel
  have S : FnScope ["_law_number", "_law_last", "_law_way", "_law_c", "_law_b", "_law_a", "_law_factor"] ["_law_number", "_law_last"] (defScope (topS 33)) := ⟨rfl, rfl, rfl, nd, rfl, by decide +kernel, by decide +kernel⟩
  refine fnA_mk (Γ0 := []) (Γl := []) (Γ' := []) T.f__law_triple S (by decide) (no_own rfl) (fun _ _ _ _ _ _ us hl => match us, hl with | [_, _], _ => rfl) fun f cdv A outer s H E Hf hr => ?_
  have tk := takes_of (X := cxD P w K mg base ["_law_number", "_law_last", "_law_way", "_law_c", "_law_b", "_law_a", "_law_factor"] "_law_triple" (topS 33) f cdv A outer s H E) rfl rfl rfl rfl
  have hp := passes_of (X := cxD P w K mg base ["_law_number", "_law_last", "_law_way", "_law_c", "_law_b", "_law_a", "_law_factor"] "_law_triple" (topS 33) f cdv A outer s H E) rfl
  exact (pssx_cons (PSx.less (Γ2 := []) (psx_set (i := 2) nd rfl (.inl rfl) (px_bin od_mod (px_rd (pv 0)) px_int)) (le_of rfl))
 (pssx_cons (PSx.less (Γ2 := []) (psx_set (i := 0) nd rfl (.inl rfl) (px_bin od_div (px_rd (pv 0)) px_int)) (le_of rfl))
 (pssx_cons (psx_if (Γ2 := []) (ptx_cmp (od_lt hr) (px_rd (pv 2)) px_int (nomark _))
 (pssx_one (psx_ret (px_callF C__law_planted (hr.mono (by decide)) rfl tk (pax_cons (px_fr' (pv 0) rfl) (pax_cons (px_fr' (pv 2) rfl) pax_nil)))))
 (PSsx.less (Γ2 := []) pssx_nil (le_of rfl)))
 (pssx_cons (PSx.less (Γ2 := []) (psx_asg (px_fr' (pv 1) rfl) (pgx_tup rfl (pgsx_cons (pgx_name (i := 3) nd rfl (.inl rfl)) (pgsx_cons (pgx_name (i := 4) nd rfl (.inl rfl)) (pgsx_cons (pgx_name (i := 5) nd rfl (.inl rfl)) pgsx_nil)))) (gT_nx (nxs_cons gN_nx (nxs_cons gN_nx (nxs_cons gN_nx nxs_nil))))) (le_of rfl))
 (pssx_cons (psx_if (Γ2 := []) (ptx_cmp (od_eq hr) (px_rd (pv 2)) px_int (nomark _))
 (pssx_one (psx_ret (px_tup (pax_cons (px_bin od_sub (px_bin (od_add hr) (px_rd (pv 3)) px_int) (px_bin od_mod (px_rd (pv 0)) px_int)) (pax_cons (px_fr' (pv 4) rfl) (pax_cons (px_fr' (pv 5) rfl) pax_nil))))))
 (PSsx.less (Γ2 := []) pssx_nil (le_of rfl)))
 (pssx_cons (psx_if (Γ2 := []) (ptx_cmp (od_eq hr) (px_rd (pv 2)) px_int (nomark _))
 (pssx_cons (PSx.less (Γ2 := []) (psx_set (i := 6) nd rfl (.inl rfl) (px_ix hr (PX.rd (px_lst (pax_cons px_int (pax_cons (px_un ud_neg px_int) (pax_cons (px_un ud_neg px_int) (pax_cons px_int pax_nil)))))) (px_bin od_mod (px_rd (pv 0)) px_int) (fun _ _ => rfl))) (le_of rfl))
 (pssx_one (psx_ret (px_tup (pax_cons (px_bin (od_mul hr) (px_rd (pv 3)) (px_rd (pv 6))) (pax_cons (px_bin (od_mul hr) (px_rd (pv 4)) (px_rd (pv 6))) (pax_cons (px_bin (od_mul hr) (px_rd (pv 5)) (px_rd (pv 6))) pax_nil)))))))
 (PSsx.less (Γ2 := []) pssx_nil (le_of rfl)))
 (pssx_one (psx_ret (px_callF C__law_free (hr.mono (by decide)) rfl tk (pax_cons (px_fr' (pv 0) rfl) pax_nil))))))))))
theorem w__law_by_digits (T : Tx K mg) : FnA P w K mg base 1 "_law_by_digits" ["_law_script"] false m__law_by_digits := by
  have nd : (["_law_script"] : List Str).Nodup := by decide +kernel
  have S : FnScope ["_law_script"] ["_law_script"] (defScope (topS 34)) := ⟨rfl, rfl, rfl, nd, rfl, by decide +kernel, by decide +kernel⟩
  refine fnA_mk (Γ0 := []) (Γl := []) (Γ' := []) T.f__law_by_digits S (by decide) (no_own rfl) (fun _ _ _ _ _ _ us hl => match us, hl with | [_], _ => rfl) fun f cdv A outer s H E Hf hr => ?_
  have tk := takes_of (X := cxD P w K mg base ["_law_script"] "_law_by_digits" (topS 34) f cdv A outer s H E) rfl rfl rfl rfl
  have hp := passes_of (X := cxD P w K mg base ["_law_script"] "_law_by_digits" (topS 34) f cdv A outer s H E) rfl
  exact (pssx_one (psx_ret (px_and (px_cmp (od_gt hr) (px_callB ca_len rfl T.z_len bb_len (pbx_cons (px_rd (pv 0)) pbx_nil)) px_int (nomark _)) (px_one (px_cmp (od_eq hr) (px_bin od_mod (px_bin od_div (PX.rd (px_ix hr (px_rd (pv 0)) px_int (fun _ _ => rfl))) px_int) px_int) px_int (nomark _))))))
theorem w__law_digits (T : Tx K mg) : FnA P w K mg base 2 "_law_digits" ["_law_cell_here"] false m__law_digits := by
  have C__law_signed := w__law_signed (P := P) (w := w) (base := base) T
  have nd : (["_law_cell_here", "_law_size", "_law_found", "_law_k"] : List Str).Nodup := by decide +kernel
  have S : FnScope ["_law_cell_here", "_law_size", "_law_found", "_law_k"] ["_law_cell_here"] (defScope (topS 35)) := ⟨rfl, rfl, rfl, nd, rfl, by decide +kernel, by decide +kernel⟩
  refine fnA_mk (Γ0 := [false, false, false, false]) (Γl := []) (Γ' := []) T.f__law_digits S (by decide) (no_own rfl) (fun _ _ _ _ _ _ us hl => match us, hl with | [_], _ => rfl) fun f cdv A outer s H E Hf hr => ?_
  have tk := takes_of (X := cxD P w K mg base ["_law_cell_here", "_law_size", "_law_found", "_law_k"] "_law_digits" (topS 35) f cdv A outer s H E) rfl rfl rfl rfl
  have hp := passes_of (X := cxD P w K mg base ["_law_cell_here", "_law_size", "_law_found", "_law_k"] "_law_digits" (topS 35) f cdv A outer s H E) rfl
  exact (pssx_cons (PSx.less (Γ2 := [false, false, false, false]) (psx_set (i := 1) nd rfl (.inl rfl) (px_ix hr (PX.rd (px_lst (pax_cons px_int (pax_cons px_int (pax_cons (px_bin od_pow px_int px_int) (pax_cons (px_bin od_pow px_int px_int) pax_nil)))))) (px_bin od_mod (px_rd (pv 0)) px_int) (fun _ _ => rfl))) (le_of rfl))
 (pssx_cons (PSx.less (Γ2 := [false, false, false, false]) (psx_set (i := 0) nd rfl (.inl rfl) (px_bin od_div (px_rd (pv 0)) px_int)) (le_of rfl))
 (pssx_cons (PSx.less (Γ2 := [false, false, true, false]) (psx_setO (i := 2) nd rfl (.inl rfl) (px_lst pax_nil) (by decide)) (le_of rfl))
 (pssx_cons (PSx.pre (psx_for (Γ := [false, false, true, false]) (Γ1 := [false, false, true, false]) hp rfl (pix_range1 rfl T.z_range (pax_cons px_int pax_nil)) (fun F1 => (pgx_name (i := 3) nd rfl (.inl rfl))) gN_nx (fun F1 => (PSsx.less (Γ2 := [false, false, true, false]) (pssx_cons (psx_append (pv 2) (px_callF C__law_signed (hr.mono (by decide)) rfl tk (pax_cons (px_fr' (pv 0) rfl) (pax_cons (px_fr' (pv 1) rfl) pax_nil))) rfl)
 (pssx_one (PSx.less (Γ2 := [false, false, true, false]) (psx_set (i := 0) nd rfl (.inl rfl) (px_bin od_div (px_rd (pv 0)) (px_bin (od_add hr) (px_bin (od_mul hr) px_int (px_rd (pv 1))) px_int))) (le_of rfl)))) (le_of rfl)))) (le_of rfl))
 (pssx_one (psx_ret (px_callT ca_tuple rfl T.z_tuple bb_tuple (pbx_cons (px_rd (pv 2)) pbx_nil))))))))
theorem w__law_triples (T : Tx K mg) : FnA P w K mg base 4 "_law_triples" ["_law_script", "_law_start", "_law_end"] true m__law_triples := by
  have C__law_cell := w__law_cell (P := P) (w := w) (base := base) T
  have C__law_triple := w__law_triple (P := P) (w := w) (base := base) T
  have C__law_by_digits := w__law_by_digits (P := P) (w := w) (base := base) T
  have C__law_digits := w__law_digits (P := P) (w := w) (base := base) T
  have nd : (["_law_script", "_law_start", "_law_end", "_law_found", "_law_last", "_law_k"] : List Str).Nodup := by decide +kernel
  have S : FnScope ["_law_script", "_law_start", "_law_end", "_law_found", "_law_last", "_law_k"] ["_law_script", "_law_start", "_law_end"] (defScope (topS 36)) := ⟨rfl, rfl, rfl, nd, rfl, by decide +kernel, by decide +kernel⟩
  refine fnA_mk (Γ0 := [false, false, false, false, false, false]) (Γl := []) (Γ' := []) T.f__law_triples S (by decide) (no_own rfl) (fun _ _ _ _ _ _ us hl => match us, hl with | [_, _, _], _ => rfl) fun f cdv A outer s H E Hf hr => ?_
  have tk := takes_of (X := cxD P w K mg base ["_law_script", "_law_start", "_law_end", "_law_found", "_law_last", "_law_k"] "_law_triples" (topS 36) f cdv A outer s H E) rfl rfl rfl rfl
  have hp := passes_of (X := cxD P w K mg base ["_law_script", "_law_start", "_law_end", "_law_found", "_law_last", "_law_k"] "_law_triples" (topS 36) f cdv A outer s H E) rfl
  exact (pssx_cons (PSx.less (Γ2 := [false, false, false, true, false, false]) (psx_setO (i := 3) nd rfl (.inl rfl) (px_lst pax_nil) (by decide)) (le_of rfl))
 (pssx_cons (PSx.less (Γ2 := [false, false, false, true, false, false]) (psx_set (i := 4) nd rfl (.inl rfl) (px_tup (pax_cons px_int (pax_cons px_int (pax_cons px_int pax_nil))))) (le_of rfl))
 (pssx_cons (PSx.pre (psx_for (Γ := [false, false, false, true, false, false]) (Γ1 := [false, false, false, true, false, false]) hp rfl (pix_range2 rfl T.z_range (pax_cons (px_fr' (pv 1) rfl) (pax_cons (px_callB (ca_min2 rfl) rfl T.z_min bb_min (pbx_cons (px_rd (pv 2)) (pbx_cons (px_callB ca_len rfl T.z_len bb_len (pbx_cons (px_rd (pv 0)) pbx_nil)) pbx_nil))) pax_nil))) (fun F1 => (pgx_name (i := 5) nd rfl (.inl rfl))) gN_nx (fun F1 => (PSsx.less (Γ2 := [false, false, false, true, false, false]) (pssx_cons (PSx.less (Γ2 := [false, false, false, true, false, false]) (psx_set (i := 4) nd rfl (.inl rfl) (px_callF C__law_triple (hr.mono (by decide)) rfl tk (pax_cons (px_callF C__law_cell (hr.mono (by decide)) rfl tk (pax_cons (px_fr' (pv 0) rfl) (pax_cons (px_fr' (pv 5) rfl) pax_nil))) (pax_cons (px_fr' (pv 4) rfl) pax_nil)))) (le_of rfl))
 (pssx_cons (psx_if (Γ2 := [false, false, false, true, false, false]) (ptx_val (PX.rd (px_callF C__law_by_digits (hr.mono (by decide)) rfl tk (pax_cons (px_fr' (pv 0) rfl) pax_nil))))
 (PSsx.less (Γ2 := [false, false, false, true, false, false]) (pssx_one (PSx.less (Γ2 := [false, false, false, true, false, false]) (psx_set (i := 4) nd rfl (.inl rfl) (px_callF C__law_digits (hr.mono (by decide)) rfl tk (pax_cons (px_ix hr (px_rd (pv 0)) (px_rd (pv 5)) (fun _ _ => rfl)) pax_nil))) (le_of rfl))) (le_of rfl))
 (PSsx.less (Γ2 := [false, false, false, true, false, false]) pssx_nil (le_of rfl)))
 (pssx_one (psx_append (pv 3) (px_fr' (pv 4) rfl) rfl)))) (le_of rfl)))) (le_of rfl))
 (pssx_one (psx_retV (pv 3) rfl)))))
theorem w__law_form (T : Tx K mg) : FnA P w K mg base 1 "_law_form" ["_law_triple_here", "_law_name_here"] false m__law_form_v4 := by
  have nd : (["_law_triple_here", "_law_name_here", "_law_c", "_law_b", "_law_a", "_law_pairs", "_law_product", "_law_number"] : List Str).Nodup := by decide +kernel
  have S : FnScope ["_law_triple_here", "_law_name_here", "_law_c", "_law_b", "_law_a", "_law_pairs", "_law_product", "_law_number"] ["_law_triple_here", "_law_name_here"] (defScope (topS 37)) := ⟨rfl, rfl, rfl, nd, rfl, by decide +kernel, by decide +kernel⟩
  refine fnA_mk (Γ0 := []) (Γl := []) (Γ' := []) T.f__law_form S (by decide) (no_own rfl) (fun _ _ _ _ _ _ us hl => match us, hl with | [_, _], _ => rfl) fun f cdv A outer s H E Hf hr => ?_
  have tk := takes_of (X := cxD P w K mg base ["_law_triple_here", "_law_name_here", "_law_c", "_law_b", "_law_a", "_law_pairs", "_law_product", "_law_number"] "_law_form" (topS 37) f cdv A outer s H E) rfl rfl rfl rfl
  have hp := passes_of (X := cxD P w K mg base ["_law_triple_here", "_law_name_here", "_law_c", "_law_b", "_law_a", "_law_pairs", "_law_product", "_law_number"] "_law_form" (topS 37) f cdv A outer s H E) rfl
  exact (pssx_cons (PSx.less (Γ2 := []) (psx_asg (px_fr' (pv 0) rfl) (pgx_tup rfl (pgsx_cons (pgx_name (i := 2) nd rfl (.inl rfl)) (pgsx_cons (pgx_name (i := 3) nd rfl (.inl rfl)) (pgsx_cons (pgx_name (i := 4) nd rfl (.inl rfl)) pgsx_nil)))) (gT_nx (nxs_cons gN_nx (nxs_cons gN_nx (nxs_cons gN_nx nxs_nil))))) (le_of rfl))
 (pssx_cons (PSx.less (Γ2 := []) (psx_set (i := 5) nd rfl (.inl rfl) (PX.fr (px_lst (pax_cons (px_tup (pax_cons (px_tup pax_nil) (pax_cons (px_fr' (pv 2) rfl) pax_nil))) (pax_cons (px_tup (pax_cons (px_tup (pax_cons (px_tup (pax_cons (px_fr' (pv 1) rfl) (pax_cons px_int pax_nil))) pax_nil)) (pax_cons (px_fr' (pv 3) rfl) pax_nil))) (pax_cons (px_tup (pax_cons (px_tup (pax_cons (px_tup (pax_cons (px_fr' (pv 1) rfl) (pax_cons px_int pax_nil))) pax_nil)) (pax_cons (px_fr' (pv 4) rfl) pax_nil))) pax_nil)))))) (le_of rfl))
 (pssx_one (psx_ret (px_callT ca_tuple rfl T.z_tuple bb_tuple (pbx_cons (PX.rd (px_lc (own := [("_law_product", 6), ("_law_number", 7)]) (Γ2 := []) rfl nd (pix_seq (px_fr' (pv 5) rfl)) (le_of rfl) (by decide) (blkOk_by (N := ["_law_triple_here", "_law_name_here", "_law_c", "_law_b", "_law_a", "_law_pairs", "_law_product", "_law_number"]) (sc := defScope (topS 37)) (own := [("_law_product", 6), ("_law_number", 7)]) (by decide +kernel)) (fun _ _ _ _ _ _ => (pgx_tup rfl (pgsx_cons (pgx_name (i := 6) nd rfl (.inl rfl)) (pgsx_cons (pgx_name (i := 7) nd rfl (.inl rfl)) pgsx_nil)))) (by decide) (fun _ _ _ _ _ _ => (ptsx_one (ptx_cmp (od_ne hr) (px_rd (pv 7)) px_int (nomark _)))) (fun _ _ _ _ _ _ => (px_tup (pax_cons (px_fr' (pv 6) rfl) (pax_cons (px_fr' (pv 7) rfl) pax_nil)))))) pbx_nil))))))
theorem w__law_at (T : Tx K mg) : FnA P w K mg base 2 "_law_at" ["_law_triple_here", "_law_number"] false m__law_at := by
  have C__law_sign := w__law_sign (P := P) (w := w) (base := base) T
  have nd : (["_law_triple_here", "_law_number", "_law_c", "_law_b", "_law_a", "_law_p", "_law_q", "_law_r", "_law_s", "_law_u"] : List Str).Nodup := by decide +kernel
  have S : FnScope ["_law_triple_here", "_law_number", "_law_c", "_law_b", "_law_a", "_law_p", "_law_q", "_law_r", "_law_s", "_law_u"] ["_law_triple_here", "_law_number"] (defScope (topS 38)) := ⟨rfl, rfl, rfl, nd, rfl, by decide +kernel, by decide +kernel⟩
  refine fnA_mk (Γ0 := []) (Γl := []) (Γ' := []) T.f__law_at S (by decide) (no_own rfl) (fun _ _ _ _ _ _ us hl => match us, hl with | [_, _], _ => rfl) fun f cdv A outer s H E Hf hr => ?_
  have tk := takes_of (X := cxD P w K mg base ["_law_triple_here", "_law_number", "_law_c", "_law_b", "_law_a", "_law_p", "_law_q", "_law_r", "_law_s", "_law_u"] "_law_at" (topS 38) f cdv A outer s H E) rfl rfl rfl rfl
  have hp := passes_of (X := cxD P w K mg base ["_law_triple_here", "_law_number", "_law_c", "_law_b", "_law_a", "_law_p", "_law_q", "_law_r", "_law_s", "_law_u"] "_law_at" (topS 38) f cdv A outer s H E) rfl
  exact (pssx_cons (PSx.less (Γ2 := []) (psx_asg (px_fr' (pv 0) rfl) (pgx_tup rfl (pgsx_cons (pgx_name (i := 2) nd rfl (.inl rfl)) (pgsx_cons (pgx_name (i := 3) nd rfl (.inl rfl)) (pgsx_cons (pgx_name (i := 4) nd rfl (.inl rfl)) pgsx_nil)))) (gT_nx (nxs_cons gN_nx (nxs_cons gN_nx (nxs_cons gN_nx nxs_nil))))) (le_of rfl))
 (pssx_cons (PSx.less (Γ2 := []) (psx_asg (px_fr' (pv 1) rfl) (pgx_tup rfl (pgsx_cons (pgx_name (i := 5) nd rfl (.inl rfl)) (pgsx_cons (pgx_name (i := 6) nd rfl (.inl rfl)) (pgsx_cons (pgx_name (i := 7) nd rfl (.inl rfl)) (pgsx_cons (pgx_name (i := 8) nd rfl (.inl rfl)) pgsx_nil))))) (gT_nx (nxs_cons gN_nx (nxs_cons gN_nx (nxs_cons gN_nx (nxs_cons gN_nx nxs_nil)))))) (le_of rfl))
 (pssx_cons (PSx.less (Γ2 := []) (psx_set (i := 9) nd rfl (.inl rfl) (px_bin (od_add hr) (px_bin (od_add hr) (px_bin (od_mul hr) (px_rd (pv 4)) (px_bin (od_add hr) (px_bin (od_mul hr) (px_rd (pv 5)) (px_rd (pv 5))) (px_bin (od_mul hr) (px_bin (od_mul hr) (px_rd (pv 6)) (px_rd (pv 6))) (px_rd (pv 7))))) (px_bin (od_mul hr) (px_bin (od_mul hr) (px_rd (pv 3)) (px_rd (pv 5))) (px_rd (pv 8)))) (px_bin (od_mul hr) (px_bin (od_mul hr) (px_rd (pv 2)) (px_rd (pv 8))) (px_rd (pv 8))))) (le_of rfl))
 (pssx_one (psx_ret (px_callF C__law_sign (hr.mono (by decide)) rfl tk (pax_cons (px_fr' (pv 9) rfl) (pax_cons (px_bin (od_add hr) (px_bin (od_mul hr) (px_bin (od_mul hr) (px_bin (od_mul hr) px_int (px_rd (pv 4))) (px_rd (pv 5))) (px_rd (pv 6))) (px_bin (od_mul hr) (px_bin (od_mul hr) (px_rd (pv 3)) (px_rd (pv 6))) (px_rd (pv 8)))) (pax_cons (px_fr' (pv 7) rfl) pax_nil)))))))))
theorem w__law_is_number (T : Tx K mg) : FnA P w K mg base 1 "_law_is_number" ["_law_found"] false m__law_is_number := by
  have nd : (["_law_found", "_law_part"] : List Str).Nodup := by decide +kernel
  have S : FnScope ["_law_found", "_law_part"] ["_law_found"] (defScope (topS 39)) := ⟨rfl, rfl, rfl, nd, rfl, by decide +kernel, by decide +kernel⟩
  refine fnA_mk (Γ0 := []) (Γl := []) (Γ' := []) T.f__law_is_number S (by decide) (no_own rfl) (fun _ _ _ _ _ _ us hl => match us, hl with | [_], _ => rfl) fun f cdv A outer s H E Hf hr => ?_
  have tk := takes_of (X := cxD P w K mg base ["_law_found", "_law_part"] "_law_is_number" (topS 39) f cdv A outer s H E) rfl rfl rfl rfl
  have hp := passes_of (X := cxD P w K mg base ["_law_found", "_law_part"] "_law_is_number" (topS 39) f cdv A outer s H E) rfl
  exact (pssx_cons (psx_if (Γ2 := []) (PWx.pt (pwx_or (ptx_not (ptx_val (px_callB ca_isi rfl T.z_isinstance bb_isinstance (pbx_cons (px_rd (pv 0)) (pbx_cons (px_type rfl T.z_tuple bb_tuple) pbx_nil))))) (pwx_or1 (ptx_cmp (od_ne hr) (px_callB ca_len rfl T.z_len bb_len (pbx_cons (px_rd (pv 0)) pbx_nil)) px_int (nomark _)))))
 (pssx_one (psx_ret px_bl))
 (PSsx.less (Γ2 := []) pssx_nil (le_of rfl)))
 (pssx_cons (PSx.pre (psx_for (Γ := []) (Γ1 := []) hp rfl (pix_seq (px_fr' (pv 0) rfl)) (fun F1 => (pgx_name (i := 1) nd rfl (.inl rfl))) gN_nx (fun F1 => (PSsx.less (Γ2 := []) (pssx_one (psx_if (Γ2 := []) (PWx.pt (pwx_or (ptx_not (ptx_val (px_callB ca_isi rfl T.z_isinstance bb_isinstance (pbx_cons (px_rd (pv 1)) (pbx_cons (px_type rfl T.z_int bb_int) pbx_nil))))) (pwx_or1 (ptx_val (px_callB ca_isi rfl T.z_isinstance bb_isinstance (pbx_cons (px_rd (pv 1)) (pbx_cons (px_type rfl T.z_bool bb_bool) pbx_nil)))))))
 (pssx_one (psx_ret px_bl))
 (PSsx.less (Γ2 := []) pssx_nil (le_of rfl)))) (le_of rfl)))) (le_of rfl))
 (pssx_one (psx_ret (px_and (px_cmp (od_ge hr) (PX.rd (px_ix hr (px_rd (pv 0)) px_int (fun _ _ => rfl))) px_int (nomark _)) (px_one (px_cmp (od_ge hr) (PX.rd (px_ix hr (px_rd (pv 0)) px_int (fun _ _ => rfl))) px_int (nomark _))))))))
theorem w__law_many (T : Tx K mg) : FnA P w K mg base 1 "_law_many" ["_law_triple_here"] false m__law_many := by
  have nd : (["_law_triple_here", "_law_c", "_law_b", "_law_a", "_law_under"] : List Str).Nodup := by decide +kernel
  have S : FnScope ["_law_triple_here", "_law_c", "_law_b", "_law_a", "_law_under"] ["_law_triple_here"] (defScope (topS 40)) := ⟨rfl, rfl, rfl, nd, rfl, by decide +kernel, by decide +kernel⟩
  refine fnA_mk (Γ0 := []) (Γl := []) (Γ' := []) T.f__law_many S (by decide) (no_own rfl) (fun _ _ _ _ _ _ us hl => match us, hl with | [_], _ => rfl) fun f cdv A outer s H E Hf hr => ?_
  have tk := takes_of (X := cxD P w K mg base ["_law_triple_here", "_law_c", "_law_b", "_law_a", "_law_under"] "_law_many" (topS 40) f cdv A outer s H E) rfl rfl rfl rfl
  have hp := passes_of (X := cxD P w K mg base ["_law_triple_here", "_law_c", "_law_b", "_law_a", "_law_under"] "_law_many" (topS 40) f cdv A outer s H E) rfl
  exact (pssx_cons (PSx.less (Γ2 := []) (psx_asg (px_fr' (pv 0) rfl) (pgx_tup rfl (pgsx_cons (pgx_name (i := 1) nd rfl (.inl rfl)) (pgsx_cons (pgx_name (i := 2) nd rfl (.inl rfl)) (pgsx_cons (pgx_name (i := 3) nd rfl (.inl rfl)) pgsx_nil)))) (gT_nx (nxs_cons gN_nx (nxs_cons gN_nx (nxs_cons gN_nx nxs_nil))))) (le_of rfl))
 (pssx_cons (psx_if (Γ2 := []) (ptx_cmp (od_eq hr) (px_rd (pv 3)) px_int (nomark _))
 (pssx_one (psx_ret (px_callT ca_int rfl T.z_int bb_int (pbx_cons (px_cmp (od_ne hr) (px_rd (pv 2)) px_int (nomark _)) pbx_nil))))
 (PSsx.less (Γ2 := []) pssx_nil (le_of rfl)))
 (pssx_cons (PSx.less (Γ2 := []) (psx_set (i := 4) nd rfl (.inl rfl) (px_bin od_sub (px_bin (od_mul hr) (px_rd (pv 2)) (px_rd (pv 2))) (px_bin (od_mul hr) (px_bin (od_mul hr) px_int (px_rd (pv 3))) (px_rd (pv 1))))) (le_of rfl))
 (pssx_one (psx_ret (px_bin (od_add hr) (px_callT ca_int rfl T.z_int bb_int (pbx_cons (px_cmp (od_ge hr) (px_rd (pv 4)) px_int (nomark _)) pbx_nil)) (px_callT ca_int rfl T.z_int bb_int (pbx_cons (px_cmp (od_gt hr) (px_rd (pv 4)) px_int (nomark _)) pbx_nil))))))))
theorem w__law_rising (T : Tx K mg) : FnA P w K mg base 4 "_law_rising" ["_law_some"] false m__law_rising := by
  have C__law_is_number := w__law_is_number (P := P) (w := w) (base := base) T
  have C__law_order := w__law_order (P := P) (w := w) (base := base) T
  have nd : (["_law_some", "_law_k"] : List Str).Nodup := by decide +kernel
  have S : FnScope ["_law_some", "_law_k"] ["_law_some"] (defScope (topS 41)) := ⟨rfl, rfl, rfl, nd, rfl, by decide +kernel, by decide +kernel⟩
  refine fnA_mk (Γ0 := []) (Γl := []) (Γ' := []) T.f__law_rising S (by decide) (no_own rfl) (fun _ _ _ _ _ _ us hl => match us, hl with | [_], _ => rfl) fun f cdv A outer s H E Hf hr => ?_
  have tk := takes_of (X := cxD P w K mg base ["_law_some", "_law_k"] "_law_rising" (topS 41) f cdv A outer s H E) rfl rfl rfl rfl
  have hp := passes_of (X := cxD P w K mg base ["_law_some", "_law_k"] "_law_rising" (topS 41) f cdv A outer s H E) rfl
  exact (pssx_cons (PSx.pre (psx_for (Γ := []) (Γ1 := []) hp rfl (pix_range1 rfl T.z_range (pax_cons (px_callB ca_len rfl T.z_len bb_len (pbx_cons (px_rd (pv 0)) pbx_nil)) pax_nil)) (fun F1 => (pgx_name (i := 1) nd rfl (.inl rfl))) gN_nx (fun F1 => (PSsx.less (Γ2 := []) (pssx_cons (psx_if (Γ2 := []) (ptx_not (ptx_val (PX.rd (px_callF C__law_is_number (hr.mono (by decide)) rfl tk (pax_cons (px_ix hr (px_rd (pv 0)) (px_rd (pv 1)) (fun _ _ => rfl)) pax_nil)))))
 (pssx_one (psx_ret px_bl))
 (PSsx.less (Γ2 := []) pssx_nil (le_of rfl)))
 (pssx_one (psx_if (Γ2 := []) (PWx.pt (pwx_and (ptx_cmp (od_gt hr) (px_rd (pv 1)) px_int (nomark _)) (pwx_and1 (ptx_cmp (od_ge hr) (PX.rd (px_callF C__law_order (hr.mono (by decide)) rfl tk (pax_cons (px_ix hr (px_rd (pv 0)) (px_bin od_sub (px_rd (pv 1)) px_int) (fun _ _ => rfl)) (pax_cons (px_ix hr (px_rd (pv 0)) (px_rd (pv 1)) (fun _ _ => rfl)) pax_nil)))) px_int (nomark _)))))
 (pssx_one (psx_ret px_bl))
 (PSsx.less (Γ2 := []) pssx_nil (le_of rfl))))) (le_of rfl)))) (le_of rfl))
 (pssx_one (psx_ret px_bl)))
theorem w__law_just (T : Tx K mg) : FnA P w K mg base 3 "_law_just" ["_law_some", "_law_triples_here"] false m__law_just := by
  have C__law_at := w__law_at (P := P) (w := w) (base := base) T
  have C__law_many := w__law_many (P := P) (w := w) (base := base) T
  have nd : (["_law_some", "_law_triples_here", "_law_there", "_law_number", "_law_triple_here"] : List Str).Nodup := by decide +kernel
  have S : FnScope ["_law_some", "_law_triples_here", "_law_there", "_law_number", "_law_triple_here"] ["_law_some", "_law_triples_here"] (defScope (topS 42)) := ⟨rfl, rfl, rfl, nd, rfl, by decide +kernel, by decide +kernel⟩
  refine fnA_mk (Γ0 := []) (Γl := []) (Γ' := []) T.f__law_just S (by decide) (no_own rfl) (fun _ _ _ _ _ _ us hl => match us, hl with | [_, _], _ => rfl) fun f cdv A outer s H E Hf hr => ?_
  have tk := takes_of (X := cxD P w K mg base ["_law_some", "_law_triples_here", "_law_there", "_law_number", "_law_triple_here"] "_law_just" (topS 42) f cdv A outer s H E) rfl rfl rfl rfl
  have hp := passes_of (X := cxD P w K mg base ["_law_some", "_law_triples_here", "_law_there", "_law_number", "_law_triple_here"] "_law_just" (topS 42) f cdv A outer s H E) rfl
  exact (pssx_cons (PSx.less (Γ2 := []) (psx_setLc (i := 2) (ow := false) (own := [("_law_triple_here", 4)]) (Γ2 := []) rfl nd rfl rfl (sw_true rfl rfl rfl (by decide +kernel)) (pix_seq (px_fr' (pv 1) rfl)) (le_of rfl) (by decide) (by decide) (blkOk_by (N := ["_law_some", "_law_triples_here", "_law_there", "_law_number", "_law_triple_here"]) (sc := defScope (topS 42)) (own := [("_law_triple_here", 4)]) (by decide +kernel)) (fun _ _ _ _ _ _ => (pgx_name (i := 4) nd rfl (.inl rfl))) (by decide) (fun _ _ _ _ _ _ => (ptsx_one (ptx_cmp (od_ne hr) (px_rd (pv 4)) (px_tup (pax_cons px_int (pax_cons px_int (pax_cons px_int pax_nil)))) (nomark _)))) (fun _ _ _ _ _ _ => (px_fr' (pv 4) rfl))) (le_of rfl))
 (pssx_cons (PSx.pre (psx_for (Γ := []) (Γ1 := []) hp rfl (pix_seq (px_fr' (pv 0) rfl)) (fun F1 => (pgx_name (i := 3) nd rfl (.inr rfl))) gN_nx (fun F1 => (PSsx.less (Γ2 := []) (pssx_one (psx_if (Γ2 := []) (ptx_not (ptx_val (px_callB (ca_any rfl) rfl T.z_any bb_any (pbx_cons (PX.rd (px_lc (own := [("_law_triple_here", 4)]) (Γ2 := []) rfl nd (pix_seq (px_fr' (pv 2) rfl)) (le_of rfl) (by decide) (blkOk_by (N := ["_law_some", "_law_triples_here", "_law_there", "_law_number", "_law_triple_here"]) (sc := defScope (topS 42)) (own := [("_law_triple_here", 4)]) (by decide +kernel)) (fun _ _ _ _ _ _ => (pgx_name (i := 4) nd rfl (.inl rfl))) (by decide) (fun _ _ _ _ _ _ => ptsx_nil) (fun _ _ _ _ _ _ => (px_cmp (od_eq hr) (PX.rd (px_callF C__law_at (hr.mono (by decide)) rfl takes_no (pax_cons (px_fr' (pv 4) rfl) (pax_cons (px_fr' (pv 3) rfl) pax_nil)))) px_int (nomark _))))) pbx_nil))))
 (pssx_one (psx_ret px_bl))
 (PSsx.less (Γ2 := []) pssx_nil (le_of rfl)))) (le_of rfl)))) (le_of rfl))
 (pssx_cons (PSx.pre (psx_for (Γ := []) (Γ1 := []) hp rfl (pix_seq (px_fr' (pv 2) rfl)) (fun F1 => (pgx_name (i := 4) nd rfl (.inr rfl))) gN_nx (fun F1 => (PSsx.less (Γ2 := []) (pssx_one (psx_if (Γ2 := []) (ptx_cmp (od_ne hr) (px_callB ca_len rfl T.z_len bb_len (pbx_cons (PX.rd (px_lc (own := [("_law_number", 3)]) (Γ2 := []) rfl nd (pix_seq (px_fr' (pv 0) rfl)) (le_of rfl) (by decide) (blkOk_by (N := ["_law_some", "_law_triples_here", "_law_there", "_law_number", "_law_triple_here"]) (sc := defScope (topS 42)) (own := [("_law_number", 3)]) (by decide +kernel)) (fun _ _ _ _ _ _ => (pgx_name (i := 3) nd rfl (.inl rfl))) (by decide) (fun _ _ _ _ _ _ => (ptsx_one (ptx_cmp (od_eq hr) (PX.rd (px_callF C__law_at (hr.mono (by decide)) rfl takes_no (pax_cons (px_fr' (pv 4) rfl) (pax_cons (px_fr' (pv 3) rfl) pax_nil)))) px_int (nomark _)))) (fun _ _ _ _ _ _ => (px_fr' (pv 3) rfl)))) pbx_nil)) (PX.rd (px_callF C__law_many (hr.mono (by decide)) rfl tk (pax_cons (px_fr' (pv 4) rfl) pax_nil))) (nomark _))
 (pssx_one (psx_ret px_bl))
 (PSsx.less (Γ2 := []) pssx_nil (le_of rfl)))) (le_of rfl)))) (le_of rfl))
 (pssx_one (psx_ret px_bl)))))
theorem w_law (T : Tx K mg) : FnA P w K mg base 7 "law" ["_law_script"] false m_law_v12 := by
  have C__law_cell := w__law_cell (P := P) (w := w) (base := base) T
  have C__law_name := w__law_name (P := P) (w := w) (base := base) T
  have C__law_triples := w__law_triples (P := P) (w := w) (base := base) T
  have C__law_form := w__law_form (P := P) (w := w) (base := base) T
  have C_line := w_line (P := P) (w := w) (base := base) T
  have C__law_rising := w__law_rising (P := P) (w := w) (base := base) T
  have C__law_just := w__law_just (P := P) (w := w) (base := base) T
  have C_order := w_order (P := P) (w := w) (base := base) T
  have C__law_at := w__law_at (P := P) (w := w) (base := base) T
  have nd : (["_law_script", "_law_name_here", "_law_triples_here", "_law_forms", "_law_handed", "_law_found", "_law_k", "_law_number", "_law_triple_here"] : List Str).Nodup := by decide +kernel
  have S : FnScope ["_law_script", "_law_name_here", "_law_triples_here", "_law_forms", "_law_handed", "_law_found", "_law_k", "_law_number", "_law_triple_here"] ["_law_script"] (defScope (topS 43)) := ⟨rfl, rfl, rfl, nd, rfl, by decide +kernel, by decide +kernel⟩
  refine fnA_mk (Γ0 := []) (Γl := []) (Γ' := []) T.f_law S (by decide) (no_own rfl) (fun _ _ _ _ _ _ us hl => match us, hl with | [_], _ => rfl) fun f cdv A outer s H E Hf hr => ?_
  have tk := takes_of (X := cxD P w K mg base ["_law_script", "_law_name_here", "_law_triples_here", "_law_forms", "_law_handed", "_law_found", "_law_k", "_law_number", "_law_triple_here"] "law" (topS 43) f cdv A outer s H E) rfl rfl rfl rfl
  have hp := passes_of (X := cxD P w K mg base ["_law_script", "_law_name_here", "_law_triples_here", "_law_forms", "_law_handed", "_law_found", "_law_k", "_law_number", "_law_triple_here"] "law" (topS 43) f cdv A outer s H E) rfl
  exact (pssx_cons (PSx.less (Γ2 := []) (psx_set (i := 1) nd rfl (.inr rfl) (px_callF C__law_name (hr.mono (by decide)) rfl tk (pax_cons (px_callF C__law_cell (hr.mono (by decide)) rfl tk (pax_cons (px_fr' (pv 0) rfl) (pax_cons px_int pax_nil))) pax_nil))) (le_of rfl))
 (pssx_cons (PSx.less (Γ2 := []) (psx_set (i := 2) nd rfl (.inl rfl) (PX.fr (px_callO C__law_triples (hr.mono (by decide)) rfl tk (pax_cons (px_fr' (pv 0) rfl) (pax_cons px_int (pax_cons px_int pax_nil)))))) (le_of rfl))
 (pssx_cons (PSx.less (Γ2 := []) (psx_setLc (i := 3) (ow := false) (own := [("_law_triple_here", 8)]) (Γ2 := []) rfl nd rfl rfl (sw_true rfl rfl rfl (by decide +kernel)) (pix_seq (px_fr' (pv 2) rfl)) (le_of rfl) (by decide) (by decide) (blkOk_by (N := ["_law_script", "_law_name_here", "_law_triples_here", "_law_forms", "_law_handed", "_law_found", "_law_k", "_law_number", "_law_triple_here"]) (sc := defScope (topS 43)) (own := [("_law_triple_here", 8)]) (by decide +kernel)) (fun _ _ _ _ _ _ => (pgx_name (i := 8) nd rfl (.inl rfl))) (by decide) (fun _ _ _ _ _ _ => ptsx_nil) (fun _ _ _ _ _ _ => (px_callF C__law_form (hr.mono (by decide)) rfl takes_no (pax_cons (px_fr' (pv 8) rfl) (pax_cons (px_fr' (pv 1) rfl) pax_nil))))) (le_of rfl))
 (pssx_cons (PSx.less (Γ2 := []) (psx_set (i := 4) nd rfl (.inl rfl) (px_callT ca_list rfl T.z_list bb_list (pbx_cons (px_rd (pv 3)) pbx_nil))) (le_of rfl))
 (pssx_cons (PSx.less (Γ2 := []) (psx_set (i := 5) nd rfl (.inl rfl) (px_callF C_line (hr.mono (by decide)) rfl tk (pax_cons (px_fr' (pv 4) rfl) (pax_cons (px_fr' (pv 1) rfl) pax_nil)))) (le_of rfl))
 (pssx_cons (psx_if (Γ2 := []) (PWx.pt (pwx_or (ptx_not (ptx_val (px_callB ca_isi rfl T.z_isinstance bb_isinstance (pbx_cons (px_rd (pv 5)) (pbx_cons (px_type rfl T.z_tuple bb_tuple) pbx_nil))))) (pwx_or (ptx_cmp (od_ne hr) (px_bin od_mod (px_callB ca_len rfl T.z_len bb_len (pbx_cons (px_rd (pv 5)) pbx_nil)) px_int) px_int (nomark _)) (pwx_or1 (ptx_cmp (od_ne hr) (px_rd (pv 4)) (px_rd (pv 3)) (nomark _))))))
 (pssx_one (psx_ret px_bl))
 (PSsx.less (Γ2 := []) pssx_nil (le_of rfl)))
 (pssx_cons (psx_if (Γ2 := []) (PWx.pt (pwx_or (ptx_not (ptx_val (PX.rd (px_callF C__law_rising (hr.mono (by decide)) rfl tk (pax_cons (px_fr' (pv 5) rfl) pax_nil))))) (pwx_or1 (ptx_not (ptx_val (PX.rd (px_callF C__law_just (hr.mono (by decide)) rfl tk (pax_cons (px_sliceS2 (px_rd (pv 5)) (pox_some px_int) pox_none (pox_some px_int) (fun _ _ => rfl)) (pax_cons (px_fr' (pv 2) rfl) pax_nil)))))))))
 (pssx_one (psx_ret px_bl))
 (PSsx.less (Γ2 := []) pssx_nil (le_of rfl)))
 (pssx_cons (PSx.pre (psx_for (Γ := []) (Γ1 := []) hp rfl (pix_range2 rfl T.z_range (pax_cons px_int (pax_cons (px_callB ca_len rfl T.z_len bb_len (pbx_cons (px_rd (pv 5)) pbx_nil)) pax_nil))) (fun F1 => (pgx_name (i := 6) nd rfl (.inl rfl))) gN_nx (fun F1 => (PSsx.less (Γ2 := []) (pssx_one (psx_if (Γ2 := []) (ptx_cmp (od_ne hr) (PX.rd (px_callF C_order (hr.mono (by decide)) rfl tk (pax_cons (px_ix hr (px_rd (pv 5)) (px_bin od_sub (px_rd (pv 6)) px_int) (fun _ _ => rfl)) (pax_cons (px_ix hr (px_rd (pv 5)) (px_rd (pv 6)) (fun _ _ => rfl)) pax_nil)))) (px_un ud_neg px_int) (nomark _))
 (pssx_one (psx_ret px_bl))
 (PSsx.less (Γ2 := []) pssx_nil (le_of rfl)))) (le_of rfl)))) (le_of rfl))
 (pssx_cons (PSx.pre (psx_for (Γ := []) (Γ1 := []) hp rfl (pix_seq (px_sliceS2 (px_rd (pv 5)) pox_none pox_none (pox_some px_int) (fun _ _ => rfl))) (fun F1 => (pgx_name (i := 7) nd rfl (.inr rfl))) gN_nx (fun F1 => (PSsx.less (Γ2 := []) (pssx_cons (psx_if (Γ2 := []) (ptx_cmp (od_ne hr) (PX.rd (px_ix hr (px_rd (pv 7)) px_int (fun _ _ => rfl))) px_int (nomark _))
 (pssx_one (psx_ret px_bl))
 (PSsx.less (Γ2 := []) pssx_nil (le_of rfl)))
 (pssx_one (psx_if (Γ2 := []) (ptx_val (px_callB (ca_any rfl) rfl T.z_any bb_any (pbx_cons (PX.rd (px_lc (own := [("_law_triple_here", 8)]) (Γ2 := []) rfl nd (pix_seq (px_fr' (pv 2) rfl)) (le_of rfl) (by decide) (blkOk_by (N := ["_law_script", "_law_name_here", "_law_triples_here", "_law_forms", "_law_handed", "_law_found", "_law_k", "_law_number", "_law_triple_here"]) (sc := defScope (topS 43)) (own := [("_law_triple_here", 8)]) (by decide +kernel)) (fun _ _ _ _ _ _ => (pgx_name (i := 8) nd rfl (.inl rfl))) (by decide) (fun _ _ _ _ _ _ => (ptsx_one (ptx_cmp (od_ne hr) (px_rd (pv 8)) (px_tup (pax_cons px_int (pax_cons px_int (pax_cons px_int pax_nil)))) (nomark _)))) (fun _ _ _ _ _ _ => (px_cmp (od_eq hr) (PX.rd (px_callF C__law_at (hr.mono (by decide)) rfl takes_no (pax_cons (px_fr' (pv 8) rfl) (pax_cons (px_fr' (pv 7) rfl) pax_nil)))) px_int (nomark _))))) pbx_nil)))
 (pssx_one (psx_ret px_bl))
 (PSsx.less (Γ2 := []) pssx_nil (le_of rfl))))) (le_of rfl)))) (le_of rfl))
 (pssx_one (psx_ret px_bl)))))))))))
end
theorem all_mk {P : Program} {w : World} {K : PySem.W.Frag} {h : Heap} {mg : Str → Option Value} {fa : Addr} (X : K.In h) (G : h.Ns mainGlobals mg) (hfa : mg "law" = some (.ref fa))
    {f0 : Addr} {od0 an0 : Option Addr} {sl0 : Array (Option Value)} {oc0 kV0 dc0 pm0 cd0 ct0 : Value}
    (a0 : PySem.W.nsIn K mainGlobals "form_of" = some (some (.ref f0))) (l0 : K.lookup f0 = some ⟨oc0, od0, .func (PySem.W.fnOf "form_of" "form_of" (defArgs (topS 5)) (defBody (topS 5)) (defScope (topS 5)) .none kV0 dc0 pm0 an0 cd0 ct0), sl0⟩) (c0 : PySem.W.codeIn K cd0 "form_of" = true) (k0 : PySem.W.keepIn K (.ref f0) = true)
    {f1 : Addr} {od1 an1 : Option Addr} {sl1 : Array (Option Value)} {oc1 kV1 dc1 pm1 cd1 ct1 : Value}
    (a1 : PySem.W.nsIn K mainGlobals "names_of" = some (some (.ref f1))) (l1 : K.lookup f1 = some ⟨oc1, od1, .func (PySem.W.fnOf "names_of" "names_of" (defArgs (topS 6)) (defBody (topS 6)) (defScope (topS 6)) .none kV1 dc1 pm1 an1 cd1 ct1), sl1⟩) (c1 : PySem.W.codeIn K cd1 "names_of" = true) (k1 : PySem.W.keepIn K (.ref f1) = true)
    {f2 : Addr} {od2 an2 : Option Addr} {sl2 : Array (Option Value)} {oc2 kV2 dc2 pm2 cd2 ct2 : Value}
    (a2 : PySem.W.nsIn K mainGlobals "power_of" = some (some (.ref f2))) (l2 : K.lookup f2 = some ⟨oc2, od2, .func (PySem.W.fnOf "power_of" "power_of" (defArgs (topS 7)) (defBody (topS 7)) (defScope (topS 7)) .none kV2 dc2 pm2 an2 cd2 ct2), sl2⟩) (c2 : PySem.W.codeIn K cd2 "power_of" = true) (k2 : PySem.W.keepIn K (.ref f2) = true)
    {f3 : Addr} {od3 an3 : Option Addr} {sl3 : Array (Option Value)} {oc3 kV3 dc3 pm3 cd3 ct3 : Value}
    (a3 : PySem.W.nsIn K mainGlobals "by_power" = some (some (.ref f3))) (l3 : K.lookup f3 = some ⟨oc3, od3, .func (PySem.W.fnOf "by_power" "by_power" (defArgs (topS 8)) (defBody (topS 8)) (defScope (topS 8)) .none kV3 dc3 pm3 an3 cd3 ct3), sl3⟩) (c3 : PySem.W.codeIn K cd3 "by_power" = true) (k3 : PySem.W.keepIn K (.ref f3) = true)
    {f4 : Addr} {od4 an4 : Option Addr} {sl4 : Array (Option Value)} {oc4 kV4 dc4 pm4 cd4 ct4 : Value}
    (a4 : PySem.W.nsIn K mainGlobals "sign_of" = some (some (.ref f4))) (l4 : K.lookup f4 = some ⟨oc4, od4, .func (PySem.W.fnOf "sign_of" "sign_of" (defArgs (topS 10)) (defBody (topS 10)) (defScope (topS 10)) .none kV4 dc4 pm4 an4 cd4 ct4), sl4⟩) (c4 : PySem.W.codeIn K cd4 "sign_of" = true) (k4 : PySem.W.keepIn K (.ref f4) = true)
    {f5 : Addr} {od5 an5 : Option Addr} {sl5 : Array (Option Value)} {oc5 kV5 dc5 pm5 cd5 ct5 : Value}
    (a5 : PySem.W.nsIn K mainGlobals "sign_one" = some (some (.ref f5))) (l5 : K.lookup f5 = some ⟨oc5, od5, .func (PySem.W.fnOf "sign_one" "sign_one" (defArgs (topS 11)) (defBody (topS 11)) (defScope (topS 11)) .none kV5 dc5 pm5 an5 cd5 ct5), sl5⟩) (c5 : PySem.W.codeIn K cd5 "sign_one" = true) (k5 : PySem.W.keepIn K (.ref f5) = true)
    {f6 : Addr} {od6 an6 : Option Addr} {sl6 : Array (Option Value)} {oc6 kV6 dc6 pm6 cd6 ct6 : Value}
    (a6 : PySem.W.nsIn K mainGlobals "sign_two" = some (some (.ref f6))) (l6 : K.lookup f6 = some ⟨oc6, od6, .func (PySem.W.fnOf "sign_two" "sign_two" (defArgs (topS 12)) (defBody (topS 12)) (defScope (topS 12)) .none kV6 dc6 pm6 an6 cd6 ct6), sl6⟩) (c6 : PySem.W.codeIn K cd6 "sign_two" = true) (k6 : PySem.W.keepIn K (.ref f6) = true)
    {f7 : Addr} {od7 an7 : Option Addr} {sl7 : Array (Option Value)} {oc7 kV7 dc7 pm7 cd7 ct7 : Value}
    (a7 : PySem.W.nsIn K mainGlobals "order" = some (some (.ref f7))) (l7 : K.lookup f7 = some ⟨oc7, od7, .func (PySem.W.fnOf "order" "order" (defArgs (topS 13)) (defBody (topS 13)) (defScope (topS 13)) .none kV7 dc7 pm7 an7 cd7 ct7), sl7⟩) (c7 : PySem.W.codeIn K cd7 "order" = true) (k7 : PySem.W.keepIn K (.ref f7) = true)
    {f8 : Addr} {od8 an8 : Option Addr} {sl8 : Array (Option Value)} {oc8 kV8 dc8 pm8 cd8 ct8 : Value}
    (a8 : PySem.W.nsIn K mainGlobals "whole_root" = some (some (.ref f8))) (l8 : K.lookup f8 = some ⟨oc8, od8, .func (PySem.W.fnOf "whole_root" "whole_root" (defArgs (topS 14)) (defBody (topS 14)) (defScope (topS 14)) .none kV8 dc8 pm8 an8 cd8 ct8), sl8⟩) (c8 : PySem.W.codeIn K cd8 "whole_root" = true) (k8 : PySem.W.keepIn K (.ref f8) = true)
    {f9 : Addr} {od9 an9 : Option Addr} {sl9 : Array (Option Value)} {oc9 kV9 dc9 pm9 cd9 ct9 : Value}
    (a9 : PySem.W.nsIn K mainGlobals "floor_of" = some (some (.ref f9))) (l9 : K.lookup f9 = some ⟨oc9, od9, .func (PySem.W.fnOf "floor_of" "floor_of" (defArgs (topS 15)) (defBody (topS 15)) (defScope (topS 15)) .none kV9 dc9 pm9 an9 cd9 ct9), sl9⟩) (c9 : PySem.W.codeIn K cd9 "floor_of" = true) (k9 : PySem.W.keepIn K (.ref f9) = true)
    {f10 : Addr} {od10 an10 : Option Addr} {sl10 : Array (Option Value)} {oc10 kV10 dc10 pm10 cd10 ct10 : Value}
    (a10 : PySem.W.nsIn K mainGlobals "let_in" = some (some (.ref f10))) (l10 : K.lookup f10 = some ⟨oc10, od10, .func (PySem.W.fnOf "let_in" "let_in" (defArgs (topS 17)) (defBody (topS 17)) (defScope (topS 17)) .none kV10 dc10 pm10 an10 cd10 ct10), sl10⟩) (c10 : PySem.W.codeIn K cd10 "let_in" = true) (k10 : PySem.W.keepIn K (.ref f10) = true)
    {f11 : Addr} {od11 an11 : Option Addr} {sl11 : Array (Option Value)} {oc11 kV11 dc11 pm11 cd11 ct11 : Value}
    (a11 : PySem.W.nsIn K mainGlobals "numbers_of" = some (some (.ref f11))) (l11 : K.lookup f11 = some ⟨oc11, od11, .func (PySem.W.fnOf "numbers_of" "numbers_of" (defArgs (topS 18)) (defBody (topS 18)) (defScope (topS 18)) .none kV11 dc11 pm11 an11 cd11 ct11), sl11⟩) (c11 : PySem.W.codeIn K cd11 "numbers_of" = true) (k11 : PySem.W.keepIn K (.ref f11) = true)
    {f12 : Addr} {od12 an12 : Option Addr} {sl12 : Array (Option Value)} {oc12 kV12 dc12 pm12 cd12 ct12 : Value}
    (a12 : PySem.W.nsIn K mainGlobals "roots_of" = some (some (.ref f12))) (l12 : K.lookup f12 = some ⟨oc12, od12, .func (PySem.W.fnOf "roots_of" "roots_of" (defArgs (topS 19)) (defBody (topS 19)) (defScope (topS 19)) .none kV12 dc12 pm12 an12 cd12 ct12), sl12⟩) (c12 : PySem.W.codeIn K cd12 "roots_of" = true) (k12 : PySem.W.keepIn K (.ref f12) = true)
    {f13 : Addr} {od13 an13 : Option Addr} {sl13 : Array (Option Value)} {oc13 kV13 dc13 pm13 cd13 ct13 : Value}
    (a13 : PySem.W.nsIn K mainGlobals "borders" = some (some (.ref f13))) (l13 : K.lookup f13 = some ⟨oc13, od13, .func (PySem.W.fnOf "borders" "borders" (defArgs (topS 20)) (defBody (topS 20)) (defScope (topS 20)) .none kV13 dc13 pm13 an13 cd13 ct13), sl13⟩) (c13 : PySem.W.codeIn K cd13 "borders" = true) (k13 : PySem.W.keepIn K (.ref f13) = true)
    {f14 : Addr} {od14 an14 : Option Addr} {sl14 : Array (Option Value)} {oc14 kV14 dc14 pm14 cd14 ct14 : Value}
    (a14 : PySem.W.nsIn K mainGlobals "above" = some (some (.ref f14))) (l14 : K.lookup f14 = some ⟨oc14, od14, .func (PySem.W.fnOf "above" "above" (defArgs (topS 21)) (defBody (topS 21)) (defScope (topS 21)) .none kV14 dc14 pm14 an14 cd14 ct14), sl14⟩) (c14 : PySem.W.codeIn K cd14 "above" = true) (k14 : PySem.W.keepIn K (.ref f14) = true)
    {f15 : Addr} {od15 an15 : Option Addr} {sl15 : Array (Option Value)} {oc15 kV15 dc15 pm15 cd15 ct15 : Value}
    (a15 : PySem.W.nsIn K mainGlobals "between" = some (some (.ref f15))) (l15 : K.lookup f15 = some ⟨oc15, od15, .func (PySem.W.fnOf "between" "between" (defArgs (topS 22)) (defBody (topS 22)) (defScope (topS 22)) .none kV15 dc15 pm15 an15 cd15 ct15), sl15⟩) (c15 : PySem.W.codeIn K cd15 "between" = true) (k15 : PySem.W.keepIn K (.ref f15) = true)
    {f16 : Addr} {od16 an16 : Option Addr} {sl16 : Array (Option Value)} {oc16 kV16 dc16 pm16 cd16 ct16 : Value}
    (a16 : PySem.W.nsIn K mainGlobals "line" = some (some (.ref f16))) (l16 : K.lookup f16 = some ⟨oc16, od16, .func (PySem.W.fnOf "line" "line" (defArgs (topS 23)) (defBody (topS 23)) (defScope (topS 23)) .none kV16 dc16 pm16 an16 cd16 ct16), sl16⟩) (c16 : PySem.W.codeIn K cd16 "line" = true) (k16 : PySem.W.keepIn K (.ref f16) = true)
    {f17 : Addr} {od17 an17 : Option Addr} {sl17 : Array (Option Value)} {oc17 kV17 dc17 pm17 cd17 ct17 : Value}
    (a17 : PySem.W.nsIn K mainGlobals "_law_cell" = some (some (.ref f17))) (l17 : K.lookup f17 = some ⟨oc17, od17, .func (PySem.W.fnOf "_law_cell" "_law_cell" (defArgs (topS 25)) (defBody (topS 25)) (defScope (topS 25)) .none kV17 dc17 pm17 an17 cd17 ct17), sl17⟩) (c17 : PySem.W.codeIn K cd17 "_law_cell" = true) (k17 : PySem.W.keepIn K (.ref f17) = true)
    {f18 : Addr} {od18 an18 : Option Addr} {sl18 : Array (Option Value)} {oc18 kV18 dc18 pm18 cd18 ct18 : Value}
    (a18 : PySem.W.nsIn K mainGlobals "_law_signed" = some (some (.ref f18))) (l18 : K.lookup f18 = some ⟨oc18, od18, .func (PySem.W.fnOf "_law_signed" "_law_signed" (defArgs (topS 26)) (defBody (topS 26)) (defScope (topS 26)) .none kV18 dc18 pm18 an18 cd18 ct18), sl18⟩) (c18 : PySem.W.codeIn K cd18 "_law_signed" = true) (k18 : PySem.W.keepIn K (.ref f18) = true)
    {f19 : Addr} {od19 an19 : Option Addr} {sl19 : Array (Option Value)} {oc19 kV19 dc19 pm19 cd19 ct19 : Value}
    (a19 : PySem.W.nsIn K mainGlobals "_law_sign" = some (some (.ref f19))) (l19 : K.lookup f19 = some ⟨oc19, od19, .func (PySem.W.fnOf "_law_sign" "_law_sign" (defArgs (topS 27)) (defBody (topS 27)) (defScope (topS 27)) .none kV19 dc19 pm19 an19 cd19 ct19), sl19⟩) (c19 : PySem.W.codeIn K cd19 "_law_sign" = true) (k19 : PySem.W.keepIn K (.ref f19) = true)
    {f20 : Addr} {od20 an20 : Option Addr} {sl20 : Array (Option Value)} {oc20 kV20 dc20 pm20 cd20 ct20 : Value}
    (a20 : PySem.W.nsIn K mainGlobals "_law_sign_two" = some (some (.ref f20))) (l20 : K.lookup f20 = some ⟨oc20, od20, .func (PySem.W.fnOf "_law_sign_two" "_law_sign_two" (defArgs (topS 28)) (defBody (topS 28)) (defScope (topS 28)) .none kV20 dc20 pm20 an20 cd20 ct20), sl20⟩) (c20 : PySem.W.codeIn K cd20 "_law_sign_two" = true) (k20 : PySem.W.keepIn K (.ref f20) = true)
    {f21 : Addr} {od21 an21 : Option Addr} {sl21 : Array (Option Value)} {oc21 kV21 dc21 pm21 cd21 ct21 : Value}
    (a21 : PySem.W.nsIn K mainGlobals "_law_order" = some (some (.ref f21))) (l21 : K.lookup f21 = some ⟨oc21, od21, .func (PySem.W.fnOf "_law_order" "_law_order" (defArgs (topS 29)) (defBody (topS 29)) (defScope (topS 29)) .none kV21 dc21 pm21 an21 cd21 ct21), sl21⟩) (c21 : PySem.W.codeIn K cd21 "_law_order" = true) (k21 : PySem.W.keepIn K (.ref f21) = true)
    {f22 : Addr} {od22 an22 : Option Addr} {sl22 : Array (Option Value)} {oc22 kV22 dc22 pm22 cd22 ct22 : Value}
    (a22 : PySem.W.nsIn K mainGlobals "_law_name" = some (some (.ref f22))) (l22 : K.lookup f22 = some ⟨oc22, od22, .func (PySem.W.fnOf "_law_name" "_law_name" (defArgs (topS 30)) (defBody (topS 30)) (defScope (topS 30)) .none kV22 dc22 pm22 an22 cd22 ct22), sl22⟩) (c22 : PySem.W.codeIn K cd22 "_law_name" = true) (k22 : PySem.W.keepIn K (.ref f22) = true)
    {f23 : Addr} {od23 an23 : Option Addr} {sl23 : Array (Option Value)} {oc23 kV23 dc23 pm23 cd23 ct23 : Value}
    (a23 : PySem.W.nsIn K mainGlobals "_law_free" = some (some (.ref f23))) (l23 : K.lookup f23 = some ⟨oc23, od23, .func (PySem.W.fnOf "_law_free" "_law_free" (defArgs (topS 31)) (defBody (topS 31)) (defScope (topS 31)) .none kV23 dc23 pm23 an23 cd23 ct23), sl23⟩) (c23 : PySem.W.codeIn K cd23 "_law_free" = true) (k23 : PySem.W.keepIn K (.ref f23) = true)
    {f24 : Addr} {od24 an24 : Option Addr} {sl24 : Array (Option Value)} {oc24 kV24 dc24 pm24 cd24 ct24 : Value}
    (a24 : PySem.W.nsIn K mainGlobals "_law_planted" = some (some (.ref f24))) (l24 : K.lookup f24 = some ⟨oc24, od24, .func (PySem.W.fnOf "_law_planted" "_law_planted" (defArgs (topS 32)) (defBody (topS 32)) (defScope (topS 32)) .none kV24 dc24 pm24 an24 cd24 ct24), sl24⟩) (c24 : PySem.W.codeIn K cd24 "_law_planted" = true) (k24 : PySem.W.keepIn K (.ref f24) = true)
    {f25 : Addr} {od25 an25 : Option Addr} {sl25 : Array (Option Value)} {oc25 kV25 dc25 pm25 cd25 ct25 : Value}
    (a25 : PySem.W.nsIn K mainGlobals "_law_triple" = some (some (.ref f25))) (l25 : K.lookup f25 = some ⟨oc25, od25, .func (PySem.W.fnOf "_law_triple" "_law_triple" (defArgs (topS 33)) (defBody (topS 33)) (defScope (topS 33)) .none kV25 dc25 pm25 an25 cd25 ct25), sl25⟩) (c25 : PySem.W.codeIn K cd25 "_law_triple" = true) (k25 : PySem.W.keepIn K (.ref f25) = true)
    {f26 : Addr} {od26 an26 : Option Addr} {sl26 : Array (Option Value)} {oc26 kV26 dc26 pm26 cd26 ct26 : Value}
    (a26 : PySem.W.nsIn K mainGlobals "_law_by_digits" = some (some (.ref f26))) (l26 : K.lookup f26 = some ⟨oc26, od26, .func (PySem.W.fnOf "_law_by_digits" "_law_by_digits" (defArgs (topS 34)) (defBody (topS 34)) (defScope (topS 34)) .none kV26 dc26 pm26 an26 cd26 ct26), sl26⟩) (c26 : PySem.W.codeIn K cd26 "_law_by_digits" = true) (k26 : PySem.W.keepIn K (.ref f26) = true)
    {f27 : Addr} {od27 an27 : Option Addr} {sl27 : Array (Option Value)} {oc27 kV27 dc27 pm27 cd27 ct27 : Value}
    (a27 : PySem.W.nsIn K mainGlobals "_law_digits" = some (some (.ref f27))) (l27 : K.lookup f27 = some ⟨oc27, od27, .func (PySem.W.fnOf "_law_digits" "_law_digits" (defArgs (topS 35)) (defBody (topS 35)) (defScope (topS 35)) .none kV27 dc27 pm27 an27 cd27 ct27), sl27⟩) (c27 : PySem.W.codeIn K cd27 "_law_digits" = true) (k27 : PySem.W.keepIn K (.ref f27) = true)
    {f28 : Addr} {od28 an28 : Option Addr} {sl28 : Array (Option Value)} {oc28 kV28 dc28 pm28 cd28 ct28 : Value}
    (a28 : PySem.W.nsIn K mainGlobals "_law_triples" = some (some (.ref f28))) (l28 : K.lookup f28 = some ⟨oc28, od28, .func (PySem.W.fnOf "_law_triples" "_law_triples" (defArgs (topS 36)) (defBody (topS 36)) (defScope (topS 36)) .none kV28 dc28 pm28 an28 cd28 ct28), sl28⟩) (c28 : PySem.W.codeIn K cd28 "_law_triples" = true) (k28 : PySem.W.keepIn K (.ref f28) = true)
    {f29 : Addr} {od29 an29 : Option Addr} {sl29 : Array (Option Value)} {oc29 kV29 dc29 pm29 cd29 ct29 : Value}
    (a29 : PySem.W.nsIn K mainGlobals "_law_form" = some (some (.ref f29))) (l29 : K.lookup f29 = some ⟨oc29, od29, .func (PySem.W.fnOf "_law_form" "_law_form" (defArgs (topS 37)) (defBody (topS 37)) (defScope (topS 37)) .none kV29 dc29 pm29 an29 cd29 ct29), sl29⟩) (c29 : PySem.W.codeIn K cd29 "_law_form" = true) (k29 : PySem.W.keepIn K (.ref f29) = true)
    {f30 : Addr} {od30 an30 : Option Addr} {sl30 : Array (Option Value)} {oc30 kV30 dc30 pm30 cd30 ct30 : Value}
    (a30 : PySem.W.nsIn K mainGlobals "_law_at" = some (some (.ref f30))) (l30 : K.lookup f30 = some ⟨oc30, od30, .func (PySem.W.fnOf "_law_at" "_law_at" (defArgs (topS 38)) (defBody (topS 38)) (defScope (topS 38)) .none kV30 dc30 pm30 an30 cd30 ct30), sl30⟩) (c30 : PySem.W.codeIn K cd30 "_law_at" = true) (k30 : PySem.W.keepIn K (.ref f30) = true)
    {f31 : Addr} {od31 an31 : Option Addr} {sl31 : Array (Option Value)} {oc31 kV31 dc31 pm31 cd31 ct31 : Value}
    (a31 : PySem.W.nsIn K mainGlobals "_law_is_number" = some (some (.ref f31))) (l31 : K.lookup f31 = some ⟨oc31, od31, .func (PySem.W.fnOf "_law_is_number" "_law_is_number" (defArgs (topS 39)) (defBody (topS 39)) (defScope (topS 39)) .none kV31 dc31 pm31 an31 cd31 ct31), sl31⟩) (c31 : PySem.W.codeIn K cd31 "_law_is_number" = true) (k31 : PySem.W.keepIn K (.ref f31) = true)
    {f32 : Addr} {od32 an32 : Option Addr} {sl32 : Array (Option Value)} {oc32 kV32 dc32 pm32 cd32 ct32 : Value}
    (a32 : PySem.W.nsIn K mainGlobals "_law_many" = some (some (.ref f32))) (l32 : K.lookup f32 = some ⟨oc32, od32, .func (PySem.W.fnOf "_law_many" "_law_many" (defArgs (topS 40)) (defBody (topS 40)) (defScope (topS 40)) .none kV32 dc32 pm32 an32 cd32 ct32), sl32⟩) (c32 : PySem.W.codeIn K cd32 "_law_many" = true) (k32 : PySem.W.keepIn K (.ref f32) = true)
    {f33 : Addr} {od33 an33 : Option Addr} {sl33 : Array (Option Value)} {oc33 kV33 dc33 pm33 cd33 ct33 : Value}
    (a33 : PySem.W.nsIn K mainGlobals "_law_rising" = some (some (.ref f33))) (l33 : K.lookup f33 = some ⟨oc33, od33, .func (PySem.W.fnOf "_law_rising" "_law_rising" (defArgs (topS 41)) (defBody (topS 41)) (defScope (topS 41)) .none kV33 dc33 pm33 an33 cd33 ct33), sl33⟩) (c33 : PySem.W.codeIn K cd33 "_law_rising" = true) (k33 : PySem.W.keepIn K (.ref f33) = true)
    {f34 : Addr} {od34 an34 : Option Addr} {sl34 : Array (Option Value)} {oc34 kV34 dc34 pm34 cd34 ct34 : Value}
    (a34 : PySem.W.nsIn K mainGlobals "_law_just" = some (some (.ref f34))) (l34 : K.lookup f34 = some ⟨oc34, od34, .func (PySem.W.fnOf "_law_just" "_law_just" (defArgs (topS 42)) (defBody (topS 42)) (defScope (topS 42)) .none kV34 dc34 pm34 an34 cd34 ct34), sl34⟩) (c34 : PySem.W.codeIn K cd34 "_law_just" = true) (k34 : PySem.W.keepIn K (.ref f34) = true)
    {f35 : Addr} {od35 an35 : Option Addr} {sl35 : Array (Option Value)} {oc35 kV35 dc35 pm35 cd35 ct35 : Value}
    (a35 : PySem.W.nsIn K mainGlobals "law" = some (some (.ref f35))) (l35 : K.lookup f35 = some ⟨oc35, od35, .func (PySem.W.fnOf "law" "law" (defArgs (topS 43)) (defBody (topS 43)) (defScope (topS 43)) .none kV35 dc35 pm35 an35 cd35 ct35), sl35⟩) (c35 : PySem.W.codeIn K cd35 "law" = true) (k35 : PySem.W.keepIn K (.ref f35) = true)
    (z_any : PySem.W.nsIn K mainGlobals "any" = some none)
    (z_bool : PySem.W.nsIn K mainGlobals "bool" = some none)
    (z_int : PySem.W.nsIn K mainGlobals "int" = some none)
    (z_isinstance : PySem.W.nsIn K mainGlobals "isinstance" = some none)
    (z_len : PySem.W.nsIn K mainGlobals "len" = some none)
    (z_list : PySem.W.nsIn K mainGlobals "list" = some none)
    (z_max : PySem.W.nsIn K mainGlobals "max" = some none)
    (z_min : PySem.W.nsIn K mainGlobals "min" = some none)
    (z_range : PySem.W.nsIn K mainGlobals "range" = some none)
    (z_sorted : PySem.W.nsIn K mainGlobals "sorted" = some none)
    (z_sum : PySem.W.nsIn K mainGlobals "sum" = some none)
    (z_tuple : PySem.W.nsIn K mainGlobals "tuple" = some none)
    (hL : ∀ ns : List Int, ns.length ≤ 63 → (∀ z ∈ ns, Builtin.Int.intBits z ≤ 1048576) → m_law_v12 [.scr ns] = .ok (.bl true)) :
    ∃ fd : FuncData, (∀ (s : Shared) (v : Value), BindsTo s fd ⟨[v], []⟩ [("_law_script", v)]) ∧ ∀ base : Heap, K.In base → base.Ns mainGlobals mg → FnOk P w K mg base (L2.CX P w) 7 fa fd ["_law_script"] (spLaw K) := by
  have T : Tx K mg := { z_any := PySem.W.mg_none_of X G z_any, z_bool := PySem.W.mg_none_of X G z_bool, z_int := PySem.W.mg_none_of X G z_int, z_isinstance := PySem.W.mg_none_of X G z_isinstance, z_len := PySem.W.mg_none_of X G z_len, z_list := PySem.W.mg_none_of X G z_list, z_max := PySem.W.mg_none_of X G z_max, z_min := PySem.W.mg_none_of X G z_min, z_range := PySem.W.mg_none_of X G z_range, z_sorted := PySem.W.mg_none_of X G z_sorted, z_sum := PySem.W.mg_none_of X G z_sum, z_tuple := PySem.W.mg_none_of X G z_tuple, f_form_of := fnT_of X G a0 l0 c0 k0, f_names_of := fnT_of X G a1 l1 c1 k1, f_power_of := fnT_of X G a2 l2 c2 k2, f_by_power := fnT_of X G a3 l3 c3 k3, f_sign_of := fnT_of X G a4 l4 c4 k4, f_sign_one := fnT_of X G a5 l5 c5 k5, f_sign_two := fnT_of X G a6 l6 c6 k6, f_order := fnT_of X G a7 l7 c7 k7, f_whole_root := fnT_of X G a8 l8 c8 k8, f_floor_of := fnT_of X G a9 l9 c9 k9, f_let_in := fnT_of X G a10 l10 c10 k10, f_numbers_of := fnT_of X G a11 l11 c11 k11, f_roots_of := fnT_of X G a12 l12 c12 k12, f_borders := fnT_of X G a13 l13 c13 k13, f_above := fnT_of X G a14 l14 c14 k14, f_between := fnT_of X G a15 l15 c15 k15, f_line := fnT_of X G a16 l16 c16 k16, f__law_cell := fnT_of X G a17 l17 c17 k17, f__law_signed := fnT_of X G a18 l18 c18 k18, f__law_sign := fnT_of X G a19 l19 c19 k19, f__law_sign_two := fnT_of X G a20 l20 c20 k20, f__law_order := fnT_of X G a21 l21 c21 k21, f__law_name := fnT_of X G a22 l22 c22 k22, f__law_free := fnT_of X G a23 l23 c23 k23, f__law_planted := fnT_of X G a24 l24 c24 k24, f__law_triple := fnT_of X G a25 l25 c25 k25, f__law_by_digits := fnT_of X G a26 l26 c26 k26, f__law_digits := fnT_of X G a27 l27 c27 k27, f__law_triples := fnT_of X G a28 l28 c28 k28, f__law_form := fnT_of X G a29 l29 c29 k29, f__law_at := fnT_of X G a30 l30 c30 k30, f__law_is_number := fnT_of X G a31 l31 c31 k31, f__law_many := fnT_of X G a32 l32 c32 k32, f__law_rising := fnT_of X G a33 l33 c33 k33, f__law_just := fnT_of X G a34 l34 c34 k34, f_law := fnT_of X G a35 l35 c35 k35 }
  exact law_end T.f_law hfa (fun _ _ _ _ _ _ us hl => match us, hl with | [_], _ => rfl) (fun base => w_law T) hL
theorem p2 : dPow (.int 10) (.int 2) = .ok (.int 100) := chk_pos ⟨by decide, by decide, by decide⟩
theorem p3 : dPow (.int 10) (.int 3) = .ok (.int 1000) := chk_pos ⟨by decide, by decide, by decide⟩
theorem p4 : dPow (.int 10) (.int 4) = .ok (.int 10000) := chk_pos ⟨by decide, by decide, by decide⟩
theorem p5 : dPow (.int 10) (.int 5) = .ok (.int 100000) := chk_pos ⟨by decide, by decide, by decide⟩
theorem p6 : dPow (.int 10) (.int 6) = .ok (.int 1000000) := chk_pos ⟨by decide, by decide, by decide⟩
theorem p7 : dPow (.int 10) (.int 7) = .ok (.int 10000000) := chk_pos ⟨by decide, by decide, by decide⟩
theorem p8 : dPow (.int 10) (.int 8) = .ok (.int 100000000) := chk_pos ⟨by decide, by decide, by decide⟩
theorem p9 : dPow (.int 10) (.int 9) = .ok (.int 1000000000) := chk_pos ⟨by decide, by decide, by decide⟩
theorem p10 : dPow (.int 10) (.int 10) = .ok (.int 10000000000) := chk_pos ⟨by decide, by decide, by decide⟩
theorem p11 : dPow (.int 10) (.int 11) = .ok (.int 100000000000) := chk_pos ⟨by decide, by decide, by decide⟩
theorem p12 : dPow (.int 10) (.int 12) = .ok (.int 1000000000000) := chk_pos ⟨by decide, by decide, by decide⟩
theorem p13 : dPow (.int 10) (.int 13) = .ok (.int 10000000000000) := chk_pos ⟨by decide, by decide, by decide⟩
theorem p14 : dPow (.int 10) (.int 14) = .ok (.int 100000000000000) := chk_pos ⟨by decide, by decide, by decide⟩
theorem p15 : dPow (.int 10) (.int 15) = .ok (.int 1000000000000000) := chk_pos ⟨by decide, by decide, by decide⟩
theorem p16 : dPow (.int 10) (.int 16) = .ok (.int 10000000000000000) := chk_pos ⟨by decide, by decide, by decide⟩
theorem p18 : dPow (.int 10) (.int 18) = .ok (.int 1000000000000000000) := chk_pos ⟨by decide, by decide, by decide⟩
theorem p20 : dPow (.int 10) (.int 20) = .ok (.int 100000000000000000000) := chk_pos ⟨by decide, by decide, by decide⟩
theorem p22 : dPow (.int 10) (.int 22) = .ok (.int 10000000000000000000000) := chk_pos ⟨by decide, by decide, by decide⟩
theorem p24 : dPow (.int 10) (.int 24) = .ok (.int 1000000000000000000000000) := chk_pos ⟨by decide, by decide, by decide⟩
theorem p25 : dPow (.int 10) (.int 25) = .ok (.int 10000000000000000000000000) := chk_pos ⟨by decide, by decide, by decide⟩
theorem p26 : dPow (.int 10) (.int 26) = .ok (.int 100000000000000000000000000) := chk_pos ⟨by decide, by decide, by decide⟩
theorem p27 : dPow (.int 10) (.int 27) = .ok (.int 1000000000000000000000000000) := chk_pos ⟨by decide, by decide, by decide⟩
theorem p28 : dPow (.int 10) (.int 28) = .ok (.int 10000000000000000000000000000) := chk_pos ⟨by decide, by decide, by decide⟩
theorem p29 : dPow (.int 10) (.int 29) = .ok (.int 100000000000000000000000000000) := chk_pos ⟨by decide, by decide, by decide⟩
theorem p30 : dPow (.int 10) (.int 30) = .ok (.int 1000000000000000000000000000000) := chk_pos ⟨by decide, by decide, by decide⟩
theorem p35 : dPow (.int 10) (.int 35) = .ok (.int 100000000000000000000000000000000000) := chk_pos ⟨by decide, by decide, by decide⟩
theorem p40 : dPow (.int 10) (.int 40) = .ok (.int 10000000000000000000000000000000000000000) := chk_pos ⟨by decide, by decide, by decide⟩
theorem p60 : dPow (.int 10) (.int 60) = .ok (.int 1000000000000000000000000000000000000000000000000000000000000) := chk_pos ⟨by decide, by decide, by decide⟩
theorem lst3 {a b c : Int} {i : Int} (h0 : 0 ≤ i) (h : i < 3) : ∃ d, dIx (.lst [.int a, .int b, .int c]) (.int i) = .ok (.int d) ∧ (d = a ∨ d = b ∨ d = c) := by
  have : i = (0 : Nat) ∨ i = (1 : Nat) ∨ i = (2 : Nat) := by omega
  rcases this with rfl | rfl | rfl
  · exact ⟨a, rfl, .inl rfl⟩
  · exact ⟨b, rfl, .inr (.inl rfl)⟩
  · exact ⟨c, rfl, .inr (.inr rfl)⟩
local macro_rules | `(tactic| walk_at "pd") => `(tactic| simp only [sSeq_ap, sIf_ap, sSet_ap, sRet_ap, sExpr_ap, sAsg_ap, sFor_ap, sNx_ap, sBk_ap, sCt_ap, sRetN_ap, eC_ap, eV_0, eV_s, e2_ap, e1_ap, aN_ap, aC_ap, eA_ap, tOf_ap, bAnd_ap, bOr_ap, bNot_ap,
  vAnd_ap, vOr_ap, vNot_ap, eIf_ap, gN_ap, gT_ap, fnM_ap, iSeq_ap, sApp_ap, sPar_ap, iRange3_ap, eL_0, eL_s, gT_lst, nox_ok, nox_stuck, eSl_ap, oN_ap, oI_ap, eSlSt_ap, eS2_ap, eLc_ap, bYes_ap, eGet2_ap, sPut_ap, wipeE_nil, wipeE_cons, dSl_lst, dSl_tup, dSl_scr, cList_lst, cList_tup, cTuple_lst, cTuple_tup, iRange1_ap, iRange2_ap, mkTup_0, mkTup_1, mkTup_2, mkTup_3, mkTup_4, mkLst_0, mkLst_1, mkLst_2, mkLst_3, mkLst_4, dAdd_int, dSub_int, dNeg_int, dLt_int, dLe_int, dGt_int, dGe_int, dEq_int, dNe_int, cLen_scr, cLen_lst, cLen_tup, cInt_bl, cInt_int, cMax_int, cMin_int, cAbs_int, cIsi_int, cIsi_int_bool,
  andThen_ite, turn_ite, res_ite, bind_ite, oS_ite, turn_nx, turn_ct, turn_bk, turn_rt, turn_ex, turn_stuck, res_rt, res_nx, res_ex, decide_eq_true_eq,
  oS_ok, oS_exc, oS_stuck, Out.bind_ok, Out.bind_exc, Out.bind_stuck, andThen_nx, andThen_rt, andThen_bk, andThen_ct, andThen_ex, andThen_stuck,
  List.length_cons, List.length_nil, List.map_cons, List.map_nil, List.replicate_succ, List.replicate_zero, List.cons_append, List.nil_append, List.set_cons_zero, List.set_cons_succ, List.zip_cons_cons, List.zip_nil_right, List.foldl_cons, List.foldl_nil,
  Nat.reduceAdd, Nat.reduceSub, Nat.zero_add, if_true, if_false, ite_true, ite_false, Bool.false_eq_true, reduceIte, decide_eq_true_eq, decide_true, decide_false, Bool.not_true, Bool.not_false])
local macro_rules | `(tactic| walk_at "pda") => `(tactic| simp only [*, sSeq_ap, sIf_ap, sSet_ap, sRet_ap, sExpr_ap, sAsg_ap, sFor_ap, sNx_ap, sBk_ap, sCt_ap, sRetN_ap, eC_ap, eV_0, eV_s, e2_ap, e1_ap, aN_ap, aC_ap, eA_ap, tOf_ap, bAnd_ap, bOr_ap, bNot_ap,
  vAnd_ap, vOr_ap, vNot_ap, eIf_ap, gN_ap, gT_ap, fnM_ap, iSeq_ap, sApp_ap, sPar_ap, iRange3_ap, eL_0, eL_s, gT_lst, nox_ok, nox_stuck, eSl_ap, oN_ap, oI_ap, eSlSt_ap, eS2_ap, eLc_ap, bYes_ap, eGet2_ap, sPut_ap, wipeE_nil, wipeE_cons, dSl_lst, dSl_tup, dSl_scr, cList_lst, cList_tup, cTuple_lst, cTuple_tup, iRange1_ap, iRange2_ap, mkTup_0, mkTup_1, mkTup_2, mkTup_3, mkTup_4, mkLst_0, mkLst_1, mkLst_2, mkLst_3, mkLst_4, dAdd_int, dSub_int, dNeg_int, dLt_int, dLe_int, dGt_int, dGe_int, dEq_int, dNe_int, cLen_scr, cLen_lst, cLen_tup, cInt_bl, cInt_int, cMax_int, cMin_int, cAbs_int, cIsi_int, cIsi_int_bool,
  andThen_ite, turn_ite, res_ite, bind_ite, oS_ite, turn_nx, turn_ct, turn_bk, turn_rt, turn_ex, turn_stuck, res_rt, res_nx, res_ex, decide_eq_true_eq,
  oS_ok, oS_exc, oS_stuck, Out.bind_ok, Out.bind_exc, Out.bind_stuck, andThen_nx, andThen_rt, andThen_bk, andThen_ct, andThen_ex, andThen_stuck,
  List.length_cons, List.length_nil, List.map_cons, List.map_nil, List.replicate_succ, List.replicate_zero, List.cons_append, List.nil_append, List.set_cons_zero, List.set_cons_succ, List.zip_cons_cons, List.zip_nil_right, List.foldl_cons, List.foldl_nil,
  Nat.reduceAdd, Nat.reduceSub, Nat.zero_add, if_true, if_false, ite_true, ite_false, Bool.false_eq_true, reduceIte, decide_eq_true_eq, decide_true, decide_false, Bool.not_true, Bool.not_false])
local macro_rules | `(tactic| walk_at "wk") => `(tactic| simp only [chk_bind, oS_chk, chkS_andThen, chkS_turn, chkS_res, chk_nox, cont_chkS, cont_nx, cont_ct, cont_rt, cont_bk, cont_ite, chk_true, chkS_true, mul_chk, div_chk, mod_chk, p2, p3, p4, p5, p6, p7, p8, p9, p10, p11, p12, p13, p14, p15, p16, p18, p20, p22, p24, p25, p26, p27, p28, p29, p30, p35, p40, p60, rng1_chk, rng2_chk, ixt0, ixt1, ixt2, ixt3, ixl0, ixl1, ixl2, ixl3, sForR_ap, sRow_ap, eD_0, eD_s, asL_none, asL_some, sSeq_ap, sIf_ap, sSet_ap, sRet_ap, sExpr_ap, sAsg_ap, sFor_ap, sNx_ap, sBk_ap, sCt_ap, sRetN_ap, eC_ap, eV_0, eV_s, e2_ap, e1_ap, aN_ap, aC_ap, eA_ap, tOf_ap, bAnd_ap, bOr_ap, bNot_ap,
  vAnd_ap, vOr_ap, vNot_ap, eIf_ap, gN_ap, gT_ap, fnM_ap, iSeq_ap, sApp_ap, sPar_ap, iRange3_ap, eL_0, eL_s, gT_lst, nox_ok, nox_stuck, eSl_ap, oN_ap, oI_ap, eSlSt_ap, eS2_ap, eLc_ap, bYes_ap, eGet2_ap, sPut_ap, wipeE_nil, wipeE_cons, dSl_lst, dSl_tup, dSl_scr, cList_lst, cList_tup, cTuple_lst, cTuple_tup, iRange1_ap, iRange2_ap, mkTup_0, mkTup_1, mkTup_2, mkTup_3, mkTup_4, mkLst_0, mkLst_1, mkLst_2, mkLst_3, mkLst_4, dAdd_int, dSub_int, dNeg_int, dLt_int, dLe_int, dGt_int, dGe_int, dEq_int, dNe_int, cLen_scr, cLen_lst, cLen_tup, cInt_bl, cInt_int, cMax_int, cMin_int, cAbs_int, cIsi_int, cIsi_int_bool,
  andThen_ite, turn_ite, res_ite, bind_ite, oS_ite, turn_nx, turn_ct, turn_bk, turn_rt, turn_ex, turn_stuck, res_rt, res_nx, res_ex, decide_eq_true_eq,
  oS_ok, oS_exc, oS_stuck, Out.bind_ok, Out.bind_exc, Out.bind_stuck, andThen_nx, andThen_rt, andThen_bk, andThen_ct, andThen_ex, andThen_stuck,
  List.length_cons, List.length_nil, List.map_cons, List.map_nil, List.replicate_succ, List.replicate_zero, List.cons_append, List.nil_append, List.set_cons_zero, List.set_cons_succ, List.zip_cons_cons, List.zip_nil_right, List.foldl_cons, List.foldl_nil,
  Nat.reduceAdd, Nat.reduceSub, Nat.zero_add, if_true, if_false, ite_true, ite_false, Bool.false_eq_true, reduceIte, decide_eq_true_eq, decide_true, decide_false, Bool.not_true, Bool.not_false])
local macro_rules | `(tactic| walk_at "wka") => `(tactic| simp only [*, chk_bind, oS_chk, chkS_andThen, chkS_turn, chkS_res, chk_nox, cont_chkS, cont_nx, cont_ct, cont_rt, cont_bk, cont_ite, chk_true, chkS_true, mul_chk, div_chk, mod_chk, p2, p3, p4, p5, p6, p7, p8, p9, p10, p11, p12, p13, p14, p15, p16, p18, p20, p22, p24, p25, p26, p27, p28, p29, p30, p35, p40, p60, rng1_chk, rng2_chk, ixt0, ixt1, ixt2, ixt3, ixl0, ixl1, ixl2, ixl3, sForR_ap, sRow_ap, eD_0, eD_s, asL_none, asL_some, sSeq_ap, sIf_ap, sSet_ap, sRet_ap, sExpr_ap, sAsg_ap, sFor_ap, sNx_ap, sBk_ap, sCt_ap, sRetN_ap, eC_ap, eV_0, eV_s, e2_ap, e1_ap, aN_ap, aC_ap, eA_ap, tOf_ap, bAnd_ap, bOr_ap, bNot_ap,
  vAnd_ap, vOr_ap, vNot_ap, eIf_ap, gN_ap, gT_ap, fnM_ap, iSeq_ap, sApp_ap, sPar_ap, iRange3_ap, eL_0, eL_s, gT_lst, nox_ok, nox_stuck, eSl_ap, oN_ap, oI_ap, eSlSt_ap, eS2_ap, eLc_ap, bYes_ap, eGet2_ap, sPut_ap, wipeE_nil, wipeE_cons, dSl_lst, dSl_tup, dSl_scr, cList_lst, cList_tup, cTuple_lst, cTuple_tup, iRange1_ap, iRange2_ap, mkTup_0, mkTup_1, mkTup_2, mkTup_3, mkTup_4, mkLst_0, mkLst_1, mkLst_2, mkLst_3, mkLst_4, dAdd_int, dSub_int, dNeg_int, dLt_int, dLe_int, dGt_int, dGe_int, dEq_int, dNe_int, cLen_scr, cLen_lst, cLen_tup, cInt_bl, cInt_int, cMax_int, cMin_int, cAbs_int, cIsi_int, cIsi_int_bool,
  andThen_ite, turn_ite, res_ite, bind_ite, oS_ite, turn_nx, turn_ct, turn_bk, turn_rt, turn_ex, turn_stuck, res_rt, res_nx, res_ex, decide_eq_true_eq,
  oS_ok, oS_exc, oS_stuck, Out.bind_ok, Out.bind_exc, Out.bind_stuck, andThen_nx, andThen_rt, andThen_bk, andThen_ct, andThen_ex, andThen_stuck,
  List.length_cons, List.length_nil, List.map_cons, List.map_nil, List.replicate_succ, List.replicate_zero, List.cons_append, List.nil_append, List.set_cons_zero, List.set_cons_succ, List.zip_cons_cons, List.zip_nil_right, List.foldl_cons, List.foldl_nil,
  Nat.reduceAdd, Nat.reduceSub, Nat.zero_add, if_true, if_false, ite_true, ite_false, Bool.false_eq_true, reduceIte, decide_eq_true_eq, decide_true, decide_false, Bool.not_true, Bool.not_false])
local macro_rules | `(tactic| walk_at "go") => `(tactic| repeat (first | refine chk_go (by first | assumption | decide | omega | exact cmul_sz (by assumption) (by assumption) (by decide)) ?_ | refine chkS_go (by first | assumption | decide | omega | exact cmul_sz (by assumption) (by assumption) (by decide)) ?_ | walk_at "wka"))
namespace RR
/-- sequences of rationals -/
abbrev Sq := Nat → Rat
def Pos (f : Sq) : Prop := ∃ e : Rat, 0 < e ∧ ∃ N, ∀ n, N ≤ n → e ≤ f n
def Null (f : Sq) : Prop := ∀ e : Rat, 0 < e → ∃ N, ∀ n, N ≤ n → -e ≤ f n ∧ f n ≤ e
def Bd (f : Sq) : Prop := ∃ b : Rat, 0 < b ∧ ∀ n, -b ≤ f n ∧ f n ≤ b
theorem Pos.add {f g : Sq} (hf : Pos f) (hg : Pos g) : Pos fun n => f n + g n := by
  obtain ⟨e, he, N, h⟩ := hf
  obtain ⟨d, hd, M, k⟩ := hg
  refine ⟨e + d, by grind, max N M, fun n hn => ?_⟩
  have := h n (by omega)
  have := k n (by omega)
  grind
theorem Pos.mul {f g : Sq} (hf : Pos f) (hg : Pos g) : Pos fun n => f n * g n := by
  obtain ⟨e, he, N, h⟩ := hf
  obtain ⟨d, hd, M, k⟩ := hg
  refine ⟨e * d, Rat.mul_pos he hd, max N M, fun n hn => ?_⟩
  have h1 := h n (by omega)
  have h2 := k n (by omega)
  have h3 : 0 ≤ (f n - e) * d := Rat.mul_nonneg (by grind) (by grind)
  have h4 : 0 ≤ f n * (g n - d) := Rat.mul_nonneg (by grind) (by grind)
  grind
theorem Null.add {f g : Sq} (hf : Null f) (hg : Null g) : Null fun n => f n + g n := fun e he => by
  obtain ⟨N, h⟩ := hf (e / 2) (by grind)
  obtain ⟨M, k⟩ := hg (e / 2) (by grind)
  refine ⟨max N M, fun n hn => ?_⟩
  have := h n (by omega)
  have := k n (by omega)
  grind
theorem Pos.null {f g : Sq} (hf : Pos f) (hg : Null g) : Pos fun n => f n + g n := by
  obtain ⟨e, he, N, h⟩ := hf
  obtain ⟨M, k⟩ := hg (e / 2) (by grind)
  refine ⟨e / 2, by grind, max N M, fun n hn => ?_⟩
  have := h n (by omega)
  have := k n (by omega)
  grind
theorem Pos.not_null {f : Sq} (hf : Pos f) (hg : Null f) : False := by
  obtain ⟨e, he, N, h⟩ := hf
  obtain ⟨M, k⟩ := hg (e / 2) (by grind)
  have := h (max N M) (by omega)
  have := k (max N M) (by omega)
  grind
theorem Pos.not_neg {f : Sq} (hf : Pos f) (hg : Pos fun n => - f n) : False := by
  obtain ⟨e, he, N, h⟩ := hf
  obtain ⟨d, hd, M, k⟩ := hg
  have := h (max N M) (by omega)
  have := k (max N M) (by omega)
  grind
end RR
namespace RR
theorem root_ex (m : Nat) : ∃ k : Nat, k * k ≤ m ∧ m < (k + 1) * (k + 1) := by
  induction m with
  | zero => exact ⟨0, by decide, by decide⟩
  | succ m ih =>
    obtain ⟨k, h1, h2⟩ := ih
    by_cases c : m + 1 < (k + 1) * (k + 1)
    · exact ⟨k, by omega, c⟩
    · refine ⟨k + 1, by omega, ?_⟩
      have : (k + 1) * (k + 1) < (k + 1 + 1) * (k + 1 + 1) := Nat.mul_lt_mul'' (by omega) (by omega)
      omega
noncomputable def rt (m : Nat) : Nat := Classical.choose (root_ex m)
theorem rt_le (m : Nat) : rt m * rt m ≤ m := (Classical.choose_spec (root_ex m)).1
theorem rt_lt (m : Nat) : m < (rt m + 1) * (rt m + 1) := (Classical.choose_spec (root_ex m)).2
/-- the root of r, at the n-th place to 1 / (n + 1) -/
noncomputable def sq (r : Nat) : Sq := fun n => (rt (r * ((n + 1) * (n + 1))) : Rat) / ((n + 1 : Nat) : Rat)
theorem arch (e : Rat) (he : 0 < e) (c : Rat) : ∃ N : Nat, ∀ n : Nat, N ≤ n → c ≤ e * ((n + 1 : Nat) : Rat) := by
  refine ⟨(c / e).ceil.toNat, fun n hn => ?_⟩
  have h1 : c / e ≤ ((c / e).ceil : Rat) := Rat.le_ceil
  have h2 : (c / e).ceil ≤ ((n + 1 : Nat) : Int) := by omega
  have h3 : ((c / e).ceil : Rat) ≤ (((n + 1 : Nat) : Int) : Rat) := by exact_mod_cast h2
  have h4 : (((n + 1 : Nat) : Int) : Rat) = ((n + 1 : Nat) : Rat) := rfl
  have h5 : c / e ≤ ((n + 1 : Nat) : Rat) := by rw [← h4]; exact Rat.le_trans h1 h3
  have h6 : c = e * (c / e) := by grind
  rw [h6]
  exact Rat.mul_le_mul_of_nonneg_left h5 (by grind)
end RR
namespace RR
theorem sq_mul (r n : Nat) : sq r n * ((n + 1 : Nat) : Rat) = (rt (r * ((n + 1) * (n + 1))) : Rat) := by
  unfold sq
  have : ((n + 1 : Nat) : Rat) ≠ 0 := by
    have : 0 < ((n + 1 : Nat) : Rat) := by exact_mod_cast Nat.succ_pos n
    grind
  grind
theorem N_pos (n : Nat) : 0 < ((n + 1 : Nat) : Rat) := by exact_mod_cast Nat.succ_pos n
theorem rt_small (r n : Nat) : rt (r * ((n + 1) * (n + 1))) ≤ (r + 1) * (n + 1) := by
  have h := rt_le (r * ((n + 1) * (n + 1)))
  apply Classical.byContradiction
  intro c
  have h1 : ((r + 1) * (n + 1)) * ((r + 1) * (n + 1)) < rt (r * ((n + 1) * (n + 1))) * rt (r * ((n + 1) * (n + 1))) := Nat.mul_lt_mul'' (by omega) (by omega)
  have h2 : r * ((n + 1) * (n + 1)) ≤ ((r + 1) * (n + 1)) * ((r + 1) * (n + 1)) := by
    have : ((r + 1) * (n + 1)) * ((r + 1) * (n + 1)) = ((r + 1) * (r + 1)) * ((n + 1) * (n + 1)) := by grind
    rw [this]
    exact Nat.mul_le_mul_right _ (by grind)
  omega
theorem sq_nn (r n : Nat) : 0 ≤ sq r n := by
  have h1 := N_pos n
  have h2 : (0 : Rat) ≤ (rt (r * ((n + 1) * (n + 1))) : Rat) := by exact_mod_cast Nat.zero_le _
  rw [← sq_mul] at h2
  exact Rat.le_of_mul_le_mul_right (by grind) h1
theorem sq_le (r n : Nat) : sq r n ≤ (r : Rat) + 1 := by
  have h1 := N_pos n
  have h2 : (rt (r * ((n + 1) * (n + 1))) : Rat) ≤ (((r + 1) * (n + 1) : Nat) : Rat) := by exact_mod_cast rt_small r n
  have h3 : (((r + 1) * (n + 1) : Nat) : Rat) = ((r : Rat) + 1) * ((n + 1 : Nat) : Rat) := by push_cast; rfl
  rw [← sq_mul, h3] at h2
  exact Rat.le_of_mul_le_mul_right h2 h1
theorem sq_sq (r : Nat) : Null fun n => sq r n * sq r n - (r : Rat) := fun e he => by
  obtain ⟨M, h⟩ := arch e he (2 * ((r : Rat) + 1))
  refine ⟨M, fun n hn => ?_⟩
  show -e ≤ sq r n * sq r n - (r : Rat) ∧ sq r n * sq r n - (r : Rat) ≤ e
  have h0 := h n hn
  have h1 := N_pos n
  have k1 := rt_le (r * ((n + 1) * (n + 1)))
  have k2 := rt_lt (r * ((n + 1) * (n + 1)))
  have k3 := sq_mul r n
  have k4 := sq_le r n
  have k5 := sq_nn r n
  generalize rt (r * ((n + 1) * (n + 1))) = k at *
  have q1 : ((k * k : Nat) : Rat) ≤ ((r * ((n + 1) * (n + 1)) : Nat) : Rat) := by exact_mod_cast k1
  have q2 : ((r * ((n + 1) * (n + 1)) : Nat) : Rat) ≤ ((k * k + 2 * k : Nat) : Rat) := by exact_mod_cast (by grind : r * ((n + 1) * (n + 1)) ≤ k * k + 2 * k)
  have c1 : ((k * k : Nat) : Rat) = (k : Rat) * k := by push_cast; rfl
  have c2 : ((r * ((n + 1) * (n + 1)) : Nat) : Rat) = (r : Rat) * (((n + 1 : Nat) : Rat) * ((n + 1 : Nat) : Rat)) := by push_cast; rfl
  have c3 : ((k * k + 2 * k : Nat) : Rat) = (k : Rat) * k + 2 * k := by push_cast; rfl
  rw [c1, c2] at q1
  rw [c2, c3] at q2
  rw [← k3] at q1 q2
  generalize ((n + 1 : Nat) : Rat) = N at *
  generalize sq r n = s at *
  have N2 : 0 < N * N := Rat.mul_pos h1 h1
  have a1 : (s * s) * (N * N) ≤ (r : Rat) * (N * N) := by grind
  have a2 : s * s ≤ (r : Rat) := Rat.le_of_mul_le_mul_right a1 N2
  have a3 : ((r : Rat) - s * s) * N ≤ 2 * s := by
    have : (((r : Rat) - s * s) * N) * N ≤ (2 * s) * N := by grind
    exact Rat.le_of_mul_le_mul_right this h1
  have a4 : ((r : Rat) - s * s) * N ≤ e * N := by grind
  have a5 := Rat.le_of_mul_le_mul_right a4 h1
  grind
end RR
namespace RR
theorem sq_ge (r n : Nat) (h : 1 ≤ r) : 1 ≤ sq r n := by
  have h1 := N_pos n
  have k2 := rt_lt (r * ((n + 1) * (n + 1)))
  have k3 := sq_mul r n
  generalize rt (r * ((n + 1) * (n + 1))) = k at *
  have c : n + 1 ≤ k := by
    apply Classical.byContradiction
    intro c
    have h2 : (k + 1) * (k + 1) ≤ (n + 1) * (n + 1) := Nat.mul_le_mul (by omega) (by omega)
    have h3 : 1 * ((n + 1) * (n + 1)) ≤ r * ((n + 1) * (n + 1)) := Nat.mul_le_mul_right _ h
    omega
  have c' : ((n + 1 : Nat) : Rat) ≤ (k : Rat) := by exact_mod_cast c
  rw [← k3] at c'
  exact Rat.le_of_mul_le_mul_right (by grind) h1
theorem div_pos {e b : Rat} (he : 0 < e) (hb : 0 < b) : 0 < e / b := by
  have h4 : e = (e / b) * b := by grind
  apply Classical.byContradiction
  intro c
  have := Rat.mul_nonneg (show 0 ≤ -(e / b) by grind) (show 0 ≤ b by grind)
  grind
/-- where the squares differ, so do the two -/
theorem Pos.of_sq {f g : Sq} (h : Pos fun n => f n * f n - g n * g n) {b : Rat} (h0 : ∀ n, 0 ≤ f n + g n) (hb : ∀ n, f n + g n ≤ b) : Pos fun n => f n - g n := by
  obtain ⟨e, he, N, h⟩ := h
  have b1 : 0 < b + 1 := by have := h0 0; have := hb 0; grind
  refine ⟨e / (b + 1), div_pos he b1, N, fun n hn => ?_⟩
  have h1 : e ≤ f n * f n - g n * g n := h n hn
  show e / (b + 1) ≤ f n - g n
  have h2 := h0 n
  have h3 := hb n
  have h4 : e = (e / (b + 1)) * (b + 1) := by grind
  have h5 : 0 < e / (b + 1) := div_pos he b1
  generalize e / (b + 1) = d at *
  generalize f n = x at *
  generalize g n = y at *
  apply Classical.byContradiction
  intro c
  have c1 : x - y < d := by grind
  have h6 : (x - y) * (x + y) ≤ d * (x + y) := Rat.mul_le_mul_of_nonneg_right (by grind) h2
  have h7 : d * (x + y) ≤ d * b := Rat.mul_le_mul_of_nonneg_left h3 (by grind)
  grind
theorem Null.of_sq {f g : Sq} (h : Null fun n => f n * f n - g n * g n) {c : Rat} (c0 : 0 < c) (h0 : ∀ n, c ≤ f n + g n) : Null fun n => f n - g n := fun e he => by
  obtain ⟨N, h⟩ := h (e * c) (Rat.mul_pos he c0)
  refine ⟨N, fun n hn => ?_⟩
  have h1 : -(e * c) ≤ f n * f n - g n * g n ∧ f n * f n - g n * g n ≤ e * c := h n hn
  have h2 := h0 n
  show -e ≤ f n - g n ∧ f n - g n ≤ e
  generalize f n = x at *
  generalize g n = y at *
  have p : 0 < x + y := by grind
  have h3 : e * c ≤ e * (x + y) := Rat.mul_le_mul_of_nonneg_left h2 (by grind)
  constructor
  · exact Rat.le_of_mul_le_mul_right (by grind) p
  · exact Rat.le_of_mul_le_mul_right (by grind) p
theorem Null.mul {f g : Sq} (hf : Null f) (hg : Bd g) : Null fun n => f n * g n := fun e he => by
  obtain ⟨b, b0, hb⟩ := hg
  obtain ⟨N, h⟩ := hf (e / b) (div_pos he b0)
  refine ⟨N, fun n hn => ?_⟩
  have h1 := h n hn
  have h2 := hb n
  show -e ≤ f n * g n ∧ f n * g n ≤ e
  have h4 : e = (e / b) * b := by grind
  have h5 : 0 < e / b := div_pos he b0
  generalize e / b = d at *
  generalize f n = x at *
  generalize g n = y at *
  have q1 : 0 ≤ (d - x) * (b + y) := Rat.mul_nonneg (by grind) (by grind)
  have q2 : 0 ≤ (d + x) * (b - y) := Rat.mul_nonneg (by grind) (by grind)
  have q3 : 0 ≤ (d - x) * (b - y) := Rat.mul_nonneg (by grind) (by grind)
  have q4 : 0 ≤ (d + x) * (b + y) := Rat.mul_nonneg (by grind) (by grind)
  constructor <;> grind
end RR
namespace RR
theorem Bd.const (c : Rat) : Bd fun _ => c := by
  by_cases h : 0 ≤ c
  · exact ⟨c + 1, by grind, fun n => by grind⟩
  · exact ⟨1 - c, by grind, fun n => by grind⟩
theorem Bd.add {f g : Sq} (hf : Bd f) (hg : Bd g) : Bd fun n => f n + g n := by
  obtain ⟨a, a0, ha⟩ := hf
  obtain ⟨b, b0, hb⟩ := hg
  refine ⟨a + b, by grind, fun n => ?_⟩
  have := ha n
  have := hb n
  grind
theorem Bd.neg {f : Sq} (hf : Bd f) : Bd fun n => - f n := by
  obtain ⟨a, a0, ha⟩ := hf
  refine ⟨a, a0, fun n => ?_⟩
  have := ha n
  grind
theorem Bd.mul {f g : Sq} (hf : Bd f) (hg : Bd g) : Bd fun n => f n * g n := by
  obtain ⟨a, a0, ha⟩ := hf
  obtain ⟨b, b0, hb⟩ := hg
  refine ⟨3 * (a * b), by have := Rat.mul_pos a0 b0; grind, fun n => ?_⟩
  have h1 := ha n
  have h2 := hb n
  show -(3 * (a * b)) ≤ f n * g n ∧ f n * g n ≤ 3 * (a * b)
  generalize f n = x at *
  generalize g n = y at *
  have q1 : 0 ≤ (a - x) * (b + y) := Rat.mul_nonneg (by grind) (by grind)
  have q2 : 0 ≤ (a + x) * (b - y) := Rat.mul_nonneg (by grind) (by grind)
  have q3 : 0 ≤ (a - x) * (b - y) := Rat.mul_nonneg (by grind) (by grind)
  have q4 : 0 ≤ (a + x) * (b + y) := Rat.mul_nonneg (by grind) (by grind)
  have q5 := Rat.mul_pos a0 b0
  constructor <;> grind
theorem Bd.sq (r : Nat) : Bd (sq r) := by
  have h : (0 : Rat) ≤ (r : Rat) := by exact_mod_cast Nat.zero_le r
  refine ⟨(r : Rat) + 1, by grind, fun n => ?_⟩
  have h1 := sq_nn r n
  have h2 := sq_le r n
  grind
theorem Null.neg {f : Sq} (hf : Null f) : Null fun n => - f n := fun e he => by
  obtain ⟨N, h⟩ := hf e he
  refine ⟨N, fun n hn => ?_⟩
  have := h n hn
  show -e ≤ - f n ∧ - f n ≤ e
  grind
theorem Pos.const {c : Rat} (h : 0 < c) : Pos fun _ => c := ⟨c, h, 0, fun _ _ => by grind⟩
theorem Null.zero : Null fun _ => 0 := fun e he => ⟨0, fun _ _ => by grind⟩
theorem Pos.cg {f g : Sq} (hf : Pos f) (h : Null fun n => g n - f n) : Pos g := by
  have := hf.null h
  have e : (fun n => f n + (g n - f n)) = g := by funext n; grind
  rwa [e] at this
theorem Null.cg {f g : Sq} (hf : Null f) (h : Null fun n => g n - f n) : Null g := by
  have := hf.add h
  have e : (fun n => f n + (g n - f n)) = g := by funext n; grind
  rwa [e] at this
end RR
namespace RR
/-- s is the sign of f -/
def Sg (s : Int) (f : Sq) : Prop := (s = 1 ∧ Pos f) ∨ (s = 0 ∧ Null f) ∨ (s = -1 ∧ Pos fun n => - f n)
theorem Pos.of_sq' {f g : Sq} (h : Pos fun n => f n * f n - g n * g n) (pf : Pos f) (pg : Pos g) (bf : Bd f) (bg : Bd g) : Pos fun n => f n - g n := by
  obtain ⟨e, he, N, h⟩ := h
  obtain ⟨c, hc, M, pf⟩ := pf
  obtain ⟨d, hd, L, pg⟩ := pg
  obtain ⟨a, a0, ba⟩ := bf
  obtain ⟨b, b0, bb⟩ := bg
  have q := div_pos he (show 0 < a + b by grind)
  refine ⟨e / (a + b), q, max N (max M L), fun n hn => ?_⟩
  have h1 : e ≤ f n * f n - g n * g n := h n (by omega)
  have h2 := pf n (by omega)
  have h3 := pg n (by omega)
  have h4 := ba n
  have h5 := bb n
  have h6 : e = (e / (a + b)) * (a + b) := by grind
  show e / (a + b) ≤ f n - g n
  generalize e / (a + b) = k at *
  generalize f n = x at *
  generalize g n = y at *
  apply Classical.byContradiction
  intro z
  have s0 : 0 < x + y := by grind
  have h7 : (x - y) * (x + y) < k * (x + y) := Rat.mul_lt_mul_of_pos_right (by grind) s0
  have h8 : k * (x + y) ≤ k * (a + b) := Rat.mul_le_mul_of_nonneg_left (by grind) (by grind)
  grind
theorem Null.of_sq' {f g : Sq} (h : Null fun n => f n * f n - g n * g n) (pf : Pos f) (pg : Pos g) : Null fun n => f n - g n := fun e he => by
  obtain ⟨c, hc, M, pf⟩ := pf
  obtain ⟨d, hd, L, pg⟩ := pg
  obtain ⟨N, h⟩ := h (e * c) (Rat.mul_pos he hc)
  refine ⟨max N (max M L), fun n hn => ?_⟩
  have h1 : -(e * c) ≤ f n * f n - g n * g n ∧ f n * f n - g n * g n ≤ e * c := h n (by omega)
  have h2 := pf n (by omega)
  have h3 := pg n (by omega)
  show -e ≤ f n - g n ∧ f n - g n ≤ e
  generalize f n = x at *
  generalize g n = y at *
  have p : 0 < x + y := by grind
  have h3 : e * c ≤ e * (x + y) := Rat.mul_le_mul_of_nonneg_left (by grind) (by grind)
  constructor
  · exact Rat.le_of_mul_le_mul_right (by grind) p
  · exact Rat.le_of_mul_le_mul_right (by grind) p
theorem Sg.of {s : Int} {f g : Sq} (h : Sg s f) (e : ∀ n, f n = g n) : Sg s g := by
  have : f = g := funext e
  rwa [← this]
theorem Sg.neg {s : Int} {f : Sq} (h : Sg s f) : Sg (-s) fun n => - f n := by
  rcases h with ⟨h, p⟩ | ⟨h, p⟩ | ⟨h, p⟩ <;> subst h
  · refine .inr (.inr ⟨rfl, ?_⟩)
    have e : (fun n => - - f n) = f := by funext n; grind
    rwa [e]
  · exact .inr (.inl ⟨rfl, p.neg⟩)
  · exact .inl ⟨rfl, p⟩
end RR
namespace RR
/-- the sign of a sum of two of which the signs and that of the difference of the squares are known -/
theorem Sg.sum {a b c : Int} {f g : Sq} (ha : Sg a f) (hb : Sg b g) (hc : Sg c fun n => f n * f n - g n * g n) (bf : Bd f) (bg : Bd g) :
    Sg (if a = b ∨ b = 0 then a else if a = 0 then b else a * c) fun n => f n + g n := by
  have sw : ∀ {u v : Sq}, (fun n => u n + v n) = fun n => v n + u n := fun {u v} => by funext n; grind
  rcases ha with ⟨ha, pa⟩ | ⟨ha, pa⟩ | ⟨ha, pa⟩ <;> rcases hb with ⟨hb, pb⟩ | ⟨hb, pb⟩ | ⟨hb, pb⟩ <;> subst ha <;> subst hb
  · exact .inl ⟨rfl, pa.add pb⟩
  · exact .inl ⟨rfl, pa.null pb⟩
  · -- f above, g below
    have e0 : (fun n => f n + g n) = fun n => f n - (- g n) := by funext n; grind
    have e1 : (fun n => f n * f n - g n * g n) = fun n => f n * f n - (- g n) * (- g n) := by funext n; grind
    have e2 : (fun n => -(f n + g n)) = fun n => (- g n) - f n := by funext n; grind
    have e3 : (fun n => -(f n * f n - g n * g n)) = fun n => (- g n) * (- g n) - f n * f n := by funext n; grind
    rcases hc with ⟨hc, pc⟩ | ⟨hc, pc⟩ | ⟨hc, pc⟩ <;> subst hc
    · refine .inl ⟨rfl, ?_⟩
      rw [e0]; rw [e1] at pc
      exact Pos.of_sq' (g := fun n => - g n) pc pa pb bf bg.neg
    · refine .inr (.inl ⟨rfl, ?_⟩)
      rw [e0]; rw [e1] at pc
      exact Null.of_sq' (g := fun n => - g n) pc pa pb
    · refine .inr (.inr ⟨rfl, ?_⟩)
      rw [e2]; rw [e3] at pc
      exact Pos.of_sq' (f := fun n => - g n) pc pb pa bg.neg bf
  · rw [sw]; exact .inl ⟨rfl, pb.null pa⟩
  · exact .inr (.inl ⟨rfl, pa.add pb⟩)
  · refine .inr (.inr ⟨rfl, ?_⟩)
    have := pb.null pa.neg
    have e : (fun n => - g n + - f n) = fun n => -(f n + g n) := by funext n; grind
    rwa [e] at this
  · have e0 : (fun n => f n + g n) = fun n => g n - (- f n) := by funext n; grind
    have e1 : (fun n => -(f n * f n - g n * g n)) = fun n => g n * g n - (- f n) * (- f n) := by funext n; grind
    have e2 : (fun n => -(f n + g n)) = fun n => (- f n) - g n := by funext n; grind
    have e3 : (fun n => f n * f n - g n * g n) = fun n => (- f n) * (- f n) - g n * g n := by funext n; grind
    rcases hc with ⟨hc, pc⟩ | ⟨hc, pc⟩ | ⟨hc, pc⟩ <;> subst hc
    · refine .inr (.inr ⟨rfl, ?_⟩)
      rw [e2]; rw [e3] at pc
      exact Pos.of_sq' (f := fun n => - f n) pc pa pb bf.neg bg
    · refine .inr (.inl ⟨rfl, ?_⟩)
      rw [e3] at pc
      have := (Null.of_sq' (f := fun n => - f n) pc pa pb).neg
      have e : (fun n => -(- f n - g n)) = fun n => f n + g n := by funext n; grind
      rwa [e] at this
    · refine .inl ⟨rfl, ?_⟩
      rw [e0]; rw [e1] at pc
      exact Pos.of_sq' (g := fun n => - f n) pc pb pa bg bf.neg
  · refine .inr (.inr ⟨rfl, ?_⟩)
    have := pa.null pb.neg
    have e : (fun n => - f n + - g n) = fun n => -(f n + g n) := by funext n; grind
    rwa [e] at this
  · refine .inr (.inr ⟨rfl, ?_⟩)
    have := pa.add pb
    have e : (fun n => - f n + - g n) = fun n => -(f n + g n) := by funext n; grind
    rwa [e] at this
end RR
namespace RR
/-- Cauchy sequences -/
def Cy (f : Sq) : Prop := ∀ e : Rat, 0 < e → ∃ N, ∀ n m, N ≤ n → N ≤ m → f n - f m ≤ e
theorem bd_head (f : Sq) (N : Nat) : ∃ b : Rat, 0 < b ∧ ∀ n, n < N → -b ≤ f n ∧ f n ≤ b := by
  induction N with
  | zero => exact ⟨1, by grind, fun n h => absurd h (Nat.not_lt_zero n)⟩
  | succ N ih =>
    obtain ⟨b, hb, h⟩ := ih
    by_cases c : 0 ≤ f N
    · refine ⟨b + f N, by grind, fun n hn => ?_⟩
      by_cases e : n = N
      · subst e; constructor <;> grind
      · have := h n (by omega); constructor <;> grind
    · refine ⟨b + - f N, by grind, fun n hn => ?_⟩
      by_cases e : n = N
      · subst e; constructor <;> grind
      · have := h n (by omega); constructor <;> grind
theorem Cy.bd {f : Sq} (h : Cy f) : Bd f := by
  obtain ⟨N, hN⟩ := h 1 (by grind)
  obtain ⟨b, hb, k⟩ := bd_head f (N + 1)
  refine ⟨b + 1, by grind, fun n => ?_⟩
  by_cases c : n < N + 1
  · have := k n c; constructor <;> grind
  · have a1 := hN n N (by omega) (by omega)
    have a2 := hN N n (by omega) (by omega)
    have := k N (by omega)
    constructor <;> grind
theorem Cy.const (c : Rat) : Cy fun _ => c := fun e he => ⟨0, fun _ _ _ _ => by grind⟩
theorem Cy.add {f g : Sq} (hf : Cy f) (hg : Cy g) : Cy fun n => f n + g n := fun e he => by
  obtain ⟨N, h⟩ := hf (e / 2) (by grind)
  obtain ⟨M, k⟩ := hg (e / 2) (by grind)
  refine ⟨max N M, fun n m hn hm => ?_⟩
  have := h n m (by omega) (by omega)
  have := k n m (by omega) (by omega)
  grind
theorem Cy.neg {f : Sq} (hf : Cy f) : Cy fun n => - f n := fun e he => by
  obtain ⟨N, h⟩ := hf e he
  exact ⟨N, fun n m hn hm => by have := h m n hm hn; grind⟩
theorem Cy.mul {f g : Sq} (hf : Cy f) (hg : Cy g) : Cy fun n => f n * g n := fun e he => by
  obtain ⟨b, hb, kb⟩ := hf.bd
  obtain ⟨c, hc, kc⟩ := hg.bd
  obtain ⟨N, h⟩ := hf (e / (2 * c)) (div_pos he (by grind))
  obtain ⟨M, k⟩ := hg (e / (2 * b)) (div_pos he (by grind))
  refine ⟨max N M, fun n m hn hm => ?_⟩
  have a1 := h n m (by omega) (by omega)
  have a2 := h m n (by omega) (by omega)
  have a3 := k n m (by omega) (by omega)
  have a4 := k m n (by omega) (by omega)
  have b1 := kb m
  have b2 := kc n
  have e1 : e / (2 * c) * c = e / 2 := by grind
  have e2 : e / (2 * b) * b = e / 2 := by grind
  show f n * g n - f m * g m ≤ e
  generalize e / (2 * c) = d at *
  generalize e / (2 * b) = d' at *
  generalize f n = x at *
  generalize f m = x' at *
  generalize g n = y at *
  generalize g m = y' at *
  have s1 : (x - x') * y ≤ d * c := by
    have t1 : 0 ≤ (d - (x - x')) * (c + y) := Rat.mul_nonneg (by grind) (by grind)
    have t2 : 0 ≤ (d + (x - x')) * (c - y) := Rat.mul_nonneg (by grind) (by grind)
    grind
  have s2 : (y - y') * x' ≤ d' * b := by
    have t1 : 0 ≤ (d' - (y - y')) * (b + x') := Rat.mul_nonneg (by grind) (by grind)
    have t2 : 0 ≤ (d' + (y - y')) * (b - x') := Rat.mul_nonneg (by grind) (by grind)
    grind
  grind
theorem Cy.tri {f : Sq} (h : Cy f) : Pos f ∨ Null f ∨ Pos fun n => - f n := by
  by_cases c : Null f
  · exact .inr (.inl c)
  · unfold Null at c
    obtain ⟨e, c⟩ := Classical.not_forall.mp c
    have he : 0 < e := Classical.byContradiction fun k => c fun k' => absurd k' k
    obtain ⟨N, hN⟩ := h (e / 2) (by grind)
    have : ∃ n, N ≤ n ∧ ¬ (-e ≤ f n ∧ f n ≤ e) := Classical.byContradiction fun k => c fun _ => ⟨N, fun n hn => Classical.byContradiction fun k' => k ⟨n, hn, k'⟩⟩
    obtain ⟨n, hn, k⟩ := this
    by_cases p : e < f n
    · exact .inl ⟨e / 2, by grind, N, fun m hm => by have := hN n m hn hm; grind⟩
    · exact .inr (.inr ⟨e / 2, by grind, N, fun m hm => by have := hN m n hm hn; show e / 2 ≤ - f m; grind⟩)
theorem Cy.inv {f : Sq} (h : Cy f) (p : Pos f) : ∃ g, Cy g ∧ Null fun n => f n * g n - 1 := by
  obtain ⟨e, he, N, k⟩ := p
  refine ⟨fun n => if N ≤ n then 1 / f n else 1, fun d hd => ?_, fun d hd => ⟨N, fun n hn => ?_⟩⟩
  · obtain ⟨M, q⟩ := h (d * (e * e)) (Rat.mul_pos hd (Rat.mul_pos he he))
    refine ⟨max N M, fun n m hn hm => ?_⟩
    show (if N ≤ n then 1 / f n else 1) - (if N ≤ m then 1 / f m else 1) ≤ d
    rw [if_pos (by omega), if_pos (by omega)]
    have a1 := k n (by omega)
    have a2 := k m (by omega)
    have a3 := q m n (by omega) (by omega)
    generalize f n = x at *
    generalize f m = y at *
    have x0 : 0 < x := by grind
    have y0 : 0 < y := by grind
    have xy : 0 < x * y := Rat.mul_pos x0 y0
    have t : e * e ≤ x * y := by
      have t1 : 0 ≤ (x - e) * y := Rat.mul_nonneg (by grind) (by grind)
      have t2 : 0 ≤ e * (y - e) := Rat.mul_nonneg (by grind) (by grind)
      grind
    have t3 : 0 ≤ d * (x * y - e * e) := Rat.mul_nonneg (by grind) (by grind)
    have : (1 / x - 1 / y) * (x * y) ≤ d * (x * y) := by
      have : (1 / x - 1 / y) * (x * y) = y - x := by grind
      grind
    exact Rat.le_of_mul_le_mul_right this xy
  · show -d ≤ f n * (if N ≤ n then 1 / f n else 1) - 1 ∧ f n * (if N ≤ n then 1 / f n else 1) - 1 ≤ d
    rw [if_pos hn]
    have a1 := k n hn
    have : f n * (1 / f n) = 1 := by grind
    rw [this]
    constructor <;> grind
theorem nul {f : Sq} (h : ∀ n, f n = 0) : Null f := fun e he => ⟨0, fun n _ => by rw [h n]; constructor <;> grind⟩
theorem Null.of {f g : Sq} (h : Null f) (k : ∀ n, g n = f n) : Null g := by rw [show g = f from funext k]; exact h
theorem Pos.of {f g : Sq} (h : Pos f) (k : ∀ n, g n = f n) : Pos g := by rw [show g = f from funext k]; exact h
structure CSq where
  f : Sq
  c : Cy f
def CSq.rel (a b : CSq) : Prop := Null fun n => a.f n - b.f n
instance CSq.S : Setoid CSq where
  r := CSq.rel
  iseqv := ⟨fun a => nul fun n => by grind, fun h => Null.of (Null.neg h) fun n => by grind, fun h k => Null.of (Null.add h k) fun n => by grind⟩
end RR
/-- the real numbers -/
def Re : Type := Quotient RR.CSq.S
namespace Re
open RR
def mk (a : CSq) : Re := Quotient.mk CSq.S a
theorem sound {a b : CSq} (h : ∀ n, a.f n = b.f n) : mk a = mk b := Quotient.sound (nul fun n => by rw [h n]; grind)
theorem ind {P : Re → Prop} (h : ∀ a, P (mk a)) (x : Re) : P x := Quotient.ind h x
def ofQ (q : Rat) : Re := mk ⟨fun _ => q, Cy.const q⟩
def add : Re → Re → Re := Quotient.lift₂ (fun a b => mk ⟨fun n => a.f n + b.f n, a.c.add b.c⟩) fun a b c d h k => Quotient.sound (Null.of (Null.add h k) fun n => by grind)
def neg : Re → Re := Quotient.lift (fun a => mk ⟨fun n => - a.f n, a.c.neg⟩) fun a b h => Quotient.sound (Null.of (Null.neg h) fun n => by grind)
def mul : Re → Re → Re := Quotient.lift₂ (fun a b => mk ⟨fun n => a.f n * b.f n, a.c.mul b.c⟩) fun a b c d h k => Quotient.sound (Null.of (Null.add (Null.mul h b.c.bd) (Null.mul k c.c.bd)) fun n => by grind)
def pos : Re → Prop := Quotient.lift (fun a => Pos a.f) fun a b h => propext ⟨fun p => Pos.cg p (Null.of (Null.neg h) fun n => by grind), fun p => Pos.cg p h⟩
instance : Add Re := ⟨add⟩
instance : Neg Re := ⟨neg⟩
instance : Mul Re := ⟨mul⟩
instance : Sub Re := ⟨fun a b => a + -b⟩
instance : NatCast Re := ⟨fun n => ofQ n⟩
instance : IntCast Re := ⟨fun n => ofQ n⟩
instance (n : Nat) : OfNat Re n := ⟨ofQ n⟩
def pw (a : Re) : Nat → Re
  | 0 => 1
  | n + 1 => pw a n * a
instance : HPow Re Nat Re := ⟨pw⟩
theorem add_mk (a b : CSq) : mk a + mk b = mk ⟨fun n => a.f n + b.f n, a.c.add b.c⟩ := rfl
theorem mul_mk (a b : CSq) : mk a * mk b = mk ⟨fun n => a.f n * b.f n, a.c.mul b.c⟩ := rfl
theorem neg_mk (a : CSq) : - mk a = mk ⟨fun n => - a.f n, a.c.neg⟩ := rfl
theorem num (n : Nat) : (OfNat.ofNat n : Re) = mk ⟨fun _ => (n : Rat), Cy.const _⟩ := rfl
instance : Lean.Grind.CommRing Re where
  nsmul := ⟨fun n a => ofQ n * a⟩
  zsmul := ⟨fun n a => ofQ n * a⟩
  add_zero a := by revert a; exact ind fun a => sound fun n => by show a.f n + ((0 : Nat) : Rat) = a.f n; exact Rat.add_zero _
  add_comm a b := by revert a b; exact ind fun a => ind fun b => sound fun n => by show a.f n + b.f n = b.f n + a.f n; exact Rat.add_comm _ _
  add_assoc a b c := by revert a b c; exact ind fun a => ind fun b => ind fun c => sound fun n => by show a.f n + b.f n + c.f n = a.f n + (b.f n + c.f n); exact Rat.add_assoc _ _ _
  neg_add_cancel a := by revert a; exact ind fun a => sound fun n => by show - a.f n + a.f n = ((0 : Nat) : Rat); exact Rat.neg_add_cancel _
  mul_assoc a b c := by revert a b c; exact ind fun a => ind fun b => ind fun c => sound fun n => by show a.f n * b.f n * c.f n = a.f n * (b.f n * c.f n); exact Rat.mul_assoc _ _ _
  mul_comm a b := by revert a b; exact ind fun a => ind fun b => sound fun n => by show a.f n * b.f n = b.f n * a.f n; exact Rat.mul_comm _ _
  mul_one a := by revert a; exact ind fun a => sound fun n => by show a.f n * ((1 : Nat) : Rat) = a.f n; exact Rat.mul_one _
  one_mul a := by revert a; exact ind fun a => sound fun n => by show ((1 : Nat) : Rat) * a.f n = a.f n; exact Rat.one_mul _
  left_distrib a b c := by revert a b c; exact ind fun a => ind fun b => ind fun c => sound fun n => by show a.f n * (b.f n + c.f n) = a.f n * b.f n + a.f n * c.f n; exact Rat.mul_add _ _ _
  right_distrib a b c := by revert a b c; exact ind fun a => ind fun b => ind fun c => sound fun n => by show (a.f n + b.f n) * c.f n = a.f n * c.f n + b.f n * c.f n; exact Rat.add_mul _ _ _
  zero_mul a := by revert a; exact ind fun a => sound fun n => by show ((0 : Nat) : Rat) * a.f n = ((0 : Nat) : Rat); exact Rat.zero_mul _
  mul_zero a := by revert a; exact ind fun a => sound fun n => by show a.f n * ((0 : Nat) : Rat) = ((0 : Nat) : Rat); exact Rat.mul_zero _
  pow_zero a := rfl
  pow_succ a n := rfl
  ofNat_succ x := sound fun n => by show ((x + 1 : Nat) : Rat) = ((x : Nat) : Rat) + ((1 : Nat) : Rat); push_cast; rfl
  ofNat_eq_natCast n := rfl
  nsmul_eq_natCast_mul n a := rfl
  sub_eq_add_neg a b := rfl
  neg_zsmul i a := by revert a; exact ind fun a => sound fun n => by show ((-i : Int) : Rat) * a.f n = - ((i : Rat) * a.f n); rw [Rat.intCast_neg, Rat.neg_mul]
  zsmul_natCast_eq_nsmul n a := rfl
  intCast_ofNat n := rfl
  intCast_neg i := sound fun n => by show ((-i : Int) : Rat) = - (i : Rat); exact Rat.intCast_neg i
theorem tri (x : Re) : pos x ∨ x = 0 ∨ pos (-x) := by
  revert x
  refine ind fun a => ?_
  rcases a.c.tri with h | h | h
  · exact .inl h
  · exact .inr (.inl (Quotient.sound (Null.of h fun n => by show a.f n - ((0 : Nat) : Rat) = a.f n; grind)))
  · exact .inr (.inr h)
theorem pos_add {x y : Re} (h : pos x) (k : pos y) : pos (x + y) := by
  revert h k; revert x y
  exact fun {x y} => ind (P := fun x => pos x → pos y → pos (x + y)) (fun a => ind (P := fun y => pos (mk a) → pos y → pos (mk a + y)) (fun b h k => Pos.add h k) y) x
theorem pos_mul {x y : Re} (h : pos x) (k : pos y) : pos (x * y) := by
  revert h k; revert x y
  exact fun {x y} => ind (P := fun x => pos x → pos y → pos (x * y)) (fun a => ind (P := fun y => pos (mk a) → pos y → pos (mk a * y)) (fun b h k => Pos.mul h k) y) x
theorem pos_ne {x : Re} (h : pos x) : x ≠ 0 := by
  rintro rfl
  exact Pos.not_null (f := fun _ => ((0 : Nat) : Rat)) h (nul fun _ => rfl)
theorem pos_neg {x : Re} (h : pos x) (k : pos (-x)) : False := by
  have := pos_add h k
  rw [show x + -x = 0 by grind] at this
  exact pos_ne this rfl
instance : LT Re := ⟨fun a b => pos (b - a)⟩
instance : LE Re := ⟨fun a b => ¬ pos (a - b)⟩
theorem lt_def (a b : Re) : a < b ↔ pos (b - a) := Iff.rfl
theorem le_def (a b : Re) : a ≤ b ↔ ¬ pos (a - b) := Iff.rfl
theorem le_or (a b : Re) : a ≤ b ↔ a = b ∨ a < b := by
  rw [le_def, lt_def]
  rcases tri (b - a) with h | h | h
  · refine ⟨fun _ => .inr h, fun _ k => pos_neg h ?_⟩
    rwa [show -(b - a) = a - b by grind]
  · have : a = b := by grind
    subst this
    exact ⟨fun _ => .inl rfl, fun _ k => pos_ne k (by grind)⟩
  · rw [show -(b - a) = a - b by grind] at h
    refine ⟨fun k => absurd h k, fun k => ?_⟩
    rcases k with k | k
    · subst k; exact absurd (by grind) (pos_ne h)
    · exact (pos_neg h (by rwa [show -(a - b) = b - a by grind])).elim
instance : Std.IsLinearOrder Re where
  le_refl a := (le_or a a).mpr (.inl rfl)
  le_trans a b c h k := by
    rw [le_or] at *
    rcases h with rfl | h
    · exact k
    · rcases k with rfl | k
      · exact .inr h
      · exact .inr (by rw [lt_def] at *; rw [show c - a = (b - a) + (c - b) by grind]; exact pos_add h k)
  le_antisymm a b h k := by
    rw [le_or] at h
    rcases h with h | h
    · exact h
    · exact absurd h k
  le_total a b := by
    by_cases h : a ≤ b
    · exact .inl h
    · refine .inr ((le_or b a).mpr (.inr ?_))
      exact Classical.byContradiction fun k => h k
instance : Std.LawfulOrderLT Re where
  lt_iff a b := by
    constructor
    · exact fun h => ⟨(le_or a b).mpr (.inr h), fun k => k h⟩
    · exact fun h => Classical.byContradiction fun k => h.2 k
theorem pos_one : pos 1 := Pos.const (c := ((1 : Nat) : Rat)) (by decide)
instance : Lean.Grind.OrderedRing Re where
  add_le_left_iff {a b} c := by rw [le_def, le_def, show a + c - (b + c) = a - b by grind]
  zero_lt_one := by rw [lt_def, show (1 : Re) - 0 = 1 by grind]; exact pos_one
  mul_lt_mul_of_pos_left {a b c} h k := by
    rw [lt_def] at *
    rw [show c * b - c * a = (c - 0) * (b - a) by grind]
    exact pos_mul k h
  mul_lt_mul_of_pos_right {a b c} h k := by
    rw [lt_def] at *
    rw [show b * c - a * c = (c - 0) * (b - a) by grind]
    exact pos_mul k h
end Re
/-- a text by its signs -/
abbrev S (l : List Nat) : Str := ⟨l.toArray⟩
theorem S_list (l : List Nat) : (S l).cps.toList = l := rfl
theorem S_len (l : List Nat) : (S l).length = l.length := by show l.toArray.size = _; simp
theorem S_app (a b : List Nat) : S a ++ S b = S (a ++ b) := by
  show Str.append _ _ = _
  unfold Str.append
  simp
theorem S_inj {a b : List Nat} : S a = S b ↔ a = b := by
  constructor
  · intro h
    have := congrArg (fun s : Str => s.cps.toList) h
    simpa using this
  · intro h; rw [h]
theorem S_beq (a b : List Nat) : (S a == S b) = decide (a = b) := by
  by_cases h : a = b
  · subst h; simp
  · rw [decide_eq_false h]
    exact beq_eq_false_iff_ne.mpr fun z => h (S_inj.mp z)
theorem dAdd_S {a b : List Nat} (h : a.length + b.length ≤ 16777216) : dAdd (.str (S a)) (.str (S b)) = .ok (.str (S (a ++ b))) := by
  show ((Out.stuck : Out D).or ((dAddS (.str (S a)) (.str (S b))).or _)) = _
  have e : dAddS (.str (S a)) (.str (S b)) = .ok (.str (S (a ++ b))) := by
    show chk _ (Out.ok (D.str (S a ++ S b))) = _
    rw [S_app]
    exact chk_pos (by rw [S_len, S_len]; exact h)
  rw [e]; rfl
theorem dIx_S {l : List Nat} {k : Nat} {c : Nat} (h : l[k]? = some c) (z : l.length ≤ 16777216) : dIx (.str (S l)) (.int k) = .ok (.str (S [c])) := by
  show chk _ (match atI (S l).cps.toList (k : Nat) with | some c => Out.ok (D.str ⟨#[c]⟩) | none => .stuck) = _
  rw [S_list, atI_nat h]
  exact chk_pos (by rw [S_len]; exact z)
theorem cLen_S {l : List Nat} (z : l.length ≤ 16777216) : cLen [.str (S l)] = .ok (.int l.length) := by
  show chk _ (Out.ok (D.int (S l).length)) = _
  rw [S_len]
  exact chk_pos z
theorem dSl_S {l : List Nat} (z : l.length ≤ 16777216) (lo hi : Option Int) : dSl (.str (S l)) lo hi = .ok (.str (S (cutD l lo hi))) := by
  have e := dSl_str (z := S l) (by rw [S_len]; exact z) lo hi
  rw [e]
  have : cutS (S l) lo hi = S (cutD l lo hi) := by
    unfold cutS cutD
    rw [S_len]
  rw [this]
theorem cutD_to {α : Type} (l : List α) {k : Nat} (h : k ≤ l.length) : cutD l none (some (k : Int)) = l.take k := by
  unfold cutD
  rw [HT.sIx_none, HT.sIx_nat, List.drop_zero, Nat.sub_zero, Nat.min_eq_left h]
theorem cutD_from {α : Type} (l : List α) {k : Nat} (h : k ≤ l.length) : cutD l (some (k : Int)) none = l.drop k := by
  unfold cutD
  rw [HT.sIx_none, HT.sIx_nat, Nat.min_eq_left h]
  exact List.take_of_length_le (by rw [List.length_drop]; exact Nat.le_refl _)
/-- the alphabet -/
def abc : List Nat := [97, 98, 99, 100, 101, 102, 103, 104, 105, 106, 107, 108, 109, 110, 111, 112, 113, 114, 115, 116, 117, 118, 119, 120, 121, 122]
theorem abc_str : Str.ofString "abcdefghijklmnopqrstuvwxyz" = S abc := by decide +kernel
theorem abc_at {i : Int} (h0 : 0 ≤ i) (h1 : i < 26) : dIx (.str (S abc)) (.int i) = .ok (.str (S [97 + i.toNat])) := by
  have e : i = (i.toNat : Int) := by omega
  have hl : i.toNat < 26 := by omega
  rw [e]
  generalize i.toNat = k at hl
  rw [Int.toNat_natCast]
  refine dIx_S ?_ (by decide)
  have : ∀ k : Nat, k < 26 → abc[k]? = some (97 + k) := by decide
  exact this k hl
theorem abc_find {c : Nat} (h0 : 97 ≤ c) (h1 : c ≤ 122) : Txt.find (S abc) (S [c]) = (c : Int) - 97 := by
  have : ∀ c : Nat, c < 123 → 97 ≤ c → Txt.find (S abc) (S [c]) = (c : Int) - 97 := by decide +kernel
  exact this c (by omega) h0
/-- a name: one to ten small letters -/
structure Nm (l : List Nat) : Prop where
  pos : 1 ≤ l.length
  len : l.length ≤ 10
  let_ : ∀ c ∈ l, 97 ≤ c ∧ c ≤ 122
def words : List (List Nat) := [[115, 111, 109, 101], [97, 108, 108], [97, 110, 100], [111, 114], [110, 111, 116], [121, 101, 115], [110, 111]]
def fit (l : List Nat) : List Nat := if l ∈ words then l ++ [113] else l
theorem fit_eq {l : List Nat} (h : l.length ≤ 100) : m__law_fit [.str (S l)] = .ok (.str (S (fit l))) := by
  have e0 : Str.ofString "some" = S [115, 111, 109, 101] := by decide +kernel
  have e1 : Str.ofString "all" = S [97, 108, 108] := by decide +kernel
  have e2 : Str.ofString "and" = S [97, 110, 100] := by decide +kernel
  have e3 : Str.ofString "or" = S [111, 114] := by decide +kernel
  have e4 : Str.ofString "not" = S [110, 111, 116] := by decide +kernel
  have e5 : Str.ofString "yes" = S [121, 101, 115] := by decide +kernel
  have e6 : Str.ofString "no" = S [110, 111] := by decide +kernel
  have e7 : Str.ofString "q" = S [113] := by decide +kernel
  have e8 : mkLst [.str (S [115, 111, 109, 101]), .str (S [97, 108, 108]), .str (S [97, 110, 100]), .str (S [111, 114]), .str (S [110, 111, 116]), .str (S [121, 101, 115]), .str (S [110, 111])] = .ok (.lst (words.map fun w => .str (S w))) := chk_pos (by decide)
  have e9 : dIn (.str (S l)) (.lst (words.map fun w => .str (S w))) = .ok (.bl (decide (l ∈ words))) := by
    show ((dInL false (.str (S l)) (.lst (words.map fun w => .str (S w)))).or _) = _
    have : dInL false (.str (S l)) (.lst (words.map fun w => .str (S w))) = .ok (.bl (decide (l ∈ words))) := by
      show chk _ (Out.ok (D.bl (if false = true then _ else _))) = _
      rw [chk_pos ⟨rfl, by simp [List.all_map, flatD]⟩, if_neg Bool.false_ne_true]
      congr 2
      rw [List.any_map]
      have : ((fun y => eqD y (D.str (S l))) ∘ fun w => D.str (S w)) = fun w => decide (w = l) := by
        funext w
        exact S_beq w l
      rw [this]
      exact Bool.eq_iff_iff.mpr (by simp [List.any_eq_true])
    rw [this]; rfl
  have e10 := dAdd_S (a := l) (b := [113]) (by simp; omega)
  unfold m__law_fit b__law_fit
  rw [e0, e1, e2, e3, e4, e5, e6, e7]
  walk_at "pda"
  unfold fit
  by_cases c : l ∈ words
  · simp [c]
  · simp [c]
theorem fit_nm {l : List Nat} (h : 1 ≤ l.length) (k : l.length ≤ 9) (z : ∀ c ∈ l, 97 ≤ c ∧ c ≤ 122) : Nm (fit l) := by
  unfold fit
  by_cases c : l ∈ words
  · rw [if_pos c]
    refine ⟨by simp, by simp; omega, fun c hc => ?_⟩
    rcases List.mem_append.mp hc with q | q
    · exact z c q
    · have : c = 113 := by simpa using q
      subst this; omega
  · rw [if_neg c]; exact ⟨h, by omega, z⟩
theorem fit_len (l : List Nat) : (fit l = l ∧ l ∉ words) ∨ (fit l = l ++ [113] ∧ l ∈ words) := by
  unfold fit
  by_cases c : l ∈ words
  · exact .inr ⟨if_pos c, c⟩
  · exact .inl ⟨if_neg c, c⟩
theorem names_loop : ∀ (n : Nat) (f : Nat → D) (c : D) (acc : List Nat) (rest : Int) (x4 : Option D), acc.length + n ≤ 10 → 0 ≤ rest → (∀ c ∈ acc, 97 ≤ c ∧ c ≤ 122) →
    ∃ acc' rest' x4', forL (gN 4) b__law_names_1 ((List.range n).map f) [some c, some (.str (S abc)), some (.str (S acc)), some (.int rest), x4, none, none, none, none] = .nx [some c, some (.str (S abc)), some (.str (S acc')), some (.int rest'), x4', none, none, none, none] ∧
      acc'.length = acc.length + n ∧ 0 ≤ rest' ∧ ∀ c ∈ acc', 97 ≤ c ∧ c ≤ 122 := by
  intro n
  induction n with
  | zero => intro f c acc rest x4 _ h z; exact ⟨acc, rest, x4, rfl, rfl, h, z⟩
  | succ n ih =>
    intro f c acc rest x4 hl h0 z
    have m0 : 0 ≤ rest % 26 := Int.emod_nonneg _ (by decide)
    have m1 : rest % 26 < 26 := Int.emod_lt_of_pos _ (by decide)
    have h1 : 0 ≤ rest / 26 := Int.ediv_nonneg h0 (by decide)
    obtain ⟨acc', rest', x4', e, l', r', z'⟩ := ih (fun k => f (k + 1)) c (acc ++ [97 + (rest % 26).toNat]) (rest / 26) (some (f 0)) (by simp; omega) h1 (fun c hc => by
      rcases List.mem_append.mp hc with q | q
      · exact z c q
      · have : c = 97 + (rest % 26).toNat := by simpa using q
        subst this; omega)
    refine ⟨acc', rest', x4', ?_, by rw [l']; simp; omega, r', z'⟩
    have e1 := abc_at m0 m1
    have e2 := dMod_int (i := rest) (j := 26) (by decide)
    have e3 := dDiv_int (i := rest) (j := 26) (by decide) (show Sz 5 26 by unfold Sz; decide) (by decide)
    have e4 := dAdd_S (a := acc) (b := [97 + (rest % 26).toNat]) (by simp; omega)
    rw [List.range_succ_eq_map, List.map_cons, List.map_map, forL_cons]
    have e5 : ((List.range n).map (f ∘ Nat.succ)) = (List.range n).map (fun k => f (k + 1)) := rfl
    rw [e5]
    clear ih z z' l' r' hl h0 h1 m0 m1
    generalize forL (gN 4) b__law_names_1 ((List.range n).map (fun k => f (k + 1))) = R at *
    unfold b__law_names_1
    walk_at "pda"
theorem names_ok {c : Int} (h : 0 ≤ c) : ∃ a b d, m__law_names [.int c] = .ok (.lst [.str (S a), .str (S b), .str (S d)]) ∧ Nm a ∧ Nm b ∧ Nm d ∧ a ≠ b ∧ a ≠ d ∧ b ≠ d := by
  have m0 : 0 ≤ c % 7 := Int.emod_nonneg _ (by decide)
  have m1 : c % 7 < 7 := Int.emod_lt_of_pos _ (by decide)
  have h1 : 0 ≤ c / 7 := Int.ediv_nonneg h (by decide)
  obtain ⟨acc, rest, x4, e, la, r0, za⟩ := names_loop (1 + c % 7).toNat (fun (n : Nat) => .int n) (.int c) [] (c / 7) none (by simp; omega) h1 (fun c hc => nomatch hc)
  have la' : 1 ≤ acc.length ∧ acc.length ≤ 7 := by rw [la]; simp; omega
  have e1 := fit_eq (l := acc) (by omega)
  have nF := fit_nm la'.1 (by omega) za
  have lF : (fit acc).length ≤ 8 := by
    rcases fit_len acc with ⟨q, _⟩ | ⟨q, _⟩
    · rw [q]; omega
    · rw [q]; simp; omega
  generalize fit acc = F at e1 nF lF
  obtain ⟨F1, F2, F3⟩ := nF
  have k0 : 0 ≤ rest % (F.length : Int) := Int.emod_nonneg _ (by omega)
  have k1 : rest % (F.length : Int) < F.length := Int.emod_lt_of_pos _ (by omega)
  have ek : rest % (F.length : Int) = ((rest % (F.length : Int)).toNat : Int) := by omega
  have hk : (rest % (F.length : Int)).toNat < F.length := by omega
  generalize (rest % (F.length : Int)).toNat = k at ek hk
  have hch := F3 F[k] (List.getElem_mem hk)
  have e2 := dIx_S (l := F) (k := k) (c := F[k]) (by simp) (by omega)
  have e3 := cLen_S (l := F) (by omega)
  have e4 := fun i => dMod_int (i := i) (j := (F.length : Int)) (by omega)
  have e5 := fun i => dMod_int (i := i) (j := 26) (by decide)
  have e6 := fun i => dMod_int (i := i) (j := 25) (by decide)
  have e7 := fun i => dMod_int (i := i) (j := 7) (by decide)
  have e8 := fun i => dDiv_int (i := i) (j := 7) (by decide) (show Sz 5 7 by unfold Sz; decide) (by decide)
  have e9 := fun i => dDiv_int (i := i) (j := 175) (by decide) (show Sz 8 175 by unfold Sz; decide) (by decide)
  have e10 := abc_find hch.1 hch.2
  have t0 : 0 ≤ ((F[k] : Int) - 97 + 1 + rest / 7 % 25) % 26 := Int.emod_nonneg _ (by decide)
  have t1 : ((F[k] : Int) - 97 + 1 + rest / 7 % 25) % 26 < 26 := Int.emod_lt_of_pos _ (by decide)
  have s0 : 0 ≤ rest / 7 % 25 := Int.emod_nonneg _ (by decide)
  have s1 : rest / 7 % 25 < 25 := Int.emod_lt_of_pos _ (by decide)
  have u0 : 0 ≤ rest / 175 % 26 := Int.emod_nonneg _ (by decide)
  have u1 : rest / 175 % 26 < 26 := Int.emod_lt_of_pos _ (by decide)
  have e11 := abc_at t0 t1
  have e12 := abc_at u0 u1
  have e13 := dSl_S (l := F) (by omega) none (some (k : Int))
  rw [cutD_to F (by omega)] at e13
  have e14 := dSl_S (l := F) (by omega) (some (((k + 1 : Nat)) : Int)) none
  rw [cutD_from F (by omega)] at e14
  have e15 : ((k : Int) + 1) = ((k + 1 : Nat) : Int) := by omega
  have ne : 97 + (((F[k] : Int) - 97 + 1 + rest / 7 % 25) % 26).toNat ≠ F[k] := by omega
  have let1 : 97 ≤ 97 + (((F[k] : Int) - 97 + 1 + rest / 7 % 25) % 26).toNat ∧ 97 + (((F[k] : Int) - 97 + 1 + rest / 7 % 25) % 26).toNat ≤ 122 := by omega
  have let2 : 97 ≤ 97 + (rest / 175 % 26).toNat ∧ 97 + (rest / 175 % 26).toNat ≤ 122 := by omega
  generalize 97 + (((F[k] : Int) - 97 + 1 + rest / 7 % 25) % 26).toNat = p at e11 ne let1
  generalize 97 + (rest / 175 % 26).toNat = q at e12 let2
  have lt : (F.take k).length = k := by rw [List.length_take]; omega
  have e16 := dAdd_S (a := F.take k) (b := [p]) (by rw [lt]; simp; omega)
  have e17 := dAdd_S (a := F.take k ++ [p]) (b := F.drop (k + 1)) (by simp; omega)
  have lp : (F.take k ++ [p] ++ F.drop (k + 1)).length = F.length := by simp; omega
  have e18 := fit_eq (l := F.take k ++ [p] ++ F.drop (k + 1)) (by omega)
  have e19 := dAdd_S (a := F) (b := [q]) (by simp; omega)
  have e20 := fit_eq (l := F ++ [q]) (by simp; omega)
  have e21 : rng1 [.int (1 + c % 7)] = .ok ((List.range (1 + c % 7).toNat).map fun (n : Nat) => .int n) := chk_pos (by omega)
  have n2 : Nm (fit (F.take k ++ [p] ++ F.drop (k + 1))) := fit_nm (by omega) (by omega) fun x hx => by
    rcases List.mem_append.mp hx with hx | hx
    · rcases List.mem_append.mp hx with hx | hx
      · exact F3 x (List.mem_of_mem_take hx)
      · have : x = p := by simpa using hx
        subst this; exact let1
    · exact F3 x (List.mem_of_mem_drop hx)
  have n3 : Nm (fit (F ++ [q])) := fit_nm (by simp) (by simp; omega) fun x hx => by
    rcases List.mem_append.mp hx with hx | hx
    · exact F3 x hx
    · have : x = q := by simpa using hx
      subst this; exact let2
  have pk : F.take k ++ [p] ++ F.drop (k + 1) ≠ F := fun z => by
    have : (F.take k ++ [p] ++ F.drop (k + 1))[k]? = F[k]? := by rw [z]
    rw [List.append_assoc, List.getElem?_append_right (by omega), lt, Nat.sub_self] at this
    simp [hk] at this
    exact ne this
  refine ⟨F, fit (F.take k ++ [p] ++ F.drop (k + 1)), fit (F ++ [q]), ?_, ⟨F1, F2, F3⟩, n2, n3, ?_, ?_, ?_⟩
  · have a1 : Str.ofString "" = S [] := by decide +kernel
    clear n2 n3 pk F1 F2 F3 let1 let2 ne la la' za hch lt lp k1 t0 t1 s0 s1 u0 u1 m0 m1 h h1 r0 lF k0
    unfold m__law_names b__law_names
    rw [abc_str, a1]
    walk_at "pda"
  · rcases fit_len (F.take k ++ [p] ++ F.drop (k + 1)) with ⟨z, _⟩ | ⟨z, _⟩
    · rw [z]; exact fun y => pk y.symm
    · rw [z]
      intro y
      have := congrArg List.length y
      simp at this; omega
  · rcases fit_len (F ++ [q]) with ⟨z, _⟩ | ⟨z, _⟩
    · rw [z]
      intro y
      have := congrArg List.length y
      simp at this
    · rw [z]
      intro y
      have := congrArg List.length y
      simp at this
  · rcases fit_len (F.take k ++ [p] ++ F.drop (k + 1)) with ⟨z, _⟩ | ⟨z, w⟩
    · rw [z]
      rcases fit_len (F ++ [q]) with ⟨z', _⟩ | ⟨z', _⟩
      · rw [z']
        intro y
        have := congrArg List.length y
        simp at this; omega
      · rw [z']
        intro y
        have := congrArg List.length y
        simp at this; omega
    · rw [z]
      rcases fit_len (F ++ [q]) with ⟨z', _⟩ | ⟨z', _⟩
      · rw [z']
        intro y
        have := List.append_inj' y rfl
        exact pk this.1
      · rw [z']
        intro y
        have := congrArg List.length y
        simp at this; omega
/-! rows of keys and values -/
section
variable {κ ν : Type} [DecidableEq κ]
def fnd : List (κ × ν) → κ → Option ν
  | [], _ => none
  | q :: l, m => if q.1 = m then some q.2 else fnd l m
def put : List (κ × ν) → κ → ν → List (κ × ν)
  | [], m, z => [(m, z)]
  | q :: l, m, z => if q.1 = m then (m, z) :: l else q :: put l m z
theorem fnd_put (l : List (κ × ν)) (m k : κ) (z : ν) : fnd (put l m z) k = if m = k then some z else fnd l k := by
  induction l with
  | nil => simp only [put, fnd]
  | cons q l ih =>
    simp only [put]
    by_cases c : q.1 = m
    · rw [if_pos c]
      simp only [fnd]
      by_cases d : m = k
      · rw [if_pos d, if_pos d]
      · rw [if_neg d, if_neg d, if_neg (fun y => d (c.symm.trans y))]
    · rw [if_neg c]
      simp only [fnd, ih]
      by_cases d : q.1 = k
      · rw [if_pos d, if_pos d, if_neg (fun y => c (d.trans y.symm))]
      · rw [if_neg d, if_neg d]
theorem fnd_none {l : List (κ × ν)} {m : κ} : fnd l m = none ↔ m ∉ l.map (·.1) := by
  induction l with
  | nil => simp [fnd]
  | cons q l ih =>
    simp only [fnd, List.map_cons, List.mem_cons, not_or]
    by_cases c : q.1 = m
    · rw [if_pos c]
      constructor
      · intro z; cases z
      · intro z; exact absurd c.symm z.1
    · rw [if_neg c, ih]
      exact ⟨fun z => ⟨fun y => c y.symm, z⟩, fun z => z.2⟩
theorem put_keys (l : List (κ × ν)) (m : κ) (z : ν) : (put l m z).map (·.1) = if m ∈ l.map (·.1) then l.map (·.1) else l.map (·.1) ++ [m] := by
  induction l with
  | nil => simp [put]
  | cons q l ih =>
    simp only [put]
    by_cases c : q.1 = m
    · rw [if_pos c, if_pos (by simp [c])]
      simp [c]
    · rw [if_neg c, List.map_cons, ih]
      by_cases d : m ∈ l.map (·.1)
      · rw [if_pos d, if_pos (by rw [List.map_cons]; exact List.mem_cons_of_mem _ d)]
        rfl
      · rw [if_neg d, if_neg (by rw [List.map_cons, List.mem_cons, not_or]; exact ⟨fun y => c y.symm, d⟩)]
        rfl
theorem put_nodup {l : List (κ × ν)} (h : (l.map (·.1)).Nodup) (m : κ) (z : ν) : ((put l m z).map (·.1)).Nodup := by
  rw [put_keys]
  by_cases c : m ∈ l.map (·.1)
  · rw [if_pos c]; exact h
  · rw [if_neg c]
    exact List.nodup_append.mpr ⟨h, by simp, fun x hx y hy => by
      have : y = m := by simpa using hy
      subst this
      intro e; subst e; exact c hx⟩
theorem put_len (l : List (κ × ν)) (m : κ) (z : ν) : (put l m z).length ≤ l.length + 1 := by
  have := congrArg List.length (put_keys l m z)
  rw [List.length_map] at this
  rw [this]
  split <;> simp
theorem put_mem {l : List (κ × ν)} {m : κ} {z : ν} : ∀ k ∈ (put l m z).map (·.1), k = m ∨ k ∈ l.map (·.1) := by
  intro k hk
  rw [put_keys] at hk
  split at hk
  · exact .inr hk
  · rcases List.mem_append.mp hk with h | h
    · exact .inr h
    · exact .inl (by simpa using h)
theorem fnd_mem : ∀ {l : List (κ × ν)} {m : κ} {z : ν}, (l.map (·.1)).Nodup → (fnd l m = some z ↔ (m, z) ∈ l)
  | [], m, z, _ => by simp [fnd]
  | q :: l, m, z, h => by
    rw [List.map_cons, List.nodup_cons] at h
    simp only [fnd, List.mem_cons]
    by_cases c : q.1 = m
    · rw [if_pos c]
      constructor
      · intro e
        exact .inl (Prod.ext c.symm (Option.some.inj e).symm)
      · intro e
        rcases e with e | e
        · rw [← e]
        · exact absurd (List.mem_map.mpr ⟨(m, z), e, rfl⟩) (by rw [← c]; exact h.1)
    · rw [if_neg c, fnd_mem h.2]
      constructor
      · exact .inr
      · intro e
        rcases e with e | e
        · exact absurd (by rw [← e]) c
        · exact e

open Classical in
theorem dicGet_E {enc : κ → D} {ev : ν → D} (inj : ∀ {a b}, enc a = enc b → a = b) (l : List (κ × ν)) (m : κ) : dicGet (l.map fun q => (enc q.1, ev q.2)) (enc m) = (fnd l m).map ev := by
  induction l with
  | nil => rfl
  | cons q l ih =>
    rw [List.map_cons]
    simp only [fnd]
    by_cases c : q.1 = m
    · rw [if_pos c, dicGet_pos (show ((enc q.1, ev q.2) : D × D).1 = enc m by rw [← c])]; rfl
    · rw [if_neg c, dicGet_neg (fun z => c (inj z)), ih]
open Classical in
theorem dicPut_E {enc : κ → D} {ev : ν → D} (inj : ∀ {a b}, enc a = enc b → a = b) {l : List (κ × ν)} (h : (l.map (·.1)).Nodup) (m : κ) (z : ν) : dicPut (l.map fun q => (enc q.1, ev q.2)) (enc m) (ev z) = (put l m z).map fun q => (enc q.1, ev q.2) := by
  unfold dicPut
  rw [dicGet_any, dicGet_E inj]
  by_cases c : m ∈ l.map (·.1)
  · have : (fnd l m).isSome = true := by
      cases e : fnd l m with
      | none => exact absurd c (fnd_none.mp e)
      | some y => rfl
    rw [Option.isSome_map, if_pos this]
    clear this
    induction l with
    | nil => exact nomatch c
    | cons q l ih =>
      rw [List.map_cons, List.nodup_cons] at h
      rw [List.map_cons, List.map_cons]
      simp only [put]
      by_cases d : q.1 = m
      · rw [if_pos d, List.map_cons, if_pos (show enc q.1 = enc m by rw [← d])]
        rw [show ((enc q.1, ev z) : D × D) = (enc m, ev z) by rw [← d]]
        congr 1
        rw [List.map_map]
        refine List.map_congr_left fun r hr => ?_
        show (if enc r.1 = enc m then _ else _) = _
        rw [if_neg]
        intro y
        have y' : r.1 = m := inj y
        exact h.1 (by rw [d]; exact List.mem_map.mpr ⟨r, hr, y'⟩)
      · rw [if_neg d, List.map_cons, if_neg (show ¬ enc q.1 = enc m from fun y => d (inj y))]
        rw [List.map_cons] at c
        rw [ih h.2 ((List.mem_cons.mp c).resolve_left fun y => d y.symm)]
  · have : fnd l m = none := fnd_none.mpr c
    rw [this, if_neg (by simp)]
    clear this
    induction l with
    | nil => rfl
    | cons q l ih =>
      rw [List.map_cons, List.mem_cons, not_or] at c
      rw [List.map_cons, List.nodup_cons] at h
      rw [List.map_cons, List.cons_append, ih h.2 c.2]
      simp only [put]
      rw [if_neg (fun y => c.1 y.symm), List.map_cons]
def tot (l : List (κ × Int)) : List (κ × Int) → List (κ × Int)
  | [] => l
  | q :: ps => tot (put l q.1 ((fnd l q.1).getD 0 + q.2)) ps
def sumOf : List (κ × Int) → κ → Int
  | [], _ => 0
  | q :: ps, m => (if q.1 = m then q.2 else 0) + sumOf ps m
theorem tot_nodup : ∀ (ps l : List (κ × Int)), (l.map (·.1)).Nodup → ((tot l ps).map (·.1)).Nodup
  | [], _, h => h
  | q :: ps, l, h => tot_nodup ps _ (put_nodup h _ _)
theorem tot_mem : ∀ (ps l : List (κ × Int)), ∀ k ∈ (tot l ps).map (·.1), k ∈ l.map (·.1) ∨ k ∈ ps.map (·.1)
  | [], l, k, h => .inl h
  | q :: ps, l, k, h => by
    rcases tot_mem ps _ k h with z | z
    · rcases put_mem k z with y | y
      · exact .inr (by simp [y])
      · exact .inl y
    · exact .inr (by rw [List.map_cons]; exact List.mem_cons_of_mem _ z)
theorem tot_len : ∀ (ps l : List (κ × Int)), (tot l ps).length ≤ l.length + ps.length
  | [], l => by simp [tot]
  | q :: ps, l => by
    have h1 := tot_len ps (put l q.1 ((fnd l q.1).getD 0 + q.2))
    have h2 := put_len l q.1 ((fnd l q.1).getD 0 + q.2)
    simp only [tot, List.length_cons]
    omega
theorem tot_sum : ∀ (ps l : List (κ × Int)) (m : κ), (fnd (tot l ps) m).getD 0 = (fnd l m).getD 0 + sumOf ps m
  | [], l, m => by simp [tot, sumOf]
  | q :: ps, l, m => by
    simp only [tot, sumOf]
    rw [tot_sum ps, fnd_put]
    by_cases c : q.1 = m
    · rw [if_pos c, if_pos c, c, Option.getD_some]
      omega
    · rw [if_neg c, if_neg c]
      omega
theorem tot_has (ps : List (κ × Int)) {m : κ} {z : Int} (hz : z ≠ 0) : (m, z) ∈ tot [] ps ↔ sumOf ps m = z := by
  rw [← fnd_mem (tot_nodup ps [] List.nodup_nil)]
  have h := tot_sum ps [] m
  simp only [fnd, Option.getD_none, Int.zero_add] at h
  rw [← h]
  cases e : fnd (tot [] ps) m with
  | none =>
    simp only [Option.getD_none]
    constructor
    · intro y; cases y
    · intro y; exact absurd y.symm hz
  | some y =>
    simp only [Option.getD_some, Option.some.injEq]
theorem sumOf_app (a b : List (κ × Int)) (m : κ) : sumOf (a ++ b) m = sumOf a m + sumOf b m := by
  induction a with
  | nil => simp [sumOf]
  | cons q a ih => simp only [List.cons_append, sumOf, ih]; omega
theorem sumOf_rev (a : List (κ × Int)) (m : κ) : sumOf a.reverse m = sumOf a m := by
  induction a with
  | nil => rfl
  | cons q a ih => rw [List.reverse_cons, sumOf_app, ih]; simp only [sumOf]; omega
end
theorem dataLt_irrefl (x : PyData) : dataLt x x = false := PyProof.Rows.lex_irrefl _
theorem dataLt_asym {x y : PyData} (h : dataLt x y = true) : dataLt y x = false := by
  cases e : dataLt y x with
  | false => rfl
  | true =>
    have := PyProof.Rows.lex_trans _ _ _ h e
    rw [PyProof.Rows.lex_irrefl] at this
    cases this
theorem dataLe_trans {β : Type} (k : β → PyData) (a b c : β) (h1 : dataLe false k a b = true) (h2 : dataLe false k b c = true) : dataLe false k a c = true := by
  rw [PySem.W.dataLe_eq] at *
  simp only [cond_false, Bool.not_eq_true'] at *
  cases e : dataLt (k c) (k a) with
  | false => rfl
  | true =>
    rcases PyProof.Rows.lex_negTrans _ (keyToks (k b)) _ e with z | z
    · exact absurd (show dataLt (k c) (k b) = true from z) (by rw [h2]; exact Bool.false_ne_true)
    · exact absurd (show dataLt (k b) (k a) = true from z) (by rw [h1]; exact Bool.false_ne_true)
theorem dataLe_total {β : Type} (k : β → PyData) (a b : β) : (dataLe false k a b || dataLe false k b a) = true := by
  rw [PySem.W.dataLe_eq]
  simp only [cond_false]
  cases e : dataLt (k b) (k a) with
  | false => rfl
  | true => rw [dataLt_asym e]; rfl
theorem str_tri {x y : List Nat} (h1 : ¬ x < y) (h2 : ¬ y < x) : x = y := by
  have e1 := PySem.W.dataLt_str (S x) (S y)
  have e2 := PySem.W.dataLt_str (S y) (S x)
  rw [S_list, S_list, decide_eq_false h1] at e1
  rw [S_list, S_list, decide_eq_false h2] at e2
  have := PyProof.Rows.lex_total _ _ e1 e2
  simpa [keyToks] using this
theorem sort_map {β : Type} (f : β → D) (l : List β) : sortD (l.map f) = (l.mergeSort (dataLe false fun b => toPy (f b))).map f := by
  unfold sortD
  exact (List.map_mergeSort (f := f) (r := dataLe false fun b => toPy (f b)) (s := dataLe false toPy) (l := l) fun a _ b _ => rfl).symm
theorem sort_pair {β : Type} (k : β → PyData) (l : List β) : (l.mergeSort (dataLe false k)).Pairwise fun a b => dataLt (k b) (k a) = false := by
  refine (List.pairwise_mergeSort (le := dataLe false k) (fun a b c => dataLe_trans k a b c) (fun a b => dataLe_total k a b) l).imp fun h => ?_
  rw [PySem.W.dataLe_eq] at h
  simpa using h
/-- alike data that are not equal: one is less -/
theorem alike_tri {x y : PyData} (h : alike x y = true) (h1 : dataLt x y = false) (h2 : dataLt y x = false) : PyData.eqv x y = true := by
  have e := PyProof.Rows.lex_total _ _ h1 h2
  cases q : PyData.eqv x y with
  | true => rfl
  | false =>
    have w := (PySem.W.toks_eqv x y h).2 q [] [.inl 0]
    rw [e] at w
    rw [PySem.W.lex_pre] at w
    rw [PyProof.Rows.lex_irrefl] at w
    exact absurd w (by decide)
/-! products -/
abbrev Pr := List Nat × Int
abbrev Mn := List Pr
def encP (p : Pr) : D := .tup [.str (S p.1), .int p.2]
def encM (m : Mn) : D := .tup (m.map encP)
/-- a product's names rise, its powers are 1 to most -/
structure Mono (most : Int) (m : Mn) : Prop where
  nm : ∀ p ∈ m, Nm p.1 ∧ 1 ≤ p.2 ∧ p.2 ≤ most
  up : m.Pairwise fun p q => p.1 < q.1
  few : m.length ≤ 1000
theorem strOk_nm {l : List Nat} (h : Nm l) : PyData.strOk (S l) = true := by
  unfold PyData.strOk
  show (l.toArray.all fun x => decide (x < 0x110000)) = true
  rw [List.all_toArray, List.all_eq_true]
  intro c hc
  have := h.let_ c hc
  exact decide_eq_true (by omega)
theorem toPy_P (p : Pr) : toPy (encP p) = .tuple [.str (S p.1), .int p.2] := rfl
theorem toPys_map (m : Mn) : toPys (m.map encP) = m.map fun p => .tuple [.str (S p.1), .int p.2] := by
  induction m with
  | nil => rfl
  | cons p m ih => simp only [List.map_cons, toPys, ih]; rfl
theorem toPy_M (m : Mn) : toPy (encM m) = .tuple (m.map fun p => .tuple [.str (S p.1), .int p.2]) := by
  show PyData.tuple (toPys _) = _
  rw [toPys_map]
theorem alike_P (p q : Pr) : alike (toPy (encP p)) (toPy (encP q)) = true := by
  simp [toPy_P, alike, alikeAll]
theorem alike_Ms : ∀ (m m' : Mn), alikeAll (m.map fun p => PyData.tuple [.str (S p.1), .int p.2]) (m'.map fun p => .tuple [.str (S p.1), .int p.2]) = true
  | [], _ => by simp [alikeAll]
  | _ :: _, [] => by simp [alikeAll]
  | p :: m, q :: m' => by simp [alikeAll, alike, alike_Ms m m']
theorem alike_M (m m' : Mn) : alike (toPy (encM m)) (toPy (encM m')) = true := by
  rw [toPy_M, toPy_M]
  simp [alike, alike_Ms]
theorem encP_inj {p q : Pr} (h : encP p = encP q) : p = q := by
  unfold encP at h
  simp at h
  obtain ⟨h1, h2⟩ := h
  exact Prod.ext h1 h2
theorem map_encP_inj : ∀ {m m' : Mn}, m.map encP = m'.map encP → m = m'
  | [], [], _ => rfl
  | [], _ :: _, h => by simp at h
  | _ :: _, [], h => by simp at h
  | p :: m, q :: m', h => by
    rw [List.map_cons, List.map_cons] at h
    injection h with h1 h2
    rw [encP_inj h1, map_encP_inj h2]
theorem encM_inj {m m' : Mn} (h : encM m = encM m') : m = m' := by
  unfold encM at h
  injection h with h
  exact map_encP_inj h
theorem lt_P {p q : Pr} (h : dataLt (toPy (encP q)) (toPy (encP p)) = false) (ne : p.1 ≠ q.1) : p.1 < q.1 := by
  rw [toPy_P, toPy_P, PySem.W.dataLt_pair (by rfl) (by rfl)] at h
  have e : PyData.eqv (.str (S q.1)) (.str (S p.1)) = false := by
    simp only [PyData.eqv]
    exact beq_eq_false_iff_ne.mpr fun z => ne (S_inj.mp z).symm
  rw [e, if_neg Bool.false_ne_true, PySem.W.dataLt_str, S_list, S_list, decide_eq_false_iff_not] at h
  cases Classical.em (p.1 < q.1) with
  | inl z => exact z
  | inr z => exact absurd (str_tri z h) ne
theorem depth_P (p : Pr) : (toPy (encP p)).depth = 1 := rfl
theorem depth_Ms : ∀ m : Mn, PyData.depthAll (m.map fun p => PyData.tuple [.str (S p.1), .int p.2]) ≤ 1
  | [] => by simp [PyData.depthAll]
  | p :: m => by
    have := depth_Ms m
    have e : (PyData.tuple [.str (S p.1), .int p.2]).depth = 1 := rfl
    simp only [List.map_cons, PyData.depthAll, e]
    omega
theorem depth_M (m : Mn) : (toPy (encM m)).depth ≤ 2 := by
  rw [toPy_M]
  have := depth_Ms m
  simp only [PyData.depth]
  omega
theorem keys_Ms : ∀ m : Mn, (∀ p ∈ m, Nm p.1) → keysP (m.map fun p => PyData.tuple [.str (S p.1), .int p.2]) = true
  | [], _ => rfl
  | p :: m, h => by
    simp only [List.map_cons, keysP, keyP, Bool.and_true, Bool.and_eq_true]
    exact ⟨strOk_nm (h p List.mem_cons_self), keys_Ms m fun q hq => h q (List.mem_cons_of_mem _ hq)⟩
theorem tkey_M {most : Int} {m : Mn} (h : Mono most m) : TKey (toPy (encM m)) := by
  refine ⟨⟨_, toPy_M m⟩, ?_, by have := depth_M m; omega⟩
  rw [toPy_M]
  exact keys_Ms m fun p hp => (h.nm p hp).1
/-- sorted(pairs of a name and a power) -/
theorem sorted_P {m : Mn} (hn : ∀ p ∈ m, Nm p.1) (nd : (m.map (·.1)).Nodup) (hl : m.length ≤ 1000) : ∃ r : Mn, cSorted [.lst (m.map encP)] = .ok (.lst (r.map encP)) ∧ r.Perm m ∧ r.Pairwise fun p q => p.1 < q.1 := by
  refine ⟨m.mergeSort (dataLe false fun b => toPy (encP b)), ?_, List.mergeSort_perm _ _, ?_⟩
  · show chk _ _ = _
    rw [sort_map]
    refine chk_pos ⟨?_, .inl (.inl ?_), ?_, ?_⟩
    · intro d hd e he
      rw [List.map_map] at hd he
      obtain ⟨p, _, rfl⟩ := List.mem_map.mp hd
      obtain ⟨q, _, rfl⟩ := List.mem_map.mp he
      exact alike_P p q
    · intro d hd
      rw [List.map_map] at hd
      obtain ⟨p, _, rfl⟩ := List.mem_map.mp hd
      exact ⟨_, _, rfl⟩
    · intro d hd
      obtain ⟨p, hp, rfl⟩ := List.mem_map.mp hd
      refine ⟨?_, by rw [depth_P]; decide⟩
      rw [toPy_P]
      simp [PyData.canLay0, PyData.canLayAll0, strOk_nm (hn p hp)]
    · rw [List.length_map]
      exact Nat.le_trans hl (by decide)
  · have h1 := sort_pair (fun b => toPy (encP b)) m
    have pm := List.mergeSort_perm m (dataLe false fun b => toPy (encP b))
    have h2 : ((m.mergeSort (dataLe false fun b => toPy (encP b))).map (·.1)).Nodup := (pm.map _).nodup_iff.mpr nd
    have h3 := List.pairwise_map.mp h2
    exact (h1.and h3).imp fun ⟨a, b⟩ => lt_P a b
theorem prod_loop : ∀ (xs : List (List Nat)) (n : Int) (acc : Mn) (L x3 x4 : Option D), 0 ≤ n → acc.length + xs.length ≤ 1000 →
    ∃ (l : Mn) (n' : Int) (x3' x4' : Option D), forL (gN 3) b__law_product_1 (xs.map fun w => .str (S w)) [L, some (.int n), some (.lst (acc.map encP)), x3, x4] = .nx [L, some (.int n'), some (.lst ((acc ++ l).map encP)), x3', x4'] ∧ (l.map (·.1)).Sublist xs ∧ ∀ p ∈ l, 1 ≤ p.2 ∧ p.2 ≤ 9 := by
  intro xs
  induction xs with
  | nil => intro n acc L x3 x4 _ _; exact ⟨[], n, x3, x4, by rw [List.append_nil]; rfl, List.Sublist.refl _, fun p hp => nomatch hp⟩
  | cons w xs ih =>
    intro n acc L x3 x4 h0 hl
    have m0 : 0 ≤ n % 10 := Int.emod_nonneg _ (by decide)
    have m1 : n % 10 < 10 := Int.emod_lt_of_pos _ (by decide)
    have h1 : 0 ≤ n / 30 := Int.ediv_nonneg h0 (by decide)
    have hl' : acc.length + xs.length ≤ 1000 ∧ acc.length + 1 + xs.length ≤ 1000 := by simp at hl; omega
    have e1 := fun i => dMod_int (i := i) (j := 10) (by decide)
    have e2 := fun i => dMod_int (i := i) (j := 3) (by decide)
    have e3 := fun i => dDiv_int (i := i) (j := 10) (by decide) (show Sz 4 10 by unfold Sz; decide) (by decide)
    have e4 := fun i => dDiv_int (i := i) (j := 30) (by decide) (show Sz 5 30 by unfold Sz; decide) (by decide)
    have s1 : Sz 4 (n % 10) := by unfold Sz; omega
    have e5 := dMul_int (j := 1) s1 (show Sz 1 1 by unfold Sz; decide) (by decide)
    have e6 := dMul_int (j := 0) s1 (show Sz 1 0 by unfold Sz; decide) (by decide)
    have e7 : ∀ o, chkS ((acc.map encP).length < sizeLine) o = o := fun o => app_ok (by rw [List.length_map]; omega) o
    rw [List.map_cons, forL_cons]
    by_cases c : 0 < n / 10 % 3
    · by_cases c2 : 0 < n % 10
      · obtain ⟨l, n', x3', x4', e, sl, pl⟩ := ih (n / 30) (acc ++ [(w, n % 10)]) L (some (.str (S w))) (some (.int (n % 10))) h1 (by simp; omega)
        refine ⟨(w, n % 10) :: l, n', x3', x4', ?_, by rw [List.map_cons]; exact List.Sublist.cons₂ w sl, ?_⟩
        · rw [show acc ++ (w, n % 10) :: l = acc ++ [(w, n % 10)] ++ l by simp, ← e]
          have e8 : (acc ++ [(w, n % 10)]).map encP = acc.map encP ++ [.tup [.str (S w), .int (n % 10)]] := by rw [List.map_append]; rfl
          rw [e8]
          clear ih e sl pl s1 hl hl'
          generalize forL (gN 3) b__law_product_1 (xs.map fun w => .str (S w)) = R at *
          unfold b__law_product_1
          walk_at "pda"
          simp [c, c2, e5, e7]
        · intro p hp
          rcases List.mem_cons.mp hp with rfl | hp
          · exact ⟨by show 1 ≤ n % 10; omega, by show n % 10 ≤ 9; omega⟩
          · exact pl p hp
      · obtain ⟨l, n', x3', x4', e, sl, pl⟩ := ih (n / 30) acc L (some (.str (S w))) (some (.int (n % 10))) h1 hl'.1
        refine ⟨l, n', x3', x4', ?_, List.Sublist.cons w sl, pl⟩
        rw [← e]
        clear ih e sl pl s1 hl hl'
        generalize forL (gN 3) b__law_product_1 (xs.map fun w => .str (S w)) = R at *
        unfold b__law_product_1
        walk_at "pda"
        simp [c, c2, e5]
    · obtain ⟨l, n', x3', x4', e, sl, pl⟩ := ih (n / 30) acc L (some (.str (S w))) (some (.int 0)) h1 hl'.1
      refine ⟨l, n', x3', x4', ?_, List.Sublist.cons w sl, pl⟩
      rw [← e]
      clear ih e sl pl s1 hl hl'
      generalize forL (gN 3) b__law_product_1 (xs.map fun w => .str (S w)) = R at *
      unfold b__law_product_1
      walk_at "pda"
      simp [c, e6]
theorem prod_eq {xs : List (List Nat)} (hx : ∀ w ∈ xs, Nm w) (nd : xs.Nodup) (hl : xs.length ≤ 10) {n : Int} (h : 0 ≤ n) : ∃ m, m__law_product [.lst (xs.map fun w => .str (S w)), .int n] = .ok (encM m) ∧ Mono 9 m ∧ (∀ p ∈ m, p.1 ∈ xs) ∧ m.length ≤ xs.length := by
  obtain ⟨l, n', x3, x4, e, sl, pl⟩ := prod_loop xs n [] (some (.lst (xs.map fun w => .str (S w)))) none none h (by simp; omega)
  have hin : ∀ p ∈ l, p.1 ∈ xs := fun p hp => sl.mem (List.mem_map.mpr ⟨p, hp, rfl⟩)
  have ll : l.length ≤ 10 := by have := sl.length_le; rw [List.length_map] at this; omega
  obtain ⟨r, e1, pm, up⟩ := sorted_P (m := l) (fun p hp => hx _ (hin p hp)) (nd.sublist sl) (by omega)
  refine ⟨r, ?_, ⟨fun p hp => ?_, up, by rw [pm.length_eq]; omega⟩, fun p hp => hin p (pm.mem_iff.mp hp), by rw [pm.length_eq, ← List.length_map (f := (·.1))]; exact sl.length_le⟩
  · have e' : forL (gN 3) b__law_product_1 (xs.map fun w => D.str (S w)) [some (.lst (xs.map fun w => .str (S w))), some (.int n), some (.lst []), none, none] = .nx [some (.lst (xs.map fun w => .str (S w))), some (.int n'), some (.lst (l.map encP)), x3, x4] := e
    unfold m__law_product b__law_product
    generalize (xs.map fun w => D.str (S w)) = ns at *
    clear e
    walk_at "pda"
    rfl
  · have hp' := pm.mem_iff.mp hp
    exact ⟨hx _ (hin p hp'), pl p hp'⟩
/-! forms -/
abbrev Tm := Mn × Int
def encQ (q : Tm) : D := .tup [encM q.1, .int q.2]
def encK (q : Tm) : D × D := (encM q.1, .int q.2)
/-- the order of products -/
def ltM (a b : Mn) : Bool := dataLt (toPy (encM a)) (toPy (encM b))
def keyQ (q : Tm) : PyData := toPy (encM q.1)
noncomputable def formOf (ps : List Tm) : List Tm := ((tot [] ps).mergeSort (dataLe false keyQ)).filter fun q => decide (q.2 ≠ 0)
theorem eqv_M {a b : Mn} (ha : ∀ p ∈ a, Nm p.1) (hb : ∀ p ∈ b, Nm p.1) (h : PyData.eqv (toPy (encM a)) (toPy (encM b)) = true) : a = b := by
  have k1 : keyP (toPy (encM a)) = true := by rw [toPy_M]; exact keys_Ms a ha
  have k2 : keyP (toPy (encM b)) = true := by rw [toPy_M]; exact keys_Ms b hb
  exact encM_inj (toPy_inj _ _ k1 ((eqv_key _ _ k1 k2).mp h))
theorem ltM_tri {a b : Mn} (ha : ∀ p ∈ a, Nm p.1) (hb : ∀ p ∈ b, Nm p.1) (h1 : ltM a b = false) (h2 : ltM b a = false) : a = b :=
  eqv_M ha hb (alike_tri (alike_M a b) h1 h2)
/-- a form: products rise, numbers are not 0 -/
structure Form (most : Int) (f : List Tm) : Prop where
  mono : ∀ q ∈ f, Mono most q.1
  nz : ∀ q ∈ f, q.2 ≠ 0
  up : f.Pairwise fun a b => ltM a.1 b.1 = true
theorem form_is {most : Int} {ps : List Tm} (h : ∀ q ∈ ps, Mono most q.1) : Form most (formOf ps) ∧ (∀ q, q ∈ formOf ps ↔ q.2 ≠ 0 ∧ sumOf ps q.1 = q.2) ∧ (formOf ps).length ≤ ps.length := by
  have pm := List.mergeSort_perm (tot [] ps) (dataLe false keyQ)
  have hk : ∀ q ∈ tot [] ps, Mono most q.1 := fun q hq => by
    rcases tot_mem ps [] q.1 (List.mem_map.mpr ⟨q, hq, rfl⟩) with z | z
    · exact nomatch z
    · obtain ⟨r, hr, e⟩ := List.mem_map.mp z
      rw [← e]; exact h r hr
  have hm : ∀ q, q ∈ formOf ps ↔ q ∈ tot [] ps ∧ q.2 ≠ 0 := fun q => by
    unfold formOf
    rw [List.mem_filter, pm.mem_iff, decide_eq_true_eq]
  have nd : (((tot [] ps).mergeSort (dataLe false keyQ)).map (·.1)).Nodup := (pm.map _).nodup_iff.mpr (tot_nodup ps [] List.nodup_nil)
  refine ⟨⟨fun q hq => hk q ((hm q).mp hq).1, fun q hq => ((hm q).mp hq).2, ?_⟩, fun q => ?_, ?_⟩
  · refine List.Pairwise.filter _ ?_
    have h1 := sort_pair keyQ (tot [] ps)
    have h2 := List.pairwise_map.mp nd
    have h3 : ((tot [] ps).mergeSort (dataLe false keyQ)).Pairwise fun a b => a ∈ tot [] ps ∧ b ∈ tot [] ps := by
      refine List.Pairwise.imp_of_mem (R := fun _ _ => True) (fun {a b} ha hb _ => ⟨pm.mem_iff.mp ha, pm.mem_iff.mp hb⟩) ?_
      exact List.pairwise_of_forall fun _ _ => trivial
    refine ((h1.and h2).and h3).imp fun {a b} ⟨⟨x, y⟩, z1, z2⟩ => ?_
    cases e : ltM a.1 b.1 with
    | true => rfl
    | false => exact absurd (ltM_tri (fun p hp => ((hk a z1).nm p hp).1) (fun p hp => ((hk b z2).nm p hp).1) e x) y
  · rw [hm]
    constructor
    · intro ⟨a, b⟩; exact ⟨b, (tot_has ps b).mp a⟩
    · intro ⟨a, b⟩; exact ⟨(tot_has ps a).mpr b, a⟩
  · unfold formOf
    refine Nat.le_trans (List.length_filter_le _ _) ?_
    rw [List.length_mergeSort]
    have := tot_len ps []
    simpa using this
theorem eq_of_up {α : Type} {R : α → α → Prop} (as : ∀ a b, R a b → R b a → False) : ∀ {l m : List α}, l.Pairwise R → m.Pairwise R → (∀ x, x ∈ l ↔ x ∈ m) → l = m
  | [], [], _, _, _ => rfl
  | [], b :: m, _, _, h => nomatch (h b).mpr List.mem_cons_self
  | a :: l, [], _, _, h => nomatch (h a).mp List.mem_cons_self
  | a :: l, b :: m, h1, h2, h => by
    rw [List.pairwise_cons] at h1 h2
    have e : a = b := by
      rcases List.mem_cons.mp ((h a).mp List.mem_cons_self) with z | z
      · exact z
      · rcases List.mem_cons.mp ((h b).mpr List.mem_cons_self) with y | y
        · exact y.symm
        · exact (as _ _ (h2.1 a z) (h1.1 b y)).elim
    subst e
    rw [eq_of_up as h1.2 h2.2 fun x => ?_]
    constructor
    · intro hx
      rcases List.mem_cons.mp ((h x).mp (List.mem_cons_of_mem _ hx)) with z | z
      · subst z; exact (as _ _ (h1.1 x hx) (h1.1 x hx)).elim
      · exact z
    · intro hx
      rcases List.mem_cons.mp ((h x).mpr (List.mem_cons_of_mem _ hx)) with z | z
      · subst z; exact (as _ _ (h2.1 x hx) (h2.1 x hx)).elim
      · exact z
theorem ltM_as (a b : Tm) (h : ltM a.1 b.1 = true) (k : ltM b.1 a.1 = true) : False := by
  have := dataLt_asym h
  rw [show dataLt (toPy (encM b.1)) (toPy (encM a.1)) = true from k] at this
  cases this
theorem formOf_rev {most : Int} {ps : List Tm} (h : ∀ q ∈ ps, Mono most q.1) : formOf ps.reverse = formOf ps := by
  obtain ⟨f1, m1, _⟩ := form_is h
  obtain ⟨f2, m2, _⟩ := form_is (ps := ps.reverse) fun q hq => h q (List.mem_reverse.mp hq)
  exact eq_of_up ltM_as f2.up f1.up fun q => by rw [m1, m2, sumOf_rev]
theorem dicGet_K (l : List Tm) (m : Mn) : dicGet (l.map encK) (encM m) = (fnd l m).map .int := dicGet_E (enc := encM) (ev := D.int) encM_inj l m
theorem dicPut_K {l : List Tm} (h : (l.map (·.1)).Nodup) (m : Mn) (z : Int) : dicPut (l.map encK) (encM m) (.int z) = (put l m z).map encK := dicPut_E (enc := encM) (ev := D.int) encM_inj h m z
theorem dkey_K {most : Int} {l : List Tm} {m : Mn} (hl : ∀ q ∈ l, Mono most q.1) (hm : Mono most m) : DKey (l.map encK) (encM m) := .inr ⟨tkey_M hm, fun p hp => by
  obtain ⟨q, hq, rfl⟩ := List.mem_map.mp hp
  exact tkey_M (hl q hq)⟩
theorem putO_K {most : Int} {l : List Tm} {m : Mn} {z : Int} (hl : ∀ q ∈ l, Mono most q.1) (hm : Mono most m) (h : (l.map (·.1)).Nodup) (z1 : l.length ≤ 10000) : putO (.dic (l.map encK)) (encM m) (.int z) = .ok (.dic ((put l m z).map encK)) := by
  show chk _ _ = _
  rw [dicPut_K h]
  exact chk_pos ⟨dkey_K hl hm, by rw [List.length_map]; exact Nat.lt_of_le_of_lt z1 (by decide)⟩
theorem get0_K (l : List Tm) (m : Mn) : (dicGet (l.map encK) (encM m)).getD (.int 0) = .int ((fnd l m).getD 0) := by
  rw [dicGet_K]
  cases fnd l m <;> rfl
theorem dIx_K {most : Int} {l : List Tm} {m : Mn} {z : Int} (hl : ∀ q ∈ l, Mono most q.1) (hm : Mono most m) (e : fnd l m = some z) : dIx (.dic (l.map encK)) (encM m) = .ok (.int z) := by
  show chk _ (match dicGet (l.map encK) (encM m) with | some d => Out.ok d | none => .stuck) = _
  rw [dicGet_K, e]
  exact chk_pos (dkey_K hl hm)
theorem sorted_K {most : Int} {l : List Tm} (hl : ∀ q ∈ l, Mono most q.1) (z1 : l.length ≤ 10000) : cSorted [.dic (l.map encK)] = .ok (.lst ((l.mergeSort (dataLe false keyQ)).map fun q => encM q.1)) := by
  show chk _ _ = _
  have e : (l.map encK).map (·.1) = l.map fun q => encM q.1 := by rw [List.map_map]; rfl
  rw [e, sort_map]
  refine chk_pos ⟨?_, .inr ?_, ?_, ?_⟩
  · intro d hd e he
    rw [List.map_map] at hd he
    obtain ⟨p, _, rfl⟩ := List.mem_map.mp hd
    obtain ⟨q, _, rfl⟩ := List.mem_map.mp he
    exact alike_M p.1 q.1
  · intro d hd
    rw [List.map_map] at hd
    obtain ⟨p, _, rfl⟩ := List.mem_map.mp hd
    exact ⟨_, toPy_M p.1⟩
  · intro d hd
    obtain ⟨p, hp, rfl⟩ := List.mem_map.mp hd
    exact ⟨keyP_lay _ (tkey_M (hl p hp)).key, by have := depth_M p.1; omega⟩
  · rw [List.length_map]
    exact Nat.le_trans z1 (by decide)
theorem form_loop {most : Int} : ∀ (ps l : List Tm) (L x2 x3 : Option D), (∀ q ∈ ps, Mono most q.1) → (∀ q ∈ l, Mono most q.1) → (l.map (·.1)).Nodup → l.length + ps.length ≤ 10000 →
    ∃ x2' x3', forL (gT [gN 2, gN 3]) b_form_of_1 (ps.map encQ) [L, some (.dic (l.map encK)), x2, x3] = .nx [L, some (.dic ((tot l ps).map encK)), x2', x3'] := by
  intro ps
  induction ps with
  | nil => intro l L x2 x3 _ _ _ _; exact ⟨x2, x3, rfl⟩
  | cons q ps ih =>
    intro l L x2 x3 hp hl nd hz
    have hq := hp q List.mem_cons_self
    obtain ⟨x2', x3', e⟩ := ih (put l q.1 ((fnd l q.1).getD 0 + q.2)) L (some (encM q.1)) (some (.int q.2)) (fun r hr => hp r (List.mem_cons_of_mem _ hr)) (fun r hr => by
      rcases put_mem r.1 (List.mem_map.mpr ⟨r, hr, rfl⟩) with y | y
      · rw [y]; exact hq
      · obtain ⟨t, ht, et⟩ := List.mem_map.mp y
        rw [← et]; exact hl t ht) (put_nodup nd _ _) (by have := put_len l q.1 ((fnd l q.1).getD 0 + q.2); simp at hz; omega)
    refine ⟨x2', x3', ?_⟩
    simp only [tot]
    rw [← e]
    have e1 : ∀ o : Out D, chk (DKey (l.map encK) (encM q.1)) o = o := fun o => chk_pos (dkey_K hl hq)
    have e2 := putO_K (z := (fnd l q.1).getD 0 + q.2) hl hq nd (by simp at hz; omega)
    have e3 := get0_K l q.1
    rw [List.map_cons, forL_cons, show encQ q = .tup [encM q.1, .int q.2] from rfl]
    clear e ih hp hl nd hz
    generalize forL (gT [gN 2, gN 3]) b_form_of_1 (ps.map encQ) = R at *
    unfold b_form_of_1
    walk_at "pda"
theorem form_lc {kvs : List (D × D)} {L x3 : Option D} : ∀ (r : List Tm), (∀ q ∈ r, dIx (.dic kvs) (encM q.1) = .ok (.int q.2)) →
    lcL (gN 2) (tOf (PD.e2 dNe (PD.e2 dIx (eV 1) (eV 2)) (eC (.int 0)))) (eA mkTup (aC (eV 2) (aC (PD.e2 dIx (eV 1) (eV 2)) aN))) [L, some (.dic kvs), none, x3] (r.map fun q => encM q.1) = .ok ((r.filter fun q => decide (q.2 ≠ 0)).map encQ)
  | [], _ => rfl
  | q :: r, h => by
    have ih := form_lc (kvs := kvs) (L := L) (x3 := x3) r fun q hq => h q (List.mem_cons_of_mem _ hq)
    have h1 := h q List.mem_cons_self
    clear h
    rw [List.map_cons, lcL_cons]
    generalize lcL (gN 2) (tOf (PD.e2 dNe (PD.e2 dIx (eV 1) (eV 2)) (eC (.int 0)))) (eA mkTup (aC (eV 2) (aC (PD.e2 dIx (eV 1) (eV 2)) aN))) [L, some (.dic kvs), none, x3] (r.map fun q => encM q.1) = R at *
    by_cases c : q.2 = 0
    · walk_at "pda"
      simp [c]
    · walk_at "pda"
      simp [c]
      rfl
theorem form_eq {most : Int} {ps : List Tm} (h : ∀ q ∈ ps, Mono most q.1) (hz : ps.length ≤ 10000) : m_form_of [.lst (ps.map encQ)] = .ok (.tup ((formOf ps).map encQ)) := by
  obtain ⟨x2, x3, e⟩ := form_loop ps [] (some (.lst (ps.map encQ))) none none h (fun q hq => nomatch hq) List.nodup_nil (by simpa using hz)
  have hk : ∀ q ∈ tot [] ps, Mono most q.1 := fun q hq => by
    rcases tot_mem ps [] q.1 (List.mem_map.mpr ⟨q, hq, rfl⟩) with z | z
    · exact nomatch z
    · obtain ⟨r, hr, e⟩ := List.mem_map.mp z
      rw [← e]; exact h r hr
  have hl : (tot [] ps).length ≤ 10000 := by have := tot_len ps []; simp at this; omega
  have e1 := sorted_K hk hl
  have pm := List.mergeSort_perm (tot [] ps) (dataLe false keyQ)
  have nd := tot_nodup ps [] List.nodup_nil
  have e2 := form_lc (kvs := (tot [] ps).map encK) (L := some (.lst (ps.map encQ))) (x3 := x3) ((tot [] ps).mergeSort (dataLe false keyQ)) fun q hq => by
    have hq' := pm.mem_iff.mp hq
    exact dIx_K hk (hk q hq') ((fnd_mem nd).mpr hq')
  have e3 : ∀ o : Out D, chk ((((tot [] ps).mergeSort (dataLe false keyQ)).map fun q => encM q.1).length ≤ sizeLine) o = o := fun o => chk_pos (by rw [List.length_map, List.length_mergeSort]; exact Nat.le_trans hl (by decide))
  have e' : forL (gT [gN 2, gN 3]) b_form_of_1 (ps.map encQ) [some (.lst (ps.map encQ)), some (.dic []), none, none] = .nx [some (.lst (ps.map encQ)), some (.dic ((tot [] ps).map encK)), x2, x3] := e
  unfold formOf
  clear e
  generalize ((tot [] ps).mergeSort (dataLe false keyQ)) = r at *
  generalize ((tot [] ps).map encK) = kvs at *
  generalize (ps.map encQ) = ds at *
  clear hk hl pm nd h hz
  unfold m_form_of b_form_of
  walk_at "pda"
theorem cIsi_tup (ds : List D) : cIsi [.tup ds, .ty "tuple"] = .ok (.bl true) := rfl
theorem cIsi_str (x : Str) : cIsi [.str x, .ty "str"] = .ok (.bl true) := rfl
theorem whole_int (i : Int) : m__law_whole [.int i] = .ok (.bl true) := by
  unfold m__law_whole b__law_whole
  walk_at "pda"
theorem dGe_S (a b : List Nat) : dGe (.str (S a)) (.str (S b)) = .ok (.bl (!decide (a < b))) := rfl
theorem dGe_M {most : Int} {a b : Mn} (ha : Mono most a) (hb : Mono most b) : dGe (encM a) (encM b) = .ok (.bl (!ltM a b)) := by
  show ((Out.stuck : Out D).or ((Out.stuck : Out D).or (dGeK (encM a) (encM b)))) = _
  simp only [Out.or_stuck]
  exact chk_pos ⟨(tkey_M ha).key, (tkey_M hb).key, alike_M a b, by have := depth_M a; omega, _, rfl⟩
theorem isf_1 : ∀ (m : Mn) (x0 x1 x2 x3 : Option D), (∀ p ∈ m, 1 ≤ p.2) → ∃ x2', forL (gN 2) b__law_is_form_1 (m.map encP) [x0, x1, x2, x3] = .nx [x0, x1, x2', x3] := by
  intro m
  induction m with
  | nil => intro x0 x1 x2 x3 _; exact ⟨x2, rfl⟩
  | cons p m ih =>
    intro x0 x1 x2 x3 h
    obtain ⟨x2', e⟩ := ih x0 x1 (some (encP p)) x3 fun q hq => h q (List.mem_cons_of_mem _ hq)
    refine ⟨x2', ?_⟩
    rw [← e]
    have h1 : ¬ p.2 < 1 := by have := h p List.mem_cons_self; omega
    have e1 : dIx (.tup [.str (S p.1), .int p.2]) (.int 0) = .ok (.str (S p.1)) := dIx_tup (k := 0) rfl
    have e2 : dIx (.tup [.str (S p.1), .int p.2]) (.int 1) = .ok (.int p.2) := dIx_tup (k := 1) rfl
    have e3 := cIsi_tup [.str (S p.1), .int p.2]
    have e4 := cIsi_str (S p.1)
    have e5 := whole_int p.2
    have e6 : cLen [.tup [.str (S p.1), .int p.2]] = .ok (.int 2) := rfl
    have e7 : dNe (.int 2) (.int 2) = .ok (.bl false) := by rw [dNe_int]; rfl
    rw [List.map_cons, forL_cons, show encP p = .tup [.str (S p.1), .int p.2] from rfl]
    clear ih h e
    generalize forL (gN 2) b__law_is_form_1 (m.map encP) = R at *
    unfold b__law_is_form_1
    walk_at "pda"
theorem isf_2 {m : Mn} (up : m.Pairwise fun p q => p.1 < q.1) (z : Int) : ∀ (js : List Nat) (x0 x2 x3 : Option D), (∀ j ∈ js, j + 1 < m.length) → ∃ x3', forL (gN 3) b__law_is_form_2 (js.map fun (n : Nat) => .int (1 + n)) [x0, some (.tup [encM m, .int z]), x2, x3] = .nx [x0, some (.tup [encM m, .int z]), x2, x3'] := by
  intro js
  induction js with
  | nil => intro x0 x2 x3 _; exact ⟨x3, rfl⟩
  | cons j js ih =>
    intro x0 x2 x3 h
    obtain ⟨x3', e⟩ := ih x0 x2 (some (.int (1 + j))) fun q hq => h q (List.mem_cons_of_mem _ hq)
    refine ⟨x3', ?_⟩
    rw [← e]
    have hj := h j List.mem_cons_self
    have e1 : dIx (.tup [encM m, .int z]) (.int 0) = .ok (encM m) := dIx_tup (k := 0) rfl
    have e2 : dIx (encM m) (.int (1 + j - 1)) = .ok (encP (m[j]'(by omega))) := by
      rw [show (1 : Int) + j - 1 = (j : Nat) by omega]
      exact dIx_tup (by rw [List.getElem?_map, List.getElem?_eq_getElem (by omega)]; rfl)
    have e3 : dIx (encM m) (.int (1 + j)) = .ok (encP (m[j + 1]'hj)) := by
      rw [show (1 : Int) + j = (j + 1 : Nat) by omega]
      exact dIx_tup (by rw [List.getElem?_map, List.getElem?_eq_getElem hj]; rfl)
    have e4 : ∀ p : Pr, dIx (encP p) (.int 0) = .ok (.str (S p.1)) := fun p => dIx_tup (k := 0) rfl
    have lt : (m[j]'(by omega)).1 < (m[j + 1]'hj).1 := List.pairwise_iff_getElem.mp up j (j + 1) (by omega) hj (by omega)
    have e5 : dGe (.str (S (m[j]'(by omega)).1)) (.str (S (m[j + 1]'hj).1)) = .ok (.bl false) := by rw [dGe_S, decide_eq_true lt]; rfl
    rw [List.map_cons, forL_cons]
    clear ih h e lt
    generalize forL (gN 3) b__law_is_form_2 (js.map fun (n : Nat) => D.int (1 + n)) = R at *
    generalize encM m = em at *
    unfold b__law_is_form_2
    walk_at "pda"
theorem isf_3 {most : Int} : ∀ (f : List Tm) (x0 x1 x2 x3 : Option D), (∀ q ∈ f, Mono most q.1 ∧ q.2 ≠ 0) → ∃ x1' x2' x3', forL (gN 1) b__law_is_form_3 (f.map encQ) [x0, x1, x2, x3] = .nx [x0, x1', x2', x3'] := by
  intro f
  induction f with
  | nil => intro x0 x1 x2 x3 _; exact ⟨x1, x2, x3, rfl⟩
  | cons q f ih =>
    intro x0 x1 x2 x3 h
    obtain ⟨hm, hz⟩ := h q List.mem_cons_self
    have hl := hm.few
    obtain ⟨y2, e1⟩ := isf_1 q.1 x0 (some (encQ q)) x2 x3 fun p hp => (hm.nm p hp).2.1
    obtain ⟨y3, e2⟩ := isf_2 hm.up q.2 (List.range (q.1.length - 1)) x0 y2 x3 fun j hj => by have := List.mem_range.mp hj; omega
    obtain ⟨x1', x2', x3', e⟩ := ih x0 (some (encQ q)) y2 y3 fun r hr => h r (List.mem_cons_of_mem _ hr)
    refine ⟨x1', x2', x3', ?_⟩
    rw [← e]
    have e3 : dIx (.tup [encM q.1, .int q.2]) (.int 0) = .ok (encM q.1) := dIx_tup (k := 0) rfl
    have e4 : dIx (.tup [encM q.1, .int q.2]) (.int 1) = .ok (.int q.2) := dIx_tup (k := 1) rfl
    have e5 := cIsi_tup [encM q.1, .int q.2]
    have e6 : cIsi [encM q.1, .ty "tuple"] = .ok (.bl true) := rfl
    have e7 := whole_int q.2
    have e8 : cLen [.tup [encM q.1, .int q.2]] = .ok (.int 2) := rfl
    have e9 : dNe (.int 2) (.int 2) = .ok (.bl false) := by rw [dNe_int]; rfl
    have e11 : cLen [encM q.1] = .ok (.int q.1.length) := by
      show Out.ok (D.int ((q.1.map encP).length : Nat)) = _
      rw [List.length_map]
    have e12 : rng2 [.int 1, .int q.1.length] = .ok ((List.range (q.1.length - 1)).map fun (n : Nat) => .int (1 + n)) := by
      rw [rng2_ok (by decide) (by decide) (by omega) (by omega)]
      rw [show ((q.1.length : Int) - 1).toNat = q.1.length - 1 by omega]
    have eq : encQ q = .tup [.tup (q.1.map encP), .int q.2] := rfl
    have em : encM q.1 = .tup (q.1.map encP) := rfl
    rw [eq] at e1 e ⊢
    rw [em] at e2 e3 e4 e5 e6 e8 e11
    rw [List.map_cons, forL_cons, eq]
    clear ih h e hm hl eq em
    generalize forL (gN 1) b__law_is_form_3 (f.map encQ) = R at *
    generalize ((List.range (q.1.length - 1)).map fun (n : Nat) => D.int (1 + n)) = js at *
    generalize q.1.map encP = mm at *
    unfold b__law_is_form_3
    walk_at "pda"
theorem isf_4 {most : Int} {f : List Tm} (hf : Form most f) : ∀ (js : List Nat) (x1 x2 x3 : Option D), (∀ j ∈ js, j + 1 < f.length) → ∃ x3', forL (gN 3) b__law_is_form_4 (js.map fun (n : Nat) => .int (1 + n)) [some (.tup (f.map encQ)), x1, x2, x3] = .nx [some (.tup (f.map encQ)), x1, x2, x3'] := by
  intro js
  induction js with
  | nil => intro x1 x2 x3 _; exact ⟨x3, rfl⟩
  | cons j js ih =>
    intro x1 x2 x3 h
    obtain ⟨x3', e⟩ := ih x1 x2 (some (.int (1 + j))) fun q hq => h q (List.mem_cons_of_mem _ hq)
    refine ⟨x3', ?_⟩
    rw [← e]
    have hj := h j List.mem_cons_self
    have e2 : dIx (.tup (f.map encQ)) (.int (1 + j - 1)) = .ok (encQ (f[j]'(by omega))) := by
      rw [show (1 : Int) + j - 1 = (j : Nat) by omega]
      exact dIx_tup (by rw [List.getElem?_map, List.getElem?_eq_getElem (by omega)]; rfl)
    have e3 : dIx (.tup (f.map encQ)) (.int (1 + j)) = .ok (encQ (f[j + 1]'hj)) := by
      rw [show (1 : Int) + j = (j + 1 : Nat) by omega]
      exact dIx_tup (by rw [List.getElem?_map, List.getElem?_eq_getElem hj]; rfl)
    have e4 : ∀ p : Tm, dIx (encQ p) (.int 0) = .ok (encM p.1) := fun p => dIx_tup (k := 0) rfl
    have lt : ltM (f[j]'(by omega)).1 (f[j + 1]'hj).1 = true := List.pairwise_iff_getElem.mp hf.up j (j + 1) (by omega) hj (by omega)
    have e5 : dGe (encM (f[j]'(by omega)).1) (encM (f[j + 1]'hj).1) = .ok (.bl false) := by
      rw [dGe_M (hf.mono _ (List.getElem_mem _)) (hf.mono _ (List.getElem_mem _)), lt]; rfl
    rw [List.map_cons, forL_cons]
    clear ih h e lt
    generalize forL (gN 3) b__law_is_form_4 (js.map fun (n : Nat) => D.int (1 + n)) = R at *
    generalize f.map encQ = em at *
    unfold b__law_is_form_4
    walk_at "pda"
theorem is_form_eq {most : Int} {f : List Tm} (hf : Form most f) (hz : f.length ≤ 10000) : m__law_is_form [.tup (f.map encQ)] = .ok (.bl true) := by
  obtain ⟨x1, x2, x3, e1⟩ := isf_3 f (some (.tup (f.map encQ))) none none none fun q hq => ⟨hf.mono q hq, hf.nz q hq⟩
  obtain ⟨x3', e2⟩ := isf_4 hf (List.range (f.length - 1)) x1 x2 x3 fun j hj => by have := List.mem_range.mp hj; omega
  have e3 := cIsi_tup (f.map encQ)
  have e4 : cLen [.tup (f.map encQ)] = .ok (.int f.length) := by
    rw [cLen_tup, List.length_map]
  have e5 : rng2 [.int 1, .int f.length] = .ok ((List.range (f.length - 1)).map fun (n : Nat) => .int (1 + n)) := by
    rw [rng2_ok (by decide) (by decide) (by omega) (by omega)]
    rw [show ((f.length : Int) - 1).toNat = f.length - 1 by omega]
  clear hf
  generalize f.map encQ = fs at *
  generalize ((List.range (f.length - 1)).map fun (n : Nat) => D.int (1 + n)) = js at *
  unfold m__law_is_form b__law_is_form
  walk_at "pda"
theorem lay_Q {most : Int} : ∀ {ps : List Tm}, (∀ q ∈ ps, Mono most q.1) → PyData.canLayAll0 (toPys (ps.map encQ)) = true
  | [], _ => rfl
  | q :: ps, h => by
    have e : toPys ((q :: ps).map encQ) = .tuple [toPy (encM q.1), .int q.2] :: toPys (ps.map encQ) := rfl
    rw [e]
    simp only [PyData.canLayAll0, PyData.canLay0, Bool.and_true, keyP_lay _ (tkey_M (h q List.mem_cons_self)).key, Bool.true_and]
    exact lay_Q fun r hr => h r (List.mem_cons_of_mem _ hr)
theorem dep_Q : ∀ (ps : List Tm), PyData.depthAll (toPys (ps.map encQ)) ≤ 3
  | [] => by simp [toPys, PyData.depthAll]
  | q :: ps => by
    have e : toPys ((q :: ps).map encQ) = .tuple [toPy (encM q.1), .int q.2] :: toPys (ps.map encQ) := rfl
    have h1 := dep_Q ps
    have h2 := depth_M q.1
    rw [e]
    simp only [PyData.depthAll, PyData.depth]
    omega
theorem shaped_L {most : Int} {ps : List Tm} (h : ∀ q ∈ ps, Mono most q.1) : SeqAt.shaped (toPy (.lst (ps.map encQ))) = true := by
  have h1 := dep_Q ps
  unfold SeqAt.shaped
  rw [show toPy (.lst (ps.map encQ)) = .list (toPys (ps.map encQ)) from rfl]
  simp only [PyData.canLay0, lay_Q h, PyData.depth, Bool.true_and]
  exact decide_eq_true (by omega)
theorem shaped_T {most : Int} {ps : List Tm} (h : ∀ q ∈ ps, Mono most q.1) : SeqAt.shaped (toPy (.tup (ps.map encQ))) = true := by
  have h1 := dep_Q ps
  unfold SeqAt.shaped
  rw [show toPy (.tup (ps.map encQ)) = .tuple (toPys (ps.map encQ)) from rfl]
  simp only [PyData.canLay0, lay_Q h, PyData.depth, Bool.true_and]
  exact decide_eq_true (by omega)
theorem dEq_self {x : D} (h : SeqAt.shaped (toPy x) = true) : dEq x x = .ok (.bl true) := by
  unfold dEq
  rw [chk_pos ⟨h, h⟩, SeqAt.eqv_refl _ (SeqAt.canLay_of_shaped h)]
theorem dNe_self {x : D} (h : SeqAt.shaped (toPy x) = true) : dNe x x = .ok (.bl false) := by
  unfold dNe
  rw [chk_pos ⟨h, h⟩, SeqAt.eqv_refl _ (SeqAt.canLay_of_shaped h)]
  rfl
theorem dNe_nil {most : Int} {ps : List Tm} (h : ∀ q ∈ ps, Mono most q.1) : dNe (.lst (ps.map encQ)) (.lst []) = .ok (.bl (!decide (ps = []))) := by
  unfold dNe
  rw [chk_pos ⟨shaped_L h, rfl⟩]
  cases ps with
  | nil => rfl
  | cons q ps =>
    simp [toPy, toPys, PyData.eqv, PyData.eqvAll]
theorem rev_pick (xs : List D) : pickL xs none none (some (-1)) = xs.reverse := by
  unfold pickL
  rw [PySem.W.krv_bounds]
  show (sliceRange ((xs.length : Int) - 1) (-1) (-1)).filterMap (fun i => xs[i]?) = _
  rw [PySem.W.krv_sliceRange, PySem.W.krv_range, List.filterMap_reverse]
  have := PySem.W.krv_all xs.toArray
  rw [List.size_toArray] at this
  congr 1
  simpa using this
theorem signed_eq {n m : Int} (h : 0 ≤ m) (k : m < 2 ^ 200) : ∃ i, m__law_signed [.int n, .int m] = .ok (.int i) ∧ -m ≤ i ∧ i ≤ m := by
  have e1 := dMul_int (show Sz 2 2 by unfold Sz; decide) (show Sz 200 m by unfold Sz; omega) (by decide)
  have e2 := dMod_int (i := n) (show 0 < 2 * m + 1 by omega)
  have e3 := fun i => dDiv_int (i := i) (j := 2) (by decide) (show Sz 2 2 by unfold Sz; decide) (by decide)
  have e4 := fun i => dMod_int (i := i) (j := 2) (by decide)
  have b1 : 0 ≤ n % (2 * m + 1) := Int.emod_nonneg _ (by omega)
  have b2 : n % (2 * m + 1) < 2 * m + 1 := Int.emod_lt_of_pos _ (by omega)
  unfold m__law_signed b__law_signed
  walk_at "pda"
  generalize n % (2 * m + 1) = x at *
  by_cases h : x % 2 = 1
  · simp only [h, if_true]
    exact ⟨_, rfl, by omega, by omega⟩
  · simp only [h, if_false]
    exact ⟨_, rfl, by omega, by omega⟩
def sg (n : Int) : Int := if 0 < n then 1 else if n < 0 then -1 else 0
def signOne (u v r : Int) : Int := if sg u = sg (v * r) ∨ sg (v * r) = 0 then sg u else if sg u = 0 then sg (v * r) else sg u * sg (u * u - v * v * r)
theorem sg_sz (n : Int) : Sz 1 (sg n) := by
  unfold Sz sg
  split
  · decide
  · split <;> decide
theorem sg_mul {v r : Int} (h : 0 < r) : sg (v * r) = sg v := by
  unfold sg
  by_cases h1 : 0 < v
  · rw [if_pos h1, if_pos (Int.mul_pos h1 h)]
  · by_cases h2 : v < 0
    · have : v * r < 0 := Int.mul_neg_of_neg_of_pos h2 h
      rw [if_neg h1, if_pos h2, if_neg (by omega), if_pos this]
    · have : v = 0 := by omega
      subst this
      simp
theorem sign_of_eq (n : Int) : m_sign_of [.int n] = .ok (.int (sg n)) := by
  unfold m_sign_of b_sign_of sg
  walk_at "pd"
  simp only [ok_ite, int_ite]
theorem sign_one_eq {a : Nat} {u v r : Int} (hu : Sz a u) (hv : Sz a v) (hr : Sz a r) (la : a ≤ 1000000) : m_sign_one [.int u, .int v, .int r] = .ok (.int (signOne u v r)) := by
  unfold m_sign_one b_sign_one signOne
  have e1 := dMul_int hv hr (by omega)
  have e2 := dMul_int hu hu (by omega)
  have e3 := dMul_int hv hv (by omega)
  have e4 := dMul_int (hv.mul hv) hr (by omega)
  have e5 := dMul_int (sg_sz u) (sg_sz (u * u - v * v * r)) (by decide)
  have e6 := sign_of_eq
  walk_at "pda"
  by_cases h1 : sg u = sg (v * r)
  · simp [h1]
  · by_cases h2 : sg (v * r) = 0
    · simp [h2]
    · by_cases h3 : sg u = 0
      · rw [h3] at h1
        simp [h1, h2, h3]
      · simp [h1, h2, h3]
def signTwo (u v r w t : Int) : Int := if signOne u v r = sg (w * t) ∨ sg (w * t) = 0 then signOne u v r else if signOne u v r = 0 then sg (w * t) else signOne u v r * signOne (u * u + v * v * r - w * w * t) (2 * u * v) r
theorem sg_cases (n : Int) : sg n = 0 ∨ sg n = 1 ∨ sg n = -1 := by
  unfold sg
  split
  · exact .inr (.inl rfl)
  · split
    · exact .inr (.inr rfl)
    · exact .inl rfl
theorem signOne_cases (u v r : Int) : signOne u v r = 0 ∨ signOne u v r = 1 ∨ signOne u v r = -1 := by
  unfold signOne
  have h1 := sg_cases u
  have h2 := sg_cases (v * r)
  have h3 := sg_cases (u * u - v * v * r)
  split
  · exact h1
  · split
    · exact h2
    · rcases h1 with h | h | h <;> rcases h3 with k | k | k <;> rw [h, k] <;> decide
theorem sz_sign {n : Int} (h : n = 0 ∨ n = 1 ∨ n = -1) : Sz 1 n := by
  rcases h with h | h | h <;> subst h <;> unfold Sz <;> decide
theorem sign_two_eq {a : Nat} {u v r w t : Int} (hu : Sz a u) (hv : Sz a v) (hr : Sz a r) (hw : Sz a w) (ht : Sz a t) (la : a ≤ 100000) : m_sign_two [.int u, .int v, .int r, .int w, .int t] = .ok (.int (signTwo u v r w t)) := by
  unfold m_sign_two b_sign_two signTwo
  have e1 := dMul_int hw ht (by omega)
  have e2 := dMul_int hu hu (by omega)
  have e3 := dMul_int hv hv (by omega)
  have e4 := dMul_int (hv.mul hv) hr (by omega)
  have e5 := dMul_int hw hw (by omega)
  have e6 := dMul_int (hw.mul hw) ht (by omega)
  have s2 : Sz 2 2 := by unfold Sz; decide
  have e7 := dMul_int s2 hu (by omega)
  have e8 := dMul_int (s2.mul hu) hv (by omega)
  have e9 := sign_one_eq hu hv hr (by omega)
  have b1 : Sz (a + a + a + 2) (u * u + v * v * r - w * w * t) := (((hu.mul hu).mono (by omega)).add ((hv.mul hv).mul hr)).sub (((hw.mul hw).mul ht).mono (by omega))
  have f1 := sign_one_eq (a := a + a + a + 2) b1 (((s2.mul hu).mul hv).mono (by omega)) (hr.mono (by omega)) (by omega)
  have f2 := dMul_int (sz_sign (signOne_cases u v r)) (sz_sign (signOne_cases (u * u + v * v * r - w * w * t) (2 * u * v) r)) (by decide)
  have f3 := sign_of_eq
  walk_at "pda"
  by_cases h1 : signOne u v r = sg (w * t)
  · simp [h1]
  · by_cases h2 : sg (w * t) = 0
    · simp [h2]
    · by_cases h3 : signOne u v r = 0
      · rw [h3] at h1
        simp [h1, h2, h3]
      · simp [h1, h2, h3]
def lawSign (u v r : Int) : Int :=
  let left : Int := (if 0 < u then 1 else 0) - (if u < 0 then 1 else 0)
  let right : Int := if r = 0 then 0 else (if 0 < v then 1 else 0) - (if v < 0 then 1 else 0)
  if 0 ≤ left * right then max (-1) (min 1 (left + right)) else
  let more := u * u - v * v * r
  if more < 0 then right else left * (if 0 < more then 1 else 0)
theorem law_sign_eq {a : Nat} {u v r : Int} (hu : Sz a u) (hv : Sz a v) (hr : Sz a r) (la : a ≤ 1000000) : m__law_sign [.int u, .int v, .int r] = .ok (.int (lawSign u v r)) := by
  unfold m__law_sign b__law_sign lawSign
  have e2 := dMul_int hu hu (by omega)
  have e3 := dMul_int hv hv (by omega)
  have e4 := dMul_int (hv.mul hv) hr (by omega)
  have bs : ∀ (p : Prop) [Decidable p], Sz 1 (if p then (1 : Int) else 0) := fun p _ => by unfold Sz; split <;> decide
  have e5 := fun (p q p' q' : Prop) [Decidable p] [Decidable q] [Decidable p'] [Decidable q'] => dMul_int ((bs p).sub (bs q)) ((bs p').sub (bs q')) (by decide)
  have e6 := fun (p q : Prop) [Decidable p] [Decidable q]  => dMul_int ((bs p).sub (bs q)) (show Sz 1 0 by unfold Sz; decide) (by decide)
  have e7 := fun (p q p' : Prop) [Decidable p] [Decidable q] [Decidable p'] => dMul_int ((bs p).sub (bs q)) (bs p') (by decide)
  walk_at "pda"
  by_cases h : r = 0 <;> simp only [h, if_true, if_false, ok_ite, int_ite]
theorem sign_law {u v r : Int} (h : 0 ≤ r) : signOne u v r = lawSign u v r := by
  unfold signOne lawSign
  by_cases hr : r = 0
  · subst hr
    simp only [Int.mul_zero, if_true, Int.sub_zero]
    have z : sg 0 = 0 := rfl
    rw [z]
    unfold sg
    by_cases h1 : 0 < u
    · have h2 : ¬ u < 0 := by omega
      simp [h1, h2]
      decide
    · by_cases h2 : u < 0
      · simp [h1, h2]
        decide
      · simp [h1, h2]
        decide
  · have hp : 0 < r := by omega
    rw [sg_mul hp]
    simp only [hr, if_false]
    generalize u * u - v * v * r = m
    unfold sg
    by_cases h1 : 0 < u <;> by_cases h2 : u < 0 <;> by_cases h3 : 0 < v <;> by_cases h4 : v < 0 <;> by_cases h5 : 0 < m <;> by_cases h6 : m < 0 <;> first | omega | (simp [h1, h2, h3, h4, h5, h6]; try decide) | simp [h1, h2, h3, h4, h5, h6]
def lawSign2 (u v r w t : Int) : Int :=
  if 0 ≤ lawSign u v r * (if t = 0 then 0 else (if 0 < w then 1 else 0) - (if w < 0 then 1 else 0)) then max (-1) (min 1 (lawSign u v r + (if t = 0 then 0 else (if 0 < w then 1 else 0) - (if w < 0 then 1 else 0)))) else
  lawSign u v r * lawSign (u * u + v * v * r - w * w * t) (2 * u * v) r
theorem sz_right (t w : Int) : Sz 2 (if t = 0 then 0 else (if 0 < w then 1 else 0) - (if w < 0 then 1 else 0)) := by
  unfold Sz
  split
  · decide
  · split <;> split <;> decide
theorem law_sign2_eq {a : Nat} {u v r w t : Int} (hu : Sz a u) (hv : Sz a v) (hr : Sz a r) (hw : Sz a w) (ht : Sz a t) (r0 : 0 ≤ r) (la : a ≤ 100000) : m__law_sign_two [.int u, .int v, .int r, .int w, .int t] = .ok (.int (lawSign2 u v r w t)) := by
  unfold m__law_sign_two b__law_sign_two lawSign2
  have e2 := dMul_int hu hu (by omega)
  have e3 := dMul_int hv hv (by omega)
  have e4 := dMul_int (hv.mul hv) hr (by omega)
  have e5 := dMul_int hw hw (by omega)
  have e6 := dMul_int (hw.mul hw) ht (by omega)
  have s2 : Sz 2 2 := by unfold Sz; decide
  have e7 := dMul_int s2 hu (by omega)
  have e8 := dMul_int (s2.mul hu) hv (by omega)
  have e9 := law_sign_eq hu hv hr (by omega)
  have b1 : Sz (a + a + a + 2) (u * u + v * v * r - w * w * t) := (((hu.mul hu).mono (by omega)).add ((hv.mul hv).mul hr)).sub (((hw.mul hw).mul ht).mono (by omega))
  have f1 := law_sign_eq (a := a + a + a + 2) b1 (((s2.mul hu).mul hv).mono (by omega)) (hr.mono (by omega)) (by omega)
  have c1 : Sz 1 (lawSign u v r) := sign_law (u := u) (v := v) r0 ▸ sz_sign (signOne_cases u v r)
  have c2 : Sz 1 (lawSign (u * u + v * v * r - w * w * t) (2 * u * v) r) := sign_law (u := u * u + v * v * r - w * w * t) (v := 2 * u * v) r0 ▸ sz_sign (signOne_cases _ _ r)
  have f2 := dMul_int c1 c2 (by decide)
  have f4 := dMul_int c1 (sz_right t w) (by decide)
  by_cases h : t = 0
  · subst h
    simp only [if_true] at f4 ⊢
    walk_at "pda"
    try simp only [ok_ite, int_ite]
  · simp only [h, if_false] at f4 ⊢
    walk_at "pda"
    try simp only [ok_ite, int_ite]
theorem sign2_law {u v r w t : Int} (r0 : 0 ≤ r) (t0 : 0 ≤ t) : signTwo u v r w t = lawSign2 u v r w t := by
  unfold signTwo lawSign2
  rw [← sign_law (u := u) (v := v) r0, ← sign_law (u := u * u + v * v * r - w * w * t) (v := 2 * u * v) r0]
  have h1 := signOne_cases u v r
  have h2 := signOne_cases (u * u + v * v * r - w * w * t) (2 * u * v) r
  generalize signOne (u * u + v * v * r - w * w * t) (2 * u * v) r = y at *
  generalize signOne u v r = x at *
  have key : sg (w * t) = if t = 0 then 0 else (if 0 < w then 1 else 0) - (if w < 0 then 1 else 0) := by
    by_cases h : t = 0
    · subst h; rw [Int.mul_zero]; rfl
    · rw [if_neg h, sg_mul (by omega)]
      unfold sg
      by_cases h3 : 0 < w
      · have : ¬ w < 0 := by omega
        simp [h3, this]
      · by_cases h4 : w < 0
        · simp [h3, h4]
        · simp [h3, h4]
  rw [← key]
  have h3 := sg_cases (w * t)
  generalize sg (w * t) = z at *
  rcases h1 with rfl | rfl | rfl <;> rcases h3 with rfl | rfl | rfl <;> rcases h2 with rfl | rfl | rfl <;> decide
theorem is_sign_eq (i j : Int) : m__law_is_sign [.int i, .int j] = .ok (.bl (decide (i = j))) := by
  unfold m__law_is_sign b__law_is_sign
  walk_at "pda"
theorem by_digits_eq (ns : List Int) : ∃ b, m__law_by_digits [.scr ns] = .ok (.bl b) := by
  have e3 := fun i => dDiv_int (i := i) (j := 3) (by decide) (show Sz 2 3 by unfold Sz; decide) (by decide)
  have e4 := fun i => dMod_int (i := i) (j := 2) (by decide)
  unfold m__law_by_digits b__law_by_digits
  cases ns with
  | nil => exact ⟨false, rfl⟩
  | cons n ns =>
    have e5 : dIx (.scr (n :: ns)) (.int 0) = .ok (.int n) := by
      show (match atI (n :: ns) (0 : Nat) with | some n => Out.ok (D.int n) | none => .stuck) = _
      rw [atI_nat (v := n) rfl]
    walk_at "pda"
    split <;> exact ⟨_, rfl⟩
theorem cell_eq {ns : List Int} (hb : ∀ z ∈ ns, Builtin.Int.intBits z ≤ 1048576) {k : Nat} (hk : k < ns.length) : ∃ n : Int, m__law_cell_v2 [.scr ns, .int k] = .ok (.int n) ∧ 0 ≤ n ∧ n < 1000000000000000000000000000000000000000000000000000000000000 := by
  have e1 : dIx (.scr ns) (.int k) = .ok (.int ns[k]) := by
    show (match atI ns (k : Nat) with | some n => Out.ok (D.int n) | none => .stuck) = _
    rw [atI_nat (v := ns[k]) (by simp)]
  have sz := sz_of_bits (hb ns[k] (List.getElem_mem hk))
  have e2 := dMul_int (j := 31415926535897932384626433832795028841971693993751058209749) sz (show Sz 200 _ by unfold Sz; decide) (by decide)
  have e3 := fun i => dMod_int (i := i) (j := 1000000000000000000000000000000000000000000000000000000000000) (by decide)
  have e4 := p60
  have e5 : (k : Int) < ns.length := by omega
  clear sz hb
  unfold m__law_cell_v2 b__law_cell_v2
  walk_at "pda"
  exact ⟨_, rfl, Int.emod_nonneg _ (by decide), Int.emod_lt_of_pos _ (by decide)⟩
def Num (d : D) : Prop := ∃ p q r s : Int, d = .tup [.int p, .int q, .int r, .int s] ∧ 0 ≤ r ∧ 0 < s ∧ Sz 120 p ∧ Sz 120 q ∧ Sz 120 r ∧ Sz 120 s
def NumB (d : D) : Prop := ∃ p q r s : Int, d = .tup [.int p, .int q, .int r, .int s] ∧ 0 ≤ r ∧ 0 < s ∧ Sz 100 p ∧ Sz 100 q ∧ Sz 100 r ∧ Sz 100 s
theorem NumB.num {d : D} (h : NumB d) : Num d := by
  obtain ⟨p, q, r, s, e, h0, h1, a, b, c, d⟩ := h
  exact ⟨p, q, r, s, e, h0, h1, a.mono (by decide), b.mono (by decide), c.mono (by decide), d.mono (by decide)⟩
theorem t5 (a b c d e : D) : mkLst [a, b, c, d, e] = .ok (.lst [a, b, c, d, e]) := mkLst_ok (by simp)
theorem lst5 {a b c e f : Int} {i : Int} (h0 : 0 ≤ i) (h : i < 5) : ∃ d, dIx (.lst [.int a, .int b, .int c, .int e, .int f]) (.int i) = .ok (.int d) ∧ (d = a ∨ d = b ∨ d = c ∨ d = e ∨ d = f) := by
  have : i = (0 : Nat) ∨ i = (1 : Nat) ∨ i = (2 : Nat) ∨ i = (3 : Nat) ∨ i = (4 : Nat) := by omega
  rcases this with rfl | rfl | rfl | rfl | rfl
  · exact ⟨a, dIx_lst rfl, .inl rfl⟩
  · exact ⟨b, dIx_lst rfl, .inr (.inl rfl)⟩
  · exact ⟨c, dIx_lst rfl, .inr (.inr (.inl rfl))⟩
  · exact ⟨e, dIx_lst rfl, .inr (.inr (.inr (.inl rfl)))⟩
  · exact ⟨f, dIx_lst rfl, .inr (.inr (.inr (.inr rfl)))⟩
theorem read_eq (n : Int) : ∃ d, m__law_read_v3 [.int n] = .ok d ∧ Num d := by
  have e4 := fun i => dMod_int (i := i) (j := 5) (by decide)
  have e5 := fun i => dDiv_int (i := i) (j := 5) (by decide) (show Sz 3 5 by unfold Sz; decide) (by decide)
  obtain ⟨s, es, hs⟩ := lst5 (a := 3) (b := 60) (c := 1000000) (e := 1000000000000) (f := 10000000000000000000000000000) (i := n % 5) (by omega) (by omega)
  have e1 := p12
  have e2 := p28
  have e3 := p6
  have s0 : 0 < s ∧ s ≤ 10000000000000000000000000000 := by omega
  have e7 := dMul_int (i := 2) (j := s) (show Sz 2 2 by unfold Sz; decide) (show Sz 200 s by unfold Sz; omega) (by decide)
  have e8 := fun i => dDiv_int (i := i) (j := 2 * s + 1) (by omega) (show Sz 200 (2 * s + 1) by unfold Sz; omega) (by decide)
  have e9 := fun i => dMod_int (i := i) (j := s + 1) (by omega)
  have f1 := fun i => dDiv_int (i := i) (j := s + 1) (by omega) (show Sz 200 (s + 1) by unfold Sz; omega) (by decide)
  have f2 := fun i => dMod_int (i := i) (j := s) (by omega)
  obtain ⟨u, hu, u1, u2⟩ := signed_eq (n := n / 5) (m := s) (by omega) (Int.lt_of_le_of_lt s0.2 (by decide))
  obtain ⟨v, hv, v1, v2⟩ := signed_eq (n := n / 5 / (2 * s + 1)) (m := s) (by omega) (Int.lt_of_le_of_lt s0.2 (by decide))
  have f3 := t5
  unfold m__law_read_v3 b__law_read_v3
  walk_at "pda"
  have r0 := Int.emod_nonneg (n / 5 / (2 * s + 1) / (2 * s + 1)) (show s + 1 ≠ 0 by omega)
  have r1 := Int.emod_lt_of_pos (n / 5 / (2 * s + 1) / (2 * s + 1)) (show 0 < s + 1 by omega)
  have z0 := Int.emod_nonneg (n / 5 / (2 * s + 1) / (2 * s + 1) / (s + 1)) (show s ≠ 0 by omega)
  have z1 := Int.emod_lt_of_pos (n / 5 / (2 * s + 1) / (2 * s + 1) / (s + 1)) (show 0 < s by omega)
  exact ⟨_, rfl, u, v, _, _, rfl, r0, by omega, by unfold Sz; omega, by unfold Sz; omega, by unfold Sz; omega, by unfold Sz; omega⟩
theorem base_turn : ∀ (ks : List D) (acc : List D), acc.length + ks.length ≤ 1000 → (∀ x ∈ acc, ∃ i : Int, x = .int i) → ∀ (n : Int) s c a b, 0 ≤ n → n < 2000000000000000000000000000000000000000000000000000000000000 → ∃ n' acc' c', forL (gN 3) b__law_base_1 ks [some (.int n), s, some (.lst acc), c, a, b] = .nx [some (.int n'), s, some (.lst acc'), c', a, b] ∧ acc'.length = acc.length + ks.length ∧ ∀ x ∈ acc', ∃ i : Int, x = .int i := by
  intro ks
  induction ks with
  | nil => intro acc _ h n s c a b _ _; exact ⟨n, acc, c, rfl, rfl, h⟩
  | cons k ks ih =>
    intro acc l h n s c a b n0 n1
    have la : acc.length < 16777216 := by simp only [List.length_cons] at l; omega
    have ea := app_ok la
    have a3 := dMul_int (i := n) (j := 69621) (show Sz 220 n by unfold Sz; omega) (show Sz 20 69621 by unfold Sz; decide) (by decide)
    have a5 := fun i => dMod_int (i := i) (j := 1000000000000000000000000000000000000000000000000000000000000 + 7) (by decide)
    have a6 := fun i => dDiv_int (i := i) (j := 1000000000000000000000000) (by decide) (show Sz 100 1000000000000000000000000 by unfold Sz; decide) (by decide)
    have ih' := ih (acc ++ [.int (n * 69621 % (1000000000000000000000000000000000000000000000000000000000000 + 7) / 1000000000000000000000000)]) (by simp only [List.length_append, List.length_cons, List.length_nil] at l ⊢; omega) (fun x hx => by
      rcases List.mem_append.mp hx with q | q
      · exact h x q
      · simp only [List.mem_singleton] at q; exact ⟨_, q⟩)
    clear ih
    have q1 := p24
    have q2 := p60
    obtain ⟨n', acc', c', e, l', h'⟩ := ih' (n * 69621 % (1000000000000000000000000000000000000000000000000000000000000 + 7)) s (some k) a b (Int.emod_nonneg _ (by decide)) (Int.lt_trans (Int.emod_lt_of_pos _ (by decide)) (by decide))
    refine ⟨n', acc', c', ?_, by rw [l']; simp only [List.length_append, List.length_cons, List.length_nil]; omega, h'⟩
    clear ih' h h'
    rw [forL_cons]
    generalize forL (gN 3) b__law_base_1 ks = R at *
    unfold b__law_base_1
    walk_at "pda"
theorem len4 {xs : List D} (h : xs.length = 4) : ∃ a b c d, xs = [a, b, c, d] := by
  match xs, h with
  | [a, b, c, d], _ => exact ⟨a, b, c, d, rfl⟩
theorem base_eq {n : Int} (n0 : 0 ≤ n) (n1 : n < 1000000000000000000000000000000000000000000000000000000000000) : ∃ d, m__law_base [.int n] = .ok d ∧ NumB d := by
  have e4 := fun i => dMod_int (i := i) (j := 5) (by decide)
  obtain ⟨s, es, hs⟩ := lst5 (a := 3) (b := 60) (c := 1000000) (e := 1000000000000) (f := 10000000000000000000000000000) (i := n % 5) (by omega) (by omega)
  have e1 := p12
  have e2 := p28
  have e3 := p6
  have s0 : 0 < s ∧ s ≤ 10000000000000000000000000000 := by omega
  obtain ⟨n', acc', c', e, l', h'⟩ := base_turn ((List.range (4 : Int).toNat).map fun (n : Nat) => D.int n) [] (by simp) (fun x h => by cases h) n (some (.int s)) none none none n0 (by omega)
  obtain ⟨x, y, z, w, rfl⟩ := len4 (xs := acc') (by rw [l']; simp)
  obtain ⟨x, rfl⟩ := h' x (by simp)
  obtain ⟨y, rfl⟩ := h' y (by simp)
  obtain ⟨z, rfl⟩ := h' z (by simp)
  obtain ⟨w, rfl⟩ := h' w (by simp)
  have r3 := rng1_ok (j := 4) (by decide) (by decide)
  have t := t5
  have i0 : dIx (.lst [.int x, .int y, .int z, .int w]) (.int 0) = .ok (.int x) := dIx_lst (k := 0) rfl
  have i1 : dIx (.lst [.int x, .int y, .int z, .int w]) (.int 1) = .ok (.int y) := dIx_lst (k := 1) rfl
  have i2 : dIx (.lst [.int x, .int y, .int z, .int w]) (.int 2) = .ok (.int z) := dIx_lst (k := 2) rfl
  have i3 : dIx (.lst [.int x, .int y, .int z, .int w]) (.int 3) = .ok (.int w) := dIx_lst (k := 3) rfl
  have e9 := fun i => dMod_int (i := i) (j := s + 1) (by omega)
  have f2 := fun i => dMod_int (i := i) (j := s) (by omega)
  obtain ⟨u, hu, u1, u2⟩ := signed_eq (n := x) (m := s) (by omega) (Int.lt_of_le_of_lt s0.2 (by decide))
  obtain ⟨v, hv, v1, v2⟩ := signed_eq (n := y) (m := s) (by omega) (Int.lt_of_le_of_lt s0.2 (by decide))
  clear h' l'
  unfold m__law_base b__law_base
  walk_at "pda"
  have r0 := Int.emod_nonneg z (show s + 1 ≠ 0 by omega)
  have r1 := Int.emod_lt_of_pos z (show 0 < s + 1 by omega)
  have z0 := Int.emod_nonneg w (show s ≠ 0 by omega)
  have z1 := Int.emod_lt_of_pos w (show 0 < s by omega)
  exact ⟨_, rfl, u, v, _, _, rfl, r0, by omega, by unfold Sz; omega, by unfold Sz; omega, by unfold Sz; omega, by unfold Sz; omega⟩
theorem again_eq {d : D} (h : NumB d) (n : Int) : ∃ d', m__law_again [d, .int n] = .ok d' ∧ Num d' := by
  obtain ⟨p, q, r, s, rfl, r0, s0, sp, sq, sr, ss⟩ := h
  have e4 := fun i => dMod_int (i := i) (j := 5) (by decide)
  have e5 := fun i => dDiv_int (i := i) (j := 5) (by decide) (show Sz 3 5 by unfold Sz; decide) (by decide)
  have e6 := fun i => dMod_int (i := i) (j := 7) (by decide)
  have k0 : 0 < 1 + n % 5 := by omega
  have m0 : 0 < 1 + n / 5 % 7 := by omega
  have sk : Sz 3 (1 + n % 5) := by unfold Sz; omega
  have sm : Sz 3 (1 + n / 5 % 7) := by unfold Sz; omega
  generalize hk : 1 + n % 5 = k at *
  generalize hm : 1 + n / 5 % 7 = m at *
  have d1 := dMul_int sp sk (by decide)
  have d2 := dMul_int (sp.mul sk) sm (by decide)
  have d3 := dMul_int sq sm (by decide)
  have d4 := dMul_int sr sk (by decide)
  have d5 := dMul_int (sr.mul sk) sk (by decide)
  have d6 := dMul_int ss sk (by decide)
  have d7 := dMul_int (ss.mul sk) sm (by decide)
  have z1 := (sp.mul sk).mul sm
  have z2 := sq.mul sm
  have z3 := (sr.mul sk).mul sk
  have z4 := (ss.mul sk).mul sm
  have y1 : 0 ≤ r * k * k := Int.mul_nonneg (Int.mul_nonneg r0 (by omega)) (by omega)
  have y2 : 0 < s * k * m := Int.mul_pos (Int.mul_pos s0 k0) m0
  clear sp sq sr ss sk sm
  unfold m__law_again b__law_again
  walk_at "pda"
  exact ⟨_, rfl, _, _, _, _, rfl, y1, y2, z1.mono (by decide), z2.mono (by decide), z3.mono (by decide), z4.mono (by decide)⟩
theorem near_eq {d : D} (h : NumB d) (n : Int) : ∃ d', m__law_near [d, .int n] = .ok d' ∧ Num d' := by
  obtain ⟨p, q, r, s, rfl, r0, s0, sp, sq, sr, ss⟩ := h
  have e6 := fun i => dMod_int (i := i) (j := 3) (by decide)
  have z1 : Sz 101 (p + 1) := sp.add (show Sz 100 1 by unfold Sz; decide)
  have z2 : Sz 101 (r + 1) := sr.add (show Sz 100 1 by unfold Sz; decide)
  have z3 : Sz 101 (s + 1) := ss.add (show Sz 100 1 by unfold Sz; decide)
  have x1 := sp.mono (m := 120) (by decide)
  have x2 := sq.mono (m := 120) (by decide)
  have x3 := sr.mono (m := 120) (by decide)
  have x4 := ss.mono (m := 120) (by decide)
  clear sp sq sr ss
  unfold m__law_near b__law_near
  walk_at "pda"
  split
  · exact ⟨_, rfl, _, _, _, _, rfl, r0, s0, z1.mono (by decide), x2, x3, x4⟩
  · split
    · exact ⟨_, rfl, _, _, _, _, rfl, by omega, s0, x1, x2, z2.mono (by decide), x4⟩
    · exact ⟨_, rfl, _, _, _, _, rfl, r0, by omega, x1, x2, x3, z3.mono (by decide)⟩
theorem numbers_turn {ns : List Int} (hb : ∀ z ∈ ns, Builtin.Int.intBits z ≤ 1048576) {st en : D} : ∀ (ks : List Nat), (∀ k ∈ ks, k < ns.length) → ∀ (acc : List D), acc.length + ks.length ≤ 1000 → (∀ x ∈ acc, Num x) → ∀ bs, NumB bs → ∀ a b c, ∃ acc' bs' a' b' c', forL (gN 5) b__law_numbers_1 (ks.map fun (k : Nat) => .int k) [some (.scr ns), some st, some en, some (.lst acc), some bs, a, b, c] = .nx [some (.scr ns), some st, some en, some (.lst acc'), some bs', a', b', c'] ∧ acc'.length = acc.length + ks.length ∧ ∀ x ∈ acc', Num x := by
  obtain ⟨bb, hbd⟩ := by_digits_eq ns
  intro ks
  induction ks with
  | nil => intro _ acc _ h bs _ a b c; exact ⟨acc, bs, a, b, c, rfl, rfl, h⟩
  | cons k ks ih =>
    intro hk acc l h bs hbs a b c
    have hk1 := hk k List.mem_cons_self
    obtain ⟨n, hn, n0, n1⟩ := cell_eq hb hk1
    obtain ⟨z, e2⟩ : ∃ z, dIx (.scr ns) (.int (k : Int)) = .ok (.int z) := ⟨ns[k], dIx_scr (by simp)⟩
    obtain ⟨d1, r1, R1⟩ := read_eq z
    obtain ⟨d2, r2, R2⟩ := again_eq hbs (n / 5)
    obtain ⟨d3, r3, R3⟩ := near_eq hbs (n / 5)
    obtain ⟨d4, r4, R4⟩ := base_eq (n := n / 5) (by omega) (by omega)
    have la : acc.length < 16777216 := by simp only [List.length_cons] at l; omega
    have ea := app_ok la
    have e4 := fun i => dMod_int (i := i) (j := 5) (by decide)
    have e5 := fun i => dDiv_int (i := i) (j := 5) (by decide) (show Sz 3 5 by unfold Sz; decide) (by decide)
    have ih' : ∀ d, Num d → ∀ bs, NumB bs → ∀ a b c, ∃ acc' bs' a' b' c', forL (gN 5) b__law_numbers_1 (ks.map fun (k : Nat) => .int k) [some (.scr ns), some st, some en, some (.lst (acc ++ [d])), some bs, a, b, c] = .nx [some (.scr ns), some st, some en, some (.lst acc'), some bs', a', b', c'] ∧ acc'.length = acc.length + (k :: ks).length ∧ ∀ x ∈ acc', Num x := fun d hd bs hbs a b c => by
      obtain ⟨acc', bs', a', b', c', q1, q2, q3⟩ := ih (fun k' h => hk k' (List.mem_cons_of_mem _ h)) (acc ++ [d]) (by simp only [List.length_append, List.length_cons, List.length_nil] at l ⊢; omega) (fun x hx => by
        rcases List.mem_append.mp hx with q | q
        · exact h x q
        · simp only [List.mem_singleton] at q; subst q; exact hd) bs hbs a b c
      exact ⟨acc', bs', a', b', c', q1, by rw [q2]; simp only [List.length_append, List.length_cons, List.length_nil]; omega, q3⟩
    clear ih h hb hk hk1 l la
    rw [List.map_cons, forL_cons]
    generalize forL (gN 5) b__law_numbers_1 (ks.map fun (k : Nat) => .int k) = R at *
    unfold b__law_numbers_1
    have j1 := ih' d1 R1 bs hbs
    have j2 := ih' d2 R2 bs hbs
    have j3 := ih' d3 R3 bs hbs
    have j4 := ih' d4 R4.num d4 R4
    clear ih'
    cases bb with
    | true =>
      clear j2 j3 j4
      walk_at "pda"
      exact j1 _ _ _
    | false =>
      by_cases w3 : n % 5 = 3
      · clear j1 j3 j4
        walk_at "pda"
        exact j2 _ _ _
      · by_cases w4 : n % 5 = 4
        · clear j1 j2 j4
          walk_at "pda"
          exact j3 _ _ _
        · clear j1 j2 j3
          walk_at "pda"
          exact j4 _ _ _
theorem numbers_eq {ns : List Int} (hl : ns.length ≤ 63) (hb : ∀ z ∈ ns, Builtin.Int.intBits z ≤ 1048576) {m : Nat} (hm : m ≤ 63) : ∃ xs, m__law_numbers [.scr ns, .int 0, .int m] = .ok (.lst xs) ∧ xs.length ≤ 63 ∧ ∀ x ∈ xs, Num x := by
  have b0 : NumB (.tup [.int 0, .int 0, .int 0, .int 1]) := ⟨0, 0, 0, 1, rfl, by decide, by decide, by unfold Sz; decide, by unfold Sz; decide, by unfold Sz; decide, by unfold Sz; decide⟩
  obtain ⟨acc', bs', a', b', c', e, l', h'⟩ := numbers_turn hb (st := .int 0) (en := .int m) (List.range (min (m : Int) ns.length - 0).toNat) (fun k hk => by have := List.mem_range.mp hk; omega) [] (by simp only [List.length_nil, List.length_range]; omega) (fun x h => by cases h) _ b0 none none none
  have r := rng2_ok (i := 0) (j := min (m : Int) ns.length) (by decide) (by decide) (by omega) (by omega)
  have e' : (List.range (min (m : Int) ns.length - 0).toNat).map (fun (n : Nat) => D.int (0 + n)) = (List.range (min (m : Int) ns.length - 0).toNat).map (fun (n : Nat) => D.int n) := by
    refine List.map_congr_left fun n _ => ?_
    rw [Int.zero_add]
  rw [e'] at r
  clear e'
  refine ⟨acc', ?_, by rw [l']; simp only [List.length_nil, List.length_range]; omega, h'⟩
  clear h' l' b0 hb
  unfold m__law_numbers b__law_numbers
  walk_at "pda"
theorem sWhile_true {t : Env → Out Bool} {b : Env → SO} {ρ r : Env} (ht : t ρ = .ok true) (hb : b ρ = .nx r) : sWhile t b ρ = sWhile t b r := by
  have step : ∀ n, whileN t b (n + 1) ρ = whileN t b n r := fun n => by
    show oS (t ρ) _ = _
    rw [ht, oS_ok, if_pos rfl, hb]
    rfl
  by_cases h : ∃ n, whileN t b n r ≠ .stuck
  · obtain ⟨n, h⟩ := h
    rw [sWhile_eq h, sWhile_eq (n := n + 1) (by rw [step]; exact h), step]
  · by_cases h2 : ∃ n, whileN t b n ρ ≠ .stuck
    · obtain ⟨n, h2⟩ := h2
      cases n with
      | zero => exact absurd rfl h2
      | succ n => rw [step] at h2; exact absurd ⟨n, h2⟩ h
    · unfold sWhile
      rw [dif_neg h, dif_neg h2]
theorem sWhile_false {t : Env → Out Bool} {b : Env → SO} {ρ : Env} (ht : t ρ = .ok false) : sWhile t b ρ = .nx ρ := by
  have e : whileN t b 1 ρ = .nx ρ := by
    show oS (t ρ) _ = _
    rw [ht, oS_ok, if_neg Bool.false_ne_true]
  rw [sWhile_eq (n := 1) (by rw [e]; intro z; cases z), e]
theorem two_pow_int (j : Nat) : (0 : Int) < 2 ^ j := by
  have := Nat.two_pow_pos j
  have e : ((2 ^ j : Nat) : Int) = (2 : Int) ^ j := by simp
  omega
theorem sz_2pow (j : Nat) : Sz (j + 1) ((2 : Int) ^ j) := by
  unfold Sz
  have e : ((2 ^ j : Nat) : Int) = (2 : Int) ^ j := by simp
  rw [← e, Int.natAbs_natCast]
  exact Nat.pow_lt_pow_right (by decide) (by omega)
theorem sq_nn (a : Int) : 0 ≤ a * a := by
  rcases Int.le_total 0 a with h | h
  · exact Int.mul_nonneg h h
  · exact Int.mul_nonneg_of_nonpos_of_nonpos h h
theorem sq_le {a b : Int} (h0 : 0 ≤ a) (h : a ≤ b) : a * a ≤ b * b := Int.mul_le_mul h h h0 (by omega)
theorem sq_lt {a b : Int} (h0 : 0 ≤ a) (h : a < b) : a * a < b * b := by
  have h1 : a * a ≤ a * b := Int.mul_le_mul_of_nonneg_left (by omega) h0
  have h2 : a * b < b * b := Int.mul_lt_mul_of_pos_right h (by omega)
  omega
theorem sq_lt_rev {a b : Int} (hb : 0 ≤ b) (h : a * a < b * b) : a < b := by
  by_cases c : a < b
  · exact c
  · have := sq_le hb (show b ≤ a by omega)
    omega
/-- the first loop of whole_root: step grows to a power of two past the root -/
theorem grow {n : Int} {N : Nat} (h0 : 0 ≤ n) (hN : n < 2 ^ N) (lN : N ≤ 1000000) : ∀ (m j : Nat) (x : Option D), j + m = N → ∃ j', j' ≤ N ∧ sWhile (tOf (e2 dLe (e2 dMul (eV 1) (eV 1)) (eV 0))) b_whole_root_1 [some (.int n), some (.int (2 ^ j)), x] = .nx [some (.int n), some (.int (2 ^ j')), x] ∧ n < 2 ^ j' * 2 ^ j' := by
  intro m
  induction m with
  | zero =>
    intro j x e
    have sj : Sz (j + 1) ((2 : Int) ^ j) := sz_2pow j
    have d1 := dMul_int sj sj (by omega)
    have lt : n < 2 ^ j * 2 ^ j := by
      have e : j = N := by omega
      subst e
      have p := two_pow_int j
      have : (2 : Int) ^ j * 1 ≤ 2 ^ j * 2 ^ j := Int.mul_le_mul_of_nonneg_left (by omega) (by omega)
      omega
    refine ⟨j, by omega, sWhile_false ?_, lt⟩
    have nle : ¬ ((2 : Int) ^ j * 2 ^ j ≤ n) := by omega
    clear hN e
    walk_at "pda"
  | succ m ih =>
    intro j x e
    have sj : Sz (j + 1) ((2 : Int) ^ j) := sz_2pow j
    have d1 := dMul_int sj sj (by omega)
    by_cases c : (2 : Int) ^ j * 2 ^ j ≤ n
    · obtain ⟨j', l, q, r⟩ := ih (j + 1) x (by omega)
      refine ⟨j', l, ?_, r⟩
      rw [← q]
      refine sWhile_true ?_ ?_
      · clear ih q r hN e
        walk_at "pda"
      · have d2 := dMul_int sj (show Sz 2 2 by unfold Sz; decide) (by omega)
        have e3 : (2 : Int) ^ (j + 1) = 2 ^ j * 2 := Int.pow_succ 2 j
        rw [e3]
        clear ih q r hN e e3
        unfold b_whole_root_1
        walk_at "pda"
    · refine ⟨j, by omega, sWhile_false ?_, by omega⟩
      clear ih hN e
      walk_at "pda"
theorem seek_turn {n f : Int} {N j : Nat} (jl : j ≤ N) (lN : N ≤ 1000000) (sf : Sz (N + 2) f) : b_whole_root_2 [some (.int n), some (.int (2 ^ j)), some (.int f)] = .nx [some (.int n), some (.int (2 ^ j / 2)), some (.int (if (f + 2 ^ j) * (f + 2 ^ j) ≤ n then f + 2 ^ j else f))] := by
  have sj : Sz (N + 2) ((2 : Int) ^ j) := (sz_2pow j).mono (by omega)
  have d1 := dMul_int (sf.add sj) (sf.add sj) (by omega)
  have d2 := fun i => dDiv_int (i := i) (j := 2) (by decide) (show Sz 2 2 by unfold Sz; decide) (by decide)
  unfold b_whole_root_2
  clear sf jl
  walk_at "pda"
  split <;> walk_at "pda"
theorem seek {n : Int} {N : Nat} (h0 : 0 ≤ n) (lN : N ≤ 1000000) : ∀ (j : Nat) (f : Int), j ≤ N → 0 ≤ f → f * f ≤ n → n < (f + 2 ^ (j + 1)) * (f + 2 ^ (j + 1)) → f + 2 ^ (j + 1) ≤ 2 ^ (N + 1) →
    ∃ k, sWhile (tOf (e2 dGt (eV 1) (eC (.int 0)))) b_whole_root_2 [some (.int n), some (.int (2 ^ j)), some (.int f)] = .nx [some (.int n), some (.int 0), some (.int k)] ∧ 0 ≤ k ∧ k * k ≤ n ∧ n < (k + 1) * (k + 1) := by
  intro j
  induction j with
  | zero =>
    intro f jl f0 le lt lm
    have sf : Sz (N + 2) f := by
      have h1 : f < 2 ^ (N + 2) := by
        have : (2 : Int) ^ (N + 2) = 2 ^ (N + 1) * 2 := Int.pow_succ 2 (N + 1)
        have := two_pow_int (N + 1)
        omega
      have h2 : ((2 ^ (N + 2) : Nat) : Int) = (2 : Int) ^ (N + 2) := by simp
      unfold Sz
      omega
    have e := seek_turn (n := n) (j := 0) jl lN sf
    have e2 : (2 : Int) ^ 0 / 2 = 0 := by decide
    have e3 : (2 : Int) ^ 0 = 1 := by decide
    have e4 : (2 : Int) ^ (0 + 1) = 2 := by decide
    rw [e2] at e
    rw [e4] at lt
    refine ⟨_, (sWhile_true ?_ e).trans (sWhile_false ?_), ?_⟩
    · rw [e3]
      rfl
    · rfl
    · rw [e3]
      split
      · rename_i c
        exact ⟨by omega, c, by rw [show f + 1 + 1 = f + 2 by omega]; exact lt⟩
      · rename_i c
        exact ⟨f0, le, by omega⟩
  | succ j ih =>
    intro f jl f0 le lt lm
    have p1 := two_pow_int j
    have e1 : (2 : Int) ^ (j + 1) = 2 ^ j * 2 := Int.pow_succ 2 j
    have e1' : (2 : Int) ^ (j + 1 + 1) = 2 ^ (j + 1) * 2 := Int.pow_succ 2 (j + 1)
    have sf : Sz (N + 2) f := by
      have h1 : f < 2 ^ (N + 2) := by
        have : (2 : Int) ^ (N + 2) = 2 ^ (N + 1) * 2 := Int.pow_succ 2 (N + 1)
        have := two_pow_int (N + 1)
        have := two_pow_int (j + 1 + 1)
        omega
      have h2 : ((2 ^ (N + 2) : Nat) : Int) = (2 : Int) ^ (N + 2) := by simp
      unfold Sz
      omega
    have e := seek_turn (n := n) (j := j + 1) jl lN sf
    have e2 : (2 : Int) ^ (j + 1) / 2 = 2 ^ j := by omega
    rw [e2] at e
    have tt : tOf (PD.e2 dGt (eV 1) (eC (.int 0))) [some (.int n), some (.int (2 ^ (j + 1))), some (.int f)] = .ok true := by
      have : (0 : Int) < 2 ^ (j + 1) := by omega
      clear ih e e1 e1' lt lm
      walk_at "pda"
    rw [sWhile_true tt e]
    by_cases c : (f + 2 ^ (j + 1)) * (f + 2 ^ (j + 1)) ≤ n
    · rw [if_pos c]
      exact ih _ (by omega) (by omega) c (by rw [show f + 2 ^ (j + 1) + 2 ^ (j + 1) = f + 2 ^ (j + 1 + 1) by omega]; exact lt) (by omega)
    · rw [if_neg c]
      exact ih _ (by omega) f0 le (by omega) (by omega)
theorem whole_root_eq {n : Int} {N : Nat} (h0 : 0 ≤ n) (hN : n < 2 ^ N) (lN : N ≤ 100000) : ∃ k, m_whole_root [.int n] = .ok (.int k) ∧ 0 ≤ k ∧ k * k ≤ n ∧ n < (k + 1) * (k + 1) := by
  obtain ⟨j, jl, e1, l1⟩ := grow h0 hN (by omega) N 0 none (by omega)
  have p1 := two_pow_int j
  have e3 : (2 : Int) ^ (j + 1) = 2 ^ j * 2 := Int.pow_succ 2 j
  have e4 : (2 : Int) ^ (N + 1) = 2 ^ N * 2 := Int.pow_succ 2 N
  have p2 : (2 : Int) ^ j ≤ 2 ^ N := by
    have := Nat.pow_le_pow_right (show 0 < 2 by decide) jl
    have h1 : ((2 ^ j : Nat) : Int) = (2 : Int) ^ j := by simp
    have h2 : ((2 ^ N : Nat) : Int) = (2 : Int) ^ N := by simp
    omega
  have l2 : n < (0 + 2 ^ (j + 1)) * (0 + 2 ^ (j + 1)) := by
    have := sq_le (a := (2 : Int) ^ j) (b := 0 + 2 ^ (j + 1)) (by omega) (by omega)
    omega
  obtain ⟨k, e2, k0, k1, k2⟩ := seek h0 (N := N) (by omega) j 0 jl (by decide) (by simpa using h0) l2 (by omega)
  refine ⟨k, ?_, k0, k1, k2⟩
  have e5 : (2 : Int) ^ 0 = 1 := by decide
  rw [e5] at e1
  clear k0 k1 k2 l2 l1 e3 e4 p1 p2 hN
  unfold m_whole_root b_whole_root
  walk_at "pda"
def flo (p q r s : Int) (k : Int) : Int := if 0 ≤ q then (p + k) / s else if k * k < q * q * r then (p - (k + 1)) / s else (p - k) / s
theorem floor_eq {a : Nat} {p q r s : Int} (hp : Sz a p) (hq : Sz a q) (hr : Sz a r) (hs : Sz a s) (r0 : 0 ≤ r) (s0 : 0 < s) (la : a ≤ 3000) : ∃ k, m_floor_of [.tup [.int p, .int q, .int r, .int s]] = .ok (.int (flo p q r s k)) ∧ 0 ≤ k ∧ k * k ≤ q * q * r ∧ q * q * r < (k + 1) * (k + 1) := by
  have z := (hq.mul hq).mul hr
  have n0 : 0 ≤ q * q * r := Int.mul_nonneg (sq_nn q) r0
  have lt : q * q * r < 2 ^ (a + a + a) := by
    have h2 : ((2 ^ (a + a + a) : Nat) : Int) = (2 : Int) ^ (a + a + a) := by simp
    unfold Sz at z
    omega
  obtain ⟨k, e, k0, k1, k2⟩ := whole_root_eq n0 lt (by omega)
  have sk : Sz (a + a + a) k := by
    have : k ≤ q * q * r := by
      by_cases c : k = 0
      · omega
      · have := Int.mul_le_mul_of_nonneg_left (show 1 ≤ k by omega) k0
        omega
    unfold Sz at z ⊢
    omega
  have d1 := dMul_int hq hq (by omega)
  have d2 := dMul_int (hq.mul hq) hr (by omega)
  have d3 := dMul_int sk sk (by omega)
  have d4 := fun i => dDiv_int (i := i) s0 hs (by omega)
  refine ⟨k, ?_, k0, k1, k2⟩
  clear z sk k1 k2 lt n0 hp hq hr hs
  unfold m_floor_of b_floor_of flo
  walk_at "pda"
  simp only [ok_ite, int_ite]
/-- where v is not below 0: by the root below -/
theorem sign_ge {u v r k : Int} (hv : 0 ≤ v) (hr : 0 ≤ r) (k0 : 0 ≤ k) (k1 : k * k ≤ v * v * r) (k2 : v * v * r < (k + 1) * (k + 1)) : 0 ≤ signOne u v r ↔ 0 ≤ u + k := by
  unfold signOne
  by_cases hz : v * r = 0
  · have e : v * v * r = 0 := by rw [Int.mul_assoc, hz, Int.mul_zero]
    have ek : k = 0 := by
      by_cases c : k = 0
      · exact c
      · have := sq_le (a := 1) (b := k) (by decide) (by omega)
        omega
    rw [hz, ek]
    have : sg 0 = 0 := rfl
    rw [this]
    simp only [or_true, if_true]
    unfold sg
    split
    · omega
    · split <;> omega
  · have hp : 0 < v * r := by
      have := Int.mul_nonneg hv hr
      omega
    have e1 : sg (v * r) = 1 := by unfold sg; rw [if_pos hp]
    rw [e1]
    by_cases h1 : 0 < u
    · have : sg u = 1 := by unfold sg; rw [if_pos h1]
      simp only [this, true_or, if_true]
      omega
    · by_cases h2 : u < 0
      · have e2 : sg u = -1 := by unfold sg; rw [if_neg h1, if_pos h2]
        rw [e2]
        simp only [show ¬ ((-1 : Int) = 1 ∨ (1 : Int) = 0) by decide, show ¬ ((-1 : Int) = 0) by decide, if_false]
        have key : u * u - v * v * r ≤ 0 ↔ 0 ≤ u + k := by
          constructor
          · intro h
            by_cases c : 0 ≤ u + k
            · exact c
            · have := sq_le (a := k + 1) (b := -u) (by omega) (by omega)
              rw [Int.neg_mul_neg] at this
              omega
          · intro h
            have := sq_le (a := -u) (b := k) (by omega) (by omega)
            rw [Int.neg_mul_neg] at this
            omega
        rw [← key]
        unfold sg
        split
        · omega
        · split <;> omega
      · have e2 : u = 0 := by omega
        subst e2
        have : sg 0 = 0 := rfl
        simp only [this, show ¬ ((0 : Int) = 1 ∨ (1 : Int) = 0) by decide, if_true, if_false]
        omega
/-- where v is below 0: by the least c whose square is not below -/
theorem sign_lt {u v r c : Int} (hv : v < 0) (hr : 0 ≤ r) (c0 : 0 ≤ c) (c1 : v * v * r ≤ c * c) (c2 : c = 0 ∨ (c - 1) * (c - 1) < v * v * r) : 0 ≤ signOne u v r ↔ c ≤ u := by
  unfold signOne
  by_cases hz : r = 0
  · subst hz
    have ec : c = 0 := by
      rcases c2 with h | h
      · exact h
      · have := sq_nn (c - 1)
        rw [Int.mul_zero] at h
        omega
    rw [Int.mul_zero, ec]
    have : sg 0 = 0 := rfl
    rw [this]
    simp only [or_true, if_true]
    unfold sg
    split
    · omega
    · split <;> omega
  · have hp : v * r < 0 := Int.mul_neg_of_neg_of_pos hv (by omega)
    have vv : 0 < v * v := Int.mul_pos_of_neg_of_neg hv hv
    have R0 : 0 < v * v * r := Int.mul_pos vv (by omega)
    have cp : 0 < c := by
      by_cases z : c = 0
      · subst z; omega
      · omega
    have e1 : sg (v * r) = -1 := by unfold sg; rw [if_neg (by omega), if_pos hp]
    rw [e1]
    by_cases h1 : 0 < u
    · have e2 : sg u = 1 := by unfold sg; rw [if_pos h1]
      rw [e2]
      simp only [show ¬ ((1 : Int) = -1 ∨ (-1 : Int) = 0) by decide, show ¬ ((1 : Int) = 0) by decide, if_false]
      have key : 0 ≤ u * u - v * v * r ↔ c ≤ u := by
        constructor
        · intro h
          by_cases z : c ≤ u
          · exact z
          · rcases c2 with q | q
            · omega
            · have := sq_le (a := u) (b := c - 1) (by omega) (by omega)
              omega
        · intro h
          have := sq_le (a := c) (b := u) (by omega) h
          omega
      rw [← key]
      unfold sg
      split
      · omega
      · split <;> omega
    · by_cases h2 : u < 0
      · have e2 : sg u = -1 := by unfold sg; rw [if_neg h1, if_pos h2]
        rw [e2]
        simp only [true_or, if_true]
        omega
      · have e2 : u = 0 := by omega
        subst e2
        have : sg 0 = 0 := rfl
        simp only [this, show ¬ ((0 : Int) = -1 ∨ (-1 : Int) = 0) by decide, if_true, if_false]
        omega
theorem flo_law {p q r s k : Int} (r0 : 0 ≤ r) (s0 : 0 < s) (k0 : 0 ≤ k) (k1 : k * k ≤ q * q * r) (k2 : q * q * r < (k + 1) * (k + 1)) :
    0 ≤ lawSign (p - flo p q r s k * s) q r ∧ lawSign (p - (flo p q r s k + 1) * s) q r < 0 := by
  rw [← sign_law (u := p - flo p q r s k * s) (v := q) r0, ← sign_law (u := p - (flo p q r s k + 1) * s) (v := q) r0]
  have dv : ∀ x : Int, x / s * s ≤ x ∧ x < (x / s + 1) * s := fun x => ⟨Int.ediv_mul_le x (by omega), Int.lt_ediv_add_one_mul_self x s0⟩
  unfold flo
  by_cases hq : 0 ≤ q
  · rw [if_pos hq]
    obtain ⟨h1, h2⟩ := dv (p + k)
    refine ⟨(sign_ge hq r0 k0 k1 k2).mpr (by omega), ?_⟩
    have := (sign_ge (u := p - ((p + k) / s + 1) * s) hq r0 k0 k1 k2)
    omega
  · rw [if_neg hq]
    by_cases hk : k * k < q * q * r
    · rw [if_pos hk]
      obtain ⟨h1, h2⟩ := dv (p - (k + 1))
      have c2 : k + 1 = 0 ∨ (k + 1 - 1) * (k + 1 - 1) < q * q * r := .inr (by rw [show k + 1 - 1 = k by omega]; exact hk)
      refine ⟨(sign_lt (by omega) r0 (by omega) (by omega) c2).mpr (by omega), ?_⟩
      have := (sign_lt (u := p - ((p - (k + 1)) / s + 1) * s) (v := q) (by omega) r0 (c := k + 1) (by omega) (by omega) c2)
      omega
    · rw [if_neg hk]
      obtain ⟨h1, h2⟩ := dv (p - k)
      have c2 : k = 0 ∨ (k - 1) * (k - 1) < q * q * r := by
        by_cases z : k = 0
        · exact .inl z
        · have := sq_lt (a := k - 1) (b := k) (by omega) (by omega)
          exact .inr (by omega)
      refine ⟨(sign_lt (by omega) r0 k0 (by omega) c2).mpr (by omega), ?_⟩
      have := (sign_lt (u := p - ((p - k) / s + 1) * s) (v := q) (by omega) r0 (c := k) k0 (by omega) c2)
      omega
theorem flo_sz {n : Nat} {p q r s k : Int} (hp : Sz n p) (hk : Sz n k) : Sz (n + 2) (flo p q r s k) := by
  have dv : ∀ x : Int, Sz (n + 2) x → Sz (n + 2) (x / s) := fun x h => by
    unfold Sz at *
    exact Nat.lt_of_le_of_lt (Int.natAbs_ediv_le_natAbs x s) h
  unfold flo
  split
  · exact dv _ ((hp.add hk).mono (by omega))
  · split
    · refine dv _ ?_
      unfold Sz at *
      rw [Nat.pow_add]
      omega
    · exact dv _ ((hp.sub hk).mono (by omega))
def ordOf (p q r s a b t d : Int) : Int := signTwo (p * d - a * s) (q * d) r (0 - b * s) t
theorem order_eq {n : Nat} {p q r s a b t d : Int} (hp : Sz n p) (hq : Sz n q) (hr : Sz n r) (hs : Sz n s) (ha : Sz n a) (hb : Sz n b) (ht : Sz n t) (hd : Sz n d) (la : n ≤ 40000) :
    m_order [.tup [.int p, .int q, .int r, .int s], .tup [.int a, .int b, .int t, .int d]] = .ok (.int (ordOf p q r s a b t d)) := by
  have e1 := dMul_int hp hd (by omega)
  have e2 := dMul_int ha hs (by omega)
  have e3 := dMul_int hq hd (by omega)
  have e4 := dMul_int hb hs (by omega)
  have z1 : Sz (n + n + 1) (p * d - a * s) := (hp.mul hd).sub (ha.mul hs)
  have z2 := (hq.mul hd).mono (m := n + n + 1) (by omega)
  have z3 : Sz (n + n + 1) (0 - b * s) := (show Sz (n + n) 0 by unfold Sz; exact Nat.two_pow_pos _).sub (hb.mul hs)
  have e5 := sign_two_eq z1 z2 (hr.mono (by omega)) z3 (ht.mono (by omega)) (by omega)
  unfold m_order b_order ordOf
  walk_at "pda"
theorem law_order_eq {n : Nat} {p q r s a b t d : Int} (hp : Sz n p) (hq : Sz n q) (hr : Sz n r) (hs : Sz n s) (ha : Sz n a) (hb : Sz n b) (ht : Sz n t) (hd : Sz n d) (r0 : 0 ≤ r) (t0 : 0 ≤ t) (la : n ≤ 40000) :
    m__law_order [.tup [.int p, .int q, .int r, .int s], .tup [.int a, .int b, .int t, .int d]] = .ok (.int (ordOf p q r s a b t d)) := by
  have e1 := dMul_int hp hd (by omega)
  have e2 := dMul_int ha hs (by omega)
  have e3 := dMul_int hq hd (by omega)
  have e4 := dMul_int hb hs (by omega)
  have z1 : Sz (n + n + 1) (p * d - a * s) := (hp.mul hd).sub (ha.mul hs)
  have z2 := (hq.mul hd).mono (m := n + n + 1) (by omega)
  have z3 : Sz (n + n + 1) (0 - b * s) := (show Sz (n + n) 0 by unfold Sz; exact Nat.two_pow_pos _).sub (hb.mul hs)
  have e5 := law_sign2_eq z1 z2 (hr.mono (by omega)) z3 (ht.mono (by omega)) r0 (by omega)
  have e6 := sign2_law (u := p * d - a * s) (v := q * d) (w := 0 - b * s) r0 t0
  unfold m__law_order b__law_order ordOf
  walk_at "pda"
theorem sg_real (u : Int) : RR.Sg (sg u) fun _ => (u : Rat) := by
  unfold sg
  by_cases h : 0 < u
  · rw [if_pos h]
    exact .inl ⟨rfl, RR.Pos.const (by exact_mod_cast h)⟩
  · rw [if_neg h]
    by_cases k : u < 0
    · rw [if_pos k]
      have : (u : Rat) < 0 := by exact_mod_cast k
      exact .inr (.inr ⟨rfl, RR.Pos.const (c := -(u : Rat)) (by grind)⟩)
    · rw [if_neg k]
      have : u = 0 := by omega
      subst this
      exact .inr (.inl ⟨rfl, RR.Null.zero⟩)
theorem sgv_real {v r : Int} (h : 0 ≤ r) : RR.Sg (sg (v * r)) fun n => (v : Rat) * RR.sq r.toNat n := by
  by_cases h0 : r = 0
  · subst h0
    rw [Int.mul_zero]
    refine .inr (.inl ⟨rfl, ?_⟩)
    intro e he
    refine ⟨0, fun n _ => ?_⟩
    have h1 : RR.rt 0 = 0 := by
      have := RR.rt_le 0
      have : RR.rt 0 * RR.rt 0 = 0 := by omega
      exact (Nat.mul_eq_zero.mp this).elim id id
    have h2 : RR.sq (0 : Int).toNat n = 0 := by
      show RR.sq 0 n = 0
      have h3 := RR.sq_mul 0 n
      rw [Nat.zero_mul, h1] at h3
      have p := RR.N_pos n
      have z0 : ((0 : Nat) : Rat) = 0 := rfl
      have z1 : RR.sq 0 n ≤ 0 := Rat.le_of_mul_le_mul_right (by rw [h3, z0]; grind) p
      have z2 := RR.sq_nn 0 n
      grind
    show -e ≤ (v : Rat) * RR.sq (0 : Int).toNat n ∧ (v : Rat) * RR.sq (0 : Int).toNat n ≤ e
    rw [h2]
    constructor <;> grind
  · have h1 : RR.Pos (RR.sq r.toNat) := ⟨1, by grind, 0, fun n _ => RR.sq_ge _ n (by omega)⟩
    rw [sg_mul (by omega)]
    rcases sg_real v with ⟨e, p⟩ | ⟨e, p⟩ | ⟨e, p⟩
    · exact .inl ⟨e, p.mul h1⟩
    · exact .inr (.inl ⟨e, p.mul (RR.Bd.sq _)⟩)
    · refine .inr (.inr ⟨e, ?_⟩)
      have := p.mul h1
      have e : (fun n => -(v : Rat) * RR.sq r.toNat n) = fun n => -((v : Rat) * RR.sq r.toNat n) := by funext n; grind
      rwa [e] at this
/-- u + v root r -/
noncomputable def one (u v r : Int) : RR.Sq := fun n => (u : Rat) + (v : Rat) * RR.sq r.toNat n
theorem sqr_real {r : Int} (h : 0 ≤ r) : RR.Null fun n => RR.sq r.toNat n * RR.sq r.toNat n - (r : Rat) := by
  have := RR.sq_sq r.toNat
  have e : ((r.toNat : Nat) : Rat) = (r : Rat) := by
    have : ((r.toNat : Nat) : Int) = r := Int.toNat_of_nonneg h
    exact_mod_cast congrArg (fun z : Int => (z : Rat)) this
  rwa [e] at this
theorem RR.Sg.cg {s : Int} {f g : RR.Sq} (h : RR.Sg s f) (e : RR.Null fun n => g n - f n) : RR.Sg s g := by
  rcases h with ⟨h, p⟩ | ⟨h, p⟩ | ⟨h, p⟩
  · exact .inl ⟨h, p.cg e⟩
  · exact .inr (.inl ⟨h, p.cg e⟩)
  · refine .inr (.inr ⟨h, p.cg ?_⟩)
    have := e.neg
    have q : (fun n => -(g n - f n)) = fun n => - g n - - f n := by funext n; grind
    rwa [q] at this
theorem one_real {u v r : Int} (h : 0 ≤ r) : RR.Sg (signOne u v r) (one u v r) := by
  refine RR.Sg.sum (sg_real u) (sgv_real h) ?_ (RR.Bd.const _) ((RR.Bd.const _).mul (RR.Bd.sq _))
  refine (sg_real (u * u - v * v * r)).cg ?_
  have := (sqr_real h).mul (RR.Bd.const (-((v : Rat) * v)))
  have q : (fun n => (RR.sq r.toNat n * RR.sq r.toNat n - (r : Rat)) * -((v : Rat) * v)) = fun n => ((u : Rat) * u - (v : Rat) * RR.sq r.toNat n * ((v : Rat) * RR.sq r.toNat n)) - ((u * u - v * v * r : Int) : Rat) := by
    funext n
    push_cast
    grind
  rwa [q] at this
/-- u + v root r + w root t -/
noncomputable def two (u v r w t : Int) : RR.Sq := fun n => one u v r n + (w : Rat) * RR.sq t.toNat n
theorem one_bd (u v r : Int) : RR.Bd (one u v r) := (RR.Bd.const _).add ((RR.Bd.const _).mul (RR.Bd.sq _))
theorem two_real {u v r w t : Int} (h : 0 ≤ r) (k : 0 ≤ t) : RR.Sg (signTwo u v r w t) (two u v r w t) := by
  refine RR.Sg.sum (one_real h) (sgv_real k) ?_ (one_bd _ _ _) ((RR.Bd.const _).mul (RR.Bd.sq _))
  refine (one_real (u := u * u + v * v * r - w * w * t) (v := 2 * u * v) h).cg ?_
  have h1 := (sqr_real h).mul (RR.Bd.const ((v : Rat) * v))
  have h2 := (sqr_real k).mul (RR.Bd.const (-((w : Rat) * w)))
  have h3 := h1.add h2
  have q : (fun n => (RR.sq r.toNat n * RR.sq r.toNat n - (r : Rat)) * ((v : Rat) * v) + (RR.sq t.toNat n * RR.sq t.toNat n - (t : Rat)) * -((w : Rat) * w)) = fun n => (one u v r n * one u v r n - (w : Rat) * RR.sq t.toNat n * ((w : Rat) * RR.sq t.toNat n)) - one (u * u + v * v * r - w * w * t) (2 * u * v) r n := by
    funext n
    unfold one
    push_cast
    grind
  rwa [q] at h3
namespace Re
open RR
theorem inv_ex (x : Re) (h : x ≠ 0) : ∃ y, x * y = 1 := by
  have key : ∀ x : Re, pos x → ∃ y, x * y = 1 := ind fun a h => by
    obtain ⟨g, cg, ng⟩ := Cy.inv a.c h
    exact ⟨mk ⟨g, cg⟩, Quotient.sound (Null.of ng fun n => by show a.f n * g n - ((1 : Nat) : Rat) = a.f n * g n - 1; rfl)⟩
  rcases tri x with p | p | p
  · exact key x p
  · exact absurd p h
  · obtain ⟨y, e⟩ := key (-x) p
    exact ⟨-y, by grind⟩
open Classical in
noncomputable def inv (x : Re) : Re := if h : x = 0 then 0 else Classical.choose (inv_ex x h)
noncomputable instance : Inv Re := ⟨inv⟩
noncomputable instance : Div Re := ⟨fun a b => a * inv b⟩
theorem mul_inv {x : Re} (h : x ≠ 0) : x * x⁻¹ = 1 := by
  show x * inv x = 1
  unfold inv
  rw [dif_neg h]
  exact Classical.choose_spec (inv_ex x h)
theorem inv_0 : (0 : Re)⁻¹ = 0 := by
  show inv 0 = 0
  unfold inv
  rw [dif_pos rfl]
theorem one_ne : (0 : Re) ≠ 1 := fun h => pos_ne pos_one h.symm
theorem inv_inv (x : Re) : (x⁻¹)⁻¹ = x := by
  by_cases h : x = 0
  · subst h; rw [inv_0, inv_0]
  · have h1 := mul_inv h
    have h2 : x⁻¹ ≠ 0 := fun k => by rw [k] at h1; exact one_ne (by grind)
    have h3 := mul_inv h2
    generalize (x⁻¹)⁻¹ = z at *
    generalize x⁻¹ = y at *
    have : x * (y * z) = x := by rw [h3]; grind
    grind
noncomputable def zpw (a : Re) : Int → Re
  | .ofNat n => a ^ n
  | .negSucc n => (a ^ (n + 1))⁻¹
noncomputable instance : HPow Re Int Re := ⟨zpw⟩
theorem inv_1 : (1 : Re)⁻¹ = 1 := by
  have := mul_inv (x := 1) (fun h => one_ne h.symm)
  grind
noncomputable instance : Lean.Grind.Field Re where
  div_eq_mul_inv a b := rfl
  zero_ne_one := one_ne
  inv_zero := inv_0
  mul_inv_cancel h := mul_inv h
  zpow_zero a := rfl
  zpow_succ a n := rfl
  zpow_neg a n := by
    rcases n with n | n
    · cases n with
      | zero => show (1 : Re) = (1 : Re)⁻¹; rw [inv_1]
      | succ n => rfl
    · show a ^ (n + 1) = ((a ^ (n + 1))⁻¹)⁻¹
      rw [inv_inv]
open Classical in
noncomputable def sgn (x : Re) : Int := if pos x then 1 else if x = 0 then 0 else -1
theorem sgn_pos {x : Re} : sgn x = 1 ↔ 0 < x := by
  rw [lt_def, show x - 0 = x by grind]
  unfold sgn
  split
  · simp [*]
  · split
    · rename_i h; exact ⟨fun k => by simp at k, fun k => absurd k (by rw [h]; exact fun q => pos_ne q rfl)⟩
    · simp [*]
theorem sgn_zero {x : Re} : sgn x = 0 ↔ x = 0 := by
  unfold sgn
  split
  · exact ⟨fun h => by simp at h, fun h => absurd h (pos_ne ‹_›)⟩
  · split <;> simp [*]
theorem sgn_neg {x : Re} : sgn x = -1 ↔ x < 0 := by
  rw [lt_def, show 0 - x = -x by grind]
  rcases tri x with h | h | h
  · have : sgn x = 1 := by unfold sgn; rw [if_pos h]
    rw [this]
    exact ⟨fun k => by omega, fun k => (pos_neg h k).elim⟩
  · subst h
    have : sgn 0 = 0 := sgn_zero.mpr rfl
    rw [this]
    exact ⟨fun k => by omega, fun k => absurd (by grind) (pos_ne k)⟩
  · have h1 : ¬ pos x := fun k => pos_neg k h
    have h2 : x ≠ 0 := fun k => pos_ne h (by grind)
    unfold sgn
    rw [if_neg h1, if_neg h2]
    exact ⟨fun _ => h, fun _ => rfl⟩
theorem sgn_of {s : Int} {a : CSq} (h : Sg s a.f) : sgn (mk a) = s := by
  rcases h with ⟨rfl, h⟩ | ⟨rfl, h⟩ | ⟨rfl, h⟩
  · exact sgn_pos.mpr (by rw [lt_def, show mk a - 0 = mk a by grind]; exact h)
  · exact sgn_zero.mpr (Quotient.sound (Null.of h fun n => by show a.f n - ((0 : Nat) : Rat) = a.f n; grind))
  · exact sgn_neg.mpr (by rw [lt_def, show 0 - mk a = - mk a by grind]; exact h)
theorem sgn_cases (x : Re) : (sgn x = 1 ∧ 0 < x) ∨ (sgn x = 0 ∧ x = 0) ∨ (sgn x = -1 ∧ x < 0) := by
  rcases tri x with h | h | h
  · have : 0 < x := by rw [lt_def, show x - 0 = x by grind]; exact h
    exact .inl ⟨sgn_pos.mpr this, this⟩
  · exact .inr (.inl ⟨sgn_zero.mpr h, h⟩)
  · have : x < 0 := by rw [lt_def, show 0 - x = -x by grind]; exact h
    exact .inr (.inr ⟨sgn_neg.mpr this, this⟩)
end Re
theorem RR.Cy.sq (r : Nat) : RR.Cy (RR.sq r) := fun e he => by
  obtain ⟨N, h⟩ := RR.sq_sq r e he
  refine ⟨N, fun n m hn hm => ?_⟩
  have a1 := h n hn
  have a2 := h m hm
  by_cases c : 1 ≤ r
  · have b1 := RR.sq_ge r n c
    have b2 := RR.sq_ge r m c
    simp only [] at a1 a2
    generalize RR.sq r n = x at *
    generalize RR.sq r m = y at *
    apply Classical.byContradiction
    intro k
    have t : 0 ≤ (x - y - e) * (x + y) := Rat.mul_nonneg (by grind) (by grind)
    have t2 : 0 ≤ e * (x + y - 2) := Rat.mul_nonneg (by grind) (by grind)
    have t3 : 0 < (x - y - e) * (x + y) := Rat.mul_pos (by grind) (by grind)
    grind
  · have : r = 0 := by omega
    subst this
    have z : ∀ n, RR.sq 0 n = 0 := fun n => by
      unfold RR.sq
      have h := RR.rt_le (0 * ((n + 1) * (n + 1)))
      have : RR.rt (0 * ((n + 1) * (n + 1))) = 0 := by
        generalize RR.rt (0 * ((n + 1) * (n + 1))) = k at *
        rcases k with _ | k
        · rfl
        · rw [Nat.zero_mul] at h
          exact absurd h (Nat.not_le.mpr (Nat.mul_pos (Nat.succ_pos k) (Nat.succ_pos k)))
      rw [this]
      show (((0 : Nat) : Rat)) / _ = 0
      grind
    rw [z n, z m]
    grind
namespace Re
open RR
/-- the root of a whole number -/
noncomputable def root (r : Int) : Re := mk ⟨RR.sq r.toNat, Cy.sq _⟩
theorem root_sq {r : Int} (h : 0 ≤ r) : root r * root r = (r : Re) := Quotient.sound (by
  refine Null.of (RR.sq_sq r.toNat) fun n => ?_
  show RR.sq r.toNat n * RR.sq r.toNat n - (r : Rat) = _
  rw [show (r : Rat) = ((r.toNat : Nat) : Rat) by
    show (r : Rat) = ((r.toNat : Int) : Rat)
    rw [Int.toNat_of_nonneg h]])
theorem root_nn (r : Int) : 0 ≤ root r := by
  rw [le_def]
  rintro ⟨e, he, N, h⟩
  have := h N (Nat.le_refl _)
  have k := RR.sq_nn r.toNat N
  have : e ≤ ((0 : Nat) : Rat) + - RR.sq r.toNat N := this
  have z : ((0 : Nat) : Rat) = 0 := rfl
  grind
theorem one_sgn {u v r : Int} (h : 0 ≤ r) : signOne u v r = sgn (u + v * root r) :=
  (sgn_of (a := ⟨fun n => (u : Rat) + (v : Rat) * RR.sq r.toNat n, (Cy.const _).add ((Cy.const _).mul (Cy.sq _))⟩) (one_real h)).symm
theorem two_sgn {u v r w t : Int} (h : 0 ≤ r) (k : 0 ≤ t) : signTwo u v r w t = sgn (u + v * root r + w * root t) :=
  (sgn_of (a := ⟨fun n => (u : Rat) + (v : Rat) * RR.sq r.toNat n + (w : Rat) * RR.sq t.toNat n, ((Cy.const _).add ((Cy.const _).mul (Cy.sq _))).add ((Cy.const _).mul (Cy.sq _))⟩) (two_real h k)).symm
theorem cast_add (a b : Int) : ((a + b : Int) : Re) = a + b := Lean.Grind.Ring.intCast_add a b
theorem cast_mul (a b : Int) : ((a * b : Int) : Re) = a * b := Lean.Grind.Ring.intCast_mul a b
theorem cast_sub (a b : Int) : ((a - b : Int) : Re) = a - b := Lean.Grind.Ring.intCast_sub a b
theorem cast_neg (a : Int) : ((- a : Int) : Re) = - a := Lean.Grind.Ring.intCast_neg a
theorem cast_0 : ((0 : Int) : Re) = 0 := rfl
theorem cast_1 : ((1 : Int) : Re) = 1 := rfl
theorem cast_2 : ((2 : Int) : Re) = 2 := rfl
theorem cast_4 : ((4 : Int) : Re) = 4 := rfl
theorem cast_pos' {a : Int} (h : 0 < a) : (0 : Re) < (a : Re) := by
  rw [lt_def]
  refine Pos.of (Pos.const (c := (a : Rat)) (by exact_mod_cast h)) fun n => ?_
  show (a : Rat) + - ((0 : Nat) : Rat) = (a : Rat)
  have z : ((0 : Nat) : Rat) = 0 := rfl
  grind
theorem cast_lt {a b : Int} : (a : Re) < (b : Re) ↔ a < b := by
  have key : ∀ a b : Int, a < b → (a : Re) < (b : Re) := fun a b h => by
    have := cast_pos' (show 0 < b - a by omega)
    rw [cast_sub] at this
    grind
  refine ⟨fun h => ?_, key a b⟩
  apply Classical.byContradiction
  intro c
  by_cases e : a = b
  · subst e; grind
  · have := key b a (by omega); grind
theorem cast_le {a b : Int} : (a : Re) ≤ (b : Re) ↔ a ≤ b := by
  rw [← Std.not_lt, cast_lt, Int.not_lt]
theorem cast_inj {a b : Int} : (a : Re) = (b : Re) ↔ a = b := by
  refine ⟨fun h => ?_, fun h => by rw [h]⟩
  have h1 : (a : Re) ≤ b := by grind
  have h2 : (b : Re) ≤ a := by grind
  rw [cast_le] at h1 h2
  omega
theorem sgn_int (a : Int) : sgn (a : Re) = sg a := by
  have h0 : ∀ b : Int, ((0 : Int) : Re) = 0 := fun _ => rfl
  rcases sgn_cases (a : Re) with ⟨e, h⟩ | ⟨e, h⟩ | ⟨e, h⟩
  · rw [← cast_0, cast_lt] at h
    rw [e]; unfold sg; (repeat' split) <;> omega
  · rw [← cast_0, cast_inj] at h
    rw [e]; unfold sg; (repeat' split) <;> omega
  · rw [← cast_0, cast_lt] at h
    rw [e]; unfold sg; (repeat' split) <;> omega
end Re
/-! triples of numbers: forms of one name -/
abbrev T3 := Int × Int × Int
def encT (t : T3) : D := .tup [.int t.1, .int t.2.1, .int t.2.2]
def SzT (n : Nat) (t : T3) : Prop := Sz n t.1 ∧ Sz n t.2.1 ∧ Sz n t.2.2
theorem SzT.mono {n m : Nat} {t : T3} (h : SzT n t) (l : n ≤ m) : SzT m t := ⟨h.1.mono l, h.2.1.mono l, h.2.2.mono l⟩
theorem rng_3 : (List.range (3 : Int).toNat).map (fun (k : Nat) => D.int k) = [.int 0, .int 1, .int 2] := rfl
theorem free_eq {n : Int} (h0 : 0 ≤ n) (h1 : n < 1000000000000000000000000000000000000000000000000000000000000) : ∃ t, m__law_free [.int n] = .ok (encT t) ∧ SzT 90 t := by
  obtain ⟨s, es, hs⟩ := lst5 (a := 2) (b := 9) (c := 1000000) (e := 1000000000) (f := 10000000000000000000000000) (i := n % 5) (by omega) (by omega)
  have s0 : 0 ≤ s ∧ s ≤ 10000000000000000000000000 := by omega
  have step : ∀ (x : Int) (acc : List D) (k x3 : Option D) (d : D), 0 ≤ x → x < 2000000000000000000000000000000000000000000000000000000000000 → acc.length ≤ 100 →
      ∃ y a : Int, (oS (gN 3 d [some (.int x), some (.int s), some (.lst acc), x3]) b__law_free_1).cont = .nx [some (.int y), some (.int s), some (.lst (acc ++ [.int a])), some d] ∧ 0 ≤ y ∧ y < 2000000000000000000000000000000000000000000000000000000000000 ∧ -s ≤ a ∧ a ≤ s := by
    intro x acc k x3 d x0 x1 la
    obtain ⟨a, ea, a1, a2⟩ := signed_eq (n := x * 69621 % (1000000000000000000000000000000000000000000000000000000000000 + 7) / 1000000000000000000000000) (m := s) s0.1 (Int.lt_of_le_of_lt s0.2 (by decide))
    refine ⟨_, a, ?_, Int.emod_nonneg (x * 69621) (b := 1000000000000000000000000000000000000000000000000000000000000 + 7) (by decide), Int.lt_trans (Int.emod_lt_of_pos _ (by decide)) (by decide), a1, a2⟩
    unfold b__law_free_1
    walk_at "wka"
    refine chkS_go (cmul_sz (n := 220) (m := 20) (by unfold Sz; omega) (by unfold Sz; decide) (by decide)) ?_
    refine chkS_go (by decide) ?_
    refine chkS_go (cdiv_sz (n := 100) (by decide) (by unfold Sz; decide) (by decide)) ?_
    rw [app_ok (show acc.length < 16777216 by omega)]
  obtain ⟨y1, a1, e1, p1, q1, r1, t1⟩ := step n [] none none (.int 0) h0 (by omega) (by decide)
  obtain ⟨y2, a2, e2, p2', q2, r2, t2⟩ := step y1 ([] ++ [.int a1]) none (some (.int 0)) (.int 1) p1 q1 (by simp)
  obtain ⟨y3, a3, e3, p3', q3, r3, t3⟩ := step y2 (([] ++ [.int a1]) ++ [.int a2]) none (some (.int 1)) (.int 2) p2' q2 (by simp)
  refine ⟨(a1, a2, a3), ?_, by unfold Sz; simp only []; omega, by unfold Sz; simp only []; omega, by unfold Sz; simp only []; omega⟩
  have f5 := t5
  have f6 : forL (gN 3) b__law_free_1 [.int 0, .int 1, .int 2] [some (.int n), some (.int s), some (.lst []), none] = .nx [some (.int y3), some (.int s), some (.lst [.int a1, .int a2, .int a3]), some (.int 2)] := by
    rw [forL_step e1, forL_step e2, forL_step e3]; rfl
  clear step
  unfold m__law_free b__law_free
  walk_at "wka"
  refine chk_go (by decide) ?_
  refine chk_go (by decide) ?_
  rw [rng_3]
  rw [f6]
  rfl
/-! numbers as real numbers -/
abbrev N4 := Int × Int × Int × Int
def encX (x : N4) : D := .tup [.int x.1, .int x.2.1, .int x.2.2.1, .int x.2.2.2]
noncomputable def val (x : N4) : Re := ((x.1 : Re) + (x.2.1 : Re) * Re.root x.2.2.1) / (x.2.2.2 : Re)
structure GoodX (n : Nat) (x : N4) : Prop where
  r0 : 0 ≤ x.2.2.1
  s0 : 0 < x.2.2.2
  sp : Sz n x.1
  sq : Sz n x.2.1
  sr : Sz n x.2.2.1
  ss : Sz n x.2.2.2
theorem GoodX.mono {n m : Nat} {x : N4} (h : GoodX n x) (l : n ≤ m) : GoodX m x := ⟨h.r0, h.s0, h.sp.mono l, h.sq.mono l, h.sr.mono l, h.ss.mono l⟩
theorem Re.sgn_scale {c x : Re} (h : 0 < c) : Re.sgn (c * x) = Re.sgn x := by
  rcases Re.sgn_cases x with ⟨e, k⟩ | ⟨e, k⟩ | ⟨e, k⟩
  · rw [e, Re.sgn_pos]
    have := Lean.Grind.OrderedRing.mul_lt_mul_of_pos_left k h
    grind
  · rw [e, Re.sgn_zero, k]; grind
  · rw [e, Re.sgn_neg]
    have := Lean.Grind.OrderedRing.mul_lt_mul_of_pos_left k h
    grind
theorem val_mul {x : N4} (h : 0 < x.2.2.2) : val x * (x.2.2.2 : Re) = (x.1 : Re) + (x.2.1 : Re) * Re.root x.2.2.1 := by
  have := Re.cast_pos' h
  unfold val
  grind
def ordX (x y : N4) : Int := ordOf x.1 x.2.1 x.2.2.1 x.2.2.2 y.1 y.2.1 y.2.2.1 y.2.2.2
theorem ordX_sgn {x y : N4} (r0 : 0 ≤ x.2.2.1) (s0 : 0 < x.2.2.2) (t0 : 0 ≤ y.2.2.1) (d0 : 0 < y.2.2.2) : ordX x y = Re.sgn (val x - val y) := by
  have h1 := val_mul s0
  have h2 := val_mul d0
  unfold ordX ordOf
  rw [Re.two_sgn r0 t0]
  have c1 := Re.cast_pos' s0
  have c2 := Re.cast_pos' d0
  have c3 : (0 : Re) < (x.2.2.2 : Re) * (y.2.2.2 : Re) := by
    have := Lean.Grind.OrderedRing.mul_lt_mul_of_pos_left c2 c1
    grind
  rw [← Re.sgn_scale (x := val x - val y) c3]
  congr 1
  simp only [Re.cast_sub, Re.cast_mul, Re.cast_0]
  grind
theorem ordX_lt {n m : Nat} {x y : N4} (h : GoodX n x) (k : GoodX m y) : ordX x y < 0 ↔ val x < val y := by
  rw [ordX_sgn h.r0 h.s0 k.r0 k.s0]
  rcases Re.sgn_cases (val x - val y) with ⟨e, q⟩ | ⟨e, q⟩ | ⟨e, q⟩ <;> rw [e]
  · exact ⟨fun z => absurd z (by decide), fun z => by grind⟩
  · exact ⟨fun z => absurd z (by decide), fun z => by grind⟩
  · exact ⟨fun _ => by grind, fun _ => by decide⟩
theorem ordX_gt {n m : Nat} {x y : N4} (h : GoodX n x) (k : GoodX m y) : 0 < ordX x y ↔ val y < val x := by
  rw [ordX_sgn h.r0 h.s0 k.r0 k.s0]
  rcases Re.sgn_cases (val x - val y) with ⟨e, q⟩ | ⟨e, q⟩ | ⟨e, q⟩ <;> rw [e]
  · exact ⟨fun _ => by grind, fun _ => by decide⟩
  · exact ⟨fun z => absurd z (by decide), fun z => by grind⟩
  · exact ⟨fun z => absurd z (by decide), fun z => by grind⟩
theorem order_X {n : Nat} {x y : N4} (h : GoodX n x) (k : GoodX n y) (l : n ≤ 40000) : m_order [encX x, encX y] = .ok (.int (ordX x y)) :=
  order_eq h.sp h.sq h.sr h.ss k.sp k.sq k.sr k.ss l
theorem law_order_X {n : Nat} {x y : N4} (h : GoodX n x) (k : GoodX n y) (l : n ≤ 40000) : m__law_order [encX x, encX y] = .ok (.int (ordX x y)) :=
  law_order_eq h.sp h.sq h.sr h.ss k.sp k.sq k.sr k.ss h.r0 k.r0 l
/-! forms of one name, by their numbers -/
noncomputable def pol (t : T3) (X : Re) : Re := (t.1 : Re) + (t.2.1 : Re) * X + (t.2.2 : Re) * X * X
def rootsUp (c b a : Int) : List N4 :=
  if a = 0 then (if b = 0 then [] else [(0 - c, 0, 0, b)])
  else if b * b - 4 * a * c < 0 then [] else if b * b - 4 * a * c = 0 then [(0 - b, 0, 0, 2 * a)] else [(0 - b, -1, b * b - 4 * a * c, 2 * a), (0 - b, 1, b * b - 4 * a * c, 2 * a)]
def rootsOf (t : T3) : List N4 := if t.2.2 < 0 ∨ (t.2.2 = 0 ∧ t.2.1 < 0) then rootsUp (0 - t.1) (0 - t.2.1) (0 - t.2.2) else rootsUp t.1 t.2.1 t.2.2
def many (t : T3) : Int := if t.2.2 = 0 then (if t.2.1 ≠ 0 then 1 else 0) else (if 0 ≤ t.2.1 * t.2.1 - 4 * t.2.2 * t.1 then 1 else 0) + (if 0 < t.2.1 * t.2.1 - 4 * t.2.2 * t.1 then 1 else 0)
theorem Re.sq_zero {x y : Re} (h : x * x = y * y) : x = y ∨ x = -y := by
  by_cases c : x = y
  · exact .inl c
  · right
    have h1 : (x - y) * (x + y) = 0 := by grind
    have h2 := Re.mul_inv (x := x - y) (by grind)
    grind
theorem Re.sq_nn (x : Re) : 0 ≤ x * x := by
  by_cases c : 0 ≤ x
  · have := Lean.Grind.OrderedRing.mul_le_mul_of_nonneg_left c c
    grind
  · have c' : 0 ≤ -x := by grind
    have := Lean.Grind.OrderedRing.mul_le_mul_of_nonneg_left c' c'
    grind
theorem Re.z_of {a x : Re} (h : 0 < a) (e : a * x = 0) : x = 0 := by
  have := Re.mul_inv (x := a) (by grind)
  grind
/-- the roots, where a > 0 or a = 0 and b ≥ 0 -/
theorem rootsUp_is {c b a : Int} (h : 0 < a ∨ (a = 0 ∧ 0 ≤ b)) (nz : ¬ (c = 0 ∧ b = 0 ∧ a = 0)) :
    (∀ X, pol (c, b, a) X = 0 ↔ ∃ y ∈ rootsUp c b a, val y = X) ∧ (rootsUp c b a).Pairwise (fun x y => val x < val y) ∧ ((rootsUp c b a).length : Int) = many (c, b, a) := by
  unfold rootsUp many pol
  simp only []
  by_cases ha : a = 0
  · subst ha
    rw [if_pos rfl, if_pos rfl]
    by_cases hb : b = 0
    · subst hb
      rw [if_pos rfl, if_neg (by simp)]
      refine ⟨fun X => ?_, List.Pairwise.nil, rfl⟩
      have hc : c ≠ 0 := fun e => nz ⟨e, rfl, rfl⟩
      simp only [Re.cast_0]
      have : (c : Re) ≠ 0 := fun e => hc (Re.cast_inj.mp e)
      constructor
      · intro e; exact absurd (by grind) this
      · rintro ⟨y, hy, _⟩; cases hy
    · rw [if_neg hb, if_pos hb]
      refine ⟨fun X => ?_, List.pairwise_singleton _ _, rfl⟩
      have hv := val_mul (x := (0 - c, 0, 0, b)) (by show 0 < b; omega)
      have h0 : (0 : Re) < (b : Re) := Re.cast_pos' (by omega)
      simp only [Re.cast_sub, Re.cast_0] at hv ⊢
      constructor
      · intro e; exact ⟨_, List.mem_singleton.mpr rfl, by grind⟩
      · rintro ⟨y, hy, e⟩
        rw [List.mem_singleton] at hy
        subst hy
        grind
  · have a0 : 0 < a := by omega
    have h0 : (0 : Re) < (a : Re) := Re.cast_pos' a0
    have key : ∀ X : Re, 4 * (a : Re) * ((c : Re) + (b : Re) * X + (a : Re) * X * X) = (2 * (a : Re) * X + b) * (2 * (a : Re) * X + b) - ((b * b - 4 * a * c : Int) : Re) := by
      intro X
      simp only [Re.cast_sub, Re.cast_mul, show ((4 : Int) : Re) = 4 from rfl]
      grind
    rw [if_neg ha, if_neg ha]
    generalize hU : b * b - 4 * a * c = U at *
    by_cases u0 : U < 0
    · rw [if_pos u0, if_neg (by omega), if_neg (by omega)]
      refine ⟨fun X => ?_, List.Pairwise.nil, rfl⟩
      have k := key X
      have k2 := Re.sq_nn (2 * (a : Re) * X + b)
      have k3 : (U : Re) < 0 := Re.cast_lt.mpr u0
      constructor
      · intro e; rw [e] at k; grind
      · rintro ⟨y, hy, _⟩; cases hy
    · rw [if_neg u0]
      by_cases u1 : U = 0
      · rw [if_pos u1, if_pos (by omega), if_neg (by omega)]
        refine ⟨fun X => ?_, List.pairwise_singleton _ _, rfl⟩
        have k := key X
        have hv := val_mul (x := (0 - b, 0, 0, 2 * a)) (by show 0 < 2 * a; omega)
        simp only [Re.cast_sub, Re.cast_mul, Re.cast_0, Re.cast_2] at hv
        subst u1
        rw [Re.cast_0] at k
        constructor
        · intro e
          rw [e] at k
          have : 2 * (a : Re) * X + b = 0 := by
            rcases Re.sq_zero (x := 2 * (a : Re) * X + b) (y := 0) (by grind) with q | q <;> grind
          refine ⟨_, List.mem_singleton.mpr rfl, ?_⟩
          clear key k e hU
          generalize val (0 - b, 0, 0, 2 * a) = V at *
          have e2 := Re.z_of (a := 2 * (a : Re)) (x := V - X) (by grind) (by grind)
          grind
        · rintro ⟨y, hy, e⟩
          rw [List.mem_singleton] at hy
          subst hy
          have : 2 * (a : Re) * X + b = 0 := by grind
          rw [this] at k
          exact Re.z_of (a := 4 * (a : Re)) (by grind) (by rw [k]; grind)
      · rw [if_neg u1, if_pos (by omega), if_pos (by omega)]
        have r1 := Re.root_sq (r := U) (by omega)
        have r2 := Re.root_nn U
        have r3 : (0 : Re) < (U : Re) := Re.cast_pos' (by omega)
        have r4 : 0 < Re.root U := by
          by_cases z : Re.root U = 0
          · rw [z] at r1; grind
          · grind
        have hv := val_mul (x := (0 - b, -1, U, 2 * a)) (by show 0 < 2 * a; omega)
        have hw := val_mul (x := (0 - b, 1, U, 2 * a)) (by show 0 < 2 * a; omega)
        simp only [Re.cast_sub, Re.cast_mul, Re.cast_0, Re.cast_1, Re.cast_2, Re.cast_neg] at hv hw
        generalize hV : val (0 - b, -1, U, 2 * a) = V at *
        generalize hW : val (0 - b, 1, U, 2 * a) = W at *
        refine ⟨fun X => ?_, ?_, rfl⟩
        · have k := key X
          constructor
          · intro e
            rw [e] at k
            have q : (2 * (a : Re) * X + b) * (2 * (a : Re) * X + b) = Re.root U * Re.root U := by grind
            rcases Re.sq_zero q with q | q
            · exact ⟨(0 - b, 1, U, 2 * a), by simp, by rw [hW]; grind⟩
            · exact ⟨(0 - b, -1, U, 2 * a), by simp, by rw [hV]; grind⟩
          · rintro ⟨y, hy, e⟩
            rcases List.mem_cons.mp hy with rfl | hy
            · rw [hV] at e
              have : 2 * (a : Re) * X + b = - Re.root U := by grind
              rw [this] at k
              exact Re.z_of (a := 4 * (a : Re)) (by grind) (by rw [k]; grind)
            · rw [List.mem_singleton] at hy
              subst hy
              rw [hW] at e
              have : 2 * (a : Re) * X + b = Re.root U := by grind
              rw [this] at k
              exact Re.z_of (a := 4 * (a : Re)) (by grind) (by rw [k]; grind)
        · rw [List.pairwise_cons]
          refine ⟨fun y hy => ?_, List.pairwise_singleton _ _⟩
          rw [List.mem_singleton] at hy
          subst hy
          rw [hV, hW]
          have : (W - V) * (2 * (a : Re)) = 2 * Re.root U := by grind
          apply Classical.byContradiction
          intro c
          have c' : 0 ≤ V - W := by grind
          have c2 : (0 : Re) ≤ 2 * (a : Re) := by grind
          have := Lean.Grind.OrderedRing.mul_nonneg c' c2
          grind
theorem rootsOf_is {t : T3} (nz : t ≠ (0, 0, 0)) :
    (∀ X, pol t X = 0 ↔ ∃ y ∈ rootsOf t, val y = X) ∧ (rootsOf t).Pairwise (fun x y => val x < val y) ∧ ((rootsOf t).length : Int) = many t := by
  obtain ⟨c, b, a⟩ := t
  have nz' : ¬ (c = 0 ∧ b = 0 ∧ a = 0) := fun ⟨h1, h2, h3⟩ => nz (by rw [h1, h2, h3])
  unfold rootsOf
  by_cases h : a < 0 ∨ (a = 0 ∧ b < 0)
  · rw [if_pos h]
    obtain ⟨h1, h2, h3⟩ := rootsUp_is (c := 0 - c) (b := 0 - b) (a := 0 - a) (by omega) (by omega)
    refine ⟨fun X => ?_, h2, ?_⟩
    · rw [← h1 X]
      unfold pol
      simp only [Re.cast_sub, Re.cast_0]
      constructor <;> intro e <;> grind
    · rw [h3]
      unfold many
      simp only []
      have e : (0 - b) * (0 - b) - 4 * (0 - a) * (0 - c) = b * b - 4 * a * c := by grind
      rw [e]
      by_cases a0 : a = 0
      · subst a0
        simp
      · rw [if_neg (by omega), if_neg a0]
  · rw [if_neg h]
    exact rootsUp_is (by omega) nz'
theorem Re.mul_nn {x y : Re} (h : 0 ≤ x) (k : 0 ≤ y) : 0 ≤ x * y := Lean.Grind.OrderedRing.mul_nonneg h k
theorem Re.mul_pp {x y : Re} (h : 0 < x) (k : 0 < y) : 0 < x * y := by
  have := Lean.Grind.OrderedRing.mul_lt_mul_of_pos_left k h
  grind
theorem Re.abs_mul {x y p q : Re} (h1 : -p ≤ x) (h2 : x ≤ p) (k1 : -q ≤ y) (k2 : y ≤ q) : -(p * q) ≤ x * y ∧ x * y ≤ p * q := by
  have a1 := Re.mul_nn (x := p - x) (y := q + y) (by grind) (by grind)
  have a2 := Re.mul_nn (x := p + x) (y := q - y) (by grind) (by grind)
  have a3 := Re.mul_nn (x := p - x) (y := q - y) (by grind) (by grind)
  have a4 := Re.mul_nn (x := p + x) (y := q + y) (by grind) (by grind)
  constructor <;> grind
theorem Re.one_of {B : Re} {b : Int} (h : B * B = (b : Re)) (p : 0 < B) : 1 ≤ B := by
  have h1 : (0 : Re) < (b : Re) := by rw [← h]; exact Re.mul_pp p p
  have h2 : 0 < b := Re.cast_lt.mp (by rw [Re.cast_0]; exact h1)
  have h3 : (1 : Re) ≤ (b : Re) := by rw [← Re.cast_1, Re.cast_le]; omega
  apply Classical.byContradiction
  intro c
  have a1 := Re.mul_nn (x := 1 - B) (y := B) (by grind) (by grind)
  grind
theorem Re.zero_or {x y : Re} (h : x * y = 0) : x = 0 ∨ y = 0 := by
  by_cases c : x = 0
  · exact .inl c
  · right
    have := Re.mul_inv c
    grind
/-- a sum of two roots and a whole number is not small where it is not 0 -/
theorem Re.gap {A B C K : Re} {a b c : Int} (hA : A = (a : Re)) (hB : B * B = (b : Re)) (hC : C * C = (c : Re)) (hp : 0 < A + B + C) (hK : 1 ≤ K)
    (a1 : -K ≤ A) (a2 : A ≤ K) (b1 : -K ≤ B) (b2 : B ≤ K) (c1 : -K ≤ C) (c2 : C ≤ K) : 1 ≤ (A + B + C) * ((3 * K) * ((3 * K) * (3 * K))) := by
  have kk : 0 ≤ (3 * K) * (3 * K) - 1 := by
    have := Re.mul_nn (x := K - 1) (y := K + 1) (by grind) (by grind)
    grind
  have kkk : 1 ≤ (3 * K) * ((3 * K) * (3 * K)) := by
    have := Re.mul_nn (x := 3 * K - 1) (y := (3 * K) * (3 * K)) (by grind) (by grind)
    grind
  have big : 1 ≤ A + B + C → 1 ≤ (A + B + C) * ((3 * K) * ((3 * K) * (3 * K))) := fun h => by
    have := Re.mul_nn (x := A + B + C - 1) (y := (3 * K) * ((3 * K) * (3 * K))) (by grind) (by grind)
    grind
  have hA2 : A * A = ((a * a : Int) : Re) := by rw [hA, Re.cast_mul]
  by_cases h1 : A - B + C = 0
  · have := Re.one_of hB (by grind)
    exact big (by grind)
  · by_cases h2 : A + B - C = 0
    · have := Re.one_of hC (by grind)
      exact big (by grind)
    · by_cases h3 : A - B - C = 0
      · have := Re.one_of hA2 (by grind)
        exact big (by grind)
      · have hN : (A + B + C) * ((A - B - C) * ((A - B + C) * (A + B - C))) = ((a * a * (a * a) + b * b + c * c - 2 * (a * a) * b - 2 * (a * a) * c - 2 * b * c : Int) : Re) := by
          simp only [Re.cast_sub, Re.cast_add, Re.cast_mul, Re.cast_2]
          rw [← hA, ← hB, ← hC]
          grind
        generalize a * a * (a * a) + b * b + c * c - 2 * (a * a) * b - 2 * (a * a) * c - 2 * b * c = N at hN
        have nz : N ≠ 0 := by
          rintro rfl
          rw [Re.cast_0] at hN
          rcases Re.zero_or hN with q | q
          · grind
          · rcases Re.zero_or q with q | q
            · exact h3 q
            · rcases Re.zero_or q with q | q
              · exact h1 q
              · exact h2 q
        have y1 := Re.abs_mul (x := A - B + C) (y := A + B - C) (p := 3 * K) (q := 3 * K) (by grind) (by grind) (by grind) (by grind)
        have y2 := Re.abs_mul (x := A - B - C) (y := (A - B + C) * (A + B - C)) (p := 3 * K) (q := (3 * K) * (3 * K)) (by grind) (by grind) y1.1 y1.2
        generalize (A - B - C) * ((A - B + C) * (A + B - C)) = Y at *
        generalize (3 * K) * ((3 * K) * (3 * K)) = L at *
        have z1 := Re.mul_nn (x := A + B + C) (y := L - Y) (by grind) (by grind)
        have z2 := Re.mul_nn (x := A + B + C) (y := L + Y) (by grind) (by grind)
        rcases Int.lt_or_gt_of_ne nz with q | q
        · have : (N : Re) ≤ -1 := by rw [← Re.cast_1, ← Re.cast_neg, Re.cast_le]; omega
          grind
        · have : (1 : Re) ≤ (N : Re) := by rw [← Re.cast_1, Re.cast_le]; omega
          grind
theorem Re.abs_int {n : Nat} {i : Int} (h : Sz n i) : -((2 ^ n : Nat) : Int) ≤ i ∧ i ≤ ((2 ^ n : Nat) : Int) := by
  unfold Sz at h
  generalize 2 ^ n = m at *
  omega
theorem Re.sz_cast {n : Nat} {i : Int} (h : Sz n i) : -(((2 ^ n : Nat) : Int) : Re) ≤ (i : Re) ∧ (i : Re) ≤ (((2 ^ n : Nat) : Int) : Re) := by
  obtain ⟨h1, h2⟩ := Re.abs_int h
  rw [← Re.cast_neg]
  exact ⟨Re.cast_le.mpr h1, Re.cast_le.mpr h2⟩
theorem Re.root_le {r : Int} (h : 0 ≤ r) : Re.root r ≤ (r : Re) + 1 := by
  have h1 := Re.root_sq h
  have h2 := Re.root_nn r
  have h3 : (0 : Re) ≤ (r : Re) := by rw [← Re.cast_0, Re.cast_le]; exact h
  apply Classical.byContradiction
  intro c
  have := Re.mul_nn (x := Re.root r - ((r : Re) + 1)) (y := Re.root r + ((r : Re) + 1)) (by grind) (by grind)
  have := Re.mul_nn h3 h3
  have h4 := Re.mul_pp (x := Re.root r - ((r : Re) + 1)) (y := Re.root r + ((r : Re) + 1)) (by grind) (by grind)
  grind
/-- two numbers that are unlike are not near one another -/
theorem val_gap {n : Nat} {x y : N4} (hx : GoodX n x) (hy : GoodX n y) (h : val x < val y) : 1 ≤ (((2 ^ (11 * n + 9) : Nat) : Int) : Re) * (val y - val x) := by
  obtain ⟨p, q, r, s⟩ := x
  obtain ⟨a, b, t, d⟩ := y
  obtain ⟨r0, s0, zp, zq, zr, zs⟩ := hx
  obtain ⟨t0, d0, za, zb, zt, zd⟩ := hy
  have h1 := val_mul (x := (p, q, r, s)) s0
  have h2 := val_mul (x := (a, b, t, d)) d0
  simp only [] at *
  have c1 := Re.cast_pos' s0
  have c2 := Re.cast_pos' d0
  have c3 := Re.mul_pp c1 c2
  have e1 := Re.root_sq r0
  have e2 := Re.root_sq t0
  have l1 := Re.root_le r0
  have l2 := Re.root_le t0
  have n1 := Re.root_nn r
  have n2 := Re.root_nn t
  generalize val (p, q, r, s) = X at *
  generalize val (a, b, t, d) = Y at *
  generalize Re.root r = R at *
  generalize Re.root t = T at *
  -- sizes
  have zA : Sz (2 * n + 1) (a * s - p * d) := ((za.mul zs).sub (zp.mul zd)).mono (by omega)
  have zB : Sz (2 * n) (q * d) := (zq.mul zd).mono (by omega)
  have zC : Sz (2 * n) (b * s) := (zb.mul zs).mono (by omega)
  have w1 := Re.sz_cast zA
  have w2 := Re.sz_cast zB
  have w3 := Re.sz_cast zC
  have w4 := Re.sz_cast zs
  have w5 := Re.sz_cast zd
  have r2 : R ≤ (((2 ^ n : Nat) : Int) : Re) := by
    have : (r : Re) + 1 ≤ (((2 ^ n : Nat) : Int) : Re) := by
      rw [← Re.cast_1, ← Re.cast_add, Re.cast_le]
      unfold Sz at zr; omega
    grind
  have t2 : T ≤ (((2 ^ n : Nat) : Int) : Re) := by
    have : (t : Re) + 1 ≤ (((2 ^ n : Nat) : Int) : Re) := by
      rw [← Re.cast_1, ← Re.cast_add, Re.cast_le]
      unfold Sz at zt; omega
    grind
  have pw : ∀ i j : Nat, (((2 ^ i : Nat) : Int) : Re) * (((2 ^ j : Nat) : Int) : Re) = (((2 ^ (i + j) : Nat) : Int) : Re) := fun i j => by
    rw [← Re.cast_mul, ← Int.natCast_mul, Nat.pow_add]
  have mono : ∀ {i j : Nat}, i ≤ j → (((2 ^ i : Nat) : Int) : Re) ≤ (((2 ^ j : Nat) : Int) : Re) := fun h => by
    rw [Re.cast_le]; exact Int.ofNat_le.mpr (Nat.pow_le_pow_right (by decide) h)
  have pos : ∀ i : Nat, (1 : Re) ≤ (((2 ^ i : Nat) : Int) : Re) := fun i => by
    have := mono (Nat.zero_le i)
    exact this
  have B1 := Re.abs_mul (x := ((q * d : Int) : Re)) (y := R) w2.1 w2.2 (q := (((2 ^ n : Nat) : Int) : Re)) (by have := pos n; grind) r2
  have C1 := Re.abs_mul (x := ((b * s : Int) : Re)) (y := T) w3.1 w3.2 (q := (((2 ^ n : Nat) : Int) : Re)) (by have := pos n; grind) t2
  rw [pw] at B1 C1
  have m1 := mono (show 2 * n + 1 ≤ 3 * n + 1 by omega)
  have m2 := mono (show 2 * n + n ≤ 3 * n + 1 by omega)
  have g := Re.gap (A := ((a * s - p * d : Int) : Re)) (B := -(((q * d : Int) : Re) * R)) (C := ((b * s : Int) : Re) * T) (K := (((2 ^ (3 * n + 1) : Nat) : Int) : Re)) (a := a * s - p * d) (b := q * d * (q * d) * r) (c := b * s * (b * s) * t) rfl
    (by rw [Re.cast_mul, Re.cast_mul, ← e1]; grind) (by rw [Re.cast_mul, Re.cast_mul, ← e2]; grind)
    (by
      simp only [Re.cast_sub, Re.cast_mul]
      have : (Y - X) * ((s : Re) * (d : Re)) = (a : Re) * s - p * d + -((q : Re) * d * R) + b * s * T := by grind
      rw [← this]
      exact Re.mul_pp (by grind) c3)
    (pos _) (by grind) (by grind) (by grind) (by grind) (by grind) (by grind)
  have e3 : ((a * s - p * d : Int) : Re) + -(((q * d : Int) : Re) * R) + ((b * s : Int) : Re) * T = (Y - X) * ((s : Re) * (d : Re)) := by
    simp only [Re.cast_sub, Re.cast_mul]
    grind
  rw [e3] at g
  have k3 : 3 * (((2 ^ (3 * n + 1) : Nat) : Int) : Re) ≤ (((2 ^ (3 * n + 1 + 2) : Nat) : Int) : Re) := by
    have h5 := pw (3 * n + 1) 2
    have := pos (3 * n + 1)
    have h4 : (((2 ^ 2 : Nat) : Int) : Re) = 4 := rfl
    rw [h4] at h5
    rw [← h5]
    grind
  have up : ∀ {u v u' v' : Re}, 0 ≤ u → 0 ≤ v → u ≤ u' → v ≤ v' → u * v ≤ u' * v' := fun h1 h2 h3 h4 => by
    rename_i u v u' v'
    have a1 := Re.mul_nn (x := u' - u) (y := v') (by grind) (by grind)
    have a2 := Re.mul_nn (x := u) (y := v' - v) (by grind) (by grind)
    grind
  have k0 : (0 : Re) ≤ 3 * (((2 ^ (3 * n + 1) : Nat) : Int) : Re) := by have := pos (3 * n + 1); grind
  have k4 := up k0 k0 k3 k3
  have k5 := up k0 (Re.mul_nn k0 k0) k3 k4
  rw [pw, pw] at k5
  have sd := up (Std.le_of_lt c1) (Std.le_of_lt c2) w4.2 w5.2
  rw [pw] at sd
  have all := up (Re.mul_nn k0 (Re.mul_nn k0 k0)) (Std.le_of_lt c3) k5 sd
  rw [pw] at all
  have ex : 3 * n + 1 + 2 + (3 * n + 1 + 2 + (3 * n + 1 + 2)) + (n + n) ≤ 11 * n + 9 := by omega
  have fin := mono ex
  have d0' : 0 ≤ Y - X := by grind
  have := Re.mul_nn d0' (show 0 ≤ (((2 ^ (11 * n + 9) : Nat) : Int) : Re) - (3 * (((2 ^ (3 * n + 1) : Nat) : Int) : Re) * (3 * (((2 ^ (3 * n + 1) : Nat) : Int) : Re) * (3 * (((2 ^ (3 * n + 1) : Nat) : Int) : Re)))) * ((s : Re) * (d : Re)) by grind)
  grind
/-! values of forms at a point -/
def wM (pt : List Nat → Int) : Mn → Int
  | [] => 1
  | p :: m => pt p.1 ^ p.2.toNat * wM pt m
def valL (pt : List Nat → Int) : List Tm → Int
  | [] => 0
  | q :: l => q.2 * wM pt q.1 + valL pt l
section
variable (pt : List Nat → Int)
theorem valL_put (l : List Tm) (m : Mn) (z : Int) : valL pt (put l m ((fnd l m).getD 0 + z)) = valL pt l + z * wM pt m := by
  induction l with
  | nil => simp [put, fnd, valL]
  | cons q l ih =>
    simp only [put, fnd]
    by_cases c : q.1 = m
    · rw [if_pos c, if_pos c]
      simp only [valL, Option.getD_some, c, Int.add_mul]
      omega
    · rw [if_neg c, if_neg c]
      simp only [valL, ih]
      omega
theorem valL_tot : ∀ (ps l : List Tm), valL pt (tot l ps) = valL pt l + valL pt ps
  | [], l => by simp [tot, valL]
  | q :: ps, l => by
    simp only [tot, valL]
    rw [valL_tot ps, valL_put]
    omega
theorem valL_perm {l m : List Tm} (h : l.Perm m) : valL pt l = valL pt m := by
  induction h with
  | nil => rfl
  | cons x _ ih => simp only [valL, ih]
  | swap x y l => simp only [valL]; omega
  | trans _ _ a b => rw [a, b]
theorem valL_nz (l : List Tm) : valL pt (l.filter fun q => decide (q.2 ≠ 0)) = valL pt l := by
  induction l with
  | nil => rfl
  | cons q l ih =>
    by_cases c : q.2 = 0
    · rw [List.filter_cons_of_neg (by simp [c]), ih]
      simp [valL, c]
    · rw [List.filter_cons_of_pos (by simp [c])]
      simp only [valL, ih]
theorem valL_formOf (ps : List Tm) : valL pt (formOf ps) = valL pt ps := by
  unfold formOf
  rw [valL_nz, valL_perm pt (List.mergeSort_perm _ _), valL_tot]
  simp [valL]
theorem valL_app (a b : List Tm) : valL pt (a ++ b) = valL pt a + valL pt b := by
  induction a with
  | nil => simp [valL]
  | cons q a ih => simp only [List.cons_append, valL, ih]; omega
theorem valL_neg (a : List Tm) : valL pt (a.map fun q => (q.1, 0 - q.2)) = - valL pt a := by
  induction a with
  | nil => rfl
  | cons q a ih => simp only [List.map_cons, valL, ih, Int.sub_mul, Int.zero_mul]; omega
theorem valL_scale (a : List Tm) (n : Int) : valL pt (a.map fun q => (q.1, n * q.2)) = valL pt a * n := by
  induction a with
  | nil => simp [valL]
  | cons q a ih => simp only [List.map_cons, valL, ih, Int.add_mul]; rw [Int.mul_assoc, Int.mul_comm n]
theorem wM_put {l : Mn} {n : List Nat} {z : Int} (hz : 0 ≤ z) (hl : ∀ p ∈ l, 0 ≤ p.2) : wM pt (put l n ((fnd l n).getD 0 + z)) = wM pt l * pt n ^ z.toNat := by
  induction l with
  | nil => simp [put, fnd, wM]
  | cons q l ih =>
    have hq := hl q List.mem_cons_self
    simp only [put, fnd]
    by_cases c : q.1 = n
    · rw [if_pos c, if_pos c]
      simp only [wM, Option.getD_some, c]
      rw [show (q.2 + z).toNat = q.2.toNat + z.toNat by omega, Int.pow_add]
      simp only [Int.mul_assoc, Int.mul_comm]
    · rw [if_neg c, if_neg c]
      simp only [wM, ih fun p hp => hl p (List.mem_cons_of_mem _ hp), Int.mul_assoc]
theorem put_nn {l : Mn} {n : List Nat} {z : Int} (hz : 0 ≤ z) (hl : ∀ p ∈ l, 0 ≤ p.2) : ∀ p ∈ put l n ((fnd l n).getD 0 + z), 0 ≤ p.2 := by
  induction l with
  | nil =>
    intro p hp
    have : p = (n, 0 + z) := by simpa [put, fnd] using hp
    subst this; show 0 ≤ 0 + z; omega
  | cons q l ih =>
    intro p hp
    have hq := hl q List.mem_cons_self
    simp only [put, fnd] at hp
    by_cases c : q.1 = n
    · rw [if_pos c, if_pos c] at hp
      rcases List.mem_cons.mp hp with rfl | hp
      · show 0 ≤ q.2 + z; omega
      · exact hl p (List.mem_cons_of_mem _ hp)
    · rw [if_neg c, if_neg c] at hp
      rcases List.mem_cons.mp hp with rfl | hp
      · exact hq
      · exact ih (fun p hp => hl p (List.mem_cons_of_mem _ hp)) p hp
theorem wM_tot : ∀ (ps l : Mn), (∀ p ∈ ps, 0 ≤ p.2) → (∀ p ∈ l, 0 ≤ p.2) → wM pt (tot l ps) = wM pt l * wM pt ps
  | [], l, _, _ => by simp [tot, wM]
  | q :: ps, l, h, hl => by
    have hq := h q List.mem_cons_self
    simp only [tot, wM]
    rw [wM_tot ps _ (fun p hp => h p (List.mem_cons_of_mem _ hp)) (put_nn hq hl), wM_put pt hq hl, Int.mul_assoc]
theorem wM_perm {l m : Mn} (h : l.Perm m) : wM pt l = wM pt m := by
  induction h with
  | nil => rfl
  | cons x _ ih => simp only [wM, ih]
  | swap x y l => simp only [wM]; rw [← Int.mul_assoc, ← Int.mul_assoc, Int.mul_comm (pt y.1 ^ _)]
  | trans _ _ a b => rw [a, b]
theorem wM_app (a b : Mn) : wM pt (a ++ b) = wM pt a * wM pt b := by
  induction a with
  | nil => simp [wM]
  | cons q a ih => simp only [List.cons_append, wM, ih, Int.mul_assoc]
end
/-! the product of two products -/
noncomputable def mulM (a b : Mn) : Mn := (tot [] (a ++ b)).mergeSort (dataLe false fun q => PyData.str (S q.1))
theorem wM_mul (pt : List Nat → Int) {a b : Mn} (ha : ∀ p ∈ a, 0 ≤ p.2) (hb : ∀ p ∈ b, 0 ≤ p.2) : wM pt (mulM a b) = wM pt a * wM pt b := by
  unfold mulM
  rw [wM_perm pt (List.mergeSort_perm _ _), wM_tot pt _ _ (fun p hp => (List.mem_append.mp hp).elim (ha p) (hb p)) (fun p hp => absurd hp List.not_mem_nil), wM_app]
  simp [wM]
noncomputable def timesL (a b : List Tm) : List Tm := a.flatMap fun q => b.map fun r => (mulM q.1 r.1, q.2 * r.2)
theorem valL_times (pt : List Nat → Int) {a b : List Tm} (ha : ∀ q ∈ a, ∀ p ∈ q.1, 0 ≤ p.2) (hb : ∀ q ∈ b, ∀ p ∈ q.1, 0 ≤ p.2) : valL pt (timesL a b) = valL pt a * valL pt b := by
  unfold timesL
  induction a with
  | nil => simp [valL]
  | cons q a ih =>
    rw [List.flatMap_cons, valL_app, ih fun r hr => ha r (List.mem_cons_of_mem _ hr)]
    simp only [valL, Int.add_mul]
    congr 1
    have hq := ha q List.mem_cons_self
    clear ih
    induction b with
    | nil => simp [valL]
    | cons r b ih =>
      rw [List.map_cons]
      simp only [valL]
      rw [ih fun r hr => hb r (List.mem_cons_of_mem _ hr), wM_mul pt hq (hb r List.mem_cons_self), Int.mul_add]
      congr 1
      rw [Int.mul_assoc, Int.mul_assoc, Int.mul_left_comm r.2]
theorem fnd_some {κ ν : Type} [DecidableEq κ] {l : List (κ × ν)} {m : κ} {z : ν} (h : fnd l m = some z) : (m, z) ∈ l := by
  induction l with
  | nil => cases h
  | cons q l ih =>
    simp only [fnd] at h
    by_cases c : q.1 = m
    · rw [if_pos c] at h
      cases h
      exact List.mem_cons.mpr (.inl (Prod.ext c.symm rfl))
    · rw [if_neg c] at h
      exact List.mem_cons_of_mem _ (ih h)
theorem sumOf_le {most : Int} (h0 : 0 ≤ most) : ∀ {m : Mn} (n : List Nat), (m.map (·.1)).Nodup → (∀ p ∈ m, p.2 ≤ most) → sumOf m n ≤ most
  | [], n, _, _ => h0
  | q :: m, n, nd, h => by
    rw [List.map_cons, List.nodup_cons] at nd
    simp only [sumOf]
    by_cases c : q.1 = n
    · rw [if_pos c]
      have z : ∀ {l : Mn}, n ∉ l.map (·.1) → sumOf l n = 0 := by
        intro l
        induction l with
        | nil => intro _; rfl
        | cons r l ih =>
          intro hh
          rw [List.map_cons, List.mem_cons, not_or] at hh
          simp only [sumOf]
          rw [if_neg (fun y => hh.1 y.symm), ih hh.2]; rfl
      rw [z (by rw [← c]; exact nd.1)]
      have := h q List.mem_cons_self
      omega
    · rw [if_neg c]
      have := sumOf_le h0 n nd.2 fun p hp => h p (List.mem_cons_of_mem _ hp)
      omega
theorem up_nodup {m : Mn} (h : m.Pairwise fun p q => p.1 < q.1) : (m.map (·.1)).Nodup := by
  refine List.pairwise_map.mpr (h.imp fun {a b} lt e => ?_)
  rw [e] at lt
  exact absurd lt (List.lt_irrefl _)
theorem put_pos {l : Mn} {n : List Nat} {z : Int} (hz : 1 ≤ z) (hl : ∀ p ∈ l, 1 ≤ p.2) : ∀ p ∈ put l n ((fnd l n).getD 0 + z), 1 ≤ p.2 := by
  induction l with
  | nil =>
    intro p hp
    have : p = (n, 0 + z) := by simpa [put, fnd] using hp
    subst this; show 1 ≤ 0 + z; omega
  | cons q l ih =>
    intro p hp
    have hq := hl q List.mem_cons_self
    simp only [put, fnd] at hp
    by_cases c : q.1 = n
    · rw [if_pos c, if_pos c] at hp
      rcases List.mem_cons.mp hp with rfl | hp
      · show 1 ≤ q.2 + z; omega
      · exact hl p (List.mem_cons_of_mem _ hp)
    · rw [if_neg c, if_neg c] at hp
      rcases List.mem_cons.mp hp with rfl | hp
      · exact hq
      · exact ih (fun p hp => hl p (List.mem_cons_of_mem _ hp)) p hp
theorem tot_pos : ∀ (ps l : Mn), (∀ p ∈ ps, 1 ≤ p.2) → (∀ p ∈ l, 1 ≤ p.2) → ∀ p ∈ tot l ps, 1 ≤ p.2
  | [], l, _, hl => hl
  | q :: ps, l, h, hl => tot_pos ps _ (fun p hp => h p (List.mem_cons_of_mem _ hp)) (put_pos (h q List.mem_cons_self) hl)
theorem mono_mul {x y : Int} {a b : Mn} (ha : Mono x a) (hb : Mono y b) (hx : 0 ≤ x) (hy : 0 ≤ y) (hl : a.length + b.length ≤ 1000) : Mono (x + y) (mulM a b) ∧ (∀ p ∈ mulM a b, p.1 ∈ a.map (·.1) ∨ p.1 ∈ b.map (·.1)) := by
  have pm : (mulM a b).Perm (tot [] (a ++ b)) := List.mergeSort_perm _ _
  have nd := tot_nodup (a ++ b) [] List.nodup_nil
  have hin : ∀ p ∈ tot [] (a ++ b), p.1 ∈ a.map (·.1) ∨ p.1 ∈ b.map (·.1) := fun p hp => by
    rcases tot_mem (a ++ b) [] p.1 (List.mem_map.mpr ⟨p, hp, rfl⟩) with z | z
    · exact nomatch z
    · rw [List.map_append] at z
      exact List.mem_append.mp z
  refine ⟨⟨fun p hp => ?_, ?_, ?_⟩, fun p hp => hin p (pm.mem_iff.mp hp)⟩
  · have hp' := pm.mem_iff.mp hp
    refine ⟨?_, tot_pos _ _ (fun p hp => (List.mem_append.mp hp).elim (fun z => (ha.nm p z).2.1) (fun z => (hb.nm p z).2.1)) (fun p hp => absurd hp List.not_mem_nil) p hp', ?_⟩
    · rcases hin p hp' with z | z
      · obtain ⟨r, hr, e⟩ := List.mem_map.mp z
        rw [← e]; exact (ha.nm r hr).1
      · obtain ⟨r, hr, e⟩ := List.mem_map.mp z
        rw [← e]; exact (hb.nm r hr).1
    · have h1 := tot_sum (a ++ b) [] p.1
      rw [(fnd_mem nd).mpr (show (p.1, p.2) ∈ tot [] (a ++ b) from hp'), sumOf_app] at h1
      simp only [fnd, Option.getD_none, Option.getD_some] at h1
      have h2 := sumOf_le hx p.1 (up_nodup ha.up) fun p hp => (ha.nm p hp).2.2
      have h3 := sumOf_le hy p.1 (up_nodup hb.up) fun p hp => (hb.nm p hp).2.2
      omega
  · have h1 := sort_pair (fun q : Pr => PyData.str (S q.1)) (tot [] (a ++ b))
    have h2 := List.pairwise_map.mp ((pm.map (·.1)).nodup_iff.mpr nd)
    refine (h1.and h2).imp fun {p q} ⟨u, v⟩ => ?_
    rw [PySem.W.dataLt_str, S_list, S_list, decide_eq_false_iff_not] at u
    cases Classical.em (p.1 < q.1) with
    | inl z => exact z
    | inr z => exact absurd (str_tri z u) v
  · rw [pm.length_eq]
    have := tot_len (a ++ b) []
    simp at this
    omega
/-! dicts by names -/
def encN (n : List Nat) : D := .str (S n)
def encS (q : List Nat × Int) : D × D := (encN q.1, .int q.2)
theorem encN_inj {a b : List Nat} (h : encN a = encN b) : a = b := S_inj.mp (D.str.inj h)
theorem dkey_N (l : List (List Nat × Int)) (n : List Nat) : DKey (l.map encS) (encN n) := .inl ⟨rfl, fun p hp => by
  obtain ⟨q, _, rfl⟩ := List.mem_map.mp hp
  rfl⟩
theorem putO_N {l : List (List Nat × Int)} (h : (l.map (·.1)).Nodup) (hz : l.length ≤ 10000) (n : List Nat) (z : Int) : putO (.dic (l.map encS)) (encN n) (.int z) = .ok (.dic ((put l n z).map encS)) := by
  show chk _ (Out.ok (D.dic (dicPut _ _ _))) = _
  rw [show dicPut (l.map encS) (encN n) (.int z) = (put l n z).map encS from dicPut_E (enc := encN) (ev := D.int) encN_inj h n z]
  exact chk_pos ⟨dkey_N l n, by rw [List.length_map]; exact Nat.lt_of_le_of_lt hz (by decide)⟩
theorem get0_N (l : List (List Nat × Int)) (n : List Nat) : (dicGet (l.map encS) (encN n)).getD (.int 0) = .int ((fnd l n).getD 0) := by
  rw [show dicGet (l.map encS) (encN n) = (fnd l n).map .int from dicGet_E (enc := encN) (ev := D.int) encN_inj l n]
  cases fnd l n <;> rfl
theorem dIx_N {l : List (List Nat × Int)} {n : List Nat} {z : Int} (e : fnd l n = some z) : dIx (.dic (l.map encS)) (encN n) = .ok (.int z) := by
  show chk _ (match dicGet (l.map encS) (encN n) with | some d => Out.ok d | none => .stuck) = _
  rw [show dicGet (l.map encS) (encN n) = (fnd l n).map .int from dicGet_E (enc := encN) (ev := D.int) encN_inj l n, e]
  exact chk_pos (dkey_N l n)
theorem sorted_N {l : List (List Nat × Int)} (hl : ∀ q ∈ l, Nm q.1) (z1 : l.length ≤ 10000) : cSorted [.dic (l.map encS)] = .ok (.lst ((l.mergeSort (dataLe false fun q => PyData.str (S q.1))).map fun q => encN q.1)) := by
  show chk _ _ = _
  have e : (l.map encS).map (·.1) = l.map fun q => encN q.1 := by rw [List.map_map]; rfl
  rw [e, sort_map]
  refine chk_pos ⟨?_, .inl (.inr ?_), ?_, ?_⟩
  · intro d hd e he
    rw [List.map_map] at hd he
    obtain ⟨p, _, rfl⟩ := List.mem_map.mp hd
    obtain ⟨q, _, rfl⟩ := List.mem_map.mp he
    rfl
  · intro d hd
    rw [List.map_map] at hd
    obtain ⟨p, _, rfl⟩ := List.mem_map.mp hd
    refine ⟨?_, fun xs q => ?_⟩
    · intro q; cases q
    · cases q
  · intro d hd
    obtain ⟨p, hp, rfl⟩ := List.mem_map.mp hd
    exact ⟨strOk_nm (hl p hp), Nat.zero_le _⟩
  · rw [List.length_map]
    exact Nat.le_trans z1 (by decide)
theorem dAdd_T {xs ys : List D} (h : xs.length + ys.length ≤ 16777216) : dAdd (.tup xs) (.tup ys) = .ok (.tup (xs ++ ys)) := by
  show ((Out.stuck : Out D).or ((Out.stuck : Out D).or ((dAddT (.tup xs) (.tup ys)).or _))) = _
  have e : dAddT (.tup xs) (.tup ys) = .ok (.tup (xs ++ ys)) := chk_pos h
  rw [e]; rfl
theorem dAdd_L {xs ys : List D} (h : xs.length + ys.length ≤ 16777216) : dAdd (.lst xs) (.lst ys) = .ok (.lst (xs ++ ys)) := by
  show ((Out.stuck : Out D).or ((Out.stuck : Out D).or ((Out.stuck : Out D).or (dAddL (.lst xs) (.lst ys))))) = _
  have e : dAddL (.lst xs) (.lst ys) = .ok (.lst (xs ++ ys)) := chk_pos h
  rw [e]; rfl
theorem pow_loop : ∀ (ps l : Mn) (x0 x1 x3 x4 : Option D), (l.map (·.1)).Nodup → l.length + ps.length ≤ 10000 →
    ∃ x3' x4', forL (gT [gN 3, gN 4]) b_product_of_1 (ps.map encP) [x0, x1, some (.dic (l.map encS)), x3, x4] = .nx [x0, x1, some (.dic ((tot l ps).map encS)), x3', x4'] := by
  intro ps
  induction ps with
  | nil => intro l x0 x1 x3 x4 _ _; exact ⟨x3, x4, rfl⟩
  | cons q ps ih =>
    intro l x0 x1 x3 x4 nd hz
    obtain ⟨x3', x4', e⟩ := ih (put l q.1 ((fnd l q.1).getD 0 + q.2)) x0 x1 (some (encN q.1)) (some (.int q.2)) (put_nodup nd _ _) (by have := put_len l q.1 ((fnd l q.1).getD 0 + q.2); simp at hz; omega)
    refine ⟨x3', x4', ?_⟩
    simp only [tot]
    rw [← e]
    have e1 : ∀ o : Out D, chk (DKey (l.map encS) (encN q.1)) o = o := fun o => chk_pos (dkey_N l q.1)
    have e2 := putO_N (z := (fnd l q.1).getD 0 + q.2) nd (by simp at hz; omega) q.1
    have e3 := get0_N l q.1
    rw [List.map_cons, forL_cons, show encP q = .tup [encN q.1, .int q.2] from rfl]
    clear e ih nd hz
    generalize forL (gT [gN 3, gN 4]) b_product_of_1 (ps.map encP) = R at *
    unfold b_product_of_1
    walk_at "pda"
theorem pow_lc {kvs : List (D × D)} {x0 x1 x4 : Option D} : ∀ (r : Mn), (∀ q ∈ r, dIx (.dic kvs) (encN q.1) = .ok (.int q.2)) →
    lcL (gN 3) bYes (eA mkTup (aC (eV 3) (aC (PD.e2 dIx (eV 2) (eV 3)) aN))) [x0, x1, some (.dic kvs), none, x4] (r.map fun q => encN q.1) = .ok (r.map encP)
  | [], _ => rfl
  | q :: r, h => by
    have ih := pow_lc (kvs := kvs) (x0 := x0) (x1 := x1) (x4 := x4) r fun q hq => h q (List.mem_cons_of_mem _ hq)
    have h1 := h q List.mem_cons_self
    clear h
    rw [List.map_cons, lcL_cons, List.map_cons, show encP q = .tup [encN q.1, .int q.2] from rfl]
    generalize lcL (gN 3) bYes (eA mkTup (aC (eV 3) (aC (PD.e2 dIx (eV 2) (eV 3)) aN))) [x0, x1, some (.dic kvs), none, x4] (r.map fun q => encN q.1) = R at *
    walk_at "pda"
theorem product_of_eq {a b : Mn} (ha : ∀ p ∈ a, Nm p.1) (hb : ∀ p ∈ b, Nm p.1) (hl : a.length + b.length ≤ 10000) : m_product_of [encM a, encM b] = .ok (encM (mulM a b)) := by
  obtain ⟨x3, x4, e⟩ := pow_loop (a ++ b) [] (some (encM a)) (some (encM b)) none none List.nodup_nil (by simpa using hl)
  have nd := tot_nodup (a ++ b) [] List.nodup_nil
  have hk : ∀ q ∈ tot [] (a ++ b), Nm q.1 := fun q hq => by
    rcases tot_mem (a ++ b) [] q.1 (List.mem_map.mpr ⟨q, hq, rfl⟩) with z | z
    · exact absurd z List.not_mem_nil
    · obtain ⟨r, hr, er⟩ := List.mem_map.mp z
      rw [← er]
      exact (List.mem_append.mp hr).elim (ha r) (hb r)
  have ll : (tot [] (a ++ b)).length ≤ 10000 := by have := tot_len (a ++ b) []; simp at this; omega
  have e1 := sorted_N hk ll
  have pm := List.mergeSort_perm (tot [] (a ++ b)) (dataLe false fun q => PyData.str (S q.1))
  have e2 := pow_lc (kvs := (tot [] (a ++ b)).map encS) (x0 := some (encM a)) (x1 := some (encM b)) (x4 := x4) ((tot [] (a ++ b)).mergeSort (dataLe false fun q => PyData.str (S q.1))) fun q hq => dIx_N ((fnd_mem nd).mpr (pm.mem_iff.mp hq))
  have e3 : ∀ o : Out D, chk ((((tot [] (a ++ b)).mergeSort (dataLe false fun q => PyData.str (S q.1))).map fun q => encN q.1).length ≤ sizeLine) o = o := fun o => chk_pos (by rw [List.length_map, List.length_mergeSort]; exact Nat.le_trans ll (by decide))
  have e4 := dAdd_T (xs := a.map encP) (ys := b.map encP) (by simp; omega)
  rw [← List.map_append] at e4
  have em : encM (mulM a b) = .tup ((mulM a b).map encP) := rfl
  rw [em]
  unfold encM at e e2 ⊢
  unfold mulM
  have e' : forL (gT [gN 3, gN 4]) b_product_of_1 ((a ++ b).map encP) [some (.tup (a.map encP)), some (.tup (b.map encP)), some (.dic []), none, none] = .nx [some (.tup (a.map encP)), some (.tup (b.map encP)), some (.dic ((tot [] (a ++ b)).map encS)), x3, x4] := e
  clear e hk ll pm nd ha hb hl em
  generalize ((tot [] (a ++ b)).mergeSort (dataLe false fun q => PyData.str (S q.1))) = r at *
  generalize ((tot [] (a ++ b)).map encS) = kvs at *
  generalize ((a ++ b).map encP) = ds at *
  generalize (a.map encP) = as at *
  generalize (b.map encP) = bs at *
  unfold m_product_of b_product_of
  walk_at "pda"
/-- terms of a form: names of xs, powers to most, numbers below 2 ^ b -/
structure Pol (xs : List (List Nat)) (most : Int) (k b : Nat) (f : List Tm) : Prop where
  mono : ∀ q ∈ f, Mono most q.1
  nin : ∀ q ∈ f, ∀ p ∈ q.1, p.1 ∈ xs
  few : ∀ q ∈ f, q.1.length ≤ k
  sz : ∀ q ∈ f, Sz b q.2
theorem times_inner {most : Int} {m : Mn} {z : Int} {b : Nat} (hm : Mono most m) (hmk : m.length ≤ 500) (hz : Sz b z) (hb : b ≤ 10000) : ∀ (g acc : List Tm) (x0 x1 x5 x6 : Option D), (∀ q ∈ g, Mono most q.1 ∧ q.1.length ≤ 500 ∧ Sz b q.2) → acc.length + g.length ≤ 10000 →
    ∃ x5' x6', forL (gT [gN 5, gN 6]) b_times_1 (g.map encQ) [x0, x1, some (.lst (acc.map encQ)), some (encM m), some (.int z), x5, x6] = .nx [x0, x1, some (.lst ((acc ++ g.map fun r => (mulM m r.1, z * r.2)).map encQ)), some (encM m), some (.int z), x5', x6'] := by
  intro g
  induction g with
  | nil => intro acc x0 x1 x5 x6 _ _; exact ⟨x5, x6, by simp only [List.map_nil, List.append_nil]; rfl⟩
  | cons q g ih =>
    intro acc x0 x1 x5 x6 h hl
    obtain ⟨h1, h2, h3⟩ := h q List.mem_cons_self
    obtain ⟨x5', x6', e⟩ := ih (acc ++ [(mulM m q.1, z * q.2)]) x0 x1 (some (encM q.1)) (some (.int q.2)) (fun r hr => h r (List.mem_cons_of_mem _ hr)) (by simp at hl ⊢; omega)
    refine ⟨x5', x6', ?_⟩
    rw [show acc ++ (q :: g).map (fun r => (mulM m r.1, z * r.2)) = acc ++ [(mulM m q.1, z * q.2)] ++ g.map (fun r => (mulM m r.1, z * r.2)) by simp, ← e]
    have e1 := product_of_eq (a := m) (b := q.1) (fun p hp => (hm.nm p hp).1) (fun p hp => (h1.nm p hp).1) (by omega)
    have e2 := dMul_int hz h3 (by omega)
    have e3 : ∀ o, chkS ((acc.map encQ).length < sizeLine) o = o := fun o => app_ok (by rw [List.length_map]; simp at hl; omega) o
    have e4 : (acc ++ [(mulM m q.1, z * q.2)]).map encQ = acc.map encQ ++ [.tup [encM (mulM m q.1), .int (z * q.2)]] := by rw [List.map_append]; rfl
    rw [List.map_cons, forL_cons, e4, show encQ q = .tup [encM q.1, .int q.2] from rfl]
    clear e ih h hl e4 h1 h2 h3 hz hm hmk
    generalize forL (gT [gN 5, gN 6]) b_times_1 (g.map encQ) = R at *
    unfold b_times_1
    walk_at "pda"
theorem times_outer {most : Int} {b : Nat} {g : List Tm} (hb : b ≤ 10000) (hg : ∀ q ∈ g, Mono most q.1 ∧ q.1.length ≤ 500 ∧ Sz b q.2) : ∀ (f acc : List Tm) (x0 x3 x4 x5 x6 : Option D), (∀ q ∈ f, Mono most q.1 ∧ q.1.length ≤ 500 ∧ Sz b q.2) → acc.length + f.length * g.length ≤ 10000 →
    ∃ x3' x4' x5' x6', forL (gT [gN 3, gN 4]) b_times_2 (f.map encQ) [x0, some (.tup (g.map encQ)), some (.lst (acc.map encQ)), x3, x4, x5, x6] = .nx [x0, some (.tup (g.map encQ)), some (.lst ((acc ++ timesL f g).map encQ)), x3', x4', x5', x6'] := by
  intro f
  induction f with
  | nil => intro acc x0 x3 x4 x5 x6 _ _; exact ⟨x3, x4, x5, x6, by rw [show timesL [] g = [] from rfl, List.append_nil]; rfl⟩
  | cons q f ih =>
    intro acc x0 x3 x4 x5 x6 h hl
    obtain ⟨h1, h2, h3⟩ := h q List.mem_cons_self
    have hl' : acc.length + (f.length * g.length + g.length) ≤ 10000 := by rw [List.length_cons, Nat.add_mul, Nat.one_mul] at hl; exact hl
    obtain ⟨y5, y6, e1⟩ := times_inner h1 h2 h3 hb g acc x0 (some (.tup (g.map encQ))) x5 x6 hg (by omega)
    obtain ⟨x3', x4', x5', x6', e⟩ := ih (acc ++ g.map fun r => (mulM q.1 r.1, q.2 * r.2)) x0 (some (encM q.1)) (some (.int q.2)) y5 y6 (fun r hr => h r (List.mem_cons_of_mem _ hr)) (by simp; omega)
    refine ⟨x3', x4', x5', x6', ?_⟩
    rw [show acc ++ timesL (q :: f) g = acc ++ (g.map fun r => (mulM q.1 r.1, q.2 * r.2)) ++ timesL f g by simp [timesL], ← e]
    rw [List.map_cons, forL_cons, show encQ q = .tup [encM q.1, .int q.2] from rfl]
    clear e ih h hl hl' h1 h2 h3 hg
    generalize forL (gT [gN 3, gN 4]) b_times_2 (f.map encQ) = R at *
    generalize g.map encQ = gs at *
    unfold b_times_2
    walk_at "pda"
theorem len_times (f g : List Tm) : (timesL f g).length = f.length * g.length := by
  unfold timesL
  induction f with
  | nil => simp
  | cons q f ih => rw [List.flatMap_cons, List.length_append, ih, List.length_map, List.length_cons, Nat.add_mul]; omega
theorem times_mono {most : Int} (h0 : 0 ≤ most) {f g : List Tm} (hf : ∀ q ∈ f, Mono most q.1 ∧ q.1.length ≤ 500) (hg : ∀ q ∈ g, Mono most q.1 ∧ q.1.length ≤ 500) : ∀ q ∈ timesL f g, Mono (most + most) q.1 ∧ ∃ r ∈ f, ∃ t ∈ g, q = (mulM r.1 t.1, r.2 * t.2) := by
  intro q hq
  unfold timesL at hq
  obtain ⟨r, hr, hq⟩ := List.mem_flatMap.mp hq
  obtain ⟨t, ht, rfl⟩ := List.mem_map.mp hq
  have h1 := hf r hr
  have h2 := hg t ht
  exact ⟨(mono_mul h1.1 h2.1 h0 h0 (by omega)).1, r, hr, t, ht, rfl⟩
theorem times_eq {most : Int} (h0 : 0 ≤ most) {b : Nat} (hb : b ≤ 10000) {f g : List Tm} (hf : ∀ q ∈ f, Mono most q.1 ∧ q.1.length ≤ 500 ∧ Sz b q.2) (hg : ∀ q ∈ g, Mono most q.1 ∧ q.1.length ≤ 500 ∧ Sz b q.2) (hl : f.length * g.length ≤ 10000) :
    m_times [.tup (f.map encQ), .tup (g.map encQ)] = .ok (.tup ((formOf (timesL f g)).map encQ)) := by
  obtain ⟨x3, x4, x5, x6, e⟩ := times_outer hb hg f [] (some (.tup (f.map encQ))) none none none none hf (by simpa using hl)
  have e1 := form_eq (ps := timesL f g) (fun q hq => (times_mono h0 (fun q hq => ⟨(hf q hq).1, (hf q hq).2.1⟩) (fun q hq => ⟨(hg q hq).1, (hg q hq).2.1⟩) q hq).1) (by rw [len_times]; exact hl)
  have e' : forL (gT [gN 3, gN 4]) b_times_2 (f.map encQ) [some (.tup (f.map encQ)), some (.tup (g.map encQ)), some (.lst []), none, none, none, none] = .nx [some (.tup (f.map encQ)), some (.tup (g.map encQ)), some (.lst ((timesL f g).map encQ)), x3, x4, x5, x6] := e
  clear e hf hg hl
  generalize formOf (timesL f g) = F at *
  generalize (timesL f g).map encQ = ts at *
  generalize f.map encQ = fs at *
  generalize g.map encQ = gs at *
  unfold m_times b_times
  walk_at "pda"
theorem plus_eq {most : Int} {f g : List Tm} (hf : ∀ q ∈ f, Mono most q.1) (hg : ∀ q ∈ g, Mono most q.1) (hl : f.length + g.length ≤ 10000) : m_plus [.tup (f.map encQ), .tup (g.map encQ)] = .ok (.tup ((formOf (f ++ g)).map encQ)) := by
  have e1 := form_eq (ps := f ++ g) (fun q hq => (List.mem_append.mp hq).elim (hf q) (hg q)) (by simpa using hl)
  have e2 := dAdd_L (xs := f.map encQ) (ys := g.map encQ) (by simp; omega)
  rw [← List.map_append] at e2
  clear hf hg hl
  generalize formOf (f ++ g) = F at *
  generalize (f ++ g).map encQ = ts at *
  generalize f.map encQ = fs at *
  generalize g.map encQ = gs at *
  unfold m_plus b_plus
  walk_at "pda"
theorem scaled_lc {n : Int} {b : Nat} (hb : b ≤ 10000) (hn : Sz b n) {x0 : Option D} : ∀ (r : List Tm), (∀ q ∈ r, Sz b q.2) →
    lcL (gT [gN 2, gN 3]) bYes (eA mkTup (aC (eV 2) (aC (PD.e2 dMul (eV 1) (eV 3)) aN))) [x0, some (.int n), none, none] (r.map encQ) = .ok ((r.map fun q => (q.1, n * q.2)).map encQ)
  | [], _ => rfl
  | q :: r, h => by
    have ih := scaled_lc (x0 := x0) hb hn r fun q hq => h q (List.mem_cons_of_mem _ hq)
    have h1 := dMul_int hn (h q List.mem_cons_self) (by omega)
    clear h hn
    rw [List.map_cons, lcL_cons, List.map_cons, List.map_cons, show encQ q = .tup [encM q.1, .int q.2] from rfl, show encQ (q.1, n * q.2) = .tup [encM q.1, .int (n * q.2)] from rfl]
    generalize lcL (gT [gN 2, gN 3]) bYes (eA mkTup (aC (eV 2) (aC (PD.e2 dMul (eV 1) (eV 3)) aN))) [x0, some (.int n), none, none] (r.map encQ) = R at *
    walk_at "pda"
theorem scaled_eq {most : Int} {f : List Tm} {n : Int} {b : Nat} (hb : b ≤ 10000) (hn : Sz b n) (hf : ∀ q ∈ f, Mono most q.1 ∧ Sz b q.2) (hl : f.length ≤ 10000) : m_scaled [.tup (f.map encQ), .int n] = .ok (.tup ((formOf (f.map fun q => (q.1, n * q.2))).map encQ)) := by
  have e1 := form_eq (ps := f.map fun q => (q.1, n * q.2)) (fun q hq => by
    obtain ⟨r, hr, rfl⟩ := List.mem_map.mp hq
    exact (hf r hr).1) (by simpa using hl)
  have e2 := scaled_lc (x0 := some (.tup (f.map encQ))) hb hn f fun q hq => (hf q hq).2
  have e3 : ∀ o : Out D, chk ((f.map encQ).length ≤ sizeLine) o = o := fun o => chk_pos (by rw [List.length_map]; exact Nat.le_trans hl (by decide))
  clear hf hl hn
  generalize formOf (f.map fun q => (q.1, n * q.2)) = F at *
  generalize (f.map fun q => (q.1, n * q.2)).map encQ = ts at *
  generalize f.map encQ = fs at *
  unfold m_scaled b_scaled
  walk_at "pda"
/-- a point: a number for each name -/
def ptOf (pts : List (List Nat × Int)) (n : List Nat) : Int := (fnd pts n).getD 0
theorem val_1 {pts : List (List Nat × Int)} {w : List Nat} {v : Int} (hv : fnd pts w = some v) (sv : Sz 40 v) : ∀ (n s : Nat) (f : Nat → D) (num : Int) (x0 x2 x3 x6 x7 : Option D), Sz s num → s + 40 * n ≤ 1000000 →
    ∃ x7', forL (gN 7) b__law_value_1 ((List.range n).map f) [x0, some (.dic (pts.map encS)), x2, x3, some (.int num), some (encN w), x6, x7] = .nx [x0, some (.dic (pts.map encS)), x2, x3, some (.int (num * v ^ n)), some (encN w), x6, x7'] ∧ Sz (s + 40 * n) (num * v ^ n) := by
  intro n
  induction n with
  | zero => intro s f num x0 x2 x3 x6 x7 h _; exact ⟨x7, by simp only [Int.pow_zero, Int.mul_one]; rfl, by simpa using h⟩
  | succ n ih =>
    intro s f num x0 x2 x3 x6 x7 h hl
    obtain ⟨x7', e, z⟩ := ih (s + 40) (fun k => f (k + 1)) (num * v) x0 x2 x3 x6 (some (f 0)) (h.mul sv) (by omega)
    have ep : num * v ^ (n + 1) = num * v * v ^ n := by rw [Int.pow_succ, Int.mul_assoc, Int.mul_comm v]
    refine ⟨x7', ?_, by rw [ep]; exact z.mono (by omega)⟩
    rw [ep, ← e]
    have e1 := dMul_int h sv (by omega)
    have e2 := dIx_N hv
    rw [List.range_succ_eq_map, List.map_cons, List.map_map, forL_cons]
    have e5 : ((List.range n).map (f ∘ Nat.succ)) = (List.range n).map (fun k => f (k + 1)) := rfl
    rw [e5]
    clear e z ih h hl sv ep
    generalize forL (gN 7) b__law_value_1 ((List.range n).map (fun k => f (k + 1))) = R at *
    unfold b__law_value_1
    walk_at "pda"
theorem val_2 {pts : List (List Nat × Int)} {most : Nat} (hm : most ≤ 1000) (hs : ∀ w v, fnd pts w = some v → Sz 40 v) : ∀ (m : Mn) (s : Nat) (num : Int) (x0 x2 x3 x5 x6 x7 : Option D), (∀ p ∈ m, 1 ≤ p.2 ∧ p.2 ≤ most ∧ ∃ v, fnd pts p.1 = some v) → Sz s num → s + 40 * most * m.length ≤ 1000000 →
    ∃ x5' x6' x7', forL (gT [gN 5, gN 6]) b__law_value_2 (m.map encP) [x0, some (.dic (pts.map encS)), x2, x3, some (.int num), x5, x6, x7] = .nx [x0, some (.dic (pts.map encS)), x2, x3, some (.int (num * wM (ptOf pts) m)), x5', x6', x7'] ∧ Sz (s + 40 * most * m.length) (num * wM (ptOf pts) m) := by
  intro m
  induction m with
  | nil => intro s num x0 x2 x3 x5 x6 x7 _ h _; exact ⟨x5, x6, x7, by simp only [wM, Int.mul_one]; rfl, by simpa [wM] using h⟩
  | cons p m ih =>
    intro s num x0 x2 x3 x5 x6 x7 hp h hl
    obtain ⟨p1, p2, v, hv⟩ := hp p List.mem_cons_self
    have hl' : s + 40 * most + 40 * most * m.length ≤ 1000000 := by rw [List.length_cons, Nat.mul_add] at hl; omega
    have hk : 40 * p.2.toNat ≤ 40 * most := by omega
    obtain ⟨y7, e1, z1⟩ := val_1 hv (hs _ _ hv) p.2.toNat s (fun (n : Nat) => .int n) num x0 x2 x3 (some (.int p.2)) x7 h (by omega)
    obtain ⟨x5', x6', x7', e, z⟩ := ih (s + 40 * most) (num * v ^ p.2.toNat) x0 x2 x3 (some (encN p.1)) (some (.int p.2)) y7 (fun q hq => hp q (List.mem_cons_of_mem _ hq)) (z1.mono (by omega)) hl'
    have ep : num * wM (ptOf pts) (p :: m) = num * v ^ p.2.toNat * wM (ptOf pts) m := by
      simp only [wM]
      rw [show ptOf pts p.1 = v by unfold ptOf; rw [hv]; rfl, Int.mul_assoc]
    refine ⟨x5', x6', x7', ?_, by rw [ep]; exact z.mono (by rw [List.length_cons, Nat.mul_add]; omega)⟩
    rw [ep, ← e]
    have e2 : rng1 [.int p.2] = .ok ((List.range p.2.toNat).map fun (n : Nat) => .int n) := rng1_ok (by omega) (by omega)
    rw [List.map_cons, forL_cons, show encP p = .tup [encN p.1, .int p.2] from rfl]
    clear e z z1 ih hp h hl hl' ep hs
    generalize forL (gT [gN 5, gN 6]) b__law_value_2 (m.map encP) = R at *
    generalize (List.range p.2.toNat).map (fun (n : Nat) => D.int n) = js at *
    unfold b__law_value_2
    walk_at "pda"
theorem val_3 {pts : List (List Nat × Int)} {most k b : Nat} (hm : most ≤ 1000) (hk : b + 40 * most * k ≤ 1000000) (hs : ∀ w v, fnd pts w = some v → Sz 40 v) : ∀ (f : List Tm) (t : Int) (x0 x3 x4 x5 x6 x7 : Option D), (∀ q ∈ f, (∀ p ∈ q.1, 1 ≤ p.2 ∧ p.2 ≤ most ∧ ∃ v, fnd pts p.1 = some v) ∧ q.1.length ≤ k ∧ Sz b q.2) →
    ∃ x3' x4' x5' x6' x7', forL (gT [gN 3, gN 4]) b__law_value_3 (f.map encQ) [x0, some (.dic (pts.map encS)), some (.int t), x3, x4, x5, x6, x7] = .nx [x0, some (.dic (pts.map encS)), some (.int (t + valL (ptOf pts) f)), x3', x4', x5', x6', x7'] := by
  intro f
  induction f with
  | nil => intro t x0 x3 x4 x5 x6 x7 _; exact ⟨x3, x4, x5, x6, x7, by simp only [valL, Int.add_zero]; rfl⟩
  | cons q f ih =>
    intro t x0 x3 x4 x5 x6 x7 h
    obtain ⟨h1, h2, h3⟩ := h q List.mem_cons_self
    have h4 : 40 * most * q.1.length ≤ 40 * most * k := Nat.mul_le_mul_left _ h2
    obtain ⟨y5, y6, y7, e1, _⟩ := val_2 hm hs q.1 b q.2 x0 (some (.int t)) (some (encM q.1)) x5 x6 x7 h1 h3 (by omega)
    obtain ⟨x3', x4', x5', x6', x7', e⟩ := ih (t + q.2 * wM (ptOf pts) q.1) x0 (some (encM q.1)) (some (.int (q.2 * wM (ptOf pts) q.1))) y5 y6 y7 fun r hr => h r (List.mem_cons_of_mem _ hr)
    refine ⟨x3', x4', x5', x6', x7', ?_⟩
    rw [show t + valL (ptOf pts) (q :: f) = t + q.2 * wM (ptOf pts) q.1 + valL (ptOf pts) f by simp only [valL]; omega, ← e]
    rw [show encM q.1 = .tup (q.1.map encP) from rfl] at e1 ⊢
    rw [List.map_cons, forL_cons, show encQ q = .tup [.tup (q.1.map encP), .int q.2] from rfl]
    clear e ih h h1 h2 h3 h4 hs hk hm
    generalize forL (gT [gN 3, gN 4]) b__law_value_3 (f.map encQ) = R at *
    generalize q.1.map encP = ms at *
    generalize pts.map encS = ps at *
    unfold b__law_value_3
    walk_at "pda"
theorem value_eq {pts : List (List Nat × Int)} {most k b : Nat} (hm : most ≤ 1000) (hk : b + 40 * most * k ≤ 1000000) (hs : ∀ w v, fnd pts w = some v → Sz 40 v) {f : List Tm} (hf : ∀ q ∈ f, (∀ p ∈ q.1, 1 ≤ p.2 ∧ p.2 ≤ most ∧ ∃ v, fnd pts p.1 = some v) ∧ q.1.length ≤ k ∧ Sz b q.2) :
    m__law_value [.tup (f.map encQ), .dic (pts.map encS)] = .ok (.int (valL (ptOf pts) f)) := by
  obtain ⟨x3, x4, x5, x6, x7, e⟩ := val_3 hm hk hs f 0 (some (.tup (f.map encQ))) none none none none none hf
  rw [Int.zero_add] at e
  clear hf hs hk hm
  generalize f.map encQ = fs at *
  generalize pts.map encS = ps at *
  unfold m__law_value b__law_value
  walk_at "pda"
theorem formOf_key {ps : List Tm} {q : Tm} (h : q ∈ formOf ps) : ∃ r ∈ ps, r.1 = q.1 := by
  unfold formOf at h
  have h1 := (List.mergeSort_perm (tot [] ps) (dataLe false keyQ)).mem_iff.mp (List.mem_filter.mp h).1
  rcases tot_mem ps [] q.1 (List.mem_map.mpr ⟨q, h1, rfl⟩) with z | z
  · exact absurd z List.not_mem_nil
  · obtain ⟨r, hr, e⟩ := List.mem_map.mp z
    exact ⟨r, hr, e⟩
theorem sumOf_abs {b : Nat} : ∀ {ps : List Tm} (m : Mn), (∀ q ∈ ps, Sz b q.2) → (sumOf ps m).natAbs ≤ ps.length * 2 ^ b
  | [], m, _ => by simp [sumOf]
  | q :: ps, m, h => by
    have h1 := sumOf_abs m fun r hr => h r (List.mem_cons_of_mem _ hr)
    have h2 : q.2.natAbs < 2 ^ b := h q List.mem_cons_self
    simp only [sumOf, List.length_cons, Nat.add_mul, Nat.one_mul]
    generalize ps.length * 2 ^ b = x at *
    generalize 2 ^ b = y at *
    split <;> omega
theorem sumOf_sz {b j : Nat} {ps : List Tm} (m : Mn) (h : ∀ q ∈ ps, Sz b q.2) (hl : ps.length < 2 ^ j) : Sz (b + j) (sumOf ps m) := by
  have h1 := sumOf_abs m h
  unfold Sz
  rw [Nat.pow_add, Nat.mul_comm]
  exact Nat.lt_of_le_of_lt h1 (Nat.mul_lt_mul_of_pos_right hl (Nat.two_pow_pos b))
/-- terms over the names xs -/
structure Ok (xs : List (List Nat)) (most : Int) (k b : Nat) (f : List Tm) : Prop where
  mono : ∀ q ∈ f, Mono most q.1
  nin : ∀ q ∈ f, ∀ p ∈ q.1, p.1 ∈ xs
  few : ∀ q ∈ f, q.1.length ≤ k
  sz : ∀ q ∈ f, Sz b q.2
theorem Ok.form {xs : List (List Nat)} {most : Int} {k b j : Nat} {f : List Tm} (h : Ok xs most k b f) (hl : f.length < 2 ^ j) : Ok xs most k (b + j) (formOf f) := by
  obtain ⟨_, h2, _⟩ := form_is h.mono
  refine ⟨fun q hq => ?_, fun q hq => ?_, fun q hq => ?_, fun q hq => ?_⟩
  · obtain ⟨r, hr, e⟩ := formOf_key hq
    rw [← e]; exact h.mono r hr
  · obtain ⟨r, hr, e⟩ := formOf_key hq
    rw [← e]; exact h.nin r hr
  · obtain ⟨r, hr, e⟩ := formOf_key hq
    rw [← e]; exact h.few r hr
  · rw [← ((h2 q).mp hq).2]
    exact sumOf_sz q.1 h.sz hl
theorem dNotIn_S {xs : List (List Nat)} {w : List Nat} (h : w ∈ xs) : dNotIn (.str (S w)) (.lst (xs.map fun w => .str (S w))) = .ok (.bl false) := by
  have : dInL true (.str (S w)) (.lst (xs.map fun w => .str (S w))) = .ok (.bl false) := by
    show chk _ (Out.ok (D.bl (if true = true then _ else _))) = _
    rw [chk_pos ⟨rfl, by simp [List.all_map, flatD]⟩, if_pos rfl]
    congr 2
    rw [List.any_map]
    have e : ((fun y => eqD y (D.str (S w))) ∘ fun w => D.str (S w)) = fun x => decide (x = w) := by
      funext x
      exact S_beq x w
    rw [e]
    have : (xs.any fun x => decide (x = w)) = true := List.any_eq_true.mpr ⟨w, h, by simp⟩
    rw [this]; rfl
  show (dInL true (.str (S w)) (.lst (xs.map fun w => .str (S w)))).or _ = _
  rw [this]; rfl
theorem good_1 {ws : List D} : ∀ (m : Mn) (x0 x2 x3 x4 x5 x6 x7 : Option D), (∀ p ∈ m, dNotIn (.str (S p.1)) (.lst ws) = .ok (.bl false)) →
    ∃ x6' x7', forL (gT [gN 6, gN 7]) b__law_good_1 (m.map encP) [x0, some (.lst ws), x2, x3, x4, x5, x6, x7] = .nx [x0, some (.lst ws), x2, x3, x4, x5, x6', x7'] := by
  intro m
  induction m with
  | nil => intro x0 x2 x3 x4 x5 x6 x7 _; exact ⟨x6, x7, rfl⟩
  | cons p m ih =>
    intro x0 x2 x3 x4 x5 x6 x7 h
    obtain ⟨x6', x7', e⟩ := ih x0 x2 x3 x4 x5 (some (.str (S p.1))) (some (.int p.2)) fun q hq => h q (List.mem_cons_of_mem _ hq)
    refine ⟨x6', x7', ?_⟩
    rw [← e]
    have e1 := h p List.mem_cons_self
    rw [List.map_cons, forL_cons, show encP p = .tup [.str (S p.1), .int p.2] from rfl]
    clear e ih h
    generalize forL (gT [gN 6, gN 7]) b__law_good_1 (m.map encP) = R at *
    unfold b__law_good_1
    walk_at "pda"
theorem good_2 {ws : List D} : ∀ (f : List Tm) (x0 x2 x3 x4 x5 x6 x7 : Option D), (∀ q ∈ f, ∀ p ∈ q.1, dNotIn (.str (S p.1)) (.lst ws) = .ok (.bl false)) →
    ∃ x4' x5' x6' x7', forL (gT [gN 4, gN 5]) b__law_good_2 (f.map encQ) [x0, some (.lst ws), x2, x3, x4, x5, x6, x7] = .nx [x0, some (.lst ws), x2, x3, x4', x5', x6', x7'] := by
  intro f
  induction f with
  | nil => intro x0 x2 x3 x4 x5 x6 x7 _; exact ⟨x4, x5, x6, x7, rfl⟩
  | cons q f ih =>
    intro x0 x2 x3 x4 x5 x6 x7 h
    obtain ⟨y6, y7, e1⟩ := good_1 q.1 x0 x2 x3 (some (encM q.1)) (some (.int q.2)) x6 x7 (h q List.mem_cons_self)
    obtain ⟨x4', x5', x6', x7', e⟩ := ih x0 x2 x3 (some (encM q.1)) (some (.int q.2)) y6 y7 fun r hr => h r (List.mem_cons_of_mem _ hr)
    refine ⟨x4', x5', x6', x7', ?_⟩
    rw [← e]
    rw [show encM q.1 = .tup (q.1.map encP) from rfl] at e1 ⊢
    rw [List.map_cons, forL_cons, show encQ q = .tup [.tup (q.1.map encP), .int q.2] from rfl]
    clear e ih h
    generalize forL (gT [gN 4, gN 5]) b__law_good_2 (f.map encQ) = R at *
    generalize q.1.map encP = ms at *
    unfold b__law_good_2
    walk_at "pda"
theorem good_eq {xs : List (List Nat)} {pts : List (List Nat × Int)} {most k b : Nat} (hm : most ≤ 1000) (hk : b + 6 + 40 * most * k ≤ 1000000) (hs : ∀ w v, fnd pts w = some v → Sz 40 v) (hp : ∀ w ∈ xs, ∃ v, fnd pts w = some v) {f : List Tm} (h : Ok xs most k b f) (hl : f.length ≤ 60) {z : Int} (ez : z = valL (ptOf pts) f) :
    m__law_good [.tup ((formOf f).map encQ), .lst (xs.map fun w => .str (S w)), .dic (pts.map encS), .int z] = .ok (.bl true) := by
  obtain ⟨hF, _, lF⟩ := form_is h.mono
  have hO := h.form (j := 6) (by omega)
  have e1 := is_form_eq hF (by omega)
  obtain ⟨x4, x5, x6, x7, e2⟩ := good_2 (ws := xs.map fun w => .str (S w)) (formOf f) (some (.tup ((formOf f).map encQ))) (some (.dic (pts.map encS))) (some (.int z)) none none none none fun q hq p hpq => dNotIn_S (hO.nin q hq p hpq)
  have e3 := value_eq hm hk hs (f := formOf f) fun q hq => ⟨fun p hpq => ⟨((hO.mono q hq).nm p hpq).2.1, ((hO.mono q hq).nm p hpq).2.2, hp _ (hO.nin q hq p hpq)⟩, hO.few q hq, hO.sz q hq⟩
  rw [valL_formOf, ← ez] at e3
  have e4 : dEq (.int z) (.int z) = .ok (.bl true) := by rw [dEq_int]; simp
  clear hF lF hO ez h hp hs hk hm hl
  generalize formOf f = F at *
  generalize F.map encQ = fs at *
  generalize pts.map encS = ps at *
  generalize (xs.map fun w => D.str (S w)) = ws at *
  unfold m__law_good b__law_good
  walk_at "pda"
theorem sum_form : m__law_sum = m_form_of := rfl
theorem cell_any (ns : List Int) (k : Nat) : ∃ c, m__law_cell [.scr ns, .int k] = .ok (.int c) ∧ 0 ≤ c := by
  have e3 := fun i => dMod_int (i := i) (j := 1000000000000000000000000000000000000000000000000000000000000) (by decide)
  have e4 := p60
  by_cases h : k < ns.length
  · have e1 : dIx (.scr ns) (.int k) = .ok (.int ns[k]) := dIx_scr (by simp [h])
    have e5 : (k : Int) < (ns.length : Nat) := by omega
    refine ⟨_, ?_, Int.emod_nonneg ns[k] (b := 1000000000000000000000000000000000000000000000000000000000000) (by decide)⟩
    unfold m__law_cell b__law_cell
    walk_at "pda"
  · have e5 : ¬ (k : Int) < (ns.length : Nat) := by omega
    refine ⟨0, ?_, Int.le_refl _⟩
    unfold m__law_cell b__law_cell
    walk_at "pda"
theorem cut_len {α : Type} (l : List α) (a b : Nat) : (cutD l (some (a : Int)) (some (b : Int))).length ≤ b - a := by
  unfold cutD
  rw [HT.sIx_nat, HT.sIx_nat, List.length_take, List.length_drop]
  omega
theorem lf_loop {xs : List (List Nat)} (hx : ∀ w ∈ xs, Nm w) (nd : xs.Nodup) (hl : xs.length ≤ 10) : ∀ (cs : List Int) (ps : List Tm) (x0 x2 x3 x5 x6 : Option D), Ok xs 9 xs.length 100 ps → ps.length + cs.length ≤ 1000 →
    ∃ (ps' : List Tm) (x5' x6' : Option D), forL (gN 5) b__law_form_1 (cs.map .int) [x0, some (.lst (xs.map fun w => .str (S w))), x2, x3, some (.lst (ps.map encQ)), x5, x6] = .nx [x0, some (.lst (xs.map fun w => .str (S w))), x2, x3, some (.lst (ps'.map encQ)), x5', x6'] ∧ Ok xs 9 xs.length 100 ps' ∧ ps'.length = ps.length + cs.length := by
  intro cs
  induction cs with
  | nil => intro ps x0 x2 x3 x5 x6 h _; exact ⟨ps, x5, x6, rfl, h, rfl⟩
  | cons c cs ih =>
    intro ps x0 x2 x3 x5 x6 h hz
    have m0 : 0 ≤ c % 1000000000000000000000000000000000000000000000000000000000000 := Int.emod_nonneg _ (by decide)
    generalize hn : c % 1000000000000000000000000000000000000000000000000000000000000 = n at m0
    obtain ⟨m, e1, hm, hin, hlm⟩ := prod_eq hx nd hl (n := n % 27000) (Int.emod_nonneg _ (by decide))
    obtain ⟨z, e2, z1, z2⟩ := signed_eq (n := n / 27000) (m := 10000000000000000000000000000) (by decide) (by decide)
    have e3 := fun i => dMod_int (i := i) (j := 1000000000000000000000000000000000000000000000000000000000000) (by decide)
    have e4 := p60
    have e5 := p28
    have e7 := fun i => dMod_int (i := i) (j := 27000) (by decide)
    have e9 := fun i => dDiv_int (i := i) (j := 27000) (by decide) (show Sz 20 27000 by unfold Sz; decide) (by decide)
    have e11 : ∀ o, chkS ((ps.map encQ).length < sizeLine) o = o := fun o => app_ok (by rw [List.length_map]; simp at hz; omega) o
    obtain ⟨ps', x5', x6', e, a, b⟩ := ih (ps ++ [(m, z)]) x0 x2 x3 (some (.int c)) (some (.int n)) (by
      have sp : ∀ q ∈ ps ++ [(m, z)], q ∈ ps ∨ q = (m, z) := fun q hq => by
        rcases List.mem_append.mp hq with hq | hq
        · exact .inl hq
        · exact .inr (by simpa using hq)
      refine ⟨fun q hq => ?_, fun q hq => ?_, fun q hq => ?_, fun q hq => ?_⟩
      · rcases sp q hq with y | rfl
        · exact h.mono q y
        · exact hm
      · rcases sp q hq with y | rfl
        · exact h.nin q y
        · exact hin
      · rcases sp q hq with y | rfl
        · exact h.few q y
        · exact hlm
      · rcases sp q hq with y | rfl
        · exact h.sz q y
        · show Sz 100 z
          unfold Sz; omega) (by simp at hz ⊢; omega)
    refine ⟨ps', x5', x6', ?_, a, by rw [b]; simp; omega⟩
    rw [← e, show (ps ++ [(m, z)]).map encQ = ps.map encQ ++ [.tup [encM m, .int z]] by rw [List.map_append]; rfl]
    rw [List.map_cons, forL_cons]
    clear ih h hm hz e hx nd hl a b hin hlm z1 z2
    generalize forL (gN 5) b__law_form_1 (cs.map .int) = R at *
    generalize ps.map encQ = qs at *
    generalize (xs.map fun w => D.str (S w)) = ws at *
    unfold b__law_form_1
    walk_at "pda"
theorem law_form_eq {xs : List (List Nat)} (hx : ∀ w ∈ xs, Nm w) (nd : xs.Nodup) (hl : xs.length ≤ 10) (ns : List Int) (a b : Nat) (hab : b - a ≤ 60) : ∃ ps : List Tm, m__law_form [.scr ns, .lst (xs.map fun w => .str (S w)), .int a, .int b] = .ok (.tup ((formOf ps).map encQ)) ∧ Ok xs 9 xs.length 100 ps ∧ ps.length ≤ b - a := by
  have hc := cut_len ns a b
  obtain ⟨ps, x5, x6, e, ok, lp⟩ := lf_loop hx nd hl (cutD ns (some (a : Int)) (some (b : Int))) [] (some (.scr ns)) (some (.int a)) (some (.int b)) none none ⟨fun q hq => absurd hq List.not_mem_nil, fun q hq => absurd hq List.not_mem_nil, fun q hq => absurd hq List.not_mem_nil, fun q hq => absurd hq List.not_mem_nil⟩ (by simp; omega)
  refine ⟨ps, ?_, ok, by rw [lp]; simp; omega⟩
  have e1 := form_eq (ps := ps) ok.mono (by rw [lp]; simp; omega)
  have e2 := sum_form
  have e' : forL (gN 5) b__law_form_1 ((cutD ns (some (a : Int)) (some (b : Int))).map .int) [some (.scr ns), some (.lst (xs.map fun w => .str (S w))), some (.int a), some (.int b), some (.lst []), none, none] = .nx [some (.scr ns), some (.lst (xs.map fun w => .str (S w))), some (.int a), some (.int b), some (.lst (ps.map encQ)), x5, x6] := e
  clear e ok lp hc hx nd hl hab
  generalize formOf ps = F at *
  generalize (xs.map fun w => D.str (S w)) = ws at *
  unfold m__law_form b__law_form
  walk_at "pda"
theorem Ok.up {xs : List (List Nat)} {most : Int} {k b c : Nat} {f : List Tm} (h : Ok xs most k b f) (l : b ≤ c) : Ok xs most k c f := ⟨h.mono, h.nin, h.few, fun q hq => (h.sz q hq).mono l⟩
theorem Ok.app {xs : List (List Nat)} {most : Int} {k b : Nat} {f g : List Tm} (h : Ok xs most k b f) (i : Ok xs most k b g) : Ok xs most k b (f ++ g) :=
  ⟨fun q hq => (List.mem_append.mp hq).elim (h.mono q) (i.mono q), fun q hq => (List.mem_append.mp hq).elim (h.nin q) (i.nin q), fun q hq => (List.mem_append.mp hq).elim (h.few q) (i.few q), fun q hq => (List.mem_append.mp hq).elim (h.sz q) (i.sz q)⟩
theorem Ok.scale {xs : List (List Nat)} {most : Int} {k b c : Nat} {f : List Tm} {n : Int} (h : Ok xs most k b f) (hn : Sz c n) : Ok xs most k (c + b) (f.map fun q => (q.1, n * q.2)) := by
  refine ⟨fun q hq => ?_, fun q hq => ?_, fun q hq => ?_, fun q hq => ?_⟩ <;> obtain ⟨r, hr, rfl⟩ := List.mem_map.mp hq
  · exact h.mono r hr
  · exact h.nin r hr
  · exact h.few r hr
  · exact hn.mul (h.sz r hr)
theorem Ok.neg {xs : List (List Nat)} {most : Int} {k b : Nat} {f : List Tm} (h : Ok xs most k b f) : Ok xs most k b (f.map fun q => (q.1, 0 - q.2)) := by
  refine ⟨fun q hq => ?_, fun q hq => ?_, fun q hq => ?_, fun q hq => ?_⟩ <;> obtain ⟨r, hr, rfl⟩ := List.mem_map.mp hq
  · exact h.mono r hr
  · exact h.nin r hr
  · exact h.few r hr
  · have := (h.sz r hr).neg
    rw [← Int.zero_sub] at this
    exact this
theorem mulM_len (a b : Mn) : (mulM a b).length ≤ a.length + b.length := by
  unfold mulM
  have := tot_len (a ++ b) []
  rw [(List.mergeSort_perm _ _).length_eq]
  simp at this
  exact this
theorem Ok.times {xs : List (List Nat)} {most : Int} {k b : Nat} {f g : List Tm} (h0 : 0 ≤ most) (hk : k ≤ 500) (h : Ok xs most k b f) (i : Ok xs most k b g) : Ok xs (most + most) (k + k) (b + b) (timesL f g) := by
  have m := times_mono h0 (f := f) (g := g) (fun q hq => ⟨h.mono q hq, Nat.le_trans (h.few q hq) hk⟩) (fun q hq => ⟨i.mono q hq, Nat.le_trans (i.few q hq) hk⟩)
  refine ⟨fun q hq => (m q hq).1, fun q hq p hp => ?_, fun q hq => ?_, fun q hq => ?_⟩ <;> obtain ⟨_, r, hr, t, ht, rfl⟩ := m q hq
  · have := (mono_mul (h.mono r hr) (i.mono t ht) h0 h0 (by have := h.few r hr; have := i.few t ht; omega)).2 p hp
    rcases this with z | z
    · obtain ⟨s, hs, e⟩ := List.mem_map.mp z
      rw [← e]; exact h.nin r hr s hs
    · obtain ⟨s, hs, e⟩ := List.mem_map.mp z
      rw [← e]; exact i.nin t ht s hs
  · have h1 := mulM_len r.1 t.1
    have h2 := h.few r hr
    have h3 := i.few t ht
    show (mulM r.1 t.1).length ≤ k + k
    omega
  · exact (h.sz r hr).mul (i.sz t ht)
theorem Ok.nn {xs : List (List Nat)} {most : Int} {k b : Nat} {f : List Tm} (h : Ok xs most k b f) : ∀ q ∈ f, ∀ p ∈ q.1, 0 ≤ p.2 := fun q hq p hp => by
  have := ((h.mono q hq).nm p hp).2.1
  omega
theorem sz_one : Sz 1 1 := by unfold Sz; decide
theorem sz_pow {v : Int} {s : Nat} (h : Sz s v) : ∀ n : Nat, Sz (s * n + 1) (v ^ n)
  | 0 => by rw [Int.pow_zero, Nat.mul_zero]; exact sz_one
  | n + 1 => by
    rw [Int.pow_succ]
    exact ((sz_pow h n).mul h).mono (by rw [Nat.mul_add]; omega)
theorem sz_wM {pt : List Nat → Int} {s most : Nat} (hp : ∀ w, Sz s (pt w)) : ∀ m : Mn, (∀ p ∈ m, p.2 ≤ most) → Sz ((s * most + 1) * m.length + 1) (wM pt m)
  | [], _ => by rw [List.length_nil, Nat.mul_zero]; exact sz_one
  | p :: m, h => by
    have h1 := sz_wM hp m fun q hq => h q (List.mem_cons_of_mem _ hq)
    have h2 := h p List.mem_cons_self
    have h3 := (sz_pow (hp p.1) p.2.toNat).mono (m := s * most + 1) (Nat.add_le_add_right (Nat.mul_le_mul_left s (by omega)) 1)
    rw [List.length_cons, Nat.mul_add, Nat.mul_one]
    exact (h3.mul h1).mono (by omega)
theorem sz_val {xs : List (List Nat)} {pt : List Nat → Int} {s most k b : Nat} (hp : ∀ w, Sz s (pt w)) : ∀ {f : List Tm}, Ok xs most k b f → Sz (b + ((s * most + 1) * k + 1) + f.length) (valL pt f)
  | [], _ => by show Sz _ 0; unfold Sz; exact Nat.two_pow_pos _
  | q :: f, h => by
    have h1 := sz_val hp (f := f) ⟨fun r hr => h.mono r (List.mem_cons_of_mem _ hr), fun r hr => h.nin r (List.mem_cons_of_mem _ hr), fun r hr => h.few r (List.mem_cons_of_mem _ hr), fun r hr => h.sz r (List.mem_cons_of_mem _ hr)⟩
    have h2 := (sz_wM hp q.1 fun p hp => ((h.mono q List.mem_cons_self).nm p hp).2.2).mono (m := (s * most + 1) * k + 1) (Nat.add_le_add_right (Nat.mul_le_mul_left _ (h.few q List.mem_cons_self)) 1)
    have h3 := ((h.sz q List.mem_cons_self).mul h2).mono (m := b + ((s * most + 1) * k + 1) + f.length) (by omega)
    exact h3.add h1
theorem neg_lc {x0 x1 x2 x3 x4 x5 x6 x7 x8 x9 x10 : Option D} : ∀ (r : List Tm),
    lcL (gT [gN 9, gN 10]) bYes (eA mkTup (aC (eV 9) (aC (PD.e2 dSub (eC (.int 0)) (eV 10)) aN))) [x0, x1, x2, x3, x4, x5, x6, x7, x8, x9, x10] (r.map encQ) = .ok ((r.map fun q => (q.1, 0 - q.2)).map encQ)
  | [] => rfl
  | q :: r => by
    have ih := neg_lc (x0 := x0) (x1 := x1) (x2 := x2) (x3 := x3) (x4 := x4) (x5 := x5) (x6 := x6) (x7 := x7) (x8 := x8) (x9 := x9) (x10 := x10) r
    rw [List.map_cons, lcL_cons, List.map_cons, List.map_cons, show encQ q = .tup [encM q.1, .int q.2] from rfl, show encQ (q.1, 0 - q.2) = .tup [encM q.1, .int (0 - q.2)] from rfl]
    generalize lcL (gT [gN 9, gN 10]) bYes (eA mkTup (aC (eV 9) (aC (PD.e2 dSub (eC (.int 0)) (eV 10)) aN))) [x0, x1, x2, x3, x4, x5, x6, x7, x8, x9, x10] (r.map encQ) = R at *
    walk_at "pda"
/-! dicts by flat keys, in general -/
section
variable {κ ν : Type} [DecidableEq κ] {ek : κ → D} {ev : ν → D}
def encE (ek : κ → D) (ev : ν → D) (q : κ × ν) : D × D := (ek q.1, ev q.2)
theorem dicGet_F (inj : ∀ {a b}, ek a = ek b → a = b) (l : List (κ × ν)) (k : κ) : dicGet (l.map (encE ek ev)) (ek k) = (fnd l k).map ev := dicGet_E inj l k
theorem dkey_F (fl : ∀ k, flatK (ek k) = true) (l : List (κ × ν)) (k : κ) : DKey (l.map (encE ek ev)) (ek k) := .inl ⟨fl k, fun p hp => by
  obtain ⟨q, _, rfl⟩ := List.mem_map.mp hp
  exact fl _⟩
theorem dicPut_F (inj : ∀ {a b}, ek a = ek b → a = b) {l : List (κ × ν)} (h : (l.map (·.1)).Nodup) (k : κ) (v : ν) : dicPut (l.map (encE ek ev)) (ek k) (ev v) = (put l k v).map (encE ek ev) := dicPut_E inj h k v
theorem putO_F (inj : ∀ {a b}, ek a = ek b → a = b) (fl : ∀ k, flatK (ek k) = true) {l : List (κ × ν)} (h : (l.map (·.1)).Nodup) (hz : l.length ≤ 10000) (k : κ) (v : ν) : putO (.dic (l.map (encE ek ev))) (ek k) (ev v) = .ok (.dic ((put l k v).map (encE ek ev))) := by
  show chk _ (Out.ok (D.dic (dicPut _ _ _))) = _
  rw [dicPut_F inj h k v]
  exact chk_pos ⟨dkey_F fl l k, by rw [List.length_map]; exact Nat.lt_of_le_of_lt hz (by decide)⟩
theorem getF (inj : ∀ {a b}, ek a = ek b → a = b) (l : List (κ × ν)) (k : κ) (d : ν) : (dicGet (l.map (encE ek ev)) (ek k)).getD (ev d) = ev ((fnd l k).getD d) := by
  rw [dicGet_F inj]
  cases fnd l k <;> rfl
theorem dIx_F (inj : ∀ {a b}, ek a = ek b → a = b) (fl : ∀ k, flatK (ek k) = true) {l : List (κ × ν)} {k : κ} {v : ν} (e : fnd l k = some v) : dIx (.dic (l.map (encE ek ev))) (ek k) = .ok (ev v) := by
  show chk _ (match dicGet (l.map (encE ek ev)) (ek k) with | some d => Out.ok d | none => .stuck) = _
  rw [dicGet_F inj, e]
  exact chk_pos (dkey_F fl l k)
theorem dIn_F (inj : ∀ {a b}, ek a = ek b → a = b) (fl : ∀ k, flatK (ek k) = true) (hs : ∀ k, (∃ i, ek k = .int i) ∨ ∃ x, ek k = .str x) (l : List (κ × ν)) (k : κ) : dIn (ek k) (.dic (l.map (encE ek ev))) = .ok (.bl (fnd l k).isSome) := by
  have e : dInD false (ek k) (.dic (l.map (encE ek ev))) = .ok (.bl (fnd l k).isSome) := by
    show chk _ (Out.ok (D.bl (if false = true then _ else (dicGet _ _).isSome))) = _
    rw [dicGet_F inj, chk_pos (dkey_F fl l k)]
    cases fnd l k <;> rfl
  show ((dInL false (ek k) (.dic (l.map (encE ek ev)))).or ((dInS (ek k) (.dic (l.map (encE ek ev)))).or (dInD false (ek k) (.dic (l.map (encE ek ev)))))) = _
  rw [e]
  rcases hs k with ⟨i, h⟩ | ⟨x, h⟩ <;> rw [h] <;> rfl
theorem dNotIn_F (inj : ∀ {a b}, ek a = ek b → a = b) (fl : ∀ k, flatK (ek k) = true) (hs : ∀ k, (∃ i, ek k = .int i) ∨ ∃ x, ek k = .str x) (l : List (κ × ν)) (k : κ) : dNotIn (ek k) (.dic (l.map (encE ek ev))) = .ok (.bl !(fnd l k).isSome) := by
  have e : dInD true (ek k) (.dic (l.map (encE ek ev))) = .ok (.bl !(fnd l k).isSome) := by
    show chk _ (Out.ok (D.bl (if true = true then !(dicGet _ _).isSome else _))) = _
    rw [dicGet_F inj, chk_pos (dkey_F fl l k)]
    cases fnd l k <;> rfl
  show ((dInL true (ek k) (.dic (l.map (encE ek ev)))).or ((dNotInS (ek k) (.dic (l.map (encE ek ev)))).or (dInD true (ek k) (.dic (l.map (encE ek ev)))))) = _
  rw [e]
  rcases hs k with ⟨i, h⟩ | ⟨x, h⟩ <;> rw [h] <;> rfl
end
theorem int_inj {a b : Int} (h : D.int a = D.int b) : a = b := D.int.inj h
theorem flat_N (k : List Nat) : flatK (encN k) = true := rfl
theorem flat_I (k : Int) : flatK (D.int k) = true := rfl
theorem hs_N (k : List Nat) : (∃ i, encN k = .int i) ∨ ∃ x, encN k = .str x := .inr ⟨_, rfl⟩
theorem hs_I (k : Int) : (∃ i, D.int k = .int i) ∨ ∃ x, D.int k = .str x := .inl ⟨_, rfl⟩
/-! the names of a form -/
noncomputable def sortN (l : List (List Nat)) : List (List Nat) := l.mergeSort (dataLe false fun k => PyData.str (S k))
theorem sortN_mem {l : List (List Nat)} {x : List Nat} : x ∈ sortN l ↔ x ∈ l := (List.mergeSort_perm _ _).mem_iff
theorem sortN_up {l : List (List Nat)} (nd : l.Nodup) : (sortN l).Pairwise (· < ·) := by
  have h1 := sort_pair (fun k : List Nat => PyData.str (S k)) l
  have h2 : (sortN l).Nodup := (List.mergeSort_perm _ _).nodup_iff.mpr nd
  refine (h1.and h2).imp fun {p q} ⟨u, v⟩ => ?_
  rw [PySem.W.dataLt_str, S_list, S_list, decide_eq_false_iff_not] at u
  cases Classical.em (p < q) with
  | inl z => exact z
  | inr z => exact absurd (str_tri z u) v
theorem up_eq {l m : List (List Nat)} (h1 : l.Pairwise (· < ·)) (h2 : m.Pairwise (· < ·)) (h : ∀ x, x ∈ l ↔ x ∈ m) : l = m :=
  eq_of_up (R := fun a b : List Nat => a < b) (fun a b x y => List.lt_irrefl _ (List.lt_trans x y)) h1 h2 h
theorem sok_N {ks : List (List Nat)} (h : ∀ k ∈ ks, Nm k) (z1 : ks.length ≤ 10000) : SOk (ks.map encN) := by
  refine ⟨?_, .inl (.inr ?_), ?_, ?_⟩
  · intro d hd e he
    rw [List.map_map] at hd he
    obtain ⟨p, _, rfl⟩ := List.mem_map.mp hd
    obtain ⟨q, _, rfl⟩ := List.mem_map.mp he
    rfl
  · intro d hd
    rw [List.map_map] at hd
    obtain ⟨p, _, rfl⟩ := List.mem_map.mp hd
    refine ⟨?_, fun xs q => ?_⟩
    · intro q; cases q
    · cases q
  · intro d hd
    obtain ⟨p, hp, rfl⟩ := List.mem_map.mp hd
    exact ⟨strOk_nm (h p hp), Nat.zero_le _⟩
  · rw [List.length_map]
    exact Nat.le_trans z1 (by decide)
theorem sortD_N (ks : List (List Nat)) : sortD (ks.map encN) = (sortN ks).map encN := by
  rw [sort_map]; rfl
theorem sorted_D {kvs : List (D × D)} {ks : List (List Nat)} (e : kvs.map (·.1) = ks.map encN) (h : ∀ k ∈ ks, Nm k) (z1 : ks.length ≤ 10000) : cSorted [.dic kvs] = .ok (.lst ((sortN ks).map encN)) := by
  show chk (SOk (kvs.map (·.1))) _ = _
  rw [e, sortD_N, chk_pos (sok_N h z1)]
theorem sorted_Ns {ks : List (List Nat)} (h : ∀ k ∈ ks, Nm k) (z1 : ks.length ≤ 10000) : cSorted [.lst (ks.map encN)] = .ok (.lst ((sortN ks).map encN)) := by
  show chk (SOk (ks.map encN)) _ = _
  rw [sortD_N, chk_pos (sok_N h z1)]
theorem keys_E {κ ν : Type} (ek : κ → D) (ev : ν → D) (l : List (κ × ν)) : (l.map (encE ek ev)).map (·.1) = (l.map (·.1)).map ek := by
  rw [List.map_map, List.map_map]; rfl
/-! names_of, power_of, by_power -/
def allP (f : List Tm) : List Pr := f.flatMap (·.1)
def addN (l : List (List Nat × Bool)) (p : Pr) : List (List Nat × Bool) := put l p.1 true
def nmsL (ps : List Pr) : List (List Nat × Bool) := ps.foldl addN []
theorem nms_nodup : ∀ (ps : List Pr) (l : List (List Nat × Bool)), (l.map (·.1)).Nodup → ((ps.foldl addN l).map (·.1)).Nodup
  | [], _, h => h
  | p :: ps, l, h => nms_nodup ps _ (put_nodup h _ _)
theorem nms_mem : ∀ (ps : List Pr) (l : List (List Nat × Bool)) (x : List Nat), x ∈ (ps.foldl addN l).map (·.1) ↔ x ∈ l.map (·.1) ∨ x ∈ ps.map (·.1)
  | [], _, _ => by simp
  | p :: ps, l, x => by
    rw [List.foldl_cons, nms_mem ps]
    unfold addN
    rw [put_keys]
    by_cases c : p.1 ∈ l.map (·.1)
    · rw [if_pos c, List.map_cons, List.mem_cons]
      constructor
      · rintro (h | h)
        · exact .inl h
        · exact .inr (.inr h)
      · rintro (h | h | h)
        · exact .inl h
        · exact .inl (h ▸ c)
        · exact .inr h
    · rw [if_neg c, List.mem_append, List.mem_singleton, List.map_cons, List.mem_cons, or_assoc]
theorem nms_len : ∀ (ps : List Pr) (l : List (List Nat × Bool)), (ps.foldl addN l).length ≤ l.length + ps.length
  | [], _ => Nat.le_refl _
  | p :: ps, l => by
    rw [List.foldl_cons]
    have h1 := nms_len ps (addN l p)
    have h2 := put_len l p.1 true
    rw [List.length_cons]
    unfold addN at *
    omega
noncomputable def namesOf (f : List Tm) : List (List Nat) := sortN ((nmsL (allP f)).map (·.1))
theorem namesOf_mem {f : List Tm} {x : List Nat} : x ∈ namesOf f ↔ ∃ q ∈ f, ∃ p ∈ q.1, p.1 = x := by
  unfold namesOf nmsL
  rw [sortN_mem, nms_mem]
  unfold allP
  constructor
  · rintro (h | h)
    · exact absurd h List.not_mem_nil
    · obtain ⟨p, hp, e⟩ := List.mem_map.mp h
      obtain ⟨q, hq, hp⟩ := List.mem_flatMap.mp hp
      exact ⟨q, hq, p, hp, e⟩
  · rintro ⟨q, hq, p, hp, e⟩
    exact .inr (List.mem_map.mpr ⟨p, List.mem_flatMap.mpr ⟨q, hq, hp⟩, e⟩)
theorem namesOf_up (f : List Tm) : (namesOf f).Pairwise (· < ·) := sortN_up (nms_nodup _ [] List.nodup_nil)
abbrev encB : List Nat × Bool → D × D := encE encN D.bl
theorem names_1 (x0 x2 x3 : Option D) : ∀ (m : Mn) (l : List (List Nat × Bool)) (x4 x5 : Option D), (l.map (·.1)).Nodup → l.length + m.length ≤ 10000 →
    ∃ x4' x5', forL (gT [gN 4, gN 5]) b_names_of_1 (m.map encP) [x0, some (.dic (l.map encB)), x2, x3, x4, x5] = .nx [x0, some (.dic ((m.foldl addN l).map encB)), x2, x3, x4', x5']
  | [], l, x4, x5, _, _ => ⟨x4, x5, rfl⟩
  | p :: m, l, x4, x5, nd, hl => by
    obtain ⟨x4', x5', e⟩ := names_1 x0 x2 x3 m (addN l p) (some (encN p.1)) (some (.int p.2)) (put_nodup nd _ _) (by have := put_len l p.1 true; unfold addN; rw [List.length_cons] at hl; omega)
    refine ⟨x4', x5', ?_⟩
    have e1 := putO_F (ev := D.bl) encN_inj flat_N nd (by omega) p.1 true
    rw [List.foldl_cons, ← e, List.map_cons]
    refine forL_step ?_
    unfold b_names_of_1
    rw [show encP p = .tup [encN p.1, .int p.2] from rfl]
    walk_at "wka"
    rfl
theorem names_2 (x0 : Option D) {b : Nat} : ∀ (f : List Tm) (l : List (List Nat × Bool)) (x2 x3 x4 x5 : Option D), (l.map (·.1)).Nodup → (∀ q ∈ f, q.1.length ≤ b) → l.length + f.length * b ≤ 10000 →
    ∃ x2' x3' x4' x5', forL (gT [gN 2, gN 3]) b_names_of_2 (f.map encQ) [x0, some (.dic (l.map encB)), x2, x3, x4, x5] = .nx [x0, some (.dic (((allP f).foldl addN l).map encB)), x2', x3', x4', x5']
  | [], l, x2, x3, x4, x5, _, _, _ => ⟨x2, x3, x4, x5, rfl⟩
  | q :: f, l, x2, x3, x4, x5, nd, hb, hl => by
    have hq := hb q List.mem_cons_self
    rw [List.length_cons, Nat.add_mul, Nat.one_mul] at hl
    obtain ⟨y4, y5, e1⟩ := names_1 x0 (some (encM q.1)) (some (.int q.2)) q.1 l x4 x5 nd (by omega)
    have nl := nms_len q.1 l
    obtain ⟨x2', x3', x4', x5', e⟩ := names_2 x0 f (q.1.foldl addN l) (some (encM q.1)) (some (.int q.2)) y4 y5 (nms_nodup _ _ nd) (fun r hr => hb r (List.mem_cons_of_mem _ hr)) (by omega)
    refine ⟨x2', x3', x4', x5', ?_⟩
    rw [show allP (q :: f) = q.1 ++ allP f from rfl, List.foldl_append, ← e, List.map_cons]
    refine forL_step ?_
    unfold b_names_of_2
    rw [show encQ q = .tup [encM q.1, .int q.2] from rfl]
    walk_at "wk"
    rw [show encM q.1 = .tup (q.1.map encP) from rfl] at e1 ⊢
    walk_at "wk"
    rw [e1]
    walk_at "wk"
theorem names_of_eq {f : List Tm} {b : Nat} (hn : ∀ q ∈ f, ∀ p ∈ q.1, Nm p.1) (hb : ∀ q ∈ f, q.1.length ≤ b) (hl : f.length * b ≤ 10000) : m_names_of [.tup (f.map encQ)] = .ok (.tup ((namesOf f).map encN)) := by
  obtain ⟨x2, x3, x4, x5, e⟩ := names_2 (some (.tup (f.map encQ))) f [] none none none none List.nodup_nil hb (by simpa using hl)
  have e' : forL (gT [gN 2, gN 3]) b_names_of_2 (f.map encQ) [some (.tup (f.map encQ)), some (.dic []), none, none, none, none] = _ := e
  have e2 := sorted_D (kvs := ((allP f).foldl addN []).map encB) (ks := (nmsL (allP f)).map (·.1)) (keys_E encN D.bl _) (fun k hk => by
    have := (nms_mem (allP f) [] k).mp hk
    rcases this with h | h
    · exact absurd h List.not_mem_nil
    · obtain ⟨p, hp, rfl⟩ := List.mem_map.mp h
      obtain ⟨q, hq, hp⟩ := List.mem_flatMap.mp hp
      exact hn q hq p hp) (by
    rw [List.length_map]
    refine Nat.le_trans (nms_len (allP f) []) ?_
    rw [List.length_nil, Nat.zero_add]
    have : ∀ f : List Tm, (∀ q ∈ f, q.1.length ≤ b) → (allP f).length ≤ f.length * b := by
      intro f
      induction f with
      | nil => intro _; simp [allP]
      | cons q f ih =>
        intro h
        have h1 := ih fun r hr => h r (List.mem_cons_of_mem _ hr)
        have h2 := h q List.mem_cons_self
        rw [show allP (q :: f) = q.1 ++ allP f from rfl, List.length_append, List.length_cons, Nat.add_mul, Nat.one_mul]
        omega
    exact Nat.le_trans (this f hb) hl)
  unfold m_names_of b_names_of
  walk_at "wk"
  rw [e']
  walk_at "wk"
  rw [e2]
  walk_at "wk"
  rfl
/-! powers -/
def powOf (m : Mn) (x : List Nat) : Int := (fnd m x).getD 0
theorem dEq_N {a b : List Nat} (ha : Nm a) (hb : Nm b) : dEq (encN a) (encN b) = .ok (.bl (decide (a = b))) := by
  have e : PyData.eqv (toPy (encN a)) (toPy (encN b)) = decide (a = b) := by
    show PyData.eqv (.str (S a)) (.str (S b)) = _
    rw [PyData.eqv, S_beq]
  have sh : ∀ {l : List Nat}, Nm l → SeqAt.shaped (toPy (encN l)) = true := fun {l} h => by
    unfold SeqAt.shaped
    exact Bool.and_eq_true_iff.mpr ⟨strOk_nm h, rfl⟩
  show chk _ (Out.ok (D.bl (PyData.eqv (toPy (encN a)) (toPy (encN b))))) = _
  rw [e]
  exact chk_pos ⟨sh ha, sh hb⟩
theorem dNe_N {a b : List Nat} (ha : Nm a) (hb : Nm b) : dNe (encN a) (encN b) = .ok (.bl (!decide (a = b))) := by
  have h := dEq_N ha hb
  unfold dEq at h
  rw [chk_ok] at h
  obtain ⟨c, h⟩ := h
  have e : PyData.eqv (toPy (encN a)) (toPy (encN b)) = decide (a = b) := D.bl.inj (Out.ok.inj h)
  show chk _ (Out.ok (D.bl (!PyData.eqv (toPy (encN a)) (toPy (encN b))))) = _
  rw [e]
  exact chk_pos c
theorem pow_1 {x : List Nat} (hx : Nm x) (x0 : Option D) : ∀ (m : Mn) (x2 x3 : Option D), (∀ p ∈ m, Nm p.1) → (∃ x2' x3', forL (gT [gN 2, gN 3]) b_power_of_1 (m.map encP) [x0, some (encN x), x2, x3] = .nx [x0, some (encN x), x2', x3'] ∧ fnd m x = none) ∨
    ∃ v, forL (gT [gN 2, gN 3]) b_power_of_1 (m.map encP) [x0, some (encN x), x2, x3] = .rt (.int v) ∧ fnd m x = some v
  | [], x2, x3, _ => .inl ⟨x2, x3, rfl, rfl⟩
  | p :: m, x2, x3, hm => by
    have hp := hm p List.mem_cons_self
    have hm' := fun q (hq : q ∈ m) => hm q (List.mem_cons_of_mem _ hq)
    clear hm
    by_cases c : p.1 = x
    · refine .inr ⟨p.2, ?_, by simp [fnd, c]⟩
      rw [List.map_cons, forL_cons, show encP p = .tup [encN p.1, .int p.2] from rfl]
      unfold b_power_of_1
      have e1 := dEq_N hp hx
      rw [decide_eq_true c] at e1
      clear c
      walk_at "wka"
    · have e1 := dEq_N hp hx
      rw [decide_eq_false c] at e1
      have st : forL (gT [gN 2, gN 3]) b_power_of_1 ((p :: m).map encP) [x0, some (encN x), x2, x3] = forL (gT [gN 2, gN 3]) b_power_of_1 (m.map encP) [x0, some (encN x), some (encN p.1), some (.int p.2)] := by
        rw [List.map_cons]
        refine forL_step ?_
        rw [show encP p = .tup [encN p.1, .int p.2] from rfl]
        unfold b_power_of_1
        walk_at "wka"
      rw [st]
      have ef : fnd (p :: m) x = fnd m x := by simp [fnd, c]
      rw [ef]
      exact pow_1 hx x0 m _ _ hm'
theorem power_of_eq {m : Mn} {x : List Nat} (hm : ∀ p ∈ m, Nm p.1) (hx : Nm x) : m_power_of [encM m, encN x] = .ok (.int (powOf m x)) := by
  unfold m_power_of b_power_of powOf
  rw [show encM m = .tup (m.map encP) from rfl]
  walk_at "wk"
  rcases pow_1 hx (some (.tup (m.map encP))) m none none hm with ⟨x2, x3, e, f⟩ | ⟨v, e, f⟩
  · rw [e, f]; walk_at "wk"; rfl
  · rw [e, f]; walk_at "wk"; rfl
/-! by powers -/
def restOf (m : Mn) (x : List Nat) : Mn := m.filter fun p => !decide (p.1 = x)
def rowQ (x : List Nat) (q : Tm) : Tm := (restOf q.1 x, q.2)
noncomputable def rowsOf (x : List Nat) (f : List Tm) : List (Int × List Tm) := f.foldl (fun l q => put l (powOf q.1 x) ((fnd l (powOf q.1 x)).getD [] ++ [rowQ x q])) []
def topOf (x : List Nat) (f : List Tm) : Int := f.foldl (fun t q => max t (powOf q.1 x)) 0
def partOf (x : List Nat) (f : List Tm) (k : Int) : List Tm := (f.filter fun q => decide (powOf q.1 x = k)).map (rowQ x)
noncomputable def byPow (x : List Nat) (f : List Tm) : List (List Tm) := (List.range (topOf x f + 1).toNat).map fun (k : Nat) => formOf (partOf x f k)
theorem rows_nodup (x : List Nat) : ∀ (f : List Tm) (l : List (Int × List Tm)), (l.map (·.1)).Nodup → ((f.foldl (fun l q => put l (powOf q.1 x) ((fnd l (powOf q.1 x)).getD [] ++ [rowQ x q])) l).map (·.1)).Nodup
  | [], _, h => h
  | q :: f, l, h => rows_nodup x f _ (put_nodup h _ _)
theorem rows_len (x : List Nat) : ∀ (f : List Tm) (l : List (Int × List Tm)), (f.foldl (fun l q => put l (powOf q.1 x) ((fnd l (powOf q.1 x)).getD [] ++ [rowQ x q])) l).length ≤ l.length + f.length
  | [], _ => Nat.le_refl _
  | q :: f, l => by
    rw [List.foldl_cons]
    refine Nat.le_trans (rows_len x f _) ?_
    have := put_len l (powOf q.1 x) ((fnd l (powOf q.1 x)).getD [] ++ [rowQ x q])
    rw [List.length_cons]; omega
theorem rows_get (x : List Nat) (k : Int) : ∀ (f : List Tm) (l : List (Int × List Tm)), (fnd (f.foldl (fun l q => put l (powOf q.1 x) ((fnd l (powOf q.1 x)).getD [] ++ [rowQ x q])) l) k).getD [] = (fnd l k).getD [] ++ partOf x f k
  | [], l => by simp [partOf]
  | q :: f, l => by
    rw [List.foldl_cons, rows_get x k f, fnd_put]
    unfold partOf
    by_cases c : powOf q.1 x = k
    · rw [if_pos c, List.filter_cons_of_pos (by simp [c])]
      simp [c]
    · rw [if_neg c, List.filter_cons_of_neg (by simp [c])]
theorem top_le (x : List Nat) {b : Int} : ∀ (f : List Tm) (t : Int), (∀ q ∈ f, powOf q.1 x ≤ b) → t ≤ b → f.foldl (fun t q => max t (powOf q.1 x)) t ≤ b
  | [], _, _, h => h
  | q :: f, t, h, ht => top_le x f _ (fun r hr => h r (List.mem_cons_of_mem _ hr)) (by have := h q List.mem_cons_self; show max t (powOf q.1 x) ≤ b; omega)
theorem top_ge (x : List Nat) : ∀ (f : List Tm) (t : Int), t ≤ f.foldl (fun t q => max t (powOf q.1 x)) t
  | [], _ => Int.le_refl _
  | q :: f, t => Int.le_trans (Int.le_max_left _ _) (top_ge x f _)
theorem pow_le_top (x : List Nat) : ∀ (f : List Tm) (t : Int), ∀ q ∈ f, powOf q.1 x ≤ f.foldl (fun t q => max t (powOf q.1 x)) t
  | q :: f, t, r, hr => by
    rcases List.mem_cons.mp hr with rfl | hr
    · exact Int.le_trans (Int.le_max_right _ _) (top_ge x f _)
    · exact pow_le_top x f _ r hr
theorem powOf_le {most : Int} (h0 : 0 ≤ most) {m : Mn} (h : ∀ p ∈ m, p.2 ≤ most) (x : List Nat) : powOf m x ≤ most := by
  unfold powOf
  cases e : fnd m x with
  | none => exact h0
  | some v => exact h _ (fnd_some e)
theorem powOf_nn {m : Mn} (h : ∀ p ∈ m, 0 ≤ p.2) (x : List Nat) : 0 ≤ powOf m x := by
  unfold powOf
  cases e : fnd m x with
  | none => exact Int.le_refl _
  | some v => exact h _ (fnd_some e)
theorem Mono.rest {most : Int} {m : Mn} (h : Mono most m) (x : List Nat) : Mono most (restOf m x) :=
  ⟨fun p hp => h.nm p (List.mem_filter.mp hp).1, h.up.filter _, Nat.le_trans (List.length_filter_le _ _) h.few⟩
theorem rest_lc {x : List Nat} (hx : Nm x) {m : Mn} (hm : ∀ p ∈ m, Nm p.1) {x0 x2 x3 x4 x5 x6 x7 x8 : Option D} :
    lcL (gN 9) (tOf (PD.e2 dNe (PD.e2 dIx (eV 9) (eC (.int 0))) (eV 1))) (eV 9) [x0, some (encN x), x2, x3, x4, x5, x6, x7, x8, none] (m.map encP) = .ok ((restOf m x).map encP) := by
  refine lcL_filter encP (fun p => !decide (p.1 = x)) encP m fun p hp => ?_
  rw [show encP p = .tup [encN p.1, .int p.2] from rfl]
  walk_at "wk"
  rw [dNe_N (hm p hp) hx]
  walk_at "wk"
  by_cases c : p.1 = x <;> simp [c]
theorem by_1 {x : List Nat} (hx : Nm x) (x0 : Option D) : ∀ (f : List Tm) (l : List (Int × List Tm)) (t : Int) (x4 x5 x6 x7 x9 : Option D), (l.map (·.1)).Nodup → (∀ q ∈ f, (∀ p ∈ q.1, Nm p.1) ∧ q.1.length ≤ 1000) → l.length + f.length ≤ 10000 → (∀ k, ((fnd l k).getD []).length + f.length ≤ 10000) →
    ∃ x4' x5' x6' x7' x8' x9', forL (gT [gN 4, gN 5]) b_by_power_1 (f.map encQ) [x0, some (encN x), some (.dic (l.map (encE D.int fun g : List Tm => .lst (g.map encQ)))), some (.int t), x4, x5, x6, x7, none, x9]
      = .nx [x0, some (encN x), some (.dic ((f.foldl (fun l q => put l (powOf q.1 x) ((fnd l (powOf q.1 x)).getD [] ++ [rowQ x q])) l).map (encE D.int fun g : List Tm => .lst (g.map encQ)))), some (.int (f.foldl (fun t q => max t (powOf q.1 x)) t)), x4', x5', x6', x7', x8', x9']
  | [], l, t, x4, x5, x6, x7, x9, _, _, _, _ => ⟨x4, x5, x6, x7, none, x9, rfl⟩
  | q :: f, l, t, x4, x5, x6, x7, x9, nd, hf, hl, hk => by
    obtain ⟨hq, hq2⟩ := hf q List.mem_cons_self
    have hl' : l.length + (f.length + 1) ≤ 10000 := hl
    have hk' := fun k => (show ((fnd l k).getD []).length + (f.length + 1) ≤ 10000 from hk k)
    obtain ⟨y4, y5, y6, y7, y8, y9, e⟩ := by_1 hx x0 f (put l (powOf q.1 x) ((fnd l (powOf q.1 x)).getD [] ++ [rowQ x q])) (max t (powOf q.1 x)) (some (encM q.1)) (some (.int q.2)) (some (.int (powOf q.1 x))) (some (encM (restOf q.1 x))) x9 (put_nodup nd _ _)
      (fun r hr => hf r (List.mem_cons_of_mem _ hr)) (by have := put_len l (powOf q.1 x) ((fnd l (powOf q.1 x)).getD [] ++ [rowQ x q]); omega) (fun k => by
        rw [fnd_put]
        by_cases c : powOf q.1 x = k
        · rw [if_pos c, c, Option.getD_some, List.length_append, List.length_singleton]
          have := hk' k; omega
        · rw [if_neg c]; have := hk' k; omega)
    refine ⟨y4, y5, y6, y7, y8, y9, ?_⟩
    rw [List.foldl_cons, List.foldl_cons, ← e, List.map_cons]
    refine forL_step ?_
    have e1 := power_of_eq hq hx
    have e2 := fun x0 x2 x3 x4 x5 x6 x7 x8 => rest_lc hx hq (x0 := x0) (x2 := x2) (x3 := x3) (x4 := x4) (x5 := x5) (x6 := x6) (x7 := x7) (x8 := x8)
    have e3 := dicGet_F (ev := fun g : List Tm => .lst (g.map encQ)) int_inj l (powOf q.1 x)
    have e4 := dicPut_F (ev := fun g : List Tm => .lst (g.map encQ)) int_inj nd (powOf q.1 x) ((fnd l (powOf q.1 x)).getD [] ++ [rowQ x q])
    have e5 : asL ((fnd l (powOf q.1 x)).map fun g : List Tm => .lst (g.map encQ)) = .ok (((fnd l (powOf q.1 x)).getD []).map encQ) := by cases fnd l (powOf q.1 x) <;> rfl
    have k1 := hk' (powOf q.1 x)
    unfold b_by_power_1
    rw [show encQ q = .tup [encM q.1, .int q.2] from rfl]
    walk_at "wk"
    rw [e1]
    walk_at "wk"
    rw [show encM q.1 = .tup (q.1.map encP) from rfl]
    walk_at "wk"
    rw [e2]
    walk_at "wk"
    rw [e3, e5]
    walk_at "wk"
    rw [chkS_pos (by rw [List.length_map]; exact Nat.le_trans hq2 (by decide)), chkS_pos ⟨rfl, by rw [List.length_map]; exact Nat.lt_of_le_of_lt (show l.length ≤ 10000 by omega) (by decide), by decide⟩, chkS_pos (by rw [List.length_map]; exact Nat.lt_of_le_of_lt (show _ ≤ 10000 by omega) (by decide))]
    rw [List.map_append] at e4
    rw [← e4]
    rfl
theorem partOf_mono {most : Int} {x : List Nat} {f : List Tm} (h : ∀ q ∈ f, Mono most q.1) (k : Int) : ∀ q ∈ partOf x f k, Mono most q.1 := fun q hq => by
  obtain ⟨r, hr, rfl⟩ := List.mem_map.mp hq
  exact (h r (List.mem_filter.mp hr).1).rest x
theorem partOf_len (x : List Nat) (f : List Tm) (k : Int) : (partOf x f k).length ≤ f.length := by
  unfold partOf
  rw [List.length_map]
  exact List.length_filter_le _ _
theorem by_power_eq {most : Int} {x : List Nat} {f : List Tm} (hx : Nm x) (h0 : 0 ≤ most) (hm : most ≤ 10000) (hf : ∀ q ∈ f, Mono most q.1) (hl : f.length ≤ 10000) : m_by_power [.tup (f.map encQ), encN x] = .ok (.tup ((byPow x f).map fun g => .tup (g.map encQ))) := by
  obtain ⟨x4, x5, x6, x7, x8, x9, e⟩ := by_1 hx (some (.tup (f.map encQ))) f [] 0 none none none none none List.nodup_nil (fun q hq => ⟨fun p hp => ((hf q hq).nm p hp).1, (hf q hq).few⟩) (by simpa using hl) (fun k => by simpa [fnd] using hl)
  have e' : forL (gT [gN 4, gN 5]) b_by_power_1 (f.map encQ) [some (.tup (f.map encQ)), some (encN x), some (.dic []), some (.int 0), none, none, none, none, none, none] = .nx [some (.tup (f.map encQ)), some (encN x), some (.dic ((rowsOf x f).map (encE D.int fun g : List Tm => .lst (g.map encQ)))), some (.int (topOf x f)), x4, x5, x6, x7, x8, x9] := e
  have ht : topOf x f ≤ most := top_le x f 0 (fun q hq => powOf_le h0 (fun p hp => ((hf q hq).nm p hp).2.2) x) h0
  have ht0 : 0 ≤ topOf x f := top_ge x f 0
  have e2 : ∀ (kvs : List (D × D)) (x0 x3 x4 x5 x7 x8 x9 : Option D), kvs = (rowsOf x f).map (encE D.int fun g : List Tm => .lst (g.map encQ)) →
      lcL (gN 6) bYes (eA m_form_of (aC (eGet2 (eV 2) (eV 6) (eA mkLst aN)) aN)) [x0, some (encN x), some (.dic kvs), x3, x4, x5, none, x7, x8, x9] ((List.range (topOf x f + 1).toNat).map fun (k : Nat) => .int k) = .ok ((byPow x f).map fun g => .tup (g.map encQ)) := by
    intro kvs x0 x3 x4 x5 x7 x8 x9 ek
    unfold byPow
    rw [List.map_map]
    refine lcL_map (fun (k : Nat) => D.int k) _ _ fun k hk => ?_
    have g1 := getF (ev := fun g : List Tm => .lst (g.map encQ)) int_inj (rowsOf x f) (k : Int) []
    have g2 := dkey_F (ev := fun g : List Tm => .lst (g.map encQ)) flat_I (rowsOf x f) (k : Int)
    rw [← ek] at g1 g2
    have g3 : (fnd (rowsOf x f) (k : Int)).getD [] = partOf x f k := by
      have := rows_get x k f []
      rw [show fnd ([] : List (Int × List Tm)) (k : Int) = none from rfl] at this
      unfold rowsOf
      simpa using this
    rw [g3] at g1
    have g4 := form_eq (ps := partOf x f k) (partOf_mono hf k) (Nat.le_trans (partOf_len x f k) hl)
    walk_at "wk"
    rw [chk_pos g2]
    rw [show D.lst [] = (fun g : List Tm => D.lst (g.map encQ)) [] from rfl, g1]
    rw [g4]
    walk_at "wk"
    rfl
  unfold m_by_power b_by_power
  walk_at "wk"
  refine chk_go rfl ?_
  rw [e']
  walk_at "wk"
  rw [e2 _ _ _ _ _ _ _ _ rfl, List.length_map, List.length_range]
  walk_at "wk"
  rw [chk_pos ⟨by omega, by omega⟩, chk_pos (len_ok (by omega))]
/-! the highest powers of a form's names -/
def addS (l : List (List Nat × Int)) (p : Pr) : List (List Nat × Int) := put l p.1 (max p.2 ((fnd l p.1).getD 0))
def stL (ps : List Pr) : List (List Nat × Int) := ps.foldl addS []
theorem st_nodup : ∀ (ps : List Pr) (l : List (List Nat × Int)), (l.map (·.1)).Nodup → ((ps.foldl addS l).map (·.1)).Nodup
  | [], _, h => h
  | p :: ps, l, h => st_nodup ps _ (put_nodup h _ _)
theorem st_len : ∀ (ps : List Pr) (l : List (List Nat × Int)), (ps.foldl addS l).length ≤ l.length + ps.length
  | [], _ => Nat.le_refl _
  | p :: ps, l => by
    rw [List.foldl_cons]
    have h1 := st_len ps (addS l p)
    have h2 := put_len l p.1 (max p.2 ((fnd l p.1).getD 0))
    rw [List.length_cons]
    unfold addS at *
    omega
theorem st_keys : ∀ (ps : List Pr) (l : List (List Nat × Int)) (x : List Nat), x ∈ (ps.foldl addS l).map (·.1) ↔ x ∈ l.map (·.1) ∨ x ∈ ps.map (·.1)
  | [], _, _ => by simp
  | p :: ps, l, x => by
    rw [List.foldl_cons, st_keys ps]
    unfold addS
    rw [put_keys]
    by_cases c : p.1 ∈ l.map (·.1)
    · rw [if_pos c, List.map_cons, List.mem_cons]
      constructor
      · rintro (h | h)
        · exact .inl h
        · exact .inr (.inr h)
      · rintro (h | h | h)
        · exact .inl h
        · exact .inl (h ▸ c)
        · exact .inr h
    · rw [if_neg c, List.mem_append, List.mem_singleton, List.map_cons, List.mem_cons, or_assoc]
/-- what stands at a name: the highest of its powers -/
def maxP (x : List Nat) : List Pr → Int → Int
  | [], t => t
  | p :: ps, t => maxP x ps (if p.1 = x then max p.2 t else t)
theorem st_get (x : List Nat) : ∀ (ps : List Pr) (l : List (List Nat × Int)), (fnd (ps.foldl addS l) x).getD 0 = maxP x ps ((fnd l x).getD 0)
  | [], _ => rfl
  | p :: ps, l => by
    rw [List.foldl_cons, st_get x ps]
    unfold addS
    rw [fnd_put]
    show _ = maxP x ps _
    by_cases c : p.1 = x
    · rw [if_pos c, if_pos c, Option.getD_some, c]
    · rw [if_neg c, if_neg c]
theorem maxP_app (x : List Nat) : ∀ (a b : List Pr) (t : Int), maxP x (a ++ b) t = maxP x b (maxP x a t)
  | [], _, _ => rfl
  | p :: a, b, t => maxP_app x a b _
theorem maxP_none (x : List Nat) : ∀ (m : Mn) (t : Int), x ∉ m.map (·.1) → maxP x m t = t
  | [], _, _ => rfl
  | p :: m, t, h => by
    rw [List.map_cons, List.mem_cons, not_or] at h
    show maxP x m (if p.1 = x then _ else _) = _
    rw [if_neg (fun z => h.1 z.symm), maxP_none x m t h.2]
theorem maxP_mono (x : List Nat) : ∀ (m : Mn) (t : Int), (m.map (·.1)).Nodup → 0 ≤ t → maxP x m t = max t (powOf m x)
  | [], t, _, h => by show t = max t 0; omega
  | p :: m, t, nd, h => by
    rw [List.map_cons, List.nodup_cons] at nd
    show maxP x m (if p.1 = x then _ else _) = _
    unfold powOf
    by_cases c : p.1 = x
    · rw [if_pos c, maxP_none x m _ (by rw [← c]; exact nd.1)]
      simp only [fnd, if_pos c, Option.getD_some]
      omega
    · rw [if_neg c, maxP_mono x m t nd.2 h]
      simp only [fnd, if_neg c]
      rfl
theorem maxP_form (x : List Nat) : ∀ (f : List Tm) (t : Int), (∀ q ∈ f, (q.1.map (·.1)).Nodup) → 0 ≤ t → maxP x (allP f) t = f.foldl (fun t q => max t (powOf q.1 x)) t
  | [], _, _, _ => rfl
  | q :: f, t, h, ht => by
    rw [show allP (q :: f) = q.1 ++ allP f from rfl, maxP_app, maxP_mono x q.1 t (h q List.mem_cons_self) ht, List.foldl_cons]
    exact maxP_form x f _ (fun r hr => h r (List.mem_cons_of_mem _ hr)) (by omega)
theorem stands_get {most : Int} {f : List Tm} (h : ∀ q ∈ f, Mono most q.1) (x : List Nat) : (fnd (stL (allP f)) x).getD 0 = topOf x f := by
  unfold stL
  rw [st_get]
  exact maxP_form x f 0 (fun q hq => up_nodup (h q hq).up) (Int.le_refl _)
theorem stands_keys (f : List Tm) (x : List Nat) : x ∈ (stL (allP f)).map (·.1) ↔ x ∈ namesOf f := by
  unfold stL namesOf nmsL
  rw [st_keys, sortN_mem, nms_mem]
  rfl
theorem allP_len {b : Nat} : ∀ {f : List Tm}, (∀ q ∈ f, q.1.length ≤ b) → (allP f).length ≤ f.length * b
  | [], _ => by simp [allP]
  | q :: f, h => by
    have h1 := allP_len (f := f) fun r hr => h r (List.mem_cons_of_mem _ hr)
    have h2 := h q List.mem_cons_self
    rw [show allP (q :: f) = q.1 ++ allP f from rfl, List.length_append, List.length_cons, Nat.add_mul, Nat.one_mul]
    omega
theorem stands_1 (x0 x2 x3 : Option D) : ∀ (m : Mn) (l : List (List Nat × Int)) (x4 x5 : Option D), (l.map (·.1)).Nodup → l.length + m.length ≤ 10000 →
    ∃ x4' x5', forL (gT [gN 4, gN 5]) b__law_stands_1 (m.map encP) [x0, some (.dic (l.map (encE encN D.int))), x2, x3, x4, x5] = .nx [x0, some (.dic ((m.foldl addS l).map (encE encN D.int))), x2, x3, x4', x5']
  | [], l, x4, x5, _, _ => ⟨x4, x5, rfl⟩
  | p :: m, l, x4, x5, nd, hl => by
    obtain ⟨x4', x5', e⟩ := stands_1 x0 x2 x3 m (addS l p) (some (encN p.1)) (some (.int p.2)) (put_nodup nd _ _) (by have := put_len l p.1 (max p.2 ((fnd l p.1).getD 0)); unfold addS; rw [List.length_cons] at hl; omega)
    refine ⟨x4', x5', ?_⟩
    have e1 := putO_F (ev := D.int) encN_inj flat_N nd (by omega) p.1 (max p.2 ((fnd l p.1).getD 0))
    have e2 := dkey_F (ev := D.int) flat_N l p.1
    have e3 := getF (ev := D.int) encN_inj l p.1 0
    rw [List.foldl_cons, ← e, List.map_cons]
    refine forL_step ?_
    unfold b__law_stands_1
    rw [show encP p = .tup [encN p.1, .int p.2] from rfl]
    walk_at "wka"
    rfl
theorem stands_2 (x0 : Option D) {b : Nat} : ∀ (f : List Tm) (l : List (List Nat × Int)) (x2 x3 x4 x5 : Option D), (l.map (·.1)).Nodup → (∀ q ∈ f, q.1.length ≤ b) → l.length + f.length * b ≤ 10000 →
    ∃ x2' x3' x4' x5', forL (gT [gN 2, gN 3]) b__law_stands_2 (f.map encQ) [x0, some (.dic (l.map (encE encN D.int))), x2, x3, x4, x5] = .nx [x0, some (.dic (((allP f).foldl addS l).map (encE encN D.int))), x2', x3', x4', x5']
  | [], l, x2, x3, x4, x5, _, _, _ => ⟨x2, x3, x4, x5, rfl⟩
  | q :: f, l, x2, x3, x4, x5, nd, hb, hl => by
    have hq := hb q List.mem_cons_self
    rw [List.length_cons, Nat.add_mul, Nat.one_mul] at hl
    obtain ⟨y4, y5, e1⟩ := stands_1 x0 (some (encM q.1)) (some (.int q.2)) q.1 l x4 x5 nd (by omega)
    have nl := st_len q.1 l
    obtain ⟨x2', x3', x4', x5', e⟩ := stands_2 x0 f (q.1.foldl addS l) (some (encM q.1)) (some (.int q.2)) y4 y5 (st_nodup _ _ nd) (fun r hr => hb r (List.mem_cons_of_mem _ hr)) (by omega)
    refine ⟨x2', x3', x4', x5', ?_⟩
    rw [show allP (q :: f) = q.1 ++ allP f from rfl, List.foldl_append, ← e, List.map_cons]
    refine forL_step ?_
    unfold b__law_stands_2
    rw [show encQ q = .tup [encM q.1, .int q.2] from rfl]
    walk_at "wk"
    rw [show encM q.1 = .tup (q.1.map encP) from rfl] at e1 ⊢
    walk_at "wk"
    rw [e1]
    walk_at "wk"
theorem stands_eq {f : List Tm} {b : Nat} (hb : ∀ q ∈ f, q.1.length ≤ b) (hl : f.length * b ≤ 10000) : m__law_stands [.tup (f.map encQ)] = .ok (.dic ((stL (allP f)).map (encE encN D.int))) := by
  obtain ⟨x2, x3, x4, x5, e⟩ := stands_2 (some (.tup (f.map encQ))) f [] none none none none List.nodup_nil hb (by simpa using hl)
  have e' : forL (gT [gN 2, gN 3]) b__law_stands_2 (f.map encQ) [some (.tup (f.map encQ)), some (.dic []), none, none, none, none] = .nx [some (.tup (f.map encQ)), some (.dic ((stL (allP f)).map (encE encN D.int))), x2, x3, x4, x5] := e
  unfold m__law_stands b__law_stands
  walk_at "wk"
  rw [e']
  walk_at "wk"
/-! a form put together again out of its parts -/
def insP (x : List Nat) (k : Int) : Mn → Mn
  | [] => [(x, k)]
  | p :: m => if x < p.1 then (x, k) :: p :: m else p :: insP x k m
def joinM (x : List Nat) (k : Int) (m : Mn) : Mn := if k = 0 then m else insP x k m
theorem ltN_irrefl (a : List Nat) : ¬ a < a := List.lt_irrefl _
theorem ltN_tri {a b : List Nat} (h : ¬ a < b) (n : a ≠ b) : b < a := by
  cases Classical.em (b < a) with
  | inl z => exact z
  | inr z => exact absurd (str_tri h z) n
theorem insP_perm (x : List Nat) (k : Int) : ∀ m : Mn, (insP x k m).Perm (m ++ [(x, k)])
  | [] => List.Perm.refl _
  | p :: m => by
    unfold insP
    by_cases c : x < p.1
    · rw [if_pos c]
      exact (List.perm_append_comm (l₁ := [(x, k)]) (l₂ := p :: m))
    · rw [if_neg c]
      exact (insP_perm x k m).cons p
theorem insP_up (x : List Nat) (k : Int) : ∀ m : Mn, (m.Pairwise fun p q => p.1 < q.1) → x ∉ m.map (·.1) → (insP x k m).Pairwise fun p q => p.1 < q.1
  | [], _, _ => List.pairwise_singleton _ _
  | p :: m, h, n => by
    rw [List.pairwise_cons] at h
    rw [List.map_cons, List.mem_cons, not_or] at n
    unfold insP
    by_cases c : x < p.1
    · rw [if_pos c]
      refine List.pairwise_cons.mpr ⟨fun q hq => ?_, List.pairwise_cons.mpr h⟩
      rcases List.mem_cons.mp hq with rfl | hq
      · exact c
      · exact List.lt_trans c (h.1 q hq)
    · rw [if_neg c]
      refine List.pairwise_cons.mpr ⟨fun q hq => ?_, insP_up x k m h.2 n.2⟩
      rcases List.mem_append.mp ((insP_perm x k m).mem_iff.mp hq) with hq | hq
      · exact h.1 q hq
      · rw [List.mem_singleton.mp hq]
        exact ltN_tri c n.1
theorem rest_none (x : List Nat) : ∀ m : Mn, x ∉ m.map (·.1) → restOf m x = m
  | [], _ => rfl
  | p :: m, n => by
    rw [List.map_cons, List.mem_cons, not_or] at n
    unfold restOf
    rw [List.filter_cons_of_pos (by simp; exact fun z => n.1 z.symm)]
    exact congrArg (p :: ·) (rest_none x m n.2)
theorem up_notin {p : Pr} {m : Mn} (h : ∀ q ∈ m, p.1 < q.1) : p.1 ∉ m.map (·.1) := fun z => by
  obtain ⟨q, hq, e⟩ := List.mem_map.mp z
  have := h q hq
  rw [e] at this
  exact ltN_irrefl _ this
theorem ins_rest {x : List Nat} {k : Int} : ∀ {m : Mn}, (m.Pairwise fun p q => p.1 < q.1) → fnd m x = some k → insP x k (restOf m x) = m
  | [], _, e => by cases e
  | p :: m, h, e => by
    rw [List.pairwise_cons] at h
    simp only [fnd] at e
    by_cases c : p.1 = x
    · rw [if_pos c] at e
      have e' : p.2 = k := Option.some.inj e
      have hr : restOf (p :: m) x = m := by
        unfold restOf
        rw [List.filter_cons_of_neg (by simp [c])]
        exact rest_none x m (by rw [← c]; exact up_notin h.1)
      rw [hr]
      have hp : p = (x, k) := Prod.ext c e'
      subst hp
      cases m with
      | nil => rfl
      | cons q m => unfold insP; rw [if_pos (h.1 q List.mem_cons_self)]
    · rw [if_neg c] at e
      have hr : restOf (p :: m) x = p :: restOf m x := by
        unfold restOf
        rw [List.filter_cons_of_pos (by simp [c])]
      rw [hr]
      have lt : p.1 < x := h.1 (x, k) (fnd_some e)
      unfold insP
      rw [if_neg (fun z => ltN_irrefl _ (List.lt_trans z lt)), ins_rest h.2 e]
theorem join_rest {most : Int} {m : Mn} (h : Mono most m) (x : List Nat) : joinM x (powOf m x) (restOf m x) = m := by
  unfold joinM powOf
  cases e : fnd m x with
  | none =>
    rw [Option.getD_none, if_pos rfl]
    exact rest_none x m (fnd_none.mp e)
  | some k =>
    have := (h.nm _ (fnd_some e)).2.1
    rw [Option.getD_some, if_neg (by show ¬ k = 0; simp only at this; omega)]
    exact ins_rest h.up e
theorem rest_notin (m : Mn) (x : List Nat) : x ∉ (restOf m x).map (·.1) := fun z => by
  obtain ⟨p, hp, e⟩ := List.mem_map.mp z
  have := (List.mem_filter.mp hp).2
  simp [e] at this
theorem prU_as (p q : Pr) (h : p.1 < q.1) (k : q.1 < p.1) : False := ltN_irrefl _ (List.lt_trans h k)
theorem sorted_ins {x : List Nat} {k : Int} {m : Mn} (hx : Nm x) (hm : ∀ p ∈ m, Nm p.1) (up : m.Pairwise fun p q => p.1 < q.1) (nx : x ∉ m.map (·.1)) (hl : m.length < 1000) : cSorted [.lst ((m ++ [(x, k)]).map encP)] = .ok (.lst ((insP x k m).map encP)) := by
  obtain ⟨r, e, pm, ru⟩ := sorted_P (m := m ++ [(x, k)]) (fun p hp => by
    rcases List.mem_append.mp hp with hp | hp
    · exact hm p hp
    · rw [List.mem_singleton.mp hp]; exact hx) (by
    rw [List.map_append, List.nodup_append]
    refine ⟨up_nodup up, by simp, fun a ha b hb e => ?_⟩
    simp at hb
    subst hb; subst e
    exact nx ha) (by simp; omega)
  rw [e, eq_of_up (R := fun p q : Pr => p.1 < q.1) prU_as ru (insP_up x k m up nx) fun p => by rw [pm.mem_iff, (insP_perm x k m).mem_iff]]
/-! forms of lists without equal products -/
theorem put_new {κ ν : Type} [DecidableEq κ] : ∀ {l : List (κ × ν)} {k : κ} {v : ν}, k ∉ l.map (·.1) → put l k v = l ++ [(k, v)]
  | [], _, _, _ => rfl
  | q :: l, k, v, n => by
    rw [List.map_cons, List.mem_cons, not_or] at n
    show (if q.1 = k then _ else _) = _
    rw [if_neg (fun z => n.1 z.symm), put_new n.2]; rfl
theorem tot_id : ∀ (ps l : List Tm), ((l ++ ps).map (·.1)).Nodup → tot l ps = l ++ ps
  | [], l, _ => by simp [tot]
  | q :: ps, l, h => by
    have nq : q.1 ∉ l.map (·.1) := fun z => by
      rw [List.map_append, List.nodup_append] at h
      exact h.2.2 _ z _ (by rw [List.map_cons]; exact List.mem_cons_self) rfl
    show tot (put l q.1 ((fnd l q.1).getD 0 + q.2)) ps = _
    rw [put_new nq, fnd_none.mpr nq, Option.getD_none, Int.zero_add, tot_id ps _ (by simpa using h)]
    simp
theorem formOf_perm {ps : List Tm} (nd : (ps.map (·.1)).Nodup) (nz : ∀ q ∈ ps, q.2 ≠ 0) : (formOf ps).Perm ps := by
  unfold formOf
  have e : tot [] ps = ps := tot_id ps [] (by simpa using nd)
  rw [e, List.filter_eq_self.mpr fun q hq => ?_]
  · exact List.mergeSort_perm _ _
  · exact decide_eq_true (nz q ((List.mergeSort_perm _ _).mem_iff.mp hq))
theorem sumOf_perm {κ : Type} [DecidableEq κ] {a b : List (κ × Int)} (h : a.Perm b) (m : κ) : sumOf a m = sumOf b m := by
  induction h with
  | nil => rfl
  | cons x _ ih => simp only [sumOf, ih]
  | swap x y l => simp only [sumOf]; split <;> split <;> omega
  | trans _ _ h1 h2 => rw [h1, h2]
theorem formOf_eq_perm {most : Int} {a b : List Tm} (ha : ∀ q ∈ a, Mono most q.1) (h : a.Perm b) : formOf a = formOf b := by
  obtain ⟨f1, m1, _⟩ := form_is ha
  obtain ⟨f2, m2, _⟩ := form_is (ps := b) fun q hq => ha q (h.mem_iff.mpr hq)
  exact eq_of_up ltM_as f1.up f2.up fun q => by rw [m1, m2, sumOf_perm h]
theorem Form.nodup {most : Int} {f : List Tm} (h : Form most f) : (f.map (·.1)).Nodup := by
  refine List.pairwise_map.mpr (h.up.imp fun {a b} lt e => ?_)
  rw [e] at lt
  exact ltM_as b b lt lt
theorem formOf_id {most : Int} {f : List Tm} (h : Form most f) : formOf f = f := by
  obtain ⟨f1, _, _⟩ := form_is h.mono
  have pm := formOf_perm h.nodup h.nz
  exact eq_of_up ltM_as f1.up h.up fun q => pm.mem_iff
/-! the parts -/
theorem part_nodup {most : Int} {f : List Tm} (h : Form most f) (x : List Nat) (k : Int) : ((partOf x f k).map (·.1)).Nodup := by
  unfold partOf
  rw [List.map_map]
  have nd : ((f.filter fun q => decide (powOf q.1 x = k)).map (·.1)).Nodup := h.nodup.sublist ((List.filter_sublist).map _)
  refine List.pairwise_map.mpr ((List.pairwise_map.mp nd).imp_of_mem fun {a b} ha hb ne e => ne ?_)
  have a1 := List.mem_filter.mp ha
  have b1 := List.mem_filter.mp hb
  have pa : powOf a.1 x = k := of_decide_eq_true a1.2
  have pb : powOf b.1 x = k := of_decide_eq_true b1.2
  have e' : restOf a.1 x = restOf b.1 x := e
  rw [← join_rest (h.mono a a1.1) x, ← join_rest (h.mono b b1.1) x, pa, pb, e']
theorem part_perm {most : Int} {f : List Tm} (h : Form most f) (x : List Nat) (k : Int) : (formOf (partOf x f k)).Perm (partOf x f k) :=
  formOf_perm (part_nodup h x k) fun q hq => by
    obtain ⟨r, hr, rfl⟩ := List.mem_map.mp hq
    exact h.nz r (List.mem_filter.mp hr).1
def joinQ (x : List Nat) (k : Int) (q : Tm) : Tm := (joinM x k q.1, q.2)
theorem part_join {most : Int} {f : List Tm} (h : Form most f) (x : List Nat) (k : Int) : ((formOf (partOf x f k)).map (joinQ x k)).Perm (f.filter fun q => decide (powOf q.1 x = k)) := by
  refine ((part_perm h x k).map _).trans ?_
  unfold partOf
  rw [List.map_map]
  have : (f.filter fun q => decide (powOf q.1 x = k)).map (joinQ x k ∘ rowQ x) = f.filter fun q => decide (powOf q.1 x = k) := by
    refine (List.map_congr_left fun q hq => ?_).trans (List.map_id' _)
    have q1 := List.mem_filter.mp hq
    have pq : powOf q.1 x = k := of_decide_eq_true q1.2
    show (joinM x k (restOf q.1 x), q.2) = q
    rw [← pq, join_rest (h.mono q q1.1) x]
  rw [this]
theorem filter_lt_perm {α : Type} (g : α → Int) (f : List α) : ∀ n : Nat, ((List.range n).flatMap fun (k : Nat) => f.filter fun q => decide (g q = k)).Perm (f.filter fun q => decide (0 ≤ g q ∧ g q < n))
  | 0 => by
    rw [List.range_zero, List.flatMap_nil, List.filter_eq_nil_iff.mpr fun q _ => by simp]
  | n + 1 => by
    rw [List.range_succ, List.flatMap_append]
    refine (List.Perm.append (filter_lt_perm g f n) (List.Perm.refl _)).trans ?_
    rw [List.flatMap_cons, List.flatMap_nil, List.append_nil]
    clear filter_lt_perm
    induction f with
    | nil => exact List.Perm.refl _
    | cons q f ih =>
      by_cases c1 : 0 ≤ g q ∧ g q < n
      · rw [List.filter_cons_of_pos (by simp [c1]), List.filter_cons_of_neg (p := fun q => decide (g q = (n : Int))) (by simp; omega), List.filter_cons_of_pos (by simp; omega)]
        exact ih.cons q
      · by_cases c2 : g q = n
        · rw [List.filter_cons_of_neg (p := fun q => decide (0 ≤ g q ∧ g q < (n : Int))) (by simp; omega), List.filter_cons_of_pos (p := fun q => decide (g q = (n : Int))) (by simp [c2]), List.filter_cons_of_pos (by simp; omega)]
          exact List.perm_middle.trans (ih.cons q)
        · rw [List.filter_cons_of_neg (by simp; omega), List.filter_cons_of_neg (by simp [c2]), List.filter_cons_of_neg (by simp; omega)]
          exact ih
noncomputable def joined (x : List Nat) (f : List Tm) (n : Nat) : List Tm := (List.range n).flatMap fun (k : Nat) => (formOf (partOf x f k)).map (joinQ x k)
theorem joined_perm {most : Int} {f : List Tm} (h : Form most f) (x : List Nat) : (joined x f (topOf x f + 1).toNat).Perm f := by
  have h1 : (joined x f (topOf x f + 1).toNat).Perm ((List.range (topOf x f + 1).toNat).flatMap fun (k : Nat) => f.filter fun q => decide (powOf q.1 x = k)) := by
    unfold joined
    generalize List.range (topOf x f + 1).toNat = l
    induction l with
    | nil => exact List.Perm.refl _
    | cons k l ih =>
      rw [List.flatMap_cons, List.flatMap_cons]
      exact List.Perm.append (part_join h x k) ih
  refine h1.trans ((filter_lt_perm (fun q => powOf q.1 x) f _).trans ?_)
  rw [List.filter_eq_self.mpr fun q hq => ?_]
  have p1 := powOf_nn (m := q.1) (fun p hp => by have := ((h.mono q hq).nm p hp).2.1; omega) x
  have p2 : powOf q.1 x ≤ topOf x f := pow_le_top x f 0 q hq
  exact decide_eq_true ⟨p1, by omega⟩
theorem joined_form {most : Int} {f : List Tm} (h : Form most f) (x : List Nat) : formOf (joined x f (topOf x f + 1).toNat) = f := by
  have pm := joined_perm h x
  rw [formOf_eq_perm (most := most) (fun q hq => h.mono q (pm.mem_iff.mp hq)) pm, formOf_id h]
theorem top_part {most : Int} {f : List Tm} (h : Form most f) (x : List Nat) (ht : topOf x f ≠ 0) : formOf (partOf x f (topOf x f)) ≠ [] := fun e => by
  have pm := part_perm h x (topOf x f)
  rw [e] at pm
  have e2 : partOf x f (topOf x f) = [] := pm.nil_eq.symm
  have key : ∀ (f : List Tm) (t : Int), f.foldl (fun t q => max t (powOf q.1 x)) t = t ∨ ∃ q ∈ f, powOf q.1 x = f.foldl (fun t q => max t (powOf q.1 x)) t := by
    intro f
    induction f with
    | nil => intro t; exact .inl rfl
    | cons q f ih =>
      intro t
      rw [List.foldl_cons]
      rcases ih (max t (powOf q.1 x)) with z | ⟨r, hr, z⟩
      · by_cases c : max t (powOf q.1 x) = t
        · rw [c] at z ⊢; exact .inl z
        · refine .inr ⟨q, List.mem_cons_self, ?_⟩
          rw [z]; omega
      · exact .inr ⟨r, List.mem_cons_of_mem _ hr, z⟩
  rcases key f 0 with z | ⟨q, hq, z⟩
  · exact ht z
  · have : rowQ x q ∈ partOf x f (topOf x f) := List.mem_map.mpr ⟨q, List.mem_filter.mpr ⟨hq, decide_eq_true z⟩, rfl⟩
    rw [e2] at this
    exact absurd this List.not_mem_nil
theorem dIx_lastT (xs : List D) (d : D) : dIx (.tup (xs ++ [d])) (.int (-1)) = .ok d := by
  show (match atI (xs ++ [d]) (-1) with | some d => Out.ok d | none => .stuck) = _
  rw [atI_last]
theorem part_no {x : List Nat} {f : List Tm} {k : Int} : ∀ q ∈ formOf (partOf x f k), x ∉ q.1.map (·.1) := fun q hq => by
  obtain ⟨r, hr, e⟩ := formOf_key hq
  obtain ⟨s, _, rfl⟩ := List.mem_map.mp hr
  rw [← e]
  exact rest_notin s.1 x
theorem part_few {x : List Nat} {f : List Tm} {k : Int} {b : Nat} (h : ∀ q ∈ f, q.1.length ≤ b) : ∀ q ∈ formOf (partOf x f k), q.1.length ≤ b := fun q hq => by
  obtain ⟨r, hr, e⟩ := formOf_key hq
  obtain ⟨s, hs, rfl⟩ := List.mem_map.mp hr
  rw [← e]
  exact Nat.le_trans (List.length_filter_le _ _) (h s (List.mem_filter.mp hs).1)
theorem joined_succ (x : List Nat) (f : List Tm) (k : Nat) : joined x f (k + 1) = joined x f k ++ (formOf (partOf x f k)).map (joinQ x k) := by
  unfold joined
  rw [List.range_succ, List.flatMap_append, List.flatMap_cons, List.flatMap_nil, List.append_nil]
theorem filt_len {α : Type} (g : α → Int) (f : List α) (n : Nat) : ((List.range n).flatMap fun (k : Nat) => f.filter fun q => decide (g q = k)).length ≤ f.length := by
  rw [(filter_lt_perm g f n).length_eq]
  exact List.length_filter_le _ _
theorem joined_len {most : Int} {f : List Tm} (h : Form most f) (x : List Nat) (n : Nat) : (joined x f n).length ≤ f.length := by
  refine Nat.le_trans (Nat.le_of_eq ?_) (filt_len (fun q => powOf q.1 x) f n)
  unfold joined
  generalize List.range n = l
  induction l with
  | nil => rfl
  | cons k l ih => rw [List.flatMap_cons, List.flatMap_cons, List.length_append, List.length_append, ih, (part_join h x k).length_eq]
theorem cutD_take {α : Type} (l : List α) (k : Nat) : cutD l none (some (k : Int)) = l.take k := by
  unfold cutD
  rw [HT.sIx_none, HT.sIx_nat, List.drop_zero, Nat.sub_zero]
  by_cases h : k ≤ l.length
  · rw [Nat.min_eq_left h]
  · rw [Nat.min_eq_right (by omega), List.take_of_length_le (Nat.le_refl _), List.take_of_length_le (by omega)]
theorem shaped_Ns {ks : List (List Nat)} (h : ∀ k ∈ ks, Nm k) : SeqAt.shaped (toPy (.lst (ks.map encN))) = true := by
  have h1 : PyData.canLayAll0 (toPys (ks.map encN)) = true := by
    induction ks with
    | nil => rfl
    | cons k ks ih =>
      show ((PyData.canLay0 (.str (S k))) && PyData.canLayAll0 (toPys (ks.map encN))) = true
      rw [ih fun x hx => h x (List.mem_cons_of_mem _ hx), show PyData.canLay0 (.str (S k)) = true from strOk_nm (h k List.mem_cons_self)]; rfl
  have h2 : PyData.depthAll (toPys (ks.map encN)) = 0 := by
    clear h h1
    induction ks with
    | nil => rfl
    | cons k ks ih =>
      show max (PyData.depth (.str (S k))) (PyData.depthAll (toPys (ks.map encN))) = 0
      rw [ih]; rfl
  unfold SeqAt.shaped
  rw [show toPy (.lst (ks.map encN)) = .list (toPys (ks.map encN)) from rfl]
  simp only [PyData.canLay0, h1, PyData.depth, h2]
  rfl
theorem Form.take {most : Int} {f : List Tm} (h : Form most f) (k : Nat) : Form most (f.take k) :=
  ⟨fun q hq => h.mono q (List.mem_of_mem_take hq), fun q hq => h.nz q (List.mem_of_mem_take hq), h.up.sublist (List.take_sublist k f)⟩
/-! the greatest divisor, lean -/
theorem sWhile_t {t : Env → Out Bool} {b : Env → SO} {ρ ρ' : Env} (h : t ρ = .ok true) (e : (b ρ).cont = .nx ρ') (k : sWhile t b ρ' ≠ .stuck) : sWhile t b ρ = sWhile t b ρ' := by
  obtain ⟨n, en⟩ := sWhile_some k
  have e1 : whileN t b (n + 1) ρ = sWhile t b ρ' := by
    unfold whileN
    rw [h]
    show (b ρ).turn _ = _
    rw [turn_of_cont e, en]
  rw [← e1]
  exact sWhile_eq (by rw [e1]; exact k)
theorem sWhile_f {t : Env → Out Bool} {b : Env → SO} {ρ : Env} (h : t ρ = .ok false) : sWhile t b ρ = .nx ρ := by
  have e1 : whileN t b 1 ρ = .nx ρ := by
    unfold whileN
    rw [h]; rfl
  rw [← e1]
  exact sWhile_eq (by rw [e1]; intro z; cases z)
theorem divisor_eq : ∀ (b a : Nat), m_divisor [.int a, .int b] = .ok (.int (Nat.gcd b a)) := by
  have key : ∀ (b a : Nat), sWhile (tOf (PD.e2 dNe (eV 1) (eC (.int 0)))) b_divisor_1 [some (.int a), some (.int b)] = .nx [some (.int (Nat.gcd b a)), some (.int 0)] := by
    intro b
    induction b using Nat.strongRecOn with
    | _ b ih =>
      intro a
      cases b with
      | zero =>
        rw [sWhile_f (by walk_at "wk"; rfl), Nat.gcd_zero_left]; rfl
      | succ b =>
        have h1 := ih (a % (b + 1)) (Nat.mod_lt _ (Nat.succ_pos _)) (b + 1)
        have h2 : (b_divisor_1 [some (.int a), some (.int ((b + 1 : Nat) : Int))]).cont = .nx [some (.int ((b + 1 : Nat) : Int)), some (.int ((a % (b + 1) : Nat) : Int))] := by
          unfold b_divisor_1
          walk_at "wk"
          refine chkS_go (by omega) ?_
          rfl
        rw [sWhile_t (by walk_at "wk"; rw [decide_eq_false (by omega)]; rfl) h2 (by rw [h1]; intro z; cases z), h1, Nat.gcd_succ]
  intro b a
  unfold m_divisor b_divisor
  walk_at "wk"
  rw [key b a]
  walk_at "wk"
def gcdN (f : List Tm) (t : Nat) : Nat := f.foldl (fun t q => Nat.gcd q.2.natAbs t) t
theorem gcdN_dvd0 : ∀ (f : List Tm) (t : Nat), gcdN f t ∣ t
  | [], t => Nat.dvd_refl t
  | q :: f, t => Nat.dvd_trans (gcdN_dvd0 f _) (Nat.gcd_dvd_right _ _)
theorem gcdN_dvd : ∀ (f : List Tm) (t : Nat), ∀ q ∈ f, gcdN f t ∣ q.2.natAbs
  | q :: f, t, r, hr => by
    rcases List.mem_cons.mp hr with rfl | hr
    · exact Nat.dvd_trans (gcdN_dvd0 f _) (Nat.gcd_dvd_left _ _)
    · exact gcdN_dvd f _ r hr
theorem gcdN_pos : ∀ (f : List Tm) (t : Nat), f ≠ [] → (∀ q ∈ f, q.2 ≠ 0) → 0 < gcdN f t
  | q :: f, t, _, h => by
    show 0 < gcdN f (Nat.gcd q.2.natAbs t)
    have h0 : 0 < Nat.gcd q.2.natAbs t := Nat.gcd_pos_of_pos_left _ (by have := h q List.mem_cons_self; omega)
    cases f with
    | nil => exact h0
    | cons r f => exact gcdN_pos (r :: f) _ (List.cons_ne_nil _ _) fun s hs => h s (List.mem_cons_of_mem _ hs)
def leanF (f : List Tm) : List Tm := if gcdN f 0 < 2 then f else f.map fun q => (q.1, q.2 / (gcdN f 0 : Int))
theorem lean_1 (x0 : Option D) : ∀ (f : List Tm) (t : Nat) (x2 x3 : Option D), ∃ x2' x3', forL (gT [gN 2, gN 3]) b_lean_1 (f.map encQ) [x0, some (.int t), x2, x3] = .nx [x0, some (.int (gcdN f t)), x2', x3']
  | [], t, x2, x3 => ⟨x2, x3, rfl⟩
  | q :: f, t, x2, x3 => by
    obtain ⟨x2', x3', e⟩ := lean_1 x0 f (Nat.gcd q.2.natAbs t) (some (encM q.1)) (some (.int q.2))
    refine ⟨x2', x3', ?_⟩
    rw [show gcdN (q :: f) t = gcdN f (Nat.gcd q.2.natAbs t) from rfl, ← e, List.map_cons]
    refine forL_step ?_
    unfold b_lean_1
    rw [show encQ q = .tup [encM q.1, .int q.2] from rfl]
    walk_at "wk"
    rw [divisor_eq]
    walk_at "wk"
theorem gcd_sz {f : List Tm} {b : Nat} (hf : ∀ q ∈ f, Sz b q.2 ∧ q.2 ≠ 0) (hn : f ≠ []) : Sz b (gcdN f 0 : Int) := by
  cases f with
  | nil => exact absurd rfl hn
  | cons q f =>
    have h1 := gcdN_dvd (q :: f) 0 q List.mem_cons_self
    have h2 := hf q List.mem_cons_self
    have h3 := Nat.le_of_dvd (by have := h2.2; omega) h1
    unfold Sz at *
    have := h2.1
    simp only [Int.natAbs_natCast]
    omega
theorem lean_eq {f : List Tm} {b : Nat} (hb : b ≤ 9000) (hf : ∀ q ∈ f, Sz b q.2 ∧ q.2 ≠ 0) (hl : f.length ≤ 10000) : m_lean [.tup (f.map encQ)] = .ok (.tup ((leanF f).map encQ)) := by
  obtain ⟨x2, x3, e⟩ := lean_1 (some (.tup (f.map encQ))) f 0 none none
  have e' : forL (gT [gN 2, gN 3]) b_lean_1 (f.map encQ) [some (.tup (f.map encQ)), some (.int 0), none, none] = .nx [some (.tup (f.map encQ)), some (.int (gcdN f 0)), x2, x3] := e
  unfold m_lean b_lean leanF
  walk_at "wk"
  rw [e']
  walk_at "wk"
  by_cases c : gcdN f 0 < 2
  · rw [if_pos (by omega), if_pos c]
  · rw [if_neg (by omega), if_neg c]
    have hn : f ≠ [] := fun z => by subst z; exact c (by decide)
    have sz := gcd_sz hf hn
    have lc : lcL (gT [gN 2, gN 3]) bYes (eA mkTup (aC (eV 2) (aC (PD.e2 dDiv (eV 3) (eV 1)) aN))) [some (.tup (f.map encQ)), some (.int (gcdN f 0)), none, none] (f.map encQ) = .ok (f.map fun q => encQ (q.1, q.2 / (gcdN f 0 : Int))) := by
      refine lcL_map encQ _ f fun q hq => ?_
      rw [show encQ q = .tup [encM q.1, .int q.2] from rfl]
      walk_at "wk"
      exact chk_go (cdiv_sz (by omega) sz hb) rfl
    rw [lc, List.map_map]
    walk_at "wk"
    refine chk_go (len_ok (by rw [List.length_map]; omega)) rfl
/-- the law's own share -/
theorem share_while : ∀ (b a : Nat) (x0 x2 x3 : Option D), sWhile (tOf (PD.e2 dNe (eV 4) (eC (.int 0)))) b__law_share_1 [x0, some (.int a), x2, x3, some (.int b)] = .nx [x0, some (.int (Nat.gcd b a)), x2, x3, some (.int 0)] := by
  intro b
  induction b using Nat.strongRecOn with
  | _ b ih =>
    intro a x0 x2 x3
    cases b with
    | zero => rw [sWhile_f (by walk_at "wk"; rfl), Nat.gcd_zero_left]; rfl
    | succ b =>
      have h1 := ih (a % (b + 1)) (Nat.mod_lt _ (Nat.succ_pos _)) (b + 1) x0 x2 x3
      have h2 : (b__law_share_1 [x0, some (.int a), x2, x3, some (.int ((b + 1 : Nat) : Int))]).cont = .nx [x0, some (.int ((b + 1 : Nat) : Int)), x2, x3, some (.int ((a % (b + 1) : Nat) : Int))] := by
        unfold b__law_share_1
        walk_at "wk"
        refine chkS_go (by omega) ?_
        rfl
      rw [sWhile_t (by walk_at "wk"; rw [decide_eq_false (by omega)]; rfl) h2 (by rw [h1]; intro z; cases z), h1, Nat.gcd_succ]
theorem share_1 (x0 : Option D) : ∀ (f : List Tm) (t : Nat) (x2 x3 x4 : Option D), ∃ x2' x3' x4', forL (gT [gN 2, gN 3]) b__law_share_2 (f.map encQ) [x0, some (.int t), x2, x3, x4] = .nx [x0, some (.int (gcdN f t)), x2', x3', x4']
  | [], t, x2, x3, x4 => ⟨x2, x3, x4, rfl⟩
  | q :: f, t, x2, x3, x4 => by
    obtain ⟨x2', x3', x4', e⟩ := share_1 x0 f (Nat.gcd q.2.natAbs t) (some (encM q.1)) (some (.int q.2)) (some (.int 0))
    refine ⟨x2', x3', x4', ?_⟩
    rw [show gcdN (q :: f) t = gcdN f (Nat.gcd q.2.natAbs t) from rfl, ← e, List.map_cons]
    refine forL_step ?_
    unfold b__law_share_2
    rw [show encQ q = .tup [encM q.1, .int q.2] from rfl]
    walk_at "wk"
    rw [share_while]
    rfl
theorem share_eq (f : List Tm) : m__law_share [.tup (f.map encQ)] = .ok (.int (gcdN f 0)) := by
  obtain ⟨x2, x3, x4, e⟩ := share_1 (some (.tup (f.map encQ))) f 0 none none none
  have e' : forL (gT [gN 2, gN 3]) b__law_share_2 (f.map encQ) [some (.tup (f.map encQ)), some (.int 0), none, none, none] = .nx [some (.tup (f.map encQ)), some (.int (gcdN f 0)), x2, x3, x4] := e
  unfold m__law_share b__law_share
  walk_at "wk"
  rw [e']
  walk_at "wk"
theorem div_mul_dvd {a : Int} {g : Nat} (h : g ∣ a.natAbs) : a / (g : Int) * g = a := Int.ediv_mul_cancel (Int.ofNat_dvd_left.mpr h)
theorem leanF_form {most : Int} {f : List Tm} (h : Form most f) : Form most (leanF f) := by
  unfold leanF
  by_cases c : gcdN f 0 < 2
  · rw [if_pos c]; exact h
  · rw [if_neg c]
    refine ⟨fun q hq => ?_, fun q hq => ?_, ?_⟩
    · obtain ⟨r, hr, rfl⟩ := List.mem_map.mp hq; exact h.mono r hr
    · obtain ⟨r, hr, rfl⟩ := List.mem_map.mp hq
      intro z
      have z' : r.2 / (gcdN f 0 : Int) = 0 := z
      have := div_mul_dvd (gcdN_dvd f 0 r hr)
      rw [z', Int.zero_mul] at this
      exact h.nz r hr this.symm
    · rw [List.pairwise_map]; exact h.up
theorem leanF_at {f : List Tm} (hn : ∀ q ∈ f, q.2 ≠ 0) (k : Nat) (q : Tm) (e : f[k]? = some q) : ∃ z, (leanF f)[k]? = some (q.1, z) ∧ z * (gcdN f 0 : Int) = q.2 := by
  have hq : q ∈ f := List.mem_of_getElem? e
  unfold leanF
  by_cases c : gcdN f 0 < 2
  · rw [if_pos c]
    have := gcdN_pos f 0 (fun z => by subst z; cases hq) hn
    exact ⟨q.2, e, by rw [show gcdN f 0 = 1 by omega]; simp⟩
  · rw [if_neg c, List.getElem?_map, e]
    exact ⟨q.2 / (gcdN f 0 : Int), rfl, div_mul_dvd (gcdN_dvd f 0 q hq)⟩
theorem leanF_len (f : List Tm) : (leanF f).length = f.length := by
  unfold leanF
  split
  · rfl
  · rw [List.length_map]
theorem two_nat (j : Nat) : (((2 ^ j : Nat) : Int)) = (2 : Int) ^ j := by simp
theorem flo_val {p q r s k : Int} (r0 : 0 ≤ r) (s0 : 0 < s) (k0 : 0 ≤ k) (k1 : k * k ≤ q * q * r) (k2 : q * q * r < (k + 1) * (k + 1)) :
    (flo p q r s k : Re) ≤ val (p, q, r, s) ∧ val (p, q, r, s) < (flo p q r s k : Re) + 1 := by
  obtain ⟨h1, h2⟩ := flo_law (p := p) r0 s0 k0 k1 k2
  generalize flo p q r s k = f at *
  rw [← sign_law r0, Re.one_sgn r0] at h1 h2
  have hv := val_mul (x := (p, q, r, s)) s0
  have c1 := Re.cast_pos' s0
  simp only [] at hv
  generalize val (p, q, r, s) = X at *
  have e1 : (((p - f * s : Int) : Re) + (q : Re) * Re.root r) = (s : Re) * (X - f) := by
    simp only [Re.cast_sub, Re.cast_mul]; grind
  have e2 : (((p - (f + 1) * s : Int) : Re) + (q : Re) * Re.root r) = (s : Re) * (X - (f + 1)) := by
    simp only [Re.cast_sub, Re.cast_mul, Re.cast_add, Re.cast_1]; grind
  rw [e1, Re.sgn_scale c1] at h1
  rw [e2, Re.sgn_scale c1] at h2
  constructor
  · rcases Re.sgn_cases (X - (f : Re)) with ⟨e, q⟩ | ⟨e, q⟩ | ⟨e, q⟩
    · grind
    · grind
    · rw [e] at h1; exact absurd h1 (by decide)
  · rcases Re.sgn_cases (X - ((f : Re) + 1)) with ⟨e, q⟩ | ⟨e, q⟩ | ⟨e, q⟩
    · rw [e] at h2; exact absurd h2 (by decide)
    · rw [e] at h2; exact absurd h2 (by decide)
    · grind
/-- the whole number below; p and q may be large -/
theorem floor_big {a n : Nat} {p q r s : Int} (hp : Sz a p) (hq : Sz a q) (hr : Sz n r) (hs : Sz n s) (r0 : 0 ≤ r) (s0 : 0 < s) (la : a ≤ 30000) (ln : n ≤ 3000) :
    ∃ f : Int, m_floor_of [.tup [.int p, .int q, .int r, .int s]] = .ok (.int f) ∧ Sz (a + n + 4) f ∧ (f : Re) ≤ val (p, q, r, s) ∧ val (p, q, r, s) < (f : Re) + 1 := by
  have z := (hq.mul hq).mul hr
  have n0 : 0 ≤ q * q * r := Int.mul_nonneg (sq_nn q) r0
  have lt : q * q * r < 2 ^ (a + a + n) := by
    have h2 : ((2 ^ (a + a + n) : Nat) : Int) = (2 : Int) ^ (a + a + n) := by simp
    unfold Sz at z
    omega
  obtain ⟨k, e, k0, k1, k2⟩ := whole_root_eq n0 lt (by omega)
  have sk : Sz (a + n + 1) k := by
    have h1 : k * k < 2 ^ (a + n + 1) * 2 ^ (a + n + 1) := by
      have h3 : (2 : Int) ^ (a + a + n) ≤ 2 ^ (a + n + 1) * 2 ^ (a + n + 1) := by
        rw [← Int.pow_add, ← two_nat, ← two_nat]
        exact Int.ofNat_le.mpr (Nat.pow_le_pow_right (by decide) (by omega))
      omega
    have h2 := sq_lt_rev (a := k) (by have := two_pow_int (a + n + 1); omega) h1
    rw [← two_nat] at h2
    unfold Sz
    omega
  have d1 := cmul_sz hq hq (by omega)
  have d2 := cmul_sz (hq.mul hq) hr (by omega)
  have d3 := cmul_sz sk sk (by omega)
  have d4 : ∀ i, CDivW i s := fun i => cdiv_sz s0 hs (by omega)
  obtain ⟨v1, v2⟩ := flo_val (p := p) r0 s0 k0 k1 k2
  refine ⟨flo p q r s k, ?_, (flo_sz (n := a + n + 1) (hp.mono (by omega)) sk).mono (by omega), v1, v2⟩
  have d5 := d4 (p + k)
  have d6 := d4 (p - k)
  have d7 := d4 (p - (k + 1))
  clear z sk k1 k2 lt n0 hp hq hr hs v1 v2 d4 k0
  unfold m_floor_of b_floor_of flo
  by_cases c : 0 ≤ q
  · walk_at "go"
  · by_cases c2 : k * k < q * q * r
    · walk_at "go"
    · walk_at "go"
theorem above_eq {n e : Nat} {x : N4} (h : GoodX n x) (hn : n ≤ 2000) (he : e ≤ 26000) :
    ∃ t : Int, m_above [encX x, .int (2 ^ e)] = .ok (.int t) ∧ Sz (2 * n + e + 6) t ∧ (t : Re) - 1 ≤ val x * (((2 ^ e : Nat) : Int) : Re) ∧ val x * (((2 ^ e : Nat) : Int) : Re) < (t : Re) := by
  obtain ⟨p, q, r, s⟩ := x
  obtain ⟨r0, s0, zp, zq, zr, zs⟩ := h
  simp only [] at *
  have ze := sz_2pow e
  have k1 := cmul_sz zp ze (by omega)
  have k2 := cmul_sz zq ze (by omega)
  obtain ⟨f, e1, zf, v1, v2⟩ := floor_big (zp.mul ze) (zq.mul ze) zr zs r0 s0 (by omega) (by omega)
  have hv := val_mul (x := (p, q, r, s)) s0
  have hw := val_mul (x := (p * 2 ^ e, q * 2 ^ e, r, s)) s0
  have c1 := Re.cast_pos' s0
  simp only [] at hv hw
  have ev : val (p * 2 ^ e, q * 2 ^ e, r, s) = val (p, q, r, s) * (((2 ^ e : Nat) : Int) : Re) := by
    rw [← two_nat] at *
    generalize ((2 ^ e : Nat) : Int) = E at *
    simp only [Re.cast_mul] at hw
    generalize val (p * E, q * E, r, s) = W at *
    generalize val (p, q, r, s) = V at *
    have := Re.z_of (a := (s : Re)) (x := W - V * E) c1 (by grind)
    grind
  rw [ev] at v1 v2
  refine ⟨f + 1, ?_, (zf.add ((show Sz 1 1 by unfold Sz; decide).mono (show 1 ≤ n + (e + 1) + n + 4 by omega))).mono (by omega), ?_, ?_⟩
  · clear zf v1 v2 ev hw hv zp zq zr zs ze r0 s0 c1
    generalize (2 : Int) ^ e = E at *
    unfold m_above b_above
    rw [show encX (p, q, r, s) = .tup [.int p, .int q, .int r, .int s] from rfl]
    walk_at "go"
  · rw [Re.cast_add, Re.cast_1]; grind
  · rw [Re.cast_add, Re.cast_1]; exact v2
theorem val_frac (t c : Int) (h : 0 < c) : val (t, 0, 0, c) * (c : Re) = (t : Re) := by
  have := val_mul (x := (t, 0, 0, c)) h
  simp only [Re.cast_0] at this
  grind
/-- a fraction between -/
theorem between_eq {n : Nat} {x y : N4} (hx : GoodX n x) (hy : GoodX n y) (hn : n ≤ 1000) (h : val x < val y) :
    ∃ z : N4, m_between [encX x, encX y] = .ok (encX z) ∧ GoodX (26 * n + 30) z ∧ z.2.1 = 0 ∧ z.2.2.1 = 0 ∧ val x < val z ∧ val z < val y := by
  have g := val_gap hx hy h
  have far : ∀ (e : Nat) (t : Int), 11 * n + 10 ≤ e → (t : Re) - 1 ≤ val x * (((2 ^ e : Nat) : Int) : Re) → val (t, 0, 0, 2 ^ e) < val y := by
    intro e t l1 u1
    have hf := val_frac t (2 ^ e) (two_pow_int e)
    have hp := Re.cast_pos' (two_pow_int e)
    rw [← two_nat] at hf hp ⊢
    have mono : 2 * (((2 ^ (11 * n + 9) : Nat) : Int) : Re) ≤ (((2 ^ e : Nat) : Int) : Re) := by
      rw [← Re.cast_2, ← Re.cast_mul, Re.cast_le]
      have := Int.ofNat_le.mpr (Nat.pow_le_pow_right (show 0 < 2 by decide) l1)
      rw [Nat.pow_succ] at this
      omega
    generalize (((2 ^ (11 * n + 9) : Nat) : Int) : Re) = L at *
    generalize ((2 ^ e : Nat) : Int) = E at *
    generalize val (t, 0, 0, E) = V at *
    have a1 := Re.mul_nn (x := (E : Re) - 2 * L) (y := val y - val x) (by grind) (by grind)
    apply Classical.byContradiction
    intro c
    have a2 := Re.mul_nn (x := V - val y) (y := (E : Re)) (by grind) (by grind)
    grind
  have key : ∀ (m e : Nat), 11 * n + 10 ≤ e + m → e ≤ 22 * n + 19 → ∀ t : Int, Sz (2 * n + e + 6) t → (t : Re) - 1 ≤ val x * (((2 ^ e : Nat) : Int) : Re) → val x * (((2 ^ e : Nat) : Int) : Re) < (t : Re) →
      ∃ (e' : Nat) (t' : Int), e' ≤ 22 * n + 19 ∧ Sz (2 * n + e' + 6) t' ∧ val x * (((2 ^ e' : Nat) : Int) : Re) < (t' : Re) ∧ val (t', 0, 0, 2 ^ e') < val y ∧
      sWhile (tOf (PD.e2 dGe (eA m_order (aC (eA mkTup (aC (eV 3) (aC (eC (.int 0)) (aC (eC (.int 0)) (aC (eV 2) aN))))) (aC (eV 1) aN))) (eC (.int 0)))) b_between_1 [some (encX x), some (encX y), some (.int (2 ^ e)), some (.int t)] = .nx [some (encX x), some (encX y), some (.int (2 ^ e')), some (.int t')] := by
    intro m
    induction m with
    | zero =>
      intro e l1 l2 t zt u1 u2
      have ge : GoodX (26 * n + 30) (t, 0, 0, 2 ^ e) := ⟨Int.le_refl _, two_pow_int e, zt.mono (by omega), by unfold Sz; exact Nat.two_pow_pos _, by unfold Sz; exact Nat.two_pow_pos _, (sz_2pow e).mono (by omega)⟩
      have gy := hy.mono (show n ≤ 26 * n + 30 by omega)
      have eo := order_X ge gy (by omega)
      have lt := far e t (by omega) u1
      refine ⟨e, t, l2, zt, u2, lt, sWhile_f ?_⟩
      have c : ¬ 0 ≤ ordX (t, 0, 0, 2 ^ e) y := by have := (ordX_lt ge gy).mpr lt; omega
      rw [show encX (t, 0, 0, 2 ^ e) = .tup [.int t, .int 0, .int 0, .int (2 ^ e)] from rfl] at eo
      clear ge gy lt zt u1 u2 far g
      generalize (2 : Int) ^ e = E at *
      walk_at "go"
    | succ m ih =>
      intro e l1 l2 t zt u1 u2
      have ge : GoodX (26 * n + 30) (t, 0, 0, 2 ^ e) := ⟨Int.le_refl _, two_pow_int e, zt.mono (by omega), by unfold Sz; exact Nat.two_pow_pos _, by unfold Sz; exact Nat.two_pow_pos _, (sz_2pow e).mono (by omega)⟩
      have gy := hy.mono (show n ≤ 26 * n + 30 by omega)
      have eo := order_X ge gy (by omega)
      rw [show encX (t, 0, 0, 2 ^ e) = .tup [.int t, .int 0, .int 0, .int (2 ^ e)] from rfl] at eo
      by_cases lt : val (t, 0, 0, 2 ^ e) < val y
      · refine ⟨e, t, l2, zt, u2, lt, sWhile_f ?_⟩
        have c : ¬ 0 ≤ ordX (t, 0, 0, 2 ^ e) y := by have := (ordX_lt ge gy).mpr lt; omega
        clear ge gy lt zt u1 u2 far g ih
        generalize (2 : Int) ^ e = E at *
        walk_at "go"
      · have c : 0 ≤ ordX (t, 0, 0, 2 ^ e) y := by
          apply Classical.byContradiction
          intro z
          exact lt ((ordX_lt ge gy).mp (by omega))
        have small : e ≤ 11 * n + 9 := by
          apply Classical.byContradiction
          intro z
          exact lt (far e t (by omega) u1)
        obtain ⟨t1, ea, zt1, w1, w2⟩ := above_eq (e := 2 * e + 1) hx (by omega) (by omega)
        obtain ⟨e', t', r1, r2, r3, r4, r5⟩ := ih (2 * e + 1) (by omega) (by omega) t1 zt1 w1 w2
        refine ⟨e', t', r1, r2, r3, r4, ?_⟩
        have ex : (2 : Int) ^ (2 * e + 1) = 2 * 2 ^ e * 2 ^ e := by
          rw [Int.pow_succ, show 2 * e = e + e by omega, Int.pow_add]
          generalize (2 : Int) ^ e = E
          grind
        have k1 := cmul_sz (show Sz 2 2 by unfold Sz; decide) (sz_2pow e) (by omega)
        have k2 := cmul_sz ((show Sz 2 2 by unfold Sz; decide).mul (sz_2pow e)) (sz_2pow e) (by omega)
        rw [sWhile_t (ρ' := [some (encX x), some (encX y), some (.int (2 ^ (2 * e + 1))), some (.int t1)]) (by
          clear ge gy lt zt u1 u2 far g ih ex r5 ea k1 k2
          generalize (2 : Int) ^ e = E at *
          walk_at "go") (by
          rw [ex] at ea ⊢
          clear ge gy lt zt u1 u2 far g ih ex r5 eo w1 w2 zt1 c
          unfold b_between_1
          generalize (2 : Int) ^ e = E at *
          walk_at "go") (by rw [r5]; intro z; cases z), r5]
  obtain ⟨t0, e0, z0, u1, u2⟩ := above_eq (e := 0) hx (by omega) (by omega)
  obtain ⟨e', t', r1, r2, r3, r4, r5⟩ := key (11 * n + 10) 0 (by omega) (by omega) t0 z0 u1 u2
  have hp := Re.cast_pos' (two_pow_int e')
  refine ⟨(t', 0, 0, 2 ^ e'), ?_, ⟨Int.le_refl _, two_pow_int e', r2.mono (by omega), by unfold Sz; exact Nat.two_pow_pos _, by unfold Sz; exact Nat.two_pow_pos _, (sz_2pow e').mono (by omega)⟩, rfl, rfl, ?_, r4⟩
  · rw [show (2 : Int) ^ 0 = 1 from rfl] at e0 r5
    clear key far g
    unfold m_between b_between
    walk_at "go"
    rfl
  · have hf := val_frac t' (2 ^ e') (two_pow_int e')
    rw [← two_nat] at hf hp ⊢
    generalize ((2 ^ e' : Nat) : Int) = E at *
    generalize val (t', 0, 0, E) = V at *
    apply Classical.byContradiction
    intro c
    have a2 := Re.mul_nn (x := val x - V) (y := (E : Re)) (by grind) (by grind)
    grind
/-! forms of one name -/
def triF (nm : List Nat) (t : T3) : List Tm := [([], t.1), ([(nm, 1)], t.2.1), ([(nm, 2)], t.2.2)].filter fun q => decide (q.2 ≠ 0)
def encF (nm : List Nat) (t : T3) : D := .tup ((triF nm t).map encQ)
def sumQ (f : List Tm) : Int := (f.map (·.2)).sum
theorem sumQ_val (f : List Tm) : sumQ f = valL (fun _ => 1) f := by
  have w : ∀ m : Mn, wM (fun _ => 1) m = 1 := by
    intro m
    induction m with
    | nil => rfl
    | cons p m ih => simp [wM, ih, Int.one_pow]
  induction f with
  | nil => rfl
  | cons q f ih =>
    show q.2 + (f.map (·.2)).sum = _
    rw [show (f.map (·.2)).sum = sumQ f from rfl, ih]
    simp [valL, w]
theorem sumQ_form (ps : List Tm) : sumQ (formOf ps) = sumQ ps := by rw [sumQ_val, sumQ_val, valL_formOf]
theorem triF_mono {nm : List Nat} (hn : Nm nm) (t : T3) : ∀ q ∈ triF nm t, Mono 2 q.1 := by
  intro q hq
  have hq := (List.mem_filter.mp hq).1
  rcases List.mem_cons.mp hq with rfl | hq
  · exact ⟨fun p hp => (nomatch hp), List.Pairwise.nil, by simp⟩
  · rcases List.mem_cons.mp hq with rfl | hq
    · exact ⟨fun p hp => by rw [List.mem_singleton] at hp; subst hp; exact ⟨hn, by simp, by simp⟩, List.pairwise_singleton _ _, by show 1 ≤ 1000; decide⟩
    · rw [List.mem_singleton] at hq
      subst hq
      exact ⟨fun p hp => by rw [List.mem_singleton] at hp; subst hp; exact ⟨hn, by simp, by simp⟩, List.pairwise_singleton _ _, by show 1 ≤ 1000; decide⟩
theorem triF_len (nm : List Nat) (t : T3) : (triF nm t).length ≤ 3 := List.length_filter_le _ _
theorem triF_names (nm : List Nat) (t : T3) : ∀ x ∈ namesOf (triF nm t), x = nm := by
  intro x hx
  obtain ⟨q, hq, p, hp, rfl⟩ := namesOf_mem.mp hx
  have hq := (List.mem_filter.mp hq).1
  rcases List.mem_cons.mp hq with rfl | hq
  · cases hp
  · rcases List.mem_cons.mp hq with rfl | hq
    · rw [List.mem_singleton] at hp; subst hp; rfl
    · rw [List.mem_singleton] at hq
      subst hq
      rw [List.mem_singleton] at hp; subst hp; rfl
theorem triF_top (nm : List Nat) (t : T3) : topOf nm (triF nm t) = if t.2.2 ≠ 0 then 2 else if t.2.1 ≠ 0 then 1 else 0 := by
  obtain ⟨c, b, a⟩ := t
  by_cases h1 : c = 0 <;> by_cases h2 : b = 0 <;> by_cases h3 : a = 0 <;> simp [triF, topOf, powOf, fnd, h1, h2, h3] <;> omega
theorem triF_part (nm : List Nat) (t : T3) : sumQ (partOf nm (triF nm t) 0) = t.1 ∧ sumQ (partOf nm (triF nm t) 1) = t.2.1 ∧ sumQ (partOf nm (triF nm t) 2) = t.2.2 := by
  obtain ⟨c, b, a⟩ := t
  by_cases h1 : c = 0 <;> by_cases h2 : b = 0 <;> by_cases h3 : a = 0 <;> simp [triF, partOf, powOf, fnd, rowQ, sumQ, h1, h2, h3]
theorem triF_lc {nm : List Nat} {t : T3} {x0 x1 x2 x3 x4 x5 : Option D} :
    lcL (gT [gN 6, gN 7]) (tOf (PD.e2 dNe (eV 7) (eC (.int 0)))) (eA mkTup (aC (eV 6) (aC (eV 7) aN))) [x0, x1, x2, x3, x4, x5, none, none] (([([], t.1), ([(nm, 1)], t.2.1), ([(nm, 2)], t.2.2)] : List Tm).map encQ) = .ok ((triF nm t).map encQ) := by
  refine lcL_filter encQ (fun q => decide (q.2 ≠ 0)) encQ _ fun q _ => ?_
  rw [show encQ q = .tup [encM q.1, .int q.2] from rfl]
  walk_at "go"
  by_cases c : q.2 = 0
  · simp [c]
  · simp [c]
theorem law_form_t (nm : List Nat) (t : T3) : m__law_form_v4 [encT t, encN nm] = .ok (encF nm t) := by
  have k := @triF_lc nm t
  unfold m__law_form_v4 b__law_form_v4
  rw [show encT t = .tup [.int t.1, .int t.2.1, .int t.2.2] from rfl]
  walk_at "go"
  have k' := @k (some (.tup [.int t.1, .int t.2.1, .int t.2.2])) (some (encN nm)) (some (.int t.1)) (some (.int t.2.1)) (some (.int t.2.2))
  rw [show ([.tup [.tup [], .int t.1], .tup [.tup [.tup [encN nm, .int 1]], .int t.2.1], .tup [.tup [.tup [encN nm, .int 2]], .int t.2.2]] : List D) = (([([], t.1), ([(nm, 1)], t.2.1), ([(nm, 2)], t.2.2)] : List Tm).map encQ) from rfl, k]
  walk_at "go"
  rfl
theorem ints_D (l : List Int) : intsD (l.map D.int) = some l := by
  induction l with
  | nil => rfl
  | cons x l ih => rw [List.map_cons]; show (intsD (l.map D.int)).map (x :: ·) = _; rw [ih]; rfl
theorem cSum_I (l : List Int) : cSum [.lst (l.map D.int)] = .ok (.int l.sum) := by
  show (match intsD (l.map D.int) with | some ns => Out.ok (D.int ns.sum) | none => .stuck) = _
  rw [ints_D]
/-- the numbers of a form of one name -/
theorem numbers_of_t {nm : List Nat} (hn : Nm nm) (t : T3) : m_numbers_of [encF nm t, encN nm] = .ok (.lst [.int t.1, .int t.2.1, .int t.2.2]) := by
  have e1 := by_power_eq (most := 2) (x := nm) (f := triF nm t) hn (by decide) (by decide) (triF_mono hn t) (by have := triF_len nm t; omega)
  have e1 : m_by_power [encF nm t, encN nm] = .ok (.tup ((byPow nm (triF nm t)).map fun g => .tup (g.map encQ))) := e1
  have gl : ∀ g ∈ byPow nm (triF nm t), g.length ≤ 3 := by
    intro g hg
    unfold byPow at hg
    obtain ⟨k, _, rfl⟩ := List.mem_map.mp hg
    have h1 := (form_is (ps := partOf nm (triF nm t) k) (partOf_mono (triF_mono hn t) k)).2.2
    have h2 := partOf_len nm (triF nm t) k
    have h3 := triF_len nm t
    omega
  have e2 : ∀ x0 x1 x2 : Option D, lcL (gN 3) bYes (eA cSum (aC (eLc [4, 5] (gT [(gN 4), (gN 5)]) (iSeq (eV 3)) bYes (eV 5)) aN)) [x0, x1, x2, none, none, none] ((byPow nm (triF nm t)).map fun g => .tup (g.map encQ)) = .ok ((byPow nm (triF nm t)).map fun g => .int (sumQ g)) := by
    intro x0 x1 x2
    refine lcL_map (fun g : List Tm => D.tup (g.map encQ)) (fun g => .int (sumQ g)) _ fun g hg => ?_
    have hl := gl g hg
    have e3 : ∀ x0 x1 x2 x3 : Option D, lcL (gT [(gN 4), (gN 5)]) bYes (eV 5) [x0, x1, x2, x3, none, none] (g.map encQ) = .ok ((g.map (·.2)).map D.int) := by
      intro x0 x1 x2 x3
      rw [List.map_map]
      refine lcL_map encQ _ g fun q _ => ?_
      rw [show encQ q = .tup [encM q.1, .int q.2] from rfl]
      walk_at "wk"
      rfl
    have e4 := cSum_I (g.map (·.2))
    have e5 : (g.map encQ).length ≤ sizeLine := len_ok (by simp; omega)
    walk_at "go"
    rfl
  have e6 : (byPow nm (triF nm t)).map (fun g => D.int (sumQ g)) = (List.range (topOf nm (triF nm t) + 1).toNat).map fun (k : Nat) => .int (sumQ (partOf nm (triF nm t) k)) := by
    unfold byPow
    rw [List.map_map]
    refine List.map_congr_left fun k _ => ?_
    show D.int (sumQ (formOf _)) = _
    rw [sumQ_form]
  have e7 : ((byPow nm (triF nm t)).map fun g => D.tup (g.map encQ)).length ≤ sizeLine := len_ok (by
    unfold byPow
    have := triF_top nm t
    simp
    rw [this]
    split
    · decide
    · split <;> decide)
  have e8 : ∀ x0 x1 x3 x4 x5 : Option D, sWhile (tOf (PD.e2 dLt (eA cLen (aC (eV 2) aN)) (eC (.int 3)))) b_numbers_of_1 [x0, x1, some (.lst ((byPow nm (triF nm t)).map fun g => D.int (sumQ g))), x3, x4, x5] = .nx [x0, x1, some (.lst [.int t.1, .int t.2.1, .int t.2.2]), x3, x4, x5] := by
    intro x0 x1 x3 x4 x5
    rw [e6, triF_top nm t]
    obtain ⟨p0, p1, p2'⟩ := triF_part nm t
    have w3 : ∀ a b c : D, sWhile (tOf (PD.e2 dLt (eA cLen (aC (eV 2) aN)) (eC (.int 3)))) b_numbers_of_1 [x0, x1, some (.lst [a, b, c]), x3, x4, x5] = .nx [x0, x1, some (.lst [a, b, c]), x3, x4, x5] := by
      intro a b c
      rw [sWhile_f (by walk_at "wk"; rfl)]
    have w2 : ∀ a b : D, sWhile (tOf (PD.e2 dLt (eA cLen (aC (eV 2) aN)) (eC (.int 3)))) b_numbers_of_1 [x0, x1, some (.lst [a, b]), x3, x4, x5] = .nx [x0, x1, some (.lst [a, b, .int 0]), x3, x4, x5] := by
      intro a b
      rw [sWhile_t (ρ' := [x0, x1, some (.lst [a, b, .int 0]), x3, x4, x5]) (by walk_at "wk"; rfl) (by unfold b_numbers_of_1; walk_at "go") (by rw [w3]; intro z; cases z), w3]
    have w1 : ∀ a : D, sWhile (tOf (PD.e2 dLt (eA cLen (aC (eV 2) aN)) (eC (.int 3)))) b_numbers_of_1 [x0, x1, some (.lst [a]), x3, x4, x5] = .nx [x0, x1, some (.lst [a, .int 0, .int 0]), x3, x4, x5] := by
      intro a
      rw [sWhile_t (ρ' := [x0, x1, some (.lst [a, .int 0]), x3, x4, x5]) (by walk_at "wk"; rfl) (by unfold b_numbers_of_1; walk_at "go") (by rw [w2]; intro z; cases z), w2]
    split
    · rw [show (List.range ((2 : Int) + 1).toNat).map (fun (k : Nat) => D.int (sumQ (partOf nm (triF nm t) k))) = [.int (sumQ (partOf nm (triF nm t) 0)), .int (sumQ (partOf nm (triF nm t) 1)), .int (sumQ (partOf nm (triF nm t) 2))] from rfl, p0, p1, p2', w3]
    · rename_i ha
      have ha : t.2.2 = 0 := Classical.byContradiction ha
      split
      · rw [show (List.range ((1 : Int) + 1).toNat).map (fun (k : Nat) => D.int (sumQ (partOf nm (triF nm t) k))) = [.int (sumQ (partOf nm (triF nm t) 0)), .int (sumQ (partOf nm (triF nm t) 1))] from rfl, p0, p1, w2, ha]
      · rename_i hb
        have hb : t.2.1 = 0 := Classical.byContradiction hb
        rw [show (List.range ((0 : Int) + 1).toNat).map (fun (k : Nat) => D.int (sumQ (partOf nm (triF nm t) k))) = [.int (sumQ (partOf nm (triF nm t) 0))] from rfl, p0, w1, ha, hb]
  clear gl e6
  unfold m_numbers_of b_numbers_of
  walk_at "go"
theorem let_in_t {nm : List Nat} (hn : Nm nm) (ts : List T3) : m_let_in [.lst (ts.map (encF nm)), encN nm] = .ok .non := by
  have nn := dNe_N hn hn
  rw [decide_eq_true rfl] at nn
  have one : ∀ (t : T3) (x0 x3 : Option D), ∃ x3', forL (gN 3) b_let_in_1 ((namesOf (triF nm t)).map encN) [x0, some (encN nm), some (encF nm t), x3] = .nx [x0, some (encN nm), some (encF nm t), x3'] := by
    intro t x0 x3
    have := forL_inv encN (G := gN 3) (b := b_let_in_1) (fun _ ρ => ∃ x3', ρ = [x0, some (encN nm), some (encF nm t), x3']) (namesOf (triF nm t)) (ρ := [x0, some (encN nm), some (encF nm t), x3]) ⟨x3, rfl⟩ (by
      rintro pre x post ρ e ⟨x3', rfl⟩
      have hx : x = nm := triF_names nm t x (by rw [e]; simp)
      subst hx
      refine ⟨[x0, some (encN x), some (encF x t), some (encN x)], ?_, _, rfl⟩
      unfold b_let_in_1
      walk_at "go")
    obtain ⟨ρ', e, x3', rfl⟩ := this
    exact ⟨x3', e⟩
  have l1 := forL_inv (encF nm) (G := gN 2) (b := b_let_in_2) (fun _ ρ => ∃ x2 x3, ρ = [some (.lst (ts.map (encF nm))), some (encN nm), x2, x3]) ts (ρ := [some (.lst (ts.map (encF nm))), some (encN nm), none, none]) ⟨none, none, rfl⟩ (by
    rintro pre t post ρ e ⟨x2, x3, rfl⟩
    have e1 := names_of_eq (f := triF nm t) (b := 1) (fun q hq p hp => ((triF_mono hn t q hq).nm p hp).1) (fun q hq => by
      have hq := (List.mem_filter.mp hq).1
      rcases List.mem_cons.mp hq with rfl | hq
      · simp
      · rcases List.mem_cons.mp hq with rfl | hq
        · simp
        · rw [List.mem_singleton] at hq; subst hq; simp) (by have := triF_len nm t; omega)
    have e1 : m_names_of [encF nm t] = .ok (.tup ((namesOf (triF nm t)).map encN)) := e1
    obtain ⟨x3', e2⟩ := one t (some (.lst (ts.map (encF nm)))) x3
    refine ⟨_, ?_, some (encF nm t), x3', rfl⟩
    clear one e
    unfold b_let_in_2
    walk_at "go")
  obtain ⟨ρ', e1, x2, x3, rfl⟩ := l1
  have l2 := forL_inv (encF nm) (G := gN 2) (b := b_let_in_3) (fun _ ρ => ∃ x2, ρ = [some (.lst (ts.map (encF nm))), some (encN nm), x2, x3]) ts (ρ := [some (.lst (ts.map (encF nm))), some (encN nm), x2, x3]) ⟨x2, rfl⟩ (by
    rintro pre t post ρ e ⟨x2, rfl⟩
    have e1 := by_power_eq (most := 2) (x := nm) (f := triF nm t) hn (by decide) (by decide) (triF_mono hn t) (by have := triF_len nm t; omega)
    have e1 : m_by_power [encF nm t, encN nm] = .ok (.tup ((byPow nm (triF nm t)).map fun g => .tup (g.map encQ))) := e1
    have e3 : ¬ (3 : Int) < (((byPow nm (triF nm t)).map fun g => D.tup (g.map encQ)).length : Int) := by
      unfold byPow
      simp
      rw [triF_top]
      split
      · decide
      · split <;> decide
    refine ⟨_, ?_, some (encF nm t), rfl⟩
    clear e
    unfold b_let_in_3
    walk_at "go")
  obtain ⟨ρ', e2, x2', rfl⟩ := l2
  clear one
  unfold m_let_in b_let_in
  walk_at "go"
theorem roots_up {n : Nat} {c b a : Int} (zc : Sz n c) (zb : Sz n b) (za : Sz n a) (hn : n ≤ 10000) (h : 0 < a ∨ (a = 0 ∧ 0 ≤ b)) : m_roots_of [.int c, .int b, .int a] = .ok (.lst ((rootsUp c b a).map encX)) := by
  have z2 : Sz 2 2 := by unfold Sz; decide
  have z4 : Sz 3 4 := by unfold Sz; decide
  have k1 := cmul_sz zb zb (by omega)
  have k2 := cmul_sz z4 za (by omega)
  have k3 := cmul_sz (z4.mul za) zc (by omega)
  have k4 := cmul_sz z2 za (by omega)
  unfold rootsUp
  unfold m_roots_of b_roots_of
  clear zc zb za
  rcases h with h | ⟨rfl, h⟩
  · have h1 : ¬ a < 0 := by omega
    have h2 : ¬ a = 0 := by omega
    by_cases c1 : b * b - 4 * a * c < 0
    · clear h
      walk_at "go"
    · by_cases c2 : b * b - 4 * a * c = 0
      · clear h
        walk_at "go"
        rfl
      · clear h
        walk_at "go"
        rfl
  · have h1 : ¬ b < 0 := by omega
    by_cases c1 : b = 0
    · subst c1
      walk_at "go"
    · clear h
      walk_at "go"
      rfl
theorem roots_of_t {n : Nat} {t : T3} (z : SzT n t) (hn : n ≤ 9000) : m_roots_of [.int t.1, .int t.2.1, .int t.2.2] = .ok (.lst ((rootsOf t).map encX)) := by
  obtain ⟨c, b, a⟩ := t
  obtain ⟨zc, zb, za⟩ := z
  unfold rootsOf
  by_cases h : a < 0 ∨ (a = 0 ∧ b < 0)
  · rw [if_pos h]
    have z0 : Sz n 0 := by unfold Sz; simp; exact Nat.pos_of_ne_zero (by simp)
    rw [← roots_up (z0.sub zc) (z0.sub zb) (z0.sub za) (by omega) (by simp only [] at *; omega)]
    unfold m_roots_of b_roots_of
    rcases h with h | ⟨h, k⟩
    · have h2 : ¬ 0 - a < 0 := by omega
      have h3 : ¬ 0 - a = 0 := by omega
      walk_at "wka"
    · subst h
      have h2 : (0 : Int) - 0 = 0 := rfl
      have h3 : ¬ (0 : Int) < 0 := by decide
      have h4 : ¬ 0 - b < 0 := by omega
      walk_at "wka"
  · rw [if_neg h]
    exact roots_up zc zb za (by omega) (by simp only [] at *; omega)
theorem rootsUp_good {n : Nat} {c b a : Int} (zc : Sz n c) (zb : Sz n b) (za : Sz n a) (h : 0 < a ∨ (a = 0 ∧ 0 ≤ b)) : ∀ x ∈ rootsUp c b a, GoodX (2 * n + 4) x := by
  have z2 : Sz 2 2 := by unfold Sz; decide
  have z4 : Sz 3 4 := by unfold Sz; decide
  have z0 : Sz (2 * n + 4) 0 := by unfold Sz; simp; exact Nat.pos_of_ne_zero (by simp)
  have z0' : Sz n 0 := by unfold Sz; simp; exact Nat.pos_of_ne_zero (by simp)
  have z1 : Sz (2 * n + 4) 1 := (show Sz 1 1 by unfold Sz; decide).mono (by omega)
  have zm : Sz (2 * n + 4) (-1) := (show Sz 1 (-1) by unfold Sz; decide).mono (by omega)
  have w1 : Sz (2 * n + 4) (b * b - 4 * a * c) := ((zb.mul zb).mono (show n + n ≤ 2 * n + 3 by omega)).sub (((z4.mul za).mul zc).mono (by omega))
  have w2 : Sz (2 * n + 4) (0 - b) := (z0'.sub zb).mono (by omega)
  have w3 : Sz (2 * n + 4) (0 - c) := (z0'.sub zc).mono (by omega)
  have w4 : Sz (2 * n + 4) (2 * a) := (z2.mul za).mono (by omega)
  have w5 : Sz (2 * n + 4) b := zb.mono (by omega)
  intro x hx
  unfold rootsUp at hx
  split at hx
  · split at hx
    · cases hx
    · rw [List.mem_singleton] at hx
      subst hx
      exact ⟨Int.le_refl _, by simp only []; omega, w3, z0, z0, w5⟩
  · split at hx
    · cases hx
    · split at hx
      · rw [List.mem_singleton] at hx
        subst hx
        exact ⟨Int.le_refl _, by simp only []; omega, w2, z0, z0, w4⟩
      · rcases List.mem_cons.mp hx with rfl | hx
        · exact ⟨by simp only []; omega, by simp only []; omega, w2, zm, w1, w4⟩
        · rw [List.mem_singleton] at hx
          subst hx
          exact ⟨by simp only []; omega, by simp only []; omega, w2, z1, w1, w4⟩
theorem rootsOf_good {n : Nat} {t : T3} (z : SzT n t) : ∀ x ∈ rootsOf t, GoodX (2 * n + 6) x := by
  obtain ⟨c, b, a⟩ := t
  obtain ⟨zc, zb, za⟩ := z
  have z0' : Sz n 0 := by unfold Sz; simp; exact Nat.pos_of_ne_zero (by simp)
  unfold rootsOf
  simp only [] at *
  intro x hx
  split at hx
  · exact (rootsUp_good (z0'.sub zc) (z0'.sub zb) (z0'.sub za) (by omega) x hx).mono (by omega)
  · exact (rootsUp_good zc zb za (by omega) x hx).mono (by omega)
/-! the insertion by order -/
def posX (x : N4) : List N4 → Nat
  | [] => 0
  | y :: l => if ordX y x < 0 then posX x l + 1 else 0
def insX (x : N4) : List N4 → List N4
  | [] => [x]
  | y :: l => if ordX y x < 0 then y :: insX x l else if 0 < ordX y x then x :: y :: l else y :: l
theorem posX_le (x : N4) (l : List N4) : posX x l ≤ l.length := by
  induction l with
  | nil => exact Nat.le_refl _
  | cons y l ih =>
    unfold posX
    split
    · simp; exact ih
    · exact Nat.zero_le _
theorem ixX (pre l : List N4) (y : N4) : dIx (.lst ((pre ++ y :: l).map encX)) (.int pre.length) = .ok (encX y) :=
  dIx_lst (by simp)
theorem while_pos {n : Nat} {x : N4} (hx : GoodX n x) (hn : n ≤ 40000) {x0 x1 x3 x4 x5 x6 : Option D} (l : List N4) : ∀ pre : List N4, (∀ y ∈ l, GoodX n y) →
    sWhile (bAnd (tOf (PD.e2 dLt (eV 8) (eA cLen (aC (eV 2) aN)))) (tOf (PD.e2 dLt (eA m_order (aC (PD.e2 dIx (eV 2) (eV 8)) (aC (eV 7) aN))) (eC (.int 0))))) b_borders_1
      [x0, x1, some (.lst ((pre ++ l).map encX)), x3, x4, x5, x6, some (encX x), some (.int pre.length)] = .nx [x0, x1, some (.lst ((pre ++ l).map encX)), x3, x4, x5, x6, some (encX x), some (.int ((pre.length + posX x l : Nat) : Int))] := by
  induction l with
  | nil =>
    intro pre _
    refine sWhile_f ?_
    walk_at "wk"
    rw [if_neg (by simp)]
  | cons y l ih =>
    intro pre h
    have e1 := ixX pre l y
    have e2 := order_X (h y List.mem_cons_self) hx hn
    have e3 : ((pre.length : Int)) < ((((pre ++ y :: l).map encX).length : Nat) : Int) := by simp; omega
    unfold posX
    generalize hL : (pre ++ y :: l).map encX = L at *
    by_cases c : ordX y x < 0
    · have ih' := ih (pre ++ [y]) fun z hz => h z (List.mem_cons_of_mem _ hz)
      rw [List.append_assoc] at ih'
      rw [show [y] ++ l = y :: l from rfl, hL] at ih'
      rw [if_pos c]
      rw [sWhile_t (ρ' := [x0, x1, some (.lst L), x3, x4, x5, x6, some (encX x), some (.int ((pre ++ [y]).length : Nat))]) (by clear hL h ih ih'; walk_at "go") (by
        unfold b_borders_1
        walk_at "wk"
        simp) (by rw [ih']; intro z; cases z), ih']
      congr 5
      simp
      omega
    · rw [if_neg c]
      refine sWhile_f ?_
      clear hL h ih
      walk_at "go"
theorem posX_lt {x y : N4} (c : ordX y x < 0) (l : List N4) : posX x (y :: l) = posX x l + 1 := if_pos c
theorem posX_ge {x y : N4} (c : ¬ ordX y x < 0) (l : List N4) : posX x (y :: l) = 0 := if_neg c
theorem insX_eq {x : N4} (l : List N4) : insX x l = if posX x l = l.length ∨ (∃ y, l[posX x l]? = some y ∧ 0 < ordX y x) then l.take (posX x l) ++ [x] ++ l.drop (posX x l) else l := by
  induction l with
  | nil => simp [insX, posX]
  | cons y l ih =>
    unfold insX
    by_cases c : ordX y x < 0
    · rw [if_pos c, posX_lt c, ih]
      by_cases d : posX x l = l.length ∨ (∃ y, l[posX x l]? = some y ∧ 0 < ordX y x)
      · rw [if_pos d, if_pos (by simpa using d)]
        simp
      · rw [if_neg d, if_neg (by simpa using d)]
    · rw [if_neg c, posX_ge c]
      by_cases d : 0 < ordX y x
      · rw [if_pos d, if_pos (.inr ⟨y, rfl, d⟩)]
        simp
      · rw [if_neg d, if_neg]
        rintro (e | ⟨z, e, f⟩)
        · simp at e
        · rw [List.getElem?_cons_zero] at e
          cases e
          exact d f
theorem borders_2 {n : Nat} {x : N4} (hx : GoodX n x) (hn : n ≤ 40000) {x0 x1 x3 x4 x5 x6 x7 x8 : Option D} (l : List N4) (h : ∀ y ∈ l, GoodX n y) (hl : l.length ≤ 10000) :
    ∃ x8', (oS (gN 7 (encX x) [x0, x1, some (.lst (l.map encX)), x3, x4, x5, x6, x7, x8]) b_borders_2).cont = .nx [x0, x1, some (.lst ((insX x l).map encX)), x3, x4, x5, x6, some (encX x), x8'] := by
  have w := while_pos hx hn (x0 := x0) (x1 := x1) (x3 := x3) (x4 := x4) (x5 := x5) (x6 := x6) l [] h
  have hp := posX_le x l
  simp only [List.nil_append, List.length_nil, Nat.zero_add] at w
  refine ⟨some (.int (posX x l : Nat)), ?_⟩
  have ei := insX_eq (x := x) l
  have hlen : (l.map encX).length < sizeLine := len_lt (by simp; omega)
  unfold b_borders_2
  by_cases c : posX x l = l.length
  · rw [if_pos (.inl c), c, List.take_length, List.drop_length, List.append_nil] at ei
    rw [ei, c]
    rw [c] at w
    walk_at "wk"
    rw [show ((0 : Nat) : Int) = 0 from rfl] at w
    rw [w]
    walk_at "wk"
    rw [if_pos (by simp)]
    simp only [sLM_ap]
    walk_at "wk"
    simp only [lmInsert_ap]
    walk_at "wk"
    refine chkS_go ?_ ?_
    · exact ⟨hlen, by omega, by omega⟩
    simp
    rw [List.take_of_length_le (by simp), List.drop_eq_nil_of_le (by simp)]
  · have hlt : posX x l < l.length := by omega
    have e1 : dIx (.lst (l.map encX)) (.int (posX x l : Nat)) = .ok (encX l[posX x l]) := dIx_lst (by rw [List.getElem?_map, List.getElem?_eq_getElem hlt]; rfl)
    have e2 := order_X (h _ (List.getElem_mem hlt)) hx hn
    walk_at "wk"
    rw [show ((0 : Nat) : Int) = 0 from rfl] at w
    rw [w]
    walk_at "wk"
    rw [if_neg (by simp; omega), e1]
    walk_at "wk"
    rw [e2]
    walk_at "wk"
    by_cases d : 0 < ordX l[posX x l] x
    · rw [if_pos (Or.inr ⟨l[posX x l], List.getElem?_eq_getElem hlt, d⟩)] at ei
      rw [if_pos d]
      simp only [sLM_ap]
      walk_at "wk"
      simp only [lmInsert_ap]
      walk_at "wk"
      refine chkS_go ?_ ?_
      · exact ⟨hlen, by omega, by omega⟩
      rw [ei]
      simp
    · rw [if_neg (by
        rintro (e | ⟨z, e, f⟩)
        · exact c e
        · rw [List.getElem?_eq_getElem hlt] at e; cases e; exact d f)] at ei
      rw [if_neg d, ei]
theorem insX_sub {x : N4} : ∀ (l : List N4), ∀ y ∈ insX x l, y = x ∨ y ∈ l := by
  intro l
  induction l with
  | nil => intro y hy; exact .inl (List.mem_singleton.mp hy)
  | cons z l ih =>
    intro y hy
    unfold insX at hy
    split at hy
    · rcases List.mem_cons.mp hy with rfl | hy
      · exact .inr List.mem_cons_self
      · rcases ih y hy with h | h
        · exact .inl h
        · exact .inr (List.mem_cons_of_mem _ h)
    · split at hy
      · rcases List.mem_cons.mp hy with rfl | hy
        · exact .inl rfl
        · exact .inr hy
      · exact .inr hy
theorem insX_keep {x : N4} : ∀ (l : List N4), ∀ y ∈ l, y ∈ insX x l := by
  intro l
  induction l with
  | nil => intro y hy; cases hy
  | cons z l ih =>
    intro y hy
    unfold insX
    split
    · rcases List.mem_cons.mp hy with rfl | hy
      · exact List.mem_cons_self
      · exact List.mem_cons_of_mem _ (ih y hy)
    · split
      · exact List.mem_cons_of_mem _ hy
      · exact hy
theorem insX_len (x : N4) (l : List N4) : (insX x l).length ≤ l.length + 1 := by
  induction l with
  | nil => exact Nat.le_refl _
  | cons z l ih =>
    unfold insX
    split
    · simp; exact ih
    · split <;> simp
theorem insX_has {n : Nat} {x : N4} (hx : GoodX n x) : ∀ (l : List N4), (∀ y ∈ l, GoodX n y) → ∃ y ∈ insX x l, val y = val x := by
  intro l
  induction l with
  | nil => intro _; exact ⟨x, List.mem_singleton.mpr rfl, rfl⟩
  | cons z l ih =>
    intro h
    have hz := h z List.mem_cons_self
    unfold insX
    split
    · obtain ⟨y, hy, e⟩ := ih fun y hy => h y (List.mem_cons_of_mem _ hy)
      exact ⟨y, List.mem_cons_of_mem _ hy, e⟩
    · rename_i c
      split
      · exact ⟨x, List.mem_cons_self, rfl⟩
      · rename_i d
        rw [ordX_lt hz hx] at c
        rw [ordX_gt hz hx] at d
        exact ⟨z, List.mem_cons_self, by grind⟩
abbrev UpX (l : List N4) : Prop := l.Pairwise fun x y => val x < val y
theorem insX_up {n : Nat} {x : N4} (hx : GoodX n x) : ∀ (l : List N4), (∀ y ∈ l, GoodX n y) → UpX l → UpX (insX x l) := by
  intro l
  induction l with
  | nil => intro _ _; exact List.pairwise_singleton _ _
  | cons z l ih =>
    intro h u
    have hz := h z List.mem_cons_self
    obtain ⟨u1, u2⟩ := List.pairwise_cons.mp u
    unfold insX
    split
    · rename_i c
      rw [ordX_lt hz hx] at c
      refine List.pairwise_cons.mpr ⟨fun y hy => ?_, ih (fun y hy => h y (List.mem_cons_of_mem _ hy)) u2⟩
      rcases insX_sub l y hy with rfl | hy
      · exact c
      · exact u1 y hy
    · split
      · rename_i d
        rw [ordX_gt hz hx] at d
        refine List.pairwise_cons.mpr ⟨fun y hy => ?_, u⟩
        rcases List.mem_cons.mp hy with rfl | hy
        · exact d
        · have := u1 y hy; grind
      · exact u
def insAll (xs l : List N4) : List N4 := xs.foldl (fun l x => insX x l) l
def bordersOf (ts : List T3) : List N4 := ts.foldl (fun l t => insAll (rootsOf t) l) []
structure BX (n : Nat) (l : List N4) : Prop where
  good : ∀ y ∈ l, GoodX n y
  up : UpX l
theorem BX.ins {n : Nat} {l : List N4} (h : BX n l) {x : N4} (hx : GoodX n x) : BX n (insX x l) :=
  ⟨fun y hy => (insX_sub l y hy).elim (fun e => e ▸ hx) (h.good y), insX_up hx l h.good h.up⟩
theorem insAll_is {n : Nat} : ∀ (xs l : List N4), (∀ x ∈ xs, GoodX n x) → BX n l → BX n (insAll xs l) ∧ (∀ y ∈ insAll xs l, y ∈ xs ∨ y ∈ l) ∧ (∀ y ∈ l, y ∈ insAll xs l) ∧ (∀ x ∈ xs, ∃ y ∈ insAll xs l, val y = val x) ∧ (insAll xs l).length ≤ l.length + xs.length := by
  intro xs
  induction xs with
  | nil => intro l _ h; exact ⟨h, fun y hy => .inr hy, fun y hy => hy, (fun x hx => by cases hx), Nat.le_refl _⟩
  | cons x xs ih =>
    intro l hx h
    have gx := hx x List.mem_cons_self
    obtain ⟨a1, a2, a3, a4, a5⟩ := ih (insX x l) (fun y hy => hx y (List.mem_cons_of_mem _ hy)) (h.ins gx)
    refine ⟨a1, fun y hy => ?_, fun y hy => a3 y (insX_keep l y hy), fun z hz => ?_, ?_⟩
    · rcases a2 y hy with q | q
      · exact .inl (List.mem_cons_of_mem _ q)
      · rcases insX_sub l y q with rfl | q
        · exact .inl List.mem_cons_self
        · exact .inr q
    · rcases List.mem_cons.mp hz with rfl | hz
      · obtain ⟨y, hy, e⟩ := insX_has gx l h.good
        exact ⟨y, a3 y hy, e⟩
      · exact a4 z hz
    · have := insX_len x l
      show (insAll xs (insX x l)).length ≤ _
      rw [List.length_cons]
      omega
theorem rootsOf_len (t : T3) : (rootsOf t).length ≤ 2 := by
  unfold rootsOf rootsUp
  repeat' split
  all_goals simp
theorem bordersL_is {n : Nat} : ∀ (ts : List T3) (l : List N4), (∀ t ∈ ts, SzT n t) → BX (2 * n + 6) l → BX (2 * n + 6) (ts.foldl (fun l t => insAll (rootsOf t) l) l) ∧
    (∀ y ∈ ts.foldl (fun l t => insAll (rootsOf t) l) l, (∃ t ∈ ts, y ∈ rootsOf t) ∨ y ∈ l) ∧ (∀ y ∈ l, y ∈ ts.foldl (fun l t => insAll (rootsOf t) l) l) ∧ (∀ t ∈ ts, ∀ x ∈ rootsOf t, ∃ y ∈ ts.foldl (fun l t => insAll (rootsOf t) l) l, val y = val x) ∧ (ts.foldl (fun l t => insAll (rootsOf t) l) l).length ≤ l.length + 2 * ts.length := by
  intro ts
  induction ts with
  | nil => intro l _ h; exact ⟨h, fun y hy => .inr hy, fun y hy => hy, (fun x hx => by cases hx), Nat.le_refl _⟩
  | cons t ts ih =>
    intro l ht h
    obtain ⟨b1, b2, b3, b4, b5⟩ := insAll_is (rootsOf t) l (rootsOf_good (ht t List.mem_cons_self)) h
    obtain ⟨a1, a2, a3, a4, a5⟩ := ih (insAll (rootsOf t) l) (fun y hy => ht y (List.mem_cons_of_mem _ hy)) b1
    refine ⟨a1, fun y hy => ?_, fun y hy => a3 y (b3 y hy), fun z hz x hx => ?_, ?_⟩
    · rcases a2 y hy with ⟨t', q, q'⟩ | q
      · exact .inl ⟨t', List.mem_cons_of_mem _ q, q'⟩
      · rcases b2 y q with q | q
        · exact .inl ⟨t, List.mem_cons_self, q⟩
        · exact .inr q
    · rcases List.mem_cons.mp hz with rfl | hz
      · obtain ⟨y, hy, e⟩ := b4 x hx
        exact ⟨y, a3 y hy, e⟩
      · exact a4 z hz x hx
    · have := rootsOf_len t
      rw [List.foldl_cons, List.length_cons]
      omega
theorem BX.nil (n : Nat) : BX n [] := ⟨(fun y hy => by cases hy), List.Pairwise.nil⟩
/-- the borders: rising; each a root of a form; each root of a form one of them -/
theorem bordersOf_is {n : Nat} {ts : List T3} (h : ∀ t ∈ ts, SzT n t) : BX (2 * n + 6) (bordersOf ts) ∧ (∀ y ∈ bordersOf ts, ∃ t ∈ ts, y ∈ rootsOf t) ∧ (∀ t ∈ ts, ∀ x ∈ rootsOf t, ∃ y ∈ bordersOf ts, val y = val x) ∧ (bordersOf ts).length ≤ 2 * ts.length := by
  obtain ⟨a1, a2, _, a4, a5⟩ := bordersL_is ts [] h (BX.nil _)
  refine ⟨a1, (fun y hy => (a2 y hy).elim id fun z => by cases z), a4, by have a6 := a5; rw [List.length_nil, Nat.zero_add] at a6; exact a6⟩
theorem borders_eq {nm : List Nat} (hn : Nm nm) {n : Nat} {ts : List T3} (h : ∀ t ∈ ts, SzT n t) (hs : n ≤ 9000) (hl : ts.length ≤ 1000) : m_borders [.lst (ts.map (encF nm)), encN nm] = .ok (.tup ((bordersOf ts).map encX)) := by
  have lt := let_in_t hn ts
  have loop := forL_inv (encF nm) (G := gN 3) (b := b_borders_3) (fun pre ρ => ∃ x3 x4 x5 x6 x7 x8, ρ = [some (.lst (ts.map (encF nm))), some (encN nm), some (.lst ((pre.foldl (fun l t => insAll (rootsOf t) l) []).map encX)), x3, x4, x5, x6, x7, x8])
    ts (ρ := [some (.lst (ts.map (encF nm))), some (encN nm), some (.lst []), none, none, none, none, none, none]) ⟨none, none, none, none, none, none, rfl⟩ (by
      rintro pre t post ρ e ⟨x3, x4, x5, x6, x7, x8, rfl⟩
      have zt := h t (by rw [e]; simp)
      obtain ⟨a1, _, _, _, a5⟩ := bordersL_is pre [] (fun z hz => h z (by rw [e]; simp [hz])) (BX.nil _)
      have lp : pre.length ≤ 1000 := by
        have := congrArg List.length e
        simp at this
        omega
      rw [List.foldl_append, List.foldl_cons, List.foldl_nil]
      generalize pre.foldl (fun l t => insAll (rootsOf t) l) [] = L at *
      have e1 := numbers_of_t hn t
      have e2 := roots_of_t zt hs
      have inner := forL_inv encX (G := gN 7) (b := b_borders_2) (fun pre ρ => ∃ x7 x8, ρ = [some (.lst (ts.map (encF nm))), some (encN nm), some (.lst ((insAll pre L).map encX)), some (encF nm t), some (.int t.1), some (.int t.2.1), some (.int t.2.2), x7, x8])
        (rootsOf t) (ρ := [some (.lst (ts.map (encF nm))), some (encN nm), some (.lst (L.map encX)), some (encF nm t), some (.int t.1), some (.int t.2.1), some (.int t.2.2), x7, x8]) ⟨x7, x8, rfl⟩ (by
          rintro pre x post ρ e ⟨x7, x8, rfl⟩
          have gr := rootsOf_good zt
          have l2 := rootsOf_len t
          have lp2 : pre.length ≤ 2 := by
            have := congrArg List.length e
            simp at this
            omega
          obtain ⟨b1, _, _, _, b5⟩ := insAll_is pre L (fun z hz => gr z (by rw [e]; simp [hz])) a1
          obtain ⟨x8', e3⟩ := borders_2 (gr x (by rw [e]; simp)) (by omega) (x0 := some (.lst (ts.map (encF nm)))) (x1 := some (encN nm)) (x3 := some (encF nm t)) (x4 := some (.int t.1)) (x5 := some (.int t.2.1)) (x6 := some (.int t.2.2)) (x7 := x7) (x8 := x8) (insAll pre L) b1.good (by rw [List.length_nil] at a5; omega)
          refine ⟨_, e3, some (encX x), x8', ?_⟩
          unfold insAll
          rw [List.foldl_append]
          rfl)
      obtain ⟨ρ', e3, x7', x8', rfl⟩ := inner
      refine ⟨_, ?_, some (encF nm t), some (.int t.1), some (.int t.2.1), some (.int t.2.2), x7', x8', rfl⟩
      clear e lp a1 a5 zt
      unfold b_borders_3
      walk_at "go")
  obtain ⟨ρ', e1, x3, x4, x5, x6, x7, x8, rfl⟩ := loop
  have e1 : forL (gN 3) b_borders_3 (ts.map (encF nm)) [some (.lst (ts.map (encF nm))), some (encN nm), some (.lst []), none, none, none, none, none, none] = .nx [some (.lst (ts.map (encF nm))), some (encN nm), some (.lst ((bordersOf ts).map encX)), x3, x4, x5, x6, x7, x8] := e1
  unfold m_borders b_borders
  walk_at "go"
  rfl
theorem in_words (l : List Nat) : dIn (.str (S l)) (.lst (words.map fun w => .str (S w))) = .ok (.bl (decide (l ∈ words))) := by
  show ((dInL false (.str (S l)) (.lst (words.map fun w => .str (S w)))).or _) = _
  have : dInL false (.str (S l)) (.lst (words.map fun w => .str (S w))) = .ok (.bl (decide (l ∈ words))) := by
    show chk _ (Out.ok (D.bl (if false = true then _ else _))) = _
    rw [chk_pos ⟨rfl, by simp [List.all_map, flatD]⟩, if_neg Bool.false_ne_true]
    congr 2
    rw [List.any_map]
    have : ((fun y => eqD y (D.str (S l))) ∘ fun w => D.str (S w)) = fun w => decide (w = l) := by
      funext w
      exact S_beq w l
    rw [this]
    exact Bool.eq_iff_iff.mpr (by simp [List.any_eq_true])
  rw [this]; rfl
theorem words_lst : mkLst [.str (Str.ofString "some"), .str (Str.ofString "all"), .str (Str.ofString "and"), .str (Str.ofString "or"), .str (Str.ofString "not"), .str (Str.ofString "yes"), .str (Str.ofString "no")] = .ok (.lst (words.map fun w => .str (S w))) := by
  have e0 : Str.ofString "some" = S [115, 111, 109, 101] := by decide +kernel
  have e1 : Str.ofString "all" = S [97, 108, 108] := by decide +kernel
  have e2 : Str.ofString "and" = S [97, 110, 100] := by decide +kernel
  have e3 : Str.ofString "or" = S [111, 114] := by decide +kernel
  have e4 : Str.ofString "not" = S [110, 111, 116] := by decide +kernel
  have e5 : Str.ofString "yes" = S [121, 101, 115] := by decide +kernel
  have e6 : Str.ofString "no" = S [110, 111] := by decide +kernel
  rw [e0, e1, e2, e3, e4, e5, e6]
  exact chk_pos (by decide)
theorem law_name_eq {c : Int} (h : 0 ≤ c) : ∃ a, m__law_name [.int c] = .ok (.str (S a)) ∧ Nm a := by
  have loop := forL_range (G := gN 3) (b := b__law_name_1) (fun k ρ => ∃ (c' : Int) (acc : List Nat) (x : Option D), ρ = [some (.int c'), some (.str (S abc)), some (.str (S acc)), x] ∧ 0 ≤ c' ∧ acc.length = k ∧ ∀ z ∈ acc, 97 ≤ z ∧ z ≤ 122)
    (1 + c % 8).toNat (ρ := [some (.int c), some (.str (S abc)), some (.str (S [])), none]) ⟨c, [], none, rfl, h, rfl, fun z hz => nomatch hz⟩ (by
      rintro k ρ hk ⟨c', acc, x, rfl, h0, hl, hz⟩
      have m0 : 0 ≤ c' / 8 % 26 := Int.emod_nonneg _ (by decide)
      have m1 : c' / 8 % 26 < 26 := Int.emod_lt_of_pos _ (by decide)
      have e1 := abc_at m0 m1
      have e4 := dAdd_S (a := acc) (b := [97 + (c' / 8 % 26).toNat]) (by simp; omega)
      refine ⟨[some (.int (c' / 8 / 4)), some (.str (S abc)), some (.str (S (acc ++ [97 + (c' / 8 % 26).toNat]))), some (.int (k : Nat))], ?_, c' / 8 / 4, _, _, rfl, by omega, by simp [hl], ?_⟩
      · clear hz
        unfold b__law_name_1
        walk_at "wk"
        refine chkS_go (cdiv_sz (n := 5) (by decide) (by unfold Sz; decide) (by decide)) ?_
        refine chkS_go (by decide) ?_
        rw [e1]
        walk_at "wk"
        rw [e4]
        walk_at "wk"
        refine chkS_go (cdiv_sz (n := 5) (by decide) (by unfold Sz; decide) (by decide)) ?_
        rfl
      · intro z hz'
        rcases List.mem_append.mp hz' with q | q
        · exact hz z q
        · have : z = 97 + (c' / 8 % 26).toNat := by simpa using q
          subst this; omega)
  obtain ⟨ρ', e, c', acc, x, rfl, h0, hl, hz⟩ := loop
  have la : 1 ≤ acc.length ∧ acc.length ≤ 8 := by rw [hl]; omega
  refine ⟨fit acc, ?_, fit_nm la.1 (by omega) hz⟩
  have e0 : Str.ofString "" = S [] := by decide +kernel
  have e7 : Str.ofString "q" = S [113] := by decide +kernel
  have e8 := words_lst
  have e9 := in_words acc
  have e10 := dAdd_S (a := acc) (b := [113]) (by simp; omega)
  have eA := abc_str
  unfold m__law_name b__law_name
  rw [eA, e0, e7]
  walk_at "wk"
  refine chk_go (by decide) ?_
  refine chk_go (by omega) ?_
  rw [e]
  walk_at "wk"
  rw [e8]
  walk_at "wk"
  rw [e9]
  walk_at "wk"
  unfold fit
  by_cases c : acc ∈ words
  · simp only [c, decide_true, if_true]
    rw [e10]
    rfl
  · simp only [c, decide_false, if_false, Bool.false_eq_true]
theorem pick3 {a b c : D} {i : Int} (h0 : 0 ≤ i) (h : i < 3) : ∃ d, dIx (.lst [a, b, c]) (.int i) = .ok d ∧ (d = a ∨ d = b ∨ d = c) := by
  have : i = (0 : Nat) ∨ i = (1 : Nat) ∨ i = (2 : Nat) := by omega
  rcases this with rfl | rfl | rfl
  · exact ⟨a, dIx_lst rfl, .inl rfl⟩
  · exact ⟨b, dIx_lst rfl, .inr (.inl rfl)⟩
  · exact ⟨c, dIx_lst rfl, .inr (.inr rfl)⟩
theorem pick4 {a b c e : Int} {i : Int} (h0 : 0 ≤ i) (h : i < 4) : ∃ d, dIx (.lst [.int a, .int b, .int c, .int e]) (.int i) = .ok (.int d) ∧ (d = a ∨ d = b ∨ d = c ∨ d = e) := by
  have : i = (0 : Nat) ∨ i = (1 : Nat) ∨ i = (2 : Nat) ∨ i = (3 : Nat) := by omega
  rcases this with rfl | rfl | rfl | rfl
  · exact ⟨a, dIx_lst rfl, .inl rfl⟩
  · exact ⟨b, dIx_lst rfl, .inr (.inl rfl)⟩
  · exact ⟨c, dIx_lst rfl, .inr (.inr (.inl rfl))⟩
  · exact ⟨e, dIx_lst rfl, .inr (.inr (.inr rfl))⟩
theorem planted_eq {n w : Int} (h0 : 0 ≤ n) (hw : w = 0 ∨ w = 1 ∨ w = 2) : ∃ t, m__law_planted [.int n, .int w] = .ok (encT t) ∧ SzT 130 t := by
  obtain ⟨s, es, hs⟩ := pick4 (a := 2) (b := 9) (c := 10000) (e := 1000000000) (i := n % 4) (by omega) (by omega)
  have s0 : 0 < s ∧ s ≤ 1000000000 := by omega
  obtain ⟨p, ep, p1, p2'⟩ := signed_eq (n := n / 4) (m := s) (by omega) (Int.lt_of_le_of_lt s0.2 (by decide))
  obtain ⟨u, eu, u1, u2⟩ := signed_eq (n := n / 1000000000000000000000000) (m := s) (by omega) (Int.lt_of_le_of_lt s0.2 (by decide))
  have p46 : dPow (.int 10) (.int 46) = .ok (.int 10000000000000000000000000000000000000000000000) := chk_pos ⟨by decide, by decide, by decide⟩
  have p36 : dPow (.int 10) (.int 36) = .ok (.int 1000000000000000000000000000000000000) := chk_pos ⟨by decide, by decide, by decide⟩
  have p48 : dPow (.int 10) (.int 48) = .ok (.int 1000000000000000000000000000000000000000000000000) := chk_pos ⟨by decide, by decide, by decide⟩
  have z2 : Sz 2 2 := by unfold Sz; decide
  have a0 := Int.emod_nonneg (n / 1000000000000) (show s ≠ 0 by omega)
  have a1 := Int.emod_lt_of_pos (n / 1000000000000) s0.1
  have b0 := Int.emod_nonneg (n / 1000000000000000000000000000000000000) (show s ≠ 0 by omega)
  have b1 := Int.emod_lt_of_pos (n / 1000000000000000000000000000000000000) s0.1
  have c0 := Int.emod_nonneg (n / 10000000000000000000000000000000000000000000000) (show (2 : Int) ≠ 0 by decide)
  have c1 := Int.emod_lt_of_pos (n / 10000000000000000000000000000000000000000000000) (show (0 : Int) < 2 by decide)
  have d0 := Int.emod_nonneg (n / 1000000000000000000000000000000000000000000000000) (show (3 : Int) ≠ 0 by decide)
  have d1 := Int.emod_lt_of_pos (n / 1000000000000000000000000000000000000000000000000) (show (0 : Int) < 3 by decide)
  have k1 : CDivW n 4 := cdiv_sz (n := 5) (by decide) (by unfold Sz; decide) (by decide)
  have k2 : CDivW n 1000000000000 := cdiv_sz (n := 180) (by decide) (by unfold Sz; decide) (by decide)
  have k3 : CDivW n 1000000000000000000000000 := cdiv_sz (n := 180) (by decide) (by unfold Sz; decide) (by decide)
  have k4 : CDivW n 1000000000000000000000000000000000000 := cdiv_sz (n := 180) (by decide) (by unfold Sz; decide) (by decide)
  have k5 : CDivW n 10000000000000000000000000000000000000000000000 := cdiv_sz (n := 180) (by decide) (by unfold Sz; decide) (by decide)
  have k6 : CDivW n 1000000000000000000000000000000000000000000000000 := cdiv_sz (n := 180) (by decide) (by unfold Sz; decide) (by decide)
  have k7 : CMulX 2 (n / 10000000000000000000000000000000000000000000000 % 2) := cmul_sz (n := 2) (m := 2) z2 (by unfold Sz; omega) (by decide)
  have zg : Sz 2 (1 - 2 * (n / 10000000000000000000000000000000000000000000000 % 2)) := by unfold Sz; omega
  have zp : Sz 31 p := by unfold Sz; omega
  have zu : Sz 31 u := by unfold Sz; omega
  have zs : Sz 31 (1 + n / 1000000000000 % s) := by unfold Sz; omega
  have zt : Sz 31 (1 + n / 1000000000000000000000000000000000000 % s) := by unfold Sz; omega
  have zz : Sz 100 0 := by unfold Sz; decide
  clear a0 a1 b0 b1 c0 c1 hs p1 p2' u1 u2 h0
  have k8 := s0.1
  clear s0
  unfold m__law_planted b__law_planted
  rcases hw with rfl | rfl | rfl
  · generalize hG : 1 - 2 * (n / 10000000000000000000000000000000000000000000000 % 2) = g at *
    generalize hA : 1 + n / 1000000000000 % s = a at *
    generalize hB : 1 + n / 1000000000000000000000000000000000000 % s = b at *
    have y1 := zg.mul zp
    have y2 := y1.mul zu
    have y3 := zp.mul zt
    have y4 := zu.mul zs
    have y5 := y3.add y4
    have y6 := zg.mul y5
    have y7 := zg.mul zs
    have y8 := y7.mul zt
    refine ⟨(g * p * u, 0 - g * (p * b + u * a), g * a * b), ?_, y2.mono (by decide), zz.sub (y6.mono (by decide)) |>.mono (by decide), y8.mono (by decide)⟩
    walk_at "go"
    rfl
  · generalize hG : 1 - 2 * (n / 10000000000000000000000000000000000000000000000 % 2) = g at *
    generalize hA : 1 + n / 1000000000000 % s = a at *
    generalize hB : 1 + n / 1000000000000000000000000000000000000 % s = b at *
    have y1 := zp.mul zp
    have y2 := y1.sub (zu.mono (show 31 ≤ 31 + 31 by decide))
    have y3 := zg.mul y2
    have y4 := z2.mul zg
    have y5 := y4.mul zp
    have y6 := y5.mul zs
    have y7 := zg.mul zs
    have y8 := y7.mul zs
    refine ⟨(g * (p * p - u), 0 - 2 * g * p * a, g * a * a), ?_, y3.mono (by decide), zz.sub (y6.mono (by decide)) |>.mono (by decide), y8.mono (by decide)⟩
    walk_at "go"
    rfl
  · generalize hG : 1 - 2 * (n / 10000000000000000000000000000000000000000000000 % 2) = g at *
    generalize hA : 1 + n / 1000000000000 % s = a at *
    generalize hB : 1 + n / 1000000000000000000000000000000000000 % s = b at *
    have y1 := zg.mul zp
    have y2 := zg.mul zs
    obtain ⟨d, ed, hd⟩ := pick3 (a := .tup [.int (g * p), .int (g * a), .int 0]) (b := .tup [.int (g * p), .int 0, .int 0]) (c := .tup [.int 0, .int 0, .int 0]) d0 d1
    have ht : ∃ t, d = encT t ∧ SzT 130 t := by
      rcases hd with rfl | rfl | rfl
      · exact ⟨(g * p, g * a, 0), rfl, y1.mono (by decide), y2.mono (by decide), zz.mono (by decide)⟩
      · exact ⟨(g * p, 0, 0), rfl, y1.mono (by decide), zz.mono (by decide), zz.mono (by decide)⟩
      · exact ⟨(0, 0, 0), rfl, zz.mono (by decide), zz.mono (by decide), zz.mono (by decide)⟩
    obtain ⟨t, rfl, zt⟩ := ht
    refine ⟨t, ?_, zt⟩
    walk_at "go"
theorem digits_eq (n : Int) : ∃ t, m__law_digits [.int n] = .ok (encT t) ∧ SzT 90 t := by
  obtain ⟨s, es, hs⟩ := pick4 (a := 2) (b := 9) (c := 1000000) (e := 10000000000000000000000000) (i := n % 4) (by omega) (by omega)
  have s0 : 0 ≤ s ∧ s ≤ 10000000000000000000000000 := by omega
  have sw : CMulX 2 s := cmul_sz (n := 2) (m := 100) (by unfold Sz; decide) (by unfold Sz; omega) (by decide)
  have step : ∀ (x : Int) (acc : List D) (x3 : Option D) (d : D), acc.length ≤ 100 →
      ∃ y a : Int, (oS (gN 3 d [some (.int x), some (.int s), some (.lst acc), x3]) b__law_digits_1).cont = .nx [some (.int y), some (.int s), some (.lst (acc ++ [.int a])), some d] ∧ -s ≤ a ∧ a ≤ s := by
    intro x acc x3 d la
    obtain ⟨a, ea, a1, a2⟩ := signed_eq (n := x) (m := s) s0.1 (Int.lt_of_le_of_lt s0.2 (by decide))
    have cw : CDivW x (2 * s + 1) := cdiv_sz (n := 200) (by omega) (by unfold Sz; omega) (by decide)
    refine ⟨x / (2 * s + 1), a, ?_, a1, a2⟩
    have la' : acc.length < sizeLine := len_lt (by omega)
    clear la a1 a2 s0 hs
    unfold b__law_digits_1
    walk_at "go"
  have k1 : CDivW n 4 := cdiv_sz (n := 5) (by decide) (by unfold Sz; decide) (by decide)
  obtain ⟨a1, b1, e1, r1, t1⟩ := step (n / 4) [] none (.int 0) (by simp)
  obtain ⟨a2, b2, e2, r2, t2⟩ := step a1 ([] ++ [.int b1]) (some (.int 0)) (.int 1) (by simp)
  obtain ⟨a3, b3, e3, r3, t3⟩ := step a2 (([] ++ [.int b1]) ++ [.int b2]) (some (.int 1)) (.int 2) (by simp)
  refine ⟨(b1, b2, b3), ?_, by unfold Sz; simp only []; omega, by unfold Sz; simp only []; omega, by unfold Sz; simp only []; omega⟩
  have f6 : forL (gN 3) b__law_digits_1 [.int 0, .int 1, .int 2] [some (.int (n / 4)), some (.int s), some (.lst []), none] = .nx [some (.int a3), some (.int s), some (.lst [.int b1, .int b2, .int b3]), some (.int 2)] := by
    rw [forL_step e1, forL_step e2, forL_step e3]; rfl
  have f7 := rng_3
  clear step e1 e2 e3 r1 r2 r3 t1 t2 t3 s0 hs
  unfold m__law_digits b__law_digits
  walk_at "go"
  rfl
theorem triple_eq {n : Int} {t : T3} {k : Nat} (h0 : 0 ≤ n) (h1 : n < 1000000000000000000000000000000000000000000000000000000000000) (ht : SzT k t) (hk : 130 ≤ k) (hk2 : k ≤ 10000) : ∃ t', m__law_triple [.int n, encT t] = .ok (encT t') ∧ SzT (k + 3) t' := by
  obtain ⟨c, b, a⟩ := t
  obtain ⟨z1, z2, z3⟩ := ht
  simp only [] at z1 z2 z3
  have k1 : CDivW n 7 := cdiv_sz (n := 5) (by decide) (by unfold Sz; decide) (by decide)
  obtain ⟨t1, f1, y1⟩ := free_eq (n := n / 7) (by omega) (by omega)
  have hp : n % 7 = 0 ∨ n % 7 = 1 ∨ n % 7 = 2 ∨ (3 ≤ n % 7 ∧ n % 7 < 7) := by omega
  unfold m__law_triple b__law_triple
  by_cases c3 : n % 7 < 3
  · obtain ⟨t2, f2, y2⟩ := planted_eq (n := n / 7) (w := n % 7) (by omega) (by omega)
    refine ⟨t2, ?_, y2.mono (by omega)⟩
    clear f1 y1 hp
    walk_at "go"
  · by_cases c4 : n % 7 = 3
    · refine ⟨(c + 1 - n / 7 % 3, b, a), ?_, ?_, z2.mono (by omega), z3.mono (by omega)⟩
      · clear f1 y1 hp
        unfold encT
        walk_at "go"
      · have : Sz 2 (1 - n / 7 % 3) := by unfold Sz; omega
        have := (z1.add (this.mono (show 2 ≤ k by omega))).mono (show k + 1 ≤ k + 3 by omega)
        rwa [show c + (1 - n / 7 % 3) = c + 1 - n / 7 % 3 by omega] at this
    · by_cases c5 : n % 7 = 4
      · obtain ⟨d, ed, hd⟩ := pick4 (a := 2) (b := -1) (c := -3) (e := 5) (i := n / 7 % 4) (by omega) (by omega)
        have zd : Sz 3 d := by unfold Sz; omega
        have x1 := z1.mul zd
        have x2 := z2.mul zd
        have x3 := z3.mul zd
        have w1 := cmul_sz z1 zd (by omega)
        have w2 := cmul_sz z2 zd (by omega)
        have w3 := cmul_sz z3 zd (by omega)
        refine ⟨(c * d, b * d, a * d), ?_, x1, x2, x3⟩
        clear f1 y1 hp hd
        unfold encT
        walk_at "go"
      · refine ⟨t1, ?_, y1.mono (by omega)⟩
        clear hp
        unfold encT at *
        walk_at "go"
theorem triples_eq {ns : List Int} (hl : ns.length ≤ 63) (hb : ∀ z ∈ ns, Builtin.Int.intBits z ≤ 1048576) {i j : Nat} (hi : i ≤ 63) (hj : j ≤ 63) :
    ∃ ts : List T3, m__law_triples [.scr ns, .int i, .int j] = .ok (.lst (ts.map encT)) ∧ ts.length ≤ 63 ∧ ∀ t ∈ ts, SzT 400 t := by
  obtain ⟨bb, hbd⟩ := by_digits_eq ns
  have loop := forL_inv (fun (n : Nat) => D.int ((i : Int) + n)) (G := gN 5) (b := b__law_triples_1)
    (fun pre ρ => ∃ (ts : List T3) (last : T3) (x : Option D), ρ = [some (.scr ns), some (.int i), some (.int j), some (.lst (ts.map encT)), some (encT last), x] ∧ ts.length = pre.length ∧ (∀ t ∈ ts, SzT 400 t) ∧ SzT (130 + 3 * pre.length) last)
    (List.range (min (j : Int) ns.length - i).toNat) (ρ := [some (.scr ns), some (.int i), some (.int j), some (.lst []), some (encT (0, 0, 0)), none])
    ⟨[], (0, 0, 0), none, rfl, rfl, (fun t h => by cases h), ⟨by unfold Sz; decide, by unfold Sz; decide, by unfold Sz; decide⟩⟩ (by
      rintro pre k post ρ e ⟨ts, last, x, rfl, hlen, hts, hlast⟩
      have hk : k ∈ List.range (min (j : Int) ns.length - i).toNat := by rw [e]; simp
      have hk := List.mem_range.mp hk
      have hpre : pre.length ≤ 62 := by
        have := congrArg List.length e
        simp at this
        omega
      have ek : ((i : Int) + k) = ((i + k : Nat) : Int) := by simp
      obtain ⟨n, hn, n0, n1⟩ := cell_eq hb (k := i + k) (by omega)
      obtain ⟨z, e2⟩ : ∃ z, dIx (.scr ns) (.int ((i + k : Nat) : Int)) = .ok (.int z) := ⟨ns[i + k]'(by omega), dIx_scr (by simp)⟩
      obtain ⟨t1, f1, y1⟩ := triple_eq n0 n1 hlast (by omega) (by omega)
      obtain ⟨t2, f2, y2⟩ := digits_eq z
      have la : (List.map encT ts).length < sizeLine := len_lt (by simp; omega)
      rw [ek]
      cases bb with
      | true =>
        refine ⟨_, ?_, ts ++ [t2], t2, some (.int ((i + k : Nat) : Int)), rfl, by simp [hlen], ?_, y2.mono (by omega)⟩
        · clear y1 y2 hlast hts hk hpre hlen e
          unfold b__law_triples_1
          rw [List.map_append]
          walk_at "go"
        · intro t h
          rcases List.mem_append.mp h with q | q
          · exact hts t q
          · have : t = t2 := by simpa using q
            subst this; exact y2.mono (by omega)
      | false =>
        refine ⟨_, ?_, ts ++ [t1], t1, some (.int ((i + k : Nat) : Int)), rfl, by simp [hlen], ?_, y1.mono (by simp; omega)⟩
        · clear y1 y2 hlast hts hk hpre hlen e
          unfold b__law_triples_1
          rw [List.map_append]
          walk_at "go"
        · intro t h
          rcases List.mem_append.mp h with q | q
          · exact hts t q
          · have : t = t1 := by simpa using q
            subst this; exact y1.mono (by omega))
  obtain ⟨ρ', e, ts, last, x, rfl, hlen, hts, _⟩ := loop
  refine ⟨ts, ?_, by rw [hlen]; simp; omega, hts⟩
  have r := rng2_ok (i := (i : Int)) (j := min (j : Int) ns.length) (by omega) (by omega) (by omega) (by omega)
  clear hts hb hbd
  unfold m__law_triples b__law_triples
  walk_at "go"
  rw [show (D.tup [D.int 0, D.int 0, D.int 0]) = encT (0, 0, 0) from rfl, e]
  walk_at "go"
/-! what the laws of the line ask -/
def gz (t : T3) (x : N4) : Prop := pol t (val x) = 0
theorem law_at_eq {n : Nat} {t : T3} {x : N4} (z : SzT n t) (hx : GoodX n x) (hn : n ≤ 100000) : m__law_at [encT t, encX x] = .ok (.int (Re.sgn (pol t (val x)))) := by
  obtain ⟨c, b, a⟩ := t
  obtain ⟨p, q, r, s⟩ := x
  obtain ⟨zc, zb, za⟩ := z
  obtain ⟨r0, s0, zp, zq, zr, zs⟩ := hx
  simp only [] at *
  have z2 : Sz 2 2 := by unfold Sz; decide
  have k1 := cmul_sz zp zp (by omega)
  have k2 := cmul_sz zq zq (by omega)
  have k3 := cmul_sz (zq.mul zq) zr (by omega)
  have y1 : Sz (4 * n) (p * p + q * q * r) := (((zp.mul zp).mono (show n + n ≤ n + n + n by omega)).add ((zq.mul zq).mul zr)).mono (by
    have : 0 < n := by
      rcases Nat.eq_zero_or_pos n with h | h
      · subst h; unfold Sz at zs; simp at zs; omega
      · exact h
    omega)
  have k4 := cmul_sz za y1 (by omega)
  have k5 := cmul_sz zb zp (by omega)
  have k6 := cmul_sz (zb.mul zp) zs (by omega)
  have k7 := cmul_sz zc zs (by omega)
  have k8 := cmul_sz (zc.mul zs) zs (by omega)
  have y2 := (((za.mul y1).mono (show n + 4 * n ≤ 5 * n by omega)).add (((zb.mul zp).mul zs).mono (show n + n + n ≤ 5 * n by omega))).add (((zc.mul zs).mul zs).mono (show n + n + n ≤ 5 * n + 1 by omega))
  have k9 := cmul_sz z2 za (by omega)
  have j1 := cmul_sz (z2.mul za) zp (by omega)
  have j2 := cmul_sz ((z2.mul za).mul zp) zq (by omega)
  have j3 := cmul_sz zb zq (by omega)
  have j4 := cmul_sz (zb.mul zq) zs (by omega)
  have y3 := ((((z2.mul za).mul zp).mul zq).mono (show 2 + n + n + n ≤ 5 * n + 2 by omega)).add (((zb.mul zq).mul zs).mono (show n + n + n ≤ 5 * n + 2 by omega))
  have e1 := law_sign_eq (y2.mono (show 5 * n + 1 + 1 ≤ 5 * n + 3 by omega)) (y3.mono (show 5 * n + 2 + 1 ≤ 5 * n + 3 by omega)) (zr.mono (show n ≤ 5 * n + 3 by omega)) (by omega)
  have key : Re.sgn (pol (c, b, a) (val (p, q, r, s))) = lawSign (a * (p * p + q * q * r) + b * p * s + c * s * s) (2 * a * p * q + b * q * s) r := by
    rw [← sign_law r0, Re.one_sgn r0]
    have h1 := val_mul (x := (p, q, r, s)) s0
    have c1 := Re.cast_pos' s0
    have c3 : (0 : Re) < (s : Re) * (s : Re) := by
      have := Lean.Grind.OrderedRing.mul_lt_mul_of_pos_left c1 c1
      grind
    rw [← Re.sgn_scale (x := pol (c, b, a) (val (p, q, r, s))) c3]
    have h2 := Re.root_sq r0
    unfold pol
    simp only [Re.cast_add, Re.cast_mul, Re.cast_2] at h1 ⊢
    generalize val (p, q, r, s) = X at *
    generalize Re.root r = R at *
    congr 1
    have : (s : Re) * s * ((c : Re) + b * X + a * X * X) = c * s * s + b * (X * s) * s + a * (X * s) * (X * s) := by grind
    rw [this, h1]
    grind
  rw [key]
  clear key y1 y2 y3 zc zb za r0 s0 zp zq zr zs z2
  unfold m__law_at b__law_at
  rw [show encT (c, b, a) = .tup [.int c, .int b, .int a] from rfl, show encX (p, q, r, s) = .tup [.int p, .int q, .int r, .int s] from rfl]
  walk_at "go"
theorem law_is_number_eq {n : Nat} {x : N4} (hx : GoodX n x) : m__law_is_number [encX x] = .ok (.bl true) := by
  obtain ⟨p, q, r, s⟩ := x
  obtain ⟨r0, s0, zp, zq, zr, zs⟩ := hx
  simp only [] at *
  clear zp zq zr zs
  have loop : forL (gN 1) b__law_is_number_1 [.int p, .int q, .int r, .int s] [some (.tup [.int p, .int q, .int r, .int s]), none] = .nx [some (.tup [.int p, .int q, .int r, .int s]), some (.int s)] := by
    have st : ∀ (i : Int) (x : Option D), (oS (gN 1 (.int i) [some (.tup [.int p, .int q, .int r, .int s]), x]) b__law_is_number_1).cont = .nx [some (.tup [.int p, .int q, .int r, .int s]), some (.int i)] := by
      intro i x
      unfold b__law_is_number_1
      walk_at "go"
    rw [forL_step (st p _), forL_step (st q _), forL_step (st r _), forL_step (st s _)]
    rfl
  have s1 : 1 ≤ s := by omega
  have ci : cIsi [.tup [.int p, .int q, .int r, .int s], .ty "tuple"] = .ok (.bl true) := rfl
  unfold m__law_is_number b__law_is_number
  rw [show encX (p, q, r, s) = .tup [.int p, .int q, .int r, .int s] from rfl]
  walk_at "go"
  all_goals simp [*]
theorem law_many_eq {n : Nat} {t : T3} (z : SzT n t) (hn : n ≤ 10000) : m__law_many [encT t] = .ok (.int (many t)) := by
  obtain ⟨c, b, a⟩ := t
  obtain ⟨zc, zb, za⟩ := z
  simp only [] at *
  have z4 : Sz 3 4 := by unfold Sz; decide
  have k1 := cmul_sz zb zb (by omega)
  have k2 := cmul_sz z4 za (by omega)
  have k3 := cmul_sz (z4.mul za) zc (by omega)
  clear zc zb za z4
  unfold m__law_many b__law_many many
  rw [show encT (c, b, a) = .tup [.int c, .int b, .int a] from rfl]
  simp only []
  by_cases h : a = 0
  · by_cases k : b = 0
    · subst h; subst k
      walk_at "go"
      simp
    · walk_at "go"
      simp [k]
  · walk_at "go"
theorem dNe_T (t : T3) : dNe (encT t) (.tup [.int 0, .int 0, .int 0]) = .ok (.bl (!decide (t = (0, 0, 0)))) := by
  obtain ⟨c, b, a⟩ := t
  unfold dNe
  rw [chk_pos ⟨rfl, rfl⟩]
  have : PyData.eqv (toPy (encT (c, b, a))) (toPy (.tup [.int 0, .int 0, .int 0])) = decide ((c, b, a) = ((0, 0, 0) : T3)) := by
    show (PyData.eqv (.int c) (.int 0) && (PyData.eqv (.int b) (.int 0) && (PyData.eqv (.int a) (.int 0) && true))) = _
    have e : ∀ i : Int, PyData.eqv (.int i) (.int 0) = decide (i = 0) := fun i => by simp [PyData.eqv]; rfl
    rw [e, e, e]
    by_cases h1 : c = 0 <;> by_cases h2 : b = 0 <;> by_cases h3 : a = 0 <;> simp [h1, h2, h3]
  rw [this]
theorem bls_D (l : List Bool) : blsD (l.map D.bl) = some l := by
  induction l with
  | nil => rfl
  | cons x l ih => rw [List.map_cons]; show (blsD (l.map D.bl)).map (x :: ·) = _; rw [ih]; rfl
theorem cAny_B (l : List Bool) : cAny [.lst (l.map D.bl)] = .ok (.bl (l.any id)) := by
  show (match blsD (l.map D.bl) with | some ns => Out.ok (D.bl (ns.any id)) | none => .stuck) = _
  rw [bls_D]
/-- as many of the borders as a form has roots -/
theorem count_roots {l : List N4} {t : T3} (up : UpX l) (nz : t ≠ (0, 0, 0)) (h : ∀ x ∈ rootsOf t, ∃ y ∈ l, val y = val x) : ((l.filter fun x => decide (Re.sgn (pol t (val x)) = 0)).length : Int) = many t := by
  obtain ⟨h1, h2, h3⟩ := rootsOf_is nz
  rw [← h3]
  have e : (l.filter fun x => decide (Re.sgn (pol t (val x)) = 0)).map val = (rootsOf t).map val := by
    refine eq_of_up (R := fun x y : Re => x < y) (fun a b p q => by grind) ?_ ?_ ?_
    · rw [List.pairwise_map]; exact up.filter _
    · rw [List.pairwise_map]; exact h2
    · intro X
      rw [List.mem_map, List.mem_map]
      constructor
      · rintro ⟨y, hy, rfl⟩
        have := of_decide_eq_true (List.mem_filter.mp hy).2
        obtain ⟨x, hx, e⟩ := (h1 (val y)).mp (Re.sgn_zero.mp this)
        exact ⟨x, hx, e⟩
      · rintro ⟨x, hx, rfl⟩
        obtain ⟨y, hy, e⟩ := h x hx
        refine ⟨y, List.mem_filter.mpr ⟨hy, decide_eq_true (Re.sgn_zero.mpr ?_)⟩, e⟩
        exact (h1 (val y)).mpr ⟨x, hx, e.symm⟩
  have := congrArg List.length e
  rw [List.length_map, List.length_map] at this
  rw [this]
theorem cell_w {ns : List Int} (hb : ∀ z ∈ ns, Builtin.Int.intBits z ≤ 1048576) (k : Nat) : ∃ n : Int, m__law_cell_v2 [.scr ns, .int k] = .ok (.int n) ∧ 0 ≤ n ∧ n < 1000000000000000000000000000000000000000000000000000000000000 := by
  by_cases h : k < ns.length
  · exact cell_eq hb h
  · refine ⟨0, ?_, by decide, by decide⟩
    have e5 : ¬ (k : Int) < ns.length := by omega
    unfold m__law_cell_v2 b__law_cell_v2
    walk_at "go"
theorem rising_eq {n : Nat} {l : List N4} (h : BX n l) (hn : n ≤ 40000) (hl : l.length ≤ 10000) : m__law_rising [.tup (l.map encX)] = .ok (.bl true) := by
  obtain ⟨good, up⟩ := h
  have loop := forL_range (G := gN 1) (b := b__law_rising_1) (fun _ ρ => ∃ x, ρ = [some (.tup (l.map encX)), x]) l.length (ρ := [some (.tup (l.map encX)), none]) ⟨none, rfl⟩ (by
    rintro k ρ hk ⟨x, rfl⟩
    have e1 : dIx (.tup (l.map encX)) (.int (k : Nat)) = .ok (encX l[k]) := dIx_tup (by rw [List.getElem?_map, List.getElem?_eq_getElem hk]; rfl)
    have e2 := law_is_number_eq (good _ (List.getElem_mem hk))
    refine ⟨_, ?_, some (.int (k : Nat)), rfl⟩
    by_cases h0 : k = 0
    · subst h0
      have e3 : ¬ (0 : Int) < ((0 : Nat) : Int) := by decide
      clear good up
      unfold b__law_rising_1
      walk_at "go"
    · have hk1 : k - 1 < l.length := by omega
      have e3 : (0 : Int) < ((k : Nat) : Int) := by omega
      have e4 : dIx (.tup (l.map encX)) (.int ((k : Int) - 1)) = .ok (encX l[k - 1]) := by
        rw [show (k : Int) - 1 = ((k - 1 : Nat) : Int) by omega]
        exact dIx_tup (by rw [List.getElem?_map, List.getElem?_eq_getElem hk1]; rfl)
      have e5 := law_order_X (good _ (List.getElem_mem hk1)) (good _ (List.getElem_mem hk)) hn
      have e6 : ordX l[k - 1] l[k] < 0 := (ordX_lt (good _ (List.getElem_mem hk1)) (good _ (List.getElem_mem hk))).mpr (List.pairwise_iff_getElem.mp up (k - 1) k hk1 hk (by omega))
      have e7 : ¬ 0 ≤ ordX l[k - 1] l[k] := by omega
      clear good up e6
      unfold b__law_rising_1
      walk_at "go")
  obtain ⟨ρ', e, x, rfl⟩ := loop
  have e2 : (((l.map encX).length : Nat) : Int).toNat = l.length := by simp
  have e3 : -(2 ^ 62) ≤ (((l.map encX).length : Nat) : Int) ∧ (((l.map encX).length : Nat) : Int) < 2 ^ 62 := by simp; omega
  clear good up
  unfold m__law_rising b__law_rising
  walk_at "wk"
  refine chk_go e3 ?_
  rw [e2, e]
  rfl
def thereOf (ts : List T3) : List T3 := ts.filter fun t => !decide (t = (0, 0, 0))
theorem just_eq {n : Nat} {l : List N4} {ts : List T3} (h : BX n l) (ht : ∀ t ∈ ts, SzT n t) (hn : n ≤ 9000) (hl : l.length ≤ 10000) (hts : ts.length ≤ 10000)
    (h1 : ∀ y ∈ l, ∃ t ∈ ts, y ∈ rootsOf t) (h2 : ∀ t ∈ ts, ∀ x ∈ rootsOf t, ∃ y ∈ l, val y = val x) : m__law_just [.tup (l.map encX), .lst (ts.map encT)] = .ok (.bl true) := by
  obtain ⟨good, up⟩ := h
  have z1 : (ts.map encT).length ≤ sizeLine := len_ok (by simp; omega)
  have zT : ((thereOf ts).map encT).length ≤ sizeLine := len_ok (by
    rw [List.length_map]
    exact Nat.le_trans (List.length_filter_le _ ts) (by omega))
  have zX : (l.map encX).length ≤ sizeLine := len_ok (by simp; omega)
  have e1 : ∀ x0 x1 x2 x3 : Option D, lcL (gN 4) (tOf (PD.e2 dNe (eV 4) (eA mkTup (aC (eC (.int 0)) (aC (eC (.int 0)) (aC (eC (.int 0)) aN)))))) (eV 4) [x0, x1, x2, x3, none] (ts.map encT) = .ok ((thereOf ts).map encT) := by
    intro x0 x1 x2 x3
    refine lcL_filter encT (fun t => !decide (t = (0, 0, 0))) encT ts fun t _ => ?_
    have := dNe_T t
    walk_at "go"
    by_cases c : t = (0, 0, 0) <;> simp [c]
  have hT : ∀ t ∈ thereOf ts, t ∈ ts ∧ t ≠ (0, 0, 0) := fun t q => by
    have := List.mem_filter.mp q
    exact ⟨this.1, by simpa using this.2⟩
  have l1 := forL_inv encX (G := gN 3) (b := b__law_just_1) (fun _ ρ => ∃ x3, ρ = [some (.tup (l.map encX)), some (.lst (ts.map encT)), some (.lst ((thereOf ts).map encT)), x3, none]) l (ρ := [some (.tup (l.map encX)), some (.lst (ts.map encT)), some (.lst ((thereOf ts).map encT)), none, none]) ⟨none, rfl⟩ (by
    rintro pre x post ρ e ⟨x3, rfl⟩
    have hx : x ∈ l := by rw [e]; simp
    have gx := good x hx
    have e3 : ∀ x0 x1 x2 : Option D, lcL (gN 4) bYes (PD.e2 dEq (eA m__law_at (aC (eV 4) (aC (eV 3) aN))) (eC (.int 0))) [x0, x1, x2, some (encX x), none] ((thereOf ts).map encT) = .ok (((thereOf ts).map fun t => decide (Re.sgn (pol t (val x)) = 0)).map D.bl) := by
      intro x0 x1 x2
      rw [List.map_map]
      refine lcL_map encT _ _ fun t q => ?_
      have := law_at_eq (ht t (hT t q).1) gx (by omega)
      walk_at "go"
      rfl
    have e4 := cAny_B ((thereOf ts).map fun t => decide (Re.sgn (pol t (val x)) = 0))
    have e5 : ((thereOf ts).map fun t => decide (Re.sgn (pol t (val x)) = 0)).any id = true := by
      obtain ⟨t, q, q'⟩ := h1 x hx
      have nz : t ≠ (0, 0, 0) := by rintro rfl; exact absurd q' (by simp [rootsOf, rootsUp])
      rw [List.any_map, List.any_eq_true]
      refine ⟨t, List.mem_filter.mpr ⟨q, by simpa using nz⟩, decide_eq_true (Re.sgn_zero.mpr ?_)⟩
      exact ((rootsOf_is nz).1 (val x)).mpr ⟨x, q', rfl⟩
    rw [e5] at e4
    refine ⟨_, ?_, some (encX x), rfl⟩
    clear e5 e good up h1 h2 hx gx e1 hT
    unfold b__law_just_1
    walk_at "go")
  obtain ⟨ρ', e2, x3, rfl⟩ := l1
  have l2 := forL_inv encT (G := gN 4) (b := b__law_just_2) (fun _ ρ => ∃ x4, ρ = [some (.tup (l.map encX)), some (.lst (ts.map encT)), some (.lst ((thereOf ts).map encT)), x3, x4]) (thereOf ts) (ρ := [some (.tup (l.map encX)), some (.lst (ts.map encT)), some (.lst ((thereOf ts).map encT)), x3, none]) ⟨none, rfl⟩ (by
    rintro pre t post ρ e ⟨x4, rfl⟩
    have hx : t ∈ thereOf ts := by rw [e]; simp
    obtain ⟨q1, nz⟩ := hT t hx
    have zt := ht t q1
    have e3 : ∀ x0 x1 x2 : Option D, lcL (gN 3) (tOf (PD.e2 dEq (eA m__law_at (aC (eV 4) (aC (eV 3) aN))) (eC (.int 0)))) (eV 3) [x0, x1, x2, none, some (encT t)] (l.map encX) = .ok ((l.filter fun x => decide (Re.sgn (pol t (val x)) = 0)).map encX) := by
      intro x0 x1 x2
      refine lcL_filter encX (fun x => decide (Re.sgn (pol t (val x)) = 0)) encX l fun x q => ?_
      have := law_at_eq zt (good x q) (by omega)
      walk_at "go"
      by_cases c : Re.sgn (pol t (val x)) = 0 <;> simp [c]
    have e4 := count_roots up nz (h2 t q1)
    have e5 := law_many_eq zt (by omega)
    have e6 : (((l.filter fun x => decide (Re.sgn (pol t (val x)) = 0)).map encX).length : Int) = many t := by rw [List.length_map]; exact e4
    refine ⟨_, ?_, some (encT t), rfl⟩
    clear e good up h1 h2 hx e1 hT e4 zt ht
    unfold b__law_just_2
    walk_at "go")
  obtain ⟨ρ', e3, x4, rfl⟩ := l2
  clear good up h1 h2 hT ht
  unfold m__law_just b__law_just
  walk_at "go"
def flat (prs : List (N4 × N4)) : List N4 := prs.flatMap fun p => [p.1, p.2]
theorem flat_cons (p : N4 × N4) (prs : List (N4 × N4)) : flat (p :: prs) = p.1 :: p.2 :: flat prs := rfl
theorem flat_app (a b : List (N4 × N4)) : flat (a ++ b) = flat a ++ flat b := by unfold flat; rw [List.flatMap_append]
theorem flat_len (prs : List (N4 × N4)) : (flat prs).length = 2 * prs.length := by
  induction prs with
  | nil => rfl
  | cons p prs ih => rw [flat_cons]; simp [ih]; omega
theorem evens (prs : List (N4 × N4)) (last : N4) : (List.range (prs.length + 1)).filterMap (fun k => (flat prs ++ [last])[2 * k]?) = prs.map (·.1) ++ [last] := by
  induction prs with
  | nil => rfl
  | cons p prs ih =>
    rw [List.length_cons, List.range_succ_eq_map, List.filterMap_cons, List.filterMap_map]
    have e : ((fun k => (flat (p :: prs) ++ [last])[2 * k]?) ∘ Nat.succ) = fun k => (flat prs ++ [last])[2 * k]? := by
      funext k
      show (p.1 :: p.2 :: (flat prs ++ [last]))[2 * (k + 1)]? = _
      rw [show 2 * (k + 1) = 2 * k + 1 + 1 by omega, List.getElem?_cons_succ, List.getElem?_cons_succ]
    rw [e, ih]
    rfl
theorem odds (prs : List (N4 × N4)) (last : N4) : (List.range prs.length).filterMap (fun k => (flat prs ++ [last])[2 * k + 1]?) = prs.map (·.2) := by
  induction prs with
  | nil => rfl
  | cons p prs ih =>
    rw [List.length_cons, List.range_succ_eq_map, List.filterMap_cons, List.filterMap_map]
    have e : ((fun k => (flat (p :: prs) ++ [last])[2 * k + 1]?) ∘ Nat.succ) = fun k => (flat prs ++ [last])[2 * k + 1]? := by
      funext k
      show (p.1 :: p.2 :: (flat prs ++ [last]))[2 * (k + 1) + 1]? = _
      rw [show 2 * (k + 1) + 1 = 2 * k + 1 + 1 + 1 by omega, List.getElem?_cons_succ, List.getElem?_cons_succ]
    rw [e, ih]
    rfl
theorem pick_evens (prs : List (N4 × N4)) (last : N4) : pickT ((flat prs ++ [last]).map encX) none none 2 = (prs.map (·.1) ++ [last]).map encX := by
  unfold pickT
  have hl : ((flat prs ++ [last]).map encX).length = 2 * prs.length + 1 := by rw [List.length_map, List.length_append, flat_len]; rfl
  rw [hl]
  have e1 : Builtin.Slice.sliceAdjust none none 2 ((2 * prs.length + 1 : Nat) : Int) = (0, ((2 * prs.length + 1 : Nat) : Int)) := rfl
  rw [e1]
  have e2 : Builtin.Slice.slicePlaces 0 ((2 * prs.length + 1 : Nat) : Int) 2 = prs.length + 1 := by
    unfold Builtin.Slice.slicePlaces
    rw [if_pos (by decide), if_pos (by omega)]
    omega
  rw [e2, ← evens, List.map_filterMap]
  congr 1
  funext m
  rw [List.getElem?_map, show ((0 : Int) + (m : Int) * 2).toNat = 2 * m by omega]
theorem pick_odds (prs : List (N4 × N4)) (last : N4) : pickT ((flat prs ++ [last]).map encX) (some 1) none 2 = (prs.map (·.2)).map encX := by
  unfold pickT
  have hl : ((flat prs ++ [last]).map encX).length = 2 * prs.length + 1 := by rw [List.length_map, List.length_append, flat_len]; rfl
  rw [hl]
  have e1 : Builtin.Slice.sliceAdjust (some 1) none 2 ((2 * prs.length + 1 : Nat) : Int) = (1, ((2 * prs.length + 1 : Nat) : Int)) := by
    unfold Builtin.Slice.sliceAdjust
    simp
    omega
  rw [e1]
  have e2 : Builtin.Slice.slicePlaces 1 ((2 * prs.length + 1 : Nat) : Int) 2 = prs.length := by
    unfold Builtin.Slice.slicePlaces
    rw [if_pos (by decide)]
    split <;> omega
  rw [e2, ← odds prs last, List.map_filterMap]
  congr 1
  funext m
  rw [List.getElem?_map, show ((1 : Int) + (m : Int) * 2).toNat = 2 * m + 1 by omega]
theorem apart (last : N4) : ∀ prs : List (N4 × N4), UpX (flat prs ++ [last]) → ∀ f ∈ prs.map (·.1) ++ [last], ∀ b ∈ prs.map (·.2), val f ≠ val b := by
  intro prs
  induction prs with
  | nil => intro _ f _ b hb; cases hb
  | cons p prs ih =>
    intro u f hf b hb
    have u : UpX (p.1 :: p.2 :: (flat prs ++ [last])) := u
    obtain ⟨u1, u2⟩ := List.pairwise_cons.mp u
    obtain ⟨u3, u4⟩ := List.pairwise_cons.mp u2
    have inL : ∀ f ∈ prs.map (·.1) ++ [last], f ∈ flat prs ++ [last] := fun f hf => by
      rcases List.mem_append.mp hf with q | q
      · obtain ⟨p', hp', rfl⟩ := List.mem_map.mp q
        exact List.mem_append_left _ (List.mem_flatMap.mpr ⟨p', hp', by simp⟩)
      · exact List.mem_append_right _ q
    have inB : ∀ f ∈ prs.map (·.2), f ∈ flat prs ++ [last] := fun f hf => by
      obtain ⟨p', hp', rfl⟩ := List.mem_map.mp hf
      exact List.mem_append_left _ (List.mem_flatMap.mpr ⟨p', hp', by simp⟩)
    rcases List.mem_cons.mp hf with rfl | hf
    · rcases List.mem_cons.mp hb with rfl | hb
      · have := u1 p.2 List.mem_cons_self; grind
      · have := u1 b (List.mem_cons_of_mem _ (inB b hb)); grind
    · rcases List.mem_cons.mp hb with rfl | hb
      · have := u3 f (inL f hf); grind
      · exact ih u4 f hf b hb
theorem shaped_X (l : List N4) : SeqAt.shaped (toPy (.tup (l.map encX))) = true := by
  have h1 : PyData.canLayAll0 (toPys (l.map encX)) = true := by
    induction l with
    | nil => rfl
    | cons t l ih =>
      show (PyData.canLay0 (toPy (encX t)) && PyData.canLayAll0 (toPys (l.map encX))) = true
      rw [ih]; rfl
  have h2 : PyData.depthAll (toPys (l.map encX)) ≤ 2 := by
    clear h1
    induction l with
    | nil => exact Nat.zero_le _
    | cons t l ih =>
      show max (PyData.depth (toPy (encX t))) (PyData.depthAll (toPys (l.map encX))) ≤ 2
      have : PyData.depth (toPy (encX t)) ≤ 2 := by show 0 + 1 ≤ 2; decide
      omega
  unfold SeqAt.shaped
  rw [show toPy (.tup (l.map encX)) = .tuple (toPys (l.map encX)) from rfl]
  simp only [PyData.canLay0, h1, PyData.depth, Bool.true_and]
  exact decide_eq_true (by omega)
theorem dEq_nilX (l : List N4) : dEq (.tup (l.map encX)) (.tup []) = .ok (.bl (decide (l = []))) := by
  unfold dEq
  rw [chk_pos ⟨shaped_X l, rfl⟩]
  cases l with
  | nil => rfl
  | cons x l => rfl
theorem ix_last (pre : List D) (x : D) : dIx (.tup (pre ++ [x])) (.int (-1)) = .ok x := by
  show (match atI (pre ++ [x]) (-1) with | some n => Out.ok n | none => .stuck) = _
  have : atI (pre ++ [x]) (-1) = some x := by
    unfold atI ixN
    simp
    rw [if_pos (by omega)]
    show (pre ++ [x])[(-1 + ((pre.length : Int) + 1)).toNat]? = _
    rw [show (-1 + ((pre.length : Int) + 1)).toNat = pre.length by omega]
    simp
  rw [this]
theorem frac_good {n : Nat} {t : Int} (h : Sz n t) (h1 : 1 ≤ n) : GoodX n (t, 0, 0, 1) :=
  ⟨Int.le_refl _, by show (0 : Int) < 1; decide, h, (show Sz 1 0 by unfold Sz; decide).mono h1, (show Sz 1 0 by unfold Sz; decide).mono h1, (show Sz 1 1 by unfold Sz; decide).mono h1⟩
theorem val_int (t : Int) : val (t, 0, 0, 1) = (t : Re) := by
  have := val_frac t 1 (by decide)
  rw [Re.cast_1] at this
  grind
theorem floor_X {n : Nat} {x : N4} (h : GoodX n x) (hn : n ≤ 1000) : ∃ f : Int, m_floor_of [encX x] = .ok (.int f) ∧ Sz (2 * n + 4) f ∧ (f : Re) ≤ val x := by
  obtain ⟨p, q, r, s⟩ := x
  obtain ⟨f, e, z, v, _⟩ := floor_big h.sp h.sq h.sr h.ss h.r0 h.s0 (by omega) (by omega)
  exact ⟨f, e, z.mono (by omega), v⟩
theorem BX.snoc {n : Nat} {l : List N4} (h : BX n l) {x : N4} (g : GoodX n x) (u : ∀ w ∈ l, val w < val x) : BX n (l ++ [x]) :=
  ⟨fun y hy => (List.mem_append.mp hy).elim (h.good y) fun q => by rw [List.mem_singleton] at q; subst q; exact g,
   List.pairwise_append.mpr ⟨h.up, List.pairwise_singleton _ _, fun a ha b hb => by rw [List.mem_singleton] at hb; subst hb; exact u a ha⟩⟩
theorem line_eq {nm : List Nat} (hn : Nm nm) {n : Nat} {ts : List T3} (h : ∀ t ∈ ts, SzT n t) (hs : n ≤ 400) (hl : ts.length ≤ 1000) :
    ∃ (prs : List (N4 × N4)) (last : N4), m_line [.lst (ts.map (encF nm)), encN nm] = .ok (.tup ((flat prs ++ [last]).map encX)) ∧ prs.map (·.2) = bordersOf ts ∧ BX 21000 (flat prs ++ [last]) ∧ (∀ p ∈ prs, p.1.2.1 = 0) ∧ last.2.1 = 0 := by
  have e1 := borders_eq hn h (by omega) hl
  obtain ⟨b1, _, _, b4⟩ := bordersOf_is h
  have b1 : BX 806 (bordersOf ts) := ⟨fun y hy => (b1.good y hy).mono (by omega), b1.up⟩
  generalize bordersOf ts = B at *
  have e2 := dEq_nilX B
  cases B with
  | nil =>
    refine ⟨[], (0, 0, 0, 1), ?_, rfl, ⟨fun y hy => ?_, List.pairwise_singleton _ _⟩, (fun p hp => by cases hp), rfl⟩
    · replace e2 : dEq (.tup []) (.tup []) = .ok (.bl true) := e2
      replace e1 : m_borders [.lst (ts.map (encF nm)), encN nm] = .ok (.tup []) := e1
      clear b1 b4 h
      unfold m_line b_line
      walk_at "go"
      rfl
    · rw [show flat [] ++ [((0, 0, 0, 1) : N4)] = [(0, 0, 0, 1)] from rfl, List.mem_singleton] at hy
      subst hy
      exact frac_good (by unfold Sz; exact Nat.two_pow_pos _) (by decide)
  | cons x B =>
    rw [decide_eq_false (List.cons_ne_nil _ _)] at e2
    have gx := b1.good x List.mem_cons_self
    obtain ⟨f, ef, zf, vf⟩ := floor_X gx (by decide)
    have g0 : GoodX 21000 (f - 1, 0, 0, 1) := frac_good ((zf.sub ((show Sz 1 1 by unfold Sz; decide).mono (show 1 ≤ 2 * 806 + 4 by decide))).mono (by decide)) (by decide)
    have v0 : val (f - 1, 0, 0, 1) < val x := by rw [val_int, Re.cast_sub, Re.cast_1]; grind
    have loop := forL_inv (fun (j : Nat) => D.int ((1 : Int) + j)) (G := gN 4) (b := b_line_1)
      (fun pre ρ => ∃ (prs : List (N4 × N4)) (x4 : Option D), ρ = [some (.lst (ts.map (encF nm))), some (encN nm), some (.tup ((x :: B).map encX)), some (.lst ((flat prs).map encX)), x4] ∧ prs.map (·.2) = (x :: B).take (pre.length + 1) ∧ BX 21000 (flat prs) ∧ (∀ p ∈ prs, p.1.2.1 = 0) ∧ ∀ w ∈ flat prs, ∀ y, (x :: B)[pre.length]? = some y → val w ≤ val y)
      (List.range (((((x :: B).map encX).length : Nat) : Int) - 1).toNat) (ρ := [some (.lst (ts.map (encF nm))), some (encN nm), some (.tup ((x :: B).map encX)), some (.lst ([(f - 1, 0, 0, 1), x].map encX)), none])
      ⟨[((f - 1, 0, 0, 1), x)], none, rfl, rfl, ⟨fun y hy => by
        have hy : y ∈ [((f - 1, 0, 0, 1) : N4), x] := hy
        rcases List.mem_cons.mp hy with rfl | hy
        · exact g0
        · rw [List.mem_singleton.mp hy]; exact gx.mono (by decide), List.pairwise_cons.mpr ⟨fun y hy => by rw [List.mem_singleton.mp hy]; exact v0, List.pairwise_singleton _ _⟩⟩,
        fun p hp => by rw [List.mem_singleton.mp hp], fun w hw y hy => by
        have hy : x = y := by simpa using hy
        subst hy
        have hw : w ∈ [((f - 1, 0, 0, 1) : N4), x] := hw
        rcases List.mem_cons.mp hw with rfl | hw
        · exact Std.le_of_lt v0
        · rw [List.mem_singleton.mp hw]; exact Std.le_refl _⟩ (by
        rintro pre j post ρ e ⟨prs, x4, rfl, ep, bx, qs, le⟩
        have hj : j = pre.length := by
          have h3 : (List.range (((((x :: B).map encX).length : Nat) : Int) - 1).toNat)[pre.length]? = some j := by rw [e, List.getElem?_append_right (Nat.le_refl _)]; simp
          have hk : pre.length < (((((x :: B).map encX).length : Nat) : Int) - 1).toNat := by
            have := congrArg List.length e
            simp at this
            simp
            omega
          rw [List.getElem?_range hk] at h3
          exact (Option.some.inj h3).symm
        have hk : j < (((((x :: B).map encX).length : Nat) : Int) - 1).toNat := List.mem_range.mp (by rw [e]; simp)
        rw [List.length_map] at hk
        subst hj
        have k1 : pre.length < (x :: B).length := by omega
        have k2 : pre.length + 1 < (x :: B).length := by omega
        have i1 : dIx (.tup ((x :: B).map encX)) (.int ((1 : Int) + (pre.length : Nat) - 1)) = .ok (encX (x :: B)[pre.length]) := by
          rw [show (1 : Int) + (pre.length : Nat) - 1 = (pre.length : Nat) by omega]
          exact dIx_tup (by rw [List.getElem?_map, List.getElem?_eq_getElem k1]; rfl)
        have i2 : dIx (.tup ((x :: B).map encX)) (.int ((1 : Int) + (pre.length : Nat))) = .ok (encX (x :: B)[pre.length + 1]) := by
          rw [show (1 : Int) + (pre.length : Nat) = ((pre.length + 1 : Nat) : Int) by omega]
          exact dIx_tup (by rw [List.getElem?_map, List.getElem?_eq_getElem k2]; rfl)
        have g1 := b1.good _ (List.getElem_mem k1)
        have g2 := b1.good _ (List.getElem_mem k2)
        have lt := List.pairwise_iff_getElem.mp b1.up pre.length (pre.length + 1) k1 k2 (by omega)
        have le' := fun w hw => le w hw _ (List.getElem?_eq_getElem k1)
        have tk : (x :: B).take (pre.length + 1 + 1) = (x :: B).take (pre.length + 1) ++ [(x :: B)[pre.length + 1]] := by rw [List.take_succ, List.getElem?_eq_getElem k2]; rfl
        have nx : (x :: B)[pre.length + 1]? = some (x :: B)[pre.length + 1] := List.getElem?_eq_getElem k2
        have lp : (flat prs).length ≤ 10000 := by
          have := congrArg List.length ep
          rw [List.length_map, List.length_take] at this
          rw [flat_len]
          omega
        generalize (x :: B)[pre.length] = u at *
        generalize (x :: B)[pre.length + 1] = v at *
        obtain ⟨z, ez, gz, q0, _, l1, l2⟩ := between_eq g1 g2 (by decide) lt
        have s1 := bx.snoc (gz.mono (show 26 * 806 + 30 ≤ 21000 by decide)) fun w hw => by have := le' w hw; grind
        have s2 := s1.snoc (x := v) (g2.mono (by decide)) fun w hw => by
          rcases List.mem_append.mp hw with q | q
          · have := le' w q; grind
          · rw [List.mem_singleton.mp q]; exact l2
        have efl : flat (prs ++ [(z, v)]) = flat prs ++ [z] ++ [v] := by rw [flat_app, List.append_assoc]; rfl
        refine ⟨_, ?_, prs ++ [(z, v)], some (.int ((1 : Int) + (pre.length : Nat))), rfl, ?_, by rw [efl]; exact s2, ?_, ?_⟩
        · have la : ((flat prs).map encX).length < sizeLine := len_lt (by simp; omega)
          have lb : ((flat prs).map encX ++ [encX z]).length < sizeLine := len_lt (by simp; omega)
          rw [efl, List.map_append, List.map_append]
          clear s1 s2 le le' e ep bx qs tk nx lt l1 l2 g1 g2 gz hk k1 k2 efl b1 e1 e2 h hs hl b4 gx ef zf vf g0 v0
          generalize (x :: B).map encX = M at *
          unfold b_line_1
          walk_at "go"
        · rw [List.map_append, ep, List.length_append, List.length_singleton, tk]; rfl
        · intro p hp
          rcases List.mem_append.mp hp with q | q
          · exact qs p q
          · rw [List.mem_singleton.mp q]; exact q0
        · intro w hw y hy
          rw [List.length_append, List.length_singleton, nx] at hy
          cases hy
          rw [efl] at hw
          rcases List.mem_append.mp hw with q | q
          · rcases List.mem_append.mp q with q | q
            · have := le' w q; grind
            · rw [List.mem_singleton.mp q]; exact Std.le_of_lt l2
          · rw [List.mem_singleton.mp q]; exact Std.le_refl _)
    obtain ⟨ρ', e3, prs, x4, rfl, ep, bx, qs, le⟩ := loop
    have hlen : (List.range (((((x :: B).map encX).length : Nat) : Int) - 1).toNat).length = B.length := by simp
    rw [hlen] at ep le
    have ep : prs.map (·.2) = x :: B := by rw [ep]; exact List.take_of_length_le (by simp)
    have hL : B.length < (x :: B).length := by simp
    have gl := b1.good _ (List.getElem_mem hL)
    have le' := fun w hw => le w hw _ (List.getElem?_eq_getElem hL)
    have i3 : dIx (.tup ((x :: B).map encX)) (.int (-1)) = .ok (encX (x :: B)[B.length]) := by
      have : (x :: B).map encX = ((x :: B).take B.length).map encX ++ [encX (x :: B)[B.length]] := by
        have h1 : (x :: B) = (x :: B).take (B.length + 1) := (List.take_of_length_le (by simp)).symm
        rw [List.take_succ, List.getElem?_eq_getElem hL] at h1
        have h2 := congrArg (List.map encX) h1
        rw [List.map_append] at h2
        exact h2
      rw [this]
      exact ix_last _ _
    generalize (x :: B)[B.length] = w at *
    obtain ⟨t, et, zt, _, vt⟩ := above_eq (e := 0) gl (by decide) (by decide)
    have gt : GoodX 21000 (t, 0, 0, 1) := frac_good (zt.mono (by decide)) (by decide)
    have vw : val w < val (t, 0, 0, 1) := by
      rw [val_int]
      have h1 : (((2 ^ 0 : Nat) : Int) : Re) = 1 := rfl
      rw [h1] at vt
      grind
    refine ⟨prs, (t, 0, 0, 1), ?_, ep, bx.snoc gt fun y hy => by have := le' y hy; grind, qs, rfl⟩
    have lp : ((flat prs).map encX).length < sizeLine := len_lt (by
      have := congrArg List.length ep
      rw [List.length_map, List.length_cons] at this
      rw [List.length_cons] at b4
      rw [List.length_map, flat_len]
      omega)
    have i0 : dIx (.tup ((x :: B).map encX)) (.int 0) = .ok (encX x) := ixt0 _ _
    have rr := rng2_ok (i := 1) (j := ((((x :: B).map encX).length : Nat) : Int)) (by decide) (by decide) (by omega) (by rw [List.length_map]; omega)
    have hc : cLen [.tup ((x :: B).map encX)] = .ok (.int ((((x :: B).map encX).length : Nat) : Int)) := rfl
    have et : m_above [encX w, .int 1] = .ok (.int t) := et
    have e3 : forL (gN 4) b_line_1 ((List.range (((((x :: B).map encX).length : Nat) : Int) - 1).toNat).map fun (n : Nat) => .int (1 + n)) [some (.lst (ts.map (encF nm))), some (encN nm), some (.tup ((x :: B).map encX)), some (.lst [.tup [.int (f - 1), .int 0, .int 0, .int 1], encX x]), none] = .nx [some (.lst (ts.map (encF nm))), some (encN nm), some (.tup ((x :: B).map encX)), some (.lst ((flat prs).map encX)), x4] := e3
    rw [List.map_append]
    clear le le' qs bx ep gl gt vt zt vw b1 b4 gx g0 v0 vf zf h hl hs hlen hL
    generalize (x :: B).map encX = M at *
    unfold m_line b_line
    walk_at "go"
    rfl
theorem shaped_F {nm : List Nat} (hn : Nm nm) (ts : List T3) : SeqAt.shaped (toPy (.lst (ts.map (encF nm)))) = true := by
  have h1 : PyData.canLayAll0 (toPys (ts.map (encF nm))) = true := by
    induction ts with
    | nil => rfl
    | cons t ts ih =>
      show ((PyData.canLay0 (.tuple (toPys ((triF nm t).map encQ)))) && PyData.canLayAll0 (toPys (ts.map (encF nm)))) = true
      rw [ih]
      simp only [PyData.canLay0, lay_Q (triF_mono hn t)]
      rfl
  have h2 : PyData.depthAll (toPys (ts.map (encF nm))) ≤ 4 := by
    clear h1
    induction ts with
    | nil => exact Nat.zero_le _
    | cons t ts ih =>
      show max (PyData.depth (.tuple (toPys ((triF nm t).map encQ)))) (PyData.depthAll (toPys (ts.map (encF nm)))) ≤ 4
      have := dep_Q (triF nm t)
      simp only [PyData.depth]
      omega
  unfold SeqAt.shaped
  rw [show toPy (.lst (ts.map (encF nm))) = .list (toPys (ts.map (encF nm))) from rfl]
  simp only [PyData.canLay0, h1, PyData.depth, Bool.true_and]
  exact decide_eq_true (by omega)
theorem loop_order {L : List N4} (bx : BX 21000 L) (x0 x1 x2 x3 x4 x7 x8 : Option D) : ∃ x6, forL (gN 6) b_law_v12_1 ((List.range ((((L.map encX).length : Nat) : Int) - 1).toNat).map fun (n : Nat) => .int (1 + n)) [x0, x1, x2, x3, x4, some (.tup (L.map encX)), none, x7, x8] = .nx [x0, x1, x2, x3, x4, some (.tup (L.map encX)), x6, x7, x8] := by
  have loop := forL_inv (fun (j : Nat) => D.int ((1 : Int) + j)) (G := gN 6) (b := b_law_v12_1) (fun _ ρ => ∃ x6, ρ = [x0, x1, x2, x3, x4, some (.tup (L.map encX)), x6, x7, x8]) (List.range ((((L.map encX).length : Nat) : Int) - 1).toNat) (ρ := [x0, x1, x2, x3, x4, some (.tup (L.map encX)), none, x7, x8]) ⟨none, rfl⟩ (by
    rintro pre k post ρ e ⟨x6, rfl⟩
    have hk : k ∈ List.range ((((L.map encX).length : Nat) : Int) - 1).toNat := by rw [e]; simp
    have hk := List.mem_range.mp hk
    rw [List.length_map] at hk
    have h1 : k < L.length := by omega
    have h2 : k + 1 < L.length := by omega
    have i1 : dIx (.tup (L.map encX)) (.int ((1 : Int) + k - 1)) = .ok (encX L[k]) := by
      rw [show (1 : Int) + k - 1 = (k : Nat) by omega]
      exact dIx_tup (by rw [List.getElem?_map, List.getElem?_eq_getElem h1]; rfl)
    have i2 : dIx (.tup (L.map encX)) (.int ((1 : Int) + k)) = .ok (encX L[k + 1]) := by
      rw [show (1 : Int) + k = ((k + 1 : Nat) : Int) by omega]
      exact dIx_tup (by rw [List.getElem?_map, List.getElem?_eq_getElem h2]; rfl)
    have g1 := bx.good _ (List.getElem_mem h1)
    have g2 := bx.good _ (List.getElem_mem h2)
    have o := order_X g1 g2 (by decide)
    have lt := List.pairwise_iff_getElem.mp bx.up k (k + 1) h1 h2 (by omega)
    have o1 : ordX L[k] L[k + 1] = -1 := by
      rw [ordX_sgn g1.r0 g1.s0 g2.r0 g2.s0, Re.sgn_neg]
      grind
    rw [o1] at o
    refine ⟨_, ?_, some (.int ((1 : Int) + k)), rfl⟩
    clear e g1 g2 lt o1 hk bx
    generalize L.map encX = M at *
    unfold b_law_v12_1
    walk_at "go")
  obtain ⟨ρ', e, x6, rfl⟩ := loop
  exact ⟨x6, e⟩
theorem loop_evens {ts : List T3} (ht : ∀ t ∈ ts, SzT 400 t) (hts : ts.length ≤ 63) (l : List N4) (gl : ∀ x ∈ l, GoodX 21000 x ∧ x.2.1 = 0) (ap : ∀ x ∈ l, ∀ t ∈ ts, t ≠ (0, 0, 0) → Re.sgn (pol t (val x)) ≠ 0) (x0 x1 x3 x4 x5 x6 : Option D) :
    ∃ x7, forL (gN 7) b_law_v12_2 (l.map encX) [x0, x1, some (.lst (ts.map encT)), x3, x4, x5, x6, none, none] = .nx [x0, x1, some (.lst (ts.map encT)), x3, x4, x5, x6, x7, none] := by
  have z1 : (ts.map encT).length ≤ sizeLine := len_ok (by simp; omega)
  have loop := forL_inv encX (G := gN 7) (b := b_law_v12_2) (fun _ ρ => ∃ x7, ρ = [x0, x1, some (.lst (ts.map encT)), x3, x4, x5, x6, x7, none]) l (ρ := [x0, x1, some (.lst (ts.map encT)), x3, x4, x5, x6, none, none]) ⟨none, rfl⟩ (by
    rintro pre x post ρ e ⟨x7, rfl⟩
    have hx : x ∈ l := by rw [e]; simp
    obtain ⟨gx, q0⟩ := gl x hx
    have e3 : ∀ x0 x1 x2 x3 x4 x5 x6 : Option D, lcL (gN 8) (tOf (PD.e2 dNe (eV 8) (eA mkTup (aC (eC (.int 0)) (aC (eC (.int 0)) (aC (eC (.int 0)) aN)))))) (PD.e2 dEq (eA m__law_at (aC (eV 8) (aC (eV 7) aN))) (eC (.int 0))) [x0, x1, x2, x3, x4, x5, x6, some (encX x), none] (ts.map encT) = .ok ((thereOf ts).map fun t => .bl (decide (Re.sgn (pol t (val x)) = 0))) := by
      intro x0 x1 x2 x3 x4 x5 x6
      refine lcL_filter encT (fun t => !decide (t = (0, 0, 0))) (fun t => .bl (decide (Re.sgn (pol t (val x)) = 0))) ts fun t q => ?_
      have a1 := law_at_eq ((ht t q).mono (show 400 ≤ 21000 by decide)) gx (by decide)
      have a2 := dNe_T t
      clear e hx gx gl ap ht z1
      walk_at "go"
      by_cases c : t = (0, 0, 0)
      · simp [c]
      · simp [c]
    have e4 := cAny_B ((thereOf ts).map fun t => decide (Re.sgn (pol t (val x)) = 0))
    have e5 : ((thereOf ts).map fun t => decide (Re.sgn (pol t (val x)) = 0)).any id = false := by
      rw [List.any_map, List.any_eq_false]
      intro t q
      have q := List.mem_filter.mp q
      have := ap x hx t q.1 (by simpa using q.2)
      simpa using this
    rw [e5, List.map_map] at e4
    replace e4 : cAny [.lst ((thereOf ts).map fun t => .bl (decide (Re.sgn (pol t (val x)) = 0)))] = .ok (.bl false) := e4
    have e6 : dIx (encX x) (.int 1) = .ok (.int 0) := by
      obtain ⟨p, q, r, s⟩ := x
      simp only [] at q0
      subst q0
      exact ixt1 _ _ _
    refine ⟨_, ?_, some (encX x), rfl⟩
    clear e hx gx gl ap ht e5 q0
    unfold b_law_v12_2
    walk_at "go")
  obtain ⟨ρ', e, x7, rfl⟩ := loop
  exact ⟨x7, e⟩
theorem law_true : ∀ ns : List Int, ns.length ≤ 63 → (∀ z ∈ ns, PySem.Builtin.Int.intBits z ≤ 1048576) → m_law_v12 [.scr ns] = .ok (.bl true) := by
  intro ns hl hb
  obtain ⟨c, e1, c0, _⟩ := cell_w hb 0
  obtain ⟨nm, e2, hn⟩ := law_name_eq c0
  obtain ⟨ts, e3, lt, ht⟩ := triples_eq hl hb (i := 1) (j := 7) (by decide) (by decide)
  have e4 : ∀ x0 x2 x3 x4 x5 x6 x7 : Option D, lcL (gN 8) bYes (eA m__law_form_v4 (aC (eV 8) (aC (eV 1) aN))) [x0, some (encN nm), x2, x3, x4, x5, x6, x7, none] (ts.map encT) = .ok (ts.map (encF nm)) := by
    intro x0 x2 x3 x4 x5 x6 x7
    refine lcL_map encT _ ts fun t _ => ?_
    have := law_form_t nm t
    walk_at "go"
  obtain ⟨prs, last, e5, ep, bx, qs, q0⟩ := line_eq hn ht (by decide) (by omega)
  obtain ⟨b1, b2, b3, b4⟩ := bordersOf_is ht
  rw [← ep] at b1 b2 b3 b4
  have lp : prs.length ≤ 126 := by rw [List.length_map] at b4; omega
  have lL : (flat prs ++ [last]).length = 2 * prs.length + 1 := by rw [List.length_append, flat_len]; rfl
  have e6 := rising_eq bx (by decide) (by omega)
  have e7 := just_eq b1 (fun t q => (ht t q).mono (show 400 ≤ 2 * 400 + 6 by decide)) (by decide) (by omega) (by omega) b2 b3
  have e8 := dNe_self (shaped_F hn ts)
  have e9 : (ts.map encT).length ≤ sizeLine := len_ok (by simp; omega)
  have e10 : cIsi [.tup ((flat prs ++ [last]).map encX), .ty "tuple"] = .ok (.bl true) := rfl
  obtain ⟨x6, l1⟩ := loop_order bx (some (.scr ns)) (some (encN nm)) (some (.lst (ts.map encT))) (some (.lst (ts.map (encF nm)))) (some (.lst (ts.map (encF nm)))) none none
  have gl : ∀ x ∈ prs.map (·.1) ++ [last], GoodX 21000 x ∧ x.2.1 = 0 := fun x hx => by
    rcases List.mem_append.mp hx with q | q
    · obtain ⟨p, hp, rfl⟩ := List.mem_map.mp q
      exact ⟨bx.good _ (List.mem_append_left _ (List.mem_flatMap.mpr ⟨p, hp, by simp⟩)), qs p hp⟩
    · rw [List.mem_singleton.mp q]
      exact ⟨bx.good _ (List.mem_append_right _ (List.mem_singleton.mpr rfl)), q0⟩
  have ap : ∀ x ∈ prs.map (·.1) ++ [last], ∀ t ∈ ts, t ≠ (0, 0, 0) → Re.sgn (pol t (val x)) ≠ 0 := fun x hx t htm nz z => by
    obtain ⟨y, hy, ey⟩ := ((rootsOf_is nz).1 (val x)).mp (Re.sgn_zero.mp z)
    obtain ⟨b, hb, eb⟩ := b3 t htm y hy
    exact apart last prs bx.up x hx b hb (by rw [eb, ey])
  obtain ⟨x7, l2⟩ := loop_evens ht lt (prs.map (·.1) ++ [last]) gl ap (some (.scr ns)) (some (encN nm)) (some (.lst (ts.map (encF nm)))) (some (.lst (ts.map (encF nm)))) (some (.tup ((flat prs ++ [last]).map encX))) x6
  have p1 := pick_evens prs last
  have p2 := pick_odds prs last
  have s1 : ((prs.map (·.1) ++ [last]).map encX).length ≤ sizeLine := len_ok (by simp; omega)
  have s2 : ((prs.map (·.2)).map encX).length ≤ sizeLine := len_ok (by simp; omega)
  have d1 : dSlS2 (.tup ((flat prs ++ [last]).map encX)) none none (some 2) = .ok (.tup ((prs.map (·.1) ++ [last]).map encX)) := by
    rw [dSlS2_tup, p1]; exact chk_pos ⟨by decide, s1⟩
  have d2 : dSlS2 (.tup ((flat prs ++ [last]).map encX)) (some 1) none (some 2) = .ok (.tup ((prs.map (·.2)).map encX)) := by
    rw [dSlS2_tup, p2]; exact chk_pos ⟨by decide, s2⟩
  have hL : ((((flat prs ++ [last]).map encX).length : Nat) : Int) % 2 = 1 := by rw [List.length_map, lL]; omega
  have r := rng2_ok (i := 1) (j := ((((flat prs ++ [last]).map encX).length : Nat) : Int)) (by decide) (by decide) (by omega) (by rw [List.length_map, lL]; omega)
  replace e1 : m__law_cell_v2 [.scr ns, .int 0] = .ok (.int c) := e1
  replace e2 : m__law_name [.int c] = .ok (encN nm) := e2
  replace e3 : m__law_triples [.scr ns, .int 1, .int 7] = .ok (.lst (ts.map encT)) := e3
  clear b1 b2 b3 b4 ht hb gl ap bx qs q0 ep p1 p2 s1 s2 lL lp
  generalize (flat prs ++ [last]).map encX = M at *
  generalize (prs.map (·.1) ++ [last]).map encX = Ev at *
  generalize (prs.map (·.2)).map encX = Od at *
  have sl := eSlS2_ap
  unfold m_law_v12 b_law_v12 b_law_v12_t1 b_law_v12_t2 b_law_v12_t3 b_law_v12_t4 b_law_v12_t5 b_law_v12_t6 b_law_v12_t7 b_law_v12_t8 b_law_v12_t9
  walk_at "go"
end PD
open PySem PySem.W PyProof.Rows
set_option maxHeartbeats 0 in
theorem PySem.Challenge.cw_realsay_k44_the_line_holds : PySem.Challenge.rw_realsay_k44_the_line.Holds := by
  w_on; o_law; k_head; (case hw => w_witness2)
  k_fill
  refine L2.walk_ofB (l := PySem.Challenge.rw_realsay_k44_the_line) (n := 63) (k := 7) (x := "_law_script") (CX := fun w => L2.CX PySem.Challenge.rw_realsay_k44_the_line.prog w) (sp := fun w => PD.spLaw _) rfl (by decide) rfl ⟨rfl, by decide, by decide⟩ (fun w h Y => PySem.W.kIn_of Y) ?F (fun _ _ a ns hl hb _ hS => ⟨a, ns, rfl, hS, hl, hb, fun _ => rfl⟩) (fun w H s e s' h => PD.cx_no h)
  case F =>
    intro w mg fa h KX G hmg
    refine' PD.all_mk KX G hmg ?a0 ?l0 ?c0 ?k0 ?a1 ?l1 ?c1 ?k1 ?a2 ?l2 ?c2 ?k2 ?a3 ?l3 ?c3 ?k3 ?a4 ?l4 ?c4 ?k4 ?a5 ?l5 ?c5 ?k5 ?a6 ?l6 ?c6 ?k6 ?a7 ?l7 ?c7 ?k7 ?a8 ?l8 ?c8 ?k8 ?a9 ?l9 ?c9 ?k9 ?a10 ?l10 ?c10 ?k10 ?a11 ?l11 ?c11 ?k11 ?a12 ?l12 ?c12 ?k12 ?a13 ?l13 ?c13 ?k13 ?a14 ?l14 ?c14 ?k14 ?a15 ?l15 ?c15 ?k15 ?a16 ?l16 ?c16 ?k16 ?a17 ?l17 ?c17 ?k17 ?a18 ?l18 ?c18 ?k18 ?a19 ?l19 ?c19 ?k19 ?a20 ?l20 ?c20 ?k20 ?a21 ?l21 ?c21 ?k21 ?a22 ?l22 ?c22 ?k22 ?a23 ?l23 ?c23 ?k23 ?a24 ?l24 ?c24 ?k24 ?a25 ?l25 ?c25 ?k25 ?a26 ?l26 ?c26 ?k26 ?a27 ?l27 ?c27 ?k27 ?a28 ?l28 ?c28 ?k28 ?a29 ?l29 ?c29 ?k29 ?a30 ?l30 ?c30 ?k30 ?a31 ?l31 ?c31 ?k31 ?a32 ?l32 ?c32 ?k32 ?a33 ?l33 ?c33 ?k33 ?a34 ?l34 ?c34 ?k34 ?a35 ?l35 ?c35 ?k35 ?z_any ?z_bool ?z_int ?z_isinstance ?z_len ?z_list ?z_max ?z_min ?z_range ?z_sorted ?z_sum ?z_tuple PD.law_true
    (case a0 => k_is); (case l0 => k_is); (case c0 => k_is); (case k0 => k_is); (case a1 => k_is); (case l1 => k_is); (case c1 => k_is); (case k1 => k_is)
    (case a2 => k_is); (case l2 => k_is); (case c2 => k_is); (case k2 => k_is); (case a3 => k_is); (case l3 => k_is); (case c3 => k_is); (case k3 => k_is)
    (case a4 => k_is); (case l4 => k_is); (case c4 => k_is); (case k4 => k_is); (case a5 => k_is); (case l5 => k_is); (case c5 => k_is); (case k5 => k_is)
    (case a6 => k_is); (case l6 => k_is); (case c6 => k_is); (case k6 => k_is); (case a7 => k_is); (case l7 => k_is); (case c7 => k_is); (case k7 => k_is)
    (case a8 => k_is); (case l8 => k_is); (case c8 => k_is); (case k8 => k_is); (case a9 => k_is); (case l9 => k_is); (case c9 => k_is); (case k9 => k_is)
    (case a10 => k_is); (case l10 => k_is); (case c10 => k_is); (case k10 => k_is); (case a11 => k_is); (case l11 => k_is); (case c11 => k_is); (case k11 => k_is)
    (case a12 => k_is); (case l12 => k_is); (case c12 => k_is); (case k12 => k_is); (case a13 => k_is); (case l13 => k_is); (case c13 => k_is); (case k13 => k_is)
    (case a14 => k_is); (case l14 => k_is); (case c14 => k_is); (case k14 => k_is); (case a15 => k_is); (case l15 => k_is); (case c15 => k_is); (case k15 => k_is)
    (case a16 => k_is); (case l16 => k_is); (case c16 => k_is); (case k16 => k_is); (case a17 => k_is); (case l17 => k_is); (case c17 => k_is); (case k17 => k_is)
    (case a18 => k_is); (case l18 => k_is); (case c18 => k_is); (case k18 => k_is); (case a19 => k_is); (case l19 => k_is); (case c19 => k_is); (case k19 => k_is)
    (case a20 => k_is); (case l20 => k_is); (case c20 => k_is); (case k20 => k_is); (case a21 => k_is); (case l21 => k_is); (case c21 => k_is); (case k21 => k_is)
    (case a22 => k_is); (case l22 => k_is); (case c22 => k_is); (case k22 => k_is); (case a23 => k_is); (case l23 => k_is); (case c23 => k_is); (case k23 => k_is)
    (case a24 => k_is); (case l24 => k_is); (case c24 => k_is); (case k24 => k_is); (case a25 => k_is); (case l25 => k_is); (case c25 => k_is); (case k25 => k_is)
    (case a26 => k_is); (case l26 => k_is); (case c26 => k_is); (case k26 => k_is); (case a27 => k_is); (case l27 => k_is); (case c27 => k_is); (case k27 => k_is)
    (case a28 => k_is); (case l28 => k_is); (case c28 => k_is); (case k28 => k_is); (case a29 => k_is); (case l29 => k_is); (case c29 => k_is); (case k29 => k_is)
    (case a30 => k_is); (case l30 => k_is); (case c30 => k_is); (case k30 => k_is); (case a31 => k_is); (case l31 => k_is); (case c31 => k_is); (case k31 => k_is)
    (case a32 => k_is); (case l32 => k_is); (case c32 => k_is); (case k32 => k_is); (case a33 => k_is); (case l33 => k_is); (case c33 => k_is); (case k33 => k_is)
    (case a34 => k_is); (case l34 => k_is); (case c34 => k_is); (case k34 => k_is); (case a35 => k_is); (case l35 => k_is); (case c35 => k_is); (case k35 => k_is)
    (case z_any => k_is); (case z_bool => k_is); (case z_int => k_is); (case z_isinstance => k_is); (case z_len => k_is); (case z_list => k_is); (case z_max => k_is); (case z_min => k_is)
    (case z_range => k_is); (case z_sorted => k_is); (case z_sum => k_is); (case z_tuple => k_is)
