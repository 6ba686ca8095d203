import PyProof.Rows.All
import Wide.All
import OpenK.AllK
import Wide.FinOn
import PyProof.EqAt
import PyProof.EqKinds
import PyProof.TupleCall
import PyProof.TupleKey
import PyProof.DictRoadsH
import PyProof.DictMoreH
import PyProof.P3Eq
import HandS.ForMost
import HandS.ForExc
import HandS.Wide
import HandS.WideBits
import HandS.EndBits
import HandS.IsInst
import HandS.CallSlots
import HandS.NoneIn
import HandS.TupAny
import KE.SortData
import HandS.TupLe
import HandS.Conv
import HandS.More
import HandS.SetKeys
import HandS.Iter
import HandS.Rev
import HandS.Dict
import HandS.Deep
import KE.DataMinMax
import HandS.SortKw
import KE.KExcIs
import HandS.ExcInit
import HandS.ExcField
import HandS.DictEq
import KE.KxIndex
import HandS.RevRange
import HandS.FStr
import HandS.Text
import PySem.Challenge.RW_realsay_k33_brackets_shown
set_option Elab.async false
set_option linter.all false
set_option maxRecDepth 100000
set_option maxHeartbeats 4000000
namespace PD
open PySem PySem.Spec L2
open PyProof.Rows hiding St

mutual
def keyP : PyData → Bool
  | .int _ => true
  | .str x => PyData.strOk x
  | .tuple xs => keysP xs
  | _ => false
def keysP : List PyData → Bool
  | [] => true
  | x :: xs => keyP x && keysP xs
end
mutual
def hashP (w : World) : PyData → Int
  | .int i => hashInt i
  | .str x => hashStr w x
  | .tuple xs => reduceHash (Builtin.Tuple.tupleHashOf (hashesP w xs))
  | _ => 0
def hashesP (w : World) : List PyData → List Int
  | [] => []
  | x :: xs => hashP w x :: hashesP w xs
end
mutual
def drawsP : PyData → Nat
  | .tuple xs => drawsAP xs + 1
  | _ => 1
def drawsAP : List PyData → Nat
  | [] => 0
  | x :: xs => drawsP x + drawsAP xs
end
mutual
theorem keyP_lay : ∀ d : PyData, keyP d = true → d.canLay0 = true
  | .int _, _ => rfl
  | .str _, h => h
  | .tuple xs, h => keysP_lay xs h
  | .none, h => nomatch h
  | .bool _, h => nomatch h
  | .list _, h => nomatch h
  | .dict _, h => nomatch h
theorem keysP_lay : ∀ xs : List PyData, keysP xs = true → PyData.canLayAll0 xs = true
  | [], _ => rfl
  | x :: xs, h => by
    have h' : keyP x = true ∧ keysP xs = true := by simpa [keysP] using h
    simp [PyData.canLayAll0, keyP_lay x h'.1, keysP_lay xs h'.2]
end
mutual
theorem eqv_key : ∀ x y : PyData, keyP x = true → keyP y = true → (PyData.eqv x y = true ↔ x = y)
  | .int a, .int b, _, _ => by simp [PyData.eqv]
  | .int a, .str b, _, _ => by simp [PyData.eqv]
  | .int a, .tuple b, _, _ => by simp [PyData.eqv]
  | .str a, .int b, _, _ => by simp [PyData.eqv]
  | .str a, .str b, _, _ => by simp [PyData.eqv]
  | .str a, .tuple b, _, _ => by simp [PyData.eqv]
  | .tuple a, .int b, _, _ => by simp [PyData.eqv]
  | .tuple a, .str b, _, _ => by simp [PyData.eqv]
  | .tuple a, .tuple b, h, k => by
    rw [PyData.eqv, eqvAll_key a b h k]
    exact ⟨fun e => by rw [e], fun e => by cases e; rfl⟩
  | .none, _, h, _ => nomatch h
  | .bool _, _, h, _ => nomatch h
  | .list _, _, h, _ => nomatch h
  | .dict _, _, h, _ => nomatch h
  | .int _, .none, _, h => nomatch h
  | .int _, .bool _, _, h => nomatch h
  | .int _, .list _, _, h => nomatch h
  | .int _, .dict _, _, h => nomatch h
  | .str _, .none, _, h => nomatch h
  | .str _, .bool _, _, h => nomatch h
  | .str _, .list _, _, h => nomatch h
  | .str _, .dict _, _, h => nomatch h
  | .tuple _, .none, _, h => nomatch h
  | .tuple _, .bool _, _, h => nomatch h
  | .tuple _, .list _, _, h => nomatch h
  | .tuple _, .dict _, _, h => nomatch h
theorem eqvAll_key : ∀ xs ys : List PyData, keysP xs = true → keysP ys = true → (PyData.eqvAll xs ys = true ↔ xs = ys)
  | [], [], _, _ => by simp [PyData.eqvAll]
  | [], _ :: _, _, _ => by simp [PyData.eqvAll]
  | _ :: _, [], _, _ => by simp [PyData.eqvAll]
  | x :: xs, y :: ys, h, k => by
    have h' : keyP x = true ∧ keysP xs = true := by simpa [keysP] using h
    have k' : keyP y = true ∧ keysP ys = true := by simpa [keysP] using k
    rw [PyData.eqvAll, Bool.and_eq_true, eqv_key x y h'.1 k'.1, eqvAll_key xs ys h'.2 k'.2]
    simp
end
section
variable {h h' : Heap}
end
theorem keysP_mem : ∀ {xs : List PyData}, keysP xs = true → ∀ x ∈ xs, keyP x = true
  | [], _, x, h => nomatch h
  | y :: xs, z, x, h => by
    have z' : keyP y = true ∧ keysP xs = true := by simpa [keysP] using z
    rcases List.mem_cons.mp h with rfl | h
    · exact z'.1
    · exact keysP_mem z'.2 x h
theorem depth_mem : ∀ {ks : List PyData} {k : PyData}, k ∈ ks → k.depth ≤ PyData.depthAll ks
  | y :: ys, k, km => by
    simp only [PyData.depthAll]
    rcases List.mem_cons.mp km with rfl | q
    · exact Nat.le_max_left _ _
    · exact Nat.le_trans (depth_mem q) (Nat.le_max_right _ _)
theorem hashes_snoc (w : World) (y : PyData) : ∀ l : List PyData, hashesP w (l ++ [y]) = hashesP w l ++ [hashP w y]
  | [] => rfl
  | z :: l => by simp only [List.cons_append, hashesP, hashes_snoc w y l]
theorem draws_snoc (y : PyData) : ∀ l : List PyData, drawsAP (l ++ [y]) = drawsAP l + drawsP y
  | [] => by simp [drawsAP]
  | z :: l => by simp only [List.cons_append, drawsAP, draws_snoc y l, Nat.add_assoc]
theorem reads_list {h h' : Heap} {n : Nat} (ih : ∀ (d' : PyData) (v : Value) (as : List Addr), d'.depth ≤ n → keyP d' = true → Reads h v d' as → Reads h' v d' as) : ∀ {xs : List PyData} {vs : List Value} {as : List Addr}, PyData.depthAll xs ≤ n → keysP xs = true → ReadsAll h vs xs as → ReadsAll h' vs xs as
  | [], _, _, _, _, r => by cases r; exact .nil
  | x :: xs, _, _, hn, hk, r => by
    have q : keyP x = true ∧ keysP xs = true := by simpa [keysP] using hk
    simp only [PyData.depthAll] at hn
    cases r with
    | cons r1 r2 => exact .cons (ih x _ _ (Nat.le_trans (Nat.le_max_left _ _) hn) q.1 r1) (reads_list ih (Nat.le_trans (Nat.le_max_right _ _) hn) q.2 r2)

section
variable {prog : Program} {w : World}
theorem hash_key (n : Nat) : ∀ (d : PyData) (A : Around) (E : Value → Shared → Prop) (s : Shared) (v : Value) (as : List Addr) (Q : Int → Shared → Prop), d.depth ≤ n → keyP d = true → A.units + d.depth < cLine → Reads s.heap v d as →
    Q (hashP w d) { s with toks := s.toks + drawsP d } → wpAny (model prog w) A (pyHash v) Q E s := by
  induction n with
  | zero =>
    intro d A E s v as Q hn hk hu r h
    cases r with
    | int => exact wpAny_pyHash_int h
    | str => exact wpAny_pyHash_str h
    | tuple h1 h2 h3 h4 => simp [PyData.depth] at hn
    | none => exact nomatch hk
    | bool => exact nomatch hk
    | list => exact nomatch hk
    | dict => exact nomatch hk
  | succ n ih =>
    intro d A E s v as Q hn hk hu r h
    cases r with
    | int => exact wpAny_pyHash_int h
    | str => exact wpAny_pyHash_str h
    | none => exact nomatch hk
    | bool => exact nomatch hk
    | list => exact nomatch hk
    | dict => exact nomatch hk
    | @tuple a o items m ks as ho hc hd hi =>
    have hd' : PyData.depthAll ks ≤ n := by simpa [PyData.depth] using hn
    have hu' : A.units + (PyData.depthAll ks + 1) < cLine := by simpa [PyData.depth] using hu
    have hT : s.TypeIs (.ref a) "tuple" := ⟨o, ho, hc⟩
    unfold pyHash
    first | unfold pyHashByItsType | skip
    first | refine wpAny_bind (wpAny_cRoomFor_or (.inr (by omega)) ?_) | skip
    refine wpAny_bind (wpAny_specialOf hT F.slot_tuple_hash.lookup ?_)
    show wpAny _ _ (if (some (Value.builtin "tuple.__hash__") == some Value.none) = true then _ else _) Q E s
    rw [if_neg (by rw [beq_builtin_none]; exact Bool.false_ne_true)]
    refine wpAny_bind (wpAny_specialOf hT F.slot_tuple_hash.lookup ?_)
    show wpAny _ _ (callSpecialIfBoundUnlessNone? (.ref a) "__hash__" _ >>= _) Q E s
    refine wpAny_bind (wpAny_callSpecialIfBoundUnlessNone?_slot hT F.slot_tuple_hash (wpAny_call_entry F.slot_tuple_hash hT F.entry_tuple_hash ?_ (F.args_tuple_hash_1 _)))
    show wpAny _ _ (Builtin.Tuple.tupleItemsOf (.ref a) >>= _) _ _ s
    refine wpAny_bind (wpAny_tupleItemsOf ho hd ?_)
    refine wpAny_bind ?_
    rw [← Array.forIn_toList]
    refine wpAny_forIn_list _
      (fun rest (b : Array Int) s' => ∃ done left as2, ks = done ++ left ∧ ReadsAll s.heap rest left as2 ∧ b.toList = hashesP w done ∧ s' = { s with toks := s.toks + drawsAP done })
      _ ?_ ?_ _ _ ⟨[], ks, as, rfl, hi, rfl, rfl⟩
    · rintro x rest b s' ⟨done, left, as2, e, hl, hb, rfl⟩
      cases hl with
      | @cons _ _ k ks' bs cs h1 hl' =>
        have km : k ∈ ks := by rw [e]; simp
        have kk : keyP k = true := keysP_mem hk k km
        have kd : k.depth ≤ PyData.depthAll ks := depth_mem km
        refine wpAny_bind (ih k _ _ _ _ _ _ (Nat.le_trans kd hd') kk ?_ h1 ?_)
        · show A.units + 1 + k.depth < cLine
          omega
        · first
            | exact wpAny_pure ⟨done ++ [k], ks', cs, by rw [e]; simp, hl', by rw [hashes_snoc]; simp [hb], by rw [draws_snoc]; simp [Nat.add_assoc]⟩
            | exact wpAny_bind (wpAny_pure (wpAny_pure ⟨done ++ [k], ks', cs, by rw [e]; simp, hl', by rw [hashes_snoc]; simp [hb], by rw [draws_snoc]; simp [Nat.add_assoc]⟩))
    · rintro b s' ⟨done, left, as2, e, hl, hb, rfl⟩
      cases hl
      rw [List.append_nil] at e
      subst e
      have h : Q (reduceHash (Builtin.Tuple.tupleHashOf (hashesP w ks))) { s with toks := s.toks + (drawsAP ks + 1) } := h
      show wpAny _ _ (retInt (Builtin.Tuple.tupleHashOf b.toList)) _ _ _
      rw [hb]
      refine wpAny_ret_mkInt ?_
      show wpAny _ _ (if (decide (-(2 : Int) ^ 63 ≤ Builtin.Tuple.tupleHashOf (hashesP w ks)) && decide (Builtin.Tuple.tupleHashOf (hashesP w ks) < 2 ^ 63)) = true then _ else _) Q E _
      unfold reduceHash at h
      by_cases hr : (decide (-(2 : Int) ^ 63 ≤ Builtin.Tuple.tupleHashOf (hashesP w ks)) && decide (Builtin.Tuple.tupleHashOf (hashesP w ks) < 2 ^ 63)) = true
      · rw [if_pos hr]
        rw [if_pos hr] at h
        exact wpAny_pure (by simpa [Nat.add_assoc] using h)
      · rw [if_neg hr]
        rw [if_neg hr] at h
        exact wpAny_bind (wpAny_rule (wpAny_pure (by simpa [Nat.add_assoc] using h)))
theorem quiet_key (n : Nat) : ∀ (d : PyData) (A : Around) (E : Value → Shared → Prop) (s : Shared) (v : Value) (as : List Addr) (Q : Bool → Shared → Prop), d.depth ≤ n → keyP d = true → Reads s.heap v d as → Q true s →
    wpAny (model prog w) A (eqIsQuiet n v) Q E s := by
  induction n with
  | zero =>
    intro d A E s v as Q hn hk r h
    cases r with
    | int => rw [eqIsQuiet_byValue _ rfl]; exact wpAny_pure h
    | str => rw [eqIsQuiet_byValue _ rfl]; exact wpAny_pure h
    | tuple h1 h2 h3 h4 => simp [PyData.depth] at hn
    | none => exact nomatch hk
    | bool => exact nomatch hk
    | list => exact nomatch hk
    | dict => exact nomatch hk
  | succ n ih =>
    intro d A E s v as Q hn hk r h
    cases r with
    | int => rw [eqIsQuiet_byValue _ rfl]; exact wpAny_pure h
    | str => rw [eqIsQuiet_byValue _ rfl]; exact wpAny_pure h
    | none => exact nomatch hk
    | bool => exact nomatch hk
    | list => exact nomatch hk
    | dict => exact nomatch hk
    | @tuple a o items m ks as ho hc hd hi =>
    have hd' : PyData.depthAll ks ≤ n := by simpa [PyData.depth] using hn
    have hT : s.TypeIs (.ref a) "tuple" := ⟨o, ho, hc⟩
    unfold eqIsQuiet
    refine wpAny_bind (wpAny_specialOf hT F.slot_tuple_eq.lookup ?_)
    show wpAny _ _ (isInstance (.ref a) (.type "tuple") >>= _) _ _ s
    refine wpAny_bind (wpAny_isInstance hT isSubtype_tuple_tuple ?_)
    simp only [Bool.not_true, Bool.false_eq_true, if_false]
    refine wpAny_bind (wpAny_seqItems ho hd ?_)
    refine wpAny_bind ?_
    show wpAny _ _ (forIn items _ _) _ _ s
    rw [← Array.forIn_toList]
    refine wpAny_forIn_list _ (fun rest r s' => r.1 = none ∧ s' = s ∧ ∃ left as2, ReadsAll s.heap rest left as2 ∧ ∀ k ∈ left, k ∈ ks) _ ?_ ?_ _ _ ⟨rfl, rfl, ks, as, hi, fun _ q => q⟩
    · rintro v rest r s' ⟨hr, rfl, left, as2, hl, hm⟩
      cases hl with
      | @cons _ _ k ks' bs cs h1 hl' =>
        have km : k ∈ ks := hm k List.mem_cons_self
        have kk : keyP k = true := keysP_mem hk k km
        have kd : k.depth ≤ PyData.depthAll ks := depth_mem km
        refine wpAny_bind (ih k _ _ _ _ _ _ (Nat.le_trans kd hd') kk h1 ?_)
        simp only [Bool.not_true, Bool.false_eq_true, if_false]
        exact wpAny_pure ⟨rfl, rfl, ks', cs, hl', fun y q => hm y (List.mem_cons_of_mem _ q)⟩
    · rintro ⟨r1, r2⟩ s' ⟨hr, rfl, _⟩
      simp only at hr
      subst hr
      exact wpAny_pure h
end
noncomputable instance : DecidableEq PyData := Classical.typeDecidableEq _
structure TKey (d : PyData) : Prop where
  tup : ∃ xs, d = .tuple xs
  key : keyP d = true
  dep : d.depth ≤ 8
theorem of_same {h h' : Heap} {d : Addr} {o : Obj} {es ep} (ho : h.get? d = some o) (hd : o.data = .dict es ep) (hs : Heap.SameBut d h h') {a : Addr} {o' : Obj} {xs n} (e : h.get? a = some o') (z : o'.data = .seq xs n) : h'.get? a = some o' := by
  have hne : a ≠ d := by
    rintro rfl
    rw [ho] at e; cases e
    rw [hd] at z; exact nomatch z
  exact (hs.2 a hne).trans e
noncomputable def deepKind (prog : Program) (w : World) : HeapKind prog w PyData where
  is := fun h k a => TKey k ∧ ∃ as, Reads h (.ref a) k as
  hash := hashP w
  draws := drawsP
  room := fun A => A.units + 8 < cLine
  inj := fun ⟨k, as, r⟩ ⟨k', as', r'⟩ => SeqAt.Reads.unique _ _ _ _ _ (keyP_lay _ k.key) r r'
  keeps := fun {h h' k a d o es ep} ⟨z, as, r⟩ ho hd hs => ⟨z, as, by
    have key : ∀ (n : Nat) (d' : PyData) (v : Value) (as : List Addr), d'.depth ≤ n → keyP d' = true → Reads h v d' as → Reads h' v d' as := by
      intro n
      induction n with
      | zero =>
        intro d' v as hn hk r
        cases r with
        | int => exact .int _ _
        | str => exact .str _ _
        | tuple h1 h2 h3 h4 => simp [PyData.depth] at hn
        | none => exact nomatch hk
        | bool => exact nomatch hk
        | list => exact nomatch hk
        | dict => exact nomatch hk
      | succ n ih =>
        intro d' v as hn hk r
        cases r with
        | int => exact .int _ _
        | str => exact .str _ _
        | tuple h1 h2 h3 h4 => exact .tuple (of_same ho hd hs h1 h3) h2 h3 (reads_list ih (by simpa [PyData.depth] using hn) hk h4)
        | none => exact nomatch hk
        | bool => exact nomatch hk
        | list => exact nomatch hk
        | dict => exact nomatch hk
    exact key _ k _ _ (Nat.le_refl _) z.key r⟩
  pyHash := fun hu ⟨z, as, r⟩ h => hash_key _ _ _ _ _ _ _ _ (Nat.le_refl _) z.key (by have := z.dep; omega) r h
  eqBool := fun {A E s x y a b Q} hu ⟨z, as, r⟩ ⟨z', as', r'⟩ h => by
    refine SeqAt.eqAt_reads x y A s _ _ _ _ r r' (keyP_lay _ z.key) (keyP_lay _ z'.key) ?_ prog w E Q ?_
    · have h1 := z.dep
      have h2 : min x.depth y.depth ≤ x.depth := Nat.min_le_left _ _
      omega
    · have e : PyData.eqv x y = decide (x = y) := by
        by_cases q : x = y
        · rw [decide_eq_true q, (eqv_key x y z.key z'.key).mpr q]
        · rw [decide_eq_false q]
          cases hh : PyData.eqv x y with
          | false => rfl
          | true => exact absurd ((eqv_key x y z.key z'.key).mp hh) q
      rw [e]
      exact h
  quiet := fun ⟨z, as, r⟩ h => quiet_key 8 _ _ _ _ _ _ _ z.dep z.key r h
end PD

namespace PD
open PySem PySem.Spec L2
open PyProof.Rows hiding St

inductive D where
  | non | bl (b : Bool) | int (i : Int) | str (x : Str) | ty (n : String)
  | scr (ns : List Int) | tup (xs : List D) | lst (xs : List D) | dic (kvs : List (D × D)) | ins (c : Str) (fs : List (Str × D)) | adr (a : Addr)
  | exn (c : Str) (fs : List (Str × D)) | cls (c : Str)

mutual
def toPy : D → PyData
  | .non => .none
  | .bl b => .bool b
  | .int i => .int i
  | .str x => .str x
  | .ty _ => .dict []
  | .scr ns => .list (ns.map .int)
  | .tup ds => .tuple (toPys ds)
  | .lst ds => .list (toPys ds)
  | .dic _ => .dict []
  | .ins _ _ => .dict []
  | .adr _ => .dict []
  | .exn _ _ => .dict []
  | .cls _ => .dict []
def toPys : List D → List PyData
  | [] => []
  | d :: ds => toPy d :: toPys ds
end
structure Mg where
  f : Str → Option Value
  w : World
def dT (w : World) (a : Addr) (zs : List (PyData × Addr × V)) : HO := .ext fun h => zs ≠ [] ∧ (a == sysModules) = false ∧ zs.length ≤ sizeLine ∧ ∃ xs : List (PyData × Addr × Value), Paired (fun p q => p.1 = q.1 ∧ p.2.1 = q.2.1 ∧ RelV p.2.2 q.2.2) zs xs ∧
  ∃ o es ep, h.get? a = some o ∧ o.ExactDict ∧ o.data = .dict es ep ∧ es.toList = xs.map (fun x => ⟨hashP w x.1, .ref x.2.1, x.2.2⟩) ∧ (xs.map (·.1)).Nodup
def exH (a : Addr) (C : Value) (dd : Option Addr) : HO := .ext fun h => ∃ oe vs, h.get? a = some oe ∧ Zc C dd oe ∧ oe.data = .fields vs
def kD : Key → D
  | .inl i => .int i
  | .inr x => .str x

mutual
def IsD (K : PySem.W.Frag) (mg : Mg) (H : Hp) : D → V → Prop
  | .non, v => v = .non
  | .bl b, v => v = .bl b
  | .int i, v => v = .int i
  | .str x, v => v = .str x
  | .ty n, v => v = .ty n
  | .scr ns, v => ∃ a, v = .ref a ∧ SqL K H a (ns.map V.int)
  | .tup ds, v => ∃ a xs, v = .ref a ∧ SqT K H a xs ∧ IsDs K mg H ds xs
  | .lst ds, v => ∃ a xs, v = .ref a ∧ H a = some (.lst xs) ∧ IsDs K mg H ds xs
  | .dic kvs, v => ∃ a o, v = .ref a ∧ Rd H a o ∧ ((∃ xs, o = .dK xs ∧ IsKVs K mg H kvs xs) ∨ ∃ zs, o = dT mg.w a zs ∧ IsKTs K mg H kvs zs)
  | .ins c fs, v => ∃ a o, v = .ref a ∧ H a = some o ∧ ∃ C dx xs, o = .ins C dx xs ∧ mg.f c = some (.ref C) ∧ IsFs K mg H fs xs
  | .adr a, v => v = .ref a
  | .exn c fs, v => ∃ a C dd, v = .ref a ∧ mg.f c = some (.ref C) ∧ Rd H a (exH a (.ref C) dd) ∧ ((fs = [] ∧ dd = none) ∨ ∃ d xs, dd = some d ∧ H d = some (.xd xs) ∧ IsFs K mg H fs xs)
  | .cls c, v => ∃ C, v = .ref C ∧ mg.f c = some (.ref C)
def IsDs (K : PySem.W.Frag) (mg : Mg) (H : Hp) : List D → List V → Prop
  | [], xs => xs = []
  | d :: ds, xs => ∃ v vs, xs = v :: vs ∧ IsD K mg H d v ∧ IsDs K mg H ds vs
def IsKVs (K : PySem.W.Frag) (mg : Mg) (H : Hp) : List (D × D) → List (Key × V) → Prop
  | [], xs => xs = []
  | p :: ds, xs => ∃ v vs, xs = v :: vs ∧ IsKV K mg H p v ∧ IsKVs K mg H ds vs
def IsKV (K : PySem.W.Frag) (mg : Mg) (H : Hp) : D × D → Key × V → Prop
  | (k, d), p => k = kD p.1 ∧ IsD K mg H d p.2
def IsKTs (K : PySem.W.Frag) (mg : Mg) (H : Hp) : List (D × D) → List (PyData × Addr × V) → Prop
  | [], xs => xs = []
  | p :: ds, xs => ∃ v vs, xs = v :: vs ∧ IsKT K mg H p v ∧ IsKTs K mg H ds vs
def IsKT (K : PySem.W.Frag) (mg : Mg) (H : Hp) : D × D → PyData × Addr × V → Prop
  | (k, d), p => p.1 = toPy k ∧ TKey (toPy k) ∧ IsD K mg H k (.ref p.2.1) ∧ IsD K mg H d p.2.2
def IsFs (K : PySem.W.Frag) (mg : Mg) (H : Hp) : List (Str × D) → List (Str × V) → Prop
  | [], xs => xs = []
  | p :: ds, xs => ∃ v vs, xs = v :: vs ∧ IsF K mg H p v ∧ IsFs K mg H ds vs
def IsF (K : PySem.W.Frag) (mg : Mg) (H : Hp) : Str × D → Str × V → Prop
  | (k, d), p => k = p.1 ∧ IsD K mg H d p.2
end

theorem Same.seqT {K : PySem.W.Frag} {H H' : Hp} {a : Addr} {xs : List V} (e : Same H H') (h : SqT K H a xs) : SqT K H' a xs := by
  rcases h with (h | ⟨o, h⟩) | h
  · exact .inl (.inl (e _ _ h))
  · exact .inl (.inr ⟨o, e _ _ h⟩)
  · exact .inr h
theorem Same.rd {H H' : Hp} {a : Addr} {u : HO} (e : Same H H') (h : Rd H a u) : Rd H' a u := by
  rcases h with h | ⟨o, h⟩
  · exact .inl (e _ _ h)
  · exact .inr ⟨o, e _ _ h⟩

section
variable {K : PySem.W.Frag} {mg : Mg} {H H' : Hp}
mutual
theorem IsD.mono (s : Same H H') : ∀ {d : D} {v : V}, IsD K mg H d v → IsD K mg H' d v
  | .non, _, h => by simpa only [IsD] using h
  | .bl _, _, h => by simpa only [IsD] using h
  | .int _, _, h => by simpa only [IsD] using h
  | .str _, _, h => by simpa only [IsD] using h
  | .ty _, _, h => by simpa only [IsD] using h
  | .tup _, _, h => by
    simp only [IsD] at h ⊢
    obtain ⟨a, xs, e, q, r⟩ := h
    exact ⟨a, xs, e, Same.seqT s q, IsDs.mono s r⟩
  | .lst _, _, h => by
    simp only [IsD] at h ⊢
    obtain ⟨a, xs, e, q, r⟩ := h
    exact ⟨a, xs, e, s _ _ q, IsDs.mono s r⟩
  | .scr _, _, h => by
    simp only [IsD] at h ⊢
    obtain ⟨a, e, q⟩ := h
    exact ⟨a, e, s.seq q⟩
  | .dic _, _, h => by
    simp only [IsD] at h ⊢
    obtain ⟨a, o, e, q, r⟩ := h
    refine ⟨a, o, e, Same.rd s q, ?_⟩
    rcases r with ⟨xs, eo, r⟩ | ⟨xs, eo, r⟩
    · exact .inl ⟨xs, eo, IsKVs.mono s r⟩
    · exact .inr ⟨xs, eo, IsKTs.mono s r⟩
  | .adr _, _, h => by simpa only [IsD] using h
  | .ins _ _, _, h => by
    simp only [IsD] at h ⊢
    obtain ⟨a, o, e, q, C, dx, xs, eo, m, r⟩ := h
    exact ⟨a, o, e, s _ _ q, C, dx, xs, eo, m, IsFs.mono s r⟩
  | .exn _ _, _, h => by
    simp only [IsD] at h ⊢
    obtain ⟨a, C, dd, e, m, q, r⟩ := h
    refine ⟨a, C, dd, e, m, Same.rd s q, ?_⟩
    rcases r with r | ⟨d, xs, ed, q2, r⟩
    · exact .inl r
    · exact .inr ⟨d, xs, ed, s _ _ q2, IsFs.mono s r⟩
  | .cls _, _, h => by simpa only [IsD] using h
theorem IsDs.mono (s : Same H H') : ∀ {d : List D} {v : List V}, IsDs K mg H d v → IsDs K mg H' d v
  | [], _, h => by simpa only [IsDs] using h
  | _ :: _, _, h => by
    simp only [IsDs] at h ⊢
    obtain ⟨v, vs, e, q, r⟩ := h
    exact ⟨v, vs, e, IsD.mono s q, IsDs.mono s r⟩
theorem IsKVs.mono (s : Same H H') : ∀ {d : List (D × D)} {v : List (Key × V)}, IsKVs K mg H d v → IsKVs K mg H' d v
  | [], _, h => by simpa only [IsKVs] using h
  | _ :: _, _, h => by
    simp only [IsKVs] at h ⊢
    obtain ⟨v, vs, e, q, r⟩ := h
    exact ⟨v, vs, e, IsKV.mono s q, IsKVs.mono s r⟩
theorem IsKV.mono (s : Same H H') : ∀ {d : D × D} {v : Key × V}, IsKV K mg H d v → IsKV K mg H' d v
  | (_, _), _, h => by
    simp only [IsKV] at h ⊢
    exact ⟨h.1, IsD.mono s h.2⟩
theorem IsKTs.mono (s : Same H H') : ∀ {d : List (D × D)} {v : List (PyData × Addr × V)}, IsKTs K mg H d v → IsKTs K mg H' d v
  | [], _, h => by simpa only [IsKTs] using h
  | _ :: _, _, h => by
    simp only [IsKTs] at h ⊢
    obtain ⟨v, vs, e, q, r⟩ := h
    exact ⟨v, vs, e, IsKT.mono s q, IsKTs.mono s r⟩
theorem IsKT.mono (s : Same H H') : ∀ {d : D × D} {v : PyData × Addr × V}, IsKT K mg H d v → IsKT K mg H' d v
  | (_, _), _, h => by
    simp only [IsKT] at h ⊢
    exact ⟨h.1, h.2.1, IsD.mono s h.2.2.1, IsD.mono s h.2.2.2⟩
theorem IsFs.mono (s : Same H H') : ∀ {d : List (Str × D)} {v : List (Str × V)}, IsFs K mg H d v → IsFs K mg H' d v
  | [], _, h => by simpa only [IsFs] using h
  | _ :: _, _, h => by
    simp only [IsFs] at h ⊢
    obtain ⟨v, vs, e, q, r⟩ := h
    exact ⟨v, vs, e, IsF.mono s q, IsFs.mono s r⟩
theorem IsF.mono (s : Same H H') : ∀ {d : Str × D} {v : Str × V}, IsF K mg H d v → IsF K mg H' d v
  | (_, _), _, h => by
    simp only [IsF] at h ⊢
    exact ⟨h.1, IsD.mono s h.2⟩
end
def DicAt (K : PySem.W.Frag) (mg : Mg) (H : Hp) (kvs : List (D × D)) (a : Addr) (o : HO) : Prop := (∃ xs, o = .dK xs ∧ IsKVs K mg H kvs xs) ∨ ∃ zs, o = dT mg.w a zs ∧ IsKTs K mg H kvs zs
def InsAt (K : PySem.W.Frag) (mg : Mg) (H : Hp) (c : Str) (fs : List (Str × D)) (o : HO) : Prop := ∃ C dx xs, o = .ins C dx xs ∧ mg.f c = some (.ref C) ∧ IsFs K mg H fs xs
theorem InsAt.mono (s : Same H H') {c : Str} {fs : List (Str × D)} {o : HO} (h : InsAt K mg H c fs o) : InsAt K mg H' c fs o := by
  obtain ⟨C, dx, xs, eo, m, r⟩ := h
  exact ⟨C, dx, xs, eo, m, IsFs.mono s r⟩
theorem DicAt.mono (s : Same H H') {kvs : List (D × D)} {a : Addr} {o : HO} (h : DicAt K mg H kvs a o) : DicAt K mg H' kvs a o := by
  rcases h with ⟨xs, eo, r⟩ | ⟨xs, eo, r⟩
  · exact .inl ⟨xs, eo, IsKVs.mono s r⟩
  · exact .inr ⟨xs, eo, IsKTs.mono s r⟩
end
end PD

namespace PD
open PySem PySem.Spec L2
open PyProof.Rows hiding St

abbrev _root_.L2.Cx.mw (X : Cx) : Mg := ⟨X.mg, X.w⟩
structure Exn where
  cls : Str
  fs : List (Str × D)
inductive Out (α : Type) where
  | ok (a : α) | exc (x : Exn) | stuck
def Out.bind {α β : Type} (o : Out α) (k : α → Out β) : Out β := match o with
  | .ok a => k a
  | .exc x => .exc x
  | .stuck => .stuck
@[simp] theorem Out.bind_ok {α β : Type} (a : α) (k : α → Out β) : (Out.ok a).bind k = k a := rfl
@[simp] theorem Out.bind_exc {α β : Type} (x : Exn) (k : α → Out β) : (Out.exc x).bind k = .exc x := rfl
@[simp] theorem Out.bind_stuck {α β : Type} (k : α → Out β) : (Out.stuck : Out α).bind k = .stuck := rfl
noncomputable def chk {α : Type} (p : Prop) (o : Out α) : Out α := @ite _ p (Classical.propDecidable p) o .stuck
theorem chk_pos {α : Type} {p : Prop} {o : Out α} (h : p) : chk p o = o := if_pos h
theorem chk_neg {α : Type} {p : Prop} {o : Out α} (h : ¬ p) : chk p o = .stuck := if_neg h
abbrev Env := List (Option D)
inductive SO where
  | nx (r : Env) | rt (d : D) | bk (r : Env) | ct (r : Env) | ex (x : Exn) | stuck

def D.mut : D → Bool
  | .lst _ => true
  | .dic _ => true
  | .ins _ _ => true
  | _ => false

structure G where
  H0 : Hp
  F0 : Hp
  slf : Option Addr
section
variable (K : PySem.W.Frag) (mg : Mg)
def IsO (H0 Hf H : Hp) : D → V → Prop
  | .lst ds, v => ∃ a xs, v = .ref a ∧ H0 a = none ∧ Hf a = none ∧ H a = some (.lst xs) ∧ IsDs K mg Hf ds xs
  | .dic kvs, v => ∃ a o, v = .ref a ∧ H0 a = none ∧ Hf a = none ∧ H a = some o ∧ DicAt K mg Hf kvs a o
  | .ins c fs, v => ∃ a o, v = .ref a ∧ H0 a = none ∧ Hf a = none ∧ H a = some o ∧ InsAt K mg Hf c fs o
  | d, v => IsD K mg Hf d v
def IsR (Hf H : Hp) : D → V → Prop
  | .lst ds, v => ∃ a xs, v = .ref a ∧ H a = some (.lst xs) ∧ IsDs K mg Hf ds xs
  | .dic kvs, v => ∃ a o, v = .ref a ∧ Rd H a o ∧ DicAt K mg Hf kvs a o
  | .ins c fs, v => ∃ a o, v = .ref a ∧ H a = some o ∧ InsAt K mg Hf c fs o
  | d, v => IsD K mg Hf d v
abbrev Own (Γ : List Bool) (i : Nat) : Prop := Γ.getD i false = true
def SLen (g : G) (σ : St) (ρ : Env) : Prop := σ.length = ρ.length ∧ ∀ a, g.slf = some a → σ[0]? = some (some (.ref a))
abbrev NS (g : G) (i : Nat) : Prop := i ≠ 0 ∨ g.slf = none
theorem SLen.set {g : G} {σ : St} {ρ : Env} (h : SLen g σ ρ) {i : Nat} (n : NS g i) (d : Option D) (v : Option V) : SLen g (σ.set i v) (ρ.set i d) :=
  ⟨by rw [List.length_set, List.length_set]; exact h.1, fun a e => by
    rcases n with n | n
    · rw [List.getElem?_set_ne n]; exact h.2 a e
    · rw [n] at e; cases e⟩
theorem SLen.setE {g : G} {σ : St} {ρ : Env} (h : SLen g σ ρ) (i : Nat) (d : Option D) : SLen g σ (ρ.set i d) :=
  ⟨by rw [List.length_set]; exact h.1, h.2⟩
structure Rp (g : G) (Γ : List Bool) (ρ : Env) (σ : St) (Hf H : Hp) : Prop where
  same : Same Hf H
  ent : Same g.H0 H
  ent2 : Same g.F0 Hf
  news : ∀ a o, Hf a = some o → g.F0 a = some o ∨ g.H0 a = none
  len : SLen g σ ρ
  own : ∀ i d, Own Γ i → ρ[i]? = some (some d) → ∃ v, σ[i]? = some (some v) ∧ IsO K mg g.H0 Hf H d v
  dat : ∀ i d, ¬ Own Γ i → ρ[i]? = some (some d) → ∃ v, σ[i]? = some (some v) ∧ IsD K mg Hf d v
  sep : ∀ i j d e v, i ≠ j → Own Γ i → Own Γ j → ρ[i]? = some (some d) → ρ[j]? = some (some e) → d.mut = true → e.mut = true → σ[i]? = some (some v) → σ[j]? = some (some v) → False
inductive Md where
  | rd | fr | ow
def Res (g : G) (Γ : List Bool) (ρ : Env) (σ : St) (Hf H : Hp) (m : Md) (d : D) (v : V) : Prop := match m with
  | .rd => IsR K mg Hf H d v
  | .fr => IsD K mg Hf d v
  | .ow => IsO K mg g.H0 Hf H d v ∧ ∀ i e, Own Γ i → ρ[i]? = some (some e) → e.mut = true → d.mut = true → σ[i]? = some (some v) → False
def IsX (x : Exn) (c : Value) (dd : Option Addr) (Hf : Hp) : Prop :=
  (∃ C, c = .ref C ∧ mg.f x.cls = some (.ref C)) ∧ ((x.fs = [] ∧ dd = none) ∨ ∃ d xs, dd = some d ∧ Hf d = some (.xd xs) ∧ IsFs K mg Hf x.fs xs)
def Le (Γ' Γ : List Bool) : Prop := ∀ i, Own Γ' i → Own Γ i
def tG (g : G) (E : WX) (Γ : List Bool) (ρ : Env) (σ : St) (Hf H : Hp) {α : Type} (P : α → Hp → Hp → Prop) : Out α → Prop
  | .ok a => ∀ Hf' H', Same Hf Hf' → Same H H' → Rp K mg g Γ ρ σ Hf' H' → P a Hf' H'
  | .exc x => ∀ c dd Hf' H', Same Hf Hf' → Same H H' → Rp K mg g Γ ρ σ Hf' H' → IsX K mg x c dd Hf' → E c dd σ H'
  | .stuck => False
def RetRes (H0 : Hp) (ro : Bool) (Hf H : Hp) (d : D) (v : V) : Prop := if ro = true then IsO K mg H0 Hf H d v else IsD K mg Hf d v
def RetG (g : G) (ro : Bool) (Hf H : Hp) (d : D) (v : V) : Prop := match g.slf with
  | none => RetRes K mg g.H0 ro Hf H d v
  | some a => ∃ r c fs o, d = .tup [r, .ins c fs] ∧ Hf a = none ∧ H a = some o ∧ InsAt K mg Hf c fs o ∧ IsD K mg Hf r v
def sR (g : G) (E : WX) (Γ Γl : List Bool) (ro : Bool) (Dn : Ends) : SO → Prop
  | .nx ρ => ∀ σ Hf H, Rp K mg g Γ ρ σ Hf H → Dn.nx σ H
  | .bk ρ => ∀ σ Hf H, Rp K mg g Γl ρ σ Hf H → Dn.bk σ H
  | .ct ρ => ∀ σ Hf H, Rp K mg g Γl ρ σ Hf H → Dn.ct σ H
  | .rt d => ∀ v Hf H, Same Hf H → Same g.H0 H → Same g.F0 Hf → (∀ a o, Hf a = some o → g.F0 a = some o ∨ g.H0 a = none) → RetG K mg g ro Hf H d v → Dn.rt v H
  | .ex x => ∀ c dd σ Hf H, Same Hf H → Same g.H0 H → Same g.F0 Hf → (∀ a o, Hf a = some o → g.F0 a = some o ∨ g.H0 a = none) → IsX K mg x c dd Hf → E c dd σ H
  | .stuck => False
def spD (ro : Bool) (F : List D → Out D) : Sp := fun vs H Q E => ∃ ds Hf, Same Hf H ∧ IsDs K mg Hf ds vs ∧ match F ds with
  | .ok d => ∀ v Hf' H', Same Hf Hf' → Same Hf' H' → Same H H' → (∀ a o, Hf' a = some o → Hf a = some o ∨ H a = none) → RetRes K mg H ro Hf' H' d v → Q v H'
  | .exc x => ∀ c dd Hf' H', Same Hf Hf' → Same Hf' H' → Same H H' → (∀ a o, Hf' a = some o → Hf a = some o ∨ H a = none) → IsX K mg x c dd Hf' → E c dd H'
  | .stuck => False
end

section
variable {K : PySem.W.Frag} {mg : Mg}
theorem Le.refl (Γ : List Bool) : Le Γ Γ := fun _ h => h
theorem Le.trans {a b c : List Bool} (h : Le a b) (k : Le b c) : Le a c := fun i z => k i (h i z)
theorem Le.set (Γ : List Bool) (i : Nat) : Le (Γ.set i false) Γ := fun j h => by
  unfold Own at *
  rw [List.getD_eq_getElem?_getD, List.getElem?_set] at h
  by_cases e : i = j
  · subst e
    rw [if_pos rfl] at h
    by_cases l : i < Γ.length
    · rw [if_pos l] at h; simp at h
    · rw [if_neg l] at h; simp at h
  · rw [if_neg e] at h
    rw [List.getD_eq_getElem?_getD]; exact h

theorem IsX.mono {Hf Hf' : Hp} {x : Exn} {c : Value} {dd : Option Addr} (s : Same Hf Hf') (h : IsX K mg x c dd Hf) : IsX K mg x c dd Hf' := by
  refine ⟨h.1, ?_⟩
  rcases h.2 with r | ⟨d, xs, ed, q, r⟩
  · exact .inl r
  · exact .inr ⟨d, xs, ed, s _ _ q, IsFs.mono s r⟩
theorem IsO.of_dat {H0 Hf H : Hp} {d : D} {v : V} (n : d.mut = false) (h : IsD K mg Hf d v) : IsO K mg H0 Hf H d v := by
  cases d <;> first | exact h | cases n
theorem IsR.of_dat {Hf H : Hp} {d : D} {v : V} (s : Same Hf H) (h : IsD K mg Hf d v) : IsR K mg Hf H d v := by
  cases d <;> first | exact h | (simp only [IsD] at h; obtain ⟨a, xs, e, q, r⟩ := h; first | exact ⟨a, xs, e, s _ _ q, r⟩ | exact ⟨a, xs, e, Same.rd s q, r⟩)
theorem IsR.of_own {H0 Hf H : Hp} {d : D} {v : V} (h : IsO K mg H0 Hf H d v) : IsR K mg Hf H d v := by
  cases d <;> first | exact h | (obtain ⟨a, xs, e, _, _, q, r⟩ := h; first | exact ⟨a, xs, e, q, r⟩ | exact ⟨a, xs, e, .inl q, r⟩)
theorem IsR.mono {Hf Hf' H H' : Hp} {d : D} {v : V} (s1 : Same Hf Hf') (s2 : Same H H') (h : IsR K mg Hf H d v) : IsR K mg Hf' H' d v := by
  cases d <;> first
    | exact IsD.mono s1 h
    | (obtain ⟨a, xs, e, q, r⟩ := h; first | exact ⟨a, xs, e, s2 _ _ q, IsDs.mono s1 r⟩ | exact ⟨a, xs, e, Same.rd s2 q, DicAt.mono s1 r⟩ | exact ⟨a, xs, e, s2 _ _ q, InsAt.mono s1 r⟩)
theorem IsO.addr {H0 Hf H : Hp} {d : D} {v : V} (m : d.mut = true) (h : IsO K mg H0 Hf H d v) : ∃ a o, v = .ref a ∧ H0 a = none ∧ Hf a = none ∧ H a = some o := by
  cases d with
  | lst ds => obtain ⟨a, xs, e, z0, zf, q, r⟩ := h; exact ⟨a, _, e, z0, zf, q⟩
  | dic ds => obtain ⟨a, xs, e, z0, zf, q, r⟩ := h; exact ⟨a, _, e, z0, zf, q⟩
  | ins c ds => obtain ⟨a, xs, e, z0, zf, q, r⟩ := h; exact ⟨a, _, e, z0, zf, q⟩
  | _ => cases m
theorem Res.dat {g : G} {Γ : List Bool} {ρ : Env} {σ : St} {Hf H : Hp} {m : Md} {d : D} {v : V} (s : Same Hf H) (n : d.mut = false) (h : IsD K mg Hf d v) : Res K mg g Γ ρ σ Hf H m d v := by
  cases m with
  | rd => exact IsR.of_dat s h
  | fr => exact h
  | ow => exact ⟨IsO.of_dat n h, fun i e _ _ _ q => by rw [n] at q; cases q⟩
theorem Res.rd {g : G} {Γ : List Bool} {ρ : Env} {σ : St} {Hf H : Hp} {m : Md} {d : D} {v : V} (s : Same Hf H) (h : Res K mg g Γ ρ σ Hf H m d v) : IsR K mg Hf H d v := by
  cases m with
  | rd => exact h
  | fr => exact IsR.of_dat s h
  | ow => exact IsR.of_own h.1

theorem frz_same {Hf H : Hp} (p : Addr → Prop) [DecidablePred p] (s : Same Hf H) : Same Hf (fun a => if p a then H a else Hf a) := fun a o e => by
  by_cases h : p a
  · show (if p a then H a else Hf a) = some o
    rw [if_pos h]; exact s _ _ e
  · show (if p a then H a else Hf a) = some o
    rw [if_neg h]; exact e
theorem frz_same2 {Hf H : Hp} (p : Addr → Prop) [DecidablePred p] (s : Same Hf H) : Same (fun a => if p a then H a else Hf a) H := fun a o e => by
  have e' : (if p a then H a else Hf a) = some o := e
  by_cases h : p a
  · rw [if_pos h] at e'; exact e'
  · rw [if_neg h] at e'; exact s _ _ e'
theorem IsD.of_own {H0 Hf Hf' H : Hp} {d : D} {v : V} (s : Same Hf Hf') (at_ : ∀ a, v = .ref a → d.mut = true → Hf' a = H a) (h : IsO K mg H0 Hf H d v) : IsD K mg Hf' d v := by
  cases d with
  | lst ds =>
    obtain ⟨a, xs, e, z0, zf, q, r⟩ := h
    simp only [IsD]
    exact ⟨a, xs, e, (at_ a e rfl).trans q, IsDs.mono s r⟩
  | dic ds =>
    obtain ⟨a, xs, e, z0, zf, q, r⟩ := h
    simp only [IsD]
    exact ⟨a, xs, e, .inl ((at_ a e rfl).trans q), DicAt.mono s r⟩
  | ins c ds =>
    obtain ⟨a, xs, e, z0, zf, q, r⟩ := h
    simp only [IsD]
    exact ⟨a, xs, e, (at_ a e rfl).trans q, InsAt.mono s r⟩
  | _ => exact IsD.mono s h
theorem IsO.keep {H0 Hf Hf' H : Hp} {d : D} {v : V} (s : Same Hf Hf') (at_ : ∀ a, v = .ref a → d.mut = true → Hf' a = none) (h : IsO K mg H0 Hf H d v) : IsO K mg H0 Hf' H d v := by
  cases d with
  | lst ds =>
    obtain ⟨a, xs, e, z0, zf, q, r⟩ := h
    exact ⟨a, xs, e, z0, at_ a e rfl, q, IsDs.mono s r⟩
  | dic ds =>
    obtain ⟨a, xs, e, z0, zf, q, r⟩ := h
    exact ⟨a, xs, e, z0, at_ a e rfl, q, DicAt.mono s r⟩
  | ins c ds =>
    obtain ⟨a, xs, e, z0, zf, q, r⟩ := h
    exact ⟨a, xs, e, z0, at_ a e rfl, q, InsAt.mono s r⟩
  | _ => exact IsD.mono s h
open Classical in
theorem Rp.frz {g : G} {Γ Γ' : List Bool} {ρ : Env} {σ : St} {Hf H : Hp} (R : Rp K mg g Γ ρ σ Hf H) (le : Le Γ' Γ) : ∃ Hf', Same Hf Hf' ∧ Rp K mg g Γ' ρ σ Hf' H ∧ ∀ a o, Hf' a = some o → Hf a = none →
    ∃ i d, Own Γ i ∧ ¬ Own Γ' i ∧ ρ[i]? = some (some d) ∧ d.mut = true ∧ σ[i]? = some (some (.ref a)) := by
  let p : Addr → Prop := fun a => ∃ i d, Own Γ i ∧ ¬ Own Γ' i ∧ ρ[i]? = some (some d) ∧ d.mut = true ∧ σ[i]? = some (some (.ref a))
  have s1 : Same Hf (fun a => if p a then H a else Hf a) := frz_same p R.same
  refine ⟨fun a => if p a then H a else Hf a, s1, ⟨frz_same2 p R.same, R.ent, R.ent2.trans s1, fun a o e => ?_, R.len, fun i d o e => ?_, fun i d o e => ?_, fun i j d e v n o1 o2 => R.sep i j d e v n (le i o1) (le j o2)⟩, fun a o e n => ?_⟩
  · have e' : (if p a then H a else Hf a) = some o := e
    by_cases h : p a
    · obtain ⟨i, d, o1, o2, e1, m, e2⟩ := h
      obtain ⟨v, e3, io⟩ := R.own i d o1 e1
      rw [e2] at e3
      obtain rfl : V.ref a = v := Option.some.inj (Option.some.inj e3)
      obtain ⟨b, ob, e4, z0, _⟩ := io.addr m
      obtain rfl : a = b := V.ref.inj e4
      exact .inr z0
    · rw [if_neg h] at e'
      exact R.news a o e'
  · obtain ⟨v, e1, io⟩ := R.own i d (le i o) e
    refine ⟨v, e1, io.keep s1 fun a ea m => ?_⟩
    obtain ⟨b, ob, e4, z0, zf, _⟩ := io.addr m
    rw [ea] at e4
    obtain rfl : a = b := V.ref.inj e4
    have np : ¬ p a := fun ⟨j, e', o1, o2, e2, m2, e3⟩ => by
      by_cases ij : i = j
      · subst ij; exact o2 o
      · exact R.sep i j d e' (.ref a) ij (le i o) o1 e e2 m m2 (ea ▸ e1) e3
    show (if p a then H a else Hf a) = none
    rw [if_neg np]; exact zf
  · by_cases oΓ : Own Γ i
    · obtain ⟨v, e1, io⟩ := R.own i d oΓ e
      refine ⟨v, e1, IsD.of_own s1 (fun a ea m => ?_) io⟩
      show (if p a then H a else Hf a) = H a
      exact if_pos ⟨i, d, oΓ, o, e, m, ea ▸ e1⟩
    · obtain ⟨v, e1, id⟩ := R.dat i d oΓ e
      exact ⟨v, e1, id.mono s1⟩
  · have e' : (if p a then H a else Hf a) = some o := e
    by_cases h : p a
    · exact h
    · rw [if_neg h, n] at e'; cases e'
end
end PD

namespace PD
open PySem PySem.Spec L2
open PyProof.Rows hiding St

section
variable {K : PySem.W.Frag} {mg : Mg} {g : G} {E : WX} {Γ Γ1 Γ2 : List Bool} {ρ : Env} {σ : St} {Hf H Hf' H' : Hp}
theorem tG.mono {α : Type} {P : α → Hp → Hp → Prop} {o : Out α} (s1 : Same Hf Hf') (s2 : Same H H') (h : tG K mg g E Γ ρ σ Hf H P o) : tG K mg g E Γ ρ σ Hf' H' P o := by
  cases o with
  | ok a => exact fun F' H' a b R => h F' H' (s1.trans a) (s2.trans b) R
  | exc x => exact fun c dd F' H' a b R q => h c dd F' H' (s1.trans a) (s2.trans b) R q
  | stuck => exact h
theorem tG.imp {α : Type} {P P' : α → Hp → Hp → Prop} {o : Out α} (h : tG K mg g E Γ ρ σ Hf H P o) (w : ∀ a Hf' H', Same Hf Hf' → Same H H' → Rp K mg g Γ ρ σ Hf' H' → P a Hf' H' → P' a Hf' H') : tG K mg g E Γ ρ σ Hf H P' o := by
  cases o with
  | ok a => exact fun F' H' a b R => w _ F' H' a b R (h F' H' a b R)
  | exc x => exact h
  | stuck => exact h
theorem tG.bind {α β : Type} {P1 : α → Hp → Hp → Prop} {P2 : β → Hp → Hp → Prop} {o : Out α} {k : α → Out β} (le : Le Γ2 Γ1) (h : tG K mg g E Γ2 ρ σ Hf H P2 (o.bind k))
    (hk : ∀ a Hf' H', Same Hf Hf' → Same H H' → Rp K mg g Γ1 ρ σ Hf' H' → tG K mg g E Γ2 ρ σ Hf' H' P2 (k a) → P1 a Hf' H') : tG K mg g E Γ1 ρ σ Hf H P1 o := by
  cases o with
  | ok a => exact fun F' H' s1 s2 R => hk a F' H' s1 s2 R (tG.mono s1 s2 h)
  | exc x =>
    intro c dd F' H' s1 s2 R q
    obtain ⟨F'', s3, R', _⟩ := R.frz le
    exact h c dd F'' H' (s1.trans s3) s2 R' (q.mono s3)
  | stuck => exact h
end

def PV (X : Cx) (g : G) (Γ : List Bool) (ρ : Env) (σ : St) (m : Md) (Q : VK) : D → Hp → Hp → Prop := fun d Hf H => ∀ v, Res X.K X.mw g Γ ρ σ Hf H m d v → Q v H
structure PX (X : Cx) (g : G) (E : WX) (Γ : List Bool) (e : Expr) (Γ' : List Bool) (m : Md) (f : Env → Out D) : Prop where
  le : Le Γ' Γ
  pe : PE X e (fun σ H Q => ∃ ρ Hf, Rp X.K X.mw g Γ ρ σ Hf H ∧ tG X.K X.mw g E Γ' ρ σ Hf H (PV X g Γ' ρ σ m Q) (f ρ))
structure PTx (X : Cx) (g : G) (E : WX) (Γ : List Bool) (e : Expr) (Γ' : List Bool) (f : Env → Out Bool) : Prop where
  le : Le Γ' Γ
  pe : PT X e (fun σ H Q => ∃ ρ Hf, Rp X.K X.mw g Γ ρ σ Hf H ∧ tG X.K X.mw g E Γ' ρ σ Hf H (fun b _ H' => Q b H') (f ρ))
structure PWx (X : Cx) (g : G) (E : WX) (Γ : List Bool) (e : Expr) (Γ' : List Bool) (f : Env → Out Bool) : Prop where
  le : Le Γ' Γ
  pe : PW X e (fun σ H Q => ∃ ρ Hf, Rp X.K X.mw g Γ ρ σ Hf H ∧ tG X.K X.mw g E Γ' ρ σ Hf H (fun b _ H' => Q b H') (f ρ))
structure PAx (X : Cx) (g : G) (E : WX) (Γ : List Bool) (e : List Expr) (Γ' : List Bool) (f : Env → Out (List D)) : Prop where
  le : Le Γ' Γ
  pe : PA X e (fun σ H Q => ∃ ρ Hf, Rp X.K X.mw g Γ ρ σ Hf H ∧ tG X.K X.mw g E Γ' ρ σ Hf H (fun ds Hf' H' => ∀ vs, IsDs X.K X.mw Hf' ds vs → Q vs H') (f ρ))

theorem _root_.L2.PE.imp {X : Cx} {e : Expr} {t t' : TE} (h : PE X e t) (w : ∀ σ H Q, t' σ H Q → t σ H Q) : PE X e t' :=
  ⟨fun pins s σ H Q I q => h.run pins s σ H Q I (w σ H Q q)⟩
theorem _root_.L2.PT.imp {X : Cx} {e : Expr} {t t' : TT} (h : PT X e t) (w : ∀ σ H Q, t' σ H Q → t σ H Q) : PT X e t' :=
  ⟨fun pins s σ H Q I q => h.run pins s σ H Q I (w σ H Q q)⟩
theorem _root_.L2.PW.imp {X : Cx} {e : Expr} {t t' : TT} (h : PW X e t) (w : ∀ σ H Q, t' σ H Q → t σ H Q) : PW X e t' :=
  ⟨fun wh pins s σ H Q I q => h.run wh pins s σ H Q I (w σ H Q q)⟩
theorem _root_.L2.PA.imp {X : Cx} {e : List Expr} {t t' : TA} (h : PA X e t) (w : ∀ σ H Q, t' σ H Q → t σ H Q) : PA X e t' :=
  ⟨fun p pins s σ H Q I q => h.run p pins s σ H Q I (w σ H Q q)⟩

section
variable {X : Cx} {g : G} {E : WX} {Γ Γ1 Γ2 Γ3 : List Bool} {m : Md} {pos : Pos}

def eC (d : D) : Env → Out D := fun _ => .ok d
def eV (i : Nat) : Env → Out D := fun ρ => match ρ[i]? with
  | some (some d) => .ok d
  | _ => .stuck
def e2 (F : D → D → Out D) (a b : Env → Out D) : Env → Out D := fun ρ => (a ρ).bind fun x => (b ρ).bind fun y => F x y
def e1 (F : D → Out D) (a : Env → Out D) : Env → Out D := fun ρ => (a ρ).bind F
def aN : Env → Out (List D) := fun _ => .ok []
def aC (a : Env → Out D) (r : Env → Out (List D)) : Env → Out (List D) := fun ρ => (a ρ).bind fun x => (r ρ).bind fun xs => .ok (x :: xs)
def eA (F : List D → Out D) (a : Env → Out (List D)) : Env → Out D := fun ρ => (a ρ).bind F

open Classical in
theorem Rp.cool {K : PySem.W.Frag} {mg : Mg} {ρ : Env} {σ : St} {Hf H : Hp} (R : Rp K mg g Γ ρ σ Hf H) {d : D} {v : V} (io : IsO K mg g.H0 Hf H d v)
    (ap : ∀ i e, Own Γ i → ρ[i]? = some (some e) → e.mut = true → d.mut = true → σ[i]? = some (some v) → False) : ∃ Hf', Same Hf Hf' ∧ Rp K mg g Γ ρ σ Hf' H ∧ IsD K mg Hf' d v := by
  by_cases md : d.mut = true
  · obtain ⟨a, o, rfl, z0, zf, hH⟩ := io.addr md
    have s1 : Same Hf (fun b => if b = a then H b else Hf b) := frz_same (fun b => b = a) R.same
    refine ⟨fun b => if b = a then H b else Hf b, s1, ⟨frz_same2 (fun b => b = a) R.same, R.ent, R.ent2.trans s1, fun b o e => ?_, R.len, fun i d' o e => ?_, fun i d' o e => ?_, R.sep⟩, IsD.of_own s1 (fun b eb _ => ?_) io⟩
    · have e' : (if b = a then H b else Hf b) = some o := e
      by_cases h : b = a
      · subst h; exact .inr z0
      · rw [if_neg h] at e'; exact R.news b o e'
    · obtain ⟨v, e1, io'⟩ := R.own i d' o e
      refine ⟨v, e1, io'.keep s1 fun b eb m => ?_⟩
      subst eb
      have hb : b ≠ a := fun z => ap i d' o e m md (z ▸ e1)
      obtain ⟨c, oc, e4, _, zf', _⟩ := io'.addr m
      obtain rfl : b = c := V.ref.inj e4
      show (if b = a then H b else Hf b) = none
      rw [if_neg hb]; exact zf'
    · obtain ⟨v, e1, q⟩ := R.dat i d' o e
      exact ⟨v, e1, q.mono s1⟩
    · obtain rfl : a = b := V.ref.inj eb
      exact if_pos rfl
  · refine ⟨Hf, Same.refl _, R, ?_⟩
    cases d <;> first | exact io | exact absurd rfl md
theorem PX.fr {e : Expr} {f : Env → Out D} (h : PX X g E Γ e Γ1 .ow f) : PX X g E Γ e Γ1 .fr f := by
  refine ⟨h.le, h.pe.imp fun σ H Q ⟨ρ, Hf, R, q⟩ => ⟨ρ, Hf, R, ?_⟩⟩
  cases hf : f ρ with
  | ok d =>
    rw [hf] at q
    intro F1 H1 s1 s2 R1 v hv
    obtain ⟨io, ap⟩ := hv
    obtain ⟨F2, s3, R2, id⟩ := R1.cool io ap
    exact q F2 H1 (s1.trans s3) s2 R2 v id
  | exc x => rw [hf] at q; exact q
  | stuck => rw [hf] at q; exact q
theorem PX.rd {e : Expr} {f : Env → Out D} (h : PX X g E Γ e Γ1 m f) : PX X g E Γ e Γ1 .rd f := by
  refine ⟨h.le, h.pe.imp fun σ H Q ⟨ρ, Hf, R, q⟩ => ⟨ρ, Hf, R, tG.imp q fun d F1 H1 s1 s2 R1 k v hv => k v (Res.rd R1.same hv)⟩⟩

theorem PX.atom {e : Expr} {d : D} {v0 : V} (h : PE X e (tC v0)) (n : d.mut = false) (q : ∀ F v, v = v0 → IsD X.K X.mw F d v) : PX X g E Γ e Γ m (eC d) := by
  refine ⟨Le.refl _, h.imp fun σ H Q ⟨ρ, Hf, R, k⟩ => ?_⟩
  exact k Hf H (Same.refl _) (Same.refl _) R v0 (Res.dat R.same n (q Hf v0 rfl))
theorem px_int {i : Int} {j pos} : PX X g E Γ (.Constant (.int i) j pos) Γ m (eC (.int i)) := .atom pe_int rfl fun F v e => by simpa only [IsD] using e
theorem px_bl {b : Bool} {j pos} : PX X g E Γ (.Constant (.bool b) j pos) Γ m (eC (.bl b)) := .atom pe_bl rfl fun F v e => by simpa only [IsD] using e
theorem px_str {x : Str} {j pos} : PX X g E Γ (.Constant (.str x) j pos) Γ m (eC (.str x)) := .atom pe_str rfl fun F v e => by simpa only [IsD] using e
theorem eV_ok {i : Nat} {ρ : Env} {d : D} (h : eV i ρ = .ok d) : ρ[i]? = some (some d) := by
  unfold eV at h
  split at h
  · cases h; assumption
  · cases h
theorem eV_nx {i : Nat} {ρ : Env} {x : Exn} (h : eV i ρ = .exc x) : False := by
  unfold eV at h
  split at h <;> cases h
theorem px_rd {x : Str} {i : Nat} (h : PE X (.Name x pos) (tVar i)) : PX X g E Γ (.Name x pos) Γ .rd (eV i) := by
  refine ⟨Le.refl _, h.imp fun σ H Q ⟨ρ, Hf, R, k⟩ => ?_⟩
  cases he : eV i ρ with
  | ok d =>
    rw [he] at k
    have e := eV_ok he
    by_cases o : Own Γ i
    · obtain ⟨v, e1, io⟩ := R.own i d o e
      exact ⟨v, e1, k Hf H (Same.refl _) (Same.refl _) R v (IsR.of_own io)⟩
    · obtain ⟨v, e1, io⟩ := R.dat i d o e
      exact ⟨v, e1, k Hf H (Same.refl _) (Same.refl _) R v (IsR.of_dat R.same io)⟩
  | exc x => exact (eV_nx he).elim
  | stuck => rw [he] at k; exact k.elim
theorem px_fr' {x : Str} {i : Nat} (h : PE X (.Name x pos) (tVar i)) (no : Γ.getD i false = false) : PX X g E Γ (.Name x pos) Γ .fr (eV i) := by
  refine ⟨Le.refl _, h.imp fun σ H Q ⟨ρ, Hf, R, k⟩ => ?_⟩
  cases he : eV i ρ with
  | ok d =>
    rw [he] at k
    have e := eV_ok he
    obtain ⟨v, e1, q⟩ := R.dat i d (fun z => by unfold Own at z; rw [no] at z; cases z) e
    exact ⟨v, e1, k Hf H (Same.refl _) (Same.refl _) R v q⟩
  | exc x => exact (eV_nx he).elim
  | stuck => rw [he] at k; exact k.elim

def OpD (X : Cx) (f : Value → Value → Sem Value) (m : Md) (F : D → D → Out D) : Prop := ∃ r, OpR X f r ∧
  ∀ g E Γ ρ σ Hf H x y v u Q, Rp X.K X.mw g Γ ρ σ Hf H → IsR X.K X.mw Hf H x v → IsR X.K X.mw Hf H y u → tG X.K X.mw g E Γ ρ σ Hf H (PV X g Γ ρ σ m Q) (F x y) → r v u H Q
def UnD (X : Cx) (f : Value → Sem Value) (m : Md) (F : D → Out D) : Prop := ∃ r, UnR X f r ∧
  ∀ g E Γ ρ σ Hf H x v Q, Rp X.K X.mw g Γ ρ σ Hf H → IsR X.K X.mw Hf H x v → tG X.K X.mw g E Γ ρ σ Hf H (PV X g Γ ρ σ m Q) (F x) → r v H Q
variable {a b : Expr} {fa fb : Env → Out D}
theorem px_bin {op : Operator} {F : D → D → Out D} (ho : OpD X (binaryOp op) m F) (ha : PX X g E Γ a Γ1 .rd fa) (hb : PX X g E Γ1 b Γ2 .rd fb) : PX X g E Γ (.BinOp a op b pos) Γ2 m (e2 F fa fb) := by
  obtain ⟨r, hr, w⟩ := ho
  refine ⟨hb.le.trans ha.le, (pe_op hr ha.pe hb.pe).imp fun σ H Q ⟨ρ, Hf, R, k⟩ => ⟨ρ, Hf, R, ?_⟩⟩
  refine tG.bind hb.le k fun x F1 H1 s1 s2 R1 k1 v hv => ⟨ρ, F1, R1, ?_⟩
  refine tG.bind (Le.refl _) k1 fun y F2 H2 s3 s4 R2 k2 u hu => ?_
  exact w g E Γ2 ρ σ F2 H2 x y v u Q R2 (IsR.mono s3 s4 hv) hu k2
theorem px_cmp {op : CmpOp} {F : D → D → Out D} (ho : OpD X (compareOp op) m F) (ha : PX X g E Γ a Γ1 .rd fa) (hb : PX X g E Γ1 b Γ2 .rd fb) (hm : behindInMarks op b = false) : PX X g E Γ (.Compare a [op] [b] pos) Γ2 m (e2 F fa fb) := by
  obtain ⟨r, hr, w⟩ := ho
  refine ⟨hb.le.trans ha.le, (pe_cmpR hr ha.pe hb.pe hm).imp fun σ H Q ⟨ρ, Hf, R, k⟩ => ⟨ρ, Hf, R, ?_⟩⟩
  refine tG.bind hb.le k fun x F1 H1 s1 s2 R1 k1 v hv => ⟨ρ, F1, R1, ?_⟩
  refine tG.bind (Le.refl _) k1 fun y F2 H2 s3 s4 R2 k2 u hu => ?_
  exact w g E Γ2 ρ σ F2 H2 x y v u Q R2 (IsR.mono s3 s4 hv) hu k2
theorem px_un {op : UnaryOp} {F : D → Out D} (ho : UnD X (unaryOp op) m F) (ha : PX X g E Γ a Γ1 .rd fa) : PX X g E Γ (.UnaryOp op a pos) Γ1 m (e1 F fa) := by
  obtain ⟨r, hr, w⟩ := ho
  refine ⟨ha.le, (pe_un hr ha.pe).imp fun σ H Q ⟨ρ, Hf, R, k⟩ => ⟨ρ, Hf, R, ?_⟩⟩
  refine tG.bind (Le.refl _) k fun x F1 H1 s1 s2 R1 k1 v hv => ?_
  exact w g E Γ1 ρ σ F1 H1 x v Q R1 hv k1

def tOf (f : Env → Out D) : Env → Out Bool := fun ρ => (f ρ).bind fun d => match d with
  | .bl b => .ok b
  | _ => .stuck
theorem pt_of {e : Expr} {t : TE} {f : Env → Out D} (hp : PT X e (tTest t)) (w : ∀ σ H Q, (∃ ρ Hf, Rp X.K X.mw g Γ ρ σ Hf H ∧ tG X.K X.mw g E Γ1 ρ σ Hf H (PV X g Γ1 ρ σ .rd Q) (f ρ)) → t σ H Q) (le : Le Γ1 Γ) : PTx X g E Γ e Γ1 (tOf f) := by
  refine ⟨le, hp.imp fun σ H Q ⟨ρ, Hf, R, k⟩ => w σ H _ ⟨ρ, Hf, R, ?_⟩⟩
  refine tG.bind (Le.refl _) k fun x F1 H1 s1 s2 R1 k1 v hv => ?_
  cases x with
  | bl b => exact ⟨b, hv, k1 F1 H1 (Same.refl _) (Same.refl _) R1⟩
  | _ => exact k1.elim
theorem ptx_val {e : Expr} {f : Env → Out D} (h : PX X g E Γ e Γ1 .rd f) (he : ∀ whole, isTrue e X.env whole = (do let v ← whole; standAt e.pos; holding [v] (truthy v)) := by intro _; rfl) : PTx X g E Γ e Γ1 (tOf f) :=
  pt_of (pt_val h.pe he) (fun _ _ _ z => z) h.le
theorem ptx_cmp {op : CmpOp} {F : D → D → Out D} (ho : OpD X (compareOp op) .rd F) (ha : PX X g E Γ a Γ1 .rd fa) (hb : PX X g E Γ1 b Γ2 .rd fb) (hm : behindInMarks op b = false) : PTx X g E Γ (.Compare a [op] [b] pos) Γ2 (tOf (e2 F fa fb)) := by
  obtain ⟨r, hr, w⟩ := ho
  refine pt_of (pt_cmpR hr ha.pe hb.pe hm) (fun σ H Q ⟨ρ, Hf, R, k⟩ => ⟨ρ, Hf, R, ?_⟩) (hb.le.trans ha.le)
  refine tG.bind hb.le k fun x F1 H1 s1 s2 R1 k1 v hv => ⟨ρ, F1, R1, ?_⟩
  refine tG.bind (Le.refl _) k1 fun y F2 H2 s3 s4 R2 k2 u hu => ?_
  exact w g E Γ2 ρ σ F2 H2 x y v u Q R2 (IsR.mono s3 s4 hv) hu k2
def bAnd (s t : Env → Out Bool) : Env → Out Bool := fun ρ => (s ρ).bind fun b => if b = true then t ρ else .ok false
def bOr (s t : Env → Out Bool) : Env → Out Bool := fun ρ => (s ρ).bind fun b => if b = true then .ok true else t ρ
def bNot (s : Env → Out Bool) : Env → Out Bool := fun ρ => (s ρ).bind fun b => .ok (!b)
variable {fs ft : Env → Out Bool} {rest : List Expr}
theorem pwx_and1 (ha : PTx X g E Γ a Γ1 fs) : PWx X g E Γ (.BoolOp .And [a] pos) Γ1 fs := ⟨ha.le, pw_and1 ha.pe⟩
theorem pwx_or1 (ha : PTx X g E Γ a Γ1 fs) : PWx X g E Γ (.BoolOp .Or [a] pos) Γ1 fs := ⟨ha.le, pw_or1 ha.pe⟩
theorem PWx.pt {e : Expr} (h : PWx X g E Γ e Γ1 fs) : PTx X g E Γ e Γ1 fs := ⟨h.le, h.pe.pt⟩
theorem pwx_and (ha : PTx X g E Γ a Γ1 fs) (hb : PWx X g E Γ1 (.BoolOp .And (b :: rest) pos) Γ2 ft) : PWx X g E Γ (.BoolOp .And (a :: b :: rest) pos) Γ2 (bAnd fs ft) := by
  refine ⟨hb.le.trans ha.le, (pw_and ha.pe hb.pe).imp fun σ H Q ⟨ρ, Hf, R, k⟩ => ⟨ρ, Hf, R, ?_⟩⟩
  refine tG.bind hb.le k fun x F1 H1 s1 s2 R1 k1 => ?_
  cases x with
  | true => exact ⟨ρ, F1, R1, k1⟩
  | false =>
    obtain ⟨F2, s3, R2, _⟩ := R1.frz hb.le
    exact k1 F2 H1 s3 (Same.refl _) R2
theorem pwx_or (ha : PTx X g E Γ a Γ1 fs) (hb : PWx X g E Γ1 (.BoolOp .Or (b :: rest) pos) Γ2 ft) : PWx X g E Γ (.BoolOp .Or (a :: b :: rest) pos) Γ2 (bOr fs ft) := by
  refine ⟨hb.le.trans ha.le, (pw_or ha.pe hb.pe).imp fun σ H Q ⟨ρ, Hf, R, k⟩ => ⟨ρ, Hf, R, ?_⟩⟩
  refine tG.bind hb.le k fun x F1 H1 s1 s2 R1 k1 => ?_
  cases x with
  | false => exact ⟨ρ, F1, R1, k1⟩
  | true =>
    obtain ⟨F2, s3, R2, _⟩ := R1.frz hb.le
    exact k1 F2 H1 s3 (Same.refl _) R2
def vAnd (a b : Env → Out D) : Env → Out D := fun ρ => (a ρ).bind fun x => match x with
  | .bl c => if c = true then b ρ else .ok (.bl false)
  | _ => .stuck
def vOr (a b : Env → Out D) : Env → Out D := fun ρ => (a ρ).bind fun x => match x with
  | .bl c => if c = true then .ok (.bl true) else b ρ
  | _ => .stuck
theorem px_one {op} (h : PX X g E Γ a Γ1 m fa) : PX X g E Γ (.BoolOp op [a] pos) Γ1 m fa := ⟨h.le, pe_one h.pe⟩
theorem px_and (ha : PX X g E Γ a Γ1 .rd fa) (hb : PX X g E Γ1 (.BoolOp .And (b :: rest) pos) Γ2 m fb) : PX X g E Γ (.BoolOp .And (a :: b :: rest) pos) Γ2 m (vAnd fa fb) := by
  refine ⟨hb.le.trans ha.le, (pe_and ha.pe hb.pe).imp fun σ H Q ⟨ρ, Hf, R, k⟩ => ⟨ρ, Hf, R, ?_⟩⟩
  refine tG.bind hb.le k fun x F1 H1 s1 s2 R1 k1 v hv => ?_
  cases x with
  | bl c =>
    refine ⟨c, hv, ?_⟩
    cases c with
    | true => exact ⟨ρ, F1, R1, k1⟩
    | false =>
      obtain ⟨F2, s3, R2, _⟩ := R1.frz hb.le
      exact k1 F2 H1 s3 (Same.refl _) R2 (.bl false) (Res.dat R2.same rfl (by simp only [IsD]))
  | _ => exact k1.elim
def vNot (a : Env → Out D) : Env → Out D := fun ρ => (a ρ).bind fun x => match x with
  | .bl c => .ok (.bl (!c))
  | _ => .stuck
def eIf (t : Env → Out Bool) (a b : Env → Out D) : Env → Out D := fun ρ => (t ρ).bind fun c => if c = true then a ρ else b ρ
variable {es : List Expr} {fr : Env → Out (List D)}
theorem pax_nil : PAx X g E Γ [] Γ aN := by
  refine ⟨Le.refl _, pa_nil.imp fun σ H Q ⟨ρ, Hf, R, k⟩ => ?_⟩
  exact k Hf H (Same.refl _) (Same.refl _) R [] (by simp only [IsDs])
theorem pax_cons (ha : PX X g E Γ a Γ1 .fr fa) (hr : PAx X g E Γ1 es Γ2 fr) (hs : starEach (a :: es) X.env = (false, eval a X.env) :: starEach es X.env := by rfl) : PAx X g E Γ (a :: es) Γ2 (aC fa fr) := by
  refine ⟨hr.le.trans ha.le, (pa_cons ha.pe hr.pe hs).imp fun σ H Q ⟨ρ, Hf, R, k⟩ => ⟨ρ, Hf, R, ?_⟩⟩
  refine tG.bind hr.le k fun x F1 H1 s1 s2 R1 k1 v hv => ⟨ρ, F1, R1, ?_⟩
  refine tG.bind (Le.refl _) k1 fun ys F2 H2 s3 s4 R2 k2 us hu => ?_
  refine k2 F2 H2 (Same.refl _) (Same.refl _) R2 (v :: us) ?_
  simp only [IsDs]
  exact ⟨v, us, rfl, IsD.mono s3 hv, hu⟩
theorem IsDs.len {K : PySem.W.Frag} {mg : Mg} {H : Hp} : ∀ {ds : List D} {vs : List V}, IsDs K mg H ds vs → vs.length = ds.length
  | [], vs, h => by simp only [IsDs] at h; rw [h]; rfl
  | d :: ds, vs, h => by
    simp only [IsDs] at h
    obtain ⟨v, us, e, _, r⟩ := h
    rw [e, List.length_cons, List.length_cons, IsDs.len r]
noncomputable def mkTup (ds : List D) : Out D := chk (ds.length ≤ sizeLine) (.ok (.tup ds))
noncomputable def mkLst (ds : List D) : Out D := chk (ds.length ≤ sizeLine) (.ok (.lst ds))
theorem Rp.new {K : PySem.W.Frag} {mg : Mg} {ρ : Env} {σ : St} {Hf H : Hp} (R : Rp K mg g Γ ρ σ Hf H) {p : Addr} (o : HO) (n : H p = none) : Same Hf (upd Hf p o) ∧ Same H (upd H p o) ∧ Rp K mg g Γ ρ σ (upd Hf p o) (upd H p o) := by
  have nf : Hf p = none := R.same.free n
  have n0 : g.H0 p = none := R.ent.free n
  have s1 : Same Hf (upd Hf p o) := fun b x e => by rw [upd_ne (ne_of_none e nf)]; exact e
  have s2 : Same H (upd H p o) := fun b x e => by rw [upd_ne (ne_of_none e n)]; exact e
  refine ⟨s1, s2, ⟨fun b x e => ?_, R.ent.trans s2, R.ent2.trans s1, fun b x e => ?_, R.len, fun i d ow e => ?_, fun i d ow e => ?_, R.sep⟩⟩
  · by_cases h : b = p
    · subst h; rw [upd_same] at e ⊢; exact e
    · rw [upd_ne h] at e ⊢; exact R.same _ _ e
  · by_cases h : b = p
    · subst h; exact .inr n0
    · rw [upd_ne h] at e; exact R.news _ _ e
  · obtain ⟨v, e1, io⟩ := R.own i d ow e
    refine ⟨v, e1, ?_⟩
    cases d with
    | lst ds =>
      obtain ⟨a, xs, e, z0, zf, q, r⟩ := io
      exact ⟨a, xs, e, z0, by rw [upd_ne (ne_of_none q n)]; exact zf, s2 _ _ q, IsDs.mono s1 r⟩
    | dic ds =>
      obtain ⟨a, xs, e, z0, zf, q, r⟩ := io
      exact ⟨a, xs, e, z0, by rw [upd_ne (ne_of_none q n)]; exact zf, s2 _ _ q, DicAt.mono s1 r⟩
    | ins c ds =>
      obtain ⟨a, xs, e, z0, zf, q, r⟩ := io
      exact ⟨a, xs, e, z0, by rw [upd_ne (ne_of_none q n)]; exact zf, s2 _ _ q, InsAt.mono s1 r⟩
    | _ => exact IsD.mono s1 io
  · obtain ⟨v, e1, q⟩ := R.dat i d ow e
    exact ⟨v, e1, q.mono s1⟩
theorem Rp.newO {K : PySem.W.Frag} {mg : Mg} {ρ : Env} {σ : St} {Hf H : Hp} (R : Rp K mg g Γ ρ σ Hf H) {p : Addr} (o : HO) (n : H p = none) : Same H (upd H p o) ∧ Rp K mg g Γ ρ σ Hf (upd H p o) ∧ g.H0 p = none ∧ Hf p = none ∧
    ∀ i e, Own Γ i → ρ[i]? = some (some e) → e.mut = true → σ[i]? = some (some (.ref p)) → False := by
  have nf : Hf p = none := R.same.free n
  have n0 : g.H0 p = none := R.ent.free n
  have s2 : Same H (upd H p o) := fun b x e => by rw [upd_ne (ne_of_none e n)]; exact e
  refine ⟨s2, ⟨R.same.trans s2, R.ent.trans s2, R.ent2, R.news, R.len, fun i d ow e => ?_, R.dat, R.sep⟩, n0, nf, fun i e ow e1 m e2 => ?_⟩
  · obtain ⟨v, e1, io⟩ := R.own i d ow e
    refine ⟨v, e1, ?_⟩
    cases d with
    | lst ds =>
      obtain ⟨a, xs, e, z0, zf, q, r⟩ := io
      exact ⟨a, xs, e, z0, zf, s2 _ _ q, r⟩
    | dic ds =>
      obtain ⟨a, xs, e, z0, zf, q, r⟩ := io
      exact ⟨a, xs, e, z0, zf, s2 _ _ q, r⟩
    | ins c ds =>
      obtain ⟨a, xs, e, z0, zf, q, r⟩ := io
      exact ⟨a, xs, e, z0, zf, s2 _ _ q, r⟩
    | _ => exact io
  · obtain ⟨v, e3, io⟩ := R.own i e ow e1
    obtain ⟨a, oo, e4, _, _, q⟩ := io.addr m
    rw [e2] at e3
    obtain rfl : V.ref p = v := Option.some.inj (Option.some.inj e3)
    obtain rfl : p = a := V.ref.inj e4
    rw [n] at q; cases q
theorem px_tup {k : Nat} (h : PAx X g E Γ es Γ1 fr) : PX X g E Γ (.Tuple es k pos) Γ1 m (eA mkTup fr) := by
  refine ⟨h.le, (pe_tup h.pe).imp fun σ H Q ⟨ρ, Hf, R, q⟩ => ⟨ρ, Hf, R, ?_⟩⟩
  refine tG.bind (Le.refl _) q fun ds F1 H1 s1 s2 R1 k1 vs hv => ?_
  unfold mkTup at k1
  by_cases z : ds.length ≤ sizeLine
  · rw [chk_pos z] at k1
    refine ⟨by rw [hv.len]; exact z, fun p n => ?_⟩
    obtain ⟨t1, t2, R2⟩ := R1.new (.tup vs) n
    refine k1 _ _ t1 t2 R2 _ (Res.dat R2.same rfl ?_)
    simp only [IsD]
    exact ⟨p, vs, rfl, .inl (.inl upd_same), IsDs.mono t1 hv⟩
  · rw [chk_neg z] at k1; exact k1.elim
theorem px_lst (h : PAx X g E Γ es Γ1 fr) : PX X g E Γ (.List es pos) Γ1 .ow (eA mkLst fr) := by
  refine ⟨h.le, (pe_lst h.pe).imp fun σ H Q ⟨ρ, Hf, R, q⟩ => ⟨ρ, Hf, R, ?_⟩⟩
  refine tG.bind (Le.refl _) q fun ds F1 H1 s1 s2 R1 k1 vs hv => ?_
  unfold mkLst at k1
  by_cases z : ds.length ≤ sizeLine
  · rw [chk_pos z] at k1
    refine ⟨by rw [hv.len]; exact z, fun p n => ?_⟩
    obtain ⟨t2, R2, n0, nf, ap⟩ := R1.newO (.lst vs) n
    exact k1 _ _ (Same.refl _) t2 R2 (.ref p) ⟨⟨p, vs, rfl, n0, nf, upd_same, hv⟩, fun i e ow e1 m _ e2 => ap i e ow e1 m e2⟩
  · rw [chk_neg z] at k1; exact k1.elim
end
end PD

namespace PD
open PySem PySem.Spec L2
open PyProof.Rows hiding St

structure PSx (X : Cx) (g : G) (E : WX) (ro : Bool) (Γl : List Bool) (Γ : List Bool) (st : Stmt) (Γ' : List Bool) (f : Env → SO) : Prop where
  ps : PS X st (fun Dn σ H => ∃ ρ Hf, Rp X.K X.mw g Γ ρ σ Hf H ∧ sR X.K X.mw g E Γ' Γl ro Dn (f ρ))
structure PSsx (X : Cx) (g : G) (E : WX) (ro : Bool) (Γl : List Bool) (Γ : List Bool) (st : List Stmt) (Γ' : List Bool) (f : Env → SO) : Prop where
  ps : PSs X st (fun Dn σ H => ∃ ρ Hf, Rp X.K X.mw g Γ ρ σ Hf H ∧ sR X.K X.mw g E Γ' Γl ro Dn (f ρ))
theorem _root_.L2.PS.imp {X : Cx} {e : Stmt} {t t' : TS} (h : PS X e t) (w : ∀ D σ H, t' D σ H → t D σ H) : PS X e t' :=
  ⟨fun pins s σ H D I q => h.run pins s σ H D I (w D σ H q)⟩
theorem _root_.L2.PSs.imp {X : Cx} {e : List Stmt} {t t' : TS} (h : PSs X e t) (w : ∀ D σ H, t' D σ H → t D σ H) : PSs X e t' :=
  ⟨fun pins s σ H D I q => h.run pins s σ H D I (w D σ H q)⟩
theorem _root_.L2.PG.imp {X : Cx} {e : Expr} {t t' : TG} (h : PG X e t) (w : ∀ v σ H Q, t' v σ H Q → t v σ H Q) : PG X e t' :=
  ⟨fun pins s σ H v u Q I r q => h.run pins s σ H v u Q I r (w v σ H Q q)⟩
theorem _root_.L2.PGs.imp {X : Cx} {e : List Expr} {t t' : TGs} (h : PGs X e t) (w : ∀ v σ H Q, t' v σ H Q → t v σ H Q) : PGs X e t' :=
  ⟨fun pins s σ H v u Q I r q => h.run pins s σ H v u Q I r (w v σ H Q q)⟩

def sNx : Env → SO := fun ρ => .nx ρ
def sBk : Env → SO := fun ρ => .bk ρ
def sCt : Env → SO := fun ρ => .ct ρ
def SO.andThen (o : SO) (k : Env → SO) : SO := match o with
  | .nx r => k r
  | o => o
def sSeq (f k : Env → SO) : Env → SO := fun ρ => (f ρ).andThen k
def oS {α : Type} (o : Out α) (k : α → SO) : SO := match o with
  | .ok a => k a
  | .exc x => .ex x
  | .stuck => .stuck
@[simp] theorem oS_ok {α : Type} (a : α) (k : α → SO) : oS (.ok a) k = k a := rfl
@[simp] theorem oS_exc {α : Type} (x : Exn) (k : α → SO) : oS (.exc x) k = .ex x := rfl
@[simp] theorem oS_stuck {α : Type} (k : α → SO) : oS (.stuck : Out α) k = .stuck := rfl
@[simp] theorem andThen_nx (r : Env) (k : Env → SO) : (SO.nx r).andThen k = k r := rfl
@[simp] theorem andThen_rt (d : D) (k : Env → SO) : (SO.rt d).andThen k = .rt d := rfl
@[simp] theorem andThen_bk (r : Env) (k : Env → SO) : (SO.bk r).andThen k = .bk r := rfl
@[simp] theorem andThen_ct (r : Env) (k : Env → SO) : (SO.ct r).andThen k = .ct r := rfl
@[simp] theorem andThen_ex (x : Exn) (k : Env → SO) : (SO.ex x).andThen k = .ex x := rfl
@[simp] theorem andThen_stuck (k : Env → SO) : SO.stuck.andThen k = .stuck := rfl
def sSet (i : Nat) (f : Env → Out D) : Env → SO := fun ρ => oS (f ρ) fun d => .nx (ρ.set i (some d))
def sIf (t : Env → Out Bool) (a b : Env → SO) : Env → SO := fun ρ => oS (t ρ) fun c => if c = true then a ρ else b ρ
def sRet (f : Env → Out D) : Env → SO := fun ρ => oS (f ρ) .rt
def sRetN : Env → SO := fun _ => .rt .non
def sExpr (f : Env → Out D) : Env → SO := fun ρ => oS (f ρ) fun _ => .nx ρ
def gN (i : Nat) : D → Env → Out Env := fun d ρ => .ok (ρ.set i (some d))
def gT (gs : List (D → Env → Out Env)) : D → Env → Out Env := fun d ρ => match d with
  | .tup ds => if ds.length = gs.length then (gs.zip ds).foldl (fun o p => o.bind (p.1 p.2)) (.ok ρ) else .stuck
  | .lst ds => if ds.length = gs.length then (gs.zip ds).foldl (fun o p => o.bind (p.1 p.2)) (.ok ρ) else .stuck
  | _ => .stuck
def sAsg (G : D → Env → Out Env) (f : Env → Out D) : Env → SO := fun ρ => oS (f ρ) fun d => oS (G d ρ) .nx
def SO.turn (o : SO) (k : Env → SO) : SO := match o with
  | .nx r => k r
  | .ct r => k r
  | .bk r => .nx r
  | o => o
@[simp] theorem turn_nx (r : Env) (k : Env → SO) : (SO.nx r).turn k = k r := rfl
@[simp] theorem turn_ct (r : Env) (k : Env → SO) : (SO.ct r).turn k = k r := rfl
@[simp] theorem turn_bk (r : Env) (k : Env → SO) : (SO.bk r).turn k = .nx r := rfl
@[simp] theorem turn_rt (d : D) (k : Env → SO) : (SO.rt d).turn k = .rt d := rfl
@[simp] theorem turn_ex (x : Exn) (k : Env → SO) : (SO.ex x).turn k = .ex x := rfl
@[simp] theorem turn_stuck (k : Env → SO) : SO.stuck.turn k = .stuck := rfl
def forL (G : D → Env → Out Env) (b : Env → SO) : List D → Env → SO
  | [], ρ => .nx ρ
  | d :: ds, ρ => oS (G d ρ) fun ρ1 => (b ρ1).turn fun r => forL G b ds r
def sFor (G : D → Env → Out Env) (it : Env → Out (List D)) (b : Env → SO) : Env → SO := fun ρ => oS (it ρ) fun ds => forL G b ds ρ
section
variable {X : Cx} {g : G} {E : WX} {ro : Bool} {Γl Γ Γ1 Γ2 Γ3 : List Bool} {m : Md} {pos : Pos}

theorem sR.imp {Dn Dn' : Ends} {o : SO} (h : sR X.K X.mw g E Γ1 Γl ro Dn o) (w : ∀ ρ σ Hf H, o = .nx ρ → Rp X.K X.mw g Γ1 ρ σ Hf H → Dn.nx σ H → Dn'.nx σ H) (e1 : Dn'.rt = Dn.rt) (e2 : Dn'.bk = Dn.bk) (e3 : Dn'.ct = Dn.ct) : sR X.K X.mw g E Γ1 Γl ro Dn' o := by
  cases o with
  | nx ρ => exact fun σ Hf H R => w ρ σ Hf H rfl R (h σ Hf H R)
  | rt d => unfold sR at h ⊢; rw [e1]; exact h
  | bk ρ => unfold sR at h ⊢; rw [e2]; exact h
  | ct ρ => unfold sR at h ⊢; rw [e3]; exact h
  | ex x => exact h
  | stuck => exact h
theorem pssx_nil : PSsx X g E ro Γl Γ [] Γ sNx := ⟨pss_nil.imp fun D σ H ⟨ρ, Hf, R, q⟩ => q σ Hf H R⟩
theorem pssx_one {st : Stmt} {f : Env → SO} (h : PSx X g E ro Γl Γ st Γ1 f) : PSsx X g E ro Γl Γ [st] Γ1 f := ⟨pss_one h.ps⟩
theorem pssx_cons {st : Stmt} {r : List Stmt} {f k : Env → SO} (h : PSx X g E ro Γl Γ st Γ1 f) (hr : PSsx X g E ro Γl Γ1 r Γ2 k) : PSsx X g E ro Γl Γ (st :: r) Γ2 (sSeq f k) := by
  refine ⟨(pss_cons h.ps hr.ps).imp fun D σ H ⟨ρ, Hf, R, q⟩ => ⟨ρ, Hf, R, ?_⟩⟩
  unfold sSeq at q
  cases hf : f ρ with
  | nx r => rw [hf] at q; exact fun σ' Hf' H' R' => ⟨r, Hf', R', q⟩
  | rt d => rw [hf] at q; exact q
  | bk r => rw [hf] at q; exact q
  | ct r => rw [hf] at q; exact q
  | ex x => rw [hf] at q; exact q
  | stuck => rw [hf] at q; exact q
theorem sR.less {Dn : Ends} {o : SO} (le : Le Γ2 Γ1) (h : sR X.K X.mw g E Γ2 Γl ro Dn o) : sR X.K X.mw g E Γ1 Γl ro Dn o := by
  cases o with
  | nx ρ =>
    intro σ Hf H R
    obtain ⟨F', s1, R', _⟩ := R.frz le
    exact h σ F' H R'
  | _ => exact h
theorem PSsx.less {st : List Stmt} {f : Env → SO} (h : PSsx X g E ro Γl Γ st Γ1 f) (le : Le Γ2 Γ1) : PSsx X g E ro Γl Γ st Γ2 f :=
  ⟨h.ps.imp fun D σ H ⟨ρ, Hf, R, q⟩ => ⟨ρ, Hf, R, q.less le⟩⟩
theorem PSx.less {st : Stmt} {f : Env → SO} (h : PSx X g E ro Γl Γ st Γ1 f) (le : Le Γ2 Γ1) : PSx X g E ro Γl Γ st Γ2 f :=
  ⟨h.ps.imp fun D σ H ⟨ρ, Hf, R, q⟩ => ⟨ρ, Hf, R, q.less le⟩⟩
theorem PSx.pre {st : Stmt} {f : Env → SO} (h : PSx X g E ro Γl Γ st Γ1 f) (le : Le Γ Γ2) : PSx X g E ro Γl Γ2 st Γ1 f :=
  ⟨h.ps.imp fun D σ H ⟨ρ, Hf, R, q⟩ => by
    obtain ⟨F', s1, R', _⟩ := R.frz le
    exact ⟨ρ, F', R', q⟩⟩
theorem sR.any {Dn : Ends} {o : SO} (n : ∀ ρ, o ≠ .nx ρ) (h : sR X.K X.mw g E Γ2 Γl ro Dn o) : sR X.K X.mw g E Γ1 Γl ro Dn o := by
  cases o with
  | nx ρ => exact absurd rfl (n ρ)
  | _ => exact h
theorem tG.toS {Dn : Ends} {Γ1 : List Bool} {ρ : Env} {σ : St} {Hf H : Hp} {α : Type} {P : α → Hp → Hp → Prop} {o : Out α} {k : α → SO} (h : sR X.K X.mw g E Γ2 Γl ro Dn (oS o k))
    (hk : ∀ a Hf' H', Same Hf Hf' → Same H H' → Rp X.K X.mw g Γ1 ρ σ Hf' H' → sR X.K X.mw g E Γ2 Γl ro Dn (k a) → P a Hf' H') : tG X.K X.mw g E Γ1 ρ σ Hf H P o := by
  cases o with
  | ok a => exact fun F1 H1 s1 s2 R1 => hk a F1 H1 s1 s2 R1 h
  | exc x => exact fun c dd F1 H1 s1 s2 R1 q => h c dd σ F1 H1 R1.same R1.ent R1.ent2 R1.news q
  | stuck => exact h
theorem psx_ret {e : Expr} {f : Env → Out D} (he : PX X g E Γ e Γ1 .fr f) (hs : g.slf = none := by first | rfl | assumption) : PSx X g E false Γl Γ (.Return (some e) pos) Γ2 (sRet f) := by
  refine ⟨(ps_ret he.pe).imp fun D σ H ⟨ρ, Hf, R, q⟩ => ⟨ρ, Hf, R, tG.toS q fun d F1 H1 s1 s2 R1 k v hv => ?_⟩⟩
  exact k v F1 H1 R1.same R1.ent R1.ent2 R1.news (by unfold RetG; rw [hs]; show RetRes _ _ _ _ _ _ _ _; unfold RetRes; rw [if_neg Bool.false_ne_true]; exact hv)
theorem psx_retO {e : Expr} {f : Env → Out D} (he : PX X g E Γ e Γ1 .ow f) (hs : g.slf = none := by first | rfl | assumption) : PSx X g E true Γl Γ (.Return (some e) pos) Γ2 (sRet f) := by
  refine ⟨(ps_ret he.pe).imp fun D σ H ⟨ρ, Hf, R, q⟩ => ⟨ρ, Hf, R, tG.toS q fun d F1 H1 s1 s2 R1 k v hv => ?_⟩⟩
  exact k v F1 H1 R1.same R1.ent R1.ent2 R1.news (by unfold RetG; rw [hs]; show RetRes _ _ _ _ _ _ _ _; unfold RetRes; rw [if_pos rfl]; exact hv.1)
theorem psx_retV {x : Str} {i : Nat} {p : Pos} (h : PE X (.Name x p) (tVar i)) (o : Γ.getD i false = true) (hs : g.slf = none := by first | rfl | assumption) : PSx X g E true Γl Γ (.Return (some (.Name x p)) pos) Γ2 (sRet (eV i)) := by
  refine ⟨(ps_ret h).imp fun D σ H ⟨ρ, Hf, R, q⟩ => ?_⟩
  unfold sRet at q
  cases he : eV i ρ with
  | ok d =>
    rw [he] at q
    obtain ⟨v, e1, io⟩ := R.own i d o (eV_ok he)
    exact ⟨v, e1, q v Hf H R.same R.ent R.ent2 R.news (by unfold RetG; rw [hs]; show RetRes _ _ _ _ _ _ _ _; unfold RetRes; rw [if_pos rfl]; exact io)⟩
  | exc x => exact (eV_nx he).elim
  | stuck => rw [he] at q; exact q.elim
theorem psx_if {c : Expr} {a b : List Stmt} {ft : Env → Out Bool} {fa fb : Env → SO} (hc : PTx X g E Γ c Γ1 ft) (ha : PSsx X g E ro Γl Γ1 a Γ2 fa) (hb : PSsx X g E ro Γl Γ1 b Γ2 fb) : PSx X g E ro Γl Γ (.If c a b pos) Γ2 (sIf ft fa fb) := by
  refine ⟨(ps_if hc.pe ha.ps hb.ps).imp fun D σ H ⟨ρ, Hf, R, q⟩ => ⟨ρ, Hf, R, tG.toS q fun d F1 H1 s1 s2 R1 k => ?_⟩⟩
  cases d with
  | true => exact ⟨ρ, F1, R1, k⟩
  | false => exact ⟨ρ, F1, R1, k⟩

theorem getD_set {Γ : List Bool} {i j : Nat} {b : Bool} : (Γ.set i b).getD j false = if i = j ∧ i < Γ.length then b else Γ.getD j false := by
  rw [List.getD_eq_getElem?_getD, List.getElem?_set, List.getD_eq_getElem?_getD]
  by_cases e : i = j
  · subst e
    by_cases l : i < Γ.length
    · simp [l]
    · simp [l]
  · simp [e]
theorem set_get {α : Type} {l : List (Option α)} {i j : Nat} {x y : α} (h : (l.set i (some x))[j]? = some (some y)) : (i = j ∧ i < l.length ∧ x = y) ∨ (i ≠ j ∧ l[j]? = some (some y)) := by
  rw [List.getElem?_set] at h
  by_cases e : i = j
  · rw [if_pos e] at h
    by_cases l' : i < l.length
    · rw [if_pos l'] at h; exact .inl ⟨e, l', Option.some.inj (Option.some.inj h)⟩
    · rw [if_neg l'] at h; cases h
  · rw [if_neg e] at h; exact .inr ⟨e, h⟩
theorem Rp.setF {K : PySem.W.Frag} {mg : Mg} {ρ : Env} {σ : St} {Hf H : Hp} (R : Rp K mg g Γ ρ σ Hf H) {i : Nat} {d : D} {v : V} (ns : NS g i) (h : IsD K mg Hf d v) : Rp K mg g (Γ.set i false) (ρ.set i (some d)) (σ.set i (some v)) Hf H := by
  have ne : ∀ {j}, Own (Γ.set i false) j → i ≠ j ∨ ¬ i < Γ.length := fun {j} o => by
    unfold Own at o; rw [getD_set] at o
    by_cases z : i = j ∧ i < Γ.length
    · rw [if_pos z] at o; cases o
    · by_cases e : i = j
      · exact .inr fun l => z ⟨e, l⟩
      · exact .inl e
  have ow : ∀ {j}, Own (Γ.set i false) j → i ≠ j ∧ Own Γ j := fun {j} o => by
    have o' := Le.set Γ i j o
    refine ⟨fun e => ?_, o'⟩
    rcases ne o with z | z
    · exact z e
    · subst e
      unfold Own at o'
      rw [List.getD_eq_getElem?_getD, List.getElem?_eq_none (by omega)] at o'
      simp at o'
  have sg : ∀ {j}, i ≠ j → (σ.set i (some v))[j]? = σ[j]? := fun {j} e => by rw [List.getElem?_set]; simp [e]
  refine ⟨R.same, R.ent, R.ent2, R.news, R.len.set ns _ _, fun j d' o e => ?_, fun j d' o e => ?_, fun j k d' e v n o1 o2 e1 e2 m1 m2 s1 s2 => ?_⟩
  · obtain ⟨nij, oΓ⟩ := ow o
    rcases set_get e with ⟨e', _⟩ | ⟨_, e'⟩
    · exact absurd e' nij
    · rw [sg nij]; exact R.own j d' oΓ e'
  · rcases set_get e with ⟨rfl, l, rfl⟩ | ⟨nij, e'⟩
    · exact ⟨v, by rw [List.getElem?_set_self (by rw [R.len.1]; exact l)], h⟩
    · rw [sg nij]
      refine R.dat j d' (fun z => o ?_) e'
      unfold Own; rw [getD_set, if_neg (fun q => nij q.1)]; exact z
  · obtain ⟨n1, p1⟩ := ow o1
    obtain ⟨n2, p2⟩ := ow o2
    rw [sg n1] at s1; rw [sg n2] at s2
    rcases set_get e1 with ⟨z, _⟩ | ⟨_, e1'⟩
    · exact n1 z
    · rcases set_get e2 with ⟨z, _⟩ | ⟨_, e2'⟩
      · exact n2 z
      · exact R.sep j k d' e _ n p1 p2 e1' e2' m1 m2 s1 s2
theorem Rp.setO {K : PySem.W.Frag} {mg : Mg} {ρ : Env} {σ : St} {Hf H : Hp} (R : Rp K mg g Γ ρ σ Hf H) {i : Nat} {d : D} {v : V} (ns : NS g i) (hi : i < Γ.length) (h : IsO K mg g.H0 Hf H d v)
    (ap : ∀ i e, Own Γ i → ρ[i]? = some (some e) → e.mut = true → d.mut = true → σ[i]? = some (some v) → False) : Rp K mg g (Γ.set i true) (ρ.set i (some d)) (σ.set i (some v)) Hf H := by
  have sg : ∀ {j}, i ≠ j → (σ.set i (some v))[j]? = σ[j]? := fun {j} e => by rw [List.getElem?_set]; simp [e]
  have ow : ∀ {j}, i ≠ j → (Own (Γ.set i true) j ↔ Own Γ j) := fun {j} e => by unfold Own; rw [getD_set, if_neg fun q => e q.1]
  have oi : Own (Γ.set i true) i := by unfold Own; rw [getD_set, if_pos ⟨rfl, hi⟩]
  refine ⟨R.same, R.ent, R.ent2, R.news, R.len.set ns _ _, fun j d' o e => ?_, fun j d' o e => ?_, fun j k d' e v' n o1 o2 e1 e2 m1 m2 s1 s2 => ?_⟩
  · rcases set_get e with ⟨rfl, l, rfl⟩ | ⟨nij, e'⟩
    · exact ⟨v, by rw [List.getElem?_set_self (by rw [R.len.1]; exact l)], h⟩
    · rw [sg nij]; exact R.own j d' ((ow nij).mp o) e'
  · rcases set_get e with ⟨rfl, l, rfl⟩ | ⟨nij, e'⟩
    · exact absurd oi o
    · rw [sg nij]; exact R.dat j d' (fun z => o ((ow nij).mpr z)) e'
  · rcases set_get e1 with ⟨rfl, l1, rfl⟩ | ⟨n1, e1'⟩
    · rcases set_get e2 with ⟨rfl, _⟩ | ⟨n2, e2'⟩
      · exact n rfl
      · rw [sg n2] at s2
        rw [List.getElem?_set_self (by rw [R.len.1]; exact l1)] at s1
        obtain rfl : v = v' := Option.some.inj (Option.some.inj s1)
        exact ap k e ((ow n2).mp o2) e2' m2 m1 s2
    · rw [sg n1] at s1
      rcases set_get e2 with ⟨rfl, l2, rfl⟩ | ⟨n2, e2'⟩
      · rw [List.getElem?_set_self (by rw [R.len.1]; exact l2)] at s2
        obtain rfl : v = v' := Option.some.inj (Option.some.inj s2)
        exact ap j d' ((ow n1).mp o1) e1' m1 m2 s1
      · rw [sg n2] at s2
        exact R.sep j k d' e v' n ((ow n1).mp o1) ((ow n2).mp o2) e1' e2' m1 m2 s1 s2
theorem psx_set {i : Nat} {x : Str} {e : Expr} {p : Pos} {f : Env → Out D} (hN : X.N.Nodup) (hi : X.N[i]? = some x) (hx : Loc X.env.scope x) (he : PX X g E Γ e Γ1 .fr f) (hf : X.fn x = true ∨ X.env.scope.names.lookup x = some .local := by first | exact .inl rfl | exact .inr rfl | assumption) (ns : NS g i := by first | exact .inr rfl | exact .inr (by assumption) | exact .inl (by decide)) (hs : swapsWith e (some (.Name x p)) pos.line X.env = pure false := by rfl) :
    PSx X g E ro Γl Γ (.Assign [.Name x p] e pos) (Γ1.set i false) (sSet i f) := by
  refine ⟨(ps_set hN hi hx he.pe hs hf).imp fun D σ H ⟨ρ, Hf, R, q⟩ => ⟨ρ, Hf, R, tG.toS q fun d F1 H1 s1 s2 R1 k v hv => ?_⟩⟩
  exact k _ F1 H1 (R1.setF ns hv)
theorem psx_setO {i : Nat} {x : Str} {e : Expr} {p : Pos} {f : Env → Out D} (hN : X.N.Nodup) (hi : X.N[i]? = some x) (hx : Loc X.env.scope x) (he : PX X g E Γ e Γ1 .ow f) (hl : i < Γ1.length) (hf : X.fn x = true ∨ X.env.scope.names.lookup x = some .local := by first | exact .inl rfl | exact .inr rfl | assumption) (ns : NS g i := by first | exact .inr rfl | exact .inr (by assumption) | exact .inl (by decide)) (hs : swapsWith e (some (.Name x p)) pos.line X.env = pure false := by rfl) :
    PSx X g E ro Γl Γ (.Assign [.Name x p] e pos) (Γ1.set i true) (sSet i f) := by
  refine ⟨(ps_set hN hi hx he.pe hs hf).imp fun D σ H ⟨ρ, Hf, R, q⟩ => ⟨ρ, Hf, R, tG.toS q fun d F1 H1 s1 s2 R1 k v hv => ?_⟩⟩
  exact k _ F1 H1 (R1.setO ns hl hv.1 hv.2)

structure PGx (X : Cx) (g : G) (Γ : List Bool) (tg : Expr) (Γ' : List Bool) (F : D → Env → Out Env) (vs : List Nat) : Prop where
  pg : PG X tg (fun v σ H Q => ∃ d ρ Hf, Rp X.K X.mw g Γ ρ σ Hf H ∧ IsD X.K X.mw Hf d v ∧ ∃ ρ', F d ρ = .ok ρ' ∧ ∀ σ', (∀ i, i ∉ vs → σ'[i]? = σ[i]?) → Rp X.K X.mw g Γ' ρ' σ' Hf H → Q σ' H)
  ag : ∀ d ρ ρ', F d ρ = .ok ρ' → (∀ i, i ∉ vs → ρ'[i]? = ρ[i]?) ∧ ρ'.length = ρ.length
structure PGsx (X : Cx) (g : G) (Γ : List Bool) (tg : List Expr) (Γ' : List Bool) (Fs : List (D → Env → Out Env)) (ws : List Nat) : Prop where
  pg : PGs X tg (fun vs σ H Q => ∃ ds ρ Hf, Rp X.K X.mw g Γ ρ σ Hf H ∧ IsDs X.K X.mw Hf ds vs ∧ ds.length = Fs.length ∧ ∃ ρ', (Fs.zip ds).foldl (fun o p => o.bind (p.1 p.2)) (Out.ok ρ) = .ok ρ' ∧ ∀ σ', (∀ i, i ∉ ws → σ'[i]? = σ[i]?) → Rp X.K X.mw g Γ' ρ' σ' Hf H → Q σ' H)
  ag : ∀ ds ρ ρ', (Fs.zip ds).foldl (fun o p => o.bind (p.1 p.2)) (Out.ok ρ) = .ok ρ' → (∀ i, i ∉ ws → ρ'[i]? = ρ[i]?) ∧ ρ'.length = ρ.length
theorem foldl_bad {l : List ((D → Env → Out Env) × D)} {o : Out Env} (h : ∀ r, o ≠ .ok r) : ∀ r, l.foldl (fun o p => o.bind (p.1 p.2)) o ≠ .ok r := by
  induction l generalizing o with
  | nil => exact h
  | cons p l ih =>
    intro r
    rw [List.foldl_cons]
    refine ih (fun r' => ?_) r
    cases o with
    | ok a => exact absurd rfl (h a)
    | exc x => intro z; cases z
    | stuck => intro z; cases z
theorem pgx_name {i : Nat} {x : Str} (hN : X.N.Nodup) (hi : X.N[i]? = some x) (hx : Loc X.env.scope x) (hf : X.fn x = true ∨ X.env.scope.names.lookup x = some .local := by first | exact .inl rfl | exact .inr rfl | assumption) (ns : NS g i := by first | exact .inr rfl | exact .inr (by assumption) | exact .inl (by decide)) : PGx X g Γ (.Name x pos) (Γ.set i false) (gN i) [i] :=
  ⟨(pg_name hN hi hx hf).imp fun v σ H Q ⟨d, ρ, Hf, R, h, ρ', e, q⟩ => by
    cases e
    exact q _ (fun j nj => by rw [List.getElem?_set_ne (fun z => nj (by simp [z]))]) (R.setF ns h), fun d ρ ρ' e => by
    cases e
    exact ⟨fun j nj => by rw [List.getElem?_set_ne (fun z => nj (by simp [z]))], by simp⟩⟩
theorem pgsx_nil : PGsx X g Γ [] Γ [] [] := ⟨pgs_nil.imp fun vs σ H Q ⟨ds, ρ, Hf, R, h, l, ρ', e, q⟩ => (by
  cases ds with
  | nil =>
    simp only [IsDs] at h
    cases e
    exact ⟨h, q σ (fun _ _ => rfl) R⟩
  | cons d ds => cases l), fun ds ρ ρ' e => by
  cases e; exact ⟨fun _ _ => rfl, rfl⟩⟩
theorem pgsx_cons {t : Expr} {ts : List Expr} {F : D → Env → Out Env} {Fs : List (D → Env → Out Env)} {ws us : List Nat} (h1 : PGx X g Γ t Γ1 F ws) (h2 : PGsx X g Γ1 ts Γ2 Fs us)
    (hs : (assignEach (t :: ts) X.env).map (·.2) = assign t X.env :: (assignEach ts X.env).map (·.2) := by rfl) : PGsx X g Γ (t :: ts) Γ2 (F :: Fs) (ws ++ us) :=
  ⟨(pgs_cons h1.pg h2.pg hs).imp fun vs σ H Q ⟨ds, ρ, Hf, R, h, l, ρ', e, q⟩ => (by
    cases ds with
    | nil => cases l
    | cons d ds =>
      simp only [IsDs] at h
      obtain ⟨v, us', ev, hv, hr⟩ := h
      subst ev
      rw [List.zip_cons_cons, List.foldl_cons] at e
      cases hF : F d ρ with
      | ok ρ1 =>
        simp only [Out.bind_ok, hF] at e
        exact ⟨v, us', rfl, d, ρ, Hf, R, hv, ρ1, hF, fun σ1 a1 R1 => ⟨ds, ρ1, Hf, R1, hr, by simpa using l, ρ', e, fun σ' a2 R2 => q σ' (fun j nj => (a2 j fun z => nj (List.mem_append_right _ z)).trans (a1 j fun z => nj (List.mem_append_left _ z))) R2⟩⟩
      | exc x => simp only [Out.bind_ok, hF] at e; exact absurd e (foldl_bad (fun r z => by cases z) ρ')
      | stuck => simp only [Out.bind_ok, hF] at e; exact absurd e (foldl_bad (fun r z => by cases z) ρ')), fun ds ρ ρ' e => by
    cases ds with
    | nil => cases e; exact ⟨fun _ _ => rfl, rfl⟩
    | cons d ds =>
      rw [List.zip_cons_cons, List.foldl_cons] at e
      cases hF : F d ρ with
      | ok ρ1 =>
        simp only [Out.bind_ok, hF] at e
        exact ⟨fun j nj => ((h2.ag _ _ _ e).1 j fun z => nj (List.mem_append_right _ z)).trans ((h1.ag _ _ _ hF).1 j fun z => nj (List.mem_append_left _ z)), (h2.ag _ _ _ e).2.trans (h1.ag _ _ _ hF).2⟩
      | exc x => simp only [Out.bind_ok, hF] at e; exact absurd e (foldl_bad (fun r z => by cases z) ρ')
      | stuck => simp only [Out.bind_ok, hF] at e; exact absurd e (foldl_bad (fun r z => by cases z) ρ')⟩
theorem _root_.L2.PG.or {e : Expr} {t t' : TG} (h : PG X e t) (h' : PG X e t') : PG X e (fun v σ H Q => t v σ H Q ∨ t' v σ H Q) :=
  ⟨fun pins s σ H v u Q I r q => q.elim (h.run pins s σ H v u Q I r) (h'.run pins s σ H v u Q I r)⟩
theorem pgx_tup {ts : List Expr} {k : Nat} {Fs : List (D → Env → Out Env)} {ws : List Nat} (hc : X.calm = true) (h : PGsx X g Γ ts Γ1 Fs ws) (hn : (assignEach ts X.env).length = Fs.length := by rfl) (hst : (assignEach ts X.env).findIdx? (·.1) = none := by rfl) :
    PGx X g Γ (.Tuple ts k pos) Γ1 (gT Fs) ws :=
  ⟨((pg_tup hc h.pg hn hst).or (pg_unl hc h.pg hn hst)).imp fun v σ H Q ⟨d, ρ, Hf, R, h', ρ', e, q⟩ => (by
    cases d with
    | tup ds =>
      simp only [IsD] at h'
      obtain ⟨a, xs, ev, hq, hr⟩ := h'
      unfold gT at e
      simp only at e
      by_cases l : ds.length = Fs.length
      · rw [if_pos l] at e
        exact .inl ⟨a, xs, ev, Same.seqT R.same hq, by rw [hr.len, l], ds, ρ, Hf, R, hr, l, ρ', e, q⟩
      · rw [if_neg l] at e; cases e
    | lst ds =>
      simp only [IsD] at h'
      obtain ⟨a, xs, ev, hq, hr⟩ := h'
      unfold gT at e
      simp only at e
      by_cases l : ds.length = Fs.length
      · rw [if_pos l] at e
        exact .inr ⟨a, xs, ev, .of (R.same _ _ hq), by rw [hr.len, l], ds, ρ, Hf, R, hr, l, ρ', e, q⟩
      · rw [if_neg l] at e; cases e
    | _ => cases e), fun d ρ ρ' e => by
    unfold gT at e
    cases d with
    | tup ds =>
      simp only at e
      by_cases l : ds.length = Fs.length
      · rw [if_pos l] at e; exact h.ag _ _ _ e
      · rw [if_neg l] at e; cases e
    | lst ds =>
      simp only at e
      by_cases l : ds.length = Fs.length
      · rw [if_pos l] at e; exact h.ag _ _ _ e
      · rw [if_neg l] at e; cases e
    | _ => cases e⟩
theorem gN_nx {i : Nat} : ∀ d ρ x, gN i d ρ ≠ .exc x := fun d ρ x z => by cases z
theorem gT_nx {Fs : List (D → Env → Out Env)} (h : ∀ F ∈ Fs, ∀ d ρ x, F d ρ ≠ .exc x) : ∀ d ρ x, gT Fs d ρ ≠ .exc x := by
  have key : ∀ (l : List ((D → Env → Out Env) × D)) (o : Out Env), (∀ x, o ≠ .exc x) → (∀ p ∈ l, ∀ d ρ x, p.1 d ρ ≠ .exc x) → ∀ x, l.foldl (fun o p => o.bind (p.1 p.2)) o ≠ .exc x := by
    intro l
    induction l with
    | nil => intro o h _; exact h
    | cons p l ih =>
      intro o ho hl
      rw [List.foldl_cons]
      refine ih _ (fun x => ?_) fun q hq => hl q (List.mem_cons_of_mem _ hq)
      cases o with
      | ok a => exact hl p List.mem_cons_self p.2 a x
      | exc y => exact absurd rfl (ho y)
      | stuck => intro z; cases z
  intro d ρ x
  unfold gT
  cases d with
  | tup ds =>
    simp only
    by_cases l : ds.length = Fs.length
    · rw [if_pos l]
      refine key _ _ (fun x z => by cases z) (fun p hp => ?_) x
      exact h p.1 (List.of_mem_zip hp).1
    · rw [if_neg l]; intro z; cases z
  | lst ds =>
    simp only
    by_cases l : ds.length = Fs.length
    · rw [if_pos l]
      refine key _ _ (fun x z => by cases z) (fun p hp => ?_) x
      exact h p.1 (List.of_mem_zip hp).1
    · rw [if_neg l]; intro z; cases z
  | _ => intro z; cases z
end
end PD

namespace PD
open PySem PySem.Spec L2
open PyProof.Rows hiding St

theorem _root_.L2.PI.imp {X : Cx} {tg e : Expr} {t t' : TI} (h : PI X tg e t) (w : ∀ σ H Q, t' σ H Q → t σ H Q) : PI X tg e t' :=
  ⟨fun pins s σ H R I q => h.run pins s σ H R I (w σ H R q)⟩

def Walks (K : PySem.W.Frag) (mg : Mg) (H0 : Hp) (J : It) (F1 : Hp) (ds : List D) : Prop :=
  ∀ (g : G) Γ ρ σ Hf H, Same F1 Hf → Rp K mg g Γ ρ σ Hf H → ∀ i,
    (∀ d, ds[i]? = some d → J.go i H ∧ ∀ x H', J.yld i H x H' → ∃ Hf', Same Hf Hf' ∧ Same H H' ∧ Rp K mg g Γ ρ σ Hf' H' ∧ IsD K mg Hf' d x) ∧ (ds.length ≤ i → J.stop i H)
structure PIx (X : Cx) (g : G) (E : WX) (Γ : List Bool) (tg iter : Expr) (Γ' : List Bool) (f : Env → Out (List D)) : Prop where
  le : Le Γ' Γ
  pi : PI X tg iter (fun σ H R => ∃ ρ Hf, Rp X.K X.mw g Γ ρ σ Hf H ∧ tG X.K X.mw g E Γ' ρ σ Hf H (fun ds Hf' H' => ∀ J, Walks X.K X.mw g.H0 J Hf' ds → R J H') (f ρ))
def iSeq (f : Env → Out D) : Env → Out (List D) := fun ρ => (f ρ).bind fun d => match d with
  | .lst ds => .ok ds
  | .tup ds => .ok ds
  | .scr ns => .ok (ns.map .int)
  | _ => .stuck
noncomputable def rng1 : List D → Out (List D)
  | [.int j] => chk (-(2 ^ 62) ≤ j ∧ j < 2 ^ 62) (.ok ((List.range j.toNat).map fun (n : Nat) => .int n))
  | _ => .stuck
noncomputable def rng2 : List D → Out (List D)
  | [.int i, .int j] => chk ((-(2 ^ 62) ≤ i ∧ i < 2 ^ 62) ∧ -(2 ^ 62) ≤ j ∧ j < 2 ^ 62) (.ok ((List.range (j - i).toNat).map fun (n : Nat) => .int (i + n)))
  | _ => .stuck
noncomputable def iRange1 (f : Env → Out (List D)) : Env → Out (List D) := fun ρ => (f ρ).bind rng1
noncomputable def iRange2 (f : Env → Out (List D)) : Env → Out (List D) := fun ρ => (f ρ).bind rng2

section
variable {X : Cx} {tg : Expr}
theorem pi_any {l : Expr} {tl : TE} (hl : PE X l tl) : PI X tg l (fun σ H R => tl σ H fun x H1 => ∃ a, x = .ref a ∧ (((∃ xs, SqL X.K H1 a xs) ∧ R (Itl X.K a) H1) ∨ ((∃ xs, SqT X.K H1 a xs) ∧ R (Itt X.K a) H1))) := by
  refine ⟨fun pins s σ H R I h => ?_⟩
  refine thn (hl.run pins s σ H _ I h) fun v s1 ⟨x, H1, I1, r1, q1⟩ => ?_
  obtain ⟨a, e, q⟩ := q1
  subst e
  cases r1
  rcases q with ⟨⟨xs, hq⟩, q⟩ | ⟨⟨xs, hq⟩, q⟩
  · obtain ⟨its, rv, p, hz⟩ := I1.list hq
    refine wpAny_pyIter_list p.isList ?_
    refine ⟨s1.heap.objs.size, [s1.heap.objs.size], _, _, H1, rfl, I1.kept (t' := s1.toks) fun b o e => Heap.get?_push_of_some _ e, turn_list a _, ⟨_, Heap.get?_push_size _ rfl, rfl, rfl⟩, fun b hb => ?_, q⟩
    have e : b = s1.heap.objs.size := by simpa using hb
    subst e
    exact I1.fpOk (Nat.le_refl _) (I1.hok.fresh (Nat.le_refl _))
  · obtain ⟨its, rv, p, hz⟩ := I1.tuple hq
    refine wpAny_pyIter_tuple (show s1.heap.IsTuple a its.toArray from p) ?_
    refine ⟨s1.heap.objs.size, [s1.heap.objs.size], _, _, H1, rfl, I1.kept (t' := s1.toks) fun b o e => Heap.get?_push_of_some _ e, turn_tuple a _, ⟨_, Heap.get?_push_size _ rfl, rfl, rfl⟩, fun b hb => ?_, q⟩
    have e : b = s1.heap.objs.size := by simpa using hb
    subst e
    exact I1.fpOk (Nat.le_refl _) (I1.hok.fresh (Nat.le_refl _))
end
theorem IsDs.at {K : PySem.W.Frag} {mg : Mg} {H : Hp} : ∀ {ds : List D} {vs : List V} {i : Nat} {d : D}, IsDs K mg H ds vs → ds[i]? = some d → ∃ v, vs[i]? = some v ∧ IsD K mg H d v
  | [], _, i, d, _, e => by simp at e
  | d :: ds, vs, 0, d', h, e => by
    simp only [IsDs] at h
    obtain ⟨v, us, rfl, q, r⟩ := h
    simp at e; subst e
    exact ⟨v, rfl, q⟩
  | d :: ds, vs, i + 1, d', h, e => by
    simp only [IsDs] at h
    obtain ⟨v, us, rfl, q, r⟩ := h
    have := IsDs.at (i := i) r (by simpa using e)
    simpa using this

section
variable {X : Cx} {g : G} {E : WX} {ro : Bool} {Γl Γ Γ1 Γ2 Γ3 : List Bool} {m : Md} {pos : Pos} {tg : Expr}
theorem walks_lst {K : PySem.W.Frag} {mg : Mg} {H0 F1 : Hp} {a : Addr} {xs : List V} {ds : List D} (h : SqL K F1 a xs) (r : IsDs K mg F1 ds xs) : Walks K mg H0 (Itl K a) F1 ds := by
  intro g Γ ρ σ Hf H s R i
  have hq : SqL K H a xs := R.same.seq (s.seq h)
  refine ⟨fun d e => ?_, fun l => ⟨xs, hq, by rw [r.len]; exact l⟩⟩
  obtain ⟨v, ev, q⟩ := IsDs.at r e
  refine ⟨⟨xs, v, hq, ev⟩, fun x H' y => ?_⟩
  obtain ⟨rfl, y⟩ := y
  have := y xs hq
  rw [ev] at this
  cases this
  exact ⟨Hf, Same.refl _, Same.refl _, R, q.mono s⟩
theorem walks_tup {K : PySem.W.Frag} {mg : Mg} {H0 F1 : Hp} {a : Addr} {xs : List V} {ds : List D} (h : SqT K F1 a xs) (r : IsDs K mg F1 ds xs) : Walks K mg H0 (Itt K a) F1 ds := by
  intro g Γ ρ σ Hf H s R i
  have hq : SqT K H a xs := Same.seqT R.same (Same.seqT s h)
  refine ⟨fun d e => ?_, fun l => ⟨xs, hq, by rw [r.len]; exact l⟩⟩
  obtain ⟨v, ev, q⟩ := IsDs.at r e
  refine ⟨⟨xs, v, hq, ev⟩, fun x H' y => ?_⟩
  obtain ⟨rfl, y⟩ := y
  have := y xs hq
  rw [ev] at this
  cases this
  exact ⟨Hf, Same.refl _, Same.refl _, R, q.mono s⟩
theorem walks_rng {K : PySem.W.Frag} {mg : Mg} {H0 F1 : Hp} {lo : Int} {n : Nat} : Walks K mg H0 (Itr lo n) F1 ((List.range n).map fun (k : Nat) => .int (lo + k)) := by
  intro g Γ ρ σ Hf H s R i
  refine ⟨fun d e => ?_, fun l => show n ≤ i by simpa using l⟩
  rw [List.getElem?_map] at e
  by_cases l : i < n
  · rw [List.getElem?_range l] at e
    cases e
    refine ⟨l, fun x H' y => ?_⟩
    obtain ⟨rfl, rfl⟩ := y
    exact ⟨Hf, Same.refl _, Same.refl _, R, by simp only [IsD]⟩
  · rw [List.getElem?_eq_none (by simpa using l)] at e
    cases e
theorem IsDs.ints {K : PySem.W.Frag} {mg : Mg} {H : Hp} : ∀ ns : List Int, IsDs K mg H (ns.map .int) (ns.map V.int)
  | [] => by simp only [List.map_nil, IsDs]
  | n :: ns => by
    simp only [List.map_cons, IsDs, IsD]
    exact ⟨_, _, rfl, rfl, IsDs.ints ns⟩
theorem pix_seq {e : Expr} {f : Env → Out D} (h : PX X g E Γ e Γ1 .fr f) : PIx X g E Γ tg e Γ1 (iSeq f) := by
  refine ⟨h.le, (pi_any h.pe).imp fun σ H Q ⟨ρ, Hf, R, q⟩ => ⟨ρ, Hf, R, ?_⟩⟩
  refine tG.bind (Le.refl _) q fun d F1 H1 s1 s2 R1 k v hv => ?_
  cases d with
  | lst ds =>
    simp only [Res, IsD] at hv
    obtain ⟨a, xs, rfl, q1, q2⟩ := hv
    exact ⟨a, rfl, .inl ⟨⟨xs, R1.same.seq (.of q1)⟩, k F1 H1 (Same.refl _) (Same.refl _) R1 _ (walks_lst (.of q1) q2)⟩⟩
  | scr ns =>
    simp only [Res, IsD] at hv
    obtain ⟨a, rfl, q1⟩ := hv
    exact ⟨a, rfl, .inl ⟨⟨_, R1.same.seq q1⟩, k F1 H1 (Same.refl _) (Same.refl _) R1 _ (walks_lst q1 (IsDs.ints _))⟩⟩
  | tup ds =>
    simp only [Res, IsD] at hv
    obtain ⟨a, xs, rfl, q1, q2⟩ := hv
    exact ⟨a, rfl, .inr ⟨⟨xs, Same.seqT R1.same q1⟩, k F1 H1 (Same.refl _) (Same.refl _) R1 _ (walks_tup q1 q2)⟩⟩
  | _ => exact k.elim
theorem IsDs.one {K : PySem.W.Frag} {mg : Mg} {H : Hp} {d : D} {vs : List V} (h : IsDs K mg H [d] vs) : ∃ v, vs = [v] ∧ IsD K mg H d v := by
  simp only [IsDs] at h
  obtain ⟨v, us, e, q, rfl⟩ := h
  exact ⟨v, e, q⟩
theorem IsDs.two {K : PySem.W.Frag} {mg : Mg} {H : Hp} {d e : D} {vs : List V} (h : IsDs K mg H [d, e] vs) : ∃ v u, vs = [v, u] ∧ IsD K mg H d v ∧ IsD K mg H e u := by
  simp only [IsDs] at h
  obtain ⟨v, us, e1, q, u, us', e2, q2, rfl⟩ := h
  exact ⟨v, u, by rw [e1, e2], q, q2⟩
theorem pix_range1 {a : Expr} {p : Pos} {f : Env → Out (List D)} (hg : Gl X "range") (hm : X.mg "range" = none) (h : PAx X g E Γ [a] Γ1 f) (hs : starEach [a] X.env = [(false, eval a X.env)] := by rfl) :
    PIx X g E Γ tg (.Call (.Name "range" p) [a] [] pos) Γ1 (iRange1 f) := by
  refine ⟨h.le, (pi_range1 hg hm h.pe hs).imp fun σ H Q ⟨ρ, Hf, R, q⟩ => ⟨ρ, Hf, R, ?_⟩⟩
  refine tG.bind (Le.refl _) q fun ds F1 H1 s1 s2 R1 k vs hv => ?_
  unfold rng1 at k
  split at k
  · rename_i j
    obtain ⟨v, rfl, q1⟩ := hv.one
    simp only [IsD] at q1
    subst q1
    by_cases z : -(2 ^ 62) ≤ j ∧ j < 2 ^ 62
    · rw [chk_pos z] at k
      refine ⟨j, rfl, z.1, z.2, k F1 H1 (Same.refl _) (Same.refl _) R1 _ ?_⟩
      have := walks_rng (K := X.K) (mg := X.mw) (H0 := g.H0) (F1 := F1) (lo := 0) (n := j.toNat)
      simpa using this
    · rw [chk_neg z] at k; exact k.elim
  · exact k.elim
theorem Rp.ofG {K : PySem.W.Frag} {mg : Mg} {ρ : Env} {σ : St} {F1 Hf H : Hp} (s : Same g.F0 F1) (n : ∀ a o, F1 a = some o → g.F0 a = some o ∨ g.H0 a = none) (R : Rp K mg ⟨g.H0, F1, g.slf⟩ Γ ρ σ Hf H) : Rp K mg g Γ ρ σ Hf H :=
  ⟨R.same, R.ent, s.trans R.ent2, fun a o e => (R.news a o e).elim (fun z => n a o z) .inr, R.len, R.own, R.dat, R.sep⟩
theorem Rp.toG {K : PySem.W.Frag} {mg : Mg} {ρ : Env} {σ : St} {F1 Hf H : Hp} (s : Same F1 Hf) (s0 : Same g.F0 F1) (R : Rp K mg g Γ ρ σ Hf H) : Rp K mg ⟨g.H0, F1, g.slf⟩ Γ ρ σ Hf H :=
  ⟨R.same, R.ent, s, fun a o e => (R.news a o e).elim (fun z => .inl (s0 a o z)) .inr, R.len, R.own, R.dat, R.sep⟩
theorem sR.toG {F1 : Hp} {Dn : Ends} {o : SO} (s : Same g.F0 F1) (n : ∀ a o, F1 a = some o → g.F0 a = some o ∨ g.H0 a = none) (h : sR X.K X.mw g E Γ Γl ro Dn o) : sR X.K X.mw ⟨g.H0, F1, g.slf⟩ E Γ Γl ro Dn o := by
  cases o with
  | nx ρ => exact fun σ Hf H R => h σ Hf H (R.ofG s n)
  | bk ρ => exact fun σ Hf H R => h σ Hf H (R.ofG s n)
  | ct ρ => exact fun σ Hf H R => h σ Hf H (R.ofG s n)
  | rt d => exact fun v Hf H s1 s2 s3 nw r => h v Hf H s1 s2 (s.trans s3) (fun a o e => (nw a o e).elim (fun z => n a o z) .inr) r
  | ex x => exact fun c dd σ Hf H s1 s2 s3 nw ix => h c dd σ Hf H s1 s2 (s.trans s3) (fun a o e => (nw a o e).elim (fun z => n a o z) .inr) ix
  | stuck => exact h
theorem psx_for {iter : Expr} {body : List Stmt} {G : D → Env → Out Env} {it : Env → Out (List D)} {fb : Env → SO} (hp : PassesOwn (model X.prog X.w) X.A X.env X.xe) (hc : X.calm = true) (hi : PIx X g E Γ tg iter Γ1 it)
    {ws : List Nat} (hg : ∀ F1, PGx X ⟨g.H0, F1, g.slf⟩ Γ1 tg Γ2 G ws) (nx : ∀ d ρ x, G d ρ ≠ .exc x) (hb : ∀ F1, PSsx X ⟨g.H0, F1, g.slf⟩ E ro Γ1 Γ2 body Γ1 fb) (hs : ∀ x, foldedSetIterable iter X.env x = pure x := by intro _; rfl) :
    PSx X g E ro Γl Γ (.For tg iter body [] pos) Γ1 (sFor G it fb) := by
  refine ⟨⟨fun pins s σ H Dn I ⟨ρ, Hf, R, q⟩ => ?_⟩⟩
  let hbody : ∀ F1, PSs X body (fun Dn σ H => ∃ ρ Hf, Rp X.K X.mw ⟨g.H0, F1, g.slf⟩ Γ2 ρ σ Hf H ∧ sR X.K X.mw ⟨g.H0, F1, g.slf⟩ E Γ1 Γ1 ro Dn (fb ρ)) := fun F1 => (hb F1).ps
  let hgt : ∀ F1, PG X tg (fun v σ H Q => ∃ d ρ Hf, Rp X.K X.mw ⟨g.H0, F1, g.slf⟩ Γ1 ρ σ Hf H ∧ IsD X.K X.mw Hf d v ∧ ∃ ρ', G d ρ = .ok ρ' ∧ ∀ σ', Rp X.K X.mw ⟨g.H0, F1, g.slf⟩ Γ2 ρ' σ' Hf H → Q σ' H) := fun F1 => (hg F1).pg.imp fun v σ H Q ⟨d, ρ, Hf, R, i, ρ', e, q⟩ => ⟨d, ρ, Hf, R, i, ρ', e, fun σ' _ => q σ'⟩
  have HB : PSs X body (fun Dn σ H => ∃ F1 ρ Hf, Rp X.K X.mw ⟨g.H0, F1, g.slf⟩ Γ2 ρ σ Hf H ∧ sR X.K X.mw ⟨g.H0, F1, g.slf⟩ E Γ1 Γ1 ro Dn (fb ρ)) := ⟨fun pins s σ H D I ⟨F1, z⟩ => (hbody F1).run pins s σ H D I z⟩
  have HG : PG X tg (fun v σ H Q => ∃ F1 d ρ Hf, Rp X.K X.mw ⟨g.H0, F1, g.slf⟩ Γ1 ρ σ Hf H ∧ IsD X.K X.mw Hf d v ∧ ∃ ρ', G d ρ = .ok ρ' ∧ ∀ σ', Rp X.K X.mw ⟨g.H0, F1, g.slf⟩ Γ2 ρ' σ' Hf H → Q σ' H) := ⟨fun pins s σ H v u Q I r ⟨F1, z⟩ => (hgt F1).run pins s σ H v u Q I r z⟩
  refine (ps_for hp hc hi.pi HG HB hs).run pins s σ H Dn I ⟨ρ, Hf, R, ?_⟩
  refine tG.toS q fun ds F1 H1 s1 s2 R1 k J wk => ?_
  have sF : Same g.F0 F1 := R1.ent2
  have nF := R1.news
  refine ⟨fun i n σ H => n = ds.length - i ∧ i ≤ ds.length ∧ ∃ ρ Hf, Rp X.K X.mw ⟨g.H0, F1, g.slf⟩ Γ1 ρ σ Hf H ∧ sR X.K X.mw g E Γ1 Γl ro Dn (forL G fb (ds.drop i) ρ), ⟨ds.length, by simp, Nat.zero_le _, ρ, F1, R1.toG (Same.refl _) sF, k⟩, ?_⟩
  rintro i n σ2 H2 ⟨rfl, hi', ρ2, Hf2, R2, k2⟩
  by_cases hlt : i < ds.length
  · have ed : ds[i]? = some ds[i] := by simp [hlt]
    have hd : ds.drop i = ds[i] :: ds.drop (i + 1) := List.drop_eq_getElem_cons hlt
    obtain ⟨go, yl⟩ := (wk ⟨g.H0, F1, g.slf⟩ Γ1 ρ2 σ2 Hf2 H2 R2.ent2 R2 i).1 _ ed
    refine .inr ⟨go, fun σ3 H3 => ∃ ρ Hf, Rp X.K X.mw ⟨g.H0, F1, g.slf⟩ Γ1 ρ σ3 Hf H3 ∧ sR X.K X.mw g E Γ1 Γl ro Dn (forL G fb (ds.drop (i + 1)) ρ), fun σ3 H3 ⟨ρ3, Hf3, R3, k3⟩ => ⟨ds.length - (i + 1), by omega, rfl, hlt, ρ3, Hf3, R3, k3⟩, fun x H' y => ?_⟩
    obtain ⟨Hf3, s3, s4, R3, hx⟩ := yl x H' y
    rw [hd] at k2
    unfold forL at k2
    cases hG : G ds[i] ρ2 with
    | ok ρ3 =>
      rw [hG] at k2
      refine ⟨F1, ds[i], ρ2, Hf3, R3, hx, ρ3, hG, fun σ' R4 => ⟨F1, ρ3, Hf3, R4, ?_⟩⟩
      simp only [oS_ok] at k2
      cases hf : fb ρ3 with
      | nx r => rw [hf] at k2; exact fun σ5 Hf5 H5 R5 => ⟨r, Hf5, R5, k2⟩
      | ct r => rw [hf] at k2; exact fun σ5 Hf5 H5 R5 => ⟨r, Hf5, R5, k2⟩
      | bk r => rw [hf] at k2; exact fun σ5 Hf5 H5 R5 => k2 σ5 Hf5 H5 (R5.ofG sF nF)
      | rt d => rw [hf] at k2; exact fun v Hf H s1 s2 s3 nw r => k2 v Hf H s1 s2 (sF.trans s3) (fun a o e => (nw a o e).elim (fun z => nF a o z) .inr) r
      | ex x => rw [hf] at k2; exact fun c dd σ Hf H s1 s2 s3 nw ix => k2 c dd σ Hf H s1 s2 (sF.trans s3) (fun a o e => (nw a o e).elim (fun z => nF a o z) .inr) ix
      | stuck => rw [hf] at k2; exact k2
    | exc x => exact absurd hG (nx _ _ x)
    | stuck => rw [hG] at k2; exact k2.elim
  · have e : i = ds.length := by omega
    subst e
    refine .inl ⟨(wk ⟨g.H0, F1, g.slf⟩ Γ1 ρ2 σ2 Hf2 H2 R2.ent2 R2 _).2 (Nat.le_refl _), ?_⟩
    rw [List.drop_length] at k2
    exact k2 σ2 Hf2 H2 (R2.ofG sF nF)
end

structure FnT (K : PySem.W.Frag) (mg : Str → Option Value) (x : Str) (st : Stmt) : Prop where
  ex : ∃ f fd, mg x = some (.ref f) ∧ Fun K x x st f fd
structure FnA (P : Program) (w : World) (K : PySem.W.Frag) (mg : Str → Option Value) (base : Heap) (k : Nat) (x : Str) (ps : List Str) (ro : Bool) (F : List D → Out D) : Prop where
  ex : ∃ f fd, mg x = some (.ref f) ∧ PySem.W.keepIn K (.ref f) = true ∧ Binds K fd ps [] ∧ FnOk P w K mg base (L2.CX P w) k f fd ps (spD K ⟨mg, w⟩ ro F) ∧ ∃ oc od osl, K.lookup f = some ⟨oc, od, .func fd, osl⟩
theorem FnA.mono {P : Program} {w : World} {K : PySem.W.Frag} {mg : Str → Option Value} {base : Heap} {j k : Nat} {x : Str} {ps : List Str} {ro : Bool} {F : List D → Out D} (h : FnA P w K mg base j x ps ro F) (l : j ≤ k) : FnA P w K mg base k x ps ro F := by
  obtain ⟨f, fd, e1, e2, e3, e4, e5⟩ := h.ex
  exact ⟨f, fd, e1, e2, e3, e4.mono l, e5⟩
def SO.res (o : SO) : Out D := match o with
  | .rt d => .ok d
  | .nx _ => .ok .non
  | .ex x => .exc x
  | _ => .stuck
@[simp] theorem res_rt (d : D) : (SO.rt d).res = .ok d := rfl
@[simp] theorem res_nx (r : Env) : (SO.nx r).res = .ok .non := rfl
@[simp] theorem res_ex (x : Exn) : (SO.ex x).res = .exc x := rfl
def fnM (n k : Nat) (b : Env → SO) : List D → Out D := fun ds => if ds.length = k then (b (ds.map some ++ List.replicate (n - k) none)).res else .stuck
def cxD (P : Program) (w : World) (K : PySem.W.Frag) (mg : Str → Option Value) (base : Heap) (N : List Str) (x : Str) (st : Stmt) (f : Addr) (cdv : Value) (A : Around) (outer : List PySem.Env) (s : Shared) (H : Hp) (E : XK) : Cx :=
  cxOf (L2.CX P w) P w K mg base N x (defScope st) f cdv A outer s H E
section
variable {P : Program} {w : World} {K : PySem.W.Frag} {mg : Str → Option Value} {base : Heap}
theorem IsDs.map {mg : Mg} {H : Hp} : ∀ {ds : List D} {vs : List V} {i : Nat} {d : D}, IsDs K mg H ds vs → (ds.map some)[i]? = some (some d) → ∃ v, (vs.map some)[i]? = some (some v) ∧ IsD K mg H d v := fun {ds vs i d} h e => by
  rw [List.getElem?_map] at e
  cases q : ds[i]? with
  | none => rw [q] at e; cases e
  | some d' =>
    rw [q] at e
    cases e
    obtain ⟨v, ev, r⟩ := h.at q
    exact ⟨v, by rw [List.getElem?_map, ev]; rfl, r⟩
theorem fnA_mk {x : Str} {st : Stmt} {N ps : List Str} {k : Nat} {ro : Bool} {Γl Γ' Γ0 : List Bool} {b : Env → SO} (T : FnT K mg x st) (S : FnScope N ps (defScope st)) (hl : ps.length ≤ N.length) (h0 : ∀ i, ¬ Own Γ0 i)
    (hbind : ∀ (kV doc pm : Value) (an : Option Addr) (cdv ct : Value) (us : List Value), us.length = ps.length → bindArgs (PySem.W.fnOf x x (defArgs st) (defBody st) (defScope st) .none kV doc pm an cdv ct) ⟨us, []⟩ = pure (ps.zip us))
    (body : ∀ (f : Addr) (cdv : Value) (A : Around) (outer : List PySem.Env) (s : Shared) (H : Hp) (E : XK) (Hf : Hp), Room k (A.deeper (envOfC x (defScope st) s.heap.objs.size f cdv)) →
      PSsx (cxD P w K mg base N x st f cdv A outer s H E) ⟨H, Hf, none⟩ (fun c d _ H => E c d H) ro Γl Γ0 (defBody st) Γ' b) : FnA P w K mg base (k + 1) x ps ro (fnM N.length ps.length b) := by
  obtain ⟨f, fd, hm, F⟩ := T.ex
  refine ⟨f, fd, hm, F.kp, F.binds hbind, F.okX S (fun vs H Q E h => ?_) fun cdv A outer s H vs Q E hr h => ?_, let ⟨oc, od, _, _, _, _, _, _, osl, _, l, _⟩ := F.ex; ⟨oc, od, osl, l⟩⟩
  · obtain ⟨ds, Hf, s1, hv, q⟩ := h
    rw [hv.len]
    unfold fnM at q
    by_cases l : ds.length = ps.length
    · exact l
    · rw [if_neg l] at q; exact q.elim
  · obtain ⟨ds, Hf, s1, hv, q⟩ := h
    refine ⟨_, (body f cdv A outer s H E Hf hr).ps, ?_⟩
    unfold fnM at q
    by_cases l : ds.length = ps.length
    · rw [if_pos l] at q
      have lv : vs.length = ps.length := hv.len.trans l
      refine ⟨ds.map some ++ List.replicate (N.length - ps.length) none, Hf, ⟨s1, Same.refl _, Same.refl _, fun a o e => .inl e, ⟨?_, fun a e => by cases e⟩, fun i d o _ => (h0 i o).elim, fun i d o e => ?_, fun i j d e v n o => (h0 i o).elim⟩, ?_⟩
      · unfold L2.start
        simp [lv, l]
      · unfold L2.start
        by_cases li : i < ds.length
        · rw [List.getElem?_append_left (by simpa using li)] at e
          obtain ⟨v, ev, r⟩ := IsDs.map hv e
          refine ⟨v, ?_, r⟩
          rw [List.getElem?_append_left (by simpa [hv.len] using li)]
          exact ev
        · rw [List.getElem?_append_right (by simpa using li), List.getElem?_replicate] at e
          split at e <;> simp at e
      · show sR K ⟨mg, w⟩ ⟨H, Hf, none⟩ _ Γ' Γl ro _ (b _)
        cases hb : b (ds.map some ++ List.replicate (N.length - ps.length) none) with
        | nx r =>
          rw [hb] at q
          intro σ1 Hf1 H1 R1
          refine q .non Hf1 H1 R1.ent2 R1.same R1.ent R1.news ?_
          unfold RetRes
          cases ro <;> simp [IsO, IsD]
        | rt d => rw [hb] at q; exact fun v Hf1 H1 s1 s2 s3 nw r => q v Hf1 H1 s3 s1 s2 nw r
        | ex x => rw [hb] at q; exact fun c dd σ1 Hf1 H1 s1 s2 s3 nw ix => q c dd Hf1 H1 s3 s1 s2 nw ix
        | bk r => rw [hb] at q; exact q.elim
        | ct r => rw [hb] at q; exact q.elim
        | stuck => rw [hb] at q; exact q.elim
    · rw [if_neg l] at q; exact q.elim
theorem fnA_stuck {x : Str} {st : Stmt} {ps : List Str} {k : Nat} {ro : Bool} (T : FnT K mg x st)
    (hbind : ∀ (kV doc pm : Value) (an : Option Addr) (cdv ct : Value) (us : List Value), us.length = ps.length → bindArgs (PySem.W.fnOf x x (defArgs st) (defBody st) (defScope st) .none kV doc pm an cdv ct) ⟨us, []⟩ = pure (ps.zip us)) :
    FnA P w K mg base k x ps ro (fun _ => .stuck) := by
  obtain ⟨f, fd, hm, F⟩ := T.ex
  exact ⟨f, fd, hm, F.kp, F.binds hbind, ⟨fun vs H Q E ⟨_, _, _, _, z⟩ => z.elim, fun A outer s H args us vs Q E _ _ _ _ ⟨_, _, _, _, z⟩ => z.elim⟩, let ⟨oc, od, _, _, _, _, _, _, osl, _, l, _⟩ := F.ex; ⟨oc, od, osl, l⟩⟩
end

section
variable {X : Cx} {g : G} {E : WX} {ro : Bool} {Γl Γ Γ1 Γ2 Γ3 : List Bool} {m : Md} {pos p : Pos} {x : Str} {e : Expr} {es : List Expr} {k : Nat} {ps : List Str} {F : List D → Out D} {fa : Env → Out (List D)}
theorem Rp.back {K : PySem.W.Frag} {mg : Mg} {ρ : Env} {σ : St} {F1 H1 Hf' H' : Hp} (R : Rp K mg g Γ ρ σ F1 H1) (s1 : Same F1 Hf') (s2 : Same Hf' H') (s3 : Same H1 H') (nw : ∀ a o, Hf' a = some o → F1 a = some o ∨ H1 a = none) : Rp K mg g Γ ρ σ Hf' H' := by
  refine ⟨s2, R.ent.trans s3, R.ent2.trans s1, fun a o e => ?_, R.len, fun i d o e => ?_, fun i d o e => ?_, R.sep⟩
  · rcases nw a o e with z | z
    · exact R.news a o z
    · exact .inr (R.ent.free z)
  · obtain ⟨v, e1, io⟩ := R.own i d o e
    refine ⟨v, e1, ?_⟩
    have nn : ∀ a oo, F1 a = none → H1 a = some oo → Hf' a = none := fun a oo zf q => by
      cases z : Hf' a with
      | none => rfl
      | some o' =>
        rcases nw a o' z with y | y
        · rw [zf] at y; cases y
        · rw [q] at y; cases y
    cases d with
    | lst ds =>
      obtain ⟨a, xs, e, z0, zf, q, r⟩ := io
      exact ⟨a, xs, e, z0, nn a _ zf q, s3 _ _ q, IsDs.mono s1 r⟩
    | dic ds =>
      obtain ⟨a, xs, e, z0, zf, q, r⟩ := io
      exact ⟨a, xs, e, z0, nn a _ zf q, s3 _ _ q, DicAt.mono s1 r⟩
    | ins c ds =>
      obtain ⟨a, xs, e, z0, zf, q, r⟩ := io
      exact ⟨a, xs, e, z0, nn a _ zf q, s3 _ _ q, InsAt.mono s1 r⟩
    | _ => exact IsD.mono s1 io
  · obtain ⟨v, e1, q⟩ := R.dat i d o e
    exact ⟨v, e1, q.mono s1⟩
theorem call_sp {ρ : Env} {σ : St} {F1 H1 : Hp} {ds : List D} {vs : List V} {Q : VK} (R : Rp X.K X.mw g Γ ρ σ F1 H1) (hv : IsDs X.K X.mw F1 ds vs) (k : tG X.K X.mw g E Γ ρ σ F1 H1 (PV X g Γ ρ σ (if ro = true then .ow else .fr) Q) (F ds)) : spD X.K X.mw ro F vs H1 Q (WE E σ) := by
  refine ⟨ds, F1, R.same, hv, ?_⟩
  cases hF : F ds with
  | ok d =>
    rw [hF] at k
    intro v Hf' H' s1 s2 s3 nw rr
    refine k Hf' H' s1 s3 (R.back s1 s2 s3 nw) v ?_
    cases ro with
    | true =>
      unfold RetRes at rr
      rw [if_pos rfl] at rr
      refine ⟨?_, fun i e o e1 m1 m2 e2 => ?_⟩
      · cases d with
        | lst ds => obtain ⟨a, xs, e, z0, zf, q, r⟩ := rr; exact ⟨a, xs, e, R.ent.free z0, zf, q, r⟩
        | dic ds => obtain ⟨a, xs, e, z0, zf, q, r⟩ := rr; exact ⟨a, xs, e, R.ent.free z0, zf, q, r⟩
        | ins c ds => obtain ⟨a, xs, e, z0, zf, q, r⟩ := rr; exact ⟨a, xs, e, R.ent.free z0, zf, q, r⟩
        | _ => exact rr
      · obtain ⟨a, oo, rfl, z0, _, _⟩ := rr.addr m2
        obtain ⟨v', e3, io⟩ := R.own i e o e1
        obtain ⟨b, ob, e4, _, _, q⟩ := io.addr m1
        rw [e2] at e3
        obtain rfl : V.ref a = v' := Option.some.inj (Option.some.inj e3)
        obtain rfl : a = b := V.ref.inj e4
        rw [z0] at q; cases q
    | false =>
      unfold RetRes at rr
      rw [if_neg Bool.false_ne_true] at rr
      exact rr
  | exc x =>
    rw [hF] at k
    intro c dd Hf' H' s1 s2 s3 nw ix
    exact k c dd Hf' H' s1 s3 (R.back s1 s2 s3 nw) ix
  | stuck => rw [hF] at k; exact k
theorem px_call (C : FnA X.prog X.w X.K X.mg X.base k x ps ro F) (hr : Room k X.A) (hg : Gl X x) (tk : Takes X E) (ha : PAx X g E Γ (e :: es) Γ1 fa) (hdb : (x == ("__debug__" : Str)) = false := by decide)
    (he : starEach (e :: es) X.env = (false, eval e X.env) :: starEach es X.env := by rfl) (hpl : (backTo pos (starEach es X.env)).any (·.1) = false := by rfl) : PX X g E Γ (.Call (.Name x p) (e :: es) [] pos) Γ1 (if ro = true then .ow else .fr) (eA F fa) := by
  obtain ⟨f, fd, e1, e2, e3, e4, _⟩ := C.ex
  refine ⟨ha.le, (pe_callS e4 hr hg e1 e2 e3 (fun σ => passAt tk σ) ha.pe hdb he hpl).imp fun σ H Q ⟨ρ, Hf, R, q⟩ => ⟨ρ, Hf, R, ?_⟩⟩
  exact tG.bind (Le.refl _) q fun ds F1 H1 s1 s2 R1 k1 vs hv => call_sp R1 hv k1
end
end PD

namespace PD
open PySem PySem.Spec L2
open PyProof.Rows hiding St

section
variable {X : Cx} {m : Md}
def Out.or {α : Type} (a b : Out α) : Out α := match a with
  | .stuck => b
  | o => o
@[simp] theorem Out.or_ok {α : Type} (a : α) (b : Out α) : (Out.ok a).or b = .ok a := rfl
@[simp] theorem Out.or_stuck {α : Type} (b : Out α) : (Out.stuck : Out α).or b = b := rfl
def dOr (F F' : D → D → Out D) : D → D → Out D := fun x y => (F x y).or (F' x y)
theorem OpD.or {f : Value → Value → Sem Value} {F F' : D → D → Out D} (h : OpD X f m F) (h' : OpD X f m F') : OpD X f m (dOr F F') := by
  obtain ⟨r, hr, w⟩ := h
  obtain ⟨r', hr', w'⟩ := h'
  refine ⟨_, hr.or hr', fun g E Γ ρ σ Hf H x y v u Q R hx hy k => ?_⟩
  unfold dOr at k
  cases hF : F x y with
  | ok d => rw [hF] at k; exact .inl (w g E Γ ρ σ Hf H x y v u Q R hx hy (by rw [hF]; exact k))
  | exc e => rw [hF] at k; exact .inl (w g E Γ ρ σ Hf H x y v u Q R hx hy (by rw [hF]; exact k))
  | stuck => rw [hF] at k; exact .inr (w' g E Γ ρ σ Hf H x y v u Q R hx hy k)
noncomputable def dI (C : Int → Int → Prop) (h : Int → Int → D) : D → D → Out D
  | .int i, .int j => chk (C i j) (.ok (h i j))
  | _, _ => .stuck
def dI0 (h : Int → Int → D) : D → D → Out D
  | .int i, .int j => .ok (h i j)
  | _, _ => .stuck
theorem opd_int {f : Value → Value → Sem Value} {C : Int → Int → Prop} {h : Int → Int → Int} (ho : OpR X f (rI C fun i j => .int (h i j))) : OpD X f m (dI C fun i j => .int (h i j)) := by
  refine ⟨_, ho, fun g E Γ ρ σ Hf H x y v u Q R hx hy k => ?_⟩
  unfold dI at k
  split at k
  · rename_i i j
    simp only [IsR, IsD] at hx hy
    by_cases c : C i j
    · rw [chk_pos c] at k
      exact ⟨i, j, hx, hy, c, k Hf H (Same.refl _) (Same.refl _) R _ (Res.dat R.same rfl (by simp only [IsD]))⟩
    · rw [chk_neg c] at k; exact k.elim
  · exact k.elim
theorem opd_int0 {f : Value → Value → Sem Value} {h : Int → Int → Int} (ho : OpR X f (rI0 fun i j => .int (h i j))) : OpD X f m (dI0 fun i j => .int (h i j)) := by
  refine ⟨_, ho, fun g E Γ ρ σ Hf H x y v u Q R hx hy k => ?_⟩
  unfold dI0 at k
  split at k
  · rename_i i j
    simp only [IsR, IsD] at hx hy
    exact ⟨i, j, hx, hy, k Hf H (Same.refl _) (Same.refl _) R _ (Res.dat R.same rfl (by simp only [IsD]))⟩
  · exact k.elim
theorem opd_cmp {f : Value → Value → Sem Value} {h : Int → Int → Bool} (ho : OpR X f (rI0 fun i j => .bl (h i j))) : OpD X f m (dI0 fun i j => .bl (h i j)) := by
  refine ⟨_, ho, fun g E Γ ρ σ Hf H x y v u Q R hx hy k => ?_⟩
  unfold dI0 at k
  split at k
  · rename_i i j
    simp only [IsR, IsD] at hx hy
    exact ⟨i, j, hx, hy, k Hf H (Same.refl _) (Same.refl _) R _ (Res.dat R.same rfl (by simp only [IsD]))⟩
  · exact k.elim
def dAddI : D → D → Out D := dI0 fun i j => .int (i + j)
def dSub : D → D → Out D := dI0 fun i j => .int (i - j)
noncomputable def dMulI : D → D → Out D := dI CMulX fun i j => .int (i * j)
noncomputable def dDiv : D → D → Out D := dI CDivW fun i j => .int (i / j)
noncomputable def dMod : D → D → Out D := dI (fun _ j => 0 < j) fun i j => .int (i % j)
noncomputable def dPow : D → D → Out D := dI CPow fun i j => .int (i ^ j.toNat)
def dLtI : D → D → Out D := dI0 fun i j => .bl (decide (i < j))
def dLeI : D → D → Out D := dI0 fun i j => .bl (decide (i ≤ j))
def dGtI : D → D → Out D := dI0 fun i j => .bl (decide (j < i))
def dGeI : D → D → Out D := dI0 fun i j => .bl (decide (j ≤ i))
theorem od_addI : OpD X (binaryOp .Add) m dAddI := opd_int0 op_add
theorem od_sub : OpD X (binaryOp .Sub) m dSub := opd_int0 op_sub
theorem od_mulI : OpD X (binaryOp .Mult) m dMulI := opd_int op_mulX
theorem od_div : OpD X (binaryOp .FloorDiv) m dDiv := opd_int op_fdivW
theorem od_mod : OpD X (binaryOp .Mod) m dMod := opd_int op_mod
theorem od_pow : OpD X (binaryOp .Pow) m dPow := opd_int op_pow
theorem od_ltI : OpD X (compareOp .Lt) m dLtI := opd_cmp op_lt
theorem od_gtI : OpD X (compareOp .Gt) m dGtI := opd_cmp op_gt
noncomputable def dAddS : D → D → Out D
  | .str i, .str j => chk (i.length + j.length ≤ sizeLine) (.ok (.str (i ++ j)))
  | _, _ => .stuck
theorem od_addS : OpD X (binaryOp .Add) m dAddS := by
  refine ⟨_, op_add_str, fun g E Γ ρ σ Hf H x y v u Q R hx hy k => ?_⟩
  unfold dAddS at k
  split at k
  · rename_i i j
    simp only [IsR, IsD] at hx hy
    by_cases c : i.length + j.length ≤ sizeLine
    · rw [chk_pos c] at k
      exact ⟨i, j, hx, hy, c, k Hf H (Same.refl _) (Same.refl _) R _ (Res.dat R.same rfl (by simp only [IsD]))⟩
    · rw [chk_neg c] at k; exact k.elim
  · exact k.elim
def dS (h : Str → Str → Bool) : D → D → Out D
  | .str i, .str j => .ok (.bl (h i j))
  | _, _ => .stuck
theorem opd_str {f : Value → Value → Sem Value} {h : Str → Str → Bool} (ho : OpR X f (fun x y H Q => ∃ i j, x = .str i ∧ y = .str j ∧ Q (.bl (h i j)) H)) : OpD X f m (dS h) := by
  refine ⟨_, ho, fun g E Γ ρ σ Hf H x y v u Q R hx hy k => ?_⟩
  unfold dS at k
  split at k
  · rename_i i j
    simp only [IsR, IsD] at hx hy
    exact ⟨i, j, hx, hy, k Hf H (Same.refl _) (Same.refl _) R _ (Res.dat R.same rfl (by simp only [IsD]))⟩
  · exact k.elim
def dLtS : D → D → Out D := dS fun i j => decide (i.cps.toList < j.cps.toList)
def dLeS : D → D → Out D := dS fun i j => !decide (j.cps.toList < i.cps.toList)
def dGtS : D → D → Out D := dS fun i j => decide (j.cps.toList < i.cps.toList)
def dGeS : D → D → Out D := dS fun i j => !decide (i.cps.toList < j.cps.toList)
theorem pv_lst {g : G} {E : WX} {Γ : List Bool} {ρ : Env} {σ : St} {Hf H : Hp} {ds : List D} {vs : List V} {Q : VK} {p : Addr} (R : Rp X.K X.mw g Γ ρ σ Hf H) (hv : IsDs X.K X.mw Hf ds vs) (n : H p = none)
    (k : tG X.K X.mw g E Γ ρ σ Hf H (PV X g Γ ρ σ m Q) (.ok (.lst ds))) : Q (.ref p) (upd H p (.lst vs)) := by
  cases m with
  | ow =>
    obtain ⟨t2, R2, n0, nf, ap⟩ := R.newO (.lst vs) n
    exact k _ _ (Same.refl _) t2 R2 (.ref p) ⟨⟨p, vs, rfl, n0, nf, upd_same, hv⟩, fun i e ow e1 m _ e2 => ap i e ow e1 m e2⟩
  | fr =>
    obtain ⟨t1, t2, R2⟩ := R.new (.lst vs) n
    refine k _ _ t1 t2 R2 (.ref p) ?_
    show IsD _ _ _ _ _
    simp only [IsD]
    exact ⟨p, vs, rfl, upd_same, IsDs.mono t1 hv⟩
  | rd =>
    obtain ⟨t1, t2, R2⟩ := R.new (.lst vs) n
    exact k _ _ t1 t2 R2 (.ref p) ⟨p, vs, rfl, upd_same, IsDs.mono t1 hv⟩
theorem pv_tup {g : G} {E : WX} {Γ : List Bool} {ρ : Env} {σ : St} {Hf H : Hp} {ds : List D} {vs : List V} {Q : VK} {p : Addr} (R : Rp X.K X.mw g Γ ρ σ Hf H) (hv : IsDs X.K X.mw Hf ds vs) (n : H p = none)
    (k : tG X.K X.mw g E Γ ρ σ Hf H (PV X g Γ ρ σ m Q) (.ok (.tup ds))) : Q (.ref p) (upd H p (.tup vs)) := by
  obtain ⟨t1, t2, R2⟩ := R.new (.tup vs) n
  refine k _ _ t1 t2 R2 _ (Res.dat R2.same rfl ?_)
  simp only [IsD]
  exact ⟨p, vs, rfl, .inl (.inl upd_same), IsDs.mono t1 hv⟩
theorem IsDs.app {K : PySem.W.Frag} {mg : Mg} {H : Hp} {es : List D} {us : List V} (k : IsDs K mg H es us) : ∀ {ds : List D} {vs : List V}, IsDs K mg H ds vs → IsDs K mg H (ds ++ es) (vs ++ us)
  | [], vs, h => by
    simp only [IsDs] at h
    subst h
    exact k
  | x :: ds, vs, h => by
    simp only [IsDs, List.cons_append] at h ⊢
    obtain ⟨u, ws, rfl, q, r⟩ := h
    exact ⟨u, ws ++ us, rfl, q, IsDs.app k r⟩
noncomputable def dAddL : D → D → Out D
  | .lst xs, .lst ys => chk (xs.length + ys.length ≤ sizeLine) (.ok (.lst (xs ++ ys)))
  | _, _ => .stuck
theorem od_addL : OpD X (binaryOp .Add) m dAddL := by
  refine ⟨_, op_cat, fun g E Γ ρ σ Hf H x y v u Q R hx hy k => ?_⟩
  unfold dAddL at k
  split at k
  · rename_i ds es
    by_cases c : ds.length + es.length ≤ sizeLine
    · rw [chk_pos c] at k
      obtain ⟨a, xs, rfl, q, r⟩ := hx
      obtain ⟨b, ys, rfl, q2, r2⟩ := hy
      exact ⟨a, b, xs, ys, rfl, rfl, q, q2, by rw [r.len, r2.len]; exact c, fun p n => pv_lst R (IsDs.app r2 r) n k⟩
    · rw [chk_neg c] at k; exact k.elim
  · exact k.elim
noncomputable def dAddT : D → D → Out D
  | .tup xs, .tup ys => chk (xs.length + ys.length ≤ sizeLine) (.ok (.tup (xs ++ ys)))
  | _, _ => .stuck
theorem od_addT : OpD X (binaryOp .Add) m dAddT := by
  refine ⟨_, op_catA, fun g E Γ ρ σ Hf H x y v u Q R hx hy k => ?_⟩
  unfold dAddT at k
  split at k
  · rename_i ds es
    by_cases c : ds.length + es.length ≤ sizeLine
    · rw [chk_pos c] at k
      have hx' := hx
      have hy' := hy
      simp only [IsR, IsD] at hx hy
      obtain ⟨a, xs, rfl, q, r⟩ := hx
      obtain ⟨b, ys, rfl, q2, r2⟩ := hy
      refine ⟨a, b, xs, ys, rfl, rfl, Same.seqT R.same q, Same.seqT R.same q2, by rw [r.len, r2.len]; exact c, fun e => ?_, fun _ e => ?_, fun _ _ p n => pv_tup R (IsDs.app r2 r) n k⟩
      · subst e
        have : ds = [] := List.eq_nil_of_length_eq_zero (by rw [← r.len]; rfl)
        subst this
        exact k Hf H (Same.refl _) (Same.refl _) R _ (Res.dat R.same rfl hy')
      · subst e
        have : es = [] := List.eq_nil_of_length_eq_zero (by rw [← r2.len]; rfl)
        subst this
        rw [List.append_nil] at k
        exact k Hf H (Same.refl _) (Same.refl _) R _ (Res.dat R.same rfl hx')
    · rw [chk_neg c] at k; exact k.elim
  · exact k.elim
noncomputable def dAdd : D → D → Out D := dOr dAddI (dOr dAddS (dOr dAddT dAddL))
noncomputable def dMul : D → D → Out D := dMulI

def dLe : D → D → Out D := dOr dLeI dLeS
def dGt : D → D → Out D := dOr dGtI dGtS

theorem od_add {k : Nat} (_ : Room k X.A) : OpD X (binaryOp .Add) m dAdd := od_addI.or (od_addS.or (od_addT.or od_addL))
theorem od_mul {k : Nat} (_ : Room k X.A) : OpD X (binaryOp .Mult) m dMul := od_mulI
theorem od_gt {k : Nat} (_ : Room k X.A) : OpD X (compareOp .Gt) m dGt := od_gtI.or (opd_str op_gt_str)
def flatD : D → Bool
  | .non => true
  | .bl _ => true
  | .int _ => true
  | .str _ => true
  | _ => false
def eqD : D → D → Bool
  | .non, .non => true
  | .bl a, .bl b => a == b
  | .bl a, .int b => (if a then 1 else 0) == b
  | .int a, .bl b => a == (if b then 1 else 0)
  | .int a, .int b => a == b
  | .str a, .str b => a == b
  | _, _ => false
noncomputable def dInQ (neg : Bool) (x : D) (ds : List D) : Out D := chk (flatD x = true ∧ ds.all flatD = true) (.ok (.bl (if neg then !(ds.any fun y => eqD y x) else ds.any fun y => eqD y x)))
noncomputable def dInL (neg : Bool) : D → D → Out D
  | x, .lst ds => dInQ neg x ds
  | x, .tup ds => dInQ neg x ds
  | _, _ => .stuck
theorem flat_v {K : PySem.W.Frag} {mg : Mg} {Hf H : Hp} {x : D} {v : V} (h : IsD K mg H x v) (f : flatD x = true) : flatV v = true := by
  cases x <;> first | (simp [flatD] at f; done) | (simp only [IsD] at h; subst h; rfl)
theorem flat_r {K : PySem.W.Frag} {mg : Mg} {Hf H : Hp} {x : D} {v : V} (h : IsR K mg Hf H x v) (f : flatD x = true) : IsD K mg Hf x v := by
  cases x <;> first | (simp [flatD] at f; done) | exact h
theorem flat_eq {K : PySem.W.Frag} {mg : Mg} {H : Hp} {x y : D} {v u : V} (h : IsD K mg H x v) (h' : IsD K mg H y u) (f : flatD x = true) (f' : flatD y = true) : eqV v u = eqD x y := by
  cases x <;> first
    | (simp [flatD] at f; done)
    | (cases y <;> first
      | (simp [flatD] at f'; done)
      | (simp only [IsD] at h h'; subst h h'; rfl))
theorem flat_in {K : PySem.W.Frag} {mg : Mg} {H : Hp} {x : D} {v : V} (h : IsD K mg H x v) (f : flatD x = true) : ∀ {ds : List D} {vs : List V}, IsDs K mg H ds vs → ds.all flatD = true → vs.all flatV = true ∧ inV v vs = ds.any fun y => eqD y x
  | [], _, k, _ => by simp only [IsDs] at k; subst k; exact ⟨rfl, rfl⟩
  | d :: ds, _, k, z => by
    simp only [IsDs] at k
    obtain ⟨u, us, rfl, q, r⟩ := k
    simp only [List.all_cons, Bool.and_eq_true] at z
    obtain ⟨i1, i2⟩ := flat_in h f r z.2
    refine ⟨by rw [List.all_cons, i1, flat_v (Hf := H) q z.1]; rfl, ?_⟩
    unfold inV at i2 ⊢
    rw [List.any_cons, List.any_cons, i2, flat_eq q h z.1 f]
theorem opd_in {f : Value → Value → Sem Value} {neg : Bool} (ho : OpR X f (rIn X.K neg)) : OpD X f m (dInL neg) := by
  refine ⟨_, ho, fun g E Γ ρ σ Hf H x y v u Q R hx hy k => ?_⟩
  unfold dInL at k
  split at k
  · rename_i ds
    unfold dInQ at k
    by_cases c : flatD x = true ∧ ds.all flatD = true
    · rw [chk_pos c] at k
      obtain ⟨a, xs, rfl, q, r⟩ := hy
      obtain ⟨i1, i2⟩ := flat_in (flat_r hx c.1) c.1 r c.2
      refine ⟨a, xs, rfl, .inl (.of q), flat_v (Hf := Hf) (flat_r hx c.1) c.1, i1, ?_⟩
      rw [i2]
      exact k Hf H (Same.refl _) (Same.refl _) R _ (Res.dat R.same rfl (by simp only [IsD]))
    · rw [chk_neg c] at k; exact k.elim
  · rename_i ds
    unfold dInQ at k
    by_cases c : flatD x = true ∧ ds.all flatD = true
    · rw [chk_pos c] at k
      simp only [IsR, IsD] at hy
      obtain ⟨a, xs, rfl, q, r⟩ := hy
      obtain ⟨i1, i2⟩ := flat_in (flat_r hx c.1) c.1 r c.2
      refine ⟨a, xs, rfl, .inr (Same.seqT R.same q), flat_v (Hf := Hf) (flat_r hx c.1) c.1, i1, ?_⟩
      rw [i2]
      exact k Hf H (Same.refl _) (Same.refl _) R _ (Res.dat R.same rfl (by simp only [IsD]))
    · rw [chk_neg c] at k; exact k.elim
  · exact k.elim
def dInS : D → D → Out D := dS fun i j => !(Builtin.Str.occurrences j i 0 j.length 1).isEmpty
theorem od_inL : OpD X (compareOp .In) m (dInL false) := opd_in op_in_seq
theorem od_inS : OpD X (compareOp .In) m dInS := opd_str op_in_str
def dNeg : D → Out D
  | .int i => .ok (.int (-i))
  | _ => .stuck
theorem ud_neg : UnD X (unaryOp .USub) m dNeg := by
  refine ⟨_, un_neg, fun g E Γ ρ σ Hf H x v Q R hx k => ?_⟩
  unfold dNeg at k
  split at k
  · rename_i i
    simp only [IsR, IsD] at hx
    exact ⟨i, hx, k Hf H (Same.refl _) (Same.refl _) R _ (Res.dat R.same rfl (by simp only [IsD]))⟩
  · exact k.elim

section
variable {K : PySem.W.Frag} {mg : Mg} {H : Hp}
theorem dp_ints : ∀ ns : List Int, DpAll K H (ns.map V.int) (ns.map .int)
  | [] => .nil
  | n :: ns => .cons (.int n) (dp_ints ns)
mutual
theorem dp_of : ∀ {d : D} {v : V}, IsD K mg H d v → (toPy d).canLay0 = true → Dp K H v (toPy d)
  | .non, _, h, _ => by simp only [IsD] at h; subst h; unfold toPy; exact .non
  | .bl b, _, h, _ => by simp only [IsD] at h; subst h; unfold toPy; exact .bl b
  | .int b, _, h, _ => by simp only [IsD] at h; subst h; unfold toPy; exact .int b
  | .str b, _, h, _ => by simp only [IsD] at h; subst h; unfold toPy; exact .str b
  | .ty _, _, _, z => by unfold toPy at z; simp [PyData.canLay0] at z
  | .scr ns, _, h, _ => by
    simp only [IsD] at h
    obtain ⟨a, rfl, q⟩ := h
    unfold toPy
    exact .lst q (dp_ints ns)
  | .tup ds, _, h, z => by
    simp only [IsD] at h
    obtain ⟨a, xs, rfl, q, r⟩ := h
    unfold toPy at z ⊢
    exact .tup q (dp_ofs r (by simpa [PyData.canLay0] using z))
  | .lst ds, _, h, z => by
    simp only [IsD] at h
    obtain ⟨a, xs, rfl, q, r⟩ := h
    unfold toPy at z ⊢
    exact .lst (.of q) (dp_ofs r (by simpa [PyData.canLay0] using z))
  | .dic _, _, _, z => by unfold toPy at z; simp [PyData.canLay0] at z
  | .ins _ _, _, _, z => by unfold toPy at z; simp [PyData.canLay0] at z
  | .adr _, _, _, z => by unfold toPy at z; simp [PyData.canLay0] at z
  | .exn _ _, _, _, z => by unfold toPy at z; simp [PyData.canLay0] at z
  | .cls _, _, _, z => by unfold toPy at z; simp [PyData.canLay0] at z
theorem dp_ofs : ∀ {d : List D} {v : List V}, IsDs K mg H d v → PyData.canLayAll0 (toPys d) = true → DpAll K H v (toPys d)
  | [], _, h, _ => by simp only [IsDs] at h; subst h; unfold toPys; exact .nil
  | d :: ds, _, h, z => by
    simp only [IsDs] at h
    obtain ⟨v, vs, rfl, q, r⟩ := h
    unfold toPys at z ⊢
    have z' : (toPy d).canLay0 = true ∧ PyData.canLayAll0 (toPys ds) = true := by simpa [PyData.canLayAll0] using z
    exact .cons (dp_of q z'.1) (dp_ofs r z'.2)
end
theorem dp_read {Hf : Hp} {d : D} {v : V} (s : Same Hf H) (h : IsR K mg Hf H d v) (z : (toPy d).canLay0 = true) : Dp K H v (toPy d) := by
  cases d with
  | lst ds =>
    obtain ⟨a, xs, rfl, q, r⟩ := h
    unfold toPy at z ⊢
    exact .lst (.of q) (dp_ofs (IsDs.mono s r) (by simpa [PyData.canLay0] using z))
  | dic ds => unfold toPy at z; simp [PyData.canLay0] at z
  | ins c fs => unfold toPy at z; simp [PyData.canLay0] at z
  | _ => exact dp_of (mg := mg) (IsD.mono s h) z
end
noncomputable def dEq : D → D → Out D := fun x y => chk (SeqAt.shaped (toPy x) = true ∧ SeqAt.shaped (toPy y) = true) (.ok (.bl (PyData.eqv (toPy x) (toPy y))))
noncomputable def dNe : D → D → Out D := fun x y => chk (SeqAt.shaped (toPy x) = true ∧ SeqAt.shaped (toPy y) = true) (.ok (.bl (!PyData.eqv (toPy x) (toPy y))))
theorem od_eq {k : Nat} (hr : Room k X.A) : OpD X (compareOp .Eq) m dEq := by
  refine ⟨_, op_eqD hr.units, fun g E Γ ρ σ Hf H x y v u Q R hx hy k => ?_⟩
  unfold dEq at k
  by_cases c : SeqAt.shaped (toPy x) = true ∧ SeqAt.shaped (toPy y) = true
  · rw [chk_pos c] at k
    exact ⟨toPy x, toPy y, dp_read R.same hx (SeqAt.canLay_of_shaped c.1), dp_read R.same hy (SeqAt.canLay_of_shaped c.2), c.1, c.2, k Hf H (Same.refl _) (Same.refl _) R _ (Res.dat R.same rfl (by simp only [IsD]))⟩
  · rw [chk_neg c] at k; exact k.elim
theorem od_ne {k : Nat} (hr : Room k X.A) : OpD X (compareOp .NotEq) m dNe := by
  refine ⟨_, op_neD hr.units, fun g E Γ ρ σ Hf H x y v u Q R hx hy k => ?_⟩
  unfold dNe at k
  by_cases c : SeqAt.shaped (toPy x) = true ∧ SeqAt.shaped (toPy y) = true
  · rw [chk_pos c] at k
    exact ⟨toPy x, toPy y, dp_read R.same hx (SeqAt.canLay_of_shaped c.1), dp_read R.same hy (SeqAt.canLay_of_shaped c.2), c.1, c.2, k Hf H (Same.refl _) (Same.refl _) R _ (Res.dat R.same rfl (by simp only [IsD]))⟩
  · rw [chk_neg c] at k; exact k.elim

noncomputable def dIxS : D → D → Out D
  | .lst ds, .int i => match atI ds i with
    | some d => .ok d
    | none => .stuck
  | .tup ds, .int i => match atI ds i with
    | some d => .ok d
    | none => .stuck
  | .scr ns, .int i => match atI ns i with
    | some n => .ok (.int n)
    | none => .stuck
  | .str z, .int i => chk (z.length ≤ sizeLine) (match atI z.cps.toList i with
    | some c => .ok (.str ⟨#[c]⟩)
    | none => .stuck)
  | _, _ => .stuck
theorem IsDs.atI {K : PySem.W.Frag} {mg : Mg} {H : Hp} {ds : List D} {vs : List V} {i : Int} {d : D} (h : IsDs K mg H ds vs) (e : atI ds i = some d) : ∃ v, atI vs i = some v ∧ IsD K mg H d v := by
  unfold L2.atI at e ⊢
  rw [h.len]
  cases q : ixN ds.length i with
  | none => rw [q] at e; cases e
  | some j =>
    rw [q] at e
    exact h.at e
end

section
variable {K : PySem.W.Frag} {mg : Mg}
def IsRs (K : PySem.W.Frag) (mg : Mg) (Hf H : Hp) : List D → List V → Prop
  | [], xs => xs = []
  | d :: ds, xs => ∃ v vs, xs = v :: vs ∧ IsR K mg Hf H d v ∧ IsRs K mg Hf H ds vs
end
structure PBx (X : Cx) (g : G) (E : WX) (Γ : List Bool) (e : List Expr) (Γ' : List Bool) (f : Env → Out (List D)) : Prop where
  le : Le Γ' Γ
  pe : PA X e (fun σ H Q => ∃ ρ Hf, Rp X.K X.mw g Γ ρ σ Hf H ∧ tG X.K X.mw g E Γ' ρ σ Hf H (fun ds Hf' H' => ∀ vs, IsRs X.K X.mw Hf' H' ds vs → Q vs H') (f ρ))
def CaD (X : Cx) (u : Value) (m : Md) (F : List D → Out D) : Prop := ∃ r, CallR X u r ∧
  ∀ g E Γ ρ σ Hf H ds vs Q, Rp X.K X.mw g Γ ρ σ Hf H → IsRs X.K X.mw Hf H ds vs → tG X.K X.mw g E Γ ρ σ Hf H (PV X g Γ ρ σ m Q) (F ds) → r vs H Q
section
variable {X : Cx} {g : G} {E : WX} {Γ Γ1 Γ2 : List Bool} {m : Md} {pos p : Pos} {a : Expr} {es : List Expr} {fa : Env → Out D} {fr : Env → Out (List D)} {x : Str} {id T : String} {F : List D → Out D}
theorem pbx_nil : PBx X g E Γ [] Γ aN := by
  refine ⟨Le.refl _, pa_nil.imp fun σ H Q ⟨ρ, Hf, R, k⟩ => ?_⟩
  exact k Hf H (Same.refl _) (Same.refl _) R [] rfl
theorem pbx_cons (ha : PX X g E Γ a Γ1 .rd fa) (hr : PBx X g E Γ1 es Γ2 fr) (hs : starEach (a :: es) X.env = (false, eval a X.env) :: starEach es X.env := by rfl) : PBx X g E Γ (a :: es) Γ2 (aC fa fr) := by
  refine ⟨hr.le.trans ha.le, (pa_cons ha.pe hr.pe hs).imp fun σ H Q ⟨ρ, Hf, R, k⟩ => ⟨ρ, Hf, R, ?_⟩⟩
  refine tG.bind hr.le k fun x F1 H1 s1 s2 R1 k1 v hv => ⟨ρ, F1, R1, ?_⟩
  refine tG.bind (Le.refl _) k1 fun ys F2 H2 s3 s4 R2 k2 us hu => ?_
  exact k2 F2 H2 (Same.refl _) (Same.refl _) R2 (v :: us) ⟨v, us, rfl, IsR.mono s3 s4 hv, hu⟩
theorem px_callB (hc : CaD X (.builtin id) m F) (hg : Gl X x) (hm : X.mg x = none) (hv : bootBuiltins x = some (.builtin id)) (ha : PBx X g E Γ (a :: es) Γ1 fr) (hn : x ≠ "__name__" := by decide) (hdb : (x == ("__debug__" : Str)) = false := by decide)
    (he : starEach (a :: es) X.env = (false, eval a X.env) :: starEach es X.env := by rfl) (hpl : (backTo pos (starEach es X.env)).any (·.1) = false := by rfl) : PX X g E Γ (.Call (.Name x p) (a :: es) [] pos) Γ1 m (eA F fr) := by
  obtain ⟨r, hr, w⟩ := hc
  refine ⟨ha.le, (pe_callB hr hg hm hv ha.pe hn hdb he hpl).imp fun σ H Q ⟨ρ, Hf, R, k⟩ => ⟨ρ, Hf, R, ?_⟩⟩
  exact tG.bind (Le.refl _) k fun ds F1 H1 s1 s2 R1 k1 vs hv => w g E Γ1 ρ σ F1 H1 ds vs Q R1 hv k1
theorem px_callT (hc : CaD X (.type T) m F) (hg : Gl X x) (hm : X.mg x = none) (hv : bootBuiltins x = some (.type T)) (ha : PBx X g E Γ (a :: es) Γ1 fr) (hn : x ≠ "__name__" := by decide) (hdb : (x == ("__debug__" : Str)) = false := by decide)
    (he : starEach (a :: es) X.env = (false, eval a X.env) :: starEach es X.env := by rfl) (hpl : (backTo pos (starEach es X.env)).any (·.1) = false := by rfl) : PX X g E Γ (.Call (.Name x p) (a :: es) [] pos) Γ1 m (eA F fr) := by
  obtain ⟨r, hr, w⟩ := hc
  refine ⟨ha.le, (pe_callTy hr hg hm hv ha.pe hn hdb he hpl).imp fun σ H Q ⟨ρ, Hf, R, k⟩ => ⟨ρ, Hf, R, ?_⟩⟩
  exact tG.bind (Le.refl _) k fun ds F1 H1 s1 s2 R1 k1 vs hv => w g E Γ1 ρ σ F1 H1 ds vs Q R1 hv k1
theorem IsRs.one {K : PySem.W.Frag} {mg : Mg} {Hf H : Hp} {d : D} {vs : List V} (h : IsRs K mg Hf H [d] vs) : ∃ v, vs = [v] ∧ IsR K mg Hf H d v := by
  obtain ⟨v, us, e, q, rfl⟩ := h
  exact ⟨v, e, q⟩
theorem IsRs.two {K : PySem.W.Frag} {mg : Mg} {Hf H : Hp} {d e : D} {vs : List V} (h : IsRs K mg Hf H [d, e] vs) : ∃ v u, vs = [v, u] ∧ IsR K mg Hf H d v ∧ IsR K mg Hf H e u := by
  obtain ⟨v, us, e1, q, u, us', e2, q2, rfl⟩ := h
  exact ⟨v, u, by rw [e1, e2], q, q2⟩
theorem px_type (hg : Gl X x) (hm : X.mg x = none) (hv : bootBuiltins x = some (.type T)) (hn : x ≠ "__name__" := by decide) (hd : (x == ("__debug__" : Str)) = false := by decide) : PX X g E Γ (.Name x pos) Γ m (eC (.ty T)) :=
  .atom (pe_bltn (v := .ty T) hg hm hv rfl hn hd) rfl fun F v e => by simpa only [IsD] using e
noncomputable def cLen : List D → Out D
  | [.lst ds] => .ok (.int ds.length)
  | [.tup ds] => .ok (.int ds.length)
  | [.scr ns] => .ok (.int ns.length)
  | [.str z] => chk (z.length ≤ sizeLine) (.ok (.int z.length))
  | _ => .stuck
theorem CallR.or {u : Value} {r r' : List V → Hp → VK → Prop} (h : CallR X u r) (h' : CallR X u r') : CallR X u (fun x H Q => r x H Q ∨ r' x H Q) := by
  intro pins s σ H xs us Q I rx q
  rcases q with q | q
  · exact h pins s σ H xs us Q I rx q
  · exact h' pins s σ H xs us Q I rx q
theorem call_len_str' : CallR X (.builtin "len") (fun xs H Q => ∃ z : Str, xs = [.str z] ∧ z.length ≤ sizeLine ∧ Q (.int z.length) H) := by
  intro pins s σ H xs us Q I r h
  obtain ⟨z, rfl, l, q⟩ := h
  exact call_len pins s σ H _ us Q I r ⟨.str z, z.length, rfl, ⟨l, rfl⟩, q⟩
theorem ca_len : CaD X (.builtin "len") m cLen := by
  refine ⟨_, call_len_seq.or call_len_str', fun g E Γ ρ σ Hf H ds vs Q R h k => ?_⟩
  unfold cLen at k
  split at k
  · rename_i ds
    obtain ⟨v, rfl, p, xs, rfl, q, r⟩ := h.one
    rw [← r.len] at k
    exact .inl ⟨p, xs, rfl, .inl (.of q), k Hf H (Same.refl _) (Same.refl _) R _ (Res.dat R.same rfl (by simp only [IsD]))⟩
  · rename_i ds
    obtain ⟨v, rfl, z⟩ := h.one
    simp only [IsR, IsD] at z
    obtain ⟨p, xs, rfl, q, r⟩ := z
    rw [← r.len] at k
    exact .inl ⟨p, xs, rfl, .inr (Same.seqT R.same q), k Hf H (Same.refl _) (Same.refl _) R _ (Res.dat R.same rfl (by simp only [IsD]))⟩
  · rename_i ns
    obtain ⟨v, rfl, z⟩ := h.one
    simp only [IsR, IsD] at z
    obtain ⟨p, rfl, q⟩ := z
    refine .inl ⟨p, _, rfl, .inl (R.same.seq q), ?_⟩
    rw [List.length_map]
    exact k Hf H (Same.refl _) (Same.refl _) R _ (Res.dat R.same rfl (by simp only [IsD]))
  · rename_i z
    obtain ⟨v, rfl, e⟩ := h.one
    simp only [IsR, IsD] at e
    subst e
    by_cases l : z.length ≤ sizeLine
    · rw [chk_pos l] at k
      exact .inr ⟨z, rfl, l, k Hf H (Same.refl _) (Same.refl _) R _ (Res.dat R.same rfl (by simp only [IsD]))⟩
    · rw [chk_neg l] at k; exact k.elim
  · exact k.elim
def cMax2 : List D → Out D
  | [.int i, .int j] => .ok (.int (if j > i then j else i))
  | _ => .stuck
def cMin2 : List D → Out D
  | [.int i, .int j] => .ok (.int (if j < i then j else i))
  | _ => .stuck
theorem ca_max2 (hc : X.calm = true) : CaD X (.builtin "max") m cMax2 := by
  refine ⟨_, call_max2 hc, fun g E Γ ρ σ Hf H ds vs Q R h k => ?_⟩
  unfold cMax2 at k
  split at k
  · obtain ⟨v, u, rfl, q1, q2⟩ := h.two
    cases q1; cases q2
    exact ⟨_, _, rfl, k Hf H (Same.refl _) (Same.refl _) R _ (Res.dat R.same rfl (by simp only [IsD]))⟩
  · exact k.elim
def cAbs : List D → Out D
  | [.int i] => .ok (.int (if i < 0 then -i else i))
  | _ => .stuck
theorem ca_abs : CaD X (.builtin "abs") m cAbs := by
  refine ⟨_, call_abs, fun g E Γ ρ σ Hf H ds vs Q R h k => ?_⟩
  unfold cAbs at k
  split at k
  · obtain ⟨v, rfl, q1⟩ := h.one
    cases q1
    exact ⟨_, rfl, k Hf H (Same.refl _) (Same.refl _) R _ (Res.dat R.same rfl (by simp only [IsD]))⟩
  · exact k.elim
def cInt : List D → Out D
  | [.int i] => .ok (.int i)
  | [.bl b] => .ok (.int (if b then 1 else 0))
  | _ => .stuck
theorem ca_int : CaD X (.type "int") m cInt := by
  refine ⟨_, call_int1, fun g E Γ ρ σ Hf H ds vs Q R h k => ?_⟩
  unfold cInt at k
  split at k
  · obtain ⟨v, rfl, q1⟩ := h.one
    cases q1
    exact .inl ⟨_, rfl, k Hf H (Same.refl _) (Same.refl _) R _ (Res.dat R.same rfl (by simp only [IsD]))⟩
  · obtain ⟨v, rfl, q1⟩ := h.one
    cases q1
    exact .inr ⟨_, rfl, k Hf H (Same.refl _) (Same.refl _) R _ (Res.dat R.same rfl (by simp only [IsD]))⟩
  · exact k.elim
def tyName : D → Option String
  | .non => some "NoneType"
  | .bl _ => some "bool"
  | .int _ => some "int"
  | .str _ => some "str"
  | .tup _ => some "tuple"
  | .lst _ => some "list"
  | .scr _ => some "list"
  | _ => none
def cIsi : List D → Out D
  | [d, .ty t] => match tyName d with
    | some n => match kitB n t with
      | some b => .ok (.bl b)
      | none => .stuck
    | none => .stuck
  | _ => .stuck
theorem sq_ty {H : Hp} {a : Addr} {xs : List V} {K : PySem.W.Frag} (h : SqL K H a xs) : TyX K H (.ref a) (.type "list") := by
  rcases h with (h | ⟨o, h⟩) | ⟨o, its, n, e, c, _⟩
  · exact .base (.lst h)
  · exact .base (.frz h)
  · exact .kList e c
theorem tup_ty {H : Hp} {a : Addr} {xs : List V} {K : PySem.W.Frag} (h : SqT K H a xs) : TyX K H (.ref a) (.type "tuple") := by
  rcases h with (h | ⟨o, h⟩) | ⟨o, its, n, e, c, _⟩
  · exact .base (.tup h)
  · exact .fTuple h
  · exact .kTuple e c
theorem ty_of {K : PySem.W.Frag} {mg : Mg} {Hf H : Hp} {d : D} {v : V} {n : String} (s : Same Hf H) (h : IsR K mg Hf H d v) (e : tyName d = some n) : TyX K H v (.type n) := by
  cases d with
  | non => cases e; cases h; exact .base .non
  | bl b => cases e; cases h; exact .base (.bl b)
  | int i => cases e; cases h; exact .base (.int i)
  | str x => cases e; cases h; exact .base (.str x)
  | ty x => cases e
  | scr ns => cases e; simp only [IsR, IsD] at h; obtain ⟨a, rfl, q⟩ := h; exact sq_ty (s.seq q)
  | tup ds => cases e; simp only [IsR, IsD] at h; obtain ⟨a, xs, rfl, q, r⟩ := h; exact tup_ty (Same.seqT s q)
  | lst ds => cases e; obtain ⟨a, xs, rfl, q, r⟩ := h; exact .base (.lst q)
  | dic ds => cases e
  | ins c fs => cases e
  | adr a => cases e
  | exn c fs => cases e
  | cls c => cases e
theorem ca_isi : CaD X (.builtin "isinstance") m cIsi := by
  refine ⟨_, call_isi, fun g E Γ ρ σ Hf H ds vs Q R h k => ?_⟩
  unfold cIsi at k
  split at k
  · rename_i d t
    obtain ⟨v, u, rfl, q1, q2⟩ := h.two
    cases q2
    cases e : tyName d with
    | none => rw [e] at k; exact k.elim
    | some n =>
      rw [e] at k
      simp only at k
      cases e2 : kitB n t with
      | none => rw [e2] at k; exact k.elim
      | some b =>
        rw [e2] at k
        exact ⟨v, .ty t, .type n, .type t, b, rfl, .ty t, ty_of R.same q1 e, kit_ty e2, k Hf H (Same.refl _) (Same.refl _) R _ (Res.dat R.same rfl (by simp only [IsD]))⟩
  · exact k.elim
end
end PD

namespace PD
open PySem PySem.Spec L2
open PyProof.Rows hiding St

def leB : List Bool → List Bool → Bool
  | [], _ => true
  | a :: as, [] => !a && leB as []
  | a :: as, b :: bs => (!a || b) && leB as bs
theorem le_of : ∀ {a b : List Bool}, leB a b = true → Le a b
  | [], b, _, i, h => by unfold Own at h; simp at h
  | a :: as, [], e, i, h => by
    unfold leB at e
    simp only [Bool.and_eq_true] at e
    cases i with
    | zero =>
      unfold Own at h
      have h' : a = true := by simpa using h
      rw [h'] at e
      simp at e
    | succ i =>
      have h' : Own as i := by unfold Own at h ⊢; simpa using h
      have := le_of e.2 i h'
      unfold Own at this
      simp at this
  | a :: as, b :: bs, e, i, h => by
    unfold leB at e
    simp only [Bool.and_eq_true] at e
    cases i with
    | zero =>
      unfold Own at h ⊢
      have h' : a = true := by simpa using h
      have e1 := e.1
      rw [h'] at e1
      simpa using e1
    | succ i =>
      have h' : Own as i := by unfold Own at h ⊢; simpa using h
      have := le_of e.2 i h'
      unfold Own at this ⊢
      simpa using this

theorem no_own {a : List Bool} (h : leB a [] = true) : ∀ i, ¬ Own a i := fun i o => by
  have := le_of h i o
  unfold Own at this
  simp at this
theorem nxs_nil : ∀ F ∈ ([] : List (D → Env → Out Env)), ∀ d ρ x, F d ρ ≠ .exc x := fun F h => by cases h
theorem nxs_cons {F : D → Env → Out Env} {Fs : List (D → Env → Out Env)} (h : ∀ d ρ x, F d ρ ≠ .exc x) (t : ∀ F ∈ Fs, ∀ d ρ x, F d ρ ≠ .exc x) : ∀ F' ∈ F :: Fs, ∀ d ρ x, F' d ρ ≠ .exc x := fun F' m => by
  rcases List.mem_cons.mp m with rfl | m
  · exact h
  · exact t F' m
section
variable {X : Cx} {g : G} {E : WX} {ro : Bool} {Γl Γ Γ1 Γ2 Γ3 : List Bool} {m : Md} {pos p : Pos} {x : Str} {e : Expr} {es : List Expr} {k : Nat} {ps : List Str} {F : List D → Out D} {fa : Env → Out (List D)}
theorem px_callF (C : FnA X.prog X.w X.K X.mg X.base k x ps false F) (hr : Room k X.A) (hg : Gl X x) (tk : Takes X E) (ha : PAx X g E Γ (e :: es) Γ1 fa) (hdb : (x == ("__debug__" : Str)) = false := by decide)
    (he : starEach (e :: es) X.env = (false, eval e X.env) :: starEach es X.env := by rfl) (hpl : (backTo pos (starEach es X.env)).any (·.1) = false := by rfl) : PX X g E Γ (.Call (.Name x p) (e :: es) [] pos) Γ1 .fr (eA F fa) := px_call C hr hg tk ha hdb he hpl
theorem px_callO (C : FnA X.prog X.w X.K X.mg X.base k x ps true F) (hr : Room k X.A) (hg : Gl X x) (tk : Takes X E) (ha : PAx X g E Γ (e :: es) Γ1 fa) (hdb : (x == ("__debug__" : Str)) = false := by decide)
    (he : starEach (e :: es) X.env = (false, eval e X.env) :: starEach es X.env := by rfl) (hpl : (backTo pos (starEach es X.env)).any (·.1) = false := by rfl) : PX X g E Γ (.Call (.Name x p) (e :: es) [] pos) Γ1 .ow (eA F fa) := px_call C hr hg tk ha hdb he hpl
end

theorem bb_len : bootBuiltins "len" = some (.builtin "len") := by decide +kernel
theorem bb_max : bootBuiltins "max" = some (.builtin "max") := by decide +kernel
theorem bb_abs : bootBuiltins "abs" = some (.builtin "abs") := by decide +kernel
theorem bb_isinstance : bootBuiltins "isinstance" = some (.builtin "isinstance") := by decide +kernel
theorem bb_int : bootBuiltins "int" = some (.type "int") := by decide +kernel
theorem bb_tuple : bootBuiltins "tuple" = some (.type "tuple") := by decide +kernel
theorem bb_str : bootBuiltins "str" = some (.type "str") := by decide +kernel
theorem fnT_of {K : PySem.W.Frag} {h : Heap} {mg : Str → Option Value} {x : Str} {st : Stmt} {f : Addr} {oc : Value} {od an : Option Addr} {osl : Array (Option Value)} {kV doc pm cdv ct : Value} (X : K.In h) (G : h.Ns mainGlobals mg)
    (a : PySem.W.nsIn K mainGlobals x = some (some (.ref f))) (l : K.lookup f = some ⟨oc, od, .func (PySem.W.fnOf x x (defArgs st) (defBody st) (defScope st) .none kV doc pm an cdv ct), osl⟩)
    (c : PySem.W.codeIn K cdv x = true) (k : PySem.W.keepIn K (.ref f) = true) : FnT K mg x st :=
  ⟨⟨f, _, PySem.W.mg_of X G a, fun_mk (st := st) l c k⟩⟩
def spLaw (K : PySem.W.Frag) : Sp := fun vs H Q _ => ∃ (a : Addr) (ns : List Int), vs = [.ref a] ∧ SqL K H a (ns.map V.int) ∧ ns.length ≤ 63 ∧ (∀ z ∈ ns, Builtin.Int.intBits z ≤ 1048576) ∧ ∀ H', Q (.bl true) H'
theorem law_imp {K : PySem.W.Frag} {mg : Mg} {ro : Bool} {F : List D → Out D} (hF : ∀ ns : List Int, ns.length ≤ 63 → (∀ z ∈ ns, Builtin.Int.intBits z ≤ 1048576) → F [.scr ns] = .ok (.bl true)) (vs : List V) (H : Hp) (Q : VK) (E : XK) (h : spLaw K vs H Q E) : spD K mg ro F vs H Q E := by
  obtain ⟨a, ns, rfl, q, l, b, k⟩ := h
  refine ⟨[.scr ns], H, Same.refl _, by simp only [IsDs, IsD]; exact ⟨_, _, rfl, ⟨a, rfl, q⟩, rfl⟩, ?_⟩
  rw [hF ns l b]
  intro v Hf' H' _ _ _ _ r
  have : v = .bl true := by
    unfold RetRes at r
    cases ro <;> simpa [IsO, IsD] using r
  subst this
  exact k H'
theorem cx_no {P : Program} {w : World} {H : Hp} {s : Shared} {e : Value} {s' : Shared} (h : L2.CX P w [] H s (fun _ _ _ => False) e s') : False := by
  obtain ⟨_, _, _, _, _, _, _, _, _, _, _, _, z⟩ := h
  exact z
theorem law_end {P : Program} {w : World} {K : PySem.W.Frag} {mg : Str → Option Value} {k : Nat} {fa : Addr} {ro : Bool} {F : List D → Out D} {x : Str} {st : Stmt} (T : FnT K mg "law" st) (hfa : mg "law" = some (.ref fa))
    (hb : ∀ (kV doc pm : Value) (an : Option Addr) (cdv ct : Value) (us : List Value), us.length = 1 → bindArgs (PySem.W.fnOf "law" "law" (defArgs st) (defBody st) (defScope st) .none kV doc pm an cdv ct) ⟨us, []⟩ = pure ([x].zip us))
    (A : ∀ base : Heap, FnA P w K mg base k "law" [x] ro F)
    (hF : ∀ ns : List Int, ns.length ≤ 63 → (∀ z ∈ ns, Builtin.Int.intBits z ≤ 1048576) → F [.scr ns] = .ok (.bl true)) :
    ∃ fd : FuncData, (∀ (s : Shared) (v : Value), BindsTo s fd ⟨[v], []⟩ [(x, v)]) ∧ ∀ base : Heap, K.In base → base.Ns mainGlobals mg → FnOk P w K mg base (L2.CX P w) k fa fd [x] (spLaw K) := by
  obtain ⟨f, fd, e1, Fn⟩ := T.ex
  rw [hfa] at e1
  cases e1
  refine ⟨fd, fun s v => ?_, fun base _ _ => ?_⟩
  · obtain ⟨oc, od, kV, doc, pm, an, cdv, ct, osl, rfl, lk, hcd⟩ := Fn.ex
    exact .of_eq (hb kV doc pm an cdv ct [v] rfl)
  · obtain ⟨f', fd', e1, e2, e3, e4, oc', od', osl', lk'⟩ := (A base).ex
    rw [hfa] at e1
    cases e1
    obtain ⟨oc, od, kV, doc, pm, an, cdv, ct, osl, rfl, lk, hcd⟩ := Fn.ex
    rw [lk] at lk'
    cases lk'
    exact e4.imp (law_imp hF)
end PD

namespace PD
open PySem PySem.Spec L2
open PyProof.Rows hiding St
theorem sSeq_ap (f k : Env → SO) (ρ : Env) : sSeq f k ρ = (f ρ).andThen k := rfl
theorem sIf_ap (t : Env → Out Bool) (a b : Env → SO) (ρ : Env) : sIf t a b ρ = oS (t ρ) fun c => if c = true then a ρ else b ρ := rfl
theorem sSet_ap (i : Nat) (f : Env → Out D) (ρ : Env) : sSet i f ρ = oS (f ρ) fun d => .nx (ρ.set i (some d)) := rfl
theorem sRet_ap (f : Env → Out D) (ρ : Env) : sRet f ρ = oS (f ρ) .rt := rfl
theorem sExpr_ap (f : Env → Out D) (ρ : Env) : sExpr f ρ = oS (f ρ) fun _ => .nx ρ := rfl
theorem sAsg_ap (G : D → Env → Out Env) (f : Env → Out D) (ρ : Env) : sAsg G f ρ = oS (f ρ) fun d => oS (G d ρ) .nx := rfl
theorem sFor_ap (G : D → Env → Out Env) (it : Env → Out (List D)) (b : Env → SO) (ρ : Env) : sFor G it b ρ = oS (it ρ) fun ds => forL G b ds ρ := rfl
theorem sNx_ap (ρ : Env) : sNx ρ = .nx ρ := rfl
theorem sBk_ap (ρ : Env) : sBk ρ = .bk ρ := rfl
theorem sCt_ap (ρ : Env) : sCt ρ = .ct ρ := rfl
theorem sRetN_ap (ρ : Env) : sRetN ρ = .rt .non := rfl
theorem eC_ap (d : D) (ρ : Env) : eC d ρ = .ok d := rfl
theorem eV_0 (d : D) (ρ : Env) : eV 0 (some d :: ρ) = .ok d := rfl
theorem eV_s (i : Nat) (x : Option D) (ρ : Env) : eV (i + 1) (x :: ρ) = eV i ρ := by simp [eV]
theorem e2_ap (F : D → D → Out D) (a b : Env → Out D) (ρ : Env) : e2 F a b ρ = (a ρ).bind fun x => (b ρ).bind fun y => F x y := rfl
theorem e1_ap (F : D → Out D) (a : Env → Out D) (ρ : Env) : e1 F a ρ = (a ρ).bind F := rfl
theorem aN_ap (ρ : Env) : aN ρ = .ok [] := rfl
theorem aC_ap (a : Env → Out D) (r : Env → Out (List D)) (ρ : Env) : aC a r ρ = (a ρ).bind fun x => (r ρ).bind fun xs => .ok (x :: xs) := rfl
theorem eA_ap (F : List D → Out D) (a : Env → Out (List D)) (ρ : Env) : eA F a ρ = (a ρ).bind F := rfl
theorem tOf_ap (f : Env → Out D) (ρ : Env) : tOf f ρ = (f ρ).bind fun d => match d with
  | .bl b => .ok b
  | _ => .stuck := rfl
theorem bAnd_ap (s t : Env → Out Bool) (ρ : Env) : bAnd s t ρ = (s ρ).bind fun b => if b = true then t ρ else .ok false := rfl
theorem bOr_ap (s t : Env → Out Bool) (ρ : Env) : bOr s t ρ = (s ρ).bind fun b => if b = true then .ok true else t ρ := rfl
theorem bNot_ap (s : Env → Out Bool) (ρ : Env) : bNot s ρ = (s ρ).bind fun b => .ok (!b) := rfl
theorem vAnd_ap (a b : Env → Out D) (ρ : Env) : vAnd a b ρ = (a ρ).bind fun x => match x with
  | .bl c => if c = true then b ρ else .ok (.bl false)
  | _ => .stuck := rfl
theorem vOr_ap (a b : Env → Out D) (ρ : Env) : vOr a b ρ = (a ρ).bind fun x => match x with
  | .bl c => if c = true then .ok (.bl true) else b ρ
  | _ => .stuck := rfl
theorem vNot_ap (a : Env → Out D) (ρ : Env) : vNot a ρ = (a ρ).bind fun x => match x with
  | .bl c => .ok (.bl (!c))
  | _ => .stuck := rfl
theorem eIf_ap (t : Env → Out Bool) (a b : Env → Out D) (ρ : Env) : eIf t a b ρ = (t ρ).bind fun c => if c = true then a ρ else b ρ := rfl
theorem gN_ap (i : Nat) (d : D) (ρ : Env) : gN i d ρ = .ok (ρ.set i (some d)) := rfl
theorem gT_ap (gs : List (D → Env → Out Env)) (ds : List D) (ρ : Env) : gT gs (.tup ds) ρ = if ds.length = gs.length then (gs.zip ds).foldl (fun o p => o.bind (p.1 p.2)) (.ok ρ) else .stuck := rfl
theorem forL_cons (G : D → Env → Out Env) (b : Env → SO) (d : D) (ds : List D) (ρ : Env) : forL G b (d :: ds) ρ = oS (G d ρ) fun ρ1 => (b ρ1).turn fun r => forL G b ds r := rfl
theorem fnM_ap (n k : Nat) (b : Env → SO) (ds : List D) : fnM n k b ds = if ds.length = k then (b (ds.map some ++ List.replicate (n - k) none)).res else .stuck := rfl
theorem andThen_ite (c : Prop) [Decidable c] (a b : SO) (k : Env → SO) : (if c then a else b).andThen k = if c then a.andThen k else b.andThen k := by split <;> rfl
theorem turn_ite (c : Prop) [Decidable c] (a b : SO) (k : Env → SO) : (if c then a else b).turn k = if c then a.turn k else b.turn k := by split <;> rfl
theorem res_ite (c : Prop) [Decidable c] (a b : SO) : (if c then a else b).res = if c then a.res else b.res := by split <;> rfl
theorem bind_ite {α β : Type} (c : Prop) [Decidable c] (a b : Out α) (k : α → Out β) : (if c then a else b).bind k = if c then a.bind k else b.bind k := by split <;> rfl
theorem oS_ite {α : Type} (c : Prop) [Decidable c] (a b : Out α) (k : α → SO) : oS (if c then a else b) k = if c then oS a k else oS b k := by split <;> rfl
theorem iSeq_ap (f : Env → Out D) (ρ : Env) : iSeq f ρ = (f ρ).bind fun d => match d with
  | .lst ds => .ok ds
  | .tup ds => .ok ds
  | .scr ns => .ok (ns.map .int)
  | _ => .stuck := rfl
theorem iRange1_ap (f : Env → Out (List D)) (ρ : Env) : iRange1 f ρ = (f ρ).bind rng1 := rfl
theorem iRange2_ap (f : Env → Out (List D)) (ρ : Env) : iRange2 f ρ = (f ρ).bind rng2 := rfl
theorem mkLst_ok {ds : List D} (h : ds.length ≤ 16777216) : mkLst ds = .ok (.lst ds) := chk_pos h
theorem mkTup_ok {ds : List D} (h : ds.length ≤ 16777216) : mkTup ds = .ok (.tup ds) := chk_pos h
theorem mkTup_0 : mkTup [] = .ok (.tup []) := mkTup_ok (by simp)
theorem mkTup_1 (a : D) : mkTup [a] = .ok (.tup [a]) := mkTup_ok (by simp)
theorem mkTup_2 (a b : D) : mkTup [a, b] = .ok (.tup [a, b]) := mkTup_ok (by simp)
theorem mkTup_3 (a b c : D) : mkTup [a, b, c] = .ok (.tup [a, b, c]) := mkTup_ok (by simp)
theorem mkTup_4 (a b c d : D) : mkTup [a, b, c, d] = .ok (.tup [a, b, c, d]) := mkTup_ok (by simp)
theorem mkLst_0 : mkLst [] = .ok (.lst []) := mkLst_ok (by simp)
theorem mkLst_1 (a : D) : mkLst [a] = .ok (.lst [a]) := mkLst_ok (by simp)
theorem mkLst_2 (a b : D) : mkLst [a, b] = .ok (.lst [a, b]) := mkLst_ok (by simp)
theorem mkLst_3 (a b c : D) : mkLst [a, b, c] = .ok (.lst [a, b, c]) := mkLst_ok (by simp)
theorem mkLst_4 (a b c d : D) : mkLst [a, b, c, d] = .ok (.lst [a, b, c, d]) := mkLst_ok (by simp)
theorem dAdd_int (i j : Int) : dAdd (.int i) (.int j) = .ok (.int (i + j)) := rfl
theorem dSub_int (i j : Int) : dSub (.int i) (.int j) = .ok (.int (i - j)) := rfl
theorem dNeg_int (i : Int) : dNeg (.int i) = .ok (.int (-i)) := rfl
theorem dLe_int (i j : Int) : dLe (.int i) (.int j) = .ok (.bl (decide (i ≤ j))) := rfl
theorem dGt_int (i j : Int) : dGt (.int i) (.int j) = .ok (.bl (decide (j < i))) := rfl
theorem dEq_int (i j : Int) : dEq (.int i) (.int j) = .ok (.bl (decide (i = j))) := by
  unfold dEq
  rw [chk_pos ⟨rfl, rfl⟩]
  simp only [toPy, PyData.eqv]
  rw [Bool.beq_eq_decide_eq]
theorem dNe_int (i j : Int) : dNe (.int i) (.int j) = .ok (.bl (!decide (i = j))) := by
  unfold dNe
  rw [chk_pos ⟨rfl, rfl⟩]
  simp only [toPy, PyData.eqv]
  rw [Bool.beq_eq_decide_eq]
theorem cLen_scr (ns : List Int) : cLen [.scr ns] = .ok (.int ns.length) := rfl
theorem cLen_lst (ns : List D) : cLen [.lst ns] = .ok (.int ns.length) := rfl
theorem cLen_tup (ns : List D) : cLen [.tup ns] = .ok (.int ns.length) := rfl
theorem cInt_bl (b : Bool) : cInt [.bl b] = .ok (.int (if b then 1 else 0)) := rfl
theorem cInt_int (i : Int) : cInt [.int i] = .ok (.int i) := rfl
theorem cMax_int (i j : Int) : cMax2 [.int i, .int j] = .ok (.int (max i j)) := by
  show Out.ok (D.int (if j > i then j else i)) = _
  congr 2
  rw [Int.max_def]
  split <;> split <;> omega
theorem cMin_int (i j : Int) : cMin2 [.int i, .int j] = .ok (.int (min i j)) := by
  show Out.ok (D.int (if j < i then j else i)) = _
  congr 2
  rw [Int.min_def]
  split <;> split <;> omega
theorem cAbs_int (i : Int) : cAbs [.int i] = .ok (.int i.natAbs) := by
  show Out.ok (D.int (if i < 0 then -i else i)) = _
  congr 2
  split <;> omega
theorem cIsi_int (i : Int) : cIsi [.int i, .ty "int"] = .ok (.bl true) := rfl
theorem cIsi_int_bool (i : Int) : cIsi [.int i, .ty "bool"] = .ok (.bl false) := rfl
def Sz (n : Nat) (i : Int) : Prop := i.natAbs < 2 ^ n
theorem Sz.mono {n m : Nat} {i : Int} (h : Sz n i) (l : n ≤ m) : Sz m i := Nat.lt_of_lt_of_le h (Nat.pow_le_pow_right (by decide) l)
theorem Sz.mul {n m : Nat} {i j : Int} (h : Sz n i) (k : Sz m j) : Sz (n + m) (i * j) := by
  unfold Sz at *
  rw [Int.natAbs_mul, Nat.pow_add]
  exact Nat.mul_lt_mul'' h k
theorem Sz.add {n : Nat} {i j : Int} (h : Sz n i) (k : Sz n j) : Sz (n + 1) (i + j) := by
  unfold Sz at *
  rw [Nat.pow_succ]
  omega
theorem Sz.sub {n : Nat} {i j : Int} (h : Sz n i) (k : Sz n j) : Sz (n + 1) (i - j) := by
  unfold Sz at *
  rw [Nat.pow_succ]
  omega
theorem Sz.neg {n : Nat} {i : Int} (h : Sz n i) : Sz n (-i) := by
  unfold Sz at *
  omega
theorem dMul_int {n m : Nat} {i j : Int} (h : Sz n i) (k : Sz m j) (l : n + m ≤ 134217728) : dMul (.int i) (.int j) = .ok (.int (i * j)) := by
  exact chk_pos (mulx_ok h k l)
theorem dDiv_int {n : Nat} {i j : Int} (h : 0 < j) (k : Sz n j) (l : n ≤ 9000) : dDiv (.int i) (.int j) = .ok (.int (i / j)) := by
  refine chk_pos ?_
  cases n with
  | zero => unfold Sz at k; omega
  | succ n => exact wide_div h k (by omega) l
theorem dMod_int {i j : Int} (h : 0 < j) : dMod (.int i) (.int j) = .ok (.int (i % j)) := by
  exact chk_pos h
end PD

namespace PD
open PySem PySem.Spec L2
open PyProof.Rows hiding St

noncomputable def chkS (p : Prop) (o : SO) : SO := @ite _ p (Classical.propDecidable p) o .stuck
theorem chkS_pos {p : Prop} {o : SO} (h : p) : chkS p o = o := if_pos h
theorem chkS_neg {p : Prop} {o : SO} (h : ¬ p) : chkS p o = .stuck := if_neg h
section
variable {X : Cx} {g : G} {E : WX} {ro : Bool} {Γl Γ Γ1 Γ2 Γ3 : List Bool} {m : Md} {pos : Pos}
theorem Rp.wr {K : PySem.W.Frag} {mg : Mg} {ρ : Env} {σ : St} {Hf H : Hp} (R : Rp K mg g Γ ρ σ Hf H) {i : Nat} {d d' : D} {a : Addr} {o' : HO} (o : Own Γ i) (e : ρ[i]? = some (some d)) (md : d.mut = true) (es : σ[i]? = some (some (.ref a)))
    (z0 : g.H0 a = none) (zf : Hf a = none) (new : IsO K mg g.H0 Hf (upd H a o') d' (.ref a)) : Rp K mg g Γ (ρ.set i (some d')) σ Hf (upd H a o') := by
  have li : i < ρ.length := (List.getElem?_eq_some_iff.mp e).1
  refine ⟨fun b x q => ?_, fun b x q => ?_, R.ent2, R.news, R.len.setE _ _, fun j e' ow ej => ?_, fun j e' ow ej => ?_, fun j k e1 e2 v n o1 o2 q1 q2 m1 m2 s1 s2 => ?_⟩
  · rw [upd_ne (ne_of_none q zf)]; exact R.same _ _ q
  · rw [upd_ne (ne_of_none q z0)]; exact R.ent _ _ q
  · rcases set_get ej with ⟨rfl, _, rfl⟩ | ⟨nij, ej'⟩
    · exact ⟨_, es, new⟩
    · obtain ⟨v, ev, io⟩ := R.own j e' ow ej'
      refine ⟨v, ev, ?_⟩
      have key : ∀ b, v = .ref b → e'.mut = true → b ≠ a := fun b eb me z => by
        subst eb; subst z
        exact R.sep i j d e' _ nij o ow e ej' md me es ev
      cases e' with
      | lst ds => obtain ⟨b, xs, eb, w0, wf, q, r⟩ := io; exact ⟨b, xs, eb, w0, wf, by rw [upd_ne (key b eb rfl)]; exact q, r⟩
      | dic ds => obtain ⟨b, xs, eb, w0, wf, q, r⟩ := io; exact ⟨b, xs, eb, w0, wf, by rw [upd_ne (key b eb rfl)]; exact q, r⟩
      | ins c ds => obtain ⟨b, xs, eb, w0, wf, q, r⟩ := io; exact ⟨b, xs, eb, w0, wf, by rw [upd_ne (key b eb rfl)]; exact q, r⟩
      | _ => exact io
  · rcases set_get ej with ⟨rfl, _, rfl⟩ | ⟨nij, ej'⟩
    · exact absurd o ow
    · exact R.dat j e' ow ej'
  · rcases set_get q1 with ⟨rfl, _, rfl⟩ | ⟨n1, q1'⟩
    · rcases set_get q2 with ⟨rfl, _⟩ | ⟨n2, q2'⟩
      · exact n rfl
      · exact R.sep i k d e2 v n o1 o2 e q2' md m2 s1 s2
    · rcases set_get q2 with ⟨rfl, _, rfl⟩ | ⟨n2, q2'⟩
      · exact R.sep j i e1 d v n o1 o2 q1' e m1 md s1 s2
      · exact R.sep j k e1 e2 v n o1 o2 q1' q2' m1 m2 s1 s2
theorem IsDs.snoc {K : PySem.W.Frag} {mg : Mg} {H : Hp} {d : D} {v : V} : ∀ {ds : List D} {vs : List V}, IsDs K mg H ds vs → IsD K mg H d v → IsDs K mg H (ds ++ [d]) (vs ++ [v])
  | [], vs, h, k => by
    simp only [IsDs] at h
    subst h
    show IsDs K mg H [d] [v]
    simp only [IsDs]
    exact ⟨v, [], rfl, k, rfl⟩
  | x :: ds, vs, h, k => by
    simp only [IsDs, List.cons_append] at h ⊢
    obtain ⟨u, us, rfl, q, r⟩ := h
    exact ⟨u, us ++ [v], rfl, q, r.snoc k⟩
def onLst (i : Nat) (f : Env → Out D) (k : List D → D → Env → SO) : Env → SO := fun ρ => match ρ[i]? with
  | some (some (.lst xs)) => oS (f ρ) fun d => k xs d ρ
  | _ => .stuck
noncomputable def sApp (i : Nat) (f : Env → Out D) : Env → SO := onLst i f fun xs d ρ => chkS (xs.length < sizeLine) (.nx (ρ.set i (some (.lst (xs ++ [d])))))
theorem psx_append {i : Nat} {x : Str} {a : Expr} {p ap cp : Pos} {fa : Env → Out D} (h : PE X (.Name x p) (tVar i)) (ha : PX X g E Γ a Γ1 .fr fa) (o : Γ1.getD i false = true)
    (hbase : attributeBase (.Name x p) "append" X.env (eval (.Name x p) X.env) = eval (.Name x p) X.env := by rfl)
    (hfew : ((backTo cp (starEach (a :: []) X.env)).all (fun x => !x.1) && (backToKw cp (keywordEach [] X.env)).all (fun x => x.1.isSome)
      && decide ((a :: []).length + ([] : List Keyword).length + (if ([] : List Keyword).isEmpty then 0 else 1) < 30)) = true := by rfl)
    (hline : (ap.endLine == cp.line) = true := by rfl) (hs : starEach (a :: []) X.env = (false, eval a X.env) :: starEach [] X.env := by rfl) (hplain : (backTo cp (starEach [] X.env)).any (·.1) = false := by rfl)
    (hsw : swapsWith (.Call (.Attribute (.Name x p) "append" ap) [a] [] cp) none pos.line X.env = pure false := by rfl) :
    PSx X g E ro Γl Γ (.Expr (.Call (.Attribute (.Name x p) "append" ap) [a] [] cp) pos) Γ1 (sApp i fa) := by
  refine ⟨(ps_expr (pe_bm PySem.F.plainAttrs_list PySem.F.slot_list_append PySem.F.type_list_append mt_append h (pa_cons ha.pe pa_nil hs) hbase hfew hline hs hplain) hsw).imp fun Dn σ H ⟨ρ, Hf, R, q⟩ => ?_⟩
  unfold sApp onLst at q
  split at q
  · rename_i xs e
    simp only at q
    obtain ⟨v, es, io⟩ := R.own i _ (ha.le i o) e
    obtain ⟨p, ys, rfl, z0, zf, qH, r⟩ := io
    refine ⟨_, es, .inl ⟨rfl, ys, SqL.of qH⟩, ρ, Hf, R, ?_⟩
    refine tG.toS q fun d F1 H1 s1 s2 R1 k v hv => ?_
    obtain ⟨v', es', io'⟩ := R1.own i _ o e
    rw [es] at es'
    obtain rfl : V.ref p = v' := Option.some.inj (Option.some.inj es')
    obtain ⟨p', ys', ep, z0', zf', qH', r'⟩ := io'
    obtain rfl : p = p' := V.ref.inj ep
    by_cases l : xs.length < sizeLine
    · rw [chkS_pos l] at k
      refine ⟨p, ys', v, rfl, rfl, qH', by rw [r'.len]; exact l, ?_⟩
      exact k σ F1 _ (R1.wr o e rfl es z0' zf' ⟨p, _, rfl, z0', zf', upd_same, r'.snoc hv⟩)
    · rw [chkS_neg l] at k; exact k.elim
  · exact q.elim
def sPar (i j : Nat) (a b : Env → Out D) : Env → SO := fun ρ => oS (a ρ) fun x => oS (b ρ) fun y => .nx ((ρ.set i (some x)).set j (some y))
noncomputable def rng3 : List D → Out (List D)
  | [.int i, .int j, .int c] => chk (RgC i j c (Builtin.Range.rangeSize i j c).toNat) (.ok ((List.range (Builtin.Range.rangeSize i j c).toNat).map fun (n : Nat) => .int (i + n * c)))
  | _ => .stuck
noncomputable def iRange3 (f : Env → Out (List D)) : Env → Out (List D) := fun ρ => (f ρ).bind rng3
end
def eL (i : Nat) : Env → Out (List D) := fun ρ => match ρ[i]? with
  | some (some (.lst xs)) => .ok xs
  | _ => .stuck
theorem eL_0 (xs : List D) (ρ : Env) : eL 0 (some (.lst xs) :: ρ) = .ok xs := rfl
theorem eL_s (i : Nat) (x : Option D) (ρ : Env) : eL (i + 1) (x :: ρ) = eL i ρ := by simp [eL]
theorem onLst_ap (i : Nat) (f : Env → Out D) (k : List D → D → Env → SO) (ρ : Env) : onLst i f k ρ = oS (eL i ρ) fun xs => oS (f ρ) fun d => k xs d ρ := by
  unfold onLst eL
  split
  · rename_i xs e
    simp only [oS_ok]
  · rfl
theorem sApp_ap (i : Nat) (f : Env → Out D) (ρ : Env) : sApp i f ρ = oS (eL i ρ) fun xs => oS (f ρ) fun d => chkS (xs.length < sizeLine) (.nx (ρ.set i (some (.lst (xs ++ [d]))))) := onLst_ap i f _ ρ
theorem sPar_ap (i j : Nat) (a b : Env → Out D) (ρ : Env) : sPar i j a b ρ = oS (a ρ) fun x => oS (b ρ) fun y => .nx ((ρ.set i (some x)).set j (some y)) := rfl
theorem iRange3_ap (f : Env → Out (List D)) (ρ : Env) : iRange3 f ρ = (f ρ).bind rng3 := rfl
theorem gT_lst (gs : List (D → Env → Out Env)) (ds : List D) (ρ : Env) : gT gs (.lst ds) ρ = if ds.length = gs.length then (gs.zip ds).foldl (fun o p => o.bind (p.1 p.2)) (.ok ρ) else .stuck := rfl
end PD

namespace PD
open PySem PySem.Spec L2
open PyProof.Rows hiding St

structure POx (X : Cx) (g : G) (E : WX) (Γ : List Bool) (e : Option Expr) (Γ' : List Bool) (f : Env → Out (Option Int)) : Prop where
  le : Le Γ' Γ
  po : PO X e (fun σ H Q => ∃ ρ Hf, Rp X.K X.mw g Γ ρ σ Hf H ∧ tG X.K X.mw g E Γ' ρ σ Hf H (fun o _ H' => Q o H') (f ρ))
theorem _root_.L2.PO.imp {X : Cx} {e : Option Expr} {t t' : TO} (h : PO X e t) (w : ∀ σ H Q, t' σ H Q → t σ H Q) : PO X e t' :=
  ⟨fun pins s σ H Q I q => h.run pins s σ H Q I (w σ H Q q)⟩
def oN : Env → Out (Option Int) := fun _ => .ok none
def oI (f : Env → Out D) : Env → Out (Option Int) := fun ρ => (f ρ).bind fun d => match d with
  | .int i => .ok (some i)
  | _ => .stuck
def cutD {α : Type} (xs : List α) (lo hi : Option Int) : List α := (xs.drop (HT.sIx xs.length 0 lo)).take (HT.sIx xs.length xs.length hi - HT.sIx xs.length 0 lo)
noncomputable def dSl : D → Option Int → Option Int → Out D
  | .lst ds, lo, hi => .ok (.lst (cutD ds lo hi))
  | .tup ds, lo, hi => .ok (.tup (cutD ds lo hi))
  | .scr ns, lo, hi => .ok (.lst ((cutD ns lo hi).map .int))
  | .str z, lo, hi => chk (z.length ≤ sizeLine) (.ok (.str (cutS z lo hi)))
  | _, _, _ => .stuck
noncomputable def eSl (f : Env → Out D) (lo hi : Env → Out (Option Int)) : Env → Out D := fun ρ => (f ρ).bind fun x => (lo ρ).bind fun l => (hi ρ).bind fun u => dSl x l u
def pickL {α : Type} (xs : List α) (lo hi st : Option Int) : List α := (sliceRange (sliceBounds lo hi st xs.length).1 (sliceBounds lo hi st xs.length).2.1 (sliceBounds lo hi st xs.length).2.2).filterMap fun i => xs[i]?
noncomputable def dSlSt : D → Option Int → Option Int → Option Int → Out D
  | .lst ds, lo, hi, st => chk (st ≠ some 0) (.ok (.lst (pickL ds lo hi st)))
  | _, _, _, _ => .stuck
noncomputable def eSlSt (f : Env → Out D) (lo hi st : Env → Out (Option Int)) : Env → Out D := fun ρ => (f ρ).bind fun x => (lo ρ).bind fun l => (hi ρ).bind fun u => (st ρ).bind fun s => dSlSt x l u s
section
variable {K : PySem.W.Frag} {mg : Mg} {H : Hp}
theorem IsDs.drop : ∀ (n : Nat) {ds : List D} {vs : List V}, IsDs K mg H ds vs → IsDs K mg H (ds.drop n) (vs.drop n)
  | 0, _, _, h => h
  | n + 1, [], _, h => by simp only [IsDs] at h; subst h; simp [IsDs]
  | n + 1, d :: ds, _, h => by
    simp only [IsDs] at h
    obtain ⟨v, vs, rfl, q, r⟩ := h
    exact IsDs.drop n r
theorem IsDs.take : ∀ (n : Nat) {ds : List D} {vs : List V}, IsDs K mg H ds vs → IsDs K mg H (ds.take n) (vs.take n)
  | 0, _, _, h => by simp [IsDs]
  | n + 1, [], _, h => by simp only [IsDs] at h; subst h; simp [IsDs]
  | n + 1, d :: ds, _, h => by
    simp only [IsDs] at h
    obtain ⟨v, vs, rfl, q, r⟩ := h
    rw [List.take_succ_cons, List.take_succ_cons]
    simp only [IsDs]
    exact ⟨v, _, rfl, q, IsDs.take n r⟩
theorem IsDs.cut {ds : List D} {vs : List V} (h : IsDs K mg H ds vs) (lo hi : Option Int) : IsDs K mg H (cutD ds lo hi) (cutV vs lo hi) := by
  unfold cutD cutV
  rw [h.len]
  exact IsDs.take _ (IsDs.drop _ h)
end
section
variable {X : Cx} {g : G} {E : WX} {Γ Γ1 Γ2 Γ3 Γ4 : List Bool} {m : Md} {pos p2 : Pos} {a : Expr} {lo hi st : Option Expr} {fa : Env → Out D} {fl fu fs : Env → Out (Option Int)}
theorem pox_none : POx X g E Γ none Γ oN := by
  refine ⟨Le.refl _, po_none.imp fun σ H Q ⟨ρ, Hf, R, k⟩ => ?_⟩
  exact k Hf H (Same.refl _) (Same.refl _) R
theorem pox_some (h : PX X g E Γ a Γ1 .rd fa) : POx X g E Γ (some a) Γ1 (oI fa) := by
  refine ⟨h.le, (po_some h.pe).imp fun σ H Q ⟨ρ, Hf, R, k⟩ => ⟨ρ, Hf, R, ?_⟩⟩
  refine tG.bind (Le.refl _) k fun x F1 H1 s1 s2 R1 k1 v hv => ?_
  cases x with
  | int i =>
    simp only [Res, IsR, IsD] at hv
    exact ⟨i, hv, k1 F1 H1 (Same.refl _) (Same.refl _) R1⟩
  | _ => exact k1.elim
theorem px_slice (ha : PX X g E Γ a Γ1 .rd fa) (hl : POx X g E Γ1 lo Γ2 fl) (hu : POx X g E Γ2 hi Γ3 fu) : PX X g E Γ (.Subscript a (.Slice lo hi none p2) pos) Γ3 m (eSl fa fl fu) := by
  refine ⟨hu.le.trans (hl.le.trans ha.le), (pe_slice (sl_list.or (sl_tupA.or sl_str)) ha.pe hl.po hu.po).imp fun σ H Q ⟨ρ, Hf, R, k⟩ => ⟨ρ, Hf, R, ?_⟩⟩
  refine tG.bind (hu.le.trans hl.le) k fun x F1 H1 s1 s2 R1 k1 v hv => ⟨ρ, F1, R1, ?_⟩
  refine tG.bind hu.le k1 fun l F2 H2 s3 s4 R2 k2 => ⟨ρ, F2, R2, ?_⟩
  refine tG.bind (Le.refl _) k2 fun u F3 H3 s5 s6 R3 k3 => ?_
  replace hv := IsR.mono (s3.trans s5) (s4.trans s6) hv
  unfold dSl at k3
  split at k3
  · rename_i _ _ ds
    obtain ⟨p, xs, rfl, q, r⟩ := hv
    exact .inl ⟨p, xs, rfl, .of q, fun p n => pv_lst R3 (r.cut _ _) n k3⟩
  · rename_i _ _ ds
    have hv' := hv
    simp only [IsR, IsD] at hv
    obtain ⟨p, xs, rfl, q, r⟩ := hv
    refine .inr (.inl ⟨p, xs, rfl, Same.seqT R3.same q, fun w => ?_, fun _ p n => pv_tup R3 (r.cut _ _) n k3⟩)
    have e : cutD ds l u = ds := by
      unfold cutD
      rw [← r.len, w.1, w.2, List.drop_zero, Nat.sub_zero, List.take_of_length_le (by rw [r.len]; exact Nat.le_refl _)]
    rw [e] at k3
    exact k3 F3 H3 (Same.refl _) (Same.refl _) R3 _ (Res.dat R3.same rfl hv')
  · rename_i _ _ ns
    simp only [IsR, IsD] at hv
    obtain ⟨p, rfl, q⟩ := hv
    refine .inl ⟨p, _, rfl, R3.same.seq q, fun p n => pv_lst R3 ?_ n k3⟩
    have e : cutV (ns.map V.int) l u = (cutD ns l u).map V.int := by
      unfold cutV cutD
      rw [List.length_map, List.map_take, List.map_drop]
    rw [e]
    exact IsDs.ints _
  · rename_i _ _ z
    simp only [IsR, IsD] at hv
    by_cases c : z.length ≤ sizeLine
    · rw [chk_pos c] at k3
      exact .inr (.inr ⟨z, hv, c, k3 F3 H3 (Same.refl _) (Same.refl _) R3 _ (Res.dat R3.same rfl (by simp only [IsD]))⟩)
    · rw [chk_neg c] at k3; exact k3.elim
  · exact k3.elim
def cList : List D → Out D
  | [.lst ds] => .ok (.lst ds)
  | [.tup ds] => .ok (.lst ds)
  | [.scr ns] => .ok (.lst (ns.map .int))
  | _ => .stuck
def cTuple : List D → Out D
  | [.lst ds] => .ok (.tup ds)
  | [.tup ds] => .ok (.tup ds)
  | [.scr ns] => .ok (.tup (ns.map .int))
  | _ => .stuck
theorem ca_tuple : CaD X (.type "tuple") m cTuple := by
  refine ⟨_, call_tuple_of, fun g E Γ ρ σ Hf H ds vs Q R h k => ?_⟩
  unfold cTuple at k
  split at k
  · obtain ⟨v, rfl, p, xs, rfl, q, r⟩ := h.one
    exact ⟨p, xs, rfl, .inl ⟨.of q, fun l n => pv_tup R r n k⟩⟩
  · obtain ⟨v, rfl, z'⟩ := h.one
    have z := z'
    simp only [IsR, IsD] at z
    obtain ⟨p, xs, rfl, q, r⟩ := z
    exact ⟨p, xs, rfl, .inr ⟨Same.seqT R.same q, k Hf H (Same.refl _) (Same.refl _) R _ (Res.dat R.same rfl z')⟩⟩
  · obtain ⟨v, rfl, z⟩ := h.one
    simp only [IsR, IsD] at z
    obtain ⟨p, rfl, q⟩ := z
    exact ⟨p, _, rfl, .inl ⟨R.same.seq q, fun l n => pv_tup R (IsDs.ints _) n k⟩⟩
  · exact k.elim
def eS2 (F : Str → Str → D) (fa fb : Env → Out D) : Env → Out D := fun ρ => (fa ρ).bind fun x => match x with
  | .str a => (fb ρ).bind fun y => match y with
    | .str b => .ok (F a b)
    | _ => .stuck
  | _ => .stuck
end
end PD

namespace PD
open PySem PySem.Spec L2
open PyProof.Rows hiding St

def wipeE (ρ : Env) : List Nat → Env
  | [] => ρ
  | v :: vs => (wipeE ρ vs).set v none
def Out.nox {α : Type} (o : Out α) : Out α := match o with
  | .exc _ => .stuck
  | o => o
@[simp] theorem nox_ok {α : Type} (a : α) : (Out.ok a).nox = .ok a := rfl
@[simp] theorem nox_stuck {α : Type} : (Out.stuck : Out α).nox = .stuck := rfl
@[simp] theorem nox_exc {α : Type} (x : Exn) : (Out.exc x : Out α).nox = .stuck := rfl
def lcL (G : D → Env → Out Env) (tt : Env → Out Bool) (f : Env → Out D) (ρ : Env) : List D → Out (List D)
  | [] => .ok []
  | d :: ds => (G d ρ).nox.bind fun ρ1 => (tt ρ1).nox.bind fun b => if b = true then (f ρ1).nox.bind fun y => (lcL G tt f ρ ds).bind fun ys => .ok (y :: ys) else lcL G tt f ρ ds
noncomputable def eLc (vs : List Nat) (G : D → Env → Out Env) (it : Env → Out (List D)) (tt : Env → Out Bool) (f : Env → Out D) : Env → Out D := fun ρ => (it ρ).bind fun ds => chk (ds.length ≤ sizeLine) ((lcL G tt f (wipeE ρ vs) ds).bind fun ys => .ok (.lst ys))
def bYes : Env → Out Bool := fun _ => .ok true
theorem lcL_nx {G : D → Env → Out Env} {tt : Env → Out Bool} {f : Env → Out D} {ρ : Env} : ∀ (ds : List D) (x : Exn), lcL G tt f ρ ds ≠ .exc x
  | [], x, h => by cases h
  | d :: ds, x, h => by
    unfold lcL at h
    cases hG : G d ρ with
    | exc y => rw [hG] at h; cases h
    | stuck => rw [hG] at h; cases h
    | ok ρ1 =>
      rw [hG] at h
      simp only [nox_ok, Out.bind_ok] at h
      cases ht : tt ρ1 with
      | exc y => rw [ht] at h; cases h
      | stuck => rw [ht] at h; cases h
      | ok b =>
        rw [ht] at h
        simp only [nox_ok, Out.bind_ok] at h
        cases b with
        | false => simp only [Bool.false_eq_true, if_false] at h; exact lcL_nx ds x h
        | true =>
          simp only [if_true] at h
          cases hf : f ρ1 with
          | exc y => rw [hf] at h; cases h
          | stuck => rw [hf] at h; cases h
          | ok y =>
            rw [hf] at h
            simp only [nox_ok, Out.bind_ok] at h
            cases hl : lcL G tt f ρ ds with
            | ok ys => rw [hl] at h; cases h
            | exc z => exact lcL_nx ds z hl
            | stuck => rw [hl] at h; cases h
theorem lcL_ok {G : D → Env → Out Env} {tt : Env → Out Bool} {f : Env → Out D} {ρ : Env} {d : D} {ds rest : List D} (h : lcL G tt f ρ (d :: ds) = .ok rest) :
    ∃ ρ1 b, G d ρ = .ok ρ1 ∧ tt ρ1 = .ok b ∧ ((b = true ∧ ∃ y ys, f ρ1 = .ok y ∧ lcL G tt f ρ ds = .ok ys ∧ rest = y :: ys) ∨ (b = false ∧ lcL G tt f ρ ds = .ok rest)) := by
  unfold lcL at h
  cases hG : G d ρ with
  | exc y => rw [hG] at h; cases h
  | stuck => rw [hG] at h; cases h
  | ok ρ1 =>
    rw [hG] at h
    simp only [nox_ok, Out.bind_ok] at h
    cases ht : tt ρ1 with
    | exc y => rw [ht] at h; cases h
    | stuck => rw [ht] at h; cases h
    | ok b =>
      rw [ht] at h
      simp only [nox_ok, Out.bind_ok] at h
      refine ⟨ρ1, b, rfl, ht, ?_⟩
      cases b with
      | false => simp only [Bool.false_eq_true, if_false] at h; exact .inr ⟨rfl, h⟩
      | true =>
        simp only [if_true] at h
        cases hf : f ρ1 with
        | exc y => rw [hf] at h; cases h
        | stuck => rw [hf] at h; cases h
        | ok y =>
          rw [hf] at h
          simp only [nox_ok, Out.bind_ok] at h
          cases hl : lcL G tt f ρ ds with
          | ok ys => rw [hl] at h; cases h; exact .inl ⟨rfl, y, ys, rfl, rfl, rfl⟩
          | exc z => rw [hl] at h; cases h
          | stuck => rw [hl] at h; cases h
theorem wipeE_at {ρ : Env} {i : Nat} {d : D} : ∀ {vs : List Nat}, (wipeE ρ vs)[i]? = some (some d) → ρ[i]? = some (some d) ∧ i ∉ vs
  | [], h => ⟨h, by simp⟩
  | v :: vs, h => by
    unfold wipeE at h
    by_cases hi : v = i
    · subst hi
      by_cases hv : v < (wipeE ρ vs).length
      · rw [List.getElem?_set_self hv] at h; cases h
      · rw [List.getElem?_eq_none (by simpa using hv)] at h; cases h
    · rw [List.getElem?_set_ne hi] at h
      obtain ⟨h1, h2⟩ := wipeE_at h
      exact ⟨h1, by simp only [List.mem_cons, not_or]; exact ⟨fun e => hi e.symm, h2⟩⟩
theorem wipeE_ne {ρ : Env} {i : Nat} : ∀ {vs : List Nat}, i ∉ vs → (wipeE ρ vs)[i]? = ρ[i]?
  | [], _ => rfl
  | v :: vs, h => by
    simp only [List.mem_cons, not_or] at h
    unfold wipeE
    rw [List.getElem?_set_ne (fun e => h.1 e.symm), wipeE_ne h.2]
theorem wipeE_len {ρ : Env} : ∀ vs : List Nat, (wipeE ρ vs).length = ρ.length
  | [] => rfl
  | v :: vs => by unfold wipeE; rw [List.length_set, wipeE_len vs]
theorem wipe_ne {σ : St} {i : Nat} : ∀ {vs : List Nat}, i ∉ vs → (wipe σ vs)[i]? = σ[i]?
  | [], _ => rfl
  | v :: vs, h => by
    simp only [List.mem_cons, not_or] at h
    unfold wipe
    rw [List.getElem?_set_ne (fun e => h.1 e.symm), wipe_ne h.2]
theorem wipe_in {σ σ' : St} (l : σ'.length = σ.length) {i : Nat} : ∀ {vs : List Nat}, i ∈ vs → (wipe σ' vs)[i]? = (wipe σ vs)[i]?
  | v :: vs, h => by
    unfold wipe
    by_cases e : v = i
    · subst e
      rw [List.getElem?_set, List.getElem?_set, if_pos rfl, if_pos rfl, wipe_length, wipe_length, l]
    · rw [List.getElem?_set_ne e, List.getElem?_set_ne e]
      rcases List.mem_cons.mp h with h | h
      · exact absurd h.symm e
      · exact wipe_in l h
theorem wipe_same {σ σ' : St} {vs : List Nat} (l : σ'.length = σ.length) (h : ∀ i, i ∉ vs → σ'[i]? = (wipe σ vs)[i]?) : wipe σ' vs = wipe σ vs := by
  refine List.ext_getElem? fun i => ?_
  by_cases m : i ∈ vs
  · exact wipe_in l m
  · rw [wipe_ne m, h i m]
section
variable {K : PySem.W.Frag} {mg : Mg} {g g' : G} {Γ : List Bool} {ρ ρ1 : Env} {σ σ2 : St} {Hf H Hf' H' : Hp} {vs : List Nat}
theorem Rp.wipe (R : Rp K mg g Γ ρ σ Hf H) (vs : List Nat) : Rp K mg ⟨g.H0, g.F0, none⟩ Γ (wipeE ρ vs) (L2.wipe σ vs) Hf H := by
  have s : ∀ {i d v}, (wipeE ρ vs)[i]? = some (some d) → σ[i]? = v → (L2.wipe σ vs)[i]? = v := fun {i d v} e e2 => by rw [wipe_ne (wipeE_at e).2]; exact e2
  have s' : ∀ {i v}, (L2.wipe σ vs)[i]? = some (some v) → σ[i]? = some (some v) := fun {i v} e => (wipe_some e).1
  refine ⟨R.same, R.ent, R.ent2, R.news, ⟨by rw [wipe_length, wipeE_len, R.len.1], fun a e => by cases e⟩, fun i d o e => ?_, fun i d o e => ?_, fun i j d e v n o1 o2 e1 e2 m1 m2 s1 s2 => ?_⟩
  · obtain ⟨v, ev, h⟩ := R.own i d o (wipeE_at e).1
    exact ⟨v, s e ev, h⟩
  · obtain ⟨v, ev, h⟩ := R.dat i d o (wipeE_at e).1
    exact ⟨v, s e ev, h⟩
  · exact R.sep i j d e v n o1 o2 (wipeE_at e1).1 (wipeE_at e2).1 m1 m2 (s' s1) (s' s2)
theorem Rp.unwipe (R : Rp K mg g Γ ρ σ Hf H) (R' : Rp K mg g' Γ ρ1 σ2 Hf' H') (s1 : Same Hf Hf') (s2 : Same H H') (ef : g'.F0 = Hf) (eh : ∀ a, g'.H0 a = none → g.H0 a = none) (a1 : ∀ i, i ∉ vs → ρ1[i]? = ρ[i]?) (a2 : ∀ i, i ∉ vs → σ2[i]? = σ[i]?)
    (no : ∀ i ∈ vs, ¬ Own Γ i) : Rp K mg g Γ ρ σ Hf' H' := by
  refine ⟨R'.same, R.ent.trans s2, R.ent2.trans s1, fun a o e => ?_, R.len, fun i d o e => ?_, fun i d o e => ?_, R.sep⟩
  · rcases R'.news a o e with z | z
    · rw [ef] at z; exact R.news a o z
    · exact .inr (eh a z)
  · have ni : i ∉ vs := fun z => no i z o
    obtain ⟨v, ev, h⟩ := R'.own i d o (by rw [a1 i ni]; exact e)
    rw [a2 i ni] at ev
    refine ⟨v, ev, ?_⟩
    cases d with
    | lst ds => obtain ⟨a, xs, e, z0, zf, q, r⟩ := h; exact ⟨a, xs, e, eh a z0, zf, q, r⟩
    | dic ds => obtain ⟨a, xs, e, z0, zf, q, r⟩ := h; exact ⟨a, xs, e, eh a z0, zf, q, r⟩
    | ins c ds => obtain ⟨a, xs, e, z0, zf, q, r⟩ := h; exact ⟨a, xs, e, eh a z0, zf, q, r⟩
    | _ => exact h
  · obtain ⟨v, ev, h⟩ := R.dat i d o e
    exact ⟨v, ev, h.mono s1⟩
theorem Rp.other (R : Rp K mg g Γ ρ σ Hf H) {a : Addr} {o' : HO} (z0 : g.H0 a = none) (zf : Hf a = none) (ap : ∀ i e, Own Γ i → ρ[i]? = some (some e) → e.mut = true → σ[i]? = some (some (.ref a)) → False) : Rp K mg g Γ ρ σ Hf (upd H a o') := by
  refine ⟨fun b x q => ?_, fun b x q => ?_, R.ent2, R.news, R.len, fun j e' ow ej => ?_, R.dat, R.sep⟩
  · rw [upd_ne (ne_of_none q zf)]; exact R.same _ _ q
  · rw [upd_ne (ne_of_none q z0)]; exact R.ent _ _ q
  · obtain ⟨v, ev, io⟩ := R.own j e' ow ej
    refine ⟨v, ev, ?_⟩
    cases e' with
    | lst ds => obtain ⟨b, xs, eb, w0, wf, q, r⟩ := io; exact ⟨b, xs, eb, w0, wf, by rw [upd_ne (fun z => by subst eb; subst z; exact ap j _ ow ej rfl ev)]; exact q, r⟩
    | dic ds => obtain ⟨b, xs, eb, w0, wf, q, r⟩ := io; exact ⟨b, xs, eb, w0, wf, by rw [upd_ne (fun z => by subst eb; subst z; exact ap j _ ow ej rfl ev)]; exact q, r⟩
    | ins c ds => obtain ⟨b, xs, eb, w0, wf, q, r⟩ := io; exact ⟨b, xs, eb, w0, wf, by rw [upd_ne (fun z => by subst eb; subst z; exact ap j _ ow ej rfl ev)]; exact q, r⟩
    | _ => exact io
theorem Rp.enter (R : Rp K mg g Γ ρ σ Hf H) {a : Addr} {o : HO} (z0 : g.H0 a = none) (e : H a = some o) (ap : ∀ i e, Own Γ i → ρ[i]? = some (some e) → e.mut = true → σ[i]? = some (some (.ref a)) → False) : Rp K mg ⟨upd g.H0 a o, Hf, none⟩ Γ ρ σ Hf H := by
  refine ⟨R.same, fun b x q => ?_, Same.refl _, fun b x q => .inl q, ⟨R.len.1, fun b e => by cases e⟩, fun j e' ow ej => ?_, R.dat, R.sep⟩
  · by_cases h : b = a
    · subst h
      have q' : upd g.H0 b o b = some x := q
      rw [upd_same] at q'
      rw [e, q']
    · have q' : upd g.H0 a o b = some x := q
      rw [upd_ne h] at q'
      exact R.ent _ _ q'
  · obtain ⟨v, ev, io⟩ := R.own j e' ow ej
    refine ⟨v, ev, ?_⟩
    cases e' with
    | lst ds => obtain ⟨b, xs, eb, w0, wf, q, r⟩ := io; exact ⟨b, xs, eb, (upd_ne (fun z => by subst eb; subst z; exact ap j _ ow ej rfl ev)).trans w0, wf, q, r⟩
    | dic ds => obtain ⟨b, xs, eb, w0, wf, q, r⟩ := io; exact ⟨b, xs, eb, (upd_ne (fun z => by subst eb; subst z; exact ap j _ ow ej rfl ev)).trans w0, wf, q, r⟩
    | ins c ds => obtain ⟨b, xs, eb, w0, wf, q, r⟩ := io; exact ⟨b, xs, eb, (upd_ne (fun z => by subst eb; subst z; exact ap j _ ow ej rfl ev)).trans w0, wf, q, r⟩
    | _ => exact io
end
structure PTsx (X : Cx) (g : G) (E : WX) (Γ : List Bool) (e : List Expr) (Γ' : List Bool) (f : Env → Out Bool) : Prop where
  le : Le Γ' Γ
  pe : PTs X e (fun σ H Q => ∃ ρ Hf, Rp X.K X.mw g Γ ρ σ Hf H ∧ tG X.K X.mw g E Γ' ρ σ Hf H (fun b _ H' => Q b H') (f ρ))
theorem _root_.L2.PTs.imp {X : Cx} {e : List Expr} {t t' : TT} (h : PTs X e t) (w : ∀ σ H Q, t' σ H Q → t σ H Q) : PTs X e t' :=
  ⟨fun pins s σ H Q I q => h.run pins s σ H Q I (w σ H Q q)⟩
abbrev E0 : WX := fun _ _ _ _ => False
section
variable {X : Cx} {g : G} {E : WX} {Γ Γ1 Γ2 : List Bool} {pos : Pos}
theorem ptsx_nil : PTsx X g E Γ [] Γ bYes := by
  refine ⟨Le.refl _, pts_nil.imp fun σ H Q ⟨ρ, Hf, R, k⟩ => ?_⟩
  exact k Hf H (Same.refl _) (Same.refl _) R
abbrev hG (X : Cx) (Γ2 : List Bool) (G' : D → Env → Out Env) (ws : List Nat) : TG := fun v σ H Q => ∃ (g : G), ∃ d ρ Hf, Rp X.K X.mw g Γ2 ρ σ Hf H ∧ IsD X.K X.mw Hf d v ∧ ∃ ρ', G' d ρ = .ok ρ' ∧ ∀ σ', (∀ i, i ∉ ws → σ'[i]? = σ[i]?) → Rp X.K X.mw g Γ2 ρ' σ' Hf H → Q σ' H
abbrev hT (X : Cx) (Γ2 : List Bool) (tt : Env → Out Bool) : TT := fun σ H Q => ∃ (g : G), ∃ ρ Hf, Rp X.K X.mw g Γ2 ρ σ Hf H ∧ tG X.K X.mw g E0 Γ2 ρ σ Hf H (fun b _ H' => Q b H') (tt ρ)
abbrev hE (X : Cx) (Γ2 : List Bool) (f : Env → Out D) : TE := fun σ H Q => ∃ (g : G), ∃ ρ Hf, Rp X.K X.mw g Γ2 ρ σ Hf H ∧ tG X.K X.mw g E0 Γ2 ρ σ Hf H (PV X g Γ2 ρ σ .fr Q) (f ρ)
theorem lc_read {tg iter : Expr} {vs : List Nat} {it : Env → Out (List D)} {G' : D → Env → Out Env} {tt : Env → Out Bool} {f : Env → Out D} {ws : List Nat} (le : Le Γ2 Γ1) (no : ∀ i ∈ vs, ¬ Own Γ2 i) (hws : ∀ i ∈ ws, i ∈ vs)
    (AG : ∀ d ρ ρ', G' d ρ = .ok ρ' → (∀ i, i ∉ ws → ρ'[i]? = ρ[i]?) ∧ ρ'.length = ρ.length) {σ : St} {H : Hp} {Q : VK} {ρ : Env} {Hf : Hp} (R : Rp X.K X.mw g Γ ρ σ Hf H) {P : Env → St → Hp → Prop} (hP : P ρ σ Hf)
    (q : tG X.K X.mw g E Γ2 ρ σ Hf H (PV X g Γ2 ρ σ .ow Q) (eLc vs G' it tt f ρ)) :
    tLc (fun σ H R => ∃ ρ Hf, Rp X.K X.mw g Γ ρ σ Hf H ∧ P ρ σ Hf ∧ tG X.K X.mw g E Γ1 ρ σ Hf H (fun ds Hf' H' => ∀ J, Walks X.K X.mw g.H0 J Hf' ds → R J H') (it ρ)) (hG X Γ2 G' ws) (hT X Γ2 tt) (hE X Γ2 f) vs σ H Q := by
  refine ⟨ρ, Hf, R, hP, ?_⟩
  refine tG.bind le q fun ds F1 H1 s1 s2 R1 k J wk D nD => ?_
  refine (Classical.em (ds.length ≤ sizeLine)).elim (fun hz => ?_) (fun hz => by rw [chk_neg hz] at k; exact k.elim)
  rw [chk_pos hz] at k
  cases hl : lcL G' tt f (wipeE ρ (vs)) ds with
  | exc x => exact absurd hl (lcL_nx ds x)
  | stuck => rw [hl] at k; exact k.elim
  | ok total =>
  rw [hl] at k
  simp only [Out.bind_ok] at k
  obtain ⟨F2, s3, R2, _⟩ := R1.frz le
  have zf : F2 D = none := R2.same.free nD
  obtain ⟨t2, R3, n0, nf, ap⟩ := R2.newO (.lst []) nD
  refine ⟨fun i m H => m = ds.length - i ∧ i ≤ ds.length ∧ ∃ (acc : List V) (accD : List PD.D) (Hf : Hp) (rest : List PD.D), H D = some (.lst acc) ∧ IsDs X.K X.mw Hf accD acc ∧ Hf D = none ∧ lcL G' tt f (wipeE ρ (vs)) (ds.drop i) = .ok rest ∧ accD ++ rest = total ∧
      accD.length ≤ i ∧ Same F2 Hf ∧ Same H1 H ∧ Rp X.K X.mw g Γ2 ρ σ Hf H, ⟨ds.length, by simp, Nat.zero_le _, [], [], F2, total, upd_same, by simp only [IsDs], zf, hl, rfl, Nat.zero_le _, Same.refl _, t2, R3⟩, ?_⟩
  rintro i m H ⟨rfl, hi', acc, accD, Hf, rest, eD, ia, fD, er, et, la, sF, sH, RR⟩
  have RE := RR.enter n0 eD ap
  by_cases hlt : i < ds.length
  · have ed : ds[i]? = some ds[i] := by simp [hlt]
    have hd : ds.drop i = ds[i] :: ds.drop (i + 1) := List.drop_eq_getElem_cons hlt
    rw [hd] at er
    obtain ⟨ρ1, b, e1, e2, e3⟩ := lcL_ok er
    obtain ⟨go, yl⟩ := (wk _ Γ2 ρ σ Hf H (s3.trans sF) RE i).1 _ ed
    refine .inr ⟨go, fun H' => ∃ (acc : List V) (accD : List PD.D) (Hf : Hp) (rest : List PD.D), H' D = some (.lst acc) ∧ IsDs X.K X.mw Hf accD acc ∧ Hf D = none ∧ lcL G' tt f (wipeE ρ (vs)) (ds.drop (i + 1)) = .ok rest ∧ accD ++ rest = total ∧
      accD.length ≤ i + 1 ∧ Same F2 Hf ∧ Same H1 H' ∧ Rp X.K X.mw g Γ2 ρ σ Hf H', fun H' z => ⟨ds.length - (i + 1), by omega, rfl, hlt, z⟩, fun x H' y => ?_⟩
    obtain ⟨Hf3, s4, s5, R4, hx⟩ := yl x H' y
    refine ⟨_, ds[i], _, Hf3, R4.wipe (vs), hx, ρ1, e1, fun σ2 a2 R5 => ?_⟩
    have hlen : σ2.length = (L2.wipe σ (vs)).length := by
      rw [R5.len.1, (R4.wipe (vs)).len.1, (AG _ _ _ e1).2]
    have ag1 : ∀ j, j ∉ vs → ρ1[j]? = ρ[j]? := fun j nj => by
      rw [(AG _ _ _ e1).1 j fun z => nj (hws j z), wipeE_ne nj]
    have ag2 : ∀ j, j ∉ vs → σ2[j]? = σ[j]? := fun j nj => by
      rw [a2 j fun z => nj (hws j z), wipe_ne nj]
    refine ⟨wipe_same (by rw [hlen, wipe_length]) fun j nj => by rw [ag2 j nj, wipe_ne nj], _, ρ1, Hf3, R5, ?_⟩
    rw [e2]
    intro Hf4 H4 s6 s7 R6
    have back : ∀ {Hf5 H5 : Hp}, Same Hf3 Hf5 → Same H' H5 → Rp X.K X.mw ⟨upd g.H0 D (.lst acc), Hf, none⟩ Γ2 ρ1 σ2 Hf5 H5 → Rp X.K X.mw g Γ2 ρ σ Hf5 H5 ∧ Hf5 D = none ∧ H5 D = some (.lst acc) := fun {Hf5 H5} u1 u2 R7 => by
      refine ⟨RR.unwipe R7 (s4.trans u1) (s5.trans u2) rfl (fun c zc => ?_) ag1 ag2 no, ?_, R7.ent D _ upd_same⟩
      · by_cases h : c = D
        · subst h; exact n0
        · have zc' : upd g.H0 D (.lst acc) c = none := zc
          rw [upd_ne h] at zc'; exact zc'
      · cases h : Hf5 D with
        | none => rfl
        | some o =>
          rcases R7.news D o h with z | z
          · have z' : Hf D = some o := z
            rw [fD] at z'; cases z'
          · have z' : upd g.H0 D (.lst acc) D = none := z
            rw [upd_same] at z'; cases z'
    rcases e3 with ⟨rfl, yd, ys, e4, e5, e6⟩ | ⟨rfl, e4⟩
    · refine Eq.mpr (if_pos rfl) ?_
      refine ⟨_, ρ1, Hf4, R6, ?_⟩
      rw [e4]
      intro Hf5 H5 s8 s9 R7 yv hy
      obtain ⟨R8, f5, eD5⟩ := back (s6.trans s8) (s7.trans s9) R7
      have la2 : acc.length < sizeLine := by rw [ia.len]; omega
      refine ⟨acc, eD5, la2, acc ++ [yv], accD ++ [yd], Hf5, ys, upd_same, ?_, f5, e5, by rw [← et, e6]; simp, by simp; omega, sF.trans (s4.trans (s6.trans s8)), ?_, R8.other n0 f5 ap⟩
      · exact (IsDs.mono (s4.trans (s6.trans s8)) ia).snoc hy
      · intro c o ec
        rw [upd_ne (ne_of_none ec nD)]
        exact (sH.trans (s5.trans (s7.trans s9))) _ _ ec
    · obtain ⟨R8, f5, eD5⟩ := back s6 s7 R6
      refine Eq.mpr (if_neg Bool.false_ne_true) ?_
      exact ⟨acc, accD, Hf4, rest, eD5, IsDs.mono (s4.trans s6) ia, f5, e4, et, by omega, sF.trans (s4.trans s6), sH.trans (s5.trans s7), R8⟩
  · have e : i = ds.length := by omega
    subst e
    refine .inl ⟨(wk _ Γ2 ρ σ Hf H (s3.trans sF) RE _).2 (Nat.le_refl _), ?_⟩
    rw [List.drop_length] at er
    cases er
    rw [List.append_nil] at et
    subst et
    exact k Hf H (s3.trans sF) sH RR (.ref D) ⟨⟨D, acc, rfl, n0, fD, eD, ia⟩, fun i e ow e1 m _ e2 => ap i e ow e1 m e2⟩

theorem px_lc {elt tg iter : Expr} {ifs : List Expr} {scope : Scope} {own : List (Str × Nat)} {it : Env → Out (List D)} {G' : D → Env → Out Env} {tt : Env → Out Bool} {f : Env → Out D} {ws : List Nat}
    (hc : X.calm = true) (hN : X.N.Nodup) (hi : PIx X g E Γ tg iter Γ1 it) (le : Le Γ2 Γ1) (no : ∀ i ∈ own.map (·.2), ¬ Own Γ2 i) (ok : BlkOk X.N X.env.scope scope own)
    (hg : ∀ (g : G) (s : Shared) (H : Hp) (C : Addr) (cl : List (Str × Addr)) (fp : List Addr), PGx (X.blk s H scope (compEnvC scope cl C X.env) fp) g Γ2 tg Γ2 G' ws) (hws : ∀ i ∈ ws, i ∈ own.map (·.2))
    (ht : ∀ (g : G) (s : Shared) (H : Hp) (C : Addr) (cl : List (Str × Addr)) (fp : List Addr), PTsx (X.blk s H scope (compEnvC scope cl C X.env) fp) g E0 Γ2 ifs Γ2 tt)
    (he : ∀ (g : G) (s : Shared) (H : Hp) (C : Addr) (cl : List (Str × Addr)) (fp : List Addr), PX (X.blk s H scope (compEnvC scope cl C X.env) fp) g E0 Γ2 elt Γ2 .fr f) (hs : ∀ x, foldedSetIterable iter X.env x = pure x := by intro _; rfl) :
    PX X g E Γ (.ListComp elt [⟨tg, iter, ifs, 0⟩] scope pos) Γ2 .ow (eLc (own.map (·.2)) G' it tt f) := by
  have HG : ∀ (s : Shared) (H : Hp) (C : Addr) (cl : List (Str × Addr)) (fp : List Addr), PG (X.blk s H scope (compEnvC scope cl C X.env) fp) tg (hG X Γ2 G' ws) := fun s H C cl fp => ⟨fun pins s' σ H' v u Q I r ⟨g', z⟩ => (hg g' s H C cl fp).pg.run pins s' σ H' v u Q I r z⟩
  have HT : ∀ (s : Shared) (H : Hp) (C : Addr) (cl : List (Str × Addr)) (fp : List Addr), PTs (X.blk s H scope (compEnvC scope cl C X.env) fp) ifs (hT X Γ2 tt) := fun s H C cl fp => ⟨fun pins s' σ H' Q I ⟨g', z⟩ => (ht g' s H C cl fp).pe.run pins s' σ H' Q I z⟩
  have HE : ∀ (s : Shared) (H : Hp) (C : Addr) (cl : List (Str × Addr)) (fp : List Addr), PE (X.blk s H scope (compEnvC scope cl C X.env) fp) elt (hE X Γ2 f) := fun s H C cl fp => ⟨fun pins s' σ H' Q I ⟨g', z⟩ => (he g' s H C cl fp).pe.run pins s' σ H' Q I z⟩
  exact ⟨le.trans hi.le, (pe_lc hc hN (hi.pi.imp fun σ H R ⟨ρ, Hf, R, _, q⟩ => ⟨ρ, Hf, R, q⟩) ok HG HT HE hs).imp fun σ H Q ⟨ρ, Hf, R, q⟩ => lc_read (tg := tg) (iter := iter) le no hws (hg g ⟨{}, #[], {}, 0, {}⟩ (fun _ => none) 0 [] []).ag R (P := fun _ _ _ => True) trivial q⟩
theorem takes_no : Takes X E0 := fun u s' ⟨_, _, _, _, _, _, _, _, _, _, _, _, _, _, _, _, w⟩ => w.elim
end
end PD

namespace PD
open PySem PySem.Spec L2
open PyProof.Rows hiding St

open Classical in
noncomputable def dicGet (kvs : List (D × D)) (k : D) : Option D := (kvs.find? fun p => decide (p.1 = k)).map (·.2)
open Classical in
noncomputable def dicPut (kvs : List (D × D)) (k v : D) : List (D × D) := if (kvs.any fun p => decide (p.1 = k)) = true then kvs.map (fun p => if p.1 = k then (p.1, v) else p) else kvs ++ [(k, v)]
open Classical in
noncomputable def dicDrop (kvs : List (D × D)) (k : D) : List (D × D) := kvs.filter fun p => decide (p.1 ≠ k)
def flatK : D → Bool
  | .int _ => true
  | .str _ => true
  | _ => false
def DKey (kvs : List (D × D)) (k : D) : Prop := (flatK k = true ∧ ∀ p ∈ kvs, flatK p.1 = true) ∨ (TKey (toPy k) ∧ ∀ p ∈ kvs, TKey (toPy p.1))
theorem dicGet_pos {p : D × D} {r : List (D × D)} {k : D} (e : p.1 = k) : dicGet (p :: r) k = some p.2 := by simp [dicGet, List.find?_cons, e]
theorem dicGet_neg {p : D × D} {r : List (D × D)} {k : D} (e : ¬ p.1 = k) : dicGet (p :: r) k = dicGet r k := by simp [dicGet, List.find?_cons, e]
open Classical in
theorem dicGet_any (k : D) : ∀ kvs : List (D × D), (kvs.any fun p => decide (p.1 = k)) = (dicGet kvs k).isSome
  | [] => rfl
  | p :: r => by
    rw [List.any_cons]
    by_cases e : p.1 = k
    · rw [dicGet_pos e, decide_eq_true e]; rfl
    · rw [dicGet_neg e, decide_eq_false e, dicGet_any k r]; rfl
noncomputable def valT (zs : List (PyData × Addr × V)) (k : PyData) : Option V := (zs.find? fun z => decide (z.1 = k)).map (·.2.2)
theorem valT_pos {p : PyData × Addr × V} {r : List (PyData × Addr × V)} {k : PyData} (e : p.1 = k) : valT (p :: r) k = some p.2.2 := by simp [valT, List.find?_cons, e]
theorem valT_neg {p : PyData × Addr × V} {r : List (PyData × Addr × V)} {k : PyData} (e : ¬ p.1 = k) : valT (p :: r) k = valT r k := by simp [valT, List.find?_cons, e]
noncomputable def putT (zs : List (PyData × Addr × V)) (k : PyData) (b : Addr) (v : V) : List (PyData × Addr × V) := if (valT zs k).isSome = true then zs.map (fun z => if z.1 = k then (z.1, z.2.1, v) else z) else zs ++ [(k, b, v)]
mutual
theorem toPy_inj : ∀ (k k' : D), keyP (toPy k) = true → toPy k = toPy k' → k = k'
  | .int i, k', _, e => by cases k' <;> simp [toPy] at e; rw [e]
  | .str i, k', _, e => by cases k' <;> simp [toPy] at e; rw [e]
  | .tup ds, k', h, e => by
    cases k' with
    | tup es =>
      simp only [toPy, PyData.tuple.injEq] at e
      simp only [toPy, keyP] at h
      rw [toPys_inj ds es h e]
    | _ => simp [toPy] at e
  | .non, _, h, _ => by simp [toPy, keyP] at h
  | .bl _, _, h, _ => by simp [toPy, keyP] at h
  | .ty _, _, h, _ => by simp [toPy, keyP] at h
  | .scr _, _, h, _ => by simp [toPy, keyP] at h
  | .lst _, _, h, _ => by simp [toPy, keyP] at h
  | .dic _, _, h, _ => by simp [toPy, keyP] at h
  | .ins _ _, _, h, _ => by simp [toPy, keyP] at h
  | .adr _, _, h, _ => by simp [toPy, keyP] at h
  | .exn _ _, _, h, _ => by simp [toPy, keyP] at h
  | .cls _, _, h, _ => by simp [toPy, keyP] at h
theorem toPys_inj : ∀ (ks ks' : List D), keysP (toPys ks) = true → toPys ks = toPys ks' → ks = ks'
  | [], ks', _, e => by cases ks' with
    | nil => rfl
    | cons _ _ => simp [toPys] at e
  | k :: ks, ks', h, e => by
    cases ks' with
    | nil => simp [toPys] at e
    | cons k' ks' =>
      simp only [toPys, List.cons.injEq] at e
      simp only [toPys, keysP, Bool.and_eq_true] at h
      rw [toPy_inj k k' h.1 e.1, toPys_inj ks ks' h.2 e.2]
end
theorem kD_flat (k : Key) : flatK (kD k) = true := by cases k <;> rfl
theorem kD_inj {a b : Key} (e : kD a = kD b) : a = b := by
  cases a <;> cases b <;> simp [kD] at e <;> rw [e]
theorem flat_kD {k : D} (h : flatK k = true) : ∃ κ, k = kD κ := by
  cases k with
  | int i => exact ⟨.inl i, rfl⟩
  | str x => exact ⟨.inr x, rfl⟩
  | _ => cases h
theorem tkey_nf {k : D} (h : TKey (toPy k)) : flatK k = false := by
  obtain ⟨xs, e⟩ := h.tup
  cases k <;> simp [toPy] at e <;> rfl
section
variable {K : PySem.W.Frag} {mg : Mg} {H : Hp}
theorem IsKVs.get : ∀ {kvs : List (D × D)} {xs : List (Key × V)} (κ : Key), IsKVs K mg H kvs xs → match dicGet kvs (kD κ) with
    | some d => ∃ v, valV xs κ = some v ∧ IsD K mg H d v
    | none => valV xs κ = none
  | [], xs, κ, h => by simp only [IsKVs] at h; subst h; rfl
  | (k, d) :: kvs, xs, κ, h => by
    simp only [IsKVs, IsKV] at h
    obtain ⟨⟨k', v⟩, us, rfl, ⟨e, q⟩, r⟩ := h
    simp only at e q
    subst e
    by_cases z : k' = κ
    · subst z
      rw [dicGet_pos rfl]
      exact ⟨v, valV_pos rfl, q⟩
    · rw [dicGet_neg (fun y => z (kD_inj y)), valV_neg z]
      exact IsKVs.get κ r
theorem IsKVs.flat : ∀ {kvs : List (D × D)} {xs : List (Key × V)}, IsKVs K mg H kvs xs → ∀ p ∈ kvs, flatK p.1 = true
  | (k, d) :: kvs, xs, h, p, m => by
    simp only [IsKVs, IsKV] at h
    obtain ⟨⟨k', v⟩, us, rfl, ⟨e, q⟩, r⟩ := h
    rcases List.mem_cons.mp m with rfl | m
    · simp only at e
      subst e
      exact kD_flat k'
    · exact IsKVs.flat r p m
theorem IsKVs.len : ∀ {kvs : List (D × D)} {xs : List (Key × V)}, IsKVs K mg H kvs xs → xs.length = kvs.length
  | [], _, h => by simp only [IsKVs] at h; subst h; rfl
  | _ :: kvs, _, h => by
    simp only [IsKVs] at h
    obtain ⟨_, us, rfl, _, r⟩ := h
    rw [List.length_cons, List.length_cons, IsKVs.len r]
theorem IsKTs.len : ∀ {kvs : List (D × D)} {xs : List (PyData × Addr × V)}, IsKTs K mg H kvs xs → xs.length = kvs.length
  | [], _, h => by simp only [IsKTs] at h; subst h; rfl
  | _ :: kvs, _, h => by
    simp only [IsKTs] at h
    obtain ⟨_, us, rfl, _, r⟩ := h
    rw [List.length_cons, List.length_cons, IsKTs.len r]
theorem IsKTs.keys : ∀ {kvs : List (D × D)} {xs : List (PyData × Addr × V)}, IsKTs K mg H kvs xs → ∀ p ∈ kvs, TKey (toPy p.1)
  | (k, d) :: kvs, xs, h, p, m => by
    simp only [IsKTs, IsKT] at h
    obtain ⟨⟨k', b, v⟩, us, rfl, ⟨e, t, q⟩, r⟩ := h
    rcases List.mem_cons.mp m with rfl | m
    · exact t
    · exact IsKTs.keys r p m
theorem IsKTs.get {k : D} (t : TKey (toPy k)) : ∀ {kvs : List (D × D)} {xs : List (PyData × Addr × V)}, IsKTs K mg H kvs xs → match dicGet kvs k with
    | some d => ∃ v, valT xs (toPy k) = some v ∧ IsD K mg H d v
    | none => valT xs (toPy k) = none
  | [], xs, h => by simp only [IsKTs] at h; subst h; rfl
  | (k0, d) :: kvs, xs, h => by
    simp only [IsKTs, IsKT] at h
    obtain ⟨⟨k', b, v⟩, us, rfl, ⟨e, t', q, q'⟩, r⟩ := h
    simp only at e q q'
    subst e
    by_cases z : k0 = k
    · subst z
      rw [dicGet_pos rfl]
      exact ⟨v, valT_pos rfl, q'⟩
    · rw [dicGet_neg z, valT_neg (fun y => z (toPy_inj _ _ t'.key y))]
      exact IsKTs.get t r
open Classical in
theorem IsKVs.put (κ : Key) {d : D} {v : V} (hv : IsD K mg H d v) {kvs : List (D × D)} {xs : List (Key × V)} (h : IsKVs K mg H kvs xs) : IsKVs K mg H (dicPut kvs (kD κ) d) (putK xs κ v) := by
  have a : (kvs.any fun p => decide (p.1 = kD κ)) = (xs.any fun kv => decide (kv.1 = κ)) := by
    rw [dicGet_any, valV_any]
    have := h.get κ
    cases e : dicGet kvs (kD κ) with
    | some d => rw [e] at this; obtain ⟨v, e2, _⟩ := this; rw [e2]; rfl
    | none => rw [e] at this; simp only at this; rw [this]; rfl
  unfold dicPut putK
  rw [a]
  by_cases z : (xs.any fun kv => decide (kv.1 = κ)) = true
  · rw [if_pos z, if_pos z]
    clear a z
    induction kvs generalizing xs with
    | nil => simp only [IsKVs] at h; subst h; simp [IsKVs]
    | cons p kvs ih =>
      obtain ⟨k, d0⟩ := p
      simp only [IsKVs, IsKV] at h
      obtain ⟨⟨k', v'⟩, us, rfl, ⟨e, q⟩, r⟩ := h
      simp only at e q
      subst e
      rw [List.map_cons, List.map_cons]
      simp only [IsKVs]
      refine ⟨_, _, rfl, ?_, ih r⟩
      by_cases z : k' = κ
      · subst z
        simp only [if_true, IsKV]
        exact ⟨trivial, hv⟩
      · rw [if_neg z, if_neg (fun y => z (kD_inj y))]
        simp only [IsKV]
        exact ⟨trivial, q⟩
  · rw [if_neg z, if_neg z]
    clear a z
    induction kvs generalizing xs with
    | nil => simp only [IsKVs] at h; subst h; simp only [List.nil_append, IsKVs, IsKV]; exact ⟨_, _, rfl, ⟨rfl, hv⟩, rfl⟩
    | cons p kvs ih =>
      simp only [IsKVs] at h
      obtain ⟨u, us, rfl, q, r⟩ := h
      simp only [List.cons_append, IsKVs]
      exact ⟨_, _, rfl, q, ih r⟩
open Classical in
theorem IsKTs.put {k : D} (t : TKey (toPy k)) {b : Addr} (hb : IsD K mg H k (.ref b)) {d : D} {v : V} (hv : IsD K mg H d v) {kvs : List (D × D)} {xs : List (PyData × Addr × V)} (h : IsKTs K mg H kvs xs) : IsKTs K mg H (dicPut kvs k d) (putT xs (toPy k) b v) := by
  have a : (kvs.any fun p => decide (p.1 = k)) = (valT xs (toPy k)).isSome := by
    rw [dicGet_any]
    have := h.get t
    cases e : dicGet kvs k with
    | some d => rw [e] at this; obtain ⟨v, e2, _⟩ := this; rw [e2]; rfl
    | none => rw [e] at this; simp only at this; rw [this]; rfl
  unfold dicPut putT
  rw [a]
  by_cases z : (valT xs (toPy k)).isSome = true
  · rw [if_pos z, if_pos z]
    clear a z
    induction kvs generalizing xs with
    | nil => simp only [IsKTs] at h; subst h; simp [IsKTs]
    | cons p kvs ih =>
      obtain ⟨k0, d0⟩ := p
      simp only [IsKTs, IsKT] at h
      obtain ⟨⟨k', b', v'⟩, us, rfl, ⟨e, t', q, q'⟩, r⟩ := h
      simp only at e q q'
      subst e
      rw [List.map_cons, List.map_cons]
      simp only [IsKTs]
      refine ⟨_, _, rfl, ?_, ih r⟩
      by_cases z : k0 = k
      · subst z
        simp only [if_true, IsKT]
        exact ⟨trivial, t', q, hv⟩
      · rw [if_neg z, if_neg (fun y => z (toPy_inj _ _ t'.key y))]
        simp only [IsKT]
        exact ⟨trivial, t', q, q'⟩
  · rw [if_neg z, if_neg z]
    clear a z
    induction kvs generalizing xs with
    | nil => simp only [IsKTs] at h; subst h; simp only [List.nil_append, IsKTs, IsKT]; exact ⟨_, _, rfl, ⟨rfl, t, hb, hv⟩, rfl⟩
    | cons p kvs ih =>
      simp only [IsKTs] at h
      obtain ⟨u, us, rfl, q, r⟩ := h
      simp only [List.cons_append, IsKTs]
      exact ⟨_, _, rfl, q, ih r⟩
end

section
variable {X : Cx} {pins : List (Addr × Obj)} {σ : St} {H Hf : Hp} {s : Shared} {a : Addr} {o : HO} {kvs : List (D × D)} {k : D} {y : V} {u : Value} {A : Around} {E : Value → Shared → Prop}
abbrev ZW : List (PyData × Addr × V) → List (PyData × Addr × Value) → Prop := Paired fun p q => p.1 = q.1 ∧ p.2.1 = q.2.1 ∧ RelV p.2.2 q.2.2
theorem ZW.val {zs : List (PyData × Addr × V)} {xs : List (PyData × Addr × Value)} (r : ZW zs xs) (k : PyData) : RelO (valT zs k) ((atKey xs k).map (·.2)) := by
  induction r with
  | nil => exact True.intro
  | @cons p q ps qs h t ih =>
    obtain ⟨h1, _, h2⟩ := h
    by_cases e : p.1 = k
    · have e' : q.1 = k := h1.symm.trans e
      have b : atKey (q :: qs) k = some q.2 := by simp [atKey, List.find?_cons, e']
      rw [valT_pos e, b]; exact h2
    · have e' : ¬ q.1 = k := fun z => e (h1.trans z)
      have b : atKey (q :: qs) k = atKey qs k := by simp [atKey, List.find?_cons, e']
      rw [valT_neg e, b]; exact ih
theorem ZW.put {zs : List (PyData × Addr × V)} {xs : List (PyData × Addr × Value)} (r : ZW zs xs) (k : PyData) (b : Addr) {y : V} {u : Value} (ry : RelV y u) : ZW (putT zs k b y) (storedH xs k b u) := by
  have e : (valT zs k).isSome = (atKey xs k).isSome := by rw [(r.val k).isSome_eq, Option.isSome_map]
  unfold putT storedH
  rw [e]
  by_cases q : (atKey xs k).isSome = true
  · rw [if_pos q, if_pos q]
    clear e q
    induction r with
    | nil => exact .nil
    | @cons p q ps qs h t ih =>
      rw [List.map_cons, List.map_cons]
      refine .cons ?_ ih
      obtain ⟨h1, h2, h3⟩ := h
      unfold putAt
      by_cases e : p.1 = k
      · rw [if_pos e, if_pos (h1.symm.trans e)]; exact ⟨h1, h2, ry⟩
      · rw [if_neg e, if_neg (fun z => e (h1.trans z))]; exact ⟨h1, h2, h3⟩
  · rw [if_neg q, if_neg q]; exact Paired.snoc r ⟨rfl, rfl, ry⟩
inductive Vw (X : Cx) (Hf : Hp) (h : Heap) (a : Addr) (kvs : List (D × D)) (k : D) (y : V) (u : Value) : Prop where
  | flat (κ : Key) (xs : List (Key × V)) (vs : List (Key × Value)) : k = kD κ → y = kV κ → RelV (kV κ) u → IsKVs X.K X.mw Hf kvs xs → KV xs vs → h.DictOf (mixKind X.prog X.w) a vs → Vw X Hf h a kvs k y u
  | deep (b : Addr) (zs : List (PyData × Addr × V)) (ws : List (PyData × Addr × Value)) : y = .ref b → u = .ref b → IsD X.K X.mw Hf k (.ref b) → TKey (toPy k) → (deepKind X.prog X.w).is h (toPy k) b → IsKTs X.K X.mw Hf kvs zs → ZW zs ws → h.DictOfH (deepKind X.prog X.w) a ws → Vw X Hf h a kvs k y u
theorem isd_ref {K : PySem.W.Frag} {mg : Mg} {k : D} {y : V} (h : IsD K mg Hf k y) (t : TKey (toPy k)) : ∃ b, y = .ref b := by
  obtain ⟨xs, e⟩ := t.tup
  cases k with
  | tup ds => simp only [IsD] at h; obtain ⟨a, _, e, _⟩ := h; exact ⟨a, e⟩
  | _ => simp [toPy] at e
theorem isd_flat {K : PySem.W.Frag} {mg : Mg} {κ : Key} {y : V} (h : IsD K mg Hf (kD κ) y) : y = kV κ := by
  cases κ <;> (simp only [kD, IsD] at h; subst h; rfl)
theorem zw_is (I : Inv X pins σ H s) (hs : Same Hf H) : ∀ {kvs : List (D × D)} {zs : List (PyData × Addr × V)} {ws : List (PyData × Addr × Value)}, IsKTs X.K X.mw Hf kvs zs → ZW zs ws → ∀ x ∈ ws, (deepKind X.prog X.w).is s.heap x.1 x.2.1
  | [], _, _, h, r, x, m => by simp only [IsKTs] at h; subst h; cases r; exact nomatch m
  | (k, d) :: kvs, _, _, h, r, x, m => by
    simp only [IsKTs, IsKT] at h
    obtain ⟨⟨k', b, v⟩, us, rfl, ⟨e, t, q, q'⟩, rr⟩ := h
    cases r with
    | @cons _ z _ qs hz tz =>
      rcases List.mem_cons.mp m with rfl | m
      · obtain ⟨h1, h2, _⟩ := hz
        simp only at e h1 h2 q
        rw [← h1, ← h2, e]
        obtain ⟨as, rd⟩ := Dp.reads I (toPy k) (.ref b) (.ref b) (dp_of (IsD.mono hs q) (keyP_lay _ t.key)) rfl
        exact ⟨t, as, rd⟩
      · exact zw_is I hs rr tz x m
theorem view (I : Inv X pins σ H s) (hs : Same Hf H) (hd : Rd H a o) (hk : DicAt X.K X.mw Hf kvs a o) (ky : IsD X.K X.mw Hf k y) (ry : RelV y u) (dk : DKey kvs k) : (a == sysModules) = false ∧ kvs.length ≤ sizeLine ∧ Vw X Hf s.heap a kvs k y u := by
  have ok := hd.ok I.hok
  rcases hk with ⟨xs, rfl, r⟩ | ⟨zs, rfl, r⟩
  · obtain ⟨z, hsys, vs, rel, dd⟩ := (show ObjOk X.prog X.w H s.heap a (.dK xs) from ok)
    refine ⟨hsys, by rw [← r.len]; exact z, ?_⟩
    rcases dk with ⟨f, _⟩ | ⟨t, all⟩
    · obtain ⟨κ, rfl⟩ := flat_kD f
      obtain rfl := isd_flat ky
      exact .flat κ xs vs rfl rfl ry r rel dd
    · have e : kvs = [] := by
        cases kvs with
        | nil => rfl
        | cons p kvs =>
          have h1 := r.flat p List.mem_cons_self
          rw [tkey_nf (all p List.mem_cons_self)] at h1
          cases h1
      subst e
      simp only [IsKVs] at r
      subst r
      cases rel
      obtain ⟨b, rfl⟩ := isd_ref ky t
      obtain rfl : u = .ref b := ry
      obtain ⟨as, rd⟩ := Dp.reads I (toPy k) (.ref b) (.ref b) (dp_of (IsD.mono hs ky) (keyP_lay _ t.key)) rfl
      obtain ⟨ob, es, ep, h1, h2, h3, h4, h5, h6⟩ := dd
      have ee : es.toList = [] := by
        generalize es.toList = l at h5
        cases h5; rfl
      exact .deep b [] [] rfl rfl ky t ⟨t, as, rd⟩ (by simp only [IsKTs]) .nil ⟨ob, es, ep, h1, h2, h3, by rw [ee]; rfl, fun x hx => (List.not_mem_nil hx).elim, List.nodup_nil⟩
  · obtain ⟨hne, hsys, z, ws, rel, ob, es, ep, h1, h2, h3, h4, h5⟩ := (show ObjOk X.prog X.w H s.heap a (dT X.w a zs) from ok).1
    refine ⟨hsys, by rw [← r.len]; exact z, ?_⟩
    rcases dk with ⟨f, all⟩ | ⟨t, _⟩
    · have e : kvs = [] := by
        cases kvs with
        | nil => rfl
        | cons p kvs =>
          have h1 := all p List.mem_cons_self
          rw [tkey_nf (r.keys p List.mem_cons_self)] at h1
          cases h1
      subst e
      simp only [IsKTs] at r
      subst r
      cases rel
      obtain ⟨κ, rfl⟩ := flat_kD f
      obtain rfl := isd_flat ky
      have ee : es.toList = [] := h4
      have e2 : es = #[] := by rw [← Array.toArray_toList (xs := es), ee]
      subst e2
      exact .flat κ [] [] rfl rfl ry (by simp only [IsKVs]) .nil ⟨ob, #[], ep, h1, h2, h3, fun e he => by simp at he, Pairs.nil, List.nodup_nil⟩
    · obtain ⟨b, rfl⟩ := isd_ref ky t
      obtain rfl : u = .ref b := ry
      obtain ⟨as, rd⟩ := Dp.reads I (toPy k) (.ref b) (.ref b) (dp_of (IsD.mono hs ky) (keyP_lay _ t.key)) rfl
      exact .deep b zs ws rfl rfl ky t ⟨t, as, rd⟩ r rel ⟨ob, es, ep, h1, h2, h3, h4, zw_is I hs r rel, h5⟩

theorem dk_room {A : Around} (hu : A.units + 64 < cLine) : (deepKind X.prog X.w).room A.in1 := by
  show A.units + 1 + 8 < cLine
  omega
theorem Vw.at (V0 : Vw X Hf s.heap a kvs k y u) : match dicGet kvs k with
    | some d => ∃ v w', IsD X.K X.mw Hf d v ∧ RelV v w' ∧ ((∃ κ vs, RelV (kV κ) u ∧ s.heap.DictOf (mixKind X.prog X.w) a vs ∧ valueAt vs κ = some w') ∨ ∃ b ws p, u = .ref b ∧ (deepKind X.prog X.w).is s.heap (toPy k) b ∧ s.heap.DictOfH (deepKind X.prog X.w) a ws ∧ atKey ws (toPy k) = some p ∧ p.2 = w')
    | none => (∃ κ vs, RelV (kV κ) u ∧ s.heap.DictOf (mixKind X.prog X.w) a vs ∧ valueAt vs κ = none) ∨ ∃ b ws, u = .ref b ∧ (deepKind X.prog X.w).is s.heap (toPy k) b ∧ s.heap.DictOfH (deepKind X.prog X.w) a ws ∧ atKey ws (toPy k) = none := by
  cases V0 with
  | flat κ xs vs ek ey ry r rel dd =>
    subst ek
    have g := r.get κ
    cases e : dicGet kvs (kD κ) with
    | some d =>
      rw [e] at g
      obtain ⟨v, e2, q⟩ := g
      obtain ⟨w', hw, rw'⟩ := RelO.some_of (v := v) (o := valueAt vs κ) (by rw [← e2]; exact rel.val κ)
      exact ⟨v, w', q, rw', .inl ⟨κ, vs, ry, dd, hw⟩⟩
    | none =>
      rw [e] at g
      exact .inl ⟨κ, vs, ry, dd, RelO.none_of (by rw [← g]; exact rel.val κ)⟩
  | deep b zs ws ey eu kd t is r rel dd =>
    have g := r.get t
    cases e : dicGet kvs k with
    | some d =>
      rw [e] at g
      obtain ⟨v, e2, q⟩ := g
      obtain ⟨w', hw, rw'⟩ := RelO.some_of (v := v) (o := (atKey ws (toPy k)).map (·.2)) (by rw [← e2]; exact rel.val _)
      obtain ⟨p, hp, hp2⟩ := Option.map_eq_some_iff.mp hw
      exact ⟨v, w', q, rw', .inr ⟨b, ws, p, eu, is, dd, hp, hp2⟩⟩
    | none =>
      rw [e] at g
      have : (atKey ws (toPy k)).map (·.2) = none := RelO.none_of (by rw [← g]; exact rel.val _)
      exact .inr ⟨b, ws, eu, is, dd, Option.map_eq_none_iff.mp this⟩
theorem x_getItem {d : D} {Q : Value → Shared → Prop} (hu : A.units + 64 < cLine) (I : Inv X pins σ H s) (V0 : Vw X Hf s.heap a kvs k y u) (g : dicGet kvs k = some d) (h : ∀ v w' s', Inv X pins σ H s' → IsD X.K X.mw Hf d v → RelV v w' → Q w' s') :
    wpAny (model X.prog X.w) A (getItem (.ref a) u) Q E s := by
  have z := V0.at
  rw [g] at z
  obtain ⟨v, w', q, rw', z⟩ := z
  rcases z with ⟨κ, vs, ry, dd, hw⟩ | ⟨b, ws, p, rfl, is, dd, hp, rfl⟩
  · exact wpAny_getItem_of (kV_is ry) dd.mapOf hw (h v w' _ (I.tok _) q rw')
  · exact wpAny_getItem_heap (dk_room hu) is dd hp (h v _ _ (I.tok _) q rw')
theorem x_in {Q : Value → Shared → Prop} (hu : A.units + 64 < cLine) (I : Inv X pins σ H s) (hsys : (a == sysModules) = false) (V0 : Vw X Hf s.heap a kvs k y u) (h : ∀ s', Inv X pins σ H s' → Q (.bool (dicGet kvs k).isSome) s') :
    wpAny (model X.prog X.w) A (compareOp .In u (.ref a)) Q E s := by
  have z := V0.at
  cases g : dicGet kvs k with
  | some d =>
    rw [g] at z h
    obtain ⟨v, w', q, rw', z⟩ := z
    rcases z with ⟨κ, vs, ry, dd, hw⟩ | ⟨b, ws, p, rfl, is, dd, hp, rfl⟩
    · refine wpAny_in_of (kV_is ry) hsys dd.mapOf ?_
      rw [hw]
      exact h _ (I.tok _)
    · refine wpAny_in_heap (dk_room hu) is hsys dd ?_
      rw [hp]
      exact h _ (I.tok _)
  | none =>
    rw [g] at z h
    rcases z with ⟨κ, vs, ry, dd, hw⟩ | ⟨b, ws, rfl, is, dd, hp⟩
    · refine wpAny_in_of (kV_is ry) hsys dd.mapOf ?_
      rw [hw]
      exact h _ (I.tok _)
    · refine wpAny_in_heap (dk_room hu) is hsys dd ?_
      rw [hp]
      exact h _ (I.tok _)
theorem x_notIn {Q : Value → Shared → Prop} (hu : A.units + 64 < cLine) (I : Inv X pins σ H s) (hsys : (a == sysModules) = false) (V0 : Vw X Hf s.heap a kvs k y u) (h : ∀ s', Inv X pins σ H s' → Q (.bool (!(dicGet kvs k).isSome)) s') :
    wpAny (model X.prog X.w) A (compareOp .NotIn u (.ref a)) Q E s := by
  have z := V0.at
  cases g : dicGet kvs k with
  | some d =>
    rw [g] at z h
    obtain ⟨v, w', q, rw', z⟩ := z
    rcases z with ⟨κ, vs, ry, dd, hw⟩ | ⟨b, ws, p, rfl, is, dd, hp, rfl⟩
    · refine wpAny_notIn_of (kV_is ry) hsys dd.mapOf ?_
      rw [hw]
      exact h _ (I.tok _)
    · refine wpAny_notIn_heap (dk_room hu) is hsys dd ?_
      rw [hp]
      exact h _ (I.tok _)
  | none =>
    rw [g] at z h
    rcases z with ⟨κ, vs, ry, dd, hw⟩ | ⟨b, ws, rfl, is, dd, hp⟩
    · refine wpAny_notIn_of (kV_is ry) hsys dd.mapOf ?_
      rw [hw]
      exact h _ (I.tok _)
    · refine wpAny_notIn_heap (dk_room hu) is hsys dd ?_
      rw [hp]
      exact h _ (I.tok _)
end
end PD

namespace PD
open PySem PySem.Spec L2
open PyProof.Rows hiding St

noncomputable def dIx : D → D → Out D
  | .dic kvs, k => chk (DKey kvs k) (match dicGet kvs k with
    | some d => .ok d
    | none => .stuck)
  | x, k => dIxS x k
theorem dkey_flat {K : PySem.W.Frag} {mg : Mg} {Hf H : Hp} {kvs : List (D × D)} {k : D} {y : V} (d : DKey kvs k) (h : IsR K mg Hf H k y) : IsD K mg Hf k y := by
  rcases d with ⟨f, _⟩ | ⟨t, _⟩
  · cases k <;> first | exact h | cases f
  · obtain ⟨xs, e⟩ := t.tup
    cases k <;> first | exact h | (simp [toPy] at e; done)
def RdD (X : Cx) (Hf H : Hp) (kvs : List (D × D)) (k : D) (a : Addr) (y : V) : Prop := ∃ o, Same Hf H ∧ Rd H a o ∧ DicAt X.K X.mw Hf kvs a o ∧ IsD X.K X.mw Hf k y ∧ DKey kvs k
def rIxD (X : Cx) : R2 := fun x y H Q => ∃ a Hf kvs k d, x = .ref a ∧ RdD X Hf H kvs k a y ∧ dicGet kvs k = some d ∧ ∀ v, IsD X.K X.mw Hf d v → Q v H
section
variable {X : Cx}
theorem ty_dict {pins : List (Addr × Obj)} {σ : St} {H Hf : Hp} {s : Shared} {kvs : List (D × D)} {a : Addr} {o : HO} (I : Inv X pins σ H s) (hd : Rd H a o) (hk : DicAt X.K X.mw Hf kvs a o) : s.TypeIs (.ref a) "dict" ∧ (∀ b, Value.ref a = .ref b → ∃ ob, s.heap.get? b = some ob ∧ ob.dict = none) := by
  have ok := hd.ok I.hok
  rcases hk with ⟨xs, rfl, r⟩ | ⟨zs, rfl, r⟩
  · obtain ⟨z, hsys, vs, rel, ob, es, ep, h1, h2, _⟩ := (show ObjOk X.prog X.w H s.heap a (.dK xs) from ok)
    exact ⟨⟨ob, h1, h2.1⟩, fun b q => by cases q; exact ⟨ob, h1, h2.2.1⟩⟩
  · obtain ⟨hne, hsys, z, ws, rel, ob, es, ep, h1, h2, _⟩ := (show ObjOk X.prog X.w H s.heap a (dT X.w a zs) from ok).1
    exact ⟨⟨ob, h1, h2.1⟩, fun b q => by cases q; exact ⟨ob, h1, h2.2.1⟩⟩
theorem ix_dic (hu : X.A.units + 64 < cLine) : IxR X (rIxD X) := by
  intro value slice pins s σ H x y v u Q I rx ry h hs
  obtain ⟨a, Hf, kvs, k, d, rfl, ⟨o, sm, hd, hk, ky, dk⟩, g, q⟩ := h
  cases rx
  obtain ⟨_, _, V0⟩ := view I sm hd hk ky ry dk
  exact tail_any (ty_dict I hd hk).1 PySem.F.slot_dict_getitem.lookup (x_getItem hu I V0 g fun v w' s' I' q' rw' => ⟨v, H, I', rw', q v q'⟩) hs
theorem px_ix {kk : Nat} {g : G} {E : WX} {Γ Γ1 Γ2 : List Bool} {pos : Pos} {a b : Expr} {fa fb : Env → Out D} (hr : Room kk X.A) (ha : PX X g E Γ a Γ1 .rd fa) (hb : PX X g E Γ1 b Γ2 .rd fb) (hs : PlainIx b) : PX X g E Γ (.Subscript a b pos) Γ2 .fr (e2 dIx fa fb) := by
  refine ⟨hb.le.trans ha.le, (pe_ix (ix_seq.or (ix_dic hr.units)) ha.pe hb.pe hs).imp fun σ H Q ⟨ρ, Hf, R, k⟩ => ⟨ρ, Hf, R, ?_⟩⟩
  refine tG.bind hb.le k fun x F1 H1 s1 s2 R1 k1 v hv => ⟨ρ, F1, R1, ?_⟩
  refine tG.bind (Le.refl _) k1 fun y F2 H2 s3 s4 R2 k2 u hu => ?_
  replace hv := IsR.mono s3 s4 hv
  unfold dIx at k2
  split at k2
  · rename_i _ kvs
    refine .inr ?_
    by_cases c : DKey kvs y
    · rw [chk_pos c] at k2
      obtain ⟨p, o, rfl, q, r⟩ := hv
      cases gg : dicGet kvs y with
      | none => rw [gg] at k2; exact k2.elim
      | some d =>
        rw [gg] at k2
        exact ⟨p, F2, kvs, y, d, rfl, ⟨o, R2.same, q, r, dkey_flat c hu, c⟩, gg, fun v hv => k2 F2 H2 (Same.refl _) (Same.refl _) R2 v hv⟩
    · rw [chk_neg c] at k2; exact k2.elim
  · refine .inl ?_
    unfold dIxS at k2
    split at k2
    · rename_i ds i _
      obtain ⟨p, xs, rfl, q, r⟩ := hv
      cases hu
      cases e : atI ds i with
      | none => rw [e] at k2; exact k2.elim
      | some d =>
        rw [e] at k2
        obtain ⟨z, ez, hz⟩ := r.atI e
        exact .inl ⟨p, xs, i, z, rfl, rfl, .of q, ez, k2 F2 H2 (Same.refl _) (Same.refl _) R2 z hz⟩
    · rename_i ds i _
      simp only [Res, IsR, IsD] at hv
      obtain ⟨p, xs, rfl, q, r⟩ := hv
      cases hu
      cases e : atI ds i with
      | none => rw [e] at k2; exact k2.elim
      | some d =>
        rw [e] at k2
        obtain ⟨z, ez, hz⟩ := r.atI e
        exact .inr (.inl ⟨p, xs, i, z, rfl, rfl, Same.seqT R2.same q, ez, k2 F2 H2 (Same.refl _) (Same.refl _) R2 z hz⟩)
    · rename_i ns i _
      simp only [Res, IsR, IsD] at hv
      obtain ⟨p, rfl, q⟩ := hv
      cases hu
      cases e : atI ns i with
      | none => rw [e] at k2; exact k2.elim
      | some n =>
        rw [e] at k2
        have ez : atI (ns.map V.int) i = some (V.int n) := by
          unfold L2.atI at e ⊢
          rw [List.length_map]
          cases q : ixN ns.length i with
          | none => rw [q] at e; cases e
          | some j =>
            rw [q] at e
            show (ns.map V.int)[j]? = _
            rw [List.getElem?_map, show ns[j]? = some n from e]; rfl
        exact .inl ⟨p, _, i, _, rfl, rfl, R2.same.seq q, ez, k2 F2 H2 (Same.refl _) (Same.refl _) R2 _ (show IsD _ _ _ _ _ by simp only [IsD])⟩
    · rename_i z i _
      simp only [Res, IsR, IsD] at hv
      cases hu
      by_cases l : z.length ≤ sizeLine
      · rw [chk_pos l] at k2
        cases e : atI z.cps.toList i with
        | none => rw [e] at k2; exact k2.elim
        | some c =>
          rw [e] at k2
          exact .inr (.inr ⟨z, i, c, hv, rfl, l, e, k2 F2 H2 (Same.refl _) (Same.refl _) R2 _ (show IsD _ _ _ _ _ by simp only [IsD])⟩)
      · rw [chk_neg l] at k2; exact k2.elim
    · exact k2.elim
noncomputable def dInD (neg : Bool) : D → D → Out D
  | k, .dic kvs => chk (DKey kvs k) (.ok (.bl (if neg then !(dicGet kvs k).isSome else (dicGet kvs k).isSome)))
  | _, _ => .stuck
def rInD (X : Cx) (neg : Bool) : R2 := fun y x H Q => ∃ a Hf kvs k, x = .ref a ∧ RdD X Hf H kvs k a y ∧ Q (.bl (if neg then !(dicGet kvs k).isSome else (dicGet kvs k).isSome)) H
theorem op_inD (hu : X.A.units + 64 < cLine) : OpR X (compareOp .In) (rInD X false) := by
  intro pins s σ H y x u v Q I ry rx h
  obtain ⟨a, Hf, kvs, k, rfl, ⟨o, sm, hd, hk, ky, dk⟩, q⟩ := h
  cases rx
  obtain ⟨hsys, _, V0⟩ := view I sm hd hk ky ry dk
  exact x_in hu I hsys V0 fun s' I' => ⟨.bl _, H, I', rfl, q⟩
theorem op_notInD (hu : X.A.units + 64 < cLine) : OpR X (compareOp .NotIn) (rInD X true) := by
  intro pins s σ H y x u v Q I ry rx h
  obtain ⟨a, Hf, kvs, k, rfl, ⟨o, sm, hd, hk, ky, dk⟩, q⟩ := h
  cases rx
  obtain ⟨hsys, _, V0⟩ := view I sm hd hk ky ry dk
  exact x_notIn hu I hsys V0 fun s' I' => ⟨.bl _, H, I', rfl, q⟩
theorem opd_inD {m : Md} {f : Value → Value → Sem Value} {neg : Bool} (ho : OpR X f (rInD X neg)) : OpD X f m (dInD neg) := by
  refine ⟨_, ho, fun g E Γ ρ σ Hf H x y v u Q R hx hy k => ?_⟩
  unfold dInD at k
  split at k
  · rename_i kvs
    by_cases c : DKey kvs x
    · rw [chk_pos c] at k
      obtain ⟨p, o, rfl, q, r⟩ := hy
      exact ⟨p, Hf, kvs, x, rfl, ⟨o, R.same, q, r, dkey_flat c hx, c⟩, k Hf H (Same.refl _) (Same.refl _) R _ (Res.dat R.same rfl (by simp only [IsD]))⟩
    · rw [chk_neg c] at k; exact k.elim
  · exact k.elim
noncomputable def dIn : D → D → Out D := dOr (dInL false) (dOr dInS (dInD false))
theorem od_in {m : Md} {kk : Nat} (hr : Room kk X.A) : OpD X (compareOp .In) m dIn := od_inL.or (od_inS.or (opd_inD (op_inD hr.units)))
noncomputable def eGet2 (fd fk fx : Env → Out D) : Env → Out D := fun ρ => (fd ρ).bind fun d => match d with
  | .dic kvs => (fk ρ).bind fun k => (fx ρ).bind fun x => chk (DKey kvs k) (.ok ((dicGet kvs k).getD x))
  | _ => .stuck
theorem PSet.or {r r' : V → V → V → Hp → (Hp → Prop) → Prop} (h : PSet X r) (h' : PSet X r') : PSet X (fun o i v H Q => r o i v H Q ∨ r' o i v H Q) := by
  intro pins s σ H o y x ov iv u Q I ro ri rv q
  rcases q with q | q
  · exact h pins s σ H o y x ov iv u Q I ro ri rv q
  · exact h' pins s σ H o y x ov iv u Q I ro ri rv q
theorem IsDs.set {K : PySem.W.Frag} {mg : Mg} {H : Hp} {d : D} {v : V} (hv : IsD K mg H d v) : ∀ {ds : List D} {vs : List V} (j : Nat), IsDs K mg H ds vs → IsDs K mg H (ds.set j d) (vs.set j v)
  | [], _, _, h => by simp only [IsDs] at h; subst h; simp [IsDs]
  | x :: ds, _, 0, h => by
    simp only [IsDs] at h
    obtain ⟨u, us, rfl, q, r⟩ := h
    simp only [List.set_cons_zero, IsDs]
    exact ⟨_, _, rfl, hv, r⟩
  | x :: ds, _, j + 1, h => by
    simp only [IsDs] at h
    obtain ⟨u, us, rfl, q, r⟩ := h
    simp only [List.set_cons_succ, IsDs]
    exact ⟨_, _, rfl, q, IsDs.set hv j r⟩
noncomputable def putO : D → D → D → Out D
  | .lst xs, .int j, v => match ixN xs.length j with
    | some n => .ok (.lst (xs.set n v))
    | none => .stuck
  | .dic kvs, k, v => chk (DKey kvs k ∧ kvs.length < sizeLine) (.ok (.dic (dicPut kvs k v)))
  | _, _, _ => .stuck
noncomputable def sPut (i : Nat) (fk fv : Env → Out D) : Env → SO := fun ρ => oS (fv ρ) fun v => oS (eV i ρ) fun x => oS (fk ρ) fun k => oS (putO x k v) fun y => .nx (ρ.set i (some y))
end
theorem dIx_lst {ds : List D} {k : Nat} {d : D} (h : ds[k]? = some d) : dIx (.lst ds) (.int k) = .ok d := by
  show (match atI ds (k : Nat) with | some n => Out.ok n | none => .stuck) = _
  rw [atI_nat h]
theorem dIx_tup {ds : List D} {k : Nat} {d : D} (h : ds[k]? = some d) : dIx (.tup ds) (.int k) = .ok d := by
  show (match atI ds (k : Nat) with | some n => Out.ok n | none => .stuck) = _
  rw [atI_nat h]
theorem dIx_scr {ns : List Int} {k : Nat} {n : Int} (h : ns[k]? = some n) : dIx (.scr ns) (.int k) = .ok (.int n) := by
  show (match atI ns (k : Nat) with | some n => Out.ok (D.int n) | none => .stuck) = _
  rw [atI_nat h]
end PD

namespace PD
open PySem PySem.Calls PyProof.Rows
open PySem.W (EachIs AllAlike Sortable SortsAt dataKind dataType dataLt alike alikeAll dataLe keyToks keyToksAll)

section
variable {prog : Program} {w : World} {A : Around} {E : Value → Shared → Prop} {s : Shared}
variable {β : Type} {vs : List Value} {bs : List β} {enc : β → PyData} {R : Value → β → Prop}
end
end PD

namespace PD
section
open PySem PySem.Calls PyProof.Rows
open PySem.W (EachIs AllAlike Sortable SortsAt dataKind dataType dataLt alike alikeAll dataLe keyToks keyToksAll)
end
end PD

namespace PD
open PySem PySem.Spec L2
open PyProof.Rows hiding St
open PySem.W (EachIs AllAlike dataLt alike dataLe)

def OrdOk (x y : D) : Prop := keyP (toPy x) = true ∧ keyP (toPy y) = true ∧ alike (toPy x) (toPy y) = true ∧ (toPy x).depth ≤ 60 ∧ ∃ ds, x = .tup ds
noncomputable def dLtK : D → D → Out D := fun x y => chk (OrdOk x y) (.ok (.bl (dataLt (toPy x) (toPy y))))
noncomputable def dGeK : D → D → Out D := fun x y => chk (OrdOk x y) (.ok (.bl (!dataLt (toPy x) (toPy y))))
section
variable {X : Cx} {m : Md}
def rOrd (X : Cx) (F : Bool → Bool) : R2 := fun x y H Q => ∃ d e, Dp X.K H x d ∧ Dp X.K H y e ∧ keyP d = true ∧ alike d e = true ∧ d.depth ≤ 60 ∧ Q (.bl (F (dataLt d e))) H
theorem op_ltK (hu : X.A.units + 64 < cLine) : OpR X (compareOp .Lt) (rOrd X id) := by
  intro pins s σ H x y v u Q I rx ry h
  obtain ⟨d, e, hd, he, kd, al, dp, q⟩ := h
  obtain ⟨as, r1⟩ := Dp.reads I d x v hd rx
  obtain ⟨bs, r2⟩ := Dp.reads I e y u he ry
  refine PySem.W.rcLt_alike d e X.A s v u as bs r1 r2 al (fun z => by subst z; cases kd) ?_ X.prog X.w _ _ ⟨.bl _, H, I, rfl, q⟩
  have := Nat.min_le_left d.depth e.depth
  omega
theorem od_ltK {kk : Nat} (hr : Room kk X.A) : OpD X (compareOp .Lt) m dLtK := by
  refine ⟨_, op_ltK hr.units, fun g E Γ ρ σ Hf H x y v u Q R hx hy k => ?_⟩
  unfold dLtK at k
  by_cases c : OrdOk x y
  · rw [chk_pos c] at k
    obtain ⟨c1, c2, c3, c4, _⟩ := c
    exact ⟨toPy x, toPy y, dp_read R.same hx (keyP_lay _ c1), dp_read R.same hy (keyP_lay _ c2), c1, c3, c4, k Hf H (Same.refl _) (Same.refl _) R _ (Res.dat R.same rfl (by simp only [IsD, id]))⟩
  · rw [chk_neg c] at k; exact k.elim
noncomputable def dLt : D → D → Out D := dOr dLtI (dOr dLtS dLtK)
noncomputable def dGe : D → D → Out D := dOr dGeI (dOr dGeS dGeK)
theorem od_lt {k : Nat} (hr : Room k X.A) : OpD X (compareOp .Lt) m dLt := od_ltI.or ((opd_str op_lt_str).or (od_ltK hr))
end
theorem dLt_int (i j : Int) : dLt (.int i) (.int j) = .ok (.bl (decide (i < j))) := rfl
theorem dGe_int (i j : Int) : dGe (.int i) (.int j) = .ok (.bl (decide (j ≤ i))) := rfl
end PD

namespace PD
open PySem PySem.Spec L2
open PyProof.Rows hiding St

theorem oN_ap (ρ : Env) : oN ρ = .ok none := rfl
theorem oI_ap (f : Env → Out D) (ρ : Env) : oI f ρ = (f ρ).bind fun d => match d with
  | .int i => .ok (some i)
  | _ => .stuck := rfl
theorem eSl_ap (f : Env → Out D) (lo hi : Env → Out (Option Int)) (ρ : Env) : eSl f lo hi ρ = (f ρ).bind fun x => (lo ρ).bind fun l => (hi ρ).bind fun u => dSl x l u := rfl
theorem eSlSt_ap (f : Env → Out D) (lo hi st : Env → Out (Option Int)) (ρ : Env) : eSlSt f lo hi st ρ = (f ρ).bind fun x => (lo ρ).bind fun l => (hi ρ).bind fun u => (st ρ).bind fun s => dSlSt x l u s := rfl
theorem eS2_ap (F : Str → Str → D) (fa fb : Env → Out D) (ρ : Env) : eS2 F fa fb ρ = (fa ρ).bind fun x => match x with
  | .str a => (fb ρ).bind fun y => match y with
    | .str b => .ok (F a b)
    | _ => .stuck
  | _ => .stuck := rfl
theorem eLc_ap (vs : List Nat) (G : D → Env → Out Env) (it : Env → Out (List D)) (tt : Env → Out Bool) (f : Env → Out D) (ρ : Env) : eLc vs G it tt f ρ = (it ρ).bind fun ds => chk (ds.length ≤ sizeLine) ((lcL G tt f (wipeE ρ vs) ds).bind fun ys => .ok (.lst ys)) := rfl
theorem bYes_ap (ρ : Env) : bYes ρ = .ok true := rfl
theorem wipeE_nil (ρ : Env) : wipeE ρ [] = ρ := rfl
theorem wipeE_cons (ρ : Env) (v : Nat) (vs : List Nat) : wipeE ρ (v :: vs) = (wipeE ρ vs).set v none := rfl
theorem eGet2_ap (fd fk fx : Env → Out D) (ρ : Env) : eGet2 fd fk fx ρ = (fd ρ).bind fun d => match d with
  | .dic kvs => (fk ρ).bind fun k => (fx ρ).bind fun x => chk (DKey kvs k) (.ok ((dicGet kvs k).getD x))
  | _ => .stuck := rfl
theorem sPut_ap (i : Nat) (fk fv : Env → Out D) (ρ : Env) : sPut i fk fv ρ = oS (fv ρ) fun v => oS (eV i ρ) fun x => oS (fk ρ) fun k => oS (putO x k v) fun y => .nx (ρ.set i (some y)) := rfl
theorem dSl_lst (ds : List D) (lo hi : Option Int) : dSl (.lst ds) lo hi = .ok (.lst (cutD ds lo hi)) := rfl
theorem dSl_tup (ds : List D) (lo hi : Option Int) : dSl (.tup ds) lo hi = .ok (.tup (cutD ds lo hi)) := rfl
theorem dSl_scr (ns : List Int) (lo hi : Option Int) : dSl (.scr ns) lo hi = .ok (.lst ((cutD ns lo hi).map .int)) := rfl
theorem dSl_str {z : Str} (h : z.length ≤ 16777216) (lo hi : Option Int) : dSl (.str z) lo hi = .ok (.str (cutS z lo hi)) := chk_pos h
theorem cList_lst (ds : List D) : cList [.lst ds] = .ok (.lst ds) := rfl
theorem cList_tup (ds : List D) : cList [.tup ds] = .ok (.lst ds) := rfl
theorem cTuple_lst (ds : List D) : cTuple [.lst ds] = .ok (.tup ds) := rfl
theorem cTuple_tup (ds : List D) : cTuple [.tup ds] = .ok (.tup ds) := rfl
theorem lcL_cons (G : D → Env → Out Env) (tt : Env → Out Bool) (f : Env → Out D) (ρ : Env) (d : D) (ds : List D) : lcL G tt f ρ (d :: ds) = (G d ρ).nox.bind fun ρ1 => (tt ρ1).nox.bind fun b => if b = true then (f ρ1).nox.bind fun y => (lcL G tt f ρ ds).bind fun ys => .ok (y :: ys) else lcL G tt f ρ ds := rfl
end PD

namespace PD
open PySem PySem.Spec L2
open PyProof.Rows hiding St

def SO.at (o : SO) (i : Nat) (d : D) : SO := match o with
  | .nx r => .nx (r.set i (some d))
  | .bk r => .bk (r.set i (some d))
  | .ct r => .ct (r.set i (some d))
  | o => o
section
variable {i j : Nat}
end

noncomputable def sRow (i j : Nat) (fk fv : Env → Out D) : Env → SO := fun r => match r[i]? with
  | some (some (.dic kvs)) => oS (fk r) fun k => chkS (flatK k = true ∧ kvs.length < sizeLine ∧ j < r.length) (match (dicGet kvs k).getD (.lst []) with
    | .lst ds => oS (fv (r.set j none)) fun v => chkS (ds.length < sizeLine) (.nx ((r.set j none).set i (some (.dic (dicPut kvs k (.lst (ds ++ [v])))))))
    | _ => .stuck)
  | _ => .stuck

section
variable {K : PySem.W.Frag} {mg : Mg} {g0 Hf H Hf' H' : Hp}
def RowAt (K : PySem.W.Frag) (mg : Mg) (g0 Hf H : Hp) (d : D) (v : V) : Prop := ∃ ds b ys, d = .lst ds ∧ v = .ref b ∧ g0 b = none ∧ Hf b = none ∧ H b = some (.lst ys) ∧ IsDs K mg Hf ds ys
def Rows (K : PySem.W.Frag) (mg : Mg) (g0 Hf H : Hp) : List (D × D) → List (Key × V) → Prop
  | [], xs => xs = []
  | p :: ps, xs => ∃ q qs, xs = q :: qs ∧ p.1 = kD q.1 ∧ RowAt K mg g0 Hf H p.2 q.2 ∧ Rows K mg g0 Hf H ps qs
theorem RowAt.mono {d : D} {v : V} (s1 : Same Hf Hf') (s2 : Same H H') (nw : ∀ b o, Hf b = none → H b = some o → Hf' b = none) (h : RowAt K mg g0 Hf H d v) : RowAt K mg g0 Hf' H' d v := by
  obtain ⟨ds, b, ys, e1, e2, z0, zf, q, r⟩ := h
  exact ⟨ds, b, ys, e1, e2, z0, nw _ _ zf q, s2 _ _ q, IsDs.mono s1 r⟩
theorem Rows.mono (s1 : Same Hf Hf') (s2 : Same H H') (nw : ∀ b o, Hf b = none → H b = some o → Hf' b = none) : ∀ {ps : List (D × D)} {xs : List (Key × V)}, Rows K mg g0 Hf H ps xs → Rows K mg g0 Hf' H' ps xs
  | [], _, h => h
  | _ :: _, _, ⟨q, qs, e, k, r, t⟩ => ⟨q, qs, e, k, r.mono s1 s2 nw, Rows.mono s1 s2 nw t⟩
theorem Rows.other {b : Addr} {o : HO} : ∀ {ps : List (D × D)} {xs : List (Key × V)}, (V.ref b ∉ xs.map (·.2)) → Rows K mg g0 Hf H ps xs → Rows K mg g0 Hf (upd H b o) ps xs
  | [], _, _, h => h
  | _ :: _, _, n, ⟨q, qs, e, k, ⟨ds, c, ys, e1, e2, z0, zf, hq, r⟩, t⟩ => by
    subst e
    rw [List.map_cons, List.mem_cons, not_or] at n
    exact ⟨q, qs, rfl, k, ⟨ds, c, ys, e1, e2, z0, zf, by rw [upd_ne (fun z => n.1 (by rw [e2, z]))]; exact hq, r⟩, Rows.other n.2 t⟩
theorem Rows.keys : ∀ {ps : List (D × D)} {xs : List (Key × V)}, Rows K mg g0 Hf H ps xs → ps.map (·.1) = xs.map fun q => kD q.1
  | [], _, h => by cases h; rfl
  | _ :: _, _, ⟨q, qs, e, k, _, t⟩ => by subst e; rw [List.map_cons, List.map_cons, k, Rows.keys t]
theorem Rows.len {ps : List (D × D)} {xs : List (Key × V)} (h : Rows K mg g0 Hf H ps xs) : xs.length = ps.length := by
  have := congrArg List.length h.keys
  simpa using this.symm
theorem Rows.get (κ : Key) : ∀ {ps : List (D × D)} {xs : List (Key × V)}, Rows K mg g0 Hf H ps xs → match dicGet ps (kD κ) with
    | some d => ∃ v, valV xs κ = some v ∧ RowAt K mg g0 Hf H d v
    | none => valV xs κ = none
  | [], xs, h => by cases h; rfl
  | (k, d) :: ps, xs, ⟨q, qs, e, k1, r, t⟩ => by
    subst e
    simp only at k1 r
    by_cases z : q.1 = κ
    · rw [dicGet_pos (by rw [k1, z])]
      exact ⟨q.2, valV_pos z, r⟩
    · rw [dicGet_neg (fun y => z (kD_inj (k1.symm.trans y))), valV_neg z]
      exact Rows.get κ t
theorem Rows.snoc {κ : Key} {b : Addr} {ds' : List D} {ys' : List V} (r' : IsDs K mg Hf ds' ys') (z0 : g0 b = none) (zf : Hf b = none) (e : H b = some (.lst ys')) : ∀ {ps : List (D × D)} {xs : List (Key × V)}, Rows K mg g0 Hf H ps xs →
    Rows K mg g0 Hf H (ps ++ [(kD κ, .lst ds')]) (xs ++ [(κ, .ref b)])
  | [], _, h => by cases h; exact ⟨_, [], rfl, rfl, ⟨ds', b, ys', rfl, rfl, z0, zf, e, r'⟩, rfl⟩
  | _ :: _, _, ⟨q, qs, eq, k, r, t⟩ => by
    subst eq
    exact ⟨q, qs ++ [(κ, .ref b)], rfl, k, r, Rows.snoc r' z0 zf e t⟩
theorem Rows.data {F : Hp} (s : Same Hf F) : ∀ {ps : List (D × D)} {xs : List (Key × V)}, (∀ v ∈ xs.map (·.2), ∀ b, v = .ref b → F b = H b) → Rows K mg g0 Hf H ps xs → IsKVs K mg F ps xs
  | [], _, _, h => by cases h; simp only [IsKVs]
  | p :: ps, _, n, ⟨q, qs, eq, k, ⟨ds, c, ys, e3, e4, z0, zf, hq, r⟩, t⟩ => by
    subst eq
    obtain ⟨p1, p2⟩ := p
    simp only [IsKVs, IsKV]
    refine ⟨q, qs, rfl, ⟨k, ?_⟩, Rows.data s (fun v m => n v (List.mem_cons_of_mem _ m)) t⟩
    simp only at e3
    rw [e3]
    simp only [IsD]
    exact ⟨c, ys, e4, (n _ List.mem_cons_self c e4).trans hq, IsDs.mono s r⟩
structure Deep (K : PySem.W.Frag) (mg : Mg) (g0 Hf H : Hp) (a : Addr) (kvs : List (D × D)) (xs : List (Key × V)) : Prop where
  at_ : H a = some (.dK xs)
  z0 : g0 a = none
  zf : Hf a = none
  rows : Rows K mg g0 Hf H kvs xs
  n1 : (xs.map (·.1)).Nodup
  n2 : (xs.map (·.2)).Nodup
theorem Deep.mono {a : Addr} {kvs : List (D × D)} {xs : List (Key × V)} (s1 : Same Hf Hf') (s2 : Same H H') (nw : ∀ b o, Hf b = none → H b = some o → Hf' b = none) (h : Deep K mg g0 Hf H a kvs xs) : Deep K mg g0 Hf' H' a kvs xs :=
  ⟨s2 _ _ h.at_, h.z0, nw _ _ h.zf h.at_, h.rows.mono s1 s2 nw, h.n1, h.n2⟩
end
section
variable {X : Cx} {g : G} {E : WX} {ro : Bool} {Γl Γ Γ1 Γ2 Γ3 : List Bool} {m : Md} {pos : Pos} {ρ ρ' : Env} {σ σ' : St} {Hf H Hf' H' : Hp}
theorem Rp.keep (no : ∀ i, ¬ Own Γ i) (R : Rp X.K X.mw g Γ ρ σ Hf H) : Rp X.K X.mw ⟨H, Hf, g.slf⟩ Γ ρ σ Hf H :=
  ⟨R.same, Same.refl _, Same.refl _, fun a o e => .inl e, R.len, fun i d o e => (no i o).elim, R.dat, fun i j d e v n o => (no i o).elim⟩
theorem Rp.nw (R' : Rp X.K X.mw ⟨H, Hf, g.slf⟩ Γ ρ' σ' Hf' H') : ∀ b o, Hf b = none → H b = some o → Hf' b = none := fun b o e1 e2 => by
  cases z : Hf' b with
  | none => rfl
  | some o' =>
    rcases R'.news b o' z with y | y
    · rw [show Hf b = some o' from y] at e1; cases e1
    · rw [show H b = none from y] at e2; cases e2
theorem Rp.adr (R : Rp X.K X.mw g Γ ρ σ Hf H) {i : Nat} {a : Addr} (no : ¬ Own Γ i) (e : ρ[i]? = some (some (.adr a))) : σ[i]? = some (some (.ref a)) := by
  obtain ⟨v, ev, r⟩ := R.dat i _ no e
  simp only [IsD] at r
  subst r
  exact ev
theorem Rp.any (no : ∀ i, ¬ Own Γ i) (R : Rp X.K X.mw g Γ ρ σ Hf H) {a : Addr} {o' : HO} (z0 : g.H0 a = none) (zf : Hf a = none) : Rp X.K X.mw g Γ ρ σ Hf (upd H a o') :=
  R.other z0 zf fun i e o => (no i o).elim
noncomputable def sForR (i : Nat) (G : D → Env → Out Env) (it : Env → Out (List D)) (b : Env → SO) : Env → SO := fun ρ => chkS (ρ[i]? = some (some (.dic []))) (sFor G it b ρ)
end
end PD

namespace PD
open PySem PySem.Spec L2
open PyProof.Rows hiding St

section
variable {X : Cx} {g : G} {E : WX} {ro : Bool} {Γl Γ Γ0 : List Bool}
variable {pos : Pos}
theorem sForR_ap (i : Nat) (G : D → Env → Out Env) (it : Env → Out (List D)) (b : Env → SO) (ρ : Env) : sForR i G it b ρ = chkS (ρ[i]? = some (some (.dic []))) (oS (it ρ) fun ds => forL G b ds ρ) := rfl
def eD (i : Nat) : Env → Out (List (D × D)) := fun ρ => match ρ[i]? with
  | some (some (.dic xs)) => .ok xs
  | _ => .stuck
theorem eD_0 (xs : List (D × D)) (ρ : Env) : eD 0 (some (.dic xs) :: ρ) = .ok xs := rfl
theorem eD_s (i : Nat) (x : Option D) (ρ : Env) : eD (i + 1) (x :: ρ) = eD i ρ := by simp [eD]
def asL : Option D → Out (List D)
  | none => .ok []
  | some (.lst ds) => .ok ds
  | _ => .stuck
theorem asL_none : asL none = .ok [] := rfl
theorem asL_some (ds : List D) : asL (some (.lst ds)) = .ok ds := rfl
theorem sRow_ap (i j : Nat) (fk fv : Env → Out D) (ρ : Env) : sRow i j fk fv ρ = oS (eD i ρ) fun kvs => oS (fk ρ) fun k => chkS (flatK k = true ∧ kvs.length < sizeLine ∧ j < ρ.length) (oS (asL (dicGet kvs k)) fun ds => oS (fv (ρ.set j none)) fun v => chkS (ds.length < sizeLine) (.nx ((ρ.set j none).set i (some (.dic (dicPut kvs k (.lst (ds ++ [v]))))))) ) := by
  unfold sRow eD
  cases ρ[i]? with
  | none => rfl
  | some o =>
    cases o with
    | none => rfl
    | some d =>
      cases d with
      | dic kvs =>
        show (oS (fk ρ) fun k => _) = oS (Out.ok kvs) fun kvs => oS (fk ρ) fun k => _
        rw [oS_ok]
        congr 1
        funext k
        congr 1
        cases dicGet kvs k with
        | none => rfl
        | some d => cases d <;> rfl
      | _ => rfl
end
end PD

namespace PD
open PySem PySem.Spec L2
open PyProof.Rows hiding St

theorem chk_bind {α β : Type} (p : Prop) (o : Out α) (k : α → Out β) : (chk p o).bind k = chk p (o.bind k) := by
  by_cases h : p
  · rw [chk_pos h, chk_pos h]
  · rw [chk_neg h, chk_neg h]; rfl
theorem oS_chk {α : Type} (p : Prop) (o : Out α) (k : α → SO) : oS (chk p o) k = chkS p (oS o k) := by
  by_cases h : p
  · rw [chk_pos h, chkS_pos h]
  · rw [chk_neg h, chkS_neg h]; rfl
theorem chkS_andThen (p : Prop) (o : SO) (k : Env → SO) : (chkS p o).andThen k = chkS p (o.andThen k) := by
  by_cases h : p
  · rw [chkS_pos h, chkS_pos h]
  · rw [chkS_neg h, chkS_neg h]; rfl
theorem chkS_turn (p : Prop) (o : SO) (k : Env → SO) : (chkS p o).turn k = chkS p (o.turn k) := by
  by_cases h : p
  · rw [chkS_pos h, chkS_pos h]
  · rw [chkS_neg h, chkS_neg h]; rfl
theorem chkS_res (p : Prop) (o : SO) : (chkS p o).res = chk p o.res := by
  by_cases h : p
  · rw [chkS_pos h, chk_pos h]
  · rw [chkS_neg h, chk_neg h]; rfl
theorem chk_nox {α : Type} (p : Prop) (o : Out α) : (chk p o).nox = chk p o.nox := by
  by_cases h : p
  · rw [chk_pos h, chk_pos h]
  · rw [chk_neg h, chk_neg h]; rfl
theorem chk_ok {α : Type} (p : Prop) (o : Out α) (a : α) : chk p o = .ok a ↔ p ∧ o = .ok a := by
  by_cases h : p
  · rw [chk_pos h]; exact ⟨fun e => ⟨h, e⟩, fun e => e.2⟩
  · rw [chk_neg h]; exact ⟨fun e => (by cases e), fun e => absurd e.1 h⟩
theorem chk_go {α : Type} {p : Prop} {o r : Out α} (h : p) (e : o = r) : chk p o = r := (chk_pos h).trans e
theorem chkS_go {p : Prop} {o r : SO} (h : p) (e : o = r) : chkS p o = r := (chkS_pos h).trans e
theorem chk_true {α : Type} (o : Out α) : chk True o = o := chk_pos trivial
theorem chkS_true (o : SO) : chkS True o = o := chkS_pos trivial
theorem mul_chk (i j : Int) : dMul (.int i) (.int j) = chk (CMulX i j) (.ok (.int (i * j))) := rfl
theorem div_chk (i j : Int) : dDiv (.int i) (.int j) = chk (CDivW i j) (.ok (.int (i / j))) := rfl
theorem mod_chk (i j : Int) : dMod (.int i) (.int j) = chk (0 < j) (.ok (.int (i % j))) := rfl
theorem cmul_sz {n m : Nat} {i j : Int} (h : Sz n i) (k : Sz m j) (l : n + m ≤ 134217728) : CMulX i j := by
  have := dMul_int h k l
  rw [mul_chk, chk_ok] at this
  exact this.1
theorem rng1_chk (j : Int) : rng1 [.int j] = chk (-(2 ^ 62) ≤ j ∧ j < 2 ^ 62) (.ok ((List.range j.toNat).map fun (n : Nat) => .int n)) := rfl
theorem rng2_chk (i j : Int) : rng2 [.int i, .int j] = chk ((-(2 ^ 62) ≤ i ∧ i < 2 ^ 62) ∧ -(2 ^ 62) ≤ j ∧ j < 2 ^ 62) (.ok ((List.range (j - i).toNat).map fun (n : Nat) => .int (i + n))) := rfl
theorem len_ok {n : Nat} (h : n ≤ 16777216) : n ≤ sizeLine := h
theorem len_lt {n : Nat} (h : n < 16777216) : n < sizeLine := h

def SO.cont (o : SO) : SO := match o with
  | .ct r => .nx r
  | o => o
theorem cont_nx (r : Env) : (SO.nx r).cont = .nx r := rfl
theorem cont_ct (r : Env) : (SO.ct r).cont = .nx r := rfl
theorem cont_chkS (p : Prop) (o : SO) : (chkS p o).cont = chkS p o.cont := by
  by_cases h : p
  · rw [chkS_pos h, chkS_pos h]
  · rw [chkS_neg h, chkS_neg h]; rfl
theorem cont_ite (c : Prop) [Decidable c] (a b : SO) : (if c then a else b).cont = if c then a.cont else b.cont := by split <;> rfl
theorem cont_rt (d : D) : (SO.rt d).cont = .rt d := rfl
theorem cont_bk (r : Env) : (SO.bk r).cont = .bk r := rfl
theorem turn_of_cont {o : SO} {r : Env} (h : o.cont = .nx r) (k : Env → SO) : o.turn k = k r := by
  cases o with
  | nx r' => cases h; rfl
  | ct r' => cases h; rfl
  | _ => cases h
theorem forL_step {G : D → Env → Out Env} {b : Env → SO} {d : D} {ds : List D} {ρ ρ' : Env} (h : (oS (G d ρ) b).cont = .nx ρ') : forL G b (d :: ds) ρ = forL G b ds ρ' := by
  rw [forL_cons]
  cases hG : G d ρ with
  | ok r => rw [hG] at h; exact turn_of_cont h _
  | exc x => rw [hG] at h; cases h
  | stuck => rw [hG] at h; cases h
theorem forL_inv {α : Type} (enc : α → D) {G : D → Env → Out Env} {b : Env → SO} (I : List α → Env → Prop) (xs : List α) {ρ : Env} (h0 : I [] ρ)
    (hs : ∀ pre x post ρ, xs = pre ++ x :: post → I pre ρ → ∃ ρ', (oS (G (enc x) ρ) b).cont = .nx ρ' ∧ I (pre ++ [x]) ρ') : ∃ ρ', forL G b (xs.map enc) ρ = .nx ρ' ∧ I xs ρ' := by
  have key : ∀ (post pre : List α) (ρ : Env), xs = pre ++ post → I pre ρ → ∃ ρ', forL G b (post.map enc) ρ = .nx ρ' ∧ I xs ρ' := by
    intro post
    induction post with
    | nil => intro pre ρ e h; rw [List.append_nil] at e; subst e; exact ⟨ρ, rfl, h⟩
    | cons x post ih =>
      intro pre ρ e h
      obtain ⟨ρ1, e1, h1⟩ := hs pre x post ρ e h
      obtain ⟨ρ2, e2, h2⟩ := ih (pre ++ [x]) ρ1 (by simp [e]) h1
      exact ⟨ρ2, by rw [List.map_cons, forL_step e1, e2], h2⟩
  exact key xs [] ρ rfl h0
theorem lcL_map {α : Type} (enc : α → D) (f : α → D) {G : D → Env → Out Env} {tt : Env → Out Bool} {fe : Env → Out D} {ρ : Env} : ∀ (xs : List α), (∀ x ∈ xs, ((G (enc x) ρ).nox.bind fun ρ1 => (tt ρ1).nox.bind fun b => if b = true then (fe ρ1).nox else .stuck) = .ok (f x)) →
    lcL G tt fe ρ (xs.map enc) = .ok (xs.map f)
  | [], _ => rfl
  | x :: xs, h => by
    have ih := lcL_map enc f xs fun y hy => h y (List.mem_cons_of_mem _ hy)
    have hx := h x List.mem_cons_self
    rw [List.map_cons, lcL_cons, ih]
    cases h1 : (G (enc x) ρ).nox with
    | ok ρ1 =>
      rw [h1, Out.bind_ok] at hx
      rw [Out.bind_ok]
      cases h2 : (tt ρ1).nox with
      | ok b =>
        rw [h2, Out.bind_ok] at hx
        rw [Out.bind_ok]
        cases b with
        | true =>
          rw [if_pos rfl] at hx ⊢
          rw [hx]; rfl
        | false => rw [if_neg Bool.false_ne_true] at hx; cases hx
      | exc x => rw [h2] at hx; cases hx
      | stuck => rw [h2] at hx; cases hx
    | exc x => rw [h1] at hx; cases hx
    | stuck => rw [h1] at hx; cases hx
theorem ixt0 (a : D) (l : List D) : dIx (.tup (a :: l)) (.int 0) = .ok a := dIx_tup (k := 0) rfl
theorem ixt1 (a b : D) (l : List D) : dIx (.tup (a :: b :: l)) (.int 1) = .ok b := dIx_tup (k := 1) rfl
theorem ixt2 (a b c : D) (l : List D) : dIx (.tup (a :: b :: c :: l)) (.int 2) = .ok c := dIx_tup (k := 2) rfl
theorem ixt3 (a b c d : D) (l : List D) : dIx (.tup (a :: b :: c :: d :: l)) (.int 3) = .ok d := dIx_tup (k := 3) rfl
theorem ixl0 (a : D) (l : List D) : dIx (.lst (a :: l)) (.int 0) = .ok a := dIx_lst (k := 0) rfl
theorem ixl1 (a b : D) (l : List D) : dIx (.lst (a :: b :: l)) (.int 1) = .ok b := dIx_lst (k := 1) rfl
theorem ixl2 (a b c : D) (l : List D) : dIx (.lst (a :: b :: c :: l)) (.int 2) = .ok c := dIx_lst (k := 2) rfl
theorem ixl3 (a b c d : D) (l : List D) : dIx (.lst (a :: b :: c :: d :: l)) (.int 3) = .ok d := dIx_lst (k := 3) rfl
end PD

namespace PD
open PySem PySem.Spec L2
open PyProof.Rows hiding St

section
variable {K : PySem.W.Frag} {mg : Mg} {H H' : Hp}
end
section
variable {X : Cx} {g : G} {E : WX} {ro : Bool} {Γl Γ Γ1 Γ2 : List Bool} {pos : Pos} {ρ ρ' : Env} {σ σ' : St} {Hf H Hf' H' F : Hp} {a : Addr} {u : HO} {od : Obj}
end
end PD

namespace PD
open PySem PySem.Spec L2
open PyProof.Rows hiding St

section
variable {X : Cx} {g : G} {E : WX} {ro : Bool} {Γl Γ Γ1 Γ2 : List Bool} {pos p : Pos} {ρ : Env}
end
end PD

namespace PD
open PySem PySem.Spec L2
open PyProof.Rows hiding St

section
variable {X : Cx} {g : G} {E : WX} {ro : Bool} {Γl Γ Γ1 Γ2 : List Bool} {pos p : Pos} {ρ : Env} {m : Md}
theorem PX.pre {e : Expr} {f : Env → Out D} (h : PX X g E Γ e Γ1 m f) (le : Le Γ Γ2) : PX X g E Γ2 e Γ1 m f := by
  refine ⟨h.le.trans le, h.pe.imp fun σ H Q ⟨ρ, Hf, R, q⟩ => ?_⟩
  obtain ⟨F2, s3, R2, _⟩ := R.frz le
  exact ⟨ρ, F2, R2, tG.mono s3 (Same.refl _) q⟩
def sLM (i : Nat) (F : List D → List D → Out (List D)) (fa : Env → Out (List D)) : Env → SO := fun ρ => oS (eL i ρ) fun xs => oS (fa ρ) fun ds => oS (F xs ds) fun xs' => .nx (ρ.set i (some (.lst xs')))
def LMok (X : Cx) (id : String) (F : List D → List D → Out (List D)) : Prop := (∀ xs ds x, F xs ds ≠ .exc x) ∧ ∃ r, MtR X id r ∧ ∀ (Hf H : Hp) (p : Addr) (xs ds : List D) (ys vs : List V) (Q : VK), Same Hf H → H p = some (.lst ys) → Hf p = none → IsDs X.K X.mw Hf xs ys → IsDs X.K X.mw Hf ds vs →
  (match F xs ds with
    | .ok xs' => ∀ ys', IsDs X.K X.mw Hf xs' ys' → Q .non (upd H p (.lst ys'))
    | _ => False) → r (.ref p) vs H Q
noncomputable def lmInsert : List D → List D → Out (List D) := fun xs ds => match ds with
  | [.int i, d] => chk (xs.length < sizeLine ∧ 0 ≤ i ∧ i < 2 ^ 63) (.ok (xs.take i.toNat ++ [d] ++ xs.drop i.toNat))
  | _ => .stuck
theorem LMok.of {id : String} {F : List D → List D → Out (List D)} (nx : ∀ xs ds x, F xs ds ≠ .exc x) {r : V → List V → Hp → VK → Prop} (mt : MtR X id r) (h : ∀ (Hf H : Hp) (p : Addr) (xs ds xs' : List D) (ys vs : List V) (Q : VK), Same Hf H → H p = some (.lst ys) → Hf p = none → IsDs X.K X.mw Hf xs ys → IsDs X.K X.mw Hf ds vs →
    F xs ds = .ok xs' → (∀ ys', IsDs X.K X.mw Hf xs' ys' → Q .non (upd H p (.lst ys'))) → r (.ref p) vs H Q) : LMok X id F := by
  refine ⟨nx, r, mt, fun Hf H p xs ds ys vs Q s e zf rr hv k => ?_⟩
  cases hF : F xs ds with
  | ok xs' => rw [hF] at k; exact h Hf H p xs ds xs' ys vs Q s e zf rr hv hF k
  | exc x => rw [hF] at k; exact k.elim
  | stuck => rw [hF] at k; exact k.elim
noncomputable def lmExtend : List D → List D → Out (List D) := fun xs ds => match ds with
  | [.lst zs] => chk (xs.length + zs.length ≤ sizeLine) (.ok (xs ++ zs))
  | [.tup zs] => chk (xs.length + zs.length ≤ sizeLine) (.ok (xs ++ zs))
  | _ => .stuck
theorem sLM_ap (i : Nat) (F : List D → List D → Out (List D)) (fa : Env → Out (List D)) (ρ : Env) : sLM i F fa ρ = oS (eL i ρ) fun xs => oS (fa ρ) fun ds => oS (F xs ds) fun xs' => .nx (ρ.set i (some (.lst xs'))) := rfl
theorem lmInsert_ap (xs : List D) (i : Int) (d : D) : lmInsert xs [.int i, d] = chk (xs.length < sizeLine ∧ 0 ≤ i ∧ i < 2 ^ 63) (.ok (xs.take i.toNat ++ [d] ++ xs.drop i.toNat)) := rfl
theorem lmExtend_lst (xs zs : List D) : lmExtend xs [.lst zs] = chk (xs.length + zs.length ≤ sizeLine) (.ok (xs ++ zs)) := rfl
theorem lmExtend_tup (xs zs : List D) : lmExtend xs [.tup zs] = chk (xs.length + zs.length ≤ sizeLine) (.ok (xs ++ zs)) := rfl
noncomputable def sDPop (i : Nat) (fk : Env → Out D) : Env → SO := fun ρ => oS (eD i ρ) fun kvs => chkS (∀ p ∈ kvs, flatK p.1 = true) (oS (fk ρ) fun k => chkS (flatK k = true) (.nx (ρ.set i (some (.dic (dicDrop kvs k))))))
theorem IsKVs.drop {K : PySem.W.Frag} {mg : Mg} {H : Hp} (κ : Key) : ∀ {kvs : List (D × D)} {xs : List (Key × V)}, IsKVs K mg H kvs xs → IsKVs K mg H (dicDrop kvs (kD κ)) (dropK xs κ)
  | [], _, h => by simp only [IsKVs] at h; subst h; simp only [dicDrop, dropK, List.filter_nil, IsKVs]
  | (k, d) :: kvs, _, h => by
    simp only [IsKVs, IsKV] at h
    obtain ⟨⟨k', v⟩, us, rfl, ⟨e, q⟩, r⟩ := h
    simp only at e q
    subst e
    have ih := IsKVs.drop κ r
    unfold dicDrop dropK at ih ⊢
    by_cases z : k' = κ
    · rw [List.filter_cons_of_neg (by simp [z]), List.filter_cons_of_neg (by simp [z])]
      exact ih
    · rw [List.filter_cons_of_pos (by simp; exact fun y => z (kD_inj y)), List.filter_cons_of_pos (by simp [z])]
      simp only [IsKVs, IsKV]
      exact ⟨_, _, rfl, ⟨rfl, q⟩, ih⟩
theorem sDPop_ap (i : Nat) (fk : Env → Out D) (ρ : Env) : sDPop i fk ρ = oS (eD i ρ) fun kvs => chkS (∀ p ∈ kvs, flatK p.1 = true) (oS (fk ρ) fun k => chkS (flatK k = true) (.nx (ρ.set i (some (.dic (dicDrop kvs k)))))) := rfl
end
end PD

namespace PD
open PySem PySem.Spec L2
open PyProof.Rows hiding St

section
variable {X : Cx} {g : G} {E : WX} {ro : Bool} {Γl Γ Γ1 Γ2 : List Bool} {pos p : Pos} {ρ : Env} {m : Md}
noncomputable def dInDp (neg : Bool) : D → D → Out D
  | x, .lst ds => chk (SeqAt.shaped (toPy x) = true ∧ SeqAt.shaped (toPy (.lst ds)) = true) (.ok (.bl (if neg then !((toPys ds).any fun z => PyData.eqv z (toPy x)) else (toPys ds).any fun z => PyData.eqv z (toPy x))))
  | _, _ => .stuck
theorem Room.units65 {k : Nat} {A : Around} (r : Room k A) : A.units + 65 < cLine := by have := r.un; omega
theorem od_notinDp {kk : Nat} (hr : Room kk X.A) : OpD X (compareOp .NotIn) m (dInDp true) := by
  refine ⟨_, L2.op_notInD (Room.units65 hr), fun g E Γ ρ σ Hf H x y v u Q R hx hy k => ?_⟩
  unfold dInDp at k
  split at k
  · rename_i ds
    by_cases c : SeqAt.shaped (toPy x) = true ∧ SeqAt.shaped (toPy (.lst ds)) = true
    · rw [chk_pos c] at k
      refine ⟨_, _, dp_read R.same hx (SeqAt.canLay_of_shaped c.1), dp_read R.same hy (SeqAt.canLay_of_shaped c.2), c.1, c.2, ?_⟩
      exact k Hf H (Same.refl _) (Same.refl _) R _ (Res.dat R.same rfl (by simp only [IsD]; rfl))
    · rw [chk_neg c] at k; exact k.elim
  · exact k.elim
end
end PD

namespace PD
open PySem PySem.Spec L2
open PyProof.Rows hiding St

def pickT {α : Type} (xs : List α) (lo hi : Option Int) (k : Int) : List α :=
  (List.range (Builtin.Slice.slicePlaces (Builtin.Slice.sliceAdjust lo hi k xs.length).1 (Builtin.Slice.sliceAdjust lo hi k xs.length).2 k)).filterMap fun (m : Nat) => xs[((Builtin.Slice.sliceAdjust lo hi k xs.length).1 + (m : Int) * k).toNat]?
section
variable {prog : Program} {w : World} {A : Around} {E : Value → Shared → Prop} {z : Shared}
end
section
variable {K : PySem.W.Frag} {mg : Mg} {H : Hp}
theorem IsDs.pickN {ds : List D} {vs : List V} (h : IsDs K mg H ds vs) (F : Nat → Nat) : ∀ is : List Nat, IsDs K mg H (is.filterMap fun m => ds[F m]?) (is.filterMap fun m => vs[F m]?)
  | [] => by simp only [List.filterMap_nil, IsDs]
  | m :: is => by
    rw [List.filterMap_cons, List.filterMap_cons]
    cases e : ds[F m]? with
    | none =>
      have e2 : vs[F m]? = none := by
        rw [List.getElem?_eq_none_iff] at e ⊢
        rw [h.len]; exact e
      rw [e2]
      exact IsDs.pickN h F is
    | some d =>
      obtain ⟨v, ev, q⟩ := h.at e
      rw [ev]
      simp only [IsDs]
      exact ⟨v, _, rfl, q, IsDs.pickN h F is⟩
theorem IsDs.pickT {ds : List D} {vs : List V} (h : IsDs K mg H ds vs) (lo hi : Option Int) (k : Int) : IsDs K mg H (PD.pickT ds lo hi k) (PD.pickT vs lo hi k) := by
  unfold PD.pickT
  rw [h.len]
  exact IsDs.pickN h (fun m => ((Builtin.Slice.sliceAdjust lo hi k ds.length).1 + (m : Int) * k).toNat) _
end
section
variable {X : Cx} {g : G} {E : WX} {Γ Γ1 Γ2 Γ3 Γ4 : List Bool} {m : Md} {pos p2 : Pos} {a : Expr} {lo hi st : Option Expr} {fa : Env → Out D} {fl fu fs : Env → Out (Option Int)}
noncomputable def dSlS2 : D → Option Int → Option Int → Option Int → Out D
  | .lst ds, lo, hi, st => chk (st ≠ some 0) (.ok (.lst (pickL ds lo hi st)))
  | .tup ds, lo, hi, some k => chk (2 ≤ k ∧ (pickT ds lo hi k).length ≤ sizeLine) (.ok (.tup (pickT ds lo hi k)))
  | _, _, _, _ => .stuck
noncomputable def eSlS2 (f : Env → Out D) (lo hi st : Env → Out (Option Int)) : Env → Out D := fun ρ => (f ρ).bind fun x => (lo ρ).bind fun l => (hi ρ).bind fun u => (st ρ).bind fun s => dSlS2 x l u s
theorem eSlS2_ap (f : Env → Out D) (lo hi st : Env → Out (Option Int)) (ρ : Env) : eSlS2 f lo hi st ρ = (f ρ).bind fun x => (lo ρ).bind fun l => (hi ρ).bind fun u => (st ρ).bind fun s => dSlS2 x l u s := rfl
end
end PD

namespace PD
open PySem PySem.Spec L2
open PyProof.Rows hiding St

section
variable {K : PySem.W.Frag} {mg : Mg} {g : G} {Γ Γ2 : List Bool} {ρ : Env} {σ : St} {Hf H : Hp} {p : Addr} {o : HO}
end
section
variable {X : Cx} {E : WX} {Γ Γ1 Γ2 : List Bool} {pos : Pos} {fk fv : Env → Out D} {fr : Env → Out (List (D × D))} {ks : List (Option Expr)} {vs : List Expr} {k v : Expr}
def pN : Env → Out (List (D × D)) := fun _ => .ok []
noncomputable def pC (fk fv : Env → Out D) (fr : Env → Out (List (D × D))) : Env → Out (List (D × D)) := fun ρ => (fk ρ).bind fun x => (fv ρ).bind fun y => (fr ρ).bind fun r => .ok ((x, y) :: r)
noncomputable def dicOf (ps : List (D × D)) : List (D × D) := ps.foldl (fun l p => dicPut l p.1 p.2) []
noncomputable def eDisp (fr : Env → Out (List (D × D))) : Env → Out D := fun ρ => (fr ρ).bind fun ps => chk ((∀ p ∈ ps, flatK p.1 = true) ∧ ps.length ≤ 15) (.ok (.dic (dicOf ps)))
theorem pN_ap (ρ : Env) : pN ρ = .ok [] := rfl
theorem pC_ap (fk fv : Env → Out D) (fr : Env → Out (List (D × D))) (ρ : Env) : pC fk fv fr ρ = (fk ρ).bind fun x => (fv ρ).bind fun y => (fr ρ).bind fun r => .ok ((x, y) :: r) := rfl
theorem eDisp_ap (fr : Env → Out (List (D × D))) (ρ : Env) : eDisp fr ρ = (fr ρ).bind fun ps => chk ((∀ p ∈ ps, flatK p.1 = true) ∧ ps.length ≤ 15) (.ok (.dic (dicOf ps))) := rfl
end
end PD

namespace PD
open PySem PySem.Spec L2
open PyProof.Rows hiding St

section
variable {X : Cx} {g : G} {E : WX} {ro : Bool} {Γl Γ Γ1 Γ2 : List Bool} {pos p : Pos} {ρ : Env} {m : Md}
end
end PD

namespace PD
open PySem PySem.Spec L2
open PySem.W (dataLt alike AlikeAll maxD minD)
open PyProof.Rows hiding St

def scal : D → Bool
  | .int _ => true
  | .str _ => true
  | _ => false
def scV : D → V
  | .int i => .int i
  | .str x => .str x
  | _ => .non
theorem scal_v {K : PySem.W.Frag} {mg : Mg} {H : Hp} {d : D} {v : V} (s : scal d = true) (h : IsD K mg H d v) : v = scV d := by
  cases d <;> first | (simp only [IsD] at h; exact h) | cases s
theorem v_scal {K : PySem.W.Frag} {mg : Mg} {H : Hp} {d : D} (s : scal d = true) : IsD K mg H d (scV d) := by
  cases d <;> first | (simp only [IsD]; rfl) | cases s
theorem scal_vs {K : PySem.W.Frag} {mg : Mg} {H : Hp} : ∀ {ds : List D} {vs : List V}, (∀ d ∈ ds, scal d = true) → IsDs K mg H ds vs → vs = ds.map scV
  | [], _, _, h => by simp only [IsDs] at h; rw [h]; rfl
  | d :: ds, _, s, h => by
    simp only [IsDs] at h
    obtain ⟨v, vs, rfl, q, r⟩ := h
    rw [List.map_cons, ← scal_v (s d List.mem_cons_self) q, ← scal_vs (fun e he => s e (List.mem_cons_of_mem _ he)) r]
theorem scal_reads {h : Heap} {d : D} {u : Value} (s : scal d = true) (r : RelV (scV d) u) : Reads h u (toPy d) [] := by
  cases d with
  | int i => obtain ⟨t, rfl⟩ := r; exact .int i t
  | str x => obtain ⟨t, rfl⟩ := r; exact .str x t
  | _ => cases s
theorem reads_scal {h : Heap} {d : D} {u : Value} {as : List Addr} (s : scal d = true) (r : Reads h u (toPy d) as) : RelV (scV d) u := by
  cases d with
  | int i =>
    have r : Reads h u (.int i) as := r
    cases r
    exact ⟨_, rfl⟩
  | str x =>
    have r : Reads h u (.str x) as := r
    cases r
    exact ⟨_, rfl⟩
  | _ => cases s
theorem scal_all {h : Heap} : ∀ {ds : List D} {us : List Value}, (∀ d ∈ ds, scal d = true) → Vals (ds.map scV) us → ReadsAll h us (toPys ds) []
  | [], _, _, h => by cases h; exact .nil
  | d :: ds, _, s, h => by
    cases h with
    | cons a b =>
      have := ReadsAll.cons (scal_reads (h := h) (s d List.mem_cons_self) a) (scal_all (fun e he => s e (List.mem_cons_of_mem _ he)) b)
      exact this
def bestD (mx : Bool) (d : D) (ds : List D) : D := ds.foldl (fun a y => if (if mx then dataLt (toPy a) (toPy y) else dataLt (toPy y) (toPy a)) = true then y else a) d
theorem best_max : ∀ (ds : List D) (d : D), toPy (bestD true d ds) = maxD (toPy d) (toPys ds)
  | [], _ => rfl
  | e :: ds, d => by
    show toPy (bestD true (if dataLt (toPy d) (toPy e) = true then e else d) ds) = maxD (if dataLt (toPy d) (toPy e) = true then toPy e else toPy d) (toPys ds)
    rw [best_max ds]
    split <;> rfl
theorem best_min : ∀ (ds : List D) (d : D), toPy (bestD false d ds) = minD (toPy d) (toPys ds)
  | [], _ => rfl
  | e :: ds, d => by
    show toPy (bestD false (if dataLt (toPy e) (toPy d) = true then e else d) ds) = minD (if dataLt (toPy e) (toPy d) = true then toPy e else toPy d) (toPys ds)
    rw [best_min ds]
    split <;> rfl
theorem best_scal (mx : Bool) : ∀ (ds : List D) (d : D), scal d = true → (∀ e ∈ ds, scal e = true) → scal (bestD mx d ds) = true
  | [], _, h, _ => h
  | e :: ds, d, h, s => best_scal mx ds _ (by
      have k : ∀ c : Prop, [Decidable c] → scal (if c then e else d) = true := fun c _ => by
        split
        · exact s e List.mem_cons_self
        · exact h
      exact k _) fun f hf => s f (List.mem_cons_of_mem _ hf)
theorem dep_scal {d : D} (s : scal d = true) : (toPy d).depth = 0 := by
  cases d with
  | int i => show PyData.depth (.int i) = 0; simp [PyData.depth]
  | str x => show PyData.depth (.str x) = 0; simp [PyData.depth]
  | _ => cases s
theorem deps_scal : ∀ {ds : List D}, (∀ d ∈ ds, scal d = true) → PyData.depthAll (toPys ds) = 0
  | [], _ => rfl
  | d :: ds, s => by
    show max (toPy d).depth (PyData.depthAll (toPys ds)) = 0
    rw [dep_scal (s d List.mem_cons_self), deps_scal fun e he => s e (List.mem_cons_of_mem _ he)]
    rfl
def idB (mx : Bool) : String := if mx then "max" else "min"
def BestOk (ds : List D) : Prop := (∀ d ∈ ds, scal d = true) ∧ AlikeAll (toPys ds)
section
variable {X : Cx} {g : G} {E : WX} {ro : Bool} {Γl Γ Γ1 Γ2 : List Bool} {pos p : Pos} {ρ : Env} {m : Md}
def rBest (K : PySem.W.Frag) (mx : Bool) : List V → Hp → VK → Prop := fun vs H Q => ∃ (a : Addr) (d : D) (ds : List D), vs = [V.ref a] ∧ SqL K H a ((d :: ds).map scV) ∧ BestOk (d :: ds) ∧ Q (scV (bestD mx d ds)) H
theorem cr_best {mx : Bool} (hc : X.calm = true) (hu : X.A.units + 64 < cLine) : CallR X (.builtin (idB mx)) (rBest X.K mx) := by
  intro pins s σ H vs us Q I r h
  obtain ⟨a, d, ds, rfl, hs, ⟨hsc, hal⟩, q⟩ := h
  obtain ⟨its, rv, hl, _⟩ := I.list hs
  rw [Vals.ref1 r]
  have hr : ReadsAll s.heap its (toPy d :: toPys ds) [] := scal_all (ds := d :: ds) hsc rv
  have hd : PyData.depthAll (toPy d :: toPys ds) = 0 := deps_scal (ds := d :: ds) hsc
  cases mx with
  | true =>
    refine PySem.W.max_list_data (I.ok.hd hc) hl.isList (by simpa using hr) hal (by rw [hd]; omega) fun i v h' tk bs _ rd hk => ?_
    refine ⟨_, H, I.kept hk, ?_, q⟩
    exact reads_scal (best_scal true ds d (hsc d List.mem_cons_self) fun e he => hsc e (List.mem_cons_of_mem _ he)) (by rw [best_max]; exact rd)
  | false =>
    refine PySem.W.min_list_data (I.ok.hd hc) hl.isList (by simpa using hr) hal (by rw [hd]; omega) fun i v h' tk bs _ rd hk => ?_
    refine ⟨_, H, I.kept hk, ?_, q⟩
    exact reads_scal (best_scal false ds d (hsc d List.mem_cons_self) fun e he => hsc e (List.mem_cons_of_mem _ he)) (by rw [best_min]; exact rd)
noncomputable def cBest (mx : Bool) : List D → Out D
  | [.lst (d :: ds)] => chk (BestOk (d :: ds)) (.ok (bestD mx d ds))
  | _ => .stuck
theorem ca_best {mx : Bool} {kk : Nat} (hc : X.calm = true) (hr : Room kk X.A) : CaD X (.builtin (idB mx)) m (cBest mx) := by
  refine ⟨_, cr_best hc hr.units, fun g E Γ ρ σ Hf H ds vs Q R h k => ?_⟩
  unfold cBest at k
  split at k
  · rename_i d ds
    by_cases c : BestOk (d :: ds)
    · rw [chk_pos c] at k
      obtain ⟨v, rfl, p, xs, rfl, q, r⟩ := h.one
      have e := scal_vs c.1 r
      subst e
      have sb := best_scal mx ds d (c.1 d List.mem_cons_self) fun e he => c.1 e (List.mem_cons_of_mem _ he)
      exact ⟨p, d, ds, rfl, .of q, c, k Hf H (Same.refl _) (Same.refl _) R _ (Res.dat R.same (by cases hb : bestD mx d ds <;> first | rfl | (rw [hb] at sb; cases sb)) (v_scal sb))⟩
    · rw [chk_neg c] at k; exact k.elim
  · exact k.elim
end
theorem alike_ints : ∀ ns : List Int, AlikeAll (toPys (ns.map .int)) := fun ns => by
  have mem : ∀ x ∈ toPys (ns.map .int), ∃ i, x = .int i := by
    induction ns with
    | nil => intro x hx; cases hx
    | cons n ns ih =>
      intro x hx
      rcases List.mem_cons.mp (show x ∈ PyData.int n :: toPys (ns.map .int) from hx) with h | h
      · exact ⟨n, h⟩
      · exact ih x h
  refine ⟨fun x hx y hy => ?_, fun x hx e => ?_⟩
  · obtain ⟨i, rfl⟩ := mem x hx; obtain ⟨j, rfl⟩ := mem y hy; rfl
  · obtain ⟨i, rfl⟩ := mem x hx; cases e
theorem best_ok_ints (ns : List Int) : BestOk (ns.map .int) := ⟨fun d hd => by obtain ⟨i, _, rfl⟩ := List.mem_map.mp hd; rfl, alike_ints ns⟩
end PD

namespace PD
open PySem PySem.Spec L2
open PyProof.Rows hiding St

section
variable {X : Cx} {g : G} {E : WX} {ro : Bool} {Γl Γ Γ1 Γ2 : List Bool} {pos p : Pos} {ρ : Env} {m : Md} {a b : Expr} {fa fb : Env → Out D}
def findD (y : D) : List D → Option Nat
  | [] => none
  | d :: ds => if eqD d y = true then some 0 else (findD y ds).map (· + 1)
noncomputable def dIndex : D → D → Out D
  | .lst ds, y => match findD y ds with
    | some j => chk (flatD y = true ∧ ds.all flatD = true) (.ok (.int (j : Nat)))
    | none => .stuck
  | _, _ => .stuck
theorem findD_at {y : D} : ∀ {ds : List D} {j : Nat}, findD y ds = some j → ∃ d, ds[j]? = some d ∧ eqD d y = true ∧ ∀ i d', i < j → ds[i]? = some d' → eqD d' y = false
  | [], _, h => by cases h
  | d :: ds, j, h => by
    unfold findD at h
    split at h
    · rename_i c
      cases h
      exact ⟨d, rfl, c, fun i d' hi => absurd hi (Nat.not_lt_zero _)⟩
    · rename_i c
      cases e : findD y ds with
      | none => rw [e] at h; cases h
      | some k =>
        rw [e] at h
        have hj : k + 1 = j := by simpa using h
        subst hj
        obtain ⟨d0, h1, h2, h3⟩ := findD_at e
        refine ⟨d0, by simpa using h1, h2, fun i d' hi hd => ?_⟩
        cases i with
        | zero => simp only [List.getElem?_cons_zero, Option.some.injEq] at hd; subst hd; simpa using c
        | succ i => exact h3 i d' (by omega) (by simpa using hd)
theorem IsDs.at' {K : PySem.W.Frag} {mg : Mg} {H : Hp} : ∀ {ds : List D} {vs : List V} {i : Nat} {v : V}, IsDs K mg H ds vs → vs[i]? = some v → ∃ d, ds[i]? = some d ∧ IsD K mg H d v
  | [], _, i, v, h, e => by simp only [IsDs] at h; subst h; cases e
  | d :: ds, _, i, v, h, e => by
    simp only [IsDs] at h
    obtain ⟨u, us, rfl, q, r⟩ := h
    cases i with
    | zero => simp only [List.getElem?_cons_zero, Option.some.injEq] at e; subst e; exact ⟨d, rfl, q⟩
    | succ i =>
      obtain ⟨d', h1, h2⟩ := IsDs.at' r (by simpa using e)
      exact ⟨d', by simpa using h1, h2⟩
theorem IsDs.at2 {K : PySem.W.Frag} {mg : Mg} {H : Hp} : ∀ {ds : List D} {vs : List V} {i : Nat} {d : D}, IsDs K mg H ds vs → ds[i]? = some d → ∃ v, vs[i]? = some v ∧ IsD K mg H d v
  | [], _, i, v, h, e => by cases e
  | d :: ds, _, i, d0, h, e => by
    simp only [IsDs] at h
    obtain ⟨u, us, rfl, q, r⟩ := h
    cases i with
    | zero => simp only [List.getElem?_cons_zero, Option.some.injEq] at e; subst e; exact ⟨u, rfl, q⟩
    | succ i =>
      obtain ⟨d', h1, h2⟩ := IsDs.at2 r (by simpa using e)
      exact ⟨d', by simpa using h1, h2⟩
noncomputable def dIndexA : D → List D → Out D
  | x, [y] => dIndex x y
  | _, _ => .stuck
noncomputable def eIndexK (fr : Env → Out (List D)) (ρ : Env) : D → Out D
  | .lst ds => (fr ρ).bind fun ys => dIndexA (.lst ds) ys
  | _ => .stuck
noncomputable def eIndex (fa : Env → Out D) (fr : Env → Out (List D)) : Env → Out D := fun ρ => (fa ρ).bind fun x => eIndexK fr ρ x
theorem px_index {apos : Pos} {fr : Env → Out (List D)} (ha : PX X g E Γ a Γ1 .rd fa) (hb : PBx X g E Γ1 [b] Γ2 fr)
    (hbase : attributeBase a "index" X.env (eval a X.env) = eval a X.env := by rfl) (hline : (apos.endLine == pos.line) = true := by rfl)
    (hfew : ((backTo pos (starEach [b] X.env)).all (fun x => !x.1) && (backToKw pos (keywordEach [] X.env)).all (fun x => x.1.isSome)
      && decide ([b].length + ([] : List Keyword).length + (if ([] : List Keyword).isEmpty then 0 else 1) < 30)) = true := by rfl)
    (hs : starEach [b] X.env = (false, eval b X.env) :: starEach [] X.env := by rfl) (hplain : (backTo pos (starEach [] X.env)).any (·.1) = false := by rfl) :
    PX X g E Γ (.Call (.Attribute a "index" apos) [b] [] pos) Γ2 m (eIndex fa fr) := by
  refine ⟨hb.le.trans ha.le, (pe_bm PySem.F.plainAttrs_list PySem.F.slot_list_index PySem.F.type_list_index mt_index ha.pe hb.pe hbase hfew hline hs hplain).imp fun σ H Q ⟨ρ, Hf, R, k⟩ => ⟨ρ, Hf, R, ?_⟩⟩
  unfold eIndex at k
  refine tG.bind hb.le k fun x F1 H1 s1 s2 R1 k1 v hv => ?_
  cases x with
  | lst ds =>
    obtain ⟨q, xs, rfl, hq, rd⟩ := hv
    refine ⟨.inl ⟨rfl, xs, .of hq⟩, ρ, F1, R1, ?_⟩
    refine tG.bind (Le.refl _) k1 fun ys F2 H2 s3 s4 R2 k2 us hu => ?_
    unfold dIndexA at k2
    split at k2
    · rename_i y
      obtain ⟨u, rfl, hy⟩ := hu.one
      simp only [dIndex] at k2
      cases e : findD y ds with
      | none => simp only [e] at k2; exact k2.elim
      | some j =>
        simp only [e] at k2
        by_cases c : flatD y = true ∧ ds.all flatD = true
        · rw [chk_pos c] at k2
          have hyd := flat_r hy c.1
          have rd2 := IsDs.mono s3 rd
          obtain ⟨d, hd, he, hno⟩ := findD_at e
          obtain ⟨z, hz, hzd⟩ := IsDs.at2 rd2 hd
          have fl : ∀ {d' : D}, d' ∈ ds → flatD d' = true := fun {d'} h => List.all_eq_true.mp c.2 d' h
          refine ⟨q, xs, u, j, z, rfl, rfl, .of (s4 _ _ hq), flat_v (Hf := F2) hyd c.1, (flat_in hyd c.1 rd2 c.2).1, hz, ?_, fun i z' hi hz' => ?_, k2 F2 H2 (Same.refl _) (Same.refl _) R2 _ (Res.dat R2.same rfl (by simp only [IsD]))⟩
          · rw [flat_eq hzd hyd (fl (List.mem_of_getElem? hd)) c.1]; exact he
          · obtain ⟨d', hd', hzd'⟩ := IsDs.at' rd2 hz'
            rw [flat_eq hzd' hyd (fl (List.mem_of_getElem? hd')) c.1]
            exact hno i d' hi hd'
        · rw [chk_neg c] at k2
          exact k2.elim
    · exact k2.elim
  | _ => exact k1.elim
theorem eIndex_ap (fa : Env → Out D) (fr : Env → Out (List D)) (ρ : Env) : eIndex fa fr ρ = (fa ρ).bind fun x => eIndexK fr ρ x := rfl
theorem eIndexK_lst (fr : Env → Out (List D)) (ρ : Env) (ds : List D) : eIndexK fr ρ (.lst ds) = (fr ρ).bind fun ys => dIndexA (.lst ds) ys := rfl
theorem dIndexA_one (x y : D) : dIndexA x [y] = dIndex x y := rfl
end
end PD

namespace PD
open PySem PySem.Spec L2
open PyProof.Rows hiding St

section
variable {X : Cx} {e : Expr} {es : List Expr} {ta : TA} {p p1 p2 pos : Pos}
end

section
variable {P : Program} {w : World} {K : PySem.W.Frag} {mg : Str → Option Value} {base : Heap} {q : Str} {st : Stmt} {fI : Addr} {fd : FuncData} {m : Str}
end
section
variable {X : Cx} {g : G} {E : WX} {ro : Bool} {Γl Γ Γ1 Γ2 : List Bool} {pos p p2 : Pos} {e e' : Expr} {es : List Expr} {fa : Env → Out (List D)} {c q : Str} {st : Stmt} {k : Nat}
end
end PD

namespace PD
open PySem PySem.Spec L2
open PyProof.Rows hiding St

section
variable {X : Cx} {g : G} {E : WX} {Γ Γ1 Γ2 : List Bool} {pos p : Pos} {m : Md} {e : Expr} {es : List Expr} {L : List Str} {c f : Str}
end
end PD

namespace PD
open PySem PySem.Spec L2
open PyProof.Rows hiding St

section
variable {X : Cx} {g : G} {E W : WX} {ro : Bool} {Γl Γ Γ1 Γ2 Γ3 : List Bool} {pos p : Pos} {m : Md} {e : Expr} {st : Stmt} {L : List Str} {ρ : Env} {σ : St} {Hf H : Hp} {pins : List (Addr × Obj)} {s : Shared}
def SO.calm : SO → SO
  | .ex _ => .stuck
  | o => o
end
end PD

namespace PD
open PySem PySem.Spec L2
open PyProof.Rows hiding St

section
variable {X : Cx} {g : G} {E W : WX} {ro : Bool} {Γl Γ Γ1 Γ2 Γ3 : List Bool} {pos p : Pos} {L : List Str} {ρ : Env} {σ : St} {Hf H : Hp} {pins : List (Addr × Obj)} {s : Shared}
section
open PySem.W
end
end
end PD

namespace PD
open PySem PySem.Spec L2
open PyProof.Rows hiding St

def leO {α : Type} (a b : Out α) : Prop := a = .stuck ∨ a = b
def leE {α : Type} (f g : Env → Out α) : Prop := ∀ ρ, leO (f ρ) (g ρ)
def leF (f g : List D → Out D) : Prop := ∀ ds, leO (f ds) (g ds)
theorem leF.ok {f g : List D → Out D} (h : leF f g) {ds : List D} {d : D} (e : f ds = .ok d) : g ds = .ok d := by
  rcases h ds with z | z
  · rw [z] at e; cases e
  · rw [← z]; exact e
theorem leF.exc {f g : List D → Out D} (h : leF f g) {ds : List D} {x : Exn} (e : f ds = .exc x) : g ds = .exc x := by
  rcases h ds with z | z
  · rw [z] at e; cases e
  · rw [← z]; exact e
section
variable {α β : Type}
theorem leO_bind {o o' : Out α} {k k' : α → Out β} (h : leO o o') (hk : ∀ a, leO (k a) (k' a)) : leO (o.bind k) (o'.bind k') := by
  rcases h with rfl | rfl
  · exact .inl rfl
  · cases o with
    | ok a => exact hk a
    | exc x => exact .inr rfl
    | stuck => exact .inl rfl
variable {fa fb fc ga gb gc : Env → Out D} {fr gr : Env → Out (List D)} {ft gt fu gu : Env → Out Bool} {F F' : List D → Out D} {b b' c c' : Env → SO} {G : D → Env → Out Env} {fi gi fj gj fk gk : Env → Out (Option Int)}
theorem le_or (h : leE ft gt) (h' : leE fu gu) : leE (bOr ft fu) (bOr gt gu) := fun ρ => leO_bind (h ρ) fun c => by cases c; exact h' ρ; exact .inr rfl
end
end PD

namespace PD
open PySem PySem.Spec L2
open PyProof.Rows hiding St

section
variable {X : Cx} {pins : List (Addr × Obj)} {σ : St} {H Hf : Hp} {s : Shared} {m : Md} {a : Addr} {o : HO}
theorem IsKVs.mem {K : PySem.W.Frag} {mg : Mg} {Hf : Hp} : ∀ {kvs : List (D × D)} {xs : List (Key × V)}, IsKVs K mg Hf kvs xs → ∀ x ∈ xs, ∃ p ∈ kvs, p.1 = kD x.1 ∧ PD.IsD K mg Hf p.2 x.2
  | [], xs, h, x, hx => by simp only [IsKVs] at h; subst h; exact (List.not_mem_nil hx).elim
  | (k, d) :: kvs, xs, h, x, hx => by
    simp only [IsKVs, IsKV] at h
    obtain ⟨y, us, rfl, ⟨e, q⟩, r⟩ := h
    rcases List.mem_cons.mp hx with rfl | hx
    · exact ⟨(k, d), List.mem_cons_self, e, q⟩
    · obtain ⟨p, hp, z⟩ := IsKVs.mem r x hx
      exact ⟨p, List.mem_cons_of_mem _ hp, z⟩
theorem IsKVs.ln {K : PySem.W.Frag} {mg : Mg} {Hf : Hp} : ∀ {kvs : List (D × D)} {xs : List (Key × V)}, IsKVs K mg Hf kvs xs → kvs.length = xs.length
  | [], xs, h => by simp only [IsKVs] at h; subst h; rfl
  | (k, d) :: kvs, xs, h => by
    simp only [IsKVs, IsKV] at h
    obtain ⟨y, us, rfl, _, r⟩ := h
    rw [List.length_cons, List.length_cons, IsKVs.ln r]
end
end PD

namespace PD
open PySem PySem.Spec L2
open PyProof.Rows hiding St

section
variable {X : Cx} {pins : List (Addr × Obj)} {σ : St} {H Hf : Hp} {s : Shared} {a b : Addr} {E : WX} {g : G} {ro : Bool} {Γl Γ Γ1 : List Bool} {pos : Pos} {ρ : Env}
end
end PD

namespace PD
open PySem PySem.Spec L2
open PyProof.Rows hiding St

section
variable {K : PySem.W.Frag} {mg : Mg} {Hf H : Hp}
variable {Hf' H' : Hp}
end
section
variable {X : Cx} {g : G} {E : WX} {ro : Bool} {Γ Γ1 : List Bool} {pos p : Pos} {x : Str} {e : Expr} {es : List Expr} {k : Nat} {ps : List Str} {F : List D → Out D} {fa : Env → Out (List D)}
end
end PD

namespace PD
open PySem PySem.Spec L2
open PyProof.Rows hiding St

section
variable {X : Cx} {m : Md}
theorem op_mulS : OpR X (binaryOp .Mult) (fun x y H Q => ∃ (a : Str) (n : Int), x = .str a ∧ y = .int n ∧ a.length ≤ 16 ∧ -(2 ^ 63 : Int) ≤ n ∧ n ≤ ((1048576 : Nat) : Int) ∧ Q (.str (Txt.mul a n)) H) := by
  intro pins s σ H x y v u Q I rx ry h
  obtain ⟨a, n, rfl, rfl, h1, h2, h3, q⟩ := h
  obtain ⟨t, rfl⟩ := rx
  obtain ⟨t2, rfl⟩ := ry
  exact PySem.W.KXi.mul rfl h1 h2 h3 fun t' k _ _ => ⟨.str _, H, I.tok k, ⟨t', rfl⟩, q⟩
noncomputable def dMulS : D → D → Out D
  | .str a, .int n => chk (a.length ≤ 16 ∧ -(2 ^ 63 : Int) ≤ n ∧ n ≤ ((1048576 : Nat) : Int)) (.ok (.str (Txt.mul a n)))
  | _, _ => .stuck
theorem od_mulS {k : Nat} (_ : Room k X.A) : OpD X (binaryOp .Mult) m dMulS := by
  refine ⟨_, op_mulS, fun g E Γ ρ σ Hf H x y v u Q R hx hy k => ?_⟩
  unfold dMulS at k
  split at k
  · rename_i a n
    simp only [IsR, PD.IsD] at hx hy
    by_cases c : a.length ≤ 16 ∧ -(2 ^ 63 : Int) ≤ n ∧ n ≤ ((1048576 : Nat) : Int)
    · rw [chk_pos c] at k
      exact ⟨a, n, hx, hy, c.1, c.2.1, c.2.2, k Hf H (Same.refl _) (Same.refl _) R _ (Res.dat R.same rfl (by simp only [PD.IsD]))⟩
    · rw [chk_neg c] at k; exact k.elim
  · exact k.elim
end
end PD

namespace PD
open PySem PySem.Spec L2
open PyProof.Rows hiding St

section
variable {X : Cx} {g : G} {E : WX} {Γ Γ1 : List Bool} {tg a : Expr} {p p2 pos pos2 : Pos} {f : Env → Out D}
end
end PD

namespace PD
open PySem PySem.Spec L2
open PyProof.Rows hiding St

def DSz (h : Heap) (a : Addr) (n : Nat) : Prop := (a == sysModules) = false ∧ ∃ o es ep, h.get? a = some o ∧ o.ExactDict ∧ o.data = .dict es ep ∧ es.size = n
section
variable {X : Cx} {pins : List (Addr × Obj)} {σ : St} {H Hf : Hp} {s : Shared} {m : Md} {A : Around} {E : Value → Shared → Prop}
theorem DSz.typeIs {h : Heap} {a : Addr} {n : Nat} {s : Shared} (d : DSz s.heap a n) : s.TypeIs (.ref a) "dict" :=
  let ⟨_, o, _, _, ho, hc, _⟩ := d; ⟨o, ho, hc.1⟩
theorem IsKTs.ln {K : PySem.W.Frag} {mg : Mg} {Hf : Hp} : ∀ {kvs : List (D × D)} {xs : List (PyData × Addr × V)}, IsKTs K mg Hf kvs xs → kvs.length = xs.length
  | [], xs, h => by simp only [IsKTs] at h; subst h; rfl
  | (k, d) :: kvs, xs, h => by
    simp only [IsKTs, IsKT] at h
    obtain ⟨y, us, rfl, _, r⟩ := h
    rw [List.length_cons, List.length_cons, IsKTs.ln r]
end
end PD

namespace PD
open PySem PySem.Spec L2
open PyProof.Rows hiding St

section
variable {K : PySem.W.Frag} {mg : Mg} {H Hf : Hp}
theorem IsFs.lk {f : Str} : ∀ {fs : List (Str × D)} {xs : List (Str × V)}, IsFs K mg H fs xs → (∀ d, fs.lookup f = some d → ∃ v, xs.lookup f = some v ∧ PD.IsD K mg H d v) ∧ (fs.lookup f = none → xs.lookup f = none)
  | [], xs, q => by
    simp only [IsFs] at q
    subst q
    exact ⟨(fun d e => by cases e), fun _ => rfl⟩
  | (g, x) :: fs, xs, q => by
    simp only [IsFs, IsF] at q
    obtain ⟨⟨g', y⟩, us, rfl, ⟨e, qx⟩, r⟩ := q
    simp only at e
    subst e
    rw [List.lookup_cons, List.lookup_cons]
    cases f == g with
    | true => exact ⟨(fun d e => by cases e; exact ⟨y, rfl, qx⟩), fun e => by cases e⟩
    | false => exact IsFs.lk r
theorem IsFs.len : ∀ {fs : List (Str × D)} {xs : List (Str × V)}, IsFs K mg H fs xs → xs.length = fs.length
  | [], xs, q => by simp only [IsFs] at q; subst q; rfl
  | (g, x) :: fs, xs, q => by
    simp only [IsFs, IsF] at q
    obtain ⟨y, us, rfl, _, r⟩ := q
    rw [List.length_cons, List.length_cons, IsFs.len r]
end
section
variable {X : Cx} {g : G} {E : WX} {ro : Bool} {Γl Γ Γ1 Γ2 : List Bool} {m : Md} {pos p p2 : Pos} {L fl : List Str} {e o : Expr} {f : Str} {fe fo : Env → Out D}
end

structure MeA (P : Program) (w : World) (K : PySem.W.Frag) (mg : Str → Option Value) (base : Heap) (k : Nat) (m : Str) (cs : List Str) (ps : List Str) (ro : Bool) (F : List D → Out D) : Prop where
  ex : ∃ f fd, (∀ c ∈ cs, ∃ C, mg c = some (.ref C) ∧ Cls K C ∧ Meth K C m f) ∧ Binds K fd ps [] ∧ FnOk P w K mg base (L2.CX P w) k f fd ps (spD K ⟨mg, w⟩ ro F)
theorem MeA.mono {P : Program} {w : World} {K : PySem.W.Frag} {mg : Str → Option Value} {base : Heap} {j k : Nat} {m : Str} {cs ps : List Str} {ro : Bool} {F : List D → Out D} (h : MeA P w K mg base j m cs ps ro F) (l : j ≤ k) : MeA P w K mg base k m cs ps ro F := by
  obtain ⟨f, fd, e1, e2, e3⟩ := h.ex
  exact ⟨f, fd, e1, e2, e3.mono l⟩
section
variable {X : Cx} {CX : CXT} {k : Nat} {f C : Addr} {fd : FuncData} {ps : List Str} {sp : Sp} {E : St → XK} {x m : Str} {p pos apos : Pos} {e o : Expr} {es : List Expr} {ta : TE} {t : TA}
end
section
variable {X : Cx} {g : G} {E : WX} {ro : Bool} {Γ Γ1 Γ2 : List Bool} {pos apos : Pos} {e o : Expr} {es : List Expr} {k : Nat} {ps : List Str} {m : Str} {fo : Env → Out D} {fa : Env → Out (List D)} {tbl : List (List Str × (List D → Out D))}
end
section
variable {P : Program} {w : World} {K : PySem.W.Frag} {mg : Str → Option Value} {base : Heap}
end
end PD

namespace PD
open PySem PySem.Spec L2
open PyProof.Rows hiding St

def spM (K : PySem.W.Frag) (mg : Mg) (F : List D → Out D) : Sp := fun vs H Q E => ∃ a us c fs o ds Hf, vs = .ref a :: us ∧ H a = some o ∧ Hf a = none ∧ Same Hf H ∧ InsAt K mg Hf c fs o ∧ IsDs K mg Hf ds us ∧ match F (.ins c fs :: ds) with
  | .ok d => ∀ r c' fs' v Hf' H' o', d = .tup [r, .ins c' fs'] → Same Hf Hf' → Same Hf' H' → (∀ b x, b ≠ a → H b = some x → H' b = some x) → (∀ b x, Hf' b = some x → Hf b = some x ∨ H b = none) → Hf' a = none → H' a = some o' → InsAt K mg Hf' c' fs' o' → IsD K mg Hf' r v → Q v H'
  | .exc x => ∀ cl dd Hf' H', Same Hf Hf' → Same Hf' H' → (∀ b x, b ≠ a → H b = some x → H' b = some x) → (∀ b x, Hf' b = some x → Hf b = some x ∨ H b = none ∨ b = a) → IsX K mg x cl dd Hf' → E cl dd H'
  | .stuck => False
structure MmA (P : Program) (w : World) (K : PySem.W.Frag) (mg : Str → Option Value) (base : Heap) (k : Nat) (m : Str) (cs : List Str) (ps : List Str) (F : List D → Out D) : Prop where
  ex : ∃ f fd, (∀ c ∈ cs, ∃ C, mg c = some (.ref C) ∧ Cls K C ∧ Meth K C m f) ∧ Binds K fd ps [] ∧ FnOk P w K mg base (L2.CX P w) k f fd ps (spM K ⟨mg, w⟩ F)
theorem MmA.mono {P : Program} {w : World} {K : PySem.W.Frag} {mg : Str → Option Value} {base : Heap} {j k : Nat} {m : Str} {cs ps : List Str} {F : List D → Out D} (h : MmA P w K mg base j m cs ps F) (l : j ≤ k) : MmA P w K mg base k m cs ps F := by
  obtain ⟨f, fd, e1, e2, e3⟩ := h.ex
  exact ⟨f, fd, e1, e2, e3.mono l⟩
section
variable {P : Program} {w : World} {K : PySem.W.Frag} {mg : Str → Option Value} {base : Heap}
end
end PD

namespace PD
open PySem PySem.Spec L2
open PyProof.Rows hiding St

section
variable {X : Cx} {CX : CXT} {k : Nat} {f C : Addr} {fd : FuncData} {ps : List Str} {sp : Sp} {E : St → XK} {x m : Str} {p pos : Pos} {e : Expr} {es : List Expr} {t : TA}
end
section
variable {X : Cx} {g : G} {E : WX} {Γ Γ1 : List Bool} {pos p : Pos} {e : Expr} {es : List Expr} {k : Nat} {ps : List Str} {c : Str} {F : List D → Out D} {fa : Env → Out (List D)} {ρ : Env} {σ : St} {Hf H : Hp}
end
section
variable {P : Program} {w : World} {K : PySem.W.Frag} {mg : Str → Option Value} {base : Heap}
end
end PD

namespace PD
open PySem PySem.Spec L2
open PyProof.Rows hiding St

noncomputable def cStr : List D → Out D
  | [.int i] => chk (i.natAbs.log2 < 1920) (.ok (.str (toString i)))
  | _ => .stuck
section
variable {X : Cx} {g : G} {E : WX} {ro : Bool} {Γl Γ Γ1 Γ2 Γ3 : List Bool} {m : Md} {pos p apos : Pos} {e a : Expr} {es : List Expr} {f fa fb : Env → Out D}
theorem ca_str : CaD X (.type "str") m cStr := by
  refine ⟨_, call_str_int, fun g E Γ ρ σ Hf H ds vs Q R h k => ?_⟩
  unfold cStr at k
  split at k
  · rename_i i
    obtain ⟨v, rfl, q1⟩ := h.one
    cases q1
    by_cases z : i.natAbs.log2 < 1920
    · rw [chk_pos z] at k
      exact ⟨i, rfl, z, k Hf H (Same.refl _) (Same.refl _) R _ (Res.dat R.same rfl (by simp only [IsD]))⟩
    · rw [chk_neg z] at k; exact k.elim
  · exact k.elim
noncomputable def dFmt : D → Out D
  | .str y => chk (y.length ≤ sizeLine) (.ok (.str y))
  | .int i => chk (i.natAbs.log2 < 1920) (.ok (.str (toString i)))
  | _ => .stuck
theorem px_fmt (he : PX X g E Γ e Γ1 .rd f) : PX X g E Γ (.FormattedValue e (-1) none pos) Γ1 m (e1 dFmt f) := by
  refine ⟨he.le, (pe_fmt he.pe).imp fun σ H Q ⟨ρ, Hf, R, k⟩ => ⟨ρ, Hf, R, ?_⟩⟩
  refine tG.bind (Le.refl _) k fun x F1 H1 s1 s2 R1 k1 v hv => ?_
  cases x with
  | str y =>
    simp only [Res, IsR, IsD] at hv
    unfold dFmt at k1
    simp only at k1
    by_cases z : y.length ≤ sizeLine
    · rw [chk_pos z] at k1
      exact .inl ⟨y, hv, z, k1 F1 H1 (Same.refl _) (Same.refl _) R1 _ (Res.dat R1.same rfl (by simp only [IsD]))⟩
    · rw [chk_neg z] at k1; exact k1.elim
  | int i =>
    simp only [Res, IsR, IsD] at hv
    unfold dFmt at k1
    simp only at k1
    by_cases z : i.natAbs.log2 < 1920
    · rw [chk_pos z] at k1
      exact .inr ⟨i, hv, z, k1 F1 H1 (Same.refl _) (Same.refl _) R1 _ (Res.dat R1.same rfl (by simp only [IsD]))⟩
    · rw [chk_neg z] at k1; exact k1.elim
  | _ => exact k1.elim
noncomputable def eJs : List (Env → Out D) → Str → Env → Out D
  | [], acc, _ => .ok (.str acc)
  | f :: fs, acc, ρ => (f ρ).bind fun d => match d with
    | .str y => chk ((acc ++ y).length ≤ sizeLine) (eJs fs (acc ++ y) ρ)
    | _ => .stuck
structure PJx (X : Cx) (g : G) (E : WX) (Γ : List Bool) (es : List Expr) (Γ' : List Bool) (fs : List (Env → Out D)) : Prop where
  le : Le Γ' Γ
  ex : ∃ ts, PJ X es ts ∧ ∀ acc σ H (Q : Str → Hp → Prop), (∃ ρ Hf, Rp X.K X.mw g Γ ρ σ Hf H ∧ tG X.K X.mw g E Γ' ρ σ Hf H (fun d Hf' H' => ∀ s, d = .str s → Rp X.K X.mw g Γ' ρ σ Hf' H' → Q s H') (eJs fs acc ρ)) → tJs ts acc σ H Q
theorem pjx_nil : PJx X g E Γ [] Γ [] := ⟨Le.refl _, [], .nil, fun acc σ H Q ⟨ρ, Hf, R, k⟩ => k Hf H (Same.refl _) (Same.refl _) R acc rfl R⟩
theorem pjx_cons {fs : List (Env → Out D)} (he : PX X g E Γ e Γ1 .fr f) (hr : PJx X g E Γ1 es Γ2 fs) : PJx X g E Γ (e :: es) Γ2 (f :: fs) := by
  obtain ⟨ts, hj, w⟩ := hr.ex
  refine ⟨hr.le.trans he.le, _, .cons he.pe hj, fun acc σ H Q ⟨ρ, Hf, R, k⟩ => ⟨ρ, Hf, R, ?_⟩⟩
  refine tG.bind hr.le k fun x F1 H1 s1 s2 R1 k1 v hv => ?_
  cases x with
  | str y =>
    replace hv : IsD X.K X.mw F1 (.str y) v := hv
    simp only [IsD] at hv
    simp only at k1
    by_cases z : (acc ++ y).length ≤ sizeLine
    · rw [chk_pos z] at k1
      exact ⟨y, hv, z, w _ _ _ _ ⟨ρ, F1, R1, k1⟩⟩
    · rw [chk_neg z] at k1; exact k1.elim
  | _ => exact k1.elim
theorem px_fstr {v1 v2 : Expr} {rest : List Expr} {fs : List (Env → Out D)} (h : PJx X g E Γ (v1 :: v2 :: rest) Γ1 fs) : PX X g E Γ (.JoinedStr (v1 :: v2 :: rest) pos) Γ1 m (eJs fs Str.empty) := by
  obtain ⟨ts, hj, w⟩ := h.ex
  refine ⟨h.le, (pe_joined hj).imp fun σ H Q ⟨ρ, Hf, R, k⟩ => w _ _ _ _ ⟨ρ, Hf, R, ?_⟩⟩
  cases hk : eJs fs Str.empty ρ with
  | ok d =>
    rw [hk] at k
    intro F1 H1 s1 s2 R1 s e R2
    subst e
    exact k F1 H1 s1 s2 R1 _ (Res.dat R1.same rfl (by simp only [IsD]))
  | exc x => rw [hk] at k; exact k
  | stuck => rw [hk] at k; exact k
def strsOf : List D → Option (List Str)
  | [] => some []
  | .str x :: ds => (strsOf ds).map (x :: ·)
  | _ :: _ => none
noncomputable def dJoin (a : Str) : D → Out D
  | .lst ds => match strsOf ds with
    | some ys => chk ((ys.map (·.length)).sum + ys.length * a.length ≤ 16777216) (.ok (.str (Txt.join a ys)))
    | none => .stuck
  | _ => .stuck
noncomputable def eJoin (fa fb : Env → Out D) : Env → Out D := fun ρ => (fa ρ).bind fun x => match x with
  | .str a => (fb ρ).bind fun y => dJoin a y
  | _ => .stuck
theorem strsOf_is {K : PySem.W.Frag} {mg : Mg} {H : Hp} : ∀ {ds : List D} {ys : List Str} {xs : List V}, strsOf ds = some ys → IsDs K mg H ds xs → xs = ys.map V.str
  | [], ys, xs, e, h => by
    cases e
    simp only [IsDs] at h
    exact h
  | d :: ds, ys, xs, e, h => by
    simp only [IsDs] at h
    obtain ⟨v, us, rfl, hv, hr⟩ := h
    cases d with
    | str x =>
      unfold strsOf at e
      obtain ⟨zs, ez, rfl⟩ := Option.map_eq_some_iff.mp e
      simp only [IsD] at hv
      rw [hv, List.map_cons, strsOf_is ez hr]
    | _ => cases e
theorem px_join {b : Expr} {apos : Pos} (ha : PX X g E Γ a Γ1 .rd fa) (hb : PX X g E Γ1 b Γ2 .rd fb) (hs : starEach [b] X.env = [(false, eval b X.env)] := by rfl)
    (hbase : attributeBase a "join" X.env (eval a X.env) = eval a X.env := by rfl) (hline : (apos.endLine == pos.line) = true := by rfl) : PX X g E Γ (.Call (.Attribute a "join" apos) [b] [] pos) Γ2 m (eJoin fa fb) := by
  refine ⟨hb.le.trans ha.le, (pe_m1 PySem.F.slot_str_join PySem.F.type_str_join mt_join ha.pe hb.pe hs hbase hline).imp fun σ H Q ⟨ρ, Hf, R, k⟩ => ⟨ρ, Hf, R, ?_⟩⟩
  refine tG.bind hb.le k fun x F1 H1 s1 s2 R1 k1 v hv => ?_
  cases x with
  | str z =>
    simp only [Res, IsR, IsD] at hv
    refine ⟨⟨z, hv⟩, ρ, F1, R1, ?_⟩
    refine tG.bind (Le.refl _) k1 fun y F2 H2 s3 s4 R2 k2 u hu => ?_
    cases y with
    | lst ds =>
      obtain ⟨q, xs, rfl, eq, hd⟩ : IsR X.K X.mw F2 H2 (.lst ds) u := hu
      unfold dJoin at k2
      simp only at k2
      cases e : strsOf ds with
      | none => rw [e] at k2; exact k2.elim
      | some ys =>
        rw [e] at k2
        simp only at k2
        by_cases c : (ys.map (·.length)).sum + ys.length * z.length ≤ 16777216
        · rw [chk_pos c] at k2
          obtain rfl := strsOf_is e hd
          exact ⟨z, q, ys, hv, rfl, .inl (.inl (.inl eq)), c, k2 F2 H2 (Same.refl _) (Same.refl _) R2 _ (Res.dat R2.same rfl (by simp only [IsD]))⟩
        · rw [chk_neg c] at k2; exact k2.elim
    | _ => exact k2.elim
  | _ => exact k1.elim
end
structure DkT (K : PySem.W.Frag) (mg : Mg) (x : Str) (kvs : List (Str × Str)) : Prop where
  ex : ∃ a, mg.f x = some (.ref a) ∧ (a == sysModules) = false ∧ ∀ (P : Program) (h : Heap), K.In h → ∃ f, h.MapOf (mixKind P mg.w) a f ∧ ∀ s, RelO ((kvs.lookup s).map V.str) (f (.inr s))
def dInC (kvs : List (Str × Str)) : D → Out D
  | .str s => .ok (.bl (kvs.lookup s).isSome)
  | _ => .stuck
def dIxC (kvs : List (Str × Str)) : D → Out D
  | .str s => match kvs.lookup s with
    | some y => .ok (.str y)
    | none => .stuck
  | _ => .stuck
section
variable {X : Cx} {g : G} {E : WX} {Γ Γ1 : List Bool} {m : Md} {pos p : Pos} {e : Expr} {f : Env → Out D} {x : Str} {kvs : List (Str × Str)}
theorem op_inC {a : Addr} (hsys : (a == sysModules) = false) (hm : ∀ (P : Program) (h : Heap), X.K.In h → ∃ f, h.MapOf (mixKind P X.w) a f ∧ ∀ s, RelO ((kvs.lookup s).map V.str) (f (.inr s))) :
    OpR X (compareOp .In) (fun y x H Q => ∃ s, y = .str s ∧ x = .ref a ∧ Q (.bl (kvs.lookup s).isSome) H) := by
  intro pins s σ H y x u v Q I ry rx h
  obtain ⟨z, rfl, rfl, q⟩ := h
  cases rx
  obtain ⟨f, mo, hf⟩ := hm X.prog s.heap I.kIn
  refine wpAny_in_of (knd := mixKind X.prog X.w) (k := .inr z) (kV_is ry) hsys mo ?_
  have e : (f (.inr z)).isSome = (kvs.lookup z).isSome := by
    rw [← (hf z).isSome_eq, Option.isSome_map]
  rw [e]
  exact ⟨.bl _, H, I.tok _, rfl, q⟩
theorem ptx_inC (T : DkT X.K X.mw x kvs) (hg : Gl X x) (he : PX X g E Γ e Γ1 .rd f) (hd : (x == ("__debug__" : Str)) = false := by decide) (hmk : behindInMarks .In (.Name x p) = false := by rfl) : PTx X g E Γ (.Compare e [.In] [.Name x p] pos) Γ1 (tOf (e1 (dInC kvs) f)) := by
  obtain ⟨a, mx, hsys, hm⟩ := T.ex
  refine pt_of (pt_cmpR (op_inC hsys hm) he.pe (pe_glob (v := .ref a) hg mx rfl hd) hmk) (fun σ H Q ⟨ρ, Hf, R, k⟩ => ⟨ρ, Hf, R, ?_⟩) he.le
  refine tG.bind (Le.refl _) k fun d F1 H1 s1 s2 R1 k1 v hv => ?_
  cases d with
  | str s =>
    simp only [Res, IsR, IsD] at hv
    exact ⟨s, hv, rfl, k1 F1 H1 (Same.refl _) (Same.refl _) R1 _ (Res.dat R1.same rfl (by simp only [IsD]))⟩
  | _ => exact k1.elim
theorem ix_C {a : Addr} (hm : ∀ (P : Program) (h : Heap), X.K.In h → ∃ f, h.MapOf (mixKind P X.w) a f ∧ ∀ s, RelO ((kvs.lookup s).map V.str) (f (.inr s))) :
    IxR X (fun x y H Q => ∃ s z, x = .ref a ∧ y = .str s ∧ kvs.lookup s = some z ∧ Q (.str z) H) := by
  intro value slice pins s σ H x y v u Q I rx ry h hs
  obtain ⟨s', z, rfl, rfl, ez, q⟩ := h
  cases rx
  obtain ⟨f, mo, hf⟩ := hm X.prog s.heap I.kIn
  obtain ⟨w', hw, rw'⟩ := RelO.some_of (v := .str z) (o := f (.inr s')) (by have := hf s'; rw [ez] at this; exact this)
  exact tail_any mo.typeIs PySem.F.slot_dict_getitem.lookup (wpAny_getItem_of (knd := mixKind X.prog X.w) (k := .inr s') (kV_is ry) mo hw ⟨.str z, H, I.tok _, rw', q⟩) hs
theorem px_ixC (T : DkT X.K X.mw x kvs) (hg : Gl X x) (he : PX X g E Γ e Γ1 .rd f) (hs : PlainIx e) (hd : (x == ("__debug__" : Str)) = false := by decide) : PX X g E Γ (.Subscript (.Name x p) e pos) Γ1 m (e1 (dIxC kvs) f) := by
  obtain ⟨a, mx, hsys, hm⟩ := T.ex
  refine ⟨he.le, (pe_ix (ix_C hm) (pe_glob (v := .ref a) hg mx rfl hd) he.pe hs).imp fun σ H Q ⟨ρ, Hf, R, k⟩ => ⟨ρ, Hf, R, ?_⟩⟩
  refine tG.bind (Le.refl _) k fun d F1 H1 s1 s2 R1 k1 v hv => ?_
  cases d with
  | str s =>
    simp only [Res, IsR, IsD] at hv
    unfold dIxC at k1
    simp only at k1
    cases ez : kvs.lookup s with
    | none => rw [ez] at k1; exact k1.elim
    | some z =>
      rw [ez] at k1
      exact ⟨s, z, rfl, hv, ez, k1 F1 H1 (Same.refl _) (Same.refl _) R1 _ (Res.dat R1.same rfl (by simp only [IsD]))⟩
  | _ => exact k1.elim
end
def strV : Value → Option Str
  | .str x _ => some x
  | _ => none
def DentP (w : World) (es : Array DictEntry) (kvs : List (Str × Str)) : Prop := es.toList.map (fun e => (e.hash, strV e.key, strV e.val)) = kvs.map fun p => (hashStr w p.1, some p.1, some p.2)
theorem strV_is {v : Value} {x : Str} (h : strV v = some x) : ∃ t, v = .str x t := by
  cases v <;> first | (cases h; exact ⟨_, rfl⟩) | cases h
theorem dent_find {P : Program} {w : World} : ∀ {es : List DictEntry} {kvs : List (Str × Str)}, es.map (fun e => (e.hash, strV e.key, strV e.val)) = (kvs.map fun p => (hashStr w p.1, some p.1, some p.2)) →
    (∀ e ∈ es, ∃ k, (mixKind P w).is k e.key = true ∧ e.hash = (mixKind P w).hash k) ∧ ∀ s, RelO ((kvs.lookup s).map V.str) ((es.find? fun e => (mixKind P w).is (.inr s) e.key).map (·.val))
  | [], [], _ => ⟨fun e he => absurd he (by simp), fun s => True.intro⟩
  | e :: es, (k, v) :: kvs, h => by
    simp only [List.map_cons, List.cons.injEq, Prod.mk.injEq] at h
    obtain ⟨⟨h1, h2, h3⟩, h4⟩ := h
    obtain ⟨i1, i2⟩ := dent_find (P := P) h4
    obtain ⟨t, ek⟩ := strV_is h2
    obtain ⟨t', ev⟩ := strV_is h3
    refine ⟨fun e' he => ?_, fun s => ?_⟩
    · rcases List.mem_cons.mp he with rfl | he
      · exact ⟨.inr k, by rw [ek]; exact mixKind_str P w k t, h1⟩
      · exact i1 e' he
    · rw [List.lookup_cons, List.find?_cons]
      by_cases c : s = k
      · subst c
        have b1 : (s == s) = true := beq_self_eq_true s
        rw [b1, show (mixKind P w).is (.inr s) e.key = true by rw [ek]; exact mixKind_str P w s t]
        simp only [Option.map_some]
        rw [ev]
        exact ⟨t', rfl⟩
      · have b1 : (s == k) = false := beq_eq_false_iff_ne.mpr c
        have b2 : (mixKind P w).is (.inr s) e.key = false := by
          rw [ek]
          cases q : (mixKind P w).is (.inr s) (.str k t) with
          | false => rfl
          | true =>
            rcases L2.keyIs_shape (k := Sum.inr s) (v := Value.str k t) q with ⟨i, t', e1, e2⟩ | ⟨x', t', e1, e2⟩
            · cases e1
            · cases e1; cases e2; exact absurd rfl c
        rw [b1, b2]
        exact i2 s
  | [], _ :: _, h => by cases h
  | _ :: _, [], h => by cases h
theorem dkT_of {K : PySem.W.Frag} {h : Heap} {mg : Str → Option Value} {w : World} {x : Str} {a : Addr} {es : Array DictEntry} {ep : Nat} {kvs : List (Str × Str)} (X : K.In h) (G : h.Ns mainGlobals mg)
    (e : PySem.W.nsIn K mainGlobals x = some (some (.ref a))) (l : K.lookup a = some ⟨.type "dict", none, .dict es ep, #[]⟩) (d : DentP w es kvs) (hs : (a == sysModules) = false) : DkT K ⟨mg, w⟩ x kvs := by
  refine ⟨a, PySem.W.mg_of X G e, hs, fun P h' X' => ?_⟩
  obtain ⟨d1, d2⟩ := dent_find (P := P) d
  refine ⟨fun k => findBy (mixKind P w).is es k, ⟨_, es, ep, X' _ _ l, ⟨rfl, rfl, rfl⟩, rfl, fun e he => d1 e (Array.mem_def.mp he), fun k => rfl⟩, fun s => ?_⟩
  have := d2 s
  show RelO _ (findBy (mixKind P w).is es (.inr s))
  unfold findBy
  rw [← Array.find?_toList]
  exact this
end PD

namespace PD
open PySem PySem.Spec L2
open PySem.W (dataLt alike alikeAll dataLe AllAlike keyToks keyToksAll)
open PyProof.Rows hiding St
noncomputable def b__law_cell : Env → SO := (sSeq (sIf (tOf (e2 dLt (eV 1) (eA cLen (aC (eV 0) aN))))
 (sRet (e2 dMod (e2 dIx (eV 0) (eV 1)) (e2 dPow (eC (.int 10)) (eC (.int 60)))))
 sNx)
 (sRet (eC (.int 0))))
noncomputable def m__law_cell : List D → Out D := fnM 2 2 b__law_cell
noncomputable def b_shown_name : Env → SO := (sSeq (sIf (tOf (e2 dEq (eV 1) (eC (.int 1))))
 (sRet (eV 0))
 sNx)
 (sRet (eJs [(e1 dFmt (eV 0)), (eC (.str "^")), (e1 dFmt (eV 1))] Str.empty)))
noncomputable def m_shown_name : List D → Out D := fnM 2 2 b_shown_name
noncomputable def b_shown_pair : Env → SO := (sSeq (sSet 2 (eJoin (eC (.str "*")) (eLc [3, 4] (gT [(gN 3), (gN 4)]) (iSeq (eV 0)) bYes (eA m_shown_name (aC (eV 3) (aC (eV 4) aN))))))
 (sSeq (sIf (tOf (e2 dEq (eV 2) (eC (.str ""))))
 (sRet (eA cStr (aC (eV 1) aN)))
 sNx)
 (sSeq (sIf (tOf (e2 dEq (eV 1) (eC (.int 1))))
 (sRet (eV 2))
 sNx)
 (sRet (eJs [(e1 dFmt (eV 1)), (eC (.str "*")), (e1 dFmt (eV 2))] Str.empty)))))
noncomputable def m_shown_pair : List D → Out D := fnM 5 2 b_shown_pair
noncomputable def b_shown_form_1 : Env → SO := (sSeq (sSet 4 (eA m_shown_pair (aC (eV 2) (aC (eA cAbs (aC (eV 3) aN)) aN))))
 (sIf (bAnd (tOf (e2 dEq (eV 1) (eC (.str "")))) (tOf (e2 dLt (eV 3) (eC (.int 0)))))
 (sSet 1 (e2 dAdd (eC (.str "-")) (eV 4)))
 (sIf (tOf (e2 dEq (eV 1) (eC (.str ""))))
 (sSet 1 (eV 4))
 (sIf (tOf (e2 dLt (eV 3) (eC (.int 0))))
 (sSet 1 (e2 dAdd (e2 dAdd (eV 1) (eC (.str " - "))) (eV 4)))
 (sSet 1 (e2 dAdd (e2 dAdd (eV 1) (eC (.str " + "))) (eV 4)))))))
noncomputable def b_shown_form : Env → SO := (sSeq (sSet 1 (eC (.str "")))
 (sSeq (sFor (gT [(gN 2), (gN 3)]) (iSeq (eV 0))
 b_shown_form_1)
 (sRet (eV 1))))
noncomputable def m_shown_form : List D → Out D := fnM 5 1 b_shown_form
noncomputable def b_shown (f_shown : List D → Out D) (f_held_by : List D → Out D) : Env → SO := (sSeq (sSet 1 (e2 dIx (eV 0) (eC (.int 0))))
 (sSeq (sIf (tOf (e1 (dInC [("less", "<"), ("most", "<="), ("equal", "="), ("unlike", "/=")]) (eV 1)))
 (sRet (e2 dAdd (e2 dAdd (e2 dAdd (eA m_shown_form (aC (e2 dIx (eV 0) (eC (.int 1))) aN)) (eC (.str " "))) (e1 (dIxC [("less", "<"), ("most", "<="), ("equal", "="), ("unlike", "/=")]) (eV 1))) (eC (.str " 0"))))
 sNx)
 (sSeq (sIf (tOf (e2 dEq (eV 1) (eC (.str "both"))))
 (sRet (eJoin (eC (.str " and ")) (eLc [2] (gN 2) (iSeq (e2 dIx (eV 0) (eC (.int 1)))) bYes (eA f_held_by (aC (eC (.str "and")) (aC (eV 2) aN))))))
 sNx)
 (sSeq (sIf (tOf (e2 dEq (eV 1) (eC (.str "either"))))
 (sRet (eJoin (eC (.str " or ")) (eLc [2] (gN 2) (iSeq (e2 dIx (eV 0) (eC (.int 1)))) bYes (eA f_held_by (aC (eC (.str "or")) (aC (eV 2) aN))))))
 sNx)
 (sSeq (sIf (tOf (e2 dEq (eV 1) (eC (.str "not"))))
 (sRet (e2 dAdd (eC (.str "not ")) (eA f_held_by (aC (eC (.str "not")) (aC (e2 dIx (eV 0) (eC (.int 1))) aN)))))
 sNx)
 (sSeq (sIf (bOr (tOf (e2 dEq (eV 1) (eC (.str "some")))) (tOf (e2 dEq (eV 1) (eC (.str "all")))))
 (sRet (e2 dAdd (e2 dAdd (e2 dAdd (e2 dAdd (eV 1) (eC (.str " "))) (e2 dIx (eV 0) (eC (.int 1)))) (eC (.str ": "))) (eA f_shown (aC (e2 dIx (eV 0) (eC (.int 2))) aN))))
 sNx)
 (sRet (eV 1))))))))
noncomputable def b_held_by (f_shown : List D → Out D) (f_held_by : List D → Out D) : Env → SO := (sSeq (sSet 2 (e2 dIn (e2 dIx (eV 1) (eC (.int 0))) (eA mkTup (aC (eC (.str "either")) (aC (eC (.str "some")) (aC (eC (.str "all")) aN))))))
 (sSeq (sIf (bAnd (tOf (e2 dNe (eV 0) (eC (.str "or")))) (tOf (e2 dEq (e2 dIx (eV 1) (eC (.int 0))) (eC (.str "both")))))
 (sSet 2 (eC (.bl true)))
 sNx)
 (sSeq (sIf (tOf (eV 2))
 (sRet (e2 dAdd (e2 dAdd (eC (.str "(")) (eA f_shown (aC (eV 1) aN))) (eC (.str ")"))))
 sNx)
 (sRet (eA f_shown (aC (eV 1) aN))))))
mutual
noncomputable def r_shown : Nat → List D → Out D
  | 0, _ => .stuck
  | n + 1, ds => fnM 3 1 (b_shown (r_shown n) (r_held_by n)) ds
noncomputable def r_held_by : Nat → List D → Out D
  | 0, _ => .stuck
  | n + 1, ds => fnM 3 2 (b_held_by (r_shown n) (r_held_by n)) ds
end
noncomputable def m_shown : List D → Out D := r_shown 60
noncomputable def b__law_any_names_1 : Env → SO := (sSeq (sSet 6 (e2 dAdd (eV 6) (e2 dIx (eV 2) (e2 dMod (eV 0) (eC (.int 26))))))
 (sSet 0 (e2 dDiv (eV 0) (eC (.int 26)))))
noncomputable def b__law_any_names_2 : Env → SO := (sSeq (sSet 5 (e2 dAdd (eC (.int 1)) (e2 dMod (eV 0) (eC (.int 8)))))
 (sSeq (sSet 0 (e2 dDiv (eV 0) (eC (.int 8))))
 (sSeq (sSet 6 (eC (.str "")))
 (sSeq (sFor (gN 7) (iRange1 (aC (eV 5) aN))
 b__law_any_names_1)
 (sSeq (sIf (tOf (e2 dIn (eV 6) (eA mkLst (aC (eC (.str "some")) (aC (eC (.str "all")) (aC (eC (.str "and")) (aC (eC (.str "or")) (aC (eC (.str "not")) (aC (eC (.str "yes")) (aC (eC (.str "no")) aN))))))))))
 (sSet 6 (e2 dAdd (eV 6) (eC (.str "q"))))
 sNx)
 (sApp 3 (eV 6)))))))
noncomputable def b__law_any_names : Env → SO := (sSeq (sSet 2 (eC (.str "abcdefghijklmnopqrstuvwxyz")))
 (sSeq (sSet 3 (eA mkLst aN))
 (sSeq (sFor (gN 4) (iRange1 (aC (eV 1) aN))
 b__law_any_names_2)
 (sRet (eV 3)))))
noncomputable def m__law_any_names : List D → Out D := fnM 8 2 b__law_any_names
noncomputable def b__law_names_v4 : Env → SO := (sSeq (sSet 1 (eA m__law_any_names (aC (e2 dDiv (eV 0) (eC (.int 2))) (aC (eC (.int 2)) aN))))
 (sSeq (sIf (tOf (e2 dEq (e2 dMod (eV 0) (eC (.int 2))) (eC (.int 1))))
 (sRet (eV 1))
 sNx)
 (sSeq (sSet 2 (e2 dIx (eV 1) (eC (.int 0))))
 (sSeq (sIf (tOf (e2 dEq (e2 dMod (e2 dDiv (eV 0) (eC (.int 2))) (eC (.int 5))) (eC (.int 1))))
 (sSeq (sSet 2 (e2 dAdd (e2 dIx (eA mkLst (aC (eC (.str "some")) (aC (eC (.str "all")) (aC (eC (.str "and")) (aC (eC (.str "or")) (aC (eC (.str "not")) (aC (eC (.str "yes")) (aC (eC (.str "no")) aN)))))))) (e2 dMod (e2 dDiv (eV 0) (eC (.int 10))) (eC (.int 7)))) (eSl (e2 dIx (eV 1) (eC (.int 1))) oN (oI (eC (.int 4))))))
 (sSet 2 (e2 dAdd (eV 2) (e2 dMulS (eC (.str "q")) (eA cInt (aC (e2 dEq (eV 2) (eC (.str "not"))) aN))))))
 sNx)
 (sRet (eA mkLst (aC (eV 2) (aC (eSl (e2 dAdd (eV 2) (eC (.str "a"))) oN (oI (eC (.int 8)))) aN))))))))
noncomputable def m__law_names_v4 : List D → Out D := fnM 3 1 b__law_names_v4
noncomputable def b__law_leaf_v3 : Env → SO := (sSeq (sSet 2 (eA mkTup (aC (eA mkTup (aC (e2 dIx (eV 1) (e2 dMod (eV 0) (eC (.int 2)))) (aC (eC (.int 1)) aN))) aN)))
 (sSeq (sSet 3 (e2 dIx (eA mkLst (aC (e2 dMod (e2 dDiv (eV 0) (eC (.int 64))) (eC (.int 4))) (aC (e2 dMod (e2 dDiv (eV 0) (eC (.int 64))) (e2 dPow (eC (.int 10)) (eC (.int 30)))) aN))) (e2 dMod (e2 dDiv (eV 0) (eC (.int 2))) (eC (.int 2)))))
 (sSeq (sSet 4 (e2 dMul (eV 3) (e2 dSub (eC (.int 1)) (e2 dMul (eC (.int 2)) (e2 dMod (e2 dDiv (eV 0) (eC (.int 4))) (eC (.int 2)))))))
 (sSeq (sSet 5 (eA mkLst (aC (eA mkTup (aC (eV 2) (aC (e2 dSub (eC (.int 1)) (e2 dMul (eC (.int 2)) (e2 dMod (e2 dDiv (eV 0) (eC (.int 8))) (eC (.int 2))))) aN))) aN)))
 (sSeq (sIf (tOf (e2 dNe (eV 4) (eC (.int 0))))
 (sSet 5 (e2 dAdd (eA mkLst (aC (eA mkTup (aC (eA mkTup aN) (aC (eV 4) aN))) aN)) (eV 5)))
 sNx)
 (sRet (eA mkTup (aC (e2 dIx (eA mkLst (aC (eC (.str "less")) (aC (eC (.str "most")) (aC (eC (.str "equal")) (aC (eC (.str "unlike")) aN))))) (e2 dMod (e2 dDiv (eV 0) (eC (.int 16))) (eC (.int 4)))) (aC (eA cTuple (aC (eV 5) aN)) aN)))))))))
noncomputable def m__law_leaf_v3 : List D → Out D := fnM 6 2 b__law_leaf_v3
noncomputable def b__law_folded_v3_1 : Env → SO := (sIf (tOf (e2 (dInDp true) (eV 3) (eV 2)))
 (sApp 2 (eV 3))
 sNx)
noncomputable def b__law_folded_v3 : Env → SO := (sSeq (sSet 2 (eA mkLst aN))
 (sSeq (sFor (gN 3) (iSeq (eV 1))
 b__law_folded_v3_1)
 (sSeq (sIf (tOf (e2 dEq (eA cLen (aC (eV 2) aN)) (eC (.int 1))))
 (sRet (e2 dIx (eV 2) (eC (.int 0))))
 sNx)
 (sRet (eA mkTup (aC (eV 0) (aC (eA cTuple (aC (eV 2) aN)) aN)))))))
noncomputable def m__law_folded_v3 : List D → Out D := fnM 4 2 b__law_folded_v3
noncomputable def b__law_step : Env → SO := (sSeq (sSet 3 (e2 dMod (eV 1) (eC (.int 12))))
 (sSeq (sSet 4 (e2 dDiv (eV 1) (eC (.int 12))))
 (sSeq (sSet 5 (eC (.int 1)))
 (sSeq (sIf (tOf (e2 dGt (eV 3) (eC (.int 8))))
 (sSet 5 (e2 dAdd (eC (.int 2)) (e2 dMod (e2 dDiv (eV 4) (eC (.int 2))) (eC (.int 3)))))
 sNx)
 (sSeq (sSet 6 (eSl (eV 0) (oI (eA cMax2 (aC (eC (.int 0)) (aC (e2 dSub (eA cLen (aC (eV 0) aN)) (eV 5)) aN)))) oN))
 (sSeq (sSet 7 (eA (cBest true) (aC (eLc [9, 10] (gT [(gN 9), (gN 10)]) (iSeq (eV 6)) bYes (eV 10)) aN)))
 (sSeq (sIf (bOr (tOf (e2 dLt (eV 3) (eC (.int 5)))) (tOf (e2 dGt (eV 7) (eC (.int 7)))))
 (sRet (e2 dAdd (eV 0) (eA mkLst (aC (eA mkTup (aC (eA m__law_leaf_v3 (aC (eV 4) (aC (eV 2) aN))) (aC (eC (.int 1)) aN))) aN))))
 sNx)
 (sSeq (sSet 8 (e2 dIx (e2 dIx (eV 6) (e1 dNeg (eC (.int 1)))) (eC (.int 0))))
 (sSeq (sIf (tOf (e2 dLt (eV 3) (eC (.int 7))))
 (sSet 8 (eA mkTup (aC (eC (.str "not")) (aC (eV 8) aN))))
 (sIf (tOf (e2 dLt (eV 3) (eC (.int 9))))
 (sSet 8 (eA mkTup (aC (e2 dIx (eA mkLst (aC (eC (.str "some")) (aC (eC (.str "all")) aN))) (e2 dSub (eV 3) (eC (.int 7)))) (aC (e2 dIx (eV 2) (e2 dMod (eV 4) (eC (.int 2)))) (aC (eV 8) aN)))))
 (sSet 8 (eA m__law_folded_v3 (aC (e2 dIx (eA mkLst (aC (eC (.str "both")) (aC (eC (.str "either")) aN))) (e2 dMod (eV 4) (eC (.int 2)))) (aC (eLc [9, 10] (gT [(gN 9), (gN 10)]) (iSeq (eV 6)) bYes (eV 9)) aN))))))
 (sRet (e2 dAdd (eSl (eV 0) oN (oI (e2 dSub (eA cLen (aC (eV 0) aN)) (eA cLen (aC (eV 6) aN))))) (eA mkLst (aC (eA mkTup (aC (eV 8) (aC (e2 dAdd (eV 7) (eC (.int 1))) aN))) aN)))))))))))))
noncomputable def m__law_step : List D → Out D := fnM 11 3 b__law_step
noncomputable def b__law_built_1 : Env → SO := (sSet 3 (eA m__law_step (aC (eV 3) (aC (e2 dMod (eV 4) (e2 dPow (eC (.int 10)) (eC (.int 60)))) (aC (eV 2) aN)))))
noncomputable def b__law_built : Env → SO := (sSeq (sSet 2 (eA m__law_names_v4 (aC (eA m__law_cell (aC (eV 0) (aC (eC (.int 0)) aN))) aN)))
 (sSeq (sSet 3 (eA mkLst (aC (eA mkTup (aC (eA m__law_leaf_v3 (aC (eA m__law_cell (aC (eV 0) (aC (eC (.int 1)) aN))) (aC (eV 2) aN))) (aC (eC (.int 1)) aN))) aN)))
 (sSeq (sFor (gN 4) (iSeq (eSl (eV 0) (oI (eC (.int 2))) (oI (eV 1))))
 b__law_built_1)
 (sSeq (sSet 5 (e2 dIx (eA mkLst (aC (eC (.str "both")) (aC (eC (.str "either")) aN))) (e2 dMod (e2 dDiv (eA m__law_cell (aC (eV 0) (aC (eC (.int 1)) aN))) (eC (.int 5))) (eC (.int 2)))))
 (sRet (eA m__law_folded_v3 (aC (eV 5) (aC (eLc [6, 7] (gT [(gN 6), (gN 7)]) (iSeq (eV 3)) bYes (eV 6)) aN))))))))
noncomputable def m__law_built : List D → Out D := fnM 8 2 b__law_built
noncomputable def b__law_compare_v4_1 : Env → SO := (sIf (tOf (e2 dEq (eV 2) (eA mkTup aN)))
 (sSet 1 (eA cStr (aC (eV 3) aN)))
 (sSet 1 (e2 dAdd (e2 dAdd (eV 1) (e2 dIx (eA mkLst (aC (eC (.str "")) (aC (eC (.str "-")) (aC (eC (.str " + ")) (aC (eC (.str " - ")) aN))))) (e2 dAdd (e2 dMul (eC (.int 2)) (eA cInt (aC (e2 dNe (eV 1) (eC (.str ""))) aN))) (eA cInt (aC (e2 dLt (eV 3) (eC (.int 0))) aN))))) (e2 dIx (e2 dIx (eV 2) (eC (.int 0))) (eC (.int 0))))))
noncomputable def b__law_compare_v4 : Env → SO := (sSeq (sSet 1 (eC (.str "")))
 (sSeq (sFor (gT [(gN 2), (gN 3)]) (iSeq (e2 dIx (eV 0) (eC (.int 1))))
 b__law_compare_v4_1)
 (sRet (e2 dAdd (eV 1) (e2 dIx (eA mkLst (aC (eC (.str " < 0")) (aC (eC (.str " <= 0")) (aC (eC (.str " = 0")) (aC (eC (.str " /= 0")) aN))))) (eIndex (eA mkLst (aC (eC (.str "less")) (aC (eC (.str "most")) (aC (eC (.str "equal")) (aC (eC (.str "unlike")) aN))))) (aC (e2 dIx (eV 0) (eC (.int 0))) aN)))))))
noncomputable def m__law_compare_v4 : List D → Out D := fnM 4 1 b__law_compare_v4
noncomputable def b__law_text (f__law_text : List D → Out D) : Env → SO := (sSeq (sSet 2 (e2 dIx (eV 0) (eC (.int 0))))
 (sSeq (sIf (tOf (e2 dEq (eV 2) (eC (.str "not"))))
 (sRet (e2 dAdd (eC (.str "not ")) (eA f__law_text (aC (e2 dIx (eV 0) (eC (.int 1))) (aC (eC (.str "not")) aN)))))
 sNx)
 (sSeq (sIf (tOf (e2 dEq (eV 2) (eC (.str "both"))))
 (sSet 3 (eJoin (eC (.str " and ")) (eLc [4] (gN 4) (iSeq (e2 dIx (eV 0) (eC (.int 1)))) bYes (eA f__law_text (aC (eV 4) (aC (eC (.str "and")) aN))))))
 (sIf (tOf (e2 dEq (eV 2) (eC (.str "either"))))
 (sSet 3 (eJoin (eC (.str " or ")) (eLc [4] (gN 4) (iSeq (e2 dIx (eV 0) (eC (.int 1)))) bYes (eA f__law_text (aC (eV 4) (aC (eC (.str "or")) aN))))))
 (sIf (bOr (tOf (e2 dEq (eV 2) (eC (.str "some")))) (tOf (e2 dEq (eV 2) (eC (.str "all")))))
 (sSet 3 (e2 dAdd (e2 dAdd (e2 dAdd (e2 dAdd (eV 2) (eC (.str " "))) (e2 dIx (eV 0) (eC (.int 1)))) (eC (.str ": "))) (eA f__law_text (aC (e2 dIx (eV 0) (eC (.int 2))) (aC (eC (.str "")) aN)))))
 (sRet (eA m__law_compare_v4 (aC (eV 0) aN))))))
 (sSeq (sIf (bOr (tOf (e2 dEq (eV 1) (eC (.str "")))) (bAnd (tOf (e2 dEq (eV 1) (eC (.str "or")))) (tOf (e2 dEq (eV 2) (eC (.str "both"))))))
 (sRet (eV 3))
 sNx)
 (sRet (e2 dAdd (e2 dAdd (eC (.str "(")) (eV 3)) (eC (.str ")"))))))))
noncomputable def r__law_text : Nat → List D → Out D
  | 0, _ => .stuck
  | n + 1, ds => fnM 5 2 (b__law_text (r__law_text n)) ds
noncomputable def m__law_text : List D → Out D := r__law_text 60
noncomputable def b_law_v26_t2 : Env → SO := (sRet (vAnd (eA cIsi (aC (eV 2) (aC (eC (.ty "str")) aN))) (e2 dEq (eV 2) (eA m__law_text (aC (eV 1) (aC (eC (.str "")) aN))))))
noncomputable def b_law_v26_t1 : Env → SO := (sSeq (sSet 2 (eA m_shown (aC (eV 1) aN)))
 b_law_v26_t2)
noncomputable def b_law_v26 : Env → SO := (sSeq (sSet 1 (eA m__law_built (aC (eV 0) (aC (eC (.int 32)) aN))))
 b_law_v26_t1)
noncomputable def m_law_v26 : List D → Out D := fnM 3 1 b_law_v26
def topS (i : Nat) : Stmt := PySem.Challenge.pw_realsay_k33_brackets_shown.main.body.getD i (.Pass ⟨0, 0, 0, 0⟩)
structure Tx (K : PySem.W.Frag) (mg : Str → Option Value) (w : World) : Prop where
  d_SIGNS : DkT K ⟨mg, w⟩ "SIGNS" [("less", "<"), ("most", "<="), ("equal", "="), ("unlike", "/=")]
  z_abs : mg "abs" = none
  z_int : mg "int" = none
  z_isinstance : mg "isinstance" = none
  z_len : mg "len" = none
  z_max : mg "max" = none
  z_range : mg "range" = none
  z_str : mg "str" = none
  z_tuple : mg "tuple" = none
  f_shown_name : FnT K mg "shown_name" (topS 2)
  f_shown_pair : FnT K mg "shown_pair" (topS 3)
  f_shown_form : FnT K mg "shown_form" (topS 4)
  f_held_by : FnT K mg "held_by" (topS 5)
  f_shown : FnT K mg "shown" (topS 6)
  f__law_cell : FnT K mg "_law_cell" (topS 8)
  f__law_any_names : FnT K mg "_law_any_names" (topS 9)
  f__law_names : FnT K mg "_law_names" (topS 10)
  f__law_leaf : FnT K mg "_law_leaf" (topS 11)
  f__law_folded : FnT K mg "_law_folded" (topS 12)
  f__law_step : FnT K mg "_law_step" (topS 13)
  f__law_built : FnT K mg "_law_built" (topS 14)
  f__law_compare : FnT K mg "_law_compare" (topS 15)
  f__law_text : FnT K mg "_law_text" (topS 16)
  f_law : FnT K mg "law" (topS 17)
section
variable {P : Program} {w : World} {K : PySem.W.Frag} {mg : Str → Option Value} {base : Heap}
theorem w_shown_name (T : Tx K mg w) : FnA P w K mg base 1 "shown_name" ["name", "power"] false m_shown_name := by
  have nd : (["name", "power"] : List Str).Nodup := by decide +kernel
  have S : FnScope ["name", "power"] ["name", "power"] (defScope (topS 2)) := ⟨rfl, rfl, rfl, nd, rfl, by decide +kernel, by decide +kernel⟩
  refine fnA_mk (Γ0 := []) (Γl := []) (Γ' := []) T.f_shown_name S (by decide) (no_own rfl) (fun _ _ _ _ _ _ us hl => match us, hl with | [_, _], _ => rfl) fun f cdv A outer s H E Hf hr => ?_
  have tk := takes_of (X := cxD P w K mg base ["name", "power"] "shown_name" (topS 2) f cdv A outer s H E) rfl rfl rfl rfl
  have hp := passes_of (X := cxD P w K mg base ["name", "power"] "shown_name" (topS 2) f cdv A outer s H E) rfl
  exact (pssx_cons (psx_if (Γ2 := []) (ptx_cmp (od_eq hr) (px_rd (pv 1)) px_int (nomark _))
 (pssx_one (psx_ret (px_fr' (pv 0) rfl)))
 (PSsx.less (Γ2 := []) pssx_nil (le_of rfl)))
 (pssx_one (psx_ret (px_fstr (pjx_cons (px_fmt (px_rd (pv 0))) (pjx_cons px_str (pjx_cons (px_fmt (px_rd (pv 1))) pjx_nil)))))))
theorem w_shown_pair (T : Tx K mg w) : FnA P w K mg base 2 "shown_pair" ["product", "size"] false m_shown_pair := by
  have C_shown_name := w_shown_name (P := P) (w := w) (base := base) T
  have nd : (["product", "size", "found", "name", "power"] : List Str).Nodup := by decide +kernel
  have S : FnScope ["product", "size", "found", "name", "power"] ["product", "size"] (defScope (topS 3)) := ⟨rfl, rfl, rfl, nd, rfl, by decide +kernel, by decide +kernel⟩
  refine fnA_mk (Γ0 := []) (Γl := []) (Γ' := []) T.f_shown_pair S (by decide) (no_own rfl) (fun _ _ _ _ _ _ us hl => match us, hl with | [_, _], _ => rfl) fun f cdv A outer s H E Hf hr => ?_
  have tk := takes_of (X := cxD P w K mg base ["product", "size", "found", "name", "power"] "shown_pair" (topS 3) f cdv A outer s H E) rfl rfl rfl rfl
  have hp := passes_of (X := cxD P w K mg base ["product", "size", "found", "name", "power"] "shown_pair" (topS 3) f cdv A outer s H E) rfl
  exact (pssx_cons (PSx.less (Γ2 := []) (psx_set (i := 2) nd rfl (.inl rfl) (px_join px_str (PX.rd (px_lc (own := [("name", 3), ("power", 4)]) (Γ2 := []) rfl nd (pix_seq (px_fr' (pv 0) rfl)) (le_of rfl) (by decide) (blkOk_by (N := ["product", "size", "found", "name", "power"]) (sc := defScope (topS 3)) (own := [("name", 3), ("power", 4)]) (by decide +kernel)) (fun _ _ _ _ _ _ => (pgx_tup rfl (pgsx_cons (pgx_name (i := 3) nd rfl (.inl rfl)) (pgsx_cons (pgx_name (i := 4) nd rfl (.inl rfl)) pgsx_nil)))) (by decide) (fun _ _ _ _ _ _ => ptsx_nil) (fun _ _ _ _ _ _ => (px_callF C_shown_name (hr.mono (by decide)) rfl takes_no (pax_cons (px_fr' (pv 3) rfl) (pax_cons (px_fr' (pv 4) rfl) pax_nil)))))))) (le_of rfl))
 (pssx_cons (psx_if (Γ2 := []) (ptx_cmp (od_eq hr) (px_rd (pv 2)) px_str (nomark _))
 (pssx_one (psx_ret (px_callT ca_str rfl T.z_str bb_str (pbx_cons (px_rd (pv 1)) pbx_nil))))
 (PSsx.less (Γ2 := []) pssx_nil (le_of rfl)))
 (pssx_cons (psx_if (Γ2 := []) (ptx_cmp (od_eq hr) (px_rd (pv 1)) px_int (nomark _))
 (pssx_one (psx_ret (px_fr' (pv 2) rfl)))
 (PSsx.less (Γ2 := []) pssx_nil (le_of rfl)))
 (pssx_one (psx_ret (px_fstr (pjx_cons (px_fmt (px_rd (pv 1))) (pjx_cons px_str (pjx_cons (px_fmt (px_rd (pv 2))) pjx_nil)))))))))
theorem w_shown_form (T : Tx K mg w) : FnA P w K mg base 3 "shown_form" ["one"] false m_shown_form := by
  have C_shown_pair := w_shown_pair (P := P) (w := w) (base := base) T
  have nd : (["one", "found", "product", "number", "part"] : List Str).Nodup := by decide +kernel
  have S : FnScope ["one", "found", "product", "number", "part"] ["one"] (defScope (topS 4)) := ⟨rfl, rfl, rfl, nd, rfl, by decide +kernel, by decide +kernel⟩
  refine fnA_mk (Γ0 := []) (Γl := []) (Γ' := []) T.f_shown_form S (by decide) (no_own rfl) (fun _ _ _ _ _ _ us hl => match us, hl with | [_], _ => rfl) fun f cdv A outer s H E Hf hr => ?_
  have tk := takes_of (X := cxD P w K mg base ["one", "found", "product", "number", "part"] "shown_form" (topS 4) f cdv A outer s H E) rfl rfl rfl rfl
  have hp := passes_of (X := cxD P w K mg base ["one", "found", "product", "number", "part"] "shown_form" (topS 4) f cdv A outer s H E) rfl
  exact (pssx_cons (PSx.less (Γ2 := []) (psx_set (i := 1) nd rfl (.inl rfl) px_str) (le_of rfl))
 (pssx_cons (PSx.pre (psx_for (Γ := []) (Γ1 := []) hp rfl (pix_seq (px_fr' (pv 0) rfl)) (fun F1 => (pgx_tup rfl (pgsx_cons (pgx_name (i := 2) nd rfl (.inl rfl)) (pgsx_cons (pgx_name (i := 3) nd rfl (.inl rfl)) pgsx_nil)))) (gT_nx (nxs_cons gN_nx (nxs_cons gN_nx nxs_nil))) (fun F1 => (PSsx.less (Γ2 := []) (pssx_cons (PSx.less (Γ2 := []) (psx_set (i := 4) nd rfl (.inl rfl) (px_callF C_shown_pair (hr.mono (by decide)) rfl tk (pax_cons (px_fr' (pv 2) rfl) (pax_cons (px_callB ca_abs rfl T.z_abs bb_abs (pbx_cons (px_rd (pv 3)) pbx_nil)) pax_nil)))) (le_of rfl))
 (pssx_one (psx_if (Γ2 := []) (PWx.pt (pwx_and (ptx_cmp (od_eq hr) (px_rd (pv 1)) px_str (nomark _)) (pwx_and1 (ptx_cmp (od_lt hr) (px_rd (pv 3)) px_int (nomark _)))))
 (PSsx.less (Γ2 := []) (pssx_one (PSx.less (Γ2 := []) (psx_set (i := 1) nd rfl (.inl rfl) (px_bin (od_add hr) px_str (px_rd (pv 4)))) (le_of rfl))) (le_of rfl))
 (PSsx.less (Γ2 := []) (pssx_one (psx_if (Γ2 := []) (ptx_cmp (od_eq hr) (px_rd (pv 1)) px_str (nomark _))
 (PSsx.less (Γ2 := []) (pssx_one (PSx.less (Γ2 := []) (psx_set (i := 1) nd rfl (.inl rfl) (px_fr' (pv 4) rfl)) (le_of rfl))) (le_of rfl))
 (PSsx.less (Γ2 := []) (pssx_one (psx_if (Γ2 := []) (ptx_cmp (od_lt hr) (px_rd (pv 3)) px_int (nomark _))
 (PSsx.less (Γ2 := []) (pssx_one (PSx.less (Γ2 := []) (psx_set (i := 1) nd rfl (.inl rfl) (px_bin (od_add hr) (px_bin (od_add hr) (px_rd (pv 1)) px_str) (px_rd (pv 4)))) (le_of rfl))) (le_of rfl))
 (PSsx.less (Γ2 := []) (pssx_one (PSx.less (Γ2 := []) (psx_set (i := 1) nd rfl (.inl rfl) (px_bin (od_add hr) (px_bin (od_add hr) (px_rd (pv 1)) px_str) (px_rd (pv 4)))) (le_of rfl))) (le_of rfl)))) (le_of rfl)))) (le_of rfl))))) (le_of rfl)))) (le_of rfl))
 (pssx_one (psx_ret (px_fr' (pv 1) rfl)))))
theorem q_shown (T : Tx K mg w) (n : Nat) (C_shown : FnA P w K mg base (4 + n) "shown" ["sentence"] false (r_shown n)) (C_held_by : FnA P w K mg base (4 + n) "held_by" ["word", "part"] false (r_held_by n)) : FnA P w K mg base (4 + n + 1) "shown" ["sentence"] false (r_shown (n + 1)) := by
  have C_shown_form := w_shown_form (P := P) (w := w) (base := base) T
  have nd : (["sentence", "word", "part"] : List Str).Nodup := by decide +kernel
  have S : FnScope ["sentence", "word", "part"] ["sentence"] (defScope (topS 6)) := ⟨rfl, rfl, rfl, nd, rfl, by decide +kernel, by decide +kernel⟩
  refine fnA_mk (Γ0 := []) (Γl := []) (Γ' := []) T.f_shown S (by decide) (no_own rfl) (fun _ _ _ _ _ _ us hl => match us, hl with | [_], _ => rfl) fun f cdv A outer s H E Hf hr => ?_
  have tk := takes_of (X := cxD P w K mg base ["sentence", "word", "part"] "shown" (topS 6) f cdv A outer s H E) rfl rfl rfl rfl
  have hp := passes_of (X := cxD P w K mg base ["sentence", "word", "part"] "shown" (topS 6) f cdv A outer s H E) rfl
  exact (pssx_cons (PSx.less (Γ2 := []) (psx_set (i := 1) nd rfl (.inl rfl) (px_ix hr (px_rd (pv 0)) px_int (fun _ _ => rfl))) (le_of rfl))
 (pssx_cons (psx_if (Γ2 := []) (ptx_inC T.d_SIGNS rfl (px_rd (pv 1)))
 (pssx_one (psx_ret (px_bin (od_add hr) (px_bin (od_add hr) (px_bin (od_add hr) (PX.rd (px_callF C_shown_form (hr.mono (by omega)) rfl tk (pax_cons (px_ix hr (px_rd (pv 0)) px_int (fun _ _ => rfl)) pax_nil))) px_str) (px_ixC T.d_SIGNS rfl (px_rd (pv 1)) (fun _ _ => rfl))) px_str)))
 (PSsx.less (Γ2 := []) pssx_nil (le_of rfl)))
 (pssx_cons (psx_if (Γ2 := []) (ptx_cmp (od_eq hr) (px_rd (pv 1)) px_str (nomark _))
 (pssx_one (psx_ret (px_join px_str (PX.rd (px_lc (own := [("part", 2)]) (Γ2 := []) rfl nd (pix_seq (px_ix hr (px_rd (pv 0)) px_int (fun _ _ => rfl))) (le_of rfl) (by decide) (blkOk_by (N := ["sentence", "word", "part"]) (sc := defScope (topS 6)) (own := [("part", 2)]) (by decide +kernel)) (fun _ _ _ _ _ _ => (pgx_name (i := 2) nd rfl (.inl rfl))) (by decide) (fun _ _ _ _ _ _ => ptsx_nil) (fun _ _ _ _ _ _ => (px_callF C_held_by (hr.mono (by omega)) rfl takes_no (pax_cons px_str (pax_cons (px_fr' (pv 2) rfl) pax_nil)))))))))
 (PSsx.less (Γ2 := []) pssx_nil (le_of rfl)))
 (pssx_cons (psx_if (Γ2 := []) (ptx_cmp (od_eq hr) (px_rd (pv 1)) px_str (nomark _))
 (pssx_one (psx_ret (px_join px_str (PX.rd (px_lc (own := [("part", 2)]) (Γ2 := []) rfl nd (pix_seq (px_ix hr (px_rd (pv 0)) px_int (fun _ _ => rfl))) (le_of rfl) (by decide) (blkOk_by (N := ["sentence", "word", "part"]) (sc := defScope (topS 6)) (own := [("part", 2)]) (by decide +kernel)) (fun _ _ _ _ _ _ => (pgx_name (i := 2) nd rfl (.inl rfl))) (by decide) (fun _ _ _ _ _ _ => ptsx_nil) (fun _ _ _ _ _ _ => (px_callF C_held_by (hr.mono (by omega)) rfl takes_no (pax_cons px_str (pax_cons (px_fr' (pv 2) rfl) pax_nil)))))))))
 (PSsx.less (Γ2 := []) pssx_nil (le_of rfl)))
 (pssx_cons (psx_if (Γ2 := []) (ptx_cmp (od_eq hr) (px_rd (pv 1)) px_str (nomark _))
 (pssx_one (psx_ret (px_bin (od_add hr) px_str (PX.rd (px_callF C_held_by (hr.mono (by omega)) rfl tk (pax_cons px_str (pax_cons (px_ix hr (px_rd (pv 0)) px_int (fun _ _ => rfl)) pax_nil)))))))
 (PSsx.less (Γ2 := []) pssx_nil (le_of rfl)))
 (pssx_cons (psx_if (Γ2 := []) (PWx.pt (pwx_or (ptx_cmp (od_eq hr) (px_rd (pv 1)) px_str (nomark _)) (pwx_or1 (ptx_cmp (od_eq hr) (px_rd (pv 1)) px_str (nomark _)))))
 (pssx_one (psx_ret (px_bin (od_add hr) (px_bin (od_add hr) (px_bin (od_add hr) (px_bin (od_add hr) (px_rd (pv 1)) px_str) (PX.rd (px_ix hr (px_rd (pv 0)) px_int (fun _ _ => rfl)))) px_str) (PX.rd (px_callF C_shown (hr.mono (by omega)) rfl tk (pax_cons (px_ix hr (px_rd (pv 0)) px_int (fun _ _ => rfl)) pax_nil))))))
 (PSsx.less (Γ2 := []) pssx_nil (le_of rfl)))
 (pssx_one (psx_ret (px_fr' (pv 1) rfl)))))))))
theorem q_held_by (T : Tx K mg w) (n : Nat) (C_shown : FnA P w K mg base (4 + n) "shown" ["sentence"] false (r_shown n)) (C_held_by : FnA P w K mg base (4 + n) "held_by" ["word", "part"] false (r_held_by n)) : FnA P w K mg base (4 + n + 1) "held_by" ["word", "part"] false (r_held_by (n + 1)) := by
  have nd : (["word", "part", "bracketed"] : List Str).Nodup := by decide +kernel
  have S : FnScope ["word", "part", "bracketed"] ["word", "part"] (defScope (topS 5)) := ⟨rfl, rfl, rfl, nd, rfl, by decide +kernel, by decide +kernel⟩
  refine fnA_mk (Γ0 := []) (Γl := []) (Γ' := []) T.f_held_by S (by decide) (no_own rfl) (fun _ _ _ _ _ _ us hl => match us, hl with | [_, _], _ => rfl) fun f cdv A outer s H E Hf hr => ?_
  have tk := takes_of (X := cxD P w K mg base ["word", "part", "bracketed"] "held_by" (topS 5) f cdv A outer s H E) rfl rfl rfl rfl
  have hp := passes_of (X := cxD P w K mg base ["word", "part", "bracketed"] "held_by" (topS 5) f cdv A outer s H E) rfl
  exact (pssx_cons (PSx.less (Γ2 := []) (psx_set (i := 2) nd rfl (.inl rfl) (px_cmp (od_in hr) (PX.rd (px_ix hr (px_rd (pv 1)) px_int (fun _ _ => rfl))) (px_tup (pax_cons px_str (pax_cons px_str (pax_cons px_str pax_nil)))) (by rfl))) (le_of rfl))
 (pssx_cons (psx_if (Γ2 := []) (PWx.pt (pwx_and (ptx_cmp (od_ne hr) (px_rd (pv 0)) px_str (nomark _)) (pwx_and1 (ptx_cmp (od_eq hr) (PX.rd (px_ix hr (px_rd (pv 1)) px_int (fun _ _ => rfl))) px_str (nomark _)))))
 (PSsx.less (Γ2 := []) (pssx_one (PSx.less (Γ2 := []) (psx_set (i := 2) nd rfl (.inl rfl) px_bl) (le_of rfl))) (le_of rfl))
 (PSsx.less (Γ2 := []) pssx_nil (le_of rfl)))
 (pssx_cons (psx_if (Γ2 := []) (ptx_val (px_rd (pv 2)))
 (pssx_one (psx_ret (px_bin (od_add hr) (px_bin (od_add hr) px_str (PX.rd (px_callF C_shown (hr.mono (by omega)) rfl tk (pax_cons (px_fr' (pv 1) rfl) pax_nil)))) px_str)))
 (PSsx.less (Γ2 := []) pssx_nil (le_of rfl)))
 (pssx_one (psx_ret (px_callF C_shown (hr.mono (by omega)) rfl tk (pax_cons (px_fr' (pv 1) rfl) pax_nil)))))))
theorem qq_shown (T : Tx K mg w) : ∀ n : Nat, FnA P w K mg base (4 + n) "shown" ["sentence"] false (r_shown n) ∧ FnA P w K mg base (4 + n) "held_by" ["word", "part"] false (r_held_by n)
  | 0 => ⟨fnA_stuck T.f_shown (fun _ _ _ _ _ _ us hl => match us, hl with | [_], _ => rfl), fnA_stuck T.f_held_by (fun _ _ _ _ _ _ us hl => match us, hl with | [_, _], _ => rfl)⟩
  | n + 1 => by
    obtain ⟨C_shown, C_held_by⟩ := qq_shown T n
    exact ⟨q_shown T n C_shown C_held_by, q_held_by T n C_shown C_held_by⟩
theorem w_shown (T : Tx K mg w) : FnA P w K mg base 64 "shown" ["sentence"] false m_shown := (qq_shown T 60).1
theorem w__law_cell (T : Tx K mg w) : FnA P w K mg base 1 "_law_cell" ["_law_script", "_law_k"] false m__law_cell := by
  have nd : (["_law_script", "_law_k"] : List Str).Nodup := by decide +kernel
  have S : FnScope ["_law_script", "_law_k"] ["_law_script", "_law_k"] (defScope (topS 8)) := ⟨rfl, rfl, rfl, nd, rfl, by decide +kernel, by decide +kernel⟩
  refine fnA_mk (Γ0 := []) (Γl := []) (Γ' := []) T.f__law_cell S (by decide) (no_own rfl) (fun _ _ _ _ _ _ us hl => match us, hl with | [_, _], _ => rfl) fun f cdv A outer s H E Hf hr => ?_
  have tk := takes_of (X := cxD P w K mg base ["_law_script", "_law_k"] "_law_cell" (topS 8) f cdv A outer s H E) rfl rfl rfl rfl
  have hp := passes_of (X := cxD P w K mg base ["_law_script", "_law_k"] "_law_cell" (topS 8) f cdv A outer s H E) rfl
  exact (pssx_cons (psx_if (Γ2 := []) (ptx_cmp (od_lt hr) (px_rd (pv 1)) (px_callB ca_len rfl T.z_len bb_len (pbx_cons (px_rd (pv 0)) pbx_nil)) (nomark _))
 (pssx_one (psx_ret (px_bin od_mod (PX.rd (px_ix hr (px_rd (pv 0)) (px_rd (pv 1)) (fun _ _ => rfl))) (px_bin od_pow px_int px_int))))
 (PSsx.less (Γ2 := []) pssx_nil (le_of rfl)))
 (pssx_one (psx_ret px_int)))
theorem w__law_any_names (T : Tx K mg w) : FnA P w K mg base 1 "_law_any_names" ["_law_rest", "_law_many"] true m__law_any_names := by
  have nd : (["_law_rest", "_law_many", "_law_letters", "_law_found", "_law_k", "_law_size", "_law_word", "_law_j"] : List Str).Nodup := by decide +kernel
  have S : FnScope ["_law_rest", "_law_many", "_law_letters", "_law_found", "_law_k", "_law_size", "_law_word", "_law_j"] ["_law_rest", "_law_many"] (defScope (topS 9)) := ⟨rfl, rfl, rfl, nd, rfl, by decide +kernel, by decide +kernel⟩
  refine fnA_mk (Γ0 := [false, false, false, false, false, false, false, false]) (Γl := []) (Γ' := []) T.f__law_any_names S (by decide) (no_own rfl) (fun _ _ _ _ _ _ us hl => match us, hl with | [_, _], _ => rfl) fun f cdv A outer s H E Hf hr => ?_
  have tk := takes_of (X := cxD P w K mg base ["_law_rest", "_law_many", "_law_letters", "_law_found", "_law_k", "_law_size", "_law_word", "_law_j"] "_law_any_names" (topS 9) f cdv A outer s H E) rfl rfl rfl rfl
  have hp := passes_of (X := cxD P w K mg base ["_law_rest", "_law_many", "_law_letters", "_law_found", "_law_k", "_law_size", "_law_word", "_law_j"] "_law_any_names" (topS 9) f cdv A outer s H E) rfl
  exact (pssx_cons (PSx.less (Γ2 := [false, false, false, false, false, false, false, false]) (psx_set (i := 2) nd rfl (.inl rfl) px_str) (le_of rfl))
 (pssx_cons (PSx.less (Γ2 := [false, false, false, true, false, false, false, false]) (psx_setO (i := 3) nd rfl (.inl rfl) (px_lst pax_nil) (by decide)) (le_of rfl))
 (pssx_cons (PSx.pre (psx_for (Γ := [false, false, false, true, false, false, false, false]) (Γ1 := [false, false, false, true, false, false, false, false]) hp rfl (pix_range1 rfl T.z_range (pax_cons (px_fr' (pv 1) rfl) pax_nil)) (fun F1 => (pgx_name (i := 4) nd rfl (.inl rfl))) gN_nx (fun F1 => (PSsx.less (Γ2 := [false, false, false, true, false, false, false, false]) (pssx_cons (PSx.less (Γ2 := [false, false, false, true, false, false, false, false]) (psx_set (i := 5) nd rfl (.inl rfl) (px_bin (od_add hr) px_int (px_bin od_mod (px_rd (pv 0)) px_int))) (le_of rfl))
 (pssx_cons (PSx.less (Γ2 := [false, false, false, true, false, false, false, false]) (psx_set (i := 0) nd rfl (.inl rfl) (px_bin od_div (px_rd (pv 0)) px_int)) (le_of rfl))
 (pssx_cons (PSx.less (Γ2 := [false, false, false, true, false, false, false, false]) (psx_set (i := 6) nd rfl (.inl rfl) px_str) (le_of rfl))
 (pssx_cons (PSx.pre (psx_for (Γ := [false, false, false, true, false, false, false, false]) (Γ1 := [false, false, false, true, false, false, false, false]) hp rfl (pix_range1 rfl T.z_range (pax_cons (px_fr' (pv 5) rfl) pax_nil)) (fun F1 => (pgx_name (i := 7) nd rfl (.inl rfl))) gN_nx (fun F1 => (PSsx.less (Γ2 := [false, false, false, true, false, false, false, false]) (pssx_cons (PSx.less (Γ2 := [false, false, false, true, false, false, false, false]) (psx_set (i := 6) nd rfl (.inl rfl) (px_bin (od_add hr) (px_rd (pv 6)) (PX.rd (px_ix hr (px_rd (pv 2)) (px_bin od_mod (px_rd (pv 0)) px_int) (fun _ _ => rfl))))) (le_of rfl))
 (pssx_one (PSx.less (Γ2 := [false, false, false, true, false, false, false, false]) (psx_set (i := 0) nd rfl (.inl rfl) (px_bin od_div (px_rd (pv 0)) px_int)) (le_of rfl)))) (le_of rfl)))) (le_of rfl))
 (pssx_cons (psx_if (Γ2 := [false, false, false, true, false, false, false, false]) (ptx_cmp (od_in hr) (px_rd (pv 6)) (PX.rd (px_lst (pax_cons px_str (pax_cons px_str (pax_cons px_str (pax_cons px_str (pax_cons px_str (pax_cons px_str (pax_cons px_str pax_nil))))))))) (by rfl))
 (PSsx.less (Γ2 := [false, false, false, true, false, false, false, false]) (pssx_one (PSx.less (Γ2 := [false, false, false, true, false, false, false, false]) (psx_set (i := 6) nd rfl (.inl rfl) (px_bin (od_add hr) (px_rd (pv 6)) px_str)) (le_of rfl))) (le_of rfl))
 (PSsx.less (Γ2 := [false, false, false, true, false, false, false, false]) pssx_nil (le_of rfl)))
 (pssx_one (psx_append (pv 3) (px_fr' (pv 6) rfl) rfl))))))) (le_of rfl)))) (le_of rfl))
 (pssx_one (psx_retV (pv 3) rfl)))))
theorem w__law_names (T : Tx K mg w) : FnA P w K mg base 2 "_law_names" ["_law_cell_here"] true m__law_names_v4 := by
  have C__law_any_names := w__law_any_names (P := P) (w := w) (base := base) T
  have nd : (["_law_cell_here", "_law_found", "_law_first"] : List Str).Nodup := by decide +kernel
  have S : FnScope ["_law_cell_here", "_law_found", "_law_first"] ["_law_cell_here"] (defScope (topS 10)) := ⟨rfl, rfl, rfl, nd, rfl, by decide +kernel, by decide +kernel⟩
  refine fnA_mk (Γ0 := [false, false, false]) (Γl := []) (Γ' := []) T.f__law_names S (by decide) (no_own rfl) (fun _ _ _ _ _ _ us hl => match us, hl with | [_], _ => rfl) fun f cdv A outer s H E Hf hr => ?_
  have tk := takes_of (X := cxD P w K mg base ["_law_cell_here", "_law_found", "_law_first"] "_law_names" (topS 10) f cdv A outer s H E) rfl rfl rfl rfl
  have hp := passes_of (X := cxD P w K mg base ["_law_cell_here", "_law_found", "_law_first"] "_law_names" (topS 10) f cdv A outer s H E) rfl
  exact (pssx_cons (PSx.less (Γ2 := [false, true, false]) (psx_setO (i := 1) nd rfl (.inl rfl) (px_callO C__law_any_names (hr.mono (by decide)) rfl tk (pax_cons (px_bin od_div (px_rd (pv 0)) px_int) (pax_cons px_int pax_nil))) (by decide)) (le_of rfl))
 (pssx_cons (psx_if (Γ2 := [false, true, false]) (ptx_cmp (od_eq hr) (px_bin od_mod (px_rd (pv 0)) px_int) px_int (nomark _))
 (pssx_one (psx_retV (pv 1) rfl))
 (PSsx.less (Γ2 := [false, true, false]) pssx_nil (le_of rfl)))
 (pssx_cons (PSx.less (Γ2 := [false, true, false]) (psx_set (i := 2) nd rfl (.inl rfl) (px_ix hr (px_rd (pv 1)) px_int (fun _ _ => rfl))) (le_of rfl))
 (pssx_cons (psx_if (Γ2 := [false, true, false]) (ptx_cmp (od_eq hr) (px_bin od_mod (px_bin od_div (px_rd (pv 0)) px_int) px_int) px_int (nomark _))
 (PSsx.less (Γ2 := [false, true, false]) (pssx_cons (PSx.less (Γ2 := [false, true, false]) (psx_set (i := 2) nd rfl (.inl rfl) (px_bin (od_add hr) (PX.rd (px_ix hr (PX.rd (px_lst (pax_cons px_str (pax_cons px_str (pax_cons px_str (pax_cons px_str (pax_cons px_str (pax_cons px_str (pax_cons px_str pax_nil))))))))) (px_bin od_mod (px_bin od_div (px_rd (pv 0)) px_int) px_int) (fun _ _ => rfl))) (px_slice (PX.rd (px_ix hr (px_rd (pv 1)) px_int (fun _ _ => rfl))) pox_none (pox_some px_int)))) (le_of rfl))
 (pssx_one (PSx.less (Γ2 := [false, true, false]) (psx_set (i := 2) nd rfl (.inl rfl) (px_bin (od_add hr) (px_rd (pv 2)) (px_bin (od_mulS hr) px_str (px_callT ca_int rfl T.z_int bb_int (pbx_cons (px_cmp (od_eq hr) (px_rd (pv 2)) px_str (nomark _)) pbx_nil))))) (le_of rfl)))) (le_of rfl))
 (PSsx.less (Γ2 := [false, true, false]) pssx_nil (le_of rfl)))
 (pssx_one (psx_retO (px_lst (pax_cons (px_fr' (pv 2) rfl) (pax_cons (px_slice (px_bin (od_add hr) (px_rd (pv 2)) px_str) pox_none (pox_some px_int)) pax_nil)))))))))
theorem w__law_leaf (T : Tx K mg w) : FnA P w K mg base 1 "_law_leaf" ["_law_cell_here", "_law_names_here"] false m__law_leaf_v3 := by
  have nd : (["_law_cell_here", "_law_names_here", "_law_product", "_law_size", "_law_number", "_law_pairs"] : List Str).Nodup := by decide +kernel
  have S : FnScope ["_law_cell_here", "_law_names_here", "_law_product", "_law_size", "_law_number", "_law_pairs"] ["_law_cell_here", "_law_names_here"] (defScope (topS 11)) := ⟨rfl, rfl, rfl, nd, rfl, by decide +kernel, by decide +kernel⟩
  refine fnA_mk (Γ0 := []) (Γl := []) (Γ' := []) T.f__law_leaf S (by decide) (no_own rfl) (fun _ _ _ _ _ _ us hl => match us, hl with | [_, _], _ => rfl) fun f cdv A outer s H E Hf hr => ?_
  have tk := takes_of (X := cxD P w K mg base ["_law_cell_here", "_law_names_here", "_law_product", "_law_size", "_law_number", "_law_pairs"] "_law_leaf" (topS 11) f cdv A outer s H E) rfl rfl rfl rfl
  have hp := passes_of (X := cxD P w K mg base ["_law_cell_here", "_law_names_here", "_law_product", "_law_size", "_law_number", "_law_pairs"] "_law_leaf" (topS 11) f cdv A outer s H E) rfl
  exact (pssx_cons (PSx.less (Γ2 := []) (psx_set (i := 2) nd rfl (.inl rfl) (px_tup (pax_cons (px_tup (pax_cons (px_ix hr (px_rd (pv 1)) (px_bin od_mod (px_rd (pv 0)) px_int) (fun _ _ => rfl)) (pax_cons px_int pax_nil))) pax_nil))) (le_of rfl))
 (pssx_cons (PSx.less (Γ2 := []) (psx_set (i := 3) nd rfl (.inl rfl) (px_ix hr (PX.rd (px_lst (pax_cons (px_bin od_mod (px_bin od_div (px_rd (pv 0)) px_int) px_int) (pax_cons (px_bin od_mod (px_bin od_div (px_rd (pv 0)) px_int) (px_bin od_pow px_int px_int)) pax_nil)))) (px_bin od_mod (px_bin od_div (px_rd (pv 0)) px_int) px_int) (fun _ _ => rfl))) (le_of rfl))
 (pssx_cons (PSx.less (Γ2 := []) (psx_set (i := 4) nd rfl (.inl rfl) (px_bin (od_mul hr) (px_rd (pv 3)) (px_bin od_sub px_int (px_bin (od_mul hr) px_int (px_bin od_mod (px_bin od_div (px_rd (pv 0)) px_int) px_int))))) (le_of rfl))
 (pssx_cons (PSx.less (Γ2 := []) (psx_set (i := 5) nd rfl (.inl rfl) (PX.fr (px_lst (pax_cons (px_tup (pax_cons (px_fr' (pv 2) rfl) (pax_cons (px_bin od_sub px_int (px_bin (od_mul hr) px_int (px_bin od_mod (px_bin od_div (px_rd (pv 0)) px_int) px_int))) pax_nil))) pax_nil)))) (le_of rfl))
 (pssx_cons (psx_if (Γ2 := []) (ptx_cmp (od_ne hr) (px_rd (pv 4)) px_int (nomark _))
 (PSsx.less (Γ2 := []) (pssx_one (PSx.less (Γ2 := []) (psx_set (i := 5) nd rfl (.inl rfl) (px_bin (od_add hr) (PX.rd (px_lst (pax_cons (px_tup (pax_cons (px_tup pax_nil) (pax_cons (px_fr' (pv 4) rfl) pax_nil))) pax_nil))) (px_rd (pv 5)))) (le_of rfl))) (le_of rfl))
 (PSsx.less (Γ2 := []) pssx_nil (le_of rfl)))
 (pssx_one (psx_ret (px_tup (pax_cons (px_ix hr (PX.rd (px_lst (pax_cons px_str (pax_cons px_str (pax_cons px_str (pax_cons px_str pax_nil)))))) (px_bin od_mod (px_bin od_div (px_rd (pv 0)) px_int) px_int) (fun _ _ => rfl)) (pax_cons (px_callT ca_tuple rfl T.z_tuple bb_tuple (pbx_cons (px_rd (pv 5)) pbx_nil)) pax_nil))))))))))
theorem w__law_folded (T : Tx K mg w) : FnA P w K mg base 1 "_law_folded" ["_law_word", "_law_parts"] false m__law_folded_v3 := by
  have nd : (["_law_word", "_law_parts", "_law_kept", "_law_part"] : List Str).Nodup := by decide +kernel
  have S : FnScope ["_law_word", "_law_parts", "_law_kept", "_law_part"] ["_law_word", "_law_parts"] (defScope (topS 12)) := ⟨rfl, rfl, rfl, nd, rfl, by decide +kernel, by decide +kernel⟩
  refine fnA_mk (Γ0 := [false, false, false, false]) (Γl := []) (Γ' := []) T.f__law_folded S (by decide) (no_own rfl) (fun _ _ _ _ _ _ us hl => match us, hl with | [_, _], _ => rfl) fun f cdv A outer s H E Hf hr => ?_
  have tk := takes_of (X := cxD P w K mg base ["_law_word", "_law_parts", "_law_kept", "_law_part"] "_law_folded" (topS 12) f cdv A outer s H E) rfl rfl rfl rfl
  have hp := passes_of (X := cxD P w K mg base ["_law_word", "_law_parts", "_law_kept", "_law_part"] "_law_folded" (topS 12) f cdv A outer s H E) rfl
  exact (pssx_cons (PSx.less (Γ2 := [false, false, true, false]) (psx_setO (i := 2) nd rfl (.inl rfl) (px_lst pax_nil) (by decide)) (le_of rfl))
 (pssx_cons (PSx.pre (psx_for (Γ := [false, false, true, false]) (Γ1 := [false, false, true, false]) hp rfl (pix_seq (px_fr' (pv 1) rfl)) (fun F1 => (pgx_name (i := 3) nd rfl (.inl rfl))) gN_nx (fun F1 => (PSsx.less (Γ2 := [false, false, true, false]) (pssx_one (psx_if (Γ2 := [false, false, true, false]) (ptx_cmp (od_notinDp hr) (px_rd (pv 3)) (px_rd (pv 2)) (by rfl))
 (PSsx.less (Γ2 := [false, false, true, false]) (pssx_one (psx_append (pv 2) (px_fr' (pv 3) rfl) rfl)) (le_of rfl))
 (PSsx.less (Γ2 := [false, false, true, false]) pssx_nil (le_of rfl)))) (le_of rfl)))) (le_of rfl))
 (pssx_cons (psx_if (Γ2 := [false, false, true, false]) (ptx_cmp (od_eq hr) (px_callB ca_len rfl T.z_len bb_len (pbx_cons (px_rd (pv 2)) pbx_nil)) px_int (nomark _))
 (pssx_one (psx_ret (px_ix hr (px_rd (pv 2)) px_int (fun _ _ => rfl))))
 (PSsx.less (Γ2 := [false, false, true, false]) pssx_nil (le_of rfl)))
 (pssx_one (psx_ret (px_tup (pax_cons (px_fr' (pv 0) rfl) (pax_cons (px_callT ca_tuple rfl T.z_tuple bb_tuple (pbx_cons (px_rd (pv 2)) pbx_nil)) pax_nil))))))))
theorem w__law_step (T : Tx K mg w) : FnA P w K mg base 2 "_law_step" ["_law_built_here", "_law_cell_here", "_law_names_here"] true m__law_step := by
  have C__law_leaf := w__law_leaf (P := P) (w := w) (base := base) T
  have C__law_folded := w__law_folded (P := P) (w := w) (base := base) T
  have nd : (["_law_built_here", "_law_cell_here", "_law_names_here", "_law_way", "_law_rest", "_law_many", "_law_taken", "_law_deep", "_law_sentence", "_law_one", "_law_depth"] : List Str).Nodup := by decide +kernel
  have S : FnScope ["_law_built_here", "_law_cell_here", "_law_names_here", "_law_way", "_law_rest", "_law_many", "_law_taken", "_law_deep", "_law_sentence", "_law_one", "_law_depth"] ["_law_built_here", "_law_cell_here", "_law_names_here"] (defScope (topS 13)) := ⟨rfl, rfl, rfl, nd, rfl, by decide +kernel, by decide +kernel⟩
  refine fnA_mk (Γ0 := []) (Γl := []) (Γ' := []) T.f__law_step S (by decide) (no_own rfl) (fun _ _ _ _ _ _ us hl => match us, hl with | [_, _, _], _ => rfl) fun f cdv A outer s H E Hf hr => ?_
  have tk := takes_of (X := cxD P w K mg base ["_law_built_here", "_law_cell_here", "_law_names_here", "_law_way", "_law_rest", "_law_many", "_law_taken", "_law_deep", "_law_sentence", "_law_one", "_law_depth"] "_law_step" (topS 13) f cdv A outer s H E) rfl rfl rfl rfl
  have hp := passes_of (X := cxD P w K mg base ["_law_built_here", "_law_cell_here", "_law_names_here", "_law_way", "_law_rest", "_law_many", "_law_taken", "_law_deep", "_law_sentence", "_law_one", "_law_depth"] "_law_step" (topS 13) f cdv A outer s H E) rfl
  exact (pssx_cons (PSx.less (Γ2 := []) (psx_set (i := 3) nd rfl (.inl rfl) (px_bin od_mod (px_rd (pv 1)) px_int)) (le_of rfl))
 (pssx_cons (PSx.less (Γ2 := []) (psx_set (i := 4) nd rfl (.inl rfl) (px_bin od_div (px_rd (pv 1)) px_int)) (le_of rfl))
 (pssx_cons (PSx.less (Γ2 := []) (psx_set (i := 5) nd rfl (.inl rfl) px_int) (le_of rfl))
 (pssx_cons (psx_if (Γ2 := []) (ptx_cmp (od_gt hr) (px_rd (pv 3)) px_int (nomark _))
 (PSsx.less (Γ2 := []) (pssx_one (PSx.less (Γ2 := []) (psx_set (i := 5) nd rfl (.inl rfl) (px_bin (od_add hr) px_int (px_bin od_mod (px_bin od_div (px_rd (pv 4)) px_int) px_int))) (le_of rfl))) (le_of rfl))
 (PSsx.less (Γ2 := []) pssx_nil (le_of rfl)))
 (pssx_cons (PSx.less (Γ2 := []) (psx_set (i := 6) nd rfl (.inl rfl) (px_slice (px_rd (pv 0)) (pox_some (px_callB (ca_max2 rfl) rfl T.z_max bb_max (pbx_cons px_int (pbx_cons (px_bin od_sub (px_callB ca_len rfl T.z_len bb_len (pbx_cons (px_rd (pv 0)) pbx_nil)) (px_rd (pv 5))) pbx_nil)))) pox_none)) (le_of rfl))
 (pssx_cons (PSx.less (Γ2 := []) (psx_set (i := 7) nd rfl (.inl rfl) (px_callB (ca_best (mx := true) rfl hr) rfl T.z_max bb_max (pbx_cons (PX.rd (px_lc (own := [("_law_one", 9), ("_law_depth", 10)]) (Γ2 := []) rfl nd (pix_seq (px_fr' (pv 6) rfl)) (le_of rfl) (by decide) (blkOk_by (N := ["_law_built_here", "_law_cell_here", "_law_names_here", "_law_way", "_law_rest", "_law_many", "_law_taken", "_law_deep", "_law_sentence", "_law_one", "_law_depth"]) (sc := defScope (topS 13)) (own := [("_law_one", 9), ("_law_depth", 10)]) (by decide +kernel)) (fun _ _ _ _ _ _ => (pgx_tup rfl (pgsx_cons (pgx_name (i := 9) nd rfl (.inl rfl)) (pgsx_cons (pgx_name (i := 10) nd rfl (.inl rfl)) pgsx_nil)))) (by decide) (fun _ _ _ _ _ _ => ptsx_nil) (fun _ _ _ _ _ _ => (px_fr' (pv 10) rfl)))) pbx_nil))) (le_of rfl))
 (pssx_cons (psx_if (Γ2 := []) (PWx.pt (pwx_or (ptx_cmp (od_lt hr) (px_rd (pv 3)) px_int (nomark _)) (pwx_or1 (ptx_cmp (od_gt hr) (px_rd (pv 7)) px_int (nomark _)))))
 (pssx_one (psx_retO (px_bin (od_add hr) (px_rd (pv 0)) (PX.rd (px_lst (pax_cons (px_tup (pax_cons (px_callF C__law_leaf (hr.mono (by decide)) rfl tk (pax_cons (px_fr' (pv 4) rfl) (pax_cons (px_fr' (pv 2) rfl) pax_nil))) (pax_cons px_int pax_nil))) pax_nil))))))
 (PSsx.less (Γ2 := []) pssx_nil (le_of rfl)))
 (pssx_cons (PSx.less (Γ2 := []) (psx_set (i := 8) nd rfl (.inl rfl) (px_ix hr (PX.rd (px_ix hr (px_rd (pv 6)) (px_un ud_neg px_int) (fun _ _ => rfl))) px_int (fun _ _ => rfl))) (le_of rfl))
 (pssx_cons (psx_if (Γ2 := []) (ptx_cmp (od_lt hr) (px_rd (pv 3)) px_int (nomark _))
 (PSsx.less (Γ2 := []) (pssx_one (PSx.less (Γ2 := []) (psx_set (i := 8) nd rfl (.inl rfl) (px_tup (pax_cons px_str (pax_cons (px_fr' (pv 8) rfl) pax_nil)))) (le_of rfl))) (le_of rfl))
 (PSsx.less (Γ2 := []) (pssx_one (psx_if (Γ2 := []) (ptx_cmp (od_lt hr) (px_rd (pv 3)) px_int (nomark _))
 (PSsx.less (Γ2 := []) (pssx_one (PSx.less (Γ2 := []) (psx_set (i := 8) nd rfl (.inl rfl) (px_tup (pax_cons (px_ix hr (PX.rd (px_lst (pax_cons px_str (pax_cons px_str pax_nil)))) (px_bin od_sub (px_rd (pv 3)) px_int) (fun _ _ => rfl)) (pax_cons (px_ix hr (px_rd (pv 2)) (px_bin od_mod (px_rd (pv 4)) px_int) (fun _ _ => rfl)) (pax_cons (px_fr' (pv 8) rfl) pax_nil))))) (le_of rfl))) (le_of rfl))
 (PSsx.less (Γ2 := []) (pssx_one (PSx.less (Γ2 := []) (psx_set (i := 8) nd rfl (.inl rfl) (px_callF C__law_folded (hr.mono (by decide)) rfl tk (pax_cons (px_ix hr (PX.rd (px_lst (pax_cons px_str (pax_cons px_str pax_nil)))) (px_bin od_mod (px_rd (pv 4)) px_int) (fun _ _ => rfl)) (pax_cons (PX.fr (px_lc (own := [("_law_one", 9), ("_law_depth", 10)]) (Γ2 := []) rfl nd (pix_seq (px_fr' (pv 6) rfl)) (le_of rfl) (by decide) (blkOk_by (N := ["_law_built_here", "_law_cell_here", "_law_names_here", "_law_way", "_law_rest", "_law_many", "_law_taken", "_law_deep", "_law_sentence", "_law_one", "_law_depth"]) (sc := defScope (topS 13)) (own := [("_law_one", 9), ("_law_depth", 10)]) (by decide +kernel)) (fun _ _ _ _ _ _ => (pgx_tup rfl (pgsx_cons (pgx_name (i := 9) nd rfl (.inl rfl)) (pgsx_cons (pgx_name (i := 10) nd rfl (.inl rfl)) pgsx_nil)))) (by decide) (fun _ _ _ _ _ _ => ptsx_nil) (fun _ _ _ _ _ _ => (px_fr' (pv 9) rfl)))) pax_nil)))) (le_of rfl))) (le_of rfl)))) (le_of rfl)))
 (pssx_one (psx_retO (px_bin (od_add hr) (px_slice (px_rd (pv 0)) pox_none (pox_some (px_bin od_sub (px_callB ca_len rfl T.z_len bb_len (pbx_cons (px_rd (pv 0)) pbx_nil)) (px_callB ca_len rfl T.z_len bb_len (pbx_cons (px_rd (pv 6)) pbx_nil))))) (PX.rd (px_lst (pax_cons (px_tup (pax_cons (px_fr' (pv 8) rfl) (pax_cons (px_bin (od_add hr) (px_rd (pv 7)) px_int) pax_nil))) pax_nil)))))))))))))))
theorem w__law_built (T : Tx K mg w) : FnA P w K mg base 3 "_law_built" ["_law_script", "_law_most"] false m__law_built := by
  have C__law_cell := w__law_cell (P := P) (w := w) (base := base) T
  have C__law_names := w__law_names (P := P) (w := w) (base := base) T
  have C__law_leaf := w__law_leaf (P := P) (w := w) (base := base) T
  have C__law_step := w__law_step (P := P) (w := w) (base := base) T
  have C__law_folded := w__law_folded (P := P) (w := w) (base := base) T
  have nd : (["_law_script", "_law_most", "_law_names_here", "_law_built_here", "_law_cell_here", "_law_word", "_law_one", "_law_depth"] : List Str).Nodup := by decide +kernel
  have S : FnScope ["_law_script", "_law_most", "_law_names_here", "_law_built_here", "_law_cell_here", "_law_word", "_law_one", "_law_depth"] ["_law_script", "_law_most"] (defScope (topS 14)) := ⟨rfl, rfl, rfl, nd, rfl, by decide +kernel, by decide +kernel⟩
  refine fnA_mk (Γ0 := []) (Γl := []) (Γ' := []) T.f__law_built S (by decide) (no_own rfl) (fun _ _ _ _ _ _ us hl => match us, hl with | [_, _], _ => rfl) fun f cdv A outer s H E Hf hr => ?_
  have tk := takes_of (X := cxD P w K mg base ["_law_script", "_law_most", "_law_names_here", "_law_built_here", "_law_cell_here", "_law_word", "_law_one", "_law_depth"] "_law_built" (topS 14) f cdv A outer s H E) rfl rfl rfl rfl
  have hp := passes_of (X := cxD P w K mg base ["_law_script", "_law_most", "_law_names_here", "_law_built_here", "_law_cell_here", "_law_word", "_law_one", "_law_depth"] "_law_built" (topS 14) f cdv A outer s H E) rfl
  exact (pssx_cons (PSx.less (Γ2 := []) (psx_set (i := 2) nd rfl (.inl rfl) (PX.fr (px_callO C__law_names (hr.mono (by decide)) rfl tk (pax_cons (px_callF C__law_cell (hr.mono (by decide)) rfl tk (pax_cons (px_fr' (pv 0) rfl) (pax_cons px_int pax_nil))) pax_nil)))) (le_of rfl))
 (pssx_cons (PSx.less (Γ2 := []) (psx_set (i := 3) nd rfl (.inl rfl) (PX.fr (px_lst (pax_cons (px_tup (pax_cons (px_callF C__law_leaf (hr.mono (by decide)) rfl tk (pax_cons (px_callF C__law_cell (hr.mono (by decide)) rfl tk (pax_cons (px_fr' (pv 0) rfl) (pax_cons px_int pax_nil))) (pax_cons (px_fr' (pv 2) rfl) pax_nil))) (pax_cons px_int pax_nil))) pax_nil)))) (le_of rfl))
 (pssx_cons (PSx.pre (psx_for (Γ := []) (Γ1 := []) hp rfl (pix_seq (px_slice (px_rd (pv 0)) (pox_some px_int) (pox_some (px_rd (pv 1))))) (fun F1 => (pgx_name (i := 4) nd rfl (.inl rfl))) gN_nx (fun F1 => (PSsx.less (Γ2 := []) (pssx_one (PSx.less (Γ2 := []) (psx_set (i := 3) nd rfl (.inl rfl) (PX.fr (px_callO C__law_step (hr.mono (by decide)) rfl tk (pax_cons (px_fr' (pv 3) rfl) (pax_cons (px_bin od_mod (px_rd (pv 4)) (px_bin od_pow px_int px_int)) (pax_cons (px_fr' (pv 2) rfl) pax_nil)))))) (le_of rfl))) (le_of rfl)))) (le_of rfl))
 (pssx_cons (PSx.less (Γ2 := []) (psx_set (i := 5) nd rfl (.inl rfl) (px_ix hr (PX.rd (px_lst (pax_cons px_str (pax_cons px_str pax_nil)))) (px_bin od_mod (px_bin od_div (PX.rd (px_callF C__law_cell (hr.mono (by decide)) rfl tk (pax_cons (px_fr' (pv 0) rfl) (pax_cons px_int pax_nil)))) px_int) px_int) (fun _ _ => rfl))) (le_of rfl))
 (pssx_one (psx_ret (px_callF C__law_folded (hr.mono (by decide)) rfl tk (pax_cons (px_fr' (pv 5) rfl) (pax_cons (PX.fr (px_lc (own := [("_law_one", 6), ("_law_depth", 7)]) (Γ2 := []) rfl nd (pix_seq (px_fr' (pv 3) rfl)) (le_of rfl) (by decide) (blkOk_by (N := ["_law_script", "_law_most", "_law_names_here", "_law_built_here", "_law_cell_here", "_law_word", "_law_one", "_law_depth"]) (sc := defScope (topS 14)) (own := [("_law_one", 6), ("_law_depth", 7)]) (by decide +kernel)) (fun _ _ _ _ _ _ => (pgx_tup rfl (pgsx_cons (pgx_name (i := 6) nd rfl (.inl rfl)) (pgsx_cons (pgx_name (i := 7) nd rfl (.inl rfl)) pgsx_nil)))) (by decide) (fun _ _ _ _ _ _ => ptsx_nil) (fun _ _ _ _ _ _ => (px_fr' (pv 6) rfl)))) pax_nil)))))))))
theorem w__law_compare (T : Tx K mg w) : FnA P w K mg base 1 "_law_compare" ["_law_sentence"] false m__law_compare_v4 := by
  have nd : (["_law_sentence", "_law_text_here", "_law_product", "_law_number"] : List Str).Nodup := by decide +kernel
  have S : FnScope ["_law_sentence", "_law_text_here", "_law_product", "_law_number"] ["_law_sentence"] (defScope (topS 15)) := ⟨rfl, rfl, rfl, nd, rfl, by decide +kernel, by decide +kernel⟩
  refine fnA_mk (Γ0 := []) (Γl := []) (Γ' := []) T.f__law_compare S (by decide) (no_own rfl) (fun _ _ _ _ _ _ us hl => match us, hl with | [_], _ => rfl) fun f cdv A outer s H E Hf hr => ?_
  have tk := takes_of (X := cxD P w K mg base ["_law_sentence", "_law_text_here", "_law_product", "_law_number"] "_law_compare" (topS 15) f cdv A outer s H E) rfl rfl rfl rfl
  have hp := passes_of (X := cxD P w K mg base ["_law_sentence", "_law_text_here", "_law_product", "_law_number"] "_law_compare" (topS 15) f cdv A outer s H E) rfl
  exact (pssx_cons (PSx.less (Γ2 := []) (psx_set (i := 1) nd rfl (.inl rfl) px_str) (le_of rfl))
 (pssx_cons (PSx.pre (psx_for (Γ := []) (Γ1 := []) hp rfl (pix_seq (px_ix hr (px_rd (pv 0)) px_int (fun _ _ => rfl))) (fun F1 => (pgx_tup rfl (pgsx_cons (pgx_name (i := 2) nd rfl (.inl rfl)) (pgsx_cons (pgx_name (i := 3) nd rfl (.inl rfl)) pgsx_nil)))) (gT_nx (nxs_cons gN_nx (nxs_cons gN_nx nxs_nil))) (fun F1 => (PSsx.less (Γ2 := []) (pssx_one (psx_if (Γ2 := []) (ptx_cmp (od_eq hr) (px_rd (pv 2)) (px_tup pax_nil) (nomark _))
 (PSsx.less (Γ2 := []) (pssx_one (PSx.less (Γ2 := []) (psx_set (i := 1) nd rfl (.inl rfl) (px_callT ca_str rfl T.z_str bb_str (pbx_cons (px_rd (pv 3)) pbx_nil))) (le_of rfl))) (le_of rfl))
 (PSsx.less (Γ2 := []) (pssx_one (PSx.less (Γ2 := []) (psx_set (i := 1) nd rfl (.inl rfl) (px_bin (od_add hr) (px_bin (od_add hr) (px_rd (pv 1)) (PX.rd (px_ix hr (PX.rd (px_lst (pax_cons px_str (pax_cons px_str (pax_cons px_str (pax_cons px_str pax_nil)))))) (px_bin (od_add hr) (px_bin (od_mul hr) px_int (px_callT ca_int rfl T.z_int bb_int (pbx_cons (px_cmp (od_ne hr) (px_rd (pv 1)) px_str (nomark _)) pbx_nil))) (px_callT ca_int rfl T.z_int bb_int (pbx_cons (px_cmp (od_lt hr) (px_rd (pv 3)) px_int (nomark _)) pbx_nil))) (fun _ _ => rfl)))) (PX.rd (px_ix hr (PX.rd (px_ix hr (px_rd (pv 2)) px_int (fun _ _ => rfl))) px_int (fun _ _ => rfl))))) (le_of rfl))) (le_of rfl)))) (le_of rfl)))) (le_of rfl))
 (pssx_one (psx_ret (px_bin (od_add hr) (px_rd (pv 1)) (PX.rd (px_ix hr (PX.rd (px_lst (pax_cons px_str (pax_cons px_str (pax_cons px_str (pax_cons px_str pax_nil)))))) (px_index (PX.rd (px_lst (pax_cons px_str (pax_cons px_str (pax_cons px_str (pax_cons px_str pax_nil)))))) (pbx_cons (PX.rd (px_ix hr (px_rd (pv 0)) px_int (fun _ _ => rfl))) pbx_nil)) (fun _ _ => rfl))))))))
theorem q__law_text (T : Tx K mg w) (n : Nat) (C__law_text : FnA P w K mg base (2 + n) "_law_text" ["_law_sentence", "_law_beside"] false (r__law_text n)) : FnA P w K mg base (2 + n + 1) "_law_text" ["_law_sentence", "_law_beside"] false (r__law_text (n + 1)) := by
  have C__law_compare := w__law_compare (P := P) (w := w) (base := base) T
  have nd : (["_law_sentence", "_law_beside", "_law_word", "_law_text_here", "_law_part"] : List Str).Nodup := by decide +kernel
  have S : FnScope ["_law_sentence", "_law_beside", "_law_word", "_law_text_here", "_law_part"] ["_law_sentence", "_law_beside"] (defScope (topS 16)) := ⟨rfl, rfl, rfl, nd, rfl, by decide +kernel, by decide +kernel⟩
  refine fnA_mk (Γ0 := []) (Γl := []) (Γ' := []) T.f__law_text S (by decide) (no_own rfl) (fun _ _ _ _ _ _ us hl => match us, hl with | [_, _], _ => rfl) fun f cdv A outer s H E Hf hr => ?_
  have tk := takes_of (X := cxD P w K mg base ["_law_sentence", "_law_beside", "_law_word", "_law_text_here", "_law_part"] "_law_text" (topS 16) f cdv A outer s H E) rfl rfl rfl rfl
  have hp := passes_of (X := cxD P w K mg base ["_law_sentence", "_law_beside", "_law_word", "_law_text_here", "_law_part"] "_law_text" (topS 16) f cdv A outer s H E) rfl
  exact (pssx_cons (PSx.less (Γ2 := []) (psx_set (i := 2) nd rfl (.inl rfl) (px_ix hr (px_rd (pv 0)) px_int (fun _ _ => rfl))) (le_of rfl))
 (pssx_cons (psx_if (Γ2 := []) (ptx_cmp (od_eq hr) (px_rd (pv 2)) px_str (nomark _))
 (pssx_one (psx_ret (px_bin (od_add hr) px_str (PX.rd (px_callF C__law_text (hr.mono (by omega)) rfl tk (pax_cons (px_ix hr (px_rd (pv 0)) px_int (fun _ _ => rfl)) (pax_cons px_str pax_nil)))))))
 (PSsx.less (Γ2 := []) pssx_nil (le_of rfl)))
 (pssx_cons (psx_if (Γ2 := []) (ptx_cmp (od_eq hr) (px_rd (pv 2)) px_str (nomark _))
 (PSsx.less (Γ2 := []) (pssx_one (PSx.less (Γ2 := []) (psx_set (i := 3) nd rfl (.inl rfl) (px_join px_str (PX.rd (px_lc (own := [("_law_part", 4)]) (Γ2 := []) rfl nd (pix_seq (px_ix hr (px_rd (pv 0)) px_int (fun _ _ => rfl))) (le_of rfl) (by decide) (blkOk_by (N := ["_law_sentence", "_law_beside", "_law_word", "_law_text_here", "_law_part"]) (sc := defScope (topS 16)) (own := [("_law_part", 4)]) (by decide +kernel)) (fun _ _ _ _ _ _ => (pgx_name (i := 4) nd rfl (.inl rfl))) (by decide) (fun _ _ _ _ _ _ => ptsx_nil) (fun _ _ _ _ _ _ => (px_callF C__law_text (hr.mono (by omega)) rfl takes_no (pax_cons (px_fr' (pv 4) rfl) (pax_cons px_str pax_nil)))))))) (le_of rfl))) (le_of rfl))
 (PSsx.less (Γ2 := []) (pssx_one (psx_if (Γ2 := []) (ptx_cmp (od_eq hr) (px_rd (pv 2)) px_str (nomark _))
 (PSsx.less (Γ2 := []) (pssx_one (PSx.less (Γ2 := []) (psx_set (i := 3) nd rfl (.inl rfl) (px_join px_str (PX.rd (px_lc (own := [("_law_part", 4)]) (Γ2 := []) rfl nd (pix_seq (px_ix hr (px_rd (pv 0)) px_int (fun _ _ => rfl))) (le_of rfl) (by decide) (blkOk_by (N := ["_law_sentence", "_law_beside", "_law_word", "_law_text_here", "_law_part"]) (sc := defScope (topS 16)) (own := [("_law_part", 4)]) (by decide +kernel)) (fun _ _ _ _ _ _ => (pgx_name (i := 4) nd rfl (.inl rfl))) (by decide) (fun _ _ _ _ _ _ => ptsx_nil) (fun _ _ _ _ _ _ => (px_callF C__law_text (hr.mono (by omega)) rfl takes_no (pax_cons (px_fr' (pv 4) rfl) (pax_cons px_str pax_nil)))))))) (le_of rfl))) (le_of rfl))
 (PSsx.less (Γ2 := []) (pssx_one (psx_if (Γ2 := []) (PWx.pt (pwx_or (ptx_cmp (od_eq hr) (px_rd (pv 2)) px_str (nomark _)) (pwx_or1 (ptx_cmp (od_eq hr) (px_rd (pv 2)) px_str (nomark _)))))
 (PSsx.less (Γ2 := []) (pssx_one (PSx.less (Γ2 := []) (psx_set (i := 3) nd rfl (.inl rfl) (px_bin (od_add hr) (px_bin (od_add hr) (px_bin (od_add hr) (px_bin (od_add hr) (px_rd (pv 2)) px_str) (PX.rd (px_ix hr (px_rd (pv 0)) px_int (fun _ _ => rfl)))) px_str) (PX.rd (px_callF C__law_text (hr.mono (by omega)) rfl tk (pax_cons (px_ix hr (px_rd (pv 0)) px_int (fun _ _ => rfl)) (pax_cons px_str pax_nil)))))) (le_of rfl))) (le_of rfl))
 (pssx_one (psx_ret (px_callF C__law_compare (hr.mono (by omega)) rfl tk (pax_cons (px_fr' (pv 0) rfl) pax_nil)))))) (le_of rfl)))) (le_of rfl)))
 (pssx_cons (psx_if (Γ2 := []) (PWx.pt (pwx_or (ptx_cmp (od_eq hr) (px_rd (pv 1)) px_str (nomark _)) (pwx_or1 (PWx.pt (pwx_and (ptx_cmp (od_eq hr) (px_rd (pv 1)) px_str (nomark _)) (pwx_and1 (ptx_cmp (od_eq hr) (px_rd (pv 2)) px_str (nomark _))))))))
 (pssx_one (psx_ret (px_fr' (pv 3) rfl)))
 (PSsx.less (Γ2 := []) pssx_nil (le_of rfl)))
 (pssx_one (psx_ret (px_bin (od_add hr) (px_bin (od_add hr) px_str (px_rd (pv 3))) px_str)))))))
theorem qq__law_text (T : Tx K mg w) : ∀ n : Nat, FnA P w K mg base (2 + n) "_law_text" ["_law_sentence", "_law_beside"] false (r__law_text n)
  | 0 => fnA_stuck T.f__law_text (fun _ _ _ _ _ _ us hl => match us, hl with | [_, _], _ => rfl)
  | n + 1 => by
    obtain C__law_text := qq__law_text T n
    exact q__law_text T n C__law_text
theorem w__law_text (T : Tx K mg w) : FnA P w K mg base 62 "_law_text" ["_law_sentence", "_law_beside"] false m__law_text := (qq__law_text T 60)
theorem w_law (T : Tx K mg w) : FnA P w K mg base 65 "law" ["_law_script"] false m_law_v26 := by
  have C__law_built := w__law_built (P := P) (w := w) (base := base) T
  have C_shown := w_shown (P := P) (w := w) (base := base) T
  have C__law_text := w__law_text (P := P) (w := w) (base := base) T
  have nd : (["_law_script", "_law_sentence", "_law_found"] : List Str).Nodup := by decide +kernel
  have S : FnScope ["_law_script", "_law_sentence", "_law_found"] ["_law_script"] (defScope (topS 17)) := ⟨rfl, rfl, rfl, nd, rfl, by decide +kernel, by decide +kernel⟩
  refine fnA_mk (Γ0 := []) (Γl := []) (Γ' := []) T.f_law S (by decide) (no_own rfl) (fun _ _ _ _ _ _ us hl => match us, hl with | [_], _ => rfl) fun f cdv A outer s H E Hf hr => ?_
  have tk := takes_of (X := cxD P w K mg base ["_law_script", "_law_sentence", "_law_found"] "law" (topS 17) f cdv A outer s H E) rfl rfl rfl rfl
  have hp := passes_of (X := cxD P w K mg base ["_law_script", "_law_sentence", "_law_found"] "law" (topS 17) f cdv A outer s H E) rfl
  exact (pssx_cons (PSx.less (Γ2 := []) (psx_set (i := 1) nd rfl (.inl rfl) (px_callF C__law_built (hr.mono (by decide)) rfl tk (pax_cons (px_fr' (pv 0) rfl) (pax_cons px_int pax_nil)))) (le_of rfl))
 (pssx_cons (PSx.less (Γ2 := []) (psx_set (i := 2) nd rfl (.inl rfl) (px_callF C_shown (hr.mono (by decide)) rfl tk (pax_cons (px_fr' (pv 1) rfl) pax_nil))) (le_of rfl))
 (pssx_one (psx_ret (px_and (px_callB ca_isi rfl T.z_isinstance bb_isinstance (pbx_cons (px_rd (pv 2)) (pbx_cons (px_type rfl T.z_str bb_str) pbx_nil))) (px_one (px_cmp (od_eq hr) (px_rd (pv 2)) (PX.rd (px_callF C__law_text (hr.mono (by decide)) rfl tk (pax_cons (px_fr' (pv 1) rfl) (pax_cons px_str pax_nil)))) (nomark _))))))))
end
theorem all_mk {P : Program} {w : World} {K : PySem.W.Frag} {h : Heap} {mg : Str → Option Value} {fa : Addr} (X : K.In h) (G : h.Ns mainGlobals mg) (hfa : mg "law" = some (.ref fa))
    {f0 : Addr} {od0 an0 : Option Addr} {sl0 : Array (Option Value)} {oc0 kV0 dc0 pm0 cd0 ct0 : Value}
    (a0 : PySem.W.nsIn K mainGlobals "shown_name" = some (some (.ref f0))) (l0 : K.lookup f0 = some ⟨oc0, od0, .func (PySem.W.fnOf "shown_name" "shown_name" (defArgs (topS 2)) (defBody (topS 2)) (defScope (topS 2)) .none kV0 dc0 pm0 an0 cd0 ct0), sl0⟩) (c0 : PySem.W.codeIn K cd0 "shown_name" = true) (k0 : PySem.W.keepIn K (.ref f0) = true)
    {f1 : Addr} {od1 an1 : Option Addr} {sl1 : Array (Option Value)} {oc1 kV1 dc1 pm1 cd1 ct1 : Value}
    (a1 : PySem.W.nsIn K mainGlobals "shown_pair" = some (some (.ref f1))) (l1 : K.lookup f1 = some ⟨oc1, od1, .func (PySem.W.fnOf "shown_pair" "shown_pair" (defArgs (topS 3)) (defBody (topS 3)) (defScope (topS 3)) .none kV1 dc1 pm1 an1 cd1 ct1), sl1⟩) (c1 : PySem.W.codeIn K cd1 "shown_pair" = true) (k1 : PySem.W.keepIn K (.ref f1) = true)
    {f2 : Addr} {od2 an2 : Option Addr} {sl2 : Array (Option Value)} {oc2 kV2 dc2 pm2 cd2 ct2 : Value}
    (a2 : PySem.W.nsIn K mainGlobals "shown_form" = some (some (.ref f2))) (l2 : K.lookup f2 = some ⟨oc2, od2, .func (PySem.W.fnOf "shown_form" "shown_form" (defArgs (topS 4)) (defBody (topS 4)) (defScope (topS 4)) .none kV2 dc2 pm2 an2 cd2 ct2), sl2⟩) (c2 : PySem.W.codeIn K cd2 "shown_form" = true) (k2 : PySem.W.keepIn K (.ref f2) = true)
    {f3 : Addr} {od3 an3 : Option Addr} {sl3 : Array (Option Value)} {oc3 kV3 dc3 pm3 cd3 ct3 : Value}
    (a3 : PySem.W.nsIn K mainGlobals "held_by" = some (some (.ref f3))) (l3 : K.lookup f3 = some ⟨oc3, od3, .func (PySem.W.fnOf "held_by" "held_by" (defArgs (topS 5)) (defBody (topS 5)) (defScope (topS 5)) .none kV3 dc3 pm3 an3 cd3 ct3), sl3⟩) (c3 : PySem.W.codeIn K cd3 "held_by" = true) (k3 : PySem.W.keepIn K (.ref f3) = true)
    {f4 : Addr} {od4 an4 : Option Addr} {sl4 : Array (Option Value)} {oc4 kV4 dc4 pm4 cd4 ct4 : Value}
    (a4 : PySem.W.nsIn K mainGlobals "shown" = some (some (.ref f4))) (l4 : K.lookup f4 = some ⟨oc4, od4, .func (PySem.W.fnOf "shown" "shown" (defArgs (topS 6)) (defBody (topS 6)) (defScope (topS 6)) .none kV4 dc4 pm4 an4 cd4 ct4), sl4⟩) (c4 : PySem.W.codeIn K cd4 "shown" = true) (k4 : PySem.W.keepIn K (.ref f4) = true)
    {f5 : Addr} {od5 an5 : Option Addr} {sl5 : Array (Option Value)} {oc5 kV5 dc5 pm5 cd5 ct5 : Value}
    (a5 : PySem.W.nsIn K mainGlobals "_law_cell" = some (some (.ref f5))) (l5 : K.lookup f5 = some ⟨oc5, od5, .func (PySem.W.fnOf "_law_cell" "_law_cell" (defArgs (topS 8)) (defBody (topS 8)) (defScope (topS 8)) .none kV5 dc5 pm5 an5 cd5 ct5), sl5⟩) (c5 : PySem.W.codeIn K cd5 "_law_cell" = true) (k5 : PySem.W.keepIn K (.ref f5) = true)
    {f6 : Addr} {od6 an6 : Option Addr} {sl6 : Array (Option Value)} {oc6 kV6 dc6 pm6 cd6 ct6 : Value}
    (a6 : PySem.W.nsIn K mainGlobals "_law_any_names" = some (some (.ref f6))) (l6 : K.lookup f6 = some ⟨oc6, od6, .func (PySem.W.fnOf "_law_any_names" "_law_any_names" (defArgs (topS 9)) (defBody (topS 9)) (defScope (topS 9)) .none kV6 dc6 pm6 an6 cd6 ct6), sl6⟩) (c6 : PySem.W.codeIn K cd6 "_law_any_names" = true) (k6 : PySem.W.keepIn K (.ref f6) = true)
    {f7 : Addr} {od7 an7 : Option Addr} {sl7 : Array (Option Value)} {oc7 kV7 dc7 pm7 cd7 ct7 : Value}
    (a7 : PySem.W.nsIn K mainGlobals "_law_names" = some (some (.ref f7))) (l7 : K.lookup f7 = some ⟨oc7, od7, .func (PySem.W.fnOf "_law_names" "_law_names" (defArgs (topS 10)) (defBody (topS 10)) (defScope (topS 10)) .none kV7 dc7 pm7 an7 cd7 ct7), sl7⟩) (c7 : PySem.W.codeIn K cd7 "_law_names" = true) (k7 : PySem.W.keepIn K (.ref f7) = true)
    {f8 : Addr} {od8 an8 : Option Addr} {sl8 : Array (Option Value)} {oc8 kV8 dc8 pm8 cd8 ct8 : Value}
    (a8 : PySem.W.nsIn K mainGlobals "_law_leaf" = some (some (.ref f8))) (l8 : K.lookup f8 = some ⟨oc8, od8, .func (PySem.W.fnOf "_law_leaf" "_law_leaf" (defArgs (topS 11)) (defBody (topS 11)) (defScope (topS 11)) .none kV8 dc8 pm8 an8 cd8 ct8), sl8⟩) (c8 : PySem.W.codeIn K cd8 "_law_leaf" = true) (k8 : PySem.W.keepIn K (.ref f8) = true)
    {f9 : Addr} {od9 an9 : Option Addr} {sl9 : Array (Option Value)} {oc9 kV9 dc9 pm9 cd9 ct9 : Value}
    (a9 : PySem.W.nsIn K mainGlobals "_law_folded" = some (some (.ref f9))) (l9 : K.lookup f9 = some ⟨oc9, od9, .func (PySem.W.fnOf "_law_folded" "_law_folded" (defArgs (topS 12)) (defBody (topS 12)) (defScope (topS 12)) .none kV9 dc9 pm9 an9 cd9 ct9), sl9⟩) (c9 : PySem.W.codeIn K cd9 "_law_folded" = true) (k9 : PySem.W.keepIn K (.ref f9) = true)
    {f10 : Addr} {od10 an10 : Option Addr} {sl10 : Array (Option Value)} {oc10 kV10 dc10 pm10 cd10 ct10 : Value}
    (a10 : PySem.W.nsIn K mainGlobals "_law_step" = some (some (.ref f10))) (l10 : K.lookup f10 = some ⟨oc10, od10, .func (PySem.W.fnOf "_law_step" "_law_step" (defArgs (topS 13)) (defBody (topS 13)) (defScope (topS 13)) .none kV10 dc10 pm10 an10 cd10 ct10), sl10⟩) (c10 : PySem.W.codeIn K cd10 "_law_step" = true) (k10 : PySem.W.keepIn K (.ref f10) = true)
    {f11 : Addr} {od11 an11 : Option Addr} {sl11 : Array (Option Value)} {oc11 kV11 dc11 pm11 cd11 ct11 : Value}
    (a11 : PySem.W.nsIn K mainGlobals "_law_built" = some (some (.ref f11))) (l11 : K.lookup f11 = some ⟨oc11, od11, .func (PySem.W.fnOf "_law_built" "_law_built" (defArgs (topS 14)) (defBody (topS 14)) (defScope (topS 14)) .none kV11 dc11 pm11 an11 cd11 ct11), sl11⟩) (c11 : PySem.W.codeIn K cd11 "_law_built" = true) (k11 : PySem.W.keepIn K (.ref f11) = true)
    {f12 : Addr} {od12 an12 : Option Addr} {sl12 : Array (Option Value)} {oc12 kV12 dc12 pm12 cd12 ct12 : Value}
    (a12 : PySem.W.nsIn K mainGlobals "_law_compare" = some (some (.ref f12))) (l12 : K.lookup f12 = some ⟨oc12, od12, .func (PySem.W.fnOf "_law_compare" "_law_compare" (defArgs (topS 15)) (defBody (topS 15)) (defScope (topS 15)) .none kV12 dc12 pm12 an12 cd12 ct12), sl12⟩) (c12 : PySem.W.codeIn K cd12 "_law_compare" = true) (k12 : PySem.W.keepIn K (.ref f12) = true)
    {f13 : Addr} {od13 an13 : Option Addr} {sl13 : Array (Option Value)} {oc13 kV13 dc13 pm13 cd13 ct13 : Value}
    (a13 : PySem.W.nsIn K mainGlobals "_law_text" = some (some (.ref f13))) (l13 : K.lookup f13 = some ⟨oc13, od13, .func (PySem.W.fnOf "_law_text" "_law_text" (defArgs (topS 16)) (defBody (topS 16)) (defScope (topS 16)) .none kV13 dc13 pm13 an13 cd13 ct13), sl13⟩) (c13 : PySem.W.codeIn K cd13 "_law_text" = true) (k13 : PySem.W.keepIn K (.ref f13) = true)
    {f14 : Addr} {od14 an14 : Option Addr} {sl14 : Array (Option Value)} {oc14 kV14 dc14 pm14 cd14 ct14 : Value}
    (a14 : PySem.W.nsIn K mainGlobals "law" = some (some (.ref f14))) (l14 : K.lookup f14 = some ⟨oc14, od14, .func (PySem.W.fnOf "law" "law" (defArgs (topS 17)) (defBody (topS 17)) (defScope (topS 17)) .none kV14 dc14 pm14 an14 cd14 ct14), sl14⟩) (c14 : PySem.W.codeIn K cd14 "law" = true) (k14 : PySem.W.keepIn K (.ref f14) = true)
    (z_abs : PySem.W.nsIn K mainGlobals "abs" = some none)
    (z_int : PySem.W.nsIn K mainGlobals "int" = some none)
    (z_isinstance : PySem.W.nsIn K mainGlobals "isinstance" = some none)
    (z_len : PySem.W.nsIn K mainGlobals "len" = some none)
    (z_max : PySem.W.nsIn K mainGlobals "max" = some none)
    (z_range : PySem.W.nsIn K mainGlobals "range" = some none)
    (z_str : PySem.W.nsIn K mainGlobals "str" = some none)
    (z_tuple : PySem.W.nsIn K mainGlobals "tuple" = some none)
    {da_SIGNS : Addr} {de_SIGNS : Array DictEntry} {dn_SIGNS : Nat} (d1_SIGNS : PySem.W.nsIn K mainGlobals "SIGNS" = some (some (.ref da_SIGNS))) (d2_SIGNS : K.lookup da_SIGNS = some ⟨.type "dict", none, .dict de_SIGNS dn_SIGNS, #[]⟩) (d3_SIGNS : DentP w de_SIGNS [("less", "<"), ("most", "<="), ("equal", "="), ("unlike", "/=")]) (d4_SIGNS : (da_SIGNS == sysModules) = false)
    (hL : ∀ ns : List Int, ns.length ≤ 63 → (∀ z ∈ ns, Builtin.Int.intBits z ≤ 1048576) → m_law_v26 [.scr ns] = .ok (.bl true)) :
    ∃ fd : FuncData, (∀ (s : Shared) (v : Value), BindsTo s fd ⟨[v], []⟩ [("_law_script", v)]) ∧ ∀ base : Heap, K.In base → base.Ns mainGlobals mg → FnOk P w K mg base (L2.CX P w) 65 fa fd ["_law_script"] (spLaw K) := by
  have T : Tx K mg w := { d_SIGNS := dkT_of X G d1_SIGNS d2_SIGNS d3_SIGNS d4_SIGNS, z_abs := PySem.W.mg_none_of X G z_abs, z_int := PySem.W.mg_none_of X G z_int, z_isinstance := PySem.W.mg_none_of X G z_isinstance, z_len := PySem.W.mg_none_of X G z_len, z_max := PySem.W.mg_none_of X G z_max, z_range := PySem.W.mg_none_of X G z_range, z_str := PySem.W.mg_none_of X G z_str, z_tuple := PySem.W.mg_none_of X G z_tuple, f_shown_name := fnT_of X G a0 l0 c0 k0, f_shown_pair := fnT_of X G a1 l1 c1 k1, f_shown_form := fnT_of X G a2 l2 c2 k2, f_held_by := fnT_of X G a3 l3 c3 k3, f_shown := fnT_of X G a4 l4 c4 k4, f__law_cell := fnT_of X G a5 l5 c5 k5, f__law_any_names := fnT_of X G a6 l6 c6 k6, f__law_names := fnT_of X G a7 l7 c7 k7, f__law_leaf := fnT_of X G a8 l8 c8 k8, f__law_folded := fnT_of X G a9 l9 c9 k9, f__law_step := fnT_of X G a10 l10 c10 k10, f__law_built := fnT_of X G a11 l11 c11 k11, f__law_compare := fnT_of X G a12 l12 c12 k12, f__law_text := fnT_of X G a13 l13 c13 k13, f_law := fnT_of X G a14 l14 c14 k14 }
  exact law_end T.f_law hfa (fun _ _ _ _ _ _ us hl => match us, hl with | [_], _ => rfl) (fun base => w_law T) hL
theorem p2 : dPow (.int 10) (.int 2) = .ok (.int 100) := chk_pos ⟨by decide, by decide, by decide⟩
theorem p3 : dPow (.int 10) (.int 3) = .ok (.int 1000) := chk_pos ⟨by decide, by decide, by decide⟩
theorem p4 : dPow (.int 10) (.int 4) = .ok (.int 10000) := chk_pos ⟨by decide, by decide, by decide⟩
theorem p5 : dPow (.int 10) (.int 5) = .ok (.int 100000) := chk_pos ⟨by decide, by decide, by decide⟩
theorem p6 : dPow (.int 10) (.int 6) = .ok (.int 1000000) := chk_pos ⟨by decide, by decide, by decide⟩
theorem p7 : dPow (.int 10) (.int 7) = .ok (.int 10000000) := chk_pos ⟨by decide, by decide, by decide⟩
theorem p8 : dPow (.int 10) (.int 8) = .ok (.int 100000000) := chk_pos ⟨by decide, by decide, by decide⟩
theorem p9 : dPow (.int 10) (.int 9) = .ok (.int 1000000000) := chk_pos ⟨by decide, by decide, by decide⟩
theorem p10 : dPow (.int 10) (.int 10) = .ok (.int 10000000000) := chk_pos ⟨by decide, by decide, by decide⟩
theorem p11 : dPow (.int 10) (.int 11) = .ok (.int 100000000000) := chk_pos ⟨by decide, by decide, by decide⟩
theorem p12 : dPow (.int 10) (.int 12) = .ok (.int 1000000000000) := chk_pos ⟨by decide, by decide, by decide⟩
theorem p13 : dPow (.int 10) (.int 13) = .ok (.int 10000000000000) := chk_pos ⟨by decide, by decide, by decide⟩
theorem p14 : dPow (.int 10) (.int 14) = .ok (.int 100000000000000) := chk_pos ⟨by decide, by decide, by decide⟩
theorem p15 : dPow (.int 10) (.int 15) = .ok (.int 1000000000000000) := chk_pos ⟨by decide, by decide, by decide⟩
theorem p16 : dPow (.int 10) (.int 16) = .ok (.int 10000000000000000) := chk_pos ⟨by decide, by decide, by decide⟩
theorem p18 : dPow (.int 10) (.int 18) = .ok (.int 1000000000000000000) := chk_pos ⟨by decide, by decide, by decide⟩
theorem p20 : dPow (.int 10) (.int 20) = .ok (.int 100000000000000000000) := chk_pos ⟨by decide, by decide, by decide⟩
theorem p22 : dPow (.int 10) (.int 22) = .ok (.int 10000000000000000000000) := chk_pos ⟨by decide, by decide, by decide⟩
theorem p24 : dPow (.int 10) (.int 24) = .ok (.int 1000000000000000000000000) := chk_pos ⟨by decide, by decide, by decide⟩
theorem p25 : dPow (.int 10) (.int 25) = .ok (.int 10000000000000000000000000) := chk_pos ⟨by decide, by decide, by decide⟩
theorem p26 : dPow (.int 10) (.int 26) = .ok (.int 100000000000000000000000000) := chk_pos ⟨by decide, by decide, by decide⟩
theorem p27 : dPow (.int 10) (.int 27) = .ok (.int 1000000000000000000000000000) := chk_pos ⟨by decide, by decide, by decide⟩
theorem p28 : dPow (.int 10) (.int 28) = .ok (.int 10000000000000000000000000000) := chk_pos ⟨by decide, by decide, by decide⟩
theorem p29 : dPow (.int 10) (.int 29) = .ok (.int 100000000000000000000000000000) := chk_pos ⟨by decide, by decide, by decide⟩
theorem p30 : dPow (.int 10) (.int 30) = .ok (.int 1000000000000000000000000000000) := chk_pos ⟨by decide, by decide, by decide⟩
theorem p35 : dPow (.int 10) (.int 35) = .ok (.int 100000000000000000000000000000000000) := chk_pos ⟨by decide, by decide, by decide⟩
theorem p40 : dPow (.int 10) (.int 40) = .ok (.int 10000000000000000000000000000000000000000) := chk_pos ⟨by decide, by decide, by decide⟩
theorem p60 : dPow (.int 10) (.int 60) = .ok (.int 1000000000000000000000000000000000000000000000000000000000000) := chk_pos ⟨by decide, by decide, by decide⟩
theorem dEq_lit {a b : Str} (ha : PyData.strOk a = true) (hb : PyData.strOk b = true) : dEq (.str a) (.str b) = .ok (.bl (a == b)) := by
  have e : PyData.eqv (.str a) (.str b) = (a == b) := by rw [PyData.eqv]
  have sh : ∀ {l : Str}, PyData.strOk l = true → SeqAt.shaped (.str l) = true := fun {l} h => by
    unfold SeqAt.shaped
    exact Bool.and_eq_true_iff.mpr ⟨h, rfl⟩
  show chk _ (Out.ok (D.bl (PyData.eqv (.str a) (.str b)))) = _
  rw [e]
  exact chk_pos ⟨sh ha, sh hb⟩
theorem dNe_lit {a b : Str} (ha : PyData.strOk a = true) (hb : PyData.strOk b = true) : dNe (.str a) (.str b) = .ok (.bl (!(a == b))) := by
  have e : PyData.eqv (.str a) (.str b) = (a == b) := by rw [PyData.eqv]
  have sh : ∀ {l : Str}, PyData.strOk l = true → SeqAt.shaped (.str l) = true := fun {l} h => by
    unfold SeqAt.shaped
    exact Bool.and_eq_true_iff.mpr ⟨h, rfl⟩
  show chk _ (Out.ok (D.bl (!PyData.eqv (.str a) (.str b)))) = _
  rw [e]
  exact chk_pos ⟨sh ha, sh hb⟩
theorem dIn_lit (a : Str) (l : List Str) : dIn (.str a) (.tup (l.map .str)) = .ok (.bl (l.any fun y => y == a)) := by
  show ((dInL false (.str a) (.tup (l.map .str))).or _) = _
  have : dInL false (.str a) (.tup (l.map .str)) = .ok (.bl (l.any fun y => y == a)) := by
    show chk _ (Out.ok (D.bl (if false = true then _ else _))) = _
    rw [chk_pos ⟨rfl, by simp [List.all_map, flatD]⟩, if_neg Bool.false_ne_true, List.any_map]
    rfl
  rw [this]; rfl
theorem ok_less : PyData.strOk ("less" : Str) = true := by decide +kernel
theorem ok_most : PyData.strOk ("most" : Str) = true := by decide +kernel
theorem ok_equal : PyData.strOk ("equal" : Str) = true := by decide +kernel
theorem ok_unlike : PyData.strOk ("unlike" : Str) = true := by decide +kernel
theorem ok_both : PyData.strOk ("both" : Str) = true := by decide +kernel
theorem ok_either : PyData.strOk ("either" : Str) = true := by decide +kernel
theorem ok_not : PyData.strOk ("not" : Str) = true := by decide +kernel
theorem ok_some : PyData.strOk ("some" : Str) = true := by decide +kernel
theorem ok_all : PyData.strOk ("all" : Str) = true := by decide +kernel
theorem ok_yes : PyData.strOk ("yes" : Str) = true := by decide +kernel
theorem ok_no : PyData.strOk ("no" : Str) = true := by decide +kernel
theorem kw_less_less : dEq (.str "less") (.str "less") = .ok (.bl true) := (dEq_lit ok_less ok_less).trans (congrArg (fun b => Out.ok (D.bl b)) (by decide +kernel))
theorem kn_less_less : dNe (.str "less") (.str "less") = .ok (.bl false) := (dNe_lit ok_less ok_less).trans (congrArg (fun b => Out.ok (D.bl b)) (by decide +kernel))
theorem kw_less_most : dEq (.str "less") (.str "most") = .ok (.bl false) := (dEq_lit ok_less ok_most).trans (congrArg (fun b => Out.ok (D.bl b)) (by decide +kernel))
theorem kn_less_most : dNe (.str "less") (.str "most") = .ok (.bl true) := (dNe_lit ok_less ok_most).trans (congrArg (fun b => Out.ok (D.bl b)) (by decide +kernel))
theorem kw_less_equal : dEq (.str "less") (.str "equal") = .ok (.bl false) := (dEq_lit ok_less ok_equal).trans (congrArg (fun b => Out.ok (D.bl b)) (by decide +kernel))
theorem kn_less_equal : dNe (.str "less") (.str "equal") = .ok (.bl true) := (dNe_lit ok_less ok_equal).trans (congrArg (fun b => Out.ok (D.bl b)) (by decide +kernel))
theorem kw_less_unlike : dEq (.str "less") (.str "unlike") = .ok (.bl false) := (dEq_lit ok_less ok_unlike).trans (congrArg (fun b => Out.ok (D.bl b)) (by decide +kernel))
theorem kn_less_unlike : dNe (.str "less") (.str "unlike") = .ok (.bl true) := (dNe_lit ok_less ok_unlike).trans (congrArg (fun b => Out.ok (D.bl b)) (by decide +kernel))
theorem kw_less_both : dEq (.str "less") (.str "both") = .ok (.bl false) := (dEq_lit ok_less ok_both).trans (congrArg (fun b => Out.ok (D.bl b)) (by decide +kernel))
theorem kn_less_both : dNe (.str "less") (.str "both") = .ok (.bl true) := (dNe_lit ok_less ok_both).trans (congrArg (fun b => Out.ok (D.bl b)) (by decide +kernel))
theorem kw_less_either : dEq (.str "less") (.str "either") = .ok (.bl false) := (dEq_lit ok_less ok_either).trans (congrArg (fun b => Out.ok (D.bl b)) (by decide +kernel))
theorem kn_less_either : dNe (.str "less") (.str "either") = .ok (.bl true) := (dNe_lit ok_less ok_either).trans (congrArg (fun b => Out.ok (D.bl b)) (by decide +kernel))
theorem kw_less_not : dEq (.str "less") (.str "not") = .ok (.bl false) := (dEq_lit ok_less ok_not).trans (congrArg (fun b => Out.ok (D.bl b)) (by decide +kernel))
theorem kn_less_not : dNe (.str "less") (.str "not") = .ok (.bl true) := (dNe_lit ok_less ok_not).trans (congrArg (fun b => Out.ok (D.bl b)) (by decide +kernel))
theorem kw_less_some : dEq (.str "less") (.str "some") = .ok (.bl false) := (dEq_lit ok_less ok_some).trans (congrArg (fun b => Out.ok (D.bl b)) (by decide +kernel))
theorem kn_less_some : dNe (.str "less") (.str "some") = .ok (.bl true) := (dNe_lit ok_less ok_some).trans (congrArg (fun b => Out.ok (D.bl b)) (by decide +kernel))
theorem kw_less_all : dEq (.str "less") (.str "all") = .ok (.bl false) := (dEq_lit ok_less ok_all).trans (congrArg (fun b => Out.ok (D.bl b)) (by decide +kernel))
theorem kn_less_all : dNe (.str "less") (.str "all") = .ok (.bl true) := (dNe_lit ok_less ok_all).trans (congrArg (fun b => Out.ok (D.bl b)) (by decide +kernel))
theorem kw_less_yes : dEq (.str "less") (.str "yes") = .ok (.bl false) := (dEq_lit ok_less ok_yes).trans (congrArg (fun b => Out.ok (D.bl b)) (by decide +kernel))
theorem kn_less_yes : dNe (.str "less") (.str "yes") = .ok (.bl true) := (dNe_lit ok_less ok_yes).trans (congrArg (fun b => Out.ok (D.bl b)) (by decide +kernel))
theorem kw_less_no : dEq (.str "less") (.str "no") = .ok (.bl false) := (dEq_lit ok_less ok_no).trans (congrArg (fun b => Out.ok (D.bl b)) (by decide +kernel))
theorem kn_less_no : dNe (.str "less") (.str "no") = .ok (.bl true) := (dNe_lit ok_less ok_no).trans (congrArg (fun b => Out.ok (D.bl b)) (by decide +kernel))
theorem kw_most_less : dEq (.str "most") (.str "less") = .ok (.bl false) := (dEq_lit ok_most ok_less).trans (congrArg (fun b => Out.ok (D.bl b)) (by decide +kernel))
theorem kn_most_less : dNe (.str "most") (.str "less") = .ok (.bl true) := (dNe_lit ok_most ok_less).trans (congrArg (fun b => Out.ok (D.bl b)) (by decide +kernel))
theorem kw_most_most : dEq (.str "most") (.str "most") = .ok (.bl true) := (dEq_lit ok_most ok_most).trans (congrArg (fun b => Out.ok (D.bl b)) (by decide +kernel))
theorem kn_most_most : dNe (.str "most") (.str "most") = .ok (.bl false) := (dNe_lit ok_most ok_most).trans (congrArg (fun b => Out.ok (D.bl b)) (by decide +kernel))
theorem kw_most_equal : dEq (.str "most") (.str "equal") = .ok (.bl false) := (dEq_lit ok_most ok_equal).trans (congrArg (fun b => Out.ok (D.bl b)) (by decide +kernel))
theorem kn_most_equal : dNe (.str "most") (.str "equal") = .ok (.bl true) := (dNe_lit ok_most ok_equal).trans (congrArg (fun b => Out.ok (D.bl b)) (by decide +kernel))
theorem kw_most_unlike : dEq (.str "most") (.str "unlike") = .ok (.bl false) := (dEq_lit ok_most ok_unlike).trans (congrArg (fun b => Out.ok (D.bl b)) (by decide +kernel))
theorem kn_most_unlike : dNe (.str "most") (.str "unlike") = .ok (.bl true) := (dNe_lit ok_most ok_unlike).trans (congrArg (fun b => Out.ok (D.bl b)) (by decide +kernel))
theorem kw_most_both : dEq (.str "most") (.str "both") = .ok (.bl false) := (dEq_lit ok_most ok_both).trans (congrArg (fun b => Out.ok (D.bl b)) (by decide +kernel))
theorem kn_most_both : dNe (.str "most") (.str "both") = .ok (.bl true) := (dNe_lit ok_most ok_both).trans (congrArg (fun b => Out.ok (D.bl b)) (by decide +kernel))
theorem kw_most_either : dEq (.str "most") (.str "either") = .ok (.bl false) := (dEq_lit ok_most ok_either).trans (congrArg (fun b => Out.ok (D.bl b)) (by decide +kernel))
theorem kn_most_either : dNe (.str "most") (.str "either") = .ok (.bl true) := (dNe_lit ok_most ok_either).trans (congrArg (fun b => Out.ok (D.bl b)) (by decide +kernel))
theorem kw_most_not : dEq (.str "most") (.str "not") = .ok (.bl false) := (dEq_lit ok_most ok_not).trans (congrArg (fun b => Out.ok (D.bl b)) (by decide +kernel))
theorem kn_most_not : dNe (.str "most") (.str "not") = .ok (.bl true) := (dNe_lit ok_most ok_not).trans (congrArg (fun b => Out.ok (D.bl b)) (by decide +kernel))
theorem kw_most_some : dEq (.str "most") (.str "some") = .ok (.bl false) := (dEq_lit ok_most ok_some).trans (congrArg (fun b => Out.ok (D.bl b)) (by decide +kernel))
theorem kn_most_some : dNe (.str "most") (.str "some") = .ok (.bl true) := (dNe_lit ok_most ok_some).trans (congrArg (fun b => Out.ok (D.bl b)) (by decide +kernel))
theorem kw_most_all : dEq (.str "most") (.str "all") = .ok (.bl false) := (dEq_lit ok_most ok_all).trans (congrArg (fun b => Out.ok (D.bl b)) (by decide +kernel))
theorem kn_most_all : dNe (.str "most") (.str "all") = .ok (.bl true) := (dNe_lit ok_most ok_all).trans (congrArg (fun b => Out.ok (D.bl b)) (by decide +kernel))
theorem kw_most_yes : dEq (.str "most") (.str "yes") = .ok (.bl false) := (dEq_lit ok_most ok_yes).trans (congrArg (fun b => Out.ok (D.bl b)) (by decide +kernel))
theorem kn_most_yes : dNe (.str "most") (.str "yes") = .ok (.bl true) := (dNe_lit ok_most ok_yes).trans (congrArg (fun b => Out.ok (D.bl b)) (by decide +kernel))
theorem kw_most_no : dEq (.str "most") (.str "no") = .ok (.bl false) := (dEq_lit ok_most ok_no).trans (congrArg (fun b => Out.ok (D.bl b)) (by decide +kernel))
theorem kn_most_no : dNe (.str "most") (.str "no") = .ok (.bl true) := (dNe_lit ok_most ok_no).trans (congrArg (fun b => Out.ok (D.bl b)) (by decide +kernel))
theorem kw_equal_less : dEq (.str "equal") (.str "less") = .ok (.bl false) := (dEq_lit ok_equal ok_less).trans (congrArg (fun b => Out.ok (D.bl b)) (by decide +kernel))
theorem kn_equal_less : dNe (.str "equal") (.str "less") = .ok (.bl true) := (dNe_lit ok_equal ok_less).trans (congrArg (fun b => Out.ok (D.bl b)) (by decide +kernel))
theorem kw_equal_most : dEq (.str "equal") (.str "most") = .ok (.bl false) := (dEq_lit ok_equal ok_most).trans (congrArg (fun b => Out.ok (D.bl b)) (by decide +kernel))
theorem kn_equal_most : dNe (.str "equal") (.str "most") = .ok (.bl true) := (dNe_lit ok_equal ok_most).trans (congrArg (fun b => Out.ok (D.bl b)) (by decide +kernel))
theorem kw_equal_equal : dEq (.str "equal") (.str "equal") = .ok (.bl true) := (dEq_lit ok_equal ok_equal).trans (congrArg (fun b => Out.ok (D.bl b)) (by decide +kernel))
theorem kn_equal_equal : dNe (.str "equal") (.str "equal") = .ok (.bl false) := (dNe_lit ok_equal ok_equal).trans (congrArg (fun b => Out.ok (D.bl b)) (by decide +kernel))
theorem kw_equal_unlike : dEq (.str "equal") (.str "unlike") = .ok (.bl false) := (dEq_lit ok_equal ok_unlike).trans (congrArg (fun b => Out.ok (D.bl b)) (by decide +kernel))
theorem kn_equal_unlike : dNe (.str "equal") (.str "unlike") = .ok (.bl true) := (dNe_lit ok_equal ok_unlike).trans (congrArg (fun b => Out.ok (D.bl b)) (by decide +kernel))
theorem kw_equal_both : dEq (.str "equal") (.str "both") = .ok (.bl false) := (dEq_lit ok_equal ok_both).trans (congrArg (fun b => Out.ok (D.bl b)) (by decide +kernel))
theorem kn_equal_both : dNe (.str "equal") (.str "both") = .ok (.bl true) := (dNe_lit ok_equal ok_both).trans (congrArg (fun b => Out.ok (D.bl b)) (by decide +kernel))
theorem kw_equal_either : dEq (.str "equal") (.str "either") = .ok (.bl false) := (dEq_lit ok_equal ok_either).trans (congrArg (fun b => Out.ok (D.bl b)) (by decide +kernel))
theorem kn_equal_either : dNe (.str "equal") (.str "either") = .ok (.bl true) := (dNe_lit ok_equal ok_either).trans (congrArg (fun b => Out.ok (D.bl b)) (by decide +kernel))
theorem kw_equal_not : dEq (.str "equal") (.str "not") = .ok (.bl false) := (dEq_lit ok_equal ok_not).trans (congrArg (fun b => Out.ok (D.bl b)) (by decide +kernel))
theorem kn_equal_not : dNe (.str "equal") (.str "not") = .ok (.bl true) := (dNe_lit ok_equal ok_not).trans (congrArg (fun b => Out.ok (D.bl b)) (by decide +kernel))
theorem kw_equal_some : dEq (.str "equal") (.str "some") = .ok (.bl false) := (dEq_lit ok_equal ok_some).trans (congrArg (fun b => Out.ok (D.bl b)) (by decide +kernel))
theorem kn_equal_some : dNe (.str "equal") (.str "some") = .ok (.bl true) := (dNe_lit ok_equal ok_some).trans (congrArg (fun b => Out.ok (D.bl b)) (by decide +kernel))
theorem kw_equal_all : dEq (.str "equal") (.str "all") = .ok (.bl false) := (dEq_lit ok_equal ok_all).trans (congrArg (fun b => Out.ok (D.bl b)) (by decide +kernel))
theorem kn_equal_all : dNe (.str "equal") (.str "all") = .ok (.bl true) := (dNe_lit ok_equal ok_all).trans (congrArg (fun b => Out.ok (D.bl b)) (by decide +kernel))
theorem kw_equal_yes : dEq (.str "equal") (.str "yes") = .ok (.bl false) := (dEq_lit ok_equal ok_yes).trans (congrArg (fun b => Out.ok (D.bl b)) (by decide +kernel))
theorem kn_equal_yes : dNe (.str "equal") (.str "yes") = .ok (.bl true) := (dNe_lit ok_equal ok_yes).trans (congrArg (fun b => Out.ok (D.bl b)) (by decide +kernel))
theorem kw_equal_no : dEq (.str "equal") (.str "no") = .ok (.bl false) := (dEq_lit ok_equal ok_no).trans (congrArg (fun b => Out.ok (D.bl b)) (by decide +kernel))
theorem kn_equal_no : dNe (.str "equal") (.str "no") = .ok (.bl true) := (dNe_lit ok_equal ok_no).trans (congrArg (fun b => Out.ok (D.bl b)) (by decide +kernel))
theorem kw_unlike_less : dEq (.str "unlike") (.str "less") = .ok (.bl false) := (dEq_lit ok_unlike ok_less).trans (congrArg (fun b => Out.ok (D.bl b)) (by decide +kernel))
theorem kn_unlike_less : dNe (.str "unlike") (.str "less") = .ok (.bl true) := (dNe_lit ok_unlike ok_less).trans (congrArg (fun b => Out.ok (D.bl b)) (by decide +kernel))
theorem kw_unlike_most : dEq (.str "unlike") (.str "most") = .ok (.bl false) := (dEq_lit ok_unlike ok_most).trans (congrArg (fun b => Out.ok (D.bl b)) (by decide +kernel))
theorem kn_unlike_most : dNe (.str "unlike") (.str "most") = .ok (.bl true) := (dNe_lit ok_unlike ok_most).trans (congrArg (fun b => Out.ok (D.bl b)) (by decide +kernel))
theorem kw_unlike_equal : dEq (.str "unlike") (.str "equal") = .ok (.bl false) := (dEq_lit ok_unlike ok_equal).trans (congrArg (fun b => Out.ok (D.bl b)) (by decide +kernel))
theorem kn_unlike_equal : dNe (.str "unlike") (.str "equal") = .ok (.bl true) := (dNe_lit ok_unlike ok_equal).trans (congrArg (fun b => Out.ok (D.bl b)) (by decide +kernel))
theorem kw_unlike_unlike : dEq (.str "unlike") (.str "unlike") = .ok (.bl true) := (dEq_lit ok_unlike ok_unlike).trans (congrArg (fun b => Out.ok (D.bl b)) (by decide +kernel))
theorem kn_unlike_unlike : dNe (.str "unlike") (.str "unlike") = .ok (.bl false) := (dNe_lit ok_unlike ok_unlike).trans (congrArg (fun b => Out.ok (D.bl b)) (by decide +kernel))
theorem kw_unlike_both : dEq (.str "unlike") (.str "both") = .ok (.bl false) := (dEq_lit ok_unlike ok_both).trans (congrArg (fun b => Out.ok (D.bl b)) (by decide +kernel))
theorem kn_unlike_both : dNe (.str "unlike") (.str "both") = .ok (.bl true) := (dNe_lit ok_unlike ok_both).trans (congrArg (fun b => Out.ok (D.bl b)) (by decide +kernel))
theorem kw_unlike_either : dEq (.str "unlike") (.str "either") = .ok (.bl false) := (dEq_lit ok_unlike ok_either).trans (congrArg (fun b => Out.ok (D.bl b)) (by decide +kernel))
theorem kn_unlike_either : dNe (.str "unlike") (.str "either") = .ok (.bl true) := (dNe_lit ok_unlike ok_either).trans (congrArg (fun b => Out.ok (D.bl b)) (by decide +kernel))
theorem kw_unlike_not : dEq (.str "unlike") (.str "not") = .ok (.bl false) := (dEq_lit ok_unlike ok_not).trans (congrArg (fun b => Out.ok (D.bl b)) (by decide +kernel))
theorem kn_unlike_not : dNe (.str "unlike") (.str "not") = .ok (.bl true) := (dNe_lit ok_unlike ok_not).trans (congrArg (fun b => Out.ok (D.bl b)) (by decide +kernel))
theorem kw_unlike_some : dEq (.str "unlike") (.str "some") = .ok (.bl false) := (dEq_lit ok_unlike ok_some).trans (congrArg (fun b => Out.ok (D.bl b)) (by decide +kernel))
theorem kn_unlike_some : dNe (.str "unlike") (.str "some") = .ok (.bl true) := (dNe_lit ok_unlike ok_some).trans (congrArg (fun b => Out.ok (D.bl b)) (by decide +kernel))
theorem kw_unlike_all : dEq (.str "unlike") (.str "all") = .ok (.bl false) := (dEq_lit ok_unlike ok_all).trans (congrArg (fun b => Out.ok (D.bl b)) (by decide +kernel))
theorem kn_unlike_all : dNe (.str "unlike") (.str "all") = .ok (.bl true) := (dNe_lit ok_unlike ok_all).trans (congrArg (fun b => Out.ok (D.bl b)) (by decide +kernel))
theorem kw_unlike_yes : dEq (.str "unlike") (.str "yes") = .ok (.bl false) := (dEq_lit ok_unlike ok_yes).trans (congrArg (fun b => Out.ok (D.bl b)) (by decide +kernel))
theorem kn_unlike_yes : dNe (.str "unlike") (.str "yes") = .ok (.bl true) := (dNe_lit ok_unlike ok_yes).trans (congrArg (fun b => Out.ok (D.bl b)) (by decide +kernel))
theorem kw_unlike_no : dEq (.str "unlike") (.str "no") = .ok (.bl false) := (dEq_lit ok_unlike ok_no).trans (congrArg (fun b => Out.ok (D.bl b)) (by decide +kernel))
theorem kn_unlike_no : dNe (.str "unlike") (.str "no") = .ok (.bl true) := (dNe_lit ok_unlike ok_no).trans (congrArg (fun b => Out.ok (D.bl b)) (by decide +kernel))
theorem kw_both_less : dEq (.str "both") (.str "less") = .ok (.bl false) := (dEq_lit ok_both ok_less).trans (congrArg (fun b => Out.ok (D.bl b)) (by decide +kernel))
theorem kn_both_less : dNe (.str "both") (.str "less") = .ok (.bl true) := (dNe_lit ok_both ok_less).trans (congrArg (fun b => Out.ok (D.bl b)) (by decide +kernel))
theorem kw_both_most : dEq (.str "both") (.str "most") = .ok (.bl false) := (dEq_lit ok_both ok_most).trans (congrArg (fun b => Out.ok (D.bl b)) (by decide +kernel))
theorem kn_both_most : dNe (.str "both") (.str "most") = .ok (.bl true) := (dNe_lit ok_both ok_most).trans (congrArg (fun b => Out.ok (D.bl b)) (by decide +kernel))
theorem kw_both_equal : dEq (.str "both") (.str "equal") = .ok (.bl false) := (dEq_lit ok_both ok_equal).trans (congrArg (fun b => Out.ok (D.bl b)) (by decide +kernel))
theorem kn_both_equal : dNe (.str "both") (.str "equal") = .ok (.bl true) := (dNe_lit ok_both ok_equal).trans (congrArg (fun b => Out.ok (D.bl b)) (by decide +kernel))
theorem kw_both_unlike : dEq (.str "both") (.str "unlike") = .ok (.bl false) := (dEq_lit ok_both ok_unlike).trans (congrArg (fun b => Out.ok (D.bl b)) (by decide +kernel))
theorem kn_both_unlike : dNe (.str "both") (.str "unlike") = .ok (.bl true) := (dNe_lit ok_both ok_unlike).trans (congrArg (fun b => Out.ok (D.bl b)) (by decide +kernel))
theorem kw_both_both : dEq (.str "both") (.str "both") = .ok (.bl true) := (dEq_lit ok_both ok_both).trans (congrArg (fun b => Out.ok (D.bl b)) (by decide +kernel))
theorem kn_both_both : dNe (.str "both") (.str "both") = .ok (.bl false) := (dNe_lit ok_both ok_both).trans (congrArg (fun b => Out.ok (D.bl b)) (by decide +kernel))
theorem kw_both_either : dEq (.str "both") (.str "either") = .ok (.bl false) := (dEq_lit ok_both ok_either).trans (congrArg (fun b => Out.ok (D.bl b)) (by decide +kernel))
theorem kn_both_either : dNe (.str "both") (.str "either") = .ok (.bl true) := (dNe_lit ok_both ok_either).trans (congrArg (fun b => Out.ok (D.bl b)) (by decide +kernel))
theorem kw_both_not : dEq (.str "both") (.str "not") = .ok (.bl false) := (dEq_lit ok_both ok_not).trans (congrArg (fun b => Out.ok (D.bl b)) (by decide +kernel))
theorem kn_both_not : dNe (.str "both") (.str "not") = .ok (.bl true) := (dNe_lit ok_both ok_not).trans (congrArg (fun b => Out.ok (D.bl b)) (by decide +kernel))
theorem kw_both_some : dEq (.str "both") (.str "some") = .ok (.bl false) := (dEq_lit ok_both ok_some).trans (congrArg (fun b => Out.ok (D.bl b)) (by decide +kernel))
theorem kn_both_some : dNe (.str "both") (.str "some") = .ok (.bl true) := (dNe_lit ok_both ok_some).trans (congrArg (fun b => Out.ok (D.bl b)) (by decide +kernel))
theorem kw_both_all : dEq (.str "both") (.str "all") = .ok (.bl false) := (dEq_lit ok_both ok_all).trans (congrArg (fun b => Out.ok (D.bl b)) (by decide +kernel))
theorem kn_both_all : dNe (.str "both") (.str "all") = .ok (.bl true) := (dNe_lit ok_both ok_all).trans (congrArg (fun b => Out.ok (D.bl b)) (by decide +kernel))
theorem kw_both_yes : dEq (.str "both") (.str "yes") = .ok (.bl false) := (dEq_lit ok_both ok_yes).trans (congrArg (fun b => Out.ok (D.bl b)) (by decide +kernel))
theorem kn_both_yes : dNe (.str "both") (.str "yes") = .ok (.bl true) := (dNe_lit ok_both ok_yes).trans (congrArg (fun b => Out.ok (D.bl b)) (by decide +kernel))
theorem kw_both_no : dEq (.str "both") (.str "no") = .ok (.bl false) := (dEq_lit ok_both ok_no).trans (congrArg (fun b => Out.ok (D.bl b)) (by decide +kernel))
theorem kn_both_no : dNe (.str "both") (.str "no") = .ok (.bl true) := (dNe_lit ok_both ok_no).trans (congrArg (fun b => Out.ok (D.bl b)) (by decide +kernel))
theorem kw_either_less : dEq (.str "either") (.str "less") = .ok (.bl false) := (dEq_lit ok_either ok_less).trans (congrArg (fun b => Out.ok (D.bl b)) (by decide +kernel))
theorem kn_either_less : dNe (.str "either") (.str "less") = .ok (.bl true) := (dNe_lit ok_either ok_less).trans (congrArg (fun b => Out.ok (D.bl b)) (by decide +kernel))
theorem kw_either_most : dEq (.str "either") (.str "most") = .ok (.bl false) := (dEq_lit ok_either ok_most).trans (congrArg (fun b => Out.ok (D.bl b)) (by decide +kernel))
theorem kn_either_most : dNe (.str "either") (.str "most") = .ok (.bl true) := (dNe_lit ok_either ok_most).trans (congrArg (fun b => Out.ok (D.bl b)) (by decide +kernel))
theorem kw_either_equal : dEq (.str "either") (.str "equal") = .ok (.bl false) := (dEq_lit ok_either ok_equal).trans (congrArg (fun b => Out.ok (D.bl b)) (by decide +kernel))
theorem kn_either_equal : dNe (.str "either") (.str "equal") = .ok (.bl true) := (dNe_lit ok_either ok_equal).trans (congrArg (fun b => Out.ok (D.bl b)) (by decide +kernel))
theorem kw_either_unlike : dEq (.str "either") (.str "unlike") = .ok (.bl false) := (dEq_lit ok_either ok_unlike).trans (congrArg (fun b => Out.ok (D.bl b)) (by decide +kernel))
theorem kn_either_unlike : dNe (.str "either") (.str "unlike") = .ok (.bl true) := (dNe_lit ok_either ok_unlike).trans (congrArg (fun b => Out.ok (D.bl b)) (by decide +kernel))
theorem kw_either_both : dEq (.str "either") (.str "both") = .ok (.bl false) := (dEq_lit ok_either ok_both).trans (congrArg (fun b => Out.ok (D.bl b)) (by decide +kernel))
theorem kn_either_both : dNe (.str "either") (.str "both") = .ok (.bl true) := (dNe_lit ok_either ok_both).trans (congrArg (fun b => Out.ok (D.bl b)) (by decide +kernel))
theorem kw_either_either : dEq (.str "either") (.str "either") = .ok (.bl true) := (dEq_lit ok_either ok_either).trans (congrArg (fun b => Out.ok (D.bl b)) (by decide +kernel))
theorem kn_either_either : dNe (.str "either") (.str "either") = .ok (.bl false) := (dNe_lit ok_either ok_either).trans (congrArg (fun b => Out.ok (D.bl b)) (by decide +kernel))
theorem kw_either_not : dEq (.str "either") (.str "not") = .ok (.bl false) := (dEq_lit ok_either ok_not).trans (congrArg (fun b => Out.ok (D.bl b)) (by decide +kernel))
theorem kn_either_not : dNe (.str "either") (.str "not") = .ok (.bl true) := (dNe_lit ok_either ok_not).trans (congrArg (fun b => Out.ok (D.bl b)) (by decide +kernel))
theorem kw_either_some : dEq (.str "either") (.str "some") = .ok (.bl false) := (dEq_lit ok_either ok_some).trans (congrArg (fun b => Out.ok (D.bl b)) (by decide +kernel))
theorem kn_either_some : dNe (.str "either") (.str "some") = .ok (.bl true) := (dNe_lit ok_either ok_some).trans (congrArg (fun b => Out.ok (D.bl b)) (by decide +kernel))
theorem kw_either_all : dEq (.str "either") (.str "all") = .ok (.bl false) := (dEq_lit ok_either ok_all).trans (congrArg (fun b => Out.ok (D.bl b)) (by decide +kernel))
theorem kn_either_all : dNe (.str "either") (.str "all") = .ok (.bl true) := (dNe_lit ok_either ok_all).trans (congrArg (fun b => Out.ok (D.bl b)) (by decide +kernel))
theorem kw_either_yes : dEq (.str "either") (.str "yes") = .ok (.bl false) := (dEq_lit ok_either ok_yes).trans (congrArg (fun b => Out.ok (D.bl b)) (by decide +kernel))
theorem kn_either_yes : dNe (.str "either") (.str "yes") = .ok (.bl true) := (dNe_lit ok_either ok_yes).trans (congrArg (fun b => Out.ok (D.bl b)) (by decide +kernel))
theorem kw_either_no : dEq (.str "either") (.str "no") = .ok (.bl false) := (dEq_lit ok_either ok_no).trans (congrArg (fun b => Out.ok (D.bl b)) (by decide +kernel))
theorem kn_either_no : dNe (.str "either") (.str "no") = .ok (.bl true) := (dNe_lit ok_either ok_no).trans (congrArg (fun b => Out.ok (D.bl b)) (by decide +kernel))
theorem kw_not_less : dEq (.str "not") (.str "less") = .ok (.bl false) := (dEq_lit ok_not ok_less).trans (congrArg (fun b => Out.ok (D.bl b)) (by decide +kernel))
theorem kn_not_less : dNe (.str "not") (.str "less") = .ok (.bl true) := (dNe_lit ok_not ok_less).trans (congrArg (fun b => Out.ok (D.bl b)) (by decide +kernel))
theorem kw_not_most : dEq (.str "not") (.str "most") = .ok (.bl false) := (dEq_lit ok_not ok_most).trans (congrArg (fun b => Out.ok (D.bl b)) (by decide +kernel))
theorem kn_not_most : dNe (.str "not") (.str "most") = .ok (.bl true) := (dNe_lit ok_not ok_most).trans (congrArg (fun b => Out.ok (D.bl b)) (by decide +kernel))
theorem kw_not_equal : dEq (.str "not") (.str "equal") = .ok (.bl false) := (dEq_lit ok_not ok_equal).trans (congrArg (fun b => Out.ok (D.bl b)) (by decide +kernel))
theorem kn_not_equal : dNe (.str "not") (.str "equal") = .ok (.bl true) := (dNe_lit ok_not ok_equal).trans (congrArg (fun b => Out.ok (D.bl b)) (by decide +kernel))
theorem kw_not_unlike : dEq (.str "not") (.str "unlike") = .ok (.bl false) := (dEq_lit ok_not ok_unlike).trans (congrArg (fun b => Out.ok (D.bl b)) (by decide +kernel))
theorem kn_not_unlike : dNe (.str "not") (.str "unlike") = .ok (.bl true) := (dNe_lit ok_not ok_unlike).trans (congrArg (fun b => Out.ok (D.bl b)) (by decide +kernel))
theorem kw_not_both : dEq (.str "not") (.str "both") = .ok (.bl false) := (dEq_lit ok_not ok_both).trans (congrArg (fun b => Out.ok (D.bl b)) (by decide +kernel))
theorem kn_not_both : dNe (.str "not") (.str "both") = .ok (.bl true) := (dNe_lit ok_not ok_both).trans (congrArg (fun b => Out.ok (D.bl b)) (by decide +kernel))
theorem kw_not_either : dEq (.str "not") (.str "either") = .ok (.bl false) := (dEq_lit ok_not ok_either).trans (congrArg (fun b => Out.ok (D.bl b)) (by decide +kernel))
theorem kn_not_either : dNe (.str "not") (.str "either") = .ok (.bl true) := (dNe_lit ok_not ok_either).trans (congrArg (fun b => Out.ok (D.bl b)) (by decide +kernel))
theorem kw_not_not : dEq (.str "not") (.str "not") = .ok (.bl true) := (dEq_lit ok_not ok_not).trans (congrArg (fun b => Out.ok (D.bl b)) (by decide +kernel))
theorem kn_not_not : dNe (.str "not") (.str "not") = .ok (.bl false) := (dNe_lit ok_not ok_not).trans (congrArg (fun b => Out.ok (D.bl b)) (by decide +kernel))
theorem kw_not_some : dEq (.str "not") (.str "some") = .ok (.bl false) := (dEq_lit ok_not ok_some).trans (congrArg (fun b => Out.ok (D.bl b)) (by decide +kernel))
theorem kn_not_some : dNe (.str "not") (.str "some") = .ok (.bl true) := (dNe_lit ok_not ok_some).trans (congrArg (fun b => Out.ok (D.bl b)) (by decide +kernel))
theorem kw_not_all : dEq (.str "not") (.str "all") = .ok (.bl false) := (dEq_lit ok_not ok_all).trans (congrArg (fun b => Out.ok (D.bl b)) (by decide +kernel))
theorem kn_not_all : dNe (.str "not") (.str "all") = .ok (.bl true) := (dNe_lit ok_not ok_all).trans (congrArg (fun b => Out.ok (D.bl b)) (by decide +kernel))
theorem kw_not_yes : dEq (.str "not") (.str "yes") = .ok (.bl false) := (dEq_lit ok_not ok_yes).trans (congrArg (fun b => Out.ok (D.bl b)) (by decide +kernel))
theorem kn_not_yes : dNe (.str "not") (.str "yes") = .ok (.bl true) := (dNe_lit ok_not ok_yes).trans (congrArg (fun b => Out.ok (D.bl b)) (by decide +kernel))
theorem kw_not_no : dEq (.str "not") (.str "no") = .ok (.bl false) := (dEq_lit ok_not ok_no).trans (congrArg (fun b => Out.ok (D.bl b)) (by decide +kernel))
theorem kn_not_no : dNe (.str "not") (.str "no") = .ok (.bl true) := (dNe_lit ok_not ok_no).trans (congrArg (fun b => Out.ok (D.bl b)) (by decide +kernel))
theorem kw_some_less : dEq (.str "some") (.str "less") = .ok (.bl false) := (dEq_lit ok_some ok_less).trans (congrArg (fun b => Out.ok (D.bl b)) (by decide +kernel))
theorem kn_some_less : dNe (.str "some") (.str "less") = .ok (.bl true) := (dNe_lit ok_some ok_less).trans (congrArg (fun b => Out.ok (D.bl b)) (by decide +kernel))
theorem kw_some_most : dEq (.str "some") (.str "most") = .ok (.bl false) := (dEq_lit ok_some ok_most).trans (congrArg (fun b => Out.ok (D.bl b)) (by decide +kernel))
theorem kn_some_most : dNe (.str "some") (.str "most") = .ok (.bl true) := (dNe_lit ok_some ok_most).trans (congrArg (fun b => Out.ok (D.bl b)) (by decide +kernel))
theorem kw_some_equal : dEq (.str "some") (.str "equal") = .ok (.bl false) := (dEq_lit ok_some ok_equal).trans (congrArg (fun b => Out.ok (D.bl b)) (by decide +kernel))
theorem kn_some_equal : dNe (.str "some") (.str "equal") = .ok (.bl true) := (dNe_lit ok_some ok_equal).trans (congrArg (fun b => Out.ok (D.bl b)) (by decide +kernel))
theorem kw_some_unlike : dEq (.str "some") (.str "unlike") = .ok (.bl false) := (dEq_lit ok_some ok_unlike).trans (congrArg (fun b => Out.ok (D.bl b)) (by decide +kernel))
theorem kn_some_unlike : dNe (.str "some") (.str "unlike") = .ok (.bl true) := (dNe_lit ok_some ok_unlike).trans (congrArg (fun b => Out.ok (D.bl b)) (by decide +kernel))
theorem kw_some_both : dEq (.str "some") (.str "both") = .ok (.bl false) := (dEq_lit ok_some ok_both).trans (congrArg (fun b => Out.ok (D.bl b)) (by decide +kernel))
theorem kn_some_both : dNe (.str "some") (.str "both") = .ok (.bl true) := (dNe_lit ok_some ok_both).trans (congrArg (fun b => Out.ok (D.bl b)) (by decide +kernel))
theorem kw_some_either : dEq (.str "some") (.str "either") = .ok (.bl false) := (dEq_lit ok_some ok_either).trans (congrArg (fun b => Out.ok (D.bl b)) (by decide +kernel))
theorem kn_some_either : dNe (.str "some") (.str "either") = .ok (.bl true) := (dNe_lit ok_some ok_either).trans (congrArg (fun b => Out.ok (D.bl b)) (by decide +kernel))
theorem kw_some_not : dEq (.str "some") (.str "not") = .ok (.bl false) := (dEq_lit ok_some ok_not).trans (congrArg (fun b => Out.ok (D.bl b)) (by decide +kernel))
theorem kn_some_not : dNe (.str "some") (.str "not") = .ok (.bl true) := (dNe_lit ok_some ok_not).trans (congrArg (fun b => Out.ok (D.bl b)) (by decide +kernel))
theorem kw_some_some : dEq (.str "some") (.str "some") = .ok (.bl true) := (dEq_lit ok_some ok_some).trans (congrArg (fun b => Out.ok (D.bl b)) (by decide +kernel))
theorem kn_some_some : dNe (.str "some") (.str "some") = .ok (.bl false) := (dNe_lit ok_some ok_some).trans (congrArg (fun b => Out.ok (D.bl b)) (by decide +kernel))
theorem kw_some_all : dEq (.str "some") (.str "all") = .ok (.bl false) := (dEq_lit ok_some ok_all).trans (congrArg (fun b => Out.ok (D.bl b)) (by decide +kernel))
theorem kn_some_all : dNe (.str "some") (.str "all") = .ok (.bl true) := (dNe_lit ok_some ok_all).trans (congrArg (fun b => Out.ok (D.bl b)) (by decide +kernel))
theorem kw_some_yes : dEq (.str "some") (.str "yes") = .ok (.bl false) := (dEq_lit ok_some ok_yes).trans (congrArg (fun b => Out.ok (D.bl b)) (by decide +kernel))
theorem kn_some_yes : dNe (.str "some") (.str "yes") = .ok (.bl true) := (dNe_lit ok_some ok_yes).trans (congrArg (fun b => Out.ok (D.bl b)) (by decide +kernel))
theorem kw_some_no : dEq (.str "some") (.str "no") = .ok (.bl false) := (dEq_lit ok_some ok_no).trans (congrArg (fun b => Out.ok (D.bl b)) (by decide +kernel))
theorem kn_some_no : dNe (.str "some") (.str "no") = .ok (.bl true) := (dNe_lit ok_some ok_no).trans (congrArg (fun b => Out.ok (D.bl b)) (by decide +kernel))
theorem kw_all_less : dEq (.str "all") (.str "less") = .ok (.bl false) := (dEq_lit ok_all ok_less).trans (congrArg (fun b => Out.ok (D.bl b)) (by decide +kernel))
theorem kn_all_less : dNe (.str "all") (.str "less") = .ok (.bl true) := (dNe_lit ok_all ok_less).trans (congrArg (fun b => Out.ok (D.bl b)) (by decide +kernel))
theorem kw_all_most : dEq (.str "all") (.str "most") = .ok (.bl false) := (dEq_lit ok_all ok_most).trans (congrArg (fun b => Out.ok (D.bl b)) (by decide +kernel))
theorem kn_all_most : dNe (.str "all") (.str "most") = .ok (.bl true) := (dNe_lit ok_all ok_most).trans (congrArg (fun b => Out.ok (D.bl b)) (by decide +kernel))
theorem kw_all_equal : dEq (.str "all") (.str "equal") = .ok (.bl false) := (dEq_lit ok_all ok_equal).trans (congrArg (fun b => Out.ok (D.bl b)) (by decide +kernel))
theorem kn_all_equal : dNe (.str "all") (.str "equal") = .ok (.bl true) := (dNe_lit ok_all ok_equal).trans (congrArg (fun b => Out.ok (D.bl b)) (by decide +kernel))
theorem kw_all_unlike : dEq (.str "all") (.str "unlike") = .ok (.bl false) := (dEq_lit ok_all ok_unlike).trans (congrArg (fun b => Out.ok (D.bl b)) (by decide +kernel))
theorem kn_all_unlike : dNe (.str "all") (.str "unlike") = .ok (.bl true) := (dNe_lit ok_all ok_unlike).trans (congrArg (fun b => Out.ok (D.bl b)) (by decide +kernel))
theorem kw_all_both : dEq (.str "all") (.str "both") = .ok (.bl false) := (dEq_lit ok_all ok_both).trans (congrArg (fun b => Out.ok (D.bl b)) (by decide +kernel))
theorem kn_all_both : dNe (.str "all") (.str "both") = .ok (.bl true) := (dNe_lit ok_all ok_both).trans (congrArg (fun b => Out.ok (D.bl b)) (by decide +kernel))
theorem kw_all_either : dEq (.str "all") (.str "either") = .ok (.bl false) := (dEq_lit ok_all ok_either).trans (congrArg (fun b => Out.ok (D.bl b)) (by decide +kernel))
theorem kn_all_either : dNe (.str "all") (.str "either") = .ok (.bl true) := (dNe_lit ok_all ok_either).trans (congrArg (fun b => Out.ok (D.bl b)) (by decide +kernel))
theorem kw_all_not : dEq (.str "all") (.str "not") = .ok (.bl false) := (dEq_lit ok_all ok_not).trans (congrArg (fun b => Out.ok (D.bl b)) (by decide +kernel))
theorem kn_all_not : dNe (.str "all") (.str "not") = .ok (.bl true) := (dNe_lit ok_all ok_not).trans (congrArg (fun b => Out.ok (D.bl b)) (by decide +kernel))
theorem kw_all_some : dEq (.str "all") (.str "some") = .ok (.bl false) := (dEq_lit ok_all ok_some).trans (congrArg (fun b => Out.ok (D.bl b)) (by decide +kernel))
theorem kn_all_some : dNe (.str "all") (.str "some") = .ok (.bl true) := (dNe_lit ok_all ok_some).trans (congrArg (fun b => Out.ok (D.bl b)) (by decide +kernel))
theorem kw_all_all : dEq (.str "all") (.str "all") = .ok (.bl true) := (dEq_lit ok_all ok_all).trans (congrArg (fun b => Out.ok (D.bl b)) (by decide +kernel))
theorem kn_all_all : dNe (.str "all") (.str "all") = .ok (.bl false) := (dNe_lit ok_all ok_all).trans (congrArg (fun b => Out.ok (D.bl b)) (by decide +kernel))
theorem kw_all_yes : dEq (.str "all") (.str "yes") = .ok (.bl false) := (dEq_lit ok_all ok_yes).trans (congrArg (fun b => Out.ok (D.bl b)) (by decide +kernel))
theorem kn_all_yes : dNe (.str "all") (.str "yes") = .ok (.bl true) := (dNe_lit ok_all ok_yes).trans (congrArg (fun b => Out.ok (D.bl b)) (by decide +kernel))
theorem kw_all_no : dEq (.str "all") (.str "no") = .ok (.bl false) := (dEq_lit ok_all ok_no).trans (congrArg (fun b => Out.ok (D.bl b)) (by decide +kernel))
theorem kn_all_no : dNe (.str "all") (.str "no") = .ok (.bl true) := (dNe_lit ok_all ok_no).trans (congrArg (fun b => Out.ok (D.bl b)) (by decide +kernel))
theorem kw_yes_less : dEq (.str "yes") (.str "less") = .ok (.bl false) := (dEq_lit ok_yes ok_less).trans (congrArg (fun b => Out.ok (D.bl b)) (by decide +kernel))
theorem kn_yes_less : dNe (.str "yes") (.str "less") = .ok (.bl true) := (dNe_lit ok_yes ok_less).trans (congrArg (fun b => Out.ok (D.bl b)) (by decide +kernel))
theorem kw_yes_most : dEq (.str "yes") (.str "most") = .ok (.bl false) := (dEq_lit ok_yes ok_most).trans (congrArg (fun b => Out.ok (D.bl b)) (by decide +kernel))
theorem kn_yes_most : dNe (.str "yes") (.str "most") = .ok (.bl true) := (dNe_lit ok_yes ok_most).trans (congrArg (fun b => Out.ok (D.bl b)) (by decide +kernel))
theorem kw_yes_equal : dEq (.str "yes") (.str "equal") = .ok (.bl false) := (dEq_lit ok_yes ok_equal).trans (congrArg (fun b => Out.ok (D.bl b)) (by decide +kernel))
theorem kn_yes_equal : dNe (.str "yes") (.str "equal") = .ok (.bl true) := (dNe_lit ok_yes ok_equal).trans (congrArg (fun b => Out.ok (D.bl b)) (by decide +kernel))
theorem kw_yes_unlike : dEq (.str "yes") (.str "unlike") = .ok (.bl false) := (dEq_lit ok_yes ok_unlike).trans (congrArg (fun b => Out.ok (D.bl b)) (by decide +kernel))
theorem kn_yes_unlike : dNe (.str "yes") (.str "unlike") = .ok (.bl true) := (dNe_lit ok_yes ok_unlike).trans (congrArg (fun b => Out.ok (D.bl b)) (by decide +kernel))
theorem kw_yes_both : dEq (.str "yes") (.str "both") = .ok (.bl false) := (dEq_lit ok_yes ok_both).trans (congrArg (fun b => Out.ok (D.bl b)) (by decide +kernel))
theorem kn_yes_both : dNe (.str "yes") (.str "both") = .ok (.bl true) := (dNe_lit ok_yes ok_both).trans (congrArg (fun b => Out.ok (D.bl b)) (by decide +kernel))
theorem kw_yes_either : dEq (.str "yes") (.str "either") = .ok (.bl false) := (dEq_lit ok_yes ok_either).trans (congrArg (fun b => Out.ok (D.bl b)) (by decide +kernel))
theorem kn_yes_either : dNe (.str "yes") (.str "either") = .ok (.bl true) := (dNe_lit ok_yes ok_either).trans (congrArg (fun b => Out.ok (D.bl b)) (by decide +kernel))
theorem kw_yes_not : dEq (.str "yes") (.str "not") = .ok (.bl false) := (dEq_lit ok_yes ok_not).trans (congrArg (fun b => Out.ok (D.bl b)) (by decide +kernel))
theorem kn_yes_not : dNe (.str "yes") (.str "not") = .ok (.bl true) := (dNe_lit ok_yes ok_not).trans (congrArg (fun b => Out.ok (D.bl b)) (by decide +kernel))
theorem kw_yes_some : dEq (.str "yes") (.str "some") = .ok (.bl false) := (dEq_lit ok_yes ok_some).trans (congrArg (fun b => Out.ok (D.bl b)) (by decide +kernel))
theorem kn_yes_some : dNe (.str "yes") (.str "some") = .ok (.bl true) := (dNe_lit ok_yes ok_some).trans (congrArg (fun b => Out.ok (D.bl b)) (by decide +kernel))
theorem kw_yes_all : dEq (.str "yes") (.str "all") = .ok (.bl false) := (dEq_lit ok_yes ok_all).trans (congrArg (fun b => Out.ok (D.bl b)) (by decide +kernel))
theorem kn_yes_all : dNe (.str "yes") (.str "all") = .ok (.bl true) := (dNe_lit ok_yes ok_all).trans (congrArg (fun b => Out.ok (D.bl b)) (by decide +kernel))
theorem kw_yes_yes : dEq (.str "yes") (.str "yes") = .ok (.bl true) := (dEq_lit ok_yes ok_yes).trans (congrArg (fun b => Out.ok (D.bl b)) (by decide +kernel))
theorem kn_yes_yes : dNe (.str "yes") (.str "yes") = .ok (.bl false) := (dNe_lit ok_yes ok_yes).trans (congrArg (fun b => Out.ok (D.bl b)) (by decide +kernel))
theorem kw_yes_no : dEq (.str "yes") (.str "no") = .ok (.bl false) := (dEq_lit ok_yes ok_no).trans (congrArg (fun b => Out.ok (D.bl b)) (by decide +kernel))
theorem kn_yes_no : dNe (.str "yes") (.str "no") = .ok (.bl true) := (dNe_lit ok_yes ok_no).trans (congrArg (fun b => Out.ok (D.bl b)) (by decide +kernel))
theorem kw_no_less : dEq (.str "no") (.str "less") = .ok (.bl false) := (dEq_lit ok_no ok_less).trans (congrArg (fun b => Out.ok (D.bl b)) (by decide +kernel))
theorem kn_no_less : dNe (.str "no") (.str "less") = .ok (.bl true) := (dNe_lit ok_no ok_less).trans (congrArg (fun b => Out.ok (D.bl b)) (by decide +kernel))
theorem kw_no_most : dEq (.str "no") (.str "most") = .ok (.bl false) := (dEq_lit ok_no ok_most).trans (congrArg (fun b => Out.ok (D.bl b)) (by decide +kernel))
theorem kn_no_most : dNe (.str "no") (.str "most") = .ok (.bl true) := (dNe_lit ok_no ok_most).trans (congrArg (fun b => Out.ok (D.bl b)) (by decide +kernel))
theorem kw_no_equal : dEq (.str "no") (.str "equal") = .ok (.bl false) := (dEq_lit ok_no ok_equal).trans (congrArg (fun b => Out.ok (D.bl b)) (by decide +kernel))
theorem kn_no_equal : dNe (.str "no") (.str "equal") = .ok (.bl true) := (dNe_lit ok_no ok_equal).trans (congrArg (fun b => Out.ok (D.bl b)) (by decide +kernel))
theorem kw_no_unlike : dEq (.str "no") (.str "unlike") = .ok (.bl false) := (dEq_lit ok_no ok_unlike).trans (congrArg (fun b => Out.ok (D.bl b)) (by decide +kernel))
theorem kn_no_unlike : dNe (.str "no") (.str "unlike") = .ok (.bl true) := (dNe_lit ok_no ok_unlike).trans (congrArg (fun b => Out.ok (D.bl b)) (by decide +kernel))
theorem kw_no_both : dEq (.str "no") (.str "both") = .ok (.bl false) := (dEq_lit ok_no ok_both).trans (congrArg (fun b => Out.ok (D.bl b)) (by decide +kernel))
theorem kn_no_both : dNe (.str "no") (.str "both") = .ok (.bl true) := (dNe_lit ok_no ok_both).trans (congrArg (fun b => Out.ok (D.bl b)) (by decide +kernel))
theorem kw_no_either : dEq (.str "no") (.str "either") = .ok (.bl false) := (dEq_lit ok_no ok_either).trans (congrArg (fun b => Out.ok (D.bl b)) (by decide +kernel))
theorem kn_no_either : dNe (.str "no") (.str "either") = .ok (.bl true) := (dNe_lit ok_no ok_either).trans (congrArg (fun b => Out.ok (D.bl b)) (by decide +kernel))
theorem kw_no_not : dEq (.str "no") (.str "not") = .ok (.bl false) := (dEq_lit ok_no ok_not).trans (congrArg (fun b => Out.ok (D.bl b)) (by decide +kernel))
theorem kn_no_not : dNe (.str "no") (.str "not") = .ok (.bl true) := (dNe_lit ok_no ok_not).trans (congrArg (fun b => Out.ok (D.bl b)) (by decide +kernel))
theorem kw_no_some : dEq (.str "no") (.str "some") = .ok (.bl false) := (dEq_lit ok_no ok_some).trans (congrArg (fun b => Out.ok (D.bl b)) (by decide +kernel))
theorem kn_no_some : dNe (.str "no") (.str "some") = .ok (.bl true) := (dNe_lit ok_no ok_some).trans (congrArg (fun b => Out.ok (D.bl b)) (by decide +kernel))
theorem kw_no_all : dEq (.str "no") (.str "all") = .ok (.bl false) := (dEq_lit ok_no ok_all).trans (congrArg (fun b => Out.ok (D.bl b)) (by decide +kernel))
theorem kn_no_all : dNe (.str "no") (.str "all") = .ok (.bl true) := (dNe_lit ok_no ok_all).trans (congrArg (fun b => Out.ok (D.bl b)) (by decide +kernel))
theorem kw_no_yes : dEq (.str "no") (.str "yes") = .ok (.bl false) := (dEq_lit ok_no ok_yes).trans (congrArg (fun b => Out.ok (D.bl b)) (by decide +kernel))
theorem kn_no_yes : dNe (.str "no") (.str "yes") = .ok (.bl true) := (dNe_lit ok_no ok_yes).trans (congrArg (fun b => Out.ok (D.bl b)) (by decide +kernel))
theorem kw_no_no : dEq (.str "no") (.str "no") = .ok (.bl true) := (dEq_lit ok_no ok_no).trans (congrArg (fun b => Out.ok (D.bl b)) (by decide +kernel))
theorem kn_no_no : dNe (.str "no") (.str "no") = .ok (.bl false) := (dNe_lit ok_no ok_no).trans (congrArg (fun b => Out.ok (D.bl b)) (by decide +kernel))
theorem ki_less : dIn (.str "less") (.tup [.str "less", .str "most", .str "equal", .str "unlike"]) = .ok (.bl true) := (dIn_lit "less" ["less", "most", "equal", "unlike"]).trans (congrArg (fun b => Out.ok (D.bl b)) (by decide +kernel))
theorem ki_most : dIn (.str "most") (.tup [.str "less", .str "most", .str "equal", .str "unlike"]) = .ok (.bl true) := (dIn_lit "most" ["less", "most", "equal", "unlike"]).trans (congrArg (fun b => Out.ok (D.bl b)) (by decide +kernel))
theorem ki_equal : dIn (.str "equal") (.tup [.str "less", .str "most", .str "equal", .str "unlike"]) = .ok (.bl true) := (dIn_lit "equal" ["less", "most", "equal", "unlike"]).trans (congrArg (fun b => Out.ok (D.bl b)) (by decide +kernel))
theorem ki_unlike : dIn (.str "unlike") (.tup [.str "less", .str "most", .str "equal", .str "unlike"]) = .ok (.bl true) := (dIn_lit "unlike" ["less", "most", "equal", "unlike"]).trans (congrArg (fun b => Out.ok (D.bl b)) (by decide +kernel))
theorem ki_both : dIn (.str "both") (.tup [.str "less", .str "most", .str "equal", .str "unlike"]) = .ok (.bl false) := (dIn_lit "both" ["less", "most", "equal", "unlike"]).trans (congrArg (fun b => Out.ok (D.bl b)) (by decide +kernel))
theorem ki_either : dIn (.str "either") (.tup [.str "less", .str "most", .str "equal", .str "unlike"]) = .ok (.bl false) := (dIn_lit "either" ["less", "most", "equal", "unlike"]).trans (congrArg (fun b => Out.ok (D.bl b)) (by decide +kernel))
theorem ki_not : dIn (.str "not") (.tup [.str "less", .str "most", .str "equal", .str "unlike"]) = .ok (.bl false) := (dIn_lit "not" ["less", "most", "equal", "unlike"]).trans (congrArg (fun b => Out.ok (D.bl b)) (by decide +kernel))
theorem ki_some : dIn (.str "some") (.tup [.str "less", .str "most", .str "equal", .str "unlike"]) = .ok (.bl false) := (dIn_lit "some" ["less", "most", "equal", "unlike"]).trans (congrArg (fun b => Out.ok (D.bl b)) (by decide +kernel))
theorem ki_all : dIn (.str "all") (.tup [.str "less", .str "most", .str "equal", .str "unlike"]) = .ok (.bl false) := (dIn_lit "all" ["less", "most", "equal", "unlike"]).trans (congrArg (fun b => Out.ok (D.bl b)) (by decide +kernel))
theorem ki_yes : dIn (.str "yes") (.tup [.str "less", .str "most", .str "equal", .str "unlike"]) = .ok (.bl false) := (dIn_lit "yes" ["less", "most", "equal", "unlike"]).trans (congrArg (fun b => Out.ok (D.bl b)) (by decide +kernel))
theorem ki_no : dIn (.str "no") (.tup [.str "less", .str "most", .str "equal", .str "unlike"]) = .ok (.bl false) := (dIn_lit "no" ["less", "most", "equal", "unlike"]).trans (congrArg (fun b => Out.ok (D.bl b)) (by decide +kernel))
local macro_rules | `(tactic| walk_at "pd") => `(tactic| simp only [sSeq_ap, sIf_ap, sSet_ap, sRet_ap, sExpr_ap, sAsg_ap, sFor_ap, sNx_ap, sBk_ap, sCt_ap, sRetN_ap, eC_ap, eV_0, eV_s, e2_ap, e1_ap, aN_ap, aC_ap, eA_ap, tOf_ap, bAnd_ap, bOr_ap, bNot_ap,
  vAnd_ap, vOr_ap, vNot_ap, eIf_ap, gN_ap, gT_ap, fnM_ap, iSeq_ap, sApp_ap, sPar_ap, iRange3_ap, eL_0, eL_s, gT_lst, nox_ok, nox_stuck, eSl_ap, oN_ap, oI_ap, eSlSt_ap, eS2_ap, eLc_ap, bYes_ap, eGet2_ap, sPut_ap, wipeE_nil, wipeE_cons, dSl_lst, dSl_tup, dSl_scr, cList_lst, cList_tup, cTuple_lst, cTuple_tup, iRange1_ap, iRange2_ap, mkTup_0, mkTup_1, mkTup_2, mkTup_3, mkTup_4, mkLst_0, mkLst_1, mkLst_2, mkLst_3, mkLst_4, dAdd_int, dSub_int, dNeg_int, dLt_int, dLe_int, dGt_int, dGe_int, dEq_int, dNe_int, cLen_scr, cLen_lst, cLen_tup, cInt_bl, cInt_int, cMax_int, cMin_int, cAbs_int, cIsi_int, cIsi_int_bool,
  andThen_ite, turn_ite, res_ite, bind_ite, oS_ite, turn_nx, turn_ct, turn_bk, turn_rt, turn_ex, turn_stuck, res_rt, res_nx, res_ex, decide_eq_true_eq,
  oS_ok, oS_exc, oS_stuck, Out.bind_ok, Out.bind_exc, Out.bind_stuck, andThen_nx, andThen_rt, andThen_bk, andThen_ct, andThen_ex, andThen_stuck,
  List.length_cons, List.length_nil, List.map_cons, List.map_nil, List.replicate_succ, List.replicate_zero, List.cons_append, List.nil_append, List.set_cons_zero, List.set_cons_succ, List.zip_cons_cons, List.zip_nil_right, List.foldl_cons, List.foldl_nil,
  Nat.reduceAdd, Nat.reduceSub, Nat.zero_add, if_true, if_false, ite_true, ite_false, Bool.false_eq_true, reduceIte, decide_eq_true_eq, decide_true, decide_false, Bool.not_true, Bool.not_false])
local macro_rules | `(tactic| walk_at "pda") => `(tactic| simp only [*, sSeq_ap, sIf_ap, sSet_ap, sRet_ap, sExpr_ap, sAsg_ap, sFor_ap, sNx_ap, sBk_ap, sCt_ap, sRetN_ap, eC_ap, eV_0, eV_s, e2_ap, e1_ap, aN_ap, aC_ap, eA_ap, tOf_ap, bAnd_ap, bOr_ap, bNot_ap,
  vAnd_ap, vOr_ap, vNot_ap, eIf_ap, gN_ap, gT_ap, fnM_ap, iSeq_ap, sApp_ap, sPar_ap, iRange3_ap, eL_0, eL_s, gT_lst, nox_ok, nox_stuck, eSl_ap, oN_ap, oI_ap, eSlSt_ap, eS2_ap, eLc_ap, bYes_ap, eGet2_ap, sPut_ap, wipeE_nil, wipeE_cons, dSl_lst, dSl_tup, dSl_scr, cList_lst, cList_tup, cTuple_lst, cTuple_tup, iRange1_ap, iRange2_ap, mkTup_0, mkTup_1, mkTup_2, mkTup_3, mkTup_4, mkLst_0, mkLst_1, mkLst_2, mkLst_3, mkLst_4, dAdd_int, dSub_int, dNeg_int, dLt_int, dLe_int, dGt_int, dGe_int, dEq_int, dNe_int, cLen_scr, cLen_lst, cLen_tup, cInt_bl, cInt_int, cMax_int, cMin_int, cAbs_int, cIsi_int, cIsi_int_bool,
  andThen_ite, turn_ite, res_ite, bind_ite, oS_ite, turn_nx, turn_ct, turn_bk, turn_rt, turn_ex, turn_stuck, res_rt, res_nx, res_ex, decide_eq_true_eq,
  oS_ok, oS_exc, oS_stuck, Out.bind_ok, Out.bind_exc, Out.bind_stuck, andThen_nx, andThen_rt, andThen_bk, andThen_ct, andThen_ex, andThen_stuck,
  List.length_cons, List.length_nil, List.map_cons, List.map_nil, List.replicate_succ, List.replicate_zero, List.cons_append, List.nil_append, List.set_cons_zero, List.set_cons_succ, List.zip_cons_cons, List.zip_nil_right, List.foldl_cons, List.foldl_nil,
  Nat.reduceAdd, Nat.reduceSub, Nat.zero_add, if_true, if_false, ite_true, ite_false, Bool.false_eq_true, reduceIte, decide_eq_true_eq, decide_true, decide_false, Bool.not_true, Bool.not_false])
local macro_rules | `(tactic| walk_at "wk") => `(tactic| simp only [chk_bind, oS_chk, chkS_andThen, chkS_turn, chkS_res, chk_nox, cont_chkS, cont_nx, cont_ct, cont_rt, cont_bk, cont_ite, chk_true, chkS_true, mul_chk, div_chk, mod_chk, p2, p3, p4, p5, p6, p7, p8, p9, p10, p11, p12, p13, p14, p15, p16, p18, p20, p22, p24, p25, p26, p27, p28, p29, p30, p35, p40, p60, rng1_chk, rng2_chk, ixt0, ixt1, ixt2, ixt3, ixl0, ixl1, ixl2, ixl3, sForR_ap, sRow_ap, eD_0, eD_s, asL_none, asL_some, sSeq_ap, sIf_ap, sSet_ap, sRet_ap, sExpr_ap, sAsg_ap, sFor_ap, sNx_ap, sBk_ap, sCt_ap, sRetN_ap, eC_ap, eV_0, eV_s, e2_ap, e1_ap, aN_ap, aC_ap, eA_ap, tOf_ap, bAnd_ap, bOr_ap, bNot_ap,
  vAnd_ap, vOr_ap, vNot_ap, eIf_ap, gN_ap, gT_ap, fnM_ap, iSeq_ap, sApp_ap, sPar_ap, iRange3_ap, eL_0, eL_s, gT_lst, nox_ok, nox_stuck, eSl_ap, oN_ap, oI_ap, eSlSt_ap, eS2_ap, eLc_ap, bYes_ap, eGet2_ap, sPut_ap, wipeE_nil, wipeE_cons, dSl_lst, dSl_tup, dSl_scr, cList_lst, cList_tup, cTuple_lst, cTuple_tup, iRange1_ap, iRange2_ap, mkTup_0, mkTup_1, mkTup_2, mkTup_3, mkTup_4, mkLst_0, mkLst_1, mkLst_2, mkLst_3, mkLst_4, dAdd_int, dSub_int, dNeg_int, dLt_int, dLe_int, dGt_int, dGe_int, dEq_int, dNe_int, cLen_scr, cLen_lst, cLen_tup, cInt_bl, cInt_int, cMax_int, cMin_int, cAbs_int, cIsi_int, cIsi_int_bool,
  andThen_ite, turn_ite, res_ite, bind_ite, oS_ite, turn_nx, turn_ct, turn_bk, turn_rt, turn_ex, turn_stuck, res_rt, res_nx, res_ex, decide_eq_true_eq,
  oS_ok, oS_exc, oS_stuck, Out.bind_ok, Out.bind_exc, Out.bind_stuck, andThen_nx, andThen_rt, andThen_bk, andThen_ct, andThen_ex, andThen_stuck,
  List.length_cons, List.length_nil, List.map_cons, List.map_nil, List.replicate_succ, List.replicate_zero, List.cons_append, List.nil_append, List.set_cons_zero, List.set_cons_succ, List.zip_cons_cons, List.zip_nil_right, List.foldl_cons, List.foldl_nil,
  Nat.reduceAdd, Nat.reduceSub, Nat.zero_add, if_true, if_false, ite_true, ite_false, Bool.false_eq_true, reduceIte, decide_eq_true_eq, decide_true, decide_false, Bool.not_true, Bool.not_false])
local macro_rules | `(tactic| walk_at "wka") => `(tactic| simp only [*, chk_bind, oS_chk, chkS_andThen, chkS_turn, chkS_res, chk_nox, cont_chkS, cont_nx, cont_ct, cont_rt, cont_bk, cont_ite, chk_true, chkS_true, mul_chk, div_chk, mod_chk, p2, p3, p4, p5, p6, p7, p8, p9, p10, p11, p12, p13, p14, p15, p16, p18, p20, p22, p24, p25, p26, p27, p28, p29, p30, p35, p40, p60, rng1_chk, rng2_chk, ixt0, ixt1, ixt2, ixt3, ixl0, ixl1, ixl2, ixl3, sForR_ap, sRow_ap, eD_0, eD_s, asL_none, asL_some, sSeq_ap, sIf_ap, sSet_ap, sRet_ap, sExpr_ap, sAsg_ap, sFor_ap, sNx_ap, sBk_ap, sCt_ap, sRetN_ap, eC_ap, eV_0, eV_s, e2_ap, e1_ap, aN_ap, aC_ap, eA_ap, tOf_ap, bAnd_ap, bOr_ap, bNot_ap,
  vAnd_ap, vOr_ap, vNot_ap, eIf_ap, gN_ap, gT_ap, fnM_ap, iSeq_ap, sApp_ap, sPar_ap, iRange3_ap, eL_0, eL_s, gT_lst, nox_ok, nox_stuck, eSl_ap, oN_ap, oI_ap, eSlSt_ap, eS2_ap, eLc_ap, bYes_ap, eGet2_ap, sPut_ap, wipeE_nil, wipeE_cons, dSl_lst, dSl_tup, dSl_scr, cList_lst, cList_tup, cTuple_lst, cTuple_tup, iRange1_ap, iRange2_ap, mkTup_0, mkTup_1, mkTup_2, mkTup_3, mkTup_4, mkLst_0, mkLst_1, mkLst_2, mkLst_3, mkLst_4, dAdd_int, dSub_int, dNeg_int, dLt_int, dLe_int, dGt_int, dGe_int, dEq_int, dNe_int, cLen_scr, cLen_lst, cLen_tup, cInt_bl, cInt_int, cMax_int, cMin_int, cAbs_int, cIsi_int, cIsi_int_bool,
  andThen_ite, turn_ite, res_ite, bind_ite, oS_ite, turn_nx, turn_ct, turn_bk, turn_rt, turn_ex, turn_stuck, res_rt, res_nx, res_ex, decide_eq_true_eq,
  oS_ok, oS_exc, oS_stuck, Out.bind_ok, Out.bind_exc, Out.bind_stuck, andThen_nx, andThen_rt, andThen_bk, andThen_ct, andThen_ex, andThen_stuck,
  List.length_cons, List.length_nil, List.map_cons, List.map_nil, List.replicate_succ, List.replicate_zero, List.cons_append, List.nil_append, List.set_cons_zero, List.set_cons_succ, List.zip_cons_cons, List.zip_nil_right, List.foldl_cons, List.foldl_nil,
  Nat.reduceAdd, Nat.reduceSub, Nat.zero_add, if_true, if_false, ite_true, ite_false, Bool.false_eq_true, reduceIte, decide_eq_true_eq, decide_true, decide_false, Bool.not_true, Bool.not_false])
local macro_rules | `(tactic| walk_at "go") => `(tactic| repeat (first | refine chk_go (by first | assumption | decide | omega | exact cmul_sz (by assumption) (by assumption) (by decide)) ?_ | refine chkS_go (by first | assumption | decide | omega | exact cmul_sz (by assumption) (by assumption) (by decide)) ?_ | walk_at "wka"))
local macro_rules | `(tactic| walk_at "kw") => `(tactic| simp only [kw_less_less, kw_less_most, kw_less_equal, kw_less_unlike, kw_less_both, kw_less_either, kw_less_not, kw_less_some, kw_less_all, kw_less_yes, kw_less_no, kw_most_less, kw_most_most, kw_most_equal, kw_most_unlike, kw_most_both, kw_most_either, kw_most_not, kw_most_some, kw_most_all, kw_most_yes, kw_most_no, kw_equal_less, kw_equal_most, kw_equal_equal, kw_equal_unlike, kw_equal_both, kw_equal_either, kw_equal_not, kw_equal_some, kw_equal_all, kw_equal_yes, kw_equal_no, kw_unlike_less, kw_unlike_most, kw_unlike_equal, kw_unlike_unlike, kw_unlike_both, kw_unlike_either, kw_unlike_not, kw_unlike_some, kw_unlike_all, kw_unlike_yes, kw_unlike_no, kw_both_less, kw_both_most, kw_both_equal, kw_both_unlike, kw_both_both, kw_both_either, kw_both_not, kw_both_some, kw_both_all, kw_both_yes, kw_both_no, kw_either_less, kw_either_most, kw_either_equal, kw_either_unlike, kw_either_both, kw_either_either, kw_either_not, kw_either_some, kw_either_all, kw_either_yes, kw_either_no, kw_not_less, kw_not_most, kw_not_equal, kw_not_unlike, kw_not_both, kw_not_either, kw_not_not, kw_not_some, kw_not_all, kw_not_yes, kw_not_no, kw_some_less, kw_some_most, kw_some_equal, kw_some_unlike, kw_some_both, kw_some_either, kw_some_not, kw_some_some, kw_some_all, kw_some_yes, kw_some_no, kw_all_less, kw_all_most, kw_all_equal, kw_all_unlike, kw_all_both, kw_all_either, kw_all_not, kw_all_some, kw_all_all, kw_all_yes, kw_all_no, kw_yes_less, kw_yes_most, kw_yes_equal, kw_yes_unlike, kw_yes_both, kw_yes_either, kw_yes_not, kw_yes_some, kw_yes_all, kw_yes_yes, kw_yes_no, kw_no_less, kw_no_most, kw_no_equal, kw_no_unlike, kw_no_both, kw_no_either, kw_no_not, kw_no_some, kw_no_all, kw_no_yes, kw_no_no, kn_less_less, kn_less_most, kn_less_equal, kn_less_unlike, kn_less_both, kn_less_either, kn_less_not, kn_less_some, kn_less_all, kn_less_yes, kn_less_no, kn_most_less, kn_most_most, kn_most_equal, kn_most_unlike, kn_most_both, kn_most_either, kn_most_not, kn_most_some, kn_most_all, kn_most_yes, kn_most_no, kn_equal_less, kn_equal_most, kn_equal_equal, kn_equal_unlike, kn_equal_both, kn_equal_either, kn_equal_not, kn_equal_some, kn_equal_all, kn_equal_yes, kn_equal_no, kn_unlike_less, kn_unlike_most, kn_unlike_equal, kn_unlike_unlike, kn_unlike_both, kn_unlike_either, kn_unlike_not, kn_unlike_some, kn_unlike_all, kn_unlike_yes, kn_unlike_no, kn_both_less, kn_both_most, kn_both_equal, kn_both_unlike, kn_both_both, kn_both_either, kn_both_not, kn_both_some, kn_both_all, kn_both_yes, kn_both_no, kn_either_less, kn_either_most, kn_either_equal, kn_either_unlike, kn_either_both, kn_either_either, kn_either_not, kn_either_some, kn_either_all, kn_either_yes, kn_either_no, kn_not_less, kn_not_most, kn_not_equal, kn_not_unlike, kn_not_both, kn_not_either, kn_not_not, kn_not_some, kn_not_all, kn_not_yes, kn_not_no, kn_some_less, kn_some_most, kn_some_equal, kn_some_unlike, kn_some_both, kn_some_either, kn_some_not, kn_some_some, kn_some_all, kn_some_yes, kn_some_no, kn_all_less, kn_all_most, kn_all_equal, kn_all_unlike, kn_all_both, kn_all_either, kn_all_not, kn_all_some, kn_all_all, kn_all_yes, kn_all_no, kn_yes_less, kn_yes_most, kn_yes_equal, kn_yes_unlike, kn_yes_both, kn_yes_either, kn_yes_not, kn_yes_some, kn_yes_all, kn_yes_yes, kn_yes_no, kn_no_less, kn_no_most, kn_no_equal, kn_no_unlike, kn_no_both, kn_no_either, kn_no_not, kn_no_some, kn_no_all, kn_no_yes, kn_no_no, ki_less, ki_most, ki_equal, ki_unlike, ki_both, ki_either, ki_not, ki_some, ki_all, ki_yes, ki_no])
local macro_rules | `(tactic| walk_at "gos") => `(tactic| repeat (first | refine chk_go (by first | with_reducible assumption | decide | omega | exact cmul_sz (by with_reducible assumption) (by with_reducible assumption) (by decide) | assumption) ?_ | refine chkS_go (by first | with_reducible assumption | decide | omega | exact cmul_sz (by with_reducible assumption) (by with_reducible assumption) (by decide) | assumption) ?_ | walk_at "wka" | walk_at "kw" | simp only [sLM_ap, lmExtend_tup, lmExtend_lst, lmInsert_ap, sDPop_ap, eDisp_ap, pC_ap, pN_ap, eSlS2_ap]))
abbrev S (l : List Nat) : Str := ⟨l.toArray⟩
theorem S_list (l : List Nat) : (S l).cps.toList = l := rfl
theorem S_len (l : List Nat) : (S l).length = l.length := by show l.toArray.size = _; simp
theorem S_app (a b : List Nat) : S a ++ S b = S (a ++ b) := by
  show Str.append _ _ = _
  unfold Str.append
  simp
theorem S_inj {a b : List Nat} : S a = S b ↔ a = b := by
  constructor
  · intro h
    have := congrArg (fun s : Str => s.cps.toList) h
    simpa using this
  · intro h; rw [h]
theorem S_beq (a b : List Nat) : (S a == S b) = decide (a = b) := by
  by_cases h : a = b
  · subst h; simp
  · rw [decide_eq_false h]
    exact beq_eq_false_iff_ne.mpr fun z => h (S_inj.mp z)
theorem dAdd_S {a b : List Nat} (h : a.length + b.length ≤ 16777216) : dAdd (.str (S a)) (.str (S b)) = .ok (.str (S (a ++ b))) := by
  show ((Out.stuck : Out D).or ((dAddS (.str (S a)) (.str (S b))).or _)) = _
  have e : dAddS (.str (S a)) (.str (S b)) = .ok (.str (S (a ++ b))) := by
    show chk _ (Out.ok (D.str (S a ++ S b))) = _
    rw [S_app]
    exact chk_pos (by rw [S_len, S_len]; exact h)
  rw [e]; rfl
theorem dIx_S {l : List Nat} {k : Nat} {c : Nat} (h : l[k]? = some c) (z : l.length ≤ 16777216) : dIx (.str (S l)) (.int k) = .ok (.str (S [c])) := by
  show chk _ (match atI (S l).cps.toList (k : Nat) with | some c => Out.ok (D.str ⟨#[c]⟩) | none => .stuck) = _
  rw [S_list, atI_nat h]
  exact chk_pos (by rw [S_len]; exact z)
theorem dSl_S {l : List Nat} (z : l.length ≤ 16777216) (lo hi : Option Int) : dSl (.str (S l)) lo hi = .ok (.str (S (cutD l lo hi))) := by
  have e := dSl_str (z := S l) (by rw [S_len]; exact z) lo hi
  rw [e]
  have : cutS (S l) lo hi = S (cutD l lo hi) := by
    unfold cutS cutD
    rw [S_len]
  rw [this]
theorem cutD_to {α : Type} (l : List α) {k : Nat} (h : k ≤ l.length) : cutD l none (some (k : Int)) = l.take k := by
  unfold cutD
  rw [HT.sIx_none, HT.sIx_nat, List.drop_zero, Nat.sub_zero, Nat.min_eq_left h]
theorem cutD_from {α : Type} (l : List α) {k : Nat} (h : k ≤ l.length) : cutD l (some (k : Int)) none = l.drop k := by
  unfold cutD
  rw [HT.sIx_none, HT.sIx_nat, Nat.min_eq_left h]
  exact List.take_of_length_le (by rw [List.length_drop]; exact Nat.le_refl _)
def abc : List Nat := [97, 98, 99, 100, 101, 102, 103, 104, 105, 106, 107, 108, 109, 110, 111, 112, 113, 114, 115, 116, 117, 118, 119, 120, 121, 122]
theorem abc_str : Str.ofString "abcdefghijklmnopqrstuvwxyz" = S abc := by decide +kernel
theorem abc_at {i : Int} (h0 : 0 ≤ i) (h1 : i < 26) : dIx (.str (S abc)) (.int i) = .ok (.str (S [97 + i.toNat])) := by
  have e : i = (i.toNat : Int) := by omega
  have hl : i.toNat < 26 := by omega
  rw [e]
  generalize i.toNat = k at hl
  rw [Int.toNat_natCast]
  refine dIx_S ?_ (by decide)
  have : ∀ k : Nat, k < 26 → abc[k]? = some (97 + k) := by decide
  exact this k hl
structure Nm (l : List Nat) : Prop where
  pos : 1 ≤ l.length
  len : l.length ≤ 10
  let_ : ∀ c ∈ l, 97 ≤ c ∧ c ≤ 122
def words : List (List Nat) := [[115, 111, 109, 101], [97, 108, 108], [97, 110, 100], [111, 114], [110, 111, 116], [121, 101, 115], [110, 111]]
def fit (l : List Nat) : List Nat := if l ∈ words then l ++ [113] else l
section
variable {κ ν : Type} [DecidableEq κ]
def put : List (κ × ν) → κ → ν → List (κ × ν)
  | [], m, z => [(m, z)]
  | q :: l, m, z => if q.1 = m then (m, z) :: l else q :: put l m z
end
abbrev Pr := List Nat × Int
abbrev Mn := List Pr
def encP (p : Pr) : D := .tup [.str (S p.1), .int p.2]
def encM (m : Mn) : D := .tup (m.map encP)
structure Mono (most : Int) (m : Mn) : Prop where
  nm : ∀ p ∈ m, Nm p.1 ∧ 1 ≤ p.2 ∧ p.2 ≤ most
  up : m.Pairwise fun p q => p.1 < q.1
  few : m.length ≤ 1000
theorem strOk_nm {l : List Nat} (h : Nm l) : PyData.strOk (S l) = true := by
  unfold PyData.strOk
  show (l.toArray.all fun x => decide (x < 0x110000)) = true
  rw [List.all_toArray, List.all_eq_true]
  intro c hc
  have := h.let_ c hc
  exact decide_eq_true (by omega)
theorem toPy_P (p : Pr) : toPy (encP p) = .tuple [.str (S p.1), .int p.2] := rfl
theorem toPys_map (m : Mn) : toPys (m.map encP) = m.map fun p => .tuple [.str (S p.1), .int p.2] := by
  induction m with
  | nil => rfl
  | cons p m ih => simp only [List.map_cons, toPys, ih]; rfl
theorem toPy_M (m : Mn) : toPy (encM m) = .tuple (m.map fun p => .tuple [.str (S p.1), .int p.2]) := by
  show PyData.tuple (toPys _) = _
  rw [toPys_map]
theorem depth_Ms : ∀ m : Mn, PyData.depthAll (m.map fun p => PyData.tuple [.str (S p.1), .int p.2]) ≤ 1
  | [] => by simp [PyData.depthAll]
  | p :: m => by
    have := depth_Ms m
    have e : (PyData.tuple [.str (S p.1), .int p.2]).depth = 1 := rfl
    simp only [List.map_cons, PyData.depthAll, e]
    omega
theorem depth_M (m : Mn) : (toPy (encM m)).depth ≤ 2 := by
  rw [toPy_M]
  have := depth_Ms m
  simp only [PyData.depth]
  omega
theorem keys_Ms : ∀ m : Mn, (∀ p ∈ m, Nm p.1) → keysP (m.map fun p => PyData.tuple [.str (S p.1), .int p.2]) = true
  | [], _ => rfl
  | p :: m, h => by
    simp only [List.map_cons, keysP, keyP, Bool.and_true, Bool.and_eq_true]
    exact ⟨strOk_nm (h p List.mem_cons_self), keys_Ms m fun q hq => h q (List.mem_cons_of_mem _ hq)⟩
abbrev Tm := Mn × Int
def encQ (q : Tm) : D := .tup [encM q.1, .int q.2]
def ltM (a b : Mn) : Bool := dataLt (toPy (encM a)) (toPy (encM b))
structure Form (most : Int) (f : List Tm) : Prop where
  mono : ∀ q ∈ f, Mono most q.1
  nz : ∀ q ∈ f, q.2 ≠ 0
  up : f.Pairwise fun a b => ltM a.1 b.1 = true
theorem dep_Q : ∀ (ps : List Tm), PyData.depthAll (toPys (ps.map encQ)) ≤ 3
  | [] => by simp [toPys, PyData.depthAll]
  | q :: ps => by
    have e : toPys ((q :: ps).map encQ) = .tuple [toPy (encM q.1), .int q.2] :: toPys (ps.map encQ) := rfl
    have h1 := dep_Q ps
    have h2 := depth_M q.1
    rw [e]
    simp only [PyData.depthAll, PyData.depth]
    omega
section
variable (pt : List Nat → Int)
end
def encN (n : List Nat) : D := .str (S n)
theorem dAdd_L {xs ys : List D} (h : xs.length + ys.length ≤ 16777216) : dAdd (.lst xs) (.lst ys) = .ok (.lst (xs ++ ys)) := by
  show ((Out.stuck : Out D).or ((Out.stuck : Out D).or ((Out.stuck : Out D).or (dAddL (.lst xs) (.lst ys))))) = _
  have e : dAddL (.lst xs) (.lst ys) = .ok (.lst (xs ++ ys)) := chk_pos h
  rw [e]; rfl
structure Ok (xs : List (List Nat)) (most : Int) (k b : Nat) (f : List Tm) : Prop where
  mono : ∀ q ∈ f, Mono most q.1
  nin : ∀ q ∈ f, ∀ p ∈ q.1, p.1 ∈ xs
  few : ∀ q ∈ f, q.1.length ≤ k
  sz : ∀ q ∈ f, Sz b q.2
theorem cell_any (ns : List Int) (k : Nat) : ∃ c, m__law_cell [.scr ns, .int k] = .ok (.int c) ∧ 0 ≤ c := by
  have e3 := fun i => dMod_int (i := i) (j := 1000000000000000000000000000000000000000000000000000000000000) (by decide)
  have e4 := p60
  by_cases h : k < ns.length
  · have e1 : dIx (.scr ns) (.int k) = .ok (.int ns[k]) := dIx_scr (by simp [h])
    have e5 : (k : Int) < (ns.length : Nat) := by omega
    refine ⟨_, ?_, Int.emod_nonneg ns[k] (b := 1000000000000000000000000000000000000000000000000000000000000) (by decide)⟩
    unfold m__law_cell b__law_cell
    walk_at "pda"
  · have e5 : ¬ (k : Int) < (ns.length : Nat) := by omega
    refine ⟨0, ?_, Int.le_refl _⟩
    unfold m__law_cell b__law_cell
    walk_at "pda"
theorem Ok.up {xs : List (List Nat)} {most : Int} {k b c : Nat} {f : List Tm} (h : Ok xs most k b f) (l : b ≤ c) : Ok xs most k c f := ⟨h.mono, h.nin, h.few, fun q hq => (h.sz q hq).mono l⟩
theorem Ok.app {xs : List (List Nat)} {most : Int} {k b : Nat} {f g : List Tm} (h : Ok xs most k b f) (i : Ok xs most k b g) : Ok xs most k b (f ++ g) :=
  ⟨fun q hq => (List.mem_append.mp hq).elim (h.mono q) (i.mono q), fun q hq => (List.mem_append.mp hq).elim (h.nin q) (i.nin q), fun q hq => (List.mem_append.mp hq).elim (h.few q) (i.few q), fun q hq => (List.mem_append.mp hq).elim (h.sz q) (i.sz q)⟩
theorem Ok.neg {xs : List (List Nat)} {most : Int} {k b : Nat} {f : List Tm} (h : Ok xs most k b f) : Ok xs most k b (f.map fun q => (q.1, 0 - q.2)) := by
  refine ⟨fun q hq => ?_, fun q hq => ?_, fun q hq => ?_, fun q hq => ?_⟩ <;> obtain ⟨r, hr, rfl⟩ := List.mem_map.mp hq
  · exact h.mono r hr
  · exact h.nin r hr
  · exact h.few r hr
  · have := (h.sz r hr).neg
    rw [← Int.zero_sub] at this
    exact this
theorem Ok.nn {xs : List (List Nat)} {most : Int} {k b : Nat} {f : List Tm} (h : Ok xs most k b f) : ∀ q ∈ f, ∀ p ∈ q.1, 0 ≤ p.2 := fun q hq p hp => by
  have := ((h.mono q hq).nm p hp).2.1
  omega
section
variable {κ ν : Type} [DecidableEq κ] {ek : κ → D} {ev : ν → D}
end
noncomputable def sortN (l : List (List Nat)) : List (List Nat) := l.mergeSort (dataLe false fun k => PyData.str (S k))
def allP (f : List Tm) : List Pr := f.flatMap (·.1)
def addN (l : List (List Nat × Bool)) (p : Pr) : List (List Nat × Bool) := put l p.1 true
def nmsL (ps : List Pr) : List (List Nat × Bool) := ps.foldl addN []
noncomputable def namesOf (f : List Tm) : List (List Nat) := sortN ((nmsL (allP f)).map (·.1))
def restOf (m : Mn) (x : List Nat) : Mn := m.filter fun p => !decide (p.1 = x)
theorem Mono.rest {most : Int} {m : Mn} (h : Mono most m) (x : List Nat) : Mono most (restOf m x) :=
  ⟨fun p hp => h.nm p (List.mem_filter.mp hp).1, h.up.filter _, Nat.le_trans (List.length_filter_le _ _) h.few⟩
namespace RR
abbrev Sq := Nat → Rat
def Pos (f : Sq) : Prop := ∃ e : Rat, 0 < e ∧ ∃ N, ∀ n, N ≤ n → e ≤ f n
def Null (f : Sq) : Prop := ∀ e : Rat, 0 < e → ∃ N, ∀ n, N ≤ n → -e ≤ f n ∧ f n ≤ e
def Bd (f : Sq) : Prop := ∃ b : Rat, 0 < b ∧ ∀ n, -b ≤ f n ∧ f n ≤ b
theorem Pos.add {f g : Sq} (hf : Pos f) (hg : Pos g) : Pos fun n => f n + g n := by
  obtain ⟨e, he, N, h⟩ := hf
  obtain ⟨d, hd, M, k⟩ := hg
  refine ⟨e + d, by grind, max N M, fun n hn => ?_⟩
  have := h n (by omega)
  have := k n (by omega)
  grind
theorem Pos.mul {f g : Sq} (hf : Pos f) (hg : Pos g) : Pos fun n => f n * g n := by
  obtain ⟨e, he, N, h⟩ := hf
  obtain ⟨d, hd, M, k⟩ := hg
  refine ⟨e * d, Rat.mul_pos he hd, max N M, fun n hn => ?_⟩
  have h1 := h n (by omega)
  have h2 := k n (by omega)
  have h3 : 0 ≤ (f n - e) * d := Rat.mul_nonneg (by grind) (by grind)
  have h4 : 0 ≤ f n * (g n - d) := Rat.mul_nonneg (by grind) (by grind)
  grind
theorem Null.add {f g : Sq} (hf : Null f) (hg : Null g) : Null fun n => f n + g n := fun e he => by
  obtain ⟨N, h⟩ := hf (e / 2) (by grind)
  obtain ⟨M, k⟩ := hg (e / 2) (by grind)
  refine ⟨max N M, fun n hn => ?_⟩
  have := h n (by omega)
  have := k n (by omega)
  grind
theorem Pos.null {f g : Sq} (hf : Pos f) (hg : Null g) : Pos fun n => f n + g n := by
  obtain ⟨e, he, N, h⟩ := hf
  obtain ⟨M, k⟩ := hg (e / 2) (by grind)
  refine ⟨e / 2, by grind, max N M, fun n hn => ?_⟩
  have := h n (by omega)
  have := k n (by omega)
  grind
theorem Pos.not_null {f : Sq} (hf : Pos f) (hg : Null f) : False := by
  obtain ⟨e, he, N, h⟩ := hf
  obtain ⟨M, k⟩ := hg (e / 2) (by grind)
  have := h (max N M) (by omega)
  have := k (max N M) (by omega)
  grind
end RR
namespace RR
theorem root_ex (m : Nat) : ∃ k : Nat, k * k ≤ m ∧ m < (k + 1) * (k + 1) := by
  induction m with
  | zero => exact ⟨0, by decide, by decide⟩
  | succ m ih =>
    obtain ⟨k, h1, h2⟩ := ih
    by_cases c : m + 1 < (k + 1) * (k + 1)
    · exact ⟨k, by omega, c⟩
    · refine ⟨k + 1, by omega, ?_⟩
      have : (k + 1) * (k + 1) < (k + 1 + 1) * (k + 1 + 1) := Nat.mul_lt_mul'' (by omega) (by omega)
      omega
noncomputable def rt (m : Nat) : Nat := Classical.choose (root_ex m)
theorem rt_le (m : Nat) : rt m * rt m ≤ m := (Classical.choose_spec (root_ex m)).1
theorem rt_lt (m : Nat) : m < (rt m + 1) * (rt m + 1) := (Classical.choose_spec (root_ex m)).2
noncomputable def sq (r : Nat) : Sq := fun n => (rt (r * ((n + 1) * (n + 1))) : Rat) / ((n + 1 : Nat) : Rat)
theorem arch (e : Rat) (he : 0 < e) (c : Rat) : ∃ N : Nat, ∀ n : Nat, N ≤ n → c ≤ e * ((n + 1 : Nat) : Rat) := by
  refine ⟨(c / e).ceil.toNat, fun n hn => ?_⟩
  have h1 : c / e ≤ ((c / e).ceil : Rat) := Rat.le_ceil
  have h2 : (c / e).ceil ≤ ((n + 1 : Nat) : Int) := by omega
  have h3 : ((c / e).ceil : Rat) ≤ (((n + 1 : Nat) : Int) : Rat) := by exact_mod_cast h2
  have h4 : (((n + 1 : Nat) : Int) : Rat) = ((n + 1 : Nat) : Rat) := rfl
  have h5 : c / e ≤ ((n + 1 : Nat) : Rat) := by rw [← h4]; exact Rat.le_trans h1 h3
  have h6 : c = e * (c / e) := by grind
  rw [h6]
  exact Rat.mul_le_mul_of_nonneg_left h5 (by grind)
end RR
namespace RR
theorem sq_mul (r n : Nat) : sq r n * ((n + 1 : Nat) : Rat) = (rt (r * ((n + 1) * (n + 1))) : Rat) := by
  unfold sq
  have : ((n + 1 : Nat) : Rat) ≠ 0 := by
    have : 0 < ((n + 1 : Nat) : Rat) := by exact_mod_cast Nat.succ_pos n
    grind
  grind
theorem N_pos (n : Nat) : 0 < ((n + 1 : Nat) : Rat) := by exact_mod_cast Nat.succ_pos n
theorem rt_small (r n : Nat) : rt (r * ((n + 1) * (n + 1))) ≤ (r + 1) * (n + 1) := by
  have h := rt_le (r * ((n + 1) * (n + 1)))
  apply Classical.byContradiction
  intro c
  have h1 : ((r + 1) * (n + 1)) * ((r + 1) * (n + 1)) < rt (r * ((n + 1) * (n + 1))) * rt (r * ((n + 1) * (n + 1))) := Nat.mul_lt_mul'' (by omega) (by omega)
  have h2 : r * ((n + 1) * (n + 1)) ≤ ((r + 1) * (n + 1)) * ((r + 1) * (n + 1)) := by
    have : ((r + 1) * (n + 1)) * ((r + 1) * (n + 1)) = ((r + 1) * (r + 1)) * ((n + 1) * (n + 1)) := by grind
    rw [this]
    exact Nat.mul_le_mul_right _ (by grind)
  omega
theorem sq_nn (r n : Nat) : 0 ≤ sq r n := by
  have h1 := N_pos n
  have h2 : (0 : Rat) ≤ (rt (r * ((n + 1) * (n + 1))) : Rat) := by exact_mod_cast Nat.zero_le _
  rw [← sq_mul] at h2
  exact Rat.le_of_mul_le_mul_right (by grind) h1
theorem sq_le (r n : Nat) : sq r n ≤ (r : Rat) + 1 := by
  have h1 := N_pos n
  have h2 : (rt (r * ((n + 1) * (n + 1))) : Rat) ≤ (((r + 1) * (n + 1) : Nat) : Rat) := by exact_mod_cast rt_small r n
  have h3 : (((r + 1) * (n + 1) : Nat) : Rat) = ((r : Rat) + 1) * ((n + 1 : Nat) : Rat) := by push_cast; rfl
  rw [← sq_mul, h3] at h2
  exact Rat.le_of_mul_le_mul_right h2 h1
theorem sq_sq (r : Nat) : Null fun n => sq r n * sq r n - (r : Rat) := fun e he => by
  obtain ⟨M, h⟩ := arch e he (2 * ((r : Rat) + 1))
  refine ⟨M, fun n hn => ?_⟩
  show -e ≤ sq r n * sq r n - (r : Rat) ∧ sq r n * sq r n - (r : Rat) ≤ e
  have h0 := h n hn
  have h1 := N_pos n
  have k1 := rt_le (r * ((n + 1) * (n + 1)))
  have k2 := rt_lt (r * ((n + 1) * (n + 1)))
  have k3 := sq_mul r n
  have k4 := sq_le r n
  have k5 := sq_nn r n
  generalize rt (r * ((n + 1) * (n + 1))) = k at *
  have q1 : ((k * k : Nat) : Rat) ≤ ((r * ((n + 1) * (n + 1)) : Nat) : Rat) := by exact_mod_cast k1
  have q2 : ((r * ((n + 1) * (n + 1)) : Nat) : Rat) ≤ ((k * k + 2 * k : Nat) : Rat) := by exact_mod_cast (by grind : r * ((n + 1) * (n + 1)) ≤ k * k + 2 * k)
  have c1 : ((k * k : Nat) : Rat) = (k : Rat) * k := by push_cast; rfl
  have c2 : ((r * ((n + 1) * (n + 1)) : Nat) : Rat) = (r : Rat) * (((n + 1 : Nat) : Rat) * ((n + 1 : Nat) : Rat)) := by push_cast; rfl
  have c3 : ((k * k + 2 * k : Nat) : Rat) = (k : Rat) * k + 2 * k := by push_cast; rfl
  rw [c1, c2] at q1
  rw [c2, c3] at q2
  rw [← k3] at q1 q2
  generalize ((n + 1 : Nat) : Rat) = N at *
  generalize sq r n = s at *
  have N2 : 0 < N * N := Rat.mul_pos h1 h1
  have a1 : (s * s) * (N * N) ≤ (r : Rat) * (N * N) := by grind
  have a2 : s * s ≤ (r : Rat) := Rat.le_of_mul_le_mul_right a1 N2
  have a3 : ((r : Rat) - s * s) * N ≤ 2 * s := by
    have : (((r : Rat) - s * s) * N) * N ≤ (2 * s) * N := by grind
    exact Rat.le_of_mul_le_mul_right this h1
  have a4 : ((r : Rat) - s * s) * N ≤ e * N := by grind
  have a5 := Rat.le_of_mul_le_mul_right a4 h1
  grind
end RR
namespace RR
theorem sq_ge (r n : Nat) (h : 1 ≤ r) : 1 ≤ sq r n := by
  have h1 := N_pos n
  have k2 := rt_lt (r * ((n + 1) * (n + 1)))
  have k3 := sq_mul r n
  generalize rt (r * ((n + 1) * (n + 1))) = k at *
  have c : n + 1 ≤ k := by
    apply Classical.byContradiction
    intro c
    have h2 : (k + 1) * (k + 1) ≤ (n + 1) * (n + 1) := Nat.mul_le_mul (by omega) (by omega)
    have h3 : 1 * ((n + 1) * (n + 1)) ≤ r * ((n + 1) * (n + 1)) := Nat.mul_le_mul_right _ h
    omega
  have c' : ((n + 1 : Nat) : Rat) ≤ (k : Rat) := by exact_mod_cast c
  rw [← k3] at c'
  exact Rat.le_of_mul_le_mul_right (by grind) h1
theorem div_pos {e b : Rat} (he : 0 < e) (hb : 0 < b) : 0 < e / b := by
  have h4 : e = (e / b) * b := by grind
  apply Classical.byContradiction
  intro c
  have := Rat.mul_nonneg (show 0 ≤ -(e / b) by grind) (show 0 ≤ b by grind)
  grind
theorem Null.mul {f g : Sq} (hf : Null f) (hg : Bd g) : Null fun n => f n * g n := fun e he => by
  obtain ⟨b, b0, hb⟩ := hg
  obtain ⟨N, h⟩ := hf (e / b) (div_pos he b0)
  refine ⟨N, fun n hn => ?_⟩
  have h1 := h n hn
  have h2 := hb n
  show -e ≤ f n * g n ∧ f n * g n ≤ e
  have h4 : e = (e / b) * b := by grind
  have h5 : 0 < e / b := div_pos he b0
  generalize e / b = d at *
  generalize f n = x at *
  generalize g n = y at *
  have q1 : 0 ≤ (d - x) * (b + y) := Rat.mul_nonneg (by grind) (by grind)
  have q2 : 0 ≤ (d + x) * (b - y) := Rat.mul_nonneg (by grind) (by grind)
  have q3 : 0 ≤ (d - x) * (b - y) := Rat.mul_nonneg (by grind) (by grind)
  have q4 : 0 ≤ (d + x) * (b + y) := Rat.mul_nonneg (by grind) (by grind)
  constructor <;> grind
end RR
namespace RR
theorem Bd.const (c : Rat) : Bd fun _ => c := by
  by_cases h : 0 ≤ c
  · exact ⟨c + 1, by grind, fun n => by grind⟩
  · exact ⟨1 - c, by grind, fun n => by grind⟩
theorem Bd.add {f g : Sq} (hf : Bd f) (hg : Bd g) : Bd fun n => f n + g n := by
  obtain ⟨a, a0, ha⟩ := hf
  obtain ⟨b, b0, hb⟩ := hg
  refine ⟨a + b, by grind, fun n => ?_⟩
  have := ha n
  have := hb n
  grind
theorem Bd.neg {f : Sq} (hf : Bd f) : Bd fun n => - f n := by
  obtain ⟨a, a0, ha⟩ := hf
  refine ⟨a, a0, fun n => ?_⟩
  have := ha n
  grind
theorem Bd.mul {f g : Sq} (hf : Bd f) (hg : Bd g) : Bd fun n => f n * g n := by
  obtain ⟨a, a0, ha⟩ := hf
  obtain ⟨b, b0, hb⟩ := hg
  refine ⟨3 * (a * b), by have := Rat.mul_pos a0 b0; grind, fun n => ?_⟩
  have h1 := ha n
  have h2 := hb n
  show -(3 * (a * b)) ≤ f n * g n ∧ f n * g n ≤ 3 * (a * b)
  generalize f n = x at *
  generalize g n = y at *
  have q1 : 0 ≤ (a - x) * (b + y) := Rat.mul_nonneg (by grind) (by grind)
  have q2 : 0 ≤ (a + x) * (b - y) := Rat.mul_nonneg (by grind) (by grind)
  have q3 : 0 ≤ (a - x) * (b - y) := Rat.mul_nonneg (by grind) (by grind)
  have q4 : 0 ≤ (a + x) * (b + y) := Rat.mul_nonneg (by grind) (by grind)
  have q5 := Rat.mul_pos a0 b0
  constructor <;> grind
theorem Bd.sq (r : Nat) : Bd (sq r) := by
  have h : (0 : Rat) ≤ (r : Rat) := by exact_mod_cast Nat.zero_le r
  refine ⟨(r : Rat) + 1, by grind, fun n => ?_⟩
  have h1 := sq_nn r n
  have h2 := sq_le r n
  grind
theorem Null.neg {f : Sq} (hf : Null f) : Null fun n => - f n := fun e he => by
  obtain ⟨N, h⟩ := hf e he
  refine ⟨N, fun n hn => ?_⟩
  have := h n hn
  show -e ≤ - f n ∧ - f n ≤ e
  grind
theorem Pos.const {c : Rat} (h : 0 < c) : Pos fun _ => c := ⟨c, h, 0, fun _ _ => by grind⟩
theorem Null.zero : Null fun _ => 0 := fun e he => ⟨0, fun _ _ => by grind⟩
theorem Pos.cg {f g : Sq} (hf : Pos f) (h : Null fun n => g n - f n) : Pos g := by
  have := hf.null h
  have e : (fun n => f n + (g n - f n)) = g := by funext n; grind
  rwa [e] at this
theorem Null.cg {f g : Sq} (hf : Null f) (h : Null fun n => g n - f n) : Null g := by
  have := hf.add h
  have e : (fun n => f n + (g n - f n)) = g := by funext n; grind
  rwa [e] at this
end RR
namespace RR
def Sg (s : Int) (f : Sq) : Prop := (s = 1 ∧ Pos f) ∨ (s = 0 ∧ Null f) ∨ (s = -1 ∧ Pos fun n => - f n)
theorem Pos.of_sq' {f g : Sq} (h : Pos fun n => f n * f n - g n * g n) (pf : Pos f) (pg : Pos g) (bf : Bd f) (bg : Bd g) : Pos fun n => f n - g n := by
  obtain ⟨e, he, N, h⟩ := h
  obtain ⟨c, hc, M, pf⟩ := pf
  obtain ⟨d, hd, L, pg⟩ := pg
  obtain ⟨a, a0, ba⟩ := bf
  obtain ⟨b, b0, bb⟩ := bg
  have q := div_pos he (show 0 < a + b by grind)
  refine ⟨e / (a + b), q, max N (max M L), fun n hn => ?_⟩
  have h1 : e ≤ f n * f n - g n * g n := h n (by omega)
  have h2 := pf n (by omega)
  have h3 := pg n (by omega)
  have h4 := ba n
  have h5 := bb n
  have h6 : e = (e / (a + b)) * (a + b) := by grind
  show e / (a + b) ≤ f n - g n
  generalize e / (a + b) = k at *
  generalize f n = x at *
  generalize g n = y at *
  apply Classical.byContradiction
  intro z
  have s0 : 0 < x + y := by grind
  have h7 : (x - y) * (x + y) < k * (x + y) := Rat.mul_lt_mul_of_pos_right (by grind) s0
  have h8 : k * (x + y) ≤ k * (a + b) := Rat.mul_le_mul_of_nonneg_left (by grind) (by grind)
  grind
theorem Null.of_sq' {f g : Sq} (h : Null fun n => f n * f n - g n * g n) (pf : Pos f) (pg : Pos g) : Null fun n => f n - g n := fun e he => by
  obtain ⟨c, hc, M, pf⟩ := pf
  obtain ⟨d, hd, L, pg⟩ := pg
  obtain ⟨N, h⟩ := h (e * c) (Rat.mul_pos he hc)
  refine ⟨max N (max M L), fun n hn => ?_⟩
  have h1 : -(e * c) ≤ f n * f n - g n * g n ∧ f n * f n - g n * g n ≤ e * c := h n (by omega)
  have h2 := pf n (by omega)
  have h3 := pg n (by omega)
  show -e ≤ f n - g n ∧ f n - g n ≤ e
  generalize f n = x at *
  generalize g n = y at *
  have p : 0 < x + y := by grind
  have h3 : e * c ≤ e * (x + y) := Rat.mul_le_mul_of_nonneg_left (by grind) (by grind)
  constructor
  · exact Rat.le_of_mul_le_mul_right (by grind) p
  · exact Rat.le_of_mul_le_mul_right (by grind) p
theorem Sg.of {s : Int} {f g : Sq} (h : Sg s f) (e : ∀ n, f n = g n) : Sg s g := by
  have : f = g := funext e
  rwa [← this]
theorem Sg.neg {s : Int} {f : Sq} (h : Sg s f) : Sg (-s) fun n => - f n := by
  rcases h with ⟨h, p⟩ | ⟨h, p⟩ | ⟨h, p⟩ <;> subst h
  · refine .inr (.inr ⟨rfl, ?_⟩)
    have e : (fun n => - - f n) = f := by funext n; grind
    rwa [e]
  · exact .inr (.inl ⟨rfl, p.neg⟩)
  · exact .inl ⟨rfl, p⟩
end RR
namespace RR
theorem Sg.sum {a b c : Int} {f g : Sq} (ha : Sg a f) (hb : Sg b g) (hc : Sg c fun n => f n * f n - g n * g n) (bf : Bd f) (bg : Bd g) :
    Sg (if a = b ∨ b = 0 then a else if a = 0 then b else a * c) fun n => f n + g n := by
  have sw : ∀ {u v : Sq}, (fun n => u n + v n) = fun n => v n + u n := fun {u v} => by funext n; grind
  rcases ha with ⟨ha, pa⟩ | ⟨ha, pa⟩ | ⟨ha, pa⟩ <;> rcases hb with ⟨hb, pb⟩ | ⟨hb, pb⟩ | ⟨hb, pb⟩ <;> subst ha <;> subst hb
  · exact .inl ⟨rfl, pa.add pb⟩
  · exact .inl ⟨rfl, pa.null pb⟩
  · -- f above, g below
    have e0 : (fun n => f n + g n) = fun n => f n - (- g n) := by funext n; grind
    have e1 : (fun n => f n * f n - g n * g n) = fun n => f n * f n - (- g n) * (- g n) := by funext n; grind
    have e2 : (fun n => -(f n + g n)) = fun n => (- g n) - f n := by funext n; grind
    have e3 : (fun n => -(f n * f n - g n * g n)) = fun n => (- g n) * (- g n) - f n * f n := by funext n; grind
    rcases hc with ⟨hc, pc⟩ | ⟨hc, pc⟩ | ⟨hc, pc⟩ <;> subst hc
    · refine .inl ⟨rfl, ?_⟩
      rw [e0]; rw [e1] at pc
      exact Pos.of_sq' (g := fun n => - g n) pc pa pb bf bg.neg
    · refine .inr (.inl ⟨rfl, ?_⟩)
      rw [e0]; rw [e1] at pc
      exact Null.of_sq' (g := fun n => - g n) pc pa pb
    · refine .inr (.inr ⟨rfl, ?_⟩)
      rw [e2]; rw [e3] at pc
      exact Pos.of_sq' (f := fun n => - g n) pc pb pa bg.neg bf
  · rw [sw]; exact .inl ⟨rfl, pb.null pa⟩
  · exact .inr (.inl ⟨rfl, pa.add pb⟩)
  · refine .inr (.inr ⟨rfl, ?_⟩)
    have := pb.null pa.neg
    have e : (fun n => - g n + - f n) = fun n => -(f n + g n) := by funext n; grind
    rwa [e] at this
  · have e0 : (fun n => f n + g n) = fun n => g n - (- f n) := by funext n; grind
    have e1 : (fun n => -(f n * f n - g n * g n)) = fun n => g n * g n - (- f n) * (- f n) := by funext n; grind
    have e2 : (fun n => -(f n + g n)) = fun n => (- f n) - g n := by funext n; grind
    have e3 : (fun n => f n * f n - g n * g n) = fun n => (- f n) * (- f n) - g n * g n := by funext n; grind
    rcases hc with ⟨hc, pc⟩ | ⟨hc, pc⟩ | ⟨hc, pc⟩ <;> subst hc
    · refine .inr (.inr ⟨rfl, ?_⟩)
      rw [e2]; rw [e3] at pc
      exact Pos.of_sq' (f := fun n => - f n) pc pa pb bf.neg bg
    · refine .inr (.inl ⟨rfl, ?_⟩)
      rw [e3] at pc
      have := (Null.of_sq' (f := fun n => - f n) pc pa pb).neg
      have e : (fun n => -(- f n - g n)) = fun n => f n + g n := by funext n; grind
      rwa [e] at this
    · refine .inl ⟨rfl, ?_⟩
      rw [e0]; rw [e1] at pc
      exact Pos.of_sq' (g := fun n => - f n) pc pb pa bg bf.neg
  · refine .inr (.inr ⟨rfl, ?_⟩)
    have := pa.null pb.neg
    have e : (fun n => - f n + - g n) = fun n => -(f n + g n) := by funext n; grind
    rwa [e] at this
  · refine .inr (.inr ⟨rfl, ?_⟩)
    have := pa.add pb
    have e : (fun n => - f n + - g n) = fun n => -(f n + g n) := by funext n; grind
    rwa [e] at this
end RR
namespace RR
def Cy (f : Sq) : Prop := ∀ e : Rat, 0 < e → ∃ N, ∀ n m, N ≤ n → N ≤ m → f n - f m ≤ e
theorem bd_head (f : Sq) (N : Nat) : ∃ b : Rat, 0 < b ∧ ∀ n, n < N → -b ≤ f n ∧ f n ≤ b := by
  induction N with
  | zero => exact ⟨1, by grind, fun n h => absurd h (Nat.not_lt_zero n)⟩
  | succ N ih =>
    obtain ⟨b, hb, h⟩ := ih
    by_cases c : 0 ≤ f N
    · refine ⟨b + f N, by grind, fun n hn => ?_⟩
      by_cases e : n = N
      · subst e; constructor <;> grind
      · have := h n (by omega); constructor <;> grind
    · refine ⟨b + - f N, by grind, fun n hn => ?_⟩
      by_cases e : n = N
      · subst e; constructor <;> grind
      · have := h n (by omega); constructor <;> grind
theorem Cy.bd {f : Sq} (h : Cy f) : Bd f := by
  obtain ⟨N, hN⟩ := h 1 (by grind)
  obtain ⟨b, hb, k⟩ := bd_head f (N + 1)
  refine ⟨b + 1, by grind, fun n => ?_⟩
  by_cases c : n < N + 1
  · have := k n c; constructor <;> grind
  · have a1 := hN n N (by omega) (by omega)
    have a2 := hN N n (by omega) (by omega)
    have := k N (by omega)
    constructor <;> grind
theorem Cy.const (c : Rat) : Cy fun _ => c := fun e he => ⟨0, fun _ _ _ _ => by grind⟩
theorem Cy.add {f g : Sq} (hf : Cy f) (hg : Cy g) : Cy fun n => f n + g n := fun e he => by
  obtain ⟨N, h⟩ := hf (e / 2) (by grind)
  obtain ⟨M, k⟩ := hg (e / 2) (by grind)
  refine ⟨max N M, fun n m hn hm => ?_⟩
  have := h n m (by omega) (by omega)
  have := k n m (by omega) (by omega)
  grind
theorem Cy.neg {f : Sq} (hf : Cy f) : Cy fun n => - f n := fun e he => by
  obtain ⟨N, h⟩ := hf e he
  exact ⟨N, fun n m hn hm => by have := h m n hm hn; grind⟩
theorem Cy.mul {f g : Sq} (hf : Cy f) (hg : Cy g) : Cy fun n => f n * g n := fun e he => by
  obtain ⟨b, hb, kb⟩ := hf.bd
  obtain ⟨c, hc, kc⟩ := hg.bd
  obtain ⟨N, h⟩ := hf (e / (2 * c)) (div_pos he (by grind))
  obtain ⟨M, k⟩ := hg (e / (2 * b)) (div_pos he (by grind))
  refine ⟨max N M, fun n m hn hm => ?_⟩
  have a1 := h n m (by omega) (by omega)
  have a2 := h m n (by omega) (by omega)
  have a3 := k n m (by omega) (by omega)
  have a4 := k m n (by omega) (by omega)
  have b1 := kb m
  have b2 := kc n
  have e1 : e / (2 * c) * c = e / 2 := by grind
  have e2 : e / (2 * b) * b = e / 2 := by grind
  show f n * g n - f m * g m ≤ e
  generalize e / (2 * c) = d at *
  generalize e / (2 * b) = d' at *
  generalize f n = x at *
  generalize f m = x' at *
  generalize g n = y at *
  generalize g m = y' at *
  have s1 : (x - x') * y ≤ d * c := by
    have t1 : 0 ≤ (d - (x - x')) * (c + y) := Rat.mul_nonneg (by grind) (by grind)
    have t2 : 0 ≤ (d + (x - x')) * (c - y) := Rat.mul_nonneg (by grind) (by grind)
    grind
  have s2 : (y - y') * x' ≤ d' * b := by
    have t1 : 0 ≤ (d' - (y - y')) * (b + x') := Rat.mul_nonneg (by grind) (by grind)
    have t2 : 0 ≤ (d' + (y - y')) * (b - x') := Rat.mul_nonneg (by grind) (by grind)
    grind
  grind
theorem Cy.tri {f : Sq} (h : Cy f) : Pos f ∨ Null f ∨ Pos fun n => - f n := by
  by_cases c : Null f
  · exact .inr (.inl c)
  · unfold Null at c
    obtain ⟨e, c⟩ := Classical.not_forall.mp c
    have he : 0 < e := Classical.byContradiction fun k => c fun k' => absurd k' k
    obtain ⟨N, hN⟩ := h (e / 2) (by grind)
    have : ∃ n, N ≤ n ∧ ¬ (-e ≤ f n ∧ f n ≤ e) := Classical.byContradiction fun k => c fun _ => ⟨N, fun n hn => Classical.byContradiction fun k' => k ⟨n, hn, k'⟩⟩
    obtain ⟨n, hn, k⟩ := this
    by_cases p : e < f n
    · exact .inl ⟨e / 2, by grind, N, fun m hm => by have := hN n m hn hm; grind⟩
    · exact .inr (.inr ⟨e / 2, by grind, N, fun m hm => by have := hN m n hm hn; show e / 2 ≤ - f m; grind⟩)
theorem Cy.inv {f : Sq} (h : Cy f) (p : Pos f) : ∃ g, Cy g ∧ Null fun n => f n * g n - 1 := by
  obtain ⟨e, he, N, k⟩ := p
  refine ⟨fun n => if N ≤ n then 1 / f n else 1, fun d hd => ?_, fun d hd => ⟨N, fun n hn => ?_⟩⟩
  · obtain ⟨M, q⟩ := h (d * (e * e)) (Rat.mul_pos hd (Rat.mul_pos he he))
    refine ⟨max N M, fun n m hn hm => ?_⟩
    show (if N ≤ n then 1 / f n else 1) - (if N ≤ m then 1 / f m else 1) ≤ d
    rw [if_pos (by omega), if_pos (by omega)]
    have a1 := k n (by omega)
    have a2 := k m (by omega)
    have a3 := q m n (by omega) (by omega)
    generalize f n = x at *
    generalize f m = y at *
    have x0 : 0 < x := by grind
    have y0 : 0 < y := by grind
    have xy : 0 < x * y := Rat.mul_pos x0 y0
    have t : e * e ≤ x * y := by
      have t1 : 0 ≤ (x - e) * y := Rat.mul_nonneg (by grind) (by grind)
      have t2 : 0 ≤ e * (y - e) := Rat.mul_nonneg (by grind) (by grind)
      grind
    have t3 : 0 ≤ d * (x * y - e * e) := Rat.mul_nonneg (by grind) (by grind)
    have : (1 / x - 1 / y) * (x * y) ≤ d * (x * y) := by
      have : (1 / x - 1 / y) * (x * y) = y - x := by grind
      grind
    exact Rat.le_of_mul_le_mul_right this xy
  · show -d ≤ f n * (if N ≤ n then 1 / f n else 1) - 1 ∧ f n * (if N ≤ n then 1 / f n else 1) - 1 ≤ d
    rw [if_pos hn]
    have a1 := k n hn
    have : f n * (1 / f n) = 1 := by grind
    rw [this]
    constructor <;> grind
theorem nul {f : Sq} (h : ∀ n, f n = 0) : Null f := fun e he => ⟨0, fun n _ => by rw [h n]; constructor <;> grind⟩
theorem Null.of {f g : Sq} (h : Null f) (k : ∀ n, g n = f n) : Null g := by rw [show g = f from funext k]; exact h
theorem Pos.of {f g : Sq} (h : Pos f) (k : ∀ n, g n = f n) : Pos g := by rw [show g = f from funext k]; exact h
structure CSq where
  f : Sq
  c : Cy f
def CSq.rel (a b : CSq) : Prop := Null fun n => a.f n - b.f n
instance CSq.S : Setoid CSq where
  r := CSq.rel
  iseqv := ⟨fun a => nul fun n => by grind, fun h => Null.of (Null.neg h) fun n => by grind, fun h k => Null.of (Null.add h k) fun n => by grind⟩
end RR
def Re : Type := Quotient RR.CSq.S
namespace Re
open RR
def mk (a : CSq) : Re := Quotient.mk CSq.S a
theorem sound {a b : CSq} (h : ∀ n, a.f n = b.f n) : mk a = mk b := Quotient.sound (nul fun n => by rw [h n]; grind)
theorem ind {P : Re → Prop} (h : ∀ a, P (mk a)) (x : Re) : P x := Quotient.ind h x
def ofQ (q : Rat) : Re := mk ⟨fun _ => q, Cy.const q⟩
def add : Re → Re → Re := Quotient.lift₂ (fun a b => mk ⟨fun n => a.f n + b.f n, a.c.add b.c⟩) fun a b c d h k => Quotient.sound (Null.of (Null.add h k) fun n => by grind)
def neg : Re → Re := Quotient.lift (fun a => mk ⟨fun n => - a.f n, a.c.neg⟩) fun a b h => Quotient.sound (Null.of (Null.neg h) fun n => by grind)
def mul : Re → Re → Re := Quotient.lift₂ (fun a b => mk ⟨fun n => a.f n * b.f n, a.c.mul b.c⟩) fun a b c d h k => Quotient.sound (Null.of (Null.add (Null.mul h b.c.bd) (Null.mul k c.c.bd)) fun n => by grind)
def pos : Re → Prop := Quotient.lift (fun a => Pos a.f) fun a b h => propext ⟨fun p => Pos.cg p (Null.of (Null.neg h) fun n => by grind), fun p => Pos.cg p h⟩
instance : Add Re := ⟨add⟩
instance : Neg Re := ⟨neg⟩
instance : Mul Re := ⟨mul⟩
instance : Sub Re := ⟨fun a b => a + -b⟩
instance : NatCast Re := ⟨fun n => ofQ n⟩
instance : IntCast Re := ⟨fun n => ofQ n⟩
instance (n : Nat) : OfNat Re n := ⟨ofQ n⟩
def pw (a : Re) : Nat → Re
  | 0 => 1
  | n + 1 => pw a n * a
instance : HPow Re Nat Re := ⟨pw⟩
instance : Lean.Grind.CommRing Re where
  nsmul := ⟨fun n a => ofQ n * a⟩
  zsmul := ⟨fun n a => ofQ n * a⟩
  add_zero a := by revert a; exact ind fun a => sound fun n => by show a.f n + ((0 : Nat) : Rat) = a.f n; exact Rat.add_zero _
  add_comm a b := by revert a b; exact ind fun a => ind fun b => sound fun n => by show a.f n + b.f n = b.f n + a.f n; exact Rat.add_comm _ _
  add_assoc a b c := by revert a b c; exact ind fun a => ind fun b => ind fun c => sound fun n => by show a.f n + b.f n + c.f n = a.f n + (b.f n + c.f n); exact Rat.add_assoc _ _ _
  neg_add_cancel a := by revert a; exact ind fun a => sound fun n => by show - a.f n + a.f n = ((0 : Nat) : Rat); exact Rat.neg_add_cancel _
  mul_assoc a b c := by revert a b c; exact ind fun a => ind fun b => ind fun c => sound fun n => by show a.f n * b.f n * c.f n = a.f n * (b.f n * c.f n); exact Rat.mul_assoc _ _ _
  mul_comm a b := by revert a b; exact ind fun a => ind fun b => sound fun n => by show a.f n * b.f n = b.f n * a.f n; exact Rat.mul_comm _ _
  mul_one a := by revert a; exact ind fun a => sound fun n => by show a.f n * ((1 : Nat) : Rat) = a.f n; exact Rat.mul_one _
  one_mul a := by revert a; exact ind fun a => sound fun n => by show ((1 : Nat) : Rat) * a.f n = a.f n; exact Rat.one_mul _
  left_distrib a b c := by revert a b c; exact ind fun a => ind fun b => ind fun c => sound fun n => by show a.f n * (b.f n + c.f n) = a.f n * b.f n + a.f n * c.f n; exact Rat.mul_add _ _ _
  right_distrib a b c := by revert a b c; exact ind fun a => ind fun b => ind fun c => sound fun n => by show (a.f n + b.f n) * c.f n = a.f n * c.f n + b.f n * c.f n; exact Rat.add_mul _ _ _
  zero_mul a := by revert a; exact ind fun a => sound fun n => by show ((0 : Nat) : Rat) * a.f n = ((0 : Nat) : Rat); exact Rat.zero_mul _
  mul_zero a := by revert a; exact ind fun a => sound fun n => by show a.f n * ((0 : Nat) : Rat) = ((0 : Nat) : Rat); exact Rat.mul_zero _
  pow_zero a := rfl
  pow_succ a n := rfl
  ofNat_succ x := sound fun n => by show ((x + 1 : Nat) : Rat) = ((x : Nat) : Rat) + ((1 : Nat) : Rat); push_cast; rfl
  ofNat_eq_natCast n := rfl
  nsmul_eq_natCast_mul n a := rfl
  sub_eq_add_neg a b := rfl
  neg_zsmul i a := by revert a; exact ind fun a => sound fun n => by show ((-i : Int) : Rat) * a.f n = - ((i : Rat) * a.f n); rw [Rat.intCast_neg, Rat.neg_mul]
  zsmul_natCast_eq_nsmul n a := rfl
  intCast_ofNat n := rfl
  intCast_neg i := sound fun n => by show ((-i : Int) : Rat) = - (i : Rat); exact Rat.intCast_neg i
theorem tri (x : Re) : pos x ∨ x = 0 ∨ pos (-x) := by
  revert x
  refine ind fun a => ?_
  rcases a.c.tri with h | h | h
  · exact .inl h
  · exact .inr (.inl (Quotient.sound (Null.of h fun n => by show a.f n - ((0 : Nat) : Rat) = a.f n; grind)))
  · exact .inr (.inr h)
theorem pos_add {x y : Re} (h : pos x) (k : pos y) : pos (x + y) := by
  revert h k; revert x y
  exact fun {x y} => ind (P := fun x => pos x → pos y → pos (x + y)) (fun a => ind (P := fun y => pos (mk a) → pos y → pos (mk a + y)) (fun b h k => Pos.add h k) y) x
theorem pos_mul {x y : Re} (h : pos x) (k : pos y) : pos (x * y) := by
  revert h k; revert x y
  exact fun {x y} => ind (P := fun x => pos x → pos y → pos (x * y)) (fun a => ind (P := fun y => pos (mk a) → pos y → pos (mk a * y)) (fun b h k => Pos.mul h k) y) x
theorem pos_ne {x : Re} (h : pos x) : x ≠ 0 := by
  rintro rfl
  exact Pos.not_null (f := fun _ => ((0 : Nat) : Rat)) h (nul fun _ => rfl)
theorem pos_neg {x : Re} (h : pos x) (k : pos (-x)) : False := by
  have := pos_add h k
  rw [show x + -x = 0 by grind] at this
  exact pos_ne this rfl
instance : LT Re := ⟨fun a b => pos (b - a)⟩
instance : LE Re := ⟨fun a b => ¬ pos (a - b)⟩
theorem lt_def (a b : Re) : a < b ↔ pos (b - a) := Iff.rfl
theorem le_def (a b : Re) : a ≤ b ↔ ¬ pos (a - b) := Iff.rfl
theorem le_or (a b : Re) : a ≤ b ↔ a = b ∨ a < b := by
  rw [le_def, lt_def]
  rcases tri (b - a) with h | h | h
  · refine ⟨fun _ => .inr h, fun _ k => pos_neg h ?_⟩
    rwa [show -(b - a) = a - b by grind]
  · have : a = b := by grind
    subst this
    exact ⟨fun _ => .inl rfl, fun _ k => pos_ne k (by grind)⟩
  · rw [show -(b - a) = a - b by grind] at h
    refine ⟨fun k => absurd h k, fun k => ?_⟩
    rcases k with k | k
    · subst k; exact absurd (by grind) (pos_ne h)
    · exact (pos_neg h (by rwa [show -(a - b) = b - a by grind])).elim
instance : Std.IsLinearOrder Re where
  le_refl a := (le_or a a).mpr (.inl rfl)
  le_trans a b c h k := by
    rw [le_or] at *
    rcases h with rfl | h
    · exact k
    · rcases k with rfl | k
      · exact .inr h
      · exact .inr (by rw [lt_def] at *; rw [show c - a = (b - a) + (c - b) by grind]; exact pos_add h k)
  le_antisymm a b h k := by
    rw [le_or] at h
    rcases h with h | h
    · exact h
    · exact absurd h k
  le_total a b := by
    by_cases h : a ≤ b
    · exact .inl h
    · refine .inr ((le_or b a).mpr (.inr ?_))
      exact Classical.byContradiction fun k => h k
instance : Std.LawfulOrderLT Re where
  lt_iff a b := by
    constructor
    · exact fun h => ⟨(le_or a b).mpr (.inr h), fun k => k h⟩
    · exact fun h => Classical.byContradiction fun k => h.2 k
theorem pos_one : pos 1 := Pos.const (c := ((1 : Nat) : Rat)) (by decide)
instance : Lean.Grind.OrderedRing Re where
  add_le_left_iff {a b} c := by rw [le_def, le_def, show a + c - (b + c) = a - b by grind]
  zero_lt_one := by rw [lt_def, show (1 : Re) - 0 = 1 by grind]; exact pos_one
  mul_lt_mul_of_pos_left {a b c} h k := by
    rw [lt_def] at *
    rw [show c * b - c * a = (c - 0) * (b - a) by grind]
    exact pos_mul k h
  mul_lt_mul_of_pos_right {a b c} h k := by
    rw [lt_def] at *
    rw [show b * c - a * c = (c - 0) * (b - a) by grind]
    exact pos_mul k h
end Re
def sg (n : Int) : Int := if 0 < n then 1 else if n < 0 then -1 else 0
def signOne (u v r : Int) : Int := if sg u = sg (v * r) ∨ sg (v * r) = 0 then sg u else if sg u = 0 then sg (v * r) else sg u * sg (u * u - v * v * r)
theorem sg_mul {v r : Int} (h : 0 < r) : sg (v * r) = sg v := by
  unfold sg
  by_cases h1 : 0 < v
  · rw [if_pos h1, if_pos (Int.mul_pos h1 h)]
  · by_cases h2 : v < 0
    · have : v * r < 0 := Int.mul_neg_of_neg_of_pos h2 h
      rw [if_neg h1, if_pos h2, if_neg (by omega), if_pos this]
    · have : v = 0 := by omega
      subst this
      simp
def signTwo (u v r w t : Int) : Int := if signOne u v r = sg (w * t) ∨ sg (w * t) = 0 then signOne u v r else if signOne u v r = 0 then sg (w * t) else signOne u v r * signOne (u * u + v * v * r - w * w * t) (2 * u * v) r
theorem t5 (a b c d e : D) : mkLst [a, b, c, d, e] = .ok (.lst [a, b, c, d, e]) := mkLst_ok (by simp)
theorem sq_nn (a : Int) : 0 ≤ a * a := by
  rcases Int.le_total 0 a with h | h
  · exact Int.mul_nonneg h h
  · exact Int.mul_nonneg_of_nonpos_of_nonpos h h
theorem sq_le {a b : Int} (h0 : 0 ≤ a) (h : a ≤ b) : a * a ≤ b * b := Int.mul_le_mul h h h0 (by omega)
def ordOf (p q r s a b t d : Int) : Int := signTwo (p * d - a * s) (q * d) r (0 - b * s) t
theorem sg_real (u : Int) : RR.Sg (sg u) fun _ => (u : Rat) := by
  unfold sg
  by_cases h : 0 < u
  · rw [if_pos h]
    exact .inl ⟨rfl, RR.Pos.const (by exact_mod_cast h)⟩
  · rw [if_neg h]
    by_cases k : u < 0
    · rw [if_pos k]
      have : (u : Rat) < 0 := by exact_mod_cast k
      exact .inr (.inr ⟨rfl, RR.Pos.const (c := -(u : Rat)) (by grind)⟩)
    · rw [if_neg k]
      have : u = 0 := by omega
      subst this
      exact .inr (.inl ⟨rfl, RR.Null.zero⟩)
theorem sgv_real {v r : Int} (h : 0 ≤ r) : RR.Sg (sg (v * r)) fun n => (v : Rat) * RR.sq r.toNat n := by
  by_cases h0 : r = 0
  · subst h0
    rw [Int.mul_zero]
    refine .inr (.inl ⟨rfl, ?_⟩)
    intro e he
    refine ⟨0, fun n _ => ?_⟩
    have h1 : RR.rt 0 = 0 := by
      have := RR.rt_le 0
      have : RR.rt 0 * RR.rt 0 = 0 := by omega
      exact (Nat.mul_eq_zero.mp this).elim id id
    have h2 : RR.sq (0 : Int).toNat n = 0 := by
      show RR.sq 0 n = 0
      have h3 := RR.sq_mul 0 n
      rw [Nat.zero_mul, h1] at h3
      have p := RR.N_pos n
      have z0 : ((0 : Nat) : Rat) = 0 := rfl
      have z1 : RR.sq 0 n ≤ 0 := Rat.le_of_mul_le_mul_right (by rw [h3, z0]; grind) p
      have z2 := RR.sq_nn 0 n
      grind
    show -e ≤ (v : Rat) * RR.sq (0 : Int).toNat n ∧ (v : Rat) * RR.sq (0 : Int).toNat n ≤ e
    rw [h2]
    constructor <;> grind
  · have h1 : RR.Pos (RR.sq r.toNat) := ⟨1, by grind, 0, fun n _ => RR.sq_ge _ n (by omega)⟩
    rw [sg_mul (by omega)]
    rcases sg_real v with ⟨e, p⟩ | ⟨e, p⟩ | ⟨e, p⟩
    · exact .inl ⟨e, p.mul h1⟩
    · exact .inr (.inl ⟨e, p.mul (RR.Bd.sq _)⟩)
    · refine .inr (.inr ⟨e, ?_⟩)
      have := p.mul h1
      have e : (fun n => -(v : Rat) * RR.sq r.toNat n) = fun n => -((v : Rat) * RR.sq r.toNat n) := by funext n; grind
      rwa [e] at this
noncomputable def one (u v r : Int) : RR.Sq := fun n => (u : Rat) + (v : Rat) * RR.sq r.toNat n
theorem sqr_real {r : Int} (h : 0 ≤ r) : RR.Null fun n => RR.sq r.toNat n * RR.sq r.toNat n - (r : Rat) := by
  have := RR.sq_sq r.toNat
  have e : ((r.toNat : Nat) : Rat) = (r : Rat) := by
    have : ((r.toNat : Nat) : Int) = r := Int.toNat_of_nonneg h
    exact_mod_cast congrArg (fun z : Int => (z : Rat)) this
  rwa [e] at this
theorem RR.Sg.cg {s : Int} {f g : RR.Sq} (h : RR.Sg s f) (e : RR.Null fun n => g n - f n) : RR.Sg s g := by
  rcases h with ⟨h, p⟩ | ⟨h, p⟩ | ⟨h, p⟩
  · exact .inl ⟨h, p.cg e⟩
  · exact .inr (.inl ⟨h, p.cg e⟩)
  · refine .inr (.inr ⟨h, p.cg ?_⟩)
    have := e.neg
    have q : (fun n => -(g n - f n)) = fun n => - g n - - f n := by funext n; grind
    rwa [q] at this
theorem one_real {u v r : Int} (h : 0 ≤ r) : RR.Sg (signOne u v r) (one u v r) := by
  refine RR.Sg.sum (sg_real u) (sgv_real h) ?_ (RR.Bd.const _) ((RR.Bd.const _).mul (RR.Bd.sq _))
  refine (sg_real (u * u - v * v * r)).cg ?_
  have := (sqr_real h).mul (RR.Bd.const (-((v : Rat) * v)))
  have q : (fun n => (RR.sq r.toNat n * RR.sq r.toNat n - (r : Rat)) * -((v : Rat) * v)) = fun n => ((u : Rat) * u - (v : Rat) * RR.sq r.toNat n * ((v : Rat) * RR.sq r.toNat n)) - ((u * u - v * v * r : Int) : Rat) := by
    funext n
    push_cast
    grind
  rwa [q] at this
noncomputable def two (u v r w t : Int) : RR.Sq := fun n => one u v r n + (w : Rat) * RR.sq t.toNat n
theorem one_bd (u v r : Int) : RR.Bd (one u v r) := (RR.Bd.const _).add ((RR.Bd.const _).mul (RR.Bd.sq _))
theorem two_real {u v r w t : Int} (h : 0 ≤ r) (k : 0 ≤ t) : RR.Sg (signTwo u v r w t) (two u v r w t) := by
  refine RR.Sg.sum (one_real h) (sgv_real k) ?_ (one_bd _ _ _) ((RR.Bd.const _).mul (RR.Bd.sq _))
  refine (one_real (u := u * u + v * v * r - w * w * t) (v := 2 * u * v) h).cg ?_
  have h1 := (sqr_real h).mul (RR.Bd.const ((v : Rat) * v))
  have h2 := (sqr_real k).mul (RR.Bd.const (-((w : Rat) * w)))
  have h3 := h1.add h2
  have q : (fun n => (RR.sq r.toNat n * RR.sq r.toNat n - (r : Rat)) * ((v : Rat) * v) + (RR.sq t.toNat n * RR.sq t.toNat n - (t : Rat)) * -((w : Rat) * w)) = fun n => (one u v r n * one u v r n - (w : Rat) * RR.sq t.toNat n * ((w : Rat) * RR.sq t.toNat n)) - one (u * u + v * v * r - w * w * t) (2 * u * v) r n := by
    funext n
    unfold one
    push_cast
    grind
  rwa [q] at h3
namespace Re
open RR
theorem inv_ex (x : Re) (h : x ≠ 0) : ∃ y, x * y = 1 := by
  have key : ∀ x : Re, pos x → ∃ y, x * y = 1 := ind fun a h => by
    obtain ⟨g, cg, ng⟩ := Cy.inv a.c h
    exact ⟨mk ⟨g, cg⟩, Quotient.sound (Null.of ng fun n => by show a.f n * g n - ((1 : Nat) : Rat) = a.f n * g n - 1; rfl)⟩
  rcases tri x with p | p | p
  · exact key x p
  · exact absurd p h
  · obtain ⟨y, e⟩ := key (-x) p
    exact ⟨-y, by grind⟩
open Classical in
noncomputable def inv (x : Re) : Re := if h : x = 0 then 0 else Classical.choose (inv_ex x h)
noncomputable instance : Inv Re := ⟨inv⟩
noncomputable instance : Div Re := ⟨fun a b => a * inv b⟩
theorem mul_inv {x : Re} (h : x ≠ 0) : x * x⁻¹ = 1 := by
  show x * inv x = 1
  unfold inv
  rw [dif_neg h]
  exact Classical.choose_spec (inv_ex x h)
theorem inv_0 : (0 : Re)⁻¹ = 0 := by
  show inv 0 = 0
  unfold inv
  rw [dif_pos rfl]
theorem one_ne : (0 : Re) ≠ 1 := fun h => pos_ne pos_one h.symm
theorem inv_inv (x : Re) : (x⁻¹)⁻¹ = x := by
  by_cases h : x = 0
  · subst h; rw [inv_0, inv_0]
  · have h1 := mul_inv h
    have h2 : x⁻¹ ≠ 0 := fun k => by rw [k] at h1; exact one_ne (by grind)
    have h3 := mul_inv h2
    generalize (x⁻¹)⁻¹ = z at *
    generalize x⁻¹ = y at *
    have : x * (y * z) = x := by rw [h3]; grind
    grind
noncomputable def zpw (a : Re) : Int → Re
  | .ofNat n => a ^ n
  | .negSucc n => (a ^ (n + 1))⁻¹
noncomputable instance : HPow Re Int Re := ⟨zpw⟩
theorem inv_1 : (1 : Re)⁻¹ = 1 := by
  have := mul_inv (x := 1) (fun h => one_ne h.symm)
  grind
noncomputable instance : Lean.Grind.Field Re where
  div_eq_mul_inv a b := rfl
  zero_ne_one := one_ne
  inv_zero := inv_0
  mul_inv_cancel h := mul_inv h
  zpow_zero a := rfl
  zpow_succ a n := rfl
  zpow_neg a n := by
    rcases n with n | n
    · cases n with
      | zero => show (1 : Re) = (1 : Re)⁻¹; rw [inv_1]
      | succ n => rfl
    · show a ^ (n + 1) = ((a ^ (n + 1))⁻¹)⁻¹
      rw [inv_inv]
open Classical in
noncomputable def sgn (x : Re) : Int := if pos x then 1 else if x = 0 then 0 else -1
theorem sgn_pos {x : Re} : sgn x = 1 ↔ 0 < x := by
  rw [lt_def, show x - 0 = x by grind]
  unfold sgn
  split
  · simp [*]
  · split
    · rename_i h; exact ⟨fun k => by simp at k, fun k => absurd k (by rw [h]; exact fun q => pos_ne q rfl)⟩
    · simp [*]
theorem sgn_zero {x : Re} : sgn x = 0 ↔ x = 0 := by
  unfold sgn
  split
  · exact ⟨fun h => by simp at h, fun h => absurd h (pos_ne ‹_›)⟩
  · split <;> simp [*]
theorem sgn_neg {x : Re} : sgn x = -1 ↔ x < 0 := by
  rw [lt_def, show 0 - x = -x by grind]
  rcases tri x with h | h | h
  · have : sgn x = 1 := by unfold sgn; rw [if_pos h]
    rw [this]
    exact ⟨fun k => by omega, fun k => (pos_neg h k).elim⟩
  · subst h
    have : sgn 0 = 0 := sgn_zero.mpr rfl
    rw [this]
    exact ⟨fun k => by omega, fun k => absurd (by grind) (pos_ne k)⟩
  · have h1 : ¬ pos x := fun k => pos_neg k h
    have h2 : x ≠ 0 := fun k => pos_ne h (by grind)
    unfold sgn
    rw [if_neg h1, if_neg h2]
    exact ⟨fun _ => h, fun _ => rfl⟩
theorem sgn_of {s : Int} {a : CSq} (h : Sg s a.f) : sgn (mk a) = s := by
  rcases h with ⟨rfl, h⟩ | ⟨rfl, h⟩ | ⟨rfl, h⟩
  · exact sgn_pos.mpr (by rw [lt_def, show mk a - 0 = mk a by grind]; exact h)
  · exact sgn_zero.mpr (Quotient.sound (Null.of h fun n => by show a.f n - ((0 : Nat) : Rat) = a.f n; grind))
  · exact sgn_neg.mpr (by rw [lt_def, show 0 - mk a = - mk a by grind]; exact h)
theorem sgn_cases (x : Re) : (sgn x = 1 ∧ 0 < x) ∨ (sgn x = 0 ∧ x = 0) ∨ (sgn x = -1 ∧ x < 0) := by
  rcases tri x with h | h | h
  · have : 0 < x := by rw [lt_def, show x - 0 = x by grind]; exact h
    exact .inl ⟨sgn_pos.mpr this, this⟩
  · exact .inr (.inl ⟨sgn_zero.mpr h, h⟩)
  · have : x < 0 := by rw [lt_def, show 0 - x = -x by grind]; exact h
    exact .inr (.inr ⟨sgn_neg.mpr this, this⟩)
end Re
theorem RR.Cy.sq (r : Nat) : RR.Cy (RR.sq r) := fun e he => by
  obtain ⟨N, h⟩ := RR.sq_sq r e he
  refine ⟨N, fun n m hn hm => ?_⟩
  have a1 := h n hn
  have a2 := h m hm
  by_cases c : 1 ≤ r
  · have b1 := RR.sq_ge r n c
    have b2 := RR.sq_ge r m c
    simp only [] at a1 a2
    generalize RR.sq r n = x at *
    generalize RR.sq r m = y at *
    apply Classical.byContradiction
    intro k
    have t : 0 ≤ (x - y - e) * (x + y) := Rat.mul_nonneg (by grind) (by grind)
    have t2 : 0 ≤ e * (x + y - 2) := Rat.mul_nonneg (by grind) (by grind)
    have t3 : 0 < (x - y - e) * (x + y) := Rat.mul_pos (by grind) (by grind)
    grind
  · have : r = 0 := by omega
    subst this
    have z : ∀ n, RR.sq 0 n = 0 := fun n => by
      unfold RR.sq
      have h := RR.rt_le (0 * ((n + 1) * (n + 1)))
      have : RR.rt (0 * ((n + 1) * (n + 1))) = 0 := by
        generalize RR.rt (0 * ((n + 1) * (n + 1))) = k at *
        rcases k with _ | k
        · rfl
        · rw [Nat.zero_mul] at h
          exact absurd h (Nat.not_le.mpr (Nat.mul_pos (Nat.succ_pos k) (Nat.succ_pos k)))
      rw [this]
      show (((0 : Nat) : Rat)) / _ = 0
      grind
    rw [z n, z m]
    grind
namespace Re
open RR
noncomputable def root (r : Int) : Re := mk ⟨RR.sq r.toNat, Cy.sq _⟩
theorem two_sgn {u v r w t : Int} (h : 0 ≤ r) (k : 0 ≤ t) : signTwo u v r w t = sgn (u + v * root r + w * root t) :=
  (sgn_of (a := ⟨fun n => (u : Rat) + (v : Rat) * RR.sq r.toNat n + (w : Rat) * RR.sq t.toNat n, ((Cy.const _).add ((Cy.const _).mul (Cy.sq _))).add ((Cy.const _).mul (Cy.sq _))⟩) (two_real h k)).symm
theorem cast_mul (a b : Int) : ((a * b : Int) : Re) = a * b := Lean.Grind.Ring.intCast_mul a b
theorem cast_sub (a b : Int) : ((a - b : Int) : Re) = a - b := Lean.Grind.Ring.intCast_sub a b
theorem cast_0 : ((0 : Int) : Re) = 0 := rfl
theorem cast_pos' {a : Int} (h : 0 < a) : (0 : Re) < (a : Re) := by
  rw [lt_def]
  refine Pos.of (Pos.const (c := (a : Rat)) (by exact_mod_cast h)) fun n => ?_
  show (a : Rat) + - ((0 : Nat) : Rat) = (a : Rat)
  have z : ((0 : Nat) : Rat) = 0 := rfl
  grind
end Re
abbrev T3 := Int × Int × Int
def SzT (n : Nat) (t : T3) : Prop := Sz n t.1 ∧ Sz n t.2.1 ∧ Sz n t.2.2
theorem SzT.mono {n m : Nat} {t : T3} (h : SzT n t) (l : n ≤ m) : SzT m t := ⟨h.1.mono l, h.2.1.mono l, h.2.2.mono l⟩
abbrev N4 := Int × Int × Int × Int
noncomputable def val (x : N4) : Re := ((x.1 : Re) + (x.2.1 : Re) * Re.root x.2.2.1) / (x.2.2.2 : Re)
structure GoodX (n : Nat) (x : N4) : Prop where
  r0 : 0 ≤ x.2.2.1
  s0 : 0 < x.2.2.2
  sp : Sz n x.1
  sq : Sz n x.2.1
  sr : Sz n x.2.2.1
  ss : Sz n x.2.2.2
theorem GoodX.mono {n m : Nat} {x : N4} (h : GoodX n x) (l : n ≤ m) : GoodX m x := ⟨h.r0, h.s0, h.sp.mono l, h.sq.mono l, h.sr.mono l, h.ss.mono l⟩
theorem Re.sgn_scale {c x : Re} (h : 0 < c) : Re.sgn (c * x) = Re.sgn x := by
  rcases Re.sgn_cases x with ⟨e, k⟩ | ⟨e, k⟩ | ⟨e, k⟩
  · rw [e, Re.sgn_pos]
    have := Lean.Grind.OrderedRing.mul_lt_mul_of_pos_left k h
    grind
  · rw [e, Re.sgn_zero, k]; grind
  · rw [e, Re.sgn_neg]
    have := Lean.Grind.OrderedRing.mul_lt_mul_of_pos_left k h
    grind
theorem val_mul {x : N4} (h : 0 < x.2.2.2) : val x * (x.2.2.2 : Re) = (x.1 : Re) + (x.2.1 : Re) * Re.root x.2.2.1 := by
  have := Re.cast_pos' h
  unfold val
  grind
def ordX (x y : N4) : Int := ordOf x.1 x.2.1 x.2.2.1 x.2.2.2 y.1 y.2.1 y.2.2.1 y.2.2.2
theorem ordX_sgn {x y : N4} (r0 : 0 ≤ x.2.2.1) (s0 : 0 < x.2.2.2) (t0 : 0 ≤ y.2.2.1) (d0 : 0 < y.2.2.2) : ordX x y = Re.sgn (val x - val y) := by
  have h1 := val_mul s0
  have h2 := val_mul d0
  unfold ordX ordOf
  rw [Re.two_sgn r0 t0]
  have c1 := Re.cast_pos' s0
  have c2 := Re.cast_pos' d0
  have c3 : (0 : Re) < (x.2.2.2 : Re) * (y.2.2.2 : Re) := by
    have := Lean.Grind.OrderedRing.mul_lt_mul_of_pos_left c2 c1
    grind
  rw [← Re.sgn_scale (x := val x - val y) c3]
  congr 1
  simp only [Re.cast_sub, Re.cast_mul, Re.cast_0]
  grind
theorem ordX_lt {n m : Nat} {x y : N4} (h : GoodX n x) (k : GoodX m y) : ordX x y < 0 ↔ val x < val y := by
  rw [ordX_sgn h.r0 h.s0 k.r0 k.s0]
  rcases Re.sgn_cases (val x - val y) with ⟨e, q⟩ | ⟨e, q⟩ | ⟨e, q⟩ <;> rw [e]
  · exact ⟨fun z => absurd z (by decide), fun z => by grind⟩
  · exact ⟨fun z => absurd z (by decide), fun z => by grind⟩
  · exact ⟨fun _ => by grind, fun _ => by decide⟩
theorem ordX_gt {n m : Nat} {x y : N4} (h : GoodX n x) (k : GoodX m y) : 0 < ordX x y ↔ val y < val x := by
  rw [ordX_sgn h.r0 h.s0 k.r0 k.s0]
  rcases Re.sgn_cases (val x - val y) with ⟨e, q⟩ | ⟨e, q⟩ | ⟨e, q⟩ <;> rw [e]
  · exact ⟨fun _ => by grind, fun _ => by decide⟩
  · exact ⟨fun z => absurd z (by decide), fun z => by grind⟩
  · exact ⟨fun z => absurd z (by decide), fun z => by grind⟩
theorem Re.sq_nn (x : Re) : 0 ≤ x * x := by
  by_cases c : 0 ≤ x
  · have := Lean.Grind.OrderedRing.mul_le_mul_of_nonneg_left c c
    grind
  · have c' : 0 ≤ -x := by grind
    have := Lean.Grind.OrderedRing.mul_le_mul_of_nonneg_left c' c'
    grind
structure PtX (n : Nat) (rt : Int) (x : N4) : Prop where
  good : GoodX n x
  same : x.2.1 = 0 ∨ x.2.2.1 = rt
theorem PtX.val {n : Nat} {rt : Int} {x : N4} (h : PtX n rt x) : PD.val x * (x.2.2.2 : Re) = (x.1 : Re) + (x.2.1 : Re) * Re.root rt := by
  rw [val_mul h.good.s0]
  rcases h.same with e | e
  · rw [e, Re.cast_0]; grind
  · rw [e]
inductive Wd where | less | most | equal | unlike
deriving DecidableEq
def Wd.str : Wd → Str
  | .less => "less"
  | .most => "most"
  | .equal => "equal"
  | .unlike => "unlike"
inductive Sn where
  | yes | no | cmp (w : Wd) (f : List Tm) | both (l : List Sn) | either (l : List Sn) | neg (s : Sn) | some (x : List Nat) (s : Sn) | all (x : List Nat) (s : Sn)
mutual
def eSn : Sn → D
  | .yes => .tup [.str "yes"]
  | .no => .tup [.str "no"]
  | .cmp w f => .tup [.str w.str, .tup (f.map encQ)]
  | .both l => .tup [.str "both", .tup (eSns l)]
  | .either l => .tup [.str "either", .tup (eSns l)]
  | .neg s => .tup [.str "not", eSn s]
  | .some x s => .tup [.str "some", encN x, eSn s]
  | .all x s => .tup [.str "all", encN x, eSn s]
def eSns : List Sn → List D
  | [] => []
  | s :: l => eSn s :: eSns l
end
theorem eSns_map : ∀ l : List Sn, eSns l = l.map eSn
  | [] => rfl
  | s :: l => by rw [eSns, eSns_map l]; rfl
mutual
def Sn.depth : Sn → Nat
  | .yes => 1
  | .no => 1
  | .cmp _ _ => 1
  | .both l => Sn.depths l + 1
  | .either l => Sn.depths l + 1
  | .neg s => s.depth + 1
  | .some _ s => s.depth + 1
  | .all _ s => s.depth + 1
def Sn.depths : List Sn → Nat
  | [] => 0
  | s :: l => max s.depth (Sn.depths l)
end
theorem sdep_mem {s : Sn} : ∀ {l : List Sn}, s ∈ l → s.depth ≤ Sn.depths l
  | t :: l, h => by
    show s.depth ≤ max t.depth (Sn.depths l)
    rcases List.mem_cons.mp h with e | h
    · subst e; omega
    · have := sdep_mem h; omega
theorem sdeps_le {n : Nat} : ∀ {l : List Sn}, (∀ s ∈ l, s.depth ≤ n) → Sn.depths l ≤ n
  | [], _ => Nat.zero_le _
  | t :: l, h => by
    show max t.depth (Sn.depths l) ≤ n
    have := h t List.mem_cons_self
    have := sdeps_le fun s hs => h s (List.mem_cons_of_mem t hs)
    omega
def Sn.parts : Sn → List Sn
  | .both l => l
  | .either l => l
  | .neg s => [s]
  | .some _ s => [s]
  | .all _ s => [s]
  | _ => []
def Sn.word : Sn → Str
  | .yes => "yes"
  | .no => "no"
  | .cmp w _ => w.str
  | .both _ => "both"
  | .either _ => "either"
  | .neg _ => "not"
  | .some _ _ => "some"
  | .all _ _ => "all"
def Sn.isCmp : Sn → Bool
  | .cmp _ _ => true
  | _ => false
mutual
def Sn.cmps : Sn → List (Wd × List Tm)
  | .yes => []
  | .no => []
  | .cmp w f => [(w, f)]
  | .both l => Sn.cmpss l
  | .either l => Sn.cmpss l
  | .neg s => s.cmps
  | .some _ s => s.cmps
  | .all _ s => s.cmps
def Sn.cmpss : List Sn → List (Wd × List Tm)
  | [] => []
  | s :: l => s.cmps ++ Sn.cmpss l
end
theorem cmpss_flat : ∀ l : List Sn, Sn.cmpss l = l.flatMap Sn.cmps
  | [] => rfl
  | s :: l => by rw [Sn.cmpss, cmpss_flat l, List.flatMap_cons]
theorem cmps_parts {s : Sn} (h : s.isCmp = false) : s.cmps = s.parts.flatMap Sn.cmps := by
  cases s with
  | cmp w f => cases h
  | yes => rfl
  | no => rfl
  | both l => exact cmpss_flat l
  | either l => exact cmpss_flat l
  | neg s => show s.cmps = s.cmps ++ []; rw [List.append_nil]
  | some x s => show s.cmps = s.cmps ++ []; rw [List.append_nil]
  | all x s => show s.cmps = s.cmps ++ []; rw [List.append_nil]
mutual
noncomputable def Sn.fv : Sn → List (List Nat)
  | .yes => []
  | .no => []
  | .cmp _ f => namesOf f
  | .both l => Sn.fvs l
  | .either l => Sn.fvs l
  | .neg s => s.fv
  | .some x s => s.fv.filter fun y => decide (y ≠ x)
  | .all x s => s.fv.filter fun y => decide (y ≠ x)
noncomputable def Sn.fvs : List Sn → List (List Nat)
  | [] => []
  | s :: l => s.fv ++ Sn.fvs l
end
noncomputable def setN (xs : List (List Nat)) (l : List (List Nat × Bool)) : List (List Nat × Bool) := xs.foldl (fun l x => put l x true) l
noncomputable def Sn.free (s : Sn) : List (List Nat) := sortN ((setN s.fv []).map (·.1))
def L (s : String) : List Nat := (Str.ofString s).cps.toList
def it (i : Int) : List Nat := L (toString i)
theorem L_app (a b : String) : L (a ++ b) = L a ++ L b := by
  unfold L
  rw [Str.ofString_eq_toList, Str.ofString_eq_toList, Str.ofString_eq_toList]
  simp
theorem it_neg {i : Int} (h : i < 0) : it i = L "-" ++ it (-i) := by
  obtain ⟨n, rfl⟩ : ∃ n : Nat, i = Int.negSucc n := ⟨(-i - 1).toNat, by omega⟩
  unfold it
  rw [← L_app]
  rfl
theorem it_pos {i : Int} (h : 0 ≤ i) : it i = L (toString i.toNat) := by
  obtain ⟨n, rfl⟩ := Int.eq_ofNat_of_zero_le h
  rfl
theorem it_ne (i : Int) : it i ≠ [] := by
  have nat : ∀ n : Nat, L (toString n) ≠ [] := fun n => by
    unfold L
    rw [Str.ofString_eq_toList]
    intro h
    have h2 : (toString n).toList = [] := by simpa using h
    have : (Nat.toDigits 10 n) = [] := by
      have e : (toString n).toList = Nat.toDigits 10 n := by
        show (Nat.repr n).toList = _
        unfold Nat.repr
        simp
      rw [← e]; exact h2
    exact Nat.toDigits_ne_nil this
  by_cases h : i < 0
  · rw [it_neg h]; intro z; have := congrArg List.length z; simp [L] at this; exact absurd this.1 (by decide +kernel)
  · rw [it_pos (by omega)]; exact nat _
def joinL (sep : List Nat) : List (List Nat) → List Nat
  | [] => []
  | x :: xs => xs.foldl (fun acc p => acc ++ sep ++ p) x
theorem join_S (sep : List Nat) (xs : List (List Nat)) : Txt.join (S sep) (xs.map S) = S (joinL sep xs) := by
  unfold Txt.join Builtin.Str.glued
  cases xs with
  | nil => rfl
  | cons x xs =>
    have key : ∀ (l : List (List Nat)) (a : List Nat), ((l.map S).foldl (fun (acc : Array Nat) (p : Str) => acc ++ (S sep).cps ++ p.cps) a.toArray) = (l.foldl (fun acc p => acc ++ sep ++ p) a).toArray := by
      intro l
      induction l with
      | nil => intro a; rfl
      | cons y l ih =>
        intro a
        rw [List.map_cons, List.foldl_cons, List.foldl_cons, ← ih]
        congr 1
        simp
    show (⟨_⟩ : Str) = _
    congr 1
    exact key xs x
theorem joinL_len (sep : List Nat) : ∀ (xs : List (List Nat)) (x : List Nat), (joinL sep (x :: xs)).length = x.length + (xs.map List.length).sum + xs.length * sep.length
  | [], x => by simp [joinL]
  | y :: xs, x => by
    have ih := joinL_len sep xs (x ++ sep ++ y)
    show (joinL sep ((x ++ sep ++ y) :: xs)).length = _
    rw [ih]
    simp only [List.length_append, List.map_cons, List.sum_cons, List.length_cons, Nat.add_mul, Nat.one_mul]
    omega
theorem join_len (sep : List Nat) (xs : List (List Nat)) : (xs.map List.length).sum + xs.length * sep.length ≤ (joinL sep xs).length + sep.length := by
  cases xs with
  | nil => simp
  | cons x xs =>
    rw [joinL_len, List.map_cons, List.sum_cons, List.length_cons, Nat.add_mul, Nat.one_mul]
    omega
theorem len_join {sep : List Nat} {xs : List (List Nat)} {x : List Nat} (h : x ∈ xs) : x.length ≤ (joinL sep xs).length := by
  cases xs with
  | nil => cases h
  | cons y xs =>
    rw [joinL_len]
    rcases List.mem_cons.mp h with rfl | h
    · omega
    · have : ∀ l : List (List Nat), x ∈ l → x.length ≤ (l.map List.length).sum := by
        intro l
        induction l with
        | nil => intro h; cases h
        | cons z l ih =>
          intro h
          rw [List.map_cons, List.sum_cons]
          rcases List.mem_cons.mp h with rfl | h
          · omega
          · have := ih h; omega
      have := this xs h
      omega
theorem strsOf_S (xs : List (List Nat)) : strsOf (xs.map fun x => D.str (S x)) = some (xs.map S) := by
  induction xs with
  | nil => rfl
  | cons x xs ih => rw [List.map_cons, strsOf, ih]; rfl
theorem dJoin_S {sep : List Nat} {xs : List (List Nat)} (h : (joinL sep xs).length + sep.length ≤ 16777216) : dJoin (S sep) (.lst (xs.map fun x => .str (S x))) = .ok (.str (S (joinL sep xs))) := by
  unfold dJoin
  simp only
  rw [strsOf_S]
  simp only
  rw [join_S, chk_pos]
  have := join_len sep xs
  rw [List.length_map, S_len, List.map_map]
  have e : (xs.map (Str.length ∘ S)) = xs.map List.length := List.map_congr_left fun x _ => S_len x
  rw [e]
  omega
theorem eJoin_ap (fa fb : Env → Out D) (ρ : Env) : eJoin fa fb ρ = (fa ρ).bind fun x => match x with
  | .str a => (fb ρ).bind fun y => dJoin a y
  | _ => .stuck := rfl
theorem dFmt_S {a : List Nat} (h : a.length ≤ 16777216) : dFmt (.str (S a)) = .ok (.str (S a)) := by
  unfold dFmt
  simp only
  exact chk_pos (by rw [S_len, sizeLine_eq]; exact h)
theorem log_lt {n : Nat} {i : Int} (h : Sz n i) (hn : n ≤ 1920) : i.natAbs.log2 < 1920 := by
  unfold Sz at h
  by_cases z : i.natAbs = 0
  · rw [z]; decide
  · exact Nat.lt_of_lt_of_le ((Nat.log2_lt z).mpr h) hn
theorem dFmt_int {n : Nat} {i : Int} (h : Sz n i) (hn : n ≤ 1920) : dFmt (.int i) = .ok (.str (S (it i))) := by
  unfold dFmt
  simp only
  rw [chk_pos (log_lt h hn)]; rfl
theorem cStr_int {n : Nat} {i : Int} (h : Sz n i) (hn : n ≤ 1920) : cStr [.int i] = .ok (.str (S (it i))) := by
  unfold cStr
  simp only
  rw [chk_pos (log_lt h hn)]; rfl
theorem eJs_nil (c : Str) (ρ : Env) : eJs [] c ρ = .ok (.str c) := rfl
theorem eJs_S {f : Env → Out D} {fs : List (Env → Out D)} {c a : List Nat} {ρ : Env} (h : f ρ = .ok (.str (S a))) (hl : c.length + a.length ≤ 16777216) : eJs (f :: fs) (S c) ρ = eJs fs (S (c ++ a)) ρ := by
  rw [eJs, h, Out.bind_ok]
  simp only
  rw [S_app, chk_pos (by rw [S_len, List.length_append, sizeLine_eq]; exact hl)]
theorem emp_S : Str.empty = S [] := rfl
theorem dEq_Tx {a b : List Nat} (ha : PyData.strOk (S a) = true) (hb : PyData.strOk (S b) = true) : dEq (.str (S a)) (.str (S b)) = .ok (.bl (decide (a = b))) := by
  rw [dEq_lit ha hb, S_beq]
theorem dNe_Tx {a b : List Nat} (ha : PyData.strOk (S a) = true) (hb : PyData.strOk (S b) = true) : dNe (.str (S a)) (.str (S b)) = .ok (.bl (!decide (a = b))) := by
  rw [dNe_lit ha hb, S_beq]
def tName (p : Pr) : List Nat := if p.2 = 1 then p.1 else p.1 ++ L "^" ++ it p.2
def tMn (m : Mn) : List Nat := joinL (L "*") (m.map tName)
def tPair (m : Mn) (k : Int) : List Nat := if tMn m = [] then it k else if k = 1 then tMn m else it k ++ L "*" ++ tMn m
def tStep (acc : List Nat) (q : Tm) : List Nat :=
  if acc = [] ∧ q.2 < 0 then L "-" ++ tPair q.1 q.2.natAbs else if acc = [] then tPair q.1 q.2.natAbs else if q.2 < 0 then acc ++ L " - " ++ tPair q.1 q.2.natAbs else acc ++ L " + " ++ tPair q.1 q.2.natAbs
def tForm (f : List Tm) : List Nat := f.foldl tStep []
def Wd.sg : Wd → List Nat
  | .less => L "<"
  | .most => L "<="
  | .equal => L "="
  | .unlike => L "/="
def isB (o : Bool) : Sn → Bool
  | .both _ => !o
  | .either _ => true
  | .some _ _ => true
  | .all _ _ => true
  | _ => false
def brk (o : Bool) (s : Sn) (t : List Nat) : List Nat := if isB o s then L "(" ++ t ++ L ")" else t
mutual
def tSn : Sn → List Nat
  | .yes => L "yes"
  | .no => L "no"
  | .cmp w f => tForm f ++ L " " ++ w.sg ++ L " 0"
  | .both l => joinL (L " and ") (tHs false l)
  | .either l => joinL (L " or ") (tHs true l)
  | .neg s => L "not " ++ brk false s (tSn s)
  | .some x s => L "some" ++ L " " ++ x ++ L ": " ++ tSn s
  | .all x s => L "all" ++ L " " ++ x ++ L ": " ++ tSn s
def tHs (o : Bool) : List Sn → List (List Nat)
  | [] => []
  | s :: l => brk o s (tSn s) :: tHs o l
end
theorem tHs_map (o : Bool) : ∀ l : List Sn, tHs o l = l.map fun s => brk o s (tSn s)
  | [] => rfl
  | s :: l => by rw [tHs, tHs_map o l]; rfl
def Okt (l : List Nat) : Prop := ∀ c ∈ l, c < 1114112
theorem okt_str {l : List Nat} (h : Okt l) : PyData.strOk (S l) = true := by
  unfold PyData.strOk
  rw [Array.all_eq_true_iff_forall_mem]
  intro c hc
  exact decide_eq_true (h c (by simpa using hc))
theorem okt_app {a b : List Nat} (ha : Okt a) (hb : Okt b) : Okt (a ++ b) := fun c hc => (List.mem_append.mp hc).elim (ha c) (hb c)
theorem okt_nil : Okt [] := fun c hc => (List.not_mem_nil hc).elim
theorem okt_L (s : String) : Okt (L s) := fun c hc => by
  unfold L at hc
  rw [Str.ofString_eq_toList] at hc
  simp only [List.mem_map] at hc
  obtain ⟨d, _, rfl⟩ := hc
  have := d.valid
  rcases d.valid with h | h
  · show d.val.toNat < _
    have : d.val.toNat < 55296 := h
    omega
  · show d.val.toNat < _
    have : d.val.toNat < 1114112 := h.2
    omega
theorem okt_it (i : Int) : Okt (it i) := okt_L _
theorem okt_nm {x : List Nat} (h : Nm x) : Okt x := fun c hc => by have := h.let_ c hc; omega
theorem okt_join {sep : List Nat} (hs : Okt sep) : ∀ {xs : List (List Nat)}, (∀ x ∈ xs, Okt x) → Okt (joinL sep xs)
  | [], _ => okt_nil
  | x :: xs, h => by
    have key : ∀ (l : List (List Nat)) (a : List Nat), Okt a → (∀ x ∈ l, Okt x) → Okt (l.foldl (fun acc p => acc ++ sep ++ p) a) := by
      intro l
      induction l with
      | nil => intro a ha _; exact ha
      | cons y l ih => intro a ha h; exact ih _ (okt_app (okt_app ha hs) (h y List.mem_cons_self)) fun z hz => h z (List.mem_cons_of_mem _ hz)
    exact key xs x (h x List.mem_cons_self) fun y hy => h y (List.mem_cons_of_mem _ hy)
theorem okt_name {p : Pr} (h : Nm p.1) : Okt (tName p) := by
  unfold tName
  split
  · exact okt_nm h
  · exact okt_app (okt_app (okt_nm h) (okt_L _)) (okt_it _)
theorem okt_mn {m : Mn} (h : ∀ p ∈ m, Nm p.1) : Okt (tMn m) := okt_join (okt_L _) fun x hx => by
  obtain ⟨p, hp, rfl⟩ := List.mem_map.mp hx
  exact okt_name (h p hp)
theorem okt_pair {m : Mn} (h : ∀ p ∈ m, Nm p.1) (k : Int) : Okt (tPair m k) := by
  unfold tPair
  split
  · exact okt_it _
  · split
    · exact okt_mn h
    · exact okt_app (okt_app (okt_it _) (okt_L _)) (okt_mn h)
theorem okt_step {acc : List Nat} {q : Tm} (ha : Okt acc) (h : ∀ p ∈ q.1, Nm p.1) : Okt (tStep acc q) := by
  unfold tStep
  split
  · exact okt_app (okt_L _) (okt_pair h _)
  · split
    · exact okt_pair h _
    · split
      · exact okt_app (okt_app ha (okt_L _)) (okt_pair h _)
      · exact okt_app (okt_app ha (okt_L _)) (okt_pair h _)
theorem okt_form {f : List Tm} (h : ∀ q ∈ f, ∀ p ∈ q.1, Nm p.1) : Okt (tForm f) := by
  have key : ∀ (l : List Tm) (a : List Nat), Okt a → (∀ q ∈ l, ∀ p ∈ q.1, Nm p.1) → Okt (l.foldl tStep a) := by
    intro l
    induction l with
    | nil => intro a ha _; exact ha
    | cons y l ih => intro a ha h; exact ih _ (okt_step ha (h y List.mem_cons_self)) fun z hz => h z (List.mem_cons_of_mem _ hz)
  exact key f [] okt_nil h
theorem shown_name_eq {p : Pr} {b : Nat} (h : Nm p.1) (hz : Sz b p.2) (hb : b ≤ 1900) (hl : (tName p).length ≤ 16777000) : m_shown_name [.str (S p.1), .int p.2] = .ok (.str (S (tName p))) := by
  obtain ⟨x, k⟩ := p
  have hx : x.length ≤ 16777216 := by have := h.len; show x.length ≤ _; exact Nat.le_trans this (by decide)
  have f1 : dFmt (.str (S x)) = .ok (.str (S x)) := dFmt_S hx
  have f2 : dFmt (.int k) = .ok (.str (S (it k))) := dFmt_int hz (by omega)
  have e0 : Str.ofString "^" = S (L "^") := rfl
  unfold m_shown_name b_shown_name
  rw [fnM_ap]
  by_cases c : k = 1
  · subst c
    have : tName (x, 1) = x := if_pos rfl
    rw [this]
    walk_at "go"
  · have et : tName (x, k) = x ++ L "^" ++ it k := if_neg c
    rw [et] at hl ⊢
    rw [List.length_append, List.length_append] at hl
    have j : eJs [(e1 dFmt (eV 0)), (eC (.str (S (L "^")))), (e1 dFmt (eV 1))] Str.empty [some (.str (S x)), some (.int k)] = .ok (.str (S (x ++ L "^" ++ it k))) := by
      rw [emp_S]
      rw [eJs_S (a := x) (by walk_at "wka") (by simp; omega), eJs_S (a := L "^") (by rw [eC_ap]) (by simp; omega), eJs_S (a := it k) (by walk_at "wka") (by simp; omega), eJs_nil]
      rfl
    have cn : (k = 1) = False := eq_false c
    walk_at "go"
theorem name_len {p : Pr} {m : Mn} (h : p ∈ m) : (tName p).length ≤ (tMn m).length := len_join (List.mem_map.mpr ⟨p, h, rfl⟩)
theorem shown_pair_eq {m : Mn} {k : Int} {b : Nat} (h : ∀ p ∈ m, Nm p.1 ∧ Sz b p.2) (hk : Sz b k) (hb : b ≤ 1900) (hl : (tPair m k).length + (tMn m).length ≤ 16777000) (hm : m.length ≤ 10000) : m_shown_pair [encM m, .int k] = .ok (.str (S (tPair m k))) := by
  have hl2 : (tMn m).length ≤ 16777000 := by omega
  have e0 : Str.ofString "*" = S (L "*") := rfl
  have e1' : Str.ofString "" = S [] := rfl
  have f0 : lcL (gT [(gN 3), (gN 4)]) bYes (eA m_shown_name (aC (eV 3) (aC (eV 4) aN))) [some (.tup (m.map encP)), some (.int k), none, none, none] (m.map encP) = .ok (m.map fun p => .str (S (tName p))) := by
    refine lcL_map encP (fun p => .str (S (tName p))) m fun p hp => ?_
    have f1 := shown_name_eq (h p hp).1 (h p hp).2 hb (by have := name_len hp; omega)
    unfold encP
    walk_at "go"
  have f2 : dJoin (S (L "*")) (.lst (m.map fun p => .str (S (tName p)))) = .ok (.str (S (tMn m))) := by
    have := dJoin_S (sep := L "*") (xs := m.map tName) (by
      show (tMn m).length + _ ≤ _
      have : (L "*").length = 1 := by decide +kernel
      omega)
    rw [List.map_map] at this
    exact this
  have hm2 : (m.map encP).length ≤ sizeLine := len_ok (by rw [List.length_map]; omega)
  have ok0 : Okt (tMn m) := okt_mn fun p hp => (h p hp).1
  have f3 : dEq (.str (S (tMn m))) (.str (S [])) = .ok (.bl (decide (tMn m = []))) := dEq_Tx (okt_str ok0) (okt_str okt_nil)
  have f4 : cStr [.int k] = .ok (.str (S (it k))) := cStr_int hk (by omega)
  have f5 : dFmt (.int k) = .ok (.str (S (it k))) := dFmt_int hk (by omega)
  have f6 : dFmt (.str (S (tMn m))) = .ok (.str (S (tMn m))) := dFmt_S (by omega)
  unfold encM m_shown_pair b_shown_pair
  by_cases c : tMn m = []
  · have et : tPair m k = it k := if_pos c
    have cn : decide (tMn m = []) = true := decide_eq_true c
    rw [et]
    rw [cn] at f3
    clear h c cn et hl
    generalize tMn m = T at *
    generalize m.map encP = M at *
    have ej := eJoin_ap
    walk_at "go"
  · have cn : decide (tMn m = []) = false := decide_eq_false c
    rw [cn] at f3
    by_cases c1 : k = 1
    · have et : tPair m k = tMn m := by unfold tPair; rw [if_neg c, if_pos c1]
      rw [et]
      subst c1
      clear h
      generalize tMn m = T at *
      generalize m.map encP = M at *
      have ej := eJoin_ap
      walk_at "go"
    · have et : tPair m k = it k ++ L "*" ++ tMn m := by unfold tPair; rw [if_neg c, if_neg c1]
      have cn1 : (k = 1) = False := eq_false c1
      rw [et] at hl ⊢
      rw [List.length_append, List.length_append] at hl
      clear h
      generalize tMn m = T at *
      generalize m.map encP = M at *
      have j : ∀ x3 x4, eJs [(e1 dFmt (eV 1)), (eC (.str (S (L "*")))), (e1 dFmt (eV 2))] Str.empty [some (.tup M), some (.int k), some (.str (S T)), x3, x4] = .ok (.str (S (it k ++ L "*" ++ T))) := fun x3 x4 => by
        rw [emp_S]
        rw [eJs_S (a := it k) (by walk_at "wka") (by simp; omega), eJs_S (a := L "*") (by rw [eC_ap]) (by simp; omega), eJs_S (a := T) (by walk_at "wka") (by simp; omega), eJs_nil]
        rfl
      have ej := eJoin_ap
      walk_at "go"
theorem form_step {acc : List Nat} {q : Tm} {b : Nat} (ha : Okt acc) (h : ∀ p ∈ q.1, Nm p.1 ∧ Sz b p.2) (hq : Sz b q.2) (hb : b ≤ 1900) (hm : q.1.length ≤ 10000) (hl : (tStep acc q).length + (tMn q.1).length ≤ 16777000) {x0 x2 x3 x4 : Option D} :
    ∃ y2 y3 y4, (oS (gT [(gN 2), (gN 3)] (encQ q) [x0, some (.str (S acc)), x2, x3, x4]) b_shown_form_1).cont = .nx [x0, some (.str (S (tStep acc q))), y2, y3, y4] := by
  obtain ⟨m, n⟩ := q
  have okp : Okt (tPair m (n.natAbs : Int)) := okt_pair (fun p hp => (h p hp).1) _
  have hz : Sz b (n.natAbs : Int) := by unfold Sz at *; exact hq
  have lp : (tPair m (n.natAbs : Int)).length ≤ (tStep acc (m, n)).length := by
    unfold tStep
    split
    · simp
    · split
      · exact Nat.le_refl _
      · split <;> simp <;> omega
  have f1 : m_shown_pair [encM m, .int (n.natAbs : Int)] = _ := shown_pair_eq h hz hb (by show _ + (tMn m).length ≤ _; have : (tStep acc (m, n)).length + (tMn m).length ≤ 16777000 := hl; omega) hm
  have f2 : cAbs [.int n] = .ok (.int (n.natAbs : Int)) := cAbs_int n
  have f3 : dEq (.str (S acc)) (.str (S [])) = .ok (.bl (decide (acc = []))) := dEq_Tx (okt_str ha) (okt_str okt_nil)
  have g0 : Str.ofString "" = S [] := rfl
  have g1 : Str.ofString "-" = S (L "-") := rfl
  have g2 : Str.ofString " - " = S (L " - ") := rfl
  have g3 : Str.ofString " + " = S (L " + ") := rfl
  have l1 : (L "-").length = 1 := by decide +kernel
  have l2 : (L " - ").length = 3 := by decide +kernel
  have l3 : (L " + ").length = 3 := by decide +kernel
  have hl' : (tStep acc (m, n)).length ≤ 16777000 := by have : (tStep acc (m, n)).length + (tMn m).length ≤ 16777000 := hl; omega
  refine ⟨some (encM m), some (.int n), some (.str (S (tPair m (n.natAbs : Int)))), ?_⟩
  unfold encQ b_shown_form_1
  clear okp hz h hq ha hl lp hm hb
  by_cases c : acc = []
  · by_cases cn : n < 0
    · have et : tStep acc (m, n) = L "-" ++ tPair m (n.natAbs : Int) := if_pos ⟨c, cn⟩
      rw [et] at hl' ⊢
      rw [List.length_append] at hl'
      have f4 := dAdd_S (a := L "-") (b := tPair m (n.natAbs : Int)) (by omega)
      rw [decide_eq_true c] at f3
      have c1 : (n < 0) = True := eq_true cn
      clear c cn et hl'
      generalize tPair m (n.natAbs : Int) = T at *
      generalize encM m = M at *
      walk_at "go"
    · have et : tStep acc (m, n) = tPair m (n.natAbs : Int) := by
        show (if acc = [] ∧ n < 0 then _ else if acc = [] then _ else _) = _
        rw [if_neg (fun z => cn z.2), if_pos c]
      rw [et]
      rw [decide_eq_true c] at f3
      have c1 : (n < 0) = False := eq_false cn
      clear c cn et hl'
      generalize tPair m (n.natAbs : Int) = T at *
      generalize encM m = M at *
      walk_at "go"
  · rw [decide_eq_false c] at f3
    by_cases cn : n < 0
    · have et : tStep acc (m, n) = acc ++ L " - " ++ tPair m (n.natAbs : Int) := by
        show (if acc = [] ∧ n < 0 then _ else if acc = [] then _ else if n < 0 then _ else _) = _
        rw [if_neg (fun z => c z.1), if_neg c, if_pos cn]
      rw [et] at hl' ⊢
      rw [List.length_append, List.length_append] at hl'
      have f4 := dAdd_S (a := acc) (b := L " - ") (by omega)
      have f5 := dAdd_S (a := acc ++ L " - ") (b := tPair m (n.natAbs : Int)) (by rw [List.length_append]; omega)
      have c1 : (n < 0) = True := eq_true cn
      clear c cn et hl'
      generalize tPair m (n.natAbs : Int) = T at *
      generalize encM m = M at *
      generalize acc ++ L " - " = A1 at *
      walk_at "go"
    · have et : tStep acc (m, n) = acc ++ L " + " ++ tPair m (n.natAbs : Int) := by
        show (if acc = [] ∧ n < 0 then _ else if acc = [] then _ else if n < 0 then _ else _) = _
        rw [if_neg (fun z => c z.1), if_neg c, if_neg cn]
      rw [et] at hl' ⊢
      rw [List.length_append, List.length_append] at hl'
      have f4 := dAdd_S (a := acc) (b := L " + ") (by omega)
      have f5 := dAdd_S (a := acc ++ L " + ") (b := tPair m (n.natAbs : Int)) (by rw [List.length_append]; omega)
      have c1 : (n < 0) = False := eq_false cn
      clear c cn et hl'
      generalize tPair m (n.natAbs : Int) = T at *
      generalize encM m = M at *
      generalize acc ++ L " + " = A1 at *
      walk_at "go"
theorem step_len (acc : List Nat) (q : Tm) : acc.length ≤ (tStep acc q).length ∧ (tMn q.1).length ≤ (tStep acc q).length := by
  have hp : (tMn q.1).length ≤ (tPair q.1 (q.2.natAbs : Int)).length := by
    unfold tPair
    split
    · rename_i c; rw [c]; simp
    · split
      · exact Nat.le_refl _
      · simp; omega
  unfold tStep
  split
  · rename_i c; rw [c.1]; simp; omega
  · split
    · rename_i c; rw [c]; simp; omega
    · split <;> simp <;> omega
theorem steps_len : ∀ (f : List Tm) (acc : List Nat), acc.length ≤ (f.foldl tStep acc).length
  | [], _ => Nat.le_refl _
  | q :: f, acc => Nat.le_trans (step_len acc q).1 (steps_len f _)
structure Shw (b : Nat) (f : List Tm) : Prop where
  nm : ∀ q ∈ f, ∀ p ∈ q.1, Nm p.1 ∧ Sz b p.2
  sz : ∀ q ∈ f, Sz b q.2
  few : ∀ q ∈ f, q.1.length ≤ 10000
  len : f.length ≤ 10000
theorem shown_form_eq {f : List Tm} {b : Nat} (h : Shw b f) (hb : b ≤ 1900) (hl : 2 * (tForm f).length ≤ 16777000) : m_shown_form [.tup (f.map encQ)] = .ok (.str (S (tForm f))) := by
  have hz : (f.map encQ).length ≤ sizeLine := len_ok (by rw [List.length_map]; have := h.len; omega)
  obtain ⟨ρ, er, y2, y3, y4, ez, ok⟩ := forL_inv encQ (G := gT [(gN 2), (gN 3)]) (b := b_shown_form_1) (fun pre ρ => ∃ y2 y3 y4, ρ = [some (.tup (f.map encQ)), some (.str (S (pre.foldl tStep []))), y2, y3, y4] ∧ Okt (pre.foldl tStep [])) f (ρ := [some (.tup (f.map encQ)), some (.str (S [])), none, none, none]) ⟨none, none, none, rfl, okt_nil⟩
    fun pre q post ρ e ⟨y2, y3, y4, er, ok⟩ => by
      subst er
      have mq : q ∈ f := by rw [e]; simp
      have e2 : (pre ++ [q]).foldl tStep [] = tStep (pre.foldl tStep []) q := by rw [List.foldl_append]; rfl
      have hlen : (tStep (pre.foldl tStep []) q).length ≤ (tForm f).length := by
        unfold tForm
        rw [e, List.foldl_append, List.foldl_cons]
        exact steps_len _ _
      obtain ⟨z2, z3, z4, ez⟩ := form_step ok (h.nm q mq) (h.sz q mq) hb (h.few q mq) (by have := (step_len (pre.foldl tStep []) q).2; omega) (x0 := some (.tup (f.map encQ))) (x2 := y2) (x3 := y3) (x4 := y4)
      exact ⟨_, ez, z2, z3, z4, by rw [e2], by rw [e2]; exact okt_step ok fun p hp => (h.nm q mq p hp).1⟩
  have g0 : Str.ofString "" = S [] := rfl
  subst ez
  have et : tForm f = f.foldl tStep [] := rfl
  rw [et]
  clear h hl et ok
  generalize f.foldl tStep [] = T at *
  generalize f.map encQ = F at *
  unfold m_shown_form b_shown_form
  walk_at "go"
theorem sg_in (w : Wd) : dInC [("less", "<"), ("most", "<="), ("equal", "="), ("unlike", "/=")] (.str w.str) = .ok (.bl true) := by cases w <;> exact congrArg (fun b => Out.ok (D.bl b)) (by decide +kernel)
theorem sg_ix (w : Wd) : dIxC [("less", "<"), ("most", "<="), ("equal", "="), ("unlike", "/=")] (.str w.str) = .ok (.str (S w.sg)) := by
  have key : ∀ (x y : Str), [(("less" : Str), ("<" : Str)), ("most", "<="), ("equal", "="), ("unlike", "/=")].lookup x = some y → dIxC [("less", "<"), ("most", "<="), ("equal", "="), ("unlike", "/=")] (.str x) = .ok (.str y) := fun x y h => by
    unfold dIxC; simp only; rw [h]
  cases w <;> exact key _ _ (by decide +kernel)
theorem sg_both : dInC [("less", "<"), ("most", "<="), ("equal", "="), ("unlike", "/=")] (.str "both") = .ok (.bl false) := congrArg (fun b => Out.ok (D.bl b)) (by decide +kernel)
theorem sg_either : dInC [("less", "<"), ("most", "<="), ("equal", "="), ("unlike", "/=")] (.str "either") = .ok (.bl false) := congrArg (fun b => Out.ok (D.bl b)) (by decide +kernel)
theorem sg_not : dInC [("less", "<"), ("most", "<="), ("equal", "="), ("unlike", "/=")] (.str "not") = .ok (.bl false) := congrArg (fun b => Out.ok (D.bl b)) (by decide +kernel)
theorem sg_some : dInC [("less", "<"), ("most", "<="), ("equal", "="), ("unlike", "/=")] (.str "some") = .ok (.bl false) := congrArg (fun b => Out.ok (D.bl b)) (by decide +kernel)
theorem sg_all : dInC [("less", "<"), ("most", "<="), ("equal", "="), ("unlike", "/=")] (.str "all") = .ok (.bl false) := congrArg (fun b => Out.ok (D.bl b)) (by decide +kernel)
theorem sg_yes : dInC [("less", "<"), ("most", "<="), ("equal", "="), ("unlike", "/=")] (.str "yes") = .ok (.bl false) := congrArg (fun b => Out.ok (D.bl b)) (by decide +kernel)
theorem sg_no : dInC [("less", "<"), ("most", "<="), ("equal", "="), ("unlike", "/=")] (.str "no") = .ok (.bl false) := congrArg (fun b => Out.ok (D.bl b)) (by decide +kernel)
theorem hb_in (x : Str) : dIn (.str x) (.tup [.str "either", .str "some", .str "all"]) = .ok (.bl ((["either", "some", "all"] : List Str).any fun y => y == x)) := dIn_lit x ["either", "some", "all"]
inductive ShS (b : Nat) : Sn → Prop
  | yes : ShS b .yes
  | no : ShS b .no
  | cmp {w : Wd} {f : List Tm} : Shw b f → ShS b (.cmp w f)
  | both {l : List Sn} : (∀ s ∈ l, ShS b s) → l.length ≤ 10000 → ShS b (.both l)
  | either {l : List Sn} : (∀ s ∈ l, ShS b s) → l.length ≤ 10000 → ShS b (.either l)
  | neg {s : Sn} : ShS b s → ShS b (.neg s)
  | some {x : List Nat} {s : Sn} : x.length ≤ 10000 → ShS b s → ShS b (.some x s)
  | all {x : List Nat} {s : Sn} : x.length ≤ 10000 → ShS b s → ShS b (.all x s)
theorem brk_len (o : Bool) (s : Sn) (t : List Nat) : t.length ≤ (brk o s t).length ∧ (brk o s t).length ≤ t.length + 2 := by
  have l1 : (L "(").length = 1 := by decide +kernel
  have l2 : (L ")").length = 1 := by decide +kernel
  unfold brk
  split
  · rw [List.length_append, List.length_append]; omega
  · omega
theorem fst_eSn (s : Sn) : ∃ w l, eSn s = .tup (.str w :: l) ∧ w = (match s with | .yes => "yes" | .no => "no" | .cmp v _ => v.str | .both _ => "both" | .either _ => "either" | .neg _ => "not" | .some _ _ => "some" | .all _ _ => "all" : Str) := by
  cases s <;> exact ⟨_, _, by rw [eSn], rfl⟩
theorem hb_word (s : Sn) : ((["either", "some", "all"] : List Str).any fun y => y == (match s with | .yes => "yes" | .no => "no" | .cmp v _ => v.str | .both _ => "both" | .either _ => "either" | .neg _ => "not" | .some _ _ => "some" | .all _ _ => "all" : Str)) = isB true s := by
  cases s with
  | cmp v f =>
    cases v with
    | less => exact (by decide +kernel : ((["either", "some", "all"] : List Str).any fun y => y == ("less" : Str)) = false)
    | most => exact (by decide +kernel : ((["either", "some", "all"] : List Str).any fun y => y == ("most" : Str)) = false)
    | equal => exact (by decide +kernel : ((["either", "some", "all"] : List Str).any fun y => y == ("equal" : Str)) = false)
    | unlike => exact (by decide +kernel : ((["either", "some", "all"] : List Str).any fun y => y == ("unlike" : Str)) = false)
  | yes => exact (by decide +kernel : ((["either", "some", "all"] : List Str).any fun y => y == ("yes" : Str)) = false)
  | no => exact (by decide +kernel : ((["either", "some", "all"] : List Str).any fun y => y == ("no" : Str)) = false)
  | both l => exact (by decide +kernel : ((["either", "some", "all"] : List Str).any fun y => y == ("both" : Str)) = false)
  | either l => exact (by decide +kernel : ((["either", "some", "all"] : List Str).any fun y => y == ("either" : Str)) = true)
  | neg s => exact (by decide +kernel : ((["either", "some", "all"] : List Str).any fun y => y == ("not" : Str)) = false)
  | some x s => exact (by decide +kernel : ((["either", "some", "all"] : List Str).any fun y => y == ("some" : Str)) = true)
  | all x s => exact (by decide +kernel : ((["either", "some", "all"] : List Str).any fun y => y == ("all" : Str)) = true)
theorem eq_both (s : Sn) : dEq (.str (match s with | .yes => "yes" | .no => "no" | .cmp v _ => v.str | .both _ => "both" | .either _ => "either" | .neg _ => "not" | .some _ _ => "some" | .all _ _ => "all" : Str)) (.str "both") = .ok (.bl (isB false s && !isB true s)) := by
  cases s with
  | cmp v f => cases v with
    | less => exact kw_less_both
    | most => exact kw_most_both
    | equal => exact kw_equal_both
    | unlike => exact kw_unlike_both
  | _ => walk_at "kw" <;> rfl
theorem held_turn {n : Nat} {o : Bool} {wd : Str} {s : Sn} (hw : dNe (.str wd) (.str "or") = .ok (.bl (!o))) (hs : r_shown n [eSn s] = .ok (.str (S (tSn s)))) (hl : (tSn s).length ≤ 16777000) : r_held_by (n + 1) [.str wd, eSn s] = .ok (.str (S (brk o s (tSn s)))) := by
  obtain ⟨w, l, es, ew⟩ := fst_eSn s
  have g1 := hb_in w
  rw [ew, hb_word s, ← ew] at g1
  have g2 := eq_both s
  rw [← ew] at g2
  have e0 : Str.ofString "(" = S (L "(") := rfl
  have e1' : Str.ofString ")" = S (L ")") := rfl
  have l1 : (L "(").length = 1 := by decide +kernel
  have l2 : (L ")").length = 1 := by decide +kernel
  have f4 := dAdd_S (a := L "(") (b := tSn s) (by omega)
  have f5 := dAdd_S (a := L "(" ++ tSn s) (b := L ")") (by rw [List.length_append]; omega)
  have g3 : mkTup [.str "either", .str "some", .str "all"] = .ok (.tup [.str "either", .str "some", .str "all"]) := mkTup_3 _ _ _
  have ib : isB o s = (isB true s || (!o && (isB false s && !isB true s))) := by cases o <;> cases s <;> rfl
  unfold brk
  rw [ib]
  unfold r_held_by
  rw [es] at hs ⊢
  clear ib es
  unfold b_held_by
  cases c1 : isB true s with
  | true =>
    rw [c1] at g1 g2
    rw [Bool.not_true, Bool.and_false] at g2
    generalize tSn s = T at *
    clear c1 ew
    cases o with
    | true =>
      replace hw : dNe (.str wd) (.str "or") = .ok (.bl false) := hw
      ((walk_at "go") <;> rfl)
    | false =>
      replace hw : dNe (.str wd) (.str "or") = .ok (.bl true) := hw
      ((walk_at "go") <;> rfl)
  | false =>
    rw [c1] at g1 g2
    cases c2 : isB false s with
    | true =>
      rw [c2] at g2
      replace g2 : dEq (.str w) (.str "both") = .ok (.bl true) := g2
      generalize tSn s = T at *
      clear c1 c2 ew
      cases o with
      | true =>
        replace hw : dNe (.str wd) (.str "or") = .ok (.bl false) := hw
        ((walk_at "go") <;> rfl)
      | false =>
        replace hw : dNe (.str wd) (.str "or") = .ok (.bl true) := hw
        ((walk_at "go") <;> rfl)
    | false =>
      rw [c2] at g2
      replace g2 : dEq (.str w) (.str "both") = .ok (.bl false) := g2
      generalize tSn s = T at *
      clear c1 c2 ew
      cases o with
      | true =>
        replace hw : dNe (.str wd) (.str "or") = .ok (.bl false) := hw
        ((walk_at "go") <;> rfl)
      | false =>
        replace hw : dNe (.str wd) (.str "or") = .ok (.bl true) := hw
        ((walk_at "go") <;> rfl)
theorem lits : (L "not ").length = 4 ∧ (L " and ").length = 5 ∧ (L " or ").length = 4 ∧ (L "some").length = 4 ∧ (L "all").length = 3 ∧ (L " ").length = 1 ∧ (L ": ").length = 2 ∧ (L " 0").length = 2 := by decide +kernel
theorem tHs_mem {o : Bool} {l : List Sn} {s : Sn} (h : s ∈ l) : brk o s (tSn s) ∈ tHs o l := by rw [tHs_map]; exact List.mem_map.mpr ⟨s, h, rfl⟩
theorem shown_both {b : Nat} (hb : b ≤ 1900) : ∀ n, (∀ s : Sn, 2 * s.depth ≤ n → ShS b s → 2 * (tSn s).length ≤ 16776000 → r_shown n [eSn s] = .ok (.str (S (tSn s)))) ∧
    (∀ (o : Bool) (wd : Str) (s : Sn), dNe (.str wd) (.str "or") = .ok (.bl (!o)) → 2 * s.depth + 1 ≤ n → ShS b s → 2 * (tSn s).length ≤ 16776000 → r_held_by n [.str wd, eSn s] = .ok (.str (S (brk o s (tSn s)))))
  | 0 => ⟨fun s h => by have : 1 ≤ s.depth := by cases s <;> simp [Sn.depth]
                        omega, fun o wd s _ h => by omega⟩
  | n + 1 => by
    obtain ⟨ih1, ih2⟩ := shown_both hb n
    obtain ⟨t1, t2, t3, t4, t5, t6, t7, t8⟩ := lits
    refine ⟨fun s hd hs hl => ?_, fun o wd s hw hd hs hl => held_turn hw (ih1 s (by omega) hs hl) (by omega)⟩
    have wa : dNe (.str "and") (.str "or") = .ok (.bl true) := (dNe_lit (by decide +kernel) (by decide +kernel)).trans (congrArg (fun b => Out.ok (D.bl b)) (by decide +kernel))
    have wn : dNe (.str "not") (.str "or") = .ok (.bl true) := (dNe_lit (by decide +kernel) (by decide +kernel)).trans (congrArg (fun b => Out.ok (D.bl b)) (by decide +kernel))
    have wo : dNe (.str "or") (.str "or") = .ok (.bl false) := (dNe_lit (by decide +kernel) (by decide +kernel)).trans (congrArg (fun b => Out.ok (D.bl b)) (by decide +kernel))
    have ej := eJoin_ap
    cases s with
    | yes =>
      rw [eSn, tSn]
      have g1 := sg_yes
      have k0 := kw_yes_both
      have k1 := kw_yes_either
      have k2 := kw_yes_not
      have k3 := kw_yes_some
      have k4 := kw_yes_all
      show _ = Out.ok (D.str (Str.ofString "yes"))
      unfold r_shown b_shown
      walk_at "go"
    | no =>
      rw [eSn, tSn]
      have g1 := sg_no
      have k0 := kw_no_both
      have k1 := kw_no_either
      have k2 := kw_no_not
      have k3 := kw_no_some
      have k4 := kw_no_all
      show _ = Out.ok (D.str (Str.ofString "no"))
      unfold r_shown b_shown
      walk_at "go"
    | cmp w f =>
      cases hs with
      | cmp hf =>
      rw [tSn] at hl ⊢
      rw [eSn]
      simp only [List.length_append] at hl
      have hw : w.sg.length ≤ 2 := by cases w <;> decide +kernel
      have f1 : m_shown_form [.tup (f.map encQ)] = _ := shown_form_eq hf hb (by omega)
      have g1 := sg_in w
      have g2 := sg_ix w
      have e0 : Str.ofString " " = S (L " ") := rfl
      have e1' : Str.ofString " 0" = S (L " 0") := rfl
      have f2 := dAdd_S (a := tForm f) (b := L " ") (by omega)
      have f3 := dAdd_S (a := tForm f ++ L " ") (b := w.sg) (by rw [List.length_append]; omega)
      have f4 := dAdd_S (a := tForm f ++ L " " ++ w.sg) (b := L " 0") (by rw [List.length_append, List.length_append]; omega)
      clear hf hd ih1 ih2 wa wn wo ej
      generalize tForm f = T at *
      generalize f.map encQ = F at *
      generalize w.str = W at *
      generalize w.sg = G at *
      unfold r_shown b_shown
      walk_at "go"
    | both l =>
      cases hs with
      | both hf hn =>
      rw [tSn] at hl ⊢
      rw [eSn, eSns_map]
      have hd' : 2 * (Sn.depths l + 1) ≤ n + 1 := by rw [Sn.depth] at hd; exact hd
      have f0 : lcL (gN 2) bYes (eA (r_held_by n) (aC (eC (.str "and")) (aC (eV 2) aN))) [some (.tup [.str "both", .tup (l.map eSn)]), some (.str "both"), none] (l.map eSn) = .ok (l.map fun s => .str (S (brk false s (tSn s)))) := by
        refine lcL_map eSn (fun s => .str (S (brk false s (tSn s)))) l fun s hs => ?_
        have dp := sdep_mem hs
        have ln : (tSn s).length ≤ (joinL (L " and ") (tHs false l)).length := Nat.le_trans (brk_len false s (tSn s)).1 (len_join (tHs_mem hs))
        have f1 := ih2 false "and" s wa (by omega) (hf s hs) (by omega)
        clear ih1 ih2 hl hd hd' hf ej
        walk_at "go"
      have f2 : dJoin (S (L " and ")) (.lst (l.map fun s => .str (S (brk false s (tSn s))))) = .ok (.str (S (joinL (L " and ") (tHs false l)))) := by
        have := dJoin_S (sep := L " and ") (xs := tHs false l) (by omega)
        rw [tHs_map, List.map_map] at this
        rw [tHs_map]
        exact this
      have e0 : Str.ofString " and " = S (L " and ") := rfl
      have hz : (l.map eSn).length ≤ sizeLine := len_ok (by rw [List.length_map]; omega)
      have g1 := sg_both
      have k0 := kw_both_both
      have k1 := kw_both_either
      have k2 := kw_both_not
      have k3 := kw_both_some
      have k4 := kw_both_all
      clear ih1 ih2 hl hd hd' hf
      generalize joinL (L " and ") (tHs false l) = T at *
      generalize l.map eSn = M at *
      unfold r_shown b_shown
      walk_at "go"
    | either l =>
      cases hs with
      | either hf hn =>
      rw [tSn] at hl ⊢
      rw [eSn, eSns_map]
      have hd' : 2 * (Sn.depths l + 1) ≤ n + 1 := by rw [Sn.depth] at hd; exact hd
      have f0 : lcL (gN 2) bYes (eA (r_held_by n) (aC (eC (.str "or")) (aC (eV 2) aN))) [some (.tup [.str "either", .tup (l.map eSn)]), some (.str "either"), none] (l.map eSn) = .ok (l.map fun s => .str (S (brk true s (tSn s)))) := by
        refine lcL_map eSn (fun s => .str (S (brk true s (tSn s)))) l fun s hs => ?_
        have dp := sdep_mem hs
        have ln : (tSn s).length ≤ (joinL (L " or ") (tHs true l)).length := Nat.le_trans (brk_len true s (tSn s)).1 (len_join (tHs_mem hs))
        have f1 := ih2 true "or" s wo (by omega) (hf s hs) (by omega)
        clear ih1 ih2 hl hd hd' hf ej
        walk_at "go"
      have f2 : dJoin (S (L " or ")) (.lst (l.map fun s => .str (S (brk true s (tSn s))))) = .ok (.str (S (joinL (L " or ") (tHs true l)))) := by
        have := dJoin_S (sep := L " or ") (xs := tHs true l) (by omega)
        rw [tHs_map, List.map_map] at this
        rw [tHs_map]
        exact this
      have e0 : Str.ofString " or " = S (L " or ") := rfl
      have hz : (l.map eSn).length ≤ sizeLine := len_ok (by rw [List.length_map]; omega)
      have g1 := sg_either
      have k0 := kw_either_both
      have k1 := kw_either_either
      have k2 := kw_either_not
      have k3 := kw_either_some
      have k4 := kw_either_all
      clear ih1 ih2 hl hd hd' hf
      generalize joinL (L " or ") (tHs true l) = T at *
      generalize l.map eSn = M at *
      unfold r_shown b_shown
      walk_at "go"
    | neg s =>
      cases hs with
      | neg hs =>
      rw [tSn] at hl ⊢
      rw [eSn]
      have hd' : 2 * (s.depth + 1) ≤ n + 1 := by rw [Sn.depth] at hd; exact hd
      have bl := brk_len false s (tSn s)
      rw [List.length_append] at hl
      have f1 := ih2 false "not" s wn (by omega) hs (by omega)
      have f2 := dAdd_S (a := L "not ") (b := brk false s (tSn s)) (by omega)
      have e0 : Str.ofString "not " = S (L "not ") := rfl
      have g1 := sg_not
      have k0 := kw_not_both
      have k1 := kw_not_either
      have k2 := kw_not_not
      have k3 := kw_not_some
      have k4 := kw_not_all
      clear ih1 ih2 hl hd hd' hs bl
      generalize brk false s (tSn s) = T at *
      generalize eSn s = M at *
      unfold r_shown b_shown
      walk_at "go"
    | some x s =>
      cases hs with
      | some hx hs =>
      rw [tSn] at hl ⊢
      rw [eSn]
      have hd' : 2 * (s.depth + 1) ≤ n + 1 := by rw [Sn.depth] at hd; exact hd
      simp only [List.length_append] at hl
      have f1 := ih1 s (by omega) hs (by omega)
      have f2 := dAdd_S (a := L "some") (b := L " ") (by omega)
      have f3 := dAdd_S (a := L "some" ++ L " ") (b := x) (by rw [List.length_append]; omega)
      have f4 := dAdd_S (a := L "some" ++ L " " ++ x) (b := L ": ") (by simp only [List.length_append]; omega)
      have f5 := dAdd_S (a := L "some" ++ L " " ++ x ++ L ": ") (b := tSn s) (by simp only [List.length_append]; omega)
      have e0 : Str.ofString " " = S (L " ") := rfl
      have e1' : Str.ofString ": " = S (L ": ") := rfl
      replace f2 : dAdd (.str "some") (.str (S (L " "))) = _ := f2
      have g1 := sg_some
      have k0 := kw_some_both
      have k1 := kw_some_either
      have k2 := kw_some_not
      have k3 := kw_some_some
      have k4 := kw_some_all
      clear ih1 ih2 hl hd hd' hs hx
      unfold encN
      generalize tSn s = T at *
      generalize eSn s = M at *
      unfold r_shown b_shown
      walk_at "go"
    | all x s =>
      cases hs with
      | all hx hs =>
      rw [tSn] at hl ⊢
      rw [eSn]
      have hd' : 2 * (s.depth + 1) ≤ n + 1 := by rw [Sn.depth] at hd; exact hd
      simp only [List.length_append] at hl
      have f1 := ih1 s (by omega) hs (by omega)
      have f2 := dAdd_S (a := L "all") (b := L " ") (by omega)
      have f3 := dAdd_S (a := L "all" ++ L " ") (b := x) (by rw [List.length_append]; omega)
      have f4 := dAdd_S (a := L "all" ++ L " " ++ x) (b := L ": ") (by simp only [List.length_append]; omega)
      have f5 := dAdd_S (a := L "all" ++ L " " ++ x ++ L ": ") (b := tSn s) (by simp only [List.length_append]; omega)
      have e0 : Str.ofString " " = S (L " ") := rfl
      have e1' : Str.ofString ": " = S (L ": ") := rfl
      replace f2 : dAdd (.str "all") (.str (S (L " "))) = _ := f2
      have g1 := sg_all
      have k0 := kw_all_both
      have k1 := kw_all_either
      have k2 := kw_all_not
      have k3 := kw_all_some
      have k4 := kw_all_all
      clear ih1 ih2 hl hd hd' hs hx
      unfold encN
      generalize tSn s = T at *
      generalize eSn s = M at *
      unfold r_shown b_shown
      walk_at "go"
theorem shown_eq {b : Nat} (hb : b ≤ 1900) {s : Sn} (hd : s.depth ≤ 30) (hs : ShS b s) (hl : 2 * (tSn s).length ≤ 16776000) : m_shown [eSn s] = .ok (.str (S (tSn s))) := (shown_both hb 60).1 s (by omega) hs hl
theorem cutD_take {α : Type} (l : List α) (k : Nat) : cutD l none (some (k : Int)) = l.take k := by
  unfold cutD
  rw [HT.sIx_none, HT.sIx_nat, List.drop_zero, Nat.sub_zero]
  by_cases h : k ≤ l.length
  · rw [Nat.min_eq_left h]
  · rw [Nat.min_eq_right (by omega), List.take_of_length_le (Nat.le_refl _), List.take_of_length_le (by omega)]
theorem Form.take {most : Int} {f : List Tm} (h : Form most f) (k : Nat) : Form most (f.take k) :=
  ⟨fun q hq => h.mono q (List.mem_of_mem_take hq), fun q hq => h.nz q (List.mem_of_mem_take hq), h.up.sublist (List.take_sublist k f)⟩
def triF (nm : List Nat) (t : T3) : List Tm := [([], t.1), ([(nm, 1)], t.2.1), ([(nm, 2)], t.2.2)].filter fun q => decide (q.2 ≠ 0)
def sumQ (f : List Tm) : Int := (f.map (·.2)).sum
def insX (x : N4) : List N4 → List N4
  | [] => [x]
  | y :: l => if ordX y x < 0 then y :: insX x l else if 0 < ordX y x then x :: y :: l else y :: l
theorem insX_sub {x : N4} : ∀ (l : List N4), ∀ y ∈ insX x l, y = x ∨ y ∈ l := by
  intro l
  induction l with
  | nil => intro y hy; exact .inl (List.mem_singleton.mp hy)
  | cons z l ih =>
    intro y hy
    unfold insX at hy
    split at hy
    · rcases List.mem_cons.mp hy with rfl | hy
      · exact .inr List.mem_cons_self
      · rcases ih y hy with h | h
        · exact .inl h
        · exact .inr (List.mem_cons_of_mem _ h)
    · split at hy
      · rcases List.mem_cons.mp hy with rfl | hy
        · exact .inl rfl
        · exact .inr hy
      · exact .inr hy
abbrev UpX (l : List N4) : Prop := l.Pairwise fun x y => val x < val y
theorem insX_up {n : Nat} {x : N4} (hx : GoodX n x) : ∀ (l : List N4), (∀ y ∈ l, GoodX n y) → UpX l → UpX (insX x l) := by
  intro l
  induction l with
  | nil => intro _ _; exact List.pairwise_singleton _ _
  | cons z l ih =>
    intro h u
    have hz := h z List.mem_cons_self
    obtain ⟨u1, u2⟩ := List.pairwise_cons.mp u
    unfold insX
    split
    · rename_i c
      rw [ordX_lt hz hx] at c
      refine List.pairwise_cons.mpr ⟨fun y hy => ?_, ih (fun y hy => h y (List.mem_cons_of_mem _ hy)) u2⟩
      rcases insX_sub l y hy with rfl | hy
      · exact c
      · exact u1 y hy
    · split
      · rename_i d
        rw [ordX_gt hz hx] at d
        refine List.pairwise_cons.mpr ⟨fun y hy => ?_, u⟩
        rcases List.mem_cons.mp hy with rfl | hy
        · exact d
        · have := u1 y hy; grind
      · exact u
structure BX (n : Nat) (l : List N4) : Prop where
  good : ∀ y ∈ l, GoodX n y
  up : UpX l
theorem BX.ins {n : Nat} {l : List N4} (h : BX n l) {x : N4} (hx : GoodX n x) : BX n (insX x l) :=
  ⟨fun y hy => (insX_sub l y hy).elim (fun e => e ▸ hx) (h.good y), insX_up hx l h.good h.up⟩
theorem BX.nil (n : Nat) : BX n [] := ⟨(fun y hy => by cases hy), List.Pairwise.nil⟩
mutual
def Sn.size : Sn → Nat
  | .both l => Sn.sizes l + 1
  | .either l => Sn.sizes l + 1
  | .neg s => s.size + 1
  | .some _ s => s.size + 1
  | .all _ s => s.size + 1
  | _ => 1
def Sn.sizes : List Sn → Nat
  | [] => 0
  | s :: l => s.size + Sn.sizes l
end
theorem cmps_mem {s p : Sn} (hp : p ∈ s.parts) {c : Wd × List Tm} (hc : c ∈ p.cmps) : c ∈ s.cmps := by
  have h : s.isCmp = false := by cases s <;> first | rfl | cases hp
  rw [cmps_parts h]
  exact List.mem_flatMap.mpr ⟨p, hp, hc⟩
def flat (prs : List (N4 × N4)) : List N4 := prs.flatMap fun p => [p.1, p.2]
theorem BX.snoc {n : Nat} {l : List N4} (h : BX n l) {x : N4} (g : GoodX n x) (u : ∀ w ∈ l, val w < val x) : BX n (l ++ [x]) :=
  ⟨fun y hy => (List.mem_append.mp hy).elim (h.good y) fun q => by rw [List.mem_singleton] at q; subst q; exact g,
   List.pairwise_append.mpr ⟨h.up, List.pairwise_singleton _ _, fun a ha b hb => by rw [List.mem_singleton] at hb; subst hb; exact u a ha⟩⟩
def pwM (m : Mn) : Int := (m.map (·.2)).sum
def tOfF (f : List Tm) : T3 := (sumQ (f.filter fun q => decide (pwM q.1 = 0)), sumQ (f.filter fun q => decide (pwM q.1 = 1)), sumQ (f.filter fun q => decide (pwM q.1 = 2)))
def OneN (nm : List Nat) (n : Nat) (s : Sn) : Prop := ∀ c ∈ s.cmps, SzT n (tOfF c.2) ∧ c.2 = triF nm (tOfF c.2)
theorem OneN.part {nm : List Nat} {n : Nat} {s p : Sn} (h : OneN nm n s) (hp : p ∈ s.parts) : OneN nm n p := fun c hc => h c (cmps_mem hp hc)
mutual
def Sn.bnd : Sn → List (List Nat)
  | .both l => Sn.bnds l
  | .either l => Sn.bnds l
  | .neg s => s.bnd
  | .some x s => x :: s.bnd
  | .all x s => x :: s.bnd
  | _ => []
def Sn.bnds : List Sn → List (List Nat)
  | [] => []
  | s :: l => s.bnd ++ Sn.bnds l
end
theorem bnds_flat : ∀ l : List Sn, Sn.bnds l = l.flatMap Sn.bnd
  | [] => rfl
  | s :: l => by rw [Sn.bnds, bnds_flat l, List.flatMap_cons]
structure NmS (s : Sn) : Prop where
  c : ∀ c ∈ s.cmps, ∀ q ∈ c.2, ∀ p ∈ q.1, Nm p.1
  b : ∀ x ∈ s.bnd, Nm x
theorem NmS.both {l : List Sn} (h : NmS (.both l)) : ∀ s ∈ l, NmS s := fun s hs => ⟨fun c hc => h.c c (by rw [Sn.cmps, cmpss_flat]; exact List.mem_flatMap.mpr ⟨s, hs, hc⟩), fun x hx => h.b x (by rw [Sn.bnd, bnds_flat]; exact List.mem_flatMap.mpr ⟨s, hs, hx⟩)⟩
theorem NmS.either {l : List Sn} (h : NmS (.either l)) : ∀ s ∈ l, NmS s := fun s hs => ⟨fun c hc => h.c c (by rw [Sn.cmps, cmpss_flat]; exact List.mem_flatMap.mpr ⟨s, hs, hc⟩), fun x hx => h.b x (by rw [Sn.bnd, bnds_flat]; exact List.mem_flatMap.mpr ⟨s, hs, hx⟩)⟩
theorem NmS.of_both {l : List Sn} (h : ∀ s ∈ l, NmS s) : NmS (.both l) := ⟨fun c hc => by
  rw [Sn.cmps, cmpss_flat] at hc; obtain ⟨s, hs, hc⟩ := List.mem_flatMap.mp hc; exact (h s hs).c c hc, fun x hx => by
  rw [Sn.bnd, bnds_flat] at hx; obtain ⟨s, hs, hx⟩ := List.mem_flatMap.mp hx; exact (h s hs).b x hx⟩
theorem NmS.of_either {l : List Sn} (h : ∀ s ∈ l, NmS s) : NmS (.either l) := ⟨fun c hc => by
  rw [Sn.cmps, cmpss_flat] at hc; obtain ⟨s, hs, hc⟩ := List.mem_flatMap.mp hc; exact (h s hs).c c hc, fun x hx => by
  rw [Sn.bnd, bnds_flat] at hx; obtain ⟨s, hs, hx⟩ := List.mem_flatMap.mp hx; exact (h s hs).b x hx⟩
theorem NmS.yes : NmS .yes := ⟨fun c hc => (List.not_mem_nil hc).elim, fun x hx => by
  rw [show Sn.bnd .yes = [] from by simp [Sn.bnd]] at hx; exact (List.not_mem_nil hx).elim⟩
theorem NmS.no : NmS .no := ⟨fun c hc => (List.not_mem_nil hc).elim, fun x hx => by
  rw [show Sn.bnd .no = [] from by simp [Sn.bnd]] at hx; exact (List.not_mem_nil hx).elim⟩
theorem key_N {x : List Nat} (h : Nm x) : keyP (.str (S x)) = true := strOk_nm h
theorem key_M {m : Mn} (h : ∀ p ∈ m, Nm p.1) : keysP (toPys (m.map encP)) = true := by
  rw [toPys_map]; exact keys_Ms m h
theorem key_F : ∀ {f : List Tm}, (∀ q ∈ f, ∀ p ∈ q.1, Nm p.1) → keysP (toPys (f.map encQ)) = true
  | [], _ => rfl
  | q :: f, h => by
    show (keysP [toPy (encM q.1), .int q.2] && keysP (toPys (f.map encQ))) = true
    rw [key_F fun r hr => h r (List.mem_cons_of_mem _ hr)]
    have := key_M (h q List.mem_cons_self)
    show ((keysP (toPys (q.1.map encP)) && (true && true)) && true) = true
    rw [this]; rfl
theorem word_key (w : Wd) : keyP (.str w.str) = true := by cases w <;> decide +kernel
mutual
theorem key_S : ∀ s : Sn, NmS s → keyP (toPy (eSn s)) = true
  | .yes, _ => by rw [eSn]; decide +kernel
  | .no, _ => by rw [eSn]; decide +kernel
  | .cmp w f, h => by
    rw [eSn]
    show (keyP (.str w.str) && (keysP (toPys (f.map encQ)) && true)) = true
    rw [word_key, key_F (h.c (w, f) (List.mem_singleton.mpr rfl))]; rfl
  | .both l, h => by
    rw [eSn]
    show (keyP (.str "both") && (keysP (toPys (eSns l)) && true)) = true
    rw [show keyP (.str "both") = true from ok_both, keys_S l h.both]; rfl
  | .either l, h => by
    rw [eSn]
    show (keyP (.str "either") && (keysP (toPys (eSns l)) && true)) = true
    rw [show keyP (.str "either") = true from ok_either, keys_S l h.either]; rfl
  | .neg s, h => by
    rw [eSn]
    show (keyP (.str "not") && (keyP (toPy (eSn s)) && true)) = true
    rw [show keyP (.str "not") = true from ok_not, key_S s ⟨h.c, h.b⟩]; rfl
  | .some x s, h => by
    rw [eSn]
    show (keyP (.str "some") && (keyP (.str (S x)) && (keyP (toPy (eSn s)) && true))) = true
    rw [show keyP (.str "some") = true from ok_some, key_N (h.b x List.mem_cons_self), key_S s ⟨h.c, fun y hy => h.b y (List.mem_cons_of_mem _ hy)⟩]; rfl
  | .all x s, h => by
    rw [eSn]
    show (keyP (.str "all") && (keyP (.str (S x)) && (keyP (toPy (eSn s)) && true))) = true
    rw [show keyP (.str "all") = true from ok_all, key_N (h.b x List.mem_cons_self), key_S s ⟨h.c, fun y hy => h.b y (List.mem_cons_of_mem _ hy)⟩]; rfl
theorem keys_S : ∀ l : List Sn, (∀ s ∈ l, NmS s) → keysP (toPys (eSns l)) = true
  | [], _ => rfl
  | s :: l, h => by
    rw [eSns]
    show (keyP (toPy (eSn s)) && keysP (toPys (eSns l))) = true
    rw [key_S s (h s List.mem_cons_self), keys_S l fun t ht => h t (List.mem_cons_of_mem _ ht)]; rfl
end
theorem toPyM_inj {a b : Mn} (h : toPy (encM a) = toPy (encM b)) : a = b := by
  rw [toPy_M, toPy_M] at h
  have h := PyData.tuple.inj h
  have key : ∀ (a b : Mn), (a.map fun p => PyData.tuple [.str (S p.1), .int p.2]) = (b.map fun p => .tuple [.str (S p.1), .int p.2]) → a = b := by
    intro a
    induction a with
    | nil => intro b h; cases b with
      | nil => rfl
      | cons p b => cases h
    | cons p a ih => intro b h; cases b with
      | nil => cases h
      | cons q b =>
        rw [List.map_cons, List.map_cons] at h
        have h1 := List.head_eq_of_cons_eq h
        have h2 := List.tail_eq_of_cons_eq h
        rw [ih b h2]
        have e := PyData.tuple.inj h1
        injection e with e1 e2
        injection e2 with e2 _
        have : p = q := by
          obtain ⟨p1, p2⟩ := p; obtain ⟨q1, q2⟩ := q
          have := S_inj.mp (PyData.str.inj e1)
          have := PyData.int.inj e2
          simp_all
        rw [this]
  exact key a b h
theorem toPyQ_inj : ∀ {f g : List Tm}, toPys (f.map encQ) = toPys (g.map encQ) → f = g
  | [], [], _ => rfl
  | [], _ :: _, h => by cases h
  | _ :: _, [], h => by cases h
  | q :: f, r :: g, h => by
    have h : toPy (encQ q) :: toPys (f.map encQ) = toPy (encQ r) :: toPys (g.map encQ) := h
    injection h with h1 h2
    have e : PyData.tuple [toPy (encM q.1), .int q.2] = .tuple [toPy (encM r.1), .int r.2] := h1
    have e := PyData.tuple.inj e
    injection e with e1 e2
    injection e2 with e2 _
    rw [toPyQ_inj h2]
    obtain ⟨q1, q2⟩ := q; obtain ⟨r1, r2⟩ := r
    have := toPyM_inj e1
    have := PyData.int.inj e2
    simp_all
def wdK : Sn → Nat
  | .yes => 0 | .no => 1 | .cmp .less _ => 2 | .cmp .most _ => 3 | .cmp .equal _ => 4 | .cmp .unlike _ => 5 | .both _ => 6 | .either _ => 7 | .neg _ => 8 | .some _ _ => 9 | .all _ _ => 10
def wdS : Nat → Str
  | 0 => "yes" | 1 => "no" | 2 => "less" | 3 => "most" | 4 => "equal" | 5 => "unlike" | 6 => "both" | 7 => "either" | 8 => "not" | 9 => "some" | _ => "all"
theorem wdK_le (s : Sn) : wdK s ≤ 10 := by
  cases s with
  | cmp w f => cases w <;> simp [wdK]
  | _ => simp [wdK]
theorem wdS_word (s : Sn) : wdS (wdK s) = s.word := by
  cases s with
  | cmp w f => cases w <;> rfl
  | _ => rfl
theorem wdS_inj : ∀ i j : Nat, i ≤ 10 → j ≤ 10 → (wdS i == wdS j) = true → i = j := by
  have : ∀ i ≤ 10, ∀ j ≤ 10, (wdS i == wdS j) = true → i = j := by decide +kernel
  exact fun i j hi hj h => this i hi j hj h
theorem word_py (s : Sn) : ∃ r, toPy (eSn s) = .tuple (.str s.word :: r) := by
  cases s <;> (rw [eSn]; exact ⟨_, rfl⟩)
theorem word_same {s t : Sn} (h : toPy (eSn s) = toPy (eSn t)) : wdK s = wdK t := by
  obtain ⟨r, e⟩ := word_py s
  obtain ⟨r', e'⟩ := word_py t
  rw [e, e'] at h
  have h := PyData.tuple.inj h
  injection h with h _
  have h := PyData.str.inj h
  refine wdS_inj _ _ (wdK_le s) (wdK_le t) ?_
  rw [wdS_word, wdS_word, h]
  exact beq_self_eq_true _
mutual
theorem toPyS_inj : ∀ s t : Sn, toPy (eSn s) = toPy (eSn t) → s = t
  | .yes, t, h => by have := word_same h; cases t <;> first | rfl | (simp [wdK] at this; done) | (rename_i w f; cases w <;> simp [wdK] at this)
  | .no, t, h => by have := word_same h; cases t <;> first | rfl | (simp [wdK] at this; done) | (rename_i w f; cases w <;> simp [wdK] at this)
  | .cmp w f, t, h => by
    have k := word_same h
    cases t with
    | cmp u g =>
      have e : w = u := by cases w <;> cases u <;> first | rfl | (simp [wdK] at k)
      subst e
      rw [eSn, eSn] at h
      have h : PyData.tuple [.str w.str, .tuple (toPys (f.map encQ))] = .tuple [.str w.str, .tuple (toPys (g.map encQ))] := h
      have h := PyData.tuple.inj h
      injection h with _ h
      injection h with h _
      rw [toPyQ_inj (PyData.tuple.inj h)]
    | _ => cases w <;> simp [wdK] at k
  | .both l, t, h => by
    have k := word_same h
    cases t with
    | both m =>
      rw [eSn, eSn] at h
      have h : PyData.tuple [.str "both", .tuple (toPys (eSns l))] = .tuple [.str "both", .tuple (toPys (eSns m))] := h
      have h := PyData.tuple.inj h
      injection h with _ h
      injection h with h _
      rw [toPySs_inj l m (PyData.tuple.inj h)]
    | cmp u g => cases u <;> simp [wdK] at k
    | _ => simp [wdK] at k
  | .either l, t, h => by
    have k := word_same h
    cases t with
    | either m =>
      rw [eSn, eSn] at h
      have h : PyData.tuple [.str "either", .tuple (toPys (eSns l))] = .tuple [.str "either", .tuple (toPys (eSns m))] := h
      have h := PyData.tuple.inj h
      injection h with _ h
      injection h with h _
      rw [toPySs_inj l m (PyData.tuple.inj h)]
    | cmp u g => cases u <;> simp [wdK] at k
    | _ => simp [wdK] at k
  | .neg s, t, h => by
    have k := word_same h
    cases t with
    | neg m =>
      rw [eSn, eSn] at h
      have h : PyData.tuple [.str "not", toPy (eSn s)] = .tuple [.str "not", toPy (eSn m)] := h
      have h := PyData.tuple.inj h
      injection h with _ h
      injection h with h _
      rw [toPyS_inj s m h]
    | cmp u g => cases u <;> simp [wdK] at k
    | _ => simp [wdK] at k
  | .some x s, t, h => by
    have k := word_same h
    cases t with
    | some y m =>
      rw [eSn, eSn] at h
      have h : PyData.tuple [.str "some", .str (S x), toPy (eSn s)] = .tuple [.str "some", .str (S y), toPy (eSn m)] := h
      have h := PyData.tuple.inj h
      injection h with _ h
      injection h with h1 h
      injection h with h _
      rw [toPyS_inj s m h, S_inj.mp (PyData.str.inj h1)]
    | cmp u g => cases u <;> simp [wdK] at k
    | _ => simp [wdK] at k
  | .all x s, t, h => by
    have k := word_same h
    cases t with
    | all y m =>
      rw [eSn, eSn] at h
      have h : PyData.tuple [.str "all", .str (S x), toPy (eSn s)] = .tuple [.str "all", .str (S y), toPy (eSn m)] := h
      have h := PyData.tuple.inj h
      injection h with _ h
      injection h with h1 h
      injection h with h _
      rw [toPyS_inj s m h, S_inj.mp (PyData.str.inj h1)]
    | cmp u g => cases u <;> simp [wdK] at k
    | _ => simp [wdK] at k
theorem toPySs_inj : ∀ l m : List Sn, toPys (eSns l) = toPys (eSns m) → l = m
  | [], [], _ => rfl
  | [], _ :: _, h => by rw [eSns, eSns] at h; cases h
  | _ :: _, [], h => by rw [eSns, eSns] at h; cases h
  | s :: l, t :: m, h => by
    rw [eSns, eSns] at h
    have h : toPy (eSn s) :: toPys (eSns l) = toPy (eSn t) :: toPys (eSns m) := h
    injection h with h1 h2
    rw [toPyS_inj s t h1, toPySs_inj l m h2]
end
theorem eqv_S {s t : Sn} (hs : NmS s) (ht : NmS t) : PyData.eqv (toPy (eSn s)) (toPy (eSn t)) = true ↔ s = t :=
  (eqv_key _ _ (key_S s hs) (key_S t ht)).trans ⟨toPyS_inj s t, fun e => by rw [e]⟩
mutual
theorem dep_S : ∀ s : Sn, (toPy (eSn s)).depth ≤ 2 * s.depth + 4
  | .yes => by rw [eSn]; decide +kernel
  | .no => by rw [eSn]; decide +kernel
  | .cmp w f => by
    rw [eSn]
    show max (PyData.depth (.str w.str)) (max (PyData.depthAll (toPys (f.map encQ)) + 1) 0) + 1 ≤ _
    have h1 := dep_Q f
    have h2 : PyData.depth (.str w.str) = 0 := by simp [PyData.depth]
    rw [h2]
    show _ ≤ 2 * 1 + 4
    omega
  | .both l => by
    rw [eSn]
    show max (PyData.depth (.str "both")) (max (PyData.depthAll (toPys (eSns l)) + 1) 0) + 1 ≤ _
    have h1 := deps_S l
    have h2 : PyData.depth (.str "both") = 0 := by simp [PyData.depth]
    rw [h2, Sn.depth]
    omega
  | .either l => by
    rw [eSn]
    show max (PyData.depth (.str "either")) (max (PyData.depthAll (toPys (eSns l)) + 1) 0) + 1 ≤ _
    have h1 := deps_S l
    have h2 : PyData.depth (.str "either") = 0 := by simp [PyData.depth]
    rw [h2, Sn.depth]
    omega
  | .neg s => by
    rw [eSn]
    show max (PyData.depth (.str "not")) (max (toPy (eSn s)).depth 0) + 1 ≤ _
    have h1 := dep_S s
    have h2 : PyData.depth (.str "not") = 0 := by simp [PyData.depth]
    rw [h2, Sn.depth]
    omega
  | .some x s => by
    rw [eSn]
    show max (PyData.depth (.str "some")) (max (PyData.depth (.str (S x))) (max (toPy (eSn s)).depth 0)) + 1 ≤ _
    have h1 := dep_S s
    have h2 : PyData.depth (.str "some") = 0 := by simp [PyData.depth]
    have h3 : PyData.depth (.str (S x)) = 0 := by simp [PyData.depth]
    rw [h2, h3, Sn.depth]
    omega
  | .all x s => by
    rw [eSn]
    show max (PyData.depth (.str "all")) (max (PyData.depth (.str (S x))) (max (toPy (eSn s)).depth 0)) + 1 ≤ _
    have h1 := dep_S s
    have h2 : PyData.depth (.str "all") = 0 := by simp [PyData.depth]
    have h3 : PyData.depth (.str (S x)) = 0 := by simp [PyData.depth]
    rw [h2, h3, Sn.depth]
    omega
theorem deps_S : ∀ l : List Sn, PyData.depthAll (toPys (eSns l)) ≤ 2 * Sn.depths l + 4
  | [] => by rw [eSns]; exact Nat.zero_le _
  | s :: l => by
    rw [eSns]
    show max (toPy (eSn s)).depth (PyData.depthAll (toPys (eSns l))) ≤ _
    have := dep_S s
    have := deps_S l
    rw [Sn.depths]
    omega
end
theorem shaped_S {s : Sn} (h : NmS s) (hd : s.depth ≤ 29) : SeqAt.shaped (toPy (eSn s)) = true := by
  unfold SeqAt.shaped
  have := dep_S s
  rw [keyP_lay _ (key_S s h)]
  exact decide_eq_true (by omega)
open Classical in
theorem dNotIn_Sn {s : Sn} {l : List Sn} (hs : NmS s) (hl : ∀ t ∈ l, NmS t) (ds : s.depth ≤ 28) (dl : ∀ t ∈ l, t.depth ≤ 28) : dInDp true (eSn s) (.lst (l.map eSn)) = .ok (.bl (!decide (s ∈ l))) := by
  have sh : SeqAt.shaped (toPy (.lst (l.map eSn))) = true := by
    unfold SeqAt.shaped
    rw [← eSns_map]
    have h1 := deps_S l
    have h2 := sdeps_le dl
    have h3 := keysP_lay _ (keys_S l hl)
    rw [show toPy (.lst (eSns l)) = .list (toPys (eSns l)) from rfl]
    simp only [PyData.canLay0, h3, PyData.depth, Bool.true_and]
    exact decide_eq_true (by omega)
  show chk _ (Out.ok (D.bl (if true = true then _ else _))) = _
  rw [chk_pos ⟨shaped_S hs (by omega), sh⟩, if_pos rfl]
  congr 3
  have key : ∀ l : List Sn, (∀ t ∈ l, NmS t) → ((toPys (l.map eSn)).any fun z => PyData.eqv z (toPy (eSn s))) = decide (s ∈ l) := by
    intro l
    induction l with
    | nil => intro _; simp [toPys]
    | cons t l ih =>
      intro h
      have e : PyData.eqv (toPy (eSn t)) (toPy (eSn s)) = decide (s = t) := Bool.eq_iff_iff.mpr ((eqv_S (h t List.mem_cons_self) hs).trans (by simp [eq_comm]))
      show (PyData.eqv (toPy (eSn t)) (toPy (eSn s)) || ((toPys (l.map eSn)).any fun z => PyData.eqv z (toPy (eSn s)))) = _
      rw [ih fun u hu => h u (List.mem_cons_of_mem _ hu), e]
      simp
  exact key l hl
def putS (b : Bool) (l : List Sn) : Sn := if b then .both l else .either l
def wordB (b : Bool) : Str := if b then "both" else "either"
theorem Ok.most {xs : List (List Nat)} {most m2 : Int} {k b : Nat} {f : List Tm} (h : Ok xs most k b f) (l : most ≤ m2) : Ok xs m2 k b f :=
  ⟨fun q hq => ⟨fun p hp => ⟨((h.mono q hq).nm p hp).1, ((h.mono q hq).nm p hp).2.1, Int.le_trans ((h.mono q hq).nm p hp).2.2 l⟩, (h.mono q hq).up, (h.mono q hq).few⟩, h.nin, h.few, h.sz⟩
def wdI : Wd → Nat
  | .less => 0
  | .most => 1
  | .equal => 2
  | .unlike => 3
theorem wd_ix (w : Wd) : dIndex (.lst [.str "less", .str "most", .str "equal", .str "unlike"]) (.str w.str) = .ok (.int (wdI w)) := by
  have e : findD (.str w.str) [.str "less", .str "most", .str "equal", .str "unlike"] = some (wdI w) := by cases w <;> decide +kernel
  unfold dIndex
  simp only []
  rw [e]
  exact chk_go (by cases w <;> decide +kernel) rfl
theorem wd_ixE (w : Wd) {fr : Env → Out D} {ρ : Env} (h : fr ρ = .ok (.str w.str)) : eIndex (eA mkLst (aC (eC (.str "less")) (aC (eC (.str "most")) (aC (eC (.str "equal")) (aC (eC (.str "unlike")) aN))))) (aC fr aN) ρ = .ok (.int (wdI w)) := by
  have e := wd_ix w
  rw [eIndex_ap]
  walk_at "wk"
  rw [eIndexK_lst]
  walk_at "wk"
  rw [h]
  walk_at "wk"
  rw [dIndexA_one, e]
theorem dNe_t0 (l : List D) (h : keysP (toPys l) = true) (hd : PyData.depthAll (toPys l) ≤ 50) : dNe (.tup l) (.tup []) = .ok (.bl (decide (l ≠ []))) := by
  have sh : SeqAt.shaped (toPy (.tup l)) = true := by
    unfold SeqAt.shaped
    have h3 := keysP_lay _ h
    rw [show toPy (.tup l) = .tuple (toPys l) from rfl]
    simp only [PyData.canLay0, h3, PyData.depth, Bool.true_and]
    exact decide_eq_true (by omega)
  have s0 : SeqAt.shaped (toPy (.tup [])) = true := by decide +kernel
  show chk _ (Out.ok (D.bl (!PyData.eqv (toPy (.tup l)) (toPy (.tup []))))) = _
  rw [chk_pos ⟨sh, s0⟩]
  congr 2
  cases l with
  | nil => rfl
  | cons a l => rfl
theorem dNe_M (m : Mn) (h : ∀ p ∈ m, Nm p.1) : dNe (encM m) (.tup []) = .ok (.bl (decide (m ≠ []))) := by
  rw [show encM m = .tup (m.map encP) from rfl, dNe_t0 _ (key_M h)]
  · cases m <;> rfl
  · have : ∀ m : Mn, PyData.depthAll (toPys (m.map encP)) ≤ 50 := by
      intro m
      induction m with
      | nil => decide
      | cons p m ih =>
        rw [List.map_cons]
        show max (PyData.depth (toPy (encP p))) _ ≤ 50
        have : PyData.depth (toPy (encP p)) ≤ 50 := by rw [toPy_P]; simp [PyData.depth, PyData.depthAll]
        omega
    exact this m
def lfF (c : Int) (x : List Nat) (e : Int) : List Tm := (if c = 0 then [] else [([], c)]) ++ [([(x, 1)], e)]
theorem tMn_one (x : List Nat) : tMn [(x, 1)] = x := rfl
theorem tPair_num (k : Int) : tPair [] k = it k := rfl
theorem tPair_name {x : List Nat} (h : x ≠ []) : tPair [(x, 1)] 1 = x := by
  unfold tPair
  rw [tMn_one, if_neg h, if_pos rfl]
def lfT (c : Int) (x : List Nat) (e : Int) : List Nat := if c = 0 then (if e < 0 then L "-" ++ x else x) else it c ++ (if e < 0 then L " - " else L " + ") ++ x
theorem lfF_text {c : Int} {x : List Nat} {e : Int} (hx : x ≠ []) (he : e = 1 ∨ e = -1) : tForm (lfF c x e) = lfT c x e := by
  have e1' : (e.natAbs : Int) = 1 := by omega
  unfold tForm lfF lfT
  by_cases h : c = 0
  · rw [if_pos h, if_pos h]
    show tStep [] ([(x, 1)], e) = _
    unfold tStep
    simp only
    rw [e1', tPair_name hx]
    by_cases n : e < 0
    · rw [if_pos ⟨trivial, n⟩, if_pos n]
    · rw [if_neg (fun z => n z.2), if_pos trivial, if_neg n]
  · rw [if_neg h, if_neg h]
    show tStep (tStep [] ([], c)) ([(x, 1)], e) = _
    have s1 : tStep [] ([], c) = it c := by
      unfold tStep
      simp only
      rw [tPair_num]
      by_cases n : c < 0
      · rw [if_pos ⟨trivial, n⟩, it_neg n, show ((c.natAbs : Int)) = -c by omega]
      · rw [if_neg (fun z => n z.2), if_pos trivial, show ((c.natAbs : Int)) = c by omega]
    rw [s1]
    unfold tStep
    simp only
    rw [e1', tPair_name hx, if_neg (fun z => it_ne c z.1), if_neg (it_ne c)]
    by_cases n : e < 0
    · rw [if_pos n, if_pos n]
    · rw [if_neg n, if_neg n]
theorem lit3 : (L "-").length = 1 ∧ (L " - ").length = 3 ∧ (L " + ").length = 3 ∧ (L " < 0").length = 4 ∧ (L " <= 0").length = 5 ∧ (L " = 0").length = 4 ∧ (L " /= 0").length = 5 := by decide +kernel
theorem it_len {i : Int} {k : Nat} (hk : 0 < k) (h : i.natAbs < 10 ^ k) : (it i).length ≤ k + 1 := by
  have nat : ∀ n : Nat, n < 10 ^ k → (L (toString n)).length ≤ k := fun n hn => by
    unfold L
    rw [Str.ofString_eq_toList]
    simp only [List.length_map]
    rw [show (toString n).toList = Nat.toDigits 10 n from Nat.toList_repr]
    exact (Nat.length_toDigits_le_iff (by decide) hk).mpr hn
  by_cases n : i < 0
  · rw [it_neg n, List.length_append, it_pos (by omega), lit3.1]
    have := nat (-i).toNat (by have : (-i).toNat = i.natAbs := by omega
                               rw [this]; exact h)
    omega
  · rw [it_pos (by omega)]
    have := nat i.toNat (by have : i.toNat = i.natAbs := by omega
                            rw [this]; exact h)
    omega
theorem dEq_M1 (m : Mn) (h : ∀ p ∈ m, Nm p.1) : dEq (encM m) (.tup []) = .ok (.bl (decide (m = []))) := by
  have z := dNe_M m h
  unfold dNe at z
  unfold dEq
  rw [chk_ok] at z
  obtain ⟨c, z⟩ := z
  rw [chk_pos c]
  have z := D.bl.inj (Out.ok.inj z)
  congr 2
  cases q : PyData.eqv (toPy (encM m)) (toPy (.tup [])) <;> rw [q] at z <;> cases m <;> simp_all
def wdT : Wd → List Nat
  | .less => L " < 0"
  | .most => L " <= 0"
  | .equal => L " = 0"
  | .unlike => L " /= 0"
theorem wdT_eq (w : Wd) : wdT w = L " " ++ w.sg ++ L " 0" := by cases w <;> decide +kernel
theorem wdT_ix (w : Wd) : dIx (.lst [.str " < 0", .str " <= 0", .str " = 0", .str " /= 0"]) (.int (wdI w)) = .ok (.str (S (wdT w))) := by
  cases w <;> rfl
theorem cmp_turn0 {c : Int} (hz : Sz 1900 c) {x0 x2 x3 : Option D} {t : D} : (oS (gT [(gN 2), (gN 3)] (encQ ([], c)) [x0, some t, x2, x3]) b__law_compare_v4_1).cont = .nx [x0, some (.str (S (it c))), some (.tup []), some (.int c)] := by
  have f1 : dEq (.tup []) (.tup []) = .ok (.bl true) := dEq_M1 [] (by simp)
  have f2 : cStr [.int c] = .ok (.str (S (it c))) := cStr_int hz (by decide)
  have e0 : encM [] = .tup [] := rfl
  unfold encQ b__law_compare_v4_1
  clear hz
  walk_at "go"
theorem cmp_turn1 {x : List Nat} {e : Int} (hx : Nm x) (he : e = 1 ∨ e = -1) {t : List Nat} (ht : Okt t) (hl : t.length ≤ 1000) {x0 x2 x3 : Option D} :
    (oS (gT [(gN 2), (gN 3)] (encQ ([(x, 1)], e)) [x0, some (.str (S t)), x2, x3]) b__law_compare_v4_1).cont = .nx [x0, some (.str (S (t ++ (if t = [] then (if e < 0 then L "-" else []) else if e < 0 then L " - " else L " + ") ++ x))), some (.tup [.tup [.str (S x), .int 1]]), some (.int e)] := by
  obtain ⟨l1, l2, l3, _⟩ := lit3
  have f1 : dEq (.tup [.tup [.str (S x), .int 1]]) (.tup []) = .ok (.bl false) := (dEq_M1 [(x, 1)] (fun p hp => by rw [List.mem_singleton.mp hp]; exact hx)).trans (by simp)
  have f2 : dNe (.str (S t)) (.str (S [])) = .ok (.bl (!decide (t = []))) := dNe_Tx (okt_str ht) (okt_str okt_nil)
  have e0 : encM [(x, 1)] = .tup [.tup [.str (S x), .int 1]] := rfl
  have g0 : Str.ofString "" = S [] := rfl
  have g1 : Str.ofString "-" = S (L "-") := rfl
  have g2 : Str.ofString " - " = S (L " - ") := rfl
  have g3 : Str.ofString " + " = S (L " + ") := rfl
  have hx9 := hx.len
  have m0 : CMulX 2 0 := cmul_sz (n := 10) (m := 10) (by unfold Sz; decide) (by unfold Sz; decide) (by decide)
  have m1 : CMulX 2 1 := cmul_sz (n := 10) (m := 10) (by unfold Sz; decide) (by unfold Sz; decide) (by decide)
  have i0 : dIx (.lst [.str (S []), .str (S (L "-")), .str (S (L " + ")), .str (S (L " - "))]) (.int 0) = .ok (.str (S [])) := rfl
  have i1 : dIx (.lst [.str (S []), .str (S (L "-")), .str (S (L " + ")), .str (S (L " - "))]) (.int 1) = .ok (.str (S (L "-"))) := rfl
  have i2 : dIx (.lst [.str (S []), .str (S (L "-")), .str (S (L " + ")), .str (S (L " - "))]) (.int 2) = .ok (.str (S (L " + "))) := rfl
  have i3 : dIx (.lst [.str (S []), .str (S (L "-")), .str (S (L " + ")), .str (S (L " - "))]) (.int 3) = .ok (.str (S (L " - "))) := rfl
  have n0 : (2 : Int) * 0 + 0 = 0 := rfl
  have n1 : (2 : Int) * 0 + 1 = 1 := rfl
  have n2 : (2 : Int) * 1 + 0 = 2 := rfl
  have n3 : (2 : Int) * 1 + 1 = 3 := rfl
  have c0 : cInt [.bl false] = .ok (.int 0) := rfl
  have c1 : cInt [.bl true] = .ok (.int 1) := rfl
  unfold encQ b__law_compare_v4_1
  by_cases ct : t = []
  · subst ct
    rw [decide_eq_true (rfl : ([] : List Nat) = []), Bool.not_true] at f2
    rw [if_pos rfl]
    rcases he with rfl | rfl
    · have f4 := dAdd_S (a := []) (b := []) (by simp)
      have f5 := dAdd_S (a := []) (b := x) (by simp; omega)
      rw [List.nil_append] at f4 f5
      have b1 : decide ((1 : Int) < 0) = false := rfl
      clear hx ht hl
      rw [if_neg (by decide), List.append_nil, List.nil_append]
      walk_at "go"
    · have f4 := dAdd_S (a := []) (b := L "-") (by simp; omega)
      have f5 := dAdd_S (a := [] ++ L "-") (b := x) (by simp; omega)
      have b1 : decide ((-1 : Int) < 0) = true := rfl
      clear hx ht hl
      rw [if_pos (by decide)]
      generalize [] ++ L "-" = A at *
      walk_at "go"
  · rw [decide_eq_false ct, Bool.not_false] at f2
    rw [if_neg ct]
    rcases he with rfl | rfl
    · have f4 := dAdd_S (a := t) (b := L " + ") (by omega)
      have f5 := dAdd_S (a := t ++ L " + ") (b := x) (by rw [List.length_append]; omega)
      have b1 : decide ((1 : Int) < 0) = false := rfl
      clear hx ht hl ct
      rw [if_neg (by decide)]
      generalize t ++ L " + " = A at *
      walk_at "go"
    · have f4 := dAdd_S (a := t) (b := L " - ") (by omega)
      have f5 := dAdd_S (a := t ++ L " - ") (b := x) (by rw [List.length_append]; omega)
      have b1 : decide ((-1 : Int) < 0) = true := rfl
      clear hx ht hl ct
      rw [if_pos (by decide)]
      generalize t ++ L " - " = A at *
      walk_at "go"
theorem lfx_loop {c : Int} {x : List Nat} {e : Int} (hc : Sz 1900 c) (hcl : (it c).length ≤ 1000) (hx : Nm x) (he : e = 1 ∨ e = -1) {x0 : Option D} :
    ∃ y2 y3, forL (gT [(gN 2), (gN 3)]) b__law_compare_v4_1 ((lfF c x e).map encQ) [x0, some (.str (S [])), none, none] = .nx [x0, some (.str (S (lfT c x e))), y2, y3] := by
  unfold lfF lfT
  by_cases h : c = 0
  · rw [if_pos h, if_pos h]
    have t1 := cmp_turn1 hx he okt_nil (by simp) (x0 := x0) (x2 := none) (x3 := none)
    refine ⟨some (.tup [.tup [.str (S x), .int 1]]), some (.int e), ?_⟩
    rw [List.nil_append, List.map_cons, List.map_nil, forL_step t1]
    rw [if_pos rfl, List.nil_append]
    show SO.nx _ = _
    by_cases n : e < 0
    · rw [if_pos n, if_pos n]
    · rw [if_neg n, if_neg n, List.nil_append]
  · rw [if_neg h, if_neg h]
    have t0 := cmp_turn0 hc (x0 := x0) (t := .str (S [])) (x2 := none) (x3 := none)
    have t1 := cmp_turn1 hx he (okt_it c) hcl (x0 := x0) (x2 := some (.tup [])) (x3 := some (.int c))
    refine ⟨some (.tup [.tup [.str (S x), .int 1]]), some (.int e), ?_⟩
    rw [List.cons_append, List.nil_append, List.map_cons, List.map_cons, List.map_nil, forL_step t0, forL_step t1, if_neg (it_ne c)]
    rfl
theorem law_compare4_eq (w : Wd) {c : Int} {x : List Nat} {e : Int} (hc : Sz 1900 c) (hcl : (it c).length ≤ 1000) (hx : Nm x) (he : e = 1 ∨ e = -1) :
    m__law_compare_v4 [eSn (.cmp w (lfF c x e))] = .ok (.str (S (tSn (.cmp w (lfF c x e))))) := by
  have nx : x ≠ [] := fun z => by have := hx.pos; rw [z] at this; simp at this
  have et : tSn (.cmp w (lfF c x e)) = lfT c x e ++ wdT w := by
    rw [tSn, lfF_text nx he, wdT_eq, List.append_assoc, List.append_assoc, List.append_assoc]
  have hz : ((lfF c x e).map encQ).length ≤ sizeLine := len_ok (by rw [List.length_map]; unfold lfF; split <;> simp)
  obtain ⟨y2, y3, f1⟩ := lfx_loop hc hcl hx he (x0 := some (eSn (.cmp w (lfF c x e))))
  have f2 := wd_ixE w (fr := (e2 dIx (eV 0) (eC (.int 0)))) (ρ := [some (.tup [.str w.str, .tup ((lfF c x e).map encQ)]), some (.str (S (lfT c x e))), y2, y3]) (by
    generalize (lfF c x e).map encQ = F
    generalize w.str = W
    walk_at "wka")
  have f3 := wdT_ix w
  obtain ⟨l1, l2, l3, l4, l5, l6, l7⟩ := lit3
  have lt : (lfT c x e).length ≤ 1020 := by
    have := hx.len
    unfold lfT
    split
    · split <;> simp <;> omega
    · rw [List.length_append, List.length_append]
      split <;> omega
  have lw : (wdT w).length ≤ 5 := by cases w <;> decide +kernel
  have f4 := dAdd_S (a := lfT c x e) (b := wdT w) (by omega)
  have g0 : Str.ofString "" = S [] := rfl
  rw [et]
  rw [eSn] at f1 ⊢
  clear hc hcl hx he nx et lt lw
  generalize lfT c x e = T at *
  generalize (lfF c x e).map encQ = F at *
  generalize wdT w = WT at *
  generalize w.str = W at *
  unfold m__law_compare_v4 b__law_compare_v4
  walk_at "go"
inductive Dr : Sn → Prop
  | cmp {w : Wd} {c : Int} {x : List Nat} {e : Int} : Sz 110 c → (it c).length ≤ 40 → Nm x → (e = 1 ∨ e = -1) → Dr (.cmp w (lfF c x e))
  | both {l : List Sn} : (∀ s ∈ l, Dr s) → l.length ≤ 1000 → Dr (.both l)
  | either {l : List Sn} : (∀ s ∈ l, Dr s) → l.length ≤ 1000 → Dr (.either l)
  | neg {s : Sn} : Dr s → Dr (.neg s)
  | some {x : List Nat} {s : Sn} : Nm x → Dr s → Dr (.some x s)
  | all {x : List Nat} {s : Sn} : Nm x → Dr s → Dr (.all x s)
theorem dr_shw : ∀ {s : Sn}, Dr s → ShS 200 s
  | .cmp w f, h => by
    cases h with
    | @cmp _ c x e hc hl hx he =>
    refine .cmp ⟨fun q hq p hp => ?_, fun q hq => ?_, fun q hq => ?_, ?_⟩
    · unfold lfF at hq
      rcases List.mem_append.mp hq with hq | hq
      · split at hq
        · cases hq
        · rw [List.mem_singleton.mp hq] at hp; cases hp
      · rw [List.mem_singleton.mp hq] at hp
        rw [List.mem_singleton.mp hp]
        exact ⟨hx, show (1 : Int).natAbs < 2 ^ 200 by decide⟩
    · unfold lfF at hq
      rcases List.mem_append.mp hq with hq | hq
      · split at hq
        · cases hq
        · rw [List.mem_singleton.mp hq]; exact Nat.lt_of_lt_of_le hc (by decide)
      · rw [List.mem_singleton.mp hq]
        unfold Sz
        show e.natAbs < _
        have : e.natAbs = 1 := by omega
        rw [this]; decide
    · unfold lfF at hq
      rcases List.mem_append.mp hq with hq | hq
      · split at hq
        · cases hq
        · rw [List.mem_singleton.mp hq]; simp
      · rw [List.mem_singleton.mp hq]; simp
    · unfold lfF; split <;> simp
  | .both l, h => by
    cases h with
    | both h n => exact .both (fun s hs => dr_shw (h s hs)) (by omega)
  | .either l, h => by
    cases h with
    | either h n => exact .either (fun s hs => dr_shw (h s hs)) (by omega)
  | .neg s, h => by
    cases h with
    | neg h => exact .neg (dr_shw h)
  | .some x s, h => by
    cases h with
    | some hx h => exact .some (by have := hx.len; omega) (dr_shw h)
  | .all x s, h => by
    cases h with
    | all hx h => exact .all (by have := hx.len; omega) (dr_shw h)
  | .yes, h => by cases h
  | .no, h => by cases h
theorem wds : (dEq (.str "") (.str "") = .ok (.bl true) ∧ dEq (.str "") (.str "or") = .ok (.bl false)) ∧ (dEq (.str "and") (.str "") = .ok (.bl false) ∧ dEq (.str "and") (.str "or") = .ok (.bl false)) ∧ (dEq (.str "or") (.str "") = .ok (.bl false) ∧ dEq (.str "or") (.str "or") = .ok (.bl true)) ∧ (dEq (.str "not") (.str "") = .ok (.bl false) ∧ dEq (.str "not") (.str "or") = .ok (.bl false)) := by
  have k : ∀ (a b : Str) (c : Bool), PyData.strOk a = true → PyData.strOk b = true → (a == b) = c → dEq (.str a) (.str b) = .ok (.bl c) := fun a b c ha hb e => by rw [dEq_lit ha hb, e]
  exact ⟨⟨k _ _ _ (by decide +kernel) (by decide +kernel) (by decide +kernel), k _ _ _ (by decide +kernel) (by decide +kernel) (by decide +kernel)⟩, ⟨k _ _ _ (by decide +kernel) (by decide +kernel) (by decide +kernel), k _ _ _ (by decide +kernel) (by decide +kernel) (by decide +kernel)⟩, ⟨k _ _ _ (by decide +kernel) (by decide +kernel) (by decide +kernel), k _ _ _ (by decide +kernel) (by decide +kernel) (by decide +kernel)⟩, ⟨k _ _ _ (by decide +kernel) (by decide +kernel) (by decide +kernel), k _ _ _ (by decide +kernel) (by decide +kernel) (by decide +kernel)⟩⟩
def bsT (bs : Option Bool) (s : Sn) (t : List Nat) : List Nat := match bs with
  | none => t
  | some o => brk o s t
theorem ltext_eq : ∀ (n : Nat) (s : Sn) (bs : Option Bool) (wd : Str), dEq (.str wd) (.str "") = .ok (.bl bs.isNone) → dEq (.str wd) (.str "or") = .ok (.bl (decide (bs = some true))) → s.depth ≤ n → Dr s → 2 * (tSn s).length ≤ 16776000 →
    r__law_text n [eSn s, .str wd] = .ok (.str (S (bsT bs s (tSn s))))
  | 0, s, _, _, _, _, h, _, _ => by have : 1 ≤ s.depth := by cases s <;> simp [Sn.depth]
                                    omega
  | n + 1, s, bs, wd, w1, w2, hd, hs, hl => by
    obtain ⟨t1, t2, t3, t4, t5, t6, t7, t8⟩ := lits
    obtain ⟨⟨q1, q2⟩, ⟨a1, a2⟩, ⟨o1, o2⟩, n1, n2⟩ := wds
    have ej := eJoin_ap
    have l1 : (L "(").length = 1 := by decide +kernel
    have l2 : (L ")").length = 1 := by decide +kernel
    have g1 : Str.ofString "(" = S (L "(") := rfl
    have g2 : Str.ofString ")" = S (L ")") := rfl
    cases s with
    | yes => cases hs
    | no => cases hs
    | cmp w f =>
      cases hs with
      | @cmp _ c x e hc hcl hx he =>
      have f1 := law_compare4_eq w (Nat.lt_of_lt_of_le hc (by decide)) (by omega) hx he
      have eb : bsT bs (.cmp w (lfF c x e)) (tSn (.cmp w (lfF c x e))) = tSn (.cmp w (lfF c x e)) := by
        rcases bs with _ | (_ | _) <;> rfl
      refine Eq.trans ?_ (congrArg (fun t => Out.ok (D.str (S t))) eb.symm)
      have kk : ∀ v : Wd, dEq (.str v.str) (.str "not") = .ok (.bl false) ∧ dEq (.str v.str) (.str "both") = .ok (.bl false) ∧ dEq (.str v.str) (.str "either") = .ok (.bl false) ∧ dEq (.str v.str) (.str "some") = .ok (.bl false) ∧ dEq (.str v.str) (.str "all") = .ok (.bl false) := fun v => by
        cases v
        · exact ⟨kw_less_not, kw_less_both, kw_less_either, kw_less_some, kw_less_all⟩
        · exact ⟨kw_most_not, kw_most_both, kw_most_either, kw_most_some, kw_most_all⟩
        · exact ⟨kw_equal_not, kw_equal_both, kw_equal_either, kw_equal_some, kw_equal_all⟩
        · exact ⟨kw_unlike_not, kw_unlike_both, kw_unlike_either, kw_unlike_some, kw_unlike_all⟩
      obtain ⟨k0, k1, k2, k3, k4⟩ := kk w
      clear hc hcl hx he hl hd w1 w2 eb kk
      generalize tSn (.cmp w (lfF c x e)) = T at *
      rw [eSn] at f1 ⊢
      generalize (lfF c x e).map encQ = F at *
      generalize w.str = W at *
      unfold r__law_text b__law_text
      walk_at "go"
    | both l =>
      cases hs with
      | both hf hn =>
      rw [tSn] at hl ⊢
      rw [eSn, eSns_map]
      have hd' : Sn.depths l + 1 ≤ n + 1 := by rw [Sn.depth] at hd; exact hd
      have f0 : lcL (gN 4) bYes (eA (r__law_text n) (aC (eV 4) (aC (eC (.str "and")) aN))) [some (.tup [.str "both", .tup (l.map eSn)]), some (.str wd), some (.str "both"), none, none] (l.map eSn) = .ok (l.map fun s => .str (S (brk false s (tSn s)))) := by
        refine lcL_map eSn (fun s => .str (S (brk false s (tSn s)))) l fun s hs => ?_
        have dp := sdep_mem hs
        have ln : (tSn s).length ≤ (joinL (L " and ") (tHs false l)).length := Nat.le_trans (brk_len false s (tSn s)).1 (len_join (tHs_mem hs))
        have f1 := ltext_eq n s (some false) "and" a1 a2 (by omega) (hf s hs) (by omega)
        replace f1 : r__law_text n [eSn s, .str "and"] = .ok (.str (S (brk false s (tSn s)))) := f1
        clear w1 w2 hl hd hd' hf ej
        walk_at "go"
      have f2 : dJoin (S (L " and ")) (.lst (l.map fun s => .str (S (brk false s (tSn s))))) = .ok (.str (S (joinL (L " and ") (tHs false l)))) := by
        have := dJoin_S (sep := L " and ") (xs := tHs false l) (by omega)
        rw [tHs_map, List.map_map] at this
        rw [tHs_map]
        exact this
      have e0 : Str.ofString " and " = S (L " and ") := rfl
      have hz : (l.map eSn).length ≤ sizeLine := len_ok (by rw [List.length_map]; omega)
      have b1 := dAdd_S (a := L "(") (b := joinL (L " and ") (tHs false l)) (by omega)
      have b2 := dAdd_S (a := L "(" ++ joinL (L " and ") (tHs false l)) (b := L ")") (by rw [List.length_append]; omega)
      have k0 := kw_both_not
      have k1 := kw_both_both
      have k2 := kw_both_either
      have k3 := kw_both_some
      have k4 := kw_both_all
      clear hl hd hd' hf
      generalize joinL (L " and ") (tHs false l) = T at *
      generalize l.map eSn = M at *
      unfold r__law_text b__law_text
      rcases bs with _ | (_ | _)
      · replace w1 : dEq (.str wd) (.str "") = .ok (.bl true) := w1
        replace w2 : dEq (.str wd) (.str "or") = .ok (.bl false) := w2
        show _ = Out.ok (D.str (S T))
        walk_at "go"
      · replace w1 : dEq (.str wd) (.str "") = .ok (.bl false) := w1
        replace w2 : dEq (.str wd) (.str "or") = .ok (.bl false) := w2
        show _ = Out.ok (D.str (S (L "(" ++ T ++ L ")")))
        walk_at "go"
      · replace w1 : dEq (.str wd) (.str "") = .ok (.bl false) := w1
        replace w2 : dEq (.str wd) (.str "or") = .ok (.bl true) := w2
        show _ = Out.ok (D.str (S T))
        walk_at "go"
    | either l =>
      cases hs with
      | either hf hn =>
      rw [tSn] at hl ⊢
      rw [eSn, eSns_map]
      have hd' : Sn.depths l + 1 ≤ n + 1 := by rw [Sn.depth] at hd; exact hd
      have f0 : lcL (gN 4) bYes (eA (r__law_text n) (aC (eV 4) (aC (eC (.str "or")) aN))) [some (.tup [.str "either", .tup (l.map eSn)]), some (.str wd), some (.str "either"), none, none] (l.map eSn) = .ok (l.map fun s => .str (S (brk true s (tSn s)))) := by
        refine lcL_map eSn (fun s => .str (S (brk true s (tSn s)))) l fun s hs => ?_
        have dp := sdep_mem hs
        have ln : (tSn s).length ≤ (joinL (L " or ") (tHs true l)).length := Nat.le_trans (brk_len true s (tSn s)).1 (len_join (tHs_mem hs))
        have f1 := ltext_eq n s (some true) "or" o1 o2 (by omega) (hf s hs) (by omega)
        replace f1 : r__law_text n [eSn s, .str "or"] = .ok (.str (S (brk true s (tSn s)))) := f1
        clear w1 w2 hl hd hd' hf ej
        walk_at "go"
      have f2 : dJoin (S (L " or ")) (.lst (l.map fun s => .str (S (brk true s (tSn s))))) = .ok (.str (S (joinL (L " or ") (tHs true l)))) := by
        have := dJoin_S (sep := L " or ") (xs := tHs true l) (by omega)
        rw [tHs_map, List.map_map] at this
        rw [tHs_map]
        exact this
      have e0 : Str.ofString " or " = S (L " or ") := rfl
      have hz : (l.map eSn).length ≤ sizeLine := len_ok (by rw [List.length_map]; omega)
      have b1 := dAdd_S (a := L "(") (b := joinL (L " or ") (tHs true l)) (by omega)
      have b2 := dAdd_S (a := L "(" ++ joinL (L " or ") (tHs true l)) (b := L ")") (by rw [List.length_append]; omega)
      have k0 := kw_either_not
      have k1 := kw_either_both
      have k2 := kw_either_either
      have k3 := kw_either_some
      have k4 := kw_either_all
      clear hl hd hd' hf
      generalize joinL (L " or ") (tHs true l) = T at *
      generalize l.map eSn = M at *
      unfold r__law_text b__law_text
      rcases bs with _ | (_ | _)
      · replace w1 : dEq (.str wd) (.str "") = .ok (.bl true) := w1
        replace w2 : dEq (.str wd) (.str "or") = .ok (.bl false) := w2
        show _ = Out.ok (D.str (S T))
        walk_at "go"
      · replace w1 : dEq (.str wd) (.str "") = .ok (.bl false) := w1
        replace w2 : dEq (.str wd) (.str "or") = .ok (.bl false) := w2
        show _ = Out.ok (D.str (S (L "(" ++ T ++ L ")")))
        walk_at "go"
      · replace w1 : dEq (.str wd) (.str "") = .ok (.bl false) := w1
        replace w2 : dEq (.str wd) (.str "or") = .ok (.bl true) := w2
        show _ = Out.ok (D.str (S (L "(" ++ T ++ L ")")))
        walk_at "go"
    | neg s =>
      cases hs with
      | neg hs =>
      rw [tSn] at hl ⊢
      rw [eSn]
      have hd' : s.depth + 1 ≤ n + 1 := by rw [Sn.depth] at hd; exact hd
      have bl := brk_len false s (tSn s)
      rw [List.length_append] at hl
      have f1 := ltext_eq n s (some false) "not" n1 n2 (by omega) hs (by omega)
      replace f1 : r__law_text n [eSn s, .str "not"] = .ok (.str (S (brk false s (tSn s)))) := f1
      have f2 := dAdd_S (a := L "not ") (b := brk false s (tSn s)) (by omega)
      have e0 : Str.ofString "not " = S (L "not ") := rfl
      have k0 := kw_not_not
      have k1 := kw_not_both
      have k2 := kw_not_either
      have k3 := kw_not_some
      have k4 := kw_not_all
      have eb : bsT bs (.neg s) (L "not " ++ brk false s (tSn s)) = L "not " ++ brk false s (tSn s) := by
        rcases bs with _ | (_ | _) <;> rfl
      refine Eq.trans ?_ (congrArg (fun t => Out.ok (D.str (S t))) eb.symm)
      clear hl hd hd' hs bl eb w1 w2
      generalize brk false s (tSn s) = T at *
      generalize eSn s = M at *
      unfold r__law_text b__law_text
      walk_at "go"
    | some x s =>
      cases hs with
      | some hx hs =>
      rw [tSn] at hl ⊢
      rw [eSn]
      have hd' : s.depth + 1 ≤ n + 1 := by rw [Sn.depth] at hd; exact hd
      simp only [List.length_append] at hl
      have hx9 := hx.len
      have f1 := ltext_eq n s none "" q1 q2 (by omega) hs (by omega)
      replace f1 : r__law_text n [eSn s, .str ""] = .ok (.str (S (tSn s))) := f1
      have f2 := dAdd_S (a := L "some") (b := L " ") (by omega)
      have f3 := dAdd_S (a := L "some" ++ L " ") (b := x) (by rw [List.length_append]; omega)
      have f4 := dAdd_S (a := L "some" ++ L " " ++ x) (b := L ": ") (by simp only [List.length_append]; omega)
      have f5 := dAdd_S (a := L "some" ++ L " " ++ x ++ L ": ") (b := tSn s) (by simp only [List.length_append]; omega)
      have b1 := dAdd_S (a := L "(") (b := L "some" ++ L " " ++ x ++ L ": " ++ tSn s) (by simp only [List.length_append]; omega)
      have b2 := dAdd_S (a := L "(" ++ (L "some" ++ L " " ++ x ++ L ": " ++ tSn s)) (b := L ")") (by simp only [List.length_append]; omega)
      have e0 : Str.ofString " " = S (L " ") := rfl
      have e1' : Str.ofString ": " = S (L ": ") := rfl
      replace f2 : dAdd (.str "some") (.str (S (L " "))) = _ := f2
      have k0 := kw_some_not
      have k1 := kw_some_both
      have k2 := kw_some_either
      have k3 := kw_some_some
      have k4 := kw_some_all
      clear hl hd hd' hs hx
      unfold encN
      generalize L "some" ++ L " " ++ x ++ L ": " ++ tSn s = T at *
      generalize eSn s = M at *
      unfold r__law_text b__law_text
      rcases bs with _ | (_ | _)
      · replace w1 : dEq (.str wd) (.str "") = .ok (.bl true) := w1
        replace w2 : dEq (.str wd) (.str "or") = .ok (.bl false) := w2
        show _ = Out.ok (D.str (S T))
        walk_at "go"
      · replace w1 : dEq (.str wd) (.str "") = .ok (.bl false) := w1
        replace w2 : dEq (.str wd) (.str "or") = .ok (.bl false) := w2
        show _ = Out.ok (D.str (S (L "(" ++ T ++ L ")")))
        walk_at "go"
      · replace w1 : dEq (.str wd) (.str "") = .ok (.bl false) := w1
        replace w2 : dEq (.str wd) (.str "or") = .ok (.bl true) := w2
        show _ = Out.ok (D.str (S (L "(" ++ T ++ L ")")))
        walk_at "go"
    | all x s =>
      cases hs with
      | all hx hs =>
      rw [tSn] at hl ⊢
      rw [eSn]
      have hd' : s.depth + 1 ≤ n + 1 := by rw [Sn.depth] at hd; exact hd
      simp only [List.length_append] at hl
      have hx9 := hx.len
      have f1 := ltext_eq n s none "" q1 q2 (by omega) hs (by omega)
      replace f1 : r__law_text n [eSn s, .str ""] = .ok (.str (S (tSn s))) := f1
      have f2 := dAdd_S (a := L "all") (b := L " ") (by omega)
      have f3 := dAdd_S (a := L "all" ++ L " ") (b := x) (by rw [List.length_append]; omega)
      have f4 := dAdd_S (a := L "all" ++ L " " ++ x) (b := L ": ") (by simp only [List.length_append]; omega)
      have f5 := dAdd_S (a := L "all" ++ L " " ++ x ++ L ": ") (b := tSn s) (by simp only [List.length_append]; omega)
      have b1 := dAdd_S (a := L "(") (b := L "all" ++ L " " ++ x ++ L ": " ++ tSn s) (by simp only [List.length_append]; omega)
      have b2 := dAdd_S (a := L "(" ++ (L "all" ++ L " " ++ x ++ L ": " ++ tSn s)) (b := L ")") (by simp only [List.length_append]; omega)
      have e0 : Str.ofString " " = S (L " ") := rfl
      have e1' : Str.ofString ": " = S (L ": ") := rfl
      replace f2 : dAdd (.str "all") (.str (S (L " "))) = _ := f2
      have k0 := kw_all_not
      have k1 := kw_all_both
      have k2 := kw_all_either
      have k3 := kw_all_some
      have k4 := kw_all_all
      clear hl hd hd' hs hx
      unfold encN
      generalize L "all" ++ L " " ++ x ++ L ": " ++ tSn s = T at *
      generalize eSn s = M at *
      unfold r__law_text b__law_text
      rcases bs with _ | (_ | _)
      · replace w1 : dEq (.str wd) (.str "") = .ok (.bl true) := w1
        replace w2 : dEq (.str wd) (.str "or") = .ok (.bl false) := w2
        show _ = Out.ok (D.str (S T))
        walk_at "go"
      · replace w1 : dEq (.str wd) (.str "") = .ok (.bl false) := w1
        replace w2 : dEq (.str wd) (.str "or") = .ok (.bl false) := w2
        show _ = Out.ok (D.str (S (L "(" ++ T ++ L ")")))
        walk_at "go"
      · replace w1 : dEq (.str wd) (.str "") = .ok (.bl false) := w1
        replace w2 : dEq (.str wd) (.str "or") = .ok (.bl true) := w2
        show _ = Out.ok (D.str (S (L "(" ++ T ++ L ")")))
        walk_at "go"
theorem law_text_eq {s : Sn} (hd : s.depth ≤ 60) (hs : Dr s) (hl : 2 * (tSn s).length ≤ 16776000) : m__law_text [eSn s, .str ""] = .ok (.str (S (tSn s))) := ltext_eq 60 s none "" wds.1.1 wds.1.2 hd hs hl
theorem in_wds (l : List Nat) : dIn (.str (S l)) (.lst (words.map fun w => .str (S w))) = .ok (.bl (decide (l ∈ words))) := by
  show ((dInL false (.str (S l)) (.lst (words.map fun w => .str (S w)))).or _) = _
  have : dInL false (.str (S l)) (.lst (words.map fun w => .str (S w))) = .ok (.bl (decide (l ∈ words))) := by
    show chk _ (Out.ok (D.bl (if false = true then _ else _))) = _
    rw [chk_pos ⟨rfl, by simp [List.all_map, flatD]⟩, if_neg Bool.false_ne_true]
    congr 2
    rw [List.any_map]
    have : ((fun y => eqD y (D.str (S l))) ∘ fun w => D.str (S w)) = fun w => decide (w = l) := by
      funext w
      exact S_beq w l
    rw [this]
    exact Bool.eq_iff_iff.mpr (by simp [List.any_eq_true])
  rw [this]; rfl
theorem word_loop : ∀ (n : Nat) (f : Nat → D) (acc : List Nat) (rest : Int) (x7 : Option D) {x1 x3 x4 x5 : Option D}, acc.length + n ≤ 10 → 0 ≤ rest → (∀ c ∈ acc, 97 ≤ c ∧ c ≤ 122) →
    ∃ acc' rest' x7', forL (gN 7) b__law_any_names_1 ((List.range n).map f) [some (.int rest), x1, some (.str (S abc)), x3, x4, x5, some (.str (S acc)), x7] = .nx [some (.int rest'), x1, some (.str (S abc)), x3, x4, x5, some (.str (S acc')), x7'] ∧
      acc'.length = acc.length + n ∧ 0 ≤ rest' ∧ ∀ c ∈ acc', 97 ≤ c ∧ c ≤ 122 := by
  intro n
  induction n with
  | zero => intro f acc rest x7 x1 x3 x4 x5 _ h z; exact ⟨acc, rest, x7, rfl, rfl, h, z⟩
  | succ n ih =>
    intro f acc rest x7 x1 x3 x4 x5 hl h0 z
    have m0 : 0 ≤ rest % 26 := Int.emod_nonneg _ (by decide)
    have m1 : rest % 26 < 26 := Int.emod_lt_of_pos _ (by decide)
    have h1 : 0 ≤ rest / 26 := Int.ediv_nonneg h0 (by decide)
    obtain ⟨acc', rest', x7', e, l', r', z'⟩ := ih (fun k => f (k + 1)) (acc ++ [97 + (rest % 26).toNat]) (rest / 26) (some (f 0)) (x1 := x1) (x3 := x3) (x4 := x4) (x5 := x5) (by simp; omega) h1 (fun c hc => by
      rcases List.mem_append.mp hc with q | q
      · exact z c q
      · have : c = 97 + (rest % 26).toNat := by simpa using q
        subst this; omega)
    refine ⟨acc', rest', x7', ?_, by rw [l']; simp; omega, r', z'⟩
    have e1 := abc_at m0 m1
    have e2 := dMod_int (i := rest) (j := 26) (by decide)
    have e3 := dDiv_int (i := rest) (j := 26) (by decide) (show Sz 5 26 by unfold Sz; decide) (by decide)
    have e4 := dAdd_S (a := acc) (b := [97 + (rest % 26).toNat]) (by simp; omega)
    rw [List.range_succ_eq_map, List.map_cons, List.map_map, forL_cons]
    have e5 : ((List.range n).map (f ∘ Nat.succ)) = (List.range n).map (fun k => f (k + 1)) := rfl
    rw [e5]
    clear ih z z' l' r' hl h0 h1 m0 m1
    generalize forL (gN 7) b__law_any_names_1 ((List.range n).map (fun k => f (k + 1))) = R at *
    unfold b__law_any_names_1
    walk_at "pda"
structure Nw (l : List Nat) : Prop where
  pos : 1 ≤ l.length
  len : l.length ≤ 9
  let_ : ∀ c ∈ l, 97 ≤ c ∧ c ≤ 122
theorem Nw.nm {l : List Nat} (h : Nw l) : Nm l := ⟨h.pos, by have := h.len; omega, h.let_⟩
theorem fit_nw {l : List Nat} (h : 1 ≤ l.length) (k : l.length ≤ 8) (z : ∀ c ∈ l, 97 ≤ c ∧ c ≤ 122) : Nw (fit l) := by
  unfold fit
  by_cases c : l ∈ words
  · rw [if_pos c]
    refine ⟨by simp, by simp; omega, fun c hc => ?_⟩
    rcases List.mem_append.mp hc with q | q
    · exact z c q
    · have : c = 113 := by simpa using q
      subst this; omega
  · rw [if_neg c]; exact ⟨h, by omega, z⟩
theorem any_turn {rest : Int} (h : 0 ≤ rest) {found : List D} (hf : found.length ≤ 5) {k : D} {x1 x4 x5 x6 x7 : Option D} :
    ∃ w rest' y5 y6 y7, (oS (gN 4 k [some (.int rest), x1, some (.str (S abc)), some (.lst found), x4, x5, x6, x7]) b__law_any_names_2).cont = .nx [some (.int rest'), x1, some (.str (S abc)), some (.lst (found ++ [.str (S w)])), some k, y5, y6, y7] ∧ 0 ≤ rest' ∧ Nw w := by
  have s0 : 0 ≤ rest % 8 := Int.emod_nonneg _ (by decide)
  have s1 : rest % 8 < 8 := Int.emod_lt_of_pos _ (by decide)
  have h1 : 0 ≤ rest / 8 := Int.ediv_nonneg h (by decide)
  obtain ⟨n, hn⟩ : ∃ n : Nat, 1 + rest % 8 = (n : Int) := ⟨(1 + rest % 8).toNat, by omega⟩
  obtain ⟨w, rest', x7', e, l', r', z'⟩ := word_loop n (fun (k : Nat) => .int k) [] (rest / 8) x7 (x1 := x1) (x3 := some (.lst found)) (x4 := some k) (x5 := some (.int (n : Nat))) (by simp; omega) h1 (by simp)
  rw [List.length_nil, Nat.zero_add] at l'
  have e0 : Str.ofString "some" = S [115, 111, 109, 101] := by decide +kernel
  have e1' : Str.ofString "all" = S [97, 108, 108] := by decide +kernel
  have e2' : Str.ofString "and" = S [97, 110, 100] := by decide +kernel
  have e3 : Str.ofString "or" = S [111, 114] := by decide +kernel
  have e4 : Str.ofString "not" = S [110, 111, 116] := by decide +kernel
  have e5 : Str.ofString "yes" = S [121, 101, 115] := by decide +kernel
  have e6 : Str.ofString "no" = S [110, 111] := by decide +kernel
  have e7 : Str.ofString "q" = S [113] := by decide +kernel
  have ee : Str.ofString "" = S [] := rfl
  have e8 : mkLst [.str (S [115, 111, 109, 101]), .str (S [97, 108, 108]), .str (S [97, 110, 100]), .str (S [111, 114]), .str (S [110, 111, 116]), .str (S [121, 101, 115]), .str (S [110, 111])] = .ok (.lst (words.map fun w => .str (S w))) := chk_pos (by decide)
  have e9 := in_wds w
  have t0 : ((n : Nat) : Int).toNat = n := Int.toNat_natCast n
  have e10 := dAdd_S (a := w) (b := [113]) (by simp; omega)
  have e11 := dMod_int (i := rest) (j := 8) (by decide)
  have e12 := dDiv_int (i := rest) (j := 8) (by decide) (show Sz 5 8 by unfold Sz; decide) (by decide)
  refine ⟨fit w, rest', some (.int (n : Nat)), some (.str (S (fit w))), x7', ?_, r', fit_nw (by omega) (by omega) z'⟩
  have l5 : found.length < sizeLine := len_lt (by omega)
  clear z' r' h1 s0 s1 h
  unfold fit
  by_cases c : w ∈ words
  · rw [decide_eq_true c] at e9
    rw [if_pos c]
    clear c l'
    generalize words.map (fun w => D.str (S w)) = WS at *
    unfold b__law_any_names_2
    walk_at "go"
  · rw [decide_eq_false c] at e9
    rw [if_neg c]
    clear c l'
    generalize words.map (fun w => D.str (S w)) = WS at *
    unfold b__law_any_names_2
    walk_at "go"
theorem any_names_eq {c : Int} (h : 0 ≤ c) : ∃ a b, m__law_any_names [.int c, .int 2] = .ok (.lst [.str (S a), .str (S b)]) ∧ Nw a ∧ Nw b := by
  obtain ⟨a, r1, y5, y6, y7, e1', h1, na⟩ := any_turn h (found := []) (by simp) (k := .int (0 : Nat)) (x1 := some (.int 2)) (x4 := none) (x5 := none) (x6 := none) (x7 := none)
  obtain ⟨b, r2, z5, z6, z7, e2', h2, nb⟩ := any_turn h1 (found := [.str (S a)]) (by simp) (k := .int (1 : Nat)) (x1 := some (.int 2)) (x4 := some (.int (0 : Nat))) (x5 := y5) (x6 := y6) (x7 := y7)
  refine ⟨a, b, ?_, na, nb⟩
  have ee := abc_str
  have l : forL (gN 4) b__law_any_names_2 ((List.range 2).map fun (n : Nat) => .int n) [some (.int c), some (.int 2), some (.str (S abc)), some (.lst []), none, none, none, none] = .nx [some (.int r2), some (.int 2), some (.str (S abc)), some (.lst [.str (S a), .str (S b)]), some (.int (1 : Nat)), z5, z6, z7] := by
    show forL _ _ [.int (0 : Nat), .int (1 : Nat)] _ = _
    rw [forL_step e1', List.nil_append, forL_step e2']
    rfl
  have t0 : (2 : Int).toNat = 2 := rfl
  clear e1' e2' na nb h h1 h2
  unfold m__law_any_names b__law_any_names
  walk_at "go"
theorem nw_take {l : List Nat} (h : Nw l) {k : Nat} (hk : 1 ≤ k) (h8 : k ≤ 8) : Nw (l.take k) := ⟨by have := h.pos; rw [List.length_take]; omega, by rw [List.length_take]; omega, fun c hc => h.let_ c (List.mem_of_mem_take hc)⟩
theorem names33_eq {c : Int} (h : 0 ≤ c) : ∃ a b, m__law_names_v4 [.int c] = .ok (.lst [.str (S a), .str (S b)]) ∧ Nw a ∧ Nw b := by
  have h1 : 0 ≤ c / 2 := Int.ediv_nonneg h (by decide)
  obtain ⟨a, b, e, na, nb⟩ := any_names_eq h1
  have f1 := dMod_int (i := c) (j := 2) (by decide)
  have f2 := dDiv_int (i := c) (j := 2) (by decide) (show Sz 5 2 by unfold Sz; decide) (by decide)
  have f3 := dMod_int (i := c / 2) (j := 5) (by decide)
  have f4 := dDiv_int (i := c) (j := 10) (by decide) (show Sz 5 10 by unfold Sz; decide) (by decide)
  have f5 := dMod_int (i := c / 10) (j := 7) (by decide)
  have m0 : 0 ≤ c / 10 % 7 := Int.emod_nonneg _ (by decide)
  have m1 : c / 10 % 7 < 7 := Int.emod_lt_of_pos _ (by decide)
  have last : ∀ f : List Nat, Nw f → Nw ((f ++ [97]).take 8) := fun f hf => ⟨by have := hf.pos; rw [List.length_take, List.length_append]; simp; omega, by rw [List.length_take]; omega, fun c hc => by
    rcases List.mem_append.mp (List.mem_of_mem_take hc) with q | q
    · exact hf.let_ c q
    · have : c = 97 := by simpa using q
      subst this; omega⟩
  have ea : Str.ofString "a" = S [97] := by decide +kernel
  have cut : ∀ f : List Nat, f.length ≤ 9 → dSl (.str (S (f ++ [97]))) none (some 8) = .ok (.str (S ((f ++ [97]).take 8))) := fun f hf => by
    rw [dSl_S (by simp; omega)]
    exact congrArg (fun l => Out.ok (D.str (S l))) (cutD_take (f ++ [97]) 8)
  by_cases c1 : c % 2 = 1
  · refine ⟨a, b, ?_, na, nb⟩
    have c1' : (c % 2 = 1) = True := eq_true c1
    clear cut last na nb m0 m1 h h1 c1
    unfold m__law_names_v4 b__law_names_v4
    walk_at "go"
  · have c1' : (c % 2 = 1) = False := eq_false c1
    by_cases c2 : c / 2 % 5 = 1
    · have c2' : (c / 2 % 5 = 1) = True := eq_true c2
      obtain ⟨j, hj⟩ : ∃ j : Nat, c / 10 % 7 = (j : Int) := ⟨(c / 10 % 7).toNat, by omega⟩
      have hj7 : j < 7 := by omega
      obtain ⟨w, hw⟩ : ∃ w, words[j]? = some w := ⟨words[j]'(by show j < 7; exact hj7), List.getElem?_eq_getElem (by show j < 7; exact hj7)⟩
      have mw : w ∈ words := List.mem_of_getElem? hw
      have ww : 2 ≤ w.length ∧ w.length ≤ 4 ∧ ∀ c ∈ w, 97 ≤ c ∧ c ≤ 122 := by
        have : ∀ w ∈ words, 2 ≤ w.length ∧ w.length ≤ 4 ∧ ∀ c ∈ w, 97 ≤ c ∧ c ≤ 122 := by decide
        exact this w mw
      have g1 : dIx (.lst (words.map fun w => .str (S w))) (.int (c / 10 % 7)) = .ok (.str (S w)) := by
        rw [hj]; exact dIx_lst (by rw [List.getElem?_map, hw]; rfl)
      have g2 : dSl (.str (S b)) none (some 4) = .ok (.str (S (b.take 4))) := by
        rw [dSl_S (by have := nb.len; omega)]
        exact congrArg (fun l => Out.ok (D.str (S l))) (cutD_take b 4)
      have nt := nw_take nb (k := 4) (by decide) (by decide)
      have t4 : (b.take 4).length ≤ 4 := by rw [List.length_take]; omega
      have g3 := dAdd_S (a := w) (b := b.take 4) (by omega)
      have hf : ∃ f, f = w ++ b.take 4 := ⟨_, rfl⟩
      obtain ⟨f, ef⟩ := hf
      have nf : Nm f := by
        subst ef
        refine ⟨by rw [List.length_append]; omega, by rw [List.length_append]; omega, fun c hc => ?_⟩
        rcases List.mem_append.mp hc with q | q
        · exact ww.2.2 c q
        · exact nt.let_ c q
      have lf : f.length ≤ 8 := by subst ef; rw [List.length_append]; omega
      rw [← ef] at g3
      have g4 : dEq (.str (S f)) (.str (S [110, 111, 116])) = .ok (.bl (decide (f = [110, 111, 116]))) := dEq_Tx (okt_str (okt_nm nf)) (by decide +kernel)
      have e0 : Str.ofString "some" = S [115, 111, 109, 101] := by decide +kernel
      have e1' : Str.ofString "all" = S [97, 108, 108] := by decide +kernel
      have e2' : Str.ofString "and" = S [97, 110, 100] := by decide +kernel
      have e3 : Str.ofString "or" = S [111, 114] := by decide +kernel
      have e4 : Str.ofString "not" = S [110, 111, 116] := by decide +kernel
      have e5 : Str.ofString "yes" = S [121, 101, 115] := by decide +kernel
      have e6 : Str.ofString "no" = S [110, 111] := by decide +kernel
      have e7 : Str.ofString "q" = S [113] := by decide +kernel
      have e8 : mkLst [.str (S [115, 111, 109, 101]), .str (S [97, 108, 108]), .str (S [97, 110, 100]), .str (S [111, 114]), .str (S [110, 111, 116]), .str (S [121, 101, 115]), .str (S [110, 111])] = .ok (.lst (words.map fun w => .str (S w))) := chk_pos (by decide)
      have q0 : dMulS (.str (S [113])) (.int 0) = .ok (.str (S [])) := (chk_pos ⟨by decide, by decide, by decide⟩).trans (congrArg (fun s => Out.ok (D.str s)) (by decide +kernel))
      have q1 : dMulS (.str (S [113])) (.int 1) = .ok (.str (S [113])) := (chk_pos ⟨by decide, by decide, by decide⟩).trans (congrArg (fun s => Out.ok (D.str s)) (by decide +kernel))
      have h0 : cInt [.bl false] = .ok (.int 0) := rfl
      have h1' : cInt [.bl true] = .ok (.int 1) := rfl
      by_cases cf : f = [110, 111, 116]
      · rw [decide_eq_true cf] at g4
        have g5 := dAdd_S (a := f) (b := [113]) (by simp; omega)
        have nw : Nw (f ++ [113]) := ⟨by simp, by rw [List.length_append]; simp; omega, fun c hc => by
          rcases List.mem_append.mp hc with q | q
          · exact nf.let_ c q
          · have : c = 113 := by simpa using q
            subst this; omega⟩
        have g6 := dAdd_S (a := f ++ [113]) (b := [97]) (by simp; omega)
        have g7 := cut (f ++ [113]) (by have := nw.len; omega)
        refine ⟨f ++ [113], ((f ++ [113]) ++ [97]).take 8, ?_, nw, last _ nw⟩
        clear cut last na nb m0 m1 h h1 c1 c2 hj hj7 hw mw ww nt t4 ef nf lf cf nw
        generalize ((f ++ [113]) ++ [97]).take 8 = Z at *
        generalize (f ++ [113]) ++ [97] = Y at *
        generalize f ++ [113] = X at *
        generalize words.map (fun w => D.str (S w)) = WS at *
        generalize c / 10 % 7 = C7 at *
        unfold m__law_names_v4 b__law_names_v4
        walk_at "go"
      · rw [decide_eq_false cf] at g4
        have g5 := dAdd_S (a := f) (b := []) (by simp; omega)
        rw [List.append_nil] at g5
        have nw : Nw f := ⟨nf.pos, by omega, nf.let_⟩
        have g6 := dAdd_S (a := f) (b := [97]) (by simp; omega)
        have g7 := cut f (by omega)
        refine ⟨f, (f ++ [97]).take 8, ?_, nw, last _ nw⟩
        clear cut last na nb m0 m1 h h1 c1 c2 hj hj7 hw mw ww nt t4 ef nf lf cf nw
        generalize (f ++ [97]).take 8 = Z at *
        generalize f ++ [97] = Y at *
        generalize words.map (fun w => D.str (S w)) = WS at *
        generalize c / 10 % 7 = C7 at *
        unfold m__law_names_v4 b__law_names_v4
        walk_at "go"
    · have c2' : (c / 2 % 5 = 1) = False := eq_false c2
      have g6 := dAdd_S (a := a) (b := [97]) (by have := na.len; simp; omega)
      have g7 := cut a na.len
      refine ⟨a, (a ++ [97]).take 8, ?_, na, last _ na⟩
      clear cut last na nb m0 m1 h h1 c1 c2
      generalize (a ++ [97]).take 8 = Z at *
      generalize a ++ [97] = Y at *
      unfold m__law_names_v4 b__law_names_v4
      walk_at "go"
theorem leaf33_eq {c : Int} (h : 0 ≤ c) {a b : List Nat} (na : Nw a) (nb : Nw b) : ∃ w k x e, m__law_leaf_v3 [.int c, .lst [.str (S a), .str (S b)]] = .ok (eSn (.cmp w (lfF k x e))) ∧ Sz 110 k ∧ (it k).length ≤ 40 ∧ (x = a ∨ x = b) ∧ (e = 1 ∨ e = -1) := by
  have r2 : ∀ z : Int, z % 2 = 0 ∨ z % 2 = 1 := fun z => by omega
  have f0 := dMod_int (i := c) (j := 2) (by decide)
  have f1 := dDiv_int (i := c) (j := 64) (by decide) (show Sz 7 64 by unfold Sz; decide) (by decide)
  have f2 := dMod_int (i := c / 64) (j := 4) (by decide)
  have f3 := dMod_int (i := c / 64) (j := 1000000000000000000000000000000) (by decide)
  have f4 := dDiv_int (i := c) (j := 2) (by decide) (show Sz 7 2 by unfold Sz; decide) (by decide)
  have f5 := dMod_int (i := c / 2) (j := 2) (by decide)
  have f6 := dDiv_int (i := c) (j := 4) (by decide) (show Sz 7 4 by unfold Sz; decide) (by decide)
  have f7 := dMod_int (i := c / 4) (j := 2) (by decide)
  have f8 := dDiv_int (i := c) (j := 8) (by decide) (show Sz 7 8 by unfold Sz; decide) (by decide)
  have f9 := dMod_int (i := c / 8) (j := 2) (by decide)
  have f10 := dDiv_int (i := c) (j := 16) (by decide) (show Sz 7 16 by unfold Sz; decide) (by decide)
  have f11 := dMod_int (i := c / 16) (j := 4) (by decide)
  have p30 : dPow (.int 10) (.int 30) = .ok (.int 1000000000000000000000000000000) := PD.p30
  obtain ⟨x, hx, ex⟩ : ∃ x, (x = a ∨ x = b) ∧ dIx (.lst [.str (S a), .str (S b)]) (.int (c % 2)) = .ok (.str (S x)) := by
    rcases r2 c with e | e
    · rw [e]; exact ⟨a, .inl rfl, rfl⟩
    · rw [e]; exact ⟨b, .inr rfl, rfl⟩
  obtain ⟨sz, hs0, hs1, es⟩ : ∃ sz : Int, 0 ≤ sz ∧ sz < 1000000000000000000000000000000 ∧ dIx (.lst [.int (c / 64 % 4), .int (c / 64 % 1000000000000000000000000000000)]) (.int (c / 2 % 2)) = .ok (.int sz) := by
    rcases r2 (c / 2) with e | e
    · rw [e]; exact ⟨c / 64 % 4, by omega, by omega, rfl⟩
    · rw [e]; exact ⟨c / 64 % 1000000000000000000000000000000, Int.emod_nonneg _ (by decide), Int.emod_lt_of_pos _ (by decide), rfl⟩
  obtain ⟨w, ew⟩ : ∃ w : Wd, dIx (.lst [.str "less", .str "most", .str "equal", .str "unlike"]) (.int (c / 16 % 4)) = .ok (.str w.str) := by
    have : c / 16 % 4 = 0 ∨ c / 16 % 4 = 1 ∨ c / 16 % 4 = 2 ∨ c / 16 % 4 = 3 := by omega
    rcases this with e | e | e | e <;> rw [e]
    · exact ⟨.less, rfl⟩
    · exact ⟨.most, rfl⟩
    · exact ⟨.equal, rfl⟩
    · exact ⟨.unlike, rfl⟩
  have g1 : CMulX 2 (c / 4 % 2) := cmul_sz (n := 5) (m := 5) (by unfold Sz; decide) (by unfold Sz; omega) (by decide)
  have g2 : CMulX 2 (c / 8 % 2) := cmul_sz (n := 5) (m := 5) (by unfold Sz; decide) (by unfold Sz; omega) (by decide)
  have g3 : CMulX sz (1 - 2 * (c / 4 % 2)) := cmul_sz (n := 110) (m := 5) (by unfold Sz; omega) (by unfold Sz; omega) (by decide)
  have g4 : ∀ A B : D, dAdd (.lst [A]) (.lst [B]) = .ok (.lst [A, B]) := fun A B => dAdd_L (by simp)
  have hk : (sz * (1 - 2 * (c / 4 % 2))).natAbs < 1000000000000000000000000000000 := by
    rcases r2 (c / 4) with e | e
    · rw [e]; omega
    · rw [e]; omega
  have he : (1 - 2 * (c / 8 % 2) = 1 ∨ 1 - 2 * (c / 8 % 2) = (-1 : Int)) := by omega
  refine ⟨w, sz * (1 - 2 * (c / 4 % 2)), x, 1 - 2 * (c / 8 % 2), ?_, by unfold Sz; omega, by have := it_len (k := 30) (by decide) (Nat.lt_of_lt_of_le hk (by decide)); omega, hx, he⟩
  clear hk he hx hs0 hs1 r2 h na nb
  rw [eSn]
  unfold lfF
  by_cases z : sz * (1 - 2 * (c / 4 % 2)) = 0
  · have zz : (sz * (1 - 2 * (c / 4 % 2)) = 0) = True := eq_true z
    rw [if_pos z]
    have e0 : encQ ([(x, 1)], 1 - 2 * (c / 8 % 2)) = .tup [.tup [.tup [.str (S x), .int 1]], .int (1 - 2 * (c / 8 % 2))] := rfl
    rw [List.nil_append, List.map_cons, List.map_nil, e0]
    clear z e0
    unfold m__law_leaf_v3 b__law_leaf_v3
    walk_at "go"
  · have zz : (sz * (1 - 2 * (c / 4 % 2)) = 0) = False := eq_false z
    rw [if_neg z]
    have e0 : encQ ([(x, 1)], 1 - 2 * (c / 8 % 2)) = .tup [.tup [.tup [.str (S x), .int 1]], .int (1 - 2 * (c / 8 % 2))] := rfl
    have e1' : encQ (([], sz * (1 - 2 * (c / 4 % 2))) : Tm) = .tup [.tup [], .int (sz * (1 - 2 * (c / 4 % 2)))] := rfl
    rw [List.cons_append, List.nil_append, List.map_cons, List.map_cons, List.map_nil, e0, e1']
    clear z e0 e1'
    unfold m__law_leaf_v3 b__law_leaf_v3
    walk_at "go"
open Classical in
noncomputable def addD (k : List Sn) (s : Sn) : List Sn := if s ∈ k then k else k ++ [s]
noncomputable def keptD (l : List Sn) : List Sn := l.foldl addD []
noncomputable def foldD (b : Bool) (l : List Sn) : Sn := match keptD l with
  | [p] => p
  | k => putS b k
theorem addD_sub {k : List Sn} {s t : Sn} (h : t ∈ addD k s) : t ∈ k ∨ t = s := by
  unfold addD at h
  split at h
  · exact .inl h
  · rcases List.mem_append.mp h with h | h
    · exact .inl h
    · exact .inr (List.mem_singleton.mp h)
theorem keptD_sub : ∀ (l k : List Sn) {t : Sn}, t ∈ l.foldl addD k → t ∈ k ∨ t ∈ l
  | [], k, t, h => .inl h
  | s :: l, k, t, h => by
    rcases keptD_sub l _ h with h | h
    · rcases addD_sub h with h | h
      · exact .inl h
      · exact .inr (by rw [h]; exact List.mem_cons_self)
    · exact .inr (List.mem_cons_of_mem _ h)
theorem addD_len (k : List Sn) (s : Sn) : (addD k s).length ≤ k.length + 1 ∧ k.length ≤ (addD k s).length ∧ addD k s ≠ [] := by
  unfold addD
  split
  · rename_i h
    exact ⟨by omega, Nat.le_refl _, fun z => by rw [z] at h; cases h⟩
  · exact ⟨by simp, by simp, by simp⟩
theorem keptD_len : ∀ (l k : List Sn), (l.foldl addD k).length ≤ k.length + l.length ∧ k.length ≤ (l.foldl addD k).length
  | [], k => ⟨by simp, Nat.le_refl _⟩
  | s :: l, k => by
    have := keptD_len l (addD k s)
    have := addD_len k s
    rw [List.foldl_cons, List.length_cons]
    omega
theorem keptD_ne {l : List Sn} (h : l ≠ []) : keptD l ≠ [] := by
  cases l with
  | nil => exact absurd rfl h
  | cons s l =>
    intro z
    have h1 := (keptD_len l (addD [] s)).2
    have h2 := (addD_len [] s).2.2
    have h3 : (l.foldl addD (addD [] s)) = [] := z
    rw [h3] at h1
    exact h2 (List.eq_nil_of_length_eq_zero (Nat.le_zero.mp h1))
def wt (s : Sn) : Nat := (tSn s).length + 10
def wts (l : List Sn) : Nat := (l.map wt).sum
theorem wts_app (a b : List Sn) : wts (a ++ b) = wts a + wts b := by unfold wts; rw [List.map_append, List.sum_append]
theorem keptD_wts : ∀ (l k : List Sn), wts (l.foldl addD k) ≤ wts k + wts l
  | [], k => by unfold wts; simp
  | s :: l, k => by
    have h1 := keptD_wts l (addD k s)
    have h2 : wts (addD k s) ≤ wts k + wt s := by
      unfold addD
      split
      · omega
      · rw [wts_app]; exact Nat.le_refl _
    have h3 : wts (s :: l) = wt s + wts l := by unfold wts; rw [List.map_cons, List.sum_cons]
    rw [List.foldl_cons]
    omega
theorem tHs_len (o : Bool) (sep : List Nat) (hs : sep.length ≤ 5) : ∀ l : List Sn, (joinL sep (tHs o l)).length ≤ wts l := by
  have key : ∀ l : List Sn, ((tHs o l).map List.length).sum + (tHs o l).length * 8 ≤ wts l := by
    intro l
    induction l with
    | nil => rw [tHs]; simp
    | cons s l ih =>
      have h1 := (brk_len o s (tSn s)).2
      have h3 : wts (s :: l) = wt s + wts l := by unfold wts; rw [List.map_cons, List.sum_cons]
      rw [tHs, List.map_cons, List.sum_cons, List.length_cons, h3]
      unfold wt
      omega
  intro l
  have k := key l
  cases h : tHs o l with
  | nil => simp [joinL]
  | cons x xs =>
    rw [h, List.map_cons, List.sum_cons, List.length_cons] at k
    rw [joinL_len]
    have : xs.length * sep.length ≤ xs.length * 5 := Nat.mul_le_mul_left _ hs
    omega
theorem foldD_cases (b : Bool) (l : List Sn) : (∃ p, foldD b l = p ∧ keptD l = [p]) ∨ (foldD b l = putS b (keptD l) ∧ (keptD l).length ≠ 1) := by
  unfold foldD
  match h : keptD l with
  | [p] => exact .inl ⟨p, rfl, rfl⟩
  | [] => exact .inr ⟨rfl, by simp⟩
  | p :: q :: k => exact .inr ⟨rfl, by simp⟩
theorem foldD_len (b : Bool) (l : List Sn) : (tSn (foldD b l)).length ≤ wts l := by
  have hk := keptD_wts l []
  replace hk : wts (keptD l) ≤ 0 + wts l := hk
  rcases foldD_cases b l with ⟨p, e, k⟩ | ⟨e, _⟩
  · rw [e]
    rw [k] at hk
    have : wts [p] = wt p := by unfold wts; simp
    unfold wt at this
    omega
  · rw [e]
    have t := lits
    cases b with
    | true =>
      show (tSn (.both (keptD l))).length ≤ _
      rw [tSn]
      have := tHs_len false (L " and ") (by omega) (keptD l)
      omega
    | false =>
      show (tSn (.either (keptD l))).length ≤ _
      rw [tSn]
      have := tHs_len true (L " or ") (by omega) (keptD l)
      omega
theorem foldD_dr (b : Bool) {l : List Sn} (h : ∀ s ∈ l, Dr s) (hl : l.length ≤ 1000) (hn : l ≠ []) : Dr (foldD b l) := by
  have sub : ∀ s ∈ keptD l, s ∈ l := fun s hs => (keptD_sub l [] hs).resolve_left (fun z => by cases z)
  have len : (keptD l).length ≤ 0 + l.length := (keptD_len l []).1
  rcases foldD_cases b l with ⟨p, e, k⟩ | ⟨e, _⟩
  · rw [e]; exact h p (sub p (by rw [k]; exact List.mem_singleton.mpr rfl))
  · rw [e]
    cases b with
    | true => exact .both (fun s hs => h s (sub s hs)) (by omega)
    | false => exact .either (fun s hs => h s (sub s hs)) (by omega)
theorem foldD_dep (b : Bool) {l : List Sn} {d : Nat} (h : ∀ s ∈ l, s.depth ≤ d) (hn : l ≠ []) : (foldD b l).depth ≤ d + 1 := by
  have sub : ∀ s ∈ keptD l, s ∈ l := fun s hs => (keptD_sub l [] hs).resolve_left (fun z => by cases z)
  rcases foldD_cases b l with ⟨p, e, k⟩ | ⟨e, _⟩
  · rw [e]; exact Nat.le_succ_of_le (h p (sub p (by rw [k]; exact List.mem_singleton.mpr rfl)))
  · rw [e]
    have := sdeps_le (l := keptD l) (n := d) fun s hs => h s (sub s hs)
    cases b with
    | true => show (Sn.both (keptD l)).depth ≤ _; rw [Sn.depth]; omega
    | false => show (Sn.either (keptD l)).depth ≤ _; rw [Sn.depth]; omega
theorem dr_nms : ∀ {s : Sn}, Dr s → NmS s
  | .cmp w f, h => by
    cases h with
    | @cmp _ c x e hc hl hx he =>
    have e0 : (Sn.cmp w (lfF c x e)).bnd = [] := by simp [Sn.bnd]
    refine ⟨fun q hq p hp r hr => ?_, fun y hy => (by rw [e0] at hy; cases hy)⟩
    rw [Sn.cmps] at hq
    rw [List.mem_singleton.mp hq] at hp
    unfold lfF at hp
    rcases List.mem_append.mp hp with hp | hp
    · split at hp
      · cases hp
      · rw [List.mem_singleton.mp hp] at hr; cases hr
    · rw [List.mem_singleton.mp hp] at hr
      rw [List.mem_singleton.mp hr]; exact hx
  | .both l, h => by
    cases h with
    | both h n => exact NmS.of_both fun s hs => dr_nms (h s hs)
  | .either l, h => by
    cases h with
    | either h n => exact NmS.of_either fun s hs => dr_nms (h s hs)
  | .neg s, h => by
    cases h with
    | neg h => exact ⟨(dr_nms h).c, (dr_nms h).b⟩
  | .some x s, h => by
    cases h with
    | some hx h => exact ⟨(dr_nms h).c, fun y hy => by
        rw [Sn.bnd] at hy
        rcases List.mem_cons.mp hy with rfl | hy
        · exact hx
        · exact (dr_nms h).b y hy⟩
  | .all x s, h => by
    cases h with
    | all hx h => exact ⟨(dr_nms h).c, fun y hy => by
        rw [Sn.bnd] at hy
        rcases List.mem_cons.mp hy with rfl | hy
        · exact hx
        · exact (dr_nms h).b y hy⟩
  | .yes, h => by cases h
  | .no, h => by cases h
open Classical in
theorem fold_turn {k : List Sn} {s : Sn} (hk : ∀ t ∈ k, NmS t ∧ t.depth ≤ 28) (hs : NmS s ∧ s.depth ≤ 28) (hl : k.length ≤ 10000) {x0 x1 x3 : Option D} :
    (oS (gN 3 (eSn s) [x0, x1, some (.lst (k.map eSn)), x3]) b__law_folded_v3_1).cont = .nx [x0, x1, some (.lst ((addD k s).map eSn)), some (eSn s)] := by
  have f1 := dNotIn_Sn hs.1 (fun t ht => (hk t ht).1) hs.2 (fun t ht => (hk t ht).2)
  have l1 : (k.map eSn).length < sizeLine := len_lt (by rw [List.length_map]; omega)
  clear hk hs hl
  unfold addD
  by_cases c : s ∈ k
  · rw [decide_eq_true c] at f1
    rw [if_pos c]
    clear c
    generalize k.map eSn = K at *
    generalize eSn s = X at *
    unfold b__law_folded_v3_1
    walk_at "go"
  · rw [decide_eq_false c] at f1
    rw [if_neg c, List.map_append, List.map_cons, List.map_nil]
    clear c
    generalize k.map eSn = K at *
    generalize eSn s = X at *
    unfold b__law_folded_v3_1
    walk_at "go"
theorem fold33_eq (b : Bool) {l : List Sn} (h : ∀ s ∈ l, NmS s ∧ s.depth ≤ 28) (hl : l.length ≤ 10000) (hn : l ≠ []) : m__law_folded_v3 [.str (wordB b), .lst (l.map eSn)] = .ok (eSn (foldD b l)) := by
  have hz : (l.map eSn).length ≤ sizeLine := len_ok (by rw [List.length_map]; omega)
  obtain ⟨ρ, er, y3, ey⟩ := forL_inv eSn (G := gN 3) (b := b__law_folded_v3_1) (fun pre ρ => ∃ y3, ρ = [some (.str (wordB b)), some (.lst (l.map eSn)), some (.lst ((pre.foldl addD []).map eSn)), y3]) l (ρ := [some (.str (wordB b)), some (.lst (l.map eSn)), some (.lst []), none]) ⟨none, rfl⟩
    fun pre s post ρ e ⟨y3, er⟩ => by
      subst er
      have hk : ∀ t ∈ pre.foldl addD [], NmS t ∧ t.depth ≤ 28 := fun t ht => h t (by
        have := (keptD_sub pre [] ht).resolve_left (fun z => by cases z)
        rw [e]; exact List.mem_append_left _ this)
      have ln := (keptD_len pre []).1
      have ll := congrArg List.length e
      rw [List.length_append] at ll
      have t := fold_turn hk (h s (by rw [e]; simp)) (by simp at ln; omega) (x0 := some (.str (wordB b))) (x1 := some (.lst (l.map eSn))) (x3 := y3)
      exact ⟨_, t, some (eSn s), by rw [List.foldl_append]; rfl⟩
  subst ey
  have lk : (keptD l).length ≤ 0 + l.length := (keptD_len l []).1
  have nk := keptD_ne hn
  have er' : forL (gN 3) b__law_folded_v3_1 (l.map eSn) [some (.str (wordB b)), some (.lst (l.map eSn)), some (.lst []), none] = .nx [some (.str (wordB b)), some (.lst (l.map eSn)), some (.lst ((keptD l).map eSn)), y3] := er
  have lz : ((keptD l).map eSn).length ≤ sizeLine := len_ok (by rw [List.length_map]; omega)
  rcases foldD_cases b l with ⟨p, e, k⟩ | ⟨e, k⟩
  · rw [e]
    rw [k, List.map_cons, List.map_nil] at er' lz
    clear er h hl hn k e nk lk
    generalize l.map eSn = M at *
    generalize eSn p = X at *
    generalize wordB b = W at *
    unfold m__law_folded_v3 b__law_folded_v3
    walk_at "go"
    exact if_pos (by decide)
  · rw [e]
    have et : eSn (putS b (keptD l)) = .tup [.str (wordB b), .tup ((keptD l).map eSn)] := by
      cases b
      · show eSn (.either _) = _; rw [eSn, eSns_map]; rfl
      · show eSn (.both _) = _; rw [eSn, eSns_map]; rfl
    rw [et]
    have c1 : ((((keptD l).map eSn).length : Int) = 1) = False := eq_false (by rw [List.length_map]; omega)
    clear er h hl hn k e nk lk et
    generalize (keptD l).map eSn = K at *
    generalize l.map eSn = M at *
    generalize wordB b = W at *
    unfold m__law_folded_v3 b__law_folded_v3
    walk_at "go"
def encSB (p : Sn × Nat) : D := .tup [eSn p.1, .int (p.2 : Nat)]
def Bok (p : Sn × Nat) : Prop := Dr p.1 ∧ p.1.depth ≤ p.2 ∧ p.2 ≤ 8
def wtB (B : List (Sn × Nat)) : Nat := wts (B.map (·.1))
theorem wtB_app (a b : List (Sn × Nat)) : wtB (a ++ b) = wtB a + wtB b := by unfold wtB; rw [List.map_append, wts_app]
theorem bestN33 : ∀ (l : List Nat) (m : Nat), bestD true (.int (m : Nat)) (l.map fun (k : Nat) => D.int (k : Nat)) = .int ((l.foldl max m : Nat) : Int)
  | [], m => rfl
  | k :: l, m => by
    show bestD true (if dataLt (toPy (.int (m : Nat))) (toPy (.int (k : Nat))) = true then _ else _) _ = _
    have : dataLt (toPy (.int (m : Nat))) (toPy (.int (k : Nat))) = decide (((m : Nat) : Int) < (k : Nat)) := PySem.W.dataLt_int _ _
    rw [this]
    by_cases c : ((m : Nat) : Int) < (k : Nat)
    · rw [if_pos (decide_eq_true c), bestN33 l k]
      show _ = D.int ((l.foldl max (max m k) : Nat) : Int)
      rw [show max m k = k by omega]
    · rw [if_neg (by simpa using c), bestN33 l m]
      show _ = D.int ((l.foldl max (max m k) : Nat) : Int)
      rw [show max m k = m by omega]
theorem best_dep (k : Nat) (l : List Nat) : cBest true [.lst ((k :: l).map fun (k : Nat) => D.int (k : Nat))] = .ok (.int ((l.foldl max k : Nat) : Int)) := by
  show chk (BestOk (D.int (k : Nat) :: l.map fun (k : Nat) => D.int (k : Nat))) (Out.ok (bestD true (.int (k : Nat)) (l.map fun (k : Nat) => D.int (k : Nat)))) = _
  have : (D.int (k : Nat) :: l.map fun (k : Nat) => D.int (k : Nat)) = (((k : Nat) : Int) :: l.map fun (k : Nat) => ((k : Nat) : Int)).map .int := by simp
  rw [this, chk_pos (best_ok_ints _), bestN33]
theorem foldl_max (l : List Nat) : ∀ k, k ≤ l.foldl max k ∧ (∀ x ∈ l, x ≤ l.foldl max k) ∧ (∀ b, k ≤ b → (∀ x ∈ l, x ≤ b) → l.foldl max k ≤ b) := by
  induction l with
  | nil => intro k; exact ⟨Nat.le_refl _, fun x hx => (List.not_mem_nil hx).elim, fun b h _ => h⟩
  | cons y l ih =>
    intro k
    obtain ⟨i1, i2, i3⟩ := ih (max k y)
    rw [List.foldl_cons]
    refine ⟨by omega, fun x hx => ?_, fun b h1 h2 => i3 b (by have := h2 y List.mem_cons_self; omega) fun x hx => h2 x (List.mem_cons_of_mem _ hx)⟩
    rcases List.mem_cons.mp hx with rfl | hx
    · omega
    · exact i2 x hx
theorem ix_lastL (pre : List D) (x : D) : dIx (.lst (pre ++ [x])) (.int (-1)) = .ok x := by
  show (match atI (pre ++ [x]) (-1) with | some n => Out.ok n | none => .stuck) = _
  have : atI (pre ++ [x]) (-1) = some x := by
    unfold atI ixN
    simp
    rw [if_pos (by omega)]
    show (pre ++ [x])[(-1 + ((pre.length : Int) + 1)).toNat]? = _
    rw [show (-1 + ((pre.length : Int) + 1)).toNat = pre.length by omega]
    simp
  rw [this]
theorem cut_parts {B : List (Sn × Nat)} (hB : B ≠ []) (m : Nat) (hm : 1 ≤ m) : ∃ P T, B = P ++ T ∧ T ≠ [] ∧ T.length ≤ m ∧
    cutD (B.map encSB) (some (max 0 (((B.map encSB).length : Int) - (m : Nat)))) none = T.map encSB ∧ cutD (B.map encSB) none (some (((B.map encSB).length : Int) - ((T.map encSB).length : Nat))) = P.map encSB := by
  have hl : 1 ≤ B.length := by cases B with
    | nil => exact absurd rfl hB
    | cons x B => simp
  refine ⟨B.take (B.length - m), B.drop (B.length - m), (List.take_append_drop _ _).symm, fun z => ?_, by rw [List.length_drop]; omega, ?_, ?_⟩
  · have := congrArg List.length z
    rw [List.length_drop, List.length_nil] at this
    omega
  · have e : max 0 (((B.map encSB).length : Int) - (m : Nat)) = ((B.length - m : Nat) : Int) := by rw [List.length_map]; omega
    rw [e, cutD_from _ (by rw [List.length_map]; omega), List.map_drop]
  · have e : (((B.map encSB).length : Int) - (((B.drop (B.length - m)).map encSB).length : Nat)) = ((B.length - m : Nat) : Int) := by rw [List.length_map, List.length_map, List.length_drop]; omega
    rw [e, cutD_to _ (by rw [List.length_map]; omega), List.map_take]
theorem neg_len (s : Sn) : (tSn (.neg s)).length ≤ (tSn s).length + 6 := by
  have := brk_len false s (tSn s)
  have := lits
  rw [tSn, List.length_append]; omega
theorem some_len {x : List Nat} (h : Nw x) (s : Sn) : (tSn (.some x s)).length ≤ (tSn s).length + 20 ∧ (tSn (.all x s)).length ≤ (tSn s).length + 20 := by
  have := h.len
  have := lits
  constructor
  · rw [show tSn (.some x s) = L "some" ++ L " " ++ x ++ L ": " ++ tSn s by rw [tSn]]
    simp only [List.length_append]; omega
  · rw [show tSn (.all x s) = L "all" ++ L " " ++ x ++ L ": " ++ tSn s by rw [tSn]]
    simp only [List.length_append]; omega
theorem leaf_len (w : Wd) {k : Int} {x : List Nat} {e : Int} (hk : (it k).length ≤ 40) (hx : Nw x) (he : e = 1 ∨ e = -1) : (tSn (.cmp w (lfF k x e))).length ≤ 65 := by
  have nx : x ≠ [] := fun z => by have := hx.pos; rw [z] at this; simp at this
  rw [tSn, lfF_text nx he]
  obtain ⟨l1, l2, l3, l4, l5, l6, l7⟩ := lit3
  have := lits
  have h2 : w.sg.length ≤ 2 := by cases w <;> decide +kernel
  have h9 := hx.len
  have lt : (lfT k x e).length ≤ 52 := by
    unfold lfT
    split
    · split
      · rw [List.length_append]; omega
      · omega
    · rw [List.length_append, List.length_append]
      split <;> omega
  simp only [List.length_append]
  omega
theorem step33_eq {c : Int} (h : 0 ≤ c) {a b : List Nat} (na : Nw a) (nb : Nw b) {B : List (Sn × Nat)} (hB : B ≠ []) (ok : ∀ p ∈ B, Bok p) (hl : B.length ≤ 500) :
    ∃ B', m__law_step [.lst (B.map encSB), .int c, .lst [.str (S a), .str (S b)]] = .ok (.lst (B'.map encSB)) ∧ B' ≠ [] ∧ (∀ p ∈ B', Bok p) ∧ B'.length ≤ B.length + 1 ∧ wtB B' ≤ wtB B + 80 := by
  have f0 := dMod_int (i := c) (j := 12) (by decide)
  have f1 := dDiv_int (i := c) (j := 12) (by decide) (show Sz 5 12 by unfold Sz; decide) (by decide)
  have w0 : 0 ≤ c % 12 := Int.emod_nonneg _ (by decide)
  have w1 : c % 12 < 12 := Int.emod_lt_of_pos _ (by decide)
  have r0 : 0 ≤ c / 12 := Int.ediv_nonneg h (by decide)
  have f2 := dDiv_int (i := c / 12) (j := 2) (by decide) (show Sz 5 2 by unfold Sz; decide) (by decide)
  have f3 := dMod_int (i := c / 12 / 2) (j := 3) (by decide)
  have f4 := dMod_int (i := c / 12) (j := 2) (by decide)
  have q0 : 0 ≤ c / 12 / 2 % 3 := Int.emod_nonneg _ (by decide)
  have mn := fun (i : Int) => cMax_int 0 i
  obtain ⟨m, hm, em⟩ : ∃ m : Nat, 1 ≤ m ∧ (if 8 < c % 12 then 2 + c / 12 / 2 % 3 else 1) = (m : Int) ∧ (¬ 8 < c % 12 → m = 1) ∧ m ≤ 4 := by
    by_cases z : 8 < c % 12
    · rw [if_pos z]; exact ⟨(2 + c / 12 / 2 % 3).toNat, by omega, by omega, fun q => absurd z q, by omega⟩
    · rw [if_neg z]; exact ⟨1, by omega, by omega, fun _ => rfl, by omega⟩
  obtain ⟨em, em1, m4⟩ := em
  obtain ⟨P, T, eB, hT, lT, cT, cP⟩ := cut_parts hB m hm
  obtain ⟨t0, T0, eT⟩ : ∃ t0 T0, T = t0 :: T0 := by cases T with
    | nil => exact absurd rfl hT
    | cons t0 T0 => exact ⟨t0, T0, rfl⟩
  have okP : ∀ p ∈ P, Bok p := fun p hp => ok p (by rw [eB]; exact List.mem_append_left _ hp)
  have okT : ∀ p ∈ T, Bok p := fun p hp => ok p (by rw [eB]; exact List.mem_append_right _ hp)
  have wB : wtB B = wtB P + wtB T := by rw [eB, wtB_app]
  have lB : B.length = P.length + T.length := by rw [eB, List.length_append]
  obtain ⟨dp, edp⟩ : ∃ dp, dp = (T0.map (·.2)).foldl max t0.2 := ⟨_, rfl⟩
  obtain ⟨d1, d2, d3⟩ := foldl_max (T0.map (·.2)) t0.2
  rw [← edp] at d1 d2 d3
  have dT : ∀ p ∈ T, p.2 ≤ dp := fun p hp => by
    rw [eT] at hp
    rcases List.mem_cons.mp hp with rfl | hp
    · exact d1
    · exact d2 _ (List.mem_map.mpr ⟨p, hp, rfl⟩)
  have g1 : cBest true [.lst (T.map fun p => .int (p.2 : Nat))] = .ok (.int (dp : Nat)) := by
    have := best_dep t0.2 (T0.map (·.2))
    rw [← edp, List.map_cons, List.map_map] at this
    rw [eT]
    exact this
  have g2 : ∀ ρ : Env, ρ.length = 11 → lcL (gT [(gN 9), (gN 10)]) bYes (eV 10) ρ (T.map encSB) = .ok (T.map fun p => .int (p.2 : Nat)) := fun ρ hρ => by
    refine lcL_map encSB (fun p => .int (p.2 : Nat)) T fun p hp => ?_
    match ρ, hρ with
    | [x0, x1, x2, x3, x4, x5, x6, x7, x8, x9, x10], _ =>
      unfold encSB
      walk_at "go"
  have g3 : ∀ ρ : Env, ρ.length = 11 → lcL (gT [(gN 9), (gN 10)]) bYes (eV 9) ρ (T.map encSB) = .ok (T.map fun p => eSn p.1) := fun ρ hρ => by
    refine lcL_map encSB (fun p => eSn p.1) T fun p hp => ?_
    match ρ, hρ with
    | [x0, x1, x2, x3, x4, x5, x6, x7, x8, x9, x10], _ =>
      unfold encSB
      walk_at "go"
  have z1 : (T.map encSB).length ≤ sizeLine := len_ok (by rw [List.length_map]; omega)
  have z2 : (B.map encSB).length ≤ sizeLine := len_ok (by rw [List.length_map]; omega)
  obtain ⟨w, k, x, e, lf, lk, li, lx, le⟩ := leaf33_eq r0 na nb
  have nx : Nw x := by rcases lx with rfl | rfl <;> assumption
  have fin : ∀ (s : Sn) (hs : Dr s) (hd : s.depth ≤ dp + 1) (hw : (tSn s).length ≤ wtB T + 20), dp ≤ 7 → (P ++ [(s, dp + 1)]) ≠ [] ∧ (∀ p ∈ P ++ [(s, dp + 1)], Bok p) ∧ (P ++ [(s, dp + 1)]).length ≤ B.length + 1 ∧ wtB (P ++ [(s, dp + 1)]) ≤ wtB B + 80 := fun s hs hd hw h7 => by
    refine ⟨by simp, fun p hp => ?_, by rw [List.length_append, lB, List.length_singleton]; omega, ?_⟩
    · rcases List.mem_append.mp hp with hp | hp
      · exact okP p hp
      · rw [List.mem_singleton.mp hp]
        exact ⟨hs, hd, (by omega : dp + 1 ≤ 8)⟩
    · rw [wtB_app]
      have : wtB [(s, dp + 1)] = wt s := by unfold wtB wts; simp
      rw [this]
      unfold wt
      omega
  have enc1 : ∀ (s : Sn) (d : Nat), encSB (s, d) = .tup [eSn s, .int (d : Nat)] := fun s d => rfl
  by_cases c1 : c % 12 < 5 ∨ 7 < dp
  · -- a leaf
    refine ⟨B ++ [(.cmp w (lfF k x e), 1)], ?_, by simp, fun p hp => ?_, by simp, ?_⟩
    · have g4 : ∀ A : D, dAdd (.lst (B.map encSB)) (.lst [A]) = .ok (.lst (B.map encSB ++ [A])) := fun A => dAdd_L (by rw [List.length_map]; simp; omega)
      rw [List.map_append, List.map_cons, List.map_nil, enc1]
      have lf' : m__law_leaf_v3 [.int (c / 12), .lst [.str (S a), .str (S b)]] = .ok (eSn (.cmp w (lfF k x e))) := lf
      generalize eSn (.cmp w (lfF k x e)) = X at *
      by_cases z8 : 8 < c % 12
      · have z8' : (c % 12 > 8) = True := eq_true z8
        rw [if_pos z8] at em
        rw [← em] at cT
        have v1 : (c % 12 < 5) = False := eq_false (by omega)
        have v2 : ((dp : Int) > 7) = True := eq_true (by omega)
        clear hB ok hl w0 w1 r0 q0 em1 m4 eB hT lT okP okT wB lB edp d1 d2 d3 dT lk li lx le nx em z8 c1 fin enc1
        generalize B.map encSB = BM at *
        generalize T.map encSB = TM at *
        generalize P.map encSB = PM at *
        generalize (T.map fun p => D.int (p.2 : Nat)) = TD at *
        generalize (T.map fun p => eSn p.1) = TS at *
        unfold m__law_step b__law_step
        walk_at "go"
        rfl
      · have z8' : (c % 12 > 8) = False := eq_false z8
        obtain rfl := em1 z8
        replace cT : cutD (B.map encSB) (some (max 0 (((B.map encSB).length : Int) - 1))) none = T.map encSB := cT
        by_cases v : c % 12 < 5
        · have v1 : (c % 12 < 5) = True := eq_true v
          clear hB ok hl w0 w1 r0 q0 em1 m4 eB hT lT okP okT wB lB edp d1 d2 d3 dT lk li lx le nx em z8 c1 fin enc1 v
          generalize B.map encSB = BM at *
          generalize T.map encSB = TM at *
          generalize P.map encSB = PM at *
          generalize (T.map fun p => D.int (p.2 : Nat)) = TD at *
          generalize (T.map fun p => eSn p.1) = TS at *
          unfold m__law_step b__law_step
          walk_at "go"
          rfl
        · have v1 : (c % 12 < 5) = False := eq_false v
          have v2 : ((dp : Int) > 7) = True := eq_true (by omega)
          clear hB ok hl w0 w1 r0 q0 em1 m4 eB hT lT okP okT wB lB edp d1 d2 d3 dT lk li lx le nx em z8 c1 fin enc1 v
          generalize B.map encSB = BM at *
          generalize T.map encSB = TM at *
          generalize P.map encSB = PM at *
          generalize (T.map fun p => D.int (p.2 : Nat)) = TD at *
          generalize (T.map fun p => eSn p.1) = TS at *
          unfold m__law_step b__law_step
          walk_at "go"
          rfl
    · rcases List.mem_append.mp hp with hp | hp
      · exact ok p hp
      · rw [List.mem_singleton.mp hp]
        exact ⟨.cmp lk li nx.nm le, by show (Sn.cmp w (lfF k x e)).depth ≤ 1; rw [Sn.depth]; exact Nat.le_refl _, (by decide : 1 ≤ 8)⟩
    · rw [wtB_app]
      have : wtB [((.cmp w (lfF k x e)), 1)] = wt (.cmp w (lfF k x e)) := by unfold wtB wts; simp
      rw [this]
      have := leaf_len w li nx le
      unfold wt
      omega
  · have h5 : ¬ c % 12 < 5 := fun z => c1 (.inl z)
    have h7 : dp ≤ 7 := by by_cases z : 7 < dp
                           · exact absurd (.inr z) c1
                           · omega
    have v1 : (c % 12 < 5) = False := eq_false h5
    have v2 : ((dp : Int) > 7) = False := eq_false (by omega)
    have g5 : ∀ A : D, dAdd (.lst (P.map encSB)) (.lst [A]) = .ok (.lst (P.map encSB ++ [A])) := fun A => dAdd_L (by rw [List.length_map]; simp; omega)
    obtain ⟨T1, tl, etl⟩ : ∃ T1 tl, T = T1 ++ [tl] := ⟨T.dropLast, T.getLast hT, (List.dropLast_concat_getLast hT).symm⟩
    have otl : Bok tl := okT tl (by rw [etl]; simp)
    have dtl : tl.2 ≤ dp := dT tl (by rw [etl]; simp)
    have wtl : (tSn tl.1).length + 10 ≤ wtB T := by
      rw [etl, wtB_app]
      have : wtB [tl] = wt tl.1 := by unfold wtB wts; simp
      rw [this]; unfold wt; omega
    have g6 : dIx (.lst (T.map encSB)) (.int (-1)) = .ok (.tup [eSn tl.1, .int (tl.2 : Nat)]) := by
      rw [etl, List.map_append]; exact ix_lastL _ _
    have ng : dNeg (.int 1) = .ok (.int (-1)) := dNeg_int 1
    by_cases c7 : c % 12 < 7
    · -- not
      have z8 : ¬ 8 < c % 12 := by omega
      have z8' : (c % 12 > 8) = False := eq_false z8
      have v7 : (c % 12 < 7) = True := eq_true c7
      obtain rfl := em1 z8
      replace cT : cutD (B.map encSB) (some (max 0 (((B.map encSB).length : Int) - 1))) none = T.map encSB := cT
      have ln := neg_len tl.1
      refine ⟨P ++ [(.neg tl.1, dp + 1)], ?_, fin (.neg tl.1) (.neg otl.1) (by rw [Sn.depth]; have := otl.2.1; omega) (by omega) h7⟩
      rw [List.map_append, List.map_cons, List.map_nil, enc1, eSn]
      clear otl dtl wtl etl ln c7 z8 h5 h7 c1
      clear hB ok hl w0 w1 r0 q0 em1 m4 eB hT lT okP okT wB lB edp d1 d2 d3 dT lk li lx le nx fin enc1 lf
      generalize eSn tl.1 = X at *
      generalize B.map encSB = BM at *
      generalize T.map encSB = TM at *
      generalize P.map encSB = PM at *
      generalize (T.map fun p => D.int (p.2 : Nat)) = TD at *
      generalize (T.map fun p => eSn p.1) = TS at *
      unfold m__law_step b__law_step
      walk_at "go"
      rfl
    · have v7 : (c % 12 < 7) = False := eq_false c7
      by_cases c9 : c % 12 < 9
      · -- some, all
        have z8 : ¬ 8 < c % 12 := by omega
        have z8' : (c % 12 > 8) = False := eq_false z8
        have v9 : (c % 12 < 9) = True := eq_true c9
        obtain rfl := em1 z8
        replace cT : cutD (B.map encSB) (some (max 0 (((B.map encSB).length : Int) - 1))) none = T.map encSB := cT
        obtain ⟨y, ny, ey⟩ : ∃ y, Nw y ∧ dIx (.lst [.str (S a), .str (S b)]) (.int (c / 12 % 2)) = .ok (.str (S y)) := by
          have : c / 12 % 2 = 0 ∨ c / 12 % 2 = 1 := by omega
          rcases this with e | e
          · rw [e]; exact ⟨a, na, rfl⟩
          · rw [e]; exact ⟨b, nb, rfl⟩
        have ln := some_len ny tl.1
        have c8 : c % 12 = 7 ∨ c % 12 = 8 := by omega
        rcases c8 with c8 | c8
        · have eq : dIx (.lst [.str "some", .str "all"]) (.int (c % 12 - 7)) = .ok (.str "some") := by rw [c8]; rfl
          refine ⟨P ++ [(.some y tl.1, dp + 1)], ?_, fin (.some y tl.1) (.some ny.nm otl.1) (by rw [Sn.depth]; have := otl.2.1; omega) (by omega) h7⟩
          rw [List.map_append, List.map_cons, List.map_nil, enc1, eSn]
          unfold encN
          clear otl dtl wtl etl ln c7 c8 c9 z8 h5 h7 c1 ny
          clear hB ok hl w0 w1 r0 q0 em1 m4 eB hT lT okP okT wB lB edp d1 d2 d3 dT lk li lx le nx fin enc1 lf
          generalize eSn tl.1 = X at *
          generalize B.map encSB = BM at *
          generalize T.map encSB = TM at *
          generalize P.map encSB = PM at *
          generalize (T.map fun p => D.int (p.2 : Nat)) = TD at *
          generalize (T.map fun p => eSn p.1) = TS at *
          unfold m__law_step b__law_step
          walk_at "go"
          rfl
        · have eq : dIx (.lst [.str "some", .str "all"]) (.int (c % 12 - 7)) = .ok (.str "all") := by rw [c8]; rfl
          refine ⟨P ++ [(.all y tl.1, dp + 1)], ?_, fin (.all y tl.1) (.all ny.nm otl.1) (by rw [Sn.depth]; have := otl.2.1; omega) (by omega) h7⟩
          rw [List.map_append, List.map_cons, List.map_nil, enc1, eSn]
          unfold encN
          clear otl dtl wtl etl ln c7 c8 c9 z8 h5 h7 c1 ny
          clear hB ok hl w0 w1 r0 q0 em1 m4 eB hT lT okP okT wB lB edp d1 d2 d3 dT lk li lx le nx fin enc1 lf
          generalize eSn tl.1 = X at *
          generalize B.map encSB = BM at *
          generalize T.map encSB = TM at *
          generalize P.map encSB = PM at *
          generalize (T.map fun p => D.int (p.2 : Nat)) = TD at *
          generalize (T.map fun p => eSn p.1) = TS at *
          unfold m__law_step b__law_step
          walk_at "go"
          rfl
      · -- both, either
        have z8 : 8 < c % 12 := by omega
        have z8' : (c % 12 > 8) = True := eq_true z8
        have v9 : (c % 12 < 9) = False := eq_false c9
        rw [if_pos z8] at em
        rw [← em] at cT
        obtain ⟨bo, ebo⟩ : ∃ bo : Bool, dIx (.lst [.str "both", .str "either"]) (.int (c / 12 % 2)) = .ok (.str (wordB bo)) := by
          have : c / 12 % 2 = 0 ∨ c / 12 % 2 = 1 := by omega
          rcases this with e | e
          · rw [e]; exact ⟨true, rfl⟩
          · rw [e]; exact ⟨false, rfl⟩
        have nT : T.map (·.1) ≠ [] := by rw [eT]; simp
        have dT1 : ∀ s ∈ T.map (·.1), s.depth ≤ dp := fun s hs => by
          obtain ⟨p, hp, rfl⟩ := List.mem_map.mp hs
          have := (okT p hp).2.1
          have := dT p hp
          omega
        have drT : ∀ s ∈ T.map (·.1), Dr s := fun s hs => by
          obtain ⟨p, hp, rfl⟩ := List.mem_map.mp hs
          exact (okT p hp).1
        have fo := fold33_eq bo (l := T.map (·.1)) (fun s hs => ⟨dr_nms (drT s hs), by have := dT1 s hs; omega⟩) (by rw [List.length_map]; omega) nT
        rw [List.map_map] at fo
        replace fo : m__law_folded_v3 [.str (wordB bo), .lst (T.map fun p => eSn p.1)] = .ok (eSn (foldD bo (T.map (·.1)))) := fo
        have fl := foldD_len bo (T.map (·.1))
        refine ⟨P ++ [(foldD bo (T.map (·.1)), dp + 1)], ?_, fin _ (foldD_dr bo drT (by rw [List.length_map]; omega) nT) (foldD_dep bo dT1 nT) (by unfold wtB; omega) h7⟩
        rw [List.map_append, List.map_cons, List.map_nil, enc1]
        have zS : (T.map fun p => eSn p.1).length ≤ sizeLine := len_ok (by rw [List.length_map]; omega)
        clear otl dtl wtl etl c7 c9 z8 h5 h7 c1 nT dT1 drT fl
        clear hB ok hl w0 w1 r0 q0 em1 m4 eB hT lT okP okT wB lB edp d1 d2 d3 dT lk li lx le nx fin enc1 lf em
        generalize eSn (foldD bo (T.map (·.1))) = Y at *
        generalize eSn tl.1 = X at *
        generalize wordB bo = WB at *
        generalize B.map encSB = BM at *
        generalize T.map encSB = TM at *
        generalize P.map encSB = PM at *
        generalize (T.map fun p => D.int (p.2 : Nat)) = TD at *
        generalize (T.map fun p => eSn p.1) = TS at *
        unfold m__law_step b__law_step
        walk_at "go"
        rfl
theorem okt_brk {o : Bool} {s : Sn} {t : List Nat} (h : Okt t) : Okt (brk o s t) := by
  unfold brk
  split
  · exact okt_app (okt_app (okt_L _) h) (okt_L _)
  · exact h
theorem okt_sg (w : Wd) : Okt w.sg := by cases w <;> exact okt_L _
theorem okt_sn : ∀ {s : Sn}, Dr s → Okt (tSn s)
  | .cmp w f, h => by
    rw [tSn]
    exact okt_app (okt_app (okt_app (okt_form fun q hq p hp => (dr_nms h).c (w, f) (by rw [Sn.cmps]; exact List.mem_singleton.mpr rfl) q hq p hp) (okt_L _)) (okt_sg w)) (okt_L _)
  | .both l, h => by
    cases h with
    | both h n =>
      rw [tSn, tHs_map]
      exact okt_join (okt_L _) fun x hx => by
        obtain ⟨s, hs, rfl⟩ := List.mem_map.mp hx
        exact okt_brk (okt_sn (h s hs))
  | .either l, h => by
    cases h with
    | either h n =>
      rw [tSn, tHs_map]
      exact okt_join (okt_L _) fun x hx => by
        obtain ⟨s, hs, rfl⟩ := List.mem_map.mp hx
        exact okt_brk (okt_sn (h s hs))
  | .neg s, h => by
    cases h with
    | neg h => rw [tSn]; exact okt_app (okt_L _) (okt_brk (okt_sn h))
  | .some x s, h => by
    cases h with
    | some hx h => rw [tSn]; exact okt_app (okt_app (okt_app (okt_app (okt_L _) (okt_L _)) (okt_nm hx)) (okt_L _)) (okt_sn h)
  | .all x s, h => by
    cases h with
    | all hx h => rw [tSn]; exact okt_app (okt_app (okt_app (okt_app (okt_L _) (okt_L _)) (okt_nm hx)) (okt_L _)) (okt_sn h)
  | .yes, h => by cases h
  | .no, h => by cases h
theorem built33_eq (ns : List Int) (hl : ns.length ≤ 63) : ∃ s, m__law_built [.scr ns, .int 32] = .ok (eSn s) ∧ Dr s ∧ s.depth ≤ 9 ∧ (tSn s).length ≤ 8000 := by
  obtain ⟨c0, e0, h0⟩ := cell_any ns 0
  obtain ⟨c1, e1', h1⟩ := cell_any ns 1
  obtain ⟨a, b, en, na, nb⟩ := names33_eq h0
  obtain ⟨w, k, x, e, lf, lk, li, lx, le⟩ := leaf33_eq h1 na nb
  have nx : Nw x := by rcases lx with rfl | rfl <;> assumption
  obtain ⟨cs, ecs⟩ : ∃ cs, cs = cutD ns (some 2) (some 32) := ⟨_, rfl⟩
  have lc : cs.length ≤ 63 := by
    rw [ecs]
    unfold cutD
    rw [List.length_take, List.length_drop]; omega
  have enc1 : ∀ (s : Sn) (d : Nat), encSB (s, d) = .tup [eSn s, .int (d : Nat)] := fun s d => rfl
  obtain ⟨ρ, er, y4, B, ey, nB, ok, lB, wB⟩ := forL_inv (D.int) (G := gN 4) (b := b__law_built_1)
    (fun pre ρ => ∃ y4 B, ρ = [some (.scr ns), some (.int 32), some (.lst [.str (S a), .str (S b)]), some (.lst (B.map encSB)), y4, none, none, none] ∧ B ≠ [] ∧ (∀ p ∈ B, Bok p) ∧ B.length ≤ pre.length + 1 ∧ wtB B ≤ 80 * (pre.length + 1))
    cs (ρ := [some (.scr ns), some (.int 32), some (.lst [.str (S a), .str (S b)]), some (.lst [.tup [eSn (.cmp w (lfF k x e)), .int 1]]), none, none, none, none])
    ⟨none, [(.cmp w (lfF k x e), 1)], rfl, by simp, fun p hp => by
      rw [List.mem_singleton.mp hp]
      exact ⟨.cmp lk li nx.nm le, by show (Sn.cmp w (lfF k x e)).depth ≤ 1; rw [Sn.depth]; exact Nat.le_refl _, (by decide : 1 ≤ 8)⟩, by simp, by
      have : wtB [((.cmp w (lfF k x e)), 1)] = wt (.cmp w (lfF k x e)) := by unfold wtB wts; simp
      rw [this]
      have := leaf_len w li nx le
      unfold wt
      simp only [List.length_nil]
      omega⟩
    fun pre z post ρ ez ⟨y4, B, er, nB, ok, lB, wB⟩ => by
      subst er
      have ll := congrArg List.length ez
      rw [List.length_append, List.length_cons] at ll
      have hz : 0 ≤ z % 1000000000000000000000000000000000000000000000000000000000000 := Int.emod_nonneg _ (by decide)
      obtain ⟨B', eB, n', ok', l', w'⟩ := step33_eq hz na nb nB ok (by omega)
      have f1 := dMod_int (i := z) (j := 1000000000000000000000000000000000000000000000000000000000000) (by decide)
      refine ⟨_, ?_, some (.int z), B', rfl, n', ok', by rw [List.length_append, List.length_singleton]; omega, by rw [List.length_append, List.length_singleton]; omega⟩
      clear ll hz n' ok' l' w' nB ok lB wB ez
      generalize B.map encSB = BM at *
      generalize B'.map encSB = BM' at *
      unfold b__law_built_1
      walk_at "go"
  subst ey
  have nl : B.map (·.1) ≠ [] := by cases B with
    | nil => exact absurd rfl nB
    | cons p B => simp
  have dl : ∀ s ∈ B.map (·.1), s.depth ≤ 8 := fun s hs => by
    obtain ⟨p, hp, rfl⟩ := List.mem_map.mp hs
    have := (ok p hp).2
    omega
  have dr : ∀ s ∈ B.map (·.1), Dr s := fun s hs => by
    obtain ⟨p, hp, rfl⟩ := List.mem_map.mp hs
    exact (ok p hp).1
  obtain ⟨bo, ebo⟩ : ∃ bo : Bool, dIx (.lst [.str "both", .str "either"]) (.int (c1 / 5 % 2)) = .ok (.str (wordB bo)) := by
    have : c1 / 5 % 2 = 0 ∨ c1 / 5 % 2 = 1 := by omega
    rcases this with e | e
    · rw [e]; exact ⟨true, rfl⟩
    · rw [e]; exact ⟨false, rfl⟩
  have fo := fold33_eq bo (l := B.map (·.1)) (fun s hs => ⟨dr_nms (dr s hs), by have := dl s hs; omega⟩) (by rw [List.length_map]; omega) nl
  rw [List.map_map] at fo
  replace fo : m__law_folded_v3 [.str (wordB bo), .lst (B.map fun p => eSn p.1)] = .ok (eSn (foldD bo (B.map (·.1)))) := fo
  have fl := foldD_len bo (B.map (·.1))
  refine ⟨foldD bo (B.map (·.1)), ?_, foldD_dr bo dr (by rw [List.length_map]; omega) nl, foldD_dep bo dl nl, by unfold wtB at wB; omega⟩
  have z1 : (B.map encSB).length ≤ sizeLine := len_ok (by rw [List.length_map]; omega)
  have z2 : (B.map fun p => eSn p.1).length ≤ sizeLine := len_ok (by rw [List.length_map]; omega)
  have f2 := dDiv_int (i := c1) (j := 5) (by decide) (show Sz 5 5 by unfold Sz; decide) (by decide)
  have f3 := dMod_int (i := c1 / 5) (j := 2) (by decide)
  have g3 : ∀ ρ : Env, ρ.length = 8 → lcL (gT [(gN 6), (gN 7)]) bYes (eV 6) ρ (B.map encSB) = .ok (B.map fun p => eSn p.1) := fun ρ hρ => by
    refine lcL_map encSB (fun p => eSn p.1) B fun p hp => ?_
    match ρ, hρ with
    | [x0, x1, x2, x3, x4, x5, x6, x7], _ =>
      unfold encSB
      walk_at "go"
  replace e0 : m__law_cell [.scr ns, .int 0] = .ok (.int c0) := e0
  replace e1' : m__law_cell [.scr ns, .int 1] = .ok (.int c1) := e1'
  have ecs' : cutD ns (some 2) (some 32) = cs := ecs.symm
  clear h0 h1 na nb lk li lx le nx ecs lc nB ok lB wB nl dl dr fl enc1 hl
  generalize eSn (.cmp w (lfF k x e)) = X at *
  generalize eSn (foldD bo (B.map (·.1))) = Y at *
  generalize wordB bo = WB at *
  generalize B.map encSB = BM at *
  generalize (B.map fun p => eSn p.1) = BS at *
  unfold m__law_built b__law_built
  walk_at "go"
theorem law_true (ns : List Int) (hl : ns.length ≤ 63) (hb : ∀ z ∈ ns, Builtin.Int.intBits z ≤ 1048576) : m_law_v26 [.scr ns] = .ok (.bl true) := by
  obtain ⟨s, e0, dr, dp, ln⟩ := built33_eq ns hl
  have f1 : m_shown [eSn s] = _ := shown_eq (b := 200) (by decide) (by omega) (dr_shw dr) (by omega)
  have f2 : m__law_text [eSn s, .str ""] = _ := law_text_eq (by omega) dr (by omega)
  have f3 : dEq (.str (S (tSn s))) (.str (S (tSn s))) = .ok (.bl true) := (dEq_Tx (okt_str (okt_sn dr)) (okt_str (okt_sn dr))).trans (by simp)
  have f4 : cIsi [.str (S (tSn s)), .ty "str"] = .ok (.bl true) := rfl
  clear dr dp ln hb hl
  generalize tSn s = T at *
  generalize eSn s = X at *
  unfold m_law_v26 b_law_v26 b_law_v26_t1 b_law_v26_t2
  walk_at "go"
end PD
open PySem PySem.W PyProof.Rows
set_option maxHeartbeats 0 in
theorem PySem.Challenge.cw_realsay_k33_brackets_shown_holds : PySem.Challenge.rw_realsay_k33_brackets_shown.Holds := by
  w_on; o_law; k_head; (case hw => w_witness2)
  k_fill
  refine L2.walk_ofB (l := PySem.Challenge.rw_realsay_k33_brackets_shown) (n := 63) (k := 65) (x := "_law_script") (CX := fun w => L2.CX PySem.Challenge.rw_realsay_k33_brackets_shown.prog w) (sp := fun w => PD.spLaw _) rfl (by decide) rfl ⟨rfl, by decide, by decide⟩ (fun w h Y => PySem.W.kIn_of Y) ?F (fun _ _ a ns hl hb _ hS => ⟨a, ns, rfl, hS, hl, hb, fun _ => rfl⟩) (fun w H s e s' h => PD.cx_no h)
  case F =>
    intro w mg fa h KX G hmg
    refine' PD.all_mk KX G hmg ?a0 ?l0 ?c0 ?k0 ?a1 ?l1 ?c1 ?k1 ?a2 ?l2 ?c2 ?k2 ?a3 ?l3 ?c3 ?k3 ?a4 ?l4 ?c4 ?k4 ?a5 ?l5 ?c5 ?k5 ?a6 ?l6 ?c6 ?k6 ?a7 ?l7 ?c7 ?k7 ?a8 ?l8 ?c8 ?k8 ?a9 ?l9 ?c9 ?k9 ?a10 ?l10 ?c10 ?k10 ?a11 ?l11 ?c11 ?k11 ?a12 ?l12 ?c12 ?k12 ?a13 ?l13 ?c13 ?k13 ?a14 ?l14 ?c14 ?k14 ?z_abs ?z_int ?z_isinstance ?z_len ?z_max ?z_range ?z_str ?z_tuple ?d1_SIGNS ?d2_SIGNS ?d3_SIGNS ?d4_SIGNS PD.law_true
    (case a0 => k_is); (case l0 => k_is); (case c0 => k_is); (case k0 => k_is); (case a1 => k_is); (case l1 => k_is); (case c1 => k_is); (case k1 => k_is)
    (case a2 => k_is); (case l2 => k_is); (case c2 => k_is); (case k2 => k_is); (case a3 => k_is); (case l3 => k_is); (case c3 => k_is); (case k3 => k_is)
    (case a4 => k_is); (case l4 => k_is); (case c4 => k_is); (case k4 => k_is); (case a5 => k_is); (case l5 => k_is); (case c5 => k_is); (case k5 => k_is)
    (case a6 => k_is); (case l6 => k_is); (case c6 => k_is); (case k6 => k_is); (case a7 => k_is); (case l7 => k_is); (case c7 => k_is); (case k7 => k_is)
    (case a8 => k_is); (case l8 => k_is); (case c8 => k_is); (case k8 => k_is); (case a9 => k_is); (case l9 => k_is); (case c9 => k_is); (case k9 => k_is)
    (case a10 => k_is); (case l10 => k_is); (case c10 => k_is); (case k10 => k_is); (case a11 => k_is); (case l11 => k_is); (case c11 => k_is); (case k11 => k_is)
    (case a12 => k_is); (case l12 => k_is); (case c12 => k_is); (case k12 => k_is); (case a13 => k_is); (case l13 => k_is); (case c13 => k_is); (case k13 => k_is)
    (case a14 => k_is); (case l14 => k_is); (case c14 => k_is); (case k14 => k_is); (case z_abs => k_is); (case z_int => k_is); (case z_isinstance => k_is); (case z_len => k_is)
    (case z_max => k_is); (case z_range => k_is); (case z_str => k_is); (case z_tuple => k_is); (case d1_SIGNS => k_is); (case d2_SIGNS => k_is); (case d3_SIGNS => (unfold PD.DentP; kernel_rfl)); (case d4_SIGNS => rfl)
