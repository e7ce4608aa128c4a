import PyProof.Rows.All
import Wide.All
import OpenK.AllK
import Wide.FinOn
import KE.KDictOf
import PySem.Challenge.RW_xm0592_01
set_option Elab.async false
set_option maxRecDepth 100000
set_option bootstrap.genMatcherCode false
set_option genSizeOf false
set_option genSizeOfSpec false
set_option genInjectivity false
set_option linter.unusedVariables false
set_option linter.unusedSimpArgs false
section
open PySem PySem.W PySem.Calls PyProof.Rows
namespace Mine
noncomputable abbrev AS := Addr → Prop
noncomputable abbrev NE : Value → Shared → Prop := fun _ _ => False
mutual
inductive VR (h : Heap) (M : AS) : Value → PyData → Prop
  | none : VR h M Value.none PyData.none
  | bool (b : Bool) : VR h M (Value.bool b) (PyData.bool b)
  | int (i : Int) (t : Tok) : VR h M (Value.int i t) (PyData.int i)
  | str (x : Str) (t : Tok) : VR h M (Value.str x t) (PyData.str x)
  | tup {a : Addr} {vs : List Value} {n : Nat} {ds : List PyData} : IsT h a vs.toArray n → ¬ M a → VRs h M vs ds → VR h M (Value.ref a) (PyData.tuple ds)
  | lst {a : Addr} {vs : List Value} {n : Nat} {ds : List PyData} : IsL h a vs.toArray n → ¬ M a → VRs h M vs ds → VR h M (Value.ref a) (PyData.list ds)
inductive VRs (h : Heap) (M : AS) : List Value → List PyData → Prop
  | nil : VRs h M [] []
  | cons {v : Value} {vs : List Value} {d : PyData} {ds : List PyData} : VR h M v d → VRs h M vs ds → VRs h M (v :: vs) (d :: ds)
end
noncomputable def Mv (M M' : AS) (h h' : Heap) : Prop := ∀ b o, ¬ M b → h.get? b = some o → h'.get? b = some o ∧ ¬ M' b
theorem VR.mv {h h' : Heap} {M M' : AS} (k : Mv M M' h h') {v : Value} {d : PyData} (r : VR h M v d) : VR h' M' v d :=
  r.rec (motive_1 := fun v d _ => VR h' M' v d) (motive_2 := fun vs ds _ => VRs h' M' vs ds) .none .bool .int .str (fun ht hm _ r => .tup (k _ _ hm ht).1 (k _ _ hm ht).2 r) (fun ht hm _ r => .lst (k _ _ hm ht).1 (k _ _ hm ht).2 r) .nil fun _ _ a b => .cons a b
theorem VRs.mv {h h' : Heap} {M M' : AS} (k : Mv M M' h h') {vs : List Value} {ds : List PyData} (r : VRs h M vs ds) : VRs h' M' vs ds := by
  induction vs generalizing ds with
  | nil => cases r; exact .nil
  | cons v vs ih => cases r with | cons a b => exact .cons (a.mv k) (ih b)
theorem VR.reads {h : Heap} {M : AS} {v : Value} {d : PyData} (r : VR h M v d) : ∃ as, Reads h v d as :=
  r.rec (motive_1 := fun v d _ => ∃ as, Reads h v d as) (motive_2 := fun vs ds _ => ∃ as, ReadsAll h vs ds as) ⟨_, .none⟩ (fun b => ⟨_, .bool b⟩) (fun i t => ⟨_, .int i t⟩) (fun x t => ⟨_, .str x t⟩)
    (fun ht hm _ r => r.elim fun _ q => ⟨_, .tuple ht rfl rfl q⟩) (fun ht hm _ r => r.elim fun _ q => ⟨_, .list ht rfl rfl q⟩) ⟨_, .nil⟩ fun _ _ a b => by
      obtain ⟨_, q⟩ := a
      obtain ⟨_, p⟩ := b
      exact ⟨_, .cons q p⟩
theorem VRs.reads {h : Heap} {M : AS} {vs : List Value} {ds : List PyData} (r : VRs h M vs ds) : ∃ as, ReadsAll h vs ds as := by
  induction vs generalizing ds with
  | nil => cases r; exact ⟨_, .nil⟩
  | cons v vs ih =>
    cases r with
    | cons a b =>
      obtain ⟨_, q⟩ := a.reads
      obtain ⟨_, p⟩ := ih b
      exact ⟨_, .cons q p⟩
section
variable {h : Heap} {M : AS} {v : Value} {d : PyData} {vs ws : List Value} {ds es : List PyData}
theorem VRs.length (r : VRs h M vs ds) : vs.length = ds.length := by
  induction vs generalizing ds with
  | nil => cases r; rfl
  | cons v vs ih =>
    cases r with
    | cons _ r => rw [List.length_cons, List.length_cons, ih r]
theorem VRs.append (r : VRs h M vs ds) (q : VRs h M ws es) : VRs h M (vs ++ ws) (ds ++ es) := by
  induction vs generalizing ds with
  | nil => cases r; exact q
  | cons v vs ih =>
    cases r with
    | cons hd r => exact .cons hd (ih r)
theorem VRs.one (r : VR h M v d) : VRs h M [v] [d] := .cons r .nil
theorem VRs.get (r : VRs h M vs ds) {k : Nat} {d : PyData} (hk : ds[k]? = some d) : ∃ v, vs[k]? = some v ∧ VR h M v d := by
  induction vs generalizing ds k with
  | nil => cases r; cases hk
  | cons v vs ih =>
    cases r with
    | cons hd r =>
      cases k with
      | zero => cases hk; exact ⟨v, rfl, hd⟩
      | succ k => exact ih r hk
theorem VRs.take (r : VRs h M vs ds) (k : Nat) : VRs h M (vs.take k) (ds.take k) := by
  induction vs generalizing ds k with
  | nil => cases r; simpa using VRs.nil
  | cons v vs ih =>
    cases r with
    | cons hd r =>
      cases k with
      | zero => simpa using VRs.nil
      | succ k => simpa using VRs.cons hd (ih r k)
theorem VRs.drop (r : VRs h M vs ds) (k : Nat) : VRs h M (vs.drop k) (ds.drop k) := by
  induction vs generalizing ds k with
  | nil => cases r; simpa using VRs.nil
  | cons v vs ih =>
    cases r with
    | cons hd r =>
      cases k with
      | zero => exact .cons hd r
      | succ k => simpa using ih r k
theorem VRs.reverse (r : VRs h M vs ds) : VRs h M vs.reverse ds.reverse := by
  induction vs generalizing ds with
  | nil => cases r; exact .nil
  | cons v vs ih =>
    cases r with
    | cons hd r => rw [List.reverse_cons, List.reverse_cons]; exact (ih r).append (.one hd)
theorem VR.int_inv {i : Int} (r : VR h M v (.int i)) : ∃ t, v = .int i t := by cases r; exact ⟨_, rfl⟩
theorem VR.str_inv {x : Str} (r : VR h M v (.str x)) : ∃ t, v = .str x t := by cases r; exact ⟨_, rfl⟩
theorem VR.bool_inv {b : Bool} (r : VR h M v (.bool b)) : v = .bool b := by cases r; rfl
theorem VR.none_inv (r : VR h M v .none) : v = .none := by cases r; rfl
theorem VR.tup_inv (r : VR h M v (.tuple ds)) : ∃ a vs n, v = .ref a ∧ IsT h a vs.toArray n ∧ ¬ M a ∧ VRs h M vs ds := by cases r with | tup a b c => exact ⟨_, _, _, rfl, a, b, c⟩
theorem VR.lst_inv (r : VR h M v (.list ds)) : ∃ a vs n, v = .ref a ∧ IsL h a vs.toArray n ∧ ¬ M a ∧ VRs h M vs ds := by cases r with | lst a b c => exact ⟨_, _, _, rfl, a, b, c⟩
end
inductive AV where
  | d (x : PyData)
  | loc (a : Addr)
  | ins (a : Addr)
  | scr (xs : List Int)
noncomputable def VA (h : Heap) (M : AS) (v : Value) : AV → Prop
  | .d x => VR h M v x
  | .loc a => v = .ref a
  | .ins a => v = .ref a
  | .scr xs => ∃ a vs, v = .ref a ∧ h.IsList a vs.toArray ∧ VRs h M vs (xs.map .int) ∧ ¬ M a
theorem VA.mv {h h' : Heap} {M M' : AS} (k : Mv M M' h h') {v : Value} {x : AV} (r : VA h M v x) : VA h' M' v x := by
  cases x with
  | d _ => exact VR.mv k r
  | loc _ => exact r
  | ins _ => exact r
  | scr _ =>
    obtain ⟨a, vs, e, ⟨o, h1, h2⟩, h3, h4⟩ := r
    exact ⟨a, vs, e, ⟨o, (k a o h4 h1).1, h2⟩, h3.mv k, (k a o h4 h1).2⟩
inductive VAs (h : Heap) (M : AS) : List Value → List AV → Prop
  | nil : VAs h M [] []
  | cons {v : Value} {vs : List Value} {d : AV} {ds : List AV} : VA h M v d → VAs h M vs ds → VAs h M (v :: vs) (d :: ds)
theorem VAs.mv {h h' : Heap} {M M' : AS} (k : Mv M M' h h') {vs : List Value} {ds : List AV} (r : VAs h M vs ds) : VAs h' M' vs ds := by
  induction r with
  | nil => exact .nil
  | cons a _ ih => exact .cons (a.mv k) ih
theorem VAs.append {h : Heap} {M : AS} {vs ws : List Value} {ds es : List AV} (r : VAs h M vs ds) (q : VAs h M ws es) : VAs h M (vs ++ ws) (ds ++ es) := by
  induction r with
  | nil => exact q
  | cons a _ ih => exact .cons a ih
theorem VAs.length {h : Heap} {M : AS} {vs : List Value} {ds : List AV} (r : VAs h M vs ds) : vs.length = ds.length := by
  induction r with
  | nil => rfl
  | cons _ _ ih => rw [List.length_cons, List.length_cons, ih]
end Mine
end
section
open PySem PySem.W PySem.Calls PyProof.Rows
namespace Mine
inductive hk : Nat → PyData → Prop
  | none (n : Nat) : hk n .none
  | bool (n : Nat) (b : Bool) : hk n (.bool b)
  | two (n : Nat) : hk n (.int 2)
  | str {n : Nat} {x : Str} (h : PyData.strOk x = true) : hk n (.str x)
  | tup {n : Nat} {xs : List PyData} (h : ∀ x ∈ xs, hk n x) : hk (n + 1) (.tuple xs)
mutual
noncomputable def hashD (w : World) : PyData → Int
  | .none => reduceHash 0xFCA86420
  | .bool b => if b then 1 else 0
  | .int i => hashInt i
  | .str x => hashStr w x
  | .tuple xs => reduceHash (Builtin.Tuple.tupleHashOf (hashDs w xs))
  | _ => 0
noncomputable def hashDs (w : World) : List PyData → List Int
  | [] => []
  | x :: xs => hashD w x :: hashDs w xs
end
mutual
noncomputable def drawsD : PyData → Nat
  | .tuple xs => drawsDs xs + 1
  | _ => 1
noncomputable def drawsDs : List PyData → Nat
  | [] => 0
  | x :: xs => drawsD x + drawsDs xs
end
theorem hk_lay {n : Nat} {d : PyData} (h : hk n d) : d.canLay0 = true ∧ d.depth ≤ n := by
  induction h with
  | none n => exact ⟨rfl, Nat.zero_le _⟩
  | bool n b => exact ⟨rfl, Nat.zero_le _⟩
  | two n => exact ⟨rfl, Nat.zero_le _⟩
  | str h => exact ⟨h, Nat.zero_le _⟩
  | @tup n xs h ih =>
    have a : PyData.canLayAll0 xs = true ∧ PyData.depthAll xs ≤ n := by
      clear h
      induction xs with
      | nil => exact ⟨rfl, Nat.zero_le _⟩
      | cons d ds hi =>
        have h1 := ih d (.head _)
        have h2 := hi fun e he => ih e (.tail _ he)
        exact ⟨Bool.and_eq_true_iff.mpr ⟨h1.1, h2.1⟩, Nat.max_le.mpr ⟨h1.2, h2.2⟩⟩
    exact ⟨a.1, Nat.succ_le_succ a.2⟩
theorem iff_f {a : Bool} {p : Prop} (h : a = false) (n : ¬ p) : a = true ↔ p := ⟨fun e => (nomatch h.symm.trans e), fun e => absurd e n⟩
theorem hk_eqvs {n : Nat} {xs : List PyData} (ih : ∀ x ∈ xs, ∀ {k : Nat} {e : PyData}, hk k e → (PyData.eqv x e = true ↔ x = e)) : ∀ {k : Nat} {es : List PyData}, (∀ e ∈ es, hk k e) → (PyData.eqvAll xs es = true ↔ xs = es) := by
  induction xs with
  | nil =>
    intro k es _
    cases es with
    | nil => exact ⟨fun _ => rfl, fun _ => rfl⟩
    | cons e es => exact iff_f rfl nofun
  | cons d ds hi =>
    intro k es h2
    cases es with
    | nil => exact iff_f rfl nofun
    | cons e es =>
      have q1 := ih d (.head _) (h2 e (.head _))
      have q2 := hi (fun x hx => ih x (.tail _ hx)) fun x hx => h2 x (.tail _ hx)
      exact ⟨fun h => by rw [q1.mp (Bool.and_eq_true_iff.mp h).1, q2.mp (Bool.and_eq_true_iff.mp h).2], fun h => Bool.and_eq_true_iff.mpr ⟨q1.mpr (List.cons.inj h).1, q2.mpr (List.cons.inj h).2⟩⟩
theorem iff_t {a : Bool} {p : Prop} (h : a = true) (n : p) : a = true ↔ p := ⟨fun _ => n, fun _ => h⟩
theorem hk_eqv {n : Nat} {d : PyData} (h : hk n d) : ∀ {k : Nat} {e : PyData}, hk k e → (PyData.eqv d e = true ↔ d = e) := by
  induction h with
  | none n =>
    intro k e h2
    cases h2 with
    | none => exact iff_t rfl rfl
    | _ => exact iff_f rfl (fun e => PyData.noConfusion e)
  | bool n b =>
    intro k e h2
    cases h2 with
    | bool _ c =>
      cases b with
      | true => cases c with
        | true => exact iff_t rfl rfl
        | false => exact iff_f rfl nofun
      | false => cases c with
        | false => exact iff_t rfl rfl
        | true => exact iff_f rfl nofun
    | two => cases b <;> exact iff_f rfl (fun e => PyData.noConfusion e)
    | _ => exact iff_f rfl (fun e => PyData.noConfusion e)
  | two n =>
    intro k e h2
    cases h2 with
    | bool _ c => cases c <;> exact iff_f rfl (fun e => PyData.noConfusion e)
    | two => exact iff_t rfl rfl
    | _ => exact iff_f rfl (fun e => PyData.noConfusion e)
  | str h =>
    intro k e h2
    cases h2 with
    | str _ => exact ⟨fun h => congrArg _ (eq_of_beq h), fun h => by cases h; exact beq_self_eq_true _⟩
    | _ => exact iff_f rfl (fun e => PyData.noConfusion e)
  | @tup n xs h ih =>
    intro k e h2
    cases h2 with
    | tup h2 => exact ⟨fun h => congrArg _ ((hk_eqvs (n := n) ih h2).mp h), fun h => (hk_eqvs (n := n) ih h2).mpr (PyData.tuple.inj h)⟩
    | _ => exact iff_f rfl (fun e => PyData.noConfusion e)
section
variable {prog : Program} {w : World} {A : Around} {E : Value → Shared → Prop} {s : Shared}
theorem pyHash_none {Q : Int → Shared → Prop} (h : Q (hashD w .none) { s with toks := s.toks + 1 }) : wpAny (model prog w) A (pyHash .none) Q E s := by
  have hT : s.TypeIs .none "NoneType" := rfl
  unfold pyHash
  have hv : [Value.none].any Value.onHeap = false := rfl
  refine wpAny_bind ?_
  rw [cRoomFor, if_neg (by rw [hv]; exact Bool.false_ne_true)]; refine wpAny_pure ?_
  refine wpAny_bind (wpAny_specialOf hT F.slot_NoneType_hash.lookup ?_)
  show wpAny _ _ (if (some (Value.builtin "NoneType.__hash__") == some Value.none) = true then _ else _) Q E s
  rw [if_neg (by rw [beq_builtin_none]; exact Bool.false_ne_true)]
  refine wpAny_bind (wpAny_specialOf hT F.slot_NoneType_hash.lookup ?_)
  show wpAny _ _ (callSpecialIfBoundUnlessNone? .none "__hash__" _ >>= _) Q E s
  refine wpAny_bind (wpAny_callSpecialIfBoundUnlessNone?_slot hT F.slot_NoneType_hash
    (wpAny_call_entry F.slot_NoneType_hash hT F.entry_NoneType_hash
      (show wpAny _ _ (do ret (← mkInt 0xFCA86420)) _ _ s from wpAny_ret_mkInt ?_) (F.args_NoneType_hash_1 _)))
  exact wpAny_pure h
theorem pyHash_bool {b : Bool} {Q : Int → Shared → Prop} (h : Q (hashD w (.bool b)) { s with toks := s.toks + 1 }) : wpAny (model prog w) A (pyHash (.bool b)) Q E s := by
  have hT : s.TypeIs (.bool b) "bool" := rfl
  unfold pyHash
  have hv : [Value.bool b].any Value.onHeap = false := rfl
  refine wpAny_bind ?_
  rw [cRoomFor, if_neg (by rw [hv]; exact Bool.false_ne_true)]; refine wpAny_pure ?_
  refine wpAny_bind (wpAny_specialOf hT F.slot_bool_hash.lookup ?_)
  show wpAny _ _ (if (some (Value.builtin "int.__hash__") == some Value.none) = true then _ else _) Q E s
  rw [if_neg (by rw [beq_builtin_none]; exact Bool.false_ne_true)]
  refine wpAny_bind (wpAny_specialOf hT F.slot_bool_hash.lookup ?_)
  show wpAny _ _ (callSpecialIfBoundUnlessNone? (.bool b) "__hash__" _ >>= _) Q E s
  refine wpAny_bind (wpAny_callSpecialIfBoundUnlessNone?_slot hT F.slot_bool_hash
    (wpAny_call_entry F.slot_bool_hash hT entry_int_hash
      (show wpAny _ _ (do ret (← mkInt (rawHash (if b then 1 else 0)))) _ _ s from wpAny_ret_mkInt ?_) (args_int_hash _)))
  cases b <;> exact wpAny_pure h
end
theorem reduce_tail {M : Model} {A : Around} {E : Value → Shared → Prop} {s : Shared} {i : Int} {Q : Int → Shared → Prop} (h : Q (reduceHash i) s) :
    wpAny M A (pyHashByItsType.reduced i) Q E s := by
  unfold pyHashByItsType.reduced
  unfold reduceHash at h
  by_cases hr : (decide (-(2 : Int) ^ 63 ≤ i) && decide (i < 2 ^ 63)) = true
  · rw [if_pos hr]
    rw [if_pos hr] at h
    exact wpAny_pure h
  · rw [if_neg hr]
    rw [if_neg hr] at h
    exact wpAny_bind (wpAny_rule (wpAny_pure h))
end Mine
end
section
open PySem PySem.W PySem.Calls PyProof.Rows
namespace Mine
section
variable {prog : Program} {w : World}
theorem hashDs_app (l : List PyData) (k : PyData) : hashDs w (l ++ [k]) = hashDs w l ++ [hashD w k] := by
  induction l with
  | nil => rfl
  | cons y l ih => exact congrArg (hashD w y :: ·) ih
theorem drawsDs_app (l : List PyData) (k : PyData) : drawsDs (l ++ [k]) = drawsDs l + drawsD k := by
  induction l with
  | nil => exact (Nat.zero_add _).symm
  | cons y l ih => exact (congrArg (drawsD y + ·) ih).trans (Nat.add_assoc _ _ _).symm
noncomputable def RD (h : Heap) (v : Value) : PyData → Prop
  | .none => v = .none
  | .bool b => v = .bool b
  | .int i => ∃ t, v = .int i t
  | .str x => ∃ t, v = .str x t
  | .tuple xs => ∃ a o vs c bs, v = .ref a ∧ h.get? a = some o ∧ o.cls = .type "tuple" ∧ o.data = .seq vs c ∧ ReadsAll h vs.toList xs bs
  | _ => True
theorem RD.of {h : Heap} {v : Value} {d : PyData} {as : List Addr} (r : Reads h v d as) : RD h v d := by
  cases r with
  | none => rfl
  | bool b => rfl
  | int i t => exact ⟨_, rfl⟩
  | str x t => exact ⟨_, rfl⟩
  | tuple h1 h2 h3 h4 => exact ⟨_, _, _, _, _, rfl, h1, h2, h3, h4⟩
  | _ => trivial
theorem pyHash_reads {n : Nat} {d : PyData} (hd : hk n d) : ∀ (A : Around) (E : Value → Shared → Prop) (s : Shared) (v : Value) (as : List Addr) (Q : Int → Shared → Prop), A.units + n < cLine → Reads s.heap v d as →
    Q (hashD w d) { s with toks := s.toks + drawsD d } → wpAny (model prog w) A (pyHash v) Q E s := by
  induction hd with
  | none n => intro A E s v as Q hu r h; rw [show v = .none from RD.of r]; exact pyHash_none h
  | bool n b => intro A E s v as Q hu r h; rw [show v = .bool b from RD.of r]; exact pyHash_bool h
  | two n => intro A E s v as Q hu r h; obtain ⟨t, e⟩ := RD.of r; rw [e]; exact wpAny_pyHash_int h
  | str _ => intro A E s v as Q hu r h; obtain ⟨t, e⟩ := RD.of r; rw [e]; exact wpAny_pyHash_str h
  | @tup n xs hall ih =>
    intro A E s v as Q hu r h
    obtain ⟨a, o, vs, c, as', rfl, ho, hc, hdat, hi⟩ := RD.of r
    · clear r
      have hT : s.TypeIs (.ref a) "tuple" := ⟨_, ho, hc⟩
      unfold pyHash
      refine wpAny_bind (wpAny_cRoomFor_or (.inr (by omega)) ?_)
      refine wpAny_bind (wpAny_specialOf hT F.slot_tuple_hash.lookup ?_)
      show wpAny _ _ (if (some (Value.builtin "tuple.__hash__") == some Value.none) = true then _ else _) Q E s
      rw [if_neg (by rw [beq_builtin_none]; exact Bool.false_ne_true)]
      refine wpAny_bind (wpAny_specialOf hT F.slot_tuple_hash.lookup ?_)
      show wpAny _ _ (callSpecialIfBoundUnlessNone? (.ref a) "__hash__" _ >>= _) Q E s
      refine wpAny_bind (wpAny_callSpecialIfBoundUnlessNone?_slot hT F.slot_tuple_hash (wpAny_call_entry F.slot_tuple_hash hT F.entry_tuple_hash ?_ (F.args_tuple_hash_1 _)))
      show wpAny _ _ (Builtin.Tuple.tupleItemsOf (.ref a) >>= _) _ _ s
      refine wpAny_bind (wpAny_tupleItemsOf ho hdat ?_)
      refine wpAny_bind ?_
      rw [← Array.forIn_toList]
      refine wpAny_forIn_list _
        (fun rest (b : Array Int) s' => ∃ done left bs, xs = done ++ left ∧ ReadsAll s.heap rest left bs ∧ b.toList = hashDs w done ∧ s' = { s with toks := s.toks + drawsDs done })
        _ ?_ ?_ _ _ ⟨[], xs, _, rfl, hi, rfl, rfl⟩
      · rintro x rest b s' ⟨done, left, bs, rfl, hl, hb, rfl⟩
        cases hl with
        | @cons _ _ k ks' bs1 bs2 h1 hl' =>
          refine wpAny_bind (ih k (List.mem_append_right _ (.head _)) A.in1 _ { s with toks := s.toks + drawsDs done } x bs1 _ (Nat.lt_of_le_of_lt (Nat.le_of_eq (Nat.succ_add_eq_add_succ _ _)) hu) h1 ?_)
          refine wpAny_pure ⟨done ++ [k], ks', _, List.append_cons .., hl', ?_, ?_⟩
          · rw [Array.toList_push, hb, hashDs_app]
          · rw [drawsDs_app, ← Nat.add_assoc]
      · rintro b s' ⟨done, left, bs, rfl, hl, hb, rfl⟩
        cases hl
        rw [List.append_nil] at h
        show wpAny _ _ (retInt (Builtin.Tuple.tupleHashOf b.toList)) _ _ _
        rw [hb]
        refine wpAny_ret_mkInt ?_
        exact reduce_tail (i := Builtin.Tuple.tupleHashOf (hashDs w done)) h
theorem reads_keeps_hk {h h' : Heap} {d : Addr} {o : Obj} {es ep} (ho : h.get? d = some o) (hd : o.data = .dict es ep) (hs : Heap.SameBut d h h') {n : Nat} {k : PyData} (hn : hk n k) : ∀ {v : Value}, (∃ as, Reads h v k as) → ∃ as, Reads h' v k as := by
  induction hn with
  | none n => rintro v ⟨as, r⟩; rw [show v = .none from RD.of r]; exact ⟨_, .none⟩
  | bool n b => rintro v ⟨as, r⟩; rw [show v = .bool b from RD.of r]; exact ⟨_, .bool b⟩
  | two n => rintro v ⟨as, r⟩; obtain ⟨t, e⟩ := RD.of r; rw [e]; exact ⟨_, .int _ _⟩
  | str _ => rintro v ⟨as, r⟩; obtain ⟨t, e⟩ := RD.of r; rw [e]; exact ⟨_, .str _ _⟩
  | @tup n xs hall ih =>
    rintro v ⟨as, r⟩
    obtain ⟨a, o', vs, c, bs, rfl, h1, h2, h3, h4⟩ := RD.of r
    have hne : a ≠ d := by
      intro e
      rw [e] at h1
      rw [Option.some.inj (h1.symm.trans ho), hd] at h3
      exact nomatch h3
    have all : ∀ {ws : List Value} {bs : List Addr}, ReadsAll h ws xs bs → ∃ cs, ReadsAll h' ws xs cs := by
      clear hall h4 r
      induction xs with
      | nil => intro ws bs q; cases q; exact ⟨_, .nil⟩
      | cons x xs hi =>
        intro ws bs q
        cases q with
        | cons r1 r2 =>
          obtain ⟨_, q1⟩ := ih x (.head _) ⟨_, r1⟩
          obtain ⟨_, q2⟩ := hi (fun x hx => ih x (.tail _ hx)) r2
          exact ⟨_, .cons q1 q2⟩
    obtain ⟨cs, q⟩ := all h4
    exact ⟨_, .tuple ((hs.2 a hne).trans h1) h2 h3 q⟩
theorem quiet_reads {n : Nat} {d : PyData} (hd : hk n d) : ∀ (A : Around) (E : Value → Shared → Prop) (s : Shared) (v : Value) (as : List Addr) (Q : Bool → Shared → Prop), Reads s.heap v d as → Q true s →
    wpAny (model prog w) A (eqIsQuiet n v) Q E s := by
  induction hd with
  | none n => intro A E s v as Q r h; rw [show v = .none from RD.of r]; cases n <;> exact wpAny_of_eq (eqIsQuiet_byValue _ rfl) h
  | bool n b => intro A E s v as Q r h; rw [show v = .bool b from RD.of r]; cases n <;> exact wpAny_of_eq (eqIsQuiet_byValue _ rfl) h
  | two n => intro A E s v as Q r h; obtain ⟨t, e⟩ := RD.of r; rw [e]; cases n <;> exact wpAny_of_eq (eqIsQuiet_byValue _ rfl) h
  | @str n _ _ => intro A E s v as Q r h; obtain ⟨t, e⟩ := RD.of r; rw [e]; cases n <;> exact wpAny_of_eq (eqIsQuiet_byValue _ rfl) h
  | @tup n xs hall ih =>
    intro A E s v as Q r h
    obtain ⟨a, o, vs, c, as', rfl, ho, hc, hdat, hi⟩ := RD.of r
    · clear r
      have hT : s.TypeIs (.ref a) "tuple" := ⟨_, ho, hc⟩
      unfold eqIsQuiet
      refine wpAny_bind (wpAny_specialOf hT F.slot_tuple_eq.lookup ?_)
      show wpAny _ _ (isInstance (.ref a) (.type "tuple") >>= _) _ _ s
      refine wpAny_bind (wpAny_isInstance hT isSubtype_tuple_tuple ?_)
      simp only [Bool.not_true, Bool.false_eq_true, if_false]
      refine wpAny_bind (wpAny_seqItems ho hdat ?_)
      refine wpAny_bind ?_
      show wpAny _ _ (forIn vs _ _) _ _ s
      rw [← Array.forIn_toList]
      refine wpAny_forIn_list _ (fun rest r s' => r.1 = none ∧ s' = s ∧ ∃ ks bs, ReadsAll s.heap rest ks bs ∧ ∀ k ∈ ks, k ∈ xs) _ ?_ ?_ _ _ ⟨rfl, rfl, _, _, hi, fun _ h => h⟩
      · rintro v rest r s' ⟨hr, rfl, ks, bs, hl, hks⟩
        cases hl with
        | cons h1 h2 =>
          refine wpAny_bind (ih _ (hks _ (.head _)) A _ s' v _ _ h1 ?_)
          simp only [Bool.not_true, Bool.false_eq_true, if_false]
          exact wpAny_pure ⟨rfl, rfl, _, _, h2, fun k hk' => hks k (.tail _ hk')⟩
      · rintro ⟨r1, r2⟩ s' ⟨hr, rfl, _⟩
        simp only at hr
        subst hr
        exact wpAny_pure h
open Classical in
noncomputable def tKind (prog : Program) (w : World) : @HeapKind prog w PyData (fun a b => Classical.propDecidable (a = b)) :=
  @HeapKind.mk prog w PyData (fun a b => Classical.propDecidable (a = b))
    (fun h k a => hk 8 k ∧ ∃ as, Reads h (.ref a) k as)
    (hashD w) drawsD (fun A => A.units + 20 < cLine)
    (fun hx hy => by
      obtain ⟨h1, _, r1⟩ := hx
      obtain ⟨_, _, r2⟩ := hy
      exact SeqAt.Reads.unique _ _ _ _ _ (hk_lay h1).1 r1 r2)
    (fun x ho hd hs => ⟨x.1, reads_keeps_hk ho hd hs x.1 x.2⟩)
    (fun hu hx h => let ⟨h1, as, r⟩ := hx; pyHash_reads h1 _ _ _ _ as _ (by omega) r h)
    (fun {A E s x y a b Q} hu hx hy h => by
      obtain ⟨h1, as, r1⟩ := hx
      obtain ⟨h2, bs, r2⟩ := hy
      refine SeqAt.eqBoolOverData prog w A E s _ _ _ _ _ _ Q r1 r2 (hk_lay h1).1 (hk_lay h2).1 ?_ ?_
      · have := (hk_lay h1).2
        have := Nat.min_le_left x.depth y.depth
        omega
      · have e := hk_eqv h1 h2
        by_cases hq : x = y
        · rw [e.mpr hq]; simpa [hq] using h
        · rw [Bool.eq_false_iff.mpr fun z => hq (e.mp z)]; simpa [hq] using h)
    (fun hx h => let ⟨h1, as, r⟩ := hx; quiet_reads h1 _ _ _ _ as _ r h)
end
inductive AO where
  | list (xs : List PyData)
  | dict (kvs : List (Str × PyData))
  | tset (ks : List PyData)
  | inst (b : Bool) (fs : List (Str × AV))
noncomputable abbrev Sto := Addr → Option AO
noncomputable abbrev Mu (Y : AS) (σ : Sto) : AS := fun a => Y a ∨ σ a ≠ none
noncomputable def sput (σ : Sto) (a : Addr) (o : AO) : Sto := fun b => if b = a then some o else σ b
noncomputable def scut (σ : Sto) (a : Addr) : Sto := fun b => if b = a then none else σ b
theorem sput_self {σ : Sto} {a : Addr} {o : AO} : sput σ a o a = some o := if_pos rfl
theorem sput_ne {σ : Sto} {a b : Addr} {o : AO} (h : b ≠ a) : sput σ a o b = σ b := if_neg h
theorem scut_self {σ : Sto} {a : Addr} : scut σ a a = none := if_pos rfl
theorem scut_ne {σ : Sto} {a b : Addr} (h : b ≠ a) : scut σ a b = σ b := if_neg h
structure Wd where
  prog : Program
  w : World
  K : Frag
  p : Program
  loose : List Str
  mg : Str → Option Value
  mb : Str → Option Value
  s0 : Shared
  fn : Str → Addr
  mt : Str → Addr
  cl : Bool → Addr
  tp : Addr
noncomputable def atB (b : Bool) (f : Str) : Bool := if b then f == "found" else (["number", "regions", "params", "trait", "trait_args", "self_type", "methods", "spot"] : List Str).contains f
structure Wd.Ok (G : Wd) : Prop where
  kin : G.K.In G.s0.heap
  top : TopRead G.p G.loose G.mg G.mb G.s0.heap
  tops : G.s0.heap.objs.size ≤ G.tp
inductive KV (h : Heap) (M : AS) : List (Str × Value) → List (Str × PyData) → Prop
  | nil : KV h M [] []
  | cons {k : Str} {v : Value} {d : PyData} {vs : List (Str × Value)} {ds : List (Str × PyData)} : VR h M v d → KV h M vs ds → KV h M ((k, v) :: vs) ((k, d) :: ds)
theorem KV.mv {h h' : Heap} {M M' : AS} (k : Mv M M' h h') {vs : List (Str × Value)} {ds : List (Str × PyData)} (r : KV h M vs ds) : KV h' M' vs ds := by
  induction r with
  | nil => exact .nil
  | cons a _ ih => exact .cons (a.mv k) ih
theorem KV.keys {h : Heap} {M : AS} {vs : List (Str × Value)} {ds : List (Str × PyData)} (r : KV h M vs ds) : vs.map (·.1) = ds.map (·.1) := by
  induction r with
  | nil => rfl
  | cons _ _ ih => simp [ih]
theorem KV.length {h : Heap} {M : AS} {vs : List (Str × Value)} {ds : List (Str × PyData)} (r : KV h M vs ds) : vs.length = ds.length := by
  have := congrArg List.length r.keys
  simpa using this
theorem KV.at {h : Heap} {M : AS} {vs : List (Str × Value)} {ds : List (Str × PyData)} (r : KV h M vs ds) (k : Str) : (match ds.lookup k with | some d => ∃ v, valueAt vs k = some v ∧ VR h M v d | none => valueAt vs k = none) := by
  induction r with
  | nil => rfl
  | @cons k' v d vs ds hv _ ih =>
    by_cases e : k = k'
    · subst e; simp [List.lookup, valueAt]; exact hv
    · have e' : ¬ k' = k := fun q => e q.symm
      have eb : (k == k') = false := by simpa using e
      simp only [List.lookup, eb, valueAt, List.find?_cons, decide_eq_false e'] at ih ⊢
      exact ih
noncomputable def Ob (G : Wd) (h : Heap) (M : AS) (a : Addr) : AO → Prop
  | .list xs => ∃ vs n, IsL h a vs.toArray n ∧ VRs h M vs xs
  | .dict kvs => ∃ vs, h.DictOf (strKind G.prog G.w) a vs ∧ KV h M vs kvs ∧ (a == sysModules) = false
  | .tset ks => ∃ xs : List (PyData × Addr × Value), @Heap.DictOfH G.prog G.w PyData (fun a b => Classical.propDecidable (a = b)) (tKind G.prog G.w) h a xs ∧ xs.map (·.1) = ks ∧ (∀ x ∈ xs, VR h M (.ref x.2.1) x.1) ∧ (a == sysModules) = false
  | .inst b fs => ∃ dx es n sl, h.get? a = some ⟨.ref (G.cl b), some dx, .plain, sl⟩ ∧ h.get? dx = some (dictOf es n) ∧ ¬ M dx ∧
      ∀ f, (match fs.lookup f with | some av => atB b f = true ∧ ∃ v, getL f es = some (some v) ∧ handedIn v = true ∧ VA h M v av | none => atB b f = false ∧ getL f es = some none)
theorem Ob.mv {G : Wd} {h h' : Heap} {M M' : AS} (k : Mv M M' h h') {a : Addr} (ka : ∀ o, h.get? a = some o → h'.get? a = some o) {o : AO} (O : Ob G h M a o) : Ob G h' M' a o := by
  cases o with
  | list xs =>
    obtain ⟨vs, n, hl, r⟩ := O
    exact ⟨vs, n, ka _ hl, r.mv k⟩
  | dict kvs =>
    obtain ⟨vs, ⟨o, es, ep, ho, r1⟩, r, q⟩ := O
    exact ⟨vs, ⟨o, es, ep, ka _ ho, r1⟩, r.mv k, q⟩
  | tset ks =>
    obtain ⟨xs, ⟨o, es, ep, ho, c1, c2, c3, c4, c5⟩, hk, r, q⟩ := O
    exact ⟨xs, ⟨o, es, ep, ka _ ho, c1, c2, c3, fun x hx => ⟨(c4 x hx).1, ((r x hx).mv k).reads⟩, c5⟩, hk, fun x hx => (r x hx).mv k, q⟩
  | inst C fs =>
    obtain ⟨dx, es, n, sl, h1, h2, h3, h4⟩ := O
    refine ⟨dx, es, n, sl, ka _ h1, (k _ _ h3 h2).1, (k _ _ h3 h2).2, fun f => ?_⟩
    have := h4 f
    revert this
    cases fs.lookup f with
    | none => exact id
    | some av =>
      rintro ⟨a0, v, a1, a2, a3⟩
      exact ⟨a0, v, a1, a2, a3.mv k⟩
structure S0 (G : Wd) (Y : AS) (σ : Sto) (s : Shared) : Prop where
  rest : ∃ h tk, s = { G.s0 with heap := h, toks := tk }
  tpY : Y G.tp
  base : ∀ b o, G.s0.heap.get? b = some o → s.heap.get? b = some o
  live : ∀ a, Mu Y σ a → G.s0.heap.get? a = none ∧ ∃ o, s.heap.get? a = some o
  sep : ∀ a, Y a → σ a = none
  objs : ∀ a o, σ a = some o → Ob G s.heap (Mu Y σ) a o
theorem S0.room {G : Wd} {Y : AS} {σ : Sto} {s : Shared} (S : S0 G Y σ s) (ok : G.Ok) : G.s0.heap.objs.size < s.heap.objs.size := by
  obtain ⟨_, o, e⟩ := S.live G.tp (.inl S.tpY)
  exact Nat.lt_of_le_of_lt ok.tops (Heap.lt_size e)
theorem get_none_of_size {h : Heap} {a : Addr} (ha : h.objs.size ≤ a) : h.get? a = none := by
  cases e : h.get? a with
  | none => rfl
  | some o => exact absurd (Heap.lt_size e) (Nat.not_lt.mpr ha)
section
variable {G : Wd} {Y : AS} {σ : Sto} {s : Shared}
theorem S0.fresh (S : S0 G Y σ s) {a : Addr} (h : s.heap.get? a = none) : ¬ Y a ∧ σ a = none ∧ G.s0.heap.get? a = none := by
  refine ⟨fun y => ?_, ?_, ?_⟩
  · obtain ⟨_, o, e⟩ := S.live a (.inl y); rw [h] at e; cases e
  · cases e : σ a with
    | none => rfl
    | some o => obtain ⟨_, o', e'⟩ := S.live a (.inr (by rw [e]; exact fun x => nomatch x)); rw [h] at e'; cases e'
  · cases e : G.s0.heap.get? a with
    | none => rfl
    | some o => have := S.base a o e; rw [h] at this; cases this
theorem S0.grow (S : S0 G Y σ s) {h' : Heap} (tk : Nat) (k : ∀ b o, s.heap.get? b = some o → h'.get? b = some o) : S0 G Y σ { s with heap := h', toks := tk } := by
  refine ⟨?_, S.tpY, fun b o e => k b o (S.base b o e), fun a m => ⟨(S.live a m).1, let ⟨o, e⟩ := (S.live a m).2; ⟨o, k a o e⟩⟩, S.sep, fun a o e => (S.objs a o e).mv (fun b ob hm hb => ⟨k b ob hb, hm⟩) fun ob hb => k a ob hb⟩
  obtain ⟨h, t, e⟩ := S.rest
  exact ⟨h', tk, by rw [e]⟩
theorem Mv.put {h h' : Heap} {a : Addr} {o : AO} (hn : h.get? a = none) (k : ∀ b o, h.get? b = some o → h'.get? b = some o) : Mv (Mu Y σ) (Mu Y (sput σ a o)) h h' := fun b ob hm hb => by
  refine ⟨k b ob hb, fun m => ?_⟩
  have hne : b ≠ a := by rintro rfl; rw [hn] at hb; cases hb
  rcases m with y | y
  · exact hm (.inl y)
  · rw [sput_ne hne] at y; exact hm (.inr y)
theorem S0.alloc (S : S0 G Y σ s) {h' : Heap} (tk : Nat) {a : Addr} {o : AO} (hn : s.heap.get? a = none) (ha : ∃ ob, h'.get? a = some ob) (k : ∀ b o, s.heap.get? b = some o → h'.get? b = some o)
    (ob : Ob G h' (Mu Y (sput σ a o)) a o) : S0 G Y (sput σ a o) { s with heap := h', toks := tk } := by
  obtain ⟨f1, f2, f3⟩ := S.fresh hn
  refine ⟨?_, S.tpY, fun b o e => k b o (S.base b o e), fun b m => ?_, fun b y => ?_, fun b ob' e => ?_⟩
  · obtain ⟨h, t, e⟩ := S.rest
    exact ⟨h', tk, by rw [e]⟩
  · by_cases e : b = a
    · subst e; exact ⟨f3, ha⟩
    · rcases m with y | y
      · exact ⟨(S.live b (.inl y)).1, let ⟨o, e⟩ := (S.live b (.inl y)).2; ⟨o, k b o e⟩⟩
      · rw [sput_ne e] at y; exact ⟨(S.live b (.inr y)).1, let ⟨o, e⟩ := (S.live b (.inr y)).2; ⟨o, k b o e⟩⟩
  · have : b ≠ a := by rintro rfl; exact f1 y
    rw [sput_ne this]; exact S.sep b y
  · by_cases q : b = a
    · subst q; rw [sput_self] at e; cases e; exact ob
    · rw [sput_ne q] at e
      exact (S.objs b ob' e).mv (Mv.put hn k) fun ob hb => k b ob hb
theorem S0.upd (S : S0 G Y σ s) {h' : Heap} (tk : Nat) {a : Addr} {o : AO} (ho : σ a ≠ none) (ha : ∃ ob, h'.get? a = some ob) (k : ∀ b o, b ≠ a → s.heap.get? b = some o → h'.get? b = some o)
    (ob : Ob G h' (Mu Y (sput σ a o)) a o) : S0 G Y (sput σ a o) { s with heap := h', toks := tk } := by
  have hY : ¬ Y a := fun y => ho (S.sep a y)
  have h0 := (S.live a (.inr ho)).1
  refine ⟨?_, S.tpY, fun b o e => k b o (by rintro rfl; rw [h0] at e; cases e) (S.base b o e), fun b m => ?_, fun b y => ?_, fun b ob' e => ?_⟩
  · obtain ⟨h, t, e⟩ := S.rest
    exact ⟨h', tk, by rw [e]⟩
  · by_cases e : b = a
    · subst e; exact ⟨h0, ha⟩
    · rcases m with y | y
      · exact ⟨(S.live b (.inl y)).1, let ⟨o, e'⟩ := (S.live b (.inl y)).2; ⟨o, k b o e e'⟩⟩
      · rw [sput_ne e] at y; exact ⟨(S.live b (.inr y)).1, let ⟨o, e'⟩ := (S.live b (.inr y)).2; ⟨o, k b o e e'⟩⟩
  · have : b ≠ a := by rintro rfl; exact hY y
    rw [sput_ne this]; exact S.sep b y
  · by_cases q : b = a
    · subst q; rw [sput_self] at e; cases e; exact ob
    · rw [sput_ne q] at e
      refine (S.objs b ob' e).mv (fun c ob hm hb => ?_) fun ob hb => k b ob q hb
      have hne : c ≠ a := by rintro rfl; exact hm (.inr ho)
      refine ⟨k c ob hne hb, fun m => ?_⟩
      rcases m with y | y
      · exact hm (.inl y)
      · rw [sput_ne hne] at y; exact hm (.inr y)
theorem Mv.upd {h h' : Heap} {a : Addr} {o : AO} (ho : σ a ≠ none) (k : ∀ b o, b ≠ a → h.get? b = some o → h'.get? b = some o) : Mv (Mu Y σ) (Mu Y (sput σ a o)) h h' := fun c ob hm hb => by
  have hne : c ≠ a := by rintro rfl; exact hm (.inr ho)
  refine ⟨k c ob hne hb, fun m => ?_⟩
  rcases m with y | y
  · exact hm (.inl y)
  · rw [sput_ne hne] at y; exact hm (.inr y)
noncomputable def Le (σ₁ σ : Sto) : Prop := ∀ a o, σ₁ a = some o → σ a = some o
theorem Le.mu {σ₁ : Sto} (L : Le σ₁ σ) {a : Addr} (m : Mu Y σ₁ a) : Mu Y σ a := by
  rcases m with y | y
  · exact .inl y
  · cases e : σ₁ a with
    | none => exact absurd e y
    | some o => exact .inr (by rw [L a o e]; exact fun x => nomatch x)
theorem Le.mv {σ₁ : Sto} (L : Le σ₁ σ) (h : Heap) : Mv (Mu Y σ) (Mu Y σ₁) h h := fun _ _ hm hb => ⟨hb, fun m => hm (L.mu m)⟩
theorem S0.le {σ₁ : Sto} (S : S0 G Y σ s) (L : Le σ₁ σ) : S0 G Y σ₁ s := by
  refine ⟨S.rest, S.tpY, S.base, fun a m => S.live a (L.mu m), fun a y => ?_, fun a o e => (S.objs a o (L a o e)).mv (L.mv _) fun _ e => e⟩
  cases e : σ₁ a with
  | none => rfl
  | some o => have := L a o e; rw [S.sep a y] at this; cases this
theorem Le.cut (a : Addr) : Le (scut σ a) σ := fun b o e => by
  by_cases q : b = a
  · subst q; rw [scut_self] at e; cases e
  · rwa [scut_ne q] at e
theorem Le.refl : Le σ σ := fun _ _ e => e
end
noncomputable abbrev Env1 := Str → Option AV
noncomputable def set1 (μ : Env1) (x : Str) (v : AV) : Env1 := fun y => if y = x then some v else μ y
structure Fm where
  env : Env
  fr : AS
  own : Bool
noncomputable def isCell (k : Option NameKind) : Bool := k == some .cell || k == some .free
structure Fm.Ok (F : Fm) : Prop where
  kind : F.env.scope.kind = .function
  glb : F.env.globals = mainGlobals
  blt : F.env.builtins = builtinsNs
  cells : ∀ x, isCell (F.env.kindOf x) = true → ∃ c, F.env.cells.lookup x = some c
  apart : F.env.cells.Pairwise fun x y => x.2 ≠ y.2
  off : ∀ n c, F.env.cells.lookup n = some c → c ≠ F.env.locals
  owns : F.own = true → ∀ n c, F.env.cells.lookup n = some c → F.fr c
  locF : F.fr F.env.locals
structure St (G : Wd) (Y : AS) (F : Fm) (μ : Env1) (σ : Sto) (s : Shared) : Prop where
  s0 : S0 G Y σ s
  frY : ∀ a, F.fr a → Y a
  ok : F.Ok
  above : G.s0.heap.objs.size ≤ F.env.locals
  ns : ∃ m, s.heap.Ns F.env.locals m ∧ ∀ x av, μ x = some av → F.env.kindOf x = some .local → ∃ v, m x = some v ∧ VA s.heap (Mu Y σ) v av
  cel : ∀ x c, F.env.cells.lookup x = some c → ∃ ov, s.heap.IsCell c ov ∧ ∀ av, μ x = some av → isCell (F.env.kindOf x) = true → ∃ v, ov = some v ∧ VA s.heap (Mu Y σ) v av
structure E0 (σ σ' : Sto) (s s' : Shared) : Prop where
  alive : ∀ b o, s.heap.get? b = some o → ∃ o', s'.heap.get? b = some o'
  keep : ∀ b o, σ b = none → s.heap.get? b = some o → s'.heap.get? b = some o
  fresh : ∀ b, σ b = none → σ' b ≠ none → s.heap.get? b = none
structure EP (P : AS) (σ σ' : Sto) (s s' : Shared) : Prop where
  alive : ∀ b o, s.heap.get? b = some o → ∃ o', s'.heap.get? b = some o'
  keep : ∀ b o, ¬ P b → σ b = none → s.heap.get? b = some o → s'.heap.get? b = some o
  fresh : ∀ b, σ b = none → σ' b ≠ none → s.heap.get? b = none
noncomputable abbrev EF (F : Fm) (σ σ' : Sto) (s s' : Shared) : Prop := EP F.fr σ σ' s s'
section
variable {G : Wd} {Y : AS} {F : Fm} {μ : Env1} {σ σ' σ'' : Sto} {s s' s'' : Shared}
theorem E0.refl : E0 σ σ s s := ⟨fun _ o e => ⟨o, e⟩, fun _ _ _ e => e, fun b h k => absurd h k⟩
theorem E0.trans (x : E0 σ σ' s s') (y : E0 σ' σ'' s' s'') : E0 σ σ'' s s'' := by
  refine ⟨fun b o e => let ⟨o', e'⟩ := x.alive b o e; y.alive b o' e', fun b o h e => ?_, fun b h k => ?_⟩
  · have h' : σ' b = none := by
      cases q : σ' b with
      | none => rfl
      | some o' => have := x.fresh b h (by rw [q]; exact fun z => nomatch z); rw [e] at this; cases this
    exact y.keep b o h' (x.keep b o h e)
  · cases e : s.heap.get? b with
    | none => rfl
    | some o =>
      have h' : σ' b = none := by
        cases q : σ' b with
        | none => rfl
        | some o' => have := x.fresh b h (by rw [q]; exact fun z => nomatch z); rw [e] at this; cases this
      have := y.fresh b h' k
      rw [x.keep b o h e] at this; cases this
theorem E0.mv (x : E0 σ σ' s s') : Mv (Mu Y σ) (Mu Y σ') s.heap s'.heap := fun b o hm hb => by
  have h : σ b = none := by
    cases q : σ b with
    | none => rfl
    | some o' => exact absurd (.inr (by rw [q]; exact fun z => nomatch z)) hm
  refine ⟨x.keep b o h hb, fun m => ?_⟩
  rcases m with y | y
  · exact hm (.inl y)
  · have := x.fresh b h y; rw [hb] at this; cases this
theorem E0.grow {h' : Heap} {tk : Nat} (k : ∀ b o, s.heap.get? b = some o → h'.get? b = some o) : E0 σ σ s { s with heap := h', toks := tk } := ⟨fun b o e => ⟨o, k b o e⟩, fun b o _ e => k b o e, fun b h k => absurd h k⟩
theorem E0.alloc {h' : Heap} {tk : Nat} {a : Addr} {o : AO} (hn : s.heap.get? a = none) (k : ∀ b o, s.heap.get? b = some o → h'.get? b = some o) : E0 σ (sput σ a o) s { s with heap := h', toks := tk } :=
  ⟨fun b o e => ⟨o, k b o e⟩, fun b o _ e => k b o e, fun b h k => by
    by_cases q : b = a
    · subst q; exact hn
    · rw [sput_ne q] at k; exact absurd h k⟩
theorem E0.upd {h' : Heap} {tk : Nat} {a : Addr} {o : AO} (ho : σ a ≠ none) (ha : ∃ ob, h'.get? a = some ob) (k : ∀ b o, b ≠ a → s.heap.get? b = some o → h'.get? b = some o) : E0 σ (sput σ a o) s { s with heap := h', toks := tk } :=
  ⟨fun b o e => by
    by_cases q : b = a
    · subst q; exact ha
    · exact ⟨o, k b o q e⟩, fun b o h e => k b o (by rintro rfl; exact ho h) e, fun b h k => by
    by_cases q : b = a
    · subst q; exact absurd h ho
    · rw [sput_ne q] at k; exact absurd h k⟩
theorem E0.le (L : Le σ' σ) : E0 σ σ' s s := ⟨fun _ o e => ⟨o, e⟩, fun _ _ _ e => e, fun b h k => by
  cases e : σ' b with
  | none => exact absurd e k
  | some o => have := L b o e; rw [h] at this; cases this⟩
theorem St.over (S : St G Y F μ σ s) (S' : S0 G Y σ' s') (x : E0 σ σ' s s') : St G Y F μ σ' s' := by
  have priv : ∀ b o, Y b → s.heap.get? b = some o → s'.heap.get? b = some o := fun b o y e => x.keep b o (S.s0.sep b y) e
  refine ⟨S', S.frY, S.ok, S.above, ?_, fun q c hc => ?_⟩
  · obtain ⟨m, hn, hv⟩ := S.ns
    refine ⟨m, hn.at' fun o e => priv _ o (S.frY _ S.ok.locF) e, fun q av h1 h2 => ?_⟩
    obtain ⟨v, e, r⟩ := hv q av h1 h2
    exact ⟨v, e, r.mv x.mv⟩
  · obtain ⟨ov, ⟨o, ho, hd⟩, hv⟩ := S.cel q c hc
    refine ⟨ov, ⟨o, x.keep c o ?_ ho, hd⟩, fun av h1 h2 => let ⟨v, e, r⟩ := hv av h1 h2; ⟨v, e, r.mv x.mv⟩⟩
    cases e : σ c with
    | none => rfl
    | some ao =>
      exfalso
      have := S.s0.objs c ao e
      cases ao with
      | list xs => obtain ⟨_, _, h1, _⟩ := this; have h1' := ho.symm.trans h1; cases h1'; cases hd
      | dict xs => obtain ⟨_, ⟨_, _, _, h1, _, h2, _⟩, _⟩ := this; have h1' := ho.symm.trans h1; cases h1'; rw [hd] at h2; cases h2
      | tset xs => obtain ⟨_, ⟨_, _, _, h1, _, h2, _⟩, _⟩ := this; have h1' := ho.symm.trans h1; cases h1'; rw [hd] at h2; cases h2
      | inst C fs => obtain ⟨_, _, _, _, h1, _⟩ := this; have h1' := ho.symm.trans h1; cases h1'; cases hd
theorem St.grow (S : St G Y F μ σ s) {h' : Heap} (tk : Nat) (k : ∀ b o, s.heap.get? b = some o → h'.get? b = some o) : St G Y F μ σ { s with heap := h', toks := tk } :=
  S.over (S.s0.grow tk k) (.grow k)
theorem St.frame (S : St G Y F μ σ s) : ∃ m, Fr G.s0.heap F.env.locals s.heap m :=
  let ⟨m, h, _⟩ := S.ns
  ⟨m, h, S.s0.base, S.above⟩
theorem St.tok (S : St G Y F μ σ s) (tk : Nat) : St G Y F μ σ { s with toks := tk } := S.grow (h' := s.heap) tk fun _ _ e => e
noncomputable def Post (G : Wd) (Y : AS) (F : Fm) (μ : Env1) (σ : Sto) (s : Shared) (Q : AV → Sto → Prop) (v : Value) (s' : Shared) : Prop :=
  ∃ av σ', St G Y F μ σ' s' ∧ E0 σ σ' s s' ∧ VA s'.heap (Mu Y σ') v av ∧ Q av σ'
theorem Post.trans {Q : AV → Sto → Prop} {v : Value} (x : E0 σ σ' s s') : Post G Y F μ σ' s' Q v s'' → Post G Y F μ σ s Q v s'' :=
  fun ⟨av, σ'', S, y, r, q⟩ => ⟨av, σ'', S, x.trans y, r, q⟩
theorem Post.val {Q : AV → Sto → Prop} {v : Value} {av : AV} (S : St G Y F μ σ s) (r : VA s.heap (Mu Y σ) v av) (q : Q av σ) : Post G Y F μ σ s Q v s := ⟨av, σ, S, .refl, r, q⟩
theorem Post.tok {Q : AV → Sto → Prop} {v : Value} {av : AV} (tk : Nat) (S : St G Y F μ σ s) (r : VA s.heap (Mu Y σ) v av) (q : Q av σ) : Post G Y F μ σ s Q v { s with toks := tk } :=
  ⟨av, σ, S.tok tk, .grow (h' := s.heap) fun _ _ e => e, r, q⟩
theorem Post.grow {Q : AV → Sto → Prop} {v : Value} {av : AV} {h' : Heap} {tk : Nat} (S : St G Y F μ σ s) (k : ∀ b o, s.heap.get? b = some o → h'.get? b = some o) (r : VA h' (Mu Y σ) v av) (q : Q av σ) :
    Post G Y F μ σ s Q v { s with heap := h', toks := tk } := ⟨av, σ, S.grow tk k, .grow k, r, q⟩
theorem ld_ok {A : Around} {x : Str} {v : AV} {Q : Value → Shared → Prop} (S : St G Y F μ σ s) (hv : μ x = some v) (hk : (F.env.kindOf x == some .local || isCell (F.env.kindOf x)) = true) (hc : (x == ("__classdict__" : Str)) = false)
    (h : ∀ u, VA s.heap (Mu Y σ) u v → Q u s) : wpAny (model G.prog G.w) A (loadName F.env x) Q NE s := by
  rcases Bool.or_eq_true_iff.mp hk with e | e
  · have e := beq_iff_eq.mp e
    obtain ⟨m, hn, hm⟩ := S.ns
    obtain ⟨u, hu, r⟩ := hm x v hv e
    exact wpAny_loadName_local S.ok.kind e hn hu (h u r)
  · obtain ⟨c, hl⟩ := S.ok.cells x e
    obtain ⟨ov, hcell, hov⟩ := S.cel x c hl
    obtain ⟨u, rfl, r⟩ := hov v hv e
    rcases Bool.or_eq_true_iff.mp e with e | e
    · exact wpAny_loadName_cell S.ok.kind (beq_iff_eq.mp e) hl hcell (h u r)
    · exact wpAny_loadName_free S.ok.kind (beq_iff_eq.mp e) hl hcell (h u r) hc
theorem S0.priv (S : S0 G Y σ s) {h' : Heap} (tk : Nat) {b : Addr} (hb : Y b) (ha : ∃ ob, h'.get? b = some ob) (k : ∀ c o, c ≠ b → s.heap.get? c = some o → h'.get? c = some o) : S0 G Y σ { s with heap := h', toks := tk } := by
  have h0 := (S.live b (.inl hb)).1
  refine ⟨?_, S.tpY, fun c o e => k c o (by rintro rfl; rw [h0] at e; cases e) (S.base c o e), fun c m => ?_, S.sep, fun c o e => ?_⟩
  · obtain ⟨h, t, e⟩ := S.rest
    exact ⟨h', tk, by rw [e]⟩
  · by_cases e : c = b
    · subst e; exact ⟨h0, ha⟩
    · exact ⟨(S.live c m).1, let ⟨o, e'⟩ := (S.live c m).2; ⟨o, k c o e e'⟩⟩
  · refine (S.objs c o e).mv (fun d ob hm hd => ⟨k d ob (fun q => hm (.inl (q ▸ hb))) hd, hm⟩) fun ob hd => k c ob ?_ hd
    rintro rfl; rw [S.sep c hb] at e; cases e
theorem Mv.priv {h h' : Heap} {b : Addr} (hb : Y b) (k : ∀ c o, c ≠ b → h.get? c = some o → h'.get? c = some o) : Mv (Mu Y σ) (Mu Y σ) h h' :=
  fun d ob hm hd => ⟨k d ob (fun q => hm (.inl (q ▸ hb))) hd, hm⟩
theorem st_ok {A : Around} {x : Str} {v : AV} {u : Value} {Q : Unit → Shared → Prop} (S : St G Y F μ σ s) (r : VA s.heap (Mu Y σ) u v) (hk : (F.env.kindOf x == some .local || (F.own && F.env.kindOf x == some .cell)) = true)
    (h : ∀ s', St G Y F (set1 μ x v) σ s' → EF F σ σ s s' → Q () s') : wpAny (model G.prog G.w) A (storeName F.env x u) Q NE s := by
  rcases Bool.or_eq_true_iff.mp hk with e | e
  · have e := beq_iff_eq.mp e
    obtain ⟨m, hn, hm⟩ := S.ns
    have hY := S.frY _ S.ok.locF
    refine wpAny_storeName_local e hn (fun h' hn' hs => h _ ?_ ⟨fun b o e => by
      by_cases q : b = F.env.locals
      · obtain ⟨o', _, _, e', _⟩ := hn'; exact ⟨o', q ▸ e'⟩
      · exact ⟨o, hs.extBut b o q e⟩, fun b o hb _ e => hs.extBut b o (fun q => hb (q ▸ S.ok.locF)) e, fun b h k => absurd h k⟩) (by rw [S.ok.kind]; rfl)
    have kk : ∀ c o, c ≠ F.env.locals → s.heap.get? c = some o → h'.get? c = some o := fun c o hc e => hs.extBut c o hc e
    have mv : Mv (Mu Y σ) (Mu Y σ) s.heap h' := Mv.priv hY kk
    refine ⟨S.s0.priv _ hY (by obtain ⟨o, _, _, e, _⟩ := hn'; exact ⟨o, e⟩) kk, S.frY, S.ok, S.above, ⟨_, hn', fun y av h1 h2 => ?_⟩, fun y c hc => ?_⟩
    · unfold set1 at h1
      by_cases q : y = x
      · rw [if_pos q] at h1; cases h1; exact ⟨u, by rw [if_pos q], r.mv mv⟩
      · rw [if_neg q] at h1
        obtain ⟨w, e1, r1⟩ := hm y av h1 h2
        exact ⟨w, by rw [if_neg q]; exact e1, r1.mv mv⟩
    · obtain ⟨ov, ⟨o, ho, hd⟩, hov⟩ := S.cel y c hc
      refine ⟨ov, ⟨o, kk c o (S.ok.off y c hc) ho, hd⟩, fun av h1 h2 => ?_⟩
      unfold set1 at h1
      by_cases q : y = x
      · subst q; rw [e] at h2; cases h2
      · rw [if_neg q] at h1; obtain ⟨w, e1, r1⟩ := hov av h1 h2; exact ⟨w, e1, r1.mv mv⟩
  · obtain ⟨e0, e⟩ := Bool.and_eq_true_iff.mp e
    have e := beq_iff_eq.mp e
    have ic : isCell (F.env.kindOf x) = true := by rw [e]; rfl
    obtain ⟨c, hl⟩ := S.ok.cells x ic
    obtain ⟨ov, hcell, hov⟩ := S.cel x c hl
    have hfc := S.ok.owns e0 x c hl
    have hY := S.frY _ hfc
    refine wpAny_storeName_cell S.ok.kind e hl hcell fun h' hc' hs => h _ ?_ ⟨fun b o e => by
      by_cases q : b = c
      · obtain ⟨o', e', _⟩ := hc'; exact ⟨o', q ▸ e'⟩
      · exact ⟨o, hs.extBut b o q e⟩, fun b o hb _ e => hs.extBut b o (fun q => hb (q ▸ hfc)) e, fun b h k => absurd h k⟩
    have kk : ∀ d o, d ≠ c → s.heap.get? d = some o → h'.get? d = some o := fun d o hd e => hs.extBut d o hd e
    have mv : Mv (Mu Y σ) (Mu Y σ) s.heap h' := Mv.priv hY kk
    refine ⟨S.s0.priv (tk := s.toks) hY (by obtain ⟨o, e, _⟩ := hc'; exact ⟨o, e⟩) kk, S.frY, S.ok, S.above, ?_, fun y d hd => ?_⟩
    · obtain ⟨m, hn, hm⟩ := S.ns
      refine ⟨m, hn.at' fun o e => kk _ o (Ne.symm (S.ok.off x c hl)) e, fun y av h1 h2 => ?_⟩
      unfold set1 at h1
      by_cases q : y = x
      · subst q; rw [e] at h2; cases h2
      · rw [if_neg q] at h1; obtain ⟨w, e1, r1⟩ := hm y av h1 h2; exact ⟨w, e1, r1.mv mv⟩
    · by_cases q : y = x
      · subst q
        rw [hl] at hd; cases hd
        exact ⟨_, hc', fun av h1 _ => by unfold set1 at h1; rw [if_pos rfl] at h1; cases h1; exact ⟨u, rfl, r.mv mv⟩⟩
      · obtain ⟨ov', ⟨o, ho, hdt⟩, hov'⟩ := S.cel y d hd
        have hne : d ≠ c := fun z => q (name_of_addr S.ok.apart (mem_of_lookup hd) (z ▸ mem_of_lookup hl))
        exact ⟨ov', ⟨o, kk d o hne ho, hdt⟩, fun av h1 h2 => by
          unfold set1 at h1; rw [if_neg q] at h1; obtain ⟨w, e1, r1⟩ := hov' av h1 h2; exact ⟨w, e1, r1.mv mv⟩⟩
end
structure Rm (A : Around) (d : Nat) : Prop where
  hh : A.handled = none
  dp : A.depth + d ≤ 690
  un : A.units + 8 * d ≤ 9000
noncomputable def dOk (x : PyData) : Bool := x.canLay0 && decide (x.depth ≤ 500)
theorem dOk.lay {x : PyData} (h : dOk x = true) : x.canLay0 = true := (Bool.and_eq_true_iff.mp h).1
theorem dOk.dep {x : PyData} (h : dOk x = true) : x.depth ≤ 500 := of_decide_eq_true (Bool.and_eq_true_iff.mp h).2
theorem cLine_is : cLine = 9900 := rfl
theorem atKey_eqv (xs : List (PyData × Addr × Value)) (x : PyData) (dx : hk 8 x) (his : ∀ p ∈ xs, hk 8 p.1) :
    (xs.map (·.1)).any (fun y => PyData.eqv y x) = (@atKey PyData (fun a b => Classical.propDecidable (a = b)) xs x).isSome := by
  induction xs with
  | nil => rfl
  | cons p ps ih =>
    have h1 := his p (.head _)
    have ih := ih (fun q hq => his q (.tail _ hq))
    have e1 := hk_eqv h1 dx
    by_cases q : p.1 = x
    · rw [List.map_cons, List.any_cons, e1.mpr q]
      simp [atKey, q]
    · have e2 : PyData.eqv p.1 x = false := Bool.eq_false_iff.mpr fun z => q (e1.mp z)
      rw [List.map_cons, List.any_cons, e2, Bool.false_or, ih]
      simp [atKey, q]
section
variable {G : Wd} {A : Around} {n : Nat} {M : AS} {s : Shared} {u v : Value} {x y : PyData} {Q : Value → Shared → Prop} {E : Value → Shared → Prop}
theorem dOk_items {xs : List PyData} (h : dOk (.list xs) = true) : PyData.canLayAll0 xs = true ∧ PyData.depthAll xs ≤ 500 := by
  have h1 := (dOk.lay h); have h2 := (dOk.dep h)
  simp only [PyData.canLay0, PyData.depth] at h1 h2
  exact ⟨h1, by omega⟩
theorem dOk_itemsT {xs : List PyData} (h : dOk (.tuple xs) = true) : PyData.canLayAll0 xs = true ∧ PyData.depthAll xs ≤ 500 := by
  have h1 := (dOk.lay h); have h2 := (dOk.dep h)
  simp only [PyData.canLay0, PyData.depth] at h1 h2
  exact ⟨h1, by omega⟩
theorem c_notIn {M' : Model} (h : wpAny M' A (compareOp .In u v) (fun r s' => ∀ b, r = .bool b → Q (.bool (!b)) s') E s) : wpAny M' A (compareOp .NotIn u v) Q E s := by
  intro Γ p hΓ
  have h := h Γ p hΓ
  have e1 : compareOp .In u v = (do let b ← contains v u; pure (.bool b)) := rfl
  have e2 : compareOp .NotIn u v = (do let b ← contains v u; pure (.bool (!b))) := rfl
  rw [e1] at h
  rw [e2]
  rw [Sem.wp_bind'] at h ⊢
  refine Sem.wp_mono _ _ _ (fun b p' s' k => ?_) (fun _ _ _ k => k) p s h
  exact k b rfl
theorem c_in_dict {kvs : List (Str × PyData)} {a : Addr} {k : Str} {t : Tok} (ho : Ob G s.heap M a (.dict kvs)) (h : Q (.bool (kvs.lookup k).isSome) { s with toks := s.toks + 1 }) :
    wpAny (model G.prog G.w) A (compareOp .In (.str k t) (.ref a)) Q E s := by
  obtain ⟨vs, hm, kv, hd⟩ := ho
  refine wpAny_in_of (strKind_is G.prog G.w k t) hd hm.mapOf ?_
  have := kv.at k
  cases e : kvs.lookup k with
  | none => rw [e] at this h; rw [this]; exact h
  | some d => rw [e] at this h; obtain ⟨w', e', _⟩ := this; rw [e']; exact h
theorem c_in_tset {ks : List PyData} {a b : Addr} (R : Rm A n) (ho : Ob G s.heap M a (.tset ks)) (hx : VR s.heap M (.ref b) x) (dx : hk 8 x) (h : ∀ tk, Q (.bool (ks.any fun y => PyData.eqv y x)) { s with toks := tk }) :
    wpAny (model G.prog G.w) A (compareOp .In (.ref b) (.ref a)) Q E s := by
  obtain ⟨xs, hm, hk', _, hd⟩ := ho
  have room : A.in1.units + 20 < cLine := by
    have := R.un; have := cLine_is
    show A.units + 1 + 20 < cLine
    omega
  refine @wpAny_in_heap G.prog G.w PyData (fun a b => Classical.propDecidable (a = b)) (tKind G.prog G.w) A E s a b x xs Q room ⟨dx, hx.reads⟩ hd hm ?_
  subst hk'
  rw [atKey_eqv xs x dx fun p hp => by obtain ⟨o, es, ep, _, _, _, _, his, _⟩ := hm; exact (his p hp).1] at h
  exact h _
end
inductive BI where
  | len | tuple | int | str | max | dict
inductive Tg where
  | one (n : Nat)
  | tup (ns : List Nat)
mutual
inductive Ex where
  | none
  | bool (b : Bool)
  | int (i : Int)
  | neg (i : Int)
  | str (x : Str)
  | var (n : Nat)
  | tup (es : Exs)
  | lst (m : Bool) (es : Exs)
  | dct (t : Bool)
  | cmp (op : CmpOp) (a b : Ex)
  | bop (op : BoolOp) (es : Exs)
  | not (e : Ex)
  | bin (op : Operator) (a b : Ex)
  | ite (c a b : Ex)
  | idx (a i : Ex)
  | slc (lo hi st : Ex) (a : Ex)
  | attr (n : Nat) (f : Str)
  | call (f : Str) (args : Exs)
  | bi (f : BI) (args : Exs)
  | lzip (a b : Ex)
  | meth (n : Nat) (m : Str) (args : Exs)
  | pop (n : Nat)
  | app (n : Nat) (e : Ex)
  | ext (n : Nat) (e : Ex)
  | get (n : Nat) (k e : Ex)
  | comp (m : Bool) (elt : Ex) (t : Tg) (tn : List Str) (it : Ex) (c : Ex)
  | compR (m : Bool) (elt : Ex) (t : Tg) (tn : List Str) (n : Ex) (c : Ex)
  | dcomp (k v : Ex) (tn : Str) (it : Ex)
  | fcall (f : Str) (args : Exs)
  | range (e : Ex)
  | zip (a b : Ex)
  | enum (e : Ex)
inductive Exs where
  | nil
  | cons (e : Ex) (es : Exs)
end
mutual
inductive Sm where
  | expr (e : Ex)
  | asg (n : Nat) (e : Ex)
  | asgT (ns : List Nat) (e : Ex)
  | asgM (ns : List Nat) (es : Exs)
  | sub2 (o1 i1 o2 i2 e1 e2 : Ex)
  | sub (o i e : Ex)
  | ite (c : Ex) (a b : Sms)
  | whl (c : Ex) (b : Sms)
  | for_ (t : Tg) (it : Ex) (b : Sms)
  | ret (e : Ex)
  | cont
  | frz (n : Nat)
inductive Sms where
  | nil
  | cons (s : Sm) (r : Sms)
end
noncomputable abbrev Rho := List (Option AV)
noncomputable abbrev Ctr := Str → List AV → Sto → (AV → Sto → Prop) → Prop
inductive Fl where
  | nxt | cnt | ret (v : AV)
noncomputable def rd (σ : Sto) : AV → Option PyData
  | .d x => some x
  | .loc a => match σ a with
    | some (.list xs) => some (.list xs)
    | _ => Option.none
  | _ => Option.none
noncomputable def dictOfA (σ : Sto) : AV → Option (List (Str × PyData))
  | .loc a => match σ a with
    | some (.dict kvs) => some kvs
    | _ => Option.none
  | _ => Option.none
noncomputable def tsetOf (σ : Sto) : AV → Option (List PyData)
  | .loc a => match σ a with
    | some (.tset ks) => some ks
    | _ => Option.none
  | _ => Option.none
noncomputable def isD : AV → Option PyData
  | .d x => some x
  | _ => Option.none
noncomputable def isLoc : AV → Option Addr
  | .loc a => some a
  | _ => Option.none
noncomputable def isIns : AV → Option Addr
  | .ins a => some a
  | _ => Option.none
noncomputable def lsO (σ : Sto) (a : Addr) : Option (List PyData) := match σ a with
  | some (.list xs) => some xs
  | _ => Option.none
noncomputable def inF (σ : Sto) (a : Addr) : Option (List (Str × AV)) := match σ a with
  | some (.inst _ fs) => some fs
  | _ => Option.none
noncomputable def inT (σ : Sto) (a : Addr) : Option Unit := match σ a with
  | some (.inst true _) => some ()
  | _ => Option.none
noncomputable def itemsL : PyData → Option (List PyData)
  | .list xs => some xs
  | _ => Option.none
noncomputable def zips (xs ys : List PyData) : List PyData := (xs.zip ys).map fun p => .tuple [p.1, p.2]
noncomputable def enums (xs : List PyData) : List PyData := xs.zipIdx.map fun p => .tuple [.int (p.2 : Nat), p.1]
noncomputable def rngOf : AV → Option (List PyData)
  | .d (.int n) => if 0 ≤ n ∧ n ≤ 100 then some ((List.range n.toNat).map fun (i : Nat) => PyData.int i) else Option.none
  | _ => Option.none
noncomputable def datas : List AV → Option (List PyData)
  | [] => some []
  | .d x :: vs => (datas vs).map (x :: ·)
  | _ :: _ => Option.none
noncomputable def seqOf : PyData → Option (List PyData)
  | .list xs => some xs
  | .tuple xs => some xs
  | _ => Option.none
noncomputable def seqRd (σ : Sto) : AV → Option (List PyData)
  | .scr xs => some (xs.map .int)
  | v => (rd σ v).bind seqOf
noncomputable def strOf : PyData → Option Str
  | .str x => some x
  | _ => Option.none
noncomputable def boolOf : AV → Option Bool
  | .d (.bool b) => some b
  | _ => Option.none
noncomputable def dictEqv (k1 k2 : List (Str × PyData)) : Bool :=
  k1.length == k2.length && k1.all fun p => match k2.lookup p.1 with
    | some d => PyData.eqv p.2 d
    | Option.none => false
noncomputable def wS {α : Type} (o : Option α) (Q : α → Prop) : Prop := match o with
  | some x => Q x
  | Option.none => False
inductive eqQ (σ : Sto) (v w : AV) (Q : Bool → Prop) : Prop
  | d {x y : PyData} (e1 : rd σ v = some x) (e2 : rd σ w = some y) (o1 : dOk x = true) (o2 : dOk y = true) (h : Q (PyData.eqv x y)) : eqQ σ v w Q
  | m {k1 k2 : List (Str × PyData)} (e1 : dictOfA σ v = some k1) (e2 : dictOfA σ w = some k2) (o1 : ∀ p ∈ k1, dOk p.2 = true) (o2 : ∀ p ∈ k2, dOk p.2 = true) (h : Q (dictEqv k1 k2)) : eqQ σ v w Q
inductive inQ (σ : Sto) (v w : AV) (Q : Bool → Prop) : Prop
  | l {x : PyData} {ys : List PyData} (e1 : v = .d x) (e2 : rd σ w = some (.list ys)) (o1 : dOk x = true) (o2 : dOk (.list ys) = true) (h : Q (ys.any fun y => PyData.eqv y x)) : inQ σ v w Q
  | t {x : PyData} {ys : List PyData} (e1 : v = .d x) (e2 : rd σ w = some (.tuple ys)) (o1 : dOk x = true) (o2 : dOk (.tuple ys) = true) (h : Q (ys.any fun y => PyData.eqv y x)) : inQ σ v w Q
  | m {k : Str} {kvs : List (Str × PyData)} (e1 : v = .d (.str k)) (e2 : dictOfA σ w = some kvs) (h : Q (kvs.lookup k).isSome) : inQ σ v w Q
  | s {ds ks : List PyData} (e1 : v = .d (.tuple ds)) (e2 : tsetOf σ w = some ks) (o : hk 8 (.tuple ds)) (h : Q (ks.any fun y => PyData.eqv y (.tuple ds))) : inQ σ v w Q
inductive intQ (v w : AV) (Q : Int → Int → Prop) : Prop
  | mk {a b : Int} (e1 : v = .d (.int a)) (e2 : w = .d (.int b)) (h : Q a b) : intQ v w Q
inductive isQ (v w : AV) (Q : Bool → Prop) : Prop
  | n (e1 : v = .d .none) (e2 : w = .d .none) (h : Q true) : isQ v w Q
  | b {a c : Bool} (e1 : v = .d (.bool a)) (e2 : w = .d (.bool c)) (h : Q (a == c)) : isQ v w Q
  | l {xs : List PyData} (e1 : v = .d (.list xs)) (e2 : w = .d .none) (h : Q false) : isQ v w Q
  | t {xs : List PyData} (e1 : v = .d (.tuple xs)) (e2 : w = .d .none) (h : Q false) : isQ v w Q
noncomputable def cmpQ (op : CmpOp) (σ : Sto) (v w : AV) (Q : Bool → Prop) : Prop := match op with
  | .Eq => eqQ σ v w Q
  | .NotEq => eqQ σ v w fun b => Q (!b)
  | .In => inQ σ v w Q
  | .NotIn => inQ σ v w fun b => Q (!b)
  | .Lt => intQ v w fun a b => Q (decide (a < b))
  | .Gt => intQ v w fun a b => Q (decide (a > b))
  | .GtE => intQ v w fun a b => Q (decide (a ≥ b))
  | .Is => isQ v w Q
  | .IsNot => isQ v w fun b => Q (!b)
  | .LtE => False
inductive addQ (v w : AV) (Q : PyData → Prop) : Prop
  | i {a b : Int} (e1 : v = .d (.int a)) (e2 : w = .d (.int b)) (h : Q (.int (a + b))) : addQ v w Q
  | s {a b : Str} (e1 : v = .d (.str a)) (e2 : w = .d (.str b)) (o : a.length + b.length ≤ sizeLine) (h : Q (.str (a ++ b))) : addQ v w Q
  | l {a b : List PyData} (e1 : v = .d (.list a)) (e2 : w = .d (.list b)) (o : a.length + b.length ≤ sizeLine) (h : Q (.list (a ++ b))) : addQ v w Q
  | t {a b : List PyData} (e1 : v = .d (.tuple a)) (e2 : w = .d (.tuple b)) (o : a.length + b.length ≤ sizeLine) (h : Q (.tuple (a ++ b))) : addQ v w Q
noncomputable def binQ (op : Operator) (v w : AV) (Q : PyData → Prop) : Prop := match op with
  | .Add => addQ v w Q
  | .Sub => intQ v w fun a b => Q (.int (a - b))
  | .Mult => intQ v w fun a b => IntMulOk a b ∧ Q (.int (a * b))
  | .Mod => intQ v w fun a b => b ≠ 0 ∧ Q (.int (a.fmod b))
  | .FloorDiv => intQ v w fun a b => b ≠ 0 ∧ Builtin.divisionGoesByPylong a b = false ∧ Q (.int (a.fdiv b))
  | .Pow => intQ v w fun a b => 0 ≤ b ∧ (Builtin.Int.intBits a : Int) * b ≤ 2 ^ 27 ∧ Q (.int (a ^ b.toNat))
  | _ => False
inductive idxQ (σ : Sto) (v i : AV) (Q : PyData → Prop) : Prop
  | s {ds : List PyData} {k : Int} {n : Nat} {x : PyData} (e1 : seqRd σ v = some ds) (e2 : i = .d (.int k)) (h1 : -2 ^ 63 ≤ k) (h2 : k < 2 ^ 63) (e3 : seqIndex? k ds.length = some n) (e4 : ds[n]? = some x) (h : Q x) : idxQ σ v i Q
  | m {kvs : List (Str × PyData)} {k : Str} {x : PyData} (e1 : dictOfA σ v = some kvs) (e2 : i = .d (.str k)) (e3 : kvs.lookup k = some x) (h : Q x) : idxQ σ v i Q
inductive partOf : AV → Option Int → Prop
  | none : partOf (.d .none) Option.none
  | int {k : Int} : partOf (.d (.int k)) (some k)
noncomputable def pick {α : Type} (xs : List α) (n : Nat) (lo hi st : Option Int) : List α :=
  List.filterMap (fun x => xs[x]?) (sliceRange (sliceBounds lo hi st n).fst (sliceBounds lo hi st n).snd.fst (sliceBounds lo hi st n).snd.snd)
inductive slcQ (v l h t : AV) (Q : PyData → Prop) : Prop
  | mk {xs : List PyData} {lo hi st : Option Int} (e : v = .d (.list xs)) (o : xs.length ≤ sizeLine) (e1 : partOf l lo) (e2 : partOf h hi) (e3 : partOf t st) (h0 : st ≠ some 0) (q : Q (.list (pick xs xs.length lo hi st))) : slcQ v l h t Q
inductive biQ (f : BI) (σ : Sto) (vs : List AV) (Q : AV → Sto → Prop) : Prop
  | len {v : AV} {ds : List PyData} (ef : f = .len) (e : vs = [v]) (e1 : seqRd σ v = some ds) (o : (ds.length : Int) < 2 ^ 63) (h : Q (.d (.int ds.length)) σ) : biQ f σ vs Q
  | tupL {xs : List PyData} (ef : f = .tuple) (e : vs = [.d (.list xs)]) (o : xs.length ≤ sizeLine) (h : Q (.d (.tuple xs)) σ) : biQ f σ vs Q
  | tupT {xs : List PyData} (ef : f = .tuple) (e : vs = [.d (.tuple xs)]) (h : Q (.d (.tuple xs)) σ) : biQ f σ vs Q
  | intI {i : Int} (ef : f = .int) (e : vs = [.d (.int i)]) (h : Q (.d (.int i)) σ) : biQ f σ vs Q
  | intB {b : Bool} (ef : f = .int) (e : vs = [.d (.bool b)]) (h : Q (.d (.int (if b then 1 else 0))) σ) : biQ f σ vs Q
  | str {i : Int} (ef : f = .str) (e : vs = [.d (.int i)]) (o1 : 0 ≤ i) (o2 : i < 10) (h : Q (.d (.str (Str.ofString (toString i)))) σ) : biQ f σ vs Q
  | max {a b : Int} (ef : f = .max) (e : vs = [.d (.int a), .d (.int b)]) (h : Q (.d (.int (if b > a then b else a))) σ) : biQ f σ vs Q
  | dict {v : AV} {kvs : List (Str × PyData)} (ef : f = .dict) (e : vs = [v]) (e1 : dictOfA σ v = some kvs) (o : kvs.length ≤ sizeLine) (h : ∀ a, σ a = Option.none → Q (.loc a) (sput σ a (.dict kvs))) : biQ f σ vs Q
noncomputable def dput (kvs : List (Str × PyData)) (k : Str) (x : PyData) : List (Str × PyData) := if (kvs.lookup k).isSome then kvs.map (fun p => if p.1 = k then (k, x) else p) else kvs ++ [(k, x)]
inductive subQ (σ : Sto) (o i v : AV) (Q : Sto → Prop) : Prop
  | l {a : Addr} {x : PyData} {xs : List PyData} {k : Int} (e1 : o = .loc a) (e2 : v = .d x) (e3 : σ a = some (.list xs)) (e4 : i = .d (.int k)) (h1 : 0 ≤ k) (h2 : k < 2 ^ 63) (h3 : k < xs.length) (h : Q (sput σ a (.list (xs.set k.toNat x)))) : subQ σ o i v Q
  | m {a : Addr} {x : PyData} {kvs : List (Str × PyData)} {k : Str} (e1 : o = .loc a) (e2 : v = .d x) (e3 : σ a = some (.dict kvs)) (e4 : i = .d (.str k)) (h1 : kvs.length ≤ sizeLine) (h : Q (sput σ a (.dict (dput kvs k x)))) : subQ σ o i v Q
  | s {a : Addr} {x : PyData} {ks ds : List PyData} (e1 : o = .loc a) (e2 : v = .d x) (e3 : σ a = some (.tset ks)) (e4 : i = .d (.tuple ds)) (h1 : hk 8 (.tuple ds)) (h2 : ks.length ≤ sizeLine) (h : Q (sput σ a (.tset (if ks.any (fun y => PyData.eqv y (.tuple ds)) then ks else ks ++ [.tuple ds])))) : subQ σ o i v Q
noncomputable def bindT (ρ : Rho) (t : Tg) (x : AV) : Option Rho := match t with
  | .one n => some (ρ.set n (some x))
  | .tup ns => match x with
    | .d (.tuple ds) => if ds.length = ns.length then some ((ns.zip ds).foldl (fun r p => r.set p.1 (some (.d p.2))) ρ) else Option.none
    | _ => Option.none
noncomputable def setAll (ρ : Rho) (ns : List Nat) (vs : List AV) : Rho := (ns.zip vs).foldl (fun r p => r.set p.1 (some p.2)) ρ
noncomputable def itemsOf : AV → Option (List PyData)
  | .d (.list xs) => some xs
  | .d (.tuple xs) => some xs
  | _ => Option.none
noncomputable def isLst : AV → Bool
  | .d (.list _) => true
  | _ => false
noncomputable def cgo (t : Tg) (body : Rho → Sto → (AV → Sto → Prop) → Prop) (cond : Rho → Sto → (AV → Sto → Prop) → Prop) :
    List PyData → Rho → Sto → List PyData → (List PyData → Sto → Prop) → Prop
  | [], _, σ, acc, Q => Q acc σ
  | x :: xs, ρ, σ, acc, Q => wS (bindT ρ t (.d x)) fun ρ' => cond ρ' σ fun c σ' => wS (boolOf c) fun b =>
      if b then body ρ' σ' fun v σ'' => wS (isD v) fun y => acc.length + 1 ≤ sizeLine ∧ cgo t body cond xs ρ' σ'' (acc ++ [y]) Q
      else cgo t body cond xs ρ' σ' acc Q
noncomputable def dgo (body : Rho → Sto → (AV → Sto → Prop) → Prop) (val : Rho → Sto → (AV → Sto → Prop) → Prop) :
    List PyData → Rho → Sto → List (Str × PyData) → (List (Str × PyData) → Sto → Prop) → Prop
  | [], _, σ, acc, Q => Q acc σ
  | x :: xs, ρ, σ, acc, Q => wS (bindT ρ (.one 0) (.d x)) fun ρ' => body ρ' σ fun k σ' => val ρ' σ' fun v σ'' =>
      wS (isD k) fun kd => wS (strOf kd) fun ks => wS (isD v) fun y => acc.length + 1 ≤ sizeLine ∧ dgo body val xs ρ' σ'' (dput acc ks y) Q
noncomputable def fgo (t : Tg) (body : Rho → Sto → (Fl → Rho → Sto → Prop) → Prop) : List PyData → Rho → Sto → (Fl → Rho → Sto → Prop) → Prop
  | [], ρ, σ, Q => Q .nxt ρ σ
  | x :: xs, ρ, σ, Q => wS (bindT ρ t (.d x)) fun ρ' => body ρ' σ fun fl ρ'' σ' => match fl with
    | .nxt => fgo t body xs ρ'' σ' Q
    | .cnt => fgo t body xs ρ'' σ' Q
    | .ret v => Q (.ret v) ρ'' σ'
mutual
noncomputable def awE (C : Ctr) : Ex → Rho → Sto → (AV → Sto → Prop) → Prop
  | .none, _, σ, Q => Q (.d .none) σ
  | .bool b, _, σ, Q => Q (.d (.bool b)) σ
  | .int i, _, σ, Q => Q (.d (.int i)) σ
  | .neg i, _, σ, Q => Q (.d (.int (-i))) σ
  | .str x, _, σ, Q => Q (.d (.str x)) σ
  | .var n, ρ, σ, Q => wS ρ[n]? fun o => wS o fun v => Q v σ
  | .tup es, ρ, σ, Q => awEs C es ρ σ fun vs σ' => wS (datas vs) fun ds => Q (.d (.tuple ds)) σ'
  | .lst m es, ρ, σ, Q => awEs C es ρ σ fun vs σ' => wS (datas vs) fun ds => if m then ∀ a, σ' a = Option.none → Q (.loc a) (sput σ' a (.list ds)) else Q (.d (.list ds)) σ'
  | .dct t, _, σ, Q => ∀ a, σ a = Option.none → Q (.loc a) (sput σ a (if t then .tset [] else .dict []))
  | .cmp op a b, ρ, σ, Q => awE C a ρ σ fun v σ' => awE C b ρ σ' fun w σ'' => cmpQ op σ'' v w fun r => Q (.d (.bool r)) σ''
  | .bop op es, ρ, σ, Q => awL C op es ρ σ fun b σ' => Q (.d (.bool b)) σ'
  | .not e, ρ, σ, Q => awE C e ρ σ fun v σ' => wS (boolOf v) fun b => Q (.d (.bool !b)) σ'
  | .bin op a b, ρ, σ, Q => awE C a ρ σ fun v σ' => awE C b ρ σ' fun w σ'' => binQ op v w fun r => Q (.d r) σ''
  | .ite c a b, ρ, σ, Q => awE C c ρ σ fun v σ' => wS (boolOf v) fun r => if r then awE C a ρ σ' Q else awE C b ρ σ' Q
  | .idx a i, ρ, σ, Q => awE C a ρ σ fun v σ' => awE C i ρ σ' fun w σ'' => idxQ σ'' v w fun r => Q (.d r) σ''
  | .slc lo hi st a, ρ, σ, Q => awE C a ρ σ fun v σ' => awE C lo ρ σ' fun l σ₁ => awE C hi ρ σ₁ fun h σ₂ => awE C st ρ σ₂ fun t σ₃ => slcQ v l h t fun r => Q (.d r) σ₃
  | .attr n f, ρ, σ, Q => wS ρ[n]? fun o => wS o fun v => wS (isIns v) fun a => wS (inF σ a) fun fs => wS (fs.lookup f) fun x => Q x σ
  | .call f args, ρ, σ, Q => awEs C args ρ σ fun vs σ' => C f vs σ' Q
  | .bi f args, ρ, σ, Q => awEs C args ρ σ fun vs σ' => biQ f σ' vs Q
  | .lzip a b, ρ, σ, Q => awE C a ρ σ fun v σ' => awE C b ρ σ' fun w σ'' => wS (itemsOf v) fun xs => wS (itemsOf w) fun ys => isLst v = isLst w ∧ xs.length ≤ sizeLine ∧ Q (.d (.list (zips xs ys))) σ''
  | .meth n m args, ρ, σ, Q => wS ρ[n]? fun o => wS o fun v => wS (isIns v) fun a => wS (inT σ a) fun _ => awEs C args ρ σ fun vs σ' => C m (v :: vs) σ' Q
  | .pop n, ρ, σ, Q => wS ρ[n]? fun o => wS o fun v => wS (isLoc v) fun a => wS (lsO σ a) fun xs => wS xs.getLast? fun x => xs.length ≤ sizeLine ∧ Q (.d x) (sput σ a (.list xs.dropLast))
  | .app n e, ρ, σ, Q => wS ρ[n]? fun o => wS o fun v => wS (isLoc v) fun a => wS (lsO σ a) fun _ => awE C e ρ σ fun w σ' => wS (isD w) fun x => wS (lsO σ' a) fun xs => xs.length ≤ sizeLine ∧ Q (.d .none) (sput σ' a (.list (xs ++ [x])))
  | .ext n e, ρ, σ, Q => wS ρ[n]? fun o => wS o fun v => wS (isLoc v) fun a => wS (lsO σ a) fun _ => awE C e ρ σ fun w σ' => wS (isD w) fun x => wS (itemsL x) fun ys => wS (lsO σ' a) fun xs => xs.length + ys.length ≤ sizeLine ∧ Q (.d .none) (sput σ' a (.list (xs ++ ys)))
  | .get n k e, ρ, σ, Q => wS ρ[n]? fun o => wS o fun v => wS (isLoc v) fun l => wS (dictOfA σ (.loc l)) fun _ => awE C k ρ σ fun w σ' => awE C e ρ σ' fun u σ'' => wS (dictOfA σ'' (.loc l)) fun kvs => wS (isD w) fun x => wS (strOf x) fun ks => wS (isD u) fun y => Q (.d ((kvs.lookup ks).getD y)) σ''
  | .comp m elt t tn it c, ρ, σ, Q => awE C it ρ σ fun v σ' => wS (itemsOf v) fun xs =>
      cgo t (awE C elt) (awE C c) xs (tn.map (fun _ => Option.none) ++ ρ) σ' [] fun ys σ'' => if m then ∀ a, σ'' a = Option.none → Q (.loc a) (sput σ'' a (.list ys)) else Q (.d (.list ys)) σ''
  | .compR m elt t tn n c, ρ, σ, Q => awE C n ρ σ fun v σ' => wS (rngOf v) fun xs =>
      cgo t (awE C elt) (awE C c) xs (tn.map (fun _ => Option.none) ++ ρ) σ' [] fun ys σ'' => if m then ∀ a, σ'' a = Option.none → Q (.loc a) (sput σ'' a (.list ys)) else Q (.d (.list ys)) σ''
  | .dcomp k e _ it, ρ, σ, Q => awE C it ρ σ fun v σ' => wS (itemsOf v) fun xs =>
      dgo (awE C k) (awE C e) xs (Option.none :: ρ) σ' [] fun ys σ'' => ∀ a, σ'' a = Option.none → Q (.loc a) (sput σ'' a (.dict ys))
  | .fcall f args, ρ, σ, Q => awEs C args ρ σ fun vs σ' => C f vs σ' fun v σ' => wS (isLoc v) fun a => wS (lsO σ' a) fun xs => Q (.d (.list xs)) (scut σ' a)
  | .range e, ρ, σ, Q => awE C e ρ σ fun v σ' => wS (rngOf v) fun xs => Q (.d (.list xs)) σ'
  | .zip a b, ρ, σ, Q => awE C a ρ σ fun v σ' => awE C b ρ σ' fun w σ'' => wS (isD v) fun x => wS (itemsL x) fun xs => wS (isD w) fun y => wS (itemsL y) fun ys => Q (.d (.list (zips xs ys))) σ''
  | .enum e, ρ, σ, Q => awE C e ρ σ fun v σ' => wS (isD v) fun x => wS (itemsL x) fun xs => Q (.d (.list (enums xs))) σ'
noncomputable def awEs (C : Ctr) : Exs → Rho → Sto → (List AV → Sto → Prop) → Prop
  | .nil, _, σ, Q => Q [] σ
  | .cons e es, ρ, σ, Q => awE C e ρ σ fun v σ' => awEs C es ρ σ' fun vs σ'' => Q (v :: vs) σ''
noncomputable def awL (C : Ctr) (op : BoolOp) : Exs → Rho → Sto → (Bool → Sto → Prop) → Prop
  | .nil, _, σ, Q => Q (op == .And) σ
  | .cons e es, ρ, σ, Q => awE C e ρ σ fun v σ' => wS (boolOf v) fun b => if b == (op == .And) then awL C op es ρ σ' Q else Q b σ'
end
mutual
noncomputable def awS (C : Ctr) : Sm → Rho → Sto → (Fl → Rho → Sto → Prop) → Prop
  | .expr e, ρ, σ, Q => awE C e ρ σ fun _ σ' => Q .nxt ρ σ'
  | .asg n e, ρ, σ, Q => awE C e ρ σ fun v σ' => Q .nxt (ρ.set n (some v)) σ'
  | .asgT ns e, ρ, σ, Q => awE C e ρ σ fun v σ' => wS (bindT ρ (.tup ns) v) fun ρ' => Q .nxt ρ' σ'
  | .asgM ns es, ρ, σ, Q => awEs C es ρ σ fun vs σ' => vs.length = ns.length ∧ Q .nxt (setAll ρ ns vs) σ'
  | .sub2 o1 i1 o2 i2 e1 e2, ρ, σ, Q => awE C e1 ρ σ fun v1 σ₁ => awE C e2 ρ σ₁ fun v2 σ₂ => awE C o1 ρ σ₂ fun o σ₃ => awE C i1 ρ σ₃ fun i σ₄ => subQ σ₄ o i v1 fun σ₅ =>
      awE C o2 ρ σ₅ fun o' σ₆ => awE C i2 ρ σ₆ fun i' σ₇ => subQ σ₇ o' i' v2 fun σ₈ => Q .nxt ρ σ₈
  | .sub o i e, ρ, σ, Q => awE C e ρ σ fun v σ₁ => awE C o ρ σ₁ fun o σ₂ => awE C i ρ σ₂ fun i σ₃ => subQ σ₃ o i v fun σ₄ => Q .nxt ρ σ₄
  | .ite c a b, ρ, σ, Q => awE C c ρ σ fun v σ' => wS (boolOf v) fun r => if r then awSs C a ρ σ' Q else awSs C b ρ σ' Q
  | .whl c b, ρ, σ, Q => ∃ I : Nat → Rho → Sto → Prop, (∃ n, I n ρ σ) ∧ ∀ n ρ σ, I n ρ σ → awE C c ρ σ fun v σ' => wS (boolOf v) fun r =>
      if r then awSs C b ρ σ' fun fl ρ' σ'' => (match fl with
        | .ret v => Q (.ret v) ρ' σ''
        | _ => ∃ m, m < n ∧ I m ρ' σ'')
      else Q .nxt ρ σ'
  | .for_ t it b, ρ, σ, Q => awE C it ρ σ fun v σ' => wS (itemsOf v) fun xs => fgo t (awSs C b) xs ρ σ' Q
  | .ret e, ρ, σ, Q => awE C e ρ σ fun v σ' => Q (.ret v) ρ σ'
  | .cont, ρ, σ, Q => Q .cnt ρ σ
  | .frz n, ρ, σ, Q => wS ρ[n]? fun o => wS o fun v => wS (isLoc v) fun a => wS (lsO σ a) fun xs => Q .nxt (ρ.set n (some (.d (.list xs)))) (scut σ a)
noncomputable def awSs (C : Ctr) : Sms → Rho → Sto → (Fl → Rho → Sto → Prop) → Prop
  | .nil, ρ, σ, Q => Q .nxt ρ σ
  | .cons s r, ρ, σ, Q => awS C s ρ σ fun fl ρ' σ' => match fl with
    | .nxt => awSs C r ρ' σ' Q
    | fl => Q fl ρ' σ'
end
noncomputable def Gw (s s' : Shared) : Prop := ∃ h' tk, s' = { s with heap := h', toks := tk } ∧ ∀ b o, s.heap.get? b = some o → h'.get? b = some o
theorem Gw.refl {s : Shared} : Gw s s := ⟨s.heap, s.toks, rfl, fun _ _ e => e⟩
theorem Gw.tok {s : Shared} (tk : Nat) : Gw s { s with toks := tk } := ⟨s.heap, tk, rfl, fun _ _ e => e⟩
theorem Gw.push {s : Shared} (o : Obj) (tk : Nat) : Gw s { s with heap := s.heap.push o, toks := tk } := ⟨_, tk, rfl, fun _ _ e => Heap.get?_push_of_some _ e⟩
theorem Gw.new {s : Shared} {h' : Heap} {tk : Nat} (k : ∀ b o, s.heap.get? b = some o → h'.get? b = some o) : Gw s { s with heap := h', toks := tk } := ⟨_, tk, rfl, k⟩
theorem Gw.mv {s s' : Shared} {M : AS} (g : Gw s s') : Mv M M s.heap s'.heap := by
  obtain ⟨h', tk, rfl, k⟩ := g
  exact fun b o hm hb => ⟨k b o hb, hm⟩
theorem St.gw {G : Wd} {Y : AS} {F : Fm} {μ : Env1} {σ : Sto} {s s' : Shared} (S : St G Y F μ σ s) (g : Gw s s') : St G Y F μ σ s' := by
  obtain ⟨h', tk, rfl, k⟩ := g
  exact S.grow tk k
theorem E0.gw {σ : Sto} {s s' : Shared} (g : Gw s s') : E0 σ σ s s' := by
  obtain ⟨h', tk, rfl, k⟩ := g
  exact .grow k
theorem Gw.trans {s s' s'' : Shared} (a : Gw s s') (b : Gw s' s'') : Gw s s'' := by
  obtain ⟨h, t, rfl, k⟩ := a
  obtain ⟨h', t', rfl, k'⟩ := b
  exact ⟨h', t', rfl, fun b o e => k' b o (k b o e)⟩
theorem wS_some {α : Type} {o : Option α} {Q : α → Prop} (h : wS o Q) : ∃ x, o = some x ∧ Q x := by
  cases o with
  | none => exact h.elim
  | some x => exact ⟨x, rfl, h⟩
section
variable {G : Wd} {Y : AS} {σ : Sto} {s : Shared} {u v : Value} {x y : PyData} {a b : AV}
theorem rd_loc {l : Addr} (e : rd σ (.loc l) = some x) : ∃ xs, σ l = some (.list xs) ∧ x = .list xs := by
  replace e : (match σ l with | some (.list xs) => some (.list xs) | _ => Option.none) = some x := e
  cases q : σ l with
  | none => rw [q] at e; cases e
  | some o => rw [q] at e; cases o <;> cases e; exact ⟨_, rfl, rfl⟩
theorem dct_loc {l : Addr} {kvs : List (Str × PyData)} (e : dictOfA σ (.loc l) = some kvs) : σ l = some (.dict kvs) := by
  replace e : (match σ l with | some (.dict kvs) => some kvs | _ => Option.none) = some kvs := e
  cases q : σ l with
  | none => rw [q] at e; cases e
  | some o => rw [q] at e; cases o <;> cases e; rfl
theorem tst_loc {l : Addr} {ks : List PyData} (e : tsetOf σ (.loc l) = some ks) : σ l = some (.tset ks) := by
  replace e : (match σ l with | some (.tset ks) => some ks | _ => Option.none) = some ks := e
  cases q : σ l with
  | none => rw [q] at e; cases e
  | some o => rw [q] at e; cases o <;> cases e; rfl
theorem rd_reads (O : S0 G Y σ s) (r : VA s.heap (Mu Y σ) v a) (e : rd σ a = some x) : ∃ as, Reads s.heap v x as := by
  cases a with
  | d z => cases e; exact VR.reads r
  | loc l =>
    cases r
    obtain ⟨xs, q, rfl⟩ := rd_loc e
    · obtain ⟨vs, n, hl, rv⟩ := O.objs l _ q
      obtain ⟨as, ra⟩ := rv.reads
      exact ⟨_, Reads.list hl rfl rfl (by simpa using ra)⟩
  | _ => cases e
theorem rd_list {xs : List PyData} (O : S0 G Y σ s) (r : VA s.heap (Mu Y σ) v a) (e : rd σ a = some (.list xs)) : ∃ l vs n, v = .ref l ∧ IsL s.heap l vs.toArray n ∧ VRs s.heap (Mu Y σ) vs xs := by
  cases a with
  | d z =>
    cases e
    obtain ⟨l, vs, n, e, hl, _, rv⟩ := VR.lst_inv r
    exact ⟨l, vs, n, e, hl, rv⟩
  | loc l =>
    cases r
    obtain ⟨ys, q, e⟩ := rd_loc e
    cases e
    obtain ⟨vs, n, hl, rv⟩ := O.objs l _ q
    exact ⟨l, vs, n, rfl, hl, rv⟩
  | _ => cases e
theorem rd_tup {xs : List PyData} (r : VA s.heap (Mu Y σ) v a) (e : rd σ a = some (.tuple xs)) : ∃ l vs n, v = .ref l ∧ IsT s.heap l vs.toArray n ∧ VRs s.heap (Mu Y σ) vs xs := by
  cases a with
  | d z =>
    cases e
    obtain ⟨l, vs, n, e, hl, _, rv⟩ := VR.tup_inv r
    exact ⟨l, vs, n, e, hl, rv⟩
  | loc l =>
    obtain ⟨_, _, e⟩ := rd_loc e
    cases e
  | _ => cases e
theorem rd_dict {kvs : List (Str × PyData)} (O : S0 G Y σ s) (r : VA s.heap (Mu Y σ) v a) (e : dictOfA σ a = some kvs) : ∃ l, v = .ref l ∧ a = .loc l ∧ σ l = some (.dict kvs) ∧ Ob G s.heap (Mu Y σ) l (.dict kvs) := by
  cases a with
  | d z => cases e
  | loc l =>
    cases r
    have q := dct_loc e
    exact ⟨l, rfl, rfl, q, O.objs l _ q⟩
  | _ => cases e
theorem rd_tset {ks : List PyData} (O : S0 G Y σ s) (r : VA s.heap (Mu Y σ) v a) (e : tsetOf σ a = some ks) : ∃ l, v = .ref l ∧ a = .loc l ∧ σ l = some (.tset ks) ∧ Ob G s.heap (Mu Y σ) l (.tset ks) := by
  cases a with
  | d z => cases e
  | loc l =>
    cases r
    have q := tst_loc e
    exact ⟨l, rfl, rfl, q, O.objs l _ q⟩
  | _ => cases e
variable {A : Around} {n : Nat} {Q : Bool → Prop}
noncomputable abbrev CPost (s : Shared) (Q : Bool → Prop) : Value → Shared → Prop := fun r s' => Gw s s' ∧ ∃ b, r = .bool b ∧ Q b
theorem KV.eqAt {h : Heap} {M : AS} {A' : Around} {s' : Shared} (hs : s'.heap = h) (un : A'.units + 500 < cLine) {k1 : List (Str × Value)} {d1 : List (Str × PyData)} (r1 : KV h M k1 d1) (o1 : ∀ p ∈ d1, dOk p.2 = true) :
    ∀ {k2 : List (Str × Value)} {d2 : List (Str × PyData)}, KV h M k2 d2 → (∀ p ∈ d2, dOk p.2 = true) → ∃ r, KeqHits A' s' k2 k1 r ∧
      r = d1.all fun p => match d2.lookup p.1 with
        | some d => PyData.eqv p.2 d
        | none => false := by
  subst hs
  induction r1 with
  | nil => intro k2 d2 r2 o2; exact ⟨true, .nil, rfl⟩
  | @cons k v d vs ds hv r1 ih =>
    intro k2 d2 r2 o2
    have hk := r2.at k
    cases e : d2.lookup k with
    | none =>
      rw [e] at hk
      exact ⟨false, .miss hk, by rw [List.all_cons, e]; rfl⟩
    | some dd =>
      rw [e] at hk
      obtain ⟨y, hy, ry⟩ := hk
      obtain ⟨r, hr, er⟩ := ih (fun p hp => o1 p (.tail _ hp)) r2 o2
      obtain ⟨as, ra⟩ := hv.reads
      obtain ⟨bs, rb⟩ := ry.reads
      have m2 : (k, dd) ∈ d2 := PySem.mem_of_lookup e
      have ok1 := o1 _ (.head _)
      have ok2 := o2 _ m2
      refine ⟨_, .hit hy (SeqAt.eqAt_reads _ _ _ _ _ _ _ _ ra rb (dOk.lay ok1) (dOk.lay ok2) ?_) hr, ?_⟩
      · have := dOk.dep ok1; have := Nat.min_le_left d.depth dd.depth; dsimp only at *; omega
      · rw [List.all_cons, e, er]
theorem o_eq (R : Rm A n) (O : S0 G Y σ s) (ra : VA s.heap (Mu Y σ) u a) (rb : VA s.heap (Mu Y σ) v b) (h : eqQ σ a b Q) : wpAny (model G.prog G.w) A (compareOp .Eq u v) (CPost s Q) NE s := by
  have un := R.un
  have hc := cLine_is
  cases h with
  | @d x y ex ey h1 h2 h3 =>
    obtain ⟨as, r1⟩ := rd_reads O ra ex
    obtain ⟨bs, r2⟩ := rd_reads O rb ey
    refine SeqAt.compareEq_reads r1 r2 (dOk.lay h1) (dOk.lay h2) ?_ ⟨.refl, _, rfl, h3⟩
    have := dOk.dep h1; have := Nat.min_le_left x.depth y.depth
    omega
  | m e1 e2 o1 o2 hq =>
    obtain ⟨l1, rfl, _, _, v1, d1, kv1, n1⟩ := rd_dict O ra e1
    obtain ⟨l2, rfl, _, _, v2, d2, kv2, n2⟩ := rd_dict O rb e2
    obtain ⟨r, hr, er⟩ := KV.eqAt (A' := A.in1) (s' := s) rfl (by show A.units + 1 + 500 < cLine; omega) kv1 o1 kv2 o2
    refine keq_eq n1 n2 d1 d2 (by omega) (fun _ => hr) ⟨.refl, _, rfl, ?_⟩
    rw [show (v1.length == v2.length && r) = dictEqv _ _ by rw [kv1.length, kv2.length, er]; rfl]
    exact hq
theorem o_ne (R : Rm A n) (O : S0 G Y σ s) (ra : VA s.heap (Mu Y σ) u a) (rb : VA s.heap (Mu Y σ) v b) (h : eqQ σ a b fun c => Q (!c)) : wpAny (model G.prog G.w) A (compareOp .NotEq u v) (CPost s Q) NE s := by
  have un := R.un
  have hc := cLine_is
  cases h with
  | @d x y ex ey h1 h2 h3 =>
    obtain ⟨as, r1⟩ := rd_reads O ra ex
    obtain ⟨bs, r2⟩ := rd_reads O rb ey
    refine _root_.PySem.SeqAt.compareNe_reads r1 r2 (dOk.lay h1) (dOk.lay h2) ?_ ⟨.refl, _, rfl, h3⟩
    have := dOk.dep h1; have := Nat.min_le_left x.depth y.depth
    omega
  | m e1 e2 o1 o2 hq =>
    obtain ⟨l1, rfl, _, _, v1, d1, kv1, n1⟩ := rd_dict O ra e1
    obtain ⟨l2, rfl, _, _, v2, d2, kv2, n2⟩ := rd_dict O rb e2
    obtain ⟨r, hr, er⟩ := KV.eqAt (A' := A.in1) (s' := s) rfl (by show A.units + 1 + 500 < cLine; omega) kv1 o1 kv2 o2
    refine keq_ne n1 n2 d1 d2 (by omega) (fun _ => hr) ⟨.refl, _, rfl, ?_⟩
    rw [show (v1.length == v2.length && r) = dictEqv _ _ by rw [kv1.length, kv2.length, er]; rfl]
    exact hq
theorem isD_some {a : AV} {x : PyData} (e : isD a = some x) : a = .d x := by cases a <;> cases e; rfl
theorem strOf_some {x : PyData} {k : Str} (e : strOf x = some k) : x = .str k := by cases x <;> cases e; rfl
theorem o_in (R : Rm A n) (O : S0 G Y σ s) (ra : VA s.heap (Mu Y σ) u a) (rb : VA s.heap (Mu Y σ) v b) (h : inQ σ a b Q) : wpAny (model G.prog G.w) A (compareOp .In u v) (CPost s Q) NE s := by
  have un := R.un
  have hc := cLine_is
  cases h with
  | @l x ys e1 e h1 h2 h3 =>
    rw [e1] at ra
    obtain ⟨as, rx⟩ := VR.reads ra
    obtain ⟨bs, ry⟩ := rd_reads O rb e
    refine SeqAt.in_list_reads ry rx (dOk_items h2).1 (dOk.lay h1) ?_ ⟨.refl, _, rfl, h3⟩
    have := dOk.dep h1; have := Nat.min_le_right (PyData.depthAll ys) x.depth; omega
  | @t x ys e1 e h1 h2 h3 =>
    rw [e1] at ra
    obtain ⟨as, rx⟩ := VR.reads ra
    obtain ⟨bs, ry⟩ := rd_reads O rb e
    refine SeqAt.in_tuple_reads ry rx (dOk_itemsT h2).1 (dOk.lay h1) ?_ ⟨.refl, _, rfl, h3⟩
    have := dOk.dep h1; have := Nat.min_le_right (PyData.depthAll ys) x.depth; omega
  | m e1 e h =>
    rw [e1] at ra
    obtain ⟨t, rfl⟩ := VR.str_inv ra
    obtain ⟨l, rfl, _, _, ob⟩ := rd_dict O rb e
    exact c_in_dict ob ⟨.tok _, _, rfl, h⟩
  | s e1 e h1 h2 =>
    rw [e1] at ra
    obtain ⟨l, rfl, _, _, ob⟩ := rd_tset O rb e
    obtain ⟨l2, vs, n2, rfl, _⟩ := VR.tup_inv ra
    exact c_in_tset R ob ra h1 fun tk => ⟨.tok _, _, rfl, h2⟩
theorem o_notin (R : Rm A n) (O : S0 G Y σ s) (ra : VA s.heap (Mu Y σ) u a) (rb : VA s.heap (Mu Y σ) v b) (h : inQ σ a b fun c => Q (!c)) : wpAny (model G.prog G.w) A (compareOp .NotIn u v) (CPost s Q) NE s :=
  c_notIn (wpAny_mono (o_in R O ra rb h) (fun r s' hr c ec => by
    obtain ⟨g, c', e', q⟩ := hr
    rw [e'] at ec; cases ec
    exact ⟨g, _, rfl, q⟩) fun _ _ f => f)
theorem intQ_inv {P : Int → Int → Prop} (ra : VA s.heap (Mu Y σ) u a) (rb : VA s.heap (Mu Y σ) v b) (h : intQ a b P) : ∃ i t j t', u = .int i t ∧ v = .int j t' ∧ P i j := by
  cases h with
  | mk e1 e2 h =>
    rw [e1] at ra
    rw [e2] at rb
    obtain ⟨t, e1⟩ := VR.int_inv ra
    obtain ⟨t', e2⟩ := VR.int_inv rb
    exact ⟨_, t, _, t', e1, e2, h⟩
theorem isNot_of {M : Model} {P : Value → Shared → Prop} (h : wpAny M A (compareOp .Is u v) (fun r s' => ∀ b, r = .bool b → P (.bool (!b)) s') NE s) : wpAny M A (compareOp .IsNot u v) P NE s := by
  intro Γ p hΓ
  have h := h Γ p hΓ
  have e1 : compareOp .Is u v = (do let b ← isSame u v; pure (.bool b)) := rfl
  have e2 : compareOp .IsNot u v = (do let b ← isSame u v; pure (.bool (!b))) := rfl
  rw [e1] at h
  rw [e2]
  rw [Sem.wp_bind'] at h ⊢
  refine Sem.wp_mono _ _ _ (fun b p' s' k => ?_) (fun _ _ _ k => k) p s h
  exact k b rfl
theorem o_is (ra : VA s.heap (Mu Y σ) u a) (rb : VA s.heap (Mu Y σ) v b) (h : isQ a b Q) : wpAny (model G.prog G.w) A (compareOp .Is u v) (CPost s Q) NE s := by
  cases h with
  | n e1 e2 h =>
    rw [e1] at ra
    rw [e2] at rb
    rw [VR.none_inv ra, VR.none_inv rb]
    exact is_none_gen ⟨.refl, _, rfl, h⟩
  | b e1 e2 h =>
    rw [e1] at ra
    rw [e2] at rb
    rw [VR.bool_inv ra, VR.bool_inv rb]
    exact is_bool ⟨.refl, _, rfl, h⟩
  | l e1 e2 h =>
    rw [e1] at ra
    rw [e2] at rb
    obtain ⟨l, _, _, e, _⟩ := VR.lst_inv ra
    rw [e, VR.none_inv rb]
    exact is_none_gen ⟨.refl, _, rfl, h⟩
  | t e1 e2 h =>
    rw [e1] at ra
    rw [e2] at rb
    obtain ⟨l, _, _, e, _⟩ := VR.tup_inv ra
    rw [e, VR.none_inv rb]
    exact is_none_gen ⟨.refl, _, rfl, h⟩
theorem o_cmp {op : CmpOp} (R : Rm A n) (O : S0 G Y σ s) (ra : VA s.heap (Mu Y σ) u a) (rb : VA s.heap (Mu Y σ) v b) (h : cmpQ op σ a b Q) : wpAny (model G.prog G.w) A (compareOp op u v) (CPost s Q) NE s := by
  cases op with
  | Eq => exact o_eq R O ra rb h
  | NotEq => exact o_ne R O ra rb h
  | In => exact o_in R O ra rb h
  | NotIn => exact o_notin R O ra rb h
  | Is => exact o_is ra rb h
  | IsNot => exact isNot_of (wpAny_mono (o_is (G := G) (A := A) (Q := fun b => Q (!b)) ra rb h) (fun r s' hr c ec => by
      obtain ⟨g, c', e', q⟩ := hr
      rw [e'] at ec; cases ec
      exact ⟨g, _, rfl, q⟩) fun _ _ f => f)
  | Lt => obtain ⟨i, t, j, t', rfl, rfl, h⟩ := intQ_inv ra rb h; exact P.lt_int ⟨.refl, _, rfl, h⟩
  | Gt => obtain ⟨i, t, j, t', rfl, rfl, h⟩ := intQ_inv ra rb h; exact P.gt_int ⟨.refl, _, rfl, h⟩
  | GtE => obtain ⟨i, t, j, t', rfl, rfl, h⟩ := intQ_inv ra rb h; exact P.ge_int ⟨.refl, _, rfl, h⟩
  | LtE => exact h.elim
end
section
variable {G : Wd} {Y : AS} {σ : Sto} {s : Shared} {u v : Value} {x y : PyData} {a b : AV} {A : Around} {n : Nat}
noncomputable abbrev DPost (Y : AS) (σ : Sto) (s : Shared) (Q : PyData → Prop) : Value → Shared → Prop := fun r s' => Gw s s' ∧ ∃ x, VR s'.heap (Mu Y σ) r x ∧ Q x
theorem DPost.mk {Q : PyData → Prop} {r : Value} {s' : Shared} {x : PyData} (g : Gw s s') (r' : VR s'.heap (Mu Y σ) r x) (q : Q x) : DPost Y σ s Q r s' := ⟨g, x, r', q⟩
theorem new_off (O : S0 G Y σ s) : ¬ Mu Y σ s.heap.objs.size := by
  have := O.fresh (get_none_of_size (Nat.le_refl s.heap.objs.size))
  rintro (h | h)
  · exact this.1 h
  · exact h this.2.1
theorem VR.tupNew (O : S0 G Y σ s) {vs : List Value} {xs : List PyData} (r : VRs s.heap (Mu Y σ) vs xs) : VR (s.heap.push { cls := .type "tuple", data := .seq vs.toArray }) (Mu Y σ) (.ref s.heap.objs.size) (.tuple xs) :=
  .tup (n := 0) (Heap.get?_push_size _ rfl) (new_off O) (r.mv (Gw.push _ s.toks).mv)
theorem VR.lstNew (O : S0 G Y σ s) {vs : List Value} {xs : List PyData} (r : VRs s.heap (Mu Y σ) vs xs) : VR (s.heap.push { cls := .type "list", data := .seq vs.toArray }) (Mu Y σ) (.ref s.heap.objs.size) (.list xs) :=
  .lst (n := 0) (Heap.get?_push_size _ rfl) (new_off O) (r.mv (Gw.push _ s.toks).mv)
theorem o_bin {op : Operator} {Q : PyData → Prop} (O : S0 G Y σ s) (ra : VA s.heap (Mu Y σ) u a) (rb : VA s.heap (Mu Y σ) v b) (h : binQ op a b Q) : wpAny (model G.prog G.w) A (binaryOp op u v) (DPost Y σ s Q) NE s := by
  cases op with
  | Add =>
    replace h : addQ a b Q := h
    cases h with
    | i e1 e2 h =>
      rw [e1] at ra
      rw [e2] at rb
      obtain ⟨t, rfl⟩ := VR.int_inv ra
      obtain ⟨t', rfl⟩ := VR.int_inv rb
      exact P.add_int (.mk (.tok _) (.int _ _) h)
    | s e1 e2 o h =>
      rw [e1] at ra
      rw [e2] at rb
      obtain ⟨t, rfl⟩ := VR.str_inv ra
      obtain ⟨t', rfl⟩ := VR.str_inv rb
      exact PyProof.Rows.add_str (fun t' tk => .mk (.tok _) (.str _ _) h) o
    | l e1 e2 o h =>
      rw [e1] at ra
      rw [e2] at rb
      obtain ⟨l, vs, n, rfl, hl, _, rv⟩ := VR.lst_inv ra
      obtain ⟨l', ws, n', rfl, hl', _, rw⟩ := VR.lst_inv rb
      refine P.add_list hl hl' ?_ (by rw [List.size_toArray, List.size_toArray, rv.length, rw.length]; exact o)
      have := VR.lstNew O (rv.append rw)
      rw [List.append_toArray]
      exact .mk (.push _ _) this h
    | t e1 e2 o h =>
      rw [e1] at ra
      rw [e2] at rb
      obtain ⟨l, vs, n, rfl, hl, hm, rv⟩ := VR.tup_inv ra
      obtain ⟨l', ws, n', rfl, hl', hm', rw⟩ := VR.tup_inv rb
      by_cases e1 : vs = []
      · subst e1
        cases rv
        refine concat_meets ⟨_, hl, rfl⟩ ⟨_, hl', rfl⟩ noFill_tuple_add seq_tuple_add PySem.F.slot_tuple_add PySem.F.entry_tuple_add (PySem.F.args_tuple_add_2 _ _)
          (tuple_addW0 _ _ _ _ _ _ _ _ _ _ rfl) ⟨hl, hl', .mk .refl (.tup hl' hm' rw) h⟩
      · by_cases e2 : ws = []
        · subst e2
          cases rw
          refine concat_meets ⟨_, hl, rfl⟩ ⟨_, hl', rfl⟩ noFill_tuple_add seq_tuple_add PySem.F.slot_tuple_add PySem.F.entry_tuple_add (PySem.F.args_tuple_add_2 _ _)
            (tuple_addW1 _ _ _ _ _ _ _ _ _ _ (by simpa using e1) rfl) ⟨hl, hl', .mk .refl (.tup hl hm rv) (by rw [List.append_nil] at h; exact h)⟩
        · refine P.add_tuple hl hl' (by simpa using e1) (by simpa using e2) ?_ (by rw [List.size_toArray, List.size_toArray, rv.length, rw.length]; exact o)
          have := VR.tupNew O (rv.append rw)
          rw [List.append_toArray]
          exact .mk (.push _ _) this h
  | Sub => obtain ⟨i, t, j, t', rfl, rfl, h⟩ := intQ_inv ra rb h; exact P.sub_int (.mk (.tok _) (.int _ _) h)
  | Mult => obtain ⟨i, t, j, t', rfl, rfl, h⟩ := intQ_inv ra rb h; exact P.mul_int (.mk (.tok _) (.int _ _) h.2) h.1
  | Mod => obtain ⟨i, t, j, t', rfl, rfl, h⟩ := intQ_inv ra rb h; exact PyProof.Rows.mod_int' h.1 (.mk (.tok _) (.int _ _) h.2)
  | FloorDiv => obtain ⟨i, t, j, t', rfl, rfl, h⟩ := intQ_inv ra rb h; exact floordiv_int h.1 (.mk (.tok _) (.int _ _) h.2.2) (.inl h.2.1)
  | Pow => obtain ⟨i, t, j, t', rfl, rfl, h⟩ := intQ_inv ra rb h; exact PyProof.Rows.pow_int h.1 h.2.1 (.mk (.tok _) (.int _ _) h.2.2)
  | _ => exact h.elim
theorem seqOf_some {x : PyData} {ds : List PyData} (e : seqOf x = some ds) : x = .list ds ∨ x = .tuple ds := by
  cases x <;> cases e
  · exact .inl rfl
  · exact .inr rfl
theorem seqIndex_inv {k : Int} {n j : Nat} (h : seqIndex? k n = some j) : (0 ≤ k ∧ k < n ∧ j = k.toNat) ∨ (k < 0 ∧ -(n : Int) ≤ k ∧ j = (k + n).toNat ∧ j < n) := by
  unfold seqIndex? at h
  by_cases hk : k < 0
  · simp only [if_pos hk] at h
    by_cases c : (decide (0 ≤ k + ↑n) && decide (k + ↑n < ↑n)) = true
    · rw [if_pos c] at h
      simp only [Bool.and_eq_true, decide_eq_true_eq] at c
      have := Option.some.inj h
      exact .inr ⟨hk, by omega, by omega, by omega⟩
    · rw [if_neg c] at h; cases h
  · simp only [if_neg hk] at h
    by_cases c : (decide (0 ≤ k) && decide (k < ↑n)) = true
    · rw [if_pos c] at h
      simp only [Bool.and_eq_true, decide_eq_true_eq] at c
      have := Option.some.inj h
      exact .inl ⟨by omega, by omega, by omega⟩
    · rw [if_neg c] at h; cases h
theorem seq_rd {ds : List PyData} (O : S0 G Y σ s) (r : VA s.heap (Mu Y σ) v a) (e : seqRd σ a = some ds) : ∃ l vs, v = .ref l ∧ VRs s.heap (Mu Y σ) vs ds ∧ (s.heap.IsList l vs.toArray ∨ ∃ n, IsT s.heap l vs.toArray n) := by
  have go : ∀ {x : PyData}, rd σ a = some x → seqOf x = some ds → ∃ l vs, v = .ref l ∧ VRs s.heap (Mu Y σ) vs ds ∧ (s.heap.IsList l vs.toArray ∨ ∃ n, IsT s.heap l vs.toArray n) := fun e1 e2 => by
    rcases seqOf_some e2 with rfl | rfl
    · obtain ⟨l, vs, n, rfl, hl, rv⟩ := rd_list O r e1
      exact ⟨l, vs, rfl, rv, .inl ⟨_, hl, rfl, n, rfl⟩⟩
    · obtain ⟨l, vs, n, rfl, hl, rv⟩ := rd_tup r e1
      exact ⟨l, vs, rfl, rv, .inr ⟨n, hl⟩⟩
  cases a with
  | scr xs =>
    cases e
    obtain ⟨l, vs, rfl, hl, rv, _⟩ := r
    exact ⟨l, vs, rfl, rv, .inl hl⟩
  | d x =>
    have e : (rd σ (.d x)).bind seqOf = some ds := e
    obtain ⟨x, e1, e2⟩ := Option.bind_eq_some_iff.mp e; exact go e1 e2
  | loc x =>
    have e : (rd σ (.loc x)).bind seqOf = some ds := e
    obtain ⟨x, e1, e2⟩ := Option.bind_eq_some_iff.mp e; exact go e1 e2
  | ins x =>
    have e : (rd σ (.ins x)).bind seqOf = some ds := e
    cases e
theorem o_idx {Q : PyData → Prop} (O : S0 G Y σ s) (ra : VA s.heap (Mu Y σ) u a) (rb : VA s.heap (Mu Y σ) v b) (h : idxQ σ a b Q) : wpAny (model G.prog G.w) A (getItem u v) (DPost Y σ s Q) NE s := by
  cases h with
  | @s ds k j d e e2 h1 h2 e3 e4 h =>
    rw [e2] at rb
    obtain ⟨t, rfl⟩ := VR.int_inv rb
    obtain ⟨l, vs, rfl, rv, hl' | ⟨n, hl⟩⟩ := seq_rd O ra e
    · obtain ⟨w, hw, rw⟩ := rv.get e4
      have hlen := rv.length
      have hw' : vs.toArray[j]? = some w := by rw [List.getElem?_toArray]; exact hw
      rcases seqIndex_inv e3 with ⟨c1, c2, rfl⟩ | ⟨c1, c2, rfl, c3⟩
      · exact wpAny_getItem_list hl' c1 h2 hw' (.mk .refl rw h)
      · refine wpAny_getItem_list_neg hl' c1 (by rw [List.size_toArray, hlen]; omega) h1 ?_ (.mk .refl rw h)
        rw [List.size_toArray, hlen]; exact hw'
    · obtain ⟨w, hw, rw⟩ := rv.get e4
      exact P.getItem_tuple hl h1 h2 (by rw [List.size_toArray, rv.length]; exact e3) (by rw [List.getElem?_toArray]; exact hw) (.mk .refl rw h)
  | @m kvs k x e e2 e3 hQ =>
    rw [e2] at rb
    obtain ⟨t, rfl⟩ := VR.str_inv rb
    obtain ⟨l, rfl, _, _, vs, hm, kv, hd⟩ := rd_dict O ra e
    have hk := kv.at k
    rw [e3] at hk
    obtain ⟨w, hw, rw⟩ := hk
    exact wpAny_getItem_of (strKind_is G.prog G.w k t) hm.mapOf hw (.mk (.tok _) rw hQ)
end
section
variable {G : Wd} {Y : AS} {F : Fm} {μ : Env1} {σ : Sto} {s : Shared} {u v : Value} {x y : PyData} {a b : AV} {A : Around} {n : Nat}
theorem DPost.post {Q : AV → Sto → Prop} {r : Value} {s' : Shared} (S : St G Y F μ σ s) (h : DPost Y σ s (fun x => Q (.d x) σ) r s') : Post G Y F μ σ s Q r s' := by
  obtain ⟨g, x, rx, q⟩ := h
  exact ⟨.d x, σ, S.gw g, .gw g, rx, q⟩
theorem VRs.picks {h : Heap} {M : AS} {vs : List Value} {xs : List PyData} (r : VRs h M vs xs) : ∀ ks : List Nat, VRs h M (ks.filterMap fun k => vs[k]?) (ks.filterMap fun k => xs[k]?)
  | [] => .nil
  | k :: ks => by
    have ih := r.picks ks
    cases e : xs[k]? with
    | none =>
      have e' : vs[k]? = none := by
        rw [List.getElem?_eq_none_iff] at e ⊢
        rw [r.length]; exact e
      rw [List.filterMap_cons, e', List.filterMap_cons, e]; exact ih
    | some d =>
      obtain ⟨w, hw, rw'⟩ := r.get e
      rw [List.filterMap_cons, hw, List.filterMap_cons, e]; exact .cons rw' ih
theorem part_of {c : AV} {l : Value} {lo : Option Int} {M : AS} (r : VA s.heap M l c) (e : partOf c lo) : IsPart l lo := by
  cases e with
  | none => obtain rfl := VR.none_inv r; exact .none
  | int => obtain ⟨t, rfl⟩ := VR.int_inv r; exact .int _ _
theorem o_slc {sl : Addr} {l h t : Value} {cl ch ct : AV} {Q : PyData → Prop} (O : S0 G Y σ s) (ra : VA s.heap (Mu Y σ) v a) (hs : s.heap.IsSliceOf sl l h t) (rl : VA s.heap (Mu Y σ) l cl) (rh : VA s.heap (Mu Y σ) h ch) (rt : VA s.heap (Mu Y σ) t ct)
    (hq : slcQ a cl ch ct Q) : wpAny (model G.prog G.w) A (getItem v (.ref sl)) (DPost Y σ s Q) NE s := by
  cases hq with
  | @mk xs lo hi st e0 hz e1 e2 e3 h0 hq =>
    rw [e0] at ra
    obtain ⟨a, vs, n, rfl, hl, _, rv⟩ := VR.lst_inv ra
    refine wpAny_getItem_list_slice ⟨_, hl, rfl, n, rfl⟩ hs (part_of rl e1) (part_of rh e2) (part_of rt e3) h0 ?_ (by rw [List.size_toArray, rv.length]; exact hz)
    have e : slicePick vs.toArray lo hi st = (pick vs xs.length lo hi st).toArray := by
      unfold slicePick pick
      simp [rv.length]
    rw [e]
    exact .mk (.push _ _) (VR.lstNew O (rv.picks _)) hq
theorem fresh_mod (ok : G.Ok) (O : S0 G Y σ s) : (s.heap.objs.size == sysModules) = false :=
  beq_eq_false_iff_ne.mpr (Nat.ne_of_gt (Nat.lt_trans (modules_low ok.top.nolimit) (O.room ok)))
theorem size_none : s.heap.get? s.heap.objs.size = none := get_none_of_size (Nat.le_refl _)
theorem Post.alloc {Q : AV → Sto → Prop} {h' : Heap} {tk : Nat} {o : AO} (S : St G Y F μ σ s) (ha : ∃ ob, h'.get? s.heap.objs.size = some ob) (k : ∀ b o, s.heap.get? b = some o → h'.get? b = some o)
    (ob : Ob G h' (Mu Y (sput σ s.heap.objs.size o)) s.heap.objs.size o) (q : Q (.loc s.heap.objs.size) (sput σ s.heap.objs.size o)) : Post G Y F μ σ s Q (.ref s.heap.objs.size) { s with heap := h', toks := tk } :=
  ⟨.loc s.heap.objs.size, _, S.over (S.s0.alloc tk size_none ha k ob) (.alloc size_none k), .alloc size_none k, rfl, q⟩
theorem keep_push_same {h h' : Heap} {o : Obj} (hs : Heap.SameBut h.objs.size (h.push o) h') : ∀ b ob, h.get? b = some ob → h'.get? b = some ob := fun b ob e =>
  (hs.2 b (Nat.ne_of_lt (Heap.lt_size e))).trans (Heap.get?_push_of_some _ e)
noncomputable def biVal : BI → Value
  | .len => .builtin "len"
  | .tuple => .type "tuple"
  | .int => .type "int"
  | .str => .type "str"
  | .max => .builtin "max"
  | .dict => .type "dict"
theorem VAs.one_inv {h : Heap} {M : AS} {vs : List Value} {c : AV} (r : VAs h M vs [c]) : ∃ v, vs = [v] ∧ VA h M v c := by
  cases r with
  | cons a b => cases b; exact ⟨_, rfl, a⟩
theorem VAs.two_inv {h : Heap} {M : AS} {vs : List Value} {c d : AV} (r : VAs h M vs [c, d]) : ∃ v w, vs = [v, w] ∧ VA h M v c ∧ VA h M w d := by
  cases r with
  | cons a b =>
    obtain ⟨w, rfl, r⟩ := b.one_inv
    exact ⟨_, w, rfl, a, r⟩
theorem o_bi {f : BI} {vs : List Value} {cs : List AV} {Q : AV → Sto → Prop} (R : Rm A n) (ok : G.Ok) (S : St G Y F μ σ s) (r : VAs s.heap (Mu Y σ) vs cs) (h : biQ f σ cs Q) :
    wpAny (model G.prog G.w) A (call (biVal f) vs) (Post G Y F μ σ s Q) NE s := by
  have O := S.s0
  cases h with
  | len ef e e2 h1 h2 =>
    rw [e] at r
    rw [ef]
    obtain ⟨v, rfl, rv⟩ := r.one_inv
    obtain ⟨l, us, rfl, ru, hl | ⟨n, hl⟩⟩ := seq_rd O rv e2
    · refine call_len_list hl (by rw [List.size_toArray, ru.length]; exact h1) (DPost.post S (.mk (.tok _) ?_ h2))
      rw [List.size_toArray, ru.length]; exact .int _ _
    · refine P.len_tuple hl (by rw [List.size_toArray, ru.length]; omega) (DPost.post S (.mk (.tok _) ?_ h2))
      rw [List.size_toArray, ru.length]; exact .int _ _
  | tupL ef e o h =>
    rw [e] at r
    rw [ef]
    obtain ⟨v, rfl, rv⟩ := r.one_inv
    obtain ⟨l, us, n, rfl, hl, _, ru⟩ := VR.lst_inv rv
    refine call_tuple_list ⟨_, hl, rfl, n, rfl⟩ (fun h' k => DPost.post S ?_) (by rw [List.size_toArray, ru.length]; exact o)
    have O' := O.grow s.toks k
    have g : Gw s { s with heap := h' } := ⟨h', s.toks, rfl, k⟩
    exact .mk (g.trans (.push _ _)) (VR.tupNew O' (ru.mv g.mv)) h
  | tupT ef e h =>
    rw [e] at r
    rw [ef]
    obtain ⟨v, rfl, rv⟩ := r.one_inv
    obtain ⟨l, us, n, rfl, hl, hm, ru⟩ := VR.tup_inv rv
    exact call_tuple_same ⟨_, hl, rfl, n, rfl⟩ (DPost.post S (.mk .refl (.tup hl hm ru) h))
  | intI ef e h =>
    rw [e] at r
    rw [ef]
    obtain ⟨v, rfl, rv⟩ := r.one_inv
    obtain ⟨t, rfl⟩ := VR.int_inv rv
    exact call_int_int (DPost.post S (.mk .refl (.int _ _) h))
  | intB ef e h =>
    rw [e] at r
    rw [ef]
    obtain ⟨v, rfl, rv⟩ := r.one_inv
    obtain rfl := VR.bool_inv rv
    exact call_int_bool (DPost.post S (.mk (.tok _) (.int _ _) h))
  | str ef e o1 o2 h =>
    rw [e] at r
    rw [ef]
    obtain ⟨v, rfl, rv⟩ := r.one_inv
    obtain ⟨t, rfl⟩ := VR.int_inv rv
    exact str_of_int_fit (N := 10) (by split <;> omega) (by omega) fun _ => DPost.post S (.mk (.tok _) (.str _ _) h)
  | @max i j ef e h =>
    rw [e] at r
    rw [ef]
    obtain ⟨v, w, rfl, rv, rw⟩ := r.two_inv
    obtain ⟨t, rfl⟩ := VR.int_inv rv
    obtain ⟨t', rfl⟩ := VR.int_inv rw
    refine max_two_ints R.hh fun h' tk k => DPost.post S (.mk (.new k) ?_ h)
    by_cases c : j > i
    · rw [if_pos c, if_pos c]; exact .int _ _
    · rw [if_neg c, if_neg c]; exact .int _ _
  | @dict v kvs ef e e1 h1 h2 =>
    rw [e] at r
    rw [ef]
    obtain ⟨v, rfl, rv⟩ := r.one_inv
    obtain ⟨l, rfl, _, _, us, hm, kv, hd⟩ := rd_dict O rv e1
    refine kt_call_dict hd hm (by rw [kv.length]; exact h1) fun h' hm' hs => ?_
    have k := keep_push_same hs
    refine Post.alloc (o := .dict kvs) S ?_ k ⟨us, hm', kv.mv (Mv.put size_none k), fresh_mod ok O⟩ (h2 _ (O.fresh size_none).2.1)
    obtain ⟨o, _, _, e, _⟩ := hm'
    exact ⟨o, e⟩
end
section
variable {prog : Program} {w : World} {A : Around} {E : Value → Shared → Prop} {s : Shared}
theorem setItem_at {l : Addr} {items : Array Value} {n : Nat} {k : Int} {t : Tok} {v : Value} {Q : Unit → Shared → Prop} (hl : IsL s.heap l items n)
    (h0 : 0 ≤ k) (hfit : k < 2 ^ 63) (hn : k < items.size)
    (hQ : Q () { s with heap := s.heap.update l (Obj.mapSeq (·.setIfInBounds k.toNat v)) }) :
    wpAny (model prog w) A (setItem (.ref l) (.int k t) v) Q E s := by
  have hl' : s.heap.IsList l items := ⟨_, hl, rfl, n, rfl⟩
  unfold setItem
  try with_reducible refine wpAny_holding ?_
  first | refine wpAny_bind (wpAny_pure ?_) | skip
  refine wpAny_bind (wpAny_sequenceKey hl'.typeIs (by decide) ?_)
  refine wpAny_bind (wpAny_callSpecial?_slot (name := Str.ofString "__setitem__") hl'.typeIs slot_list_setitem
    (wpAny_call_entry slot_list_setitem hl'.typeIs entry_list_setitem ?_ (args_list_setitem _ _ _)))
  show wpAny _ _ (Builtin.List.listSubscript? (.int k t) >>= _) _ _ s
  refine wpAny_bind (wpAny_listSubscript_int (fitsIndex_of h0 hfit) ?_)
  clear hfit
  obtain ⟨j, rfl⟩ := Int.eq_ofNat_of_zero_le h0
  have hj : j < items.size := by omega
  have hx' : items[j]? = some items[j] := Array.getElem?_eq_getElem hj
  show wpAny _ _ ((seqItemAt l j >>= fun r => pure (r.map (j, ·))) >>= _) _ _ s
  refine wpAny_bind (wpAny_bind (wpAny_seqItemAt hl rfl (wpAny_pure ?_)))
  rw [hx']
  show wpAny _ _ (setSeqItemAt l j v >>= _) _ _ s
  refine wpAny_bind (wpAny_setSeqItemAt hl rfl ?_)
  first
    | exact wpAny_bind (wpAny_pure (wpAny_pure ⟨.none, rfl, wpAny_pure hQ⟩))
    | exact wpAny_pure ⟨.none, rfl, wpAny_pure hQ⟩
end
theorem isL_upd {h : Heap} {l : Addr} {items : Array Value} {n : Nat} (hl : IsL h l items n) (f : Array Value → Array Value) : ∃ n', IsL (h.update l (Obj.mapSeq f)) l (f items) n' :=
  ⟨_, Heap.get?_update_self _ hl rfl⟩
theorem keep_upd {h : Heap} {l : Addr} (f : Obj → Obj) : ∀ b o, b ≠ l → h.get? b = some o → (h.update l f).get? b = some o := fun b o hb e => (Heap.get?_update_other _ _ (Ne.symm hb)).trans e
section
variable {G : Wd} {Y : AS} {F : Fm} {μ : Env1} {σ : Sto} {s : Shared} {u v : Value} {x y : PyData} {a b : AV} {A : Around} {n : Nat}
theorem VRs.set {h : Heap} {M : AS} {vs : List Value} {xs : List PyData} (r : VRs h M vs xs) {w : Value} {d : PyData} (rw : VR h M w d) (k : Nat) : VRs h M (vs.set k w) (xs.set k d) := by
  induction vs generalizing xs k with
  | nil => cases r; exact .nil
  | cons v vs ih =>
    cases r with
    | cons hd r =>
      cases k with
      | zero => exact .cons rw r
      | succ k => exact .cons hd (ih r k)
noncomputable abbrev UPost (G : Wd) (Y : AS) (F : Fm) (μ : Env1) (σ : Sto) (s : Shared) (Q : Sto → Prop) (s' : Shared) : Prop := ∃ σ', St G Y F μ σ' s' ∧ E0 σ σ' s s' ∧ Q σ'
theorem UPost.mk {Q : Sto → Prop} {h' : Heap} {tk : Nat} {l : Addr} {o : AO} (S : St G Y F μ σ s) (ho : σ l ≠ none) (ha : ∃ ob, h'.get? l = some ob) (k : ∀ b o, b ≠ l → s.heap.get? b = some o → h'.get? b = some o)
    (ob : Ob G h' (Mu Y (sput σ l o)) l o) (q : Q (sput σ l o)) : UPost G Y F μ σ s Q { s with heap := h', toks := tk } :=
  ⟨_, S.over (S.s0.upd tk ho ha k ob) (.upd ho ha k), .upd ho ha k, q⟩
theorem some_ne {α : Type} {o : Option α} {x : α} (h : o = some x) : o ≠ none := by rw [h]; exact fun z => nomatch z
theorem UPost.list {Q : Sto → Prop} {l : Addr} {xs ys : List PyData} {vs : List Value} {n : Nat} (f : Array Value → Array Value) (ws : List Value) (S : St G Y F μ σ s) (ho : σ l = some (.list xs)) (hl : IsL s.heap l vs.toArray n)
    (hf : f vs.toArray = ws.toArray) (rw : VRs s.heap (Mu Y σ) ws ys) (q : Q (sput σ l (.list ys))) : UPost G Y F μ σ s Q { s with heap := s.heap.update l (Obj.mapSeq f) } := by
  obtain ⟨n', h'⟩ := isL_upd hl f
  refine UPost.mk (o := .list ys) (tk := s.toks) S (some_ne ho) ⟨_, h'⟩ (keep_upd _) ⟨ws, n', by rw [← hf]; exact h', rw.mv (Mv.upd (some_ne ho) (keep_upd _))⟩ q
theorem KV.put {h : Heap} {M : AS} {vs : List (Str × Value)} {ds : List (Str × PyData)} (r : KV h M vs ds) {k : Str} {w : Value} {d : PyData} (rw' : VR h M w d) : KV h M (stored vs k w) (dput ds k d) := by
  have e : (vs.any fun kv => decide (kv.1 = k)) = (ds.lookup k).isSome := by
    induction r with
    | nil => rfl
    | @cons k' v' d' vs ds hv r ih =>
      rw [List.any_cons, List.lookup_cons]
      by_cases q : k' = k
      · subst q; simp
      · have q' : (k == k') = false := by simpa using fun z : k = k' => q z.symm
        rw [q', ih]; simp [q]
  unfold stored dput
  rw [e]
  split
  · clear e
    rename_i hh
    clear hh
    induction r with
    | nil => exact .nil
    | @cons k' v' d' vs ds hv r ih =>
      rw [List.map_cons, List.map_cons]
      dsimp only
      by_cases q : k' = k
      · rw [if_pos q, if_pos q, q]; exact .cons rw' ih
      · rw [if_neg q, if_neg q]; exact .cons hv ih
  · clear e
    rename_i hh
    clear hh
    induction r with
    | nil => exact .cons rw' .nil
    | cons hv r ih => exact .cons hv ih
theorem isLoc_some {a : AV} {l : Addr} (e : isLoc a = some l) : a = .loc l := by cases a <;> cases e; rfl
theorem o_sub {o i c : AV} {ov iv cv : Value} {Q : Sto → Prop} (R : Rm A n) (S : St G Y F μ σ s) (ro : VA s.heap (Mu Y σ) ov o) (ri : VA s.heap (Mu Y σ) iv i) (rc : VA s.heap (Mu Y σ) cv c) (h : subQ σ o i c Q) :
    wpAny (model G.prog G.w) A (setItem ov iv cv) (fun _ s' => UPost G Y F μ σ s Q s') NE s := by
  have O := S.s0
  cases h with
  | @l l x xs k e1 e2 e e4 h1 h2 h3 h4 =>
    rw [e1] at ro
    rw [e2] at rc
    rw [e4] at ri
    cases ro
    obtain ⟨t, rfl⟩ := VR.int_inv ri
    obtain ⟨vs, n, hl, rv⟩ := O.objs l _ e
    refine setItem_at hl h1 h2 (by rw [List.size_toArray, rv.length]; exact h3) ?_
    exact UPost.list _ (vs.set _ cv) S e hl (by rw [List.setIfInBounds_toArray]) (rv.set rc _) h4
  | @m l x kvs k e1 e2 e e4 h1 h =>
    rw [e1] at ro
    rw [e2] at rc
    rw [e4] at ri
    cases ro
    obtain ⟨t, rfl⟩ := VR.str_inv ri
    obtain ⟨vs, hm, kv, hd⟩ := O.objs l _ e
    refine wpAny_setItem_pairs (strKind_is G.prog G.w k t) hm (fun h' hm' hs => ?_) (by rw [kv.length]; exact h1)
    have kk : ∀ b o, b ≠ l → s.heap.get? b = some o → h'.get? b = some o := fun b o hb e => (hs.2 b hb).trans e
    refine UPost.mk (o := .dict (dput kvs k x)) S (some_ne e) (by obtain ⟨o, _, _, e, _⟩ := hm'; exact ⟨o, e⟩) kk ⟨_, hm', (kv.put rc).mv (Mv.upd (some_ne e) kk), hd⟩ h
  | @s l x ks ds e1 e2 e e4 h1 h2 h =>
    rw [e1] at ro
    rw [e2] at rc
    rw [e4] at ri
    cases ro
    obtain ⟨a, vs, n, rfl, _⟩ := VR.tup_inv ri
    obtain ⟨xs, hm, hk', rx, hd⟩ := O.objs l _ e
    have room : A.in1.units + 20 < cLine := by
      have := R.un; have := cLine_is
      show A.units + 1 + 20 < cLine
      omega
    refine @wpAny_setItem_heap G.prog G.w PyData (fun a b => Classical.propDecidable (a = b)) (tKind G.prog G.w) A NE s l a (.tuple ds) xs cv _ room ⟨h1, VR.reads ri⟩ hm (fun h' hm' hs => ?_) (by rw [← hk', List.length_map] at h2; exact h2)
    have kk : ∀ b o, b ≠ l → s.heap.get? b = some o → h'.get? b = some o := fun b o hb e => (hs.2 b hb).trans e
    have mv := Mv.upd (Y := Y) (o := .tset (if ks.any (fun y => PyData.eqv y (.tuple ds)) then ks else ks ++ [.tuple ds])) (some_ne e) kk
    refine UPost.mk (o := .tset (if ks.any (fun y => PyData.eqv y (.tuple ds)) then ks else ks ++ [.tuple ds])) S (some_ne e) (by obtain ⟨o, _, _, e, _⟩ := hm'; exact ⟨o, e⟩) kk ⟨_, hm', ?_, ?_, hd⟩ h
    · subst hk'
      rw [atKey_eqv xs (.tuple ds) h1 fun p hp => by obtain ⟨o, es, ep, _, _, _, _, his, _⟩ := hm; exact (his p hp).1]
      unfold storedH
      split
      · rw [List.map_map]
        refine List.map_congr_left fun p _ => ?_
        unfold putAt
        simp only [Function.comp]
        split <;> rfl
      · simp
    · intro p hp
      unfold storedH at hp
      split at hp
      · obtain ⟨q, hq, rfl⟩ := List.mem_map.mp hp
        have := (rx q hq).mv mv
        unfold putAt
        by_cases q1 : q.1 = PyData.tuple ds
        · simp only [if_pos q1]; exact this
        · simp only [if_neg q1]; exact this
      · rcases List.mem_append.mp hp with hp | hp
        · exact (rx p hp).mv mv
        · obtain rfl := List.mem_singleton.mp hp
          exact VR.mv mv ri
theorem UPost.post {Q : AV → Sto → Prop} {r : Value} {s' : Shared} {x : AV} (h : UPost G Y F μ σ s (fun σ' => Q x σ') s') (r' : ∀ M, VA s'.heap M r x) : Post G Y F μ σ s Q r s' :=
  let ⟨σ', S, e, q⟩ := h
  ⟨x, σ', S, e, r' _, q⟩
theorem o_pop {l : Addr} {pos : Pos} {xs : List PyData} {Q : AV → Sto → Prop} (S : St G Y F μ σ s) (e : σ l = some (.list xs)) (hx : xs.getLast? = some x) (hz : xs.length ≤ sizeLine) (q : Q (.d x) (sput σ l (.list xs.dropLast))) :
    wpAny (model G.prog G.w) A (callWith pos (.builtin "list.pop") [.ref l] [] []) (Post G Y F μ σ s Q) NE s := by
  obtain ⟨vs, n, hl, rv⟩ := S.s0.objs l _ e
  have hlen := rv.length
  have hx' : xs[xs.length - 1]? = some x := by rw [← List.getLast?_eq_getElem?]; exact hx
  obtain ⟨w, hw, rw'⟩ := rv.get hx'
  refine P.pop_list hl (y := w) ?_ ?_ (by rw [List.size_toArray, hlen]; exact hz)
  · simp only [List.size_toArray, hlen]; simpa using hw
  · have hu : UPost G Y F μ σ s (fun σ' => Q (.d x) σ') { s with heap := s.heap.update l (Obj.mapSeq fun ys => ys.eraseIdxIfInBounds (vs.toArray.size - 1)) } := by
      refine UPost.list _ vs.dropLast S e hl ?_ ?_ q
      · have hp : 0 < xs.length := by
          cases xs with
          | nil => cases hx
          | cons => exact Nat.succ_pos _
        rw [List.size_toArray, List.eraseIdxIfInBounds_toArray, List.eraseIdx_eq_dropLast (by omega)]
      · have := rv.take (xs.length - 1)
        rw [List.dropLast_eq_take, List.dropLast_eq_take, hlen]
        exact this
    obtain ⟨σ', S', e', q'⟩ := hu
    exact ⟨.d x, σ', S', e', VR.mv e'.mv rw', q'⟩
noncomputable abbrev Evs (G : Wd) (Y : AS) (F : Fm) (μ : Env1) (A : Around) (σ : Sto) (s : Shared) (x : Sem Value) (Q : AV → Sto → Prop) : Prop := wpAny (model G.prog G.w) A x (Post G Y F μ σ s Q) NE s
theorem Evs.then {x : Sem Value} {P : AV → Sto → Prop} {Q : Value → Shared → Prop} (h : Evs G Y F μ A σ s x P) (k : ∀ v s' av σ', St G Y F μ σ' s' → E0 σ σ' s s' → VA s'.heap (Mu Y σ') v av → P av σ' → Q v s') :
    wpAny (model G.prog G.w) A x Q NE s :=
  wpAny_mono h (fun v s' ⟨av, σ', S, e, r, p⟩ => k v s' av σ' S e r p) fun _ _ f => f
theorem lsO_some {a : Addr} {xs : List PyData} (e : lsO σ a = some xs) : σ a = some (.list xs) := by
  unfold lsO at e
  split at e
  · rename_i q; cases e; exact q
  · cases e
theorem o_app {l : Addr} {pos : Pos} {e : Sem Value} {Z : AV → Sto → Prop} {Q : AV → Sto → Prop} (S : St G Y F μ σ s) (h : Evs G Y F μ A σ s e Z)
    (k : ∀ w σ', Z w σ' → wS (isD w) fun x => wS (lsO σ' l) fun xs => xs.length ≤ sizeLine ∧ Q (.d .none) (sput σ' l (.list (xs ++ [x])))) :
    wpAny (model G.prog G.w) A (callWith pos (.builtin "list.append") [.ref l] [(false, e)] []) (Post G Y F μ σ s Q) NE s := by
  refine P.append_list (h.then fun v s' av σ' S' e' r p => ?_)
  replace k := k av σ' p
  replace k := wS_some k
  obtain ⟨x, e1, k⟩ := k
  obtain rfl := isD_some e1
  replace k := wS_some k
  obtain ⟨xs, e2, hz, k⟩ := k
  have e2 := lsO_some e2
  obtain ⟨vs, n, hl, rv⟩ := S'.s0.objs l _ e2
  refine ⟨_, n, by rw [List.size_toArray, rv.length]; exact hz, hl, Post.trans e' (UPost.post (x := .d .none) ?_ fun _ => VR.none)⟩
  exact UPost.list _ (vs ++ [v]) S' e2 hl (by simp) (rv.append (.one r)) k
theorem itemsL_some {x : PyData} {ys : List PyData} (e : itemsL x = some ys) : x = .list ys := by cases x <;> cases e; rfl
theorem o_ext {l : Addr} {pos : Pos} {e : Sem Value} {Z : AV → Sto → Prop} {Q : AV → Sto → Prop} (S : St G Y F μ σ s) (h : Evs G Y F μ A σ s e Z)
    (k : ∀ w σ', Z w σ' → wS (isD w) fun x => wS (itemsL x) fun ys => wS (lsO σ' l) fun xs => xs.length + ys.length ≤ sizeLine ∧ Q (.d .none) (sput σ' l (.list (xs ++ ys)))) :
    wpAny (model G.prog G.w) A (callWith pos (.builtin "list.extend") [.ref l] [(false, e)] []) (Post G Y F μ σ s Q) NE s := by
  refine P.extend_list (h.then fun v s' av σ' S' e' r p => ?_)
  replace k := k av σ' p
  replace k := wS_some k
  obtain ⟨x, e1, k⟩ := k
  replace k := wS_some k
  obtain ⟨ys, e3, k⟩ := k
  replace k := wS_some k
  obtain ⟨xs, e2, hz, k⟩ := k
  obtain rfl := isD_some e1
  obtain rfl := itemsL_some e3
  have e2 := lsO_some e2
  obtain ⟨vs, n, hl, rv⟩ := S'.s0.objs l _ e2
  obtain ⟨b, ws, m, rfl, hl2, _, rw⟩ := VR.lst_inv r
  refine ⟨b, _, _, n, m, by rw [List.size_toArray, rv.length]; omega, by rw [List.size_toArray, List.size_toArray, rv.length, rw.length]; omega, ?_, rfl, hl, hl2, Post.trans e' (UPost.post (x := .d .none) ?_ fun _ => VR.none)⟩
  · rw [List.size_toArray, List.size_toArray, rv.length, rw.length]
    simp only [Builtin.List.listTooLong]
    have : ¬ (xs.length + ys.length > sizeLine) := by omega
    simp [this]
  · exact UPost.list _ (vs ++ ws) S' e2 hl (by simp) (rv.append rw) k
theorem o_get {l : Addr} {pos : Pos} {e1 e2 : Sem Value} {Z : AV → Sto → Prop} {Q : AV → Sto → Prop} (S : St G Y F μ σ s) (hd : (l == sysModules) = false) (h : Evs G Y F μ A σ s e1 Z)
    (k : ∀ w σ' s' v, St G Y F μ σ' s' → VA s'.heap (Mu Y σ') v w → Z w σ' → Evs G Y F μ A σ' s' e2 fun u σ₃ => wS (dictOfA σ₃ (.loc l)) fun kvs => wS (isD w) fun x => wS (strOf x) fun ks => wS (isD u) fun y => Q (.d ((kvs.lookup ks).getD y)) σ₃) :
    wpAny (model G.prog G.w) A (callWith pos (.builtin "dict.get") [.ref l] [(false, e1), (false, e2)] []) (Post G Y F μ σ s Q) NE s := by
  refine wpAny_dict_get2 (knd := PySem.strKind G.prog G.w) hd (h.then fun v s' av σ' S' e' r p => (k av σ' s' v S' r p).then fun u s'' au σ'' S'' e'' r'' p'' => ?_)
  replace p'' := wS_some p''
  obtain ⟨kvs, q1, p''⟩ := p''
  replace p'' := wS_some p''
  obtain ⟨x, q2, p''⟩ := p''
  replace p'' := wS_some p''
  obtain ⟨ks, q3, p''⟩ := p''
  replace p'' := wS_some p''
  obtain ⟨y, q4, p''⟩ := p''
  obtain rfl := isD_some q2
  obtain rfl := strOf_some q3
  obtain rfl := isD_some q4
  obtain ⟨t, rfl⟩ := VR.str_inv r
  obtain ⟨l', z, z', e3, vs, hm, kv, _⟩ := rd_dict (v := .ref l) (a := .loc l) S''.s0 rfl q1
  cases z
  refine ⟨ks, _, strKind_is G.prog G.w ks t, hm.mapOf, Post.trans (e'.trans e'') (.tok _ S'' ?_ p'')⟩
  have hk := kv.at ks
  cases e5 : kvs.lookup ks with
  | none => rw [e5] at hk; rw [hk]; exact r''
  | some d => rw [e5] at hk; obtain ⟨w', e', rw'⟩ := hk; rw [e']; exact rw'
end
abbrev Kd := Str → Option NameKind
noncomputable def ix : List Str → Str → Option Nat
  | [], _ => none
  | y :: ys, x => if y = x then some 0 else (ix ys x).map (· + 1)
noncomputable def mu (ns : List Str) (ρ : Rho) : Env1 := fun x => match ix ns x with
  | some i => (ρ[i]?).join
  | none => none
noncomputable def okL (kd : Kd) (ns : List Str) (n : Nat) (x : Str) : Bool := (ix ns x == some n) && (kd x == some .local || isCell (kd x)) && !(x == ("__classdict__" : Str)) && !(x == ("__debug__" : Str))
noncomputable def okS (own : Bool) (kd : Kd) (ns : List Str) (n : Nat) (x : Str) : Bool := (ix ns x == some n) && (kd x == some .local || (own && kd x == some .cell))
noncomputable def okG (kd : Kd) (f x : Str) : Bool := (x == f) && (kd x == some .globalImplicit) && !(x == ("__debug__" : Str))
noncomputable def biName : BI → Str
  | .len => "len"
  | .tuple => "tuple"
  | .int => "int"
  | .str => "str"
  | .max => "max"
  | .dict => "dict"
noncomputable def kdc (kd : Kd) (scope : Scope) : Kd := fun x => (scope.names.map fun (n, k) => if (k == .free && kd n == some .cell) then (n, NameKind.cell) else (n, k)).lookup x
noncomputable def nodupB : List Str → Bool
  | [] => true
  | x :: xs => !xs.contains x && nodupB xs
noncomputable def compOk (kd : Kd) (ns : List Str) (scope : Scope) (tn : List Str) : Bool :=
  scope.kind == .function && nodupB (scope.names.map (·.1)) && scope.names.all (fun p => p.2 != .cell && (p.2 != .free || isCell (kd p.1)) && (p.2 != .local || tn.contains p.1 || ix ns p.1 == none)) && tn.all fun x => scope.names.lookup x == some .local
noncomputable def fnNames : List Str := ["head_pairs", "filled", "Both", "names_in", "own_names", "ImplRow", "_law_pool", "_law_take", "_law_one", "_law_type", "_law_once", "_law_reached", "_law_held_right", "_law_parts", "_law_shape", "_law_put", "_law_solved", "_law_names", "_law_lined", "_law_unified_right", "_law_own_right"]
noncomputable def mtNames : List Str := ["seen", "holds_name", "bind", "unify", "all_unified", "whole"]
noncomputable def isNoneEx : Ex → Bool
  | .none => true
  | _ => false
noncomputable def isTrueEx : Ex → Bool
  | .bool true => true
  | _ => false
noncomputable def eConst {M : PySem.Expr → Type} (x : PySem.Expr) (yes : ∀ a0 a1 a2, M (.Constant a0 a1 a2)) (no : ∀ x, M x) : M x :=
  @PySem.Expr.casesOn M x (fun _ _ _ => no _) (fun _ _ _ => no _) (fun _ _ _ _ => no _) (fun _ _ _ => no _) (fun _ _ _ _ => no _) (fun _ _ _ _ => no _) (fun _ _ _ => no _) (fun _ _ _ => no _) (fun _ _ _ _ => no _) (fun _ _ _ _ => no _) (fun _ _ _ _ _ => no _) (fun _ _ _ _ => no _) (fun _ _ => no _) (fun _ _ => no _) (fun _ _ => no _) (fun _ _ _ _ => no _) (fun _ _ _ _ => no _) (fun _ _ _ _ => no _) (fun _ _ => no _) yes (fun _ _ _ => no _) (fun _ _ _ => no _) (fun _ _ => no _) (fun _ _ => no _) (fun _ _ => no _) (fun _ _ _ => no _) (fun _ _ _ _ => no _)
noncomputable def eUnary {M : PySem.Expr → Type} (x : PySem.Expr) (yes : ∀ a0 a1 a2, M (.UnaryOp a0 a1 a2)) (no : ∀ x, M x) : M x :=
  @PySem.Expr.casesOn M x (fun _ _ _ => no _) (fun _ _ _ => no _) (fun _ _ _ _ => no _) yes (fun _ _ _ _ => no _) (fun _ _ _ _ => no _) (fun _ _ _ => no _) (fun _ _ _ => no _) (fun _ _ _ _ => no _) (fun _ _ _ _ => no _) (fun _ _ _ _ _ => no _) (fun _ _ _ _ => no _) (fun _ _ => no _) (fun _ _ => no _) (fun _ _ => no _) (fun _ _ _ _ => no _) (fun _ _ _ _ => no _) (fun _ _ _ _ => no _) (fun _ _ => no _) (fun _ _ _ => no _) (fun _ _ _ => no _) (fun _ _ _ => no _) (fun _ _ => no _) (fun _ _ => no _) (fun _ _ => no _) (fun _ _ _ => no _) (fun _ _ _ _ => no _)
noncomputable def eName {M : PySem.Expr → Type} (x : PySem.Expr) (yes : ∀ a0 a1, M (.Name a0 a1)) (no : ∀ x, M x) : M x :=
  @PySem.Expr.casesOn M x (fun _ _ _ => no _) (fun _ _ _ => no _) (fun _ _ _ _ => no _) (fun _ _ _ => no _) (fun _ _ _ _ => no _) (fun _ _ _ _ => no _) (fun _ _ _ => no _) (fun _ _ _ => no _) (fun _ _ _ _ => no _) (fun _ _ _ _ => no _) (fun _ _ _ _ _ => no _) (fun _ _ _ _ => no _) (fun _ _ => no _) (fun _ _ => no _) (fun _ _ => no _) (fun _ _ _ _ => no _) (fun _ _ _ _ => no _) (fun _ _ _ _ => no _) (fun _ _ => no _) (fun _ _ _ => no _) (fun _ _ _ => no _) (fun _ _ _ => no _) (fun _ _ => no _) yes (fun _ _ => no _) (fun _ _ _ => no _) (fun _ _ _ _ => no _)
noncomputable def eTuple {M : PySem.Expr → Type} (x : PySem.Expr) (yes : ∀ a0 a1 a2, M (.Tuple a0 a1 a2)) (no : ∀ x, M x) : M x :=
  @PySem.Expr.casesOn M x (fun _ _ _ => no _) (fun _ _ _ => no _) (fun _ _ _ _ => no _) (fun _ _ _ => no _) (fun _ _ _ _ => no _) (fun _ _ _ _ => no _) (fun _ _ _ => no _) (fun _ _ _ => no _) (fun _ _ _ _ => no _) (fun _ _ _ _ => no _) (fun _ _ _ _ _ => no _) (fun _ _ _ _ => no _) (fun _ _ => no _) (fun _ _ => no _) (fun _ _ => no _) (fun _ _ _ _ => no _) (fun _ _ _ _ => no _) (fun _ _ _ _ => no _) (fun _ _ => no _) (fun _ _ _ => no _) (fun _ _ _ => no _) (fun _ _ _ => no _) (fun _ _ => no _) (fun _ _ => no _) (fun _ _ => no _) yes (fun _ _ _ _ => no _)
noncomputable def eList {M : PySem.Expr → Type} (x : PySem.Expr) (yes : ∀ a0 a1, M (.List a0 a1)) (no : ∀ x, M x) : M x :=
  @PySem.Expr.casesOn M x (fun _ _ _ => no _) (fun _ _ _ => no _) (fun _ _ _ _ => no _) (fun _ _ _ => no _) (fun _ _ _ _ => no _) (fun _ _ _ _ => no _) (fun _ _ _ => no _) (fun _ _ _ => no _) (fun _ _ _ _ => no _) (fun _ _ _ _ => no _) (fun _ _ _ _ _ => no _) (fun _ _ _ _ => no _) (fun _ _ => no _) (fun _ _ => no _) (fun _ _ => no _) (fun _ _ _ _ => no _) (fun _ _ _ _ => no _) (fun _ _ _ _ => no _) (fun _ _ => no _) (fun _ _ _ => no _) (fun _ _ _ => no _) (fun _ _ _ => no _) (fun _ _ => no _) (fun _ _ => no _) yes (fun _ _ _ => no _) (fun _ _ _ _ => no _)
noncomputable def eDict {M : PySem.Expr → Type} (x : PySem.Expr) (yes : ∀ a0 a1 a2, M (.Dict a0 a1 a2)) (no : ∀ x, M x) : M x :=
  @PySem.Expr.casesOn M x (fun _ _ _ => no _) (fun _ _ _ => no _) (fun _ _ _ _ => no _) (fun _ _ _ => no _) (fun _ _ _ _ => no _) (fun _ _ _ _ => no _) yes (fun _ _ _ => no _) (fun _ _ _ _ => no _) (fun _ _ _ _ => no _) (fun _ _ _ _ _ => no _) (fun _ _ _ _ => no _) (fun _ _ => no _) (fun _ _ => no _) (fun _ _ => no _) (fun _ _ _ _ => no _) (fun _ _ _ _ => no _) (fun _ _ _ _ => no _) (fun _ _ => no _) (fun _ _ _ => no _) (fun _ _ _ => no _) (fun _ _ _ => no _) (fun _ _ => no _) (fun _ _ => no _) (fun _ _ => no _) (fun _ _ _ => no _) (fun _ _ _ _ => no _)
noncomputable def eCompare {M : PySem.Expr → Type} (x : PySem.Expr) (yes : ∀ a0 a1 a2 a3, M (.Compare a0 a1 a2 a3)) (no : ∀ x, M x) : M x :=
  @PySem.Expr.casesOn M x (fun _ _ _ => no _) (fun _ _ _ => no _) (fun _ _ _ _ => no _) (fun _ _ _ => no _) (fun _ _ _ _ => no _) (fun _ _ _ _ => no _) (fun _ _ _ => no _) (fun _ _ _ => no _) (fun _ _ _ _ => no _) (fun _ _ _ _ => no _) (fun _ _ _ _ _ => no _) (fun _ _ _ _ => no _) (fun _ _ => no _) (fun _ _ => no _) (fun _ _ => no _) yes (fun _ _ _ _ => no _) (fun _ _ _ _ => no _) (fun _ _ => no _) (fun _ _ _ => no _) (fun _ _ _ => no _) (fun _ _ _ => no _) (fun _ _ => no _) (fun _ _ => no _) (fun _ _ => no _) (fun _ _ _ => no _) (fun _ _ _ _ => no _)
noncomputable def eBoolOp {M : PySem.Expr → Type} (x : PySem.Expr) (yes : ∀ a0 a1 a2, M (.BoolOp a0 a1 a2)) (no : ∀ x, M x) : M x :=
  @PySem.Expr.casesOn M x yes (fun _ _ _ => no _) (fun _ _ _ _ => no _) (fun _ _ _ => no _) (fun _ _ _ _ => no _) (fun _ _ _ _ => no _) (fun _ _ _ => no _) (fun _ _ _ => no _) (fun _ _ _ _ => no _) (fun _ _ _ _ => no _) (fun _ _ _ _ _ => no _) (fun _ _ _ _ => no _) (fun _ _ => no _) (fun _ _ => no _) (fun _ _ => no _) (fun _ _ _ _ => no _) (fun _ _ _ _ => no _) (fun _ _ _ _ => no _) (fun _ _ => no _) (fun _ _ _ => no _) (fun _ _ _ => no _) (fun _ _ _ => no _) (fun _ _ => no _) (fun _ _ => no _) (fun _ _ => no _) (fun _ _ _ => no _) (fun _ _ _ _ => no _)
noncomputable def eBinOp {M : PySem.Expr → Type} (x : PySem.Expr) (yes : ∀ a0 a1 a2 a3, M (.BinOp a0 a1 a2 a3)) (no : ∀ x, M x) : M x :=
  @PySem.Expr.casesOn M x (fun _ _ _ => no _) (fun _ _ _ => no _) yes (fun _ _ _ => no _) (fun _ _ _ _ => no _) (fun _ _ _ _ => no _) (fun _ _ _ => no _) (fun _ _ _ => no _) (fun _ _ _ _ => no _) (fun _ _ _ _ => no _) (fun _ _ _ _ _ => no _) (fun _ _ _ _ => no _) (fun _ _ => no _) (fun _ _ => no _) (fun _ _ => no _) (fun _ _ _ _ => no _) (fun _ _ _ _ => no _) (fun _ _ _ _ => no _) (fun _ _ => no _) (fun _ _ _ => no _) (fun _ _ _ => no _) (fun _ _ _ => no _) (fun _ _ => no _) (fun _ _ => no _) (fun _ _ => no _) (fun _ _ _ => no _) (fun _ _ _ _ => no _)
noncomputable def eIfExp {M : PySem.Expr → Type} (x : PySem.Expr) (yes : ∀ a0 a1 a2 a3, M (.IfExp a0 a1 a2 a3)) (no : ∀ x, M x) : M x :=
  @PySem.Expr.casesOn M x (fun _ _ _ => no _) (fun _ _ _ => no _) (fun _ _ _ _ => no _) (fun _ _ _ => no _) (fun _ _ _ _ => no _) yes (fun _ _ _ => no _) (fun _ _ _ => no _) (fun _ _ _ _ => no _) (fun _ _ _ _ => no _) (fun _ _ _ _ _ => no _) (fun _ _ _ _ => no _) (fun _ _ => no _) (fun _ _ => no _) (fun _ _ => no _) (fun _ _ _ _ => no _) (fun _ _ _ _ => no _) (fun _ _ _ _ => no _) (fun _ _ => no _) (fun _ _ _ => no _) (fun _ _ _ => no _) (fun _ _ _ => no _) (fun _ _ => no _) (fun _ _ => no _) (fun _ _ => no _) (fun _ _ _ => no _) (fun _ _ _ _ => no _)
noncomputable def eSubscript {M : PySem.Expr → Type} (x : PySem.Expr) (yes : ∀ a0 a1 a2, M (.Subscript a0 a1 a2)) (no : ∀ x, M x) : M x :=
  @PySem.Expr.casesOn M x (fun _ _ _ => no _) (fun _ _ _ => no _) (fun _ _ _ _ => no _) (fun _ _ _ => no _) (fun _ _ _ _ => no _) (fun _ _ _ _ => no _) (fun _ _ _ => no _) (fun _ _ _ => no _) (fun _ _ _ _ => no _) (fun _ _ _ _ => no _) (fun _ _ _ _ _ => no _) (fun _ _ _ _ => no _) (fun _ _ => no _) (fun _ _ => no _) (fun _ _ => no _) (fun _ _ _ _ => no _) (fun _ _ _ _ => no _) (fun _ _ _ _ => no _) (fun _ _ => no _) (fun _ _ _ => no _) (fun _ _ _ => no _) yes (fun _ _ => no _) (fun _ _ => no _) (fun _ _ => no _) (fun _ _ _ => no _) (fun _ _ _ _ => no _)
noncomputable def eSlice {M : PySem.Expr → Type} (x : PySem.Expr) (yes : ∀ a0 a1 a2 a3, M (.Slice a0 a1 a2 a3)) (no : ∀ x, M x) : M x :=
  @PySem.Expr.casesOn M x (fun _ _ _ => no _) (fun _ _ _ => no _) (fun _ _ _ _ => no _) (fun _ _ _ => no _) (fun _ _ _ _ => no _) (fun _ _ _ _ => no _) (fun _ _ _ => no _) (fun _ _ _ => no _) (fun _ _ _ _ => no _) (fun _ _ _ _ => no _) (fun _ _ _ _ _ => no _) (fun _ _ _ _ => no _) (fun _ _ => no _) (fun _ _ => no _) (fun _ _ => no _) (fun _ _ _ _ => no _) (fun _ _ _ _ => no _) (fun _ _ _ _ => no _) (fun _ _ => no _) (fun _ _ _ => no _) (fun _ _ _ => no _) (fun _ _ _ => no _) (fun _ _ => no _) (fun _ _ => no _) (fun _ _ => no _) (fun _ _ _ => no _) yes
noncomputable def eAttribute {M : PySem.Expr → Type} (x : PySem.Expr) (yes : ∀ a0 a1 a2, M (.Attribute a0 a1 a2)) (no : ∀ x, M x) : M x :=
  @PySem.Expr.casesOn M x (fun _ _ _ => no _) (fun _ _ _ => no _) (fun _ _ _ _ => no _) (fun _ _ _ => no _) (fun _ _ _ _ => no _) (fun _ _ _ _ => no _) (fun _ _ _ => no _) (fun _ _ _ => no _) (fun _ _ _ _ => no _) (fun _ _ _ _ => no _) (fun _ _ _ _ _ => no _) (fun _ _ _ _ => no _) (fun _ _ => no _) (fun _ _ => no _) (fun _ _ => no _) (fun _ _ _ _ => no _) (fun _ _ _ _ => no _) (fun _ _ _ _ => no _) (fun _ _ => no _) (fun _ _ _ => no _) yes (fun _ _ _ => no _) (fun _ _ => no _) (fun _ _ => no _) (fun _ _ => no _) (fun _ _ _ => no _) (fun _ _ _ _ => no _)
noncomputable def eCall {M : PySem.Expr → Type} (x : PySem.Expr) (yes : ∀ a0 a1 a2 a3, M (.Call a0 a1 a2 a3)) (no : ∀ x, M x) : M x :=
  @PySem.Expr.casesOn M x (fun _ _ _ => no _) (fun _ _ _ => no _) (fun _ _ _ _ => no _) (fun _ _ _ => no _) (fun _ _ _ _ => no _) (fun _ _ _ _ => no _) (fun _ _ _ => no _) (fun _ _ _ => no _) (fun _ _ _ _ => no _) (fun _ _ _ _ => no _) (fun _ _ _ _ _ => no _) (fun _ _ _ _ => no _) (fun _ _ => no _) (fun _ _ => no _) (fun _ _ => no _) (fun _ _ _ _ => no _) yes (fun _ _ _ _ => no _) (fun _ _ => no _) (fun _ _ _ => no _) (fun _ _ _ => no _) (fun _ _ _ => no _) (fun _ _ => no _) (fun _ _ => no _) (fun _ _ => no _) (fun _ _ _ => no _) (fun _ _ _ _ => no _)
noncomputable def eListComp {M : PySem.Expr → Type} (x : PySem.Expr) (yes : ∀ a0 a1 a2 a3, M (.ListComp a0 a1 a2 a3)) (no : ∀ x, M x) : M x :=
  @PySem.Expr.casesOn M x (fun _ _ _ => no _) (fun _ _ _ => no _) (fun _ _ _ _ => no _) (fun _ _ _ => no _) (fun _ _ _ _ => no _) (fun _ _ _ _ => no _) (fun _ _ _ => no _) (fun _ _ _ => no _) yes (fun _ _ _ _ => no _) (fun _ _ _ _ _ => no _) (fun _ _ _ _ => no _) (fun _ _ => no _) (fun _ _ => no _) (fun _ _ => no _) (fun _ _ _ _ => no _) (fun _ _ _ _ => no _) (fun _ _ _ _ => no _) (fun _ _ => no _) (fun _ _ _ => no _) (fun _ _ _ => no _) (fun _ _ _ => no _) (fun _ _ => no _) (fun _ _ => no _) (fun _ _ => no _) (fun _ _ _ => no _) (fun _ _ _ _ => no _)
noncomputable def eDictComp {M : PySem.Expr → Type} (x : PySem.Expr) (yes : ∀ a0 a1 a2 a3 a4, M (.DictComp a0 a1 a2 a3 a4)) (no : ∀ x, M x) : M x :=
  @PySem.Expr.casesOn M x (fun _ _ _ => no _) (fun _ _ _ => no _) (fun _ _ _ _ => no _) (fun _ _ _ => no _) (fun _ _ _ _ => no _) (fun _ _ _ _ => no _) (fun _ _ _ => no _) (fun _ _ _ => no _) (fun _ _ _ _ => no _) (fun _ _ _ _ => no _) yes (fun _ _ _ _ => no _) (fun _ _ => no _) (fun _ _ => no _) (fun _ _ => no _) (fun _ _ _ _ => no _) (fun _ _ _ _ => no _) (fun _ _ _ _ => no _) (fun _ _ => no _) (fun _ _ _ => no _) (fun _ _ _ => no _) (fun _ _ _ => no _) (fun _ _ => no _) (fun _ _ => no _) (fun _ _ => no _) (fun _ _ _ => no _) (fun _ _ _ _ => no _)
noncomputable def sExpr {M : PySem.Stmt → Type} (x : PySem.Stmt) (yes : ∀ a0 a1, M (.Expr a0 a1)) (no : ∀ x, M x) : M x :=
  @PySem.Stmt.casesOn M x (fun _ _ _ _ _ _ _ _ _ _ => no _) (fun _ _ _ _ _ _ _ _ _ _ => no _) (fun _ _ _ _ _ _ _ _ _ _ _ => no _) (fun _ _ => no _) (fun _ _ => no _) (fun _ _ _ => no _) (fun _ _ _ _ _ _ _ => no _) (fun _ _ _ _ => no _) (fun _ _ _ _ _ => no _) (fun _ _ _ _ _ => no _) (fun _ _ _ _ _ => no _) (fun _ _ _ _ => no _) (fun _ _ _ _ => no _) (fun _ _ _ => no _) (fun _ _ _ => no _) (fun _ _ _ => no _) (fun _ _ _ => no _) (fun _ _ _ _ _ => no _) (fun _ _ _ _ _ => no _) (fun _ _ _ => no _) (fun _ _ => no _) (fun _ _ _ _ => no _) (fun _ _ => no _) (fun _ _ => no _) yes (fun _ => no _) (fun _ => no _) (fun _ => no _)
noncomputable def sAssign {M : PySem.Stmt → Type} (x : PySem.Stmt) (yes : ∀ a0 a1 a2, M (.Assign a0 a1 a2)) (no : ∀ x, M x) : M x :=
  @PySem.Stmt.casesOn M x (fun _ _ _ _ _ _ _ _ _ _ => no _) (fun _ _ _ _ _ _ _ _ _ _ => no _) (fun _ _ _ _ _ _ _ _ _ _ _ => no _) (fun _ _ => no _) (fun _ _ => no _) yes (fun _ _ _ _ _ _ _ => no _) (fun _ _ _ _ => no _) (fun _ _ _ _ _ => no _) (fun _ _ _ _ _ => no _) (fun _ _ _ _ _ => no _) (fun _ _ _ _ => no _) (fun _ _ _ _ => no _) (fun _ _ _ => no _) (fun _ _ _ => no _) (fun _ _ _ => no _) (fun _ _ _ => no _) (fun _ _ _ _ _ => no _) (fun _ _ _ _ _ => no _) (fun _ _ _ => no _) (fun _ _ => no _) (fun _ _ _ _ => no _) (fun _ _ => no _) (fun _ _ => no _) (fun _ _ => no _) (fun _ => no _) (fun _ => no _) (fun _ => no _)
noncomputable def sIf {M : PySem.Stmt → Type} (x : PySem.Stmt) (yes : ∀ a0 a1 a2 a3, M (.If a0 a1 a2 a3)) (no : ∀ x, M x) : M x :=
  @PySem.Stmt.casesOn M x (fun _ _ _ _ _ _ _ _ _ _ => no _) (fun _ _ _ _ _ _ _ _ _ _ => no _) (fun _ _ _ _ _ _ _ _ _ _ _ => no _) (fun _ _ => no _) (fun _ _ => no _) (fun _ _ _ => no _) (fun _ _ _ _ _ _ _ => no _) (fun _ _ _ _ => no _) (fun _ _ _ _ _ => no _) (fun _ _ _ _ _ => no _) (fun _ _ _ _ _ => no _) (fun _ _ _ _ => no _) yes (fun _ _ _ => no _) (fun _ _ _ => no _) (fun _ _ _ => no _) (fun _ _ _ => no _) (fun _ _ _ _ _ => no _) (fun _ _ _ _ _ => no _) (fun _ _ _ => no _) (fun _ _ => no _) (fun _ _ _ _ => no _) (fun _ _ => no _) (fun _ _ => no _) (fun _ _ => no _) (fun _ => no _) (fun _ => no _) (fun _ => no _)
noncomputable def sWhile {M : PySem.Stmt → Type} (x : PySem.Stmt) (yes : ∀ a0 a1 a2 a3, M (.While a0 a1 a2 a3)) (no : ∀ x, M x) : M x :=
  @PySem.Stmt.casesOn M x (fun _ _ _ _ _ _ _ _ _ _ => no _) (fun _ _ _ _ _ _ _ _ _ _ => no _) (fun _ _ _ _ _ _ _ _ _ _ _ => no _) (fun _ _ => no _) (fun _ _ => no _) (fun _ _ _ => no _) (fun _ _ _ _ _ _ _ => no _) (fun _ _ _ _ => no _) (fun _ _ _ _ _ => no _) (fun _ _ _ _ _ => no _) (fun _ _ _ _ _ => no _) yes (fun _ _ _ _ => no _) (fun _ _ _ => no _) (fun _ _ _ => no _) (fun _ _ _ => no _) (fun _ _ _ => no _) (fun _ _ _ _ _ => no _) (fun _ _ _ _ _ => no _) (fun _ _ _ => no _) (fun _ _ => no _) (fun _ _ _ _ => no _) (fun _ _ => no _) (fun _ _ => no _) (fun _ _ => no _) (fun _ => no _) (fun _ => no _) (fun _ => no _)
noncomputable def sFor {M : PySem.Stmt → Type} (x : PySem.Stmt) (yes : ∀ a0 a1 a2 a3 a4, M (.For a0 a1 a2 a3 a4)) (no : ∀ x, M x) : M x :=
  @PySem.Stmt.casesOn M x (fun _ _ _ _ _ _ _ _ _ _ => no _) (fun _ _ _ _ _ _ _ _ _ _ => no _) (fun _ _ _ _ _ _ _ _ _ _ _ => no _) (fun _ _ => no _) (fun _ _ => no _) (fun _ _ _ => no _) (fun _ _ _ _ _ _ _ => no _) (fun _ _ _ _ => no _) (fun _ _ _ _ _ => no _) yes (fun _ _ _ _ _ => no _) (fun _ _ _ _ => no _) (fun _ _ _ _ => no _) (fun _ _ _ => no _) (fun _ _ _ => no _) (fun _ _ _ => no _) (fun _ _ _ => no _) (fun _ _ _ _ _ => no _) (fun _ _ _ _ _ => no _) (fun _ _ _ => no _) (fun _ _ => no _) (fun _ _ _ _ => no _) (fun _ _ => no _) (fun _ _ => no _) (fun _ _ => no _) (fun _ => no _) (fun _ => no _) (fun _ => no _)
noncomputable def sReturn {M : PySem.Stmt → Type} (x : PySem.Stmt) (yes : ∀ a0 a1, M (.Return a0 a1)) (no : ∀ x, M x) : M x :=
  @PySem.Stmt.casesOn M x (fun _ _ _ _ _ _ _ _ _ _ => no _) (fun _ _ _ _ _ _ _ _ _ _ => no _) (fun _ _ _ _ _ _ _ _ _ _ _ => no _) yes (fun _ _ => no _) (fun _ _ _ => no _) (fun _ _ _ _ _ _ _ => no _) (fun _ _ _ _ => no _) (fun _ _ _ _ _ => no _) (fun _ _ _ _ _ => no _) (fun _ _ _ _ _ => no _) (fun _ _ _ _ => no _) (fun _ _ _ _ => no _) (fun _ _ _ => no _) (fun _ _ _ => no _) (fun _ _ _ => no _) (fun _ _ _ => no _) (fun _ _ _ _ _ => no _) (fun _ _ _ _ _ => no _) (fun _ _ _ => no _) (fun _ _ => no _) (fun _ _ _ _ => no _) (fun _ _ => no _) (fun _ _ => no _) (fun _ _ => no _) (fun _ => no _) (fun _ => no _) (fun _ => no _)
noncomputable def sContinue {M : PySem.Stmt → Type} (x : PySem.Stmt) (yes : ∀ a0, M (.Continue a0)) (no : ∀ x, M x) : M x :=
  @PySem.Stmt.casesOn M x (fun _ _ _ _ _ _ _ _ _ _ => no _) (fun _ _ _ _ _ _ _ _ _ _ => no _) (fun _ _ _ _ _ _ _ _ _ _ _ => no _) (fun _ _ => no _) (fun _ _ => no _) (fun _ _ _ => no _) (fun _ _ _ _ _ _ _ => no _) (fun _ _ _ _ => no _) (fun _ _ _ _ _ => no _) (fun _ _ _ _ _ => no _) (fun _ _ _ _ _ => no _) (fun _ _ _ _ => no _) (fun _ _ _ _ => no _) (fun _ _ _ => no _) (fun _ _ _ => no _) (fun _ _ _ => no _) (fun _ _ _ => no _) (fun _ _ _ _ _ => no _) (fun _ _ _ _ _ => no _) (fun _ _ _ => no _) (fun _ _ => no _) (fun _ _ _ _ => no _) (fun _ _ => no _) (fun _ _ => no _) (fun _ _ => no _) (fun _ => no _) (fun _ => no _) yes
noncomputable def eNone {M : Const → Type} (x : Const) (yes : M .none) (no : ∀ x, M x) : M x := match x with | .none => yes | x => no x
noncomputable def eBool {M : Const → Type} (x : Const) (yes : ∀ a, M (.bool a)) (no : ∀ x, M x) : M x := match x with | .bool a => yes a | x => no x
noncomputable def eInt {M : Const → Type} (x : Const) (yes : ∀ a, M (.int a)) (no : ∀ x, M x) : M x := match x with | .int a => yes a | x => no x
noncomputable def eStr {M : Const → Type} (x : Const) (yes : ∀ a, M (.str a)) (no : ∀ x, M x) : M x := match x with | .str a => yes a | x => no x
noncomputable def eUSub {M : UnaryOp → Type} (x : UnaryOp) (yes : M .USub) (no : ∀ x, M x) : M x := match x with | .USub => yes | x => no x
noncomputable def eNot {M : UnaryOp → Type} (x : UnaryOp) (yes : M .Not) (no : ∀ x, M x) : M x := match x with | .Not => yes | x => no x
noncomputable def eSome {α : Type} {M : Option α → Type} (x : Option α) (yes : ∀ a, M (some a)) (no : ∀ x, M x) : M x := match x with | some a => yes a | none => no none
noncomputable def eL0 {α : Type} {M : List α → Type} (x : List α) (yes : M []) (no : ∀ x, M x) : M x := match x with | [] => yes | a :: l => no (a :: l)
noncomputable def eCns {α : Type} {M : List α → Type} (x : List α) (yes : ∀ a l, M (a :: l)) (no : ∀ x, M x) : M x := match x with | [] => no [] | a :: l => yes a l
noncomputable def eL1 {α : Type} {M : List α → Type} (x : List α) (yes : ∀ a, M [a]) (no : ∀ x, M x) : M x := eCns x (fun a l => eL0 (M := fun l => M (a :: l)) l (yes a) fun _ => no _) no
noncomputable def eL2 {α : Type} {M : List α → Type} (x : List α) (yes : ∀ a b, M [a, b]) (no : ∀ x, M x) : M x := eCns x (fun a l => eL1 (M := fun l => M (a :: l)) l (yes a) fun _ => no _) no
noncomputable def eZero {M : Int → Type} (x : Int) (yes : M 0) (no : ∀ x, M x) : M x := if h : x = 0 then h ▸ yes else no x
noncomputable def eGen {M : List Comprehension → Type} (x : List Comprehension) (yes : ∀ t i f, M [⟨t, i, f, 0⟩]) (no : ∀ x, M x) : M x := eL1 x (fun g => match g with | ⟨t, i, f, z⟩ => eZero (M := fun z => M [⟨t, i, f, z⟩]) z (yes t i f) fun _ => no _) no
noncomputable def an {α : Type} {P : α → Prop} (o : Option {q // P q}) (f : α → Bool) : Bool := match o with | some a => f a.1 | none => false
theorem an_inv {α : Type} {P : α → Prop} {o : Option {q // P q}} {f : α → Bool} (h : an o f = true) : ∃ q, P q ∧ f q = true := by
  cases o with
  | none => exact absurd h Bool.false_ne_true
  | some a => exact ⟨a.1, a.2, h⟩
noncomputable def dL0 (x : List Expr) : Option {q : Unit // x = []} := by
  cases x using eL0 with
  | no _ => exact none
  | yes =>
    exact some ⟨(), rfl⟩
noncomputable def dL1 (x : List Expr) : Option {q : Expr // x = [q]} := by
  cases x using eL1 with
  | no _ => exact none
  | yes a =>
    exact some ⟨a, rfl⟩
noncomputable def dL2 (x : List Expr) : Option {q : Expr × Expr // x = [q.1, q.2]} := by
  cases x using eL2 with
  | no _ => exact none
  | yes a b =>
    exact some ⟨(a, b), rfl⟩
noncomputable def dNone (x : Expr) : Option {q : Nat × Pos // x = .Constant .none q.1 q.2} := by
  cases x using eConst with
  | no _ => exact none
  | yes c k p =>
    cases c using eNone with
    | no _ => exact none
    | yes =>
      exact some ⟨(k, p), rfl⟩
noncomputable def dBool (x : Expr) : Option {q : Bool × Nat × Pos // x = .Constant (.bool q.1) q.2.1 q.2.2} := by
  cases x using eConst with
  | no _ => exact none
  | yes c k p =>
    cases c using eBool with
    | no _ => exact none
    | yes b =>
      exact some ⟨(b, k, p), rfl⟩
noncomputable def dInt (x : Expr) : Option {q : Int × Nat × Pos // x = .Constant (.int q.1) q.2.1 q.2.2} := by
  cases x using eConst with
  | no _ => exact none
  | yes c k p =>
    cases c using eInt with
    | no _ => exact none
    | yes b =>
      exact some ⟨(b, k, p), rfl⟩
noncomputable def dStr (x : Expr) : Option {q : Str × Nat × Pos // x = .Constant (.str q.1) q.2.1 q.2.2} := by
  cases x using eConst with
  | no _ => exact none
  | yes c k p =>
    cases c using eStr with
    | no _ => exact none
    | yes b =>
      exact some ⟨(b, k, p), rfl⟩
noncomputable def dNeg (x : Expr) : Option {q : Int × Nat × Pos × Pos // x = .UnaryOp .USub (.Constant (.int q.1) q.2.1 q.2.2.1) q.2.2.2} := by
  cases x using eUnary with
  | no _ => exact none
  | yes op y r =>
    cases op using eUSub with
    | no _ => exact none
    | yes =>
      cases y using eConst with
      | no _ => exact none
      | yes c k p =>
        cases c using eInt with
        | no _ => exact none
        | yes b =>
          exact some ⟨(b, k, p, r), rfl⟩
noncomputable def dNot (x : Expr) : Option {q : Expr × Pos // x = .UnaryOp .Not q.1 q.2} := by
  cases x using eUnary with
  | no _ => exact none
  | yes op y r =>
    cases op using eNot with
    | no _ => exact none
    | yes =>
      exact some ⟨(y, r), rfl⟩
noncomputable def dName (x : Expr) : Option {q : Str × Pos // x = .Name q.1 q.2} := by
  cases x using eName with
  | no _ => exact none
  | yes y p =>
    exact some ⟨(y, p), rfl⟩
noncomputable def dTup (x : Expr) : Option {q : List Expr × Nat × Pos // x = .Tuple q.1 q.2.1 q.2.2} := by
  cases x using eTuple with
  | no _ => exact none
  | yes y k p =>
    exact some ⟨(y, k, p), rfl⟩
noncomputable def dLst (x : Expr) : Option {q : List Expr × Pos // x = .List q.1 q.2} := by
  cases x using eList with
  | no _ => exact none
  | yes y p =>
    exact some ⟨(y, p), rfl⟩
noncomputable def dDct (x : Expr) : Option {q : Pos // x = .Dict [] [] q} := by
  cases x using eDict with
  | no _ => exact none
  | yes k v p =>
    cases k using eL0 with
    | no _ => exact none
    | yes =>
      cases v using eL0 with
      | no _ => exact none
      | yes =>
        exact some ⟨p, rfl⟩
noncomputable def dCmp (x : Expr) : Option {q : Expr × CmpOp × Expr × Pos // x = .Compare q.1 [q.2.1] [q.2.2.1] q.2.2.2} := by
  cases x using eCompare with
  | no _ => exact none
  | yes l os rs p =>
    cases os using eL1 with
    | no _ => exact none
    | yes o =>
      cases rs using eL1 with
      | no _ => exact none
      | yes r =>
        exact some ⟨(l, o, r, p), rfl⟩
noncomputable def dBop (x : Expr) : Option {q : BoolOp × List Expr × Pos // x = .BoolOp q.1 q.2.1 q.2.2} := by
  cases x using eBoolOp with
  | no _ => exact none
  | yes o xs p =>
    exact some ⟨(o, xs, p), rfl⟩
noncomputable def dBin (x : Expr) : Option {q : Expr × Operator × Expr × Pos // x = .BinOp q.1 q.2.1 q.2.2.1 q.2.2.2} := by
  cases x using eBinOp with
  | no _ => exact none
  | yes l o r p =>
    exact some ⟨(l, o, r, p), rfl⟩
noncomputable def dIf (x : Expr) : Option {q : Expr × Expr × Expr × Pos // x = .IfExp q.1 q.2.1 q.2.2.1 q.2.2.2} := by
  cases x using eIfExp with
  | no _ => exact none
  | yes l o r p =>
    exact some ⟨(l, o, r, p), rfl⟩
noncomputable def dSub (x : Expr) : Option {q : Expr × Expr × Pos // x = .Subscript q.1 q.2.1 q.2.2} := by
  cases x using eSubscript with
  | no _ => exact none
  | yes l r p =>
    exact some ⟨(l, r, p), rfl⟩
noncomputable def dSlc (x : Expr) : Option {q : Expr × Option Expr × Option Expr × Option Expr × Pos × Pos // x = .Subscript q.1 (.Slice q.2.1 q.2.2.1 q.2.2.2.1 q.2.2.2.2.1) q.2.2.2.2.2} := by
  cases x using eSubscript with
  | no _ => exact none
  | yes l r p =>
    cases r using eSlice with
    | no _ => exact none
    | yes u v w q =>
      exact some ⟨(l, u, v, w, q, p), rfl⟩
noncomputable def dAtt (x : Expr) : Option {q : Str × Pos × Str × Pos // x = .Attribute (.Name q.1 q.2.1) q.2.2.1 q.2.2.2} := by
  cases x using eAttribute with
  | no _ => exact none
  | yes a g q =>
    cases a using eName with
    | no _ => exact none
    | yes y p =>
      exact some ⟨(y, p, g, q), rfl⟩
noncomputable def dCal (x : Expr) : Option {q : Str × Pos × List Expr × Pos // x = .Call (.Name q.1 q.2.1) q.2.2.1 [] q.2.2.2} := by
  cases x using eCall with
  | no _ => exact none
  | yes f xs kw q =>
    cases f using eName with
    | no _ => exact none
    | yes y p =>
      cases kw using eL0 with
      | no _ => exact none
      | yes =>
        exact some ⟨(y, p, xs, q), rfl⟩
noncomputable def dMet (x : Expr) : Option {q : Str × Pos × Str × Pos × List Expr × Pos // x = .Call (.Attribute (.Name q.1 q.2.1) q.2.2.1 q.2.2.2.1) q.2.2.2.2.1 [] q.2.2.2.2.2} := by
  cases x using eCall with
  | no _ => exact none
  | yes f xs kw q =>
    cases f using eAttribute with
    | no _ => exact none
    | yes a g ap =>
      cases a using eName with
      | no _ => exact none
      | yes y p =>
        cases kw using eL0 with
        | no _ => exact none
        | yes =>
          exact some ⟨(y, p, g, ap, xs, q), rfl⟩
noncomputable def dCom (x : Expr) : Option {q : Expr × Expr × Expr × List Expr × Scope × Pos // x = .ListComp q.1 [⟨q.2.1, q.2.2.1, q.2.2.2.1, 0⟩] q.2.2.2.2.1 q.2.2.2.2.2} := by
  cases x using eListComp with
  | no _ => exact none
  | yes el gs sc p =>
    cases gs using eGen with
    | no _ => exact none
    | yes t i f =>
      exact some ⟨(el, t, i, f, sc, p), rfl⟩
noncomputable def dDcm (x : Expr) : Option {q : Expr × Expr × Str × Pos × Expr × Scope × Pos // x = .DictComp q.1 q.2.1 [⟨.Name q.2.2.1 q.2.2.2.1, q.2.2.2.2.1, [], 0⟩] q.2.2.2.2.2.1 q.2.2.2.2.2.2} := by
  cases x using eDictComp with
  | no _ => exact none
  | yes k v gs sc p =>
    cases gs using eGen with
    | no _ => exact none
    | yes t i f =>
      cases t using eName with
      | no _ => exact none
      | yes y q =>
        cases f using eL0 with
        | no _ => exact none
        | yes =>
          exact some ⟨(k, v, y, q, i, sc, p), rfl⟩
noncomputable def gExpr (x : Stmt) : Option {q : Expr × Pos // x = .Expr q.1 q.2} := by
  cases x using sExpr with
  | no _ => exact none
  | yes y p =>
    exact some ⟨(y, p), rfl⟩
noncomputable def gAsg (x : Stmt) : Option {q : Expr × Expr × Pos // x = .Assign [q.1] q.2.1 q.2.2} := by
  cases x using sAssign with
  | no _ => exact none
  | yes ts z p =>
    cases ts using eL1 with
    | no _ => exact none
    | yes t =>
      exact some ⟨(t, z, p), rfl⟩
noncomputable def gIf (x : Stmt) : Option {q : Expr × List Stmt × List Stmt × Pos // x = .If q.1 q.2.1 q.2.2.1 q.2.2.2} := by
  cases x using sIf with
  | no _ => exact none
  | yes a b c d =>
    exact some ⟨(a, b, c, d), rfl⟩
noncomputable def gWhile (x : Stmt) : Option {q : Expr × List Stmt × Pos // x = .While q.1 q.2.1 [] q.2.2} := by
  cases x using sWhile with
  | no _ => exact none
  | yes a b c d =>
    cases c using eL0 with
    | no _ => exact none
    | yes =>
      exact some ⟨(a, b, d), rfl⟩
noncomputable def gFor (x : Stmt) : Option {q : Expr × Expr × List Stmt × Pos // x = .For q.1 q.2.1 q.2.2.1 [] q.2.2.2} := by
  cases x using sFor with
  | no _ => exact none
  | yes a b c d p =>
    cases d using eL0 with
    | no _ => exact none
    | yes =>
      exact some ⟨(a, b, c, p), rfl⟩
noncomputable def gRet (x : Stmt) : Option {q : Expr × Pos // x = .Return (some q.1) q.2} := by
  cases x using sReturn with
  | no _ => exact none
  | yes a p =>
    cases a using eSome with
    | no _ => exact none
    | yes y =>
      exact some ⟨(y, p), rfl⟩
noncomputable def gCont (x : Stmt) : Option {q : Pos // x = .Continue q} := by
  cases x using sContinue with
  | no _ => exact none
  | yes p =>
    exact some ⟨p, rfl⟩
noncomputable def dCns (x : List Expr) : Option {q : Expr × List Expr // x = q.1 :: q.2} := by
  cases x using eCns with
  | no _ => exact none
  | yes a l => exact some ⟨(a, l), rfl⟩
noncomputable def mT1 (own : Bool) (kd : Kd) (ns : List Str) (k : Nat) (x : Expr) : Bool := an (dName x) fun u => okS own kd ns k u.1
noncomputable def mTs (own : Bool) (kd : Kd) (ns : List Str) : List Nat → List Expr → Bool
  | [], [] => true
  | k :: ks, x :: xs => mT1 own kd ns k x && mTs own kd ns ks xs
  | _, _ => false
noncomputable def mT (own : Bool) (kd : Kd) (ns : List Str) : Tg → Expr → Bool
  | .one k, x => mT1 own kd ns k x
  | .tup ks, x => an (dTup x) fun u => mTs own kd ns ks u.1
theorem mT_one {own : Bool} {kd : Kd} {ns : List Str} {k : Nat} {x : Expr} (h : mT own kd ns (.one k) x = true) : ∃ y p, x = .Name y p ∧ okS own kd ns k y = true := by
  obtain ⟨q, e, o⟩ := an_inv (show (an (dName x) fun u => okS own kd ns k u.1) = true from h)
  exact ⟨_, _, e, o⟩
theorem mT_tup {own : Bool} {kd : Kd} {ns : List Str} {ks : List Nat} {x : Expr} (h : mT own kd ns (.tup ks) x = true) : ∃ xs n p, x = .Tuple xs n p ∧ mTs own kd ns ks xs = true := by
  obtain ⟨q, e, o⟩ := an_inv (show (an (dTup x) fun u => mTs own kd ns ks u.1) = true from h)
  exact ⟨_, _, _, e, o⟩
theorem mTs_i {own : Bool} {kd : Kd} {ns : List Str} {ks : List Nat} {xs : List Expr} {M : List Nat → List Expr → Prop} (h : mTs own kd ns ks xs = true) (h0 : M [] [])
    (h1 : ∀ k ks y p xs, okS own kd ns k y = true → mTs own kd ns ks xs = true → M ks xs → M (k :: ks) (.Name y p :: xs)) : M ks xs := by
  induction ks generalizing xs with
  | nil =>
    cases xs with
    | nil => exact h0
    | cons => exact absurd h Bool.false_ne_true
  | cons k ks ih =>
    cases xs with
    | nil => exact absurd h Bool.false_ne_true
    | cons x xs =>
      replace h := Bool.and_eq_true_iff.mp (show (mT1 own kd ns k x && mTs own kd ns ks xs) = true from h)
      obtain ⟨y, p, rfl, o⟩ := mT_one (k := k) (x := x) h.1
      exact h1 _ _ _ _ _ o h.2 (ih h.2)
mutual
noncomputable def mE (t : Bool) (kd : Kd) (ns : List Str) : Ex → Expr → Bool
  | .none, x => an (dNone x) fun u0 => true
  | .bool b, x => an (dBool x) fun u0 => b == u0.1
  | .int i, x => an (dInt x) fun u0 => i == u0.1
  | .neg i, x => an (dNeg x) fun u0 => i == u0.1
  | .str y, x => an (dStr x) fun u0 => y == u0.1
  | .var n, x => an (dName x) fun u0 => okL kd ns n u0.1
  | .tup es, x => an (dTup x) fun u0 => mEs false kd ns es u0.1 && decide (u0.1.length ≤ 100)
  | .lst m es, x => an (dLst x) fun u0 => mEs false kd ns es u0.1 && decide (u0.1.length ≤ 100)
  | .dct m, x => an (dDct x) fun u0 => true
  | .cmp op a b, x => an (dCmp x) fun u0 => op == u0.2.1 && mE false kd ns a u0.1 && mE false kd ns b u0.2.2.1
  | .bop op es, x => an (dBop x) fun u0 => op == u0.1 && (t || u0.2.1.length == 2) && mEs t kd ns es u0.2.1
  | .not e, x => an (dNot x) fun u0 => t && mE true kd ns e u0.1
  | .bin op a b, x => an (dBin x) fun u0 => op == u0.2.1 && mE false kd ns a u0.1 && mE false kd ns b u0.2.2.1
  | .ite c a b, x => an (dIf x) fun u0 => mE true kd ns c u0.1 && mE t kd ns a u0.2.1 && mE t kd ns b u0.2.2.1
  | .idx a i, x => an (dSub x) fun u0 => mE false kd ns a u0.1 && mE false kd ns i u0.2.1
  | .slc lo hi st a, x => an (dSlc x) fun u0 => mE false kd ns a u0.1 && (match u0.2.1 with | Option.none => isNoneEx lo | some z => mE false kd ns lo z) && (match u0.2.2.1 with | Option.none => isNoneEx hi | some z => mE false kd ns hi z) && (match u0.2.2.2.1 with | Option.none => isNoneEx st | some z => mE false kd ns st z)
  | .attr n f, x => an (dAtt x) fun u0 => f == u0.2.2.1 && okL kd ns n u0.1
  | .call f args, x => an (dCal x) fun u0 => fnNames.contains f && okG kd f u0.1 && mEs false kd ns args u0.2.2.1
  | .bi f args, x => an (dCal x) fun u0 => okG kd (biName f) u0.1 && mEs false kd ns args u0.2.2.1 && !u0.2.2.1.isEmpty
  | .lzip a b, x => an (dCal x) fun u0 => an (dL1 u0.2.2.1) fun u1 => an (dCal u1) fun u2 => an (dL2 u2.2.2.1) fun u3 => okG kd "list" u0.1 && okG kd "zip" u2.1 && mE false kd ns a u3.1 && mE false kd ns b u3.2
  | .meth n m args, x => an (dMet x) fun u0 => mtNames.contains m && m == u0.2.2.1 && okL kd ns n u0.1 && mEs false kd ns args u0.2.2.2.2.1 && !u0.2.2.2.2.1.isEmpty && u0.2.2.2.1.endLine == u0.2.2.2.2.2.line && decide (u0.2.2.2.2.1.length ≤ 20)
  | .pop n, x => an (dMet x) fun u0 => an (dL0 u0.2.2.2.2.1) fun u1 => u0.2.2.1 == "pop" && okL kd ns n u0.1 && u0.2.2.2.1.endLine == u0.2.2.2.2.2.line
  | .app n e, x => an (dMet x) fun u0 => an (dL1 u0.2.2.2.2.1) fun u1 => u0.2.2.1 == "append" && okL kd ns n u0.1 && mE false kd ns e u1 && u0.2.2.2.1.endLine == u0.2.2.2.2.2.line
  | .ext n e, x => an (dMet x) fun u0 => an (dL1 u0.2.2.2.2.1) fun u1 => u0.2.2.1 == "extend" && okL kd ns n u0.1 && mE false kd ns e u1 && u0.2.2.2.1.endLine == u0.2.2.2.2.2.line
  | .get n k e, x => an (dMet x) fun u0 => an (dL2 u0.2.2.2.2.1) fun u1 => u0.2.2.1 == "get" && okL kd ns n u0.1 && mE false kd ns k u1.1 && mE false kd ns e u1.2 && u0.2.2.2.1.endLine == u0.2.2.2.2.2.line
  | .comp m elt tg tn it c, x => an (dCom x) fun u0 => compOk kd ns u0.2.2.2.2.1 tn && mT false (kdc kd u0.2.2.2.2.1) (tn ++ ns) tg u0.2.1 && mE false kd ns it u0.2.2.1 && mE false (kdc kd u0.2.2.2.2.1) (tn ++ ns) elt u0.1 && (match u0.2.2.2.1 with | [] => isTrueEx c | [z] => mE true (kdc kd u0.2.2.2.2.1) (tn ++ ns) c z | _ => false)
  | .compR m elt tg tn n c, x => an (dCom x) fun u0 => an (dCal u0.2.2.1) fun u1 => an (dL1 u1.2.2.1) fun u2 => compOk kd ns u0.2.2.2.2.1 tn && mT false (kdc kd u0.2.2.2.2.1) (tn ++ ns) tg u0.2.1 && okG kd "range" u1.1 && mE false kd ns n u2 && mE false (kdc kd u0.2.2.2.2.1) (tn ++ ns) elt u0.1 && (match u0.2.2.2.1 with | [] => isTrueEx c | [z] => mE true (kdc kd u0.2.2.2.2.1) (tn ++ ns) c z | _ => false)
  | .dcomp k v tn it, x => an (dDcm x) fun u0 => compOk kd ns u0.2.2.2.2.2.1 [tn] && okS false (kdc kd u0.2.2.2.2.2.1) (tn :: ns) 0 u0.2.2.1 && mE false kd ns it u0.2.2.2.2.1 && mE false (kdc kd u0.2.2.2.2.2.1) (tn :: ns) k u0.1 && mE false (kdc kd u0.2.2.2.2.2.1) (tn :: ns) v u0.2.1
  | .fcall f args, x => an (dCal x) fun u0 => fnNames.contains f && okG kd f u0.1 && mEs false kd ns args u0.2.2.1
  | .range _, _ => false
  | .zip _ _, _ => false
  | .enum _, _ => false
noncomputable def mEs (t : Bool) (kd : Kd) (ns : List Str) : Exs → List Expr → Bool
  | .nil, xs => xs.isEmpty
  | .cons e es, xs => an (dCns xs) fun u => mE t kd ns e u.1 && mEs t kd ns es u.2
end
noncomputable def mI (kd : Kd) (ns : List Str) : Ex → Expr → Bool
  | .range e, x => an (dCal x) fun u0 => an (dL1 u0.2.2.1) fun u1 => okG kd "range" u0.1 && mE false kd ns e u1
  | .zip a b, x => an (dCal x) fun u0 => an (dL2 u0.2.2.1) fun u1 => okG kd "zip" u0.1 && mE false kd ns a u1.1 && mE false kd ns b u1.2
  | .enum e, x => an (dCal x) fun u0 => an (dL1 u0.2.2.1) fun u1 => okG kd "enumerate" u0.1 && mE false kd ns e u1
  | e, x => mE false kd ns e x
noncomputable def isZE : Ex → Bool
  | .zip _ _ => true
  | .enum _ => true
  | _ => false
noncomputable def isTup (x : Expr) : Bool := an (dTup x) fun _ => true
theorem isTup_i {x : Expr} (h : isTup x = true) : ∃ es k p, x = .Tuple es k p := by
  obtain ⟨q, e, _⟩ := an_inv (show (an (dTup x) fun _ => true) = true from h)
  exact ⟨_, _, _, e⟩
theorem isNone_i {e : Ex} (h : isNoneEx e = true) : e = .none := by
  cases e with
  | none => rfl
  | _ => exact absurd h Bool.false_ne_true
theorem mE_i_none {t : Bool} {kd : Kd} {ns : List Str}  {x : Expr} (h : mE t kd ns .none x = true) : ∃ p q, x = .Constant .none p q ∧ (true) = true := by
  obtain ⟨q0, e0, h1⟩ := an_inv h
  exact ⟨q0.1, q0.2, e0, h1⟩
theorem mE_i_bool {t : Bool} {kd : Kd} {ns : List Str} {b : Bool} {x : Expr} (h : mE t kd ns (.bool b) x = true) : ∃ b' p q, x = .Constant (.bool b') p q ∧ (b == b') = true := by
  obtain ⟨q0, e0, h1⟩ := an_inv h
  exact ⟨q0.1, q0.2.1, q0.2.2, e0, h1⟩
theorem mE_i_int {t : Bool} {kd : Kd} {ns : List Str} {i : Int} {x : Expr} (h : mE t kd ns (.int i) x = true) : ∃ j p q, x = .Constant (.int j) p q ∧ (i == j) = true := by
  obtain ⟨q0, e0, h1⟩ := an_inv h
  exact ⟨q0.1, q0.2.1, q0.2.2, e0, h1⟩
theorem mE_i_neg {t : Bool} {kd : Kd} {ns : List Str} {i : Int} {x : Expr} (h : mE t kd ns (.neg i) x = true) : ∃ j p q r, x = .UnaryOp .USub (.Constant (.int j) p q) r ∧ (i == j) = true := by
  obtain ⟨q0, e0, h1⟩ := an_inv h
  exact ⟨q0.1, q0.2.1, q0.2.2.1, q0.2.2.2, e0, h1⟩
theorem mE_i_str {t : Bool} {kd : Kd} {ns : List Str} {y : Str} {x : Expr} (h : mE t kd ns (.str y) x = true) : ∃ z p q, x = .Constant (.str z) p q ∧ (y == z) = true := by
  obtain ⟨q0, e0, h1⟩ := an_inv h
  exact ⟨q0.1, q0.2.1, q0.2.2, e0, h1⟩
theorem mE_i_var {t : Bool} {kd : Kd} {ns : List Str} {n : Nat} {x : Expr} (h : mE t kd ns (.var n) x = true) : ∃ y p, x = .Name y p ∧ (okL kd ns n y) = true := by
  obtain ⟨q0, e0, h1⟩ := an_inv h
  exact ⟨q0.1, q0.2, e0, h1⟩
theorem mE_i_tup {t : Bool} {kd : Kd} {ns : List Str} {es : Exs} {x : Expr} (h : mE t kd ns (.tup es) x = true) : ∃ xs p q, x = .Tuple xs p q ∧ (mEs false kd ns es xs && decide (xs.length ≤ 100)) = true := by
  obtain ⟨q0, e0, h1⟩ := an_inv h
  exact ⟨q0.1, q0.2.1, q0.2.2, e0, h1⟩
theorem mE_i_lst {t : Bool} {kd : Kd} {ns : List Str} {m : Bool} {es : Exs} {x : Expr} (h : mE t kd ns (.lst m es) x = true) : ∃ xs p, x = .List xs p ∧ (mEs false kd ns es xs && decide (xs.length ≤ 100)) = true := by
  obtain ⟨q0, e0, h1⟩ := an_inv h
  exact ⟨q0.1, q0.2, e0, h1⟩
theorem mE_i_dct {t : Bool} {kd : Kd} {ns : List Str} {m : Bool} {x : Expr} (h : mE t kd ns (.dct m) x = true) : ∃ p, x = .Dict [] [] p ∧ (true) = true := by
  obtain ⟨q0, e0, h1⟩ := an_inv h
  exact ⟨q0, e0, h1⟩
theorem mE_i_cmp {t : Bool} {kd : Kd} {ns : List Str} {op : CmpOp} {a b : Ex} {x : Expr} (h : mE t kd ns (.cmp op a b) x = true) : ∃ l op' r p, x = .Compare l [op'] [r] p ∧ (op == op' && mE false kd ns a l && mE false kd ns b r) = true := by
  obtain ⟨q0, e0, h1⟩ := an_inv h
  exact ⟨q0.1, q0.2.1, q0.2.2.1, q0.2.2.2, e0, h1⟩
theorem mE_i_bop {t : Bool} {kd : Kd} {ns : List Str} {op : BoolOp} {es : Exs} {x : Expr} (h : mE t kd ns (.bop op es) x = true) : ∃ op' xs p, x = .BoolOp op' xs p ∧ (op == op' && (t || xs.length == 2) && mEs t kd ns es xs) = true := by
  obtain ⟨q0, e0, h1⟩ := an_inv h
  exact ⟨q0.1, q0.2.1, q0.2.2, e0, h1⟩
theorem mE_i_not {t : Bool} {kd : Kd} {ns : List Str} {e : Ex} {x : Expr} (h : mE t kd ns (.not e) x = true) : ∃ y p, x = .UnaryOp .Not y p ∧ (t && mE true kd ns e y) = true := by
  obtain ⟨q0, e0, h1⟩ := an_inv h
  exact ⟨q0.1, q0.2, e0, h1⟩
theorem mE_i_bin {t : Bool} {kd : Kd} {ns : List Str} {op : Operator} {a b : Ex} {x : Expr} (h : mE t kd ns (.bin op a b) x = true) : ∃ l op' r p, x = .BinOp l op' r p ∧ (op == op' && mE false kd ns a l && mE false kd ns b r) = true := by
  obtain ⟨q0, e0, h1⟩ := an_inv h
  exact ⟨q0.1, q0.2.1, q0.2.2.1, q0.2.2.2, e0, h1⟩
theorem mE_i_ite {t : Bool} {kd : Kd} {ns : List Str} {c a b : Ex} {x : Expr} (h : mE t kd ns (.ite c a b) x = true) : ∃ y l r p, x = .IfExp y l r p ∧ (mE true kd ns c y && mE t kd ns a l && mE t kd ns b r) = true := by
  obtain ⟨q0, e0, h1⟩ := an_inv h
  exact ⟨q0.1, q0.2.1, q0.2.2.1, q0.2.2.2, e0, h1⟩
theorem mE_i_idx {t : Bool} {kd : Kd} {ns : List Str} {a i : Ex} {x : Expr} (h : mE t kd ns (.idx a i) x = true) : ∃ l r p, x = .Subscript l r p ∧ (mE false kd ns a l && mE false kd ns i r) = true := by
  obtain ⟨q0, e0, h1⟩ := an_inv h
  exact ⟨q0.1, q0.2.1, q0.2.2, e0, h1⟩
theorem mE_i_slc {t : Bool} {kd : Kd} {ns : List Str} {lo hi st a : Ex} {x : Expr} (h : mE t kd ns (.slc lo hi st a) x = true) : ∃ l u v w p q, x = .Subscript l (.Slice u v w p) q ∧ (mE false kd ns a l && (match u with | Option.none => isNoneEx lo | some z => mE false kd ns lo z) && (match v with | Option.none => isNoneEx hi | some z => mE false kd ns hi z) && (match w with | Option.none => isNoneEx st | some z => mE false kd ns st z)) = true := by
  obtain ⟨q0, e0, h1⟩ := an_inv h
  exact ⟨q0.1, q0.2.1, q0.2.2.1, q0.2.2.2.1, q0.2.2.2.2.1, q0.2.2.2.2.2, e0, h1⟩
theorem mE_i_attr {t : Bool} {kd : Kd} {ns : List Str} {n : Nat} {f : Str} {x : Expr} (h : mE t kd ns (.attr n f) x = true) : ∃ y p g q, x = .Attribute (.Name y p) g q ∧ (f == g && okL kd ns n y) = true := by
  obtain ⟨q0, e0, h1⟩ := an_inv h
  exact ⟨q0.1, q0.2.1, q0.2.2.1, q0.2.2.2, e0, h1⟩
theorem mE_i_call {t : Bool} {kd : Kd} {ns : List Str} {f : Str} {args : Exs} {x : Expr} (h : mE t kd ns (.call f args) x = true) : ∃ y p xs q, x = .Call (.Name y p) xs [] q ∧ (fnNames.contains f && okG kd f y && mEs false kd ns args xs) = true := by
  obtain ⟨q0, e0, h1⟩ := an_inv h
  exact ⟨q0.1, q0.2.1, q0.2.2.1, q0.2.2.2, e0, h1⟩
theorem mE_i_bi {t : Bool} {kd : Kd} {ns : List Str} {f : BI} {args : Exs} {x : Expr} (h : mE t kd ns (.bi f args) x = true) : ∃ y p xs q, x = .Call (.Name y p) xs [] q ∧ (okG kd (biName f) y && mEs false kd ns args xs && !xs.isEmpty) = true := by
  obtain ⟨q0, e0, h1⟩ := an_inv h
  exact ⟨q0.1, q0.2.1, q0.2.2.1, q0.2.2.2, e0, h1⟩
theorem mE_i_lzip {t : Bool} {kd : Kd} {ns : List Str} {a b : Ex} {x : Expr} (h : mE t kd ns (.lzip a b) x = true) : ∃ y p1 z p2 l r p3 p4, x = .Call (.Name y p1) [(.Call (.Name z p2) [l, r] [] p3)] [] p4 ∧ (okG kd "list" y && okG kd "zip" z && mE false kd ns a l && mE false kd ns b r) = true := by
  obtain ⟨q0, e0, h1⟩ := an_inv h
  obtain ⟨q1, e1, h2⟩ := an_inv h1
  obtain ⟨q2, e2, h3⟩ := an_inv h2
  obtain ⟨q3, e3, h4⟩ := an_inv h3
  exact ⟨q0.1, q0.2.1, q2.1, q2.2.1, q3.1, q3.2, q2.2.2.2, q0.2.2.2, by rw [e0, e1, e2, e3], h4⟩
theorem mE_i_meth {t : Bool} {kd : Kd} {ns : List Str} {n : Nat} {m : Str} {args : Exs} {x : Expr} (h : mE t kd ns (.meth n m args) x = true) : ∃ y q g ap xs p, x = .Call (.Attribute (.Name y q) g ap) xs [] p ∧ (mtNames.contains m && m == g && okL kd ns n y && mEs false kd ns args xs && !xs.isEmpty && ap.endLine == p.line && decide (xs.length ≤ 20)) = true := by
  obtain ⟨q0, e0, h1⟩ := an_inv h
  exact ⟨q0.1, q0.2.1, q0.2.2.1, q0.2.2.2.1, q0.2.2.2.2.1, q0.2.2.2.2.2, e0, h1⟩
theorem mE_i_pop {t : Bool} {kd : Kd} {ns : List Str} {n : Nat} {x : Expr} (h : mE t kd ns (.pop n) x = true) : ∃ y q g ap p, x = .Call (.Attribute (.Name y q) g ap) [] [] p ∧ (g == "pop" && okL kd ns n y && ap.endLine == p.line) = true := by
  obtain ⟨q0, e0, h1⟩ := an_inv h
  obtain ⟨q1, e1, h2⟩ := an_inv h1
  exact ⟨q0.1, q0.2.1, q0.2.2.1, q0.2.2.2.1, q0.2.2.2.2.2, by rw [e0, e1], h2⟩
theorem mE_i_app {t : Bool} {kd : Kd} {ns : List Str} {n : Nat} {e : Ex} {x : Expr} (h : mE t kd ns (.app n e) x = true) : ∃ y q g ap l p, x = .Call (.Attribute (.Name y q) g ap) [l] [] p ∧ (g == "append" && okL kd ns n y && mE false kd ns e l && ap.endLine == p.line) = true := by
  obtain ⟨q0, e0, h1⟩ := an_inv h
  obtain ⟨q1, e1, h2⟩ := an_inv h1
  exact ⟨q0.1, q0.2.1, q0.2.2.1, q0.2.2.2.1, q1, q0.2.2.2.2.2, by rw [e0, e1], h2⟩
theorem mE_i_ext {t : Bool} {kd : Kd} {ns : List Str} {n : Nat} {e : Ex} {x : Expr} (h : mE t kd ns (.ext n e) x = true) : ∃ y q g ap l p, x = .Call (.Attribute (.Name y q) g ap) [l] [] p ∧ (g == "extend" && okL kd ns n y && mE false kd ns e l && ap.endLine == p.line) = true := by
  obtain ⟨q0, e0, h1⟩ := an_inv h
  obtain ⟨q1, e1, h2⟩ := an_inv h1
  exact ⟨q0.1, q0.2.1, q0.2.2.1, q0.2.2.2.1, q1, q0.2.2.2.2.2, by rw [e0, e1], h2⟩
theorem mE_i_get {t : Bool} {kd : Kd} {ns : List Str} {n : Nat} {k e : Ex} {x : Expr} (h : mE t kd ns (.get n k e) x = true) : ∃ y q g ap l r p, x = .Call (.Attribute (.Name y q) g ap) [l, r] [] p ∧ (g == "get" && okL kd ns n y && mE false kd ns k l && mE false kd ns e r && ap.endLine == p.line) = true := by
  obtain ⟨q0, e0, h1⟩ := an_inv h
  obtain ⟨q1, e1, h2⟩ := an_inv h1
  exact ⟨q0.1, q0.2.1, q0.2.2.1, q0.2.2.2.1, q1.1, q1.2, q0.2.2.2.2.2, by rw [e0, e1], h2⟩
theorem mE_i_comp {t : Bool} {kd : Kd} {ns : List Str} {m : Bool} {elt : Ex} {tg : Tg} {tn : List Str} {it c : Ex} {x : Expr} (h : mE t kd ns (.comp m elt tg tn it c) x = true) : ∃ el target iter ifs scope p, x = .ListComp el [⟨target, iter, ifs, 0⟩] scope p ∧ (compOk kd ns scope tn && mT false (kdc kd scope) (tn ++ ns) tg target && mE false kd ns it iter && mE false (kdc kd scope) (tn ++ ns) elt el && (match ifs with | [] => isTrueEx c | [z] => mE true (kdc kd scope) (tn ++ ns) c z | _ => false)) = true := by
  obtain ⟨q0, e0, h1⟩ := an_inv h
  exact ⟨q0.1, q0.2.1, q0.2.2.1, q0.2.2.2.1, q0.2.2.2.2.1, q0.2.2.2.2.2, e0, h1⟩
theorem mE_i_compR {t : Bool} {kd : Kd} {ns : List Str} {m : Bool} {elt : Ex} {tg : Tg} {tn : List Str} {n c : Ex} {x : Expr} (h : mE t kd ns (.compR m elt tg tn n c) x = true) : ∃ el target y p l q ifs scope r, x = .ListComp el [⟨target, (.Call (.Name y p) [l] [] q), ifs, 0⟩] scope r ∧ (compOk kd ns scope tn && mT false (kdc kd scope) (tn ++ ns) tg target && okG kd "range" y && mE false kd ns n l && mE false (kdc kd scope) (tn ++ ns) elt el && (match ifs with | [] => isTrueEx c | [z] => mE true (kdc kd scope) (tn ++ ns) c z | _ => false)) = true := by
  obtain ⟨q0, e0, h1⟩ := an_inv h
  obtain ⟨q1, e1, h2⟩ := an_inv h1
  obtain ⟨q2, e2, h3⟩ := an_inv h2
  exact ⟨q0.1, q0.2.1, q1.1, q1.2.1, q2, q1.2.2.2, q0.2.2.2.1, q0.2.2.2.2.1, q0.2.2.2.2.2, by rw [e0, e1, e2], h3⟩
theorem mE_i_dcomp {t : Bool} {kd : Kd} {ns : List Str} {k v : Ex} {tn : Str} {it : Ex} {x : Expr} (h : mE t kd ns (.dcomp k v tn it) x = true) : ∃ kx vx y p iter scope q, x = .DictComp kx vx [⟨.Name y p, iter, [], 0⟩] scope q ∧ (compOk kd ns scope [tn] && okS false (kdc kd scope) (tn :: ns) 0 y && mE false kd ns it iter && mE false (kdc kd scope) (tn :: ns) k kx && mE false (kdc kd scope) (tn :: ns) v vx) = true := by
  obtain ⟨q0, e0, h1⟩ := an_inv h
  exact ⟨q0.1, q0.2.1, q0.2.2.1, q0.2.2.2.1, q0.2.2.2.2.1, q0.2.2.2.2.2.1, q0.2.2.2.2.2.2, e0, h1⟩
theorem mI_i_range {kd : Kd} {ns : List Str} {e : Ex} {x : Expr} (h : mI kd ns (.range e) x = true) : ∃ y p l q, x = .Call (.Name y p) [l] [] q ∧ (okG kd "range" y && mE false kd ns e l) = true := by
  delta mI at h
  obtain ⟨q0, e0, h1⟩ := an_inv h
  obtain ⟨q1, e1, h2⟩ := an_inv h1
  exact ⟨q0.1, q0.2.1, q1, q0.2.2.2, by rw [e0, e1], h2⟩
theorem mI_i_zip {kd : Kd} {ns : List Str} {a b : Ex} {x : Expr} (h : mI kd ns (.zip a b) x = true) : ∃ y p l r q, x = .Call (.Name y p) [l, r] [] q ∧ (okG kd "zip" y && mE false kd ns a l && mE false kd ns b r) = true := by
  delta mI at h
  obtain ⟨q0, e0, h1⟩ := an_inv h
  obtain ⟨q1, e1, h2⟩ := an_inv h1
  exact ⟨q0.1, q0.2.1, q1.1, q1.2, q0.2.2.2, by rw [e0, e1], h2⟩
theorem mI_i_enum {kd : Kd} {ns : List Str} {e : Ex} {x : Expr} (h : mI kd ns (.enum e) x = true) : ∃ y p l q, x = .Call (.Name y p) [l] [] q ∧ (okG kd "enumerate" y && mE false kd ns e l) = true := by
  delta mI at h
  obtain ⟨q0, e0, h1⟩ := an_inv h
  obtain ⟨q1, e1, h2⟩ := an_inv h1
  exact ⟨q0.1, q0.2.1, q1, q0.2.2.2, by rw [e0, e1], h2⟩
theorem mEs_nil {t : Bool} {kd : Kd} {ns : List Str} {xs : List Expr} (h : mEs t kd ns .nil xs = true) : xs = [] := by
  cases xs with
  | nil => rfl
  | cons _ _ => exact absurd h Bool.false_ne_true
theorem mEs_cons {t : Bool} {kd : Kd} {ns : List Str} {e : Ex} {es : Exs} {xs : List Expr} (h : mEs t kd ns (.cons e es) xs = true) : ∃ y ys, xs = y :: ys ∧ (mE t kd ns e y && mEs t kd ns es ys) = true := by
  obtain ⟨⟨_, _⟩, rfl, h1⟩ := an_inv h
  exact ⟨_, _, rfl, h1⟩
theorem noStar (e : Ex) : ∀ t kd ns v p, mE t kd ns e (.Starred v p) = false := by
  intro t kd ns v p; cases e <;> rfl
theorem noSet (e : Ex) : ∀ t kd ns v k p, mE t kd ns e (.Set v k p) = false := by
  intro t kd ns v k p; cases e <;> rfl
theorem star_of {t kd ns} {e : Ex} {x : Expr} (h : mE t kd ns e x = true) (rest env) : starEach (x :: rest) env = (false, eval x env) :: starEach rest env := by
  cases x with
  | Starred v p => rw [noStar] at h; cases h
  | _ => rfl
theorem behind_of {t kd ns op} {e : Ex} {x : Expr} (h : mE t kd ns e x = true) : behindInMarks op x = false := by
  cases x with
  | Set v k p => rw [noSet] at h; cases h
  | _ => rfl
theorem fold_of {t kd ns} {e : Ex} {x : Expr} (h : mE t kd ns e x = true) (env : Env) (v : Value) : foldedSetIterable x env v = pure v := by
  cases x with
  | Set v k p => rw [noSet] at h; cases h
  | _ => rfl
noncomputable def allNames : List Str := ["len", "tuple", "int", "str", "max", "dict", "list", "zip", "range", "enumerate"]
noncomputable def CallOk (G : Wd) (A : Around) (C : Ctr) (f : Str) (fv : Value) : Prop :=
  ∀ Y σ s vs args Q, S0 G Y σ s → VAs s.heap (Mu Y σ) vs args → C f args σ Q →
    wpAny (model G.prog G.w) A (call fv vs) (fun v s' => ∃ av σ', S0 G Y σ' s' ∧ E0 σ σ' s s' ∧ VA s'.heap (Mu Y σ') v av ∧ Q av σ') NE s
structure Cx (G : Wd) (C : Ctr) (d : Nat) : Prop where
  ok : G.Ok
  gl : ∀ f ∈ fnNames, nsIn G.K mainGlobals f = some (some (.ref (G.fn f))) ∧ keepIn G.K (.ref (G.fn f)) = true ∧ ∀ A, Rm A d → CallOk G A C f (.ref (G.fn f))
  bn : ∀ x ∈ allNames, nsIn G.K mainGlobals x = some none
  me : ∀ m ∈ mtNames, atB true m = false ∧ plainGet G.K (G.cl true) m = true ∧ findIn G.K (.ref (G.cl true)) m = some (some (.ref (G.mt m))) ∧ isFn G.K (.ref (G.mt m)) = true ∧ keepIn G.K (.ref (G.mt m)) = true ∧
    ∀ A, Rm A d → CallOk G A C m (.ref (G.mt m))
  at_ : ∀ b f, atB b f = true → ∃ attr, plainGet G.K (G.cl b) f = true ∧ hasDictIn G.K (G.cl b) = true ∧ findIn G.K (.ref (G.cl b)) f = some attr ∧ noGet G.K attr = true
noncomputable def SV (G : Wd) (C : Ctr) (d : Nat) (e : Ex) : Prop := ∀ kd ns x, mE false kd ns e x = true → ∀ A F Y ρ σ Q s, Rm A d → F.env.kindOf = kd → St G Y F (mu ns ρ) σ s → awE C e ρ σ Q → Evs G Y F (mu ns ρ) A σ s (eval x F.env) Q
noncomputable def ST (G : Wd) (C : Ctr) (d : Nat) (e : Ex) : Prop := ∀ kd ns x, mE true kd ns e x = true → ∀ A F Y ρ σ (Q : Bool → Sto → Prop) s, Rm A d → F.env.kindOf = kd → St G Y F (mu ns ρ) σ s →
  (awE C e ρ σ fun v σ' => wS (boolOf v) fun b => Q b σ') → wpAny (model G.prog G.w) A (isTrue x F.env (eval x F.env)) (fun b s' => UPost G Y F (mu ns ρ) σ s (Q b) s') NE s
noncomputable def SVs (G : Wd) (C : Ctr) (d : Nat) (es : Exs) : Prop := ∀ kd ns xs, mEs false kd ns es xs = true → ∀ A F Y ρ σ Q s pos, Rm A d → F.env.kindOf = kd → St G Y F (mu ns ρ) σ s → awEs C es ρ σ Q →
  wpAny (model G.prog G.w) A (spliced (backTo pos (starEach xs F.env))) (fun vs s' => vs.length = xs.length ∧ ∃ avs σ', St G Y F (mu ns ρ) σ' s' ∧ E0 σ σ' s s' ∧ VAs s'.heap (Mu Y σ') vs avs ∧ Q avs σ') NE s
noncomputable def STs (G : Wd) (C : Ctr) (d : Nat) (es : Exs) : Prop := ∀ kd ns xs, mEs true kd ns es xs = true → ∀ A F Y ρ σ Q s op, Rm A d → F.env.kindOf = kd → St G Y F (mu ns ρ) σ s → awL C op es ρ σ Q →
  wpAny (model G.prog G.w) A (allTrue op xs F.env) (fun b s' => UPost G Y F (mu ns ρ) σ s (Q b) s') NE s
section
variable {G : Wd} {C : Ctr} {d : Nat}
theorem boolOf_some {v : AV} {b : Bool} (e : boolOf v = some b) : v = .d (.bool b) := by
  unfold boolOf at e
  split at e
  · cases e; rfl
  · cases e
theorem UPost.trans {Y : AS} {F : Fm} {μ : Env1} {σ σ' : Sto} {s s' s'' : Shared} {Q : Sto → Prop} (x : E0 σ σ' s s') : UPost G Y F μ σ' s' Q s'' → UPost G Y F μ σ s Q s'' :=
  fun ⟨σ'', S, y, q⟩ => ⟨σ'', S, x.trans y, q⟩
theorem tst_of {x : Expr} {A : Around} {F : Fm} {Y : AS} {μ : Env1} {σ : Sto} {Q : Bool → Sto → Prop} {s : Shared}
    (h : Evs G Y F μ A σ s (eval x F.env) fun v σ' => wS (boolOf v) fun b => Q b σ')
    (hp : isTrue x F.env (eval x F.env) = (do let v ← eval x F.env; standAt x.pos; holding [v] (truthy v))) :
    wpAny (model G.prog G.w) A (isTrue x F.env (eval x F.env)) (fun b s' => UPost G Y F μ σ s (Q b) s') NE s := by
  refine wpAny_isTrue_value (h.then fun v s' av σ' S' e' r p => ?_) hp
  obtain ⟨b, e1, q⟩ := wS_some p
  obtain rfl := boolOf_some e1
  obtain rfl := VR.bool_inv r
  exact wpAny_truthy_bool ⟨σ', S', e', q⟩
theorem mu_get {ns : List Str} {ρ : Rho} {n : Nat} {x : Str} {o : Option AV} {v : AV} (h : ix ns x = some n) (e1 : ρ[n]? = some o) (e2 : o = some v) : mu ns ρ x = some v := by
  unfold mu; rw [h]; show (ρ[n]?).join = _; rw [e1, e2]; rfl
theorem var_ok {kd : Kd} {ns : List Str} {n : Nat} {y : Str} {A : Around} {F : Fm} {Y : AS} {ρ : Rho} {σ : Sto} {s : Shared} {pos : Pos} {Q : Value → Shared → Prop} (h : okL kd ns n y = true) (hk : F.env.kindOf = kd)
    (S : St G Y F (mu ns ρ) σ s) {o : Option AV} {v : AV} (e1 : ρ[n]? = some o) (e2 : o = some v) (k : ∀ u, VA s.heap (Mu Y σ) u v → Q u s) : wpAny (model G.prog G.w) A (eval (.Name y pos) F.env) Q NE s := by
  subst hk
  unfold okL at h
  simp only [Bool.and_eq_true, Bool.not_eq_true', beq_iff_eq] at h
  obtain ⟨⟨⟨h1, h2⟩, h3⟩, h4⟩ := h
  exact wpAny_Name (ld_ok S (mu_get h1 e1 e2) h2 h3 k) h4
theorem sv_var {n : Nat} : SV G C d (.var n) := fun kd ns x hm A F Y ρ σ Q s R hk S h => by
  replace hm := mE_i_var hm
  obtain ⟨_, _, rfl, hm⟩ := hm
  · obtain ⟨o, e1, h⟩ := wS_some h
    obtain ⟨v, e2, h⟩ := wS_some h
    exact var_ok hm hk S e1 e2 fun u r => .val S r h
theorem sv_none : SV G C d .none := fun kd ns x hm A F Y ρ σ Q s R hk S h => by
  replace hm := mE_i_none hm
  obtain ⟨_, _, rfl, hm⟩ := hm
  · exact wpAny_pure (.val S (av := .d .none) VR.none h)
theorem sv_bool {b : Bool} : SV G C d (.bool b) := fun kd ns x hm A F Y ρ σ Q s R hk S h => by
  replace hm := mE_i_bool hm
  obtain ⟨_, _, _, rfl, hm⟩ := hm
  · obtain rfl := beq_iff_eq.mp hm
    exact wpAny_pure (.val S (av := .d (.bool b)) (VR.bool b) h)
theorem sv_int {i : Int} : SV G C d (.int i) := fun kd ns x hm A F Y ρ σ Q s R hk S h => by
  replace hm := mE_i_int hm
  obtain ⟨_, _, _, rfl, hm⟩ := hm
  · obtain rfl := beq_iff_eq.mp hm
    exact fun _ _ _ => Post.tok (av := .d (.int i)) _ S (VR.int i _) h
theorem sv_neg {i : Int} : SV G C d (.neg i) := fun kd ns x hm A F Y ρ σ Q s R hk S h => by
  replace hm := mE_i_neg hm
  obtain ⟨_, _, _, _, rfl, hm⟩ := hm
  · obtain rfl := beq_iff_eq.mp hm
    refine wpAny_UnaryOp (wpAny_mono (Q := fun v s' => ∃ t tk, v = .int i t ∧ s' = { s with toks := tk }) (fun _ _ _ => ⟨_, _, rfl, rfl⟩) (fun v s' ⟨t, tk, e1, e2⟩ => ?_) fun _ _ f => f)
    subst e1 e2
    exact neg_int (Post.trans (.gw (.tok _)) (Post.tok (av := .d (.int (-i))) _ (S.tok _) (VR.int (-i) _) h))
theorem sv_str {y : Str} : SV G C d (.str y) := fun kd ns x hm A F Y ρ σ Q s R hk S h => by
  replace hm := mE_i_str hm
  obtain ⟨_, _, _, rfl, hm⟩ := hm
  · obtain rfl := beq_iff_eq.mp hm
    exact Constant_str (Post.tok (av := .d (.str y)) _ S (VR.str y _) h)
theorem datas_inv : ∀ {avs : List AV} {ds : List PyData}, datas avs = some ds → avs = ds.map .d
  | [], ds, e => by cases e; rfl
  | .d x :: avs, ds, e => by
    simp only [datas, Option.map_eq_some_iff] at e
    obtain ⟨es, e1, rfl⟩ := e
    rw [datas_inv e1]; rfl
  | .loc _ :: _, _, e => by cases e
  | .ins _ :: _, _, e => by cases e
  | .scr _ :: _, _, e => by cases e
theorem VAs.datas {h : Heap} {M : AS} : ∀ {vs : List Value} {ds : List PyData}, VAs h M vs (ds.map .d) → VRs h M vs ds
  | _, [], r => by cases r; exact .nil
  | _, d :: ds, r => by
    cases r with
    | cons a b => exact .cons a (VAs.datas b)
theorem svs_nil : SVs G C d .nil := fun kd ns xs hm A F Y ρ σ Q s pos R hk S h => by
  obtain rfl := mEs_nil hm
  exact spliced_nil ⟨rfl, [], σ, S, .refl, .nil, h⟩
theorem svs_cons {e : Ex} {es : Exs} (I : SV G C d e) (J : SVs G C d es) : SVs G C d (.cons e es) := fun kd ns xs hm A F Y ρ σ Q s pos R hk S h => by
  replace hm := mEs_cons hm
  obtain ⟨_, _, rfl, hm⟩ := hm
  · simp only [Bool.and_eq_true] at hm
    obtain ⟨h1, h2⟩ := hm
    refine args_cons ((I kd ns _ h1 A F Y ρ σ _ s R hk S h).then fun v s' av σ' S' e' r p => ?_) (star_of h1 _ _)
    refine wpAny_mono (J kd ns _ h2 A F Y ρ σ' _ s' pos R hk S' p) (fun vs s'' q => ?_) fun _ _ f => f
    obtain ⟨hl, avs, σ'', S'', e'', r'', q⟩ := q
    exact ⟨by rw [List.length_cons, List.length_cons, hl], av :: avs, σ'', S'', e'.trans e'', .cons (r.mv e''.mv) r'', q⟩
theorem sv_tup {es : Exs} (J : SVs G C d es) : SV G C d (.tup es) := fun kd ns x hm A F Y ρ σ Q s R hk S h => by
  replace hm := mE_i_tup hm
  obtain ⟨_, _, _, rfl, hm⟩ := hm
  · simp only [Bool.and_eq_true, decide_eq_true_eq] at hm
    refine Tuple_ (wpAny_mono (J kd ns _ hm.1 A F Y ρ σ _ s _ R hk S h) (fun vs s' q => ?_) fun _ _ f => f)
    obtain ⟨hl, avs, σ', S', e', r, q⟩ := q
    replace q := wS_some q
    obtain ⟨ds, e1, q⟩ := q
    obtain rfl := datas_inv e1
    refine wpAny_newTuple (Post.trans e' (DPost.post S' (.mk (.push _ _) (VR.tupNew S'.s0 r.datas) q))) ?_
    have : sizeLine = 16777216 := rfl
    omega
theorem sv_lst {m : Bool} {es : Exs} (J : SVs G C d es) : SV G C d (.lst m es) := fun kd ns x hm A F Y ρ σ Q s R hk S h => by
  replace hm := mE_i_lst hm
  obtain ⟨_, _, rfl, hm⟩ := hm
  · simp only [Bool.and_eq_true, decide_eq_true_eq] at hm
    refine List_ (wpAny_mono (J kd ns _ hm.1 A F Y ρ σ _ s _ R hk S h) (fun vs s' q => ?_) fun _ _ f => f)
    obtain ⟨hl, avs, σ', S', e', r, q⟩ := q
    replace q := wS_some q
    obtain ⟨ds, e1, q⟩ := q
    obtain rfl := datas_inv e1
    refine wpAny_newList ?_ ?_
    · refine Post.trans e' ?_
      split at q
      · refine Post.alloc (o := .list ds) S' ⟨_, Heap.get?_push_size _ rfl⟩ (fun _ _ e => Heap.get?_push_of_some _ e) ⟨vs, 0, Heap.get?_push_size _ rfl, r.datas.mv (Mv.put size_none fun _ _ e => Heap.get?_push_of_some _ e)⟩ (q _ (S'.s0.fresh size_none).2.1)
      · exact DPost.post S' (.mk (.push _ _) (VR.lstNew S'.s0 r.datas) q)
    · have : sizeLine = 16777216 := rfl
      omega
theorem sv_dct {t : Bool} (X : Cx G C d) : SV G C d (.dct t) := fun kd ns x hm A F Y ρ σ Q s R hk S h => by
  replace hm := mE_i_dct hm
  obtain ⟨_, rfl, hm⟩ := hm
  · show wpAny _ _ (eval (.Dict [] [] _) F.env) _ _ _
    rw [eval_Dict_empty]
    refine wpAny_bind (wpAny_standAt ?_)
    refine wpAny_newObj_type (T := "dict") ?_ ?_
    · refine Post.alloc (o := if t then .tset [] else .dict []) S ⟨_, Heap.get?_push_size _ rfl⟩ (fun _ _ e => Heap.get?_push_of_some _ e) ?_ (h _ (S.s0.fresh size_none).2.1)
      cases t
      · exact ⟨[], Heap.DictOf.new _, .nil, fresh_mod X.ok S.s0⟩
      · refine ⟨[], ?_, rfl, fun _ h => absurd h List.not_mem_nil, fresh_mod X.ok S.s0⟩
        exact ⟨_, #[], _, Heap.get?_push_size _ rfl, ⟨rfl, rfl, rfl⟩, rfl, rfl, fun _ h => absurd h List.not_mem_nil, List.Pairwise.nil⟩
    · first | trivial | size_fits | simp [sizeOk]
theorem sv_cmp {op : CmpOp} {a b : Ex} (I : SV G C d a) (J : SV G C d b) : SV G C d (.cmp op a b) := fun kd ns x hm A F Y ρ σ Q s R hk S h => by
  replace hm := mE_i_cmp hm
  obtain ⟨_, _, _, _, rfl, hm⟩ := hm
  · simp only [Bool.and_eq_true, beq_iff_eq] at hm
    obtain ⟨⟨rfl, h1⟩, h2⟩ := hm
    refine wpAny_Compare1 ((I kd ns _ h1 A F Y ρ σ _ s R hk S h).then fun v s' av σ' S' e' r p => (J kd ns _ h2 A F Y ρ σ' _ s' R hk S' p).then fun w s'' aw σ'' S'' e'' r' q => ?_) (behind_of h2)
    refine wpAny_mono (o_cmp R S''.s0 (r.mv e''.mv) r' q) (fun c s₃ k => ?_) fun _ _ f => f
    obtain ⟨g, b', rfl, k⟩ := k
    exact ⟨.d (.bool b'), σ'', S''.gw g, (e'.trans e'').trans (.gw g), VR.bool b', k⟩
theorem st_cmp {op : CmpOp} {a b : Ex} (I : SV G C d a) (J : SV G C d b) : ST G C d (.cmp op a b) := fun kd ns x hm A F Y ρ σ Q s R hk S h => by
  replace hm := mE_i_cmp hm
  obtain ⟨_, _, _, _, rfl, hm⟩ := hm
  · simp only [Bool.and_eq_true, beq_iff_eq] at hm
    obtain ⟨⟨rfl, h1⟩, h2⟩ := hm
    refine wpAny_isTrue_Compare1 ((I kd ns _ h1 A F Y ρ σ _ s R hk S h).then fun v s' av σ' S' e' r p => (J kd ns _ h2 A F Y ρ σ' _ s' R hk S' p).then fun w s'' aw σ'' S'' e'' r' q => ?_) (behind_of h2)
    refine wpAny_mono (o_cmp R S''.s0 (r.mv e''.mv) r' q) (fun c s₃ k => ?_) fun _ _ f => f
    obtain ⟨g, b', rfl, k⟩ := k
    exact wpAny_truthy_bool ⟨σ'', S''.gw g, (e'.trans e'').trans (.gw g), k⟩
end
section
variable {G : Wd} {C : Ctr} {d : Nat}
theorem sts_nil : STs G C d .nil := fun kd ns xs hm A F Y ρ σ Q s op R hk S h => by
  obtain rfl := mEs_nil hm
  unfold allTrue
  exact wpAny_pure ⟨σ, S, .refl, h⟩
theorem sts_cons {e : Ex} {es : Exs} (I : ST G C d e) (J : STs G C d es) : STs G C d (.cons e es) := fun kd ns xs hm A F Y ρ σ Q s op R hk S h => by
  replace hm := mEs_cons hm
  obtain ⟨_, _, rfl, hm⟩ := hm
  · simp only [Bool.and_eq_true] at hm
    obtain ⟨h1, h2⟩ := hm
    cases op with
    | And =>
      refine wpAny_allTrue_And_cons (wpAny_mono (I kd ns _ h1 A F Y ρ σ _ s R hk S h) (fun b s' q => ?_) fun _ _ f => f)
      obtain ⟨σ', S', e', q⟩ := q
      cases b with
      | true =>
        rw [if_pos rfl]
        exact wpAny_mono (J kd ns _ h2 A F Y ρ σ' Q s' .And R hk S' q) (fun b s'' q => UPost.trans e' q) fun _ _ f => f
      | false =>
        rw [if_neg Bool.false_ne_true]
        exact ⟨σ', S', e', q⟩
    | Or =>
      refine wpAny_allTrue_Or_cons (wpAny_mono (I kd ns _ h1 A F Y ρ σ _ s R hk S h) (fun b s' q => ?_) fun _ _ f => f)
      obtain ⟨σ', S', e', q⟩ := q
      cases b with
      | true =>
        rw [if_pos rfl]
        exact ⟨σ', S', e', q⟩
      | false =>
        rw [if_neg Bool.false_ne_true]
        exact wpAny_mono (J kd ns _ h2 A F Y ρ σ' Q s' .Or R hk S' q) (fun b s'' q => UPost.trans e' q) fun _ _ f => f
theorem st_bop {op : BoolOp} {es : Exs} (J : STs G C d es) : ST G C d (.bop op es) := fun kd ns x hm A F Y ρ σ Q s R hk S h => by
  replace hm := mE_i_bop hm
  obtain ⟨_, _, _, rfl, hm⟩ := hm
  · simp only [Bool.and_eq_true, beq_iff_eq, Bool.true_or] at hm
    obtain ⟨⟨rfl, _⟩, h2⟩ := hm
    exact wpAny_isTrue_BoolOp (J kd ns _ h2 A F Y ρ σ Q s _ R hk S h)
theorem sv_bop {op : BoolOp} {a b : Ex} (I : SV G C d a) (J : SV G C d b) : SV G C d (.bop op (.cons a (.cons b .nil))) := fun kd ns x hm A F Y ρ σ Q s R hk S h => by
  replace hm := mE_i_bop hm
  obtain ⟨_, _, _, rfl, hm⟩ := hm
  · rename_i op' xs _
    simp only [Bool.and_eq_true, beq_iff_eq, Bool.false_or] at hm
    obtain ⟨⟨rfl, hl⟩, h2⟩ := hm
    match xs, hl, h2 with
    | [x, y], _, h2 =>
      replace h2 : (mE false kd ns a x && (mE false kd ns b y && true)) = true := h2
      simp only [Bool.and_eq_true] at h2
      obtain ⟨h1, h2, _⟩ := h2
      have last : ∀ s' σ' (av : AV), St G Y F (mu ns ρ) σ' s' → E0 σ σ' s s' → (awE C b ρ σ' fun v σ'' => wS (boolOf v) fun b => if b == (op == .And) then Q (.d (.bool (op == .And))) σ'' else Q (.d (.bool b)) σ'') →
          wpAny (model G.prog G.w) A (eval y F.env) (Post G Y F (mu ns ρ) σ s Q) NE s' := fun s' σ' av S' e' q =>
        (J kd ns _ h2 A F Y ρ σ' _ s' R hk S' q).then fun w s'' aw σ'' S'' e'' r' q => by
          replace q := wS_some q
          obtain ⟨b, e1, q⟩ := q
          obtain rfl := boolOf_some e1
          refine ⟨.d (.bool b), σ'', S'', e'.trans e'', r', ?_⟩
          split at q
          · rename_i c
            rw [beq_iff_eq.mp c]; exact q
          · exact q
      cases op with
      | And =>
        refine wpAny_And2 ((I kd ns _ h1 A F Y ρ σ _ s R hk S h).then fun v s' av σ' S' e' r q => ?_)
        replace q := wS_some q
        obtain ⟨b, e1, q⟩ := q
        obtain rfl := boolOf_some e1
        obtain rfl := VR.bool_inv r
        refine wpAny_truthy_bool ?_
        cases b with
        | true => rw [if_pos rfl]; exact last s' σ' (.d .none) S' e' q
        | false => rw [if_neg Bool.false_ne_true]; exact ⟨.d (.bool false), σ', S', e', VR.bool _, q⟩
      | Or =>
        refine wpAny_Or2 ((I kd ns _ h1 A F Y ρ σ _ s R hk S h).then fun v s' av σ' S' e' r q => ?_)
        replace q := wS_some q
        obtain ⟨b, e1, q⟩ := q
        obtain rfl := boolOf_some e1
        obtain rfl := VR.bool_inv r
        refine wpAny_truthy_bool ?_
        cases b with
        | true => rw [if_pos rfl]; exact ⟨.d (.bool true), σ', S', e', VR.bool _, q⟩
        | false => rw [if_neg Bool.false_ne_true]; exact last s' σ' (.d .none) S' e' q
theorem st_not {e : Ex} (I : ST G C d e) : ST G C d (.not e) := fun kd ns x hm A F Y ρ σ Q s R hk S h => by
  replace hm := mE_i_not hm
  obtain ⟨_, _, rfl, hm⟩ := hm
  simp only [Bool.true_and] at hm
  · refine isTrue_not (I kd ns _ hm A F Y ρ σ (fun b σ' => Q (!b) σ') s R hk S h)
theorem sv_ite {c a b : Ex} (I : ST G C d c) (J : SV G C d a) (L : SV G C d b) : SV G C d (.ite c a b) := fun kd ns x hm A F Y ρ σ Q s R hk S h => by
  replace hm := mE_i_ite hm
  obtain ⟨_, _, _, _, rfl, hm⟩ := hm
  · simp only [Bool.and_eq_true] at hm
    obtain ⟨⟨h1, h2⟩, h3⟩ := hm
    refine wpAny_IfExp (wpAny_mono (I kd ns _ h1 A F Y ρ σ (fun r σ' => if r then awE C a ρ σ' Q else awE C b ρ σ' Q) s R hk S h) (fun r s' q => ?_) fun _ _ f => f)
    obtain ⟨σ', S', e', q⟩ := q
    cases r with
    | true => rw [if_pos rfl] at q ⊢; exact wpAny_mono (J kd ns _ h2 A F Y ρ σ' Q s' R hk S' q) (fun v s'' q => Post.trans e' q) fun _ _ f => f
    | false => rw [if_neg Bool.false_ne_true] at q ⊢; exact wpAny_mono (L kd ns _ h3 A F Y ρ σ' Q s' R hk S' q) (fun v s'' q => Post.trans e' q) fun _ _ f => f
theorem st_ite {c a b : Ex} (I : ST G C d c) (J : ST G C d a) (L : ST G C d b) : ST G C d (.ite c a b) := fun kd ns x hm A F Y ρ σ Q s R hk S h => by
  replace hm := mE_i_ite hm
  obtain ⟨_, _, _, _, rfl, hm⟩ := hm
  · rename_i y l r p
    simp only [Bool.and_eq_true] at hm
    obtain ⟨⟨h1, h2⟩, h3⟩ := hm
    show wpAny _ _ (PySem.isTrue y F.env (eval y F.env) >>= fun t => if t then PySem.isTrue l F.env (eval l F.env) else PySem.isTrue r F.env (eval r F.env)) _ _ _
    refine wpAny_bind (wpAny_mono (I kd ns _ h1 A F Y ρ σ (fun r σ' => if r then awE C a ρ σ' (fun v σ' => wS (boolOf v) fun b => Q b σ') else awE C b ρ σ' (fun v σ' => wS (boolOf v) fun b => Q b σ')) s R hk S h) (fun r s' q => ?_) fun _ _ f => f)
    obtain ⟨σ', S', e', q⟩ := q
    cases r with
    | true => rw [if_pos rfl] at q ⊢; exact wpAny_mono (J kd ns _ h2 A F Y ρ σ' Q s' R hk S' q) (fun v s'' q => UPost.trans e' q) fun _ _ f => f
    | false => rw [if_neg Bool.false_ne_true] at q ⊢; exact wpAny_mono (L kd ns _ h3 A F Y ρ σ' Q s' R hk S' q) (fun v s'' q => UPost.trans e' q) fun _ _ f => f
theorem sv_bin {op : Operator} {a b : Ex} (I : SV G C d a) (J : SV G C d b) : SV G C d (.bin op a b) := fun kd ns x hm A F Y ρ σ Q s R hk S h => by
  replace hm := mE_i_bin hm
  obtain ⟨_, _, _, _, rfl, hm⟩ := hm
  · simp only [Bool.and_eq_true, beq_iff_eq] at hm
    obtain ⟨⟨rfl, h1⟩, h2⟩ := hm
    refine wpAny_BinOp ((I kd ns _ h1 A F Y ρ σ _ s R hk S h).then fun v s' av σ' S' e' r p => (J kd ns _ h2 A F Y ρ σ' _ s' R hk S' p).then fun w s'' aw σ'' S'' e'' r' q => ?_)
    exact wpAny_mono (o_bin S''.s0 (r.mv e''.mv) r' q) (fun c s₃ k => Post.trans (e'.trans e'') (DPost.post S'' k)) fun _ _ f => f
theorem subscripted_ops (slice : Expr) (o i : Value) : ∃ ops, subscripted slice false o i = operate ops (getItem o i) := by
  cases slice with
  | Slice a b c p => cases c <;> exact ⟨_, rfl⟩
  | _ => exact ⟨_, rfl⟩
theorem tail_seq {value slice : Expr} {A : Around} {E : Value → Shared → Prop} {s : Shared} {l : Addr} {i : Value} {Q : Value → Shared → Prop} (hl : s.TypeIs (.ref l) "list" ∨ s.TypeIs (.ref l) "tuple" ∨ s.TypeIs (.ref l) "dict")
    (h : wpAny (model G.prog G.w) A (getItem (.ref l) i) Q E s) : wpAny (model G.prog G.w) A (subscriptTail value slice (.ref l) i) Q E s := by
  obtain ⟨ops, e⟩ := subscripted_ops slice (.ref l) i
  rcases hl with hl | hl | hl
  · exact tail_any hl PySem.F.slot_list_getitem.lookup h e
  · exact tail_any hl PySem.F.slot_tuple_getitem.lookup h e
  · exact tail_any hl PySem.F.slot_dict_getitem.lookup h e
theorem idx_type {Y : AS} {σ : Sto} {s : Shared} {v : Value} {a i : AV} {Q : PyData → Prop} (O : S0 G Y σ s) (r : VA s.heap (Mu Y σ) v a) (h : idxQ σ a i Q) :
    ∃ l, v = .ref l ∧ (s.TypeIs (.ref l) "list" ∨ s.TypeIs (.ref l) "tuple" ∨ s.TypeIs (.ref l) "dict") := by
  cases h with
  | s e =>
    obtain ⟨l, vs, rfl, rv, hl | ⟨n, hl⟩⟩ := seq_rd O r e
    · exact ⟨l, rfl, .inl hl.typeIs⟩
    · exact ⟨l, rfl, .inr (.inl ⟨_, hl, rfl⟩)⟩
  | m e =>
    obtain ⟨l, rfl, _, _, vs, hm, _⟩ := rd_dict O r e
    exact ⟨l, rfl, .inr (.inr hm.typeIs)⟩
theorem sv_idx {a b : Ex} (I : SV G C d a) (J : SV G C d b) : SV G C d (.idx a b) := fun kd ns x hm A F Y ρ σ Q s R hk S h => by
  replace hm := mE_i_idx hm
  obtain ⟨_, _, _, rfl, hm⟩ := hm
  · simp only [Bool.and_eq_true] at hm
    obtain ⟨h1, h2⟩ := hm
    refine Subscript_ ((I kd ns _ h1 A F Y ρ σ _ s R hk S h).then fun v s' av σ' S' e' r p => (J kd ns _ h2 A F Y ρ σ' _ s' R hk S' p).then fun w s'' aw σ'' S'' e'' r' q => ?_)
    obtain ⟨l, rfl, ht⟩ := idx_type S''.s0 (r.mv e''.mv) q
    exact tail_seq ht (wpAny_mono (o_idx (A := A) S''.s0 (r.mv e''.mv) r' q) (fun c s₃ k => Post.trans (e'.trans e'') (DPost.post S'' k)) fun _ _ f => f)
theorem opt_ok {e : Ex} (I : SV G C d e) {kd : Kd} {ns : List Str} {o : Option Expr} (hm : (match o with | none => isNoneEx e | some z => mE false kd ns e z) = true) {A : Around} {F : Fm} {Y : AS} {ρ : Rho} {σ : Sto} {Q : AV → Sto → Prop} {s : Shared}
    (R : Rm A d) (hk : F.env.kindOf = kd) (S : St G Y F (mu ns ρ) σ s) (h : awE C e ρ σ Q) : Evs G Y F (mu ns ρ) A σ s (valueOrNone (evalOpt o F.env)) Q := by
  cases o with
  | none =>
    cases isNone_i hm
    show wpAny _ _ (pure Value.none) _ _ _
    exact wpAny_pure (.val S (av := .d .none) VR.none h)
  | some z => exact I kd ns z hm A F Y ρ σ Q s R hk S h
theorem sv_slc {lo hi st a : Ex} (I : SV G C d a) (J1 : SV G C d lo) (J2 : SV G C d hi) (J3 : SV G C d st) : SV G C d (.slc lo hi st a) := fun kd ns x hm A F Y ρ σ Q s R hk S h => by
  replace hm := mE_i_slc hm
  obtain ⟨_, _, _, _, _, _, rfl, hm⟩ := hm
  · rename_i l u v w p1 p2
    simp only [Bool.and_eq_true] at hm
    obtain ⟨⟨⟨h1, h2⟩, h3⟩, h4⟩ := hm
    refine Subscript_ ((I kd ns _ h1 A F Y ρ σ _ s R hk S h).then fun z s' av σ' S' e' r p => ?_)
    show wpAny _ _ (valueOrNone (evalOpt u F.env) >>= fun l => holding [l] (valueOrNone (evalOpt v F.env)) >>= fun u => holding [l, u] (valueOrNone (evalOpt w F.env)) >>= fun s => newFields "slice" [l, u, s]) _ _ _
    refine wpAny_bind ((opt_ok J1 h2 R hk S' p).then fun lv s₁ la σ₁ S₁ e₁ r₁ p => wpAny_bind (wpAny_holding ((opt_ok J2 h3 R hk S₁ p).then fun hv s₂ ha σ₂ S₂ e₂ r₂ p => wpAny_bind (wpAny_holding ((opt_ok J3 h4 R hk S₂ p).then fun tv s₃ ta σ₃ S₃ e₃ r₃ p => ?_)))))
    refine wpAny_newObj_type (T := "slice") ?_
    have g : Gw s₃ { s₃ with heap := s₃.heap.push { cls := .type "slice", dict := none, data := .fields ([lv, hv, tv] : List Value).toArray } } := .push _ _
    have ex : E0 σ σ₃ s s₃ := ((e'.trans e₁).trans e₂).trans e₃
    have rz := (((r.mv e₁.mv).mv e₂.mv).mv e₃.mv).mv g.mv
    have S₄ := S₃.gw g
    have ht : ∃ l, z = .ref l ∧ Shared.TypeIs { s₃ with heap := s₃.heap.push { cls := .type "slice", dict := none, data := .fields ([lv, hv, tv] : List Value).toArray } } (.ref l) "list" := by
      cases p with
      | mk e0 =>
        rw [e0] at rz
        obtain ⟨l, vs, n, rfl, hl, _⟩ := VR.lst_inv rz
        exact ⟨l, rfl, _, hl, rfl⟩
    obtain ⟨l, rfl, ht⟩ := ht
    refine tail_seq (.inl ht) (wpAny_mono (o_slc (A := A) S₄.s0 rz (Heap.IsSliceOf.new _ lv hv tv) (((r₁.mv e₂.mv).mv e₃.mv).mv g.mv) ((r₂.mv e₃.mv).mv g.mv) (r₃.mv g.mv) p) (fun c s₅ k => Post.trans (ex.trans (.gw g)) (DPost.post S₄ k)) fun _ _ f => f)
theorem isIns_some {a : AV} {l : Addr} (e : isIns a = some l) : a = .ins l := by cases a <;> cases e; rfl
theorem inF_some {σ : Sto} {a : Addr} {fs : List (Str × AV)} (e : inF σ a = some fs) : ∃ b, σ a = some (.inst b fs) := by
  replace e : (match σ a with | some (.inst _ fs) => some fs | _ => Option.none) = some fs := e
  cases q : σ a with
  | none => rw [q] at e; cases e
  | some o => rw [q] at e; cases o <;> cases e; exact ⟨_, rfl⟩
theorem inT_some {σ : Sto} {a : Addr} (e : inT σ a = some ()) : ∃ fs, σ a = some (.inst true fs) := by
  replace e : (match σ a with | some (.inst true _) => some () | _ => Option.none) = some () := e
  cases q : σ a with
  | none => rw [q] at e; cases e
  | some o =>
    rw [q] at e
    cases o with
    | inst b fs =>
      cases b with
      | true => exact ⟨_, rfl⟩
      | false => cases e
    | _ => cases e
theorem St.kin {Y : AS} {F : Fm} {μ : Env1} {σ : Sto} {s : Shared} (X : Cx G C d) (S : St G Y F μ σ s) : G.K.In s.heap := X.ok.kin.keeps S.s0.base
theorem sv_attr (X : Cx G C d) {n : Nat} {f : Str} : SV G C d (.attr n f) := fun kd ns x hm A F Y ρ σ Q s R hk S h => by
  replace hm := mE_i_attr hm
  obtain ⟨_, _, _, _, rfl, hm⟩ := hm
  · simp only [Bool.and_eq_true, beq_iff_eq] at hm
    obtain ⟨rfl, h2⟩ := hm
    obtain ⟨o, e1, h⟩ := wS_some h
    obtain ⟨v, e2, h⟩ := wS_some h
    refine Attribute_any_ (var_ok h2 hk S e1 e2 fun u r => ?_)
    replace h := wS_some h
    obtain ⟨a, e3, h⟩ := h
    obtain rfl := isIns_some e3
    replace h := wS_some h
    obtain ⟨fs, e4, h⟩ := h
    replace h := wS_some h
    obtain ⟨av, e5, h⟩ := h
    obtain ⟨b, e6⟩ := inF_some e4
    cases r
    obtain ⟨dx, es, k, sl, o1, o2, o3, o4⟩ := S.s0.objs a _ e6
    have o5 := o4 f
    rw [e5] at o5
    obtain ⟨c1, w, c2, c3, c4⟩ := o5
    obtain ⟨attr, k1, k2, k3, k4⟩ := X.at_ b f c1
    obtain ⟨m, fr⟩ := S.frame
    exact get_own fr X.ok.kin ⟨o1, rfl, rfl, o2⟩ k1 k2 k3 k4 c2 c3 (Post.tok _ S c4 h)
theorem list_meth {A : Around} {σ : Sto} {s : Shared} {Y : AS} {l : Addr} {xs : List PyData} {name : Str} {id : String} {pl : Sem Bool} {Q : Value × List Value → Shared → Prop} (O : S0 G Y σ s) (e : σ l = some (.list xs)) (h1 : Slot "list" name id)
    (h2 : typeOf (.builtin id) = pure (.type "method_descriptor")) (h : Q (.builtin id, [.ref l]) s) : wpAny (model G.prog G.w) A (getMethod (.ref l) name pl) Q NE s := by
  obtain ⟨vs, n, hl, _⟩ := O.objs l _ e
  exact getMethod_builtin ⟨_, hl, rfl⟩ PySem.F.plainAttrs_list h1 h2 (fun a e => by cases e; exact ⟨_, hl, rfl⟩) h
theorem methodEq {y g : Str} {p1 ap p : Pos} {xs : List Expr} {env : Env} (hp : ap.endLine = p.line) (hl : xs.length ≤ 20) (hs : (backTo p (starEach xs env)).all (!·.1) = true) :
    eval (.Call (.Attribute (.Name y p1) g ap) xs [] p) env = (do
      let ov ← eval (.Name y p1) env
      standAt ap.atName
      let (f, first) ← holding [ov] (getMethod ov g (do return (← importBound (.Name y p1) env).getD true))
      callWith p f first (backTo p (starEach xs env)) (backToKw p (keywordEach [] env))) := by
  have hf : methodCallForm (xs.length + 0) (backTo p (starEach xs env)) (backToKw p (keywordEach [] env)) = true := by
    unfold methodCallForm
    rw [hs]
    show (true && true && decide (xs.length + 0 + 0 < 30)) = true
    simp only [Bool.true_and, decide_eq_true_eq]; omega
  show (do
    let ov ← eval (.Name y p1) env
    standAt ap.atName
    methodCall (.Name y p1) g ap p env ov (xs.length + 0) (backTo p (starEach xs env)) (backToKw p (keywordEach [] env))) = _
  unfold methodCall
  rw [hf]
  unfold calleeOf methodCallPos
  simp [hp]
theorem sv_pop {n : Nat} : SV G C d (.pop n) := fun kd ns x hm A F Y ρ σ Q s R hk S h => by
  replace hm := mE_i_pop hm
  obtain ⟨_, _, _, _, _, rfl, hm⟩ := hm
  · simp only [Bool.and_eq_true, beq_iff_eq] at hm
    obtain ⟨⟨rfl, h2⟩, h3⟩ := hm
    obtain ⟨o, e1, h⟩ := wS_some h
    obtain ⟨v, e2, h⟩ := wS_some h
    refine methodCall_KW (var_ok h2 hk S e1 e2 fun u r => ?_) (methodEq h3 (by decide) rfl)
    replace h := wS_some h
    obtain ⟨a, e3, h⟩ := h
    obtain rfl := isLoc_some e3
    replace h := wS_some h
    obtain ⟨xs, e4, h⟩ := h
    replace h := wS_some h
    obtain ⟨x, e5, h6, h7⟩ := h
    cases r
    have e4 := lsO_some e4
    exact list_meth S.s0 e4 PySem.F.slot_list_pop PySem.F.type_list_pop (o_pop S e4 e5 h6 h7)
theorem star_all : ∀ {t : Bool} {kd : Kd} {ns : List Str} {es : Exs} {xs : List Expr} (env : Env) (p : Pos), mEs t kd ns es xs = true → (backTo p (starEach xs env)).any (·.1) = false
  | _, _, _, .nil, [], _, _, _ => rfl
  | _, _, _, .nil, _ :: _, _, _, h => by cases h
  | _, _, _, .cons _ _, [], _, _, h => by cases h
  | t, kd, ns, .cons e es, x :: xs, env, p, h => by
    replace h : (mE t kd ns e x && mEs t kd ns es xs) = true := h
    simp only [Bool.and_eq_true] at h
    rw [star_of h.1]
    show (false || (backTo p (starEach xs env)).any (·.1)) = false
    rw [star_all env p h.2]; rfl
theorem back_one {t : Bool} {kd : Kd} {ns : List Str} {e : Ex} {x : Expr} (env : Env) (p : Pos) (h : mE t kd ns e x = true) : backTo p (starEach [x] env) = [(false, eval x env)] := by
  rw [star_of h]; rfl
theorem back_two {t : Bool} {kd : Kd} {ns : List Str} {e e' : Ex} {x y : Expr} (env : Env) (p : Pos) (h : mE t kd ns e x = true) (h' : mE t kd ns e' y = true) : backTo p (starEach [x, y] env) = [(false, eval x env), (false, eval y env)] := by
  rw [star_of h, star_of h']; rfl
theorem sv_app {n : Nat} {e : Ex} (I : SV G C d e) : SV G C d (.app n e) := fun kd ns x hm A F Y ρ σ Q s R hk S h => by
  replace hm := mE_i_app hm
  obtain ⟨_, _, _, _, _, _, rfl, hm⟩ := hm
  · simp only [Bool.and_eq_true, beq_iff_eq] at hm
    obtain ⟨⟨⟨rfl, h2⟩, h3⟩, h4⟩ := hm
    obtain ⟨o, e1, h⟩ := wS_some h
    obtain ⟨v, e2, h⟩ := wS_some h
    refine methodCall_KW (var_ok h2 hk S e1 e2 fun u r => ?_) (methodEq h4 (Nat.le_of_ble_eq_true rfl) (by rw [back_one F.env _ h3]; rfl))
    replace h := wS_some h
    obtain ⟨a, e3, h⟩ := h
    obtain rfl := isLoc_some e3
    replace h := wS_some h
    obtain ⟨xs, e4, h⟩ := h
    cases r
    have e4 := lsO_some e4
    refine list_meth S.s0 e4 PySem.F.slot_list_append PySem.F.type_list_append ?_
    rw [back_one F.env _ h3]
    exact o_app S (I kd ns _ h3 A F Y ρ σ _ s R hk S h) fun w σ' p => p
theorem sv_ext {n : Nat} {e : Ex} (I : SV G C d e) : SV G C d (.ext n e) := fun kd ns x hm A F Y ρ σ Q s R hk S h => by
  replace hm := mE_i_ext hm
  obtain ⟨_, _, _, _, _, _, rfl, hm⟩ := hm
  · simp only [Bool.and_eq_true, beq_iff_eq] at hm
    obtain ⟨⟨⟨rfl, h2⟩, h3⟩, h4⟩ := hm
    obtain ⟨o, e1, h⟩ := wS_some h
    obtain ⟨v, e2, h⟩ := wS_some h
    refine methodCall_KW (var_ok h2 hk S e1 e2 fun u r => ?_) (methodEq h4 (Nat.le_of_ble_eq_true rfl) (by rw [back_one F.env _ h3]; rfl))
    replace h := wS_some h
    obtain ⟨a, e3, h⟩ := h
    obtain rfl := isLoc_some e3
    replace h := wS_some h
    obtain ⟨xs, e4, h⟩ := h
    cases r
    have e4 := lsO_some e4
    refine list_meth S.s0 e4 PySem.F.slot_list_extend PySem.F.type_list_extend ?_
    rw [back_one F.env _ h3]
    exact o_ext S (I kd ns _ h3 A F Y ρ σ _ s R hk S h) fun w σ' p => p
theorem sv_get {n : Nat} {k e : Ex} (I : SV G C d k) (J : SV G C d e) : SV G C d (.get n k e) := fun kd ns x hm A F Y ρ σ Q s R hk S h => by
  replace hm := mE_i_get hm
  obtain ⟨_, _, _, _, _, _, _, rfl, hm⟩ := hm
  · simp only [Bool.and_eq_true, beq_iff_eq] at hm
    obtain ⟨⟨⟨⟨rfl, h2⟩, h3⟩, h3'⟩, h4⟩ := hm
    obtain ⟨o, e1, h⟩ := wS_some h
    obtain ⟨v, e2, h⟩ := wS_some h
    refine methodCall_KW (var_ok h2 hk S e1 e2 fun u r => ?_) (methodEq h4 (Nat.le_of_ble_eq_true rfl) (by rw [back_two F.env _ h3 h3']; rfl))
    replace h := wS_some h
    obtain ⟨a, e3, h⟩ := h
    obtain rfl := isLoc_some e3
    replace h := wS_some h
    obtain ⟨kvs, e4, h⟩ := h
    cases r
    obtain ⟨l, e5, _, _, vs, hm', _, hd⟩ := rd_dict (v := .ref a) (a := .loc a) S.s0 rfl e4
    cases e5
    refine getMethod_builtin hm'.typeIs PySem.F.plainAttrs_dict PySem.F.slot_dict_get PySem.F.type_dict_get (fun a e => ?_) ?_
    · cases e
      obtain ⟨o, es, ep, ho, hx, _⟩ := hm'
      exact ⟨o, ho, hx.2.1⟩
    · rw [back_two F.env _ h3 h3']
      exact o_get S hd (I kd ns _ h3 A F Y ρ σ _ s R hk S h) fun w σ' s' v S' r p => J kd ns _ h3' A F Y ρ σ' _ s' R hk S' p
theorem CallOk.st {A : Around} {f : Str} {fv : Value} (h : CallOk G A C f fv) {F : Fm} {Y : AS} {μ : Env1} {σ : Sto} {s : Shared} {vs : List Value} {args : List AV} {Q : AV → Sto → Prop} (S : St G Y F μ σ s) (r : VAs s.heap (Mu Y σ) vs args) (q : C f args σ Q) :
    wpAny (model G.prog G.w) A (call fv vs) (Post G Y F μ σ s Q) NE s :=
  wpAny_mono (h Y σ s vs args Q S.s0 r q) (fun v s' ⟨av, σ', S', e', r', q'⟩ => ⟨av, σ', S.over S' e', e', r', q'⟩) fun _ _ f => f
theorem glob_ok (X : Cx G C d) {kd : Kd} {f y : Str} {A : Around} {F : Fm} {Y : AS} {μ : Env1} {σ : Sto} {s : Shared} {pos : Pos} {Q : Value → Shared → Prop} (h : okG kd f y = true) (hk : F.env.kindOf = kd) (S : St G Y F μ σ s)
    (hf : f ∈ fnNames) (k : Q (.ref (G.fn f)) s) : wpAny (model G.prog G.w) A (eval (.Name y pos) F.env) Q NE s := by
  subst hk
  unfold okG at h
  simp only [Bool.and_eq_true, Bool.not_eq_true', beq_iff_eq] at h
  obtain ⟨⟨rfl, h2⟩, h3⟩ := h
  refine Name_function_global S.ok.kind h2 (loadGlobal_global (mg := G.mg) ?_ (mg_of (S.kin X) ?_ (X.gl y hf).1) k) h3
  · rw [S.ok.glb]; exact X.ok.top.g.keeps S.s0.base
  · exact X.ok.top.g.keeps S.s0.base
theorem built_ok (X : Cx G C d) {kd : Kd} {f y : Str} {fv : Value} {A : Around} {F : Fm} {Y : AS} {μ : Env1} {σ : Sto} {s : Shared} {pos : Pos} {Q : Value → Shared → Prop} (h : okG kd f y = true) (hk : F.env.kindOf = kd) (S : St G Y F μ σ s)
    (hf : f ∈ allNames) (hb : bootBuiltins f = some fv) (k : Q fv s) : wpAny (model G.prog G.w) A (eval (.Name y pos) F.env) Q NE s := by
  subst hk
  unfold okG at h
  simp only [Bool.and_eq_true, Bool.not_eq_true', beq_iff_eq] at h
  obtain ⟨⟨rfl, h2⟩, h3⟩ := h
  have hn : y ≠ ("__name__" : Str) := by
    rintro rfl
    revert hf; decide +kernel
  refine Name_function_global S.ok.kind h2 (loadGlobal_builtin (mg := G.mg) (mb := G.mb) ?_ (mg_none_of (S.kin X) ?_ (X.bn y hf)) ?_ ((X.ok.top.builtins y hn).trans hb) k) h3
  · rw [S.ok.glb]; exact X.ok.top.g.keeps S.s0.base
  · exact X.ok.top.g.keeps S.s0.base
  · rw [S.ok.blt]; exact X.ok.top.b.keeps S.s0.base
theorem ev_args {M : Model} {A : Around} {s : Shared} {f : Value} {ts : List (Bool × Sem Value)} {Q : Args → Shared → Prop} (ha : ts.any (·.1) = false)
    (h : wpAny M A (spliced ts) (fun vs s₁ => Q ⟨vs, []⟩ s₁) NE s) : wpAny M A (evalArgs f true ts []) Q NE s := by
  cases ts with
  | nil =>
    unfold evalArgs
    show wpAny M A (spliced [] >>= _) Q NE s
    refine wpAny_bind (wpAny_mono h (fun vs s' h' => wpAny_bind (wpAny_pure ?_)) fun _ _ x => x)
    refine wpAny_holding ?_
    exact wpAny_bind (wpAny_pure (wpAny_bind (wpAny_pure (wpAny_pure h'))))
  | cons t ts =>
    obtain ⟨st, t⟩ := t
    simp only [List.any_cons, Bool.or_eq_false_iff] at ha
    obtain ⟨rfl, _⟩ := ha
    exact evalArgs_plain h
theorem spl_args {M : Model} {A : Around} {s : Shared} {env : Env} {pos : Pos} {f : Value} {first : List Value} {xs : List Expr} {P : Heap → Prop} {Q : Value → Shared → Prop} (ha : (backTo pos (starEach xs env)).any (·.1) = false)
    (hk : ∀ h, P h → ∃ k, (k = Keeper.frame ∨ k = Keeper.machine ∨ k = Keeper.boundFrame) ∧ Looks M h (keeperOf f) k)
    (h : wpAny M A (spliced (backTo pos (starEach xs env))) (fun vs s₁ => P s₁.heap ∧ wpAny M A (call f (first ++ vs)) Q NE s₁) NE s) : wpAny M A (callWith pos f first (backTo pos (starEach xs env)) []) Q NE s :=
  callWith_of (by rw [ha]; rfl) hk (ev_args ha h)
theorem sv_call (X : Cx G C d) {f : Str} {args : Exs} (J : SVs G C d args) : SV G C d (.call f args) := fun kd ns x hm A F Y ρ σ Q s R hk S h => by
  replace hm := mE_i_call hm
  obtain ⟨_, _, _, _, rfl, hm⟩ := hm
  · rename_i y p1 xs p
    simp only [Bool.and_eq_true] at hm
    obtain ⟨⟨h0, h1⟩, h2⟩ := hm
    have hf := List.contains_iff_mem.mp h0
    obtain ⟨g1, g2, g3⟩ := X.gl f hf
    refine Call_Name rfl (glob_ok X h1 hk S hf ?_)
    refine spl_args (P := fun h => G.K.In h) (star_all F.env p h2) (keeps_K g2) (wpAny_mono (J kd ns xs h2 A F Y ρ σ _ s p R hk S h) (fun vs s' q => ?_) fun _ _ f => f)
    obtain ⟨hl, avs, σ', S', e', r, q⟩ := q
    exact ⟨S'.kin X, wpAny_mono ((g3 A R).st S' r q) (fun v s'' q => Post.trans e' q) fun _ _ f => f⟩
theorem sv_meth (X : Cx G C d) {n : Nat} {m : Str} {args : Exs} (J : SVs G C d args) : SV G C d (.meth n m args) := fun kd ns x hm A F Y ρ σ Q s R hk S h => by
  replace hm := mE_i_meth hm
  obtain ⟨_, _, _, _, _, _, rfl, hm⟩ := hm
  · rename_i y p1 g ap xs p
    simp only [Bool.and_eq_true, beq_iff_eq, decide_eq_true_eq] at hm
    obtain ⟨⟨⟨⟨⟨⟨h0, rfl⟩, h1⟩, h2⟩, _⟩, h3⟩, h4⟩ := hm
    have hf := List.contains_iff_mem.mp h0
    obtain ⟨g0, g1, g2, g3, g4, g5⟩ := X.me m hf
    obtain ⟨o, e1, h⟩ := wS_some h
    obtain ⟨v, e2, h⟩ := wS_some h
    have hall : (backTo p (starEach xs F.env)).all (!·.1) = true := by
      have := star_all F.env p h2
      rw [List.any_eq_false] at this
      rw [List.all_eq_true]
      intro x hx; simpa using this x hx
    refine methodCall_KW (var_ok h1 hk S e1 e2 fun u r => ?_) (methodEq h3 h4 hall)
    replace h := wS_some h
    obtain ⟨a, e3, h⟩ := h
    obtain rfl := isIns_some e3
    replace h := wS_some h
    obtain ⟨_, e4, h⟩ := h
    obtain ⟨fs, e5⟩ := inT_some e4
    cases r
    obtain ⟨dx, es, k, sl, o1, o2, o3, o4⟩ := S.s0.objs a _ e5
    have o5 := o4 m
    obtain ⟨mm, fr⟩ := S.frame
    have e6 : getL m es = some none := by
      cases e7 : fs.lookup m with
      | none => rw [e7] at o5; exact o5.2
      | some av => rw [e7] at o5; rw [g0] at o5; cases o5.1
    refine method_inst fr X.ok.kin ⟨o1, rfl, rfl, o2⟩ g1 g2 g3 e6 ?_
    refine spl_args (P := fun h => G.K.In h) (star_all F.env p h2) (keeps_K g4) (wpAny_mono (J kd ns xs h2 A F Y ρ σ _ s p R hk S h) (fun vs s' q => ?_) fun _ _ f => f)
    obtain ⟨hl, avs, σ', S', e', r, q⟩ := q
    exact ⟨S'.kin X, wpAny_mono ((g5 A R).st S' (.cons (d := .ins a) rfl r) q) (fun v s'' q => Post.trans e' q) fun _ _ f => f⟩
theorem bi_boot (f : BI) : bootBuiltins (biName f) = some (biVal f) ∧ biName f ∈ allNames := by
  cases f <;> exact ⟨by decide +kernel, by decide +kernel⟩
theorem sv_bi (X : Cx G C d) {f : BI} {args : Exs} (J : SVs G C d args) : SV G C d (.bi f args) := fun kd ns x hm A F Y ρ σ Q s R hk S h => by
  replace hm := mE_i_bi hm
  obtain ⟨_, _, _, _, rfl, hm⟩ := hm
  · rename_i y p1 xs p
    simp only [Bool.and_eq_true] at hm
    obtain ⟨⟨h1, h2⟩, _⟩ := hm
    refine Call_Name rfl (built_ok X h1 hk S (bi_boot f).2 (bi_boot f).1 ?_)
    have J' := wpAny_mono (Q' := fun vs s' => wpAny (model G.prog G.w) A (call (biVal f) vs) (Post G Y F (mu ns ρ) σ s Q) NE s') (J kd ns xs h2 A F Y ρ σ _ s p R hk S h) (fun vs s' q => by
      obtain ⟨hl, avs, σ', S', e', r, q⟩ := q
      exact wpAny_mono (o_bi R X.ok S' r q) (fun v s'' q => Post.trans e' q) fun _ _ f => f) fun _ _ f => f
    have ha := star_all F.env p h2
    cases f <;> first | exact callWith_builtin ha (ev_args ha J') | exact PyProof.Rows.callWith_type ha (ev_args ha J')
theorem sv_fcall {f : Str} {args : Exs} (I : SV G C d (.call f args)) : SV G C d (.fcall f args) := fun kd ns x hm A F Y ρ σ Q s R hk S h => by
  have hm : mE false kd ns (.call f args) x = true := hm
  refine wpAny_mono (I kd ns x hm A F Y ρ σ (fun v σ' => wS (isLoc v) fun a => wS (lsO σ' a) fun xs => Q (.d (.list xs)) (scut σ' a)) s R hk S h) (fun v s' q => ?_) fun _ _ f => f
  obtain ⟨av, σ', S', e', r, q⟩ := q
  replace q := wS_some q
  obtain ⟨a, e1, q⟩ := q
  obtain rfl := isLoc_some e1
  replace q := wS_some q
  obtain ⟨xs, e2, q⟩ := q
  have e2 := lsO_some e2
  cases r
  obtain ⟨vs, n, hl, rv⟩ := S'.s0.objs a _ e2
  have L : Le (scut σ' a) σ' := Le.cut a
  refine ⟨_, _, S'.over (S'.s0.le L) (.le L), e'.trans (.le L), ?_, q⟩
  refine VR.lst hl ?_ (rv.mv (L.mv _))
  rintro (h | h)
  · have := S'.s0.sep a h; rw [e2] at this; cases this
  · exact h scut_self
end
section
variable {G : Wd} {Y Y' : AS} {F : Fm} {μ : Env1} {σ : Sto} {s : Shared} {h' : Heap} {fp : AS}
theorem S0.leave (S : S0 G Y' σ s) (tk : Nat) (sub : ∀ a, Y a → Y' a) (tp : Y G.tp) (off : ∀ a, fp a → Y' a ∧ ¬ Y a) (k : ∀ b o, ¬ fp b → s.heap.get? b = some o → h'.get? b = some o) : S0 G Y σ { s with heap := h', toks := tk } := by
  have hσ : ∀ a, σ a ≠ none → ¬ fp a := fun a h f => h (S.sep a (off a f).1)
  have mv : Mv (Mu Y' σ) (Mu Y σ) s.heap h' := fun b o hm hb => ⟨k b o (fun f => hm (.inl (off b f).1)) hb, fun m => hm (m.elim (fun y => .inl (sub b y)) .inr)⟩
  refine ⟨?_, tp, fun b o e => ?_, fun a m => ?_, fun a y => S.sep a (sub a y), fun a o e => ?_⟩
  · obtain ⟨h, t, e⟩ := S.rest
    exact ⟨h', tk, by rw [e]⟩
  · refine k b o (fun f => ?_) (S.base b o e)
    have := (S.live b (.inl (off b f).1)).1
    rw [this] at e; cases e
  · have m' : Mu Y' σ a := m.elim (fun y => .inl (sub a y)) .inr
    obtain ⟨h1, o, h2⟩ := S.live a m'
    exact ⟨h1, o, k a o (m.elim (fun y f => (off a f).2 y) (hσ a)) h2⟩
  · exact (S.objs a o e).mv mv fun ob hb => k a ob (hσ a (some_ne e)) hb
theorem S0.enter (S : S0 G Y σ s) (tk : Nat) (sub : ∀ a, Y a → Y' a) (k : ∀ b o, s.heap.get? b = some o → h'.get? b = some o) (new : ∀ a, Y' a → Y a ∨ (s.heap.get? a = none ∧ ∃ o, h'.get? a = some o)) : S0 G Y' σ { s with heap := h', toks := tk } := by
  have hσ : ∀ a, Y' a → σ a = none := fun a y => (new a y).elim (S.sep a) fun f => (S.fresh f.1).2.1
  have mv : Mv (Mu Y σ) (Mu Y' σ) s.heap h' := fun b o hm hb => ⟨k b o hb, fun m => hm (m.elim (fun y => (new b y).elim .inl fun f => by rw [f.1] at hb; cases hb) .inr)⟩
  refine ⟨?_, sub _ S.tpY, fun b o e => k b o (S.base b o e), fun a m => ?_, hσ, fun a o e => (S.objs a o e).mv mv fun ob hb => k a ob hb⟩
  · obtain ⟨h, t, e⟩ := S.rest
    exact ⟨h', tk, by rw [e]⟩
  · have old : Mu Y σ a → _ := fun m => let ⟨h1, o, h2⟩ := S.live a m; (⟨h1, o, k a o h2⟩ : G.s0.heap.get? a = none ∧ ∃ o, h'.get? a = some o)
    rcases m with y | y
    · rcases new a y with y | ⟨f, o⟩
      · exact old (.inl y)
      · exact ⟨(S.fresh f).2.2, o⟩
    · exact old (.inr y)
theorem S0.privs (S : S0 G Y σ s) (tk : Nat) (sub : ∀ a, fp a → Y a) (k : ∀ b o, ¬ fp b → s.heap.get? b = some o → h'.get? b = some o) (al : ∀ a, fp a → ∃ o, h'.get? a = some o) : S0 G Y σ { s with heap := h', toks := tk } := by
  have hσ : ∀ a, σ a ≠ none → ¬ fp a := fun a h f => h (S.sep a (sub a f))
  have mv : Mv (Mu Y σ) (Mu Y σ) s.heap h' := fun b o hm hb => ⟨k b o (fun f => hm (.inl (sub b f))) hb, hm⟩
  refine ⟨?_, S.tpY, fun b o e => ?_, fun a m => ?_, S.sep, fun a o e => (S.objs a o e).mv mv fun ob hb => k a ob (hσ a (some_ne e)) hb⟩
  · obtain ⟨h, t, e⟩ := S.rest
    exact ⟨h', tk, by rw [e]⟩
  · refine k b o (fun f => ?_) (S.base b o e)
    have := (S.live b (.inl (sub b f))).1
    rw [this] at e; cases e
  · obtain ⟨h1, o, h2⟩ := S.live a m
    refine ⟨h1, ?_⟩
    by_cases f : fp a
    · exact al a f
    · exact ⟨o, k a o f h2⟩
structure OffF (F : Fm) (fp : AS) : Prop where
  loc : ¬ fp F.env.locals
  cel : ∀ x c, F.env.cells.lookup x = some c → ¬ fp c
  fr : ∀ a, F.fr a → ¬ fp a
theorem St.privs (S : St G Y F μ σ s) (tk : Nat) (sub : ∀ a, fp a → Y a) (off : OffF F fp) (k : ∀ b o, ¬ fp b → s.heap.get? b = some o → h'.get? b = some o) (al : ∀ a, fp a → ∃ o, h'.get? a = some o) : St G Y F μ σ { s with heap := h', toks := tk } := by
  have mv : Mv (Mu Y σ) (Mu Y σ) s.heap h' := fun b o hm hb => ⟨k b o (fun f => hm (.inl (sub b f))) hb, hm⟩
  refine ⟨S.s0.privs tk sub k al, S.frY, S.ok, S.above, ?_, fun x c hc => ?_⟩
  · obtain ⟨m, hn, hv⟩ := S.ns
    exact ⟨m, hn.at' fun o e => k _ o off.loc e, fun x av h1 h2 => let ⟨v, e, r⟩ := hv x av h1 h2; ⟨v, e, r.mv mv⟩⟩
  · obtain ⟨ov, ⟨o, ho, hd⟩, hv⟩ := S.cel x c hc
    exact ⟨ov, ⟨o, k c o (off.cel x c hc) ho, hd⟩, fun av h1 h2 => let ⟨v, e, r⟩ := hv av h1 h2; ⟨v, e, r.mv mv⟩⟩
theorem St.enter (S : St G Y F μ σ s) (tk : Nat) (sub : ∀ a, Y a → Y' a) (k : ∀ b o, s.heap.get? b = some o → h'.get? b = some o) (new : ∀ a, Y' a → Y a ∨ (s.heap.get? a = none ∧ ∃ o, h'.get? a = some o)) : St G Y' F μ σ { s with heap := h', toks := tk } := by
  have mv : Mv (Mu Y σ) (Mu Y' σ) s.heap h' := fun b o hm hb => ⟨k b o hb, fun m => hm (m.elim (fun y => (new b y).elim .inl fun f => by rw [f.1] at hb; cases hb) .inr)⟩
  refine ⟨S.s0.enter tk sub k new, fun a f => sub a (S.frY a f), S.ok, S.above, ?_, fun x c hc => ?_⟩
  · obtain ⟨m, hn, hv⟩ := S.ns
    exact ⟨m, hn.at' fun o e => k _ o e, fun x av h1 h2 => let ⟨v, e, r⟩ := hv x av h1 h2; ⟨v, e, r.mv mv⟩⟩
  · obtain ⟨ov, ⟨o, ho, hd⟩, hv⟩ := S.cel x c hc
    exact ⟨ov, ⟨o, k c o ho, hd⟩, fun av h1 h2 => let ⟨v, e, r⟩ := hv av h1 h2; ⟨v, e, r.mv mv⟩⟩
theorem St.leave (S : St G Y' F μ σ s) (tk : Nat) (sub : ∀ a, Y a → Y' a) (tp : Y G.tp) (frY : ∀ a, F.fr a → Y a) (off : ∀ a, fp a → Y' a ∧ ¬ Y a) (of : OffF F fp) (k : ∀ b o, ¬ fp b → s.heap.get? b = some o → h'.get? b = some o) :
    St G Y F μ σ { s with heap := h', toks := tk } := by
  have mv : Mv (Mu Y' σ) (Mu Y σ) s.heap h' := fun b o hm hb => ⟨k b o (fun f => hm (.inl (off b f).1)) hb, fun m => hm (m.elim (fun y => .inl (sub b y)) .inr)⟩
  refine ⟨S.s0.leave tk sub tp off k, frY, S.ok, S.above, ?_, fun x c hc => ?_⟩
  · obtain ⟨m, hn, hv⟩ := S.ns
    exact ⟨m, hn.at' fun o e => k _ o of.loc e, fun x av h1 h2 => let ⟨v, e, r⟩ := hv x av h1 h2; ⟨v, e, r.mv mv⟩⟩
  · obtain ⟨ov, ⟨o, ho, hd⟩, hv⟩ := S.cel x c hc
    exact ⟨ov, ⟨o, k c o (of.cel x c hc) ho, hd⟩, fun av h1 h2 => let ⟨v, e, r⟩ := hv av h1 h2; ⟨v, e, r.mv mv⟩⟩
end
structure Itr (G : Wd) (A : Around) (tgt : Expr) (I : Addr) (fp : AS) (xs : List PyData) (It : Nat → Heap → AS → Prop) : Prop where
  frame : ∀ i h h' M M', It i h M → (∀ b o, fp b → h.get? b = some o → h'.get? b = some o) → Mv M M' h h' → It i h' M'
  live : ∀ i h M, It i h M → ∀ b, fp b → ∃ o, h.get? b = some o
  next : ∀ i (s : Shared) M x (Q : Value → Shared → Prop), xs[i]? = some x → It i s.heap M → (∀ b, fp b → M b) → (∀ b, M b → ∃ o, s.heap.get? b = some o) →
    (∀ v h' tk, VR h' M v x → It (i + 1) h' M → (∀ b o, ¬ fp b → s.heap.get? b = some o → h'.get? b = some o) → Q v { s with heap := h', toks := tk }) →
    wpAny (model G.prog G.w) A (pyNext (.ref I)) (fun r s₁ => ∃ v, r = some v ∧ wpAny (model G.prog G.w) A (letOwnedTupleGo tgt (.ref I) v) (fun _ s₂ => Q v s₂) NE s₁) NE s
  done : ∀ (s : Shared) M (Q : Shared → Prop), It xs.length s.heap M → (∀ h' tk, (∀ b o, ¬ fp b → s.heap.get? b = some o → h'.get? b = some o) → Q { s with heap := h', toks := tk }) →
    wpAny (model G.prog G.w) A (pyNext (.ref I)) (fun r s₁ => r = none ∧ Q s₁) NE s
  self : ∀ i (s : Shared) M (Q : Value → Shared → Prop), It i s.heap M → Q (.ref I) s → wpAny (model G.prog G.w) A (pyIter (.ref I)) Q NE s
inductive tgtOk : Expr → Prop
  | n (x : Str) (p : Pos) : tgtOk (.Name x p)
  | t (es : List Expr) (k : Nat) (p : Pos) : tgtOk (.Tuple es k p)
section
variable {G : Wd} {A : Around} {s : Shared}
theorem go_list {tgt : Expr} {I l : Addr} {i : Nat} {v : Value} {Q : Unit → Shared → Prop} (ht : tgtOk tgt) (hit : s.heap.IsListIter I l i) (h : Q () s) : wpAny (model G.prog G.w) A (letOwnedTupleGo tgt (.ref I) v) Q NE s := by
  cases ht with
  | n => exact wpAny_pure h
  | t =>
    cases v with
    | ref T => exact wpAny_letOwnedTupleGo_listiter hit h
    | _ => exact wpAny_pure h
theorem itr_list {tgt : Expr} (hh : A.handled = none) (ht : tgtOk tgt) (I ax : Addr) (vs : List Value) (n : Nat) (xs : List PyData) :
    Itr G A tgt I (fun b => b = I) xs (fun i h M => h.IsListIter I ax i ∧ IsL h ax vs.toArray n ∧ ¬ M ax ∧ VRs h M vs xs) where
  frame := fun i h h' M M' ⟨h1, h2, h3, h4⟩ k mv => ⟨h1.at fun o e => k I o rfl e, (mv _ _ h3 h2).1, (mv _ _ h3 h2).2, h4.mv mv⟩
  live := fun i h M ⟨⟨o, e, _⟩, _⟩ b hb => hb ▸ ⟨o, e⟩
  next := fun i s M x Q hx ⟨h1, h2, h3, h4⟩ hM hal hQ => by
    obtain ⟨v, hv, rv⟩ := h4.get hx
    have hne : ax ≠ I := fun e => h3 (hM ax e)
    refine wpAny_pyNext_list_item h1 ⟨_, h2, rfl, n, rfl⟩ (x := v) (by simpa using hv) fun h' hit hs => ⟨v, rfl, go_list (s := { s with heap := h' }) ht hit ?_⟩
    have k : ∀ b o, ¬ b = I → s.heap.get? b = some o → h'.get? b = some o := fun b o hb e => hs.extBut b o hb e
    have mv : Mv M M s.heap h' := fun b o hm hb => ⟨k b o (fun e => hm (hM b e)) hb, hm⟩
    exact hQ v h' s.toks (rv.mv mv) ⟨hit, k _ _ hne h2, h3, h4.mv mv⟩ k
  done := fun s M Q ⟨h1, h2, h3, h4⟩ hQ => by
    refine wpAny_pyNext_list_end hh h1 ⟨_, h2, rfl, n, rfl⟩ (by simp [h4.length]) fun h' he => ⟨rfl, hQ h' s.toks fun b o hb e => he b o hb e⟩
  self := fun i s M Q ⟨h1, _⟩ h => wpAny_pyIter_listiter h1 h
theorem go_ref {tgt : Expr} {I : Addr} {v : Value} {Q : Unit → Shared → Prop} {o : Obj} {T : String} {fs : Array Value} (ht : tgtOk tgt) (ho : s.heap.get? I = some o) (hc : o.cls = .type T) (hd : o.data = .fields fs)
    (hT : (["enumerate", "zip", "dict_itemiterator", "dict_reverseitemiterator", "odict_iterator", "itertools.zip_longest", "itertools.pairwise"] : List String).contains T = false) (h : Q () s) : wpAny (model G.prog G.w) A (letOwnedTupleGo tgt (.ref I) v) Q NE s := by
  cases ht with
  | n => exact wpAny_pure h
  | t =>
    cases v with
    | ref a =>
      unfold letOwnedTupleGo
      refine wpAny_bind (wpAny_load ho ?_)
      rw [hc, hd]
      show wpAny _ A (if (["enumerate", "zip", "dict_itemiterator", "dict_reverseitemiterator", "odict_iterator", "itertools.zip_longest", "itertools.pairwise"].contains T && fs[0]? == some (rawInt a)) = true then _ else _) Q NE s
      rw [if_neg (by rw [hT, Bool.false_and]; exact Bool.false_ne_true)]
      exact wpAny_pure h
    | _ => exact wpAny_pure h
theorem itr_tup {tgt : Expr} (hh : A.handled = none) (ht : tgtOk tgt) (I ax : Addr) (vs : List Value) (n : Nat) (xs : List PyData) :
    Itr G A tgt I (fun b => b = I) xs (fun i h M => h.IsTupleIter I ax i ∧ IsT h ax vs.toArray n ∧ ¬ M ax ∧ VRs h M vs xs) where
  frame := fun i h h' M M' ⟨h1, h2, h3, h4⟩ k mv => ⟨h1.at fun o e => k I o rfl e, (mv _ _ h3 h2).1, (mv _ _ h3 h2).2, h4.mv mv⟩
  live := fun i h M ⟨⟨o, e, _⟩, _⟩ b hb => hb ▸ ⟨o, e⟩
  next := fun i s M x Q hx ⟨h1, h2, h3, h4⟩ hM hal hQ => by
    obtain ⟨v, hv, rv⟩ := h4.get hx
    have hne : ax ≠ I := fun e => h3 (hM ax e)
    refine wpAny_pyNext_tuple_item h1 ⟨_, h2, rfl, n, rfl⟩ (x := v) (by simpa using hv) fun h' hit hs => ⟨v, rfl, ?_⟩
    obtain ⟨oi, hoi, hci, hdi⟩ := id hit
    refine go_ref (s := { s with heap := h' }) ht hoi hci hdi (by decide) ?_
    have k : ∀ b o, ¬ b = I → s.heap.get? b = some o → h'.get? b = some o := fun b o hb e => hs.extBut b o hb e
    have mv : Mv M M s.heap h' := fun b o hm hb => ⟨k b o (fun e => hm (hM b e)) hb, hm⟩
    exact hQ v h' s.toks (rv.mv mv) ⟨hit, k _ _ hne h2, h3, h4.mv mv⟩ k
  done := fun s M Q ⟨h1, h2, h3, h4⟩ hQ => by
    refine wpAny_pyNext_tuple_end hh h1 ⟨_, h2, rfl, n, rfl⟩ (by simp [h4.length]) fun h' he => ⟨rfl, hQ h' s.toks fun b o hb e => he b o hb e⟩
  self := fun i s M Q ⟨h1, _⟩ h => wpAny_pyIter_tupleiter h1 h
theorem itr_range {tgt : Expr} (hh : A.handled = none) (ht : tgtOk tgt) (I : Addr) (n : Nat) :
    Itr G A tgt I (fun b => b = I) ((List.range n).map fun (i : Nat) => PyData.int i) (fun i h M => IsRangeIter h I (i : Nat) ((n : Int) - (i : Nat)) 1) where
  frame := fun i h h' M M' h1 k mv => k I _ rfl h1
  live := fun i h M h1 b hb => hb ▸ ⟨_, h1⟩
  next := fun i s M x Q hx h1 hM hal hQ => by
    have hi : i < n := by
      have := (List.getElem?_eq_some_iff.mp hx).1
      simpa using this
    have hx' : x = .int (i : Nat) := by
      rw [List.getElem?_map, List.getElem?_range hi] at hx
      exact (Option.some.inj hx).symm
    subst hx'
    refine wpAny_pyNext_range_item h1 (by omega) fun h' hit hs => ⟨_, rfl, go_ref (s := { s with heap := h', toks := s.toks + 1 }) ht hit rfl rfl (by decide) ?_⟩
    have k : ∀ b o, ¬ b = I → s.heap.get? b = some o → h'.get? b = some o := fun b o hb e => hs.extBut b o hb e
    refine hQ _ h' _ (.int _ _) ?_ k
    have e1 : ((i : Nat) : Int) + 1 = ((i + 1 : Nat) : Int) := by omega
    have e2 : (n : Int) - (i : Nat) - 1 = (n : Int) - ((i + 1 : Nat) : Int) := by omega
    rw [← e1]; rw [e2] at hit; rw [e1] at hit ⊢; exact hit
  done := fun s M Q h1 hQ => by
    refine wpAny_pyNext_range_end hh h1 (by simp) fun h' he => ⟨rfl, hQ h' s.toks fun b o hb e => he b o hb e⟩
  self := fun i s M Q h1 h => wpAny_pyIter_rangeiter h1 h
end
section
variable {G : Wd} {A : Around} {s : Shared}
theorem zips_get {xs ys : List PyData} {i : Nat} {x : PyData} (h : (zips xs ys)[i]? = some x) : ∃ a b, xs[i]? = some a ∧ ys[i]? = some b ∧ x = .tuple [a, b] := by
  unfold zips at h
  rw [List.getElem?_map, Option.map_eq_some_iff] at h
  obtain ⟨⟨a, b⟩, e, rfl⟩ := h
  obtain ⟨e1, e2⟩ := List.getElem?_zip_eq_some.mp e
  exact ⟨a, b, e1, e2, rfl⟩
theorem zips_end {xs ys : List PyData} : xs[(zips xs ys).length]? = none ∨ ys[(zips xs ys).length]? = none := by
  unfold zips
  simp only [List.length_map, List.length_zip, List.getElem?_eq_none_iff]
  omega
theorem VR.pair {h : Heap} {M : AS} {T : Addr} {u v : Value} {a b : PyData} (e : IsPair h T u v) (hm : ¬ M T) (r1 : VR h M u a) (r2 : VR h M v b) : VR h M (.ref T) (.tuple [a, b]) :=
  .tup (vs := [u, v]) (n := 0) e hm (.cons r1 (.cons r2 .nil))
structure ZI (z TI TO i1 i2 l1 l2 : Addr) (us vs : List Value) (n m : Nat) (xs ys : List PyData) (i : Nat) (h : Heap) (M : AS) : Prop where
  h1 : IsZip h z TI TO .none
  h2 : IsPair h TI (.ref i1) (.ref i2)
  h3 : ∃ a b, IsPair h TO a b
  h4 : h.IsListIter i1 l1 i
  h5 : h.IsListIter i2 l2 i
  h6 : IsL h l1 us.toArray n
  h7 : IsL h l2 vs.toArray m
  h8 : ¬ M l1
  h9 : ¬ M l2
  h10 : VRs h M us xs
  h11 : VRs h M vs ys
theorem itr_zip {es : List Expr} {k : Nat} {p : Pos} (hh : A.handled = none) {z TI TO i1 i2 l1 l2 : Addr} (D : ZipApart z TI TO i1 i2 l1 l2) (us vs : List Value) (n m : Nat) (xs ys : List PyData) (hTI : TI ≠ TO) :
    Itr G A (.Tuple es k p) z (fun b => b = z ∨ b = TI ∨ b = TO ∨ b = i1 ∨ b = i2) (zips xs ys) (ZI z TI TO i1 i2 l1 l2 us vs n m xs ys) where
  frame := fun i h h' M M' H k mv => by
    obtain ⟨h1, h2, ⟨a, b, h3⟩, h4, h5, h6, h7, h8, h9, h10, h11⟩ := H
    exact ⟨k _ _ (.inl rfl) h1, k _ _ (.inr (.inl rfl)) h2, ⟨a, b, k _ _ (.inr (.inr (.inl rfl))) h3⟩, h4.at fun o e => k i1 o (.inr (.inr (.inr (.inl rfl)))) e, h5.at fun o e => k i2 o (.inr (.inr (.inr (.inr rfl)))) e,
      (mv _ _ h8 h6).1, (mv _ _ h9 h7).1, (mv _ _ h8 h6).2, (mv _ _ h9 h7).2, h10.mv mv, h11.mv mv⟩
  live := fun i h M H b hb => by
    obtain ⟨_, _, h3⟩ := H.h3
    obtain ⟨o4, h4, _⟩ := H.h4
    obtain ⟨o5, h5, _⟩ := H.h5
    rcases hb with rfl | rfl | rfl | rfl | rfl
    · exact ⟨_, H.h1⟩
    · exact ⟨_, H.h2⟩
    · exact ⟨_, h3⟩
    · exact ⟨_, h4⟩
    · exact ⟨_, h5⟩
  next := fun i s M x Q hx H hM hal hQ => by
    obtain ⟨h1, h2, ⟨a, b, h3⟩, h4, h5, h6, h7, h8, h9, h10, h11⟩ := H
    obtain ⟨d1, d2, e1, e2, rfl⟩ := zips_get hx
    obtain ⟨u, hu, ru⟩ := h10.get e1
    obtain ⟨v, hv, rv⟩ := h11.get e2
    refine wpAny_pyNext_zip_item D h1 h2 h3 h4 h5 ⟨_, h6, rfl, n, rfl⟩ ⟨_, h7, rfl, m, rfl⟩ (x := u) (y := v) (by simpa using hu) (by simpa using hv) fun h' a1 a2 a3 a4 a5 a6 a7 => ⟨_, rfl, ?_⟩
    refine wpAny_letOwnedTupleGo_zip (s := { s with heap := h' }) a1 fun h'' b1 b2 => ?_
    have nz : s.heap.objs.size ≠ z := fun e => Nat.lt_irrefl s.heap.objs.size (by have := Heap.lt_size h1; rw [← e] at this; exact this)
    have hT : ¬ M s.heap.objs.size := fun m => by obtain ⟨o, e⟩ := hal _ m; exact Nat.lt_irrefl _ (Heap.lt_size e)
    have k : ∀ b o, ¬ (b = z ∨ b = TI ∨ b = TO ∨ b = i1 ∨ b = i2) → s.heap.get? b = some o → h''.get? b = some o := fun b o hb e =>
      b2.extBut b o (fun q => hb (.inl q)) (a7 b o (fun q => hb (.inl q)) (fun q => hb (.inr (.inr (.inl q)))) (fun q => hb (.inr (.inr (.inr (.inl q))))) (fun q => hb (.inr (.inr (.inr (.inr q))))) e)
    have mv : Mv M M s.heap h'' := fun b o hm hb => ⟨k b o (fun e => hm (hM b e)) hb, hm⟩
    refine hQ _ h'' s.toks (VR.pair (b2.extBut _ _ nz a5) hT (ru.mv mv) (rv.mv mv)) ⟨b1, ?_, ⟨u, v, b2.extBut _ _ D.TOz a2⟩, a3.extBut b2.extBut D.i1z, a4.extBut b2.extBut D.i2z, (mv _ _ h8 h6).1, (mv _ _ h9 h7).1, h8, h9, h10.mv mv, h11.mv mv⟩ k
    exact b2.extBut _ _ D.TIz (a7 _ _ D.TIz hTI D.TIi1 D.TIi2 h2)
  done := fun s M Q H hQ => by
    obtain ⟨h1, h2, ⟨a, b, h3⟩, h4, h5, h6, h7, h8, h9, h10, h11⟩ := H
    refine wpAny_pyNext_zip_end hh D h1 h2 h3 h4 h5 ⟨_, h6, rfl, n, rfl⟩ ⟨_, h7, rfl, m, rfl⟩ ?_ fun h' he => ⟨rfl, hQ h' s.toks fun b o hb e =>
      he b o (fun q => hb (.inl q)) (fun q => hb (.inr (.inr (.inl q)))) (fun q => hb (.inr (.inr (.inr (.inl q))))) (fun q => hb (.inr (.inr (.inr (.inr q))))) e⟩
    have := zips_end (xs := xs) (ys := ys)
    simp only [List.getElem?_eq_none_iff] at this
    simp only [List.getElem?_toArray, List.getElem?_eq_none_iff, h10.length, h11.length]
    exact this
  self := fun i s M Q H h => wpAny_pyIter_zip H.h1 h
theorem enums_get {xs : List PyData} {i : Nat} {x : PyData} (h : (enums xs)[i]? = some x) : ∃ a, xs[i]? = some a ∧ x = .tuple [.int (i : Nat), a] := by
  unfold enums at h
  rw [List.getElem?_map, Option.map_eq_some_iff] at h
  obtain ⟨⟨a, j⟩, e, rfl⟩ := h
  rw [List.getElem?_zipIdx, Option.map_eq_some_iff] at e
  obtain ⟨c, e1, e2⟩ := e
  have e3 : c = a := congrArg Prod.fst e2
  have e4 : 0 + i = j := congrArg Prod.snd e2
  subst e3
  refine ⟨c, e1, ?_⟩
  rw [← e4, Nat.zero_add]
structure EI (e it l : Addr) (vs : List Value) (n : Nat) (xs : List PyData) (i : Nat) (h : Heap) (M : AS) : Prop where
  h1 : ∃ old, IsEnum h e it i old
  h4 : h.IsListIter it l i
  h6 : IsL h l vs.toArray n
  h8 : ¬ M l
  h10 : VRs h M vs xs
theorem itr_enum {es : List Expr} {k : Nat} {p : Pos} (hh : A.handled = none) {e it l : Addr} (hei : e ≠ it) (hle : l ≠ e) (hli : l ≠ it) (vs : List Value) (n : Nat) (xs : List PyData) :
    Itr G A (.Tuple es k p) e (fun b => b = e ∨ b = it) (enums xs) (EI e it l vs n xs) where
  frame := fun i h h' M M' H k mv => by
    obtain ⟨⟨old, h1⟩, h4, h6, h8, h10⟩ := H
    exact ⟨⟨old, k _ _ (.inl rfl) h1⟩, h4.at fun o e => k it o (.inr rfl) e, (mv _ _ h8 h6).1, (mv _ _ h8 h6).2, h10.mv mv⟩
  live := fun i h M H b hb => by
    obtain ⟨old, h1⟩ := H.h1
    obtain ⟨o4, h4, _⟩ := H.h4
    rcases hb with rfl | rfl
    · exact ⟨_, h1⟩
    · exact ⟨_, h4⟩
  next := fun i s M x Q hx H hM hal hQ => by
    obtain ⟨⟨old, h1⟩, h4, h6, h8, h10⟩ := H
    obtain ⟨d1, e1, rfl⟩ := enums_get hx
    obtain ⟨u, hu, ru⟩ := h10.get e1
    refine wpAny_pyNext_enum_item h1 h4 ⟨_, h6, rfl, n, rfl⟩ (x := u) (by simpa using hu) hei fun h' a1 a2 a3 a4 a5 => ⟨_, rfl, ?_⟩
    refine wpAny_letOwnedTupleGo_enum (s := { s with heap := h', toks := s.toks + 1 }) a1 fun h'' b1 b2 => ?_
    have nz : s.heap.objs.size ≠ e := fun q => Nat.lt_irrefl s.heap.objs.size (by have := Heap.lt_size h1; rw [← q] at this; exact this)
    have hT : ¬ M s.heap.objs.size := fun m => by obtain ⟨o, e⟩ := hal _ m; exact Nat.lt_irrefl _ (Heap.lt_size e)
    have k : ∀ b o, ¬ (b = e ∨ b = it) → s.heap.get? b = some o → h''.get? b = some o := fun b o hb x => b2.extBut b o (fun q => hb (.inl q)) (a5 b o (fun q => hb (.inl q)) (fun q => hb (.inr q)) x)
    have mv : Mv M M s.heap h'' := fun b o hm hb => ⟨k b o (fun e => hm (hM b e)) hb, hm⟩
    exact hQ _ h'' (s.toks + 1) (.tup (vs := [.int i s.toks, u]) (n := 0) (b2.extBut _ _ nz a3) hT (.cons (.int _ _) (.cons (ru.mv mv) .nil))) ⟨⟨_, b1⟩, a2.extBut b2.extBut hei.symm, (mv _ _ h8 h6).1, h8, h10.mv mv⟩ k
  done := fun s M Q H hQ => by
    obtain ⟨⟨old, h1⟩, h4, h6, h8, h10⟩ := H
    have W := WalksT.enumerate (prog := G.prog) (w := G.w) (A := A) hh e it l hei hle hli vs.toArray
    have e1 : (enums xs).length = vs.toArray.size := by simp [enums, h10.length]
    refine W.done s _ _ (by rw [← e1]; exact ⟨⟨old, h1⟩, h4, ⟨_, h6, rfl, n, rfl⟩⟩) fun h' tk hk => ⟨rfl, hQ h' tk fun b o hb x => hk b o (by simpa using hb) x⟩
  self := fun i s M Q H h => wpAny_pyIter_enum H.h1.choose_spec h
end
noncomputable abbrev orY (Y fp : AS) : AS := fun a => Y a ∨ fp a
noncomputable def ItP (G : Wd) (A : Around) (tgt : Expr) (Y : AS) (F : Fm) (μ : Env1) (σ : Sto) (s : Shared) (Q : List PyData → Sto → Prop) (it : Value) (s₂ : Shared) : Prop :=
  ∃ I fp It xs σ', it = .ref I ∧ Itr G A tgt I fp xs It ∧ It 0 s₂.heap (Mu (orY Y fp) σ') ∧ St G (orY Y fp) F μ σ' s₂ ∧ E0 σ σ' s s₂ ∧ (∀ b, fp b → s.heap.get? b = none) ∧ Q xs σ'
noncomputable def IV (G : Wd) (C : Ctr) (d : Nat) (e : Ex) : Prop := ∀ kd ns x tgt, mI kd ns e x = true → tgtOk tgt → (isZE e = true → isTup tgt = true) → ∀ A F Y ρ σ Q s, Rm A d → F.env.kindOf = kd → St G Y F (mu ns ρ) σ s →
  (awE C e ρ σ fun v σ' => wS (itemsOf v) fun xs => Q xs σ') →
  wpAny (model G.prog G.w) A (eval x F.env) (fun v s₁ => wpAny (model G.prog G.w) A (pyIter v) (ItP G A tgt Y F (mu ns ρ) σ s Q) NE s₁) NE s
section
variable {G : Wd} {C : Ctr} {d : Nat}
theorem OffF.of {Y : AS} {F : Fm} {μ : Env1} {σ : Sto} {s : Shared} {fp : AS} (S : St G Y F μ σ s) (h : ∀ b, fp b → s.heap.get? b = none) : OffF F fp where
  loc := fun f => by obtain ⟨m, ⟨o, _, _, e, _⟩, _⟩ := S.ns; rw [h _ f] at e; cases e
  cel := fun x c hc f => by obtain ⟨ov, ⟨o, e, _⟩, _⟩ := S.cel x c hc; rw [h _ f] at e; cases e
  fr := fun a y f => by obtain ⟨_, o, e⟩ := S.s0.live a (.inl (S.frY a y)); rw [h _ f] at e; cases e
theorem offY {Y : AS} {F : Fm} {μ : Env1} {σ : Sto} {s : Shared} {fp : AS} (S : St G Y F μ σ s) (h : ∀ b, fp b → s.heap.get? b = none) : ∀ a, fp a → ¬ Y a := fun a f y => by
  obtain ⟨_, o, e⟩ := S.s0.live a (.inl y); rw [h _ f] at e; cases e
theorem ItP.mk {A : Around} {tgt : Expr} {Y : AS} {F : Fm} {μ : Env1} {σ σ' : Sto} {s s₁ : Shared} {Q : List PyData → Sto → Prop} {I : Addr} {fp : AS} {It : Nat → Heap → AS → Prop} {xs : List PyData} {h' : Heap} {tk : Nat}
    (X : Itr G A tgt I fp xs It) (S : St G Y F μ σ' s₁) (e : E0 σ σ' s s₁) (k : ∀ b o, s₁.heap.get? b = some o → h'.get? b = some o) (fr : ∀ b, fp b → s₁.heap.get? b = none) (fs : ∀ b, fp b → s.heap.get? b = none)
    (hI : (∀ b, fp b → ∃ o, h'.get? b = some o) → Mv (Mu Y σ') (Mu (orY Y fp) σ') s₁.heap h' → It 0 h' (Mu (orY Y fp) σ')) (al : ∀ b, fp b → ∃ o, h'.get? b = some o) (q : Q xs σ') : ItP G A tgt Y F μ σ s Q (.ref I) { s₁ with heap := h', toks := tk } := by
  have mv : Mv (Mu Y σ') (Mu (orY Y fp) σ') s₁.heap h' := fun b o hm hb => ⟨k b o hb, fun m => hm (m.elim (fun y => y.elim .inl fun f => by rw [fr b f] at hb; cases hb) .inr)⟩
  exact ⟨I, fp, It, xs, σ', rfl, X, hI al mv, S.enter tk (fun a y => .inl y) k (fun a y => y.elim .inl fun f => .inr ⟨fr a f, al a f⟩), e.trans (.grow k), fs, q⟩
theorem fresh_back {σ σ' : Sto} {s s₁ : Shared} (e : E0 σ σ' s s₁) {b : Addr} (h : s₁.heap.get? b = none) : s.heap.get? b = none := by
  cases q : s.heap.get? b with
  | none => rfl
  | some o => obtain ⟨o', e'⟩ := e.alive b o q; rw [h] at e'; cases e'
theorem itemsOf_some {v : AV} {xs : List PyData} (e : itemsOf v = some xs) : v = .d (.list xs) ∨ v = .d (.tuple xs) := by
  unfold itemsOf at e
  split at e
  · cases e; exact .inl rfl
  · cases e; exact .inr rfl
  · cases e
theorem it_data {e : Ex} (I : SV G C d e) {kd : Kd} {ns : List Str} {x tgt : Expr} (hm : mE false kd ns e x = true) (ht : tgtOk tgt) {A : Around} {F : Fm} {Y : AS} {ρ : Rho} {σ : Sto} {Q : List PyData → Sto → Prop} {s : Shared} (R : Rm A d)
    (hk : F.env.kindOf = kd) (S : St G Y F (mu ns ρ) σ s) (h : awE C e ρ σ fun v σ' => wS (itemsOf v) fun xs => Q xs σ') :
    wpAny (model G.prog G.w) A (eval x F.env) (fun v s₁ => wpAny (model G.prog G.w) A (pyIter v) (ItP G A tgt Y F (mu ns ρ) σ s Q) NE s₁) NE s := by
  refine (I kd ns x hm A F Y ρ σ _ s R hk S h).then fun v s' av σ' S' e' r p => ?_
  obtain ⟨xs, e1, p⟩ := wS_some p
  rcases itemsOf_some e1 with rfl | rfl
  · obtain ⟨l, vs, n, rfl, hl, hm, rv⟩ := VR.lst_inv r
    refine wpAny_pyIter_list ⟨_, hl, rfl, n, rfl⟩ (ItP.mk (itr_list R.hh ht s'.heap.objs.size l vs n xs) S' e' (fun _ _ e => Heap.get?_push_of_some _ e) (fun b hb => hb ▸ size_none) (fun b hb => fresh_back e' (hb ▸ size_none)) (fun al mv => ?_) (fun b hb => hb ▸ ⟨_, Heap.get?_push_size _ rfl⟩) p)
    have hp := Heap.get?_push_size s'.heap (o := { cls := .type "list_iterator", data := .fields #[.ref l, .int 0 0] }) rfl
    exact ⟨⟨_, hp, rfl, rfl⟩, (mv _ _ hm hl).1, (mv _ _ hm hl).2, rv.mv mv⟩
  · obtain ⟨l, vs, n, rfl, hl, hm, rv⟩ := VR.tup_inv r
    refine wpAny_pyIter_tuple ⟨_, hl, rfl, n, rfl⟩ (ItP.mk (itr_tup R.hh ht s'.heap.objs.size l vs n xs) S' e' (fun _ _ e => Heap.get?_push_of_some _ e) (fun b hb => hb ▸ size_none) (fun b hb => fresh_back e' (hb ▸ size_none)) (fun al mv => ?_) (fun b hb => hb ▸ ⟨_, Heap.get?_push_size _ rfl⟩) p)
    have hp := Heap.get?_push_size s'.heap (o := { cls := .type "tuple_iterator", data := .fields #[.ref l, .int 0 0] }) rfl
    exact ⟨⟨_, hp, rfl, rfl⟩, (mv _ _ hm hl).1, (mv _ _ hm hl).2, rv.mv mv⟩
theorem iv_data {e : Ex} (I : SV G C d e) (hz : ∀ kd ns x, mI kd ns e x = true → mE false kd ns e x = true) : IV G C d e := fun kd ns x tgt hm ht _ A F Y ρ σ Q s R hk S h =>
  it_data I (hz kd ns x hm) ht R hk S h
theorem rngOf_some {v : AV} {xs : List PyData} (e : rngOf v = some xs) : ∃ n : Nat, v = .d (.int n) ∧ n ≤ 100 ∧ xs = (List.range n).map fun (i : Nat) => PyData.int i := by
  unfold rngOf at e
  split at e
  · rename_i n
    split at e
    · rename_i h
      cases e
      refine ⟨n.toNat, ?_, by omega, rfl⟩
      rw [Int.toNat_of_nonneg h.1]
    · cases e
  · cases e
theorem cw_type1 {M : Model} {A : Around} {s : Shared} {pos : Pos} {T : String} {t : Sem Value} {Q : Value → Shared → Prop} (h : wpAny M A t (fun v s₁ => wpAny M A (call (.type T) [v]) Q NE s₁) NE s) : wpAny M A (callWith pos (.type T) [] [(false, t)] []) Q NE s :=
  PyProof.Rows.callWith_type rfl (evalArgs_plain (spliced_cons (wpAny_mono h (fun _ _ h₁ => spliced_nil h₁) fun _ _ e => e)))
theorem cw_type2 {M : Model} {A : Around} {s : Shared} {pos : Pos} {T : String} {t u : Sem Value} {Q : Value → Shared → Prop} (h : wpAny M A t (fun v s₁ => wpAny M A u (fun w s₂ => wpAny M A (call (.type T) [v, w]) Q NE s₂) NE s₁) NE s) : wpAny M A (callWith pos (.type T) [] [(false, t), (false, u)] []) Q NE s :=
  PyProof.Rows.callWith_type rfl (evalArgs_plain (spliced_cons (wpAny_mono h (fun _ _ h₁ => spliced_cons (wpAny_mono h₁ (fun _ _ h₂ => spliced_nil h₂) fun _ _ e => e)) fun _ _ e => e)))
theorem rsize (n : Nat) : Builtin.Range.rangeSize 0 n 1 = n := by
  unfold Builtin.Range.rangeSize
  simp only [show (1 : Int) > 0 from by decide, if_true]
  split <;> omega
theorem rng_ok (X : Cx G C d) {e : Ex} (I : SV G C d e) {kd : Kd} {ns : List Str} {y : Str} {l tgt : Expr} {p1 p : Pos} (h1 : okG kd "range" y = true) (h2 : mE false kd ns e l = true) (ht : tgtOk tgt) {A : Around} {F : Fm} {Y : AS} {ρ : Rho} {σ : Sto} {Q : List PyData → Sto → Prop} {s : Shared} (R : Rm A d)
    (hk : F.env.kindOf = kd) (S : St G Y F (mu ns ρ) σ s) (h : awE C e ρ σ fun v σ' => wS (rngOf v) fun xs => Q xs σ') :
    wpAny (model G.prog G.w) A (eval (.Call (.Name y p1) [l] [] p) F.env) (fun v s₁ => wpAny (model G.prog G.w) A (pyIter v) (ItP G A tgt Y F (mu ns ρ) σ s Q) NE s₁) NE s := by
  refine Call_Name1 (built_ok X (fv := .type "range") h1 hk S (by decide +kernel) (by decide +kernel) ?_) (by rw [star_of h2]; rfl)
  refine cw_type1 ?_
  refine (I kd ns l h2 A F Y ρ σ _ s R hk S h).then fun v s' av σ' S' e' r q => ?_
  obtain ⟨xs, e1, q⟩ := wS_some q
  obtain ⟨n, rfl, hn, rfl⟩ := rngOf_some e1
  obtain ⟨t, rfl⟩ := VR.int_inv r
  refine call_range_1 (wpAny_pyIter_range (a := 0) (b := n) (c := 1) (Heap.get?_push_size _ rfl) ?_ ?_)
  · have : ∀ m : Fin 101, Builtin.Range.small 0 (m.val : Int) 1 = true := by decide +kernel
    exact this ⟨n, by omega⟩
  · have g : Gw s' { s' with heap := s'.heap.push { cls := .type "range", data := .fields #[.int 0 s'.toks, .int n t, .int 1 (s'.toks + 1)] }, toks := s'.toks + 1 + 1 } := .push _ _
    refine ItP.mk (itr_range R.hh ht _ n) (S'.gw g) (e'.trans (.gw g)) (fun _ _ e => Heap.get?_push_of_some _ e) (fun b hb => hb ▸ size_none) (fun b hb => fresh_back (e'.trans (.gw g)) (hb ▸ size_none)) (fun al mv => ?_) (fun b hb => hb ▸ ⟨_, Heap.get?_push_size _ rfl⟩) q
    have hp := Heap.get?_push_size (s'.heap.push { cls := .type "range", data := .fields #[.int 0 s'.toks, .int n t, .int 1 (s'.toks + 1)] }) (o := { cls := .type "range_iterator", data := .fields #[rawInt 0, rawInt (Builtin.Range.rangeSize 0 n 1), rawInt 1] }) rfl
    rw [rsize] at hp ⊢
    show IsRangeIter _ _ ((0 : Nat) : Int) ((n : Int) - ((0 : Nat) : Int)) 1
    rw [show (n : Int) - ((0 : Nat) : Int) = n from by omega]
    exact hp
theorem iv_range (X : Cx G C d) {e : Ex} (I : SV G C d e) : IV G C d (.range e) := fun kd ns x tgt hm ht _ A F Y ρ σ Q s R hk S h => by
  replace hm := mI_i_range hm
  obtain ⟨_, _, _, _, rfl, hm⟩ := hm
  · simp only [Bool.and_eq_true] at hm
    refine rng_ok X I hm.1 hm.2 ht R hk S ?_
    exact h
theorem iv_zip (X : Cx G C d) {a b : Ex} (I : SV G C d a) (J : SV G C d b) : IV G C d (.zip a b) := fun kd ns x tgt hm ht hz A F Y ρ σ Q s R hk S h => by
  replace hm := mI_i_zip hm
  obtain ⟨_, _, _, _, _, rfl, hm⟩ := hm
  · rename_i y p1 l r p
    simp only [Bool.and_eq_true] at hm
    obtain ⟨⟨h1, h2⟩, h3⟩ := hm
    obtain ⟨es, k, tp, rfl⟩ := isTup_i (hz rfl)
    refine Call_Name2 (built_ok X (fv := .type "zip") h1 hk S (by decide +kernel) (by decide +kernel) ?_) (by rw [star_of h2, star_of h3]; rfl)
    refine cw_type2 ((I kd ns _ h2 A F Y ρ σ _ s R hk S h).then fun u s' av σ' S' e' r p => (J kd ns _ h3 A F Y ρ σ' _ s' R hk S' p).then fun v s'' aw σ'' S'' e'' r' q => ?_)
    obtain ⟨x1, c1, q⟩ := wS_some q
    replace q := wS_some q
    obtain ⟨xs, c2, q⟩ := q
    replace q := wS_some q
    obtain ⟨y1, c3, q⟩ := q
    replace q := wS_some q
    obtain ⟨ys, c4, q⟩ := q
    obtain rfl := isD_some c1
    obtain rfl := isD_some c3
    obtain rfl := itemsL_some c2
    obtain rfl := itemsL_some c4
    obtain ⟨l1, us, n, rfl, hl1, hm1, rv1⟩ := VR.lst_inv (r.mv e''.mv)
    obtain ⟨l2, vs, m, rfl, hl2, hm2, rv2⟩ := VR.lst_inv r'
    refine call_zip_2 ⟨_, hl1, rfl, n, rfl⟩ ⟨_, hl2, rfl, m, rfl⟩ fun h' z1 z2 z3 z4 z5 z6 z7 => ?_
    have lt1 := Heap.lt_size hl1
    have lt2 := Heap.lt_size hl2
    refine wpAny_pyIter_zip (s := { s'' with heap := h' }) z1 ?_
    have nn : ∀ b, (b = s''.heap.objs.size + 4 ∨ b = s''.heap.objs.size + 2 ∨ b = s''.heap.objs.size + 3 ∨ b = s''.heap.objs.size ∨ b = s''.heap.objs.size + 1) → s''.heap.get? b = none := fun b hb => get_none_of_size (by rcases hb with rfl | rfl | rfl | rfl | rfl <;> first | exact Nat.le_refl _ | exact Nat.le_add_right _ _)
    refine ItP.mk (s₁ := s'') (itr_zip R.hh (zipApart_new lt1 lt2) us vs n m xs ys (Nat.ne_of_lt (Nat.lt_succ_self _))) S'' (e'.trans e'') z7 nn (fun b hb => fresh_back (e'.trans e'') (nn b hb)) (fun al mv => ?_) (fun b hb => ?_) q
    · exact ⟨z1, z2, ⟨_, _, z3⟩, z4, z5, (mv _ _ hm1 hl1).1, (mv _ _ hm2 hl2).1, (mv _ _ hm1 hl1).2, (mv _ _ hm2 hl2).2, rv1.mv mv, rv2.mv mv⟩
    · rcases hb with rfl | rfl | rfl | rfl | rfl
      · exact ⟨_, z1⟩
      · exact ⟨_, z2⟩
      · exact ⟨_, z3⟩
      · obtain ⟨o, e, _⟩ := z4; exact ⟨o, e⟩
      · obtain ⟨o, e, _⟩ := z5; exact ⟨o, e⟩
theorem iv_enum (X : Cx G C d) {a : Ex} (I : SV G C d a) : IV G C d (.enum a) := fun kd ns x tgt hm ht hz A F Y ρ σ Q s R hk S h => by
  replace hm := mI_i_enum hm
  obtain ⟨_, _, _, _, rfl, hm⟩ := hm
  · rename_i y p1 l p
    simp only [Bool.and_eq_true] at hm
    obtain ⟨h1, h2⟩ := hm
    obtain ⟨es, k, tp, rfl⟩ := isTup_i (hz rfl)
    refine Call_Name1 (built_ok X (fv := .type "enumerate") h1 hk S (by decide +kernel) (by decide +kernel) ?_) (by rw [star_of h2]; rfl)
    refine cw_type1 ((I kd ns _ h2 A F Y ρ σ _ s R hk S h).then fun u s' av σ' S' e' r q => ?_)
    obtain ⟨x1, c1, q⟩ := wS_some q
    replace q := wS_some q
    obtain ⟨xs, c2, q⟩ := q
    obtain rfl := isD_some c1
    obtain rfl := itemsL_some c2
    obtain ⟨l1, us, n, rfl, hl1, hm1, rv1⟩ := VR.lst_inv r
    refine call_enumerate_list ⟨_, hl1, rfl, n, rfl⟩ fun h' z1 z4 z6 z7 => ?_
    have lt1 := Heap.lt_size hl1
    refine wpAny_pyIter_enum (s := { s' with heap := h' }) z1 ?_
    have nn : ∀ b, (b = s'.heap.objs.size + 1 ∨ b = s'.heap.objs.size) → s'.heap.get? b = none := fun b hb => get_none_of_size (by rcases hb with rfl | rfl <;> first | exact Nat.le_refl _ | exact Nat.le_add_right _ _)
    refine ItP.mk (s₁ := s') (itr_enum R.hh (Nat.ne_of_gt (Nat.lt_succ_self _)) (Nat.ne_of_lt (Nat.lt_succ_of_lt lt1)) (Nat.ne_of_lt lt1) us n xs) S' e' z7 nn (fun b hb => fresh_back e' (nn b hb)) (fun al mv => ?_) (fun b hb => ?_) q
    · exact ⟨⟨_, z1⟩, z4, (mv _ _ hm1 hl1).1, (mv _ _ hm1 hl1).2, rv1.mv mv⟩
    · rcases hb with rfl | rfl
      · exact ⟨_, z1⟩
      · obtain ⟨o, e, _⟩ := z4; exact ⟨o, e⟩
end
section
variable {G : Wd} {Y : AS} {F : Fm} {μ μ' : Env1} {σ σ' σ'' : Sto} {s s' s'' : Shared} {P P' : AS}
theorem EP.of (e : E0 σ σ' s s') : EP P σ σ' s s' := ⟨e.alive, fun b o _ h => e.keep b o h, e.fresh⟩
theorem EP.mono (e : EP P σ σ' s s') (h : ∀ b, P b → P' b) : EP P' σ σ' s s' := ⟨e.alive, fun b o n => e.keep b o fun p => n (h b p), e.fresh⟩
theorem EP.trans (x : EP P σ σ' s s') (y : EP P σ' σ'' s' s'') : EP P σ σ'' s s'' := by
  have old : ∀ b o, ¬ P b → σ b = none → s.heap.get? b = some o → σ' b = none := fun b o np h e => by
    cases q : σ' b with
    | none => rfl
    | some o' => have := x.fresh b h (some_ne q); rw [e] at this; cases this
  refine ⟨fun b o e => let ⟨o', e'⟩ := x.alive b o e; y.alive b o' e', fun b o np h e => y.keep b o np (old b o np h e) (x.keep b o np h e), fun b h k => ?_⟩
  cases e : s.heap.get? b with
  | none => rfl
  | some o =>
    cases q : σ' b with
    | none =>
      have := y.fresh b q k
      obtain ⟨o', e'⟩ := x.alive b o e
      rw [e'] at this; cases this
    | some o' => have := x.fresh b h (some_ne q); rw [e] at this; cases this
theorem EP.e0 (x : EP P σ σ' s s') (h : ∀ b, P b → s.heap.get? b = none) : E0 σ σ' s s' := ⟨x.alive, fun b o hs e => x.keep b o (fun p => by rw [h b p] at e; cases e) hs e, x.fresh⟩
theorem EP.priv {h' : Heap} {tk : Nat} (k : ∀ b o, ¬ P b → s.heap.get? b = some o → h'.get? b = some o) (al : ∀ b, P b → ∃ o, h'.get? b = some o) : EP P σ σ s { s with heap := h', toks := tk } :=
  ⟨fun b o e => by
    by_cases p : P b
    · exact al b p
    · exact ⟨o, k b o p e⟩, fun b o n _ e => k b o n e, fun b h k => absurd h k⟩
theorem St.weak (S : St G Y F μ σ s) (h : ∀ x av, μ' x = some av → μ x = some av) : St G Y F μ' σ s := by
  refine ⟨S.s0, S.frY, S.ok, S.above, ?_, fun x c hc => ?_⟩
  · obtain ⟨m, hn, hv⟩ := S.ns
    exact ⟨m, hn, fun x av h1 h2 => hv x av (h x av h1) h2⟩
  · obtain ⟨ov, hi, hv⟩ := S.cel x c hc
    exact ⟨ov, hi, fun av h1 h2 => hv av (h x av h1) h2⟩
end
theorem ix_get : ∀ {ns : List Str} {x : Str} {n : Nat}, ix ns x = some n → ns[n]? = some x
  | [], _, _, h => by cases h
  | y :: ys, x, n, h => by
    unfold ix at h
    by_cases e : y = x
    · rw [if_pos e] at h; cases h; rw [e]; rfl
    · rw [if_neg e] at h
      obtain ⟨m, h1, rfl⟩ := Option.map_eq_some_iff.mp h
      have := ix_get h1
      rw [List.getElem?_cons_succ]; exact this
theorem mu_set {ns : List Str} {ρ : Rho} {n : Nat} {x : Str} {v : AV} (h : ix ns x = some n) (y : Str) (av : AV) (e : mu ns (ρ.set n (some v)) y = some av) : set1 (mu ns ρ) x v y = some av := by
  unfold set1
  by_cases q : y = x
  · subst q
    rw [if_pos rfl]
    unfold mu at e
    rw [h] at e
    have e : ((ρ.set n (some v))[n]?).join = some av := e
    rw [List.getElem?_set_self'] at e
    cases e2 : ρ[n]? with
    | none => rw [e2] at e; cases e
    | some o => rw [e2] at e; exact e
  · rw [if_neg q]
    unfold mu at e ⊢
    cases h2 : ix ns y with
    | none => rw [h2] at e; cases e
    | some m =>
      rw [h2] at e
      have ne : n ≠ m := fun z => by
        subst z
        have := (ix_get h).symm.trans (ix_get h2)
        exact q (Option.some.inj this).symm
      have e : ((ρ.set n (some v))[m]?).join = some av := e
      rw [List.getElem?_set_ne ne] at e
      exact e
section
variable {G : Wd} {A : Around} {F : Fm} {Y : AS} {ns : List Str} {ρ : Rho} {σ : Sto} {s : Shared}
theorem name_st {own : Bool} {kd : Kd} {n : Nat} {x : Str} {v : Value} {av : AV} {Q : Unit → Shared → Prop} (h : okS own kd ns n x = true) (hk : F.env.kindOf = kd) (ow : own = true → F.own = true) (S : St G Y F (mu ns ρ) σ s) (r : VA s.heap (Mu Y σ) v av)
    (k : ∀ s', St G Y F (mu ns (ρ.set n (some av))) σ s' → EF F σ σ s s' → Q () s') : wpAny (model G.prog G.w) A (storeName F.env x v) Q NE s := by
  subst hk
  unfold okS at h
  simp only [Bool.and_eq_true, Bool.or_eq_true, beq_iff_eq] at h
  refine st_ok S r ?_ fun s' S' e' => k s' (S'.weak fun y av e => mu_set h.1 y av e) e'
  simp only [Bool.or_eq_true, Bool.and_eq_true, beq_iff_eq]
  rcases h.2 with h2 | h2
  · exact .inl h2
  · exact .inr ⟨ow h2.1, h2.2⟩
theorem names_st {own : Bool} {kd : Kd} (hk : F.env.kindOf = kd) : ∀ {ks : List Nat} {xs : List Expr} {vs : List Value} {avs : List AV} {ρ : Rho} {s : Shared} {Q : Unit → Shared → Prop}, mTs own kd ns ks xs = true → (own = true → F.own = true) → St G Y F (mu ns ρ) σ s → VAs s.heap (Mu Y σ) vs avs → vs.length = ks.length →
    (∀ s', St G Y F (mu ns (setAll ρ ks avs)) σ s' → EF F σ σ s s' → Q () s') → wpAny (model G.prog G.w) A (assignInOrder ((assignEach xs F.env).map (·.2)) vs) Q NE s := by
  intro ks xs vs avs ρ s Q h ow
  refine mTs_i (M := fun ks xs => ∀ vs avs ρ s Q, St G Y F (mu ns ρ) σ s → VAs s.heap (Mu Y σ) vs avs → vs.length = ks.length →
    (∀ s', St G Y F (mu ns (setAll ρ ks avs)) σ s' → EF F σ σ s s' → Q () s') → wpAny (model G.prog G.w) A (assignInOrder ((assignEach xs F.env).map (·.2)) vs) Q NE s) h ?_ ?_ vs avs ρ s Q
  · intro vs avs ρ s Q S r hl k
    cases r with
    | nil => exact wpAny_pure (k s S (EP.of .refl))
    | cons => cases hl
  · intro k0 ks y p xs h1 _ ih vs avs ρ s Q S r hl k
    cases r with
    | nil => cases hl
    | @cons v vs' av avs' hv r =>
        show wpAny _ _ (holding vs' (assign (.Name y p) F.env v) >>= fun _ => assignInOrder ((assignEach xs F.env).map (·.2)) vs') _ _ _
        refine wpAny_bind (wpAny_holding (wpAny_assign_Name (name_st h1 hk ow S hv fun s' S' e' => ?_)))
        have mv : Mv (Mu Y σ) (Mu Y σ) s.heap s'.heap := fun b o hm hb => ⟨e'.keep b o (fun f => hm (.inl (S.frY b f))) (by
          cases q : σ b with
          | none => rfl
          | some ao => exact absurd (.inr (some_ne q)) hm) hb, hm⟩
        exact ih vs' avs' _ s' Q S' (r.mv mv) (Nat.succ.inj hl) fun s'' S'' e'' => k s'' S'' (e'.trans e'')
theorem mTs_len {own : Bool} {kd : Kd} {F : Fm} : ∀ {ks : List Nat} {xs : List Expr}, mTs own kd ns ks xs = true → (assignEach xs F.env).length = ks.length ∧ (assignEach xs F.env).findIdx? (·.1) = none := by
  intro ks xs h
  refine mTs_i (M := fun ks xs => (assignEach xs F.env).length = ks.length ∧ (assignEach xs F.env).findIdx? (·.1) = none) h ⟨rfl, rfl⟩ fun k ks y p xs _ _ this => ⟨congrArg (· + 1) this.1, ?_⟩
  show ((false, _) :: assignEach xs F.env).findIdx? (·.1) = none
  rw [List.findIdx?_cons, this.2]; rfl
theorem VAs.of {h : Heap} {M : AS} {vs : List Value} {ds : List PyData} (r : VRs h M vs ds) : VAs h M vs (ds.map .d) := by
  induction vs generalizing ds with
  | nil => cases r; exact .nil
  | cons v vs ih => cases r with | cons a b => exact .cons a (ih b)
theorem setAll_d (ρ : Rho) : ∀ (ks : List Nat) (ds : List PyData), setAll ρ ks (ds.map .d) = (ks.zip ds).foldl (fun r p => r.set p.1 (some (.d p.2))) ρ := by
  intro ks ds
  unfold setAll
  rw [List.zip_map_right, List.foldl_map]
  rfl
theorem tgtOk_of {own : Bool} {kd : Kd} {ns : List Str} {t : Tg} {target : Expr} (h : mT own kd ns t target = true) : tgtOk target := by
  cases t with
  | one k => obtain ⟨_, _, rfl, _⟩ := mT_one h; exact .n _ _
  | tup ks => obtain ⟨_, _, _, rfl, _⟩ := mT_tup h; exact .t _ _ _
theorem tgt_ok {own : Bool} {kd : Kd} {t : Tg} {tgt : Expr} {v : Value} {av : AV} {ρ' : Rho} {Q : Unit → Shared → Prop} (hh : A.handled = none) (hm : mT own kd ns t tgt = true) (hk : F.env.kindOf = kd) (ow : own = true → F.own = true) (S : St G Y F (mu ns ρ) σ s)
    (r : VA s.heap (Mu Y σ) v av) (hb : bindT ρ t av = some ρ') (k : ∀ s', St G Y F (mu ns ρ') σ s' → EF F σ σ s s' → Q () s') : wpAny (model G.prog G.w) A (assign tgt F.env v) Q NE s := by
  cases t with
  | one n =>
    cases hb
    obtain ⟨_, _, rfl, hm⟩ := mT_one hm
    exact wpAny_assign_Name (name_st hm hk ow S r k)
  | tup ks =>
    obtain ⟨xs, _, _, rfl, hm⟩ := mT_tup hm
    · unfold bindT at hb
      dsimp only at hb
      split at hb
      · rename_i ds
        split at hb
        · rename_i hl
          cases hb
          obtain ⟨a, vs, n, rfl, ht, _, rv⟩ := VR.tup_inv r
          refine wpAny_assign_Tuple hh ⟨_, ht, rfl, n, rfl⟩ ((mTs_len hm).1.trans (by rw [List.size_toArray, rv.length, hl])) (mTs_len hm).2 fun h' he => ?_
          have kk : ∀ b o, s.heap.get? b = some o → h'.get? b = some o := fun b o e => he b o (Nat.ne_of_lt (Heap.lt_size e)) e
          have g : Gw s { s with heap := h' } := ⟨h', s.toks, rfl, kk⟩
          refine names_st hk hm ow (S.gw g) ((VAs.of rv).mv g.mv) (by rw [List.toList_toArray, rv.length, hl]) fun s' S' e' => k s' ?_ ((EP.of (.gw g)).trans e')
          rw [setAll_d] at S'; exact S'
        · cases hb
      · cases hb
end
theorem lookup_mem' {β : Type} : ∀ {l : List (Str × β)} {x : Str} {b : β}, l.lookup x = some b → (x, b) ∈ l
  | (y, c) :: l, x, b, h => by
    rw [List.lookup_cons] at h
    by_cases e : x = y
    · subst e; simp at h; rw [h]; exact .head _
    · have e' : (x == y) = false := by simpa using e
      rw [e'] at h; exact .tail _ (lookup_mem' h)
theorem lookup_of_mem {β : Type} : ∀ {l : List (Str × β)} {x : Str} {b : β}, (l.map (·.1)).Nodup → (x, b) ∈ l → l.lookup x = some b
  | (y, c) :: l, x, b, hn, h => by
    rw [List.map_cons, List.nodup_cons] at hn
    rw [List.lookup_cons]
    rcases List.mem_cons.mp h with h | h
    · cases h; simp
    · have e : x ≠ y := fun z => hn.1 (by have := List.mem_map_of_mem (f := Prod.fst) h; rw [z] at this; exact this)
      have e' : (x == y) = false := by simpa using e
      rw [e']; exact lookup_of_mem hn.2 h
theorem nodupB_ok : ∀ {l : List Str}, nodupB l = true → l.Nodup
  | [], _ => List.nodup_nil
  | x :: l, h => by
    simp only [nodupB, Bool.and_eq_true, Bool.not_eq_true'] at h
    refine List.nodup_cons.mpr ⟨fun m => ?_, nodupB_ok h.2⟩
    have := List.contains_iff_mem.mpr m
    rw [h.1] at this; cases this
noncomputable def closL (env : Env) (names : List (Str × NameKind)) : List (Str × Addr) := names.filterMap fun p => if p.2 == .free then (env.cells.lookup p.1).map fun c => (p.1, c) else none
theorem clos_go {env : Env} (names : List (Str × NameKind)) (h : ∀ p ∈ names, p.2 = .free → (env.cells.lookup p.1).isSome = true) : ∀ acc : List (Str × Addr),
    (forIn (m := Sem) names acc fun (p : Str × NameKind) (cs : List (Str × Addr)) => (if (p.2 == NameKind.free) = true then do let a ← cellOf env p.1; pure (ForInStep.yield ((p.1, a) :: cs)) else pure (ForInStep.yield cs))) = pure ((closL env names).reverse ++ acc) := by
  induction names with
  | nil => intro acc; rfl
  | cons p names ih =>
    intro acc
    have ih := ih fun q hq => h q (.tail _ hq)
    rw [List.forIn_cons]
    by_cases e : (p.2 == NameKind.free) = true
    · have hs := h p (.head _) (beq_iff_eq.mp e)
      obtain ⟨c, hc⟩ := Option.isSome_iff_exists.mp hs
      rw [if_pos e]
      have e2 : cellOf env p.1 = pure c := by unfold cellOf; rw [hc]
      rw [e2, pure_bind, pure_bind]
      dsimp only
      rw [ih]
      unfold closL
      rw [List.filterMap_cons, if_pos e, hc]
      simp
    · rw [if_neg e, pure_bind]
      dsimp only
      rw [ih]
      unfold closL
      rw [List.filterMap_cons, if_neg e]
theorem clos_eq {env : Env} {scope : Scope} (h : ∀ p ∈ scope.names, p.2 = .free → (env.cells.lookup p.1).isSome = true) : closureFor scope env = pure (closL env scope.names).reverse := by
  have := clos_go scope.names h []
  rw [List.append_nil] at this
  unfold closureFor
  show (forIn (m := Sem) scope.names [] (fun (p : Str × NameKind) (cs : List (Str × Addr)) => (if (p.2 == NameKind.free) = true then do let a ← cellOf env p.1; pure (ForInStep.yield ((p.1, a) :: cs)) else pure (ForInStep.yield cs))) >>= fun s => pure s) = _
  rw [this]; rfl
theorem closL_mem {env : Env} {names : List (Str × NameKind)} {x : Str} {c : Addr} (h : (x, c) ∈ closL env names) : (x, NameKind.free) ∈ names ∧ env.cells.lookup x = some c := by
  unfold closL at h
  rw [List.mem_filterMap] at h
  obtain ⟨p, hp, e⟩ := h
  split at e
  · rename_i k
    obtain ⟨c', e1, e2⟩ := Option.map_eq_some_iff.mp e
    cases e2
    have := beq_iff_eq.mp k
    exact ⟨by rw [← this]; exact hp, e1⟩
  · cases e
theorem closL_nodup {env : Env} : ∀ {names : List (Str × NameKind)}, (names.map (·.1)).Nodup → ((closL env names).map (·.1)).Nodup
  | [], _ => List.nodup_nil
  | p :: names, h => by
    rw [List.map_cons, List.nodup_cons] at h
    have ih := closL_nodup (env := env) h.2
    unfold closL at ih ⊢
    rw [List.filterMap_cons]
    split
    · exact ih
    · rename_i q e
      rw [List.map_cons, List.nodup_cons]
      refine ⟨fun m => ?_, ih⟩
      have e1 : q.1 = p.1 := by
        split at e
        · obtain ⟨c', e1, e2⟩ := Option.map_eq_some_iff.mp e
          cases e2; rfl
        · cases e
      rw [e1] at m
      obtain ⟨r, hr, er⟩ := List.mem_map.mp m
      have hr' : (r.1, r.2) ∈ closL env names := hr
      have := (closL_mem hr').1
      rw [er] at this
      exact h.1 (List.mem_map.mpr ⟨_, this, rfl⟩)
structure ClosOk (env : Env) (kd : Kd) (scope : Scope) (cl : List (Str × Addr)) : Prop where
  back : ∀ x c, (x, c) ∈ cl → env.cells.lookup x = some c ∧ isCell (kd x) = true ∧ (x, NameKind.free) ∈ scope.names
  fwd : ∀ x, isCell (kdc kd scope x) = true → ∃ c, cl.lookup x = some c
  apart : cl.Pairwise fun x y => x.2 ≠ y.2
theorem kdc_lookup (kd : Kd) (x : Str) : ∀ (names : List (Str × NameKind)), (names.map fun (n, k) => if (k == .free && kd n == some .cell) then (n, NameKind.cell) else (n, k)).lookup x = (names.lookup x).map fun k => if (k == .free && kd x == some .cell) then NameKind.cell else k
  | [] => rfl
  | (n, k) :: names => by
    rw [List.map_cons]
    have hf : (if (k == NameKind.free && kd n == some .cell) = true then (n, NameKind.cell) else (n, k)) = (n, if (k == NameKind.free && kd n == some .cell) = true then NameKind.cell else k) := by split <;> rfl
    show List.lookup x ((if (k == NameKind.free && kd n == some .cell) = true then (n, NameKind.cell) else (n, k)) :: _) = _
    rw [hf, List.lookup_cons, List.lookup_cons]
    by_cases e : x = n
    · subst e
      simp only [beq_self_eq_true]; rfl
    · have e' : (x == n) = false := by simpa using e
      rw [e']
      exact kdc_lookup kd x names
theorem compOk_inv {kd : Kd} {ns : List Str} {scope : Scope} {tn : List Str} (h : compOk kd ns scope tn = true) : scope.kind = .function ∧ (scope.names.map (·.1)).Nodup ∧ (∀ p ∈ scope.names, p.2 ≠ .cell ∧ (p.2 = .free → isCell (kd p.1) = true) ∧ (p.2 = .local → p.1 ∈ tn ∨ ix ns p.1 = none)) ∧
    ∀ x ∈ tn, scope.names.lookup x = some .local := by
  unfold compOk at h
  simp only [Bool.and_eq_true, beq_iff_eq, List.all_eq_true] at h
  obtain ⟨⟨⟨h1, h2⟩, h3⟩, h4⟩ := h
  refine ⟨h1, nodupB_ok h2, fun p hp => ?_, h4⟩
  have := h3 p hp
  simp only [bne_iff_ne, Bool.or_eq_true, List.contains_iff_mem, beq_iff_eq] at this
  obtain ⟨⟨a, b⟩, c⟩ := this
  refine ⟨a, fun e => b.resolve_left fun q => q e, fun e => ?_⟩
  rcases c with (c | c) | c
  · exact absurd e c
  · exact .inl c
  · exact .inr c
theorem clos_ok {env : Env} {kd : Kd} {ns : List Str} {scope : Scope} {tn : List Str} {F : Fm} (hF : F.Ok) (he : F.env = env) (hk : env.kindOf = kd) (h : compOk kd ns scope tn = true) : ∃ cl, closureFor scope env = pure cl ∧ ClosOk env kd scope cl := by
  subst he
  obtain ⟨h1, h2, h3, h4⟩ := compOk_inv h
  refine ⟨_, clos_eq fun p hp e => ?_, ?_, ?_, ?_⟩
  · obtain ⟨c, hc⟩ := hF.cells p.1 (by rw [hk]; exact (h3 p hp).2.1 e)
    rw [hc]; rfl
  · intro x c hm
    have := closL_mem (List.mem_reverse.mp hm)
    exact ⟨this.2, (h3 _ this.1).2.1 rfl, this.1⟩
  · intro x hx
    have e : kdc kd scope x = _ := kdc_lookup kd x scope.names
    cases e1 : scope.names.lookup x with
    | none => rw [e, e1] at hx; cases hx
    | some k =>
      have hm := lookup_mem' e1
      obtain ⟨a, b, c⟩ := h3 _ hm
      have hfree : k = .free := by
        rw [e, e1] at hx
        cases k with
        | free => rfl
        | cell => exact absurd rfl a
        | _ => simp [isCell] at hx
      subst hfree
      obtain ⟨c, hc⟩ := hF.cells x (by rw [hk]; exact b rfl)
      refine ⟨c, lookup_of_mem ?_ (List.mem_reverse.mpr ?_)⟩
      · rw [List.map_reverse]; exact List.pairwise_reverse.mpr ((closL_nodup h2).imp fun h => Ne.symm h)
      · unfold closL
        rw [List.mem_filterMap]
        exact ⟨_, hm, by simp [hc]⟩
  · have hn : (((closL F.env scope.names).reverse).map (·.1)).Nodup := by rw [List.map_reverse]; exact List.pairwise_reverse.mpr ((closL_nodup h2).imp fun h => Ne.symm h)
    rw [List.Nodup, List.pairwise_map] at hn
    refine List.Pairwise.imp_of_mem (fun {p q} hp hq hne e => ?_) hn
    have a := (closL_mem (List.mem_reverse.mp hp)).2
    have b := (closL_mem (List.mem_reverse.mp hq)).2
    refine hne ?_
    rw [← e] at b
    exact name_of_addr hF.apart (PySem.mem_of_lookup a) (PySem.mem_of_lookup b)
section
variable {prog : Program} {w : World} {A : Around} {R : Result → Shared → Prop} {s : Shared}
noncomputable abbrev testsOf (ifs : List Expr) (env : Env) : Sem Bool := forIn ifs true fun c r => if r = true then do let ok ← PySem.isTrue c env (eval c env); pure (ForInStep.yield ok) else pure (ForInStep.yield r)
theorem comp_loop {elt target iter : Expr} {ifs : List Expr} {scope : Scope} {pos : Pos} {it acc : Value} {env : Env} (I : Nat → Shared → Prop)
    (turn : ∀ n s, I n s → wpAny (model prog w) A (pyNext it) (fun r s₁ => r.elim (R (.ok .next) s₁) fun v => wpAny (model prog w) A (letOwnedTupleGo target it v) (fun _ s₁' => wpAny (model prog w) A (assign target env v) (fun _ s₂ =>
          wpAny (model prog w) A (testsOf ifs env) (fun ok s₃ =>
            if ok = true then wpAny (model prog w) A (eval elt env) (fun x s₄ =>
              wpAny (model prog w) A (call (.builtin "list.append") [acc, x]) (fun _ s₅ => ∃ m, m < n ∧ I m s₅) NE s₄) NE s₃
            else ∃ m, m < n ∧ I m s₃) NE s₂) NE s₁') NE s₁) NE s)
    (n : Nat) (h : I n s) :
    codeAny (model prog w) A (.compLoop (.ListComp elt [⟨target, iter, ifs, 0⟩] scope pos) 0 it acc env) R s := by
  refine codeAny_loop rfl I (fun n s hI => ?_) n h
  show wpAny _ A ((compTurn (.ListComp elt [⟨target, iter, ifs, 0⟩] scope pos) 0 it acc env).onRaise (fun x => do noteFrame x env; theTreesLotGoes x)) _ _ s
  refine wpAny_noted ?_
  rw [compTurn_list]
  refine wpAny_bind (wpAny_standAt (wpAny_bind (wpAny_mono (turn n s hI) (fun r s₁ h₁ => ?_) fun _ _ f => f.elim)))
  cases r with
  | none => exact wpAny_pure h₁
  | some v =>
    refine wpAny_bind (wpAny_mono h₁ (fun _ s₁' h₁ => ?_) fun _ _ f => f.elim)
    refine wpAny_bind (wpAny_mono h₁ (fun _ s₂ h₂ => wpAny_bind (wpAny_mono h₂ (fun ok s₃ h₃ => ?_) fun _ _ f => f.elim)) fun _ _ f => f.elim)
    cases ok with
    | false => exact wpAny_pure ⟨rfl, h₃⟩
    | true =>
      exact wpAny_bind (wpAny_bind (wpAny_mono h₃ (fun x s₄ h₄ => wpAny_bind (wpAny_mono h₄ (fun _ s₅ h₅ => wpAny_pure (wpAny_pure ⟨rfl, h₅⟩)) fun _ _ f => f.elim)) fun _ _ f => f.elim))
theorem append_at' {l : Addr} {vs : List Value} {n : Nat} {x : Value} {Q : Value → Shared → Prop} (hl : IsL s.heap l vs.toArray n) (hsz : vs.length ≤ sizeLine)
    (hQ : ∀ h' n', IsL h' l (vs ++ [x]).toArray n' → Heap.SameBut l s.heap h' → Q .none { s with heap := h' }) : wpAny (model prog w) A (call (.builtin "list.append") [.ref l, x]) Q NE s :=
  wpAny_list_append_plain ⟨n, hl⟩ (fun h' ⟨n', e⟩ hs => hQ h' n' (by simpa using e) hs) (by rw [List.size_toArray]; exact hsz)
end
section
variable {G : Wd} {Y Y2 : AS} {F : Fm} {μ : Env1} {σ σ' : Sto} {s s' : Shared}
theorem St.overY (S : St G Y F μ σ s) (S' : S0 G Y2 σ' s') (x : E0 σ σ' s s') (sub : ∀ a, Y a → Y2 a) (new : ∀ a, Y2 a → Y a ∨ s.heap.get? a = none) : St G Y2 F μ σ' s' := by
  have mv : Mv (Mu Y σ) (Mu Y2 σ') s.heap s'.heap := fun b o hm hb => by
    have := x.mv b o hm hb
    refine ⟨this.1, fun m => ?_⟩
    rcases m with y | y
    · rcases new b y with y | y
      · exact hm (.inl y)
      · rw [y] at hb; cases hb
    · exact this.2 (.inr y)
  refine ⟨S', fun a f => sub a (S.frY a f), S.ok, S.above, ?_, fun q c hc => ?_⟩
  · obtain ⟨m, hn, hv⟩ := S.ns
    refine ⟨m, hn.at' fun o e => x.keep _ o (S.s0.sep _ (S.frY _ S.ok.locF)) e, fun q av h1 h2 => ?_⟩
    obtain ⟨v, e, r⟩ := hv q av h1 h2
    exact ⟨v, e, r.mv mv⟩
  · obtain ⟨ov, hi, hv⟩ := (S.over (σ' := σ) (s' := s) S.s0 .refl).cel q c hc
    obtain ⟨o, ho, hd⟩ := hi
    refine ⟨ov, ⟨o, x.keep c o ?_ ho, hd⟩, fun av h1 h2 => let ⟨v, e, r⟩ := hv av h1 h2; ⟨v, e, r.mv mv⟩⟩
    cases e : σ c with
    | none => rfl
    | some ao =>
      exfalso
      have := S.s0.objs c ao e
      cases ao with
      | list xs => obtain ⟨_, _, h1, _⟩ := this; have h1' := ho.symm.trans h1; cases h1'; cases hd
      | dict xs => obtain ⟨_, ⟨_, _, _, h1, _, h2, _⟩, _⟩ := this; have h1' := ho.symm.trans h1; cases h1'; rw [hd] at h2; cases h2
      | tset xs => obtain ⟨_, ⟨_, _, _, h1, _, h2, _⟩, _⟩ := this; have h1' := ho.symm.trans h1; cases h1'; rw [hd] at h2; cases h2
      | inst C fs => obtain ⟨_, _, _, _, h1, _⟩ := this; have h1' := ho.symm.trans h1; cases h1'; cases hd
theorem S0.adopt {D : Addr} {o : AO} (S : S0 G Y σ s) (hD : Y D) (sub : ∀ a, Y2 a → Y a ∧ a ≠ D) (sup : ∀ a, Y a → Y2 a ∨ a = D) (tp : Y2 G.tp) (ob : Ob G s.heap (Mu Y2 (sput σ D o)) D o) : S0 G Y2 (sput σ D o) s := by
  have hσ : σ D = none := S.sep D hD
  have eq : ∀ b, Mu Y2 (sput σ D o) b → Mu Y σ b := fun b m => by
    rcases m with y | y
    · exact .inl (sub b y).1
    · by_cases q : b = D
      · subst q; exact .inl hD
      · rw [sput_ne q] at y; exact .inr y
  refine ⟨S.rest, tp, S.base, fun a m => S.live a (eq a m), fun a y => ?_, fun a oa e => ?_⟩
  · rw [sput_ne (sub a y).2]; exact S.sep a (sub a y).1
  · by_cases q : a = D
    · subst q; rw [sput_self] at e; cases e; exact ob
    · rw [sput_ne q] at e
      exact (S.objs a oa e).mv (fun b x hm hb => ⟨hb, fun m => hm (eq b m)⟩) fun _ h => h
end
theorem ix_app_mem : ∀ {tn ns : List Str} {x : Str}, x ∈ tn → ∃ i, ix (tn ++ ns) x = some i ∧ i < tn.length
  | y :: tn, ns, x, h => by
    rw [List.cons_append]
    unfold ix
    by_cases e : y = x
    · exact ⟨0, by rw [if_pos e], Nat.succ_pos _⟩
    · rw [if_neg e]
      rcases List.mem_cons.mp h with h | h
      · exact absurd h.symm e
      · obtain ⟨i, h1, h2⟩ := ix_app_mem (ns := ns) h
        exact ⟨i + 1, by rw [h1]; rfl, Nat.succ_lt_succ h2⟩
theorem ix_app_not : ∀ {tn ns : List Str} {x : Str}, x ∉ tn → ix (tn ++ ns) x = (ix ns x).map (· + tn.length)
  | [], ns, x, _ => by
    rw [List.nil_append]
    cases ix ns x <;> rfl
  | y :: tn, ns, x, h => by
    rw [List.cons_append]
    have h1 : y ≠ x := fun e => h (e ▸ .head _)
    have h2 : x ∉ tn := fun m => h (.tail _ m)
    rw [ix, if_neg h1, ix_app_not h2]
    cases ix ns x <;> simp
    omega
theorem mu_comp_in {tn ns : List Str} {ρ : Rho} {x : Str} (h : x ∈ tn) : mu (tn ++ ns) (tn.map (fun _ => none) ++ ρ) x = none := by
  obtain ⟨i, h1, h2⟩ := ix_app_mem (ns := ns) h
  unfold mu
  rw [h1]
  show ((tn.map (fun _ => none) ++ ρ)[i]?).join = none
  rw [List.getElem?_append_left (by simpa using h2), List.getElem?_map]
  cases tn[i]? <;> rfl
theorem mu_comp_out {tn ns : List Str} {ρ : Rho} {x : Str} (h : x ∉ tn) : mu (tn ++ ns) (tn.map (fun _ => none) ++ ρ) x = mu ns ρ x := by
  unfold mu
  rw [ix_app_not h]
  cases ix ns x with
  | none => rfl
  | some i =>
    show ((tn.map (fun _ => none) ++ ρ)[i + tn.length]?).join = (ρ[i]?).join
    rw [List.getElem?_append_right (by simp)]
    simp
noncomputable def compF (F : Fm) (scope : Scope) (cl : List (Str × Addr)) (Cx : Addr) : Fm := ⟨compEnvC scope cl Cx F.env, fun b => b = Cx, false⟩
noncomputable abbrev Yc (Y fp : AS) (Cx D : Addr) : AS := fun a => (Y a ∨ fp a) ∨ (a = Cx ∨ a = D)
section
variable {G : Wd} {C : Ctr} {d : Nat}
theorem compF_kind {F : Fm} {kd : Kd} {scope : Scope} {cl : List (Str × Addr)} {Cx : Addr} (hF : F.Ok) (hk : F.env.kindOf = kd) : (compF F scope cl Cx).env.kindOf = kdc kd scope := by
  subst hk
  funext x
  show List.lookup x (scope.names.map fun (n, k) => if (k == NameKind.free && F.env.scope.kind == ScopeKind.function && F.env.kindOf n == some .cell) then (n, NameKind.cell) else (n, k)) = _
  rw [hF.kind]
  unfold kdc
  simp only [beq_self_eq_true, Bool.and_true]
theorem compF_ok {F : Fm} {kd : Kd} {ns : List Str} {scope : Scope} {tn : List Str} {cl : List (Str × Addr)} {Cx : Addr} {Y : AS} {μ : Env1} {σ : Sto} {s : Shared} (S : St G Y F μ σ s) (hk : F.env.kindOf = kd) (hco : compOk kd ns scope tn = true) (hcl : ClosOk F.env kd scope cl)
    (hC : s.heap.get? Cx = none) : (compF F scope cl Cx).Ok := by
  refine ⟨(compOk_inv hco).1, S.ok.glb, S.ok.blt, fun x hx => ?_, hcl.apart, fun n c hm e => ?_, fun e => (nomatch e), rfl⟩
  · rw [compF_kind S.ok hk] at hx
    exact hcl.fwd x hx
  · obtain ⟨ov, ⟨o, e', _⟩, _⟩ := S.cel n c (hcl.back n c (lookup_mem' hm)).1
    have e : c = Cx := e
    rw [e, hC] at e'; cases e'
theorem compF_st {F : Fm} {kd : Kd} {ns : List Str} {scope : Scope} {tn : List Str} {cl : List (Str × Addr)} {Cx : Addr} {Y Y2 : AS} {ρ : Rho} {σ : Sto} {s : Shared} {h' : Heap} {tk : Nat} (S : St G Y F (mu ns ρ) σ s) (hk : F.env.kindOf = kd) (hco : compOk kd ns scope tn = true) (hcl : ClosOk F.env kd scope cl)
    (hC : s.heap.get? Cx = none) (hab : G.s0.heap.objs.size ≤ Cx) (sub : ∀ a, Y a → Y2 a) (yC : Y2 Cx) (k : ∀ b o, s.heap.get? b = some o → h'.get? b = some o) (new : ∀ a, Y2 a → Y a ∨ (s.heap.get? a = none ∧ ∃ o, h'.get? a = some o)) {m : Str → Option Value} (hn : h'.Ns Cx m) :
    St G Y2 (compF F scope cl Cx) (mu (tn ++ ns) (tn.map (fun _ => none) ++ ρ)) σ { s with heap := h', toks := tk } := by
  have S' := S.enter tk sub k new
  obtain ⟨c1, c2, c3, c4⟩ := compOk_inv hco
  refine ⟨S'.s0, fun a e => e ▸ yC, compF_ok S hk hco hcl hC, hab, ⟨m, hn, fun x av h1 h2 => ?_⟩, fun x c hx => ?_⟩
  · exfalso
    rw [compF_kind S.ok hk] at h2
    have e : kdc kd scope x = _ := kdc_lookup kd x scope.names
    rw [e] at h2
    obtain ⟨k0, e1, e2⟩ := Option.map_eq_some_iff.mp h2
    have : k0 = .local := by
      split at e2
      · cases e2
      · exact e2
    subst this
    rcases (c3 _ (lookup_mem' e1)).2.2 rfl with h | h
    · rw [mu_comp_in h] at h1; cases h1
    · by_cases q : x ∈ tn
      · rw [mu_comp_in q] at h1; cases h1
      · rw [mu_comp_out q] at h1
        unfold mu at h1; rw [h] at h1; cases h1
  · have hm := lookup_mem' hx
    obtain ⟨b1, b2, b3⟩ := hcl.back x c hm
    obtain ⟨ov, hi, hv⟩ := S'.cel x c b1
    refine ⟨ov, hi, fun av h1 _ => hv av ?_ (by rw [hk]; exact b2)⟩
    have q : x ∉ tn := fun q => by
      have := lookup_of_mem c2 b3
      rw [c4 x q] at this; cases this
    rw [mu_comp_out q] at h1; exact h1
noncomputable def CEnd {α : Type} (G : Wd) (Y : AS) (F : Fm) (μ : Env1) (σ : Sto) (s : Shared) (mk : α → AO) (Qf : α → Sto → Prop) (acc : Value) (Cx : Addr) (s' : Shared) : Prop :=
  ∃ D ys σ', acc = .ref D ∧ St G (fun a => Y a ∨ a = Cx) F μ (sput σ' D (mk ys)) s' ∧ σ' D = none ∧ E0 σ (sput σ' D (mk ys)) s s' ∧ s.heap.get? Cx = none ∧ (∃ m, s'.heap.Ns Cx m) ∧ Qf ys σ'
noncomputable abbrev condOk (kd : Kd) (ns : List Str) (c : Ex) (ifs : List Expr) : Bool := match ifs with | [] => isTrueEx c | [z] => mE true kd ns c z | _ => false
theorem cond_ok {kd : Kd} {ns : List Str} {c : Ex} {ifs : List Expr} (IC : ST G C d c) (hm : condOk kd ns c ifs = true) {A : Around} {F : Fm} {Y : AS} {ρ : Rho} {σ : Sto} {Q : Bool → Sto → Prop} {s : Shared} (R : Rm A d) (hk : F.env.kindOf = kd)
    (S : St G Y F (mu ns ρ) σ s) (h : awE C c ρ σ fun v σ' => wS (boolOf v) fun b => Q b σ') : wpAny (model G.prog G.w) A (testsOf ifs F.env) (fun b s' => UPost G Y F (mu ns ρ) σ s (Q b) s') NE s := by
  match ifs, hm with
  | [], hm =>
    have : c = .bool true := by
      have hm : isTrueEx c = true := hm
      cases c with
      | bool b =>
        cases b with
        | true => rfl
        | false => exact absurd hm Bool.false_ne_true
      | _ => exact absurd hm Bool.false_ne_true
    subst this
    exact wpAny_pure ⟨σ, S, .refl, h⟩
  | [z], hm => exact wpAny_tests_one (IC kd ns z hm A F Y ρ σ Q s R hk S h)
structure Cs (G : Wd) where
  Y : AS
  F : Fm
  ns : List Str
  tn : List Str
  ρ : Rho
  σ : Sto
  s : Shared
  kd : Kd
  scope : Scope
  cl : List (Str × Addr)
  tgt : Expr
  S : St G Y F (mu ns ρ) σ s
  hk : F.env.kindOf = kd
  hco : compOk kd ns scope tn = true
  hcl : ClosOk F.env kd scope cl
structure Cm (A : Around) (c : Cs G) where
  I : Addr
  Cx : Addr
  D : Addr
  fp : AS
  It : Nat → Heap → AS → Prop
  xs : List PyData
  XI : Itr G A c.tgt I fp xs It
  hDC : D ≠ Cx
  fpne : ∀ b, fp b → b ≠ Cx ∧ b ≠ D
  pf : ∀ b, (fp b ∨ b = Cx ∨ b = D) → c.s.heap.get? b = none
theorem nos {α : Type} {o : Option α} {x : α} {p : Prop} (h1 : o = none) (h2 : o = some x) : p := nomatch h1.symm.trans h2
namespace Cm
variable {A : Around} {c : Cs G} {K : Cm A c} {i : Nat} {ρ₁ ρ₂ : Rho} {σ₁ σ₂ : Sto} {ao ao' : AO} {s₁ s₂ : Shared} {h' : Heap} {tk : Nat}
noncomputable abbrev Y' (K : Cm A c) : AS := Yc c.Y K.fp K.Cx K.D
noncomputable abbrev F' (K : Cm A c) : Fm := compF c.F c.scope c.cl K.Cx
noncomputable abbrev P (K : Cm A c) : AS := fun b => K.fp b ∨ b = K.Cx ∨ b = K.D
structure V (K : Cm A c) (i : Nat) (ρ' : Rho) (σ' : Sto) (ao : AO) (s' : Shared) : Prop where
  S : St G K.Y' K.F' (mu (c.tn ++ c.ns) ρ') σ' s'
  it : K.It i s'.heap (Mu K.Y' σ')
  ob : Ob G s'.heap (Mu K.Y' σ') K.D ao
  ep : EP K.P c.σ σ' c.s s'
theorem V.step (V : K.V i ρ₁ σ₁ ao s₁) (S : St G K.Y' K.F' (mu (c.tn ++ c.ns) ρ₂) σ₂ s₂) (e : EP (fun b => b = K.Cx) σ₁ σ₂ s₁ s₂) : K.V i ρ₂ σ₂ ao s₂ := by
  have mv : Mv (Mu K.Y' σ₁) (Mu K.Y' σ₂) s₁.heap s₂.heap := fun b o hm hb => by
    have hσ : σ₁ b = none := by
      cases z : σ₁ b with
      | none => rfl
      | some ao => exact absurd (.inr (some_ne z)) hm
    exact ⟨e.keep b o (fun z => hm (.inl (.inr (.inl z)))) hσ hb, fun m => m.elim (fun y => hm (.inl y)) fun y => nos (e.fresh b hσ y) hb⟩
  exact ⟨S, K.XI.frame i _ _ _ _ V.it (fun b o hb eb => e.keep b o (K.fpne b hb).1 (V.S.s0.sep b (.inl (.inr hb))) eb) mv, V.ob.mv mv fun o eo => e.keep K.D o K.hDC (V.S.s0.sep K.D (.inr (.inr rfl))) eo, V.ep.trans (e.mono fun b hb => .inr (.inl hb))⟩
theorem V.nxt (V : K.V i ρ₁ σ₁ ao s₁) (k : ∀ b o, ¬ K.fp b → s₁.heap.get? b = some o → h'.get? b = some o) (hI : K.It (i + 1) h' (Mu K.Y' σ₁)) : K.V (i + 1) ρ₁ σ₁ ao { s₁ with heap := h', toks := tk } := by
  have off : OffF K.F' K.fp := by
    refine ⟨fun f => (K.fpne _ f).1 rfl, fun y b hc f => ?_, fun a e f => (K.fpne _ f).1 e⟩
    obtain ⟨ov, ⟨o, e, _⟩, _⟩ := c.S.cel y b (c.hcl.back y b (lookup_mem' hc)).1
    exact nos (K.pf b (.inl f)) e
  have S₂ := V.S.privs tk (fun a f => .inl (.inr f)) off k (K.XI.live _ _ _ hI)
  exact ⟨S₂, hI, V.ob.mv (fun b o hm hb => ⟨k b o (fun f => hm (.inl (.inl (.inr f)))) hb, hm⟩) fun o eo => k _ o (fun f => (K.fpne _ f).2 rfl) eo, V.ep.trans (EP.priv (fun b o n e => k b o (fun f => n (.inl f)) e) fun b hb => (S₂.s0.live b (.inl (hb.elim (fun f => .inl (.inr f)) .inr))).2)⟩
theorem V.put (V : K.V i ρ₁ σ₁ ao s₁) (k : ∀ b o, b ≠ K.D → s₁.heap.get? b = some o → h'.get? b = some o) (aD : ∃ o, h'.get? K.D = some o) (hO : Mv (Mu K.Y' σ₁) (Mu K.Y' σ₁) s₁.heap h' → Ob G h' (Mu K.Y' σ₁) K.D ao') : K.V i ρ₁ σ₁ ao' { s₁ with heap := h', toks := tk } := by
  have off : OffF K.F' (fun b => b = K.D) := by
    refine ⟨fun e => K.hDC e.symm, fun y b hc e => ?_, fun a e f => K.hDC (f.symm.trans e)⟩
    obtain ⟨ov, ⟨o, e', _⟩, _⟩ := c.S.cel y b (c.hcl.back y b (lookup_mem' hc)).1
    exact nos (K.pf b (.inr (.inr e))) e'
  have S₂ := V.S.privs tk (fun a f => .inr (.inr f)) off k (fun a f => f ▸ aD)
  have mv : Mv (Mu K.Y' σ₁) (Mu K.Y' σ₁) s₁.heap h' := fun b o hm hb => ⟨k b o (fun f => hm (.inl (.inr (.inr f)))) hb, hm⟩
  exact ⟨S₂, K.XI.frame _ _ _ _ _ V.it (fun b o hb e => k b o (K.fpne b hb).2 e) mv, hO mv, V.ep.trans (EP.priv (fun b o n e => k b o (fun f => n (.inr (.inr f))) e) fun b hb => (S₂.s0.live b (.inl (hb.elim (fun f => .inl (.inr f)) .inr))).2)⟩
theorem V.fin {α : Type} {mk : α → AO} {ys : α} {Qf : α → Sto → Prop} (V : K.V i ρ₁ σ₁ (mk ys) s₁) (k : ∀ b o, ¬ K.fp b → s₁.heap.get? b = some o → h'.get? b = some o) (q : Qf ys σ₁) : CEnd G c.Y c.F (mu c.ns c.ρ) c.σ c.s mk Qf (.ref K.D) K.Cx { s₁ with heap := h', toks := tk } := by
  have hYY : ∀ b, K.P b → ¬ c.Y b := fun b hb y => by
    obtain ⟨_, o, e⟩ := c.S.s0.live b (.inl y)
    exact nos (K.pf b hb) e
  have O1 : S0 G (fun a => c.Y a ∨ (a = K.Cx ∨ a = K.D)) σ₁ { s₁ with heap := h', toks := tk } := V.S.s0.leave (fp := K.fp) tk (fun a y => y.elim (fun y => .inl (.inl y)) .inr) (.inl c.S.s0.tpY)
    (fun a f => ⟨.inl (.inr f), fun y => y.elim (hYY a (.inl f)) fun z => z.elim (K.fpne a f).1 (K.fpne a f).2⟩) k
  have mv : Mv (Mu K.Y' σ₁) (Mu (fun a => c.Y a ∨ a = K.Cx) (sput σ₁ K.D (mk ys))) s₁.heap h' := fun b o hm hb => by
    refine ⟨k b o (fun f => hm (.inl (.inl (.inr f)))) hb, fun m => ?_⟩
    rcases m with (y | y) | y
    · exact hm (.inl (.inl (.inl y)))
    · exact hm (.inl (.inr (.inl y)))
    · by_cases z : b = K.D
      · exact hm (.inl (.inr (.inr z)))
      · rw [sput_ne z] at y; exact hm (.inr y)
  have O2 : S0 G (fun a => c.Y a ∨ a = K.Cx) (sput σ₁ K.D (mk ys)) { s₁ with heap := h', toks := tk } := O1.adopt (.inr (.inr rfl)) (fun a y => y.elim (fun y => ⟨.inl y, fun z => hYY a (.inr (.inr z)) y⟩) fun y => ⟨.inr (.inl y), fun z => K.hDC (z.symm.trans y)⟩)
    (fun a y => y.elim (fun y => .inl (.inl y)) fun z => z.elim (fun z => .inl (.inr z)) .inr) (.inl c.S.s0.tpY) (V.ob.mv mv fun o eo => k _ o (fun f => (K.fpne _ f).2 rfl) eo)
  have ee : E0 c.σ (sput σ₁ K.D (mk ys)) c.s { s₁ with heap := h', toks := tk } := by
    refine ⟨fun b o e => ?_, fun b o h e => ?_, fun b h k => ?_⟩
    · obtain ⟨o', e'⟩ := V.ep.alive b o e
      exact ⟨o', k b o' (fun f => nos (K.pf b (.inl f)) e) e'⟩
    · exact k b o (fun f => nos (K.pf b (.inl f)) e) (V.ep.keep b o (fun p => nos (K.pf b p) e) h e)
    · by_cases z : b = K.D
      · exact K.pf b (.inr (.inr z))
      · rw [sput_ne z] at k; exact V.ep.fresh b h k
  obtain ⟨m, hn, _⟩ := V.S.ns
  exact ⟨K.D, ys, σ₁, rfl, c.S.overY O2 ee (fun a y => .inl y) (fun a y => y.imp id fun z => K.pf a (.inr (.inl z))), V.S.s0.sep K.D (.inr (.inr rfl)), ee, K.pf _ (.inr (.inl rfl)), ⟨m, hn.at' fun o e => k _ o (fun f => (K.fpne _ f).1 rfl) e⟩, q⟩
inductive Inv (K : Cm A c) {α : Type} (mk : α → AO) (go : List PyData → Rho → Sto → α → Prop) : Nat → Shared → Prop
  | at {i : Nat} {ρ' : Rho} {σ' : Sto} {ys : α} {s' : Shared} (hi : i ≤ K.xs.length) (V : K.V i ρ' σ' (mk ys) s') (q : go (K.xs.drop i) ρ' σ' ys) : Inv K mk go (K.xs.length - i) s'
theorem turn {d : Nat} (K : Cm A c) {t : Tg} (R : Rm A d) (hT : mT false (kdc c.kd c.scope) (c.tn ++ c.ns) t c.tgt = true) {α : Type} {mk : α → AO} {go go' : List PyData → Rho → Sto → α → Prop} {Qf : α → Sto → Prop}
    (h0 : ∀ {ρ σ ys}, go [] ρ σ ys → Qf ys σ) (h1 : ∀ {x xs ρ σ ys}, go (x :: xs) ρ σ ys → ∃ ρ₁, bindT ρ t (.d x) = some ρ₁ ∧ go' xs ρ₁ σ ys) {n : Nat} {s' : Shared} (hI : K.Inv mk go n s') {Rr B : Shared → Prop}
    (he : ∀ s'', CEnd G c.Y c.F (mu c.ns c.ρ) c.σ c.s mk Qf (.ref K.D) K.Cx s'' → Rr s'')
    (hb : ∀ i ρ₁ σ' ys s₃, (∀ ρ₂ σ₂ ys' s₄, K.V (i + 1) ρ₂ σ₂ (mk ys') s₄ → go (K.xs.drop (i + 1)) ρ₂ σ₂ ys' → ∃ m, m < n ∧ K.Inv mk go m s₄) → K.V (i + 1) ρ₁ σ' (mk ys) s₃ → go' (K.xs.drop (i + 1)) ρ₁ σ' ys → B s₃) :
    wpAny (model G.prog G.w) A (pyNext (.ref K.I)) (fun r s₁ => r.elim (Rr s₁) fun v => wpAny (model G.prog G.w) A (letOwnedTupleGo c.tgt (.ref K.I) v) (fun _ s₁' => wpAny (model G.prog G.w) A (assign c.tgt K.F'.env v) (fun _ s₂ => B s₂) NE s₁') NE s₁) NE s' := by
  cases hI with
  | @«at» i ρ' σ' ys _ hi V q =>
    cases hx : K.xs[i]? with
    | none =>
      have hil : i = K.xs.length := Nat.le_antisymm hi (List.getElem?_eq_none_iff.mp hx)
      subst hil
      rw [List.drop_length] at q
      exact wpAny_mono (K.XI.done s' _ Rr V.it fun h' tk k' => he _ (V.fin k' (h0 q))) (fun r s₁ hr => by rw [hr.1]; exact hr.2) fun _ _ f => f
    | some x =>
      have hlt := (List.getElem?_eq_some_iff.mp hx).1
      rw [(List.drop_eq_getElem_cons hlt).trans (congrArg (· :: _) (List.getElem?_eq_some_iff.mp hx).2)] at q
      obtain ⟨ρ₁, hbd, q⟩ := h1 q
      refine wpAny_mono (K.XI.next i s' _ x (fun v s₂ => wpAny (model G.prog G.w) A (assign c.tgt K.F'.env v) (fun _ s₂ => B s₂) NE s₂) hx V.it (fun b hb => .inl (.inl (.inr hb))) (fun b m => (V.S.s0.live b m).2) fun v h' tk rv hI k' => ?_) (fun r s₁ hr => by obtain ⟨v, e, h⟩ := hr; rw [e]; exact h) fun _ _ f => f
      have V₂ := V.nxt (tk := tk) k' hI
      exact tgt_ok (av := .d x) R.hh hT (compF_kind c.S.ok c.hk) (fun e => nomatch e) V₂.S rv hbd fun s₃ S₃ e₃ => hb i ρ₁ σ' ys s₃ (fun ρ₂ σ₂ ys' s₄ V q => ⟨_, Nat.sub_lt_sub_left hlt (Nat.lt_succ_self i), .at hlt V q⟩) (V₂.step S₃ e₃) q
end Cm
theorem comp_begin (X : Cx G C d) (c : Cs G) {A : Around} {first new : Sem Value} {P : List PyData → Sto → Prop} {o : Obj} {ao : AO} {T : Value → Value → Env → Shared → Prop}
    (hit : wpAny (model G.prog G.w) A first (fun v s₁ => wpAny (model G.prog G.w) A (pyIter v) (ItP G A c.tgt c.Y c.F (mu c.ns c.ρ) c.σ c.s P) NE s₁) NE c.s)
    (hf : o.isFreed = false) (hnew : ∀ (Q : Value → Shared → Prop) (s : Shared), Q (.ref s.heap.objs.size) { s with heap := s.heap.push o } → wpAny (model G.prog G.w) A new Q NE s)
    (hob : ∀ (h0 h' : Heap) (M : AS), (∀ o', (h0.push o).get? h0.objs.size = some o' → h'.get? h0.objs.size = some o') → (h0.objs.size == sysModules) = false → Ob G h' M h0.objs.size ao)
    (go : ∀ (K : Cm A c) σ₂ cenv s₄, cenv.locals = K.Cx → { cenv with scope := relabel c.scope c.F.env } = K.F'.env → K.V 0 (c.tn.map (fun _ => none) ++ c.ρ) σ₂ ao s₄ → P K.xs σ₂ → T (.ref K.I) (.ref K.D) cenv s₄) :
    wpAny (model G.prog G.w) A first (fun x s₁ => wpAny (model G.prog G.w) A (pyIter x) (fun it s₂ => wpAny (model G.prog G.w) A new (fun acc s₃ =>
      wpAny (model G.prog G.w) A (newFunctionEnv c.scope c.F.env.globals c.cl [] c.F.env.qual none .none (some c.F.env)) (fun cenv s₄ => T it acc cenv s₄) NE s₃) NE s₂) NE s₁) NE c.s := by
  refine wpAny_mono hit (fun x s₁ h₁ => wpAny_mono h₁ (fun it s₂ h₂ => ?_) fun _ _ f => f) fun _ _ f => f
  obtain ⟨I, fp, It, xs, σ₂, rfl, XI, hIt, S₂, e₂, hfp, q⟩ := h₂
  refine hnew _ _ (wpAny_newFunctionEnv (fun x hx => ((compOk_inv c.hco).2.2.1 x hx).1) (fun _ h => nomatch h) (fun h₁ hns₁ hsb₁ => ?_) (compOk_inv c.hco).1)
  have hCz : (s₂.heap.push o).objs.size = s₂.heap.objs.size + 1 := Heap.size_push _ _
  have hlt : s₂.heap.objs.size < (s₂.heap.push o).objs.size := hCz ▸ Nat.lt_succ_self _
  have nD : s₂.heap.get? s₂.heap.objs.size = none := size_none
  have nC : s₂.heap.get? (s₂.heap.push o).objs.size = none := get_none_of_size (Nat.le_of_lt hlt)
  have k : ∀ b o, s₂.heap.get? b = some o → h₁.get? b = some o := fun b _ e => hsb₁.extBut b _ (fun z => nos (z ▸ nC) e) (Heap.get?_push_of_some _ (Heap.get?_push_of_some _ e))
  have kD : ∀ o', (s₂.heap.push o).get? s₂.heap.objs.size = some o' → h₁.get? s₂.heap.objs.size = some o' := fun _ e => hsb₁.extBut _ _ (Nat.ne_of_lt hlt) (Heap.get?_push_of_some _ e)
  have aC : ∃ o', h₁.get? (s₂.heap.push o).objs.size = some o' := by obtain ⟨o', _, _, e, _⟩ := hns₁; exact ⟨o', e⟩
  have new : ∀ a, Yc c.Y fp (s₂.heap.push o).objs.size s₂.heap.objs.size a → orY c.Y fp a ∨ (s₂.heap.get? a = none ∧ ∃ o', h₁.get? a = some o') := fun a y => by
    rcases y with y | (rfl | rfl)
    · exact .inl y
    · exact .inr ⟨nC, aC⟩
    · exact .inr ⟨nD, _, kD _ (Heap.get?_push_size _ hf)⟩
  let K : Cm A c := ⟨I, (s₂.heap.push o).objs.size, s₂.heap.objs.size, fp, It, xs, XI, Nat.ne_of_lt hlt, fun b hb => by
    obtain ⟨_, e⟩ := XI.live _ _ _ hIt b hb
    exact ⟨fun z => nos (z ▸ nC) e, fun z => nos (z ▸ nD) e⟩, fun b hb => by
    rcases hb with hb | rfl | rfl
    · exact hfp b hb
    · exact fresh_back e₂ nC
    · exact fresh_back e₂ nD⟩
  have mv : Mv (Mu (orY c.Y fp) σ₂) (Mu K.Y' σ₂) s₂.heap h₁ := fun b _ hm hb => ⟨k b _ hb, fun m => m.elim (fun y => (new b y).elim (fun y => hm (.inl y)) fun z => nos z.1 hb) fun y => hm (.inr y)⟩
  have S₄ : ∀ tk, St G K.Y' K.F' (mu (c.tn ++ c.ns) (c.tn.map (fun _ => none) ++ c.ρ)) σ₂ { s₂ with heap := h₁, toks := tk } := fun _ => compF_st S₂ c.hk c.hco c.hcl nC (Nat.le_of_lt (Nat.lt_trans (S₂.s0.room X.ok) hlt)) (fun a y => .inl y) (.inr (.inl rfl)) k new hns₁
  exact go K σ₂ _ _ rfl rfl ⟨S₄ _, XI.frame 0 _ _ _ _ hIt (fun b _ _ e => k b _ e) mv, hob _ _ _ kD (fresh_mod X.ok S₂.s0), (EP.of e₂).trans (EP.of (E0.grow k))⟩ q
theorem names_local {scope : Scope} (hn : (scope.names.map (·.1)).Nodup) : ∀ x ∈ scope.names, x.2 = .local → scope.names.lookup x.1 = some .local := fun x hx e => lookup_of_mem hn (by rw [← e]; exact hx)
theorem list_run (X : Cx G C d) (c : Cs G) {elt cn : Ex} (IE : SV G C d elt) (IC : ST G C d cn) {t : Tg} {el iter : Expr} {ifs : List Expr} {pos p0 : Pos} (hT : mT false (kdc c.kd c.scope) (c.tn ++ c.ns) t c.tgt = true) (hel : mE false (kdc c.kd c.scope) (c.tn ++ c.ns) elt el = true)
    (hif : condOk (kdc c.kd c.scope) (c.tn ++ c.ns) cn ifs = true) {A : Around} (R : Rm A d) {use : Option (Value → Sem Unit)} {Q : Value → Shared → Prop} {Qf : List PyData → Sto → Prop} (hs : ∀ x, foldedSetIterable iter c.F.env x = pure x) (hc : closureFor c.scope c.F.env = pure c.cl)
    (hit : wpAny (model G.prog G.w) A (eval iter c.F.env) (fun v s₁ => wpAny (model G.prog G.w) A (pyIter v) (ItP G A c.tgt c.Y c.F (mu c.ns c.ρ) c.σ c.s fun xs σ' => cgo t (awE C elt) (awE C cn) xs (c.tn.map (fun _ => none) ++ c.ρ) σ' [] Qf) NE s₁) NE c.s)
    (fin : ∀ acc Cx s' fl, CEnd G c.Y c.F (mu c.ns c.ρ) c.σ c.s .list Qf acc Cx s' → compPost (model G.prog G.w) A NE use Q acc Cx (.ok fl) s') :
    wpAny (model G.prog G.w) A (comprehension (.ListComp el [⟨c.tgt, iter, ifs, 0⟩] c.scope pos) c.scope c.F.env p0 (newList []) false (eval iter c.F.env) use) Q NE c.s := by
  refine wpAny_comprehension_free (use := use) rfl hs hc (compOk_inv c.hco).1 (names_local (compOk_inv c.hco).2.1) (comp_begin X c (ao := .list []) hit rfl (fun Q s h => wpAny_newObj_type (T := "list") h) (fun h0 h' M hh _ => ⟨[], 0, hh _ (Heap.get?_push_size _ rfl), .nil⟩) fun K σ₂ cenv s₄ hcx hce V q => ?_)
  rw [hce, hcx]
  have loop : ∀ s₄, K.Inv .list (fun xs ρ σ ys => cgo t (awE C elt) (awE C cn) xs ρ σ ys Qf) K.xs.length s₄ → codeAny (model G.prog G.w) A (.compLoop (.ListComp el [⟨c.tgt, iter, ifs, 0⟩] c.scope pos) 0 (.ref K.I) (.ref K.D) K.F'.env) (compPost (model G.prog G.w) A NE use Q (.ref K.D) K.Cx) s₄ := fun s₄ h₄ => by
    refine comp_loop (K.Inv .list fun xs ρ σ ys => cgo t (awE C elt) (awE C cn) xs ρ σ ys Qf) (fun n s' hI => K.turn R hT (fun q => q) (fun q => wS_some q) hI (fun s'' h => fin _ _ _ _ h) fun i ρ₁ σ' ys s₃ go V q => ?_) _ h₄
    refine wpAny_mono (cond_ok IC hif R (compF_kind c.S.ok c.hk) V.S q) (fun ok s₄ h₄ => ?_) fun _ _ f => f
    obtain ⟨σ₄, S₄, e₄, q⟩ := h₄
    have V₄ := V.step S₄ (EP.of e₄)
    cases ok with
    | false => exact go ρ₁ σ₄ ys s₄ V₄ q
    | true =>
      refine (IE _ _ el hel A K.F' K.Y' ρ₁ σ₄ _ s₄ R (compF_kind c.S.ok c.hk) S₄ q).then fun y s₅ ay σ₅ S₅ e₅ r₅ q => ?_
      obtain ⟨dy, f1, f2, q2⟩ := wS_some q
      cases isD_some f1
      have V₅ := V₄.step S₅ (EP.of e₅)
      obtain ⟨vs, n, hl, rv⟩ := V₅.ob
      exact append_at' hl (by rw [rv.length]; omega) fun h' n' hl' hs => go ρ₁ σ₅ (ys ++ [dy]) _ (V₅.put hs.extBut ⟨_, hl'⟩ fun mv => ⟨_, n', hl', (rv.append (.one r₅)).mv mv⟩) q2
  have h0 := loop _ (.at (Nat.zero_le _) V q)
  exact codeAny_compStart_list h0 (wpAny_mono (K.XI.self 0 _ _ _ V.it h0) (fun _ _ h => h) fun _ _ f => f.elim)
end
theorem scut_sput {σ : Sto} {a : Addr} {o : AO} (h : σ a = none) : scut (sput σ a o) a = σ := by
  funext b
  by_cases e : b = a
  · subst e; rw [scut_self, h]
  · rw [scut_ne e, sput_ne e]
section
variable {G : Wd} {C : Ctr} {d : Nat}
theorem CEnd.leave {Y : AS} {F : Fm} {μ : Env1} {σ σ' : Sto} {s s' : Shared} {Cx : Addr} {h' : Heap} (S : St G Y F μ σ s) (S' : St G (fun a => Y a ∨ a = Cx) F μ σ' s') (e : E0 σ σ' s s') (sC : s.heap.get? Cx = none) (hs : Heap.SameBut Cx s'.heap h') :
    St G Y F μ σ' { s' with heap := h' } ∧ E0 σ σ' s { s' with heap := h' } := by
  have k : ∀ b o, ¬ b = Cx → s'.heap.get? b = some o → h'.get? b = some o := fun b o hb x => hs.extBut b o hb x
  have nY : ∀ a, a = Cx → ¬ Y a := fun a z y => by obtain ⟨_, o, x⟩ := S.s0.live a (.inl y); rw [z, sC] at x; cases x
  refine ⟨S'.leave (fp := fun b => b = Cx) s'.toks (fun a y => .inl y) S.s0.tpY S.frY (fun a z => ⟨.inr z, nY a z⟩) (OffF.of S fun b z => by rw [z]; exact sC) k, fun b o x => ?_, fun b o h x => ?_, e.fresh⟩
  · obtain ⟨o', x'⟩ := e.alive b o x
    exact ⟨o', k b o' (fun z => by rw [z, sC] at x; cases x) x'⟩
  · exact k b o (fun z => by rw [z, sC] at x; cases x) (e.keep b o h x)
theorem frozen {Y : AS} {F : Fm} {μ : Env1} {σ σ' : Sto} {s s' : Shared} {D : Addr} {ys : List PyData} {Q : AV → Sto → Prop} (S : St G Y F μ (sput σ' D (.list ys)) s') (e : E0 σ (sput σ' D (.list ys)) s s') (h : σ' D = none) (q : Q (.d (.list ys)) σ') : Post G Y F μ σ s Q (.ref D) s' := by
  have e2 : sput σ' D (.list ys) D = some (.list ys) := sput_self
  obtain ⟨vs, n, hl, rv⟩ := S.s0.objs D _ e2
  have L : Le σ' (sput σ' D (.list ys)) := by have := Le.cut (σ := sput σ' D (.list ys)) D; rw [scut_sput h] at this; exact this
  refine ⟨.d (.list ys), σ', S.over (S.s0.le L) (.le L), e.trans (.le L), VR.lst hl ?_ (rv.mv (L.mv _)), q⟩
  rintro (y | y)
  · have := S.s0.sep D y; rw [e2] at this; cases this
  · exact y h
theorem comp_end {Y : AS} {F : Fm} {μ : Env1} {σ : Sto} {s s' : Shared} {m : Bool} {Q : AV → Sto → Prop} {acc : Value} {Cx : Addr} (S : St G Y F μ σ s) {A : Around} {fl : Flow}
    (h : CEnd G Y F μ σ s .list (fun ys σ'' => if m then ∀ a, σ'' a = none → Q (.loc a) (sput σ'' a (.list ys)) else Q (.d (.list ys)) σ'') acc Cx s') :
    compPost (model G.prog G.w) A NE none (Post G Y F μ σ s Q) acc Cx (.ok fl) s' := by
  obtain ⟨D, ys, σ', rfl, S', hD, e, sC, ⟨mm, hn⟩, q⟩ := h
  refine ⟨mm, hn, fun h' hs => ?_⟩
  obtain ⟨S1, e1⟩ := CEnd.leave S S' e sC hs
  cases m with
  | true => exact ⟨.loc D, _, S1, e1, rfl, q D hD⟩
  | false => exact frozen S1 e1 hD q
theorem sv_comp (X : Cx G C d) {m : Bool} {elt it c : Ex} {t : Tg} {tn : List Str} (IE : SV G C d elt) (II : SV G C d it) (IC : ST G C d c) : SV G C d (.comp m elt t tn it c) := fun kd ns x hm A F Y ρ σ Q s R hk S h => by
  obtain ⟨el, target, iter, ifs, scope, pos, rfl, hg⟩ := mE_i_comp hm
  simp only [Bool.and_eq_true] at hg
  obtain ⟨⟨⟨⟨h1, h2⟩, h3⟩, h4⟩, h5⟩ := hg
  obtain ⟨cl, hcl, hc⟩ := clos_ok S.ok rfl hk h1
  exact list_run X ⟨Y, F, ns, tn, ρ, σ, s, kd, scope, cl, target, S, hk, h1, hc⟩ IE IC h2 h4 h5 R (fold_of h3 F.env) hcl (it_data II h3 (tgtOk_of h2) R hk S h) fun _ _ _ _ z => comp_end S z
theorem sv_compR (X : Cx G C d) {m : Bool} {elt n c : Ex} {t : Tg} {tn : List Str} (IE : SV G C d elt) (II : SV G C d n) (IC : ST G C d c) : SV G C d (.compR m elt t tn n c) := fun kd ns x hm A F Y ρ σ Q s R hk S h => by
  obtain ⟨el, target, y, p1, l, p2, ifs, scope, pos, rfl, hg⟩ := mE_i_compR hm
  simp only [Bool.and_eq_true] at hg
  obtain ⟨⟨⟨⟨⟨h1, h2⟩, h3⟩, h3'⟩, h4⟩, h5⟩ := hg
  obtain ⟨cl, hcl, hc⟩ := clos_ok S.ok rfl hk h1
  exact list_run X ⟨Y, F, ns, tn, ρ, σ, s, kd, scope, cl, target, S, hk, h1, hc⟩ IE IC h2 h4 h5 R (fun _ => rfl) hcl (rng_ok X II h3 h3' (tgtOk_of h2) R hk S h) fun _ _ _ _ z => comp_end S z
end
section
variable {prog : Program} {w : World} {A : Around} {R : Result → Shared → Prop} {s : Shared}
theorem comp_loopD {kx vx target iter : Expr} {scope : Scope} {pos : Pos} {it : Value} {D : Addr} {env : Env} (I : Nat → Shared → Prop)
    (turn : ∀ n s, I n s → wpAny (model prog w) A (pyNext it) (fun r s₁ => r.elim (R (.ok .next) s₁) fun v => wpAny (model prog w) A (letOwnedTupleGo target it v) (fun _ s₁' => wpAny (model prog w) A (assign target env v) (fun _ s₂ =>
          wpAny (model prog w) A (eval kx env) (fun kv s₄ => wpAny (model prog w) A (eval vx env) (fun vv s₅ =>
              wpAny (model prog w) A (dictSet D kv vv) (fun _ s₆ => ∃ m, m < n ∧ I m s₆) NE s₅) NE s₄) NE s₂) NE s₁') NE s₁) NE s)
    (n : Nat) (h : I n s) :
    codeAny (model prog w) A (.compLoop (.DictComp kx vx [⟨target, iter, [], 0⟩] scope pos) 0 it (.ref D) env) R s := by
  refine codeAny_loop rfl I (fun n s hI => ?_) n h
  show wpAny _ A ((compTurn (.DictComp kx vx [⟨target, iter, [], 0⟩] scope pos) 0 it (.ref D) env).onRaise (fun x => do noteFrame x env; theTreesLotGoes x)) _ _ s
  refine wpAny_noted ?_
  rw [compTurn_dict]
  refine wpAny_bind (wpAny_standAt (wpAny_bind (wpAny_mono (turn n s hI) (fun r s₁ h₁ => ?_) fun _ _ f => f.elim)))
  cases r with
  | none => exact wpAny_pure h₁
  | some v =>
    refine wpAny_bind (wpAny_mono h₁ (fun _ s₁' h₁ => ?_) fun _ _ f => f.elim)
    refine wpAny_bind (wpAny_mono h₁ (fun _ s₂ h₂ => wpAny_bind (wpAny_pure ?_)) fun _ _ f => f.elim)
    exact wpAny_bind (wpAny_bind (wpAny_mono h₂ (fun kv s₄ h₄ => wpAny_bind (wpAny_holding (wpAny_mono h₄ (fun vv s₅ h₅ => wpAny_bind (wpAny_standAt (wpAny_holding (wpAny_mono h₅ (fun _ s₆ h₆ => wpAny_pure ⟨rfl, h₆⟩) fun _ _ f => f.elim)))) fun _ _ f => f.elim))) fun _ _ f => f.elim))
end
section
variable {G : Wd} {C : Ctr} {d : Nat}
theorem dict_run (X : Cx G C d) (c : Cs G) {ek ev : Ex} (IE : SV G C d ek) (IW : SV G C d ev) {kx vx iter : Expr} {pos p0 : Pos} (hT : mT false (kdc c.kd c.scope) (c.tn ++ c.ns) (.one 0) c.tgt = true) (hel : mE false (kdc c.kd c.scope) (c.tn ++ c.ns) ek kx = true)
    (hel' : mE false (kdc c.kd c.scope) (c.tn ++ c.ns) ev vx = true) {A : Around} (R : Rm A d) {use : Option (Value → Sem Unit)} {Q : Value → Shared → Prop} {Qf : List (Str × PyData) → Sto → Prop} (hs : ∀ x, foldedSetIterable iter c.F.env x = pure x) (hc : closureFor c.scope c.F.env = pure c.cl)
    (hit : wpAny (model G.prog G.w) A (eval iter c.F.env) (fun v s₁ => wpAny (model G.prog G.w) A (pyIter v) (ItP G A c.tgt c.Y c.F (mu c.ns c.ρ) c.σ c.s fun xs σ' => dgo (awE C ek) (awE C ev) xs (c.tn.map (fun _ => none) ++ c.ρ) σ' [] Qf) NE s₁) NE c.s)
    (fin : ∀ acc Cx s' fl, CEnd G c.Y c.F (mu c.ns c.ρ) c.σ c.s .dict Qf acc Cx s' → compPost (model G.prog G.w) A NE use Q acc Cx (.ok fl) s') :
    wpAny (model G.prog G.w) A (comprehension (.DictComp kx vx [⟨c.tgt, iter, [], 0⟩] c.scope pos) c.scope c.F.env p0 newDict false (eval iter c.F.env) use) Q NE c.s := by
  refine wpAny_comprehension_free (use := use) rfl hs hc (compOk_inv c.hco).1 (names_local (compOk_inv c.hco).2.1) (comp_begin X c (ao := .dict []) hit rfl (fun Q s h => wpAny_newObj_type (T := "dict") (data := .dict #[]) h (by first | trivial | size_fits | simp [sizeOk])) (fun h0 h' M hh hm => ⟨[], (Heap.DictOf.new h0).at hh, .nil, hm⟩) fun K σ₂ cenv s₄ hcx hce V q => ?_)
  rw [hce, hcx]
  have loop : ∀ s₄, K.Inv .dict (fun xs ρ σ ys => dgo (awE C ek) (awE C ev) xs ρ σ ys Qf) K.xs.length s₄ → codeAny (model G.prog G.w) A (.compLoop (.DictComp kx vx [⟨c.tgt, iter, [], 0⟩] c.scope pos) 0 (.ref K.I) (.ref K.D) K.F'.env) (compPost (model G.prog G.w) A NE use Q (.ref K.D) K.Cx) s₄ := fun s₄ h₄ => by
    refine comp_loopD (K.Inv .dict fun xs ρ σ ys => dgo (awE C ek) (awE C ev) xs ρ σ ys Qf) (fun n s' hI => K.turn R hT (fun q => q) (fun q => wS_some q) hI (fun s'' h => fin _ _ _ _ h) fun i ρ₁ σ' ys s₃ go V q => ?_) _ h₄
    refine (IE _ _ kx hel A K.F' K.Y' ρ₁ σ' _ s₃ R (compF_kind c.S.ok c.hk) V.S q).then fun ky s₄ ak σ₄ S₄ e₄ rk q => ?_
    refine (IW _ _ vx hel' A K.F' K.Y' ρ₁ σ₄ _ s₄ R (compF_kind c.S.ok c.hk) S₄ q).then fun y s₅ ay σ₅ S₅ e₅ r₅ q => ?_
    obtain ⟨dk, f1, q2⟩ := wS_some q
    obtain ⟨ks, f2, q3⟩ := wS_some q2
    obtain ⟨dy, f3, f4, q4⟩ := wS_some q3
    cases isD_some f1
    cases strOf_some f2
    cases isD_some f3
    obtain ⟨tk0, rfl⟩ := VR.str_inv rk
    have V₅ := (V.step S₄ (EP.of e₄)).step S₅ (EP.of e₅)
    obtain ⟨vs, hl, rv, dm⟩ := V₅.ob
    unfold dictSet
    refine wpAny_holding (wpAny_bind ((strKind G.prog G.w).pyHash (strKind_is G.prog G.w ks tk0) ?_))
    refine wpAny_dictSetHashed_pairs (knd := strKind G.prog G.w) (strKind_is G.prog G.w ks tk0) (s := { s₅ with toks := s₅.toks + 1 }) hl (fun h'' hl'' hs => ?_) (by rw [rv.length]; omega)
    refine go ρ₁ σ₅ (dput ys ks dy) _ (V₅.put hs.extBut ?_ fun mv => ⟨_, hl'', (rv.put r₅).mv mv, dm⟩) q4
    obtain ⟨o, _, _, e, _⟩ := hl''
    exact ⟨o, e⟩
  have h0 := loop _ (.at (Nat.zero_le _) V q)
  exact codeAny_compStart_dict h0 (wpAny_mono (K.XI.self 0 _ _ _ V.it h0) (fun _ _ h => h) fun _ _ f => f.elim)
end
section
variable {prog : Program} {w : World} {A : Around} {E : Value → Shared → Prop} {s : Shared}
theorem nextOf_tuple_item {it l : Addr} {i : Nat} {items : Array Value} {x : Value} {Q : Value → Shared → Prop} (hit : s.heap.IsTupleIter it l i)
    (hl : s.heap.IsTuple l items) (hx : items[i]? = some x)
    (hQ : ∀ h', h'.IsTupleIter it l (i + 1) → Heap.SameBut it s.heap h' → Q x { s with heap := h' }) :
    wpAny (model prog w) A (Builtin.SmallTypes.nextOf (.ref it)) Q E s := by
  obtain ⟨o, ho, hc, hd⟩ := id hit
  obtain ⟨ol, hol, _, nl, hdl⟩ := hl
  unfold Builtin.SmallTypes.nextOf
  refine wpAny_bind (wpAny_callSpecial?_slot (name := Str.ofString "__next__") hit.typeIs PySem.F.slot_tuple_iterator_next
    (wpAny_call_entry PySem.F.slot_tuple_iterator_next hit.typeIs PySem.F.entry_tuple_iterator_next ?_ (PySem.F.args_tuple_iterator_next_1 _)))
  show wpAny _ _ (field (.ref it) 0 >>= _) _ _ s
  refine wpAny_bind (wpAny_field ho hd (x := .ref l) rfl ?_)
  show wpAny _ _ (if (Value.ref l == Value.none) = true then _ else _) _ _ s
  rw [if_neg (show ¬ ((Value.ref l == Value.none) = true) from Bool.false_ne_true)]
  show wpAny _ _ (field (.ref it) 1 >>= _) _ _ s
  refine wpAny_bind (wpAny_field ho hd (x := .int i 0) rfl ?_)
  show wpAny _ _ (seqItems? (.ref l) >>= _) _ _ s
  refine wpAny_bind (wpAny_seqItems hol hdl ?_)
  simp only [Int.toNat_natCast, hx]
  refine wpAny_bind (wpAny_setField ho hd (by simp) (wpAny_pure ⟨x, rfl, wpAny_pure (hQ _ ?_ (Heap.SameBut.update ..))⟩))
  exact ⟨_, Heap.get?_update_self _ ho (Obj.isFreed_of_fields (Obj.data_mapFields hd _)), (Obj.cls_mapFields ..).trans hc, by
    rw [Obj.data_mapFields hd]; simp [rawInt]⟩
theorem nextOf_tuple_end {it l : Addr} {i : Nat} {items : Array Value} {Q : Value → Shared → Prop} (hh : A.handled = none)
    (hit : s.heap.IsTupleIter it l i) (hl : s.heap.IsTuple l items) (hx : items[i]? = none)
    (hE : ∀ h' e, Heap.ExtBut it s.heap h' → (∃ o, h'.get? e = some o ∧ o.cls = .type "StopIteration") → E (.ref e) { s with heap := h' }) :
    wpAny (model prog w) A (Builtin.SmallTypes.nextOf (.ref it)) Q E s := by
  obtain ⟨o, ho, hc, hd⟩ := id hit
  obtain ⟨ol, hol, _, nl, hdl⟩ := hl
  unfold Builtin.SmallTypes.nextOf
  refine wpAny_bind (wpAny_callSpecial?_slot (name := Str.ofString "__next__") hit.typeIs PySem.F.slot_tuple_iterator_next
    (wpAny_call_entry PySem.F.slot_tuple_iterator_next hit.typeIs PySem.F.entry_tuple_iterator_next ?_ (PySem.F.args_tuple_iterator_next_1 _)))
  show wpAny _ _ (field (.ref it) 0 >>= _) _ _ s
  refine wpAny_bind (wpAny_field ho hd (x := .ref l) rfl ?_)
  show wpAny _ _ (if (Value.ref l == Value.none) = true then _ else _) _ _ s
  rw [if_neg (show ¬ ((Value.ref l == Value.none) = true) from Bool.false_ne_true)]
  show wpAny _ _ (field (.ref it) 1 >>= _) _ _ s
  refine wpAny_bind (wpAny_field ho hd (x := .int i 0) rfl ?_)
  show wpAny _ _ (seqItems? (.ref l) >>= _) _ _ s
  refine wpAny_bind (wpAny_seqItems hol hdl ?_)
  simp only [Int.toNat_natCast, hx]
  refine wpAny_bind (wpAny_rule (wpAny_bind (wpAny_setField ho hd (by simp) ?_)))
  show wpAny _ _ (newExc (.type "StopIteration") [] >>= _) _ _ _
  refine wpAny_bind ?_
  simp only [newExc, newTuple]
  refine wpAny_bind (wpAny_newObj_type ?_ (by size_fits))
  refine wpAny_bind (m := firstArgMember _ _) (wpAny_of_eq (a := Value.none) (by first | rfl | (simp only [firstArgMember]; rfl)) ?_)
  refine wpAny_newObj_type ?_ (by size_fits)
  simp only [raiseNew]
  refine wpAny_bind (wpAny_handled ?_)
  first | rw [show A.in1.handled = none from hh] | rw [hh]
  refine wpAny_bind (wpAny_pure (wpAny_throw ?_))
  exact hE _ _ (((Heap.SameBut.update ..).extBut.push _).push _) ⟨_, Heap.get?_push_size _ rfl, rfl⟩
end
noncomputable def IsIt (h : Heap) (it l : Addr) (vs : List Value) (i : Nat) : Prop := (h.IsListIter it l i ∧ h.IsList l vs.toArray) ∨ (h.IsTupleIter it l i ∧ h.IsTuple l vs.toArray)
section
variable {prog : Program} {w : World} {A : Around} {E : Value → Shared → Prop} {s : Shared}
theorem IsIt.live {h : Heap} {it l : Addr} {vs : List Value} {i : Nat} (x : IsIt h it l vs i) : ∃ o, h.get? it = some o := by
  rcases x with ⟨⟨o, e, _⟩, _⟩ | ⟨⟨o, e, _⟩, _⟩ <;> exact ⟨o, e⟩
theorem IsIt.at {h h' : Heap} {it l : Addr} {vs : List Value} {i : Nat} (x : IsIt h it l vs i) (k1 : ∀ o, h.get? it = some o → h'.get? it = some o) (k2 : ∀ o, h.get? l = some o → h'.get? l = some o) : IsIt h' it l vs i := by
  rcases x with ⟨a, b⟩ | ⟨a, b⟩
  · exact .inl ⟨a.at k1, b.at k2⟩
  · exact .inr ⟨a.at k1, let ⟨o, e, r⟩ := b; ⟨o, k2 o e, r⟩⟩
theorem IsIt.next {it l : Addr} {vs : List Value} {i : Nat} {x : Value} {Q : Value → Shared → Prop} (hne : l ≠ it) (hit : IsIt s.heap it l vs i) (hx : vs[i]? = some x)
    (hQ : ∀ h', IsIt h' it l vs (i + 1) → Heap.SameBut it s.heap h' → Q x { s with heap := h' }) : wpAny (model prog w) A (Builtin.SmallTypes.nextOf (.ref it)) Q E s := by
  rcases hit with ⟨a, b⟩ | ⟨a, b⟩
  · exact wpAny_nextOf_list_item a b (by simpa using hx) fun h' c hs => hQ h' (.inl ⟨c, b.extBut hs.extBut hne⟩) hs
  · exact nextOf_tuple_item a b (by simpa using hx) fun h' c hs => hQ h' (.inr ⟨c, let ⟨o, e, r⟩ := b; ⟨o, hs.extBut l o hne e, r⟩⟩) hs
theorem IsIt.stop {it l : Addr} {vs : List Value} {i : Nat} {Q : Value → Shared → Prop} (hh : A.handled = none) (hit : IsIt s.heap it l vs i) (hx : vs[i]? = none)
    (hE : ∀ h' e, Heap.ExtBut it s.heap h' → (∃ o, h'.get? e = some o ∧ o.cls = .type "StopIteration") → E (.ref e) { s with heap := h' }) : wpAny (model prog w) A (Builtin.SmallTypes.nextOf (.ref it)) Q E s := by
  rcases hit with ⟨a, b⟩ | ⟨a, b⟩
  · exact wpAny_nextOf_list_end hh a b (by simpa using hx) hE
  · exact nextOf_tuple_end hh a b (by simpa using hx) hE
theorem wpAny_loadAlive {M : Model} {a : Addr} {Q : Option Obj → Shared → Prop} (h : Q (s.heap.get? a) s) : wpAny M A (loadIfAlive a) Q E s := fun Γ p hΓ => by
  unfold loadIfAlive
  rw [Sem.wp_loadIfAlive]
  exact h
noncomputable abbrev ZipO (h : Heap) (z TI TO : Addr) (f0 f1 : Value) : Prop :=
  h.get? z = some { cls := .type "zip", dict := none, data := .fields #[f0, f1, .bool false, .ref TI, .ref TO], slots := #[] }
theorem zip_free {z TI TO : Addr} {f0 : Value} {b1 : Bool} {Q : Bool → Shared → Prop} (hz : ZipO s.heap z TI TO f0 (.bool b1)) (h0 : f0 = .none ∨ ∃ T : Nat, f0 = rawInt T)
    (h1 : Q true s) (h2 : ∀ h', ZipO h' z TI TO f0 (.bool true) → Heap.SameBut z s.heap h' → Q false { s with heap := h' }) : wpAny (model prog w) A (Builtin.SmallTypes.ownedTupleIsFree (.ref z)) Q E s := by
  unfold Builtin.SmallTypes.ownedTupleIsFree
  refine wpAny_bind (wpAny_field hz rfl (x := f0) rfl ?_)
  rcases h0 with rfl | ⟨T, rfl⟩
  · exact wpAny_pure h1
  · show wpAny _ _ (loadIfAlive _ >>= _) _ _ _
    refine wpAny_bind (wpAny_loadAlive ?_)
    cases e : s.heap.get? (T : Int).toNat with
    | none => exact wpAny_pure h1
    | some o =>
      show wpAny _ _ (field (.ref z) 1 >>= _) _ _ _
      refine wpAny_bind (wpAny_field hz rfl (x := .bool b1) rfl ?_)
      cases b1 with
      | true =>
        have hs : Heap.SameBut z s.heap s.heap := ⟨rfl, fun _ _ => rfl⟩
        exact wpAny_pure (h2 s.heap hz hs)
      | false =>
        show wpAny _ _ (setField (.ref z) 1 (.bool true) >>= _) _ _ _
        refine wpAny_bind (wpAny_setField_rec hz (by simp) fun h' hz' hs => wpAny_pure ?_)
        exact h2 h' (by simpa using hz') hs
theorem zip_turn {z TI TO i1 i2 l1 l2 : Addr} {k : Nat} {us vs : List Value} {x y a b : Value} {f0 : Value} {b1 : Bool} {Q : Value → Shared → Prop} (D : ZipApart z TI TO i1 i2 l1 l2) (hTT : TI ≠ TO)
    (hz : ZipO s.heap z TI TO f0 (.bool b1)) (h0 : f0 = .none ∨ ∃ T : Nat, f0 = rawInt T) (hTI : IsPair s.heap TI (.ref i1) (.ref i2)) (hTO : IsPair s.heap TO a b) (d1 : IsIt s.heap i1 l1 us k) (d2 : IsIt s.heap i2 l2 vs k) (hx : us[k]? = some x) (hy : vs[k]? = some y)
    (hQ : ∀ h' T f1 b1' a' b', ZipO h' z TI TO f1 (.bool b1') → (f1 = .none ∨ ∃ T : Nat, f1 = rawInt T) → IsPair h' TI (.ref i1) (.ref i2) → IsPair h' TO a' b' → IsIt h' i1 l1 us (k + 1) → IsIt h' i2 l2 vs (k + 1) → IsPair h' T x y → s.heap.get? T = none →
      (∀ c o, c ≠ z → c ≠ TO → c ≠ i1 → c ≠ i2 → s.heap.get? c = some o → h'.get? c = some o) → Q (.ref T) { s with heap := h' }) :
    wpAny (model prog w) A (Builtin.«zip.__next__» ⟨[.ref z], []⟩) (fun fin s' => ∃ v, fin = .done (.ret v) ∧ Q v s') E s := by
  show wpAny _ _ (field (.ref z) 2 >>= _) _ _ _
  refine wpAny_bind (wpAny_field hz rfl (x := .bool false) rfl ?_)
  show wpAny _ _ (field (.ref z) 3 >>= _) _ _ _
  refine wpAny_bind (wpAny_field hz rfl (x := .ref TI) rfl ?_)
  refine wpAny_bind (wpAny_seqItems hTI rfl ?_)
  show wpAny _ _ (Builtin.SmallTypes.ownedTupleIsFree (.ref z) >>= _) _ _ _
  refine wpAny_bind (zip_free hz h0 ?_ fun h₀ hz₀ hs₀ => ?_)
  · simp only [if_true]
    refine wpAny_bind (wpAny_rule ?_)
    refine wpAny_bind (wpAny_field hz rfl (x := .ref TO) rfl ?_)
    refine wpAny_bind (wpAny_setField_rec hz (by simp) fun h₁ hz₁ hs₁ => ?_)
    have hz₁ : ZipO h₁ z TI TO .ellipsis (.bool b1) := by simpa using hz₁
    refine wpAny_bind ?_
    simp only [List.zipIdx_cons, List.zipIdx_nil, List.forIn_cons, List.forIn_nil]
    refine wpAny_bind (wpAny_bind (wpAny_onRaise ?_))
    show wpAny _ _ (Builtin.SmallTypes.nextOf (.ref i1) >>= _) _ _ _
    refine wpAny_bind (IsIt.next (s := { s with heap := h₁ }) D.l1i1 (d1.at (fun o e => hs₁.extBut _ o D.i1z e) (fun o e => hs₁.extBut _ o D.l1z e)) hx fun h₂ d1₂ hs₂ => wpAny_pure ?_)
    have hTO₂ : IsPair h₂ TO a b := hs₂.extBut _ _ D.TOi1 (hs₁.extBut _ _ D.TOz hTO)
    refine wpAny_bind (wpAny_seqItems hTO₂ rfl ?_)
    refine wpAny_bind (wpAny_updateSeq_pair hTO₂ fun h₃ hTO₃ hs₃ => ?_)
    have hTO₃ : IsPair h₃ TO x b := hTO₃
    refine wpAny_bind (wpAny_letGo (wpAny_pure ?_))
    refine wpAny_bind (wpAny_bind (wpAny_onRaise ?_))
    show wpAny _ _ (Builtin.SmallTypes.nextOf (.ref i2) >>= _) _ _ _
    refine wpAny_bind (IsIt.next (s := { s with heap := h₃ }) D.l2i2 (d2.at (fun o e => hs₃.extBut _ o D.TOi2.symm (hs₂.extBut _ o D.i12.symm (hs₁.extBut _ o D.i2z e))) (fun o e => hs₃.extBut _ o D.l2TO (hs₂.extBut _ o D.l2i1 (hs₁.extBut _ o D.l2z e)))) hy fun h₄ d2₄ hs₄ => wpAny_pure ?_)
    have hTO₄ : IsPair h₄ TO x b := hs₄.extBut _ _ D.TOi2 hTO₃
    refine wpAny_bind (wpAny_seqItems hTO₄ rfl ?_)
    refine wpAny_bind (wpAny_updateSeq_pair hTO₄ fun h₅ hTO₅ hs₅ => ?_)
    have hTO₅ : IsPair h₅ TO x y := hTO₅
    refine wpAny_bind (wpAny_letGo (wpAny_pure (wpAny_pure ?_)))
    refine wpAny_bind (wpAny_seqItems hTO₅ rfl ?_)
    refine wpAny_bind (wpAny_newTuple ?_)
    have hsz : h₅.objs.size = s.heap.objs.size := by rw [hs₅.1, hs₄.1, hs₃.1, hs₂.1, hs₁.1]
    have hz₅ : ZipO h₅ z TI TO .ellipsis (.bool b1) := hs₅.extBut _ _ D.TOz.symm (hs₄.extBut _ _ D.i2z.symm (hs₃.extBut _ _ D.TOz.symm (hs₂.extBut _ _ D.i1z.symm hz₁)))
    have hk₅ : ∀ c o, c ≠ z → c ≠ TO → c ≠ i1 → c ≠ i2 → s.heap.get? c = some o → h₅.get? c = some o := fun c o c1 c2 c3 c4 e =>
      hs₅.extBut _ _ c2 (hs₄.extBut _ _ c4 (hs₃.extBut _ _ c2 (hs₂.extBut _ _ c3 (hs₁.extBut _ _ c1 e))))
    have d1₅ : IsIt h₅ i1 l1 us (k + 1) := d1₂.at (fun o e => hs₅.extBut _ o D.TOi1.symm (hs₄.extBut _ o D.i12 (hs₃.extBut _ o D.TOi1.symm e))) fun o e => hs₅.extBut _ o D.l1TO (hs₄.extBut _ o D.l1i2 (hs₃.extBut _ o D.l1TO e))
    have d2₅ : IsIt h₅ i2 l2 vs (k + 1) := d2₄.at (fun o e => hs₅.extBut _ o D.TOi2.symm e) fun o e => hs₅.extBut _ o D.l2TO e
    have hzlt : z < h₅.objs.size := Heap.lt_size hz₅
    show wpAny _ _ (Builtin.SmallTypes.ownedTupleHandOut (.ref z) (.ref h₅.objs.size) >>= _) _ _ _
    refine wpAny_bind ?_
    unfold Builtin.SmallTypes.ownedTupleHandOut
    have hz₆ : ZipO (h₅.push { cls := .type "tuple", data := .seq #[x, y] }) z TI TO .ellipsis (.bool b1) := Heap.get?_push_of_some _ hz₅
    refine wpAny_bind (wpAny_setField_rec hz₆ (by simp) fun h₇ hz₇ hs₇ => ?_)
    have hz₇ : ZipO h₇ z TI TO (rawInt h₅.objs.size) (.bool b1) := by simpa using hz₇
    refine wpAny_setField_rec hz₇ (by simp) fun h₈ hz₈ hs₈ => ?_
    have hz₈ : ZipO h₈ z TI TO (rawInt h₅.objs.size) (.bool false) := by simpa using hz₈
    have up : ∀ c o, c ≠ z → h₅.get? c = some o → h₈.get? c = some o := fun c o c1 e => hs₈.extBut _ _ c1 (hs₇.extBut _ _ c1 (Heap.get?_push_of_some _ e))
    have hT₈ : IsPair h₈ h₅.objs.size x y := hs₈.extBut _ _ (Nat.ne_of_gt hzlt) (hs₇.extBut _ _ (Nat.ne_of_gt hzlt) (Heap.get?_push_size _ rfl))
    refine wpAny_pure ⟨_, rfl, ?_⟩
    exact hQ h₈ _ _ _ _ _ hz₈ (.inr ⟨_, rfl⟩) (up _ _ D.TIz (hk₅ _ _ D.TIz hTT D.TIi1 D.TIi2 hTI)) (up _ _ D.TOz hTO₅) (d1₅.at (fun o e => up _ o D.i1z e) fun o e => up _ o D.l1z e) (d2₅.at (fun o e => up _ o D.i2z e) fun o e => up _ o D.l2z e) hT₈
      (by rw [hsz]; exact size_none) fun c o c1 c2 c3 c4 e => up c o c1 (hk₅ c o c1 c2 c3 c4 e)
  · simp only [Bool.false_eq_true, if_false]
    refine wpAny_bind ?_
    simp only [List.forIn_toArray, List.forIn_cons, List.forIn_nil]
    have k₀ : ∀ c o, c ≠ z → s.heap.get? c = some o → h₀.get? c = some o := fun c o c1 e => hs₀.extBut c o c1 e
    refine wpAny_bind (wpAny_bind (wpAny_holding ?_))
    show wpAny _ _ (Builtin.SmallTypes.nextOf (.ref i1) >>= fun v => pure (some v)) _ _ _
    refine wpAny_bind (IsIt.next (s := { s with heap := h₀ }) D.l1i1 (d1.at (fun o e => k₀ _ o D.i1z e) (fun o e => k₀ _ o D.l1z e)) hx fun h₁ d1₁ hs₁ => wpAny_pure (wpAny_pure ?_))
    have k₁ : ∀ c o, c ≠ i1 → h₀.get? c = some o → h₁.get? c = some o := fun c o c1 e => hs₁.extBut c o c1 e
    refine wpAny_bind (wpAny_bind (wpAny_holding ?_))
    show wpAny _ _ (Builtin.SmallTypes.nextOf (.ref i2) >>= fun v => pure (some v)) _ _ _
    refine wpAny_bind (IsIt.next (s := { s with heap := h₁ }) D.l2i2 (d2.at (fun o e => k₁ _ o D.i12.symm (k₀ _ o D.i2z e)) (fun o e => k₁ _ o D.l2i1 (k₀ _ o D.l2z e))) hy fun h₂ d2₂ hs₂ => wpAny_pure (wpAny_pure ?_))
    have k₂ : ∀ c o, c ≠ i2 → h₁.get? c = some o → h₂.get? c = some o := fun c o c1 e => hs₂.extBut c o c1 e
    refine wpAny_pure ?_
    show wpAny _ _ (newTuple [x, y] >>= fun t => ret t) _ _ _
    refine wpAny_bind (wpAny_newTuple ?_)
    have hsz : h₂.objs.size = s.heap.objs.size := by rw [hs₂.1, hs₁.1, hs₀.1]
    have up : ∀ c o, h₂.get? c = some o → (h₂.push { cls := .type "tuple", data := .seq #[x, y] }).get? c = some o := fun c o e => Heap.get?_push_of_some _ e
    have kk : ∀ c o, c ≠ z → c ≠ i1 → c ≠ i2 → s.heap.get? c = some o → (h₂.push { cls := .type "tuple", data := .seq #[x, y] }).get? c = some o := fun c o c1 c2 c3 e => up c o (k₂ c o c3 (k₁ c o c2 (k₀ c o c1 e)))
    refine wpAny_pure ⟨_, rfl, ?_⟩
    refine hQ _ _ f0 true a b (up _ _ (k₂ _ _ D.i2z.symm (k₁ _ _ D.i1z.symm hz₀))) h0 (kk _ _ D.TIz D.TIi1 D.TIi2 hTI) (kk _ _ D.TOz D.TOi1 D.TOi2 hTO) (d1₁.at (fun o e => up _ o (k₂ _ o D.i12 e)) fun o e => up _ o (k₂ _ o D.l1i2 e)) (d2₂.at (fun o e => up _ o e) fun o e => up _ o e) (Heap.get?_push_size _ rfl)
      (by rw [hsz]; exact size_none) fun c o c1 c2 c3 c4 e => kk c o c1 c3 c4 e
theorem zip_stop {z TI TO i1 i2 l1 l2 : Addr} {k : Nat} {us vs : List Value} {a b : Value} {f0 : Value} {b1 : Bool} {Q : PySem.Fin → Shared → Prop} (hh : A.handled = none) (D : ZipApart z TI TO i1 i2 l1 l2)
    (hz : ZipO s.heap z TI TO f0 (.bool b1)) (h0 : f0 = .none ∨ ∃ T : Nat, f0 = rawInt T) (hTI : IsPair s.heap TI (.ref i1) (.ref i2)) (hTO : IsPair s.heap TO a b) (d1 : IsIt s.heap i1 l1 us k) (d2 : IsIt s.heap i2 l2 vs k) (hend : us[k]? = none ∨ vs[k]? = none)
    (hE : ∀ h' e, (∀ c o, c ≠ z → c ≠ TO → c ≠ i1 → c ≠ i2 → s.heap.get? c = some o → h'.get? c = some o) → (∃ o, h'.get? e = some o ∧ o.cls = .type "StopIteration") → E (.ref e) { s with heap := h' }) :
    wpAny (model prog w) A (Builtin.«zip.__next__» ⟨[.ref z], []⟩) Q E s := by
  show wpAny _ _ (field (.ref z) 2 >>= _) _ _ _
  refine wpAny_bind (wpAny_field hz rfl (x := .bool false) rfl ?_)
  show wpAny _ _ (field (.ref z) 3 >>= _) _ _ _
  refine wpAny_bind (wpAny_field hz rfl (x := .ref TI) rfl ?_)
  refine wpAny_bind (wpAny_seqItems hTI rfl ?_)
  show wpAny _ _ (Builtin.SmallTypes.ownedTupleIsFree (.ref z) >>= _) _ _ _
  refine wpAny_bind (zip_free hz h0 ?_ fun h₀ hz₀ hs₀ => ?_)
  · simp only [if_true]
    refine wpAny_bind (wpAny_rule ?_)
    refine wpAny_bind (wpAny_field hz rfl (x := .ref TO) rfl ?_)
    refine wpAny_bind (wpAny_setField_rec hz (by simp) fun h₁ hz₁ hs₁ => ?_)
    have hz₁ : ZipO h₁ z TI TO .ellipsis (.bool b1) := by simpa using hz₁
    refine wpAny_bind ?_
    simp only [List.zipIdx_cons, List.zipIdx_nil, List.forIn_cons, List.forIn_nil]
    refine wpAny_bind (wpAny_bind (wpAny_onRaise ?_))
    show wpAny _ _ (Builtin.SmallTypes.nextOf (.ref i1) >>= _) _ _ _
    have d1' : IsIt h₁ i1 l1 us k := d1.at (fun o e => hs₁.extBut _ o D.i1z e) (fun o e => hs₁.extBut _ o D.l1z e)
    cases hx : us[k]? with
    | none =>
      refine wpAny_bind (IsIt.stop (s := { s with heap := h₁ }) hh d1' hx fun h₂ e hs₂ he => ?_)
      obtain ⟨oe, hoe, hce⟩ := he
      have hz₂ : ZipO h₂ z TI TO .ellipsis (.bool b1) := hs₂ _ _ D.i1z.symm hz₁
      have hez : e ≠ z := fun x => by subst x; rw [hz₂] at hoe; cases hoe; simp at hce
      refine wpAny_setField_rec hz₂ (by simp) fun h₃ _ hs₃ => hE h₃ e (fun c o c1 _ c3 _ x => hs₃.extBut _ _ c1 (hs₂ _ _ c3 (hs₁.extBut _ _ c1 x))) ⟨oe, hs₃.extBut _ _ hez hoe, hce⟩
    | some x =>
      have hy : vs[k]? = none := by rcases hend with h | h; rw [hx] at h; cases h; exact h
      refine wpAny_bind (IsIt.next (s := { s with heap := h₁ }) D.l1i1 d1' hx fun h₂ d1₂ hs₂ => wpAny_pure ?_)
      have hTO₂ : IsPair h₂ TO a b := hs₂.extBut _ _ D.TOi1 (hs₁.extBut _ _ D.TOz hTO)
      refine wpAny_bind (wpAny_seqItems hTO₂ rfl ?_)
      refine wpAny_bind (wpAny_updateSeq_pair hTO₂ fun h₃ hTO₃ hs₃ => ?_)
      refine wpAny_bind (wpAny_letGo (wpAny_pure ?_))
      refine wpAny_bind (wpAny_bind (wpAny_onRaise ?_))
      show wpAny _ _ (Builtin.SmallTypes.nextOf (.ref i2) >>= _) _ _ _
      refine wpAny_bind (IsIt.stop (s := { s with heap := h₃ }) hh (d2.at (fun o e => hs₃.extBut _ o D.TOi2.symm (hs₂.extBut _ o D.i12.symm (hs₁.extBut _ o D.i2z e))) (fun o e => hs₃.extBut _ o D.l2TO (hs₂.extBut _ o D.l2i1 (hs₁.extBut _ o D.l2z e)))) hy fun h₄ e hs₄ he => ?_)
      obtain ⟨oe, hoe, hce⟩ := he
      have hz₄ : ZipO h₄ z TI TO .ellipsis (.bool b1) := hs₄ _ _ D.i2z.symm (hs₃.extBut _ _ D.TOz.symm (hs₂.extBut _ _ D.i1z.symm hz₁))
      have hez : e ≠ z := fun x => by subst x; rw [hz₄] at hoe; cases hoe; simp at hce
      refine wpAny_setField_rec hz₄ (by simp) fun h₅ _ hs₅ => hE h₅ e (fun c o c1 c2 c3 c4 x => hs₅.extBut _ _ c1 (hs₄ _ _ c4 (hs₃.extBut _ _ c2 (hs₂.extBut _ _ c3 (hs₁.extBut _ _ c1 x))))) ⟨oe, hs₅.extBut _ _ hez hoe, hce⟩
  · simp only [Bool.false_eq_true, if_false]
    refine wpAny_bind ?_
    simp only [List.forIn_toArray, List.forIn_cons, List.forIn_nil]
    have k₀ : ∀ c o, c ≠ z → s.heap.get? c = some o → h₀.get? c = some o := fun c o c1 e => hs₀.extBut c o c1 e
    refine wpAny_bind (wpAny_bind (wpAny_holding ?_))
    show wpAny _ _ (Builtin.SmallTypes.nextOf (.ref i1) >>= fun v => pure (some v)) _ _ _
    have d1' : IsIt h₀ i1 l1 us k := d1.at (fun o e => k₀ _ o D.i1z e) (fun o e => k₀ _ o D.l1z e)
    cases hx : us[k]? with
    | none =>
      exact wpAny_bind (IsIt.stop (s := { s with heap := h₀ }) hh d1' hx fun h₁ e hs₁ he => hE h₁ e (fun c o c1 _ c3 _ x => hs₁ _ _ c3 (k₀ _ _ c1 x)) he)
    | some x =>
      have hy : vs[k]? = none := by rcases hend with h | h; rw [hx] at h; cases h; exact h
      refine wpAny_bind (IsIt.next (s := { s with heap := h₀ }) D.l1i1 d1' hx fun h₁ d1₁ hs₁ => wpAny_pure (wpAny_pure ?_))
      have k₁ : ∀ c o, c ≠ i1 → h₀.get? c = some o → h₁.get? c = some o := fun c o c1 e => hs₁.extBut c o c1 e
      refine wpAny_bind (wpAny_bind (wpAny_holding ?_))
      show wpAny _ _ (Builtin.SmallTypes.nextOf (.ref i2) >>= fun v => pure (some v)) _ _ _
      exact wpAny_bind (IsIt.stop (s := { s with heap := h₁ }) hh (d2.at (fun o e => k₁ _ o D.i12.symm (k₀ _ o D.i2z e)) (fun o e => k₁ _ o D.l2i1 (k₀ _ o D.l2z e))) hy fun h₂ e hs₂ he => hE h₂ e (fun c o c1 _ c3 c4 x => hs₂ _ _ c4 (k₁ _ _ c3 (k₀ _ _ c1 x))) he)
end
section
variable {G : Wd} {A : Around} {s : Shared}
structure ZL (z TI TO i1 i2 l1 l2 : Addr) (us vs : List Value) (xs ys : List PyData) (i : Nat) (h : Heap) (M : AS) : Prop where
  o : ∃ f0 b1, ZipO h z TI TO f0 (.bool b1) ∧ (f0 = .none ∨ ∃ T : Nat, f0 = rawInt T)
  h2 : IsPair h TI (.ref i1) (.ref i2)
  h3 : ∃ a b, IsPair h TO a b
  h4 : IsIt h i1 l1 us i
  h5 : IsIt h i2 l2 vs i
  h6 : ¬ M l1 ∧ ∃ o, h.get? l1 = some o
  h7 : ¬ M l2 ∧ ∃ o, h.get? l2 = some o
  h8 : VRs h M us xs
  h9 : VRs h M vs ys
theorem itr_zipL {y : Str} {py : Pos} (hh : A.handled = none) {z TI TO i1 i2 l1 l2 : Addr} (D : ZipApart z TI TO i1 i2 l1 l2) (hTT : TI ≠ TO) (us vs : List Value) (xs ys : List PyData) :
    Itr G A (.Name y py) z (fun b => b = z ∨ b = TI ∨ b = TO ∨ b = i1 ∨ b = i2) (zips xs ys) (ZL z TI TO i1 i2 l1 l2 us vs xs ys) where
  frame := fun i h h' M M' H k mv => by
    obtain ⟨f0, b1, h1, h0⟩ := H.o
    obtain ⟨a, b, h3⟩ := H.h3
    obtain ⟨h6, o6, e6⟩ := H.h6
    obtain ⟨h7, o7, e7⟩ := H.h7
    exact ⟨⟨f0, b1, k _ _ (.inl rfl) h1, h0⟩, k _ _ (.inr (.inl rfl)) H.h2, ⟨a, b, k _ _ (.inr (.inr (.inl rfl))) h3⟩, H.h4.at (fun o e => k i1 o (.inr (.inr (.inr (.inl rfl)))) e) (fun o e => (mv _ o h6 e).1), H.h5.at (fun o e => k i2 o (.inr (.inr (.inr (.inr rfl)))) e) (fun o e => (mv _ o h7 e).1),
      ⟨(mv _ _ h6 e6).2, o6, (mv _ _ h6 e6).1⟩, ⟨(mv _ _ h7 e7).2, o7, (mv _ _ h7 e7).1⟩, H.h8.mv mv, H.h9.mv mv⟩
  live := fun i h M H b hb => by
    obtain ⟨f0, b1, h1, _⟩ := H.o
    obtain ⟨_, _, h3⟩ := H.h3
    rcases hb with rfl | rfl | rfl | rfl | rfl
    · exact ⟨_, h1⟩
    · exact ⟨_, H.h2⟩
    · exact ⟨_, h3⟩
    · exact H.h4.live
    · exact H.h5.live
  next := fun i s M x Q hx H hM hal hQ => by
    obtain ⟨f0, b1, h1, h0⟩ := H.o
    obtain ⟨a, b, h3⟩ := H.h3
    obtain ⟨h6, o6, e6⟩ := H.h6
    obtain ⟨h7, o7, e7⟩ := H.h7
    obtain ⟨d1, d2, e1, e2, rfl⟩ := zips_get hx
    obtain ⟨u, hu, ru⟩ := H.h8.get e1
    obtain ⟨v, hv, rv⟩ := H.h9.get e2
    have hT : s.TypeIs (.ref z) "zip" := ⟨_, h1, rfl⟩
    unfold pyNext
    refine wpAny_bind (wpAny_attempt (wpAny_callSpecial?_slot (name := Str.ofString "__next__") hT PySem.F.slot_zip_next
      (wpAny_call_entry PySem.F.slot_zip_next hT PySem.F.entry_zip_next (zip_turn D hTT h1 h0 H.h2 h3 H.h4 H.h5 hu hv fun h' T f1 b1' a' b' g1 g2 g3 g4 g5 g6 g7 g8 g9 => wpAny_pure ⟨_, rfl, wpAny_pure ?_⟩) (PySem.F.args_zip_next_1 _))))
    have k : ∀ b o, ¬ (b = z ∨ b = TI ∨ b = TO ∨ b = i1 ∨ b = i2) → s.heap.get? b = some o → h'.get? b = some o := fun b o hb e => g9 b o (fun q => hb (.inl q)) (fun q => hb (.inr (.inr (.inl q)))) (fun q => hb (.inr (.inr (.inr (.inl q))))) (fun q => hb (.inr (.inr (.inr (.inr q))))) e
    have mv : Mv M M s.heap h' := fun b o hm hb => ⟨k b o (fun e => hm (hM b e)) hb, hm⟩
    have hTM : ¬ M T := fun m => by obtain ⟨o, e⟩ := hal _ m; rw [g8] at e; cases e
    exact hQ _ h' s.toks (VR.pair g7 hTM (ru.mv mv) (rv.mv mv)) ⟨⟨f1, b1', g1, g2⟩, g3, ⟨_, _, g4⟩, g5, g6, ⟨h6, o6, (mv _ _ h6 e6).1⟩, ⟨h7, o7, (mv _ _ h7 e7).1⟩, H.h8.mv mv, H.h9.mv mv⟩ k
  done := fun s M Q H hQ => by
    obtain ⟨f0, b1, h1, h0⟩ := H.o
    obtain ⟨a, b, h3⟩ := H.h3
    have hT : s.TypeIs (.ref z) "zip" := ⟨_, h1, rfl⟩
    have hend := zips_end (xs := xs) (ys := ys)
    have hend' : us[(zips xs ys).length]? = none ∨ vs[(zips xs ys).length]? = none := by
      refine hend.imp (fun e => ?_) fun e => ?_
      · rw [List.getElem?_eq_none_iff, H.h8.length]; exact List.getElem?_eq_none_iff.mp e
      · rw [List.getElem?_eq_none_iff, H.h9.length]; exact List.getElem?_eq_none_iff.mp e
    unfold pyNext
    refine wpAny_bind (wpAny_attempt (wpAny_callSpecial?_slot (name := Str.ofString "__next__") hT PySem.F.slot_zip_next
      (wpAny_call_entry PySem.F.slot_zip_next hT PySem.F.entry_zip_next (zip_stop hh D h1 h0 H.h2 h3 H.h4 H.h5 hend' fun h' e hk he => ?_) (PySem.F.args_zip_next_1 _))))
    obtain ⟨o, ho, hc⟩ := he
    refine wpAny_bind (wpAny_isInstance (T := "StopIteration") (b := true) ⟨o, ho, hc⟩ isSubtype_stop ?_)
    exact wpAny_pure ⟨rfl, hQ h' s.toks fun b o hb e => hk b o (fun q => hb (.inl q)) (fun q => hb (.inr (.inr (.inl q)))) (fun q => hb (.inr (.inr (.inr (.inl q))))) (fun q => hb (.inr (.inr (.inr (.inr q))))) e⟩
  self := fun i s M Q H h => by
    obtain ⟨f0, b1, h1, _⟩ := H.o
    have hT : s.TypeIs (.ref z) "zip" := ⟨_, h1, rfl⟩
    refine wpAny_pyIter_slot hT PySem.F.slot_zip_iter (wpAny_call_entry PySem.F.slot_zip_iter hT PySem.F.entry_zip_iter ?_ (PySem.F.args_zip_iter_1 _))
    show wpAny _ _ (ret (.ref z)) _ _ s
    exact wpAny_pure ⟨_, rfl, "zip", _, hT, PySem.F.slot_zip_next.lookup, h⟩
end
theorem zip_no_len : typeLookup (.type "zip") "__len__" = pure none := by rw [typeLookup_type, builtinLookup_eq_fast]; kernel_rfl
theorem zip_no_hint : typeLookup (.type "zip") "__length_hint__" = pure none := by rw [typeLookup_type, builtinLookup_eq_fast]; kernel_rfl
section
variable {G : Wd} {A : Around}
noncomputable def LInv (G : Wd) (Y fp : AS) (σ : Sto) (s₀ : Shared) (S : Addr) (It : Nat → Heap → AS → Prop) (xs : List PyData) (i : Nat) (s : Shared) : Prop :=
  ∃ vs n, S0 G (fun a => Y a ∨ (fp a ∨ a = S)) σ s ∧ It i s.heap (Mu (fun a => Y a ∨ (fp a ∨ a = S)) σ) ∧ IsL s.heap S vs.toArray n ∧ VRs s.heap (Mu (fun a => Y a ∨ (fp a ∨ a = S)) σ) vs (xs.take i) ∧ EP (fun a => fp a ∨ a = S) σ σ s₀ s
noncomputable def LEnd (G : Wd) (Y : AS) (σ : Sto) (s₀ : Shared) (S : Addr) (xs : List PyData) (s : Shared) : Prop :=
  ∃ vs n, S0 G Y σ s ∧ IsL s.heap S vs.toArray n ∧ VRs s.heap (Mu Y σ) vs xs ∧ E0 σ σ s₀ s
variable {y : Str} {py : Pos} {I S : Addr} {fp Y : AS} {xs : List PyData} {It : Nat → Heap → AS → Prop} {σ : Sto} {s₀ : Shared} {res : Value} {R : Result → Shared → Prop}
theorem LInv.set {i : Nat} {s : Shared} (X : Itr G A (.Name y py) I fp xs It) (hS : ¬ fp S) (h : LInv G Y fp σ s₀ S It xs i s) (f : Array Value → Array Value) (ws : List Value) {vs : List Value} {n : Nat} (hl : IsL s.heap S vs.toArray n) (hf : f vs.toArray = ws.toArray) {j : Nat}
    (hw : VRs s.heap (Mu (fun a => Y a ∨ (fp a ∨ a = S)) σ) ws (xs.take j)) (hij : It j s.heap (Mu (fun a => Y a ∨ (fp a ∨ a = S)) σ)) : LInv G Y fp σ s₀ S It xs j { s with heap := s.heap.update S (Obj.mapSeq f) } := by
  obtain ⟨_, _, O, hI, _, _, ep⟩ := h
  obtain ⟨n', hl'⟩ := isL_upd hl f
  have k := keep_upd (h := s.heap) (l := S) (Obj.mapSeq f)
  have mv : Mv (Mu (fun a => Y a ∨ (fp a ∨ a = S)) σ) (Mu (fun a => Y a ∨ (fp a ∨ a = S)) σ) s.heap (s.heap.update S (Obj.mapSeq f)) := fun b o hm hb => ⟨k b o (fun z => hm (.inl (.inr (.inr z)))) hb, hm⟩
  refine ⟨ws, n', O.privs (fp := fun a => a = S) s.toks (fun a z => .inr (.inr z)) k (fun a (z : a = S) => by rw [z]; exact ⟨_, hl'⟩), X.frame _ _ _ _ _ hij (fun b o hb e => k b o (fun z => hS (z ▸ hb)) e) mv, by rw [← hf]; exact hl', hw.mv mv, ep.trans (EP.priv (fun b o nb e => k b o (fun z => nb (.inr z)) e) fun b hb => ?_)⟩
  by_cases z : b = S
  · rw [z]; exact ⟨_, hl'⟩
  · obtain ⟨o, e⟩ := X.live _ _ _ hI b (hb.resolve_right z)
    exact ⟨o, k b o z e⟩
theorem ext_loop (X : Itr G A.in1 (.Name y py) I fp xs It) (hS : ¬ fp S) (hn : xs.length ≤ sizeLine) (hY : ∀ a, (fp a ∨ a = S) → ¬ Y a) (tp : Y G.tp) (fr : ∀ a, (fp a ∨ a = S) → s₀.heap.get? a = none) :
    ∀ (k i : Nat) (s : Shared), xs.length - i = k → i ≤ xs.length → LInv G Y fp σ s₀ S It xs i s → (∀ s', LEnd G Y σ s₀ S xs s' → R (.ok (.ret res)) s') →
    codeAny (model G.prog G.w) A (.builtin "list.extend.loop" ⟨[.ref S, .ref I, res], []⟩) R s := by
  intro k
  induction k with
  | zero =>
    intro i s hk hi h hR
    have hin : i = xs.length := by omega
    subst hin
    obtain ⟨vs, n, O, hI, hl, rv, ep⟩ := h
    refine codeAny_builtin PySem.F.entry_extend_loop ?_
    rw [Around.under_plainId PySem.F.plain_extend_loop _]
    show wpAny _ A.in1 (pyNext (.ref I) >>= _) _ _ s
    refine wpAny_bind (wpAny_mono (X.done s _ (fun s₁ => LEnd G Y σ s₀ S xs s₁) hI fun h' tk k' => ?_) (fun r s₁ q => by obtain ⟨e, q⟩ := q; subst e; exact wpAny_pure (hR _ q)) fun _ _ f => f.elim)
    have hl' := k' S _ hS hl
    have mv : Mv (Mu (fun a => Y a ∨ (fp a ∨ a = S)) σ) (Mu Y σ) s.heap h' := fun b o hm hb => ⟨k' b o (fun f => hm (.inl (.inr (.inl f)))) hb, fun m => hm (m.elim (fun y => .inl (.inl y)) .inr)⟩
    rw [List.take_length] at rv
    refine ⟨vs, n, O.leave (fp := fun a => fp a ∨ a = S) tk (fun a y => .inl y) tp (fun a f => ⟨.inr f, hY a f⟩) (fun b o nb e => k' b o (fun f => nb (.inl f)) e), hl', rv.mv mv, fun b o e => ?_, fun b o h e => ?_, ep.fresh⟩
    · obtain ⟨o', e'⟩ := ep.alive b o e
      exact ⟨o', k' b o' (fun f => by rw [fr b (.inl f)] at e; cases e) e'⟩
    · have nf : ¬ (fp b ∨ b = S) := fun f => by rw [fr b f] at e; cases e
      exact k' b o (fun f => nf (.inl f)) (ep.keep b o nf h e)
  | succ k ih =>
    intro i s hk hi h hR
    have hlt : i < xs.length := by omega
    have h0 := h
    obtain ⟨vs, n, O, hI, hl, rv, ep⟩ := h
    have hx : xs[i]? = some xs[i] := List.getElem?_eq_getElem hlt
    refine codeAny_builtin PySem.F.entry_extend_loop ?_
    rw [Around.under_plainId PySem.F.plain_extend_loop _]
    show wpAny _ A.in1 (pyNext (.ref I) >>= _) _ _ s
    have hMal : ∀ b, Mu (fun a => Y a ∨ (fp a ∨ a = S)) σ b → ∃ o, s.heap.get? b = some o := fun b m => (O.live b m).2
    refine wpAny_bind (wpAny_mono (X.next i s _ xs[i] (fun v s₁ => LInv G Y fp σ s₀ S It xs i s ∧ It (i + 1) s₁.heap (Mu (fun a => Y a ∨ (fp a ∨ a = S)) σ) ∧ S0 G (fun a => Y a ∨ (fp a ∨ a = S)) σ s₁ ∧ IsL s₁.heap S vs.toArray n ∧ VRs s₁.heap (Mu (fun a => Y a ∨ (fp a ∨ a = S)) σ) vs (xs.take i) ∧
        VR s₁.heap (Mu (fun a => Y a ∨ (fp a ∨ a = S)) σ) v xs[i] ∧ EP (fun a => fp a ∨ a = S) σ σ s₀ s₁) hx hI (fun b f => .inl (.inr (.inl f))) hMal (fun v h' tk rv' hI' k' => ?_)) (fun r s₁ q => ?_) fun _ _ f => f.elim)
    · have mv : Mv (Mu (fun a => Y a ∨ (fp a ∨ a = S)) σ) (Mu (fun a => Y a ∨ (fp a ∨ a = S)) σ) s.heap h' := fun b o hm hb => ⟨k' b o (fun f => hm (.inl (.inr (.inl f)))) hb, hm⟩
      have al : ∀ b, fp b → ∃ o, h'.get? b = some o := X.live _ _ _ hI'
      exact ⟨h0, hI', O.privs (fp := fp) tk (fun a f => .inr (.inl f)) k' al, k' S _ hS hl, rv.mv mv, rv', ep.trans ((EP.priv (P := fp) k' al).mono fun b f => .inl f)⟩
    · obtain ⟨v, rfl, q⟩ := q
      show wpAny _ A.in1 (letOwnedTupleGo (.Name y py) (.ref I) v >>= fun _ => updateSeq S (·.push v) >>= fun _ => again (.builtin "list.extend.loop" ⟨[.ref S, .ref I, res], []⟩)) _ _ _
      refine wpAny_bind (wpAny_mono q (fun _ s₂ q => ?_) fun _ _ f => f.elim)
      obtain ⟨h1, hI₂, O₂, hl₂, rv₂, rx, ep₂⟩ := q
      have hvl : vs.length = i := by rw [rv₂.length, List.length_take]; omega
      have inv : LInv G Y fp σ s₀ S It xs (i + 1) { s₂ with heap := s₂.heap.update S (Obj.mapSeq (·.push v)) } := by
        have h2 : LInv G Y fp σ s₀ S It xs i s₂ ∨ True := .inr trivial
        obtain ⟨n', hl'⟩ := isL_upd hl₂ (·.push v)
        have k := keep_upd (h := s₂.heap) (l := S) (Obj.mapSeq (·.push v))
        have mv : Mv (Mu (fun a => Y a ∨ (fp a ∨ a = S)) σ) (Mu (fun a => Y a ∨ (fp a ∨ a = S)) σ) s₂.heap (s₂.heap.update S (Obj.mapSeq (·.push v))) := fun b o hm hb => ⟨k b o (fun z => hm (.inl (.inr (.inr z)))) hb, hm⟩
        have e1 : vs.toArray.push v = (vs ++ [v]).toArray := by simp
        have e2 : xs.take (i + 1) = xs.take i ++ [xs[i]] := by rw [List.take_succ_eq_append_getElem hlt]
        refine ⟨vs ++ [v], n', O₂.privs (fp := fun a => a = S) s₂.toks (fun a z => .inr (.inr z)) k (fun a (z : a = S) => by rw [z]; exact ⟨_, hl'⟩), X.frame _ _ _ _ _ hI₂ (fun b o hb e => k b o (fun z => hS (z ▸ hb)) e) mv, by rw [← e1]; exact hl', ?_, ep₂.trans (EP.priv (fun b o nb e => k b o (fun z => nb (.inr z)) e) fun b hb => ?_)⟩
        · rw [e2]; exact (rv₂.append (.one rx)).mv mv
        · by_cases z : b = S
          · rw [z]; exact ⟨_, hl'⟩
          · obtain ⟨o, e⟩ := X.live _ _ _ hI₂ b (hb.resolve_right z)
            exact ⟨o, k b o z e⟩
      refine wpAny_bind (wpAny_updateSeq hl₂ rfl (wpAny_pure ⟨plainId_quiet PySem.F.plain_extend_loop _, ih (i + 1) _ (by omega) hlt inv hR⟩) ?_ ?_)
      · rw [List.size_toArray]; omega
      · show (vs.toArray.push v).size ≤ sizeLine + 1
        rw [Array.size_push, List.size_toArray]; omega
noncomputable def LPre (G : Wd) (Y fp : AS) (σ : Sto) (s₀ : Shared) (S : Addr) (It : Nat → Heap → AS → Prop) (s : Shared) : Prop :=
  S0 G (fun a => Y a ∨ (fp a ∨ a = S)) σ s ∧ It 0 s.heap (Mu (fun a => Y a ∨ (fp a ∨ a = S)) σ) ∧ EP (fun a => fp a ∨ a = S) σ σ s₀ s
theorem LPre.set {s : Shared} (X : Itr G A (.Name y py) I fp xs It) (hS : ¬ fp S) (h : LPre G Y fp σ s₀ S It s) (f : Array Value → Array Value) {vs : Array Value} {n : Nat} (hl : IsL s.heap S vs n) : LPre G Y fp σ s₀ S It { s with heap := s.heap.update S (Obj.mapSeq f) } := by
  obtain ⟨O, hI, ep⟩ := h
  obtain ⟨n', hl'⟩ := isL_upd hl f
  have k := keep_upd (h := s.heap) (l := S) (Obj.mapSeq f)
  have mv : Mv (Mu (fun a => Y a ∨ (fp a ∨ a = S)) σ) (Mu (fun a => Y a ∨ (fp a ∨ a = S)) σ) s.heap (s.heap.update S (Obj.mapSeq f)) := fun b o hm hb => ⟨k b o (fun z => hm (.inl (.inr (.inr z)))) hb, hm⟩
  refine ⟨O.privs (fp := fun a => a = S) s.toks (fun a z => .inr (.inr z)) k (fun a (z : a = S) => by rw [z]; exact ⟨_, hl'⟩), X.frame _ _ _ _ _ hI (fun b o hb e => k b o (fun z => hS (z ▸ hb)) e) mv, ep.trans (EP.priv (fun b o nb e => k b o (fun z => nb (.inr z)) e) fun b hb => ?_)⟩
  by_cases z : b = S
  · rw [z]; exact ⟨_, hl'⟩
  · obtain ⟨o, e⟩ := X.live _ _ _ hI b (hb.resolve_right z)
    exact ⟨o, k b o z e⟩
theorem list_itr {s : Shared} {Q : Value → Shared → Prop} (X : Itr G A.in1.in1 (.Name y py) I fp xs It) (hT : ∀ i M (s : Shared), It i s.heap M → s.TypeIs (.ref I) "zip") (hI' : fp I) (hn : xs.length ≤ sizeLine) (O : S0 G (orY Y fp) σ s) (hI : It 0 s.heap (Mu (orY Y fp) σ)) (e₀ : EP fp σ σ s₀ s)
    (hY : ∀ a, fp a → ¬ Y a) (tp : Y G.tp) (fr : ∀ a, fp a → s₀.heap.get? a = none) (hY0 : ∀ a, Y a → ∃ o, s₀.heap.get? a = some o) (hQ : ∀ s', LEnd G Y σ s₀ s.heap.objs.size xs s' → Q (.ref s.heap.objs.size) s') : wpAny (model G.prog G.w) A (call (.type "list") [.ref I]) Q NE s := by
  have nS : s.heap.get? s.heap.objs.size = none := size_none
  have hSf : ¬ fp s.heap.objs.size := fun f => by obtain ⟨o, e⟩ := X.live _ _ _ hI _ f; rw [nS] at e; cases e
  have s0S : s₀.heap.get? s.heap.objs.size = none := by
    cases e : s₀.heap.get? s.heap.objs.size with
    | none => rfl
    | some o => obtain ⟨o', e'⟩ := e₀.alive _ _ e; rw [nS] at e'; cases e'
  refine callType_codes (Q₁ := fun obj s₁ => obj = .ref s.heap.objs.size ∧ s₁ = { s with heap := s.heap.push { cls := .type "list", data := .seq #[] } }) PySem.F.called_list (PySem.F.typeCall_list_1 _) PySem.F.entry_list_init
    (code_list_new _ ⟨rfl, rfl⟩) fun obj s₁ h₁ => ?_
  obtain ⟨rfl, rfl⟩ := h₁
  generalize hSd : s.heap.objs.size = S at nS hSf s0S hQ ⊢
  have hS : IsL (s.heap.push { cls := .type "list", data := .seq #[] }) S #[] 0 := hSd ▸ Heap.get?_push_size _ rfl
  have k : ∀ b o, s.heap.get? b = some o → (s.heap.push { cls := .type "list", data := .seq #[] }).get? b = some o := fun b o e => Heap.get?_push_of_some _ e
  have hSY : ¬ orY Y fp S := fun y => by obtain ⟨_, o, e⟩ := O.live S (.inl y); rw [nS] at e; cases e
  have L0 : LPre G Y fp σ s₀ S It { s with heap := s.heap.push { cls := .type "list", data := .seq #[] } } := by
    have mv : Mv (Mu (orY Y fp) σ) (Mu (fun a => Y a ∨ (fp a ∨ a = S)) σ) s.heap (s.heap.push { cls := .type "list", data := .seq #[] }) := fun b o hm hb => ⟨k b o hb, fun m => by
      rcases m with (y | (y | y)) | y
      · exact hm (.inl (.inl y))
      · exact hm (.inl (.inr y))
      · rw [y, nS] at hb; cases hb
      · exact hm (.inr y)⟩
    exact ⟨O.enter s.toks (fun a y => y.elim .inl fun f => .inr (.inl f)) k (fun a y => by
      rcases y with y | (y | (y : a = S))
      · exact .inl (.inl y)
      · exact .inl (.inr y)
      · exact .inr ⟨y ▸ nS, by rw [y]; exact ⟨_, hS⟩⟩), X.frame _ _ _ _ _ hI (fun b o _ e => k b o e) mv, (e₀.mono fun b f => .inl f).trans (.of (.grow k))⟩
  refine ⟨⟨_, hS, rfl⟩, PySem.F.args_list_init_2 _ _, ?_⟩
  show wpAny _ A.in1.in1 (do let old ← Builtin.List.listItems (.ref S); Builtin.List.listUpdate (.ref S) (fun _ => #[]); letGo old.toList.reverse; Builtin.List.listExtendWith (.ref S) (.ref I) .none) _ _ _
  refine wpAny_bind ?_
  unfold Builtin.List.listItems
  refine wpAny_bind (wpAny_seqItems hS rfl (wpAny_pure ?_))
  show wpAny _ A.in1.in1 (updateSeq S (fun _ => #[]) >>= fun _ => letGo (#[] : Array Value).toList.reverse >>= fun _ => Builtin.List.listExtendWith (.ref S) (.ref I) .none) _ _ _
  refine wpAny_bind (wpAny_updateSeq hS rfl ?_)
  have L1 := L0.set X hSf (fun _ => (#[] : Array Value)) hS
  obtain ⟨n1, hS1⟩ := isL_upd hS (fun _ => (#[] : Array Value))
  refine wpAny_bind (wpAny_letGo ?_)
  unfold Builtin.List.listExtendWith
  have hT1 := hT _ _ _ L1.2.1
  refine wpAny_bind (wpAny_typeOf hT1 ?_)
  have hSI : S ≠ I := fun e => hSf (e ▸ hI')
  have h1 : Builtin.List.listSameRef (.ref S) (.ref I) = false := by simp [Builtin.List.listSameRef, hSI]
  have h2 : (Value.type "zip" == Value.type "list") = false := by decide
  have h3 : (Value.type "zip" == Value.type "tuple") = false := by decide
  simp only [h1, h2, h3, Bool.or_false, Bool.false_eq_true, if_false]
  refine wpAny_bind (wpAny_mono (X.self 0 _ _ (fun v s' => v = .ref I ∧ s' = { s with heap := (s.heap.push { cls := .type "list", data := .seq #[] }).update S (Obj.mapSeq (fun _ => (#[] : Array Value))) }) L1.2.1 ⟨rfl, rfl⟩) (fun v s' h => ?_) fun _ _ f => f.elim)
  obtain ⟨rfl, rfl⟩ := h
  refine wpAny_bind (wpAny_holding ?_)
  unfold Builtin.List.listLengthHint
  refine wpAny_bind (wpAny_specialOf hT1 zip_no_len ?_)
  show wpAny _ A.in1.in1 (specialOf (Value.ref I) (Str.ofString "__length_hint__") >>= _) _ _ _
  refine wpAny_bind (wpAny_specialOf hT1 zip_no_hint ?_)
  refine wpAny_pure ?_
  show wpAny _ A.in1.in1 (rule "list.extend.makes-room" >>= fun _ => Builtin.List.listTouch (.ref S) >>= fun _ =>
    again (.builtin "list.extend.loop" ⟨[.ref S, .ref I, .none], []⟩)) _ _ _
  refine wpAny_bind (wpAny_rule ?_)
  refine wpAny_bind ?_
  show wpAny _ A.in1.in1 (updateSeq S (·.push .none) >>= fun _ => updateSeq S (·.pop)) _ _ _
  refine wpAny_bind (wpAny_updateSeq hS1 rfl ?_)
  have L2 := L1.set X hSf (·.push Value.none) hS1
  obtain ⟨n2, hS2⟩ := isL_upd hS1 (·.push Value.none)
  refine wpAny_updateSeq (hz := by seq_fits) hS2 rfl ?_
  have L3 := L2.set X hSf (·.pop) hS2
  obtain ⟨n3, hS3⟩ := isL_upd hS2 (·.pop)
  refine wpAny_pure ⟨plainId_quiet PySem.F.plain_extend_loop _, ext_loop X hSf hn (fun a f y => ?_) tp (fun a f => ?_) _ 0 _ rfl (Nat.zero_le _) ⟨[], n3, L3.1, L3.2.1, hS3, .nil, L3.2.2⟩ fun s' h' => ⟨rfl, hQ s' h'⟩⟩
  · rcases f with f | (f : a = S)
    · exact hY a f y
    · exact hSY (f ▸ .inl y)
  · rcases f with f | (f : a = S)
    · exact fr a f
    · rw [f]; exact s0S
end
noncomputable abbrev itO (T : String) (l : Addr) : Obj := { cls := .type T, data := .fields #[.ref l, .int 0 0] }
noncomputable abbrev zH1 (h : Heap) (T1 : String) (l1 : Addr) : Heap := h.push (itO T1 l1)
noncomputable abbrev zH2 (h : Heap) (T1 T2 : String) (l1 l2 : Addr) : Heap := (zH1 h T1 l1).push (itO T2 l2)
noncomputable abbrev zH3 (h : Heap) (T1 T2 : String) (l1 l2 : Addr) : Heap := (zH2 h T1 T2 l1 l2).push { cls := .type "tuple", data := .seq #[.ref h.objs.size, .ref (zH1 h T1 l1).objs.size] }
noncomputable abbrev zH4 (h : Heap) (T1 T2 : String) (l1 l2 : Addr) : Heap := (zH3 h T1 T2 l1 l2).push { cls := .type "tuple", data := .seq #[.none, .none] }
noncomputable abbrev zH5 (h : Heap) (T1 T2 : String) (l1 l2 : Addr) : Heap := (zH4 h T1 T2 l1 l2).push { cls := .type "zip", data := .fields #[.none, .bool false, .bool false, .ref (zH2 h T1 T2 l1 l2).objs.size, .ref (zH3 h T1 T2 l1 l2).objs.size] }
theorem zip_newT (l1 l2 : Addr) (xs ys : Array Value) :
    Meets (Builtin.«zip.__new__» ⟨[.type "zip", .ref l1, .ref l2], []⟩) (fun _ R s => s.heap.IsTuple l1 xs ∧ s.heap.IsTuple l2 ys ∧
      R (.ok (.ret (.ref (zH4 s.heap "tuple_iterator" "tuple_iterator" l1 l2).objs.size))) { s with heap := zH5 s.heap "tuple_iterator" "tuple_iterator" l1 l2 }) :=
  .of_wp fun prog w A R s h => by
    obtain ⟨hp, g, d, tk, os⟩ := s; obtain ⟨hl1, hl2, h⟩ := h
    have hsub := sub_zip
    have hL1 : Heap.IsTuple (Shared.heap ⟨hp, g, d, tk, os⟩) l1 xs := hl1
    have hL2 : Heap.IsTuple (Shared.heap ⟨hp.push { cls := .type "tuple_iterator", data := .fields #[.ref l1, .int 0 0] }, g, d, tk, os⟩) l2 ys := let ⟨o, e, r⟩ := hl2; ⟨o, Heap.get?_push_of_some _ e, r⟩
    wp_walk using wpAny_pyIter_tuple hL1, wpAny_pyIter_tuple hL2
    exact ⟨_, rfl, h⟩
section
variable {prog : Program} {w : World} {A : Around} {E : Value → Shared → Prop} {s : Shared}
theorem call_zipT {l1 l2 : Addr} {xs ys : Array Value} {Q : Value → Shared → Prop} (hl1 : s.heap.IsTuple l1 xs) (hl2 : s.heap.IsTuple l2 ys)
    (h : ∀ h', IsZip h' (s.heap.objs.size + 4) (s.heap.objs.size + 2) (s.heap.objs.size + 3) .none → IsPair h' (s.heap.objs.size + 2) (.ref s.heap.objs.size) (.ref (s.heap.objs.size + 1)) →
      IsPair h' (s.heap.objs.size + 3) .none .none → h'.IsTupleIter s.heap.objs.size l1 0 → h'.IsTupleIter (s.heap.objs.size + 1) l2 0 → h'.objs.size = s.heap.objs.size + 5 →
      (∀ c o, s.heap.get? c = some o → h'.get? c = some o) → Q (.ref (s.heap.objs.size + 4)) { s with heap := h' }) :
    wpAny (model prog w) A (call (.type "zip") [.ref l1, .ref l2]) Q E s := by
  refine callType_new PySem.F.called_zip (by decide) (PySem.F.typeCall_zip_2 _ _) (PySem.F.newCall_zip_2 _ _) (fun obj => PySem.F.args_object_init_3 obj _ _) PySem.F.entry_zip_new
    (zip_newT l1 l2 xs ys) ⟨hl1, hl2, ?_⟩
  have z1 : (zH1 s.heap "tuple_iterator" l1).objs.size = s.heap.objs.size + 1 := Heap.size_push ..
  have z2 : (zH2 s.heap "tuple_iterator" "tuple_iterator" l1 l2).objs.size = s.heap.objs.size + 2 := by rw [Heap.size_push, z1]
  have z3 : (zH3 s.heap "tuple_iterator" "tuple_iterator" l1 l2).objs.size = s.heap.objs.size + 3 := by rw [Heap.size_push, z2]
  have z4 : (zH4 s.heap "tuple_iterator" "tuple_iterator" l1 l2).objs.size = s.heap.objs.size + 4 := by rw [Heap.size_push, z3]
  have z5 : (zH5 s.heap "tuple_iterator" "tuple_iterator" l1 l2).objs.size = s.heap.objs.size + 5 := by rw [Heap.size_push, z4]
  have g5 : (zH5 s.heap "tuple_iterator" "tuple_iterator" l1 l2).get? (zH4 s.heap "tuple_iterator" "tuple_iterator" l1 l2).objs.size = some _ := Heap.get?_push_size _ rfl
  have g4 : (zH5 s.heap "tuple_iterator" "tuple_iterator" l1 l2).get? (zH3 s.heap "tuple_iterator" "tuple_iterator" l1 l2).objs.size = some _ := Heap.get?_push_of_some _ (Heap.get?_push_size _ rfl)
  have g3 : (zH5 s.heap "tuple_iterator" "tuple_iterator" l1 l2).get? (zH2 s.heap "tuple_iterator" "tuple_iterator" l1 l2).objs.size = some _ := Heap.get?_push_of_some _ (Heap.get?_push_of_some _ (Heap.get?_push_size _ rfl))
  have g2 : (zH5 s.heap "tuple_iterator" "tuple_iterator" l1 l2).get? (zH1 s.heap "tuple_iterator" l1).objs.size = some _ := Heap.get?_push_of_some _ (Heap.get?_push_of_some _ (Heap.get?_push_of_some _ (Heap.get?_push_size _ rfl)))
  have g1 : (zH5 s.heap "tuple_iterator" "tuple_iterator" l1 l2).get? s.heap.objs.size = some _ := Heap.get?_push_of_some _ (Heap.get?_push_of_some _ (Heap.get?_push_of_some _ (Heap.get?_push_of_some _ (Heap.get?_push_size _ rfl))))
  show _ ∧ _
  rw [z2, z3, z4] at g5
  rw [z1, z2] at g3
  rw [z3] at g4
  rw [z1] at g2
  rw [z4]
  exact ⟨⟨_, g5, rfl⟩, h _ g5 g3 g4 ⟨_, g1, rfl, rfl⟩ ⟨_, g2, rfl, rfl⟩ z5 fun c o x =>
    Heap.get?_push_of_some _ (Heap.get?_push_of_some _ (Heap.get?_push_of_some _ (Heap.get?_push_of_some _ (Heap.get?_push_of_some _ x))))⟩
end
section
variable {G : Wd} {C : Ctr} {d : Nat}
theorem zips_len {xs ys : List PyData} (h : xs.length ≤ sizeLine) : (zips xs ys).length ≤ sizeLine := by
  unfold zips
  rw [List.length_map, List.length_zip]
  exact Nat.le_trans (Nat.min_le_left ..) h
theorem list_zip {A : Around} (hh : A.handled = none) {F : Fm} {Y : AS} {μ : Env1} {σ : Sto} {s : Shared} {Q : AV → Sto → Prop} (S : St G Y F μ σ s) {l1 l2 : Addr} {us vs : List Value} {xs ys : List PyData} {h' : Heap} (hm1 : ¬ Mu Y σ l1) (hm2 : ¬ Mu Y σ l2)
    (a1 : ∃ o, s.heap.get? l1 = some o) (a2 : ∃ o, s.heap.get? l2 = some o) (rv1 : VRs s.heap (Mu Y σ) us xs) (rv2 : VRs s.heap (Mu Y σ) vs ys) (hn : xs.length ≤ sizeLine)
    (z1 : IsZip h' (s.heap.objs.size + 4) (s.heap.objs.size + 2) (s.heap.objs.size + 3) .none) (z2 : IsPair h' (s.heap.objs.size + 2) (.ref s.heap.objs.size) (.ref (s.heap.objs.size + 1))) (z3 : IsPair h' (s.heap.objs.size + 3) .none .none)
    (z4 : IsIt h' s.heap.objs.size l1 us 0) (z5 : IsIt h' (s.heap.objs.size + 1) l2 vs 0) (z7 : ∀ c o, s.heap.get? c = some o → h'.get? c = some o) (q : Q (.d (.list (zips xs ys))) σ) :
    wpAny (model G.prog G.w) A (call (.type "list") [.ref (s.heap.objs.size + 4)]) (Post G Y F μ σ s Q) NE { s with heap := h' } := by
  have lt1 : l1 < s.heap.objs.size := let ⟨o, e⟩ := a1; Heap.lt_size e
  have lt2 : l2 < s.heap.objs.size := let ⟨o, e⟩ := a2; Heap.lt_size e
  have nn : ∀ b, (b = s.heap.objs.size + 4 ∨ b = s.heap.objs.size + 2 ∨ b = s.heap.objs.size + 3 ∨ b = s.heap.objs.size ∨ b = s.heap.objs.size + 1) → s.heap.get? b = none := fun b hb => get_none_of_size (by rcases hb with rfl | rfl | rfl | rfl | rfl <;> first | exact Nat.le_refl _ | exact Nat.le_add_right _ _)
  have X := itr_zipL (G := G) (A := A.in1.in1) (y := "x") (py := default) hh (zipApart_new lt1 lt2) (Nat.ne_of_lt (Nat.lt_succ_self _)) us vs xs ys
  have al : ∀ b, (b = s.heap.objs.size + 4 ∨ b = s.heap.objs.size + 2 ∨ b = s.heap.objs.size + 3 ∨ b = s.heap.objs.size ∨ b = s.heap.objs.size + 1) → ∃ o, h'.get? b = some o := fun b hb => by
    rcases hb with rfl | rfl | rfl | rfl | rfl
    · exact ⟨_, z1⟩
    · exact ⟨_, z2⟩
    · exact ⟨_, z3⟩
    · exact z4.live
    · exact z5.live
  have mv : Mv (Mu Y σ) (Mu (orY Y fun b => b = s.heap.objs.size + 4 ∨ b = s.heap.objs.size + 2 ∨ b = s.heap.objs.size + 3 ∨ b = s.heap.objs.size ∨ b = s.heap.objs.size + 1) σ) s.heap h' := fun b o hm hb => ⟨z7 b o hb, fun m => hm (m.elim (fun y => y.elim .inl fun f => by rw [nn b f] at hb; cases hb) .inr)⟩
  obtain ⟨o1, e1⟩ := a1
  obtain ⟨o2, e2⟩ := a2
  refine list_itr (s := { s with heap := h' }) (s₀ := s) (Y := Y) (σ := σ) X (fun i M s' hI => ?_) (.inl rfl) (zips_len hn) (S.s0.enter s.toks (fun a y => .inl y) z7 (fun a y => y.elim .inl fun f => .inr ⟨nn a f, al a f⟩)) ?_ (.of (.grow z7)) (fun a f y => ?_) S.s0.tpY nn (fun a y => (S.s0.live a (.inl y)).2) fun s' h => ?_
  · obtain ⟨f0, b1, hz, _⟩ := hI.o
    exact ⟨_, hz, rfl⟩
  · exact ⟨⟨_, _, z1, .inl rfl⟩, z2, ⟨_, _, z3⟩, z4, z5, ⟨(mv _ _ hm1 e1).2, _, (mv _ _ hm1 e1).1⟩, ⟨(mv _ _ hm2 e2).2, _, (mv _ _ hm2 e2).1⟩, rv1.mv mv, rv2.mv mv⟩
  · obtain ⟨_, o, e⟩ := S.s0.live a (.inl y); rw [nn a f] at e; cases e
  · obtain ⟨ws, n, O, hl, rw', e⟩ := h
    refine ⟨.d (.list (zips xs ys)), σ, S.over O e, e, VR.lst hl (fun m => ?_) rw', q⟩
    have : s.heap.get? ({ s with heap := h' } : Shared).heap.objs.size = none := by
      refine get_none_of_size ?_
      have := Heap.lt_size z1
      exact Nat.le_of_lt (Nat.lt_of_le_of_lt (Nat.le_add_right _ 4) this)
    rcases m with y | y
    · obtain ⟨_, o, x⟩ := S.s0.live _ (.inl y); rw [this] at x; cases x
    · exact y (S.s0.fresh this).2.1
theorem sv_lzip (X : Cx G C d) {a b : Ex} (I : SV G C d a) (J : SV G C d b) : SV G C d (.lzip a b) := fun kd ns x hm A F Y ρ σ Q s R hk S h => by
  replace hm := mE_i_lzip hm
  obtain ⟨_, _, _, _, _, _, _, _, rfl, hm⟩ := hm
  · rename_i y p1 z p2 l r p3 p4
    simp only [Bool.and_eq_true] at hm
    obtain ⟨⟨⟨h1, h2⟩, h3⟩, h4⟩ := hm
    refine Call_Name1 (built_ok X (fv := .type "list") h1 hk S (by decide +kernel) (by decide +kernel) ?_) rfl
    refine cw_type1 (Call_Name2 (built_ok X (fv := .type "zip") h2 hk S (by decide +kernel) (by decide +kernel) ?_) (by rw [star_of h3, star_of h4]; rfl))
    refine cw_type2 ((I kd ns _ h3 A F Y ρ σ _ s R hk S h).then fun u s' av σ' S' e' r p => (J kd ns _ h4 A F Y ρ σ' _ s' R hk S' p).then fun v s'' aw σ'' S'' e'' r' q => ?_)
    replace q := wS_some q
    obtain ⟨xs, c1, q⟩ := q
    replace q := wS_some q
    obtain ⟨ys, c2, hk2, hn, q2⟩ := q
    have rz := r.mv e''.mv
    rcases itemsOf_some c1 with rfl | rfl <;> rcases itemsOf_some c2 with rfl | rfl
    · obtain ⟨l1, us, n, rfl, hl1, hm1, rv1⟩ := VR.lst_inv rz
      obtain ⟨l2, vs, m, rfl, hl2, hm2, rv2⟩ := VR.lst_inv r'
      refine call_zip_2 ⟨_, hl1, rfl, n, rfl⟩ ⟨_, hl2, rfl, m, rfl⟩ fun h' z1 z2 z3 z4 z5 z6 z7 => ?_
      exact wpAny_mono (list_zip R.hh S'' hm1 hm2 ⟨_, hl1⟩ ⟨_, hl2⟩ rv1 rv2 hn z1 z2 z3 (.inl ⟨z4, _, z7 _ _ hl1, rfl, n, rfl⟩) (.inl ⟨z5, _, z7 _ _ hl2, rfl, m, rfl⟩) z7 q2) (fun v s₃ z => Post.trans (e'.trans e'') z) fun _ _ f => f
    · cases hk2
    · cases hk2
    · obtain ⟨l1, us, n, rfl, hl1, hm1, rv1⟩ := VR.tup_inv rz
      obtain ⟨l2, vs, m, rfl, hl2, hm2, rv2⟩ := VR.tup_inv r'
      refine call_zipT ⟨_, hl1, rfl, n, rfl⟩ ⟨_, hl2, rfl, m, rfl⟩ fun h' z1 z2 z3 z4 z5 z6 z7 => ?_
      exact wpAny_mono (list_zip R.hh S'' hm1 hm2 ⟨_, hl1⟩ ⟨_, hl2⟩ rv1 rv2 hn z1 z2 z3 (.inr ⟨z4, _, z7 _ _ hl1, rfl, n, rfl⟩) (.inr ⟨z5, _, z7 _ _ hl2, rfl, m, rfl⟩) z7 q2) (fun v s₃ z => Post.trans (e'.trans e'') z) fun _ _ f => f
end
section
variable {G : Wd} {C : Ctr} {d : Nat}
theorem dcomp_end {Y : AS} {F : Fm} {μ : Env1} {σ : Sto} {s s' : Shared} {Q : AV → Sto → Prop} {acc : Value} {Cx : Addr} (S : St G Y F μ σ s) {A : Around} {fl : Flow}
    (h : CEnd G Y F μ σ s .dict (fun ys σ'' => ∀ a, σ'' a = none → Q (.loc a) (sput σ'' a (.dict ys))) acc Cx s') :
    compPost (model G.prog G.w) A NE none (Post G Y F μ σ s Q) acc Cx (.ok fl) s' := by
  obtain ⟨D, ys, σ', rfl, S', hD, e, sC, ⟨mm, hn⟩, q⟩ := h
  refine ⟨mm, hn, fun h' hs => ?_⟩
  obtain ⟨S1, e1⟩ := CEnd.leave S S' e sC hs
  exact ⟨.loc D, _, S1, e1, rfl, q D hD⟩
theorem sv_dcomp (X : Cx G C d) {k v it : Ex} {tn : Str} (IK : SV G C d k) (IW : SV G C d v) (II : SV G C d it) : SV G C d (.dcomp k v tn it) := fun kd ns x hm A F Y ρ σ Q s R hk S h => by
  obtain ⟨kx, vx, y, p1, iter, scope, pos, rfl, hg⟩ := mE_i_dcomp hm
  simp only [Bool.and_eq_true] at hg
  obtain ⟨⟨⟨⟨h1, h2⟩, h3⟩, h4⟩, h5⟩ := hg
  obtain ⟨cl, hcl, hc⟩ := clos_ok S.ok rfl hk h1
  exact dict_run X ⟨Y, F, ns, [tn], ρ, σ, s, kd, scope, cl, .Name y p1, S, hk, h1, hc⟩ IK IW h2 h4 h5 R (fold_of h3 F.env) hcl (it_data II h3 (.n _ _) R hk S h) fun _ _ _ _ z => dcomp_end S z
noncomputable def plainX : Expr → Bool
  | .UnaryOp .Not _ _ => false
  | .BoolOp _ _ _ => false
  | .IfExp _ _ _ _ => false
  | .Compare _ _ _ _ => false
  | _ => true
theorem plainX_eq {x : Expr} (h : plainX x = true) (env : Env) : PySem.isTrue x env (eval x env) = (do let v ← eval x env; standAt x.pos; holding [v] (truthy v)) := by
  cases x with
  | UnaryOp op _ _ => cases op <;> first | rfl | cases h
  | BoolOp => cases h
  | IfExp => cases h
  | Compare => cases h
  | _ => rfl
theorem st_of {e : Ex} (I : SV G C d e) (hf : ∀ kd ns x, mE true kd ns e x = true → mE false kd ns e x = true ∧ plainX x = true) : ST G C d e := fun kd ns x hm A F Y ρ σ Q s R hk S h =>
  tst_of (I kd ns x (hf kd ns x hm).1 A F Y ρ σ _ s R hk S h) (plainX_eq (hf kd ns x hm).2 F.env)
noncomputable def AllS (G : Wd) (C : Ctr) (d : Nat) : Exs → Prop
  | .nil => True
  | .cons e es => (SV G C d e ∧ ST G C d e) ∧ AllS G C d es
theorem AllS.svs (X : Cx G C d) : ∀ {es : Exs}, AllS G C d es → SVs G C d es
  | .nil, _ => svs_nil
  | .cons _ _, h => svs_cons h.1.1 (AllS.svs X h.2)
theorem AllS.sts (X : Cx G C d) : ∀ {es : Exs}, AllS G C d es → STs G C d es
  | .nil, _ => sts_nil
  | .cons _ _, h => sts_cons h.1.2 (AllS.sts X h.2)
theorem sv_bop' {op : BoolOp} : ∀ {es : Exs}, AllS G C d es → SV G C d (.bop op es)
  | .cons a (.cons b .nil), h => sv_bop h.1.1 h.2.1.1
  | .nil, _ => fun kd ns x hm => by
    replace hm := mE_i_bop hm
    obtain ⟨_, _, _, rfl, hm⟩ := hm
    · rename_i op' xs _
      simp only [Bool.and_eq_true, Bool.false_or, beq_iff_eq] at hm
      obtain ⟨⟨_, hl⟩, h2⟩ := hm
      match xs, hl, h2 with
      | [x, y], _, h2 => exact absurd h2 Bool.false_ne_true
  | .cons a .nil, _ => fun kd ns x hm => by
    replace hm := mE_i_bop hm
    obtain ⟨_, _, _, rfl, hm⟩ := hm
    · rename_i op' xs _
      simp only [Bool.and_eq_true, Bool.false_or, beq_iff_eq] at hm
      obtain ⟨⟨_, hl⟩, h2⟩ := hm
      match xs, hl, h2 with
      | [x, y], _, h2 => replace h2 : (mE false kd ns a x && false) = true := h2; rw [Bool.and_false] at h2; cases h2
  | .cons a (.cons b (.cons c es)), _ => fun kd ns x hm => by
    replace hm := mE_i_bop hm
    obtain ⟨_, _, _, rfl, hm⟩ := hm
    · rename_i op' xs _
      simp only [Bool.and_eq_true, Bool.false_or, beq_iff_eq] at hm
      obtain ⟨⟨_, hl⟩, h2⟩ := hm
      match xs, hl, h2 with
      | [x, y], _, h2 => replace h2 : (mE false kd ns a x && (mE false kd ns b y && false)) = true := h2; rw [Bool.and_false, Bool.and_false] at h2; cases h2
theorem sv_no {e : Ex} (h : ∀ kd ns x, mE false kd ns e x = false) : SV G C d e := fun kd ns x hm => by rw [h] at hm; cases hm
theorem plain_an {α : Type} {P : α → Prop} {x : Expr} {o : Option {q // P q}} {f : α → Bool} (h : an o f = true) (k : ∀ q, P q → plainX x = true) : plainX x = true := by
  obtain ⟨q, e, _⟩ := an_inv h
  exact k q e
theorem sound_e (X : Cx G C d) (e : Ex) : SV G C d e ∧ ST G C d e := by
  have plain : ∀ {e : Ex}, SV G C d e → (∀ kd ns x, mE true kd ns e x = true → mE false kd ns e x = true ∧ plainX x = true) → SV G C d e ∧ ST G C d e := fun I h => ⟨I, st_of I h⟩
  induction e using Ex.rec (motive_2 := AllS G C d) with
  | none => exact plain sv_none fun kd ns x h => ⟨h, plain_an (o := dNone x) h fun q e => e ▸ rfl⟩
  | bool b => exact plain sv_bool fun kd ns x h => ⟨h, plain_an (o := dBool x) h fun q e => e ▸ rfl⟩
  | int i => exact plain sv_int fun kd ns x h => ⟨h, plain_an (o := dInt x) h fun q e => e ▸ rfl⟩
  | neg i => exact plain sv_neg fun kd ns x h => ⟨h, plain_an (o := dNeg x) h fun q e => e ▸ rfl⟩
  | str y => exact plain sv_str fun kd ns x h => ⟨h, plain_an (o := dStr x) h fun q e => e ▸ rfl⟩
  | var n => exact plain sv_var fun kd ns x h => ⟨h, plain_an (o := dName x) h fun q e => e ▸ rfl⟩
  | tup es I => exact plain (sv_tup (I.svs X)) fun kd ns x h => ⟨h, plain_an (o := dTup x) h fun q e => e ▸ rfl⟩
  | lst m es I => exact plain (sv_lst (I.svs X)) fun kd ns x h => ⟨h, plain_an (o := dLst x) h fun q e => e ▸ rfl⟩
  | dct t => exact plain (sv_dct X) fun kd ns x h => ⟨h, plain_an (o := dDct x) h fun q e => e ▸ rfl⟩
  | cmp op a b I J => exact ⟨sv_cmp I.1 J.1, st_cmp I.1 J.1⟩
  | bop op es I => exact ⟨sv_bop' I, st_bop (I.sts X)⟩
  | not e I =>
    refine ⟨sv_no fun kd ns x => ?_, st_not I.2⟩
    cases h : mE false kd ns (.not e) x with
    | false => rfl
    | true =>
      obtain ⟨_, _, rfl, hm⟩ := mE_i_not h
      exact absurd hm Bool.false_ne_true
  | bin op a b I J => exact plain (sv_bin I.1 J.1) fun kd ns x h => ⟨h, plain_an (o := dBin x) h fun q e => e ▸ rfl⟩
  | ite c a b I J L => exact ⟨sv_ite I.2 J.1 L.1, st_ite I.2 J.2 L.2⟩
  | idx a i I J => exact plain (sv_idx I.1 J.1) fun kd ns x h => ⟨h, plain_an (o := dSub x) h fun q e => e ▸ rfl⟩
  | slc lo hi st a I1 I2 I3 I4 => exact plain (sv_slc I4.1 I1.1 I2.1 I3.1) fun kd ns x h => ⟨h, plain_an (o := dSlc x) h fun q e => e ▸ rfl⟩
  | attr n f => exact plain (sv_attr X) fun kd ns x h => ⟨h, plain_an (o := dAtt x) h fun q e => e ▸ rfl⟩
  | call f args I => exact plain (sv_call X (I.svs X)) fun kd ns x h => ⟨h, plain_an (o := dCal x) h fun q e => e ▸ rfl⟩
  | bi f args I => exact plain (sv_bi X (I.svs X)) fun kd ns x h => ⟨h, plain_an (o := dCal x) h fun q e => e ▸ rfl⟩
  | lzip a b I J => exact plain (sv_lzip X I.1 J.1) fun kd ns x h => ⟨h, plain_an (o := dCal x) h fun q e => e ▸ rfl⟩
  | meth n m args I => exact plain (sv_meth X (I.svs X)) fun kd ns x h => ⟨h, plain_an (o := dMet x) h fun q e => e ▸ rfl⟩
  | pop n => exact plain sv_pop fun kd ns x h => ⟨h, plain_an (o := dMet x) h fun q e => e ▸ rfl⟩
  | app n e I => exact plain (sv_app I.1) fun kd ns x h => ⟨h, plain_an (o := dMet x) h fun q e => e ▸ rfl⟩
  | ext n e I => exact plain (sv_ext I.1) fun kd ns x h => ⟨h, plain_an (o := dMet x) h fun q e => e ▸ rfl⟩
  | get n k e I J => exact plain (sv_get I.1 J.1) fun kd ns x h => ⟨h, plain_an (o := dMet x) h fun q e => e ▸ rfl⟩
  | comp m elt t tn it c I J L => exact plain (sv_comp X I.1 J.1 L.2) fun kd ns x h => ⟨h, plain_an (o := dCom x) h fun q e => e ▸ rfl⟩
  | compR m elt t tn n c I J L => exact plain (sv_compR X I.1 J.1 L.2) fun kd ns x h => ⟨h, plain_an (o := dCom x) h fun q e => e ▸ rfl⟩
  | dcomp k v tn it I J L => exact plain (sv_dcomp X I.1 J.1 L.1) fun kd ns x h => ⟨h, plain_an (o := dDcm x) h fun q e => e ▸ rfl⟩
  | fcall f args I => exact plain (sv_fcall (sv_call X (I.svs X))) fun kd ns x h => ⟨h, plain_an (o := dCal x) h fun q e => e ▸ rfl⟩
  | range e I => exact plain (sv_no fun kd ns x => rfl) fun kd ns x h => absurd h Bool.false_ne_true
  | zip a b I J => exact plain (sv_no fun kd ns x => rfl) fun kd ns x h => absurd h Bool.false_ne_true
  | enum e I => exact plain (sv_no fun kd ns x => rfl) fun kd ns x h => absurd h Bool.false_ne_true
  | nil => trivial
  | cons e es I J => exact ⟨I, J⟩
end
noncomputable def isCall : Expr → Bool
  | .Call _ _ _ _ => true
  | _ => false
theorem isCall_i {x : Expr} (h : isCall x = true) : ∃ f a k p, x = .Call f a k p := by
  cases x with
  | Call => exact ⟨_, _, _, _, rfl⟩
  | _ => exact absurd h Bool.false_ne_true
noncomputable def nodupN : List Nat → Bool
  | [] => true
  | x :: xs => !xs.contains x && nodupN xs
noncomputable def isFrz : Sm → Bool
  | .frz _ => true
  | _ => false
theorem isFrz_i {s : Sm} (h : isFrz s = true) : ∃ n, s = .frz n := by
  cases s with
  | frz => exact ⟨_, rfl⟩
  | _ => exact absurd h Bool.false_ne_true
noncomputable def dCnsS (x : List Stmt) : Option {q : Stmt × List Stmt // x = q.1 :: q.2} := by
  cases x using eCns with
  | no _ => exact none
  | yes a l => exact some ⟨(a, l), rfl⟩
mutual
noncomputable def mS (kd : Kd) (ns : List Str) : Sm → Stmt → Bool
  | .expr e, x => an (gExpr x) fun u0 => isCall u0.1 && mE false kd ns e u0.1
  | .asg n e, x => an (gAsg x) fun u0 => an (dName u0.1) fun u1 => okS true kd ns n u1.1 && mE false kd ns e u0.2.1
  | .asgT ks e, x => an (gAsg x) fun u0 => an (dTup u0.1) fun u1 => mTs true kd ns ks u1.1 && mE false kd ns e u0.2.1 && !isTup u0.2.1
  | .asgM ks es, x => an (gAsg x) fun u0 => an (dTup u0.1) fun u1 => an (dTup u0.2.1) fun u2 => mTs true kd ns ks u1.1 && mEs false kd ns es u2.1 && ks.length == u2.1.length && nodupN ks && decide (u2.1.length ≤ 100) && !(u2.1.all (constantsAlone 8))
  | .sub2 o1 i1 o2 i2 e1 e2, x => an (gAsg x) fun u0 => an (dTup u0.1) fun u1 => an (dL2 u1.1) fun u2 => an (dSub u2.1) fun u3 => an (dSub u2.2) fun u4 => an (dTup u0.2.1) fun u5 => an (dL2 u5.1) fun u6 => mE false kd ns o1 u3.1 && mE false kd ns i1 u3.2.1 && mE false kd ns o2 u4.1 && mE false kd ns i2 u4.2.1 && mE false kd ns e1 u6.1 && mE false kd ns e2 u6.2
  | .sub o i e, x => an (gAsg x) fun u0 => an (dSub u0.1) fun u1 => mE false kd ns o u1.1 && mE false kd ns i u1.2.1 && mE false kd ns e u0.2.1
  | .ite c a b, x => an (gIf x) fun u0 => mE true kd ns c u0.1 && mSs kd ns a u0.2.1 && mSs kd ns b u0.2.2.1
  | .whl c b, x => an (gWhile x) fun u0 => mE true kd ns c u0.1 && mSs kd ns b u0.2.1
  | .for_ tg it b, x => an (gFor x) fun u0 => mT true kd ns tg u0.1 && mI kd ns it u0.2.1 && mSs kd ns b u0.2.2.1 && (!isZE it || isTup u0.1)
  | .ret e, x => an (gRet x) fun u0 => mE false kd ns e u0.1
  | .cont, x => an (gCont x) fun u0 => true
  | .frz _, _ => false
noncomputable def mSs (kd : Kd) (ns : List Str) : Sms → List Stmt → Bool
  | .nil, xs => xs.isEmpty
  | .cons s r, xs => if isFrz s then mSs kd ns r xs else an (dCnsS xs) fun u => mS kd ns s u.1 && mSs kd ns r u.2
end
theorem mS_i_expr {kd : Kd} {ns : List Str} {e : Ex} {x : Stmt} (h : mS kd ns (.expr e) x = true) : ∃ y p, x = .Expr y p ∧ (isCall y && mE false kd ns e y) = true := by
  replace h : (an (gExpr x) fun u0 => isCall u0.1 && mE false kd ns e u0.1) = true := h
  obtain ⟨q0, e0, h1⟩ := an_inv h
  exact ⟨q0.1, q0.2, e0, h1⟩
theorem mS_i_asg {kd : Kd} {ns : List Str} {n : Nat} {e : Ex} {x : Stmt} (h : mS kd ns (.asg n e) x = true) : ∃ y p z q, x = .Assign [(.Name y p)] z q ∧ (okS true kd ns n y && mE false kd ns e z) = true := by
  replace h : (an (gAsg x) fun u0 => an (dName u0.1) fun u1 => okS true kd ns n u1.1 && mE false kd ns e u0.2.1) = true := h
  obtain ⟨q0, e0, h1⟩ := an_inv h
  obtain ⟨q1, e1, h2⟩ := an_inv h1
  exact ⟨q1.1, q1.2, q0.2.1, q0.2.2, by rw [e0, e1], h2⟩
theorem mS_i_asgT {kd : Kd} {ns : List Str} {ks : List Nat} {e : Ex} {x : Stmt} (h : mS kd ns (.asgT ks e) x = true) : ∃ ts p q z r, x = .Assign [(.Tuple ts p q)] z r ∧ (mTs true kd ns ks ts && mE false kd ns e z && !isTup z) = true := by
  replace h : (an (gAsg x) fun u0 => an (dTup u0.1) fun u1 => mTs true kd ns ks u1.1 && mE false kd ns e u0.2.1 && !isTup u0.2.1) = true := h
  obtain ⟨q0, e0, h1⟩ := an_inv h
  obtain ⟨q1, e1, h2⟩ := an_inv h1
  exact ⟨q1.1, q1.2.1, q1.2.2, q0.2.1, q0.2.2, by rw [e0, e1], h2⟩
theorem mS_i_asgM {kd : Kd} {ns : List Str} {ks : List Nat} {es : Exs} {x : Stmt} (h : mS kd ns (.asgM ks es) x = true) : ∃ ts p q xs u v r, x = .Assign [(.Tuple ts p q)] (.Tuple xs u v) r ∧ (mTs true kd ns ks ts && mEs false kd ns es xs && ks.length == xs.length && nodupN ks && decide (xs.length ≤ 100) && !(xs.all (constantsAlone 8))) = true := by
  replace h : (an (gAsg x) fun u0 => an (dTup u0.1) fun u1 => an (dTup u0.2.1) fun u2 => mTs true kd ns ks u1.1 && mEs false kd ns es u2.1 && ks.length == u2.1.length && nodupN ks && decide (u2.1.length ≤ 100) && !(u2.1.all (constantsAlone 8))) = true := h
  obtain ⟨q0, e0, h1⟩ := an_inv h
  obtain ⟨q1, e1, h2⟩ := an_inv h1
  obtain ⟨q2, e2, h3⟩ := an_inv h2
  exact ⟨q1.1, q1.2.1, q1.2.2, q2.1, q2.2.1, q2.2.2, q0.2.2, by rw [e0, e1, e2], h3⟩
theorem mS_i_sub2 {kd : Kd} {ns : List Str} {o1 i1 o2 i2 e1 e2 : Ex} {x : Stmt} (h : mS kd ns (.sub2 o1 i1 o2 i2 e1 e2) x = true) : ∃ a1 b1 p1 a2 b2 p2 p3 p4 c1 c2 p5 p6 p7, x = .Assign [(.Tuple [(.Subscript a1 b1 p1), (.Subscript a2 b2 p2)] p3 p4)] (.Tuple [c1, c2] p5 p6) p7 ∧ (mE false kd ns o1 a1 && mE false kd ns i1 b1 && mE false kd ns o2 a2 && mE false kd ns i2 b2 && mE false kd ns e1 c1 && mE false kd ns e2 c2) = true := by
  replace h : (an (gAsg x) fun u0 => an (dTup u0.1) fun u1 => an (dL2 u1.1) fun u2 => an (dSub u2.1) fun u3 => an (dSub u2.2) fun u4 => an (dTup u0.2.1) fun u5 => an (dL2 u5.1) fun u6 => mE false kd ns o1 u3.1 && mE false kd ns i1 u3.2.1 && mE false kd ns o2 u4.1 && mE false kd ns i2 u4.2.1 && mE false kd ns e1 u6.1 && mE false kd ns e2 u6.2) = true := h
  obtain ⟨q0, e0, h1⟩ := an_inv h
  obtain ⟨q1, e1, h2⟩ := an_inv h1
  obtain ⟨q2, e2, h3⟩ := an_inv h2
  obtain ⟨q3, e3, h4⟩ := an_inv h3
  obtain ⟨q4, e4, h5⟩ := an_inv h4
  obtain ⟨q5, e5, h6⟩ := an_inv h5
  obtain ⟨q6, e6, h7⟩ := an_inv h6
  exact ⟨q3.1, q3.2.1, q3.2.2, q4.1, q4.2.1, q4.2.2, q1.2.1, q1.2.2, q6.1, q6.2, q5.2.1, q5.2.2, q0.2.2, by rw [e0, e1, e2, e3, e4, e5, e6], h7⟩
theorem mS_i_sub {kd : Kd} {ns : List Str} {o i e : Ex} {x : Stmt} (h : mS kd ns (.sub o i e) x = true) : ∃ a b p c q, x = .Assign [(.Subscript a b p)] c q ∧ (mE false kd ns o a && mE false kd ns i b && mE false kd ns e c) = true := by
  replace h : (an (gAsg x) fun u0 => an (dSub u0.1) fun u1 => mE false kd ns o u1.1 && mE false kd ns i u1.2.1 && mE false kd ns e u0.2.1) = true := h
  obtain ⟨q0, e0, h1⟩ := an_inv h
  obtain ⟨q1, e1, h2⟩ := an_inv h1
  exact ⟨q1.1, q1.2.1, q1.2.2, q0.2.1, q0.2.2, by rw [e0, e1], h2⟩
theorem mS_i_ite {kd : Kd} {ns : List Str} {c : Ex} {a b : Sms} {x : Stmt} (h : mS kd ns (.ite c a b) x = true) : ∃ t p q r, x = .If t p q r ∧ (mE true kd ns c t && mSs kd ns a p && mSs kd ns b q) = true := by
  replace h : (an (gIf x) fun u0 => mE true kd ns c u0.1 && mSs kd ns a u0.2.1 && mSs kd ns b u0.2.2.1) = true := h
  obtain ⟨q0, e0, h1⟩ := an_inv h
  exact ⟨q0.1, q0.2.1, q0.2.2.1, q0.2.2.2, e0, h1⟩
theorem mS_i_whl {kd : Kd} {ns : List Str} {c : Ex} {b : Sms} {x : Stmt} (h : mS kd ns (.whl c b) x = true) : ∃ t p q, x = .While t p [] q ∧ (mE true kd ns c t && mSs kd ns b p) = true := by
  replace h : (an (gWhile x) fun u0 => mE true kd ns c u0.1 && mSs kd ns b u0.2.1) = true := h
  obtain ⟨q0, e0, h1⟩ := an_inv h
  exact ⟨q0.1, q0.2.1, q0.2.2, e0, h1⟩
theorem mS_i_for {kd : Kd} {ns : List Str} {tg : Tg} {it : Ex} {b : Sms} {x : Stmt} (h : mS kd ns (.for_ tg it b) x = true) : ∃ t i p q, x = .For t i p [] q ∧ (mT true kd ns tg t && mI kd ns it i && mSs kd ns b p && (!isZE it || isTup t)) = true := by
  replace h : (an (gFor x) fun u0 => mT true kd ns tg u0.1 && mI kd ns it u0.2.1 && mSs kd ns b u0.2.2.1 && (!isZE it || isTup u0.1)) = true := h
  obtain ⟨q0, e0, h1⟩ := an_inv h
  exact ⟨q0.1, q0.2.1, q0.2.2.1, q0.2.2.2, e0, h1⟩
theorem mS_i_ret {kd : Kd} {ns : List Str} {e : Ex} {x : Stmt} (h : mS kd ns (.ret e) x = true) : ∃ y p, x = .Return (some y) p ∧ (mE false kd ns e y) = true := by
  replace h : (an (gRet x) fun u0 => mE false kd ns e u0.1) = true := h
  obtain ⟨q0, e0, h1⟩ := an_inv h
  exact ⟨q0.1, q0.2, e0, h1⟩
theorem mS_i_cont {kd : Kd} {ns : List Str}  {x : Stmt} (h : mS kd ns .cont x = true) : ∃ p, x = .Continue p ∧ (true) = true := by
  replace h : (an (gCont x) fun u0 => true) = true := h
  obtain ⟨q0, e0, h1⟩ := an_inv h
  exact ⟨q0, e0, h1⟩
theorem mSs_nil {kd : Kd} {ns : List Str} {xs : List Stmt} (h : mSs kd ns .nil xs = true) : xs = [] := by
  cases xs with
  | nil => rfl
  | cons _ _ => exact absurd h Bool.false_ne_true
theorem mSs_cons {kd : Kd} {ns : List Str} {s : Sm} {r : Sms} {xs : List Stmt} (hz : ¬ isFrz s = true) (h : mSs kd ns (.cons s r) xs = true) : ∃ y ys, xs = y :: ys ∧ (mS kd ns s y && mSs kd ns r ys) = true := by
  have e : mSs kd ns (.cons s r) xs = an (dCnsS xs) fun u => mS kd ns s u.1 && mSs kd ns r u.2 := if_neg hz
  rw [e] at h
  obtain ⟨q, e0, h1⟩ := an_inv h
  exact ⟨q.1, q.2, e0, h1⟩
noncomputable def p_head_pairs : List Str := ["one", "other"]
noncomputable def l_head_pairs : List Str := ["kind", "alike"]
noncomputable abbrev b_head_pairs_1 : Sms := .cons (.ret .none) .nil
noncomputable abbrev b_head_pairs_2 : Sms := .cons (.ret (.ite (.cmp .Eq (.idx (.var 0) (.int 1)) (.idx (.var 1) (.int 1))) (.lst false .nil) .none)) .nil
noncomputable abbrev b_head_pairs_3 : Sms := .cons (.ret (.ite (.cmp .Eq (.bi .len (.cons (.idx (.var 0) (.int 1)) .nil)) (.bi .len (.cons (.idx (.var 1) (.int 1)) .nil))) (.lzip (.idx (.var 0) (.int 1)) (.idx (.var 1) (.int 1))) .none)) .nil
noncomputable abbrev b_head_pairs_4 : Sms := .cons (.ret (.ite (.cmp .Eq (.idx (.var 0) (.int 2)) (.idx (.var 1) (.int 2))) (.lst false (.cons (.tup (.cons (.idx (.var 0) (.int 3)) (.cons (.idx (.var 1) (.int 3)) .nil))) .nil)) .none)) .nil
noncomputable abbrev b_head_pairs_5 : Sms := .cons (.ret (.lst false (.cons (.tup (.cons (.idx (.var 0) (.int 1)) (.cons (.idx (.var 1) (.int 1)) .nil))) .nil))) .nil
noncomputable abbrev b_head_pairs_6 : Sms := .cons (.ret (.ite (.cmp .Eq (.idx (.var 0) (.int 2)) (.idx (.var 1) (.int 2))) (.lst false (.cons (.tup (.cons (.idx (.var 0) (.int 1)) (.cons (.idx (.var 1) (.int 1)) .nil))) .nil)) .none)) .nil
noncomputable abbrev b_head_pairs_7 : Sms := .cons (.ret (.ite (.var 3) (.lzip (.idx (.var 0) (.int 3)) (.idx (.var 1) (.int 3))) .none)) .nil
noncomputable abbrev b_head_pairs_8 : Sms := .cons (.asg 3 (.bop .And (.cons (.cmp .Eq (.idx (.var 0) (.int 1)) (.idx (.var 1) (.int 1))) (.cons (.cmp .Eq (.bi .len (.cons (.idx (.var 0) (.int 3)) .nil)) (.bi .len (.cons (.idx (.var 1) (.int 3)) .nil))) .nil)))) b_head_pairs_7
noncomputable abbrev b_head_pairs_9 : Sms := .cons (.ret (.lst false .nil)) .nil
noncomputable abbrev b_head_pairs_10 : Sms := .cons (.ite (.cmp .Eq (.var 2) (.str "adt")) b_head_pairs_8 .nil) b_head_pairs_9
noncomputable abbrev b_head_pairs_11 : Sms := .cons (.ite (.cmp .Eq (.var 2) (.str "array")) b_head_pairs_6 .nil) b_head_pairs_10
noncomputable abbrev b_head_pairs_12 : Sms := .cons (.ite (.cmp .Eq (.var 2) (.str "box")) b_head_pairs_5 .nil) b_head_pairs_11
noncomputable abbrev b_head_pairs_13 : Sms := .cons (.ite (.cmp .Eq (.var 2) (.str "ref")) b_head_pairs_4 .nil) b_head_pairs_12
noncomputable abbrev b_head_pairs_14 : Sms := .cons (.ite (.cmp .Eq (.var 2) (.str "tuple")) b_head_pairs_3 .nil) b_head_pairs_13
noncomputable abbrev b_head_pairs_15 : Sms := .cons (.ite (.cmp .In (.var 2) (.tup (.cons (.str "int") (.cons (.str "param") (.cons (.str "var") (.cons (.str "intvar") .nil)))))) b_head_pairs_2 .nil) b_head_pairs_14
noncomputable abbrev b_head_pairs_16 : Sms := .cons (.asg 2 (.idx (.var 0) (.int 0))) b_head_pairs_15
noncomputable def b_head_pairs : Sms := .cons (.ite (.cmp .NotEq (.idx (.var 0) (.int 0)) (.idx (.var 1) (.int 0))) b_head_pairs_1 .nil) b_head_pairs_16
noncomputable def p_filled : List Str := ["T", "found"]
noncomputable def l_filled : List Str := ["kind"]
noncomputable abbrev b_filled_1 : Sms := .cons (.ret (.get 1 (.idx (.var 0) (.int 1)) (.var 0))) .nil
noncomputable abbrev b_filled_2 : Sms := .cons (.ret (.tup (.cons (.str "tuple") (.cons (.bi .tuple (.cons (.comp false (.call "filled" (.cons (.var 0) (.cons (.var 2) .nil))) (.one 0) ["part"] (.idx (.var 0) (.int 1)) (.bool true)) .nil)) .nil)))) .nil
noncomputable abbrev b_filled_3 : Sms := .cons (.ret (.tup (.cons (.str "ref") (.cons (.idx (.var 0) (.int 1)) (.cons (.idx (.var 0) (.int 2)) (.cons (.call "filled" (.cons (.idx (.var 0) (.int 3)) (.cons (.var 1) .nil))) .nil)))))) .nil
noncomputable abbrev b_filled_4 : Sms := .cons (.ret (.tup (.cons (.str "box") (.cons (.call "filled" (.cons (.idx (.var 0) (.int 1)) (.cons (.var 1) .nil))) .nil)))) .nil
noncomputable abbrev b_filled_5 : Sms := .cons (.ret (.tup (.cons (.str "array") (.cons (.call "filled" (.cons (.idx (.var 0) (.int 1)) (.cons (.var 1) .nil))) (.cons (.idx (.var 0) (.int 2)) .nil))))) .nil
noncomputable abbrev b_filled_6 : Sms := .cons (.ret (.tup (.cons (.str "adt") (.cons (.idx (.var 0) (.int 1)) (.cons (.idx (.var 0) (.int 2)) (.cons (.bi .tuple (.cons (.comp false (.call "filled" (.cons (.var 0) (.cons (.var 2) .nil))) (.one 0) ["part"] (.idx (.var 0) (.int 3)) (.bool true)) .nil)) .nil)))))) .nil
noncomputable abbrev b_filled_7 : Sms := .cons (.ret (.var 0)) .nil
noncomputable abbrev b_filled_8 : Sms := .cons (.ite (.cmp .Eq (.var 2) (.str "adt")) b_filled_6 .nil) b_filled_7
noncomputable abbrev b_filled_9 : Sms := .cons (.ite (.cmp .Eq (.var 2) (.str "array")) b_filled_5 .nil) b_filled_8
noncomputable abbrev b_filled_10 : Sms := .cons (.ite (.cmp .Eq (.var 2) (.str "box")) b_filled_4 .nil) b_filled_9
noncomputable abbrev b_filled_11 : Sms := .cons (.ite (.cmp .Eq (.var 2) (.str "ref")) b_filled_3 .nil) b_filled_10
noncomputable abbrev b_filled_12 : Sms := .cons (.ite (.cmp .Eq (.var 2) (.str "tuple")) b_filled_2 .nil) b_filled_11
noncomputable abbrev b_filled_13 : Sms := .cons (.ite (.cmp .Eq (.var 2) (.str "param")) b_filled_1 .nil) b_filled_12
noncomputable def b_filled : Sms := .cons (.asg 2 (.idx (.var 0) (.int 0))) b_filled_13
noncomputable def p_seen : List Str := ["self", "T"]
noncomputable def l_seen : List Str := []
noncomputable abbrev b_seen_1 : Sms := .cons (.asg 1 (.idx (.attr 0 "found") (.idx (.var 1) (.int 1)))) .nil
noncomputable abbrev b_seen_2 : Sms := .cons (.ret (.var 1)) .nil
noncomputable def b_seen : Sms := .cons (.whl (.bop .And (.cons (.cmp .Eq (.idx (.var 1) (.int 0)) (.str "param")) (.cons (.cmp .In (.idx (.var 1) (.int 1)) (.attr 0 "found")) .nil))) b_seen_1) b_seen_2
noncomputable def p_holds_name : List Str := ["self", "T", "name"]
noncomputable def l_holds_name : List Str := ["left", "gone", "here"]
noncomputable abbrev b_holds_name_1 : Sms := .cons (.ret (.bool true)) .nil
noncomputable abbrev b_holds_name_2 : Sms := .cons (.expr (.ext 3 (.comp false (.var 0) (.tup [0, 1]) ["part", "same"] (.call "head_pairs" (.cons (.var 5) (.cons (.var 5) .nil))) (.bool true)))) .nil
noncomputable abbrev b_holds_name_3 : Sms := .cons (.expr (.app 3 (.idx (.attr 0 "found") (.idx (.var 5) (.int 1))))) .nil
noncomputable abbrev b_holds_name_4 : Sms := .cons (.sub (.var 4) (.idx (.var 5) (.int 1)) (.bool true)) b_holds_name_3
noncomputable abbrev b_holds_name_5 : Sms := .cons (.ite (.bop .And (.cons (.cmp .In (.idx (.var 5) (.int 1)) (.attr 0 "found")) (.cons (.cmp .NotIn (.idx (.var 5) (.int 1)) (.var 4)) .nil))) b_holds_name_4 .nil) .nil
noncomputable abbrev b_holds_name_6 : Sms := .cons (.ite (.cmp .NotEq (.idx (.var 5) (.int 0)) (.str "param")) b_holds_name_2 b_holds_name_5) .nil
noncomputable abbrev b_holds_name_7 : Sms := .cons (.ite (.cmp .Eq (.var 5) (.tup (.cons (.str "param") (.cons (.var 2) .nil)))) b_holds_name_1 .nil) b_holds_name_6
noncomputable abbrev b_holds_name_8 : Sms := .cons (.asg 5 (.pop 3)) b_holds_name_7
noncomputable abbrev b_holds_name_9 : Sms := .cons (.ret (.bool false)) .nil
noncomputable abbrev b_holds_name_10 : Sms := .cons (.whl (.cmp .NotEq (.var 3) (.lst false .nil)) b_holds_name_8) b_holds_name_9
noncomputable def b_holds_name : Sms := .cons (.asgM [3, 4] (.cons (.lst true (.cons (.var 1) .nil)) (.cons (.dct false) .nil))) b_holds_name_10
noncomputable def p_bind : List Str := ["self", "name", "T"]
noncomputable def l_bind : List Str := []
noncomputable abbrev b_bind_1 : Sms := .cons (.ret (.bool true)) .nil
noncomputable abbrev b_bind_2 : Sms := .cons (.ret (.bool false)) .nil
noncomputable abbrev b_bind_3 : Sms := .cons (.ret (.bool true)) .nil
noncomputable abbrev b_bind_4 : Sms := .cons (.sub (.attr 0 "found") (.var 1) (.var 2)) b_bind_3
noncomputable abbrev b_bind_5 : Sms := .cons (.ite (.meth 0 "holds_name" (.cons (.var 2) (.cons (.var 1) .nil))) b_bind_2 .nil) b_bind_4
noncomputable def b_bind : Sms := .cons (.ite (.cmp .Eq (.var 2) (.tup (.cons (.str "param") (.cons (.var 1) .nil)))) b_bind_1 .nil) b_bind_5
noncomputable def p_unify : List Str := ["self", "one", "other"]
noncomputable def l_unify : List Str := ["left", "gone", "here", "there", "pairs"]
noncomputable abbrev b_unify_1 : Sms := .cons (.cont) .nil
noncomputable abbrev b_unify_2 : Sms := .cons (.ret (.bool false)) .nil
noncomputable abbrev b_unify_3 : Sms := .cons (.ite (.not (.meth 0 "bind" (.cons (.idx (.var 5) (.int 1)) (.cons (.var 6) .nil)))) b_unify_2 .nil) .nil
noncomputable abbrev b_unify_4 : Sms := .cons (.ret (.bool false)) .nil
noncomputable abbrev b_unify_5 : Sms := .cons (.ite (.not (.meth 0 "bind" (.cons (.idx (.var 6) (.int 1)) (.cons (.var 5) .nil)))) b_unify_4 .nil) .nil
noncomputable abbrev b_unify_6 : Sms := .cons (.ret (.bool false)) .nil
noncomputable abbrev b_unify_7 : Sms := .cons (.expr (.ext 3 (.var 7))) .nil
noncomputable abbrev b_unify_8 : Sms := .cons (.ite (.cmp .Is (.var 7) .none) b_unify_6 .nil) b_unify_7
noncomputable abbrev b_unify_9 : Sms := .cons (.asg 7 (.call "head_pairs" (.cons (.var 5) (.cons (.var 6) .nil)))) b_unify_8
noncomputable abbrev b_unify_10 : Sms := .cons (.ite (.cmp .Eq (.idx (.var 6) (.int 0)) (.str "param")) b_unify_5 b_unify_9) .nil
noncomputable abbrev b_unify_11 : Sms := .cons (.ite (.cmp .Eq (.idx (.var 5) (.int 0)) (.str "param")) b_unify_3 b_unify_10) .nil
noncomputable abbrev b_unify_12 : Sms := .cons (.sub (.var 4) (.tup (.cons (.var 5) (.cons (.var 6) .nil))) (.bool true)) b_unify_11
noncomputable abbrev b_unify_13 : Sms := .cons (.ite (.cmp .In (.tup (.cons (.var 5) (.cons (.var 6) .nil))) (.var 4)) b_unify_1 .nil) b_unify_12
noncomputable abbrev b_unify_14 : Sms := .cons (.asgM [5, 6] (.cons (.meth 0 "seen" (.cons (.var 5) .nil)) (.cons (.meth 0 "seen" (.cons (.var 6) .nil)) .nil))) b_unify_13
noncomputable abbrev b_unify_15 : Sms := .cons (.asgT [5, 6] (.pop 3)) b_unify_14
noncomputable abbrev b_unify_16 : Sms := .cons (.ret (.bool true)) .nil
noncomputable abbrev b_unify_17 : Sms := .cons (.whl (.cmp .NotEq (.var 3) (.lst false .nil)) b_unify_15) b_unify_16
noncomputable def b_unify : Sms := .cons (.asgM [3, 4] (.cons (.lst true (.cons (.tup (.cons (.var 1) (.cons (.var 2) .nil))) .nil)) (.cons (.dct true) .nil))) b_unify_17
noncomputable def p_all_unified : List Str := ["self", "some", "others"]
noncomputable def l_all_unified : List Str := ["here", "there"]
noncomputable abbrev b_all_unified_1 : Sms := .cons (.ret (.bool false)) .nil
noncomputable abbrev b_all_unified_2 : Sms := .cons (.ret (.bool false)) .nil
noncomputable abbrev b_all_unified_3 : Sms := .cons (.ite (.not (.meth 0 "unify" (.cons (.var 3) (.cons (.var 4) .nil)))) b_all_unified_2 .nil) .nil
noncomputable abbrev b_all_unified_4 : Sms := .cons (.ret (.bool true)) .nil
noncomputable abbrev b_all_unified_5 : Sms := .cons (.for_ (.tup [3, 4]) (.zip (.var 1) (.var 2)) b_all_unified_3) b_all_unified_4
noncomputable def b_all_unified : Sms := .cons (.ite (.cmp .NotEq (.bi .len (.cons (.var 1) .nil)) (.bi .len (.cons (.var 2) .nil))) b_all_unified_1 .nil) b_all_unified_5
noncomputable def p_whole : List Str := ["self", "T"]
noncomputable def l_whole : List Str := ["done", "left", "here", "inner"]
noncomputable abbrev b_whole_1 : Sms := .cons (.expr (.pop 3)) .nil
noncomputable abbrev b_whole_2 : Sms := .cons (.sub (.var 2) (.idx (.var 3) (.neg 1)) (.ite (.cmp .Eq (.idx (.var 4) (.int 0)) (.str "param")) (.var 4) (.call "filled" (.cons (.var 4) (.cons (.var 2) .nil))))) b_whole_1
noncomputable abbrev b_whole_3 : Sms := .cons (.expr (.ext 3 (.var 5))) .nil
noncomputable abbrev b_whole_4 : Sms := .cons (.ite (.bop .Or (.cons (.cmp .Eq (.var 5) (.lst false .nil)) (.cons (.cmp .In (.idx (.var 3) (.neg 1)) (.var 2)) .nil))) b_whole_2 b_whole_3) .nil
noncomputable abbrev b_whole_5 : Sms := .cons (.asg 5 (.ite (.cmp .Eq (.idx (.var 4) (.int 0)) (.str "param")) (.lst false .nil) (.comp false (.var 0) (.one 0) ["name"] (.fcall "names_in" (.cons (.var 4) .nil)) (.cmp .NotIn (.var 0) (.var 3))))) b_whole_4
noncomputable abbrev b_whole_6 : Sms := .cons (.asg 4 (.meth 0 "seen" (.cons (.tup (.cons (.str "param") (.cons (.idx (.var 3) (.neg 1)) .nil))) .nil))) b_whole_5
noncomputable abbrev b_whole_7 : Sms := .cons (.ret (.call "filled" (.cons (.var 1) (.cons (.var 2) .nil)))) .nil
noncomputable abbrev b_whole_8 : Sms := .cons (.whl (.cmp .NotEq (.var 3) (.lst false .nil)) b_whole_6) b_whole_7
noncomputable def b_whole : Sms := .cons (.asgM [2, 3] (.cons (.dct false) (.cons (.call "names_in" (.cons (.var 1) .nil)) .nil))) b_whole_8
noncomputable def p_names_in : List Str := ["T"]
noncomputable def l_names_in : List Str := ["found", "left", "here"]
noncomputable abbrev b_names_in_1 : Sms := .cons (.expr (.app 1 (.idx (.var 3) (.int 1)))) .nil
noncomputable abbrev b_names_in_2 : Sms := .cons (.expr (.ext 2 (.slc .none .none (.neg 1) (.comp false (.var 0) (.tup [0, 1]) ["part", "same"] (.call "head_pairs" (.cons (.var 3) (.cons (.var 3) .nil))) (.bool true))))) .nil
noncomputable abbrev b_names_in_3 : Sms := .cons (.ite (.bop .And (.cons (.cmp .Eq (.idx (.var 3) (.int 0)) (.str "param")) (.cons (.cmp .NotIn (.idx (.var 3) (.int 1)) (.var 1)) .nil))) b_names_in_1 .nil) b_names_in_2
noncomputable abbrev b_names_in_4 : Sms := .cons (.asg 3 (.pop 2)) b_names_in_3
noncomputable abbrev b_names_in_5 : Sms := .cons (.ret (.var 1)) .nil
noncomputable abbrev b_names_in_6 : Sms := .cons (.whl (.cmp .NotEq (.var 2) (.lst false .nil)) b_names_in_4) b_names_in_5
noncomputable abbrev b_names_in_7 : Sms := .cons (.asg 2 (.lst true (.cons (.var 0) .nil))) b_names_in_6
noncomputable def b_names_in : Sms := .cons (.asg 1 (.lst true .nil)) b_names_in_7
noncomputable def p_own_names : List Str := ["impl", "side"]
noncomputable def l_own_names : List Str := ["told", "name", "bounds"]
noncomputable abbrev b_own_names_1 : Sms := .cons (.sub (.var 2) (.var 3) (.tup (.cons (.str "param") (.cons (.bin .Add (.var 1) (.var 3)) .nil)))) .nil
noncomputable abbrev b_own_names_2 : Sms := .cons (.ret (.comp false (.call "filled" (.cons (.var 0) (.cons (.var 3) .nil))) (.one 0) ["T"] (.bin .Add (.bi .tuple (.cons (.attr 0 "trait_args") .nil)) (.tup (.cons (.attr 0 "self_type") .nil))) (.bool true))) .nil
noncomputable abbrev b_own_names_3 : Sms := .cons (.for_ (.tup [3, 4]) (.attr 0 "params") b_own_names_1) b_own_names_2
noncomputable def b_own_names : Sms := .cons (.asg 2 (.dct false)) b_own_names_3
noncomputable def p_law_pool : List Str := ["script", "k"]
noncomputable def l_law_pool : List Str := ["cell", "big", "mixed"]
noncomputable abbrev b_law_pool_1 : Sms := .cons (.ret (.lst true (.cons (.bin .Mult (.var 3) (.bi .int (.cons (.cmp .GtE (.var 3) (.bin .Pow (.int 10) (.int 18))) .nil))) (.cons (.var 4) .nil)))) .nil
noncomputable abbrev b_law_pool_2 : Sms := .cons (.asg 4 (.bin .Mod (.bi .int (.cons (.bin .Mult (.bin .Add (.bin .Add (.bin .Add (.bin .Mod (.bi .int (.cons (.var 3) .nil)) (.int 2147483629)) (.bin .Mult (.bin .Mult (.int 7919) (.var 1)) (.var 1))) (.bin .Mult (.int 31) (.var 1))) (.int 17)) (.int 48271)) .nil)) (.int 2147483647))) b_law_pool_1
noncomputable abbrev b_law_pool_3 : Sms := .cons (.asg 3 (.bi .max (.cons (.bi .int (.cons (.var 2) .nil)) (.cons (.bi .int (.cons (.bin .Sub (.neg 1) (.var 2)) .nil)) .nil)))) b_law_pool_2
noncomputable def b_law_pool : Sms := .cons (.asg 2 (.ite (.cmp .Lt (.var 1) (.bi .len (.cons (.var 0) .nil))) (.idx (.var 0) (.var 1)) (.int 0))) b_law_pool_3
noncomputable def p_law_take : List Str := ["source", "top"]
noncomputable def l_law_take : List Str := ["drawn"]
noncomputable abbrev b_law_take_1 : Sms := .cons (.ret (.var 2)) .nil
noncomputable abbrev b_law_take_2 : Sms := .cons (.sub (.var 0) (.int 0) (.bin .FloorDiv (.idx (.var 0) (.int 0)) (.var 1))) b_law_take_1
noncomputable abbrev b_law_take_3 : Sms := .cons (.asg 2 (.bin .Mod (.bi .int (.cons (.idx (.var 0) (.int 0)) .nil)) (.var 1))) b_law_take_2
noncomputable abbrev b_law_take_4 : Sms := .cons (.ret (.bin .Mod (.bi .int (.cons (.bin .FloorDiv (.bin .Mod (.bi .int (.cons (.bin .Mult (.idx (.var 0) (.int 1)) (.idx (.var 0) (.int 1))) .nil)) (.int 2147483629)) (.int 32)) .nil)) (.var 1))) .nil
noncomputable abbrev b_law_take_5 : Sms := .cons (.sub (.var 0) (.int 1) (.bin .Mod (.bi .int (.cons (.bin .Add (.bin .Mult (.idx (.var 0) (.int 1)) (.int 39373)) (.int 7)) .nil)) (.int 2147483647))) b_law_take_4
noncomputable def b_law_take : Sms := .cons (.ite (.cmp .Gt (.idx (.var 0) (.int 0)) (.int 0)) b_law_take_3 .nil) b_law_take_5
noncomputable def p_law_one : List Str := ["source", "things"]
noncomputable def l_law_one : List Str := []
noncomputable def b_law_one : Sms := .cons (.ret (.idx (.var 1) (.call "_law_take" (.cons (.var 0) (.cons (.bi .len (.cons (.var 1) .nil)) .nil))))) .nil
noncomputable def p_law_type : List Str := ["source", "names", "put", "deep"]
noncomputable def l_law_type : List Str := ["way", "some", "told", "row", "ones", "twos", "leaf", "name", "is_mut"]
noncomputable abbrev b_law_type_1 : Sms := .cons (.ret (.tup (.cons (.var 10) (.cons (.lst false .nil) (.cons (.var 10) .nil))))) .nil
noncomputable abbrev b_law_type_2 : Sms := .cons (.asg 10 (.idx (.lst false (.cons (.tup (.cons (.str "bool") .nil)) (.cons (.tup (.cons (.str "int") (.cons (.str "u8") .nil))) .nil))) (.var 4))) b_law_type_1
noncomputable abbrev b_law_type_3 : Sms := .cons (.ret (.tup (.cons (.tup (.cons (.str "param") (.cons (.var 11) .nil))) (.cons (.lst false (.cons (.var 11) .nil)) (.cons (.get 2 (.var 11) (.tup (.cons (.str "param") (.cons (.var 11) .nil)))) .nil))))) .nil
noncomputable abbrev b_law_type_4 : Sms := .cons (.asg 11 (.call "_law_one" (.cons (.var 0) (.cons (.var 1) .nil)))) b_law_type_3
noncomputable abbrev b_law_type_5 : Sms := .cons (.asg 6 (.bin .Add (.var 6) (.idx (.var 7) (.int 1)))) .nil
noncomputable abbrev b_law_type_6 : Sms := .cons (.ret (.tup (.cons (.tup (.cons (.str "box") (.cons (.idx (.var 8) (.int 0)) .nil))) (.cons (.var 6) (.cons (.tup (.cons (.str "box") (.cons (.idx (.var 9) (.int 0)) .nil))) .nil))))) .nil
noncomputable abbrev b_law_type_7 : Sms := .cons (.ret (.tup (.cons (.tup (.cons (.str "array") (.cons (.idx (.var 8) (.int 0)) (.cons (.int 2) .nil)))) (.cons (.var 6) (.cons (.tup (.cons (.str "array") (.cons (.idx (.var 9) (.int 0)) (.cons (.int 2) .nil)))) .nil))))) .nil
noncomputable abbrev b_law_type_8 : Sms := .cons (.ret (.tup (.cons (.tup (.cons (.str "ref") (.cons .none (.cons (.var 12) (.cons (.idx (.var 8) (.int 0)) .nil))))) (.cons (.var 6) (.cons (.tup (.cons (.str "ref") (.cons .none (.cons (.var 12) (.cons (.idx (.var 9) (.int 0)) .nil))))) .nil))))) .nil
noncomputable abbrev b_law_type_9 : Sms := .cons (.asg 12 (.cmp .Eq (.call "_law_take" (.cons (.var 0) (.cons (.int 2) .nil))) (.int 0))) b_law_type_8
noncomputable abbrev b_law_type_10 : Sms := .cons (.ret (.tup (.cons (.tup (.cons (.str "tuple") (.cons (.var 8) .nil))) (.cons (.var 6) (.cons (.tup (.cons (.str "tuple") (.cons (.var 9) .nil))) .nil))))) .nil
noncomputable abbrev b_law_type_11 : Sms := .cons (.ret (.tup (.cons (.tup (.cons (.str "adt") (.cons (.str "W") (.cons (.tup .nil) (.cons (.var 8) .nil))))) (.cons (.var 6) (.cons (.tup (.cons (.str "adt") (.cons (.str "W") (.cons (.tup .nil) (.cons (.var 9) .nil))))) .nil))))) .nil
noncomputable abbrev b_law_type_12 : Sms := .cons (.ite (.cmp .Eq (.var 4) (.int 6)) b_law_type_10 .nil) b_law_type_11
noncomputable abbrev b_law_type_13 : Sms := .cons (.ite (.cmp .Eq (.var 4) (.int 5)) b_law_type_9 .nil) b_law_type_12
noncomputable abbrev b_law_type_14 : Sms := .cons (.ite (.cmp .Eq (.var 4) (.int 4)) b_law_type_7 .nil) b_law_type_13
noncomputable abbrev b_law_type_15 : Sms := .cons (.ite (.cmp .Eq (.var 4) (.int 3)) b_law_type_6 .nil) b_law_type_14
noncomputable abbrev b_law_type_16 : Sms := .cons (.asgM [8, 9] (.cons (.bi .tuple (.cons (.comp false (.idx (.var 0) (.int 0)) (.one 0) ["row"] (.var 5) (.bool true)) .nil)) (.cons (.bi .tuple (.cons (.comp false (.idx (.var 0) (.int 2)) (.one 0) ["row"] (.var 5) (.bool true)) .nil)) .nil))) b_law_type_15
noncomputable abbrev b_law_type_17 : Sms := .cons (.for_ (.one 7) (.var 5) b_law_type_5) b_law_type_16
noncomputable abbrev b_law_type_18 : Sms := .cons (.asgM [5, 6] (.cons (.compR false (.call "_law_type" (.cons (.var 1) (.cons (.var 2) (.cons (.var 3) (.cons (.bin .Sub (.var 4) (.int 1)) .nil))))) (.one 0) ["turn"] (.bin .Add (.int 1) (.bi .int (.cons (.cmp .Gt (.var 4) (.int 5)) .nil))) (.bool true)) (.cons (.lst false .nil) .nil))) b_law_type_17
noncomputable abbrev b_law_type_19 : Sms := .cons (.ite (.cmp .Eq (.var 4) (.int 2)) b_law_type_4 .nil) b_law_type_18
noncomputable abbrev b_law_type_20 : Sms := .cons (.ite (.cmp .Lt (.var 4) (.int 2)) b_law_type_2 .nil) b_law_type_19
noncomputable def b_law_type : Sms := .cons (.asg 4 (.ite (.cmp .Gt (.var 3) (.int 0)) (.call "_law_take" (.cons (.var 0) (.cons (.int 8) .nil))) (.call "_law_take" (.cons (.var 0) (.cons (.int 3) .nil))))) b_law_type_20
noncomputable def p_law_once : List Str := ["names"]
noncomputable def l_law_once : List Str := ["found", "name"]
noncomputable abbrev b_law_once_1 : Sms := .cons (.expr (.app 1 (.var 2))) .nil
noncomputable abbrev b_law_once_2 : Sms := .cons (.ite (.cmp .NotIn (.var 2) (.var 1)) b_law_once_1 .nil) .nil
noncomputable abbrev b_law_once_3 : Sms := .cons (.ret (.var 1)) .nil
noncomputable abbrev b_law_once_4 : Sms := .cons (.for_ (.one 2) (.var 0) b_law_once_2) b_law_once_3
noncomputable def b_law_once : Sms := .cons (.asg 1 (.lst true .nil)) b_law_once_4
noncomputable def p_law_reached : List Str := ["names", "table"]
noncomputable def l_law_reached : List Str := ["found", "last", "name"]
noncomputable abbrev b_law_reached_1 : Sms := .cons (.asg 2 (.fcall "_law_once" (.cons (.bin .Add (.var 2) (.get 1 (.var 4) (.lst false .nil))) .nil))) .nil
noncomputable abbrev b_law_reached_2 : Sms := .cons (.for_ (.one 4) (.var 3) b_law_reached_1) .nil
noncomputable abbrev b_law_reached_3 : Sms := .cons (.asg 3 (.var 2)) b_law_reached_2
noncomputable abbrev b_law_reached_4 : Sms := .cons (.ret (.var 2)) .nil
noncomputable abbrev b_law_reached_5 : Sms := .cons (.whl (.cmp .NotEq (.var 2) (.var 3)) b_law_reached_3) b_law_reached_4
noncomputable def b_law_reached : Sms := .cons (.asgM [2, 3] (.cons (.fcall "_law_once" (.cons (.var 0) .nil)) (.cons (.lst false .nil) .nil))) b_law_reached_5
noncomputable def p_law_held_right : List Str := ["source"]
noncomputable def l_law_held_right : List Str := ["both", "table", "name", "T", "names", "same", "near", "before", "can", "told"]
noncomputable abbrev b_law_held_right_1 : Sms := .cons (.sub2 (.attr 1 "found") (.var 3) (.var 2) (.var 3) (.idx (.var 10) (.int 0)) (.idx (.var 10) (.int 1))) .nil
noncomputable abbrev b_law_held_right_2 : Sms := .cons (.asg 10 (.call "_law_type" (.cons (.var 0) (.cons (.lst false (.cons (.str "A") (.cons (.str "B") (.cons (.str "C") (.cons (.str "D") .nil))))) (.cons (.dct false) (.cons (.int 1) .nil)))))) b_law_held_right_1
noncomputable abbrev b_law_held_right_3 : Sms := .cons (.ite (.cmp .Gt (.call "_law_take" (.cons (.var 0) (.cons (.int 3) .nil))) (.int 0)) b_law_held_right_2 .nil) .nil
noncomputable abbrev b_law_held_right_4 : Sms := .cons (.ret (.bool false)) .nil
noncomputable abbrev b_law_held_right_5 : Sms := .cons (.ite (.cmp .NotEq (.meth 1 "holds_name" (.cons (.var 4) (.cons (.var 3) .nil))) (.cmp .In (.var 3) (.var 7))) b_law_held_right_4 .nil) .nil
noncomputable abbrev b_law_held_right_6 : Sms := .cons (.ret (.bool false)) .nil
noncomputable abbrev b_law_held_right_7 : Sms := .cons (.sub (.var 8) (.var 3) (.var 4)) .nil
noncomputable abbrev b_law_held_right_8 : Sms := .cons (.ret (.bop .And (.cons (.cmp .Eq (.meth 1 "bind" (.cons (.var 3) (.cons (.var 4) .nil))) (.var 9)) (.cons (.cmp .Eq (.attr 1 "found") (.var 8)) .nil)))) .nil
noncomputable abbrev b_law_held_right_9 : Sms := .cons (.ite (.bop .And (.cons (.var 9) (.cons (.cmp .NotEq (.var 4) (.tup (.cons (.str "param") (.cons (.var 3) .nil)))) .nil))) b_law_held_right_7 .nil) b_law_held_right_8
noncomputable abbrev b_law_held_right_10 : Sms := .cons (.asg 9 (.bop .Or (.cons (.cmp .Eq (.var 4) (.tup (.cons (.str "param") (.cons (.var 3) .nil)))) (.cons (.cmp .NotIn (.var 3) (.var 7)) .nil)))) b_law_held_right_9
noncomputable abbrev b_law_held_right_11 : Sms := .cons (.ite (.bop .Or (.cons (.cmp .IsNot (.meth 1 "bind" (.cons (.var 3) (.cons (.tup (.cons (.str "param") (.cons (.var 3) .nil))) .nil))) (.bool true)) (.cons (.cmp .NotEq (.attr 1 "found") (.var 8)) .nil))) b_law_held_right_6 .nil) b_law_held_right_10
noncomputable abbrev b_law_held_right_12 : Sms := .cons (.asgM [3, 8] (.cons (.call "_law_one" (.cons (.var 0) (.cons (.lst false (.cons (.str "A") (.cons (.str "B") (.cons (.str "C") (.cons (.str "D") .nil))))) .nil))) (.cons (.bi .dict (.cons (.attr 1 "found") .nil)) .nil))) b_law_held_right_11
noncomputable abbrev b_law_held_right_13 : Sms := .cons (.for_ (.one 3) (.lst false (.cons (.str "A") (.cons (.str "B") (.cons (.str "C") (.cons (.str "D") .nil))))) b_law_held_right_5) b_law_held_right_12
noncomputable abbrev b_law_held_right_14 : Sms := .cons (.asg 7 (.call "_law_reached" (.cons (.var 5) (.cons (.var 2) .nil)))) b_law_held_right_13
noncomputable abbrev b_law_held_right_15 : Sms := .cons (.asgT [4, 5, 6] (.call "_law_type" (.cons (.var 0) (.cons (.lst false (.cons (.str "A") (.cons (.str "B") (.cons (.str "C") (.cons (.str "D") .nil))))) (.cons (.dct false) (.cons (.int 2) .nil)))))) b_law_held_right_14
noncomputable abbrev b_law_held_right_16 : Sms := .cons (.for_ (.one 3) (.lst false (.cons (.str "A") (.cons (.str "B") (.cons (.str "C") .nil)))) b_law_held_right_3) b_law_held_right_15
noncomputable def b_law_held_right : Sms := .cons (.asgM [1, 2] (.cons (.call "Both" .nil) (.cons (.dct false) .nil))) b_law_held_right_16
noncomputable def p_law_parts : List Str := ["T"]
noncomputable def l_law_parts : List Str := []
noncomputable abbrev b_law_parts_1 : Sms := .cons (.ret (.tup (.cons (.idx (.var 0) (.int 3)) .nil))) .nil
noncomputable abbrev b_law_parts_2 : Sms := .cons (.ret (.tup (.cons (.idx (.var 0) (.int 1)) .nil))) .nil
noncomputable abbrev b_law_parts_3 : Sms := .cons (.ret (.ite (.cmp .Eq (.idx (.var 0) (.int 0)) (.str "tuple")) (.idx (.var 0) (.int 1)) (.ite (.cmp .Eq (.idx (.var 0) (.int 0)) (.str "adt")) (.idx (.var 0) (.int 3)) (.tup .nil)))) .nil
noncomputable abbrev b_law_parts_4 : Sms := .cons (.ite (.cmp .In (.idx (.var 0) (.int 0)) (.tup (.cons (.str "box") (.cons (.str "array") .nil)))) b_law_parts_2 .nil) b_law_parts_3
noncomputable def b_law_parts : Sms := .cons (.ite (.cmp .Eq (.idx (.var 0) (.int 0)) (.str "ref")) b_law_parts_1 .nil) b_law_parts_4
noncomputable def p_law_shape : List Str := ["T"]
noncomputable def l_law_shape : List Str := []
noncomputable abbrev b_law_shape_1 : Sms := .cons (.ret (.tup (.cons (.str "ref") (.cons (.idx (.var 0) (.int 2)) .nil)))) .nil
noncomputable abbrev b_law_shape_2 : Sms := .cons (.ret (.ite (.cmp .In (.idx (.var 0) (.int 0)) (.tup (.cons (.str "box") (.cons (.str "array") (.cons (.str "tuple") (.cons (.str "adt") .nil)))))) (.tup (.cons (.idx (.var 0) (.int 0)) (.cons (.bi .len (.cons (.call "_law_parts" (.cons (.var 0) .nil)) .nil)) .nil))) (.var 0))) .nil
noncomputable def b_law_shape : Sms := .cons (.ite (.cmp .Eq (.idx (.var 0) (.int 0)) (.str "ref")) b_law_shape_1 .nil) b_law_shape_2
noncomputable def p_law_put : List Str := ["T", "name", "told"]
noncomputable def l_law_put : List Str := ["parts"]
noncomputable abbrev b_law_put_1 : Sms := .cons (.ret (.var 2)) .nil
noncomputable abbrev b_law_put_2 : Sms := .cons (.ret (.tup (.cons (.str "ref") (.cons .none (.cons (.idx (.var 0) (.int 2)) (.cons (.idx (.var 3) (.int 0)) .nil)))))) .nil
noncomputable abbrev b_law_put_3 : Sms := .cons (.ret (.tup (.cons (.str "box") (.cons (.idx (.var 3) (.int 0)) .nil)))) .nil
noncomputable abbrev b_law_put_4 : Sms := .cons (.ret (.tup (.cons (.str "array") (.cons (.idx (.var 3) (.int 0)) (.cons (.int 2) .nil))))) .nil
noncomputable abbrev b_law_put_5 : Sms := .cons (.ret (.ite (.cmp .Eq (.idx (.var 0) (.int 0)) (.str "tuple")) (.tup (.cons (.str "tuple") (.cons (.var 3) .nil))) (.ite (.cmp .Eq (.idx (.var 0) (.int 0)) (.str "adt")) (.tup (.cons (.str "adt") (.cons (.str "W") (.cons (.tup .nil) (.cons (.var 3) .nil))))) (.var 0)))) .nil
noncomputable abbrev b_law_put_6 : Sms := .cons (.ite (.cmp .Eq (.idx (.var 0) (.int 0)) (.str "array")) b_law_put_4 .nil) b_law_put_5
noncomputable abbrev b_law_put_7 : Sms := .cons (.ite (.cmp .Eq (.idx (.var 0) (.int 0)) (.str "box")) b_law_put_3 .nil) b_law_put_6
noncomputable abbrev b_law_put_8 : Sms := .cons (.ite (.cmp .Eq (.idx (.var 0) (.int 0)) (.str "ref")) b_law_put_2 .nil) b_law_put_7
noncomputable abbrev b_law_put_9 : Sms := .cons (.asg 3 (.bi .tuple (.cons (.comp false (.call "_law_put" (.cons (.var 0) (.cons (.var 2) (.cons (.var 3) .nil)))) (.one 0) ["part"] (.call "_law_parts" (.cons (.var 0) .nil)) (.bool true)) .nil))) b_law_put_8
noncomputable def b_law_put : Sms := .cons (.ite (.cmp .Eq (.var 0) (.tup (.cons (.str "param") (.cons (.var 1) .nil)))) b_law_put_1 .nil) b_law_put_9
noncomputable def p_law_solved : List Str := ["left"]
noncomputable def l_law_solved : List Str := ["puts", "one", "other"]
noncomputable abbrev b_law_solved_1 : Sms := .cons (.asgM [2, 3] (.cons (.var 3) (.cons (.var 2) .nil))) .nil
noncomputable abbrev b_law_solved_2 : Sms := .cons (.ret .none) .nil
noncomputable abbrev b_law_solved_3 : Sms := .cons (.asg 1 (.bin .Add (.comp false (.tup (.cons (.var 0) (.cons (.call "_law_put" (.cons (.var 1) (.cons (.idx (.var 4) (.int 1)) (.cons (.var 5) .nil)))) .nil))) (.tup [0, 1]) ["name", "told"] (.var 1) (.bool true)) (.lst false (.cons (.tup (.cons (.idx (.var 2) (.int 1)) (.cons (.var 3) .nil))) .nil)))) .nil
noncomputable abbrev b_law_solved_4 : Sms := .cons (.asg 0 (.comp false (.tup (.cons (.call "_law_put" (.cons (.var 0) (.cons (.idx (.var 4) (.int 1)) (.cons (.var 5) .nil)))) (.cons (.call "_law_put" (.cons (.var 1) (.cons (.idx (.var 4) (.int 1)) (.cons (.var 5) .nil)))) .nil))) (.tup [0, 1]) ["a", "b"] (.var 0) (.bool true))) b_law_solved_3
noncomputable abbrev b_law_solved_5 : Sms := .cons (.ite (.cmp .NotEq (.call "_law_put" (.cons (.var 3) (.cons (.idx (.var 2) (.int 1)) (.cons (.tup (.cons (.str "never") .nil)) .nil)))) (.var 3)) b_law_solved_2 .nil) b_law_solved_4
noncomputable abbrev b_law_solved_6 : Sms := .cons (.ret .none) .nil
noncomputable abbrev b_law_solved_7 : Sms := .cons (.asg 0 (.bin .Add (.lzip (.call "_law_parts" (.cons (.var 2) .nil)) (.call "_law_parts" (.cons (.var 3) .nil))) (.var 0))) .nil
noncomputable abbrev b_law_solved_8 : Sms := .cons (.ite (.cmp .NotEq (.call "_law_shape" (.cons (.var 2) .nil)) (.call "_law_shape" (.cons (.var 3) .nil))) b_law_solved_6 .nil) b_law_solved_7
noncomputable abbrev b_law_solved_9 : Sms := .cons (.ite (.cmp .NotEq (.var 2) (.var 3)) b_law_solved_8 .nil) .nil
noncomputable abbrev b_law_solved_10 : Sms := .cons (.ite (.bop .And (.cons (.cmp .NotEq (.var 2) (.var 3)) (.cons (.cmp .Eq (.idx (.var 2) (.int 0)) (.str "param")) .nil))) b_law_solved_5 b_law_solved_9) .nil
noncomputable abbrev b_law_solved_11 : Sms := .cons (.ite (.cmp .Eq (.idx (.var 3) (.int 0)) (.str "param")) b_law_solved_1 .nil) b_law_solved_10
noncomputable abbrev b_law_solved_12 : Sms := .cons (.asg 0 (.slc (.int 1) .none .none (.var 0))) b_law_solved_11
noncomputable abbrev b_law_solved_13 : Sms := .cons (.asgT [2, 3] (.idx (.var 0) (.int 0))) b_law_solved_12
noncomputable abbrev b_law_solved_14 : Sms := .cons (.ret (.var 1)) .nil
noncomputable abbrev b_law_solved_15 : Sms := .cons (.whl (.cmp .NotEq (.var 0) (.lst false .nil)) b_law_solved_13) b_law_solved_14
noncomputable def b_law_solved : Sms := .cons (.asg 1 (.lst false .nil)) b_law_solved_15
noncomputable def p_law_names : List Str := ["T"]
noncomputable def l_law_names : List Str := ["found", "part"]
noncomputable abbrev b_law_names_1 : Sms := .cons (.ret (.lst false (.cons (.idx (.var 0) (.int 1)) .nil))) .nil
noncomputable abbrev b_law_names_2 : Sms := .cons (.asg 1 (.bin .Add (.var 1) (.call "_law_names" (.cons (.var 2) .nil)))) .nil
noncomputable abbrev b_law_names_3 : Sms := .cons (.ret (.var 1)) .nil
noncomputable abbrev b_law_names_4 : Sms := .cons (.for_ (.one 2) (.call "_law_parts" (.cons (.var 0) .nil)) b_law_names_2) b_law_names_3
noncomputable abbrev b_law_names_5 : Sms := .cons (.asg 1 (.lst false .nil)) b_law_names_4
noncomputable def b_law_names : Sms := .cons (.ite (.cmp .Eq (.idx (.var 0) (.int 0)) (.str "param")) b_law_names_1 .nil) b_law_names_5
noncomputable def p_law_lined : List Str := ["types"]
noncomputable def l_law_lined : List Str := ["names", "T", "at", "name"]
noncomputable abbrev b_law_lined_1 : Sms := .cons (.asg 1 (.bin .Add (.var 1) (.call "_law_names" (.cons (.var 2) .nil)))) .nil
noncomputable abbrev b_law_lined_2 : Sms := .cons (.asg 0 (.comp false (.call "_law_put" (.cons (.var 0) (.cons (.var 5) (.cons (.tup (.cons (.str "param") (.cons (.bi .str (.cons (.var 4) .nil)) .nil))) .nil)))) (.one 0) ["T"] (.var 0) (.bool true))) .nil
noncomputable abbrev b_law_lined_3 : Sms := .cons (.ret (.var 0)) .nil
noncomputable abbrev b_law_lined_4 : Sms := .cons (.for_ (.tup [3, 4]) (.enum (.fcall "_law_once" (.cons (.var 1) .nil))) b_law_lined_2) b_law_lined_3
noncomputable abbrev b_law_lined_5 : Sms := .cons (.for_ (.one 2) (.var 0) b_law_lined_1) b_law_lined_4
noncomputable def b_law_lined : Sms := .cons (.asg 1 (.lst false .nil)) b_law_lined_5
noncomputable def p_law_unified_right : List Str := ["source"]
noncomputable def l_law_unified_right : List Str := ["some", "others", "both", "puts", "due", "name", "told", "wholes"]
noncomputable abbrev b_law_unified_right_1 : Sms := .cons (.expr (.app 2 (.tup (.cons (.str "bool") .nil)))) .nil
noncomputable abbrev b_law_unified_right_2 : Sms := .cons (.ret (.bool false)) .nil
noncomputable abbrev b_law_unified_right_3 : Sms := .cons (.ret (.bool true)) .nil
noncomputable abbrev b_law_unified_right_4 : Sms := .cons (.asg 5 (.comp false (.call "_law_put" (.cons (.var 0) (.cons (.var 7) (.cons (.var 8) .nil)))) (.one 0) ["T"] (.var 5) (.bool true))) .nil
noncomputable abbrev b_law_unified_right_5 : Sms := .cons (.ret (.bop .And (.cons (.cmp .Eq (.call "_law_lined" (.cons (.var 8) .nil)) (.call "_law_lined" (.cons (.var 5) .nil))) (.cons (.cmp .Eq (.comp false (.meth 4 "whole" (.cons (.var 0) .nil)) (.one 0) ["T"] (.var 2) (.bool true)) (.var 8)) .nil)))) .nil
noncomputable abbrev b_law_unified_right_6 : Sms := .cons (.asg 8 (.comp false (.meth 4 "whole" (.cons (.var 0) .nil)) (.one 0) ["T"] (.var 1) (.bool true))) b_law_unified_right_5
noncomputable abbrev b_law_unified_right_7 : Sms := .cons (.for_ (.tup [6, 7]) (.var 4) b_law_unified_right_4) b_law_unified_right_6
noncomputable abbrev b_law_unified_right_8 : Sms := .cons (.asg 5 (.var 1)) b_law_unified_right_7
noncomputable abbrev b_law_unified_right_9 : Sms := .cons (.ite (.cmp .Is (.var 4) .none) b_law_unified_right_3 .nil) b_law_unified_right_8
noncomputable abbrev b_law_unified_right_10 : Sms := .cons (.ite (.cmp .NotEq (.meth 3 "all_unified" (.cons (.var 1) (.cons (.var 2) .nil))) (.cmp .IsNot (.var 4) .none)) b_law_unified_right_2 .nil) b_law_unified_right_9
noncomputable abbrev b_law_unified_right_11 : Sms := .cons (.asgM [3, 4] (.cons (.call "Both" .nil) (.cons (.ite (.cmp .Eq (.bi .len (.cons (.var 1) .nil)) (.bi .len (.cons (.var 2) .nil))) (.call "_law_solved" (.cons (.lzip (.var 1) (.var 2)) .nil)) .none) .nil))) b_law_unified_right_10
noncomputable abbrev b_law_unified_right_12 : Sms := .cons (.frz 2) b_law_unified_right_11
noncomputable abbrev b_law_unified_right_13 : Sms := .cons (.ite (.cmp .Eq (.call "_law_take" (.cons (.var 0) (.cons (.int 8) .nil))) (.int 0)) b_law_unified_right_1 .nil) b_law_unified_right_12
noncomputable abbrev b_law_unified_right_14 : Sms := .cons (.asg 2 (.comp true (.idx (.call "_law_type" (.cons (.var 1) (.cons (.lst false (.cons (.str "2 T") (.cons (.str "2 U") .nil))) (.cons (.dct false) (.cons (.int 2) .nil))))) (.int 0)) (.one 0) ["turn"] (.var 1) (.bool true))) b_law_unified_right_13
noncomputable def b_law_unified_right : Sms := .cons (.asg 1 (.compR false (.idx (.call "_law_type" (.cons (.var 1) (.cons (.lst false (.cons (.str "1 T") (.cons (.str "1 U") .nil))) (.cons (.dct false) (.cons (.int 2) .nil))))) (.int 0)) (.one 0) ["turn"] (.bin .Add (.int 1) (.call "_law_take" (.cons (.var 0) (.cons (.int 2) .nil)))) (.bool true))) b_law_unified_right_14
noncomputable def p_law_own_right : List Str := ["source"]
noncomputable def l_law_own_right : List Str := ["own", "side", "put", "rows", "args", "impl"]
noncomputable abbrev b_law_own_right_1 : Sms := .cons (.ret (.cmp .Eq (.call "own_names" (.cons (.var 6) (.cons (.var 2) .nil))) (.comp false (.idx (.var 0) (.int 2)) (.one 0) ["row"] (.var 4) (.bool true)))) .nil
noncomputable abbrev b_law_own_right_2 : Sms := .cons (.asg 6 (.call "ImplRow" (.cons (.int 0) (.cons (.tup .nil) (.cons (.comp false (.tup (.cons (.var 0) (.cons (.tup .nil) .nil))) (.one 0) ["name"] (.var 1) (.bool true)) (.cons (.str "A") (.cons (.var 5) (.cons (.idx (.idx (.var 4) (.neg 1)) (.int 0)) (.cons (.dct false) .nil))))))))) b_law_own_right_1
noncomputable abbrev b_law_own_right_3 : Sms := .cons (.asg 5 (.bi .tuple (.cons (.comp false (.idx (.var 0) (.int 0)) (.one 0) ["row"] (.slc .none (.neg 1) .none (.var 4)) (.bool true)) .nil))) b_law_own_right_2
noncomputable abbrev b_law_own_right_4 : Sms := .cons (.asg 4 (.compR false (.call "_law_type" (.cons (.var 1) (.cons (.lst false (.cons (.str "T") (.cons (.str "U") (.cons (.str "X") .nil)))) (.cons (.var 4) (.cons (.int 2) .nil))))) (.one 0) ["turn"] (.bin .Add (.int 1) (.call "_law_take" (.cons (.var 0) (.cons (.int 3) .nil)))) (.bool true))) b_law_own_right_3
noncomputable abbrev b_law_own_right_5 : Sms := .cons (.asg 3 (.dcomp (.var 0) (.tup (.cons (.str "param") (.cons (.bin .Add (.var 3) (.var 0)) .nil))) "name" (.var 1))) b_law_own_right_4
noncomputable def b_law_own_right : Sms := .cons (.asgM [1, 2] (.cons (.slc .none (.bin .Add (.int 1) (.call "_law_take" (.cons (.var 0) (.cons (.int 2) .nil)))) .none (.lst false (.cons (.str "T") (.cons (.str "U") .nil)))) (.cons (.call "_law_one" (.cons (.var 0) (.cons (.lst false (.cons (.str "1 ") (.cons (.str "2 ") .nil))) .nil))) .nil))) b_law_own_right_5
noncomputable def p_law : List Str := ["script"]
noncomputable def l_law : List Str := ["source", "turn", "T", "names", "same"]
noncomputable abbrev b_law_1 : Sms := .cons (.ret (.bool false)) .nil
noncomputable abbrev b_law_2 : Sms := .cons (.ite (.bop .Or (.cons (.cmp .NotEq (.var 3) (.var 5)) (.cons (.cmp .NotEq (.fcall "names_in" (.cons (.var 3) .nil)) (.fcall "_law_once" (.cons (.var 4) .nil))) .nil))) b_law_1 .nil) .nil
noncomputable abbrev b_law_3 : Sms := .cons (.asgT [3, 4, 5] (.call "_law_type" (.cons (.var 1) (.cons (.lst false (.cons (.str "A") (.cons (.str "B") (.cons (.str "C") .nil)))) (.cons (.dct false) (.cons (.int 3) .nil)))))) b_law_2
noncomputable abbrev b_law_4 : Sms := .cons (.ret (.bool false)) .nil
noncomputable abbrev b_law_5 : Sms := .cons (.ret (.cmp .Eq (.fcall "names_in" (.cons (.tup (.cons (.str "tuple") (.cons (.tup (.cons (.tup (.cons (.str "param") (.cons (.str "A") .nil))) (.cons (.tup (.cons (.str "box") (.cons (.tup (.cons (.str "param") (.cons (.str "B") .nil))) .nil))) .nil))) .nil))) .nil)) (.lst false (.cons (.str "A") (.cons (.str "B") .nil))))) .nil
noncomputable abbrev b_law_6 : Sms := .cons (.ite (.bop .Or (.cons (.not (.call "_law_held_right" (.cons (.var 1) .nil))) (.cons (.not (.call "_law_unified_right" (.cons (.var 1) .nil))) (.cons (.not (.call "_law_own_right" (.cons (.var 1) .nil))) .nil)))) b_law_4 .nil) b_law_5
noncomputable abbrev b_law_7 : Sms := .cons (.for_ (.one 2) (.range (.int 2)) b_law_3) b_law_6
noncomputable def b_law : Sms := .cons (.asg 1 (.call "_law_pool" (.cons (.var 0) (.cons (.int 0) .nil)))) b_law_7
noncomputable def FlQ (Y : AS) (h : Heap) (σ' : Sto) (ρ' : Rho) (Q : Fl → Rho → Sto → Prop) : Flow → Prop
  | .next => Q .nxt ρ' σ'
  | .cont => Q .cnt ρ' σ'
  | .ret v => ∃ av, VA h (Mu Y σ') v av ∧ Q (.ret av) ρ' σ'
  | .brk => False
noncomputable def FlR (G : Wd) (Y : AS) (F : Fm) (ns : List Str) (σ : Sto) (s : Shared) (Q : Fl → Rho → Sto → Prop) (fl : Flow) (s' : Shared) : Prop :=
  ∃ ρ' σ', St G Y F (mu ns ρ') σ' s' ∧ EF F σ σ' s s' ∧ FlQ Y s'.heap σ' ρ' Q fl
noncomputable def SS (G : Wd) (C : Ctr) (d : Nat) (st : Sm) : Prop := ∀ kd ns x, mS kd ns st x = true → ∀ A F Y ρ σ Q s, Rm A d → F.own = true → F.env.kindOf = kd → St G Y F (mu ns ρ) σ s → awS C st ρ σ Q →
  wpAny (model G.prog G.w) A (exec x F.env) (FlR G Y F ns σ s Q) NE s
noncomputable def SSs (G : Wd) (C : Ctr) (d : Nat) (b : Sms) : Prop := ∀ kd ns xs, mSs kd ns b xs = true → ∀ A F Y ρ σ Q s, Rm A d → F.own = true → F.env.kindOf = kd → St G Y F (mu ns ρ) σ s → awSs C b ρ σ Q →
  wpAny (model G.prog G.w) A (execs xs F.env) (FlR G Y F ns σ s Q) NE s
section
variable {G : Wd} {C : Ctr} {d : Nat}
theorem FlR.trans {Y : AS} {F : Fm} {ns : List Str} {σ σ' : Sto} {s s' s'' : Shared} {Q : Fl → Rho → Sto → Prop} {fl : Flow} (e : EF F σ σ' s s') : FlR G Y F ns σ' s' Q fl s'' → FlR G Y F ns σ s Q fl s'' :=
  fun ⟨ρ, σ'', S, e', q⟩ => ⟨ρ, σ'', S, e.trans e', q⟩
theorem EF.mv {Y : AS} {F : Fm} {μ : Env1} {σ σ' : Sto} {s s' : Shared} (S : St G Y F μ σ s) (e : EF F σ σ' s s') : Mv (Mu Y σ) (Mu Y σ') s.heap s'.heap := fun b o hm hb => by
  have hσ : σ b = none := by
    cases z : σ b with
    | none => rfl
    | some ao => exact absurd (.inr (some_ne z)) hm
  refine ⟨e.keep b o (fun f => hm (.inl (S.frY b f))) hσ hb, fun m => ?_⟩
  rcases m with y | y
  · exact hm (.inl y)
  · have := e.fresh b hσ y; rw [hb] at this; cases this
theorem ss_expr (X : Cx G C d) {e : Ex} : SS G C d (.expr e) := fun kd ns x hm A F Y ρ σ Q s R ow hk S h => by
  replace hm := mS_i_expr hm
  obtain ⟨_, _, rfl, hm⟩ := hm
  · rename_i y p
    simp only [Bool.and_eq_true] at hm
    obtain ⟨_, _, _, _, rfl⟩ := isCall_i hm.1
    refine wpAny_Expr_any (((sound_e X e).1 kd ns _ hm.2 A F Y ρ σ _ s R hk S h).then fun v s' av σ' S' e' r q => ⟨ρ, σ', S', .of e', q⟩) ?_ rfl
    unfold interactive
    rw [S.ok.kind]; rfl
theorem ss_ret (X : Cx G C d) {e : Ex} : SS G C d (.ret e) := fun kd ns x hm A F Y ρ σ Q s R ow hk S h => by
  replace hm := mS_i_ret hm
  obtain ⟨_, _, rfl, hm⟩ := hm
  · exact wpAny_Return_some (((sound_e X e).1 kd ns _ hm A F Y ρ σ _ s R hk S h).then fun v s' av σ' S' e' r q => ⟨ρ, σ', S', .of e', av, r, q⟩)
theorem ss_cont : SS G C d .cont := fun kd ns x hm A F Y ρ σ Q s R ow hk S h => by
  replace hm := mS_i_cont hm
  obtain ⟨_, rfl, hm⟩ := hm
  · exact wpAny_Continue ⟨ρ, σ, S, .of .refl, h⟩
theorem ss_ite (X : Cx G C d) {c : Ex} {a b : Sms} (I : SSs G C d a) (J : SSs G C d b) : SS G C d (.ite c a b) := fun kd ns x hm A F Y ρ σ Q s R ow hk S h => by
  replace hm := mS_i_ite hm
  obtain ⟨_, _, _, _, rfl, hm⟩ := hm
  · simp only [Bool.and_eq_true] at hm
    obtain ⟨⟨h1, h2⟩, h3⟩ := hm
    refine wpAny_If (wpAny_mono ((sound_e X c).2 kd ns _ h1 A F Y ρ σ (fun r σ' => if r then awSs C a ρ σ' Q else awSs C b ρ σ' Q) s R hk S h) (fun r s' q => ?_) fun _ _ f => f)
    obtain ⟨σ', S', e', q⟩ := q
    cases r with
    | true => rw [if_pos rfl] at q ⊢; exact wpAny_mono (I kd ns _ h2 A F Y ρ σ' Q s' R ow hk S' q) (fun v s'' q => FlR.trans (.of e') q) fun _ _ f => f
    | false => rw [if_neg Bool.false_ne_true] at q ⊢; exact wpAny_mono (J kd ns _ h3 A F Y ρ σ' Q s' R ow hk S' q) (fun v s'' q => FlR.trans (.of e') q) fun _ _ f => f
theorem sss_nil : SSs G C d .nil := fun kd ns xs hm A F Y ρ σ Q s R ow hk S h => by
  obtain rfl := mSs_nil hm
  exact wpAny_execs_nil ⟨ρ, σ, S, .of .refl, h⟩
theorem frz_st {Y : AS} {F : Fm} {ns : List Str} {ρ : Rho} {σ : Sto} {s : Shared} {n : Nat} {a : Addr} {xs : List PyData} (S : St G Y F (mu ns ρ) σ s) (h1 : ρ[n]? = some (some (.loc a))) (h2 : σ a = some (.list xs)) :
    St G Y F (mu ns (ρ.set n (some (.d (.list xs))))) (scut σ a) s := by
  have L : Le (scut σ a) σ := Le.cut a
  obtain ⟨vs, m, hl, rv⟩ := S.s0.objs a _ h2
  have hv : ∀ v, VA s.heap (Mu Y σ) v (.loc a) → VA s.heap (Mu Y (scut σ a)) v (.d (.list xs)) := fun v r => by
    cases r
    refine VR.lst hl ?_ (rv.mv (L.mv _))
    rintro (h | h)
    · have := S.s0.sep a h; rw [h2] at this; cases this
    · exact h scut_self
  have key : ∀ x av, mu ns (ρ.set n (some (.d (.list xs)))) x = some av → mu ns ρ x = some av ∨ (mu ns ρ x = some (.loc a) ∧ av = .d (.list xs)) := fun x av e => by
    unfold mu at e ⊢
    cases h : ix ns x with
    | none => rw [h] at e; cases e
    | some i =>
      rw [h] at e
      have e : ((ρ.set n (some (.d (.list xs))))[i]?).join = some av := e
      show (ρ[i]?).join = some av ∨ ((ρ[i]?).join = some (.loc a) ∧ _)
      by_cases q : n = i
      · subst q
        rw [List.getElem?_set_self', h1] at e
        cases e
        exact .inr ⟨by rw [h1]; rfl, rfl⟩
      · rw [List.getElem?_set_ne q] at e
        exact .inl e
  refine ⟨S.s0.le L, S.frY, S.ok, S.above, ?_, fun x c hc => ?_⟩
  · obtain ⟨m, hn, hh⟩ := S.ns
    refine ⟨m, hn, fun x av e k => ?_⟩
    rcases key x av e with e2 | ⟨e2, rfl⟩
    · obtain ⟨v, e', r⟩ := hh x av e2 k
      exact ⟨v, e', r.mv (L.mv _)⟩
    · obtain ⟨v, e', r⟩ := hh x _ e2 k
      exact ⟨v, e', hv v r⟩
  · obtain ⟨ov, hi, hh⟩ := S.cel x c hc
    refine ⟨ov, hi, fun av e k => ?_⟩
    rcases key x av e with e2 | ⟨e2, rfl⟩
    · obtain ⟨v, e', r⟩ := hh av e2 k
      exact ⟨v, e', r.mv (L.mv _)⟩
    · obtain ⟨v, e', r⟩ := hh _ e2 k
      exact ⟨v, e', hv v r⟩
theorem sss_frz {n : Nat} {r : Sms} (J : SSs G C d r) : SSs G C d (.cons (.frz n) r) := fun kd ns xs hm A F Y ρ σ Q s R ow hk S h => by
  replace hm : mSs kd ns r xs = true := hm
  replace h : awS C (.frz n) ρ σ (fun fl ρ' σ' => match fl with | .nxt => awSs C r ρ' σ' Q | fl => Q fl ρ' σ') := h
  obtain ⟨o, e1, h⟩ := wS_some h
  replace h := wS_some h
  obtain ⟨v, e2, h⟩ := h
  replace h := wS_some h
  obtain ⟨a, e3, h⟩ := h
  replace h := wS_some h
  obtain ⟨ys, e4, h⟩ := h
  subst e2
  obtain rfl := isLoc_some e3
  have e4 := lsO_some e4
  exact wpAny_mono (J kd ns xs hm A F Y _ _ Q s R ow hk (frz_st S e1 e4) h) (fun fl s' q => FlR.trans (.of (.le (Le.cut a))) q) fun _ _ f => f
theorem sss_cons {st : Sm} {r : Sms} (I : SS G C d st) (J : SSs G C d r) : SSs G C d (.cons st r) := by
  by_cases hz : isFrz st = true
  · obtain ⟨n, rfl⟩ := isFrz_i hz
    exact sss_frz J
  · intro kd ns xs hm A F Y ρ σ Q s R ow hk S h
    replace hm := mSs_cons hz hm
    obtain ⟨_, _, rfl, hm⟩ := hm
    · simp only [Bool.and_eq_true] at hm
      refine wpAny_execs_cons (wpAny_mono (I kd ns _ hm.1 A F Y ρ σ _ s R ow hk S h) (fun fl s' q => ?_) fun _ _ f => f)
      obtain ⟨ρ', σ', S', e', q⟩ := q
      cases fl with
      | next => exact wpAny_mono (J kd ns _ hm.2 A F Y ρ' σ' Q s' R ow hk S' q) (fun fl s'' q => FlR.trans e' q) fun _ _ f => f
      | cont => exact ⟨ρ', σ', S', e', q⟩
      | brk => exact q.elim
      | ret v => exact ⟨ρ', σ', S', e', q⟩
theorem asub_ok (X : Cx G C d) {o i : Ex} {kd : Kd} {ns : List Str} {a b : Expr} {p1 : Pos} (h1 : mE false kd ns o a = true) (h2 : mE false kd ns i b = true) {A : Around} {F : Fm} {Y : AS} {ρ : Rho} {σ₁ : Sto} {Qs : Sto → Prop} {s₁ : Shared} {v : Value} {av : AV} (R : Rm A d)
    (hk : F.env.kindOf = kd) (S₁ : St G Y F (mu ns ρ) σ₁ s₁) (r₁ : VA s₁.heap (Mu Y σ₁) v av) (q : awE C o ρ σ₁ fun ao σ₂ => awE C i ρ σ₂ fun ai σ₃ => subQ σ₃ ao ai av Qs) :
    wpAny (model G.prog G.w) A (assign (.Subscript a b p1) F.env v) (fun _ s' => UPost G Y F (mu ns ρ) σ₁ s₁ Qs s') NE s₁ := by
  rw [assign_Subscript]
  refine wpAny_bind (wpAny_holding (((sound_e X o).1 kd ns _ h1 A F Y ρ σ₁ _ s₁ R hk S₁ q).then fun ov s₂ ao σ₂ S₂ e₂ r₂ q => wpAny_bind (wpAny_holding (((sound_e X i).1 kd ns _ h2 A F Y ρ σ₂ _ s₂ R hk S₂ q).then fun iv s₃ ai σ₃ S₃ e₃ r₃ q => wpAny_bind (wpAny_standAt ?_)))))
  refine wpAny_bind (wpAny_holding (wpAny_mono (o_sub R S₃ (r₂.mv e₃.mv) r₃ ((r₁.mv e₂.mv).mv e₃.mv) q) (fun _ s₄ q => wpAny_release ?_) fun _ _ f => f))
  exact UPost.trans (e₂.trans e₃) q
inductive IsSt : Expr → Prop
  | s (a b : Expr) (p : Pos) : IsSt (.Subscript a b p)
  | t (es : List Expr) (k : Nat) (p : Pos) : IsSt (.Tuple es k p)
theorem noSw {x : Expr} {t : Expr} {line : Nat} {env : Env} (ht : IsSt t) : swapsWithSole [t] x line env = pure false := by
  cases ht <;> cases x <;> rfl
theorem ss_sub (X : Cx G C d) {o i e : Ex} : SS G C d (.sub o i e) := fun kd ns x hm A F Y ρ σ Q s R ow hk S h => by
  replace hm := mS_i_sub hm
  obtain ⟨_, _, _, _, _, rfl, hm⟩ := hm
  · rename_i a b p1 c p2
    simp only [Bool.and_eq_true] at hm
    obtain ⟨⟨h1, h2⟩, h3⟩ := hm
    have hsw : swapsWithSole [.Subscript a b p1] c p2.line F.env = pure false := noSw (.s _ _ _)
    refine wpAny_Assign_stores (((sound_e X e).1 kd ns _ h3 A F Y ρ σ _ s R hk S h).then fun v s₁ av σ₁ S₁ e₁ r₁ q => ?_) hsw rfl
    refine wpAny_mono (asub_ok X h1 h2 (p1 := p1) R hk S₁ r₁ q) (fun _ s₄ q => ?_) fun _ _ f => f
    obtain ⟨σ₄, S₄, e₄, q⟩ := q
    exact ⟨ρ, σ₄, S₄, .of (e₁.trans e₄), q⟩
theorem VAs.two {h : Heap} {M : AS} {v w : Value} {a b : AV} (r1 : VA h M v a) (r2 : VA h M w b) : VAs h M [v, w] [a, b] := .cons r1 (.cons r2 .nil)
theorem ite_two {α : Type} {c1 c2 : Prop} [Decidable c1] [Decidable c2] {a x : α} (h : x = a) : (if c1 then a else if c2 then a else x) = a := by
  by_cases q1 : c1
  · rw [if_pos q1]
  rw [if_neg q1]
  by_cases q2 : c2
  · rw [if_pos q2]
  rw [if_neg q2, h]
theorem ss_sub2 (X : Cx G C d) {o1 i1 o2 i2 x1 x2 : Ex} : SS G C d (.sub2 o1 i1 o2 i2 x1 x2) := fun kd ns x hm A F Y ρ σ Q s R ow hk S h => by
  replace hm := mS_i_sub2 hm
  obtain ⟨_, _, _, _, _, _, _, _, _, _, _, _, _, rfl, hm⟩ := hm
  · rename_i a1 b1 p1 a2 b2 p2 k3 p3 c1 c2 k4 p4 p5
    simp only [Bool.and_eq_true] at hm
    obtain ⟨⟨⟨⟨⟨h1, h2⟩, h3⟩, h4⟩, h5⟩, h6⟩ := hm
    have hsw : swapsWithSole [.Tuple [.Subscript a1 b1 p1, .Subscript a2 b2 p2] k3 p3] (.Tuple [c1, c2] k4 p4) p5.line F.env = pure false := noSw (.t _ _ _)
    have hss : swappedStores [.Tuple [.Subscript a1 b1 p1, .Subscript a2 b2 p2] k3 p3] (.Tuple [c1, c2] k4 p4) F.env = pure none := by
      exact ite_two rfl
    refine wpAny_Assign_stores (Tuple_ (args_cons (((sound_e X x1).1 kd ns _ h5 A F Y ρ σ _ s R hk S h).then fun v₁ s₁ av₁ σ₁ S₁ e₁ r₁ q => ?_) (star_of h5 _ _))) hsw hss
    refine args_cons (((sound_e X x2).1 kd ns _ h6 A F Y ρ σ₁ _ s₁ R hk S₁ q).then fun v₂ s₂ av₂ σ₂ S₂ e₂ r₂ q => ?_) (star_of h6 _ _)
    refine spliced_nil (wpAny_newTuple ?_ (Nat.le_of_ble_eq_true rfl))
    have g : Gw s₂ { s₂ with heap := s₂.heap.push { cls := .type "tuple", data := .seq [v₁, v₂].toArray } } := .push _ _
    refine wpAny_assign_Tuple (x1 := k3) (items := [v₁, v₂].toArray) R.hh ⟨_, Heap.get?_push_size _ rfl, rfl, 0, rfl⟩ rfl rfl fun h' he => ?_
    have g2 : Gw s₂ { s₂ with heap := h' } := ⟨h', s₂.toks, rfl, fun b o e => he b o (by
      have : b < s₂.heap.objs.size := Heap.lt_size e
      show b ≠ (s₂.heap.push { cls := .type "tuple", data := .seq [v₁, v₂].toArray }).objs.size
      rw [Heap.size_push]; exact Nat.ne_of_lt (Nat.lt_succ_of_lt this)) (Heap.get?_push_of_some _ e)⟩
    have S₃ := S₂.gw g2
    show wpAny _ _ (holding [v₂] (assign (.Subscript a1 b1 p1) F.env v₁) >>= fun _ => (holding [] (assign (.Subscript a2 b2 p2) F.env v₂) >>= fun _ => pure ())) _ _ _
    refine wpAny_bind (wpAny_holding (wpAny_mono (asub_ok X h1 h2 (p1 := p1) R hk S₃ ((r₁.mv e₂.mv).mv g2.mv) q) (fun _ s₄ q => ?_) fun _ _ f => f))
    obtain ⟨σ₄, S₄, e₄, q⟩ := q
    refine wpAny_bind (wpAny_holding (wpAny_mono (asub_ok X h3 h4 (p1 := p2) R hk S₄ ((r₂.mv g2.mv).mv e₄.mv) q) (fun _ s₅ q => wpAny_pure ?_) fun _ _ f => f))
    obtain ⟨σ₅, S₅, e₅, q⟩ := q
    exact ⟨ρ, σ₅, S₅, .of ((((e₁.trans e₂).trans (.gw g2)).trans e₄).trans e₅), q⟩
theorem ss_whl (X : Cx G C d) {c : Ex} {b : Sms} (J : SSs G C d b) : SS G C d (.whl c b) := fun kd ns x hm A F Y ρ σ Q s R ow hk S h => by
  replace hm := mS_i_whl hm
  obtain ⟨_, _, _, rfl, hm⟩ := hm
  · simp only [Bool.and_eq_true] at hm
    obtain ⟨h1, h2⟩ := hm
    obtain ⟨I, ⟨n, h0⟩, hI⟩ := h
    refine wpAny_While (codeAny_whileLoop (fun n s' => ∃ ρ' σ', I n ρ' σ' ∧ St G Y F (mu ns ρ') σ' s' ∧ EF F σ σ' s s') (fun n s' hs => ?_) n ⟨ρ, σ, h0, S, .of .refl⟩)
    obtain ⟨ρ', σ', hi, S', e'⟩ := hs
    refine wpAny_mono ((sound_e X c).2 kd ns _ h1 A F Y ρ' σ' (fun r σ' => if r then awSs C b ρ' σ' (fun fl ρ'' σ'' => (match fl with
        | .ret v => Q (.ret v) ρ'' σ''
        | _ => ∃ m, m < n ∧ I m ρ'' σ'')) else Q .nxt ρ' σ') s' R hk S' (hI n ρ' σ' hi)) (fun r s₁ q => ?_) fun _ _ f => f.elim
    obtain ⟨σ₁, S₁, e₁, q⟩ := q
    cases r with
    | false =>
      rw [if_neg Bool.false_ne_true] at q ⊢
      exact wpAny_execs_nil ⟨ρ', σ₁, S₁, e'.trans (.of e₁), q⟩
    | true =>
      rw [if_pos rfl] at q ⊢
      refine wpAny_mono (J kd ns _ h2 A F Y ρ' σ₁ _ s₁ R ow hk S₁ q) (fun fl s₂ q => ?_) fun _ _ f => f.elim
      obtain ⟨ρ₂, σ₂, S₂, e₂, q⟩ := q
      have ee := (e'.trans (.of e₁)).trans e₂
      cases fl with
      | next => obtain ⟨m, hm, hi⟩ := q; exact ⟨m, hm, ρ₂, σ₂, hi, S₂, ee⟩
      | cont => obtain ⟨m, hm, hi⟩ := q; exact ⟨m, hm, ρ₂, σ₂, hi, S₂, ee⟩
      | brk => exact q.elim
      | ret v => obtain ⟨av, r, q⟩ := q; exact ⟨ρ₂, σ₂, S₂, ee, av, r, q⟩
end
section
variable {G : Wd} {C : Ctr} {d : Nat}
theorem iv_all (X : Cx G C d) (e : Ex) : IV G C d e := by
  cases e with
  | range e => exact iv_range X (sound_e X e).1
  | zip a b => exact iv_zip X (sound_e X a).1 (sound_e X b).1
  | enum e => exact iv_enum X (sound_e X e).1
  | _ => exact iv_data (sound_e X _).1 fun _ _ _ h => h
theorem fold_it {it : Ex} {kd : Kd} {ns : List Str} {iter : Expr} (h : mI kd ns it iter = true) (env : Env) (x : Value) : foldedSetIterable iter env x = pure x := by
  cases it with
  | range e => obtain ⟨_, _, _, _, rfl, _⟩ := mI_i_range h; rfl
  | zip a b => obtain ⟨_, _, _, _, _, rfl, _⟩ := mI_i_zip h; rfl
  | enum e => obtain ⟨_, _, _, _, rfl, _⟩ := mI_i_enum h; rfl
  | _ => exact fold_of h env x
inductive FI (G : Wd) (Y : AS) (F : Fm) (ns : List Str) (σ : Sto) (s : Shared) (fp : AS) (It : Nat → Heap → AS → Prop) (xs : List PyData) (go : List PyData → Rho → Sto → Prop) : Nat → Shared → Prop
  | at {i : Nat} {ρ' : Rho} {σ' : Sto} {s' : Shared} (hi : i ≤ xs.length) (S : St G (orY Y fp) F (mu ns ρ') σ' s') (it : It i s'.heap (Mu (orY Y fp) σ')) (ep : EP (fun b => fp b ∨ F.fr b) σ σ' s s') (q : go (xs.drop i) ρ' σ') : FI G Y F ns σ s fp It xs go (xs.length - i) s'
theorem for_out {Y : AS} {F : Fm} {μ : Env1} {ns : List Str} {ρ' : Rho} {σ σ' : Sto} {s s' : Shared} {fp : AS} {Q : Fl → Rho → Sto → Prop} {fl : Flow} {h' : Heap} {tk : Nat} (S : St G Y F μ σ s) (hfp : ∀ b, fp b → s.heap.get? b = none) (S' : St G (orY Y fp) F (mu ns ρ') σ' s') (e' : EP (fun b => fp b ∨ F.fr b) σ σ' s s')
    (k : ∀ b o, ¬ fp b → s'.heap.get? b = some o → h'.get? b = some o) (q : FlQ (orY Y fp) s'.heap σ' ρ' Q fl) : FlR G Y F ns σ s Q fl { s' with heap := h', toks := tk } := by
  refine ⟨ρ', σ', S'.leave (fp := fp) tk (fun a y => .inl y) S.s0.tpY S.frY (fun a f => ⟨.inr f, offY S hfp a f⟩) (OffF.of S hfp) k, ⟨fun b o e => ?_, fun b o nf h e => ?_, e'.fresh⟩, ?_⟩
  · obtain ⟨o', e1⟩ := e'.alive b o e
    exact ⟨o', k b o' (fun f => nos (hfp b f) e) e1⟩
  · have nfp : ¬ fp b := fun f => nos (hfp b f) e
    exact k b o nfp (e'.keep b o (fun p => p.elim nfp nf) h e)
  · cases fl with
    | next => exact q
    | cont => exact q
    | brk => exact q
    | ret v =>
      obtain ⟨av, r, q⟩ := q
      exact ⟨av, r.mv (fun b o hm hb => ⟨k b o (fun f => hm (.inl (.inr f))) hb, fun m => hm (m.elim (fun y => .inl (.inl y)) .inr)⟩), q⟩
theorem ss_for (X : Cx G C d) {t : Tg} {it : Ex} {b : Sms} (J : SSs G C d b) : SS G C d (.for_ t it b) := fun kd ns x hm A F Y ρ σ Q s R ow hk S h => by
  obtain ⟨target, iter, body, pos, rfl, hw⟩ := mS_i_for hm
  simp only [Bool.and_eq_true] at hw
  obtain ⟨⟨⟨h1, h2⟩, h3⟩, h4⟩ := hw
  refine wpAny_For (wpAny_mono (iv_all X it kd ns iter target h2 (tgtOk_of h1) (fun z => by rw [z] at h4; exact h4) A F Y ρ σ _ s R hk S h) (fun v s₁ z => wpAny_mono z (fun iv s₂ z => ?_) fun _ _ f => f) fun _ _ f => f) (fold_it h2 F.env)
  obtain ⟨I, fp, It, xs, σ₂, rfl, XI, hIt, S₂, e₂, hfp, q⟩ := z
  have off : OffF F fp := OffF.of S hfp
  refine codeAny_forLoop_any (FI G Y F ns σ s fp It xs fun xs ρ σ => fgo t (awSs C b) xs ρ σ Q) (fun n s' hs => ?_) xs.length (.at (Nat.zero_le _) S₂ hIt (.of e₂) q)
  cases hs with
  | @«at» i ρ' σ' _ hi S' hIt' ep q =>
    cases hx : xs[i]? with
    | none =>
      have hil : i = xs.length := Nat.le_antisymm hi (List.getElem?_eq_none_iff.mp hx)
      subst hil
      rw [List.drop_length] at q
      exact wpAny_mono (XI.done s' _ (fun s₁ => FlR G Y F ns σ s Q .next s₁) hIt' fun h' tk k' => for_out S hfp S' ep k' q) (fun r s₁ hr => by rw [hr.1]; exact wpAny_execs_nil hr.2) fun _ _ f => f.elim
    | some x =>
      have hlt := (List.getElem?_eq_some_iff.mp hx).1
      rw [(List.drop_eq_getElem_cons hlt).trans (congrArg (· :: _) (List.getElem?_eq_some_iff.mp hx).2)] at q
      obtain ⟨ρ₁, hb, q⟩ := wS_some q
      refine wpAny_mono (XI.next i s' _ x (fun v s₂ => wpAny (model G.prog G.w) A (assign target F.env v) (fun _ s₂ => wpAny (model G.prog G.w) A (execs body F.env) (fun f s₃ => match f with
            | .next | .cont => ∃ m, m < xs.length - i ∧ FI G Y F ns σ s fp It xs (fun xs ρ σ => fgo t (awSs C b) xs ρ σ Q) m s₃
            | .brk => False
            | .ret v => FlR G Y F ns σ s Q (.ret v) s₃) NE s₂) NE s₂) hx hIt' (fun b hb => .inl (.inr hb)) (fun b m => (S'.s0.live b m).2) (fun v h' tk rv' hIt'' k' => ?_)) (fun r s₁ hr => ?_) fun _ _ f => f.elim
      · have S₃ := S'.privs tk (fun a f => .inr f) off k' (XI.live _ _ _ hIt'')
        refine tgt_ok (av := .d x) R.hh h1 hk (fun _ => ow) S₃ rv' hb fun s₄ S₄ e₄ => ?_
        have hIt₄ := XI.frame _ _ _ _ _ hIt'' (fun b o f e => e₄.keep b o (fun r => off.fr b r f) (S₃.s0.sep b (.inr f)) e) (EF.mv S₃ e₄)
        refine wpAny_mono (J kd ns _ h3 A F (orY Y fp) ρ₁ σ' _ s₄ R ow hk S₄ q) (fun fl s₅ q => ?_) fun _ _ f => f
        obtain ⟨ρ₅, σ₅, S₅, e₅, q⟩ := q
        have hIt₅ := XI.frame _ _ _ _ _ hIt₄ (fun b o f e => e₅.keep b o (fun r => off.fr b r f) (S₄.s0.sep b (.inr f)) e) (EF.mv S₄ e₅)
        have ep₅ := ((ep.trans ((EP.priv (P := fp) k' (XI.live _ _ _ hIt'')).mono fun b f => .inl f)).trans (e₄.mono fun b f => .inr f)).trans (e₅.mono fun b f => .inr f)
        cases fl with
        | next => exact ⟨_, Nat.sub_lt_sub_left hlt (Nat.lt_succ_self i), .at hlt S₅ hIt₅ ep₅ q⟩
        | cont => exact ⟨_, Nat.sub_lt_sub_left hlt (Nat.lt_succ_self i), .at hlt S₅ hIt₅ ep₅ q⟩
        | brk => exact q.elim
        | ret v => exact for_out (h' := s₅.heap) (tk := s₅.toks) S hfp S₅ ep₅ (fun b o _ e => e) q
      · obtain ⟨v, e, h⟩ := hr
        subst e
        refine wpAny_mono h (fun _ s₂ h => wpAny_mono h (fun _ s₃ h => wpAny_mono h (fun fl s₄ h => ?_) fun _ _ f => f.elim) fun _ _ f => f.elim) fun _ _ f => f.elim
        cases fl with
        | next => exact h
        | cont => exact h
        | brk => exact h.elim
        | ret v => exact h
end
theorem setAll_set : ∀ {ks : List Nat} {vs : List AV} {ρ : Rho} {k : Nat} {v : AV}, k ∉ ks → (setAll ρ ks vs).set k (some v) = setAll (ρ.set k (some v)) ks vs
  | [], _, _, _, _, _ => rfl
  | _ :: _, [], _, _, _, _ => rfl
  | k' :: ks, v' :: vs, ρ, k, v, h => by
    have h1 : k ≠ k' := fun e => h (e ▸ .head _)
    have h2 : k ∉ ks := fun m => h (.tail _ m)
    show (setAll (ρ.set k' (some v')) ks vs).set k (some v) = setAll ((ρ.set k (some v)).set k' (some v')) ks vs
    rw [setAll_set h2, List.set_comm _ _ (Ne.symm h1)]
theorem setAll_app : ∀ {ks : List Nat} {vs : List AV} {ρ : Rho} {k : Nat} {v : AV}, ks.length = vs.length → setAll ρ (ks ++ [k]) (vs ++ [v]) = (setAll ρ ks vs).set k (some v)
  | [], [], _, _, _, _ => rfl
  | k' :: ks, v' :: vs, ρ, k, v, h => by
    show setAll (ρ.set k' (some v')) (ks ++ [k]) (vs ++ [v]) = (setAll (ρ.set k' (some v')) ks vs).set k (some v)
    exact setAll_app (by simpa using h)
  | [], _ :: _, _, _, _, h => by cases h
  | _ :: _, [], _, _, _, h => by cases h
theorem setAll_rev : ∀ {ks : List Nat} {vs : List AV} {ρ : Rho}, nodupN ks = true → ks.length = vs.length → setAll ρ ks.reverse vs.reverse = setAll ρ ks vs
  | [], [], _, _, _ => rfl
  | k :: ks, v :: vs, ρ, hn, hl => by
    simp only [nodupN, Bool.and_eq_true, Bool.not_eq_true'] at hn
    have hk : k ∉ ks := fun m => by
      have := List.contains_iff_mem.mpr m
      rw [hn.1] at this; cases this
    have hl' : ks.length = vs.length := by simpa using hl
    rw [List.reverse_cons, List.reverse_cons, setAll_app (by simpa using hl'), setAll_rev hn.2 hl', setAll_set hk]
    rfl
  | [], _ :: _, _, _, h => by cases h
  | _ :: _, [], _, _, h => by cases h
noncomputable def okNs (kd : Kd) (ns : List Str) : List Nat → List Str → Prop
  | [], [] => True
  | k :: ks, x :: xs => (ix ns x = some k ∧ kd x = some .local) ∧ okNs kd ns ks xs
  | _, _ => False
theorem okNs_len {kd : Kd} {ns : List Str} : ∀ {ks : List Nat} {xs : List Str}, okNs kd ns ks xs → xs.length = ks.length
  | [], [], _ => rfl
  | _ :: _, _ :: _, h => congrArg (· + 1) (okNs_len h.2)
  | [], _ :: _, h => h.elim
  | _ :: _, [], h => h.elim
theorem okNs_app {kd : Kd} {ns : List Str} : ∀ {ks ks' : List Nat} {xs xs' : List Str}, okNs kd ns ks xs → okNs kd ns ks' xs' → okNs kd ns (ks ++ ks') (xs ++ xs')
  | [], _, [], _, _, h => h
  | k :: ks, _, x :: xs, _, h, h' => ⟨h.1, okNs_app h.2 h'⟩
  | [], _, _ :: _, _, h, _ => h.elim
  | _ :: _, _, [], _, h, _ => h.elim
theorem okNs_rev {kd : Kd} {ns : List Str} : ∀ {ks : List Nat} {xs : List Str}, okNs kd ns ks xs → okNs kd ns ks.reverse xs.reverse
  | [], [], _ => trivial
  | k :: ks, x :: xs, h => by
    rw [List.reverse_cons, List.reverse_cons]
    exact okNs_app (okNs_rev h.2) ⟨h.1, trivial⟩
  | [], _ :: _, h => h.elim
  | _ :: _, [], h => h.elim
theorem VAs.app_inv {h : Heap} {M : AS} {vs : List Value} {as : List AV} (r : VAs h M vs as) : VAs h M vs.reverse as.reverse := by
  induction r with
  | nil => exact .nil
  | cons a _ ih => rw [List.reverse_cons, List.reverse_cons]; exact ih.append (.cons a .nil)
section
variable {G : Wd} {C : Ctr} {d : Nat}
theorem binds_st {A : Around} {F : Fm} {Y : AS} {ns : List Str} {σ : Sto} {kd : Kd} (hk : F.env.kindOf = kd) : ∀ {ks : List Nat} {xs : List Str} {vs : List Value} {avs : List AV} {ρ : Rho} {s : Shared} {Q : Unit → Shared → Prop}, okNs kd ns ks xs → St G Y F (mu ns ρ) σ s → VAs s.heap (Mu Y σ) vs avs → vs.length = ks.length →
    (∀ s', St G Y F (mu ns (setAll ρ ks avs)) σ s' → EF F σ σ s s' → Q () s') → wpAny (model G.prog G.w) A (assignInOrder (xs.map fun n => bindName F.env n) vs) Q NE s
  | [], [], vs, avs, ρ, s, Q, h, S, r, hl, k => by
    cases r with
    | nil => exact wpAny_pure (k s S (EP.of .refl))
    | cons => cases hl
  | k0 :: ks, x :: xs, vs, avs, ρ, s, Q, h, S, r, hl, k => by
    cases r with
    | nil => cases hl
    | @cons v vs' av avs' hv r =>
      show wpAny _ _ (holding vs' (bindName F.env x v) >>= fun _ => assignInOrder (xs.map fun n => bindName F.env n) vs') _ _ _
      refine wpAny_bind (wpAny_holding (wpAny_bindName (name_st (own := false) (n := k0) (by unfold okS; rw [h.1.1, h.1.2]; simp) hk (fun e => nomatch e) S hv fun s' S' e' => ?_)))
      have mv : Mv (Mu Y σ) (Mu Y σ) s.heap s'.heap := EF.mv S e'
      exact binds_st hk h.2 S' (r.mv mv) (by simpa using hl) fun s'' S'' e'' => k s'' S'' (e'.trans e'')
  | [], _ :: _, _, _, _, _, _, h, _, _, _, _ => h.elim
  | _ :: _, [], _, _, _, _, _, h, _, _, _, _ => h.elim
theorem noTupSw {ts : List Expr} {z : Expr} {k : Nat} {p : Pos} {env : Env} (h : isTup z = false) : swappedStores [.Tuple ts k p] z env = pure none := by
  cases z with
  | Tuple a b c => exact Bool.noConfusion (show true = false from h)
  | _ => rfl
theorem ss_asgT (X : Cx G C d) {ks : List Nat} {e : Ex} : SS G C d (.asgT ks e) := fun kd ns x hm A F Y ρ σ Q s R ow hk S h => by
  replace hm := mS_i_asgT hm
  obtain ⟨_, _, _, _, _, rfl, hm⟩ := hm
  · rename_i ts k p z p2
    simp only [Bool.and_eq_true, Bool.not_eq_true'] at hm
    obtain ⟨⟨h1, h2⟩, h3⟩ := hm
    refine wpAny_Assign_stores (((sound_e X e).1 kd ns _ h2 A F Y ρ σ _ s R hk S h).then fun v s₁ av σ₁ S₁ e₁ r₁ q => ?_) (noSw (.t _ _ _)) (noTupSw h3)
    obtain ⟨ρ₁, hb, q⟩ := wS_some q
    show wpAny _ _ (assign (.Tuple ts k p) F.env v) _ _ _
    exact tgt_ok (t := .tup ks) R.hh h1 hk (fun _ => ow) S₁ r₁ hb fun s' S' e' => ⟨ρ₁, σ₁, S', (EP.of e₁).trans e', q⟩
theorem fm_names {kd : Kd} {ns : List Str} {own : Bool} : ∀ {ks : List Nat} {ts : List Expr}, mTs own kd ns ks ts = true → ∀ f : Expr → Option Str, (∀ t x, f t = some x → ∃ p, t = .Name x p ∧ kd x = some .local) → (ts.filterMap f).length = ts.length → okNs kd ns ks (ts.filterMap f) := by
  intro ks ts h f hf
  refine mTs_i (M := fun ks ts => (ts.filterMap f).length = ts.length → okNs kd ns ks (ts.filterMap f)) h (fun _ => trivial) fun k ks y p ts h1 _ ih hl => ?_
  · rw [List.filterMap_cons] at hl ⊢
    cases e : f (.Name y p) with
    | none =>
      rw [e] at hl
      have := List.length_filterMap_le f ts
      simp only [List.length_cons] at hl
      omega
    | some x =>
      rw [e] at hl
      obtain ⟨p, e', hk⟩ := hf _ x e
      cases e'
      exact ⟨⟨eq_of_beq (Bool.and_eq_true_iff.mp h1).1, hk⟩, ih (Nat.succ.inj hl)⟩
theorem ite_some {α : Type} {c : Prop} [Decidable c] {a b : α} (h : (if c then some a else none) = some b) : c ∧ a = b := by
  by_cases q : c
  · rw [if_pos q] at h; exact ⟨q, Option.some.inj h⟩
  · rw [if_neg q] at h; exact nomatch h
theorem some_no {α : Type} {b : α} (h : none = some b) : False := nomatch h
theorem sw_ite {α : Type} {c1 c2 c3 c4 : Prop} [Decidable c1] [Decidable c2] [Decidable c3] [Decidable c4] {c5 : Bool} {u : Sem (Option α)} {x : α} {P : α → Prop} (h : c5 = false) (hn : ¬ c3 → ∃ y, some x = some y ∧ P y) :
    ∃ r, (if c1 then pure none else if c2 then pure none else if c3 then pure none else if c4 then pure none else if c5 = true then u else pure (some x) : Sem (Option α)) = pure r ∧ (r = none ∨ ∃ y, r = some y ∧ P y) := by
  by_cases q1 : c1
  · rw [if_pos q1]; exact ⟨_, rfl, .inl rfl⟩
  rw [if_neg q1]
  by_cases q2 : c2
  · rw [if_pos q2]; exact ⟨_, rfl, .inl rfl⟩
  rw [if_neg q2]
  by_cases q3 : c3
  · rw [if_pos q3]; exact ⟨_, rfl, .inl rfl⟩
  rw [if_neg q3]
  by_cases q4 : c4
  · rw [if_pos q4]; exact ⟨_, rfl, .inl rfl⟩
  rw [if_neg q4, h]
  exact ⟨_, rfl, .inr (hn q3)⟩
theorem sw_names {kd : Kd} {ns : List Str} {env : Env} {ks : List Nat} {ts xs : List Expr} {k k' : Nat} {p p' : Pos} (hk : env.kindOf = kd) (h1 : mTs true kd ns ks ts = true) (h2 : xs.all (constantsAlone 8) = false) :
    ∃ r, swappedStores [.Tuple ts k p] (.Tuple xs k' p') env = pure r ∧ (r = none ∨ ∃ names, r = some names ∧ okNs kd ns ks names) := by
  subst hk
  refine sw_ite h2 fun hn => ⟨_, rfl, fm_names h1 _ (fun t x e => ?_) ?_⟩
  · cases t with
    | Name y p =>
      obtain ⟨c, e⟩ := ite_some e
      cases e
      exact ⟨_, rfl, eq_of_beq (Bool.and_eq_true_iff.mp c).1⟩
    | _ => exact (some_no e).elim
  · simp only [Bool.or_eq_true, bne_iff_ne, not_or, Decidable.not_not] at hn
    exact hn.1
theorem ss_asgM (X : Cx G C d) {ks : List Nat} {es : Exs} (J : SVs G C d es) : SS G C d (.asgM ks es) := fun kd ns x hm A F Y ρ σ Q s R ow hk S h => by
  replace hm := mS_i_asgM hm
  obtain ⟨_, _, _, _, _, _, _, rfl, hm⟩ := hm
  · rename_i ts k p xs k' p' p2
    simp only [Bool.and_eq_true, Bool.not_eq_true', beq_iff_eq, decide_eq_true_eq] at hm
    obtain ⟨⟨⟨⟨⟨h1, h2⟩, h3⟩, h4⟩, h5⟩, h6⟩ := hm
    have h : awEs C es ρ σ fun vs σ' => vs.length = ks.length ∧ Q .nxt (setAll ρ ks vs) σ' := h
    have ev : wpAny (model G.prog G.w) A (eval (.Tuple xs k' p') F.env) (fun v s₂ => ∃ T vs avs σ', v = .ref T ∧ s₂.heap.IsTuple T vs.toArray ∧ St G Y F (mu ns ρ) σ' s₂ ∧ E0 σ σ' s s₂ ∧ VAs s₂.heap (Mu Y σ') vs avs ∧ vs.length = ks.length ∧ avs.length = ks.length ∧ Q .nxt (setAll ρ ks avs) σ') NE s := by
      refine Tuple_ (wpAny_mono (J kd ns _ h2 A F Y ρ σ _ s _ R hk S h) (fun vs s' q => ?_) fun _ _ f => f)
      obtain ⟨hl, avs, σ', S', e', r, q1, q2⟩ := q
      have g : Gw s' { s' with heap := s'.heap.push { cls := .type "tuple", data := .seq vs.toArray } } := .push _ _
      refine wpAny_newTuple ⟨_, vs, avs, σ', rfl, ⟨_, Heap.get?_push_size _ rfl, rfl, 0, rfl⟩, S'.gw g, e'.trans (.gw g), r.mv g.mv, by rw [hl, h3], q1, q2⟩ ?_
      have : sizeLine = 16777216 := rfl
      omega
    obtain ⟨r, hr, hcase⟩ := sw_names (p' := p') (k' := k') (k := k) (p := p) (env := F.env) hk h1 h6
    rcases hcase with rfl | ⟨names, rfl, hok⟩
    · refine wpAny_Assign_stores (wpAny_mono ev (fun v s₂ z => ?_) fun _ _ f => f) (noSw (.t _ _ _)) hr
      obtain ⟨T, vs, avs, σ', rfl, hT, S', e', r, hl, hl2, q⟩ := z
      show wpAny _ _ (assign (.Tuple ts k p) F.env (.ref T)) _ _ _
      refine wpAny_assign_Tuple R.hh hT ((mTs_len h1).1.trans (by rw [List.size_toArray, hl])) (mTs_len h1).2 fun h' he => ?_
      have g : Gw s₂ { s₂ with heap := h' } := ⟨h', s₂.toks, rfl, fun b o e => he b o (Nat.ne_of_lt (Heap.lt_size e)) e⟩
      exact names_st hk h1 (fun _ => ow) (S'.gw g) (r.mv g.mv) hl fun s₃ S₃ e₃ => ⟨_, σ', S₃, ((EP.of (e'.trans (.gw g))).trans e₃), q⟩
    · rw [exec_Assign_arm]
      refine wpAny_bind (wpAny_standAt ?_)
      rw [noSw (.t _ _ _)]
      refine wpAny_bind (wpAny_pure ?_)
      rw [if_neg (by decide)]
      refine wpAny_bind (wpAny_mono ev (fun v s₂ z => ?_) fun _ _ f => f)
      rw [hr]
      refine wpAny_bind (wpAny_pure ?_)
      obtain ⟨T, vs, avs, σ', rfl, hT, S', e', r, hl, hl2, q⟩ := z
      unfold assignStores
      dsimp only
      refine wpAny_bind (wpAny_rule ?_)
      have hnl : names.length = vs.toArray.size := by rw [List.size_toArray, hl, okNs_len hok]
      rw [hnl]
      refine wpAny_bind (wpAny_unpackItems_tuple R.hh hT fun h' he => ?_)
      have g : Gw s₂ { s₂ with heap := h' } := ⟨h', s₂.toks, rfl, fun b o e => he b o (Nat.ne_of_lt (Heap.lt_size e)) e⟩
      refine wpAny_bind ?_
      have e3 : names.reverse.map (fun n => bindName F.env n) = names.reverse.map fun n => bindName F.env n := rfl
      refine binds_st hk (okNs_rev hok) (S'.gw g) ((r.mv g.mv).app_inv) (by simp [hl]) fun s₃ S₃ e₃ => wpAny_pure ?_
      rw [setAll_rev h4 hl2.symm] at S₃
      exact ⟨_, σ', S₃, ((EP.of (e'.trans (.gw g))).trans e₃), q⟩
end
section
variable {G : Wd} {C : Ctr} {d : Nat}
theorem leaveP {Y : AS} {F : Fm} {μ μ' : Env1} {σ σ' : Sto} {s s' : Shared} {Cx : Addr} {h' : Heap} (S : St G Y F μ σ s) (S' : St G (fun a => Y a ∨ a = Cx) F μ' σ' s') (e : EF F σ σ' s s') (sC : s.heap.get? Cx = none) (hs : Heap.SameBut Cx s'.heap h') :
    St G Y F μ' σ' { s' with heap := h' } ∧ EF F σ σ' s { s' with heap := h' } := by
  have k : ∀ b o, ¬ b = Cx → s'.heap.get? b = some o → h'.get? b = some o := fun b o hb x => hs.extBut b o hb x
  have nY : ∀ a, a = Cx → ¬ Y a := fun a z y => by obtain ⟨_, o, x⟩ := S.s0.live a (.inl y); rw [z, sC] at x; cases x
  refine ⟨S'.leave (fp := fun b => b = Cx) s'.toks (fun a y => .inl y) S.s0.tpY S.frY (fun a z => ⟨.inr z, nY a z⟩) (OffF.of S fun b z => by rw [z]; exact sC) k, fun b o x => ?_, fun b o nf h x => ?_, e.fresh⟩
  · obtain ⟨o', x'⟩ := e.alive b o x
    exact ⟨o', k b o' (fun z => by rw [z, sC] at x; cases x) x'⟩
  · exact k b o (fun z => by rw [z, sC] at x; cases x) (e.keep b o nf h x)
theorem use_end {Y : AS} {F : Fm} {ns : List Str} {ρ : Rho} {σ : Sto} {s s' : Shared} {Q : Fl → Rho → Sto → Prop} {D Cx : Addr} {kd : Kd} {n : Nat} {y : Str} {py : Pos} (hk : F.env.kindOf = kd) (ow : F.own = true) (hy : okS true kd ns n y = true) (S : St G Y F (mu ns ρ) σ s)
    (P : Post G (fun a => Y a ∨ a = Cx) F (mu ns ρ) σ s (fun av σ' => Q .nxt (ρ.set n (some av)) σ') (.ref D) s') (sC : s.heap.get? Cx = none) (hn : ∃ m, s'.heap.Ns Cx m) {A : Around} {fl : Flow} :
    compPost (model G.prog G.w) A NE (some (assign (.Name y py) F.env)) (fun _ s'' => FlR G Y F ns σ s Q .next s'') (.ref D) Cx (.ok fl) s' := by
  obtain ⟨av, σ', S', e', r, q⟩ := P
  obtain ⟨mm, hn⟩ := hn
  show wpAny _ A (assign (.Name y py) F.env (.ref D)) _ _ _
  refine wpAny_assign_Name (name_st hy hk (fun _ => ow) S' r fun s₃ S₃ e₃ => ?_)
  refine ⟨mm, hn.at' fun o e => e₃.keep Cx o (fun f => ?_) (S'.s0.sep Cx (.inr rfl)) e, fun h' hs => ?_⟩
  · obtain ⟨_, o, x⟩ := S.s0.live Cx (.inl (S.frY Cx f)); rw [sC] at x; cases x
  · obtain ⟨S₄, e₄⟩ := leaveP S S₃ ((EP.of e').trans e₃) sC hs
    exact ⟨_, σ', S₄, e₄, q⟩
theorem comp_use {Y : AS} {F : Fm} {ns : List Str} {ρ : Rho} {σ : Sto} {s s' : Shared} {m : Bool} {Q : Fl → Rho → Sto → Prop} {acc : Value} {Cx : Addr} {kd : Kd} {n : Nat} {y : Str} {py : Pos} (hk : F.env.kindOf = kd) (ow : F.own = true) (hy : okS true kd ns n y = true) (S : St G Y F (mu ns ρ) σ s) {A : Around} {fl : Flow}
    (h : CEnd G Y F (mu ns ρ) σ s .list (fun ys σ'' => if m then ∀ a, σ'' a = none → Q .nxt (ρ.set n (some (.loc a))) (sput σ'' a (.list ys)) else Q .nxt (ρ.set n (some (.d (.list ys)))) σ'') acc Cx s') :
    compPost (model G.prog G.w) A NE (some (assign (.Name y py) F.env)) (fun _ s'' => FlR G Y F ns σ s Q .next s'') acc Cx (.ok fl) s' := by
  obtain ⟨D, ys, σ', rfl, S', hD, e, sC, hn, q⟩ := h
  refine use_end hk ow hy S ?_ sC hn
  cases m with
  | true => exact ⟨.loc D, _, S', e, rfl, q D hD⟩
  | false => exact frozen S' e hD q
theorem dcomp_use {Y : AS} {F : Fm} {ns : List Str} {ρ : Rho} {σ : Sto} {s s' : Shared} {Q : Fl → Rho → Sto → Prop} {acc : Value} {Cx : Addr} {kd : Kd} {n : Nat} {y : Str} {py : Pos} (hk : F.env.kindOf = kd) (ow : F.own = true) (hy : okS true kd ns n y = true) (S : St G Y F (mu ns ρ) σ s) {A : Around} {fl : Flow}
    (h : CEnd G Y F (mu ns ρ) σ s .dict (fun ys σ'' => ∀ a, σ'' a = none → Q .nxt (ρ.set n (some (.loc a))) (sput σ'' a (.dict ys))) acc Cx s') :
    compPost (model G.prog G.w) A NE (some (assign (.Name y py) F.env)) (fun _ s'' => FlR G Y F ns σ s Q .next s'') acc Cx (.ok fl) s' := by
  obtain ⟨D, ys, σ', rfl, S', hD, e, sC, hn, q⟩ := h
  exact use_end hk ow hy S ⟨.loc D, _, S', e, rfl, q D hD⟩ sC hn
theorem sw_bool (z : Expr) (y : Str) (py : Pos) (line : Nat) (env : Env) : ∃ b, swapsWith z (some (.Name y py)) line env = pure b := by
  cases z <;> exact ⟨_, rfl⟩
inductive IsComp : Expr → Prop
  | l (el : Expr) (gs : List Comprehension) (scope : Scope) (p : Pos) : IsComp (.ListComp el gs scope p)
  | d (k v : Expr) (gs : List Comprehension) (scope : Scope) (p : Pos) : IsComp (.DictComp k v gs scope p)
  | s (el : Expr) (gs : List Comprehension) (scope : Scope) (p : Pos) : IsComp (.SetComp el gs scope p)
theorem pure_ft (h : (pure false : Sem Bool) = pure true) : False := nomatch h
theorem sw_comp {z : Expr} {y : Str} {py : Pos} {line : Nat} {env : Env} (h : swapsWith z (some (.Name y py)) line env = pure true) : IsComp z := by
  cases z with
  | ListComp => exact .l _ _ _ _
  | DictComp => exact .d _ _ _ _ _
  | SetComp => exact .s _ _ _ _
  | _ => exact (pure_ft h).elim
theorem use_run {M : Model} {A : Around} {s : Shared} {env : Env} {z : Expr} {y : Str} {py pos : Pos} {Q : Flow → Shared → Prop} (hs : swapsWith z (some (.Name y py)) pos.line env = pure true)
    (h : wpAny M A (evalThenUse z env (assign (.Name y py) env)) (fun _ s' => Q .next s') NE s) : wpAny M A (exec (.Assign [.Name y py] z pos) env) Q NE s := by
  rw [exec_Assign_Name_used _ _ _ _ hs]
  exact wpAny_bind (wpAny_standAt (wpAny_bind (wpAny_mono h (fun _ s' q => wpAny_pure q) fun _ _ f => f)))
theorem listComp_run {M : Model} {A : Around} {s : Shared} {env : Env} {elt : Expr} {g : Comprehension} {scope : Scope} {pos : Pos} {u : Value → Sem Unit} {Q : Shared → Prop} (ha : g.is_async = 0)
    (h : wpAny M A (comprehension (.ListComp elt [g] scope pos) scope env g.iter.pos (newList []) false (eval g.iter env) (some u)) (fun _ s' => Q s') NE s) : wpAny M A (evalThenUse (.ListComp elt [g] scope pos) env u) (fun _ s' => Q s') NE s := by
  obtain ⟨t, i, fs, a⟩ := g
  cases ha
  exact wpAny_bind (wpAny_mono h (fun _ _ q => wpAny_pure q) fun _ _ f => f)
theorem dictComp_run {M : Model} {A : Around} {s : Shared} {env : Env} {kx vx : Expr} {g : Comprehension} {scope : Scope} {pos : Pos} {u : Value → Sem Unit} {Q : Shared → Prop} (ha : g.is_async = 0)
    (h : wpAny M A (comprehension (.DictComp kx vx [g] scope pos) scope env g.iter.pos newDict false (eval g.iter env) (some u)) (fun _ s' => Q s') NE s) : wpAny M A (evalThenUse (.DictComp kx vx [g] scope pos) env u) (fun _ s' => Q s') NE s := by
  obtain ⟨t, i, fs, a⟩ := g
  cases ha
  exact wpAny_bind (wpAny_mono h (fun _ _ q => wpAny_pure q) fun _ _ f => f)
inductive IsCmp : Ex → Prop
  | comp (m : Bool) (elt : Ex) (t : Tg) (tn : List Str) (it c : Ex) : IsCmp (.comp m elt t tn it c)
  | compR (m : Bool) (elt : Ex) (t : Tg) (tn : List Str) (it c : Ex) : IsCmp (.compR m elt t tn it c)
  | dcomp (k v : Ex) (tn : Str) (it : Ex) : IsCmp (.dcomp k v tn it)
theorem cmp_of {kd : Kd} {ns : List Str} {e : Ex} {z : Expr} (h : mE false kd ns e z = true) (c : IsComp z) : IsCmp e := by
  cases c with
  | l =>
    cases e with
    | comp => exact .comp _ _ _ _ _ _
    | compR => exact .compR _ _ _ _ _ _
    | _ => exact absurd h Bool.false_ne_true
  | d =>
    cases e with
    | dcomp => exact .dcomp _ _ _ _
    | _ => exact absurd h Bool.false_ne_true
  | s => cases e <;> exact absurd h Bool.false_ne_true
theorem ss_asg (X : Cx G C d) {n : Nat} {e : Ex} : SS G C d (.asg n e) := fun kd ns x hm A F Y ρ σ Q s R ow hk S h => by
  obtain ⟨y, py, z, pos, rfl, hg⟩ := mS_i_asg hm
  obtain ⟨hy, hz⟩ := Bool.and_eq_true_iff.mp hg
  obtain ⟨b, hb⟩ := sw_bool z y py pos.line F.env
  cases b with
  | false => exact wpAny_Assign_Name (((sound_e X e).1 kd ns _ hz A F Y ρ σ _ s R hk S h).then fun v s₁ av σ₁ S₁ e₁ r₁ q => name_st hy hk (fun _ => ow) S₁ r₁ fun s₂ S₂ e₂ => ⟨_, σ₁, S₂, (EP.of e₁).trans e₂, q⟩) hb
  | true =>
    refine use_run hb ?_
    cases cmp_of hz (sw_comp hb) with
    | comp m elt t tn it c =>
      obtain ⟨el, target, iter, ifs, scope, pos, rfl, hw⟩ := mE_i_comp hz
      simp only [Bool.and_eq_true] at hw
      obtain ⟨⟨⟨⟨h1, h2⟩, h3⟩, h4⟩, h5⟩ := hw
      obtain ⟨cl, hcl, hc⟩ := clos_ok S.ok rfl hk h1
      exact listComp_run rfl (list_run X ⟨Y, F, ns, tn, ρ, σ, s, kd, scope, cl, target, S, hk, h1, hc⟩ (sound_e X elt).1 (sound_e X c).2 h2 h4 h5 R (fold_of h3 F.env) hcl (it_data (sound_e X it).1 h3 (tgtOk_of h2) R hk S h) fun _ _ _ _ z => comp_use hk ow hy S z)
    | compR m elt t tn it c =>
      obtain ⟨el, target, y', p1, l, p2, ifs, scope, pos, rfl, hw⟩ := mE_i_compR hz
      simp only [Bool.and_eq_true] at hw
      obtain ⟨⟨⟨⟨⟨h1, h2⟩, h3⟩, h3'⟩, h4⟩, h5⟩ := hw
      obtain ⟨cl, hcl, hc⟩ := clos_ok S.ok rfl hk h1
      exact listComp_run rfl (list_run X ⟨Y, F, ns, tn, ρ, σ, s, kd, scope, cl, target, S, hk, h1, hc⟩ (sound_e X elt).1 (sound_e X c).2 h2 h4 h5 R (fun _ => rfl) hcl (rng_ok X (sound_e X it).1 h3 h3' (tgtOk_of h2) R hk S h) fun _ _ _ _ z => comp_use hk ow hy S z)
    | dcomp k v tn it =>
      obtain ⟨kx, vx, y', p1, iter, scope, pos, rfl, hw⟩ := mE_i_dcomp hz
      simp only [Bool.and_eq_true] at hw
      obtain ⟨⟨⟨⟨h1, h2⟩, h3⟩, h4⟩, h5⟩ := hw
      obtain ⟨cl, hcl, hc⟩ := clos_ok S.ok rfl hk h1
      exact dictComp_run rfl (dict_run X ⟨Y, F, ns, [tn], ρ, σ, s, kd, scope, cl, .Name y' p1, S, hk, h1, hc⟩ (sound_e X k).1 (sound_e X v).1 h2 h4 h5 R (fold_of h3 F.env) hcl (it_data (sound_e X it).1 h3 (.n _ _) R hk S h) fun _ _ _ _ z => dcomp_use hk ow hy S z)
theorem sound_s (X : Cx G C d) (b : Sms) : SSs G C d b := by
  induction b using Sms.rec (motive_1 := SS G C d) with
  | expr e => exact ss_expr X
  | asg n e => exact ss_asg X
  | asgT ks e => exact ss_asgT X
  | asgM ks es => exact ss_asgM X (AllS.svs X (by
      induction es using Exs.rec (motive_1 := fun _ => True) with
      | nil => trivial
      | cons e es _ ih => exact ⟨sound_e X e, ih⟩
      | _ => trivial))
  | sub2 o1 i1 o2 i2 e1 e2 => exact ss_sub2 X
  | sub o i e => exact ss_sub X
  | ite c a b I J => exact ss_ite X I J
  | whl c b I => exact ss_whl X I
  | for_ t it b I => exact ss_for X I
  | ret e => exact ss_ret X
  | cont => exact ss_cont
  | frz n => exact fun kd ns x hm => absurd hm Bool.false_ne_true
  | nil => exact sss_nil
  | cons s r I J => exact sss_cons I J
end
structure FnAt (K : Frag) (fa : Addr) (fd : FuncData) (body : List Stmt) : Prop where
  look : ∃ oc od osl, K.lookup fa = some ⟨oc, od, .func fd, osl⟩
  body : fd.body = .stmts body
  clo : fd.closure = []
  code : codeIn K fd.code fd.qualname = true
  glob : fd.globals = mainGlobals
  blt : fd.builtins = builtinsNs
theorem cellsFrom_some : ∀ (names : List (Str × NameKind)) (k : Nat) (acc : List (Str × Addr)) (x : Str), ((x, NameKind.cell) ∈ names ∨ (acc.lookup x).isSome = true) → ((cellsFrom k names acc).lookup x).isSome = true
  | [], k, acc, x, h => h.resolve_left (fun m => nomatch m)
  | (n, kd) :: r, k, acc, x, h => by
    unfold cellsFrom
    split
    · rename_i c
      refine cellsFrom_some r _ _ x ?_
      rw [List.lookup_cons]
      by_cases e : x = n
      · subst e; right; simp
      · have e' : (x == n) = false := by simpa using e
        rw [e']
        rcases h with h | h
        · rcases List.mem_cons.mp h with h | h
          · cases h; exact absurd rfl e
          · exact .inl h
        · exact .inr h
    · rename_i c
      refine cellsFrom_some r _ _ x ?_
      rcases h with h | h
      · rcases List.mem_cons.mp h with h | h
        · cases h; exact absurd rfl c
        · exact .inl h
      · exact .inr h
noncomputable def fnOk (scope : Scope) (ps ns : List Str) (b : Sms) (body : List Stmt) : Bool :=
  scope.kind == .function && !scope.isCoroutine && !scope.isGenerator && nodupB (scope.names.map (·.1)) && nodupB ps && scope.names.all (fun p => p.2 != .free) &&
    ps.all (fun x => scope.names.lookup x == some .local || scope.names.lookup x == some .cell) && mSs (fun x => scope.names.lookup x) (ps ++ ns) b body
theorem bindL_at {kd : Str → Option NameKind} : ∀ (ps : List Str) (vs : List Value) (m : Str → Option Value) (x : Str), ps.Nodup → kd x = some .local → bindL kd (ps.zip vs) m x = (match (ps.zip vs).lookup x with | some v => some v | none => m x)
  | [], vs, m, x, _, _ => rfl
  | p :: ps, [], m, x, _, _ => rfl
  | p :: ps, v :: vs, m, x, hn, hk => by
    rw [List.nodup_cons] at hn
    show bindL kd (ps.zip vs) (if kd p = some .local then fun y => if y = p then some v else m y else m) x = (match ((p, v) :: ps.zip vs).lookup x with | some v => some v | none => m x)
    rw [bindL_at ps vs _ x hn.2 hk, List.lookup_cons]
    by_cases e : x = p
    · subst e
      have : (ps.zip vs).lookup x = none := by
        cases q : (ps.zip vs).lookup x with
        | none => rfl
        | some w => exact absurd (List.of_mem_zip (lookup_mem' q)).1 hn.1
      rw [this]
      simp [hk]
    · have e' : (x == p) = false := by simpa using e
      rw [e']
      dsimp only
      cases (ps.zip vs).lookup x with
      | some w => rfl
      | none =>
        dsimp only
        split
        · exact if_neg e
        · rfl
theorem bindC_at {kd : Str → Option NameKind} : ∀ (ps : List Str) (vs : List Value) (m : Str → Option Value) (x : Str), ps.Nodup → kd x ≠ some .local → bindC kd (ps.zip vs) m x = (match (ps.zip vs).lookup x with | some v => some v | none => m x)
  | [], vs, m, x, _, _ => rfl
  | p :: ps, [], m, x, _, _ => rfl
  | p :: ps, v :: vs, m, x, hn, hk => by
    rw [List.nodup_cons] at hn
    show bindC kd (ps.zip vs) (if kd p = some .local then m else fun y => if y = p then some v else m y) x = (match ((p, v) :: ps.zip vs).lookup x with | some v => some v | none => m x)
    rw [bindC_at ps vs _ x hn.2 hk, List.lookup_cons]
    by_cases e : x = p
    · subst e
      have : (ps.zip vs).lookup x = none := by
        cases q : (ps.zip vs).lookup x with
        | none => rfl
        | some w => exact absurd (List.of_mem_zip (lookup_mem' q)).1 hn.1
      rw [this]
      simp [hk]
    · have e' : (x == p) = false := by simpa using e
      rw [e']
      dsimp only
      cases (ps.zip vs).lookup x with
      | some w => rfl
      | none =>
        dsimp only
        split
        · rfl
        · exact if_neg e
theorem ix_zip : ∀ {ps : List Str} {ns : List Str} {vs : List Value} {avs : List AV} {h : Heap} {M : AS} {x : Str} {av : AV}, VAs h M vs avs → vs.length = ps.length → mu (ps ++ ns) (avs.map some ++ ns.map fun _ => none) x = some av → ∃ v, (ps.zip vs).lookup x = some v ∧ VA h M v av
  | [], ns, vs, avs, h, M, x, av, r, hl, e => by
    cases r with
    | cons => cases hl
    | nil =>
      exfalso
      unfold mu at e
      cases q : ix ([] ++ ns) x with
      | none => rw [q] at e; cases e
      | some i =>
        rw [q] at e
        have e : (([].map some ++ ns.map fun _ => (none : Option AV))[i]?).join = some av := e
        simp only [List.map_nil, List.nil_append, List.getElem?_map] at e
        cases z : ns[i]? with
        | none => rw [z] at e; cases e
        | some w => rw [z] at e; cases e
  | p :: ps, ns, vs, avs, h, M, x, av, r, hl, e => by
    cases r with
    | nil => cases hl
    | @cons v vs a avs hv r =>
      unfold mu at e
      rw [List.cons_append, ix] at e
      by_cases q : p = x
      · subst q
        rw [if_pos rfl] at e
        have e : some a = some av := e
        cases e
        exact ⟨v, by simp, hv⟩
      · rw [if_neg q] at e
        have e' : (x == p) = false := by simpa using fun z : x = p => q z.symm
        have : mu (ps ++ ns) (avs.map some ++ ns.map fun _ => none) x = some av := by
          unfold mu
          cases z : ix (ps ++ ns) x with
          | none => rw [z] at e; cases e
          | some i => rw [z] at e; exact e
        obtain ⟨w, h1, h2⟩ := ix_zip r (by simpa using hl) this
        exact ⟨w, by rw [List.zip_cons_cons, List.lookup_cons, e']; exact h1, h2⟩
noncomputable def Ret (Q : AV → Sto → Prop) : Fl → Rho → Sto → Prop
  | .ret v, _, σ => ∃ σ', Le σ' σ ∧ Q v σ'
  | .nxt, _, σ => Q (.d .none) σ
  | .cnt, _, _ => False
section
variable {G : Wd} {C : Ctr} {d : Nat}
theorem call_ok (X : Cx G C d) {fa : Addr} {fd : FuncData} {body : List Stmt} (H : FnAt G.K fa fd body) {ps ns : List Str} {b : Sms} (hok : fnOk fd.scope ps ns b body = true) (hb : ∀ vals : List Value, vals.length = ps.length → bindArgs fd ⟨vals, []⟩ = pure (ps.zip vals))
    {A : Around} (R : Rm A (d + 1)) {C' : Ctr} {f : Str} (hC : ∀ args σ Q, C' f args σ Q → args.length = ps.length ∧ awSs C b (args.map some ++ ns.map fun _ => none) σ (Ret Q)) : CallOk G A C' f (.ref fa) := by
  intro Y σ s vs args Q O r q
  obtain ⟨hlen, q⟩ := hC args σ Q q
  unfold fnOk at hok
  simp only [Bool.and_eq_true, beq_iff_eq, Bool.not_eq_true', List.all_eq_true] at hok
  obtain ⟨⟨⟨⟨⟨⟨⟨k1, k2⟩, k3⟩, k4⟩, k5⟩, k6⟩, k7⟩, k8⟩ := hok
  obtain ⟨oc, od, osl, hlook⟩ := H.look
  have KI : G.K.In s.heap := X.ok.kin.keeps O.base
  have hvl : vs.length = ps.length := by rw [r.length, hlen]
  have hn := nodupB_ok k5
  have hnn := nodupB_ok k4
  have hfree : ∀ x, fd.scope.names.lookup x ≠ some .free := fun x e => by have := k6 _ (lookup_mem' e); simp at this
  refine wpAny_call (codeAny_call_cells ?_ (KI _ _ hlook) rfl (X.ok.top.nolimit.keeps O.base) (codeRec_of KI H.code) H.body (hb vs hvl) H.clo (fun x hx => ?_) (fun s₁ I => ?_) k2 k3 k1)
  · have := R.dp
    show A.depth < recursionLimit
    have : recursionLimit = 1000 := rfl
    omega
  · have := k7 x.1 (List.of_mem_zip (show (x.1, x.2) ∈ ps.zip vs from hx)).1
    rcases Bool.or_eq_true_iff.mp this with h | h
    · exact .inl (beq_iff_eq.mp h)
    · have h := beq_iff_eq.mp h
      exact .inr ⟨h, cellsFrom_some _ _ _ _ (.inl (lookup_mem' h))⟩
  · let L := s.heap.objs.size
    let env := callEnvC fd L fa
    let F : Fm := ⟨env, fun a => a = L ∨ ∃ n, env.cells.lookup n = some a, true⟩
    let Y' : AS := fun a => Y a ∨ F.fr a
    obtain ⟨h', tk, e₁⟩ := I.toInCall.same
    subst e₁
    have keep : ∀ b o, s.heap.get? b = some o → h'.get? b = some o := I.toInCall.keep
    have hkind : env.kindOf = fun x => fd.scope.names.lookup x := rfl
    have hfresh : ∀ a, F.fr a → s.heap.get? a = none := fun a ha => by
      rcases ha with rfl | ⟨n, e⟩
      · exact get_none_of_size (Nat.le_refl _)
      · exact get_none_of_size (Nat.le_of_lt (I.above n a (lookup_mem' e)))
    have hal : ∀ a, F.fr a → ∃ o, h'.get? a = some o := fun a ha => by
      rcases ha with rfl | ⟨n, e⟩
      · obtain ⟨o, _, _, e, _⟩ := I.toInCall.ns; exact ⟨o, e⟩
      · obtain ⟨o, e, _⟩ := I.cell n a e; exact ⟨o, e⟩
    have S0' : S0 G Y' σ { s with heap := h', toks := tk } := O.enter tk (fun a y => .inl y) keep (fun a y => y.elim .inl fun f => .inr ⟨hfresh a f, hal a f⟩)
    have mv : Mv (Mu Y σ) (Mu Y' σ) s.heap h' := fun b o hm hb => ⟨keep b o hb, fun m => hm (m.elim (fun y => y.elim .inl fun f => by rw [hfresh b f] at hb; cases hb) .inr)⟩
    have hFok : F.Ok := by
      refine ⟨k1, H.glob, H.blt, fun x hx => ?_, I.apart, fun n c e z => ?_, fun _ n c e => .inr ⟨n, e⟩, .inl rfl⟩
      · have hx : isCell (fd.scope.names.lookup x) = true := hx
        have hc : fd.scope.names.lookup x = some .cell := by
          cases z : fd.scope.names.lookup x with
          | none => rw [z] at hx; cases hx
          | some k =>
            rw [z] at hx
            cases k with
            | cell => rfl
            | free => exact absurd z (hfree x)
            | _ => simp [isCell] at hx
        exact Option.isSome_iff_exists.mp (cellsFrom_some _ _ _ _ (.inl (lookup_mem' hc)))
      · have := I.above n c (lookup_mem' e)
        exact Nat.ne_of_gt this z
    have S1 : St G Y' F (mu (ps ++ ns) (args.map some ++ ns.map fun _ => none)) σ { s with heap := h', toks := tk } := by
      refine ⟨S0', fun a f => .inr f, hFok, ?_, ⟨_, I.toInCall.ns, fun x av e k => ?_⟩, fun x c hc => ⟨_, I.cell x c hc, fun av e k => ?_⟩⟩
      · have := O.room X.ok
        exact Nat.le_of_lt this
      · obtain ⟨v, h1, h2⟩ := ix_zip r hvl e
        refine ⟨v, ?_, h2.mv mv⟩
        rw [bindL_at ps vs _ x hn k, h1]
      · obtain ⟨v, h1, h2⟩ := ix_zip r hvl e
        refine ⟨v, ?_, h2.mv mv⟩
        have k' : env.kindOf x ≠ some .local := fun z => by
          have k : isCell (env.kindOf x) = true := k
          rw [z] at k; cases k
        rw [bindC_at ps vs _ x hn k', h1]
    have R' : Rm (A.deeper env) d := ⟨R.hh, by
      have := R.dp
      show A.depth + 1 + d ≤ 690
      omega, by
      have := R.un
      show A.units + 3 + 8 * d ≤ 9000
      omega⟩
    refine wpAny_mono (sound_s X b _ (ps ++ ns) body k8 (A.deeper env) F Y' _ σ (Ret Q) _ R' rfl hkind S1 q) (fun fl s₂ z => ?_) fun _ _ f => f.elim
    obtain ⟨ρ', σ', S₂, e₂, z⟩ := z
    have nY : ∀ a, F.fr a → ¬ Y a := fun a f y => by obtain ⟨_, o, e⟩ := O.live a (.inl y); rw [hfresh a f] at e; cases e
    have out : ∀ σ'', Le σ'' σ' → S0 G Y σ'' s₂ ∧ E0 σ σ'' s s₂ := fun σ'' L' => by
      have e1 : E0 σ σ' s s₂ := ((EP.of (P := F.fr) (E0.grow (s := s) (h' := h') (tk := tk) keep)).trans e₂).e0 hfresh
      exact ⟨(S₂.s0.leave (Y := Y) (fp := F.fr) (h' := s₂.heap) s₂.toks (fun a y => .inl y) O.tpY (fun a f => ⟨.inr f, nY a f⟩) fun _ _ _ e => e).le L', e1.trans (.le L')⟩
    cases fl with
    | ret v =>
      obtain ⟨av, rv, σ'', L', q⟩ := z
      obtain ⟨o1, o2⟩ := out σ'' L'
      exact ⟨av, σ'', o1, o2, rv.mv (fun b o hm hb => ⟨hb, fun m => hm (m.elim (fun y => .inl (.inl y)) fun y => L'.mu (Y := Y') (.inr y))⟩), q⟩
    | next =>
      obtain ⟨o1, o2⟩ := out σ' Le.refl
      exact ⟨.d .none, σ', o1, o2, VR.none, z⟩
    | cont => exact z.elim
    | brk => exact z.elim
end
noncomputable abbrev Ent := Str × Tok × Value
noncomputable def mkE (w : World) (e : Ent) : DictEntry := ⟨PyData.keyHash w.params e.1, .str e.1 e.2.1, e.2.2⟩
noncomputable def entAt (es : List Ent) (f : Str) : Option Value := (es.lookup f).map (·.2)
theorem getL_ents (w : World) (f : Str) : ∀ es : List Ent, getL f (es.map (mkE w)) = some (entAt es f) := by
  intro es
  have hr : (es.map (mkE w)).any (·.refKey) = false := by
    rw [List.any_eq_false]
    intro e he
    obtain ⟨p, _, rfl⟩ := List.mem_map.mp he
    simp [mkE, DictEntry.refKey]
  unfold getL
  rw [hr]
  clear hr
  induction es with
  | nil => rfl
  | cons e es ih =>
    rw [List.map_cons, List.find?_cons]
    have hk : (mkE w e).key.isStr f = (e.1 == f) := rfl
    rw [hk]
    unfold entAt
    obtain ⟨g, t, v⟩ := e
    by_cases q : g = f
    · subst q; simp [mkE]
    · have q1 : (g == f) = false := by simpa using q
      have q2 : (f == g) = false := by simpa using fun z : f = g => q z.symm
      rw [List.lookup_cons]
      simp only [q1, q2]
      exact ih
theorem putL_ents (w : World) (f : Str) (t : Tok) (v : Value) : ∀ es : List Ent, entAt es f = none → putL f (PyData.keyHash w.params f) (.str f t) v (es.map (mkE w)) = (es ++ [(f, t, v)]).map (mkE w)
  | [], _ => rfl
  | (g, u, x) :: es, h => by
    have hg : f ≠ g := by
      rintro rfl
      simp [entAt] at h
    have q1 : (g == f) = false := by simpa using fun z : g = f => hg z.symm
    have q2 : (f == g) = false := by simpa using hg
    have hk : (mkE w (g, u, x)).key.isStr f = false := q1
    rw [List.map_cons, putL, hk]
    have h' : entAt es f = none := by
      unfold entAt at h ⊢
      rw [List.lookup_cons, q2] at h; exact h
    rw [putL_ents w f t v es h']
    rfl
theorem putN_ents (w : World) (f : Str) (n : Nat) (es : List Ent) (h : entAt es f = none) : putN f (es.map (mkE w)) n = n + 1 := by
  unfold putN
  rw [if_neg]
  intro c
  rw [List.any_eq_true] at c
  obtain ⟨e, he, hk⟩ := c
  obtain ⟨p, hp, rfl⟩ := List.mem_map.mp he
  have hk : (p.1 == f) = true := hk
  have := beq_iff_eq.mp hk
  unfold entAt at h
  have h2 : es.lookup f = none := by
    cases q : es.lookup f with
    | none => rfl
    | some z => rw [q] at h; cases h
  clear h he
  induction es with
  | nil => cases hp
  | cons q es ih =>
    rw [List.lookup_cons] at h2
    split at h2
    · cases h2
    · rename_i c
      rcases List.mem_cons.mp hp with rfl | hp
      · rw [this] at c; simp at c
      · exact ih hp h2
structure SetOk (K : Frag) (C : Addr) (fs : List Str) : Prop where
  over : plainOver K C = true
  set : findIn K (.ref C) "__setattr__" = some (some (.builtin "object.__setattr__"))
  dict : hasDictIn K C = true
  take : ∀ f ∈ fs, takerIn K C f = some none
section
variable {prog : Program} {w : World} {A : Around} {s : Shared} {K : Frag} {h₀ : Heap} {L x dx C : Addr} {m : Str → Option Value} {more : List (Addr × Obj)} {es : List Ent} {n : Nat} {env : Env}
theorem set_step {f : Str} {v : Value} {fs : List Str} {p1 p2 : Pos} {Q : Unit → Shared → Prop} (hl : env.scope.kind = .function) (hL : env.locals = L) (hs : env.kindOf "self" = some .local) (hm : m "self" = some (.ref x)) (KI : K.In h₀) (H : SetOk K C fs) (hf : f ∈ fs) (F : Fr h₀ L s.heap m)
    (N : News h₀ L s.heap ((x, instObj C dx) :: (dx, dictOf (es.map (mkE w)) n) :: more)) (hx : x ≠ dx) (hmore : ∀ p ∈ more, p.1 ≠ dx) (he : entAt es f = none) (hz : es.length < 900)
    (h : ∀ h' t, Fr h₀ L h' m → News h₀ L h' ((x, instObj C dx) :: (dx, dictOf ((es ++ [(f, t, v)]).map (mkE w)) (n + 1)) :: more) → Q () { s with heap := h', toks := s.toks + 2 }) :
    wpAny (model prog w) A (assign (.Attribute (.Name "self" p1) f p2) env v) Q NE s := by
  rw [assign_Attribute]
  refine wpAny_bind (wpAny_holding (wpAny_Name (wpAny_loadName_local hl hs (hL ▸ F.ns) hm (wpAny_bind (wpAny_standAt ?_))) (by decide)))
  have I : W.InstAt s.heap x (instObj C dx) C (some (dictOf (es.map (mkE w)) n)) := InstAt.of_news N (.head _) (.tail _ (.head _))
  refine wpAny_bind (wpAny_holding (set_dict (dx := dx) (es' := (es ++ [(f, s.toks + 1, v)]).map (mkE w)) (n' := n + 1) F KI N I rfl H.set H.over (H.take f hf) H.dict (by rw [getL_ents]; rfl)
    (by rw [putL_ents w f _ v es he, putN_ents w f n es he]) (.tail hx (.head hmore)) (by rw [List.length_map, List.length_append]; simp; omega) fun h' F' N' => wpAny_release (h h' _ F' N')))
theorem handed_of {h : Heap} {M : AS} {v : Value} : ∀ {av : AV}, VA h M v av → handedIn v = true
  | .d _, r => by cases r <;> rfl
  | .loc _, r => by cases r; rfl
  | .ins _, r => by cases r; rfl
  | .scr _, ⟨_, _, e, _⟩ => by cases e; rfl
end
section
variable {G : Wd} {Y : AS} {σ : Sto} {s : Shared} {h' : Heap} {tk : Nat}
theorem ob_inst {M : AS} {x dx : Addr} {b : Bool} {fs : List (Str × AV)} {es : List Ent} {n : Nat} (gx : h'.get? x = some (instObj (G.cl b) dx)) (gd : h'.get? dx = some (dictOf (es.map (mkE G.w)) n)) (hd : ¬ M dx)
    (hf : ∀ f, (match fs.lookup f with | some av => atB b f = true ∧ ∃ v, entAt es f = some v ∧ VA h' M v av | none => atB b f = false ∧ entAt es f = none)) : Ob G h' M x (.inst b fs) := by
  refine ⟨dx, _, n, #[], gx, gd, hd, fun f => ?_⟩
  have := hf f
  cases z : fs.lookup f with
  | none => rw [z] at this; exact ⟨this.1, by rw [getL_ents, this.2]⟩
  | some av =>
    rw [z] at this
    obtain ⟨c1, v, c2, c3⟩ := this
    exact ⟨c1, v, by rw [getL_ents, c2], handed_of c3, c3⟩
end
structure ClsK (G : Wd) (b : Bool) (fI : Addr) (fs : List Str) : Prop where
  makes : makesIn G.K (G.cl b) = true
  init : findIn G.K (.ref (G.cl b)) "__init__" = some (some (.ref fI))
  fn : typeIn G.K (.ref fI) = some (.type "function")
  set : SetOk G.K (G.cl b) fs
section
variable {G : Wd} {C : Ctr} {d : Nat}
theorem both_ok (X : Cx G C d) {fI : Addr} {fd : FuncData} {p1 p2 p3 p4 : Pos} (H : ClsK G true fI ["found"]) (HF : FnAt G.K fI fd [.Assign [.Attribute (.Name "self" p1) "found" p2] (.Dict [] [] p3) p4])
    (hk : fd.scope.kind = .function) (hn : fd.scope.names = [(Str.ofString "self", NameKind.local)]) (hg : fd.scope.isGenerator = false) (hco : fd.scope.isCoroutine = false) (hb : ∀ v : Value, bindArgs fd ⟨[v], []⟩ = pure [(Str.ofString "self", v)])
    {A : Around} (R : Rm A (d + 1)) (hA : ∀ C', (A.under (.builtin "type.__call__" ⟨.ref C' :: [], []⟩)).depth < recursionLimit) {C' : Ctr} (hC : ∀ args σ Q, C' "Both" args σ Q → args = [] ∧ ∀ a b, σ a = none → σ b = none → a ≠ b → Q (.ins a) (sput (sput σ b (.dict [])) a (.inst true [("found", .loc b)]))) :
    CallOk G A C' "Both" (.ref (G.cl true)) := by
  intro Y σ s vs args Q O r q
  obtain ⟨rfl, q2⟩ := hC args σ Q q
  cases r
  have KI : G.K.In s.heap := X.ok.kin.keeps O.base
  obtain ⟨oc, od, osl, hlook⟩ := HF.look
  refine wpAny_call ?_
  obtain ⟨hh, g, dr, t, os⟩ := s
  refine make_core (makes_of KI H.makes) (looks_findIn KI H.init) (fun self => bind_fn KI self H.fn) (.inl rfl) ?_
  have hroom := O.room X.ok
  have keep1 : ∀ b o, hh.get? b = some o → ((hh.push emptyDict).push (instObj (G.cl true) hh.objs.size)).get? b = some o := fun b o e => Heap.get?_push_of_some _ (Heap.get?_push_of_some _ e)
  have hsz : ((hh.push emptyDict).push (instObj (G.cl true) hh.objs.size)).objs.size = hh.objs.size + 2 := by rw [Heap.size_push, Heap.size_push]
  have gdx : ((hh.push emptyDict).push (instObj (G.cl true) hh.objs.size)).get? hh.objs.size = some emptyDict := Heap.get?_push_of_some _ (Heap.get?_push_size _ rfl)
  have gx : ((hh.push emptyDict).push (instObj (G.cl true) hh.objs.size)).get? (hh.objs.size + 1) = some (instObj (G.cl true) hh.objs.size) := by
    have := Heap.get?_push_size (hh.push emptyDict) (o := instObj (G.cl true) hh.objs.size) rfl
    rwa [Heap.size_push] at this
  refine codeAny_call_def (hco := hco) (hgen := hg) (hk := hk) (hA _) (keep1 _ _ (KI _ _ hlook)) rfl ((X.ok.top.nolimit.keeps O.base).keeps keep1) (codeRec_of (KI.keeps keep1) HF.code) HF.body (.of_eq (hb _)) (by rw [hn]; simp) (by rw [hn]; simp) fun h₀ hns hk0 => ?_
  dsimp only at hns hk0 ⊢
  rw [hsz] at hns ⊢
  have hroom : G.s0.heap.objs.size < hh.objs.size := hroom
  obtain ⟨L, hL⟩ : ∃ L : Nat, L = hh.objs.size + 2 := ⟨_, rfl⟩
  obtain ⟨x, hx⟩ : ∃ x : Nat, x = hh.objs.size + 1 := ⟨_, rfl⟩
  obtain ⟨dx, hdx⟩ : ∃ dx : Nat, dx = hh.objs.size := ⟨_, rfl⟩
  rw [← hL, ← hx] at hns
  rw [← hx] at gx
  rw [← hL, ← hx]
  rw [← hdx] at gdx gx
  have hxdx : x ≠ dx := by rw [hx, hdx]; exact Nat.succ_ne_self _
  have hxL : x ≠ L := by rw [hx, hL]; exact Nat.ne_of_lt (Nat.lt_succ_self _)
  have hdL : dx ≠ L := by rw [hdx, hL]; exact Nat.ne_of_lt (Nat.lt_succ_of_lt (Nat.lt_succ_self _))
  have hk1 : ∀ b o, hh.get? b = some o → h₀.get? b = some o := fun b o e => hk0 b o (keep1 b o e)
  rw [← hdx] at hk0
  have nx : hh.get? x = none := get_none_of_size (by omega)
  have ndx : hh.get? dx = none := get_none_of_size (by omega)
  have F0 : Fr hh L h₀ (fun y => [(Str.ofString "self", Value.ref x)].reverse.lookup y) := ⟨hns, hk1, by omega⟩
  have N0 : News hh L h₀ [(x, instObj (G.cl true) dx), (dx, dictOf (([] : List Ent).map (mkE G.w)) 0)] := fun p hp => by
    rcases List.mem_cons.mp hp with rfl | hp
    · exact ⟨hk0 _ _ gx, hxL, nx⟩
    · obtain rfl := List.mem_singleton.mp hp
      exact ⟨hk0 _ _ gdx, hdL, ndx⟩
  refine wpAny_execs_cons (wpAny_mono (Q := fun fl s' => fl = .next ∧ ∃ h' D es n t', s' = ⟨h', g, dr, t', os⟩ ∧ Fr hh L h' (fun y => [(Str.ofString "self", Value.ref x)].reverse.lookup y) ∧ News hh L h' [(x, instObj (G.cl true) dx), (dx, dictOf ((([] : List Ent) ++ [(Str.ofString "found", es, Value.ref D)]).map (mkE G.w)) n), (D, emptyDict)] ∧ D ≠ x ∧ D ≠ dx ∧ (D == sysModules) = false) (E := NE) ?_ (fun fl s' z => ?_) fun _ _ f => f.elim)
  · refine wpAny_Assign_stores ?_ rfl rfl
    rw [eval_Dict_empty]
    refine wpAny_bind (wpAny_standAt (wpAny_newObj_type (T := "dict") (data := .dict #[]) ?_ (by first | trivial | size_fits | simp [sizeOk])))
    have hDn : ∀ p ∈ [(x, instObj (G.cl true) dx), (dx, dictOf (([] : List Ent).map (mkE G.w)) 0)], p.1 ≠ h₀.objs.size := fun p hp => Nat.ne_of_lt (Heap.lt_size (N0 p hp).1)
    have N1 := News.push F0 N0 emptyDict
    have F1 := F0.push emptyDict
    have lt : ∀ b, hh.objs.size ≤ b → b < h₀.objs.size → True := fun _ _ _ => trivial
    have e1 : h₀.objs.size ≠ x := fun e => hDn _ (.head _) e.symm
    have e2 : h₀.objs.size ≠ dx := fun e => hDn _ (.tail _ (.head _)) e.symm
    have N2 : News hh L (h₀.push emptyDict) ((x, instObj (G.cl true) dx) :: (dx, dictOf (([] : List Ent).map (mkE G.w)) 0) :: [(h₀.objs.size, emptyDict)]) := fun p hp => by
      rcases List.mem_cons.mp hp with rfl | hp
      · exact N1 _ (.tail _ (.head _))
      rcases List.mem_cons.mp hp with rfl | hp
      · exact N1 _ (.tail _ (.tail _ (.head _)))
      · obtain rfl := List.mem_singleton.mp hp; exact N1 _ (.head _)
    show wpAny _ _ (assign (.Attribute (.Name "self" p1) "found" p2) _ (.ref h₀.objs.size)) _ _ _
    refine set_step (C := G.cl true) (dx := dx) (x := x) (L := L) (h₀ := hh) (K := G.K) (fs := ["found"]) hk rfl ?_ rfl KI H.set (.head _) F1 N2 hxdx (fun p hp => by obtain rfl := List.mem_singleton.mp hp; exact e2) rfl (by decide) fun h' t' F' N' => ?_
    · show List.lookup _ fd.scope.names = _
      rw [hn]; rfl
    · refine ⟨rfl, h', h₀.objs.size, _, _, _, rfl, F', N', e1, e2, ?_⟩
      have : sysModules < hh.objs.size := Nat.lt_trans (modules_low X.ok.top.nolimit) hroom
      exact beq_eq_false_iff_ne.mpr (Nat.ne_of_gt (Nat.lt_trans (Nat.lt_of_lt_of_le this (by omega : hh.objs.size ≤ L)) hns.lt))
  · obtain ⟨rfl, h', D, es, n, t', rfl, F', N', e1, e2, e3⟩ := z
    refine wpAny_execs_nil ?_
    refine ⟨rfl, ?_⟩
    have kp : ∀ b o, hh.get? b = some o → h'.get? b = some o := F'.keep
    have nD : hh.get? D = none := (N' _ (.tail _ (.tail _ (.head _)))).2.2
    have hxd := hxdx
    have fx := O.fresh nx
    have fd' := O.fresh ndx
    have fD := O.fresh nD
    have E1 : S0 G (fun a => Y a ∨ (a = x ∨ a = D)) σ ⟨h', g, dr, t', os⟩ := O.enter (h' := h') t' (fun a y => .inl y) kp (fun a y => by
      rcases y with y | (rfl | rfl)
      · exact .inl y
      · exact .inr ⟨nx, _, N'.get (.head _)⟩
      · exact .inr ⟨nD, _, N'.get (.tail _ (.tail _ (.head _)))⟩)
    have E2 : S0 G (fun a => Y a ∨ a = x) (sput σ D (.dict [])) ⟨h', g, dr, t', os⟩ := by
      refine E1.adopt (.inr (.inr rfl)) (fun a y => y.elim (fun y => ⟨.inl y, fun z => fD.1 (z ▸ y)⟩) fun (z : a = x) => ⟨.inr (.inl z), fun w => e1 (w.symm.trans z)⟩) (fun a y => y.elim (fun y => .inl (.inl y)) fun z => z.elim (fun z => .inl (.inr z)) .inr) (.inl O.tpY) ?_
      refine ⟨[], (Heap.DictOf.new (knd := strKind G.prog G.w) hh).at (h' := h') |> fun _ => ?_, .nil, e3⟩
      have gD : h'.get? D = some emptyDict := N'.get (.tail _ (.tail _ (.head _)))
      exact ⟨_, #[], _, gD, ⟨rfl, rfl, rfl⟩, rfl, fun e he => absurd he (by simp), .nil, List.Pairwise.nil⟩
    have E3 : S0 G Y (sput (sput σ D (.dict [])) x (.inst true [(Str.ofString "found", .loc D)])) ⟨h', g, dr, t', os⟩ := by
      refine E2.adopt (.inr rfl) (fun a y => ⟨.inl y, fun z => fx.1 (z ▸ y)⟩) (fun a y => y.imp id id) O.tpY ?_
      refine ob_inst (N'.get (.head _)) (N'.get (.tail _ (.head _))) (fun m => ?_) fun f => ?_
      · rcases m with y | y
        · exact fd'.1 y
        · rw [sput_ne (Ne.symm hxd), sput_ne (Ne.symm e2)] at y
          exact y fd'.2.1
      · by_cases z : f = Str.ofString "found"
        · subst z
          refine ⟨rfl, .ref D, rfl, rfl⟩
        · have z' : (f == Str.ofString "found") = false := by simpa using z
          rw [List.lookup_cons, z']
          refine ⟨z', ?_⟩
          show ([(Str.ofString "found", es, Value.ref D)].lookup f).map _ = none
          rw [List.lookup_cons, z']; rfl
    refine ⟨.ins x, _, E3, ⟨fun b o e => ⟨o, kp b o e⟩, fun b o _ e => kp b o e, fun b h k => ?_⟩, rfl, q2 x D fx.2.1 fD.2.1 (Ne.symm e1)⟩
    by_cases z : b = x
    · rw [z]; exact nx
    · rw [sput_ne z] at k
      by_cases z2 : b = D
      · rw [z2]; exact nD
      · rw [sput_ne z2] at k; exact absurd h k
end
noncomputable def mAttrs : List Str → List Stmt → Bool
  | [], ss => ss.isEmpty
  | f :: fs, ss => an (dCnsS ss) fun u => an (gAsg u.1) fun v => an (dAtt v.1) fun w => an (dName v.2.1) fun y => w.1 == (Str.ofString "self") && w.2.2.1 == f && y.1 == f && !(f == ("__debug__" : Str)) && mAttrs fs u.2
theorem mAttrs_cons {f : Str} {fs : List Str} {ss : List Stmt} (h : mAttrs (f :: fs) ss = true) : ∃ p1 p2 p3 p4 ss', ss = .Assign [.Attribute (.Name (Str.ofString "self") p1) f p2] (.Name f p3) p4 :: ss' ∧ (f == ("__debug__" : Str)) = false ∧ mAttrs fs ss' = true := by
  obtain ⟨q0, e0, h⟩ := an_inv h
  obtain ⟨q1, e1, h⟩ := an_inv h
  obtain ⟨q2, e2, h⟩ := an_inv h
  obtain ⟨q3, e3, h⟩ := an_inv h
  obtain ⟨h, hrest⟩ := Bool.and_eq_true_iff.mp h
  obtain ⟨h, hdbg⟩ := Bool.and_eq_true_iff.mp h
  obtain ⟨h, h3⟩ := Bool.and_eq_true_iff.mp h
  obtain ⟨h1, h2⟩ := Bool.and_eq_true_iff.mp h
  refine ⟨q2.2.1, q2.2.2.2, q3.2, q1.2.2, q0.2, ?_, by rw [Bool.not_eq_true'] at hdbg; exact hdbg, hrest⟩
  rw [e0, e1, e2, e3, eq_of_beq h1, eq_of_beq h2, eq_of_beq h3]
section
variable {prog : Program} {w : World} {A : Around} {K : Frag} {h₀ : Heap} {L x dx C : Addr} {m : Str → Option Value} {env : Env}
theorem sets_run {fsAll : List Str} (hl : env.scope.kind = .function) (hL : env.locals = L) (hs : env.kindOf "self" = some .local) (hm : m "self" = some (.ref x)) (KI : K.In h₀) (H : SetOk K C fsAll) (hx : x ≠ dx) :
    ∀ (fs : List Str) (ss : List Stmt) (es : List Ent) (n : Nat) (s : Shared), mAttrs fs ss = true → fs.Nodup → (∀ f ∈ fs, f ∈ fsAll) → (∀ f ∈ fs, env.kindOf f = some .local ∧ ∃ v, m f = some v) → (∀ f ∈ fs, entAt es f = none) → es.length + fs.length < 900 →
      Fr h₀ L s.heap m → News h₀ L s.heap [(x, instObj C dx), (dx, dictOf (es.map (mkE w)) n)] →
      wpAny (model prog w) A (execs ss env) (fun fl s' => fl = .next ∧ ∃ h' tk es' n', s' = { s with heap := h', toks := tk } ∧ Fr h₀ L h' m ∧ News h₀ L h' [(x, instObj C dx), (dx, dictOf (es'.map (mkE w)) n')] ∧ ∀ f, entAt es' f = if f ∈ fs then m f else entAt es f) NE s
  := by
  intro fs
  induction fs with
  | nil =>
    intro ss es n s h _ _ _ _ _ F N
    cases ss with
    | nil => exact wpAny_execs_nil ⟨rfl, s.heap, s.toks, es, n, rfl, F, N, fun f => by simp⟩
    | cons => cases h
  | cons f fs ih =>
    intro ss es n s h hn ha hk he hz F N
    obtain ⟨p1, p2, p3, p4, ss', rfl, hdbg, hrest⟩ := mAttrs_cons h
    rw [List.nodup_cons] at hn
    obtain ⟨hkf, v, hv⟩ := hk f (.head _)
    refine wpAny_execs_cons (wpAny_Assign_stores (wpAny_Name (wpAny_loadName_local hl hkf (hL ▸ F.ns) hv ?_) hdbg) rfl rfl)
    show wpAny _ _ (assign (.Attribute (.Name (Str.ofString "self") p1) f p2) env v) _ _ _
    refine set_step (fs := fsAll) hl hL hs hm KI H (ha f (.head _)) F N hx (fun p hp => nomatch hp) (he f (.head _)) (by simp at hz; omega) fun h' t F' N' => ?_
    refine wpAny_mono (ih _ (es ++ [(f, t, v)]) (n + 1) { s with heap := h', toks := s.toks + 2 } hrest hn.2 (fun g hg => ha g (.tail _ hg)) (fun g hg => hk g (.tail _ hg)) (fun g hg => ?_) (by simp at hz ⊢; omega) F' N') (fun fl s' z => ?_) fun _ _ f => f
    · have h1 := he g (.tail _ hg)
      have hne : g ≠ f := fun e => hn.1 (e ▸ hg)
      unfold entAt at h1 ⊢
      rw [List.lookup_append]
      have h2 : es.lookup g = none := by
        cases q : es.lookup g with
        | none => rfl
        | some z => rw [q] at h1; cases h1
      have hne' : (g == f) = false := by simpa using hne
      rw [h2, List.lookup_cons, hne']; rfl
    · obtain ⟨e, h'', tk, es', n', rfl, F'', N'', he'⟩ := z
      refine ⟨e, h'', tk, es', n', rfl, F'', N'', fun g => ?_⟩
      rw [he' g]
      by_cases hg : g ∈ fs
      · rw [if_pos hg, if_pos (.tail _ hg)]
      · rw [if_neg hg]
        by_cases hfy : g = f
        · subst hfy
          rw [if_pos (.head _), hv]
          have h1 := he g (.head _)
          unfold entAt at h1 ⊢
          have h2 : es.lookup g = none := by
            cases q : es.lookup g with
            | none => rfl
            | some z => rw [q] at h1; cases h1
          rw [List.lookup_append, h2]; simp
        · rw [if_neg (fun c => by rcases List.mem_cons.mp c with c | c; exact hfy c; exact hg c)]
          unfold entAt
          rw [List.lookup_append]
          have hne' : (g == f) = false := by simpa using hfy
          cases q : es.lookup g with
          | none => simp [List.lookup_cons, hne']
          | some z => rfl
end
theorem lookup_loc : ∀ {l : List Str} {x : Str}, x ∈ l → (l.map fun x => (x, NameKind.local)).lookup x = some .local
  | y :: l, x, h => by
    rw [List.map_cons, List.lookup_cons]
    by_cases e : x = y
    · subst e; simp
    · have e' : (x == y) = false := by simpa using e
      rw [e']
      exact lookup_loc ((List.mem_cons.mp h).resolve_left e)
theorem VAs.lookup {h : Heap} {M : AS} : ∀ {ks : List Str} {vs : List Value} {avs : List AV} {f : Str}, VAs h M vs avs → ks.length = avs.length → f ∈ ks → ∃ v av, (ks.zip avs).lookup f = some av ∧ (ks.zip vs).lookup f = some v ∧ VA h M v av
  | k :: ks, _, _, f, .cons (v := v) (d := av) hv r, hl, hf => by
    rw [List.zip_cons_cons, List.zip_cons_cons, List.lookup_cons, List.lookup_cons]
    by_cases e : f = k
    · subst e; exact ⟨v, av, by simp, by simp, hv⟩
    · have e' : (f == k) = false := by simpa using e
      rw [e']
      exact VAs.lookup r (by simpa using hl) ((List.mem_cons.mp hf).resolve_left e)
theorem zip_none {α : Type} : ∀ {ks : List Str} {vs : List α} {f : Str}, f ∉ ks → (ks.zip vs).lookup f = none
  | [], _, _, _ => rfl
  | _ :: _, [], _, _ => rfl
  | k :: ks, v :: vs, f, h => by
    rw [List.zip_cons_cons, List.lookup_cons]
    have e' : (f == k) = false := by simpa using fun e : f = k => h (e ▸ .head _)
    rw [e']
    exact zip_none fun m => h (.tail _ m)
noncomputable def implAttrs : List Str := ["number", "regions", "params", "trait", "trait_args", "self_type", "methods", "spot"]
section
variable {G : Wd} {C : Ctr} {d : Nat}
theorem impl_ok (X : Cx G C d) {fI : Addr} {fd : FuncData} {body : List Stmt} (H : ClsK G false fI implAttrs) (HF : FnAt G.K fI fd body) (hbody : mAttrs implAttrs body = true)
    (hk : fd.scope.kind = .function) (hn : fd.scope.names = ((Str.ofString "self") :: implAttrs).map fun x => (x, NameKind.local)) (hg : fd.scope.isGenerator = false) (hco : fd.scope.isCoroutine = false)
    (hb : ∀ (s : Shared) (vs : List Value), G.K.In s.heap → vs.length = 8 → ∃ t, BindsTo s fd ⟨vs, []⟩ (((Str.ofString "self") :: implAttrs).zip (vs ++ [.int 0 t])))
    {A : Around} (R : Rm A (d + 1)) (hA : ∀ (C' : Addr) (r : List Value), (A.under (.builtin "type.__call__" ⟨.ref C' :: r, []⟩)).depth < recursionLimit) {C' : Ctr}
    (hC : ∀ args σ Q, C' "ImplRow" args σ Q → args.length = 7 ∧ ∀ a, σ a = none → Q (.ins a) (sput σ a (.inst false (implAttrs.zip (args ++ [.d (.int 0)]))))) :
    CallOk G A C' "ImplRow" (.ref (G.cl false)) := by
  intro Y σ s vs args Q O r q
  obtain ⟨hlen, q2⟩ := hC args σ Q q
  have hvl : vs.length = 7 := by rw [r.length, hlen]
  have KI : G.K.In s.heap := X.ok.kin.keeps O.base
  obtain ⟨oc, od, osl, hlook⟩ := HF.look
  refine wpAny_call ?_
  obtain ⟨hh, g, dr, t, os⟩ := s
  refine make_core (makes_of KI H.makes) (looks_findIn KI H.init) (fun self => bind_fn KI self H.fn) (.inl rfl) ?_
  have hroom : G.s0.heap.objs.size < hh.objs.size := O.room X.ok
  have keep1 : ∀ b o, hh.get? b = some o → ((hh.push emptyDict).push (instObj (G.cl false) hh.objs.size)).get? b = some o := fun b o e => Heap.get?_push_of_some _ (Heap.get?_push_of_some _ e)
  have hsz : ((hh.push emptyDict).push (instObj (G.cl false) hh.objs.size)).objs.size = hh.objs.size + 2 := by rw [Heap.size_push, Heap.size_push]
  have gdx : ((hh.push emptyDict).push (instObj (G.cl false) hh.objs.size)).get? hh.objs.size = some emptyDict := Heap.get?_push_of_some _ (Heap.get?_push_size _ rfl)
  have gx : ((hh.push emptyDict).push (instObj (G.cl false) hh.objs.size)).get? (hh.objs.size + 1) = some (instObj (G.cl false) hh.objs.size) := by
    have := Heap.get?_push_size (hh.push emptyDict) (o := instObj (G.cl false) hh.objs.size) rfl
    rwa [Heap.size_push] at this
  obtain ⟨t0, hbind⟩ := hb ⟨(hh.push emptyDict).push (instObj (G.cl false) hh.objs.size), g, dr, t, os⟩ (.ref (hh.objs.size + 1) :: vs) (KI.keeps keep1) (by simp [hvl])
  have hnd : (((Str.ofString "self") :: implAttrs).zip (.ref (hh.objs.size + 1) :: vs ++ [Value.int 0 t0])).map (·.1) = (Str.ofString "self") :: implAttrs := by
    rw [List.map_fst_zip]
    simp [hvl, implAttrs]
  refine codeAny_call_def (hco := hco) (hgen := hg) (hk := hk) (hA _ _) (keep1 _ _ (KI _ _ hlook)) rfl ((X.ok.top.nolimit.keeps O.base).keeps keep1) (codeRec_of (KI.keeps keep1) HF.code) HF.body hbind (by
      rw [hn]; intro y hy; obtain ⟨z, _, rfl⟩ := List.mem_map.mp hy; simp) (fun y hy => ?_) fun h₀ hns hk0 => ?_
  · rw [hn]
    exact lookup_loc (List.of_mem_zip (show (y.1, y.2) ∈ _ from hy)).1
  dsimp only at hns hk0 ⊢
  rw [hsz] at hns ⊢
  obtain ⟨L, hL⟩ : ∃ L : Nat, L = hh.objs.size + 2 := ⟨_, rfl⟩
  obtain ⟨x, hx⟩ : ∃ x : Nat, x = hh.objs.size + 1 := ⟨_, rfl⟩
  obtain ⟨dx, hdx⟩ : ∃ dx : Nat, dx = hh.objs.size := ⟨_, rfl⟩
  rw [← hL, ← hx] at hns
  rw [← hx] at gx
  rw [← hL, ← hx]
  rw [← hdx] at gdx gx
  have hxdx : x ≠ dx := by rw [hx, hdx]; exact Nat.succ_ne_self _
  have hxL : x ≠ L := by rw [hx, hL]; exact Nat.ne_of_lt (Nat.lt_succ_self _)
  have hdL : dx ≠ L := by rw [hdx, hL]; exact Nat.ne_of_lt (Nat.lt_succ_of_lt (Nat.lt_succ_self _))
  have hk1 : ∀ b o, hh.get? b = some o → h₀.get? b = some o := fun b o e => hk0 b o (keep1 b o e)
  rw [← hdx] at hk0
  have nx : hh.get? x = none := get_none_of_size (by omega)
  have ndx : hh.get? dx = none := get_none_of_size (by omega)
  rw [← hx] at hnd
  have hkeys : ((((Str.ofString "self") :: implAttrs).zip (.ref x :: vs ++ [Value.int 0 t0])).reverse.map (·.1)).Nodup := by
    rw [List.map_reverse, hnd]
    exact List.pairwise_reverse.mpr (by decide +kernel)
  have hmem : ∀ f v, (f, v) ∈ ((Str.ofString "self") :: implAttrs).zip (.ref x :: vs ++ [Value.int 0 t0]) → (((Str.ofString "self") :: implAttrs).zip (.ref x :: vs ++ [Value.int 0 t0])).reverse.lookup f = some v := fun f v hm => lookup_of_mem hkeys (List.mem_reverse.mpr hm)
  have F0 : Fr hh L h₀ (fun y => (((Str.ofString "self") :: implAttrs).zip (.ref x :: vs ++ [Value.int 0 t0])).reverse.lookup y) := ⟨hns, hk1, by omega⟩
  have N0 : News hh L h₀ [(x, instObj (G.cl false) dx), (dx, dictOf (([] : List Ent).map (mkE G.w)) 0)] := fun p hp => by
    rcases List.mem_cons.mp hp with rfl | hp
    · exact ⟨hk0 _ _ gx, hxL, nx⟩
    · obtain rfl := List.mem_singleton.mp hp
      exact ⟨hk0 _ _ gdx, hdL, ndx⟩
  have rv : VAs hh (Mu Y σ) (vs ++ [Value.int 0 t0]) (args ++ [.d (.int 0)]) := r.append (.cons (d := .d (.int 0)) (VR.int 0 t0) .nil)
  have hmf : ∀ f ∈ implAttrs, ∃ v av, (implAttrs.zip (args ++ [.d (.int 0)])).lookup f = some av ∧ (((Str.ofString "self") :: implAttrs).zip (.ref x :: vs ++ [Value.int 0 t0])).reverse.lookup f = some v ∧ VA hh (Mu Y σ) v av := fun f hf => by
    obtain ⟨v, av, e1, e2, e3⟩ := VAs.lookup (ks := implAttrs) rv (by simp [hlen, implAttrs]) hf
    exact ⟨v, av, e1, hmem f v (.tail _ (lookup_mem' e2)), e3⟩
  have hkind : ∀ f, f ∈ (Str.ofString "self") :: implAttrs → fd.scope.names.lookup f = some .local := fun f hf => by rw [hn]; exact lookup_loc hf
  refine wpAny_mono (sets_run (env := callEnv fd L fI) (L := L) (fsAll := implAttrs) hk rfl (hkind _ (.head _)) (hmem _ _ (.head _)) KI H.set hxdx implAttrs body [] 0 _ hbody (by decide +kernel) (fun _ h => h) (fun f hf => ⟨hkind f (.tail _ hf), let ⟨v, _, _, e, _⟩ := hmf f hf; ⟨v, e⟩⟩) (fun _ _ => rfl) (by decide) F0 N0) (fun fl s' z => ?_) fun _ _ f => f.elim
  obtain ⟨rfl, h', t', es', n', rfl, F', N', he⟩ := z
  refine ⟨rfl, ?_⟩
  have kp : ∀ b o, hh.get? b = some o → h'.get? b = some o := F'.keep
  have fx := O.fresh nx
  have fd' := O.fresh ndx
  have E3 : S0 G Y (sput σ x (.inst false (implAttrs.zip (args ++ [.d (.int 0)])))) ⟨h', g, dr, t', os⟩ := by
    refine O.alloc (h' := h') t' nx ⟨_, N'.get (.head _)⟩ kp (ob_inst (N'.get (.head _)) (N'.get (.tail _ (.head _))) (fun m => ?_) fun f => ?_)
    · rcases m with y | y
      · exact fd'.1 y
      · rw [sput_ne (Ne.symm hxdx)] at y; exact y fd'.2.1
    · by_cases hf : f ∈ implAttrs
      · obtain ⟨v, av, e1, e2, e3⟩ := hmf f hf
        rw [e1]
        refine ⟨List.contains_iff_mem.mpr hf, v, ?_, e3.mv (Mv.put nx kp)⟩
        rw [he f, if_pos hf]; exact e2
      · rw [zip_none hf]
        refine ⟨?_, ?_⟩
        · cases z : atB false f with
          | false => rfl
          | true => exact absurd (List.contains_iff_mem.mp z) hf
        · rw [he f, if_neg hf]; rfl
  refine ⟨.ins x, _, E3, .alloc nx kp, rfl, q2 x fx.2.1⟩
end
structure Tab where
  ps : List Str
  ls : List Str
  b : Sms
noncomputable def tab : List (Str × Tab) := [
  ("head_pairs", ⟨p_head_pairs, l_head_pairs, b_head_pairs⟩), ("filled", ⟨p_filled, l_filled, b_filled⟩), ("names_in", ⟨p_names_in, l_names_in, b_names_in⟩), ("own_names", ⟨p_own_names, l_own_names, b_own_names⟩),
  ("_law_pool", ⟨p_law_pool, l_law_pool, b_law_pool⟩), ("_law_take", ⟨p_law_take, l_law_take, b_law_take⟩), ("_law_one", ⟨p_law_one, l_law_one, b_law_one⟩), ("_law_type", ⟨p_law_type, l_law_type, b_law_type⟩),
  ("_law_once", ⟨p_law_once, l_law_once, b_law_once⟩), ("_law_reached", ⟨p_law_reached, l_law_reached, b_law_reached⟩), ("_law_held_right", ⟨p_law_held_right, l_law_held_right, b_law_held_right⟩),
  ("_law_parts", ⟨p_law_parts, l_law_parts, b_law_parts⟩), ("_law_shape", ⟨p_law_shape, l_law_shape, b_law_shape⟩), ("_law_put", ⟨p_law_put, l_law_put, b_law_put⟩), ("_law_solved", ⟨p_law_solved, l_law_solved, b_law_solved⟩),
  ("_law_names", ⟨p_law_names, l_law_names, b_law_names⟩), ("_law_lined", ⟨p_law_lined, l_law_lined, b_law_lined⟩), ("_law_unified_right", ⟨p_law_unified_right, l_law_unified_right, b_law_unified_right⟩),
  ("_law_own_right", ⟨p_law_own_right, l_law_own_right, b_law_own_right⟩),
  ("seen", ⟨p_seen, l_seen, b_seen⟩), ("holds_name", ⟨p_holds_name, l_holds_name, b_holds_name⟩), ("bind", ⟨p_bind, l_bind, b_bind⟩), ("unify", ⟨p_unify, l_unify, b_unify⟩), ("all_unified", ⟨p_all_unified, l_all_unified, b_all_unified⟩), ("whole", ⟨p_whole, l_whole, b_whole⟩)]
noncomputable def defNames : List Str := ["head_pairs", "filled", "names_in", "own_names", "_law_pool", "_law_take", "_law_one", "_law_type", "_law_once", "_law_reached", "_law_held_right", "_law_parts", "_law_shape", "_law_put", "_law_solved", "_law_names", "_law_lined", "_law_unified_right", "_law_own_right"]
noncomputable def Ct : Nat → Ctr
  | 0 => fun _ _ _ _ => False
  | d + 1 => fun f args σ Q =>
    if f = "Both" then args = [] ∧ ∀ a b, σ a = none → σ b = none → a ≠ b → Q (.ins a) (sput (sput σ b (.dict [])) a (.inst true [(Str.ofString "found", .loc b)]))
    else if f = "ImplRow" then args.length = 7 ∧ ∀ a, σ a = none → Q (.ins a) (sput σ a (.inst false (implAttrs.zip (args ++ [.d (.int 0)]))))
    else wS (tab.lookup f) fun t => args.length = t.ps.length ∧ awSs (Ct d) t.b (args.map some ++ t.ls.map fun _ => none) σ (Ret Q)
noncomputable def FnHas (K : Frag) (fa : Addr) (f : Str) : Prop := ∃ fd body t, tab.lookup f = some t ∧ FnAt K fa fd body ∧ fnOk fd.scope t.ps t.ls t.b body = true ∧ ∀ vals : List Value, vals.length = t.ps.length → bindArgs fd ⟨vals, []⟩ = pure (t.ps.zip vals)
structure Wf (G : Wd) : Prop where
  ok : G.Ok
  nm : ∀ f ∈ fnNames, nsIn G.K mainGlobals f = some (some (.ref (G.fn f))) ∧ keepIn G.K (.ref (G.fn f)) = true
  bn : ∀ x ∈ allNames, nsIn G.K mainGlobals x = some none
  me : ∀ m ∈ mtNames, plainGet G.K (G.cl true) m = true ∧ findIn G.K (.ref (G.cl true)) m = some (some (.ref (G.mt m))) ∧ isFn G.K (.ref (G.mt m)) = true ∧ keepIn G.K (.ref (G.mt m)) = true
  at_ : ∀ b f, atB b f = true → ∃ attr, plainGet G.K (G.cl b) f = true ∧ hasDictIn G.K (G.cl b) = true ∧ findIn G.K (.ref (G.cl b)) f = some attr ∧ noGet G.K attr = true
  fns : ∀ f ∈ defNames, FnHas G.K (G.fn f) f
  mts : ∀ m ∈ mtNames, FnHas G.K (G.mt m) m
  cls1 : G.fn "Both" = G.cl true
  cls2 : G.fn "ImplRow" = G.cl false
  both : ∃ fI fd p1 p2 p3 p4, ClsK G true fI ["found"] ∧ FnAt G.K fI fd [.Assign [.Attribute (.Name "self" p1) "found" p2] (.Dict [] [] p3) p4] ∧ fd.scope.kind = .function ∧ fd.scope.names = [(Str.ofString "self", NameKind.local)] ∧ fd.scope.isGenerator = false ∧ fd.scope.isCoroutine = false ∧
    ∀ v : Value, bindArgs fd ⟨[v], []⟩ = pure [(Str.ofString "self", v)]
  impl : ∃ fI fd body, ClsK G false fI implAttrs ∧ FnAt G.K fI fd body ∧ mAttrs implAttrs body = true ∧ fd.scope.kind = .function ∧ fd.scope.names = (((Str.ofString "self") :: implAttrs).map fun x => (x, NameKind.local)) ∧ fd.scope.isGenerator = false ∧ fd.scope.isCoroutine = false ∧
    ∀ (s : Shared) (vs : List Value), G.K.In s.heap → vs.length = 8 → ∃ t, BindsTo s fd ⟨vs, []⟩ (((Str.ofString "self") :: implAttrs).zip (vs ++ [.int 0 t]))
theorem Ct_tab {d : Nat} {f : Str} {t : Tab} (h : tab.lookup f = some t) (h1 : f ≠ "Both") (h2 : f ≠ "ImplRow") (args : List AV) (σ : Sto) (Q : AV → Sto → Prop) : Ct (d + 1) f args σ Q = (args.length = t.ps.length ∧ awSs (Ct d) t.b (args.map some ++ t.ls.map fun _ => none) σ (Ret Q)) := by
  show (if f = "Both" then _ else if f = "ImplRow" then _ else _) = _
  rw [if_neg h1, if_neg h2, h]; rfl
theorem fn_ok {G : Wd} {d : Nat} (X : Cx G (Ct d) d) {fa : Addr} {f : Str} (H : FnHas G.K fa f) (h1 : f ≠ "Both") (h2 : f ≠ "ImplRow") {A : Around} (R : Rm A (d + 1)) : CallOk G A (Ct (d + 1)) f (.ref fa) := by
  obtain ⟨fd, body, t, ht, hF, hok, hb⟩ := H
  exact call_ok X hF hok hb R fun args σ Q h => by rw [Ct_tab ht h1 h2] at h; exact h
theorem rm_tc {A : Around} {d : Nat} (R : Rm A d) (c : Addr) (r : List Value) : (A.under (.builtin "type.__call__" ⟨.ref c :: r, []⟩)).depth < recursionLimit := by
  rw [depth_under_make]
  have := R.dp
  have : recursionLimit = 1000 := rfl
  omega
theorem cx_of {G : Wd} (W : Wf G) : ∀ d, Cx G (Ct d) d
  | 0 => ⟨W.ok, fun f hf => ⟨(W.nm f hf).1, (W.nm f hf).2, fun A R Y σ s vs args Q O r q => q.elim⟩, W.bn, fun m hm => by
      obtain ⟨a, b, c, e⟩ := W.me m hm
      have key : ∀ g ∈ mtNames, atB true g = false := by decide +kernel
      exact ⟨key m hm, a, b, c, e, fun A R Y σ s vs args Q O r q => q.elim⟩, W.at_⟩
  | d + 1 => by
    have X := cx_of W d
    refine ⟨W.ok, fun f hf => ⟨(W.nm f hf).1, (W.nm f hf).2, fun A R => ?_⟩, W.bn, fun m hm => ?_, W.at_⟩
    · by_cases h1 : f = "Both"
      · subst h1
        rw [W.cls1]
        obtain ⟨fI, fd, p1, p2, p3, p4, a1, a2, a3, a4, a5, a6, a7⟩ := W.both
        exact both_ok X a1 a2 a3 a4 a5 a6 a7 R (fun c => rm_tc R c _) fun args σ Q h => h
      · by_cases h2 : f = "ImplRow"
        · subst h2
          rw [W.cls2]
          obtain ⟨fI, fd, body, a1, a2, a3, a4, a5, a6, a7, a8⟩ := W.impl
          exact impl_ok X a1 a2 a3 a4 a5 a6 a7 a8 R (rm_tc R) fun args σ Q h => h
        · have hd : f ∈ defNames := by
            have key : ∀ g ∈ fnNames, g = "Both" ∨ g = "ImplRow" ∨ g ∈ defNames := by decide +kernel
            exact ((key f hf).resolve_left h1).resolve_left h2
          exact fn_ok X (W.fns f hd) h1 h2 R
    · obtain ⟨a, b, c, e⟩ := W.me m hm
      have key : ∀ g ∈ mtNames, atB true g = false ∧ g ≠ "Both" ∧ g ≠ "ImplRow" := by decide +kernel
      obtain ⟨k1, k2, k3⟩ := key m hm
      exact ⟨k1, a, b, c, e, fun A R => fn_ok X (W.mts m hm) k2 k3 R⟩
end Mine
end
section
set_option genInjectivity false
namespace Mine
noncomputable abbrev Nm := Fin 15
set_option genInjectivity true
inductive Ty where
  | bool | u8 | nev
  | par (x : Nm)
  | box (a : Ty)
  | arr (a : Ty)
  | ref (m : Bool) (a : Ty)
  | tup (a b : Ty)
  | adt (a b : Ty)
  deriving DecidableEq
set_option genInjectivity false
namespace Ty
noncomputable def parts : Ty → List Ty
  | .box a => [a]
  | .arr a => [a]
  | .ref _ a => [a]
  | .tup a b => [a, b]
  | .adt a b => [a, b]
  | .bool => []
  | .u8 => []
  | .nev => []
  | .par _ => []
set_option genInjectivity true in
inductive Hd where
  | bool | u8 | nev | par (x : Nm) | box | arr | ref (m : Bool) | tup | adt
  deriving DecidableEq
noncomputable def hd : Ty → Hd
  | .bool => .bool
  | .u8 => .u8
  | .nev => .nev
  | .par x => .par x
  | .box _ => .box
  | .arr _ => .arr
  | .ref m _ => .ref m
  | .tup _ _ => .tup
  | .adt _ _ => .adt
noncomputable def isPar : Ty → Bool
  | .par _ => true
  | .bool => false
  | .u8 => false
  | .nev => false
  | .box _ => false
  | .arr _ => false
  | .ref _ _ => false
  | .tup _ _ => false
  | .adt _ _ => false
theorem par_of {T : Ty} (h : T.isPar = true) : ∃ x, T = .par x := by
  cases T with
  | par x => exact ⟨x, rfl⟩
  | _ => exact absurd h Bool.false_ne_true
noncomputable def vars : Ty → List Nm
  | .par x => [x]
  | .box a => a.vars
  | .arr a => a.vars
  | .ref _ a => a.vars
  | .tup a b => a.vars ++ b.vars
  | .adt a b => a.vars ++ b.vars
  | .bool => []
  | .u8 => []
  | .nev => []
noncomputable def dep : Ty → Nat
  | .box a => a.dep + 1
  | .arr a => a.dep + 1
  | .ref _ a => a.dep + 1
  | .tup a b => max a.dep b.dep + 1
  | .adt a b => max a.dep b.dep + 1
  | .bool => 1
  | .u8 => 1
  | .nev => 1
  | .par _ => 1
noncomputable def size : Ty → Nat
  | .box a => a.size + 1
  | .arr a => a.size + 1
  | .ref _ a => a.size + 1
  | .tup a b => a.size + b.size + 1
  | .adt a b => a.size + b.size + 1
  | .bool => 1
  | .u8 => 1
  | .nev => 1
  | .par _ => 1
noncomputable def ap (s : Nm → Ty) : Ty → Ty
  | .par x => s x
  | .box a => .box (a.ap s)
  | .arr a => .arr (a.ap s)
  | .ref m a => .ref m (a.ap s)
  | .tup a b => .tup (a.ap s) (b.ap s)
  | .adt a b => .adt (a.ap s) (b.ap s)
  | .bool => .bool
  | .u8 => .u8
  | .nev => .nev
end Ty
open Ty
noncomputable abbrev Sub := Nm → Ty
noncomputable def one (x : Nm) (t : Ty) : Sub := fun y => if y = x then t else .par y
noncomputable def put (T : Ty) (x : Nm) (t : Ty) : Ty := T.ap (one x t)
theorem tup2 {a a' b b' : Ty} (h1 : a = a') (h2 : b = b') : Ty.tup a b = Ty.tup a' b' := by rw [h1, h2]
theorem adt2 {a a' b b' : Ty} (h1 : a = a') (h2 : b = b') : Ty.adt a b = Ty.adt a' b' := by rw [h1, h2]
theorem dep_pos (T : Ty) : 1 ≤ T.dep := by cases T <;> exact Nat.succ_le_succ (Nat.zero_le _)
theorem size_pos (T : Ty) : 1 ≤ T.size := by cases T <;> exact Nat.succ_le_succ (Nat.zero_le _)
theorem memL {x : Nm} {a b : Ty} (h : x ∈ a.vars) : x ∈ a.vars ++ b.vars := List.mem_append_left _ h
theorem memR {x : Nm} {a b : Ty} (h : x ∈ b.vars) : x ∈ a.vars ++ b.vars := List.mem_append_right _ h
theorem ap_congr {s t : Sub} : ∀ T : Ty, (∀ x ∈ T.vars, s x = t x) → T.ap s = T.ap t := by
  intro T h
  induction T with
  | par x => exact h x (.head _)
  | box a ih => exact congrArg Ty.box (ih h)
  | arr a ih => exact congrArg Ty.arr (ih h)
  | ref m a ih => exact congrArg (Ty.ref m) (ih h)
  | tup a b ia ib => exact tup2 (ia fun x hx => h x (memL hx)) (ib fun x hx => h x (memR hx))
  | adt a b ia ib => exact adt2 (ia fun x hx => h x (memL hx)) (ib fun x hx => h x (memR hx))
  | _ => rfl
theorem ap_ap (s t : Sub) (T : Ty) : (T.ap s).ap t = T.ap fun x => (s x).ap t := by
  induction T with
  | box a ih => exact congrArg Ty.box ih
  | arr a ih => exact congrArg Ty.arr ih
  | ref m a ih => exact congrArg (Ty.ref m) ih
  | tup a b ia ib => exact tup2 ia ib
  | adt a b ia ib => exact adt2 ia ib
  | _ => rfl
theorem ap_par (T : Ty) : T.ap .par = T := by
  induction T with
  | box a ih => exact congrArg Ty.box ih
  | arr a ih => exact congrArg Ty.arr ih
  | ref m a ih => exact congrArg (Ty.ref m) ih
  | tup a b ia ib => exact tup2 ia ib
  | adt a b ia ib => exact adt2 ia ib
  | _ => rfl
theorem ap_id {s : Sub} {T : Ty} (h : ∀ x ∈ T.vars, s x = .par x) : T.ap s = T := (ap_congr T h).trans (ap_par T)
theorem ap_fix {s : Sub} {T : Ty} (h : T.ap s = T) : ∀ x ∈ T.vars, s x = .par x := by
  intro x hx
  induction T with
  | par y => cases List.mem_singleton.mp hx; exact h
  | box a ih => exact ih (Ty.box.inj h) hx
  | arr a ih => exact ih (Ty.arr.inj h) hx
  | ref m a ih => exact ih (Ty.ref.inj h).2 hx
  | tup a b ia ib => exact (List.mem_append.mp hx).elim (ia (Ty.tup.inj h).1) (ib (Ty.tup.inj h).2)
  | adt a b ia ib => exact (List.mem_append.mp hx).elim (ia (Ty.adt.inj h).1) (ib (Ty.adt.inj h).2)
  | _ => exact absurd hx List.not_mem_nil
theorem vars_ap {s : Sub} {T : Ty} {y : Nm} (h : y ∈ (T.ap s).vars) : ∃ x ∈ T.vars, y ∈ (s x).vars := by
  have two : ∀ {a b : Ty}, (y ∈ (a.ap s).vars → ∃ x ∈ a.vars, y ∈ (s x).vars) → (y ∈ (b.ap s).vars → ∃ x ∈ b.vars, y ∈ (s x).vars) → y ∈ (a.ap s).vars ++ (b.ap s).vars → ∃ x ∈ a.vars ++ b.vars, y ∈ (s x).vars := fun ia ib h => (List.mem_append.mp h).elim (fun h => (ia h).imp fun x h => ⟨memL h.1, h.2⟩) fun h => (ib h).imp fun x h => ⟨memR h.1, h.2⟩
  induction T with
  | par x => exact ⟨x, .head _, h⟩
  | box a ih => exact ih h
  | arr a ih => exact ih h
  | ref m a ih => exact ih h
  | tup a b ia ib => exact two ia ib h
  | adt a b ia ib => exact two ia ib h
  | _ => exact absurd h List.not_mem_nil
theorem dep_ap {s : Sub} {D : Nat} {T : Ty} (h : ∀ x ∈ T.vars, (s x).dep ≤ D + 1) : (T.ap s).dep ≤ T.dep + D := by
  have up : ∀ {m n : Nat}, m ≤ n + D → m + 1 ≤ n + 1 + D := fun h => Nat.le_trans (Nat.succ_le_succ h) (Nat.le_of_eq (Nat.succ_add _ _).symm)
  have two : ∀ {a b c e : Nat}, a ≤ c + D → b ≤ e + D → max a b ≤ max c e + D := fun h1 h2 => Nat.max_le.mpr ⟨Nat.le_trans h1 (Nat.add_le_add_right (Nat.le_max_left ..) D), Nat.le_trans h2 (Nat.add_le_add_right (Nat.le_max_right ..) D)⟩
  induction T with
  | par x => exact Nat.le_trans (h x (.head _)) (Nat.le_of_eq (Nat.add_comm _ _))
  | box a ih => exact up (ih h)
  | arr a ih => exact up (ih h)
  | ref m a ih => exact up (ih h)
  | tup a b ia ib => exact up (two (ia fun x hx => h x (memL hx)) (ib fun x hx => h x (memR hx)))
  | adt a b ia ib => exact up (two (ia fun x hx => h x (memL hx)) (ib fun x hx => h x (memR hx)))
  | _ => exact Nat.le_add_right 1 D
theorem size_var (s : Sub) {T : Ty} {x : Nm} (h : x ∈ T.vars) : (s x).size ≤ (T.ap s).size ∧ (T.isPar = false → (s x).size < (T.ap s).size) := by
  have up : ∀ {m n : Nat} {p : Prop}, m ≤ n → m ≤ n + 1 ∧ (p → m < n + 1) := fun h => ⟨Nat.le_succ_of_le h, fun _ => Nat.lt_succ_of_le h⟩
  induction T with
  | par y => cases List.mem_singleton.mp h; exact ⟨Nat.le_refl _, fun e => Bool.noConfusion e⟩
  | box a ih => exact up (ih h).1
  | arr a ih => exact up (ih h).1
  | ref m a ih => exact up (ih h).1
  | tup a b ia ib => exact up ((List.mem_append.mp h).elim (fun h => Nat.le_trans (ia h).1 (Nat.le_add_right ..)) fun h => Nat.le_trans (ib h).1 (Nat.le_add_left ..))
  | adt a b ia ib => exact up ((List.mem_append.mp h).elim (fun h => Nat.le_trans (ia h).1 (Nat.le_add_right ..)) fun h => Nat.le_trans (ib h).1 (Nat.le_add_left ..))
  | _ => exact absurd h List.not_mem_nil
noncomputable def mk (h : Hd) (xs : List Ty) : Ty := h.casesOn .bool .u8 .nev .par (.box (xs.headD .bool)) (.arr (xs.headD .bool)) (fun m => .ref m (xs.headD .bool)) (.tup (xs.headD .bool) (xs.tail.headD .bool)) (.adt (xs.headD .bool) (xs.tail.headD .bool))
theorem mk_of (a : Ty) : mk a.hd a.parts = a := by cases a <;> rfl
theorem eq_of_parts {a b : Ty} (h1 : a.hd = b.hd) (h2 : a.parts = b.parts) : a = b := by rw [← mk_of a, h1, h2, mk_of b]
noncomputable def ar (h : Hd) : Nat := h.casesOn 0 0 0 (fun _ => 0) 1 1 (fun _ => 1) 2 2
theorem ar_of (a : Ty) : a.parts.length = ar a.hd := by cases a <;> rfl
theorem parts_len {a b : Ty} (h1 : a.hd = b.hd) : a.parts.length = b.parts.length := by rw [ar_of, h1, ar_of]
theorem hd_ap {s : Sub} {a : Ty} (h : a.isPar = false) : (a.ap s).hd = a.hd := by
  cases a with
  | par x => exact Bool.noConfusion h
  | _ => rfl
theorem parts_ap {s : Sub} {a : Ty} (h : a.isPar = false) : (a.ap s).parts = a.parts.map (·.ap s) := by
  cases a with
  | par x => exact Bool.noConfusion h
  | _ => rfl
theorem of_one {P : Ty → Prop} {a p : Ty} (h : p ∈ [a]) (k : P a) : P p := List.mem_singleton.mp h ▸ k
theorem of_two {P : Ty → Prop} {a b p : Ty} (h : p ∈ [a, b]) (k1 : P a) (k2 : P b) : P p := (List.mem_cons.mp h).elim (fun e => e ▸ k1) fun h => of_one h k2
theorem part_size {a p : Ty} (h : p ∈ a.parts) : p.size < a.size := by
  cases a with
  | box a => exact of_one (P := fun p => p.size < a.size + 1) h (Nat.lt_succ_self _)
  | arr a => exact of_one (P := fun p => p.size < a.size + 1) h (Nat.lt_succ_self _)
  | ref m a => exact of_one (P := fun p => p.size < a.size + 1) h (Nat.lt_succ_self _)
  | tup a b => exact of_two (P := fun p => p.size < a.size + b.size + 1) h (Nat.lt_succ_of_le (Nat.le_add_right ..)) (Nat.lt_succ_of_le (Nat.le_add_left ..))
  | adt a b => exact of_two (P := fun p => p.size < a.size + b.size + 1) h (Nat.lt_succ_of_le (Nat.le_add_right ..)) (Nat.lt_succ_of_le (Nat.le_add_left ..))
  | _ => exact absurd h List.not_mem_nil
theorem part_dep {a p : Ty} (h : p ∈ a.parts) : p.dep < a.dep := by
  cases a with
  | box a => exact of_one (P := fun p => p.dep < a.dep + 1) h (Nat.lt_succ_self _)
  | arr a => exact of_one (P := fun p => p.dep < a.dep + 1) h (Nat.lt_succ_self _)
  | ref m a => exact of_one (P := fun p => p.dep < a.dep + 1) h (Nat.lt_succ_self _)
  | tup a b => exact of_two (P := fun p => p.dep < max a.dep b.dep + 1) h (Nat.lt_succ_of_le (Nat.le_max_left ..)) (Nat.lt_succ_of_le (Nat.le_max_right ..))
  | adt a b => exact of_two (P := fun p => p.dep < max a.dep b.dep + 1) h (Nat.lt_succ_of_le (Nat.le_max_left ..)) (Nat.lt_succ_of_le (Nat.le_max_right ..))
  | _ => exact absurd h List.not_mem_nil
theorem part_vars {a p : Ty} {x : Nm} (h : p ∈ a.parts) (hx : x ∈ p.vars) : x ∈ a.vars := by
  revert hx
  cases a with
  | box a => exact of_one (P := fun p => x ∈ p.vars → x ∈ a.vars) h id
  | arr a => exact of_one (P := fun p => x ∈ p.vars → x ∈ a.vars) h id
  | ref m a => exact of_one (P := fun p => x ∈ p.vars → x ∈ a.vars) h id
  | tup a b => exact of_two (P := fun p => x ∈ p.vars → x ∈ a.vars ++ b.vars) h memL memR
  | adt a b => exact of_two (P := fun p => x ∈ p.vars → x ∈ a.vars ++ b.vars) h memL memR
  | _ => exact absurd h List.not_mem_nil
theorem vars_parts {a : Ty} (h : a.isPar = false) : a.vars = a.parts.flatMap vars := by
  have one : ∀ a : Ty, a.vars = [a].flatMap vars := fun a => (List.append_nil _).symm
  have two : ∀ a b : Ty, a.vars ++ b.vars = [a, b].flatMap vars := fun a b => congrArg (a.vars ++ ·) (one b)
  cases a with
  | par x => exact Bool.noConfusion h
  | box a => exact one a
  | arr a => exact one a
  | ref m a => exact one a
  | tup a b => exact two a b
  | adt a b => exact two a b
  | _ => rfl
theorem parts_size {a : Ty} : (a.parts.map size).sum < a.size := by
  have two : ∀ a b : Ty, ([a, b].map size).sum < a.size + b.size + 1 := fun a b => Nat.lt_succ_self _
  cases a with
  | tup a b => exact two a b
  | adt a b => exact two a b
  | _ => exact Nat.lt_succ_self _
theorem parts_le (a : Ty) : a.parts.length ≤ 2 := by cases a <;> exact Nat.le_of_ble_eq_true rfl
noncomputable abbrev Eqs := List (Ty × Ty)
noncomputable def Unif (s : Sub) (E : Eqs) : Prop := ∀ p ∈ E, p.1.ap s = p.2.ap s
theorem zip_ap {s : Sub} : ∀ {xs ys : List Ty}, xs.length = ys.length → (xs.map (·.ap s) = ys.map (·.ap s) ↔ Unif s (xs.zip ys)) := by
  intro xs
  induction xs with
  | nil => intro ys h; cases ys <;> simp_all [Unif]
  | cons x xs ih =>
    intro ys h
    cases ys with
    | nil => simp at h
    | cons y ys =>
      have := ih (ys := ys) (by simpa using h)
      simp only [List.map_cons, List.cons.injEq, this, Unif, List.zip_cons_cons, List.mem_cons, forall_eq_or_imp]
theorem unif_hd {s : Sub} {a b : Ty} (ha : a.isPar = false) (hb : b.isPar = false) : a.ap s = b.ap s ↔ (a.hd = b.hd ∧ Unif s (a.parts.zip b.parts)) := by
  constructor
  · intro h
    have h1 : a.hd = b.hd := by rw [← hd_ap (s := s) ha, ← hd_ap (s := s) hb, h]
    refine ⟨h1, (zip_ap (parts_len h1)).mp ?_⟩
    rw [← parts_ap ha, ← parts_ap hb, h]
  · rintro ⟨h1, h2⟩
    refine eq_of_parts (by rw [hd_ap ha, hd_ap hb, h1]) ?_
    rw [parts_ap ha, parts_ap hb]
    exact (zip_ap (parts_len h1)).mpr h2
theorem put_id {T : Ty} {x : Nm} {t : Ty} (h : x ∉ T.vars) : put T x t = T := ap_id fun y hy => by
  have : y ≠ x := fun e => h (e ▸ hy)
  simp [one, this]
theorem put_nev {T : Ty} {x : Nm} : put T x .nev = T ↔ x ∉ T.vars := by
  constructor
  · intro h hx
    have := ap_fix h x hx
    simp [one] at this
  · exact put_id
theorem put_vars {T : Ty} {x y : Nm} {t : Ty} (h : y ∈ (put T x t).vars) : (y ∈ T.vars ∧ y ≠ x) ∨ y ∈ t.vars := by
  obtain ⟨z, h1, h2⟩ := vars_ap h
  by_cases e : z = x
  · subst e; simp [one] at h2; exact .inr h2
  · simp [one, e, vars] at h2; subst h2; exact .inl ⟨h1, e⟩
theorem put_ap {θ : Sub} {x : Nm} {t : Ty} (h : θ x = t.ap θ) (T : Ty) : (put T x t).ap θ = T.ap θ := by
  unfold put
  rw [ap_ap]
  refine ap_congr _ fun y _ => ?_
  by_cases e : y = x
  · subst e; simp [one, h]
  · simp [one, e, ap]
theorem put_dep {T : Ty} {x : Nm} {t : Ty} {D : Nat} (h : t.dep ≤ D + 1) : (put T x t).dep ≤ T.dep + D := dep_ap fun y _ => by
  by_cases e : y = x
  · simp [one, e, h]
  · simp [one, e, dep]
end Mine
end
section
namespace Mine
open Ty
noncomputable abbrev Puts := List (Nm × Ty)
noncomputable def Sat (s : Sub) (F : Puts) : Prop := ∀ p ∈ F, s p.1 = p.2.ap s
noncomputable def putE (E : Eqs) (x : Nm) (t : Ty) : Eqs := E.map fun p => (put p.1 x t, put p.2 x t)
noncomputable def putP (P : Puts) (x : Nm) (t : Ty) : Puts := P.map fun p => (p.1, put p.2 x t)
noncomputable def rturn (a b : Ty) (r : Eqs) (P : Puts) : Option (Eqs × Puts) :=
  let p := if b.isPar then (b, a) else (a, b)
  match p.1 with
  | .par x => if p.1 ≠ p.2 then (if put p.2 x .nev ≠ p.2 then none else some (putE r x p.2, putP P x p.2 ++ [(x, p.2)])) else some (r, P)
  | _ => if p.1 ≠ p.2 then (if p.1.hd ≠ p.2.hd then none else some (p.1.parts.zip p.2.parts ++ r, P)) else some (r, P)
structure Bd (V : List Nm) (E : Eqs) (P : Puts) : Prop where
  len : E.length ≤ 100
  lenP : P.length ≤ 4
  dE : ∀ p ∈ E, p.1.dep ≤ 48 ∧ p.2.dep ≤ 48
  dP : ∀ p ∈ P, p.2.dep ≤ 48
  vE : ∀ p ∈ E, (∀ x ∈ p.1.vars, x ∈ V) ∧ ∀ x ∈ p.2.vars, x ∈ V
  vP : ∀ p ∈ P, p.1 ∈ V ∧ ∀ x ∈ p.2.vars, x ∈ V
inductive RRun (V : List Nm) (R : Option Puts → Prop) : Nat → Eqs → Puts → Prop
  | done {P : Puts} : Bd V [] P → R (some P) → RRun V R 0 [] P
  | stop {a b : Ty} {r : Eqs} {P : Puts} : Bd V ((a, b) :: r) P → rturn a b r P = none → R none → RRun V R 1 ((a, b) :: r) P
  | step {n : Nat} {a b : Ty} {r E : Eqs} {P P' : Puts} : Bd V ((a, b) :: r) P → rturn a b r P = some (E, P') → RRun V R n E P' → RRun V R (n + 1) ((a, b) :: r) P
noncomputable def SB (N : Nat) : Eqs → Prop
  | [] => True
  | e :: r => (r.length + e.1.dep ≤ N ∧ r.length + e.2.dep ≤ N) ∧ SB N r
theorem SB.mono {N M : Nat} (h : N ≤ M) : ∀ {E : Eqs}, SB N E → SB M E
  | [], _ => trivial
  | e :: r, ⟨q, p⟩ => ⟨⟨by omega, by omega⟩, p.mono h⟩
theorem SB.len {N : Nat} : ∀ {E : Eqs}, SB N E → E.length ≤ N
  | [], _ => Nat.zero_le _
  | e :: r, ⟨q, p⟩ => by
    have := dep_pos e.1
    simp only [List.length_cons]; omega
theorem SB.putE {N D : Nat} {x : Nm} {t : Ty} (ht : t.dep ≤ D + 1) : ∀ {E : Eqs}, SB N E → SB (N + D) (putE E x t)
  | [], _ => trivial
  | e :: r, ⟨q, p⟩ => by
    have h1 := put_dep (T := e.1) (x := x) ht
    have h2 := put_dep (T := e.2) (x := x) ht
    refine ⟨⟨?_, ?_⟩, p.putE ht⟩ <;> simp only [List.length_map] <;> omega
theorem SB.zips {N : Nat} {r : Eqs} (hr : SB N r) {xs ys : List Ty} (hl : xs.length ≤ 2) (hx : ∀ p ∈ xs, r.length + 1 + p.dep ≤ N) (hy : ∀ p ∈ ys, r.length + 1 + p.dep ≤ N) : SB N (xs.zip ys ++ r) := by
  have lo : ∀ {p : Ty}, r.length + 1 + p.dep ≤ N → r.length + p.dep ≤ N := fun h => Nat.le_trans (Nat.add_le_add_right (Nat.le_succ _) _) h
  cases xs with
  | nil => exact hr
  | cons x xs =>
    cases ys with
    | nil => exact hr
    | cons y ys =>
      cases xs with
      | nil => exact ⟨⟨lo (hx x (.head _)), lo (hy y (.head _))⟩, hr⟩
      | cons x' xs =>
        cases ys with
        | nil => exact ⟨⟨lo (hx x (.head _)), lo (hy y (.head _))⟩, hr⟩
        | cons y' ys =>
          cases xs with
          | nil => exact ⟨⟨hx x (.head _), hy y (.head _)⟩, ⟨lo (hx x' (.tail _ (.head _))), lo (hy y' (.tail _ (.head _)))⟩, hr⟩
          | cons x'' xs => exact absurd hl (fun h => absurd (Nat.le_of_succ_le_succ (Nat.le_of_succ_le_succ h)) (Nat.not_succ_le_zero _))
theorem SB.zip {N : Nat} {r : Eqs} (hr : SB N r) {a b : Ty} (ha : r.length + a.dep ≤ N) (hb : r.length + b.dep ≤ N) : SB N (a.parts.zip b.parts ++ r) := by
  have up : ∀ {p q : Ty}, p.dep < q.dep → r.length + q.dep ≤ N → r.length + 1 + p.dep ≤ N := fun {p q} h k => Nat.le_trans (Nat.le_trans (Nat.le_of_eq (Nat.succ_add_eq_add_succ _ _)) (Nat.add_le_add_left h _)) k
  exact hr.zips (parts_le a) (fun p hp => up (part_dep hp) ha) fun p hp => up (part_dep hp) hb
structure Rob (V L : List Nm) (E : Eqs) (P : Puts) : Prop where
  lv : ∀ x ∈ L, x ∈ V
  nd : L.Nodup
  len : P.length + L.length ≤ 4
  vE : ∀ p ∈ E, (∀ x ∈ p.1.vars, x ∈ L) ∧ ∀ x ∈ p.2.vars, x ∈ L
  vP : ∀ p ∈ P, (p.1 ∈ V ∧ p.1 ∉ L) ∧ ∀ x ∈ p.2.vars, x ∈ L
  nP : (P.map (·.1)).Nodup
  dE : ∀ p ∈ E, p.1.dep ≤ 3 * 2 ^ (4 - L.length) ∧ p.2.dep ≤ 3 * 2 ^ (4 - L.length)
  dP : ∀ p ∈ P, p.2.dep ≤ 3 * 2 ^ (4 - L.length)
  sb : SB (6 * 2 ^ (4 - L.length)) E
theorem pow_le16 (n : Nat) : 2 ^ (4 - n) ≤ 16 := by
  have : 4 - n ≤ 4 := Nat.sub_le _ _
  exact Nat.pow_le_pow_right (by omega) this
theorem Rob.bd {V L : List Nm} {E : Eqs} {P : Puts} (R : Rob V L E P) : Bd V E P := by
  have h := pow_le16 L.length
  refine ⟨?_, by have := R.len; omega, fun p hp => ?_, fun p hp => ?_, fun p hp => ?_, fun p hp => ?_⟩
  · have := R.sb.len; omega
  · have := R.dE p hp; omega
  · have := R.dP p hp; omega
  · exact ⟨fun x hx => R.lv x ((R.vE p hp).1 x hx), fun x hx => R.lv x ((R.vE p hp).2 x hx)⟩
  · exact ⟨(R.vP p hp).1.1, fun x hx => R.lv x ((R.vP p hp).2 x hx)⟩
noncomputable def esz (E : Eqs) : Nat := (E.map fun p => p.1.size + p.2.size).sum
theorem esz_le : ∀ {xs ys : List Ty}, esz (xs.zip ys) ≤ (xs.map size).sum + (ys.map size).sum := by
  intro xs
  induction xs with
  | nil => intro ys; exact Nat.zero_le _
  | cons x xs ih =>
    intro ys
    cases ys with
    | nil => exact Nat.zero_le _
    | cons y ys =>
      exact Nat.le_trans (Nat.add_le_add_left (ih (ys := ys)) (x.size + y.size)) (Nat.le_of_eq (Nat.add_add_add_comm _ _ _ _))
theorem esz_zip {a b : Ty} : esz (a.parts.zip b.parts) < a.size + b.size := Nat.lt_of_le_of_lt esz_le (Nat.add_lt_add parts_size parts_size)
theorem unif_swap {s : Sub} {a b : Ty} {r : Eqs} : Unif s ((a, b) :: r) ↔ Unif s ((b, a) :: r) := by
  simp only [Unif, List.mem_cons, forall_eq_or_imp]
  constructor <;> rintro ⟨h, q⟩ <;> exact ⟨h.symm, q⟩
theorem unif_cons {s : Sub} {a b : Ty} {r : Eqs} : Unif s ((a, b) :: r) ↔ a.ap s = b.ap s ∧ Unif s r := by
  simp only [Unif, List.mem_cons, forall_eq_or_imp]
theorem unif_app {s : Sub} {E F : Eqs} : Unif s (E ++ F) ↔ Unif s E ∧ Unif s F := by
  simp only [Unif, List.mem_append, or_imp, forall_and]
theorem Rob.swap {V L : List Nm} {a b : Ty} {r : Eqs} {P : Puts} (R : Rob V L ((a, b) :: r) P) : Rob V L ((b, a) :: r) P := by
  refine ⟨R.lv, R.nd, R.len, ?_, R.vP, R.nP, ?_, R.dP, ⟨R.sb.1.symm, R.sb.2⟩⟩
  · have := R.vE
    simp only [List.mem_cons, forall_eq_or_imp] at this ⊢
    exact ⟨this.1.symm, this.2⟩
  · have := R.dE
    simp only [List.mem_cons, forall_eq_or_imp] at this ⊢
    exact ⟨this.1.symm, this.2⟩
theorem Rob.rest {V L : List Nm} {e : Ty × Ty} {r : Eqs} {P : Puts} (R : Rob V L (e :: r) P) : Rob V L r P :=
  ⟨R.lv, R.nd, R.len, fun p hp => R.vE p (.tail _ hp), R.vP, R.nP, fun p hp => R.dE p (.tail _ hp), R.dP, R.sb.2⟩
theorem Rob.zip {V L : List Nm} {a b : Ty} {r : Eqs} {P : Puts} (R : Rob V L ((a, b) :: r) P) (h : a.hd = b.hd) : Rob V L (a.parts.zip b.parts ++ r) P := by
  have e1 := R.vE (a, b) (.head _)
  have e2 := R.dE (a, b) (.head _)
  refine ⟨R.lv, R.nd, R.len, fun p hp => ?_, R.vP, R.nP, fun p hp => ?_, R.dP, R.sb.2.zip R.sb.1.1 R.sb.1.2⟩
  · rcases List.mem_append.mp hp with hp | hp
    · obtain ⟨h1, h2⟩ := List.of_mem_zip (a := p.1) (b := p.2) hp
      exact ⟨fun x hx => e1.1 x (part_vars h1 hx), fun x hx => e1.2 x (part_vars h2 hx)⟩
    · exact R.vE p (.tail _ hp)
  · rcases List.mem_append.mp hp with hp | hp
    · obtain ⟨h1, h2⟩ := List.of_mem_zip (a := p.1) (b := p.2) hp
      have := part_dep h1
      have := part_dep h2
      have := e2.1
      have := e2.2
      simp only at *
      omega
    · exact R.dE p (.tail _ hp)
theorem six {k a b D : Nat} (h1 : a ≤ 3 * k) (h2 : D + 1 ≤ 3 * k) (h : b ≤ a + D) : b ≤ 3 * (k * 2) := by omega
theorem twelve {k D : Nat} (h : D + 1 ≤ 3 * k) : 6 * k + D ≤ 6 * (k * 2) := by omega
theorem less_one {l : Nat} (hp : 0 < l) (h : l ≤ 4) : 4 - (l - 1) = 4 - l + 1 := by omega
theorem one_more {p l : Nat} (hp : 0 < l) (h : p + l ≤ 4) : p + 1 + (l - 1) ≤ 4 := by omega
theorem Rob.put {V L : List Nm} {x : Nm} {t : Ty} {r : Eqs} {P : Puts} (R : Rob V L ((.par x, t) :: r) P) (h : x ∉ t.vars) :
    Rob V (L.erase x) (putE r x t) (putP P x t ++ [(x, t)]) := by
  have hx : x ∈ L := (R.vE (.par x, t) (.head _)).1 x (.head _)
  have ht : ∀ y ∈ t.vars, y ∈ L.erase x := fun y hy => (List.mem_erase_of_ne fun e => h (by rw [← e]; exact hy)).mpr ((R.vE (.par x, t) (.head _)).2 y hy)
  have hnx : ∀ y, y ∈ L.erase x ↔ y ≠ x ∧ y ∈ L := fun y => R.nd.mem_erase_iff
  have hl : (L.erase x).length = L.length - 1 := List.length_erase_of_mem hx
  have hp := List.length_pos_of_mem hx
  have hL := R.len
  have hd := (R.dE (.par x, t) (.head _)).2
  have hpv : ∀ T : Ty, (∀ y ∈ T.vars, y ∈ L) → ∀ y ∈ (Mine.put T x t).vars, y ∈ L.erase x := fun T hT y hy => by
    rcases put_vars hy with ⟨h1, h2⟩ | h1
    · exact (hnx y).mpr ⟨h2, hT y h1⟩
    · exact ht y h1
  have e5 : ∀ m, m * 2 ^ (4 - (L.erase x).length) = m * (2 ^ (4 - L.length) * 2) := fun m => by rw [hl, less_one hp (Nat.le_trans (Nat.le_add_left ..) hL), Nat.pow_succ]
  obtain ⟨D, hD'⟩ : ∃ D, t.dep = D + 1 := ⟨t.dep - 1, (Nat.succ_pred_eq_of_pos (dep_pos t)).symm⟩
  have hd' : D + 1 ≤ 3 * 2 ^ (4 - L.length) := hD' ▸ hd
  have hpd : ∀ T : Ty, T.dep ≤ 3 * 2 ^ (4 - L.length) → (Mine.put T x t).dep ≤ 3 * 2 ^ (4 - (L.erase x).length) := fun T hT => (e5 3).symm ▸ six hT hd' (put_dep (Nat.le_of_eq hD'))
  refine ⟨fun y hy => R.lv y ((hnx y).mp hy).2, R.nd.erase x, ?_, fun p hp => ?_, fun p hp => ?_, ?_, fun p hp => ?_, fun p hp => ?_, ?_⟩
  · rw [putP, List.length_append, List.length_map, hl]
    exact one_more hp hL
  · obtain ⟨q, hq, rfl⟩ := List.mem_map.mp hp
    have := R.vE q (.tail _ hq)
    exact ⟨hpv _ this.1, hpv _ this.2⟩
  · rcases List.mem_append.mp hp with hp | hp
    · obtain ⟨q, hq, rfl⟩ := List.mem_map.mp hp
      have := R.vP q hq
      exact ⟨⟨this.1.1, fun hh => this.1.2 ((hnx _).mp hh).2⟩, hpv _ this.2⟩
    · rw [List.mem_singleton] at hp
      subst hp
      exact ⟨⟨R.lv x hx, fun hh => ((hnx _).mp hh).1 rfl⟩, ht⟩
  · simp only [putP, List.map_append, List.map_map, List.map_cons, List.map_nil]
    refine List.nodup_append.mpr ⟨?_, by simp, ?_⟩
    · exact R.nP
    · intro a ha b hb
      simp at hb
      subst hb
      obtain ⟨q, hq, rfl⟩ := List.mem_map.mp ha
      intro e
      exact (R.vP q hq).1.2 (by simp at e; rw [e]; exact hx)
  · obtain ⟨q, hq, rfl⟩ := List.mem_map.mp hp
    have := R.dE q (.tail _ hq)
    exact ⟨hpd _ this.1, hpd _ this.2⟩
  · rcases List.mem_append.mp hp with hp | hp
    · obtain ⟨q, hq, rfl⟩ := List.mem_map.mp hp
      exact hpd _ (R.dP q hq)
    · rw [List.mem_singleton] at hp
      subst hp
      exact (e5 3).symm ▸ Nat.le_trans hd (Nat.mul_le_mul_left 3 (Nat.le_mul_of_pos_right _ (Nat.succ_pos 1)))
  · exact (R.sb.2.putE (x := x) (t := t) (D := D) (Nat.le_of_eq hD')).mono ((e5 6).symm ▸ twelve hd')
end Mine
end
section
namespace Mine
open Ty
theorem sat_app {s : Sub} {P Q : Puts} : Sat s (P ++ Q) ↔ Sat s P ∧ Sat s Q := by
  simp only [Sat, List.mem_append, or_imp, forall_and]
theorem sat_one {s : Sub} {x : Nm} {t : Ty} : Sat s [(x, t)] ↔ s x = t.ap s := by
  simp [Sat]
theorem sat_put {θ : Sub} {x : Nm} {t : Ty} (h : θ x = t.ap θ) (P : Puts) : Sat θ (putP P x t) ↔ Sat θ P := by
  simp only [Sat, putP, List.mem_map, forall_exists_index, and_imp, forall_apply_eq_imp_iff₂, put_ap h]
theorem unif_put {θ : Sub} {x : Nm} {t : Ty} (h : θ x = t.ap θ) (E : Eqs) : Unif θ (putE E x t) ↔ Unif θ E := by
  simp only [Unif, putE, List.mem_map, forall_exists_index, and_imp, forall_apply_eq_imp_iff₂, put_ap h]
theorem rturn_np {a b p q : Ty} {r : Eqs} {P : Puts} (e : (if b.isPar then (b, a) else (a, b)) = (p, q)) (hp : p.isPar = false) :
    rturn a b r P = if p ≠ q then (if p.hd ≠ q.hd then none else some (p.parts.zip q.parts ++ r, P)) else some (r, P) := by
  unfold rturn
  rw [e]
  cases p <;> first | rfl | cases hp
theorem rturn_p {a b q : Ty} {x : Nm} {r : Eqs} {P : Puts} (e : (if b.isPar then (b, a) else (a, b)) = (.par x, q)) :
    rturn a b r P = if Ty.par x ≠ q then (if put q x .nev ≠ q then none else some (putE r x q, putP P x q ++ [(x, q)])) else some (r, P) := by
  unfold rturn
  rw [e]
theorem rob_run {V : List Nm} (R : Option Puts → Prop) : ∀ (k m : Nat) (L : List Nm) (E : Eqs) (P : Puts), L.length = k → esz E = m → Rob V L E P →
    ((∀ θ, ¬ (Sat θ P ∧ Unif θ E)) → R none) →
    (∀ L' P', Rob V L' [] P' → (∀ θ, (Sat θ P ∧ Unif θ E) ↔ Sat θ P') → R (some P')) → ∃ n, RRun V R n E P := by
  intro k
  induction k using Nat.strongRecOn with
  | ind k ik =>
  intro m
  induction m using Nat.strongRecOn with
  | ind m im =>
  intro L E P hk hm B hn hs
  match E, hm, B, hn, hs with
  | [], hm, B, hn, hs => exact ⟨0, .done B.bd (hs L P B fun θ => ⟨fun h => h.1, fun h => ⟨h, fun p hp => nomatch hp⟩⟩)⟩
  | (a, b) :: r, hm, B, hn, hs =>
    have hsz : esz ((a, b) :: r) = a.size + b.size + esz r := by simp [esz]
    have pa := size_pos a
    have pb := size_pos b
    have go : ∀ p q : Ty, (if b.isPar then (b, a) else (a, b)) = (p, q) → (p.isPar = false → q.isPar = false) → Rob V L ((p, q) :: r) P → (∀ θ, Unif θ ((a, b) :: r) ↔ Unif θ ((p, q) :: r)) → p.size + q.size = a.size + b.size →
        ∃ n, RRun V R n ((a, b) :: r) P := by
      intro p q e hq Bp hu hpq
      have same : p = q → rturn a b r P = some (r, P) → ∃ n, RRun V R n ((a, b) :: r) P := by
        intro e1 e2
        obtain ⟨n, hrun⟩ := im (esz r) (by omega) L r P hk rfl B.rest
          (fun h => hn fun θ hθ => h θ ⟨hθ.1, ((hu θ).mp hθ.2) |> unif_cons.mp |>.2⟩)
          (fun L' P' B' h => hs L' P' B' fun θ => by rw [← h θ, hu θ, unif_cons, e1]; simp)
        exact ⟨n + 1, .step B.bd e2 hrun⟩
      by_cases hp : p.isPar = true
      · obtain ⟨x, rfl⟩ := par_of (T := p) (by assumption)
        by_cases hne : Ty.par x = q
        · exact same hne (by rw [rturn_p e, if_neg (fun h => h hne)])
        · have hv : put q x .nev = q ↔ x ∉ q.vars := put_nev
          by_cases hx : x ∈ q.vars
          · have e2 : rturn a b r P = none := by
              rw [rturn_p e, if_pos hne, if_pos fun h => (hv.mp h) hx]
            refine ⟨1, .stop B.bd e2 (hn fun θ hθ => ?_)⟩
            have h1 := (unif_cons.mp ((hu θ).mp hθ.2)).1
            have h2 := size_var θ hx
            have h3 : q.isPar = false := by
              cases q <;> first | rfl | skip
              simp [vars] at hx; exact absurd (by rw [hx]) hne
            have h4 := h2.2 h3
            simp only [ap] at h1
            rw [h1] at h4
            omega
          · have e2 : rturn a b r P = some (putE r x q, putP P x q ++ [(x, q)]) := by
              rw [rturn_p e, if_pos hne, if_neg fun h => h (hv.mpr hx)]
            have hin : x ∈ L := (Bp.vE (.par x, q) (.head _)).1 x (.head _)
            have B2 := Bp.put hx
            have key : ∀ θ, (Sat θ (putP P x q ++ [(x, q)]) ∧ Unif θ (putE r x q)) ↔ Sat θ P ∧ Unif θ ((a, b) :: r) := by
              intro θ
              rw [hu θ, unif_cons, sat_app, sat_one]
              simp only [ap]
              constructor
              · rintro ⟨⟨h1, h2⟩, h3⟩
                exact ⟨(sat_put h2 P).mp h1, h2, (unif_put h2 r).mp h3⟩
              · rintro ⟨h1, h2, h3⟩
                exact ⟨⟨(sat_put h2 P).mpr h1, h2⟩, (unif_put h2 r).mpr h3⟩
            have hlen := List.length_erase_of_mem hin
            have hpos := List.length_pos_of_mem hin
            obtain ⟨n, hrun⟩ := ik (L.erase x).length (by omega) _ (L.erase x) _ _ rfl rfl B2
              (fun h => hn fun θ hθ => h θ ((key θ).mpr hθ))
              (fun L' P' B' h => hs L' P' B' fun θ => by rw [← h θ, key θ])
            exact ⟨n + 1, .step B.bd e2 hrun⟩
      · have hp' : p.isPar = false := by simpa using hp
        have hq' := hq hp'
        by_cases hne : p = q
        · exact same hne (by rw [rturn_np e hp', if_neg (fun h => h hne)])
        · by_cases hh : p.hd = q.hd
          · have e2 : rturn a b r P = some (p.parts.zip q.parts ++ r, P) := by
              rw [rturn_np e hp', if_pos hne, if_neg (fun h => h hh)]
            obtain ⟨n, hrun⟩ := im (esz (p.parts.zip q.parts ++ r)) (by
                have := esz_zip (a := p) (b := q)
                simp only [esz, List.map_append, List.sum_append] at this ⊢
                simp only [esz] at hsz hm
                omega) L _ P hk rfl (Bp.zip hh)
              (fun h => hn fun θ hθ => h θ ⟨hθ.1, by
                rw [hu θ, unif_cons, unif_hd hp' hq'] at hθ
                rw [unif_app]; exact ⟨hθ.2.1.2, hθ.2.2⟩⟩)
              (fun L' P' B' h => hs L' P' B' fun θ => by
                rw [← h θ, hu θ, unif_cons, unif_hd hp' hq', unif_app]
                simp [hh])
            exact ⟨n + 1, .step B.bd e2 hrun⟩
          · have e2 : rturn a b r P = none := by
              rw [rturn_np e hp', if_pos hne, if_pos hh]
            refine ⟨1, .stop B.bd e2 (hn fun θ hθ => ?_)⟩
            rw [hu θ, unif_cons, unif_hd hp' hq'] at hθ
            exact hh hθ.2.1.1
    by_cases hb : b.isPar = true
    · exact go b a (by simp [hb]) (fun h => by simp [hb] at h) B.swap (fun θ => unif_swap) (Nat.add_comm _ _)
    · exact go a b (by simp [hb]) (fun _ => by simpa using hb) B (fun θ => Iff.rfl) rfl
noncomputable def plug (P : Puts) (T : Ty) : Ty := P.foldl (fun T p => put T p.1 p.2) T
noncomputable def tau (P : Puts) : Sub := fun x => plug P (.par x)
theorem plug_ap : ∀ (P : Puts) (T : Ty), plug P T = T.ap (tau P)
  | [], T => (ap_par T).symm
  | p :: P, T => by
    show plug P (put T p.1 p.2) = _
    rw [plug_ap P, put, ap_ap]
    refine ap_congr _ fun x _ => ?_
    rw [← plug_ap P]; rfl
theorem plug_sat {θ : Sub} : ∀ {P : Puts}, Sat θ P → ∀ T, (plug P T).ap θ = T.ap θ
  | [], _, T => rfl
  | p :: P, h, T => by
    show (plug P (put T p.1 p.2)).ap θ = _
    rw [plug_sat (fun q hq => h q (.tail _ hq)), put_ap (h p (.head _))]
theorem plug_vars {V : List Nm} : ∀ {P : Puts}, (∀ p ∈ P, ∀ x ∈ p.2.vars, x ∈ V) → ∀ {T : Ty}, (∀ x ∈ T.vars, x ∈ V) → ∀ x ∈ (plug P T).vars, x ∈ V
  | [], _, T, hT => hT
  | p :: P, h, T, hT => plug_vars (P := P) (fun q hq => h q (.tail _ hq)) (T := put T p.1 p.2) fun x hx => (put_vars hx).elim (fun k => hT x k.1) (h p (.head _) x)
theorem plug_id {P : Puts} {T : Ty} (h : ∀ p ∈ P, p.1 ∉ T.vars) : plug P T = T := by
  induction P with
  | nil => rfl
  | cons p P ih =>
    show plug P (put T p.1 p.2) = T
    rw [put_id (h p (.head _))]
    exact ih fun q hq => h q (.tail _ hq)
theorem tau_in : ∀ {P : Puts}, (P.map (·.1)).Nodup → (∀ p ∈ P, ∀ q ∈ P, q.1 ∉ p.2.vars) → ∀ p ∈ P, tau P p.1 = p.2
  | [], _, _, p, hp => nomatch hp
  | q :: P, hn, h, p, hp => by
    show plug P (put (.par p.1) q.1 q.2) = p.2
    simp only [List.map_cons, List.nodup_cons] at hn
    by_cases e : p.1 = q.1
    · have : p = q := by
        rcases List.mem_cons.mp hp with hp | hp
        · exact hp
        · exact absurd (List.mem_map.mpr ⟨p, hp, e⟩) hn.1
      subst this
      show plug P (if p.1 = p.1 then p.2 else .par p.1) = p.2
      rw [if_pos rfl]
      exact plug_id fun q hq => h p hp q (.tail _ hq)
    · have hp' : p ∈ P := by
        rcases List.mem_cons.mp hp with hp | hp
        · exact absurd (by rw [hp]) e
        · exact hp
      show plug P (if p.1 = q.1 then q.2 else .par p.1) = p.2
      rw [if_neg e]
      exact tau_in hn.2 (fun p hp q hq => h p (.tail _ hp) q (.tail _ hq)) p hp'
theorem tau_sat {V L : List Nm} {P : Puts} (B : Rob V L [] P) : Sat (tau P) P := fun p hp => by
  have hc : ∀ p ∈ P, ∀ q ∈ P, q.1 ∉ p.2.vars := fun p hp q hq hh => (B.vP q hq).1.2 ((B.vP p hp).2 _ hh)
  rw [tau_in B.nP hc p hp, ← plug_ap, plug_id fun q hq => hc p hp q hq]
end Mine
end
section
namespace Mine
open Ty
inductive Rch (F : Puts) (T : Ty) : Nm → Prop
  | here {x : Nm} : x ∈ T.vars → Rch F T x
  | next {x y : Nm} {t : Ty} : Rch F T y → (y, t) ∈ F → x ∈ t.vars → Rch F T x
theorem Rch.mono {F : Puts} {S T : Ty} (h : ∀ x ∈ S.vars, Rch F T x) : ∀ {x : Nm}, Rch F S x → Rch F T x
  | _, .here a => h _ a
  | _, .next a b c => .next (Rch.mono h a) b c
theorem size_dep : ∀ T : Ty, T.size + 1 ≤ 2 ^ T.dep := by
  intro T
  induction T with
  | box a ih => simp only [size, dep, Nat.pow_succ]; omega
  | arr a ih => simp only [size, dep, Nat.pow_succ]; omega
  | ref m a ih => simp only [size, dep, Nat.pow_succ]; omega
  | tup a b ia ib =>
    have h1 : 2 ^ a.dep ≤ 2 ^ max a.dep b.dep := Nat.pow_le_pow_right (by omega) (by omega)
    have h2 : 2 ^ b.dep ≤ 2 ^ max a.dep b.dep := Nat.pow_le_pow_right (by omega) (by omega)
    simp only [size, dep, Nat.pow_succ]; omega
  | adt a b ia ib =>
    have h1 : 2 ^ a.dep ≤ 2 ^ max a.dep b.dep := Nat.pow_le_pow_right (by omega) (by omega)
    have h2 : 2 ^ b.dep ≤ 2 ^ max a.dep b.dep := Nat.pow_le_pow_right (by omega) (by omega)
    simp only [size, dep, Nat.pow_succ]; omega
  | _ => simp [size, dep]
theorem size_le7 {T : Ty} (h : T.dep ≤ 3) : T.size ≤ 7 := by
  have := size_dep T
  have : 2 ^ T.dep ≤ 2 ^ 3 := Nat.pow_le_pow_right (by omega) h
  omega
structure HB (left : List Ty) (gone : List Nm) : Prop where
  len : left.length ≤ 200
  nd : gone.Nodup
  dL : ∀ T ∈ left, T.dep ≤ 3
inductive HRun (F : Puts) (name : Nm) (b : Bool) : Nat → List Ty → List Nm → Prop
  | none {g : List Nm} : HB [] g → b = false → HRun F name b 0 [] g
  | found {r : List Ty} {g : List Nm} : HB (.par name :: r) g → b = true → HRun F name b 1 (.par name :: r) g
  | part {n : Nat} {T : Ty} {r : List Ty} {g : List Nm} : HB (T :: r) g → T.isPar = false → HRun F name b n (T.parts.reverse ++ r) g → HRun F name b (n + 1) (T :: r) g
  | go {n : Nat} {x : Nm} {t : Ty} {r : List Ty} {g : List Nm} : HB (.par x :: r) g → x ≠ name → F.lookup x = some t → x ∉ g → HRun F name b n (t :: r) (g ++ [x]) → HRun F name b (n + 1) (.par x :: r) g
  | skip {n : Nat} {x : Nm} {r : List Ty} {g : List Nm} : HB (.par x :: r) g → x ≠ name → (F.lookup x = Option.none ∨ x ∈ g) → HRun F name b n r g → HRun F name b (n + 1) (.par x :: r) g
noncomputable def lsz (l : List Ty) : Nat := (l.map size).sum
theorem lsz_cons {t : Ty} {l : List Ty} : lsz (t :: l) = t.size + lsz l := by simp [lsz]
theorem lsz_app {l m : List Ty} : lsz (l ++ m) = lsz l + lsz m := by simp [lsz]
theorem lsz_rev {l : List Ty} : lsz l.reverse = lsz l := by simp [lsz]
theorem lsz_len : ∀ l : List Ty, l.length ≤ lsz l
  | [] => Nat.zero_le _
  | t :: l => by have := lsz_len l; have := size_pos t; rw [lsz_cons, List.length_cons]; omega
theorem nodup_len {α : Type} [DecidableEq α] : ∀ {g l : List α}, g.Nodup → (∀ x ∈ g, x ∈ l) → g.length ≤ l.length
  | [], l, _, _ => Nat.zero_le _
  | x :: g, l, hn, h => by
    rw [List.nodup_cons] at hn
    have hx := h x (.head _)
    have := nodup_len (g := g) (l := l.erase x) hn.2 fun y hy => (List.mem_erase_of_ne fun (e : y = x) => hn.1 (by rw [← e]; exact hy)).mpr (h y (.tail _ hy))
    rw [List.length_erase_of_mem hx] at this
    have := List.length_pos_of_mem hx
    rw [List.length_cons]; omega
theorem nm_len {g : List Nm} (h : g.Nodup) : g.length ≤ 15 := by
  have := nodup_len (l := List.finRange 15) h fun x _ => List.mem_finRange x
  simpa using this
theorem mem_of_lookup {F : Puts} {x : Nm} {t : Ty} (h : F.lookup x = some t) : (x, t) ∈ F := by
  induction F with
  | nil => simp at h
  | cons p F ih =>
    obtain ⟨y, u⟩ := p
    by_cases e : x = y
    · subst e; simp at h; subst h; exact .head _
    · rw [List.lookup_cons, beq_false_of_ne e] at h
      exact .tail _ (ih h)
theorem lookupU {F : Puts} (hn : (F.map (·.1)).Nodup) {x : Nm} {t : Ty} (h : (x, t) ∈ F) : F.lookup x = some t := by
  induction F with
  | nil => exact nomatch h
  | cons p F ih =>
    obtain ⟨y, u⟩ := p
    simp only [List.map_cons, List.nodup_cons] at hn
    rcases List.mem_cons.mp h with h | h
    · injection h with h1 h2; subst h1; subst h2; simp
    · have e : x ≠ y := fun e => hn.1 (e ▸ List.mem_map.mpr ⟨_, h, rfl⟩)
      rw [List.lookup_cons, beq_false_of_ne e]
      exact ih hn.2 h
theorem holds_run {F : Puts} (hn : (F.map (·.1)).Nodup) (dF : ∀ p ∈ F, p.2.dep ≤ 3) {T0 : Ty} {name : Nm} : ∀ (m : Nat) (left : List Ty) (gone : List Nm), (15 - gone.length) * 8 + lsz left ≤ m → HB left gone → m ≤ 150 →
    (∀ T ∈ left, ∀ x ∈ T.vars, Rch F T0 x) →
    (∀ v, (v ∈ T0.vars ∨ ∃ g ∈ gone, ∃ t, (g, t) ∈ F ∧ v ∈ t.vars) → (∃ T ∈ left, v ∈ T.vars) ∨ (v ≠ name ∧ (v ∈ gone ∨ F.lookup v = none))) →
    ∃ b n, HRun F name b n left gone ∧ (b = true ↔ Rch F T0 name) := by
  have nilc : ∀ gone : List Nm, HB [] gone → (∀ v, (v ∈ T0.vars ∨ ∃ g ∈ gone, ∃ t, (g, t) ∈ F ∧ v ∈ t.vars) → (∃ T ∈ ([] : List Ty), v ∈ T.vars) ∨ (v ≠ name ∧ (v ∈ gone ∨ F.lookup v = none))) →
      ∃ b n, HRun F name b n [] gone ∧ (b = true ↔ Rch F T0 name) := by
    intro gone B hc
    refine ⟨false, 0, .none B rfl, by simp, fun h => absurd h ?_⟩
    have key : ∀ v, Rch F T0 v → v ≠ name ∧ (v ∈ gone ∨ F.lookup v = none) := by
      intro v h
      induction h with
      | here h => rcases hc _ (.inl h) with ⟨T, hT, _⟩ | h; exact nomatch hT; exact h
      | next h1 h2 h3 ih =>
        rcases ih.2 with h4 | h4
        · rcases hc _ (.inr ⟨_, h4, _, h2, h3⟩) with ⟨T, hT, _⟩ | h; exact nomatch hT; exact h
        · rw [lookupU hn h2] at h4; exact nomatch h4
    exact fun h => (key _ h).1 rfl
  intro m
  induction m with
  | zero =>
    intro left gone hm B h150 hs hc
    match left, hm, B, hs, hc with
    | [], hm, B, hs, hc => exact nilc gone B hc
    | t :: r, hm, _, _, _ => have := size_pos t; rw [lsz_cons] at hm; omega
  | succ m im =>
    intro left gone hm B h150 hs hc
    match left, hm, B, hs, hc with
    | [], hm, B, hs, hc => exact nilc gone B hc
    | t :: r, hm, B, hs, hc =>
      rw [lsz_cons] at hm
      have hlr := lsz_len r
      have mk : ∀ {l : List Ty} {g : List Nm}, (15 - g.length) * 8 + lsz l ≤ m → g.Nodup → (∀ T ∈ l, T.dep ≤ 3) → HB l g := fun h h1 h2 => ⟨by have := lsz_len ‹_›; omega, h1, h2⟩
      by_cases hp : t.isPar = true
      · obtain ⟨x, rfl⟩ := par_of (T := t) (by assumption)
        by_cases e : x = name
        · subst e
          exact ⟨true, 1, .found B rfl, ⟨fun _ => hs _ (.head _) _ (.head _), fun _ => rfl⟩⟩
        · have skip : (F.lookup x = none ∨ x ∈ gone) → ∃ b n, HRun F name b n (.par x :: r) gone ∧ (b = true ↔ Rch F T0 name) := by
            intro hk
            have hm' : (15 - gone.length) * 8 + lsz r ≤ m := by simp only [size] at hm; omega
            obtain ⟨b, n, h1, h2⟩ := im r gone hm' (mk hm' B.nd fun T hT => B.dL T (.tail _ hT)) (by omega) (fun T hT => hs T (.tail _ hT)) fun v hv => by
              rcases hc v hv with ⟨T, hT, hx⟩ | h
              · rcases List.mem_cons.mp hT with hT | hT
                · subst hT; cases List.mem_singleton.mp hx
                  exact .inr ⟨e, hk.symm⟩
                · exact .inl ⟨T, hT, hx⟩
              · exact .inr h
            exact ⟨b, n + 1, .skip B e hk h1, h2⟩
          cases hl : F.lookup x with
          | none => exact skip (.inl hl)
          | some u =>
            by_cases hg : x ∈ gone
            · exact skip (.inr hg)
            · have hu := mem_of_lookup hl
              have h7 := size_le7 (dF _ hu)
              have hnd : (gone ++ [x]).Nodup := by
                refine List.nodup_append.mpr ⟨B.nd, by simp, fun a ha b hb => ?_⟩
                simp at hb; subst hb; exact fun e => hg (e ▸ ha)
              have h15 := nm_len hnd
              have hm' : (15 - (gone ++ [x]).length) * 8 + lsz (u :: r) ≤ m := by
                simp only [size, List.length_append, List.length_cons, List.length_nil, lsz_cons] at hm h15 h7 ⊢
                omega
              obtain ⟨b, n, h1, h2⟩ := im (u :: r) (gone ++ [x]) hm' (mk hm' hnd fun T hT => by
                  rcases List.mem_cons.mp hT with hT | hT
                  · subst hT; exact dF _ hu
                  · exact B.dL T (.tail _ hT)) (by omega) (fun T hT => by
                  rcases List.mem_cons.mp hT with hT | hT
                  · subst hT; exact fun y hy => .next (hs _ (.head _) x (.head _)) hu hy
                  · exact hs T (.tail _ hT)) fun v hv => by
                have old : ((∃ T ∈ Ty.par x :: r, v ∈ T.vars) ∨ (v ≠ name ∧ (v ∈ gone ∨ F.lookup v = none))) → (∃ T ∈ u :: r, v ∈ T.vars) ∨ (v ≠ name ∧ (v ∈ gone ++ [x] ∨ F.lookup v = none)) := by
                  rintro (⟨T, hT, hx⟩ | ⟨h1, h2⟩)
                  · rcases List.mem_cons.mp hT with hT | hT
                    · subst hT; cases List.mem_singleton.mp hx
                      exact .inr ⟨e, .inl (by simp)⟩
                    · exact .inl ⟨T, .tail _ hT, hx⟩
                  · exact .inr ⟨h1, h2.imp (fun h => by simp [h]) id⟩
                rcases hv with hv | ⟨g, hg, t, ht, hx⟩
                · exact old (hc v (.inl hv))
                · rcases List.mem_append.mp hg with hg | hg
                  · exact old (hc v (.inr ⟨g, hg, t, ht, hx⟩))
                  · simp at hg; subst hg
                    have : t = u := by rw [lookupU hn ht] at hl; injection hl
                    subst this
                    exact .inl ⟨t, .head _, hx⟩
              exact ⟨b, n + 1, .go B e hl hg h1, h2⟩
      · have hp' : t.isPar = false := by simpa using hp
        have hps := parts_size (a := t)
        have hm' : (15 - gone.length) * 8 + lsz (t.parts.reverse ++ r) ≤ m := by
          rw [lsz_app, lsz_rev]; simp only [lsz] at hm hps ⊢; omega
        obtain ⟨b, n, h1, h2⟩ := im _ gone hm' (mk hm' B.nd fun T hT => by
            rcases List.mem_append.mp hT with hT | hT
            · have := part_dep (List.mem_reverse.mp hT); have := B.dL t (.head _); omega
            · exact B.dL T (.tail _ hT)) (by omega) (fun T hT x hx => by
            rcases List.mem_append.mp hT with hT | hT
            · exact hs t (.head _) x (part_vars (List.mem_reverse.mp hT) hx)
            · exact hs T (.tail _ hT) x hx) fun v hv => by
          rcases hc v hv with ⟨T, hT, hx⟩ | h
          · rcases List.mem_cons.mp hT with hT | hT
            · subst hT
              rw [vars_parts hp'] at hx
              obtain ⟨p, h1, h2⟩ := List.mem_flatMap.mp hx
              exact .inl ⟨p, by simp [h1], h2⟩
            · exact .inl ⟨T, by simp [hT], hx⟩
          · exact .inr h
        exact ⟨b, n + 1, .part B hp' h1, h2⟩
theorem holds_ok {F : Puts} (hn : (F.map (·.1)).Nodup) (dF : ∀ p ∈ F, p.2.dep ≤ 3) {T : Ty} (hT : T.dep ≤ 3) (name : Nm) : ∃ b n, HRun F name b n [T] [] ∧ (b = true ↔ Rch F T name) := by
  have h7 := size_le7 hT
  refine holds_run hn dF 127 [T] [] ?_ ⟨by simp, .nil, fun S hS => by simp at hS; subst hS; exact hT⟩ (by omega) (fun S hS x hx => by simp at hS; subst hS; exact .here hx) fun v hv => ?_
  · simp [lsz]; omega
  · rcases hv with hv | ⟨g, hg, _⟩
    · exact .inl ⟨T, by simp, hv⟩
    · exact nomatch hg
end Mine
end
section
namespace Mine
open Ty
noncomputable def Rk (F : Puts) (rk : Nm → Nat) : Prop := ∀ p ∈ F, ∀ y ∈ p.2.vars, rk y < rk p.1
noncomputable def Acy (F : Puts) : Prop := ∃ rk : Nm → Nat, Rk F rk ∧ ∀ x, rk x ≤ 14
theorem rank_low {F : Puts} {rk : Nm → Nat} (h : Rk F rk) : Acy F := by
  refine ⟨fun x => ((List.finRange 15).filter fun y => rk y < rk x).length, fun p hp y hy => ?_, fun x => ?_⟩
  · have hlt := h p hp y hy
    have sub : ∀ z ∈ y :: ((List.finRange 15).filter fun z => decide (rk z < rk y)), z ∈ (List.finRange 15).filter fun z => decide (rk z < rk p.1) := by
      intro z hz
      rcases List.mem_cons.mp hz with hz | hz
      · subst hz; simp [List.mem_finRange, hlt]
      · simp only [List.mem_filter, decide_eq_true_eq] at hz ⊢
        exact ⟨hz.1, by omega⟩
    have nd : (y :: ((List.finRange 15).filter fun z => decide (rk z < rk y))).Nodup := by
      rw [List.nodup_cons]
      exact ⟨by simp, (List.nodup_finRange 15).filter _⟩
    have := nodup_len nd sub
    rw [List.length_cons] at this
    exact this
  · have sub : ∀ z ∈ x :: ((List.finRange 15).filter fun z => decide (rk z < rk x)), z ∈ List.finRange 15 := fun z _ => List.mem_finRange z
    have nd : (x :: ((List.finRange 15).filter fun z => decide (rk z < rk x))).Nodup := by
      rw [List.nodup_cons]
      exact ⟨by simp, (List.nodup_finRange 15).filter _⟩
    have := nodup_len nd sub
    rw [List.length_cons, List.length_finRange] at this
    show (List.filter _ _).length ≤ 14
    omega
open Classical in
theorem acy_put {F : Puts} (h : Acy F) {x : Nm} {t : Ty} (hr : ¬ Rch F t x) : Acy (F ++ [(x, t)]) := by
  obtain ⟨rk, h1, h2⟩ := h
  refine rank_low (rk := fun z => rk z + if Rch F (.par z) x then 15 else 0) fun p hp y hy => ?_
  show (rk y + if Rch F (.par y) x then 15 else 0) < (rk p.1 + if Rch F (.par p.1) x then 15 else 0)
  rcases List.mem_append.mp hp with hp | hp
  · have := h1 p hp y hy
    have imp : Rch F (.par y) x → Rch F (.par p.1) x := fun h => h.mono fun z hz => by
      cases List.mem_singleton.mp hz
      exact .next (.here (.head _)) hp hy
    by_cases e : Rch F (.par y) x
    · rw [if_pos e, if_pos (imp e)]; omega
    · rw [if_neg e]; split <;> omega
  · rw [List.mem_singleton] at hp
    subst hp
    have hn : ¬ Rch F (.par y) x := fun e => hr (e.mono fun z hz => by cases List.mem_singleton.mp hz; exact .here hy)
    rw [if_neg hn, if_pos (.here (.head _))]
    have := h2 y
    omega
theorem acy_nil : Acy [] := ⟨fun _ => 0, fun p hp => (nomatch hp), fun _ => Nat.zero_le _⟩
inductive SRun (F : Puts) (r : Ty) : Nat → Ty → Prop
  | stop : (∀ x, r = .par x → F.lookup x = none) → SRun F r 0 r
  | step {n : Nat} {x : Nm} {t : Ty} : F.lookup x = some t → SRun F r n t → SRun F r (n + 1) (.par x)
theorem seen_run {F : Puts} (h : Acy F) (T : Ty) : ∃ r n, SRun F r n T := by
  obtain ⟨rk, h1, _⟩ := h
  by_cases hp : T.isPar = true
  · obtain ⟨x, rfl⟩ := par_of (T := T) (by assumption)
    clear hp
    generalize e : rk x = k
    induction k using Nat.strongRecOn generalizing x with
    | ind k ih =>
      cases hl : F.lookup x with
      | none => exact ⟨.par x, 0, .stop fun y e => by injection e with e; subst e; exact hl⟩
      | some t =>
        have hm := mem_of_lookup hl
        by_cases ht : t.isPar = true
        · obtain ⟨y, rfl⟩ := par_of (T := t) (by assumption)
          obtain ⟨r, n, h⟩ := ih (rk y) (e ▸ h1 _ hm y (.head _)) y rfl
          exact ⟨r, n + 1, .step hl h⟩
        · exact ⟨t, 1, .step hl (.stop fun x e => by subst e; simp [isPar] at ht)⟩
  · exact ⟨T, 0, .stop fun x e => by subst e; simp [isPar] at hp⟩
theorem SRun.free {F : Puts} {r T : Ty} {n : Nat} (h : SRun F r n T) : ∀ x, r = .par x → F.lookup x = none := by
  induction h with
  | stop h => exact h
  | step _ _ ih => exact ih
theorem SRun.sat {F : Puts} {r T : Ty} {n : Nat} (h : SRun F r n T) {θ : Sub} (hs : Sat θ F) : T.ap θ = r.ap θ := by
  induction h with
  | stop h => rfl
  | step hl _ ih => rw [← ih]; exact hs _ (mem_of_lookup hl)
theorem SRun.mem {F : Puts} {r T : Ty} {n : Nat} (h : SRun F r n T) {U : List Ty} (hT : T ∈ U) (hF : ∀ p ∈ F, p.2 ∈ U) : r ∈ U := by
  induction h with
  | stop h => exact hT
  | step hl _ ih => exact ih (hF _ (mem_of_lookup hl))
theorem SRun.rk {F : Puts} {r T : Ty} {n : Nat} (h : SRun F r n T) {rk : Nm → Nat} (hr : Rk F rk) : ∀ x, T = .par x → ∀ y ∈ r.vars, rk y ≤ rk x ∧ (r.isPar = false → rk y < rk x) := by
  induction h with
  | stop h => intro x e y hy; subst e; cases List.mem_singleton.mp hy; simp [isPar]
  | step hl h2 ih =>
    intro x e y hy
    injection e with e; subst e
    have hm := mem_of_lookup hl
    rename_i t
    by_cases ht : t.isPar = true
    · obtain ⟨z, rfl⟩ := par_of (T := t) (by assumption)
      have := hr _ hm z (.head _)
      have := (ih z rfl y hy).1
      simp only at *
      exact ⟨by omega, fun _ => by omega⟩
    · cases h2 with
      | stop _ => have := hr _ hm y hy; simp only at this; exact ⟨by omega, fun _ => this⟩
      | step _ _ => simp [isPar] at ht
structure FOk (U : List Ty) (F : Puts) : Prop where
  nd : (F.map (·.1)).Nodup
  acy : Acy F
  mem : ∀ p ∈ F, p.2 ∈ U ∧ .par p.1 ∈ U
structure Uni (V : List Nm) (U : List Ty) : Prop where
  parts : ∀ T ∈ U, ∀ p ∈ T.parts, p ∈ U
  dep : ∀ T ∈ U, T.dep ≤ 3
  vars : ∀ T ∈ U, ∀ x ∈ T.vars, x ∈ V
  len : U.length ≤ 50
structure UB (E g : Eqs) (F : Puts) : Prop where
  lenE : E.length ≤ 8000
  lenG : g.length ≤ 8000
  dE : ∀ p ∈ E, p.1.dep ≤ 3 ∧ p.2.dep ≤ 3
  dF : ∀ p ∈ F, p.2.dep ≤ 3
  nd : (F.map (·.1)).Nodup
  acy : Acy F
inductive Bnd (F : Puts) (x : Nm) (T : Ty) : Bool → Puts → Prop
  | same : T = .par x → Bnd F x T true F
  | held : T ≠ .par x → Rch F T x → Bnd F x T false F
  | put : T ≠ .par x → ¬ Rch F T x → F.lookup x = none → Bnd F x T true (F ++ [(x, T)])
inductive URun (R : Bool → Puts → Prop) : Nat → Eqs → Eqs → Puts → Prop
  | done {g : Eqs} {F : Puts} : UB [] g F → R true F → URun R 0 [] g F
  | skip {n i j : Nat} {a b h t : Ty} {r g : Eqs} {F : Puts} : UB ((a, b) :: r) g F → SRun F h i a → SRun F t j b → (h, t) ∈ g → URun R n r g F → URun R (n + 1) ((a, b) :: r) g F
  | bind {n i j : Nat} {x : Nm} {a b t : Ty} {r g : Eqs} {F F' : Puts} : UB ((a, b) :: r) g F → SRun F (.par x) i a → SRun F t j b → (.par x, t) ∉ g → Bnd F x t true F' → URun R n r (g ++ [(.par x, t)]) F' → URun R (n + 1) ((a, b) :: r) g F
  | bindN {i j : Nat} {x : Nm} {a b t : Ty} {r g : Eqs} {F : Puts} : UB ((a, b) :: r) g F → SRun F (.par x) i a → SRun F t j b → (.par x, t) ∉ g → Bnd F x t false F → R false F → URun R 1 ((a, b) :: r) g F
  | dnib {n i j : Nat} {x : Nm} {a b h : Ty} {r g : Eqs} {F F' : Puts} : UB ((a, b) :: r) g F → SRun F h i a → SRun F (.par x) j b → (h, .par x) ∉ g → h.isPar = false → Bnd F x h true F' → URun R n r (g ++ [(h, .par x)]) F' → URun R (n + 1) ((a, b) :: r) g F
  | dnibN {i j : Nat} {x : Nm} {a b h : Ty} {r g : Eqs} {F : Puts} : UB ((a, b) :: r) g F → SRun F h i a → SRun F (.par x) j b → (h, .par x) ∉ g → h.isPar = false → Bnd F x h false F → R false F → URun R 1 ((a, b) :: r) g F
  | mism {i j : Nat} {a b h t : Ty} {r g : Eqs} {F : Puts} : UB ((a, b) :: r) g F → SRun F h i a → SRun F t j b → (h, t) ∉ g → h.isPar = false → t.isPar = false → h.hd ≠ t.hd → R false F → URun R 1 ((a, b) :: r) g F
  | pairs {n i j : Nat} {a b h t : Ty} {r g : Eqs} {F : Puts} : UB ((a, b) :: r) g F → SRun F h i a → SRun F t j b → (h, t) ∉ g → h.isPar = false → t.isPar = false → h.hd = t.hd → URun R n ((h.parts.zip t.parts).reverse ++ r) (g ++ [(h, t)]) F → URun R (n + 1) ((a, b) :: r) g F
end Mine
end
section
namespace Mine
open Ty
noncomputable def Cov (F : Puts) (left gone : Eqs) (p q : Ty) : Prop := (p, q) ∈ left ∨ ∃ e ∈ gone, ∀ θ, Sat θ F → p.ap θ = e.1.ap θ ∧ q.ap θ = e.2.ap θ
noncomputable def Okp (F : Puts) (left gone : Eqs) (a b : Ty) : Prop := (∀ θ, Sat θ F → a.ap θ = b.ap θ) ∨ (a.isPar = false ∧ b.isPar = false ∧ a.hd = b.hd ∧ ∀ e ∈ a.parts.zip b.parts, Cov F left gone e.1 e.2)
theorem gone_unif {F : Puts} {gone : Eqs} (J : ∀ e ∈ gone, Okp F [] gone e.1 e.2) {θ : Sub} (hs : Sat θ F) : Unif θ gone := by
  have key : ∀ k, ∀ e ∈ gone, (e.1.ap θ).size = k → e.1.ap θ = e.2.ap θ := by
    intro k
    induction k using Nat.strongRecOn with
    | ind k ih =>
      intro e he hk
      rcases J e he with h | ⟨h1, h2, h3, h4⟩
      · exact h θ hs
      · refine (unif_hd h1 h2).mpr ⟨h3, fun p hp => ?_⟩
        rcases h4 p hp with h | ⟨q, hq, hh⟩
        · exact nomatch h
        · obtain ⟨a1, a2⟩ := hh θ hs
          have hp1 : p.1.ap θ ∈ (e.1.ap θ).parts := by
            rw [parts_ap h1]
            exact List.mem_map.mpr ⟨p.1, (List.of_mem_zip hp).1, rfl⟩
          have := part_size hp1
          rw [a1, a2]
          exact ih _ (by rw [← a1]; omega) q hq rfl
  exact fun e he => key _ e he rfl
theorem Cov.turn {F F' : Puts} {a b h t : Ty} {r left' gone gone' : Eqs} (hl : ∀ e ∈ r, e ∈ left') (hg : ∀ e ∈ gone, e ∈ gone') (hF : ∀ θ, Sat θ F' → Sat θ F)
    (ha : ∀ θ, Sat θ F → a.ap θ = h.ap θ) (hb : ∀ θ, Sat θ F → b.ap θ = t.ap θ) (hin : (h, t) ∈ gone') {p q : Ty} (C : Cov F ((a, b) :: r) gone p q) : Cov F' left' gone' p q := by
  rcases C with C | ⟨e, he, hh⟩
  · rcases List.mem_cons.mp C with C | C
    · injection C with c1 c2
      subst c1; subst c2
      exact .inr ⟨(h, t), hin, fun θ hs => ⟨ha θ (hF θ hs), hb θ (hF θ hs)⟩⟩
    · exact .inl (hl _ C)
  · exact .inr ⟨e, hg e he, fun θ hs => hh θ (hF θ hs)⟩
theorem Okp.mono {F F' : Puts} {l l' g g' : Eqs} (hF : ∀ θ, Sat θ F' → Sat θ F) (hc : ∀ p q, Cov F l g p q → Cov F' l' g' p q) {a b : Ty} (h : Okp F l g a b) : Okp F' l' g' a b := by
  rcases h with h | ⟨h1, h2, h3, h4⟩
  · exact .inl fun θ hs => h θ (hF θ hs)
  · exact .inr ⟨h1, h2, h3, fun e he => hc _ _ (h4 e he)⟩
theorem lookup_none {F : Puts} {x : Nm} (h : F.lookup x = none) : ∀ p ∈ F, p.1 ≠ x := by
  induction F with
  | nil => exact fun p hp => nomatch hp
  | cons q F ih =>
    obtain ⟨y, u⟩ := q
    by_cases e : x = y
    · subst e; simp at h
    · rw [List.lookup_cons, beq_false_of_ne e] at h
      intro p hp
      rcases List.mem_cons.mp hp with hp | hp
      · subst hp; exact fun e' => e e'.symm
      · exact ih h p hp
theorem rch_size {F : Puts} {θ : Sub} (hs : Sat θ F) {T : Ty} {x : Nm} (h : Rch F T x) : (θ x).size ≤ (T.ap θ).size ∧ (T.isPar = false → (θ x).size < (T.ap θ).size) := by
  induction h with
  | here h => exact size_var θ h
  | next h1 h2 h3 ih =>
    have := (size_var θ h3).1
    have e := hs _ h2
    simp only at e
    rw [← e] at this
    exact ⟨by omega, fun h => by have := ih.2 h; omega⟩
theorem rch_free {F : Puts} {y : Nm} (h : F.lookup y = none) {x : Nm} (r : Rch F (.par y) x) : x = y := by
  induction r with
  | here h => simpa [vars] using h
  | next h1 h2 h3 ih => subst ih; exact absurd rfl (lookup_none h _ h2)
theorem bnd_ok {U : List Ty} {F : Puts} (O : FOk U F) {x : Nm} {t : Ty} (hx : F.lookup x = none) (ht : t ∈ U) (hxU : .par x ∈ U) (hf : ∀ y, t = .par y → F.lookup y = none) :
    (Bnd F x t false F ∧ ∀ θ, Sat θ F → θ x ≠ t.ap θ) ∨ ∃ F', Bnd F x t true F' ∧ FOk U F' ∧ (∀ θ, Sat θ F' ↔ Sat θ F ∧ θ x = t.ap θ) := by
  by_cases e : t = .par x
  · exact .inr ⟨F, .same e, O, fun θ => by subst e; simp [ap]⟩
  · by_cases hr : Rch F t x
    · refine .inl ⟨.held e hr, fun θ hs heq => ?_⟩
      have hp : t.isPar = false := by
        by_cases hp : t.isPar = true
        · obtain ⟨y, rfl⟩ := par_of (T := t) (by assumption)
          exact absurd (by rw [rch_free (hf y rfl) hr]) e
        · simpa using hp
      have := (rch_size hs hr).2 hp
      rw [heq] at this
      omega
    · refine .inr ⟨F ++ [(x, t)], .put e hr hx, ⟨?_, acy_put O.acy hr, fun p hp => ?_⟩, fun θ => by rw [sat_app, sat_one]⟩
      · rw [List.map_append]
        refine List.nodup_append.mpr ⟨O.nd, by simp, fun a ha b hb => ?_⟩
        obtain ⟨p, hp, rfl⟩ := List.mem_map.mp ha
        simp at hb; subst hb
        exact lookup_none hx p hp
      · rcases List.mem_append.mp hp with hp | hp
        · exact O.mem p hp
        · rw [List.mem_singleton] at hp; subst hp; exact ⟨ht, hxU⟩
structure UInv (U : List Ty) (F0 : Puts) (E0 left gone : Eqs) (F : Puts) : Prop where
  fok : FOk U F
  lU : ∀ e ∈ left, e.1 ∈ U ∧ e.2 ∈ U
  gU : ∀ e ∈ gone, e.1 ∈ U ∧ e.2 ∈ U
  gN : gone.Nodup
  J : ∀ e ∈ gone, Okp F left gone e.1 e.2
  cov : ∀ e ∈ E0, Cov F left gone e.1 e.2
  comp : ∀ θ, Sat θ F0 → Unif θ E0 → Sat θ F ∧ Unif θ left
  mono : ∀ θ, Sat θ F → Sat θ F0
theorem gone_len {U : List Ty} {g : Eqs} (h : g.Nodup) (hU : ∀ e ∈ g, e.1 ∈ U ∧ e.2 ∈ U) : g.length ≤ U.length * U.length := by
  have := nodup_len (l := U.flatMap fun a => U.map fun b => (a, b)) h fun e he => by
    obtain ⟨a, b⟩ := e
    exact List.mem_flatMap.mpr ⟨a, (hU _ he).1, List.mem_map.mpr ⟨b, (hU _ he).2, rfl⟩⟩
  have e : ∀ l : List Ty, (l.flatMap fun a => U.map fun b => (a, b)).length = l.length * U.length := by
    intro l
    induction l with
    | nil => simp
    | cons x l ih => rw [List.flatMap_cons, List.length_append, ih, List.length_map, List.length_cons, Nat.succ_mul, Nat.add_comm]
  rw [e] at this
  exact this
theorem unify_run {V : List Nm} {U : List Ty} (UU : Uni V U) {F0 : Puts} {E0 : Eqs} (R : Bool → Puts → Prop) :
    (∀ F, FOk U F → (∀ θ, (Sat θ F0 ∧ Unif θ E0) ↔ Sat θ F) → R true F) → ((∀ θ, ¬ (Sat θ F0 ∧ Unif θ E0)) → ∀ F, FOk U F → R false F) →
    ∀ (m : Nat) (left gone : Eqs) (F : Puts), (U.length * U.length - gone.length) * 3 + left.length ≤ m → m ≤ 8000 → UInv U F0 E0 left gone F → ∃ n, URun R n left gone F := by
  intro hT hF m
  have hUU : U.length * U.length ≤ 2500 := Nat.mul_le_mul UU.len UU.len
  induction m with
  | zero =>
    intro left gone F hm h8 I
    match left, hm, I with
    | [], hm, I =>
      have hg := gone_len I.gN I.gU
      refine ⟨0, .done ⟨by simp, by omega, fun p hp => (nomatch hp), fun p hp => UU.dep _ (I.fok.mem p hp).1, I.fok.nd, I.fok.acy⟩ (hT F I.fok fun θ => ⟨fun h => (I.comp θ h.1 h.2).1, fun h => ⟨I.mono θ h, fun e he => ?_⟩⟩)⟩
      rcases I.cov e he with hc | ⟨q, hq, hh⟩
      · exact nomatch hc
      · obtain ⟨a1, a2⟩ := hh θ h
        rw [a1, a2]
        exact gone_unif I.J h q hq
  | succ m im =>
    intro left gone F hm h8 I
    match left, hm, I with
    | [], hm, I =>
      have hg := gone_len I.gN I.gU
      refine ⟨0, .done ⟨by simp, by omega, fun p hp => (nomatch hp), fun p hp => UU.dep _ (I.fok.mem p hp).1, I.fok.nd, I.fok.acy⟩ (hT F I.fok fun θ => ⟨fun h => (I.comp θ h.1 h.2).1, fun h => ⟨I.mono θ h, fun e he => ?_⟩⟩)⟩
      rcases I.cov e he with hc | ⟨q, hq, hh⟩
      · exact nomatch hc
      · obtain ⟨a1, a2⟩ := hh θ h
        rw [a1, a2]
        exact gone_unif I.J h q hq
    | (a, b) :: r, hm, I =>
      have hg := gone_len I.gN I.gU
      have hlen : ((a, b) :: r).length = r.length + 1 := rfl
      have B : UB ((a, b) :: r) gone F := ⟨by omega, by omega, fun p hp => ⟨UU.dep _ (I.lU p hp).1, UU.dep _ (I.lU p hp).2⟩, fun p hp => UU.dep _ (I.fok.mem p hp).1, I.fok.nd, I.fok.acy⟩
      obtain ⟨h, i, hh⟩ := seen_run I.fok.acy a
      obtain ⟨t, j, ht⟩ := seen_run I.fok.acy b
      have hhU : h ∈ U := hh.mem (I.lU _ (.head _)).1 fun p hp => (I.fok.mem p hp).1
      have htU : t ∈ U := ht.mem (I.lU _ (.head _)).2 fun p hp => (I.fok.mem p hp).1
      have sa : ∀ θ, Sat θ F → a.ap θ = h.ap θ := fun θ hs => hh.sat hs
      have sb : ∀ θ, Sat θ F → b.ap θ = t.ap θ := fun θ hs => ht.sat hs
      have cm : ∀ θ, Sat θ F0 → Unif θ E0 → Sat θ F ∧ h.ap θ = t.ap θ ∧ Unif θ r := fun θ h1 h2 => by
        obtain ⟨h3, h4⟩ := I.comp θ h1 h2
        rw [unif_cons] at h4
        exact ⟨h3, by rw [← sa θ h3, ← sb θ h3, h4.1], h4.2⟩
      by_cases hin : (h, t) ∈ gone
      · -- skipped
        have ct : ∀ p q, Cov F ((a, b) :: r) gone p q → Cov F r gone p q := fun p q c => c.turn (fun e he => he) (fun e he => he) (fun θ hs => hs) sa sb hin
        obtain ⟨n, hrun⟩ := im r gone F (by omega) (by omega) ⟨I.fok, fun e he => I.lU e (.tail _ he), I.gU, I.gN, fun e he => (I.J e he).mono (fun θ hs => hs) ct, fun e he => ct _ _ (I.cov e he), fun θ h1 h2 => ⟨(cm θ h1 h2).1, (cm θ h1 h2).2.2⟩, I.mono⟩
        exact ⟨n + 1, .skip B hh ht hin hrun⟩
      · have nd' : (gone ++ [(h, t)]).Nodup := by
          refine List.nodup_append.mpr ⟨I.gN, by simp, fun x hx y hy => ?_⟩
          simp at hy; subst hy; exact fun e => hin (e ▸ hx)
        have gU' : ∀ e ∈ gone ++ [(h, t)], e.1 ∈ U ∧ e.2 ∈ U := fun e he => by
          rcases List.mem_append.mp he with he | he
          · exact I.gU e he
          · rw [List.mem_singleton] at he; subst he; exact ⟨hhU, htU⟩
        have hg' := gone_len nd' gU'
        have hl' : (gone ++ [(h, t)]).length = gone.length + 1 := by simp
        have bnd : ∀ (x : Nm) (s : Ty), F.lookup x = none → s ∈ U → .par x ∈ U → (∀ y, s = .par y → F.lookup y = none) → (∀ θ, h.ap θ = t.ap θ ↔ θ x = s.ap θ) →
            (∀ F', Bnd F x s true F' → (∃ n, URun R n r (gone ++ [(h, t)]) F') → ∃ n, URun R n ((a, b) :: r) gone F) → (Bnd F x s false F → R false F → ∃ n, URun R n ((a, b) :: r) gone F) → ∃ n, URun R n ((a, b) :: r) gone F := by
          intro x s hx hs hxU hf heq k1 k2
          rcases bnd_ok I.fok hx hs hxU hf with ⟨b1, b2⟩ | ⟨F', b1, b2, b3⟩
          · exact k2 b1 (hF (fun θ hθ => b2 θ (cm θ hθ.1 hθ.2).1 ((heq θ).mp (cm θ hθ.1 hθ.2).2.1)) F I.fok)
          · refine k1 F' b1 (im r (gone ++ [(h, t)]) F' (by omega) (by omega) ?_)
            have hFF : ∀ θ, Sat θ F' → Sat θ F := fun θ hθ => ((b3 θ).mp hθ).1
            have ct : ∀ p q, Cov F ((a, b) :: r) gone p q → Cov F' r (gone ++ [(h, t)]) p q := fun p q c => c.turn (fun e he => he) (fun e he => List.mem_append_left _ he) hFF sa sb (by simp)
            refine ⟨b2, fun e he => I.lU e (.tail _ he), gU', nd', fun e he => ?_, fun e he => ct _ _ (I.cov e he), fun θ h1 h2 => ?_, fun θ hθ => I.mono θ (hFF θ hθ)⟩
            · rcases List.mem_append.mp he with he | he
              · exact (I.J e he).mono hFF ct
              · rw [List.mem_singleton] at he; subst he
                exact .inl fun θ hθ => (heq θ).mpr ((b3 θ).mp hθ).2
            · obtain ⟨c1, c2, c3⟩ := cm θ h1 h2
              exact ⟨(b3 θ).mpr ⟨c1, (heq θ).mp c2⟩, c3⟩
        by_cases hp : h.isPar = true
        · obtain ⟨x, rfl⟩ := par_of (T := h) (by assumption)
          exact bnd x t (hh.free x rfl) htU hhU (ht.free) (fun θ => Iff.rfl) (fun F' b1 ⟨n, hr⟩ => ⟨n + 1, .bind B hh ht hin b1 hr⟩) (fun b1 hr => ⟨1, .bindN B hh ht hin b1 hr⟩)
        · have hp' : h.isPar = false := by simpa using hp
          by_cases tp : t.isPar = true
          · obtain ⟨x, rfl⟩ := par_of (T := t) (by assumption)
            exact bnd x h (ht.free x rfl) hhU htU (hh.free) (fun θ => eq_comm) (fun F' b1 ⟨n, hr⟩ => ⟨n + 1, .dnib B hh ht hin hp' b1 hr⟩) (fun b1 hr => ⟨1, .dnibN B hh ht hin hp' b1 hr⟩)
          · have tp' : t.isPar = false := by simpa using tp
            by_cases hd : h.hd = t.hd
            · have hpl : (h.parts.zip t.parts).length ≤ 2 := by
                rw [List.length_zip]; have := parts_le h; omega
              have ct : ∀ p q, Cov F ((a, b) :: r) gone p q → Cov F ((h.parts.zip t.parts).reverse ++ r) (gone ++ [(h, t)]) p q := fun p q c => c.turn (fun e he => List.mem_append_right _ he) (fun e he => List.mem_append_left _ he) (fun θ hs => hs) sa sb (by simp)
              obtain ⟨n, hrun⟩ := im ((h.parts.zip t.parts).reverse ++ r) (gone ++ [(h, t)]) F (by
                  have e9 : ((h.parts.zip t.parts).reverse ++ r).length = (h.parts.zip t.parts).length + r.length := by rw [List.length_append, List.length_reverse]
                  omega) (by omega)
                ⟨I.fok, fun e he => by
                  rcases List.mem_append.mp he with he | he
                  · have := List.of_mem_zip (a := e.1) (b := e.2) (List.mem_reverse.mp he)
                    exact ⟨UU.parts h hhU _ this.1, UU.parts t htU _ this.2⟩
                  · exact I.lU e (.tail _ he), gU', nd', fun e he => by
                  rcases List.mem_append.mp he with he | he
                  · exact (I.J e he).mono (fun θ hs => hs) ct
                  · rw [List.mem_singleton] at he; subst he
                    exact .inr ⟨hp', tp', hd, fun e he => .inl (List.mem_append_left _ (List.mem_reverse.mpr he))⟩, fun e he => ct _ _ (I.cov e he), fun θ h1 h2 => by
                  obtain ⟨c1, c2, c3⟩ := cm θ h1 h2
                  refine ⟨c1, fun e he => ?_⟩
                  rcases List.mem_append.mp he with he | he
                  · exact ((unif_hd hp' tp').mp c2).2 e (List.mem_reverse.mp he)
                  · exact c3 e he, I.mono⟩
              exact ⟨n + 1, .pairs B hh ht hin hp' tp' hd hrun⟩
            · exact ⟨1, .mism B hh ht hin hp' tp' hd (hF (fun θ hθ => hd ((unif_hd hp' tp').mp (cm θ hθ.1 hθ.2).2.1).1) F I.fok)⟩
end Mine
end
section
namespace Mine
open Ty
noncomputable def Wk (F : Puts) : Nat → Sub
  | 0, x => .par x
  | k + 1, x => match F.lookup x with
    | some t => t.ap (Wk F k)
    | none => .par x
noncomputable def W (F : Puts) : Sub := Wk F 15
theorem Wk_sat {F : Puts} {θ : Sub} (hs : Sat θ F) : ∀ (k : Nat) (x : Nm), (Wk F k x).ap θ = θ x
  | 0, x => rfl
  | k + 1, x => by
    simp only [Wk]
    split
    · rename_i t h
      rw [ap_ap, ap_congr t (t := θ) fun y _ => Wk_sat hs k y]
      exact (hs _ (mem_of_lookup h)).symm
    · rfl
theorem W_sat {F : Puts} {θ : Sub} (hs : Sat θ F) (T : Ty) : (T.ap (W F)).ap θ = T.ap θ := by
  rw [ap_ap]; exact ap_congr T fun x _ => Wk_sat hs 15 x
theorem Wk_stable {F : Puts} {rk : Nm → Nat} (h : Rk F rk) : ∀ (k : Nat) (x : Nm), rk x < k → Wk F (k + 1) x = Wk F k x
  | 0, x, h => by omega
  | k + 1, x, hx => by
    show (match F.lookup x with | some t => t.ap (Wk F (k + 1)) | none => .par x) = (match F.lookup x with | some t => t.ap (Wk F k) | none => .par x)
    split
    · rename_i t hl
      exact ap_congr t fun y hy => Wk_stable h k y (by have := h _ (mem_of_lookup hl) y hy; simp only at this; omega)
    · rfl
theorem W_some {F : Puts} (h : Acy F) {x : Nm} {t : Ty} (hl : F.lookup x = some t) : W F x = t.ap (W F) := by
  obtain ⟨rk, h1, h2⟩ := h
  have := Wk_stable h1 15 x (by have := h2 x; omega)
  rw [W, ← this]
  simp only [Wk, hl]
theorem W_none {F : Puts} {x : Nm} (hl : F.lookup x = none) : W F x = .par x := by
  simp only [W, Wk, hl]
theorem W_own {F : Puts} (h : Acy F) (hn : (F.map (·.1)).Nodup) : Sat (W F) F := fun p hp => W_some h (lookupU hn hp)
theorem W_dep {F : Puts} (hd : ∀ p ∈ F, p.2.dep ≤ 3) : ∀ (k : Nat) (x : Nm), (Wk F k x).dep ≤ 3 * k + 1
  | 0, x => by simp [Wk, dep]
  | k + 1, x => by
    simp only [Wk]
    split
    · rename_i t h
      have := hd _ (mem_of_lookup h)
      have := dep_ap (s := Wk F k) (T := t) (D := 3 * k) fun y _ => W_dep hd k y
      simp only at *
      omega
    · simp [dep]
theorem W_vars {F : Puts} {V : List Nm} (hv : ∀ p ∈ F, ∀ y ∈ p.2.vars, y ∈ V) : ∀ (k : Nat) (x : Nm), x ∈ V → ∀ y ∈ (Wk F k x).vars, y ∈ V
  | 0, x, hx, y, hy => by simp [Wk, vars] at hy; subst hy; exact hx
  | k + 1, x, hx, y, hy => by
    simp only [Wk] at hy
    split at hy
    · rename_i t h
      obtain ⟨z, h1, h2⟩ := vars_ap hy
      exact W_vars hv k z (hv _ (mem_of_lookup h) z h1) y h2
    · cases List.mem_singleton.mp hy; exact hx
theorem SRun.W {F : Puts} {r T : Ty} {n : Nat} (h : SRun F r n T) (ha : Acy F) : T.ap (W F) = r.ap (W F) := by
  induction h with
  | stop h => rfl
  | step hl _ ih => rw [← ih]; exact W_some ha hl
noncomputable def onceAcc (acc l : List Nm) : List Nm := l.foldl (fun f x => if x ∈ f then f else f ++ [x]) acc
noncomputable def once (l : List Nm) : List Nm := onceAcc [] l
theorem onceAcc_nil {acc : List Nm} : onceAcc acc [] = acc := rfl
theorem onceAcc_app {acc l m : List Nm} : onceAcc acc (l ++ m) = onceAcc (onceAcc acc l) m := by simp [onceAcc, List.foldl_append]
theorem once_mem : ∀ {l acc : List Nm} {x : Nm}, x ∈ onceAcc acc l ↔ x ∈ acc ∨ x ∈ l
  | [], acc, x => by simp [onceAcc]
  | y :: l, acc, x => by
    show x ∈ onceAcc (if y ∈ acc then acc else acc ++ [y]) l ↔ _
    rw [once_mem]
    split
    · rename_i h
      simp only [List.mem_cons]
      constructor
      · rintro (h1 | h1); exact .inl h1; exact .inr (.inr h1)
      · rintro (h1 | h1 | h1); exact .inl h1; exact .inl (h1 ▸ h); exact .inr h1
    · simp only [List.mem_append, List.mem_cons, List.not_mem_nil, or_false]
      constructor
      · rintro ((h1 | h1) | h1); exact .inl h1; exact .inr (.inl h1); exact .inr (.inr h1)
      · rintro (h1 | h1 | h1); exact .inl (.inl h1); exact .inl (.inr h1); exact .inr h1
theorem once_nodup : ∀ {l acc : List Nm}, acc.Nodup → (onceAcc acc l).Nodup
  | [], acc, h => h
  | y :: l, acc, h => by
    show (onceAcc (if y ∈ acc then acc else acc ++ [y]) l).Nodup
    refine once_nodup ?_
    split
    · exact h
    · rename_i hn
      refine List.nodup_append.mpr ⟨h, by simp, fun a ha b hb => ?_⟩
      simp at hb; subst hb; exact fun e => hn (e ▸ ha)
theorem once_map {ρ : Nm → Nm} : ∀ {l acc : List Nm}, (∀ x y, x ∈ acc ++ l → y ∈ acc ++ l → ρ x = ρ y → x = y) → onceAcc (acc.map ρ) (l.map ρ) = (onceAcc acc l).map ρ
  | [], acc, _ => rfl
  | y :: l, acc, inj => by
    show onceAcc (if ρ y ∈ acc.map ρ then acc.map ρ else acc.map ρ ++ [ρ y]) (l.map ρ) = (onceAcc (if y ∈ acc then acc else acc ++ [y]) l).map ρ
    have e : ρ y ∈ acc.map ρ ↔ y ∈ acc := by
      constructor
      · intro h
        obtain ⟨z, hz, e⟩ := List.mem_map.mp h
        rw [← inj z y (by simp [hz]) (by simp) e]; exact hz
      · exact fun h => List.mem_map.mpr ⟨y, h, rfl⟩
    by_cases h : y ∈ acc
    · rw [if_pos h, if_pos (e.mpr h)]
      exact once_map fun a b ha hb => inj a b (by simp only [List.mem_append, List.mem_cons] at ha ⊢; exact ha.imp id .inr) (by simp only [List.mem_append, List.mem_cons] at hb ⊢; exact hb.imp id .inr)
    · rw [if_neg h, if_neg fun hh => h (e.mp hh)]
      have := once_map (ρ := ρ) (l := l) (acc := acc ++ [y]) fun a b ha hb => inj a b (by simpa using ha) (by simpa using hb)
      rw [List.map_append] at this
      exact this
noncomputable def at_ (i : Nat) : Nm := if i = 0 then 11 else if i = 1 then 12 else if i = 2 then 13 else 14
noncomputable def lineup : Nat → List Nm → List Ty → List Ty
  | _, [], ts => ts
  | i, x :: u, ts => lineup (i + 1) u (ts.map fun T => put T x (.par (at_ i)))
noncomputable def lined (ts : List Ty) : List Ty := lineup 0 (once (ts.flatMap vars)) ts
noncomputable def low (x : Nm) : Prop := x < 11
theorem at_high (i : Nat) : ¬ low (at_ i) := by unfold at_ low; split <;> (try split) <;> (try split) <;> decide
noncomputable def lsub : Nat → List Nm → Sub
  | _, [], x => .par x
  | i, y :: u, x => if x = y then .par (at_ i) else lsub (i + 1) u x
theorem lineup_ap : ∀ (u : List Nm) (i : Nat) (ts : List Ty), (∀ x ∈ u, low x) → u.Nodup → lineup i u ts = ts.map (·.ap (lsub i u))
  | [], i, ts, _, _ => by
    show ts = _
    induction ts with
    | nil => rfl
    | cons t ts ih => rw [List.map_cons, ← ih]; congr 1; exact (ap_par t).symm
  | y :: u, i, ts, h, hn => by
    rw [List.nodup_cons] at hn
    show lineup (i + 1) u _ = _
    rw [lineup_ap u (i + 1) _ (fun x hx => h x (.tail _ hx)) hn.2, List.map_map]
    refine List.map_congr_left fun T _ => ?_
    show (put T y (.par (at_ i))).ap _ = _
    rw [put, ap_ap]
    refine ap_congr T fun x _ => ?_
    show ((if x = y then Ty.par (at_ i) else .par x)).ap _ = if x = y then .par (at_ i) else lsub (i + 1) u x
    split
    · show lsub (i + 1) u (at_ i) = _
      have : ∀ (u : List Nm) (j : Nat), (∀ x ∈ u, low x) → lsub j u (at_ i) = .par (at_ i) := by
        intro u
        induction u with
        | nil => intro j _; rfl
        | cons z u ih =>
          intro j hu
          show (if at_ i = z then _ else _) = _
          rw [if_neg fun (e : at_ i = z) => at_high i (by rw [e]; exact hu z (.head _))]
          exact ih _ fun x hx => hu x (.tail _ hx)
      exact this u _ fun x hx => h x (.tail _ hx)
    · rfl
theorem lsub_map {ρ : Nm → Nm} : ∀ (u : List Nm) (i : Nat) (x : Nm), x ∈ u → (∀ a b, a ∈ u → b ∈ u → ρ a = ρ b → a = b) → lsub i (u.map ρ) (ρ x) = lsub i u x
  | y :: u, i, x, hx, inj => by
    show (if ρ x = ρ y then _ else _) = if x = y then _ else _
    by_cases e : x = y
    · rw [if_pos e, if_pos (by rw [e])]
    · rw [if_neg e, if_neg fun h => e (inj _ _ hx (.head _) h)]
      refine lsub_map u (i + 1) x ?_ fun a b ha hb => inj a b (.tail _ ha) (.tail _ hb)
      rcases List.mem_cons.mp hx with h | h
      · exact absurd h e
      · exact h
theorem lined_eq {As Bs : List Ty} {f g : Sub} (hB : Bs = As.map (·.ap g)) (hA : As = Bs.map (·.ap f)) (lA : ∀ T ∈ As, ∀ x ∈ T.vars, low x) (lB : ∀ T ∈ Bs, ∀ x ∈ T.vars, low x) : lined As = lined Bs := by
  have fix : ∀ T ∈ As, (T.ap g).ap f = T := by
    have : As = As.map fun T => (T.ap g).ap f := by
      conv => lhs; rw [hA, hB, List.map_map]
      rfl
    intro T hT
    have gen : ∀ l : List Ty, l = l.map (fun T => (T.ap g).ap f) → ∀ T ∈ l, (T.ap g).ap f = T := by
      intro l
      induction l with
      | nil => intro _ T hT; exact nomatch hT
      | cons S l ih =>
        intro h T hT
        rw [List.map_cons] at h
        injection h with h1 h2
        rcases List.mem_cons.mp hT with e | e
        · subst e; exact h1.symm
        · exact ih h2 T e
    exact gen As this T hT
  have fx : ∀ x ∈ As.flatMap vars, (g x).ap f = .par x := by
    intro x hx
    obtain ⟨T, hT, hx⟩ := List.mem_flatMap.mp hx
    have := fix T hT
    rw [ap_ap] at this
    exact ap_fix this x hx
  have gp : ∀ x ∈ As.flatMap vars, ∃ y, g x = .par y ∧ f y = .par x := by
    intro x hx
    have := fx x hx
    cases e : g x <;> rw [e] at this <;> simp [ap] at this
    exact ⟨_, rfl, this⟩
  let ρ : Nm → Nm := fun x => match g x with
    | .par y => y
    | _ => x
  have gr : ∀ x ∈ As.flatMap vars, g x = .par (ρ x) := fun x hx => by
    obtain ⟨y, h1, h2⟩ := gp x hx
    simp only [ρ, h1]
  have inj : ∀ x y, x ∈ As.flatMap vars → y ∈ As.flatMap vars → ρ x = ρ y → x = y := fun x y hx hy e => by
    have h1 := fx x hx
    have h2 := fx y hy
    rw [gr x hx] at h1
    rw [gr y hy, ← e, h1] at h2
    injection h2
  have hv : ∀ T : Ty, (∀ x ∈ T.vars, x ∈ As.flatMap vars) → (T.ap g).vars = T.vars.map ρ := by
    intro T
    induction T with
    | par x => intro h; show (g x).vars = _; rw [gr x (h x (.head _))]; rfl
    | box a ih => intro h; exact ih h
    | arr a ih => intro h; exact ih h
    | ref m a ih => intro h; exact ih h
    | tup a b ia ib => intro h; show (a.ap g).vars ++ (b.ap g).vars = (a.vars ++ b.vars).map ρ; rw [ia fun x hx => h x (by simp [vars, hx]), ib fun x hx => h x (by simp [vars, hx]), List.map_append]
    | adt a b ia ib => intro h; show (a.ap g).vars ++ (b.ap g).vars = (a.vars ++ b.vars).map ρ; rw [ia fun x hx => h x (by simp [vars, hx]), ib fun x hx => h x (by simp [vars, hx]), List.map_append]
    | _ => intro h; rfl
  have hBv : Bs.flatMap vars = (As.flatMap vars).map ρ := by
    have : ∀ l : List Ty, (∀ T ∈ l, T ∈ As) → (l.map (·.ap g)).flatMap vars = (l.flatMap vars).map ρ := by
      intro l
      induction l with
      | nil => intro _; rfl
      | cons T l ih =>
        intro h
        rw [List.map_cons, List.flatMap_cons, List.flatMap_cons, List.map_append, ih fun S hS => h S (.tail _ hS), hv T fun x hx => List.mem_flatMap.mpr ⟨T, h T (.head _), hx⟩]
    rw [hB]
    exact this As fun T hT => hT
  have ho : once (Bs.flatMap vars) = (once (As.flatMap vars)).map ρ := by
    rw [hBv]
    exact once_map (acc := []) (fun x y hx hy => inj x y (by simpa using hx) (by simpa using hy))
  have inA : ∀ x, x ∈ once (As.flatMap vars) ↔ x ∈ As.flatMap vars := fun x => by simp [once, once_mem]
  have inB : ∀ x, x ∈ once (Bs.flatMap vars) ↔ x ∈ Bs.flatMap vars := fun x => by simp [once, once_mem]
  have lowA : ∀ x ∈ once (As.flatMap vars), low x := fun x hx => by
    obtain ⟨T, hT, h⟩ := List.mem_flatMap.mp ((inA x).mp hx)
    exact lA T hT x h
  have lowB : ∀ x ∈ once (Bs.flatMap vars), low x := fun x hx => by
    obtain ⟨T, hT, h⟩ := List.mem_flatMap.mp ((inB x).mp hx)
    exact lB T hT x h
  unfold lined
  rw [lineup_ap _ _ _ lowA (once_nodup (by simp)), lineup_ap _ _ _ lowB (once_nodup (by simp)), ho]
  conv => rhs; rw [hB, List.map_map]
  refine List.map_congr_left fun T hT => ?_
  show T.ap _ = (T.ap g).ap _
  rw [ap_ap]
  refine ap_congr T fun x hx => ?_
  have hx' : x ∈ As.flatMap vars := List.mem_flatMap.mpr ⟨T, hT, hx⟩
  rw [gr x hx']
  exact (lsub_map _ 0 x ((inA x).mpr hx') fun a b ha hb => inj a b ((inA a).mp ha) ((inA b).mp hb)).symm
end Mine
end
section
namespace Mine
open Ty
theorem SRun.det {F : Puts} {r s T : Ty} {n m : Nat} (h : SRun F r n T) : SRun F s m T → r = s := by
  induction h generalizing m with
  | stop h => intro k; cases k with
    | stop _ => rfl
    | step hl _ => rw [h _ rfl] at hl; exact nomatch hl
  | step hl _ ih => intro k; cases k with
    | stop h => rw [h _ rfl] at hl; exact nomatch hl
    | step hl2 k => rw [hl] at hl2; injection hl2 with e; subst e; exact ih k
noncomputable def dputN (P : Puts) (x : Nm) (t : Ty) : Puts := if (P.lookup x).isSome then P.map (fun p => if p.1 = x then (x, t) else p) else P ++ [(x, t)]
noncomputable def look (D : Puts) : Sub := fun y => (D.lookup y).getD (.par y)
noncomputable def inn (h : Ty) (D : Puts) : List Nm := if h.isPar then [] else (once h.vars).filter fun y => (D.lookup y).isNone
noncomputable def fin (h : Ty) (D : Puts) : Ty := if h.isPar then h else h.ap (look D)
structure ZB (l : List Nm) (D : Puts) : Prop where
  len : l.length ≤ 1000
  lenD : D.length ≤ 15
inductive ZRun (F : Puts) (R : Puts → Prop) : Nat → List Nm → Puts → Prop
  | done {D : Puts} : ZB [] D → R D → ZRun F R 0 [] D
  | put {n i : Nat} {x : Nm} {h : Ty} {r : List Nm} {D : Puts} : ZB (x :: r) D → SRun F h i (.par x) → (inn h D = [] ∨ (D.lookup x).isSome = true) → ZRun F R n r (dputN D x (fin h D)) → ZRun F R (n + 1) (x :: r) D
  | more {n i : Nat} {x : Nm} {h : Ty} {r : List Nm} {D : Puts} : ZB (x :: r) D → SRun F h i (.par x) → inn h D ≠ [] → (D.lookup x).isSome = false → ZRun F R n ((inn h D).reverse ++ x :: r) D → ZRun F R (n + 1) (x :: r) D
theorem lookup_app {P : Puts} {x y : Nm} {t : Ty} : (P ++ [(x, t)]).lookup y = ((P.lookup y).or (if y = x then some t else none)) := by
  induction P with
  | nil => by_cases e : y = x
           · subst e; simp
           · simp [List.lookup_cons, beq_false_of_ne e, e]
  | cons p P ih =>
    obtain ⟨z, u⟩ := p
    by_cases e : y = z
    · subst e; simp
    · rw [List.cons_append, List.lookup_cons, List.lookup_cons, beq_false_of_ne e]; exact ih
theorem lookup_upd {P : Puts} {x y : Nm} {t : Ty} : (P.map fun p => if p.1 = x then (x, t) else p).lookup y = if y = x then (P.lookup x).map (fun _ => t) else P.lookup y := by
  induction P with
  | nil => simp
  | cons p P ih =>
    obtain ⟨z, u⟩ := p
    by_cases e : z = x
    · subst e
      simp only [List.map_cons, if_true, List.lookup_cons]
      by_cases e2 : y = z
      · subst e2; simp
      · simp only [beq_false_of_ne e2, ih, if_neg e2]
    · simp only [List.map_cons, if_neg e, List.lookup_cons]
      by_cases e2 : y = z
      · subst e2; simp [e]
      · have e3 : (x == z) = false := beq_false_of_ne fun h => e h.symm
        simp only [beq_false_of_ne e2, ih, e3]
theorem dputN_look {P : Puts} {x y : Nm} {t : Ty} : (dputN P x t).lookup y = if y = x then some t else P.lookup y := by
  unfold dputN
  split
  · rename_i h
    rw [lookup_upd]
    split
    · obtain ⟨u, hu⟩ := Option.isSome_iff_exists.mp h
      rw [hu]; rfl
    · rfl
  · rename_i h
    have hn : P.lookup x = none := Option.not_isSome_iff_eq_none.mp h
    rw [lookup_app]
    by_cases e : y = x
    · subst e; simp [hn]
    · simp [e]
theorem dputN_keys {P : Puts} {x : Nm} {t : Ty} (h : (P.map (·.1)).Nodup) : ((dputN P x t).map (·.1)).Nodup := by
  unfold dputN
  split
  · have : (P.map fun p => if p.1 = x then (x, t) else p).map (·.1) = P.map (·.1) := by
      rw [List.map_map]
      refine List.map_congr_left fun p _ => ?_
      simp only [Function.comp]
      split
      · rename_i e; exact e.symm
      · rfl
    rw [this]; exact h
  · rename_i hn
    rw [List.map_append]
    refine List.nodup_append.mpr ⟨h, by simp, fun a ha b hb => ?_⟩
    obtain ⟨p, hp, rfl⟩ := List.mem_map.mp ha
    simp at hb; subst hb
    exact lookup_none (Option.not_isSome_iff_eq_none.mp hn) p hp
structure DI (F : Puts) (D : Puts) : Prop where
  nd : (D.map (·.1)).Nodup
  val : ∀ x t, D.lookup x = some t → t = W F x
  cl : ∀ x, (D.lookup x).isSome = true → ∀ h i, SRun F h i (.par x) → h.isPar = false → ∀ y ∈ h.vars, (D.lookup y).isSome = true
theorem DI.len {F D : Puts} (h : DI F D) : D.length ≤ 15 := by
  have := nm_len h.nd
  simpa using this
theorem fin_ok {F D : Puts} (ha : Acy F) (I : DI F D) {x : Nm} {h : Ty} {i : Nat} (hs : SRun F h i (.par x)) (hv : h.isPar = false → ∀ y ∈ h.vars, (D.lookup y).isSome = true) : fin h D = W F x := by
  have e : W F x = h.ap (W F) := hs.W ha
  rw [e]
  unfold fin
  by_cases hp : h.isPar = true
  · rw [if_pos hp]
    obtain ⟨y, rfl⟩ := par_of (T := h) (by assumption)
    exact (W_none (hs.free y rfl)).symm
  · rw [if_neg hp]
    refine ap_congr h fun y hy => ?_
    obtain ⟨t, ht⟩ := Option.isSome_iff_exists.mp (hv (by simpa using hp) y hy)
    show (D.lookup y).getD _ = _
    rw [ht]; exact I.val y t ht
theorem inn_nil {h : Ty} {D : Puts} (e : inn h D = []) (hp : h.isPar = false) : ∀ y ∈ h.vars, (D.lookup y).isSome = true := by
  intro y hy
  unfold inn at e
  rw [if_neg (by simp [hp]), List.filter_eq_nil_iff] at e
  have := e y (by simp [once, once_mem, hy])
  simpa using this
theorem DI.put {F D : Puts} (ha : Acy F) (I : DI F D) {x : Nm} {h : Ty} {i : Nat} (hs : SRun F h i (.par x)) (hc : inn h D = [] ∨ (D.lookup x).isSome = true) : DI F (dputN D x (fin h D)) := by
  have hv : h.isPar = false → ∀ y ∈ h.vars, (D.lookup y).isSome = true := fun hp => by
    rcases hc with hc | hc
    · exact inn_nil hc hp
    · exact I.cl x hc h i hs hp
  have hf := fin_ok ha I hs hv
  have mono : ∀ y, (D.lookup y).isSome = true → ((dputN D x (fin h D)).lookup y).isSome = true := fun y hy => by
    rw [dputN_look]; split
    · rfl
    · exact hy
  refine ⟨dputN_keys I.nd, fun y t ht => ?_, fun y hy h' j hs' hp z hz => mono z ?_⟩
  · rw [dputN_look] at ht
    split at ht
    · rename_i e; subst e; injection ht with ht; rw [← ht, hf]
    · exact I.val y t ht
  · rw [dputN_look] at hy
    split at hy
    · rename_i e; subst e
      have := hs.det hs'; subst this
      exact hv hp z hz
    · exact I.cl y hy h' j hs' hp z hz
theorem whole_run {F : Puts} (ha : Acy F) {R : Puts → Prop} {rk : Nm → Nat} (hr : Rk F rk) : ∀ (k : Nat) (x : Nm), rk x ≤ k → ∀ (D : Puts) (r : List Nm), DI F D → r.length + 16 * (k + 1) ≤ 1000 →
    (∀ D', DI F D' → (∀ y, (D.lookup y).isSome = true → (D'.lookup y).isSome = true) → (D'.lookup x).isSome = true → ∃ n, ZRun F R n r D') → ∃ n, ZRun F R n (x :: r) D := by
  intro k
  induction k using Nat.strongRecOn with
  | ind k ik =>
  intro x hx D r I hlen next
  obtain ⟨h, i, hs⟩ := seen_run ha (.par x)
  have B : ∀ {D}, DI F D → ZB (x :: r) D := fun I => ⟨by rw [List.length_cons]; omega, I.len⟩
  have fini : ∀ D1, DI F D1 → (∀ y, (D.lookup y).isSome = true → (D1.lookup y).isSome = true) → (inn h D1 = [] ∨ (D1.lookup x).isSome = true) → ∃ n, ZRun F R n (x :: r) D1 := fun D1 I1 hm hc => by
    obtain ⟨n, hn⟩ := next _ (I1.put ha hs hc) (fun y hy => by
      rw [dputN_look]; split
      · rfl
      · exact hm y hy) (by rw [dputN_look, if_pos rfl]; rfl)
    exact ⟨n + 1, .put (B I1) hs hc hn⟩
  by_cases hc : inn h D = [] ∨ (D.lookup x).isSome = true
  · exact fini D I (fun y hy => hy) hc
  · have hc1 : inn h D ≠ [] := fun e => hc (.inl e)
    have hc2 : (D.lookup x).isSome = false := by
      cases e : (D.lookup x).isSome
      · rfl
      · exact absurd (.inr e) hc
    have hp : h.isPar = false := by
      cases e : h.isPar
      · rfl
      · exact absurd (by unfold inn; rw [if_pos e]) hc1
    have low : ∀ y ∈ inn h D, rk y < rk x := fun y hy => by
      unfold inn at hy
      rw [if_neg (by simp [hp])] at hy
      have := (List.mem_filter.mp hy).1
      simp [once, once_mem] at this
      exact (hs.rk hr x rfl y this).2 hp
    have nd : (inn h D).Nodup := by
      unfold inn
      rw [if_neg (by simp [hp])]
      exact (once_nodup (by simp)).filter _
    have hl15 := nm_len nd
    have list : ∀ (l : List Nm) (D1 : Puts), (∀ y ∈ l, rk y < rk x) → l.length ≤ 15 → DI F D1 → (∀ y, (D.lookup y).isSome = true → (D1.lookup y).isSome = true) →
        (∀ D2, DI F D2 → (∀ y, (D1.lookup y).isSome = true → (D2.lookup y).isSome = true) → (∀ y ∈ l, (D2.lookup y).isSome = true) → ∃ n, ZRun F R n (x :: r) D2) → ∃ n, ZRun F R n (l ++ x :: r) D1 := by
      intro l
      induction l with
      | nil => intro D1 _ _ I1 _ nx; exact nx D1 I1 (fun y hy => hy) fun y hy => nomatch hy
      | cons y l il =>
        intro D1 hl hll I1 hm nx
        have hy := hl y (.head _)
        rw [List.length_cons] at hll
        refine ik (rk y) (by omega) y (Nat.le_refl _) D1 (l ++ x :: r) I1 (by rw [List.length_append, List.length_cons]; omega) fun D2 I2 hm2 hy2 => ?_
        refine il D2 (fun z hz => hl z (.tail _ hz)) (by omega) I2 (fun z hz => hm2 z (hm z hz)) fun D3 I3 hm3 hl3 => nx D3 I3 (fun z hz => hm3 z (hm2 z hz)) fun z hz => ?_
        rcases List.mem_cons.mp hz with e | e
        · subst e; exact hm3 _ hy2
        · exact hl3 z e
    have inner : ∀ D2 : Puts, (∀ y, (D.lookup y).isSome = true → (D2.lookup y).isSome = true) → (∀ y ∈ (inn h D).reverse, (D2.lookup y).isSome = true) → inn h D2 = [] := by
      intro D2 hm2 hl2
      unfold inn
      rw [if_neg (by simp [hp]), List.filter_eq_nil_iff]
      intro y hy
      by_cases e : (D.lookup y).isSome = true
      · simpa using hm2 y e
      · have : y ∈ inn h D := by
          unfold inn
          rw [if_neg (by simp [hp])]
          exact List.mem_filter.mpr ⟨hy, Option.isNone_iff_eq_none.mpr (Option.not_isSome_iff_eq_none.mp e)⟩
        simpa using hl2 y (List.mem_reverse.mpr this)
    obtain ⟨n, hn⟩ := list (inn h D).reverse D (fun y hy => low y (List.mem_reverse.mp hy)) (by rw [List.length_reverse]; exact hl15) I (fun y hy => hy) fun D2 I2 hm2 hl2 => fini D2 I2 hm2 (.inl (inner D2 hm2 hl2))
    exact ⟨n + 1, .more (B I) hs hc1 hc2 hn⟩
theorem whole_ok {F : Puts} (ha : Acy F) {T : Ty} {R : Puts → Prop} (hR : ∀ D : Puts, T.ap (look D) = T.ap (W F) → R D) : ∃ n, ZRun F R n (once T.vars).reverse [] := by
  obtain ⟨rk, hr, h14⟩ := ha
  have ha : Acy F := ⟨rk, hr, h14⟩
  have nd : (once T.vars).Nodup := once_nodup (by simp)
  have hl15 := nm_len nd
  have list : ∀ (l : List Nm) (D1 : Puts), l.length ≤ 15 → DI F D1 → (∀ D2, DI F D2 → (∀ y, (D1.lookup y).isSome = true → (D2.lookup y).isSome = true) → (∀ y ∈ l, (D2.lookup y).isSome = true) → R D2) → ∃ n, ZRun F R n l D1 := by
    intro l
    induction l with
    | nil => intro D1 _ I1 nx; exact ⟨0, .done ⟨by simp, I1.len⟩ (nx D1 I1 (fun y hy => hy) fun y hy => nomatch hy)⟩
    | cons y l il =>
      intro D1 hll I1 nx
      rw [List.length_cons] at hll
      refine whole_run ha hr 14 y (h14 y) D1 l I1 (by omega) fun D2 I2 hm2 hy2 => il D2 (by omega) I2 fun D3 I3 hm3 hl3 => nx D3 I3 (fun z hz => hm3 z (hm2 z hz)) fun z hz => ?_
      rcases List.mem_cons.mp hz with e | e
      · subst e; exact hm3 _ hy2
      · exact hl3 z e
  refine list (once T.vars).reverse [] (by rw [List.length_reverse]; exact hl15) ⟨by simp, fun x t h => by simp at h, fun x h => by simp at h⟩ fun D I _ hl => hR D (ap_congr T fun x hx => ?_)
  obtain ⟨t, ht⟩ := Option.isSome_iff_exists.mp (hl x (by simp [once, once_mem, hx]))
  show (D.lookup x).getD _ = _
  rw [ht]; exact I.val x t ht
end Mine
end
section
open PySem PySem.W PySem.Calls PyProof.Rows
namespace Mine
noncomputable def nms : List Str := ["A", "B", "C", "D", "1 T", "1 U", "2 T", "2 U", "T", "U", "X", "0", "1", "2", "3"]
noncomputable def nm (x : Nm) : Str := nms.getD x.val "A"
theorem nm_inj : ∀ x y : Nm, nm x = nm y → x = y := by decide +kernel
theorem nm_ok : ∀ x : Nm, PyData.strOk (nm x) = true := by decide +kernel
noncomputable def Ty.d : Ty → PyData
  | .bool => .tuple [.str "bool"]
  | .u8 => .tuple [.str "int", .str "u8"]
  | .nev => .tuple [.str "never"]
  | .par x => .tuple [.str "param", .str (nm x)]
  | .box a => .tuple [.str "box", a.d]
  | .arr a => .tuple [.str "array", a.d, .int 2]
  | .ref m a => .tuple [.str "ref", .none, .bool m, a.d]
  | .tup a b => .tuple [.str "tuple", .tuple [a.d, b.d]]
  | .adt a b => .tuple [.str "adt", .str "W", .tuple [], .tuple [a.d, b.d]]
theorem hk_mono {n : Nat} {d : PyData} (h : hk n d) : ∀ {m : Nat}, n ≤ m → hk m d := by
  induction h with
  | none n => exact fun _ => .none _
  | bool n b => exact fun _ => .bool _ b
  | two n => exact fun _ => .two _
  | str h => exact fun _ => .str h
  | tup h ih =>
    intro m hm
    cases m with
    | zero => exact absurd hm (Nat.not_succ_le_zero _)
    | succ m => exact .tup fun x hx => ih x hx (Nat.le_of_succ_le_succ hm)
theorem hkc {n : Nat} {x : PyData} {xs : List PyData} (h : hk n x) (k : ∀ y ∈ xs, hk n y) : ∀ y ∈ x :: xs, hk n y := List.forall_mem_cons.mpr ⟨h, k⟩
theorem hk0 {n : Nat} : ∀ y ∈ ([] : List PyData), hk n y := fun _ h => nomatch h
theorem hk_two {n : Nat} {a b : Ty} (ha : hk (2 * a.dep) a.d) (hb : hk (2 * b.dep) b.d) (h1 : 2 * a.dep ≤ n) (h2 : 2 * b.dep ≤ n) : hk (n + 1) (.tuple [a.d, b.d]) := .tup (hkc (hk_mono ha h1) (hkc (hk_mono hb h2) hk0))
theorem hk_ty (T : Ty) : hk (2 * T.dep) T.d := by
  induction T with
  | bool => exact .tup (n := 1) (hkc (.str (by decide +kernel)) hk0)
  | u8 => exact .tup (n := 1) (hkc (.str (by decide +kernel)) (hkc (.str (by decide +kernel)) hk0))
  | nev => exact .tup (n := 1) (hkc (.str (by decide +kernel)) hk0)
  | par x => exact .tup (n := 1) (hkc (.str (by decide +kernel)) (hkc (.str (nm_ok x)) hk0))
  | box a ih => exact .tup (n := 2 * a.dep + 1) (hkc (.str (by decide +kernel)) (hkc (hk_mono ih (Nat.le_succ _)) hk0))
  | arr a ih => exact .tup (n := 2 * a.dep + 1) (hkc (.str (by decide +kernel)) (hkc (hk_mono ih (Nat.le_succ _)) (hkc (.two _) hk0)))
  | ref m a ih => exact .tup (n := 2 * a.dep + 1) (hkc (.str (by decide +kernel)) (hkc (.none _) (hkc (.bool _ m) (hkc (hk_mono ih (Nat.le_succ _)) hk0))))
  | tup a b ia ib => exact .tup (n := 2 * max a.dep b.dep + 1) (hkc (.str (by decide +kernel)) (hkc (hk_two ia ib (Nat.mul_le_mul_left 2 (Nat.le_max_left ..)) (Nat.mul_le_mul_left 2 (Nat.le_max_right ..))) hk0))
  | adt a b ia ib => exact .tup (n := 2 * max a.dep b.dep + 1) (hkc (.str (by decide +kernel)) (hkc (.str (by decide +kernel)) (hkc (.tup (fun _ h => nomatch h)) (hkc (hk_two ia ib (Nat.mul_le_mul_left 2 (Nat.le_max_left ..)) (Nat.mul_le_mul_left 2 (Nat.le_max_right ..))) hk0))))
theorem str_inj {a b : String} (h : Str.ofString a = Str.ofString b) : a = b := by
  rw [Str.ofString_eq_toList, Str.ofString_eq_toList] at h
  injection h with h
  have h2 := congrArg Array.toList h
  simp only at h2
  have inj : ∀ l m : List Char, l.map Char.toNat = m.map Char.toNat → l = m := by
    intro l
    induction l with
    | nil => intro m h; cases m <;> simp_all
    | cons c l ih =>
      intro m h
      cases m with
      | nil => simp at h
      | cons e m =>
        simp only [List.map_cons, List.cons.injEq] at h
        rw [ih m h.2]
        congr 1
        exact Char.toNat_inj.mp h.1
  exact String.toList_inj.mp (inj _ _ h2)
noncomputable def Ty.kd : Ty → String
  | .bool => "bool"
  | .u8 => "int"
  | .nev => "never"
  | .par _ => "param"
  | .box _ => "box"
  | .arr _ => "array"
  | .ref _ _ => "ref"
  | .tup _ _ => "tuple"
  | .adt _ _ => "adt"
noncomputable def Ty.kn : Ty → Nat
  | .bool => 0
  | .u8 => 1
  | .nev => 2
  | .par _ => 3
  | .box _ => 4
  | .arr _ => 5
  | .ref _ _ => 6
  | .tup _ _ => 7
  | .adt _ _ => 8
def kds : List String := ["bool", "int", "never", "param", "box", "array", "ref", "tuple", "adt"]
theorem kd_kn (T : Ty) : T.kd = kds.getD T.kn "" := by cases T <;> rfl
theorem kn_lt (T : Ty) : T.kn < 9 := by cases T <;> exact Nat.le_of_ble_eq_true rfl
theorem kn_of {S T : Ty} (h : S.kd = T.kd) : S.kn = T.kn := by
  have key : ∀ i j : Fin 9, kds.getD i.val "" = kds.getD j.val "" → i = j := by decide +kernel
  rw [kd_kn, kd_kn] at h
  exact congrArg Fin.val (key ⟨S.kn, kn_lt S⟩ ⟨T.kn, kn_lt T⟩ h)
inductive SK : Ty → Ty → Prop
  | bool : SK .bool .bool
  | u8 : SK .u8 .u8
  | nev : SK .nev .nev
  | par (x y : Nm) : SK (.par x) (.par y)
  | box (a b : Ty) : SK (.box a) (.box b)
  | arr (a b : Ty) : SK (.arr a) (.arr b)
  | ref (m : Bool) (a : Ty) (m' : Bool) (b : Ty) : SK (.ref m a) (.ref m' b)
  | tup (a b a' b' : Ty) : SK (.tup a b) (.tup a' b')
  | adt (a b a' b' : Ty) : SK (.adt a b) (.adt a' b')
theorem nat_no {i j : Nat} {P : Prop} (h : i = j) (e : (i == j) = false) : P := absurd h (ne_of_beq_false e)
theorem sk_of {S T : Ty} (h : S.kd = T.kd) : SK S T := by
  have h := kn_of h
  revert h
  cases S <;> cases T <;> intro h <;> first | constructor | exact nat_no h rfl
noncomputable def d0 : PyData → PyData
  | .tuple (x :: _) => x
  | x => x
theorem d0_d (T : Ty) : d0 T.d = .str (Str.ofString T.kd) := by cases T <;> rfl
theorem sk_d {S T : Ty} (h : S.d = T.d) : SK S T := by
  have h := congrArg d0 h
  rw [d0_d, d0_d] at h
  exact sk_of (str_inj (PyData.str.inj h))
noncomputable def d1 : PyData → PyData
  | .tuple [_, x] => x
  | .tuple [_, x, _] => x
  | .tuple [_, _, _, x] => x
  | x => x
noncomputable def d2 : PyData → PyData
  | .tuple [x, _] => x
  | .tuple [_, _, x, _] => x
  | x => x
noncomputable def d3 : PyData → PyData
  | .tuple [_, x] => x
  | x => x
theorem d_inj : ∀ S T : Ty, S.d = T.d → S = T := by
  intro S
  induction S with
  | par x => intro T h; cases sk_d h; rw [nm_inj _ _ (PyData.str.inj (congrArg d1 h))]
  | box a ih => intro T h; cases sk_d h; rw [ih _ (congrArg d1 h)]
  | arr a ih => intro T h; cases sk_d h; rw [ih _ (congrArg d1 h)]
  | ref m a ih => intro T h; cases sk_d h; rw [ih _ (congrArg d1 h), PyData.bool.inj (congrArg d2 h)]
  | tup a b ia ib => intro T h; cases sk_d h; rw [ia _ (congrArg (fun x => d2 (d1 x)) h), ib _ (congrArg (fun x => d3 (d1 x)) h)]
  | adt a b ia ib => intro T h; cases sk_d h; rw [ia _ (congrArg (fun x => d2 (d1 x)) h), ib _ (congrArg (fun x => d3 (d1 x)) h)]
  | _ => intro T h; cases sk_d h; rfl
theorem ty_eqv (S T : Ty) : PyData.eqv S.d T.d = decide (S = T) := by
  have h := hk_eqv (hk_ty S) (hk_ty T)
  by_cases e : S = T
  · subst e; rw [h.mpr rfl]; simp
  · have : PyData.eqv S.d T.d = false := by
      cases q : PyData.eqv S.d T.d
      · rfl
      · exact absurd (d_inj _ _ (h.mp q)) e
    rw [this]; simp [e]
theorem ty_dOk {T : Ty} (h : T.dep ≤ 240) : dOk T.d = true := by
  have q := hk_lay (hk_ty T)
  have q2 := q.2
  unfold dOk
  rw [q.1, Bool.true_and]
  exact decide_eq_true (by omega)
theorem str_beq (a b : String) : (Str.ofString a == Str.ofString b) = (a == b) := by
  by_cases e : a = b
  · subst e; simp
  · rw [beq_false_of_ne e, beq_false_of_ne fun h => e (str_inj h)]
theorem strs_ok : ∀ s ∈ ["bool", "int", "u8", "never", "param", "box", "array", "ref", "tuple", "adt", "W", "var", "intvar"], PyData.strOk (Str.ofString s) = true := by decide +kernel
theorem ok_param : PyData.strOk (Str.ofString "param") = true := by decide +kernel
theorem eqv_str (a b : Str) : PyData.eqv (.str a) (.str b) = (a == b) := by simp only [PyData.eqv]
theorem eqv_bool (a b : Bool) : PyData.eqv (.bool a) (.bool b) = (a == b) := by simp only [PyData.eqv]
theorem eqv_int (a b : Int) : PyData.eqv (.int a) (.int b) = (a == b) := by simp only [PyData.eqv]
theorem eqv_tuple (a b : List PyData) : PyData.eqv (.tuple a) (.tuple b) = PyData.eqvAll a b := by simp only [PyData.eqv]
theorem eqv_list (a b : List PyData) : PyData.eqv (.list a) (.list b) = PyData.eqvAll a b := by simp only [PyData.eqv]
theorem eqvAll_cons (x y : PyData) (xs ys : List PyData) : PyData.eqvAll (x :: xs) (y :: ys) = (PyData.eqv x y && PyData.eqvAll xs ys) := by simp only [PyData.eqvAll]
theorem kd_par (T : Ty) : (T.kd = "param") = (T.isPar = true) := by
  have e : T.isPar = (T.kn == 3) := by cases T <;> rfl
  rw [e, beq_iff_eq]
  exact propext ⟨fun h => kn_of (T := .par 0) h, fun h => by rw [kd_kn, h]; rfl⟩
theorem kd_ok (T : Ty) : PyData.strOk (Str.ofString T.kd) = true := by
  have L := strs_ok
  simp at L
  cases T <;> simp [Ty.kd, L]
theorem dOk_str {s : Str} (h : PyData.strOk s = true) : dOk (.str s) = true := by
  simp [dOk, PyData.canLay0, PyData.depth, h]
theorem eqQ_ty {σ : Sto} {S T : Ty} (hS : S.dep ≤ 240) (hT : T.dep ≤ 240) {Q : Bool → Prop} (q : Q (decide (S = T))) : eqQ σ (.d S.d) (.d T.d) Q := .d rfl rfl (ty_dOk hS) (ty_dOk hT) (by rw [ty_eqv]; exact q)
theorem eqQ_str {σ : Sto} {a b : Str} (ha : PyData.strOk a = true) (hb : PyData.strOk b = true) {Q : Bool → Prop} (q : Q (a == b)) : eqQ σ (.d (.str a)) (.d (.str b)) Q := .d rfl rfl (dOk_str ha) (dOk_str hb) (by rw [eqv_str]; exact q)
noncomputable abbrev thn (C : Ctr) (r : Sms) (Q : Fl → Rho → Sto → Prop) : Fl → Rho → Sto → Prop := fun fl ρ σ => match fl with
  | .nxt => awSs C r ρ σ Q
  | fl => Q fl ρ σ
section
variable {C : Ctr} {c e : Ex} {a b r : Sms} {ρ : Rho} {σ σ' : Sto} {Q : Fl → Rho → Sto → Prop} {n : Nat} {v : AV}
theorem s_ite {t : Bool} (h : ∀ K : AV → Sto → Prop, K (.d (.bool t)) σ' → awE C c ρ σ K) (k : awSs C (if t then a else b) ρ σ' (thn C r Q)) : awSs C (.cons (.ite c a b) r) ρ σ Q := by
  refine h _ ?_
  cases t <;> exact k
theorem s_ite_f (h : ∀ K : AV → Sto → Prop, K (.d (.bool false)) σ' → awE C c ρ σ K) (k : awSs C r ρ σ' Q) : awSs C (.cons (.ite c a .nil) r) ρ σ Q := s_ite (t := false) h k
theorem s_ite_t (h : ∀ K : AV → Sto → Prop, K (.d (.bool true)) σ' → awE C c ρ σ K) (k : awSs C a ρ σ' (thn C r Q)) : awSs C (.cons (.ite c a b) r) ρ σ Q := s_ite (t := true) h k
theorem s_asg (h : ∀ K : AV → Sto → Prop, K v σ' → awE C e ρ σ K) (k : awSs C r (ρ.set n (some v)) σ' Q) : awSs C (.cons (.asg n e) r) ρ σ Q := by
  exact h _ k
theorem s_ret (h : ∀ K : AV → Sto → Prop, K v σ' → awE C e ρ σ K) (k : Q (.ret v) ρ σ') : awSs C (.cons (.ret e) r) ρ σ Q := by
  exact h _ k
theorem s_expr (h : ∀ K : AV → Sto → Prop, K v σ' → awE C e ρ σ K) (k : awSs C r ρ σ' Q) : awSs C (.cons (.expr e) r) ρ σ Q := by
  exact h _ k
theorem s_nil (k : Q .nxt ρ σ) : awSs C .nil ρ σ Q := k
end
theorem eqQ_int {σ : Sto} {a b : Int} {Q : Bool → Prop} (q : Q (a == b)) : eqQ σ (.d (.int a)) (.d (.int b)) Q := .d rfl rfl (by simp [dOk, PyData.canLay0, PyData.depth]) (by simp [dOk, PyData.canLay0, PyData.depth]) (by rw [eqv_int]; exact q)
theorem eqQ_bool {σ : Sto} {a b : Bool} {Q : Bool → Prop} (q : Q (a == b)) : eqQ σ (.d (.bool a)) (.d (.bool b)) Q := .d rfl rfl (by simp [dOk, PyData.canLay0, PyData.depth]) (by simp [dOk, PyData.canLay0, PyData.depth]) (by rw [eqv_bool]; exact q)
theorem seqIdx {k n : Nat} (h : k < n) : seqIndex? (k : Int) n = some k := by
  unfold seqIndex?
  rw [if_neg (Int.not_lt.mpr (Int.natCast_nonneg k))]
  simp [h]
theorem idx_tk {σ : Sto} {xs : List PyData} {x : PyData} (k : Nat) (h : xs[k]? = some x) (hn : k < 100) (Q : PyData → Prop) (q : Q x) : idxQ σ (.d (.tuple xs)) (.d (.int (k : Nat))) Q := .s rfl rfl (by omega) (by omega) (seqIdx (List.getElem?_eq_some_iff.mp h).1) h q
theorem tab_names : ∀ p ∈ tab, p.1 ≠ ("Both" : Str) ∧ p.1 ≠ ("ImplRow" : Str) := by
  have h : ∀ x ∈ tab.map (fun p : Str × Tab => p.1), x ≠ ("Both" : Str) ∧ x ≠ ("ImplRow" : Str) := by decide +kernel
  exact fun p hp => h p.1 (List.mem_map.mpr ⟨p, hp, rfl⟩)
theorem enter {d : Nat} {f : Str} {p l : List Str} {b : Sms} (h : tab.lookup f = some ⟨p, l, b⟩) {args : List AV} {σ : Sto} {Q : AV → Sto → Prop} (hn : args.length = p.length)
    (k : awSs (Ct d) b (args.map some ++ l.map fun _ => none) σ (Ret Q)) : Ct (d + 1) f args σ Q := by
  have m := tab_names (f, ⟨p, l, b⟩) (lookup_mem' h)
  rw [Ct_tab h m.1 m.2]
  exact ⟨hn, k⟩
noncomputable def Ev (C : Ctr) (ρ : Rho) (σ : Sto) (e : Ex) (v : AV) (σ' : Sto) : Prop := ∀ K : AV → Sto → Prop, K v σ' → awE C e ρ σ K
noncomputable def Ea (C : Ctr) (ρ : Rho) (σ : Sto) (es : Exs) (vs : List AV) (σ' : Sto) : Prop := ∀ K : List AV → Sto → Prop, K vs σ' → awEs C es ρ σ K
noncomputable def Cq (op : CmpOp) (σ : Sto) (v w : AV) (t : Bool) : Prop := ∀ Q : Bool → Prop, Q t → cmpQ op σ v w Q
theorem wS_of {α : Type} {o : Option α} {x : α} {Q : α → Prop} (h : o = some x) (k : Q x) : wS o Q := by rw [h]; exact k
theorem dct_at {σ : Sto} {l : Addr} {kvs : List (Str × PyData)} (h : σ l = some (.dict kvs)) : dictOfA σ (.loc l) = some kvs := by
  show (match σ l with | some (.dict kvs) => some kvs | _ => none) = some kvs
  rw [h]
theorem rd_at {σ : Sto} {l : Addr} {xs : List PyData} (h : σ l = some (.list xs)) : rd σ (.loc l) = some (.list xs) := by
  show (match σ l with | some (.list xs) => some (PyData.list xs) | _ => none) = some (.list xs)
  rw [h]
theorem tst_at {σ : Sto} {l : Addr} {ks : List PyData} (h : σ l = some (.tset ks)) : tsetOf σ (.loc l) = some ks := by
  show (match σ l with | some (.tset ks) => some ks | _ => none) = some ks
  rw [h]
theorem ls_at {σ : Sto} {l : Addr} {xs : List PyData} (h : σ l = some (.list xs)) : lsO σ l = some xs := by unfold lsO; rw [h]
theorem inF_at {σ : Sto} {l : Addr} {b : Bool} {fs : List (Str × AV)} (h : σ l = some (.inst b fs)) : inF σ l = some fs := by unfold inF; rw [h]
theorem inT_at {σ : Sto} {l : Addr} {fs : List (Str × AV)} (h : σ l = some (.inst true fs)) : inT σ l = some () := by unfold inT; rw [h]
section
variable {C : Ctr} {ρ : Rho} {σ σ₁ σ₂ σ₃ σ' : Sto} {e e' a b c o i : Ex} {es : Exs} {v w u va vb : AV} {vs : List AV} {n : Nat} {x y : PyData} {xs ys : List PyData} {l : Addr}
theorem ev_none : Ev C ρ σ .none (.d .none) σ := fun K k => k
theorem ev_bool {b : Bool} : Ev C ρ σ (.bool b) (.d (.bool b)) σ := fun K k => k
theorem ev_int {i : Int} : Ev C ρ σ (.int i) (.d (.int i)) σ := fun K k => k
theorem ev_neg {i : Int} : Ev C ρ σ (.neg i) (.d (.int (-i))) σ := fun K k => k
theorem ev_str {s : Str} : Ev C ρ σ (.str s) (.d (.str s)) σ := fun K k => k
theorem ev_var (h : ρ[n]? = some (some v)) : Ev C ρ σ (.var n) v σ := fun K k => by
  show wS ρ[n]? _
  rw [h]; exact k
theorem ev_idx (ha : Ev C ρ σ a va σ₁) (hi : Ev C ρ σ₁ i vb σ₂) (h : ∀ Q : PyData → Prop, Q x → idxQ σ₂ va vb Q) : Ev C ρ σ (.idx a i) (.d x) σ₂ := fun K k => by
  exact ha _ (hi _ (h _ k))
theorem ev_t0 (ha : Ev C ρ σ a (.d (.tuple (x :: xs))) σ₁) : Ev C ρ σ (.idx a (.int 0)) (.d x) σ₁ := ev_idx ha ev_int (idx_tk 0 rfl (by decide))
theorem ev_t1 (ha : Ev C ρ σ a (.d (.tuple (x :: y :: xs))) σ₁) : Ev C ρ σ (.idx a (.int 1)) (.d y) σ₁ := ev_idx ha ev_int (idx_tk 1 rfl (by decide))
theorem ev_t2 {z : PyData} (ha : Ev C ρ σ a (.d (.tuple (x :: y :: z :: xs))) σ₁) : Ev C ρ σ (.idx a (.int 2)) (.d z) σ₁ := ev_idx ha ev_int (idx_tk 2 rfl (by decide))
theorem ev_t3 {z z' : PyData} (ha : Ev C ρ σ a (.d (.tuple (x :: y :: z :: z' :: xs))) σ₁) : Ev C ρ σ (.idx a (.int 3)) (.d z') σ₁ := ev_idx ha ev_int (idx_tk 3 rfl (by decide))
theorem kd_tup (T : Ty) : ∃ xs, T.d = .tuple (.str (Str.ofString T.kd) :: xs) := by cases T <;> exact ⟨_, rfl⟩
theorem ev_kd {T : Ty} (ha : Ev C ρ σ a (.d T.d) σ₁) : Ev C ρ σ (.idx a (.int 0)) (.d (.str (Str.ofString T.kd))) σ₁ := by
  obtain ⟨xs, e⟩ := kd_tup T
  rw [e] at ha
  exact ev_t0 ha
theorem ev_nm {x : Nm} (ha : Ev C ρ σ a (.d (Ty.par x).d) σ₁) : Ev C ρ σ (.idx a (.int 1)) (.d (.str (nm x))) σ₁ := ev_t1 ha
theorem ev_cmp {op : CmpOp} {t : Bool} (ha : Ev C ρ σ a va σ₁) (hb : Ev C ρ σ₁ b vb σ₂) (h : Cq op σ₂ va vb t) : Ev C ρ σ (.cmp op a b) (.d (.bool t)) σ₂ := fun K k => by
  exact ha _ (hb _ (h _ k))
theorem ev_bin {op : Operator} (ha : Ev C ρ σ a va σ₁) (hb : Ev C ρ σ₁ b vb σ₂) (h : ∀ Q : PyData → Prop, Q x → binQ op va vb Q) : Ev C ρ σ (.bin op a b) (.d x) σ₂ := fun K k => by
  exact ha _ (hb _ (h _ k))
theorem ev_and_f {es : Exs} (ha : Ev C ρ σ a (.d (.bool false)) σ₁) : Ev C ρ σ (.bop .And (.cons a es)) (.d (.bool false)) σ₁ := fun K k => by
  exact ha _ k
theorem ev_and {t : Bool} (ha : Ev C ρ σ a (.d (.bool true)) σ₁) (hb : Ev C ρ σ₁ b (.d (.bool t)) σ₂) : Ev C ρ σ (.bop .And (.cons a (.cons b .nil))) (.d (.bool t)) σ₂ := fun K k => by
  refine ha _ ?_
  show awL C .And (.cons b .nil) ρ σ₁ _
  refine hb _ ?_
  cases t with
  | true =>
    show awL C .And .nil ρ σ₂ fun b σ' => K (.d (.bool b)) σ'
    exact k
  | false => exact k
theorem ev_or_t {es : Exs} (ha : Ev C ρ σ a (.d (.bool true)) σ₁) : Ev C ρ σ (.bop .Or (.cons a es)) (.d (.bool true)) σ₁ := fun K k => by
  exact ha _ k
theorem ev_or {t : Bool} (ha : Ev C ρ σ a (.d (.bool false)) σ₁) (hb : Ev C ρ σ₁ b (.d (.bool t)) σ₂) : Ev C ρ σ (.bop .Or (.cons a (.cons b .nil))) (.d (.bool t)) σ₂ := fun K k => by
  refine ha _ ?_
  show awL C .Or (.cons b .nil) ρ σ₁ _
  refine hb _ ?_
  cases t with
  | true => exact k
  | false =>
    show awL C .Or .nil ρ σ₂ fun b σ' => K (.d (.bool b)) σ'
    exact k
theorem ev_ite {t : Bool} (hc : Ev C ρ σ c (.d (.bool t)) σ₁) (h : Ev C ρ σ₁ (if t then a else b) v σ₂) : Ev C ρ σ (.ite c a b) v σ₂ := fun K k => by
  refine hc _ ?_
  cases t <;> exact h _ k
theorem ev_ite_t (hc : Ev C ρ σ c (.d (.bool true)) σ₁) (h : Ev C ρ σ₁ a v σ₂) : Ev C ρ σ (.ite c a b) v σ₂ := ev_ite hc h
theorem ev_ite_f (hc : Ev C ρ σ c (.d (.bool false)) σ₁) (h : Ev C ρ σ₁ b v σ₂) : Ev C ρ σ (.ite c a b) v σ₂ := ev_ite hc h
theorem eas_nil : Ea C ρ σ .nil [] σ := fun K k => k
theorem eas_cons (ha : Ev C ρ σ a v σ₁) (hs : Ea C ρ σ₁ es vs σ₂) : Ea C ρ σ (.cons a es) (v :: vs) σ₂ := fun K k => by
  exact ha _ (hs _ k)
theorem ea1 (ha : Ev C ρ σ a v σ₁) : Ea C ρ σ (.cons a .nil) [v] σ₁ := eas_cons ha eas_nil
theorem ea2 (ha : Ev C ρ σ a v σ₁) (hb : Ev C ρ σ₁ b w σ₂) : Ea C ρ σ (.cons a (.cons b .nil)) [v, w] σ₂ := eas_cons ha (ea1 hb)
theorem ea3 (ha : Ev C ρ σ a v σ₁) (hb : Ev C ρ σ₁ b w σ₂) (hc : Ev C ρ σ₂ c u σ₃) : Ea C ρ σ (.cons a (.cons b (.cons c .nil))) [v, w, u] σ₃ := eas_cons ha (ea2 hb hc)
theorem ev_tup (h : Ea C ρ σ es vs σ₁) (hd : datas vs = some xs) : Ev C ρ σ (.tup es) (.d (.tuple xs)) σ₁ := fun K k => by
  refine h _ ?_
  rw [hd]; exact k
theorem ev_tup1 (ha : Ev C ρ σ a (.d x) σ₁) : Ev C ρ σ (.tup (.cons a .nil)) (.d (.tuple [x])) σ₁ := ev_tup (ea1 ha) rfl
theorem ev_tup2 (ha : Ev C ρ σ a (.d x) σ₁) (hb : Ev C ρ σ₁ b (.d y) σ₂) : Ev C ρ σ (.tup (.cons a (.cons b .nil))) (.d (.tuple [x, y])) σ₂ := ev_tup (ea2 ha hb) rfl
theorem ev_par {x : Nm} (h : Ev C ρ σ e (.d (.str (nm x))) σ₁) : Ev C ρ σ (.tup (.cons (.str "param") (.cons e .nil))) (.d (Ty.par x).d) σ₁ := ev_tup2 ev_str h
theorem ev_lst (h : Ea C ρ σ es vs σ₁) (hd : datas vs = some xs) : Ev C ρ σ (.lst false es) (.d (.list xs)) σ₁ := fun K k => by
  refine h _ ?_
  rw [hd]; exact k
theorem ev_nil : Ev C ρ σ (.lst false .nil) (.d (.list [])) σ := ev_lst eas_nil rfl
theorem ev_pop (h : ρ[n]? = some (some (.loc l))) (hl : σ l = some (.list (xs ++ [x]))) (hn : xs.length + 1 ≤ sizeLine) : Ev C ρ σ (.pop n) (.d x) (sput σ l (.list xs)) := fun K k => by
  refine wS_of h (wS_of rfl (wS_of rfl (wS_of (ls_at hl) (wS_of List.getLast?_concat ⟨by rw [List.length_append]; exact hn, ?_⟩))))
  rw [List.dropLast_concat]
  exact k
theorem ev_app (h : ρ[n]? = some (some (.loc l))) (hl : σ l = some (.list xs)) (he : Ev C ρ σ e (.d x) σ) (hn : xs.length ≤ sizeLine) : Ev C ρ σ (.app n e) (.d .none) (sput σ l (.list (xs ++ [x]))) := fun K k => by
  exact wS_of h (wS_of rfl (wS_of rfl (wS_of (ls_at hl) (he _ (wS_of rfl (wS_of (ls_at hl) ⟨hn, k⟩))))))
theorem ev_ext {zs : List PyData} (h : ρ[n]? = some (some (.loc l))) (hl : σ l = some (.list xs)) (he : Ev C ρ σ e (.d (.list ys)) σ) (hn : xs.length + ys.length ≤ sizeLine) (hz : xs ++ ys = zs) : Ev C ρ σ (.ext n e) (.d .none) (sput σ l (.list zs)) := fun K k => by
  exact wS_of h (wS_of rfl (wS_of rfl (wS_of (ls_at hl) (he _ (wS_of rfl (wS_of rfl (wS_of (ls_at hl) ⟨hn, hz ▸ k⟩)))))))
theorem ev_call {f : Str} (h : Ea C ρ σ es vs σ₁) (hc : ∀ Q : AV → Sto → Prop, Q v σ₂ → C f vs σ₁ Q) : Ev C ρ σ (.call f es) v σ₂ := fun K k => by
  exact h _ (hc _ k)
theorem ev_bi {f : BI} (h : Ea C ρ σ es vs σ₁) (hc : ∀ Q : AV → Sto → Prop, Q v σ₂ → biQ f σ₁ vs Q) : Ev C ρ σ (.bi f es) v σ₂ := fun K k => by
  exact h _ (hc _ k)
theorem ev_len (h : Ev C ρ σ e v σ₁) (hs : seqRd σ₁ v = some xs) (hn : xs.length ≤ 100000) : Ev C ρ σ (.bi .len (.cons e .nil)) (.d (.int xs.length)) σ₁ := ev_bi (ea1 h) fun Q q => by
  exact .len rfl rfl hs (by omega) q
theorem ev_lenT (h : Ev C ρ σ e (.d (.tuple xs)) σ₁) (hn : xs.length ≤ 100000) : Ev C ρ σ (.bi .len (.cons e .nil)) (.d (.int xs.length)) σ₁ := ev_len h rfl hn
theorem ev_lenL (h : Ev C ρ σ e (.d (.list xs)) σ₁) (hn : xs.length ≤ 100000) : Ev C ρ σ (.bi .len (.cons e .nil)) (.d (.int xs.length)) σ₁ := ev_len h rfl hn
theorem ev_tupL (h : Ev C ρ σ e (.d (.list xs)) σ₁) (hn : xs.length ≤ sizeLine) : Ev C ρ σ (.bi .tuple (.cons e .nil)) (.d (.tuple xs)) σ₁ := ev_bi (ea1 h) fun Q q => .tupL rfl rfl hn q
theorem ev_attr {f : Str} {bb : Bool} {fs : List (Str × AV)} (h : ρ[n]? = some (some (.ins l))) (hl : σ l = some (.inst bb fs)) (hf : fs.lookup f = some v) : Ev C ρ σ (.attr n f) v σ := fun K k => by
  exact wS_of h (wS_of rfl (wS_of rfl (wS_of (inF_at hl) (wS_of hf k))))
theorem ev_meth {f : Str} {fs : List (Str × AV)} (h : ρ[n]? = some (some (.ins l))) (hl : σ l = some (.inst true fs)) (ha : Ea C ρ σ es vs σ₁) (hc : ∀ Q : AV → Sto → Prop, Q v σ₂ → C f (.ins l :: vs) σ₁ Q) : Ev C ρ σ (.meth n f es) v σ₂ := fun K k => by
  exact wS_of h (wS_of rfl (wS_of rfl (wS_of (inT_at hl) (ha _ (hc _ k)))))
theorem ev_lzip (ha : Ev C ρ σ a va σ₁) (hb : Ev C ρ σ₁ b vb σ₂) (h1 : itemsOf va = some xs) (h2 : itemsOf vb = some ys) (h : isLst va = isLst vb) (hn : xs.length ≤ sizeLine) : Ev C ρ σ (.lzip a b) (.d (.list (zips xs ys))) σ₂ := fun K k => by
  refine ha _ (hb _ ?_)
  rw [h1, h2]
  exact ⟨h, hn, k⟩
theorem cq_ty {S T : Ty} (hS : S.dep ≤ 240) (hT : T.dep ≤ 240) : Cq .Eq σ (.d S.d) (.d T.d) (decide (S = T)) := fun Q q => eqQ_ty hS hT q
theorem cq_kk {S T : Ty} : Cq .Eq σ (.d (.str (Str.ofString S.kd))) (.d (.str (Str.ofString T.kd))) (S.kd == T.kd) := fun Q q => eqQ_str (kd_ok S) (kd_ok T) (by rw [str_beq]; exact q)
theorem cq_int {i j : Int} : Cq .Eq σ (.d (.int i)) (.d (.int j)) (i == j) := fun Q q => eqQ_int q
theorem cq_ne {t : Bool} (h : Cq .Eq σ v w t) : Cq .NotEq σ v w (!t) := fun Q q => h (fun b => Q (!b)) q
theorem cq_ni {t : Bool} (h : Cq .In σ v w t) : Cq .NotIn σ v w (!t) := fun Q q => h (fun b => Q (!b)) q
theorem cq_isn {t : Bool} (h : Cq .Is σ v w t) : Cq .IsNot σ v w (!t) := fun Q q => h (fun b => Q (!b)) q
theorem ev_is {T : Ty} {s : String} (hs : PyData.strOk (Str.ofString s) = true) (h : Ev C ρ σ e (.d (.str (Str.ofString T.kd))) σ₁) : Ev C ρ σ (.cmp .Eq e (.str (Str.ofString s))) (.d (.bool (T.kd == s))) σ₁ :=
  ev_cmp h ev_str fun Q q => eqQ_str (kd_ok T) hs (by rw [str_beq]; exact q)
theorem ev_par_t {x : Nm} (h : Ev C ρ σ e (.d (Ty.par x).d) σ₁) : Ev C ρ σ (.cmp .Eq (.idx e (.int 0)) (.str "param")) (.d (.bool true)) σ₁ := ev_is (T := .par x) ok_param (ev_kd h)
theorem par_kd {T : Ty} (h : T.isPar = false) : (T.kd == "param") = false := beq_false_of_ne fun e => by rw [kd_par, h] at e; cases e
theorem ev_par_f {T : Ty} (hp : T.isPar = false) (h : Ev C ρ σ e (.d T.d) σ₁) : Ev C ρ σ (.cmp .Eq (.idx e (.int 0)) (.str "param")) (.d (.bool false)) σ₁ := par_kd hp ▸ ev_is ok_param (ev_kd h)
theorem ev_npar_t {T : Ty} (hp : T.isPar = false) (h : Ev C ρ σ e (.d T.d) σ₁) : Ev C ρ σ (.cmp .NotEq (.idx e (.int 0)) (.str "param")) (.d (.bool true)) σ₁ :=
  ev_cmp (ev_kd h) ev_str (cq_ne (t := false) fun Q q => eqQ_str (kd_ok T) ok_param (by rw [str_beq, par_kd hp]; exact q))
theorem ev_npar_f {x : Nm} (h : Ev C ρ σ e (.d (Ty.par x).d) σ₁) : Ev C ρ σ (.cmp .NotEq (.idx e (.int 0)) (.str "param")) (.d (.bool false)) σ₁ :=
  ev_cmp (ev_kd h) ev_str (cq_ne (t := true) fun Q q => eqQ_str (kd_ok (.par x)) ok_param (by rw [str_beq]; exact q))
theorem ev_eqp {T : Ty} {x : Nm} (hT : T.dep ≤ 240) (h : Ev C ρ σ e (.d T.d) σ₁) (h' : Ev C ρ σ₁ e' (.d (.str (nm x))) σ₂) : Ev C ρ σ (.cmp .Eq e (.tup (.cons (.str "param") (.cons e' .nil)))) (.d (.bool (decide (T = .par x)))) σ₂ :=
  ev_cmp h (ev_par h') (cq_ty hT (Nat.le_trans (Nat.le_of_eq rfl) (by decide : 1 ≤ 240)))
theorem cq_dict {kvs : List (Str × PyData)} {x : Str} (h : σ l = some (.dict kvs)) : Cq .In σ (.d (.str x)) (.loc l) (kvs.lookup x).isSome := fun Q q => by
  exact .m rfl (dct_at h) q
theorem xq_dict {kvs : List (Str × PyData)} {x : Str} (h : σ l = some (.dict kvs)) (e : kvs.lookup x = some y) (Q : PyData → Prop) (q : Q y) : idxQ σ (.loc l) (.d (.str x)) Q := by
  exact .m (dct_at h) rfl e q
noncomputable def CgK (t : Tg) (body cond : Rho → Sto → (AV → Sto → Prop) → Prop) (xs : List PyData) (ρ : Rho) (acc : List PyData) (Q : List PyData → Sto → Prop) : AV → Sto → Prop := fun c σ => wS (boolOf c) fun b =>
  if b then body ρ σ fun v σ' => wS (isD v) fun y => acc.length + 1 ≤ sizeLine ∧ cgo t body cond xs ρ σ' (acc ++ [y]) Q else cgo t body cond xs ρ σ acc Q
theorem cgo_step {t : Tg} {body cond : Rho → Sto → (AV → Sto → Prop) → Prop} {x : PyData} {xs : List PyData} {ρ ρ' : Rho} {σ : Sto} {acc : List PyData} {Q : List PyData → Sto → Prop} (hb : bindT ρ t (.d x) = some ρ') (h : cond ρ' σ (CgK t body cond xs ρ' acc Q)) : cgo t body cond (x :: xs) ρ σ acc Q := wS_of hb h
theorem cgo_map {α : Type} {g h : α → PyData} {ρ : Rho} {σ : Sto} {Q : List PyData → Sto → Prop} : ∀ (xs : List α) (o : Option AV) (acc : List PyData), (∀ a ∈ xs, Ev C (some (.d (g a)) :: ρ) σ e (.d (h a)) σ) → acc.length + xs.length ≤ sizeLine →
    Q (acc ++ xs.map h) σ → cgo (.one 0) (awE C e) (awE C (.bool true)) (xs.map g) (o :: ρ) σ acc Q
  | [], o, acc, k, hn, q => by
    rw [List.map_nil, List.append_nil] at q
    exact q
  | x :: xs, o, acc, k, hn, q => by
    rw [List.length_cons] at hn
    refine cgo_step (ρ' := some (.d (g x)) :: ρ) rfl (ev_bool _ (k x (.head _) _ ⟨by omega, cgo_map xs _ _ (fun a ha => k a (.tail _ ha)) (by rw [List.length_append, List.length_cons, List.length_nil]; omega) ?_⟩))
    rw [List.append_assoc]
    exact q
theorem ev_comp {α : Type} {g h : α → PyData} {xs : List α} {it : Ex} {z : Str} (hi : Ev C ρ σ it v σ₁) (hv : itemsOf v = some (xs.map g)) (k : ∀ a ∈ xs, Ev C (some (.d (g a)) :: ρ) σ₁ e (.d (h a)) σ₁) (hn : xs.length ≤ sizeLine) :
    Ev C ρ σ (.comp false e (.one 0) [z] it (.bool true)) (.d (.list (xs.map h))) σ₁ := fun K q => by
  refine hi _ ?_
  rw [hv]
  exact cgo_map xs _ [] k (by rw [List.length_nil, Nat.zero_add]; exact hn) q
theorem cgo_map2 {α : Type} {g g' h : α → PyData} {ρ : Rho} {σ : Sto} {Q : List PyData → Sto → Prop} : ∀ (xs : List α) (o o' : Option AV) (acc : List PyData), (∀ a ∈ xs, Ev C (some (.d (g a)) :: some (.d (g' a)) :: ρ) σ e (.d (h a)) σ) → acc.length + xs.length ≤ sizeLine →
    Q (acc ++ xs.map h) σ → cgo (.tup [0, 1]) (awE C e) (awE C (.bool true)) (xs.map fun a => .tuple [g a, g' a]) (o :: o' :: ρ) σ acc Q
  | [], o, o', acc, k, hn, q => by
    rw [List.map_nil, List.append_nil] at q
    exact q
  | x :: xs, o, o', acc, k, hn, q => by
    rw [List.length_cons] at hn
    refine cgo_step (ρ' := some (.d (g x)) :: some (.d (g' x)) :: ρ) rfl (ev_bool _ (k x (.head _) _ ⟨by omega, cgo_map2 xs _ _ _ (fun a ha => k a (.tail _ ha)) (by rw [List.length_append, List.length_cons, List.length_nil]; omega) ?_⟩))
    rw [List.append_assoc]
    exact q
theorem ev_comp2 {α : Type} {g g' h : α → PyData} {xs : List α} {it : Ex} {z z' : Str} (hi : Ev C ρ σ it v σ₁) (hv : itemsOf v = some (xs.map fun a => .tuple [g a, g' a])) (k : ∀ a ∈ xs, Ev C (some (.d (g a)) :: some (.d (g' a)) :: ρ) σ₁ e (.d (h a)) σ₁) (hn : xs.length ≤ sizeLine) :
    Ev C ρ σ (.comp false e (.tup [0, 1]) [z, z'] it (.bool true)) (.d (.list (xs.map h))) σ₁ := fun K q => by
  refine hi _ ?_
  rw [hv]
  exact cgo_map2 xs _ _ [] k (by rw [List.length_nil, Nat.zero_add]; exact hn) q
end
noncomputable def Wq (I : Nat → Rho → Sto → Prop) (Q : Fl → Rho → Sto → Prop) (n : Nat) : Fl → Rho → Sto → Prop := fun fl ρ σ => match fl with
  | .ret v => Q (.ret v) ρ σ
  | _ => ∃ m, m < n ∧ I m ρ σ
structure Fk (P : Rho → Sto → Prop) (Q : Fl → Rho → Sto → Prop) (K : Fl → Rho → Sto → Prop) : Prop where
  nxt : ∀ ρ σ, P ρ σ → K .nxt ρ σ
  ret : ∀ v ρ σ, Q (.ret v) ρ σ → K (.ret v) ρ σ
inductive Wt (C : Ctr) (c : Ex) (b r : Sms) (I : Nat → Rho → Sto → Prop) (Q : Fl → Rho → Sto → Prop) (n : Nat) (ρ : Rho) (σ : Sto) : Prop
  | go {σ' : Sto} (h : Ev C ρ σ c (.d (.bool true)) σ') (k : awSs C b ρ σ' (Wq I Q n))
  | out {σ' : Sto} (h : Ev C ρ σ c (.d (.bool false)) σ') (k : awSs C r ρ σ' Q)
section
variable {C : Ctr} {c e : Ex} {a b r : Sms} {ρ ρ' : Rho} {σ σ' σ₁ : Sto} {Q : Fl → Rho → Sto → Prop} {n m : Nat} {v : AV} {I : Nat → Rho → Sto → Prop} {xs : List PyData} {P : List PyData → Rho → Sto → Prop}
theorem wq_go (h : m < n) (k : I m ρ σ) : Wq I Q n .nxt ρ σ := ⟨m, h, k⟩
theorem wq_cnt (h : m < n) (k : I m ρ σ) : Wq I Q n .cnt ρ σ := ⟨m, h, k⟩
theorem s_whl (I : Nat → Rho → Sto → Prop) (h0 : I n ρ σ) (h : ∀ n ρ σ, I n ρ σ → Wt C c b r I Q n ρ σ) : awSs C (.cons (.whl c b) r) ρ σ Q := by
  refine ⟨I, ⟨n, h0⟩, fun n ρ σ hi => ?_⟩
  cases h n ρ σ hi with
  | go h k => exact h _ k
  | out h k => exact h _ k
end
section
variable {C : Ctr} {c e o i : Ex} {a b r : Sms} {ρ ρ' : Rho} {σ σ' σ₁ : Sto} {Q : Fl → Rho → Sto → Prop} {n m : Nat} {v : AV} {l : Addr} {ns : List Nat}
theorem s_cont (k : Q .cnt ρ σ) : awSs C (.cons .cont r) ρ σ Q := k
theorem s_asgT {ds : List PyData} (h : Ev C ρ σ e (.d (.tuple ds)) σ') (hb : bindT ρ (.tup ns) (.d (.tuple ds)) = some ρ') (k : awSs C r ρ' σ' Q) : awSs C (.cons (.asgT ns e) r) ρ σ Q := by
  refine h _ ?_
  rw [hb]
  exact k
theorem s_asgM {es : Exs} {vs : List AV} (h : Ea C ρ σ es vs σ') (hn : vs.length = ns.length) (k : awSs C r (setAll ρ ns vs) σ' Q) : awSs C (.cons (.asgM ns es) r) ρ σ Q := by
  exact h _ ⟨hn, k⟩
theorem s_subT {ds : List PyData} {ks : List PyData} {x : PyData} (he : Ev C ρ σ e (.d x) σ) (ho : Ev C ρ σ o (.loc l) σ) (hi : Ev C ρ σ i (.d (.tuple ds)) σ) (h : σ l = some (.tset ks)) (hk' : hk 8 (.tuple ds)) (hl : ks.length ≤ sizeLine) (hn : (ks.any fun y => PyData.eqv y (.tuple ds)) = false)
    (k : awSs C r ρ (sput σ l (.tset (ks ++ [.tuple ds]))) Q) : awSs C (.cons (.sub o i e) r) ρ σ Q := by
  refine he _ (ho _ (hi _ ?_))
  exact .s rfl rfl h rfl hk' hl (by rw [hn]; exact k)
theorem s_subS {ds : List PyData} {ks : List PyData} (ho : Ev C ρ σ o (.loc l) σ) (hi : Ev C ρ σ i (.d (.tuple ds)) σ) (h : σ l = some (.tset ks)) (hk' : hk 8 (.tuple ds)) (hl : ks.length ≤ sizeLine) (hn : (ks.any fun y => PyData.eqv y (.tuple ds)) = false)
    (k : awSs C r ρ (sput σ l (.tset (ks ++ [.tuple ds]))) Q) : awSs C (.cons (.sub o i (.bool true)) r) ρ σ Q := s_subT ev_bool ho hi h hk' hl hn k
theorem s_subD {x : PyData} {kvs : List (Str × PyData)} {k : Str} (he : Ev C ρ σ e (.d x) σ) (ho : Ev C ρ σ o (.loc l) σ) (hi : Ev C ρ σ i (.d (.str k)) σ) (h : σ l = some (.dict kvs)) (hl : kvs.length ≤ sizeLine)
    (q : awSs C r ρ (sput σ l (.dict (dput kvs k x))) Q) : awSs C (.cons (.sub o i e) r) ρ σ Q := by
  refine he _ (ho _ (hi _ ?_))
  exact .m rfl rfl h rfl hl q
end
theorem cq_wl {σ : Sto} {l : Addr} {xs : List PyData} {t : Bool} (hl : σ l = some (.list xs)) (hd : dOk (.list xs) = true) (e : xs.isEmpty = t) : Cq .Eq σ (.loc l) (.d (.list [])) t := fun Q q => by
  have dn : dOk (.list []) = true := by decide +kernel
  have e2 : PyData.eqvAll xs [] = t := by rw [← e]; cases xs <;> rfl
  exact .d (rd_at hl) rfl hd dn (by rw [eqv_list, e2]; exact q)
theorem ea_lst {C : Ctr} {ρ : Rho} {σ : Sto} {a : Ex} {es : Exs} {x : PyData} {K : List AV → Sto → Prop} (ha : Ev C ρ σ a (.d x) σ) (k : ∀ l, σ l = none → awEs C es ρ (sput σ l (.list [x])) fun vs σ' => K (.loc l :: vs) σ') : awEs C (.cons (.lst true (.cons a .nil)) es) ρ σ K := by
  have h := ea1 ha (fun vs σ' => wS (datas vs) fun ds => ∀ a, σ' a = none → awEs C es ρ (sput σ' a (.list ds)) fun vs σ'' => K (.loc a :: vs) σ'') k
  exact h
theorem ea_dct {C : Ctr} {ρ : Rho} {σ : Sto} {t : Bool} {es : Exs} {K : List AV → Sto → Prop} (k : ∀ l, σ l = none → awEs C es ρ (sput σ l (if t then .tset [] else .dict [])) fun vs σ' => K (.loc l :: vs) σ') : awEs C (.cons (.dct t) es) ρ σ K := by
  exact k
theorem ea_nil {C : Ctr} {ρ : Rho} {σ : Sto} {K : List AV → Sto → Prop} (k : K [] σ) : awEs C .nil ρ σ K := k
theorem s_asgMw {C : Ctr} {ρ : Rho} {σ : Sto} {es : Exs} {r : Sms} {ns : List Nat} {Q : Fl → Rho → Sto → Prop} (h : awEs C es ρ σ fun vs σ' => vs.length = ns.length ∧ awSs C r (setAll ρ ns vs) σ' Q) : awSs C (.cons (.asgM ns es) r) ρ σ Q := by
  exact h
theorem app_ne (xs : List PyData) (x : PyData) : (xs ++ [x]).isEmpty = false := by cases xs <;> rfl
theorem par_of {T : Ty} (h : T.isPar = true) : ∃ x, T = .par x := by
  cases T <;> first | exact ⟨_, rfl⟩ | cases h
theorem evR_meth {C : Ctr} {ρ : Rho} {σ σ₁ : Sto} {n : Nat} {l : Addr} {es : Exs} {vs : List AV} {f : Str} {fs : List (Str × AV)} {K : AV → Sto → Prop} (h : ρ[n]? = some (some (.ins l))) (hl : σ l = some (.inst true fs)) (ha : Ea C ρ σ es vs σ₁) (hc : C f (.ins l :: vs) σ₁ K) : awE C (.meth n f es) ρ σ K := by
  exact wS_of h (wS_of rfl (wS_of rfl (wS_of (inT_at hl) (ha _ hc))))
theorem evR_call {C : Ctr} {ρ : Rho} {σ σ₁ : Sto} {es : Exs} {vs : List AV} {f : Str} {K : AV → Sto → Prop} (ha : Ea C ρ σ es vs σ₁) (hc : C f vs σ₁ K) : awE C (.call f es) ρ σ K := by
  exact ha _ hc
theorem ea_cons {C : Ctr} {ρ : Rho} {σ σ₁ : Sto} {a : Ex} {es : Exs} {v : AV} {K : List AV → Sto → Prop} (ha : Ev C ρ σ a v σ₁) (k : awEs C es ρ σ₁ fun vs σ' => K (v :: vs) σ') : awEs C (.cons a es) ρ σ K := by
  exact ha _ k
theorem s_newL {C : Ctr} {ρ : Rho} {σ : Sto} {n : Nat} {es : Exs} {r : Sms} {Q : Fl → Rho → Sto → Prop} (h : awEs C es ρ σ fun vs σ' => wS (datas vs) fun ds => ∀ a, σ' a = none → awSs C r (ρ.set n (some (.loc a))) (sput σ' a (.list ds)) Q) : awSs C (.cons (.asg n (.lst true es)) r) ρ σ Q := by
  exact h
noncomputable def Ik (C : Ctr) (a b r : Sms) (ρ : Rho) (Q : Fl → Rho → Sto → Prop) : AV → Sto → Prop := fun v σ => wS (boolOf v) fun t => if t then awSs C a ρ σ (thn C r Q) else awSs C b ρ σ (thn C r Q)
section
variable {C : Ctr} {c : Ex} {a b r : Sms} {ρ : Rho} {σ : Sto} {Q : Fl → Rho → Sto → Prop}
theorem s_iteM (k : awE C c ρ σ (Ik C a b r ρ Q)) : awSs C (.cons (.ite c a b) r) ρ σ Q := by
  exact k
theorem s_iteN (k : awE C c ρ σ (Ik C b a r ρ Q)) : awSs C (.cons (.ite (.not c) a b) r) ρ σ Q := by
  have e : Ik C b a r ρ Q = fun v σ => wS (boolOf v) fun t => wS (boolOf (.d (.bool !t))) fun t => if t then awSs C a ρ σ (thn C r Q) else awSs C b ρ σ (thn C r Q) := by
    funext v σ
    unfold Ik
    cases boolOf v with
    | none => rfl
    | some t => cases t <;> rfl
  rw [e] at k
  exact k
theorem ik_t (k : awSs C a ρ σ (thn C r Q)) : Ik C a b r ρ Q (.d (.bool true)) σ := k
theorem ik_f (k : awSs C b ρ σ (thn C r Q)) : Ik C a b r ρ Q (.d (.bool false)) σ := k
end
noncomputable def FcK (K : AV → Sto → Prop) : AV → Sto → Prop := fun v σ => wS (isLoc v) fun a => wS (lsO σ a) fun xs => K (.d (.list xs)) (scut σ a)
noncomputable def CmK (C : Ctr) (e c : Ex) (t : Tg) (tn : List Str) (ρ : Rho) (K : AV → Sto → Prop) : AV → Sto → Prop := fun v σ => wS (itemsOf v) fun xs => cgo t (awE C e) (awE C c) xs (tn.map (fun _ => none) ++ ρ) σ [] fun ys σ' => K (.d (.list ys)) σ'
section
variable {C : Ctr} {c e it : Ex} {es : Exs} {a b r : Sms} {ρ : Rho} {σ σ₁ : Sto} {Q : Fl → Rho → Sto → Prop} {n : Nat} {v : AV} {vs : List AV} {l : Addr} {f : Str} {K : AV → Sto → Prop} {xs : List PyData}
theorem s_asgR (h : awE C e ρ σ fun v σ' => awSs C r (ρ.set n (some v)) σ' Q) : awSs C (.cons (.asg n e) r) ρ σ Q := by
  exact h
theorem s_retR (h : awE C e ρ σ fun v σ' => Q (.ret v) ρ σ') : awSs C (.cons (.ret e) r) ρ σ Q := by
  exact h
theorem evR_ite_f {a b : Ex} (hc : Ev C ρ σ c (.d (.bool false)) σ₁) (k : awE C b ρ σ₁ K) : awE C (.ite c a b) ρ σ K := by
  exact hc _ k
theorem evR_ite_t {a b : Ex} (hc : Ev C ρ σ c (.d (.bool true)) σ₁) (k : awE C a ρ σ₁ K) : awE C (.ite c a b) ρ σ K := by
  exact hc _ k
theorem evR_fcall (ha : Ea C ρ σ es vs σ₁) (hc : C f vs σ₁ (FcK K)) : awE C (.fcall f es) ρ σ K := by
  exact ha _ hc
theorem fck (h : σ l = some (.list xs)) (k : K (.d (.list xs)) (scut σ l)) : FcK K (.loc l) σ := by
  have e : lsO σ l = some xs := by unfold lsO; rw [h]
  show wS (lsO σ l) _
  rw [e]
  exact k
theorem evR_comp {t : Tg} {tn : List Str} (k : awE C it ρ σ (CmK C e c t tn ρ K)) : awE C (.comp false e t tn it c) ρ σ K := by
  exact k
theorem cgo_filter {α : Type} {g : α → PyData} {p : α → Bool} {Q : List PyData → Sto → Prop} : ∀ (xs : List α) (o : Option AV) (acc : List PyData), (∀ a ∈ xs, Ev C (some (.d (g a)) :: ρ) σ c (.d (.bool (p a))) σ) → acc.length + xs.length ≤ sizeLine →
    Q (acc ++ (xs.filter p).map g) σ → cgo (.one 0) (awE C (.var 0)) (awE C c) (xs.map g) (o :: ρ) σ acc Q
  | [], o, acc, k, hn, q => by
    rw [List.filter_nil, List.map_nil, List.append_nil] at q
    exact q
  | x :: xs, o, acc, k, hn, q => by
    rw [List.length_cons] at hn
    refine cgo_step (ρ' := some (.d (g x)) :: ρ) rfl (k x (.head _) _ ?_)
    cases hp : p x with
    | true =>
      have hv : Ev C (some (.d (g x)) :: ρ) σ (.var 0) (.d (g x)) σ := ev_var rfl
      refine hv (fun v σ'' => wS (isD v) fun y => acc.length + 1 ≤ sizeLine ∧ cgo (.one 0) (awE C (.var 0)) (awE C c) (xs.map g) (some (.d (g x)) :: ρ) σ'' (acc ++ [y]) Q) ⟨by omega, cgo_filter xs _ _ (fun a ha => k a (.tail _ ha)) (by rw [List.length_append, List.length_cons, List.length_nil]; omega) ?_⟩
      rw [List.filter_cons_of_pos hp] at q
      rw [List.append_assoc]
      exact q
    | false =>
      refine cgo_filter xs _ _ (fun a ha => k a (.tail _ ha)) (by omega) ?_
      rw [List.filter_cons_of_neg (by rw [hp]; exact Bool.false_ne_true)] at q
      exact q
theorem cm_filter {α : Type} {g : α → PyData} {p : α → Bool} {z : Str} {xs : List α} (k : ∀ a ∈ xs, Ev C (some (.d (g a)) :: ρ) σ c (.d (.bool (p a))) σ) (hn : xs.length ≤ sizeLine) (q : K (.d (.list ((xs.filter p).map g))) σ) : CmK C (.var 0) c (.one 0) [z] ρ K (.d (.list (xs.map g))) σ :=
  cgo_filter xs _ [] k (by rw [List.length_nil, Nat.zero_add]; exact hn) q
end
theorem eaR_cons {C : Ctr} {ρ : Rho} {σ : Sto} {a : Ex} {es : Exs} {K : List AV → Sto → Prop} (ha : awE C a ρ σ fun v σ' => awEs C es ρ σ' fun vs σ' => K (v :: vs) σ') : awEs C (.cons a es) ρ σ K := by
  exact ha
theorem so_L : PyData.strOk (Str.ofString "int") = true ∧ PyData.strOk (Str.ofString "box") = true ∧ PyData.strOk (Str.ofString "array") = true ∧ PyData.strOk (Str.ofString "ref") = true ∧ PyData.strOk (Str.ofString "tuple") = true ∧ PyData.strOk (Str.ofString "adt") = true := by decide +kernel
theorem so_box : PyData.strOk (Str.ofString "box") = true := so_L.2.1
theorem so_arr : PyData.strOk (Str.ofString "array") = true := so_L.2.2.1
theorem so_ref : PyData.strOk (Str.ofString "ref") = true := so_L.2.2.2.1
theorem so_tup : PyData.strOk (Str.ofString "tuple") = true := so_L.2.2.2.2.1
theorem so_adt : PyData.strOk (Str.ofString "adt") = true := so_L.2.2.2.2.2
section
variable {C : Ctr} {e a b c d : Ex} {ρ : Rho} {σ σ₁ σ₂ σ₃ σ₄ : Sto} {T : Ty} {t : Bool} {s : String}
theorem ev_k {k : String} (hs : PyData.strOk (Str.ofString s) = true) (hk : T.kd = k) (h : Ev C ρ σ e (.d T.d) σ₁) (e' : (k == s) = t) : Ev C ρ σ (.cmp .Eq (.idx e (.int 0)) (.str (Str.ofString s))) (.d (.bool t)) σ₁ := by
  rw [← e', ← hk]
  exact ev_is hs (ev_kd h)
theorem dOk_tup {xs : List PyData} {n : Nat} (h : PyData.canLayAll0 xs = true ∧ PyData.depthAll xs ≤ 499) : dOk (.tuple xs) = true := by
  refine Bool.and_eq_true_iff.mpr ⟨by simpa only [PyData.canLay0] using h.1, decide_eq_true ?_⟩
  have e : (PyData.tuple xs).depth = PyData.depthAll xs + 1 := by simp only [PyData.depth]; try omega
  omega
theorem strs_dOk : ∀ {xs : List String}, (∀ x ∈ xs, PyData.strOk (Str.ofString x) = true) → PyData.canLayAll0 (xs.map fun x => .str (Str.ofString x)) = true ∧ PyData.depthAll (xs.map fun x => .str (Str.ofString x)) ≤ 10
  | [], _ => ⟨rfl, Nat.zero_le _⟩
  | x :: xs, h => by
    have ih := strs_dOk (xs := xs) fun y hy => h y (.tail _ hy)
    have hx := h x (.head _)
    have e1 : PyData.canLay0 (.str (Str.ofString x)) = true := hx
    have e2 : PyData.depth (.str (Str.ofString x)) ≤ 10 := by simp [PyData.depth]
    simp only [List.map_cons, PyData.canLayAll0, PyData.depthAll, e1, ih.1, Bool.and_self, true_and]
    exact Nat.max_le.mpr ⟨e2, ih.2⟩
theorem cq_strs {k : String} (xs : List String) (hk : PyData.strOk (Str.ofString k) = true) (h : ∀ x ∈ xs, PyData.strOk (Str.ofString x) = true) : Cq .In σ (.d (.str (Str.ofString k))) (.d (.tuple (xs.map fun x => .str (Str.ofString x)))) (xs.any fun x => x == k) := fun Q q => by
  have e : ((xs.map fun x => PyData.str (Str.ofString x)).any fun y => PyData.eqv y (.str (Str.ofString k))) = xs.any fun x => x == k := by
    rw [List.any_map]
    congr 1; funext x
    exact (eqv_str _ _).trans (str_beq _ _)
  have h2 := strs_dOk h
  exact .t rfl rfl (dOk_str hk) (dOk_tup (n := 0) ⟨h2.1, Nat.le_trans h2.2 (by decide)⟩) (by rw [e]; exact q)
theorem ev_tup3 {x y z : PyData} (ha : Ev C ρ σ a (.d x) σ₁) (hb : Ev C ρ σ₁ b (.d y) σ₂) (hc : Ev C ρ σ₂ c (.d z) σ₃) : Ev C ρ σ (.tup (.cons a (.cons b (.cons c .nil)))) (.d (.tuple [x, y, z])) σ₃ := ev_tup (ea3 ha hb hc) rfl
theorem ev_tup4 {x y z u : PyData} (ha : Ev C ρ σ a (.d x) σ₁) (hb : Ev C ρ σ₁ b (.d y) σ₂) (hc : Ev C ρ σ₂ c (.d z) σ₃) (hd : Ev C ρ σ₃ d (.d u) σ₄) : Ev C ρ σ (.tup (.cons a (.cons b (.cons c (.cons d .nil))))) (.d (.tuple [x, y, z, u])) σ₄ := ev_tup (eas_cons ha (ea3 hb hc hd)) rfl
theorem ev_in2 {k : String} {p q : String} (hp : PyData.strOk (Str.ofString p) = true) (hq : PyData.strOk (Str.ofString q) = true) (hk : T.kd = k) (h : Ev C ρ σ e (.d T.d) σ₁) (e' : ([p, q].any fun x => x == k) = t) :
    Ev C ρ σ (.cmp .In (.idx e (.int 0)) (.tup (.cons (.str (Str.ofString p)) (.cons (.str (Str.ofString q)) .nil)))) (.d (.bool t)) σ₁ := by
  rw [← e', ← hk]
  exact ev_cmp (ev_kd h) (ev_tup2 ev_str ev_str) (cq_strs [p, q] (kd_ok T) fun x hx => by
    rcases List.mem_cons.mp hx with rfl | hx
    · exact hp
    · exact List.mem_singleton.mp hx ▸ hq)
end
noncomputable def ForK (C : Ctr) (t : Tg) (b r : Sms) (ρ : Rho) (Q : Fl → Rho → Sto → Prop) : AV → Sto → Prop := fun v σ => wS (itemsOf v) fun xs => fgo t (awSs C b) xs ρ σ (thn C r Q)
section
variable {C : Ctr} {it : Ex} {b r : Sms} {ρ : Rho} {σ σ₁ : Sto} {Q : Fl → Rho → Sto → Prop} {v : AV} {t : Tg}
theorem s_forR (h : awE C it ρ σ (ForK C t b r ρ Q)) : awSs C (.cons (.for_ t it b) r) ρ σ Q := by
  exact h
theorem for_run {α : Type} {g : α → PyData} {l : List α} (f : α → Rho → Rho) (P : List α → Rho → Sto → Prop) (hv : itemsOf v = some (l.map g)) (hb : ∀ x ρ, bindT ρ t (.d (g x)) = some (f x ρ)) (h0 : P l ρ σ) (h1 : ∀ ρ σ, P [] ρ σ → awSs C r ρ σ Q)
    (h2 : ∀ x xs ρ σ, P (x :: xs) ρ σ → ∀ K, Fk (P xs) Q K → awSs C b (f x ρ) σ K) : ForK C t b r ρ Q v σ := by
  have key : ∀ xs ρ σ, P xs ρ σ → fgo t (awSs C b) (xs.map g) ρ σ (thn C r Q) := by
    intro xs
    induction xs with
    | nil => exact h1
    | cons x xs ih =>
      intro ρ σ p
      exact wS_of (hb x ρ) (h2 x xs ρ σ p _ ⟨ih, fun v ρ σ q => q⟩)
  unfold ForK
  rw [hv]
  exact key l ρ σ h0
theorem for1 {α : Type} {g : α → PyData} {l : List α} {n : Nat} (P : List α → Rho → Sto → Prop) (hv : itemsOf v = some (l.map g)) (h0 : P l ρ σ) (h1 : ∀ ρ σ, P [] ρ σ → awSs C r ρ σ Q)
    (h2 : ∀ x xs ρ σ, P (x :: xs) ρ σ → ∀ K, Fk (P xs) Q K → awSs C b (ρ.set n (some (.d (g x)))) σ K) : ForK C (.one n) b r ρ Q v σ := for_run (fun x ρ => ρ.set n (some (.d (g x)))) P hv (fun _ _ => rfl) h0 h1 h2
theorem for2 {α : Type} {g g' : α → PyData} {l : List α} {n m : Nat} (P : List α → Rho → Sto → Prop) (hv : itemsOf v = some (l.map fun x => .tuple [g x, g' x])) (h0 : P l ρ σ) (h1 : ∀ ρ σ, P [] ρ σ → awSs C r ρ σ Q)
    (h2 : ∀ x xs ρ σ, P (x :: xs) ρ σ → ∀ K, Fk (P xs) Q K → awSs C b ((ρ.set n (some (.d (g x)))).set m (some (.d (g' x)))) σ K) : ForK C (.tup [n, m]) b r ρ Q v σ := for_run (fun x ρ => (ρ.set n (some (.d (g x)))).set m (some (.d (g' x)))) P hv (fun _ _ => rfl) h0 h1 h2
theorem s_for1 {α : Type} {g : α → PyData} {l : List α} {n : Nat} (P : List α → Rho → Sto → Prop) (hi : Ev C ρ σ it v σ₁) (hv : itemsOf v = some (l.map g)) (h0 : P l ρ σ₁) (h1 : ∀ ρ σ, P [] ρ σ → awSs C r ρ σ Q)
    (h2 : ∀ x xs ρ σ, P (x :: xs) ρ σ → ∀ K, Fk (P xs) Q K → awSs C b (ρ.set n (some (.d (g x)))) σ K) : awSs C (.cons (.for_ (.one n) it b) r) ρ σ Q := s_forR (hi _ (for1 P hv h0 h1 h2))
theorem ev_addL {xs ys zs : List PyData} {a e : Ex} {σ₂ : Sto} (ha : Ev C ρ σ a (.d (.list xs)) σ₁) (hb : Ev C ρ σ₁ e (.d (.list ys)) σ₂) (hn : xs.length + ys.length ≤ sizeLine) (hz : xs ++ ys = zs) : Ev C ρ σ (.bin .Add a e) (.d (.list zs)) σ₂ := ev_bin ha hb fun Q q => .l rfl rfl hn (hz ▸ q)
end
noncomputable def EnK (K : AV → Sto → Prop) : AV → Sto → Prop := fun v σ => wS (isD v) fun x => wS (itemsL x) fun xs => K (.d (.list (enums xs))) σ
theorem evR_enum {C : Ctr} {ρ : Rho} {σ : Sto} {e : Ex} {K : AV → Sto → Prop} (k : awE C e ρ σ (EnK K)) : awE C (.enum e) ρ σ K := by
  exact k
theorem ev_compE {C : Ctr} {ρ : Rho} {σ σ₁ : Sto} {e it : Ex} {v : AV} {z : Str} {α : Type} {g h : α → PyData} {xs : List α} {ys : List PyData} (hi : Ev C ρ σ it v σ₁) (hv : itemsOf v = some (xs.map g)) (k : ∀ a ∈ xs, Ev C (some (.d (g a)) :: ρ) σ₁ e (.d (h a)) σ₁) (hn : xs.length ≤ sizeLine) (hy : xs.map h = ys) :
    Ev C ρ σ (.comp false e (.one 0) [z] it (.bool true)) (.d (.list ys)) σ₁ := hy ▸ ev_comp hi hv k hn
theorem ev_comp2E {C : Ctr} {ρ : Rho} {σ σ₁ : Sto} {e it : Ex} {v : AV} {z z' : Str} {α : Type} {g g' h : α → PyData} {xs : List α} {ys : List PyData} (hi : Ev C ρ σ it v σ₁) (hv : itemsOf v = some (xs.map fun a => .tuple [g a, g' a])) (k : ∀ a ∈ xs, Ev C (some (.d (g a)) :: some (.d (g' a)) :: ρ) σ₁ e (.d (h a)) σ₁) (hn : xs.length ≤ sizeLine) (hy : xs.map h = ys) :
    Ev C ρ σ (.comp false e (.tup [0, 1]) [z, z'] it (.bool true)) (.d (.list ys)) σ₁ := hy ▸ ev_comp2 hi hv k hn
section
variable {C : Ctr} {e a b i : Ex} {es : Exs} {r : Sms} {ρ : Rho} {σ σ₁ σ₂ : Sto} {x y z : Int} {t : Bool} {n : Nat} {va : AV} {vs : List AV} {K : AV → Sto → Prop} {Q : Fl → Rho → Sto → Prop} {l : Addr}
theorem ev_add (ha : Ev C ρ σ a (.d (.int x)) σ₁) (hb : Ev C ρ σ₁ b (.d (.int y)) σ₂) : Ev C ρ σ (.bin .Add a b) (.d (.int (x + y))) σ₂ := ev_bin ha hb fun Q q => .i rfl rfl q
theorem ev_sub (ha : Ev C ρ σ a (.d (.int x)) σ₁) (hb : Ev C ρ σ₁ b (.d (.int y)) σ₂) : Ev C ρ σ (.bin .Sub a b) (.d (.int (x - y))) σ₂ := ev_bin ha hb fun Q q => .mk rfl rfl q
theorem ev_mul (h : IntMulOk x y) (ha : Ev C ρ σ a (.d (.int x)) σ₁) (hb : Ev C ρ σ₁ b (.d (.int y)) σ₂) : Ev C ρ σ (.bin .Mult a b) (.d (.int (x * y))) σ₂ := ev_bin ha hb fun Q q => .mk rfl rfl ⟨h, q⟩
theorem ev_mod (h : y ≠ 0) (ha : Ev C ρ σ a (.d (.int x)) σ₁) (hb : Ev C ρ σ₁ b (.d (.int y)) σ₂) : Ev C ρ σ (.bin .Mod a b) (.d (.int (x.fmod y))) σ₂ := ev_bin ha hb fun Q q => .mk rfl rfl ⟨h, q⟩
theorem ev_fdiv (h : y ≠ 0) (hp : Builtin.divisionGoesByPylong x y = false) (ha : Ev C ρ σ a (.d (.int x)) σ₁) (hb : Ev C ρ σ₁ b (.d (.int y)) σ₂) : Ev C ρ σ (.bin .FloorDiv a b) (.d (.int (x.fdiv y))) σ₂ := ev_bin ha hb fun Q q => .mk rfl rfl ⟨h, hp, q⟩
theorem ev_intI (h : Ev C ρ σ e (.d (.int x)) σ₁) : Ev C ρ σ (.bi .int (.cons e .nil)) (.d (.int x)) σ₁ := ev_bi (ea1 h) fun Q q => .intI rfl rfl q
theorem ev_intB (h : Ev C ρ σ e (.d (.bool t)) σ₁) : Ev C ρ σ (.bi .int (.cons e .nil)) (.d (.int (if t then 1 else 0))) σ₁ := ev_bi (ea1 h) fun Q q => .intB rfl rfl q
theorem ev_max (ha : Ev C ρ σ a (.d (.int x)) σ₁) (hb : Ev C ρ σ₁ b (.d (.int y)) σ₂) (e : (if y > x then y else x) = z) : Ev C ρ σ (.bi .max (.cons a (.cons b .nil))) (.d (.int z)) σ₂ := ev_bi (ea2 ha hb) fun Q q => by
  rw [← e] at q
  exact .max rfl rfl q
theorem ev_gt (ha : Ev C ρ σ a (.d (.int x)) σ₁) (hb : Ev C ρ σ₁ b (.d (.int y)) σ₂) (e : decide (x > y) = t) : Ev C ρ σ (.cmp .Gt a b) (.d (.bool t)) σ₂ := ev_cmp ha hb fun Q q => by
  rw [← e] at q
  exact .mk rfl rfl q
theorem ev_lt (ha : Ev C ρ σ a (.d (.int x)) σ₁) (hb : Ev C ρ σ₁ b (.d (.int y)) σ₂) (e : decide (x < y) = t) : Ev C ρ σ (.cmp .Lt a b) (.d (.bool t)) σ₂ := ev_cmp ha hb fun Q q => by
  rw [← e] at q
  exact .mk rfl rfl q
theorem ev_ge (ha : Ev C ρ σ a (.d (.int x)) σ₁) (hb : Ev C ρ σ₁ b (.d (.int y)) σ₂) : Ev C ρ σ (.cmp .GtE a b) (.d (.bool (decide (x ≥ y)))) σ₂ := ev_cmp ha hb fun Q q => .mk rfl rfl q
theorem ev_eqi (ha : Ev C ρ σ a (.d (.int x)) σ₁) (hb : Ev C ρ σ₁ b (.d (.int y)) σ₂) (e : (x == y) = t) : Ev C ρ σ (.cmp .Eq a b) (.d (.bool t)) σ₂ := e ▸ ev_cmp ha hb cq_int
theorem evR_idx (ha : Ev C ρ σ a va σ₁) (k : awE C i ρ σ₁ fun w σ' => idxQ σ' va w fun r => K (.d r) σ') : awE C (.idx a i) ρ σ K := by
  exact ha _ k
theorem evR_new {ds : List PyData} (h : Ea C ρ σ es vs σ₁) (hd : datas vs = some ds) (k : ∀ a, σ₁ a = none → K (.loc a) (sput σ₁ a (.list ds))) : awE C (.lst true es) ρ σ K := by
  refine h _ ?_
  rw [hd]
  exact k
theorem s_subL {o : Ex} {v : PyData} {xs : List PyData} {k : Nat} (he : Ev C ρ σ e (.d v) σ) (ho : Ev C ρ σ o (.loc l) σ) (hi : Ev C ρ σ i (.d (.int k)) σ) (h : σ l = some (.list xs)) (hk : k < xs.length) (hn : xs.length ≤ 1000) (q : awSs C r ρ (sput σ l (.list (xs.set k v))) Q) : awSs C (.cons (.sub o i e) r) ρ σ Q := by
  refine he _ (ho _ (hi _ ?_))
  exact .l rfl rfl h rfl (Int.natCast_nonneg k) (by omega) (by omega) q
end
theorem xq_list {xs : List PyData} {x : PyData} {k : Nat} {σ : Sto} (h : xs[k]? = some x) (hn : xs.length ≤ 100000) (Q : PyData → Prop) (q : Q x) : idxQ σ (.d (.list xs)) (.d (.int (k : Nat))) Q := by
  have hk := (List.getElem?_eq_some_iff.mp h).1
  exact .s rfl rfl (by omega) (by omega) (seqIdx hk) h q
theorem ev_dgetA {C : Ctr} {ρ : Rho} {σ : Sto} {n : Nat} {k e : Ex} {l : Addr} {kvs : List (Str × PyData)} {s : Str} {y : PyData} (h : ρ[n]? = some (some (.loc l))) (e1 : dictOfA σ (.loc l) = some kvs) (hk : Ev C ρ σ k (.d (.str s)) σ) (he : Ev C ρ σ e (.d y) σ) : Ev C ρ σ (.get n k e) (.d ((kvs.lookup s).getD y)) σ := fun K q =>
  wS_of h (wS_of rfl (wS_of rfl (wS_of e1 (hk _ (he _ (wS_of e1 (wS_of rfl (wS_of rfl (wS_of rfl q)))))))))
theorem ev_dget {C : Ctr} {ρ : Rho} {σ : Sto} {n : Nat} {k e : Ex} {l : Addr} {kvs : List (Str × PyData)} {s : Str} {y : PyData} (h : ρ[n]? = some (some (.loc l))) (hl : σ l = some (.dict kvs)) (hk : Ev C ρ σ k (.d (.str s)) σ) (he : Ev C ρ σ e (.d y) σ) : Ev C ρ σ (.get n k e) (.d ((kvs.lookup s).getD y)) σ := ev_dgetA h (dct_at hl) hk he
theorem evR_cmp {C : Ctr} {ρ : Rho} {σ : Sto} {op : CmpOp} {a b : Ex} {K : AV → Sto → Prop} (k : awE C a ρ σ fun v σ' => awE C b ρ σ' fun w σ'' => cmpQ op σ'' v w fun r => K (.d (.bool r)) σ'') : awE C (.cmp op a b) ρ σ K := by
  exact k
noncomputable def CrK (C : Ctr) (e : Ex) (ρ : Rho) (K : AV → Sto → Prop) : AV → Sto → Prop := fun v σ => wS (rngOf v) fun xs => cgo (.one 0) (awE C e) (awE C (.bool true)) xs (none :: ρ) σ [] fun ys σ' => K (.d (.list ys)) σ'
theorem evR_compR {C : Ctr} {ρ : Rho} {σ : Sto} {e n : Ex} {z : Str} {K : AV → Sto → Prop} (k : awE C n ρ σ (CrK C e ρ K)) : awE C (.compR false e (.one 0) [z] n (.bool true)) ρ σ K := by
  exact k
theorem rng_of (n : Nat) (h : n ≤ 100) : rngOf (.d (.int n)) = some ((List.range n).map fun (i : Nat) => PyData.int i) := by
  show (if 0 ≤ (n : Int) ∧ (n : Int) ≤ 100 then some ((List.range (n : Int).toNat).map fun (i : Nat) => PyData.int i) else none) = _
  rw [if_pos (by omega), Int.toNat_natCast]
theorem ea_four {C : Ctr} {ρ : Rho} {σ σ₁ σ₂ σ₃ σ₄ : Sto} {a b c d : Ex} {v w u x : AV} (ha : Ev C ρ σ a v σ₁) (hb : Ev C ρ σ₁ b w σ₂) (hc : Ev C ρ σ₂ c u σ₃) (hd : Ev C ρ σ₃ d x σ₄) : Ea C ρ σ (.cons a (.cons b (.cons c (.cons d .nil)))) [v, w, u, x] σ₄ := eas_cons ha (ea3 hb hc hd)
theorem s_newD {C : Ctr} {ρ : Rho} {σ : Sto} {n : Nat} {r : Sms} {Q : Fl → Rho → Sto → Prop} (h : ∀ a, σ a = none → awSs C r (ρ.set n (some (.loc a))) (sput σ a (.dict [])) Q) : awSs C (.cons (.asg n (.dct false)) r) ρ σ Q := by
  exact h
theorem evR_callK {C : Ctr} {ρ : Rho} {σ : Sto} {es : Exs} {f : Str} {K : AV → Sto → Prop} (h : awEs C es ρ σ fun vs σ' => C f vs σ' K) : awE C (.call f es) ρ σ K := by
  exact h
theorem evR_bin {C : Ctr} {ρ : Rho} {σ σ₁ : Sto} {a b : Ex} {va : AV} {op : Operator} {K : AV → Sto → Prop} (ha : Ev C ρ σ a va σ₁) (k : awE C b ρ σ₁ fun w σ' => binQ op va w fun r => K (.d r) σ') : awE C (.bin op a b) ρ σ K := by
  exact ha _ k
theorem seqIdx_last (n : Nat) (h : n ≤ 100000) : seqIndex? (-1) (n + 1) = some n := by
  unfold seqIndex?
  simp
  omega
noncomputable def OlK (C : Ctr) (es : Exs) (ρ : Rho) (Q : Bool → Sto → Prop) : AV → Sto → Prop := fun v σ => wS (boolOf v) fun b => if b == (BoolOp.Or == .And) then awL C .Or es ρ σ Q else Q b σ
noncomputable def AlK (C : Ctr) (es : Exs) (ρ : Rho) (Q : Bool → Sto → Prop) : AV → Sto → Prop := fun v σ => wS (boolOf v) fun b => if b == (BoolOp.And == .And) then awL C .And es ρ σ Q else Q b σ
noncomputable def BlK (Q : Bool → Sto → Prop) : AV → Sto → Prop := fun v σ => wS (boolOf v) fun b => Q b σ
noncomputable def AtK (C : Ctr) (ns : List Nat) (r : Sms) (ρ : Rho) (Q : Fl → Rho → Sto → Prop) : AV → Sto → Prop := fun v σ => wS (bindT ρ (.tup ns) v) fun ρ' => awSs C r ρ' σ Q
section
variable {C : Ctr} {a e : Ex} {es : Exs} {r : Sms} {ρ ρ' : Rho} {σ : Sto} {K : AV → Sto → Prop} {Q : Bool → Sto → Prop} {R : Fl → Rho → Sto → Prop} {op : BoolOp} {b : Bool} {ns : List Nat} {v : AV}
theorem evR_or (h : awE C a ρ σ (OlK C es ρ fun b σ' => K (.d (.bool b)) σ')) : awE C (.bop .Or (.cons a es)) ρ σ K := by
  exact h
theorem al_or (h : awE C a ρ σ (OlK C es ρ Q)) : awL C .Or (.cons a es) ρ σ Q := by
  exact h
theorem olk_f (k : awL C .Or es ρ σ Q) : OlK C es ρ Q (.d (.bool false)) σ := k
theorem evR_and (h : awE C a ρ σ (AlK C es ρ fun b σ' => K (.d (.bool b)) σ')) : awE C (.bop .And (.cons a es)) ρ σ K := by
  exact h
theorem alk_t (k : awL C .And es ρ σ Q) : AlK C es ρ Q (.d (.bool true)) σ := k
theorem al_last (h : awE C a ρ σ (BlK Q)) : awL C op (.cons a .nil) ρ σ Q := by
  have e : BlK Q = fun v σ' => wS (boolOf v) fun b => if b == (op == .And) then awL C op .nil ρ σ' Q else Q b σ' := by
    funext v σ'
    unfold BlK
    cases boolOf v with
    | none => rfl
    | some b =>
      show Q b σ' = if b == (op == .And) then awL C op .nil ρ σ' Q else Q b σ'
      by_cases hb : (b == (op == .And)) = true
      · rw [if_pos hb, eq_of_beq hb]; rfl
      · rw [if_neg hb]
  rw [e] at h
  exact h
theorem blk (k : Q b σ) : BlK Q (.d (.bool b)) σ := k
theorem evR_not (h : awE C e ρ σ (BlK fun b σ' => K (.d (.bool !b)) σ')) : awE C (.not e) ρ σ K := by
  exact h
theorem s_asgTR (h : awE C e ρ σ (AtK C ns r ρ R)) : awSs C (.cons (.asgT ns e) r) ρ σ R := by
  exact h
theorem atk (hb : bindT ρ (.tup ns) v = some ρ') (k : awSs C r ρ' σ R) : AtK C ns r ρ R v σ := by
  unfold AtK
  rw [hb]
  exact k
theorem evR_dict {l : Addr} {kvs : List (Str × PyData)} (h : Ev C ρ σ e (.loc l) σ) (hl : σ l = some (.dict kvs)) (hn : kvs.length ≤ sizeLine) (k : ∀ a, σ a = none → K (.loc a) (sput σ a (.dict kvs))) : awE C (.bi .dict (.cons e .nil)) ρ σ K := by
  exact ea1 h _ (.dict rfl rfl (dct_at hl) hn k)
end
noncomputable def S2K (C : Ctr) (o i : Ex) (y : PyData) (r : Sms) (ρ : Rho) (Q : Fl → Rho → Sto → Prop) : Sto → Prop := fun σ => awE C o ρ σ fun o' σ₆ => awE C i ρ σ₆ fun i' σ₇ => subQ σ₇ o' i' (.d y) fun σ₈ => awSs C r ρ σ₈ Q
theorem s_sub2 {C : Ctr} {ρ : Rho} {σ : Sto} {o1 i1 o2 i2 e1 e2 : Ex} {r : Sms} {x y : PyData} {l : Addr} {s : Str} {kvs : List (Str × PyData)} {Q : Fl → Rho → Sto → Prop} (h1 : Ev C ρ σ e1 (.d x) σ) (h2 : Ev C ρ σ e2 (.d y) σ) (ho : Ev C ρ σ o1 (.loc l) σ) (hi : Ev C ρ σ i1 (.d (.str s)) σ) (hl : σ l = some (.dict kvs)) (hn : kvs.length ≤ sizeLine)
    (k : S2K C o2 i2 y r ρ Q (sput σ l (.dict (dput kvs s x)))) : awSs C (.cons (.sub2 o1 i1 o2 i2 e1 e2) r) ρ σ Q := by
  refine h1 _ (h2 _ (ho _ (hi _ ?_)))
  exact .m rfl rfl hl rfl hn k
theorem s_sub2b {C : Ctr} {ρ : Rho} {σ : Sto} {o i : Ex} {r : Sms} {y : PyData} {l : Addr} {s : Str} {kvs : List (Str × PyData)} {Q : Fl → Rho → Sto → Prop} (ho : Ev C ρ σ o (.loc l) σ) (hi : Ev C ρ σ i (.d (.str s)) σ) (hl : σ l = some (.dict kvs)) (hn : kvs.length ≤ sizeLine) (k : awSs C r ρ (sput σ l (.dict (dput kvs s y))) Q) : S2K C o i y r ρ Q σ := by
  refine ho _ (hi _ ?_)
  exact .m rfl rfl hl rfl hn k
noncomputable def IdK (C : Ctr) (i : Ex) (ρ : Rho) (K : AV → Sto → Prop) : AV → Sto → Prop := fun v σ => awE C i ρ σ fun w σ' => idxQ σ' v w fun r => K (.d r) σ'
noncomputable def CtK (C : Ctr) (e : Ex) (ρ : Rho) (K : AV → Sto → Prop) : AV → Sto → Prop := fun v σ => wS (itemsOf v) fun xs => cgo (.one 0) (awE C e) (awE C (.bool true)) xs (none :: ρ) σ [] fun ys σ' => ∀ a, σ' a = none → K (.loc a) (sput σ' a (.list ys))
section
variable {C : Ctr} {a e i : Ex} {es : Exs} {r : Sms} {ρ ρ' : Rho} {σ σ₁ : Sto} {K : AV → Sto → Prop} {R : Fl → Rho → Sto → Prop} {n : Nat} {v : AV} {x : PyData} {xs : List PyData} {z : Str} {l : Addr}
theorem evR_idxR (h : awE C a ρ σ (IdK C i ρ K)) : awE C (.idx a i) ρ σ K := by
  exact h
theorem idk_t0 (k : K (.d x) σ) : IdK C (.int 0) ρ K (.d (.tuple (x :: xs))) σ := ev_int _ (idx_tk 0 rfl (by decide) _ k)
theorem evR_compT (h : awE C a ρ σ (CtK C e ρ K)) : awE C (.comp true e (.one 0) [z] a (.bool true)) ρ σ K := by
  exact h
theorem s_frz (h : ρ[n]? = some (some (.loc l))) (hl : σ l = some (.list xs)) (k : awSs C r (ρ.set n (some (.d (.list xs)))) (scut σ l) R) : awSs C (.cons (.frz n) r) ρ σ R := by
  have e : lsO σ l = some xs := by unfold lsO; rw [hl]
  show wS ρ[n]? _
  rw [h]
  show wS (lsO σ l) _
  rw [e]
  exact k
theorem ev_isn {t : Bool} (h : Ev C ρ σ e v σ₁) (hq : ∀ Q : Bool → Prop, Q t → isQ v (.d .none) Q) : Ev C ρ σ (.cmp .Is e .none) (.d (.bool t)) σ₁ := ev_cmp h ev_none hq
theorem ev_nisn {t : Bool} (h : Ev C ρ σ e v σ₁) (hq : ∀ Q : Bool → Prop, Q t → isQ v (.d .none) Q) : Ev C ρ σ (.cmp .IsNot e .none) (.d (.bool !t)) σ₁ := ev_cmp h ev_none (cq_isn (t := t) hq)
end
theorem ev_range {C : Ctr} {ρ : Rho} {σ σ₁ : Sto} {e : Ex} {n : Nat} (h : Ev C ρ σ e (.d (.int (n : Nat))) σ₁) (hn : n ≤ 100) : Ev C ρ σ (.range e) (.d (.list ((List.range n).map fun (i : Nat) => PyData.int i))) σ₁ := fun K k => by
  refine h _ ?_
  rw [rng_of n hn]
  exact k
theorem ev_eqp2 {C : Ctr} {ρ : Rho} {σ σ₁ σ₂ : Sto} {a b : Ex} {x : Int} (ha : Ev C ρ σ a (.d (.int x)) σ₁) (hb : Ev C ρ σ₁ b (.d (.int x)) σ₂) : Ev C ρ σ (.cmp .Eq a b) (.d (.bool true)) σ₂ := ev_eqi ha hb (beq_self_eq_true x)
theorem ev_zip {C : Ctr} {ρ : Rho} {σ σ₁ σ₂ : Sto} {a b : Ex} {xs ys : List PyData} (ha : Ev C ρ σ a (.d (.list xs)) σ₁) (hb : Ev C ρ σ₁ b (.d (.list ys)) σ₂) : Ev C ρ σ (.zip a b) (.d (.list (zips xs ys))) σ₂ := fun K k => ha _ (hb _ k)
noncomputable def prs (E : Eqs) : List PyData := E.map fun p => .tuple [p.1.d, p.2.d]
noncomputable def hpR (S T : Ty) : PyData := if S.hd = T.hd then .list (prs (S.parts.zip T.parts)) else .none
theorem tl_head_pairs : tab.lookup (Str.ofString "head_pairs") = some ⟨p_head_pairs, l_head_pairs, b_head_pairs⟩ := by kernel_rfl
theorem lay_ty {T : Ty} : T.d.canLay0 = true := (hk_lay (hk_ty T)).1
theorem dep_ty {T : Ty} : T.d.depth ≤ 2 * T.dep := (hk_lay (hk_ty T)).2
theorem nm_eq (x y : Nm) : (nm x = nm y) = (x = y) := propext ⟨nm_inj x y, fun h => by rw [h]⟩
theorem two_line : (2 : Nat) ≤ sizeLine := by decide +kernel
noncomputable def hdk : Ty.Hd → String
  | .bool => "bool"
  | .u8 => "int"
  | .nev => "never"
  | .par _ => "param"
  | .box => "box"
  | .arr => "array"
  | .ref _ => "ref"
  | .tup => "tuple"
  | .adt => "adt"
theorem hdk_hd (T : Ty) : hdk T.hd = T.kd := by cases T <;> rfl
theorem hd_kd {S T : Ty} (h : S.kd ≠ T.kd) : S.hd ≠ T.hd := fun e => h (by rw [← hdk_hd, ← hdk_hd, e])
section
variable {d : Nat} {S T : Ty} {σ : Sto} {Q : AV → Sto → Prop} {a b r R : Sms} {k0 s : String}
noncomputable abbrev hpρ (S T : Ty) : Rho := [some (.d S.d), some (.d T.d), some (.d (.str (Str.ofString S.kd))), none]
theorem hp_in {t : Bool} (hk : S.kd = k0) (hf : (["int", "param", "var", "intvar"].any fun x => x == k0) = t) : Ev (Ct d) (hpρ S T) σ (.cmp .In (.var 2) (.tup (.cons (.str "int") (.cons (.str "param") (.cons (.str "var") (.cons (.str "intvar") .nil)))))) (.d (.bool t)) σ := by
  rw [← hf, ← hk]
  exact ev_cmp (ev_var rfl) (ev_tup4 ev_str ev_str ev_str ev_str) (cq_strs ["int", "param", "var", "intvar"] (kd_ok S) (by decide +kernel))
theorem hp_f (hk : S.kd = k0) (hs : PyData.strOk (Str.ofString s) = true) (hf : (k0 == s) = false) (k : awSs (Ct d) r (hpρ S T) σ (Ret Q)) :
    awSs (Ct d) (.cons (.ite (.cmp .Eq (.var 2) (.str (Str.ofString s))) a .nil) r) (hpρ S T) σ (Ret Q) := s_ite_f (hf ▸ hk ▸ ev_is hs (ev_var rfl)) k
theorem hp_t (hk : S.kd = s) (hs : PyData.strOk (Str.ofString s) = true) (k : awSs (Ct d) a (hpρ S T) σ (thn (Ct d) r (Ret Q))) :
    awSs (Ct d) (.cons (.ite (.cmp .Eq (.var 2) (.str (Str.ofString s))) a b) r) (hpρ S T) σ (Ret Q) := s_ite_t (beq_self_eq_true s ▸ hk ▸ ev_is (T := S) (hk ▸ hs) (ev_var rfl)) k
theorem hp_last {x : PyData} {e : Ex} (h : Q (.d (hpR S T)) σ) (hx : Ev (Ct d) (hpρ S T) σ e (.d x) σ) (he : x = hpR S T) : awSs (Ct d) (.cons (.ret e) r) (hpρ S T) σ (thn (Ct d) R (Ret Q)) := s_ret hx ⟨σ, Le.refl, he ▸ h⟩
theorem hp_leaf (hk : S.kd = k0) (h : Q (.d (hpR S T)) σ) (e : .list [] = hpR S T) (f0 : (["int", "param", "var", "intvar"].any fun x => x == k0) = false) (f1 : (k0 == "tuple") = false) (f2 : (k0 == "ref") = false) (f3 : (k0 == "box") = false) (f4 : (k0 == "array") = false) (f5 : (k0 == "adt") = false) : awSs (Ct d) b_head_pairs_15 (hpρ S T) σ (Ret Q) :=
  s_ite_f (hp_in hk f0) (hp_f hk so_tup f1 (hp_f hk so_ref f2 (hp_f hk so_box f3 (hp_f hk so_arr f4 (hp_f hk so_adt f5 (s_ret ev_nil ⟨σ, Le.refl, e ▸ h⟩))))))
end
theorem sp_head_pairs (d : Nat) (σ : Sto) (S T : Ty) (hS : S.dep ≤ 240) (hT : T.dep ≤ 240) (Q : AV → Sto → Prop) (h : Q (.d (hpR S T)) σ) : Ct (d + 1) "head_pairs" [.d S.d, .d T.d] σ Q := by
  refine enter tl_head_pairs rfl ?_
  by_cases e : S.kd = T.kd
  · have sk := sk_of e
    refine s_ite_f (ev_cmp (ev_kd (ev_var rfl)) (ev_kd (ev_var rfl)) (cq_ne (t := true) (by have := cq_kk (σ := σ) (S := S) (T := T); rw [e, beq_self_eq_true] at this; rw [e]; exact this))) (s_asg (ev_kd (ev_var rfl)) ?_)
    clear hS hT e
    revert h
    cases sk with
    | bool => exact fun h => hp_leaf (k0 := "bool") rfl h rfl (by decide) (by decide) (by decide) (by decide) (by decide) (by decide)
    | nev => exact fun h => hp_leaf (k0 := "never") rfl h rfl (by decide) (by decide) (by decide) (by decide) (by decide) (by decide)
    | u8 => exact fun h => s_ite_t (hp_in (k0 := "int") rfl (by decide)) (hp_last (x := .list []) h (ev_ite_t (ev_cmp (ev_t1 (x := .str "int") (y := .str "u8") (ev_var rfl)) (ev_t1 (x := .str "int") (y := .str "u8") (ev_var rfl)) (t := true) fun Q q => eqQ_str (by decide +kernel) (by decide +kernel) (by rw [beq_self_eq_true]; exact q)) ev_nil) rfl)
    | par x y =>
      intro h
      refine s_ite_t (hp_in (k0 := "param") rfl (by decide)) ?_
      by_cases exy : x = y
      · exact hp_last (x := .list []) h (ev_ite_t (ev_cmp (ev_nm (ev_var rfl)) (ev_nm (ev_var rfl)) (t := true) fun Q q => eqQ_str (nm_ok x) (nm_ok y) (by rw [exy, beq_self_eq_true]; exact q)) ev_nil) (by rw [hpR, exy, if_pos rfl]; rfl)
      · exact hp_last (x := .none) h (ev_ite_f (ev_cmp (ev_nm (ev_var rfl)) (ev_nm (ev_var rfl)) (t := false) fun Q q => eqQ_str (nm_ok x) (nm_ok y) (by rw [beq_false_of_ne fun h => exy (nm_inj x y h)]; exact q)) ev_none) (by rw [hpR, if_neg fun h => exy (by injection h)])
    | box a b => exact fun h => s_ite_f (hp_in (k0 := "box") rfl (by decide)) (hp_f (k0 := "box") rfl so_tup (by decide) (hp_f (k0 := "box") rfl so_ref (by decide) (hp_t rfl so_box (hp_last (x := .list [.tuple [a.d, b.d]]) h (ev_lst (ea1 (ev_tup2 (ev_t1 (x := .str "box") (ev_var rfl)) (ev_t1 (x := .str "box") (ev_var rfl)))) rfl) rfl))))
    | arr a b => exact fun h => s_ite_f (hp_in (k0 := "array") rfl (by decide)) (hp_f (k0 := "array") rfl so_tup (by decide) (hp_f (k0 := "array") rfl so_ref (by decide) (hp_f (k0 := "array") rfl so_box (by decide) (hp_t rfl so_arr (hp_last (x := .list [.tuple [a.d, b.d]]) h (ev_ite_t (ev_eqp2 (ev_t2 (x := .str "array") (y := a.d) (z := .int 2) (ev_var rfl)) (ev_t2 (x := .str "array") (y := b.d) (z := .int 2) (ev_var rfl))) (ev_lst (ea1 (ev_tup2 (ev_t1 (x := .str "array") (y := a.d) (xs := [.int 2]) (ev_var rfl)) (ev_t1 (x := .str "array") (y := b.d) (xs := [.int 2]) (ev_var rfl)))) rfl)) rfl)))))
    | ref m a m' b =>
      intro h
      refine s_ite_f (hp_in (k0 := "ref") rfl (by decide)) (hp_f (k0 := "ref") rfl so_tup (by decide) (hp_t rfl so_ref ?_))
      have hc : Ev (Ct d) (hpρ (.ref m a) (.ref m' b)) σ (.cmp .Eq (.idx (.var 0) (.int 2)) (.idx (.var 1) (.int 2))) (.d (.bool (m == m'))) σ := ev_cmp (ev_t2 (x := .str "ref") (y := .none) (z := .bool m) (ev_var rfl)) (ev_t2 (x := .str "ref") (y := .none) (z := .bool m') (ev_var rfl)) fun Q q => eqQ_bool q
      by_cases em : m = m'
      · rw [em, beq_self_eq_true] at hc
        rw [em] at h
        exact em.symm ▸ hp_last (x := .list [.tuple [a.d, b.d]]) h (ev_ite_t hc (ev_lst (ea1 (ev_tup2 (ev_t3 (x := .str "ref") (y := .none) (z := .bool m') (z' := a.d) (ev_var rfl)) (ev_t3 (x := .str "ref") (y := .none) (z := .bool m') (z' := b.d) (ev_var rfl)))) rfl)) (by rw [hpR, if_pos (show (Ty.ref m' a).hd = (Ty.ref m' b).hd from rfl)]; rfl)
      · rw [beq_false_of_ne em] at hc
        exact hp_last (x := .none) h (ev_ite_f hc ev_none) (by rw [hpR, if_neg fun h => em (by injection h)])
    | tup a b a' b' =>
      exact fun h => s_ite_f (hp_in (k0 := "tuple") rfl (by decide)) (hp_t rfl so_tup (hp_last (x := .list (zips [a.d, b.d] [a'.d, b'.d])) h (ev_ite_t (ev_eqp2 (ev_lenT (xs := [a.d, b.d]) (ev_t1 (x := .str "tuple") (ev_var rfl)) (show 2 ≤ 100000 by decide)) (ev_lenT (xs := [a'.d, b'.d]) (ev_t1 (x := .str "tuple") (ev_var rfl)) (show 2 ≤ 100000 by decide)))
        (ev_lzip (xs := [a.d, b.d]) (ys := [a'.d, b'.d]) (ev_t1 (x := .str "tuple") (y := .tuple [a.d, b.d]) (ev_var rfl)) (ev_t1 (x := .str "tuple") (y := .tuple [a'.d, b'.d]) (ev_var rfl)) rfl rfl rfl two_line)) rfl))
    | adt a b a' b' =>
      refine fun h => s_ite_f (hp_in (k0 := "adt") rfl (by decide)) (hp_f (k0 := "adt") rfl so_tup (by decide) (hp_f (k0 := "adt") rfl so_ref (by decide) (hp_f (k0 := "adt") rfl so_box (by decide) (hp_f (k0 := "adt") rfl so_arr (by decide) (hp_t rfl so_adt ?_)))))
      have t3 : ∀ {ρ : Rho} {n : Nat} {a b : Ty}, ρ[n]? = some (some (.d (Ty.adt a b).d)) → Ev (Ct d) ρ σ (.idx (.var n) (.int 3)) (.d (.tuple [a.d, b.d])) σ := fun {ρ n a b} h => ev_t3 (x := .str "adt") (y := .str "W") (z := .tuple []) (ev_var h)
      have t1 : ∀ {ρ : Rho} {n : Nat} {a b : Ty}, ρ[n]? = some (some (.d (Ty.adt a b).d)) → Ev (Ct d) ρ σ (.idx (.var n) (.int 1)) (.d (.str "W")) σ := fun {ρ n a b} h => ev_t1 (x := .str "adt") (y := .str "W") (ev_var h)
      refine s_asg (ev_and (ev_cmp (t1 rfl) (t1 rfl) (t := true) fun Q q => eqQ_str (by decide +kernel) (by decide +kernel) (by rw [beq_self_eq_true]; exact q)) (ev_eqp2 (ev_lenT (xs := [a.d, b.d]) (t3 rfl) (show 2 ≤ 100000 by decide)) (ev_lenT (xs := [a'.d, b'.d]) (t3 rfl) (show 2 ≤ 100000 by decide)))) ?_
      exact s_ret (ev_ite_t (ev_var rfl) (ev_lzip (xs := [a.d, b.d]) (ys := [a'.d, b'.d]) (t3 rfl) (t3 rfl) rfl rfl rfl two_line)) ⟨σ, Le.refl, h⟩
  · refine s_ite_t (ev_cmp (ev_kd (ev_var rfl)) (ev_kd (ev_var rfl)) (cq_ne (t := false) (by have := cq_kk (σ := σ) (S := S) (T := T); rwa [beq_false_of_ne e] at this))) (s_ret ev_none ⟨σ, Le.refl, ?_⟩)
    rw [hpR, if_neg (hd_kd e)] at h
    exact h
noncomputable def pd (D : Puts) : List (Str × PyData) := D.map fun p => (nm p.1, p.2.d)
theorem pd_look (D : Puts) (x : Nm) : (pd D).lookup (nm x) = (D.lookup x).map Ty.d := by
  induction D with
  | nil => rfl
  | cons p D ih =>
    obtain ⟨y, t⟩ := p
    show List.lookup (nm x) ((nm y, t.d) :: pd D) = _
    by_cases e : x = y
    · subst e; simp
    · rw [List.lookup_cons, List.lookup_cons, beq_false_of_ne e, beq_false_of_ne fun h => e (nm_inj _ _ h)]; exact ih
theorem tl_filled : tab.lookup (Str.ofString "filled") = some ⟨p_filled, l_filled, b_filled⟩ := by kernel_rfl
section
variable {d : Nat} {S : Ty} {l : Addr} {σ : Sto} {Q : AV → Sto → Prop} {a b r R : Sms} {k0 s : String}
noncomputable abbrev fiρ (S : Ty) (l : Addr) : Rho := [some (.d S.d), some (.loc l), some (.d (.str (Str.ofString S.kd)))]
theorem fi_f (hk : S.kd = k0) (hs : PyData.strOk (Str.ofString s) = true) (hf : (k0 == s) = false) (k : awSs (Ct d) r (fiρ S l) σ (Ret Q)) :
    awSs (Ct d) (.cons (.ite (.cmp .Eq (.var 2) (.str (Str.ofString s))) a .nil) r) (fiρ S l) σ (Ret Q) := s_ite_f (hf ▸ hk ▸ ev_is hs (ev_var rfl)) k
theorem fi_t {x : PyData} {e : Ex} (hk : S.kd = s) (hs : PyData.strOk (Str.ofString s) = true) (hx : Ev (Ct d) (fiρ S l) σ e (.d x) σ) (q : Q (.d x) σ) :
    awSs (Ct d) (.cons (.ite (.cmp .Eq (.var 2) (.str (Str.ofString s))) (.cons (.ret e) .nil) b) r) (fiρ S l) σ (Ret Q) := s_ite_t (beq_self_eq_true s ▸ hk ▸ ev_is (T := S) (hk ▸ hs) (ev_var rfl)) (s_ret hx ⟨σ, Le.refl, q⟩)
theorem fi_go (k : awSs (Ct d) b_filled_13 (fiρ S l) σ (Ret Q)) : Ct (d + 1) "filled" [.d S.d, .loc l] σ Q := enter tl_filled rfl (s_asg (ev_kd (ev_var rfl)) k)
theorem fi_leaf (hk : S.kd = k0) (f1 : (k0 == "param") = false) (f2 : (k0 == "tuple") = false) (f3 : (k0 == "ref") = false) (f4 : (k0 == "box") = false) (f5 : (k0 == "array") = false) (f6 : (k0 == "adt") = false) (q : Q (.d S.d) σ) : Ct (d + 1) "filled" [.d S.d, .loc l] σ Q :=
  fi_go (fi_f hk ok_param f1 (fi_f hk so_tup f2 (fi_f hk so_ref f3 (fi_f hk so_box f4 (fi_f hk so_arr f5 (fi_f hk so_adt f6 (s_ret (ev_var rfl) ⟨σ, Le.refl, q⟩)))))))
theorem fi_parts {ρ : Rho} {e : Ex} {a b : Ty} {D : Puts} (he : Ev (Ct d) ρ σ e (.d (.tuple [a.d, b.d])) σ) (h1 : ρ[1]? = some (some (.loc l))) (ia : ∀ Q, Q (.d (a.ap (look D)).d) σ → Ct d "filled" [.d a.d, .loc l] σ Q) (ib : ∀ Q, Q (.d (b.ap (look D)).d) σ → Ct d "filled" [.d b.d, .loc l] σ Q) :
    Ev (Ct d) ρ σ (.bi .tuple (.cons (.comp false (.call "filled" (.cons (.var 0) (.cons (.var 2) .nil))) (.one 0) ["part"] e (.bool true)) .nil)) (.d (.tuple [(a.ap (look D)).d, (b.ap (look D)).d])) σ := by
  refine ev_tupL (ev_comp (g := Ty.d) (h := fun T => (T.ap (look D)).d) (xs := [a, b]) he rfl (fun T hT => ev_call (ea2 (ev_var rfl) (ev_var h1)) ?_) two_line) two_line
  rcases List.mem_cons.mp hT with h | h
  · exact h ▸ ia
  · exact List.mem_singleton.mp h ▸ ib
end
theorem sp_filled : ∀ (T : Ty) (d : Nat), T.dep ≤ d → ∀ (σ : Sto) (l : Addr) (D : Puts) (Q : AV → Sto → Prop), dictOfA σ (.loc l) = some (pd D) → Q (.d (T.ap (look D)).d) σ → Ct d "filled" [.d T.d, .loc l] σ Q
  | T, 0, hd, σ, l, D, Q, hl, h => absurd (Nat.le_trans (dep_pos T) hd) (Nat.not_succ_le_zero 0)
  | .bool, d + 1, hd, σ, l, D, Q, hl, h => fi_leaf (S := .bool) (k0 := "bool") rfl (by decide) (by decide) (by decide) (by decide) (by decide) (by decide) h
  | .u8, d + 1, hd, σ, l, D, Q, hl, h => fi_leaf (S := .u8) (k0 := "int") rfl (by decide) (by decide) (by decide) (by decide) (by decide) (by decide) h
  | .nev, d + 1, hd, σ, l, D, Q, hl, h => fi_leaf (S := .nev) (k0 := "never") rfl (by decide) (by decide) (by decide) (by decide) (by decide) (by decide) h
  | .par x, d + 1, hd, σ, l, D, Q, hl, h => by
    have e : ((pd D).lookup (nm x)).getD (Ty.par x).d = ((Ty.par x).ap (look D)).d := by
      rw [pd_look]
      show _ = ((D.lookup x).getD (.par x)).d
      cases D.lookup x <;> rfl
    exact fi_go (S := .par x) (fi_t rfl ok_param (ev_dgetA rfl hl (ev_nm (ev_var rfl)) (ev_var rfl)) (e ▸ h))
  | .box a, d + 1, hd, σ, l, D, Q, hl, h => fi_go (S := .box a) (fi_f (k0 := "box") rfl ok_param (by decide) (fi_f (k0 := "box") rfl so_tup (by decide) (fi_f (k0 := "box") rfl so_ref (by decide) (fi_t rfl so_box (ev_tup2 ev_str (ev_call (ea2 (ev_t1 (x := .str "box") (y := a.d) (ev_var rfl)) (ev_var rfl)) fun Q q => sp_filled a d (Nat.le_of_succ_le_succ hd) σ l D Q hl q)) h))))
  | .arr a, d + 1, hd, σ, l, D, Q, hl, h => fi_go (S := .arr a) (fi_f (k0 := "array") rfl ok_param (by decide) (fi_f (k0 := "array") rfl so_tup (by decide) (fi_f (k0 := "array") rfl so_ref (by decide) (fi_f (k0 := "array") rfl so_box (by decide) (fi_t rfl so_arr (ev_tup3 ev_str (ev_call (ea2 (ev_t1 (x := .str "array") (y := a.d) (ev_var rfl)) (ev_var rfl)) fun Q q => sp_filled a d (Nat.le_of_succ_le_succ hd) σ l D Q hl q) (ev_t2 (x := .str "array") (y := a.d) (z := .int 2) (ev_var rfl))) h)))))
  | .ref m a, d + 1, hd, σ, l, D, Q, hl, h => fi_go (S := .ref m a) (fi_f (k0 := "ref") rfl ok_param (by decide) (fi_f (k0 := "ref") rfl so_tup (by decide) (fi_t rfl so_ref (ev_tup4 ev_str (ev_t1 (x := .str "ref") (y := .none) (ev_var rfl)) (ev_t2 (x := .str "ref") (y := .none) (z := .bool m) (ev_var rfl)) (ev_call (ea2 (ev_t3 (x := .str "ref") (y := .none) (z := .bool m) (z' := a.d) (ev_var rfl)) (ev_var rfl)) fun Q q => sp_filled a d (Nat.le_of_succ_le_succ hd) σ l D Q hl q)) h)))
  | .tup a b, d + 1, hd, σ, l, D, Q, hl, h =>
    have m := Nat.max_le.mp (Nat.le_of_succ_le_succ hd)
    fi_go (S := .tup a b) (fi_f (k0 := "tuple") rfl ok_param (by decide) (fi_t rfl so_tup (ev_tup2 ev_str (fi_parts (ev_t1 (x := .str "tuple") (ev_var rfl)) rfl (fun Q q => sp_filled a d m.1 σ l D Q hl q) fun Q q => sp_filled b d m.2 σ l D Q hl q)) h))
  | .adt a b, d + 1, hd, σ, l, D, Q, hl, h =>
    have m := Nat.max_le.mp (Nat.le_of_succ_le_succ hd)
    fi_go (S := .adt a b) (fi_f (k0 := "adt") rfl ok_param (by decide) (fi_f (k0 := "adt") rfl so_tup (by decide) (fi_f (k0 := "adt") rfl so_ref (by decide) (fi_f (k0 := "adt") rfl so_box (by decide) (fi_f (k0 := "adt") rfl so_arr (by decide) (fi_t rfl so_adt (ev_tup4 ev_str (ev_t1 (x := .str "adt") (y := .str "W") (ev_var rfl)) (ev_t2 (x := .str "adt") (y := .str "W") (z := .tuple []) (ev_var rfl))
      (fi_parts (ev_t3 (x := .str "adt") (y := .str "W") (z := .tuple []) (ev_var rfl)) rfl (fun Q q => sp_filled a d m.1 σ l D Q hl q) fun Q q => sp_filled b d m.2 σ l D Q hl q)) h))))))
structure Bo (σ : Sto) (i f : Addr) (F : Puts) : Prop where
  hi : σ i = some (.inst true [(Str.ofString "found", .loc f)])
  hf : σ f = some (.dict (pd F))
theorem Bo.mono {σ σ' : Sto} {i f : Addr} {F : Puts} (h : Bo σ i f F) (L : Le σ σ') : Bo σ' i f F := ⟨L _ _ h.hi, L _ _ h.hf⟩
theorem tl_seen : tab.lookup (Str.ofString "seen") = some ⟨p_seen, l_seen, b_seen⟩ := by kernel_rfl
theorem pd_some {F : Puts} {x : Nm} {t : Ty} (h : F.lookup x = some t) : (pd F).lookup (nm x) = some t.d := by rw [pd_look, h]; rfl
theorem fnd' (f : Addr) : List.lookup (Str.ofString "found") [(Str.ofString "found", AV.loc f)] = some (.loc f) := by
  rw [List.lookup_cons, beq_self_eq_true]
section
variable {C : Ctr} {ρ : Rho} {σ : Sto} {i f : Addr} {F : Puts} {n : Nat} {x : Nm} {t : Ty} {r T : Ty}
theorem ev_found (h : ρ[n]? = some (some (.ins i))) (B : Bo σ i f F) : Ev C ρ σ (.attr n "found") (.loc f) σ := ev_attr h B.hi (fnd' f)
theorem cq_pd {b : Bool} (hf : σ f = some (.dict (pd F))) (h : (F.lookup x).isSome = b) : Cq .In σ (.d (.str (nm x))) (.loc f) b := by
  have := cq_dict (x := nm x) hf
  rwa [pd_look, Option.isSome_map, h] at this
theorem ev_in {a b : Ex} {t : Bool} (hf : σ f = some (.dict (pd F))) (ha : Ev C ρ σ a (.d (.str (nm x))) σ) (hb : Ev C ρ σ b (.loc f) σ) (h : (F.lookup x).isSome = t) : Ev C ρ σ (.cmp .In a b) (.d (.bool t)) σ := ev_cmp ha hb (cq_pd hf h)
theorem ev_get {a b : Ex} (hf : σ f = some (.dict (pd F))) (ha : Ev C ρ σ a (.loc f) σ) (hb : Ev C ρ σ b (.d (.str (nm x))) σ) (h : F.lookup x = some t) : Ev C ρ σ (.idx a b) (.d t.d) σ := ev_idx ha hb (xq_dict hf (pd_some h))
inductive SI (F : Puts) (r : Ty) (i : Addr) (σ : Sto) : Nat → Rho → Sto → Prop
  | mk {n : Nat} {T : Ty} (h : SRun F r n T) : SI F r i σ n [some (.ins i), some (.d T.d)] σ
theorem se_body (B : Bo σ i f F) {Q : AV → Sto → Prop} (hq : Q (.d r.d) σ) : ∀ {n : Nat} {T : Ty}, SRun F r n T →
    Wt C (.bop .And (.cons (.cmp .Eq (.idx (.var 1) (.int 0)) (.str "param")) (.cons (.cmp .In (.idx (.var 1) (.int 1)) (.attr 0 "found")) .nil))) b_seen_1 b_seen_2 (SI F r i σ) (Ret Q) n [some (.ins i), some (.d T.d)] σ := by
  intro n T h
  cases h with
  | stop hs =>
    have fin : awSs C b_seen_2 [some (.ins i), some (.d r.d)] σ (Ret Q) := s_ret (ev_var rfl) ⟨σ, Le.refl, hq⟩
    cases hp : r.isPar with
    | true =>
      obtain ⟨x, rfl⟩ := par_of hp
      exact .out (ev_and (ev_par_t (ev_var rfl)) (ev_in B.hf (ev_nm (ev_var rfl)) (ev_found rfl B) (by rw [hs x rfl]; rfl))) fin
    | false => exact .out (ev_and_f (ev_par_f hp (ev_var rfl))) fin
  | step hl h =>
    exact .go (ev_and (ev_par_t (ev_var rfl)) (ev_in B.hf (ev_nm (ev_var rfl)) (ev_found rfl B) (by rw [hl]; rfl))) (s_asg (ev_get B.hf (ev_found rfl B) (ev_nm (ev_var rfl)) hl) (s_nil (wq_go (Nat.lt_succ_self _) (.mk h))))
end
theorem sp_seen (d : Nat) (σ : Sto) (i f : Addr) (F : Puts) (B : Bo σ i f F) (r T : Ty) (n : Nat) (h : SRun F r n T) (Q : AV → Sto → Prop) (hq : Q (.d r.d) σ) : Ct (d + 1) "seen" [.ins i, .d T.d] σ Q :=
  enter tl_seen rfl (s_whl (SI F r i σ) (.mk h) fun _ _ _ hi => by
    cases hi with
    | mk h => exact se_body B hq h)
theorem lay_all {xs : List PyData} {n : Nat} (h : ∀ x ∈ xs, x.canLay0 = true ∧ x.depth ≤ n) : PyData.canLayAll0 xs = true ∧ PyData.depthAll xs ≤ n := by
  induction xs with
  | nil => simp [PyData.canLayAll0, PyData.depthAll]
  | cons x xs ih =>
    have h1 := h x (.head _)
    have h2 := ih fun y hy => h y (.tail _ hy)
    simp only [PyData.canLayAll0, PyData.depthAll, h1.1, h2.1, Bool.and_self, true_and]
    have := h1.2; have := h2.2; omega
theorem dOk_list {xs : List PyData} (h : ∀ x ∈ xs, x.canLay0 = true ∧ x.depth ≤ 499) : dOk (.list xs) = true := by
  obtain ⟨h1, h2⟩ := lay_all h
  refine Bool.and_eq_true_iff.mpr ⟨by simpa only [PyData.canLay0] using h1, decide_eq_true ?_⟩
  have e : (PyData.list xs).depth = PyData.depthAll xs + 1 := by simp only [PyData.depth]; try omega
  omega
theorem dOk_tys {l : List Ty} (h : ∀ T ∈ l, T.dep ≤ 200) : dOk (.list (l.map Ty.d)) = true := dOk_list fun x hx => by
  obtain ⟨T, hT, rfl⟩ := List.mem_map.mp hx
  have := h T hT
  have := dep_ty (T := T)
  exact ⟨lay_ty, by omega⟩
noncomputable def wl (l : List Ty) : List PyData := (l.map Ty.d).reverse
theorem wl_cons (T : Ty) (l : List Ty) : wl (T :: l) = wl l ++ [T.d] := by simp [wl]
theorem wl_app (k l : List Ty) : wl (k ++ l) = wl l ++ wl k := by simp [wl]
theorem wl_len (l : List Ty) : (wl l).length = l.length := by simp [wl]
theorem wl_rev (l : List Ty) : wl l.reverse = l.map Ty.d := by simp [wl]
theorem wl_dOk {l : List Ty} (h : ∀ T ∈ l, T.dep ≤ 200) : dOk (.list (wl l)) = true := dOk_list fun x hx => by
  obtain ⟨T, hT, rfl⟩ := List.mem_map.mp (List.mem_reverse.mp hx)
  have := h T hT
  have := dep_ty (T := T)
  exact ⟨lay_ty, by omega⟩
theorem line_ge : (20000 : Nat) ≤ sizeLine := by decide +kernel
theorem Le.put_new {σ σ' : Sto} (L : Le σ σ') {a : Addr} (h : σ' a = none) (o : AO) : Le σ (sput σ' a o) := fun b x hb => by
  by_cases e : b = a
  · subst e; have := L _ _ hb; rw [h] at this; exact nomatch this
  · rw [sput_ne e]; exact L _ _ hb
theorem Le.put_own {σ σ' : Sto} (L : Le σ σ') {a : Addr} (h : σ a = none) (o : AO) : Le σ (sput σ' a o) := fun b x hb => by
  by_cases e : b = a
  · subst e; rw [h] at hb; exact nomatch hb
  · rw [sput_ne e]; exact L _ _ hb
theorem Le.none {σ σ' : Sto} (L : Le σ σ') {a : Addr} (h : σ' a = none) : σ a = none := by
  cases e : σ a with
  | none => rfl
  | some o => have := L _ _ e; rw [h] at this; exact nomatch this
theorem tl_holds_name : tab.lookup (Str.ofString "holds_name") = some ⟨p_holds_name, l_holds_name, b_holds_name⟩ := by kernel_rfl
noncomputable def gd (gone : List Nm) : List (Str × PyData) := gone.map fun x => (nm x, .bool true)
theorem gd_look (g : List Nm) (x : Nm) : ((gd g).lookup (nm x)).isSome = decide (x ∈ g) := by
  induction g with
  | nil => rfl
  | cons y g ih =>
    show (List.lookup (nm x) ((nm y, _) :: gd g)).isSome = _
    by_cases e : x = y
    · subst e; simp
    · rw [List.lookup_cons, beq_false_of_ne fun h => e (nm_inj _ _ h), ih]; simp [e]
theorem gd_put {g : List Nm} {x : Nm} (h : x ∉ g) : dput (gd g) (nm x) (.bool true) = gd (g ++ [x]) := by
  unfold dput
  rw [if_neg (by rw [gd_look]; simpa using h)]
  simp [gd]
structure HS (σ σ' : Sto) (l g : Addr) (left : List Ty) (gone : List Nm) : Prop where
  le : Le σ σ'
  nl : σ l = none
  ng : σ g = none
  ne : l ≠ g
  hl : σ' l = some (.list (wl left))
  hg : σ' g = some (.dict (gd gone))
theorem HS.setl {σ σ' : Sto} {l g : Addr} {left : List Ty} {gone : List Nm} (H : HS σ σ' l g left gone) {left' : List Ty} {xs : List PyData} (e : xs = wl left') : HS σ (sput σ' l (.list xs)) l g left' gone :=
  ⟨H.le.put_own H.nl _, H.nl, H.ng, H.ne, by rw [sput_self, e], by rw [sput_ne H.ne.symm]; exact H.hg⟩
theorem HS.setg {σ σ' : Sto} {l g : Addr} {left : List Ty} {gone : List Nm} (H : HS σ σ' l g left gone) {gone' : List Nm} {xs : List (Str × PyData)} (e : xs = gd gone') : HS σ (sput σ' g (.dict xs)) l g left gone' :=
  ⟨H.le.put_own H.ng _, H.nl, H.ng, H.ne, by rw [sput_ne H.ne]; exact H.hl, by rw [sput_self, e]⟩
theorem zip_fst (l : List Ty) : (l.zip l).map (fun p => p.1.d) = l.map Ty.d := by
  induction l with
  | nil => rfl
  | cons x l ih => rw [List.zip_cons_cons, List.map_cons, List.map_cons, ih]
theorem ev_parts {d : Nat} {ρ : Rho} {σ : Sto} {T : Ty} {n : Nat} (hT : T.dep ≤ 240) (h : ρ[n]? = some (some (.d T.d))) :
    Ev (Ct (d + 1)) ρ σ (.comp false (.var 0) (.tup [0, 1]) ["part", "same"] (.call "head_pairs" (.cons (.var n) (.cons (.var n) .nil))) (.bool true)) (.d (.list (T.parts.map Ty.d))) σ := by
  refine zip_fst T.parts ▸ ev_comp2 (v := .d (.list (prs (T.parts.zip T.parts)))) (g := fun p : Ty × Ty => p.1.d) (g' := fun p => p.2.d) (h := fun p => p.1.d) (xs := T.parts.zip T.parts) (ev_call (ea2 (ev_var h) (ev_var h)) fun Q q => ?_) rfl (fun a _ => ev_var rfl) ?_
  · refine sp_head_pairs d σ T T hT hT Q ?_
    rw [hpR, if_pos rfl]; exact q
  · rw [List.length_zip]
    exact Nat.le_trans (Nat.min_le_left _ _) (Nat.le_trans (parts_le T) two_line)
noncomputable abbrev hnρ (i l g : Addr) (T0 : Ty) (name : Nm) (o : Option AV) : Rho := [some (.ins i), some (.d T0.d), some (.d (.str (nm name))), some (.loc l), some (.loc g), o]
inductive HI (F : Puts) (name : Nm) (b : Bool) (σ : Sto) (i l g : Addr) (T0 : Ty) : Nat → Rho → Sto → Prop
  | mk {n : Nat} {left : List Ty} {gone : List Nm} {o : Option AV} {σ' : Sto} (H : HS σ σ' l g left gone) (hr : HRun F name b n left gone) : HI F name b σ i l g T0 n (hnρ i l g T0 name o) σ'
section
variable {d : Nat} {σ σ' : Sto} {i f l g : Addr} {T0 T : Ty} {name x : Nm} {F : Puts} {r : List Ty} {gone : List Nm} {o : Option AV} {K : Fl → Rho → Sto → Prop} {b : Bool} {Q : AV → Sto → Prop}
theorem hn_turn {t : Bool} (H : HS σ σ' l g (T :: r) gone) (hb : HB (T :: r) gone) (e : decide (T = .par name) = t)
    (k : T.dep ≤ 240 → HS σ (sput σ' l (.list (wl r))) l g r gone → awSs (Ct (d + 1)) (if t then b_holds_name_1 else .nil) (hnρ i l g T0 name (some (.d T.d))) (sput σ' l (.list (wl r))) (thn (Ct (d + 1)) b_holds_name_6 K)) :
    awSs (Ct (d + 1)) b_holds_name_8 (hnρ i l g T0 name o) σ' K := by
  have dT : T.dep ≤ 240 := Nat.le_trans (hb.dL T (.head _)) (by decide)
  have l1 : (wl r).length + 1 ≤ sizeLine := by rw [wl_len]; exact Nat.le_trans hb.len (Nat.le_trans (by decide) line_ge)
  exact s_asg (ev_pop rfl (H.hl.trans (by rw [wl_cons])) l1) (s_ite (e ▸ ev_eqp dT (ev_var rfl) (ev_var rfl)) (k dT (H.setl rfl)))
theorem hn_body (B : Bo σ i f F) (hq : ∀ σ', Le σ σ' → Q (.d (.bool b)) σ') : ∀ {n : Nat} {left : List Ty} {gone : List Nm}, HRun F name b n left gone → ∀ {σ' : Sto} {o : Option AV}, HS σ σ' l g left gone →
    Wt (Ct (d + 1)) (.cmp .NotEq (.var 3) (.lst false .nil)) b_holds_name_8 b_holds_name_9 (HI F name b σ i l g T0) (Ret Q) n (hnρ i l g T0 name o) σ' := by
  have full : ∀ {left : List Ty} {gone : List Nm} {T : Ty} {o : Option AV} {σ' : Sto}, HS σ σ' l g (T :: left) gone → HB (T :: left) gone → Ev (Ct (d + 1)) (hnρ i l g T0 name o) σ' (.cmp .NotEq (.var 3) (.lst false .nil)) (.d (.bool true)) σ' :=
    fun {left gone T o σ'} H hb => ev_cmp (ev_var rfl) ev_nil (cq_ne (t := false) (cq_wl H.hl (wl_dOk fun T hT => Nat.le_trans (hb.dL T hT) (by decide)) (by rw [wl_cons]; exact app_ne _ _)))
  intro n left gone hr
  cases hr with
  | none hb e =>
    intro σ' o H
    exact .out (ev_cmp (ev_var rfl) ev_nil (cq_ne (t := true) (cq_wl H.hl (by decide +kernel) rfl))) (s_ret ev_bool ⟨σ', Le.refl, e ▸ hq σ' H.le⟩)
  | found hb e =>
    intro σ' o H
    exact .go (full H hb) (hn_turn (t := true) H hb (decide_eq_true rfl) fun _ H1 => s_ret ev_bool ⟨_, Le.refl, e ▸ hq _ H1.le⟩)
  | @part n T r _ hb hp hr =>
    intro σ' o H
    have l2 : (wl r).length + (T.parts.map Ty.d).length ≤ sizeLine := by
      rw [wl_len, List.length_map]
      exact Nat.le_trans (Nat.add_le_add (Nat.le_of_succ_le hb.len) (parts_le T)) (Nat.le_trans (by decide) line_ge)
    refine .go (full H hb) (hn_turn (t := false) H hb (decide_eq_false fun e => by rw [e] at hp; cases hp) fun dT H1 => s_nil (s_ite_t (ev_npar_t hp (ev_var rfl)) ?_))
    exact s_expr (ev_ext rfl H1.hl (ev_parts dT rfl) l2 (by rw [wl_app, wl_rev])) (s_nil (s_nil (wq_go (Nat.lt_succ_self _) (.mk (H1.setl rfl) hr))))
  | @go n x t r gone hb hx hlk hg hr =>
    intro σ' o H
    have gl : (gd gone).length ≤ sizeLine := by rw [gd, List.length_map]; exact Nat.le_trans (nm_len hb.nd) (Nat.le_trans (by decide) line_ge)
    refine .go (full H hb) (hn_turn (t := false) H hb (decide_eq_false fun e => hx (by injection e)) fun dT H1 => s_nil (s_ite (t := false) (ev_npar_f (ev_var rfl)) ?_))
    have H2 := H1.setg (gone' := gone ++ [x]) (xs := dput (gd gone) (nm x) (.bool true)) (gd_put hg)
    have l1 : (wl r).length ≤ sizeLine := by rw [wl_len]; exact Nat.le_trans (Nat.le_of_succ_le hb.len) (Nat.le_trans (by decide) line_ge)
    have B1 := B.mono H1.le
    have B2 := B.mono H2.le
    refine s_ite_t (ev_and (ev_in B1.hf (ev_nm (ev_var rfl)) (ev_found rfl B1) (by rw [hlk]; rfl)) (ev_cmp (ev_nm (ev_var rfl)) (ev_var rfl) (cq_ni (t := false) ?_))) ?_
    · have := cq_dict (x := nm x) H1.hg
      rwa [gd_look, decide_eq_false hg] at this
    · exact s_subD ev_bool (ev_var rfl) (ev_nm (ev_var rfl)) H1.hg gl (s_expr (ev_app rfl H2.hl (ev_get B2.hf (ev_found rfl B2) (ev_nm (ev_var rfl)) hlk) l1) (s_nil (s_nil (s_nil (wq_go (Nat.lt_succ_self _) (.mk (H2.setl (wl_cons t r).symm) hr))))))
  | @skip n x r gone hb hx hh hr =>
    intro σ' o H
    refine .go (full H hb) (hn_turn (t := false) H hb (decide_eq_false fun e => hx (by injection e)) fun dT H1 => s_nil (s_ite (t := false) (ev_npar_f (ev_var rfl)) ?_))
    have B1 := B.mono H1.le
    refine s_ite_f ?_ (s_nil (s_nil (wq_go (Nat.lt_succ_self _) (.mk H1 hr))))
    cases hk : (F.lookup x).isSome with
    | false => exact ev_and_f (ev_in B1.hf (ev_nm (ev_var rfl)) (ev_found rfl B1) hk)
    | true =>
      refine ev_and (ev_in B1.hf (ev_nm (ev_var rfl)) (ev_found rfl B1) hk) (ev_cmp (ev_nm (ev_var rfl)) (ev_var rfl) (cq_ni (t := true) ?_))
      have := cq_dict (x := nm x) H1.hg
      rwa [gd_look, decide_eq_true (hh.resolve_left fun e => by rw [e] at hk; cases hk)] at this
end
theorem sp_holds_name (d : Nat) (σ : Sto) (i f : Addr) (F : Puts) (B : Bo σ i f F) (T0 : Ty) (name : Nm) (b : Bool) (n : Nat) (h : HRun F name b n [T0] []) (Q : AV → Sto → Prop) (hq : ∀ σ', Le σ σ' → Q (.d (.bool b)) σ') :
    Ct (d + 2) "holds_name" [.ins i, .d T0.d, .d (.str (nm name))] σ Q := by
  refine enter tl_holds_name rfl (s_asgMw (ea_lst (ev_var rfl) fun l hl => ea_dct fun g hg => ea_nil ⟨rfl, ?_⟩))
  have hgl : g ≠ l := fun e => by rw [e, sput_self] at hg; exact nomatch hg
  rw [sput_ne hgl] at hg
  refine s_whl (HI F name b σ i l g T0) (n := n) (.mk ⟨(Le.put_new (fun a o h => h) hl _).put_new (by rw [sput_ne hgl]; exact hg) _, hl, hg, hgl.symm, by rw [sput_ne hgl.symm, sput_self]; rfl, sput_self⟩ h) fun _ _ _ hi => ?_
  cases hi with
  | mk H hr => exact hn_body B hq hr H
theorem tl_bind : tab.lookup (Str.ofString "bind") = some ⟨p_bind, l_bind, b_bind⟩ := by kernel_rfl
theorem Le.sput {σ σ' : Sto} (L : Le σ σ') (a : Addr) (o : AO) : Le (Mine.sput σ a o) (Mine.sput σ' a o) := fun b x hb => by
  by_cases e : b = a
  · subst e; rw [sput_self] at hb ⊢; exact hb
  · rw [sput_ne e] at hb ⊢; exact L _ _ hb
theorem Le.trans {σ σ' σ'' : Sto} (L : Le σ σ') (L' : Le σ' σ'') : Le σ σ'' := fun b x hb => L' _ _ (L _ _ hb)
theorem sput_sput (σ : Sto) (a : Addr) (o o' : AO) : sput (sput σ a o) a o' = sput σ a o' := by
  funext b
  by_cases e : b = a
  · subst e; rw [sput_self, sput_self]
  · rw [sput_ne e, sput_ne e, sput_ne e]
theorem sput_same {σ : Sto} {a : Addr} {o : AO} (h : σ a = some o) : sput σ a o = σ := by
  funext b
  by_cases e : b = a
  · subst e; rw [sput_self, h]
  · rw [sput_ne e]
theorem pd_put (F : Puts) (x : Nm) (T : Ty) : dput (pd F) (nm x) T.d = pd (dputN F x T) := by
  unfold dput dputN
  rw [pd_look]
  cases e : F.lookup x with
  | none => simp [pd]
  | some t =>
    simp only [Option.map_some, Option.isSome_some, if_true, pd, List.map_map]
    refine List.map_congr_left fun p _ => ?_
    simp only [Function.comp, nm_eq]
    split <;> rfl
theorem bo_ne {σ : Sto} {i f : Addr} {F : Puts} (B : Bo σ i f F) : i ≠ f := fun e => by
  have h1 := B.hi; have h2 := B.hf
  rw [e, h2] at h1; exact nomatch h1
theorem F_len {F : Puts} (h : (F.map (·.1)).Nodup) : F.length ≤ 15 := by
  have := nm_len h
  simpa using this
theorem sp_bind (d : Nat) (σ : Sto) (i f : Addr) (F : Puts) (B : Bo σ i f F) (hF : (F.map (·.1)).Nodup) (dF : ∀ p ∈ F, p.2.dep ≤ 3) (x : Nm) (T : Ty) (dT : T.dep ≤ 3) (Q : AV → Sto → Prop)
    (h1 : T = .par x → ∀ σ', Le σ σ' → Q (.d (.bool true)) σ') (h2 : T ≠ .par x → Rch F T x → ∀ σ', Le σ σ' → Q (.d (.bool false)) σ')
    (h3 : T ≠ .par x → ¬ Rch F T x → ∀ σ', Le (sput σ f (.dict (pd (dputN F x T)))) σ' → Q (.d (.bool true)) σ') :
    Ct (d + 3) "bind" [.ins i, .d (.str (nm x)), .d T.d] σ Q := by
  refine enter tl_bind rfl ?_
  have ev := ev_eqp (C := Ct (d + 2)) (ρ := [some (.ins i), some (.d (.str (nm x))), some (.d T.d)]) (σ := σ) (e := .var 2) (e' := .var 1) (x := x) (Nat.le_trans dT (by decide)) (ev_var rfl) (ev_var rfl)
  by_cases e : T = .par x
  · exact s_ite_t (decide_eq_true e ▸ ev) (s_ret ev_bool ⟨σ, Le.refl, h1 e σ Le.refl⟩)
  · refine s_ite_f (decide_eq_false e ▸ ev) (s_iteM ?_)
    obtain ⟨b, n, hr, hb⟩ := holds_ok hF dF dT x
    refine evR_meth rfl B.hi (ea2 (ev_var rfl) (ev_var rfl)) (sp_holds_name d σ i f F B T x b n hr _ fun σ' L => ?_)
    cases b with
    | true => exact ik_t (s_ret ev_bool ⟨σ', Le.refl, h2 e (hb.mp rfl) σ' L⟩)
    | false =>
      have B' := B.mono L
      have fl : (pd F).length ≤ sizeLine := by rw [pd, List.length_map]; exact Nat.le_trans (F_len hF) (Nat.le_trans (by decide) line_ge)
      exact ik_f (s_nil (s_subD (ev_var rfl) (ev_found rfl B') (ev_var rfl) B'.hf fl (s_ret ev_bool ⟨_, Le.refl, h3 e (fun h => nomatch hb.mpr h) _ (by rw [pd_put]; exact L.sput _ _)⟩)))
theorem tl_unify : tab.lookup (Str.ofString "unify") = some ⟨p_unify, l_unify, b_unify⟩ := by kernel_rfl
noncomputable def wlE (E : Eqs) : List PyData := (prs E).reverse
theorem wlE_cons (p : Ty × Ty) (E : Eqs) : wlE (p :: E) = wlE E ++ [.tuple [p.1.d, p.2.d]] := by simp [wlE, prs]
theorem wlE_app (k l : Eqs) : wlE (k ++ l) = wlE l ++ wlE k := by simp [wlE, prs]
theorem wlE_len (l : Eqs) : (wlE l).length = l.length := by simp [wlE, prs]
theorem wlE_rev (l : Eqs) : wlE l.reverse = prs l := by simp [wlE, prs]
theorem pair_dOk {a b : Ty} (ha : a.dep ≤ 200) (hb : b.dep ≤ 200) : (PyData.tuple [a.d, b.d]).canLay0 = true ∧ (PyData.tuple [a.d, b.d]).depth ≤ 499 := by
  have h := lay_all (xs := [a.d, b.d]) (n := 400) fun x hx => by
    simp at hx
    rcases hx with rfl | rfl
    · exact ⟨lay_ty, by have := dep_ty (T := a); omega⟩
    · exact ⟨lay_ty, by have := dep_ty (T := b); omega⟩
  refine ⟨by simpa only [PyData.canLay0] using h.1, ?_⟩
  have e : (PyData.tuple [a.d, b.d]).depth = PyData.depthAll [a.d, b.d] + 1 := by simp only [PyData.depth]; try omega
  omega
theorem wlE_dOk {l : Eqs} (h : ∀ p ∈ l, p.1.dep ≤ 200 ∧ p.2.dep ≤ 200) : dOk (.list (wlE l)) = true := dOk_list fun x hx => by
  simp only [wlE, prs, List.mem_reverse, List.mem_map] at hx
  obtain ⟨p, hp, rfl⟩ := hx
  have := h p hp
  exact pair_dOk this.1 this.2
theorem pair_hk {a b : Ty} (ha : a.dep ≤ 3) (hb : b.dep ≤ 3) : hk 8 (.tuple [a.d, b.d]) := hk_two (n := 7) (hk_ty a) (hk_ty b) (Nat.le_trans (Nat.mul_le_mul_left 2 ha) (by decide)) (Nat.le_trans (Nat.mul_le_mul_left 2 hb) (by decide))
theorem prs_any (g : Eqs) (h t : Ty) : ((prs g).any fun y => PyData.eqv y (.tuple [h.d, t.d])) = decide ((h, t) ∈ g) := by
  induction g with
  | nil => rfl
  | cons p g ih =>
    have e : PyData.eqv (.tuple [p.1.d, p.2.d]) (.tuple [h.d, t.d]) = decide ((h, t) = p) := by
      simp [PyData.eqv, PyData.eqvAll, ty_eqv]
      rw [← Bool.decide_and]
      apply decide_eq_decide.mpr
      rw [Prod.ext_iff]
      exact ⟨fun h => ⟨h.1.symm, h.2.symm⟩, fun h => ⟨h.1.symm, h.2.symm⟩⟩
    show (PyData.eqv _ _ || (prs g).any _) = _
    rw [e, ih, ← Bool.decide_or]
    exact decide_eq_decide.mpr List.mem_cons.symm
structure US (σ σ' : Sto) (i f l g : Addr) (left gone : Eqs) (F : Puts) : Prop where
  le : Le (sput σ f (.dict (pd F))) σ'
  bo : Bo σ' i f F
  hf : σ f ≠ none
  nl : σ l = none
  ng : σ g = none
  ne : l ≠ g
  hl : σ' l = some (.list (wlE left))
  hg : σ' g = some (.tset (prs gone))
theorem US.setl {σ σ' : Sto} {i f l g : Addr} {left gone : Eqs} {F : Puts} (H : US σ σ' i f l g left gone F) {left' : Eqs} {xs : List PyData} (e : xs = wlE left') : US σ (sput σ' l (.list xs)) i f l g left' gone F := by
  have hlf : l ≠ f := fun e => H.hf (by rw [← e]; exact H.nl)
  have hil : i ≠ l := fun e => by have := H.bo.hi; rw [e, H.hl] at this; exact nomatch this
  exact ⟨H.le.put_own (by rw [sput_ne hlf]; exact H.nl) _, ⟨by rw [sput_ne hil]; exact H.bo.hi, by rw [sput_ne hlf.symm]; exact H.bo.hf⟩, H.hf, H.nl, H.ng, H.ne, by rw [sput_self, e], by rw [sput_ne H.ne.symm]; exact H.hg⟩
theorem US.setg {σ σ' : Sto} {i f l g : Addr} {left gone : Eqs} {F : Puts} (H : US σ σ' i f l g left gone F) {gone' : Eqs} {xs : List PyData} (e : xs = prs gone') : US σ (sput σ' g (.tset xs)) i f l g left gone' F := by
  have hlf : g ≠ f := fun e => H.hf (by rw [← e]; exact H.ng)
  have hil : i ≠ g := fun e => by have := H.bo.hi; rw [e, H.hg] at this; exact nomatch this
  exact ⟨H.le.put_own (by rw [sput_ne hlf]; exact H.ng) _, ⟨by rw [sput_ne hil]; exact H.bo.hi, by rw [sput_ne hlf.symm]; exact H.bo.hf⟩, H.hf, H.nl, H.ng, H.ne, by rw [sput_ne H.ne]; exact H.hl, by rw [sput_self, e]⟩
theorem US.bind {σ σ' σ'' : Sto} {i f l g : Addr} {left gone : Eqs} {F F' : Puts} (H : US σ σ' i f l g left gone F) (L : Le (sput σ' f (.dict (pd F'))) σ'') : US σ σ'' i f l g left gone F' := by
  have hlf : l ≠ f := fun e => H.hf (by rw [← e]; exact H.nl)
  have hgf : g ≠ f := fun e => H.hf (by rw [← e]; exact H.ng)
  refine ⟨?_, ⟨L _ _ (by rw [sput_ne (bo_ne H.bo)]; exact H.bo.hi), L _ _ sput_self⟩, H.hf, H.nl, H.ng, H.ne, L _ _ (by rw [sput_ne hlf]; exact H.hl), L _ _ (by rw [sput_ne hgf]; exact H.hg)⟩
  have := H.le.sput f (.dict (pd F'))
  rw [sput_sput] at this
  exact this.trans L
theorem US.mono {σ σ' σ'' : Sto} {i f l g : Addr} {left gone : Eqs} {F : Puts} (H : US σ σ' i f l g left gone F) (L : Le σ' σ'') : US σ σ'' i f l g left gone F :=
  H.bind (by rw [sput_same H.bo.hf]; exact L)
theorem SRun.dep {F : Puts} {r T : Ty} {n : Nat} (h : SRun F r n T) (hT : T.dep ≤ 3) (dF : ∀ p ∈ F, p.2.dep ≤ 3) : r.dep ≤ 3 := by
  induction h with
  | stop h => exact hT
  | step hl _ ih => exact ih (dF _ (mem_of_lookup hl))
theorem dputN_new {F : Puts} {x : Nm} {t : Ty} (h : F.lookup x = none) : dputN F x t = F ++ [(x, t)] := by
  unfold dputN
  rw [h]; rfl
theorem cq_gone {σ : Sto} {g : Addr} {gone : Eqs} {h t : Ty} (hg : σ g = some (.tset (prs gone))) (dh : h.dep ≤ 3) (dt : t.dep ≤ 3) : Cq .In σ (.d (.tuple [h.d, t.d])) (.loc g) (decide ((h, t) ∈ gone)) := fun Q q => by
  exact .s rfl (tst_at hg) (pair_hk dh dt) (by rw [prs_any]; exact q)
noncomputable abbrev unρ (i l g : Addr) (a0 b0 : Ty) (o1 o2 o3 : Option AV) : Rho := [some (.ins i), some (.d a0.d), some (.d b0.d), some (.loc l), some (.loc g), o1, o2, o3]
inductive UI (σ : Sto) (i f l g : Addr) (a0 b0 : Ty) (R : Bool → Puts → Prop) : Nat → Rho → Sto → Prop
  | mk {n : Nat} {left gone : Eqs} {F : Puts} {o1 o2 o3 : Option AV} {σ' : Sto} (H : US σ σ' i f l g left gone F) (hr : URun R n left gone F) : UI σ i f l g a0 b0 R n (unρ i l g a0 b0 o1 o2 o3) σ'
noncomputable abbrev URet (σ : Sto) (f : Addr) (Q : AV → Sto → Prop) : Bool → Puts → Prop := fun r F => ∀ σ', Le (sput σ f (.dict (pd F))) σ' → Q (.d (.bool r)) σ'
section
variable {d i1 i2 n : Nat} {σ σ' : Sto} {i f l g : Addr} {a0 b0 a b h t : Ty} {o1 o2 o3 : Option AV} {r gone : Eqs} {F : Puts} {K : Fl → Rho → Sto → Prop} {x : Nm}
theorem un_turn (H : US σ σ' i f l g ((a, b) :: r) gone F) (ub : UB ((a, b) :: r) gone F) (hh : SRun F h i1 a) (ht : SRun F t i2 b)
    (k1 : (h, t) ∈ gone → ∀ σ1, US σ σ1 i f l g r gone F → K .cnt (unρ i l g a0 b0 (some (.d h.d)) (some (.d t.d)) o3) σ1)
    (k2 : (h, t) ∉ gone → h.dep ≤ 3 → t.dep ≤ 3 → ∀ σ1, US σ σ1 i f l g r (gone ++ [(h, t)]) F → awSs (Ct (d + 3)) b_unify_11 (unρ i l g a0 b0 (some (.d h.d)) (some (.d t.d)) o3) σ1 K) :
    awSs (Ct (d + 3)) b_unify_15 (unρ i l g a0 b0 o1 o2 o3) σ' K := by
  have dh := hh.dep (ub.dE _ (.head _)).1 ub.dF
  have dt := ht.dep (ub.dE _ (.head _)).2 ub.dF
  have l2 : (prs gone).length ≤ sizeLine := by rw [prs, List.length_map]; exact Nat.le_trans ub.lenG (Nat.le_trans (by decide) line_ge)
  have l1 : (wlE r).length + 1 ≤ sizeLine := by rw [wlE_len]; exact Nat.le_trans ub.lenE (Nat.le_trans (by decide) line_ge)
  have H1 := H.setl (left' := r) (xs := wlE r) rfl
  refine s_asgT (ev_pop rfl (H.hl.trans (by rw [wlE_cons])) l1) rfl ?_
  generalize sput σ' l (.list (wlE r)) = σ1 at H1 ⊢
  refine s_asgM (ea2 (ev_meth rfl H1.bo.hi (ea1 (ev_var rfl)) (sp_seen (d + 2) σ1 i f F H1.bo h a i1 hh)) (ev_meth rfl H1.bo.hi (ea1 (ev_var rfl)) (sp_seen (d + 2) σ1 i f F H1.bo t b i2 ht))) rfl ?_
  have hc := cq_gone H1.hg dh dt
  by_cases hin : (h, t) ∈ gone
  · exact s_ite_t (ev_cmp (ev_tup2 (ev_var rfl) (ev_var rfl)) (ev_var rfl) (decide_eq_true hin ▸ hc)) (s_cont (k1 hin σ1 H1))
  · refine s_ite_f (ev_cmp (ev_tup2 (ev_var rfl) (ev_var rfl)) (ev_var rfl) (decide_eq_false hin ▸ hc)) (s_subS (ev_var rfl) (ev_tup2 (ev_var rfl) (ev_var rfl)) H1.hg (pair_hk dh dt) l2 ((prs_any gone h t).trans (decide_eq_false hin)) ?_)
    exact k2 hin dh dt _ (H1.setg (by rw [prs, prs, List.map_append]; rfl))
theorem un_bind {ρ : Rho} {e1 e2 : Ex} {b : Bool} {F' : Puts} (ho : ρ[0]? = some (some (.ins i))) (B : Bo σ i f F) (nd : (F.map (·.1)).Nodup) (dF : ∀ p ∈ F, p.2.dep ≤ 3) (h1 : Ev (Ct (d + 3)) ρ σ e1 (.d (.str (nm x))) σ) (h2 : Ev (Ct (d + 3)) ρ σ e2 (.d t.d) σ) (dt : t.dep ≤ 3)
    (hb : Bnd F x t b F') (k : ∀ σ2, Le (sput σ f (.dict (pd F'))) σ2 → K (if b then .nxt else .ret (.d (.bool false))) ρ σ2) :
    awSs (Ct (d + 3)) (.cons (.ite (.not (.meth 0 "bind" (.cons e1 (.cons e2 .nil)))) (.cons (.ret (.bool false)) .nil) .nil) .nil) ρ σ K := by
  have same : ∀ σ2, Le σ σ2 → Le (sput σ f (.dict (pd F))) σ2 := fun σ2 L => by rw [sput_same B.hf]; exact L
  refine s_iteN (evR_meth ho B.hi (ea2 h1 h2) (sp_bind d σ i f F B nd dF x t dt _ (fun e σ2 L => ?_) (fun e1 e2 σ2 L => ?_) fun e1 e2 σ2 L => ?_)) <;> cases hb
  · exact ik_t (s_nil (s_nil (k σ2 (same σ2 L))))
  · exact absurd e ‹_›
  · exact absurd e ‹_›
  · exact absurd ‹_› e1
  · exact ik_f (s_ret ev_bool (k σ2 (same σ2 L)))
  · exact absurd e2 ‹_›
  · exact absurd ‹_› e1
  · exact absurd ‹_› e2
  · exact ik_t (s_nil (s_nil (k σ2 (by rw [← dputN_new ‹_›]; exact L))))
theorem un_body {R : Bool → Puts → Prop} {Q : AV → Sto → Prop} (hR : R = URet σ f Q) : ∀ {n : Nat} {left gone : Eqs} {F : Puts}, URun R n left gone F → ∀ {σ' : Sto} {o1 o2 o3 : Option AV}, US σ σ' i f l g left gone F →
    Wt (Ct (d + 3)) (.cmp .NotEq (.var 3) (.lst false .nil)) b_unify_15 b_unify_16 (UI σ i f l g a0 b0 R) (Ret Q) n (unρ i l g a0 b0 o1 o2 o3) σ' := by
  have ret : ∀ {n F' ρ σ1 b}, R b F' → Le (sput σ f (.dict (pd F'))) σ1 → Wq (UI σ i f l g a0 b0 R) (Ret Q) n (.ret (.d (.bool b))) ρ σ1 := fun {n F' ρ σ1 b} h L => ⟨σ1, Le.refl, by rw [hR] at h; exact h σ1 L⟩
  have full : ∀ {left : Eqs} {gone : Eqs} {F : Puts} {p : Ty × Ty} {o1 o2 o3 : Option AV} {σ' : Sto}, US σ σ' i f l g (p :: left) gone F → UB (p :: left) gone F → Ev (Ct (d + 3)) (unρ i l g a0 b0 o1 o2 o3) σ' (.cmp .NotEq (.var 3) (.lst false .nil)) (.d (.bool true)) σ' :=
    fun {left gone F p o1 o2 o3 σ'} H ub => ev_cmp (ev_var rfl) ev_nil (cq_ne (t := false) (cq_wl H.hl (wlE_dOk fun T hT => ⟨Nat.le_trans (ub.dE T hT).1 (by decide), Nat.le_trans (ub.dE T hT).2 (by decide)⟩) (by rw [wlE_cons]; exact app_ne _ _)))
  intro n left gone F hr
  cases hr with
  | done ub h =>
    intro σ' o1 o2 o3 H
    exact .out (ev_cmp (ev_var rfl) ev_nil (cq_ne (t := true) (cq_wl H.hl (by decide +kernel) rfl))) (s_ret ev_bool ⟨σ', Le.refl, by rw [hR] at h; exact h σ' H.le⟩)
  | skip ub hh ht hin hr =>
    intro σ' o1 o2 o3 H
    exact .go (full H ub) (un_turn H ub hh ht (fun _ σ1 H1 => wq_cnt (Nat.lt_succ_self _) (.mk H1 hr)) fun h => absurd hin h)
  | bind ub hh ht hin hb hr =>
    intro σ' o1 o2 o3 H
    refine .go (full H ub) (un_turn H ub hh ht (fun h => absurd h hin) fun _ dh dt σ1 H1 => s_ite_t (ev_par_t (ev_var rfl)) ?_)
    exact un_bind rfl H1.bo ub.nd ub.dF (ev_nm (ev_var rfl)) (ev_var rfl) dt hb fun σ2 L => wq_go (Nat.lt_succ_self _) (.mk (H1.bind L) hr)
  | bindN ub hh ht hin hb h =>
    intro σ' o1 o2 o3 H
    refine .go (full H ub) (un_turn H ub hh ht (fun h => absurd h hin) fun _ dh dt σ1 H1 => s_ite_t (ev_par_t (ev_var rfl)) ?_)
    exact un_bind rfl H1.bo ub.nd ub.dF (ev_nm (ev_var rfl)) (ev_var rfl) dt hb fun σ2 L => ret h (H1.bind L).le
  | dnib ub hh ht hin hp hb hr =>
    intro σ' o1 o2 o3 H
    refine .go (full H ub) (un_turn H ub hh ht (fun h => absurd h hin) fun _ dh dt σ1 H1 => s_ite (t := false) (ev_par_f hp (ev_var rfl)) (s_ite_t (ev_par_t (ev_var rfl)) ?_))
    exact un_bind rfl H1.bo ub.nd ub.dF (ev_nm (ev_var rfl)) (ev_var rfl) dh hb fun σ2 L => s_nil (wq_go (Nat.lt_succ_self _) (.mk (H1.bind L) hr))
  | dnibN ub hh ht hin hp hb h =>
    intro σ' o1 o2 o3 H
    refine .go (full H ub) (un_turn H ub hh ht (fun h => absurd h hin) fun _ dh dt σ1 H1 => s_ite (t := false) (ev_par_f hp (ev_var rfl)) (s_ite_t (ev_par_t (ev_var rfl)) ?_))
    exact un_bind rfl H1.bo ub.nd ub.dF (ev_nm (ev_var rfl)) (ev_var rfl) dh hb fun σ2 L => ret h (H1.bind L).le
  | mism ub hh ht hin hp hp' hd h =>
    intro σ' o1 o2 o3 H
    refine .go (full H ub) (un_turn H ub hh ht (fun h => absurd h hin) fun _ dh dt σ1 H1 => s_ite (t := false) (ev_par_f hp (ev_var rfl)) (s_ite (t := false) (ev_par_f hp' (ev_var rfl)) ?_))
    refine s_asg (ev_call (ea2 (ev_var rfl) (ev_var rfl)) (sp_head_pairs (d + 2) σ1 _ _ (Nat.le_trans dh (by decide)) (Nat.le_trans dt (by decide)))) (s_ite_t (ev_cmp (ev_var rfl) ev_none (t := true) ?_) (s_ret ev_bool (ret h H1.le)))
    rw [hpR, if_neg hd]
    exact fun Q q => .n rfl rfl q
  | @pairs n _ _ _ _ h t r _ _ ub hh ht hin hp hp' hd hr =>
    intro σ' o1 o2 o3 H
    refine .go (full H ub) (un_turn H ub hh ht (fun h => absurd h hin) fun _ dh dt σ1 H1 => s_ite (t := false) (ev_par_f hp (ev_var rfl)) (s_ite (t := false) (ev_par_f hp' (ev_var rfl)) ?_))
    have l1 : (wlE r).length + (prs (h.parts.zip t.parts)).length ≤ sizeLine := by
      rw [wlE_len, prs, List.length_map, List.length_zip]
      have := ub.lenE
      rw [List.length_cons] at this
      exact Nat.le_trans (Nat.add_le_add (Nat.le_of_succ_le this) (Nat.le_trans (Nat.min_le_left _ _) (parts_le h))) (Nat.le_trans (by decide) line_ge)
    refine s_asg (v := .d (.list (prs (h.parts.zip t.parts)))) (ev_call (ea2 (ev_var rfl) (ev_var rfl)) ?_) (s_ite_f (ev_cmp (ev_var rfl) ev_none (t := false) fun Q q => .l rfl rfl q) (s_expr (ev_ext rfl H1.hl (ev_var rfl) l1 rfl) (s_nil (s_nil (s_nil (wq_go (Nat.lt_succ_self _) (.mk (H1.setl (by rw [wlE_app, wlE_rev])) hr)))))))
    intro Q q
    refine sp_head_pairs (d + 2) σ1 h t (Nat.le_trans dh (by decide)) (Nat.le_trans dt (by decide)) Q ?_
    rw [hpR, if_pos hd]; exact q
end
theorem sp_unify (d : Nat) (σ : Sto) (i f : Addr) (F0 : Puts) (B : Bo σ i f F0) (a0 b0 : Ty) (n : Nat) (Q : AV → Sto → Prop)
    (h : URun (fun r F => ∀ σ', Le (sput σ f (.dict (pd F))) σ' → Q (.d (.bool r)) σ') n [(a0, b0)] [] F0) :
    Ct (d + 4) "unify" [.ins i, .d a0.d, .d b0.d] σ Q := by
  refine enter tl_unify rfl (s_asgMw ?_)
  refine ea_lst (ev_tup2 (ev_var rfl) (ev_var rfl)) fun l hl => ea_dct fun g hg => ea_nil ⟨rfl, ?_⟩
  have hgl : g ≠ l := fun e => by rw [e, sput_self] at hg; exact nomatch hg
  rw [sput_ne hgl] at hg
  have hf0 : σ f ≠ none := by rw [B.hf]; exact fun h => nomatch h
  have L : Le σ (sput (sput σ l (.list [.tuple [a0.d, b0.d]])) g (.tset [])) := (Le.put_new (fun a o h => h) hl _).put_new (by rw [sput_ne hgl]; exact hg) _
  refine s_whl (UI σ i f l g a0 b0 (URet σ f Q)) (n := n) (.mk ⟨by rw [sput_same B.hf]; exact L, B.mono L, hf0, hl, hg, hgl.symm, by rw [sput_ne hgl.symm, sput_self]; rfl, sput_self⟩ h) fun n ρ σ' hi => ?_
  cases hi with
  | mk H hr => exact un_body rfl hr H
theorem tl_all_unified : tab.lookup (Str.ofString "all_unified") = some ⟨p_all_unified, l_all_unified, b_all_unified⟩ := by kernel_rfl
theorem Bo.step {σ σ' : Sto} {i f : Addr} {F F' : Puts} (B : Bo σ i f F) (L : Le (sput σ f (.dict (pd F'))) σ') : Bo σ' i f F' :=
  ⟨L _ _ (by rw [sput_ne (bo_ne B)]; exact B.hi), L _ _ sput_self⟩
theorem Le.step {σ σ' σ'' : Sto} {f : Addr} {o o' : AO} (L : Le (Mine.sput σ f o) σ') (L' : Le (Mine.sput σ' f o') σ'') : Le (Mine.sput σ f o') σ'' := by
  have := L.sput f o'
  rw [sput_sput] at this
  exact this.trans L'
theorem URun.mono {R R' : Bool → Puts → Prop} (k : ∀ b F, R b F → R' b F) {n : Nat} {l g : Eqs} {F : Puts} (h : URun R n l g F) : URun R' n l g F := by
  induction h with
  | done a b => exact .done a (k _ _ b)
  | skip a b c e _ ih => exact .skip a b c e ih
  | bind a b c e e1 _ ih => exact .bind a b c e e1 ih
  | bindN a b c e e1 r => exact .bindN a b c e e1 (k _ _ r)
  | dnib a b c e e1 e2 _ ih => exact .dnib a b c e e1 e2 ih
  | dnibN a b c e e1 e2 r => exact .dnibN a b c e e1 e2 (k _ _ r)
  | mism a b c e e1 e2 e3 r => exact .mism a b c e e1 e2 e3 (k _ _ r)
  | pairs a b c e e1 e2 e3 _ ih => exact .pairs a b c e e1 e2 e3 ih
noncomputable def AU (R : Bool → Puts → Prop) : Eqs → Puts → Prop
  | [], F => R true F
  | p :: E, F => ∃ n, URun (fun b F' => (b = true → AU R E F') ∧ (b = false → R false F')) n [p] [] F
theorem zips_tys : ∀ (ss os : List Ty), zips (ss.map Ty.d) (os.map Ty.d) = prs (ss.zip os)
  | [], os => by simp [zips, prs]
  | s :: ss, [] => by simp [zips, prs]
  | s :: ss, o :: os => by
    have := zips_tys ss os
    simp [zips, prs] at this ⊢
    exact this
inductive LAU (σ : Sto) (i f : Addr) (ss os : List Ty) (R : Bool → Puts → Prop) : Eqs → Rho → Sto → Prop
  | mk {E : Eqs} {F : Puts} {o1 o2 : Option AV} {σ1 : Sto} (ha : AU R E F) (L : Le (sput σ f (.dict (pd F))) σ1) : LAU σ i f ss os R E [some (.ins i), some (.d (.list (ss.map Ty.d))), some (.d (.list (os.map Ty.d))), o1, o2] σ1
theorem au_turn {d : Nat} {σ σ1 : Sto} {i f : Addr} {F0 : Puts} (B : Bo σ i f F0) {ss os : List Ty} {Q : AV → Sto → Prop} {p : Ty × Ty} {E : Eqs} {ρ : Rho} {K : Fl → Rho → Sto → Prop} (h : LAU σ i f ss os (URet σ f Q) (p :: E) ρ σ1) (k : Fk (LAU σ i f ss os (URet σ f Q) E) (Ret Q) K) :
    awSs (Ct (d + 4)) b_all_unified_3 ((ρ.set 3 (some (.d p.1.d))).set 4 (some (.d p.2.d))) σ1 K := by
  cases h with
  | mk ha L =>
    obtain ⟨n, hr⟩ := ha
    have B1 := B.step L
    refine s_iteN (evR_meth rfl B1.hi (ea2 (ev_var rfl) (ev_var rfl)) (sp_unify d σ1 i f _ B1 p.1 p.2 n _ (hr.mono fun r F' hR σ' L' => ?_)))
    have L2 := L.step L'
    cases r with
    | true => exact ik_t (s_nil (s_nil (k.nxt _ _ (.mk (hR.1 rfl) L2))))
    | false => exact ik_f (s_ret ev_bool (k.ret _ _ _ ⟨σ', Le.refl, hR.2 rfl σ' L2⟩))
theorem sp_all_unified (d : Nat) (σ : Sto) (i f : Addr) (F0 : Puts) (B : Bo σ i f F0) (ss os : List Ty) (hs : ss.length ≤ 100) (ho : os.length ≤ 100) (Q : AV → Sto → Prop)
    (h1 : ss.length ≠ os.length → ∀ σ', Le σ σ' → Q (.d (.bool false)) σ')
    (h2 : ss.length = os.length → AU (fun r F => ∀ σ', Le (sput σ f (.dict (pd F))) σ' → Q (.d (.bool r)) σ') (ss.zip os) F0) :
    Ct (d + 5) "all_unified" [.ins i, .d (.list (ss.map Ty.d)), .d (.list (os.map Ty.d))] σ Q := by
  refine enter tl_all_unified rfl ?_
  have lens : ∀ {t : Bool}, (((ss.length : Nat) : Int) == ((os.length : Nat) : Int)) = t → Ev (Ct (d + 4)) [some (.ins i), some (.d (.list (ss.map Ty.d))), some (.d (.list (os.map Ty.d))), none, none] σ (.cmp .NotEq (.bi .len (.cons (.var 1) .nil)) (.bi .len (.cons (.var 2) .nil))) (.d (.bool (!t))) σ := fun {t} h => by
    refine ev_cmp (ev_lenL (ev_var rfl) (by rw [List.length_map]; exact Nat.le_trans hs (by decide))) (ev_lenL (ev_var rfl) (by rw [List.length_map]; exact Nat.le_trans ho (by decide))) (cq_ne ?_)
    rw [← h, List.length_map, List.length_map]
    exact cq_int
  by_cases e : ss.length = os.length
  · refine s_ite_f (lens (t := true) (by rw [e, beq_self_eq_true])) (s_forR (ev_zip (ev_var rfl) (ev_var rfl) _ ?_))
    refine for2 (v := .d (.list (zips (ss.map Ty.d) (os.map Ty.d)))) (g := fun p : Ty × Ty => p.1.d) (g' := fun p => p.2.d) (l := ss.zip os) (LAU σ i f ss os (URet σ f Q)) (congrArg some (zips_tys ss os)) (.mk (h2 e) (by rw [sput_same B.hf]; exact Le.refl)) (fun ρ σ1 h => ?_) fun p E ρ σ1 h K k => au_turn B h k
    cases h with
    | mk ha L => exact s_ret ev_bool ⟨σ1, Le.refl, ha σ1 L⟩
  · exact s_ite_t (lens (t := false) (beq_false_of_ne fun h => e (Int.ofNat_inj.mp h))) (s_ret ev_bool ⟨σ, Le.refl, h1 e σ Le.refl⟩)
theorem tl_names_in : tab.lookup (Str.ofString "names_in") = some ⟨p_names_in, l_names_in, b_names_in⟩ := by kernel_rfl
noncomputable def nd (xs : List Nm) : List PyData := xs.map fun x => .str (nm x)
theorem nd_len (xs : List Nm) : (nd xs).length = xs.length := by simp [nd]
theorem dOk_nm (x : Nm) : dOk (.str (nm x)) = true := dOk_str (nm_ok x)
theorem dOk_nd (xs : List Nm) : dOk (.list (nd xs)) = true := dOk_list fun x hx => by
  obtain ⟨y, hy, rfl⟩ := List.mem_map.mp hx
  simp [PyData.canLay0, nm_ok, PyData.depth]
theorem nd_any (g : List Nm) (x : Nm) : ((nd g).any fun y => PyData.eqv y (.str (nm x))) = decide (x ∈ g) := by
  induction g with
  | nil => rfl
  | cons y g ih =>
    have e : PyData.eqv (.str (nm y)) (.str (nm x)) = decide (x = y) := by
      simp [PyData.eqv]
      by_cases e : x = y
      · subst e; simp
      · rw [beq_false_of_ne fun h => e (nm_inj _ _ h).symm]; simp [e]
    show (PyData.eqv _ _ || (nd g).any _) = _
    rw [e, ih, ← Bool.decide_or]
    exact decide_eq_decide.mpr List.mem_cons.symm
theorem pick_rev {α : Type} (xs : List α) (h : xs.length ≤ 2) : pick xs xs.length none none (some (-1)) = xs.reverse := by
  have e1 : sliceRange (sliceBounds none none (some (-1)) 1).fst (sliceBounds none none (some (-1)) 1).snd.fst (sliceBounds none none (some (-1)) 1).snd.snd = [0] := by decide +kernel
  have e2 : sliceRange (sliceBounds none none (some (-1)) 2).fst (sliceBounds none none (some (-1)) 2).snd.fst (sliceBounds none none (some (-1)) 2).snd.snd = [1, 0] := by decide +kernel
  match xs, h with
  | [], _ => rfl
  | [a], _ =>
    show List.filterMap _ (sliceRange (sliceBounds none none (some (-1)) 1).fst (sliceBounds none none (some (-1)) 1).snd.fst (sliceBounds none none (some (-1)) 1).snd.snd) = _
    rw [e1]; simp
  | [a, b], _ =>
    show List.filterMap _ (sliceRange (sliceBounds none none (some (-1)) 2).fst (sliceBounds none none (some (-1)) 2).snd.fst (sliceBounds none none (some (-1)) 2).snd.snd) = _
    rw [e2]; simp
structure NS (σ σ' : Sto) (l a : Addr) (left : List Ty) (acc : List Nm) : Prop where
  le : Le σ σ'
  nl : σ l = none
  na : σ a = none
  ne : l ≠ a
  hl : σ' l = some (.list (wl left))
  ha : σ' a = some (.list (nd acc))
theorem NS.setl {σ σ' : Sto} {l a : Addr} {left : List Ty} {acc : List Nm} (H : NS σ σ' l a left acc) {left' : List Ty} {xs : List PyData} (e : xs = wl left') : NS σ (sput σ' l (.list xs)) l a left' acc :=
  ⟨H.le.put_own H.nl _, H.nl, H.na, H.ne, by rw [sput_self, e], by rw [sput_ne H.ne.symm]; exact H.ha⟩
theorem NS.seta {σ σ' : Sto} {l a : Addr} {left : List Ty} {acc : List Nm} (H : NS σ σ' l a left acc) {acc' : List Nm} {xs : List PyData} (e : xs = nd acc') : NS σ (sput σ' a (.list xs)) l a left acc' :=
  ⟨H.le.put_own H.na _, H.nl, H.na, H.ne, by rw [sput_ne H.ne]; exact H.hl, by rw [sput_self, e]⟩
theorem onceAcc_cons (acc : List Nm) (x : Nm) (l : List Nm) : onceAcc acc (x :: l) = onceAcc (if x ∈ acc then acc else acc ++ [x]) l := rfl
theorem nd_app (a b : List Nm) : nd (a ++ b) = nd a ++ nd b := List.map_append
theorem cq_nd {σ : Sto} {a : Addr} {xs : List Nm} {x : Nm} {t : Bool} (h : σ a = some (.list (nd xs))) (e : decide (x ∈ xs) = t) : Cq .In σ (.d (.str (nm x))) (.loc a) t := fun Q q => .l rfl (rd_at h) (dOk_nm x) (dOk_nd xs) (by rw [nd_any, e]; exact q)
theorem cq_ndd {σ : Sto} {xs : List Nm} {x : Nm} {t : Bool} (e : decide (x ∈ xs) = t) : Cq .In σ (.d (.str (nm x))) (.d (.list (nd xs))) t := fun Q q => .l rfl rfl (dOk_nm x) (dOk_nd xs) (by rw [nd_any, e]; exact q)
theorem ev_rev {C : Ctr} {ρ : Rho} {σ σ₁ : Sto} {e : Ex} {xs : List PyData} (h : Ev C ρ σ e (.d (.list xs)) σ₁) (hn : xs.length ≤ 2) : Ev C ρ σ (.slc .none .none (.neg 1) e) (.d (.list xs.reverse)) σ₁ := fun K k => by
  refine h _ (ev_none _ (ev_none _ (ev_neg _ ?_)))
  rw [← pick_rev xs hn] at k
  exact .mk rfl (Nat.le_trans hn two_line) .none .none .int (by decide) k
theorem nodup_snoc {acc : List Nm} {x : Nm} (h : acc.Nodup) (hx : x ∉ acc) : (acc ++ [x]).Nodup :=
  List.nodup_append.mpr ⟨h, List.nodup_cons.mpr ⟨List.not_mem_nil, .nil⟩, fun a ha b hb e => hx (List.mem_singleton.mp hb ▸ e ▸ ha)⟩
theorem lsz_parts {T : Ty} {r : List Ty} : lsz (T.parts ++ r) < lsz (T :: r) := by
  rw [lsz_app, lsz_cons]
  exact Nat.add_lt_add_right (parts_size (a := T)) _
noncomputable abbrev naρ (T0 : Ty) (a l : Addr) (o : Option AV) : Rho := [some (.d T0.d), some (.loc a), some (.loc l), o]
inductive NI (σ : Sto) (a l : Addr) (T0 : Ty) : Nat → Rho → Sto → Prop
  | mk {left : List Ty} {acc : List Nm} {o : Option AV} {σ' : Sto} (H : NS σ σ' l a left acc) (hb : lsz left ≤ 1000) (hd : ∀ T ∈ left, T.dep ≤ 200) (hnd : acc.Nodup) (hv : onceAcc acc (left.flatMap Ty.vars) = once T0.vars) : NI σ a l T0 (lsz left) (naρ T0 a l o) σ'
section
variable {d : Nat} {σ σ' : Sto} {a l : Addr} {T0 : Ty} {Q : AV → Sto → Prop}
theorem na_rest {T : Ty} {r : List Ty} {acc : List Nm} (H : NS σ σ' l a r acc) (hb : lsz (T :: r) ≤ 1000) (hd : ∀ S ∈ T :: r, S.dep ≤ 200) (hnd : acc.Nodup) (hv : onceAcc acc (T.parts.flatMap Ty.vars ++ r.flatMap Ty.vars) = once T0.vars) :
    awSs (Ct (d + 1)) b_names_in_2 (naρ T0 a l (some (.d T.d))) σ' (Wq (NI σ a l T0) (Ret Q) (lsz (T :: r))) := by
  have dT := hd T (.head _)
  have pl : (T.parts.map Ty.d).length ≤ 2 := by rw [List.length_map]; exact parts_le T
  have l1 : (wl r).length + (T.parts.map Ty.d).reverse.length ≤ sizeLine := by
    rw [wl_len, List.length_reverse]
    exact Nat.le_trans (Nat.add_le_add (Nat.le_trans (lsz_len r) (Nat.le_trans (by rw [lsz_cons]; exact Nat.le_add_left _ _) hb)) pl) (Nat.le_trans (by decide) line_ge)
  refine s_expr (ev_ext rfl H.hl (ev_rev (ev_parts (Nat.le_trans dT (by decide)) rfl) pl) l1 rfl) (s_nil (wq_go lsz_parts (.mk (left := T.parts ++ r) (H.setl (wl_app _ _).symm) (Nat.le_trans (Nat.le_of_lt lsz_parts) hb) (fun S hS => ?_) hnd (by rw [List.flatMap_append]; exact hv))))
  rcases List.mem_append.mp hS with hS | hS
  · exact Nat.le_trans (Nat.le_of_lt (part_dep hS)) dT
  · exact hd S (.tail _ hS)
theorem na_body (hq : ∀ σ' a, Le σ σ' → σ a = none → σ' a = some (.list (nd (once T0.vars))) → Q (.loc a) σ') {o : Option AV} : ∀ {left : List Ty} {acc : List Nm}, NS σ σ' l a left acc → lsz left ≤ 1000 → (∀ T ∈ left, T.dep ≤ 200) → acc.Nodup → onceAcc acc (left.flatMap Ty.vars) = once T0.vars →
    Wt (Ct (d + 1)) (.cmp .NotEq (.var 2) (.lst false .nil)) b_names_in_4 b_names_in_5 (NI σ a l T0) (Ret Q) (lsz left) (naρ T0 a l o) σ' := by
  intro left acc
  cases left with
  | nil =>
    intro H _ _ _ hv
    refine .out (ev_cmp (ev_var rfl) ev_nil (cq_ne (t := true) (cq_wl H.hl (by decide +kernel) rfl))) (s_ret (ev_var rfl) ⟨σ', Le.refl, hq σ' a H.le H.na ?_⟩)
    rw [← hv]; exact H.ha
  | cons T r =>
    intro H hb hd hnd hv
    have lr : (wl r).length + 1 ≤ sizeLine := by
      rw [wl_len]
      exact Nat.le_trans (lsz_len (T :: r)) (Nat.le_trans hb (Nat.le_trans (by decide) line_ge))
    refine .go (ev_cmp (ev_var rfl) ev_nil (cq_ne (t := false) (cq_wl H.hl (wl_dOk hd) (by rw [wl_cons]; exact app_ne _ _)))) (s_asg (ev_pop rfl (H.hl.trans (by rw [wl_cons])) lr) ?_)
    have H1 := H.setl (left' := r) (xs := wl r) rfl
    generalize sput σ' l (.list (wl r)) = σ1 at H1
    rw [List.flatMap_cons] at hv
    cases hp : T.isPar with
    | false => exact s_ite_f (ev_and_f (ev_par_f hp (ev_var rfl))) (na_rest H1 hb hd hnd (vars_parts hp ▸ hv))
    | true =>
      obtain ⟨x, rfl⟩ := par_of hp
      replace hv : onceAcc (if x ∈ acc then acc else acc ++ [x]) ((Ty.par x).parts.flatMap Ty.vars ++ r.flatMap Ty.vars) = once T0.vars := hv
      by_cases hx : x ∈ acc
      · rw [if_pos hx] at hv
        exact s_ite_f (ev_and (ev_par_t (ev_var rfl)) (ev_cmp (ev_nm (ev_var rfl)) (ev_var rfl) (cq_ni (t := true) (cq_nd H1.ha (decide_eq_true hx))))) (na_rest H1 hb hd hnd hv)
      · rw [if_neg hx] at hv
        refine s_ite_t (ev_and (ev_par_t (ev_var rfl)) (ev_cmp (ev_nm (ev_var rfl)) (ev_var rfl) (cq_ni (t := false) (cq_nd H1.ha (decide_eq_false hx))))) ?_
        exact s_expr (ev_app rfl H1.ha (ev_nm (ev_var rfl)) (by rw [nd_len]; exact Nat.le_trans (nm_len hnd) (Nat.le_trans (by decide) line_ge))) (s_nil (na_rest (H1.seta (nd_app acc [x]).symm) hb hd (nodup_snoc hnd hx) hv))
end
theorem sp_names_in (d : Nat) (σ : Sto) (T0 : Ty) (hT : T0.dep ≤ 200) (hz : T0.size ≤ 1000) (Q : AV → Sto → Prop) (hq : ∀ σ' a, Le σ σ' → σ a = none → σ' a = some (.list (nd (once T0.vars))) → Q (.loc a) σ') :
    Ct (d + 2) "names_in" [.d T0.d] σ Q := by
  refine enter tl_names_in rfl (s_newL (ea_nil fun a ha => s_newL (ea_cons (ev_var rfl) (ea_nil fun l hl => ?_))))
  have hla : l ≠ a := fun e => by rw [e, sput_self] at hl; exact nomatch hl
  rw [sput_ne hla] at hl
  refine s_whl (NI σ a l T0) (n := lsz [T0]) (.mk ⟨(Le.put_new (fun a o h => h) ha _).put_new (by rw [sput_ne hla]; exact hl) _, hl, ha, hla, sput_self, by rw [sput_ne hla.symm, sput_self]; rfl⟩ (by rw [lsz_cons]; exact hz) (fun T h => List.mem_singleton.mp h ▸ hT) .nil (by rw [List.flatMap_cons, List.flatMap_nil, List.append_nil]; rfl)) fun _ _ _ hi => ?_
  cases hi with
  | mk H hb hd hnd hv => exact na_body hq H hb hd hnd hv
theorem tl_whole : tab.lookup (Str.ofString "whole") = some ⟨p_whole, l_whole, b_whole⟩ := by kernel_rfl
theorem idx_last {σ : Sto} {a : Addr} {xs : List PyData} {x : PyData} (h : σ a = some (.list (xs ++ [x]))) (hl : xs.length ≤ 100000) (Q : PyData → Prop) (q : Q x) : idxQ σ (.loc a) (.d (.int (-1))) Q := by
  have e2 : seqRd σ (.loc a) = some (xs ++ [x]) := by
    show (rd σ (.loc a)).bind seqOf = _
    rw [rd_at h]; rfl
  refine .s e2 rfl (by decide) (by decide) (n := xs.length) ?_ ?_ q
  · rw [List.length_append]; exact seqIdx_last xs.length hl
  · rw [List.getElem?_append_right (Nat.le_refl _), Nat.sub_self]; rfl
theorem Le.cut_new {σ σ' : Sto} (L : Le σ σ') {a : Addr} (h : σ a = Option.none) : Le σ (scut σ' a) := fun b x hb => by
  by_cases e : b = a
  · subst e; rw [h] at hb; exact nomatch hb
  · rw [scut_ne e]; exact L _ _ hb
theorem ev_last {C : Ctr} {ρ : Rho} {σ : Sto} {n : Nat} {l : Addr} {xs : List PyData} {x : PyData} (h : ρ[n]? = some (some (.loc l))) (hl : σ l = some (.list (xs ++ [x]))) (hn : xs.length ≤ 100000) : Ev C ρ σ (.idx (.var n) (.neg 1)) (.d x) σ :=
  ev_idx (ev_var h) ev_neg fun Q q => by
    exact idx_last hl hn Q q
theorem cq_ndnil {σ : Sto} {xs : List Nm} {t : Bool} (e : decide (xs = []) = t) : Cq .Eq σ (.d (.list (nd xs))) (.d (.list [])) t := fun Q q => by
  have dn : dOk (.list []) = true := by decide +kernel
  have e2 : PyData.eqvAll (nd xs) [] = t := by rw [← e]; cases xs <;> rfl
  exact .d rfl rfl (dOk_nd xs) dn (by rw [eqv_list, e2]; exact q)
structure WS (σ σ' : Sto) (l g : Addr) (left : List Nm) (D : Puts) : Prop where
  le : Le σ σ'
  nl : σ l = none
  ng : σ g = none
  ne : l ≠ g
  hl : σ' l = some (.list (nd left.reverse))
  hg : σ' g = some (.dict (pd D))
theorem WS.setl {σ σ' : Sto} {l g : Addr} {left : List Nm} {D : Puts} (H : WS σ σ' l g left D) {left' : List Nm} {xs : List PyData} (e : xs = nd left'.reverse) : WS σ (sput σ' l (.list xs)) l g left' D :=
  ⟨H.le.put_own H.nl _, H.nl, H.ng, H.ne, by rw [sput_self, e], by rw [sput_ne H.ne.symm]; exact H.hg⟩
theorem WS.setg {σ σ' : Sto} {l g : Addr} {left : List Nm} {D : Puts} (H : WS σ σ' l g left D) {D' : Puts} {xs : List (Str × PyData)} (e : xs = pd D') : WS σ (sput σ' g (.dict xs)) l g left D' :=
  ⟨H.le.put_own H.ng _, H.nl, H.ng, H.ne, by rw [sput_ne H.ne]; exact H.hl, by rw [sput_self, e]⟩
theorem WS.mono {σ σ' σ'' : Sto} {l g : Addr} {left : List Nm} {D : Puts} (H : WS σ σ' l g left D) (L : Le σ' σ'') : WS σ σ'' l g left D :=
  ⟨H.le.trans L, H.nl, H.ng, H.ne, L _ _ H.hl, L _ _ H.hg⟩
theorem WS.last {σ σ' : Sto} {l g : Addr} {x : Nm} {r : List Nm} {D : Puts} (H : WS σ σ' l g (x :: r) D) : σ' l = some (.list (nd r.reverse ++ [.str (nm x)])) := by
  rw [H.hl, List.reverse_cons, nd_app]; rfl
noncomputable abbrev whρ (i g l : Addr) (T0 : Ty) (o1 o2 : Option AV) : Rho := [some (.ins i), some (.d T0.d), some (.loc g), some (.loc l), o1, o2]
inductive WI (F : Puts) (R : Puts → Prop) (σ : Sto) (i g l : Addr) (T0 : Ty) : Nat → Rho → Sto → Prop
  | mk {n : Nat} {left : List Nm} {D : Puts} {o1 o2 : Option AV} {σ' : Sto} (H : WS σ σ' l g left D) (hr : ZRun F R n left D) : WI F R σ i g l T0 n (whρ i g l T0 o1 o2) σ'
section
variable {d i1 : Nat} {σ σ' : Sto} {i f g l : Addr} {F D : Puts} {T0 h : Ty} {x : Nm} {r : List Nm} {o1 o2 : Option AV} {K : Fl → Rho → Sto → Prop} {Q : AV → Sto → Prop}
theorem ZB.l1 (zb : ZB (x :: r) D) : (nd r.reverse).length ≤ 1000 := by
  rw [nd_len, List.length_reverse]
  exact Nat.le_of_succ_le zb.len
theorem wh_turn (B : Bo σ i f F) (dF : ∀ p ∈ F, p.2.dep ≤ 3) (H : WS σ σ' l g (x :: r) D) (zb : ZB (x :: r) D) (hs : SRun F h i1 (.par x))
    (k : h.dep ≤ 3 → ∀ σ2, WS σ σ2 l g (x :: r) D → awSs (Ct (d + 3)) b_whole_4 (whρ i g l T0 (some (.d h.d)) (some (.d (.list (nd (inn h D)))))) σ2 K) :
    awSs (Ct (d + 3)) b_whole_6 (whρ i g l T0 o1 o2) σ' K := by
  have dh : h.dep ≤ 3 := hs.dep (show 1 ≤ 3 by decide) dF
  have B1 := B.mono H.le
  refine s_asg (ev_meth rfl B1.hi (ea1 (ev_par (ev_last rfl H.last (Nat.le_trans zb.l1 (by decide))))) (sp_seen (d + 2) σ' i f F B1 h (.par x) i1 hs)) ?_
  cases hp : h.isPar with
  | true =>
    have q := k dh σ' H
    have hi : inn h D = [] := by unfold inn; rw [if_pos hp]
    rw [hi] at q
    obtain ⟨y, rfl⟩ := par_of hp
    exact s_asg (ev_ite_t (ev_par_t (ev_var rfl)) ev_nil) q
  | false =>
    refine s_asgR (evR_ite_f (ev_par_f hp (ev_var rfl)) (evR_comp (evR_fcall (ea1 (ev_var rfl)) (sp_names_in (d + 1) σ' h (Nat.le_trans dh (by decide)) (Nat.le_trans (size_le7 dh) (by decide)) _ fun σ2 a L hl hln => fck hln ?_))))
    have H2 := H.mono (L.cut_new hl)
    have q := k dh _ H2
    have hi : inn h D = (once h.vars).filter fun y => !(D.lookup y).isSome := by
      unfold inn; rw [if_neg (by rw [hp]; exact Bool.false_ne_true)]
      congr 1; funext y; cases D.lookup y <;> rfl
    rw [hi] at q
    exact cm_filter (g := fun x => .str (nm x)) (fun y _ => ev_cmp (ev_var rfl) (ev_var rfl) (cq_ni (cq_pd H2.hg rfl))) (Nat.le_trans (nm_len (once_nodup .nil)) (Nat.le_trans (by decide) line_ge)) q
theorem wh_fin {ρ : Rho} (dh : h.dep ≤ 3) (hg : σ g = some (.dict (pd D))) (h4 : ρ[4]? = some (some (.d h.d))) (h2 : ρ[2]? = some (some (.loc g))) :
    Ev (Ct (d + 3)) ρ σ (.ite (.cmp .Eq (.idx (.var 4) (.int 0)) (.str "param")) (.var 4) (.call "filled" (.cons (.var 4) (.cons (.var 2) .nil)))) (.d (fin h D).d) σ := by
  unfold fin
  cases hp : h.isPar with
  | true =>
    rw [if_pos rfl]
    obtain ⟨y, rfl⟩ := par_of hp
    exact ev_ite_t (ev_par_t (ev_var h4)) (ev_var h4)
  | false =>
    rw [if_neg Bool.false_ne_true]
    exact ev_ite_f (ev_par_f hp (ev_var h4)) (ev_call (ea2 (ev_var h4) (ev_var h2)) fun Q q => sp_filled h (d + 3) (Nat.le_trans dh (Nat.le_add_left _ _)) σ g D Q (dct_at hg) q)
theorem inn_len : (inn h D).length ≤ 15 := by
  unfold inn
  split
  · exact Nat.zero_le _
  · exact nm_len ((once_nodup .nil).filter _)
theorem wh_body (B : Bo σ i f F) (dF : ∀ p ∈ F, p.2.dep ≤ 3) (dT : T0.dep ≤ 3) (hq : ∀ σ', Le σ σ' → Q (.d (T0.ap (W F)).d) σ') : ∀ {n : Nat} {left : List Nm} {D : Puts}, ZRun F (fun D => T0.ap (look D) = T0.ap (W F)) n left D → ∀ {σ' : Sto} {o1 o2 : Option AV}, WS σ σ' l g left D →
    Wt (Ct (d + 3)) (.cmp .NotEq (.var 3) (.lst false .nil)) b_whole_6 b_whole_7 (WI F (fun D => T0.ap (look D) = T0.ap (W F)) σ i g l T0) (Ret Q) n (whρ i g l T0 o1 o2) σ' := by
  have full : ∀ {x : Nm} {r : List Nm} {D : Puts} {o1 o2 : Option AV} {σ' : Sto}, WS σ σ' l g (x :: r) D → Ev (Ct (d + 3)) (whρ i g l T0 o1 o2) σ' (.cmp .NotEq (.var 3) (.lst false .nil)) (.d (.bool true)) σ' :=
    fun {x r D o1 o2 σ'} H => ev_cmp (ev_var rfl) ev_nil (cq_ne (t := false) (cq_wl H.hl (dOk_nd _) (by rw [List.reverse_cons, nd_app]; exact app_ne _ _)))
  intro n left D hr
  cases hr with
  | done zb hR =>
    intro σ' o1 o2 H
    refine .out (ev_cmp (ev_var rfl) ev_nil (cq_ne (t := true) (cq_wl H.hl (by decide +kernel) rfl))) (s_ret (v := .d (T0.ap (W F)).d) (ev_call (ea2 (ev_var rfl) (ev_var rfl)) fun Q q => ?_) ⟨σ', Le.refl, hq σ' H.le⟩)
    exact sp_filled T0 (d + 3) (Nat.le_trans dT (Nat.le_add_left _ _)) σ' g D Q (dct_at H.hg) (hR ▸ q)
  | @put n i1 x h r D zb hs hc hr =>
    intro σ' o1 o2 H
    refine .go (full H) (wh_turn B dF H zb hs fun dh σ2 H2 => s_ite_t (σ' := σ2) ?_ ?_)
    · by_cases hi : inn h D = []
      · exact ev_or_t (ev_cmp (ev_var rfl) ev_nil (cq_ndnil (decide_eq_true hi)))
      · exact ev_or (ev_cmp (ev_var rfl) ev_nil (cq_ndnil (decide_eq_false hi))) (ev_in H2.hg (ev_last rfl H2.last (Nat.le_trans zb.l1 (by decide))) (ev_var rfl) (hc.resolve_left hi))
    · have H3 := H2.setg (pd_put D x (fin h D))
      have pl : (pd D).length ≤ sizeLine := by rw [pd, List.length_map]; exact Nat.le_trans zb.lenD (Nat.le_trans (by decide) line_ge)
      exact s_subD (wh_fin dh H2.hg rfl rfl) (ev_var rfl) (ev_last rfl H2.last (Nat.le_trans zb.l1 (by decide))) H2.hg pl
        (s_expr (ev_pop rfl H3.last (Nat.le_trans (Nat.succ_le_succ zb.l1) (Nat.le_trans (by decide) line_ge))) (s_nil (s_nil (wq_go (Nat.lt_succ_self _) (.mk (H3.setl rfl) hr)))))
  | @more n i1 x h r D zb hs hc hc2 hr =>
    intro σ' o1 o2 H
    have ln : (nd (x :: r).reverse).length + (nd (inn h D)).length ≤ sizeLine := by
      rw [nd_len, nd_len, List.length_reverse]
      exact Nat.le_trans (Nat.add_le_add zb.len inn_len) (Nat.le_trans (by decide) line_ge)
    refine .go (full H) (wh_turn B dF H zb hs fun dh σ2 H2 => s_ite (t := false) (ev_or (ev_cmp (ev_var rfl) ev_nil (cq_ndnil (decide_eq_false hc))) (ev_in H2.hg (ev_last rfl H2.last (Nat.le_trans zb.l1 (by decide))) (ev_var rfl) hc2)) ?_)
    exact s_expr (ev_ext rfl H2.hl (ev_var rfl) ln rfl) (s_nil (s_nil (wq_go (Nat.lt_succ_self _) (.mk (H2.setl (by rw [List.reverse_append, List.reverse_reverse, nd_app])) hr))))
end
theorem sp_whole (d : Nat) (σ : Sto) (i f : Addr) (F : Puts) (B : Bo σ i f F) (hF : (F.map (·.1)).Nodup) (dF : ∀ p ∈ F, p.2.dep ≤ 3) (ha : Acy F) (T0 : Ty) (dT : T0.dep ≤ 3) (Q : AV → Sto → Prop)
    (hq : ∀ σ', Le σ σ' → Q (.d (T0.ap (W F)).d) σ') : Ct (d + 4) "whole" [.ins i, .d T0.d] σ Q := by
  refine enter tl_whole rfl (s_asgMw (ea_dct fun g hg => eaR_cons (evR_call (ea1 (ev_var rfl)) (sp_names_in (d + 1) _ T0 (Nat.le_trans dT (by decide)) (Nat.le_trans (size_le7 dT) (by decide)) _ fun σ1 l L hl hln => ea_nil ⟨rfl, ?_⟩))))
  have hlg : l ≠ g := fun e => by rw [e, sput_self] at hl; exact nomatch hl
  rw [sput_ne hlg] at hl
  obtain ⟨n, hz⟩ := whole_ok ha (T := T0) (R := fun D => T0.ap (look D) = T0.ap (W F)) fun D h => h
  refine s_whl (WI F (fun D => T0.ap (look D) = T0.ap (W F)) σ i g l T0) (n := n) (.mk ⟨(Le.put_new (fun a o h => h) hg _).trans L, hl, hg, hlg, by rw [List.reverse_reverse]; exact hln, L _ _ sput_self⟩ hz) fun _ _ _ hi => ?_
  cases hi with
  | mk H hr => exact wh_body B dF dT hq hr H
theorem tl_law_parts : tab.lookup (Str.ofString "_law_parts") = some ⟨p_law_parts, l_law_parts, b_law_parts⟩ := by kernel_rfl
theorem tl_law_shape : tab.lookup (Str.ofString "_law_shape") = some ⟨p_law_shape, l_law_shape, b_law_shape⟩ := by kernel_rfl
theorem tl_law_put : tab.lookup (Str.ofString "_law_put") = some ⟨p_law_put, l_law_put, b_law_put⟩ := by kernel_rfl
theorem tl_law_names : tab.lookup (Str.ofString "_law_names") = some ⟨p_law_names, l_law_names, b_law_names⟩ := by kernel_rfl
section
variable {d : Nat} {σ : Sto} {T : Ty} {Q : AV → Sto → Prop}
theorem pa_leaf (k : String) (hk : T.kd = k) (e1 : (k == "ref") = false) (e2 : (["box", "array"].any fun x => x == k) = false) (e3 : (k == "tuple") = false) (e4 : (k == "adt") = false) (hp : T.parts = []) (hq : Q (.d (.tuple (T.parts.map Ty.d))) σ) : Ct (d + 1) "_law_parts" [.d T.d] σ Q := by
  rw [hp] at hq
  exact enter tl_law_parts rfl (s_ite_f (ev_k so_ref hk (ev_var rfl) e1) (s_ite_f (ev_in2 so_box so_arr hk (ev_var rfl) e2) (s_ret (ev_ite_f (ev_k so_tup hk (ev_var rfl) e3) (ev_ite_f (ev_k so_adt hk (ev_var rfl) e4) (ev_tup eas_nil rfl))) ⟨σ, Le.refl, hq⟩)))
theorem sp_law_parts (d : Nat) (σ : Sto) (T : Ty) (Q : AV → Sto → Prop) (hq : Q (.d (.tuple (T.parts.map Ty.d))) σ) : Ct (d + 1) "_law_parts" [.d T.d] σ Q := by
  cases T with
  | bool => exact pa_leaf "bool" rfl (by decide) (by decide) (by decide) (by decide) rfl hq
  | u8 => exact pa_leaf "int" rfl (by decide) (by decide) (by decide) (by decide) rfl hq
  | nev => exact pa_leaf "never" rfl (by decide) (by decide) (by decide) (by decide) rfl hq
  | par x => exact pa_leaf "param" rfl (by decide) (by decide) (by decide) (by decide) rfl hq
  | box a => exact enter tl_law_parts rfl (s_ite_f (ev_k (k := "box") so_ref rfl (ev_var rfl) (by decide)) (s_ite_t (ev_in2 (k := "box") so_box so_arr rfl (ev_var rfl) (by decide)) (s_ret (ev_tup1 (ev_t1 (x := .str "box") (y := a.d) (ev_var rfl))) ⟨σ, Le.refl, hq⟩)))
  | arr a => exact enter tl_law_parts rfl (s_ite_f (ev_k (k := "array") so_ref rfl (ev_var rfl) (by decide)) (s_ite_t (ev_in2 (k := "array") so_box so_arr rfl (ev_var rfl) (by decide)) (s_ret (ev_tup1 (ev_t1 (x := .str "array") (y := a.d) (ev_var rfl))) ⟨σ, Le.refl, hq⟩)))
  | ref m a => exact enter tl_law_parts rfl (s_ite_t (ev_k (k := "ref") so_ref rfl (ev_var rfl) (by decide)) (s_ret (ev_tup1 (ev_t3 (x := .str "ref") (y := .none) (z := .bool m) (z' := a.d) (ev_var rfl))) ⟨σ, Le.refl, hq⟩))
  | tup a b => exact enter tl_law_parts rfl (s_ite_f (ev_k (k := "tuple") so_ref rfl (ev_var rfl) (by decide)) (s_ite_f (ev_in2 (k := "tuple") so_box so_arr rfl (ev_var rfl) (by decide)) (s_ret (ev_ite_t (ev_k (k := "tuple") so_tup rfl (ev_var rfl) (by decide)) (ev_t1 (x := .str "tuple") (y := .tuple [a.d, b.d]) (ev_var rfl))) ⟨σ, Le.refl, hq⟩)))
  | adt a b => exact enter tl_law_parts rfl (s_ite_f (ev_k (k := "adt") so_ref rfl (ev_var rfl) (by decide)) (s_ite_f (ev_in2 (k := "adt") so_box so_arr rfl (ev_var rfl) (by decide)) (s_ret (ev_ite_f (ev_k (k := "adt") so_tup rfl (ev_var rfl) (by decide)) (ev_ite_t (ev_k (k := "adt") so_adt rfl (ev_var rfl) (by decide)) (ev_t3 (x := .str "adt") (y := .str "W") (z := .tuple []) (z' := .tuple [a.d, b.d]) (ev_var rfl)))) ⟨σ, Le.refl, hq⟩)))
end
noncomputable def shp : Ty → PyData
  | .ref m _ => .tuple [.str "ref", .bool m]
  | .box _ => .tuple [.str "box", .int 1]
  | .arr _ => .tuple [.str "array", .int 1]
  | .tup _ _ => .tuple [.str "tuple", .int 2]
  | .adt _ _ => .tuple [.str "adt", .int 2]
  | T => T.d
section
variable {d : Nat} {σ : Sto} {T : Ty} {Q : AV → Sto → Prop}
theorem ev_in4 {C : Ctr} {ρ : Rho} {e : Ex} {σ₁ : Sto} {k : String} {t : Bool} (hk : T.kd = k) (h : Ev C ρ σ e (.d T.d) σ₁) (e' : (["box", "array", "tuple", "adt"].any fun x => x == k) = t) :
    Ev C ρ σ (.cmp .In (.idx e (.int 0)) (.tup (.cons (.str "box") (.cons (.str "array") (.cons (.str "tuple") (.cons (.str "adt") .nil)))))) (.d (.bool t)) σ₁ := by
  have ok : ∀ x ∈ ["box", "array", "tuple", "adt"], PyData.strOk (Str.ofString x) = true := by decide +kernel
  rw [← e', ← hk]
  exact ev_cmp (ev_kd h) (ev_tup4 ev_str ev_str ev_str ev_str) (cq_strs ["box", "array", "tuple", "adt"] (kd_ok T) ok)
theorem sh_leaf (k : String) (hk : T.kd = k) (e1 : (k == "ref") = false) (e2 : (["box", "array", "tuple", "adt"].any fun x => x == k) = false) (hp : shp T = T.d) (hq : Q (.d (shp T)) σ) : Ct (d + 2) "_law_shape" [.d T.d] σ Q := by
  rw [hp] at hq
  exact enter tl_law_shape rfl (s_ite_f (ev_k so_ref hk (ev_var rfl) e1) (s_ret (ev_ite_f (ev_in4 hk (ev_var rfl) e2) (ev_var rfl)) ⟨σ, Le.refl, hq⟩))
theorem sh_node (k : String) (hk : T.kd = k) (e1 : (k == "ref") = false) (e2 : (["box", "array", "tuple", "adt"].any fun x => x == k) = true) (hp : shp T = .tuple [.str (Str.ofString T.kd), .int (T.parts.map Ty.d).length]) (hq : Q (.d (shp T)) σ) : Ct (d + 2) "_law_shape" [.d T.d] σ Q := by
  rw [hp] at hq
  exact enter tl_law_shape rfl (s_ite_f (ev_k so_ref hk (ev_var rfl) e1) (s_ret (ev_ite_t (ev_in4 hk (ev_var rfl) e2) (ev_tup2 (ev_kd (ev_var rfl)) (ev_lenT (ev_call (ea1 (ev_var rfl)) (sp_law_parts d σ T)) (by rw [List.length_map]; exact Nat.le_trans (parts_le T) (by decide))))) ⟨σ, Le.refl, hq⟩))
theorem sp_law_shape (d : Nat) (σ : Sto) (T : Ty) (Q : AV → Sto → Prop) (hq : Q (.d (shp T)) σ) : Ct (d + 2) "_law_shape" [.d T.d] σ Q := by
  cases T with
  | bool => exact sh_leaf "bool" rfl (by decide) (by decide) rfl hq
  | u8 => exact sh_leaf "int" rfl (by decide) (by decide) rfl hq
  | nev => exact sh_leaf "never" rfl (by decide) (by decide) rfl hq
  | par x => exact sh_leaf "param" rfl (by decide) (by decide) rfl hq
  | box a => exact sh_node "box" rfl (by decide) (by decide) rfl hq
  | arr a => exact sh_node "array" rfl (by decide) (by decide) rfl hq
  | tup a b => exact sh_node "tuple" rfl (by decide) (by decide) rfl hq
  | adt a b => exact sh_node "adt" rfl (by decide) (by decide) rfl hq
  | ref m a => exact enter tl_law_shape rfl (s_ite_t (ev_k (k := "ref") so_ref rfl (ev_var rfl) (by decide)) (s_ret (ev_tup2 ev_str (ev_t2 (x := .str "ref") (y := .none) (z := .bool m) (ev_var rfl))) ⟨σ, Le.refl, hq⟩))
end
theorem shp_dOk : ∀ T : Ty, dOk (shp T) = true := by
  intro T
  cases T with
  | par x => exact ty_dOk (T := .par x) (show 1 ≤ 240 by decide)
  | ref m a =>
    cases m with
    | true => exact (by decide +kernel : dOk (.tuple [.str "ref", .bool true]) = true)
    | false => exact (by decide +kernel : dOk (.tuple [.str "ref", .bool false]) = true)
  | bool => decide +kernel
  | u8 => decide +kernel
  | nev => decide +kernel
  | box a => exact (by decide +kernel : dOk (.tuple [.str "box", .int 1]) = true)
  | arr a => exact (by decide +kernel : dOk (.tuple [.str "array", .int 1]) = true)
  | tup a b => exact (by decide +kernel : dOk (.tuple [.str "tuple", .int 2]) = true)
  | adt a b => exact (by decide +kernel : dOk (.tuple [.str "adt", .int 2]) = true)
noncomputable def sht : Ty → List PyData
  | .ref m _ => [.bool m]
  | .box _ => [.int 1]
  | .arr _ => [.int 1]
  | .tup _ _ => [.int 2]
  | .adt _ _ => [.int 2]
  | .par x => [.str (nm x)]
  | .u8 => [.str "u8"]
  | _ => []
theorem shp_eq (T : Ty) : shp T = .tuple (.str (Str.ofString T.kd) :: sht T) := by cases T <;> rfl
theorem shp_eqv (S T : Ty) : PyData.eqv (shp S) (shp T) = decide (S.hd = T.hd) := by
  rw [shp_eq, shp_eq, eqv_tuple, eqvAll_cons, eqv_str, str_beq]
  by_cases h : S.kd = T.kd
  · rw [h, beq_self_eq_true, Bool.true_and]
    cases sk_of h with
    | par x y =>
      show (PyData.eqv (.str (nm x)) (.str (nm y)) && true) = decide (Ty.Hd.par x = .par y)
      rw [eqv_str, Bool.and_true]
      by_cases e : x = y
      · rw [e, beq_self_eq_true, decide_eq_true rfl]
      · rw [beq_false_of_ne fun h => e (nm_inj _ _ h), decide_eq_false fun h => e (by injection h)]
    | ref m a m' b => cases m <;> cases m' <;> rfl
    | _ => rfl
  · rw [beq_false_of_ne h, decide_eq_false (hd_kd h)]; rfl
theorem cq_shp {σ : Sto} {S T : Ty} {t : Bool} (e : decide (S.hd = T.hd) = t) : Cq .Eq σ (.d (shp S)) (.d (shp T)) t := fun Q q => by
  rw [← e, ← shp_eqv] at q
  exact .d rfl rfl (shp_dOk S) (shp_dOk T) q
section
variable {d : Nat} {σ : Sto} {T : Ty} {x : Nm} {t : Ty} {Q : AV → Sto → Prop} {b r : Sms}
noncomputable abbrev puρ (T : Ty) (x : Nm) (t : Ty) : Rho := [some (.d T.d), some (.d (.str (nm x))), some (.d t.d), some (.d (.tuple (T.parts.map fun S => (put S x t).d)))]
theorem pu_f {s k : String} (hs : PyData.strOk (Str.ofString s) = true) (hk : T.kd = k) (e : (k == s) = false) (q : awSs (Ct d) r (puρ T x t) σ (Ret Q)) : awSs (Ct d) (.cons (.ite (.cmp .Eq (.idx (.var 0) (.int 0)) (.str (Str.ofString s))) b .nil) r) (puρ T x t) σ (Ret Q) := s_ite_f (ev_k hs hk (ev_var rfl) e) q
theorem pu_t {s : String} {y : PyData} {e : Ex} (hs : PyData.strOk (Str.ofString s) = true) (hk : T.kd = s) (h : Ev (Ct d) (puρ T x t) σ e (.d y) σ) (hy : y = (put T x t).d) (q : Q (.d (put T x t).d) σ) :
    awSs (Ct d) (.cons (.ite (.cmp .Eq (.idx (.var 0) (.int 0)) (.str (Str.ofString s))) (.cons (.ret e) .nil) .nil) r) (puρ T x t) σ (Ret Q) := s_ite_t (ev_k hs hk (ev_var rfl) (beq_self_eq_true s)) (s_ret h ⟨σ, Le.refl, hy ▸ q⟩)
theorem pu_end {k : String} {y : PyData} (hk : T.kd = k) (e1 : (k == "ref") = false) (e2 : (k == "box") = false) (e3 : (k == "array") = false) (h : Ev (Ct d) (puρ T x t) σ (.ite (.cmp .Eq (.idx (.var 0) (.int 0)) (.str "tuple")) (.tup (.cons (.str "tuple") (.cons (.var 3) .nil))) (.ite (.cmp .Eq (.idx (.var 0) (.int 0)) (.str "adt")) (.tup (.cons (.str "adt") (.cons (.str "W") (.cons (.tup .nil) (.cons (.var 3) .nil))))) (.var 0))) (.d y) σ)
    (hy : y = (put T x t).d) (q : Q (.d (put T x t).d) σ) : awSs (Ct d) b_law_put_8 (puρ T x t) σ (Ret Q) := pu_f so_ref hk e1 (pu_f so_box hk e2 (pu_f so_arr hk e3 (s_ret h ⟨σ, Le.refl, hy ▸ q⟩)))
theorem pu_leaf {k : String} (hk : T.kd = k) (e1 : (k == "ref") = false) (e2 : (k == "box") = false) (e3 : (k == "array") = false) (e4 : (k == "tuple") = false) (e5 : (k == "adt") = false) (hy : T.d = (put T x t).d) (q : Q (.d (put T x t).d) σ) : awSs (Ct d) b_law_put_8 (puρ T x t) σ (Ret Q) :=
  pu_end hk e1 e2 e3 (ev_ite_f (ev_k so_tup hk (ev_var rfl) e4) (ev_ite_f (ev_k so_adt hk (ev_var rfl) e5) (ev_var rfl))) hy q
theorem pu_all (hx : T ≠ .par x) (q : Q (.d (put T x t).d) σ) : awSs (Ct d) b_law_put_8 (puρ T x t) σ (Ret Q) := by
  cases T with
  | bool => exact pu_leaf (k := "bool") rfl (by decide) (by decide) (by decide) (by decide) (by decide) rfl q
  | u8 => exact pu_leaf (k := "int") rfl (by decide) (by decide) (by decide) (by decide) (by decide) rfl q
  | nev => exact pu_leaf (k := "never") rfl (by decide) (by decide) (by decide) (by decide) (by decide) rfl q
  | par y =>
    have e : put (.par y) x t = .par y := if_neg fun h => hx (by rw [h])
    exact pu_leaf (k := "param") rfl (by decide) (by decide) (by decide) (by decide) (by decide) (by rw [e]) q
  | box a => exact pu_f (k := "box") so_ref rfl (by decide) (pu_t so_box rfl (ev_tup2 ev_str (ev_t0 (ev_var rfl))) rfl q)
  | arr a => exact pu_f (k := "array") so_ref rfl (by decide) (pu_f (k := "array") so_box rfl (by decide) (pu_t so_arr rfl (ev_tup3 ev_str (ev_t0 (ev_var rfl)) ev_int) rfl q))
  | ref m a => exact pu_t so_ref rfl (ev_tup4 ev_str ev_none (ev_t2 (x := .str "ref") (y := .none) (z := .bool m) (ev_var rfl)) (ev_t0 (ev_var rfl))) rfl q
  | tup a b => exact pu_end (k := "tuple") rfl (by decide) (by decide) (by decide) (ev_ite_t (ev_k (k := "tuple") so_tup rfl (ev_var rfl) (by decide)) (ev_tup2 ev_str (ev_var rfl))) rfl q
  | adt a b => exact pu_end (k := "adt") rfl (by decide) (by decide) (by decide) (ev_ite_f (ev_k (k := "adt") so_tup rfl (ev_var rfl) (by decide)) (ev_ite_t (ev_k (k := "adt") so_adt rfl (ev_var rfl) (by decide)) (ev_tup4 ev_str ev_str (ev_tup eas_nil rfl) (ev_var rfl)))) rfl q
theorem sp_law_put (x : Nm) (t : Ty) : ∀ (T : Ty) (d : Nat) (σ : Sto) (Q : AV → Sto → Prop), T.dep ≤ d → T.dep ≤ 240 → Q (.d (put T x t).d) σ → Ct (d + 1) "_law_put" [.d T.d, .d (.str (nm x)), .d t.d] σ Q
  | T, 0, σ, Q, hd, _, _ => absurd (Nat.le_trans (dep_pos T) hd) (Nat.not_succ_le_zero 0)
  | T, d + 1, σ, Q, hd, h240, hq => by
    refine enter tl_law_put rfl ?_
    have hc := ev_eqp (C := Ct (d + 1)) (ρ := [some (.d T.d), some (.d (.str (nm x))), some (.d t.d), none]) (σ := σ) (e := .var 0) (e' := .var 1) (x := x) h240 (ev_var rfl) (ev_var rfl)
    by_cases e : T = .par x
    · exact s_ite_t (decide_eq_true e ▸ hc) (s_ret (ev_var rfl) ⟨σ, Le.refl, by rw [e, show put (.par x) x t = t from if_pos rfl] at hq; exact hq⟩)
    · have pl := Nat.le_trans (parts_le T) two_line
      refine s_ite_f (decide_eq_false e ▸ hc) (s_asg (ev_tupL (ev_comp (g := Ty.d) (h := fun S => (put S x t).d) (xs := T.parts) (ev_call (ea1 (ev_var rfl)) (sp_law_parts d σ T)) rfl (fun S hS => ev_call (ea3 (ev_var rfl) (ev_var rfl) (ev_var rfl)) fun Q q => ?_) pl) (by rw [List.length_map]; exact pl)) (pu_all e hq))
      exact sp_law_put x t S d σ Q (Nat.le_of_lt_succ (Nat.lt_of_lt_of_le (part_dep hS) hd)) (Nat.le_trans (Nat.le_of_lt (part_dep hS)) h240) q
end
theorem vars_size : ∀ T : Ty, T.vars.length ≤ T.size := by
  intro T
  induction T with
  | par x => exact Nat.le_refl 1
  | box a ih => exact Nat.le_succ_of_le ih
  | arr a ih => exact Nat.le_succ_of_le ih
  | ref m a ih => exact Nat.le_succ_of_le ih
  | tup a b ia ib => simp only [Ty.vars, Ty.size, List.length_append]; omega
  | adt a b ia ib => simp only [Ty.vars, Ty.size, List.length_append]; omega
  | _ => exact Nat.zero_le _
theorem line_20 : 2 ^ 20 ≤ sizeLine := by decide +kernel
inductive LN (σ : Sto) (T : Ty) : List Ty → Rho → Sto → Prop
  | mk {l : List Ty} {acc : List Nm} {o : Option AV} (hm : ∀ S ∈ l, S ∈ T.parts) (hv : acc ++ l.flatMap Ty.vars = T.vars) : LN σ T l [some (.d T.d), some (.d (.list (nd acc))), o] σ
theorem app_le {acc l : List Nm} {r v : List Nm} {n : Nat} (h : acc ++ (l ++ r) = v) (hn : v.length ≤ n) : acc.length + l.length ≤ n := by
  rw [← h, List.length_append, List.length_append, ← Nat.add_assoc] at hn
  exact Nat.le_trans (Nat.le_add_right _ _) hn
theorem sp_law_names : ∀ (T : Ty) (d : Nat) (σ : Sto) (Q : AV → Sto → Prop), T.dep ≤ d → T.size ≤ 2 ^ 20 → Q (.d (.list (nd T.vars))) σ → Ct (d + 1) "_law_names" [.d T.d] σ Q
  | T, 0, σ, Q, hd, _, _ => absurd (Nat.le_trans (dep_pos T) hd) (Nat.not_succ_le_zero 0)
  | T, d + 1, σ, Q, hd, hz, hq => by
    refine enter tl_law_names rfl ?_
    cases hp : T.isPar with
    | true =>
      obtain ⟨x, rfl⟩ := par_of hp
      exact s_ite_t (ev_par_t (ev_var rfl)) (s_ret (ev_lst (ea1 (ev_nm (ev_var rfl))) rfl) ⟨σ, Le.refl, hq⟩)
    | false =>
      refine s_ite_f (ev_par_f hp (ev_var rfl)) (s_asg ev_nil (s_for1 (g := Ty.d) (l := T.parts) (LN σ T) (ev_call (ea1 (ev_var rfl)) (sp_law_parts d σ T)) rfl (.mk (acc := []) (fun _ h => h) (vars_parts hp).symm) (fun ρ σ1 h => ?_) fun S l ρ σ1 h K k => ?_))
      · cases h with
        | mk hm hv =>
          rw [List.flatMap_nil, List.append_nil] at hv
          exact s_ret (ev_var rfl) ⟨σ, Le.refl, hv ▸ hq⟩
      · cases h with
        | mk hm hv =>
          have hS := hm S (.head _)
          have hb := app_le hv (Nat.le_trans (vars_size T) (Nat.le_trans hz line_20))
          rw [List.flatMap_cons, ← List.append_assoc] at hv
          exact s_asg (ev_addL (ev_var rfl) (ev_call (ea1 (ev_var rfl)) fun Q q => sp_law_names S d σ Q (Nat.le_of_lt_succ (Nat.lt_of_lt_of_le (part_dep hS) hd)) (Nat.le_trans (Nat.le_of_lt (part_size hS)) hz) q) (by rw [nd_len, nd_len]; exact hb) (nd_app _ _).symm)
            (s_nil (k.nxt _ _ (.mk (fun S' h => hm S' (.tail _ h)) hv)))
theorem tl_law_once : tab.lookup (Str.ofString "_law_once") = some ⟨p_law_once, l_law_once, b_law_once⟩ := by kernel_rfl
theorem tl_law_lined : tab.lookup (Str.ofString "_law_lined") = some ⟨p_law_lined, l_law_lined, b_law_lined⟩ := by kernel_rfl
inductive LO (σ : Sto) (a : Addr) (xs : List Nm) : List Nm → Rho → Sto → Prop
  | mk {l acc : List Nm} {o : Option AV} {σ1 : Sto} (L : Le σ σ1) (h1 : σ1 a = some (.list (nd acc))) (h2 : onceAcc acc l = once xs) (h3 : acc.Nodup) : LO σ a xs l [some (.d (.list (nd xs))), some (.loc a), o] σ1
theorem sp_law_once (d : Nat) (σ : Sto) (xs : List Nm) (Q : AV → Sto → Prop) (hq : ∀ σ' a, Le σ σ' → σ a = none → σ' a = some (.list (nd (once xs))) → Q (.loc a) σ') : Ct (d + 1) "_law_once" [.d (.list (nd xs))] σ Q := by
  refine enter tl_law_once rfl (s_newL (ea_nil fun a ha => s_for1 (g := fun x => .str (nm x)) (l := xs) (LO σ a xs) (ev_var rfl) rfl (.mk (acc := []) (Le.put_new Le.refl ha _) sput_self rfl .nil) (fun ρ σ1 h => ?_) fun x l ρ σ1 h K k => ?_))
  · cases h with
    | mk L h1 h2 h3 => exact s_ret (ev_var rfl) ⟨σ1, Le.refl, hq σ1 a L ha (h2 ▸ h1)⟩
  · cases h with
    | mk L h1 h2 h3 =>
      rw [onceAcc_cons] at h2
      rename_i acc _
      by_cases hx : x ∈ acc
      · rw [if_pos hx] at h2
        exact s_ite_f (ev_cmp (ev_var rfl) (ev_var rfl) (cq_ni (t := true) (cq_nd h1 (decide_eq_true hx)))) (s_nil (k.nxt _ _ (.mk L h1 h2 h3)))
      · rw [if_neg hx] at h2
        exact s_ite_t (ev_cmp (ev_var rfl) (ev_var rfl) (cq_ni (t := false) (cq_nd h1 (decide_eq_false hx)))) (s_expr (ev_app rfl h1 (ev_var rfl) (by rw [nd_len]; exact Nat.le_trans (nm_len h3) (Nat.le_trans (by decide) line_ge)))
          (s_nil (s_nil (k.nxt _ _ (.mk (L.put_own ha _) (sput_self.trans (by rw [nd_app]; rfl)) h2 (nodup_snoc h3 hx))))))
theorem at_str (k : Nat) (h : k < 4) : Str.ofString (toString (k : Int)) = nm (at_ k) := by
  have : k = 0 ∨ k = 1 ∨ k = 2 ∨ k = 3 := by omega
  rcases this with rfl | rfl | rfl | rfl <;> rfl
noncomputable def ez : Nat → List Nm → List (Nat × Nm)
  | _, [] => []
  | k, x :: u => (k, x) :: ez (k + 1) u
theorem enums_nd (u : List Nm) : enums (nd u) = (ez 0 u).map fun p => .tuple [.int (p.1 : Nat), .str (nm p.2)] := by
  have key : ∀ (u : List Nm) (k : Nat), ((nd u).zipIdx k).map (fun p => PyData.tuple [.int (p.2 : Nat), p.1]) = (ez k u).map fun p => .tuple [.int (p.1 : Nat), .str (nm p.2)] := by
    intro u
    induction u with
    | nil => exact fun k => rfl
    | cons x u ih => exact fun k => congrArg (List.cons _) (ih (k + 1))
  exact key u 0
theorem List.single_le_sum_nat {l : List Nat} {x : Nat} (h : x ∈ l) : x ≤ l.sum := by
  induction l with
  | nil => exact nomatch h
  | cons y l ih =>
    rcases List.mem_cons.mp h with h | h
    · subst h; simp
    · have := ih h; simp; omega
theorem tsum_le {ts : List Ty} : (ts.flatMap Ty.vars).length ≤ (ts.map Ty.size).sum := by
  induction ts with
  | nil => simp
  | cons T ts ih => have := vars_size T; simp at ih ⊢; omega
inductive LA (σ : Sto) (ts : List Ty) : List Ty → Rho → Sto → Prop
  | mk {l : List Ty} {acc : List Nm} {o : Option AV} (hm : ∀ S ∈ l, S ∈ ts) (hv : acc ++ l.flatMap Ty.vars = ts.flatMap Ty.vars) : LA σ ts l [some (.d (.list (ts.map Ty.d))), some (.d (.list (nd acc))), o, none, none] σ
structure LBs (ts : List Ty) (i : Nat) (u : List Nm) (ts' : List Ty) : Prop where
  run : lineup i u ts' = lined ts
  i4 : i + u.length ≤ 4
  dep : ∀ T ∈ ts', T.dep ≤ 100
  len : ts'.length ≤ 100
inductive LB (σ : Sto) (ts : List Ty) : List (Nat × Nm) → Rho → Sto → Prop
  | mk {l : List (Nat × Nm)} {i : Nat} {u : List Nm} {ts' : List Ty} {o1 o2 o3 o4 : Option AV} (e : l = ez i u) (h : LBs ts i u ts') : LB σ ts l [some (.d (.list (ts'.map Ty.d))), o1, o2, o3, o4] σ
theorem put_dep1 {T : Ty} {x y : Nm} {n : Nat} (h : T.dep ≤ n) : (put T x (.par y)).dep ≤ n := Nat.le_trans (put_dep (D := 0) (show 1 ≤ 0 + 1 by decide)) h
theorem li_turn {d : Nat} {σ : Sto} {ts : List Ty} {p : Nat × Nm} {ps : List (Nat × Nm)} {ρ : Rho} {Q K : Fl → Rho → Sto → Prop} (h : LB σ ts (p :: ps) ρ σ) (k : Fk (LB σ ts ps) Q K) :
    awSs (Ct (d + 101)) b_law_lined_2 ((ρ.set 3 (some (.d (.int (p.1 : Nat))))).set 4 (some (.d (.str (nm p.2))))) σ K := by
  cases h with
  | @mk i u ts' o1 o2 o3 o4 e h =>
    cases u with
    | nil => cases e
    | cons x u =>
      cases e
      have i4 : i < 4 := Nat.lt_of_lt_of_le (Nat.lt_add_of_pos_right (Nat.succ_pos _)) h.i4
      refine s_asg (ev_compE (g := Ty.d) (h := fun S => (put S x (.par (at_ i))).d) (ys := (ts'.map fun S => put S x (.par (at_ i))).map Ty.d) (ev_var rfl) rfl (fun S hS => ev_call (ea3 (ev_var rfl) (ev_var rfl) (ev_par (σ₁ := σ) (x := at_ i) (ev_bi (ea1 (ev_var rfl)) fun Q q => ?_))) fun Q q => ?_) (Nat.le_trans h.len (Nat.le_trans (by decide) line_20)) List.map_map.symm)
        (s_nil (k.nxt _ _ (.mk rfl ⟨h.run, by have := h.i4; rw [List.length_cons] at this; omega, fun T hT => ?_, by rw [List.length_map]; exact h.len⟩)))
      · exact .str rfl rfl (Int.natCast_nonneg i) (by omega) (by rw [at_str i i4]; exact q)
      · exact sp_law_put x (.par (at_ i)) S (d + 100) σ Q (Nat.le_trans (h.dep S hS) (Nat.le_add_left _ _)) (Nat.le_trans (h.dep S hS) (by decide)) q
      · obtain ⟨S, hS, rfl⟩ := List.mem_map.mp hT
        exact put_dep1 (h.dep S hS)
theorem sp_law_lined (d : Nat) (σ : Sto) (ts : List Ty) (hd : ∀ T ∈ ts, T.dep ≤ 100) (hz : (ts.map Ty.size).sum ≤ 2 ^ 20) (hl : ts.length ≤ 100) (ho : (once (ts.flatMap Ty.vars)).length ≤ 4) (Q : AV → Sto → Prop)
    (hq : ∀ σ', Le σ σ' → Q (.d (.list ((lined ts).map Ty.d))) σ') : Ct (d + 102) "_law_lined" [.d (.list (ts.map Ty.d))] σ Q := by
  refine enter tl_law_lined rfl (s_asg ev_nil (s_for1 (g := Ty.d) (l := ts) (LA σ ts) (ev_var rfl) rfl (.mk (acc := []) (fun _ h => h) rfl) (fun ρ σ1 h => ?_) fun S l ρ σ1 h K k => ?_))
  · cases h with
    | mk hm hv =>
      rw [List.flatMap_nil, List.append_nil] at hv
      rw [hv]
      refine s_forR (evR_enum (evR_fcall (ea1 (ev_var rfl)) (sp_law_once (d + 100) σ _ _ fun σ2 a L ha h1 => fck h1 ?_)))
      refine for2 (v := .d (.list (enums (nd (once (ts.flatMap Ty.vars)))))) (g := fun p : Nat × Nm => .int (p.1 : Nat)) (g' := fun p => .str (nm p.2)) (LB (scut σ2 a) ts) (l := ez 0 (once (ts.flatMap Ty.vars))) (congrArg some (enums_nd _)) (.mk rfl ⟨rfl, by rw [Nat.zero_add]; exact ho, hd, hl⟩) (fun ρ σ4 h => ?_) fun p ps ρ σ4 h K k => ?_
      · cases h with
        | @mk i u ts' _ _ _ _ e h =>
          cases u with
          | cons x u => cases e
          | nil =>
            have q := hq _ (L.cut_new ha)
            have e2 : ts' = lined ts := h.run
            rw [← e2] at q
            exact s_ret (ev_var rfl) ⟨_, Le.refl, q⟩
      · have e : σ4 = scut σ2 a := by cases h; rfl
        rw [e] at h ⊢
        exact li_turn h k
  · cases h with
    | mk hm hv =>
      have hS := hm S (.head _)
      have hb := app_le hv (Nat.le_trans tsum_le (Nat.le_trans hz line_20))
      rw [List.flatMap_cons, ← List.append_assoc] at hv
      exact s_asg (ev_addL (ev_var rfl) (ev_call (ea1 (ev_var rfl)) fun Q q => sp_law_names S (d + 100) σ Q (Nat.le_trans (hd S hS) (Nat.le_add_left _ _)) (Nat.le_trans (List.single_le_sum_nat (List.mem_map.mpr ⟨S, hS, rfl⟩)) hz) q) (by rw [nd_len, nd_len]; exact hb) (nd_app _ _).symm)
        (s_nil (k.nxt _ _ (.mk (fun S' h => hm S' (.tail _ h)) hv)))
theorem tl_law_solved : tab.lookup (Str.ofString "_law_solved") = some ⟨p_law_solved, l_law_solved, b_law_solved⟩ := by kernel_rfl
theorem pick_nat {α : Type} (xs : List α) {lo hi st : Option Int} {a b : Nat} (e : sliceBounds lo hi st xs.length = ((a : Int), (b : Int), 1)) : pick xs xs.length lo hi st = (xs.drop a).take (b - a) := by
  unfold pick
  rw [e]
  simp only [sliceRange_one]
  refine List.ext_getElem? fun k => ?_
  have key : ∀ (c : Nat), List.filterMap (fun x => xs[x]?) (List.map (fun x => a + x) (List.range c)) = (xs.drop a).take c := by
    intro c
    induction c with
    | zero => simp
    | succ c ih =>
      rw [List.range_succ, List.map_append, List.filterMap_append, ih, List.take_add_one]
      simp
      cases e : xs[a + c]? <;> simp [e]
  rw [key]
theorem pick_tail {α : Type} (x : α) (xs : List α) : pick (x :: xs) (x :: xs).length (some 1) none none = xs := by
  have e : sliceBounds (some 1) none none (x :: xs).length = (((1 : Nat) : Int), (((x :: xs).length : Nat) : Int), 1) := by
    simp only [sliceBounds, Option.getD_none, show (1 : Int) > 0 by decide, if_true, if_neg (show ¬ ((1 : Int) < 0) by omega)]
    congr 1
    simp; omega
  rw [pick_nat _ e]
  simp
noncomputable def pts (P : Puts) : List PyData := P.map fun p => .tuple [.str (nm p.1), p.2.d]
theorem prs_dOk {l : Eqs} (h : ∀ p ∈ l, p.1.dep ≤ 200 ∧ p.2.dep ≤ 200) : dOk (.list (prs l)) = true := dOk_list fun x hx => by
  simp only [prs, List.mem_map] at hx
  obtain ⟨p, hp, rfl⟩ := hx
  have := h p hp
  exact pair_dOk this.1 this.2
theorem cq_prsnil {σ : Sto} {E : Eqs} {t : Bool} (h : ∀ p ∈ E, p.1.dep ≤ 48 ∧ p.2.dep ≤ 48) (e : E.isEmpty = t) : Cq .Eq σ (.d (.list (prs E))) (.d (.list [])) t := fun Q q => by
  have dn : dOk (.list []) = true := by decide +kernel
  have e2 : PyData.eqvAll (prs E) [] = t := by rw [← e]; cases E <;> rfl
  exact .d rfl rfl (prs_dOk fun p hp => ⟨Nat.le_trans (h p hp).1 (by decide), Nat.le_trans (h p hp).2 (by decide)⟩) dn (by rw [eqv_list, e2]; exact q)
theorem slc_tail (σ : Sto) (x : PyData) (xs : List PyData) (h : xs.length ≤ 100000) (Q : PyData → Prop) (q : Q (.list xs)) : slcQ (.d (.list (x :: xs))) (.d (.int 1)) (.d .none) (.d .none) Q :=
  .mk rfl (Nat.le_trans (Nat.succ_le_succ h) (Nat.le_trans (by decide) line_20)) .int .none .none (fun e => nomatch e) (by rw [pick_tail]; exact q)
noncomputable def out : Option Puts → PyData
  | some P => .list (pts P)
  | none => .none
theorem ev_hd {C : Ctr} {ρ : Rho} {σ σ₁ : Sto} {e : Ex} {x : PyData} {xs : List PyData} (h : Ev C ρ σ e (.d (.list (x :: xs))) σ₁) : Ev C ρ σ (.idx e (.int 0)) (.d x) σ₁ := ev_idx h ev_int fun Q q => .s rfl rfl (by decide) (by decide) (seqIdx (k := 0) (Nat.succ_pos _)) rfl q
theorem ev_tail {C : Ctr} {ρ : Rho} {σ σ₁ : Sto} {e : Ex} {x : PyData} {xs : List PyData} (h : Ev C ρ σ e (.d (.list (x :: xs))) σ₁) (hn : xs.length ≤ 100000) : Ev C ρ σ (.slc (.int 1) .none .none e) (.d (.list xs)) σ₁ := fun K k => by
  exact h _ (ev_int _ (ev_none _ (ev_none _ (slc_tail σ₁ x xs hn _ k))))
theorem cq_nty {σ : Sto} {S T : Ty} {t : Bool} (hS : S.dep ≤ 240) (hT : T.dep ≤ 240) (e : (!decide (S = T)) = t) : Cq .NotEq σ (.d S.d) (.d T.d) t := e ▸ cq_ne (cq_ty hS hT)
theorem prs_app (a b : Eqs) : prs (a ++ b) = prs a ++ prs b := List.map_append
theorem prs_len (a : Eqs) : (prs a).length = a.length := List.length_map _
theorem pts_app (a b : Puts) : pts (a ++ b) = pts a ++ pts b := List.map_append
theorem pts_len (a : Puts) : (pts a).length = a.length := List.length_map _
noncomputable def SvN (V : List Nm) (R : Option Puts → Prop) (n : Nat) : Option (Eqs × Puts) → Prop
  | none => R none
  | some q => ∃ m, m < n ∧ RRun V R m q.1 q.2
noncomputable abbrev svρ (E : Eqs) (P : Puts) (o1 o2 : Option AV) : Rho := [some (.d (.list (prs E))), some (.d (.list (pts P))), o1, o2]
inductive SvI (V : List Nm) (R : Option Puts → Prop) (σ : Sto) : Nat → Rho → Sto → Prop
  | mk {n : Nat} {E : Eqs} {P : Puts} {o1 o2 : Option AV} (hr : RRun V R n E P) : SvI V R σ n (svρ E P o1 o2) σ
section
variable {d n : Nat} {σ : Sto} {V : List Nm} {R : Option Puts → Prop} {Q : AV → Sto → Prop} {a b p q : Ty} {r : Eqs} {P : Puts} {x : Nm} {o1 o2 : Option AV}
theorem sv_go {E : Eqs} (h : SvN V R n (some (E, P))) : Wq (SvI V R σ) (Ret Q) n .nxt (svρ E P o1 o2) σ := by
  obtain ⟨m, hm, hr⟩ := h
  exact wq_go hm (.mk hr)
theorem so_put (hx : put q x .nev = q) (B : Bd V ((a, b) :: r) P) (dq : q.dep ≤ 48) (hn : SvN V R n (some (putE r x q, putP P x q ++ [(x, q)]))) : awSs (Ct (d + 101)) b_law_solved_5 (svρ r P (some (.d (Ty.par x).d)) (some (.d q.d))) σ (thn (Ct (d + 101)) .nil (Wq (SvI V R σ) (Ret Q) n)) := by
  have dq2 : q.dep ≤ 240 := Nat.le_trans dq (by decide)
  have dp : ∀ {T : Ty}, T.dep ≤ 48 → T.dep ≤ d + 100 ∧ T.dep ≤ 240 := fun h => ⟨Nat.le_trans h (Nat.le_trans (by decide) (Nat.le_add_left 100 d)), Nat.le_trans h (by decide)⟩
  refine s_ite_f (ev_cmp (ev_call (ea3 (ev_var rfl) (ev_nm (ev_var rfl)) (ev_tup1 ev_str)) fun Q q' => sp_law_put x .nev q (d + 100) σ Q (dp dq).1 dq2 q') (ev_var rfl) (cq_nty (hx.symm ▸ dq2) dq2 (by rw [decide_eq_true hx]; rfl))) ?_
  refine s_asg (ev_comp2E (g := fun p : Ty × Ty => p.1.d) (g' := fun p => p.2.d) (h := fun p => .tuple [(put p.1 x q).d, (put p.2 x q).d]) (ys := prs (putE r x q)) (ev_var rfl) rfl (fun p hp => ?_) (Nat.le_trans (Nat.le_of_succ_le B.len) (Nat.le_trans (by decide) line_20)) (by rw [prs, putE, List.map_map]; rfl)) ?_
  · have h := B.dE p (.tail _ hp)
    exact ev_tup2 (ev_call (ea3 (ev_var rfl) (ev_nm (ev_var rfl)) (ev_var rfl)) fun Q q' => sp_law_put x q p.1 (d + 100) σ Q (dp h.1).1 (dp h.1).2 q') (ev_call (ea3 (ev_var rfl) (ev_nm (ev_var rfl)) (ev_var rfl)) fun Q q' => sp_law_put x q p.2 (d + 100) σ Q (dp h.2).1 (dp h.2).2 q')
  · refine s_asg (ev_addL (zs := pts (putP P x q ++ [(x, q)])) (ev_comp2E (g := fun p : Nm × Ty => .str (nm p.1)) (g' := fun p => p.2.d) (h := fun p => .tuple [.str (nm p.1), (put p.2 x q).d]) (ys := pts (putP P x q)) (ev_var rfl) rfl (fun p hp => ?_) (Nat.le_trans B.lenP (Nat.le_trans (by decide) line_20)) (by rw [pts, putP, List.map_map]; rfl)) (ev_lst (xs := [.tuple [.str (nm x), q.d]]) (ea1 (ev_tup2 (ev_nm (ev_var rfl)) (ev_var rfl))) rfl) ?_ (pts_app (putP P x q) [(x, q)]).symm) (s_nil (s_nil (sv_go hn)))
    · have h := B.dP p hp
      exact ev_tup2 (ev_var rfl) (ev_call (ea3 (ev_var rfl) (ev_nm (ev_var rfl)) (ev_var rfl)) fun Q q' => sp_law_put x q p.2 (d + 100) σ Q (dp h).1 (dp h).2 q')
    · rw [pts_len, putP, List.length_map]
      exact Nat.le_trans (Nat.add_le_add_right B.lenP 1) (Nat.le_trans (by decide) line_20)
theorem so_rest (B : Bd V ((a, b) :: r) P) (hn : SvN V R n (rturn a b r P)) (hR : R none → Q (.d .none) σ) (e : (if b.isPar then (b, a) else (a, b)) = (p, q)) (dp : p.dep ≤ 48) (dq : q.dep ≤ 48) :
    awSs (Ct (d + 101)) b_law_solved_10 (svρ r P (some (.d p.d)) (some (.d q.d))) σ (Wq (SvI V R σ) (Ret Q) n) := by
  have dp2 : p.dep ≤ 240 := Nat.le_trans dp (by decide)
  have dq2 : q.dep ≤ 240 := Nat.le_trans dq (by decide)
  have ne : ∀ {t : Bool}, (!decide (p = q)) = t → Ev (Ct (d + 101)) (svρ r P (some (.d p.d)) (some (.d q.d))) σ (.cmp .NotEq (.var 2) (.var 3)) (.d (.bool t)) σ := fun h => ev_cmp (ev_var rfl) (ev_var rfl) (cq_nty dp2 dq2 h)
  by_cases hpq : p = q
  · have e0 : (!decide (p = q)) = false := by rw [decide_eq_true hpq]; rfl
    have hs : rturn a b r P = some (r, P) := by
      cases hp : p.isPar with
      | true => obtain ⟨x, rfl⟩ := par_of hp; rw [rturn_p e, if_neg fun h => h hpq]
      | false => rw [rturn_np e hp, if_neg fun h => h hpq]
    exact s_ite (t := false) (ev_and_f (ne e0)) (s_ite_f (ne e0) (s_nil (s_nil (sv_go (hs ▸ hn)))))
  have e1 : (!decide (p = q)) = true := by rw [decide_eq_false hpq]; rfl
  cases hp : p.isPar with
  | true =>
    obtain ⟨x, rfl⟩ := par_of hp
    rw [rturn_p e, if_pos hpq] at hn
    refine s_ite_t (ev_and (ne e1) (ev_par_t (ev_var rfl))) ?_
    by_cases hx : put q x .nev = q
    · rw [if_neg fun h => h hx] at hn
      exact so_put (a := a) (b := b) hx B dq hn
    · rw [if_pos hx] at hn
      exact s_ite_t (ev_cmp (ev_call (ea3 (ev_var rfl) (ev_nm (ev_var rfl)) (ev_tup1 ev_str)) fun Q q' => sp_law_put x .nev q (d + 100) σ Q (Nat.le_trans dq (Nat.le_trans (by decide) (Nat.le_add_left 100 d))) dq2 q') (ev_var rfl) (cq_nty (Nat.le_trans (put_dep (D := 0) (show 1 ≤ 0 + 1 by decide)) dq2) dq2 (by rw [decide_eq_false hx]; rfl))) (s_ret ev_none ⟨σ, Le.refl, hR hn⟩)
  | false =>
    rw [rturn_np e hp, if_pos hpq] at hn
    have sh : ∀ {t : Bool}, (!decide (p.hd = q.hd)) = t → Ev (Ct (d + 101)) (svρ r P (some (.d p.d)) (some (.d q.d))) σ (.cmp .NotEq (.call "_law_shape" (.cons (.var 2) .nil)) (.call "_law_shape" (.cons (.var 3) .nil))) (.d (.bool t)) σ :=
      fun h => ev_cmp (ev_call (ea1 (ev_var rfl)) (sp_law_shape (d + 99) σ p)) (ev_call (ea1 (ev_var rfl)) (sp_law_shape (d + 99) σ q)) (h ▸ cq_ne (cq_shp rfl))
    refine s_ite (t := false) (ev_and (ne e1) (ev_par_f hp (ev_var rfl))) (s_ite_t (ne e1) ?_)
    by_cases hh : p.hd = q.hd
    · rw [if_neg fun h => h hh] at hn
      have pl := parts_le p
      refine s_ite_f (sh (by rw [decide_eq_true hh]; rfl)) (s_asg (ev_addL (zs := prs (p.parts.zip q.parts ++ r)) (ev_lzip (ev_call (ea1 (ev_var rfl)) (sp_law_parts (d + 100) σ p)) (ev_call (ea1 (ev_var rfl)) (sp_law_parts (d + 100) σ q)) rfl rfl rfl (by rw [List.length_map]; exact Nat.le_trans pl two_line)) (ev_var rfl) ?_ ?_) (s_nil (s_nil (s_nil (sv_go hn)))))
      · rw [zips_tys, prs_len, prs_len, List.length_zip]
        exact Nat.le_trans (Nat.add_le_add (Nat.le_trans (Nat.min_le_left _ _) pl) (Nat.le_of_succ_le B.len)) (Nat.le_trans (by decide) line_20)
      · rw [zips_tys, prs_app]
    · rw [if_pos hh] at hn
      exact s_ite_t (sh (by rw [decide_eq_false hh]; rfl)) (s_ret ev_none ⟨σ, Le.refl, hR hn⟩)
theorem so_turn (B : Bd V ((a, b) :: r) P) (hn : SvN V R n (rturn a b r P)) (hR : R none → Q (.d .none) σ) : awSs (Ct (d + 101)) b_law_solved_13 (svρ ((a, b) :: r) P o1 o2) σ (Wq (SvI V R σ) (Ret Q) n) := by
  have dE := B.dE (a, b) (.head _)
  refine s_asgT (ev_hd (x := .tuple [a.d, b.d]) (xs := prs r) (ev_var rfl)) rfl (s_asg (ev_tail (x := .tuple [a.d, b.d]) (xs := prs r) (ev_var rfl) (by rw [prs_len]; exact Nat.le_trans (Nat.le_of_succ_le B.len) (by decide))) ?_)
  cases hb : b.isPar with
  | true =>
    have h := so_rest (d := d) (p := b) (q := a) B hn hR (by rw [if_pos hb]) dE.2 dE.1
    obtain ⟨x, rfl⟩ := par_of hb
    exact s_ite_t (ev_par_t (ev_var rfl)) (s_asgM (ea2 (ev_var rfl) (ev_var rfl)) rfl (s_nil h))
  | false => exact s_ite_f (ev_par_f hb (ev_var rfl)) (so_rest B hn hR (by rw [if_neg (by rw [hb]; exact Bool.false_ne_true)]) dE.1 dE.2)
theorem so_body (hR : ∀ o, R o → Q (.d (out o)) σ) : ∀ {n : Nat} {E : Eqs} {P : Puts}, RRun V R n E P → ∀ {o1 o2 : Option AV}, Wt (Ct (d + 101)) (.cmp .NotEq (.var 0) (.lst false .nil)) b_law_solved_13 b_law_solved_14 (SvI V R σ) (Ret Q) n (svρ E P o1 o2) σ := by
  intro n E P hr
  cases hr with
  | done B h =>
    intro o1 o2
    exact .out (ev_cmp (ev_var rfl) ev_nil (cq_ne (t := true) (cq_prsnil (E := []) (fun _ h => nomatch h) rfl))) (s_ret (ev_var rfl) ⟨σ, Le.refl, hR _ h⟩)
  | stop B e h =>
    intro o1 o2
    exact .go (ev_cmp (ev_var rfl) ev_nil (cq_ne (t := false) (cq_prsnil B.dE rfl))) (so_turn B (e ▸ h) (hR none))
  | step B e h =>
    intro o1 o2
    exact .go (ev_cmp (ev_var rfl) ev_nil (cq_ne (t := false) (cq_prsnil B.dE rfl))) (so_turn B (e ▸ ⟨_, Nat.lt_succ_self _, h⟩) (hR none))
end
theorem sp_law_solved (d : Nat) (σ : Sto) (V : List Nm) (E0 : Eqs) (n : Nat) (Q : AV → Sto → Prop) (h : RRun V (fun o => Q (.d (out o)) σ) n E0 []) : Ct (d + 102) "_law_solved" [.d (.list (prs E0))] σ Q := by
  refine enter tl_law_solved rfl (s_asg ev_nil (s_whl (SvI V (fun o => Q (.d (out o)) σ) σ) (n := n) (.mk h) fun _ _ _ hi => ?_))
  cases hi with
  | mk hr => exact so_body (fun _ h => h) hr
theorem tl_law_pool : tab.lookup (Str.ofString "_law_pool") = some ⟨p_law_pool, l_law_pool, b_law_pool⟩ := by kernel_rfl
theorem tl_law_take : tab.lookup (Str.ofString "_law_take") = some ⟨p_law_take, l_law_take, b_law_take⟩ := by kernel_rfl
theorem tl_law_one : tab.lookup (Str.ofString "_law_one") = some ⟨p_law_one, l_law_one, b_law_one⟩ := by kernel_rfl
theorem bits64 {a : Int} (h : a.natAbs < 2 ^ 64) : Builtin.Int.intBits a ≤ 64 := by
  unfold Builtin.Int.intBits
  split
  · omega
  · rename_i h0
    have h1 : a.natAbs ≠ 0 := by
      intro e
      have : a = 0 := by omega
      subst this
      exact h0 rfl
    have := (Nat.log2_lt h1).mpr h
    omega
theorem mulL {a b : Int} (h : a.natAbs < 2 ^ 64) : IntMulOk a b := .of_left (bits64 h)
theorem mulR {a b : Int} (h : b.natAbs < 2 ^ 64) : IntMulOk a b := .of_right (bits64 h)
noncomputable def src (a b : Int) : AO := .list [.int a, .int b]
noncomputable def SrcOk (a b : Int) : Prop := 0 ≤ a ∧ 0 ≤ b ∧ b < 2147483647
theorem src_rd {σ : Sto} {l : Addr} {a b : Int} (hl : σ l = some (src a b)) : seqRd σ (.loc l) = some [.int a, .int b] := by
  show (rd σ (.loc l)).bind seqOf = _
  rw [rd_at hl]; rfl
section
variable {C : Ctr} {ρ : Rho} {σ : Sto} {n : Nat} {l : Addr} {a b : Int}
theorem ev_s0 (h : ρ[n]? = some (some (.loc l))) (hl : σ l = some (src a b)) : Ev C ρ σ (.idx (.var n) (.int 0)) (.d (.int a)) σ := ev_idx (ev_var h) ev_int fun Q q => .s (src_rd hl) rfl (by decide) (by decide) (seqIdx (k := 0) (Nat.succ_pos 1)) rfl q
theorem ev_s1 (h : ρ[n]? = some (some (.loc l))) (hl : σ l = some (src a b)) : Ev C ρ σ (.idx (.var n) (.int 1)) (.d (.int b)) σ := ev_idx (ev_var h) ev_int fun Q q => .s (src_rd hl) rfl (by decide) (by decide) (seqIdx (k := 1) (Nat.le_refl 2)) rfl q
end
theorem fmod_rng (z : Int) {m : Int} (h : 0 < m) : 0 ≤ z.fmod m ∧ z.fmod m < m := ⟨Int.fmod_nonneg_of_pos z h, Int.fmod_lt_of_pos z h⟩
theorem drawn_at {top : Nat} (h : 1 ≤ top) (z : Int) : ∃ k : Nat, k < top ∧ z.fmod top = k := by
  have q := fmod_rng z (m := (top : Int)) (by omega)
  exact ⟨(z.fmod top).toNat, by omega, by omega⟩
theorem sp_law_take (d : Nat) (σ : Sto) (l : Addr) (a b : Int) (h : σ l = some (src a b)) (hs : SrcOk a b) (top : Nat) (h1 : 1 ≤ top) (h2 : top ≤ 100) (Q : AV → Sto → Prop)
    (hq : ∀ (k : Nat) (a' b' : Int) σ', k < top → SrcOk a' b' → Le (sput σ l (src a' b')) σ' → Q (.d (.int k)) σ') : Ct (d + 1) "_law_take" [.loc l, .d (.int top)] σ Q := by
  have t0 : (top : Int) ≠ 0 := by omega
  by_cases hp : a > 0
  · obtain ⟨k, hk, hz⟩ := drawn_at h1 a
    refine enter tl_law_take rfl (s_ite_t (ev_gt (ev_s0 rfl h) ev_int (decide_eq_true hp)) (s_asg (ev_mod t0 (ev_intI (ev_s0 rfl h)) (ev_var rfl)) ?_))
    refine s_subL (k := 0) (ev_fdiv t0 (PyProof.noPylong_small (by omega)) (ev_s0 rfl h) (ev_var rfl)) (ev_var rfl) ev_int h (Nat.succ_pos 1) (show 2 ≤ 1000 by decide) (s_ret (ev_var rfl) ⟨_, Le.refl, ?_⟩)
    rw [hz]
    exact hq k (a.fdiv top) b _ hk ⟨Int.fdiv_nonneg hs.1 (by omega), hs.2⟩ Le.refl
  · have q1 := fmod_rng (b * 39373 + 7) (m := 2147483647) (by decide)
    refine enter tl_law_take rfl (s_ite_f (ev_gt (ev_s0 rfl h) ev_int (decide_eq_false hp)) (s_subL (k := 1) (ev_mod (by decide) (ev_intI (ev_add (ev_mul (mulR (by decide)) (ev_s1 rfl h) ev_int) ev_int)) ev_int) (ev_var rfl) ev_int h (Nat.le_refl 2) (show 2 ≤ 1000 by decide) ?_))
    generalize (b * 39373 + 7).fmod 2147483647 = b' at q1
    have h' : sput σ l (.list [.int a, .int b']) l = some (src a b') := sput_self
    obtain ⟨k, hk, hz⟩ := drawn_at h1 (((b' * b').fmod 2147483629).fdiv 32)
    refine s_ret (v := .d (.int k)) (hz ▸ ev_mod t0 (ev_intI (ev_fdiv (by decide) (PyProof.noPylong_small (by decide)) (ev_mod (by decide) (ev_intI (ev_mul (mulR (by omega)) (ev_s1 rfl h') (ev_s1 rfl h'))) ev_int) ev_int)) (ev_var rfl)) ⟨_, Le.refl, ?_⟩
    exact hq k a b' _ hk ⟨hs.1, q1⟩ Le.refl
theorem sp_law_one (d : Nat) (σ : Sto) (l : Addr) (a b : Int) (h : σ l = some (src a b)) (hs : SrcOk a b) (xs : List PyData) (h1 : 1 ≤ xs.length) (h2 : xs.length ≤ 100) (Q : AV → Sto → Prop)
    (hq : ∀ (x : PyData) (a' b' : Int) σ', x ∈ xs → SrcOk a' b' → Le (sput σ l (src a' b')) σ' → Q (.d x) σ') : Ct (d + 2) "_law_one" [.loc l, .d (.list xs)] σ Q := by
  refine enter tl_law_one rfl (s_retR (evR_idx (ev_var rfl) (evR_call (ea2 (ev_var rfl) (ev_lenL (ev_var rfl) (Nat.le_trans h2 (by decide)))) (sp_law_take d σ l a b h hs xs.length h1 h2 _ fun k a' b' σ' hk hs' L => ?_))))
  exact xq_list (List.getElem?_eq_getElem hk) (Nat.le_trans h2 (by decide)) _ ⟨σ', Le.refl, hq _ a' b' σ' (List.getElem_mem hk) hs' L⟩
theorem idx_scr0 (σ : Sto) (x : Int) (xs : List Int) (Q : PyData → Prop) (q : Q (.int x)) : idxQ σ (.scr (x :: xs)) (.d (.int 0)) Q := by
  exact .s (ds := .int x :: xs.map .int) rfl rfl (by decide) (by decide) (seqIdx (k := 0) (Nat.succ_pos _)) rfl q
theorem po_tail (d : Nat) (σ : Sto) (xs : List Int) (c : Int) (Q : AV → Sto → Prop) (hq : ∀ (a b : Int) l σ', SrcOk a b → σ l = none → Le (sput σ l (src a b)) σ' → Q (.loc l) σ') :
    awSs (Ct d) b_law_pool_3 [some (.scr xs), some (.d (.int 0)), some (.d (.int c)), none, none] σ (Ret Q) := by
  obtain ⟨big, hb0, hb⟩ : ∃ big : Int, 0 ≤ big ∧ (if -1 - c > c then -1 - c else c) = big := ⟨_, by split <;> omega, rfl⟩
  refine s_asg (ev_max (ev_intI (ev_var rfl)) (ev_intI (ev_sub ev_neg (ev_var rfl))) hb) ?_
  have q := fmod_rng ((big.fmod 2147483629 + 7919 * 0 * 0 + 31 * 0 + 17) * 48271) (m := 2147483647) (by decide)
  refine s_asg (ev_mod (by decide) (ev_intI (ev_mul (mulR (by decide)) (ev_add (ev_add (ev_add (ev_mod (by decide) (ev_intI (ev_var rfl)) ev_int) (ev_mul (mulL (by decide)) (ev_mul (mulL (by decide)) ev_int (ev_var rfl)) (ev_var rfl))) (ev_mul (mulL (by decide)) ev_int (ev_var rfl))) ev_int) ev_int)) ev_int) ?_
  generalize ((big.fmod 2147483629 + 7919 * 0 * 0 + 31 * 0 + 17) * 48271).fmod 2147483647 = b at q
  have pw : Ev (Ct d) [some (.scr xs), some (.d (.int 0)), some (.d (.int c)), some (.d (.int big)), some (.d (.int b))] σ (.bin .Pow (.int 10) (.int 18)) (.d (.int (10 ^ 18))) σ := ev_bin ev_int ev_int fun Q q => .mk rfl rfl ⟨by decide, by decide, q⟩
  have m : ∀ t : Bool, (if t then (1 : Int) else 0).natAbs < 2 ^ 64 ∧ 0 ≤ big * (if t then (1 : Int) else 0) := fun t => ⟨by cases t <;> decide, by cases t <;> simp only [Bool.false_eq_true, if_false, if_true] <;> omega⟩
  exact s_retR (evR_new (ea2 (ev_mul (mulR (m _).1) (ev_var rfl) (ev_intB (ev_ge (ev_var rfl) pw))) (ev_var rfl)) rfl fun l hl => ⟨_, Le.refl, hq _ b l _ ⟨(m _).2, q⟩ hl Le.refl⟩)
theorem sp_law_pool (d : Nat) (σ : Sto) (xs : List Int) (hx : xs.length ≤ 100) (Q : AV → Sto → Prop) (hq : ∀ (a b : Int) l σ', SrcOk a b → σ l = none → Le (sput σ l (src a b)) σ' → Q (.loc l) σ') :
    Ct (d + 1) "_law_pool" [.scr xs, .d (.int 0)] σ Q := by
  have hl : (xs.map PyData.int).length ≤ 100000 := by rw [List.length_map]; exact Nat.le_trans hx (by decide)
  cases xs with
  | nil => exact enter tl_law_pool rfl (s_asg (ev_ite_f (ev_lt (ev_var rfl) (ev_len (xs := []) (ev_var rfl) rfl (by decide)) (by decide)) ev_int) (po_tail d σ _ 0 Q hq))
  | cons x xs => exact enter tl_law_pool rfl (s_asg (ev_ite_t (ev_lt (ev_var rfl) (ev_len (ev_var rfl) rfl hl) (decide_eq_true (by rw [List.map_cons, List.length_cons]; omega))) (ev_idx (ev_var rfl) (ev_var rfl) (idx_scr0 σ x xs))) (po_tail d σ _ x Q hq))
theorem tl_law_type : tab.lookup (Str.ofString "_law_type") = some ⟨p_law_type, l_law_type, b_law_type⟩ := by kernel_rfl
noncomputable def rowD (D : Puts) (T : Ty) : PyData := .tuple [T.d, .list (nd T.vars), (T.ap (look D)).d]
noncomputable def Drawn (σ σ' : Sto) (l : Addr) : Prop := ∃ a b, SrcOk a b ∧ Le (sput σ l (src a b)) σ'
theorem Drawn.has {σ σ' : Sto} {l : Addr} (h : Drawn σ σ' l) : ∃ a b, SrcOk a b ∧ σ' l = some (src a b) := by
  obtain ⟨a, b, h1, L⟩ := h
  exact ⟨a, b, h1, L _ _ sput_self⟩
theorem Drawn.self {σ : Sto} {l : Addr} {a b : Int} (h : σ l = some (src a b)) (hs : SrcOk a b) : Drawn σ σ l := ⟨a, b, hs, by rw [sput_same h]; exact Le.refl⟩
theorem Drawn.step {σ σ' σ'' : Sto} {l : Addr} (h : Drawn σ σ' l) {a b : Int} (hs : SrcOk a b) (L : Le (sput σ' l (src a b)) σ'') : Drawn σ σ'' l := by
  obtain ⟨a', b', h1, L'⟩ := h
  exact ⟨a, b, hs, L'.step L⟩
theorem Drawn.at {σ σ' : Sto} {l p : Addr} (h : Drawn σ σ' l) (ne : p ≠ l) {o : AO} (hp : σ p = some o) : σ' p = some o := by
  obtain ⟨a, b, h1, L⟩ := h
  exact L _ _ (by rw [sput_ne ne]; exact hp)
theorem Drawn.trans {σ σ' σ'' : Sto} {l : Addr} (h : Drawn σ σ' l) (h' : Drawn σ' σ'' l) : Drawn σ σ'' l := by
  obtain ⟨a, b, h1, L⟩ := h'
  exact h.step h1 L
theorem Drawn.mono {σ σ' σ'' : Sto} {l : Addr} (h : Drawn σ σ' l) (L : Le σ' σ'') : Drawn σ σ'' l := by
  obtain ⟨a, b, h1, L'⟩ := h
  exact ⟨a, b, h1, L'.trans L⟩
noncomputable abbrev tyρ (l p : Addr) (ns : List Nm) (n : Int) (k : Nat) (s t r o w : Option AV) : Rho := [some (.loc l), some (.d (.list (nd ns))), some (.loc p), some (.d (.int n)), some (.d (.int k)), s, t, r, o, w, none, none, none]
section
variable {d k : Nat} {σ σ' : Sto} {l p : Addr} {ns : List Nm} {D : Puts} {a b n : Int} {Q : AV → Sto → Prop}
theorem ty_two {T : Ty} (k2 : k < 2) (hx : ([Ty.bool.d, Ty.u8.d] : List PyData)[k]? = some T.d) (hD : PyData.tuple [T.d, .list [], T.d] = rowD D T) (q : Q (.d (rowD D T)) σ) : awSs (Ct (d + 2)) b_law_type_20 (tyρ l p ns n k none none none none none) σ (Ret Q) :=
  s_ite_t (ev_lt (ev_var rfl) ev_int (decide_eq_true (by omega))) (s_asg (v := .d T.d) (ev_idx (ev_lst (xs := [Ty.bool.d, Ty.u8.d]) (ea2 (ev_tup1 ev_str) (ev_tup2 ev_str ev_str)) rfl) (ev_var rfl) (xq_list hx (show 2 ≤ 100000 by decide))) (s_ret (ev_tup3 (ev_var rfl) ev_nil (ev_var rfl)) ⟨σ, Le.refl, hD ▸ q⟩))
theorem type_leaf (d : Nat) (σ : Sto) (l p : Addr) (ns : List Nm) (hn1 : 1 ≤ ns.length) (hn2 : ns.length ≤ 100) (D : Puts) (a b : Int) (hl : σ l = some (src a b)) (hs : SrcOk a b) (hp : σ p = some (.dict (pd D))) (n : Int) (Q : AV → Sto → Prop)
    (hq : ∀ T σ', T.dep ≤ 1 → (∀ x ∈ T.vars, x ∈ ns) → Drawn σ σ' l → Q (.d (rowD D T)) σ') (k : Nat) (hk : k < 3) :
    awSs (Ct (d + 2)) b_law_type_20 (tyρ l p ns n k none none none none none) σ (Ret Q) := by
  have hpl : p ≠ l := fun e => by rw [e, hl] at hp; exact nomatch hp
  match k, hk with
  | 0, _ => exact ty_two (T := .bool) (by decide) rfl rfl (hq .bool σ (Nat.le_refl 1) (fun _ h => nomatch h) (.self hl hs))
  | 1, _ => exact ty_two (T := .u8) (by decide) rfl rfl (hq .u8 σ (Nat.le_refl 1) (fun _ h => nomatch h) (.self hl hs))
  | 2, _ =>
    refine s_ite_f (ev_lt (ev_var rfl) ev_int (by decide)) (s_ite_t (ev_eqi (ev_var rfl) ev_int (by decide)) (s_asgR (evR_call (ea2 (ev_var rfl) (ev_var rfl)) (sp_law_one d σ l a b hl hs (nd ns) (by rw [nd_len]; exact hn1) (by rw [nd_len]; exact hn2) _ fun x a' b' σ' hx hs' L => ?_))))
    obtain ⟨y, hy, rfl⟩ := List.mem_map.mp hx
    have hd := (Drawn.self hl hs).step hs' L
    have e : ((pd D).lookup (nm y)).getD (Ty.par y).d = ((Ty.par y).ap (look D)).d := by
      rw [pd_look]
      show _ = ((D.lookup y).getD (.par y)).d
      cases D.lookup y <;> rfl
    have q := hq (.par y) σ' (Nat.le_refl 1) (fun z hz => List.mem_singleton.mp hz ▸ hy) hd
    rw [rowD, ← e] at q
    exact s_ret (ev_tup3 (ev_par (ev_var rfl)) (ev_lst (ea1 (ev_var rfl)) rfl) (ev_dget rfl (hd.at hpl hp) (ev_var rfl) (ev_par (ev_var rfl)))) ⟨σ', Le.refl, q⟩
end
section
variable {C : Ctr} {ρ : Rho} {σ σ₁ : Sto} {e : Ex} {D : Puts} {T : Ty} {K : AV → Sto → Prop}
theorem ev_row1 (h : Ev C ρ σ e (.d (rowD D T)) σ₁) : Ev C ρ σ (.idx e (.int 1)) (.d (.list (nd T.vars))) σ₁ := ev_t1 h
theorem ev_row0 (h : Ev C ρ σ e (.d (rowD D T)) σ₁) : Ev C ρ σ (.idx e (.int 0)) (.d T.d) σ₁ := ev_t0 h
theorem ev_row2 (h : Ev C ρ σ e (.d (rowD D T)) σ₁) : Ev C ρ σ (.idx e (.int 2)) (.d (T.ap (look D)).d) σ₁ := ev_t2 h
structure RowsOk (n : Nat) (ns : List Nm) (Ts : List Ty) : Prop where
  dep : ∀ T ∈ Ts, T.dep ≤ n + 1
  var : ∀ T ∈ Ts, ∀ x ∈ T.vars, x ∈ ns
theorem RowsOk.nil {n : Nat} {ns : List Nm} : RowsOk n ns [] := ⟨fun _ h => (nomatch h), fun _ h => (nomatch h)⟩
theorem RowsOk.snoc {n : Nat} {ns : List Nm} {Ts : List Ty} {T : Ty} (h : RowsOk n ns Ts) (h1 : T.dep ≤ n + 1) (h2 : ∀ x ∈ T.vars, x ∈ ns) : RowsOk n ns (Ts ++ [T]) := by
  refine ⟨fun S hS => ?_, fun S hS => ?_⟩
  · rcases List.mem_append.mp hS with hS | hS
    · exact h.dep S hS
    · exact List.mem_singleton.mp hS ▸ h1
  · rcases List.mem_append.mp hS with hS | hS
    · exact h.var S hS
    · exact List.mem_singleton.mp hS ▸ h2
theorem cgo_rows {ns : List Nm} {l : Addr} {n : Nat} {g : Ty → PyData} {σ0 : Sto} {Q : List PyData → Sto → Prop} (hb : ∀ o σ, Drawn σ0 σ l → ∀ K : AV → Sto → Prop, (∀ (T : Ty) (σ' : Sto), T.dep ≤ n + 1 → (∀ x ∈ T.vars, x ∈ ns) → Drawn σ σ' l → K (.d (g T)) σ') → awE C e (some o :: ρ) σ K) :
    ∀ (xs : List PyData) (Ts : List Ty) (o : Option AV) (σ : Sto), Ts.length + xs.length ≤ 1000 → Drawn σ0 σ l → RowsOk n ns Ts → (∀ (Us : List Ty) (σ' : Sto), Us.length = Ts.length + xs.length → RowsOk n ns Us → Drawn σ0 σ' l → Q (Us.map g) σ') →
    cgo (.one 0) (awE C e) (awE C (.bool true)) xs (o :: ρ) σ (Ts.map g) Q
  | [], Ts, o, σ, hn, hd, hT, q => q Ts σ rfl hT hd
  | x :: xs, Ts, o, σ, hn, hd, hT, q => by
    rw [List.length_cons] at hn
    refine cgo_step (ρ' := some (.d x) :: ρ) rfl (ev_bool _ (hb _ σ hd _ fun T σ' h1 h2 h3 => ⟨by rw [List.length_map]; exact Nat.le_trans (Nat.le_trans (Nat.add_le_add_left (Nat.succ_pos xs.length) _) hn) (Nat.le_trans (by decide) line_20), ?_⟩))
    have e1 : Ts.map g ++ [g T] = (Ts ++ [T]).map g := by rw [List.map_append]; rfl
    rw [e1]
    have e2 : (Ts ++ [T]).length + xs.length = Ts.length + (x :: xs).length := by rw [List.length_append, List.length_cons, List.length_cons, List.length_nil]; omega
    exact cgo_rows hb xs (Ts ++ [T]) _ σ' (by rw [e2]; exact hn) (hd.trans h3) (hT.snoc h1 h2) fun Us σ2 hu => q Us σ2 (hu.trans e2)
theorem crk {ns : List Nm} {l : Addr} {n m : Nat} {g : Ty → PyData} (hm : m ≤ 100) (hd : Drawn σ σ l) (hb : ∀ o σ', Drawn σ σ' l → ∀ K : AV → Sto → Prop, (∀ (T : Ty) (σ'' : Sto), T.dep ≤ n + 1 → (∀ x ∈ T.vars, x ∈ ns) → Drawn σ' σ'' l → K (.d (g T)) σ'') → awE C e (some o :: ρ) σ' K)
    (hQ : ∀ (Us : List Ty) (σ' : Sto), Us.length = m → RowsOk n ns Us → Drawn σ σ' l → K (.d (.list (Us.map g))) σ') : CrK C e ρ K (.d (.int m)) σ := by
  unfold CrK
  rw [rng_of m hm]
  have e1 : ((List.range m).map fun (i : Nat) => PyData.int i).length = m := by rw [List.length_map, List.length_range]
  refine cgo_rows hb _ [] none σ ?_ hd .nil fun Us σ' hu => hQ Us σ' (by rw [hu, e1]; exact Nat.zero_add m)
  rw [e1]
  exact Nat.le_trans (Nat.le_of_eq (Nat.zero_add m)) (Nat.le_trans hm (by decide))
end
theorem len_two {α : Type} {l : List α} (h : l.length = 2) : ∃ a b, l = [a, b] := by
  match l, h with
  | [a, b], _ => exact ⟨a, b, rfl⟩
inductive LT (l p : Addr) (ns : List Nm) (D : Puts) (σ : Sto) (i : Int) (k : Nat) (Ts : List Ty) : List Ty → Rho → Sto → Prop
  | mk {Us : List Ty} {acc : List Nm} {o : Option AV} (hv : acc ++ Us.flatMap Ty.vars = Ts.flatMap Ty.vars) : LT l p ns D σ i k Ts Us (tyρ l p ns i k (some (.d (.list (Ts.map (rowD D))))) (some (.d (.list (nd acc)))) o none none) σ
section
variable {d k : Nat} {σ σ' : Sto} {l p : Addr} {ns : List Nm} {D : Puts} {a b i : Int} {Q : AV → Sto → Prop} {Ts : List Ty}
noncomputable abbrev teρ (l p : Addr) (ns : List Nm) (i : Int) (k : Nat) (D : Puts) (Ts : List Ty) (o : Option AV) : Rho :=
  tyρ l p ns i k (some (.d (.list (Ts.map (rowD D))))) (some (.d (.list (nd (Ts.flatMap Ty.vars))))) o (some (.d (.tuple (Ts.map Ty.d)))) (some (.d (.tuple (Ts.map fun T => (T.ap (look D)).d))))
theorem te_told (h2 : Ts.length ≤ 2) (hv : (Ts.flatMap Ty.vars).length ≤ 2 ^ 20) (k1 : ∀ o, awSs (Ct (d + 2)) b_law_type_15 (teρ l p ns i k D Ts o) σ (Ret Q)) :
    awSs (Ct (d + 2)) b_law_type_17 (tyρ l p ns i k (some (.d (.list (Ts.map (rowD D))))) (some (.d (.list []))) none none none) σ (Ret Q) := by
  have l2 : Ts.length ≤ sizeLine := Nat.le_trans h2 two_line
  refine s_for1 (g := rowD D) (l := Ts) (LT l p ns D σ i k Ts) (ev_var rfl) rfl (.mk (acc := []) rfl) (fun ρ σ1 h => ?_) fun T Us ρ σ1 h K kk => ?_
  · cases h with
    | mk hv =>
      rw [List.flatMap_nil, List.append_nil] at hv
      rw [hv]
      exact s_asgM (ea2 (ev_tupL (ev_comp (g := rowD D) (h := Ty.d) (xs := Ts) (ev_var rfl) rfl (fun S _ => ev_row0 (ev_var rfl)) l2) (by rw [List.length_map]; exact l2)) (ev_tupL (ev_comp (g := rowD D) (h := fun T => (T.ap (look D)).d) (xs := Ts) (ev_var rfl) rfl (fun S _ => ev_row2 (ev_var rfl)) l2) (by rw [List.length_map]; exact l2))) rfl (k1 _)
  · cases h with
    | mk hv' =>
      have hb := app_le hv' (Nat.le_trans hv line_20)
      rw [List.flatMap_cons, ← List.append_assoc] at hv'
      exact s_asg (ev_addL (ev_var rfl) (ev_row1 (ev_var rfl)) (by rw [nd_len, nd_len]; exact hb) (nd_app _ _).symm) (s_nil (kk.nxt _ _ (.mk hv')))
theorem te_no {j m : Int} {x y : Sms} {ρ : Rho} (h : ρ[4]? = some (some (.d (.int j)))) (e : (j == m) = false) (k : awSs (Ct d) y ρ σ (Ret Q)) : awSs (Ct d) (.cons (.ite (.cmp .Eq (.var 4) (.int m)) x .nil) y) ρ σ (Ret Q) := s_ite_f (ev_eqi (ev_var h) ev_int e) k
theorem te_yes {j : Int} {x y : Sms} {ρ : Rho} (h : ρ[4]? = some (some (.d (.int j)))) (k : awSs (Ct d) x ρ σ (thn (Ct d) y (Ret Q))) : awSs (Ct d) (.cons (.ite (.cmp .Eq (.var 4) (.int j)) x .nil) y) ρ σ (Ret Q) := s_ite_t (ev_eqi (ev_var h) ev_int (beq_self_eq_true j)) k
theorem te_row {T : Ty} {x y : PyData} (h1 : x = T.d) (h2 : Ts.flatMap Ty.vars = T.vars) (h3 : y = (T.ap (look D)).d) (q : Q (.d (rowD D T)) σ) : Q (.d (.tuple [x, .list (nd (Ts.flatMap Ty.vars)), y])) σ := by
  rw [h1, h2, h3]; exact q
theorem type_end (d : Nat) (σ : Sto) (l p : Addr) (ns : List Nm) (D : Puts) (a b : Int) (hl : σ l = some (src a b)) (hs : SrcOk a b) (n : Nat) (hn : n ≤ 10) (i : Int) (Q : AV → Sto → Prop)
    (hq : ∀ T σ', T.dep ≤ n + 1 → (∀ x ∈ T.vars, x ∈ ns) → Drawn σ σ' l → Q (.d (rowD D T)) σ') (k : Nat) (Ts : List Ty) (hT : ∀ T ∈ Ts, T.dep ≤ n ∧ ∀ x ∈ T.vars, x ∈ ns) (hk : 3 ≤ k ∧ k ≤ 7) (hm : Ts.length = if k > 5 then 2 else 1) :
    awSs (Ct (d + 2)) b_law_type_17 (tyρ l p ns i k (some (.d (.list (Ts.map (rowD D))))) (some (.d (.list []))) none none none) σ (Ret Q) := by
  have sz : ∀ T ∈ Ts, T.vars.length ≤ 1024 := fun T h => by
    have h1 := size_dep T
    have h2 := vars_size T
    have h3 : 2 ^ T.dep ≤ 2 ^ 10 := Nat.pow_le_pow_right (by decide) (Nat.le_trans (hT T h).1 hn)
    omega
  have one : ∀ A : Ty, ([A].flatMap Ty.vars) = A.vars := fun A => by rw [List.flatMap_cons, List.flatMap_nil, List.append_nil]
  have two : ∀ A B : Ty, ([A, B].flatMap Ty.vars) = A.vars ++ B.vars := fun A B => by rw [List.flatMap_cons, one]
  match k, hk, hm with
  | 3, _, hm =>
    obtain ⟨A, rfl⟩ : ∃ A, Ts = [A] := List.length_eq_one_iff.mp hm
    have hA := hT A (.head _)
    refine te_told (Nat.le_succ 1) (by rw [one]; exact Nat.le_trans (sz A (.head _)) (by decide)) fun o => te_yes rfl (s_ret (ev_tup3 (ev_tup2 ev_str (ev_t0 (ev_var rfl))) (ev_var rfl) (ev_tup2 ev_str (ev_t0 (ev_var rfl)))) ⟨σ, Le.refl, te_row (T := .box A) rfl (one A) rfl ?_⟩)
    exact hq (.box A) σ (Nat.succ_le_succ hA.1) hA.2 (.self hl hs)
  | 4, _, hm =>
    obtain ⟨A, rfl⟩ : ∃ A, Ts = [A] := List.length_eq_one_iff.mp hm
    have hA := hT A (.head _)
    refine te_told (Nat.le_succ 1) (by rw [one]; exact Nat.le_trans (sz A (.head _)) (by decide)) fun o => te_no rfl (by decide) (te_yes rfl (s_ret (ev_tup3 (ev_tup3 ev_str (ev_t0 (ev_var rfl)) ev_int) (ev_var rfl) (ev_tup3 ev_str (ev_t0 (ev_var rfl)) ev_int)) ⟨σ, Le.refl, te_row (T := .arr A) rfl (one A) rfl ?_⟩))
    exact hq (.arr A) σ (Nat.succ_le_succ hA.1) hA.2 (.self hl hs)
  | 5, _, hm =>
    obtain ⟨A, rfl⟩ : ∃ A, Ts = [A] := List.length_eq_one_iff.mp hm
    have hA := hT A (.head _)
    refine te_told (Nat.le_succ 1) (by rw [one]; exact Nat.le_trans (sz A (.head _)) (by decide)) fun o => te_no rfl (by decide) (te_no rfl (by decide) (te_yes rfl (s_asgR (evR_cmp (evR_call (ea2 (ev_var rfl) ev_int) (sp_law_take (d + 1) σ l a b hl hs 2 (by decide) (by decide) _ fun j a' b' σ' hj hs' L => ev_int _ (cq_int _ ?_)))))))
    exact s_ret (ev_tup3 (ev_tup4 ev_str ev_none (ev_var rfl) (ev_t0 (ev_var rfl))) (ev_var rfl) (ev_tup4 ev_str ev_none (ev_var rfl) (ev_t0 (ev_var rfl)))) ⟨σ', Le.refl, te_row (T := .ref ((j : Int) == 0) A) rfl (one A) rfl (hq _ σ' (Nat.succ_le_succ hA.1) hA.2 ((Drawn.self hl hs).step hs' L))⟩
  | 6, _, hm =>
    obtain ⟨A, B, rfl⟩ := len_two hm
    have hA := hT A (.head _)
    have hB := hT B (.tail _ (.head _))
    have dd : max A.dep B.dep + 1 ≤ n + 1 := Nat.succ_le_succ (Nat.max_le.mpr ⟨hA.1, hB.1⟩)
    refine te_told (Nat.le_refl 2) (by rw [two, List.length_append]; exact Nat.le_trans (Nat.add_le_add (sz A (.head _)) (sz B (.tail _ (.head _)))) (by decide)) fun o => te_no rfl (by decide) (te_no rfl (by decide) (te_no rfl (by decide) (te_yes rfl (s_ret (ev_tup3 (ev_tup2 ev_str (ev_var rfl)) (ev_var rfl) (ev_tup2 ev_str (ev_var rfl))) ⟨σ, Le.refl, te_row (T := .tup A B) rfl (two A B) rfl ?_⟩))))
    exact hq (.tup A B) σ dd (fun x hx => (List.mem_append.mp hx).elim (hA.2 x) (hB.2 x)) (.self hl hs)
  | 7, _, hm =>
    obtain ⟨A, B, rfl⟩ := len_two hm
    have hA := hT A (.head _)
    have hB := hT B (.tail _ (.head _))
    have dd : max A.dep B.dep + 1 ≤ n + 1 := Nat.succ_le_succ (Nat.max_le.mpr ⟨hA.1, hB.1⟩)
    refine te_told (Nat.le_refl 2) (by rw [two, List.length_append]; exact Nat.le_trans (Nat.add_le_add (sz A (.head _)) (sz B (.tail _ (.head _)))) (by decide)) fun o => te_no rfl (by decide) (te_no rfl (by decide) (te_no rfl (by decide) (te_no rfl (by decide) (s_ret (ev_tup3 (ev_tup4 ev_str ev_str (ev_tup eas_nil rfl) (ev_var rfl)) (ev_var rfl) (ev_tup4 ev_str ev_str (ev_tup eas_nil rfl) (ev_var rfl))) ⟨σ, Le.refl, te_row (T := .adt A B) rfl (two A B) rfl ?_⟩))))
    exact hq (.adt A B) σ dd (fun x hx => (List.mem_append.mp hx).elim (hA.2 x) (hB.2 x)) (.self hl hs)
end
theorem sp_law_type (ns : List Nm) (hn1 : 1 ≤ ns.length) (hn2 : ns.length ≤ 100) (D : Puts) (l p : Addr) : ∀ (n : Nat), n ≤ 10 → ∀ (d : Nat) (σ : Sto) (a b : Int), σ l = some (src a b) → SrcOk a b → σ p = some (.dict (pd D)) → ∀ (Q : AV → Sto → Prop),
    (∀ T σ', T.dep ≤ n + 1 → (∀ x ∈ T.vars, x ∈ ns) → Drawn σ σ' l → Q (.d (rowD D T)) σ') → Ct (d + 3 + n) "_law_type" [.loc l, .d (.list (nd ns)), .loc p, .d (.int n)] σ Q
  | 0, _, d, σ, a, b, hl, hs, hp, Q, hq => by
    have hpl : p ≠ l := fun e => by rw [e, hl] at hp; exact nomatch hp
    refine enter tl_law_type rfl (s_asgR (evR_ite_f (ev_gt (ev_var rfl) ev_int (by decide)) (evR_call (ea2 (ev_var rfl) ev_int) (sp_law_take (d + 1) σ l a b hl hs 3 (by decide) (by decide) _ fun k a' b' σ' hk hs' L => ?_))))
    have hd := (Drawn.self hl hs).step hs' L
    exact type_leaf d σ' l p ns hn1 hn2 D a' b' (L _ _ sput_self) hs' (hd.at hpl hp) _ Q (fun T σ2 h1 h2 h3 => hq T σ2 h1 h2 (hd.trans h3)) k hk
  | n + 1, hn, d, σ, a, b, hl, hs, hp, Q, hq => by
    have hpl : p ≠ l := fun e => by rw [e, hl] at hp; exact nomatch hp
    have e1 : d + 3 + n = d + 1 + n + 2 := by omega
    rw [show d + 3 + (n + 1) = (d + 1 + n + 2) + 1 by omega]
    refine enter tl_law_type rfl (s_asgR (evR_ite_t (ev_gt (ev_var rfl) ev_int (decide_eq_true (by omega))) (evR_call (ea2 (ev_var rfl) ev_int) (sp_law_take (d + 1 + n + 1) σ l a b hl hs 8 (by decide) (by decide) _ fun k a' b' σ' hk hs' L => ?_))))
    have hd := (Drawn.self hl hs).step hs' L
    have hp' := hd.at hpl hp
    have hl' := L _ _ sput_self
    by_cases k3 : k < 3
    · exact type_leaf (d + 1 + n) σ' l p ns hn1 hn2 D a' b' hl' hs' hp' _ Q (fun T σ2 h1 h2 h3 => hq T σ2 (Nat.le_trans h1 (Nat.le_add_left 1 _)) h2 (hd.trans h3)) k k3
    · refine s_ite_f (ev_lt (ev_var rfl) ev_int (decide_eq_false (by omega))) (s_ite_f (ev_eqi (ev_var rfl) ev_int (beq_false_of_ne (by omega))) (s_asgMw (eaR_cons (evR_compR ?_))))
      obtain ⟨m, hm, hm2⟩ : ∃ m : Nat, m = (if k > 5 then 2 else 1) ∧ ((1 : Int) + if decide (((k : Nat) : Int) > 5) = true then 1 else 0) = m := by
        refine ⟨_, rfl, ?_⟩
        by_cases h5 : k > 5
        · rw [if_pos h5, if_pos (decide_eq_true (by omega))]; rfl
        · rw [if_neg h5, if_neg (by rw [decide_eq_false (by omega)]; exact Bool.false_ne_true)]; rfl
      have hm3 : m ≤ 2 := by rw [hm]; split <;> decide
      refine ev_add ev_int (ev_intB (ev_gt (ev_var rfl) ev_int rfl)) _ ?_
      rw [hm2]
      refine crk (ns := ns) (l := l) (n := n) (g := rowD D) (Nat.le_trans hm3 (by decide)) (.self hl' hs') (fun o σ5 hd5 K hK => ?_) fun Us σ5 hu hT hd5 => ea_cons ev_nil (ea_nil ⟨rfl, ?_⟩)
      · obtain ⟨a3, b3, hs3, hl3⟩ := hd5.has
        refine evR_call (ea_four (ev_var rfl) (ev_var rfl) (ev_var rfl) (ev_sub (ev_var rfl) ev_int)) ?_
        rw [← e1, show ((n + 1 : Nat) : Int) - 1 = n by omega]
        exact sp_law_type ns hn1 hn2 D l p n (Nat.le_of_succ_le hn) d σ5 a3 b3 hl3 hs3 (hd5.at hpl hp') K hK
      · obtain ⟨a3, b3, hs3, hl3⟩ := hd5.has
        exact type_end (d + 1 + n) σ5 l p ns D a3 b3 hl3 hs3 (n + 1) hn _ Q (fun T σ6 h1 h2 h3 => hq T σ6 h1 h2 (hd.trans (hd5.trans h3))) k Us (fun T h => ⟨hT.dep T h, hT.var T h⟩) ⟨by omega, by omega⟩ (hu.trans hm)
theorem tl_law_reached : tab.lookup (Str.ofString "_law_reached") = some ⟨p_law_reached, l_law_reached, b_law_reached⟩ := by kernel_rfl
theorem nd_eqv : ∀ (a b : List Nm), PyData.eqvAll (nd a) (nd b) = decide (a = b)
  | [], [] => rfl
  | [], y :: b => rfl
  | x :: a, [] => rfl
  | x :: a, y :: b => by
    have ih := nd_eqv a b
    show PyData.eqvAll (.str (nm x) :: nd a) (.str (nm y) :: nd b) = _
    rw [eqvAll_cons, eqv_str, ih]
    by_cases e : x = y
    · subst e; simp
    · rw [beq_false_of_ne fun h => e (nm_inj _ _ h)]; simp [e]
noncomputable def td (F : Puts) : List (Str × PyData) := F.map fun p => (nm p.1, .list (nd p.2.vars))
theorem td_look (D : Puts) (x : Nm) : (td D).lookup (nm x) = (D.lookup x).map fun t => .list (nd t.vars) := by
  induction D with
  | nil => rfl
  | cons p D ih =>
    obtain ⟨y, t⟩ := p
    show List.lookup (nm x) ((nm y, _) :: td D) = _
    by_cases e : x = y
    · subst e; simp
    · rw [List.lookup_cons, List.lookup_cons, beq_false_of_ne e, beq_false_of_ne fun h => e (nm_inj _ _ h)]; exact ih
theorem onceAcc_ext : ∀ (l acc : List Nm), ∃ e, onceAcc acc l = acc ++ e
  | [], acc => ⟨[], by simp [onceAcc_nil]⟩
  | x :: l, acc => by
    rw [onceAcc_cons]
    split
    · exact onceAcc_ext l acc
    · obtain ⟨e, h⟩ := onceAcc_ext l (acc ++ [x])
      exact ⟨x :: e, by rw [h]; simp⟩
theorem onceAcc_self : ∀ (l acc : List Nm), (acc ++ l).Nodup → onceAcc acc l = acc ++ l
  | [], acc, _ => by simp [onceAcc_nil]
  | x :: l, acc, h => by
    rw [onceAcc_cons, if_neg fun hx => ?_]
    · rw [onceAcc_self l (acc ++ [x]) (by simpa using h)]; simp
    · rw [List.nodup_append] at h
      exact h.2.2 x hx x (.head _) rfl
theorem once_app {a b : List Nm} (h : a.Nodup) : once (a ++ b) = onceAcc a b := by
  unfold once
  rw [onceAcc_app, onceAcc_self a [] (by simpa using h)]
  rfl
structure LR (F : Puts) (T : Ty) (last found : List Nm) : Prop where
  ext : ∃ e, found = last ++ e
  nd : found.Nodup
  top : ∀ x ∈ T.vars, x ∈ found
  sub : ∀ x ∈ found, Rch F T x
theorem LR.grow {F : Puts} {T : Ty} {last found : List Nm} (h : LR F T last found) {y : Nm} (hy : y ∈ found) {vs : List Nm} (hv : ∀ x ∈ vs, ∃ t, (y, t) ∈ F ∧ x ∈ t.vars) : LR F T last (onceAcc found vs) := by
  obtain ⟨e, he⟩ := h.ext
  obtain ⟨e2, he2⟩ := onceAcc_ext vs found
  refine ⟨⟨e ++ e2, by rw [he2, he]; simp⟩, once_nodup h.nd, fun x hx => once_mem.mpr (.inl (h.top x hx)), fun x hx => ?_⟩
  rcases once_mem.mp hx with hx | hx
  · exact h.sub x hx
  · obtain ⟨t, ht, hx⟩ := hv x hx
    exact .next (h.sub y hy) ht hx
theorem cq_nds {σ : Sto} {a b : List Nm} {t : Bool} (e : decide (a = b) = t) : Cq .Eq σ (.d (.list (nd a))) (.d (.list (nd b))) t := fun Q q => .d rfl rfl (dOk_nd a) (dOk_nd b) (by rw [eqv_list, nd_eqv, e]; exact q)
theorem td_at {F : Puts} (dF : ∀ p ∈ F, p.2.dep ≤ 3) (x : Nm) : ∃ vs, ((td F).lookup (nm x)).getD (.list []) = .list (nd vs) ∧ (∀ z ∈ vs, ∃ t, (x, t) ∈ F ∧ z ∈ t.vars) ∧ (∀ t, F.lookup x = some t → ∀ z ∈ t.vars, z ∈ vs) ∧ vs.length ≤ 7 := by
  rw [td_look]
  cases hk : F.lookup x with
  | none => exact ⟨[], rfl, (fun z hz => (nomatch hz)), (fun t h => (nomatch h)), Nat.zero_le _⟩
  | some t =>
    have hm := mem_of_lookup hk
    exact ⟨t.vars, rfl, fun z hz => ⟨t, hm, hz⟩, fun t' h z hz => Option.some.inj h ▸ hz, Nat.le_trans (vars_size t) (size_le7 (dF _ hm))⟩
noncomputable abbrev reρ (T : Ty) (t : Addr) (found last : List Nm) (o : Option AV) : Rho := [some (.d (.list (nd T.vars))), some (.loc t), some (.d (.list (nd found))), some (.d (.list (nd last))), o]
inductive RI (σ : Sto) (t : Addr) (F : Puts) (T : Ty) : Nat → Rho → Sto → Prop
  | mk {last found : List Nm} {o : Option AV} {σ' : Sto} (L : Le σ σ') (H : LR F T last found) (hc : ∀ y ∈ last, ∀ t, F.lookup y = some t → ∀ x ∈ t.vars, x ∈ found) : RI σ t F T (15 - last.length) (reρ T t found last o) σ'
inductive RJ (σ : Sto) (t : Addr) (F : Puts) (T : Ty) (found : List Nm) : List Nm → Rho → Sto → Prop
  | mk {l f2 : List Nm} {o : Option AV} {σ' : Sto} (hm : ∀ y ∈ l, y ∈ found) (hc : ∀ y ∈ found, y ∈ l ∨ ∀ t, F.lookup y = some t → ∀ x ∈ t.vars, x ∈ f2) (H : LR F T found f2) (L : Le σ σ') : RJ σ t F T found l (reρ T t f2 found o) σ'
section
variable {d : Nat} {σ σ' : Sto} {t : Addr} {F : Puts} {T : Ty} {found last : List Nm} {Q : AV → Sto → Prop}
theorem re_turn (dF : ∀ p ∈ F, p.2.dep ≤ 3) (ht : σ t = some (.dict (td F))) {x : Nm} {l : List Nm} {ρ : Rho} {K Q : Fl → Rho → Sto → Prop} (h : RJ σ t F T found (x :: l) ρ σ') (k : Fk (RJ σ t F T found l) Q K) :
    awSs (Ct (d + 1)) b_law_reached_1 (ρ.set 4 (some (.d (.str (nm x))))) σ' K := by
  cases h with
  | @mk f2 o _ hm hc H L =>
    obtain ⟨vs, hvs, hv1, hv2, hv3⟩ := td_at dF x
    have hx2 : x ∈ f2 := by
      obtain ⟨e2, he2⟩ := H.ext
      rw [he2]
      exact List.mem_append_left _ (hm x (.head _))
    refine s_asgR (evR_fcall (ea1 (ev_addL (zs := nd (f2 ++ vs)) (ys := nd vs) (ev_var rfl) (hvs ▸ ev_dget rfl (L _ _ ht) (ev_var rfl) ev_nil) (by rw [nd_len, nd_len]; exact Nat.le_trans (Nat.add_le_add (nm_len H.nd) hv3) (Nat.le_trans (by decide) line_20)) (nd_app _ _).symm)) (sp_law_once d σ' (f2 ++ vs) _ fun σ4 a L4 ha h1 => fck h1 (s_nil (k.nxt _ _ ?_))))
    rw [once_app H.nd]
    refine .mk (fun y hy => hm y (.tail _ hy)) (fun y hy => ?_) (H.grow hx2 hv1) (L.trans (L4.cut_new ha))
    rcases hc y hy with h | h
    · rcases List.mem_cons.mp h with h | h
      · exact .inr fun t ht z hz => once_mem.mpr (.inr (hv2 t (h ▸ ht) z hz))
      · exact .inl h
    · exact .inr fun t ht z hz => once_mem.mpr (.inl (h t ht z hz))
theorem re_body (hF : (F.map (·.1)).Nodup) (dF : ∀ p ∈ F, p.2.dep ≤ 3) (ht : σ t = some (.dict (td F))) (hq : ∀ R σ', (∀ x, x ∈ R ↔ Rch F T x) → Le σ σ' → Q (.d (.list (nd R))) σ') {o : Option AV} (L : Le σ σ') (H : LR F T last found) (hc : ∀ y ∈ last, ∀ t, F.lookup y = some t → ∀ x ∈ t.vars, x ∈ found) :
    Wt (Ct (d + 1)) (.cmp .NotEq (.var 2) (.var 3)) b_law_reached_3 b_law_reached_4 (RI σ t F T) (Ret Q) (15 - last.length) (reρ T t found last o) σ' := by
  by_cases e : found = last
  · refine .out (ev_cmp (ev_var rfl) (ev_var rfl) (cq_ne (t := true) (cq_nds (decide_eq_true e)))) (s_ret (ev_var rfl) ⟨σ', Le.refl, hq found σ' (fun x => ⟨H.sub x, fun hr => ?_⟩) L⟩)
    induction hr with
    | here hx => exact H.top _ hx
    | next _ h2 h3 ih => exact hc _ (e ▸ ih) _ (lookupU hF h2) _ h3
  · have hlt : last.length < found.length := by
      obtain ⟨ex, hex⟩ := H.ext
      cases ex with
      | nil => exact absurd (hex.trans (List.append_nil last)) e
      | cons z ex => rw [hex, List.length_append, List.length_cons]; exact Nat.lt_add_of_pos_right (Nat.succ_pos _)
    have l15 := nm_len H.nd
    refine .go (ev_cmp (ev_var rfl) (ev_var rfl) (cq_ne (t := false) (cq_nds (decide_eq_false e)))) (s_asg (ev_var rfl) (s_for1 (g := fun x => .str (nm x)) (l := found) (RJ σ t F T found) (ev_var rfl) rfl (.mk (fun y hy => hy) (fun y hy => .inl hy) ⟨⟨[], (List.append_nil _).symm⟩, H.nd, H.top, H.sub⟩ L) (fun ρ σ3 h => ?_) fun x l ρ σ3 h K k => re_turn dF ht h k))
    cases h with
    | mk hm hc2 H2 L3 => exact s_nil (wq_go (Nat.sub_lt_sub_left (Nat.lt_of_lt_of_le hlt l15) hlt) (.mk L3 H2 fun y hy => (hc2 y hy).resolve_left fun h => nomatch h))
end
theorem sp_law_reached (d : Nat) (σ : Sto) (t : Addr) (F : Puts) (hF : (F.map (·.1)).Nodup) (dF : ∀ p ∈ F, p.2.dep ≤ 3) (ht : σ t = some (.dict (td F))) (T : Ty) (dT : T.dep ≤ 3) (Q : AV → Sto → Prop)
    (hq : ∀ R σ', (∀ x, x ∈ R ↔ Rch F T x) → Le σ σ' → Q (.d (.list (nd R))) σ') : Ct (d + 2) "_law_reached" [.d (.list (nd T.vars)), .loc t] σ Q := by
  have hm : ∀ x, x ∈ once T.vars ↔ x ∈ T.vars := fun x => ⟨fun h => (once_mem.mp h).resolve_left (fun h => nomatch h), fun h => once_mem.mpr (.inr h)⟩
  refine enter tl_law_reached rfl (s_asgMw (eaR_cons (evR_fcall (ea1 (ev_var rfl)) (sp_law_once d σ T.vars _ fun σ1 a L ha h1 => fck h1 (ea_cons ev_nil (ea_nil ⟨rfl, ?_⟩))))))
  refine s_whl (RI σ t F T) (n := 15 - ([] : List Nm).length) (.mk (L.cut_new ha) ⟨⟨_, rfl⟩, once_nodup .nil, fun x hx => (hm x).mpr hx, fun x hx => .here ((hm x).mp hx)⟩ fun y hy => nomatch hy) fun _ _ _ hi => ?_
  cases hi with
  | mk L H hc => exact re_body hF dF ht hq L H hc
theorem tl_own_names : tab.lookup (Str.ofString "own_names") = some ⟨p_own_names, l_own_names, b_own_names⟩ := by kernel_rfl
noncomputable def ownD (own : List Nm) (f : Nm → Nm) : Puts := own.map fun x => (x, .par (f x))
theorem ownD_none {own : List Nm} {f : Nm → Nm} {x : Nm} (h : x ∉ own) : (ownD own f).lookup x = none := by
  induction own with
  | nil => rfl
  | cons y own ih =>
    show List.lookup x ((y, _) :: ownD own f) = none
    rw [List.lookup_cons, beq_false_of_ne fun e => h (by rw [e]; exact .head _)]
    exact ih fun hx => h (.tail _ hx)
theorem ownD_snoc (don : List Nm) (f : Nm → Nm) (x : Nm) : ownD (don ++ [x]) f = ownD don f ++ [(x, .par (f x))] := List.map_append
theorem nodup_mid {don l : List Nm} {x : Nm} (h : (don ++ x :: l).Nodup) : x ∉ don ∧ don.length ≤ 15 := by
  rw [List.nodup_append] at h
  exact ⟨fun hx => h.2.2 x hx x (.head _) rfl, nm_len h.1⟩
theorem pd_len (F : Puts) : (pd F).length = F.length := List.length_map _
theorem ownD_len (l : List Nm) (f : Nm → Nm) : (ownD l f).length = l.length := List.length_map _
theorem dput_own {don l : List Nm} {x y : Nm} {f : Nm → Nm} (h : (don ++ x :: l).Nodup) (e : y = f x) : dput (pd (ownD don f)) (nm x) (Ty.par y).d = pd (ownD (don ++ [x]) f) := by
  rw [pd_put, dputN_new (ownD_none (nodup_mid h).1), ownD_snoc, e]
inductive OI (σ : Sto) (i g : Addr) (s : Str) (own : List Nm) (f : Nm → Nm) : List Nm → Rho → Sto → Prop
  | mk {l don : List Nm} {o1 o2 : Option AV} {σ1 : Sto} (ho : own = don ++ l) (L : Le σ σ1) (hg : σ1 g = some (.dict (pd (ownD don f)))) : OI σ i g s own f l [some (.ins i), some (.d (.str s)), some (.loc g), o1, o2] σ1
theorem ev_adds {C : Ctr} {ρ : Rho} {σ σ₁ σ₂ : Sto} {a b : Ex} {x y z : Str} (ha : Ev C ρ σ a (.d (.str x)) σ₁) (hb : Ev C ρ σ₁ b (.d (.str y)) σ₂) (h1 : x.length ≤ 100) (h2 : y.length ≤ 100) (e : x ++ y = z) : Ev C ρ σ (.bin .Add a b) (.d (.str z)) σ₂ :=
  ev_bin ha hb fun Q q => .s rfl rfl (Nat.le_trans (Nat.add_le_add h1 h2) (Nat.le_trans (by decide) line_20)) (e ▸ q)
theorem sp_own_names (d : Nat) (σ : Sto) (i : Addr) (fs : List (Str × AV)) (hi : σ i = some (.inst false fs)) (own : List Nm) (f : Nm → Nm) (s : Str) (ts : List Ty) (T0 : Ty) (hs : ∀ x ∈ own, s ++ nm x = nm (f x)) (hsl : s.length ≤ 100) (hno : own.Nodup) (hol : ∀ x ∈ own, (nm x).length ≤ 100)
    (h1 : fs.lookup (Str.ofString "params") = some (.d (.list (own.map fun x => .tuple [.str (nm x), .tuple []])))) (h2 : fs.lookup (Str.ofString "trait_args") = some (.d (.tuple (ts.map Ty.d)))) (h3 : fs.lookup (Str.ofString "self_type") = some (.d T0.d))
    (hd : ∀ T ∈ ts ++ [T0], T.dep ≤ d) (hl : ts.length ≤ 100) (Q : AV → Sto → Prop) (hq : ∀ σ', Le σ σ' → Q (.d (.list ((ts ++ [T0]).map fun T => (T.ap (look (ownD own f))).d))) σ') : Ct (d + 1) "own_names" [.ins i, .d (.str s)] σ Q := by
  refine enter tl_own_names rfl (s_newD fun g hg => ?_)
  have hgi : i ≠ g := fun e => by rw [e, hg] at hi; exact nomatch hi
  have hi1 : (sput σ g (.dict [])) i = some (.inst false fs) := by rw [sput_ne hgi]; exact hi
  refine s_forR (ev_attr rfl hi1 h1 _ (for2 (g := fun x => .str (nm x)) (g' := fun _ => .tuple []) (OI σ i g s own f) (l := own) rfl (.mk (don := []) rfl (Le.refl.put_new hg _) sput_self) (fun ρ σ1 h => ?_) fun x l ρ σ1 h K k => ?_))
  · cases h with
    | @mk don o1 o2 _ ho L hg1 =>
      rw [List.append_nil] at ho
      subst ho
      have hi1 := L _ _ hi
      refine s_ret (ev_comp (g := Ty.d) (h := fun T => (T.ap (look (ownD own f))).d) (xs := ts ++ [T0]) (v := .d (.tuple ((ts ++ [T0]).map Ty.d))) (ev_bin (ev_bi (ea1 (ev_attr rfl hi1 h2)) fun Q q => .tupT rfl rfl q) (ev_tup1 (ev_attr rfl hi1 h3)) fun Q q => .t rfl rfl ?_ ?_) rfl (fun S hS => ev_call (ea2 (ev_var rfl) (ev_var rfl)) fun Q q => sp_filled S d (hd S hS) σ1 g (ownD own f) Q (dct_at hg1) q) ?_) ⟨σ1, Le.refl, hq σ1 L⟩
      · rw [List.length_map]; exact Nat.le_trans (Nat.add_le_add_right hl 1) (Nat.le_trans (by decide) line_20)
      · rw [List.map_append] at q; exact q
      · rw [List.length_append]; exact Nat.le_trans (Nat.add_le_add_right hl 1) (Nat.le_trans (by decide) line_20)
  · cases h with
    | @mk don o1 o2 _ ho L hg1 =>
      have hxo : x ∈ own := by rw [ho]; exact List.mem_append_right _ (.head _)
      have hn := nodup_mid (ho ▸ hno)
      refine s_subD (x := (Ty.par (f x)).d) (ev_par (ev_adds (ev_var rfl) (ev_var rfl) hsl (hol x hxo) (hs x hxo))) (ev_var rfl) (ev_var rfl) hg1 (by rw [pd_len, ownD_len]; exact Nat.le_trans hn.2 (Nat.le_trans (by decide) line_20)) (s_nil (k.nxt _ _ (.mk (ho.trans (List.append_cons don x l)) (L.put_own hg _) ?_)))
      rw [sput_self, dput_own (ho ▸ hno) rfl]
theorem tl_law_own_right : tab.lookup (Str.ofString "_law_own_right") = some ⟨p_law_own_right, l_law_own_right, b_law_own_right⟩ := by kernel_rfl
theorem tys_eqv : ∀ (a b : List Ty), PyData.eqvAll (a.map Ty.d) (b.map Ty.d) = decide (a = b)
  | [], [] => rfl
  | [], y :: b => rfl
  | x :: a, [] => rfl
  | x :: a, y :: b => by
    have ih := tys_eqv a b
    rw [List.map_cons, List.map_cons, eqvAll_cons, ty_eqv, ih, ← Bool.decide_and]
    exact decide_eq_decide.mpr (by simp)
theorem cq_tys {σ : Sto} {a b : List Ty} (ha : ∀ T ∈ a, T.dep ≤ 200) (hb : ∀ T ∈ b, T.dep ≤ 200) : Cq .Eq σ (.d (.list (a.map Ty.d))) (.d (.list (b.map Ty.d))) (decide (a = b)) := fun Q q => .d rfl rfl (dOk_tys ha) (dOk_tys hb) (by rw [eqv_list, tys_eqv]; exact q)
theorem pick_init {α : Type} (xs : List α) (x : α) : pick (xs ++ [x]) (xs ++ [x]).length none (some (-1)) none = xs := by
  have e : sliceBounds none (some (-1)) none (xs ++ [x]).length = (((0 : Nat) : Int), ((xs.length : Nat) : Int), 1) := by
    simp only [sliceBounds, Option.getD_none, show (1 : Int) > 0 by decide, if_true, show ((-1 : Int) < 0) by decide]
    congr 1
    congr 1
    simp
    omega
  rw [pick_nat _ e]
  simp
theorem pick_own (k : Nat) (hk : k < 2) : pick (nd [8, 9]) (nd [8, 9]).length none (some (1 + (k : Int))) none = nd ([8, 9].take (1 + k)) := by
  have : k = 0 ∨ k = 1 := by omega
  rcases this with rfl | rfl
  · have e : sliceBounds none (some (1 + ((0 : Nat) : Int))) none (nd [8, 9]).length = (((0 : Nat) : Int), ((1 : Nat) : Int), 1) := by decide
    rw [pick_nat _ e]; rfl
  · have e : sliceBounds none (some (1 + ((1 : Nat) : Int))) none (nd [8, 9]).length = (((0 : Nat) : Int), ((2 : Nat) : Int), 1) := by decide
    rw [pick_nat _ e]; rfl
theorem ev_lastd {C : Ctr} {ρ : Rho} {σ σ₁ : Sto} {e : Ex} {xs : List PyData} {x : PyData} (h : Ev C ρ σ e (.d (.list (xs ++ [x]))) σ₁) (hl : xs.length ≤ 100000) : Ev C ρ σ (.idx e (.neg 1)) (.d x) σ₁ := ev_idx h ev_neg fun Q q => by
  refine .s rfl rfl (by decide) (by decide) (n := xs.length) ?_ ?_ q
  · rw [List.length_append]; exact seqIdx_last xs.length hl
  · rw [List.getElem?_append_right (Nat.le_refl _), Nat.sub_self]; rfl
theorem ev_init {C : Ctr} {ρ : Rho} {σ σ₁ : Sto} {e : Ex} {xs : List PyData} {x : PyData} (h : Ev C ρ σ e (.d (.list (xs ++ [x]))) σ₁) (hl : (xs ++ [x]).length ≤ sizeLine) : Ev C ρ σ (.slc .none (.neg 1) .none e) (.d (.list xs)) σ₁ := fun K k => by
  refine h _ (ev_none _ (ev_neg _ (ev_none _ ?_)))
  rw [← pick_init xs x] at k
  exact .mk rfl hl .none .int .none (fun e => nomatch e) k
theorem dgo_step {body val : Rho → Sto → (AV → Sto → Prop) → Prop} {x : PyData} {xs : List PyData} {ρ ρ' : Rho} {σ : Sto} {acc : List (Str × PyData)} {Q : List (Str × PyData) → Sto → Prop} (hb : bindT ρ (.one 0) (.d x) = some ρ')
    (h : body ρ' σ fun k σ' => val ρ' σ' fun v σ'' => wS (isD k) fun kd => wS (strOf kd) fun ks => wS (isD v) fun y => acc.length + 1 ≤ sizeLine ∧ dgo body val xs ρ' σ'' (dput acc ks y) Q) : dgo body val (x :: xs) ρ σ acc Q := wS_of hb h
theorem dgo_own {C : Ctr} {s : Str} {f : Nm → Nm} {ρ : Rho} {σ : Sto} {Q : List (Str × PyData) → Sto → Prop} (hsl : s.length ≤ 100) (hρ : ρ[2]? = some (some (.d (.str s)))) : ∀ (l don : List Nm) (o : Option AV), (∀ x ∈ l, s ++ nm x = nm (f x) ∧ (nm x).length ≤ 100) → (don ++ l).Nodup → Q (pd (ownD (don ++ l) f)) σ →
    dgo (awE C (.var 0)) (awE C (.tup (.cons (.str "param") (.cons (.bin .Add (.var 3) (.var 0)) .nil)))) (nd l) (o :: ρ) σ (pd (ownD don f)) Q
  | [], don, o, hs, hn, q => by
    rw [List.append_nil] at q
    exact q
  | x :: l, don, o, hs, hn, q => by
    obtain ⟨hx, hxl⟩ := hs x (.head _)
    have h0 : Ev C (some (.d (.str (nm x))) :: ρ) σ (.var 0) (.d (.str (nm x))) σ := ev_var rfl
    have h1 : Ev C (some (.d (.str (nm x))) :: ρ) σ (.tup (.cons (.str "param") (.cons (.bin .Add (.var 3) (.var 0)) .nil))) (.d (Ty.par (f x)).d) σ := ev_par (ev_adds (ev_var hρ) h0 hsl hxl hx)
    refine dgo_step (ρ' := some (.d (.str (nm x))) :: ρ) rfl (h0 _ (h1 _ ?_))
    show (pd (ownD don f)).length + 1 ≤ sizeLine ∧ dgo _ _ _ _ _ (dput (pd (ownD don f)) (nm x) (Ty.par (f x)).d) Q
    rw [dput_own hn rfl]
    refine ⟨by rw [pd_len, ownD_len]; exact Nat.le_trans (Nat.succ_le_succ (nodup_mid hn).2) (Nat.le_trans (by decide) line_20), dgo_own hsl hρ l (don ++ [x]) _ (fun y hy => hs y (.tail _ hy)) ?_ ?_⟩
    · rw [List.append_assoc]; exact hn
    · rw [List.append_assoc]; exact q
theorem evR_ownd {C : Ctr} {s : Str} {f : Nm → Nm} {ρ : Rho} {σ : Sto} {K : AV → Sto → Prop} {own : List Nm} {z : Str} (hsl : s.length ≤ 100) (hρ : ρ[2]? = some (some (.d (.str s)))) (hs : ∀ x ∈ own, s ++ nm x = nm (f x) ∧ (nm x).length ≤ 100) (hn : own.Nodup) (h1 : ρ[1]? = some (some (.d (.list (nd own)))))
    (k : ∀ a, σ a = none → K (.loc a) (sput σ a (.dict (pd (ownD own f))))) : awE C (.dcomp (.var 0) (.tup (.cons (.str "param") (.cons (.bin .Add (.var 3) (.var 0)) .nil))) z (.var 1)) ρ σ K := by
  have h : awE C (.var 1) ρ σ fun v σ' => wS (itemsOf v) fun xs => dgo (awE C (.var 0)) (awE C (.tup (.cons (.str "param") (.cons (.bin .Add (.var 3) (.var 0)) .nil)))) xs (none :: ρ) σ' [] fun ys σ'' => ∀ a, σ'' a = none → K (.loc a) (sput σ'' a (.dict ys)) := ev_var h1 _ (dgo_own hsl hρ own [] none hs hn k)
  exact h
theorem nm_short : ∀ x : Nm, (nm x).length ≤ 100 := by decide +kernel
noncomputable def side1 (x : Nm) : Nm := if x = 8 then 4 else 5
noncomputable def side2 (x : Nm) : Nm := if x = 8 then 6 else 7
theorem side1_ok : ∀ x ∈ ([8, 9] : List Nm), Str.ofString "1 " ++ nm x = nm (side1 x) := by decide +kernel
theorem side2_ok : ∀ x ∈ ([8, 9] : List Nm), Str.ofString "2 " ++ nm x = nm (side2 x) := by decide +kernel
theorem side_len : (Str.ofString "1 ").length ≤ 100 ∧ (Str.ofString "2 ").length ≤ 100 := by decide +kernel
theorem str_ne : (Str.ofString "ImplRow" : Str) ≠ "Both" := by decide +kernel
theorem Ct_impl' {d : Nat} {f : Str} (h1 : f ≠ "Both") (h2 : f = "ImplRow") {args : List AV} {σ : Sto} {Q : AV → Sto → Prop} (hn : args.length = 7) (h : ∀ a, σ a = none → Q (.ins a) (sput σ a (.inst false (implAttrs.zip (args ++ [.d (.int 0)]))))) : Ct (d + 1) f args σ Q := by
  show (if f = "Both" then _ else if f = "ImplRow" then _ else _)
  rw [if_neg h1, if_pos h2]
  exact ⟨hn, h⟩
theorem Ct_impl {d : Nat} {args : List AV} {σ : Sto} {Q : AV → Sto → Prop} (hn : args.length = 7) (h : ∀ a, σ a = none → Q (.ins a) (sput σ a (.inst false (implAttrs.zip (args ++ [.d (.int 0)]))))) : Ct (d + 1) (Str.ofString "ImplRow") args σ Q := Ct_impl' str_ne rfl hn h
theorem Ct_both' {d : Nat} {f : Str} (h1 : f = "Both") {σ : Sto} {Q : AV → Sto → Prop} (h : ∀ a b, σ a = none → σ b = none → a ≠ b → Q (.ins a) (sput (sput σ b (.dict [])) a (.inst true [(Str.ofString "found", .loc b)]))) : Ct (d + 1) f [] σ Q := by
  show (if f = "Both" then _ else _)
  rw [if_pos h1]
  exact ⟨rfl, h⟩
theorem Ct_both {d : Nat} {σ : Sto} {Q : AV → Sto → Prop} (h : ∀ a b, σ a = none → σ b = none → a ≠ b → Q (.ins a) (sput (sput σ b (.dict [])) a (.inst true [(Str.ofString "found", .loc b)]))) : Ct (d + 1) (Str.ofString "Both") [] σ Q := Ct_both' rfl h
theorem Drawn.new {σ σ' : Sto} {l : Addr} (h : Drawn σ σ' l) {a : Addr} (ha : σ' a = none) (o : AO) : Drawn σ (sput σ' a o) l := h.mono (Le.refl.put_new ha o)
theorem impl_look (a0 a1 a2 a3 a4 a5 a6 a7 : AV) : (implAttrs.zip ([a0, a1, a2, a3, a4, a5, a6] ++ [a7])).lookup (Str.ofString "params") = some a2 ∧ (implAttrs.zip ([a0, a1, a2, a3, a4, a5, a6] ++ [a7])).lookup (Str.ofString "trait_args") = some a4 ∧ (implAttrs.zip ([a0, a1, a2, a3, a4, a5, a6] ++ [a7])).lookup (Str.ofString "self_type") = some a5 := by
  simp [implAttrs, List.lookup_cons, str_beq]
theorem bq_i {a b : Int} {Q : PyData → Prop} (q : Q (.int (a + b))) : binQ .Add (.d (.int a)) (.d (.int b)) Q := .i rfl rfl q
theorem evR_slc {C : Ctr} {ρ : Rho} {σ σ₁ : Sto} {lo hi st a : Ex} {va : AV} {K : AV → Sto → Prop} (h : Ev C ρ σ a va σ₁) (k : awE C lo ρ σ₁ fun l σ₂ => awE C hi ρ σ₂ fun h σ₃ => awE C st ρ σ₃ fun t σ₄ => slcQ va l h t fun r => K (.d r) σ₄) : awE C (.slc lo hi st a) ρ σ K := h _ k
theorem look_dep (own : List Nm) (f : Nm → Nm) (x : Nm) : ((look (ownD own f)) x).dep ≤ 0 + 1 := by
  unfold look
  induction own with
  | nil => exact Nat.le_refl 1
  | cons y own ih =>
    show ((List.lookup x ((y, Ty.par (f y)) :: ownD own f)).getD (.par x)).dep ≤ 1
    by_cases e : x = y
    · rw [e, List.lookup_cons, beq_self_eq_true]; exact Nat.le_refl 1
    · rw [List.lookup_cons, beq_false_of_ne e]; exact ih
theorem one_of {s : PyData} {own : List Nm} (h : s ∈ [PyData.str (Str.ofString "1 "), .str (Str.ofString "2 ")]) (hom : ∀ x ∈ own, x ∈ ([8, 9] : List Nm)) : ∃ (st : Str) (f : Nm → Nm), s = .str st ∧ (∀ x ∈ own, st ++ nm x = nm (f x)) ∧ st.length ≤ 100 := by
  rcases List.mem_cons.mp h with h | h
  · exact ⟨_, side1, h, fun x hx => side1_ok x (hom x hx), side_len.1⟩
  · exact ⟨_, side2, List.mem_singleton.mp h, fun x hx => side2_ok x (hom x hx), side_len.2⟩
noncomputable abbrev owρ (l : Addr) (own : List Nm) (st : Str) (p : Addr) (o4 o5 o6 : Option AV) : Rho := [some (.loc l), some (.d (.list (nd own))), some (.d (.str st)), some (.loc p), o4, o5, o6]
theorem ow_end (d : Nat) {σ0 σ : Sto} {l p : Addr} {own : List Nm} {st : Str} {f : Nm → Nm} {Ti : List Ty} {T : Ty} {Q : AV → Sto → Prop} (hsf : ∀ x ∈ own, st ++ nm x = nm (f x)) (hsl : st.length ≤ 100) (hon : own.Nodup) (hT : RowsOk 2 [8, 9, 10] (Ti ++ [T])) (hl : Ti.length ≤ 2) (hd : Drawn σ0 σ l) (hq : ∀ σ', Drawn σ0 σ' l → Q (.d (.bool true)) σ') :
    awSs (Ct (d + 5)) b_law_own_right_3 (owρ l own st p (some (.d (.list ((Ti ++ [T]).map (rowD (ownD own f)))))) none none) σ (Ret Q) := by
  have er : (Ti ++ [T]).map (rowD (ownD own f)) = Ti.map (rowD (ownD own f)) ++ [rowD (ownD own f) T] := List.map_append
  have l2 : Ti.length ≤ sizeLine := Nat.le_trans hl two_line
  have l3 : (Ti ++ [T]).length ≤ sizeLine := by rw [List.length_append]; exact Nat.le_trans (Nat.add_le_add_right hl 1) (Nat.le_trans (by decide) line_20)
  have v4 : ∀ {C : Ctr} {ρ : Rho} {σ : Sto}, ρ[4]? = some (some (.d (.list ((Ti ++ [T]).map (rowD (ownD own f)))))) → Ev C ρ σ (.var 4) (.d (.list (Ti.map (rowD (ownD own f)) ++ [rowD (ownD own f) T]))) σ := fun h => er ▸ ev_var h
  refine s_asg (ev_tupL (ev_comp (g := rowD (ownD own f)) (h := Ty.d) (xs := Ti) (ev_init (v4 rfl) (by rw [← er, List.length_map]; exact l3)) rfl (fun S _ => ev_row0 (ev_var rfl)) l2) (by rw [List.length_map]; exact l2)) ?_
  have lo : own.length ≤ sizeLine := Nat.le_trans (nm_len hon) (Nat.le_trans (by decide) line_20)
  refine s_asgR (evR_callK (ea_cons ev_int (ea_cons (ev_tup eas_nil rfl) (ea_cons (ev_comp (g := fun x => .str (nm x)) (h := fun x => .tuple [.str (nm x), .tuple []]) (xs := own) (ev_var rfl) rfl (fun x _ => ev_tup2 (ev_var rfl) (ev_tup eas_nil rfl)) lo) (ea_cons ev_str (ea_cons (ev_var rfl)
    (ea_cons (ev_row0 (ev_lastd (v4 rfl) (by rw [List.length_map]; exact Nat.le_trans hl (by decide)))) (ea_dct fun m hm => ea_nil ?_))))))))
  refine Ct_impl rfl fun i hi => ?_
  obtain ⟨l1, l2', l3'⟩ := impl_look (.d (.int 0)) (.d (.tuple [])) (.d (.list (own.map fun x => .tuple [.str (nm x), .tuple []]))) (.d (.str (Str.ofString "A"))) (.d (.tuple (Ti.map Ty.d))) (.d T.d) (.loc m) (.d (.int 0))
  have hd7 := (hd.new hm (.dict [])).new hi (.inst false (implAttrs.zip ([.d (.int 0), .d (.tuple []), .d (.list (own.map fun x => .tuple [.str (nm x), .tuple []])), .d (.str (Str.ofString "A")), .d (.tuple (Ti.map Ty.d)), .d T.d, .loc m] ++ [.d (.int 0)])))
  refine s_retR (evR_cmp (evR_call (ea2 (ev_var rfl) (ev_var rfl)) (sp_own_names (d + 4) _ i _ sput_self own f st Ti T hsf hsl hon (fun x _ => nm_short x) l1 l2' l3' (fun S hS => Nat.le_trans (hT.dep S hS) (Nat.le_trans (by decide) (Nat.le_add_left 4 d))) (Nat.le_trans hl (by decide)) _ fun σ8 L8 => ?_)))
  have dd : ∀ S ∈ (Ti ++ [T]).map (fun T : Ty => T.ap (look (ownD own f))), S.dep ≤ 200 := by
    intro S hS
    obtain ⟨S0, h0, rfl⟩ := List.mem_map.mp hS
    exact Nat.le_trans (dep_ap (D := 0) fun x _ => look_dep own f x) (Nat.le_trans (hT.dep S0 h0) (by decide))
  have e1 : (Ti ++ [T]).map (fun T : Ty => (T.ap (look (ownD own f))).d) = ((Ti ++ [T]).map (fun T : Ty => T.ap (look (ownD own f)))).map Ty.d := List.map_map.symm
  refine ev_compE (g := rowD (ownD own f)) (h := fun T => (T.ap (look (ownD own f))).d) (ev_var rfl) rfl (fun S _ => ev_row2 (ev_var rfl)) l3 e1 _ ?_
  rw [e1]
  refine cq_tys dd dd _ ?_
  rw [decide_eq_true rfl]
  exact ⟨σ8, Le.refl, hq σ8 (hd7.mono L8)⟩
theorem sp_own_right (d : Nat) (σ : Sto) (l : Addr) (a b : Int) (hl : σ l = some (src a b)) (hs : SrcOk a b) (Q : AV → Sto → Prop) (hq : ∀ σ', Drawn σ σ' l → Q (.d (.bool true)) σ') : Ct (d + 6) "_law_own_right" [.loc l] σ Q := by
  refine enter tl_law_own_right rfl (s_asgMw (eaR_cons ?_))
  refine evR_slc (ev_lst (xs := nd [8, 9]) (ea2 ev_str ev_str) rfl) (ev_none _ (evR_bin ev_int (evR_call (ea2 (ev_var rfl) ev_int) (sp_law_take (d + 4) σ l a b hl hs 2 (by decide) (by decide) _ fun k a1 b1 σ1 hk hs1 L1 => ?_))))
  have hd1 := (Drawn.self hl hs).step hs1 L1
  refine bq_i (ev_none _ ?_)
  refine .mk rfl (Nat.le_trans (show 2 ≤ 2 ^ 20 by decide) line_20) .none .int .none (fun e => nomatch e) ?_
  rw [pick_own k hk]
  obtain ⟨own, ho⟩ : ∃ own, ([8, 9] : List Nm).take (1 + k) = own := ⟨_, rfl⟩
  have hom : ∀ x ∈ own, x ∈ ([8, 9] : List Nm) := fun x hx => List.mem_of_mem_take (ho ▸ hx)
  have hon : own.Nodup := ho ▸ (by decide : ([8, 9] : List Nm).Nodup).sublist (List.take_sublist _ _)
  rw [ho]
  obtain ⟨a2, b2, hs2, hl2⟩ := hd1.has
  refine eaR_cons (evR_call (ea2 (ev_var rfl) (ev_lst (ea2 ev_str ev_str) rfl)) (sp_law_one (d + 3) σ1 l a2 b2 hl2 hs2 [.str (Str.ofString "1 "), .str (Str.ofString "2 ")] (show 1 ≤ 2 by decide) (show 2 ≤ 100 by decide) _ fun s a3 b3 σ2 hsd hs3 L2 => ea_nil ⟨rfl, ?_⟩))
  have hd2 := hd1.step hs3 L2
  obtain ⟨st, f, rfl, hsf, hsl⟩ := one_of hsd hom
  refine s_asgR (evR_ownd hsl rfl (fun x hx => ⟨hsf x hx, nm_short x⟩) hon rfl fun p hp => ?_)
  have hd3 := hd2.new hp (.dict (pd (ownD own f)))
  have hp3 : (sput σ2 p (.dict (pd (ownD own f)))) p = some (.dict (pd (ownD own f))) := sput_self
  generalize sput σ2 p _ = σ3 at hd3 hp3 ⊢
  obtain ⟨a4, b4, hs4, hl4⟩ := hd3.has
  have hpl : p ≠ l := fun e => by rw [e, hl4] at hp3; exact nomatch hp3
  refine s_asgR (evR_compR (evR_bin ev_int (evR_call (ea2 (ev_var rfl) ev_int) (sp_law_take (d + 4) σ3 l a4 b4 hl4 hs4 3 (by decide) (by decide) _ fun k3 a5 b5 σ4 hk3 hs5 L4 => ?_))))
  have hd4 := hd3.step hs5 L4
  have hp4 := ((Drawn.self hl4 hs4).step hs5 L4).at hpl hp3
  obtain ⟨a6, b6, hs6, hl6⟩ := hd4.has
  refine bq_i ?_
  rw [show (1 : Int) + (k3 : Nat) = ((1 + k3 : Nat) : Int) by omega]
  refine crk (ns := [8, 9, 10]) (l := l) (n := 2) (g := rowD (ownD own f)) (by omega) (.self hl6 hs6) (fun o σ5 hd5 K hK => ?_) fun Ts σ5 hlen hT hd5 => ?_
  · obtain ⟨a7, b7, hs7, hl7⟩ := hd5.has
    exact evR_call (ea_four (ev_var rfl) (ev_lst (xs := nd [8, 9, 10]) (ea3 ev_str ev_str ev_str) rfl) (ev_var rfl) ev_int) (sp_law_type [8, 9, 10] (by decide) (by decide) (ownD own f) l p 2 (by decide) d σ5 a7 b7 hl7 hs7 (hd5.at hpl hp4) K hK)
  · obtain ⟨Ti, T, rfl⟩ : ∃ Ti T, Ts = Ti ++ [T] := by
      have : Ts ≠ [] := fun e => by rw [e, List.length_nil] at hlen; omega
      exact ⟨Ts.dropLast, Ts.getLast this, (List.dropLast_concat_getLast this).symm⟩
    exact ow_end d hsf hsl hon hT (by rw [List.length_append, List.length_cons, List.length_nil] at hlen; omega) (hd4.trans hd5) hq
theorem tl_law_held_right : tab.lookup (Str.ofString "_law_held_right") = some ⟨p_law_held_right, l_law_held_right, b_law_held_right⟩ := by kernel_rfl
theorem look_nil : look [] = .par := by funext x; rfl
theorem td_put {F : Puts} {x : Nm} {T : Ty} (h : F.lookup x = none) : dput (td F) (nm x) (.list (nd T.vars)) = td (F ++ [(x, T)]) := by
  unfold dput
  rw [td_look, h, td, td, List.map_append]; rfl
theorem rowD_nil (T : Ty) : rowD [] T = .tuple [T.d, .list (nd T.vars), T.d] := by rw [rowD, look_nil, ap_par]
theorem cq_bool {σ : Sto} {a b : Bool} : Cq .Eq σ (.d (.bool a)) (.d (.bool b)) (a == b) := fun Q q => eqQ_bool q
theorem ev_type {d n k : Nat} {ns : List Nm} {ρ : Rho} {σ : Sto} {l : Addr} {e : Ex} {K : AV → Sto → Prop} (hn : n ≤ 10) (h1 : 1 ≤ ns.length) (h2 : ns.length ≤ 100) (hk : ρ[k]? = some (some (.loc l))) (he : Ev (Ct (d + 3 + n)) ρ σ e (.d (.list (nd ns))) σ) (hl : ∃ a b, SrcOk a b ∧ σ l = some (src a b))
    (q : ∀ (T : Ty) (σ' : Sto), T.dep ≤ n + 1 → (∀ x ∈ T.vars, x ∈ ns) → Drawn σ σ' l → K (.d (.tuple [T.d, .list (nd T.vars), T.d])) σ') : awE (Ct (d + 3 + n)) (.call "_law_type" (.cons (.var k) (.cons e (.cons (.dct false) (.cons (.int (n : Nat)) .nil))))) ρ σ K := by
  obtain ⟨a, b, hs, hl⟩ := hl
  refine evR_callK (ea_cons (ev_var hk) (ea_cons he (ea_dct fun p hp => ea_cons ev_int (ea_nil ?_))))
  have hd : Drawn σ (sput σ p (.dict [])) l := (Drawn.self hl hs).new hp _
  have hpl : l ≠ p := fun e => by rw [← e, hl] at hp; exact nomatch hp
  exact sp_law_type ns h1 h2 [] l p n hn d _ a b (by rw [sput_ne hpl]; exact hl) hs sput_self K fun T σ' a1 a2 a3 => by
    rw [rowD_nil]
    exact q T σ' a1 a2 (hd.trans a3)
theorem ty_eqv_self (T : Ty) : PyData.eqv T.d T.d = true := by rw [ty_eqv, decide_eq_true rfl]
theorem dictEqv_self {F : Puts} (h : (F.map (·.1)).Nodup) : dictEqv (pd F) (pd F) = true := by
  unfold dictEqv
  rw [Bool.and_eq_true]
  refine ⟨beq_self_eq_true _, ?_⟩
  rw [List.all_eq_true]
  intro p hp
  obtain ⟨q, hq, rfl⟩ := List.mem_map.mp hp
  have : (pd F).lookup (nm q.1) = some q.2.d := pd_some (lookupU h hq)
  show (match (pd F).lookup (nm q.1) with | some d => PyData.eqv q.2.d d | none => false) = true
  rw [this]
  exact ty_eqv_self _
theorem cq_dd {σ : Sto} {a b : Addr} {F : Puts} (ha : σ a = some (.dict (pd F))) (hb : σ b = some (.dict (pd F))) (h : (F.map (·.1)).Nodup) (dF : ∀ p ∈ F, p.2.dep ≤ 3) : Cq .Eq σ (.loc a) (.loc b) true := fun Q q => by
  have hd : ∀ p ∈ pd F, dOk p.2 = true := fun p hp => by
    obtain ⟨q, hq, rfl⟩ := List.mem_map.mp hp
    exact ty_dOk (Nat.le_trans (dF q hq) (by decide))
  exact .m (dct_at ha) (dct_at hb) hd hd (by rw [dictEqv_self h]; exact q)
theorem keys_none {F : Puts} {x : Nm} (h : x ∉ F.map (·.1)) : F.lookup x = none := by
  cases e : F.lookup x with
  | none => rfl
  | some t => exact absurd (List.mem_map.mpr ⟨_, mem_of_lookup e, rfl⟩) h
theorem dputN_dep {F : Puts} {x : Nm} {T : Ty} {n : Nat} (h : ∀ p ∈ F, p.2.dep ≤ n) (hT : T.dep ≤ n) : ∀ p ∈ dputN F x T, p.2.dep ≤ n := by
  intro p hp
  unfold dputN at hp
  split at hp
  · obtain ⟨q, hq, rfl⟩ := List.mem_map.mp hp
    split
    · exact hT
    · exact h q hq
  · rcases List.mem_append.mp hp with hp | hp
    · exact h p hp
    · rw [List.mem_singleton] at hp; subst hp; exact hT
theorem Drawn.own {σ σ' : Sto} {l : Addr} (h : Drawn σ σ' l) {a : Addr} (ha : σ a = none) (ne : a ≠ l) (o : AO) : Drawn σ (sput σ' a o) l := by
  obtain ⟨x, y, h1, L⟩ := h
  exact ⟨x, y, h1, L.put_own (by rw [sput_ne ne]; exact ha) o⟩
structure HR (σ σ' : Sto) (l i f t : Addr) (F : Puts) : Prop where
  dr : Drawn σ σ' l
  bo : Bo σ' i f F
  ht : σ' t = some (.dict (td F))
  nf : σ f = none
  nt : σ t = none
  il : i ≠ l
  fl : f ≠ l
  tl : t ≠ l
  ft : f ≠ t
  it : i ≠ t
theorem HR.drawn {σ σ' σ'' : Sto} {l i f t : Addr} {F : Puts} (H : HR σ σ' l i f t F) (h : Drawn σ' σ'' l) : HR σ σ'' l i f t F :=
  ⟨H.dr.trans h, ⟨h.at H.il H.bo.hi, h.at H.fl H.bo.hf⟩, h.at H.tl H.ht, H.nf, H.nt, H.il, H.fl, H.tl, H.ft, H.it⟩
theorem HR.mono {σ σ' σ'' : Sto} {l i f t : Addr} {F : Puts} (H : HR σ σ' l i f t F) (L : Le σ' σ'') : HR σ σ'' l i f t F :=
  ⟨H.dr.mono L, H.bo.mono L, L _ _ H.ht, H.nf, H.nt, H.il, H.fl, H.tl, H.ft, H.it⟩
theorem HR.put {σ σ' : Sto} {l i f t : Addr} {F : Puts} (H : HR σ σ' l i f t F) (F' : Puts) : HR σ (sput (sput σ' f (.dict (pd F'))) t (.dict (td F'))) l i f t F' :=
  ⟨(H.dr.own H.nf H.fl _).own H.nt H.tl _, ⟨by rw [sput_ne H.it, sput_ne (bo_ne H.bo)]; exact H.bo.hi, by rw [sput_ne H.ft, sput_self]⟩, sput_self, H.nf, H.nt, H.il, H.fl, H.tl, H.ft, H.it⟩
noncomputable abbrev heρ (l i t : Addr) (o3 oT oN oS o7 o8 o9 o10 : Option AV) : Rho := [some (.loc l), some (.ins i), some (.loc t), o3, oT, oN, oS, o7, o8, o9, o10]
noncomputable abbrev hfρ (l i t : Addr) (o3 : Option AV) (T : Ty) (R : List Nm) (o8 o9 o10 : Option AV) : Rho := heρ l i t o3 (some (.d T.d)) (some (.d (.list (nd T.vars)))) (some (.d T.d)) (some (.d (.list (nd R)))) o8 o9 o10
structure HF (lf : List Nm) (F : Puts) : Prop where
  nd : (F.map (·.1)).Nodup
  out : ∀ x ∈ F.map (·.1), x ∉ lf
  lnd : lf.Nodup
  dep : ∀ p ∈ F, p.2.dep ≤ 3
inductive LH (σ : Sto) (l i f t : Addr) : List Nm → Rho → Sto → Prop
  | mk {lf : List Nm} {F : Puts} {o3 o10 : Option AV} {σ2 : Sto} (H : HR σ σ2 l i f t F) (hF : HF lf F) : LH σ l i f t lf (heρ l i t o3 none none none none none none o10) σ2
inductive LK (σ : Sto) (l i f t : Addr) (F : Puts) (T : Ty) (R : List Nm) (o10 : Option AV) : List Nm → Rho → Sto → Prop
  | mk {lf : List Nm} {o3 : Option AV} {σ2 : Sto} (H : HR σ σ2 l i f t F) : LK σ l i f t F T R o10 lf (hfρ l i t o3 T R none none o10) σ2
structure HG (σ0 σ : Sto) (l i f e : Addr) (F : Puts) : Prop where
  dr : Drawn σ0 σ l
  bo : Bo σ i f F
  he : σ e = some (.dict (pd F))
  nd : (F.map (·.1)).Nodup
  dep : ∀ p ∈ F, p.2.dep ≤ 3
section
variable {d : Nat} {σ σ' : Sto} {l i f t e : Addr} {F F' : Puts} {T : Ty} {x : Nm} {R : List Nm} {Q : AV → Sto → Prop} {o3 o8 o9 o10 : Option AV} {can : Bool}
theorem he_fin (hi : ∃ fs, σ' i = some (.inst true fs)) (hq : ∀ σ', Drawn σ σ' l → Q (.d (.bool true)) σ') (hb : ∀ K : AV → Sto → Prop, (∀ σ11, HG σ σ11 l i f e F' → K (.d (.bool can)) σ11) → Ct (d + 5) "bind" [.ins i, .d (.str (nm x)), .d T.d] σ' K) :
    awSs (Ct (d + 5)) b_law_held_right_8 (hfρ l i t (some (.d (.str (nm x)))) T R (some (.loc e)) (some (.d (.bool can))) o10) σ' (Ret Q) := by
  obtain ⟨fs, hi⟩ := hi
  refine s_retR (evR_and (evR_cmp (evR_meth rfl hi (ea2 (ev_var rfl) (ev_var rfl)) (hb _ fun σ11 G => ev_var rfl _ (cq_bool _ ?_)))))
  rw [beq_self_eq_true]
  exact alk_t (al_last (ev_cmp (ev_found rfl G.bo) (ev_var rfl) (cq_dd G.bo.hf G.he G.nd G.dep) _ (blk ⟨σ11, Le.refl, hq σ11 G.dr⟩)))
theorem he_end (H : HR σ σ' l i f t F) (he : σ' e = some (.dict (pd F))) (hF : HF [] F) (eσ : σ e = none) (el : e ≠ l) (ei : e ≠ i) (ef : e ≠ f) (et : e ≠ t) (dT : T.dep ≤ 3) (hR : ∀ x, x ∈ R ↔ Rch F T x) (hq : ∀ σ', Drawn σ σ' l → Q (.d (.bool true)) σ') :
    awSs (Ct (d + 5)) b_law_held_right_10 (hfρ l i t (some (.d (.str (nm x)))) T R (some (.loc e)) none o10) σ' (Ret Q) := by
  have dT2 : T.dep ≤ 240 := Nat.le_trans dT (by decide)
  have ep : ∀ {o9 : Option AV}, Ev (Ct (d + 5)) (hfρ l i t (some (.d (.str (nm x)))) T R (some (.loc e)) o9 o10) σ' (.cmp .Eq (.var 4) (.tup (.cons (.str "param") (.cons (.var 3) .nil)))) (.d (.bool (decide (T = .par x)))) σ' := ev_eqp dT2 (ev_var rfl) (ev_var rfl)
  have np : ∀ {o9 : Option AV}, Ev (Ct (d + 5)) (hfρ l i t (some (.d (.str (nm x)))) T R (some (.loc e)) o9 o10) σ' (.cmp .NotEq (.var 4) (.tup (.cons (.str "param") (.cons (.var 3) .nil)))) (.d (.bool (!decide (T = .par x)))) σ' := ev_cmp (ev_var rfl) (ev_par (ev_var rfl)) (cq_ne (cq_ty dT2 (show 1 ≤ 240 by decide)))
  by_cases e1 : T = .par x
  · have d1 := decide_eq_true e1
    rw [d1] at ep np
    refine s_asg (ev_or_t ep) (s_ite_f (ev_and (ev_var rfl) np) (he_fin (f := f) (F' := F) ⟨_, H.bo.hi⟩ hq fun K k => sp_bind (d + 2) σ' i f F H.bo hF.nd hF.dep x T dT K (fun _ σ9 L9 => k σ9 ?_) (fun h => absurd e1 h) (fun h => absurd e1 h)))
    exact ⟨H.dr.mono L9, H.bo.mono L9, L9 _ _ he, hF.nd, hF.dep⟩
  · have d1 := decide_eq_false e1
    rw [d1] at ep np
    by_cases hx : x ∈ R
    · refine s_asg (ev_or ep (ev_cmp (ev_var rfl) (ev_var rfl) (cq_ni (t := true) (cq_ndd (decide_eq_true hx))))) (s_ite_f (ev_and_f (ev_var rfl)) (he_fin (f := f) (F' := F) ⟨_, H.bo.hi⟩ hq fun K k => sp_bind (d + 2) σ' i f F H.bo hF.nd hF.dep x T dT K (fun h => absurd h e1) (fun _ _ σ9 L9 => k σ9 ?_) (fun _ h => absurd ((hR x).mp hx) h)))
      exact ⟨H.dr.mono L9, H.bo.mono L9, L9 _ _ he, hF.nd, hF.dep⟩
    · have fl : (pd F).length ≤ sizeLine := by rw [pd_len]; exact Nat.le_trans (F_len hF.nd) (Nat.le_trans (by decide) line_20)
      refine s_asg (ev_or ep (ev_cmp (ev_var rfl) (ev_var rfl) (cq_ni (t := false) (cq_ndd (decide_eq_false hx))))) (s_ite_t (ev_and (ev_var rfl) np) (s_subD (x := T.d) (ev_var rfl) (ev_var rfl) (ev_var rfl) he fl (s_nil ?_)))
      rw [pd_put]
      have B : Bo (sput σ' e (.dict (pd (dputN F x T)))) i f F := ⟨by rw [sput_ne ei.symm]; exact H.bo.hi, by rw [sput_ne ef.symm]; exact H.bo.hf⟩
      refine he_fin (f := f) (F' := dputN F x T) ⟨_, B.hi⟩ hq fun K k => sp_bind (d + 2) _ i f F B hF.nd hF.dep x T dT K (fun h => absurd h e1) (fun _ h => absurd ((hR x).mpr h) hx) (fun _ _ σ9 L9 => k σ9 ?_)
      exact ⟨((H.dr.own eσ el _).own H.nf H.fl _).mono L9, B.step L9, L9 _ _ (by rw [sput_ne ef, sput_self]), dputN_keys hF.nd, dputN_dep hF.dep dT⟩
theorem he_mid (H : HR σ σ' l i f t F) (hF : HF [] F) (dT : T.dep ≤ 3) (hR : ∀ x, x ∈ R ↔ Rch F T x) (hq : ∀ σ', Drawn σ σ' l → Q (.d (.bool true)) σ') : awSs (Ct (d + 5)) b_law_held_right_12 (hfρ l i t o3 T R none none o10) σ' (Ret Q) := by
  obtain ⟨a, b, hs, hl⟩ := H.dr.has
  have fl : (pd F).length ≤ sizeLine := by rw [pd_len]; exact Nat.le_trans (F_len hF.nd) (Nat.le_trans (by decide) line_20)
  refine s_asgMw (eaR_cons (evR_call (ea2 (ev_var rfl) (ev_lst (ea_four ev_str ev_str ev_str ev_str) rfl)) (sp_law_one (d + 3) σ' l a b hl hs (nd [0, 1, 2, 3]) (show 1 ≤ 4 by decide) (show 4 ≤ 100 by decide) _ fun xd a8 b8 σ7 hxd hs8 L7 => ?_)))
  obtain ⟨x, hx, rfl⟩ := List.mem_map.mp hxd
  have H5 := H.drawn ((Drawn.self hl hs).step hs8 L7)
  refine eaR_cons (evR_dict (ev_found rfl H5.bo) H5.bo.hf fl fun e he => ea_nil ⟨rfl, ?_⟩)
  have H6 := H5.mono (Le.refl.put_new he (.dict (pd F)))
  have he6 : (sput σ7 e (.dict (pd F))) e = some (.dict (pd F)) := sput_self
  have hel : e ≠ l := fun h => by obtain ⟨_, _, _, h2⟩ := H5.dr.has; rw [h, h2] at he; exact nomatch he
  have hei : e ≠ i := fun h => by rw [h, H5.bo.hi] at he; exact nomatch he
  have hef : e ≠ f := fun h => by rw [h, H5.bo.hf] at he; exact nomatch he
  have het : e ≠ t := fun h => by rw [h, H5.ht] at he; exact nomatch he
  have heσ : σ e = none := by
    obtain ⟨_, _, _, L⟩ := H5.dr
    have := Le.none L he
    rwa [sput_ne hel] at this
  generalize sput σ7 e (.dict (pd F)) = σ8 at H6 he6 ⊢
  refine s_iteM (evR_or (evR_cmp (evR_meth rfl H6.bo.hi (ea2 (ev_var rfl) (ev_par (ev_var rfl))) (sp_bind (d + 2) σ8 i f F H6.bo hF.nd hF.dep x (.par x) (show 1 ≤ 3 by decide) _ (fun _ σ9 L9 => ev_bool _ ?_) (fun h => absurd rfl h) (fun h => absurd rfl h)))))
  have H7 := H6.mono L9
  have he7 := L9 _ _ he6
  refine .b rfl rfl ?_
  refine olk_f (al_last (ev_cmp (ev_found rfl H7.bo) (ev_var rfl) (cq_ne (t := true) (cq_dd H7.bo.hf he7 hF.nd hF.dep)) _ ?_))
  exact blk (ik_f (s_nil (he_end H7 he7 hF heσ hel hei hef het dT hR hq)))
theorem he_names (hF : HF [] F) (hR : ∀ x, x ∈ R ↔ Rch F T x) (dT : T.dep ≤ 3) {xs : List Nm} {ρ : Rho} {K Q : Fl → Rho → Sto → Prop} (h : LK σ l i f t F T R o10 (x :: xs) ρ σ') (k : Fk (LK σ l i f t F T R o10 xs) Q K) :
    awSs (Ct (d + 5)) b_law_held_right_5 (ρ.set 3 (some (.d (.str (nm x))))) σ' K := by
  cases h with
  | mk H =>
    obtain ⟨b, n, hr, hb⟩ := holds_ok hF.nd hF.dep dT x
    have eb : b = decide (x ∈ R) := by
      cases b with
      | true => exact (decide_eq_true ((hR x).mpr (hb.mp rfl))).symm
      | false => exact (decide_eq_false fun h => nomatch hb.mpr ((hR x).mp h)).symm
    refine s_iteM (evR_cmp (evR_meth rfl H.bo.hi (ea2 (ev_var rfl) (ev_var rfl)) (sp_holds_name (d + 3) σ' i f F H.bo T x b n hr _ fun σ7 L7 => ev_cmp (ev_var rfl) (ev_var rfl) (cq_ndd rfl) _ (cq_ne cq_bool _ ?_))))
    rw [eb, beq_self_eq_true]
    exact ik_f (s_nil (s_nil (k.nxt _ _ (.mk (H.mono L7)))))
theorem he_draw {xs : List Nm} {ρ : Rho} {K Q : Fl → Rho → Sto → Prop} (h : LH σ l i f t (x :: xs) ρ σ') (k : Fk (LH σ l i f t xs) Q K) : awSs (Ct (d + 5)) b_law_held_right_3 (ρ.set 3 (some (.d (.str (nm x))))) σ' K := by
  cases h with
  | @mk F o3 o10 _ H hF =>
    obtain ⟨a3, b3, hs3, hl3⟩ := H.dr.has
    have hn2 := List.nodup_cons.mp hF.lnd
    refine s_iteM (evR_cmp (evR_call (ea2 (ev_var rfl) ev_int) (sp_law_take (d + 4) σ' l a3 b3 hl3 hs3 3 (by decide) (by decide) _ fun m a4 b4 σ3 hk hs4 L3 => ev_int _ (.mk rfl rfl ?_))))
    have H1 := H.drawn ((Drawn.self hl3 hs3).step hs4 L3)
    show Ik _ _ _ _ _ _ (.d (.bool (decide ((m : Int) > 0)))) σ3
    by_cases k0 : m = 0
    · rw [decide_eq_false (by omega)]
      exact ik_f (s_nil (s_nil (k.nxt _ _ (.mk H1 ⟨hF.nd, fun z hz h => hF.out z hz (.tail _ h), hn2.2, hF.dep⟩))))
    · rw [decide_eq_true (by omega)]
      refine ik_t (s_asgR (ev_type (d := d + 1) (n := 1) (ns := [0, 1, 2, 3]) (by decide) (by decide) (by decide) rfl (ev_lst (ea_four ev_str ev_str ev_str ev_str) rfl) H1.dr.has fun T σ5 dT vT hd5 => ?_))
      have H3 := H1.drawn hd5
      have hxF : x ∉ F.map (·.1) := fun h => hF.out x h (.head _)
      have nF := keys_none hxF
      have l15 := F_len hF.nd
      have fl : (pd F).length ≤ sizeLine := by rw [pd_len]; exact Nat.le_trans l15 (Nat.le_trans (by decide) line_20)
      have fl2 : (td F).length ≤ sizeLine := by rw [td, List.length_map]; exact Nat.le_trans l15 (Nat.le_trans (by decide) line_20)
      have H4 := H3.put (F ++ [(x, T)])
      have ht5 : (sput σ5 f (.dict (pd (F ++ [(x, T)])))) t = some (.dict (td F)) := by rw [sput_ne H3.ft.symm]; exact H3.ht
      refine s_sub2 (ev_t0 (ev_var rfl)) (ev_t1 (ev_var rfl)) (ev_found rfl H3.bo) (ev_var rfl) H3.bo.hf fl ?_
      rw [pd_put, dputN_new nF]
      refine s_sub2b (ev_var rfl) (ev_var rfl) ht5 fl2 ?_
      rw [td_put nF]
      refine s_nil (s_nil (k.nxt _ _ (.mk H4 ⟨?_, ?_, hn2.2, ?_⟩)))
      · rw [List.map_append]; exact nodup_snoc hF.nd hxF
      · intro z hz h
        rw [List.map_append] at hz
        rcases List.mem_append.mp hz with hz | hz
        · exact hF.out z hz (.tail _ h)
        · have e : z = x := List.mem_singleton.mp hz
          exact hn2.1 (e ▸ h)
      · intro q hq2
        rcases List.mem_append.mp hq2 with hq2 | hq2
        · exact hF.dep q hq2
        · rw [List.mem_singleton.mp hq2]; exact Nat.le_succ_of_le dT
end
theorem sp_held_right (d : Nat) (σ : Sto) (l : Addr) (a b : Int) (hl : σ l = some (src a b)) (hs : SrcOk a b) (Q : AV → Sto → Prop) (hq : ∀ σ', Drawn σ σ' l → Q (.d (.bool true)) σ') : Ct (d + 6) "_law_held_right" [.loc l] σ Q := by
  refine enter tl_law_held_right rfl (s_asgMw (eaR_cons (evR_callK (ea_nil ?_))))
  refine Ct_both fun i f hi hf hif => ea_dct fun t ht => ea_nil ⟨rfl, ?_⟩
  have hil : i ≠ l := fun e => by rw [e, hl] at hi; exact nomatch hi
  have hfl : f ≠ l := fun e => by rw [e, hl] at hf; exact nomatch hf
  have hti : t ≠ i := fun e => by rw [e, sput_self] at ht; exact nomatch ht
  have htf : t ≠ f := fun e => by rw [e, sput_ne hif.symm, sput_self] at ht; exact nomatch ht
  rw [sput_ne hti, sput_ne htf] at ht
  have htl : t ≠ l := fun e => by rw [e, hl] at ht; exact nomatch ht
  have H0 : HR σ (sput (sput (sput σ f (.dict [])) i (.inst true [(Str.ofString "found", .loc f)])) t (.dict [])) l i f t [] := by
    refine ⟨((((Drawn.self hl hs).own hf hfl _).own hi hil _).own ht htl _), ⟨?_, ?_⟩, sput_self, hf, ht, hil, hfl, htl, htf.symm, hti.symm⟩
    · rw [sput_ne hti.symm, sput_self]
    · rw [sput_ne htf.symm, sput_ne hif.symm, sput_self]; rfl
  refine s_for1 (g := fun x => .str (nm x)) (l := [0, 1, 2]) (LH σ l i f t) (ev_lst (xs := nd [0, 1, 2]) (ea3 ev_str ev_str ev_str) rfl) rfl (.mk H0 ⟨.nil, fun _ h => (nomatch h), by decide, fun _ h => (nomatch h)⟩) (fun ρ σ2 h => ?_) fun x xs ρ σ2 h K k => he_draw h k
  cases h with
  | @mk F o3 o10 _ H hF =>
    refine s_asgTR (ev_type (d := d) (n := 2) (ns := [0, 1, 2, 3]) (by decide) (by decide) (by decide) rfl (ev_lst (ea_four ev_str ev_str ev_str ev_str) rfl) H.dr.has fun T σ4 dT vT hd4 => atk rfl ?_)
    have H2 := H.drawn hd4
    refine s_asgR (evR_call (ea2 (ev_var rfl) (ev_var rfl)) (sp_law_reached (d + 3) σ4 t F hF.nd hF.dep H2.ht T dT _ fun R σ5 hR L5 => ?_))
    refine s_for1 (g := fun x => .str (nm x)) (l := [0, 1, 2, 3]) (LK σ l i f t F T R o10) (ev_lst (xs := nd [0, 1, 2, 3]) (ea_four ev_str ev_str ev_str ev_str) rfl) rfl (.mk (H2.mono L5)) (fun ρ σ6 h => ?_) fun x xs ρ σ6 h K k => he_names hF hR dT h k
    cases h with
    | mk H4 => exact he_mid H4 hF dT hR hq
open Ty
noncomputable def subs : Ty → List Ty
  | .box a => .box a :: subs a
  | .arr a => .arr a :: subs a
  | .ref m a => .ref m a :: subs a
  | .tup a b => .tup a b :: (subs a ++ subs b)
  | .adt a b => .adt a b :: (subs a ++ subs b)
  | T => [T]
theorem subs_self (T : Ty) : T ∈ subs T := by cases T <;> simp [subs]
theorem subs_len (T : Ty) : (subs T).length = T.size := by
  induction T <;> simp [subs, Ty.size] <;> omega
theorem subs_ok (T : Ty) : ∀ S ∈ subs T, (∀ p ∈ S.parts, p ∈ subs T) ∧ S.dep ≤ T.dep ∧ ∀ x ∈ S.vars, x ∈ T.vars := by
  induction T with
  | box a ih =>
    intro S hS
    rcases List.mem_cons.mp hS with h | h
    · subst h; exact ⟨fun p hp => by simp [Ty.parts] at hp; subst hp; exact .tail _ (subs_self _), Nat.le_refl _, fun x hx => hx⟩
    · obtain ⟨h1, h2, h3⟩ := ih S h
      exact ⟨fun p hp => .tail _ (h1 p hp), by simp only [Ty.dep]; omega, h3⟩
  | arr a ih =>
    intro S hS
    rcases List.mem_cons.mp hS with h | h
    · subst h; exact ⟨fun p hp => by simp [Ty.parts] at hp; subst hp; exact .tail _ (subs_self _), Nat.le_refl _, fun x hx => hx⟩
    · obtain ⟨h1, h2, h3⟩ := ih S h
      exact ⟨fun p hp => .tail _ (h1 p hp), by simp only [Ty.dep]; omega, h3⟩
  | ref m a ih =>
    intro S hS
    rcases List.mem_cons.mp hS with h | h
    · subst h; exact ⟨fun p hp => by simp [Ty.parts] at hp; subst hp; exact .tail _ (subs_self _), Nat.le_refl _, fun x hx => hx⟩
    · obtain ⟨h1, h2, h3⟩ := ih S h
      exact ⟨fun p hp => .tail _ (h1 p hp), by simp only [Ty.dep]; omega, h3⟩
  | tup a b ia ib =>
    intro S hS
    rcases List.mem_cons.mp hS with h | h
    · subst h; exact ⟨fun p hp => by simp [Ty.parts] at hp; rcases hp with hp | hp <;> subst hp <;> simp [subs, subs_self], Nat.le_refl _, fun x hx => hx⟩
    · rcases List.mem_append.mp h with h | h
      · obtain ⟨h1, h2, h3⟩ := ia S h
        exact ⟨fun p hp => .tail _ (List.mem_append_left _ (h1 p hp)), by simp only [Ty.dep]; omega, fun x hx => by simp [Ty.vars, h3 x hx]⟩
      · obtain ⟨h1, h2, h3⟩ := ib S h
        exact ⟨fun p hp => .tail _ (List.mem_append_right _ (h1 p hp)), by simp only [Ty.dep]; omega, fun x hx => by simp [Ty.vars, h3 x hx]⟩
  | adt a b ia ib =>
    intro S hS
    rcases List.mem_cons.mp hS with h | h
    · subst h; exact ⟨fun p hp => by simp [Ty.parts] at hp; rcases hp with hp | hp <;> subst hp <;> simp [subs, subs_self], Nat.le_refl _, fun x hx => hx⟩
    · rcases List.mem_append.mp h with h | h
      · obtain ⟨h1, h2, h3⟩ := ia S h
        exact ⟨fun p hp => .tail _ (List.mem_append_left _ (h1 p hp)), by simp only [Ty.dep]; omega, fun x hx => by simp [Ty.vars, h3 x hx]⟩
      · obtain ⟨h1, h2, h3⟩ := ib S h
        exact ⟨fun p hp => .tail _ (List.mem_append_right _ (h1 p hp)), by simp only [Ty.dep]; omega, fun x hx => by simp [Ty.vars, h3 x hx]⟩
  | _ =>
    intro S hS
    simp [subs] at hS
    subst hS
    exact ⟨fun p hp => by simp [Ty.parts] at hp, Nat.le_refl _, fun x hx => hx⟩
noncomputable def VV : List Nm := [4, 5, 6, 7]
theorem uni_of {Ts : List Ty} (hl : Ts.length ≤ 5) (hT : ∀ T ∈ Ts, T.dep ≤ 3 ∧ ∀ x ∈ T.vars, x ∈ VV) : Uni VV (Ts.flatMap subs) := by
  refine ⟨fun S hS p hp => ?_, fun S hS => ?_, fun S hS x hx => ?_, ?_⟩
  · obtain ⟨T, h1, h2⟩ := List.mem_flatMap.mp hS
    exact List.mem_flatMap.mpr ⟨T, h1, (subs_ok T S h2).1 p hp⟩
  · obtain ⟨T, h1, h2⟩ := List.mem_flatMap.mp hS
    have := (subs_ok T S h2).2.1
    have := (hT T h1).1
    omega
  · obtain ⟨T, h1, h2⟩ := List.mem_flatMap.mp hS
    exact (hT T h1).2 x ((subs_ok T S h2).2.2 x hx)
  · have key : ∀ Ts : List Ty, (∀ T ∈ Ts, T.dep ≤ 3) → (Ts.flatMap subs).length ≤ Ts.length * 7 := by
      intro Ts
      induction Ts with
      | nil => simp
      | cons T Ts ih =>
        intro h
        have h1 := ih fun S hS => h S (.tail _ hS)
        have h2 := size_le7 (h T (.head _))
        rw [List.flatMap_cons, List.length_append, subs_len, List.length_cons]
        omega
    have := key Ts fun T h => (hT T h).1
    omega
theorem au_ok {V : List Nm} {U : List Ty} (UU : Uni V U) {R : Bool → Puts → Prop} : ∀ (E : Eqs) (F : Puts), FOk U F → (∀ e ∈ E, e.1 ∈ U ∧ e.2 ∈ U) → (∀ F', FOk U F' → (∀ θ, (Sat θ F ∧ Unif θ E) ↔ Sat θ F') → R true F') →
    ((∀ θ, ¬ (Sat θ F ∧ Unif θ E)) → ∀ F', FOk U F' → R false F') → AU R E F
  | [], F, O, hE, hT, hF => hT F O fun θ => ⟨fun h => h.1, fun h => ⟨h, fun p hp => nomatch hp⟩⟩
  | p :: E, F, O, hE, hT, hF => by
    have hl : U.length * U.length ≤ 2500 := Nat.mul_le_mul UU.len UU.len
    refine unify_run UU (F0 := F) (E0 := [p]) _ (fun F' O' h => ⟨fun _ => ?_, fun h => (nomatch h)⟩) (fun h F' O' => ⟨fun h => (nomatch h), fun _ => ?_⟩) (U.length * U.length * 3 + 1) [p] [] F (by simp) (by omega)
      ⟨O, fun e he => hE e (by simp at he; subst he; exact .head _), (fun e he => (nomatch he)), .nil, (fun e he => (nomatch he)), fun e he => .inl he, fun θ h1 h2 => ⟨h1, h2⟩, fun θ h => h⟩
    · refine au_ok UU E F' O' (fun e he => hE e (.tail _ he)) (fun F2 O2 h2 => hT F2 O2 fun θ => ?_) fun h2 F2 O2 => hF (fun θ hθ => ?_) F2 O2
      · rw [← h2 θ, ← h θ]
        obtain ⟨a, b⟩ := p
        simp only [unif_cons]
        constructor
        · rintro ⟨h1, h3, h4⟩; exact ⟨⟨h1, h3, fun p hp => (nomatch hp)⟩, h4⟩
        · rintro ⟨⟨h1, h3, _⟩, h4⟩; exact ⟨h1, h3, h4⟩
      · obtain ⟨a, b⟩ := p
        simp only [unif_cons] at hθ
        exact h2 θ ⟨(h θ).mp ⟨hθ.1, unif_cons.mpr ⟨hθ.2.1, fun p hp => (nomatch hp)⟩⟩, hθ.2.2⟩
    · refine hF (fun θ hθ => h θ ⟨hθ.1, ?_⟩) F' O'
      obtain ⟨a, b⟩ := p
      simp only [unif_cons] at hθ
      exact unif_cons.mpr ⟨hθ.2.1, fun p hp => (nomatch hp)⟩
theorem dep_le_ap (s : Sub) (T : Ty) : T.dep ≤ (T.ap s).dep := by
  induction T with
  | par x => have := dep_pos (s x); simpa [Ty.ap, Ty.dep] using this
  | _ => simp [Ty.ap, Ty.dep] <;> omega
theorem size_le_ap (s : Sub) (T : Ty) : T.size ≤ (T.ap s).size := by
  induction T with
  | par x => have := size_pos (s x); simpa [Ty.ap, Ty.size] using this
  | _ => simp [Ty.ap, Ty.size] <;> omega
theorem sum_le_ap (s : Sub) (Ts : List Ty) : (Ts.map Ty.size).sum ≤ ((Ts.map (·.ap s)).map Ty.size).sum := by
  induction Ts with
  | nil => simp
  | cons T Ts ih => have := size_le_ap s T; simp at ih ⊢; omega
end Mine
end
section
open PySem PySem.W PySem.Calls PyProof.Rows
namespace Mine
open Ty
theorem VV_len {g : List Nm} (h : g.Nodup) (hv : ∀ x ∈ g, x ∈ VV) : g.length ≤ 4 := nodup_len h hv
theorem W_low {U : List Ty} (UU : Uni VV U) {F : Puts} (O : FOk U F) (x : Nm) : (W F x).dep ≤ 16 := by
  have kV : ∀ y ∈ F.map (·.1), y ∈ VV := fun y hy => by
    obtain ⟨p, hp, rfl⟩ := List.mem_map.mp hy
    exact UU.vars _ (O.mem p hp).2 p.1 (by simp [Ty.vars])
  obtain ⟨rk, h1, _⟩ := O.acy
  let c : Nm → List Nm := fun y => (F.map (·.1)).filter fun z => decide (rk z < rk y)
  let rk' : Nm → Nat := fun y => if y ∈ F.map (·.1) then 1 + (c y).length else 0
  have cn : ∀ y, (c y).Nodup := fun y => O.nd.filter _
  have hr : Rk F rk' := by
    intro p hp y hy
    have hk : p.1 ∈ F.map (·.1) := List.mem_map.mpr ⟨p, hp, rfl⟩
    show (if y ∈ F.map (·.1) then 1 + (c y).length else 0) < (if p.1 ∈ F.map (·.1) then 1 + (c p.1).length else 0)
    rw [if_pos hk]
    by_cases hy2 : y ∈ F.map (·.1)
    · rw [if_pos hy2]
      have hlt := h1 p hp y hy
      have sub : ∀ z ∈ y :: c y, z ∈ c p.1 := by
        intro z hz
        rcases List.mem_cons.mp hz with hz | hz
        · subst hz; exact List.mem_filter.mpr ⟨hy2, decide_eq_true hlt⟩
        · obtain ⟨h2, h3⟩ := List.mem_filter.mp hz
          have := of_decide_eq_true h3
          exact List.mem_filter.mpr ⟨h2, decide_eq_true (by omega)⟩
      have nd : (y :: c y).Nodup := by
        rw [List.nodup_cons]
        exact ⟨fun h => by have := (List.mem_filter.mp h).2; simp at this, cn y⟩
      have := nodup_len nd sub
      rw [List.length_cons] at this
      omega
    · rw [if_neg hy2]; omega
  have hb : ∀ y, rk' y < 5 := by
    intro y
    show (if y ∈ F.map (·.1) then 1 + (c y).length else 0) < 5
    by_cases hy : y ∈ F.map (·.1)
    · rw [if_pos hy]
      have sub : ∀ z ∈ y :: c y, z ∈ VV := by
        intro z hz
        rcases List.mem_cons.mp hz with hz | hz
        · subst hz; exact kV z hy
        · exact kV z (List.mem_filter.mp hz).1
      have nd : (y :: c y).Nodup := by
        rw [List.nodup_cons]
        exact ⟨fun h => by have := (List.mem_filter.mp h).2; simp at this, cn y⟩
      have := VV_len nd sub
      rw [List.length_cons] at this
      omega
    · rw [if_neg hy]; omega
  have st : ∀ j, Wk F (5 + j) x = Wk F 5 x := by
    intro j
    induction j with
    | zero => rfl
    | succ j ih => rw [← Nat.add_assoc, Wk_stable hr _ _ (by have := hb x; omega), ih]
  have : W F x = Wk F 5 x := st 10
  rw [this]
  exact W_dep (fun p hp => UU.dep _ (O.mem p hp).1) 5 x
noncomputable def PS (E : Eqs) (o : Option Puts) : Prop := match o with
  | none => ∀ θ, ¬ Unif θ E
  | some P => (∃ L, Rob VV L [] P) ∧ ∀ θ, Unif θ E ↔ Sat θ P
noncomputable def AB (U : List Ty) (E : Eqs) (b : Bool) (F : Puts) : Prop := FOk U F ∧ (b = true → ∀ θ, Unif θ E ↔ Sat θ F) ∧ (b = false → ∀ θ, ¬ Unif θ E)
theorem solved_ok {ss os : List Ty} (hl : ss.length ≤ 2) (hS : ∀ T ∈ ss, T.dep ≤ 3 ∧ ∀ x ∈ T.vars, x ∈ VV) (hO : ∀ T ∈ os, T.dep ≤ 3 ∧ ∀ x ∈ T.vars, x ∈ VV) (R : Option Puts → Prop) (h : ∀ o, PS (ss.zip os) o → R o) : ∃ n, RRun VV R n (ss.zip os) [] := by
  have mem : ∀ p ∈ ss.zip os, p.1 ∈ ss ∧ p.2 ∈ os := fun p hp => List.of_mem_zip (a := p.1) (b := p.2) hp
  refine rob_run R 4 _ VV (ss.zip os) [] rfl rfl ⟨fun x hx => hx, by decide, by decide, fun p hp => ⟨(hS _ (mem p hp).1).2, (hO _ (mem p hp).2).2⟩, fun p hp => (nomatch hp), by simp, fun p hp => ⟨(hS _ (mem p hp).1).1, (hO _ (mem p hp).2).1⟩, fun p hp => (nomatch hp), ?_⟩
    (fun hn => h none fun θ hθ => hn θ ⟨fun p hp => (nomatch hp), hθ⟩) (fun L' P' B' hh => h (some P') ⟨⟨L', B'⟩, fun θ => by rw [← hh θ]; exact ⟨fun q => ⟨fun p hp => (nomatch hp), q⟩, fun q => q.2⟩⟩)
  show SB 6 (ss.zip os)
  match ss, os, hl, hS, hO with
  | [], _, _, _, _ => exact trivial
  | [a], [], _, _, _ => exact trivial
  | [a], b :: os, _, hS, hO =>
    have h1 := (hS a (.head _)).1
    have h2 := (hO b (.head _)).1
    refine ⟨⟨?_, ?_⟩, trivial⟩ <;> simp <;> omega
  | [a, a'], [], _, _, _ => exact trivial
  | [a, a'], [b], _, hS, hO =>
    have h1 := (hS a (.head _)).1
    have h2 := (hO b (.head _)).1
    refine ⟨⟨?_, ?_⟩, trivial⟩ <;> simp <;> omega
  | [a, a'], b :: b' :: os, _, hS, hO =>
    have h1 := (hS a (.head _)).1
    have h2 := (hO b (.head _)).1
    have h3 := (hS a' (.tail _ (.head _))).1
    have h4 := (hO b' (.tail _ (.head _))).1
    refine ⟨⟨?_, ?_⟩, ⟨?_, ?_⟩, trivial⟩ <;> simp <;> omega
theorem fok_nil (U : List Ty) : FOk U [] := ⟨by simp, acy_nil, fun p hp => (nomatch hp)⟩
theorem sat_nil (θ : Sub) : Sat θ [] := fun p hp => (nomatch hp)
theorem both_ok2 {ss os : List Ty} {U : List Ty} (UU : Uni VV U) (hU : ∀ T ∈ ss ++ os, T ∈ U) (R : Bool → Puts → Prop) (h : ∀ b F, AB U (ss.zip os) b F → R b F) : AU R (ss.zip os) [] := by
  have mem : ∀ p ∈ ss.zip os, p.1 ∈ ss ∧ p.2 ∈ os := fun p hp => List.of_mem_zip (a := p.1) (b := p.2) hp
  refine au_ok UU (ss.zip os) [] (fok_nil U) (fun e he => ⟨hU _ (List.mem_append_left _ (mem e he).1), hU _ (List.mem_append_right _ (mem e he).2)⟩) (fun F' O' hh => h true F' ⟨O', fun _ θ => ?_, fun hb => (nomatch hb)⟩) fun hh F' O' => h false F' ⟨O', fun hb => (nomatch hb), fun _ θ hθ => hh θ ⟨sat_nil θ, hθ⟩⟩
  rw [← hh θ]
  exact ⟨fun q => ⟨sat_nil θ, q⟩, fun q => q.2⟩
theorem agree {U : List Ty} {E : Eqs} {b : Bool} {F : Puts} {o : Option Puts} (hA : AB U E b F) (hP : PS E o) : b = o.isSome := by
  cases o with
  | none =>
    cases b with
    | false => rfl
    | true => exact absurd ((hA.2.1 rfl _).mpr (W_own hA.1.acy hA.1.nd)) (hP _)
  | some P =>
    cases b with
    | true => rfl
    | false =>
      obtain ⟨⟨L, B⟩, h⟩ := hP
      exact absurd ((h _).mpr (tau_sat B)) (hA.2.2 rfl _)
theorem low_VV : ∀ x ∈ VV, low x := by unfold low; decide
structure Fin4 (Ts : List Ty) : Prop where
  dep : ∀ T ∈ Ts, T.dep ≤ 100
  sum : (Ts.map Ty.size).sum ≤ 2 ^ 20
  len : Ts.length ≤ 100
  once : (once (Ts.flatMap Ty.vars)).length ≤ 4
theorem final_ok {ss os : List Ty} {U : List Ty} (UU : Uni VV U) (hU : ∀ T ∈ ss ++ os, T ∈ U) (hl : ss.length ≤ 2) (hlo : ss.length = os.length) {F P : Puts} (hA : AB U (ss.zip os) true F) (hP : PS (ss.zip os) (some P)) :
    lined (ss.map (·.ap (W F))) = lined (ss.map (plug P)) ∧ os.map (·.ap (W F)) = ss.map (·.ap (W F)) ∧ Fin4 (ss.map (·.ap (W F))) ∧ Fin4 (ss.map (plug P)) := by
  obtain ⟨O, hA1, _⟩ := hA
  obtain ⟨⟨L, B⟩, hP1⟩ := hP
  have hA2 := hA1 rfl
  have w1 : Sat (W F) F := W_own O.acy O.nd
  have w2 : Sat (W F) P := (hP1 _).mp ((hA2 _).mpr w1)
  have t1 : Sat (tau P) P := tau_sat B
  have t2 : Sat (tau P) F := (hA2 _).mp ((hP1 _).mpr t1)
  have sV : ∀ T ∈ ss, T.dep ≤ 3 ∧ ∀ x ∈ T.vars, x ∈ VV := fun T hT => ⟨UU.dep _ (hU T (List.mem_append_left _ hT)), UU.vars _ (hU T (List.mem_append_left _ hT))⟩
  have hB : ss.map (plug P) = (ss.map (·.ap (W F))).map (·.ap (tau P)) := by
    rw [List.map_map]
    refine List.map_congr_left fun T _ => ?_
    show plug P T = (T.ap (W F)).ap (tau P)
    rw [plug_ap, W_sat t2]
  have hAs : ss.map (·.ap (W F)) = (ss.map (plug P)).map (·.ap (W F)) := by
    rw [List.map_map]
    refine List.map_congr_left fun T _ => ?_
    show T.ap (W F) = (plug P T).ap (W F)
    rw [plug_sat w2]
  have vA : ∀ T ∈ ss.map (·.ap (W F)), ∀ x ∈ T.vars, x ∈ VV := by
    intro T hT x hx
    obtain ⟨S, hS, rfl⟩ := List.mem_map.mp hT
    obtain ⟨y, h1, h2⟩ := vars_ap hx
    exact W_vars (fun p hp z hz => UU.vars _ (O.mem p hp).1 z hz) 15 y ((sV S hS).2 y h1) x h2
  have vB : ∀ T ∈ ss.map (plug P), ∀ x ∈ T.vars, x ∈ VV := by
    intro T hT x hx
    obtain ⟨S, hS, rfl⟩ := List.mem_map.mp hT
    exact plug_vars (fun p hp z hz => B.lv z ((B.vP p hp).2 z hz)) (sV S hS).2 x hx
  have dA : ∀ T ∈ ss.map (·.ap (W F)), T.dep ≤ 18 := by
    intro T hT
    obtain ⟨S, hS, rfl⟩ := List.mem_map.mp hT
    have := dep_ap (s := W F) (T := S) (D := 15) fun x _ => W_low UU O x
    have := (sV S hS).1
    omega
  have sA : ((ss.map (·.ap (W F))).map Ty.size).sum ≤ 2 ^ 20 := by
    have key : ∀ Ts : List Ty, (∀ T ∈ Ts, T.dep ≤ 18) → (Ts.map Ty.size).sum ≤ Ts.length * 2 ^ 18 := by
      intro Ts
      induction Ts with
      | nil => simp
      | cons T Ts ih =>
        intro h
        have h1 := ih fun S hS => h S (.tail _ hS)
        have h2 := size_dep T
        have h3 : 2 ^ T.dep ≤ 2 ^ 18 := Nat.pow_le_pow_right (by omega) (h T (.head _))
        rw [List.map_cons, List.sum_cons, List.length_cons]
        omega
    have := key _ dA
    rw [List.length_map] at this
    omega
  have oA : ∀ Ts : List Ty, (∀ T ∈ Ts, ∀ x ∈ T.vars, x ∈ VV) → (Mine.once (Ts.flatMap Ty.vars)).length ≤ 4 := fun Ts h => VV_len (once_nodup .nil) fun x hx => by
    have : x ∈ Ts.flatMap Ty.vars := by simpa [Mine.once, once_mem] using hx
    obtain ⟨T, h1, h2⟩ := List.mem_flatMap.mp this
    exact h T h1 x h2
  refine ⟨lined_eq hB hAs (fun T hT x hx => low_VV x (vA T hT x hx)) (fun T hT x hx => low_VV x (vB T hT x hx)), ?_, ⟨fun T hT => by have := dA T hT; omega, sA, by simp; omega, oA _ vA⟩, ⟨fun T hT => ?_, ?_, by simp; omega, oA _ vB⟩⟩
  · exact ((zip_ap hlo).mpr ((hA2 _).mpr w1)).symm
  · obtain ⟨S, hS, rfl⟩ := List.mem_map.mp hT
    have h1 := dep_le_ap (W F) (plug P S)
    rw [plug_sat w2] at h1
    have := dA _ (List.mem_map.mpr ⟨S, hS, rfl⟩)
    omega
  · have := sum_le_ap (W F) (ss.map (plug P))
    rw [← hAs] at this
    omega
end Mine
end
section
open PySem PySem.W PySem.Calls PyProof.Rows
namespace Mine
theorem tl_law_unified_right : tab.lookup (Str.ofString "_law_unified_right") = some ⟨p_law_unified_right, l_law_unified_right, b_law_unified_right⟩ := by kernel_rfl
theorem cgo_whole {d : Nat} {i f : Addr} {F : Puts} (hF : (F.map (·.1)).Nodup) (dF : ∀ p ∈ F, p.2.dep ≤ 3) (ha : Acy F) {ρ : Rho} (h3 : ρ[3]? = some (some (.ins i))) {Q : List PyData → Sto → Prop} {σ0 : Sto} : ∀ (Ts : List Ty) (acc : List PyData) (o : Option AV) (σ : Sto), (∀ T ∈ Ts, T.dep ≤ 3) → acc.length + Ts.length ≤ 1000 → Bo σ i f F → Le σ0 σ →
    (∀ σ', Le σ0 σ' → Q (acc ++ (Ts.map (·.ap (W F))).map Ty.d) σ') → cgo (.one 0) (awE (Ct (d + 4)) (.meth 4 "whole" (.cons (.var 0) .nil))) (awE (Ct (d + 4)) (.bool true)) (Ts.map Ty.d) (o :: ρ) σ acc Q
  | [], acc, o, σ, hT, hn, B, L, q => by
    have q := q σ L
    rw [List.map_nil, List.map_nil, List.append_nil] at q
    exact q
  | T :: Ts, acc, o, σ, hT, hn, B, L, q => by
    rw [List.length_cons] at hn
    refine cgo_step (ρ' := some (.d T.d) :: ρ) rfl (ev_bool _ (evR_meth h3 B.hi (ea1 (ev_var rfl)) (sp_whole d σ i f F B hF dF ha T (hT T (.head _)) _ fun σ' L' => ⟨Nat.le_trans (Nat.le_trans (Nat.add_le_add_left (Nat.succ_pos Ts.length) _) hn) (Nat.le_trans (by decide) line_20), ?_⟩)))
    refine cgo_whole hF dF ha h3 Ts _ _ σ' (fun S h => hT S (.tail _ h)) (by rw [List.length_append, List.length_cons, List.length_nil]; omega) (B.mono L') (L.trans L') fun σ2 L2 => ?_
    rw [List.append_assoc]
    exact q σ2 L2
theorem evR_whole {d k : Nat} {i f : Addr} {F : Puts} (hF : (F.map (·.1)).Nodup) (dF : ∀ p ∈ F, p.2.dep ≤ 3) (ha : Acy F) {ρ : Rho} (h3 : ρ[3]? = some (some (.ins i))) {σ : Sto} (B : Bo σ i f F) {z : Str} {Ts : List Ty} (hk : ρ[k]? = some (some (.d (.list (Ts.map Ty.d))))) (hT : ∀ T ∈ Ts, T.dep ≤ 3) (hl : Ts.length ≤ 100) {K : AV → Sto → Prop}
    (q : ∀ σ', Le σ σ' → K (.d (.list ((Ts.map (·.ap (W F))).map Ty.d))) σ') : awE (Ct (d + 4)) (.comp false (.meth 4 "whole" (.cons (.var 0) .nil)) (.one 0) [z] (.var k) (.bool true)) ρ σ K := by
  refine evR_comp (ev_var hk _ ?_)
  exact cgo_whole hF dF ha h3 Ts [] none σ hT (by rw [List.length_nil]; omega) B Le.refl q
theorem lineup_dep : ∀ (u : List Nm) (k : Nat) (ts : List Ty), (∀ T ∈ ts, T.dep ≤ 200) → ∀ T ∈ lineup k u ts, T.dep ≤ 200
  | [], k, ts, h => h
  | x :: u, k, ts, h => lineup_dep u (k + 1) _ fun S hS => by
    obtain ⟨S0, h0, rfl⟩ := List.mem_map.mp hS
    exact put_dep1 (h S0 h0)
noncomputable abbrev urρ (l i : Addr) (ss os : List Ty) (P : Puts) (o5 o6 o7 o8 : Option AV) : Rho := [some (.loc l), some (.d (.list (ss.map Ty.d))), some (.d (.list (os.map Ty.d))), some (.ins i), some (.d (.list (pts P))), o5, o6, o7, o8]
inductive LU (l i : Addr) (ss os : List Ty) (P : Puts) (σ : Sto) : Puts → Rho → Sto → Prop
  | mk {P' : Puts} {ts : List Ty} {o6 o7 : Option AV} (h : ts.map (plug P') = ss.map (plug P)) : LU l i ss os P σ P' (urρ l i ss os P (some (.d (.list (ts.map Ty.d)))) o6 o7 none) σ
section
variable {d : Nat} {σ : Sto} {l i f : Addr} {ss os U : List Ty} {F P : Puts} {Q : AV → Sto → Prop}
theorem ur_put {p : Nm × Ty} {P' : Puts} {ρ : Rho} {K Q : Fl → Rho → Sto → Prop} (hl : ss.length ≤ 2) (F2 : Fin4 (ss.map (plug P))) (h : LU l i ss os P σ (p :: P') ρ σ) (k : Fk (LU l i ss os P σ P') Q K) :
    awSs (Ct (d + 102)) b_law_unified_right_4 ((ρ.set 6 (some (.d (.str (nm p.1))))).set 7 (some (.d p.2.d))) σ K := by
  cases h with
  | @mk ts o6 o7 h =>
    have tl : ts.length ≤ 2 := by
      have := congrArg List.length h
      rw [List.length_map, List.length_map] at this
      rw [this]; exact hl
    have tD : ∀ S ∈ ts, S.dep ≤ 100 := fun S hS => by
      have h1 := dep_le_ap (tau (p :: P')) S
      rw [← plug_ap] at h1
      exact Nat.le_trans h1 (F2.dep (plug (p :: P') S) (h ▸ List.mem_map.mpr ⟨S, hS, rfl⟩))
    refine s_asg (ev_compE (g := Ty.d) (h := fun T => (put T p.1 p.2).d) (ys := (ts.map fun T => put T p.1 p.2).map Ty.d) (ev_var rfl) rfl (fun S hS => ev_call (ea3 (ev_var rfl) (ev_var rfl) (ev_var rfl)) fun Q q => sp_law_put p.1 p.2 S (d + 101) σ Q (Nat.le_trans (tD S hS) (Nat.le_trans (by decide) (Nat.le_add_left 101 d))) (Nat.le_trans (tD S hS) (by decide)) q) (Nat.le_trans tl two_line) List.map_map.symm) (s_nil (k.nxt _ _ (.mk ?_)))
    rw [← h, List.map_map]
    rfl
theorem ur_some (d : Nat) (σ : Sto) (l : Addr) (ss os : List Ty) (U : List Ty) (UU : Uni VV U) (hU : ∀ T ∈ ss ++ os, T ∈ U) (hl : ss.length ≤ 2) (hlo : ss.length = os.length) (F P : Puts) (hA : AB U (ss.zip os) true F) (hP : PS (ss.zip os) (some P)) (i f : Addr) (B : Bo σ i f F)
    (Q : AV → Sto → Prop) (hq : ∀ σ', Le σ σ' → Q (.d (.bool true)) σ') :
    awSs (Ct (d + 102)) b_law_unified_right_8 (urρ l i ss os P none none none none) σ (Ret Q) := by
  obtain ⟨hlin, hos, F1, F2⟩ := final_ok UU hU hl hlo hA hP
  have sD : ∀ T ∈ ss, T.dep ≤ 3 := fun T hT => UU.dep _ (hU T (List.mem_append_left _ hT))
  have oD : ∀ T ∈ os, T.dep ≤ 3 := fun T hT => UU.dep _ (hU T (List.mem_append_right _ hT))
  have dF : ∀ p ∈ F, p.2.dep ≤ 3 := fun p hp => UU.dep _ (hA.1.mem p hp).1
  refine s_asg (ev_var rfl) (s_forR (ev_var rfl _ (for2 (g := fun p : Nm × Ty => .str (nm p.1)) (g' := fun p => p.2.d) (l := P) (LU l i ss os P σ) rfl (.mk rfl) (fun ρ σ3 h => ?_) fun p P' ρ σ3 h K k => ?_)))
  · cases h with
    | @mk ts o6 o7 h =>
      have e : ts = ss.map (plug P) := by
        rw [← h, show plug [] = id by funext T; rfl, List.map_id]
      rw [e]
      refine s_asgR (evR_whole (d := d + 98) hA.1.nd dF hA.1.acy rfl B rfl sD (Nat.le_trans hl (by decide)) fun σ4 L4 => ?_)
      refine s_retR (evR_and (evR_cmp (evR_call (ea1 (ev_var rfl)) (sp_law_lined d σ4 _ F1.dep F1.sum F1.len F1.once _ fun σ5 L5 => evR_call (ea1 (ev_var rfl)) (sp_law_lined d σ5 _ F2.dep F2.sum F2.len F2.once _ fun σ6 L6 => ?_)))))
      rw [hlin]
      have dl := lineup_dep (once ((ss.map (plug P)).flatMap Ty.vars)) 0 _ fun T hT => Nat.le_trans (F2.dep T hT) (by decide)
      refine cq_tys dl dl _ ?_
      rw [decide_eq_true rfl]
      refine alk_t (al_last (evR_cmp (evR_whole (d := d + 98) hA.1.nd dF hA.1.acy rfl (B.mono (L4.trans (L5.trans L6))) rfl oD (by rw [← hlo]; exact Nat.le_trans hl (by decide)) fun σ7 L7 => ev_var rfl _ ?_)))
      rw [hos]
      have da : ∀ T ∈ ss.map (·.ap (W F)), T.dep ≤ 200 := fun T hT => Nat.le_trans (F1.dep T hT) (by decide)
      refine cq_tys da da _ ?_
      rw [decide_eq_true rfl]
      exact blk ⟨σ7, Le.refl, hq σ7 (L4.trans (L5.trans (L6.trans L7)))⟩
  · have e : σ3 = σ := by cases h; rfl
    rw [e] at h ⊢
    exact ur_put hl F2 h k
end
theorem isQ_out (o : Option Puts) (Q : Bool → Prop) (q : Q o.isNone) : isQ (.d (out o)) (.d .none) Q := by
  cases o with
  | none => exact .n rfl rfl q
  | some P => exact .l rfl rfl q
section
variable {d : Nat} {σ0 σ : Sto} {l i f : Addr} {ss os U : List Ty} {Q : AV → Sto → Prop}
noncomputable abbrev usρ (l i : Addr) (ss os : List Ty) (o : Option Puts) : Rho := [some (.loc l), some (.d (.list (ss.map Ty.d))), some (.d (.list (os.map Ty.d))), some (.ins i), some (.d (out o)), none, none, none, none]
theorem ur_all {o : Option Puts} (B : Bo σ i f []) (hl : ss.length ≤ 2) (hlo : os.length ≤ 3) (h1 : ss.length ≠ os.length → o = none) (h2 : ss.length = os.length → PS (ss.zip os) o) (UU : Uni VV U) (hU : ∀ T ∈ ss ++ os, T ∈ U) (hd : ∀ σ', (∃ F, Le (sput σ f (.dict (pd F))) σ') → Drawn σ0 σ' l) (hq : ∀ σ', Drawn σ0 σ' l → Q (.d (.bool true)) σ') :
    awSs (Ct (d + 102)) b_law_unified_right_10 (usρ l i ss os o) σ (Ret Q) := by
  have last : ∀ (b : Bool) (σ3 : Sto), b = o.isSome → Drawn σ0 σ3 l → awSs (Ct (d + 102)) b_law_unified_right_9 (usρ l i ss os o) σ3 (Ret Q) → cmpQ .NotEq σ3 (.d (.bool b)) (.d (.bool (!o.isNone))) fun r => Ik (Ct (d + 102)) b_law_unified_right_2 .nil b_law_unified_right_9 (usρ l i ss os o) (Ret Q) (.d (.bool r)) σ3 := fun b σ3 e _ k => by
    refine cq_ne cq_bool _ ?_
    rw [e, show (!(o.isSome == !o.isNone)) = false by cases o <;> rfl]
    exact ik_f (s_nil k)
  refine s_iteM (evR_cmp (evR_meth rfl B.hi (ea2 (ev_var rfl) (ev_var rfl)) (sp_all_unified (d + 97) σ i f [] B ss os (Nat.le_trans hl (by decide)) (Nat.le_trans hlo (by decide)) _ (fun e σ3 L3 => ?_) fun e => both_ok2 UU hU _ fun b F hA σ3 L3 => ?_)))
  · have ho := h1 e
    have hd3 := hd σ3 ⟨[], by rw [sput_same B.hf]; exact L3⟩
    refine ev_nisn (t := o.isNone) (ev_var rfl) (isQ_out o) _ (last false σ3 (by rw [ho]; rfl) hd3 ?_)
    exact s_ite_t (ev_isn (ev_var rfl) fun Q q => isQ_out o Q (by rw [ho]; exact q)) (s_ret ev_bool ⟨σ3, Le.refl, hq σ3 hd3⟩)
  · have hd3 := hd σ3 ⟨F, L3⟩
    have hb := agree hA (h2 e)
    refine ev_nisn (t := o.isNone) (ev_var rfl) (isQ_out o) _ (last b σ3 hb hd3 ?_)
    cases o with
    | none => exact s_ite_t (ev_isn (ev_var rfl) (isQ_out none)) (s_ret ev_bool ⟨σ3, Le.refl, hq σ3 hd3⟩)
    | some P =>
      have hb : b = true := hb
      rw [hb] at hA
      exact s_ite_f (ev_isn (ev_var rfl) (isQ_out (some P))) (ur_some d σ3 l ss os U UU hU hl e F P hA (h2 e) i f (B.step L3) Q fun σ4 L4 => hq σ4 (hd3.mono L4))
end
theorem ur_rest (d : Nat) (σ0 σ : Sto) (l c : Addr) (ss os : List Ty) (hd : Drawn σ0 σ l) (hc0 : σ0 c = none) (hcl : c ≠ l) (hc : σ c = some (.list (os.map Ty.d))) (hl : ss.length ≤ 2) (hlo : os.length ≤ 3)
    (hS : ∀ T ∈ ss, T.dep ≤ 3 ∧ ∀ x ∈ T.vars, x ∈ VV) (hO : ∀ T ∈ os, T.dep ≤ 3 ∧ ∀ x ∈ T.vars, x ∈ VV) (Q : AV → Sto → Prop) (hq : ∀ σ', Drawn σ0 σ' l → Q (.d (.bool true)) σ') :
    awSs (Ct (d + 102)) b_law_unified_right_12 [some (.loc l), some (.d (.list (ss.map Ty.d))), some (.loc c), none, none, none, none, none, none] σ (Ret Q) := by
  have hd1 : Drawn σ0 (scut σ c) l := by
    obtain ⟨a, b, h1, L⟩ := hd
    exact ⟨a, b, h1, L.cut_new (by rw [sput_ne hcl]; exact hc0)⟩
  refine s_frz rfl hc (s_asgMw (eaR_cons (evR_callK (ea_nil ?_))))
  generalize scut σ c = σ1 at hd1 ⊢
  refine Ct_both fun i f hi hf hif => ?_
  have B : Bo (sput (sput σ1 f (.dict [])) i (.inst true [(Str.ofString "found", .loc f)])) i f [] := ⟨sput_self, by rw [sput_ne hif.symm, sput_self]; rfl⟩
  have hd2 : Drawn σ0 (sput (sput σ1 f (.dict [])) i (.inst true [(Str.ofString "found", .loc f)])) l := (hd1.new hf _).new (by rw [sput_ne hif]; exact hi) _
  have hfl : f ≠ l := fun h => by obtain ⟨_, _, _, h2⟩ := hd1.has; rw [h, h2] at hf; exact nomatch hf
  have hf0 : σ0 f = none := by
    obtain ⟨_, _, _, L⟩ := hd1
    have := Le.none L hf
    rwa [sput_ne hfl] at this
  generalize sput (sput σ1 f (.dict [])) i (.inst true [(Str.ofString "found", .loc f)]) = σ2 at B hd2 ⊢
  have hSO : ∀ T ∈ ss ++ os, T.dep ≤ 3 ∧ ∀ x ∈ T.vars, x ∈ VV := fun T hT => (List.mem_append.mp hT).elim (hS T) (hO T)
  have UU := uni_of (Ts := ss ++ os) (by rw [List.length_append]; exact Nat.add_le_add hl hlo) hSO
  have hU : ∀ T ∈ ss ++ os, T ∈ (ss ++ os).flatMap subs := fun T hT => List.mem_flatMap.mpr ⟨T, hT, subs_self T⟩
  have fini : ∀ o, (ss.length ≠ os.length → o = none) → (ss.length = os.length → PS (ss.zip os) o) → awSs (Ct (d + 102)) b_law_unified_right_10 (usρ l i ss os o) σ2 (Ret Q) := fun o h1 h2 => ur_all B hl hlo h1 h2 UU hU (fun σ' ⟨F, L⟩ => (hd2.own hf0 hfl _).mono L) hq
  have lens : ∀ {t : Bool}, ((((ss.map Ty.d).length : Nat) : Int) == (((os.map Ty.d).length : Nat) : Int)) = t → Ev (Ct (d + 102)) [some (.loc l), some (.d (.list (ss.map Ty.d))), some (.d (.list (os.map Ty.d))), none, none, none, none, none, none] σ2 (.cmp .Eq (.bi .len (.cons (.var 1) .nil)) (.bi .len (.cons (.var 2) .nil))) (.d (.bool t)) σ2 :=
    fun h => ev_eqi (ev_lenL (ev_var rfl) (by rw [List.length_map]; exact Nat.le_trans hl (by decide))) (ev_lenL (ev_var rfl) (by rw [List.length_map]; exact Nat.le_trans hlo (by decide))) h
  rw [List.length_map, List.length_map] at lens
  by_cases e : ss.length = os.length
  · refine eaR_cons (evR_ite_t (lens (by rw [e, beq_self_eq_true])) (evR_call (ea1 (ev_lzip (ev_var rfl) (ev_var rfl) rfl rfl rfl (by rw [List.length_map]; exact Nat.le_trans hl two_line))) ?_))
    rw [zips_tys]
    obtain ⟨n, hr⟩ := solved_ok hl hS hO (fun o => awEs (Ct (d + 102)) .nil [some (.loc l), some (.d (.list (ss.map Ty.d))), some (.d (.list (os.map Ty.d))), none, none, none, none, none, none] σ2 fun vs σ' => (AV.ins i :: AV.d (out o) :: vs).length = ([3, 4] : List Nat).length ∧ awSs (Ct (d + 102)) b_law_unified_right_10 (setAll [some (.loc l), some (.d (.list (ss.map Ty.d))), some (.d (.list (os.map Ty.d))), none, none, none, none, none, none] [3, 4] (AV.ins i :: AV.d (out o) :: vs)) σ' (Ret Q))
      fun o hP => ea_nil ⟨rfl, fini o (fun h => absurd e h) fun _ => hP⟩
    exact sp_law_solved d σ2 VV (ss.zip os) n _ hr
  · refine ea_cons (ev_ite_f (lens (beq_false_of_ne fun h => e (Int.ofNat_inj.mp h))) ev_none) (ea_nil ⟨rfl, fini none (fun _ => rfl) fun h => absurd h e⟩)
theorem rows_ok {ns : List Nm} {Ts : List Ty} (h : RowsOk 2 ns Ts) (hn : ∀ x ∈ ns, x ∈ VV) : ∀ T ∈ Ts, T.dep ≤ 3 ∧ ∀ x ∈ T.vars, x ∈ VV := fun T hT => ⟨h.dep T hT, fun x hx => hn x (h.var T hT x hx)⟩
theorem sp_unified_right (d : Nat) (σ : Sto) (l : Addr) (a b : Int) (hl : σ l = some (src a b)) (hs : SrcOk a b) (Q : AV → Sto → Prop) (hq : ∀ σ', Drawn σ σ' l → Q (.d (.bool true)) σ') : Ct (d + 103) "_law_unified_right" [.loc l] σ Q := by
  refine enter tl_law_unified_right rfl (s_asgR (evR_compR (evR_bin ev_int (evR_call (ea2 (ev_var rfl) ev_int) (sp_law_take (d + 101) σ l a b hl hs 2 (by decide) (by decide) _ fun k a1 b1 σ1 hk hs1 L1 => bq_i ?_)))))
  have hd1 := (Drawn.self hl hs).step hs1 L1
  obtain ⟨a2, b2, hs2, hl2⟩ := hd1.has
  rw [show (1 : Int) + (k : Nat) = ((1 + k : Nat) : Int) by omega]
  refine crk (ns := [4, 5]) (l := l) (n := 2) (g := Ty.d) (by omega) (.self hl2 hs2) (fun o σ5 hd5 K hK => evR_idxR (ev_type (d := d + 97) (n := 2) (ns := [4, 5]) (by decide) (by decide) (by decide) rfl (ev_lst (ea2 ev_str ev_str) rfl) hd5.has fun T σ7 q1 q2 q3 => idk_t0 (hK T σ7 q1 q2 q3))) fun ss σ2 hlen hS hd2 => ?_
  have hd3 := hd1.trans hd2
  obtain ⟨a3, b3, hs3, hl3⟩ := hd3.has
  have ssl : ss.length ≤ 2 := by omega
  refine s_asgR (evR_compT (ev_var rfl _ (cgo_rows (ns := [6, 7]) (l := l) (n := 2) (g := Ty.d) (σ0 := σ2) (fun o σ5 hd5 K hK => evR_idxR (ev_type (d := d + 97) (n := 2) (ns := [6, 7]) (by decide) (by decide) (by decide) rfl (ev_lst (ea2 ev_str ev_str) rfl) hd5.has fun T σ7 q1 q2 q3 => idk_t0 (hK T σ7 q1 q2 q3))) (ss.map Ty.d) [] none σ2 (by rw [List.length_map, List.length_nil]; omega) (.self hl3 hs3) .nil fun os σ3 hlen2 hO hd4 c hc => ?_)))
  have hd5 := hd3.trans hd4
  have osl : os.length ≤ 2 := by rw [List.length_map, List.length_nil] at hlen2; omega
  have hcl : c ≠ l := fun h => by obtain ⟨_, _, _, h2⟩ := hd5.has; rw [h, h2] at hc; exact nomatch hc
  have hc0 : σ c = none := by
    obtain ⟨_, _, _, L⟩ := hd5
    have := Le.none L hc
    rwa [sput_ne hcl] at this
  have hd6 := hd5.new hc (.list (os.map Ty.d))
  have hc6 : (sput σ3 c (.list (os.map Ty.d))) c = some (.list (os.map Ty.d)) := sput_self
  generalize sput σ3 c (.list (os.map Ty.d)) = σ4 at hd6 hc6 ⊢
  obtain ⟨a6, b6, hs6, hl6⟩ := hd6.has
  refine s_iteM (evR_cmp (evR_call (ea2 (ev_var rfl) ev_int) (sp_law_take (d + 101) σ4 l a6 b6 hl6 hs6 8 (by decide) (by decide) _ fun k2 a7 b7 σ5 hk2 hs7 L7 => ev_int _ (cq_int _ ?_))))
  have hd7 := hd6.step hs7 L7
  have hc7 := ((Drawn.self hl6 hs6).step hs7 L7).at hcl hc6
  have sV := rows_ok hS (by decide)
  have oV := rows_ok hO (by decide)
  cases (((k2 : Nat) : Int) == 0) with
  | true =>
    refine ik_t (s_expr (ev_app rfl hc7 (ev_tup1 ev_str) (by rw [List.length_map]; exact Nat.le_trans osl two_line)) (s_nil ?_))
    refine ur_rest d σ _ l c ss (os ++ [Ty.bool]) (hd7.own hc0 hcl _) hc0 hcl (sput_self.trans ?_) ssl (by rw [List.length_append]; exact Nat.add_le_add_right osl 1) sV (fun T hT => ?_) Q hq
    · rw [List.map_append]; rfl
    · rcases List.mem_append.mp hT with h | h
      · exact oV T h
      · rw [List.mem_singleton.mp h]; exact ⟨show 1 ≤ 3 by decide, fun x hx => nomatch hx⟩
  | false => exact ik_f (s_nil (ur_rest d σ _ l c ss os hd7 hc0 hcl hc7 ssl (Nat.le_succ_of_le osl) sV oV Q hq))
inductive LW (xs : List Int) (l : Addr) (σ1 : Sto) : List Nat → Rho → Sto → Prop
  | mk {is : List Nat} {o2 o3 o4 o5 : Option AV} {σ2 : Sto} (hd : Drawn σ1 σ2 l) : LW xs l σ1 is [some (.scr xs), some (.loc l), o2, o3, o4, o5] σ2
theorem la_turn {d i : Nat} {xs : List Int} {l : Addr} {σ1 σ2 : Sto} {is : List Nat} {ρ : Rho} {K Q : Fl → Rho → Sto → Prop} (h : LW xs l σ1 (i :: is) ρ σ2) (k : Fk (LW xs l σ1 is) Q K) : awSs (Ct (d + 103)) b_law_3 (ρ.set 2 (some (.d (.int (i : Nat))))) σ2 K := by
  cases h with
  | mk hd =>
    refine s_asgTR (ev_type (d := d + 97) (n := 3) (ns := [0, 1, 2]) (by decide) (by decide) (by decide) rfl (ev_lst (ea3 ev_str ev_str ev_str) rfl) hd.has fun T σ4 dT vT hd4 => atk rfl ?_)
    have hd5 := hd.trans hd4
    have hz : T.size ≤ 15 := by
      have h1 := size_dep T
      have h2 : 2 ^ T.dep ≤ 2 ^ 4 := Nat.pow_le_pow_right (by decide) dT
      omega
    have dT2 : T.dep ≤ 240 := Nat.le_trans dT (by decide)
    refine s_iteM (evR_or (ev_cmp (ev_var rfl) (ev_var rfl) (cq_nty (t := false) dT2 dT2 (by rw [decide_eq_true rfl]; rfl)) _ (olk_f (al_last (evR_cmp (evR_fcall (ea1 (ev_var rfl)) (sp_names_in (d + 101) σ4 T (Nat.le_trans dT (by decide)) (Nat.le_trans hz (by decide)) _ fun σ5 c L5 hc hv => fck hv ?_)))))))
    have hd6 := hd5.mono (L5.cut_new hc)
    refine evR_fcall (ea1 (ev_var rfl)) (sp_law_once (d + 102) _ T.vars _ fun σ7 c2 L7 hc2 hv2 => fck hv2 (cq_ne (t := true) (cq_nds (decide_eq_true rfl)) _ (blk (ik_f (s_nil (s_nil (k.nxt _ _ (.mk (hd6.mono (L7.cut_new hc2))))))))))
theorem sp_law (d : Nat) (xs : List Int) (hx : xs.length ≤ 100) (Q : AV → Sto → Prop) (hq : ∀ σ', Q (.d (.bool true)) σ') :
    awSs (Ct (d + 103)) b_law ([.scr xs].map some ++ l_law.map fun _ => none) (fun _ => none) (Ret Q) := by
  refine s_asgR (evR_call (ea2 (ev_var rfl) ev_int) (sp_law_pool (d + 102) _ xs hx _ fun a b l σ1 hs _ L1 => ?_))
  have hl := L1 _ _ sput_self
  refine s_forR (ev_range (n := 2) ev_int (by decide) _ (for1 (g := fun i : Nat => .int (i : Nat)) (l := List.range 2) (LW xs l σ1) rfl (.mk (.self hl hs)) (fun ρ σ2 h => ?_) fun i is ρ σ2 h K k => la_turn h k))
  cases h with
  | mk hd2 =>
    obtain ⟨a3, b3, hs3, hl3⟩ := hd2.has
    refine s_iteM (evR_or (evR_not (evR_call (ea1 (ev_var rfl)) (sp_held_right (d + 97) σ2 l a3 b3 hl3 hs3 _ fun σ3 hd3 => blk (olk_f (al_or (evR_not (evR_call (ea1 (ev_var rfl)) ?_))))))))
    obtain ⟨a4, b4, hs4, hl4⟩ := hd3.has
    refine sp_unified_right d σ3 l a4 b4 hl4 hs4 _ fun σ4 hd4 => blk (olk_f (al_last (evR_not (evR_call (ea1 (ev_var rfl)) ?_))))
    obtain ⟨a5, b5, hs5, hl5⟩ := hd4.has
    refine sp_own_right (d + 97) σ4 l a5 b5 hl5 hs5 _ fun σ5 hd5 => blk (blk (ik_f (s_nil (s_retR (evR_cmp (evR_fcall (ea1 ?_) (sp_names_in (d + 101) σ5 (.tup (.par 0) (.box (.par 1))) (by decide) (by decide) _ fun σ6 c L6 hc hv => fck hv ?_)))))))
    · exact ev_tup2 ev_str (ev_tup2 (ev_par (x := 0) ev_str) (ev_tup2 ev_str (ev_par (x := 1) ev_str)))
    · have e2 : once (Ty.tup (.par 0) (.box (.par 1))).vars = [0, 1] := by decide
      rw [e2]
      refine ev_lst (xs := nd [0, 1]) (ea2 ev_str ev_str) rfl _ (cq_nds (t := true) (decide_eq_true rfl) _ ?_)
      exact ⟨_, Le.refl, hq _⟩
end Mine
end
section
open PySem PySem.W PyProof.Rows
namespace Mine
noncomputable abbrev rr : OpenRow := PySem.Challenge.rw_xm0592_01.row
noncomputable abbrev pp : Program := rr.prog
noncomputable abbrev qq : Program := PySem.W.view pp [1, 2, 4, 5, 6, 8, 10, 11, 12, 13, 14, 15, 16, 17, 18, 19, 20, 21, 22, 23, 24, 25]
theorem said : PySem.Challenge.rw_xm0592_01.wellSaid = true := by kernel_rfl
end Mine
end
section
open PySem PySem.W PySem.Calls PyProof.Rows
namespace Mine
noncomputable def Kof (h : Heap) : Frag := (List.range h.objs.size).filterMap fun a => (h.get? a).map fun o => (a, o)
theorem lk_mem {α β : Type} [BEq α] [LawfulBEq α] {a : α} {b : β} : ∀ {l : List (α × β)}, l.lookup a = some b → (a, b) ∈ l
  | (x, y) :: l, h => by
    rw [List.lookup_cons] at h
    split at h
    · rename_i e
      injection h with h
      rw [beq_iff_eq.mp e, h]; exact .head _
    · exact .tail _ (lk_mem h)
theorem Kof_in (h : Heap) : (Kof h).In h := by
  intro a o e
  have := lk_mem e
  unfold Kof at this
  obtain ⟨b, _, hb⟩ := List.mem_filterMap.mp this
  obtain ⟨o', ho, e2⟩ := Option.map_eq_some_iff.mp hb
  injection e2 with e3 e4
  subst e3; subst e4
  exact ho
noncomputable def fnAdr (K : Frag) (f : Str) : Addr := match nsIn K mainGlobals f with
  | some (some (.ref a)) => a
  | _ => 0
noncomputable def mtAdr (K : Frag) (c : Addr) (f : Str) : Addr := match findIn K (.ref c) f with
  | some (some (.ref a)) => a
  | _ => 0
noncomputable def fdAt (K : Frag) (fa : Addr) : Option FuncData := match K.lookup fa with
  | some ⟨_, _, .func fd, _⟩ => some fd
  | _ => none
noncomputable def bdAt (fd : FuncData) : Option (List Stmt) := match fd.body with
  | .stmts b => some b
  | _ => none
noncomputable def isRefN (v : Option (Option Value)) : Bool := match v with
  | some (some (.ref _)) => true
  | _ => false
noncomputable def isNoneN (v : Option (Option Value)) : Bool := match v with
  | some none => true
  | _ => false
noncomputable def isBltN (n : String) (v : Option (Option Value)) : Bool := match v with
  | some (some (.builtin m)) => m == n
  | _ => false
noncomputable def isTypN (n : String) (v : Option Value) : Bool := match v with
  | some (.type m) => m == n
  | _ => false
noncomputable def fnChk (K : Frag) (fa : Addr) (p : FuncData → List Stmt → Bool) : Bool := match fdAt K fa with
  | some fd => (match bdAt fd with
    | some b => fd.closure.isEmpty && codeIn K fd.code fd.qualname && fd.globals == mainGlobals && fd.builtins == builtinsNs && p fd b
    | none => false)
  | none => false
noncomputable def tabChk (t : Option Tab) (fd : FuncData) (b : List Stmt) : Bool := match t with
  | some t => fnOk fd.scope t.ps t.ls t.b b
  | none => false
noncomputable def setChk (K : Frag) (C : Addr) (fs : List Str) : Bool := plainOver K C && isBltN "object.__setattr__" (findIn K (.ref C) "__setattr__") && hasDictIn K C && fs.all fun f => isNoneN (takerIn K C f)
noncomputable def clsChk (K : Frag) (C : Addr) (fs : List Str) : Bool := makesIn K C && isRefN (findIn K (.ref C) "__init__") && isTypN "function" (typeIn K (.ref (mtAdr K C "__init__"))) && setChk K C fs
noncomputable def isLocN (p : Str × NameKind) : Bool := match p.2 with
  | .local => true
  | _ => false
noncomputable def scChk (fd : FuncData) (ns : List Str) : Bool := fd.scope.kind == .function && fd.scope.names.map (·.1) == ns && fd.scope.names.all isLocN && !fd.scope.isGenerator && !fd.scope.isCoroutine
noncomputable def bothBody (b : List Stmt) : Bool := an (dCnsS b) fun u => u.2.isEmpty && an (gAsg u.1) fun v => an (dAtt v.1) fun w => an (dDct v.2.1) fun _ => w.1 == Str.ofString "self" && w.2.2.1 == Str.ofString "found"
noncomputable def attChk (K : Frag) (C : Addr) (fs : List Str) : Bool := hasDictIn K C && fs.all fun f => plainGet K C f && isNoneN (findIn K (.ref C) f)
noncomputable def law_t : Tab := ⟨p_law, l_law, b_law⟩
noncomputable def facts (K : Frag) : Bool :=
  (fnNames.all fun f => isRefN (nsIn K mainGlobals f) && keepIn K (.ref (fnAdr K f))) &&
  (allNames.all fun x => isNoneN (nsIn K mainGlobals x)) &&
  (mtNames.all fun m => plainGet K (fnAdr K "Both") m && isRefN (findIn K (.ref (fnAdr K "Both")) m) && isFn K (.ref (mtAdr K (fnAdr K "Both") m)) && keepIn K (.ref (mtAdr K (fnAdr K "Both") m))) &&
  attChk K (fnAdr K "Both") ["found"] && attChk K (fnAdr K "ImplRow") implAttrs &&
  (defNames.all fun f => fnChk K (fnAdr K f) (tabChk (tab.lookup f))) &&
  (mtNames.all fun m => fnChk K (mtAdr K (fnAdr K "Both") m) (tabChk (tab.lookup m))) &&
  clsChk K (fnAdr K "Both") ["found"] && clsChk K (fnAdr K "ImplRow") implAttrs &&
  fnChk K (mtAdr K (fnAdr K "Both") "__init__") (fun fd b => bothBody b && scChk fd [Str.ofString "self"]) &&
  fnChk K (mtAdr K (fnAdr K "ImplRow") "__init__") (fun fd b => mAttrs implAttrs b && scChk fd ((Str.ofString "self") :: implAttrs)) &&
  isRefN (nsIn K mainGlobals "law") && fnChk K (fnAdr K "law") (fun fd b => tabChk (some law_t) fd b && fd.scope.names.all fun p => !isCell (some p.2))
noncomputable abbrev Bnds := Option (Sem (List (Str × Value)))
noncomputable def bnd (K : Frag) (fa : Addr) (vs : List Value) : Bnds := (fdAt K fa).map fun fd => bindArgs fd ⟨vs, []⟩
noncomputable def psOf (f : Str) : List Str := match tab.lookup f with
  | some t => t.ps
  | none => []
noncomputable def ar1 : List Str := ["names_in", "_law_once", "_law_held_right", "_law_parts", "_law_shape", "_law_solved", "_law_names", "_law_lined", "_law_unified_right", "_law_own_right"]
noncomputable def ar2 : List Str := ["head_pairs", "filled", "own_names", "_law_pool", "_law_take", "_law_one", "_law_reached"]
noncomputable def am2 : List Str := ["seen", "whole"]
noncomputable def am3 : List Str := ["holds_name", "bind", "unify", "all_unified"]
noncomputable def binds1 (K : Frag) (a : Value) : List Bnds := bnd K (fnAdr K "law") [a] :: bnd K (mtAdr K (fnAdr K "Both") "__init__") [a] :: ar1.map fun f => bnd K (fnAdr K f) [a]
noncomputable def want1 (a : Value) : List Bnds := some (pure [(Str.ofString "script", a)]) :: some (pure [(Str.ofString "self", a)]) :: ar1.map fun f => some (pure ((psOf f).zip [a]))
noncomputable def binds2 (K : Frag) (a b : Value) : List Bnds := (ar2.map fun f => bnd K (fnAdr K f) [a, b]) ++ am2.map fun f => bnd K (mtAdr K (fnAdr K "Both") f) [a, b]
noncomputable def want2 (a b : Value) : List Bnds := (ar2.map fun f => some (pure ((psOf f).zip [a, b]))) ++ am2.map fun f => some (pure ((psOf f).zip [a, b]))
noncomputable def binds3 (K : Frag) (a b c : Value) : List Bnds := bnd K (fnAdr K "_law_put") [a, b, c] :: am3.map fun f => bnd K (mtAdr K (fnAdr K "Both") f) [a, b, c]
noncomputable def want3 (a b c : Value) : List Bnds := some (pure ((psOf "_law_put").zip [a, b, c])) :: am3.map fun f => some (pure ((psOf f).zip [a, b, c]))
noncomputable def binds4 (K : Frag) (a b c d : Value) : Bnds := bnd K (fnAdr K "_law_type") [a, b, c, d]
noncomputable def want4 (a b c d : Value) : Bnds := some (pure ((psOf "_law_type").zip [a, b, c, d]))
noncomputable def bindsI (K : Frag) (pr : Program) (P : Params) (a b c d e f g i : Value) : Option (Option (List (Str × Value))) :=
  (fdAt K (mtAdr K (fnAdr K "ImplRow") "__init__")).map fun fd => peek K ⟨pr, P⟩ (bindArgs fd ⟨[a, b, c, d, e, f, g, i], []⟩)
noncomputable def wantI (t : Tok) (a b c d e f g i : Value) : Option (Option (List (Str × Value))) := some (some (((Str.ofString "self") :: implAttrs).zip ([a, b, c, d, e, f, g, i] ++ [.int 0 t])))
theorem op1 : opening pp = plainProg pp.main.scope.names := by kernel_rfl
theorem op2 : ∀ s, fenceModules? pp s = some s := fun s => by kernel_rfl
noncomputable abbrev Al := Bool × (Value → List Bnds) × (Value → Value → List Bnds) × (Value → Value → Value → List Bnds) × (Value → Value → Value → Value → Bnds) × (Program → Params → Value → Value → Value → Value → Value → Value → Value → Value → Option (Option (List (Str × Value))))
noncomputable def seenK (K : Frag) : Al := (facts K, binds1 K, binds2 K, binds3 K, binds4 K, bindsI K)
noncomputable def wantK (t : Tok) : Al := (true, want1, want2, want3, want4, fun _ _ => wantI t)
theorem top_run (w : World) (os : OsState) : (topFrom treeTable pp w 2676 ⟨boot_heap w.params, Array.mk [], boot_drawn, boot_toks, os⟩).map (fun s => (openSeen qq [] (importedModules pp.main.body) (fun s => xlAt qq [] s && recOk (RowW.records rr.toRowW) s) true s, seenK (Kof s.heap))) = some (openGood qq [], wantK 315) := by kernel_rfl
theorem fnChk_of {K : Frag} {fa : Addr} {p : FuncData → List Stmt → Bool} (h : fnChk K fa p = true) : ∃ fd b, fdAt K fa = some fd ∧ FnAt K fa fd b ∧ p fd b = true := by
  unfold fnChk at h
  split at h
  · rename_i fd e
    split at h
    · rename_i b eb
      simp only [Bool.and_eq_true] at h
      obtain ⟨⟨⟨⟨h1, h2⟩, h3⟩, h4⟩, h5⟩ := h
      refine ⟨fd, b, e, ⟨?_, ?_, List.isEmpty_iff.mp h1, h2, beq_iff_eq.mp h3, beq_iff_eq.mp h4⟩, h5⟩
      · unfold fdAt at e
        split at e
        · rename_i oc od fd' osl el
          injection e with e
          subst e
          exact ⟨oc, od, osl, el⟩
        · exact nomatch e
      · unfold bdAt at eb
        split at eb
        · rename_i b' hb
          injection eb with eb
          rw [hb, eb]
        · exact nomatch eb
    · exact nomatch h
  · exact nomatch h
theorem fnHas_of {K : Frag} {fa : Addr} {f : Str} {t : Tab} (ht : tab.lookup f = some t) (hc : fnChk K fa (tabChk (tab.lookup f)) = true) (hb : ∀ vals : List Value, vals.length = t.ps.length → bnd K fa vals = some (pure (t.ps.zip vals))) : FnHas K fa f := by
  obtain ⟨fd, b, e, hF, hp⟩ := fnChk_of hc
  refine ⟨fd, b, t, ht, hF, ?_, fun vals hv => ?_⟩
  · rw [ht] at hp; exact hp
  · have := hb vals hv
    unfold bnd at this
    rw [e] at this
    injection this
theorem refN_of {v : Option (Option Value)} (h : isRefN v = true) : ∃ a, v = some (some (.ref a)) := by
  unfold isRefN at h
  split at h
  · exact ⟨_, rfl⟩
  · exact nomatch h
theorem noneN_of {v : Option (Option Value)} (h : isNoneN v = true) : v = some none := by
  unfold isNoneN at h
  split at h
  · rfl
  · exact nomatch h
theorem bltN_of {n : String} {v : Option (Option Value)} (h : isBltN n v = true) : v = some (some (.builtin n)) := by
  unfold isBltN at h
  split at h
  · rw [beq_iff_eq.mp h]
  · exact nomatch h
theorem typN_of {n : String} {v : Option Value} (h : isTypN n v = true) : v = some (.type n) := by
  unfold isTypN at h
  split at h
  · rw [beq_iff_eq.mp h]
  · exact nomatch h
theorem fnAdr_of {K : Frag} {f : Str} (h : isRefN (nsIn K mainGlobals f) = true) : nsIn K mainGlobals f = some (some (.ref (fnAdr K f))) := by
  obtain ⟨a, e⟩ := refN_of h
  unfold fnAdr
  rw [e]
theorem mtAdr_of {K : Frag} {c : Addr} {f : Str} (h : isRefN (findIn K (.ref c) f) = true) : findIn K (.ref c) f = some (some (.ref (mtAdr K c f))) := by
  obtain ⟨a, e⟩ := refN_of h
  unfold mtAdr
  rw [e]
theorem set_of {K : Frag} {C : Addr} {fs : List Str} (h : setChk K C fs = true) : SetOk K C fs := by
  unfold setChk at h
  simp only [Bool.and_eq_true, List.all_eq_true] at h
  obtain ⟨⟨⟨h1, h2⟩, h3⟩, h4⟩ := h
  exact ⟨h1, bltN_of h2, h3, fun f hf => noneN_of (h4 f hf)⟩
theorem sc_of {fd : FuncData} {ns : List Str} (h : scChk fd ns = true) : fd.scope.kind = .function ∧ fd.scope.names = ns.map (fun x => (x, NameKind.local)) ∧ fd.scope.isGenerator = false ∧ fd.scope.isCoroutine = false := by
  unfold scChk at h
  simp only [Bool.and_eq_true, Bool.not_eq_true', List.all_eq_true] at h
  obtain ⟨⟨⟨⟨h1, h2⟩, h3⟩, h4⟩, h5⟩ := h
  refine ⟨beq_iff_eq.mp h1, ?_, h4, h5⟩
  have h2 := beq_iff_eq.mp h2
  have key : ∀ l : List (Str × NameKind), (∀ p ∈ l, isLocN p = true) → l = (l.map (·.1)).map fun x => (x, NameKind.local) := by
    intro l
    induction l with
    | nil => intro _; rfl
    | cons p l ih =>
      intro h
      have hp := h p (.head _)
      have ih := ih fun q hq => h q (.tail _ hq)
      obtain ⟨x, k⟩ := p
      have hk : k = .local := by
        unfold isLocN at hp
        split at hp
        · assumption
        · exact nomatch hp
      subst hk
      rw [List.map_cons, List.map_cons, ← ih]
  rw [key _ h3, h2]
theorem both_of {b : List Stmt} (h : bothBody b = true) : ∃ p1 p2 p3 p4, b = [.Assign [.Attribute (.Name "self" p1) "found" p2] (.Dict [] [] p3) p4] := by
  obtain ⟨q0, e0, h⟩ := an_inv h
  obtain ⟨h0, h⟩ := Bool.and_eq_true_iff.mp h
  obtain ⟨q1, e1, h⟩ := an_inv h
  obtain ⟨q2, e2, h⟩ := an_inv h
  obtain ⟨q3, e3, h⟩ := an_inv h
  obtain ⟨h1, h2⟩ := Bool.and_eq_true_iff.mp h
  refine ⟨q2.2.1, q2.2.2.2, q3, q1.2.2, ?_⟩
  rw [e0, e1, e2, e3, eq_of_beq h1, eq_of_beq h2, List.isEmpty_iff.mp h0]
theorem map_both {α β : Type} {f g : α → β} : ∀ {l : List α}, l.map f = l.map g → ∀ x ∈ l, f x = g x
  | _ :: l, h, x, hx => by
    rw [List.map_cons, List.map_cons] at h
    injection h with h1 h2
    rcases List.mem_cons.mp hx with e | e
    · subst e; exact h1
    · exact map_both h2 x e
theorem app_both {α : Type} {a b c d : List α} (hl : a.length = c.length) (h : a ++ b = c ++ d) : a = c ∧ b = d := List.append_inj h hl
theorem ar_ok : (∀ f ∈ ar1, ((tab.lookup f).any fun t => t.ps.length == 1) = true) ∧ (∀ f ∈ ar2 ++ am2, ((tab.lookup f).any fun t => t.ps.length == 2) = true) ∧ (∀ f ∈ (Str.ofString "_law_put") :: am3, ((tab.lookup f).any fun t => t.ps.length == 3) = true) ∧ ((tab.lookup (Str.ofString "_law_type")).any fun t => t.ps.length == 4) = true := by decide +kernel
theorem def_ok : ∀ f ∈ defNames, f ∈ ar1 ∨ f ∈ ar2 ∨ f = "_law_put" ∨ f = "_law_type" := by decide +kernel
theorem mt_ok : ∀ f ∈ mtNames, f ∈ am2 ∨ f ∈ am3 := by decide +kernel
theorem any_tab {f : Str} {n : Nat} (h : ((tab.lookup f).any fun t => t.ps.length == n) = true) : ∃ t, tab.lookup f = some t ∧ t.ps.length = n ∧ psOf f = t.ps := by
  cases e : tab.lookup f with
  | none => rw [e] at h; exact nomatch h
  | some t =>
    rw [e] at h
    exact ⟨t, rfl, beq_iff_eq.mp h, by unfold psOf; rw [e]⟩
theorem len1 {α : Type} {l : List α} (h : l.length = 1) : ∃ a, l = [a] := by
  match l, h with
  | [a], _ => exact ⟨a, rfl⟩
theorem len3 {α : Type} {l : List α} (h : l.length = 3) : ∃ a b c, l = [a, b, c] := by
  match l, h with
  | [a, b, c], _ => exact ⟨a, b, c, rfl⟩
theorem len4 {α : Type} {l : List α} (h : l.length = 4) : ∃ a b c d, l = [a, b, c, d] := by
  match l, h with
  | [a, b, c, d], _ => exact ⟨a, b, c, d, rfl⟩
theorem len8 {α : Type} {l : List α} (h : l.length = 8) : ∃ a b c d e f g i, l = [a, b, c, d, e, f, g, i] := by
  match l, h with
  | [a, b, c, d, e, f, g, i], _ => exact ⟨a, b, c, d, e, f, g, i, rfl⟩
structure KF (K : Frag) (t : Tok) : Prop where
  nm : ∀ f ∈ fnNames, isRefN (nsIn K mainGlobals f) = true ∧ keepIn K (.ref (fnAdr K f)) = true
  bn : ∀ x ∈ allNames, isNoneN (nsIn K mainGlobals x) = true
  me : ∀ m ∈ mtNames, ((plainGet K (fnAdr K "Both") m = true ∧ isRefN (findIn K (.ref (fnAdr K "Both")) m) = true) ∧ isFn K (.ref (mtAdr K (fnAdr K "Both") m)) = true) ∧ keepIn K (.ref (mtAdr K (fnAdr K "Both") m)) = true
  atB : attChk K (fnAdr K "Both") ["found"] = true
  atI : attChk K (fnAdr K "ImplRow") implAttrs = true
  fns : ∀ f ∈ defNames, fnChk K (fnAdr K f) (tabChk (tab.lookup f)) = true
  mts : ∀ m ∈ mtNames, fnChk K (mtAdr K (fnAdr K "Both") m) (tabChk (tab.lookup m)) = true
  cB : clsChk K (fnAdr K "Both") ["found"] = true
  cI : clsChk K (fnAdr K "ImplRow") implAttrs = true
  iB : fnChk K (mtAdr K (fnAdr K "Both") "__init__") (fun fd b => bothBody b && scChk fd [Str.ofString "self"]) = true
  iI : fnChk K (mtAdr K (fnAdr K "ImplRow") "__init__") (fun fd b => mAttrs implAttrs b && scChk fd ((Str.ofString "self") :: implAttrs)) = true
  law : isRefN (nsIn K mainGlobals "law") = true
  lawF : fnChk K (fnAdr K "law") (fun fd b => tabChk (some law_t) fd b && fd.scope.names.all fun p => !isCell (some p.2)) = true
  b1 : ∀ a, binds1 K a = want1 a
  b2 : ∀ a b, binds2 K a b = want2 a b
  b3 : ∀ a b c, binds3 K a b c = want3 a b c
  b4 : ∀ a b c d, binds4 K a b c d = want4 a b c d
  bI : ∀ pr P a b c d e f g i, bindsI K pr P a b c d e f g i = wantI t a b c d e f g i
theorem kf_of {K : Frag} {t : Tok} (h : seenK K = wantK t) : KF K t := by
  unfold seenK wantK at h
  simp only [Prod.mk.injEq] at h
  obtain ⟨hf, h1, h2, h3, h4, h5⟩ := h
  unfold facts at hf
  simp only [Bool.and_eq_true, List.all_eq_true] at hf
  obtain ⟨⟨⟨⟨⟨⟨⟨⟨⟨⟨⟨⟨f1, f2⟩, f3⟩, f4⟩, f5⟩, f6⟩, f7⟩, f8⟩, f9⟩, f10⟩, f11⟩, f12⟩, f13⟩ := hf
  exact ⟨f1, f2, f3, f4, f5, f6, f7, f8, f9, f10, f11, f12, f13, fun a => congrFun h1 a, fun a b => congrFun (congrFun h2 a) b, fun a b c => congrFun (congrFun (congrFun h3 a) b) c, fun a b c d => congrFun (congrFun (congrFun (congrFun h4 a) b) c) d,
    fun pr P a b c d e f g i => congrFun (congrFun (congrFun (congrFun (congrFun (congrFun (congrFun (congrFun (congrFun (congrFun h5 pr) P) a) b) c) d) e) f) g) i⟩
noncomputable def GW (pr : Program) (w : World) (K : Frag) (p : Program) (loose : List Str) (mg mb : Str → Option Value) (s₁ : Shared) : Wd where
  prog := pr
  w := w
  K := K
  p := p
  loose := loose
  mg := mg
  mb := mb
  s0 := s₁
  fn := fnAdr K
  mt := mtAdr K (fnAdr K "Both")
  cl := fun b => if b then fnAdr K "Both" else fnAdr K "ImplRow"
  tp := s₁.heap.objs.size
theorem at_of {K : Frag} {C : Addr} {fs : List Str} (h : attChk K C fs = true) {f : Str} (hf : f ∈ fs) : ∃ attr, plainGet K C f = true ∧ hasDictIn K C = true ∧ findIn K (.ref C) f = some attr ∧ noGet K attr = true := by
  unfold attChk at h
  simp only [Bool.and_eq_true, List.all_eq_true] at h
  exact ⟨none, (h.2 f hf).1, h.1, noneN_of (h.2 f hf).2, rfl⟩
theorem fns_of {K : Frag} {t : Tok} (F : KF K t) : ∀ f ∈ defNames, FnHas K (fnAdr K f) f := by
  intro f hf
  have hc := F.fns f hf
  rcases def_ok f hf with h | h | h | h
  · obtain ⟨tb, h1, h2, h3⟩ := any_tab (ar_ok.1 f h)
    refine fnHas_of h1 hc fun vals hv => ?_
    obtain ⟨a, rfl⟩ := len1 (hv.trans h2)
    have := F.b1 a
    unfold binds1 want1 at this
    injection this with _ this
    injection this with _ this
    rw [map_both this f h, h3]
  · obtain ⟨tb, h1, h2, h3⟩ := any_tab (ar_ok.2.1 f (List.mem_append_left _ h))
    refine fnHas_of h1 hc fun vals hv => ?_
    obtain ⟨a, b, rfl⟩ := len_two (hv.trans h2)
    have := F.b2 a b
    unfold binds2 want2 at this
    rw [map_both (app_both (by rw [List.length_map, List.length_map]) this).1 f h, h3]
  · subst h
    obtain ⟨tb, h1, h2, h3⟩ := any_tab (ar_ok.2.2.1 _ (.head _))
    refine fnHas_of h1 hc fun vals hv => ?_
    obtain ⟨a, b, c, rfl⟩ := len3 (hv.trans h2)
    have := F.b3 a b c
    unfold binds3 want3 at this
    injection this with this _
    rw [← h3]; exact this
  · subst h
    obtain ⟨tb, h1, h2, h3⟩ := any_tab ar_ok.2.2.2
    refine fnHas_of h1 hc fun vals hv => ?_
    obtain ⟨a, b, c, d, rfl⟩ := len4 (hv.trans h2)
    rw [← h3]; exact F.b4 a b c d
theorem mts_of {K : Frag} {t : Tok} (F : KF K t) : ∀ f ∈ mtNames, FnHas K (mtAdr K (fnAdr K "Both") f) f := by
  intro f hf
  have hc := F.mts f hf
  rcases mt_ok f hf with h | h
  · obtain ⟨tb, h1, h2, h3⟩ := any_tab (ar_ok.2.1 f (List.mem_append_right _ h))
    refine fnHas_of h1 hc fun vals hv => ?_
    obtain ⟨a, b, rfl⟩ := len_two (hv.trans h2)
    have := F.b2 a b
    unfold binds2 want2 at this
    rw [map_both (app_both (by rw [List.length_map, List.length_map]) this).2 f h, h3]
  · obtain ⟨tb, h1, h2, h3⟩ := any_tab (ar_ok.2.2.1 f (.tail _ h))
    refine fnHas_of h1 hc fun vals hv => ?_
    obtain ⟨a, b, c, rfl⟩ := len3 (hv.trans h2)
    have := F.b3 a b c
    unfold binds3 want3 at this
    injection this with _ this
    rw [map_both this f h, h3]
theorem wf_of {pr : Program} {w : World} {K : Frag} {t : Tok} {p : Program} {loose : List Str} {mg mb : Str → Option Value} {s₁ : Shared} (F : KF K t) (kin : K.In s₁.heap) (top : TopRead p loose mg mb s₁.heap) : Wf (GW pr w K p loose mg mb s₁) where
  ok := ⟨kin, top, Nat.le_refl _⟩
  nm := fun f hf => ⟨fnAdr_of (F.nm f hf).1, (F.nm f hf).2⟩
  bn := fun x hx => noneN_of (F.bn x hx)
  me := fun m hm => by
    obtain ⟨⟨⟨h1, h2⟩, h3⟩, h4⟩ := F.me m hm
    exact ⟨h1, mtAdr_of h2, h3, h4⟩
  at_ := fun b f h => by
    cases b with
    | true =>
      have hf : f ∈ (["found"] : List Str) := by
        have : (f == "found") = true := h
        simp at this; simp [this]
      exact at_of F.atB hf
    | false => exact at_of F.atI (List.contains_iff_mem.mp h)
  fns := fns_of F
  mts := mts_of F
  cls1 := rfl
  cls2 := rfl
  both := by
    obtain ⟨fd, b, e, hF, hp⟩ := fnChk_of F.iB
    rw [Bool.and_eq_true] at hp
    obtain ⟨p1, p2, p3, p4, rfl⟩ := both_of hp.1
    obtain ⟨k1, k2, k3, k4⟩ := sc_of hp.2
    have hc := F.cB
    unfold clsChk at hc
    simp only [Bool.and_eq_true] at hc
    obtain ⟨⟨⟨c1, c2⟩, c3⟩, c4⟩ := hc
    refine ⟨mtAdr K (fnAdr K "Both") "__init__", fd, p1, p2, p3, p4, ⟨c1, mtAdr_of c2, typN_of c3, set_of c4⟩, hF, k1, k2, k3, k4, fun v => ?_⟩
    have := F.b1 v
    unfold binds1 want1 at this
    injection this with _ this
    injection this with this _
    unfold bnd at this
    rw [e] at this
    injection this
  impl := by
    obtain ⟨fd, b, e, hF, hp⟩ := fnChk_of F.iI
    rw [Bool.and_eq_true] at hp
    obtain ⟨k1, k2, k3, k4⟩ := sc_of hp.2
    have hc := F.cI
    unfold clsChk at hc
    simp only [Bool.and_eq_true] at hc
    obtain ⟨⟨⟨c1, c2⟩, c3⟩, c4⟩ := hc
    refine ⟨mtAdr K (fnAdr K "ImplRow") "__init__", fd, b, ⟨c1, mtAdr_of c2, typN_of c3, set_of c4⟩, hF, hp.1, k1, k2, k3, k4, fun s vs hk hv => ⟨t, ?_⟩⟩
    obtain ⟨a, b, c, d, f, g, i, j, rfl⟩ := len8 hv
    intro M A E Q hq
    have := F.bI M.prog M.w.params a b c d f g i j
    unfold bindsI wantI at this
    rw [e] at this
    injection this with this
    exact (Looks.of_peek hk this).here hq
theorem isCell_of {names : List (Str × NameKind)} (h : (names.all fun p => !isCell (some p.2)) = true) (x : Str) : isCell (names.lookup x) = false := by
  cases e : names.lookup x with
  | none => rfl
  | some k =>
    have := List.all_eq_true.mp h _ (lookup_mem' e)
    simpa using this
theorem ints_vrs {h : Heap} {M : AS} : ∀ {vs : List Value} {xs : List Int}, IntsAre vs xs → VRs h M vs (xs.map .int) := by
  intro vs xs r
  induction r with
  | nil => exact .nil
  | cons n t _ ih => exact .cons (VR.int n t) ih
theorem law_run {pr : Program} {w : World} {K : Frag} {t : Tok} {p : Program} {loose : List Str} {mg mb : Str → Option Value} {s₁ : Shared} (KFt : KF K t) (kin : K.In s₁.heap) (top : TopRead p loose mg mb s₁.heap) {env : Env} {body : List Stmt}
    (hm : mSs env.kindOf (p_law ++ l_law) b_law body = true) (hkind : env.scope.kind = .function) (hg : env.globals = mainGlobals) (hb : env.builtins = builtinsNs) (hc : env.cells = []) (hl : env.locals = s₁.heap.objs.size) (hnc : ∀ x, isCell (env.kindOf x) = false)
    {A : Around} (R : Rm A 103) {h₁ : Heap} {m : Str → Option Value} (F : Fr s₁.heap s₁.heap.objs.size h₁ m) {a : Addr} {vs : List Value} {xs : List Int} (hms : m "script" = some (.ref a)) (hL : s₁.heap.IsList a vs.toArray) (hI : IntsAre vs xs) (hx : xs.length ≤ 100) {tk : Nat} :
    wpAny (model pr w) A (execs body env) (fun fl s' => fl = .ret (.bool true) ∧ (∀ b o, s₁.heap.get? b = some o → s'.heap.get? b = some o) ∧ ∃ h t, s' = { s₁ with heap := h, toks := t }) NE { s₁ with heap := h₁, toks := tk } := by
  have W := wf_of (pr := pr) (w := w) KFt kin top
  have X := cx_of W 103
  let G := GW pr w K p loose mg mb s₁
  let Fm0 : Fm := ⟨env, fun a => a = s₁.heap.objs.size, true⟩
  have ok : Fm0.Ok := by
    refine ⟨hkind, hg, hb, fun x hx => ?_, ?_, fun n c e => ?_, fun _ n c e => ?_, hl⟩
    · rw [hnc x] at hx; exact nomatch hx
    · show env.cells.Pairwise _; rw [hc]; exact .nil
    · rw [show Fm0.env.cells = [] from hc] at e; exact nomatch e
    · rw [show Fm0.env.cells = [] from hc] at e; exact nomatch e
  have hLn : s₁.heap.get? s₁.heap.objs.size = none := get_none_of_size (Nat.le_refl _)
  have S : St G (fun a => a = s₁.heap.objs.size) Fm0 (mu (p_law ++ l_law) ([.scr xs].map some ++ l_law.map fun _ => none)) (fun _ => none) { s₁ with heap := h₁, toks := tk } := by
    refine ⟨⟨⟨h₁, tk, rfl⟩, rfl, F.keep, fun b hb => ?_, fun _ _ => rfl, fun _ _ e => nomatch e⟩, fun _ h => h, ok, Nat.le_of_eq hl.symm, ⟨m, ?_, fun x av h1 h2 => ?_⟩, fun x c e => ?_⟩
    · rcases hb with hb | hb
      · subst hb
        obtain ⟨o, _, _, e, _⟩ := F.ns
        exact ⟨hLn, o, e⟩
      · exact absurd rfl hb
    · rw [show Fm0.env.locals = s₁.heap.objs.size from hl]; exact F.ns
    · have hM : ¬ Mu (fun a => a = s₁.heap.objs.size) (fun _ => (none : Option AO)) a := by
        rintro (h | h)
        · obtain ⟨o, ho, _⟩ := hL
          have h3 := Heap.lt_size ho
          have h4 : a = s₁.heap.objs.size := h
          exact absurd h3 (by rw [h4]; exact Nat.lt_irrefl _)
        · exact h rfl
      have hL' : h₁.IsList a vs.toArray := by
        obtain ⟨o, ho, r⟩ := hL
        exact ⟨o, F.keep _ _ ho, r⟩
      have rv : VAs h₁ (Mu (fun a => a = s₁.heap.objs.size) (fun _ => (none : Option AO))) [Value.ref a] [AV.scr xs] := .cons (d := .scr xs) ⟨a, vs, rfl, hL', ints_vrs hI, hM⟩ .nil
      obtain ⟨v, e1, e2⟩ := ix_zip (ps := p_law) (ns := l_law) rv rfl h1
      refine ⟨v, ?_, e2⟩
      have e3 : List.lookup x [(Str.ofString "script", Value.ref a)] = some v := e1
      rw [List.lookup_cons] at e3
      split at e3
      · rename_i hx
        injection e3 with e3
        rw [← e3, beq_iff_eq.mp hx]; exact hms
      · exact nomatch e3
    · rw [show Fm0.env.cells = [] from hc] at e; exact nomatch e
  have := sound_s X b_law env.kindOf (p_law ++ l_law) body hm A Fm0 (fun a => a = s₁.heap.objs.size) ([.scr xs].map some ++ l_law.map fun _ => none) (fun _ => none) _ _ R rfl rfl S (sp_law 0 xs hx (fun v _ => v = .d (.bool true)) fun _ => rfl)
  refine wpAny_mono this (fun fl s' h => ?_) fun _ _ f => f
  obtain ⟨ρ', σ', S', E', hq⟩ := h
  refine ⟨?_, S'.s0.base, S'.s0.rest⟩
  cases fl with
  | ret v =>
    obtain ⟨av, hv, σ2, _, e⟩ := hq
    have e : av = .d (.bool true) := e
    subst e
    rw [VR.bool_inv hv]
  | next =>
    have e : AV.d .none = .d (.bool true) := hq
    exact nomatch e
  | cont => exact hq.elim
  | brk => exact hq.elim
theorem law_call {pr : Program} {w : World} {K : Frag} {t : Tok} {p : Program} {loose : List Str} {mg mb : Str → Option Value} {s₁ : Shared} (KFt : KF K t) (kin : K.In s₁.heap) (top : TopRead p loose mg mb s₁.heap) {fa : Addr} (hfa : mg "law" = some (.ref fa))
    {a : Addr} {vs : List Value} {xs : List Int} (hL : s₁.heap.IsList a vs.toArray) (hI : IntsAre vs xs) (hx : xs.length ≤ 100) {R : Result → Shared → Prop}
    (hR : ∀ s', (∀ b o, s₁.heap.get? b = some o → s'.heap.get? b = some o) → (∃ h t, s' = { s₁ with heap := h, toks := t }) → R (.ok (.ret (.bool true))) s') :
    codeAny (model pr w) callerA (.call (.ref fa) ⟨[.ref a], []⟩) R s₁ := by
  have e := fnAdr_of KFt.law
  have e2 := mg_of kin top.g e
  rw [hfa] at e2
  injection e2 with e2
  injection e2 with e2
  obtain ⟨fd, body, e3, HF, hp⟩ := fnChk_of KFt.lawF
  rw [Bool.and_eq_true] at hp
  obtain ⟨hp, hnc⟩ := hp
  have hp : fnOk fd.scope p_law l_law b_law body = true := hp
  unfold fnOk at hp
  simp only [Bool.and_eq_true, beq_iff_eq, Bool.not_eq_true', List.all_eq_true] at hp
  obtain ⟨⟨⟨⟨⟨⟨⟨k1, k2⟩, k3⟩, k4⟩, k5⟩, k6⟩, k7⟩, k8⟩ := hp
  have hb : bindArgs fd ⟨[.ref a], []⟩ = pure [(Str.ofString "script", .ref a)] := by
    have := KFt.b1 (.ref a)
    unfold binds1 want1 at this
    injection this with this _
    unfold bnd at this
    rw [e3] at this
    injection this
  rw [e2]
  obtain ⟨oc, od, osl, hlook⟩ := HF.look
  have hnm : ∀ x ∈ fd.scope.names, x.2 ≠ .cell := fun x hx e => by
    have := List.all_eq_true.mp hnc x hx
    rw [e] at this
    exact nomatch this
  refine codeAny_call_def (hco := k2) (hgen := k3) (hk := k1) (by simp only [depth_caller]; decide) (kin _ _ hlook) rfl top.nolimit (codeRec_of kin HF.code) HF.body (.of_eq hb) hnm (fun x hx => ?_) fun h₀ hns hk0 => ?_
  · have hx : x ∈ [(Str.ofString "script", Value.ref a)] := hx
    rw [List.mem_singleton] at hx
    subst hx
    have h7 := k7 _ (.head _)
    rcases Bool.or_eq_true_iff.mp h7 with h | h
    · exact beq_iff_eq.mp h
    · have h := beq_iff_eq.mp h
      exact absurd rfl (hnm _ (lookup_mem' h))
  · have Fr0 : Fr s₁.heap s₁.heap.objs.size h₀ (fun x => [(Str.ofString "script", Value.ref a)].reverse.lookup x) := ⟨hns, hk0, Nat.le_refl _⟩
    refine wpAny_mono (law_run KFt kin top (env := callEnv fd s₁.heap.objs.size (fnAdr K "law")) (body := body) k8 k1 HF.glob HF.blt HF.clo rfl (fun x => isCell_of hnc x) ⟨rfl, ?_, ?_⟩ Fr0 rfl hL hI hx) (fun fl s' h => ?_) fun _ _ f => f.elim
    · simp only [depth_deeper, depth_caller]; decide
    · exact Nat.le_of_ble_eq_true rfl
    · obtain ⟨rfl, k, hs⟩ := h
      exact hR s' k hs
theorem left : LeftO pp qq [] (fun s => xlAt qq [] s && recOk (RowW.records rr.toRowW) s) (fun s => seenK (Kof s.heap)) (fun _ => wantK 315) 2676 := by
  intro w
  obtain ⟨⟨h, gs, d, k, os⟩, e, e'⟩ := Option.map_eq_some_iff.mp (boot_open (N := 2676) op1 (by decide) op2 w)
  obtain ⟨rfl, rfl, rfl, rfl⟩ : h = boot_heap w.params ∧ gs = Array.mk [] ∧ d = boot_drawn ∧ k = boot_toks := by simpa only [Prod.mk.injEq, Option.some.injEq] using e'
  unfold openEnds
  rw [e]
  exact top_run w os
noncomputable def dk : DefRec × List (Str × Expr) := (defOf qq rr.name).get (by kernel_rfl)
theorem hdef : defOf qq rr.name = some (dk.1, dk.2) := by kernel_rfl
theorem hthe : rr.prog.theDef rr.name = some (dk.1.params, dk.1.body, dk.1.scope) := by kernel_rfl
theorem hkw : kwWritten? dk.1.params.kwonlyargs dk.1.params.kw_defaults = some dk.2 := by kernel_rfl
theorem hnm : dk.1.name = "law" := by kernel_rfl
theorem hok : (chainsOk qq && opensWell rr.prog && (frees rr.toRowW && rr.within.isEmpty)) = true := by kernel_rfl
theorem hwr : (!rr.writes || rr.records.isEmpty) = true := by kernel_rfl
end Mine
end
open PySem PySem.W PySem.Calls PyProof.Rows
set_option maxHeartbeats 4000000
theorem PySem.Challenge.cw_xm0592_01_holds : PySem.Challenge.rw_xm0592_01.Holds := by
  w_on
  refine holds_law Mine.said fun said => ?_
  refine holds_open (q := Mine.qq) (loose := []) (Xt := fun s => xlAt Mine.qq [] s && recOk (RowW.records Mine.rr.toRowW) s) (XP := XL Mine.qq []) (Yf := fun s => Mine.seenK (Mine.Kof s.heap)) (Ya := fun _ => Mine.wantK 315)
    (YP := fun _ h => ∃ K : Frag, K.In h ∧ Mine.KF K 315) (d := Mine.dk.1) (kwd := Mine.dk.2) (N := 2676) Mine.left (fun w s e => ⟨_, Mine.Kof_in _, Mine.kf_of e⟩) (fun w h h' y k => ?_) (fun s e => xl_of s (Bool.and_eq_true_iff.mp e).1) XL.keeps Mine.hdef Mine.hthe Mine.hkw
    (fun s e => recFacts_of (Bool.and_eq_true_iff.mp e).2) Mine.hwr said Mine.hok ⟨by kernel_rfl, by kernel_rfl, by kernel_rfl, by kernel_rfl, by kernel_rfl, by kernel_rfl⟩ ?hw ?hc
  · obtain ⟨K, h1, h2⟩ := y
    exact ⟨K, h1.keeps k, h2⟩
  case hw => w_witness2
  intro w s₀ s₁ mg mb G Y fa o pm cd doc dV kV ho hd hcd hD hmg hg args vals as hpre hlay hrd hwl hlo
  obtain ⟨K, KI, KT⟩ := Y
  clear ho hd hcd hD
  rw [Mine.hnm] at hmg
  refine Ground.open G ?_
  intro T B D TE TW
  wrow_args hpre hlay hrd hwl hlo
  rename Heap.IsList _ _ _ => L0
  rename IntsAre _ _ => I0
  rename ¬ (_ < _) => B0
  refine enter_call (codeAny_mono (Mine.law_call KT KI (topRead_of T) hmg L0 I0 (by omega) (R := GoodW PySem.Challenge.rw_xm0592_01.row.claim (classAt s₀.heap) (ExcName.means s₀.heap) _ s₁) fun s' k h => ?_) fun _ _ g => GoodW.toG g)
  obtain ⟨h', t', rfl⟩ := h
  exact ⟨.inl ⟨.bool true, .bool true, [], rfl, fun _ => rfl, .bool true, by kernel_rfl, fun _ => ⟨.nil, fun a h => nomatch h⟩⟩, k, rfl, hg⟩
