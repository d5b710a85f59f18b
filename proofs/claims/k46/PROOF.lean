import PyProof.Rows.All
import Wide.All
import OpenK.AllK
import Wide.FinOn
import PyProof.EqAt
import PyProof.EqKinds
import PyProof.FactsAll.bool_1
import HandS.ForMost
import PyProof.TupleCall
import HandS.Exc
import HandS.ExcOwn
import HandS.TryOnly
import HandS.WordsExc
import HandS.CallSlots
import HandS.NestedK
import HandS.TupAny
import HandS.Deep
import HandS.Wide
import HandS.WideBits
import HandS.Iter
import HandS.Zip
import HandS.Comp
import HandS.IsInst
import HandS.StrMore
import HandS.More
import HandS.Replace
import HandS.Text
import HandS.ExcInit
import HandS.Dict
import HandS.ClsMeth
import HandS.ExcField
import HandS.DictComp
import HandS.ExcIs
import HandS.Conv
import HandS.ListItems
import HandS.Finally
import HandS.Codes
import HandS.Rev
import PyProof.ListRange
import KE.KDictList
import KE.KExcIs
import HandS.HotCalls
import KE.DatumOrd
import HandS.DeepEq
import PyProof.Rows.StrCut
import PyProof.Rows.StrPadWhole
import PyProof.NeKinds
import PyProof.StrOps2
import KE.KDictCopyH
import HandS.EndTab
import HandS.ExcValue
import PySem.Challenge.RW_lampway_k46_a_queue_step
set_option Elab.async false
set_option linter.all false
set_option maxRecDepth 100000
set_option maxHeartbeats 4000000
/-! WB: dicts whose keys are truths, their values whole numbers. -/
namespace Lw
open PySem PySem.Spec PyProof.Rows L2
def boolIs (b : Bool) : Value → Bool
  | .bool c => b == c
  | _ => false
theorem boolIs_shape {b : Bool} {v : Value} (h : boolIs b v = true) : v = .bool b := by
  cases v <;> simp [boolIs] at h
  rw [h]
theorem boolIs_self (b : Bool) : boolIs b (.bool b) = true := by simp [boolIs]
theorem pyHash_bool {prog : Program} {w : World} {A : Around} {E : Value → Shared → Prop} {s : Shared} {b : Bool} {Q : Int → Shared → Prop} (h : Q (hashInt (if b then 1 else 0)) { s with toks := s.toks + 1 }) :
    wpAny (model prog w) A (pyHash (.bool b)) Q E s := by
  have hr := rawHash_range (if b then 1 else 0)
  unfold pyHash
  have hv : [Value.bool b].any Value.onHeap = false := rfl
  refine wpAny_bind ?_
  rw [cRoomFor, if_neg (by rw [hv]; exact Bool.false_ne_true)]; refine wpAny_pure ?_
  refine wpAny_bind (wpAny_specialOf (PySem.typeIs_bool s b) F.slot_bool_hash.lookup ?_)
  show wpAny _ _ (if (some (Value.builtin "int.__hash__") == some Value.none) = true then _ else _) Q E s
  rw [if_neg (by rw [beq_builtin_none]; exact Bool.false_ne_true)]
  refine wpAny_bind (wpAny_specialOf (PySem.typeIs_bool s b) F.slot_bool_hash.lookup ?_)
  show wpAny _ _ (callSpecialIfBoundUnlessNone? (.bool b) "__hash__" _ >>= _) Q E s
  refine wpAny_bind (wpAny_callSpecialIfBoundUnlessNone?_slot (PySem.typeIs_bool s b) F.slot_bool_hash
    (wpAny_call_entry F.slot_bool_hash (PySem.typeIs_bool s b) F.entry_int_hash
      (show wpAny _ _ (do ret (← mkInt (rawHash (if b then 1 else 0)))) _ _ s from wpAny_ret_mkInt ?_) (F.args_int_hash_1 _)))
  show wpAny _ _ (if (decide (-(2 : Int) ^ 63 ≤ rawHash (if b then 1 else 0)) && decide (rawHash (if b then 1 else 0) < 2 ^ 63)) = true then _ else _) Q E _
  rw [if_pos (by rw [decide_eq_true hr.1, decide_eq_true hr.2]; rfl)]
  exact wpAny_pure h
def boolKind (prog : Program) (w : World) : PySem.KeyKind prog w Bool where
  is := boolIs
  hash := fun b => hashInt (if b then 1 else 0)
  inj := fun v a b ha hb => by
    have h1 := boolIs_shape ha
    have h2 := boolIs_shape hb
    rw [h1] at h2
    injection h2
  byValue := fun k v h => by rw [boolIs_shape h]; rfl
  pyHash := fun {A E s k v Q} hv h => by
    rw [boolIs_shape hv]
    exact pyHash_bool h
  eqBool := fun {A E s a b u v Q} hu hv h => by
    rw [boolIs_shape hu, boolIs_shape hv]
    refine SeqAt.EqAt.bool_bool a b _ _ _ _ ?_
    have e : (a == b) = decide (a = b) := by cases a <;> cases b <;> rfl
    rw [e]; exact h
  «strs» := fun k x t v h => by have := boolIs_shape h; cases this
theorem bk_is (P : Program) (w : World) (b : Bool) : (boolKind P w).is b (.bool b) = true := boolIs_self b
abbrev BKV := List (Bool × Int)
def KB (kvs : BKV) (vs : List (Bool × Value)) : Prop := Paired (fun p q => p.1 = q.1 ∧ ∃ t, q.2 = Value.int p.2 t) kvs vs
def BDok (a : Addr) (kvs : BKV) (h : Heap) : Prop := kvs.length ≤ 100 ∧ (a == sysModules) = false ∧ ∃ vs, KB kvs vs ∧ ∀ prog w, h.DictOf (boolKind prog w) a vs
def BDo (a : Addr) (kvs : BKV) : HO := .ext (BDok a kvs)
theorem bd_pairs {prog prog' : Program} {w w' : World} : ∀ {es : List DictEntry} {vs : List (Bool × Value)}, Pairs (boolKind prog w) es vs → Pairs (boolKind prog' w') es vs := by
  intro es vs h
  induction h with
  | nil => exact .nil
  | cons h1 h2 _ ih => exact .cons h1 h2 ih
theorem bd_all {prog : Program} {w : World} {h : Heap} {a : Addr} {vs : List (Bool × Value)} (d : h.DictOf (boolKind prog w) a vs) : ∀ p' w', h.DictOf (boolKind p' w') a vs := fun _ _ =>
  let ⟨o, es, ep, ho, hx, hd, hk, hp, hn⟩ := d
  ⟨o, es, ep, ho, hx, hd, hk, bd_pairs hp, hn⟩
def valB (kvs : BKV) (k : Bool) : Option Int := (kvs.find? fun kv => kv.1 = k).map (·.2)
def putB (kvs : BKV) (k : Bool) (i : Int) : BKV := if kvs.any (fun kv => kv.1 = k) then kvs.map (fun kv => if kv.1 = k then (kv.1, i) else kv) else kvs ++ [(k, i)]
theorem putB_len (kvs : BKV) (k : Bool) (i : Int) : (putB kvs k i).length ≤ kvs.length + 1 := by
  unfold putB
  split <;> simp
theorem KB.val {kvs : BKV} {vs : List (Bool × Value)} (r : KB kvs vs) (k : Bool) : (valB kvs k = none ∧ valueAt vs k = none) ∨ ∃ i t, valB kvs k = some i ∧ valueAt vs k = some (.int i t) := by
  unfold KB at r
  induction r with
  | nil => exact .inl ⟨rfl, rfl⟩
  | @cons p q ps qs h t ih =>
    obtain ⟨h1, tk, h2⟩ := h
    unfold valB valueAt at *
    by_cases e : p.1 = k
    · have e2 : q.1 = k := h1 ▸ e
      exact .inr ⟨p.2, tk, by simp [List.find?_cons, e], by simp [List.find?_cons, e2, h2]⟩
    · have e2 : ¬ q.1 = k := fun z => e (h1.trans z)
      simpa [List.find?_cons, e, e2] using ih
theorem KB.put {kvs : BKV} {vs : List (Bool × Value)} (r : KB kvs vs) (k : Bool) (i : Int) (t : Tok) : KB (putB kvs k i) (stored vs k (.int i t)) := by
  have hany : (kvs.any fun kv => decide (kv.1 = k)) = (vs.any fun kv => decide (kv.1 = k)) := by
    unfold KB at r
    induction r with
    | nil => rfl
    | @cons p q ps qs h tt ih => rw [List.any_cons, List.any_cons, ih, h.1]
  unfold putB stored
  rw [hany]
  have hmap : KB (kvs.map (fun kv => if kv.1 = k then (kv.1, i) else kv)) (vs.map (fun kv => if kv.1 = k then (kv.1, Value.int i t) else kv)) := by
    unfold KB at r ⊢
    clear hany
    induction r with
    | nil => exact .nil
    | @cons p q ps qs h tt ih =>
      rw [List.map_cons, List.map_cons]
      refine .cons ?_ ih
      by_cases e : p.1 = k
      · rw [if_pos e, if_pos (h.1.symm.trans e)]; exact ⟨h.1, t, rfl⟩
      · rw [if_neg e, if_neg (fun z => e (h.1.trans z))]; exact h
  split
  · exact hmap
  · exact Paired.snoc r ⟨rfl, t, rfl⟩
section
variable {P : Program} {w : World} {H : Hp} {h : Heap} {a : Addr} {kvs : BKV}
theorem bd_ok {vs : List (Bool × Value)} (hz : kvs.length ≤ 100) (hs : (a == sysModules) = false) (r : KB kvs vs) (d : h.DictOf (boolKind P w) a vs) : ObjOk P w H h a (BDo a kvs) := by
  refine ⟨⟨hz, hs, vs, r, bd_all d⟩, ?_, fun h1 h2 q st => ?_⟩
  · obtain ⟨o, _, _, ho, _⟩ := d
    exact ⟨o, ho⟩
  · obtain ⟨z1, z2, vs', r', d'⟩ := q
    refine ⟨z1, z2, vs', r', fun p' w' => ?_⟩
    obtain ⟨o, es, ep, ho, rest⟩ := d' p' w'
    exact ⟨o, es, ep, st o ho, rest⟩
end
section
variable {X : Cx} {pins : List (Addr × Obj)} {σ : L2.St} {H : Hp} {s : Shared} {a : Addr} {kvs : BKV}
theorem bd_at (I : Inv X pins σ H s) (e : H a = some (BDo a kvs)) : kvs.length ≤ 100 ∧ (a == sysModules) = false ∧ ∃ vs, KB kvs vs ∧ s.heap.DictOf (boolKind X.prog X.w) a vs := by
  obtain ⟨⟨z1, z2, vs, r, d⟩, _⟩ := (show ObjOk X.prog X.w H s.heap a (BDo a kvs) from I.hok a _ e)
  exact ⟨z1, z2, vs, r, d _ _⟩
variable {k v : Expr} {tk tv : TE} {pos : Pos}
theorem pe_bdisp (hk : PE X k tk) (hv : PE X v tv) : PE X (.Dict [some k] [v] pos) (fun σ H Q => ∀ p, H p = none → tk σ (upd H p (BDo p [])) fun x H1 => tv σ H1 fun y H2 => ∃ b i, x = V.bl b ∧ y = V.int i ∧ H2 p = some (BDo p []) ∧ Q (.ref p) (upd H2 p (BDo p [(b, i)]))) := by
  refine ⟨fun pins s σ H Q I q => ?_⟩
  have hn := I.hok.fresh (Nat.le_refl s.heap.objs.size)
  have I1 := I.laid (a := s.heap.objs.size) (o := BDo s.heap.objs.size []) (h' := s.heap.push { cls := .type "dict", data := .dict #[] }) (t' := s.toks) (fun _ _ q => Heap.get?_push_of_some _ q) (Nat.le_refl _)
    (bd_ok (by simp) (beq_eq_false_iff_ne.mpr (Ne.symm (Nat.ne_of_lt I.big))) .nil (Heap.DictOf.new s.heap))
  refine wpAny_Dict_walk (knd := boolKind X.prog X.w) rfl rfl (by simp) (by simp) (thn ((pps_cons (pos := pos) hk hv pps_nil).run pins _ σ _ (fun ps H2 => match ps with | [(x, y)] => ∃ b i, x = V.bl b ∧ y = V.int i ∧ H2 s.heap.objs.size = some (BDo s.heap.objs.size []) ∧ Q (.ref s.heap.objs.size) (upd H2 s.heap.objs.size (BDo s.heap.objs.size [(b, i)])) | _ => False) I1 (q _ hn)) fun ws s2 ⟨ps, H2, I2, rel, q2⟩ => ?_)
  split at q2
  · obtain ⟨b, i, rfl, rfl, e, q3⟩ := q2
    obtain ⟨z, hd, vs0, r0, dd⟩ := bd_at I2 e
    cases r0
    cases rel with
    | @cons _ q1 _ qs h1 h2 =>
      cases h2
      obtain ⟨k1, v1⟩ := q1
      obtain ⟨hk1, tk1, hv1⟩ := h1
      obtain rfl : k1 = Value.bool b := hk1
      have hv1 : v1 = Value.int i tk1 := hv1
      subst hv1
      refine ⟨[(b, .int i tk1)], ⟨bk_is X.prog X.w b, rfl, trivial⟩, dd, fun h' dd' hs => ⟨.ref s.heap.objs.size, _, ?_, rfl, q3⟩⟩
      have he : ∃ q, h'.get? s.heap.objs.size = some q := let ⟨q, _, _, hq, _⟩ := dd'; ⟨q, hq⟩
      exact d_write I2 (by rw [e]; exact True.intro) hs he (bd_ok (vs := [(b, .int i tk1)]) (by simp) hd (.cons ⟨rfl, tk1, rfl⟩ .nil) dd')
  · exact q2.elim
theorem bd_get2 {A : Around} {E : Value → Shared → Prop} {b : Bool} {i : Int} {t : Tok} {Q : Value → Shared → Prop} (I : Inv X pins σ H s) (e : H a = some (BDo a kvs)) (h : ∀ w' s', Inv X pins σ H s' → RelV (.int ((valB kvs b).getD i)) w' → Q w' s') :
    wpAny (model X.prog X.w) A (call (.builtin "dict.get") [.ref a, .bool b, .int i t]) Q E s := by
  obtain ⟨z, hd, vs, rel, dd⟩ := bd_at I e
  refine call_meetsIn PySem.F.slot_dict_get dd.typeIs PySem.F.entry_dict_get (PySem.F.args_dict_get_3 _ _ _) (meets_dict_get_default (boolKind X.prog X.w) a (bk_is X.prog X.w b) hd (.int i t)) ⟨_, dd.mapOf, h _ _ (I.tok _) ?_⟩
  rcases rel.val b with ⟨h1, h2⟩ | ⟨j, tj, h1, h2⟩
  · rw [h1, h2]; exact ⟨_, rfl⟩
  · rw [h1, h2]; exact ⟨_, rfl⟩
theorem bd_set {A : Around} {E : Value → Shared → Prop} {b : Bool} {i : Int} {t : Tok} {Q : Unit → Shared → Prop} (I : Inv X pins σ H s) (e : H a = some (BDo a kvs)) (hl : kvs.length < 100) (h : ∀ s', Inv X pins σ (upd H a (BDo a (putB kvs b i))) s' → Q () s') :
    wpAny (model X.prog X.w) A (setItem (.ref a) (.bool b) (.int i t)) Q E s := by
  obtain ⟨z, hd, vs, rel, dd⟩ := bd_at I e
  have hz : vs.length ≤ sizeLine := by rw [← rel.length, sizeLine_eq]; omega
  refine wpAny_setItem_pairs (knd := boolKind X.prog X.w) (hsz := hz) (bk_is X.prog X.w b) dd fun h' dd' hs => h _ ?_
  have he : ∃ q, h'.get? a = some q := let ⟨q, _, _, hq, _⟩ := dd'; ⟨q, hq⟩
  exact d_write I (by rw [e]; exact True.intro) hs he (bd_ok (by have := putB_len kvs b i; omega) hd (rel.put b i t) dd')
variable {o : Expr} {td ty tx : TE} {e f value : Expr} {apos cpos pos' : Pos}
theorem pe_bget2 (ho : PE X o td) (he : PE X e ty) (hf : PE X f tx) (m : M2 X o "get" apos e f cpos) : PE X (.Call (.Attribute o "get" apos) [e, f] [] cpos)
    (fun σ H Q => td σ H fun x H1 => ∃ a kvs0, x = V.ref a ∧ H1 a = some (BDo a kvs0) ∧ ty σ H1 fun y H2 => tx σ H2 fun z H3 => ∃ kvs b i, H3 a = some (BDo a kvs) ∧ y = V.bl b ∧ z = V.int i ∧ Q (.int ((valB kvs b).getD i)) H3) := by
  refine ⟨fun pins s σ H Q I h => ?_⟩
  refine wpAny_Call_method m.base m.few m.line PySem.F.plainAttrs_dict PySem.F.slot_dict_get PySem.F.type_dict_get (thn (ho.run pins s σ H _ I h) fun u s1 ⟨x, H1, I1, rx, a, kvs0, ex, d, q1⟩ => ?_)
  subst ex
  obtain rfl : u = Value.ref a := rx
  obtain ⟨_, _, _, _, dd⟩ := bd_at I1 d
  refine ⟨dd.typeIs, fun b q => ?_, ?_⟩
  · cases q
    obtain ⟨ob, _, _, h1, h2, _⟩ := dd
    exact ⟨ob, h1, h2.2.1⟩
  rw [m.trees]
  refine Calls.callWith_builtin rfl (Calls.evalArgs_plain (Calls.spliced_cons (thn (he.run pins s1 σ H1 _ I1 q1) fun iv s2 ⟨y, H2, I2, ry, q2⟩ =>
    Calls.spliced_cons (thn (hf.run pins s2 σ H2 _ I2 q2) fun fv s3 ⟨z, H3, I3, rz, kvs, b, i, g, ey, ez, q3⟩ => Calls.spliced_nil ?_))))
  subst ey ez
  obtain rfl : iv = Value.bool b := ry
  obtain ⟨t, rfl⟩ := (show ∃ t, fv = Value.int i t from rz)
  exact bd_get2 I3 g fun w' s4 I4 rw' => ⟨_, H3, I4, rw', q3⟩
theorem ps_bput {tv : TE} (ho : PE X o td) (hi : PE X e ty) (hv : PE X value tv) (hs : swapsWith value (some (.Subscript o e pos')) pos.line X.env = pure false) :
    PS X (.Assign [.Subscript o e pos'] value pos) (fun D σ H => tv σ H fun v H1 => td σ H1 fun x H2 => ty σ H2 fun y H3 => ∃ a kvs b i, x = V.ref a ∧ y = V.bl b ∧ v = V.int i ∧ H3 a = some (BDo a kvs) ∧ kvs.length < 100 ∧ D.nx σ (upd H3 a (BDo a (putB kvs b i)))) := by
  refine ⟨fun pins s σ H D I h => ?_⟩
  refine wpAny_Assign_Subscript (thn (hv.run pins s σ H _ I h) fun r s1 ⟨v, H1, I1, rv, q1⟩ => thn (ho.run pins s1 σ H1 _ I1 q1) fun u s2 ⟨x, H2, I2, rx, q2⟩ => thn (hi.run pins s2 σ H2 _ I2 q2) fun iv s3 ⟨y, H3, I3, ry, a, kvs, b, i, ex, ey, ev, g, hl, q3⟩ => ?_) hs
  subst ex ey ev
  obtain rfl : u = Value.ref a := rx
  obtain rfl : iv = Value.bool b := ry
  obtain ⟨t, rfl⟩ := (show ∃ t, r = Value.int i t from rv)
  exact bd_set I3 g hl fun s4 I4 => ⟨σ, _, I4, q3⟩
end
end Lw
/-! W0: values without addresses for what never changes; the heap G of what may change; the relations; the judgements. -/
namespace Lw
open PySem PySem.Spec PyProof.Rows L2

abbrev S (s : List Nat) : Str := ⟨s.toArray⟩
abbrev KW := Sum Int (List Nat)
def kK : KW → Key
  | .inl i => .inl i
  | .inr s => .inr (S s)

/-- values: tuples, and lists, dicts, instances that nothing changes any more, are values -/
inductive W where
  | non | bl (b : Bool) | int (i : Int) | str (s : List Nat) | ref (a : Addr) | ty (n : String)
  | sc (ns : List Int) | tup (xs : List W) | il (xs : List W) | dk (kvs : List (KW × W)) | io (c : Nat) (fs : List (Nat × W))
  | clo (xs : List Int)

/-- what may change -/
inductive WO where
  | lst (xs : List W) | dct (kvs : List (KW × W)) | obj (c : Nat) (fs : List (Nat × W))
  | fz (od : Obj) (u : HO) (kvs : List (KW × W))
  | xd (fs : List (Nat × W))
  | bd (kvs : List (Bool × Int))
  | td (ks : List (Int × Int))
  | tab

/-- a pair as the key of a dict whose values are True -/
def tdK (p : Int × Int) : List Key × V := ([.inl p.1, .inl p.2], .bl true)
abbrev WHp := Addr → Option WO
abbrev WSt := List (Option W)
def updG (G : WHp) (a : Addr) (o : WO) : WHp := fun b => if b = a then some o else G b
theorem updG_same {G : WHp} {a : Addr} {o : WO} : updG G a o a = some o := if_pos rfl
theorem updG_ne {G : WHp} {a b : Addr} {o : WO} (h : b ≠ a) : updG G a o b = G b := if_neg h
theorem updG_updG {G : WHp} {a : Addr} {o u : WO} : updG (updG G a o) a u = updG G a u := by
  funext b; unfold updG; split <;> rfl

/-- the names of fields and methods, as code points -/
def FNS : List (List Nat) := [[110, 97, 109, 101], [115, 116, 97, 114, 116], [101, 110, 100], [111, 102, 102], [110, 101, 97, 114], [108, 101, 97, 115, 116], [107, 105, 110, 100], [112, 108, 97, 99, 101, 115], [111, 119, 110, 95, 119, 97, 121, 115], [114, 111, 119], [119, 111, 114, 100], [119, 97, 121], [97, 116], [111, 116, 104, 101, 114], [99, 114, 111, 115, 115, 105, 110, 103], [115, 105, 122, 101], [114, 111, 119, 115], [98, 105, 116, 115], [109, 97, 110, 121], [98, 111, 117, 110, 100, 115], [109, 101, 109, 98, 101, 114, 115], [116, 114, 97, 109, 115], [108, 101, 97, 118, 105, 110, 103], [101, 110, 116, 101, 114, 105, 110, 103], [112, 108, 97, 110], [104, 101, 114, 101], [108, 97, 115, 116, 101, 100], [108, 101, 102, 116], [99, 111, 109, 105, 110, 103], [103, 111, 110, 101], [119, 97, 105, 116, 105, 110, 103], [112, 105, 99, 107, 101, 100], [97, 115, 107, 101, 100], [97, 115, 107, 115], [98, 101, 103, 105, 110], [107, 101, 101, 112, 101, 114], [116, 117, 114, 110], [108, 105, 110, 101, 115], [99, 114, 111, 115, 115, 105, 110, 103, 95, 98, 111, 111, 107], [112, 108, 97, 110, 95, 98, 111, 111, 107], [107, 101, 101, 112, 101, 114, 95, 98, 111, 111, 107], [97, 108, 111, 110, 101], [98, 101, 104, 105, 110, 100], [122, 122, 52, 51], [122, 122, 52, 52], [122, 122, 52, 53], [122, 122, 52, 54], [122, 122, 52, 55], [114, 101, 97, 100, 121], [102, 97, 100, 101], [103, 111, 101, 115], [102, 97, 99, 101], [110, 97, 109, 101, 115], [110, 117, 109, 98, 101, 114], [99, 97, 108, 108, 101, 100], [98, 105, 116, 115, 95, 111, 102], [116, 111, 108, 100, 95, 114, 111, 119, 115], [115, 104, 111, 119, 110], [115, 116, 97, 103, 101], [119, 97, 105, 116, 115], [112, 97, 115, 115, 95, 116, 117, 114, 110], [115, 116, 97, 121, 115], [108, 101, 97, 118, 101], [103, 111, 95, 111, 110], [112, 105, 99, 107], [115, 116, 101, 112], [119, 97, 105, 116, 95, 102, 111, 114], [98, 114, 105, 110, 103], [115, 116, 97, 121], [108, 101, 116, 95, 103, 111], [115, 116, 97, 110, 100, 105, 110, 103], [113, 117, 101, 117, 101, 115], [115, 97, 121], [107, 101, 101, 112], [116, 111, 108, 100]]
def fnT (n : Nat) : Str := S ((FNS[n]?).getD (List.replicate (n + 40) 33))
theorem fns_short : ∀ s ∈ FNS, s.length < 40 := by decide +kernel
theorem fns_nodup : FNS.Nodup := by decide +kernel
theorem fnT_inj : ∀ a b, fnT a = fnT b → a = b := by
  intro a b h
  have h : (FNS[a]?).getD (List.replicate (a + 40) 33) = (FNS[b]?).getD (List.replicate (b + 40) 33) := congrArg (fun z : Str => z.cps.toList) h
  cases ea : FNS[a]? with
  | none =>
    cases eb : FNS[b]? with
    | none =>
      rw [ea, eb] at h
      have := congrArg List.length h
      simp at this
      exact this
    | some s =>
      rw [ea, eb] at h
      have l := fns_short s (List.mem_of_getElem? eb)
      simp at h
      rw [← h] at l
      simp at l
      omega
  | some s =>
    have l := fns_short s (List.mem_of_getElem? ea)
    cases eb : FNS[b]? with
    | none =>
      rw [ea, eb] at h
      simp at h
      rw [h] at l
      simp at l
      omega
    | some u =>
      rw [ea, eb] at h
      simp at h
      subst h
      obtain ⟨ha, ea⟩ := List.getElem?_eq_some_iff.mp ea
      obtain ⟨hb, eb⟩ := List.getElem?_eq_some_iff.mp eb
      exact (List.getElem_inj fns_nodup).mp (ea.trans eb.symm)
/-- the tables: the written part, the classes' addresses -/
structure Par where
  K : PySem.W.Frag
  ca : Nat → Addr
  nd : Stmt
/-- the def within a def: its object, by the cell that it captured and its code object -/
def QN : Str := "coming_by.<locals>.come"
def Par.nf (P : Par) (c cd : Addr) : NdefX.NF := NdefX.NF.of P.nd "come" QN [("kept", c)] cd
/-- the cell at c holds the list at l -/
def CellO (c l : Addr) : HO := .ext fun h => h.IsCell c (some (.ref l))
abbrev Par.fn (_ : Par) : Nat → Str := fnT
theorem Par.inj (P : Par) : ∀ a b, P.fn a = P.fn b → a = b := fnT_inj
/-- how many fields' names there are: the tags below are fields', the others methods' -/
def NF : Nat := 48
/-- what a class says -/
def Par.cf (P : Par) (c : Nat) : Prop := Cls P.K (P.ca c) ∧ ∀ t, t < NF → NoAttr P.K (P.ca c) (P.fn t)

section
variable (P : Par) (G : WHp) (H : Hp)
/-- a list at a that nothing changes: hidden from G -/
def RoL (a : Addr) (vs : List V) : Prop := H a = some (.lst vs) ∧ G a = none
/-- the script's list: known to be the object it is, or written -/
def ScL (a : Addr) (vs : List V) : Prop := (∃ o, H a = some (.frz o (.lst vs))) ∨ SqL P.K (fun _ => none) a vs
mutual
inductive RelW : W → V → Prop
  | non : RelW .non .non
  | bl (b : Bool) : RelW (.bl b) (.bl b)
  | int (i : Int) : RelW (.int i) (.int i)
  | str (s : List Nat) : RelW (.str s) (.str (S s))
  | ref (a : Addr) : RelW (.ref a) (.ref a)
  | ty (n : String) : RelW (.ty n) (.ty n)
  | sc (a : Addr) (ns : List Int) : ScL P H a (ns.map V.int) → RelW (.sc ns) (.ref a)
  | tup (a : Addr) (vs : List V) (ws : List W) : SqT P.K H a vs → RelWs ws vs → RelW (.tup ws) (.ref a)
  | il (a : Addr) (vs : List V) (ws : List W) : RoL G H a vs → RelWs ws vs → RelW (.il ws) (.ref a)
  | dk (a : Addr) (kv : List (Key × V)) (kvs : List (KW × W)) : H a = some (.dK kv) → G a = none → RelKs kvs kv → RelW (.dk kvs) (.ref a)
  | io (a dx : Addr) (c : Nat) (fv : List (Str × V)) (fs : List (Nat × W)) : H a = some (.ins (P.ca c) dx fv) → G a = none ∧ P.cf c → RelFs fs fv → RelW (.io c fs) (.ref a)
  | clo (f c cd l : Addr) (xs : List Int) : H f = some (NdefX.FnO f (P.nf c cd)) → H c = some (CellO c l) → H cd = some (LamX.CodeO cd QN) → G f = none ∧ G c = none ∧ G cd = none → RoL G H l (xs.map V.int) → RelW (.clo xs) (.ref f)
inductive RelWs : List W → List V → Prop
  | nil : RelWs [] []
  | cons (w : W) (v : V) (ws : List W) (vs : List V) : RelW w v → RelWs ws vs → RelWs (w :: ws) (v :: vs)
inductive RelKs : List (KW × W) → List (Key × V) → Prop
  | nil : RelKs [] []
  | cons (k : KW) (w : W) (v : V) (ws : List (KW × W)) (vs : List (Key × V)) : RelW w v → RelKs ws vs → RelKs ((k, w) :: ws) ((kK k, v) :: vs)
inductive RelFs : List (Nat × W) → List (Str × V) → Prop
  | nil : RelFs [] []
  | cons (t : Nat) (w : W) (v : V) (ws : List (Nat × W)) (vs : List (Str × V)) : RelW w v → RelFs ws vs → RelFs ((t, w) :: ws) ((P.fn t, v) :: vs)
end
def RepO (a : Addr) : WO → Prop
  | .lst ws => ∃ vs, H a = some (.lst vs) ∧ RelWs P G H ws vs
  | .dct kvs => ∃ kv, H a = some (.dK kv) ∧ RelKs P G H kvs kv
  | .obj c fs => ∃ dx fv, H a = some (.ins (P.ca c) dx fv) ∧ RelFs P G H fs fv ∧ P.cf c
  | .fz od u kvs => H a = some (.frz od u) ∧ ∃ kv, u = .dK kv ∧ RelKs P G H kvs kv
  | .xd fs => ∃ fv, H a = some (.xd fv) ∧ RelFs P G H fs fv
  | .bd kvs => H a = some (BDo a kvs)
  | .td ks => H a = some (.dT (ks.map tdK))
  | .tab => a = P.ca 98 ∧ ∃ ps : Array Value, H a = some (.tbl ps) ∧ TriplesOk ps.toList ∧ ∀ (pos : Pos) (cv : Value), codeAmong pos ps.toList = some cv → ∃ c, cv = .ref c ∧ H c = some (LamX.CodeO c QN) ∧ G c = none
def Rep : Prop := ∀ a o, G a = some o → RepO P G H a o
inductive RelSt : WSt → L2.St → Prop
  | nil : RelSt [] []
  | val (w : W) (v : V) (σw : WSt) (σ : L2.St) : RelW P G H w v → RelSt σw σ → RelSt (some w :: σw) (some v :: σ)
  | hole (o : Option V) (σw : WSt) (σ : L2.St) : RelSt σw σ → RelSt (none :: σw) (o :: σ)
end
/-- what stands in H outside of G stays so -/
def isXd : HO → Bool
  | .xd _ => true
  | _ => false
def Fw (G : WHp) (H : Hp) (G' : WHp) (H' : Hp) : Prop := ∀ a o, H a = some o → isXd o = false → G a = none → H' a = some o ∧ G' a = none
theorem Fw.refl (G : WHp) (H : Hp) : Fw G H G H := fun _ _ h _ g => ⟨h, g⟩
theorem Fw.trans {G G1 G2 : WHp} {H H1 H2 : Hp} (a : Fw G H G1 H1) (b : Fw G1 H1 G2 H2) : Fw G H G2 H2 := fun c o h n g =>
  let ⟨h1, g1⟩ := a c o h n g
  b c o h1 n g1

section
variable {P : Par} {G G' : WHp} {H H' : Hp}
theorem Rep.notup (rp : Rep P G H) {a : Addr} {xs : List V} (h : H a = some (.tup xs)) : G a = none := by
  cases e : G a with
  | none => rfl
  | some o =>
    have q := rp a o e
    cases o with
    | lst ws => obtain ⟨vs, z, _⟩ := q; rw [h] at z; cases z
    | dct ws => obtain ⟨vs, z, _⟩ := q; rw [h] at z; cases z
    | obj c fs => obtain ⟨dx, vs, z, _⟩ := q; rw [h] at z; cases z
    | fz od u ws => obtain ⟨z, _⟩ := q; rw [h] at z; cases z
    | xd fs => obtain ⟨vs, z, _⟩ := q; rw [h] at z; cases z
    | bd kvs => have z : H a = some (BDo a kvs) := q; rw [h] at z; cases z
    | td kvs => have z : H a = some (.dT (kvs.map tdK)) := q; rw [h] at z; cases z
    | tab => obtain ⟨_, ps, z, _⟩ := q; rw [h] at z; cases z
theorem Rep.nofrzL (rp : Rep P G H) {a : Addr} {ob : Obj} {xs : List V} (h : H a = some (.frz ob (.lst xs))) : G a = none := by
  cases e : G a with
  | none => rfl
  | some o =>
    have q := rp a o e
    cases o with
    | lst ws => obtain ⟨vs, z, _⟩ := q; rw [h] at z; cases z
    | dct ws => obtain ⟨vs, z, _⟩ := q; rw [h] at z; cases z
    | obj c fs => obtain ⟨dx, vs, z, _⟩ := q; rw [h] at z; cases z
    | fz od u ws => obtain ⟨z, kv, e', _⟩ := q; rw [h] at z; cases z; cases e'
    | xd fs => obtain ⟨vs, z, _⟩ := q; rw [h] at z; cases z
    | bd kvs => have z : H a = some (BDo a kvs) := q; rw [h] at z; cases z
    | td kvs => have z : H a = some (.dT (kvs.map tdK)) := q; rw [h] at z; cases z
    | tab => obtain ⟨_, ps, z, _⟩ := q; rw [h] at z; cases z
theorem Rep.nofrzT (rp : Rep P G H) {a : Addr} {ob : Obj} {xs : List V} (h : H a = some (.frz ob (.tup xs))) : G a = none := by
  cases e : G a with
  | none => rfl
  | some o =>
    have q := rp a o e
    cases o with
    | lst ws => obtain ⟨vs, z, _⟩ := q; rw [h] at z; cases z
    | dct ws => obtain ⟨vs, z, _⟩ := q; rw [h] at z; cases z
    | obj c fs => obtain ⟨dx, vs, z, _⟩ := q; rw [h] at z; cases z
    | fz od u ws => obtain ⟨z, kv, e', _⟩ := q; rw [h] at z; cases z; cases e'
    | xd fs => obtain ⟨vs, z, _⟩ := q; rw [h] at z; cases z
    | bd kvs => have z : H a = some (BDo a kvs) := q; rw [h] at z; cases z
    | td kvs => have z : H a = some (.dT (kvs.map tdK)) := q; rw [h] at z; cases z
    | tab => obtain ⟨_, ps, z, _⟩ := q; rw [h] at z; cases z
theorem SqT.fw (rp : Rep P G H) (f : Fw G H G' H') {a : Addr} {vs : List V} (h : SqT P.K H a vs) : SqT P.K H' a vs := by
  rcases h with (h | ⟨o, h⟩) | h
  · exact .inl (.inl (f a _ h rfl (rp.notup h)).1)
  · exact .inl (.inr ⟨o, (f a _ h rfl (rp.nofrzT h)).1⟩)
  · exact .inr h
theorem RoL.fw (f : Fw G H G' H') {a : Addr} {vs : List V} (h : RoL G H a vs) : RoL G' H' a vs := f a _ h.1 rfl h.2
theorem ScL.fw (rp : Rep P G H) (f : Fw G H G' H') {a : Addr} {vs : List V} (h : ScL P H a vs) : ScL P H' a vs := by
  rcases h with ⟨o, h⟩ | h
  · exact .inl ⟨o, (f a _ h rfl (rp.nofrzL h)).1⟩
  · exact .inr h
theorem ScL.sq {a : Addr} {vs : List V} (h : ScL P H a vs) : SqL P.K H a vs := by
  rcases h with ⟨o, h⟩ | h
  · exact .inl (.inr ⟨o, h⟩)
  · rcases h with (h | ⟨o, h⟩) | h
    · cases h
    · cases h
    · exact .inr h
mutual
theorem RelW.fw (rp : Rep P G H) (f : Fw G H G' H') : ∀ {w : W} {v : V}, RelW P G H w v → RelW P G' H' w v
  | _, _, .non => .non
  | _, _, .bl b => .bl b
  | _, _, .int i => .int i
  | _, _, .str s => .str s
  | _, _, .ref a => .ref a
  | _, _, .ty n => .ty n
  | _, _, .sc a ns h => .sc a ns (h.fw rp f)
  | _, _, .tup a vs ws h r => .tup a vs ws (SqT.fw rp f h) (RelWs.fw rp f r)
  | _, _, .il a vs ws h r => .il a vs ws (h.fw f) (RelWs.fw rp f r)
  | _, _, .dk a kv kvs h g r => .dk a kv kvs (f a _ h rfl g).1 (f a _ h rfl g).2 (RelKs.fw rp f r)
  | _, _, .io a dx c fv fs h g r => .io a dx c fv fs (f a _ h rfl g.1).1 ⟨(f a _ h rfl g.1).2, g.2⟩ (RelFs.fw rp f r)
  | _, _, .clo a c cd l xs h1 h2 h3 g h => .clo a c cd l xs (f a _ h1 rfl g.1).1 (f c _ h2 rfl g.2.1).1 (f cd _ h3 rfl g.2.2).1 ⟨(f a _ h1 rfl g.1).2, (f c _ h2 rfl g.2.1).2, (f cd _ h3 rfl g.2.2).2⟩ (h.fw f)
theorem RelWs.fw (rp : Rep P G H) (f : Fw G H G' H') : ∀ {w : List W} {v : List V}, RelWs P G H w v → RelWs P G' H' w v
  | _, _, .nil => .nil
  | _, _, .cons w v ws vs h r => .cons w v ws vs (RelW.fw rp f h) (RelWs.fw rp f r)
theorem RelKs.fw (rp : Rep P G H) (f : Fw G H G' H') : ∀ {w : List (KW × W)} {v : List (Key × V)}, RelKs P G H w v → RelKs P G' H' w v
  | _, _, .nil => .nil
  | _, _, .cons k w v ws vs h r => .cons k w v ws vs (RelW.fw rp f h) (RelKs.fw rp f r)
theorem RelFs.fw (rp : Rep P G H) (f : Fw G H G' H') : ∀ {w : List (Nat × W)} {v : List (Str × V)}, RelFs P G H w v → RelFs P G' H' w v
  | _, _, .nil => .nil
  | _, _, .cons k w v ws vs h r => .cons k w v ws vs (RelW.fw rp f h) (RelFs.fw rp f r)
end
theorem RelSt.fw (rp : Rep P G H) (f : Fw G H G' H') : ∀ {σw : WSt} {σ : L2.St}, RelSt P G H σw σ → RelSt P G' H' σw σ
  | _, _, .nil => .nil
  | _, _, .val w v σw σ h r => .val w v σw σ (h.fw rp f) (RelSt.fw rp f r)
  | _, _, .hole o σw σ r => .hole o σw σ (RelSt.fw rp f r)
theorem RepO.fw (rp : Rep P G H) (f : Fw G H G' H') {a : Addr} {o : WO} (h : RepO P G H a o) (e : H' a = H a) : RepO P G' H' a o := by
  cases o with
  | lst ws => obtain ⟨vs, z, r⟩ := h; exact ⟨vs, by rw [e]; exact z, r.fw rp f⟩
  | dct ws => obtain ⟨vs, z, r⟩ := h; exact ⟨vs, by rw [e]; exact z, r.fw rp f⟩
  | obj c fs => obtain ⟨dx, vs, z, r, k⟩ := h; exact ⟨dx, vs, by rw [e]; exact z, r.fw rp f, k⟩
  | fz od u ws => obtain ⟨z, kv, e', r⟩ := h; exact ⟨by rw [e]; exact z, kv, e', r.fw rp f⟩
  | xd fs => obtain ⟨vs, z, r⟩ := h; exact ⟨vs, by rw [e]; exact z, r.fw rp f⟩
  | bd kvs => exact (show H' a = some (BDo a kvs) by rw [e]; exact h)
  | td kvs => exact (show H' a = some (.dT (kvs.map tdK)) by rw [e]; exact h)
  | tab =>
    obtain ⟨e0, ps, z, t, k⟩ := h
    exact ⟨e0, ps, by rw [e]; exact z, t, fun pos cv hc => let ⟨c, h1, h2, h3⟩ := k pos cv hc; ⟨c, h1, (f c _ h2 rfl h3).1, (f c _ h2 rfl h3).2⟩⟩

theorem Rep.free (rp : Rep P G H) {p : Addr} (h : H p = none) : G p = none := by
  cases e : G p with
  | none => rfl
  | some o =>
    have q := rp p o e
    cases o with
    | lst ws => obtain ⟨vs, z, _⟩ := q; rw [h] at z; cases z
    | dct ws => obtain ⟨vs, z, _⟩ := q; rw [h] at z; cases z
    | obj c fs => obtain ⟨dx, vs, z, _⟩ := q; rw [h] at z; cases z
    | fz od u ws => obtain ⟨z, _⟩ := q; rw [h] at z; cases z
    | xd fs => obtain ⟨vs, z, _⟩ := q; rw [h] at z; cases z
    | bd kvs => have z : H p = some (BDo p kvs) := q; rw [h] at z; cases z
    | td kvs => have z : H p = some (.dT (kvs.map tdK)) := q; rw [h] at z; cases z
    | tab => obtain ⟨_, ps, z, _⟩ := q; rw [h] at z; cases z
/-- a new object that G does not see -/
theorem Fw.hid {p : Addr} {o : HO} (h : H p = none) : Fw G H G (upd H p o) := fun a u e _ g => ⟨by rw [upd_ne (ne_of_none e h)]; exact e, g⟩
theorem Rep.hid (rp : Rep P G H) {p : Addr} {o : HO} (h : H p = none) : Rep P G (upd H p o) := fun a u e => by
  have ne : a ≠ p := fun z => by rw [z, rp.free h] at e; cases e
  exact (rp a u e).fw rp (Fw.hid h) (upd_ne ne)
/-- a new object that G sees -/
theorem Fw.new {p : Addr} {o : HO} {u : WO} (h : H p = none) : Fw G H (updG G p u) (upd H p o) := fun a v e _ g => ⟨by rw [upd_ne (ne_of_none e h)]; exact e, by rw [updG_ne (ne_of_none e h)]; exact g⟩
/-- a seen object changed -/
theorem Fw.put {p : Addr} {o : HO} {u w : WO} (g : G p = some w) : Fw G H (updG G p u) (upd H p o) := fun a v e _ g' => by
  have ne : a ≠ p := fun z => by rw [z, g] at g'; cases g'
  exact ⟨by rw [upd_ne ne]; exact e, by rw [updG_ne ne]; exact g'⟩
theorem Rep.put (rp : Rep P G H) {p : Addr} {o : HO} {u : WO} (f : Fw G H (updG G p u) (upd H p o)) (q : RepO P (updG G p u) (upd H p o) p u) : Rep P (updG G p u) (upd H p o) := fun a v e => by
  by_cases z : a = p
  · subst z
    rw [updG_same] at e
    cases e
    exact q
  · rw [updG_ne z] at e
    exact (rp a v e).fw rp f (upd_ne z)
end
end Lw
/-! W1: the judgements over W, and expressions. -/
namespace Lw
open PySem PySem.Spec PyProof.Rows L2

abbrev WQ := W → WHp → Prop
/-- an exception: its class, its fields -/
structure Xc where
  c : Nat
  fs : List (Nat × W)
abbrev WXK := Xc → WSt → WHp → Prop
abbrev WTE := WSt → WHp → WQ → WXK → Prop
abbrev WTT := WSt → WHp → (Bool → WHp → Prop) → WXK → Prop
abbrev WTA := WSt → WHp → (List W → WHp → Prop) → WXK → Prop
structure WEnds where
  nx : WSt → WHp → Prop
  rt : WQ
  bk : WSt → WHp → Prop
  ct : WSt → WHp → Prop
abbrev WTS := WEnds → WSt → WHp → WXK → Prop
def ExcD (P : Par) (G : WHp) (H : Hp) (d : Option Addr) (fs : List (Nat × W)) : Prop :=
  (d = none ∧ fs = []) ∨ ∃ dd fv, d = some dd ∧ H dd = some (.xd fv) ∧ G dd = none ∧ RelFs P G H fs fv
def embX (P : Par) (Ga : WHp) (Ha : Hp) (Ew : WXK) : WX := fun cls d σ H => ∃ c fs σw G, cls = .ref (P.ca c) ∧ Fw Ga Ha G H ∧ RelSt P G H σw σ ∧ Rep P G H ∧ ExcD P G H d fs ∧ Ew ⟨c, fs⟩ σw G
def embE (P : Par) (Ga : WHp) (Ha : Hp) (Ew : WXK) (t : WTE) : TE := fun σ H Q => ∃ σw G Qw, Fw Ga Ha G H ∧ RelSt P G H σw σ ∧ Rep P G H ∧ t σw G Qw Ew ∧
  ∀ w G' v H', Fw G H G' H' → RelW P G' H' w v → Rep P G' H' → Qw w G' → Q v H'
def embT (P : Par) (Ga : WHp) (Ha : Hp) (Ew : WXK) (t : WTT) : TT := fun σ H Q => ∃ σw G Qw, Fw Ga Ha G H ∧ RelSt P G H σw σ ∧ Rep P G H ∧ t σw G Qw Ew ∧
  ∀ b G' H', Fw G H G' H' → Rep P G' H' → Qw b G' → Q b H'
def embA (P : Par) (Ga : WHp) (Ha : Hp) (Ew : WXK) (t : WTA) : TA := fun σ H Q => ∃ σw G Qw, Fw Ga Ha G H ∧ RelSt P G H σw σ ∧ Rep P G H ∧ t σw G Qw Ew ∧
  ∀ ws G' vs H', Fw G H G' H' → RelWs P G' H' ws vs → Rep P G' H' → Qw ws G' → Q vs H'
def embS (P : Par) (Ga : WHp) (Ha : Hp) (Ew : WXK) (t : WTS) : TS := fun D σ H => ∃ σw G Dw, Fw Ga Ha G H ∧ RelSt P G H σw σ ∧ Rep P G H ∧ t Dw σw G Ew ∧
  (∀ σw' G' σ' H', Fw G H G' H' → RelSt P G' H' σw' σ' → Rep P G' H' → Dw.nx σw' G' → D.nx σ' H') ∧
  (∀ w G' v H', Fw G H G' H' → RelW P G' H' w v → Rep P G' H' → Dw.rt w G' → D.rt v H') ∧
  (∀ σw' G' σ' H', Fw G H G' H' → RelSt P G' H' σw' σ' → Rep P G' H' → Dw.bk σw' G' → D.bk σ' H') ∧
  (∀ σw' G' σ' H', Fw G H G' H' → RelSt P G' H' σw' σ' → Rep P G' H' → Dw.ct σw' G' → D.ct σ' H')

def JE (P : Par) (X : Cx) (e : Expr) (t : WTE) : Prop := ∀ Ga Ha Ew, Takes X (embX P Ga Ha Ew) → PE X e (embE P Ga Ha Ew t)
def JT (P : Par) (X : Cx) (e : Expr) (t : WTT) : Prop := ∀ Ga Ha Ew, Takes X (embX P Ga Ha Ew) → PT X e (embT P Ga Ha Ew t)
def JW (P : Par) (X : Cx) (e : Expr) (t : WTT) : Prop := ∀ Ga Ha Ew, Takes X (embX P Ga Ha Ew) → PW X e (embT P Ga Ha Ew t)
def JA (P : Par) (X : Cx) (es : List Expr) (t : WTA) : Prop := ∀ Ga Ha Ew, Takes X (embX P Ga Ha Ew) → PA X es (embA P Ga Ha Ew t)
def JS (P : Par) (X : Cx) (st : Stmt) (t : WTS) : Prop := ∀ Ga Ha Ew, Takes X (embX P Ga Ha Ew) → PS X st (embS P Ga Ha Ew t)
def JSs (P : Par) (X : Cx) (st : List Stmt) (t : WTS) : Prop := ∀ Ga Ha Ew, Takes X (embX P Ga Ha Ew) → PSs X st (embS P Ga Ha Ew t)

section
variable {X : Cx}
theorem PE.imp {e : Expr} {t t' : TE} (h : PE X e t) (i : ∀ σ H Q, t' σ H Q → t σ H Q) : PE X e t' := ⟨fun pins s σ H Q I q => h.run pins s σ H Q I (i σ H Q q)⟩
theorem PT.imp {e : Expr} {t t' : TT} (h : PT X e t) (i : ∀ σ H Q, t' σ H Q → t σ H Q) : PT X e t' := ⟨fun pins s σ H Q I q => h.run pins s σ H Q I (i σ H Q q)⟩
theorem PW.imp {e : Expr} {t t' : TT} (h : PW X e t) (i : ∀ σ H Q, t' σ H Q → t σ H Q) : PW X e t' := ⟨fun wh pins s σ H Q I q => h.run wh pins s σ H Q I (i σ H Q q)⟩
theorem PA.imp {e : List Expr} {t t' : TA} (h : PA X e t) (i : ∀ σ H Q, t' σ H Q → t σ H Q) : PA X e t' := ⟨fun pos pins s σ H Q I q => h.run pos pins s σ H Q I (i σ H Q q)⟩
theorem PS.imp {e : Stmt} {t t' : TS} (h : PS X e t) (i : ∀ D σ H, t' D σ H → t D σ H) : PS X e t' := ⟨fun pins s σ H D I q => h.run pins s σ H D I (i D σ H q)⟩
theorem PSs.imp {e : List Stmt} {t t' : TS} (h : PSs X e t) (i : ∀ D σ H, t' D σ H → t D σ H) : PSs X e t' := ⟨fun pins s σ H D I q => h.run pins s σ H D I (i D σ H q)⟩
theorem OpR.imp {f : Value → Value → Sem Value} {r r' : R2} (h : OpR X f r) (i : ∀ x y H Q, r' x y H Q → r x y H Q) : OpR X f r' := fun pins s σ H x y v u Q I rx ry q => h pins s σ H x y v u Q I rx ry (i x y H Q q)
theorem OpR.or {f : Value → Value → Sem Value} {r r' : R2} (h : OpR X f r) (h' : OpR X f r') : OpR X f (fun x y H Q => r x y H Q ∨ r' x y H Q) := fun pins s σ H x y v u Q I rx ry q =>
  q.elim (h pins s σ H x y v u Q I rx ry) (h' pins s σ H x y v u Q I rx ry)
theorem CallR.or {f : Value} {r r' : List V → Hp → VK → Prop} (h : CallR X f r) (h' : CallR X f r') : CallR X f (fun x H Q => r x H Q ∨ r' x H Q) := fun pins s σ H x v Q I rx q =>
  q.elim (h pins s σ H x v Q I rx) (h' pins s σ H x v Q I rx)
theorem CallR.imp {f : Value} {r r' : List V → Hp → VK → Prop} (h : CallR X f r) (i : ∀ x H Q, r' x H Q → r x H Q) : CallR X f r' := fun pins s σ H x v Q I rx q => h pins s σ H x v Q I rx (i x H Q q)
theorem UnR.imp {f : Value → Sem Value} {r r' : V → Hp → VK → Prop} (h : UnR X f r) (i : ∀ x H Q, r' x H Q → r x H Q) : UnR X f r' := fun pins s σ H x v Q I rx q => h pins s σ H x v Q I rx (i x H Q q)
end

/-! ### by values -/
abbrev WR1 := W → WHp → WQ → Prop
abbrev WR2 := W → W → WHp → WQ → Prop
abbrev WRs := List W → WHp → WQ → Prop
def emb1 (P : Par) (wr : WR1) : V → Hp → VK → Prop := fun x H Q => ∃ wx G Qw, RelW P G H wx x ∧ Rep P G H ∧ wr wx G Qw ∧ ∀ w G' v H', Fw G H G' H' → RelW P G' H' w v → Rep P G' H' → Qw w G' → Q v H'
def emb2 (P : Par) (wr : WR2) : R2 := fun x y H Q => ∃ wx wy G Qw, RelW P G H wx x ∧ RelW P G H wy y ∧ Rep P G H ∧ wr wx wy G Qw ∧ ∀ w G' v H', Fw G H G' H' → RelW P G' H' w v → Rep P G' H' → Qw w G' → Q v H'
def embL (P : Par) (wr : WRs) : List V → Hp → VK → Prop := fun xs H Q => ∃ ws G Qw, RelWs P G H ws xs ∧ Rep P G H ∧ wr ws G Qw ∧ ∀ w G' v H', Fw G H G' H' → RelW P G' H' w v → Rep P G' H' → Qw w G' → Q v H'
def OpW (P : Par) (X : Cx) (f : Value → Value → Sem Value) (wr : WR2) : Prop := OpR X f (emb2 P wr)
def UnW (P : Par) (X : Cx) (f : Value → Sem Value) (wr : WR1) : Prop := UnR X f (emb1 P wr)
def CallW (P : Par) (X : Cx) (f : Value) (wr : WRs) : Prop := CallR X f (embL P wr)

/-! ### names and constants -/
def wGet : WSt → Nat → Option W
  | [], _ => none
  | o :: _, 0 => o
  | _ :: r, i + 1 => wGet r i
def wVar (i : Nat) : WTE := fun σ G Q _ => ∃ w, wGet σ i = some w ∧ Q w G
def wC (w : W) : WTE := fun _ G Q _ => Q w G
section
variable {P : Par} {X : Cx} {G : WHp} {H : Hp}
theorem RelSt.get : ∀ {σw : WSt} {σ : L2.St} {i : Nat} {w : W}, RelSt P G H σw σ → wGet σw i = some w → ∃ v, σ[i]? = some (some v) ∧ RelW P G H w v
  | _, _, i, w, .nil, e => by cases i <;> cases e
  | _, _, 0, w, .val w' v σw σ h r, e => by cases e; exact ⟨v, rfl, h⟩
  | _, _, 0, w, .hole o σw σ r, e => by cases e
  | _, _, i + 1, w, .val w' v σw σ h r, e => RelSt.get (i := i) r e
  | _, _, i + 1, w, .hole o σw σ r, e => RelSt.get (i := i) r e
theorem RelSt.set {w : W} {v : V} (h : RelW P G H w v) : ∀ {σw : WSt} {σ : L2.St} (i : Nat), RelSt P G H σw σ → RelSt P G H (σw.set i (some w)) (σ.set i (some v))
  | _, _, i, .nil => by simpa using RelSt.nil
  | _, _, 0, .val w' v' σw σ h' r => .val w v σw σ h r
  | _, _, 0, .hole o σw σ r => .val w v σw σ h r
  | _, _, i + 1, .val w' v' σw σ h' r => .val w' v' _ _ h' (RelSt.set h i r)
  | _, _, i + 1, .hole o σw σ r => .hole o _ _ (RelSt.set h i r)
theorem RelSt.del {o : Option V} : ∀ {σw : WSt} {σ : L2.St} (i : Nat), RelSt P G H σw σ → RelSt P G H (σw.set i none) (σ.set i o)
  | _, _, i, .nil => by simpa using RelSt.nil
  | _, _, 0, .val w' v' σw σ h' r => .hole o σw σ r
  | _, _, 0, .hole o' σw σ r => .hole o σw σ r
  | _, _, i + 1, .val w' v' σw σ h' r => .val w' v' _ _ h' (RelSt.del i r)
  | _, _, i + 1, .hole o' σw σ r => .hole o' _ _ (RelSt.del i r)
/-- from a rule whose reading is asked at once -/
theorem je_of {e : Expr} {t : WTE} {te : TE} (h : PE X e te) (i : ∀ σw G σ H Qw Q Ew, RelSt P G H σw σ → Rep P G H → t σw G Qw Ew → (∀ w G' v H', Fw G H G' H' → RelW P G' H' w v → Rep P G' H' → Qw w G' → Q v H') → te σ H Q) : JE P X e t :=
  fun Ga Ha Ew _ => PE.imp h fun σ H Q ⟨σw, G, Qw, _, rs, rp, ht, hq⟩ => i σw G σ H Qw Q Ew rs rp ht hq
theorem jv (i : Nat) {x : Str} {pos : Pos} (hN : X.N[i]? = some x := by rfl) (hv : Vis X.env.scope x := by first | exact Or.inl rfl | exact Or.inr (Or.inl rfl) | exact Or.inr (Or.inr rfl)) (hd : (x == ("__debug__" : Str)) = false := by decide)
    (hcd : (x == ("__classdict__" : Str)) = false := by decide) : JE P X (.Name x pos) (wVar i) :=
  je_of (pe_var hN hv hd hcd) fun σw G σ H Qw Q Ew rs rp ⟨w, e, q⟩ hq => let ⟨v, e1, r⟩ := rs.get e; ⟨v, e1, hq w G v H (.refl _ _) r rp q⟩
theorem je_int {i j pos} : JE P X (.Constant (.int i) j pos) (wC (.int i)) := je_of pe_int fun σw G σ H Qw Q Ew rs rp q hq => hq _ G _ H (.refl _ _) (.int i) rp q
theorem je_bl {b j pos} : JE P X (.Constant (.bool b) j pos) (wC (.bl b)) := je_of pe_bl fun σw G σ H Qw Q Ew rs rp q hq => hq _ G _ H (.refl _ _) (.bl b) rp q
theorem je_non {j pos} : JE P X (.Constant .none j pos) (wC .non) := je_of pe_non fun σw G σ H Qw Q Ew rs rp q hq => hq _ G _ H (.refl _ _) .non rp q
theorem je_str {x : Str} {j pos} (s : List Nat) (hs : x = S s := by decide +kernel) : JE P X (.Constant (.str x) j pos) (wC (.str s)) := by
  subst hs
  exact je_of pe_str fun σw G σ H Qw Q Ew rs rp q hq => hq _ G _ H (.refl _ _) (.str s) rp q

/-! ### operators -/
variable {a b c : Expr} {ta tb tc : WTE} {pos : Pos}
def wOp (wr : WR2) (ta tb : WTE) : WTE := fun σ G Q E => ta σ G (fun x G1 => tb σ G1 (fun y G2 => wr x y G2 Q) E) E
def wUn (wr : WR1) (ta : WTE) : WTE := fun σ G Q E => ta σ G (fun x G1 => wr x G1 Q) E
theorem op_step {wr : WR2} {ta tb : WTE} {Ga : WHp} {Ha : Hp} {Ew : WXK} : ∀ σ H Q, embE P Ga Ha Ew (wOp wr ta tb) σ H Q → tOp (emb2 P wr) (embE P Ga Ha Ew ta) (embE P Ga Ha Ew tb) σ H Q :=
  fun σ H Q ⟨σw, G, Qw, fa, rs, rp, ht, hq⟩ => ⟨σw, G, _, fa, rs, rp, ht, fun w1 G1 v1 H1 f1 r1 p1 h1 => ⟨σw, G1, _, fa.trans f1, rs.fw rp f1, p1, h1, fun w2 G2 v2 H2 f2 r2 p2 h2 =>
    ⟨w1, w2, G2, Qw, r1.fw p1 f2, r2, p2, h2, fun w G' v H' f r p q => hq w G' v H' (f1.trans (f2.trans f)) r p q⟩⟩⟩
theorem je_op {op : Operator} {wr : WR2} (ho : OpW P X (binaryOp op) wr) (ha : JE P X a ta) (hb : JE P X b tb) : JE P X (.BinOp a op b pos) (wOp wr ta tb) :=
  fun Ga Ha Ew tk => PE.imp (pe_op ho (ha Ga Ha Ew tk) (hb Ga Ha Ew tk)) op_step
theorem je_cmp {op : CmpOp} {wr : WR2} (ho : OpW P X (compareOp op) wr) (ha : JE P X a ta) (hb : JE P X b tb) (hm : behindInMarks op b = false := by first | exact nobehind _ (by decide) (by decide) | rfl) : JE P X (.Compare a [op] [b] pos) (wOp wr ta tb) :=
  fun Ga Ha Ew tk => PE.imp (pe_cmpR ho (ha Ga Ha Ew tk) (hb Ga Ha Ew tk) hm) op_step
/-- a value that is a bool, as a test -/
def wTest (t : WTE) : WTT := fun σ G Q E => t σ G (fun x G1 => ∃ k, x = .bl k ∧ Q k G1) E
theorem RelW.bool {k : Bool} {v : V} (h : RelW P G H (.bl k) v) : v = .bl k := by cases h; rfl
theorem test_step {t : WTE} {Ga : WHp} {Ha : Hp} {Ew : WXK} : ∀ σ H Q, embT P Ga Ha Ew (wTest t) σ H Q → embE P Ga Ha Ew t σ H (fun x H' => ∃ k, x = .bl k ∧ Q k H') :=
  fun σ H Q ⟨σw, G, Qw, fa, rs, rp, ht, hq⟩ => ⟨σw, G, _, fa, rs, rp, ht, fun w G1 v H1 f1 r p ⟨k, e, q⟩ => by subst e; cases r; exact ⟨k, rfl, hq k G1 H1 f1 p q⟩⟩
theorem jt_val (h : JE P X a ta) (he : ∀ whole, isTrue a X.env whole = (do let v ← whole; standAt a.pos; holding [v] (truthy v)) := by intro _; rfl) : JT P X a (wTest ta) := fun Ga Ha Ew tk => PT.imp (pt_val (h Ga Ha Ew tk) he) test_step
theorem jt_cmp {op : CmpOp} {wr : WR2} (ho : OpW P X (compareOp op) wr) (ha : JE P X a ta) (hb : JE P X b tb) (hm : behindInMarks op b = false := by first | exact nobehind _ (by decide) (by decide) | rfl) : JT P X (.Compare a [op] [b] pos) (wTest (wOp wr ta tb)) :=
  fun Ga Ha Ew tk => PT.imp (pt_cmpR ho (ha Ga Ha Ew tk) (hb Ga Ha Ew tk) hm) fun σ H Q ⟨σw, G, Qw, fa, rs, rp, ht, hq⟩ => op_step σ H _ ⟨σw, G, _, fa, rs, rp, ht, fun w G1 v H1 f1 r p ⟨k, e, q⟩ => by subst e; cases r; exact ⟨k, rfl, hq k G1 H1 f1 p q⟩⟩
/-! ### and, or, not, if -/
variable {rest : List Expr} {tA tB : WTT}
def wAnd (t u : WTT) : WTT := fun σ G Q E => t σ G (fun c G1 => if c = true then u σ G1 Q E else Q false G1) E
def wOr (t u : WTT) : WTT := fun σ G Q E => t σ G (fun c G1 => if c = true then Q true G1 else u σ G1 Q E) E
def wNot (t : WTT) : WTT := fun σ G Q E => t σ G (fun c G1 => Q (!c) G1) E
theorem jw_and1 (ha : JT P X a tA) : JW P X (.BoolOp .And [a] pos) tA := fun Ga Ha Ew tk => pw_and1 (ha Ga Ha Ew tk)
theorem jw_or1 (ha : JT P X a tA) : JW P X (.BoolOp .Or [a] pos) tA := fun Ga Ha Ew tk => pw_or1 (ha Ga Ha Ew tk)
theorem jw_and (ha : JT P X a tA) (hb : JW P X (.BoolOp .And (b :: rest) pos) tB) : JW P X (.BoolOp .And (a :: b :: rest) pos) (wAnd tA tB) := fun Ga Ha Ew tk =>
  PW.imp (pw_and (ha Ga Ha Ew tk) (hb Ga Ha Ew tk)) fun σ H Q ⟨σw, G, Qw, fa, rs, rp, ht, hq⟩ => ⟨σw, G, _, fa, rs, rp, ht, fun c G1 H1 f1 p1 h1 => by
    cases c with
    | true => exact ⟨σw, G1, Qw, fa.trans f1, rs.fw rp f1, p1, h1, fun b G2 H2 f2 p2 q => hq b G2 H2 (f1.trans f2) p2 q⟩
    | false => exact hq false G1 H1 f1 p1 h1⟩
theorem jw_or (ha : JT P X a tA) (hb : JW P X (.BoolOp .Or (b :: rest) pos) tB) : JW P X (.BoolOp .Or (a :: b :: rest) pos) (wOr tA tB) := fun Ga Ha Ew tk =>
  PW.imp (pw_or (ha Ga Ha Ew tk) (hb Ga Ha Ew tk)) fun σ H Q ⟨σw, G, Qw, fa, rs, rp, ht, hq⟩ => ⟨σw, G, _, fa, rs, rp, ht, fun c G1 H1 f1 p1 h1 => by
    cases c with
    | false => exact ⟨σw, G1, Qw, fa.trans f1, rs.fw rp f1, p1, h1, fun b G2 H2 f2 p2 q => hq b G2 H2 (f1.trans f2) p2 q⟩
    | true => exact hq true G1 H1 f1 p1 h1⟩
theorem JW.pt {e : Expr} {t : WTT} (h : JW P X e t) : JT P X e t := fun Ga Ha Ew tk => PW.pt (h Ga Ha Ew tk)
theorem jt_not (ha : JT P X a tA) : JT P X (.UnaryOp .Not a pos) (wNot tA) := fun Ga Ha Ew tk =>
  PT.imp (pt_not (ha Ga Ha Ew tk)) fun σ H Q ⟨σw, G, Qw, fa, rs, rp, ht, hq⟩ => ⟨σw, G, _, fa, rs, rp, ht, fun c G1 H1 f1 p1 h1 => hq (!c) G1 H1 f1 p1 h1⟩
/-- as values, all bools -/
def wAndV (ta tb : WTE) : WTE := fun σ G Q E => ta σ G (fun x G1 => ∃ c, x = .bl c ∧ if c = true then tb σ G1 Q E else Q (.bl false) G1) E
def wOrV (ta tb : WTE) : WTE := fun σ G Q E => ta σ G (fun x G1 => ∃ c, x = .bl c ∧ if c = true then Q (.bl true) G1 else tb σ G1 Q E) E
def wNotV (ta : WTE) : WTE := fun σ G Q E => ta σ G (fun x G1 => ∃ c, x = .bl c ∧ Q (.bl (!c)) G1) E
theorem je_one {op} {t : WTE} (h : JE P X a t) : JE P X (.BoolOp op [a] pos) t := fun Ga Ha Ew tk => pe_one (h Ga Ha Ew tk)
theorem je_and (ha : JE P X a ta) (hb : JE P X (.BoolOp .And (b :: rest) pos) tb) : JE P X (.BoolOp .And (a :: b :: rest) pos) (wAndV ta tb) := fun Ga Ha Ew tk =>
  PE.imp (pe_and (ha Ga Ha Ew tk) (hb Ga Ha Ew tk)) fun σ H Q ⟨σw, G, Qw, fa, rs, rp, ht, hq⟩ => ⟨σw, G, _, fa, rs, rp, ht, fun w G1 v1 H1 f1 r1 p1 ⟨c, e, h1⟩ => by
    subst e
    cases r1
    refine ⟨c, rfl, ?_⟩
    cases c with
    | true => exact ⟨σw, G1, Qw, fa.trans f1, rs.fw rp f1, p1, h1, fun w2 G2 v2 H2 f2 r2 p2 q => hq w2 G2 v2 H2 (f1.trans f2) r2 p2 q⟩
    | false => exact hq _ G1 _ H1 f1 (.bl false) p1 h1⟩
theorem je_or (ha : JE P X a ta) (hb : JE P X (.BoolOp .Or (b :: rest) pos) tb) : JE P X (.BoolOp .Or (a :: b :: rest) pos) (wOrV ta tb) := fun Ga Ha Ew tk =>
  PE.imp (pe_or (ha Ga Ha Ew tk) (hb Ga Ha Ew tk)) fun σ H Q ⟨σw, G, Qw, fa, rs, rp, ht, hq⟩ => ⟨σw, G, _, fa, rs, rp, ht, fun w G1 v1 H1 f1 r1 p1 ⟨c, e, h1⟩ => by
    subst e
    cases r1
    refine ⟨c, rfl, ?_⟩
    cases c with
    | false => exact ⟨σw, G1, Qw, fa.trans f1, rs.fw rp f1, p1, h1, fun w2 G2 v2 H2 f2 r2 p2 q => hq w2 G2 v2 H2 (f1.trans f2) r2 p2 q⟩
    | true => exact hq _ G1 _ H1 f1 (.bl true) p1 h1⟩
theorem je_not (ha : JE P X a ta) : JE P X (.UnaryOp .Not a pos) (wNotV ta) := fun Ga Ha Ew tk =>
  PE.imp (pe_not (ha Ga Ha Ew tk)) fun σ H Q ⟨σw, G, Qw, fa, rs, rp, ht, hq⟩ => ⟨σw, G, _, fa, rs, rp, ht, fun w G1 v1 H1 f1 r1 p1 ⟨c, e, h1⟩ => by
    subst e
    cases r1
    exact ⟨c, rfl, hq _ G1 _ H1 f1 (.bl _) p1 h1⟩⟩
def wIf (t : WTT) (ta tb : WTE) : WTE := fun σ G Q E => t σ G (fun c G1 => if c = true then ta σ G1 Q E else tb σ G1 Q E) E
theorem je_ifExp (hc : JT P X c tA) (ha : JE P X a ta) (hb : JE P X b tb) : JE P X (.IfExp c a b pos) (wIf tA ta tb) := fun Ga Ha Ew tk =>
  PE.imp (pe_ifExp (hc Ga Ha Ew tk) (ha Ga Ha Ew tk) (hb Ga Ha Ew tk)) fun σ H Q ⟨σw, G, Qw, fa, rs, rp, ht, hq⟩ => ⟨σw, G, _, fa, rs, rp, ht, fun d G1 H1 f1 p1 h1 => by
    cases d with
    | true => exact ⟨σw, G1, Qw, fa.trans f1, rs.fw rp f1, p1, h1, fun w2 G2 v2 H2 f2 r2 p2 q => hq w2 G2 v2 H2 (f1.trans f2) r2 p2 q⟩
    | false => exact ⟨σw, G1, Qw, fa.trans f1, rs.fw rp f1, p1, h1, fun w2 G2 v2 H2 f2 r2 p2 q => hq w2 G2 v2 H2 (f1.trans f2) r2 p2 q⟩⟩
/-- a < b < c -/
def wChain (wr wr' : WR2) (ta tb tc : WTE) : WTE := fun σ G Q E => ta σ G (fun x G1 => tb σ G1 (fun y G2 => wr x y G2 fun z G3 => ∃ k, z = .bl k ∧ if k = true then tc σ G3 (fun u G4 => wr' y u G4 Q) E else Q (.bl false) G3) E) E

theorem je_un {op : UnaryOp} {wr : WR1} (ho : UnW P X (unaryOp op) wr) (ha : JE P X a ta) : JE P X (.UnaryOp op a pos) (wUn wr ta) :=
  fun Ga Ha Ew tk => PE.imp (pe_un ho (ha Ga Ha Ew tk)) fun σ H Q ⟨σw, G, Qw, fa, rs, rp, ht, hq⟩ => ⟨σw, G, _, fa, rs, rp, ht, fun w1 G1 v1 H1 f1 r1 p1 h1 =>
    ⟨w1, G1, Qw, r1, p1, h1, fun w G' v H' f r p q => hq w G' v H' (f1.trans f) r p q⟩⟩
end
end Lw
/-! W2: statements, loops, calls of the text's defs. -/
namespace Lw
open PySem PySem.Spec PyProof.Rows L2
section
variable {P : Par} {X : Cx} {st : Stmt} {rest : List Stmt} {t u : WTS} {e : Expr} {te : WTE} {pos : Pos}
def wNext : WTS := fun D σ G _ => D.nx σ G
def wSeq (t u : WTS) : WTS := fun D σ G E => t { D with nx := fun σ' G' => u D σ' G' E } σ G E
def wBreak : WTS := fun D σ G _ => D.bk σ G
def wCont : WTS := fun D σ G _ => D.ct σ G
def wNever : WTS := fun _ _ _ _ => False
theorem jss_nil : JSs P X [] wNext := fun Ga Ha Ew tk => PSs.imp pss_nil fun D σ H ⟨σw, G, Dw, fa, rs, rp, ht, h1, h2, h3, h4⟩ => h1 σw G σ H (.refl _ _) rs rp ht
theorem jss_cons (ha : JS P X st t) (hb : JSs P X rest u) : JSs P X (st :: rest) (wSeq t u) := fun Ga Ha Ew tk =>
  PSs.imp (pss_cons (ha Ga Ha Ew tk) (hb Ga Ha Ew tk)) fun D σ H ⟨σw, G, Dw, fa, rs, rp, ht, h1, h2, h3, h4⟩ => ⟨σw, G, _, fa, rs, rp, ht, fun σw' G' σ' H' f r p q =>
    ⟨σw', G', Dw, fa.trans f, r, p, q, fun a b c d f' => h1 a b c d (f.trans f'), fun a b c d f' => h2 a b c d (f.trans f'), fun a b c d f' => h3 a b c d (f.trans f'), fun a b c d f' => h4 a b c d (f.trans f')⟩, h2, h3, h4⟩
theorem jss_one (ha : JS P X st t) : JSs P X [st] t := fun Ga Ha Ew tk => pss_one (ha Ga Ha Ew tk)
theorem js_pass : JS P X (.Pass pos) wNext := fun Ga Ha Ew tk => PS.imp ps_pass fun D σ H ⟨σw, G, Dw, fa, rs, rp, ht, h1, h2, h3, h4⟩ => h1 σw G σ H (.refl _ _) rs rp ht
theorem js_break : JS P X (.Break pos) wBreak := fun Ga Ha Ew tk => PS.imp ps_break fun D σ H ⟨σw, G, Dw, fa, rs, rp, ht, h1, h2, h3, h4⟩ => h3 σw G σ H (.refl _ _) rs rp ht
theorem js_continue : JS P X (.Continue pos) wCont := fun Ga Ha Ew tk => PS.imp ps_continue fun D σ H ⟨σw, G, Dw, fa, rs, rp, ht, h1, h2, h3, h4⟩ => h4 σw G σ H (.refl _ _) rs rp ht
theorem js_never : JS P X st wNever := fun Ga Ha Ew tk => PS.imp ps_never fun D σ H ⟨σw, G, Dw, fa, rs, rp, ht, _⟩ => ht
theorem jss_never {sts : List Stmt} : JSs P X sts wNever := fun Ga Ha Ew tk => PSs.imp pss_never fun D σ H ⟨σw, G, Dw, fa, rs, rp, ht, _⟩ => ht
def wDrop (te : WTE) : WTS := fun D σ G E => te σ G (fun _ G1 => D.nx σ G1) E
theorem js_expr (he : JE P X e te) (hs : swapsWith e none pos.line X.env = pure false := by rfl) : JS P X (.Expr e pos) (wDrop te) := fun Ga Ha Ew tk =>
  PS.imp (ps_expr (he Ga Ha Ew tk) hs) fun D σ H ⟨σw, G, Dw, fa, rs, rp, ht, h1, h2, h3, h4⟩ => ⟨σw, G, _, fa, rs, rp, ht, fun w G' v H' f r p q => h1 σw G' σ H' f (rs.fw rp f) p q⟩
def wRet (te : WTE) : WTS := fun D σ G E => te σ G D.rt E
theorem js_ret (he : JE P X e te) : JS P X (.Return (some e) pos) (wRet te) := fun Ga Ha Ew tk =>
  PS.imp (ps_ret (he Ga Ha Ew tk)) fun D σ H ⟨σw, G, Dw, fa, rs, rp, ht, h1, h2, h3, h4⟩ => ⟨σw, G, _, fa, rs, rp, ht, fun w G' v H' f r p q => h2 w G' v H' f r p q⟩
def wRetN : WTS := fun D _ G _ => D.rt .non G
theorem js_retN : JS P X (.Return none pos) wRetN := fun Ga Ha Ew tk => PS.imp ps_retN fun D σ H ⟨σw, G, Dw, fa, rs, rp, ht, h1, h2, h3, h4⟩ => h2 .non G .non H (.refl _ _) .non rp ht
def wIfS (c : WTT) (t u : WTS) : WTS := fun D σ G E => c σ G (fun b G1 => if b = true then t D σ G1 E else u D σ G1 E) E
theorem js_if {c : Expr} {a b : List Stmt} {tc : WTT} (hc : JT P X c tc) (ha : JSs P X a t) (hb : JSs P X b u) : JS P X (.If c a b pos) (wIfS tc t u) := fun Ga Ha Ew tk =>
  PS.imp (ps_if (hc Ga Ha Ew tk) (ha Ga Ha Ew tk) (hb Ga Ha Ew tk)) fun D σ H ⟨σw, G, Dw, fa, rs, rp, ht, h1, h2, h3, h4⟩ => ⟨σw, G, _, fa, rs, rp, ht, fun d G1 H1 f p q => by
    have ends := And.intro (fun a b c d f' => h1 a b c d (f.trans f')) (And.intro (fun a b c d f' => h2 a b c d (f.trans f')) (And.intro (fun a b c d f' => h3 a b c d (f.trans f')) (fun a b c d f' => h4 a b c d (f.trans f'))))
    cases d with
    | true => exact ⟨σw, G1, Dw, fa.trans f, rs.fw rp f, p, q, ends⟩
    | false => exact ⟨σw, G1, Dw, fa.trans f, rs.fw rp f, p, q, ends⟩⟩

/-! ### targets -/
abbrev WTG := W → WSt → WHp → (WSt → WHp → Prop) → WXK → Prop
def embG (P : Par) (Ga : WHp) (Ha : Hp) (Ew : WXK) (t : WTG) : TG := fun v σ H Q => ∃ w σw G Qw, Fw Ga Ha G H ∧ RelW P G H w v ∧ RelSt P G H σw σ ∧ Rep P G H ∧ t w σw G Qw Ew ∧
  ∀ σw' G' σ' H', Fw G H G' H' → RelSt P G' H' σw' σ' → Rep P G' H' → Qw σw' G' → Q σ' H'
def JG (P : Par) (X : Cx) (e : Expr) (t : WTG) : Prop := ∀ Ga Ha Ew, Takes X (embX P Ga Ha Ew) → PG X e (embG P Ga Ha Ew t)
theorem PG.imp {e : Expr} {t t' : TG} (h : PG X e t) (i : ∀ v σ H Q, t' v σ H Q → t v σ H Q) : PG X e t' := ⟨fun pins s σ H v u Q I r q => h.run pins s σ H v u Q I r (i v σ H Q q)⟩
def wN (i : Nat) : WTG := fun w σ G Q _ => Q (σ.set i (some w)) G
theorem jg_name {i : Nat} {x : Str} (hN : X.N.Nodup) (hi : X.N[i]? = some x) (hx : Loc X.env.scope x) (hf : X.fn x = true ∨ X.env.scope.names.lookup x = some .local := by first | exact .inl rfl | exact .inr rfl | assumption) : JG P X (.Name x pos) (wN i) := fun Ga Ha Ew tk =>
  PG.imp (pg_name hN hi hx hf) fun v σ H Q ⟨w, σw, G, Qw, fa, rw_, rs, rp, ht, hq⟩ => hq _ G _ H (.refl _ _) (rs.set rw_ i) rp ht
def wAsg (te : WTE) (g : WTG) : WTS := fun D σ G E => te σ G (fun x G1 => g x σ G1 D.nx E) E
theorem js_set {i : Nat} {x : Str} {pos' : Pos} (hN : X.N.Nodup) (hi : X.N[i]? = some x) (hx : Loc X.env.scope x) (he : JE P X e te) (hs : swapsWith e (some (.Name x pos')) pos.line X.env = pure false := by rfl) (hf : X.fn x = true ∨ X.env.scope.names.lookup x = some .local := by first | exact .inl rfl | exact .inr rfl | assumption) :
    JS P X (.Assign [.Name x pos'] e pos) (wAsg te (wN i)) := fun Ga Ha Ew tk =>
  PS.imp (ps_set hN hi hx (he Ga Ha Ew tk) hs hf) fun D σ H ⟨σw, G, Dw, fa, rs, rp, ht, h1, h2, h3, h4⟩ => ⟨σw, G, _, fa, rs, rp, ht, fun w G' v H' f r p q => h1 _ G' _ H' f ((rs.fw rp f).set r i) p q⟩
theorem js_asg {tg : Expr} {g : WTG} (he : JE P X e te) (hg : JG P X tg g) (hs : swapsWithSole [tg] e pos.line X.env = pure false := by rfl) (hw : swappedStores [tg] e X.env = pure none := by rfl)
    (h1 : (assignEach [tg] X.env).map (·.2) = [assign tg X.env] := by rfl) : JS P X (.Assign [tg] e pos) (wAsg te g) := fun Ga Ha Ew tk =>
  PS.imp (ps_asg (he Ga Ha Ew tk) (hg Ga Ha Ew tk) hs hw h1) fun D σ H ⟨σw, G, Dw, fa, rs, rp, ht, h1, h2, h3, h4⟩ => ⟨σw, G, _, fa, rs, rp, ht, fun w G' v H' f r p q =>
    ⟨w, σw, G', Dw.nx, fa.trans f, r, rs.fw rp f, p, q, fun a b c d f' => h1 a b c d (f.trans f')⟩⟩
/-- a, b = a tuple -/
abbrev WTGs := List W → WSt → WHp → (WSt → WHp → Prop) → WXK → Prop
def embGs (P : Par) (Ga : WHp) (Ha : Hp) (Ew : WXK) (t : WTGs) : TGs := fun v σ H Q => ∃ w σw G Qw, Fw Ga Ha G H ∧ RelWs P G H w v ∧ RelSt P G H σw σ ∧ Rep P G H ∧ t w σw G Qw Ew ∧
  ∀ σw' G' σ' H', Fw G H G' H' → RelSt P G' H' σw' σ' → Rep P G' H' → Qw σw' G' → Q σ' H'
def JGs (P : Par) (X : Cx) (e : List Expr) (t : WTGs) : Prop := ∀ Ga Ha Ew, Takes X (embX P Ga Ha Ew) → PGs X e (embGs P Ga Ha Ew t)
theorem PGs.imp {e : List Expr} {t t' : TGs} (h : PGs X e t) (i : ∀ v σ H Q, t' v σ H Q → t v σ H Q) : PGs X e t' := ⟨fun pins s σ H v u Q I r q => h.run pins s σ H v u Q I r (i v σ H Q q)⟩
def wGNil : WTGs := fun vs σ G Q _ => vs = [] ∧ Q σ G
def wGCons (t : WTG) (u : WTGs) : WTGs := fun vs σ G Q E => ∃ v r, vs = v :: r ∧ t v σ G (fun σ' G' => u r σ' G' Q E) E
theorem jgs_nil : JGs P X [] wGNil := fun Ga Ha Ew tk => PGs.imp pgs_nil fun v σ H Q ⟨w, σw, G, Qw, fa, rw_, rs, rp, ht, hq⟩ => by
  obtain ⟨rfl, q⟩ := ht
  cases rw_
  exact ⟨rfl, hq _ G _ H (.refl _ _) rs rp q⟩
theorem jgs_cons {es : List Expr} {g : WTG} {gs : WTGs} (ha : JG P X e g) (hb : JGs P X es gs) (hs : (assignEach (e :: es) X.env).map (·.2) = assign e X.env :: (assignEach es X.env).map (·.2) := by rfl) : JGs P X (e :: es) (wGCons g gs) := fun Ga Ha Ew tk =>
  PGs.imp (pgs_cons (ha Ga Ha Ew tk) (hb Ga Ha Ew tk) hs) fun v σ H Q ⟨w, σw, G, Qw, fa, rw_, rs, rp, ht, hq⟩ => by
    obtain ⟨w1, wr, rfl, q⟩ := ht
    cases rw_ with
    | cons _ v1 _ vr r1 rr =>
      exact ⟨v1, vr, rfl, w1, σw, G, _, fa, r1, rs, rp, q, fun σw' G' σ' H' f r p q2 => ⟨wr, σw', G', Qw, fa.trans f, rr.fw rp f, r, p, q2, fun a b c d f' => hq a b c d (f.trans f')⟩⟩
def wGTup (n : Nat) (t : WTGs) : WTG := fun w σ G Q E => ∃ xs, w = .tup xs ∧ xs.length = n ∧ t xs σ G Q E
theorem RelWs.length {G : WHp} {H : Hp} : ∀ {ws : List W} {vs : List V}, RelWs P G H ws vs → ws.length = vs.length
  | _, _, .nil => rfl
  | _, _, .cons w v ws vs _ r => by simp [RelWs.length r]
theorem jg_tup (hK : X.K = P.K) {es : List Expr} {k : Nat} {g : WTGs} {n : Nat} (hc : X.calm = true) (h : JGs P X es g)
    (hn : (assignEach es X.env).length = n := by rfl) (hst : (assignEach es X.env).findIdx? (·.1) = none := by rfl) : JG P X (.Tuple es k pos) (wGTup n g) := fun Ga Ha Ew tk =>
  PG.imp (pg_tup hc (h Ga Ha Ew tk) hn hst) fun v σ H Q ⟨w, σw, G, Qw, fa, rw_, rs, rp, ht, hq⟩ => by
    obtain ⟨xs, rfl, hl, q⟩ := ht
    cases rw_ with
    | tup a vs ws sq r => exact ⟨a, vs, rfl, by rw [hK]; exact sq, by rw [← r.length]; exact hl, xs, σw, G, Qw, fa, r, rs, rp, q, hq⟩
end

/-! ### for -/
/-- what is walked: its items, and what must stay for them to come -/
abbrev WTI := WSt → WHp → (List W → (WHp → Prop) → WHp → Prop) → WXK → Prop
/-- soundness of what is walked: the items come, one by one, at every heap that is reached with ok -/
def embI (P : Par) (Ga : WHp) (Ha : Hp) (Ew : WXK) (t : WTI) : TI := fun σ H R => ∃ σw G Rw, Fw Ga Ha G H ∧ RelSt P G H σw σ ∧ Rep P G H ∧ t σw G Rw Ew ∧
  ∀ (xs : List W) (ok : WHp → Prop) (G1 : WHp) (H1 : Hp) (J : It), Fw G H G1 H1 → Rep P G1 H1 → Rw xs ok G1 →
    (∀ i G2 H2, Fw G1 H1 G2 H2 → Rep P G2 H2 → ok G2 → xs.length ≤ i → J.stop i H2) →
    (∀ i G2 H2, Fw G1 H1 G2 H2 → Rep P G2 H2 → ok G2 → i < xs.length → J.go i H2) →
    (∀ i G2 H2 x H3, Fw G1 H1 G2 H2 → Rep P G2 H2 → ok G2 → i < xs.length → J.yld i H2 x H3 → ∃ w, xs[i]? = some w ∧ Fw G2 H2 G2 H3 ∧ Rep P G2 H3 ∧ RelW P G2 H3 w x) → R J H1
def JI (P : Par) (X : Cx) (tg iter : Expr) (t : WTI) : Prop := ∀ Ga Ha Ew, Takes X (embX P Ga Ha Ew) → PI X tg iter (embI P Ga Ha Ew t)
/-- a loop over items: some invariant holds at the start, every turn keeps it, and behind the last one it gives what follows -/
def LoopOk (g : WTG) (tb : WTS) (D : WEnds) (σ : WSt) (E : WXK) (xs : List W) (ok : WHp → Prop) (G1 : WHp) : Prop := ∃ Inv : Nat → WSt → WHp → Prop, Inv 0 σ G1 ∧ (∀ i σ' G', i ≤ xs.length → Inv i σ' G' → ok G') ∧
  (∀ i x σ' G', xs[i]? = some x → Inv i σ' G' → g x σ' G' (fun σ2 G2 => tb { D with nx := Inv (i + 1), ct := Inv (i + 1), bk := D.nx } σ2 G2 E) E) ∧ (∀ σ' G', Inv xs.length σ' G' → D.nx σ' G')
def wFor (wi : WTI) (g : WTG) (tb : WTS) : WTS := fun D σ G E => wi σ G (fun xs ok G1 => LoopOk g tb D σ E xs ok G1) E
section
variable {P : Par} {X : Cx} {pos : Pos} {tg iter : Expr} {body : List Stmt} {wi : WTI} {g : WTG} {tb : WTS}
theorem js_for (hp : PassesOwn (model X.prog X.w) X.A X.env X.xe) (hc : X.calm = true) (hi : JI P X tg iter wi) (hg : JG P X tg g) (hb : JSs P X body tb)
    (hs : ∀ x, foldedSetIterable iter X.env x = pure x := by intro _; rfl) : JS P X (.For tg iter body [] pos) (wFor wi g tb) := fun Ga Ha Ew tk =>
  PS.imp (ps_for hp hc (hi Ga Ha Ew tk) (hg Ga Ha Ew tk) (hb Ga Ha Ew tk) hs) fun D σ H ⟨σw, G, Dw, fa, rs, rp, ht, h1, h2, h3, h4⟩ => ⟨σw, G, _, fa, rs, rp, ht, fun xs ok G1 H1 J f1 p1 hR hstop hgo hyld => by
    obtain ⟨Iv, i0, iok, istep, iend⟩ := hR
    refine ⟨fun i m σ' H' => m = xs.length - i ∧ i ≤ xs.length ∧ ∃ σw' G', Fw G1 H1 G' H' ∧ RelSt P G' H' σw' σ' ∧ Rep P G' H' ∧ Iv i σw' G', ⟨_, rfl, Nat.zero_le _, σw, G1, .refl _ _, rs.fw rp f1, p1, i0⟩, ?_⟩
    rintro i m σ' H' ⟨rfl, hi, σw', G', f', rs', rp', iv⟩
    have hok := iok i σw' G' hi iv
    by_cases hlt : i < xs.length
    · refine .inr ⟨hgo i G' H' f' rp' hok hlt, fun σ2 H2 => i + 1 ≤ xs.length ∧ ∃ σw' G', Fw G1 H1 G' H2 ∧ RelSt P G' H2 σw' σ2 ∧ Rep P G' H2 ∧ Iv (i + 1) σw' G', fun σ2 H2 n => ⟨xs.length - (i + 1), by omega, rfl, n⟩, fun x H3 y => ?_⟩
      obtain ⟨w, hw, f3, p3, rw_⟩ := hyld i G' H' x H3 f' rp' hok hlt y
      refine ⟨w, σw', G', _, fa.trans (f1.trans (f'.trans f3)), rw_, rs'.fw rp' f3, p3, istep i w σw' G' hw iv, fun σw4 G4 σ4 H4 f4 r4 p4 q4 => ?_⟩
      refine ⟨σw4, G4, _, fa.trans (f1.trans ((f'.trans f3).trans f4)), r4, p4, q4, fun σw5 G5 σ5 H5 f5 r5 p5 q5 => ?_, fun w5 G5 v5 H5 f5 r5 p5 q5 => ?_, fun σw5 G5 σ5 H5 f5 r5 p5 q5 => ?_, fun σw5 G5 σ5 H5 f5 r5 p5 q5 => ?_⟩
      · exact ⟨hlt, σw5, G5, (f'.trans f3).trans (f4.trans f5), r5, p5, q5⟩
      · exact h2 w5 G5 v5 H5 (f1.trans ((f'.trans f3).trans (f4.trans f5))) r5 p5 q5
      · exact h1 σw5 G5 σ5 H5 (f1.trans ((f'.trans f3).trans (f4.trans f5))) r5 p5 q5
      · exact ⟨hlt, σw5, G5, (f'.trans f3).trans (f4.trans f5), r5, p5, q5⟩
    · have e : i = xs.length := by omega
      subst e
      exact .inl ⟨hstop _ G' H' f' rp' hok (Nat.le_refl _), h1 σw' G' σ' H' (f1.trans f') rs' rp' (iend σw' G' iv)⟩⟩
def wWhile (c : WTT) (tb : WTS) : WTS := fun D σ G E => ∃ Inv : Nat → WSt → WHp → Prop, (∃ m, Inv m σ G) ∧ ∀ m σ' G', Inv m σ' G' → c σ' G' (fun b G2 =>
  if b = true then tb { D with nx := fun σ3 G3 => ∃ m', m' < m ∧ Inv m' σ3 G3, ct := fun σ3 G3 => ∃ m', m' < m ∧ Inv m' σ3 G3, bk := D.nx } σ' G2 E else D.nx σ' G2) E
theorem js_while {c : Expr} {tc : WTT} (hp : PassesOwn (model X.prog X.w) X.A X.env X.xe) (hc : JT P X c tc) (hb : JSs P X body tb) : JS P X (.While c body [] pos) (wWhile tc tb) := fun Ga Ha Ew tk =>
  PS.imp (ps_while hp (hc Ga Ha Ew tk) (hb Ga Ha Ew tk)) fun D σ H ⟨σw, G, Dw, fa, rs, rp, ⟨Iv, ⟨m0, i0⟩, istep⟩, h1, h2, h3, h4⟩ => by
    refine ⟨fun m σ' H' => ∃ σw' G', Fw G H G' H' ∧ RelSt P G' H' σw' σ' ∧ Rep P G' H' ∧ Iv m σw' G', ⟨m0, σw, G, .refl _ _, rs, rp, i0⟩, ?_⟩
    rintro m σ' H' ⟨σw', G', f', rs', rp', iv⟩
    refine ⟨σw', G', _, fa.trans f', rs', rp', istep m σw' G' iv, fun b G2 H2 f2 p2 q2 => ?_⟩
    cases b with
    | true =>
      refine ⟨_, fun σ3 H3 n => n, σw', G2, _, fa.trans (f'.trans f2), rs'.fw rp' f2, p2, q2, fun σw5 G5 σ5 H5 f5 r5 p5 ⟨m', hm, q5⟩ => ?_, fun w5 G5 v5 H5 f5 r5 p5 q5 => ?_, fun σw5 G5 σ5 H5 f5 r5 p5 q5 => ?_, fun σw5 G5 σ5 H5 f5 r5 p5 ⟨m', hm, q5⟩ => ?_⟩
      · exact ⟨m', hm, σw5, G5, f'.trans (f2.trans f5), r5, p5, q5⟩
      · exact h2 w5 G5 v5 H5 (f'.trans (f2.trans f5)) r5 p5 q5
      · exact h1 σw5 G5 σ5 H5 (f'.trans (f2.trans f5)) r5 p5 q5
      · exact ⟨m', hm, σw5, G5, f'.trans (f2.trans f5), r5, p5, q5⟩
    | false => exact h1 σw' G2 σ' H2 (f'.trans f2) (rs'.fw rp' f2) p2 q2
end

/-! ### arguments -/
section
variable {P : Par} {X : Cx} {e : Expr} {es : List Expr} {te : WTE} {ta : WTA} {pos : Pos}
def wNil : WTA := fun _ G Q _ => Q [] G
def wCons (ta : WTE) (tr : WTA) : WTA := fun σ G Q E => ta σ G (fun x G1 => tr σ G1 (fun xs G2 => Q (x :: xs) G2) E) E
theorem ja_nil : JA P X [] wNil := fun Ga Ha Ew tk => PA.imp pa_nil fun σ H Q ⟨σw, G, Qw, fa, rs, rp, ht, hq⟩ => hq _ G _ H (.refl _ _) .nil rp ht
theorem ja_cons (ha : JE P X e te) (hr : JA P X es ta) (hs : starEach (e :: es) X.env = (false, eval e X.env) :: starEach es X.env := by rfl) : JA P X (e :: es) (wCons te ta) := fun Ga Ha Ew tk =>
  PA.imp (pa_cons (ha Ga Ha Ew tk) (hr Ga Ha Ew tk) hs) fun σ H Q ⟨σw, G, Qw, fa, rs, rp, ht, hq⟩ => ⟨σw, G, _, fa, rs, rp, ht, fun w G1 v H1 f1 r1 p1 q1 =>
    ⟨σw, G1, _, fa.trans f1, rs.fw rp f1, p1, q1, fun ws G2 vs H2 f2 r2 p2 q2 => hq (w :: ws) G2 (v :: vs) H2 (f1.trans f2) (.cons _ _ _ _ (r1.fw p1 f2) r2) p2 q2⟩⟩
/-- a display: a tuple; a list that nothing changes; a list that may change -/
def wTup (t : WTA) : WTE := fun σ G Q E => t σ G (fun xs G1 => xs.length ≤ sizeLine ∧ Q (.tup xs) G1) E
def wLstI (t : WTA) : WTE := fun σ G Q E => t σ G (fun xs G1 => xs.length ≤ sizeLine ∧ Q (.il xs) G1) E
def wLstM (t : WTA) : WTE := fun σ G Q E => t σ G (fun xs G1 => xs.length ≤ sizeLine ∧ ∀ p, G1 p = none → Q (.ref p) (updG G1 p (.lst xs))) E
theorem je_tup {x1} (h : JA P X es ta) : JE P X (.Tuple es x1 pos) (wTup ta) := fun Ga Ha Ew tk =>
  PE.imp (pe_tup (h Ga Ha Ew tk)) fun σ H Q ⟨σw, G, Qw, fa, rs, rp, ht, hq⟩ => ⟨σw, G, _, fa, rs, rp, ht, fun ws G1 vs H1 f1 r1 p1 ⟨hl, q1⟩ => ⟨by rw [← r1.length]; exact hl, fun p hp =>
    hq _ G1 _ _ (f1.trans (.hid hp)) (.tup p vs ws (.inl (.inl upd_same)) (r1.fw p1 (.hid hp))) (p1.hid hp) q1⟩⟩
theorem je_lstI (h : JA P X es ta) : JE P X (.List es pos) (wLstI ta) := fun Ga Ha Ew tk =>
  PE.imp (pe_lst (h Ga Ha Ew tk)) fun σ H Q ⟨σw, G, Qw, fa, rs, rp, ht, hq⟩ => ⟨σw, G, _, fa, rs, rp, ht, fun ws G1 vs H1 f1 r1 p1 ⟨hl, q1⟩ => ⟨by rw [← r1.length]; exact hl, fun p hp =>
    hq _ G1 _ _ (f1.trans (.hid hp)) (.il p vs ws ⟨upd_same, p1.free hp⟩ (r1.fw p1 (.hid hp))) (p1.hid hp) q1⟩⟩
theorem je_lstM (h : JA P X es ta) : JE P X (.List es pos) (wLstM ta) := fun Ga Ha Ew tk =>
  PE.imp (pe_lst (h Ga Ha Ew tk)) fun σ H Q ⟨σw, G, Qw, fa, rs, rp, ht, hq⟩ => ⟨σw, G, _, fa, rs, rp, ht, fun ws G1 vs H1 f1 r1 p1 ⟨hl, q1⟩ => ⟨by rw [← r1.length]; exact hl, fun p hp =>
    hq _ _ _ _ (f1.trans (.new hp)) (.ref p) (p1.put (u := .lst ws) (.new hp) ⟨vs, upd_same, r1.fw p1 (.new hp)⟩) (q1 p (p1.free hp))⟩⟩
end

/-! ### the text's defs -/
/-- a def's promise -/
abbrev WSp := List W → WHp → WQ → (Xc → WHp → Prop) → Prop
def embSp (P : Par) (sp : WSp) : Sp := fun vs H Q E => ∃ ws G Qw Ew, RelWs P G H ws vs ∧ Rep P G H ∧ sp ws G Qw Ew ∧ (∀ w G' v H', Fw G H G' H' → RelW P G' H' w v → Rep P G' H' → Qw w G' → Q v H') ∧
  (∀ c fs G' d H', Fw G H G' H' → Rep P G' H' → ExcD P G' H' d fs → Ew ⟨c, fs⟩ G' → E (.ref (P.ca c)) d H')
abbrev FnW (P : Par) (prog : Program) (w : World) (mg : Str → Option Value) (base : Heap) (k : Nat) (f : Addr) (fd : FuncData) (ps : List Str) (sp : WSp) : Prop :=
  FnOk prog w P.K mg base (L2.CX prog w) k f fd ps (embSp P sp)
section
variable {P : Par} {X : Cx} {k : Nat} {f : Addr} {fd : FuncData} {ps : List Str} {sp : WSp} {x : Str} {p pos : Pos} {e : Expr} {es : List Expr} {ta : WTA}
def wCall (sp : WSp) (t : WTA) : WTE := fun σ G Q E => t σ G (fun ws G1 => sp ws G1 Q fun c G2 => E c σ G2) E
/-- what is wished of an exception of a call, at the caller's slots -/
theorem passW {Ga : WHp} {Ha : Hp} {Ew : WXK} (tk : Takes X (embX P Ga Ha Ew)) (σ : L2.St) : PassesAt (L2.CX X.prog X.w) X σ (fun cls d H' => embX P Ga Ha Ew cls d σ H') := passAt tk σ
theorem call_step {Ga : WHp} {Ha : Hp} {Ew : WXK} : ∀ σ H Q, embE P Ga Ha Ew (wCall sp ta) σ H Q → tCallSD (embSp P sp) [] (fun σ cls d H' => embX P Ga Ha Ew cls d σ H') (embA P Ga Ha Ew ta) σ H Q :=
  fun σ H Q ⟨σw, G, Qw, fa, rs, rp, ht, hq⟩ => ⟨σw, G, _, fa, rs, rp, ht, fun ws G1 vs H1 f1 r1 p1 q1 => by
    show embSp P sp (vs ++ []) H1 Q _
    rw [List.append_nil]
    exact ⟨ws, G1, Qw, _, r1, p1, q1, fun w G2 v H2 f2 r2 p2 q2 => hq w G2 v H2 (f1.trans f2) r2 p2 q2, fun c fs G2 d H2 f2 p2 ed q2 => ⟨c, fs, σw, G2, rfl, fa.trans (f1.trans f2), rs.fw rp (f1.trans f2), p2, ed, q2⟩⟩⟩
theorem je_call (hK : X.K = P.K) (F : FnW P X.prog X.w X.mg X.base k f fd ps sp) (hr : Room k X.A) (hg : Gl X x) (hm : X.mg x = some (.ref f)) (hk : PySem.W.keepIn P.K (.ref f) = true) (hb : Binds P.K fd ps [])
    (ha : JA P X (e :: es) ta) (hdb : (x == ("__debug__" : Str)) = false := by decide) (he : starEach (e :: es) X.env = (false, eval e X.env) :: starEach es X.env := by rfl) (hpl : (backTo pos (starEach es X.env)).any (·.1) = false := by rfl) :
    JE P X (.Call (.Name x p) (e :: es) [] pos) (wCall sp ta) := fun Ga Ha Ew tk =>
  PE.imp (pe_callSD (E := fun σ cls d H' => embX P Ga Ha Ew cls d σ H') (by rw [hK]; exact F) hr hg hm (by rw [hK]; exact hk) (by rw [hK]; exact hb) .nil (fun σ => passW tk σ) (ha Ga Ha Ew tk) hdb he hpl) call_step
/-- a def by its body -/
def wStart (N : List Str) (ws : List W) : WSt := ws.map some ++ List.replicate (N.length - ws.length) none
theorem RelSt.start {G : WHp} {H : Hp} (N : List Str) : ∀ {ws : List W} {vs : List V} (n : Nat), RelWs P G H ws vs → RelSt P G H (ws.map some ++ List.replicate n none) (vs.map some ++ List.replicate n none)
  | _, _, 0, .nil => .nil
  | _, _, n + 1, .nil => by
    show RelSt P G H (none :: List.replicate n none) (none :: List.replicate n none)
    exact .hole _ _ _ (RelSt.start N (ws := []) (vs := []) n .nil)
  | _, _, n, .cons w v ws vs h r => .val w v _ _ h (RelSt.start N n r)
theorem takes_top {prog : Program} {w : World} {K : PySem.W.Frag} {mg : Str → Option Value} {base : Heap} {N : List Str} {qual : Str} {scope : Scope} {f : Addr} {cd : Value} {A : Around} {outer : List Env} {s : Shared} {H : Hp} {E : XK} {W : WX}
    (hW : ∀ cls d σ H', W cls d σ H' → E cls d H') : Takes (cxOf (L2.CX prog w) prog w K mg base N qual scope f cd A outer s H E) W := Takes.imp (takes_of rfl rfl rfl rfl) hW
theorem Fun.okW {prog : Program} {w : World} {mg : Str → Option Value} {base : Heap} {x qual : Str} {st : Stmt} {N : List Str} (F : Fun P.K x qual st f fd) (Sc : FnScope N ps (defScope st)) (len : ∀ ws G Q E, sp ws G Q E → ws.length = ps.length)
    (hbody : ∀ (cdv : Value) (A : Around) (outer : List Env) (s : Shared) (H : Hp) (E : XK), Room k (A.deeper (envOfC qual (defScope st) s.heap.objs.size f cdv)) →
      ∃ t : WTS, JSs P (cxOf (L2.CX prog w) prog w P.K mg base N qual (defScope st) f cdv A outer s H E) (defBody st) t ∧
        ∀ ws G Q Ex, sp ws G Q Ex → t { nx := fun _ G' => Q .non G', rt := Q, bk := fun _ _ => False, ct := fun _ _ => False } (wStart N ws) G (fun c _ G' => Ex c G')) : FnW P prog w mg base (k + 1) f fd ps sp := by
  refine F.okX Sc (fun vs H Q E h => ?_) (fun cdv A outer s H vs Q E hr h => ?_)
  · obtain ⟨ws, G, Qw, Ew, r, _, h, _⟩ := h
    rw [← r.length]
    exact len _ _ _ _ h
  · obtain ⟨ws, G, Qw, Ew, r, rp, h, hq, hE⟩ := h
    obtain ⟨t, ht, hs⟩ := hbody cdv A outer s H E hr
    refine ⟨_, ht G H (fun c _ G' => Ew c G') (takes_top fun cls d σ H' ⟨c, fs, σw, G', e1, f1, _, p1, ed, q⟩ => by subst e1; exact hE c fs G' d H' f1 p1 ed q), wStart N ws, G, _, .refl _ _, ?_, rp, hs ws G Qw Ew h, fun σw' G' σ' H' f1 r1 p1 q1 => hq .non G' .non H' f1 .non p1 q1, fun w G' v H' f1 r1 p1 q1 => hq w G' v H' f1 r1 p1 q1, fun _ _ _ _ _ _ _ q => q.elim, fun _ _ _ _ _ _ _ q => q.elim⟩
    unfold wStart L2.start
    rw [r.length]
    exact RelSt.start N _ r
end
end Lw
/-! W3: operators by values. -/
namespace Lw
open PySem PySem.Spec PyProof.Rows L2

/-! ### texts -/
theorem S_len (s : List Nat) : (S s).length = s.length := rfl
theorem S_list (s : List Nat) : (S s).cps.toList = s := rfl
theorem S_app (s t : List Nat) : (S s : Str) ++ (S t : Str) = S (s ++ t) := by
  show (⟨s.toArray ++ t.toArray⟩ : Str) = ⟨(s ++ t).toArray⟩
  congr 1
  simp
theorem S_inj {s t : List Nat} (h : S s = S t) : s = t := by
  have := congrArg (fun z : Str => z.cps.toList) h
  exact this
theorem S_of (z : Str) : z = S z.cps.toList := by
  cases z with
  | mk c => cases c; rfl
theorem dec_S (s t : List Nat) : decide (S s = S t) = decide (s = t) := by
  by_cases h : s = t
  · subst h; simp
  · rw [decide_eq_false h, decide_eq_false fun q => h (S_inj q)]

/-! ### lists, tuples, as one reads them -/
/-- a list that may be joined to another: what nothing changes, or seen -/
def lstOf (G : WHp) : W → Option (List W)
  | .il xs => some xs
  | .ref p => match G p with
    | some (.lst xs) => some xs
    | _ => none
  | _ => none
/-- a list, the script too -/
def sqOf (G : WHp) : W → Option (List W)
  | .sc ns => some (ns.map W.int)
  | w => lstOf G w
section
variable {P : Par} {X : Cx} {G : WHp} {H : Hp}
theorem RelWs.ints : ∀ (ns : List Int), RelWs P G H (ns.map W.int) (ns.map V.int)
  | [] => .nil
  | n :: r => .cons _ _ _ _ (.int n) (RelWs.ints r)
theorem lstOf_rel (rp : Rep P G H) {w : W} {v : V} {xs : List W} (r : RelW P G H w v) (e : lstOf G w = some xs) : ∃ a vs, v = .ref a ∧ H a = some (.lst vs) ∧ RelWs P G H xs vs := by
  cases r with
  | il a vs ws h rs => cases e; exact ⟨a, vs, rfl, h.1, rs⟩
  | ref a =>
    dsimp only [lstOf] at e
    cases q : G a with
    | none => rw [q] at e; cases e
    | some o =>
      rw [q] at e
      cases o with
      | lst ws =>
        cases e
        obtain ⟨vs, h, rs⟩ := rp a _ q
        exact ⟨a, vs, rfl, h, rs⟩
      | dct _ => cases e
      | obj _ _ => cases e
      | fz _ _ _ => cases e
      | xd _ => cases e
      | bd _ => cases e
      | td _ => cases e
      | tab => cases e
  | non => cases e
  | bl b => cases e
  | int i => cases e
  | str s => cases e
  | ty n => cases e
  | sc a ns h => cases e
  | tup a vs ws h rs => cases e
  | dk a kv kvs h g rs => cases e
  | io a dx c fv fs h g rs => cases e
  | clo a c cd l xs h1 h2 h3 g h => cases e
theorem sqOf_rel (rp : Rep P G H) {w : W} {v : V} {xs : List W} (r : RelW P G H w v) (e : sqOf G w = some xs) : ∃ a vs, v = .ref a ∧ SqL P.K H a vs ∧ RelWs P G H xs vs := by
  have go : ∀ {w}, RelW P G H w v → lstOf G w = some xs → ∃ a vs, v = .ref a ∧ SqL P.K H a vs ∧ RelWs P G H xs vs := fun r e => by
    obtain ⟨a, vs, e1, h, rs⟩ := lstOf_rel rp r e
    exact ⟨a, vs, e1, .of h, rs⟩
  cases w with
  | sc ns =>
    cases e
    cases r with
    | sc a _ h => exact ⟨a, _, rfl, h.sq, .ints ns⟩
  | _ => exact go r e
theorem RelWs.get : ∀ {ws : List W} {vs : List V} {i : Nat} {w : W}, RelWs P G H ws vs → ws[i]? = some w → ∃ v, vs[i]? = some v ∧ RelW P G H w v
  | _, _, i, w, .nil, e => by simp at e
  | _, _, 0, w, .cons w' v' ws vs h r, e => by simp at e; subst e; exact ⟨v', rfl, h⟩
  | _, _, i + 1, w, .cons w' v' ws vs h r, e => by
    obtain ⟨v, h1, h2⟩ := RelWs.get (i := i) r (by simpa using e)
    exact ⟨v, by simpa using h1, h2⟩
theorem RelWs.get' {ws : List W} {vs : List V} {i : Nat} {v : V} (r : RelWs P G H ws vs) (e : vs[i]? = some v) : ∃ w, ws[i]? = some w ∧ RelW P G H w v := by
  have hi : i < vs.length := (List.getElem?_eq_some_iff.mp e).1
  have hw : i < ws.length := by rw [r.length]; exact hi
  obtain ⟨v', h1, h2⟩ := r.get (List.getElem?_eq_getElem hw)
  rw [e] at h1
  cases h1
  exact ⟨_, List.getElem?_eq_getElem hw, h2⟩
theorem RelWs.append : ∀ {ws zs : List W} {vs us : List V}, RelWs P G H ws vs → RelWs P G H zs us → RelWs P G H (ws ++ zs) (vs ++ us)
  | _, _, _, _, .nil, s => s
  | _, _, _, _, .cons _ _ _ _ h r, s => .cons _ _ _ _ h (RelWs.append r s)
theorem RelWs.take : ∀ {ws : List W} {vs : List V} (n : Nat), RelWs P G H ws vs → RelWs P G H (ws.take n) (vs.take n)
  | _, _, 0, _ => by simpa using RelWs.nil
  | _, _, n + 1, .nil => by simpa using RelWs.nil
  | _, _, n + 1, .cons _ _ _ _ h r => .cons _ _ _ _ h (RelWs.take n r)
theorem RelWs.drop : ∀ {ws : List W} {vs : List V} (n : Nat), RelWs P G H ws vs → RelWs P G H (ws.drop n) (vs.drop n)
  | _, _, 0, r => r
  | _, _, n + 1, .nil => by simpa using RelWs.nil
  | _, _, n + 1, .cons _ _ _ _ h r => RelWs.drop n r
theorem RelWs.set {w : W} {v : V} (h : RelW P G H w v) : ∀ {ws : List W} {vs : List V} (i : Nat), RelWs P G H ws vs → RelWs P G H (ws.set i w) (vs.set i v)
  | _, _, i, .nil => by simpa using RelWs.nil
  | _, _, 0, .cons _ _ _ _ _ r => .cons _ _ _ _ h r
  | _, _, i + 1, .cons _ _ _ _ q r => .cons _ _ _ _ q (RelWs.set h i r)
theorem RelWs.atI {ws : List W} {vs : List V} {i : Int} {w : W} (r : RelWs P G H ws vs) (e : atI ws i = some w) : ∃ v, atI vs i = some v ∧ RelW P G H w v := by
  unfold L2.atI at e ⊢
  rw [← r.length]
  cases q : ixN ws.length i with
  | none => rw [q] at e; cases e
  | some j => rw [q] at e; exact r.get e

/-! ### arithmetic -/
/-- the end of a rule that makes no object -/
theorem emb_end {Qw : WQ} {Q : VK} {w : W} {v : V} (hq : ∀ w G' v H', Fw G H G' H' → RelW P G' H' w v → Rep P G' H' → Qw w G' → Q v H') (rp : Rep P G H) (r : RelW P G H w v) (q : Qw w G) : Q v H := hq w G v H (.refl _ _) r rp q
def big : Nat := 16777216
theorem big_eq : sizeLine = big := sizeLine_eq
def oAdd : WR2 := fun x y G Q => match x, y with
  | .int i, .int j => Q (.int (i + j)) G
  | .str s, .str t => s.length + t.length ≤ big ∧ Q (.str (s ++ t)) G
  | .tup xs, .tup ys => xs.length + ys.length ≤ big ∧ Q (.tup (xs ++ ys)) G
  | x, y => ∃ xs ys, lstOf G x = some xs ∧ lstOf G y = some ys ∧ xs.length + ys.length ≤ big ∧ Q (.il (xs ++ ys)) G
theorem ow_add (hK : X.K = P.K) : OpW P X (binaryOp .Add) oAdd := by
  refine OpR.imp (OpR.or op_add (OpR.or op_add_str (OpR.or op_catA op_cat))) fun x y H Q ⟨wx, wy, G, Qw, rx, ry, rp, h, hq⟩ => ?_
  have lists : ∀ {wx wy : W}, RelW P G H wx x → RelW P G H wy y → (∃ xs ys, lstOf G wx = some xs ∧ lstOf G wy = some ys ∧ xs.length + ys.length ≤ big ∧ Qw (.il (xs ++ ys)) G) → rCat x y H Q := by
    rintro wx wy rx ry ⟨xs, ys, ex, ey, hl, q⟩
    obtain ⟨a, vs, rfl, ha, ra⟩ := lstOf_rel rp rx ex
    obtain ⟨b, us, rfl, hb, rb⟩ := lstOf_rel rp ry ey
    refine ⟨a, b, vs, us, rfl, rfl, ha, hb, by rw [← ra.length, ← rb.length, big_eq]; exact hl, fun p hp => ?_⟩
    exact hq _ G _ _ (.hid hp) (.il p _ _ ⟨upd_same, rp.free hp⟩ ((ra.append rb).fw rp (.hid hp))) (rp.hid hp) q
  by_cases h1 : ∃ i j, wx = .int i ∧ wy = .int j
  · obtain ⟨i, j, rfl, rfl⟩ := h1
    cases rx; cases ry
    exact .inl ⟨i, j, rfl, rfl, emb_end hq rp (.int _) h⟩
  by_cases h2 : ∃ i j, wx = .str i ∧ wy = .str j
  · obtain ⟨i, j, rfl, rfl⟩ := h2
    cases rx; cases ry
    exact .inr (.inl ⟨_, _, rfl, rfl, by rw [S_len, S_len, big_eq]; exact h.1, by rw [S_app]; exact emb_end hq rp (.str _) h.2⟩)
  by_cases h3 : ∃ i j, wx = .tup i ∧ wy = .tup j
  · obtain ⟨i, j, rfl, rfl⟩ := h3
    cases rx with
    | tup a vs _ ha ra =>
      cases ry with
      | tup b us _ hb rb =>
        refine .inr (.inr (.inl ⟨a, b, vs, us, rfl, rfl, by rw [hK]; exact ha, by rw [hK]; exact hb, by rw [← ra.length, ← rb.length, big_eq]; exact h.1, fun e => ?_, fun e1 e2 => ?_, fun _ _ p hp => ?_⟩))
        · subst e
          cases ra
          exact emb_end hq rp (.tup b us _ hb rb) h.2
        · subst e2
          cases rb
          have q2 := h.2
          rw [List.append_nil] at q2
          exact emb_end hq rp (.tup a vs _ ha ra) q2
        · exact hq _ G _ _ (.hid hp) (.tup p _ _ (.inl (.inl upd_same)) ((ra.append rb).fw rp (.hid hp))) (rp.hid hp) h.2
  refine .inr (.inr (.inr (lists rx ry ?_)))
  revert h
  unfold oAdd
  split
  · exact fun _ => absurd ⟨_, _, rfl, rfl⟩ h1
  · exact fun _ => absurd ⟨_, _, rfl, rfl⟩ h2
  · exact fun _ => absurd ⟨_, _, rfl, rfl⟩ h3
  · exact id
def oI (C : Int → Int → Prop) (g : Int → Int → Int) : WR2 := fun x y G Q => match x, y with
  | .int i, .int j => C i j ∧ Q (.int (g i j)) G
  | _, _ => False
theorem ow_int {f : Value → Value → Sem Value} {C : Int → Int → Prop} {g : Int → Int → Int} (h : OpR X f (rI C fun i j => .int (g i j))) : OpW P X f (oI C g) :=
  OpR.imp h fun x y H Q ⟨wx, wy, G, Qw, rx, ry, rp, h, hq⟩ => by
    unfold oI at h
    split at h
    · cases rx; cases ry; exact ⟨_, _, rfl, rfl, h.1, emb_end hq rp (.int _) h.2⟩
    · exact h.elim
theorem ow_int0 {f : Value → Value → Sem Value} {g : Int → Int → Int} (h : OpR X f (rI0 fun i j => .int (g i j))) : OpW P X f (oI (fun _ _ => True) g) :=
  OpR.imp h fun x y H Q ⟨wx, wy, G, Qw, rx, ry, rp, h, hq⟩ => by
    unfold oI at h
    split at h
    · cases rx; cases ry; exact ⟨_, _, rfl, rfl, emb_end hq rp (.int _) h.2⟩
    · exact h.elim
abbrev oSub : WR2 := oI (fun _ _ => True) (· - ·)
abbrev oMul : WR2 := oI CMul (· * ·)
abbrev oMod : WR2 := oI (fun _ j => 0 < j) (· % ·)
abbrev oDiv : WR2 := oI CDiv (· / ·)
abbrev oPow : WR2 := oI CPow (fun i j => i ^ j.toNat)
abbrev oShl : WR2 := oI CShl (fun i j => i * 2 ^ j.toNat)
abbrev oShr : WR2 := oI (fun _ j => 0 ≤ j) (fun i j => i / 2 ^ j.toNat)
abbrev oAnd : WR2 := oI (fun _ _ => True) Builtin.bitAnd
abbrev oOr : WR2 := oI (fun _ _ => True) Builtin.bitOr
theorem ow_sub : OpW P X (binaryOp .Sub) oSub := ow_int0 op_sub
theorem ow_mul : OpW P X (binaryOp .Mult) oMul := ow_int op_mul
theorem ow_mod : OpW P X (binaryOp .Mod) oMod := ow_int op_mod
theorem ow_div : OpW P X (binaryOp .FloorDiv) oDiv := ow_int op_fdiv
theorem ow_pow : OpW P X (binaryOp .Pow) oPow := ow_int op_pow
theorem ow_shl : OpW P X (binaryOp .LShift) oShl := ow_int op_shlW
theorem ow_shr : OpW P X (binaryOp .RShift) oShr := ow_int op_shr
theorem ow_and : OpW P X (binaryOp .BitAnd) oAnd := ow_int0 op_and
theorem ow_or : OpW P X (binaryOp .BitOr) oOr := ow_int0 op_or
/-- list * int -/
def oRep : WR2 := fun x y G Q => match y with
  | .int k => ∃ xs, lstOf G x = some xs ∧ -(2 ^ 63) ≤ k ∧ k < 2 ^ 63 ∧ xs.length * k.toNat ≤ big ∧ Q (.il (List.replicate k.toNat xs).flatten) G
  | _ => False
def oNeg : WR1 := fun x G Q => match x with
  | .int i => Q (.int (-i)) G
  | _ => False
theorem uw_neg : UnW P X (unaryOp .USub) oNeg := UnR.imp un_neg fun x H Q ⟨wx, G, Qw, rx, rp, h, hq⟩ => by
  unfold oNeg at h
  split at h
  · cases rx; exact ⟨_, rfl, emb_end hq rp (.int _) h⟩
  · exact h.elim

/-! ### comparisons -/
def oC (p : Int → Int → Bool) : WR2 := fun x y G Q => match x, y with
  | .int i, .int j => Q (.bl (p i j)) G
  | _, _ => False
theorem ow_cmp {f : Value → Value → Sem Value} {p : Int → Int → Bool} (h : OpR X f (rI0 fun i j => .bl (p i j))) : OpW P X f (oC p) :=
  OpR.imp h fun x y H Q ⟨wx, wy, G, Qw, rx, ry, rp, h, hq⟩ => by
    unfold oC at h
    split at h
    · cases rx; cases ry; exact ⟨_, _, rfl, rfl, emb_end hq rp (.bl _) h⟩
    · exact h.elim
abbrev oLt : WR2 := oC fun i j => decide (i < j)
abbrev oLe : WR2 := oC fun i j => decide (i ≤ j)
abbrev oGt : WR2 := oC fun i j => decide (j < i)
abbrev oGe : WR2 := oC fun i j => decide (j ≤ i)
theorem ow_lt : OpW P X (compareOp .Lt) oLt := ow_cmp op_lt
theorem ow_le : OpW P X (compareOp .LtE) oLe := ow_cmp op_le
theorem ow_gt : OpW P X (compareOp .Gt) oGt := ow_cmp op_gt
theorem ow_ge : OpW P X (compareOp .GtE) oGe := ow_cmp op_ge
end

mutual
inductive DpW (G : WHp) : W → PyData → Prop
  | non : DpW G .non .none
  | bl (b : Bool) : DpW G (.bl b) (.bool b)
  | int (i : Int) : DpW G (.int i) (.int i)
  | str (s : List Nat) : DpW G (.str s) (.str (S s))
  | tup (ws : List W) (ds : List PyData) : DpWs G ws ds → DpW G (.tup ws) (.tuple ds)
  | lst (w : W) (ws : List W) (ds : List PyData) : sqOf G w = some ws → DpWs G ws ds → DpW G w (.list ds)
inductive DpWs (G : WHp) : List W → List PyData → Prop
  | nil : DpWs G [] []
  | cons (w : W) (d : PyData) (ws : List W) (ds : List PyData) : DpW G w d → DpWs G ws ds → DpWs G (w :: ws) (d :: ds)
end
section
variable {P : Par} {X : Cx} {G : WHp} {H : Hp}
mutual
theorem DpW.dp (rp : Rep P G H) : ∀ {w : W} {v : V} {d : PyData}, DpW G w d → RelW P G H w v → Dp P.K H v d
  | _, _, _, .non, r => by cases r; exact .non
  | _, _, _, .bl b, r => by cases r; exact .bl b
  | _, _, _, .int i, r => by cases r; exact .int i
  | _, _, _, .str s, r => by cases r; exact .str _
  | _, _, _, .tup ws ds h, r => by
    cases r with
    | tup a vs _ ha ra => exact .tup ha (DpWs.dp rp h ra)
  | _, _, _, .lst w ws ds e h, r => by
    obtain ⟨a, vs, rfl, ha, ra⟩ := sqOf_rel rp r e
    exact .lst ha (DpWs.dp rp h ra)
theorem DpWs.dp (rp : Rep P G H) : ∀ {w : List W} {v : List V} {d : List PyData}, DpWs G w d → RelWs P G H w v → DpAll P.K H v d
  | _, _, _, .nil, r => by cases r; exact .nil
  | _, _, _, .cons w d ws ds h hs, r => by
    cases r with
    | cons _ v _ vs r1 rr => exact .cons (DpW.dp rp h r1) (DpWs.dp rp hs rr)
end
/-- scalars that == tells apart -/
def sclW : W → W → Option Bool
  | .int i, .int j => some (decide (i = j))
  | .str s, .str t => some (decide (s = t))
  | .bl a, .bl b => some (decide (a = b))
  | .non, .non => some true
  | .non, .int _ => some false
  | .int _, .non => some false
  | .non, .str _ => some false
  | .str _, .non => some false
  | .non, .bl _ => some false
  | .bl _, .non => some false
  | .int _, .str _ => some false
  | .str _, .int _ => some false
  | .bl _, .str _ => some false
  | .str _, .bl _ => some false
  | _, _ => none
theorem sclW_rel {wx wy : W} {x y : V} {k : Bool} (rx : RelW P G H wx x) (ry : RelW P G H wy y) (e : sclW wx wy = some k) : scal x y = true ∧ decide (x = y) = k := by
  unfold sclW at e
  split at e <;> first
    | (cases e; cases rx; cases ry; exact ⟨rfl, by simp⟩)
    | (cases e; cases rx; cases ry; refine ⟨rfl, ?_⟩; first | rfl | simp | (rw [← dec_S]; congr 1; exact propext ⟨fun h => V.str.inj h, fun h => by rw [h]⟩))
    | cases e
/-- data that are compared item by item: what the comparison says -/
def eqD (G : WHp) (x y : W) (k : Bool → Prop) : Prop := ∃ d e, DpW G x d ∧ DpW G y e ∧ SeqAt.shaped d = true ∧ SeqAt.shaped e = true ∧ k (PyData.eqv d e)
def oEq : WR2 := fun x y G Q => match sclW x y with
  | some k => Q (.bl k) G
  | none => eqD G x y fun k => Q (.bl k) G
def oNe : WR2 := fun x y G Q => match sclW x y with
  | some k => Q (.bl (!k)) G
  | none => eqD G x y fun k => Q (.bl (!k)) G
theorem ow_eq (hK : X.K = P.K) (hu : X.A.units + 64 < cLine) : OpW P X (compareOp .Eq) oEq := OpR.imp (OpR.or op_eq (op_eqD hu)) fun x y H Q ⟨wx, wy, G, Qw, rx, ry, rp, h, hq⟩ => by
  revert h
  unfold oEq
  cases e : sclW wx wy with
  | some k =>
    intro q
    obtain ⟨h1, h2⟩ := sclW_rel rx ry e
    exact .inl ⟨h1, by rw [h2]; exact emb_end hq rp (.bl _) q⟩
  | none =>
    rintro ⟨d, e, hd, he, sd, se, q⟩
    exact .inr ⟨d, e, by rw [hK]; exact hd.dp rp rx, by rw [hK]; exact he.dp rp ry, sd, se, emb_end hq rp (.bl _) q⟩
theorem ow_ne (hK : X.K = P.K) (hu : X.A.units + 64 < cLine) : OpW P X (compareOp .NotEq) oNe := OpR.imp (OpR.or op_ne (op_neD hu)) fun x y H Q ⟨wx, wy, G, Qw, rx, ry, rp, h, hq⟩ => by
  revert h
  unfold oNe
  cases e : sclW wx wy with
  | some k =>
    intro q
    obtain ⟨h1, h2⟩ := sclW_rel rx ry e
    exact .inl ⟨h1, by rw [h2]; exact emb_end hq rp (.bl _) q⟩
  | none =>
    rintro ⟨d, e, hd, he, sd, se, q⟩
    exact .inr ⟨d, e, by rw [hK]; exact hd.dp rp rx, by rw [hK]; exact he.dp rp ry, sd, se, emb_end hq rp (.bl _) q⟩
def isNonW : W → Bool
  | .non => true
  | _ => false
theorem isNonW_rel {w : W} {v : V} (r : RelW P G H w v) : decide (v = .non) = isNonW w := by cases r <;> simp [isNonW]
def oIs : WR2 := fun x y G Q => match y with
  | .non => Q (.bl (isNonW x)) G
  | _ => False
def oIsNot : WR2 := fun x y G Q => match y with
  | .non => Q (.bl (!isNonW x)) G
  | _ => False
theorem ow_is : OpW P X (compareOp .Is) oIs := OpR.imp op_isN fun x y H Q ⟨wx, wy, G, Qw, rx, ry, rp, h, hq⟩ => by
  unfold oIs at h
  split at h
  · cases ry; exact ⟨rfl, by rw [isNonW_rel rx]; exact emb_end hq rp (.bl _) h⟩
  · exact h.elim
theorem ow_isnot : OpW P X (compareOp .IsNot) oIsNot := OpR.imp op_notN fun x y H Q ⟨wx, wy, G, Qw, rx, ry, rp, h, hq⟩ => by
  unfold oIsNot at h
  split at h
  · cases ry; exact ⟨rfl, by rw [isNonW_rel rx]; exact emb_end hq rp (.bl _) h⟩
  · exact h.elim

/-! ### in -/
/-- flat values -/
def flW : W → Bool
  | .non => true
  | .bl _ => true
  | .int _ => true
  | .str _ => true
  | _ => false
def eqFl : W → W → Bool
  | .non, .non => true
  | .bl a, .bl b => a == b
  | .bl a, .int b => (if a then 1 else 0) == b
  | .int a, .bl b => a == (if b then 1 else 0)
  | .int a, .int b => a == b
  | .str a, .str b => decide (a = b)
  | _, _ => false
theorem flW_rel {w : W} {v : V} (r : RelW P G H w v) (h : flW w = true) : flatV v = true := by cases r <;> first | rfl | cases h
theorem eqFl_rel {w z : W} {v u : V} (r : RelW P G H w v) (s : RelW P G H z u) (h : flW w = true) (h' : flW z = true) : eqV v u = eqFl w z := by
  cases r <;> first
    | (exact absurd (show false = true from h) Bool.false_ne_true)
    | (cases s <;> first
        | (exact absurd (show false = true from h') Bool.false_ne_true)
        | rfl
        | (unfold eqV eqFl; rw [← dec_S]; rfl)
        | (show (S _ == S _) = decide _; rw [← dec_S]; rfl))
theorem all_flat : ∀ {ws : List W} {vs : List V}, RelWs P G H ws vs → ws.all flW = true → vs.all flatV = true
  | _, _, .nil, _ => rfl
  | _, _, .cons w v ws vs h r, e => by
    rw [List.all_cons, Bool.and_eq_true] at e ⊢
    exact ⟨flW_rel h e.1, all_flat r e.2⟩
theorem inV_rel {x : W} {v : V} (rx : RelW P G H x v) (hx : flW x = true) : ∀ {ws : List W} {vs : List V}, RelWs P G H ws vs → ws.all flW = true → inV v vs = ws.any fun y => eqFl y x
  | _, _, .nil, _ => rfl
  | _, _, .cons w u ws vs h r, e => by
    rw [List.all_cons, Bool.and_eq_true] at e
    show (eqV u v || inV v vs) = (eqFl w x || ws.any fun y => eqFl y x)
    rw [eqFl_rel h rx e.1 hx, inV_rel rx hx r e.2]
/-- one sign in a text; a flat value in a list or tuple of flat values -/
def inW (G : WHp) (x y : W) (k : Bool → Prop) : Prop := match x, y with
  | .str s, .str t => ∃ c, s = [c] ∧ k (decide (c ∈ t))
  | x, .tup ws => flW x = true ∧ ws.all flW = true ∧ k (ws.any fun y => eqFl y x)
  | x, y => ∃ ws, sqOf G y = some ws ∧ flW x = true ∧ ws.all flW = true ∧ k (ws.any fun y => eqFl y x)
def oIn : WR2 := fun x y G Q => inW G x y fun b => Q (.bl b) G
def oNotIn : WR2 := fun x y G Q => inW G x y fun b => Q (.bl (!b)) G
theorem inW_rel (rp : Rep P G H) {x y : W} {u v : V} {k : Bool → Prop} (rx : RelW P G H x u) (ry : RelW P G H y v) (h : inW G x y k) :
    (∃ (c : Nat) (z : Str), u = .str ⟨#[c]⟩ ∧ v = .str z ∧ k (decide (c ∈ z.cps.toList))) ∨ ∃ p xs, v = .ref p ∧ (SqL P.K H p xs ∨ SqT P.K H p xs) ∧ flatV u = true ∧ xs.all flatV = true ∧ k (inV u xs) := by
  unfold inW at h
  split at h
  · obtain ⟨c, rfl, q⟩ := h
    cases rx; cases ry
    exact .inl ⟨c, _, rfl, rfl, q⟩
  · obtain ⟨h1, h2, q⟩ := h
    cases ry with
    | tup a vs _ ha ra => exact .inr ⟨a, vs, rfl, .inr ha, flW_rel rx h1, all_flat ra h2, by rw [inV_rel rx h1 ra h2]; exact q⟩
  · obtain ⟨ws, e, h1, h2, q⟩ := h
    obtain ⟨a, vs, rfl, ha, ra⟩ := sqOf_rel rp ry e
    exact .inr ⟨a, vs, rfl, .inl ha, flW_rel rx h1, all_flat ra h2, by rw [inV_rel rx h1 ra h2]; exact q⟩
theorem ow_in (hK : X.K = P.K) : OpW P X (compareOp .In) oIn := OpR.imp (OpR.or op_in_sign op_in_seq) fun x y H Q ⟨wx, wy, G, Qw, rx, ry, rp, h, hq⟩ => by
  rcases inW_rel rp rx ry h with ⟨c, z, e1, e2, q⟩ | ⟨p, xs, e, hs, h1, h2, q⟩
  · exact .inl ⟨c, z, e1, e2, emb_end hq rp (.bl _) q⟩
  · exact .inr ⟨p, xs, e, by rw [hK]; exact hs, h1, h2, emb_end hq rp (.bl _) q⟩
theorem ow_notin (hK : X.K = P.K) : OpW P X (compareOp .NotIn) oNotIn := OpR.imp (OpR.or op_notIn_sign op_notIn_seq) fun x y H Q ⟨wx, wy, G, Qw, rx, ry, rp, h, hq⟩ => by
  rcases inW_rel rp rx ry h with ⟨c, z, e1, e2, q⟩ | ⟨p, xs, e, hs, h1, h2, q⟩
  · exact .inl ⟨c, z, e1, e2, emb_end hq rp (.bl _) q⟩
  · exact .inr ⟨p, xs, e, by rw [hK]; exact hs, h1, h2, emb_end hq rp (.bl _) q⟩

/-! ### a[i] -/
def oIx : WR2 := fun x y G Q => match x, y with
  | .str s, .int i => s.length ≤ big ∧ ∃ c, atI s i = some c ∧ Q (.str [c]) G
  | .tup ws, .int i => ∃ w, atI ws i = some w ∧ Q w G
  | x, .int i => ∃ ws w, sqOf G x = some ws ∧ atI ws i = some w ∧ Q w G
  | _, _ => False
def IxW (P : Par) (X : Cx) (wr : WR2) : Prop := IxR X (emb2 P wr)
theorem IxR.imp {r r' : R2} (h : IxR X r) (i : ∀ x y H Q, r' x y H Q → r x y H Q) : IxR X r' := fun value slice pins s σ H x y v u Q I rx ry q hs => h value slice pins s σ H x y v u Q I rx ry (i x y H Q q) hs
theorem iw_seq (hK : X.K = P.K) : IxW P X oIx := IxR.imp ix_seq fun x y H Q ⟨wx, wy, G, Qw, rx, ry, rp, h, hq⟩ => by
  unfold oIx at h
  split at h
  · obtain ⟨hl, c, e, q⟩ := h
    cases rx; cases ry
    exact .inr (.inr ⟨_, _, c, rfl, rfl, by rw [S_len, big_eq]; exact hl, e, emb_end hq rp (.str [c]) q⟩)
  · obtain ⟨w, e, q⟩ := h
    cases ry
    cases rx with
    | tup a vs _ ha ra =>
      obtain ⟨v, e', r⟩ := ra.atI e
      exact .inr (.inl ⟨a, vs, _, v, rfl, rfl, by rw [hK]; exact ha, e', emb_end hq rp r q⟩)
  · obtain ⟨ws, w, e0, e, q⟩ := h
    cases ry
    obtain ⟨a, vs, rfl, ha, ra⟩ := sqOf_rel rp rx e0
    obtain ⟨v, e', r⟩ := ra.atI e
    exact .inl ⟨a, vs, _, v, rfl, rfl, by rw [hK]; exact ha, e', emb_end hq rp r q⟩
  · exact h.elim
theorem je_ix {a b : Expr} {ta tb : WTE} {pos : Pos} {wr : WR2} (hr : IxW P X wr) (ha : JE P X a ta) (hb : JE P X b tb) (hs : PlainIx b := by exact fun _ _ => rfl) : JE P X (.Subscript a b pos) (wOp wr ta tb) :=
  fun Ga Ha Ew tk => PE.imp (pe_ix hr (ha Ga Ha Ew tk) (hb Ga Ha Ew tk) hs) op_step
end
end Lw
/-! W4: freezing; slices; what is walked; comprehensions; builtins. -/
namespace Lw
open PySem PySem.Spec PyProof.Rows L2

/-! ### fewer seen objects -/
section
variable {P : Par} {X : Cx} {G G2 : WHp} {H : Hp}
mutual
theorem RelW.sub (s : ∀ a, G a = none → G2 a = none) : ∀ {w : W} {v : V}, RelW P G H w v → RelW P G2 H w v
  | _, _, .non => .non
  | _, _, .bl b => .bl b
  | _, _, .int i => .int i
  | _, _, .str x => .str x
  | _, _, .ref a => .ref a
  | _, _, .ty n => .ty n
  | _, _, .sc a ns h => .sc a ns h
  | _, _, .tup a vs ws h r => .tup a vs ws h (RelWs.sub s r)
  | _, _, .il a vs ws h r => .il a vs ws ⟨h.1, s a h.2⟩ (RelWs.sub s r)
  | _, _, .dk a kv kvs h g r => .dk a kv kvs h (s a g) (RelKs.sub s r)
  | _, _, .io a dx c fv fs h g r => .io a dx c fv fs h ⟨s a g.1, g.2⟩ (RelFs.sub s r)
  | _, _, .clo a c cd l xs h1 h2 h3 g h => .clo a c cd l xs h1 h2 h3 ⟨s a g.1, s c g.2.1, s cd g.2.2⟩ ⟨h.1, s l h.2⟩
theorem RelWs.sub (s : ∀ a, G a = none → G2 a = none) : ∀ {w : List W} {v : List V}, RelWs P G H w v → RelWs P G2 H w v
  | _, _, .nil => .nil
  | _, _, .cons w v ws vs h r => .cons w v ws vs (RelW.sub s h) (RelWs.sub s r)
theorem RelKs.sub (s : ∀ a, G a = none → G2 a = none) : ∀ {w : List (KW × W)} {v : List (Key × V)}, RelKs P G H w v → RelKs P G2 H w v
  | _, _, .nil => .nil
  | _, _, .cons k w v ws vs h r => .cons k w v ws vs (RelW.sub s h) (RelKs.sub s r)
theorem RelFs.sub (s : ∀ a, G a = none → G2 a = none) : ∀ {w : List (Nat × W)} {v : List (Str × V)}, RelFs P G H w v → RelFs P G2 H w v
  | _, _, .nil => .nil
  | _, _, .cons k w v ws vs h r => .cons k w v ws vs (RelW.sub s h) (RelFs.sub s r)
end
theorem RelSt.sub (s : ∀ a, G a = none → G2 a = none) : ∀ {σw : WSt} {σ : L2.St}, RelSt P G H σw σ → RelSt P G2 H σw σ
  | _, _, .nil => .nil
  | _, _, .val w v σw σ h r => .val w v σw σ (h.sub s) (RelSt.sub s r)
  | _, _, .hole o σw σ r => .hole o σw σ (RelSt.sub s r)
theorem RepO.sub (s : ∀ a, G a = none → G2 a = none) {a : Addr} {o : WO} (h : RepO P G H a o) : RepO P G2 H a o := by
  cases o with
  | lst ws => obtain ⟨vs, z, r⟩ := h; exact ⟨vs, z, r.sub s⟩
  | dct ws => obtain ⟨vs, z, r⟩ := h; exact ⟨vs, z, r.sub s⟩
  | obj c fs => obtain ⟨dx, vs, z, r, k⟩ := h; exact ⟨dx, vs, z, r.sub s, k⟩
  | fz od u ws => obtain ⟨z, kv, e', r⟩ := h; exact ⟨z, kv, e', r.sub s⟩
  | xd fs => obtain ⟨vs, z, r⟩ := h; exact ⟨vs, z, r.sub s⟩
  | bd kvs => exact h
  | td kvs => exact h
  | tab =>
    obtain ⟨e0, ps, z, t, k⟩ := h
    exact ⟨e0, ps, z, t, fun pos cv hc => let ⟨c, h1, h2, h3⟩ := k pos cv hc; ⟨c, h1, h2, s c h3⟩⟩
/-- G2 is a part of G -/
def Sub (G2 G : WHp) : Prop := ∀ a o, G2 a = some o → G a = some o
theorem Sub.nn (s : Sub G2 G) : ∀ a, G a = none → G2 a = none := fun a e => by
  cases q : G2 a with
  | none => rfl
  | some o => rw [s a o q] at e; cases e
theorem Sub.refl (G : WHp) : Sub G G := fun _ _ h => h
theorem Sub.trans {G1 G2 G3 : WHp} (a : Sub G1 G2) (b : Sub G2 G3) : Sub G1 G3 := fun c o h => b c o (a c o h)
theorem Sub.new {p : Addr} {o : WO} (h : G p = none) : Sub G (updG G p o) := fun a u e => by
  rw [updG_ne (fun z => by rw [z, h] at e; cases e)]; exact e
theorem Rep.sub (s : Sub G2 G) (rp : Rep P G H) : Rep P G2 H := fun a o e => (rp a o (s a o e)).sub s.nn
/-- w2 is w seen as a value, the objects outside of G2 left -/
inductive Frz (G G2 : WHp) : W → W → Prop
  | same (w : W) : Frz G G2 w w
  | lst (p : Addr) (ws : List W) : G p = some (.lst ws) → G2 p = none → Frz G G2 (.ref p) (.il ws)
  | dct (p : Addr) (ws : List (KW × W)) : G p = some (.dct ws) → G2 p = none → Frz G G2 (.ref p) (.dk ws)
  | obj (p : Addr) (c : Nat) (fs : List (Nat × W)) : G p = some (.obj c fs) → G2 p = none → Frz G G2 (.ref p) (.io c fs)
theorem Frz.rel (s : Sub G2 G) (rp : Rep P G H) {w w2 : W} {v : V} (f : Frz G G2 w w2) (r : RelW P G H w v) : RelW P G2 H w2 v := by
  cases f with
  | same => exact r.sub s.nn
  | lst p ws e n =>
    cases r
    obtain ⟨vs, h, rs⟩ := rp p _ e
    exact .il p vs ws ⟨h, n⟩ (rs.sub s.nn)
  | dct p ws e n =>
    cases r
    obtain ⟨vs, h, rs⟩ := rp p _ e
    exact .dk p vs ws h n (rs.sub s.nn)
  | obj p c fs e n =>
    cases r
    obtain ⟨dx, vs, h, rs, k⟩ := rp p _ e
    exact .io p dx c vs fs h ⟨n, k⟩ (rs.sub s.nn)
/-- a tuple whose items are seen as values -/
inductive Frzs (G G2 : WHp) : List W → List W → Prop
  | nil : Frzs G G2 [] []
  | cons (w w2 : W) (ws ws2 : List W) : Frz G G2 w w2 → Frzs G G2 ws ws2 → Frzs G G2 (w :: ws) (w2 :: ws2)
theorem Frzs.rel (s : Sub G2 G) (rp : Rep P G H) : ∀ {w w2 : List W} {v : List V}, Frzs G G2 w w2 → RelWs P G H w v → RelWs P G2 H w2 v
  | _, _, _, .nil, .nil => .nil
  | _, _, _, .cons w w2 ws ws2 f fs, .cons _ v _ vs r rs => .cons _ _ _ _ (f.rel s rp r) (Frzs.rel s rp fs rs)
mutual
/-- the same, all the way down -/
inductive FrzD (G G2 : WHp) : W → W → Prop
  | same (w : W) : FrzD G G2 w w
  | lst (p : Addr) (ws ws2 : List W) : G p = some (.lst ws) → G2 p = none → FrzDs G G2 ws ws2 → FrzD G G2 (.ref p) (.il ws2)
  | dct (p : Addr) (ws ws2 : List (KW × W)) : G p = some (.dct ws) → G2 p = none → FrzDk G G2 ws ws2 → FrzD G G2 (.ref p) (.dk ws2)
  | obj (p : Addr) (c : Nat) (fs fs2 : List (Nat × W)) : G p = some (.obj c fs) → G2 p = none → FrzDf G G2 fs fs2 → FrzD G G2 (.ref p) (.io c fs2)
  | tup (ws ws2 : List W) : FrzDs G G2 ws ws2 → FrzD G G2 (.tup ws) (.tup ws2)
inductive FrzDs (G G2 : WHp) : List W → List W → Prop
  | nil : FrzDs G G2 [] []
  | cons (w w2 : W) (ws ws2 : List W) : FrzD G G2 w w2 → FrzDs G G2 ws ws2 → FrzDs G G2 (w :: ws) (w2 :: ws2)
inductive FrzDk (G G2 : WHp) : List (KW × W) → List (KW × W) → Prop
  | nil : FrzDk G G2 [] []
  | cons (k : KW) (w w2 : W) (ws ws2 : List (KW × W)) : FrzD G G2 w w2 → FrzDk G G2 ws ws2 → FrzDk G G2 ((k, w) :: ws) ((k, w2) :: ws2)
inductive FrzDf (G G2 : WHp) : List (Nat × W) → List (Nat × W) → Prop
  | nil : FrzDf G G2 [] []
  | cons (k : Nat) (w w2 : W) (ws ws2 : List (Nat × W)) : FrzD G G2 w w2 → FrzDf G G2 ws ws2 → FrzDf G G2 ((k, w) :: ws) ((k, w2) :: ws2)
end
mutual
theorem FrzD.rel (s : Sub G2 G) (rp : Rep P G H) : ∀ {w w2 : W} {v : V}, FrzD G G2 w w2 → RelW P G H w v → RelW P G2 H w2 v
  | _, _, _, .same w, r => r.sub s.nn
  | _, _, _, .lst p ws ws2 e n fs, r => by
    cases r
    obtain ⟨vs, h, rs⟩ := rp p _ e
    exact .il p vs ws2 ⟨h, n⟩ (FrzDs.rel s rp fs rs)
  | _, _, _, .dct p ws ws2 e n fs, r => by
    cases r
    obtain ⟨vs, h, rs⟩ := rp p _ e
    exact .dk p vs ws2 h n (FrzDk.rel s rp fs rs)
  | _, _, _, .obj p c ws ws2 e n fs, r => by
    cases r
    obtain ⟨dx, vs, h, rs, k⟩ := rp p _ e
    exact .io p dx c vs ws2 h ⟨n, k⟩ (FrzDf.rel s rp fs rs)
  | _, _, _, .tup ws ws2 fs, r => by
    cases r with
    | tup a vs _ h rs => exact .tup a vs ws2 h (FrzDs.rel s rp fs rs)
theorem FrzDs.rel (s : Sub G2 G) (rp : Rep P G H) : ∀ {w w2 : List W} {v : List V}, FrzDs G G2 w w2 → RelWs P G H w v → RelWs P G2 H w2 v
  | _, _, _, .nil, r => by cases r; exact .nil
  | _, _, _, .cons w w2 ws ws2 f fs, r => by
    cases r with
    | cons _ v _ vs r rs => exact .cons _ _ _ _ (FrzD.rel s rp f r) (FrzDs.rel s rp fs rs)
theorem FrzDk.rel (s : Sub G2 G) (rp : Rep P G H) : ∀ {w w2 : List (KW × W)} {v : List (Key × V)}, FrzDk G G2 w w2 → RelKs P G H w v → RelKs P G2 H w2 v
  | _, _, _, .nil, r => by cases r; exact .nil
  | _, _, _, .cons k w w2 ws ws2 f fs, r => by
    cases r with
    | cons _ _ v _ vs r rs => exact .cons _ _ _ _ _ (FrzD.rel s rp f r) (FrzDk.rel s rp fs rs)
theorem FrzDf.rel (s : Sub G2 G) (rp : Rep P G H) : ∀ {w w2 : List (Nat × W)} {v : List (Str × V)}, FrzDf G G2 w w2 → RelFs P G H w v → RelFs P G2 H w2 v
  | _, _, _, .nil, r => by cases r; exact .nil
  | _, _, _, .cons k w w2 ws ws2 f fs, r => by
    cases r with
    | cons _ _ v _ vs r rs => exact .cons _ _ _ _ _ (FrzD.rel s rp f r) (FrzDf.rel s rp fs rs)
end
/-- what is handed back may be seen as a value; objects may be left -/
def View (w : W) (G : WHp) (w2 : W) (G2 : WHp) : Prop := Sub G2 G ∧ (Frz G G2 w w2 ∨ (∃ ws ws2, w = .tup ws ∧ w2 = .tup ws2 ∧ Frzs G G2 ws ws2) ∨ FrzD G G2 w w2)
theorem View.rel {w w2 : W} {v : V} (f : View w G w2 G2) (rp : Rep P G H) (r : RelW P G H w v) : RelW P G2 H w2 v ∧ Rep P G2 H := by
  obtain ⟨s, f | ⟨ws, ws2, rfl, rfl, fs⟩ | f⟩ := f
  · exact ⟨f.rel s rp r, rp.sub s⟩
  · refine ⟨?_, rp.sub s⟩
    cases r with
    | tup a vs _ h rs => exact .tup a vs ws2 h (fs.rel s rp rs)
  · exact ⟨f.rel s rp r, rp.sub s⟩
theorem View.refl {w : W} {G : WHp} : View w G w G := ⟨.refl G, .inl (.same w)⟩
theorem Fw.sub {Ga : WHp} {Ha : Hp} (f : Fw Ga Ha G H) (s : Sub G2 G) : Fw Ga Ha G2 H := fun a o h n g => let ⟨h1, g1⟩ := f a o h n g; ⟨h1, s.nn a g1⟩
def delG (G : WHp) (p : Addr) : WHp := fun b => if b = p then none else G b
theorem delG_same {p : Addr} : delG G p p = none := if_pos rfl
theorem delG_ne {p a : Addr} (h : a ≠ p) : delG G p a = G a := if_neg h
theorem Sub.del {p : Addr} : Sub (delG G p) G := fun a o e => by
  by_cases h : a = p
  · subst h; rw [delG_same] at e; cases e
  · rwa [delG_ne h] at e
theorem delG_updG {p : Addr} {o : WO} (h : G p = none) : delG (updG G p o) p = G := by
  funext b
  by_cases e : b = p
  · subst e; rw [delG_same, h]
  · rw [delG_ne e, updG_ne e]
end

/-! ### slices -/
abbrev WTO := WSt → WHp → (Option Int → WHp → Prop) → WXK → Prop
def embO (P : Par) (Ga : WHp) (Ha : Hp) (Ew : WXK) (t : WTO) : TO := fun σ H Q => ∃ σw G Qw, Fw Ga Ha G H ∧ RelSt P G H σw σ ∧ Rep P G H ∧ t σw G Qw Ew ∧ ∀ b G' H', Fw G H G' H' → Rep P G' H' → Qw b G' → Q b H'
def JO (P : Par) (X : Cx) (e : Option Expr) (t : WTO) : Prop := ∀ Ga Ha Ew, Takes X (embX P Ga Ha Ew) → PO X e (embO P Ga Ha Ew t)
def wNoPart : WTO := fun _ G Q _ => Q none G
def wPart (te : WTE) : WTO := fun σ G Q E => te σ G (fun x G1 => ∃ i, x = .int i ∧ Q (some i) G1) E
def cutL {α : Type} (xs : List α) (lo hi : Option Int) : List α := (xs.drop (HT.sIx xs.length 0 lo)).take (HT.sIx xs.length xs.length hi - HT.sIx xs.length 0 lo)
abbrev WRSl := W → Option Int → Option Int → WHp → WQ → Prop
def wSl (wr : WRSl) (te : WTE) (tl th : WTO) : WTE := fun σ G Q E => te σ G (fun x G1 => tl σ G1 (fun l G2 => th σ G2 (fun u G3 => wr x l u G3 Q) E) E) E
def embSl (P : Par) (wr : WRSl) : V → Option Int → Option Int → Hp → VK → Prop := fun x lo hi H Q => ∃ wx G Qw, RelW P G H wx x ∧ Rep P G H ∧ wr wx lo hi G Qw ∧ ∀ w G' v H', Fw G H G' H' → RelW P G' H' w v → Rep P G' H' → Qw w G' → Q v H'
def SlW (P : Par) (X : Cx) (wr : WRSl) : Prop := SlR X (embSl P wr)
section
variable {P : Par} {X : Cx} {G : WHp} {H : Hp} {e : Expr} {te : WTE} {lo hi : Option Expr} {tl th : WTO} {pos p2 : Pos}
theorem jo_none : JO P X none wNoPart := fun Ga Ha Ew tk => ⟨fun pins s σ H Q I ⟨σw, G, Qw, fa, rs, rp, ht, hq⟩ => (po_none (X := X)).run pins s σ H Q I (hq none G H (.refl _ _) rp ht)⟩
theorem jo_some (h : JE P X e te) : JO P X (some e) (wPart te) := fun Ga Ha Ew tk => ⟨fun pins s σ H Q I ⟨σw, G, Qw, fa, rs, rp, ht, hq⟩ => (po_some (h Ga Ha Ew tk)).run pins s σ H Q I
  ⟨σw, G, _, fa, rs, rp, ht, fun w G' v H' f r p ⟨i, e, q⟩ => by subst e; cases r; exact ⟨i, rfl, hq (some i) G' H' f p q⟩⟩⟩
theorem je_slice {wr : WRSl} (hr : SlW P X wr) (he : JE P X e te) (hl : JO P X lo tl) (hu : JO P X hi th) : JE P X (.Subscript e (.Slice lo hi none p2) pos) (wSl wr te tl th) := fun Ga Ha Ew tk =>
  PE.imp (pe_slice hr (he Ga Ha Ew tk) (hl Ga Ha Ew tk) (hu Ga Ha Ew tk)) fun σ H Q ⟨σw, G, Qw, fa, rs, rp, ht, hq⟩ => ⟨σw, G, _, fa, rs, rp, ht, fun w1 G1 v1 H1 f1 r1 p1 h1 => ⟨σw, G1, _, fa.trans f1, rs.fw rp f1, p1, h1, fun l G2 H2 f2 p2 h2 =>
    ⟨σw, G2, _, fa.trans (f1.trans f2), (rs.fw rp f1).fw p1 f2, p2, h2, fun u G3 H3 f3 p3 h3 => ⟨w1, G3, Qw, r1.fw p1 f2 |>.fw p2 f3, p3, h3, fun w G' v H' f r p q => hq w G' v H' (f1.trans (f2.trans (f3.trans f))) r p q⟩⟩⟩⟩
theorem SlR.imp {r r' : V → Option Int → Option Int → Hp → VK → Prop} (h : SlR X r) (i : ∀ x l u H Q, r' x l u H Q → r x l u H Q) : SlR X r' := fun pins s σ H x v vl vu lo hi sl Q I rx hs pl pu q => h pins s σ H x v vl vu lo hi sl Q I rx hs pl pu (i _ _ _ _ _ q)
theorem RelWs.cut {ws : List W} {vs : List V} (r : RelWs P G H ws vs) (lo hi : Option Int) : RelWs P G H (cutL ws lo hi) (cutV vs lo hi) := by
  unfold cutL cutV
  rw [r.length]
  exact (r.drop _).take _
theorem cutS_S (s : List Nat) (lo hi : Option Int) : cutS (S s) lo hi = S (cutL s lo hi) := rfl
theorem cut_whole {α : Type} {xs : List α} {lo hi : Option Int} (h : HT.sIx xs.length 0 lo = 0 ∧ HT.sIx xs.length xs.length hi = xs.length) : cutL xs lo hi = xs := by
  unfold cutL
  rw [h.1, h.2, List.drop_zero, Nat.sub_zero, List.take_length]
def oSl : WRSl := fun x lo hi G Q => match x with
  | .str s => s.length ≤ big ∧ Q (.str (cutL s lo hi)) G
  | .tup ws => Q (.tup (cutL ws lo hi)) G
  | x => ∃ ws, sqOf G x = some ws ∧ Q (.il (cutL ws lo hi)) G
/-- a new list that may change -/
def oSlM : WRSl := fun x lo hi G Q => ∃ ws, sqOf G x = some ws ∧ ∀ p, G p = none → Q (.ref p) (updG G p (.lst (cutL ws lo hi)))
theorem sw_seq (hK : X.K = P.K) : SlW P X oSl := SlR.imp (SlR.or sl_str (SlR.or sl_tupA sl_list)) fun x lo hi H Q ⟨wx, G, Qw, rx, rp, h, hq⟩ => by
  unfold oSl at h
  split at h
  · cases rx
    exact .inl ⟨_, rfl, by rw [S_len, big_eq]; exact h.1, by rw [cutS_S]; exact emb_end hq rp (.str _) h.2⟩
  · rename_i ws
    cases rx with
    | tup a vs _ ha ra =>
      refine .inr (.inl ⟨a, vs, rfl, by rw [hK]; exact ha, fun e => ?_, fun _ p hp => ?_⟩)
      · rw [← ra.length] at e
        rw [cut_whole e] at h
        exact emb_end hq rp (.tup a vs ws ha ra) h
      · exact hq _ G _ _ (.hid hp) (.tup p _ _ (.inl (.inl upd_same)) ((ra.cut lo hi).fw rp (.hid hp))) (rp.hid hp) h
  · obtain ⟨ws, e, q⟩ := h
    obtain ⟨a, vs, rfl, ha, ra⟩ := sqOf_rel rp rx e
    exact .inr (.inr ⟨a, vs, rfl, by rw [hK]; exact ha, fun p hp => hq _ G _ _ (.hid hp) (.il p _ _ ⟨upd_same, rp.free hp⟩ ((ra.cut lo hi).fw rp (.hid hp))) (rp.hid hp) q⟩)
theorem sw_seqM (hK : X.K = P.K) : SlW P X oSlM := SlR.imp sl_list fun x lo hi H Q ⟨wx, G, Qw, rx, rp, ⟨ws, e, q⟩, hq⟩ => by
  obtain ⟨a, vs, rfl, ha, ra⟩ := sqOf_rel rp rx e
  exact ⟨a, vs, rfl, by rw [hK]; exact ha, fun p hp => hq _ _ _ _ (.new hp) (.ref p) (rp.put (u := .lst (cutL ws lo hi)) (.new hp) ⟨_, upd_same, (ra.cut lo hi).fw rp (.new hp)⟩) (q p (rp.free hp))⟩
end

/-! ### what is walked -/
section
variable {P : Par} {X : Cx} {G : WHp} {H : Hp} {tg e : Expr} {te : WTE} {ta : WTA} {p pos : Pos}
theorem PI.imp {t t' : TI} (h : PI X tg e t) (i : ∀ σ H R, t' σ H R → t σ H R) : PI X tg e t' := ⟨fun pins s σ H R I q => h.run pins s σ H R I (i σ H R q)⟩
/-- a list, a tuple or a text, by its value -/
def iAny (K : PySem.W.Frag) (tl : TE) : TI := fun σ H R => tl σ H fun x H1 => (∃ a, x = .ref a ∧ (∃ xs, SqL K H1 a xs) ∧ R (Itl K a) H1) ∨ (∃ a, x = .ref a ∧ (∃ xs, SqT K H1 a xs) ∧ R (Itt K a) H1) ∨ ∃ z, x = .str z ∧ R (Its z) H1
/-- an expression that was asked already -/
theorem pi_any {tl : TE} (hl : PE X e tl) : PI X tg e (iAny X.K tl) := by
  refine ⟨fun pins s σ H R I h => ?_⟩
  refine thn (hl.run pins s σ H _ I h) fun v s1 ⟨x, H1, I1, r1, q1⟩ => ?_
  rcases q1 with ⟨a, e, ⟨xs, hq⟩, q⟩ | ⟨a, e, ⟨xs, hq⟩, q⟩ | ⟨z, ez, q⟩
  · subst e
    cases r1
    obtain ⟨its, rv, p, hz⟩ := I1.list hq
    refine wpAny_pyIter_list p.isList ?_
    refine ⟨s1.heap.objs.size, [s1.heap.objs.size], _, _, H1, rfl, I1.kept (t' := s1.toks) fun b o e => Heap.get?_push_of_some _ e, turn_list a _, ⟨_, Heap.get?_push_size _ rfl, rfl, rfl⟩, fun b hb => ?_, q⟩
    have e : b = s1.heap.objs.size := by simpa using hb
    subst e
    exact I1.fpOk (Nat.le_refl _) (I1.hok.fresh (Nat.le_refl _))
  · subst e
    cases r1
    obtain ⟨its, rv, p, hz⟩ := I1.tuple hq
    refine wpAny_pyIter_tuple (show s1.heap.IsTuple a its.toArray from p) ?_
    refine ⟨s1.heap.objs.size, [s1.heap.objs.size], _, _, H1, rfl, I1.kept (t' := s1.toks) fun b o e => Heap.get?_push_of_some _ e, turn_tuple a _, ⟨_, Heap.get?_push_size _ rfl, rfl, rfl⟩, fun b hb => ?_, q⟩
    have e : b = s1.heap.objs.size := by simpa using hb
    subst e
    exact I1.fpOk (Nat.le_refl _) (I1.hok.fresh (Nat.le_refl _))
  · subst ez
    obtain ⟨t, rfl⟩ := r1
    cases ha : z.cps.all (· < 128)
    · exact wpAny_pyIter_wide ha (pi_one (tk := s1.toks) I1 _ (turn_str _ z t "str_iterator" (.inr rfl)) ⟨_, Heap.get?_push_size _ rfl, rfl, rfl⟩ q)
    · exact wpAny_pyIter_ascii ha (pi_one (tk := s1.toks) I1 _ (turn_str _ z t "str_ascii_iterator" (.inl rfl)) ⟨_, Heap.get?_push_size _ rfl, rfl, rfl⟩ q)
/-- over a list (one that nothing changes, the script, or one that is seen), a tuple, a text -/
def wIter (te : WTE) : WTI := fun σ G R E => te σ G (fun x G1 => match x with
  | .tup ws => R ws (fun _ => True) G1
  | .str s => R (s.map fun c => .str [c]) (fun _ => True) G1
  | .il ws => R ws (fun _ => True) G1
  | .sc ns => R (ns.map .int) (fun _ => True) G1
  | .ref p => ∃ ws, G1 p = some (.lst ws) ∧ R ws (fun G' => G' p = some (.lst ws)) G1
  | _ => False) E
theorem itl_ok {K : PySem.W.Frag} (hK : K = P.K) {G1 : WHp} {H1 : Hp} {ok : WHp → Prop} {a : Addr} {ws : List W} (hs : ∀ G2 H2, Fw G1 H1 G2 H2 → Rep P G2 H2 → ok G2 → ∃ vs, SqL P.K H2 a vs ∧ RelWs P G2 H2 ws vs) :
    (∀ i G2 H2, Fw G1 H1 G2 H2 → Rep P G2 H2 → ok G2 → ws.length ≤ i → (Itl K a).stop i H2) ∧
    (∀ i G2 H2, Fw G1 H1 G2 H2 → Rep P G2 H2 → ok G2 → i < ws.length → (Itl K a).go i H2) ∧
    (∀ i G2 H2 x H3, Fw G1 H1 G2 H2 → Rep P G2 H2 → ok G2 → i < ws.length → (Itl K a).yld i H2 x H3 → ∃ w, ws[i]? = some w ∧ Fw G2 H2 G2 H3 ∧ Rep P G2 H3 ∧ RelW P G2 H3 w x) := by
  subst hK
  refine ⟨fun i G2 H2 f rp ok hi => ?_, fun i G2 H2 f rp ok hi => ?_, fun i G2 H2 x H3 f rp ok _ y => ?_⟩
  · obtain ⟨vs, h1, h2⟩ := hs G2 H2 f rp ok
    exact ⟨vs, h1, by rw [← h2.length]; exact hi⟩
  · obtain ⟨vs, h1, h2⟩ := hs G2 H2 f rp ok
    obtain ⟨v, e, _⟩ := h2.get (List.getElem?_eq_getElem hi)
    exact ⟨vs, v, h1, e⟩
  · obtain ⟨vs, h1, h2⟩ := hs G2 H2 f rp ok
    obtain ⟨rfl, hy⟩ := y
    obtain ⟨w, e, r⟩ := h2.get' (hy vs h1)
    exact ⟨w, e, .refl _ _, rp, r⟩
theorem ji_iter (hK : X.K = P.K) (he : JE P X e te) : JI P X tg e (wIter te) := fun Ga Ha Ew tk =>
  PI.imp (pi_any (he Ga Ha Ew tk)) fun σ H R ⟨σw, G, Rw, fa, rs, rp, ht, hR⟩ => ⟨σw, G, _, fa, rs, rp, ht, fun w G1 v H1 f1 r1 p1 h1 => by
    revert h1
    split
    · rename_i ws
      intro h1
      cases r1 with
      | tup a vs _ ha ra =>
        refine .inr (.inl ⟨a, rfl, ⟨vs, by rw [hK]; exact ha⟩, ?_⟩)
        refine hR ws _ G1 H1 _ f1 p1 h1 (fun i G2 H2 f rp _ hi => ⟨vs, by rw [hK]; exact SqT.fw p1 f ha, by rw [← ra.length]; exact hi⟩) (fun i G2 H2 f rp _ hi => ?_) fun i G2 H2 x H3 f rp _ _ y => ?_
        · obtain ⟨v, e, _⟩ := ra.get (List.getElem?_eq_getElem hi)
          exact ⟨vs, v, by rw [hK]; exact SqT.fw p1 f ha, e⟩
        · obtain ⟨rfl, hy⟩ := y
          obtain ⟨w, e, r⟩ := ra.get' (hy vs (by rw [hK]; exact SqT.fw p1 f ha))
          exact ⟨w, e, .refl _ _, rp, r.fw p1 f⟩
    · rename_i s
      intro h1
      cases r1
      refine .inr (.inr ⟨_, rfl, ?_⟩)
      refine hR _ _ G1 H1 _ f1 p1 h1 (fun i G2 H2 f rp _ hi => ?_) (fun i G2 H2 f rp _ hi => ?_) fun i G2 H2 x H3 f rp _ _ y => ?_
      · show (s.toArray).size ≤ i
        rw [List.length_map] at hi
        simpa using hi
      · show i < (s.toArray).size
        rw [List.length_map] at hi
        simpa using hi
      · obtain ⟨rfl, c, hc, rfl⟩ := y
        refine ⟨.str [c], ?_, .refl _ _, rp, .str [c]⟩
        have hc' : s[i]? = some c := by simpa using hc
        rw [List.getElem?_map, hc']
        rfl
    · rename_i ws
      intro h1
      cases r1 with
      | il a vs _ ha ra =>
        obtain ⟨h2, h3, h4⟩ := itl_ok (P := P) (G1 := G1) (H1 := H1) (ok := fun _ => True) (a := a) (ws := ws) hK fun G2 H2 f rp _ => ⟨vs, .of (ha.fw f).1, ra.fw p1 f⟩
        exact .inl ⟨a, rfl, ⟨vs, by rw [hK]; exact .of ha.1⟩, hR ws _ G1 H1 _ f1 p1 h1 h2 h3 h4⟩
    · rename_i ns
      intro h1
      cases r1 with
      | sc a _ ha =>
        obtain ⟨h2, h3, h4⟩ := itl_ok (P := P) (G1 := G1) (H1 := H1) (ok := fun _ => True) (a := a) (ws := ns.map W.int) hK fun G2 H2 f rp _ => ⟨_, (ha.fw p1 f).sq, .ints ns⟩
        exact .inl ⟨a, rfl, ⟨_, by rw [hK]; exact ha.sq⟩, hR _ _ G1 H1 _ f1 p1 h1 h2 h3 h4⟩
    · rename_i p
      rintro ⟨ws, e, h1⟩
      cases r1
      obtain ⟨vs, hp, ra⟩ := p1 p _ e
      obtain ⟨h2, h3, h4⟩ := itl_ok (P := P) (G1 := G1) (H1 := H1) (ok := fun G' => G' p = some (.lst ws)) (a := p) (ws := ws) hK fun G2 H2 f rp ok => let ⟨vs2, z, r⟩ := rp p _ ok; ⟨vs2, .of z, r⟩
      exact .inl ⟨p, rfl, ⟨vs, by rw [hK]; exact .of hp⟩, hR ws _ G1 H1 _ f1 p1 h1 h2 h3 h4⟩
    · exact fun h => h.elim⟩
/-- the ints lo, lo + 1, .. -/
def rngW (lo : Int) (n : Nat) : List W := (List.range n).map fun i => .int (lo + (i : Nat))
theorem rngW_get {lo : Int} {n i : Nat} {w : W} (h : (rngW lo n)[i]? = some w) : i < n ∧ w = .int (lo + i) := by
  unfold rngW at h
  rw [List.getElem?_map] at h
  by_cases hi : i < n
  · rw [List.getElem?_range hi] at h
    exact ⟨hi, (Option.some.inj h).symm⟩
  · rw [List.getElem?_eq_none (by simpa using hi)] at h
    cases h
theorem rngW_at {lo : Int} {n i : Nat} (h : i < n) : (rngW lo n)[i]? = some (.int (lo + i)) := by
  unfold rngW
  rw [List.getElem?_map, List.getElem?_range h]
  rfl
theorem rngW_len {lo : Int} {n : Nat} : (rngW lo n).length = n := by simp [rngW]
def wRng1 (ta : WTA) : WTI := fun σ G R E => ta σ G (fun vs G1 => ∃ j : Int, vs = [.int j] ∧ -(2 ^ 62) ≤ j ∧ j < 2 ^ 62 ∧ R (rngW 0 j.toNat) (fun _ => True) G1) E
def wRng2 (ta : WTA) : WTI := fun σ G R E => ta σ G (fun vs G1 => ∃ i j : Int, vs = [.int i, .int j] ∧ (-(2 ^ 62) ≤ i ∧ i < 2 ^ 62 ∧ -(2 ^ 62) ≤ j ∧ j < 2 ^ 62) ∧ R (rngW i (j - i).toNat) (fun _ => True) G1) E
theorem itr_ok {lo : Int} {n : Nat} {G1 : WHp} {H1 : Hp} {ok : WHp → Prop} :
    (∀ i G2 H2, Fw G1 H1 G2 H2 → Rep P G2 H2 → ok G2 → (rngW lo n).length ≤ i → (Itr lo n).stop i H2) ∧
    (∀ i G2 H2, Fw G1 H1 G2 H2 → Rep P G2 H2 → ok G2 → i < (rngW lo n).length → (Itr lo n).go i H2) ∧
    (∀ i G2 H2 x H3, Fw G1 H1 G2 H2 → Rep P G2 H2 → ok G2 → i < (rngW lo n).length → (Itr lo n).yld i H2 x H3 → ∃ w, (rngW lo n)[i]? = some w ∧ Fw G2 H2 G2 H3 ∧ Rep P G2 H3 ∧ RelW P G2 H3 w x) := by
  refine ⟨fun i G2 H2 f rp ok hi => by rw [rngW_len] at hi; exact hi, fun i G2 H2 f rp ok hi => by rw [rngW_len] at hi; exact hi, fun i G2 H2 x H3 f rp ok hi y => ?_⟩
  obtain ⟨rfl, rfl⟩ := y
  rw [rngW_len] at hi
  exact ⟨_, rngW_at hi, .refl _ _, rp, .int _⟩
theorem ji_range1 {a : Expr} {q : Pos} (hg : Gl X "range") (hm : X.mg "range" = none) (ha : JA P X [a] ta) (hs : starEach [a] X.env = [(false, eval a X.env)] := by rfl) : JI P X tg (.Call (.Name "range" q) [a] [] pos) (wRng1 ta) := fun Ga Ha Ew tk =>
  PI.imp (pi_range1 hg hm (ha Ga Ha Ew tk) hs) fun σ H R ⟨σw, G, Rw, fa, rs, rp, ht, hR⟩ => ⟨σw, G, _, fa, rs, rp, ht, fun ws G1 vs H1 f1 r1 p1 ⟨j, e, h1, h2, q⟩ => by
    subst e
    cases r1 with
    | cons _ _ _ _ r rr =>
      cases r; cases rr
      obtain ⟨k1, k2, k3⟩ := itr_ok (P := P) (lo := 0) (n := j.toNat) (G1 := G1) (H1 := H1) (ok := fun _ => True)
      exact ⟨j, rfl, h1, h2, hR _ _ G1 H1 _ f1 p1 q k1 k2 k3⟩⟩
theorem ji_range2 {a b : Expr} {q : Pos} (hg : Gl X "range") (hm : X.mg "range" = none) (ha : JA P X [a, b] ta) (hs : starEach [a, b] X.env = [(false, eval a X.env), (false, eval b X.env)] := by rfl) (hs2 : starEach [b] X.env = [(false, eval b X.env)] := by rfl) : JI P X tg (.Call (.Name "range" q) [a, b] [] pos) (wRng2 ta) := fun Ga Ha Ew tk =>
  PI.imp (pi_range2 hg hm (ha Ga Ha Ew tk) hs hs2) fun σ H R ⟨σw, G, Rw, fa, rs, rp, ht, hR⟩ => ⟨σw, G, _, fa, rs, rp, ht, fun ws G1 vs H1 f1 r1 p1 ⟨i, j, e, h1, q⟩ => by
    subst e
    cases r1 with
    | cons _ _ _ _ r rr =>
      cases rr with
      | cons _ _ _ _ r' rr =>
        cases r; cases r'; cases rr
        obtain ⟨k1, k2, k3⟩ := itr_ok (P := P) (lo := i) (n := (j - i).toNat) (G1 := G1) (H1 := H1) (ok := fun _ => True)
        exact ⟨i, j, rfl, h1, hR _ _ G1 H1 _ f1 p1 q k1 k2 k3⟩⟩
/-- the pairs of places and items -/
def enumW : Nat → List W → List W
  | _, [] => []
  | i, w :: ws => .tup [.int (i : Nat), w] :: enumW (i + 1) ws
theorem enumW_len : ∀ (k : Nat) (ws : List W), (enumW k ws).length = ws.length
  | _, [] => rfl
  | k, w :: ws => by simp [enumW, enumW_len (k + 1) ws]
theorem enumW_at : ∀ (k : Nat) (ws : List W) (i : Nat) (w : W), ws[i]? = some w → (enumW k ws)[i]? = some (.tup [.int ((k + i : Nat)), w])
  | _, [], _, _, h => by simp at h
  | k, z :: ws, 0, w, h => by simp at h; subst h; rfl
  | k, z :: ws, i + 1, w, h => by
    have := enumW_at (k + 1) ws i w (by simpa using h)
    rw [show k + (i + 1) = k + 1 + i by omega]
    simpa [enumW] using this
theorem enumW_get {k : Nat} {ws : List W} {i : Nat} {x : W} (h : (enumW k ws)[i]? = some x) : ∃ w, ws[i]? = some w ∧ x = .tup [.int ((k + i : Nat)), w] := by
  have hi : i < ws.length := by
    have := (List.getElem?_eq_some_iff.mp h).1
    rwa [enumW_len] at this
  have e := enumW_at k ws i _ (List.getElem?_eq_getElem hi)
  rw [h] at e
  exact ⟨_, List.getElem?_eq_getElem hi, Option.some.inj e⟩
/-- of a list, where it lies -/
def srcL (G : WHp) (x : W) (R : List W → (WHp → Prop) → Prop) : Prop := match x with
  | .il ws => R ws (fun _ => True)
  | .sc ns => R (ns.map .int) (fun _ => True)
  | .ref p => ∃ ws, G p = some (.lst ws) ∧ R ws (fun G' => G' p = some (.lst ws))
  | _ => False
theorem srcL_ok {G1 : WHp} {H1 : Hp} {x : W} {v : V} {R : List W → (WHp → Prop) → Prop} (p1 : Rep P G1 H1) (r : RelW P G1 H1 x v) (h : srcL G1 x R) :
    ∃ a ws ok, v = .ref a ∧ R ws ok ∧ ok G1 ∧ ∀ G2 H2, Fw G1 H1 G2 H2 → Rep P G2 H2 → ok G2 → ∃ vs, SqL P.K H2 a vs ∧ RelWs P G2 H2 ws vs := by
  unfold srcL at h
  split at h
  · cases r with
    | il a vs ws ha ra => exact ⟨a, _, _, rfl, h, trivial, fun G2 H2 f rp _ => ⟨vs, .of (ha.fw f).1, ra.fw p1 f⟩⟩
  · cases r with
    | sc a _ ha => exact ⟨a, _, _, rfl, h, trivial, fun G2 H2 f rp _ => ⟨_, (ha.fw p1 f).sq, .ints _⟩⟩
  · obtain ⟨ws, e, q⟩ := h
    cases r
    exact ⟨_, ws, _, rfl, q, e, fun G2 H2 f rp ok => let ⟨vs2, z, r⟩ := rp _ _ ok; ⟨vs2, .of z, r⟩⟩
  · exact h.elim
def wEnum (ta : WTA) : WTI := fun σ G R E => ta σ G (fun vs G1 => ∃ x, vs = [x] ∧ srcL G1 x fun ws ok => R (enumW 0 ws) ok G1) E
theorem ji_enum (hK : X.K = P.K) {q tpos : Pos} {elts : List Expr} {kk : Nat} (hg : Gl X "enumerate") (hm : X.mg "enumerate" = none) (ha : JA P X [e] ta) (hs : starEach [e] X.env = [(false, eval e X.env)] := by rfl) :
    JI P X (.Tuple elts kk tpos) (.Call (.Name "enumerate" q) [e] [] pos) (wEnum ta) := fun Ga Ha Ew tk =>
  PI.imp (pi_enum hg hm (ha Ga Ha Ew tk) hs) fun σ H R ⟨σw, G, Rw, fa, rs, rp, ht, hR⟩ => ⟨σw, G, _, fa, rs, rp, ht, fun ws G1 vs H1 f1 r1 p1 ⟨x, e, q⟩ => by
    subst e
    cases r1 with
    | cons _ v _ _ r rr =>
      cases rr
      obtain ⟨a, ws, ok, rfl, q, k0, kk⟩ := srcL_ok p1 r q
      obtain ⟨vs0, hs0, _⟩ := kk G1 H1 (.refl _ _) p1 k0
      refine ⟨a, vs0, rfl, by rw [hK]; exact hs0, hR _ _ G1 H1 _ f1 p1 q (fun i G2 H2 f rp ok hi => ?_) (fun i G2 H2 f rp ok hi => ?_) fun i G2 H2 x H3 f rp ok hi y => ?_⟩
      · obtain ⟨vs, h1, h2⟩ := kk G2 H2 f rp ok
        rw [enumW_len] at hi
        exact ⟨vs, by rw [hK]; exact h1, by rw [← h2.length]; exact hi⟩
      · obtain ⟨vs, h1, h2⟩ := kk G2 H2 f rp ok
        rw [enumW_len] at hi
        obtain ⟨v, e, _⟩ := h2.get (List.getElem?_eq_getElem hi)
        exact ⟨vs, v, by rw [hK]; exact h1, e⟩
      · obtain ⟨vs, h1, h2⟩ := kk G2 H2 f rp ok
        obtain ⟨T, u, rfl, hT, rfl, hy⟩ := y
        obtain ⟨w, e, r⟩ := h2.get' (hy vs (by rw [hK]; exact h1))
        refine ⟨_, enumW_at 0 ws i w e, .hid hT, rp.hid hT, .tup T _ _ (.inl (.inl upd_same)) ?_⟩
        rw [Nat.zero_add]
        exact .cons _ _ _ _ (.int _) (.cons _ _ _ _ (r.fw rp (.hid hT)) .nil)⟩
end

/-! ### comprehensions -/
/-- no exception is wished for -/
def noX : WXK := fun _ _ _ => False
theorem takesF {P : Par} {X : Cx} {Ga : WHp} {Ha : Hp} : Takes X (embX P Ga Ha noX) := fun _ _ x => by
  obtain ⟨_, _, _, _, _, _, _, _, _, _, _, _, _, _, _, _, z⟩ := x
  obtain ⟨_, _, _, _, _, _, _, _, _, q⟩ := z
  exact q.elim
def JTs (P : Par) (X : Cx) (e : List Expr) (t : WTT) : Prop := ∀ Ga Ha Ew, Takes X (embX P Ga Ha Ew) → PTs X e (embT P Ga Ha Ew t)
def wYes : WTT := fun _ G Q _ => Q true G
section
variable {P : Par} {X : Cx} {c : Expr} {t : WTT}
theorem jts_nil : JTs P X [] wYes := fun Ga Ha Ew tk => ⟨fun pins s σ H Q I ⟨σw, G, Qw, fa, rs, rp, ht, hq⟩ => (pts_nil (X := X)).run pins s σ H Q I (hq true G H (.refl _ _) rp ht)⟩
theorem jts_one (h : JT P X c t) : JTs P X [c] t := fun Ga Ha Ew tk => pts_one (h Ga Ha Ew tk)
/-- [elt for x in .. if ..], x in slot j: the new list is seen while it is made; behind it as fin says -/
def LcOk (fin : Addr → List W → WHp → WQ → Prop) (j : Nat) (tt : WTT) (te : WTE) (σ : WSt) (Q : WQ) (xs : List W) (ok : WHp → Prop) (G1 : WHp) : Prop := xs.length ≤ big ∧ ∀ D, G1 D = none → ∃ Pv : Nat → List W → WHp → Prop, Pv 0 [] (updG G1 D (.lst [])) ∧
  (∀ k acc G', k ≤ xs.length → Pv k acc G' → ok G' ∧ G' D = some (.lst acc) ∧ acc.length ≤ k) ∧
  (∀ k x acc G', xs[k]? = some x → Pv k acc G' → tt ((σ.set j none).set j (some x)) G' (fun b G3 => if b = true then te ((σ.set j none).set j (some x)) G3 (fun y G4 => G4 D = some (.lst acc) ∧ Pv (k + 1) (acc ++ [y]) (updG G4 D (.lst (acc ++ [y])))) noX else Pv (k + 1) acc G3) noX) ∧
  (∀ acc G', Pv xs.length acc G' → fin D acc G' Q)
def wLcG (fin : Addr → List W → WHp → WQ → Prop) (wi : WTI) (j : Nat) (tt : WTT) (te : WTE) : WTE := fun σ G Q E => wi σ G (fun xs ok G1 => LcOk fin j tt te σ Q xs ok G1) E
abbrev finM : Addr → List W → WHp → WQ → Prop := fun D _ G' Q => Q (.ref D) G'
abbrev finI : Addr → List W → WHp → WQ → Prop := fun D acc G' Q => Q (.il acc) (delG G' D)
abbrev wLcM := wLcG finM
abbrev wLcI := wLcG finI
theorem lc_step {wi : WTI} {j : Nat} {tt : WTT} {te : WTE} {fin : Addr → List W → WHp → WQ → Prop} (hfin : ∀ {G' H' D acc Qw} {Q : VK} , Rep P G' H' → G' D = some (.lst acc) → fin D acc G' Qw → (∀ w G2 v H2, RelW P G2 H2 w v → Rep P G2 H2 → Sub G2 G' → H2 = H' → Qw w G2 → Q v H2) → Q (.ref D) H')
    {Ga : WHp} {Ha : Hp} {Ew : WXK} (σ : L2.St) (H : Hp) (Q : VK) (h : embE P Ga Ha Ew (wLcG fin wi j tt te) σ H Q) :
    tLc (embI P Ga Ha Ew wi) (gName j) (embT P (fun _ => none) (fun _ => none) noX tt) (embE P (fun _ => none) (fun _ => none) noX te) [j] σ H Q := by
  obtain ⟨σw, G, Qw, fa, rs, rp, ht, hq⟩ := h
  refine ⟨σw, G, _, fa, rs, rp, ht, fun xs ok G1 H1 J f1 p1 hR hstop hgo hyld D hD => ?_⟩
  obtain ⟨hl, hR⟩ := hR
  obtain ⟨Pv, i0, iok, istep, iend⟩ := hR D (p1.free hD)
  have fany : ∀ G' H', Fw (fun _ => none) (fun _ => none) G' H' := fun G' H' a o h => by cases h
  have fD : Fw G1 H1 (updG G1 D (.lst [])) (upd H1 D (.lst [])) := .new hD
  refine ⟨fun i m H' => m = xs.length - i ∧ i ≤ xs.length ∧ ∃ acc G', Fw G1 H1 G' H' ∧ Rep P G' H' ∧ Pv i acc G', ⟨_, rfl, Nat.zero_le _, [], _, fD, p1.put (u := .lst []) fD ⟨[], upd_same, .nil⟩, i0⟩, ?_⟩
  rintro i m H' ⟨rfl, hi, acc, G', f', rp', iv⟩
  obtain ⟨hok, hDa, hal⟩ := iok i acc G' hi iv
  by_cases hlt : i < xs.length
  · refine .inr ⟨hgo i G' H' f' rp' hok hlt, fun H2 => i + 1 ≤ xs.length ∧ ∃ acc G', Fw G1 H1 G' H2 ∧ Rep P G' H2 ∧ Pv (i + 1) acc G', fun H2 n => ⟨xs.length - (i + 1), by omega, rfl, n⟩, fun x H3 y => ?_⟩
    obtain ⟨w, hw, f3, p3, rw_⟩ := hyld i G' H' x H3 f' rp' hok hlt y
    have rs3 : RelSt P G' H3 ((σw.set j none).set j (some w)) ((wipe σ [j]).set j (some x)) := RelSt.set rw_ j (RelSt.del j ((rs.fw rp (f1.trans f')).fw rp' f3))
    show wipe (((wipe σ [j]).set j (some x))) [j] = wipe σ [j] ∧ _
    refine ⟨by show (((σ.set j none).set j (some x)).set j none) = σ.set j none; rw [List.set_set, List.set_set], ?_⟩
    refine ⟨_, G', _, fany _ _, rs3, p3, istep i w acc G' hw iv, fun b G4 H4 f4 p4 q4 => ?_⟩
    cases b with
    | false => exact ⟨hlt, acc, G4, f'.trans (f3.trans f4), p4, q4⟩
    | true =>
      refine ⟨_, G4, _, fany _ _, rs3.fw p3 f4, p4, q4, fun y G5 v H5 f5 r5 p5 ⟨hD5, q5⟩ => ?_⟩
      obtain ⟨vs, hv, rv⟩ := p5 D _ hD5
      have fp : Fw G5 H5 (updG G5 D (.lst (acc ++ [y]))) (upd H5 D (.lst (vs ++ [v]))) := .put hD5
      refine ⟨vs, hv, ?_, hlt, acc ++ [y], _, f'.trans (f3.trans (f4.trans (f5.trans fp))), p5.put (u := .lst (acc ++ [y])) fp ⟨vs ++ [v], upd_same, (rv.append (.cons _ _ _ _ r5 .nil)).fw p5 fp⟩, q5⟩
      rw [← rv.length, big_eq]
      omega
  · have e : i = xs.length := by omega
    subst e
    refine .inl ⟨hstop _ G' H' f' rp' hok (Nat.le_refl _), hfin rp' hDa (iend acc G' iv) fun w G2 v H2 r p s eH q => ?_⟩
    subst eH
    exact hq w G2 v H2 (f1.trans (f'.sub s)) r p q
theorem fin_M {P : Par} {G' : WHp} {H' : Hp} {D : Addr} {acc : List W} {Qw : WQ} {Q : VK} (rp : Rep P G' H') (e : G' D = some (.lst acc)) (q : Qw (.ref D) G') (hq : ∀ w G2 v H2, RelW P G2 H2 w v → Rep P G2 H2 → Sub G2 G' → H2 = H' → Qw w G2 → Q v H2) : Q (.ref D) H' :=
  hq _ G' _ H' (.ref D) rp (.refl _) rfl q
theorem fin_I {P : Par} {G' : WHp} {H' : Hp} {D : Addr} {acc : List W} {Qw : WQ} {Q : VK} (rp : Rep P G' H') (e : G' D = some (.lst acc)) (q : Qw (.il acc) (delG G' D)) (hq : ∀ w G2 v H2, RelW P G2 H2 w v → Rep P G2 H2 → Sub G2 G' → H2 = H' → Qw w G2 → Q v H2) : Q (.ref D) H' :=
  hq _ _ _ H' ((Frz.lst D acc e delG_same).rel .del rp (.ref D)) (rp.sub .del) .del rfl q
theorem je_lcM {elt iter : Expr} {ifs : List Expr} {scope : Scope} {j : Nat} {x : Str} {xp pos : Pos} {wi : WTI} {tt : WTT} {te : WTE} (hc : X.calm = true) (hN : X.N.Nodup) (hi : JI P X (.Name x xp) iter wi) (ok : BlkOk X.N X.env.scope scope [(x, j)])
    (hg : ∀ (s : Shared) (H : Hp) (C : Addr) (cl : List (Str × Addr)) (fp : List Addr), PG (X.blk s H scope (compEnvC scope cl C X.env) fp) (.Name x xp) (gName j)) (ht : ∀ (s : Shared) (H : Hp) (C : Addr) (cl : List (Str × Addr)) (fp : List Addr), JTs P (X.blk s H scope (compEnvC scope cl C X.env) fp) ifs tt)
    (he : ∀ (s : Shared) (H : Hp) (C : Addr) (cl : List (Str × Addr)) (fp : List Addr), JE P (X.blk s H scope (compEnvC scope cl C X.env) fp) elt te) (hs : ∀ x, foldedSetIterable iter X.env x = pure x := by intro _; rfl) :
    JE P X (.ListComp elt [⟨.Name x xp, iter, ifs, 0⟩] scope pos) (wLcM wi j tt te) := fun Ga Ha Ew tk =>
  PE.imp (pe_lc (own := [(x, j)]) hc hN (hi Ga Ha Ew tk) ok hg (fun s H C cl fp => ht s H C cl fp _ _ _ takesF) (fun s H C cl fp => he s H C cl fp _ _ _ takesF) hs) (lc_step fin_M)
theorem je_lcI {elt iter : Expr} {ifs : List Expr} {scope : Scope} {j : Nat} {x : Str} {xp pos : Pos} {wi : WTI} {tt : WTT} {te : WTE} (hc : X.calm = true) (hN : X.N.Nodup) (hi : JI P X (.Name x xp) iter wi) (ok : BlkOk X.N X.env.scope scope [(x, j)])
    (hg : ∀ (s : Shared) (H : Hp) (C : Addr) (cl : List (Str × Addr)) (fp : List Addr), PG (X.blk s H scope (compEnvC scope cl C X.env) fp) (.Name x xp) (gName j)) (ht : ∀ (s : Shared) (H : Hp) (C : Addr) (cl : List (Str × Addr)) (fp : List Addr), JTs P (X.blk s H scope (compEnvC scope cl C X.env) fp) ifs tt)
    (he : ∀ (s : Shared) (H : Hp) (C : Addr) (cl : List (Str × Addr)) (fp : List Addr), JE P (X.blk s H scope (compEnvC scope cl C X.env) fp) elt te) (hs : ∀ x, foldedSetIterable iter X.env x = pure x := by intro _; rfl) :
    JE P X (.ListComp elt [⟨.Name x xp, iter, ifs, 0⟩] scope pos) (wLcI wi j tt te) := fun Ga Ha Ew tk =>
  PE.imp (pe_lc (own := [(x, j)]) hc hN (hi Ga Ha Ew tk) ok hg (fun s H C cl fp => ht s H C cl fp _ _ _ takesF) (fun s H C cl fp => he s H C cl fp _ _ _ takesF) hs) (lc_step fin_I)
end
end Lw
/-! W5: built-in functions and methods. -/
namespace Lw
open PySem PySem.Spec PyProof.Rows L2
section
variable {P : Par} {X : Cx} {G : WHp} {H : Hp} {e o : Expr} {es : List Expr} {te to : WTE} {ta : WTA} {p pos : Pos} {x : Str}

def wCB (wr : WRs) (t : WTA) : WTE := fun σ G Q E => t σ G (fun ws G1 => wr ws G1 Q) E
theorem cb_step {wr : WRs} {Ga : WHp} {Ha : Hp} {Ew : WXK} : ∀ σ H Q, embE P Ga Ha Ew (wCB wr ta) σ H Q → tCB (embL P wr) (embA P Ga Ha Ew ta) σ H Q :=
  fun σ H Q ⟨σw, G, Qw, fa, rs, rp, ht, hq⟩ => ⟨σw, G, _, fa, rs, rp, ht, fun ws G1 vs H1 f1 r1 p1 q1 => ⟨ws, G1, Qw, r1, p1, q1, fun w G' v H' f r p q => hq w G' v H' (f1.trans f) r p q⟩⟩
theorem je_callB {id : String} {wr : WRs} (hc : CallW P X (.builtin id) wr) (hg : Gl X x) (hm : X.mg x = none) (hv : bootBuiltins x = some (.builtin id)) (ha : JA P X (e :: es) ta) (hn : x ≠ "__name__" := by decide) (hdb : (x == ("__debug__" : Str)) = false := by decide)
    (he : starEach (e :: es) X.env = (false, eval e X.env) :: starEach es X.env := by rfl) (hpl : (backTo pos (starEach es X.env)).any (·.1) = false := by rfl) : JE P X (.Call (.Name x p) (e :: es) [] pos) (wCB wr ta) := fun Ga Ha Ew tk =>
  PE.imp (pe_callB hc hg hm hv (ha Ga Ha Ew tk) hn hdb he hpl) cb_step
theorem je_callTy {T : String} {wr : WRs} (hc : CallW P X (.type T) wr) (hg : Gl X x) (hm : X.mg x = none) (hv : bootBuiltins x = some (.type T)) (ha : JA P X (e :: es) ta) (hn : x ≠ "__name__" := by decide) (hdb : (x == ("__debug__" : Str)) = false := by decide)
    (he : starEach (e :: es) X.env = (false, eval e X.env) :: starEach es X.env := by rfl) (hpl : (backTo pos (starEach es X.env)).any (·.1) = false := by rfl) : JE P X (.Call (.Name x p) (e :: es) [] pos) (wCB wr ta) := fun Ga Ha Ew tk =>
  PE.imp (pe_callTy hc hg hm hv (ha Ga Ha Ew tk) hn hdb he hpl) cb_step
theorem je_bltn {v : W} {v' : V} {u : Value} (hg : Gl X x) (hm : X.mg x = none) (hv : bootBuiltins x = some u) (r : RelV v' u) (rw_ : ∀ G H, RelW P G H v v') (hn : x ≠ "__name__" := by decide) (hd : (x == ("__debug__" : Str)) = false := by decide) : JE P X (.Name x pos) (wC v) :=
  je_of (pe_bltn hg hm hv r hn hd) fun σw G σ H Qw Q Ew rs rp q hq => hq _ G _ H (.refl _ _) (rw_ G H) rp q
theorem RelWs.one {w : W} {vs : List V} (r : RelWs P G H [w] vs) : ∃ v, vs = [v] ∧ RelW P G H w v := by
  cases r with
  | cons _ v _ _ r rr => cases rr; exact ⟨v, rfl, r⟩
theorem RelWs.two {w z : W} {vs : List V} (r : RelWs P G H [w, z] vs) : ∃ v u, vs = [v, u] ∧ RelW P G H w v ∧ RelW P G H z u := by
  cases r with
  | cons _ v _ _ r rr =>
    obtain ⟨u, rfl, r'⟩ := rr.one
    exact ⟨v, u, rfl, r, r'⟩
theorem RelWs.zero {vs : List V} (r : RelWs P G H [] vs) : vs = [] := by cases r; rfl

/-! ### len, str, int, isinstance, min, max, list, tuple -/
def oLen : WRs := fun ws G Q => match ws with
  | [.str s] => s.length ≤ big ∧ Q (.int s.length) G
  | [.tup xs] => Q (.int xs.length) G
  | [x] => ∃ xs, sqOf G x = some xs ∧ Q (.int xs.length) G
  | _ => False
theorem cw_len (hK : X.K = P.K) : CallW P X (.builtin "len") oLen := CallR.imp call_len fun vs H Q ⟨ws, G, Qw, r, rp, h, hq⟩ => by
  unfold oLen at h
  split at h
  · obtain ⟨v, rfl, r1⟩ := r.one
    cases r1
    exact ⟨_, _, rfl, ⟨by rw [S_len, big_eq]; exact h.1, rfl⟩, emb_end hq rp (.int _) h.2⟩
  · obtain ⟨v, rfl, r1⟩ := r.one
    cases r1 with
    | tup a vs _ ha ra => exact ⟨_, _, rfl, .inr ⟨vs, by rw [hK]; exact ha, ra.length⟩, emb_end hq rp (.int _) h⟩
  · obtain ⟨xs, e, q⟩ := h
    obtain ⟨v, rfl, r1⟩ := r.one
    obtain ⟨a, vs, rfl, ha, ra⟩ := sqOf_rel rp r1 e
    exact ⟨_, _, rfl, .inl ⟨vs, by rw [hK]; exact ha, ra.length⟩, emb_end hq rp (.int _) q⟩
  · exact h.elim
/-- the signs of a whole number -/
def strI (i : Int) : List Nat := (Str.ofString (toString i)).cps.toList
theorem strI_nat (n : Nat) : strI (n : Int) = TL.numL n := TL.tl_num n
def oStr : WRs := fun ws G Q => match ws with
  | [.int i] => i.natAbs.log2 < 1920 ∧ Q (.str (strI i)) G
  | _ => False
theorem cw_str : CallW P X (.type "str") oStr := CallR.imp call_str_int fun vs H Q ⟨ws, G, Qw, r, rp, h, hq⟩ => by
  unfold oStr at h
  split at h
  · obtain ⟨v, rfl, r1⟩ := r.one
    cases r1
    refine ⟨_, rfl, h.1, ?_⟩
    have := emb_end hq rp (.str _) h.2
    rw [show (S (strI _) : Str) = Str.ofString (toString _) from (S_of _).symm] at this
    exact this
  · exact h.elim
def oInt : WRs := fun ws G Q => match ws with
  | [.int i] => Q (.int i) G
  | [.bl k] => Q (.int (if k then 1 else 0)) G
  | [.str s] => ∃ n, PySem.intText? (S s) = some n ∧ s.length ≤ 640 ∧ Q (.int n) G
  | _ => False
theorem cw_int : CallW P X (.type "int") oInt := CallR.imp (CallR.or call_int1 call_int_str) fun vs H Q ⟨ws, G, Qw, r, rp, h, hq⟩ => by
  unfold oInt at h
  split at h
  · obtain ⟨v, rfl, r1⟩ := r.one
    cases r1
    exact .inl (.inl ⟨_, rfl, emb_end hq rp (.int _) h⟩)
  · obtain ⟨v, rfl, r1⟩ := r.one
    cases r1
    exact .inl (.inr ⟨_, rfl, emb_end hq rp (.int _) h⟩)
  · obtain ⟨n, e, hl, q⟩ := h
    obtain ⟨v, rfl, r1⟩ := r.one
    cases r1
    exact .inr ⟨_, n, rfl, e, hl, emb_end hq rp (.int _) q⟩
  · exact h.elim
/-- the built-in type of a value -/
def tyN (G : WHp) : W → Option String
  | .non => some "NoneType"
  | .bl _ => some "bool"
  | .int _ => some "int"
  | .str _ => some "str"
  | .il _ => some "list"
  | .dk _ => some "dict"
  | .ref p => match G p with
    | some (.lst _) => some "list"
    | some (.dct _) => some "dict"
    | _ => none
  | _ => none
theorem tyN_rel {K : PySem.W.Frag} (rp : Rep P G H) {w : W} {v : V} {n : String} (r : RelW P G H w v) (e : tyN G w = some n) : TyX K H v (.type n) := by
  cases r with
  | non => cases e; exact .base .non
  | bl b => cases e; exact .base (.bl b)
  | int i => cases e; exact .base (.int i)
  | str s => cases e; exact .base (.str _)
  | il a vs ws h rs => cases e; exact .base (.lst h.1)
  | dk a kv kvs h g rs => cases e; exact .base (.dK h)
  | ref a =>
    dsimp only [tyN] at e
    cases q : G a with
    | none => rw [q] at e; cases e
    | some o =>
      rw [q] at e
      cases o with
      | lst ws => cases e; obtain ⟨vs, h, rs⟩ := rp a _ q; exact .base (.lst h)
      | dct ws => cases e; obtain ⟨vs, h, rs⟩ := rp a _ q; exact .base (.dK h)
      | obj _ _ => cases e
      | fz _ _ _ => cases e
      | xd _ => cases e
      | bd _ => cases e
      | td _ => cases e
      | tab => cases e
  | ty n => cases e
  | sc a ns h => cases e
  | tup a vs ws h rs => cases e
  | io a dx c fv fs h g rs => cases e
  | clo a c cd l xs h1 h2 h3 g h => cases e
/-- isinstance(x, T), T a built-in class -/
def oIsi : WRs := fun ws G Q => match ws with
  | [.tup _, .ty T] => ∃ b, kitB "tuple" T = some b ∧ Q (.bl b) G
  | [x, .ty T] => ∃ n b, tyN G x = some n ∧ kitB n T = some b ∧ Q (.bl b) G
  | _ => False
theorem cw_isi (hK : X.K = P.K) : CallW P X (.builtin "isinstance") oIsi := CallR.imp call_isi fun vs H Q ⟨ws, G, Qw, r, rp, h, hq⟩ => by
  unfold oIsi at h
  split at h
  · obtain ⟨b, e, q⟩ := h
    obtain ⟨v, u, rfl, r1, r2⟩ := r.two
    cases r2
    cases r1 with
    | tup a vs _ ha ra =>
      refine ⟨_, _, .type "tuple", _, b, rfl, .ty _, ?_, kit_ty e, emb_end hq rp (.bl _) q⟩
      rw [hK]
      rcases ha with (ha | ⟨o, ha⟩) | ⟨o, its, n, ha, hc, _⟩
      · exact .base (.tup ha)
      · exact .fTuple ha
      · exact .kTuple ha hc
  · obtain ⟨n, b, e1, e2, q⟩ := h
    obtain ⟨v, u, rfl, r1, r2⟩ := r.two
    cases r2
    exact ⟨_, _, _, _, b, rfl, .ty _, tyN_rel rp r1 e1, kit_ty e2, emb_end hq rp (.bl _) q⟩
  · exact h.elim
def oMax2 : WRs := fun ws G Q => match ws with
  | [.int i, .int j] => Q (.int (if j > i then j else i)) G
  | _ => False
def oMin2 : WRs := fun ws G Q => match ws with
  | [.int i, .int j] => Q (.int (if j < i then j else i)) G
  | _ => False
theorem cw_max2 (hc : X.calm = true) : CallW P X (.builtin "max") oMax2 := CallR.imp (call_max2 hc) fun vs H Q ⟨ws, G, Qw, r, rp, h, hq⟩ => by
  unfold oMax2 at h
  split at h
  · obtain ⟨v, u, rfl, r1, r2⟩ := r.two
    cases r1; cases r2
    exact ⟨_, _, rfl, emb_end hq rp (.int _) h⟩
  · exact h.elim
theorem cw_min2 (hc : X.calm = true) : CallW P X (.builtin "min") oMin2 := CallR.imp (call_min2 hc) fun vs H Q ⟨ws, G, Qw, r, rp, h, hq⟩ => by
  unfold oMin2 at h
  split at h
  · obtain ⟨v, u, rfl, r1, r2⟩ := r.two
    cases r1; cases r2
    exact ⟨_, _, rfl, emb_end hq rp (.int _) h⟩
  · exact h.elim
/-- the ints of a list -/
theorem RelWs.ofInts : ∀ {ns : List Int} {vs : List V}, RelWs P G H (ns.map W.int) vs → vs = ns.map V.int
  | [], _, .nil => rfl
  | n :: ns, _, .cons _ v _ vs r rr => by
    cases r
    rw [RelWs.ofInts rr]
    rfl
def oSum : WRs := fun ws G Q => ∃ (x : W) (ns : List Int), ws = [x] ∧ sqOf G x = some (ns.map W.int) ∧ Q (.int ns.sum) G
theorem cw_sum (hK : X.K = P.K) (hc : X.calm = true) : CallW P X (.builtin "sum") oSum := CallR.imp (cr_sum hc) fun vs H Q ⟨ws, G, Qw, r, rp, ⟨x, ns, e0, e, q⟩, hq⟩ => by
  subst e0
  obtain ⟨v, rfl, r1⟩ := r.one
  obtain ⟨a, vs, rfl, ha, ra⟩ := sqOf_rel rp r1 e
  rw [ra.ofInts] at ha
  exact ⟨a, ns, rfl, by rw [hK]; exact ha, emb_end hq rp (.int _) q⟩
def oMaxL : WRs := fun ws G Q => ∃ (x : W) (ns : List Int), ws = [x] ∧ sqOf G x = some (ns.map W.int) ∧ 0 < ns.length ∧ ∀ m, m ∈ ns → (∀ y, y ∈ ns → y ≤ m) → Q (.int m) G
def oMinL : WRs := fun ws G Q => ∃ (x : W) (ns : List Int), ws = [x] ∧ sqOf G x = some (ns.map W.int) ∧ 0 < ns.length ∧ ∀ m, m ∈ ns → (∀ y, y ∈ ns → m ≤ y) → Q (.int m) G
theorem cw_maxL (hK : X.K = P.K) (hc : X.calm = true) : CallW P X (.builtin "max") oMaxL := CallR.imp (cr_max hc) fun vs H Q ⟨ws, G, Qw, r, rp, ⟨x, ns, e0, e, h0, q⟩, hq⟩ => by
  subst e0
  obtain ⟨v, rfl, r1⟩ := r.one
  obtain ⟨a, vs, rfl, ha, ra⟩ := sqOf_rel rp r1 e
  rw [ra.ofInts] at ha
  exact ⟨a, ns, rfl, by rw [hK]; exact ha, h0, fun m h1 h2 => emb_end hq rp (.int _) (q m h1 h2)⟩
theorem cw_minL (hK : X.K = P.K) (hc : X.calm = true) : CallW P X (.builtin "min") oMinL := CallR.imp (cr_min hc) fun vs H Q ⟨ws, G, Qw, r, rp, ⟨x, ns, e0, e, h0, q⟩, hq⟩ => by
  subst e0
  obtain ⟨v, rfl, r1⟩ := r.one
  obtain ⟨a, vs, rfl, ha, ra⟩ := sqOf_rel rp r1 e
  rw [ra.ofInts] at ha
  exact ⟨a, ns, rfl, by rw [hK]; exact ha, h0, fun m h1 h2 => emb_end hq rp (.int _) (q m h1 h2)⟩
/-- list(x): of a list or a tuple; as a value, or one that may change -/
def sqT (G : WHp) : W → Option (List W)
  | .tup ws => some ws
  | x => sqOf G x
def oListI : WRs := fun ws G Q => ∃ x xs, ws = [x] ∧ sqT G x = some xs ∧ Q (.il xs) G
def oListM : WRs := fun ws G Q => ∃ x xs, ws = [x] ∧ sqT G x = some xs ∧ ∀ p, G p = none → Q (.ref p) (updG G p (.lst xs))
theorem sqT_rel (rp : Rep P G H) {w : W} {v : V} {xs : List W} (r : RelW P G H w v) (e : sqT G w = some xs) : ∃ a vs, v = .ref a ∧ (SqL P.K H a vs ∨ SqT P.K H a vs) ∧ RelWs P G H xs vs := by
  have go : ∀ {w}, RelW P G H w v → sqOf G w = some xs → ∃ a vs, v = .ref a ∧ (SqL P.K H a vs ∨ SqT P.K H a vs) ∧ RelWs P G H xs vs := fun r e => by
    obtain ⟨a, vs, e1, h, rs⟩ := sqOf_rel rp r e
    exact ⟨a, vs, e1, .inl h, rs⟩
  cases w with
  | tup ws =>
    cases e
    cases r with
    | tup a vs _ ha ra => exact ⟨a, vs, rfl, .inr ha, ra⟩
  | _ => exact go r e
theorem cw_listI (hK : X.K = P.K) : CallW P X (.type "list") oListI := CallR.imp call_list_of fun vs H Q ⟨ws, G, Qw, r, rp, ⟨x, xs, e0, e, q⟩, hq⟩ => by
  subst e0
  obtain ⟨v, rfl, r1⟩ := r.one
  obtain ⟨a, vs, rfl, ha, ra⟩ := sqT_rel rp r1 e
  exact ⟨a, vs, rfl, by rw [hK]; exact ha, fun p hp => hq _ G _ _ (.hid hp) (.il p _ _ ⟨upd_same, rp.free hp⟩ (ra.fw rp (.hid hp))) (rp.hid hp) q⟩
theorem cw_listM (hK : X.K = P.K) : CallW P X (.type "list") oListM := CallR.imp call_list_of fun vs H Q ⟨ws, G, Qw, r, rp, ⟨x, xs, e0, e, q⟩, hq⟩ => by
  subst e0
  obtain ⟨v, rfl, r1⟩ := r.one
  obtain ⟨a, vs, rfl, ha, ra⟩ := sqT_rel rp r1 e
  exact ⟨a, vs, rfl, by rw [hK]; exact ha, fun p hp => hq _ _ _ _ (.new hp) (.ref p) (rp.put (u := .lst xs) (.new hp) ⟨_, upd_same, ra.fw rp (.new hp)⟩) (q p (rp.free hp))⟩

/-! ### methods -/
abbrev WRm := W → List W → WHp → WQ → Prop
def embM (P : Par) (wr : WRm) : V → List V → Hp → VK → Prop := fun x xs H Q => ∃ wx ws G Qw, RelW P G H wx x ∧ RelWs P G H ws xs ∧ Rep P G H ∧ wr wx ws G Qw ∧ ∀ w G' v H', Fw G H G' H' → RelW P G' H' w v → Rep P G' H' → Qw w G' → Q v H'
def MtW (P : Par) (X : Cx) (id : String) (wr : WRm) : Prop := MtR X id (embM P wr)
theorem MtR.imp {id : String} {r r' : V → List V → Hp → VK → Prop} (h : MtR X id r) (i : ∀ x xs H Q, r' x xs H Q → r x xs H Q) : MtR X id r' := fun pins s σ H x xs v us Q I rx rs q => h pins s σ H x xs v us Q I rx rs (i x xs H Q q)
/-- the receiver's kind, as it is asked ahead of the arguments -/
inductive Kd where
  | list | str | dict
def kdOk (G : WHp) (x : W) : Kd → Prop
  | .list => ∃ xs, sqOf G x = some xs
  | .str => ∃ s, x = .str s
  | .dict => (∃ p kvs, x = .ref p ∧ G p = some (.dct kvs)) ∨ ∃ kvs, x = .dk kvs
def Kd.nm : Kd → String
  | .list => "list"
  | .str => "str"
  | .dict => "dict"
theorem kd_rel (hK : X.K = P.K) (rp : Rep P G H) {w : W} {v : V} {k : Kd} (r : RelW P G H w v) (h : kdOk G w k) : tyV X.K k.nm v H := by
  cases k with
  | list =>
    obtain ⟨xs, e⟩ := h
    obtain ⟨a, vs, rfl, ha, ra⟩ := sqOf_rel rp r e
    exact .inl ⟨rfl, vs, by rw [hK]; exact ha⟩
  | str =>
    obtain ⟨s, rfl⟩ := h
    cases r
    rfl
  | dict =>
    rcases h with ⟨p, kvs, rfl, e⟩ | ⟨kvs, rfl⟩
    · cases r
      obtain ⟨kv, h, _⟩ := rp p _ e
      exact .inr (.inr (.inl ⟨rfl, .inl ⟨kv, h⟩⟩))
    · cases r with
      | dk a kv _ h g rs => exact .inr (.inr (.inl ⟨rfl, .inl ⟨kv, h⟩⟩))
def wBm (k : Kd) (wr : WRm) (to : WTE) (t : WTA) : WTE := fun σ G Q E => to σ G (fun x G1 => kdOk G1 x k ∧ t σ G1 (fun xs G2 => wr x xs G2 Q) E) E
theorem je_bm {k : Kd} {id : String} {name : Str} {apos cpos : Pos} {wr : WRm} (hK : X.K = P.K) (pa : PlainAttrs k.nm) (slot : Slot k.nm name id) (hty : typeOf (.builtin id) = pure (.type "method_descriptor")) (hm : MtW P X id wr) (ho : JE P X o to) (ha : JA P X (e :: es) ta)
    (hbase : attributeBase o name X.env (eval o X.env) = eval o X.env := by rfl)
    (hfew : ((backTo cpos (starEach (e :: es) X.env)).all (fun x => !x.1) && (backToKw cpos (keywordEach [] X.env)).all (fun x => x.1.isSome)
      && decide ((e :: es).length + ([] : List Keyword).length + (if ([] : List Keyword).isEmpty then 0 else 1) < 30)) = true := by rfl)
    (hline : (apos.endLine == cpos.line) = true := by rfl) (hs : starEach (e :: es) X.env = (false, eval e X.env) :: starEach es X.env := by rfl) (hplain : (backTo cpos (starEach es X.env)).any (·.1) = false := by rfl) :
    JE P X (.Call (.Attribute o name apos) (e :: es) [] cpos) (wBm k wr to ta) := fun Ga Ha Ew tk =>
  PE.imp (pe_bm pa slot hty hm (ho Ga Ha Ew tk) (ha Ga Ha Ew tk) hbase hfew hline hs hplain) fun σ H Q ⟨σw, G, Qw, fa, rs, rp, ht, hq⟩ => ⟨σw, G, _, fa, rs, rp, ht, fun w1 G1 v1 H1 f1 r1 p1 ⟨hk, h1⟩ =>
    ⟨kd_rel hK p1 r1 hk, σw, G1, _, fa.trans f1, rs.fw rp f1, p1, h1, fun ws G2 vs H2 f2 r2 p2 h2 => ⟨w1, ws, G2, Qw, r1.fw p1 f2, r2, p2, h2, fun w G' v H' f r p q => hq w G' v H' (f1.trans (f2.trans f)) r p q⟩⟩⟩
theorem je_bm0 {k : Kd} {id : String} {name : Str} {apos cpos : Pos} {wr : WRm} (hK : X.K = P.K) (pa : PlainAttrs k.nm) (slot : Slot k.nm name id) (hty : typeOf (.builtin id) = pure (.type "method_descriptor")) (hm : MtW P X id wr) (ho : JE P X o to)
    (hbase : attributeBase o name X.env (eval o X.env) = eval o X.env := by rfl) (hline : (apos.endLine == cpos.line) = true := by rfl) : JE P X (.Call (.Attribute o name apos) [] [] cpos) (wBm k wr to wNil) := fun Ga Ha Ew tk =>
  PE.imp (pe_bm0 pa slot hty hm (ho Ga Ha Ew tk) hbase hline) fun σ H Q ⟨σw, G, Qw, fa, rs, rp, ht, hq⟩ => ⟨σw, G, _, fa, rs, rp, ht, fun w1 G1 v1 H1 f1 r1 p1 ⟨hk, h1⟩ =>
    ⟨kd_rel hK p1 r1 hk, w1, [], G1, Qw, r1, .nil, p1, h1, fun w G' v H' f r p q => hq w G' v H' (f1.trans f) r p q⟩⟩
/-- a list that is seen -/
theorem seen_rel (rp : Rep P G H) {p : Addr} {xs : List W} (e : G p = some (.lst xs)) : ∃ vs, H p = some (.lst vs) ∧ RelWs P G H xs vs := rp p _ e
theorem put_end {Qw : WQ} {Q : VK} {p : Addr} {xs ys : List W} {vs : List V} {w : W} {v : V} (hq : ∀ w G' v H', Fw G H G' H' → RelW P G' H' w v → Rep P G' H' → Qw w G' → Q v H') (rp : Rep P G H) (e : G p = some (.lst xs)) (ry : RelWs P G H ys vs) (r : RelW P G H w v) (q : Qw w (updG G p (.lst ys))) : Q v (upd H p (.lst vs)) := by
  have f : Fw G H (updG G p (.lst ys)) (upd H p (.lst vs)) := .put e
  exact hq w _ v _ f (r.fw rp f) (rp.put (u := .lst ys) f ⟨vs, upd_same, ry.fw rp f⟩) q
def mAppend : WRm := fun x ws G Q => ∃ p xs y, x = .ref p ∧ ws = [y] ∧ G p = some (.lst xs) ∧ xs.length < big ∧ Q .non (updG G p (.lst (xs ++ [y])))
theorem mw_append : MtW P X "list.append" mAppend := MtR.imp (show MtR X "list.append" rAppend from mt_append) fun x xs H Q ⟨wx, ws, G, Qw, rx, r, rp, ⟨p, ys, y, e1, e2, e, hl, q⟩, hq⟩ => by
  subst e1; subst e2
  cases rx
  obtain ⟨v, rfl, rv⟩ := r.one
  obtain ⟨vs, h, ra⟩ := seen_rel rp e
  exact ⟨p, vs, v, rfl, rfl, h, by rw [← ra.length, big_eq]; exact hl, put_end hq rp e (ra.append (.cons _ _ _ _ rv .nil)) .non q⟩
end
end Lw
/-! W6: calls by name, globals, more statements and methods. -/
namespace Lw
open PySem PySem.Spec PyProof.Rows L2

/-- a def of the text, as its callers see it -/
def CallOk (P : Par) (prog : Program) (w : World) (mg : Str → Option Value) (base : Heap) (x : Str) (k : Nat) (sp : WSp) : Prop :=
  ∃ (f : Addr) (fd : FuncData) (ps : List Str), FnW P prog w mg base k f fd ps sp ∧ mg x = some (.ref f) ∧ PySem.W.keepIn P.K (.ref f) = true ∧ Binds P.K fd ps []
/-- a module's constant -/
def GlobOk (P : Par) (mg : Str → Option Value) (x : Str) (w : W) : Prop := ∃ u v, mg x = some u ∧ RelV v u ∧ ∀ G H, RelW P G H w v
section
variable {P : Par} {X : Cx} {G : WHp} {H : Hp} {a b c e : Expr} {es : List Expr} {ta tb tc te : WTE} {t : WTA} {p pos : Pos} {x : Str} {k : Nat} {sp : WSp}
theorem je_callC (C : CallOk P X.prog X.w X.mg X.base x k sp) (hr : Room k X.A) (hg : Gl X x) (ha : JA P X (e :: es) t) (hK : X.K = P.K := by rfl) (hdb : (x == ("__debug__" : Str)) = false := by decide) (he : starEach (e :: es) X.env = (false, eval e X.env) :: starEach es X.env := by rfl) (hpl : (backTo pos (starEach es X.env)).any (·.1) = false := by rfl) :
    JE P X (.Call (.Name x p) (e :: es) [] pos) (wCall sp t) := by
  obtain ⟨f, fd, ps, F, hm, hk, hb⟩ := C
  exact je_call hK F hr hg hm hk hb ha hdb he hpl
theorem je_glob {w : W} (hg : Gl X x) (C : GlobOk P X.mg x w) (hd : (x == ("__debug__" : Str)) = false := by decide) : JE P X (.Name x pos) (wC w) := by
  obtain ⟨u, v, hm, r, rw_⟩ := C
  exact je_of (pe_glob hg hm r hd) fun σw G σ H Qw Q Ew rs rp q hq => hq _ G _ H (.refl _ _) (rw_ G H) rp q
theorem chain_step {wr wr' : WR2} {Ga : WHp} {Ha : Hp} {Ew : WXK} : ∀ σ H Q, embE P Ga Ha Ew (wChain wr wr' ta tb tc) σ H Q → tChain (emb2 P wr) (emb2 P wr') (embE P Ga Ha Ew ta) (embE P Ga Ha Ew tb) (embE P Ga Ha Ew tc) σ H Q :=
  fun σ H Q ⟨σw, G, Qw, fa, rs, rp, ht, hq⟩ => ⟨σw, G, _, fa, rs, rp, ht, fun w1 G1 v1 H1 f1 r1 p1 h1 => ⟨σw, G1, _, fa.trans f1, rs.fw rp f1, p1, h1, fun w2 G2 v2 H2 f2 r2 p2 h2 =>
    ⟨w1, w2, G2, _, r1.fw p1 f2, r2, p2, h2, fun w3 G3 v3 H3 f3 r3 p3 ⟨k, e, q⟩ => by
      subst e
      cases r3
      refine ⟨k, rfl, ?_⟩
      cases k with
      | true => exact ⟨σw, G3, _, fa.trans (f1.trans (f2.trans f3)), ((rs.fw rp f1).fw p1 f2).fw p2 f3, p3, q, fun w4 G4 v4 H4 f4 r4 p4 h4 => ⟨w2, w4, G4, Qw, (r2.fw p2 f3).fw p3 f4, r4, p4, h4, fun w G' v H' f r p q => hq w G' v H' (f1.trans (f2.trans (f3.trans (f4.trans f)))) r p q⟩⟩
      | false => exact hq _ G3 _ H3 (f1.trans (f2.trans f3)) (.bl false) p3 q⟩⟩⟩
theorem je_chain {op op' : CmpOp} {wr wr' : WR2} (ho : OpW P X (compareOp op) wr) (ho' : OpW P X (compareOp op') wr') (ha : JE P X a ta) (hb : JE P X b tb) (hc : JE P X c tc)
    (hm : lastMarks [op, op'] [b, c] = false := by with_unfolding_all rfl) : JE P X (.Compare a [op, op'] [b, c] pos) (wChain wr wr' ta tb tc) := fun Ga Ha Ew tk =>
  PE.imp (pe_chain ho ho' (ha Ga Ha Ew tk) (hb Ga Ha Ew tk) (hc Ga Ha Ew tk) hm) chain_step
theorem jt_chain {op op' : CmpOp} {wr wr' : WR2} (ho : OpW P X (compareOp op) wr) (ho' : OpW P X (compareOp op') wr') (ha : JE P X a ta) (hb : JE P X b tb) (hc : JE P X c tc)
    (hm : lastMarks [op, op'] [b, c] = false := by with_unfolding_all rfl) : JT P X (.Compare a [op, op'] [b, c] pos) (wTest (wChain wr wr' ta tb tc)) := fun Ga Ha Ew tk =>
  PT.imp (pt_chain ho ho' (ha Ga Ha Ew tk) (hb Ga Ha Ew tk) (hc Ga Ha Ew tk) hm) fun σ H Q ⟨σw, G, Qw, fa, rs, rp, ht, hq⟩ => chain_step σ H _ ⟨σw, G, _, fa, rs, rp, ht, fun w G1 v H1 f1 r p ⟨k, e, q⟩ => by subst e; cases r; exact ⟨k, rfl, hq k G1 H1 f1 p q⟩⟩
/-- y = [..], y a local -/
theorem js_setLcG {fin : Addr → List W → WHp → WQ → Prop} (hfin : ∀ {G' H' D acc Qw} {Q : VK} , Rep P G' H' → G' D = some (.lst acc) → fin D acc G' Qw → (∀ w G2 v H2, RelW P G2 H2 w v → Rep P G2 H2 → Sub G2 G' → H2 = H' → Qw w G2 → Q v H2) → Q (.ref D) H') {i : Nat} {y : Str} {py spos : Pos}
    {elt iter : Expr} {ifs : List Expr} {scope : Scope} {j : Nat} {x : Str} {xp : Pos} {wi : WTI} {tt : WTT} {te : WTE} (hc : X.calm = true) (hN : X.N.Nodup) (hy : X.N[i]? = some y) (hyl : X.env.scope.names.lookup y = some .local)
    (hsw : swapsWith (.ListComp elt [⟨.Name x xp, iter, ifs, 0⟩] scope pos) (some (.Name y py)) spos.line X.env = pure true) (hi : JI P X (.Name x xp) iter wi) (ok : BlkOk X.N X.env.scope scope [(x, j)])
    (hg : ∀ (s : Shared) (H : Hp) (C : Addr) (cl : List (Str × Addr)) (fp : List Addr), PG (X.blk s H scope (compEnvC scope cl C X.env) fp) (.Name x xp) (gName j)) (ht : ∀ (s : Shared) (H : Hp) (C : Addr) (cl : List (Str × Addr)) (fp : List Addr), JTs P (X.blk s H scope (compEnvC scope cl C X.env) fp) ifs tt)
    (he : ∀ (s : Shared) (H : Hp) (C : Addr) (cl : List (Str × Addr)) (fp : List Addr), JE P (X.blk s H scope (compEnvC scope cl C X.env) fp) elt te) (hs : ∀ x, foldedSetIterable iter X.env x = pure x := by intro _; rfl) :
    JS P X (.Assign [.Name y py] (.ListComp elt [⟨.Name x xp, iter, ifs, 0⟩] scope pos) spos) (wAsg (wLcG fin wi j tt te) (wN i)) := fun Ga Ha Ew tk =>
  PS.imp (ps_setLc (i := i) (own := [(x, j)]) hc hN hy hyl hsw (hi Ga Ha Ew tk) ok hg (fun s H C cl fp => ht s H C cl fp _ _ _ takesF) (fun s H C cl fp => he s H C cl fp _ _ _ takesF) hs) fun D σ H ⟨σw, G, Dw, fa, rs, rp, ht, h1, h2, h3, h4⟩ =>
    lc_step (Ga := Ga) (Ha := Ha) (Ew := Ew) hfin σ H _ ⟨σw, G, _, fa, rs, rp, ht, fun w G' v H' f r p q => h1 _ G' _ H' f ((rs.fw rp f).set r i) p q⟩
theorem js_setLcM {i : Nat} {y : Str} {py spos : Pos}
    {elt iter : Expr} {ifs : List Expr} {scope : Scope} {j : Nat} {x : Str} {xp : Pos} {wi : WTI} {tt : WTT} {te : WTE} (hyl : X.env.scope.names.lookup y = some .local)
    (hsw : swapsWith (.ListComp elt [⟨.Name x xp, iter, ifs, 0⟩] scope pos) (some (.Name y py)) spos.line X.env = pure true) (hc : X.calm = true) (hN : X.N.Nodup) (hi : JI P X (.Name x xp) iter wi) (ok : BlkOk X.N X.env.scope scope [(x, j)])
    (hg : ∀ (s : Shared) (H : Hp) (C : Addr) (cl : List (Str × Addr)) (fp : List Addr), PG (X.blk s H scope (compEnvC scope cl C X.env) fp) (.Name x xp) (gName j)) (ht : ∀ (s : Shared) (H : Hp) (C : Addr) (cl : List (Str × Addr)) (fp : List Addr), JTs P (X.blk s H scope (compEnvC scope cl C X.env) fp) ifs tt)
    (he : ∀ (s : Shared) (H : Hp) (C : Addr) (cl : List (Str × Addr)) (fp : List Addr), JE P (X.blk s H scope (compEnvC scope cl C X.env) fp) elt te) (hy : X.N[i]? = some y := by rfl) (hs : ∀ x, foldedSetIterable iter X.env x = pure x := by intro _; rfl) :
    JS P X (.Assign [.Name y py] (.ListComp elt [⟨.Name x xp, iter, ifs, 0⟩] scope pos) spos) (wAsg (wLcM wi j tt te) (wN i)) := js_setLcG fin_M hc hN hy hyl hsw hi ok hg ht he hs
theorem js_setLcI {i : Nat} {y : Str} {py spos : Pos}
    {elt iter : Expr} {ifs : List Expr} {scope : Scope} {j : Nat} {x : Str} {xp : Pos} {wi : WTI} {tt : WTT} {te : WTE} (hyl : X.env.scope.names.lookup y = some .local)
    (hsw : swapsWith (.ListComp elt [⟨.Name x xp, iter, ifs, 0⟩] scope pos) (some (.Name y py)) spos.line X.env = pure true) (hc : X.calm = true) (hN : X.N.Nodup) (hi : JI P X (.Name x xp) iter wi) (ok : BlkOk X.N X.env.scope scope [(x, j)])
    (hg : ∀ (s : Shared) (H : Hp) (C : Addr) (cl : List (Str × Addr)) (fp : List Addr), PG (X.blk s H scope (compEnvC scope cl C X.env) fp) (.Name x xp) (gName j)) (ht : ∀ (s : Shared) (H : Hp) (C : Addr) (cl : List (Str × Addr)) (fp : List Addr), JTs P (X.blk s H scope (compEnvC scope cl C X.env) fp) ifs tt)
    (he : ∀ (s : Shared) (H : Hp) (C : Addr) (cl : List (Str × Addr)) (fp : List Addr), JE P (X.blk s H scope (compEnvC scope cl C X.env) fp) elt te) (hy : X.N[i]? = some y := by rfl) (hs : ∀ x, foldedSetIterable iter X.env x = pure x := by intro _; rfl) :
    JS P X (.Assign [.Name y py] (.ListComp elt [⟨.Name x xp, iter, ifs, 0⟩] scope pos) spos) (wAsg (wLcI wi j tt te) (wN i)) := js_setLcG fin_I hc hN hy hyl hsw hi ok hg ht he hs
/-- a list's truth -/
def wTruth (te : WTE) : WTT := fun σ G Q E => te σ G (fun x G1 => ∃ xs, sqT G1 x = some xs ∧ Q (!xs.isEmpty) G1) E
theorem RelWs.isEmpty {ws : List W} {vs : List V} (r : RelWs P G H ws vs) : ws.isEmpty = vs.isEmpty := by cases r <;> rfl
theorem jt_truth (hK : X.K = P.K) (h : JE P X a ta) (he : ∀ whole, isTrue a X.env whole = (do let v ← whole; standAt a.pos; holding [v] (truthy v)) := by intro _; rfl) : JT P X a (wTruth ta) := fun Ga Ha Ew tk =>
  PT.imp (pt_truth (h Ga Ha Ew tk) he) fun σ H Q ⟨σw, G, Qw, fa, rs, rp, ht, hq⟩ => ⟨σw, G, _, fa, rs, rp, ht, fun w G1 v H1 f1 r p ⟨xs, e, q⟩ => by
    obtain ⟨a, vs, rfl, ha, ra⟩ := sqT_rel p r e
    refine ⟨!xs.isEmpty, ?_, hq _ G1 H1 f1 p q⟩
    rw [ra.isEmpty, hK]
    rcases ha with ha | ha
    · exact .inl ⟨vs, ha, rfl⟩
    · exact .inr (.inl ⟨vs, ha, rfl⟩)⟩

/-! ### lists changed -/
def mInsert : WRm := fun x ws G Q => ∃ p xs i y, x = .ref p ∧ ws = [.int i, y] ∧ G p = some (.lst xs) ∧ xs.length < big ∧ 0 ≤ i ∧ i < 2 ^ 63 ∧ Q .non (updG G p (.lst (xs.take i.toNat ++ [y] ++ xs.drop i.toNat)))
theorem mw_insert : MtW P X "list.insert" mInsert := MtR.imp mt_insert fun x xs H Q ⟨wx, ws, G, Qw, rx, r, rp, ⟨p, ys, i, y, e1, e2, e, hl, h0, h1, q⟩, hq⟩ => by
  subst e1; subst e2
  cases rx
  obtain ⟨v, u, rfl, rv, ru⟩ := r.two
  cases rv
  obtain ⟨vs, h, ra⟩ := seen_rel rp e
  exact ⟨p, vs, i, u, rfl, rfl, h, by rw [← ra.length, big_eq]; exact hl, h0, h1, put_end hq rp e (((ra.take _).append (.cons _ _ _ _ ru .nil)).append (ra.drop _)) .non q⟩
def mExtend : WRm := fun x ws G Q => ∃ p xs y zs, x = .ref p ∧ ws = [y] ∧ G p = some (.lst xs) ∧ lstOf G y = some zs ∧ xs.length + zs.length ≤ big ∧ Q .non (updG G p (.lst (xs ++ zs)))
theorem mw_extend : MtW P X "list.extend" mExtend := MtR.imp (show MtR X "list.extend" rExtend from mt_extend) fun x xs H Q ⟨wx, ws, G, Qw, rx, r, rp, ⟨p, ys, y, zs, e1, e2, e, e3, hl, q⟩, hq⟩ => by
  subst e1; subst e2
  cases rx
  obtain ⟨v, rfl, rv⟩ := r.one
  obtain ⟨vs, h, ra⟩ := seen_rel rp e
  obtain ⟨b, us, rfl, hb, rb⟩ := lstOf_rel rp rv e3
  exact ⟨p, b, vs, us, rfl, rfl, h, hb, by rw [← ra.length, ← rb.length, big_eq]; exact hl, put_end hq rp e (ra.append rb) .non q⟩
theorem RelWs.dropLast : ∀ {ws : List W} {vs : List V}, RelWs P G H ws vs → RelWs P G H ws.dropLast vs.dropLast := fun {ws vs} r => by
  rw [List.dropLast_eq_take, List.dropLast_eq_take, ← r.length]
  exact r.take _
theorem RelWs.eraseIdx {ws : List W} {vs : List V} (k : Nat) (r : RelWs P G H ws vs) : RelWs P G H (ws.eraseIdx k) (vs.eraseIdx k) := by
  rw [List.eraseIdx_eq_take_drop_succ, List.eraseIdx_eq_take_drop_succ]
  exact (r.take _).append (r.drop _)
theorem RelWs.reverse : ∀ {ws : List W} {vs : List V}, RelWs P G H ws vs → RelWs P G H ws.reverse vs.reverse
  | _, _, .nil => .nil
  | _, _, .cons w v ws vs h r => by
    rw [List.reverse_cons, List.reverse_cons]
    exact (RelWs.reverse r).append (.cons _ _ _ _ h .nil)
def mPop : WRm := fun x ws G Q => ∃ p xs y, x = .ref p ∧ ws = [] ∧ G p = some (.lst xs) ∧ xs[xs.length - 1]? = some y ∧ Q y (updG G p (.lst xs.dropLast))
theorem mw_pop : MtW P X "list.pop" mPop := MtR.imp (show MtR X "list.pop" rPop from mt_pop) fun x xs H Q ⟨wx, ws, G, Qw, rx, r, rp, ⟨p, ys, y, e1, e2, e, e3, q⟩, hq⟩ => by
  subst e1; subst e2
  cases rx
  have e4 := r.zero
  subst e4
  obtain ⟨vs, h, ra⟩ := seen_rel rp e
  obtain ⟨v, hv, rv⟩ := ra.get e3
  exact ⟨p, vs, v, rfl, rfl, h, by rw [← ra.length]; exact hv, put_end hq rp e ra.dropLast rv q⟩
def mPopAt : WRm := fun x ws G Q => ∃ p xs i y, x = .ref p ∧ ws = [.int i] ∧ G p = some (.lst xs) ∧ xs.length ≤ big ∧ 0 ≤ i ∧ xs[i.toNat]? = some y ∧ Q y (updG G p (.lst (xs.eraseIdx i.toNat)))
theorem mw_popAt : MtW P X "list.pop" mPopAt := MtR.imp (show MtR X "list.pop" rPopAt from mt_popAt) fun x xs H Q ⟨wx, ws, G, Qw, rx, r, rp, ⟨p, ys, i, y, e1, e2, e, hl, h0, e3, q⟩, hq⟩ => by
  subst e1; subst e2
  cases rx
  obtain ⟨v, rfl, rv⟩ := r.one
  cases rv
  obtain ⟨vs, h, ra⟩ := seen_rel rp e
  obtain ⟨v, hv, rv⟩ := ra.get e3
  have hi : i.toNat < ys.length := (List.getElem?_eq_some_iff.mp e3).1
  have hb : big = 16777216 := rfl
  have hlen := ra.length
  exact ⟨p, vs, i, i.toNat, v, rfl, rfl, h, by omega, by omega, seqIndex_of h0 (by omega), hv, put_end hq rp e (ra.eraseIdx _) rv q⟩
def mReverse : WRm := fun x ws G Q => ∃ p xs, x = .ref p ∧ ws = [] ∧ G p = some (.lst xs) ∧ Q .non (updG G p (.lst xs.reverse))
theorem mw_reverse : MtW P X "list.reverse" mReverse := MtR.imp (show MtR X "list.reverse" rReverse from mt_reverse) fun x xs H Q ⟨wx, ws, G, Qw, rx, r, rp, ⟨p, ys, e1, e2, e, q⟩, hq⟩ => by
  subst e1; subst e2
  cases rx
  have e4 := r.zero
  subst e4
  obtain ⟨vs, h, ra⟩ := seen_rel rp e
  exact ⟨p, vs, rfl, rfl, h, put_end hq rp e ra.reverse .non q⟩
def mClear : WRm := fun x ws G Q => ∃ p xs, x = .ref p ∧ ws = [] ∧ G p = some (.lst xs) ∧ Q .non (updG G p (.lst []))
theorem mw_clear : MtW P X "list.clear" mClear := MtR.imp (show MtR X "list.clear" rClear from mt_clear) fun x xs H Q ⟨wx, ws, G, Qw, rx, r, rp, ⟨p, ys, e1, e2, e, q⟩, hq⟩ => by
  subst e1; subst e2
  cases rx
  have e4 := r.zero
  subst e4
  obtain ⟨vs, h, ra⟩ := seen_rel rp e
  exact ⟨p, vs, rfl, rfl, h, put_end hq rp e .nil .non q⟩
/-- the first place of a flat value -/
def mIndex : WRm := fun x ws G Q => ∃ ys y j z, ws = [y] ∧ sqOf G x = some ys ∧ flW y = true ∧ ys.all flW = true ∧ ys[j]? = some z ∧ eqFl z y = true ∧ (∀ (m : Nat) z', m < j → ys[m]? = some z' → eqFl z' y = false) ∧ Q (.int (j : Nat)) G
theorem mw_index (hK : X.K = P.K) : MtW P X "list.index" mIndex := MtR.imp mt_index fun x xs H Q ⟨wx, ws, G, Qw, rx, r, rp, ⟨ys, y, j, z, e2, e, fy, fys, hj, hz, hno, q⟩, hq⟩ => by
  subst e2
  obtain ⟨v, rfl, rv⟩ := r.one
  obtain ⟨a, vs, rfl, ha, ra⟩ := sqOf_rel rp rx e
  obtain ⟨u, hu, ru⟩ := ra.get hj
  have fl : ∀ {m : Nat} {z' : W}, ys[m]? = some z' → flW z' = true := fun h => List.all_eq_true.mp fys _ (List.mem_of_getElem? h)
  refine ⟨a, vs, v, j, u, rfl, rfl, by rw [hK]; exact ha, flW_rel rv fy, all_flat ra fys, hu, by rw [eqFl_rel ru rv (fl hj) fy]; exact hz, fun m z' hm hz' => ?_, emb_end hq rp (.int _) q⟩
  obtain ⟨w', hw', rw'⟩ := ra.get' hz'
  rw [eqFl_rel rw' rv (fl hw') fy]
  exact hno m w' hm hw'

/-! ### xs[i] = e -/
abbrev WSet := W → W → W → WHp → (WHp → Prop) → Prop
def embSet (P : Par) (wr : WSet) : V → V → V → Hp → (Hp → Prop) → Prop := fun o i v H Q => ∃ wo wi wv G Qw, RelW P G H wo o ∧ RelW P G H wi i ∧ RelW P G H wv v ∧ Rep P G H ∧ wr wo wi wv G Qw ∧ ∀ G' H', Fw G H G' H' → Rep P G' H' → Qw G' → Q H'
def SetW (P : Par) (X : Cx) (wr : WSet) : Prop := PSet X (embSet P wr)
def wGSub (wr : WSet) (to ti : WTE) : WTG := fun v σ G Q E => to σ G (fun o G1 => ti σ G1 (fun i G2 => wr o i v G2 fun G3 => Q σ G3) E) E
theorem jg_sub {wr : WSet} (ho : JE P X a ta) (hi : JE P X b tb) (hs : SetW P X wr)
    (ha : ∀ v, assign (.Subscript a b pos) X.env v = (do
      let ov ← holding [v] (eval a X.env)
      let iv ← holding [v, ov] (eval b X.env)
      standAt pos
      holding [v, ov, iv] (setItem ov iv v)
      release [v, ov, iv] []) := by intro _; rfl) : JG P X (.Subscript a b pos) (wGSub wr ta tb) := fun Ga Ha Ew tk =>
  PG.imp (pg_sub (ho Ga Ha Ew tk) (hi Ga Ha Ew tk) hs ha) fun v σ H Q ⟨w, σw, G, Qw, fa, rw_, rs, rp, ht, hq⟩ => ⟨σw, G, _, fa, rs, rp, ht, fun o G1 ov H1 f1 ro p1 h1 => ⟨σw, G1, _, fa.trans f1, rs.fw rp f1, p1, h1, fun i G2 iv H2 f2 ri p2 h2 =>
    ⟨o, i, w, G2, _, ro.fw p1 f2, ri, (rw_.fw rp f1).fw p1 f2, p2, h2, fun G3 H3 f3 p3 q => hq _ G3 _ H3 (f1.trans (f2.trans f3)) (((rs.fw rp f1).fw p1 f2).fw p2 f3) p3 q⟩⟩⟩
def mSet : WSet := fun o i v G Q => ∃ p xs k j, o = .ref p ∧ i = .int k ∧ G p = some (.lst xs) ∧ ixN xs.length k = some j ∧ Q (updG G p (.lst (xs.set j v)))
theorem pw_list : SetW P X mSet := by
  intro pins s σ H o i v ov iv u Q I ro ri rv h
  obtain ⟨wo, wi, wv, G, Qw, r1, r2, r3, rp, ⟨p, xs, k, j, e1, e2, e, hj, q⟩, hq⟩ := h
  subst e1; subst e2
  cases r1; cases r2
  obtain ⟨vs, h, ra⟩ := seen_rel rp e
  have f : Fw G H (updG G p (.lst (xs.set j wv))) (upd H p (.lst (vs.set j v))) := .put e
  exact set_list pins s σ H _ _ v ov iv u Q I ro ri rv ⟨p, vs, k, j, rfl, rfl, h, by rw [← ra.length]; exact hj, hq _ _ f (rp.put (u := .lst (xs.set j wv)) f ⟨_, upd_same, (RelWs.set r3 j ra).fw rp f⟩) q⟩

/-! ### texts -/
def strsOf : List W → Option (List (List Nat))
  | [] => some []
  | .str s :: r => (strsOf r).map (s :: ·)
  | _ :: _ => none
theorem RelWs.strs : ∀ {ws : List W} {vs : List V} {ss : List (List Nat)}, RelWs P G H ws vs → strsOf ws = some ss → vs = (ss.map S).map V.str
  | _, _, ss, .nil, e => by cases e; rfl
  | _, _, ss, .cons w v ws vs h r, e => by
    cases h with
    | str s =>
      unfold strsOf at e
      cases q : strsOf ws with
      | none => rw [q] at e; cases e
      | some ss' =>
        rw [q] at e
        cases e
        rw [RelWs.strs r q]
        rfl
    | _ => cases e
theorem strsOf_map (ss : List (List Nat)) : strsOf (ss.map W.str) = some ss := by
  induction ss with
  | nil => rfl
  | cons s r ih => simp [strsOf, ih]
def mSjoin : WRm := fun x ws G Q => ∃ s y zs ss, x = .str s ∧ ws = [y] ∧ sqT G y = some zs ∧ strsOf zs = some ss ∧ (ss.map (·.length)).sum + ss.length * s.length ≤ big ∧ Q (.str (TL.joinL s ss)) G
theorem mw_sjoin (hK : X.K = P.K) : MtW P X "str.join" mSjoin := MtR.imp mt_join fun x xs H Q ⟨wx, ws, G, Qw, rx, r, rp, ⟨s, y, zs, ss, e1, e2, e, e3, hl, q⟩, hq⟩ => by
  subst e1; subst e2
  cases rx
  obtain ⟨v, rfl, rv⟩ := r.one
  obtain ⟨a, vs, rfl, ha, ra⟩ := sqT_rel rp rv e
  have ev := ra.strs e3
  subst ev
  refine ⟨S s, a, ss.map S, rfl, rfl, by rw [hK]; exact ha, ?_, ?_⟩
  · rw [List.map_map, List.length_map]
    exact hl
  · have ej : Txt.join (S s) (ss.map S) = S (TL.joinL s ss) := by
      refine TL.ext_tl ?_
      rw [TL.join_eq, TL.tl_join, List.map_map]
      show TL.joinL s (ss.map (TL.tl ∘ S)) = TL.joinL s ss
      have : (TL.tl ∘ S) = id := by funext z; rfl
      rw [this, List.map_id]
    rw [ej]
    exact emb_end hq rp (.str _) q
/-- cut at each separator; as a value -/
def splitL (t s : List Nat) : List (List Nat) := TL.spl t 0 [] s
def mSsplit : WRm := fun x ws G Q => ∃ s t, x = .str s ∧ ws = [.str t] ∧ t ≠ [] ∧ t.all (· < 256) = true ∧ s.length + 2 ≤ big ∧ Q (.il ((splitL t s).map .str)) G
def mSsplitM : WRm := fun x ws G Q => ∃ s t, x = .str s ∧ ws = [.str t] ∧ t ≠ [] ∧ t.all (· < 256) = true ∧ s.length + 2 ≤ big ∧ ∀ p, G p = none → Q (.ref p) (updG G p (.lst ((splitL t s).map .str)))
theorem split_S {s t : List Nat} (h : t ≠ []) (hk : t.all (· < 256) = true) : (Txt.split (S s) (S t)).map V.str = ((splitL t s).map S).map V.str := by
  have e : Txt.split (S s) (S t) = (splitL t s).map S := by
    refine TL.map_tl_inj ?_
    rw [TL.split_spl (S s) (S t) h (TL.kind_ok (by simpa using hk)), List.map_map]
    show splitL t s = (splitL t s).map (TL.tl ∘ S)
    have : (TL.tl ∘ S) = id := by funext z; rfl
    rw [this, List.map_id]
  rw [e]
theorem RelWs.ofStrs (ss : List (List Nat)) : RelWs P G H (ss.map W.str) ((ss.map S).map V.str) := by
  induction ss with
  | nil => exact .nil
  | cons s r ih => exact .cons _ _ _ _ (.str s) ih
theorem mw_ssplit : MtW P X "str.split" mSsplit := MtR.imp mt_split fun x xs H Q ⟨wx, ws, G, Qw, rx, r, rp, ⟨s, t, e1, e2, ht, hk, hl, q⟩, hq⟩ => by
  subst e1; subst e2
  cases rx
  obtain ⟨v, rfl, rv⟩ := r.one
  cases rv
  refine ⟨S s, S t, rfl, rfl, ?_, by rw [S_len, big_eq]; exact hl, fun p hp => ?_⟩
  · cases t with
    | nil => exact absurd rfl ht
    | cons c r => rfl
  · rw [split_S ht hk]
    exact hq _ G _ _ (.hid hp) (.il p _ _ ⟨upd_same, rp.free hp⟩ (.ofStrs _)) (rp.hid hp) q
theorem mw_ssplitM : MtW P X "str.split" mSsplitM := MtR.imp mt_split fun x xs H Q ⟨wx, ws, G, Qw, rx, r, rp, ⟨s, t, e1, e2, ht, hk, hl, q⟩, hq⟩ => by
  subst e1; subst e2
  cases rx
  obtain ⟨v, rfl, rv⟩ := r.one
  cases rv
  refine ⟨S s, S t, rfl, rfl, ?_, by rw [S_len, big_eq]; exact hl, fun p hp => ?_⟩
  · cases t with
    | nil => exact absurd rfl ht
    | cons c r => rfl
  · rw [split_S ht hk]
    exact hq _ _ _ _ (.new hp) (.ref p) (rp.put (u := .lst ((splitL t s).map .str)) (.new hp) ⟨_, upd_same, .ofStrs _⟩) (q p (rp.free hp))
def mSindex : WRm := fun x ws G Q => ∃ s t i rest, x = .str s ∧ ws = [.str t] ∧ Builtin.Str.occurrences (S s) (S t) 0 s.length 1 = i :: rest ∧ Q (.int (i : Nat)) G
theorem mw_sindex : MtW P X "str.index" mSindex := MtR.imp mt_sindex fun x xs H Q ⟨wx, ws, G, Qw, rx, r, rp, ⟨s, t, i, rest, e1, e2, e, q⟩, hq⟩ => by
  subst e1; subst e2
  cases rx
  obtain ⟨v, rfl, rv⟩ := r.one
  cases rv
  exact ⟨S s, S t, i, rest, rfl, rfl, e, emb_end hq rp (.int _) q⟩
end
/-- the law's promise from the script's list -/
def spLaw : WSp := fun ws G Q _ => ∃ ns : List Int, ws = [.sc ns] ∧ ns.length ≤ 63 ∧ G = (fun _ => none) ∧ ∀ G', Q (.bl true) G'
theorem law_sp (P : Par) {H : Hp} {a : Addr} {ns : List Int} (hl : ns.length ≤ 63) (hO : Only H) (hS : SqL P.K H a (ns.map V.int)) : embSp P spLaw [.ref a] H (fun v _ => v = .bl true) fun _ _ _ => False := by
  refine ⟨[.sc ns], fun _ => none, fun w _ => w = .bl true, fun _ _ => False, .cons _ _ _ _ (.sc a ns ?_) .nil, fun _ _ e => (nomatch e), ⟨ns, rfl, hl, rfl, fun _ => rfl⟩, fun w G' v H' _ r _ q => ?_, fun _ _ _ _ _ _ _ _ q => q.elim⟩
  · rcases hS with (hS | ⟨o, hS⟩) | hS
    · rcases hO a with z | ⟨o, xs, z⟩
      · rw [hS] at z; cases z
      · rw [hS] at z; cases z
    · exact .inl ⟨o, hS⟩
    · exact .inr (.inr hS)
  · subst q
    cases r
    rfl
end Lw
/-! W7: the readings of operators on known values, as equations for simp. -/
namespace Lw
open PySem PySem.Spec PyProof.Rows L2
theorem passesW {X : Cx} {K : Value → Shared → Prop} {E₁ : Value → Shared → Prop} (hx : X.xe = fun e s' => wpAny (model X.prog X.w) X.A (leaving X.env e) (fun _ s'' => K e s'') E₁ s') : PassesOwn (model X.prog X.w) X.A X.env X.xe := passes_of hx
section
variable {G : WHp} {Q : WQ} {σ : WSt} {E : WXK}
theorem oLen_str (s : List Nat) : oLen [.str s] G Q = (s.length ≤ 16777216 ∧ Q (.int s.length) G) := rfl
theorem oLen_tup (s : List W) : oLen [.tup s] G Q = Q (.int s.length) G := rfl
theorem oLen_il (s : List W) : oLen [.il s] G Q = Q (.int s.length) G := by simp [oLen, sqOf, lstOf]
theorem oLen_sc (s : List Int) : oLen [.sc s] G Q = Q (.int s.length) G := by simp [oLen, sqOf, lstOf]
theorem oLen_ref (p : Addr) (xs : List W) (h : G p = some (.lst xs)) : oLen [.ref p] G Q = Q (.int xs.length) G := by simp [oLen, sqOf, lstOf, h]
theorem oI_int (C : Int → Int → Prop) (g : Int → Int → Int) (i j : Int) : oI C g (.int i) (.int j) G Q = (C i j ∧ Q (.int (g i j)) G) := rfl
theorem oC_int (p : Int → Int → Bool) (i j : Int) : oC p (.int i) (.int j) G Q = Q (.bl (p i j)) G := rfl
theorem oAdd_int (i j : Int) : oAdd (.int i) (.int j) G Q = Q (.int (i + j)) G := rfl
theorem oAdd_str (s t : List Nat) : oAdd (.str s) (.str t) G Q = (s.length + t.length ≤ 16777216 ∧ Q (.str (s ++ t)) G) := rfl
theorem oAdd_tup (s t : List W) : oAdd (.tup s) (.tup t) G Q = (s.length + t.length ≤ 16777216 ∧ Q (.tup (s ++ t)) G) := rfl
theorem oAdd_il (s t : List W) : oAdd (.il s) (.il t) G Q = (s.length + t.length ≤ 16777216 ∧ Q (.il (s ++ t)) G) := by simp [oAdd, lstOf, big]
theorem oNeg_int (i : Int) : oNeg (.int i) G Q = Q (.int (-i)) G := rfl
theorem oIx_sc (s : List Int) (i : Int) : oIx (.sc s) (.int i) G Q = ∃ n, atI s i = some n ∧ Q (.int n) G := by
  simp only [oIx, sqOf, Option.some.injEq]
  apply propext
  constructor
  · rintro ⟨ws, w, rfl, h, q⟩
    unfold L2.atI at h ⊢
    rw [List.length_map] at h
    cases e : ixN s.length i with
    | none => rw [e] at h; cases h
    | some j =>
      rw [e] at h
      simp only [Option.bind_some, List.getElem?_map, Option.map_eq_some_iff] at h ⊢
      obtain ⟨n, h1, rfl⟩ := h
      exact ⟨n, h1, q⟩
  · rintro ⟨n, h, q⟩
    refine ⟨_, _, rfl, ?_, q⟩
    unfold L2.atI at h ⊢
    rw [List.length_map]
    cases e : ixN s.length i with
    | none => rw [e] at h; cases h
    | some j =>
      rw [e] at h
      simp only [Option.bind_some, List.getElem?_map] at h ⊢
      rw [h] <;> rfl
theorem oIx_str (s : List Nat) (i : Int) : oIx (.str s) (.int i) G Q = (s.length ≤ 16777216 ∧ ∃ c, atI s i = some c ∧ Q (.str [c]) G) := rfl
theorem oIx_tup (s : List W) (i : Int) : oIx (.tup s) (.int i) G Q = ∃ w, atI s i = some w ∧ Q w G := rfl
theorem oIx_il (s : List W) (i : Int) : oIx (.il s) (.int i) G Q = ∃ w, atI s i = some w ∧ Q w G := by simp [oIx, sqOf, lstOf]
theorem oIx_ref (p : Addr) (s : List W) (i : Int) (h : G p = some (.lst s)) : oIx (.ref p) (.int i) G Q = ∃ w, atI s i = some w ∧ Q w G := by simp [oIx, sqOf, lstOf, h]
theorem oSl_str (s : List Nat) (lo hi : Option Int) : oSl (.str s) lo hi G Q = (s.length ≤ 16777216 ∧ Q (.str (cutL s lo hi)) G) := rfl
theorem oSl_tup (s : List W) (lo hi : Option Int) : oSl (.tup s) lo hi G Q = Q (.tup (cutL s lo hi)) G := rfl
theorem oSl_il (s : List W) (lo hi : Option Int) : oSl (.il s) lo hi G Q = Q (.il (cutL s lo hi)) G := by simp [oSl, sqOf, lstOf]
theorem cutL_map {α β : Type} (f : α → β) (s : List α) (lo hi : Option Int) : cutL (s.map f) lo hi = (cutL s lo hi).map f := by
  unfold cutL
  rw [List.length_map, List.map_take, List.map_drop]
theorem oSl_sc (s : List Int) (lo hi : Option Int) : oSl (.sc s) lo hi G Q = Q (.il ((cutL s lo hi).map W.int)) G := by
  simp [oSl, sqOf, cutL_map]
theorem oEq_scl {x y : W} {k : Bool} (h : sclW x y = some k) : oEq x y G Q = Q (.bl k) G := by unfold oEq; rw [h]
theorem oEq_int (i j : Int) : oEq (.int i) (.int j) G Q = Q (.bl (decide (i = j))) G := rfl
theorem oEq_str (i j : List Nat) : oEq (.str i) (.str j) G Q = Q (.bl (decide (i = j))) G := rfl
theorem oEq_bl (i j : Bool) : oEq (.bl i) (.bl j) G Q = Q (.bl (decide (i = j))) G := rfl
theorem oNe_int (i j : Int) : oNe (.int i) (.int j) G Q = Q (.bl (!decide (i = j))) G := rfl
theorem oNe_str (i j : List Nat) : oNe (.str i) (.str j) G Q = Q (.bl (!decide (i = j))) G := rfl
theorem oNe_bl (i j : Bool) : oNe (.bl i) (.bl j) G Q = Q (.bl (!decide (i = j))) G := rfl
theorem oNe_nonint (j : Int) : oNe .non (.int j) G Q = Q (.bl true) G := rfl
theorem oNe_intnon (j : Int) : oNe (.int j) .non G Q = Q (.bl true) G := rfl
theorem oIn_sign (c : Nat) (t : List Nat) : oIn (.str [c]) (.str t) G Q = Q (.bl (decide (c ∈ t))) G := by
  simp only [oIn, inW, List.cons.injEq, and_true]
  apply propext
  exact ⟨fun ⟨d, e, q⟩ => by subst e; exact q, fun q => ⟨c, rfl, q⟩⟩
theorem oNotIn_sign (c : Nat) (t : List Nat) : oNotIn (.str [c]) (.str t) G Q = Q (.bl (!decide (c ∈ t))) G := by
  simp only [oNotIn, inW, List.cons.injEq, and_true]
  apply propext
  exact ⟨fun ⟨d, e, q⟩ => by subst e; exact q, fun q => ⟨c, rfl, q⟩⟩
theorem oStr_int (i : Int) : oStr [.int i] G Q = (i.natAbs.log2 < 1920 ∧ Q (.str (strI i)) G) := rfl
theorem oInt_int (i : Int) : oInt [.int i] G Q = Q (.int i) G := rfl
theorem oInt_bl (k : Bool) : oInt [.bl k] G Q = Q (.int (if k then 1 else 0)) G := rfl
theorem oMax2_int (i j : Int) : oMax2 [.int i, .int j] G Q = Q (.int (if j > i then j else i)) G := rfl
theorem oMin2_int (i j : Int) : oMin2 [.int i, .int j] G Q = Q (.int (if j < i then j else i)) G := rfl
theorem kit_ii : kitB "int" "int" = some true := by decide +kernel
theorem kit_ib : kitB "int" "bool" = some false := by decide +kernel
theorem kit_bb : kitB "bool" "bool" = some true := by decide +kernel
theorem kit_bi : kitB "bool" "int" = some true := by decide +kernel
theorem kit_ss : kitB "str" "str" = some true := by decide +kernel
theorem kit_ll : kitB "list" "list" = some true := by decide +kernel
theorem kit_dd : kitB "dict" "dict" = some true := by decide +kernel
theorem kit_tt : kitB "tuple" "tuple" = some true := by decide +kernel
theorem kit_ni : kitB "NoneType" "int" = some false := by decide +kernel
theorem oIsi_ii (i : Int) : oIsi [.int i, .ty "int"] G Q = Q (.bl true) G := by simp [oIsi, tyN, kit_ii]
theorem oIsi_ib (i : Int) : oIsi [.int i, .ty "bool"] G Q = Q (.bl false) G := by simp [oIsi, tyN, kit_ib]
theorem oIsi_bb (i : Bool) : oIsi [.bl i, .ty "bool"] G Q = Q (.bl true) G := by simp [oIsi, tyN, kit_bb]
theorem oIsi_bi (i : Bool) : oIsi [.bl i, .ty "int"] G Q = Q (.bl true) G := by simp [oIsi, tyN, kit_bi]
theorem oIsi_ss (i : List Nat) : oIsi [.str i, .ty "str"] G Q = Q (.bl true) G := by simp [oIsi, tyN, kit_ss]
theorem oIsi_ll (i : List W) : oIsi [.il i, .ty "list"] G Q = Q (.bl true) G := by simp [oIsi, tyN, kit_ll]
theorem oIsi_tt (i : List W) : oIsi [.tup i, .ty "tuple"] G Q = Q (.bl true) G := by simp [oIsi, kit_tt]
theorem oIsi_ni : oIsi [.non, .ty "int"] G Q = Q (.bl false) G := by simp [oIsi, tyN, kit_ni]
theorem oIsi_rl (p : Addr) (xs : List W) (h : G p = some (.lst xs)) : oIsi [.ref p, .ty "list"] G Q = Q (.bl true) G := by simp [oIsi, tyN, h, kit_ll]
theorem ite_bool {c : Bool} {A B : Prop} : (if c = true then A else B) = ((c = true → A) ∧ (c = false → B)) := by
  cases c <;> simp
end
/-- the letters, the figures -/
def LET : List Nat := [97, 98, 99, 100, 101, 102, 103, 104, 105, 106, 107, 108, 109, 110, 111, 112, 113, 114, 115, 116, 117, 118, 119, 120, 121, 122]
def FIG : List Nat := [48, 49, 50, 51, 52, 53, 54, 55, 56, 57]
theorem LET_len : LET.length = 26 := rfl
theorem FIG_len : FIG.length = 10 := rfl
theorem LET_mem {c : Nat} : c ∈ LET ↔ 97 ≤ c ∧ c ≤ 122 := by simp only [LET, List.mem_cons, List.not_mem_nil, or_false]; omega
theorem FIG_mem {c : Nat} : c ∈ FIG ↔ 48 ≤ c ∧ c ≤ 57 := by simp only [FIG, List.mem_cons, List.not_mem_nil, or_false]; omega
def allIn (t s : List Nat) : Bool := s.all fun c => decide (c ∈ t)
theorem allIn_nil (t : List Nat) : allIn t [] = true := rfl
theorem allIn_snoc (t s : List Nat) (c : Nat) : allIn t (s ++ [c]) = (allIn t s && decide (c ∈ t)) := by simp [allIn]
theorem allIn_not {t s : List Nat} {c : Nat} (h : c ∈ s) (h' : c ∉ t) : allIn t s = false := by
  rw [allIn, List.all_eq_false]
  exact ⟨c, h, by simpa using h'⟩
theorem allIn_take {t s : List Nat} {i c : Nat} (h : s[i]? = some c) : allIn t (s.take (i + 1)) = (allIn t (s.take i) && decide (c ∈ t)) := by
  rw [List.take_add_one, h, Option.toList_some, allIn_snoc]
theorem allIn_iff {t s : List Nat} : allIn t s = true ↔ ∀ c ∈ s, c ∈ t := by simp [allIn]
/-- an index in bounds -/
theorem atI_in {α : Type} {xs : List α} {i : Int} (h0 : 0 ≤ i) (h1 : i < xs.length) : ∃ v, atI xs i = some v ∧ v ∈ xs := by
  have hi : i.toNat < xs.length := by omega
  have e := atI_nat (List.getElem?_eq_getElem hi)
  rw [show ((i.toNat : Nat) : Int) = i by omega] at e
  exact ⟨_, e, List.getElem_mem hi⟩
theorem len_cut {α : Type} (s : List α) (lo hi : Option Int) : (cutL s lo hi).length ≤ s.length := by
  unfold cutL
  rw [List.length_take, List.length_drop]
  omega
theorem cut_head {α : Type} (s : List α) (n : Nat) : cutL s none (some (n : Int)) = s.take n := by
  unfold cutL
  rw [HT.sIx_nat, HT.sIx_none, List.drop_zero, Nat.sub_zero]
  rcases Nat.le_total n s.length with h | h
  · rw [Nat.min_eq_left h]
  · rw [Nat.min_eq_right h, List.take_length, List.take_of_length_le h]
theorem cut_tail {α : Type} (s : List α) (n : Nat) : cutL s (some (n : Int)) none = s.drop n := by
  unfold cutL
  rw [HT.sIx_nat, HT.sIx_none]
  rcases Nat.le_total n s.length with h | h
  · rw [Nat.min_eq_left h, List.take_of_length_le (by rw [List.length_drop]; omega)]
  · rw [Nat.min_eq_right h, Nat.sub_self, List.take_zero, List.drop_eq_nil_of_le h]
end Lw
/-! W8: classes, instances, methods. -/
namespace Lw
open PySem PySem.Spec PyProof.Rows L2

/-! ### fields -/
section
variable {P : Par} {X : Cx} {G G' : WHp} {H H' : Hp}
theorem RelFs.get {t : Nat} : ∀ {fs : List (Nat × W)} {fv : List (Str × V)} {w : W}, RelFs P G H fs fv → fs.lookup t = some w → ∃ v, fv.lookup (P.fn t) = some v ∧ RelW P G H w v
  | _, _, w, .nil, e => by cases e
  | _, _, w, .cons u w' v ws vs h r, e => by
    rw [List.lookup_cons] at e
    by_cases q : t = u
    · subst q
      simp only [beq_self_eq_true] at e
      cases e
      exact ⟨v, by simp [List.lookup_cons], h⟩
    · have q1 : (t == u) = false := by simpa using q
      rw [q1] at e
      obtain ⟨v', h1, h2⟩ := RelFs.get r e
      refine ⟨v', ?_, h2⟩
      have q2 : (P.fn t == P.fn u) = false := by simpa using fun z => q (P.inj _ _ z)
      rw [List.lookup_cons, q2]
      exact h1
theorem RelFs.none {t : Nat} : ∀ {fs : List (Nat × W)} {fv : List (Str × V)}, RelFs P G H fs fv → fs.lookup t = none → fv.lookup (P.fn t) = none
  | _, _, .nil, e => rfl
  | _, _, .cons u w' v ws vs h r, e => by
    rw [List.lookup_cons] at e
    by_cases q : t = u
    · subst q
      simp at e
    · have q1 : (t == u) = false := by simpa using q
      rw [q1] at e
      have q2 : (P.fn t == P.fn u) = false := by simpa using fun z => q (P.inj _ _ z)
      rw [List.lookup_cons, q2]
      exact RelFs.none r e
theorem RelFs.length : ∀ {fs : List (Nat × W)} {fv : List (Str × V)}, RelFs P G H fs fv → fs.length = fv.length
  | _, _, .nil => rfl
  | _, _, .cons u w' v ws vs h r => by simp [RelFs.length r]
def putW (t : Nat) (w : W) : List (Nat × W) → List (Nat × W)
  | [] => [(t, w)]
  | (u, x) :: r => if u = t then (u, w) :: r else (u, x) :: putW t w r
theorem RelFs.put {t : Nat} {w : W} {v : V} (hv : RelW P G H w v) : ∀ {fs : List (Nat × W)} {fv : List (Str × V)}, RelFs P G H fs fv → RelFs P G H (putW t w fs) (putF (P.fn t) v fv)
  | _, _, .nil => .cons t w v _ _ hv .nil
  | _, _, .cons u w' v' ws vs h r => by
    show RelFs P G H (if u = t then (u, w) :: ws else (u, w') :: putW t w ws) (if P.fn u = P.fn t then (P.fn u, v) :: vs else (P.fn u, v') :: putF (P.fn t) v vs)
    by_cases q : u = t
    · rw [if_pos q, if_pos (by rw [q])]
      exact .cons u w v _ _ hv r
    · rw [if_neg q, if_neg fun z => q (P.inj _ _ z)]
      exact .cons u w' v' _ _ h (RelFs.put hv r)
/-- an instance, as one reads it -/
def objOf (G : WHp) : W → Option (Nat × List (Nat × W))
  | .io c fs => some (c, fs)
  | .ref p => match G p with
    | some (.obj c fs) => some (c, fs)
    | _ => none
  | _ => none
theorem objOf_rel (rp : Rep P G H) {w : W} {v : V} {c : Nat} {fs : List (Nat × W)} (r : RelW P G H w v) (e : objOf G w = some (c, fs)) : ∃ a dx fv, v = .ref a ∧ H a = some (.ins (P.ca c) dx fv) ∧ RelFs P G H fs fv ∧ P.cf c := by
  cases r with
  | io a dx c' fv fs' h g rs => cases e; exact ⟨a, dx, fv, rfl, h, rs, g.2⟩
  | ref a =>
    dsimp only [objOf] at e
    cases q : G a with
    | none => rw [q] at e; cases e
    | some o =>
      rw [q] at e
      cases o with
      | obj c' fs' =>
        cases e
        obtain ⟨dx, fv, h, rs, k⟩ := rp a _ q
        exact ⟨a, dx, fv, rfl, h, rs, k⟩
      | dct _ => cases e
      | lst _ => cases e
      | fz _ _ _ => cases e
      | xd _ => cases e
      | bd _ => cases e
      | td _ => cases e
      | tab => cases e
  | non => cases e
  | bl b => cases e
  | int i => cases e
  | str s => cases e
  | ty n => cases e
  | sc a ns h => cases e
  | tup a vs ws h rs => cases e
  | il a vs ws h rs => cases e
  | dk a kv kvs h g rs => cases e
  | clo a c cd l xs h1 h2 h3 g h => cases e
variable {o e : Expr} {es : List Expr} {to te : WTE} {ta : WTA} {x : Str} {p pos apos p1 p2 : Pos}
/-- o.f -/
def wFld (t : Nat) (to : WTE) : WTE := fun σ G Q E => to σ G (fun x G1 => ∃ c fs w, objOf G1 x = some (c, fs) ∧ t < NF ∧ fs.lookup t = some w ∧ Q w G1) E
theorem je_fld {f : Str} (t : Nat) (hf : P.fn t = f) (hK : X.K = P.K) (ho : JE P X o to) (hb : attributeBase o f X.env (eval o X.env) = eval o X.env := by rfl) : JE P X (.Attribute o f pos) (wFld t to) := fun Ga Ha Ew tk =>
  PE.imp (pe_fld (ho Ga Ha Ew tk) hb) fun σ H Q ⟨σw, G, Qw, fa, rs, rp, ht, hq⟩ => ⟨σw, G, _, fa, rs, rp, ht, fun w G1 v H1 f1 r1 p1 ⟨c, fs, w2, e1, hn, e2, q⟩ => by
    obtain ⟨a, dx, fv, rfl, h, rf, k⟩ := objOf_rel p1 r1 e1
    obtain ⟨v2, l, r2⟩ := rf.get e2
    subst hf
    exact ⟨a, _, dx, fv, v2, rfl, h, by rw [hK]; exact k.1, by rw [hK]; exact k.2 t hn, l, hq w2 G1 v2 H1 f1 r2 p1 q⟩⟩
/-- o.f = e -/
def wFldSet (t : Nat) (to te : WTE) : WTS := fun D σ G E => te σ G (fun y G1 => to σ G1 (fun x G2 => ∃ p c fs, x = .ref p ∧ G2 p = some (.obj c fs) ∧ t < NF ∧ fs.length < 1000 ∧ D.nx σ (updG G2 p (.obj c (putW t y fs)))) E) E
theorem js_fld {f : Str} {pos' : Pos} (t : Nat) (hf : P.fn t = f) (hK : X.K = P.K) (ho : JE P X o to) (he : JE P X e te) (hs : swapsWith e (some (.Attribute o f pos')) pos.line X.env = pure false := by rfl) : JS P X (.Assign [.Attribute o f pos'] e pos) (wFldSet t to te) := fun Ga Ha Ew tk =>
  PS.imp (ps_fld (ho Ga Ha Ew tk) (he Ga Ha Ew tk) hs) fun D σ H ⟨σw, G, Dw, fa, rs, rp, ht, h1, h2, h3, h4⟩ => ⟨σw, G, _, fa, rs, rp, ht, fun y G1 v H1 f1 r1 p1 q1 => ⟨σw, G1, _, fa.trans f1, rs.fw rp f1, p1, q1, fun w G2 v2 H2 f2 r2 p2 ⟨p, c, fs, e1, e2, hn, hl, q⟩ => by
    subst e1
    cases r2
    obtain ⟨dx, fv, h, rf, k⟩ := p2 p _ e2
    subst hf
    refine ⟨p, _, dx, fv, rfl, h, by rw [hK]; exact k.1, by rw [hK]; exact k.2 t hn, by rw [← rf.length]; exact hl, ?_⟩
    have f3 : Fw G2 H2 (updG G2 p (.obj c (putW t y fs))) (upd H2 p (.ins (P.ca c) dx (putF (P.fn t) v fv))) := .put e2
    exact h1 σw _ σ _ (f1.trans (f2.trans f3)) (((rs.fw rp f1).fw p1 f2).fw p2 f3) (p2.put (u := .obj c (putW t y fs)) f3 ⟨dx, _, upd_same, ((RelFs.put (r1.fw p1 f2) rf).fw p2 f3), k⟩) q⟩⟩

/-! ### calls of a name, whatever it holds -/
/-- C(..) -/
def wMake (c : Nat) (sp : WSp) (t : WTA) : WTE := fun σ G Q E => t σ G (fun ws G1 => ∀ p, G1 p = none → sp (.ref p :: ws) (updG G1 p (.obj c [])) (fun v G2 => v = .non ∧ Q (.ref p) G2) fun x G2 => E x σ G2) E
/-- a class whose instances are made, and its __init__ -/
def MakeOk (P : Par) (prog : Program) (w : World) (mg : Str → Option Value) (base : Heap) (x : Str) (c : Nat) (k : Nat) (sp : WSp) : Prop :=
  ∃ (f : Addr) (fd : FuncData) (ps : List Str), Mk P.K (P.ca c) f ∧ FnW P prog w mg base k f fd ps sp ∧ mg x = some (.ref (P.ca c)) ∧ P.cf c ∧ Binds P.K fd ps []
theorem run_makeD {f C : Addr} {fd : FuncData} {ps : List Str} {sp : Sp} {CX : CXT} {k : Nat} {E : XK} {pins : List (Addr × Obj)} {σ : L2.St} {H : Hp} {s : Shared} {Q : VK} {us : List Value} {vs : List V} (M : Mk X.K C f) (F : FnOk X.prog X.w X.K X.mg X.base CX k f fd ps sp) (hr : Room (k + 1) X.A) (hb : Binds X.K fd ps [])
    (hx : PassesAt CX X σ E) (I : Inv X pins σ H s) (r : Vals vs us)
    (h : ∀ x dx, H x = none → H dx = none → dx ≠ x → sp (.ref x :: vs) (upd (upd H dx (.own x)) x (.ins C dx [])) (fun v H2 => v = .non ∧ Q (.ref x) H2) E) :
    wpAny (model X.prog X.w) X.A (call (.ref C) us) (EP X pins σ Q) X.xe s := by
  have hq := h (s.heap.objs.size + 1) s.heap.objs.size (I.hok.fresh (Nat.le_succ _)) (I.hok.fresh (Nat.le_refl _)) (Nat.ne_of_lt (Nat.lt_succ_self _))
  have I2 := Inv.made (C := C) I
  have r2 : Vals (V.ref (s.heap.objs.size + 1) :: vs) (Value.ref (s.heap.objs.size + 1) :: us) := .cons rfl r
  have hl : (Value.ref (s.heap.objs.size + 1) :: us).length = ps.length := by
    have e := r2.length
    rw [F.len _ _ _ _ hq] at e
    exact e.symm
  have b := hb { s with heap := (s.heap.push _).push _ } (Value.ref (s.heap.objs.size + 1) :: us) I2.kIn (by rw [List.append_nil]; exact hl)
  rw [List.append_nil] at b
  refine wpAny_call (make_map (f := f) I.kIn M.makes M.init (beq_iff_eq.mp M.fn) (codeAny_mono (F.run _ X.stack _ _ ⟨Value.ref (s.heap.objs.size + 1) :: us, []⟩ (Value.ref (s.heap.objs.size + 1) :: us) _ _ E (hr.make C us [])
    (I2.env0.make C us []) b r2 hq) fun r s' hq' => ?_))
  cases r with
  | error e => exact hx pins _ _ e s' I2 hq'
  | ok fl =>
    cases fl with
    | ret u =>
      obtain ⟨v, H', I3, rv, ev, q3⟩ := I2.after hq'
      subst ev
      exact ⟨rv, ⟨V.ref (s.heap.objs.size + 1), H', I3, rfl, q3⟩⟩
    | next => exact False.elim hq'
    | brk => exact False.elim hq'
    | cont => exact False.elim hq'
def tMakeD (C : Addr) (sp : Sp) (E : L2.St → XK) (t : TA) : TE := fun σ H Q => t σ H fun vs H1 => ∀ x dx, H1 x = none → H1 dx = none → dx ≠ x → sp (.ref x :: vs) (upd (upd H1 dx (.own x)) x (.ins C dx [])) (fun v H2 => v = .non ∧ Q (.ref x) H2) (E σ)
theorem pe_makeD {f C : Addr} {fd : FuncData} {ps : List Str} {sp : Sp} {CX : CXT} {k : Nat} {E : L2.St → XK} {t : TA} (M : Mk X.K C f) (F : FnOk X.prog X.w X.K X.mg X.base CX k f fd ps sp) (hr : Room (k + 1) X.A) (hg : Gl X x) (hm : X.mg x = some (.ref C)) (hb : Binds X.K fd ps []) (hx : ∀ σ, PassesAt CX X σ (E σ))
    (ha : PA X (e :: es) t) (hdb : (x == ("__debug__" : Str)) = false := by decide) (he : starEach (e :: es) X.env = (false, eval e X.env) :: starEach es X.env := by rfl) (hpl : (backTo pos (starEach es X.env)).any (·.1) = false := by rfl) :
    PE X (.Call (.Name x p) (e :: es) [] pos) (tMakeD C sp E t) := by
  refine ⟨fun pins s σ H Q I h => ?_⟩
  refine wpAny_Call_Name_kw (ld_glob I hg hm ?_ hdb)
  refine PySem.W.callWith_K (h₀ := X.base) I.ok.mod.kin M.kp (thn (ha.run pos pins s σ H _ I h) fun us s1 ⟨vs, H1, I1, r, q⟩ => ⟨I1.kIn, ?_⟩) he hpl
  exact run_makeD M F hr hb (hx σ) I1 r q
theorem je_make {c k : Nat} {sp : WSp} (C : MakeOk P X.prog X.w X.mg X.base x c k sp) (hr : Room (k + 1) X.A) (hg : Gl X x) (ha : JA P X (e :: es) ta) (hK : X.K = P.K := by rfl) (hdb : (x == ("__debug__" : Str)) = false := by decide) (he : starEach (e :: es) X.env = (false, eval e X.env) :: starEach es X.env := by rfl) (hpl : (backTo pos (starEach es X.env)).any (·.1) = false := by rfl) :
    JE P X (.Call (.Name x p) (e :: es) [] pos) (wMake c sp ta) := fun Ga Ha Ew tk => by
  obtain ⟨f, fd, ps, M, F, hm, hc, hb⟩ := C
  refine PE.imp (pe_makeD (E := fun σ cls d H' => embX P Ga Ha Ew cls d σ H') (by rw [hK]; exact M) (by rw [hK]; exact F) hr hg hm (by rw [hK]; exact hb) (fun σ => passW tk σ) (ha Ga Ha Ew tk) hdb he hpl) fun σ H Q ⟨σw, G, Qw, fa, rs, rp, ht, hq⟩ => ⟨σw, G, _, fa, rs, rp, ht, fun ws G1 vs H1 f1 r1 p1 q1 => ?_⟩
  intro a dx na ndx ne
  have e1 : upd H1 dx (.own a) a = none := by rw [upd_ne (Ne.symm ne)]; exact na
  have f2 : Fw G1 H1 G1 (upd H1 dx (.own a)) := .hid ndx
  have p2 := p1.hid (o := .own a) ndx
  have f3 : Fw G1 (upd H1 dx (.own a)) (updG G1 a (.obj c [])) (upd (upd H1 dx (.own a)) a (.ins (P.ca c) dx [])) := .new e1
  have p3 := p2.put (u := .obj c []) f3 ⟨dx, [], upd_same, .nil, hc⟩
  refine ⟨.ref a :: ws, _, _, _, .cons _ _ _ _ (.ref a) ((r1.fw p1 f2).fw p2 f3), p3, q1 a (p1.free na), fun w G2 v H2 f4 r4 p4 ⟨ev, q⟩ => ?_, fun c' fs G2 d H2 f4 p4 ed q => ?_⟩
  · subst ev
    cases r4
    exact ⟨rfl, hq _ G2 _ H2 (f1.trans (f2.trans (f3.trans f4))) (.ref a) p4 q⟩
  · exact ⟨c', fs, σw, G2, rfl, fa.trans (f1.trans (f2.trans (f3.trans f4))), ((rs.fw rp f1).fw p1 f2 |>.fw p2 f3).fw p3 f4, p4, ed, q⟩

/-! ### methods: by the class of the instance -/
/-- what a method promises, by the class's number -/
abbrev WMt := Nat → WSp
def MethOk (P : Par) (prog : Program) (w : World) (mg : Str → Option Value) (base : Heap) (t : Nat) (k : Nat) (c : Nat) (sp : WSp) : Prop :=
  ∃ (f : Addr) (fd : FuncData) (ps : List Str), Meth P.K (P.ca c) (P.fn t) f ∧ FnW P prog w mg base k f fd ps sp ∧ Binds P.K fd ps []
def wMeth (t : Nat) (mt : WMt) (cs : List Nat) (to : WTE) (ta : WTA) : WTE := fun σ G Q E => to σ G (fun x G1 => ∃ c fs, objOf G1 x = some (c, fs) ∧ c ∈ cs ∧ fs.lookup t = none ∧ ta σ G1 (fun ws G2 => mt c (x :: ws) G2 Q fun y G2 => E y σ G2) E) E
theorem run_meth {f : Addr} {fd : FuncData} {ps : List Str} {sp : Sp} {CX : CXT} {k : Nat} {E : XK} {pins : List (Addr × Obj)} {σ : L2.St} {H : Hp} {s : Shared} {Q : VK} {us : List Value} {vs : List V} (F : FnOk X.prog X.w X.K X.mg X.base CX k f fd ps sp) (hr : Room k X.A) (hb : Binds X.K fd ps []) (hx : PassesAt CX X σ E)
    (I : Inv X pins σ H s) (r : Vals vs us) (h : sp vs H Q E) : wpAny (model X.prog X.w) X.A (call (.ref f) us) (EP X pins σ Q) X.xe s :=
  run_fnS (E := fun _ => E) F hr hb hx I r h
theorem je_meth {t k : Nat} {mt : WMt} {cs : List Nat} {m : Str} {pl : Sem Bool} (hf : P.fn t = m) (C : ∀ c ∈ cs, MethOk P X.prog X.w X.mg X.base t k c (mt c)) (hr : Room k X.A) (ho : JE P X o to) (ha : JA P X (e :: es) ta) (hK : X.K = P.K := by rfl)
    (hst : starEach (e :: es) X.env = (false, eval e X.env) :: starEach es X.env := by rfl) (hpl : (backTo pos (starEach es X.env)).any (·.1) = false := by rfl)
    (ht : eval (.Call (.Attribute o m apos) (e :: es) [] pos) X.env = (do
      let ov ← eval o X.env
      standAt apos.atName
      let (f, first) ← holding [ov] (getMethod ov m pl)
      callWith pos f first (backTo pos (starEach (e :: es) X.env)) (backToKw pos (keywordEach [] X.env))) := by rfl) :
    JE P X (.Call (.Attribute o m apos) (e :: es) [] pos) (wMeth t mt cs to ta) := fun Ga Ha Ew tk => by
  refine ⟨fun pins s σ H Q I ⟨σw, G, Qw, fa, rs, rp, hh, hq⟩ => ?_⟩
  refine PySem.W.methodCall_KW (pl := pl) (thn ((ho Ga Ha Ew tk).run pins s σ H (fun v H1 => ∃ w G1, Fw G H G1 H1 ∧ RelW P G1 H1 w v ∧ Rep P G1 H1 ∧ _) I ⟨σw, G, _, fa, rs, rp, hh, fun w G1 v H1 f1 r1 p1 q1 => ⟨w, G1, f1, r1, p1, q1⟩⟩) fun u s1 ⟨x, H1, I1, rx, w, G1, f1, r1, p1, c, fs, e1, hc, e2, q⟩ => ?_) ht
  obtain ⟨a, dx, fv, rfl, h, rf, k1⟩ := objOf_rel p1 r1 e1
  obtain rfl : u = Value.ref a := rx
  obtain ⟨f, fd, ps, hm, F, hb⟩ := C c hc
  subst hf
  have hm' : Meth X.K (P.ca c) (P.fn t) f := by rw [hK]; exact hm
  refine getmeth_ok I1 h (by rw [hK]; exact k1.1) hm' (rf.none e2) ?_
  refine PySem.W.callWith_K (first := [.ref a]) (h₀ := X.base) I.ok.mod.kin hm'.kp (thn ((ha Ga Ha Ew tk).run pos pins s1 σ H1 (fun vs H2 => ∃ ws G2, Fw G1 H1 G2 H2 ∧ RelWs P G2 H2 ws vs ∧ Rep P G2 H2 ∧ _) I1 ⟨σw, G1, _, fa.trans f1, rs.fw rp f1, p1, q, fun ws G2 vs H2 f2 r2 p2 q2 => ⟨ws, G2, f2, r2, p2, q2⟩⟩) fun us s2 ⟨vs, H2, I2, rv, ws, G2, f2, r2, p2, q2⟩ => ⟨I2.kIn, ?_⟩) hst hpl
  refine run_meth (E := fun cls d H' => embX P Ga Ha Ew cls d σ H') (us := .ref a :: us) (vs := .ref a :: vs) (sp := embSp P (mt c)) (by rw [hK]; exact F) hr (by rw [hK]; exact hb) (passW tk σ) I2 (.cons rfl rv) ?_
  exact ⟨w :: ws, G2, Qw, _, .cons _ _ _ _ (r1.fw p1 f2) r2, p2, q2, fun w3 G3 v H3 f3 r3 p3 q3 => hq w3 G3 v H3 (f1.trans (f2.trans f3)) r3 p3 q3, fun c' fs' G3 d H3 f3 p3 ed q3 => ⟨c', fs', σw, G3, rfl, fa.trans (f1.trans (f2.trans f3)), (((rs.fw rp f1).fw p1 f2).fw p2 f3), p3, ed, q3⟩⟩
theorem je_meth0 {t k : Nat} {mt : WMt} {cs : List Nat} {m : Str} {pl : Sem Bool} (hf : P.fn t = m) (C : ∀ c ∈ cs, MethOk P X.prog X.w X.mg X.base t k c (mt c)) (hr : Room k X.A) (ho : JE P X o to) (hK : X.K = P.K := by rfl)
    (ht : eval (.Call (.Attribute o m apos) [] [] pos) X.env = (do
      let ov ← eval o X.env
      standAt apos.atName
      let (f, first) ← holding [ov] (getMethod ov m pl)
      callWith pos f first (backTo pos (starEach [] X.env)) (backToKw pos (keywordEach [] X.env))) := by rfl) :
    JE P X (.Call (.Attribute o m apos) [] [] pos) (wMeth t mt cs to wNil) := fun Ga Ha Ew tk => by
  refine ⟨fun pins s σ H Q I ⟨σw, G, Qw, fa, rs, rp, hh, hq⟩ => ?_⟩
  refine PySem.W.methodCall_KW (pl := pl) (thn ((ho Ga Ha Ew tk).run pins s σ H (fun v H1 => ∃ w G1, Fw G H G1 H1 ∧ RelW P G1 H1 w v ∧ Rep P G1 H1 ∧ _) I ⟨σw, G, _, fa, rs, rp, hh, fun w G1 v H1 f1 r1 p1 q1 => ⟨w, G1, f1, r1, p1, q1⟩⟩) fun u s1 ⟨x, H1, I1, rx, w, G1, f1, r1, p1, c, fs, e1, hc, e2, q⟩ => ?_) ht
  obtain ⟨a, dx, fv, rfl, h, rf, k1⟩ := objOf_rel p1 r1 e1
  obtain rfl : u = Value.ref a := rx
  obtain ⟨f, fd, ps, hm, F, hb⟩ := C c hc
  subst hf
  have hm' : Meth X.K (P.ca c) (P.fn t) f := by rw [hK]; exact hm
  refine getmeth_ok I1 h (by rw [hK]; exact k1.1) hm' (rf.none e2) ?_
  refine PySem.W.callWith_K0 (first := [.ref a]) I1.kIn hm'.kp ?_
  refine run_meth (E := fun cls d H' => embX P Ga Ha Ew cls d σ H') (us := [.ref a]) (vs := [.ref a]) (sp := embSp P (mt c)) (by rw [hK]; exact F) hr (by rw [hK]; exact hb) (passW tk σ) I1 (.cons rfl .nil) ?_
  exact ⟨[w], G1, Qw, _, .cons _ _ _ _ r1 .nil, p1, q, fun w3 G3 v H3 f3 r3 p3 q3 => hq w3 G3 v H3 (f1.trans f3) r3 p3 q3, fun c' fs' G3 d H3 f3 p3 ed q3 => ⟨c', fs', σw, G3, rfl, fa.trans (f1.trans f3), ((rs.fw rp f1).fw p1 f3), p3, ed, q3⟩⟩

/-! ### C.__init__(self, ..) -/
structure BaseI (K : PySem.W.Frag) (C : Addr) (v : Value) : Prop where
  rd : PySem.W.readsIn K C (.type "type") = true
  ga : PySem.W.specialIn K (.ref C) "__getattribute__" = some (some (.builtin "type.__getattribute__"))
  at_ : PySem.W.findCls K (.ref C) (.type "type") "__init__" = some (.val v)
def InitOk (P : Par) (prog : Program) (w : World) (mg : Str → Option Value) (base : Heap) (x : Str) (k : Nat) (sp : WSp) : Prop :=
  ∃ (C f : Addr) (fd : FuncData) (ps : List Str), BaseI P.K C (.ref f) ∧ PySem.W.keepIn P.K (.ref f) = true ∧ FnW P prog w mg base k f fd ps sp ∧ mg x = some (.ref C) ∧ Binds P.K fd ps []
theorem je_init {k : Nat} {sp : WSp} {pl : Sem Bool} (C : InitOk P X.prog X.w X.mg X.base x k sp) (hr : Room k X.A) (hg : Gl X x) (ha : JA P X (e :: es) ta) (hK : X.K = P.K := by rfl) (hdb : (x == ("__debug__" : Str)) = false := by decide)
    (he : starEach (e :: es) X.env = (false, eval e X.env) :: starEach es X.env := by rfl) (hpl : (backTo pos (starEach es X.env)).any (·.1) = false := by rfl)
    (hc : eval (.Call (.Attribute (.Name x p1) "__init__" p2) (e :: es) [] pos) X.env = (do
      let ov ← eval (.Name x p1) X.env
      standAt p2.atName
      let (f, first) ← holding [ov] (getMethod ov "__init__" pl)
      callWith pos f first (backTo pos (starEach (e :: es) X.env)) (backToKw pos (keywordEach [] X.env))) := by rfl) :
    JE P X (.Call (.Attribute (.Name x p1) "__init__" p2) (e :: es) [] pos) (wCall sp ta) := fun Ga Ha Ew tk => by
  obtain ⟨C, f, fd, ps, B, hk, F, hm, hb⟩ := C
  refine PE.imp (t := tCallSD (embSp P sp) [] (fun σ cls d H' => embX P Ga Ha Ew cls d σ H') (embA P Ga Ha Ew ta)) ⟨fun pins s σ H Q I h => ?_⟩ call_step
  refine PySem.W.methodCall_KW (ld_glob I hg hm ?_ hdb) hc
  refine PySem.W.method_cls I.kIn (by rw [hK]; exact B.ga) (PySem.W.cls_value I.kIn (by rw [hK]; exact B.rd) (by rw [hK]; exact B.at_) rfl ?_)
  refine PySem.W.callWith_K (h₀ := X.base) I.ok.mod.kin (by rw [hK]; exact hk) (thn ((ha Ga Ha Ew tk).run pos pins _ σ H _ (I.tok _) h) fun us s1 ⟨vs, H1, I1, r, q⟩ => ⟨I1.kIn, ?_⟩) he hpl
  have q : embSp P sp (vs ++ []) H1 Q fun cls d H' => embX P Ga Ha Ew cls d σ H' := q
  rw [List.append_nil] at q
  exact run_meth (E := fun cls d H' => embX P Ga Ha Ew cls d σ H') (sp := embSp P sp) (by rw [hK]; exact F) hr (by rw [hK]; exact hb) (passW tk σ) I1 r q
end
end Lw
/-! W9: dicts; things seen as values. -/
namespace Lw
open PySem PySem.Spec PyProof.Rows L2

/-! ### a thing seen as a value -/
def wView (te : WTE) : WTE := fun σ G Q E => te σ G (fun w G1 => ∃ w2 G2, View w G1 w2 G2 ∧ Q w2 G2) E
theorem je_view {P : Par} {X : Cx} {e : Expr} {te : WTE} (h : JE P X e te) : JE P X e (wView te) := fun Ga Ha Ew tk =>
  PE.imp (h Ga Ha Ew tk) fun σ H Q ⟨σw, G, Qw, fa, rs, rp, ht, hq⟩ => ⟨σw, G, _, fa, rs, rp, ht, fun w G1 v H1 f1 r1 p1 ⟨w2, G2, vw, q⟩ =>
    let ⟨r2, p2⟩ := vw.rel p1 r1
    hq w2 G2 v H1 (f1.sub vw.1) r2 p2 q⟩
theorem View.lst {G : WHp} {p : Addr} {xs : List W} (h : G p = some (.lst xs)) : View (.ref p) G (.il xs) (delG G p) := ⟨.del, .inl (.lst p xs h delG_same)⟩
theorem View.dct {G : WHp} {p : Addr} {xs : List (KW × W)} (h : G p = some (.dct xs)) : View (.ref p) G (.dk xs) (delG G p) := ⟨.del, .inl (.dct p xs h delG_same)⟩
theorem View.obj {G : WHp} {p : Addr} {c : Nat} {fs : List (Nat × W)} (h : G p = some (.obj c fs)) : View (.ref p) G (.io c fs) (delG G p) := ⟨.del, .inl (.obj p c fs h delG_same)⟩
/-- a new thing, seen as a value at once -/
theorem View.lstN {G : WHp} {p : Addr} {xs : List W} (h : G p = none) : View (.ref p) (updG G p (.lst xs)) (.il xs) G := by
  have v := View.lst (G := updG G p (.lst xs)) updG_same
  rwa [delG_updG h] at v
theorem View.dctN {G : WHp} {p : Addr} {xs : List (KW × W)} (h : G p = none) : View (.ref p) (updG G p (.dct xs)) (.dk xs) G := by
  have v := View.dct (G := updG G p (.dct xs)) updG_same
  rwa [delG_updG h] at v
theorem View.objN {G : WHp} {p : Addr} {c : Nat} {fs : List (Nat × W)} (h : G p = none) : View (.ref p) (updG G p (.obj c fs)) (.io c fs) G := by
  have v := View.obj (G := updG G p (.obj c fs)) updG_same
  rwa [delG_updG h] at v

/-! ### what a dict holds -/
def valW (kvs : List (KW × W)) (k : KW) : Option W := (kvs.find? fun kv => decide (kv.1 = k)).map (·.2)
def putKW (kvs : List (KW × W)) (k : KW) (v : W) : List (KW × W) :=
  if (kvs.any fun kv => decide (kv.1 = k)) = true then kvs.map (fun kv => if kv.1 = k then (kv.1, v) else kv) else kvs ++ [(k, v)]
def dropKW (kvs : List (KW × W)) (k : KW) : List (KW × W) := kvs.filter fun kv => decide (kv.1 ≠ k)
def mergeW (kvs more : List (KW × W)) : List (KW × W) := more.foldl (fun acc kv => putKW acc kv.1 kv.2) kvs
def keyW : KW → W
  | .inl i => .int i
  | .inr s => .str s
def kW : W → Option KW
  | .int i => some (.inl i)
  | .str s => some (.inr s)
  | _ => none
theorem kK_inj {k l : KW} (h : kK k = kK l) : k = l := by
  cases k with
  | inl i => cases l with
    | inl j => exact congrArg Sum.inl (Sum.inl.inj h)
    | inr s => cases h
  | inr s => cases l with
    | inl j => cases h
    | inr t => exact congrArg Sum.inr (S_inj (Sum.inr.inj h))
theorem kK_iff {k l : KW} : (kK k = kK l) = (k = l) := propext ⟨kK_inj, fun h => by rw [h]⟩
section
variable {P : Par} {X : Cx} {G G' : WHp} {H H' : Hp}
theorem kW_rel {w : W} {v : V} {k : KW} (r : RelW P G H w v) (e : kW w = some k) : v = kV (kK k) := by
  cases r <;> cases e <;> rfl
theorem keyW_rel (k : KW) : RelW P G H (keyW k) (kV (kK k)) := by
  cases k with
  | inl i => exact .int i
  | inr s => exact .str s
theorem RelKs.length : ∀ {ks : List (KW × W)} {kv : List (Key × V)}, RelKs P G H ks kv → ks.length = kv.length
  | _, _, .nil => rfl
  | _, _, .cons k w v ws vs h r => by simp [RelKs.length r]
theorem RelKs.any (k : KW) : ∀ {ks : List (KW × W)} {kv : List (Key × V)}, RelKs P G H ks kv → (ks.any fun p => decide (p.1 = k)) = (kv.any fun p => decide (p.1 = kK k))
  | _, _, .nil => rfl
  | _, _, .cons l w v ws vs h r => by
    rw [List.any_cons, List.any_cons, RelKs.any k r]
    congr 1
    exact decide_eq_decide.mpr (by rw [kK_iff])
theorem RelKs.val (k : KW) : ∀ {ks : List (KW × W)} {kv : List (Key × V)}, RelKs P G H ks kv →
    (valW ks k = none ∧ valV kv (kK k) = none) ∨ ∃ w v, valW ks k = some w ∧ valV kv (kK k) = some v ∧ RelW P G H w v
  | _, _, .nil => .inl ⟨rfl, rfl⟩
  | _, _, .cons l w v ws vs h r => by
    by_cases e : l = k
    · subst e
      exact .inr ⟨w, v, by simp [valW], by simp [valV], h⟩
    · have e2 : ¬ kK l = kK k := fun z => e (kK_inj z)
      have e3 : valW ((l, w) :: ws) k = valW ws k := by simp [valW, List.find?_cons, e]
      rw [e3, valV_neg (p := (kK l, v)) e2]
      exact RelKs.val k r
theorem RelKs.append : ∀ {ks ls : List (KW × W)} {kv lv : List (Key × V)}, RelKs P G H ks kv → RelKs P G H ls lv → RelKs P G H (ks ++ ls) (kv ++ lv)
  | _, _, _, _, .nil, s => s
  | _, _, _, _, .cons k w v ws vs h r, s => .cons k w v _ _ h (RelKs.append r s)
theorem RelKs.mapv {k : KW} {w : W} {v : V} (hv : RelW P G H w v) : ∀ {ks : List (KW × W)} {kv : List (Key × V)}, RelKs P G H ks kv →
    RelKs P G H (ks.map fun p => if p.1 = k then (p.1, w) else p) (kv.map fun p => if p.1 = kK k then (p.1, v) else p)
  | _, _, .nil => .nil
  | _, _, .cons l w' v' ws vs h r => by
    rw [List.map_cons, List.map_cons]
    by_cases e : l = k
    · subst e
      rw [if_pos rfl, if_pos rfl]
      exact .cons _ _ _ _ _ hv (RelKs.mapv hv r)
    · rw [if_neg e, if_neg fun z => e (kK_inj z)]
      exact .cons _ _ _ _ _ h (RelKs.mapv hv r)
theorem RelKs.put {k : KW} {w : W} {v : V} (hv : RelW P G H w v) {ks : List (KW × W)} {kv : List (Key × V)} (r : RelKs P G H ks kv) : RelKs P G H (putKW ks k w) (putK kv (kK k) v) := by
  unfold putKW putK
  rw [r.any k]
  split
  · exact r.mapv hv
  · exact r.append (.cons k w v _ _ hv .nil)
theorem RelKs.drop {k : KW} : ∀ {ks : List (KW × W)} {kv : List (Key × V)}, RelKs P G H ks kv → RelKs P G H (dropKW ks k) (dropK kv (kK k))
  | _, _, .nil => .nil
  | _, _, .cons l w v ws vs h r => by
    have ih := RelKs.drop (k := k) r
    unfold dropKW dropK at ih ⊢
    by_cases e : l = k
    · subst e
      simpa using ih
    · have e2 : ¬ kK l = kK k := fun z => e (kK_inj z)
      rw [List.filter_cons_of_pos (by simpa using e), List.filter_cons_of_pos (by simpa using e2)]
      exact .cons _ _ _ _ _ h ih
theorem RelKs.merge : ∀ {ms ks : List (KW × W)} {mv kv : List (Key × V)}, RelKs P G H ms mv → RelKs P G H ks kv → RelKs P G H (mergeW ks ms) (mergeK kv mv)
  | _, _, _, _, .nil, s => s
  | _, ks, _, kv, .cons k w v ws vs h r, s => by
    show RelKs P G H (mergeW (putKW ks k w) ws) (mergeK (putK kv (kK k) v) vs)
    exact RelKs.merge r (s.put h)
theorem RelKs.get : ∀ {ks : List (KW × W)} {kv : List (Key × V)} {i : Nat} {k : Key} {v : V}, RelKs P G H ks kv → kv[i]? = some (k, v) → ∃ l w, ks[i]? = some (l, w) ∧ k = kK l ∧ RelW P G H w v
  | _, _, i, k, v, .nil, e => by simp at e
  | _, _, 0, k, v, .cons l w' v' ws vs h r, e => by simp at e; obtain ⟨rfl, rfl⟩ := e; exact ⟨l, w', rfl, rfl, h⟩
  | _, _, i + 1, k, v, .cons l w' v' ws vs h r, e => by
    obtain ⟨l', w, h1, h2⟩ := RelKs.get (i := i) r (by simpa using e)
    exact ⟨l', w, by simpa using h1, h2⟩
/-- a dict, as one reads it -/
def dOf (G : WHp) : W → Option (List (KW × W))
  | .dk kvs => some kvs
  | .ref p => match G p with
    | some (.dct kvs) => some kvs
    | some (.fz _ _ kvs) => some kvs
    | _ => none
  | _ => none
theorem dOf_rel (rp : Rep P G H) {w : W} {v : V} {kvs : List (KW × W)} (r : RelW P G H w v) (e : dOf G w = some kvs) : ∃ a kv, v = .ref a ∧ Rd H a (.dK kv) ∧ RelKs P G H kvs kv := by
  cases r with
  | dk a kv kvs' h g rs => cases e; exact ⟨a, kv, rfl, .of h, rs⟩
  | ref a =>
    dsimp only [dOf] at e
    cases q : G a with
    | none => rw [q] at e; cases e
    | some o =>
      rw [q] at e
      cases o with
      | dct ws =>
        cases e
        obtain ⟨kv, h, rs⟩ := rp a _ q
        exact ⟨a, kv, rfl, .of h, rs⟩
      | fz od u ws =>
        cases e
        obtain ⟨h, kv, e2, rs⟩ := rp a _ q
        subst e2
        exact ⟨a, kv, rfl, .inr ⟨od, h⟩, rs⟩
      | obj _ _ => cases e
      | lst _ => cases e
      | xd _ => cases e
      | bd _ => cases e
      | td _ => cases e
      | tab => cases e
  | non => cases e
  | bl b => cases e
  | int i => cases e
  | str s => cases e
  | ty n => cases e
  | sc a ns h => cases e
  | tup a vs ws h rs => cases e
  | il a vs ws h rs => cases e
  | io a dx c fv fs h g rs => cases e
  | clo a c cd l xs h1 h2 h3 g h => cases e
theorem dOf_get (rp : Rep P G H) {w : W} {v : V} {kvs : List (KW × W)} {k : KW} (r : RelW P G H w v) (e : dOf G w = some kvs) : ∃ a, v = .ref a ∧
    ((valW kvs k = none ∧ DGet H a (kV (kK k)) none) ∨ ∃ x y, valW kvs k = some x ∧ DGet H a (kV (kK k)) (some y) ∧ RelW P G H x y) := by
  obtain ⟨a, kv, e1, h, rs⟩ := dOf_rel rp r e
  refine ⟨a, e1, ?_⟩
  rcases rs.val k with ⟨h1, h2⟩ | ⟨x, y, h1, h2, h3⟩
  · exact .inl ⟨h1, .inl ⟨kv, kK k, h, rfl, h2.symm⟩⟩
  · exact .inr ⟨x, y, h1, .inl ⟨kv, kK k, h, rfl, h2.symm⟩, h3⟩
variable {o e i : Expr} {f : Expr} {to te ti tf : WTE} {p pos apos cpos : Pos}
theorem hu_of {k : Nat} {A : Around} (hr : Room k A) : A.units + 1 < cLine := by have := hr.un; omega
/-- {} -/
def wDnew : WTE := fun _ G Q _ => ∀ p, G p = none → Q (.ref p) (updG G p (.dct []))
theorem je_dnew : JE P X (.Dict [] [] pos) wDnew := je_of pe_dnewK fun σw G σ H Qw Q Ew rs rp ht hq p hp =>
  hq _ _ _ _ (.new hp) (.ref p) (rp.put (u := .dct []) (.new hp) ⟨[], upd_same, .nil⟩) (ht p (rp.free hp))
/-- d[k] -/
def oDget : WR2 := fun x y G Q => ∃ kvs k w, dOf G x = some kvs ∧ kW y = some k ∧ valW kvs k = some w ∧ Q w G
theorem je_dget (hu : X.A.units + 1 < cLine) (ho : JE P X o to) (hi : JE P X i ti) (hs : NoSl i := by exact fun _ _ => rfl) : JE P X (.Subscript o i pos) (wOp oDget to ti) := fun Ga Ha Ew tk =>
  PE.imp (pe_dget hu (ho Ga Ha Ew tk) (hi Ga Ha Ew tk) hs) fun σ H Q ⟨σw, G, Qw, fa, rs, rp, ht, hq⟩ => ⟨σw, G, _, fa, rs, rp, ht, fun w1 G1 v1 H1 f1 r1 p1 h1 => ⟨σw, G1, _, fa.trans f1, rs.fw rp f1, p1, h1, fun w2 G2 v2 H2 f2 r2 p2 ⟨kvs, k, w, e1, e2, e3, q⟩ => by
    have ev := kW_rel r2 e2
    subst ev
    obtain ⟨a, rfl, ⟨z, _⟩ | ⟨x, y, h3, h4, h5⟩⟩ := dOf_get (k := k) p2 (r1.fw p1 f2) e1
    · rw [e3] at z; cases z
    · rw [e3] at h3
      cases h3
      exact ⟨a, y, rfl, h4, hq w G2 y H2 (f1.trans f2) h5 p2 q⟩⟩⟩
/-- k in d -/
def wDin (b : Bool) (ti to : WTE) : WTE := fun σ G Q E => ti σ G (fun y G1 => to σ G1 (fun x G2 => ∃ kvs k, dOf G2 x = some kvs ∧ kW y = some k ∧ Q (.bl (if b then (valW kvs k).isSome else !(valW kvs k).isSome)) G2) E) E
theorem din_step {Ga : WHp} {Ha : Hp} {Ew : WXK} : ∀ σ H Q, embE P Ga Ha Ew (wDin true ti to) σ H Q → tDIn (embE P Ga Ha Ew ti) (embE P Ga Ha Ew to) σ H Q :=
  fun σ H Q ⟨σw, G, Qw, fa, rs, rp, ht, hq⟩ => ⟨σw, G, _, fa, rs, rp, ht, fun w1 G1 v1 H1 f1 r1 p1 h1 => ⟨σw, G1, _, fa.trans f1, rs.fw rp f1, p1, h1, fun w2 G2 v2 H2 f2 r2 p2 ⟨kvs, k, e1, e2, q⟩ => by
    have ev := kW_rel (r1.fw p1 f2) e2
    subst ev
    obtain ⟨a, rfl, ⟨z, h4⟩ | ⟨x, y, h3, h4, h5⟩⟩ := dOf_get (k := k) p2 r2 e1
    · rw [z] at q
      exact ⟨a, _, rfl, h4, hq _ G2 _ H2 (f1.trans f2) (.bl _) p2 q⟩
    · rw [h3] at q
      exact ⟨a, _, rfl, h4, hq _ G2 _ H2 (f1.trans f2) (.bl _) p2 q⟩⟩⟩
theorem dnotin_step {Ga : WHp} {Ha : Hp} {Ew : WXK} : ∀ σ H Q, embE P Ga Ha Ew (wDin false ti to) σ H Q → tDNotIn (embE P Ga Ha Ew ti) (embE P Ga Ha Ew to) σ H Q :=
  fun σ H Q ⟨σw, G, Qw, fa, rs, rp, ht, hq⟩ => ⟨σw, G, _, fa, rs, rp, ht, fun w1 G1 v1 H1 f1 r1 p1 h1 => ⟨σw, G1, _, fa.trans f1, rs.fw rp f1, p1, h1, fun w2 G2 v2 H2 f2 r2 p2 ⟨kvs, k, e1, e2, q⟩ => by
    have ev := kW_rel (r1.fw p1 f2) e2
    subst ev
    obtain ⟨a, rfl, ⟨z, h4⟩ | ⟨x, y, h3, h4, h5⟩⟩ := dOf_get (k := k) p2 r2 e1
    · rw [z] at q
      exact ⟨a, _, rfl, h4, hq _ G2 _ H2 (f1.trans f2) (.bl _) p2 q⟩
    · rw [h3] at q
      exact ⟨a, _, rfl, h4, hq _ G2 _ H2 (f1.trans f2) (.bl _) p2 q⟩⟩⟩
theorem je_din (hu : X.A.units + 1 < cLine) (hi : JE P X i ti) (ho : JE P X o to) (hm : behindInMarks .In o = false := by first | exact nobehind _ (by decide) (by decide) | rfl) : JE P X (.Compare i [.In] [o] pos) (wDin true ti to) := fun Ga Ha Ew tk =>
  PE.imp (pe_cmp (pc_din hu (hi Ga Ha Ew tk) (ho Ga Ha Ew tk)) hm) din_step
theorem je_dnotin (hu : X.A.units + 1 < cLine) (hi : JE P X i ti) (ho : JE P X o to) (hm : behindInMarks .NotIn o = false := by first | exact nobehind _ (by decide) (by decide) | rfl) : JE P X (.Compare i [.NotIn] [o] pos) (wDin false ti to) := fun Ga Ha Ew tk =>
  PE.imp (pe_cmp (pc_dnotin hu (hi Ga Ha Ew tk) (ho Ga Ha Ew tk)) hm) dnotin_step
theorem test_emb {t : WTE} {Ga : WHp} {Ha : Hp} {Ew : WXK} : ∀ σ H Q, embT P Ga Ha Ew (wTest t) σ H Q → embE P Ga Ha Ew t σ H (fun x H' => ∃ k, x = .bl k ∧ Q k H') := test_step
theorem jt_din (hu : X.A.units + 1 < cLine) (hi : JE P X i ti) (ho : JE P X o to) (hm : behindInMarks .In o = false := by first | exact nobehind _ (by decide) (by decide) | rfl) : JT P X (.Compare i [.In] [o] pos) (wTest (wDin true ti to)) := fun Ga Ha Ew tk =>
  PT.imp (pt_cmp (pc_din hu (hi Ga Ha Ew tk) (ho Ga Ha Ew tk)) hm) fun σ H Q h => din_step σ H _ (test_emb σ H Q h)
theorem jt_dnotin (hu : X.A.units + 1 < cLine) (hi : JE P X i ti) (ho : JE P X o to) (hm : behindInMarks .NotIn o = false := by first | exact nobehind _ (by decide) (by decide) | rfl) : JT P X (.Compare i [.NotIn] [o] pos) (wTest (wDin false ti to)) := fun Ga Ha Ew tk =>
  PT.imp (pt_cmp (pc_dnotin hu (hi Ga Ha Ew tk) (ho Ga Ha Ew tk)) hm) fun σ H Q h => dnotin_step σ H _ (test_emb σ H Q h)
/-- d[k] = v -/
def wDput (to ti te : WTE) : WTS := fun D σ G E => te σ G (fun v G1 => to σ G1 (fun x G2 => ti σ G2 (fun y G3 => ∃ p kvs k, x = .ref p ∧ G3 p = some (.dct kvs) ∧ kW y = some k ∧ kvs.length < big ∧ D.nx σ (updG G3 p (.dct (putKW kvs k v)))) E) E) E
theorem put_dct {D : Ends} {p : Addr} {kvs ms : List (KW × W)} {mv : List (Key × V)} {Qw : WHp → Prop} {Q : Hp → Prop} (rp : Rep P G H) (e : G p = some (.dct kvs)) (rm : RelKs P G H ms mv) (q : Qw (updG G p (.dct ms)))
    (hq : ∀ G' H', Fw G H G' H' → Rep P G' H' → Qw G' → Q H') : Q (upd H p (.dK mv)) := by
  have f : Fw G H (updG G p (.dct ms)) (upd H p (.dK mv)) := .put e
  exact hq _ _ f (rp.put (u := .dct ms) f ⟨mv, upd_same, rm.fw rp f⟩) q
theorem js_dput {pos' : Pos} (hu : X.A.units + 1 < cLine) (ho : JE P X o to) (hi : JE P X i ti) (he : JE P X e te) (hs : swapsWith e (some (.Subscript o i pos')) pos.line X.env = pure false := by rfl) : JS P X (.Assign [.Subscript o i pos'] e pos) (wDput to ti te) := fun Ga Ha Ew tk =>
  PS.imp (ps_dput hu (ho Ga Ha Ew tk) (hi Ga Ha Ew tk) (he Ga Ha Ew tk) hs) fun D σ H ⟨σw, G, Dw, fa, rs, rp, ht, h1, h2, h3, h4⟩ => ⟨σw, G, _, fa, rs, rp, ht, fun y G1 v H1 f1 r1 p1 q1 => ⟨σw, G1, _, fa.trans f1, rs.fw rp f1, p1, q1, fun w G2 v2 H2 f2 r2 p2 q2 => ⟨σw, G2, _, fa.trans (f1.trans f2), (rs.fw rp f1).fw p1 f2, p2, q2, fun u G3 v3 H3 f3 r3 p3 ⟨p, kvs, k, e1, e2, e3, hl, q⟩ => by
    subst e1
    cases r2
    have ev := kW_rel r3 e3
    subst ev
    obtain ⟨kv, h, rk⟩ := p3 p _ e2
    refine ⟨p, _, rfl, .k h (by rw [← rk.length, big_eq]; exact hl), ?_⟩
    have f : Fw G3 H3 (updG G3 p (.dct (putKW kvs k y))) (upd H3 p (.dK (putK kv (kK k) v))) := .put e2
    exact h1 σw _ σ _ (f1.trans (f2.trans (f3.trans f))) ((((rs.fw rp f1).fw p1 f2).fw p2 f3).fw p3 f) (p3.put (u := .dct (putKW kvs k y)) f ⟨_, upd_same, (rk.put ((r1.fw p1 f2).fw p2 f3)).fw p3 f⟩) q⟩⟩⟩
/-- d.get(k), d.get(k, x) -/
def wDget1 (to ti : WTE) : WTE := fun σ G Q E => to σ G (fun x G1 => (dOf G1 x).isSome = true ∧ ti σ G1 (fun y G2 => ∃ kvs k, dOf G2 x = some kvs ∧ kW y = some k ∧ Q ((valW kvs k).getD .non) G2) E) E
def wDget2 (to ti tf : WTE) : WTE := fun σ G Q E => to σ G (fun x G1 => (dOf G1 x).isSome = true ∧ ti σ G1 (fun y G2 => tf σ G2 (fun z G3 => ∃ kvs k, dOf G3 x = some kvs ∧ kW y = some k ∧ Q ((valW kvs k).getD z) G3) E) E) E
theorem isD_rel (rp : Rep P G H) {w : W} {v : V} (r : RelW P G H w v) (e : (dOf G w).isSome = true) : ∃ a, v = .ref a ∧ IsD H a := by
  obtain ⟨kvs, e⟩ := Option.isSome_iff_exists.mp e
  obtain ⟨a, kv, e1, h, rs⟩ := dOf_rel rp r e
  exact ⟨a, e1, .inl ⟨kv, h⟩⟩
theorem je_dget1 (hu : X.A.units + 1 < cLine) (ho : JE P X o to) (he : JE P X e te) (m : M1 X o "get" apos e cpos := by exact ⟨rfl, rfl, rfl, rfl⟩) : JE P X (.Call (.Attribute o "get" apos) [e] [] cpos) (wDget1 to te) := fun Ga Ha Ew tk =>
  PE.imp (pe_dget1 hu (ho Ga Ha Ew tk) (he Ga Ha Ew tk) m) fun σ H Q ⟨σw, G, Qw, fa, rs, rp, ht, hq⟩ => ⟨σw, G, _, fa, rs, rp, ht, fun w1 G1 v1 H1 f1 r1 p1 ⟨hd, h1⟩ => by
    obtain ⟨a, rfl, hI⟩ := isD_rel p1 r1 hd
    refine ⟨a, rfl, hI, σw, G1, _, fa.trans f1, rs.fw rp f1, p1, h1, fun w2 G2 v2 H2 f2 r2 p2 ⟨kvs, k, e1, e2, q⟩ => ?_⟩
    have ev := kW_rel r2 e2
    subst ev
    obtain ⟨b, eb, ⟨z, h4⟩ | ⟨x, y, h3, h4, h5⟩⟩ := dOf_get (k := k) p2 (r1.fw p1 f2) e1
    · cases eb; rw [z] at q; exact ⟨none, h4, hq _ G2 _ H2 (f1.trans f2) .non p2 q⟩
    · cases eb; rw [h3] at q; exact ⟨some y, h4, hq _ G2 _ H2 (f1.trans f2) h5 p2 q⟩⟩
theorem je_dget2 (hu : X.A.units + 1 < cLine) (ho : JE P X o to) (he : JE P X e te) (hf : JE P X f tf) (m : M2 X o "get" apos e f cpos := by exact ⟨rfl, rfl, rfl, rfl⟩) : JE P X (.Call (.Attribute o "get" apos) [e, f] [] cpos) (wDget2 to te tf) := fun Ga Ha Ew tk =>
  PE.imp (pe_dget2 hu (ho Ga Ha Ew tk) (he Ga Ha Ew tk) (hf Ga Ha Ew tk) m) fun σ H Q ⟨σw, G, Qw, fa, rs, rp, ht, hq⟩ => ⟨σw, G, _, fa, rs, rp, ht, fun w1 G1 v1 H1 f1 r1 p1 ⟨hd, h1⟩ => by
    obtain ⟨a, rfl, hI⟩ := isD_rel p1 r1 hd
    refine ⟨a, rfl, hI, σw, G1, _, fa.trans f1, rs.fw rp f1, p1, h1, fun w2 G2 v2 H2 f2 r2 p2 h2 => ⟨σw, G2, _, fa.trans (f1.trans f2), (rs.fw rp f1).fw p1 f2, p2, h2, fun w3 G3 v3 H3 f3 r3 p3 ⟨kvs, k, e1, e2, q⟩ => ?_⟩⟩
    have ev := kW_rel (r2.fw p2 f3) e2
    subst ev
    obtain ⟨b, eb, ⟨z, h4⟩ | ⟨x, y, h3, h4, h5⟩⟩ := dOf_get (k := k) p3 ((r1.fw p1 f2).fw p2 f3) e1
    · cases eb; rw [z] at q; exact ⟨none, h4, hq _ G3 _ H3 (f1.trans (f2.trans f3)) r3 p3 q⟩
    · cases eb; rw [h3] at q; exact ⟨some y, h4, hq _ G3 _ H3 (f1.trans (f2.trans f3)) h5 p3 q⟩⟩
/-- d.pop(k, x) -/
def wDpop2 (to ti tf : WTE) : WTE := fun σ G Q E => to σ G (fun x G1 => (dOf G1 x).isSome = true ∧ ti σ G1 (fun y G2 => tf σ G2 (fun z G3 => ∃ p kvs k, x = .ref p ∧ G3 p = some (.dct kvs) ∧ kW y = some k ∧ Q ((valW kvs k).getD z) (updG G3 p (.dct (dropKW kvs k)))) E) E) E
theorem dropK_none {kv : List (Key × V)} {k : Key} (h : valV kv k = none) : dropK kv k = kv := by
  unfold dropK
  refine List.filter_eq_self.mpr fun p hp => ?_
  simp only [decide_eq_true_eq]
  intro e
  unfold valV at h
  rw [Option.map_eq_none_iff, List.find?_eq_none] at h
  exact h p hp (by simpa using e)
theorem je_dpop2 (ho : JE P X o to) (he : JE P X e te) (hf : JE P X f tf) (m : M2 X o "pop" apos e f cpos := by exact ⟨rfl, rfl, rfl, rfl⟩) : JE P X (.Call (.Attribute o "pop" apos) [e, f] [] cpos) (wDpop2 to te tf) := fun Ga Ha Ew tk =>
  PE.imp (pe_dpop2 (ho Ga Ha Ew tk) (he Ga Ha Ew tk) (hf Ga Ha Ew tk) m) fun σ H Q ⟨σw, G, Qw, fa, rs, rp, ht, hq⟩ => ⟨σw, G, _, fa, rs, rp, ht, fun w1 G1 v1 H1 f1 r1 p1 ⟨hd, h1⟩ => by
    obtain ⟨a, rfl, hI⟩ := isD_rel p1 r1 hd
    refine ⟨a, rfl, hI, σw, G1, _, fa.trans f1, rs.fw rp f1, p1, h1, fun w2 G2 v2 H2 f2 r2 p2 h2 => ⟨σw, G2, _, fa.trans (f1.trans f2), (rs.fw rp f1).fw p1 f2, p2, h2, fun w3 G3 v3 H3 f3 r3 p3 ⟨p, kvs, k, e0, e1, e2, q⟩ => ?_⟩⟩
    subst e0
    have ea : p = a := by cases r1; rfl
    subst ea
    have ev := kW_rel (r2.fw p2 f3) e2
    subst ev
    obtain ⟨kv, h, rk⟩ := p3 p _ e1
    have f4 : Fw G3 H3 (updG G3 p (.dct (dropKW kvs k))) (upd H3 p (.dK (dropK kv (kK k)))) := .put e1
    have p4 := p3.put (u := .dct (dropKW kvs k)) f4 ⟨_, upd_same, (rk.drop (k := k)).fw p3 f4⟩
    refine ⟨kv, kK k, h, rfl, fun v hv => ?_, fun hn => ?_⟩
    · rcases rk.val k with ⟨_, z⟩ | ⟨x, y, h3, h4, h5⟩
      · rw [hv] at z; cases z
      · rw [hv] at h4
        cases h4
        rw [h3] at q
        exact hq _ _ _ _ (f1.trans (f2.trans (f3.trans f4))) (h5.fw p3 f4) p4 q
    · rcases rk.val k with ⟨z, _⟩ | ⟨x, y, h3, h4, h5⟩
      · rw [z] at q
        have e5 : upd H3 p (.dK (dropK kv (kK k))) = H3 := by
          rw [dropK_none hn]
          funext b
          by_cases hb : b = p
          · rw [hb, upd_same, h]
          · rw [upd_ne hb]
        rw [e5] at f4 p4
        exact hq _ _ _ _ (f1.trans (f2.trans (f3.trans f4))) (r3.fw p3 f4) p4 q
      · rw [hn] at h4; cases h4⟩
/-- len(d), dict(d) -/
def oLenD : WRs := fun ws G Q => ∃ p kvs, ws = [.ref p] ∧ G p = some (.dct kvs) ∧ Q (.int kvs.length) G
theorem cw_lenD : CallW P X (.builtin "len") oLenD := CallR.imp call_lenD fun vs H Q ⟨ws, G, Qw, r, rp, ⟨p, kvs, e0, e, q⟩, hq⟩ => by
  subst e0
  obtain ⟨v, rfl, r1⟩ := r.one
  cases r1 with
  | ref a =>
    obtain ⟨kv, h, rk⟩ := rp _ _ e
    exact ⟨_, kv, rfl, h, by rw [← rk.length]; exact emb_end hq rp (.int _) q⟩
def oDictD : WRs := fun ws G Q => ∃ x kvs, ws = [x] ∧ dOf G x = some kvs ∧ ∀ p, G p = none → Q (.ref p) (updG G p (.dct kvs))
theorem cw_dictD : CallW P X (.type "dict") oDictD := CallR.imp call_dictD fun vs H Q ⟨ws, G, Qw, r, rp, ⟨x, kvs, e0, e, q⟩, hq⟩ => by
  subst e0
  obtain ⟨v, rfl, r1⟩ := r.one
  obtain ⟨a, kv, rfl, h, rk⟩ := dOf_rel rp r1 e
  exact ⟨a, kv, rfl, h, fun p hp => hq _ _ _ _ (.new hp) (.ref p) (rp.put (u := .dct kvs) (.new hp) ⟨_, upd_same, rk.fw rp (.new hp)⟩) (q p (rp.free hp))⟩

/-! ### written dicts -/
def wPairs : List (WTE × WTE) → WSt → WHp → (List (W × W) → WHp → Prop) → WXK → Prop
  | [], _, G, Q, _ => Q [] G
  | (tk, tv) :: r, σ, G, Q, E => tk σ G (fun x G1 => tv σ G1 (fun y G2 => wPairs r σ G2 (fun ps G3 => Q ((x, y) :: ps) G3) E) E) E
inductive RelPs (P : Par) (G : WHp) (H : Hp) : List (W × W) → List (V × V) → Prop
  | nil : RelPs P G H [] []
  | cons (k w : W) (l v : V) (ks : List (W × W)) (vs : List (V × V)) : RelW P G H k l → RelW P G H w v → RelPs P G H ks vs → RelPs P G H ((k, w) :: ks) ((l, v) :: vs)
def JPs (P : Par) (X : Cx) (pos : Pos) (keys : List (Option Expr)) (values : List Expr) (ts : List (WTE × WTE)) : Prop :=
  ∀ Ga Ha Ew, Takes X (embX P Ga Ha Ew) → PPs X pos keys values (ts.map fun p => (embE P Ga Ha Ew p.1, embE P Ga Ha Ew p.2))
theorem jps_nil : JPs P X pos [] [] [] := fun _ _ _ _ => pps_nil
theorem jps_cons {k v : Expr} {ks : List (Option Expr)} {vs : List Expr} {tk tv : WTE} {ts : List (WTE × WTE)} (hk : JE P X k tk) (hv : JE P X v tv) (hr : JPs P X pos ks vs ts) : JPs P X pos (some k :: ks) (v :: vs) ((tk, tv) :: ts) :=
  fun Ga Ha Ew t => pps_cons (hk Ga Ha Ew t) (hv Ga Ha Ew t) (hr Ga Ha Ew t)
theorem pairs_step {Ga : WHp} {Ha : Hp} {Ew : WXK} : ∀ (ts : List (WTE × WTE)) (σ : L2.St) (H : Hp) (Q : List (V × V) → Hp → Prop) (σw : WSt) (G : WHp) (Qw : List (W × W) → WHp → Prop), Fw Ga Ha G H → RelSt P G H σw σ → Rep P G H → wPairs ts σw G Qw Ew →
    (∀ ps G' vs H', Fw G H G' H' → RelPs P G' H' ps vs → Rep P G' H' → Qw ps G' → Q vs H') → tPairs (ts.map fun p => (embE P Ga Ha Ew p.1, embE P Ga Ha Ew p.2)) σ H Q
  | [], σ, H, Q, σw, G, Qw, fa, rs, rp, ht, hq => hq [] G [] H (.refl _ _) .nil rp ht
  | (tk, tv) :: r, σ, H, Q, σw, G, Qw, fa, rs, rp, ht, hq =>
    ⟨σw, G, _, fa, rs, rp, ht, fun x G1 v1 H1 f1 r1 p1 h1 => ⟨σw, G1, _, fa.trans f1, rs.fw rp f1, p1, h1, fun y G2 v2 H2 f2 r2 p2 h2 =>
      pairs_step r σ H2 _ σw G2 _ (fa.trans (f1.trans f2)) ((rs.fw rp f1).fw p1 f2) p2 h2 fun ps G3 vs H3 f3 r3 p3 q => hq _ G3 _ H3 (f1.trans (f2.trans f3)) (.cons _ _ _ _ _ _ ((r1.fw p1 f2).fw p2 f3) (r2.fw p2 f3) r3) p3 q⟩⟩
theorem RelPs.keys : ∀ {kvs : List (KW × W)} {vs : List (V × V)}, RelPs P G H (kvs.map fun kv => (keyW kv.1, kv.2)) vs → ∃ kv : List (Key × V), vs = kv.map (fun q => (kV q.1, q.2)) ∧ RelKs P G H kvs kv
  | [], _, .nil => ⟨[], rfl, .nil⟩
  | (k, w) :: kvs, _, .cons _ _ l v _ vs h1 h2 r => by
    obtain ⟨kv, e, rk⟩ := RelPs.keys (kvs := kvs) r
    have el : l = kV (kK k) := kW_rel h1 (by cases k <;> rfl)
    subst el
    exact ⟨(kK k, v) :: kv, by rw [e]; rfl, .cons k w v kvs kv h2 rk⟩
def wDisp (ts : List (WTE × WTE)) : WTE := fun σ G Q E => ∀ p, G p = none → wPairs ts σ (updG G p (.dct [])) (fun ps G2 => G2 p = some (.dct []) ∧ ∃ kvs : List (KW × W), ps = kvs.map (fun kv => (keyW kv.1, kv.2)) ∧ kvs.length ≤ 15 ∧ Q (.ref p) (updG G2 p (.dct (mergeW [] kvs)))) E
theorem je_disp {keys : List (Option Expr)} {values : List Expr} {ts : List (WTE × WTE)} (h : JPs P X pos keys values ts) (hall : keys.all (·.isSome) = true := by rfl) (hl : keys.length = values.length := by rfl) (h0 : keys ≠ [] := by exact fun z => nomatch z) (h15 : keys.length ≤ 15 := by decide) :
    JE P X (.Dict keys values pos) (wDisp ts) := fun Ga Ha Ew tk =>
  PE.imp (pe_disp (h Ga Ha Ew tk) hall hl h0 h15) fun σ H Q ⟨σw, G, Qw, fa, rs, rp, ht, hq⟩ => by
    intro p hp
    have f1 : Fw G H (updG G p (.dct [])) (upd H p (.dK [])) := .new hp
    have p1 := rp.put (u := .dct []) f1 ⟨[], upd_same, .nil⟩
    refine pairs_step ts σ _ _ σw _ _ (fa.trans f1) (rs.fw rp f1) p1 (ht p (rp.free hp)) fun ps G2 vs H2 f2 r2 p2 ⟨e1, kvs, e2, hl, q⟩ => ?_
    subst e2
    obtain ⟨kv, ev, rk⟩ := r2.keys
    obtain ⟨kv0, hk0, rk0⟩ := p2 p _ e1
    cases rk0
    refine ⟨hk0, kv, ev, by rw [← rk.length]; exact hl, ?_⟩
    have f3 : Fw G2 H2 (updG G2 p (.dct (mergeW [] kvs))) (upd H2 p (.dK (mergeK [] kv))) := .put e1
    exact hq _ _ _ _ (f1.trans (f2.trans f3)) (.ref p) (p2.put (u := .dct (mergeW [] kvs)) f3 ⟨_, upd_same, (RelKs.merge rk .nil).fw p2 f3⟩) q

/-! ### walks over a dict -/
/-- what is walked of a dict -/
inductive Dw where
  | keys | vals | items
def Dw.of : Dw → KW × W → W
  | .keys, (k, _) => keyW k
  | .vals, (_, w) => w
  | .items, (k, w) => .tup [keyW k, w]
/-- the walked dict, locked: its items come while it stands so -/
def wDwk (d : Dw) (te : WTE) : WTI := fun σ G R E => te σ G (fun x G1 => ∃ p od u kvs, x = .ref p ∧ G1 p = some (.fz od u kvs) ∧ R (kvs.map d.of) (fun G' => G' p = some (.fz od u kvs)) G1) E
theorem fz_at (rp : Rep P G H) {p : Addr} {od : Obj} {u : HO} {kvs : List (KW × W)} (e : G p = some (.fz od u kvs)) : ∃ kv, H p = some (.frz od (.dK kv)) ∧ u = .dK kv ∧ RelKs P G H kvs kv := by
  obtain ⟨h, kv, e2, r⟩ := rp p _ e
  subst e2
  exact ⟨kv, h, rfl, r⟩
theorem dwk_len {d : Dw} {kvs : List (KW × W)} {kv : List (Key × V)} (r : RelKs P G H kvs kv) : (kvs.map d.of).length = kv.length := by rw [List.length_map, r.length]
theorem ji_dkeys {tg : Expr} (he : JE P X e te) : JI P X tg e (wDwk .keys te) := fun Ga Ha Ew tk =>
  PI.imp (pi_keys (he Ga Ha Ew tk)) fun σ H R ⟨σw, G, Rw, fa, rs, rp, ht, hR⟩ => ⟨σw, G, _, fa, rs, rp, ht, fun w G1 v H1 f1 r1 p1 ⟨p, od, u, kvs, e1, e2, q⟩ => by
    subst e1
    cases r1
    obtain ⟨kv, h, _, rk⟩ := fz_at p1 e2
    refine ⟨p, od, rfl, .inl ⟨kv, h, hR _ _ G1 H1 _ f1 p1 q (fun i G2 H2 f rp2 ok hi => ?_) (fun i G2 H2 f rp2 ok hi => ?_) fun i G2 H2 x H3 f rp2 ok hi y => ?_⟩⟩
    · obtain ⟨kv2, h2, e3, rk2⟩ := fz_at rp2 ok
      obtain ⟨kv3, h3, e4, _⟩ := fz_at p1 e2
      have : kv2 = kv := by rw [h] at h3; cases h3; rw [e3] at e4; exact HO.dK.inj e4
      subst this
      rw [dwk_len rk] at hi
      exact ⟨h2, hi⟩
    · obtain ⟨kv2, h2, e3, rk2⟩ := fz_at rp2 ok
      obtain ⟨kv3, h3, e4, _⟩ := fz_at p1 e2
      have : kv2 = kv := by rw [h] at h3; cases h3; rw [e3] at e4; exact HO.dK.inj e4
      subst this
      rw [dwk_len rk] at hi
      exact ⟨h2, hi⟩
    · obtain ⟨rfl, k, v, hk, rfl⟩ := y
      obtain ⟨kv2, h2, e3, rk2⟩ := fz_at rp2 ok
      obtain ⟨kv3, h3, e4, _⟩ := fz_at p1 e2
      have : kv2 = kv := by rw [h] at h3; cases h3; rw [e3] at e4; exact HO.dK.inj e4
      subst this
      obtain ⟨l, w, hl, ek, rw_⟩ := rk2.get hk
      subst ek
      exact ⟨keyW l, by rw [List.getElem?_map, hl]; rfl, .refl _ _, rp2, keyW_rel l⟩⟩
theorem ji_dvals {tg : Expr} (he : JE P X e te) (hbase : attributeBase e "values" X.env (eval e X.env) = eval e X.env := by rfl) (hline : (apos.endLine == cpos.line) = true := by rfl) : JI P X tg (.Call (.Attribute e "values" apos) [] [] cpos) (wDwk .vals te) := fun Ga Ha Ew tk =>
  PI.imp (pi_values (he Ga Ha Ew tk) hbase hline) fun σ H R ⟨σw, G, Rw, fa, rs, rp, ht, hR⟩ => ⟨σw, G, _, fa, rs, rp, ht, fun w G1 v H1 f1 r1 p1 ⟨p, od, u, kvs, e1, e2, q⟩ => by
    subst e1
    cases r1
    obtain ⟨kv, h, _, rk⟩ := fz_at p1 e2
    refine ⟨p, od, kv, rfl, h, hR _ _ G1 H1 _ f1 p1 q (fun i G2 H2 f rp2 ok hi => ?_) (fun i G2 H2 f rp2 ok hi => ?_) fun i G2 H2 x H3 f rp2 ok hi y => ?_⟩
    · obtain ⟨kv2, h2, e3, rk2⟩ := fz_at rp2 ok
      obtain ⟨kv3, h3, e4, _⟩ := fz_at p1 e2
      have : kv2 = kv := by rw [h] at h3; cases h3; rw [e3] at e4; exact HO.dK.inj e4
      subst this
      rw [dwk_len rk] at hi
      exact ⟨h2, hi⟩
    · obtain ⟨kv2, h2, e3, rk2⟩ := fz_at rp2 ok
      obtain ⟨kv3, h3, e4, _⟩ := fz_at p1 e2
      have : kv2 = kv := by rw [h] at h3; cases h3; rw [e3] at e4; exact HO.dK.inj e4
      subst this
      rw [dwk_len rk] at hi
      exact ⟨h2, hi⟩
    · obtain ⟨rfl, k, hk⟩ := y
      obtain ⟨kv2, h2, e3, rk2⟩ := fz_at rp2 ok
      obtain ⟨kv3, h3, e4, _⟩ := fz_at p1 e2
      have : kv2 = kv := by rw [h] at h3; cases h3; rw [e3] at e4; exact HO.dK.inj e4
      subst this
      obtain ⟨l, w, hl, ek, rw_⟩ := rk2.get hk
      exact ⟨w, by rw [List.getElem?_map, hl]; rfl, .refl _ _, rp2, rw_⟩⟩
theorem ji_ditems {elts : List Expr} {kk : Nat} {tpos : Pos} (he : JE P X e te) (hbase : attributeBase e "items" X.env (eval e X.env) = eval e X.env := by rfl) (hline : (apos.endLine == cpos.line) = true := by rfl) : JI P X (.Tuple elts kk tpos) (.Call (.Attribute e "items" apos) [] [] cpos) (wDwk .items te) := fun Ga Ha Ew tk =>
  PI.imp (pi_items (he Ga Ha Ew tk) hbase hline) fun σ H R ⟨σw, G, Rw, fa, rs, rp, ht, hR⟩ => ⟨σw, G, _, fa, rs, rp, ht, fun w G1 v H1 f1 r1 p1 ⟨p, od, u, kvs, e1, e2, q⟩ => by
    subst e1
    cases r1
    obtain ⟨kv, h, _, rk⟩ := fz_at p1 e2
    refine ⟨p, od, kv, rfl, h, hR _ _ G1 H1 _ f1 p1 q (fun i G2 H2 f rp2 ok hi => ?_) (fun i G2 H2 f rp2 ok hi => ?_) fun i G2 H2 x H3 f rp2 ok hi y => ?_⟩
    · obtain ⟨kv2, h2, e3, rk2⟩ := fz_at rp2 ok
      obtain ⟨kv3, h3, e4, _⟩ := fz_at p1 e2
      have : kv2 = kv := by rw [h] at h3; cases h3; rw [e3] at e4; exact HO.dK.inj e4
      subst this
      rw [dwk_len rk] at hi
      exact ⟨h2, hi⟩
    · obtain ⟨kv2, h2, e3, rk2⟩ := fz_at rp2 ok
      obtain ⟨kv3, h3, e4, _⟩ := fz_at p1 e2
      have : kv2 = kv := by rw [h] at h3; cases h3; rw [e3] at e4; exact HO.dK.inj e4
      subst this
      rw [dwk_len rk] at hi
      exact ⟨h2, hi⟩
    · obtain ⟨T, k, v, hk, rfl, hT, rfl⟩ := y
      obtain ⟨kv2, h2, e3, rk2⟩ := fz_at rp2 ok
      obtain ⟨kv3, h3, e4, _⟩ := fz_at p1 e2
      have : kv2 = kv := by rw [h] at h3; cases h3; rw [e3] at e4; exact HO.dK.inj e4
      subst this
      obtain ⟨l, w, hl, ek, rw_⟩ := rk2.get hk
      subst ek
      exact ⟨.tup [keyW l, w], by rw [List.getElem?_map, hl]; rfl, .hid hT, rp2.hid hT, .tup T _ _ (.inl (.inl upd_same)) (.cons _ _ _ _ (keyW_rel l) (.cons _ _ _ _ (rw_.fw rp2 (.hid hT)) .nil))⟩⟩
/-- a dict is locked for a statement, an expression -/
theorem lock_on (rp : Rep P G H) {p : Addr} {kvs : List (KW × W)} (e : G p = some (.dct kvs)) : ∃ kv, H p = some (.dK kv) ∧ ∀ od, Fw G H (updG G p (.fz od (.dK kv) kvs)) (upd H p (.frz od (.dK kv))) ∧ Rep P (updG G p (.fz od (.dK kv) kvs)) (upd H p (.frz od (.dK kv))) := by
  obtain ⟨kv, h, rk⟩ := rp p _ e
  refine ⟨kv, h, fun od => ?_⟩
  have f : Fw G H (updG G p (.fz od (.dK kv) kvs)) (upd H p (.frz od (.dK kv))) := .put e
  exact ⟨f, rp.put (u := .fz od (.dK kv) kvs) f ⟨upd_same, kv, rfl, rk.fw rp f⟩⟩
theorem lock_off (rp : Rep P G H) {p : Addr} {od : Obj} {kv : List (Key × V)} {kvs : List (KW × W)} (e : G p = some (.fz od (.dK kv) kvs)) : H p = some (.frz od (.dK kv)) ∧ Fw G H (updG G p (.dct kvs)) (upd H p (.dK kv)) ∧ Rep P (updG G p (.dct kvs)) (upd H p (.dK kv)) := by
  obtain ⟨h, kv2, e2, rk⟩ := rp p _ e
  cases e2
  have f : Fw G H (updG G p (.dct kvs)) (upd H p (.dK kv)) := .put e
  exact ⟨h, f, rp.put (u := .dct kvs) f ⟨kv, upd_same, rk.fw rp f⟩⟩
def wLock (t : WTS) : WTS := fun D σ G E => ∃ p kvs, G p = some (.dct kvs) ∧ ∀ od u, t ⟨fun σ' G' => G' p = some (.fz od u kvs) ∧ D.nx σ' (updG G' p (.dct kvs)), fun w G' => G' p = some (.fz od u kvs) ∧ D.rt w (updG G' p (.dct kvs)), fun σ' G' => G' p = some (.fz od u kvs) ∧ D.bk σ' (updG G' p (.dct kvs)), fun σ' G' => G' p = some (.fz od u kvs) ∧ D.ct σ' (updG G' p (.dct kvs))⟩ σ (updG G p (.fz od u kvs)) E
theorem js_lock {st : Stmt} {t : WTS} (h : JS P X st t) : JS P X st (wLock t) := fun Ga Ha Ew tk =>
  PS.imp (ps_lock (h Ga Ha Ew tk)) fun D σ H ⟨σw, G, Dw, fa, rs, rp, ⟨p, kvs, e, ht⟩, h1, h2, h3, h4⟩ => by
    obtain ⟨kv, hp, hl⟩ := lock_on rp e
    refine ⟨p, .dK kv, hp, True.intro, fun od => ?_⟩
    obtain ⟨f, rp2⟩ := hl od
    refine ⟨σw, _, _, fa.trans f, rs.fw rp f, rp2, ht od (.dK kv), fun σw' G' σ' H' f1 r1 p1 ⟨e1, q⟩ => ?_, fun w G' v H' f1 r1 p1 ⟨e1, q⟩ => ?_, fun σw' G' σ' H' f1 r1 p1 ⟨e1, q⟩ => ?_, fun σw' G' σ' H' f1 r1 p1 ⟨e1, q⟩ => ?_⟩
    · obtain ⟨a, b, c⟩ := lock_off p1 e1
      exact ⟨a, h1 _ _ _ _ (f.trans (f1.trans b)) (r1.fw p1 b) c q⟩
    · obtain ⟨a, b, c⟩ := lock_off p1 e1
      exact ⟨a, h2 _ _ _ _ (f.trans (f1.trans b)) (r1.fw p1 b) c q⟩
    · obtain ⟨a, b, c⟩ := lock_off p1 e1
      exact ⟨a, h3 _ _ _ _ (f.trans (f1.trans b)) (r1.fw p1 b) c q⟩
    · obtain ⟨a, b, c⟩ := lock_off p1 e1
      exact ⟨a, h4 _ _ _ _ (f.trans (f1.trans b)) (r1.fw p1 b) c q⟩
def wLockE (t : WTE) : WTE := fun σ G Q E => ∃ p kvs, G p = some (.dct kvs) ∧ ∀ od u, t σ (updG G p (.fz od u kvs)) (fun w G' => G' p = some (.fz od u kvs) ∧ Q w (updG G' p (.dct kvs))) E
theorem je_lock {t : WTE} (h : JE P X e t) : JE P X e (wLockE t) := fun Ga Ha Ew tk =>
  PE.imp (pe_lock (h Ga Ha Ew tk)) fun σ H Q ⟨σw, G, Qw, fa, rs, rp, ⟨p, kvs, e, ht⟩, hq⟩ => by
    obtain ⟨kv, hp, hl⟩ := lock_on rp e
    refine ⟨p, .dK kv, hp, True.intro, fun od => ?_⟩
    obtain ⟨f, rp2⟩ := hl od
    refine ⟨σw, _, _, fa.trans f, rs.fw rp f, rp2, ht od (.dK kv), fun w G' v H' f1 r1 p1 ⟨e1, q⟩ => ?_⟩
    obtain ⟨a, b, c⟩ := lock_off p1 e1
    exact ⟨a, hq _ _ _ _ (f.trans (f1.trans b)) (r1.fw p1 b) c q⟩
end
end Lw
/-! W10: exceptions: raised, caught. -/
namespace Lw
open PySem PySem.Spec PyProof.Rows L2

/-! ### the __init__ of an exception's class -/
section
variable {X : Cx} {x : Str} {e : Expr} {es : List Expr} {ta : TA} {p1 p2 pos : Pos}
theorem pe_xinit {C0 : Addr} {pl : Sem Bool} (B : BaseI X.K C0 (.builtin "ValueError.__init__")) (hg : Gl X x) (hm : X.mg x = some (.ref C0)) (ha : PA X (e :: es) ta) (hdb : (x == ("__debug__" : Str)) = false := by decide)
    (hc : eval (.Call (.Attribute (.Name x p1) "__init__" p2) (e :: es) [] pos) X.env = (do
      let ov ← eval (.Name x p1) X.env
      standAt p2.atName
      let (f, first) ← holding [ov] (getMethod ov "__init__" pl)
      callWith pos f first (backTo pos (starEach (e :: es) X.env)) (backToKw pos (keywordEach [] X.env))) := by rfl)
    (he : starEach (e :: es) X.env = (false, eval e X.env) :: starEach es X.env := by rfl) (hpl : (backTo pos (starEach es X.env)).any (·.1) = false := by rfl) :
    PE X (.Call (.Attribute (.Name x p1) "__init__" p2) (e :: es) [] pos) (tVeI X.K ta) := by
  refine ⟨fun pins s σ H Q I h => ?_⟩
  refine PySem.W.methodCall_KW (ld_glob I hg hm ?_ hdb) hc
  refine PySem.W.method_cls I.kIn B.ga (PySem.W.cls_value I.kIn B.rd B.at_ rfl ?_)
  show wpAny _ _ (callWith pos (Value.builtin "ValueError.__init__") [] (backTo pos (starEach (e :: es) X.env)) []) _ _ _
  refine PyProof.Rows.callWith_method1 (thn (ha.run pos pins _ σ H _ (I.tok _) h) fun us s1 ⟨vs, H1, I1, r1, a, C, ws, ev, hl, T, ea, q⟩ => ?_) he hpl
  subst ev
  cases r1 with
  | @cons _ u0 _ ur ra rw' =>
    obtain rfl : u0 = Value.ref a := ra
    have hlen : ur.length ≤ sizeLine := by
      rw [← Paired.length rw', sizeLine_eq]
      omega
    exact oinit_ok T I1 ea hlen fun s' J => ⟨.non, H1, J, rfl, q⟩
end
/-- what an exception's __init__ does: the fields are stored -/
def spX (K : PySem.W.Frag) (C : Addr) (fs : List Str) : Sp := fun vs H Q _ => ∃ (a : Addr) (ys : List V), vs = .ref a :: ys ∧ ys.length = fs.length ∧ OexC K C ∧ (∀ f ∈ fs, PySem.W.findIn K (.ref C) f = some none) ∧ H a = some (exo a C none) ∧
  ∀ (H' : Hp) (d : Addr), H d = none → d ≠ a → H' a = some (exo a C (some d)) → H' d = some (exd d (fs.zip ys).reverse) → (∀ b, b ≠ a → b ≠ d → H' b = H b) → Q .non H'
theorem spX_len {K : PySem.W.Frag} {C : Addr} {fs : List Str} : ∀ vs H Q E, spX K C fs vs H Q E → vs.length = fs.length + 1 := fun vs H Q E ⟨a, ys, e, h, _⟩ => by rw [e, List.length_cons, h]
section
variable {prog : Program} {w : World} {K : PySem.W.Frag} {mg : Str → Option Value} {base : Heap} {f C0 C : Addr} {fd : FuncData} {st : Stmt} {qual f1 f2 f3 q1 q2 q3 : Str}
abbrev xI (x : TS) (y : TS) : TS := tSeq x y
theorem xone {K : PySem.W.Frag} {C a : Addr} {f1 : Str} {y1 : V} {H : Hp} {D : Ends} {σ : L2.St} (T : OexC K C) (h1 : PySem.W.findIn K (.ref C) f1 = some none) (e : H a = some (exo a C none)) (i j : Nat) (hi : σ[i]? = some (some (.ref a))) (hj : σ[j]? = some (some y1))
    (hq : ∀ (H' : Hp) (d : Addr), H d = none → d ≠ a → H' a = some (exo a C (some d)) → H' d = some (exd d [(f1, y1)]) → (∀ b, b ≠ a → b ≠ d → H' b = H b) → D.nx σ H') : tOst K f1 (tVar i) (tVar j) D σ H := by
  refine ⟨y1, hj, .ref a, hi, a, C, rfl, T, h1, .inl ⟨e, fun dx hn hne => ?_⟩⟩
  exact hq _ dx hn hne upd_same (by rw [upd_ne hne, upd_same]) fun b hb hd => by rw [upd_ne hb, upd_ne hd]
theorem xmore {K : PySem.W.Frag} {C a d : Addr} {f2 : Str} {y2 : V} {fs : List (Str × V)} {H0 H : Hp} {D : Ends} {σ : L2.St} (T : OexC K C) (h2 : PySem.W.findIn K (.ref C) f2 = some none) (hl : fs.length ≤ 900) (hne : d ≠ a) (ea : H a = some (exo a C (some d))) (ed : H d = some (exd d fs)) (hb : ∀ b, b ≠ a → b ≠ d → H b = H0 b)
    (i j : Nat) (hi : σ[i]? = some (some (.ref a))) (hj : σ[j]? = some (some y2)) (hq : ∀ H', H' a = some (exo a C (some d)) → H' d = some (exd d ((f2, y2) :: fs)) → (∀ b, b ≠ a → b ≠ d → H' b = H0 b) → D.nx σ H') : tOst K f2 (tVar i) (tVar j) D σ H :=
  ⟨y2, hj, .ref a, hi, a, C, rfl, T, h2, .inr ⟨d, fs, ea, ed, hl, hq _ (by rw [upd_ne (Ne.symm hne)]; exact ea) upd_same fun b h1 h2 => by rw [upd_ne h2]; exact hb b h1 h2⟩⟩
theorem xsup {K : PySem.W.Frag} {C a : Addr} {H : Hp} {D : Ends} {σ : L2.St} {m : Str} (T : OexC K C) (e : H a = some (exo a C none)) (hi : σ[0]? = some (some (.ref a))) (hq : D.nx σ H) : tDrop (tVeI K (tCons (tVar 0) (tCons (L2.tC (.str m)) tNil))) D σ H :=
  ⟨.ref a, hi, a, C, [.str m], rfl, by simp, T, e, hq⟩
end

/-! ### raise -/
/-- the fields are ts, in the order in which they are handed in -/
def RaiseOk (P : Par) (prog : Program) (w : World) (mg : Str → Option Value) (base : Heap) (x : Str) (c : Nat) (k : Nat) (ts : List Nat) : Prop :=
  ∃ (f : Addr) (fd : FuncData) (ps : List Str), OexC P.K (P.ca c) ∧ (∀ t ∈ ts, PySem.W.findIn P.K (.ref (P.ca c)) (P.fn t) = some none) ∧ PySem.W.findIn P.K (.ref (P.ca c)) "__init__" = some (some (.ref f)) ∧ PySem.W.typeIn P.K (.ref f) = some (.type "function") ∧
    FnOk prog w P.K mg base (L2.CX prog w) k f fd ps (spX P.K (P.ca c) (ts.map P.fn)) ∧ L2.Binds P.K fd ps [] ∧ mg x = some (.ref (P.ca c))
def wRaise (c : Nat) (ts : List Nat) (ta : WTA) : WTS := fun _ σ G E => ta σ G (fun ws G1 => ws.length = ts.length ∧ E ⟨c, (ts.zip ws).reverse⟩ σ G1) E
section
variable {P : Par} {X : Cx} {G G' : WHp} {H H' : Hp}
theorem RelFs.append : ∀ {fs gs : List (Nat × W)} {fv gv : List (Str × V)}, RelFs P G H fs fv → RelFs P G H gs gv → RelFs P G H (fs ++ gs) (fv ++ gv)
  | _, _, _, _, .nil, s => s
  | _, _, _, _, .cons t w v _ _ h r, s => .cons t w v _ _ h (RelFs.append r s)
theorem RelFs.reverse : ∀ {fs : List (Nat × W)} {fv : List (Str × V)}, RelFs P G H fs fv → RelFs P G H fs.reverse fv.reverse
  | _, _, .nil => .nil
  | _, _, .cons t w v _ _ h r => by
    rw [List.reverse_cons, List.reverse_cons]
    exact (RelFs.reverse r).append (.cons t w v _ _ h .nil)
theorem RelFs.zip : ∀ {ts : List Nat} {ws : List W} {vs : List V}, RelWs P G H ws vs → RelFs P G H (ts.zip ws) ((ts.map P.fn).zip vs)
  | [], _, _, _ => .nil
  | t :: ts, _, _, .nil => .nil
  | t :: ts, _, _, .cons w v ws vs h r => .cons t w v _ _ h (RelFs.zip r)
variable {e o : Expr} {es : List Expr} {ta : WTA} {te to : WTE} {x : Str} {p pos apos p1 p2 : Pos}
theorem js_raise {c k : Nat} {ts : List Nat} (C : RaiseOk P X.prog X.w X.mg X.base x c k ts) (hr : Room (k + 1) X.A) (hc : X.calm = true) (hg : Gl X x) (ha : JA P X (e :: es) ta) (hK : X.K = P.K := by rfl) (hl : ts.length ≤ 1000 := by decide) (hdb : (x == ("__debug__" : Str)) = false := by decide)
    (he : starEach (e :: es) X.env = (false, eval e X.env) :: starEach es X.env := by rfl) (hpl : (backTo p1 (starEach es X.env)).any (·.1) = false := by rfl) :
    JS P X (.Raise (some (.Call (.Name x p) (e :: es) [] p1)) none pos) (wRaise c ts ta) := fun Ga Ha Ew tk => by
  obtain ⟨f, fd, ps, T, no, iC, tI, F, hb, hm⟩ := C
  refine PS.imp (ps_raise hc tk (pmk_oex (CX := L2.CX X.prog X.w) (C := P.ca c) (fI := f) (dvs := []) (ds := []) (by rw [hK]; exact T) (by rw [hK]; exact iC) (by rw [hK]; exact tI) (by rw [hK]; exact F) hr (by rw [hK]; exact hb) .nil (fun pins σ H s e s' I hh => ?_) hg hm (ha Ga Ha Ew tk) hdb he hpl)) ?_
  · obtain ⟨_, _, _, _, _, _, _, _, _, _, _, _, z⟩ := hh
    exact z.elim
  · intro D σ H ⟨σw, G, Dw, fa, rs, rp, ht, h1, h2, h3, h4⟩
    refine ⟨σw, G, _, fa, rs, rp, ht, fun ws G1 vs H1 f1 r1 p1 ⟨hlen, hE⟩ => ⟨by rw [← r1.length, hlen]; exact hl, fun a ha => ?_⟩⟩
    refine ⟨a, vs, by rw [List.append_nil], by rw [← r1.length, hlen, List.length_map], T, fun f hf => ?_, upd_same, fun H' d hd hne e1 e2 e3 => ⟨rfl, d, _, e1, e2, by rw [upd_ne hne] at hd; exact hd, ?_⟩⟩
    · obtain ⟨t, ht, rfl⟩ := List.mem_map.mp hf
      exact no t ht
    · have hd' : H1 d = none := by rw [upd_ne hne] at hd; exact hd
      have eH : upd (del H' a) d (.xd ((ts.map P.fn).zip vs).reverse) = upd H1 d (.xd ((ts.map P.fn).zip vs).reverse) := by
        funext b
        by_cases hbd : b = d
        · rw [hbd, upd_same, upd_same]
        · rw [upd_ne hbd, upd_ne hbd]
          by_cases hba : b = a
          · rw [hba, del_same, ha]
          · rw [del_ne hba, e3 b hba hbd, upd_ne hba]
      rw [eH]
      have f2 : Fw G1 H1 G1 (upd H1 d (.xd ((ts.map P.fn).zip vs).reverse)) := .hid hd'
      exact ⟨c, (ts.zip ws).reverse, σw, G1, rfl, fa.trans (f1.trans f2), (rs.fw rp f1).fw p1 f2, p1.hid hd', .inr ⟨d, _, rfl, upd_same, p1.free hd', ((RelFs.zip r1).reverse).fw p1 f2⟩, hE⟩
/-- raise X('..'), X without an own __init__ -/
def Raise0Ok (P : Par) (mg : Str → Option Value) (x : Str) (c : Nat) : Prop := PySem.W.excIn P.K (P.ca c) [.type "ValueError", .type "Exception", .type "BaseException", .type "object"] "ValueError.__new__" = true ∧ mg x = some (.ref (P.ca c)) ∧ PySem.W.keepIn P.K (.ref (P.ca c)) = true ∧
  PySem.W.subIn P.K (.ref (P.ca c)) (.type "BaseException") = some true ∧ PySem.W.typeIn P.K (.ref (P.ca c)) = some (.type "type")

/-! ### try -/
/-- behind a suite: the name is gone; things may be left out of sight -/
def unS (i : Option Nat) (σ : WSt) : WSt := match i with
  | some i => σ.set i none
  | none => σ
def endS (i : Option Nat) (D : WEnds) : WEnds := { nx := fun σ2 G2 => ∃ Gt, Sub Gt G2 ∧ D.nx (unS i σ2) Gt, rt := fun w G2 => ∃ Gt, Sub Gt G2 ∧ D.rt w Gt, bk := fun σ2 G2 => ∃ Gt, Sub Gt G2 ∧ D.bk (unS i σ2) Gt, ct := fun σ2 G2 => ∃ Gt, Sub Gt G2 ∧ D.ct (unS i σ2) Gt }
/-- the suite of a clause 'as n': what was left on the way may be left out of sight -/
def SuiteA (i : Nat) (ts : Nat → Addr → Option Addr → WTS) (D : WEnds) (x : Xc) (a : Addr) (σ' : WSt) (Gs : WHp) : Prop :=
  (x.fs = [] → ts x.c a none (endS (some i) D) (σ'.set i (some (.ref a))) Gs noX) ∧
  ∀ d, Gs d = none → d ≠ a → ts x.c a (some d) (endS (some i) D) (σ'.set i (some (.ref a))) (updG Gs d (.xd x.fs)) noX
def SuiteO (ts : Nat → Addr → Option Addr → WTS) (D : WEnds) (x : Xc) (a : Addr) (σ' : WSt) (Gs : WHp) : Prop :=
  (x.fs = [] → ts x.c a none (endS none D) σ' Gs noX) ∧ ∀ d, Gs d = none → d ≠ a → ts x.c a (some d) (endS none D) σ' (updG Gs d (.xd x.fs)) noX
def wTryAs (cm : Nat → Option Bool) (i : Nat) (tb : WTS) (ts : Nat → Addr → Option Addr → WTS) : WTS := fun D σ G E => tb D σ G (fun x σ' G' => ∃ b, cm x.c = some b ∧
  (b = true → ∃ Gs, Sub Gs G' ∧ ∀ a, Gs a = none → SuiteA i ts D x a σ' Gs) ∧ (b = false → E x σ' G'))
def wTryOnly (cm : Nat → Option Bool) (tb : WTS) (ts : Nat → Addr → Option Addr → WTS) : WTS := fun D σ G E => tb D σ G (fun x σ' G' => ∃ b, cm x.c = some b ∧
  (b = true → ∃ Gs, Sub Gs G' ∧ ∀ a, Gs a = none → SuiteO ts D x a σ' Gs) ∧ (b = false → E x σ' G'))
/-- the exceptions' classes in an except clause -/
def CatchOk (P : Par) (cm : Nat → Option Bool) (kc : Nat) : Prop := ∀ c b, cm c = some b → PySem.W.exmOne P.K (.ref (P.ca c)) (.ref (P.ca kc)) = some b
theorem Fw.unhide {d : Addr} {fv : List (Str × V)} {fs : List (Nat × W)} (h : H d = some (.xd fv)) : Fw G H (updG G d (.xd fs)) H := fun a o e n g => by
  have ne : a ≠ d := fun z => by rw [z, h] at e; cases e; cases n
  exact ⟨e, by rw [updG_ne ne]; exact g⟩
theorem Rep.unhide (rp : Rep P G H) {d : Addr} {fv : List (Str × V)} {fs : List (Nat × W)} (h : H d = some (.xd fv)) (r : RelFs P G H fs fv) : Rep P (updG G d (.xd fs)) H := fun a o e => by
  have f : Fw G H (updG G d (.xd fs)) H := .unhide h
  by_cases z : a = d
  · subst z
    rw [updG_same] at e
    cases e
    exact ⟨fv, h, r.fw rp f⟩
  · rw [updG_ne z] at e
    exact (rp a o e).fw rp f rfl
theorem ExcD.sub {G2 : WHp} {d : Option Addr} {fs : List (Nat × W)} (e : ExcD P G H d fs) (s : ∀ a, G a = none → G2 a = none) : ExcD P G2 H d fs := by
  rcases e with e | ⟨dd, fv, e1, e2, e3, e4⟩
  · exact .inl e
  · exact .inr ⟨dd, fv, e1, e2, s dd e3, e4.sub s⟩
theorem RelSt.unset {o : Option V} : ∀ {σw : WSt} {σ : L2.St} (i : Nat), RelSt P G H σw σ → RelSt P G H (σw.set i none) (σ.set i o)
  | _, _, i, r => RelSt.del i r
variable {kc i : Nat} {cm : Nat → Option Bool} {n : Str} {body suite : List Stmt} {b₀ : Stmt} {np pos' : Pos} {tb : WTS} {ts : Nat → Addr → Option Addr → WTS}
/-- a suite, whatever the exception -/
def tSuite (P : Par) (ts : Nat → Addr → Option Addr → WTS) (a : Addr) (cls : Value) (d : Option Addr) : TS := fun D σ H => ∃ c, cls = .ref (P.ca c) ∧ embS P (fun _ => none) (fun _ => none) noX (ts c a d) D σ H
theorem suite_ok (hsu : ∀ (a : Addr) (oe : Obj) (c : Nat) (d : Option Addr) (pn : List (Addr × Obj)), Zc (.ref (P.ca c)) d oe → (∃ vs, oe.data = .fields vs) → JSs P (X.suite a ((a, oe) :: pn)) (b₀ :: suite) (ts c a d))
    (a : Addr) (oe : Obj) (cls : Value) (d : Option Addr) (pn : List (Addr × Obj)) (hz : Zc cls d oe) (hf : ∃ vs, oe.data = .fields vs) : PSs (X.suite a ((a, oe) :: pn)) (b₀ :: suite) (tSuite P ts a cls d) :=
  ⟨fun pins s σ H D I ⟨c, e, q⟩ => by subst e; exact (hsu a oe c d pn hz hf _ _ _ takesF).run pins s σ H D I q⟩
theorem suite_in {c : Nat} {fs : List (Nat × W)} {a : Addr} {d : Option Addr} {D : Ends} {Dw : WEnds} {σ : L2.St} {σw : WSt} (rs : RelSt P G H σw σ) (rp : Rep P G H) (ha : H a = none) (ed : ExcD P G H d fs)
    (h : (fs = [] → ts c a none Dw σw G noX) ∧ ∀ d, G d = none → d ≠ a → ts c a (some d) Dw σw (updG G d (.xd fs)) noX)
    (h1 : ∀ σw' G' σ' H', Fw G H G' H' → RelSt P G' H' σw' σ' → Rep P G' H' → Dw.nx σw' G' → D.nx σ' H') (h2 : ∀ w G' v H', Fw G H G' H' → RelW P G' H' w v → Rep P G' H' → Dw.rt w G' → D.rt v H')
    (h3 : ∀ σw' G' σ' H', Fw G H G' H' → RelSt P G' H' σw' σ' → Rep P G' H' → Dw.bk σw' G' → D.bk σ' H') (h4 : ∀ σw' G' σ' H', Fw G H G' H' → RelSt P G' H' σw' σ' → Rep P G' H' → Dw.ct σw' G' → D.ct σ' H') :
    tSuite P ts a (.ref (P.ca c)) d D σ H := by
  refine ⟨c, rfl, ?_⟩
  have fany : ∀ G' H', Fw (fun _ => none) (fun _ => none) G' H' := fun G' H' a o h => by cases h
  rcases ed with ⟨rfl, rfl⟩ | ⟨dd, fv, rfl, hd, gd, rf⟩
  · exact ⟨σw, G, Dw, fany _ _, rs, rp, h.1 rfl, h1, h2, h3, h4⟩
  · have f : Fw G H (updG G dd (.xd fs)) H := .unhide hd
    refine ⟨σw, _, Dw, fany _ _, rs.fw rp f, rp.unhide hd rf, h.2 dd gd (fun z => by rw [z, ha] at hd; cases hd), fun a b c d f' => h1 a b c d (f.trans f'), fun a b c d f' => h2 a b c d (f.trans f'), fun a b c d f' => h3 a b c d (f.trans f'), fun a b c d f' => h4 a b c d (f.trans f')⟩
theorem js_try_as (hs : X.stack = X.env :: X.outer) (hf : X.env.frame = some X.env.locals) (hN : X.N.Nodup) (hi : X.N[i]? = some n) (hln : X.env.kindOf n = some .local) (hg : Gl X x) (hm : X.mg x = some (.ref (P.ca kc))) (hcm : CatchOk P cm kc)
    (hb : ∀ (pn : List (Addr × Obj)) (xe : Value → Shared → Prop), PassesOwn (model X.prog X.w) X.A X.env xe → JSs P (X.tr pn xe) body tb)
    (hsu : ∀ (a : Addr) (oe : Obj) (c : Nat) (d : Option Addr) (pn : List (Addr × Obj)), Zc (.ref (P.ca c)) d oe → (∃ vs, oe.data = .fields vs) → JSs P (X.suite a ((a, oe) :: pn)) (b₀ :: suite) (ts c a d)) (hK : X.K = P.K := by rfl) (hdb : (x == ("__debug__" : Str)) = false := by decide) :
    JS P X (.Try body [.ExceptHandler (some (.Name x np)) (some n) (b₀ :: suite) pos'] [] [] pos) (wTryAs cm i tb ts) := fun Ga Ha Ew tk => by
  refine ⟨fun pins s σ H D I h => ?_⟩
  obtain ⟨σw, G, Dw, fa, rs, rp, ht, h1, h2, h3, h4⟩ := h
  refine (ps_try_as (i := i) (c := .ref (P.ca kc)) (Wout := embX P Ga Ha Ew) (tb := fun W D σ H => (∀ cls d σ' H', embX P G H (fun x σ' G' => ∃ b, cm x.c = some b ∧ (b = true → ∃ Gs, Sub Gs G' ∧ ∀ a, Gs a = none → SuiteA i ts Dw x a σ' Gs) ∧ (b = false → Ew x σ' G')) cls d σ' H' → W cls d σ' H') ∧ embS P G H (fun x σ' G' => ∃ b, cm x.c = some b ∧ (b = true → ∃ Gs, Sub Gs G' ∧ ∀ a, Gs a = none → SuiteA i ts Dw x a σ' Gs) ∧ (b = false → Ew x σ' G')) tb D σ H) hs hf hN hi hln ⟨hg, hdb, .inl hm⟩ tk (fun W pn xe tkW hp => ⟨fun pins s σ H D I ⟨i1, i2⟩ => (hb pn xe hp G _ _ (Takes.imp tkW i1)).run pins s σ H D I i2⟩) (suite_ok (ts := ts) hsu)).run pins s σ H D I ?_
  refine ⟨?_, σw, G, Dw, .refl _ _, rs, rp, ht, h1, h2, h3, h4⟩
  rintro cls d σ' H' ⟨c, fs, σw', G', rfl, f', rs', rp', ed, b, hcb, hy, hn⟩
  refine ⟨b, by rw [hK]; exact hcm c b hcb, fun eb a ha => ?_, fun eb => ⟨c, fs, σw', G', rfl, fa.trans f', rs', rp', ed, hn eb⟩⟩
  obtain ⟨Gs, sb, hh⟩ := hy eb
  have f' := f'.sub sb
  refine suite_in (fs := fs) ((rs'.sub sb.nn).set (.ref a) i) (rp'.sub sb) ha (ed.sub sb.nn) (hh a (sb.nn a (rp'.free ha))) (fun a1 b1 c1 d1 f1 r1 p1 ⟨Gt, s1, q⟩ => h1 _ Gt _ d1 ((f'.trans f1).sub s1) ((r1.sub s1.nn).unset i) (p1.sub s1) q) (fun a1 b1 c1 d1 f1 r1 p1 ⟨Gt, s1, q⟩ => h2 a1 Gt c1 d1 ((f'.trans f1).sub s1) (r1.sub s1.nn) (p1.sub s1) q) (fun a1 b1 c1 d1 f1 r1 p1 ⟨Gt, s1, q⟩ => h3 _ Gt _ d1 ((f'.trans f1).sub s1) ((r1.sub s1.nn).unset i) (p1.sub s1) q) (fun a1 b1 c1 d1 f1 r1 p1 ⟨Gt, s1, q⟩ => h4 _ Gt _ d1 ((f'.trans f1).sub s1) ((r1.sub s1.nn).unset i) (p1.sub s1) q)
theorem js_try_only (hs : X.stack = X.env :: X.outer) (hf : X.env.frame = some X.env.locals) (hg : Gl X x) (hm : X.mg x = some (.ref (P.ca kc))) (hcm : CatchOk P cm kc)
    (hb : ∀ (pn : List (Addr × Obj)) (xe : Value → Shared → Prop), PassesOwn (model X.prog X.w) X.A X.env xe → JSs P (X.tr pn xe) body tb)
    (hsu : ∀ (a : Addr) (oe : Obj) (c : Nat) (d : Option Addr) (pn : List (Addr × Obj)), Zc (.ref (P.ca c)) d oe → (∃ vs, oe.data = .fields vs) → JSs P (X.suite a ((a, oe) :: pn)) (b₀ :: suite) (ts c a d)) (hK : X.K = P.K := by rfl) (hdb : (x == ("__debug__" : Str)) = false := by decide) :
    JS P X (.Try body [.ExceptHandler (some (.Name x np)) none (b₀ :: suite) pos'] [] [] pos) (wTryOnly cm tb ts) := fun Ga Ha Ew tk => by
  refine ⟨fun pins s σ H D I h => ?_⟩
  obtain ⟨σw, G, Dw, fa, rs, rp, ht, h1, h2, h3, h4⟩ := h
  refine (ps_try_only (c := .ref (P.ca kc)) (Wout := embX P Ga Ha Ew) (tb := fun W D σ H => (∀ cls d σ' H', embX P G H (fun x σ' G' => ∃ b, cm x.c = some b ∧ (b = true → ∃ Gs, Sub Gs G' ∧ ∀ a, Gs a = none → SuiteO ts Dw x a σ' Gs) ∧ (b = false → Ew x σ' G')) cls d σ' H' → W cls d σ' H') ∧ embS P G H (fun x σ' G' => ∃ b, cm x.c = some b ∧ (b = true → ∃ Gs, Sub Gs G' ∧ ∀ a, Gs a = none → SuiteO ts Dw x a σ' Gs) ∧ (b = false → Ew x σ' G')) tb D σ H) hs hf ⟨hg, hdb, .inl hm⟩ tk (fun W pn xe tkW hp => ⟨fun pins s σ H D I ⟨i1, i2⟩ => (hb pn xe hp G _ _ (Takes.imp tkW i1)).run pins s σ H D I i2⟩) (suite_ok (ts := ts) hsu)).run pins s σ H D I ?_
  refine ⟨?_, σw, G, Dw, .refl _ _, rs, rp, ht, h1, h2, h3, h4⟩
  rintro cls d σ' H' ⟨c, fs, σw', G', rfl, f', rs', rp', ed, b, hcb, hy, hn⟩
  refine ⟨b, by rw [hK]; exact hcm c b hcb, fun eb a ha => ?_, fun eb => ⟨c, fs, σw', G', rfl, fa.trans f', rs', rp', ed, hn eb⟩⟩
  obtain ⟨Gs, sb, hh⟩ := hy eb
  have f' := f'.sub sb
  refine suite_in (fs := fs) (rs'.sub sb.nn) (rp'.sub sb) ha (ed.sub sb.nn) (hh a (sb.nn a (rp'.free ha))) (fun a1 b1 c1 d1 f1 r1 p1 ⟨Gt, s1, q⟩ => h1 _ Gt _ d1 ((f'.trans f1).sub s1) (r1.sub s1.nn) (p1.sub s1) q) (fun a1 b1 c1 d1 f1 r1 p1 ⟨Gt, s1, q⟩ => h2 a1 Gt c1 d1 ((f'.trans f1).sub s1) (r1.sub s1.nn) (p1.sub s1) q) (fun a1 b1 c1 d1 f1 r1 p1 ⟨Gt, s1, q⟩ => h3 _ Gt _ d1 ((f'.trans f1).sub s1) (r1.sub s1.nn) (p1.sub s1) q) (fun a1 b1 c1 d1 f1 r1 p1 ⟨Gt, s1, q⟩ => h4 _ Gt _ d1 ((f'.trans f1).sub s1) (r1.sub s1.nn) (p1.sub s1) q)
/-- in the suite: e.f -/
def wXf (pres : List Nat) (c : Nat) (a : Addr) (d : Option Addr) (t : Nat) (te : WTE) : WTE := fun σ G Q E => c ∈ pres ∧ te σ G (fun w G1 => w = .ref a ∧ ∃ dd fs v, d = some dd ∧ G1 dd = some (.xd fs) ∧ t < NF ∧ fs.lookup t = some v ∧ Q v G1) E
def XfOk (P : Par) (pres : List Nat) : Prop := ∀ c ∈ pres, XfC P.K (P.ca c) ∧ ∀ t, t < NF → PySem.W.findIn P.K (.ref (P.ca c)) (P.fn t) = some none
theorem je_xf {a : Addr} {oe : Obj} {c : Nat} {d : Option Addr} {pn : List (Addr × Obj)} {pres : List Nat} {f : Str} (t : Nat) (hf : P.fn t = f) (T : XfOk P pres) (hz : Zc (.ref (P.ca c)) d oe) (hff : ∃ vs, oe.data = .fields vs) (hK : X.K = P.K) (ht : t < NF) (he : JE P (X.suite a ((a, oe) :: pn)) e te)
    (hb : attributeBase e f X.env (eval e X.env) = eval e X.env := by rfl) : JE P (X.suite a ((a, oe) :: pn)) (.Attribute e f pos) (wXf pres c a d t te) := fun Ga Ha Ew tk => by
  subst hf
  refine ⟨fun pins s σ H Q I ⟨σw, G, Qw, fa, rs, rp, ⟨hp, hh⟩, hq⟩ => ?_⟩
  refine (pe_xf (X := X) (by rw [hK]; exact (T c hp).1) (by rw [hK]; exact (T c hp).2 t ht) hz hff (he Ga Ha Ew tk) hb).run pins s σ H Q I ?_
  refine ⟨σw, G, _, fa, rs, rp, hh, fun w G1 v H1 f1 r1 p1 ⟨e0, dd, fs, v2, e1, e2, _, e3, q⟩ => ?_⟩
  subst e0; subst e1
  cases r1
  obtain ⟨fv, h, rf⟩ := p1 dd _ e2
  obtain ⟨v3, l, r3⟩ := rf.get e3
  exact ⟨rfl, rfl, dd, fv, v3, rfl, h, l, hq _ G1 _ H1 f1 r3 p1 q⟩
end
end Lw
/-! W11: the end: facts of classes; the law's promise. -/
namespace Lw
open PySem PySem.Spec PyProof.Rows L2
def noB (K : PySem.W.Frag) (C : Addr) : Bool := (List.range NF).all fun t => match PySem.W.findIn K (.ref C) (fnT t) with
  | some none => true
  | _ => false
theorem noB_ok {K : PySem.W.Frag} {C : Addr} (h : noB K C = true) : ∀ t, t < NF → PySem.W.findIn K (.ref C) (fnT t) = some none := fun t ht => by
  have := List.all_eq_true.mp h t (List.mem_range.mpr ht)
  split at this
  · assumption
  · cases this
def caOf (l : List (Nat × Addr)) (c : Nat) : Addr := (l.lookup c).getD 0
def cmOf (pres : List Nat) (kc c : Nat) : Option Bool := if c ∈ pres then some (kc == 0 || c == kc) else none
theorem catch_mk {P : Par} {pres : List Nat} {kc : Nat} (h : ∀ c ∈ pres, PySem.W.exmOne P.K (.ref (P.ca c)) (.ref (P.ca kc)) = some (kc == 0 || c == kc)) : CatchOk P (cmOf pres kc) kc := fun c b e => by
  unfold cmOf at e
  split at e
  · rename_i hc
    cases e
    exact h c hc
  · cases e
def wRaise0 (c : Nat) : WTS := fun _ σ G E => E ⟨c, []⟩ σ G
theorem js_raise0 {P : Par} {X : Cx} {c : Nat} {x m : Str} {j : Nat} {p p1 p2 pos : Pos} (C : Raise0Ok P X.mg x c) (hc : X.calm = true) (hg : Gl X x) (hK : X.K = P.K := by rfl) (hdb : (x == ("__debug__" : Str)) = false := by decide) :
    JS P X (.Raise (some (.Call (.Name x p) [.Constant (.str m) j p2] [] p1)) none pos) (wRaise0 c) := fun Ga Ha Ew tk => by
  obtain ⟨q, gC, kC, b, t⟩ := C
  refine PS.imp (ps_raise hc tk (pmk_own (C := P.ca c) PySem.F.excBase_ValueError (by rw [hK]; exact q) gC (by rw [hK]; exact kC) (raises_own (by rw [hK]; exact b) (by rw [hK]; exact t)) hg hdb)) fun D σ H ⟨σw, G, Dw, fa, rs, rp, ht, h1, h2, h3, h4⟩ => ?_
  exact ⟨c, [], σw, G, rfl, fa, rs, rp, .inl ⟨rfl, rfl⟩, ht⟩
/-- the law's promise -/
def spLawV (K : PySem.W.Frag) : Sp := fun vs H Q _ => ∃ (a : Addr) (ns : List Int), vs = [.ref a] ∧ ns.length ≤ 63 ∧ Only H ∧ SqL K H a (ns.map V.int) ∧ ∀ H', Q (.bl true) H'
theorem law_imp (P : Par) : ∀ vs H Q E, spLawV P.K vs H Q E → embSp P spLaw vs H Q E := fun vs H Q E ⟨a, ns, e, hl, hO, hS, q⟩ => by
  subst e
  obtain ⟨ws, G, Qw, Ew, r, rp, hs, hq, hE⟩ := law_sp P hl hO hS
  refine ⟨ws, G, fun w _ => w = .bl true, fun _ _ => False, r, rp, ?_, fun w G' v H' _ r' _ e => by subst e; cases r'; exact q H', fun _ _ _ _ _ _ _ _ z => z.elim⟩
  obtain ⟨ns', e1, e2, e3, _⟩ := hs
  exact ⟨ns', e1, e2, e3, fun _ => rfl⟩
/-- field facts by names -/
theorem mem_all {α : Type} {p : α → Prop} {a : α} {l : List α} (h : p a) (hl : ∀ b ∈ l, p b) : ∀ b ∈ a :: l, p b := fun b hb => by
  rcases List.mem_cons.mp hb with e | e
  · subst e; exact h
  · exact hl b e
theorem mem_none {α : Type} {p : α → Prop} : ∀ b ∈ ([] : List α), p b := fun _ h => nomatch h
end Lw

/-! the names, one by one -/
namespace Lw
open PySem
theorem fe_name : fnT 0 = ("name" : Str) := by decide +kernel
theorem fe_start : fnT 1 = ("start" : Str) := by decide +kernel
theorem fe_end : fnT 2 = ("end" : Str) := by decide +kernel
theorem fe_off : fnT 3 = ("off" : Str) := by decide +kernel
theorem fe_near : fnT 4 = ("near" : Str) := by decide +kernel
theorem fe_least : fnT 5 = ("least" : Str) := by decide +kernel
theorem fe_kind : fnT 6 = ("kind" : Str) := by decide +kernel
theorem fe_places : fnT 7 = ("places" : Str) := by decide +kernel
theorem fe_own_ways : fnT 8 = ("own_ways" : Str) := by decide +kernel
theorem fe_row : fnT 9 = ("row" : Str) := by decide +kernel
theorem fe_word : fnT 10 = ("word" : Str) := by decide +kernel
theorem fe_way : fnT 11 = ("way" : Str) := by decide +kernel
theorem fe_at : fnT 12 = ("at" : Str) := by decide +kernel
theorem fe_other : fnT 13 = ("other" : Str) := by decide +kernel
theorem fe_crossing : fnT 14 = ("crossing" : Str) := by decide +kernel
theorem fe_size : fnT 15 = ("size" : Str) := by decide +kernel
theorem fe_rows : fnT 16 = ("rows" : Str) := by decide +kernel
theorem fe_bits : fnT 17 = ("bits" : Str) := by decide +kernel
theorem fe_many : fnT 18 = ("many" : Str) := by decide +kernel
theorem fe_bounds : fnT 19 = ("bounds" : Str) := by decide +kernel
theorem fe_members : fnT 20 = ("members" : Str) := by decide +kernel
theorem fe_trams : fnT 21 = ("trams" : Str) := by decide +kernel
theorem fe_leaving : fnT 22 = ("leaving" : Str) := by decide +kernel
theorem fe_entering : fnT 23 = ("entering" : Str) := by decide +kernel
theorem fe_plan : fnT 24 = ("plan" : Str) := by decide +kernel
theorem fe_here : fnT 25 = ("here" : Str) := by decide +kernel
theorem fe_lasted : fnT 26 = ("lasted" : Str) := by decide +kernel
theorem fe_left : fnT 27 = ("left" : Str) := by decide +kernel
theorem fe_coming : fnT 28 = ("coming" : Str) := by decide +kernel
theorem fe_gone : fnT 29 = ("gone" : Str) := by decide +kernel
theorem fe_waiting : fnT 30 = ("waiting" : Str) := by decide +kernel
theorem fe_picked : fnT 31 = ("picked" : Str) := by decide +kernel
theorem fe_asked : fnT 32 = ("asked" : Str) := by decide +kernel
theorem fe_asks : fnT 33 = ("asks" : Str) := by decide +kernel
theorem fe_begin : fnT 34 = ("begin" : Str) := by decide +kernel
theorem fe_keeper : fnT 35 = ("keeper" : Str) := by decide +kernel
theorem fe_turn : fnT 36 = ("turn" : Str) := by decide +kernel
theorem fe_lines : fnT 37 = ("lines" : Str) := by decide +kernel
theorem fe_crossing_book : fnT 38 = ("crossing_book" : Str) := by decide +kernel
theorem fe_plan_book : fnT 39 = ("plan_book" : Str) := by decide +kernel
theorem fe_keeper_book : fnT 40 = ("keeper_book" : Str) := by decide +kernel
theorem fe_alone : fnT 41 = ("alone" : Str) := by decide +kernel
theorem fe_behind : fnT 42 = ("behind" : Str) := by decide +kernel
theorem fe_ready : fnT 48 = ("ready" : Str) := by decide +kernel
theorem fe_fade : fnT 49 = ("fade" : Str) := by decide +kernel
theorem fe_goes : fnT 50 = ("goes" : Str) := by decide +kernel
theorem fe_face : fnT 51 = ("face" : Str) := by decide +kernel
theorem fe_names : fnT 52 = ("names" : Str) := by decide +kernel
theorem fe_number : fnT 53 = ("number" : Str) := by decide +kernel
theorem fe_called : fnT 54 = ("called" : Str) := by decide +kernel
theorem fe_bits_of : fnT 55 = ("bits_of" : Str) := by decide +kernel
theorem fe_told_rows : fnT 56 = ("told_rows" : Str) := by decide +kernel
theorem fe_shown : fnT 57 = ("shown" : Str) := by decide +kernel
theorem fe_stage : fnT 58 = ("stage" : Str) := by decide +kernel
theorem fe_waits : fnT 59 = ("waits" : Str) := by decide +kernel
theorem fe_pass_turn : fnT 60 = ("pass_turn" : Str) := by decide +kernel
theorem fe_stays : fnT 61 = ("stays" : Str) := by decide +kernel
theorem fe_leave : fnT 62 = ("leave" : Str) := by decide +kernel
theorem fe_go_on : fnT 63 = ("go_on" : Str) := by decide +kernel
theorem fe_pick : fnT 64 = ("pick" : Str) := by decide +kernel
theorem fe_step : fnT 65 = ("step" : Str) := by decide +kernel
theorem fe_wait_for : fnT 66 = ("wait_for" : Str) := by decide +kernel
theorem fe_bring : fnT 67 = ("bring" : Str) := by decide +kernel
theorem fe_stay : fnT 68 = ("stay" : Str) := by decide +kernel
theorem fe_let_go : fnT 69 = ("let_go" : Str) := by decide +kernel
theorem fe_standing : fnT 70 = ("standing" : Str) := by decide +kernel
theorem fe_queues : fnT 71 = ("queues" : Str) := by decide +kernel
theorem fe_say : fnT 72 = ("say" : Str) := by decide +kernel
theorem fe_keep : fnT 73 = ("keep" : Str) := by decide +kernel
theorem fe_told : fnT 74 = ("told" : Str) := by decide +kernel
end Lw
/-! W12: readings of fields, methods, dicts on known values. -/
namespace Lw
open PySem PySem.Spec PyProof.Rows L2
section
variable {G : WHp} {Q : WQ} {σ : WSt} {E : WXK}
theorem objOf_io {c : Nat} {fs : List (Nat × W)} : objOf G (.io c fs) = some (c, fs) := rfl
theorem objOf_ref {p : Addr} {c : Nat} {fs : List (Nat × W)} (h : G p = some (.obj c fs)) : objOf G (.ref p) = some (c, fs) := by simp [objOf, h]
theorem fld_io {c t : Nat} {fs : List (Nat × W)} {R : W → Prop} : (∃ c' fs' w, objOf G (.io c fs) = some (c', fs') ∧ t < NF ∧ fs'.lookup t = some w ∧ R w) = (t < NF ∧ ∃ w, fs.lookup t = some w ∧ R w) := by
  apply propext
  constructor
  · rintro ⟨c', fs', w, e, h, l, r⟩
    cases e
    exact ⟨h, w, l, r⟩
  · rintro ⟨h, w, l, r⟩
    exact ⟨c, fs, w, rfl, h, l, r⟩
theorem meth_io {c t : Nat} {cs : List Nat} {fs : List (Nat × W)} {R : Nat → Prop} : (∃ c' fs', objOf G (.io c fs) = some (c', fs') ∧ c' ∈ cs ∧ fs'.lookup t = none ∧ R c') = (c ∈ cs ∧ fs.lookup t = none ∧ R c) := by
  apply propext
  constructor
  · rintro ⟨c', fs', e, h, l, r⟩
    cases e
    exact ⟨h, l, r⟩
  · rintro ⟨h, l, r⟩
    exact ⟨c, fs, rfl, h, l, r⟩
theorem obj_io {c : Nat} {fs : List (Nat × W)} {R : Nat → List (Nat × W) → Prop} : (∃ c' fs', objOf G (.io c fs) = some (c', fs') ∧ R c' fs') = R c fs := by
  apply propext
  constructor
  · rintro ⟨c', fs', e, r⟩
    cases e
    exact r
  · exact fun r => ⟨c, fs, rfl, r⟩
theorem lk_hit {t : Nat} {w : W} {fs : List (Nat × W)} : ((t, w) :: fs).lookup t = some w := by simp [List.lookup]
theorem lk_miss {t u : Nat} {w : W} {fs : List (Nat × W)} (h : (t == u) = false) : ((u, w) :: fs).lookup t = fs.lookup t := by simp [List.lookup, h]
theorem lk_nil {t : Nat} : ([] : List (Nat × W)).lookup t = none := rfl
theorem lt_NF {t : Nat} : (t < NF) = (t < 48) := rfl
theorem putW_nil {t : Nat} {w : W} : putW t w [] = [(t, w)] := rfl
theorem putW_hit {t : Nat} {w x : W} {fs : List (Nat × W)} : putW t w ((t, x) :: fs) = (t, w) :: fs := if_pos rfl
theorem putW_miss {t u : Nat} {w x : W} {fs : List (Nat × W)} (h : (u == t) = false) : putW t w ((u, x) :: fs) = (u, x) :: putW t w fs := if_neg (by simpa using h)
/-- a new list, a new thing, seen as a value -/
theorem vw_lst {p : Addr} {xs : List W} (h : G p = none) (q : Q (.il xs) G) : ∃ w2 G2, View (.ref p) (updG G p (.lst xs)) w2 G2 ∧ Q w2 G2 := ⟨_, _, .lstN h, q⟩
theorem vw_dct {p : Addr} {xs : List (KW × W)} (h : G p = none) (q : Q (.dk xs) G) : ∃ w2 G2, View (.ref p) (updG G p (.dct xs)) w2 G2 ∧ Q w2 G2 := ⟨_, _, .dctN h, q⟩
theorem vw_obj {p : Addr} {c : Nat} {fs : List (Nat × W)} (h : G p = none) (q : Q (.io c fs) G) : ∃ w2 G2, View (.ref p) (updG G p (.obj c fs)) w2 G2 ∧ Q w2 G2 := ⟨_, _, .objN h, q⟩
/-- a tuple whose last item is a new list -/
theorem vw_tup2 {p : Addr} {a : W} {xs : List W} (h : G p = none) (q : Q (.tup [a, .il xs]) G) : ∃ w2 G2, View (.tup [a, .ref p]) (updG G p (.lst xs)) w2 G2 ∧ Q w2 G2 :=
  ⟨_, G, ⟨.new h, .inr (.inl ⟨_, _, rfl, rfl, .cons _ _ _ _ (.same a) (.cons _ _ _ _ (.lst p xs updG_same h) .nil)⟩)⟩, q⟩
/-- the value stays, a new thing is left out of sight -/
theorem vw_drop {p : Addr} {o : WO} {w : W} (h : G p = none) (q : Q w G) : ∃ w2 G2, View w (updG G p o) w2 G2 ∧ Q w2 G2 := ⟨w, G, ⟨.new h, .inl (.same w)⟩, q⟩
theorem vw_sub {G' : WHp} {w : W} (s : Sub G G') (q : Q w G) : ∃ w2 G2, View w G' w2 G2 ∧ Q w2 G2 := ⟨w, G, ⟨s, .inl (.same w)⟩, q⟩
theorem vw_lst' {p : Addr} {xs : List W} {G' : WHp} (h : G p = some (.lst xs)) (e : delG G p = G') (q : Q (.il xs) G') : ∃ w2 G2, View (.ref p) G w2 G2 ∧ Q w2 G2 := ⟨_, _, .lst h, by rw [e]; exact q⟩
theorem big_val : big = 16777216 := rfl
theorem oSub_int (i j : Int) : oSub (.int i) (.int j) G Q = Q (.int (i - j)) G := by show (True ∧ Q _ G) = _; rw [true_and]
theorem oMul_int (i j : Int) : oMul (.int i) (.int j) G Q = (CMul i j ∧ Q (.int (i * j)) G) := rfl
theorem oMod_int (i j : Int) : oMod (.int i) (.int j) G Q = (0 < j ∧ Q (.int (i % j)) G) := rfl
theorem oDiv_int (i j : Int) : oDiv (.int i) (.int j) G Q = (CDiv i j ∧ Q (.int (i / j)) G) := rfl
theorem oPow_int (i j : Int) : oPow (.int i) (.int j) G Q = (CPow i j ∧ Q (.int (i ^ j.toNat)) G) := rfl
theorem oShl_int (i j : Int) : oShl (.int i) (.int j) G Q = (CShl i j ∧ Q (.int (i * 2 ^ j.toNat)) G) := rfl
theorem oShr_int (i j : Int) : oShr (.int i) (.int j) G Q = (0 ≤ j ∧ Q (.int (i / 2 ^ j.toNat)) G) := rfl
theorem oAnd_int (i j : Int) : oAnd (.int i) (.int j) G Q = Q (.int (Builtin.bitAnd i j)) G := by show (True ∧ Q _ G) = _; rw [true_and]
theorem oOr_int (i j : Int) : oOr (.int i) (.int j) G Q = Q (.int (Builtin.bitOr i j)) G := by show (True ∧ Q _ G) = _; rw [true_and]
theorem oLt_int (i j : Int) : oLt (.int i) (.int j) G Q = Q (.bl (decide (i < j))) G := rfl
theorem oLe_int (i j : Int) : oLe (.int i) (.int j) G Q = Q (.bl (decide (i ≤ j))) G := rfl
theorem oGt_int (i j : Int) : oGt (.int i) (.int j) G Q = Q (.bl (decide (j < i))) G := rfl
theorem oGe_int (i j : Int) : oGe (.int i) (.int j) G Q = Q (.bl (decide (j ≤ i))) G := rfl
theorem mulL {i j : Int} (h0 : 0 ≤ i) (h : i ≤ 1000000000000) : CMul i j := .inl ⟨by omega, by omega⟩
theorem mulR {i j : Int} (h0 : 0 ≤ j) (h : j ≤ 1000000000000) : CMul i j := .inr ⟨by omega, by omega⟩
/-- a dict by its keys -/
theorem valW_hit {k : KW} {w : W} {kvs : List (KW × W)} : valW ((k, w) :: kvs) k = some w := by simp [valW]
theorem valW_miss {k l : KW} {w : W} {kvs : List (KW × W)} (h : l ≠ k) : valW ((l, w) :: kvs) k = valW kvs k := by simp [valW, List.find?_cons, h]
theorem valW_nil {k : KW} : valW [] k = none := rfl
theorem dOf_dk {kvs : List (KW × W)} : dOf G (.dk kvs) = some kvs := rfl
theorem dOf_ref {p : Addr} {kvs : List (KW × W)} (h : G p = some (.dct kvs)) : dOf G (.ref p) = some kvs := by simp [dOf, h]
theorem kW_str {s : List Nat} : kW (.str s) = some (.inr s) := rfl
theorem kW_int {i : Int} : kW (.int i) = some (.inl i) := rfl
theorem keyW_str {s : List Nat} : keyW (.inr s) = .str s := rfl
theorem keyW_int {i : Int} : keyW (.inl i) = .int i := rfl
end
/-- a tuple of the written part -/
theorem glob_tup {P : Par} {mg : Str → Option Value} {x : Str} {u : Addr} {ws : List W} {vs : List V} {its : Array Value} {n : Nat} {d : Option Addr} {sl : Array (Option Value)} (hm : mg x = some (.ref u)) (hl : P.K.lookup u = some ⟨.type "tuple", d, .seq its n, sl⟩) (hs : its.size ≤ 1000)
    (hv : Vals vs its.toList) (hw : ∀ G H, RelWs P G H ws vs) : GlobOk P mg x (.tup ws) :=
  ⟨.ref u, .ref u, hm, rfl, fun G H => .tup u vs ws (.inr ⟨_, its, n, hl, rfl, rfl, Nat.le_trans hs (by rw [big_eq]; decide), hv⟩) (hw G H)⟩
/-! exceptions -/
def xNoText (r w : Int) : Xc := ⟨1, [(10, .int w), (9, .int r)]⟩
def xNoWay (n : List Nat) : Xc := ⟨2, [(0, .str n)]⟩
def xNever (n : List Nat) : Xc := ⟨3, [(11, .str n)]⟩
def xShort (n : List Nat) (k : Int) : Xc := ⟨4, [(12, .int k), (11, .str n)]⟩
def xClash (n m : List Nat) (k : Int) : Xc := ⟨5, [(12, .int k), (13, .str m), (11, .str n)]⟩
def xNoName (n : List Nat) : Xc := ⟨8, [(0, .str n)]⟩
/-- an exception may leave things behind -/
def exS (E : Xc → WHp → Prop) (x : Xc) (G : WHp) : Prop := ∀ G', Sub G G' → E x G'
theorem exS.sub {E : Xc → WHp → Prop} {x : Xc} {G G' : WHp} (h : exS E x G) (s : Sub G G') : exS E x G' := fun G2 s2 => h G2 (s.trans s2)
theorem exS.now {E : Xc → WHp → Prop} {x : Xc} {G : WHp} (h : exS E x G) : E x G := h G (.refl G)
/-! words of the program -/
def tCAR : List Nat := [99, 97, 114]
def tFOOT : List Nat := [102, 111, 111, 116]
def tTRAM : List Nat := [116, 114, 97, 109]
def tSTOP : List Nat := [115, 116, 111, 112]
def tREADY : List Nat := [114, 101, 97, 100, 121]
def tFREE : List Nat := [102, 114, 101, 101]
def tFADE : List Nat := [102, 97, 100, 101]
end Lw
/-! W13: loops and comprehensions, as one uses them. -/
namespace Lw
open PySem PySem.Spec PyProof.Rows L2
section
variable {g : WTG} {tb : WTS} {D : WEnds} {σ : WSt} {G : WHp} {E : WXK} {ok : WHp → Prop}
/-- one turn of a loop -/
abbrev turnW (g : WTG) (tb : WTS) (D : WEnds) (E : WXK) (Inv : Nat → WSt → WHp → Prop) (i : Nat) (w : W) (σ' : WSt) (G' : WHp) : Prop :=
  g w σ' G' (fun σ2 G2 => tb { nx := Inv (i + 1), rt := D.rt, bk := D.nx, ct := Inv (i + 1) } σ2 G2 E) E
/-- over items that never change -/
theorem lp_it {ws : List W} (Inv : Nat → WSt → WHp → Prop) (h0 : Inv 0 σ G) (hs : ∀ i w σ' G', ws[i]? = some w → Inv i σ' G' → turnW g tb D E Inv i w σ' G') (hd : ∀ σ' G', Inv ws.length σ' G' → D.nx σ' G') : LoopOk g tb D σ E ws (fun _ => True) G :=
  ⟨Inv, h0, fun _ _ _ _ _ => trivial, hs, hd⟩
theorem lp_ok {ws : List W} (Inv : Nat → WSt → WHp → Prop) (h0 : Inv 0 σ G) (hk : ∀ i σ' G', i ≤ ws.length → Inv i σ' G' → ok G') (hs : ∀ i w σ' G', ws[i]? = some w → Inv i σ' G' → turnW g tb D E Inv i w σ' G') (hd : ∀ σ' G', Inv ws.length σ' G' → D.nx σ' G') : LoopOk g tb D σ E ws ok G :=
  ⟨Inv, h0, hk, hs, hd⟩
/-- over range(n) -/
theorem lp_r {j : Int} (Inv : Nat → WSt → WHp → Prop) (h0 : Inv 0 σ G) (hs : ∀ (i : Nat) σ' G', (i : Int) < j → Inv i σ' G' → turnW g tb D E Inv i (.int i) σ' G') (hd : ∀ σ' G', Inv j.toNat σ' G' → D.nx σ' G') : LoopOk g tb D σ E (rngW 0 j.toNat) (fun _ => True) G :=
  ⟨Inv, h0, fun _ _ _ _ _ => trivial, fun i x σ' G' hx h => by
    obtain ⟨hi, rfl⟩ := rngW_get hx
    rw [Int.zero_add]
    exact hs i σ' G' (by omega) h, fun σ' G' h => hd σ' G' (by rw [rngW_len] at h; exact h)⟩
theorem lp_r2 {lo j : Int} (Inv : Nat → WSt → WHp → Prop) (h0 : Inv 0 σ G) (hs : ∀ (i : Nat) σ' G', lo + i < j → Inv i σ' G' → turnW g tb D E Inv i (.int (lo + i)) σ' G') (hd : ∀ σ' G', Inv (j - lo).toNat σ' G' → D.nx σ' G') : LoopOk g tb D σ E (rngW lo (j - lo).toNat) (fun _ => True) G :=
  ⟨Inv, h0, fun _ _ _ _ _ => trivial, fun i x σ' G' hx h => by
    obtain ⟨hi, rfl⟩ := rngW_get hx
    exact hs i σ' G' (by omega) h, fun σ' G' h => hd σ' G' (by rw [rngW_len] at h; exact h)⟩
/-- with places -/
theorem lp_en {ws : List W} (Inv : Nat → WSt → WHp → Prop) (h0 : Inv 0 σ G) (hk : ∀ i σ' G', i ≤ ws.length → Inv i σ' G' → ok G') (hs : ∀ (i : Nat) w σ' G', ws[i]? = some w → Inv i σ' G' → turnW g tb D E Inv i (.tup [.int i, w]) σ' G') (hd : ∀ σ' G', Inv ws.length σ' G' → D.nx σ' G') : LoopOk g tb D σ E (enumW 0 ws) ok G :=
  ⟨Inv, h0, fun i σ' G' hi h => hk i σ' G' (by rw [enumW_len] at hi; exact hi) h, fun i x σ' G' hx h => by
    obtain ⟨w, hw, rfl⟩ := enumW_get hx
    rw [Nat.zero_add]
    exact hs i w σ' G' hw h, fun σ' G' h => hd σ' G' (by rw [enumW_len] at h; exact h)⟩
variable {te : WTE} {R : List W → (WHp → Prop) → WHp → Prop} {Q : WQ}
theorem gtup2 {i j : Nat} {a b : W} {K : WSt → WHp → Prop} : wGTup 2 (wGCons (wN i) (wGCons (wN j) wGNil)) (.tup [a, b]) σ G K E = K ((σ.set i (some a)).set j (some b)) G := by
  apply propext
  constructor
  · rintro ⟨xs, e, _, v, r, e2, v2, r2, e3, e4, q⟩
    cases e; cases e2; cases e3
    exact q
  · exact fun q => ⟨_, rfl, rfl, _, _, rfl, _, _, rfl, rfl, q⟩
theorem gtup3 {i j k : Nat} {a b c : W} {K : WSt → WHp → Prop} : wGTup 3 (wGCons (wN i) (wGCons (wN j) (wGCons (wN k) wGNil))) (.tup [a, b, c]) σ G K E = K (((σ.set i (some a)).set j (some b)).set k (some c)) G := by
  apply propext
  constructor
  · rintro ⟨xs, e, _, v, r, e2, v2, r2, e3, v3, r3, e4, e5, q⟩
    cases e; cases e2; cases e3; cases e4
    exact q
  · exact fun q => ⟨_, rfl, rfl, _, _, rfl, _, _, rfl, _, _, rfl, rfl, q⟩
theorem wIter_tup {xs : List W} (h : te = wC (.tup xs)) : wIter te σ G R E = R xs (fun _ => True) G := by subst h; rfl
end
/-- what is walked, once it is known -/
def iterQ (x : W) (R : List W → (WHp → Prop) → WHp → Prop) (G : WHp) : Prop := match x with
  | .tup ws => R ws (fun _ => True) G
  | .str s => R (s.map fun c => .str [c]) (fun _ => True) G
  | .il ws => R ws (fun _ => True) G
  | .sc ns => R (ns.map .int) (fun _ => True) G
  | .ref p => ∃ ws, G p = some (.lst ws) ∧ R ws (fun G' => G' p = some (.lst ws)) G
  | _ => False
theorem wIter_eq {te : WTE} {σ : WSt} {G : WHp} {R : List W → (WHp → Prop) → WHp → Prop} {E : WXK} : wIter te σ G R E = te σ G (fun x G1 => iterQ x R G1) E := rfl
section
variable {R : List W → (WHp → Prop) → WHp → Prop} {G : WHp}
theorem iterQ_tup {ws : List W} : iterQ (.tup ws) R G = R ws (fun _ => True) G := rfl
theorem iterQ_il {ws : List W} : iterQ (.il ws) R G = R ws (fun _ => True) G := rfl
theorem iterQ_sc {ws : List Int} : iterQ (.sc ws) R G = R (ws.map .int) (fun _ => True) G := rfl
theorem iterQ_str {s : List Nat} : iterQ (.str s) R G = R (s.map fun c => .str [c]) (fun _ => True) G := rfl
theorem iterQ_ref {p : Addr} : iterQ (.ref p) R G = ∃ ws, G p = some (.lst ws) ∧ R ws (fun G' => G' p = some (.lst ws)) G := rfl
theorem srcL_il {ws : List W} {R : List W → (WHp → Prop) → Prop} : srcL G (.il ws) R = R ws (fun _ => True) := rfl
theorem srcL_sc {ws : List Int} {R : List W → (WHp → Prop) → Prop} : srcL G (.sc ws) R = R (ws.map .int) (fun _ => True) := rfl
theorem srcL_ref {p : Addr} {R : List W → (WHp → Prop) → Prop} : srcL G (.ref p) R = ∃ ws, G p = some (.lst ws) ∧ R ws (fun G' => G' p = some (.lst ws)) := rfl
end
/-! ### comprehensions -/
section
variable {j : Nat} {tt : WTT} {te : WTE} {σ : WSt} {G : WHp} {Q : WQ} {ok : WHp → Prop} {xs : List W}
/-- G with a new list at hand -/
def Ext (G G' : WHp) : Prop := ∃ D acc, G D = none ∧ G' = updG G D (.lst acc)
theorem Ext.at {G G' : WHp} (e : Ext G G') {p : Addr} {o : WO} (h : G p = some o) : G' p = some o := by
  obtain ⟨D, acc, hD, rfl⟩ := e
  rw [updG_ne (fun z => by rw [← z, h] at hD; cases hD)]; exact h
/-- some invariant of the items -/
theorem lc_inv {fin : Addr → List W → WHp → WQ → Prop} (Pv : Nat → List W → Prop) (hl : xs.length ≤ 16777216) (hk : ∀ G', Ext G G' → ok G') (h0 : Pv 0 []) (hlen : ∀ k acc, Pv k acc → acc.length ≤ k)
    (hs : ∀ (k : Nat) x acc G' (Qb : Bool → WHp → Prop), xs[k]? = some x → Pv k acc → Ext G G' → (∀ b, (b = false → Pv (k + 1) acc) → (b = true → ∀ Q' : WQ, (∀ y, Pv (k + 1) (acc ++ [y]) → Q' y G') → te (σ.set j (some x)) G' Q' noX) → Qb b G') → tt (σ.set j (some x)) G' Qb noX)
    (q : ∀ acc D, G D = none → Pv xs.length acc → fin D acc (updG G D (.lst acc)) Q) : LcOk fin j tt te σ Q xs ok G := by
  refine ⟨hl, fun D hD => ⟨fun k acc G' => G' = updG G D (.lst acc) ∧ Pv k acc, ⟨rfl, h0⟩, ?_, ?_, ?_⟩⟩
  · rintro k acc G' hk' ⟨rfl, hp⟩
    exact ⟨hk _ ⟨D, _, hD, rfl⟩, updG_same, hlen k acc hp⟩
  · rintro k x acc G' hx ⟨rfl, hp⟩
    rw [List.set_set]
    refine hs k x acc _ _ hx hp ⟨D, _, hD, rfl⟩ fun b hf ht => ?_
    cases b with
    | true => exact ht rfl _ fun y hy => ⟨updG_same, by rw [updG_updG], hy⟩
    | false => exact ⟨rfl, hf rfl⟩
  · rintro acc G' ⟨rfl, hp⟩
    exact q acc D hD hp
theorem lcI_inv (Pv : Nat → List W → Prop) (hl : xs.length ≤ 16777216) (hk : ∀ G', Ext G G' → ok G') (h0 : Pv 0 []) (hlen : ∀ k acc, Pv k acc → acc.length ≤ k)
    (hs : ∀ (k : Nat) x acc G' (Q' : WQ), xs[k]? = some x → Pv k acc → Ext G G' → (∀ y, Pv (k + 1) (acc ++ [y]) → Q' y G') → te (σ.set j (some x)) G' Q' noX)
    (q : ∀ acc, Pv xs.length acc → Q (.il acc) G) : LcOk finI j wYes te σ Q xs ok G :=
  lc_inv Pv hl hk h0 hlen (fun k x acc G' Qb hx hp he hb => hb true (fun z => nomatch z) fun _ Q' hq => hs k x acc G' Q' hx hp he hq) fun acc D hD hp => by show Q _ (delG _ D); rw [delG_updG hD]; exact q acc hp
theorem lcM_inv (Pv : Nat → List W → Prop) (hl : xs.length ≤ 16777216) (hk : ∀ G', Ext G G' → ok G') (h0 : Pv 0 []) (hlen : ∀ k acc, Pv k acc → acc.length ≤ k)
    (hs : ∀ (k : Nat) x acc G' (Q' : WQ), xs[k]? = some x → Pv k acc → Ext G G' → (∀ y, Pv (k + 1) (acc ++ [y]) → Q' y G') → te (σ.set j (some x)) G' Q' noX)
    (q : ∀ acc p, G p = none → Pv xs.length acc → Q (.ref p) (updG G p (.lst acc))) : LcOk finM j wYes te σ Q xs ok G :=
  lc_inv Pv hl hk h0 hlen (fun k x acc G' Qb hx hp he hb => hb true (fun z => nomatch z) fun _ Q' hq => hs k x acc G' Q' hx hp he hq) fun acc D hD hp => q acc D hD hp
/-- the items by a function -/
theorem lcI_map (f : W → W) (hl : xs.length ≤ 16777216) (hk : ∀ G', Ext G G' → ok G') (hs : ∀ (k : Nat) x G' (Q' : WQ), xs[k]? = some x → Ext G G' → Q' (f x) G' → te (σ.set j (some x)) G' Q' noX)
    (q : Q (.il (xs.map f)) G) : LcOk finI j wYes te σ Q xs ok G := by
  refine lcI_inv (fun k acc => acc = (xs.take k).map f) hl hk (by simp) (fun k acc e => by rw [e, List.length_map, List.length_take]; omega) (fun k x acc G' Q' hx e he hq => hs k x G' Q' hx he (hq _ ?_)) fun acc e => ?_
  · rw [e, List.take_add_one, hx]; simp
  · rw [e, List.take_length]; exact q
theorem lcM_map (f : W → W) (hl : xs.length ≤ 16777216) (hk : ∀ G', Ext G G' → ok G') (hs : ∀ (k : Nat) x G' (Q' : WQ), xs[k]? = some x → Ext G G' → Q' (f x) G' → te (σ.set j (some x)) G' Q' noX)
    (q : ∀ p, G p = none → Q (.ref p) (updG G p (.lst (xs.map f)))) : LcOk finM j wYes te σ Q xs ok G := by
  refine lcM_inv (fun k acc => acc = (xs.take k).map f) hl hk (by simp) (fun k acc e => by rw [e, List.length_map, List.length_take]; omega) (fun k x acc G' Q' hx e he hq => hs k x G' Q' hx he (hq _ ?_)) fun acc p hp e => ?_
  · rw [e, List.take_add_one, hx]; simp
  · rw [e, List.take_length]; exact q p hp
/-- .. those that pass a test -/
theorem lcI_filter (t : W → Bool) (f : W → W) (hl : xs.length ≤ 16777216) (hk : ∀ G', Ext G G' → ok G') (ht : ∀ (k : Nat) x G' (Qb : Bool → WHp → Prop), xs[k]? = some x → Ext G G' → Qb (t x) G' → tt (σ.set j (some x)) G' Qb noX)
    (hs : ∀ (k : Nat) x G' (Q' : WQ), xs[k]? = some x → t x = true → Ext G G' → Q' (f x) G' → te (σ.set j (some x)) G' Q' noX) (q : Q (.il ((xs.filter t).map f)) G) : LcOk finI j tt te σ Q xs ok G := by
  refine lc_inv (fun k acc => acc = ((xs.take k).filter t).map f) hl hk (by simp) (fun k acc e => ?_) (fun k x acc G' Qb hx e he hb => ht k x G' Qb hx he (hb _ (fun hf => ?_) fun htt Q' hq => hs k x G' Q' hx htt he (hq _ ?_))) fun acc D hD e => ?_
  · rw [e, List.length_map]
    refine Nat.le_trans (List.length_filter_le _ _) ?_
    rw [List.length_take]; omega
  · rw [e, List.take_add_one, hx]; simp [hf]
  · rw [e, List.take_add_one, hx]; simp [htt]
  · show Q _ (delG _ D)
    rw [delG_updG hD, e, List.take_length]; exact q
end
end Lw
/-! ### bits -/
namespace Lw
open PySem PySem.Spec PyProof.Rows L2
theorem bitOr_nat (a b : Nat) : Builtin.bitOr (a : Int) (b : Int) = ((a ||| b : Nat) : Int) := by
  rw [bitOr_nn (Int.natCast_nonneg a) (Int.natCast_nonneg b)]; simp
theorem bitAnd_nat (a b : Nat) : Builtin.bitAnd (a : Int) (b : Int) = ((a &&& b : Nat) : Int) := by
  unfold Builtin.bitAnd
  simp
theorem shl_nat (a k : Nat) : (a : Int) * (2 : Int) ^ ((k : Int).toNat) = ((a <<< k : Nat) : Int) := by
  rw [Nat.shiftLeft_eq]; simp
theorem shr_nat (a k : Nat) : (a : Int) / (2 : Int) ^ ((k : Int).toNat) = ((a >>> k : Nat) : Int) := by
  rw [Nat.shiftRight_eq_div_pow]; simp
section
variable {G : WHp} {Q : WQ}
theorem oOr_nat (a b : Nat) : oOr (.int (a : Int)) (.int (b : Int)) G Q = Q (.int ((a ||| b : Nat) : Int)) G := by
  show (True ∧ Q _ G) = _; rw [true_and, bitOr_nat]
theorem oAnd_nat (a b : Nat) : oAnd (.int (a : Int)) (.int (b : Int)) G Q = Q (.int ((a &&& b : Nat) : Int)) G := by
  show (True ∧ Q _ G) = _; rw [true_and, bitAnd_nat]
theorem oShr_nat (a k : Nat) : oShr (.int (a : Int)) (.int (k : Int)) G Q = Q (.int ((a >>> k : Nat) : Int)) G := by
  show (0 ≤ (k : Int) ∧ Q (.int ((a : Int) / 2 ^ ((k : Int).toNat))) G) = _
  rw [shr_nat]
  simp
end
theorem and_one_bit (a k : Nat) : ((a >>> k) &&& 1 = 1) = (a.testBit k = true) := by
  rw [Nat.testBit, Nat.and_comm]
  have := Nat.and_two_pow_sub_one_eq_mod (a >>> k) 1
  rw [Nat.and_comm 1]
  simp only [Nat.pow_one] at this
  rw [show (2 - 1 : Nat) = 1 from rfl] at this
  rw [this]
  have h2 : a >>> k % 2 < 2 := Nat.mod_lt _ (by decide)
  apply propext
  constructor
  · intro h; rw [h]; rfl
  · intro h
    have : a >>> k % 2 ≠ 0 := by simpa using h
    omega
theorem shl_ok {a k : Nat} (ha : a < 2 ^ 1000000) (hk : k ≤ 1000000) : CShl (a : Int) (k : Int) := by
  refine ⟨Int.natCast_nonneg k, ?_⟩
  unfold Builtin.Int.intBits
  split
  · omega
  · rename_i h
    have h0 : a ≠ 0 := by simpa using h
    have : (a : Int).natAbs.log2 < 1000000 := (Nat.log2_lt (by simpa using h0)).mpr (by simpa using ha)
    omega
theorem shl1_ok {k : Nat} (hk : k ≤ 1000000) : CShl 1 (k : Int) := shl_ok (a := 1) (Nat.lt_of_lt_of_le (show 1 < 2 ^ 1 by decide) (Nat.pow_le_pow_right (by decide) (by decide))) hk
theorem shl1_nat (k : Nat) : (1 : Int) * (2 : Int) ^ ((k : Int).toNat) = ((1 <<< k : Nat) : Int) := shl_nat 1 k
theorem bit_int (m i : Nat) : Builtin.bitAnd ((m : Int) / (2 : Int) ^ ((i : Int).toNat)) 1 = (((m >>> i) &&& 1 : Nat) : Int) := by
  rw [shr_nat, show (1 : Int) = ((1 : Nat) : Int) from rfl, bitAnd_nat]
theorem bit_iff (m i : Nat) : (Builtin.bitAnd ((m : Int) / (2 : Int) ^ ((i : Int).toNat)) 1 = 1) = (m.testBit i = true) := by
  rw [bit_int, ← and_one_bit]
  apply propext
  omega
def maskN (p : Nat → Bool) : Nat → Nat
  | 0 => 0
  | n + 1 => maskN p n ||| (if p n then 1 <<< n else 0)
theorem testBit_mask (p : Nat → Bool) : ∀ (n i : Nat), (maskN p n).testBit i = (decide (i < n) && p i)
  | 0, i => by simp [maskN]
  | n + 1, i => by
    unfold maskN
    rw [Nat.testBit_or, testBit_mask p n i]
    have hs : ((if p n = true then 1 <<< n else 0) : Nat).testBit i = (decide (i = n) && p i) := by
      by_cases h : p n = true
      · rw [if_pos h, Nat.one_shiftLeft, Nat.testBit_two_pow]
        by_cases e : n = i
        · subst e; simp [h]
        · simp [e, Ne.symm e]
      · rw [if_neg h]
        by_cases e : i = n
        · subst e; simp at h; simp [h]
        · simp [e]
    rw [hs]
    by_cases h1 : i < n
    · simp [h1, Nat.lt_succ_of_lt h1, Nat.ne_of_lt h1]
    · by_cases h2 : i = n
      · subst h2; simp
      · have : ¬ i < n + 1 := by omega
        simp [h1, h2, this]
theorem mask_lt (p : Nat → Bool) (n : Nat) : maskN p n < 2 ^ n := by
  refine Nat.lt_pow_two_of_testBit _ fun i hi => ?_
  rw [testBit_mask]
  simp; omega
end Lw
/-! ### plain data, compared -/
namespace Lw
open PySem PySem.Spec PyProof.Rows L2
/-- a list that changed behind a thing that one leaves out of sight -/
theorem Sub.set2 {G : WHp} {p d : Addr} {o u v : WO} (hd : updG G p o d = none) : Sub (updG G p v) (updG (updG (updG G p o) d u) p v) := fun a w e => by
  by_cases h : a = p
  · subst h; rw [updG_same] at e ⊢; exact e
  · rw [updG_ne h] at e ⊢
    rw [updG_ne (fun z => ?_), updG_ne h]
    · exact e
    · rw [← z, updG_ne h, e] at hd; cases hd
def okW : Nat → W → Prop
  | _, .int _ => True
  | _, .non => True
  | _, .str s => ∀ c ∈ s, c < 1114112
  | n + 1, .tup ws => ∀ w ∈ ws, okW n w
  | n + 1, .il ws => ∀ w ∈ ws, okW n w
  | _, _ => False
def dW : Nat → W → PyData
  | _, .int i => .int i
  | _, .non => .none
  | _, .str s => .str (S s)
  | n + 1, .tup ws => .tuple (ws.map (dW n))
  | n + 1, .il ws => .list (ws.map (dW n))
  | _, _ => .none
theorem DpWs.of {G : WHp} {f : W → PyData} : ∀ {ws : List W}, (∀ w ∈ ws, DpW G w (f w)) → DpWs G ws (ws.map f)
  | [], _ => .nil
  | w :: ws, h => .cons _ _ _ _ (h w (by simp)) (DpWs.of fun z hz => h z (by simp [hz]))
theorem dp_dW {G : WHp} : ∀ (n : Nat) (w : W), okW n w → DpW G w (dW n w)
  | 0, .int i, _ => .int i
  | 0, .non, _ => .non
  | 0, .str s, _ => .str s
  | _ + 1, .int i, _ => .int i
  | _ + 1, .non, _ => .non
  | _ + 1, .str s, _ => .str s
  | n + 1, .tup ws, h => .tup _ _ (.of fun w hw => dp_dW n w (h w hw))
  | n + 1, .il ws, h => .lst _ _ _ rfl (.of fun w hw => dp_dW n w (h w hw))
theorem all0_of {f : W → PyData} : ∀ {ws : List W}, (∀ w ∈ ws, PyData.canLay0 (f w) = true) → PyData.canLayAll0 (ws.map f) = true
  | [], _ => by simp [PyData.canLayAll0]
  | w :: ws, h => by
    simp only [List.map_cons, PyData.canLayAll0, Bool.and_eq_true]
    exact ⟨h w (by simp), all0_of fun z hz => h z (by simp [hz])⟩
theorem dep_of {f : W → PyData} {n : Nat} : ∀ {ws : List W}, (∀ w ∈ ws, PyData.depth (f w) ≤ n) → PyData.depthAll (ws.map f) ≤ n
  | [], _ => by simp [PyData.depthAll]
  | w :: ws, h => by
    simp only [List.map_cons, PyData.depthAll]
    exact Nat.max_le.mpr ⟨h w (by simp), dep_of fun z hz => h z (by simp [hz])⟩
theorem S_ok {s : List Nat} (h : ∀ c ∈ s, c < 1114112) : PyData.canLay0 (.str (S s)) = true := by
  simp only [PyData.canLay0, PyData.strOk, S]
  simpa using h
theorem lay_dW : ∀ (n : Nat) (w : W), okW n w → PyData.canLay0 (dW n w) = true ∧ PyData.depth (dW n w) ≤ n
  | 0, .int i, _ => by simp [dW, PyData.canLay0, PyData.depth]
  | 0, .non, _ => by simp [dW, PyData.canLay0, PyData.depth]
  | 0, .str s, h => ⟨S_ok h, by simp [dW, PyData.depth]⟩
  | _ + 1, .int i, _ => by simp [dW, PyData.canLay0, PyData.depth]
  | _ + 1, .non, _ => by simp [dW, PyData.canLay0, PyData.depth]
  | _ + 1, .str s, h => ⟨S_ok h, by simp [dW, PyData.depth]⟩
  | n + 1, .tup ws, h => ⟨by simp only [dW, PyData.canLay0]; exact all0_of fun w hw => (lay_dW n w (h w hw)).1, by simp only [dW, PyData.depth]; exact Nat.succ_le_succ (dep_of fun w hw => (lay_dW n w (h w hw)).2)⟩
  | n + 1, .il ws, h => ⟨by simp only [dW, PyData.canLay0]; exact all0_of fun w hw => (lay_dW n w (h w hw)).1, by simp only [dW, PyData.depth]; exact Nat.succ_le_succ (dep_of fun w hw => (lay_dW n w (h w hw)).2)⟩
open Classical in
theorem eqvAll_of {f : W → PyData} : ∀ {xs ys : List W}, (∀ x ∈ xs, ∀ y ∈ ys, PyData.eqv (f x) (f y) = decide (x = y)) → PyData.eqvAll (xs.map f) (ys.map f) = decide (xs = ys)
  | [], [], _ => by simp [PyData.eqvAll]
  | [], _ :: _, _ => by simp [PyData.eqvAll]
  | _ :: _, [], _ => by simp [PyData.eqvAll]
  | x :: xs, y :: ys, h => by
    simp only [List.map_cons, PyData.eqvAll]
    rw [h x (by simp) y (by simp), eqvAll_of fun a ha b hb => h a (by simp [ha]) b (by simp [hb])]
    simp
open Classical in
theorem eqv_dW : ∀ (n : Nat) (a b : W), okW n a → okW n b → PyData.eqv (dW n a) (dW n b) = decide (a = b) := by
  intro n
  induction n with
  | zero =>
    intro a b ha hb
    cases a <;> cases b <;> simp_all [okW, dW, PyData.eqv] <;> (try (rw [Bool.eq_iff_iff]; simp)) <;> (try exact ⟨fun h => S_inj h, fun h => by rw [h]⟩)
  | succ n ih =>
    intro a b ha hb
    cases a <;> cases b <;> simp_all [okW, dW, PyData.eqv] <;> (try (rw [Bool.eq_iff_iff]; simp)) <;> (try exact ⟨fun h => S_inj h, fun h => by rw [h]⟩)
    all_goals
      rw [eqvAll_of fun x hx y hy => ih x y (ha x hx) (hb y hy)]; simp
open Classical in
/-- lists that are compared -/
theorem eqD_l {G : WHp} {x y : W} {xs ys : List W} {k : Bool → Prop} (hx : sqOf G x = some xs) (hy : sqOf G y = some ys) (ox : ∀ w ∈ xs, okW 20 w) (oy : ∀ w ∈ ys, okW 20 w) (q : k (decide (xs = ys))) : eqD G x y k := by
  refine ⟨.list (xs.map (dW 20)), .list (ys.map (dW 20)), .lst _ _ _ hx (.of fun w hw => dp_dW _ w (ox w hw)), .lst _ _ _ hy (.of fun w hw => dp_dW _ w (oy w hw)), ?_, ?_, ?_⟩
  · have := lay_dW 21 (.il xs) ox
    unfold SeqAt.shaped
    rw [Bool.and_eq_true, decide_eq_true_eq]
    exact ⟨this.1, Nat.le_trans this.2 (by decide)⟩
  · have := lay_dW 21 (.il ys) oy
    unfold SeqAt.shaped
    rw [Bool.and_eq_true, decide_eq_true_eq]
    exact ⟨this.1, Nat.le_trans this.2 (by decide)⟩
  · have := eqv_dW 21 (.il xs) (.il ys) ox oy
    simp only [dW, W.il.injEq] at this
    rw [this]; exact q
open Classical in
theorem eqD_t {G : WHp} {xs ys : List W} {k : Bool → Prop} (ox : ∀ w ∈ xs, okW 20 w) (oy : ∀ w ∈ ys, okW 20 w) (q : k (decide (xs = ys))) : eqD G (.tup xs) (.tup ys) k := by
  refine ⟨.tuple (xs.map (dW 20)), .tuple (ys.map (dW 20)), .tup _ _ (.of fun w hw => dp_dW _ w (ox w hw)), .tup _ _ (.of fun w hw => dp_dW _ w (oy w hw)), ?_, ?_, ?_⟩
  · have := lay_dW 21 (.tup xs) ox
    unfold SeqAt.shaped
    rw [Bool.and_eq_true, decide_eq_true_eq]
    exact ⟨this.1, Nat.le_trans this.2 (by decide)⟩
  · have := lay_dW 21 (.tup ys) oy
    unfold SeqAt.shaped
    rw [Bool.and_eq_true, decide_eq_true_eq]
    exact ⟨this.1, Nat.le_trans this.2 (by decide)⟩
  · have := eqv_dW 21 (.tup xs) (.tup ys) ox oy
    simp only [dW, W.tup.injEq] at this
    rw [this]; exact q
section
open Classical
variable {G : WHp} {Q : WQ} {xs ys : List W}
theorem eq_tt (ox : ∀ w ∈ xs, okW 20 w) (oy : ∀ w ∈ ys, okW 20 w) (q : Q (.bl (decide (xs = ys))) G) : oEq (.tup xs) (.tup ys) G Q := by
  show eqD G (.tup xs) (.tup ys) (fun k => Q (.bl k) G)
  exact eqD_t (k := fun k => Q (.bl k) G) ox oy q
theorem ne_tt (ox : ∀ w ∈ xs, okW 20 w) (oy : ∀ w ∈ ys, okW 20 w) (q : Q (.bl (!decide (xs = ys))) G) : oNe (.tup xs) (.tup ys) G Q := by
  show eqD G (.tup xs) (.tup ys) (fun k => Q (.bl (!k)) G)
  exact eqD_t (k := fun k => Q (.bl (!k)) G) ox oy q
theorem eq_il (ox : ∀ w ∈ xs, okW 20 w) (oy : ∀ w ∈ ys, okW 20 w) (q : Q (.bl (decide (xs = ys))) G) : oEq (.il xs) (.il ys) G Q := by
  show eqD G (.il xs) (.il ys) (fun k => Q (.bl k) G)
  exact eqD_l (k := fun k => Q (.bl k) G) rfl rfl ox oy q
theorem ne_il (ox : ∀ w ∈ xs, okW 20 w) (oy : ∀ w ∈ ys, okW 20 w) (q : Q (.bl (!decide (xs = ys))) G) : oNe (.il xs) (.il ys) G Q := by
  show eqD G (.il xs) (.il ys) (fun k => Q (.bl (!k)) G)
  exact eqD_l (k := fun k => Q (.bl (!k)) G) rfl rfl ox oy q
theorem eq_ri {p : Addr} (h : G p = some (.lst xs)) (ox : ∀ w ∈ xs, okW 20 w) (oy : ∀ w ∈ ys, okW 20 w) (q : Q (.bl (decide (xs = ys))) G) : oEq (.ref p) (.il ys) G Q := by
  show eqD G (.ref p) (.il ys) (fun k => Q (.bl k) G)
  exact eqD_l (k := fun k => Q (.bl k) G) (by simp [sqOf, lstOf, h]) rfl ox oy q
theorem ne_ri {p : Addr} (h : G p = some (.lst xs)) (ox : ∀ w ∈ xs, okW 20 w) (oy : ∀ w ∈ ys, okW 20 w) (q : Q (.bl (!decide (xs = ys))) G) : oNe (.ref p) (.il ys) G Q := by
  show eqD G (.ref p) (.il ys) (fun k => Q (.bl (!k)) G)
  exact eqD_l (k := fun k => Q (.bl (!k)) G) (by simp [sqOf, lstOf, h]) rfl ox oy q
theorem eq_ir {p : Addr} (h : G p = some (.lst ys)) (ox : ∀ w ∈ xs, okW 20 w) (oy : ∀ w ∈ ys, okW 20 w) (q : Q (.bl (decide (xs = ys))) G) : oEq (.il xs) (.ref p) G Q := by
  show eqD G (.il xs) (.ref p) (fun k => Q (.bl k) G)
  exact eqD_l (k := fun k => Q (.bl k) G) rfl (by simp [sqOf, lstOf, h]) ox oy q
theorem eq_rr {p r : Addr} (h : G p = some (.lst xs)) (h' : G r = some (.lst ys)) (ox : ∀ w ∈ xs, okW 20 w) (oy : ∀ w ∈ ys, okW 20 w) (q : Q (.bl (decide (xs = ys))) G) : oEq (.ref p) (.ref r) G Q := by
  show eqD G (.ref p) (.ref r) (fun k => Q (.bl k) G)
  exact eqD_l (k := fun k => Q (.bl k) G) (by simp [sqOf, lstOf, h]) (by simp [sqOf, lstOf, h']) ox oy q
end
end Lw
/-! W14: items that are a function's. -/
namespace Lw
open PySem PySem.Spec PyProof.Rows L2
theorem map_get {α β : Type} {f : α → β} {xs : List α} {i : Nat} {w : β} (h : (xs.map f)[i]? = some w) : ∃ x, xs[i]? = some x ∧ w = f x := by
  rw [List.getElem?_map, Option.map_eq_some_iff] at h
  obtain ⟨x, hx, e⟩ := h
  exact ⟨x, hx, e.symm⟩
section
variable {α : Type} {g : α → W} {j : Nat} {tt : WTT} {te : WTE} {σ : WSt} {G : WHp} {Q : WQ} {ok : WHp → Prop} {xs : List α}
/-- a comprehension over the values of g: its items by f -/
theorem lcI_mm (f : α → W) (hl : xs.length ≤ 16777216) (hs : ∀ (k : Nat) x G' (Q' : WQ), xs[k]? = some x → Ext G G' → Q' (f x) G' → te (σ.set j (some (g x))) G' Q' noX)
    (q : Q (.il (xs.map f)) G) (hk : ∀ G', Ext G G' → ok G' := by intros; trivial) : LcOk finI j wYes te σ Q (xs.map g) ok G := by
  refine lcI_inv (fun k acc => acc = (xs.take k).map f) (by rw [List.length_map]; exact hl) hk (by simp) (fun k acc e => by rw [e, List.length_map, List.length_take]; omega) (fun k x acc G' Q' hx e he hq => ?_) fun acc e => ?_
  · obtain ⟨y, hy, rfl⟩ := map_get hx
    refine hs k y G' Q' hy he (hq _ ?_)
    rw [e, List.take_add_one, hy]; simp
  · rw [e, List.length_map, List.take_length]; exact q
theorem lcM_mm (f : α → W) (hl : xs.length ≤ 16777216) (hs : ∀ (k : Nat) x G' (Q' : WQ), xs[k]? = some x → Ext G G' → Q' (f x) G' → te (σ.set j (some (g x))) G' Q' noX)
    (q : ∀ p, G p = none → Q (.ref p) (updG G p (.lst (xs.map f)))) (hk : ∀ G', Ext G G' → ok G' := by intros; trivial) : LcOk finM j wYes te σ Q (xs.map g) ok G := by
  refine lcM_inv (fun k acc => acc = (xs.take k).map f) (by rw [List.length_map]; exact hl) hk (by simp) (fun k acc e => by rw [e, List.length_map, List.length_take]; omega) (fun k x acc G' Q' hx e he hq => ?_) fun acc p hp e => ?_
  · obtain ⟨y, hy, rfl⟩ := map_get hx
    refine hs k y G' Q' hy he (hq _ ?_)
    rw [e, List.take_add_one, hy]; simp
  · rw [e, List.length_map, List.take_length]; exact q p hp
theorem lcI_fm (t : α → Bool) (f : α → W) (hl : xs.length ≤ 16777216) (ht : ∀ (k : Nat) x G' (Qb : Bool → WHp → Prop), xs[k]? = some x → Ext G G' → Qb (t x) G' → tt (σ.set j (some (g x))) G' Qb noX)
    (hs : ∀ (k : Nat) x G' (Q' : WQ), xs[k]? = some x → t x = true → Ext G G' → Q' (f x) G' → te (σ.set j (some (g x))) G' Q' noX) (q : Q (.il ((xs.filter t).map f)) G) (hk : ∀ G', Ext G G' → ok G' := by intros; trivial) : LcOk finI j tt te σ Q (xs.map g) ok G := by
  refine lc_inv (fun k acc => acc = ((xs.take k).filter t).map f) (by rw [List.length_map]; exact hl) hk (by simp) (fun k acc e => ?_) (fun k x acc G' Qb hx e he hb => ?_) fun acc D hD e => ?_
  · rw [e, List.length_map]
    refine Nat.le_trans (List.length_filter_le _ _) ?_
    rw [List.length_take]; omega
  · obtain ⟨y, hy, rfl⟩ := map_get hx
    refine ht k y G' Qb hy he (hb _ (fun hf => ?_) fun htt Q' hq => hs k y G' Q' hy htt he (hq _ ?_))
    · rw [e, List.take_add_one, hy]; simp [hf]
    · rw [e, List.take_add_one, hy]; simp [htt]
  · show Q _ (delG _ D)
    rw [delG_updG hD, e, List.length_map, List.take_length]; exact q
theorem lcM_fm (t : α → Bool) (f : α → W) (hl : xs.length ≤ 16777216) (ht : ∀ (k : Nat) x G' (Qb : Bool → WHp → Prop), xs[k]? = some x → Ext G G' → Qb (t x) G' → tt (σ.set j (some (g x))) G' Qb noX)
    (hs : ∀ (k : Nat) x G' (Q' : WQ), xs[k]? = some x → t x = true → Ext G G' → Q' (f x) G' → te (σ.set j (some (g x))) G' Q' noX) (q : ∀ p, G p = none → Q (.ref p) (updG G p (.lst ((xs.filter t).map f)))) (hk : ∀ G', Ext G G' → ok G' := by intros; trivial) : LcOk finM j tt te σ Q (xs.map g) ok G := by
  refine lc_inv (fun k acc => acc = ((xs.take k).filter t).map f) (by rw [List.length_map]; exact hl) hk (by simp) (fun k acc e => ?_) (fun k x acc G' Qb hx e he hb => ?_) fun acc D hD e => ?_
  · rw [e, List.length_map]
    refine Nat.le_trans (List.length_filter_le _ _) ?_
    rw [List.length_take]; omega
  · obtain ⟨y, hy, rfl⟩ := map_get hx
    refine ht k y G' Qb hy he (hb _ (fun hf => ?_) fun htt Q' hq => hs k y G' Q' hy htt he (hq _ ?_))
    · rw [e, List.take_add_one, hy]; simp [hf]
    · rw [e, List.take_add_one, hy]; simp [htt]
  · show Q _ _
    rw [e, List.length_map, List.take_length]; exact q D hD
/-- over range(n) -/
theorem lcI_r {n : Nat} (f : Nat → W) (hl : n ≤ 16777216) (hs : ∀ (k : Nat) G' (Q' : WQ), k < n → Ext G G' → Q' (f k) G' → te (σ.set j (some (.int (k : Nat)))) G' Q' noX)
    (q : Q (.il ((List.range n).map f)) G) (hk : ∀ G', Ext G G' → ok G' := by intros; trivial) : LcOk finI j wYes te σ Q (rngW 0 n) ok G := by
  have e : rngW 0 n = (List.range n).map fun i : Nat => W.int i := by
    unfold rngW
    refine List.map_congr_left fun i _ => ?_
    rw [Int.zero_add]
  rw [e]
  exact lcI_mm f (by rw [List.length_range]; exact hl) (fun k x G' Q' hx he hq => by
    obtain ⟨hk2, rfl⟩ := List.getElem?_eq_some_iff.mp hx
    rw [List.getElem_range] at hq ⊢
    exact hs _ G' Q' (by rw [List.length_range] at hk2; exact hk2) he hq) q hk
end
end Lw
/-! W15: more built-ins. -/
namespace Lw
open PySem PySem.Spec PyProof.Rows L2
section
variable {P : Par} {X : Cx} {a b : Expr} {ta tb : WTE} {p p2 pos pos2 : Pos}
theorem rel_rng {G : WHp} {H : Hp} {lo hi : Int} : RelWs P G H (rngW lo (hi - lo).toNat) (rgV lo hi) := by
  unfold rngW rgV
  generalize (List.range (hi - lo).toNat) = l
  induction l with
  | nil => exact .nil
  | cons x r ih => exact .cons _ _ _ _ (.int _) ih
def wLstRg1 (ta : WTE) : WTE := fun σ G Q E => ta σ G (fun x G1 => ∃ n, x = .int n ∧ n ≤ 16777216 ∧ 0 ≤ n ∧ ∀ q, G1 q = none → Q (.ref q) (updG G1 q (.lst (rngW 0 n.toNat)))) E
theorem je_listRg1 (hc : X.calm = true) (hl : Gl X "list") (ml : X.mg "list" = none) (hr : Gl X "range") (mr : X.mg "range" = none) (ha : JE P X a ta)
    (na : starEach [a] X.env = (false, eval a X.env) :: starEach [] X.env := by rfl)
    (na2 : starEach [.Call (.Name "range" p) [a] [] pos] X.env = (false, eval (.Call (.Name "range" p) [a] [] pos) X.env) :: starEach [] X.env := by rfl) :
    JE P X (.Call (.Name "list" p2) [.Call (.Name "range" p) [a] [] pos] [] pos2) (wLstRg1 ta) := fun Ga Ha Ew tk =>
  PE.imp (pe_listRg hc hl ml (prg_1 hr mr (ha Ga Ha Ew tk) na) na2) fun σ H Q ⟨σw, G, Qw, fa, rs, rp, ht, hq⟩ => ⟨σw, G, _, fa, rs, rp, ht, fun w G1 v H1 f1 r1 p1 ⟨n, e, hn, h0, q⟩ => by
    subst e
    cases r1
    refine ⟨n, rfl, RgOk.of_le (Int.le_refl 0) hn (by decide) h0, fun q1 hq1 => ?_⟩
    have e0 : rngW 0 n.toNat = rngW 0 (n - 0).toNat := by rw [Int.sub_zero]
    exact hq _ _ _ _ (f1.trans (.new hq1)) (.ref q1) (p1.put (u := .lst (rngW 0 n.toNat)) (.new hq1) ⟨_, upd_same, by rw [e0]; exact rel_rng⟩) (q q1 (p1.free hq1))⟩
def wLstRgI1 (ta : WTE) : WTE := fun σ G Q E => ta σ G (fun x G1 => ∃ n, x = .int n ∧ n ≤ 16777216 ∧ 0 ≤ n ∧ Q (.il (rngW 0 n.toNat)) G1) E
end
end Lw
namespace Lw
open PySem PySem.Spec PyProof.Rows L2
section
variable {α : Type} {g : α → W} {j : Nat} {tt : WTT} {te : WTE} {σ : WSt} {G : WHp} {Q : WQ} {ok : WHp → Prop} {xs : List W}
/-- items by their places -/
theorem lcI_ix {n : Nat} (F : Nat → W) (hn : xs.length = n) (hl : n ≤ 16777216) (hs : ∀ (k : Nat) x G' (Q' : WQ), xs[k]? = some x → Ext G G' → Q' (F k) G' → te (σ.set j (some x)) G' Q' noX)
    (q : Q (.il ((List.range n).map F)) G) (hk : ∀ G', Ext G G' → ok G' := by intros; trivial) : LcOk finI j wYes te σ Q xs ok G := by
  subst hn
  refine lcI_inv (fun k acc => k ≤ xs.length ∧ acc = (List.range k).map F) hl hk ⟨Nat.zero_le _, rfl⟩ (fun k acc e => by rw [e.2, List.length_map, List.length_range]; exact Nat.le_refl _) (fun k x acc G' Q' hx e he hq => ?_) fun acc e => ?_
  · refine hs k x G' Q' hx he (hq _ ⟨(List.getElem?_eq_some_iff.mp hx).1, ?_⟩)
    rw [e.2, List.range_succ]; simp
  · rw [e.2]; exact q
end
end Lw
/-! W16: readings at refs, as simp takes them. -/
namespace Lw
open PySem PySem.Spec PyProof.Rows L2
section
variable {G : WHp} {Q : WQ} {p : Addr}
theorem kdOk_l {x : W} : kdOk G x .list = ∃ xs, sqOf G x = some xs := rfl
theorem kdOk_s {x : W} : kdOk G x .str = ∃ s, x = .str s := rfl
theorem kdOk_d {x : W} : kdOk G x .dict = ((∃ p kvs, x = .ref p ∧ G p = some (.dct kvs)) ∨ ∃ kvs, x = .dk kvs) := rfl
theorem sqT_il {xs : List W} : sqT G (.il xs) = some xs := rfl
theorem sqT_sc {ns : List Int} : sqT G (.sc ns) = some (ns.map W.int) := rfl
theorem sqT_tup {xs : List W} : sqT G (.tup xs) = some xs := rfl
theorem sqT_r : sqT G (.ref p) = lstOf G (.ref p) := rfl
theorem sqOf_il {xs : List W} : sqOf G (.il xs) = some xs := rfl
theorem sqOf_sc {ns : List Int} : sqOf G (.sc ns) = some (ns.map W.int) := rfl
theorem sqOf_r : sqOf G (.ref p) = lstOf G (.ref p) := rfl
theorem lstOf_il {xs : List W} : lstOf G (.il xs) = some xs := rfl
theorem lstOf_r : lstOf G (.ref p) = (match G p with | some (.lst xs) => some xs | _ => none) := rfl
theorem tyN_r : tyN G (.ref p) = (match G p with | some (.lst _) => some "list" | some (.dct _) => some "dict" | _ => none) := rfl
theorem dOf_r : dOf G (.ref p) = (match G p with | some (.dct kvs) => some kvs | some (.fz _ _ kvs) => some kvs | _ => none) := rfl
theorem objOf_r : objOf G (.ref p) = (match G p with | some (.obj c fs) => some (c, fs) | _ => none) := rfl
theorem oLen_r : oLen [.ref p] G Q = ∃ xs, lstOf G (.ref p) = some xs ∧ Q (.int xs.length) G := rfl
theorem oIx_r {i : Int} : oIx (.ref p) (.int i) G Q = ∃ xs, lstOf G (.ref p) = some xs ∧ ∃ w, atI xs i = some w ∧ Q w G := by
  apply propext
  constructor
  · intro h
    simp only [oIx] at h
    obtain ⟨xs, w, e, e2, q⟩ := h
    exact ⟨xs, e, w, e2, q⟩
  · rintro ⟨xs, e, w, e2, q⟩
    exact ⟨xs, w, e, e2, q⟩
theorem oIsi_r {T : String} : oIsi [.ref p, .ty T] G Q = ∃ n b, tyN G (.ref p) = some n ∧ kitB n T = some b ∧ Q (.bl b) G := rfl
theorem kit_dl : kitB "dict" "list" = some false := by decide +kernel
theorem kit_ld : kitB "list" "dict" = some false := by decide +kernel
theorem kit_lb : kitB "list" "bool" = some false := by decide +kernel
theorem kit_li : kitB "list" "int" = some false := by decide +kernel
theorem oIsi_dd {kvs : List (KW × W)} : oIsi [.dk kvs, .ty "dict"] G Q = Q (.bl true) G := by simp [oIsi, tyN, kit_dd]
end
end Lw
/-! W17: texts and slices, as simp takes them. -/
namespace Lw
open PySem PySem.Spec PyProof.Rows L2
theorem log_k {n : Int} (h0 : 0 ≤ n) (h : n < 1000000000000) : n.natAbs.log2 < 1920 := by
  cases e : n.natAbs with
  | zero => simp
  | succ m =>
    refine Nat.lt_trans ((Nat.log2_lt (by omega)).mpr (?_ : m + 1 < 2 ^ 1900)) (by decide)
    refine Nat.lt_of_lt_of_le (?_ : m + 1 < 2 ^ 40) (Nat.pow_le_pow_right (by decide) (by decide))
    omega
theorem strsOf_mm {α : Type} {xs : List α} (f : α → List Nat) : strsOf (xs.map fun x => W.str (f x)) = some (xs.map f) := by
  have := strsOf_map (xs.map f)
  rw [List.map_map] at this
  exact this
theorem cut_headI {α : Type} {s : List α} {i : Int} (h : 0 ≤ i) : cutL s none (some i) = s.take i.toNat := by
  obtain ⟨n, rfl⟩ := Int.eq_ofNat_of_zero_le h
  rw [cut_head]; rfl
theorem cut_tailI {α : Type} {s : List α} {i : Int} (h : 0 ≤ i) : cutL s (some i) none = s.drop i.toNat := by
  obtain ⟨n, rfl⟩ := Int.eq_ofNat_of_zero_le h
  rw [cut_tail]; rfl
theorem atI_map {α β : Type} {xs : List α} {f : α → β} {i : Int} : atI (xs.map f) i = (atI xs i).map f := by
  unfold atI
  rw [List.length_map]
  cases ixN xs.length i with
  | none => rfl
  | some k => simp
theorem let_at {i : Int} (h0 : 0 ≤ i) (h1 : i < 26) : atI LET i = some (97 + i.toNat) := by
  obtain ⟨n, rfl⟩ := Int.eq_ofNat_of_zero_le h0
  have : ∀ n : Nat, n < 26 → atI LET (n : Int) = some (97 + n) := by decide
  exact this n (by omega)
theorem cut1 {α : Type} {x : α} {r : List α} : cutL (x :: r) (some 1) none = r := by
  rw [cut_tailI (by decide)]; rfl
theorem cut2 {α : Type} {x y : α} {r : List α} : cutL (x :: y :: r) (some 2) none = r := by
  rw [cut_tailI (by decide)]; rfl
theorem cut3 {α : Type} {x y z : α} {r : List α} : cutL (x :: y :: z :: r) (some 3) none = r := by
  rw [cut_tailI (by decide)]; rfl
theorem at_hd {α : Type} {x : α} {r : List α} : atI (x :: r) 0 = some x := by
  have : atI (x :: r) ((0 : Nat) : Int) = some x := atI_nat (by rfl)
  exact this
theorem at_1 {α : Type} {x y : α} {r : List α} : atI (x :: y :: r) 1 = some y := by
  have : atI (x :: y :: r) ((1 : Nat) : Int) = some y := atI_nat (by rfl)
  exact this
theorem at_2 {α : Type} {x y z : α} {r : List α} : atI (x :: y :: z :: r) 2 = some z := by
  have : atI (x :: y :: z :: r) ((2 : Nat) : Int) = some z := atI_nat (by rfl)
  exact this
theorem at_3 {α : Type} {x y z u : α} {r : List α} : atI (x :: y :: z :: u :: r) 3 = some u := by
  have : atI (x :: y :: z :: u :: r) ((3 : Nat) : Int) = some u := atI_nat (by rfl)
  exact this
theorem at_4 {α : Type} {x y z u v : α} {r : List α} : atI (x :: y :: z :: u :: v :: r) 4 = some v := by
  have : atI (x :: y :: z :: u :: v :: r) ((4 : Nat) : Int) = some v := atI_nat (by rfl)
  exact this
theorem at_5 {α : Type} {x y z u v t : α} {r : List α} : atI (x :: y :: z :: u :: v :: t :: r) 5 = some t := by
  have : atI (x :: y :: z :: u :: v :: t :: r) ((5 : Nat) : Int) = some t := atI_nat (by rfl)
  exact this
theorem at_6 {α : Type} {x y z u v t s : α} {r : List α} : atI (x :: y :: z :: u :: v :: t :: s :: r) 6 = some s := by
  have : atI (x :: y :: z :: u :: v :: t :: s :: r) ((6 : Nat) : Int) = some s := atI_nat (by rfl)
  exact this
theorem pick_if {α : Type} {a b : α} {c : Prop} [Decidable c] : atI [a, b] (if c then 1 else 0) = some (if c then b else a) := by split <;> rfl
theorem atI_i {α : Type} {xs : List α} {i : Int} {x : α} (h0 : 0 ≤ i) (h : xs[i.toNat]? = some x) : atI xs i = some x := by
  obtain ⟨n, rfl⟩ := Int.eq_ofNat_of_zero_le h0
  exact atI_nat h
theorem anyE_strs {x : List Nat} {xs : List (List Nat)} : ((xs.map W.str).any fun y => eqFl y (.str x)) = decide (x ∈ xs) := by
  rw [List.any_map, Bool.eq_iff_iff]
  simp only [List.any_eq_true, decide_eq_true_eq, Function.comp]
  constructor
  · rintro ⟨y, hy, e⟩
    have : y = x := by simpa [eqFl] using e
    exact this ▸ hy
  · exact fun hm => ⟨x, hm, by simp [eqFl]⟩
theorem allF_strs {xs : List (List Nat)} : (xs.map W.str).all flW = true := by simp [List.all_eq_true, flW]
theorem oIn_strs {x : List Nat} {xs : List (List Nat)} {G : WHp} {Q : WQ} : oIn (.str x) (.il (xs.map W.str)) G Q = Q (.bl (decide (x ∈ xs))) G := by
  show (∃ ws, sqOf G (.il (xs.map W.str)) = some ws ∧ flW (.str x) = true ∧ ws.all flW = true ∧ Q (.bl (ws.any _)) G) = _
  apply propext
  constructor
  · rintro ⟨ws, e, _, _, q⟩
    cases e
    rw [anyE_strs] at q
    exact q
  · exact fun q => ⟨_, rfl, rfl, allF_strs, by rw [anyE_strs]; exact q⟩
theorem oNotIn_strs {x : List Nat} {xs : List (List Nat)} {G : WHp} {Q : WQ} : oNotIn (.str x) (.il (xs.map W.str)) G Q = Q (.bl (!decide (x ∈ xs))) G := by
  show (∃ ws, sqOf G (.il (xs.map W.str)) = some ws ∧ flW (.str x) = true ∧ ws.all flW = true ∧ Q (.bl (!(ws.any _))) G) = _
  apply propext
  constructor
  · rintro ⟨ws, e, _, _, q⟩
    cases e
    rw [anyE_strs] at q
    exact q
  · exact fun q => ⟨_, rfl, rfl, allF_strs, by rw [anyE_strs]; exact q⟩
theorem updG_comm {G : WHp} {a b : Addr} {o u : WO} (h : a ≠ b) : updG (updG G a o) b u = updG (updG G b u) a o := by
  funext x
  by_cases h1 : x = a
  · subst h1; rw [updG_ne h, updG_same, updG_same]
  · by_cases h2 : x = b
    · subst h2; rw [updG_same, updG_ne h1, updG_same]
    · rw [updG_ne h2, updG_ne h1, updG_ne h1, updG_ne h2]
theorem find_first {α : Type} {p : α → Bool} : ∀ {xs : List α} {i : Nat} {x : α}, xs[i]? = some x → p x = true → (∀ (j : Nat) y, j < i → xs[j]? = some y → p y = false) → xs.find? p = some x
  | [], i, x, h, _, _ => by simp at h
  | a :: r, 0, x, h, hp, _ => by cases h; rw [List.find?_cons_of_pos hp]
  | a :: r, i + 1, x, h, hp, hno => by
    have h0 := hno 0 a (by omega) rfl
    rw [List.find?_cons_of_neg (by rw [h0]; simp)]
    exact find_first (i := i) (by simpa using h) hp fun j y hj hy => hno (j + 1) y (by omega) (by simpa using hy)
theorem find_nothing {α : Type} {p : α → Bool} {xs : List α} (h : ∀ (j : Nat) y, j < xs.length → xs[j]? = some y → p y = false) : xs.find? p = none := by
  rw [List.find?_eq_none]
  intro x hx
  obtain ⟨j, hj⟩ := List.getElem?_of_mem hx
  rw [h j x (List.getElem?_eq_some_iff.mp hj).1 hj]; simp
theorem findSome_first {α β : Type} {f : α → Option β} : ∀ {xs : List α} {i : Nat} {x : α} {b : β}, xs[i]? = some x → f x = some b → (∀ (j : Nat) y, j < i → xs[j]? = some y → f y = none) → xs.findSome? f = some b
  | [], i, x, b, h, _, _ => by simp at h
  | a :: r, 0, x, b, h, hp, _ => by cases h; simp [List.findSome?, hp]
  | a :: r, i + 1, x, b, h, hp, hno => by
    have h0 := hno 0 a (by omega) rfl
    simp only [List.findSome?, h0]
    exact findSome_first (i := i) (by simpa using h) hp fun j y hj hy => hno (j + 1) y (by omega) (by simpa using hy)
theorem findSome_nothing {α β : Type} {f : α → Option β} {xs : List α} (h : ∀ (j : Nat) y, j < xs.length → xs[j]? = some y → f y = none) : xs.findSome? f = none := by
  rw [List.findSome?_eq_none_iff]
  intro x hx
  obtain ⟨j, hj⟩ := List.getElem?_of_mem hx
  exact h j x (List.getElem?_eq_some_iff.mp hj).1 hj
theorem getD_app {α : Type} {xs : List α} {x : α} {j : Nat} {y : α} (h : (xs ++ [x])[j]? = some y) : xs[j]? = some y ∨ j = xs.length ∧ y = x := by
  rw [List.getElem?_append] at h
  split at h
  · exact .inl h
  · rcases Nat.eq_zero_or_pos (j - xs.length) with z | z
    · rw [z] at h; cases h; exact .inr ⟨by omega, rfl⟩
    · rw [List.getElem?_eq_none (by simp; omega)] at h; cases h
/-- a whole list of things seen as a value, all the way down -/
theorem vw_deep {G G' : WHp} {w w2 : W} {Q : WQ} (s : Sub G G') (f : FrzD G' G w w2) (q : Q w2 G) : ∃ w2 G2, View w G' w2 G2 ∧ Q w2 G2 := ⟨w2, G, ⟨s, .inr (.inr f)⟩, q⟩
theorem vw_at {G G' : WHp} {w w2 : W} {Q : WQ} (v : View w G' w2 G) (q : Q w2 G) : ∃ w2 G2, View w G' w2 G2 ∧ Q w2 G2 := ⟨w2, G, v, q⟩
theorem Sub.upd {G G' : WHp} {p : Addr} {o : WO} (s : Sub G G') (h : G p = none) : Sub G (updG G' p o) := fun a u e => by
  rw [updG_ne (fun z => by rw [z, h] at e; cases e)]; exact s a u e
theorem Sub.none {G G' : WHp} (s : Sub G G') {p : Addr} (h : G' p = none) : G p = none := s.nn p h
end Lw
/-! W18: a list of lists that change. -/
namespace Lw
open PySem PySem.Spec PyProof.Rows L2
def natW (m : Nat) : W := .int (m : Nat)
theorem FrzDs.refl {G G2 : WHp} : ∀ (ws : List W), FrzDs G G2 ws ws
  | [] => .nil
  | w :: r => .cons w w r r (.same w) (FrzDs.refl r)
theorem FrzDs.map {G G2 : WHp} {α : Type} {f g : α → W} : ∀ {xs : List α}, (∀ x ∈ xs, FrzD G G2 (f x) (g x)) → FrzDs G G2 (xs.map f) (xs.map g)
  | [], _ => .nil
  | x :: r, h => .cons _ _ _ _ (h x (by simp)) (FrzDs.map fun y hy => h y (by simp [hy]))
structure Nest (G0 G : WHp) (D : Addr) (qs : List Addr) (ss : List (List W)) : Prop where
  at_ : G D = some (.lst (qs.map W.ref))
  len : qs.length = ss.length
  inn : ∀ (j : Nat) q s, qs[j]? = some q → ss[j]? = some s → G q = some (.lst s)
  nd : qs.Nodup
  ne : D ∉ qs
  keep : Sub G0 G
  nD : G0 D = none
  nq : ∀ q ∈ qs, G0 q = none
namespace Nest
variable {G0 G : WHp} {D : Addr} {qs : List Addr} {ss : List (List W)}
theorem new (h : G0 D = none) : Nest G0 (updG G0 D (.lst [])) D [] [] :=
  ⟨updG_same, rfl, fun j q s hq => by simp at hq, List.nodup_nil, by simp, .new h, h, fun q hq => by cases hq⟩
/-- another thing is stored, that is none of these -/
theorem other (n : Nest G0 G D qs ss) {p : Addr} {o : WO} (h0 : G0 p = none) (hD : p ≠ D) (hq : p ∉ qs) : Nest G0 (updG G p o) D qs ss :=
  ⟨by rw [updG_ne (Ne.symm hD)]; exact n.at_, n.len, fun j q s e1 e2 => by
    have : q ≠ p := fun z => by subst z; exact hq (List.mem_of_getElem? e1)
    rw [updG_ne this]; exact n.inn j q s e1 e2, n.nd, n.ne, n.keep.upd h0, n.nD, n.nq⟩
theorem fresh (n : Nest G0 G D qs ss) {p : Addr} (h : G p = none) : G0 p = none ∧ p ≠ D ∧ p ∉ qs := by
  refine ⟨n.keep.none h, fun z => ?_, fun z => ?_⟩
  · rw [z, n.at_] at h; cases h
  · obtain ⟨j, hj⟩ := List.getElem?_of_mem z
    have hl := (List.getElem?_eq_some_iff.mp hj).1
    have := n.inn j p _ hj (List.getElem?_eq_getElem (by rw [← n.len]; exact hl))
    rw [h] at this; cases this
theorem get (n : Nest G0 G D qs ss) {j : Nat} (hj : j < ss.length) : ∃ q, qs[j]? = some q ∧ atI (qs.map W.ref) (j : Int) = some (.ref q) ∧ G q = some (.lst ss[j]) := by
  have hq := List.getElem?_eq_getElem (l := qs) (i := j) (by rw [n.len]; exact hj)
  exact ⟨_, hq, by rw [atI_map, atI_nat hq]; rfl, n.inn j _ _ hq (List.getElem?_eq_getElem hj)⟩
theorem set (n : Nest G0 G D qs ss) {j : Nat} {q : Addr} {s' : List W} (hq : qs[j]? = some q) : Nest G0 (updG G q (.lst s')) D qs (ss.set j s') := by
  have hqm := List.mem_of_getElem? hq
  have hDq : D ≠ q := fun z => by subst z; exact n.ne hqm
  refine ⟨by rw [updG_ne hDq]; exact n.at_, by rw [List.length_set]; exact n.len, fun i r s e1 e2 => ?_, n.nd, n.ne, n.keep.upd (n.nq q hqm), n.nD, n.nq⟩
  rw [List.getElem?_set] at e2
  by_cases hij : j = i
  · subst hij
    rw [hq] at e1
    cases e1
    rw [if_pos rfl] at e2
    split at e2
    · cases e2; exact updG_same
    · cases e2
  · rw [if_neg hij] at e2
    have : r ≠ q := fun z => by
      subst z
      obtain ⟨h1, h2⟩ := List.getElem?_eq_some_iff.mp e1
      obtain ⟨h3, h4⟩ := List.getElem?_eq_some_iff.mp hq
      exact hij ((List.getElem_inj n.nd).mp (h4.trans h2.symm))
    rw [updG_ne this]
    exact n.inn i r s e1 e2
theorem get_ins {α : Type} {xs : List α} {k : Nat} {x : α} {i : Nat} {y : α} (hk : k ≤ xs.length) (h : (xs.take k ++ [x] ++ xs.drop k)[i]? = some y) : (i < k ∧ xs[i]? = some y) ∨ (i = k ∧ y = x) ∨ (k < i ∧ xs[i - 1]? = some y) := by
  have hl : (xs.take k).length = k := by rw [List.length_take]; omega
  rw [List.append_assoc] at h
  rcases Nat.lt_trichotomy i k with z | z | z
  · rw [List.getElem?_append_left (by omega), List.getElem?_take, if_pos z] at h
    exact .inl ⟨z, h⟩
  · rw [List.getElem?_append_right (by omega), hl, z, Nat.sub_self] at h
    cases h
    exact .inr (.inl ⟨z, rfl⟩)
  · rw [List.getElem?_append_right (by omega), hl] at h
    obtain ⟨m, hm⟩ : ∃ m, i - k = m + 1 := ⟨i - k - 1, by omega⟩
    rw [hm, List.singleton_append, List.getElem?_cons_succ, List.getElem?_drop] at h
    exact .inr (.inr ⟨z, by rw [show i - 1 = k + m by omega]; exact h⟩)
theorem ins (n : Nest G0 G D qs ss) {k : Nat} {r : Addr} {s : List W} (hk : k ≤ ss.length) (hr : G r = some (.lst s)) (h0 : G0 r = none) (hD : r ≠ D) (hn : r ∉ qs) :
    Nest G0 (updG G D (.lst ((qs.take k ++ [r] ++ qs.drop k).map W.ref))) D (qs.take k ++ [r] ++ qs.drop k) (ss.take k ++ [s] ++ ss.drop k) := by
  have hp : (qs.take k ++ [r] ++ qs.drop k).Perm (r :: qs) := by
    rw [List.append_assoc, List.singleton_append]
    refine List.perm_middle.trans ?_
    rw [List.take_append_drop]
  have hm : ∀ a, a ∈ qs.take k ++ [r] ++ qs.drop k ↔ a = r ∨ a ∈ qs := fun a => by rw [hp.mem_iff, List.mem_cons]
  have hlq := n.len
  refine ⟨updG_same, by simp [hlq], fun i q t e1 e2 => ?_, ?_, ?_, n.keep.upd n.nD, n.nD, ?_⟩
  · have hqD : q ≠ D := fun z => by
      rcases (hm q).mp (List.mem_of_getElem? e1) with w | w
      · exact hD (w ▸ z)
      · exact n.ne (z ▸ w)
    rw [updG_ne hqD]
    rcases get_ins (by omega) e1 with ⟨a, b⟩ | ⟨a, b⟩ | ⟨a, b⟩
    · rcases get_ins (by omega) e2 with ⟨c, d⟩ | ⟨c, d⟩ | ⟨c, d⟩
      · exact n.inn _ _ _ b d
      · omega
      · omega
    · rcases get_ins (by omega) e2 with ⟨c, d⟩ | ⟨c, d⟩ | ⟨c, d⟩
      · omega
      · subst b; subst d; exact hr
      · omega
    · rcases get_ins (by omega) e2 with ⟨c, d⟩ | ⟨c, d⟩ | ⟨c, d⟩
      · omega
      · omega
      · exact n.inn _ _ _ b d
  · rw [hp.nodup_iff, List.nodup_cons]
    exact ⟨hn, n.nd⟩
  · rw [hm]
    rintro (w | w)
    · exact hD w.symm
    · exact n.ne w
  · intro q hq
    rcases (hm q).mp hq with rfl | w
    · exact h0
    · exact n.nq q w
end Nest
theorem set_split {α : Type} {ss : List α} {j : Nat} {s s' : α} (h : ss[j]? = some s) : ss.set j s' = ss.take j ++ [s'] ++ ss.drop (j + 1) ∧ ss = ss.take j ++ [s] ++ ss.drop (j + 1) := by
  obtain ⟨hj, he⟩ := List.getElem?_eq_some_iff.mp h
  refine ⟨by rw [List.set_eq_take_append_cons_drop, if_pos hj]; simp, ?_⟩
  have := List.take_append_drop j ss
  rw [List.drop_eq_getElem_cons hj, he] at this
  simpa using this.symm
theorem flat_set {ss : List (List Nat)} {j k : Nat} {s s' : List Nat} (h : ss[j]? = some s) (p : s'.Perm (k :: s)) : (ss.set j s').flatten.Perm (k :: ss.flatten) := by
  obtain ⟨h1, h2⟩ := set_split (s' := s') h
  rw [h1]
  conv => rhs; rw [h2]
  simp only [List.flatten_append, List.flatten_cons, List.flatten_nil, List.append_nil]
  refine ((p.append_left _).append_right _).trans ?_
  simp only [List.append_assoc, List.cons_append]
  exact List.perm_middle
theorem ins_perm {α : Type} {xs : List α} {k : Nat} {x : α} : (xs.take k ++ [x] ++ xs.drop k).Perm (x :: xs) := by
  rw [List.append_assoc, List.singleton_append]
  refine List.perm_middle.trans ?_
  rw [List.take_append_drop]
theorem flat_ins {ss : List (List Nat)} {a k : Nat} : (ss.take a ++ [[k]] ++ ss.drop a).flatten.Perm (k :: ss.flatten) := by
  have := (ins_perm (xs := ss) (k := a) (x := [k])).flatten
  simpa using this
end Lw
/-! W19: dicts whose keys are truths. -/
namespace Lw
open PySem PySem.Spec PyProof.Rows L2
section
variable {P : Par} {X : Cx} {k v o e f value : Expr} {tk tv to te tf : WTE} {pos pos' apos cpos : Pos}
def wBdisp (tk tv : WTE) : WTE := fun σ G Q E => ∀ p, G p = none → tk σ (updG G p (.bd [])) (fun x G1 => tv σ G1 (fun y G2 => ∃ b i, x = .bl b ∧ y = .int i ∧ G2 p = some (.bd []) ∧ Q (.ref p) (updG G2 p (.bd [(b, i)]))) E) E
theorem je_bdisp (hk : JE P X k tk) (hv : JE P X v tv) : JE P X (.Dict [some k] [v] pos) (wBdisp tk tv) := fun Ga Ha Ew tk' =>
  PE.imp (pe_bdisp (hk Ga Ha Ew tk') (hv Ga Ha Ew tk')) fun σ H Q ⟨σw, G, Qw, fa, rs, rp, ht, hq⟩ p hp => by
    have fn : Fw G H (updG G p (.bd [])) (upd H p (BDo p [])) := .new hp
    refine ⟨σw, _, _, fa.trans fn, rs.fw rp fn, rp.put (u := .bd []) fn upd_same, ht p (rp.free hp), fun w1 G1 v1 H1 f1 r1 p1 q1 => ⟨σw, G1, _, fa.trans (fn.trans f1), (rs.fw rp fn).fw (rp.put (u := .bd []) fn upd_same) f1, p1, q1, fun w2 G2 v2 H2 f2 r2 p2 ⟨b, i, e1, e2, e3, q⟩ => ?_⟩⟩
    subst e1 e2
    have r1' := r1.fw p1 f2
    cases r1'
    cases r2
    have hb : H2 p = some (BDo p []) := p2 p _ e3
    have fp : Fw G2 H2 (updG G2 p (.bd [(b, i)])) (upd H2 p (BDo p [(b, i)])) := .put e3
    exact ⟨b, i, rfl, rfl, hb, hq _ _ _ _ (fn.trans (f1.trans (f2.trans fp))) (.ref p) (p2.put (u := .bd [(b, i)]) fp upd_same) q⟩
def wBget2 (to te tf : WTE) : WTE := fun σ G Q E => to σ G (fun x G1 => ∃ p kvs0, x = .ref p ∧ G1 p = some (.bd kvs0) ∧ te σ G1 (fun y G2 => tf σ G2 (fun z G3 => ∃ kvs b i, G3 p = some (.bd kvs) ∧ y = .bl b ∧ z = .int i ∧ Q (.int ((valB kvs b).getD i)) G3) E) E) E
theorem je_bget2 (ho : JE P X o to) (he : JE P X e te) (hf : JE P X f tf) (m : M2 X o "get" apos e f cpos := by exact ⟨rfl, rfl, rfl, rfl⟩) : JE P X (.Call (.Attribute o "get" apos) [e, f] [] cpos) (wBget2 to te tf) := fun Ga Ha Ew tk =>
  PE.imp (pe_bget2 (ho Ga Ha Ew tk) (he Ga Ha Ew tk) (hf Ga Ha Ew tk) m) fun σ H Q ⟨σw, G, Qw, fa, rs, rp, ht, hq⟩ => ⟨σw, G, _, fa, rs, rp, ht, fun w1 G1 v1 H1 f1 r1 p1 ⟨p, kvs0, e1, e2, h1⟩ => by
    subst e1
    cases r1
    refine ⟨p, kvs0, rfl, p1 p _ e2, σw, G1, _, fa.trans f1, rs.fw rp f1, p1, h1, fun w2 G2 v2 H2 f2 r2 p2 h2 => ⟨σw, G2, _, fa.trans (f1.trans f2), (rs.fw rp f1).fw p1 f2, p2, h2, fun w3 G3 v3 H3 f3 r3 p3 ⟨kvs, b, i, e3, e4, e5, q⟩ => ?_⟩⟩
    subst e4 e5
    have r2' := r2.fw p2 f3
    cases r2'
    cases r3
    exact ⟨kvs, b, i, p3 p _ e3, rfl, rfl, hq _ _ _ _ (f1.trans (f2.trans f3)) (.int _) p3 q⟩⟩
def wBput (to ti te : WTE) : WTS := fun D σ G E => te σ G (fun v G1 => to σ G1 (fun x G2 => ti σ G2 (fun y G3 => ∃ p kvs b i, x = .ref p ∧ y = .bl b ∧ v = .int i ∧ G3 p = some (.bd kvs) ∧ kvs.length < 100 ∧ D.nx σ (updG G3 p (.bd (putB kvs b i)))) E) E) E
theorem js_bput (ho : JE P X o to) (hi : JE P X e te) (hv : JE P X value tv) (hs : swapsWith value (some (.Subscript o e pos')) pos.line X.env = pure false := by rfl) : JS P X (.Assign [.Subscript o e pos'] value pos) (wBput to te tv) := fun Ga Ha Ew tk =>
  PS.imp (ps_bput (ho Ga Ha Ew tk) (hi Ga Ha Ew tk) (hv Ga Ha Ew tk) hs) fun D σ H ⟨σw, G, Dw, fa, rs, rp, ht, h1, h2, h3, h4⟩ => ⟨σw, G, _, fa, rs, rp, ht, fun y G1 v H1 f1 r1 p1 q1 => ⟨σw, G1, _, fa.trans f1, rs.fw rp f1, p1, q1, fun w G2 v2 H2 f2 r2 p2 q2 => ⟨σw, G2, _, fa.trans (f1.trans f2), (rs.fw rp f1).fw p1 f2, p2, q2, fun u G3 v3 H3 f3 r3 p3 ⟨p, kvs, b, i, e1, e2, e3, e4, hl, q⟩ => by
    subst e1 e2 e3
    have r2' := r2.fw p2 f3
    have r1' := (r1.fw p1 f2).fw p2 f3
    cases r2'
    cases r3
    cases r1'
    have fp : Fw G3 H3 (updG G3 p (.bd (putB kvs b i))) (upd H3 p (BDo p (putB kvs b i))) := .put e4
    exact ⟨p, kvs, b, i, rfl, rfl, rfl, p3 p _ e4, hl, h1 σw _ σ _ (f1.trans (f2.trans (f3.trans fp))) ((((rs.fw rp f1).fw p1 f2).fw p2 f3).fw p3 fp) (p3.put (u := .bd (putB kvs b i)) fp upd_same) q⟩⟩⟩⟩
end
end Lw
/-! W20: dicts, listed, cleared, compared. -/
namespace Lw
open PySem PySem.Spec PyProof.Rows L2
section
variable {P : Par} {X : Cx} {G : WHp} {H : Hp} {o e f value : Expr} {to te tf : WTE} {p pos pos' apos cpos : Pos}
/-- a dict that lives, or that nothing changes -/
def dcL (G : WHp) : W → Option (List (KW × W))
  | .dk kvs => some kvs
  | .ref p => match G p with
    | some (.dct kvs) => some kvs
    | _ => none
  | _ => none
theorem dcL_dk {kvs : List (KW × W)} : dcL G (.dk kvs) = some kvs := rfl
theorem dcL_ref {p : Addr} {kvs : List (KW × W)} (h : G p = some (.dct kvs)) : dcL G (.ref p) = some kvs := by simp [dcL, h]
theorem dcL_rel (rp : Rep P G H) {w : W} {v : V} {kvs : List (KW × W)} (r : RelW P G H w v) (e : dcL G w = some kvs) : ∃ a kv, v = .ref a ∧ H a = some (.dK kv) ∧ RelKs P G H kvs kv := by
  cases r with
  | dk a kv kvs' h g rs => cases e; exact ⟨a, kv, rfl, h, rs⟩
  | ref a =>
    dsimp only [dcL] at e
    cases q : G a with
    | none => rw [q] at e; cases e
    | some o =>
      rw [q] at e
      cases o with
      | dct ws =>
        cases e
        obtain ⟨kv, h, rs⟩ := rp a _ q
        exact ⟨a, kv, rfl, h, rs⟩
      | fz od u ws => cases e
      | obj _ _ => cases e
      | lst _ => cases e
      | xd _ => cases e
      | bd _ => cases e
      | td _ => cases e
      | tab => cases e
  | non => cases e
  | bl b => cases e
  | int i => cases e
  | str s => cases e
  | ty n => cases e
  | sc a ns h => cases e
  | tup a vs ws h rs => cases e
  | il a vs ws h rs => cases e
  | io a dx c fv fs h g rs => cases e
  | clo a c cd l xs h1 h2 h3 g h => cases e
theorem items_rel {H' : Hp} {ts : List Addr} {kv : List (Key × V)} (h : Paired (fun (t : Addr) (q : Key × V) => H' t = some (.tup [kV q.1, q.2])) ts kv) : ∀ {kvs : List (KW × W)}, RelKs P G H' kvs kv →
    RelWs P G H' (kvs.map fun kv => .tup [keyW kv.1, kv.2]) (ts.map V.ref) := by
  induction h with
  | nil => intro kvs r; cases r; exact .nil
  | @cons a p as ps h t ih =>
    intro kvs r
    cases r with
    | cons k w v ws vs r rs => exact .cons _ _ _ _ (.tup _ _ _ (.inl (.inl h)) (.cons _ _ _ _ (keyW_rel k) (.cons _ _ _ _ r .nil))) (ih rs)
theorem RelKs.keysW : ∀ {kvs : List (KW × W)} {kv : List (Key × V)}, RelKs P G H kvs kv → RelWs P G H (kvs.map fun kv => keyW kv.1) (kv.map fun q => kV q.1)
  | _, _, .nil => .nil
  | _, _, .cons k w v ws vs r rs => .cons _ _ _ _ (keyW_rel k) rs.keysW
def wLstItems (to : WTE) : WTE := fun σ G Q E => to σ G (fun x G1 => ∃ kvs, dcL G1 x = some kvs ∧ ∀ p, G1 p = none → Q (.ref p) (updG G1 p (.lst (kvs.map fun kv => .tup [keyW kv.1, kv.2])))) E
theorem je_listItems (hc : X.calm = true) (hg : Gl X "list") (hm : X.mg "list" = none) (ho : JE P X e te) (hv : bootBuiltins "list" = some (.type "list") := by rfl)
    (hbase : attributeBase e "items" X.env (eval e X.env) = eval e X.env := by rfl) (hline : (apos.endLine == cpos.line) = true := by rfl)
    (hs : starEach [.Call (.Attribute e "items" apos) [] [] cpos] X.env = (false, eval (.Call (.Attribute e "items" apos) [] [] cpos) X.env) :: starEach [] X.env := by rfl) :
    JE P X (.Call (.Name "list" p) [.Call (.Attribute e "items" apos) [] [] cpos] [] pos) (wLstItems te) := fun Ga Ha Ew tk =>
  PE.imp (LiI.pe_listItems hc (ho Ga Ha Ew tk) hg hm hv hbase hline hs) fun σ H Q ⟨σw, G, Qw, fa, rs, rp, ht, hq⟩ => ⟨σw, G, _, fa, rs, rp, ht, fun w1 G1 v1 H1 f1 r1 p1 ⟨kvs, e1, q⟩ => by
    obtain ⟨a, kv, rfl, h, rk⟩ := dcL_rel p1 r1 e1
    refine ⟨a, kv, rfl, h, fun H' p ts keep np nt pt hp hT => ?_⟩
    have fw : Fw G1 H1 (updG G1 p (.lst (kvs.map fun kv => .tup [keyW kv.1, kv.2]))) H' := fun b u e2 _ g => ⟨keep b u e2, by rw [updG_ne (ne_of_none e2 np)]; exact g⟩
    refine hq _ _ _ _ (f1.trans fw) (.ref p) (fun b u e2 => ?_) (q p (p1.free np))
    by_cases z : b = p
    · subst z
      rw [updG_same] at e2
      cases e2
      exact ⟨_, hp, items_rel hT (rk.fw p1 fw)⟩
    · rw [updG_ne z] at e2
      refine (p1 b u e2).fw p1 fw ?_
      cases e3 : H1 b with
      | none => rw [p1.free e3] at e2; cases e2
      | some o => exact keep b o e3⟩
/-- list(d) -/
def oListD : WRs := fun ws G Q => ∃ x kvs, ws = [x] ∧ dcL G x = some kvs ∧ ∀ p, G p = none → Q (.ref p) (updG G p (.lst (kvs.map fun kv => keyW kv.1)))
theorem cw_listD (hc : X.calm = true) : CallW P X (.type "list") oListD := CallR.imp (call_list_dK hc) fun vs H Q ⟨ws, G, Qw, r, rp, ⟨x, kvs, e0, e, q⟩, hq⟩ => by
  subst e0
  obtain ⟨v, rfl, r1⟩ := r.one
  obtain ⟨a, kv, rfl, h, rk⟩ := dcL_rel rp r1 e
  exact ⟨a, kv, rfl, h, fun p hp => hq _ _ _ _ (.new hp) (.ref p) (rp.put (u := .lst (kvs.map fun kv => keyW kv.1)) (.new hp) ⟨_, upd_same, (rk.fw rp (.new hp)).keysW⟩) (q p (rp.free hp))⟩
/-- d.clear() -/
def mDclear : WRm := fun x ws G Q => ∃ p kvs, x = .ref p ∧ ws = [] ∧ G p = some (.dct kvs) ∧ Q .non (updG G p (.dct []))
theorem mw_dclear : MtW P X "dict.clear" mDclear := MtR.imp mtd_clear fun x xs H Q ⟨wx, ws, G, Qw, rx, r, rp, ⟨p, kvs, e1, e2, e, q⟩, hq⟩ => by
  subst e1; subst e2
  cases rx
  have e4 := r.zero
  subst e4
  obtain ⟨kv, h, rk⟩ := rp p _ e
  have fp : Fw G H (updG G p (.dct [])) (upd H p (.dK [])) := .put e
  exact ⟨p, kv, rfl, rfl, h, hq _ _ _ _ fp .non (rp.put (u := .dct []) fp ⟨[], upd_same, .nil⟩) q⟩
/-- the sum of lists, that may change -/
def oAddM : WR2 := fun x y G Q => ∃ xs ys, lstOf G x = some xs ∧ lstOf G y = some ys ∧ xs.length + ys.length ≤ big ∧ ∀ q, G q = none → Q (.ref q) (updG G q (.lst (xs ++ ys)))
theorem ow_addM : OpW P X (binaryOp .Add) oAddM := by
  refine OpR.imp op_cat fun x y H Q ⟨wx, wy, G, Qw, rx, ry, rp, ⟨xs, ys, ex, ey, hl, q⟩, hq⟩ => ?_
  obtain ⟨a, vs, rfl, ha, ra⟩ := lstOf_rel rp rx ex
  obtain ⟨b, us, rfl, hb, rb⟩ := lstOf_rel rp ry ey
  refine ⟨a, b, vs, us, rfl, rfl, ha, hb, by rw [← ra.length, ← rb.length, big_eq]; exact hl, fun p hp => ?_⟩
  exact hq _ _ _ _ (.new hp) (.ref p) (rp.put (u := .lst (xs ++ ys)) (.new hp) ⟨_, upd_same, (ra.append rb).fw rp (.new hp)⟩) (q p (rp.free hp))
/-- dicts that are equal -/
def oNeD : WR2 := fun x y G Q => ∃ (ks : List (KW × W)), ks.length ≤ 100 ∧ dcL G x = some ks ∧ dcL G y = some ks ∧ (ks.map (·.1)).Nodup ∧ (∀ p ∈ ks, ∃ s, p.2 = W.str s) ∧ Q (.bl false) G
theorem RelKs.strAt : ∀ {ks : List (KW × W)} {kv lv : List (Key × V)}, RelKs P G H ks kv → RelKs P G H ks lv → (∀ p ∈ ks, ∃ s, p.2 = W.str s) → kv = lv
  | _, _, _, .nil, .nil, _ => rfl
  | _, _, _, .cons k w v ws vs h r, .cons _ _ v2 _ vs2 h2 r2, hs => by
    obtain ⟨s, e⟩ := hs (k, w) List.mem_cons_self
    have e : w = .str s := e
    subst e
    cases h
    cases h2
    rw [RelKs.strAt r r2 fun p hp => hs p (List.mem_cons_of_mem _ hp)]
/-- a new dict, frozen for good -/
def tFreeze (te : TE) : TE := fun σ H Q => te σ H fun x H1 => ∃ d u, x = .ref d ∧ H1 d = some u ∧ Mut (some u) ∧ ∀ od, Q x (upd H1 d (.frz od u))
theorem pe_freeze {te : TE} (h : PE X e te) : PE X e (tFreeze te) := by
  refine ⟨fun pins s σ H Q I hq => ?_⟩
  refine thn (h.run pins s σ H _ I hq) fun v s1 ⟨x, H1, I1, r, d, u, ex, hd, mu, q⟩ => ?_
  obtain ⟨od, I2⟩ := I1.lock hd mu
  exact ⟨x, _, I2, r, q od⟩
def wFreeze (te : WTE) : WTE := fun σ G Q E => te σ G (fun x G1 => ∃ p kvs, x = .ref p ∧ G1 p = some (.dct kvs) ∧ ∀ od u, Q (.ref p) (updG G1 p (.fz od u kvs))) E
theorem je_freeze (h : JE P X e te) : JE P X e (wFreeze te) := fun Ga Ha Ew tk =>
  PE.imp (pe_freeze (h Ga Ha Ew tk)) fun σ H Q ⟨σw, G, Qw, fa, rs, rp, ht, hq⟩ => ⟨σw, G, _, fa, rs, rp, ht, fun w1 G1 v1 H1 f1 r1 p1 ⟨p, kvs, e1, e2, q⟩ => by
    subst e1
    cases r1
    obtain ⟨kv, hp, hl⟩ := lock_on p1 e2
    refine ⟨p, .dK kv, rfl, hp, True.intro, fun od => ?_⟩
    obtain ⟨f, rp2⟩ := hl od
    exact hq _ _ _ _ (f1.trans f) (.ref p) rp2 (q od (.dK kv))⟩
/-- s.upper() -/
def mSupper : WRm := fun x ws G Q => ∃ s, x = .str s ∧ ws = [] ∧ s.all (· < 128) = true ∧ s.length ≤ 5592405 ∧ Q (.str (s.map up1)) G
theorem mw_supper : MtW P X "str.upper" mSupper := MtR.imp mt_upper fun x xs H Q ⟨wx, ws, G, Qw, rx, r, rp, ⟨s, e1, e2, ha, hl, q⟩, hq⟩ => by
  subst e1; subst e2
  cases rx
  have e4 := r.zero
  subst e4
  refine ⟨S s, rfl, rfl, by rw [S_len]; exact hl, ?_⟩
  rw [SX.upper_S ha]
  exact emb_end hq rp (.str _) q
theorem valV_nd : ∀ {ks : List (KW × W)} {kv : List (Key × V)}, RelKs P G H ks kv → (ks.map (·.1)).Nodup → (∀ p ∈ ks, ∃ s, p.2 = W.str s) → ∀ p ∈ kv, valV kv p.1 = some p.2 ∧ flatB p.2 = true
  | _, _, .nil, _, _ => by simp
  | _, _, .cons k w v ws vs h r, hn, hs => by
    obtain ⟨s, e⟩ := hs (k, w) List.mem_cons_self
    have e : w = .str s := e
    subst e
    cases h
    intro p hp
    rw [List.map_cons, List.nodup_cons] at hn
    have ih := valV_nd r hn.2 fun p hp => hs p (List.mem_cons_of_mem _ hp)
    have mem : ∀ {ws : List (KW × W)} {vs : List (Key × V)}, RelKs P G H ws vs → ∀ p ∈ vs, ∃ l, p.1 = kK l ∧ l ∈ ws.map (·.1) := by
      intro ws vs r
      induction vs generalizing ws with
      | nil => intro p hp; cases hp
      | cons a t ih =>
        cases r with
        | cons k2 w2 v2 ws2 vs2 h2 r2 =>
          intro p hp
          rcases List.mem_cons.mp hp with rfl | hp
          · exact ⟨k2, rfl, by simp⟩
          · obtain ⟨l, h3, h4⟩ := ih r2 p hp
            exact ⟨l, h3, by simp [h4]⟩
    rcases List.mem_cons.mp hp with rfl | hp
    · exact ⟨by simp [valV], rfl⟩
    · obtain ⟨l, h3, h4⟩ := mem r p hp
      have hne : ¬ kK k = p.1 := fun z => by
        rw [h3] at z
        have := kK_inj z
        subst this
        exact hn.1 h4
      refine ⟨?_, (ih p hp).2⟩
      have := (ih p hp).1
      unfold valV at this ⊢
      rw [List.find?_cons_of_neg (by simpa using hne)]
      exact this
theorem ow_neD (hu : X.A.units < cLine) : OpW P X (compareOp .NotEq) oNeD := OpR.imp (op_ne_dictA hu) fun x y H Q ⟨wx, wy, G, Qw, rx, ry, rp, ⟨ks, hl, e1, e2, hn, hs, q⟩, hq⟩ => by
  obtain ⟨a, kv, rfl, h1, r1⟩ := dcL_rel rp rx e1
  obtain ⟨b, lv, rfl, h2, r2⟩ := dcL_rel rp ry e2
  have e := r1.strAt r2 hs
  subst e
  exact ⟨a, b, kv, kv, rfl, rfl, h1, h2, rfl, valV_nd r1 hn hs, emb_end hq rp (.bl _) q⟩
open Classical in
theorem ne_ir {xs ys : List W} {Q : WQ} {p : Addr} (h : G p = some (.lst ys)) (ox : ∀ w ∈ xs, okW 20 w) (oy : ∀ w ∈ ys, okW 20 w) (q : Q (.bl (!decide (xs = ys))) G) : oNe (.il xs) (.ref p) G Q := by
  show eqD G (.il xs) (.ref p) (fun k => Q (.bl (!k)) G)
  exact eqD_l (k := fun k => Q (.bl (!k)) G) rfl (by simp [sqOf, lstOf, h]) ox oy q
open Classical in
theorem ne_rr {xs ys : List W} {Q : WQ} {p r : Addr} (h : G p = some (.lst xs)) (h' : G r = some (.lst ys)) (ox : ∀ w ∈ xs, okW 20 w) (oy : ∀ w ∈ ys, okW 20 w) (q : Q (.bl (!decide (xs = ys))) G) : oNe (.ref p) (.ref r) G Q := by
  show eqD G (.ref p) (.ref r) (fun k => Q (.bl (!k)) G)
  exact eqD_l (k := fun k => Q (.bl (!k)) G) (by simp [sqOf, lstOf, h]) (by simp [sqOf, lstOf, h']) ox oy q
end
end Lw
/-! W21: list(reversed(xs)). -/
namespace RT
open PySem PySem.Spec PyProof.Rows L2
section
variable {prog : Program} {w : World} {A : Around} {E : Value → Shared → Prop} {s : Shared}
theorem extend_rev {R : Result → Shared → Prop} {it l S : Addr} {items : Array Value} {c₀ : Nat} {res : Value} (hh : A.handled = none) (hit : s.heap.IsRevIter it l ((items.size : Int) - 1)) (hl : s.heap.IsList l items) (hne : l ≠ it) (hn : items.size ≤ sizeLine) (hSi : S ≠ it) (hSl : S ≠ l)
    (hS : s.heap.get? S = some { cls := .type "list", data := .seq #[] c₀ })
    (hR : ∀ (h' : Heap) (tk : Nat) (acc : Array Value) (c' : Nat), (∀ b o, b ≠ S → b ≠ it → s.heap.get? b = some o → h'.get? b = some o) → h'.get? S = some { cls := .type "list", dict := none, data := .seq acc c', slots := #[] } → ItemsOf (fun i v => items[items.size - 1 - i]? = some v) acc items.size → R (.ok (.ret res)) { s with heap := h', toks := tk }) :
    wpAny (model prog w) A.in1 (Builtin.List.listExtendWith (.ref S) (.ref it) res)
      (fun fin s' => match fin with | .done f => R (.ok f) s' | .again c' => c'.quiet = true ∧ codeAny (model prog w) A c' R s') (fun e s' => R (.error e) s') s := by
  have W := (Walks.listRev (prog := prog) (w := w) (A := A.in1) hh it l hne items).toS
  have hSf : S ∉ [it, l] := by simp only [List.mem_cons, List.not_mem_nil, or_false, not_or]; exact ⟨hSi, hSl⟩
  have hT : s.TypeIs (.ref it) "list_reverseiterator" := hit.typeIs
  have h1 : Builtin.List.listSameRef (.ref S) (.ref it) = false := by simp [Builtin.List.listSameRef, hSi]
  unfold Builtin.List.listExtendWith
  refine wpAny_bind (wpAny_typeOf hT ?_)
  rw [if_neg (by rw [h1]; decide)]
  refine wpAny_bind (wpAny_pyIter_revIter hit ?_)
  refine wpAny_bind (wpAny_holding ?_)
  unfold Builtin.List.listLengthHint
  refine wpAny_bind (wpAny_specialOf hT nolen_lri ?_)
  show wpAny _ A.in1 (specialOf (Value.ref it) (Str.ofString "__length_hint__") >>= _) _ _ _
  refine wpAny_bind (wpAny_specialOf hT hint_lri ?_)
  generalize hid : ("list_reverseiterator.__length_hint__" : String) = id0
  wp_delta
  rw [show splitId id0 = some ("list_reverseiterator", "__length_hint__") from by subst hid; decide +kernel]
  subst hid
  refine wpAny_bind (wpAny_isInstance (b := true) hT (by rw [isSubtype_type]; kernel_rfl) ?_)
  refine wpAny_pure ?_
  rw [if_neg (by decide)]
  have e0 : ((items.size : Nat) : Int) - 1 - ((0 : Nat) : Int) = (items.size : Int) - 1 := by omega
  refine wpAny_pure ⟨plainId_quiet F.plain_extend_loop _, codeAny_extend_loopS W hn S hSf res items.size 0 _ _ _ rfl (Nat.zero_le _) ⟨Nat.zero_le _, by rw [e0]; exact hit, hl⟩ hS (ItemsOf.nil _) fun s' acc' c' hm hS' hacc => ?_⟩
  rw [Moved.eq_with hm]
  refine hR s'.heap s'.toks acc' c' (fun b o hb hb2 e => hm.heap b o (fun hmem => ?_) e) hS' hacc
  rcases List.mem_cons.mp hmem with e' | hmem
  · exact hb e'
  · exact hb2 (List.mem_singleton.mp hmem)
theorem list_init_rev {R : Result → Shared → Prop} {it l S : Addr} {items : Array Value} (hh : A.handled = none) (hit : s.heap.IsRevIter it l ((items.size : Int) - 1)) (hl : s.heap.IsList l items) (hne : l ≠ it) (hn : items.size ≤ sizeLine) (hSi : S ≠ it) (hSl : S ≠ l)
    (hS : s.heap.get? S = some { cls := .type "list", data := .seq #[] })
    (hR : ∀ (h' : Heap) (tk : Nat) (acc : Array Value) (c' : Nat), (∀ b o, b ≠ S → b ≠ it → s.heap.get? b = some o → h'.get? b = some o) → h'.get? S = some { cls := .type "list", dict := none, data := .seq acc c', slots := #[] } → ItemsOf (fun i v => items[items.size - 1 - i]? = some v) acc items.size → R (.ok (.ret .none)) { s with heap := h', toks := tk }) :
    wpAny (model prog w) A.in1 (Builtin.«list.__init__» ⟨[.ref S, .ref it], []⟩)
      (fun fin s' => match fin with | .done f => R (.ok f) s' | .again c' => c'.quiet = true ∧ codeAny (model prog w) A c' R s') (fun e s' => R (.error e) s') s := by
  show wpAny _ _ (do let old ← Builtin.List.listItems (.ref S); Builtin.List.listUpdate (.ref S) (fun _ => #[]); letGo old.toList.reverse; Builtin.List.listExtendWith (.ref S) (.ref it) .none) _ _ s
  refine wpAny_bind ?_
  unfold Builtin.List.listItems
  refine wpAny_bind (wpAny_seqItems hS rfl (wpAny_pure ?_))
  show wpAny _ _ (updateSeq S (fun _ => #[]) >>= fun _ => letGo (#[] : Array Value).toList.reverse >>= fun _ => Builtin.List.listExtendWith (.ref S) (.ref it) .none) _ _ s
  refine wpAny_bind (wpAny_updateSeq hS rfl ?_)
  have hS₂ := Heap.get?_update_self (Obj.mapSeq (fun _ => (#[] : Array Value))) hS rfl
  have oth : ∀ b o, b ≠ S → s.heap.get? b = some o → (s.heap.update S (Obj.mapSeq (fun _ => (#[] : Array Value)))).get? b = some o :=
    fun b o hb e => (Heap.get?_update_other _ _ (Ne.symm hb)).trans e
  refine wpAny_bind (wpAny_letGo ?_)
  refine extend_rev (s := { s with heap := s.heap.update S (Obj.mapSeq (fun _ => (#[] : Array Value))) }) hh (hit.at fun o e => oth it o (Ne.symm hSi) e) ?_ hne hn hSi hSl hS₂ fun h' tk acc c' hk hS' hacc => ?_
  · obtain ⟨o, ho, h2, h3⟩ := hl
    exact ⟨o, oth l o (Ne.symm hSl) ho, h2, h3⟩
  · exact hR h' tk acc c' (fun b o hb hb2 e => hk b o hb hb2 (oth b o hb e)) hS' hacc
theorem call_list_rev {it l : Addr} {items : Array Value} {Q : Value → Shared → Prop} (hh : A.handled = none) (hit : s.heap.IsRevIter it l ((items.size : Int) - 1)) (hl : s.heap.IsList l items) (hne : l ≠ it) (hn : items.size ≤ sizeLine)
    (hQ : ∀ (h' : Heap) (tk : Nat) (acc : Array Value) (c' : Nat), (∀ b o, b ≠ it → s.heap.get? b = some o → h'.get? b = some o) → h'.get? s.heap.objs.size = some { cls := .type "list", dict := none, data := .seq acc c', slots := #[] } → ItemsOf (fun i v => items[items.size - 1 - i]? = some v) acc items.size → Q (.ref s.heap.objs.size) { s with heap := h', toks := tk }) :
    wpAny (model prog w) A (call (.type "list") [.ref it]) Q E s := by
  refine callType_codes (Q₁ := fun obj s₁ => obj = .ref s.heap.objs.size ∧ s₁ = { s with heap := s.heap.push { cls := .type "list", data := .seq #[] } }) F.called_list (F.typeCall_list_1 _) F.entry_list_init
    (code_list_new _ ⟨rfl, rfl⟩) fun obj s₁ h₁ => ?_
  obtain ⟨rfl, rfl⟩ := h₁
  obtain ⟨oi, hoi, _⟩ := id hit
  obtain ⟨ol, hol, _⟩ := id hl
  have hSi : s.heap.objs.size ≠ it := Nat.ne_of_gt (Heap.lt_size hoi)
  have hSl : s.heap.objs.size ≠ l := Nat.ne_of_gt (Heap.lt_size hol)
  have hS : (s.heap.push { cls := .type "list", data := .seq #[] }).get? s.heap.objs.size = some { cls := .type "list", data := .seq #[] } := Heap.get?_push_size _ rfl
  refine ⟨⟨_, hS, rfl⟩, F.args_list_init_2 _ _, list_init_rev (A := A.in1) (s := { s with heap := s.heap.push { cls := .type "list", data := .seq #[] } }) hh (hit.at fun o e => Heap.get?_push_of_some _ e) (hl.push _) hne hn hSi hSl hS fun h' tk acc c' hk hS' hacc => ?_⟩
  exact ⟨rfl, hQ h' tk acc c' (fun b o hb e => hk b o (Nat.ne_of_lt (Heap.lt_size e)) hb (Heap.get?_push_of_some _ e)) hS' hacc⟩
end
section
variable {X : Cx}
def tLstRev (K : PySem.W.Frag) (te : TE) : TE := fun σ H Q => te σ H fun v H1 => ∃ (a : Addr) (xs : List V), v = .ref a ∧ SqL K H1 a xs ∧ ∀ q, H1 q = none → Q (.ref q) (upd H1 q (.lst xs.reverse))
theorem pe_lstRev {e : Expr} {te : TE} {p p2 pos pos2 : Pos} (hc : X.calm = true) (hg : Gl X "list") (hm : X.mg "list" = none) (hg2 : Gl X "reversed") (hm2 : X.mg "reversed" = none) (he : PE X e te)
    (hs : starEach [e] X.env = (false, eval e X.env) :: starEach [] X.env := by rfl)
    (hs2 : starEach [.Call (.Name "reversed" p2) [e] [] pos2] X.env = (false, eval (.Call (.Name "reversed" p2) [e] [] pos2) X.env) :: starEach [] X.env := by rfl) :
    PE X (.Call (.Name "list" p) [.Call (.Name "reversed" p2) [e] [] pos2] [] pos) (tLstRev X.K te) := by
  refine ⟨fun pins s σ H Q I h => ?_⟩
  refine Call_ (ld_blt I hg hm boot_list (PyProof.Rows.callWith_type1 (args_cons (Call_ (ld_blt I hg2 hm2 PyProof.Rows.boot_reversed (PyProof.Rows.callWith_type1 (args_cons (thn (he.run pins s σ H _ I h) fun u s1 ⟨v, H1, I1, r1, q1⟩ => args_nil ?_) hs) hs rfl))) hs2) hs2 rfl))
  obtain ⟨a, xs, ev, hq, q⟩ := q1
  subst ev
  obtain rfl : u = Value.ref a := r1
  obtain ⟨its, rv, p', hz⟩ := I1.list hq
  refine call_reversed_list p'.isList (args_nil ?_)
  have hl := p'.isList
  obtain ⟨ol, hol, _⟩ := id hl
  have hne : a ≠ s1.heap.objs.size := Nat.ne_of_lt (Heap.lt_size hol)
  have hn : its.toArray.size ≤ sizeLine := by rw [List.size_toArray, ← rv.length]; exact hz
  have hle : s1.heap.objs.size ≤ (s1.heap.push (revObj a ((its.toArray.size : Int) - 1))).objs.size := by simp [Heap.push]
  refine call_list_rev (s := { s1 with heap := s1.heap.push (revObj a ((its.toArray.size : Int) - 1)) }) (I1.ok.hd hc) ⟨_, Heap.get?_push_size _ rfl, rfl, rfl⟩ (hl.push _) hne hn fun h' tk acc c' hk hS hi => ?_
  refine ⟨.ref (s1.heap.push (revObj a ((its.toArray.size : Int) - 1))).objs.size, upd H1 (s1.heap.push (revObj a ((its.toArray.size : Int) - 1))).objs.size (.lst xs.reverse), I1.laid (t' := tk) (fun b o e => hk b o (Nat.ne_of_lt (Heap.lt_size e)) (Heap.get?_push_of_some _ e)) hle (show ObjOk X.prog X.w _ _ _ (.lst xs.reverse) from ⟨by rw [List.length_reverse]; exact hz, acc.toList, c', vals_rev rv hi, ?_⟩), rfl, q _ (I1.hok.fresh hle)⟩
  rw [Array.toArray_toList]
  exact hS
end
end RT
namespace Lw
open PySem PySem.Spec PyProof.Rows L2
section
variable {P : Par} {X : Cx} {e : Expr} {te : WTE} {p p2 pos pos2 : Pos}
def wLstRev (to : WTE) : WTE := fun σ G Q E => to σ G (fun x G1 => ∃ xs, lstOf G1 x = some xs ∧ ∀ p, G1 p = none → Q (.ref p) (updG G1 p (.lst xs.reverse))) E
theorem je_lstRev (hc : X.calm = true) (hK : X.K = P.K) (hg : Gl X "list") (hm : X.mg "list" = none) (hg2 : Gl X "reversed") (hm2 : X.mg "reversed" = none) (he : JE P X e te)
    (hs : starEach [e] X.env = (false, eval e X.env) :: starEach [] X.env := by rfl)
    (hs2 : starEach [.Call (.Name "reversed" p2) [e] [] pos2] X.env = (false, eval (.Call (.Name "reversed" p2) [e] [] pos2) X.env) :: starEach [] X.env := by rfl) :
    JE P X (.Call (.Name "list" p) [.Call (.Name "reversed" p2) [e] [] pos2] [] pos) (wLstRev te) := fun Ga Ha Ew tk =>
  PE.imp (RT.pe_lstRev hc hg hm hg2 hm2 (he Ga Ha Ew tk) hs hs2) fun σ H Q ⟨σw, G, Qw, fa, rs, rp, ht, hq⟩ => ⟨σw, G, _, fa, rs, rp, ht, fun w1 G1 v1 H1 f1 r1 p1 ⟨xs, e1, q⟩ => by
    obtain ⟨a, vs, rfl, ha, ra⟩ := lstOf_rel p1 r1 e1
    refine ⟨a, vs, rfl, .inl (.inl ha), fun p hp => ?_⟩
    exact hq _ _ _ _ (f1.trans (.new hp)) (.ref p) (p1.put (u := .lst xs.reverse) (.new hp) ⟨_, upd_same, (ra.reverse).fw p1 (.new hp)⟩) (q p (p1.free hp))⟩
end
end Lw
/-! W22: list(range(a, b)). -/
namespace Lw
open PySem PySem.Spec PyProof.Rows L2
section
variable {P : Par} {X : Cx} {a b : Expr} {ta tb : WTE} {p p2 pos pos2 : Pos}
def wLstRg2 (ta tb : WTE) : WTE := fun σ G Q E => ta σ G (fun x G1 => tb σ G1 (fun y G2 => ∃ i j : Int, x = .int i ∧ y = .int j ∧ 0 ≤ i ∧ i ≤ 16777216 ∧ 0 ≤ j ∧ j ≤ 16777216 ∧ ∀ q, G2 q = none → Q (.ref q) (updG G2 q (.lst (rngW i (j - i).toNat)))) E) E
theorem je_listRg2 (hc : X.calm = true) (hl : Gl X "list") (ml : X.mg "list" = none) (hr : Gl X "range") (mr : X.mg "range" = none) (ha : JE P X a ta) (hb : JE P X b tb)
    (na : starEach [a, b] X.env = (false, eval a X.env) :: starEach [b] X.env := by rfl)
    (nb : starEach [b] X.env = (false, eval b X.env) :: starEach [] X.env := by rfl)
    (hp : (backTo pos (starEach [b] X.env)).any (·.1) = false := by rfl)
    (na2 : starEach [.Call (.Name "range" p) [a, b] [] pos] X.env = (false, eval (.Call (.Name "range" p) [a, b] [] pos) X.env) :: starEach [] X.env := by rfl) :
    JE P X (.Call (.Name "list" p2) [.Call (.Name "range" p) [a, b] [] pos] [] pos2) (wLstRg2 ta tb) := fun Ga Ha Ew tk =>
  PE.imp (pe_listRg hc hl ml (prg_2 hr mr (ha Ga Ha Ew tk) (hb Ga Ha Ew tk) na nb hp) na2) fun σ H Q ⟨σw, G, Qw, fa, rs, rp, ht, hq⟩ => ⟨σw, G, _, fa, rs, rp, ht, fun w1 G1 v1 H1 f1 r1 p1 h1 => ⟨σw, G1, _, fa.trans f1, rs.fw rp f1, p1, h1, fun w2 G2 v2 H2 f2 r2 p2 ⟨i, j, e1, e2, i0, i1, j0, j1, q⟩ => by
    subst e1; subst e2
    cases r1; cases r2
    refine ⟨i, j, rfl, rfl, RgOk.of_le i0 j1 i1 j0, fun q1 hq1 => ?_⟩
    exact hq _ _ _ _ (f1.trans (f2.trans (.new hq1))) (.ref q1) (p2.put (u := .lst (rngW i (j - i).toNat)) (.new hq1) ⟨_, upd_same, rel_rng⟩) (q q1 (p2.free hq1))⟩⟩
/-! a list, so many times -/
theorem RelWs.rep {G : WHp} {H : Hp} {ws : List W} {vs : List V} (r : RelWs P G H ws vs) : ∀ n : Nat, RelWs P G H (List.replicate n ws).flatten (List.replicate n vs).flatten
  | 0 => .nil
  | n + 1 => by
    rw [List.replicate_succ, List.replicate_succ, List.flatten_cons, List.flatten_cons]
    exact r.append (RelWs.rep r n)
def oRepM : WR2 := fun x y G Q => ∃ xs, lstOf G x = some xs ∧ ∃ k : Int, y = .int k ∧ -(2 ^ 63) ≤ k ∧ k < 2 ^ 63 ∧ xs.length * k.toNat ≤ big ∧ ∀ q, G q = none → Q (.ref q) (updG G q (.lst (List.replicate k.toNat xs).flatten))
theorem ow_repM : OpW P X (binaryOp .Mult) oRepM := by
  refine OpR.imp op_rep fun x y H Q ⟨wx, wy, G, Qw, rx, ry, rp, ⟨xs, ex, k, ey, h1, h2, hl, q⟩, hq⟩ => ?_
  subst ey
  cases ry
  obtain ⟨a, vs, rfl, ha, ra⟩ := lstOf_rel rp rx ex
  refine ⟨a, k, vs, rfl, rfl, ha, h1, h2, by rw [← ra.length]; exact hl, fun p hp => ?_⟩
  exact hq _ _ _ _ (.new hp) (.ref p) (rp.put (u := .lst (List.replicate k.toNat xs).flatten) (.new hp) ⟨_, upd_same, (ra.rep _).fw rp (.new hp)⟩) (q p (rp.free hp))
end
end Lw
/-! W23: d.pop(k). -/
namespace Lw
open PySem PySem.Spec PyProof.Rows L2
section
variable {P : Par} {X : Cx} {o e : Expr} {to te : WTE} {apos cpos : Pos}
/-- d.pop(k), k in d -/
def wDpop1 (to ti : WTE) : WTE := fun σ G Q E => to σ G (fun x G1 => (dOf G1 x).isSome = true ∧ ti σ G1 (fun y G2 => ∃ p kvs k v, x = .ref p ∧ G2 p = some (.dct kvs) ∧ kW y = some k ∧ valW kvs k = some v ∧ Q v (updG G2 p (.dct (dropKW kvs k)))) E) E
theorem je_dpop1 (ho : JE P X o to) (he : JE P X e te) (m : M1 X o "pop" apos e cpos := by exact ⟨rfl, rfl, rfl, rfl⟩) : JE P X (.Call (.Attribute o "pop" apos) [e] [] cpos) (wDpop1 to te) := fun Ga Ha Ew tk =>
  PE.imp (pe_dpop1 (ho Ga Ha Ew tk) (he Ga Ha Ew tk) m) fun σ H Q ⟨σw, G, Qw, fa, rs, rp, ht, hq⟩ => ⟨σw, G, _, fa, rs, rp, ht, fun w1 G1 v1 H1 f1 r1 p1 ⟨hd, h1⟩ => by
    obtain ⟨a, rfl, hI⟩ := isD_rel p1 r1 hd
    refine ⟨a, rfl, hI, σw, G1, _, fa.trans f1, rs.fw rp f1, p1, h1, fun w2 G2 v2 H2 f2 r2 p2 ⟨p, kvs, k, w, e0, e1, e2, e3, q⟩ => ?_⟩
    subst e0
    have ea : p = a := by cases r1; rfl
    subst ea
    have ev := kW_rel r2 e2
    subst ev
    obtain ⟨kv, h, rk⟩ := p2 p _ e1
    have f4 : Fw G2 H2 (updG G2 p (.dct (dropKW kvs k))) (upd H2 p (.dK (dropK kv (kK k)))) := .put e1
    have p4 := p2.put (u := .dct (dropKW kvs k)) f4 ⟨_, upd_same, (rk.drop (k := k)).fw p2 f4⟩
    rcases rk.val k with ⟨z, _⟩ | ⟨x, y, h3, h4, h5⟩
    · rw [e3] at z; cases z
    · rw [e3] at h3
      cases h3
      exact ⟨kv, kK k, y, h, rfl, h4, hq _ _ _ _ (f1.trans (f2.trans f4)) (h5.fw p2 f4) p4 q⟩⟩
end
end Lw
/-! W24: x.bit_length(); the lowest bit. -/
namespace Lw
open PySem PySem.Spec PyProof.Rows L2
section
variable {P : Par} {X : Cx} {o : Expr} {to : WTE} {apos pos : Pos}
def wBits (to : WTE) : WTE := fun σ G Q E => to σ G (fun x G1 => ∃ i : Int, x = .int i ∧ Q (.int (Builtin.Int.intBits i : Nat)) G1) E
theorem je_bits (ho : JE P X o to) (hbase : attributeBase o "bit_length" X.env (eval o X.env) = eval o X.env := by rfl) (hline : (apos.endLine == pos.line) = true := by rfl) : JE P X (.Call (.Attribute o "bit_length" apos) [] [] pos) (wBits to) := fun Ga Ha Ew tk =>
  PE.imp (pe_bits (ho Ga Ha Ew tk) hbase hline) fun σ H Q ⟨σw, G, Qw, fa, rs, rp, ht, hq⟩ => ⟨σw, G, _, fa, rs, rp, ht, fun w1 G1 v1 H1 f1 r1 p1 ⟨i, e, q⟩ => by
    subst e
    cases r1
    exact ⟨i, rfl, hq _ G1 _ H1 f1 (.int _) p1 q⟩⟩
end
/-! xs.count(x), flat items -/
section
variable {P : Par} {X : Cx}
theorem count_vals {y : V} : ∀ {ys : List V} {us : List Value}, Vals ys us → ys.all flatV = true → us.countP (eqU y) = ys.countP fun z => eqV z y
  | _, _, .nil, _ => rfl
  | z :: zs, u :: us, .cons r t, f => by
    rw [List.all_cons, Bool.and_eq_true] at f
    rw [List.countP_cons, List.countP_cons, count_vals t f.2, eqU_of r f.1]
def rCountL (K : PySem.W.Frag) : V → List V → Hp → VK → Prop := fun x xs H Q => ∃ (a : Addr) (ys : List V) (y : V), x = V.ref a ∧ xs = [y] ∧ SqL K H a ys ∧ flatV y = true ∧ ys.all flatV = true ∧ Q (.int (ys.countP fun z => eqV z y : Nat)) H
theorem mt_countL : MtR X "list.count" (rCountL X.K) := by
  intro pins s σ H x xs v us Q I rx rxs h
  obtain ⟨a, ys, y, rfl, rfl, hs, fy, fys, q⟩ := h
  cases rx
  cases rxs with
  | cons ry rt =>
    rename_i uy ut
    cases rt
    obtain ⟨its, rv, ⟨⟨cls, dd, data, sl⟩, n, ho, hc, hdn, hd⟩, hlen⟩ := I.list hs
    simp only at hc hd
    subst hc hd
    refine call_meets PySem.F.slot_list_count ⟨_, ho, rfl⟩ PySem.F.entry_list_count (PySem.F.args_list_count_2 _ _)
      (SeqAt.list_countAt a its.toArray n dd sl uy (eqU y)) ⟨ho, fun u' hu' => mem_eqAt ry fy rv fys u' (by simpa using hu'), ?_⟩
    rw [← count_vals rv fys] at q
    exact ⟨.int (its.countP (eqU y) : Nat), H, I.tok _, ⟨_, rfl⟩, q⟩
theorem count_rel {G : WHp} {H : Hp} {w : W} {v : V} (rv : RelW P G H w v) (f : flW w = true) : ∀ {ws : List W} {vs : List V}, RelWs P G H ws vs → ws.all flW = true → (vs.countP fun z => eqV z v) = ws.countP fun z => eqFl z w
  | _, _, .nil, _ => rfl
  | _, _, .cons a b as bs r rs, h => by
    rw [List.all_cons, Bool.and_eq_true] at h
    rw [List.countP_cons, List.countP_cons, count_rel rv f rs h.2, eqFl_rel r rv h.1 f]
def mCount : WRm := fun x ws G Q => ∃ ys y, ws = [y] ∧ sqOf G x = some ys ∧ flW y = true ∧ ys.all flW = true ∧ Q (.int (ys.countP fun z => eqFl z y : Nat)) G
theorem mw_count (hK : X.K = P.K) : MtW P X "list.count" mCount := MtR.imp mt_countL fun x xs H Q ⟨wx, ws, G, Qw, rx, r, rp, ⟨ys, y, e2, e, fy, fys, q⟩, hq⟩ => by
  subst e2
  obtain ⟨v, rfl, rv⟩ := r.one
  obtain ⟨a, vs, rfl, ha, ra⟩ := sqOf_rel rp rx e
  refine ⟨a, vs, v, rfl, rfl, by rw [hK]; exact ha, flW_rel rv fy, all_flat ra fys, emb_end hq rp (.int _) ?_⟩
  rw [count_rel rv fy ra fys]
  exact q
end
end Lw
/-! W25: list(d.values()). -/
namespace LiV
open PySem PySem.Spec PyProof.Rows L2
section
variable {X : Cx} {e : Expr} {te : TE} {p apos cpos pos : Pos}
def tListVals (te : TE) : TE := fun σ H Q => te σ H fun x H1 => ∃ d kvs, x = .ref d ∧ H1 d = some (.dK kvs) ∧ ∀ q, H1 q = none → Q (.ref q) (upd H1 q (.lst (kvs.map (·.2))))
theorem pe_listVals (hc : X.calm = true) (he : PE X e te) (hg : Gl X "list") (hm : X.mg "list" = none) (hv : bootBuiltins "list" = some (.type "list")) (hbase : attributeBase e "values" X.env (eval e X.env) = eval e X.env := by rfl) (hline : (apos.endLine == cpos.line) = true := by rfl)
    (hs : starEach [.Call (.Attribute e "values" apos) [] [] cpos] X.env = (false, eval (.Call (.Attribute e "values" apos) [] [] cpos) X.env) :: starEach [] X.env := by rfl) :
    PE X (.Call (.Name "list" p) [.Call (.Attribute e "values" apos) [] [] cpos] [] pos) (tListVals te) := by
  refine ⟨fun pins s σ H Q I hq => ?_⟩
  refine wpAny_Call_Name_kw (ld_blt I hg hm hv ?_)
  refine PyProof.Rows.callWith_type1 ?_ hs rfl
  rw [hs]
  show wpAny _ _ (spliced ((false, eval (.Call (.Attribute e "values" apos) [] [] cpos) X.env) :: backTo pos (starEach [] X.env))) _ _ s
  refine Calls.spliced_cons ?_
  refine wpAny_Call_method (T := "dict") (id := "dict.values") hbase rfl hline F.plainAttrs_dict F.slot_dict_values F.type_dict_values (thn (he.run pins s σ H _ I hq) fun u s1 ⟨x, H1, I1, rx, d, kvs, ex, hd, q⟩ => ?_)
  subst ex
  obtain rfl : u = Value.ref d := rx
  obtain ⟨hz, hs0, vs, kv, hdo⟩ := I1.hok d _ hd
  obtain ⟨ep, hat⟩ := hdo.dictAt
  have lk : kvs.length = vs.length := Paired.length kv
  have I2 : Inv X pins σ H1 { s1 with heap := s1.heap.push { cls := .type "dict_values", data := .fields #[.ref d] } } := I1.kept (t' := s1.toks) fun b ob q => Heap.get?_push_of_some _ q
  refine ⟨hdo.typeIs, hdo.mapOf.noDict, ?_⟩
  show wpAny _ _ (callWith cpos (.builtin "dict.values") [.ref d] [] []) _ X.xe s1
  refine method_meetsIn F.slot_dict_values F.entry_dict_values rfl (PySem.evalArgs_none ⟨rfl, hdo.typeIs, F.args_dict_values_1 _, _, meets_dict_values (mixKind X.prog X.w) d hs0, ⟨vs, hdo⟩, ?_⟩)
  refine Calls.spliced_nil ?_
  refine PySem.W.kdl_call (s := { s1 with heap := s1.heap.push { cls := .type "dict_values", data := .fields #[.ref d] } }) (PySem.W.kdl_values (knd := mixKind X.prog X.w) (r := s1.heap.objs.size) (d := d) (kvs := vs) (ep := ep)) (I1.ok.hd hc) ⟨⟨_, Heap.get?_push_size _ rfl, rfl, rfl⟩, hat.push _⟩ (by omega) fun h' tk acc' c' hkeep hS hacc => ?_
  refine ⟨.ref _, upd H1 _ (.lst (kvs.map (·.2))), I2.laid (t' := tk) hkeep (Nat.le_refl _) (show ObjOk X.prog X.w _ _ _ (.lst (kvs.map (·.2))) from ⟨?_, acc'.toList, c', ?_, ?_⟩), rfl, q _ (I2.hok.fresh (Nat.le_refl _))⟩
  · rw [List.length_map]; omega
  · have el : acc'.toList.length = acc'.size := by simp
    refine vals_of_at (by rw [List.length_map, el, hacc.1, lk]) fun j x w h1 h2 => ?_
    obtain ⟨k, hk⟩ := hacc.2 j w (by rw [← Array.getElem?_toList]; exact h2)
    rw [List.getElem?_map, Option.map_eq_some_iff] at h1
    obtain ⟨pk, hpk, rfl⟩ := h1
    obtain ⟨qv, g1, g2, g3⟩ := LiI.paired_get kv hpk
    rw [hk] at g1
    cases g1
    exact g3
  · rw [Array.toArray_toList]; exact hS
end
end LiV
namespace Lw
open PySem PySem.Spec PyProof.Rows L2
section
variable {P : Par} {X : Cx} {e : Expr} {to : WTE} {p apos cpos pos : Pos}
def wLstVals (to : WTE) : WTE := fun σ G Q E => to σ G (fun x G1 => ∃ kvs, dcL G1 x = some kvs ∧ ∀ p, G1 p = none → Q (.ref p) (updG G1 p (.lst (kvs.map (·.2))))) E
theorem RelKs.valsW {G : WHp} {H : Hp} : ∀ {kvs : List (KW × W)} {kv : List (Key × V)}, RelKs P G H kvs kv → RelWs P G H (kvs.map (·.2)) (kv.map (·.2))
  | _, _, .nil => .nil
  | _, _, .cons _ _ _ _ _ r rs => .cons _ _ _ _ r (RelKs.valsW rs)
theorem je_listVals (hc : X.calm = true) (hg : Gl X "list") (hm : X.mg "list" = none) (ho : JE P X e to) (hv : bootBuiltins "list" = some (.type "list") := by rfl) (hbase : attributeBase e "values" X.env (eval e X.env) = eval e X.env := by rfl) (hline : (apos.endLine == cpos.line) = true := by rfl)
    (hs : starEach [.Call (.Attribute e "values" apos) [] [] cpos] X.env = (false, eval (.Call (.Attribute e "values" apos) [] [] cpos) X.env) :: starEach [] X.env := by rfl) :
    JE P X (.Call (.Name "list" p) [.Call (.Attribute e "values" apos) [] [] cpos] [] pos) (wLstVals to) := fun Ga Ha Ew tk =>
  PE.imp (LiV.pe_listVals hc (ho Ga Ha Ew tk) hg hm hv hbase hline hs) fun σ H Q ⟨σw, G, Qw, fa, rs, rp, ht, hq⟩ => ⟨σw, G, _, fa, rs, rp, ht, fun w1 G1 v1 H1 f1 r1 p1 ⟨kvs, e1, q⟩ => by
    obtain ⟨a, kv, rfl, ha, ra⟩ := dcL_rel p1 r1 e1
    refine ⟨a, kv, rfl, ha, fun q' hq' => ?_⟩
    exact hq _ _ _ _ (f1.trans (.new hq')) (.ref q') (p1.put (u := .lst (kvs.map (·.2))) (.new hq') ⟨_, upd_same, (ra.valsW).fw p1 (.new hq')⟩) (q q' (p1.free hq'))⟩
end
end Lw
/-! W26: dicts whose values are whole numbers, compared. -/
namespace Lw
open PySem PySem.Spec PyProof.Rows L2
section
variable {P : Par} {X : Cx} {G : WHp} {H : Hp} {o e f value : Expr} {to te tf : WTE} {p pos pos' apos cpos : Pos}
def oNeDI : WR2 := fun x y G Q => ∃ (ks : List (KW × W)), ks.length ≤ 100 ∧ dcL G x = some ks ∧ dcL G y = some ks ∧ (ks.map (·.1)).Nodup ∧ (∀ p ∈ ks, ∃ s, p.2 = W.int s) ∧ Q (.bl false) G
theorem RelKs.intAt : ∀ {ks : List (KW × W)} {kv lv : List (Key × V)}, RelKs P G H ks kv → RelKs P G H ks lv → (∀ p ∈ ks, ∃ s, p.2 = W.int s) → kv = lv
  | _, _, _, .nil, .nil, _ => rfl
  | _, _, _, .cons k w v ws vs h r, .cons _ _ v2 _ vs2 h2 r2, hs => by
    obtain ⟨s, e⟩ := hs (k, w) List.mem_cons_self
    have e : w = .int s := e
    subst e
    cases h
    cases h2
    rw [RelKs.intAt r r2 fun p hp => hs p (List.mem_cons_of_mem _ hp)]
theorem valV_ndI : ∀ {ks : List (KW × W)} {kv : List (Key × V)}, RelKs P G H ks kv → (ks.map (·.1)).Nodup → (∀ p ∈ ks, ∃ s, p.2 = W.int s) → ∀ p ∈ kv, valV kv p.1 = some p.2 ∧ flatB p.2 = true
  | _, _, .nil, _, _ => by simp
  | _, _, .cons k w v ws vs h r, hn, hs => by
    obtain ⟨s, e⟩ := hs (k, w) List.mem_cons_self
    have e : w = .int s := e
    subst e
    cases h
    intro p hp
    rw [List.map_cons, List.nodup_cons] at hn
    have ih := valV_ndI r hn.2 fun p hp => hs p (List.mem_cons_of_mem _ hp)
    have mem : ∀ {ws : List (KW × W)} {vs : List (Key × V)}, RelKs P G H ws vs → ∀ p ∈ vs, ∃ l, p.1 = kK l ∧ l ∈ ws.map (·.1) := by
      intro ws vs r
      induction vs generalizing ws with
      | nil => intro p hp; cases hp
      | cons a t ih =>
        cases r with
        | cons k2 w2 v2 ws2 vs2 h2 r2 =>
          intro p hp
          rcases List.mem_cons.mp hp with rfl | hp
          · exact ⟨k2, rfl, by simp⟩
          · obtain ⟨l, h3, h4⟩ := ih r2 p hp
            exact ⟨l, h3, by simp [h4]⟩
    rcases List.mem_cons.mp hp with rfl | hp
    · exact ⟨by simp [valV], rfl⟩
    · obtain ⟨l, h3, h4⟩ := mem r p hp
      have hne : ¬ kK k = p.1 := fun z => by
        rw [h3] at z
        have := kK_inj z
        subst this
        exact hn.1 h4
      refine ⟨?_, (ih p hp).2⟩
      have := (ih p hp).1
      unfold valV at this ⊢
      rw [List.find?_cons_of_neg (by simpa using hne)]
      exact this
theorem ow_neDI (hu : X.A.units < cLine) : OpW P X (compareOp .NotEq) oNeDI := OpR.imp (op_ne_dictA hu) fun x y H Q ⟨wx, wy, G, Qw, rx, ry, rp, ⟨ks, hl, e1, e2, hn, hs, q⟩, hq⟩ => by
  obtain ⟨a, kv, rfl, h1, r1⟩ := dcL_rel rp rx e1
  obtain ⟨b, lv, rfl, h2, r2⟩ := dcL_rel rp ry e2
  have e := r1.intAt r2 hs
  subst e
  exact ⟨a, b, kv, kv, rfl, rfl, h1, h2, rfl, valV_ndI r1 hn hs, emb_end hq rp (.bl _) q⟩
end
end Lw
/-! W27: range with a step. -/
namespace Lw
open PySem PySem.Spec PyProof.Rows L2
section
variable {P : Par} {X : Cx} {G : WHp} {H : Hp} {tg : Expr} {ta : WTA} {p pos : Pos}
def rngC (lo c : Int) (n : Nat) : List W := (List.range n).map fun i => .int (lo + (i : Nat) * c)
theorem rngC_at {lo c : Int} {n i : Nat} (h : i < n) : (rngC lo c n)[i]? = some (.int (lo + (i : Nat) * c)) := by
  unfold rngC
  rw [List.getElem?_map, List.getElem?_range h]
  rfl
theorem rngC_len {lo c : Int} {n : Nat} : (rngC lo c n).length = n := by simp [rngC]
def wRng3 (ta : WTA) : WTI := fun σ G R E => ta σ G (fun vs G1 => ∃ (i j c : Int) (n : Nat), vs = [.int i, .int j, .int c] ∧ RgC i j c n ∧ R (rngC i c n) (fun _ => True) G1) E
theorem itc_ok {lo c : Int} {n : Nat} {G1 : WHp} {H1 : Hp} {ok : WHp → Prop} :
    (∀ i G2 H2, Fw G1 H1 G2 H2 → Rep P G2 H2 → ok G2 → (rngC lo c n).length ≤ i → (Itc lo c n).stop i H2) ∧
    (∀ i G2 H2, Fw G1 H1 G2 H2 → Rep P G2 H2 → ok G2 → i < (rngC lo c n).length → (Itc lo c n).go i H2) ∧
    (∀ i G2 H2 x H3, Fw G1 H1 G2 H2 → Rep P G2 H2 → ok G2 → i < (rngC lo c n).length → (Itc lo c n).yld i H2 x H3 → ∃ w, (rngC lo c n)[i]? = some w ∧ Fw G2 H2 G2 H3 ∧ Rep P G2 H3 ∧ RelW P G2 H3 w x) := by
  refine ⟨fun i G2 H2 f rp ok hi => by rw [rngC_len] at hi; exact hi, fun i G2 H2 f rp ok hi => by rw [rngC_len] at hi; exact hi, fun i G2 H2 x H3 f rp ok hi y => ?_⟩
  obtain ⟨rfl, rfl⟩ := y
  rw [rngC_len] at hi
  exact ⟨_, rngC_at hi, .refl _ _, rp, .int _⟩
theorem ji_range3 {a b c : Expr} {q : Pos} (hg : Gl X "range") (hm : X.mg "range" = none) (ha : JA P X [a, b, c] ta)
    (hs : starEach [a, b, c] X.env = (false, eval a X.env) :: starEach [b, c] X.env := by rfl) (hpl : (backTo pos (starEach [b, c] X.env)).any (·.1) = false := by rfl) :
    JI P X tg (.Call (.Name "range" q) [a, b, c] [] pos) (wRng3 ta) := fun Ga Ha Ew tk =>
  PI.imp (pi_range3 hg hm (ha Ga Ha Ew tk) hs hpl) fun σ H R ⟨σw, G, Rw, fa, rs, rp, ht, hR⟩ => ⟨σw, G, _, fa, rs, rp, ht, fun ws G1 vs H1 f1 r1 p1 ⟨i, j, k, n, e, h1, q⟩ => by
    subst e
    cases r1 with
    | cons _ _ _ _ r rr =>
      cases rr with
      | cons _ _ _ _ r' rr =>
        cases rr with
        | cons _ _ _ _ r'' rr =>
          cases r; cases r'; cases r''; cases rr
          obtain ⟨k1, k2, k3⟩ := itc_ok (P := P) (lo := i) (c := k) (n := n) (G1 := G1) (H1 := H1) (ok := fun _ => True)
          exact ⟨i, j, k, n, rfl, h1, hR _ _ G1 H1 _ f1 p1 q k1 k2 k3⟩⟩
end
end Lw
/-! W28: isinstance of the exception that a suite holds. -/
namespace LiX
open PySem PySem.Spec PyProof.Rows L2
/-- what a class says, so that isinstance asks its instances rightly -/
structure IsC (K : PySem.W.Frag) (D : Addr) : Prop where
  hcl : (PySem.W.clsIn K D).isSome = true
  ga : PySem.W.findIn K (.ref D) "__getattribute__" = some (some (.builtin "BaseException.__getattribute__"))
  gg : PySem.W.findIn K (.ref D) "__getattr__" = some none
  ex : PySem.W.subIn K (.ref D) (.type "BaseException") = some true
  ha : PySem.W.findIn K (.ref D) "__class__" = some (some (.builtin "object.__class__"))
  hn : PySem.W.specialIn K (.builtin "object.__class__") "__get__" = some (some (.builtin "getset_descriptor.__get__"))
  ht : PySem.W.takesIn K (.builtin "object.__class__") = some true
  hm : PySem.W.mroIn K D (.type "object") = some true
def seenX (H : Hp) (d : Option Addr) : Prop := d = none ∨ ∃ dd fs, d = some dd ∧ H dd = some (.xd fs)
section
variable {X : Cx} {a D : Addr} {oe : Obj} {d : Option Addr} {pn : List (Addr × Obj)}
theorem inst_at {pins : List (Addr × Obj)} {σ : L2.St} {H : Hp} {s : Shared} (I : Inv (X.suite a ((a, oe) :: pn)) pins σ H s) (hz : Zc (.ref D) d oe) (hf : ∃ vs, oe.data = .fields vs) (hs : seenX H d) : ∃ od, PySem.W.InstAt s.heap a oe D od := by
  obtain ⟨ha, _⟩ := I.pin (a, oe) (List.mem_append_left _ List.mem_cons_self)
  obtain ⟨vs, hd⟩ := hf
  rcases hs with e | ⟨dd, fs, e, ea⟩
  · subst e
    exact ⟨none, ha, hz.1, by unfold PySem.W.notCls; rw [hd] <;> rfl, by rw [hz.2]; trivial⟩
  · subst e
    have hx : ObjOk X.prog X.w H s.heap dd (.xd fs) := I.hok dd _ ea
    obtain ⟨mA, hns, hr⟩ := hx
    obtain ⟨od, ho, hl⟩ := lookIn_ns hns
    exact ⟨some od, ha, hz.1, by unfold PySem.W.notCls; rw [hd] <;> rfl, by rw [hz.2]; exact ho⟩
def rIsX (K : PySem.W.Frag) (D a : Addr) (d : Option Addr) : List V → Hp → VK → Prop := fun xs H Q => ∃ (c : V) (cv : Value) (b : Bool), xs = [.ref a, c] ∧ ClsV c cv ∧ seenX H d ∧ PySem.W.kitOne K (.ref D) cv = some b ∧ Q (.bl b) H
theorem call_isX (C : IsC X.K D) (hz : Zc (.ref D) d oe) (hf : ∃ vs, oe.data = .fields vs) : CallR (X.suite a ((a, oe) :: pn)) (.builtin "isinstance") (rIsX X.K D a d) := by
  intro pins s σ H xs us Q I r h
  obtain ⟨c, cv, b, rfl, k, hs, e, q⟩ := h
  obtain ⟨u1, u2, rfl, r1, r2⟩ := vals2 r
  have ec := k.eq r2
  subst ec
  cases (show u1 = Value.ref a from r1)
  obtain ⟨od, J⟩ := inst_at I hz hf hs
  exact PySem.W.kia_one (PySem.W.kitx_exc C.hcl C.ga C.gg C.ex C.ha C.hn C.ht C.hm) I.kIn J e (fun z => nomatch z) fun tk => ⟨.bl b, H, I.tok tk, rfl, q⟩
def rIsXT (K : PySem.W.Frag) (D a : Addr) (d : Option Addr) : List V → Hp → VK → Prop := fun xs H Q => ∃ (tp : Addr) (cs : List V) (us : List Value) (b : Bool), xs = [.ref a, .ref tp] ∧ H tp = some (.tup cs) ∧ Paired ClsV cs us ∧ seenX H d ∧ PySem.W.kitAny K (.ref D) us = some b ∧ Q (.bl b) H
theorem call_isXT (C : IsC X.K D) (hz : Zc (.ref D) d oe) (hf : ∃ vs, oe.data = .fields vs) : CallR (X.suite a ((a, oe) :: pn)) (.builtin "isinstance") (rIsXT X.K D a d) := by
  intro pins s σ H xs us Q I r h
  obtain ⟨tp, cs, ws, b, rfl, hT, k, hs, e, q⟩ := h
  obtain ⟨u1, u2, rfl, r1, r2⟩ := vals2 r
  cases (show u1 = Value.ref a from r1)
  cases (show u2 = Value.ref tp from r2)
  obtain ⟨od, J⟩ := inst_at I hz hf hs
  obtain ⟨_, its, rv, o, h1, h2, n, h3⟩ := (show ObjOk X.prog X.w H s.heap tp (.tup cs) from I.hok tp _ hT)
  have e3 := ClsV.all k rv
  subst e3
  obtain ⟨oc, od', dt, sl⟩ := o
  simp only at h2 h3
  subst h2 h3
  exact PySem.W.kia_tup (PySem.W.kitx_exc C.hcl C.ga C.gg C.ex C.ha C.hn C.ht C.hm) I.kIn J h1 e (fun z => nomatch z) fun tk => ⟨.bl b, H, I.tok tk, rfl, q⟩
end
end LiX
namespace Lw
open PySem PySem.Spec PyProof.Rows L2 LiX
/-- whether a class's instances are a class's (99: ValueError) -/
def isTb (k c : Nat) : Bool := k == 0 || k == 99 || c == k
def wIsE (pres : List Nat) (c : Nat) (a : Addr) (d : Option Addr) (ks : List Nat) (te : WTE) : WTE := fun σ G Q E => c ∈ pres ∧ te σ G (fun w G1 => w = .ref a ∧ (d = none ∨ ∃ dd fs, d = some dd ∧ G1 dd = some (.xd fs)) ∧ Q (.bl (ks.any fun k => isTb k c)) G1) E
structure IsF (P : Par) (pres : List Nat) : Prop where
  cl : ∀ c ∈ pres, IsC P.K (P.ca c)
  ve : ∀ c ∈ pres, PySem.W.kitOne P.K (.ref (P.ca c)) (.type "ValueError") = some true
def IsK (P : Par) (pres : List Nat) (k : Nat) : Prop := k ≠ 99 ∧ ∀ c ∈ pres, PySem.W.kitOne P.K (.ref (P.ca c)) (.ref (P.ca k)) = some (isTb k c)
def tNames (P : Par) : List Nat → TA
  | [] => tNil
  | k :: r => tCons (tC (.ref (P.ca k))) (tNames P r)
section
variable {P : Par} {X : Cx} {a : Addr} {oe : Obj} {c k : Nat} {d : Option Addr} {pn : List (Addr × Obj)} {pres ks : List Nat} {e : Expr} {es : List Expr} {te : WTE} {x : Str} {p p2 pos tpos : Pos} {j : Nat}
theorem seenX_rel {G1 : WHp} {H1 : Hp} (rp : Rep P G1 H1) (h : d = none ∨ ∃ dd fs, d = some dd ∧ G1 dd = some (.xd fs)) : seenX H1 d := by
  rcases h with h | ⟨dd, fs, e, h⟩
  · exact .inl h
  · obtain ⟨fv, h2, _⟩ := rp dd _ h
    exact .inr ⟨dd, fv, e, h2⟩
theorem je_isx (F : IsF P pres) (hz : Zc (.ref (P.ca c)) d oe) (hff : ∃ vs, oe.data = .fields vs) (hK : X.K = P.K) (hg : Gl (X.suite a ((a, oe) :: pn)) "isinstance") (hm : X.mg "isinstance" = none) (hgx : Gl (X.suite a ((a, oe) :: pn)) x) (hx : X.mg x = some (.ref (P.ca k))) (T : IsK P pres k)
    (he : JE P (X.suite a ((a, oe) :: pn)) e te) (hd : (x == ("__debug__" : Str)) = false := by decide)
    (hs : starEach [e, .Name x p2] X.env = (false, eval e X.env) :: starEach [.Name x p2] X.env := by rfl) (hs2 : starEach [.Name x p2] X.env = (false, eval (.Name x p2) X.env) :: starEach [] X.env := by rfl) (hpl : (backTo pos (starEach [.Name x p2] X.env)).any (·.1) = false := by rfl) :
    JE P (X.suite a ((a, oe) :: pn)) (.Call (.Name "isinstance" p) [e, .Name x p2] [] pos) (wIsE pres c a d [k] te) := fun Ga Ha Ew tk => by
  refine ⟨fun pins s σ H Q I ⟨σw, G, Qw, fa, rs, rp, ⟨hp, hh⟩, hq⟩ => ?_⟩
  refine (pe_callB (X := X.suite a ((a, oe) :: pn)) (call_isX (X := X) (by rw [hK]; exact F.cl c hp) hz hff) hg hm (by rfl) (pa_cons (he Ga Ha Ew tk) (pa_cons (pe_glob (v := .ref (P.ca k)) hgx hx rfl hd) pa_nil hs2) hs) (by decide) (by decide) hs hpl).run pins s σ H Q I ?_
  refine ⟨σw, G, _, fa, rs, rp, hh, fun w G1 v H1 f1 r1 p1 ⟨e0, e1, q⟩ => ?_⟩
  subst e0
  cases r1
  refine ⟨_, _, isTb k c, rfl, .own _, seenX_rel p1 e1, by rw [hK]; exact T.2 c hp, ?_⟩
  have e2 : ([k].any fun k => isTb k c) = isTb k c := by simp
  rw [e2] at q
  exact hq _ G1 _ H1 f1 (.bl _) p1 q
theorem je_isxv (F : IsF P pres) (hz : Zc (.ref (P.ca c)) d oe) (hff : ∃ vs, oe.data = .fields vs) (hK : X.K = P.K) (hg : Gl (X.suite a ((a, oe) :: pn)) "isinstance") (hm : X.mg "isinstance" = none) (hgx : Gl (X.suite a ((a, oe) :: pn)) "ValueError") (hx : X.mg "ValueError" = none)
    (he : JE P (X.suite a ((a, oe) :: pn)) e te) 
    (hs : starEach [e, .Name "ValueError" p2] X.env = (false, eval e X.env) :: starEach [.Name "ValueError" p2] X.env := by rfl) (hs2 : starEach [.Name "ValueError" p2] X.env = (false, eval (.Name "ValueError" p2) X.env) :: starEach [] X.env := by rfl) (hpl : (backTo pos (starEach [.Name "ValueError" p2] X.env)).any (·.1) = false := by rfl) :
    JE P (X.suite a ((a, oe) :: pn)) (.Call (.Name "isinstance" p) [e, .Name "ValueError" p2] [] pos) (wIsE pres c a d [99] te) := fun Ga Ha Ew tk => by
  refine ⟨fun pins s σ H Q I ⟨σw, G, Qw, fa, rs, rp, ⟨hp, hh⟩, hq⟩ => ?_⟩
  refine (pe_callB (X := X.suite a ((a, oe) :: pn)) (call_isX (X := X) (by rw [hK]; exact F.cl c hp) hz hff) hg hm (by rfl) (pa_cons (he Ga Ha Ew tk) (pa_cons (pe_bltn (v := .ty "ValueError") hgx hx (by rfl) rfl) pa_nil hs2) hs) (by decide) (by decide) hs hpl).run pins s σ H Q I ?_
  refine ⟨σw, G, _, fa, rs, rp, hh, fun w G1 v H1 f1 r1 p1 ⟨e0, e1, q⟩ => ?_⟩
  subst e0
  cases r1
  exact ⟨_, _, true, rfl, .ty _, seenX_rel p1 e1, by rw [hK]; exact F.ve c hp, hq _ G1 _ H1 f1 (.bl _) p1 q⟩
theorem tNames_run (P : Par) : ∀ (ks : List Nat) (σ : L2.St) (H : Hp) (Q : List V → Hp → Prop), tNames P ks σ H Q = Q (ks.map fun k => V.ref (P.ca k)) H
  | [], _, _, _ => rfl
  | k :: r, σ, H, Q => by
    show tNames P r σ H (fun xs H2 => Q (V.ref (P.ca k) :: xs) H2) = _
    rw [tNames_run P r]; rfl
theorem kitAny_of (h : ∀ k ∈ ks, PySem.W.kitOne P.K (.ref (P.ca c)) (.ref (P.ca k)) = some (isTb k c)) : PySem.W.kitAny P.K (.ref (P.ca c)) (ks.map fun k => Value.ref (P.ca k)) = some (ks.any fun k => isTb k c) := by
  induction ks with
  | nil => rfl
  | cons k r ih =>
    have h1 := h k (by simp)
    have h2 := ih fun k hk => h k (by simp [hk])
    rw [List.map_cons, List.any_cons]
    unfold PySem.W.kitAny
    rw [h1]
    cases isTb k c with
    | true => rfl
    | false => rw [Bool.false_or]; exact h2
theorem paired_own (P : Par) : ∀ ks : List Nat, Paired ClsV (ks.map fun k => V.ref (P.ca k)) (ks.map fun k => Value.ref (P.ca k))
  | [] => .nil
  | k :: r => .cons (.own _) (paired_own P r)
theorem je_isxt {t0 : Expr} (F : IsF P pres) (hz : Zc (.ref (P.ca c)) d oe) (hff : ∃ vs, oe.data = .fields vs) (hK : X.K = P.K) (hg : Gl (X.suite a ((a, oe) :: pn)) "isinstance") (hm : X.mg "isinstance" = none) (hp' : PA (X.suite a ((a, oe) :: pn)) es (tNames P ks)) (T : ∀ k ∈ ks, IsK P pres k)
    (he : JE P (X.suite a ((a, oe) :: pn)) e te) (ht0 : t0 = .Tuple es j tpos := by rfl) (hl : ks.length ≤ 100 := by decide)
    (hs : starEach [e, t0] X.env = (false, eval e X.env) :: starEach [t0] X.env := by rfl) (hs2 : starEach [t0] X.env = (false, eval t0 X.env) :: starEach [] X.env := by rfl) (hpl : (backTo pos (starEach [t0] X.env)).any (·.1) = false := by rfl) :
    JE P (X.suite a ((a, oe) :: pn)) (.Call (.Name "isinstance" p) [e, t0] [] pos) (wIsE pres c a d ks te) := fun Ga Ha Ew tk => by
  subst ht0
  refine ⟨fun pins s σ H Q I ⟨σw, G, Qw, fa, rs, rp, ⟨hp, hh⟩, hq⟩ => ?_⟩
  refine (pe_callB (X := X.suite a ((a, oe) :: pn)) (call_isXT (X := X) (by rw [hK]; exact F.cl c hp) hz hff) hg hm (by rfl) (pa_cons (he Ga Ha Ew tk) (pa_cons (pe_tup hp') pa_nil hs2) hs) (by decide) (by decide) hs hpl).run pins s σ H Q I ?_
  refine ⟨σw, G, _, fa, rs, rp, hh, fun w G1 v H1 f1 r1 p1 ⟨e0, e1, q⟩ => ?_⟩
  subst e0
  cases r1
  show tNames P ks σ H1 _
  rw [tNames_run]
  refine ⟨by rw [List.length_map, sizeLine_eq]; omega, fun tp htp => ?_⟩
  have f2 : Fw G1 H1 G1 (upd H1 tp (.tup (ks.map fun k => V.ref (P.ca k)))) := .hid htp
  have p2 := p1.hid (o := .tup (ks.map fun k => V.ref (P.ca k))) htp
  exact ⟨tp, _, _, _, rfl, upd_same, paired_own P ks, seenX_rel p2 e1, by rw [hK]; exact kitAny_of fun k hk => (T k hk).2 c hp, hq _ G1 _ _ (f1.trans f2) (.bl _) p2 q⟩
end
end Lw
/-! W29: list(d.keys()). -/
namespace LiK
open PySem PySem.Spec PyProof.Rows L2
section
variable {X : Cx} {e : Expr} {te : TE} {p apos cpos pos : Pos}
def tListKeys (te : TE) : TE := fun σ H Q => te σ H fun x H1 => ∃ d kvs, x = .ref d ∧ H1 d = some (.dK kvs) ∧ ∀ q, H1 q = none → Q (.ref q) (upd H1 q (.lst (kvs.map fun kv => kV kv.1)))
theorem pe_listKeys (hc : X.calm = true) (he : PE X e te) (hg : Gl X "list") (hm : X.mg "list" = none) (hv : bootBuiltins "list" = some (.type "list")) (hbase : attributeBase e "keys" X.env (eval e X.env) = eval e X.env := by rfl) (hline : (apos.endLine == cpos.line) = true := by rfl)
    (hs : starEach [.Call (.Attribute e "keys" apos) [] [] cpos] X.env = (false, eval (.Call (.Attribute e "keys" apos) [] [] cpos) X.env) :: starEach [] X.env := by rfl) :
    PE X (.Call (.Name "list" p) [.Call (.Attribute e "keys" apos) [] [] cpos] [] pos) (tListKeys te) := by
  refine ⟨fun pins s σ H Q I hq => ?_⟩
  refine wpAny_Call_Name_kw (ld_blt I hg hm hv ?_)
  refine PyProof.Rows.callWith_type1 ?_ hs rfl
  rw [hs]
  show wpAny _ _ (spliced ((false, eval (.Call (.Attribute e "keys" apos) [] [] cpos) X.env) :: backTo pos (starEach [] X.env))) _ _ s
  refine Calls.spliced_cons ?_
  refine wpAny_Call_method (T := "dict") (id := "dict.keys") hbase rfl hline F.plainAttrs_dict F.slot_dict_keys F.type_dict_keys (thn (he.run pins s σ H _ I hq) fun u s1 ⟨x, H1, I1, rx, d, kvs, ex, hd, q⟩ => ?_)
  subst ex
  obtain rfl : u = Value.ref d := rx
  obtain ⟨hz, hs0, vs, kv, hdo⟩ := I1.hok d _ hd
  obtain ⟨ep, hat⟩ := hdo.dictAt
  have lk : kvs.length = vs.length := Paired.length kv
  have I2 : Inv X pins σ H1 { s1 with heap := s1.heap.push { cls := .type "dict_keys", data := .fields #[.ref d] } } := I1.kept (t' := s1.toks) fun b ob q => Heap.get?_push_of_some _ q
  refine ⟨hdo.typeIs, hdo.mapOf.noDict, ?_⟩
  show wpAny _ _ (callWith cpos (.builtin "dict.keys") [.ref d] [] []) _ X.xe s1
  refine method_meetsIn F.slot_dict_keys F.entry_dict_keys rfl (PySem.evalArgs_none ⟨rfl, hdo.typeIs, F.args_dict_keys_1 _, _, PySem.W.kdl_meets_keys (mixKind X.prog X.w) d hs0, ⟨vs, hdo⟩, ?_⟩)
  refine Calls.spliced_nil ?_
  refine PySem.W.kdl_call (s := { s1 with heap := s1.heap.push { cls := .type "dict_keys", data := .fields #[.ref d] } }) (PySem.W.kdl_keys (knd := mixKind X.prog X.w) (r := s1.heap.objs.size) (d := d) (kvs := vs) (ep := ep)) (I1.ok.hd hc) ⟨⟨_, Heap.get?_push_size _ rfl, rfl, rfl⟩, hat.push _⟩ (by omega) fun h' tk acc' c' hkeep hS hacc => ?_
  refine ⟨.ref _, upd H1 _ (.lst (kvs.map fun kv => kV kv.1)), I2.laid (t' := tk) hkeep (Nat.le_refl _) (show ObjOk X.prog X.w _ _ _ (.lst (kvs.map fun kv => kV kv.1)) from ⟨?_, acc'.toList, c', ?_, ?_⟩), rfl, q _ (I2.hok.fresh (Nat.le_refl _))⟩
  · rw [List.length_map]; omega
  · have el : acc'.toList.length = acc'.size := by simp
    have e1 : (kvs.map fun kv => kV kv.1) = vs.map fun p => kV p.1 := by
      have := KV.keys kv
      rw [show (kvs.map fun kv => kV kv.1) = (kvs.map (·.1)).map kV by rw [List.map_map]; rfl, this, List.map_map]; rfl
    rw [e1]
    refine keys_at (by rw [el, hacc.1]) fun j v h2 => ?_
    exact hacc.2 j v (by rw [← Array.getElem?_toList]; exact h2)
  · rw [Array.toArray_toList]; exact hS
end
end LiK
namespace Lw
open PySem PySem.Spec PyProof.Rows L2
section
variable {P : Par} {X : Cx} {e : Expr} {to : WTE} {p apos cpos pos : Pos}
def wLstKeys (to : WTE) : WTE := fun σ G Q E => to σ G (fun x G1 => ∃ kvs, dcL G1 x = some kvs ∧ ∀ p, G1 p = none → Q (.ref p) (updG G1 p (.lst (kvs.map fun kv => keyW kv.1)))) E
theorem je_listKeys (hc : X.calm = true) (hg : Gl X "list") (hm : X.mg "list" = none) (ho : JE P X e to) (hv : bootBuiltins "list" = some (.type "list") := by rfl) (hbase : attributeBase e "keys" X.env (eval e X.env) = eval e X.env := by rfl) (hline : (apos.endLine == cpos.line) = true := by rfl)
    (hs : starEach [.Call (.Attribute e "keys" apos) [] [] cpos] X.env = (false, eval (.Call (.Attribute e "keys" apos) [] [] cpos) X.env) :: starEach [] X.env := by rfl) :
    JE P X (.Call (.Name "list" p) [.Call (.Attribute e "keys" apos) [] [] cpos] [] pos) (wLstKeys to) := fun Ga Ha Ew tk =>
  PE.imp (LiK.pe_listKeys hc (ho Ga Ha Ew tk) hg hm hv hbase hline hs) fun σ H Q ⟨σw, G, Qw, fa, rs, rp, ht, hq⟩ => ⟨σw, G, _, fa, rs, rp, ht, fun w1 G1 v1 H1 f1 r1 p1 ⟨kvs, e1, q⟩ => by
    obtain ⟨a, kv, rfl, ha, ra⟩ := dcL_rel p1 r1 e1
    refine ⟨a, kv, rfl, ha, fun q' hq' => ?_⟩
    exact hq _ _ _ _ (f1.trans (.new hq')) (.ref q') (p1.put (u := .lst (kvs.map fun kv => keyW kv.1)) (.new hq') ⟨_, upd_same, (RelKs.keysW ra).fw p1 (.new hq')⟩) (q q' (p1.free hq'))⟩
end
end Lw
/-! W30: list(range(a, b, c)). -/
namespace LiK
open PySem PySem.Spec PyProof.Rows L2
section
variable {X : Cx} {a b c : Expr} {ta : TA} {p p2 pos pos2 : Pos}
def rgC3 (i c : Int) (n : Nat) : List V := (List.range n).map fun k => V.int (i + (k : Nat) * c)
theorem vals_rgC {i c : Int} {n : Nat} {acc : Array Value} (h : ItemsOf (fun k v => ∃ t, v = .int (i + k * c) t) acc n) : Vals (rgC3 i c n) acc.toList := by
  have e : acc.toList.length = n := by rw [Array.length_toList]; exact h.1
  unfold rgC3
  rw [← e]
  refine vals_of_get acc.toList _ fun j u hj => ?_
  obtain ⟨t, rfl⟩ := h.2 j u (by rw [← hj, Array.getElem?_toList])
  exact ⟨t, rfl⟩
def tLstRg3 (ta : TA) : TE := fun σ H Q => ta σ H fun vs H1 => ∃ (i j k : Int) (n : Nat), vs = [.int i, .int j, .int k] ∧ RgC i j k n ∧ n ≤ 2 ^ 24 ∧ ∀ q, H1 q = none → Q (.ref q) (upd H1 q (.lst (rgC3 i k n)))
theorem pe_listRg3 (hc : X.calm = true) (hl : Gl X "list") (ml : X.mg "list" = none) (hg : Gl X "range") (hm : X.mg "range" = none) (ha : PA X [a, b, c] ta)
    (hs : starEach [a, b, c] X.env = (false, eval a X.env) :: starEach [b, c] X.env := by rfl) (hpl : (backTo pos (starEach [b, c] X.env)).any (·.1) = false := by rfl)
    (na : starEach [.Call (.Name "range" p) [a, b, c] [] pos] X.env = (false, eval (.Call (.Name "range" p) [a, b, c] [] pos) X.env) :: starEach [] X.env := by rfl) :
    PE X (.Call (.Name "list" p2) [.Call (.Name "range" p) [a, b, c] [] pos] [] pos2) (tLstRg3 ta) := by
  refine ⟨fun pins s σ H Q I h => ?_⟩
  have inner : wpAny (model X.prog X.w) X.A (eval (.Call (.Name "range" p) [a, b, c] [] pos) X.env) (fun x s' => ∃ r i j k n t u v H', x = .ref r ∧ IsRange s'.heap r i j k t u v ∧ Inv X pins σ H' s' ∧ RgC i j k n ∧ n ≤ 2 ^ 24 ∧ ∀ q, H' q = none → Q (.ref q) (upd H' q (.lst (rgC3 i k n)))) X.xe s := by
    refine Call_ (ld_blt I hg hm boot_range (PyProof.Rows.callWith_type1 (thn (ha.run pos pins s σ H _ I h) fun us s1 ⟨vs, H1, I1, r1, q1⟩ => ?_) hs hpl))
    obtain ⟨i, j, k, n, e, ⟨c0, c1, c2, c3⟩, hn, q⟩ := q1
    subst e
    cases r1 with
    | cons r rr =>
      cases rr with
      | cons r' rr =>
        cases rr with
        | cons r'' rr =>
          cases rr
          obtain ⟨t, rfl⟩ := r
          obtain ⟨t', rfl⟩ := r'
          obtain ⟨t'', rfl⟩ := r''
          refine call_range_3 c0 ?_ (.inl (PyProof.noPylong_small c1))
          exact ⟨_, i, j, k, n, _, _, _, H1, rfl, IsRange.new .., I1.kept (t' := s1.toks) fun b o e => Heap.get?_push_of_some _ e, ⟨c0, c1, c2, c3⟩, hn, q⟩
  refine Call_ (ld_blt I hl ml boot_list (PyProof.Rows.callWith_type1 (args_cons (thn inner fun x s1 ⟨r, i, j, k, n, t, u, v, H1, ex, hr, I1, ok, hn, q⟩ => args_nil ?_) na) na))
  subst ex
  obtain ⟨c0, c1, c2, c3⟩ := ok
  refine call_list_range (n := n) (I1.ok.hd hc) hr c2 c3 hn fun h' tk acc c' hk e' hi => ?_
  refine ⟨.ref s1.heap.objs.size, upd H1 s1.heap.objs.size (.lst (rgC3 i k n)), I1.laid hk (Nat.le_refl _) (show ObjOk X.prog X.w _ _ _ (.lst (rgC3 i k n)) from ⟨?_, acc.toList, c', vals_rgC hi, ?_⟩), rfl, q _ (I1.hok.fresh (Nat.le_refl _))⟩
  · rw [rgC3, List.length_map, List.length_range, sizeLine_eq]; omega
  · rw [Array.toArray_toList]; exact e'
end
end LiK
namespace Lw
open PySem PySem.Spec PyProof.Rows L2
section
variable {P : Par} {X : Cx} {a b c : Expr} {ta : WTA} {p p2 pos pos2 : Pos}
def wLstRg3 (ta : WTA) : WTE := fun σ G Q E => ta σ G (fun vs G1 => ∃ (i j k : Int) (n : Nat), vs = [.int i, .int j, .int k] ∧ RgC i j k n ∧ n ≤ 2 ^ 24 ∧ ∀ q, G1 q = none → Q (.ref q) (updG G1 q (.lst (rngC i k n)))) E
theorem rel_rngC {G : WHp} {H : Hp} {i k : Int} {n : Nat} : RelWs P G H (rngC i k n) (LiK.rgC3 i k n) := by
  unfold rngC LiK.rgC3
  induction List.range n with
  | nil => exact .nil
  | cons x r ih => exact .cons _ _ _ _ (.int _) ih
theorem RgC.up {z c : Int} (z0 : 0 ≤ z) (z1 : z ≤ 1000) (c0 : 1 ≤ c) (c1 : c ≤ 1000) : ∃ n : Nat, n ≤ 1000 ∧ RgC 0 z c n := by
  have hs : Builtin.Range.rangeSize 0 z c = (z + c - 1) / c := PyProof.Rows.rangeSize_pos c0 z0
  have h0 : 0 ≤ (z + c - 1) / c := Int.ediv_nonneg (by omega) (by omega)
  have h1 : (z + c - 1) / c ≤ z := by
    rw [Int.ediv_le_iff_le_mul (by omega)]
    by_cases e : z = 0
    · subst e; omega
    · have : z * 1 + c * 1 ≤ z * c + 1 := by
        have : 0 ≤ (z - 1) * (c - 1) := Int.mul_nonneg (by omega) (by omega)
        have e2 : (z - 1) * (c - 1) = z * c - z - c + 1 := by rw [Int.sub_mul, Int.mul_sub]; omega
        omega
      omega
  refine ⟨((z + c - 1) / c).toNat, by omega, by omega, by omega, ?_, by rw [hs]; omega⟩
  unfold Builtin.Range.small
  rw [hs]
  generalize hg : (z + c - 1) / c = m at *
  have hm : 0 ≤ (m - 1) * c ∨ m = 0 := by
    by_cases e : m = 0
    · exact .inr e
    · exact .inl (Int.mul_nonneg (by omega) (by omega))
  have hm2 : m * c ≤ 1000 * 1000 := Int.mul_le_mul (by omega) (by omega) (by omega) (by omega)
  have hm3 : 0 ≤ m * c := Int.mul_nonneg (by omega) (by omega)
  simp only [Builtin.Range.rangeFitsLong, Bool.and_eq_true, Bool.or_eq_true, decide_eq_true_eq, beq_iff_eq, show c > 0 by omega, if_true]
  omega
theorem je_listRg3 (hc : X.calm = true) (hl : Gl X "list") (ml : X.mg "list" = none) (hr : Gl X "range") (mr : X.mg "range" = none) (ha : JA P X [a, b, c] ta)
    (hs : starEach [a, b, c] X.env = (false, eval a X.env) :: starEach [b, c] X.env := by rfl) (hpl : (backTo pos (starEach [b, c] X.env)).any (·.1) = false := by rfl)
    (na : starEach [.Call (.Name "range" p) [a, b, c] [] pos] X.env = (false, eval (.Call (.Name "range" p) [a, b, c] [] pos) X.env) :: starEach [] X.env := by rfl) :
    JE P X (.Call (.Name "list" p2) [.Call (.Name "range" p) [a, b, c] [] pos] [] pos2) (wLstRg3 ta) := fun Ga Ha Ew tk =>
  PE.imp (LiK.pe_listRg3 hc hl ml hr mr (ha Ga Ha Ew tk) hs hpl na) fun σ H Q ⟨σw, G, Qw, fa, rs, rp, ht, hq⟩ => ⟨σw, G, _, fa, rs, rp, ht, fun ws G1 vs H1 f1 r1 p1 ⟨i, j, k, n, e, h1, hn, q⟩ => by
    subst e
    cases r1 with
    | cons _ _ _ _ r rr =>
      cases rr with
      | cons _ _ _ _ r' rr =>
        cases rr with
        | cons _ _ _ _ r'' rr =>
          cases r; cases r'; cases r''; cases rr
          refine ⟨i, j, k, n, rfl, h1, hn, fun q1 hq1 => ?_⟩
          exact hq _ _ _ _ (f1.trans (.new hq1)) (.ref q1) (p1.put (u := .lst (rngC i k n)) (.new hq1) ⟨_, upd_same, rel_rngC⟩) (q q1 (p1.free hq1))⟩
end
end Lw
/-! W31: x in xs of tuples. -/
namespace Lw
open PySem PySem.Spec PyProof.Rows L2
section
variable {P : Par} {X : Cx} {G : WHp} {H : Hp}
def inT (G : WHp) (x y : W) (k : Bool → Prop) : Prop := ∃ (d : PyData) (ds : List PyData), DpW G x d ∧ DpW G y (.list ds) ∧ SeqAt.shaped d = true ∧ SeqAt.shaped (.list ds) = true ∧ k (ds.any fun z => PyData.eqv z d)
def oInT : WR2 := fun x y G Q => inT G x y fun b => Q (.bl b) G
def oNotInT : WR2 := fun x y G Q => inT G x y fun b => Q (.bl (!b)) G
theorem ow_inT (hK : X.K = P.K) (hu : X.A.units + 65 < cLine) : OpW P X (compareOp .In) oInT := OpR.imp (op_inD hu) fun x y H Q ⟨wx, wy, G, Qw, rx, ry, rp, ⟨d, ds, h1, h2, h3, h4, q⟩, hq⟩ =>
  ⟨d, ds, by rw [hK]; exact DpW.dp rp h1 rx, by rw [hK]; exact DpW.dp rp h2 ry, h3, h4, emb_end hq rp (.bl _) q⟩
theorem ow_notinT (hK : X.K = P.K) (hu : X.A.units + 65 < cLine) : OpW P X (compareOp .NotIn) oNotInT := OpR.imp (op_notInD hu) fun x y H Q ⟨wx, wy, G, Qw, rx, ry, rp, ⟨d, ds, h1, h2, h3, h4, q⟩, hq⟩ =>
  ⟨d, ds, by rw [hK]; exact DpW.dp rp h1 rx, by rw [hK]; exact DpW.dp rp h2 ry, h3, h4, emb_end hq rp (.bl _) q⟩
theorem hu65 {k : Nat} {A : Around} (hr : Room k A) : A.units + 65 < cLine := by have := hr.un; omega
open Classical in
theorem any_dW {x : W} : ∀ {ys : List W}, okW 20 x → (∀ w ∈ ys, okW 20 w) → ((ys.map (dW 20)).any fun z => PyData.eqv z (dW 20 x)) = decide (x ∈ ys)
  | [], _, _ => by simp
  | y :: r, hx, hy => by
    rw [List.map_cons, List.any_cons, any_dW hx fun w hw => hy w (by simp [hw]), eqv_dW 20 y x (hy y (by simp)) hx]
    by_cases e : y = x
    · subst e; simp
    · have e2 : ¬ x = y := fun h => e h.symm
      simp [e, e2]
open Classical in
theorem inT_l {x y : W} {ys : List W} {k : Bool → Prop} (hy : sqOf G y = some ys) (ox : okW 20 x) (oy : ∀ w ∈ ys, okW 20 w) (q : k (decide (x ∈ ys))) : inT G x y k := by
  refine ⟨dW 20 x, ys.map (dW 20), dp_dW _ x ox, .lst _ _ _ hy (.of fun w hw => dp_dW _ w (oy w hw)), ?_, ?_, ?_⟩
  · have := lay_dW 20 x ox
    unfold SeqAt.shaped
    rw [Bool.and_eq_true, decide_eq_true_eq]
    exact ⟨this.1, Nat.le_trans this.2 (by decide)⟩
  · have := lay_dW 21 (.il ys) oy
    unfold SeqAt.shaped
    rw [Bool.and_eq_true, decide_eq_true_eq]
    exact ⟨this.1, Nat.le_trans this.2 (by decide)⟩
  · rw [any_dW ox oy]; exact q
end
end Lw
/-! W32: defs that are handed the exception of the suite in which they are called. -/
namespace Lw
open PySem PySem.Spec PyProof.Rows L2 L2H LiX
theorem _root_.L2H.RoomH.units {k : Nat} {A : Around} (r : RoomH k A) : A.units + 64 < cLine := by have := r.un; omega
theorem huH_of {k : Nat} {A : Around} (r : RoomH k A) : A.units + 1 < cLine := by have := r.un; omega
theorem huH65 {k : Nat} {A : Around} (r : RoomH k A) : A.units + 65 < cLine := by have := r.un; omega
abbrev WSpE := Nat → Addr → Option Addr → WSp
structure FnE (P : Par) (prog : Program) (w : World) (mg : Str → Option Value) (base : Heap) (k : Nat) (f : Addr) (fd : FuncData) (ps : List Str) (sp : WSpE) : Prop where
  len : ∀ c a d ws G Q E, sp c a d ws G Q E → ws.length = ps.length
  run : ∀ (A : Around) (outer : List Env) (s : Shared) (H : Hp) (args : Args) (us : List Value) (vs : List V) (Q : VK) (E : XK) (a : Addr) (oe : Obj) (c : Nat) (d : Option Addr), RoomH k A → A.handled = some (.ref a) → Zc (.ref (P.ca c)) d oe → (∃ vs, oe.data = .fields vs) →
    PinOk outer H s (a, oe) → Env0 prog w P.K mg base A outer s H → BindsTo s fd args (ps.zip us) → Vals vs us → embSp P (sp c a d) vs H Q E → codeAny (model prog w) A (.call (.ref f) args) (CR (L2.CX prog w) outer prog w H s Q E) s
theorem FnE.mono {P : Par} {prog : Program} {w : World} {mg : Str → Option Value} {base : Heap} {j k : Nat} {f : Addr} {fd : FuncData} {ps : List Str} {sp : WSpE} (F : FnE P prog w mg base j f fd ps sp) (h : j ≤ k) : FnE P prog w mg base k f fd ps sp :=
  ⟨F.len, fun A outer s H args us vs Q E a oe c d hr => F.run A outer s H args us vs Q E a oe c d (hr.mono h)⟩
theorem mark_same {A : Around} {v : Value} (h : A.handled = some v) : A.mark (some v) = A := by
  obtain ⟨hd, dp, fr, gu, un⟩ := A
  cases (show hd = some v from h)
  rfl
theorem inv_startE {CX : CXT} {P : Program} {w : World} {K : PySem.W.Frag} {mg : Str → Option Value} {base : Heap} {N ps : List Str} {qual : Str} {scope : Scope} {f : Addr} {cd : Value} {A : Around} {outer : List Env} {s s1 : Shared} {H : Hp} {E : XK} {us : List Value} {vs : List V}
    (S : FnScope N ps scope) {a : Addr} {oe : Obj} (hpin : PinOk outer H s (a, oe)) (e0 : Env0 P w K mg base A outer s H) (hl : vs.length = ps.length) (r : Vals vs us)
    (x : InCallC s s.heap.objs.size (bindL (envOfC qual scope s.heap.objs.size f cd).kindOf (ps.zip us) fun _ => none) (cellsFrom (s.heap.objs.size + 1) scope.names []) (bindC (envOfC qual scope s.heap.objs.size f cd).kindOf (ps.zip us) fun _ => none) s1) :
    Inv ((cxOf CX P w K mg base N qual scope f cd A outer s H E).suite a ((a, oe) :: [])) [] (L2.start N vs) H s1 := by
  have J := inv_startH (E := E) (CX := CX) S hpin e0 hl r x
  exact ⟨⟨J.ok.mod, J.ok.kind, J.ok.glob, J.ok.blt, J.ok.above, J.ok.inj, J.ok.has, J.ok.cab, (fun z => absurd (show false = true from z) Bool.false_ne_true), J.ok.frames, J.ok.stk, J.ok.exf, J.ok.bs, J.ok.bsz, J.ok.noex, J.ok.exfs, J.ok.funs, J.ok.frf⟩,
    J.os, J.bare, J.base, J.loc, J.cell, J.free, J.freeC, J.pin, J.hok, J.len⟩
section
variable {P : Par} {X : Cx} {k : Nat} {f : Addr} {fd : FuncData} {ps : List Str} {sp : WSpE} {x : Str} {p pos : Pos} {e : Expr} {es : List Expr} {ta : WTA}
theorem Fun.okE {prog : Program} {w : World} {mg : Str → Option Value} {base : Heap} {x qual : Str} {st : Stmt} {N : List Str} (F : Fun P.K x qual st f fd) (S : FnScope N ps (defScope st)) (len : ∀ c a d ws G Q E, sp c a d ws G Q E → ws.length = ps.length)
    (hbody : ∀ (cdv : Value) (A : Around) (outer : List Env) (s : Shared) (H : Hp) (E : XK) (a : Addr) (oe : Obj) (c : Nat) (d : Option Addr), RoomH k (A.deeper (envOfC qual (defScope st) s.heap.objs.size f cdv)) → Zc (.ref (P.ca c)) d oe → (∃ vs, oe.data = .fields vs) →
      ∃ t : WTS, JSs P ((cxOf (L2.CX prog w) prog w P.K mg base N qual (defScope st) f cdv A outer s H E).suite a ((a, oe) :: [])) (defBody st) t ∧
        ∀ ws G Q Ex, sp c a d ws G Q Ex → t { nx := fun _ G' => Q .non G', rt := Q, bk := fun _ _ => False, ct := fun _ _ => False } (wStart N ws) G noX) : FnE P prog w mg base (k + 1) f fd ps sp := by
  obtain ⟨oc, od, kV, doc, pm, an, cdv, ct, osl, rfl, lk, hcd⟩ := F.ex
  refine ⟨len, fun A outer s H args us vs Q E a oe c d hr hh hz hff hpin e0 hb r hsp => ?_⟩
  obtain ⟨ws, G, Qw, Ew, rw_, rp, h, hq, hE⟩ := hsp
  have hl : vs.length = ps.length := by rw [← rw_.length]; exact len _ _ _ _ _ _ _ h
  have KX : P.K.In s.heap := e0.mod.kin.keeps fun b o e => (e0.bs b o e).1
  have lim : s.heap.NoLimit := e0.mod.nolimit.keeps fun b o e => (e0.bs b o e).1
  have hkind : ∀ y ∈ ps.zip us, (defScope st).names.lookup y.1 = some .local ∨ ((defScope st).names.lookup y.1 = some .cell ∧ ((cellsFrom (s.heap.objs.size + 1) (defScope st).names []).lookup y.1).isSome = true) := fun ⟨n, v⟩ hy => by
    rcases S.par n (List.of_mem_zip hy).1 with q | q
    · exact .inl q
    · exact .inr ⟨q, PySem.W.cellsFrom_some _ _ _ (.inl q)⟩
  refine codeAny_call_function hr.depth (KX _ _ lk) rfl S.co S.gen rfl (PySem.W.codeRec_of KX hcd) (hb _ _ _ _ ?_)
  refine wpAny_newFunctionEnv_cells S.kind hkind fun env he s1 x => ?_
  subst he
  refine ⟨lim.keeps x.toInCall.keep, codeAny_func ?_⟩
  obtain ⟨t, ht, hs⟩ := hbody cdv A outer s H E a oe c d (hr.deeper _) hz hff
  have I := inv_startE (E := E) (CX := L2.CX prog w) S hpin e0 hl r x
  have hA : (A.deeper (envOfC qual (defScope st) s.heap.objs.size f cdv)).mark (some (.ref a)) = A.deeper (envOfC qual (defScope st) s.heap.objs.size f cdv) := mark_same hh
  have hrun := (ht G H noX takesF).run [] s1 (L2.start N vs) H { nx := fun _ H' => Q .non H', rt := Q } I ⟨wStart N ws, G, _, .refl _ _, by
    unfold wStart L2.start
    rw [rw_.length]
    exact RelSt.start N _ rw_, rp, hs ws G Qw Ew h, fun σw' G' σ' H' f1 r1 p1 q1 => hq .non G' .non H' f1 .non p1 q1, fun w G' v H' f1 r1 p1 q1 => hq w G' v H' f1 r1 p1 q1, fun _ _ _ _ _ _ _ q => q.elim, fun _ _ _ _ _ _ _ q => q.elim⟩
  rw [show ((cxOf (L2.CX prog w) prog w P.K mg base N qual (defScope st) f cdv A outer s H E).suite a [(a, oe)]).A = A.deeper (envOfC qual (defScope st) s.heap.objs.size f cdv) from hA] at hrun
  refine wpAny_mono hrun (fun fl s' hs => ?_) fun e s' hs => hs.elim
  have fin : ∀ {σ' : L2.St} {H' : Hp} {v : V} {u : Value}, Inv ((cxOf (L2.CX prog w) prog w P.K mg base N qual (defScope st) f cdv A outer s H E).suite a ((a, oe) :: [])) [] σ' H' s' → RelV v u → Q v H' → CE outer prog w H s Q u s' :=
    fun {σ' H' v u} J rv q => ⟨v, H', J.os, J.bare, J.base, J.hok, rv, q⟩
  cases fl with
  | ret u =>
    obtain ⟨v, σ', H', J, rv, q⟩ := hs
    exact fin J rv q
  | next =>
    obtain ⟨σ', H', J, q⟩ := hs
    exact fin (v := V.non) (u := Value.none) J rfl q
  | brk =>
    obtain ⟨_, _, _, q⟩ := hs
    exact False.elim q
  | cont =>
    obtain ⟨_, _, _, q⟩ := hs
    exact False.elim q
def CallE (P : Par) (prog : Program) (w : World) (mg : Str → Option Value) (base : Heap) (x : Str) (k : Nat) (sp : WSpE) : Prop :=
  ∃ (f : Addr) (fd : FuncData) (ps : List Str), FnE P prog w mg base k f fd ps sp ∧ mg x = some (.ref f) ∧ PySem.W.keepIn P.K (.ref f) = true ∧ Binds P.K fd ps []
def wCallE (sp : WSp) (t : WTA) : WTE := fun σ G Q E => t σ G (fun ws G1 => sp ws G1 Q fun _ _ => False) E
theorem je_callE {a : Addr} {oe : Obj} {c : Nat} {d : Option Addr} {pn : List (Addr × Obj)} (C : CallE P X.prog X.w X.mg X.base x k sp) (hr : RoomH k X.A) (hz : Zc (.ref (P.ca c)) d oe) (hff : ∃ vs, oe.data = .fields vs) (hg : Gl (X.suite a ((a, oe) :: pn)) x) (ha : JA P (X.suite a ((a, oe) :: pn)) (e :: es) ta) (hK : X.K = P.K := by rfl) (hdb : (x == ("__debug__" : Str)) = false := by decide)
    (he : starEach (e :: es) X.env = (false, eval e X.env) :: starEach es X.env := by rfl) (hpl : (backTo pos (starEach es X.env)).any (·.1) = false := by rfl) :
    JE P (X.suite a ((a, oe) :: pn)) (.Call (.Name x p) (e :: es) [] pos) (wCallE (sp c a d) ta) := fun Ga Ha Ew tk => by
  obtain ⟨f, fd, ps, F, hm, hk, hb⟩ := C
  refine ⟨fun pins s σ H Q I ⟨σw, G, Qw, fa, rs, rp, ht, hq⟩ => ?_⟩
  refine wpAny_Call_Name_kw (ld_glob I hg hm ?_ hdb)
  refine PySem.W.callWith_K (h₀ := X.base) I.ok.mod.kin (by rw [show (X.suite a ((a, oe) :: pn)).K = P.K from hK]; exact hk) (thn ((ha Ga Ha Ew tk).run pos pins s σ H (fun vs H1 => embSp P (sp c a d) vs H1 Q (fun _ _ _ => False)) I ⟨σw, G, _, fa, rs, rp, ht, fun ws G1 vs H1 f1 r1 p1 q1 =>
    ⟨ws, G1, Qw, _, r1, p1, q1, fun w G2 v H2 f2 r2 p2 q2 => hq w G2 v H2 (f1.trans f2) r2 p2 q2, fun _ _ _ _ _ _ _ _ z => z.elim⟩⟩) fun us s1 ⟨vs, H1, I1, r, q⟩ => ⟨I1.kIn, ?_⟩) he hpl
  have hl : us.length = ps.length := by
    obtain ⟨ws, G1, Qw1, Ew1, r1, p1, q1, _⟩ := q
    rw [← r.length, ← r1.length]
    exact F.len _ _ _ _ _ _ _ q1
  have kin : P.K.In s1.heap := by have := I1.kIn; rw [show (X.suite a ((a, oe) :: pn)).K = P.K from hK] at this; exact this
  have b := hb s1 us kin (by rw [List.append_nil]; exact hl)
  rw [List.append_nil] at b
  have P1 := I1.pin (a, oe) (List.mem_append_left _ List.mem_cons_self)
  have hpin : PinOk X.stack H1 s1 (a, oe) := ⟨P1.1, P1.2.1, fun hm => (List.mem_cons.mp (I1.stkSub a hm)).elim P1.2.2.1 P1.2.2.2.1, P1.2.2.2.2⟩
  have e0 := I1.env0
  refine wpAny_call (codeAny_mono (F.run (X.A.mark (some (.ref a))) X.stack s1 H1 ⟨us, []⟩ us vs Q (fun _ _ _ => False) a oe c d ⟨hr.dp, hr.un⟩ rfl hz hff hpin (by rw [← hK]; exact e0) b r q) fun r s' hq => ?_)
  cases r with
  | error e =>
    obtain ⟨_, _, _, _, _, _, _, _, _, _, _, _, z⟩ := hq
    exact z.elim
  | ok fl =>
    cases fl with
    | ret u => exact I1.after hq
    | next => exact False.elim hq
    | brk => exact False.elim hq
    | cont => exact False.elim hq
end
end Lw
/-! W33: what holds between two statements, said once. -/
namespace Lw
open PySem PySem.Spec PyProof.Rows L2
theorem st_mid {t u : WTS} {D : WEnds} {σ : WSt} {G : WHp} {E : WXK} (P : WSt → WHp → Prop) (h1 : ∀ K : WSt → WHp → Prop, (∀ σ' G', P σ' G' → K σ' G') → t { D with nx := K } σ G E) (h2 : ∀ σ' G', P σ' G' → u D σ' G' E) : wSeq t u D σ G E := h1 _ h2
end Lw
/-! W34: sorted of texts. -/
namespace Lw
open PySem PySem.Spec PyProof.Rows L2
def srtS (ys : List (List Nat)) : Bool := sortedS (ys.map S)
def oSortS : WRs := fun ws G Q => ∃ (x : W) (xs : List (List Nat)), ws = [x] ∧ sqOf G x = some (xs.map W.str) ∧ xs.length < 64 ∧ ∀ ys, ys.Perm xs → srtS ys = true → Q (.il (ys.map W.str)) G
section
variable {P : Par} {X : Cx} {G : WHp} {H : Hp}
theorem relStr_of : ∀ {xs : List (List Nat)} {vs : List V}, RelWs P G H (xs.map W.str) vs → vs = (xs.map S).map V.str
  | [], _, .nil => rfl
  | x :: r, _, .cons _ v _ vs h t => by
    cases h
    rw [relStr_of (xs := r) t]; rfl
theorem relStr_mk : ∀ (xs : List (List Nat)), RelWs P G H (xs.map W.str) ((xs.map S).map V.str)
  | [] => .nil
  | x :: r => .cons _ _ _ _ (.str x) (relStr_mk r)
theorem cw_sortS (hK : X.K = P.K) : CallW P X (.builtin "sorted") oSortS := CallR.imp cr_sortedS fun vs H Q ⟨ws, G, Qw, r, rp, ⟨x, xs, e0, e, hl, q⟩, hq⟩ => by
  subst e0
  obtain ⟨v, rfl, r1⟩ := r.one
  obtain ⟨a, vs, rfl, ha, ra⟩ := sqOf_rel rp r1 e
  rw [relStr_of ra] at ha
  refine ⟨a, xs.map S, rfl, by rw [hK]; exact ha, by rw [List.length_map]; exact hl, fun ys p hp hs hn => ?_⟩
  have e1 : ys = (ys.map fun s => s.cps.toList).map S := by
    rw [List.map_map]
    exact (List.map_id'' (fun s => (S_of s).symm) ys).symm
  have hp2 : (ys.map fun s => s.cps.toList).Perm xs := by
    have := hp.map (fun s : Str => s.cps.toList)
    rw [List.map_map, show ((fun s : Str => s.cps.toList) ∘ S) = id from by funext s; exact S_list s, List.map_id] at this
    exact this
  have hs2 : srtS (ys.map fun s => s.cps.toList) = true := by unfold srtS; rw [← e1]; exact hs
  have := q _ hp2 hs2
  rw [e1]
  exact hq _ G _ _ (.hid hn) (.il p _ _ ⟨upd_same, rp.free hn⟩ (relStr_mk _)) (rp.hid hn) this
end
theorem ltCps_asym : ∀ {a b : List Nat}, ltCps a b = true → ltCps b a = false
  | [], [], h => by cases h
  | [], _ :: _, _ => rfl
  | _ :: _, [], h => by cases h
  | a :: r, b :: t, h => by
    unfold ltCps at h ⊢
    simp only [Bool.or_eq_true, decide_eq_true_eq, Bool.and_eq_true, beq_iff_eq] at h
    rcases h with h | ⟨rfl, h⟩
    · simp; omega
    · simp [ltCps_asym h]
theorem ltCps_tot : ∀ {a b : List Nat}, ltCps a b = false → ltCps b a = false → a = b
  | [], [], _, _ => rfl
  | [], _ :: _, h, _ => by cases h
  | _ :: _, [], _, h => by cases h
  | a :: r, b :: t, h, h' => by
    have ab : ¬ a < b := fun z => by simp [ltCps, z] at h
    have ba : ¬ b < a := fun z => by simp [ltCps, z] at h'
    have e : a = b := by omega
    subst e
    have h1 : ltCps r t = false := by simpa [ltCps] using h
    have h2 : ltCps t r = false := by simpa [ltCps] using h'
    have e2 : r = t := ltCps_tot h1 h2
    rw [e2]
/-- two texts, in order -/
def srt2 (a b : List Nat) : List (List Nat) := if ltCps b a = true then [b, a] else [a, b]
theorem srt2_comm (a b : List Nat) : srt2 a b = srt2 b a := by
  unfold srt2
  by_cases h1 : ltCps b a = true
  · rw [if_pos h1, if_neg (by rw [ltCps_asym h1]; simp)]
  · rw [if_neg h1]
    by_cases h2 : ltCps a b = true
    · rw [if_pos h2]
    · have e : b = a := ltCps_tot (by simpa using h1) (by simpa using h2)
      rw [if_neg h2, e]
theorem srt2_is {a b : List Nat} {ys : List (List Nat)} (h : ys.Perm [a, b]) (hs : srtS ys = true) : ys = srt2 a b := by
  have key : ∀ x y : List Nat, srtS [x, y] = true → [x, y] = srt2 x y := fun x y h => by
    unfold srt2
    rw [if_neg]
    have h : (!ltCps (S y).cps.toList (S x).cps.toList && true) = true := h
    rw [S_list, S_list] at h
    simpa using h
  match ys, h.length_eq with
  | [x, y], _ =>
    have hx : x ∈ [a, b] := h.mem_iff.mp (by simp)
    have k := key x y hs
    rcases List.mem_cons.mp hx with e | e
    · subst e
      have := h.cons_inv
      have e2 : y = b := by simpa using List.perm_singleton.mp this
      rw [← e2]; exact k
    · have e : x = b := List.mem_singleton.mp e
      subst e
      have h2 : [x, y].Perm [x, a] := h.trans (List.Perm.swap x a [])
      have e2 : y = a := by simpa using List.perm_singleton.mp h2.cons_inv
      rw [← e2, srt2_comm]; exact k
end Lw
/-! W35: isinstance of an instance of a class of the text. -/
namespace Lw
open PySem PySem.Spec PyProof.Rows L2 LiX
/-- whether a class's instances are a class's: the ways' classes stand under Way -/
def isWb (k c : Nat) : Bool := c == k || (k == 9 && (10 ≤ c && c ≤ 12))
structure IsN (P : Par) (cs : List Nat) : Prop where
  ha : ∀ c ∈ cs, PySem.W.findIn P.K (.ref (P.ca c)) "__class__" = some (some (.builtin "object.__class__"))
  hn : PySem.W.specialIn P.K (.builtin "object.__class__") "__get__" = some (some (.builtin "getset_descriptor.__get__"))
  ht : PySem.W.takesIn P.K (.builtin "object.__class__") = some true
  hm : ∀ c ∈ cs, PySem.W.mroIn P.K (P.ca c) (.type "object") = some true
def IsNK (P : Par) (cs : List Nat) (k : Nat) : Prop := ∀ c ∈ cs, PySem.W.kitOne P.K (.ref (P.ca c)) (.ref (P.ca k)) = some (isWb k c)
def wIsN (cs : List Nat) (k : Nat) (te : WTE) : WTE := fun σ G Q E => te σ G (fun w G1 => ∃ c fs, objOf G1 w = some (c, fs) ∧ c ∈ cs ∧ Q (.bl (isWb k c)) G1) E
section
variable {P : Par} {X : Cx} {k : Nat} {cs : List Nat} {e : Expr} {te : WTE} {x : Str} {p p2 pos : Pos}
theorem je_isn (F : IsN P cs) (hK : X.K = P.K) (hg : Gl X "isinstance") (hm : X.mg "isinstance" = none) (hgx : Gl X x) (hx : X.mg x = some (.ref (P.ca k))) (T : IsNK P cs k)
    (he : JE P X e te) (hd : (x == ("__debug__" : Str)) = false := by decide)
    (hs : starEach [e, .Name x p2] X.env = (false, eval e X.env) :: starEach [.Name x p2] X.env := by rfl) (hs2 : starEach [.Name x p2] X.env = (false, eval (.Name x p2) X.env) :: starEach [] X.env := by rfl) (hpl : (backTo pos (starEach [.Name x p2] X.env)).any (·.1) = false := by rfl) :
    JE P X (.Call (.Name "isinstance" p) [e, .Name x p2] [] pos) (wIsN cs k te) := fun Ga Ha Ew tk => by
  refine ⟨fun pins s σ H Q I ⟨σw, G, Qw, fa, rs, rp, hh, hq⟩ => ?_⟩
  refine (pe_callB (X := X) call_isi hg hm (by rfl) (pa_cons (he Ga Ha Ew tk) (pa_cons (pe_glob (v := .ref (P.ca k)) hgx hx rfl hd) pa_nil hs2) hs) (by decide) (by decide) hs hpl).run pins s σ H Q I ?_
  refine ⟨σw, G, _, fa, rs, rp, hh, fun w G1 v H1 f1 r1 p1 ⟨c, fs, e0, hc, q⟩ => ?_⟩
  obtain ⟨a, dx, fv, rfl, h1, h2, cf⟩ := objOf_rel p1 r1 e0
  exact ⟨_, _, .ref (P.ca c), _, isWb k c, rfl, .own _, .base (.ins h1 (by rw [hK]; exact cf.1) (by rw [hK]; exact F.ha c hc) (by rw [hK]; exact F.hn) (by rw [hK]; exact F.ht) (by rw [hK]; exact F.hm c hc)), by rw [hK]; exact T c hc, hq _ G1 _ H1 f1 (.bl _) p1 q⟩
end
end Lw
/-! W36: all(xs) of truth values. -/
namespace Lw
open PySem PySem.Spec PyProof.Rows L2
section
variable {P : Par} {X : Cx} {G : WHp} {H : Hp}
theorem RelWs.ofBls : ∀ {bs : List Bool} {vs : List V}, RelWs P G H (bs.map W.bl) vs → vs = bs.map V.bl
  | [], _, .nil => rfl
  | n :: ns, _, .cons _ v _ vs r rr => by
    cases r
    rw [RelWs.ofBls rr]
    rfl
def oAll : WRs := fun ws G Q => ∃ (x : W) (bs : List Bool), ws = [x] ∧ sqOf G x = some (bs.map W.bl) ∧ Q (.bl (bs.all id)) G
theorem cw_all (hK : X.K = P.K) (hc : X.calm = true) : CallW P X (.builtin "all") oAll := CallR.imp (cr_all hc) fun vs H Q ⟨ws, G, Qw, r, rp, ⟨x, bs, e0, e, q⟩, hq⟩ => by
  subst e0
  obtain ⟨v, rfl, r1⟩ := r.one
  obtain ⟨a, vs, rfl, ha, ra⟩ := sqOf_rel rp r1 e
  rw [ra.ofBls] at ha
  exact ⟨a, bs, rfl, by rw [hK]; exact ha, emb_end hq rp (.bl _) q⟩
def oAny : WRs := fun ws G Q => ∃ (x : W) (bs : List Bool), ws = [x] ∧ sqOf G x = some (bs.map W.bl) ∧ Q (.bl (bs.any id)) G
theorem cw_any (hK : X.K = P.K) (hc : X.calm = true) : CallW P X (.builtin "any") oAny := CallR.imp (cr_any hc) fun vs H Q ⟨ws, G, Qw, r, rp, ⟨x, bs, e0, e, q⟩, hq⟩ => by
  subst e0
  obtain ⟨v, rfl, r1⟩ := r.one
  obtain ⟨a, vs, rfl, ha, ra⟩ := sqOf_rel rp r1 e
  rw [ra.ofBls] at ha
  exact ⟨a, bs, rfl, by rw [hK]; exact ha, emb_end hq rp (.bl _) q⟩
end
end Lw
/-! W37: x > y of pairs of whole numbers. -/
namespace Lw
open PySem PySem.Spec PyProof.Rows L2
section
variable {P : Par} {X : Cx} {G : WHp} {H : Hp}
def rGtD (K : PySem.W.Frag) : R2 := fun x y H Q => ∃ p q : Int × Int, Dp K H x (PySem.W.Datum.toD p) ∧ Dp K H y (PySem.W.Datum.toD q) ∧ Q (.bl (PySem.W.DatumOrd.lt q p)) H
theorem op_gtD (hu : X.A.units + 65 < cLine) : OpR X (compareOp .Gt) (rGtD X.K) := by
  intro pins s σ H x y v u Q I rx ry h
  obtain ⟨p, q, hd, he, hq⟩ := h
  obtain ⟨as, r1⟩ := Dp.reads I _ x v hd rx
  obtain ⟨bs, r2⟩ := Dp.reads I _ y u he ry
  have dp : PySem.W.Datum.depth (Int × Int) ≤ 64 := by decide
  exact PySem.W.gt_datum ⟨as, r1⟩ ⟨bs, r2⟩ (by omega) ⟨.bl _, H, I, rfl, hq⟩
def pairW (p : Int × Int) : W := .tup [.int p.1, .int p.2]
def oGtT : WR2 := fun x y G Q => ∃ p q : Int × Int, x = pairW p ∧ y = pairW q ∧ Q (.bl (decide (q.1 < p.1 ∨ q.1 = p.1 ∧ q.2 < p.2))) G
theorem pairW_d (p : Int × Int) : DpW G (pairW p) (PySem.W.Datum.toD p) := dp_dW 20 (pairW p) (by
  intro w hw
  simp only [List.mem_cons, List.not_mem_nil, or_false] at hw
  rcases hw with rfl | rfl <;> trivial)
theorem pair_lt (p q : Int × Int) : PySem.W.DatumOrd.lt q p = decide (q.1 < p.1 ∨ q.1 = p.1 ∧ q.2 < p.2) := by
  show (if q.1 = p.1 then PySem.W.DatumOrd.lt q.2 p.2 else PySem.W.DatumOrd.lt q.1 p.1) = _
  show (if q.1 = p.1 then decide (q.2 < p.2) else decide (q.1 < p.1)) = _
  rw [Bool.eq_iff_iff]
  split <;> simp only [decide_eq_true_eq] <;> omega
theorem ow_gtT (hK : X.K = P.K) (hu : X.A.units + 65 < cLine) : OpW P X (compareOp .Gt) oGtT := OpR.imp (op_gtD hu) fun x y H Q ⟨wx, wy, G, Qw, rx, ry, rp, ⟨p, q, e1, e2, h⟩, hq⟩ => by
  subst e1; subst e2
  exact ⟨p, q, by rw [hK]; exact DpW.dp rp (pairW_d p) rx, by rw [hK]; exact DpW.dp rp (pairW_d q) ry, by rw [pair_lt]; exact emb_end hq rp (.bl _) h⟩
end
end Lw
/-! W38: ljust, rjust, rstrip, strip; an item of a written dict of texts; == and != of lists of dicts that are equal. -/
namespace PySem.SeqAt
open AutoSeq1 (wpAny_loadPart')
open MeetsSeq MeetsSeq2 MeetsSeq3 SeqRoads2
section
variable {prog : Program} {w : World}
theorem lw_neLoop (p q : Addr) (us vs : Array Value) (m m2 : Nat) (dp dq : Option Addr) (lp lq : Array (Option Value)) (hz : us.size = vs.size) (f : Nat → Bool) (c : Nat) :
    ∀ j : Nat, us.size - j = c → MeetsIn prog w (Builtin.«list.__eq__.loop» ⟨[.ref p, .ref q, rawInt j, rawInt 3], []⟩)
      (fun B Z r => r.heap.get? p = some { cls := .type "list", dict := dp, data := .seq us m, slots := lp } ∧ r.heap.get? q = some { cls := .type "list", dict := dq, data := .seq vs m2, slots := lq } ∧
        (∀ i (g1 : i < us.size) (g2 : i < vs.size), EqP prog w B.in1 r us[i] vs[i] (f i)) ∧ Z (.ok (.ret (.bool (!((List.range us.size).drop j).all f)))) r) := by
  induction c with
  | zero =>
    intro j hj B Z r z
    obtain ⟨r1, r2, r3, r4, r5⟩ := r
    obtain ⟨zp, zq, ze, z⟩ := z
    wp_walk using wpAny_loadPart' zp, wpAny_loadPart' zq
    have n1 : us[((j : Nat) : Int).toNat]? = none := by simp; omega
    have n2 : vs[((j : Nat) : Int).toNat]? = none := by simp; omega
    have nd : (List.range us.size).drop j = [] := by simp; omega
    rw [nd] at z
    rw [n1, n2]
    wp_walk using wpAny_loadPart' zp, wpAny_loadPart' zq
    show Z (.ok (.ret (.bool (us.size != vs.size)))) _
    rw [hz]
    simpa using z
  | succ c ic =>
    intro j hj B Z r z
    obtain ⟨r1, r2, r3, r4, r5⟩ := r
    obtain ⟨zp, zq, ze, z⟩ := z
    wp_walk using wpAny_loadPart' zp, wpAny_loadPart' zq
    have j1 : j < us.size := by omega
    have j2 : j < vs.size := by omega
    have n1 : us[((j : Nat) : Int).toNat]? = some us[j] := by simp [j1]
    have n2 : vs[((j : Nat) : Int).toNat]? = some vs[j] := by simp [j2]
    have nd : (List.range us.size).drop j = j :: (List.range us.size).drop (j + 1) := by simp [List.drop_eq_getElem_cons, j1]
    have nc : ((j : Int) + 1) = ((j + 1 : Nat) : Int) := by push_cast; rfl
    rw [nd, List.all_cons] at z
    rw [n1, n2]
    refine wpAny_bind (ze j j1 j2 _ _ ?_)
    cases hf : f j with
    | true =>
      rw [hf] at z
      wp_walk
      rw [nc]
      refine ⟨plainId_quiet plain_eq_loop _, codeAny_builtin entry_eq_loop ?_⟩
      rw [Around.under_plainId plain_eq_loop _]
      exact ic (j + 1) (by omega) B Z _ ⟨zp, zq, ze, by simpa using z⟩
    | false =>
      rw [hf] at z
      wp_walk using wpAny_loadPart' zp, wpAny_loadPart' zq
      rw [n1, n2]
      wp_walk
      simpa using z
theorem lw_ne (p q : Addr) (us vs : Array Value) (m m2 : Nat) (dp dq : Option Addr) (lp lq : Array (Option Value)) (hz : us.size = vs.size) (f : Nat → Bool) :
    MeetsIn prog w (Builtin.«list.__ne__» ⟨[.ref p, .ref q], []⟩)
      (fun B Z r => r.heap.get? p = some { cls := .type "list", dict := dp, data := .seq us m, slots := lp } ∧ r.heap.get? q = some { cls := .type "list", dict := dq, data := .seq vs m2, slots := lq } ∧
        (∀ i (g1 : i < us.size) (g2 : i < vs.size), EqP prog w B.in1 r us[i] vs[i] (f i)) ∧ Z (.ok (.ret (.bool (!(List.range us.size).all f)))) r) := by
  intro B Z r z
  obtain ⟨r1, r2, r3, r4, r5⟩ := r
  obtain ⟨zp, zq, ze, z⟩ := z
  have sl := AutoSeq1.sub_list_list
  have nz : ¬ (us.size != vs.size) = true := by simp [hz]
  wp_walk using wpAny_loadPart' zp, wpAny_loadPart' zq
  refine ⟨plainId_quiet plain_eq_loop _, codeAny_builtin entry_eq_loop ?_⟩
  rw [Around.under_plainId plain_eq_loop _]
  exact lw_neLoop p q us vs m m2 dp dq lp lq hz f _ 0 rfl B Z _ ⟨zp, zq, ze, by simpa using z⟩
theorem lw_neLists {B : Around} {r : Shared} {p q : Addr} {us vs : Array Value} {f : Nat → Bool} (kp : r.heap.IsList p us) (kq : r.heap.IsList q vs) (hz : us.size = vs.size) (hu : B.units < cLine)
    (ze : ∀ i (g1 : i < us.size) (g2 : i < vs.size), EqP prog w B.in1 r us[i] vs[i] (f i)) (E Q : Value → Shared → Prop) (z : Q (.bool (!(List.range us.size).all f)) r) : wpAny (model prog w) B (richCompare .NotEq (.ref p) (.ref q)) Q E r := by
  obtain ⟨⟨c1, e1, d1, l1⟩, o1, t1, m, b1⟩ := id kp
  obtain ⟨⟨c2, e2, d2, l2⟩, o2, t2, m2, b2⟩ := id kq
  simp only at t1 b1 t2 b2
  subst t1 b1 t2 b2
  have ty1 : r.TypeIs (.ref p) "list" := ⟨_, o1, rfl⟩
  have ty2 : r.TypeIs (.ref q) "list" := ⟨_, o2, rfl⟩
  exact wpAny_richCompare_same_room (op := .NotEq) ty1 ty2 F.slot_list_ne (call_meetsIn F.slot_list_ne ty1 F.entry_list_ne (F.args_list_ne_2 _ _) (lw_ne p q us vs m m2 e1 e2 l1 l2 hz f)
    ⟨o1, o2, ze, show Value.bool (!(List.range us.size).all f) ≠ Value.notImplemented ∧ Q (.bool (!(List.range us.size).all f)) r from ⟨(fun x => nomatch x), z⟩⟩) hu
end
end PySem.SeqAt
namespace Lw
open PySem PySem.Spec PyProof.Rows L2
section
variable {P : Par} {X : Cx} {G : WHp} {H : Hp}
/-! ### lists of dicts -/
def rNeV (K : PySem.W.Frag) : R2 := fun x y H Q => ∃ n a b xs ys, n ≤ 60 ∧ x = V.ref a ∧ y = V.ref b ∧ SqL K H a xs ∧ SqL K H b ys ∧ Paired (EqV K H n) xs ys ∧ Q (.bl false) H
theorem op_neV (hu : X.A.units + 64 < cLine) : OpR X (compareOp .NotEq) (rNeV X.K) := by
  intro pins s σ H x y v u Q I rx ry ⟨n, a, b, xs, ys, hn, e1, e2, ha, hb, hp, q⟩
  subst e1; subst e2
  cases (show v = Value.ref a from rx)
  cases (show u = Value.ref b from ry)
  obtain ⟨us, r1, p1, _⟩ := I.list ha
  obtain ⟨ws, r2, p2, _⟩ := I.list hb
  have hz : us.toArray.size = ws.toArray.size := by
    rw [List.size_toArray, List.size_toArray, ← r1.length, ← r2.length]
    exact Paired.length hp
  refine SeqAt.lw_neLists (f := fun _ => true) p1.isList p2.isList hz (by omega) (fun j h1 h2 => ?_) _ _ ?_
  · have k := items_run (eqV_run I n X.A.in1 (by show X.A.units + 1 + n < cLine; omega)) hp r1 r2 j (by simpa using h1) (by simpa using h2)
    simpa using k
  · rw [show ((List.range us.toArray.size).all fun _ => true) = true from List.all_eq_true.mpr fun _ _ => rfl]
    exact ⟨.bl false, H, I, rfl, q⟩
/-- a list of dicts whose values are texts -/
def dsL (G : WHp) (x : W) (kss : List (List (KW × W))) : Prop := ∃ xs, sqOf G x = some xs ∧ xs.map (dcL G) = kss.map some ∧ ∀ ks ∈ kss, (ks.map (·.1)).Nodup ∧ ∀ p ∈ ks, ∃ s, p.2 = W.str s
theorem RelKs.mems : ∀ {ws : List (KW × W)} {vs : List (Key × V)}, RelKs P G H ws vs → ∀ p ∈ vs, ∃ l, p.1 = kK l ∧ l ∈ ws.map (·.1)
  | _, _, .nil, p, hp => by cases hp
  | _, _, .cons k w v ws vs h r, p, hp => by
    rcases List.mem_cons.mp hp with rfl | hp
    · exact ⟨k, rfl, by simp⟩
    · obtain ⟨l, h3, h4⟩ := RelKs.mems r p hp
      exact ⟨l, h3, by simp [h4]⟩
theorem valV_ndS : ∀ {ks : List (KW × W)} {kv : List (Key × V)}, RelKs P G H ks kv → (ks.map (·.1)).Nodup → (∀ p ∈ ks, ∃ s, p.2 = W.str s) → ∀ p ∈ kv, valV kv p.1 = some p.2 ∧ flatB p.2 = true
  | _, _, .nil, _, _ => by simp
  | _, _, .cons k w v ws vs h r, hn, hs => by
    obtain ⟨s, e⟩ := hs (k, w) List.mem_cons_self
    have e : w = .str s := e
    subst e
    cases h
    intro p hp
    rw [List.map_cons, List.nodup_cons] at hn
    have ih := valV_ndS r hn.2 fun p hp => hs p (List.mem_cons_of_mem _ hp)
    rcases List.mem_cons.mp hp with rfl | hp
    · exact ⟨by simp [valV], rfl⟩
    · obtain ⟨l, h3, h4⟩ := r.mems p hp
      have hne : ¬ kK k = p.1 := fun z => by
        rw [h3] at z
        have := kK_inj z
        subst this
        exact hn.1 h4
      refine ⟨?_, (ih p hp).2⟩
      have := (ih p hp).1
      unfold valV at this ⊢
      rw [List.find?_cons_of_neg (by simpa using hne)]
      exact this
theorem ds_pair (rp : Rep P G H) : ∀ {kss : List (List (KW × W))} {xs ys : List W} {vs us : List V}, xs.map (dcL G) = kss.map some → ys.map (dcL G) = kss.map some → (∀ ks ∈ kss, (ks.map (·.1)).Nodup ∧ ∀ p ∈ ks, ∃ s, p.2 = W.str s) → RelWs P G H xs vs → RelWs P G H ys us → Paired (EqV P.K H 2) vs us
  | [], [], [], _, _, _, _, _, .nil, .nil => .nil
  | ks :: r, x :: xs, y :: ys, _, _, e1, e2, hk, .cons _ v _ vs h1 r1, .cons _ u _ us h2 r2 => by
    rw [List.map_cons, List.map_cons, List.cons.injEq] at e1 e2
    refine .cons ?_ (ds_pair rp e1.2 e2.2 (fun z hz => hk z (List.mem_cons_of_mem _ hz)) r1 r2)
    obtain ⟨a, kv, rfl, h3, r3⟩ := dcL_rel rp h1 e1.1
    obtain ⟨b, lv, rfl, h4, r4⟩ := dcL_rel rp h2 e2.1
    obtain ⟨k1, k2⟩ := hk ks List.mem_cons_self
    have e := r3.strAt r4 k2
    subst e
    have hv := valV_ndS r3 k1 k2
    exact .inr (.inr (.inr ⟨a, b, kv, kv, rfl, rfl, h3, h4, rfl, fun p hp => ⟨p.2, (hv p hp).1, .inl ⟨rfl, (hv p hp).2⟩⟩⟩))
def oEqDs : WR2 := fun x y G Q => ∃ kss, dsL G x kss ∧ dsL G y kss ∧ Q (.bl true) G
def oNeDs : WR2 := fun x y G Q => ∃ kss, dsL G x kss ∧ dsL G y kss ∧ Q (.bl false) G
theorem ow_neDs (hK : X.K = P.K) (hu : X.A.units + 64 < cLine) : OpW P X (compareOp .NotEq) oNeDs := OpR.imp (op_neV hu) fun x y H Q ⟨wx, wy, G, Qw, rx, ry, rp, ⟨kss, ⟨xs, e1, m1, hk⟩, ⟨ys, e2, m2, _⟩, q⟩, hq⟩ => by
  obtain ⟨a, vs, rfl, h1, r1⟩ := sqOf_rel rp rx e1
  obtain ⟨b, us, rfl, h2, r2⟩ := sqOf_rel rp ry e2
  exact ⟨2, a, b, vs, us, by decide, rfl, rfl, by rw [hK]; exact h1, by rw [hK]; exact h2, by rw [hK]; exact ds_pair rp m1 m2 hk r1 r2, emb_end hq rp (.bl _) q⟩
theorem ow_eqDs (hK : X.K = P.K) (hu : X.A.units + 64 < cLine) : OpW P X (compareOp .Eq) oEqDs := OpR.imp (op_eqV hu) fun x y H Q ⟨wx, wy, G, Qw, rx, ry, rp, ⟨kss, ⟨xs, e1, m1, hk⟩, ⟨ys, e2, m2, _⟩, q⟩, hq⟩ => by
  obtain ⟨a, vs, rfl, h1, r1⟩ := sqOf_rel rp rx e1
  obtain ⟨b, us, rfl, h2, r2⟩ := sqOf_rel rp ry e2
  exact ⟨2, by decide, .inl ⟨a, b, vs, us, rfl, rfl, by rw [hK]; exact h1, by rw [hK]; exact h2, by rw [hK]; exact ds_pair rp m1 m2 hk r1 r2⟩, emb_end hq rp (.bl _) q⟩
/-! ### texts that are filled up, or cut -/
def padR (s : List Nat) (n : Nat) : List Nat := s ++ List.replicate (n - s.length) 32
def padL (s : List Nat) (n : Nat) : List Nat := List.replicate (n - s.length) 32 ++ s
theorem ljust_S (s : List Nat) (n : Nat) : Txt.ljust (S s) (n : Int) = S (padR s n) := by
  unfold Txt.ljust padR
  by_cases h : (n : Int) ≤ (S s).length
  · rw [if_pos h]
    rw [S_len] at h
    rw [show n - s.length = 0 by omega]; simp
  · rw [if_neg h, S_of (Builtin.Str.padded _ _ _ _), padded_list, S_list, Int.toNat_natCast, S_len]
    rfl
theorem rjust_S (s : List Nat) (n : Nat) : Txt.rjust (S s) (n : Int) = S (padL s n) := by
  unfold Txt.rjust padL
  by_cases h : (n : Int) ≤ (S s).length
  · rw [if_pos h]
    rw [S_len] at h
    rw [show n - s.length = 0 by omega]; simp
  · rw [if_neg h, S_of (Builtin.Str.padded _ _ _ _), padded_list, S_list, Int.toNat_natCast, S_len]
    simp
def mSljust : WRm := fun x ws G Q => ∃ (s : List Nat) (n : Nat), x = .str s ∧ ws = [.int (n : Nat)] ∧ n ≤ 1000 ∧ Q (.str (padR s n)) G
def mSrjust : WRm := fun x ws G Q => ∃ (s : List Nat) (n : Nat), x = .str s ∧ ws = [.int (n : Nat)] ∧ n ≤ 1000 ∧ Q (.str (padL s n)) G
theorem pad_ok {n : Nat} (h : n ≤ 1000) : PadOk (n : Int) = true := by
  have : ∀ m, m ≤ 1000 → PadOk ((m : Nat) : Int) = true := by decide +kernel
  exact this n h
theorem mw_sljust : MtW P X "str.ljust" mSljust := MtR.imp mt_ljust fun x xs H Q ⟨wx, ws, G, Qw, rx, r, rp, ⟨s, n, e1, e2, hn, q⟩, hq⟩ => by
  subst e1; subst e2
  cases rx
  obtain ⟨v, rfl, r1⟩ := r.one
  cases r1
  refine ⟨S s, _, rfl, rfl, pad_ok hn, ?_⟩
  rw [ljust_S]
  exact hq _ G _ H (.refl _ _) (.str _) rp q
theorem mw_srjust : MtW P X "str.rjust" mSrjust := MtR.imp mt_rjust fun x xs H Q ⟨wx, ws, G, Qw, rx, r, rp, ⟨s, n, e1, e2, hn, q⟩, hq⟩ => by
  subst e1; subst e2
  cases rx
  obtain ⟨v, rfl, r1⟩ := r.one
  cases r1
  refine ⟨S s, _, rfl, rfl, pad_ok hn, ?_⟩
  rw [rjust_S]
  exact hq _ G _ H (.refl _ _) (.str _) rp q
theorem sp_one {c : Nat} (h : 97 ≤ c) (h2 : c ≤ 122) : spS ⟨#[c]⟩ = false := by
  have : ∀ m, m ≤ 122 → 97 ≤ m → spS ⟨#[m]⟩ = false := by decide +kernel
  exact this c h2 h
theorem sp_32 : spS ⟨#[32]⟩ = true := by decide +kernel
theorem rstrip_S {t : List Nat} {k : Nat} (ht : ∀ c ∈ t, 97 ≤ c ∧ c ≤ 122) : Txt.rstrip (S (t ++ List.replicate k 32)) = S t := by
  obtain ⟨hi, h1, h2, h3, h4⟩ := rstrip_cut (x := S (t ++ List.replicate k 32)) (fun c hc => by
    rw [S_list] at hc
    rcases List.mem_append.mp hc with hc | hc
    · have := ht c hc; omega
    · rw [List.mem_replicate] at hc; omega)
  rw [S_len, List.length_append, List.length_replicate] at h1 h3
  have gd : ∀ i, (S (t ++ List.replicate k 32)).cps.getD i 0 = (t ++ List.replicate k 32).getD i 0 := fun i => by
    show (t ++ List.replicate k 32).toArray.getD i 0 = _
    simp [Array.getD, List.getD_eq_getElem?_getD]
    split <;> rename_i hh
    · rw [List.getElem?_eq_getElem (by simpa using hh)]; rfl
    · rw [List.getElem?_eq_none (by simpa using hh)]; rfl
  have e : hi = t.length := by
    rcases Nat.lt_trichotomy hi t.length with hlt | heq | hgt
    · have := h3 hi (Nat.le_refl _) (by omega)
      rw [gd, List.getD_eq_getElem?_getD, List.getElem?_append_left hlt, List.getElem?_eq_getElem hlt, Option.getD_some] at this
      have hm := ht _ (List.getElem_mem hlt)
      rw [sp_one hm.1 hm.2] at this
      cases this
    · exact heq
    · rcases h4 with h4 | h4
      · omega
      · rw [gd, List.getD_eq_getElem?_getD, List.getElem?_append_right (by omega), List.getElem?_replicate, if_pos (by omega), Option.getD_some, sp_32] at h4
        cases h4
  rw [h2, e, strSub_mk, S_list]
  simp
def mSrstrip : WRm := fun x ws G Q => ∃ (t : List Nat) (k : Nat), x = .str (t ++ List.replicate k 32) ∧ ws = [] ∧ t.length + k ≤ big ∧ (∀ c ∈ t, 97 ≤ c ∧ c ≤ 122) ∧ Q (.str t) G
theorem mw_srstrip : MtW P X "str.rstrip" mSrstrip := MtR.imp mt_rstrip fun x xs H Q ⟨wx, ws, G, Qw, rx, r, rp, ⟨t, k, e1, e2, hl, ht, q⟩, hq⟩ => by
  subst e1; subst e2
  cases rx
  cases r
  refine ⟨S (t ++ List.replicate k 32), rfl, rfl, by rw [S_len, List.length_append, List.length_replicate, big_eq]; exact hl, ?_⟩
  rw [rstrip_S ht]
  exact hq _ G _ H (.refl _ _) (.str _) rp q
def stripL (s : List Nat) : List Nat := (Txt.strip (S s)).cps.toList
def mSstrip : WRm := fun x ws G Q => ∃ (s : List Nat), x = .str s ∧ ws = [] ∧ s.length ≤ big ∧ Q (.str (stripL s)) G
theorem mw_sstrip : MtW P X "str.strip" mSstrip := MtR.imp mt_strip fun x xs H Q ⟨wx, ws, G, Qw, rx, r, rp, ⟨s, e1, e2, hl, q⟩, hq⟩ => by
  subst e1; subst e2
  cases rx
  cases r
  refine ⟨S s, rfl, rfl, by rw [S_len, big_eq]; exact hl, ?_⟩
  rw [S_of (Txt.strip (S s))]
  exact hq _ G _ H (.refl _ _) (.str _) rp q
/-! ### an item of a written dict of texts -/
def wKd (tbl : List (List Nat × List Nat)) (te : WTE) : WTE := fun σ G Q E => te σ G (fun w G1 => ∃ z v, w = .str z ∧ tbl.lookup z = some v ∧ Q (.str v) G1) E
def KdOk (P : Par) (w : World) (mg : Str → Option Value) (x : Str) (tbl : List (List Nat × List Nat)) : Prop := ∃ p, mg x = some (.ref p) ∧ ∀ z v, tbl.lookup z = some v → KDct P.K w p (S z) (.str (S v))
theorem je_kd {x : Str} {e : Expr} {te : WTE} {tbl : List (List Nat × List Nat)} {pos np : Pos} (hK : X.K = P.K) (D : KdOk P X.w X.mg x tbl) (hg : Gl X x) (he : JE P X e te) (hs : PlainIx e := by exact fun _ _ => rfl) (hd : (x == ("__debug__" : Str)) = false := by decide) :
    JE P X (.Subscript (.Name x np) e pos) (wKd tbl te) := fun Ga Ha Ew tk => by
  obtain ⟨p, hm, hp⟩ := D
  refine PE.imp (pe_ix ix_kdict (pe_glob (v := .ref p) hg hm rfl hd) (he Ga Ha Ew tk) hs) fun σ H Q ⟨σw, G, Qw, fa, rs, rp, ht, hq⟩ => ⟨σw, G, _, fa, rs, rp, ht, fun w1 G1 v1 H1 f1 r1 p1 ⟨z, v, e1, e2, q⟩ => ?_⟩
  subst e1
  cases r1
  exact ⟨p, S z, .str (S v), rfl, rfl, by rw [hK]; exact hp z v e2, hq _ G1 _ H1 f1 (.str _) p1 q⟩
theorem kd_nil {K : PySem.W.Frag} {w : World} {p : Addr} : ∀ z v, (([] : List (List Nat × List Nat)).lookup z = some v) → KDct K w p (S z) (.str (S v)) := fun z v h => by cases h
theorem kd_cons {K : PySem.W.Frag} {w : World} {p : Addr} {a b : List Nat} {r : List (List Nat × List Nat)} (h : KDct K w p (S a) (.str (S b))) (hr : ∀ z v, r.lookup z = some v → KDct K w p (S z) (.str (S v))) : ∀ z v, ((a, b) :: r).lookup z = some v → KDct K w p (S z) (.str (S v)) := fun z v e => by
  rw [List.lookup_cons] at e
  split at e
  · rename_i h2
    have h2 : z = a := by simpa using h2
    subst h2
    cases e
    exact h
  · exact hr z v e
theorem kd_mk {K : PySem.W.Frag} {w : World} {p : Addr} {es : Array DictEntry} {n : Nat} {x v : Str} {t : Tok} (hl : K.lookup p = some ⟨.type "dict", none, .dict es n, #[]⟩) (hk : PySem.W.KeysLit w.params es.toList) (e : PySem.W.nsIn K p x = some (some (.str v t))) : KDct K w p x (.str v) :=
  ⟨es, n, _, hl, hk, e, ⟨t, rfl⟩⟩
end
end Lw
/-! W39: comprehensions whose items make new things. -/
namespace Lw
open PySem PySem.Spec PyProof.Rows L2
section
variable {j : Nat} {tt : WTT} {te : WTE} {σ : WSt} {G : WHp} {Q : WQ} {ok : WHp → Prop} {xs : List W}
theorem lc_H {fin : Addr → List W → WHp → WQ → Prop} (Pv : Nat → List W → WHp → Prop) (hl : xs.length ≤ 16777216) (h0 : Pv 0 [] G) (hlen : ∀ k acc G1, k ≤ xs.length → Pv k acc G1 → acc.length ≤ k ∧ ∀ D, G1 D = none → ok (updG G1 D (.lst acc)))
    (hs : ∀ (k : Nat) x acc G1 D (Q' : WQ), xs[k]? = some x → Pv k acc G1 → G1 D = none → (∀ y G2, G2 D = none → Pv (k + 1) (acc ++ [y]) G2 → Q' y (updG G2 D (.lst acc))) → te (σ.set j (some x)) (updG G1 D (.lst acc)) Q' noX)
    (q : ∀ acc G2 D, G2 D = none → Pv xs.length acc G2 → fin D acc (updG G2 D (.lst acc)) Q) : LcOk fin j wYes te σ Q xs ok G := by
  refine ⟨hl, fun D hD => ⟨fun k acc G' => ∃ G1, G1 D = none ∧ G' = updG G1 D (.lst acc) ∧ Pv k acc G1, ⟨G, hD, rfl, h0⟩, ?_, ?_, ?_⟩⟩
  · rintro k acc G' hk ⟨G1, h1, rfl, hp⟩
    obtain ⟨a, b⟩ := hlen k acc G1 hk hp
    exact ⟨b D h1, updG_same, a⟩
  · rintro k x acc G' hx ⟨G1, h1, rfl, hp⟩
    rw [List.set_set]
    refine hs k x acc G1 D _ hx hp h1 fun y G2 h2 hy => ⟨updG_same, G2, h2, by rw [updG_updG], hy⟩
  · rintro acc G' ⟨G1, h1, rfl, hp⟩
    exact q acc G1 D h1 hp
theorem lcI_H (Pv : Nat → List W → WHp → Prop) (hl : xs.length ≤ 16777216) (h0 : Pv 0 [] G) (hlen : ∀ k acc G1, k ≤ xs.length → Pv k acc G1 → acc.length ≤ k ∧ ∀ D, G1 D = none → ok (updG G1 D (.lst acc)))
    (hs : ∀ (k : Nat) x acc G1 D (Q' : WQ), xs[k]? = some x → Pv k acc G1 → G1 D = none → (∀ y G2, G2 D = none → Pv (k + 1) (acc ++ [y]) G2 → Q' y (updG G2 D (.lst acc))) → te (σ.set j (some x)) (updG G1 D (.lst acc)) Q' noX)
    (q : ∀ acc G2, Pv xs.length acc G2 → Q (.il acc) G2) : LcOk finI j wYes te σ Q xs ok G :=
  lc_H Pv hl h0 hlen hs fun acc G2 D h hp => by show Q _ (delG _ D); rw [delG_updG h]; exact q acc G2 hp
theorem lcM_H (Pv : Nat → List W → WHp → Prop) (hl : xs.length ≤ 16777216) (h0 : Pv 0 [] G) (hlen : ∀ k acc G1, k ≤ xs.length → Pv k acc G1 → acc.length ≤ k ∧ ∀ D, G1 D = none → ok (updG G1 D (.lst acc)))
    (hs : ∀ (k : Nat) x acc G1 D (Q' : WQ), xs[k]? = some x → Pv k acc G1 → G1 D = none → (∀ y G2, G2 D = none → Pv (k + 1) (acc ++ [y]) G2 → Q' y (updG G2 D (.lst acc))) → te (σ.set j (some x)) (updG G1 D (.lst acc)) Q' noX)
    (q : ∀ acc G2 D, G2 D = none → Pv xs.length acc G2 → Q (.ref D) (updG G2 D (.lst acc))) : LcOk finM j wYes te σ Q xs ok G :=
  lc_H Pv hl h0 hlen hs fun acc G2 D h hp => q acc G2 D h hp
/-- a new thing beside the list that is made -/
theorem upd_out {G1 : WHp} {D p : Addr} {o u : WO} (h : updG G1 D o p = none) : G1 p = none ∧ p ≠ D ∧ updG (updG G1 D o) p u = updG (updG G1 p u) D o := by
  have hpD : p ≠ D := fun e => by rw [e, updG_same] at h; cases h
  refine ⟨by rw [updG_ne hpD] at h; exact h, hpD, updG_comm (Ne.symm hpD)⟩
end
end Lw
/-! W40: a sign so many times. -/
namespace Lw
open PySem PySem.Spec PyProof.Rows L2
section
variable {P : Par} {X : Cx} {G : WHp} {H : Hp}
theorem fold_rep (c : Nat) : ∀ (k : Nat) (acc : Array Nat), ((List.replicate k #[c]).foldl (· ++ ·) acc).toList = acc.toList ++ List.replicate k c
  | 0, acc => by simp
  | k + 1, acc => by
    rw [List.replicate_succ, List.foldl_cons, fold_rep c k, List.replicate_succ]
    simp
theorem short_m : ∀ m, m ≤ 1000 → Builtin.Str.tooLong (1 * m) = false := by decide +kernel
def oMulS : WR2 := fun x y G Q => ∃ (c n : Nat), x = .str [c] ∧ y = .int (n : Nat) ∧ 2 ≤ n ∧ n ≤ 1000 ∧ Q (.str (List.replicate n c)) G
theorem op_mulS : OpR X (binaryOp .Mult) (fun x y H Q => ∃ (c n : Nat), x = .str (S [c]) ∧ y = .int (n : Nat) ∧ 2 ≤ n ∧ n ≤ 1000 ∧ Q (.str (S (List.replicate n c))) H) := by
  intro pins s σ H x y v u Q I rx ry h
  obtain ⟨c, n, rfl, rfl, h2, h3, q⟩ := h
  obtain ⟨t, rfl⟩ := rx
  obtain ⟨t', rfl⟩ := ry
  have n1 : ¬ (n : Int) < 1 := by omega
  have n2 : ((n : Int) == 1 || (S [c]).length == 0) = false := by
    rw [Bool.or_eq_false_iff]
    exact ⟨by rw [beq_eq_false_iff_ne]; omega, rfl⟩
  have e : (⟨(List.replicate (n : Int).toNat (S [c]).cps).foldl (· ++ ·) #[]⟩ : Str) = S (List.replicate n c) := by
    rw [Int.toNat_natCast]
    have e2 := fold_rep c n #[]
    rw [S_of ⟨(List.replicate n (S [c]).cps).foldl (· ++ ·) #[]⟩]
    show S ((List.replicate n #[c]).foldl (· ++ ·) #[]).toList = _
    rw [e2]; rfl
  refine PySem.P.mul_str (by rw [Bool.or_eq_false_iff, decide_eq_false_iff_not, decide_eq_false_iff_not]; omega) (fun _ _ => ?_) (fun _ _ => by rw [Int.toNat_natCast]; exact short_m n h3) ?_
  · rw [S_len]
    have : (n : Int) ≤ 1000 := by omega
    have h4 : (1 : Int) ≤ (2 ^ 63 - 1) / (n : Int) := (Int.le_ediv_iff_mul_le (by omega)).mpr (by omega)
    simp only [List.length_singleton]
    omega
  · rw [if_neg n1, if_neg (by rw [n2]; exact Bool.false_ne_true), e]
    exact ⟨by rw [S_len, List.length_replicate, big_eq]; show n ≤ 16777216; omega, .str (S (List.replicate n c)), H, I.tok _, ⟨_, rfl⟩, q⟩
theorem ow_mulS : OpW P X (binaryOp .Mult) oMulS := OpR.imp op_mulS fun x y H Q ⟨wx, wy, G, Qw, rx, ry, rp, ⟨c, n, e1, e2, h2, h3, q⟩, hq⟩ => by
  subst e1; subst e2
  cases rx
  cases ry
  exact ⟨c, n, rfl, rfl, h2, h3, emb_end hq rp (.str _) q⟩
end
end Lw
/-! W41: defs that call themselves: promises by depth. -/
namespace Lw
open PySem PySem.Spec PyProof.Rows L2
section
variable {P : Par} {prog : Program} {w : World} {mg : Str → Option Value} {base : Heap} {k M : Nat} {f : Addr} {fd : FuncData} {ps : List Str} {sp : WSp} {spr : Nat → WSp}
theorem fn_zero (hz : ∀ ws G Q E, sp ws G Q E → False) : FnW P prog w mg base k f fd ps sp :=
  ⟨fun vs H Q E h => by
    obtain ⟨ws, G, Qw, Ew, _, _, h, _⟩ := h
    exact (hz _ _ _ _ h).elim, fun A outer s H args us vs Q E _ _ _ _ h => by
    obtain ⟨ws, G, Qw, Ew, _, _, h, _⟩ := h
    exact (hz _ _ _ _ h).elim⟩
theorem fn_ex (F : ∀ n, n ≤ M → FnW P prog w mg base k f fd ps (spr n)) : FnW P prog w mg base k f fd ps (fun ws G Q E => ∃ n, n ≤ M ∧ spr n ws G Q E) :=
  ⟨fun vs H Q E h => by
    obtain ⟨ws, G, Qw, Ew, r, rp, ⟨n, hn, h⟩, hq, hE⟩ := h
    exact (F n hn).len vs H Q E ⟨ws, G, Qw, Ew, r, rp, h, hq, hE⟩, fun A outer s H args us vs Q E hr he hb hv h => by
    obtain ⟨ws, G, Qw, Ew, r, rp, ⟨n, hn, h⟩, hq, hE⟩ := h
    exact (F n hn).run A outer s H args us vs Q E hr he hb hv ⟨ws, G, Qw, Ew, r, rp, h, hq, hE⟩⟩
end
end Lw
/-! W42: dicts of pairs of whole numbers, all True. -/
namespace Lw
open PySem PySem.Spec PyProof.Rows L2
theorem td_val (ks : List (Int × Int)) (i j : Int) : valV (ks.map tdK) [.inl i, .inl j] = if (i, j) ∈ ks then some (.bl true) else none := by
  induction ks with
  | nil => rfl
  | cons p r ih =>
    obtain ⟨a, b⟩ := p
    by_cases e : (i, j) = (a, b)
    · rw [if_pos (by rw [e]; simp)]
      have e1 : i = a := congrArg Prod.fst e
      have e2 : j = b := congrArg Prod.snd e
      subst e1; subst e2
      exact valV_pos rfl
    · have hm : (i, j) ∈ (a, b) :: r ↔ (i, j) ∈ r := by rw [List.mem_cons]; exact ⟨fun h => h.resolve_left e, .inr⟩
      rw [show ((if (i, j) ∈ (a, b) :: r then some (V.bl true) else none) = if (i, j) ∈ r then some (V.bl true) else none) by simp only [hm], ← ih]
      unfold valV
      rw [List.map_cons, List.find?_cons_of_neg]
      simp only [tdK]
      intro h
      have h := of_decide_eq_true h
      injection h with h1 h2
      injection h2 with h2 _
      injection h1 with h1
      injection h2 with h2
      exact e (by rw [h1, h2])
/-- a pair put in -/
def putTd (ks : List (Int × Int)) (p : Int × Int) : List (Int × Int) := if p ∈ ks then ks else ks ++ [p]
theorem td_put (ks : List (Int × Int)) (i j : Int) : putK (ks.map tdK) [.inl i, .inl j] (.bl true) = (putTd ks (i, j)).map tdK := by
  have ha : ((ks.map tdK).any fun kv => decide (kv.1 = [.inl i, .inl j])) = decide ((i, j) ∈ ks) := by
    rw [Bool.eq_iff_iff, List.any_eq_true, decide_eq_true_eq]
    constructor
    · rintro ⟨x, hx, e⟩
      obtain ⟨⟨a, b⟩, hp, rfl⟩ := List.mem_map.mp hx
      rw [decide_eq_true_eq] at e
      have e : [Sum.inl a, Sum.inl b] = ([.inl i, .inl j] : List Key) := e
      injection e with h1 h2
      injection h2 with h2 _
      injection h1 with h1
      injection h2 with h2
      rw [← h1, ← h2]; exact hp
    · intro h
      exact ⟨tdK (i, j), List.mem_map.mpr ⟨_, h, rfl⟩, decide_eq_true rfl⟩
  unfold putK putTd
  rw [ha]
  by_cases h : (i, j) ∈ ks
  · rw [if_pos (decide_eq_true h), if_pos h, List.map_map]
    refine List.map_congr_left fun p hp => ?_
    show (if (tdK p).1 = [.inl i, .inl j] then ((tdK p).1, V.bl true) else tdK p) = tdK p
    split <;> rfl
  · rw [if_neg (by simpa using h), if_neg h, List.map_append]; rfl
section
variable {P : Par} {X : Cx} {x1 : Nat} {pos x2 : Pos} {o i e value : Expr} {es : List Expr} {ta : WTA} {to te : WTE}
/-- {}, to be such a dict -/
def wTdnew : WTE := fun _ G Q _ => ∀ p, G p = none → Q (.ref p) (updG G p (.td []))
theorem je_tdnew : JE P X (.Dict [] [] pos) wTdnew := je_of pe_dnewT fun σw G σ H Qw Q Ew rs rp ht hq p hp =>
  hq _ _ _ _ (.new hp) (.ref p) (rp.put (u := .td []) (.new hp) upd_same) (ht p (rp.free hp))
/-- (a, b) in d -/
def wTdin (b : Bool) (ta : WTA) (to : WTE) : WTE := fun σ G Q E => ta σ G (fun ws G1 => ∃ i j, ws = [.int i, .int j] ∧ to σ G1 (fun x G2 => ∃ a ks, x = .ref a ∧ G2 a = some (.td ks) ∧ Q (.bl (if b then decide ((i, j) ∈ ks) else !decide ((i, j) ∈ ks))) G2) E) E
theorem td_some (ks : List (Int × Int)) (i j : Int) : (valV (ks.map tdK) [.inl i, .inl j]).isSome = decide ((i, j) ∈ ks) := by
  rw [td_val]; split <;> simp [*]
theorem tdin_step {Ga : WHp} {Ha : Hp} {Ew : WXK} : ∀ σ H Q, embE P Ga Ha Ew (wTdin true ta to) σ H Q → tDIn (tTup (embA P Ga Ha Ew ta)) (embE P Ga Ha Ew to) σ H Q :=
  fun σ H Q ⟨σw, G, Qw, fa, rs, rp, ht, hq⟩ => ⟨σw, G, _, fa, rs, rp, ht, fun ws G1 vs H1 f1 r1 p1 ⟨i, j, ew, h1⟩ => by
    subst ew
    obtain ⟨v1, v2, rfl⟩ : ∃ v1 v2, vs = [v1, v2] := by cases r1 with | cons _ _ _ _ _ r => cases r with | cons _ _ _ _ _ r => cases r; exact ⟨_, _, rfl⟩
    refine ⟨by show 2 ≤ sizeLine; rw [sizeLine_eq]; omega, fun p hp => ⟨σw, G1, _, fa.trans (f1.trans (.hid hp)), (rs.fw rp f1).fw p1 (.hid hp), p1.hid hp, h1, fun w2 G2 v3 H2 f2 r2 p2 ⟨a, ks, e2, e3, q⟩ => ?_⟩⟩
    subst e2
    cases r2
    have e1 : v1 = .int i ∧ v2 = .int j := by cases r1 with | cons _ _ _ _ h r => cases h; cases r with | cons _ _ _ _ h r => cases h; exact ⟨rfl, rfl⟩
    obtain ⟨rfl, rfl⟩ := e1
    have eb := (f2 p _ upd_same rfl (p1.free hp)).1
    have ed : H2 a = some (.dT (ks.map tdK)) := p2 a _ e3
    refine ⟨a, _, rfl, DGet.t (k := [.inl i, .inl j]) ed eb, ?_⟩
    rw [td_some]
    exact hq _ G2 _ H2 (f1.trans ((Fw.hid hp).trans f2)) (.bl _) p2 q⟩
theorem tdnotin_step {Ga : WHp} {Ha : Hp} {Ew : WXK} : ∀ σ H Q, embE P Ga Ha Ew (wTdin false ta to) σ H Q → tDNotIn (tTup (embA P Ga Ha Ew ta)) (embE P Ga Ha Ew to) σ H Q :=
  fun σ H Q ⟨σw, G, Qw, fa, rs, rp, ht, hq⟩ => ⟨σw, G, _, fa, rs, rp, ht, fun ws G1 vs H1 f1 r1 p1 ⟨i, j, ew, h1⟩ => by
    subst ew
    obtain ⟨v1, v2, rfl⟩ : ∃ v1 v2, vs = [v1, v2] := by cases r1 with | cons _ _ _ _ _ r => cases r with | cons _ _ _ _ _ r => cases r; exact ⟨_, _, rfl⟩
    refine ⟨by show 2 ≤ sizeLine; rw [sizeLine_eq]; omega, fun p hp => ⟨σw, G1, _, fa.trans (f1.trans (.hid hp)), (rs.fw rp f1).fw p1 (.hid hp), p1.hid hp, h1, fun w2 G2 v3 H2 f2 r2 p2 ⟨a, ks, e2, e3, q⟩ => ?_⟩⟩
    subst e2
    cases r2
    have e1 : v1 = .int i ∧ v2 = .int j := by cases r1 with | cons _ _ _ _ h r => cases h; cases r with | cons _ _ _ _ h r => cases h; exact ⟨rfl, rfl⟩
    obtain ⟨rfl, rfl⟩ := e1
    have eb := (f2 p _ upd_same rfl (p1.free hp)).1
    have ed : H2 a = some (.dT (ks.map tdK)) := p2 a _ e3
    refine ⟨a, _, rfl, DGet.t (k := [.inl i, .inl j]) ed eb, ?_⟩
    rw [td_some]
    exact hq _ G2 _ H2 (f1.trans ((Fw.hid hp).trans f2)) (.bl _) p2 q⟩
theorem je_tdin (hu : X.A.units + 1 < cLine) (ha : JA P X es ta) (ho : JE P X o to) (hm : behindInMarks .In o = false := by first | exact nobehind _ (by decide) (by decide) | rfl) : JE P X (.Compare (.Tuple es x1 x2) [.In] [o] pos) (wTdin true ta to) := fun Ga Ha Ew tk =>
  PE.imp (pe_cmp (pc_din hu (pe_tup (ha Ga Ha Ew tk)) (ho Ga Ha Ew tk)) hm) tdin_step
theorem je_tdnotin (hu : X.A.units + 1 < cLine) (ha : JA P X es ta) (ho : JE P X o to) (hm : behindInMarks .NotIn o = false := by first | exact nobehind _ (by decide) (by decide) | rfl) : JE P X (.Compare (.Tuple es x1 x2) [.NotIn] [o] pos) (wTdin false ta to) := fun Ga Ha Ew tk =>
  PE.imp (pe_cmp (pc_dnotin hu (pe_tup (ha Ga Ha Ew tk)) (ho Ga Ha Ew tk)) hm) tdnotin_step
theorem jt_tdin (hu : X.A.units + 1 < cLine) (ha : JA P X es ta) (ho : JE P X o to) (hm : behindInMarks .In o = false := by first | exact nobehind _ (by decide) (by decide) | rfl) : JT P X (.Compare (.Tuple es x1 x2) [.In] [o] pos) (wTest (wTdin true ta to)) := fun Ga Ha Ew tk =>
  PT.imp (pt_cmp (pc_din hu (pe_tup (ha Ga Ha Ew tk)) (ho Ga Ha Ew tk)) hm) fun σ H Q h => tdin_step σ H _ (test_emb σ H Q h)
theorem jt_tdnotin (hu : X.A.units + 1 < cLine) (ha : JA P X es ta) (ho : JE P X o to) (hm : behindInMarks .NotIn o = false := by first | exact nobehind _ (by decide) (by decide) | rfl) : JT P X (.Compare (.Tuple es x1 x2) [.NotIn] [o] pos) (wTest (wTdin false ta to)) := fun Ga Ha Ew tk =>
  PT.imp (pt_cmp (pc_dnotin hu (pe_tup (ha Ga Ha Ew tk)) (ho Ga Ha Ew tk)) hm) fun σ H Q h => tdnotin_step σ H _ (test_emb σ H Q h)
/-- d[(a, b)] = True -/
def wTdput (to : WTE) (ta : WTA) (te : WTE) : WTS := fun D σ G E => te σ G (fun v G1 => to σ G1 (fun x G2 => ta σ G2 (fun ws G3 => ∃ p ks i j, v = .bl true ∧ x = .ref p ∧ ws = [.int i, .int j] ∧ G3 p = some (.td ks) ∧ ks.length < big ∧ D.nx σ (updG G3 p (.td (putTd ks (i, j))))) E) E) E
theorem js_tdput {pos' : Pos} (hu : X.A.units + 1 < cLine) (ho : JE P X o to) (ha : JA P X es ta) (he : JE P X e te) (hs : swapsWith e (some (.Subscript o (.Tuple es x1 x2) pos')) pos.line X.env = pure false := by rfl) : JS P X (.Assign [.Subscript o (.Tuple es x1 x2) pos'] e pos) (wTdput to ta te) := fun Ga Ha Ew tk =>
  PS.imp (ps_dput hu (ho Ga Ha Ew tk) (pe_tup (ha Ga Ha Ew tk)) (he Ga Ha Ew tk) hs) fun D σ H ⟨σw, G, Dw, fa, rs, rp, ht, h1, h2, h3, h4⟩ => ⟨σw, G, _, fa, rs, rp, ht, fun y G1 v H1 f1 r1 p1 q1 => ⟨σw, G1, _, fa.trans f1, rs.fw rp f1, p1, q1, fun w G2 v2 H2 f2 r2 p2 q2 => ⟨σw, G2, _, fa.trans (f1.trans f2), (rs.fw rp f1).fw p1 f2, p2, q2, fun ws G3 vs H3 f3 r3 p3 ⟨p, ks, i, j, e1, e2, e3, e4, hl, q⟩ => by
    subst e1; subst e2; subst e3
    cases r1
    cases r2
    obtain ⟨v1, v2, rfl⟩ : ∃ v1 v2, vs = [v1, v2] := by cases r3 with | cons _ _ _ _ _ r => cases r with | cons _ _ _ _ _ r => cases r; exact ⟨_, _, rfl⟩
    have e5 : v1 = .int i ∧ v2 = .int j := by cases r3 with | cons _ _ _ _ h r => cases h; cases r with | cons _ _ _ _ h r => cases h; exact ⟨rfl, rfl⟩
    obtain ⟨rfl, rfl⟩ := e5
    refine ⟨by show 2 ≤ sizeLine; rw [sizeLine_eq]; omega, fun t ht => ?_⟩
    have h : H3 p = some (.dT (ks.map tdK)) := p3 p _ e4
    have hne : p ≠ t := fun z => by rw [z, ht] at h; cases h
    have hb : upd H3 t (.tup [.int i, .int j]) p = some (.dT (ks.map tdK)) := by rw [upd_ne hne]; exact h
    refine ⟨p, _, rfl, DPut.t (k := [.inl i, .inl j]) hb upd_same (by rw [List.length_map, big_eq]; exact hl), ?_⟩
    rw [td_put]
    have fh : Fw G3 H3 G3 (upd H3 t (.tup [.int i, .int j])) := .hid ht
    have ph := p3.hid (o := .tup [.int i, .int j]) ht
    have f : Fw G3 (upd H3 t (.tup [.int i, .int j])) (updG G3 p (.td (putTd ks (i, j)))) (upd (upd H3 t (.tup [.int i, .int j])) p (.dT ((putTd ks (i, j)).map tdK))) := .put e4
    exact h1 σw _ σ _ (f1.trans (f2.trans (f3.trans (fh.trans f)))) (((((rs.fw rp f1).fw p1 f2).fw p2 f3).fw p3 fh).fw ph f) (ph.put (u := .td (putTd ks (i, j))) f upd_same) q⟩⟩⟩
end
end Lw
/-! W43: a copy of a dict of pairs. -/
namespace Lw
open PySem PySem.Spec PyProof.Rows L2
section
variable {prog : Program} {w : World} {A : Around} {E : Value → Shared → Prop} {K : Type} [DecidableEq K] {knd : HeapKind prog w K} {s : Shared}
theorem call_dict_H {o : Addr} {more : List (K × Addr × Value)} {Q : Value → Shared → Prop} (hu : knd.room A.in1.in1) (hoS : (o == sysModules) = false) (ho : s.heap.DictOfH knd o more) (hst : ∀ x ∈ more, knd.is (s.heap.push { cls := .type "dict", data := .dict #[] }) x.1 x.2.1) (hsz : more.length ≤ sizeLine)
    (hty : ∀ x ∈ more, s.TypeIs (.ref x.2.1) "tuple") (hap : (more.map fun x => knd.hash x.1).Nodup)
    (h : ∀ h', h'.DictOfH knd s.heap.objs.size (storedAllH [] more) → Heap.SameBut s.heap.objs.size (s.heap.push { cls := .type "dict", data := .dict #[] }) h' → Q (.ref s.heap.objs.size) { s with heap := h' }) :
    wpAny (model prog w) A (call (.type "dict") [.ref o]) Q E s := by
  refine callType_codes (Q₁ := fun obj s₁ => obj = .ref s.heap.objs.size ∧ s₁ = { s with heap := s.heap.push { cls := .type "dict", data := .dict #[] } }) PySem.F.kt_called_dict (PySem.F.kt_typeCall_dict_1 _) PySem.F.entry_dict_init (kt_code_dict_new _ ⟨rfl, rfl⟩) ?_
  rintro obj s₁ ⟨rfl, rfl⟩
  have hnew : (s.heap.push { cls := .type "dict", data := .dict #[] }).DictOfH knd s.heap.objs.size [] := ⟨_, #[], 0, Heap.get?_push_size _ rfl, ⟨rfl, rfl, rfl⟩, rfl, rfl, (fun x hx => by cases hx), List.nodup_nil⟩
  have k0 : ∀ b o, s.heap.get? b = some o → (s.heap.push { cls := .type "dict", data := .dict #[] }).get? b = some o := fun b o e => Heap.get?_push_of_some _ e
  have ho' : (s.heap.push { cls := .type "dict", data := .dict #[] }).DictOfH knd o more := ho.at' (fun u e => k0 _ _ e) hst
  have hdo : s.heap.objs.size ≠ o := by
    have := ho.lt_size
    exact fun e => absurd this (by rw [e]; exact Nat.lt_irrefl _)
  refine ⟨hnew.typeIs, PySem.F.args_dict_init_2 _ _, ?_⟩
  unfold Builtin.«dict.__init__»
  refine wpAny_bind ?_
  unfold Builtin.Dict.selfAndRest
  refine wpAny_bind (wpAny_notOrdered_dict hnew.typeIs ?_)
  show wpAny _ _ (pure (s.heap.objs.size, [Value.ref o])) _ _ _
  refine wpAny_pure ?_
  show wpAny _ _ (Builtin.Dict.updateFrom "dict.__init__" s.heap.objs.size (.ref o) [] .none) _ _ _
  exact updateFrom_dictH (R := wants (fun r s₂ => r = .none ∧ Q (.ref s.heap.objs.size) s₂) E) .none hu hdo hoS hnew ho' (.inr ⟨fun x hx => let ⟨ob, e, c⟩ := hty x hx; ⟨ob, k0 _ _ e, c⟩, hap⟩) (by simpa using hsz) fun h' hd' ho2 hs => ⟨rfl, h h' hd' hs⟩
end
def tdH (i j : Int) : Int := reduceHash (Builtin.Tuple.tupleHashOf [hashInt i, hashInt j])
def tdT : List Int := [-8458139203682520985, -1950498447580522560, 7204814214171964562, -4734289103435588629, 1773351652666409796, -5164621852614943976, 8389048192121911274, -3550055125485641917, -1440771752368011620, -6333845781340707986, 4685526799349444076, 6794810172467074373, 1901736143494378007, 8409376899596376432, 3516302870623680066, 2248468952609198383, 8756109708711196808, 3863035679738500442, 5972319052856130739, 1079245023883434373, -6348126469135965181, 159514286966033244, -9131917124991031250, -2624276368889032825, 3883364387212965600]
theorem tdT_nd : tdT.Nodup := by decide +kernel
theorem tdT_at : ((List.range 5).all fun i => (List.range 5).all fun j => decide (tdH (i : Nat) (j : Nat) = tdT.getD (5 * i + j) 0)) = true := by decide +kernel
theorem tdH_inj {i j k l : Int} (h1 : 0 ≤ i ∧ i < 5) (h2 : 0 ≤ j ∧ j < 5) (h3 : 0 ≤ k ∧ k < 5) (h4 : 0 ≤ l ∧ l < 5) (h : tdH i j = tdH k l) : i = k ∧ j = l := by
  obtain ⟨i, rfl⟩ := Int.eq_ofNat_of_zero_le h1.1
  obtain ⟨j, rfl⟩ := Int.eq_ofNat_of_zero_le h2.1
  obtain ⟨k, rfl⟩ := Int.eq_ofNat_of_zero_le h3.1
  obtain ⟨l, rfl⟩ := Int.eq_ofNat_of_zero_le h4.1
  have a := of_decide_eq_true (List.all_eq_true.mp (List.all_eq_true.mp tdT_at i (List.mem_range.mpr (by omega))) j (List.mem_range.mpr (by omega)))
  have b := of_decide_eq_true (List.all_eq_true.mp (List.all_eq_true.mp tdT_at k (List.mem_range.mpr (by omega))) l (List.mem_range.mpr (by omega)))
  have hl : tdT.length = 25 := rfl
  have e : tdT.getD (5 * i + j) 0 = tdT.getD (5 * k + l) 0 := by rw [← a, ← b]; exact h
  have l1 : 5 * i + j < tdT.length := by omega
  have l2 : 5 * k + l < tdT.length := by omega
  have e2 : tdT[5 * i + j]? = tdT[5 * k + l]? := by
    rw [List.getD, List.getD, List.getElem?_eq_getElem l1, List.getElem?_eq_getElem l2] at e
    rw [List.getElem?_eq_getElem l1, List.getElem?_eq_getElem l2]
    exact congrArg some e
  have := (List.getElem?_inj l1 tdT_nd).mp e2
  omega
def PairsOk (ks : List (Int × Int)) : Prop := ks.Nodup ∧ ∀ p ∈ ks, (0 ≤ p.1 ∧ p.1 < 5) ∧ 0 ≤ p.2 ∧ p.2 < 5
theorem tk_hash {prog : Program} {w : World} (i j : Int) : tupleKeyHash (mixKind prog w) [.inl i, .inl j] = tdH i j := by
  unfold tupleKeyHash tdH
  have e : List.map (mixKind prog w).hash [Sum.inl i, Sum.inl j] = [hashInt i, hashInt j] := rfl
  rw [e]
theorem pairs_tdH {ks : List (Int × Int)} (h : PairsOk ks) : (ks.map fun p => tdH p.1 p.2).Nodup := by
  obtain ⟨nd, hin⟩ := h
  refine List.pairwise_map.mpr (List.Pairwise.imp_of_mem (fun {a b} ha hb hne e => ?_) nd)
  obtain ⟨e1, e2⟩ := tdH_inj (hin a ha).1 (hin a ha).2 (hin b hb).1 (hin b hb).2 e
  exact hne (Prod.ext e1 e2)
theorem pairs_hash {prog : Program} {w : World} {ks : List (Int × Int)} (h : PairsOk ks) : ((ks.map fun p => ([.inl p.1, .inl p.2] : List Key)).map fun k => tupleKeyHash (mixKind prog w) k).Nodup := by
  have e : ((ks.map fun p => ([.inl p.1, .inl p.2] : List Key)).map fun k => tupleKeyHash (mixKind prog w) k) = ks.map fun p => tdH p.1 p.2 := by
    rw [List.map_map]
    refine List.map_congr_left fun p _ => ?_
    rw [Function.comp_apply, tk_hash]
  rw [e]
  exact pairs_tdH h
section
variable {X : Cx}
theorem kt_keys {H : Hp} : ∀ {ks : List (Int × Int)} {xs : List (List Key × Addr × Value)}, KT H (ks.map tdK) xs → xs.map (·.1) = ks.map fun p => ([.inl p.1, .inl p.2] : List Key) := by
  intro ks
  induction ks with
  | nil => intro xs r; cases r; rfl
  | cons p r ih =>
    intro xs q
    cases q with
    | cons hd tl => rw [List.map_cons, List.map_cons, ih tl, ← hd.1]; rfl
theorem call_dictTd (hu : X.A.units + 64 < cLine) : CallR X (.type "dict") (fun xs H Q => ∃ (a : Addr) (ks : List (Int × Int)), xs = [.ref a] ∧ H a = some (.dT (ks.map tdK)) ∧ PairsOk ks ∧ ∀ p, H p = none → Q (.ref p) (upd H p (.dT (ks.map tdK)))) := by
  intro pins s σ H xs us Q I r q
  obtain ⟨a, ks, ex, hd, hk, q⟩ := q
  subst ex
  obtain ⟨u, eu, rx⟩ := vals1 r
  subst eu
  cases rx
  obtain ⟨z, lo, vs, rel, dd⟩ := dt_of I.hok hd
  have hkeys := kt_keys rel
  have dd2 := dd
  obtain ⟨o, es, ep, ho, hx, hdt, he, his, hn⟩ := dd2
  refine call_dict_H (by show X.A.units + 1 + 1 < cLine; omega) lo dd (fun x hx => ?_) (by rw [← rel.length]; exact z) (fun x hx => ?_) ?_ fun h' d' hs => ?_
  · obtain ⟨o, items, n, e1, e2, e3, e4⟩ := his x hx
    exact ⟨o, items, n, Heap.get?_push_of_some _ e1, e2, e3, e4⟩
  · obtain ⟨o, items, n, e1, e2, e3, e4⟩ := his x hx
    exact ⟨o, e1, e2⟩
  · have := pairs_hash (prog := X.prog) (w := X.w) hk
    rw [← hkeys, List.map_map] at this
    exact this
  have hm : (s.heap.objs.size == sysModules) = false := beq_eq_false_iff_ne.mpr (Nat.ne_of_gt I.big)
  have hnone := I.hok.fresh (Nat.le_refl s.heap.objs.size)
  rw [storedAllH_nil_of_nodup _ hn] at d'
  obtain ⟨o', es', ep', ho', hx', hdt', he', his', hn'⟩ := d'
  exact ⟨.ref s.heap.objs.size, upd H s.heap.objs.size (.dT (ks.map tdK)), I.laid (t' := s.toks) (fun b u e => (hs.2 b (Nat.ne_of_lt (Heap.lt_size e))).trans (Heap.get?_push_of_some _ e)) (Nat.le_refl _)
    (show ObjOk X.prog X.w _ _ _ (.dT (ks.map tdK)) from ⟨z, hm, vs, rel.keeps fun b ys e => by rw [upd_ne (ne_of_none e hnone)]; exact e, o', es', ep', ho', hx', hdt', he', hn'⟩), rfl, q _ hnone⟩
/-- dict(d), a copy -/
def oDictTd : WRs := fun ws G Q => ∃ a ks, ws = [.ref a] ∧ G a = some (.td ks) ∧ PairsOk ks ∧ ∀ p, G p = none → Q (.ref p) (updG G p (.td ks))
theorem cw_dictTd {P : Par} (hu : X.A.units + 64 < cLine) : CallW P X (.type "dict") oDictTd := CallR.imp (call_dictTd hu) fun vs H Q ⟨ws, G, Qw, r, rp, ⟨a, ks, e0, e, hk, q⟩, hq⟩ => by
  subst e0
  obtain ⟨v, rfl, r1⟩ := r.one
  cases r1
  exact ⟨a, ks, rfl, rp a _ e, hk, fun p hp => hq _ _ _ _ (.new hp) (.ref p) (rp.put (u := .td ks) (.new hp) upd_same) (q p (rp.free hp))⟩
end
end Lw
/-! W44: a def within a def that leaves it: its making, its calls. -/
namespace Lw
open PySem PySem.Spec PyProof.Rows L2
theorem cellO_at {p : Program} {w : World} {H : Hp} {h : Heap} {c l : Addr} (hok : HOk p w H h) (e : H c = some (CellO c l)) : h.IsCell c (some (.ref l)) := (hok c _ e).1
theorem relWs_ints {P : Par} {G : WHp} {H : Hp} : ∀ {xs : List Int} {vs : List V}, RelWs P G H (xs.map W.int) vs → vs = xs.map V.int
  | [], _, .nil => rfl
  | x :: xs, _, .cons _ _ _ _ h r => by
    cases h
    rw [relWs_ints r]
    rfl
section
variable {P : Par} {X : Cx} {pins : List (Addr × Obj)} {σ : L2.St} {H : Hp} {s : Shared} {G : WHp}
/-- the object of the def is made; its code object is new, or found in the table -/
theorem clo_make {c T cc : Addr} {pos : Pos} {E : Value → Shared → Prop} {Q : Value → Shared → Prop} (I : Inv X pins σ H s) (rp : Rep P G H) (TB : LamX.TabB X.base X.mg c (P.ca 98)) (hcode : X.env.code = .ref c) (hT : G T = some .tab)
    (hq : X.env.qual ++ "come" = QN) (hcc : X.env.cells.lookup ("kept" : Str) = some cc) (hclo : ∀ cells, cloFrom cells (C8.fnScope P.nd).names [] = [(("kept" : Str), (cells.lookup ("kept" : Str)).getD 0)])
    (hfr : ∀ y ∈ (C8.fnScope P.nd).names, y.2 = .free → y.1 = "kept")
    (h : ∀ (f cd : Addr) (H1 : Hp) (s' : Shared), Inv X pins σ H1 s' → Fw G H G H1 → Rep P G H1 → G f = none → G cd = none → H1 f = some (NdefX.FnO f (P.nf cc cd)) → H1 cd = some (LamX.CodeO cd QN) → Q (.ref f) s') :
    wpAny (model X.prog X.w) X.A (makeFunction "come" (X.env.qual ++ "come") (C8.fnArgs P.nd) (.stmts (C8.fnBody P.nd)) (C8.fnScope P.nd) X.env [] [] [] pos pos.line) Q E s := by
  obtain ⟨e0, ps, hP, ht, ha⟩ := rp T _ hT
  subst e0
  have hfree : ∀ y ∈ (C8.fnScope P.nd).names, y.2 = .free → ∃ c, X.env.cells.lookup y.1 = some c := fun y hy e => ⟨cc, by rw [hfr y hy e]; exact hcc⟩
  have hF : ∀ cd, (⟨"come", X.env.qual ++ "come", C8.fnArgs P.nd, C8.fnBody P.nd, C8.fnScope P.nd, cloFrom X.env.cells (C8.fnScope P.nd).names [], cd⟩ : NdefX.NF) = P.nf cc cd := fun cd => by
    rw [hclo, hcc, hq]; rfl
  have bP : s.heap.BuiltinsAt X.mg (P.ca 98) := TB.bm.keeps I.bk
  have hP' : s.heap.get? (P.ca 98) = some { cls := .none, data := .fields ps } := I.hok _ _ hP
  cases hc : codeAmong pos ps.toList with
  | none =>
    refine PySem.W.makeFunction_K (mg := X.mg) (c := c) (P := P.ca 98) (ps := ps) (closure_ok hfree) I.ok.glob (I.mod.glob.keeps I.bk) hcode (TB.code.keeps I.bk) hP' ht hc TB.gP bP fun c' ctv doc h' tk hx hge hlt hrec htb => ?_
    obtain ⟨c2, oc, vs, t, e2, hoc, hd, hv⟩ := hrec
    cases e2
    have nC : H c' = none := I.hok.fresh hge
    have I1 := LamX.inv_table (t' := tk) (more := #[rawInt pos.line, rawInt pos.col, .ref c']) (h' := h') I hP (fun b o hb e => hx b o hb e) htb hge ⟨oc, vs, t, hoc, hd, hv⟩
    have nF := I1.hok.fresh (Nat.le_refl _)
    have nF0 : H h'.objs.size = none := I.hok.fresh (Nat.le_trans hge (Nat.le_of_lt hlt))
    have I2 := NdefX.inv_fn (F := ⟨"come", X.env.qual ++ "come", C8.fnArgs P.nd, C8.fnBody P.nd, C8.fnScope P.nd, cloFrom X.env.cells (C8.fnScope P.nd).names [], c'⟩) (t' := tk) (doc := doc) (pm := (X.mg "__name__").getD .none) (ctv := ctv) I1 rfl
    have I3 : Inv X pins σ (upd (upd (upd H (P.ca 98) (.tbl (ps ++ #[rawInt pos.line, rawInt pos.col, .ref c']))) c' (LamX.CodeO c' QN)) h'.objs.size (NdefX.FnO h'.objs.size (P.nf cc c'))) { s with heap := h'.push (PySem.W.fnMade "come" (X.env.qual ++ "come") (C8.fnArgs P.nd) (C8.fnBody P.nd) (C8.fnScope P.nd) (cloFrom X.env.cells (C8.fnScope P.nd).names []) doc ((X.mg "__name__").getD .none) c' ctv), toks := tk } := by
      rw [← hF, ← hq]
      exact I2
    have cf : c' ≠ h'.objs.size := Nat.ne_of_lt hlt
    have same : ∀ b, b ≠ P.ca 98 → b ≠ c' → b ≠ h'.objs.size → (upd (upd (upd H (P.ca 98) (.tbl (ps ++ #[rawInt pos.line, rawInt pos.col, .ref c']))) c' (LamX.CodeO c' QN)) h'.objs.size (NdefX.FnO h'.objs.size (P.nf cc c'))) b = H b := fun b h1 h2 h3 => by rw [upd_ne h3, upd_ne h2, upd_ne h1]
    have fw : Fw G H G (upd (upd (upd H (P.ca 98) (.tbl (ps ++ #[rawInt pos.line, rawInt pos.col, .ref c']))) c' (LamX.CodeO c' QN)) h'.objs.size (NdefX.FnO h'.objs.size (P.nf cc c'))) := fun a o e _ g =>
      ⟨by rw [same a (fun z => by rw [z, hT] at g; cases g) (ne_of_none e nC) (ne_of_none e nF0)]; exact e, g⟩
    refine h _ _ _ _ I3 fw (fun a o e => ?_) (rp.free nF0) (rp.free nC) upd_same ((upd_ne cf).trans upd_same)
    by_cases ea : a = P.ca 98
    · subst ea
      rw [hT] at e
      cases e
      have eL : (ps ++ #[rawInt pos.line, rawInt pos.col, .ref c']).toList = ps.toList ++ [rawInt pos.line, rawInt pos.col, .ref c'] := by simp
      refine ⟨rfl, _, by rw [upd_ne (ne_of_none hP nF0), upd_ne (ne_of_none hP nC), upd_same], by rw [eL]; exact PySem.TriplesOk_snoc _ _ _ _ ht, fun p' cv hcv => ?_⟩
      rw [eL] at hcv
      rcases NdefX.among_app2 _ ht hcv with z | ⟨z, _, _⟩
      · obtain ⟨c0, e1, e2, e3⟩ := ha p' cv z
        exact ⟨c0, e1, (fw c0 _ e2 rfl e3).1, e3⟩
      · exact ⟨c', z, (upd_ne cf).trans upd_same, rp.free nC⟩
    · exact (rp a o e).fw rp fw (same a ea (fun z => by rw [z, rp.free nC] at e; cases e) fun z => by rw [z, rp.free nF0] at e; cases e)
  | some cv =>
    obtain ⟨c', e, hco, hg⟩ := ha pos cv hc
    subst e
    refine PySem.W.makeFunction_hit (mg := X.mg) (c := c) (P := P.ca 98) (ps := ps) (closure_ok hfree) I.ok.glob (I.mod.glob.keeps I.bk) hcode (TB.code.keeps I.bk) hP' ht hc bP fun ctv doc h' tk hx hsz => ?_
    have I1 : Inv X pins σ H { s with heap := h', toks := tk } := I.kept hx
    have nF : H h'.objs.size = none := I1.hok.fresh (Nat.le_refl _)
    have I2 := NdefX.inv_fn (F := ⟨"come", X.env.qual ++ "come", C8.fnArgs P.nd, C8.fnBody P.nd, C8.fnScope P.nd, cloFrom X.env.cells (C8.fnScope P.nd).names [], c'⟩) (t' := tk) (doc := doc) (pm := (X.mg "__name__").getD .none) (ctv := ctv) I1 rfl
    have I3 : Inv X pins σ (upd H h'.objs.size (NdefX.FnO h'.objs.size (P.nf cc c'))) { s with heap := h'.push (PySem.W.fnMade "come" (X.env.qual ++ "come") (C8.fnArgs P.nd) (C8.fnBody P.nd) (C8.fnScope P.nd) (cloFrom X.env.cells (C8.fnScope P.nd).names []) doc ((X.mg "__name__").getD .none) c' ctv), toks := tk } := by
      rw [← hF]
      exact I2
    exact h _ _ _ _ I3 (.hid nF) (rp.hid nF) (rp.free nF) hg upd_same ((upd_ne (ne_of_none hco nF)).trans hco)
/-- what is known of the def's text -/
structure NdOk (nd : Stmt) : Prop where
  st : ∃ pos, nd = .FunctionDef "come" (C8.fnArgs nd) (C8.fnBody nd) [] none [] (C8.fnScope nd) none "come" pos
  clo : ∀ cells, cloFrom cells (C8.fnScope nd).names [] = [(("kept" : Str), (cells.lookup ("kept" : Str)).getD 0)]
  free : ∀ y ∈ (C8.fnScope nd).names, y.2 = .free → y.1 = "kept"
  df : (C8.fnArgs nd).defaults = []
  kw : (C8.fnArgs nd).kw_defaults = []
  an : ∀ env, annTrees (C8.fnArgs nd) none env = []
/-- the body of the def around: the list kept, the def, the return -/
theorem clo_body {st1 : Stmt} {p3 pos3 : Pos} {t : WTE} {i j : Nat} {σw : WSt} {xs : List Int} {c T : Addr} {cc : Addr} (ND : NdOk P.nd) (I : Inv X pins σ H s) (rs : RelSt P G H σw σ) (rp : Rep P G H) (hT : G T = some .tab)
    (TB : LamX.TabB X.base X.mg c (P.ca 98)) (hcode : X.env.code = .ref c) (hq : X.env.qual ++ "come" = QN) (hcc : X.env.cells.lookup ("kept" : Str) = some cc) (hN : X.N.Nodup) (hi : X.N[i]? = some "kept") (hj : X.N[j]? = some "come") (hij : i ≠ j)
    (hk : X.env.scope.names.lookup ("kept" : Str) = some .cell) (hl : X.env.scope.names.lookup ("come" : Str) = some .local) (h1 : JS P X st1 (wAsg t (wN i))) (hil : i < σw.length)
    (ht : t σw G (fun w G' => w = .il (xs.map W.int) ∧ G' = G) noX) :
    wpAny (model X.prog X.w) X.A (execs [st1, P.nd, .Return (some (.Name "come" p3)) pos3] X.env) (fun fl s' => ∃ f cd l σ' H', fl = .ret (.ref f) ∧ Inv X pins σ' H' s' ∧ Fw G H G H' ∧ Rep P G H' ∧ G f = none ∧ G cd = none ∧
      H' f = some (NdefX.FnO f (P.nf cc cd)) ∧ H' cd = some (LamX.CodeO cd QN) ∧ s'.heap.IsCell cc (some (.ref l)) ∧ RoL G H' l (xs.map V.int)) X.xe s := by
  obtain ⟨⟨pos, hnd⟩, clo, free, df, kw, an⟩ := ND
  have r1 := (h1 G H noX takesF).run pins s σ H { nx := fun σ1 H1 => ∃ l, σ1[i]? = some (some (.ref l)) ∧ Fw G H G H1 ∧ Rep P G H1 ∧ RoL G H1 l (xs.map V.int), rt := fun _ _ => False } I
    ⟨σw, G, { nx := fun σ1 G1 => wGet σ1 i = some (.il (xs.map W.int)) ∧ G1 = G, rt := fun _ _ => False, bk := fun _ _ => False, ct := fun _ _ => False }, .refl _ _, rs, rp, ?_, fun σ1 G1 σ2 H2 f2 rs2 rp2 ⟨e1, e2⟩ => ?_, fun _ _ _ _ _ _ _ q => q, fun _ _ _ _ _ _ _ q => q, fun _ _ _ _ _ _ _ q => q⟩
  rotate_left
  · show t σw G (fun x G1 => wN i x σw G1 _ noX) noX
    have e : (fun (x : W) (G1 : WHp) => wN i x σw G1 (fun (σ1 : WSt) (G1 : WHp) => wGet σ1 i = some (.il (xs.map W.int)) ∧ G1 = G) noX) = (fun x G1 => wGet (σw.set i (some x)) i = some (.il (xs.map W.int)) ∧ G1 = G) := rfl
    rw [e]
    have gs : ∀ (l : WSt) (i : Nat) (w : W), i < l.length → wGet (l.set i (some w)) i = some w := by
      intro l
      induction l with
      | nil => intro i w h; simp at h
      | cons o r ih =>
        intro i w h
        cases i with
        | zero => rfl
        | succ i => exact ih i w (by simpa using h)
    have e2 : (fun (x : W) (G1 : WHp) => wGet (σw.set i (some x)) i = some (.il (xs.map W.int)) ∧ G1 = G) = (fun w G' => w = .il (xs.map W.int) ∧ G' = G) := by
      funext w G'
      rw [gs σw i w hil]
      simp
    rw [e2]
    exact ht
  · subst e2
    obtain ⟨v, hv, rv⟩ := rs2.get e1
    cases rv with
    | il a vs ws h r =>
      have e3 : vs = xs.map V.int := relWs_ints r
      subst e3
      exact ⟨a, hv, f2, rp2, h⟩
  refine wpAny_execs_cons (thn r1 fun fl s1 q => ?_)
  cases fl with
  | ret v => obtain ⟨_, _, _, _, _, q⟩ := q; exact q.elim
  | brk => obtain ⟨_, _, _, q⟩ := q; exact q.elim
  | cont => obtain ⟨_, _, _, q⟩ := q; exact q.elim
  | next =>
    obtain ⟨σ1, H1, I1, l, hl1, f1, rp1, rl1⟩ := q
    rw [show ([P.nd, .Return (some (.Name "come" p3)) pos3] : List Stmt) = [.FunctionDef "come" (C8.fnArgs P.nd) (C8.fnBody P.nd) [] none [] (C8.fnScope P.nd) none "come" pos, .Return (some (.Name "come" p3)) pos3] by rw [← hnd]]
    refine wpAny_execs_cons (PySem.W.nestDef_K df kw (an _) ?_)
    have hq2 : qualnameIn X.env "come" "come" = X.env.qual ++ "come" := by
      have hk : X.env.kindOf "come" = some .local := hl
      unfold qualnameIn
      rw [hk]
      first | rfl | exact if_neg (by decide)
    rw [hq2]
    refine clo_make I1 rp1 TB hcode hT hq hcc clo free fun f cd H2 s2 I2 f2 rp2 gf gc e1 e2 => ?_
    refine store_ok I2 hN hj (.inl hl) (v := .ref f) rfl (fun s3 I3 => ?_) (.inr hl)
    refine wpAny_execs_cons (wpAny_Return_some (thn ((pe_var (pos := p3) hj (.inl hl) (by decide) (by decide)).run pins s3 _ H2 (fun v H' => v = .ref f ∧ H' = H2) I3 ⟨.ref f, ?_, rfl, rfl⟩) fun u s4 ⟨v, H', I4, rv, ev, eH⟩ => ?_))
    · have hjl : j < σ1.length := by rw [I2.len]; exact (List.getElem?_eq_some_iff.mp hj).1
      simp [hjl]
    · subst ev
      rw [eH] at I4
      obtain rfl : u = Value.ref f := rv
      obtain ⟨m, _, hm⟩ := I4.loc
      have h4 : (σ1.set j (some (.ref f)))[i]? = some (some (.ref l)) := by
        rw [List.getElem?_set_ne (Ne.symm hij)]
        exact hl1
      obtain ⟨u, ru, lk⟩ := hm i "kept" _ hi h4 (.inr (.inl hk))
      obtain rfl : u = Value.ref l := ru
      rcases lk with ⟨z, _⟩ | ⟨_, c1, z1, z2⟩
      · have z : X.env.scope.names.lookup ("kept" : Str) = some .local := z
        rw [hk] at z
        cases z
      · rw [hcc] at z1
        cases z1
        exact ⟨f, cd, l, _, H2, rfl, I4, f1.trans f2, rp2, gf, gc, e1, e2, z2, rl1.fw f2⟩
end
/-- what the def around promises -/
def spClo : WSp := fun ws G Q E => ∃ w xs T, ws = [w] ∧ sqT G w = some (xs.map W.int) ∧ G T = some .tab ∧ Q (.clo xs) G
theorem len_spClo : ∀ ws G Q E, spClo ws G Q E → ws.length = (["comings"] : List Str).length := fun ws G Q E ⟨_, _, _, h, _⟩ => by rw [h]; rfl

section
variable {P : Par} {f : Addr} {fd : FuncData} {x : Str} {p pos : Pos} {e : Expr} {es : List Expr}
/-- the def around, by its body -/
theorem Fun.okClo {k : Nat} {N : List Str} {prog : Program} {w : World} {mg : Str → Option Value} {base : Heap} {st st1 : Stmt} {p3 pos3 : Pos} {i j : Nat} {te : WTE} {c : Addr} (F : Fun P.K "coming_by" "coming_by" st f fd) (S : FnScope N ["comings"] (defScope st)) (ND : NdOk P.nd)
    (hi : N[i]? = some "kept") (hj : N[j]? = some "come") (hij : i ≠ j) (hbody : defBody st = [st1, P.nd, .Return (some (.Name "come" p3)) pos3]) (hk : (defScope st).names.lookup ("kept" : Str) = some .cell) (hl : (defScope st).names.lookup ("come" : Str) = some .local)
    (hcd : fd.code = .ref c) (TB : LamX.TabB base mg c (P.ca 98))
    (h1 : ∀ cdv A outer s H E, JS P (cxOf (L2.CX prog w) prog w P.K mg base N "coming_by" (defScope st) f cdv A outer s H E) st1 (wAsg te (wN i)))
    (ht : ∀ (wv : W) (xs : List Int) (G : WHp), sqT G wv = some (xs.map W.int) → te (wStart N [wv]) G (fun w G' => w = .il (xs.map W.int) ∧ G' = G) noX) : FnW P prog w mg base (k + 1) f fd ["comings"] spClo := by
  obtain ⟨oc, od, kV, doc, pm, an, cdv, ct, osl, rfl, lk, hcdI⟩ := F.ex
  obtain rfl : cdv = .ref c := hcd
  refine ⟨fun vs H Q E h => ?_, fun A outer s H args us vs Q E hr e0 hb r hsp => ?_⟩
  · obtain ⟨ws, G, Qw, Ew, r, _, h, _⟩ := h
    rw [← r.length]
    exact len_spClo _ _ _ _ h
  obtain ⟨ws, G, Qw, Ew, rw_, rp, ⟨wv, xs, T, hws, hxs, hT, hQ⟩, hq, hE⟩ := hsp
  subst hws
  have hl1 : vs.length = (["comings"] : List Str).length := by rw [← rw_.length]; rfl
  have KX : P.K.In s.heap := e0.mod.kin.keeps fun b o e => (e0.bs b o e).1
  have lim : s.heap.NoLimit := e0.mod.nolimit.keeps fun b o e => (e0.bs b o e).1
  have hkind : ∀ y ∈ (["comings"] : List Str).zip us, (defScope st).names.lookup y.1 = some .local ∨ ((defScope st).names.lookup y.1 = some .cell ∧ ((cellsFrom (s.heap.objs.size + 1) (defScope st).names []).lookup y.1).isSome = true) := fun ⟨n, v⟩ hy => by
    rcases S.par n (List.of_mem_zip hy).1 with q | q
    · exact .inl q
    · exact .inr ⟨q, PySem.W.cellsFrom_some _ _ _ (.inl q)⟩
  refine codeAny_call_function hr.depth (KX _ _ lk) rfl S.co S.gen rfl (PySem.W.codeRec_of KX hcdI) (hb _ _ _ _ ?_)
  refine wpAny_newFunctionEnv_cells S.kind hkind fun env he s1 x => ?_
  subst he
  refine ⟨lim.keeps x.toInCall.keep, codeAny_func ?_⟩
  have I : Inv (cxOf (L2.CX prog w) prog w P.K mg base N "coming_by" (defScope st) f (.ref c) A outer s H E) [] (L2.start N vs) H s1 := inv_start S hr.hd e0 hl1 r x
  obtain ⟨cc, hcc⟩ : ∃ cc, (cxOf (L2.CX prog w) prog w P.K mg base N "coming_by" (defScope st) f (.ref c) A outer s H E).env.cells.lookup ("kept" : Str) = some cc := I.ok.has "kept" (.inl hk)
  have hiN : i < N.length := (List.getElem?_eq_some_iff.mp hi).1
  have rs : RelSt P G H (wStart N [wv]) (L2.start N vs) := by
    unfold wStart L2.start
    rw [rw_.length]
    exact RelSt.start N _ rw_
  have hlen : i < (wStart N [wv]).length := by
    unfold wStart
    simp
    omega
  rw [hbody]
  refine wpAny_mono (clo_body (p3 := p3) (pos3 := pos3) (c := c) ND I rs rp hT TB rfl (by exact (by decide +kernel : ("coming_by.<locals>." : Str) ++ "come" = QN)) hcc S.nd hi hj hij hk hl (h1 _ A outer s H E) hlen (ht wv xs G hxs)) (fun fl s' hs => ?_) fun e s' hs => hs
  obtain ⟨f', cd, l, σ', H', rfl, J, fw, rp', gf, gc, e1, e2, ic, rl⟩ := hs
  have nC : H' cc = none := J.freeC _ _ hcc
  have fresh : s.heap.get? cc = none := Heap.get?_none_of_le (J.ok.cab "kept" cc rfl hcc)
  have un : Un (frs outer) [] H H' s.heap s'.heap := J.base
  have fc : Fw G H' G (upd H' cc (CellO cc l)) := .hid nC
  refine ⟨.ref f', upd H' cc (CellO cc l), J.os, J.bare, ⟨un.keep, un.slot, fun b o q n hx => ?_, un.there, fun b xs q => ?_, fun b o u q => ?_, fun b ps q => ?_⟩, fun b u e => ?_, rfl, ?_⟩
  · rw [upd_ne (fun z => by rw [z, fresh] at q; cases q)]
    exact un.free b o q n hx
  · have z := un.tups b xs q
    rw [upd_ne (ne_of_none z nC)]
    exact z
  · have z := un.frzs b o u q
    rw [upd_ne (ne_of_none z nC)]
    exact z
  · obtain ⟨m, z⟩ := un.tbls b ps q
    exact ⟨m, by rw [upd_ne (ne_of_none z nC)]; exact z⟩
  · by_cases hb : b = cc
    · subst hb
      rw [upd_same] at e
      cases e
      obtain ⟨o, ho, hd⟩ := ic
      exact ⟨⟨o, ho, hd⟩, ⟨o, ho⟩, fun h1 h2 ⟨o1, q1, q2⟩ st => ⟨o1, st _ q1, q2⟩⟩
    · rw [upd_ne hb] at e
      exact (J.hok b u e).stay (fun c v _ q => q) (fun c q => by rw [upd_ne (ne_of_none q nC)]; exact q) fun c xs q => by rw [upd_ne (ne_of_none q nC)]; exact q
  · exact hq (.clo xs) G (.ref f') _ (fw.trans fc) (.clo f' cc cd l xs (fc f' _ e1 rfl gf).1 upd_same (fc cd _ e2 rfl gc).1 ⟨gf, rp'.free nC, gc⟩ (rl.fw fc)) (rp'.hid nC) hQ
end
/-! ### its calls -/
abbrev spCome : List (Option V) → Sp := fun ws vs H Q E => ∃ (l : Addr) (xs : List Int) (t v : Int), ws = [some (.ref l)] ∧ vs = [.int t] ∧ H l = some (.lst (xs.map V.int)) ∧ 0 < xs.length ∧ xs[(t % (xs.length : Int)).toNat]? = some v ∧ Q (.int v) H
def CloOk (P : Par) (prog : Program) (w : World) (mg : Str → Option Value) (base : Heap) : Prop := ∀ f c cd, NdefX.NOk prog w P.K mg base CX0 1 f (P.nf c cd) ["turn"] ["kept"] spCome
abbrev tCome (K : PySem.W.Frag) : TS := tRet (tOp (rIxL K) (tVar 1) (tOp (rI (fun _ j => 0 < j) fun i j => .int (i % j)) (tVar 0) (tCB (fun xs H Q => ∃ p ys, xs = [.ref p] ∧ (SqL K H p ys ∨ SqT K H p ys) ∧ Q (.int ys.length) H) (tCons (tVar 1) tNil))))
theorem come_pure {K : PySem.W.Frag} {ws : List (Option V)} {vs : List V} {H : Hp} {Q : VK} {E : XK} (h : spCome ws vs H Q E) : tCome K { nx := fun _ H' => Q .non H', rt := Q } (NdefX.startF ["turn", "kept"] vs ws) H := by
  obtain ⟨l, xs, t, v, rfl, rfl, hl, h0, hv, q⟩ := h
  have hm : 0 ≤ t % (xs.length : Int) := Int.emod_nonneg _ (by omega)
  have hm2 : t % (xs.length : Int) < xs.length := Int.emod_lt_of_pos _ (by omega)
  refine ⟨_, rfl, _, rfl, _, rfl, l, xs.map V.int, rfl, .inl (.of hl), t, _, rfl, rfl, by simp; omega, l, xs.map V.int, _, .int v, rfl, rfl, .of hl, ?_, q⟩
  unfold atI
  have e : ixN xs.length (t % (xs.length : Int)) = some (t % (xs.length : Int)).toNat := by
    unfold ixN
    rw [if_pos hm, if_pos (by omega)]
  simp only [List.length_map, e]
  simp [hv]
def wCallClo (tf te : WTE) : WTE := fun σ G Q E => tf σ G (fun x G1 => ∃ xs, x = .clo xs ∧ te σ G1 (fun y G2 => ∃ t v, y = .int t ∧ 0 < xs.length ∧ xs[(t % (xs.length : Int)).toNat]? = some v ∧ Q (.int v) G2) E) E
theorem delN {H : Hp} {c b : Addr} (h : H b = none) : delH H c b = none := by
  unfold delH
  split
  · rfl
  · exact h
section
variable {P : Par} {X : Cx} {fe e : Expr} {tf te : WTE} {pos : Pos}
theorem je_clo (C : CloOk P X.prog X.w X.mg X.base) (hr : Room 1 X.A) (hf : JE P X fe tf) (he : JE P X e te) (hK : X.K = P.K := by rfl)
    (ht : eval (.Call fe [e] [] pos) X.env = (do callWith pos (← eval fe X.env) [] (backTo pos (starEach [e] X.env)) (backToKw pos (keywordEach [] X.env))) := by rfl)
    (hst : starEach [e] X.env = (false, eval e X.env) :: starEach [] X.env := by rfl) (hpl : (backTo pos (starEach [] X.env)).any (·.1) = false := by rfl) : JE P X (.Call fe [e] [] pos) (wCallClo tf te) := fun Ga Ha Ew tk => by
  refine ⟨fun pins s σ H Q I h => ?_⟩
  obtain ⟨σw, G, Qw, fa, rs, rp, h1, hq⟩ := h
  have C1 : ∀ f c cd, NdefX.NOk X.prog X.w X.K X.mg X.base CX0 1 f (P.nf c cd) ["turn"] ["kept"] spCome := by rw [hK]; exact C
  rw [ht]
  refine wpAny_bind (thn ((hf Ga Ha Ew tk).run pins s σ H (fun v H1 => ∃ G1 xs, Fw G H G1 H1 ∧ Rep P G1 H1 ∧ RelW P G1 H1 (.clo xs) v ∧ te σw G1 (fun y G2 => ∃ t v, y = .int t ∧ 0 < xs.length ∧ xs[(t % (xs.length : Int)).toNat]? = some v ∧ Qw (.int v) G2) Ew) I
    ⟨σw, G, _, fa, rs, rp, h1, fun w G1 v H1 f1 r1 p1 ⟨xs, ex, q⟩ => ⟨G1, xs, f1, p1, by rw [← ex]; exact r1, q⟩⟩) fun u s1 ⟨v, H1, I1, rv, G1, xs, f1, p1, r1, h2⟩ => ?_)
  cases r1 with
  | clo f c cd l xs a1 a2 a3 g1 l1 =>
    obtain rfl : u = Value.ref f := rv
    refine PySem.W.callWith_F (first := []) (NdefX.fnAt_of I1 a1) (thn ((ja_cons he ja_nil hst Ga Ha Ew tk).run pos pins s1 σ H1 (fun vs H2 => ∃ G2 t v, Fw G1 H1 G2 H2 ∧ Rep P G2 H2 ∧ vs = [.int t] ∧ 0 < xs.length ∧ xs[(t % (xs.length : Int)).toNat]? = some v ∧ Qw (.int v) G2) I1
      ⟨σw, G1, fun ws G2 => ∃ t v, ws = [.int t] ∧ 0 < xs.length ∧ xs[(t % (xs.length : Int)).toNat]? = some v ∧ Qw (.int v) G2, fa.trans f1, rs.fw rp f1, p1, ?_, fun ws G2 vs H2 f2 r2 p2 ⟨t, v, e1, e2, e3, e4⟩ => ?_⟩) fun us s2 ⟨vs, H2, I2, rvs, G2, t, v, f2, p2, evs, h0, hv, q⟩ => ⟨NdefX.fnAt_of I2 (f2 f _ a1 rfl g1.1).1, ?_⟩) hst hpl
    · show te σw G1 (fun x G2 => ∃ t v, [x] = [W.int t] ∧ _) Ew
      have e : (fun (x : W) (G2 : WHp) => ∃ t v, [x] = [W.int t] ∧ 0 < xs.length ∧ xs[(t % (xs.length : Int)).toNat]? = some v ∧ Qw (.int v) G2) = (fun (y : W) (G2 : WHp) => ∃ t v, y = .int t ∧ 0 < xs.length ∧ xs[(t % (xs.length : Int)).toNat]? = some v ∧ Qw (.int v) G2) := by
        funext y G2
        simp
      rw [e]
      exact h2
    · subst e1
      cases r2 with
      | cons _ v1 _ vs1 ra rb =>
        cases ra
        cases rb
        exact ⟨G2, t, v, f2, p2, rfl, e2, e3, e4⟩
    · show wpAny _ _ (call (.ref f) us) _ _ _
      subst evs
      have b1 := (f2 f _ a1 rfl g1.1)
      have b2 := (f2 c _ a2 rfl g1.2.1)
      have b3 := (f2 cd _ a3 rfl g1.2.2)
      have b4 := l1.fw f2
      have ic : s2.heap.IsCell c (some (.ref l)) := cellO_at I2.hok b2.1
      have nfc : f ≠ c := fun z => by
        obtain ⟨od, sl, doc, pm, ctv, ho2⟩ := NdefX.fnO_at I2.hok b1.1
        obtain ⟨o, ho, hd⟩ := ic
        rw [z, ho] at ho2
        cases ho2
        cases hd
      have nlc : l ≠ c := fun z => by
        have z1 := b4.1
        rw [z, b2.1] at z1
        cases z1
      have ncc : cd ≠ c := fun z => by
        obtain ⟨oc, vs, t, q1, q2, _⟩ := (I2.hok cd _ b3.1).1
        obtain ⟨o, ho, hd⟩ := ic
        rw [z, ho] at q1
        cases q1
        rw [hd] at q2
        cases q2
      have e0 := I2.env0
      have hokd : HOk X.prog X.w (delH H2 c) s2.heap := fun b u e => by
        by_cases hb : b = c
        · rw [hb, delH_same] at e
          cases e
        · rw [delH_ne hb] at e
          exact (I2.hok b u e).stay (fun c v _ q => q) (fun d q => by rw [delH_ne (fun z => by rw [z, b2.1] at q; cases q)]; exact q) fun d xs q => by rw [delH_ne (fun z => by rw [z, b2.1] at q; cases q)]; exact q
      refine wpAny_call (codeAny_mono ((C1 f c cd).run X.A X.stack s2 (delH H2 c) us [.int t] [some (.ref l)] (fun v' H' => v' = .int v ∧ H' = delH H2 c) E0 hr
        ⟨e0.frames, e0.mod, fun b o e => ⟨(e0.bs b o e).1, delN (e0.bs b o e).2⟩, e0.bsz, e0.funs, fun b hb => delN (e0.frf b hb), hokd, e0.bare⟩ (by rw [delH_ne nfc]; exact b1.1) (by rw [show (P.nf c cd).c = cd from rfl, delH_ne ncc]; exact b3.1)
        ⟨rfl, fun y c' e => ?_, fun y z c' e1 e2 => ?_, fun i y e => ?_⟩ rvs ⟨l, xs, t, v, rfl, rfl, by rw [delH_ne nlc]; exact b4.1, h0, hv, rfl, rfl⟩) fun r s' hq' => ?_)
      · have e : List.lookup y [(("kept" : Str), c)] = some c' := e
        by_cases hy : (y == ("kept" : Str)) = true
        · simp [List.lookup, hy] at e
          subst e
          exact ⟨delH_same, _, ic⟩
        · simp [List.lookup, hy] at e
      · have k : ∀ {y : Str}, (P.nf c cd).cl.lookup y = some c' → y = "kept" := fun {y} e => by
          have e : List.lookup y [(("kept" : Str), c)] = some c' := e
          by_cases hy : (y == ("kept" : Str)) = true
          · exact eq_of_beq hy
          · simp [List.lookup, hy] at e
        rw [k e1, k e2]
      · have hi : i = 0 := by
          have := (List.getElem?_eq_some_iff.mp e).1
          simp at this
          omega
        subst hi
        cases e
        refine ⟨c, by show List.lookup ("kept" : Str) [(("kept" : Str), c)] = some c; simp [List.lookup], fun v ev => ?_⟩
        cases ev
        exact ⟨_, rfl, ic⟩
      · cases r with
        | error e => exact hq'.elim
        | ok fl =>
          cases fl with
          | next => exact False.elim hq'
          | brk => exact False.elim hq'
          | cont => exact False.elim hq'
          | ret u =>
            obtain ⟨v', H', os, bare, un, hok, rv', rfl, rfl⟩ := hq'
            refine I2.after ⟨.int v, H2, os, bare, ⟨fun b o e n => un.keep b o e (delN n), fun b o e n => un.slot b o e (delN n), fun b o e n _ => n, un.there, fun b xs e => e, fun b o u e => e, fun b ps e => ⟨#[], by rw [e]; simp⟩⟩, fun b u e => ?_, rv', hq _ G2 _ H2 (f1.trans f2) (.int v) p2 q⟩
            by_cases hb : b = c
            · rw [hb, b2.1] at e
              cases e
              obtain ⟨o, ho, hd⟩ := ic
              have k := un.keep c o ho delH_same (fun z => by rw [e0.frf c z] at b2; cases b2.1) (by simp)
              rw [hb]
              exact ⟨⟨o, k, hd⟩, ⟨o, k⟩, fun h1 h2 ⟨o1, q1, q2⟩ st => ⟨o1, st _ q1, q2⟩⟩
            · exact (hok b u (by rw [delH_ne hb]; exact e)).stay (fun c v hc q => q) (fun d q => by
                by_cases hd : d = c
                · rw [hd, delH_same] at q; cases q
                · rw [delH_ne hd] at q; exact q) fun d xs q => by
                by_cases hd : d = c
                · rw [hd, delH_same] at q; cases q
                · rw [delH_ne hd] at q; exact q
end
/-! ### the law's promise, a table beside -/
def tabOf (K : PySem.W.Frag) (c : Addr) : Option Addr := match K.lookup c with
  | some ⟨_, _, .fields vs, _⟩ => (match (vs[11]? : Option Value) with | some (.ref P) => some P | _ => none)
  | _ => none
def spLawT : WSp := fun ws G Q _ => ∃ (ns : List Int) (T : Addr), ws = [.sc ns] ∧ ns.length ≤ 63 ∧ G = updG (fun _ => none) T .tab ∧ ∀ G', Q (.bl true) G'
def spLawVT (K : PySem.W.Frag) (T : Addr) : Sp := fun vs H Q _ => ∃ (a : Addr) (ns : List Int), vs = [.ref a] ∧ ns.length ≤ 63 ∧ H T = some (.tbl #[]) ∧ SqL K H a (ns.map V.int) ∧ ∀ H', Q (.bl true) H'
def spLawVF (K : PySem.W.Frag) (T : Addr) : Sp := fun vs H Q _ => ∃ (a : Addr) (ns : List Int), vs = [.ref a] ∧ ns.length ≤ 63 ∧ H T = some (.tbl #[]) ∧ ((∃ o, H a = some (.frz o (.lst (ns.map V.int)))) ∨ SqL K (fun _ => none) a (ns.map V.int)) ∧ ∀ H', Q (.bl true) H'
theorem law_impT (P : Par) : ∀ vs H Q E, spLawVF P.K (P.ca 98) vs H Q E → embSp P spLawT vs H Q E := fun vs H Q E ⟨a, ns, e, hl, hT, hS, q⟩ => by
  subst e
  refine ⟨[.sc ns], updG (fun _ => none) (P.ca 98) .tab, fun w _ => w = .bl true, fun _ _ => False, .cons _ _ _ _ (.sc a ns hS) .nil, fun b o e => ?_, ⟨ns, P.ca 98, rfl, hl, rfl, fun _ => rfl⟩, fun w G' v H' _ r' _ e => by subst e; cases r'; exact q H', fun _ _ _ _ _ _ _ _ z => z.elim⟩
  by_cases hb : b = P.ca 98
  · subst hb
    rw [updG_same] at e
    cases e
    exact ⟨rfl, #[], hT, True.intro, fun pos cv hc => by
      have z : codeAmong pos [] = some cv := hc
      simp [codeAmong] at z⟩
  · rw [updG_ne hb] at e
    cases e
theorem thaw {prog : Program} {w : World} {K : PySem.W.Frag} {mg : Str → Option Value} {base : Heap} {k : Nat} {fa T : Addr} {fd : FuncData} {ps : List Str} (F : FnOk prog w K mg base (L2.CX prog w) k fa fd ps (spLawVF K T)) : FnOk prog w K mg base (L2.CX prog w) k fa fd ps (spLawVT K T) := by
  refine ⟨fun vs H Q E ⟨a, ns, e, hl, hT, hS, q⟩ => ?_, fun A outer s H args us vs Q E hr e0 hb r ⟨a, ns, e, hl, hT, hS, q⟩ => ?_⟩
  · rw [e]
    have nT : T ≠ T + 1 := Nat.ne_of_lt (Nat.lt_succ_self T)
    exact F.len [.ref (T + 1)] (fun b => if b = T then some (.tbl #[]) else if b = T + 1 then some (.frz ⟨.none, none, .plain, #[]⟩ (.lst (ns.map V.int))) else none) (fun _ _ => True) (fun _ _ _ => True)
      ⟨T + 1, ns, rfl, hl, if_pos rfl, .inl ⟨_, by dsimp only; rw [if_neg (Ne.symm nT), if_pos rfl]⟩, fun _ => True.intro⟩
  · rcases hS with (hS | ⟨o, hS⟩) | hS
    · obtain ⟨hz, its, n, rv, ho⟩ := e0.hok a _ hS
      have nT : T ≠ a := fun z => by rw [z, hS] at hT; cases hT
      have nA : ∀ b, H b = none → b ≠ a := fun b e z => by rw [z, hS] at e; cases e
      have e1 : Env0 prog w K mg base A outer s (upd H a (.frz { cls := .type "list", data := .seq its.toArray n } (.lst (ns.map V.int)))) := ⟨e0.frames, e0.mod, fun b o e => ⟨(e0.bs b o e).1, by rw [upd_ne (nA b (e0.bs b o e).2)]; exact (e0.bs b o e).2⟩, e0.bsz, e0.funs, fun b hb => by rw [upd_ne (nA b (e0.frf b hb))]; exact e0.frf b hb, fun b u e => by
        by_cases hb : b = a
        · rw [hb, upd_same] at e
          cases e
          rw [hb]
          exact ⟨ho, hz, its, n, rv, ho⟩
        · rw [upd_ne hb] at e
          exact (e0.hok b u e).stay (fun c v _ q => q) (fun c q => by rw [upd_ne (fun z => by rw [z, hS] at q; cases q)]; exact q) fun c xs q => by rw [upd_ne (fun z => by rw [z, hS] at q; cases q)]; exact q, e0.bare⟩
      refine codeAny_mono (F.run A outer s _ args us vs (fun v _ => v = .bl true) (fun _ _ _ => False) hr e1 hb r ⟨a, ns, e, hl, by rw [upd_ne nT]; exact hT, .inl ⟨_, upd_same⟩, fun _ => rfl⟩) fun res s' hq => ?_
      cases res with
      | error e =>
        obtain ⟨_, _, _, _, _, _, _, _, _, _, _, _, z⟩ := hq
        exact z.elim
      | ok fl =>
        cases fl with
        | next => exact False.elim hq
        | brk => exact False.elim hq
        | cont => exact False.elim hq
        | ret u =>
          obtain ⟨v, H2, os, bare, un, hok, rv2, e3⟩ := hq
          have h2a := un.frzs a _ _ upd_same
          have k2 : ∀ b, b ≠ a → upd H2 a (.lst (ns.map V.int)) b = H2 b := fun b h => upd_ne h
          refine ⟨v, upd H2 a (.lst (ns.map V.int)), os, bare, ⟨fun b o e n => un.keep b o e (by rw [upd_ne (nA b n)]; exact n), fun b o e n => un.slot b o e (by rw [upd_ne (nA b n)]; exact n), fun b o e n hx => by rw [upd_ne (nA b n)]; exact un.free b o e (by rw [upd_ne (nA b n)]; exact n) hx, un.there,
            fun b xs e => ?_, fun b o u e => ?_, fun b ps e => ?_⟩, fun b u e => ?_, rv2, by rw [e3]; exact q _⟩
          · have nb : b ≠ a := fun z => by rw [z, hS] at e; cases e
            rw [upd_ne nb]
            exact un.tups b xs (by rw [upd_ne nb]; exact e)
          · have nb : b ≠ a := fun z => by rw [z, hS] at e; cases e
            rw [upd_ne nb]
            exact un.frzs b o u (by rw [upd_ne nb]; exact e)
          · have nb : b ≠ a := fun z => by rw [z, hS] at e; cases e
            rw [upd_ne nb]
            exact un.tbls b ps (by rw [upd_ne nb]; exact e)
          · by_cases hb : b = a
            · rw [hb, upd_same] at e
              cases e
              rw [hb]
              obtain ⟨_, z⟩ := hok a _ h2a
              exact z
            · rw [upd_ne hb] at e
              exact (hok b u e).stay (fun c v _ q => q) (fun c q => by rw [upd_ne (fun z => by rw [z, h2a] at q; cases q)]; exact q) fun c xs q => by rw [upd_ne (fun z => by rw [z, h2a] at q; cases q)]; exact q
    · exact F.run A outer s H args us vs Q E hr e0 hb r ⟨a, ns, e, hl, hT, .inl ⟨o, hS⟩, q⟩
    · exact F.run A outer s H args us vs Q E hr e0 hb r ⟨a, ns, e, hl, hT, .inr (.inr hS), q⟩
end Lw
/-! W45: divmod of whole numbers. -/
namespace Lw
open PySem PySem.Spec PyProof.Rows L2
section
variable {P : Par} {X : Cx}
theorem boot_divmod : bootBuiltins "divmod" = some (.builtin "divmod") := by decide +kernel
def oDivmod : WRs := fun ws G Q => ∃ i j, ws = [.int i, .int j] ∧ CDivP i j ∧ Q (.tup [.int (i / j), .int (i % j)]) G
theorem oDivmod_int {i j : Int} {G : WHp} {Q : WQ} : oDivmod [.int i, .int j] G Q = (CDivP i j ∧ Q (.tup [.int (i / j), .int (i % j)]) G) := propext
  ⟨fun ⟨a, b, e, h, q⟩ => by cases e; exact ⟨h, q⟩, fun ⟨h, q⟩ => ⟨i, j, rfl, h, q⟩⟩
theorem cw_divmod : CallW P X (.builtin "divmod") oDivmod := CallR.imp call_divmodW fun vs H Q ⟨ws, G, Qw, r, rp, ⟨i, j, e0, hc, q⟩, hq⟩ => by
  subst e0
  obtain ⟨v, u, rfl, r1, r2⟩ := r.two
  cases r1
  cases r2
  exact ⟨_, _, rfl, hc, fun p hp => hq _ G _ _ (.hid hp) (.tup p _ _ (.inl (.inl upd_same)) (.cons _ _ _ _ (.int _) (.cons _ _ _ _ (.int _) .nil))) (rp.hid hp) q⟩
/-- a number of at most 4000 bits -/
theorem divp_small {i j : Int} (h0 : i.natAbs < 2 ^ 4000) (hj : 0 < j) : CDivP i j :=
  divp_ok hj (Nat.le_trans (intBits_le h0) (Nat.le_add_left _ _))
end
end Lw
namespace Lw
open PySem PySem.Spec PyProof.Rows L2
local macro_rules
  | `(tactic| simp! only [$as,*] $[$loc]?) => `(tactic| simp only [$as,*, wSeq, wAsg, wN, wOp, wUn, wC, wVar, wGet, wIf, wIfS, wTest, wAnd, wOr, wNot, wAndV, wOrV, wNotV, wChain, wRet, wRetN, wDrop, wNext, wCall, wNil, wCons, wTup, wLstI, isNonW, oIs, oIsNot, wSl, wPart, wNoPart, wCB, List.set_cons_zero, List.set_cons_succ, Option.some.injEq, exists_eq_left', exists_eq_left, wStart, List.map_cons, List.map_nil, List.length_cons, List.length_nil, List.replicate, List.cons_append, List.nil_append, oLen_str, oLen_tup, oLen_il, oLen_sc, oAdd_int, oAdd_str, oAdd_tup, oAdd_il, oNeg_int, oIx_sc, oIx_str, oIx_tup, oIx_il, oSl_str, oSl_tup, oSl_il, oSl_sc, oEq_int, oEq_str, oEq_bl, oNe_int, oNe_str, oNe_bl, oNe_nonint, oNe_intnon, oIn_sign, oNotIn_sign, oStr_int, oInt_int, oInt_bl, oMax2_int, oMin2_int, oIsi_ii, oIsi_ib, oIsi_bb, oIsi_bi, oIsi_ss, oIsi_ll, oIsi_tt, oIsi_ni, W.bl.injEq, W.int.injEq, W.str.injEq, decide_eq_true_eq, Bool.not_eq_true', decide_eq_false_iff_not, true_and, and_true, if_true, if_false, reduceIte, wFld, wMeth, wMake, wView, wFldSet, wRaise, wRaise0, wDnew, wDin, wDput, wDget1, wDget2, lk_hit, lt_NF, putW_nil, putW_hit, W.ref.injEq, exists_and_left, dOf_dk, kW_str, kW_int, Nat.reduceLT, obj_io, oSub_int, oMul_int, oMod_int, oDiv_int, oPow_int, oShl_int, oShr_int, oAnd_int, oOr_int, oLt_int, oLe_int, oGt_int, oGe_int, Int.reduceLT, Int.reduceLE, Nat.reduceLeDiff, big_val, wFor, wRng1, wRng2, wEnum, wIter_eq, iterQ_tup, iterQ_il, iterQ_sc, iterQ_str, srcL_il, srcL_sc, wLcG, List.cons.injEq, and_assoc, exists_eq', exists_eq, exists_const, gtup2, gtup3, lk_miss, Nat.reduceBEq, lk_nil, List.mem_singleton, unS, sizeLine_eq, Nat.reduceAdd, wLstRg1, wLstRg2, wLstRg3, wRng3, wIsE, wLstItems, wLstVals, wLstKeys, wDpop1, wBits, wLstRev, wFreeze, oRepM, wCallE, wIsN, wKd, mSljust, mSrjust, oMulS] $[$loc]?)
local macro_rules
  | `(tactic| simp_arith! only [$as,*]) => `(tactic| simp only [$as,*, wSeq, wAsg, wN, wOp, wUn, wC, wVar, wGet, wIf, wIfS, wTest, wAnd, wOr, wNot, wAndV, wOrV, wNotV, wChain, wRet, wRetN, wDrop, wNext, wCall, wNil, wCons, wTup, wLstI, isNonW, oIs, oIsNot, wSl, wPart, wNoPart, wCB, List.set_cons_zero, List.set_cons_succ, Option.some.injEq, exists_eq_left', exists_eq_left, wStart, List.map_cons, List.map_nil, List.length_cons, List.length_nil, List.replicate, List.cons_append, List.nil_append, oLen_str, oLen_tup, oLen_il, oLen_sc, oAdd_int, oAdd_str, oAdd_tup, oAdd_il, oNeg_int, oIx_sc, oIx_str, oIx_tup, oIx_il, oSl_str, oSl_tup, oSl_il, oSl_sc, oEq_int, oEq_str, oEq_bl, oNe_int, oNe_str, oNe_bl, oNe_nonint, oNe_intnon, oIn_sign, oNotIn_sign, oStr_int, oInt_int, oInt_bl, oMax2_int, oMin2_int, oIsi_ii, oIsi_ib, oIsi_bb, oIsi_bi, oIsi_ss, oIsi_ll, oIsi_tt, oIsi_ni, W.bl.injEq, W.int.injEq, W.str.injEq, decide_eq_true_eq, Bool.not_eq_true', decide_eq_false_iff_not, true_and, and_true, if_true, if_false, reduceIte, wFld, wMeth, wMake, wView, wFldSet, wRaise, wRaise0, wDnew, wDin, wDput, wDget1, wDget2, lk_hit, lt_NF, putW_nil, putW_hit, W.ref.injEq, exists_and_left, dOf_dk, kW_str, kW_int, Nat.reduceLT, obj_io, oSub_int, oMul_int, oMod_int, oDiv_int, oPow_int, oShl_int, oShr_int, oAnd_int, oOr_int, oLt_int, oLe_int, oGt_int, oGe_int, Int.reduceLT, Int.reduceLE, Nat.reduceLeDiff, big_val, wFor, wRng1, wRng2, wEnum, wIter_eq, iterQ_tup, iterQ_il, iterQ_sc, iterQ_str, srcL_il, srcL_sc, wLcG, List.cons.injEq, and_assoc, exists_eq', exists_eq, exists_const, gtup2, gtup3, lk_miss, Nat.reduceBEq, lk_nil, List.mem_singleton, unS, sizeLine_eq, Nat.reduceAdd, wLstRg1, wLstRg2, wLstRg3, wRng3, wIsE, wLstItems, wLstVals, wLstKeys, wDpop1, wBits, wLstRev, wFreeze, oRepM, wCallE, wIsN, wKd, mSljust, mSrjust, oMulS, wBm, wLstM, mAppend, mInsert, mExtend, mPop, mPopAt, mReverse, mClear, mSet, wGSub, mSjoin, mSsplit, mSsplitM, strsOf_map, updG_same, updG_updG, updG_ne, WO.lst.injEq, WO.dct.injEq, WO.obj.injEq, kdOk_l, kdOk_s, kdOk_d, oLen_r, oIx_r, oIsi_r, kit_ll, kit_dl, kit_dd, kit_ld, kit_lb, kit_li, oIsi_dd, iterQ_ref, srcL_ref, true_or, or_true, false_or, or_false, reduceCtorEq, Prod.mk.injEq, ne_eq, not_false_eq_true, oListI, oListM, strsOf_mm, cut1, cut2, cut3, at_hd, at_1, at_2, at_3, at_4, at_5, at_6, sqT_il, sqT_sc, sqT_tup, sqT_r, sqOf_il, sqOf_sc, sqOf_r, lstOf_il, lstOf_r, tyN_r, dOf_r, objOf_r, dOf_dk, pick_if, oIn_strs, oNotIn_strs, putW_miss, wBdisp, wBget2, wBput, WO.bd.injEq, WO.fz.injEq, oListD, mDclear, dcL_dk, dcL_ref, oAddM, mSupper, wCallClo, W.clo.injEq, oDivmod_int])
abbrev endsW (Q : WQ) : WEnds := { nx := fun _ G' => Q .non G', rt := Q, bk := fun _ _ => False, ct := fun _ _ => False }
/-! ### errors -/

/-! ### words -/
theorem spl_one (t c : Nat) (acc r : List Nat) : TL.spl [t] 0 acc (c :: r) = if c = t then acc :: TL.spl [t] 0 [] r else TL.spl [t] 0 (acc ++ [c]) r := by
  show (if TL.pre [t] (c :: r) = true then acc :: TL.spl [t] ([t].length - 1) [] r else TL.spl [t] 0 (acc ++ [c]) r) = _
  have : TL.pre [t] (c :: r) = decide (c = t) := by simp [TL.pre]; exact Bool.eq_iff_iff.mpr (by simp)
  rw [this]; simp
theorem spl_ne (t : Nat) : ∀ (s acc : List Nat), TL.spl [t] 0 acc s ≠ []
  | [], acc => by rw [TL.spl_nil]; simp
  | c :: r, acc => by
    rw [spl_one]; split
    · simp
    · exact spl_ne t r _
theorem spl_back (t : Nat) : ∀ (s acc : List Nat), TL.joinL [t] (TL.spl [t] 0 acc s) = acc ++ s
  | [], acc => by rw [TL.spl_nil]; simp [TL.joinL]
  | c :: r, acc => by
    rw [spl_one]; split
    · rename_i h
      subst h
      have h := spl_back c r []
      cases e : TL.spl [c] 0 [] r with
      | nil => exact absurd e (spl_ne _ _ _)
      | cons p q => rw [e] at h; simp only [TL.joinL, h]; simp
    · rw [spl_back t r]; simp
theorem spl_no (t : Nat) : ∀ (s acc : List Nat), t ∉ acc → ∀ w ∈ TL.spl [t] 0 acc s, t ∉ w
  | [], acc, h, w, hw => by rw [TL.spl_nil] at hw; simp at hw; exact hw ▸ h
  | c :: r, acc, h, w, hw => by
    rw [spl_one] at hw
    split at hw
    · rcases List.mem_cons.mp hw with rfl | hw
      · exact h
      · exact spl_no t r [] (by simp) w hw
    · rename_i hc
      exact spl_no t r (acc ++ [c]) (by simp [h]; exact fun e => hc e.symm) w hw
theorem spl_mem (t : Nat) : ∀ (s acc : List Nat), ∀ w ∈ TL.spl [t] 0 acc s, ∀ c ∈ w, c ∈ acc ++ s
  | [], acc, w, hw, c, hc => by rw [TL.spl_nil] at hw; simp at hw; subst hw; simpa using hc
  | d :: r, acc, w, hw, c, hc => by
    rw [spl_one] at hw
    split at hw
    · rcases List.mem_cons.mp hw with rfl | hw
      · simp [hc]
      · have := spl_mem t r [] w hw c hc; simp at this; simp [this]
    · have := spl_mem t r (acc ++ [d]) w hw c hc; simp at this; simp; rcases this with h | h | h <;> simp [h]
theorem splitL_ne (t : Nat) (s : List Nat) : splitL [t] s ≠ [] := spl_ne t s []
theorem splitL_back (t : Nat) (s : List Nat) : TL.joinL [t] (splitL [t] s) = s := spl_back t s []
theorem splitL_no {t : Nat} {s w : List Nat} (h : w ∈ splitL [t] s) : t ∉ w := spl_no t s [] (by simp) w h
theorem splitL_mem {t : Nat} {s w : List Nat} (h : w ∈ splitL [t] s) {c : Nat} (hc : c ∈ w) : c ∈ s := by simpa using spl_mem t s [] w h c hc
theorem joinL_len (t : Nat) : ∀ (ss : List (List Nat)), ss ≠ [] → (TL.joinL [t] ss).length + 1 = (ss.map (·.length)).sum + ss.length
  | [p], _ => by simp [TL.joinL]
  | p :: q :: r, _ => by
    have := joinL_len t (q :: r) (by simp)
    simp only [TL.joinL, List.length_append, List.map_cons, List.sum_cons, List.length_cons] at this ⊢
    simp only [List.length_nil]; omega
theorem len_le_sum {ss : List (List Nat)} {w : List Nat} (h : w ∈ ss) : w.length ≤ (ss.map (·.length)).sum := by
  induction ss with
  | nil => cases h
  | cons p r ih =>
    rcases List.mem_cons.mp h with rfl | h
    · simp
    · have := ih h; simp; omega
theorem splitL_sum (t : Nat) (s : List Nat) : ((splitL [t] s).map (·.length)).sum + (splitL [t] s).length = s.length + 1 := by
  rw [← joinL_len t _ (splitL_ne t s), splitL_back]
theorem splitL_len {t : Nat} {s w : List Nat} (h : w ∈ splitL [t] s) : w.length ≤ s.length := by
  have := len_le_sum h; have := splitL_sum t s
  have : 0 < (splitL [t] s).length := List.length_pos_iff.mpr (splitL_ne t s)
  omega
theorem splitL_many (t : Nat) (s : List Nat) : (splitL [t] s).length ≤ s.length + 1 := by have := splitL_sum t s; omega
theorem joinL_one : ∀ cs : List Nat, TL.joinL [] (cs.map fun c => [c]) = cs
  | [] => rfl
  | [c] => rfl
  | c :: d :: r => by
    have := joinL_one (d :: r)
    simp only [List.map_cons, TL.joinL] at this ⊢
    rw [this]; rfl
/-- a number word's number -/
def numV (s : List Nat) : Int := s.foldl (fun (n : Int) (c : Nat) => n * 10 + ((c : Int) - 48)) 0
def figOk (s : List Nat) : Bool := decide (0 < s.length) && decide (s.length ≤ 3) && !(decide (s[0]? = some 48) && decide (1 < s.length)) && allIn FIG s
def figV (s : List Nat) (lo hi : Int) : Option Int := if figOk s = true ∧ lo ≤ numV s ∧ numV s ≤ hi then some (numV s) else none
def optI : Option Int → W
  | none => .non
  | some i => .int i
theorem numV_take {s : List Nat} {i c : Nat} (h : s[i]? = some c) : numV (s.take (i + 1)) = numV (s.take i) * 10 + ((c : Int) - 48) := by
  rw [List.take_add_one, h]; simp [numV]
theorem numV_pos_aux : ∀ (s : List Nat) (n : Int), 0 ≤ n → (∀ c ∈ s, 48 ≤ c) → 0 ≤ s.foldl (fun (n : Int) (c : Nat) => n * 10 + ((c : Int) - 48)) n
  | [], _, h, _ => h
  | c :: s, n, h, g => numV_pos_aux s _ (by have := g c (.head _); show (0 : Int) ≤ n * 10 + ((c : Int) - 48); omega) fun d hd => g d (.tail _ hd)
theorem numV_pos {s : List Nat} (h : allIn FIG s = true) : 0 ≤ numV s := numV_pos_aux s 0 (by omega) fun c hc => (FIG_mem.mp (allIn_iff.mp h c hc)).1
theorem figV_pos {s : List Nat} {lo hi i : Int} (h : figV s lo hi = some i) : 0 ≤ i := by
  unfold figV at h
  split at h
  · rename_i g
    cases h
    refine numV_pos ?_
    have := g.1
    simp only [figOk, Bool.and_eq_true] at this
    exact this.2
  · cases h
theorem fig_ix (c : Nat) (h : c ∈ FIG) : Builtin.Str.occurrences (S FIG) (S [c]) 0 FIG.length 1 = [c - 48] := by
  have := FIG_mem.mp h
  have e : c = 48 ∨ c = 49 ∨ c = 50 ∨ c = 51 ∨ c = 52 ∨ c = 53 ∨ c = 54 ∨ c = 55 ∨ c = 56 ∨ c = 57 := by omega
  rcases e with rfl | rfl | rfl | rfl | rfl | rfl | rfl | rfl | rfl | rfl <;> decide +kernel
theorem mSindex_fig {c : Nat} (h : c ∈ FIG) {G : WHp} {Q : WQ} (q : Q (.int ((c : Int) - 48)) G) : mSindex (.str FIG) [.str [c]] G Q := by
  have := FIG_mem.mp h
  refine ⟨FIG, [c], c - 48, [], rfl, rfl, fig_ix c h, ?_⟩
  rw [show ((c - 48 : Nat) : Int) = (c : Int) - 48 by omega]
  exact q
theorem figOk_in {s : List Nat} (h0 : 0 < s.length) (h3 : s.length ≤ 3) (h1 : ¬(s[0]? = some 48 ∧ 1 < s.length)) : figOk s = allIn FIG s := by
  simp only [figOk]
  have : (decide (s[0]? = some 48) && decide (1 < s.length)) = false := by
    cases hh : (decide (s[0]? = some 48) && decide (1 < s.length)) with
    | false => rfl
    | true => rw [Bool.and_eq_true, decide_eq_true_eq, decide_eq_true_eq] at hh; exact absurd hh h1
  rw [this]; simp [h0, h3]
theorem figOk_no {s : List Nat} (h : s.length = 0 ∨ 3 < s.length ∨ (s[0]? = some 48 ∧ 1 < s.length)) : figOk s = false := by
  rcases h with h | h | ⟨h, h'⟩
  · simp [figOk, h]
  · have : ¬ s.length ≤ 3 := by omega
    simp [figOk, this]
  · simp [figOk, h, h']
theorem strI_len (n : Int) (h0 : 0 ≤ n) (h1 : n < 1000) : (strI n).length ≤ 3 := by
  have : ∀ m, m < 1000 → (TL.numL m).length ≤ 3 := by decide +kernel
  obtain ⟨m, rfl⟩ := Int.eq_ofNat_of_zero_le h0
  rw [strI_nat]
  exact this m (by omega)
theorem log_ok {n : Int} {k : Nat} (h0 : -(2 ^ k) < n) (h : n < 2 ^ k) (hk : k < 1900) : n.natAbs.log2 < 1920 := by
  cases e : n.natAbs with
  | zero => simp
  | succ m =>
    refine Nat.lt_trans ((Nat.log2_lt (by omega)).mpr (?_ : m + 1 < 2 ^ 1900)) (by decide)
    refine Nat.lt_of_lt_of_le ?_ (Nat.pow_le_pow_right (by decide) (Nat.le_of_lt hk))
    have : ((2 ^ k : Nat) : Int) = 2 ^ k := by simp
    omega
def isName (s : List Nat) : Bool := decide (0 < s.length) && decide (s.length < 9) && allIn LET s
/-- a text's rows, each as its words -/
def rowsOf (s : List Nat) : List (List (List Nat)) := (splitL [10] s).map (splitL [32])
def rowW (r : List (List Nat)) : W := .il (r.map W.str)
def rowsW (rs : List (List (List Nat))) : W := .il (rs.map rowW)
theorem rowsOf_mem {s : List Nat} {r : List (List Nat)} (h : r ∈ rowsOf s) : r ≠ [] ∧ (r.map (·.length)).sum + r.length ≤ s.length + 1 ∧ ∀ w ∈ r, w.length ≤ s.length := by
  obtain ⟨z, hz, rfl⟩ := List.mem_map.mp h
  have hz' := splitL_len hz
  refine ⟨splitL_ne _ _, by rw [splitL_sum]; omega, fun w hw => ?_⟩
  have := splitL_len hw
  omega
theorem rowsOf_ne (s : List Nat) : rowsOf s ≠ [] := by unfold rowsOf; simp [splitL_ne]
theorem rowsOf_len (s : List Nat) : (rowsOf s).length ≤ s.length + 1 := by unfold rowsOf; rw [List.length_map]; exact splitL_many _ _
theorem atI_0 {α : Type} {xs : List α} (h : 0 < xs.length) : ∃ c, atI xs 0 = some c ∧ xs[0]? = some c := by
  obtain ⟨c, e, _⟩ := atI_in (xs := xs) (i := 0) (by omega) (by omega)
  exact ⟨c, e, by simpa [atI, ixN, h] using e⟩
theorem atI_n {α : Type} {xs : List α} {k : Nat} {x : α} (h : xs[k]? = some x) : atI xs (k : Int) = some x := atI_nat h

def sp_words : WSp := fun ws G Q _ => ∃ s, ws = [.str s] ∧ s.length ≤ 20000 ∧ Q (rowsW (rowsOf s)) G

theorem len_words : ∀ ws G Q E, sp_words ws G Q E → ws.length = (["text"] : List Str).length := by
  intro ws G Q E h
  first
  | (obtain ⟨_, h, _⟩ := h; rw [h]; rfl)
  | (obtain ⟨_, _, h, _⟩ := h; rw [h]; rfl)
  | (obtain ⟨_, _, _, h, _⟩ := h; rw [h]; rfl)
  | (obtain ⟨_, _, _, _, h, _⟩ := h; rw [h]; rfl)
  | (obtain ⟨_, _, _, _, _, h, _⟩ := h; rw [h]; rfl)
  | (obtain ⟨_, _, _, _, _, _, h, _⟩ := h; rw [h]; rfl)
  | (obtain ⟨_, _, _, _, _, _, _, h, _⟩ := h; rw [h]; rfl)
  | (obtain ⟨_, _, _, _, _, _, _, _, h, _⟩ := h; rw [h]; rfl)
  | (obtain ⟨_, _, _, _, _, _, _, _, _, h, _⟩ := h; rw [h]; rfl)
  | (obtain ⟨_, _, _, _, _, _, _, _, _, _, h, _⟩ := h; rw [h]; rfl)
  | (obtain ⟨_, _, _, _, _, _, _, _, _, _, _, h, _⟩ := h; rw [h]; rfl)
  | (obtain ⟨_, _, _, _, _, _, _, _, _, _, _, _, h, _⟩ := h; rw [h]; rfl)
  | (obtain ⟨_, _, _, _, _, _, _, _, _, _, _, _, _, h, _⟩ := h; rw [h]; rfl)
  | (obtain ⟨_, _, _, _, _, _, _, _, _, _, _, _, _, _, h, _⟩ := h; rw [h]; rfl)
def lc_words_1_t : WTT := wYes
def lc_words_1_e : WTE := (wBm .str mSsplit (wVar 1) (wCons (wC (.str [32])) wNil))
def bd_words : WTS := (wRet (wLcI (wIter (wBm .str mSsplit (wVar 0) (wCons (wC (.str [10])) wNil))) 1 lc_words_1_t lc_words_1_e))
theorem w_words (ws : List W) (G : WHp) (Q : WQ) (Ex : Xc → WHp → Prop) (h : sp_words ws G Q Ex) : bd_words (endsW Q) (wStart ["text", "row"] ws) G (fun c _ G' => Ex c G') := by
  obtain ⟨s, rfl, hl, q⟩ := h
  have hm := splitL_many 10 s
  simp! only [bd_words, wBm]
  refine ⟨⟨_, rfl⟩, s, [10], rfl, rfl, by decide, by decide, by simp! only [true_and]; omega, ?_⟩
  simp! only [true_and]
  refine lcI_map (fun w => match w with | .str z => rowW (splitL [32] z) | w => w) (by rw [List.length_map]; omega) (fun _ _ => trivial) ?_ ?_
  · intro k x G' Q' hx _ hq
    rw [List.getElem?_map, Option.map_eq_some_iff] at hx
    obtain ⟨z, hz, rfl⟩ := hx
    have hz' := splitL_len (List.mem_of_getElem? hz)
    simp! only [lc_words_1_e, wBm]
    exact ⟨⟨_, rfl⟩, z, [32], rfl, rfl, by decide, by decide, by simp! only [true_and]; omega, hq⟩
  · rw [List.map_map]
    exact (by rw [rowsW, rowsOf, List.map_map] at q; exact q)

def sp_figured : WSp := fun ws G Q _ => ∃ s lo hi, ws = [.str s, .int lo, .int hi] ∧ s.length ≤ 16777216 ∧ Q (optI (figV s lo hi)) G

theorem len_figured : ∀ ws G Q E, sp_figured ws G Q E → ws.length = (["word", "low", "high"] : List Str).length := by
  intro ws G Q E h
  first
  | (obtain ⟨_, h, _⟩ := h; rw [h]; rfl)
  | (obtain ⟨_, _, h, _⟩ := h; rw [h]; rfl)
  | (obtain ⟨_, _, _, h, _⟩ := h; rw [h]; rfl)
  | (obtain ⟨_, _, _, _, h, _⟩ := h; rw [h]; rfl)
  | (obtain ⟨_, _, _, _, _, h, _⟩ := h; rw [h]; rfl)
  | (obtain ⟨_, _, _, _, _, _, h, _⟩ := h; rw [h]; rfl)
  | (obtain ⟨_, _, _, _, _, _, _, h, _⟩ := h; rw [h]; rfl)
  | (obtain ⟨_, _, _, _, _, _, _, _, h, _⟩ := h; rw [h]; rfl)
  | (obtain ⟨_, _, _, _, _, _, _, _, _, h, _⟩ := h; rw [h]; rfl)
  | (obtain ⟨_, _, _, _, _, _, _, _, _, _, h, _⟩ := h; rw [h]; rfl)
  | (obtain ⟨_, _, _, _, _, _, _, _, _, _, _, h, _⟩ := h; rw [h]; rfl)
  | (obtain ⟨_, _, _, _, _, _, _, _, _, _, _, _, h, _⟩ := h; rw [h]; rfl)
  | (obtain ⟨_, _, _, _, _, _, _, _, _, _, _, _, _, h, _⟩ := h; rw [h]; rfl)
  | (obtain ⟨_, _, _, _, _, _, _, _, _, _, _, _, _, _, h, _⟩ := h; rw [h]; rfl)
def bd_figured_1 : WTS := (wRet (wC .non))
def bd_figured_3 : WTS := (wRet (wC .non))
def bd_figured_2_t2 : WTS := (wAsg (wOp oAdd (wOp oMul (wVar 3) (wC (.int 10))) (wBm .str mSindex (wC (.str FIG)) (wCons (wVar 4) wNil))) (wN 3))
def bd_figured_2 : WTS := wSeq (wIfS (wTest (wOp oNotIn (wVar 4) (wC (.str FIG)))) bd_figured_3 wNext) bd_figured_2_t2
def bd_figured_4 : WTS := (wRet (wC .non))
def bd_figured_t5 : WTS := (wRet (wVar 3))
def bd_figured_t4 : WTS := wSeq (wIfS (wOr (wTest (wOp oLt (wVar 3) (wVar 1))) (wTest (wOp oGt (wVar 3) (wVar 2)))) bd_figured_4 wNext) bd_figured_t5
def bd_figured_t3 : WTS := wSeq (wFor (wIter (wVar 0)) (wN 4) bd_figured_2) bd_figured_t4
def bd_figured_t2 : WTS := wSeq (wAsg (wC (.int 0)) (wN 3)) bd_figured_t3
def bd_figured : WTS := wSeq (wIfS (wOr (wTest (wOp oEq (wCB oLen (wCons (wVar 0) wNil)) (wC (.int 0)))) (wOr (wTest (wOp oGt (wCB oLen (wCons (wVar 0) wNil)) (wC (.int 3)))) (wAnd (wTest (wOp oEq (wOp oIx (wVar 0) (wC (.int 0))) (wC (.str [48])))) (wTest (wOp oGt (wCB oLen (wCons (wVar 0) wNil)) (wC (.int 1))))))) bd_figured_1 wNext) bd_figured_t2
theorem w_figured (ws : List W) (G : WHp) (Q : WQ) (Ex : Xc → WHp → Prop) (h : sp_figured ws G Q Ex) : bd_figured (endsW Q) (wStart ["word", "low", "high", "number", "sign"] ws) G (fun c _ G' => Ex c G') := by
  obtain ⟨s, lo, hi, rfl, hl, q⟩ := h
  have bad : figOk s = false → Q .non G := fun e => by rw [figV, e] at q; simpa [optI] using q
  have main : 0 < s.length → s.length ≤ 3 → ¬(s[0]? = some 48 ∧ 1 < s.length) → bd_figured_t2 (endsW Q) [some (.str s), some (.int lo), some (.int hi), none, none] G (fun c _ G' => Ex c G') := by
    intro h0 h3 h1
    have fig := figOk_in h0 h3 h1
    simp! only [bd_figured_t2]
    simp! only [bd_figured_t3]
    refine lp_it (fun i σ' G' => G' = G ∧ (∃ o, σ' = [some (.str s), some (.int lo), some (.int hi), some (.int (numV (s.take i))), o]) ∧ allIn FIG (s.take i) = true) ⟨rfl, ⟨none, rfl⟩, rfl⟩ ?_ ?_
    · rintro i x σ' G' hx ⟨rfl, ⟨o, rfl⟩, hi'⟩
      rw [List.getElem?_map, Option.map_eq_some_iff] at hx
      obtain ⟨c, hc, rfl⟩ := hx
      simp! only [turnW, bd_figured_2]
      split
      · rename_i hn
        simp! only [bd_figured_3]
        refine bad ?_
        rw [fig, allIn_not (List.mem_of_getElem? hc) hn]
      · rename_i hn
        have hn : c ∈ FIG := by simpa using hn
        simp! only [bd_figured_2_t2, wBm]
        refine ⟨mulR (by decide) (by decide), ⟨_, rfl⟩, mSindex_fig hn ?_⟩
        simp! only [numV_take hc, allIn_take hc, hi', Bool.true_and]
        simp [hn]
    · rintro σ' G' ⟨rfl, ⟨o, rfl⟩, hi'⟩
      rw [List.length_map, List.take_length] at hi' ⊢
      simp! only [bd_figured_t4]
      rw [figV, fig, hi'] at q
      simp only [true_and] at q
      split
      · rename_i h1
        rw [if_neg (by omega)] at q
        simp! only [bd_figured_4]
        exact q
      · rename_i h1
        split
        · rename_i h2
          rw [if_neg (by omega)] at q
          simp! only [bd_figured_4]
          exact q
        · rename_i h2
          rw [if_pos (by omega)] at q
          simp! only [bd_figured_t5]
          exact q
  simp! only [bd_figured]
  refine ⟨by omega, ?_⟩
  split
  · rename_i h0
    simp! only [bd_figured_1]
    exact bad (figOk_no (.inl (by omega)))
  · refine ⟨by omega, ?_⟩
    split
    · rename_i h0 h3
      simp! only [bd_figured_1]
      exact bad (figOk_no (.inr (.inl (by omega))))
    · rename_i h0 h3
      obtain ⟨c, e, e'⟩ := atI_0 (xs := s) (by omega)
      refine ⟨by omega, c, e, ?_⟩
      split
      · rename_i h48
        refine ⟨by omega, ?_⟩
        split
        · rename_i h1
          simp! only [bd_figured_1]
          refine bad (figOk_no (.inr (.inr ⟨?_, by omega⟩)))
          rw [e']; simpa using h48
        · rename_i h1
          exact main (by omega) (by omega) (by omega)
      · rename_i h48
        refine main (by omega) (by omega) ?_
        rintro ⟨h, _⟩
        rw [e'] at h
        cases h
        exact h48 rfl

def sp_is_name : WSp := fun ws G Q _ => ∃ s, ws = [.str s] ∧ s.length ≤ 16777216 ∧ Q (.bl (isName s)) G

theorem len_is_name : ∀ ws G Q E, sp_is_name ws G Q E → ws.length = (["word"] : List Str).length := by
  intro ws G Q E h
  first
  | (obtain ⟨_, h, _⟩ := h; rw [h]; rfl)
  | (obtain ⟨_, _, h, _⟩ := h; rw [h]; rfl)
  | (obtain ⟨_, _, _, h, _⟩ := h; rw [h]; rfl)
  | (obtain ⟨_, _, _, _, h, _⟩ := h; rw [h]; rfl)
  | (obtain ⟨_, _, _, _, _, h, _⟩ := h; rw [h]; rfl)
  | (obtain ⟨_, _, _, _, _, _, h, _⟩ := h; rw [h]; rfl)
  | (obtain ⟨_, _, _, _, _, _, _, h, _⟩ := h; rw [h]; rfl)
  | (obtain ⟨_, _, _, _, _, _, _, _, h, _⟩ := h; rw [h]; rfl)
  | (obtain ⟨_, _, _, _, _, _, _, _, _, h, _⟩ := h; rw [h]; rfl)
  | (obtain ⟨_, _, _, _, _, _, _, _, _, _, h, _⟩ := h; rw [h]; rfl)
  | (obtain ⟨_, _, _, _, _, _, _, _, _, _, _, h, _⟩ := h; rw [h]; rfl)
  | (obtain ⟨_, _, _, _, _, _, _, _, _, _, _, _, h, _⟩ := h; rw [h]; rfl)
  | (obtain ⟨_, _, _, _, _, _, _, _, _, _, _, _, _, h, _⟩ := h; rw [h]; rfl)
  | (obtain ⟨_, _, _, _, _, _, _, _, _, _, _, _, _, _, h, _⟩ := h; rw [h]; rfl)
def bd_is_name_1 : WTS := (wRet (wC (.bl false)))
def bd_is_name_3 : WTS := (wRet (wC (.bl false)))
def bd_is_name_2 : WTS := (wIfS (wTest (wOp oNotIn (wVar 1) (wC (.str LET)))) bd_is_name_3 wNext)
def bd_is_name_t3 : WTS := (wRet (wC (.bl true)))
def bd_is_name_t2 : WTS := wSeq (wFor (wIter (wVar 0)) (wN 1) bd_is_name_2) bd_is_name_t3
def bd_is_name : WTS := wSeq (wIfS (wOr (wTest (wOp oEq (wCB oLen (wCons (wVar 0) wNil)) (wC (.int 0)))) (wTest (wOp oGt (wCB oLen (wCons (wVar 0) wNil)) (wC (.int 8))))) bd_is_name_1 wNext) bd_is_name_t2
theorem w_is_name (ws : List W) (G : WHp) (Q : WQ) (Ex : Xc → WHp → Prop) (h : sp_is_name ws G Q Ex) : bd_is_name (endsW Q) (wStart ["word", "sign"] ws) G (fun c _ G' => Ex c G') := by
  obtain ⟨s, rfl, hl, q⟩ := h
  simp! only [bd_is_name]
  have bad : ∀ b, b = isName s → Q (.bl b) G := fun b e => e ▸ q
  refine ⟨by omega, ?_⟩
  split
  · rename_i h0
    simp! only [bd_is_name_1]
    exact bad _ (by simp [isName]; omega)
  · refine ⟨by omega, ?_⟩
    split
    · simp! only [bd_is_name_1]
      exact bad _ (by simp [isName]; omega)
    · rename_i h0 h8
      simp! only [bd_is_name_t2]
      refine lp_it (fun i σ' G' => G' = G ∧ (∃ o, σ' = [some (.str s), o]) ∧ allIn LET (s.take i) = true) ⟨rfl, ⟨_, rfl⟩, rfl⟩ ?_ ?_
      · rintro i x σ' G' hx ⟨rfl, ⟨o, rfl⟩, hi⟩
        rw [List.getElem?_map, Option.map_eq_some_iff] at hx
        obtain ⟨c, hc, rfl⟩ := hx
        simp! only [turnW, bd_is_name_2]
        split
        · rename_i hn
          simp! only [bd_is_name_3]
          refine bad _ ?_
          simp only [isName, allIn_not (List.mem_of_getElem? hc) hn, Bool.and_false]
        · rename_i hn
          have hn : c ∈ LET := by simpa using hn
          rw [allIn_take hc, hi, Bool.true_and]
          simp [hn]
      · rintro σ' G' ⟨rfl, ⟨o, rfl⟩, hi⟩
        rw [List.length_map, List.take_length] at hi
        simp! only [bd_is_name_t3]
        refine bad _ ?_
        simp only [isName, hi, Bool.and_true]
        simp
        omega

/-! ### ways -/
/-- a way -/
structure Wy where
  sort : Nat
  name : List Nat
  start : Int
  stop : Int
  off : Int
  near : Int
  least : Int
def isNameL (s : List Nat) : Prop := 0 < s.length ∧ s.length ≤ 8 ∧ ∀ c ∈ s, 97 ≤ c ∧ c ≤ 122
def kindN (k : Nat) : List Nat := if k = 10 then tCAR else if k = 11 then tFOOT else tTRAM
def wyF (y : Wy) : List (Nat × W) := [(0, .str y.name), (1, .int y.start), (2, .int y.stop), (3, .int y.off), (4, .int y.near), (5, .int y.least), (6, .str (kindN y.sort))]
def wyW (y : Wy) : W := .io y.sort (wyF y)
def Wy.ok (y : Wy) : Prop := y.sort = 10 ∨ y.sort = 11 ∨ y.sort = 12
/-- of a crossing of so many places -/
structure Wy.okP (y : Wy) (p : Int) : Prop where
  so : y.ok
  s0 : 0 ≤ y.start
  s1 : y.start < p
  e0 : 0 ≤ y.stop
  e1 : y.stop < p
  ne : y.start ≠ y.stop
  o0 : 0 ≤ y.off
  o1 : y.off ≤ 30
  n0 : 0 ≤ y.near
  n1 : y.near ≤ 30
  l0 : 1 ≤ y.least
  l1 : y.least ≤ 60
  nm : isNameL y.name
def Wy.ready (y : Wy) : Int := if y.sort = 10 then 1 else if y.sort = 11 then 0 else 2
def Wy.fade (y : Wy) : Int := if y.sort = 10 then 2 else if y.sort = 11 then y.off else 1
def Wy.goes (y : Wy) (m : Int) : Int := if y.sort = 11 then m else if 1 < m then 1 else m
/-- the colours' numbers -/
def shadeN (k : Nat) : List Nat := if k = 0 then tSTOP else if k = 1 then tREADY else if k = 2 then tFREE else tFADE
def faceN (c k : Nat) : List Nat :=
  if c = 10 then (if k = 0 then [114, 101, 100] else if k = 1 then [98, 111, 116, 104] else if k = 2 then [103, 114, 101, 101, 110] else [121, 101, 108, 108, 111, 119])
  else if c = 11 then (if k = 0 then [115, 116, 97, 110, 100] else if k = 1 then [115, 116, 97, 110, 100] else if k = 2 then [119, 97, 108, 107] else [104, 117, 114, 114, 121])
  else (if k = 0 then [98, 97, 114] else if k = 1 then [100, 111, 116] else if k = 2 then [112, 111, 115, 116] else [115, 108, 97, 110, 116])

def sp_Way_init : WSp := fun ws G Q _ => ∃ p k n a b c d e, ws = [.ref p, .str n, .int a, .int b, .int c, .int d, .int e] ∧ G p = some (.obj k []) ∧ Q .non (updG G p (.obj k [(0, .str n), (1, .int a), (2, .int b), (3, .int c), (4, .int d), (5, .int e), (6, .str [])]))

theorem len_Way_init : ∀ ws G Q E, sp_Way_init ws G Q E → ws.length = (["self", "name", "start", "end", "off", "near", "least"] : List Str).length := by
  intro ws G Q E h
  first
  | (obtain ⟨_, h, _⟩ := h; rw [h]; rfl)
  | (obtain ⟨_, _, h, _⟩ := h; rw [h]; rfl)
  | (obtain ⟨_, _, _, h, _⟩ := h; rw [h]; rfl)
  | (obtain ⟨_, _, _, _, h, _⟩ := h; rw [h]; rfl)
  | (obtain ⟨_, _, _, _, _, h, _⟩ := h; rw [h]; rfl)
  | (obtain ⟨_, _, _, _, _, _, h, _⟩ := h; rw [h]; rfl)
  | (obtain ⟨_, _, _, _, _, _, _, h, _⟩ := h; rw [h]; rfl)
  | (obtain ⟨_, _, _, _, _, _, _, _, h, _⟩ := h; rw [h]; rfl)
  | (obtain ⟨_, _, _, _, _, _, _, _, _, h, _⟩ := h; rw [h]; rfl)
  | (obtain ⟨_, _, _, _, _, _, _, _, _, _, h, _⟩ := h; rw [h]; rfl)
  | (obtain ⟨_, _, _, _, _, _, _, _, _, _, _, h, _⟩ := h; rw [h]; rfl)
  | (obtain ⟨_, _, _, _, _, _, _, _, _, _, _, _, h, _⟩ := h; rw [h]; rfl)
  | (obtain ⟨_, _, _, _, _, _, _, _, _, _, _, _, _, h, _⟩ := h; rw [h]; rfl)
  | (obtain ⟨_, _, _, _, _, _, _, _, _, _, _, _, _, _, h, _⟩ := h; rw [h]; rfl)
def bd_Way_init_t7 : WTS := (wFldSet 6 (wVar 0) (wC (.str [])))
def bd_Way_init_t6 : WTS := wSeq (wFldSet 5 (wVar 0) (wVar 6)) bd_Way_init_t7
def bd_Way_init_t5 : WTS := wSeq (wFldSet 4 (wVar 0) (wVar 5)) bd_Way_init_t6
def bd_Way_init_t4 : WTS := wSeq (wFldSet 3 (wVar 0) (wVar 4)) bd_Way_init_t5
def bd_Way_init_t3 : WTS := wSeq (wFldSet 2 (wVar 0) (wVar 3)) bd_Way_init_t4
def bd_Way_init_t2 : WTS := wSeq (wFldSet 1 (wVar 0) (wVar 2)) bd_Way_init_t3
def bd_Way_init : WTS := wSeq (wFldSet 0 (wVar 0) (wVar 1)) bd_Way_init_t2
theorem w_Way_init (ws : List W) (G : WHp) (Q : WQ) (Ex : Xc → WHp → Prop) (h : sp_Way_init ws G Q Ex) : bd_Way_init (endsW Q) (wStart ["self", "name", "start", "end", "off", "near", "least"] ws) G (fun c _ G' => Ex c G') := by
  obtain ⟨p, k, n, a, b, c, d, e, rfl, hp, q⟩ := h
  simp! only [bd_Way_init, bd_Way_init_t2, bd_Way_init_t3, bd_Way_init_t4, bd_Way_init_t5, bd_Way_init_t6, bd_Way_init_t7]
  refine ⟨k, [], hp, (of_decide_eq_true rfl), k, _, updG_same, (of_decide_eq_true rfl), ?_⟩
  refine ⟨k, _, updG_same, (of_decide_eq_true rfl), k, _, updG_same, (of_decide_eq_true rfl), ?_⟩
  refine ⟨k, _, updG_same, (of_decide_eq_true rfl), k, _, updG_same, (of_decide_eq_true rfl), ?_⟩
  refine ⟨k, _, updG_same, (of_decide_eq_true rfl), ?_⟩
  simp only [updG_updG]
  exact q

def sp_Way_ready : WSp := fun ws G Q _ => ∃ x, ws = [x] ∧ Q (.int 1) G

theorem len_Way_ready : ∀ ws G Q E, sp_Way_ready ws G Q E → ws.length = (["self"] : List Str).length := by
  intro ws G Q E h
  first
  | (obtain ⟨_, h, _⟩ := h; rw [h]; rfl)
  | (obtain ⟨_, _, h, _⟩ := h; rw [h]; rfl)
  | (obtain ⟨_, _, _, h, _⟩ := h; rw [h]; rfl)
  | (obtain ⟨_, _, _, _, h, _⟩ := h; rw [h]; rfl)
  | (obtain ⟨_, _, _, _, _, h, _⟩ := h; rw [h]; rfl)
  | (obtain ⟨_, _, _, _, _, _, h, _⟩ := h; rw [h]; rfl)
  | (obtain ⟨_, _, _, _, _, _, _, h, _⟩ := h; rw [h]; rfl)
  | (obtain ⟨_, _, _, _, _, _, _, _, h, _⟩ := h; rw [h]; rfl)
  | (obtain ⟨_, _, _, _, _, _, _, _, _, h, _⟩ := h; rw [h]; rfl)
  | (obtain ⟨_, _, _, _, _, _, _, _, _, _, h, _⟩ := h; rw [h]; rfl)
  | (obtain ⟨_, _, _, _, _, _, _, _, _, _, _, h, _⟩ := h; rw [h]; rfl)
  | (obtain ⟨_, _, _, _, _, _, _, _, _, _, _, _, h, _⟩ := h; rw [h]; rfl)
  | (obtain ⟨_, _, _, _, _, _, _, _, _, _, _, _, _, h, _⟩ := h; rw [h]; rfl)
  | (obtain ⟨_, _, _, _, _, _, _, _, _, _, _, _, _, _, h, _⟩ := h; rw [h]; rfl)
def bd_Way_ready : WTS := (wRet (wC (.int 1)))
theorem w_Way_ready (ws : List W) (G : WHp) (Q : WQ) (Ex : Xc → WHp → Prop) (h : sp_Way_ready ws G Q Ex) : bd_Way_ready (endsW Q) (wStart ["self"] ws) G (fun c _ G' => Ex c G') := by
  obtain ⟨x, rfl, q⟩ := h
  simp! only [bd_Way_ready]
  exact q

def sp_Way_fade : WSp := fun ws G Q _ => ∃ x, ws = [x] ∧ Q (.int 1) G

theorem len_Way_fade : ∀ ws G Q E, sp_Way_fade ws G Q E → ws.length = (["self"] : List Str).length := by
  intro ws G Q E h
  first
  | (obtain ⟨_, h, _⟩ := h; rw [h]; rfl)
  | (obtain ⟨_, _, h, _⟩ := h; rw [h]; rfl)
  | (obtain ⟨_, _, _, h, _⟩ := h; rw [h]; rfl)
  | (obtain ⟨_, _, _, _, h, _⟩ := h; rw [h]; rfl)
  | (obtain ⟨_, _, _, _, _, h, _⟩ := h; rw [h]; rfl)
  | (obtain ⟨_, _, _, _, _, _, h, _⟩ := h; rw [h]; rfl)
  | (obtain ⟨_, _, _, _, _, _, _, h, _⟩ := h; rw [h]; rfl)
  | (obtain ⟨_, _, _, _, _, _, _, _, h, _⟩ := h; rw [h]; rfl)
  | (obtain ⟨_, _, _, _, _, _, _, _, _, h, _⟩ := h; rw [h]; rfl)
  | (obtain ⟨_, _, _, _, _, _, _, _, _, _, h, _⟩ := h; rw [h]; rfl)
  | (obtain ⟨_, _, _, _, _, _, _, _, _, _, _, h, _⟩ := h; rw [h]; rfl)
  | (obtain ⟨_, _, _, _, _, _, _, _, _, _, _, _, h, _⟩ := h; rw [h]; rfl)
  | (obtain ⟨_, _, _, _, _, _, _, _, _, _, _, _, _, h, _⟩ := h; rw [h]; rfl)
  | (obtain ⟨_, _, _, _, _, _, _, _, _, _, _, _, _, _, h, _⟩ := h; rw [h]; rfl)
def bd_Way_fade : WTS := (wRet (wC (.int 1)))
theorem w_Way_fade (ws : List W) (G : WHp) (Q : WQ) (Ex : Xc → WHp → Prop) (h : sp_Way_fade ws G Q Ex) : bd_Way_fade (endsW Q) (wStart ["self"] ws) G (fun c _ G' => Ex c G') := by
  obtain ⟨x, rfl, q⟩ := h
  simp! only [bd_Way_fade]
  exact q

def sp_Way_goes : WSp := fun ws G Q _ => ∃ x m, ws = [x, .int m] ∧ Q (.int (if 1 < m then 1 else m)) G

theorem len_Way_goes : ∀ ws G Q E, sp_Way_goes ws G Q E → ws.length = (["self", "many"] : List Str).length := by
  intro ws G Q E h
  first
  | (obtain ⟨_, h, _⟩ := h; rw [h]; rfl)
  | (obtain ⟨_, _, h, _⟩ := h; rw [h]; rfl)
  | (obtain ⟨_, _, _, h, _⟩ := h; rw [h]; rfl)
  | (obtain ⟨_, _, _, _, h, _⟩ := h; rw [h]; rfl)
  | (obtain ⟨_, _, _, _, _, h, _⟩ := h; rw [h]; rfl)
  | (obtain ⟨_, _, _, _, _, _, h, _⟩ := h; rw [h]; rfl)
  | (obtain ⟨_, _, _, _, _, _, _, h, _⟩ := h; rw [h]; rfl)
  | (obtain ⟨_, _, _, _, _, _, _, _, h, _⟩ := h; rw [h]; rfl)
  | (obtain ⟨_, _, _, _, _, _, _, _, _, h, _⟩ := h; rw [h]; rfl)
  | (obtain ⟨_, _, _, _, _, _, _, _, _, _, h, _⟩ := h; rw [h]; rfl)
  | (obtain ⟨_, _, _, _, _, _, _, _, _, _, _, h, _⟩ := h; rw [h]; rfl)
  | (obtain ⟨_, _, _, _, _, _, _, _, _, _, _, _, h, _⟩ := h; rw [h]; rfl)
  | (obtain ⟨_, _, _, _, _, _, _, _, _, _, _, _, _, h, _⟩ := h; rw [h]; rfl)
  | (obtain ⟨_, _, _, _, _, _, _, _, _, _, _, _, _, _, h, _⟩ := h; rw [h]; rfl)
def bd_Way_goes : WTS := (wRet (wCB oMin2 (wCons (wVar 1) (wCons (wC (.int 1)) wNil))))
theorem w_Way_goes (ws : List W) (G : WHp) (Q : WQ) (Ex : Xc → WHp → Prop) (h : sp_Way_goes ws G Q Ex) : bd_Way_goes (endsW Q) (wStart ["self", "many"] ws) G (fun c _ G' => Ex c G') := by
  obtain ⟨x, m, rfl, q⟩ := h
  simp! only [bd_Way_goes]
  exact q

def sp_CarWay_init : WSp := fun ws G Q _ => ∃ p n a b c d e, ws = [.ref p, .str n, .int a, .int b, .int c, .int d, .int e] ∧ G p = some (.obj 10 []) ∧ Q .non (updG G p (.obj 10 (wyF ⟨10, n, a, b, c, d, e⟩)))

theorem len_CarWay_init : ∀ ws G Q E, sp_CarWay_init ws G Q E → ws.length = (["self", "name", "start", "end", "off", "near", "least"] : List Str).length := by
  intro ws G Q E h
  first
  | (obtain ⟨_, h, _⟩ := h; rw [h]; rfl)
  | (obtain ⟨_, _, h, _⟩ := h; rw [h]; rfl)
  | (obtain ⟨_, _, _, h, _⟩ := h; rw [h]; rfl)
  | (obtain ⟨_, _, _, _, h, _⟩ := h; rw [h]; rfl)
  | (obtain ⟨_, _, _, _, _, h, _⟩ := h; rw [h]; rfl)
  | (obtain ⟨_, _, _, _, _, _, h, _⟩ := h; rw [h]; rfl)
  | (obtain ⟨_, _, _, _, _, _, _, h, _⟩ := h; rw [h]; rfl)
  | (obtain ⟨_, _, _, _, _, _, _, _, h, _⟩ := h; rw [h]; rfl)
  | (obtain ⟨_, _, _, _, _, _, _, _, _, h, _⟩ := h; rw [h]; rfl)
  | (obtain ⟨_, _, _, _, _, _, _, _, _, _, h, _⟩ := h; rw [h]; rfl)
  | (obtain ⟨_, _, _, _, _, _, _, _, _, _, _, h, _⟩ := h; rw [h]; rfl)
  | (obtain ⟨_, _, _, _, _, _, _, _, _, _, _, _, h, _⟩ := h; rw [h]; rfl)
  | (obtain ⟨_, _, _, _, _, _, _, _, _, _, _, _, _, h, _⟩ := h; rw [h]; rfl)
  | (obtain ⟨_, _, _, _, _, _, _, _, _, _, _, _, _, _, h, _⟩ := h; rw [h]; rfl)
def bd_CarWay_init_t2 : WTS := (wFldSet 6 (wVar 0) (wC (.str tCAR)))
def bd_CarWay_init : WTS := wSeq (wDrop (wCall sp_Way_init (wCons (wVar 0) (wCons (wVar 1) (wCons (wVar 2) (wCons (wVar 3) (wCons (wVar 4) (wCons (wVar 5) (wCons (wVar 6) wNil))))))))) bd_CarWay_init_t2
theorem w_CarWay_init (ws : List W) (G : WHp) (Q : WQ) (Ex : Xc → WHp → Prop) (h : sp_CarWay_init ws G Q Ex) : bd_CarWay_init (endsW Q) (wStart ["self", "name", "start", "end", "off", "near", "least"] ws) G (fun c _ G' => Ex c G') := by
  obtain ⟨p, n, a, b, c, d, e, rfl, hp, q⟩ := h
  simp! only [bd_CarWay_init, bd_CarWay_init_t2]
  refine ⟨p, 10, n, a, b, c, d, e, rfl, hp, 10, _, updG_same, (of_decide_eq_true rfl), ?_⟩
  simp only [updG_updG]
  exact q

def sp_CarWay_fade : WSp := fun ws G Q _ => ∃ x, ws = [x] ∧ Q (.int 2) G

theorem len_CarWay_fade : ∀ ws G Q E, sp_CarWay_fade ws G Q E → ws.length = (["self"] : List Str).length := by
  intro ws G Q E h
  first
  | (obtain ⟨_, h, _⟩ := h; rw [h]; rfl)
  | (obtain ⟨_, _, h, _⟩ := h; rw [h]; rfl)
  | (obtain ⟨_, _, _, h, _⟩ := h; rw [h]; rfl)
  | (obtain ⟨_, _, _, _, h, _⟩ := h; rw [h]; rfl)
  | (obtain ⟨_, _, _, _, _, h, _⟩ := h; rw [h]; rfl)
  | (obtain ⟨_, _, _, _, _, _, h, _⟩ := h; rw [h]; rfl)
  | (obtain ⟨_, _, _, _, _, _, _, h, _⟩ := h; rw [h]; rfl)
  | (obtain ⟨_, _, _, _, _, _, _, _, h, _⟩ := h; rw [h]; rfl)
  | (obtain ⟨_, _, _, _, _, _, _, _, _, h, _⟩ := h; rw [h]; rfl)
  | (obtain ⟨_, _, _, _, _, _, _, _, _, _, h, _⟩ := h; rw [h]; rfl)
  | (obtain ⟨_, _, _, _, _, _, _, _, _, _, _, h, _⟩ := h; rw [h]; rfl)
  | (obtain ⟨_, _, _, _, _, _, _, _, _, _, _, _, h, _⟩ := h; rw [h]; rfl)
  | (obtain ⟨_, _, _, _, _, _, _, _, _, _, _, _, _, h, _⟩ := h; rw [h]; rfl)
  | (obtain ⟨_, _, _, _, _, _, _, _, _, _, _, _, _, _, h, _⟩ := h; rw [h]; rfl)
def bd_CarWay_fade : WTS := (wRet (wC (.int 2)))
theorem w_CarWay_fade (ws : List W) (G : WHp) (Q : WQ) (Ex : Xc → WHp → Prop) (h : sp_CarWay_fade ws G Q Ex) : bd_CarWay_fade (endsW Q) (wStart ["self"] ws) G (fun c _ G' => Ex c G') := by
  obtain ⟨x, rfl, q⟩ := h
  simp! only [bd_CarWay_fade]
  exact q

def sp_FootWay_init : WSp := fun ws G Q _ => ∃ p n a b c d e, ws = [.ref p, .str n, .int a, .int b, .int c, .int d, .int e] ∧ G p = some (.obj 11 []) ∧ Q .non (updG G p (.obj 11 (wyF ⟨11, n, a, b, c, d, e⟩)))

theorem len_FootWay_init : ∀ ws G Q E, sp_FootWay_init ws G Q E → ws.length = (["self", "name", "start", "end", "off", "near", "least"] : List Str).length := by
  intro ws G Q E h
  first
  | (obtain ⟨_, h, _⟩ := h; rw [h]; rfl)
  | (obtain ⟨_, _, h, _⟩ := h; rw [h]; rfl)
  | (obtain ⟨_, _, _, h, _⟩ := h; rw [h]; rfl)
  | (obtain ⟨_, _, _, _, h, _⟩ := h; rw [h]; rfl)
  | (obtain ⟨_, _, _, _, _, h, _⟩ := h; rw [h]; rfl)
  | (obtain ⟨_, _, _, _, _, _, h, _⟩ := h; rw [h]; rfl)
  | (obtain ⟨_, _, _, _, _, _, _, h, _⟩ := h; rw [h]; rfl)
  | (obtain ⟨_, _, _, _, _, _, _, _, h, _⟩ := h; rw [h]; rfl)
  | (obtain ⟨_, _, _, _, _, _, _, _, _, h, _⟩ := h; rw [h]; rfl)
  | (obtain ⟨_, _, _, _, _, _, _, _, _, _, h, _⟩ := h; rw [h]; rfl)
  | (obtain ⟨_, _, _, _, _, _, _, _, _, _, _, h, _⟩ := h; rw [h]; rfl)
  | (obtain ⟨_, _, _, _, _, _, _, _, _, _, _, _, h, _⟩ := h; rw [h]; rfl)
  | (obtain ⟨_, _, _, _, _, _, _, _, _, _, _, _, _, h, _⟩ := h; rw [h]; rfl)
  | (obtain ⟨_, _, _, _, _, _, _, _, _, _, _, _, _, _, h, _⟩ := h; rw [h]; rfl)
def bd_FootWay_init_t2 : WTS := (wFldSet 6 (wVar 0) (wC (.str tFOOT)))
def bd_FootWay_init : WTS := wSeq (wDrop (wCall sp_Way_init (wCons (wVar 0) (wCons (wVar 1) (wCons (wVar 2) (wCons (wVar 3) (wCons (wVar 4) (wCons (wVar 5) (wCons (wVar 6) wNil))))))))) bd_FootWay_init_t2
theorem w_FootWay_init (ws : List W) (G : WHp) (Q : WQ) (Ex : Xc → WHp → Prop) (h : sp_FootWay_init ws G Q Ex) : bd_FootWay_init (endsW Q) (wStart ["self", "name", "start", "end", "off", "near", "least"] ws) G (fun c _ G' => Ex c G') := by
  obtain ⟨p, n, a, b, c, d, e, rfl, hp, q⟩ := h
  simp! only [bd_FootWay_init, bd_FootWay_init_t2]
  refine ⟨p, 11, n, a, b, c, d, e, rfl, hp, 11, _, updG_same, (of_decide_eq_true rfl), ?_⟩
  simp only [updG_updG]
  exact q

def sp_FootWay_ready : WSp := fun ws G Q _ => ∃ x, ws = [x] ∧ Q (.int 0) G

theorem len_FootWay_ready : ∀ ws G Q E, sp_FootWay_ready ws G Q E → ws.length = (["self"] : List Str).length := by
  intro ws G Q E h
  first
  | (obtain ⟨_, h, _⟩ := h; rw [h]; rfl)
  | (obtain ⟨_, _, h, _⟩ := h; rw [h]; rfl)
  | (obtain ⟨_, _, _, h, _⟩ := h; rw [h]; rfl)
  | (obtain ⟨_, _, _, _, h, _⟩ := h; rw [h]; rfl)
  | (obtain ⟨_, _, _, _, _, h, _⟩ := h; rw [h]; rfl)
  | (obtain ⟨_, _, _, _, _, _, h, _⟩ := h; rw [h]; rfl)
  | (obtain ⟨_, _, _, _, _, _, _, h, _⟩ := h; rw [h]; rfl)
  | (obtain ⟨_, _, _, _, _, _, _, _, h, _⟩ := h; rw [h]; rfl)
  | (obtain ⟨_, _, _, _, _, _, _, _, _, h, _⟩ := h; rw [h]; rfl)
  | (obtain ⟨_, _, _, _, _, _, _, _, _, _, h, _⟩ := h; rw [h]; rfl)
  | (obtain ⟨_, _, _, _, _, _, _, _, _, _, _, h, _⟩ := h; rw [h]; rfl)
  | (obtain ⟨_, _, _, _, _, _, _, _, _, _, _, _, h, _⟩ := h; rw [h]; rfl)
  | (obtain ⟨_, _, _, _, _, _, _, _, _, _, _, _, _, h, _⟩ := h; rw [h]; rfl)
  | (obtain ⟨_, _, _, _, _, _, _, _, _, _, _, _, _, _, h, _⟩ := h; rw [h]; rfl)
def bd_FootWay_ready : WTS := (wRet (wC (.int 0)))
theorem w_FootWay_ready (ws : List W) (G : WHp) (Q : WQ) (Ex : Xc → WHp → Prop) (h : sp_FootWay_ready ws G Q Ex) : bd_FootWay_ready (endsW Q) (wStart ["self"] ws) G (fun c _ G' => Ex c G') := by
  obtain ⟨x, rfl, q⟩ := h
  simp! only [bd_FootWay_ready]
  exact q

def sp_FootWay_fade : WSp := fun ws G Q _ => ∃ y, ws = [wyW y] ∧ Q (.int y.off) G
def mt_fade : WMt := fun c => if c = 10 then sp_CarWay_fade else if c = 11 then sp_FootWay_fade else sp_Way_fade
theorem fade_i {y : Wy} {G : WHp} {Q : WQ} {E : Xc → WHp → Prop} (h : y.ok) (q : Q (.int y.fade) G) : mt_fade y.sort [wyW y] G Q E := by
  unfold mt_fade
  unfold Wy.fade at q
  rcases h with h | h | h <;> rw [h] at q ⊢ <;> exact ⟨_, rfl, q⟩

theorem len_FootWay_fade : ∀ ws G Q E, sp_FootWay_fade ws G Q E → ws.length = (["self"] : List Str).length := by
  intro ws G Q E h
  first
  | (obtain ⟨_, h, _⟩ := h; rw [h]; rfl)
  | (obtain ⟨_, _, h, _⟩ := h; rw [h]; rfl)
  | (obtain ⟨_, _, _, h, _⟩ := h; rw [h]; rfl)
  | (obtain ⟨_, _, _, _, h, _⟩ := h; rw [h]; rfl)
  | (obtain ⟨_, _, _, _, _, h, _⟩ := h; rw [h]; rfl)
  | (obtain ⟨_, _, _, _, _, _, h, _⟩ := h; rw [h]; rfl)
  | (obtain ⟨_, _, _, _, _, _, _, h, _⟩ := h; rw [h]; rfl)
  | (obtain ⟨_, _, _, _, _, _, _, _, h, _⟩ := h; rw [h]; rfl)
  | (obtain ⟨_, _, _, _, _, _, _, _, _, h, _⟩ := h; rw [h]; rfl)
  | (obtain ⟨_, _, _, _, _, _, _, _, _, _, h, _⟩ := h; rw [h]; rfl)
  | (obtain ⟨_, _, _, _, _, _, _, _, _, _, _, h, _⟩ := h; rw [h]; rfl)
  | (obtain ⟨_, _, _, _, _, _, _, _, _, _, _, _, h, _⟩ := h; rw [h]; rfl)
  | (obtain ⟨_, _, _, _, _, _, _, _, _, _, _, _, _, h, _⟩ := h; rw [h]; rfl)
  | (obtain ⟨_, _, _, _, _, _, _, _, _, _, _, _, _, _, h, _⟩ := h; rw [h]; rfl)
def bd_FootWay_fade : WTS := (wRet (wFld 3 (wVar 0)))
theorem w_FootWay_fade (ws : List W) (G : WHp) (Q : WQ) (Ex : Xc → WHp → Prop) (h : sp_FootWay_fade ws G Q Ex) : bd_FootWay_fade (endsW Q) (wStart ["self"] ws) G (fun c _ G' => Ex c G') := by
  obtain ⟨y, rfl, q⟩ := h
  simp! only [bd_FootWay_fade, wyW]
  exact ⟨_, rfl, q⟩

def sp_FootWay_goes : WSp := fun ws G Q _ => ∃ x m, ws = [x, .int m] ∧ Q (.int m) G
def mt_goes : WMt := fun c => if c = 11 then sp_FootWay_goes else sp_Way_goes
theorem goes_i {y : Wy} {m : Int} {G : WHp} {Q : WQ} {E : Xc → WHp → Prop} (h : y.ok) (q : Q (.int (y.goes m)) G) : mt_goes y.sort [wyW y, .int m] G Q E := by
  unfold mt_goes
  unfold Wy.goes at q
  rcases h with h | h | h <;> rw [h] at q ⊢ <;> exact ⟨_, _, rfl, q⟩

theorem len_FootWay_goes : ∀ ws G Q E, sp_FootWay_goes ws G Q E → ws.length = (["self", "many"] : List Str).length := by
  intro ws G Q E h
  first
  | (obtain ⟨_, h, _⟩ := h; rw [h]; rfl)
  | (obtain ⟨_, _, h, _⟩ := h; rw [h]; rfl)
  | (obtain ⟨_, _, _, h, _⟩ := h; rw [h]; rfl)
  | (obtain ⟨_, _, _, _, h, _⟩ := h; rw [h]; rfl)
  | (obtain ⟨_, _, _, _, _, h, _⟩ := h; rw [h]; rfl)
  | (obtain ⟨_, _, _, _, _, _, h, _⟩ := h; rw [h]; rfl)
  | (obtain ⟨_, _, _, _, _, _, _, h, _⟩ := h; rw [h]; rfl)
  | (obtain ⟨_, _, _, _, _, _, _, _, h, _⟩ := h; rw [h]; rfl)
  | (obtain ⟨_, _, _, _, _, _, _, _, _, h, _⟩ := h; rw [h]; rfl)
  | (obtain ⟨_, _, _, _, _, _, _, _, _, _, h, _⟩ := h; rw [h]; rfl)
  | (obtain ⟨_, _, _, _, _, _, _, _, _, _, _, h, _⟩ := h; rw [h]; rfl)
  | (obtain ⟨_, _, _, _, _, _, _, _, _, _, _, _, h, _⟩ := h; rw [h]; rfl)
  | (obtain ⟨_, _, _, _, _, _, _, _, _, _, _, _, _, h, _⟩ := h; rw [h]; rfl)
  | (obtain ⟨_, _, _, _, _, _, _, _, _, _, _, _, _, _, h, _⟩ := h; rw [h]; rfl)
def bd_FootWay_goes : WTS := (wRet (wVar 1))
theorem w_FootWay_goes (ws : List W) (G : WHp) (Q : WQ) (Ex : Xc → WHp → Prop) (h : sp_FootWay_goes ws G Q Ex) : bd_FootWay_goes (endsW Q) (wStart ["self", "many"] ws) G (fun c _ G' => Ex c G') := by
  obtain ⟨x, m, rfl, q⟩ := h
  simp! only [bd_FootWay_goes]
  exact q

def sp_TramWay_init : WSp := fun ws G Q _ => ∃ p n a b c d e, ws = [.ref p, .str n, .int a, .int b, .int c, .int d, .int e] ∧ G p = some (.obj 12 []) ∧ Q .non (updG G p (.obj 12 (wyF ⟨12, n, a, b, c, d, e⟩)))
/-- a new way, seen as a value -/
theorem car_v {G : WHp} {Q : WQ} {E : Xc → WHp → Prop} {n : List Nat} {a b c d e : Int} (q : Q (wyW ⟨10, n, a, b, c, d, e⟩) G) : ∀ p, G p = none → sp_CarWay_init [.ref p, .str n, .int a, .int b, .int c, .int d, .int e] (updG G p (.obj 10 [])) (fun v G2 => v = .non ∧ ∃ w2 G3, View (.ref p) G2 w2 G3 ∧ Q w2 G3) E :=
  fun p hp => ⟨p, n, a, b, c, d, e, rfl, updG_same, rfl, by rw [updG_updG]; exact vw_obj hp q⟩
theorem foot_v {G : WHp} {Q : WQ} {E : Xc → WHp → Prop} {n : List Nat} {a b c d e : Int} (q : Q (wyW ⟨11, n, a, b, c, d, e⟩) G) : ∀ p, G p = none → sp_FootWay_init [.ref p, .str n, .int a, .int b, .int c, .int d, .int e] (updG G p (.obj 11 [])) (fun v G2 => v = .non ∧ ∃ w2 G3, View (.ref p) G2 w2 G3 ∧ Q w2 G3) E :=
  fun p hp => ⟨p, n, a, b, c, d, e, rfl, updG_same, rfl, by rw [updG_updG]; exact vw_obj hp q⟩
theorem tram_v {G : WHp} {Q : WQ} {E : Xc → WHp → Prop} {n : List Nat} {a b c d e : Int} (q : Q (wyW ⟨12, n, a, b, c, d, e⟩) G) : ∀ p, G p = none → sp_TramWay_init [.ref p, .str n, .int a, .int b, .int c, .int d, .int e] (updG G p (.obj 12 [])) (fun v G2 => v = .non ∧ ∃ w2 G3, View (.ref p) G2 w2 G3 ∧ Q w2 G3) E :=
  fun p hp => ⟨p, n, a, b, c, d, e, rfl, updG_same, rfl, by rw [updG_updG]; exact vw_obj hp q⟩

theorem len_TramWay_init : ∀ ws G Q E, sp_TramWay_init ws G Q E → ws.length = (["self", "name", "start", "end", "off", "near", "least"] : List Str).length := by
  intro ws G Q E h
  first
  | (obtain ⟨_, h, _⟩ := h; rw [h]; rfl)
  | (obtain ⟨_, _, h, _⟩ := h; rw [h]; rfl)
  | (obtain ⟨_, _, _, h, _⟩ := h; rw [h]; rfl)
  | (obtain ⟨_, _, _, _, h, _⟩ := h; rw [h]; rfl)
  | (obtain ⟨_, _, _, _, _, h, _⟩ := h; rw [h]; rfl)
  | (obtain ⟨_, _, _, _, _, _, h, _⟩ := h; rw [h]; rfl)
  | (obtain ⟨_, _, _, _, _, _, _, h, _⟩ := h; rw [h]; rfl)
  | (obtain ⟨_, _, _, _, _, _, _, _, h, _⟩ := h; rw [h]; rfl)
  | (obtain ⟨_, _, _, _, _, _, _, _, _, h, _⟩ := h; rw [h]; rfl)
  | (obtain ⟨_, _, _, _, _, _, _, _, _, _, h, _⟩ := h; rw [h]; rfl)
  | (obtain ⟨_, _, _, _, _, _, _, _, _, _, _, h, _⟩ := h; rw [h]; rfl)
  | (obtain ⟨_, _, _, _, _, _, _, _, _, _, _, _, h, _⟩ := h; rw [h]; rfl)
  | (obtain ⟨_, _, _, _, _, _, _, _, _, _, _, _, _, h, _⟩ := h; rw [h]; rfl)
  | (obtain ⟨_, _, _, _, _, _, _, _, _, _, _, _, _, _, h, _⟩ := h; rw [h]; rfl)
def bd_TramWay_init_t2 : WTS := (wFldSet 6 (wVar 0) (wC (.str tTRAM)))
def bd_TramWay_init : WTS := wSeq (wDrop (wCall sp_Way_init (wCons (wVar 0) (wCons (wVar 1) (wCons (wVar 2) (wCons (wVar 3) (wCons (wVar 4) (wCons (wVar 5) (wCons (wVar 6) wNil))))))))) bd_TramWay_init_t2
theorem w_TramWay_init (ws : List W) (G : WHp) (Q : WQ) (Ex : Xc → WHp → Prop) (h : sp_TramWay_init ws G Q Ex) : bd_TramWay_init (endsW Q) (wStart ["self", "name", "start", "end", "off", "near", "least"] ws) G (fun c _ G' => Ex c G') := by
  obtain ⟨p, n, a, b, c, d, e, rfl, hp, q⟩ := h
  simp! only [bd_TramWay_init, bd_TramWay_init_t2]
  refine ⟨p, 12, n, a, b, c, d, e, rfl, hp, 12, _, updG_same, (of_decide_eq_true rfl), ?_⟩
  simp only [updG_updG]
  exact q

def sp_TramWay_ready : WSp := fun ws G Q _ => ∃ x, ws = [x] ∧ Q (.int 2) G
def mt_ready : WMt := fun c => if c = 10 then sp_Way_ready else if c = 11 then sp_FootWay_ready else sp_TramWay_ready
theorem ready_i {y : Wy} {G : WHp} {Q : WQ} {E : Xc → WHp → Prop} (h : y.ok) (q : Q (.int y.ready) G) : mt_ready y.sort [wyW y] G Q E := by
  unfold mt_ready
  unfold Wy.ready at q
  rcases h with h | h | h <;> rw [h] at q ⊢ <;> exact ⟨_, rfl, q⟩

theorem len_TramWay_ready : ∀ ws G Q E, sp_TramWay_ready ws G Q E → ws.length = (["self"] : List Str).length := by
  intro ws G Q E h
  first
  | (obtain ⟨_, h, _⟩ := h; rw [h]; rfl)
  | (obtain ⟨_, _, h, _⟩ := h; rw [h]; rfl)
  | (obtain ⟨_, _, _, h, _⟩ := h; rw [h]; rfl)
  | (obtain ⟨_, _, _, _, h, _⟩ := h; rw [h]; rfl)
  | (obtain ⟨_, _, _, _, _, h, _⟩ := h; rw [h]; rfl)
  | (obtain ⟨_, _, _, _, _, _, h, _⟩ := h; rw [h]; rfl)
  | (obtain ⟨_, _, _, _, _, _, _, h, _⟩ := h; rw [h]; rfl)
  | (obtain ⟨_, _, _, _, _, _, _, _, h, _⟩ := h; rw [h]; rfl)
  | (obtain ⟨_, _, _, _, _, _, _, _, _, h, _⟩ := h; rw [h]; rfl)
  | (obtain ⟨_, _, _, _, _, _, _, _, _, _, h, _⟩ := h; rw [h]; rfl)
  | (obtain ⟨_, _, _, _, _, _, _, _, _, _, _, h, _⟩ := h; rw [h]; rfl)
  | (obtain ⟨_, _, _, _, _, _, _, _, _, _, _, _, h, _⟩ := h; rw [h]; rfl)
  | (obtain ⟨_, _, _, _, _, _, _, _, _, _, _, _, _, h, _⟩ := h; rw [h]; rfl)
  | (obtain ⟨_, _, _, _, _, _, _, _, _, _, _, _, _, _, h, _⟩ := h; rw [h]; rfl)
def bd_TramWay_ready : WTS := (wRet (wC (.int 2)))
theorem w_TramWay_ready (ws : List W) (G : WHp) (Q : WQ) (Ex : Xc → WHp → Prop) (h : sp_TramWay_ready ws G Q Ex) : bd_TramWay_ready (endsW Q) (wStart ["self"] ws) G (fun c _ G' => Ex c G') := by
  obtain ⟨x, rfl, q⟩ := h
  simp! only [bd_TramWay_ready]
  exact q

/-! ### crossings -/
/-- a crossing -/
structure Cr where
  places : Int
  ways : List Wy
def crF (c : Cr) : List (Nat × W) := [(7, .int c.places), (8, .il (c.ways.map wyW))]
def crW (c : Cr) : W := .io 13 (crF c)
def Cr.names (c : Cr) : List (List Nat) := c.ways.map (·.name)
def Cr.find (c : Cr) (n : List Nat) : Option Nat := c.ways.findIdx? fun y => decide (y.name = n)
def Cr.get (c : Cr) (n : List Nat) : Option Wy := c.ways.find? fun y => decide (y.name = n)
structure Cr.ok (c : Cr) : Prop where
  len : c.ways.length ≤ 12
  ne : c.ways ≠ []
  p0 : 2 ≤ c.places
  p1 : c.places ≤ 99
  all : ∀ y ∈ c.ways, y.okP c.places
  nd : c.names.Nodup
theorem find_get {c : Cr} {n : List Nat} : (c.find n).bind (fun k => c.ways[k]?) = c.get n := by
  unfold Cr.find Cr.get
  induction c.ways with
  | nil => rfl
  | cons y r ih =>
    by_cases h : y.name = n
    · simp [List.findIdx?_cons, List.find?_cons, h]
    · simp [List.findIdx?_cons, List.find?_cons, h, ← ih]
      cases List.findIdx? (fun y => decide (y.name = n)) r <;> simp
theorem find_some {c : Cr} {n : List Nat} {k : Nat} (h : c.find n = some k) : ∃ y, c.ways[k]? = some y ∧ y.name = n ∧ c.get n = some y := by
  have e := find_get (c := c) (n := n)
  rw [h] at e
  unfold Cr.find at h
  obtain ⟨hk, h1, _⟩ := List.findIdx?_eq_some_iff_getElem.mp h
  refine ⟨c.ways[k], List.getElem?_eq_getElem hk, by simpa using h1, ?_⟩
  rw [← e]
  simp [hk]
theorem find_none {c : Cr} {n : List Nat} : c.find n = none ↔ c.get n = none := by
  unfold Cr.find Cr.get
  rw [List.findIdx?_eq_none_iff, List.find?_eq_none]
  simp
theorem get_mem {c : Cr} {n : List Nat} {y : Wy} (h : c.get n = some y) : y ∈ c.ways ∧ y.name = n := by
  unfold Cr.get at h
  exact ⟨List.mem_of_find?_eq_some h, by simpa using List.find?_some h⟩
theorem get_none {c : Cr} {n : List Nat} : c.get n = none ↔ n ∉ c.names := by
  unfold Cr.get Cr.names
  rw [List.find?_eq_none]
  simp
theorem get_self {c : Cr} (nd : c.names.Nodup) {y : Wy} (hy : y ∈ c.ways) : c.get y.name = some y := by
  unfold Cr.names at nd
  unfold Cr.get
  induction hc : c.ways generalizing c with
  | nil => rw [hc] at hy; cases hy
  | cons z r ih =>
    rw [hc] at hy nd
    rw [List.map_cons, List.nodup_cons] at nd
    by_cases e : z.name = y.name
    · rw [List.find?_cons_of_pos (by simpa using e)]
      rcases List.mem_cons.mp hy with h | h
      · rw [h]
      · exact absurd (List.mem_map.mpr ⟨y, h, e.symm⟩) nd.1
    · rw [List.find?_cons_of_neg (by simpa using e)]
      rcases List.mem_cons.mp hy with h | h
      · rw [h] at e; exact absurd rfl e
      · exact ih (c := ⟨c.places, r⟩) nd.2 h rfl
theorem get_some {c : Cr} {n : List Nat} (h : n ∈ c.names) : ∃ y, c.get n = some y := by
  cases e : c.get n with
  | none => exact absurd h (get_none.mp e)
  | some y => exact ⟨y, rfl⟩
/-! what a text tells -/
def tRING : List Nat := [114, 105, 110, 103]
def isSort (s : List Nat) : Bool := decide (s = tCAR) || decide (s = tFOOT) || decide (s = tTRAM)
def sortK (s : List Nat) : Nat := if s = tCAR then 10 else if s = tFOOT then 11 else 12
abbrev Pr (α : Type) := Except (Int × Int) α
def headP (row : List (List Nat)) : Pr Int :=
  if row.getD 0 [] ≠ tRING then .error (0, 0) else if row.length < 2 then .error (0, 1) else
  match figV (row.getD 1 []) 2 99 with
  | none => .error (0, 1)
  | some p => if 2 < row.length then .error (0, 2) else .ok p
def bndLo (k : Nat) : Int := if k = 4 then 1 else 0
def bndHi (places : Int) (k : Nat) : Int := if k < 2 then places - 1 else if k < 4 then 30 else 60
def numsTo (at_ : Int) (row : List (List Nat)) (places : Int) : Nat → Pr (List Int)
  | 0 => .ok []
  | k + 1 => match numsTo at_ row places k with
    | .error e => .error e
    | .ok ns => if row.length ≤ 2 + k then .error (at_, row.length) else
      match figV (row.getD (2 + k) []) (bndLo k) (bndHi places k) with
      | none => .error (at_, 2 + k)
      | some n => if k = 1 ∧ some n = ns.head? then .error (at_, 2 + k) else .ok (ns ++ [n])
def numsP (at_ : Int) (row : List (List Nat)) (places : Int) : Pr (List Int) := match numsTo at_ row places 5 with
  | .error e => .error e
  | .ok ns => if 7 < row.length then .error (at_, 7) else .ok ns
theorem numsTo_len {at_ : Int} {row : List (List Nat)} {places : Int} : ∀ {k : Nat} {ns : List Int}, numsTo at_ row places k = .ok ns → ns.length = k
  | 0, ns, h => by cases h; rfl
  | k + 1, ns, h => by
    unfold numsTo at h
    split at h
    · cases h
    · rename_i ns' h'
      have ih := numsTo_len h'
      split at h
      · cases h
      · split at h
        · cases h
        · split at h
          · cases h
          · cases h; simp [ih]
def wayP (at_ : Int) (row : List (List Nat)) (places : Int) (taken : List (List Nat)) : Pr Wy :=
  if 12 < at_ ∨ isSort (row.getD 0 []) = false then .error (at_, 0) else
  if row.length < 2 ∨ isName (row.getD 1 []) = false ∨ row.getD 1 [] ∈ taken then .error (at_, 1) else
  match numsP at_ row places with
  | .error e => .error e
  | .ok ns => .ok ⟨sortK (row.getD 0 []), row.getD 1 [], ns.getD 0 0, ns.getD 1 0, ns.getD 2 0, ns.getD 3 0, ns.getD 4 0⟩
def waysTo (rows : List (List (List Nat))) (places : Int) : Nat → Pr (List Wy)
  | 0 => .ok []
  | k + 1 => match waysTo rows places k with
    | .error e => .error e
    | .ok ys => match wayP (1 + k) (rows.getD (1 + k) []) places (ys.map (·.name)) with
      | .error e => .error e
      | .ok y => .ok (ys ++ [y])
def crossP (s : List Nat) : Pr Cr := match headP ((rowsOf s).getD 0 []) with
  | .error e => .error e
  | .ok p => if (rowsOf s).length < 2 then .error (1, 0) else
    match waysTo (rowsOf s) p ((rowsOf s).length - 1) with
    | .error e => .error e
    | .ok ys => .ok ⟨p, ys⟩
theorem sortK_ok {s : List Nat} : ∀ y : Wy, y.sort = sortK s → y.ok := fun y h => by
  unfold Wy.ok; rw [h]; unfold sortK
  split
  · exact .inl rfl
  · split
    · exact .inr (.inl rfl)
    · exact .inr (.inr rfl)
theorem figV_in {s : List Nat} {lo hi n : Int} (h : figV s lo hi = some n) : lo ≤ n ∧ n ≤ hi := by
  unfold figV at h
  split at h
  · rename_i g; cases h; exact g.2
  · cases h
theorem numsTo_in {at_ : Int} {row : List (List Nat)} {places : Int} : ∀ {k : Nat} {ns : List Int}, numsTo at_ row places k = .ok ns → (∀ i n, ns[i]? = some n → bndLo i ≤ n ∧ n ≤ bndHi places i) ∧ (2 ≤ k → ns[0]? ≠ ns[1]?)
  | 0, ns, h => by cases h; exact ⟨fun i n z => by simp at z, fun z => by omega⟩
  | k + 1, ns, h => by
    unfold numsTo at h
    split at h
    · cases h
    · rename_i ns' h'
      have ih := numsTo_in h'
      have hl := numsTo_len h'
      split at h
      · cases h
      · split at h
        · cases h
        · rename_i n hn
          split at h
          · cases h
          · rename_i hne
            cases h
            refine ⟨fun i m hm => ?_, fun hk => ?_⟩
            · rw [List.getElem?_append] at hm
              split at hm
              · exact ih.1 i m hm
              · have : i = k := by
                  rcases Nat.eq_zero_or_pos (i - ns'.length) with z | z
                  · omega
                  · rw [List.getElem?_eq_none (by simp; omega)] at hm; cases hm
                subst this
                rw [show i - ns'.length = 0 by omega] at hm
                cases hm
                exact figV_in hn
            · rcases Nat.eq_or_lt_of_le hk with hk | hk
              · have hk : k = 1 := by omega
                subst hk
                match ns', hl with
                | [a], _ =>
                intro z
                simp at z
                exact hne ⟨rfl, by rw [z]; rfl⟩
              · rw [List.getElem?_append_left (by omega), List.getElem?_append_left (by omega)]
                exact ih.2 (by omega)
theorem isName_L {s : List Nat} : isName s = true ↔ isNameL s := by
  unfold isName isNameL
  simp only [Bool.and_eq_true, decide_eq_true_eq, allIn_iff, LET_mem, and_assoc]
  constructor
  · exact fun ⟨a, b, c⟩ => ⟨a, by omega, c⟩
  · exact fun ⟨a, b, c⟩ => ⟨a, by omega, c⟩
theorem wayP_ok {at_ : Int} {row : List (List Nat)} {places : Int} {taken : List (List Nat)} {y : Wy} (h : wayP at_ row places taken = .ok y) : y.okP places ∧ y.name ∉ taken := by
  unfold wayP at h
  split at h
  · cases h
  · split at h
    · cases h
    · rename_i h2
      split at h
      · cases h
      · rename_i ns hns
        cases h
        refine ⟨?_, fun z => h2 (.inr (.inr z))⟩
        unfold numsP at hns
        split at hns
        · cases hns
        · rename_i ns' h3
          split at hns
          · cases hns
          · cases hns
            have hl := numsTo_len h3
            have hb := numsTo_in h3
            match ns, hl with
            | [a, b, c, d, e], _ =>
            have b0 := hb.1 0 a rfl
            have b1 := hb.1 1 b rfl
            have b2 := hb.1 2 c rfl
            have b3 := hb.1 3 d rfl
            have b4 := hb.1 4 e rfl
            have b5 := hb.2 (by decide)
            simp only [bndLo, bndHi] at b0 b1 b2 b3 b4
            simp only [List.getD] at *
            refine ⟨sortK_ok (s := row.getD 0 []) _ rfl, b0.1, ?_, b1.1, ?_, fun z => b5 ?_, b2.1, b2.2, b3.1, b3.2, b4.1, b4.2, isName_L.mp ?_⟩
            · have := b0.2; simp at this ⊢; omega
            · have := b1.2; simp at this ⊢; omega
            · simpa using z
            · cases hh : isName (row.getD 1 []) with
              | true => simpa [List.getD] using hh
              | false => exact absurd (.inr (.inl (by simpa [List.getD] using hh))) h2
theorem waysTo_ok {rows : List (List (List Nat))} {places : Int} : ∀ {k : Nat} {ys : List Wy}, waysTo rows places k = .ok ys → ys.length = k ∧ (∀ y ∈ ys, y.okP places) ∧ (ys.map (·.name)).Nodup ∧ (k ≤ 12 ∨ ys = [])
  | 0, ys, h => by cases h; exact ⟨rfl, (fun _ z => by cases z), List.nodup_nil, Or.inr rfl⟩
  | k + 1, ys, h => by
    unfold waysTo at h
    split at h
    · cases h
    · rename_i ys' h'
      obtain ⟨i1, i2, i3, i4⟩ := waysTo_ok h'
      split at h
      · cases h
      · rename_i y hy
        cases h
        have w := wayP_ok hy
        refine ⟨by simp [i1], fun z hz => ?_, ?_, .inl ?_⟩
        · rcases List.mem_append.mp hz with hz | hz
          · exact i2 z hz
          · rw [List.mem_singleton.mp hz]; exact w.1
        · rw [List.map_append, List.nodup_append]
          exact ⟨i3, by simp, fun a ha b hb => by simp at hb; rintro rfl; subst hb; exact w.2 ha⟩
        · unfold wayP at hy
          split at hy
          · cases hy
          · rename_i h1
            have : ¬ (12 : Int) < 1 + (k : Int) := fun z => h1 (.inl z)
            omega
theorem headP_in {row : List (List Nat)} {p : Int} (h : headP row = .ok p) : 2 ≤ p ∧ p ≤ 99 := by
  unfold headP at h
  split at h
  · cases h
  · split at h
    · cases h
    · split at h
      · cases h
      · rename_i hf
        split at h
        · cases h
        · cases h; exact figV_in hf
theorem crossP_ok {s : List Nat} {c : Cr} (h : crossP s = .ok c) : c.ok := by
  unfold crossP at h
  split at h
  · cases h
  · rename_i hp
    split at h
    · cases h
    · split at h
      · cases h
      · rename_i h2 ys hy
        cases h
        obtain ⟨i1, i2, i3, i4⟩ := waysTo_ok hy
        have : ys.length ≤ 12 := by
          rcases i4 with i4 | i4
          · omega
          · rw [i4]; simp
        have hp := headP_in hp
        refine ⟨this, fun e => ?_, hp.1, hp.2, i2, i3⟩
        simp only [] at e
        rw [e] at i1
        simp at i1
        omega
/-! the names taken -/
def tk (ns : List (List Nat)) : List (KW × W) := ns.map fun n => (.inr n, .bl true)
theorem valW_tk {ns : List (List Nat)} {n : List Nat} : (valW (tk ns) (.inr n)).isSome = decide (n ∈ ns) := by
  unfold valW tk
  rw [Option.isSome_map, List.find?_map, Option.isSome_map]
  induction ns with
  | nil => rfl
  | cons a r ih =>
    by_cases e : a = n
    · subst e; simp
    · rw [List.find?_cons_of_neg (by simpa using e), ih]
      simp [Ne.symm e]
theorem put_tk {ns : List (List Nat)} {n : List Nat} (h : n ∉ ns) : putKW (tk ns) (.inr n) (.bl true) = tk (ns ++ [n]) := by
  unfold putKW
  rw [if_neg]
  · simp [tk]
  · simp [tk]
    exact h
theorem tk_len {ns : List (List Nat)} : (tk ns).length = ns.length := by simp [tk]
theorem isNon_opt {o : Option Int} : isNonW (optI o) = o.isNone := by cases o <;> rfl
theorem notin_sorts {s : List Nat} {G : WHp} {Q : WQ} : oNotIn (.str s) (.tup [.str tCAR, .str tFOOT, .str tTRAM]) G Q = Q (.bl (!isSort s)) G := by
  show (flW (.str s) = true ∧ _ ∧ Q (.bl (!(List.any _ _))) G) = _
  have : (List.any [W.str tCAR, .str tFOOT, .str tTRAM] fun y => eqFl y (.str s)) = isSort s := by
    simp only [List.any_cons, List.any_nil, eqFl, isSort, Bool.or_false, Bool.or_assoc, eq_comm]
  rw [this]
  simp [flW]

def sp_Crossing_init : WSp := fun ws G Q _ => ∃ p n x ys, ws = [.ref p, .int n, x] ∧ G p = some (.obj 13 []) ∧ sqOf G x = some (ys.map wyW) ∧ (∀ o, sqT (updG G p o) x = some (ys.map wyW)) ∧ Q .non (updG G p (.obj 13 (crF ⟨n, ys⟩)))

theorem len_Crossing_init : ∀ ws G Q E, sp_Crossing_init ws G Q E → ws.length = (["self", "places", "ways"] : List Str).length := by
  intro ws G Q E h
  first
  | (obtain ⟨_, h, _⟩ := h; rw [h]; rfl)
  | (obtain ⟨_, _, h, _⟩ := h; rw [h]; rfl)
  | (obtain ⟨_, _, _, h, _⟩ := h; rw [h]; rfl)
  | (obtain ⟨_, _, _, _, h, _⟩ := h; rw [h]; rfl)
  | (obtain ⟨_, _, _, _, _, h, _⟩ := h; rw [h]; rfl)
  | (obtain ⟨_, _, _, _, _, _, h, _⟩ := h; rw [h]; rfl)
  | (obtain ⟨_, _, _, _, _, _, _, h, _⟩ := h; rw [h]; rfl)
  | (obtain ⟨_, _, _, _, _, _, _, _, h, _⟩ := h; rw [h]; rfl)
  | (obtain ⟨_, _, _, _, _, _, _, _, _, h, _⟩ := h; rw [h]; rfl)
  | (obtain ⟨_, _, _, _, _, _, _, _, _, _, h, _⟩ := h; rw [h]; rfl)
  | (obtain ⟨_, _, _, _, _, _, _, _, _, _, _, h, _⟩ := h; rw [h]; rfl)
  | (obtain ⟨_, _, _, _, _, _, _, _, _, _, _, _, h, _⟩ := h; rw [h]; rfl)
  | (obtain ⟨_, _, _, _, _, _, _, _, _, _, _, _, _, h, _⟩ := h; rw [h]; rfl)
  | (obtain ⟨_, _, _, _, _, _, _, _, _, _, _, _, _, _, h, _⟩ := h; rw [h]; rfl)
def bd_Crossing_init_t2 : WTS := (wFldSet 8 (wVar 0) (wCB oListI (wCons (wVar 2) wNil)))
def bd_Crossing_init : WTS := wSeq (wFldSet 7 (wVar 0) (wVar 1)) bd_Crossing_init_t2
theorem w_Crossing_init (ws : List W) (G : WHp) (Q : WQ) (Ex : Xc → WHp → Prop) (h : sp_Crossing_init ws G Q Ex) : bd_Crossing_init (endsW Q) (wStart ["self", "places", "ways"] ws) G (fun c _ G' => Ex c G') := by
  obtain ⟨p, n, x, ys, rfl, hp, hx, hx2, q⟩ := h
  simp! only [bd_Crossing_init, bd_Crossing_init_t2]
  refine ⟨13, [], hp, (of_decide_eq_true rfl), x, _, rfl, hx2 _, 13, _, updG_same, (of_decide_eq_true rfl), ?_⟩
  simp only [updG_updG]; exact q

def sp_Crossing_names : WSp := fun ws G Q _ => ∃ c, ws = [crW c] ∧ c.ok ∧ ∀ p, G p = none → Q (.ref p) (updG G p (.lst (c.names.map .str)))
def mt_names : WMt := fun _ => sp_Crossing_names
theorem names_v {c : Cr} {G : WHp} {Q : WQ} {E : Xc → WHp → Prop} (h : c.ok) (q : Q (.il (c.names.map .str)) G) : mt_names 13 [crW c] G (fun w G1 => ∃ w2 G2, View w G1 w2 G2 ∧ Q w2 G2) E :=
  ⟨c, rfl, h, fun p hp => vw_lst hp q⟩

theorem len_Crossing_names : ∀ ws G Q E, sp_Crossing_names ws G Q E → ws.length = (["self"] : List Str).length := by
  intro ws G Q E h
  first
  | (obtain ⟨_, h, _⟩ := h; rw [h]; rfl)
  | (obtain ⟨_, _, h, _⟩ := h; rw [h]; rfl)
  | (obtain ⟨_, _, _, h, _⟩ := h; rw [h]; rfl)
  | (obtain ⟨_, _, _, _, h, _⟩ := h; rw [h]; rfl)
  | (obtain ⟨_, _, _, _, _, h, _⟩ := h; rw [h]; rfl)
  | (obtain ⟨_, _, _, _, _, _, h, _⟩ := h; rw [h]; rfl)
  | (obtain ⟨_, _, _, _, _, _, _, h, _⟩ := h; rw [h]; rfl)
  | (obtain ⟨_, _, _, _, _, _, _, _, h, _⟩ := h; rw [h]; rfl)
  | (obtain ⟨_, _, _, _, _, _, _, _, _, h, _⟩ := h; rw [h]; rfl)
  | (obtain ⟨_, _, _, _, _, _, _, _, _, _, h, _⟩ := h; rw [h]; rfl)
  | (obtain ⟨_, _, _, _, _, _, _, _, _, _, _, h, _⟩ := h; rw [h]; rfl)
  | (obtain ⟨_, _, _, _, _, _, _, _, _, _, _, _, h, _⟩ := h; rw [h]; rfl)
  | (obtain ⟨_, _, _, _, _, _, _, _, _, _, _, _, _, h, _⟩ := h; rw [h]; rfl)
  | (obtain ⟨_, _, _, _, _, _, _, _, _, _, _, _, _, _, h, _⟩ := h; rw [h]; rfl)
def lc_Crossing_names_1_t : WTT := wYes
def lc_Crossing_names_1_e : WTE := (wFld 0 (wVar 1))
def bd_Crossing_names : WTS := (wRet (wLcM (wIter (wFld 8 (wVar 0))) 1 lc_Crossing_names_1_t lc_Crossing_names_1_e))
theorem w_Crossing_names (ws : List W) (G : WHp) (Q : WQ) (Ex : Xc → WHp → Prop) (h : sp_Crossing_names ws G Q Ex) : bd_Crossing_names (endsW Q) (wStart ["self", "way"] ws) G (fun c _ G' => Ex c G') := by
  obtain ⟨c, rfl, ho, q⟩ := h
  simp! only [bd_Crossing_names, crW, crF]
  refine lcM_map (fun w => match w with | .io _ fs => (fs.lookup 0).getD .non | w => w) (by rw [List.length_map]; have := ho.len; omega) (fun _ _ => trivial) ?_ ?_
  · intro k x G' Q' hx _ hq
    rw [List.getElem?_map, Option.map_eq_some_iff] at hx
    obtain ⟨y, hy, rfl⟩ := hx
    simp! only [lc_Crossing_names_1_e, wyW, wyF]
    exact hq
  · intro p hp
    rw [List.map_map]
    have := q p hp
    unfold Cr.names at this
    rw [List.map_map] at this
    exact this

def sp_Crossing_number : WSp := fun ws G Q E => ∃ c n, ws = [crW c, .str n] ∧ c.ok ∧ (∀ k, c.find n = some k → Q (.int (k : Nat)) G) ∧ (c.find n = none → exS E (xNoWay n) G)
def mt_number : WMt := fun _ => sp_Crossing_number

theorem len_Crossing_number : ∀ ws G Q E, sp_Crossing_number ws G Q E → ws.length = (["self", "name"] : List Str).length := by
  intro ws G Q E h
  first
  | (obtain ⟨_, h, _⟩ := h; rw [h]; rfl)
  | (obtain ⟨_, _, h, _⟩ := h; rw [h]; rfl)
  | (obtain ⟨_, _, _, h, _⟩ := h; rw [h]; rfl)
  | (obtain ⟨_, _, _, _, h, _⟩ := h; rw [h]; rfl)
  | (obtain ⟨_, _, _, _, _, h, _⟩ := h; rw [h]; rfl)
  | (obtain ⟨_, _, _, _, _, _, h, _⟩ := h; rw [h]; rfl)
  | (obtain ⟨_, _, _, _, _, _, _, h, _⟩ := h; rw [h]; rfl)
  | (obtain ⟨_, _, _, _, _, _, _, _, h, _⟩ := h; rw [h]; rfl)
  | (obtain ⟨_, _, _, _, _, _, _, _, _, h, _⟩ := h; rw [h]; rfl)
  | (obtain ⟨_, _, _, _, _, _, _, _, _, _, h, _⟩ := h; rw [h]; rfl)
  | (obtain ⟨_, _, _, _, _, _, _, _, _, _, _, h, _⟩ := h; rw [h]; rfl)
  | (obtain ⟨_, _, _, _, _, _, _, _, _, _, _, _, h, _⟩ := h; rw [h]; rfl)
  | (obtain ⟨_, _, _, _, _, _, _, _, _, _, _, _, _, h, _⟩ := h; rw [h]; rfl)
  | (obtain ⟨_, _, _, _, _, _, _, _, _, _, _, _, _, _, h, _⟩ := h; rw [h]; rfl)
def bd_Crossing_number_2 : WTS := (wRet (wVar 2))
def bd_Crossing_number_1 : WTS := (wIfS (wTest (wOp oEq (wFld 0 (wVar 3)) (wVar 1))) bd_Crossing_number_2 wNext)
def bd_Crossing_number_t2 : WTS := (wRaise 2 [0] (wCons (wVar 1) wNil))
def bd_Crossing_number : WTS := wSeq (wFor (wEnum (wCons (wFld 8 (wVar 0)) wNil)) (wGTup 2 (wGCons (wN 2) (wGCons (wN 3) wGNil))) bd_Crossing_number_1) bd_Crossing_number_t2
theorem w_Crossing_number (ws : List W) (G : WHp) (Q : WQ) (Ex : Xc → WHp → Prop) (h : sp_Crossing_number ws G Q Ex) : bd_Crossing_number (endsW Q) (wStart ["self", "name", "k", "way"] ws) G (fun c _ G' => Ex c G') := by
  obtain ⟨c, n, rfl, ho, q, e⟩ := h
  simp! only [bd_Crossing_number, crW, crF]
  refine lp_en (fun i σ' G' => G' = G ∧ (∃ o2 o3, σ' = [some (crW c), some (.str n), o2, o3]) ∧ ∀ k y, k < i → c.ways[k]? = some y → y.name ≠ n) ⟨rfl, ⟨_, _, rfl⟩, fun k y hk => absurd hk (Nat.not_lt_zero k)⟩ (fun _ _ _ _ _ => trivial) ?_ ?_
  · rintro i w σ' G' hw ⟨rfl, ⟨o2, o3, rfl⟩, hno⟩
    rw [List.getElem?_map, Option.map_eq_some_iff] at hw
    obtain ⟨y, hy, rfl⟩ := hw
    simp! only [turnW, bd_Crossing_number_1, wyW, wyF]
    split
    · rename_i hn
      simp! only [bd_Crossing_number_2]
      refine q i ?_
      unfold Cr.find
      rw [List.findIdx?_eq_some_iff_getElem]
      obtain ⟨hi, hy'⟩ := List.getElem?_eq_some_iff.mp hy
      refine ⟨hi, by simpa [hy'] using hn, fun k hk => ?_⟩
      simpa using hno k _ hk (List.getElem?_eq_getElem (Nat.lt_trans hk hi))
    · rename_i hn
      intro k z hk hz
      rcases Nat.lt_succ_iff_lt_or_eq.mp hk with hk | rfl
      · exact hno k z hk hz
      · rw [hy] at hz; cases hz; exact hn
  · rintro σ' G' ⟨rfl, ⟨o2, o3, rfl⟩, hno⟩
    simp! only [bd_Crossing_number_t2]
    refine (e ?_).now
    unfold Cr.find
    rw [List.findIdx?_eq_none_iff]
    intro y hy
    obtain ⟨k, hk⟩ := List.getElem?_of_mem hy
    rw [List.length_map] at hno
    simpa using hno k y (List.getElem?_eq_some_iff.mp hk).1 hk

def sp_Crossing_called : WSp := fun ws G Q E => ∃ c n, ws = [crW c, .str n] ∧ c.ok ∧ (∀ y, c.get n = some y → Q (wyW y) G) ∧ (c.get n = none → exS E (xNoWay n) G)
def mt_called : WMt := fun _ => sp_Crossing_called
theorem called_i {c : Cr} {n : List Nat} {y : Wy} {G : WHp} {Q : WQ} {E : Xc → WHp → Prop} (h : c.ok) (hy : c.get n = some y) (q : Q (wyW y) G) : mt_called 13 [crW c, .str n] G Q E :=
  ⟨c, n, rfl, h, fun z hz => by rw [hy] at hz; cases hz; exact q, fun hz => by rw [hy] at hz; cases hz⟩

theorem len_Crossing_called : ∀ ws G Q E, sp_Crossing_called ws G Q E → ws.length = (["self", "name"] : List Str).length := by
  intro ws G Q E h
  first
  | (obtain ⟨_, h, _⟩ := h; rw [h]; rfl)
  | (obtain ⟨_, _, h, _⟩ := h; rw [h]; rfl)
  | (obtain ⟨_, _, _, h, _⟩ := h; rw [h]; rfl)
  | (obtain ⟨_, _, _, _, h, _⟩ := h; rw [h]; rfl)
  | (obtain ⟨_, _, _, _, _, h, _⟩ := h; rw [h]; rfl)
  | (obtain ⟨_, _, _, _, _, _, h, _⟩ := h; rw [h]; rfl)
  | (obtain ⟨_, _, _, _, _, _, _, h, _⟩ := h; rw [h]; rfl)
  | (obtain ⟨_, _, _, _, _, _, _, _, h, _⟩ := h; rw [h]; rfl)
  | (obtain ⟨_, _, _, _, _, _, _, _, _, h, _⟩ := h; rw [h]; rfl)
  | (obtain ⟨_, _, _, _, _, _, _, _, _, _, h, _⟩ := h; rw [h]; rfl)
  | (obtain ⟨_, _, _, _, _, _, _, _, _, _, _, h, _⟩ := h; rw [h]; rfl)
  | (obtain ⟨_, _, _, _, _, _, _, _, _, _, _, _, h, _⟩ := h; rw [h]; rfl)
  | (obtain ⟨_, _, _, _, _, _, _, _, _, _, _, _, _, h, _⟩ := h; rw [h]; rfl)
  | (obtain ⟨_, _, _, _, _, _, _, _, _, _, _, _, _, _, h, _⟩ := h; rw [h]; rfl)
def bd_Crossing_called : WTS := (wRet (wOp oIx (wFld 8 (wVar 0)) (wMeth 53 mt_number [13] (wVar 0) (wCons (wVar 1) wNil))))
theorem w_Crossing_called (ws : List W) (G : WHp) (Q : WQ) (Ex : Xc → WHp → Prop) (h : sp_Crossing_called ws G Q Ex) : bd_Crossing_called (endsW Q) (wStart ["self", "name"] ws) G (fun c _ G' => Ex c G') := by
  obtain ⟨c, n, rfl, ho, q, e⟩ := h
  simp! only [bd_Crossing_called, crW, crF]
  refine ⟨c, n, rfl, ho, fun k hk => ?_, fun hk => e (find_none.mp hk)⟩
  obtain ⟨y, h1, h2, h3⟩ := find_some hk
  simp! only [true_and]
  exact ⟨_, atI_n (by rw [List.getElem?_map, h1]; rfl), q y h3⟩

def sp_made_way : WSp := fun ws G Q _ => ∃ (s n : List Nat) (ns : List Int), ws = [.str s, .str n, .il (ns.map W.int)] ∧ ns.length = 5 ∧ Q (wyW ⟨sortK s, n, ns.getD 0 0, ns.getD 1 0, ns.getD 2 0, ns.getD 3 0, ns.getD 4 0⟩) G

theorem len_made_way : ∀ ws G Q E, sp_made_way ws G Q E → ws.length = (["sort", "name", "numbers"] : List Str).length := by
  intro ws G Q E h
  first
  | (obtain ⟨_, h, _⟩ := h; rw [h]; rfl)
  | (obtain ⟨_, _, h, _⟩ := h; rw [h]; rfl)
  | (obtain ⟨_, _, _, h, _⟩ := h; rw [h]; rfl)
  | (obtain ⟨_, _, _, _, h, _⟩ := h; rw [h]; rfl)
  | (obtain ⟨_, _, _, _, _, h, _⟩ := h; rw [h]; rfl)
  | (obtain ⟨_, _, _, _, _, _, h, _⟩ := h; rw [h]; rfl)
  | (obtain ⟨_, _, _, _, _, _, _, h, _⟩ := h; rw [h]; rfl)
  | (obtain ⟨_, _, _, _, _, _, _, _, h, _⟩ := h; rw [h]; rfl)
  | (obtain ⟨_, _, _, _, _, _, _, _, _, h, _⟩ := h; rw [h]; rfl)
  | (obtain ⟨_, _, _, _, _, _, _, _, _, _, h, _⟩ := h; rw [h]; rfl)
  | (obtain ⟨_, _, _, _, _, _, _, _, _, _, _, h, _⟩ := h; rw [h]; rfl)
  | (obtain ⟨_, _, _, _, _, _, _, _, _, _, _, _, h, _⟩ := h; rw [h]; rfl)
  | (obtain ⟨_, _, _, _, _, _, _, _, _, _, _, _, _, h, _⟩ := h; rw [h]; rfl)
  | (obtain ⟨_, _, _, _, _, _, _, _, _, _, _, _, _, _, h, _⟩ := h; rw [h]; rfl)
def bd_made_way_1 : WTS := (wRet (wView (wMake 10 sp_CarWay_init (wCons (wVar 1) (wCons (wOp oIx (wVar 2) (wC (.int 0))) (wCons (wOp oIx (wVar 2) (wC (.int 1))) (wCons (wOp oIx (wVar 2) (wC (.int 2))) (wCons (wOp oIx (wVar 2) (wC (.int 3))) (wCons (wOp oIx (wVar 2) (wC (.int 4))) wNil)))))))))
def bd_made_way_2 : WTS := (wRet (wView (wMake 11 sp_FootWay_init (wCons (wVar 1) (wCons (wOp oIx (wVar 2) (wC (.int 0))) (wCons (wOp oIx (wVar 2) (wC (.int 1))) (wCons (wOp oIx (wVar 2) (wC (.int 2))) (wCons (wOp oIx (wVar 2) (wC (.int 3))) (wCons (wOp oIx (wVar 2) (wC (.int 4))) wNil)))))))))
def bd_made_way_t3 : WTS := (wRet (wView (wMake 12 sp_TramWay_init (wCons (wVar 1) (wCons (wOp oIx (wVar 2) (wC (.int 0))) (wCons (wOp oIx (wVar 2) (wC (.int 1))) (wCons (wOp oIx (wVar 2) (wC (.int 2))) (wCons (wOp oIx (wVar 2) (wC (.int 3))) (wCons (wOp oIx (wVar 2) (wC (.int 4))) wNil)))))))))
def bd_made_way_t2 : WTS := wSeq (wIfS (wTest (wOp oEq (wVar 0) (wC (.str tFOOT)))) bd_made_way_2 wNext) bd_made_way_t3
def bd_made_way : WTS := wSeq (wIfS (wTest (wOp oEq (wVar 0) (wC (.str tCAR)))) bd_made_way_1 wNext) bd_made_way_t2
theorem w_made_way (ws : List W) (G : WHp) (Q : WQ) (Ex : Xc → WHp → Prop) (h : sp_made_way ws G Q Ex) : bd_made_way (endsW Q) (wStart ["sort", "name", "numbers"] ws) G (fun c _ G' => Ex c G') := by
  obtain ⟨s, n, ns, rfl, hl, q⟩ := h
  match ns, hl with
  | [a, b, c, d, e], _ =>
  simp! only [bd_made_way]
  split
  · rename_i hs
    simp! only [bd_made_way_1]
    unfold sortK at q
    rw [if_pos hs] at q
    exact ⟨_, rfl, _, rfl, _, rfl, _, rfl, _, rfl, car_v q⟩
  · rename_i hs
    simp! only [bd_made_way_t2]
    unfold sortK at q
    rw [if_neg hs] at q
    split
    · rename_i hs
      simp! only [bd_made_way_2]
      rw [if_pos hs] at q
      exact ⟨_, rfl, _, rfl, _, rfl, _, rfl, _, rfl, foot_v q⟩
    · rename_i hs
      simp! only [bd_made_way_t3]
      rw [if_neg hs] at q
      exact ⟨_, rfl, _, rfl, _, rfl, _, rfl, _, rfl, tram_v q⟩

/-- the words of a row are not too long -/
def rowOk (row : List (List Nat)) : Prop := row ≠ [] ∧ row.length ≤ 20001 ∧ ∀ w ∈ row, w.length ≤ 20001
theorem rowOk_at {row : List (List Nat)} (h : rowOk row) (k : Nat) (hk : k < row.length) : atI (row.map W.str) (k : Int) = some (.str (row.getD k [])) ∧ (row.getD k []).length ≤ 16777216 := by
  have e : row[k]? = some row[k] := List.getElem?_eq_getElem hk
  refine ⟨atI_n (by rw [List.getElem?_map, e]; simp [List.getD, e]), ?_⟩
  have := h.2.2 row[k] (List.getElem_mem hk)
  simp only [List.getD, e, Option.getD_some]; omega
def sp_read_head : WSp := fun ws G Q E => ∃ row, ws = [rowW row] ∧ rowOk row ∧ (∀ p, headP row = .ok p → Q (.int p) G) ∧ (∀ r w, headP row = .error (r, w) → exS E (xNoText r w) G)

theorem len_read_head : ∀ ws G Q E, sp_read_head ws G Q E → ws.length = (["row"] : List Str).length := by
  intro ws G Q E h
  first
  | (obtain ⟨_, h, _⟩ := h; rw [h]; rfl)
  | (obtain ⟨_, _, h, _⟩ := h; rw [h]; rfl)
  | (obtain ⟨_, _, _, h, _⟩ := h; rw [h]; rfl)
  | (obtain ⟨_, _, _, _, h, _⟩ := h; rw [h]; rfl)
  | (obtain ⟨_, _, _, _, _, h, _⟩ := h; rw [h]; rfl)
  | (obtain ⟨_, _, _, _, _, _, h, _⟩ := h; rw [h]; rfl)
  | (obtain ⟨_, _, _, _, _, _, _, h, _⟩ := h; rw [h]; rfl)
  | (obtain ⟨_, _, _, _, _, _, _, _, h, _⟩ := h; rw [h]; rfl)
  | (obtain ⟨_, _, _, _, _, _, _, _, _, h, _⟩ := h; rw [h]; rfl)
  | (obtain ⟨_, _, _, _, _, _, _, _, _, _, h, _⟩ := h; rw [h]; rfl)
  | (obtain ⟨_, _, _, _, _, _, _, _, _, _, _, h, _⟩ := h; rw [h]; rfl)
  | (obtain ⟨_, _, _, _, _, _, _, _, _, _, _, _, h, _⟩ := h; rw [h]; rfl)
  | (obtain ⟨_, _, _, _, _, _, _, _, _, _, _, _, _, h, _⟩ := h; rw [h]; rfl)
  | (obtain ⟨_, _, _, _, _, _, _, _, _, _, _, _, _, _, h, _⟩ := h; rw [h]; rfl)
def bd_read_head_1 : WTS := (wRaise 1 [9, 10] (wCons (wC (.int 0)) (wCons (wC (.int 0)) wNil)))
def bd_read_head_2 : WTS := (wRaise 1 [9, 10] (wCons (wC (.int 0)) (wCons (wC (.int 1)) wNil)))
def bd_read_head_3 : WTS := (wRaise 1 [9, 10] (wCons (wC (.int 0)) (wCons (wC (.int 1)) wNil)))
def bd_read_head_4 : WTS := (wRaise 1 [9, 10] (wCons (wC (.int 0)) (wCons (wC (.int 2)) wNil)))
def bd_read_head_t6 : WTS := (wRet (wVar 1))
def bd_read_head_t5 : WTS := wSeq (wIfS (wTest (wOp oGt (wCB oLen (wCons (wVar 0) wNil)) (wC (.int 2)))) bd_read_head_4 wNext) bd_read_head_t6
def bd_read_head_t4 : WTS := wSeq (wIfS (wTest (wOp oIs (wVar 1) (wC .non))) bd_read_head_3 wNext) bd_read_head_t5
def bd_read_head_t3 : WTS := wSeq (wAsg (wCall sp_figured (wCons (wOp oIx (wVar 0) (wC (.int 1))) (wCons (wC (.int 2)) (wCons (wC (.int 99)) wNil)))) (wN 1)) bd_read_head_t4
def bd_read_head_t2 : WTS := wSeq (wIfS (wTest (wOp oLt (wCB oLen (wCons (wVar 0) wNil)) (wC (.int 2)))) bd_read_head_2 wNext) bd_read_head_t3
def bd_read_head : WTS := wSeq (wIfS (wTest (wOp oNe (wOp oIx (wVar 0) (wC (.int 0))) (wC (.str [114, 105, 110, 103])))) bd_read_head_1 wNext) bd_read_head_t2
theorem w_read_head (ws : List W) (G : WHp) (Q : WQ) (Ex : Xc → WHp → Prop) (h : sp_read_head ws G Q Ex) : bd_read_head (endsW Q) (wStart ["row", "places"] ws) G (fun c _ G' => Ex c G') := by
  obtain ⟨row, rfl, hr, q, e⟩ := h
  have h0 : 0 < row.length := List.length_pos_iff.mpr hr.1
  have r0 := rowOk_at hr 0 h0
  simp! only [bd_read_head, rowW]
  refine ⟨_, r0.1, ?_⟩
  simp! only [true_and]
  split
  · rename_i h1
    simp! only [bd_read_head_1]
    exact (e 0 0 (by unfold headP; rw [if_pos (show _ ≠ tRING from h1)])).now
  · rename_i h1
    have h1 : ¬ (row.getD 0 [] ≠ tRING) := h1
    simp! only [bd_read_head_t2, List.length_map]
    split
    · rename_i h2
      simp! only [bd_read_head_2]
      exact (e 0 1 (by unfold headP; rw [if_neg h1, if_pos (by omega)])).now
    · rename_i h2
      have r1 := rowOk_at hr 1 (by omega)
      simp! only [bd_read_head_t3]
      refine ⟨_, r1.1, _, _, _, rfl, r1.2, ?_⟩
      cases hf : figV (row.getD 1 []) 2 99 with
      | none =>
        simp! only [bd_read_head_t4, optI, bd_read_head_3]
        exact (e 0 1 (by unfold headP; rw [if_neg h1, if_neg (show ¬ row.length < 2 by omega), hf])).now
      | some p =>
        simp! only [bd_read_head_t4, optI, Bool.false_eq_true, bd_read_head_t5, List.length_map]
        split
        · rename_i h3
          simp! only [bd_read_head_4]
          exact (e 0 2 (by unfold headP; rw [if_neg h1, if_neg (show ¬ row.length < 2 by omega), hf]; simp only []; rw [if_pos (show 2 < row.length by omega)])).now
        · rename_i h3
          simp! only [bd_read_head_t6]
          exact q p (by unfold headP; rw [if_neg h1, if_neg (show ¬ row.length < 2 by omega), hf]; simp only []; rw [if_neg (show ¬ 2 < row.length by omega)])

def sp_read_numbers : WSp := fun ws G Q E => ∃ at_ row places, ws = [.int at_, rowW row, .int places] ∧ rowOk row ∧ (∀ ns, numsP at_ row places = .ok ns → ∀ p, G p = none → Q (.ref p) (updG G p (.lst (ns.map .int)))) ∧ (∀ r w, numsP at_ row places = .error (r, w) → exS E (xNoText r w) G)

theorem len_read_numbers : ∀ ws G Q E, sp_read_numbers ws G Q E → ws.length = (["at", "row", "places"] : List Str).length := by
  intro ws G Q E h
  first
  | (obtain ⟨_, h, _⟩ := h; rw [h]; rfl)
  | (obtain ⟨_, _, h, _⟩ := h; rw [h]; rfl)
  | (obtain ⟨_, _, _, h, _⟩ := h; rw [h]; rfl)
  | (obtain ⟨_, _, _, _, h, _⟩ := h; rw [h]; rfl)
  | (obtain ⟨_, _, _, _, _, h, _⟩ := h; rw [h]; rfl)
  | (obtain ⟨_, _, _, _, _, _, h, _⟩ := h; rw [h]; rfl)
  | (obtain ⟨_, _, _, _, _, _, _, h, _⟩ := h; rw [h]; rfl)
  | (obtain ⟨_, _, _, _, _, _, _, _, h, _⟩ := h; rw [h]; rfl)
  | (obtain ⟨_, _, _, _, _, _, _, _, _, h, _⟩ := h; rw [h]; rfl)
  | (obtain ⟨_, _, _, _, _, _, _, _, _, _, h, _⟩ := h; rw [h]; rfl)
  | (obtain ⟨_, _, _, _, _, _, _, _, _, _, _, h, _⟩ := h; rw [h]; rfl)
  | (obtain ⟨_, _, _, _, _, _, _, _, _, _, _, _, h, _⟩ := h; rw [h]; rfl)
  | (obtain ⟨_, _, _, _, _, _, _, _, _, _, _, _, _, h, _⟩ := h; rw [h]; rfl)
  | (obtain ⟨_, _, _, _, _, _, _, _, _, _, _, _, _, _, h, _⟩ := h; rw [h]; rfl)
def bd_read_numbers_2 : WTS := (wRaise 1 [9, 10] (wCons (wVar 0) (wCons (wCB oLen (wCons (wVar 1) wNil)) wNil)))
def bd_read_numbers_3 : WTS := (wRaise 1 [9, 10] (wCons (wVar 0) (wCons (wOp oAdd (wC (.int 2)) (wVar 5)) wNil)))
def bd_read_numbers_1_t4 : WTS := (wDrop (wBm .list mAppend (wVar 4) (wCons (wVar 6) wNil)))
def bd_read_numbers_1_t3 : WTS := wSeq (wIfS (wOr (wTest (wOp oIs (wVar 6) (wC .non))) (wAnd (wTest (wOp oEq (wVar 5) (wC (.int 1)))) (wTest (wOp oEq (wVar 6) (wOp oIx (wVar 4) (wC (.int 0))))))) bd_read_numbers_3 wNext) bd_read_numbers_1_t4
def bd_read_numbers_1_t2 : WTS := wSeq (wAsg (wCall sp_figured (wCons (wOp oIx (wVar 1) (wOp oAdd (wC (.int 2)) (wVar 5))) (wCons (wOp oIx (wOp oIx (wVar 3) (wVar 5)) (wC (.int 0))) (wCons (wOp oIx (wOp oIx (wVar 3) (wVar 5)) (wC (.int 1))) wNil)))) (wN 6)) bd_read_numbers_1_t3
def bd_read_numbers_1 : WTS := wSeq (wIfS (wTest (wOp oLe (wCB oLen (wCons (wVar 1) wNil)) (wOp oAdd (wC (.int 2)) (wVar 5)))) bd_read_numbers_2 wNext) bd_read_numbers_1_t2
def bd_read_numbers_4 : WTS := (wRaise 1 [9, 10] (wCons (wVar 0) (wCons (wC (.int 7)) wNil)))
def bd_read_numbers_t5 : WTS := (wRet (wVar 4))
def bd_read_numbers_t4 : WTS := wSeq (wIfS (wTest (wOp oGt (wCB oLen (wCons (wVar 1) wNil)) (wC (.int 7)))) bd_read_numbers_4 wNext) bd_read_numbers_t5
def bd_read_numbers_t3 : WTS := wSeq (wFor (wRng1 (wCons (wC (.int 5)) wNil)) (wN 5) bd_read_numbers_1) bd_read_numbers_t4
def bd_read_numbers_t2 : WTS := wSeq (wAsg (wLstM wNil) (wN 4)) bd_read_numbers_t3
def bd_read_numbers : WTS := wSeq (wAsg (wLstI (wCons (wTup (wCons (wC (.int 0)) (wCons (wOp oSub (wVar 2) (wC (.int 1))) wNil))) (wCons (wTup (wCons (wC (.int 0)) (wCons (wOp oSub (wVar 2) (wC (.int 1))) wNil))) (wCons (wTup (wCons (wC (.int 0)) (wCons (wC (.int 30)) wNil))) (wCons (wTup (wCons (wC (.int 0)) (wCons (wC (.int 30)) wNil))) (wCons (wTup (wCons (wC (.int 1)) (wCons (wC (.int 60)) wNil))) wNil)))))) (wN 3)) bd_read_numbers_t2
theorem w_read_numbers (ws : List W) (G : WHp) (Q : WQ) (Ex : Xc → WHp → Prop) (h : sp_read_numbers ws G Q Ex) : bd_read_numbers (endsW Q) (wStart ["at", "row", "places", "bounds", "numbers", "k", "number"] ws) G (fun c _ G' => Ex c G') := by
  obtain ⟨at_, row, places, rfl, hr, q, e⟩ := h
  simp! only [bd_read_numbers]
  simp! only [bd_read_numbers_t2, wLstM]
  intro p hp
  simp! only [bd_read_numbers_t3]
  have fail : ∀ k : Nat, k < 5 → ∀ r w, numsTo at_ row places (k + 1) = .error (r, w) → exS Ex (xNoText r w) G := by
    intro k hk r w h
    refine e r w ?_
    have up : ∀ m, k + 1 ≤ m → numsTo at_ row places m = .error (r, w) := by
      intro m hm
      induction hm with
      | refl => exact h
      | step _ ih => unfold numsTo; rw [ih]
    unfold numsP
    rw [up 5 (by omega)]
  have bnds : ∀ i : Nat, i < 5 → atI [W.tup [.int 0, .int (places - 1)], .tup [.int 0, .int (places - 1)], .tup [.int 0, .int 30], .tup [.int 0, .int 30], .tup [.int 1, .int 60]] (i : Int) = some (.tup [.int (bndLo i), .int (bndHi places i)]) := by
    intro i hi
    have : i = 0 ∨ i = 1 ∨ i = 2 ∨ i = 3 ∨ i = 4 := by omega
    rcases this with rfl | rfl | rfl | rfl | rfl <;> rfl
  refine ⟨by decide, by decide, lp_r (fun i σ' G' => ∃ ns o5 o6, numsTo at_ row places i = .ok ns ∧ G' = updG G p (.lst (ns.map .int)) ∧ σ' = [some (.int at_), some (rowW row), some (.int places), some (.il [.tup [.int 0, .int (places - 1)], .tup [.int 0, .int (places - 1)], .tup [.int 0, .int 30], .tup [.int 0, .int 30], .tup [.int 1, .int 60]]), some (.ref p), o5, o6]) ⟨[], _, _, rfl, rfl, rfl⟩ ?_ ?_⟩
  · rintro i σ' G' hi ⟨ns, o5, o6, hns, rfl, rfl⟩
    have hi : i < 5 := by omega
    have hlen := numsTo_len hns
    simp! only [turnW, bd_read_numbers_1, rowW, List.length_map]
    split
    · rename_i h1
      simp! only [bd_read_numbers_2, List.length_map]
      refine fail i hi _ _ ?_ _ (Sub.new hp)
      unfold numsTo
      rw [hns]
      simp only []
      rw [if_pos (show row.length ≤ 2 + i by omega)]
    · rename_i h1
      have r1 := rowOk_at hr (2 + i) (by omega)
      rw [show ((2 + i : Nat) : Int) = 2 + (i : Int) by omega] at r1
      simp! only [bd_read_numbers_1_t2, bnds i hi, r1.1]
      refine ⟨_, rfl, _, rfl, _, _, _, rfl, r1.2, ?_⟩
      have step : ∀ (P : Pr (List Int)), (match figV (row.getD (2 + i) []) (bndLo i) (bndHi places i) with
        | none => .error (at_, 2 + (i : Int))
        | some n => if i = 1 ∧ some n = ns.head? then .error (at_, 2 + (i : Int)) else .ok (ns ++ [n])) = P → numsTo at_ row places (i + 1) = P := by
        intro P h
        unfold numsTo
        rw [hns]
        simp only []
        rw [if_neg (show ¬ row.length ≤ 2 + i by omega)]
        exact h
      cases hf : figV (row.getD (2 + i) []) (bndLo i) (bndHi places i) with
      | none =>
        rw [hf] at step
        simp! only [bd_read_numbers_1_t3, optI, bd_read_numbers_3]
        exact fail i hi _ _ (step _ rfl) _ (Sub.new hp)
      | some n =>
        rw [hf] at step
        simp only [] at step
        have go : ¬ (i = 1 ∧ some n = ns.head?) → ∀ D : WEnds, D.nx [some (.int at_), some (rowW row), some (.int places), some (.il [.tup [.int 0, .int (places - 1)], .tup [.int 0, .int (places - 1)], .tup [.int 0, .int 30], .tup [.int 0, .int 30], .tup [.int 1, .int 60]]), some (.ref p), some (.int i), some (.int n)] (updG G p (.lst ((ns ++ [n]).map .int))) → bd_read_numbers_1_t4 D [some (.int at_), some (rowW row), some (.int places), some (.il [.tup [.int 0, .int (places - 1)], .tup [.int 0, .int (places - 1)], .tup [.int 0, .int 30], .tup [.int 0, .int 30], .tup [.int 1, .int 60]]), some (.ref p), some (.int i), some (.int n)] (updG G p (.lst (ns.map .int))) fun c x G' => Ex c G' := by
          intro hne D hD
          simp! only [bd_read_numbers_1_t4, wBm]
          refine ⟨⟨_, by simp [sqOf, lstOf, updG_same]; rfl⟩, ?_⟩
          refine ⟨_, _, _, rfl, rfl, updG_same, by simp [hlen, big]; omega, ?_⟩
          rw [updG_updG]
          rw [List.map_append] at hD
          exact hD
        simp! only [bd_read_numbers_1_t3, Bool.false_eq_true, optI]
        split
        · rename_i hi1
          have hi1 : i = 1 := by omega
          subst hi1
          match ns, hlen with
          | [a], _ =>
          simp! only [oIx_ref p _ 0 updG_same, List.map_cons, List.map_nil]
          refine ⟨_, rfl, ?_⟩
          simp! only [true_and]
          split
          · rename_i hna
            simp! only [bd_read_numbers_3]
            refine fail 1 hi _ _ (step _ ?_) _ (Sub.new hp)
            rw [if_pos ⟨rfl, by rw [hna]; rfl⟩]
          · rename_i hna
            have hne : ¬ (1 = 1 ∧ some n = [a].head?) := fun h => hna (by have := h.2; simpa using this)
            rw [if_neg hne] at step
            exact go hne _ ⟨_, step _ rfl, rfl, _, _, rfl⟩
        · rename_i hi1
          have hne : ¬ (i = 1 ∧ some n = ns.head?) := fun h => hi1 (by omega)
          rw [if_neg hne] at step
          exact go hne _ ⟨_, step _ rfl, rfl, _, _, rfl⟩
  · rintro σ' G' ⟨ns, o5, o6, hns, rfl, rfl⟩
    have hns : numsTo at_ row places 5 = .ok ns := hns
    simp! only [bd_read_numbers_t4, rowW, List.length_map]
    split
    · rename_i h1
      simp! only [bd_read_numbers_4]
      refine e _ _ ?_ _ (Sub.new hp)
      unfold numsP
      rw [hns]
      simp only []
      rw [if_pos (show 7 < row.length by omega)]
    · rename_i h1
      simp! only [bd_read_numbers_t5]
      refine q ns ?_ p hp
      unfold numsP
      rw [hns]
      simp only []
      rw [if_neg (show ¬ 7 < row.length by omega)]

def sp_read_way : WSp := fun ws G Q E => ∃ at_ row places p ns, ws = [.int at_, rowW row, .int places, .ref p] ∧ rowOk row ∧ G p = some (.dct (tk ns)) ∧ (∀ y, wayP at_ row places ns = .ok y → Q (wyW y) G) ∧ (∀ r w, wayP at_ row places ns = .error (r, w) → exS E (xNoText r w) G)

theorem len_read_way : ∀ ws G Q E, sp_read_way ws G Q E → ws.length = (["at", "row", "places", "taken"] : List Str).length := by
  intro ws G Q E h
  first
  | (obtain ⟨_, h, _⟩ := h; rw [h]; rfl)
  | (obtain ⟨_, _, h, _⟩ := h; rw [h]; rfl)
  | (obtain ⟨_, _, _, h, _⟩ := h; rw [h]; rfl)
  | (obtain ⟨_, _, _, _, h, _⟩ := h; rw [h]; rfl)
  | (obtain ⟨_, _, _, _, _, h, _⟩ := h; rw [h]; rfl)
  | (obtain ⟨_, _, _, _, _, _, h, _⟩ := h; rw [h]; rfl)
  | (obtain ⟨_, _, _, _, _, _, _, h, _⟩ := h; rw [h]; rfl)
  | (obtain ⟨_, _, _, _, _, _, _, _, h, _⟩ := h; rw [h]; rfl)
  | (obtain ⟨_, _, _, _, _, _, _, _, _, h, _⟩ := h; rw [h]; rfl)
  | (obtain ⟨_, _, _, _, _, _, _, _, _, _, h, _⟩ := h; rw [h]; rfl)
  | (obtain ⟨_, _, _, _, _, _, _, _, _, _, _, h, _⟩ := h; rw [h]; rfl)
  | (obtain ⟨_, _, _, _, _, _, _, _, _, _, _, _, h, _⟩ := h; rw [h]; rfl)
  | (obtain ⟨_, _, _, _, _, _, _, _, _, _, _, _, _, h, _⟩ := h; rw [h]; rfl)
  | (obtain ⟨_, _, _, _, _, _, _, _, _, _, _, _, _, _, h, _⟩ := h; rw [h]; rfl)
def bd_read_way_1 : WTS := (wRaise 1 [9, 10] (wCons (wVar 0) (wCons (wC (.int 0)) wNil)))
def bd_read_way_2 : WTS := (wRaise 1 [9, 10] (wCons (wVar 0) (wCons (wC (.int 1)) wNil)))
def bd_read_way_t3 : WTS := (wRet (wCall sp_made_way (wCons (wOp oIx (wVar 1) (wC (.int 0))) (wCons (wOp oIx (wVar 1) (wC (.int 1))) (wCons (wView (wCall sp_read_numbers (wCons (wVar 0) (wCons (wVar 1) (wCons (wVar 2) wNil))))) wNil)))))
def bd_read_way_t2 : WTS := wSeq (wIfS (wOr (wTest (wOp oLt (wCB oLen (wCons (wVar 1) wNil)) (wC (.int 2)))) (wOr (wNot (wTest (wCall sp_is_name (wCons (wOp oIx (wVar 1) (wC (.int 1))) wNil)))) (wTest (wDin true (wOp oIx (wVar 1) (wC (.int 1))) (wVar 3))))) bd_read_way_2 wNext) bd_read_way_t3
def bd_read_way : WTS := wSeq (wIfS (wOr (wTest (wOp oGt (wVar 0) (wC (.int 12)))) (wTest (wOp oNotIn (wOp oIx (wVar 1) (wC (.int 0))) (wC (.tup [(.str tCAR), (.str tFOOT), (.str tTRAM)]))))) bd_read_way_1 wNext) bd_read_way_t2
theorem w_read_way (ws : List W) (G : WHp) (Q : WQ) (Ex : Xc → WHp → Prop) (h : sp_read_way ws G Q Ex) : bd_read_way (endsW Q) (wStart ["at", "row", "places", "taken"] ws) G (fun c _ G' => Ex c G') := by
  obtain ⟨at_, row, places, p, ns, rfl, hr, hp, q, e⟩ := h
  have h0 : 0 < row.length := List.length_pos_iff.mpr hr.1
  have r0 := rowOk_at hr 0 h0
  have e1 : 12 < at_ ∨ isSort (row.getD 0 []) = false → Ex (xNoText at_ 0) G := fun h => (e _ _ (by unfold wayP; rw [if_pos h])).now
  simp! only [bd_read_way, rowW]
  split
  · rename_i h1
    simp! only [bd_read_way_1]
    exact e1 (.inl h1)
  · rename_i h1
    refine ⟨_, r0.1, ?_⟩
    rw [notin_sorts]
    simp! only [true_and]
    split
    · rename_i h2
      simp! only [bd_read_way_1]
      exact e1 (.inr h2)
    · rename_i h2
      have n1 : ¬ (12 < at_ ∨ isSort (row.getD 0 []) = false) := fun z => z.elim h1 h2
      have e2 : row.length < 2 ∨ isName (row.getD 1 []) = false ∨ row.getD 1 [] ∈ ns → Ex (xNoText at_ 1) G := fun h => (e _ _ (by unfold wayP; rw [if_neg n1, if_pos h])).now
      simp! only [bd_read_way_t2, List.length_map]
      split
      · rename_i h3
        simp! only [bd_read_way_2]
        exact e2 (.inl (by omega))
      · rename_i h3
        have r1 := rowOk_at hr 1 (by omega)
        refine ⟨_, r1.1, _, rfl, r1.2, ?_⟩
        simp! only [true_and]
        split
        · rename_i h4
          simp! only [bd_read_way_2]
          exact e2 (.inr (.inl h4))
        · rename_i h4
          refine ⟨_, r1.1, _, dOf_ref hp, _, rfl, ?_⟩
          simp! only [valW_tk]
          split
          · rename_i h5
            simp! only [bd_read_way_2]
            exact e2 (.inr (.inr h5))
          · rename_i h5
            have n2 : ¬ (row.length < 2 ∨ isName (row.getD 1 []) = false ∨ row.getD 1 [] ∈ ns) := by
              rintro (z | z | z)
              · omega
              · exact h4 z
              · exact h5 z
            simp! only [bd_read_way_t3]
            refine ⟨_, r0.1, _, r1.1, at_, row, places, rfl, hr, fun ms hms p2 hp2 => ?_, fun r w hrw => e r w ?_⟩
            · refine vw_lst hp2 ⟨_, _, ms, rfl, ?_, q _ ?_⟩
              · unfold numsP at hms
                split at hms
                · cases hms
                · rename_i h6
                  split at hms
                  · cases hms
                  · cases hms; exact numsTo_len h6
              · unfold wayP
                rw [if_neg n1, if_neg n2, hms]
            · unfold wayP
              rw [if_neg n1, if_neg n2, hrw]

def sp_read_crossing : WSp := fun ws G Q E => ∃ s, ws = [.str s] ∧ s.length ≤ 20000 ∧ (∀ c, crossP s = .ok c → Q (crW c) G) ∧ (∀ r w, crossP s = .error (r, w) → exS E (xNoText r w) G)

theorem len_read_crossing : ∀ ws G Q E, sp_read_crossing ws G Q E → ws.length = (["text"] : List Str).length := by
  intro ws G Q E h
  first
  | (obtain ⟨_, h, _⟩ := h; rw [h]; rfl)
  | (obtain ⟨_, _, h, _⟩ := h; rw [h]; rfl)
  | (obtain ⟨_, _, _, h, _⟩ := h; rw [h]; rfl)
  | (obtain ⟨_, _, _, _, h, _⟩ := h; rw [h]; rfl)
  | (obtain ⟨_, _, _, _, _, h, _⟩ := h; rw [h]; rfl)
  | (obtain ⟨_, _, _, _, _, _, h, _⟩ := h; rw [h]; rfl)
  | (obtain ⟨_, _, _, _, _, _, _, h, _⟩ := h; rw [h]; rfl)
  | (obtain ⟨_, _, _, _, _, _, _, _, h, _⟩ := h; rw [h]; rfl)
  | (obtain ⟨_, _, _, _, _, _, _, _, _, h, _⟩ := h; rw [h]; rfl)
  | (obtain ⟨_, _, _, _, _, _, _, _, _, _, h, _⟩ := h; rw [h]; rfl)
  | (obtain ⟨_, _, _, _, _, _, _, _, _, _, _, h, _⟩ := h; rw [h]; rfl)
  | (obtain ⟨_, _, _, _, _, _, _, _, _, _, _, _, h, _⟩ := h; rw [h]; rfl)
  | (obtain ⟨_, _, _, _, _, _, _, _, _, _, _, _, _, h, _⟩ := h; rw [h]; rfl)
  | (obtain ⟨_, _, _, _, _, _, _, _, _, _, _, _, _, _, h, _⟩ := h; rw [h]; rfl)
def bd_read_crossing_1 : WTS := (wRaise 1 [9, 10] (wCons (wC (.int 1)) (wCons (wC (.int 0)) wNil)))
def bd_read_crossing_2_t3 : WTS := (wDrop (wBm .list mAppend (wVar 3) (wCons (wVar 6) wNil)))
def bd_read_crossing_2_t2 : WTS := wSeq (wDput (wVar 4) (wFld 0 (wVar 6)) (wC (.bl true))) bd_read_crossing_2_t3
def bd_read_crossing_2 : WTS := wSeq (wAsg (wCall sp_read_way (wCons (wVar 5) (wCons (wOp oIx (wVar 1) (wVar 5)) (wCons (wVar 2) (wCons (wVar 4) wNil))))) (wN 6)) bd_read_crossing_2_t2
def bd_read_crossing_t7 : WTS := (wRet (wView (wMake 13 sp_Crossing_init (wCons (wVar 2) (wCons (wVar 3) wNil)))))
def bd_read_crossing_t6 : WTS := wSeq (wFor (wRng2 (wCons (wC (.int 1)) (wCons (wCB oLen (wCons (wVar 1) wNil)) wNil))) (wN 5) bd_read_crossing_2) bd_read_crossing_t7
def bd_read_crossing_t5 : WTS := wSeq (wAsg wDnew (wN 4)) bd_read_crossing_t6
def bd_read_crossing_t4 : WTS := wSeq (wAsg (wLstM wNil) (wN 3)) bd_read_crossing_t5
def bd_read_crossing_t3 : WTS := wSeq (wIfS (wTest (wOp oLt (wCB oLen (wCons (wVar 1) wNil)) (wC (.int 2)))) bd_read_crossing_1 wNext) bd_read_crossing_t4
def bd_read_crossing_t2 : WTS := wSeq (wAsg (wCall sp_read_head (wCons (wOp oIx (wVar 1) (wC (.int 0))) wNil)) (wN 2)) bd_read_crossing_t3
def bd_read_crossing : WTS := wSeq (wAsg (wCall sp_words (wCons (wVar 0) wNil)) (wN 1)) bd_read_crossing_t2
theorem w_read_crossing (ws : List W) (G : WHp) (Q : WQ) (Ex : Xc → WHp → Prop) (h : sp_read_crossing ws G Q Ex) : bd_read_crossing (endsW Q) (wStart ["text", "rows", "places", "ways", "taken", "at", "way"] ws) G (fun c _ G' => Ex c G') := by
  obtain ⟨s, rfl, hl, q, e⟩ := h
  have hrows : ∀ r ∈ rowsOf s, rowOk r := fun r hr => by
    have h := rowsOf_mem hr
    refine ⟨h.1, by omega, fun w hw => by have := h.2.2 w hw; omega⟩
  have hrl := rowsOf_len s
  have rowAt : ∀ k : Nat, k < (rowsOf s).length → atI ((rowsOf s).map rowW) (k : Int) = some (rowW ((rowsOf s).getD k [])) ∧ rowOk ((rowsOf s).getD k []) := fun k hk => by
    have e' := List.getElem?_eq_getElem hk
    refine ⟨atI_n (by rw [List.getElem?_map, e']; simp [List.getD, e']), ?_⟩
    have := hrows _ (List.getElem_mem hk)
    simpa [List.getD, e'] using this
  have h0 := rowAt 0 (List.length_pos_iff.mpr (rowsOf_ne s))
  simp! only [bd_read_crossing]
  refine ⟨s, rfl, hl, ?_⟩
  simp! only [bd_read_crossing_t2, rowsW]
  refine ⟨_, h0.1, _, rfl, h0.2, fun p hp => ?_, fun r w hrw => e r w ?_⟩
  · simp! only [bd_read_crossing_t3, List.length_map]
    split
    · rename_i h1
      simp! only [bd_read_crossing_1]
      refine (e 1 0 ?_).now
      unfold crossP
      rw [hp]
      simp only []
      rw [if_pos (show (rowsOf s).length < 2 by omega)]
    · rename_i h1
      simp! only [bd_read_crossing_t4, wLstM]
      intro P hP
      simp! only [bd_read_crossing_t5]
      intro D hD
      simp! only [bd_read_crossing_t6, List.length_map]
      have hDP : D ≠ P := fun z => by rw [z, updG_same] at hD; cases hD
      have hGD : G D = none := by rw [updG_ne hDP] at hD; exact hD
      refine ⟨by omega, by omega, by omega, by omega, lp_r2 (fun i σ' G' => ∃ ys o5 o6, waysTo (rowsOf s) p i = .ok ys ∧ G' = updG (updG G P (.lst (ys.map wyW))) D (.dct (tk (ys.map (·.name)))) ∧ σ' = [some (.str s), some (.il ((rowsOf s).map rowW)), some (.int p), some (.ref P), some (.ref D), o5, o6]) ⟨[], _, _, rfl, rfl, rfl⟩ ?_ ?_⟩
      · rintro i σ' G' hi ⟨ys, o5, o6, hys, rfl, rfl⟩
        have hi : 1 + i < (rowsOf s).length := by omega
        have hk := waysTo_ok hys
        have ri := rowAt (1 + i) hi
        rw [show ((1 + i : Nat) : Int) = 1 + (i : Int) by omega] at ri
        have fail : ∀ r w, waysTo (rowsOf s) p (i + 1) = .error (r, w) → exS Ex (xNoText r w) G := by
          intro r w h
          refine e r w ?_
          have up : ∀ m, i + 1 ≤ m → waysTo (rowsOf s) p m = .error (r, w) := by
            intro m hm
            induction hm with
            | refl => exact h
            | step _ ih => unfold waysTo; rw [ih]
          unfold crossP
          rw [hp]
          simp only []
          rw [if_neg (show ¬ (rowsOf s).length < 2 by omega), up _ (by omega)]
        have sG : Sub G (updG (updG G P (.lst (ys.map wyW))) D (.dct (tk (ys.map (·.name))))) := (Sub.new hP).trans (Sub.new (by rw [updG_ne hDP]; exact hGD))
        simp! only [turnW, bd_read_crossing_2]
        refine ⟨_, ri.1, 1 + i, _, p, D, ys.map (·.name), rfl, ri.2, updG_same, fun y hy => ?_, fun r w hrw => (fail r w ?_).sub sG⟩
        · have hw := wayP_ok hy
          simp! only [bd_read_crossing_2_t2, wyW, wyF]
          refine ⟨_, updG_same, by rw [tk_len, List.length_map, hk.1]; omega, ?_⟩
          rw [put_tk hw.2, updG_updG]
          simp! only [bd_read_crossing_2_t3, wBm]
          have hat : ∀ o, updG (updG G P (.lst (ys.map wyW))) D o P = some (.lst (ys.map wyW)) := fun o => by rw [updG_ne (Ne.symm hDP), updG_same]
          refine ⟨⟨_, by simp [sqOf, lstOf, hat]; rfl⟩, ?_⟩
          refine ⟨P, ys.map wyW, _, rfl, rfl, hat _, by rw [List.length_map, hk.1, big]; omega, ?_⟩
          refine ⟨ys ++ [y], ?_, ?_⟩
          · unfold waysTo
            rw [hys]
            simp only []
            rw [hy]
          · funext b
            by_cases hb : b = D
            · subst hb
              rw [updG_ne hDP, updG_same, updG_same, List.map_append]; rfl
            · rw [updG_ne hb]
              by_cases hb2 : b = P
              · subst hb2
                rw [updG_same, updG_same, List.map_append]; rfl
              · rw [updG_ne hb2, updG_ne hb2, updG_ne hb, updG_ne hb2]
        · unfold waysTo
          rw [hys]
          simp only []
          rw [hrw]
      · rintro σ' G' ⟨ys, o5, o6, hys, rfl, rfl⟩
        rw [show (((rowsOf s).length : Int) - 1).toNat = (rowsOf s).length - 1 by omega] at hys
        have hc : crossP s = .ok ⟨p, ys⟩ := by
          unfold crossP
          rw [hp]
          simp only []
          rw [if_neg (show ¬ (rowsOf s).length < 2 by omega), hys]
        simp! only [bd_read_crossing_t7]
        intro z hz
        have hzD : z ≠ D := fun w => by rw [w, updG_same] at hz; cases hz
        have hzP : z ≠ P := fun w => by rw [w, updG_ne (Ne.symm hDP), updG_same] at hz; cases hz
        have hGz : G z = none := by rw [updG_ne hzD, updG_ne hzP] at hz; exact hz
        have hat : ∀ o, updG (updG (updG G P (.lst (ys.map wyW))) D (.dct (tk (ys.map (·.name))))) z o P = some (.lst (ys.map wyW)) := fun o => by rw [updG_ne (Ne.symm hzP), updG_ne (Ne.symm hDP), updG_same]
        refine ⟨z, p, .ref P, ys, rfl, updG_same, by simp [sqOf, lstOf, hat], fun o => by rw [updG_updG]; simp [sqT, sqOf, lstOf, hat], rfl, ?_⟩
        rw [updG_updG]
        refine ⟨_, G, ⟨fun a o ha => ?_, .inl (.obj z 13 _ updG_same hGz)⟩, q _ hc⟩
        rw [updG_ne (fun w => by rw [w, hGz] at ha; cases ha), updG_ne (fun w => by rw [w, hGD] at ha; cases ha), updG_ne (fun w => by rw [w, hP] at ha; cases ha)]
        exact ha
  · unfold crossP
    rw [hrw]

/-! ### meets -/
/-- the places strictly between, going up -/
def bowL (s e p : Int) : List Int := (List.range ((e - s - 1) % p).toNat).map fun i : Nat => (s + 1 + (i : Int)) % p
theorem bow_at {s e p : Int} {i : Nat} (hp : 0 < p) (e0 : 0 ≤ e) (e1 : e < p) (hi : i ≤ ((e - s - 1) % p).toNat) : (s + 1 + (i : Int)) % p = e ↔ i = ((e - s - 1) % p).toNat := by
  have n0 := Int.emod_nonneg (e - s - 1) (show p ≠ 0 by omega)
  have n1 := Int.emod_lt_of_pos (e - s - 1) hp
  have hd := Int.emod_add_mul_ediv (e - s - 1) p
  generalize hn : (e - s - 1) % p = n at *
  generalize (e - s - 1) / p = k at hd
  constructor
  · intro h
    have h2 := Int.emod_add_mul_ediv (s + 1 + (i : Int)) p
    rw [h] at h2
    generalize (s + 1 + (i : Int)) / p = m at h2
    -- s + 1 + i = e + p m ; e - s - 1 = n + p k ; so i = n + p (k + m)
    have h3 : (i : Int) - n = p * (k + m) := by rw [Int.mul_add]; omega
    have h4 : k + m = 0 := by
      rcases Int.lt_trichotomy (k + m) 0 with z | z | z
      · have : p * (k + m) ≤ p * (-1) := Int.mul_le_mul_of_nonneg_left (by omega) (by omega)
        omega
      · exact z
      · have : p * 1 ≤ p * (k + m) := Int.mul_le_mul_of_nonneg_left (by omega) (by omega)
        omega
    rw [h4, Int.mul_zero] at h3
    omega
  · intro h
    have : s + 1 + (i : Int) = e + p * (-k) := by rw [Int.mul_neg]; omega
    rw [this, Int.add_mul_emod_self_left, Int.emod_eq_of_lt e0 e1]
def inB (y : Wy) (p x : Int) : Bool := decide (x ∈ bowL y.start y.stop p)
def waysMeet (y z : Wy) (p : Int) : Bool :=
  if y.stop = z.stop then true else if y.start = z.start ∨ y.start = z.stop ∨ y.stop = z.start then false else inB y p z.start != inB y p z.stop
theorem inB_iff {y : Wy} {p x : Int} (h : y.okP p) (x0 : 0 ≤ x) (x1 : x < p) (n1 : x ≠ y.start) (n2 : x ≠ y.stop) : inB y p x = decide (if y.start < y.stop then y.start < x ∧ x < y.stop else y.start < x ∨ x < y.stop) := by
  obtain ⟨_, s0, s1, e0, e1, ne, _, _, _, _, _, _, _⟩ := h
  have hn : (y.stop - y.start - 1) % p = if y.start < y.stop then y.stop - y.start - 1 else y.stop - y.start - 1 + p := by
    split
    · exact Int.emod_eq_of_lt (by omega) (by omega)
    · rw [← Int.add_emod_right]
      exact Int.emod_eq_of_lt (by omega) (by omega)
  have hm : ∀ i : Nat, (i : Int) < p → (y.start + 1 + (i : Int)) % p = if y.start + 1 + (i : Int) < p then y.start + 1 + (i : Int) else y.start + 1 + (i : Int) - p := fun i hi => by
    split
    · exact Int.emod_eq_of_lt (by omega) (by omega)
    · rw [← Int.sub_emod_right]
      exact Int.emod_eq_of_lt (by omega) (by omega)
  unfold inB bowL
  rw [hn, decide_eq_decide, List.mem_map]
  constructor
  · rintro ⟨i, hi, e⟩
    have hi := List.mem_range.mp hi
    have hip : (i : Int) < p := by split at hi <;> omega
    rw [hm i hip] at e
    split at hi <;> split at e <;> split <;> omega
  · intro h
    have key : ∃ i : Nat, (i : Int) = if y.start < x then x - y.start - 1 else x - y.start - 1 + p := by
      split
      · exact ⟨(x - y.start - 1).toNat, by omega⟩
      · exact ⟨(x - y.start - 1 + p).toNat, by omega⟩
    obtain ⟨i, hi⟩ := key
    refine ⟨i, List.mem_range.mpr ?_, ?_⟩
    · split at hi <;> split at h <;> split <;> omega
    · have hip : (i : Int) < p := by split at hi <;> omega
      rw [hm i hip]
      split at hi <;> split at h <;> split <;> omega
theorem meet_sym {y z : Wy} {p : Int} (hy : y.okP p) (hz : z.okP p) : waysMeet y z p = waysMeet z y p := by
  unfold waysMeet
  by_cases h1 : y.stop = z.stop
  · rw [if_pos h1, if_pos h1.symm]
  · rw [if_neg h1, if_neg (Ne.symm h1)]
    by_cases h2 : y.start = z.start ∨ y.start = z.stop ∨ y.stop = z.start
    · rw [if_pos h2, if_pos (by rcases h2 with h | h | h; exact .inl h.symm; exact .inr (.inr h.symm); exact .inr (.inl h.symm))]
    · rw [if_neg h2, if_neg (fun w => h2 (by rcases w with h | h | h; exact .inl h.symm; exact .inr (.inr h.symm); exact .inr (.inl h.symm)))]
      rw [not_or, not_or] at h2
      obtain ⟨a, b, c⟩ := h2
      rw [inB_iff hy hz.s0 hz.s1 (Ne.symm a) (Ne.symm c), inB_iff hy hz.e0 hz.e1 (Ne.symm b) (Ne.symm h1), inB_iff hz hy.s0 hy.s1 a b, inB_iff hz hy.e0 hy.e1 c h1]
      have := hy.ne
      have := hz.ne
      rw [Bool.eq_iff_iff, bne_iff_ne, bne_iff_ne, Ne, Ne, decide_eq_decide, decide_eq_decide]
      by_cases e1 : y.start < y.stop <;> by_cases e2 : z.start < z.stop <;> simp only [e1, e2, if_true, if_false] <;> omega
def gapN (y z : Wy) : Int := if 0 < y.off - z.near then y.off - z.near else 0
theorem oIn_ints {x : Int} {xs : List Int} {G : WHp} {Q : WQ} : oIn (.int x) (.il (xs.map W.int)) G Q = Q (.bl (decide (x ∈ xs))) G := by
  have h1 : (xs.map W.int).all flW = true := by simp [List.all_eq_true, flW]
  have h2 : ((xs.map W.int).any fun y => eqFl y (.int x)) = decide (x ∈ xs) := by
    rw [List.any_map]
    rw [Bool.eq_iff_iff]
    simp [eqFl]
  show (∃ ws, sqOf G (.il (xs.map W.int)) = some ws ∧ flW (.int x) = true ∧ ws.all flW = true ∧ Q (.bl (ws.any _)) G) = _
  apply propext
  constructor
  · rintro ⟨ws, e, _, _, q⟩
    cases e
    rw [h2] at q
    exact q
  · intro q
    exact ⟨_, rfl, rfl, h1, by rw [h2]; exact q⟩
theorem oIn_pair {x a b : Int} {G : WHp} {Q : WQ} : oIn (.int x) (.tup [.int a, .int b]) G Q = Q (.bl (decide (x = a) || decide (x = b))) G := by
  show (flW (.int x) = true ∧ _ ∧ Q (.bl (List.any _ _)) G) = _
  have : (List.any [W.int a, .int b] fun y => eqFl y (.int x)) = (decide (x = a) || decide (x = b)) := by
    simp only [List.any_cons, List.any_nil, eqFl, Bool.or_false]
    rw [Bool.eq_iff_iff]
    simp only [Bool.or_eq_true, beq_iff_eq, decide_eq_true_eq]
    exact ⟨fun h => h.imp Eq.symm Eq.symm, fun h => h.imp Eq.symm Eq.symm⟩
  rw [this]
  simp [flW]
/-- the set of the ways that meet the way at k -/
def Cr.wy (c : Cr) (k : Nat) : Wy := c.ways.getD k ⟨10, [], 0, 0, 0, 0, 0⟩
def Cr.mt (c : Cr) (k j : Nat) : Bool := !decide (j = k) && waysMeet (c.wy k) (c.wy j) c.places
def Cr.ag (c : Cr) (k : Nat) : Nat := maskN (c.mt k) c.ways.length
theorem wy_at {c : Cr} {k : Nat} {y : Wy} (h : c.ways[k]? = some y) : c.wy k = y := by simp [Cr.wy, List.getD, h]
theorem find_self {c : Cr} (nd : c.names.Nodup) {k : Nat} {y : Wy} (h : c.ways[k]? = some y) : c.find y.name = some k := by
  unfold Cr.names at nd
  unfold Cr.find
  rw [List.findIdx?_eq_some_iff_getElem]
  obtain ⟨hk, hy⟩ := List.getElem?_eq_some_iff.mp h
  refine ⟨hk, by rw [hy]; simp, fun j hj => ?_⟩
  have hjl : j < c.ways.length := Nat.lt_trans hj hk
  have e : (c.ways.map (·.name))[j]'(by rw [List.length_map]; exact hjl) ≠ (c.ways.map (·.name))[k]'(by rw [List.length_map]; exact hk) := fun z => by
    have := (List.getElem_inj nd).mp z
    omega
  rw [List.getElem_map, List.getElem_map, hy] at e
  simpa using e
theorem ag_lt {c : Cr} (h : c.ok) (k : Nat) : c.ag k < 4096 := Nat.lt_of_lt_of_le (mask_lt _ _) (Nat.pow_le_pow_right (by decide) h.len)
/-! ways by their names -/
def Cr.gw (c : Cr) (n : List Nat) : Wy := (c.get n).getD ⟨10, [], 0, 0, 0, 0, 0⟩
theorem gw_get {c : Cr} {n : List Nat} (h : n ∈ c.names) : c.get n = some (c.gw n) := by
  obtain ⟨y, hy⟩ := get_some h
  unfold Cr.gw; rw [hy]; rfl
theorem gw_ok {c : Cr} (ho : c.ok) {n : List Nat} (h : n ∈ c.names) : (c.gw n).okP c.places := ho.all _ (get_mem (gw_get h)).1
theorem kind_eq {y : Wy} (h : y.ok) : decide (kindN y.sort = tTRAM) = decide (y.sort = 12) := by
  rcases h with h | h | h <;> rw [h] <;> rfl
theorem so_mem {y : Wy} (h : y.ok) : y.sort ∈ [10, 11, 12] := by rcases h with h | h | h <;> rw [h] <;> decide
theorem fade_ge {y : Wy} {p : Int} (h : y.okP p) : 0 ≤ y.fade ∧ y.fade ≤ 30 := by
  unfold Wy.fade
  have := h.o0; have := h.o1
  split
  · omega
  · split <;> omega
theorem ready_ge (y : Wy) : 0 ≤ y.ready ∧ y.ready ≤ 2 := by
  unfold Wy.ready
  split
  · omega
  · split <;> omega
theorem gap_ge (y z : Wy) : 0 ≤ gapN y z := by unfold gapN; split <;> omega
theorem nodup_len {α : Type} [BEq α] [LawfulBEq α] : ∀ {l l' : List α}, l.Nodup → (∀ x ∈ l, x ∈ l') → l.length ≤ l'.length
  | [], _, _, _ => Nat.zero_le _
  | a :: r, l', hn, h => by
    rw [List.nodup_cons] at hn
    have ha := h a (by simp)
    have := nodup_len (l := r) (l' := l'.erase a) hn.2 fun x hx => (List.mem_erase_of_ne (fun z => hn.1 (by rw [← z]; exact hx))).mpr (h x (by simp [hx]))
    rw [List.length_erase_of_mem ha] at this
    have := List.length_pos_of_mem ha
    rw [List.length_cons]; omega
theorem names_at {c : Cr} {i : Nat} {n : List Nat} (h : c.names[i]? = some n) : ∃ y, c.ways[i]? = some y ∧ n = y.name := by
  unfold Cr.names at h
  rw [List.getElem?_map, Option.map_eq_some_iff] at h
  obtain ⟨y, hy, e⟩ := h
  exact ⟨y, hy, e.symm⟩
theorem gw_self {c : Cr} (ho : c.ok) {y : Wy} (hy : y ∈ c.ways) : c.gw y.name = y := by
  unfold Cr.gw; rw [get_self ho.nd hy]; rfl

def sp_bow : WSp := fun ws G Q _ => ∃ y p, ws = [wyW y, .int p] ∧ 0 < p ∧ p ≤ 10000 ∧ 0 ≤ y.stop ∧ y.stop < p ∧ ∀ D, G D = none → Q (.ref D) (updG G D (.lst ((bowL y.start y.stop p).map .int)))

theorem len_bow : ∀ ws G Q E, sp_bow ws G Q E → ws.length = (["way", "places"] : List Str).length := by
  intro ws G Q E h
  first
  | (obtain ⟨_, h, _⟩ := h; rw [h]; rfl)
  | (obtain ⟨_, _, h, _⟩ := h; rw [h]; rfl)
  | (obtain ⟨_, _, _, h, _⟩ := h; rw [h]; rfl)
  | (obtain ⟨_, _, _, _, h, _⟩ := h; rw [h]; rfl)
  | (obtain ⟨_, _, _, _, _, h, _⟩ := h; rw [h]; rfl)
  | (obtain ⟨_, _, _, _, _, _, h, _⟩ := h; rw [h]; rfl)
  | (obtain ⟨_, _, _, _, _, _, _, h, _⟩ := h; rw [h]; rfl)
  | (obtain ⟨_, _, _, _, _, _, _, _, h, _⟩ := h; rw [h]; rfl)
  | (obtain ⟨_, _, _, _, _, _, _, _, _, h, _⟩ := h; rw [h]; rfl)
  | (obtain ⟨_, _, _, _, _, _, _, _, _, _, h, _⟩ := h; rw [h]; rfl)
  | (obtain ⟨_, _, _, _, _, _, _, _, _, _, _, h, _⟩ := h; rw [h]; rfl)
  | (obtain ⟨_, _, _, _, _, _, _, _, _, _, _, _, h, _⟩ := h; rw [h]; rfl)
  | (obtain ⟨_, _, _, _, _, _, _, _, _, _, _, _, _, h, _⟩ := h; rw [h]; rfl)
  | (obtain ⟨_, _, _, _, _, _, _, _, _, _, _, _, _, _, h, _⟩ := h; rw [h]; rfl)
def bd_bow_1_t2 : WTS := (wAsg (wOp oMod (wOp oAdd (wVar 3) (wC (.int 1))) (wVar 1)) (wN 3))
def bd_bow_1 : WTS := wSeq (wDrop (wBm .list mAppend (wVar 2) (wCons (wVar 3) wNil))) bd_bow_1_t2
def bd_bow_t4 : WTS := (wRet (wVar 2))
def bd_bow_t3 : WTS := wSeq (wWhile (wTest (wOp oNe (wVar 3) (wFld 2 (wVar 0)))) bd_bow_1) bd_bow_t4
def bd_bow_t2 : WTS := wSeq (wAsg (wOp oMod (wOp oAdd (wFld 1 (wVar 0)) (wC (.int 1))) (wVar 1)) (wN 3)) bd_bow_t3
def bd_bow : WTS := wSeq (wAsg (wLstM wNil) (wN 2)) bd_bow_t2
theorem w_bow (ws : List W) (G : WHp) (Q : WQ) (Ex : Xc → WHp → Prop) (h : sp_bow ws G Q Ex) : bd_bow (endsW Q) (wStart ["way", "places", "found", "place"] ws) G (fun c _ G' => Ex c G') := by
  obtain ⟨y, p, rfl, hp, hp2, e0, e1, q⟩ := h
  simp! only [bd_bow, wLstM]
  intro D hD
  simp! only [bd_bow_t2, wyW, wyF]
  refine ⟨hp, ?_⟩
  simp! only [bd_bow_t3, wWhile, wyW, wyF]
  have n1 := Int.emod_lt_of_pos (y.stop - y.start - 1) hp
  have n0 := Int.emod_nonneg (y.stop - y.start - 1) (show p ≠ 0 by omega)
  generalize hn : ((y.stop - y.start - 1) % p).toNat = n at *
  refine ⟨fun m σ' G' => ∃ i, i ≤ n ∧ m = n - i ∧ σ' = [some (wyW y), some (.int p), some (.ref D), some (.int ((y.start + 1 + (i : Int)) % p))] ∧ G' = updG G D (.lst (((List.range i).map fun i : Nat => (y.start + 1 + (i : Int)) % p).map .int)), ⟨n, 0, by omega, by omega, by simp [wyW, wyF], rfl⟩, ?_⟩
  rintro m σ' G' ⟨i, hi, rfl, rfl, rfl⟩
  have ba := bow_at (s := y.start) (i := i) hp e0 e1 (by rw [hn]; exact hi)
  rw [hn] at ba
  simp! only [wyW, wyF]
  split
  · rename_i h1
    have hlt : i < n := by
      rcases Nat.lt_or_eq_of_le hi with z | z
      · exact z
      · exact absurd (ba.mpr z) h1
    simp! only [bd_bow_1, wBm]
    refine ⟨⟨_, by simp [sqOf, lstOf, updG_same]; rfl⟩, D, _, _, rfl, rfl, updG_same, by simp [big]; omega, ?_⟩
    rw [updG_updG]
    simp! only [bd_bow_1_t2]
    refine ⟨hp, n - (i + 1), by omega, i + 1, hlt, rfl, ?_, ?_⟩
    · rw [Int.emod_add_emod, Int.add_assoc]; rfl
    · rw [List.range_succ]; simp
  · rename_i h1
    have : i = n := ba.mp (by simpa using h1)
    subst this
    simp! only [bd_bow_t4]
    have := q D hD
    unfold bowL at this
    rw [hn] at this
    exact this

def sp_ways_meet : WSp := fun ws G Q _ => ∃ y z p, ws = [wyW y, wyW z, .int p] ∧ y.okP p ∧ z.okP p ∧ p ≤ 99 ∧ Q (.bl (waysMeet y z p)) G

theorem len_ways_meet : ∀ ws G Q E, sp_ways_meet ws G Q E → ws.length = (["way", "other", "places"] : List Str).length := by
  intro ws G Q E h
  first
  | (obtain ⟨_, h, _⟩ := h; rw [h]; rfl)
  | (obtain ⟨_, _, h, _⟩ := h; rw [h]; rfl)
  | (obtain ⟨_, _, _, h, _⟩ := h; rw [h]; rfl)
  | (obtain ⟨_, _, _, _, h, _⟩ := h; rw [h]; rfl)
  | (obtain ⟨_, _, _, _, _, h, _⟩ := h; rw [h]; rfl)
  | (obtain ⟨_, _, _, _, _, _, h, _⟩ := h; rw [h]; rfl)
  | (obtain ⟨_, _, _, _, _, _, _, h, _⟩ := h; rw [h]; rfl)
  | (obtain ⟨_, _, _, _, _, _, _, _, h, _⟩ := h; rw [h]; rfl)
  | (obtain ⟨_, _, _, _, _, _, _, _, _, h, _⟩ := h; rw [h]; rfl)
  | (obtain ⟨_, _, _, _, _, _, _, _, _, _, h, _⟩ := h; rw [h]; rfl)
  | (obtain ⟨_, _, _, _, _, _, _, _, _, _, _, h, _⟩ := h; rw [h]; rfl)
  | (obtain ⟨_, _, _, _, _, _, _, _, _, _, _, _, h, _⟩ := h; rw [h]; rfl)
  | (obtain ⟨_, _, _, _, _, _, _, _, _, _, _, _, _, h, _⟩ := h; rw [h]; rfl)
  | (obtain ⟨_, _, _, _, _, _, _, _, _, _, _, _, _, _, h, _⟩ := h; rw [h]; rfl)
def bd_ways_meet_1 : WTS := (wRet (wC (.bl true)))
def bd_ways_meet_2 : WTS := (wRet (wC (.bl false)))
def bd_ways_meet_t4 : WTS := (wRet (wOp oNe (wOp oIn (wFld 1 (wVar 1)) (wVar 3)) (wOp oIn (wFld 2 (wVar 1)) (wVar 3))))
def bd_ways_meet_t3 : WTS := wSeq (wAsg (wView (wCall sp_bow (wCons (wVar 0) (wCons (wVar 2) wNil)))) (wN 3)) bd_ways_meet_t4
def bd_ways_meet_t2 : WTS := wSeq (wIfS (wOr (wTest (wOp oIn (wFld 1 (wVar 0)) (wTup (wCons (wFld 1 (wVar 1)) (wCons (wFld 2 (wVar 1)) wNil))))) (wTest (wOp oEq (wFld 2 (wVar 0)) (wFld 1 (wVar 1))))) bd_ways_meet_2 wNext) bd_ways_meet_t3
def bd_ways_meet : WTS := wSeq (wIfS (wTest (wOp oEq (wFld 2 (wVar 0)) (wFld 2 (wVar 1)))) bd_ways_meet_1 wNext) bd_ways_meet_t2
theorem w_ways_meet (ws : List W) (G : WHp) (Q : WQ) (Ex : Xc → WHp → Prop) (h : sp_ways_meet ws G Q Ex) : bd_ways_meet (endsW Q) (wStart ["way", "other", "places", "inner"] ws) G (fun c _ G' => Ex c G') := by
  obtain ⟨y, z, p, rfl, hy, hz, hp, q⟩ := h
  simp! only [bd_ways_meet, wyW, wyF]
  unfold waysMeet at q
  split
  · rename_i h1
    rw [if_pos h1] at q
    simp! only [bd_ways_meet_1]
    exact q
  · rename_i h1
    rw [if_neg h1] at q
    simp! only [bd_ways_meet_t2, wyW, wyF]
    simp! only [oIn_pair]
    split
    · rename_i h2
      rw [if_pos (by simp at h2; rcases h2 with h2 | h2; exact .inl h2; exact .inr (.inl h2))] at q
      simp! only [bd_ways_meet_2]
      exact q
    · rename_i h2
      split
      · rename_i h3
        rw [if_pos (.inr (.inr h3))] at q
        simp! only [bd_ways_meet_2]
        exact q
      · rename_i h3
        rw [if_neg (by simp at h2; rintro (w | w | w); exact h2.1 w; exact h2.2 w; exact h3 w)] at q
        simp! only [bd_ways_meet_t3]
        refine ⟨y, p, rfl, by have := hy.s0; have := hy.s1; omega, by omega, hy.e0, hy.e1, fun D hD => vw_lst hD ?_⟩
        simp! only [bd_ways_meet_t4, oIn_ints, wyW, wyF]
        rw [show (!decide (decide (z.start ∈ bowL y.start y.stop p) = decide (z.stop ∈ bowL y.start y.stop p))) = (inB y p z.start != inB y p z.stop) from ?_]
        · exact q
        · unfold inB
          cases decide (z.start ∈ bowL y.start y.stop p) <;> cases decide (z.stop ∈ bowL y.start y.stop p) <;> rfl

def sp_meet : WSp := fun ws G Q E => ∃ c n m, ws = [crW c, .str n, .str m] ∧ c.ok ∧ (∀ y z, c.get n = some y → c.get m = some z → Q (.bl (waysMeet y z c.places)) G) ∧ (c.get n = none → exS E (xNoWay n) G) ∧ (∀ y, c.get n = some y → c.get m = none → exS E (xNoWay m) G)
theorem meet_i {c : Cr} {n m : List Nat} {y z : Wy} {G : WHp} {Q : WQ} {E : Xc → WHp → Prop} (h : c.ok) (hy : c.get n = some y) (hz : c.get m = some z) (q : Q (.bl (waysMeet y z c.places)) G) : sp_meet [crW c, .str n, .str m] G Q E :=
  ⟨c, n, m, rfl, h, fun y' z' h1 h2 => by rw [hy] at h1; cases h1; rw [hz] at h2; cases h2; exact q, (fun h1 => by rw [hy] at h1; cases h1), fun y' h1 h2 => by rw [hz] at h2; cases h2⟩

theorem len_meet : ∀ ws G Q E, sp_meet ws G Q E → ws.length = (["crossing", "one", "other"] : List Str).length := by
  intro ws G Q E h
  first
  | (obtain ⟨_, h, _⟩ := h; rw [h]; rfl)
  | (obtain ⟨_, _, h, _⟩ := h; rw [h]; rfl)
  | (obtain ⟨_, _, _, h, _⟩ := h; rw [h]; rfl)
  | (obtain ⟨_, _, _, _, h, _⟩ := h; rw [h]; rfl)
  | (obtain ⟨_, _, _, _, _, h, _⟩ := h; rw [h]; rfl)
  | (obtain ⟨_, _, _, _, _, _, h, _⟩ := h; rw [h]; rfl)
  | (obtain ⟨_, _, _, _, _, _, _, h, _⟩ := h; rw [h]; rfl)
  | (obtain ⟨_, _, _, _, _, _, _, _, h, _⟩ := h; rw [h]; rfl)
  | (obtain ⟨_, _, _, _, _, _, _, _, _, h, _⟩ := h; rw [h]; rfl)
  | (obtain ⟨_, _, _, _, _, _, _, _, _, _, h, _⟩ := h; rw [h]; rfl)
  | (obtain ⟨_, _, _, _, _, _, _, _, _, _, _, h, _⟩ := h; rw [h]; rfl)
  | (obtain ⟨_, _, _, _, _, _, _, _, _, _, _, _, h, _⟩ := h; rw [h]; rfl)
  | (obtain ⟨_, _, _, _, _, _, _, _, _, _, _, _, _, h, _⟩ := h; rw [h]; rfl)
  | (obtain ⟨_, _, _, _, _, _, _, _, _, _, _, _, _, _, h, _⟩ := h; rw [h]; rfl)
def bd_meet : WTS := (wRet (wCall sp_ways_meet (wCons (wMeth 54 mt_called [13] (wVar 0) (wCons (wVar 1) wNil)) (wCons (wMeth 54 mt_called [13] (wVar 0) (wCons (wVar 2) wNil)) (wCons (wFld 7 (wVar 0)) wNil)))))
theorem w_meet (ws : List W) (G : WHp) (Q : WQ) (Ex : Xc → WHp → Prop) (h : sp_meet ws G Q Ex) : bd_meet (endsW Q) (wStart ["crossing", "one", "other"] ws) G (fun c _ G' => Ex c G') := by
  obtain ⟨c, n, m, rfl, ho, q, e1, e2⟩ := h
  simp! only [bd_meet, crW, crF]
  refine ⟨c, n, rfl, ho, fun y hy => ?_, e1⟩
  refine ⟨c, m, rfl, ho, fun z hz => ?_, e2 y hy⟩
  simp! only [true_and]
  exact ⟨y, z, c.places, rfl, ho.all y (get_mem hy).1, ho.all z (get_mem hz).1, ho.p1, q y z hy hz⟩

def sp_gap : WSp := fun ws G Q E => ∃ c n m, ws = [crW c, .str n, .str m] ∧ c.ok ∧ (∀ y z, c.get n = some y → c.get m = some z → Q (.int (gapN y z)) G) ∧ (c.get n = none → exS E (xNoWay n) G) ∧ (∀ y, c.get n = some y → c.get m = none → exS E (xNoWay m) G)
theorem gap_i {c : Cr} {n m : List Nat} {y z : Wy} {G : WHp} {Q : WQ} {E : Xc → WHp → Prop} (h : c.ok) (hy : c.get n = some y) (hz : c.get m = some z) (q : Q (.int (gapN y z)) G) : sp_gap [crW c, .str n, .str m] G Q E :=
  ⟨c, n, m, rfl, h, fun y' z' h1 h2 => by rw [hy] at h1; cases h1; rw [hz] at h2; cases h2; exact q, (fun h1 => by rw [hy] at h1; cases h1), fun y' h1 h2 => by rw [hz] at h2; cases h2⟩

theorem len_gap : ∀ ws G Q E, sp_gap ws G Q E → ws.length = (["crossing", "one", "other"] : List Str).length := by
  intro ws G Q E h
  first
  | (obtain ⟨_, h, _⟩ := h; rw [h]; rfl)
  | (obtain ⟨_, _, h, _⟩ := h; rw [h]; rfl)
  | (obtain ⟨_, _, _, h, _⟩ := h; rw [h]; rfl)
  | (obtain ⟨_, _, _, _, h, _⟩ := h; rw [h]; rfl)
  | (obtain ⟨_, _, _, _, _, h, _⟩ := h; rw [h]; rfl)
  | (obtain ⟨_, _, _, _, _, _, h, _⟩ := h; rw [h]; rfl)
  | (obtain ⟨_, _, _, _, _, _, _, h, _⟩ := h; rw [h]; rfl)
  | (obtain ⟨_, _, _, _, _, _, _, _, h, _⟩ := h; rw [h]; rfl)
  | (obtain ⟨_, _, _, _, _, _, _, _, _, h, _⟩ := h; rw [h]; rfl)
  | (obtain ⟨_, _, _, _, _, _, _, _, _, _, h, _⟩ := h; rw [h]; rfl)
  | (obtain ⟨_, _, _, _, _, _, _, _, _, _, _, h, _⟩ := h; rw [h]; rfl)
  | (obtain ⟨_, _, _, _, _, _, _, _, _, _, _, _, h, _⟩ := h; rw [h]; rfl)
  | (obtain ⟨_, _, _, _, _, _, _, _, _, _, _, _, _, h, _⟩ := h; rw [h]; rfl)
  | (obtain ⟨_, _, _, _, _, _, _, _, _, _, _, _, _, _, h, _⟩ := h; rw [h]; rfl)
def bd_gap_t2 : WTS := (wRet (wCB oMax2 (wCons (wC (.int 0)) (wCons (wOp oSub (wFld 3 (wVar 3)) (wFld 4 (wMeth 54 mt_called [13] (wVar 0) (wCons (wVar 2) wNil)))) wNil))))
def bd_gap : WTS := wSeq (wAsg (wMeth 54 mt_called [13] (wVar 0) (wCons (wVar 1) wNil)) (wN 3)) bd_gap_t2
theorem w_gap (ws : List W) (G : WHp) (Q : WQ) (Ex : Xc → WHp → Prop) (h : sp_gap ws G Q Ex) : bd_gap (endsW Q) (wStart ["crossing", "one", "other", "way"] ws) G (fun c _ G' => Ex c G') := by
  obtain ⟨c, n, m, rfl, ho, q, e1, e2⟩ := h
  simp! only [bd_gap, crW, crF]
  refine ⟨c, n, rfl, ho, fun y hy => ?_, e1⟩
  simp! only [bd_gap_t2, wyW, wyF, crW, crF]
  refine ⟨c, m, rfl, ho, fun z hz => ?_, e2 y hy⟩
  simp! only [wyW, wyF]
  exact q y z hy hz

/-! ### plans -/
def tROUND : List Nat := [114, 111, 117, 110, 100]
/-- a span: its way's name, its begin, its turns -/
structure Sn where
  n : List Nat
  b : Int
  t : Int
def spW (s : Sn) : W := .tup [.str s.n, .int s.b, .int s.t]
def inSp (z : Int) (s : Sn) (i : Int) : Bool := decide ((i - s.b) % z < s.t)
def frB (z : Int) (rs : List Sn) (n : List Nat) (i : Int) : Bool := rs.any fun s => decide (s.n = n) && inSp z s i
structure PnOk (c : Cr) (z : Int) (rs : List Sn) : Prop where
  cr : c.ok
  z0 : 1 ≤ z
  z1 : z ≤ 240
  len : rs.length ≤ 20001
  row : ∀ s ∈ rs, s.n ∈ c.names ∧ 0 ≤ s.b ∧ s.b < z ∧ 1 ≤ s.t ∧ s.t ≤ z
def bitsN (z : Int) (rs : List Sn) (n : List Nat) : Nat := maskN (fun i => frB z rs n i) z.toNat
def pnF (c : Cr) (z : Int) (rs : List Sn) : List (Nat × W) := [(14, crW c), (15, .int z), (16, .il (rs.map spW)), (17, .dk (c.names.map fun n => (.inr n, .int (bitsN z rs n : Nat))))]
def pnW (c : Cr) (z : Int) (rs : List Sn) : W := .io 14 (pnF c z rs)
theorem inSp_mod {z : Int} {s : Sn} {i : Int} : inSp z s (i % z) = inSp z s i := by
  unfold inSp
  rw [Int.sub_emod, Int.emod_emod, ← Int.sub_emod]
theorem frB_mod {z : Int} {rs : List Sn} {n : List Nat} {i : Int} : frB z rs n (i % z) = frB z rs n i := by
  unfold frB
  congr 1
  funext s
  rw [inSp_mod]
theorem frB_add {z : Int} {rs : List Sn} {n : List Nat} {i : Int} : frB z rs n (i + z) = frB z rs n i := by
  rw [← frB_mod, Int.add_emod_right, frB_mod]
theorem frB_snoc {z : Int} {rs : List Sn} {s : Sn} {n : List Nat} {i : Int} : frB z (rs ++ [s]) n i = (frB z rs n i || (decide (s.n = n) && inSp z s i)) := by
  unfold frB
  simp
def turnN (m k n : Nat) : Nat := ((m <<< k) ||| ((m <<< k) >>> n)) &&& (2 ^ n - 1)
theorem testBit_turn (m k n i : Nat) : (turnN m k n).testBit i = (((decide (k ≤ i) && m.testBit (i - k)) || (decide (k ≤ n + i) && m.testBit (n + i - k))) && decide (i < n)) := by
  unfold turnN
  rw [Nat.testBit_and, Nat.testBit_or, Nat.testBit_shiftRight, Nat.testBit_shiftLeft, Nat.testBit_shiftLeft, Nat.testBit_two_pow_sub_one]
theorem mask_ext {p q : Nat → Bool} {n m : Nat} (h : ∀ i, m.testBit i = (decide (i < n) && p i)) : m = maskN p n := Nat.eq_of_testBit_eq fun i => by rw [h, testBit_mask]
theorem turn_span {z : Int} {s : Sn} (h0 : 0 ≤ s.b) (h1 : s.b < z) (h2 : s.t ≤ z) (h3 : 1 ≤ s.t) : turnN (2 ^ s.t.toNat - 1) s.b.toNat z.toNat = maskN (fun i => inSp z s i) z.toNat := by
  refine mask_ext (q := fun _ => true) fun i => ?_
  rw [testBit_turn, Nat.testBit_two_pow_sub_one, Nat.testBit_two_pow_sub_one]
  by_cases hi : i < z.toNat
  · have e : ((i : Int) - s.b) % z = if s.b ≤ i then (i : Int) - s.b else (i : Int) - s.b + z := by
      split
      · exact Int.emod_eq_of_lt (by omega) (by omega)
      · rw [← Int.add_emod_right, Int.emod_eq_of_lt (by omega) (by omega)]
    simp only [hi, decide_true, Bool.and_true, Bool.true_and]
    unfold inSp
    rw [e, Bool.eq_iff_iff]
    simp only [Bool.or_eq_true, Bool.and_eq_true, decide_eq_true_eq]
    split <;> omega
  · simp [hi]
theorem mask_or {p q : Nat → Bool} {n : Nat} : maskN p n ||| maskN q n = maskN (fun i => p i || q i) n := by
  refine mask_ext (q := q) fun i => ?_
  rw [Nat.testBit_or, testBit_mask, testBit_mask]
  cases decide (i < n) <;> rfl
theorem mask_congr {p q : Nat → Bool} {n : Nat} (h : ∀ i, i < n → p i = q i) : maskN p n = maskN q n := by
  refine mask_ext (q := q) fun i => ?_
  rw [testBit_mask]
  by_cases hi : i < n
  · rw [h i hi]
  · simp [hi]
theorem mask_zero {n : Nat} : maskN (fun _ => false) n = 0 := by
  refine (mask_ext (q := fun _ => true) fun i => ?_).symm
  simp
theorem mask_and {p q : Nat → Bool} {n : Nat} : maskN p n &&& maskN q n = maskN (fun i => p i && q i) n := by
  refine mask_ext (q := q) fun i => ?_
  rw [Nat.testBit_and, testBit_mask, testBit_mask]
  cases decide (i < n) <;> simp
theorem mask_ne {p : Nat → Bool} {n : Nat} : maskN p n ≠ 0 ↔ ∃ i, i < n ∧ p i = true := by
  constructor
  · intro h
    obtain ⟨i, hi⟩ := Nat.exists_testBit_of_ne_zero h
    rw [testBit_mask] at hi
    simp at hi
    exact ⟨i, hi.1, hi.2⟩
  · rintro ⟨i, h1, h2⟩ z
    have := testBit_mask p n i
    rw [z] at this
    simp [h1, h2] at this
/-- a round's bits one turn later -/
theorem turn_one {f : Int → Bool} {z : Int} (h1 : 1 ≤ z) (hf : ∀ i, f (i + z) = f i) : turnN (maskN (fun i => f i) z.toNat) 1 z.toNat = maskN (fun i => f ((i : Int) - 1)) z.toNat := by
  refine mask_ext (q := fun _ => true) fun i => ?_
  rw [testBit_turn, testBit_mask, testBit_mask]
  by_cases hi : i < z.toNat
  · simp only [hi, decide_true, Bool.and_true, Bool.true_and]
    by_cases h0 : 1 ≤ i
    · have h3 : ¬ z.toNat + i - 1 < z.toNat := by omega
      have h4 : i - 1 < z.toNat := by omega
      simp only [h0, h3, h4, decide_true, decide_false, Bool.true_and, Bool.false_and, Bool.and_false, Bool.or_false]
      rw [show ((i - 1 : Nat) : Int) = (i : Int) - 1 by omega]
    · have h2 : i = 0 := by omega
      subst h2
      have h3 : z.toNat - 1 < z.toNat := by omega
      have h4 : 1 ≤ z.toNat := by omega
      simp only [Nat.add_zero, h3, h4, decide_true, Bool.true_and, show ¬ (1 ≤ 0) by omega, decide_false, Bool.false_and, Bool.false_or]
      rw [show ((z.toNat - 1 : Nat) : Int) = -1 + z by omega, hf]
      rfl
  · simp [hi]
theorem shr1 (a : Nat) : a >>> 1 = a / 2 := by rw [Nat.shiftRight_eq_div_pow, Nat.pow_one]
theorem low_bit : ∀ {m : Nat}, m ≠ 0 → ∃ k, (m &&& (m - 1)) + 2 ^ k = m ∧ m.testBit k = true := by
  intro m
  induction m using Nat.strongRecOn with
  | _ m ih =>
    intro h0
    rcases Nat.mod_two_eq_zero_or_one m with h | h
    · obtain ⟨k, h1, h2⟩ := ih (m / 2) (by omega) (by omega)
      have e1 : (m &&& (m - 1)) / 2 = (m / 2) &&& (m / 2 - 1) := by
        rw [← shr1, Nat.shiftRight_and_distrib, shr1, shr1, show (m - 1) / 2 = m / 2 - 1 by omega]
      have e2 : (m &&& (m - 1)) % 2 = 0 := by
        have h3 : (m &&& (m - 1)).testBit 0 = false := by
          rw [Nat.testBit_and, Nat.testBit_zero, h]; simp
        rw [Nat.testBit_zero] at h3
        have := of_decide_eq_false h3
        omega
      refine ⟨k + 1, by rw [Nat.pow_succ]; omega, ?_⟩
      rw [Nat.testBit_succ]; exact h2
    · refine ⟨0, ?_, by rw [Nat.testBit_zero, h]; rfl⟩
      have e1 : (m &&& (m - 1)) / 2 = (m - 1) / 2 := by
        rw [← shr1, Nat.shiftRight_and_distrib, shr1, shr1, show m / 2 = (m - 1) / 2 by omega, Nat.and_self]
      have e2 : (m &&& (m - 1)) % 2 = 0 := by
        have h3 : (m &&& (m - 1)).testBit 0 = false := by
          rw [Nat.testBit_and, Nat.testBit_zero (m - 1), show (m - 1) % 2 = 0 by omega]; simp
        rw [Nat.testBit_zero] at h3
        have := of_decide_eq_false h3
        omega
      rw [Nat.pow_zero]; omega
theorem low_int {m : Nat} (h : m ≠ 0) : ∃ k : Nat, ((Builtin.Int.intBits (Builtin.bitAnd (m : Int) (-(m : Int))) : Nat) : Int) - 1 = k ∧ m.testBit k = true := by
  obtain ⟨k, h1, h2⟩ := low_bit h
  refine ⟨k, ?_, h2⟩
  have e : Builtin.bitAnd (m : Int) (-(m : Int)) = ((2 ^ k : Nat) : Int) := by
    unfold Builtin.bitAnd
    rw [decide_eq_true (show (0 : Int) ≤ (m : Int) by omega), decide_eq_false (show ¬ (0 : Int) ≤ -(m : Int) by omega)]
    simp only [Int.toNat_natCast]
    rw [show (Builtin.bitNot (-(m : Int))).toNat = m - 1 by
      show (-(-(m : Int)) - 1).toNat = m - 1
      omega]
    generalize m &&& (m - 1) = x at h1 ⊢
    generalize 2 ^ k = y at h1 ⊢
    omega
  rw [e]
  unfold Builtin.Int.intBits
  have hp : 0 < 2 ^ k := Nat.two_pow_pos k
  have hne : ¬ ((((2 ^ k : Nat) : Int) == 0) = true) := fun z => by
    have := Int.ofNat_eq_zero.mp (eq_of_beq z)
    omega
  rw [if_neg hne, Int.natAbs_natCast, Nat.log2_two_pow]
  omega
/-! what is looked at -/
def spAt (rs : List Sn) (k : Nat) : Sn := rs.getD k ⟨[], 0, 0⟩
theorem sp_at {rs : List Sn} {k : Nat} (h : k < rs.length) : rs[k]? = some (spAt rs k) := by
  unfold spAt; rw [List.getD, List.getElem?_eq_getElem h]; rfl
theorem sp_is {rs : List Sn} {k : Nat} {s : Sn} (h : rs[k]? = some s) : spAt rs k = s := by unfold spAt; rw [List.getD, h]; rfl
def roomTo (z : Int) (rs : List Sn) (k : Nat) : Nat → Int
  | 0 => z
  | i + 1 => if i ≠ k ∧ (spAt rs i).n = (spAt rs k).n then (if ((spAt rs i).b - (spAt rs k).b) % z < roomTo z rs k i then ((spAt rs i).b - (spAt rs k).b) % z else roomTo z rs k i) else roomTo z rs k i
def roomP (z : Int) (rs : List Sn) (k : Nat) : Int := roomTo z rs k rs.length
def neverP (c : Cr) (rs : List Sn) : Option (List Nat) := c.names.find? fun n => rs.all fun s => decide (s.n ≠ n)
def shortB (c : Cr) (z : Int) (rs : List Sn) (k : Nat) : Bool := decide ((spAt rs k).t < (c.gw (spAt rs k).n).least ∨ roomP z rs k < (spAt rs k).t + (c.gw (spAt rs k).n).fade + (c.gw (spAt rs k).n).ready)
def shortP (c : Cr) (z : Int) (rs : List Sn) : Option Nat := (List.range rs.length).find? (shortB c z rs)
def clashB (c : Cr) (z : Int) (rs : List Sn) (n m : List Nat) (k : Int) : Prop := n ∈ c.names ∧ m ∈ c.names ∧ n ≠ m ∧ waysMeet (c.gw n) (c.gw m) c.places = true ∧ 0 ≤ k ∧ k < z ∧ frB z rs m k = true ∧ ∃ d : Nat, (d : Int) ≤ gapN (c.gw n) (c.gw m) ∧ frB z rs n (k - d) = true
/-- what is refused, and what is let by -/
structure LookP (c : Cr) (z : Int) (rs : List Sn) (E : Xc → WHp → Prop) (G : WHp) (ok : Prop) : Prop where
  nv : ∀ n, neverP c rs = some n → exS E (xNever n) G
  sh : neverP c rs = none → ∀ k, shortP c z rs = some k → exS E (xShort (spAt rs k).n (spAt rs k).b) G
  cl : neverP c rs = none → shortP c z rs = none → ∀ n m k, clashB c z rs n m k → exS E (xClash n m k) G
  fine : neverP c rs = none → shortP c z rs = none → (∀ n m k, ¬ clashB c z rs n m k) → ok
theorem LookP.imp {c : Cr} {z : Int} {rs : List Sn} {E E' : Xc → WHp → Prop} {G G' : WHp} {a b : Prop} (h : LookP c z rs E G a) (he : ∀ x, exS E x G → exS E' x G') (i : a → b) : LookP c z rs E' G' b :=
  ⟨fun n h1 => he _ (h.nv n h1), fun n1 k h1 => he _ (h.sh n1 k h1), fun n1 n2 n m k h1 => he _ (h.cl n1 n2 n m k h1), fun n1 n2 n3 => i (h.fine n1 n2 n3)⟩
theorem bits_zero {c : Cr} {z : Int} {rs : List Sn} (ok : PnOk c z rs) (n : List Nat) : bitsN z rs n = 0 ↔ (rs.all fun s => decide (s.n ≠ n)) = true := by
  rw [← Decidable.not_iff_not, ← ne_eq, bitsN, mask_ne]
  constructor
  · rintro ⟨i, hi, h⟩ z2
    obtain ⟨s, hs, h⟩ := List.any_eq_true.mp h
    have := List.all_eq_true.mp z2 s hs
    simp at this h
    exact this h.1
  · intro h
    have h : ∃ s ∈ rs, s.n = n := by simpa using h
    obtain ⟨s, hs, e⟩ := h
    obtain ⟨r1, r2, r3, r4, r5⟩ := ok.row s hs
    refine ⟨s.b.toNat, by omega, ?_⟩
    refine List.any_eq_true.mpr ⟨s, hs, ?_⟩
    unfold inSp
    rw [Int.toNat_of_nonneg r2, Int.sub_self, Int.zero_emod]
    simp [e]; omega
theorem pn_lk14 {c : Cr} {z : Int} {rs : List Sn} : (pnF c z rs).lookup 14 = some (crW c) := rfl
theorem bit_len {c : Cr} {z : Int} {rs : List Sn} (ok : PnOk c z rs) (n : List Nat) : bitsN z rs n < 2 ^ 1000000 := by
  refine Nat.lt_of_lt_of_le (mask_lt _ _) (Nat.pow_le_pow_right (by decide) ?_)
  have := ok.z1; omega
theorem bitsD_val {c : Cr} {z : Int} {rs : List Sn} {n : List Nat} (h : n ∈ c.names) : valW (c.names.map fun n => ((.inr n : KW), W.int (bitsN z rs n : Nat))) (.inr n) = some (.int (bitsN z rs n : Nat)) := by
  generalize c.names = ns at h
  induction ns with
  | nil => cases h
  | cons a r ih =>
    rw [List.map_cons]
    by_cases e : a = n
    · subst e; exact valW_hit
    · rw [valW_miss (fun z => e (by injection z))]
      exact ih ((List.mem_cons.mp h).resolve_left (fun z => e z.symm))
def nmD (ns : List (List Nat)) (f : List Nat → W) : List (KW × W) := ns.map fun n => ((.inr n : KW), f n)
theorem nmD_new {ns : List (List Nat)} {f : List Nat → W} {n : List Nat} {v : W} (h : n ∉ ns) (hv : v = f n) : putKW (nmD ns f) (.inr n) v = nmD (ns ++ [n]) f := by
  subst hv
  unfold putKW nmD
  rw [if_neg, List.map_append]
  · rfl
  · intro z
    obtain ⟨p, hp, e⟩ := List.any_eq_true.mp z
    obtain ⟨x, hx, rfl⟩ := List.mem_map.mp hp
    have : x = n := by simpa using e
    exact h (this ▸ hx)
theorem nmD_upd {ns : List (List Nat)} {f : List Nat → W} {n : List Nat} {v : W} (h : n ∈ ns) : putKW (nmD ns f) (.inr n) v = nmD ns fun m => if m = n then v else f m := by
  unfold putKW nmD
  rw [if_pos (List.any_eq_true.mpr ⟨_, List.mem_map.mpr ⟨n, h, rfl⟩, by simp⟩), List.map_map]
  refine List.map_congr_left fun m _ => ?_
  simp only [Function.comp]
  by_cases e : m = n
  · subst e; simp
  · rw [if_neg e, if_neg (fun z => e (by injection z))]
theorem nmD_congr {ns : List (List Nat)} {f g : List Nat → W} (h : ∀ n ∈ ns, f n = g n) : nmD ns f = nmD ns g := List.map_congr_left fun n hn => by rw [h n hn]
theorem nmD_val {ns : List (List Nat)} {f : List Nat → W} {n : List Nat} (h : n ∈ ns) : valW (nmD ns f) (.inr n) = some (f n) := by
  unfold nmD
  induction ns with
  | nil => cases h
  | cons a r ih =>
    rw [List.map_cons]
    by_cases e : a = n
    · subst e; exact valW_hit
    · rw [valW_miss (fun z => e (by injection z))]
      exact ih ((List.mem_cons.mp h).resolve_left (fun z => e z.symm))
theorem nmD_len {ns : List (List Nat)} {f : List Nat → W} : (nmD ns f).length = ns.length := by simp [nmD]
theorem bits_snoc {z : Int} {rs : List Sn} {s : Sn} {n : List Nat} (h0 : 0 ≤ s.b) (h1 : s.b < z) (h2 : s.t ≤ z) (h3 : 1 ≤ s.t) : bitsN z (rs ++ [s]) n = if n = s.n then bitsN z rs s.n ||| turnN (2 ^ s.t.toNat - 1) s.b.toNat z.toNat else bitsN z rs n := by
  unfold bitsN
  split
  · rename_i e
    subst e
    rw [turn_span h0 h1 h2 h3, mask_or]
    refine mask_congr fun i _ => ?_
    rw [frB_snoc]; simp
  · rename_i e
    refine mask_congr fun i _ => ?_
    rw [frB_snoc, decide_eq_false (fun z => e z.symm)]; simp
def nearB (z : Int) (rs : List Sn) (n : List Nat) (D : Nat) (k : Int) : Bool := (List.range (D + 1)).any fun d => frB z rs n (k - (d : Nat))
theorem nearB_zero {z : Int} {rs : List Sn} {n : List Nat} {k : Int} : nearB z rs n 0 k = frB z rs n k := by
  unfold nearB
  simp
theorem nearB_succ {z : Int} {rs : List Sn} {n : List Nat} {D : Nat} {k : Int} : nearB z rs n (D + 1) k = (nearB z rs n D k || frB z rs n (k - ((D + 1 : Nat) : Int))) := by
  unfold nearB
  rw [List.range_succ, List.any_append]
  simp
def nearD (c : Cr) (z : Int) (n m : List Nat) : Nat := (if z < gapN (c.gw n) (c.gw m) then z else gapN (c.gw n) (c.gw m)).toNat
def nearN (c : Cr) (z : Int) (rs : List Sn) (n m : List Nat) : Nat := maskN (fun k => nearB z rs n (nearD c z n m) k && frB z rs m k) z.toNat
theorem frB_submod {z : Int} {rs : List Sn} {n : List Nat} {k d : Int} : frB z rs n (k - d % z) = frB z rs n (k - d) := by
  rw [← frB_mod, Int.sub_emod, Int.emod_emod, ← Int.sub_emod, frB_mod]
theorem near_clash {c : Cr} {z : Int} {rs : List Sn} (ok : PnOk c z rs) {n m : List Nat} (hn : n ∈ c.names) (hm : m ∈ c.names) (hne : n ≠ m) (hw : waysMeet (c.gw n) (c.gw m) c.places = true) (k : Int) : clashB c z rs n m k ↔ 0 ≤ k ∧ k < z ∧ (nearN c z rs n m).testBit k.toNat = true := by
  have hz := ok.z0
  have hg := gap_ge (c.gw n) (c.gw m)
  unfold clashB nearN
  rw [testBit_mask]
  constructor
  · rintro ⟨_, _, _, _, k0, k1, h1, d, hd, h2⟩
    refine ⟨k0, k1, ?_⟩
    rw [Int.toNat_of_nonneg k0, h1, Bool.and_true, decide_eq_true (show k.toNat < z.toNat by omega), Bool.true_and]
    unfold nearB
    by_cases hgz : z < gapN (c.gw n) (c.gw m)
    · have a := Int.emod_nonneg (d : Int) (show z ≠ 0 by omega)
      have b := Int.emod_lt_of_pos (d : Int) (show 0 < z by omega)
      refine List.any_eq_true.mpr ⟨((d : Int) % z).toNat, List.mem_range.mpr ?_, ?_⟩
      · unfold nearD; rw [if_pos hgz]; omega
      · rw [Int.toNat_of_nonneg a, frB_submod]; exact h2
    · refine List.any_eq_true.mpr ⟨d, List.mem_range.mpr ?_, h2⟩
      unfold nearD; rw [if_neg hgz]; omega
  · rintro ⟨k0, k1, h⟩
    rw [Int.toNat_of_nonneg k0] at h
    simp only [Bool.and_eq_true, decide_eq_true_eq] at h
    refine ⟨hn, hm, hne, hw, k0, k1, h.2.2, ?_⟩
    obtain ⟨d, hd, h2⟩ := List.any_eq_true.mp h.2.1
    refine ⟨d, ?_, h2⟩
    have hd := List.mem_range.mp hd
    unfold nearD at hd
    split at hd <;> omega
theorem FrzDk.refl {G G2 : WHp} : ∀ (ws : List (KW × W)), FrzDk G G2 ws ws
  | [] => .nil
  | (k, w) :: r => .cons k w w r r (.same w) (FrzDk.refl r)
def sizeP (row : List (List Nat)) : Pr Int :=
  if row.getD 0 [] ≠ tROUND then .error (0, 0) else if row.length < 2 then .error (0, 1) else
  match figV (row.getD 1 []) 1 240 with
  | none => .error (0, 1)
  | some z => if 2 < row.length then .error (0, 2) else .ok z
def spanP (c : Cr) (z : Int) (taken : List (List Nat)) (at_ : Int) (row : List (List Nat)) : Pr Sn :=
  if row.getD 0 [] ≠ tFREE then .error (at_, 0) else if row.length < 2 ∨ row.getD 1 [] ∉ c.names ∨ (taken.countP fun x => decide (x = row.getD 1 [])) = 3 then .error (at_, 1) else
  if row.length < 3 then .error (at_, 2) else
  match figV (row.getD 2 []) 0 (z - 1) with
  | none => .error (at_, 2)
  | some b => if row.length < 4 then .error (at_, 3) else
    match figV (row.getD 3 []) 1 z with
    | none => .error (at_, 3)
    | some t => if 4 < row.length then .error (at_, 4) else .ok ⟨row.getD 1 [], b, t⟩
def spansTo (c : Cr) (z : Int) (rows : List (List (List Nat))) : Nat → Pr (List Sn)
  | 0 => .ok []
  | k + 1 => match spansTo c z rows k with
    | .error e => .error e
    | .ok rs => match spanP c z (rs.map (·.n)) (1 + (k : Int)) (rows.getD (1 + k) []) with
      | .error e => .error e
      | .ok s => .ok (rs ++ [s])
def planP (c : Cr) (s : List Nat) : Pr (Int × List Sn) := match sizeP ((rowsOf s).getD 0 []) with
  | .error e => .error e
  | .ok z => match spansTo c z (rowsOf s) ((rowsOf s).length - 1) with
    | .error e => .error e
    | .ok rs => .ok (z, rs)
theorem sizeP_ok {row : List (List Nat)} {z : Int} (h : sizeP row = .ok z) : 1 ≤ z ∧ z ≤ 240 := by
  unfold sizeP at h
  split at h
  · cases h
  · split at h
    · cases h
    · split at h
      · cases h
      · rename_i z' hz
        split at h
        · cases h
        · cases h; exact figV_in hz
theorem spanP_ok {c : Cr} {z : Int} {taken : List (List Nat)} {at_ : Int} {row : List (List Nat)} {s : Sn} (h : spanP c z taken at_ row = .ok s) : s.n ∈ c.names ∧ 0 ≤ s.b ∧ s.b < z ∧ 1 ≤ s.t ∧ s.t ≤ z := by
  unfold spanP at h
  split at h
  · cases h
  · split at h
    · cases h
    · rename_i h1
      rw [not_or, not_or, Decidable.not_not] at h1
      split at h
      · cases h
      · split at h
        · cases h
        · rename_i b hb
          split at h
          · cases h
          · split at h
            · cases h
            · rename_i t ht
              split at h
              · cases h
              · cases h
                have a := figV_in hb
                have b := figV_in ht
                exact ⟨h1.2.1, a.1, Int.lt_of_le_sub_one a.2, b.1, b.2⟩
theorem spansTo_ok {c : Cr} {z : Int} {rows : List (List (List Nat))} : ∀ {k : Nat} {rs : List Sn}, spansTo c z rows k = .ok rs → rs.length = k ∧ ∀ s ∈ rs, s.n ∈ c.names ∧ 0 ≤ s.b ∧ s.b < z ∧ 1 ≤ s.t ∧ s.t ≤ z
  | 0, rs, h => by cases h; exact ⟨rfl, fun s hs => by cases hs⟩
  | k + 1, rs, h => by
    unfold spansTo at h
    split at h
    · cases h
    · rename_i rs' h'
      obtain ⟨i1, i2⟩ := spansTo_ok h'
      split at h
      · cases h
      · rename_i s hs
        cases h
        refine ⟨by simp [i1], fun x hx => ?_⟩
        rcases List.mem_append.mp hx with hx | hx
        · exact i2 x hx
        · rw [List.mem_singleton.mp hx]; exact spanP_ok hs
theorem planP_ok {c : Cr} (ho : c.ok) {s : List Nat} (hl : s.length ≤ 20000) {z : Int} {rs : List Sn} (h : planP c s = .ok (z, rs)) : PnOk c z rs := by
  unfold planP at h
  split at h
  · cases h
  · rename_i z' hz
    split at h
    · cases h
    · rename_i rs' hr
      cases h
      have a := sizeP_ok hz
      obtain ⟨b1, b2⟩ := spansTo_ok hr
      have := rowsOf_len s
      exact ⟨ho, a.1, a.2, by omega, b2⟩
theorem count_strs {taken : List (List Nat)} {w : List Nat} : (taken.map W.str).countP (fun y => eqFl y (.str w)) = taken.countP fun x => decide (x = w) := by
  rw [List.countP_map]
  congr 1
def spText (s : Sn) : List Nat := tFREE ++ [32] ++ s.n ++ [32] ++ strI s.b ++ [32] ++ strI s.t
def plText (z : Int) (rs : List Sn) : List Nat := TL.joinL [10] ((tROUND ++ [32] ++ strI z) :: rs.map spText)

def sp_turned_plans : WSp := fun ws G Q E => ∃ m k n : Nat, ws = [.int m, .int k, .int n] ∧ m < 2 ^ 1000 ∧ k ≤ 1000 ∧ n ≤ 1000 ∧ Q (.int (turnN m k n : Nat)) G

theorem len_turned_plans : ∀ ws G Q E, sp_turned_plans ws G Q E → ws.length = (["bits", "many", "size"] : List Str).length := by
  intro ws G Q E h
  first
  | (obtain ⟨_, h, _⟩ := h; rw [h]; rfl)
  | (obtain ⟨_, _, h, _⟩ := h; rw [h]; rfl)
  | (obtain ⟨_, _, _, h, _⟩ := h; rw [h]; rfl)
  | (obtain ⟨_, _, _, _, h, _⟩ := h; rw [h]; rfl)
  | (obtain ⟨_, _, _, _, _, h, _⟩ := h; rw [h]; rfl)
  | (obtain ⟨_, _, _, _, _, _, h, _⟩ := h; rw [h]; rfl)
  | (obtain ⟨_, _, _, _, _, _, _, h, _⟩ := h; rw [h]; rfl)
  | (obtain ⟨_, _, _, _, _, _, _, _, h, _⟩ := h; rw [h]; rfl)
  | (obtain ⟨_, _, _, _, _, _, _, _, _, h, _⟩ := h; rw [h]; rfl)
  | (obtain ⟨_, _, _, _, _, _, _, _, _, _, h, _⟩ := h; rw [h]; rfl)
  | (obtain ⟨_, _, _, _, _, _, _, _, _, _, _, h, _⟩ := h; rw [h]; rfl)
  | (obtain ⟨_, _, _, _, _, _, _, _, _, _, _, _, h, _⟩ := h; rw [h]; rfl)
  | (obtain ⟨_, _, _, _, _, _, _, _, _, _, _, _, _, h, _⟩ := h; rw [h]; rfl)
  | (obtain ⟨_, _, _, _, _, _, _, _, _, _, _, _, _, _, h, _⟩ := h; rw [h]; rfl)
def bd_turned_plans_t2 : WTS := (wRet (wOp oAnd (wOp oOr (wVar 3) (wOp oShr (wVar 3) (wVar 2))) (wOp oSub (wOp oShl (wC (.int 1)) (wVar 2)) (wC (.int 1)))))
def bd_turned_plans : WTS := wSeq (wAsg (wOp oShl (wVar 0) (wVar 1)) (wN 3)) bd_turned_plans_t2
theorem w_turned_plans (ws : List W) (G : WHp) (Q : WQ) (Ex : Xc → WHp → Prop) (h : sp_turned_plans ws G Q Ex) : bd_turned_plans (endsW Q) (wStart ["bits", "many", "size", "wide"] ws) G (fun c _ G' => Ex c G') := by
  obtain ⟨m, k, n, rfl, hm, hk, hn, q⟩ := h
  have hm2 : m < 2 ^ 1000000 := Nat.lt_of_lt_of_le hm (Nat.pow_le_pow_right (by decide) (by decide))
  simp_arith! only [bd_turned_plans]
  refine ⟨shl_ok hm2 (by omega), ?_⟩
  rw [shl_nat]
  simp_arith! only [bd_turned_plans_t2]
  refine ⟨by omega, shl1_ok (by omega), ?_⟩
  rw [shr_nat, bitOr_nat, shl1_nat, Nat.one_shiftLeft, show ((2 ^ n : Nat) : Int) - 1 = ((2 ^ n - 1 : Nat) : Int) by have := Nat.two_pow_pos n; omega, bitAnd_nat]
  exact q

def sp_Plan_init : WSp := fun ws G Q E => ∃ (p : Addr) (c : Cr) (z : Int) (rs : List Sn) (x : W), ws = [.ref p, crW c, .int z, x] ∧ G p = some (.obj 14 []) ∧ PnOk c z rs ∧ (x = .il (rs.map spW) ∨ ∃ a, x = .ref a ∧ G a = some (.lst (rs.map spW))) ∧ ∀ d, d ≠ p → G d = none → Q .non (updG (updG G d (.dct (c.names.map fun n => ((.inr n : KW), W.int (bitsN z rs n : Nat))))) p (.obj 14 [(14, crW c), (15, .int z), (16, .il (rs.map spW)), (17, .ref d)]))

theorem len_Plan_init : ∀ ws G Q E, sp_Plan_init ws G Q E → ws.length = (["self", "crossing", "size", "rows"] : List Str).length := by
  intro ws G Q E h
  first
  | (obtain ⟨_, h, _⟩ := h; rw [h]; rfl)
  | (obtain ⟨_, _, h, _⟩ := h; rw [h]; rfl)
  | (obtain ⟨_, _, _, h, _⟩ := h; rw [h]; rfl)
  | (obtain ⟨_, _, _, _, h, _⟩ := h; rw [h]; rfl)
  | (obtain ⟨_, _, _, _, _, h, _⟩ := h; rw [h]; rfl)
  | (obtain ⟨_, _, _, _, _, _, h, _⟩ := h; rw [h]; rfl)
  | (obtain ⟨_, _, _, _, _, _, _, h, _⟩ := h; rw [h]; rfl)
  | (obtain ⟨_, _, _, _, _, _, _, _, h, _⟩ := h; rw [h]; rfl)
  | (obtain ⟨_, _, _, _, _, _, _, _, _, h, _⟩ := h; rw [h]; rfl)
  | (obtain ⟨_, _, _, _, _, _, _, _, _, _, h, _⟩ := h; rw [h]; rfl)
  | (obtain ⟨_, _, _, _, _, _, _, _, _, _, _, h, _⟩ := h; rw [h]; rfl)
  | (obtain ⟨_, _, _, _, _, _, _, _, _, _, _, _, h, _⟩ := h; rw [h]; rfl)
  | (obtain ⟨_, _, _, _, _, _, _, _, _, _, _, _, _, h, _⟩ := h; rw [h]; rfl)
  | (obtain ⟨_, _, _, _, _, _, _, _, _, _, _, _, _, _, h, _⟩ := h; rw [h]; rfl)
def lc_Plan_init_1_t : WTT := wYes
def lc_Plan_init_1_e : WTE := (wTup (wCons (wOp oIx (wVar 5) (wC (.int 0))) (wCons (wOp oIx (wVar 5) (wC (.int 1))) (wCons (wOp oIx (wVar 5) (wC (.int 2))) wNil))))
def bd_Plan_init_2 : WTS := (wDput (wFld 17 (wVar 0)) (wVar 4) (wC (.int 0)))
def bd_Plan_init_3 : WTS := (wDput (wFld 17 (wVar 0)) (wOp oIx (wVar 5) (wC (.int 0))) (wOp oOr (wOp oDget (wFld 17 (wVar 0)) (wOp oIx (wVar 5) (wC (.int 0)))) (wCall sp_turned_plans (wCons (wOp oSub (wOp oShl (wC (.int 1)) (wOp oIx (wVar 5) (wC (.int 2)))) (wC (.int 1))) (wCons (wOp oIx (wVar 5) (wC (.int 1))) (wCons (wVar 2) wNil))))))
def bd_Plan_init_t6 : WTS := (wFor (wIter (wFld 16 (wVar 0))) (wN 5) bd_Plan_init_3)
def bd_Plan_init_t5 : WTS := wSeq (wFor (wIter (wView (wMeth 52 mt_names [13] (wVar 1) wNil))) (wN 4) bd_Plan_init_2) bd_Plan_init_t6
def bd_Plan_init_t4 : WTS := wSeq (wFldSet 17 (wVar 0) wDnew) bd_Plan_init_t5
def bd_Plan_init_t3 : WTS := wSeq (wFldSet 16 (wVar 0) (wLcI (wIter (wVar 3)) 5 lc_Plan_init_1_t lc_Plan_init_1_e)) bd_Plan_init_t4
def bd_Plan_init_t2 : WTS := wSeq (wFldSet 15 (wVar 0) (wVar 2)) bd_Plan_init_t3
def bd_Plan_init : WTS := wSeq (wFldSet 14 (wVar 0) (wVar 1)) bd_Plan_init_t2
theorem lpm_bd_Plan_init_2 {ok : WHp → Prop} {α : Type} {f : α → W} {xs : List α} {D : WEnds} {E : WXK} {G : WHp} {s0 s1 s2 s3 s5 : Option W} {o4 : Option W} (Inv : Nat → WHp → Prop) (h0 : Inv 0  G) (hs : ∀ (i : Nat) (x : α) (o4 : Option W) (G' : WHp), xs[i]? = some x → Inv i  G' → bd_Plan_init_2 { nx := fun σ' G2 => ∃ (o4 : Option W), σ' = [s0, s1, s2, s3, o4, s5] ∧ Inv (i + 1)  G2, rt := D.rt, bk := D.nx, ct := fun σ' G2 => ∃ (o4 : Option W), σ' = [s0, s1, s2, s3, o4, s5] ∧ Inv (i + 1)  G2 } [s0, s1, s2, s3, some (f x), s5] G' E) (hd : ∀ (o4 : Option W) (G' : WHp), Inv (xs.length)  G' → D.nx [s0, s1, s2, s3, o4, s5] G') (hk : ∀ (i : Nat)  (G' : WHp), i ≤ xs.length → Inv i  G' → ok G' := by intros; trivial) : LoopOk ((wN 4)) bd_Plan_init_2 D [s0, s1, s2, s3, o4, s5] E (xs.map f) ok G := by
  refine ⟨fun i => (fun σ' G2 => ∃ (o4 : Option W), σ' = [s0, s1, s2, s3, o4, s5] ∧ Inv i  G2), ⟨_, rfl, h0⟩, ?_, ?_, ?_⟩
  · rintro i σ' G' hi ⟨o4, rfl, h⟩; exact hk i  G' (by rw [List.length_map] at hi; exact hi) h
  · rintro i w σ' G' hw ⟨o4, rfl, h⟩
    obtain ⟨x, hx, rfl⟩ := map_get hw
    exact hs i _ o4 G' (by assumption) h
  · rintro σ' G' ⟨o4, rfl, h⟩
    rw [List.length_map] at h
    exact hd o4 G' h
theorem lpm_bd_Plan_init_3 {ok : WHp → Prop} {α : Type} {f : α → W} {xs : List α} {D : WEnds} {E : WXK} {G : WHp} {s0 s1 s2 s3 s4 : Option W} {o5 : Option W} (Inv : Nat → WHp → Prop) (h0 : Inv 0  G) (hs : ∀ (i : Nat) (x : α) (o5 : Option W) (G' : WHp), xs[i]? = some x → Inv i  G' → bd_Plan_init_3 { nx := fun σ' G2 => ∃ (o5 : Option W), σ' = [s0, s1, s2, s3, s4, o5] ∧ Inv (i + 1)  G2, rt := D.rt, bk := D.nx, ct := fun σ' G2 => ∃ (o5 : Option W), σ' = [s0, s1, s2, s3, s4, o5] ∧ Inv (i + 1)  G2 } [s0, s1, s2, s3, s4, some (f x)] G' E) (hd : ∀ (o5 : Option W) (G' : WHp), Inv (xs.length)  G' → D.nx [s0, s1, s2, s3, s4, o5] G') (hk : ∀ (i : Nat)  (G' : WHp), i ≤ xs.length → Inv i  G' → ok G' := by intros; trivial) : LoopOk ((wN 5)) bd_Plan_init_3 D [s0, s1, s2, s3, s4, o5] E (xs.map f) ok G := by
  refine ⟨fun i => (fun σ' G2 => ∃ (o5 : Option W), σ' = [s0, s1, s2, s3, s4, o5] ∧ Inv i  G2), ⟨_, rfl, h0⟩, ?_, ?_, ?_⟩
  · rintro i σ' G' hi ⟨o5, rfl, h⟩; exact hk i  G' (by rw [List.length_map] at hi; exact hi) h
  · rintro i w σ' G' hw ⟨o5, rfl, h⟩
    obtain ⟨x, hx, rfl⟩ := map_get hw
    exact hs i _ o5 G' (by assumption) h
  · rintro σ' G' ⟨o5, rfl, h⟩
    rw [List.length_map] at h
    exact hd o5 G' h
theorem w_Plan_init (ws : List W) (G : WHp) (Q : WQ) (Ex : Xc → WHp → Prop) (h : sp_Plan_init ws G Q Ex) : bd_Plan_init (endsW Q) (wStart ["self", "crossing", "size", "rows", "name", "row"] ws) G (fun c _ G' => Ex c G') := by
  obtain ⟨p, c, z, rs, x, rfl, hp, ok, hx, q⟩ := h
  have ho := ok.cr
  have hrl := ok.len
  simp_arith! only [bd_Plan_init, hp]
  simp_arith! only [bd_Plan_init_t2]
  simp_arith! only [bd_Plan_init_t3]
  have rows : ∀ (G0 : WHp) (R : W → WHp → Prop), R (.il (rs.map spW)) G0 → (∀ xs ok, xs = rs.map spW → (∀ G', Ext G0 G' → ok G') → LcOk finI 5 lc_Plan_init_1_t lc_Plan_init_1_e [some (W.ref p), some (crW c), some (W.int z), some x, none, none] R xs ok G0) := by
    rintro G0 R hR xs okk rfl hok
    refine lcI_mm (g := spW) spW (by omega) ?_ hR hok
    intro j s G' Q' _ _ q'
    simp_arith! only [lc_Plan_init_1_e, spW]
    exact q'
  have main : bd_Plan_init_t4 (endsW Q) [some (W.ref p), some (crW c), some (W.int z), some x, none, none] (updG G p (.obj 14 [(14, crW c), (15, .int z), (16, .il (rs.map spW))])) fun c x G' => Ex c G' := by
    clear rows
    simp_arith! only [bd_Plan_init_t4]
    intro d hd
    have hdp : d ≠ p := fun y => by rw [y, updG_same] at hd; cases hd
    have hGd : G d = none := by rw [updG_ne hdp] at hd; exact hd
    simp_arith! only [updG_ne (Ne.symm hdp), updG_same]
    have e0 : updG (updG (updG G p (.obj 14 [(14, crW c), (15, .int z), (16, .il (rs.map spW))])) d (.dct [])) p (.obj 14 [(14, crW c), (15, .int z), (16, .il (rs.map spW)), (17, .ref d)]) = updG (updG G d (.dct [])) p (.obj 14 [(14, crW c), (15, .int z), (16, .il (rs.map spW)), (17, .ref d)]) := by
      rw [updG_comm (Ne.symm hdp), updG_updG]
    rw [e0]
    simp_arith! only [bd_Plan_init_t5, crW, crF]
    refine names_v (c := c) ho ?_
    have hob : ∀ o, updG (updG G d o) p (.obj 14 [(14, crW c), (15, .int z), (16, .il (rs.map spW)), (17, .ref d)]) p = some (.obj 14 [(14, crW c), (15, .int z), (16, .il (rs.map spW)), (17, .ref d)]) := fun o => updG_same
    have hdo : ∀ o, updG (updG G d o) p (.obj 14 [(14, crW c), (15, .int z), (16, .il (rs.map spW)), (17, .ref d)]) d = some o := fun o => by rw [updG_ne hdp, updG_same]
    have hset : ∀ o o', updG (updG (updG G d o) p (.obj 14 [(14, crW c), (15, .int z), (16, .il (rs.map spW)), (17, .ref d)])) d o' = updG (updG G d o') p (.obj 14 [(14, crW c), (15, .int z), (16, .il (rs.map spW)), (17, .ref d)]) := fun o o' => by
      rw [updG_comm (Ne.symm hdp), updG_updG]
    simp_arith! only [true_and]
    refine lpm_bd_Plan_init_2 (fun i G' => G' = updG (updG G d (.dct (nmD (c.names.take i) fun _ => .int 0))) p (.obj 14 [(14, crW c), (15, .int z), (16, .il (rs.map spW)), (17, .ref d)])) rfl ?_ ?_
    · rintro i n o4 G' hn rfl
      have hnl : (c.names.take i).length ≤ 12 := by
        have := ho.len
        have e : c.names.length = c.ways.length := by unfold Cr.names; simp
        rw [List.length_take]; omega
      have hno : n ∉ c.names.take i := fun y => by
        obtain ⟨j, hj⟩ := List.getElem?_of_mem y
        rw [List.getElem?_take] at hj
        split at hj
        · have a1 := (List.getElem?_eq_some_iff.mp hn)
          have a2 := (List.getElem?_eq_some_iff.mp hj)
          exact (List.pairwise_iff_getElem.mp ho.nd) j i a2.1 a1.1 (by omega) (by rw [a2.2, a1.2])
        · cases hj
      simp_arith! only [bd_Plan_init_2, hob, hdo, hset, nmD_len]
      refine ⟨by omega, ?_⟩
      rw [nmD_new hno rfl, List.take_add_one, hn]; rfl
    · rintro o4 G' rfl
      rw [List.take_of_length_le (Nat.le_of_eq rfl)]
      simp_arith! only [bd_Plan_init_t6, hob]
      refine lpm_bd_Plan_init_3 (fun i G' => G' = updG (updG G d (.dct (nmD c.names fun n => .int (bitsN z (rs.take i) n : Nat)))) p (.obj 14 [(14, crW c), (15, .int z), (16, .il (rs.map spW)), (17, .ref d)])) ?_ ?_ ?_
      · have : ∀ n, bitsN z (rs.take 0) n = 0 := fun n => by
          unfold bitsN
          exact mask_zero
        simp only [this]; rfl
      · rintro i s o5 G' hs rfl
        obtain ⟨r1, r2, r3, r4, r5⟩ := ok.row s (List.mem_of_getElem? hs)
        have hz0 := ok.z0
        have hz1 := ok.z1
        simp_arith! only [bd_Plan_init_3, spW, hob, hdo, hset, oDget, nmD_val r1, nmD_len]
        refine ⟨shl_ok (a := 1) (k := s.t.toNat) (Nat.lt_of_lt_of_le (show 1 < 2 ^ 1 by decide) (Nat.pow_le_pow_right (by decide) (by decide))) (by omega) |> fun y => by rw [Int.toNat_of_nonneg (by omega)] at y; exact y, 2 ^ s.t.toNat - 1, s.b.toNat, z.toNat, ?_, ?_, by omega, by omega, ?_⟩
        · have := Nat.two_pow_pos s.t.toNat
          rw [Int.toNat_of_nonneg r2, Int.toNat_of_nonneg (by omega : 0 ≤ z)]
          congr 2
          rw [Int.one_mul]
          have e : (2 : Int) ^ s.t.toNat = ((2 ^ s.t.toNat : Nat) : Int) := by simp
          rw [e]; omega
        · refine Nat.lt_of_lt_of_le (show 2 ^ s.t.toNat - 1 < 2 ^ s.t.toNat from by have := Nat.two_pow_pos s.t.toNat; omega) (Nat.pow_le_pow_right (by decide) (by omega))
        · simp_arith! only [bitOr_nat, hob, hdo, hset, nmD_len]
          have := ho.len
          have e : c.names.length = c.ways.length := by unfold Cr.names; simp
          refine ⟨by omega, ?_⟩
          rw [nmD_upd r1, List.take_add_one, hs, Option.toList_some]
          congr 3
          refine nmD_congr fun n _ => ?_
          rw [bits_snoc r2 r3 r5 r4]
          split <;> rfl
      · rintro o5 G' rfl
        rw [List.take_of_length_le (Nat.le_of_eq rfl)]
        exact q d hdp hGd
  rcases hx with rfl | ⟨a, rfl, ha⟩
  · rw [iterQ_il]
    refine rows _ _ ?_ _ _ rfl fun _ _ => trivial
    simp_arith! only [updG_same]
    exact main
  · have hap : a ≠ p := fun y => by rw [y, hp] at ha; cases ha
    rw [iterQ_ref]
    have ha2 : updG G p (.obj 14 [(14, crW c), (15, .int z)]) a = some (.lst (rs.map spW)) := by rw [updG_ne hap]; exact ha
    refine ⟨_, ha2, rows _ _ ?_ _ _ rfl fun _ e => e.at ha2⟩
    simp_arith! only [updG_same]
    exact main

def sp_Plan_bits_of : WSp := fun ws G Q E => ∃ (c : Cr) (z : Int) (rs : List Sn) (n : List Nat), ws = [pnW c z rs, .str n] ∧ PnOk c z rs ∧ (n ∈ c.names → Q (.int (bitsN z rs n : Nat)) G) ∧ (n ∉ c.names → exS E (xNoWay n) G)

theorem len_Plan_bits_of : ∀ ws G Q E, sp_Plan_bits_of ws G Q E → ws.length = (["self", "name"] : List Str).length := by
  intro ws G Q E h
  first
  | (obtain ⟨_, h, _⟩ := h; rw [h]; rfl)
  | (obtain ⟨_, _, h, _⟩ := h; rw [h]; rfl)
  | (obtain ⟨_, _, _, h, _⟩ := h; rw [h]; rfl)
  | (obtain ⟨_, _, _, _, h, _⟩ := h; rw [h]; rfl)
  | (obtain ⟨_, _, _, _, _, h, _⟩ := h; rw [h]; rfl)
  | (obtain ⟨_, _, _, _, _, _, h, _⟩ := h; rw [h]; rfl)
  | (obtain ⟨_, _, _, _, _, _, _, h, _⟩ := h; rw [h]; rfl)
  | (obtain ⟨_, _, _, _, _, _, _, _, h, _⟩ := h; rw [h]; rfl)
  | (obtain ⟨_, _, _, _, _, _, _, _, _, h, _⟩ := h; rw [h]; rfl)
  | (obtain ⟨_, _, _, _, _, _, _, _, _, _, h, _⟩ := h; rw [h]; rfl)
  | (obtain ⟨_, _, _, _, _, _, _, _, _, _, _, h, _⟩ := h; rw [h]; rfl)
  | (obtain ⟨_, _, _, _, _, _, _, _, _, _, _, _, h, _⟩ := h; rw [h]; rfl)
  | (obtain ⟨_, _, _, _, _, _, _, _, _, _, _, _, _, h, _⟩ := h; rw [h]; rfl)
  | (obtain ⟨_, _, _, _, _, _, _, _, _, _, _, _, _, _, h, _⟩ := h; rw [h]; rfl)
def mt_bits_of_14 : WMt := fun c => sp_Plan_bits_of
def bd_Plan_bits_of : WTS := (wRet (wOp oDget (wFld 17 (wVar 0)) (wFld 0 (wMeth 54 mt_called [13] (wFld 14 (wVar 0)) (wCons (wVar 1) wNil)))))
theorem w_Plan_bits_of (ws : List W) (G : WHp) (Q : WQ) (Ex : Xc → WHp → Prop) (h : sp_Plan_bits_of ws G Q Ex) : bd_Plan_bits_of (endsW Q) (wStart ["self", "name"] ws) G (fun c _ G' => Ex c G') := by
  obtain ⟨c, z, rs, n, rfl, ok, q, e⟩ := h
  have ho := ok.cr
  simp_arith! only [bd_Plan_bits_of, pnW, pnF, crW, crF]
  refine ⟨c, n, rfl, ho, fun y hy => ?_, fun hn => e (fun h => by rw [gw_get h] at hn; cases hn)⟩
  obtain ⟨hm, hn⟩ := get_mem hy
  have hnn : n ∈ c.names := by rw [← hn]; exact List.mem_map.mpr ⟨y, hm, rfl⟩
  simp_arith! only [wyW, wyF, hn, oDget, bitsD_val hnn]
  exact q hnn

def sp_Plan_told_rows : WSp := fun ws G Q E => ∃ (c : Cr) (z : Int) (rs : List Sn), ws = [pnW c z rs] ∧ Q (.il (rs.map spW)) G

theorem len_Plan_told_rows : ∀ ws G Q E, sp_Plan_told_rows ws G Q E → ws.length = (["self"] : List Str).length := by
  intro ws G Q E h
  first
  | (obtain ⟨_, h, _⟩ := h; rw [h]; rfl)
  | (obtain ⟨_, _, h, _⟩ := h; rw [h]; rfl)
  | (obtain ⟨_, _, _, h, _⟩ := h; rw [h]; rfl)
  | (obtain ⟨_, _, _, _, h, _⟩ := h; rw [h]; rfl)
  | (obtain ⟨_, _, _, _, _, h, _⟩ := h; rw [h]; rfl)
  | (obtain ⟨_, _, _, _, _, _, h, _⟩ := h; rw [h]; rfl)
  | (obtain ⟨_, _, _, _, _, _, _, h, _⟩ := h; rw [h]; rfl)
  | (obtain ⟨_, _, _, _, _, _, _, _, h, _⟩ := h; rw [h]; rfl)
  | (obtain ⟨_, _, _, _, _, _, _, _, _, h, _⟩ := h; rw [h]; rfl)
  | (obtain ⟨_, _, _, _, _, _, _, _, _, _, h, _⟩ := h; rw [h]; rfl)
  | (obtain ⟨_, _, _, _, _, _, _, _, _, _, _, h, _⟩ := h; rw [h]; rfl)
  | (obtain ⟨_, _, _, _, _, _, _, _, _, _, _, _, h, _⟩ := h; rw [h]; rfl)
  | (obtain ⟨_, _, _, _, _, _, _, _, _, _, _, _, _, h, _⟩ := h; rw [h]; rfl)
  | (obtain ⟨_, _, _, _, _, _, _, _, _, _, _, _, _, _, h, _⟩ := h; rw [h]; rfl)
def mt_told_rows_14 : WMt := fun c => sp_Plan_told_rows
def bd_Plan_told_rows : WTS := (wRet (wCB oListI (wCons (wFld 16 (wVar 0)) wNil)))
theorem w_Plan_told_rows (ws : List W) (G : WHp) (Q : WQ) (Ex : Xc → WHp → Prop) (h : sp_Plan_told_rows ws G Q Ex) : bd_Plan_told_rows (endsW Q) (wStart ["self"] ws) G (fun c _ G' => Ex c G') := by
  obtain ⟨c, z, rs, rfl, q⟩ := h
  simp_arith! only [bd_Plan_told_rows, pnW, pnF]
  exact q
theorem bits_i {c : Cr} {z : Int} {rs : List Sn} {n : List Nat} {G : WHp} {Q : WQ} {E : Xc → WHp → Prop} (ok : PnOk c z rs) (h : n ∈ c.names) (q : Q (.int (bitsN z rs n : Nat)) G) : sp_Plan_bits_of [pnW c z rs, .str n] G Q E := ⟨c, z, rs, n, rfl, ok, fun _ => q, fun y => absurd h y⟩
theorem roomTo_hit {z : Int} {rs : List Sn} {k i : Nat} (h : i ≠ k ∧ (spAt rs i).n = (spAt rs k).n) : roomTo z rs k (i + 1) = if ((spAt rs i).b - (spAt rs k).b) % z < roomTo z rs k i then ((spAt rs i).b - (spAt rs k).b) % z else roomTo z rs k i := if_pos h
theorem roomTo_miss {z : Int} {rs : List Sn} {k i : Nat} (h : ¬ (i ≠ k ∧ (spAt rs i).n = (spAt rs k).n)) : roomTo z rs k (i + 1) = roomTo z rs k i := if_neg h
theorem min_tri {a b : Int} : (if a > b then b else a) = if b < a then b else a := rfl

def sp_room : WSp := fun ws G Q E => ∃ (c : Cr) (z : Int) (rs : List Sn) (k : Nat), ws = [pnW c z rs, .int (k : Nat)] ∧ PnOk c z rs ∧ k < rs.length ∧ Q (.int (roomP z rs k)) G

theorem len_room : ∀ ws G Q E, sp_room ws G Q E → ws.length = (["plan", "at"] : List Str).length := by
  intro ws G Q E h
  first
  | (obtain ⟨_, h, _⟩ := h; rw [h]; rfl)
  | (obtain ⟨_, _, h, _⟩ := h; rw [h]; rfl)
  | (obtain ⟨_, _, _, h, _⟩ := h; rw [h]; rfl)
  | (obtain ⟨_, _, _, _, h, _⟩ := h; rw [h]; rfl)
  | (obtain ⟨_, _, _, _, _, h, _⟩ := h; rw [h]; rfl)
  | (obtain ⟨_, _, _, _, _, _, h, _⟩ := h; rw [h]; rfl)
  | (obtain ⟨_, _, _, _, _, _, _, h, _⟩ := h; rw [h]; rfl)
  | (obtain ⟨_, _, _, _, _, _, _, _, h, _⟩ := h; rw [h]; rfl)
  | (obtain ⟨_, _, _, _, _, _, _, _, _, h, _⟩ := h; rw [h]; rfl)
  | (obtain ⟨_, _, _, _, _, _, _, _, _, _, h, _⟩ := h; rw [h]; rfl)
  | (obtain ⟨_, _, _, _, _, _, _, _, _, _, _, h, _⟩ := h; rw [h]; rfl)
  | (obtain ⟨_, _, _, _, _, _, _, _, _, _, _, _, h, _⟩ := h; rw [h]; rfl)
  | (obtain ⟨_, _, _, _, _, _, _, _, _, _, _, _, _, h, _⟩ := h; rw [h]; rfl)
  | (obtain ⟨_, _, _, _, _, _, _, _, _, _, _, _, _, _, h, _⟩ := h; rw [h]; rfl)
def bd_room_2 : WTS := (wAsg (wCB oMin2 (wCons (wVar 3) (wCons (wOp oMod (wOp oSub (wOp oIx (wVar 5) (wC (.int 1))) (wOp oIx (wOp oIx (wVar 2) (wVar 1)) (wC (.int 1)))) (wFld 15 (wVar 0))) wNil))) (wN 3))
def bd_room_1 : WTS := (wIfS (wAnd (wTest (wOp oNe (wVar 4) (wVar 1))) (wTest (wOp oEq (wOp oIx (wVar 5) (wC (.int 0))) (wOp oIx (wOp oIx (wVar 2) (wVar 1)) (wC (.int 0)))))) bd_room_2 wNext)
def bd_room_t4 : WTS := (wRet (wVar 3))
def bd_room_t3 : WTS := wSeq (wFor (wEnum (wCons (wVar 2) wNil)) (wGTup 2 (wGCons (wN 4) (wGCons (wN 5) wGNil))) bd_room_1) bd_room_t4
def bd_room_t2 : WTS := wSeq (wAsg (wFld 15 (wVar 0)) (wN 3)) bd_room_t3
def bd_room : WTS := wSeq (wAsg (wMeth 56 mt_told_rows_14 [14] (wVar 0) wNil) (wN 2)) bd_room_t2
theorem lpm_bd_room_1 {ok : WHp → Prop} {α : Type} {f : α → W} {xs : List α} {D : WEnds} {E : WXK} {G : WHp} {s0 s1 s2 : Option W} {a3 : W} {o4 o5 : Option W} (Inv : Nat → W → WHp → Prop) (h0 : Inv 0 a3 G) (hs : ∀ (i : Nat) (x : α) (a3 : W) (o4 o5 : Option W) (G' : WHp), xs[i]? = some x → Inv i a3 G' → bd_room_1 { nx := fun σ' G2 => ∃ (a3 : W) (o4 o5 : Option W), σ' = [s0, s1, s2, some a3, o4, o5] ∧ Inv (i + 1) a3 G2, rt := D.rt, bk := D.nx, ct := fun σ' G2 => ∃ (a3 : W) (o4 o5 : Option W), σ' = [s0, s1, s2, some a3, o4, o5] ∧ Inv (i + 1) a3 G2 } [s0, s1, s2, some a3, some (.int (i : Nat)), some (f x)] G' E) (hd : ∀ (a3 : W) (o4 o5 : Option W) (G' : WHp), Inv (xs.length) a3 G' → D.nx [s0, s1, s2, some a3, o4, o5] G') (hk : ∀ (i : Nat) (a3 : W) (G' : WHp), i ≤ xs.length → Inv i a3 G' → ok G' := by intros; trivial) : LoopOk ((wGTup 2 (wGCons (wN 4) (wGCons (wN 5) wGNil)))) bd_room_1 D [s0, s1, s2, some a3, o4, o5] E (enumW 0 (xs.map f)) ok G := by
  refine ⟨fun i => (fun σ' G2 => ∃ (a3 : W) (o4 o5 : Option W), σ' = [s0, s1, s2, some a3, o4, o5] ∧ Inv i a3 G2), ⟨_, _, _, rfl, h0⟩, ?_, ?_, ?_⟩
  · rintro i σ' G' hi ⟨a3, o4, o5, rfl, h⟩; exact hk i a3 G' (by rw [enumW_len, List.length_map] at hi; exact hi) h
  · rintro i w σ' G' hw ⟨a3, o4, o5, rfl, h⟩
    obtain ⟨v, hv, rfl⟩ := enumW_get hw; rw [Nat.zero_add]; obtain ⟨x, hx, rfl⟩ := map_get hv
    rw [gtup2]; exact hs i _ a3 o4 o5 G' (by assumption) h
  · rintro σ' G' ⟨a3, o4, o5, rfl, h⟩
    rw [enumW_len, List.length_map] at h
    exact hd a3 o4 o5 G' h
theorem w_room (ws : List W) (G : WHp) (Q : WQ) (Ex : Xc → WHp → Prop) (h : sp_room ws G Q Ex) : bd_room (endsW Q) (wStart ["plan", "at", "rows", "least", "k", "row"] ws) G (fun c _ G' => Ex c G') := by
  obtain ⟨c, z, rs, k, rfl, ok, hk, q⟩ := h
  have hz0 := ok.z0
  have hz1 := ok.z1
  have hrl := ok.len
  have ek : atI (rs.map spW) (k : Int) = some (spW (spAt rs k)) := atI_n (by rw [List.getElem?_map, sp_at hk]; rfl)
  simp_arith! only [bd_room, pnW, pnF]
  refine ⟨c, z, rs, rfl, ?_⟩
  simp_arith! only [bd_room_t2, pnW, pnF]
  simp_arith! only [bd_room_t3]
  refine lpm_bd_room_1 (fun i a3 G' => G' = G ∧ a3 = .int (roomTo z rs k i)) ⟨rfl, rfl⟩ ?_ ?_
  · rintro i s a3 o4 o5 G' hs ⟨rfl, rfl⟩
    have es := sp_is hs
    subst es
    simp_arith! only [bd_room_1, spW, ek]
    by_cases h1 : i = k
    · subst h1
      rw [if_neg (by simp)]
      rw [roomTo_miss (fun y => y.1 rfl)]
    · rw [if_pos (by simpa using fun y => h1 (by omega))]
      split
      · rename_i h2
        simp_arith! only [bd_room_2, spW, ek]
        refine ⟨by omega, ?_⟩
        rw [roomTo_hit ⟨h1, h2⟩]
      · rename_i h2
        rw [roomTo_miss (fun y => h2 y.2)]
  · rintro a3 o4 o5 G' ⟨rfl, rfl⟩
    simp_arith! only [bd_room_t4]
    exact q

def sp_look_at_spans : WSp := fun ws G Q E => ∃ (c : Cr) (z : Int) (rs : List Sn), ws = [pnW c z rs] ∧ PnOk c z rs ∧ (∀ n, neverP c rs = some n → exS E (xNever n) G) ∧ (neverP c rs = none → ∀ k, shortP c z rs = some k → exS E (xShort (spAt rs k).n (spAt rs k).b) G) ∧ (neverP c rs = none → shortP c z rs = none → Q .non G)

theorem len_look_at_spans : ∀ ws G Q E, sp_look_at_spans ws G Q E → ws.length = (["plan"] : List Str).length := by
  intro ws G Q E h
  first
  | (obtain ⟨_, h, _⟩ := h; rw [h]; rfl)
  | (obtain ⟨_, _, h, _⟩ := h; rw [h]; rfl)
  | (obtain ⟨_, _, _, h, _⟩ := h; rw [h]; rfl)
  | (obtain ⟨_, _, _, _, h, _⟩ := h; rw [h]; rfl)
  | (obtain ⟨_, _, _, _, _, h, _⟩ := h; rw [h]; rfl)
  | (obtain ⟨_, _, _, _, _, _, h, _⟩ := h; rw [h]; rfl)
  | (obtain ⟨_, _, _, _, _, _, _, h, _⟩ := h; rw [h]; rfl)
  | (obtain ⟨_, _, _, _, _, _, _, _, h, _⟩ := h; rw [h]; rfl)
  | (obtain ⟨_, _, _, _, _, _, _, _, _, h, _⟩ := h; rw [h]; rfl)
  | (obtain ⟨_, _, _, _, _, _, _, _, _, _, h, _⟩ := h; rw [h]; rfl)
  | (obtain ⟨_, _, _, _, _, _, _, _, _, _, _, h, _⟩ := h; rw [h]; rfl)
  | (obtain ⟨_, _, _, _, _, _, _, _, _, _, _, _, h, _⟩ := h; rw [h]; rfl)
  | (obtain ⟨_, _, _, _, _, _, _, _, _, _, _, _, _, h, _⟩ := h; rw [h]; rfl)
  | (obtain ⟨_, _, _, _, _, _, _, _, _, _, _, _, _, _, h, _⟩ := h; rw [h]; rfl)
def bd_look_at_spans_2 : WTS := (wRaise 3 [11] (wCons (wVar 2) wNil))
def bd_look_at_spans_1 : WTS := (wIfS (wTest (wOp oEq (wMeth 55 mt_bits_of_14 [14] (wVar 0) (wCons (wVar 2) wNil)) (wC (.int 0)))) bd_look_at_spans_2 wNext)
def bd_look_at_spans_4 : WTS := (wRaise 4 [11, 12] (wCons (wOp oIx (wVar 4) (wC (.int 0))) (wCons (wOp oIx (wVar 4) (wC (.int 1))) wNil)))
def bd_look_at_spans_3_t2 : WTS := (wIfS (wOr (wTest (wOp oLt (wOp oIx (wVar 4) (wC (.int 2))) (wFld 5 (wVar 5)))) (wTest (wOp oLt (wCall sp_room (wCons (wVar 0) (wCons (wVar 3) wNil))) (wOp oAdd (wOp oAdd (wOp oIx (wVar 4) (wC (.int 2))) (wMeth 49 mt_fade [10, 11, 12] (wVar 5) wNil)) (wMeth 48 mt_ready [10, 11, 12] (wVar 5) wNil))))) bd_look_at_spans_4 wNext)
def bd_look_at_spans_3 : WTS := wSeq (wAsg (wMeth 54 mt_called [13] (wFld 14 (wVar 0)) (wCons (wOp oIx (wVar 4) (wC (.int 0))) wNil)) (wN 5)) bd_look_at_spans_3_t2
def bd_look_at_spans_t3 : WTS := (wFor (wEnum (wCons (wVar 1) wNil)) (wGTup 2 (wGCons (wN 3) (wGCons (wN 4) wGNil))) bd_look_at_spans_3)
def bd_look_at_spans_t2 : WTS := wSeq (wFor (wIter (wView (wMeth 52 mt_names [13] (wFld 14 (wVar 0)) wNil))) (wN 2) bd_look_at_spans_1) bd_look_at_spans_t3
def bd_look_at_spans : WTS := wSeq (wAsg (wMeth 56 mt_told_rows_14 [14] (wVar 0) wNil) (wN 1)) bd_look_at_spans_t2
theorem lpm_bd_look_at_spans_1 {ok : WHp → Prop} {α : Type} {f : α → W} {xs : List α} {D : WEnds} {E : WXK} {G : WHp} {s0 s1 s3 s4 s5 : Option W} {o2 : Option W} (Inv : Nat → WHp → Prop) (h0 : Inv 0  G) (hs : ∀ (i : Nat) (x : α) (o2 : Option W) (G' : WHp), xs[i]? = some x → Inv i  G' → bd_look_at_spans_1 { nx := fun σ' G2 => ∃ (o2 : Option W), σ' = [s0, s1, o2, s3, s4, s5] ∧ Inv (i + 1)  G2, rt := D.rt, bk := D.nx, ct := fun σ' G2 => ∃ (o2 : Option W), σ' = [s0, s1, o2, s3, s4, s5] ∧ Inv (i + 1)  G2 } [s0, s1, some (f x), s3, s4, s5] G' E) (hd : ∀ (o2 : Option W) (G' : WHp), Inv (xs.length)  G' → D.nx [s0, s1, o2, s3, s4, s5] G') (hk : ∀ (i : Nat)  (G' : WHp), i ≤ xs.length → Inv i  G' → ok G' := by intros; trivial) : LoopOk ((wN 2)) bd_look_at_spans_1 D [s0, s1, o2, s3, s4, s5] E (xs.map f) ok G := by
  refine ⟨fun i => (fun σ' G2 => ∃ (o2 : Option W), σ' = [s0, s1, o2, s3, s4, s5] ∧ Inv i  G2), ⟨_, rfl, h0⟩, ?_, ?_, ?_⟩
  · rintro i σ' G' hi ⟨o2, rfl, h⟩; exact hk i  G' (by rw [List.length_map] at hi; exact hi) h
  · rintro i w σ' G' hw ⟨o2, rfl, h⟩
    obtain ⟨x, hx, rfl⟩ := map_get hw
    exact hs i _ o2 G' (by assumption) h
  · rintro σ' G' ⟨o2, rfl, h⟩
    rw [List.length_map] at h
    exact hd o2 G' h
theorem lpm_bd_look_at_spans_3 {ok : WHp → Prop} {α : Type} {f : α → W} {xs : List α} {D : WEnds} {E : WXK} {G : WHp} {s0 s1 s2 : Option W} {o3 o4 o5 : Option W} (Inv : Nat → WHp → Prop) (h0 : Inv 0  G) (hs : ∀ (i : Nat) (x : α) (o3 o4 o5 : Option W) (G' : WHp), xs[i]? = some x → Inv i  G' → bd_look_at_spans_3 { nx := fun σ' G2 => ∃ (o3 o4 o5 : Option W), σ' = [s0, s1, s2, o3, o4, o5] ∧ Inv (i + 1)  G2, rt := D.rt, bk := D.nx, ct := fun σ' G2 => ∃ (o3 o4 o5 : Option W), σ' = [s0, s1, s2, o3, o4, o5] ∧ Inv (i + 1)  G2 } [s0, s1, s2, some (.int (i : Nat)), some (f x), o5] G' E) (hd : ∀ (o3 o4 o5 : Option W) (G' : WHp), Inv (xs.length)  G' → D.nx [s0, s1, s2, o3, o4, o5] G') (hk : ∀ (i : Nat)  (G' : WHp), i ≤ xs.length → Inv i  G' → ok G' := by intros; trivial) : LoopOk ((wGTup 2 (wGCons (wN 3) (wGCons (wN 4) wGNil)))) bd_look_at_spans_3 D [s0, s1, s2, o3, o4, o5] E (enumW 0 (xs.map f)) ok G := by
  refine ⟨fun i => (fun σ' G2 => ∃ (o3 o4 o5 : Option W), σ' = [s0, s1, s2, o3, o4, o5] ∧ Inv i  G2), ⟨_, _, _, rfl, h0⟩, ?_, ?_, ?_⟩
  · rintro i σ' G' hi ⟨o3, o4, o5, rfl, h⟩; exact hk i  G' (by rw [enumW_len, List.length_map] at hi; exact hi) h
  · rintro i w σ' G' hw ⟨o3, o4, o5, rfl, h⟩
    obtain ⟨v, hv, rfl⟩ := enumW_get hw; rw [Nat.zero_add]; obtain ⟨x, hx, rfl⟩ := map_get hv
    rw [gtup2]; exact hs i _ o3 o4 o5 G' (by assumption) h
  · rintro σ' G' ⟨o3, o4, o5, rfl, h⟩
    rw [enumW_len, List.length_map] at h
    exact hd o3 o4 o5 G' h
theorem w_look_at_spans (ws : List W) (G : WHp) (Q : WQ) (Ex : Xc → WHp → Prop) (h : sp_look_at_spans ws G Q Ex) : bd_look_at_spans (endsW Q) (wStart ["plan", "rows", "name", "k", "row", "way"] ws) G (fun c _ G' => Ex c G') := by
  obtain ⟨c, z, rs, rfl, ok, nv, sh, q⟩ := h
  have ho := ok.cr
  have hrl := ok.len
  simp_arith! only [bd_look_at_spans, pnW, pnF]
  refine ⟨c, z, rs, rfl, ?_⟩
  simp_arith! only [bd_look_at_spans_t2, pnW, pnF, crW, crF]
  refine names_v (c := c) ho ?_
  refine lpm_bd_look_at_spans_1 (fun i G' => G' = G ∧ ∀ j n, j < i → c.names[j]? = some n → (rs.all fun s => decide (s.n ≠ n)) = false) ⟨rfl, fun j n h => by omega⟩ ?_ ?_
  · rintro i n o2 G' hn ⟨rfl, hno⟩
    have hnm := List.mem_of_getElem? hn
    simp_arith! only [bd_look_at_spans_1, pnW, pnF]
    refine bits_i (z := z) ok hnm ?_
    simp_arith! only [true_and]
    have hb := bits_zero ok n
    split
    · rename_i h1
      have h1 : bitsN z rs n = 0 := by omega
      simp_arith! only [bd_look_at_spans_2]
      exact (nv n (find_first hn (hb.mp h1) hno)).now
    · rename_i h1
      intro j m hj hm
      rcases Nat.lt_succ_iff_lt_or_eq.mp hj with hj | rfl
      · exact hno j m hj hm
      · rw [hn] at hm; cases hm
        cases h2 : rs.all fun s => decide (s.n ≠ n) with
        | false => rfl
        | true => exact absurd (by rw [hb.mpr h2]; rfl) h1
  · rintro o2 G' ⟨rfl, hno⟩
    have n1 : neverP c rs = none := find_nothing hno
    simp_arith! only [bd_look_at_spans_t3]
    refine lpm_bd_look_at_spans_3 (fun i G2 => G2 = G' ∧ ∀ j, j < i → shortB c z rs j = false) ⟨rfl, fun j h => by omega⟩ ?_ ?_
    · rintro i s o3 o4 o5 G2 hs ⟨rfl, hno2⟩
      have es := sp_is hs
      subst es
      have hi := (List.getElem?_eq_some_iff.mp hs).1
      obtain ⟨r1, _⟩ := ok.row _ (List.mem_of_getElem? hs)
      have hy := gw_ok ho r1
      simp_arith! only [bd_look_at_spans_3, pnW, pnF, spW, crW, crF]
      refine called_i (c := c) ho (gw_get r1) ?_
      have fin : shortB c z rs i = true → Ex (xShort (spAt rs i).n (spAt rs i).b) G2 := fun h => (sh n1 i (by
        unfold shortP
        refine find_first (i := i) (List.getElem?_range hi) h fun j y hj hy2 => ?_
        rw [List.getElem?_range (by omega)] at hy2
        cases hy2
        exact hno2 j hj)).now
      have fine : ¬ ((spAt rs i).t < (c.gw (spAt rs i).n).least ∨ roomP z rs i < (spAt rs i).t + (c.gw (spAt rs i).n).fade + (c.gw (spAt rs i).n).ready) → ∀ j, j < i + 1 → shortB c z rs j = false := fun h j hj => by
        rcases Nat.lt_succ_iff_lt_or_eq.mp hj with hj | rfl
        · exact hno2 j hj
        · exact decide_eq_false h
      simp_arith! only [bd_look_at_spans_3_t2, wyW, wyF]
      split
      · rename_i h1
        simp_arith! only [bd_look_at_spans_4]
        exact fin (decide_eq_true (.inl h1))
      · rename_i h1
        refine ⟨c, z, rs, i, rfl, ok, hi, ?_⟩
        refine ⟨so_mem hy.so, fade_i hy.so ?_⟩
        simp_arith! only [true_and]
        refine ⟨so_mem hy.so, ready_i hy.so ?_⟩
        simp_arith! only [true_and]
        split
        · rename_i h2
          simp_arith! only [bd_look_at_spans_4]
          exact fin (decide_eq_true (.inr h2))
        · rename_i h2
          exact fine (fun y => y.elim h1 h2)
    · rintro o3 o4 o5 G2 ⟨rfl, hno2⟩
      refine q n1 (find_nothing fun j y hj hy => ?_)
      rw [List.length_range] at hj
      rw [List.getElem?_range hj] at hy
      cases hy
      exact hno2 j hj

def sp_too_near : WSp := fun ws G Q E => ∃ (c : Cr) (z : Int) (rs : List Sn) (n m : List Nat), ws = [pnW c z rs, .str n, .str m] ∧ PnOk c z rs ∧ n ∈ c.names ∧ m ∈ c.names ∧ Q (.int (nearN c z rs n m : Nat)) G

theorem len_too_near : ∀ ws G Q E, sp_too_near ws G Q E → ws.length = (["plan", "one", "other"] : List Str).length := by
  intro ws G Q E h
  first
  | (obtain ⟨_, h, _⟩ := h; rw [h]; rfl)
  | (obtain ⟨_, _, h, _⟩ := h; rw [h]; rfl)
  | (obtain ⟨_, _, _, h, _⟩ := h; rw [h]; rfl)
  | (obtain ⟨_, _, _, _, h, _⟩ := h; rw [h]; rfl)
  | (obtain ⟨_, _, _, _, _, h, _⟩ := h; rw [h]; rfl)
  | (obtain ⟨_, _, _, _, _, _, h, _⟩ := h; rw [h]; rfl)
  | (obtain ⟨_, _, _, _, _, _, _, h, _⟩ := h; rw [h]; rfl)
  | (obtain ⟨_, _, _, _, _, _, _, _, h, _⟩ := h; rw [h]; rfl)
  | (obtain ⟨_, _, _, _, _, _, _, _, _, h, _⟩ := h; rw [h]; rfl)
  | (obtain ⟨_, _, _, _, _, _, _, _, _, _, h, _⟩ := h; rw [h]; rfl)
  | (obtain ⟨_, _, _, _, _, _, _, _, _, _, _, h, _⟩ := h; rw [h]; rfl)
  | (obtain ⟨_, _, _, _, _, _, _, _, _, _, _, _, h, _⟩ := h; rw [h]; rfl)
  | (obtain ⟨_, _, _, _, _, _, _, _, _, _, _, _, _, h, _⟩ := h; rw [h]; rfl)
  | (obtain ⟨_, _, _, _, _, _, _, _, _, _, _, _, _, _, h, _⟩ := h; rw [h]; rfl)
def bd_too_near_1_t2 : WTS := (wAsg (wOp oOr (wVar 4) (wVar 3)) (wN 4))
def bd_too_near_1 : WTS := wSeq (wAsg (wCall sp_turned_plans (wCons (wVar 3) (wCons (wC (.int 1)) (wCons (wFld 15 (wVar 0)) wNil)))) (wN 3)) bd_too_near_1_t2
def bd_too_near_t4 : WTS := (wRet (wOp oAnd (wVar 4) (wMeth 55 mt_bits_of_14 [14] (wVar 0) (wCons (wVar 2) wNil))))
def bd_too_near_t3 : WTS := wSeq (wFor (wRng1 (wCons (wCB oMin2 (wCons (wCall sp_gap (wCons (wFld 14 (wVar 0)) (wCons (wVar 1) (wCons (wVar 2) wNil)))) (wCons (wFld 15 (wVar 0)) wNil))) wNil)) (wN 5) bd_too_near_1) bd_too_near_t4
def bd_too_near_t2 : WTS := wSeq (wAsg (wVar 3) (wN 4)) bd_too_near_t3
def bd_too_near : WTS := wSeq (wAsg (wMeth 55 mt_bits_of_14 [14] (wVar 0) (wCons (wVar 1) wNil)) (wN 3)) bd_too_near_t2
theorem lpr_bd_too_near_1 {j : Int} {D : WEnds} {E : WXK} {G : WHp} {s0 s1 s2 : Option W} {a3 : W} {a4 : W} {o5 : Option W} (Inv : Nat → W → W → WHp → Prop) (h0 : Inv 0 a3 a4 G) (hs : ∀ (i : Nat)  (a3 : W) (a4 : W) (o5 : Option W) (G' : WHp), (i : Int) < j → Inv i a3 a4 G' → bd_too_near_1 { nx := fun σ' G2 => ∃ (a3 : W) (a4 : W) (o5 : Option W), σ' = [s0, s1, s2, some a3, some a4, o5] ∧ Inv (i + 1) a3 a4 G2, rt := D.rt, bk := D.nx, ct := fun σ' G2 => ∃ (a3 : W) (a4 : W) (o5 : Option W), σ' = [s0, s1, s2, some a3, some a4, o5] ∧ Inv (i + 1) a3 a4 G2 } [s0, s1, s2, some a3, some a4, some (.int (i : Nat))] G' E) (hd : ∀ (a3 : W) (a4 : W) (o5 : Option W) (G' : WHp), Inv (j.toNat) a3 a4 G' → D.nx [s0, s1, s2, some a3, some a4, o5] G') : LoopOk ((wN 5)) bd_too_near_1 D [s0, s1, s2, some a3, some a4, o5] E (rngW 0 j.toNat) (fun _ => True) G := by
  refine ⟨fun i => (fun σ' G2 => ∃ (a3 : W) (a4 : W) (o5 : Option W), σ' = [s0, s1, s2, some a3, some a4, o5] ∧ Inv i a3 a4 G2), ⟨_, _, _, rfl, h0⟩, ?_, ?_, ?_⟩
  · intros; trivial
  · rintro i w σ' G' hw ⟨a3, a4, o5, rfl, h⟩
    obtain ⟨hi, rfl⟩ := rngW_get hw; rw [Int.zero_add]; have : (i : Int) < j := by omega
    exact hs i a3 a4 o5 G' (by assumption) h
  · rintro σ' G' ⟨a3, a4, o5, rfl, h⟩
    rw [rngW_len] at h
    exact hd a3 a4 o5 G' h
theorem w_too_near (ws : List W) (G : WHp) (Q : WQ) (Ex : Xc → WHp → Prop) (h : sp_too_near ws G Q Ex) : bd_too_near (endsW Q) (wStart ["plan", "one", "other", "bits", "near", "k"] ws) G (fun c _ G' => Ex c G') := by
  obtain ⟨c, z, rs, n, m, rfl, ok, hn, hm, q⟩ := h
  have ho := ok.cr
  have hz0 := ok.z0
  have hz1 := ok.z1
  simp_arith! only [bd_too_near, pnW, pnF]
  refine bits_i (z := z) ok hn ?_
  simp_arith! only [bd_too_near_t2]
  simp_arith! only [bd_too_near_t3, pnW, pnF]
  refine gap_i (c := c) ho (gw_get hn) (gw_get hm) ?_
  have hg := gap_ge (c.gw n) (c.gw m)
  simp_arith! only [true_and]
  have hD : (nearD c z n m : Int) = if z < gapN (c.gw n) (c.gw m) then z else gapN (c.gw n) (c.gw m) := by
    unfold nearD
    split <;> omega
  rw [← hD]
  have hDl : (nearD c z n m : Int) ≤ 240 := by rw [hD]; split <;> omega
  have hq : nearN c z rs n m = maskN (fun k => nearB z rs n (nearD c z n m) k && frB z rs m k) z.toNat := rfl
  rw [hq] at q
  generalize nearD c z n m = D at q hDl ⊢
  refine ⟨by omega, by omega, lpr_bd_too_near_1 (fun i a3 a4 G' => G' = G ∧ a3 = .int (maskN (fun k => frB z rs n ((k : Int) - (i : Nat))) z.toNat : Nat) ∧ a4 = .int (maskN (fun k => nearB z rs n i k) z.toNat : Nat)) ⟨rfl, ?_, ?_⟩ ?_ ?_⟩
  · exact congrArg (fun m : Nat => W.int (m : Int)) (mask_congr fun k _ => by simp)
  · exact congrArg (fun m : Nat => W.int (m : Int)) (mask_congr fun k _ => nearB_zero.symm)
  · rintro i a3 a4 o5 G' hi ⟨rfl, rfl, rfl⟩
    simp_arith! only [bd_too_near_1, pnW, pnF]
    refine ⟨_, 1, z.toNat, by rw [Int.toNat_of_nonneg (by omega)]; rfl, Nat.lt_of_lt_of_le (mask_lt _ _) (Nat.pow_le_pow_right (by decide) (by omega)), by omega, by omega, ?_⟩
    rw [turn_one (f := fun k => frB z rs n (k - (i : Nat))) hz0 (fun k => by rw [show k + z - (i : Nat) = (k - (i : Nat)) + z by omega, frB_add])]
    simp_arith! only [bd_too_near_1_t2, bitOr_nat]
    rw [mask_or]
    refine ⟨?_, ?_⟩
    · congr 1
      refine mask_congr fun k _ => ?_
      congr 1
      omega
    · congr 1
      refine mask_congr fun k _ => ?_
      rw [nearB_succ]
      congr 2
      omega
  · rintro a3 a4 o5 G' ⟨rfl, rfl, rfl⟩
    rw [Int.toNat_natCast]
    simp_arith! only [bd_too_near_t4, pnW, pnF]
    refine bits_i (z := z) ok hm ?_
    simp_arith! only [bitAnd_nat]
    unfold bitsN
    rw [mask_and]
    exact q

def sp_look_at_pairs : WSp := fun ws G Q E => ∃ (c : Cr) (z : Int) (rs : List Sn), ws = [pnW c z rs] ∧ PnOk c z rs ∧ (∀ n m k, clashB c z rs n m k → exS E (xClash n m k) G) ∧ ((∀ n m k, ¬ clashB c z rs n m k) → Q .non G)

theorem len_look_at_pairs : ∀ ws G Q E, sp_look_at_pairs ws G Q E → ws.length = (["plan"] : List Str).length := by
  intro ws G Q E h
  first
  | (obtain ⟨_, h, _⟩ := h; rw [h]; rfl)
  | (obtain ⟨_, _, h, _⟩ := h; rw [h]; rfl)
  | (obtain ⟨_, _, _, h, _⟩ := h; rw [h]; rfl)
  | (obtain ⟨_, _, _, _, h, _⟩ := h; rw [h]; rfl)
  | (obtain ⟨_, _, _, _, _, h, _⟩ := h; rw [h]; rfl)
  | (obtain ⟨_, _, _, _, _, _, h, _⟩ := h; rw [h]; rfl)
  | (obtain ⟨_, _, _, _, _, _, _, h, _⟩ := h; rw [h]; rfl)
  | (obtain ⟨_, _, _, _, _, _, _, _, h, _⟩ := h; rw [h]; rfl)
  | (obtain ⟨_, _, _, _, _, _, _, _, _, h, _⟩ := h; rw [h]; rfl)
  | (obtain ⟨_, _, _, _, _, _, _, _, _, _, h, _⟩ := h; rw [h]; rfl)
  | (obtain ⟨_, _, _, _, _, _, _, _, _, _, _, h, _⟩ := h; rw [h]; rfl)
  | (obtain ⟨_, _, _, _, _, _, _, _, _, _, _, _, h, _⟩ := h; rw [h]; rfl)
  | (obtain ⟨_, _, _, _, _, _, _, _, _, _, _, _, _, h, _⟩ := h; rw [h]; rfl)
  | (obtain ⟨_, _, _, _, _, _, _, _, _, _, _, _, _, _, h, _⟩ := h; rw [h]; rfl)
def bd_look_at_pairs_4 : WTS := (wRaise 5 [11, 13, 12] (wCons (wVar 1) (wCons (wVar 2) (wCons (wOp oSub (wBits (wOp oAnd (wVar 3) (wUn oNeg (wVar 3)))) (wC (.int 1))) wNil))))
def bd_look_at_pairs_3_t2 : WTS := (wIfS (wTest (wOp oNe (wVar 3) (wC (.int 0)))) bd_look_at_pairs_4 wNext)
def bd_look_at_pairs_3 : WTS := wSeq (wAsg (wCall sp_too_near (wCons (wVar 0) (wCons (wVar 1) (wCons (wVar 2) wNil)))) (wN 3)) bd_look_at_pairs_3_t2
def bd_look_at_pairs_2 : WTS := (wIfS (wAnd (wTest (wOp oNe (wVar 1) (wVar 2))) (wTest (wCall sp_meet (wCons (wFld 14 (wVar 0)) (wCons (wVar 1) (wCons (wVar 2) wNil)))))) bd_look_at_pairs_3 wNext)
def bd_look_at_pairs_1 : WTS := (wFor (wIter (wView (wMeth 52 mt_names [13] (wFld 14 (wVar 0)) wNil))) (wN 2) bd_look_at_pairs_2)
def bd_look_at_pairs : WTS := (wFor (wIter (wView (wMeth 52 mt_names [13] (wFld 14 (wVar 0)) wNil))) (wN 1) bd_look_at_pairs_1)
theorem lpm_bd_look_at_pairs_2 {ok : WHp → Prop} {α : Type} {f : α → W} {xs : List α} {D : WEnds} {E : WXK} {G : WHp} {s0 s1 : Option W} {o2 o3 : Option W} (Inv : Nat → WHp → Prop) (h0 : Inv 0  G) (hs : ∀ (i : Nat) (x : α) (o2 o3 : Option W) (G' : WHp), xs[i]? = some x → Inv i  G' → bd_look_at_pairs_2 { nx := fun σ' G2 => ∃ (o2 o3 : Option W), σ' = [s0, s1, o2, o3] ∧ Inv (i + 1)  G2, rt := D.rt, bk := D.nx, ct := fun σ' G2 => ∃ (o2 o3 : Option W), σ' = [s0, s1, o2, o3] ∧ Inv (i + 1)  G2 } [s0, s1, some (f x), o3] G' E) (hd : ∀ (o2 o3 : Option W) (G' : WHp), Inv (xs.length)  G' → D.nx [s0, s1, o2, o3] G') (hk : ∀ (i : Nat)  (G' : WHp), i ≤ xs.length → Inv i  G' → ok G' := by intros; trivial) : LoopOk ((wN 2)) bd_look_at_pairs_2 D [s0, s1, o2, o3] E (xs.map f) ok G := by
  refine ⟨fun i => (fun σ' G2 => ∃ (o2 o3 : Option W), σ' = [s0, s1, o2, o3] ∧ Inv i  G2), ⟨_, _, rfl, h0⟩, ?_, ?_, ?_⟩
  · rintro i σ' G' hi ⟨o2, o3, rfl, h⟩; exact hk i  G' (by rw [List.length_map] at hi; exact hi) h
  · rintro i w σ' G' hw ⟨o2, o3, rfl, h⟩
    obtain ⟨x, hx, rfl⟩ := map_get hw
    exact hs i _ o2 o3 G' (by assumption) h
  · rintro σ' G' ⟨o2, o3, rfl, h⟩
    rw [List.length_map] at h
    exact hd o2 o3 G' h
theorem lpm_bd_look_at_pairs_1 {ok : WHp → Prop} {α : Type} {f : α → W} {xs : List α} {D : WEnds} {E : WXK} {G : WHp} {s0 : Option W} {o1 o2 o3 : Option W} (Inv : Nat → WHp → Prop) (h0 : Inv 0  G) (hs : ∀ (i : Nat) (x : α) (o1 o2 o3 : Option W) (G' : WHp), xs[i]? = some x → Inv i  G' → bd_look_at_pairs_1 { nx := fun σ' G2 => ∃ (o1 o2 o3 : Option W), σ' = [s0, o1, o2, o3] ∧ Inv (i + 1)  G2, rt := D.rt, bk := D.nx, ct := fun σ' G2 => ∃ (o1 o2 o3 : Option W), σ' = [s0, o1, o2, o3] ∧ Inv (i + 1)  G2 } [s0, some (f x), o2, o3] G' E) (hd : ∀ (o1 o2 o3 : Option W) (G' : WHp), Inv (xs.length)  G' → D.nx [s0, o1, o2, o3] G') (hk : ∀ (i : Nat)  (G' : WHp), i ≤ xs.length → Inv i  G' → ok G' := by intros; trivial) : LoopOk ((wN 1)) bd_look_at_pairs_1 D [s0, o1, o2, o3] E (xs.map f) ok G := by
  refine ⟨fun i => (fun σ' G2 => ∃ (o1 o2 o3 : Option W), σ' = [s0, o1, o2, o3] ∧ Inv i  G2), ⟨_, _, _, rfl, h0⟩, ?_, ?_, ?_⟩
  · rintro i σ' G' hi ⟨o1, o2, o3, rfl, h⟩; exact hk i  G' (by rw [List.length_map] at hi; exact hi) h
  · rintro i w σ' G' hw ⟨o1, o2, o3, rfl, h⟩
    obtain ⟨x, hx, rfl⟩ := map_get hw
    exact hs i _ o1 o2 o3 G' (by assumption) h
  · rintro σ' G' ⟨o1, o2, o3, rfl, h⟩
    rw [List.length_map] at h
    exact hd o1 o2 o3 G' h
theorem w_look_at_pairs (ws : List W) (G : WHp) (Q : WQ) (Ex : Xc → WHp → Prop) (h : sp_look_at_pairs ws G Q Ex) : bd_look_at_pairs (endsW Q) (wStart ["plan", "one", "other", "bits"] ws) G (fun c _ G' => Ex c G') := by
  obtain ⟨c, z, rs, rfl, ok, cl, q⟩ := h
  have ho := ok.cr
  simp_arith! only [bd_look_at_pairs, pnW, pnF, crW, crF]
  refine names_v (c := c) ho ?_
  refine lpm_bd_look_at_pairs_1 (fun i G' => G' = G ∧ ∀ j n, j < i → c.names[j]? = some n → ∀ m k, ¬ clashB c z rs n m k) ⟨rfl, fun j n h => by omega⟩ ?_ ?_
  · rintro i n o1 o2 o3 G' hn ⟨rfl, hno⟩
    have hnm := List.mem_of_getElem? hn
    simp_arith! only [bd_look_at_pairs_1, pnW, pnF, crW, crF]
    refine names_v (c := c) ho ?_
    refine lpm_bd_look_at_pairs_2 (fun j G2 => G2 = G' ∧ ∀ j' m, j' < j → c.names[j']? = some m → ∀ k, ¬ clashB c z rs n m k) ⟨rfl, fun j m h => by omega⟩ ?_ ?_
    · rintro j m o2 o3 G2 hm ⟨rfl, hno2⟩
      have hmm := List.mem_of_getElem? hm
      have step : (∀ k, ¬ clashB c z rs n m k) → ∀ j' m', j' < j + 1 → c.names[j']? = some m' → ∀ k, ¬ clashB c z rs n m' k := fun h j' m' hj' hm' => by
        rcases Nat.lt_succ_iff_lt_or_eq.mp hj' with hj' | rfl
        · exact hno2 j' m' hj' hm'
        · rw [hm] at hm'; cases hm'; exact h
      simp_arith! only [bd_look_at_pairs_2, pnW, pnF]
      split
      · rename_i hne
        refine meet_i (c := c) ho (gw_get hnm) (gw_get hmm) ?_
        simp_arith! only [true_and]
        split
        · rename_i hw
          have nc := near_clash ok hnm hmm hne hw
          simp_arith! only [bd_look_at_pairs_3]
          refine ⟨c, z, rs, n, m, rfl, ok, hnm, hmm, ?_⟩
          generalize hN : nearN c z rs n m = N at nc ⊢
          simp_arith! only [bd_look_at_pairs_3_t2]
          split
          · rename_i h0
            have h0 : N ≠ 0 := fun y => h0 (by rw [y]; rfl)
            obtain ⟨k, h1, h2⟩ := low_int h0
            have hk : k < z.toNat := by
              rw [← hN] at h2
              unfold nearN at h2
              rw [testBit_mask] at h2
              simp at h2
              omega
            simp_arith! only [bd_look_at_pairs_4, h1]
            exact (cl n m k ((nc k).mpr ⟨by omega, by omega, by simpa using h2⟩)).now
          · rename_i h0
            have h0 : N = 0 := by omega
            refine step fun k hk => ?_
            have := ((nc k).mp hk).2.2
            rw [h0] at this
            simp at this
        · rename_i hw
          exact step fun k hk => hw hk.2.2.2.1
      · rename_i hne
        exact step fun k hk => hne hk.2.2.1
    · rintro o2 o3 G2 ⟨rfl, hno2⟩
      refine ⟨_, _, _, rfl, rfl, fun j n' hj hn' m k hk => ?_⟩
      rcases Nat.lt_succ_iff_lt_or_eq.mp hj with hj | rfl
      · exact hno j n' hj hn' m k hk
      · rw [hn] at hn'; cases hn'
        obtain ⟨j2, hj2⟩ := List.getElem?_of_mem hk.2.1
        exact hno2 j2 m (List.getElem?_eq_some_iff.mp hj2).1 hj2 k hk
  · rintro o1 o2 o3 G' ⟨rfl, hno⟩
    refine q fun n m k hk => ?_
    obtain ⟨j, hj⟩ := List.getElem?_of_mem hk.1
    exact hno j n (List.getElem?_eq_some_iff.mp hj).1 hj m k hk

def sp_made_plan : WSp := fun ws G Q E => ∃ (c : Cr) (z : Int) (rs : List Sn) (x : W), ws = [crW c, .int z, x] ∧ PnOk c z rs ∧ (x = .il (rs.map spW) ∨ ∃ a, x = .ref a ∧ G a = some (.lst (rs.map spW))) ∧ LookP c z rs E G (Q (pnW c z rs) G)

theorem len_made_plan : ∀ ws G Q E, sp_made_plan ws G Q E → ws.length = (["crossing", "size", "rows"] : List Str).length := by
  intro ws G Q E h
  first
  | (obtain ⟨_, h, _⟩ := h; rw [h]; rfl)
  | (obtain ⟨_, _, h, _⟩ := h; rw [h]; rfl)
  | (obtain ⟨_, _, _, h, _⟩ := h; rw [h]; rfl)
  | (obtain ⟨_, _, _, _, h, _⟩ := h; rw [h]; rfl)
  | (obtain ⟨_, _, _, _, _, h, _⟩ := h; rw [h]; rfl)
  | (obtain ⟨_, _, _, _, _, _, h, _⟩ := h; rw [h]; rfl)
  | (obtain ⟨_, _, _, _, _, _, _, h, _⟩ := h; rw [h]; rfl)
  | (obtain ⟨_, _, _, _, _, _, _, _, h, _⟩ := h; rw [h]; rfl)
  | (obtain ⟨_, _, _, _, _, _, _, _, _, h, _⟩ := h; rw [h]; rfl)
  | (obtain ⟨_, _, _, _, _, _, _, _, _, _, h, _⟩ := h; rw [h]; rfl)
  | (obtain ⟨_, _, _, _, _, _, _, _, _, _, _, h, _⟩ := h; rw [h]; rfl)
  | (obtain ⟨_, _, _, _, _, _, _, _, _, _, _, _, h, _⟩ := h; rw [h]; rfl)
  | (obtain ⟨_, _, _, _, _, _, _, _, _, _, _, _, _, h, _⟩ := h; rw [h]; rfl)
  | (obtain ⟨_, _, _, _, _, _, _, _, _, _, _, _, _, _, h, _⟩ := h; rw [h]; rfl)
def bd_made_plan_t4 : WTS := (wRet (wVar 3))
def bd_made_plan_t3 : WTS := wSeq (wDrop (wCall sp_look_at_pairs (wCons (wVar 3) wNil))) bd_made_plan_t4
def bd_made_plan_t2 : WTS := wSeq (wDrop (wCall sp_look_at_spans (wCons (wVar 3) wNil))) bd_made_plan_t3
def bd_made_plan : WTS := wSeq (wAsg (wView (wMake 14 sp_Plan_init (wCons (wVar 0) (wCons (wVar 1) (wCons (wVar 2) wNil))))) (wN 3)) bd_made_plan_t2
theorem w_made_plan (ws : List W) (G : WHp) (Q : WQ) (Ex : Xc → WHp → Prop) (h : sp_made_plan ws G Q Ex) : bd_made_plan (endsW Q) (wStart ["crossing", "size", "rows", "plan"] ws) G (fun c _ G' => Ex c G') := by
  obtain ⟨c, z, rs, x, rfl, ok, hx, lk⟩ := h
  simp_arith! only [bd_made_plan]
  intro p hp
  refine ⟨p, c, z, rs, x, rfl, updG_same, ok, ?_, fun d hdp hd => ⟨rfl, ?_⟩⟩
  · rcases hx with rfl | ⟨a, rfl, ha⟩
    · exact .inl rfl
    · exact .inr ⟨a, rfl, by rw [updG_ne (fun y => by rw [y, hp] at ha; cases ha)]; exact ha⟩
  rw [updG_ne hdp] at hd
  refine vw_deep (w2 := pnW c z rs) (G := G) ?_ (.obj p 14 _ (pnF c z rs) updG_same hp ?_) ?_
  · exact ((Sub.new hp).upd hd).upd hp
  · refine .cons _ _ _ _ _ (.same _) (.cons _ _ _ _ _ (.same _) (.cons _ _ _ _ _ (.same _) (.cons _ _ _ _ _ (.dct d _ _ (by rw [updG_ne hdp, updG_same]) hd (FrzDk.refl _)) .nil)))
  simp_arith! only [bd_made_plan_t2]
  refine ⟨c, z, rs, rfl, ok, lk.nv, lk.sh, fun n1 n2 => ?_⟩
  simp_arith! only [bd_made_plan_t3]
  refine ⟨c, z, rs, rfl, ok, lk.cl n1 n2, fun n3 => ?_⟩
  simp_arith! only [bd_made_plan_t4]
  exact lk.fine n1 n2 n3

/-! ### looks -/
def colP (c : Cr) (z : Int) (rs : List Sn) (n : List Nat) (t : Int) : List Nat :=
  if frB z rs n t = true then tFREE else if ((List.range (c.gw n).ready.toNat).any fun k => frB z rs n (t + 1 + (k : Nat))) = true then tREADY else
  if ((List.range (c.gw n).fade.toNat).any fun k => frB z rs n (t - 1 - (k : Nat))) = true then tFADE else tSTOP
/-- how long one waits from a turn on -/
def IsWt (z : Int) (rs : List Sn) (n : List Nat) (t w : Int) : Prop := 0 ≤ w ∧ frB z rs n (t + w) = true ∧ ∀ d, 0 ≤ d → d < w → frB z rs n (t + d) = false
theorem IsWt.uniq {z : Int} {rs : List Sn} {n : List Nat} {t w w' : Int} (h : IsWt z rs n t w) (h' : IsWt z rs n t w') : w = w' := by
  rcases Int.lt_trichotomy w w' with e | e | e
  · have := h'.2.2 w h.1 e; rw [h.2.1] at this; cases this
  · exact e
  · have := h.2.2 w' h'.1 e; rw [h'.2.1] at this; cases this
theorem least_nat {p : Nat → Prop} (h : ∃ k, p k) : ∃ k, p k ∧ ∀ j, j < k → ¬ p j := by
  obtain ⟨k, hk⟩ := h
  induction k using Nat.strongRecOn with
  | _ k ih =>
    by_cases h : ∃ j, j < k ∧ p j
    · obtain ⟨j, h1, h2⟩ := h
      exact ih j h1 h2
    · exact ⟨k, hk, fun j h1 h2 => h ⟨j, h1, h2⟩⟩
theorem wt_ex {z : Int} {rs : List Sn} {n : List Nat} (hz : 1 ≤ z) (h : ∃ i, frB z rs n i = true) (t : Int) : ∃ w, IsWt z rs n t w ∧ w < z := by
  obtain ⟨i, hi⟩ := h
  have a := Int.emod_nonneg (i - t) (show z ≠ 0 by omega)
  have b := Int.emod_lt_of_pos (i - t) (show 0 < z by omega)
  have e : frB z rs n (t + (i - t) % z) = true := by
    rw [← frB_mod, Int.add_emod, Int.emod_emod, ← Int.add_emod, show t + (i - t) = i by omega, frB_mod]; exact hi
  obtain ⟨k, hk, hno⟩ := least_nat (p := fun k : Nat => frB z rs n (t + (k : Int)) = true) ⟨((i - t) % z).toNat, by show frB z rs n _ = true; rw [Int.toNat_of_nonneg a]; exact e⟩
  refine ⟨k, ⟨by omega, hk, fun d d0 d1 => ?_⟩, ?_⟩
  · have := hno d.toNat (by omega)
    rw [Int.toNat_of_nonneg d0] at this
    simpa using this
  · by_cases hlt : (k : Int) < z
    · exact hlt
    · have := hno ((i - t) % z).toNat (by omega)
      rw [Int.toNat_of_nonneg a] at this
      exact absurd e this
theorem any_take {f : Nat → Bool} {i m : Nat} (h : i < m) (hf : f i = true) : (List.range m).any f = true := List.any_eq_true.mpr ⟨i, List.mem_range.mpr h, hf⟩
theorem any_none {f : Nat → Bool} {m : Nat} (h : ∀ i, i < m → f i = false) : (List.range m).any f = false := by
  rw [List.any_eq_false]
  intro i hi
  rw [h i (List.mem_range.mp hi)]; simp
structure LongI (z : Int) (rs : List Sn) (n : List Nat) (i : Nat) (w bw bu : Int) : Prop where
  w0 : 0 ≤ w
  yes : (∃ j, 2 * z - i ≤ j ∧ j < 2 * z ∧ frB z rs n j = true) → IsWt z rs n (2 * z - i) w
  no : (∀ j, 2 * z - i ≤ j → j < 2 * z → frB z rs n j = false) → w = i
  far : z ≤ 2 * z - i → bw = 0 ∧ bu = 0
  best : 2 * z - i < z → 2 * z - i ≤ bu ∧ bu < z ∧ IsWt z rs n bu bw ∧ ∀ t w', 2 * z - i ≤ t → t < z → IsWt z rs n t w' → w' ≤ bw ∧ (t < bu → w' < bw)
theorem LongI.zero {z : Int} {rs : List Sn} {n : List Nat} (hz : 1 ≤ z) : LongI z rs n 0 0 0 0 :=
  ⟨by omega, fun ⟨j, h1, h2, _⟩ => by omega, fun _ => rfl, fun _ => ⟨rfl, rfl⟩, fun h => by omega⟩
theorem LongI.step {z : Int} {rs : List Sn} {n : List Nat} {i : Nat} {w bw bu : Int} (h : LongI z rs n i w bw bu) (hz : 1 ≤ z) (hex : ∃ i, frB z rs n i = true) (hi : (i : Int) < 2 * z) :
    ((2 * z - 1 - (i : Nat) < z ∧ bw ≤ (if frB z rs n (2 * z - 1 - (i : Nat)) = true then 0 else w + 1)) → LongI z rs n (i + 1) (if frB z rs n (2 * z - 1 - (i : Nat)) = true then 0 else w + 1) (if frB z rs n (2 * z - 1 - (i : Nat)) = true then 0 else w + 1) (2 * z - 1 - (i : Nat))) ∧
    (¬ (2 * z - 1 - (i : Nat) < z ∧ bw ≤ (if frB z rs n (2 * z - 1 - (i : Nat)) = true then 0 else w + 1)) → LongI z rs n (i + 1) (if frB z rs n (2 * z - 1 - (i : Nat)) = true then 0 else w + 1) bw bu) := by
  have hw0 := h.w0
  have e1 : 2 * z - ((i + 1 : Nat) : Int) = 2 * z - 1 - (i : Nat) := by omega
  generalize hw' : (if frB z rs n (2 * z - 1 - (i : Nat)) = true then 0 else w + 1) = w'
  have w0' : 0 ≤ w' := by rw [← hw']; split <;> omega
  have yes' : (∃ j, 2 * z - 1 - (i : Nat) ≤ j ∧ j < 2 * z ∧ frB z rs n j = true) → IsWt z rs n (2 * z - 1 - (i : Nat)) w' := by
    rintro ⟨j, j1, j2, j3⟩
    rw [← hw']
    split
    · rename_i hf
      exact ⟨by omega, by rw [Int.add_zero]; exact hf, fun d d0 d1 => by omega⟩
    · rename_i hf
      have hj : j ≠ 2 * z - 1 - (i : Nat) := fun y => hf (by rw [← y]; exact j3)
      obtain ⟨a, b, c⟩ := h.yes ⟨j, by omega, j2, j3⟩
      refine ⟨by omega, by rw [show 2 * z - 1 - (i : Nat) + (w + 1) = 2 * z - (i : Nat) + w by omega]; exact b, fun d d0 d1 => ?_⟩
      by_cases hd : d = 0
      · subst hd
        rw [Int.add_zero]; simpa using hf
      · rw [show 2 * z - 1 - (i : Nat) + d = 2 * z - (i : Nat) + (d - 1) by omega]
        exact c _ (by omega) (by omega)
  have no' : (∀ j, 2 * z - 1 - (i : Nat) ≤ j → j < 2 * z → frB z rs n j = false) → w' = ((i + 1 : Nat) : Int) := by
    intro hno
    rw [← hw', if_neg (by rw [hno _ (by omega) (by omega)]; simp), h.no fun j j1 j2 => hno j (by omega) j2]
    omega
  have wt : 2 * z - 1 - (i : Nat) < z → IsWt z rs n (2 * z - 1 - (i : Nat)) w' := fun hT => by
    obtain ⟨d, hd, hdz⟩ := wt_ex hz hex (2 * z - 1 - (i : Nat))
    have := hd.1
    exact yes' ⟨_, by omega, by omega, hd.2.1⟩
  constructor
  · rintro ⟨hT, hb⟩
    refine ⟨w0', by rw [e1]; exact yes', by rw [e1]; exact no', fun y => by omega, fun _ => ⟨by omega, hT, wt hT, fun t w2 t0 t1 hw2 => ?_⟩⟩
    by_cases ht : t = 2 * z - 1 - (i : Nat)
    · subst ht
      have := hw2.uniq (wt hT)
      exact ⟨by omega, fun y => by omega⟩
    · have := (h.best (by omega)).2.2.2 t w2 (by omega) t1 hw2
      exact ⟨by omega, fun y => by omega⟩
  · intro hn
    refine ⟨w0', by rw [e1]; exact yes', by rw [e1]; exact no', fun y => h.far (by omega), fun hT => ?_⟩
    have hb : w' < bw := by
      by_cases y : bw ≤ w'
      · exact absurd ⟨by omega, y⟩ hn
      · omega
    have hTz : 2 * z - (i : Nat) < z := by
      by_cases y : z ≤ 2 * z - (i : Nat)
      · have := (h.far y).1; omega
      · omega
    obtain ⟨b1, b2, b3, b4⟩ := h.best hTz
    refine ⟨by omega, b2, b3, fun t w2 t0 t1 hw2 => ?_⟩
    by_cases ht : t = 2 * z - 1 - (i : Nat)
    · subst ht
      have := hw2.uniq (wt (by omega))
      exact ⟨by omega, fun _ => by omega⟩
    · exact b4 t w2 (by omega) t1 hw2

def sp_free : WSp := fun ws G Q E => ∃ (c : Cr) (z : Int) (rs : List Sn) (n : List Nat) (t : Int), ws = [pnW c z rs, .str n, .int t] ∧ PnOk c z rs ∧ (n ∈ c.names → Q (.bl (frB z rs n t)) G) ∧ (n ∉ c.names → exS E (xNoWay n) G)
theorem free_i {c : Cr} {z : Int} {rs : List Sn} {n : List Nat} {t : Int} {G : WHp} {Q : WQ} {E : Xc → WHp → Prop} (ok : PnOk c z rs) (h : n ∈ c.names) (q : Q (.bl (frB z rs n t)) G) : sp_free [pnW c z rs, .str n, .int t] G Q E := ⟨c, z, rs, n, t, rfl, ok, fun _ => q, fun y => absurd h y⟩

theorem len_free : ∀ ws G Q E, sp_free ws G Q E → ws.length = (["plan", "name", "turn"] : List Str).length := by
  intro ws G Q E h
  first
  | (obtain ⟨_, h, _⟩ := h; rw [h]; rfl)
  | (obtain ⟨_, _, h, _⟩ := h; rw [h]; rfl)
  | (obtain ⟨_, _, _, h, _⟩ := h; rw [h]; rfl)
  | (obtain ⟨_, _, _, _, h, _⟩ := h; rw [h]; rfl)
  | (obtain ⟨_, _, _, _, _, h, _⟩ := h; rw [h]; rfl)
  | (obtain ⟨_, _, _, _, _, _, h, _⟩ := h; rw [h]; rfl)
  | (obtain ⟨_, _, _, _, _, _, _, h, _⟩ := h; rw [h]; rfl)
  | (obtain ⟨_, _, _, _, _, _, _, _, h, _⟩ := h; rw [h]; rfl)
  | (obtain ⟨_, _, _, _, _, _, _, _, _, h, _⟩ := h; rw [h]; rfl)
  | (obtain ⟨_, _, _, _, _, _, _, _, _, _, h, _⟩ := h; rw [h]; rfl)
  | (obtain ⟨_, _, _, _, _, _, _, _, _, _, _, h, _⟩ := h; rw [h]; rfl)
  | (obtain ⟨_, _, _, _, _, _, _, _, _, _, _, _, h, _⟩ := h; rw [h]; rfl)
  | (obtain ⟨_, _, _, _, _, _, _, _, _, _, _, _, _, h, _⟩ := h; rw [h]; rfl)
  | (obtain ⟨_, _, _, _, _, _, _, _, _, _, _, _, _, _, h, _⟩ := h; rw [h]; rfl)
def bd_free : WTS := (wRet (wOp oEq (wOp oAnd (wOp oShr (wMeth 55 mt_bits_of_14 [14] (wVar 0) (wCons (wVar 1) wNil)) (wOp oMod (wVar 2) (wFld 15 (wVar 0)))) (wC (.int 1))) (wC (.int 1))))
theorem w_free (ws : List W) (G : WHp) (Q : WQ) (Ex : Xc → WHp → Prop) (h : sp_free ws G Q Ex) : bd_free (endsW Q) (wStart ["plan", "name", "turn"] ws) G (fun c _ G' => Ex c G') := by
  obtain ⟨c, z, rs, n, t, rfl, ok, q, e⟩ := h
  have hz := ok.z0
  simp_arith! only [bd_free, pnW, pnF]
  refine ⟨c, z, rs, n, rfl, ok, fun hn => ?_, e⟩
  simp_arith! only [true_and]
  have a := Int.emod_nonneg t (show z ≠ 0 by omega)
  have b := Int.emod_lt_of_pos t (show 0 < z by omega)
  refine ⟨by omega, a, ?_⟩
  have e1 : (Builtin.bitAnd ((bitsN z rs n : Nat) / (2 : Int) ^ (t % z).toNat) 1 = 1) = (frB z rs n t = true) := by
    have := bit_iff (bitsN z rs n) (t % z).toNat
    rw [Int.toNat_natCast] at this
    rw [this]
    unfold bitsN
    rw [testBit_mask, Int.toNat_of_nonneg a, frB_mod, decide_eq_true (show (t % z).toNat < z.toNat by omega), Bool.true_and]
  have e2 : decide (Builtin.bitAnd ((bitsN z rs n : Nat) / (2 : Int) ^ (t % z).toNat) 1 = 1) = frB z rs n t := by
    rw [Bool.eq_iff_iff, decide_eq_true_eq, e1]
  rw [e2]
  exact q hn

/-! ### queues -/
theorem at_ints {xs : List Int} {t : Int} (h : 0 < xs.length) : ∃ v, xs[(t % (xs.length : Int)).toNat]? = some v ∧ atI xs (t % (xs.length : Int)) = some v := by
  have h1 : 0 ≤ t % (xs.length : Int) := Int.emod_nonneg _ (by omega)
  have h2 : t % (xs.length : Int) < xs.length := Int.emod_lt_of_pos _ (by omega)
  obtain ⟨v, e, _⟩ := atI_in (xs := xs) h1 h2
  refine ⟨v, ?_, e⟩
  have e3 : ixN xs.length (t % (xs.length : Int)) = some (t % (xs.length : Int)).toNat := by
    unfold ixN
    rw [if_pos h1, if_pos (by omega)]
  unfold atI at e
  rw [e3] at e
  exact e
/-- how many come in a turn -/
def cmA (cs : List Int) (t : Int) : Int := (atI cs (t % (cs.length : Int))).getD 0
def qStep (y : Wy) (fr : Bool) (c s : Int) : Int := if fr = true then s + c - y.goes (s + c) else s + c
/-- how many stand behind so many turns of a round -/
def qRun (z : Int) (rs : List Sn) (n : List Nat) (y : Wy) (cs : List Int) (s : Int) : Nat → Int
  | 0 => s
  | k + 1 => qStep y (frB z rs n (k : Nat)) (cmA cs (k : Nat)) (qRun z rs n y cs s k)
def freeN (z : Int) (rs : List Sn) (n : List Nat) (k : Nat) : Nat := (List.range k).countP fun j : Nat => frB z rs n (j : Nat)
def growF (z : Int) (rs : List Sn) (n : List Nat) (y : Wy) (cs : List Int) : Int := if y.sort = 11 then 0 else if cs.sum - (freeN z rs n z.toNat : Nat) > 0 then cs.sum - (freeN z rs n z.toNat : Nat) else 0
def queueF (z : Int) (rs : List Sn) (n : List Nat) (y : Wy) (cs : List Int) (t : Int) : Int :=
  qRun z rs n y cs (if 0 < t / z then qRun z rs n y cs 0 z.toNat + (t / z - 1) * growF z rs n y cs else 0) (t % z).toNat
/-- a list of comings, as it is handed in -/
def CmAt (G : WHp) (x : W) (cs : List Int) : Prop := x = .il (cs.map .int) ∨ ∃ p, x = .ref p ∧ G p = some (.lst (cs.map .int))
theorem CmAt.sub {G G' : WHp} {x : W} {cs : List Int} (h : CmAt G x cs) (s : Sub G G') : CmAt G' x cs := h.elim .inl fun ⟨p, e, h⟩ => .inr ⟨p, e, s _ _ h⟩
theorem CmAt.sq {G : WHp} {x : W} {cs : List Int} (h : CmAt G x cs) : sqOf G x = some (cs.map .int) := by
  rcases h with rfl | ⟨p, rfl, h⟩
  · rfl
  · simp [sqOf, lstOf, h]
theorem CmAt.sqT {G : WHp} {x : W} {cs : List Int} (h : CmAt G x cs) : sqT G x = some (cs.map .int) := by
  rcases h with rfl | ⟨p, rfl, h⟩
  · rfl
  · simp [Lw.sqT, sqOf, lstOf, h]
theorem CmAt.ix {G : WHp} {x : W} {cs : List Int} {i v : Int} {Q : WQ} (h : CmAt G x cs) (e : atI cs i = some v) (q : Q (.int v) G) : oIx x (.int i) G Q := by
  rcases h with rfl | ⟨p, rfl, h⟩
  · rw [oIx_il]
    exact ⟨_, by rw [atI_map, e]; rfl, q⟩
  · rw [oIx_ref p _ i h]
    exact ⟨_, by rw [atI_map, e]; rfl, q⟩
structure CmOk (z : Int) (cs : List Int) : Prop where
  len : (cs.length : Int) = z
  nn : ∀ x ∈ cs, 0 ≤ x ∧ x ≤ 1000000000
theorem goes_nn {y : Wy} {s : Int} (h : 0 ≤ s) : 0 ≤ s - y.goes s ∧ s - y.goes s ≤ s := by
  unfold Wy.goes
  split
  · omega
  · split <;> omega
theorem CmOk.cm {z t : Int} {cs : List Int} (h : CmOk z cs) (hz : 1 ≤ z) : 0 ≤ cmA cs t ∧ cmA cs t ≤ 1000000000 := by
  obtain ⟨v, _, e⟩ := at_ints (t := t) (show 0 < cs.length by have := h.len; omega)
  unfold cmA
  rw [e]
  exact h.nn v (by
    unfold atI at e
    obtain ⟨j, _, hj⟩ := Option.bind_eq_some_iff.mp e
    exact List.mem_of_getElem? hj)
theorem qRun_nn {z : Int} {rs : List Sn} {n : List Nat} {y : Wy} {cs : List Int} {s : Int} (h : CmOk z cs) (hz : 1 ≤ z) (hs : 0 ≤ s) : ∀ k : Nat, 0 ≤ qRun z rs n y cs s k ∧ qRun z rs n y cs s k ≤ s + k * 1000000000
  | 0 => by unfold qRun; omega
  | k + 1 => by
    have ih := qRun_nn (rs := rs) (n := n) (y := y) h hz hs k
    have hc := h.cm (t := (k : Nat)) hz
    have g := goes_nn (y := y) (s := qRun z rs n y cs s k + cmA cs (k : Nat)) (by omega)
    unfold qRun qStep
    split <;> omega
theorem sum_nn : ∀ {cs : List Int}, (∀ x ∈ cs, 0 ≤ x ∧ x ≤ 1000000000) → 0 ≤ cs.sum ∧ cs.sum ≤ (cs.length : Int) * 1000000000
  | [], _ => by simp
  | c :: r, h => by
    have ih := sum_nn fun x hx => h x (List.mem_cons_of_mem _ hx)
    have := h c (List.mem_cons_self ..)
    rw [List.sum_cons, List.length_cons]
    omega
theorem growF_nn {z : Int} {rs : List Sn} {n : List Nat} {y : Wy} {cs : List Int} (h : CmOk z cs) (hz : z ≤ 240) : 0 ≤ growF z rs n y cs ∧ growF z rs n y cs ≤ 1000000000000 := by
  have := sum_nn h.nn
  have := h.len
  unfold growF
  split
  · omega
  · split <;> omega
theorem freeN_succ {z : Int} {rs : List Sn} {n : List Nat} {k : Nat} : freeN z rs n (k + 1) = freeN z rs n k + (if frB z rs n (k : Nat) = true then 1 else 0) := by
  unfold freeN
  rw [List.range_succ, List.countP_append]
  congr 1
  simp [List.countP_cons]
theorem kind_foot {y : Wy} (h : y.ok) : (kindN y.sort = tFOOT) = (y.sort = 11) := by
  rcases h with h | h | h <;> rw [h] <;> simp [kindN] <;> decide

abbrev sp_coming_by := spClo
def sp_stood_behind : WSp := fun ws G Q E => ∃ (c : Cr) (z : Int) (rs : List Sn) (n : List Nat) (x : W) (cs : List Int) (s t : Int) (T : Addr), ws = [pnW c z rs, .str n, x, .int s, .int t] ∧ PnOk c z rs ∧ CmAt G x cs ∧ 0 < cs.length ∧ 0 ≤ t ∧ t ≤ 1000 ∧ G T = some .tab ∧
  (n ∈ c.names → Q (.int (qRun z rs n (c.gw n) cs s t.toNat)) G) ∧ (n ∉ c.names → exS E (xNoWay n) G)

theorem len_stood_behind : ∀ ws G Q E, sp_stood_behind ws G Q E → ws.length = (["plan", "name", "comings", "stood", "turns"] : List Str).length := by
  intro ws G Q E h
  first
  | (obtain ⟨_, h, _⟩ := h; rw [h]; rfl)
  | (obtain ⟨_, _, h, _⟩ := h; rw [h]; rfl)
  | (obtain ⟨_, _, _, h, _⟩ := h; rw [h]; rfl)
  | (obtain ⟨_, _, _, _, h, _⟩ := h; rw [h]; rfl)
  | (obtain ⟨_, _, _, _, _, h, _⟩ := h; rw [h]; rfl)
  | (obtain ⟨_, _, _, _, _, _, h, _⟩ := h; rw [h]; rfl)
  | (obtain ⟨_, _, _, _, _, _, _, h, _⟩ := h; rw [h]; rfl)
  | (obtain ⟨_, _, _, _, _, _, _, _, h, _⟩ := h; rw [h]; rfl)
  | (obtain ⟨_, _, _, _, _, _, _, _, _, h, _⟩ := h; rw [h]; rfl)
  | (obtain ⟨_, _, _, _, _, _, _, _, _, _, h, _⟩ := h; rw [h]; rfl)
  | (obtain ⟨_, _, _, _, _, _, _, _, _, _, _, h, _⟩ := h; rw [h]; rfl)
  | (obtain ⟨_, _, _, _, _, _, _, _, _, _, _, _, h, _⟩ := h; rw [h]; rfl)
  | (obtain ⟨_, _, _, _, _, _, _, _, _, _, _, _, _, h, _⟩ := h; rw [h]; rfl)
  | (obtain ⟨_, _, _, _, _, _, _, _, _, _, _, _, _, _, h, _⟩ := h; rw [h]; rfl)
def bd_stood_behind_2 : WTS := (wAsg (wOp oSub (wVar 3) (wMeth 50 mt_goes [10, 11, 12] (wVar 5) (wCons (wVar 3) wNil))) (wN 3))
def bd_stood_behind_1_t2 : WTS := (wIfS (wTest (wCall sp_free (wCons (wVar 0) (wCons (wVar 1) (wCons (wVar 7) wNil))))) bd_stood_behind_2 wNext)
def bd_stood_behind_1 : WTS := wSeq (wAsg (wOp oAdd (wVar 3) (wCallClo (wVar 6) (wVar 7))) (wN 3)) bd_stood_behind_1_t2
def bd_stood_behind_t4 : WTS := (wRet (wVar 3))
def bd_stood_behind_t3 : WTS := wSeq (wFor (wRng1 (wCons (wVar 4) wNil)) (wN 7) bd_stood_behind_1) bd_stood_behind_t4
def bd_stood_behind_t2 : WTS := wSeq (wAsg (wCall sp_coming_by (wCons (wVar 2) wNil)) (wN 6)) bd_stood_behind_t3
def bd_stood_behind : WTS := wSeq (wAsg (wMeth 54 mt_called [13] (wFld 14 (wVar 0)) (wCons (wVar 1) wNil)) (wN 5)) bd_stood_behind_t2
theorem lpr_bd_stood_behind_1 {j : Int} {D : WEnds} {E : WXK} {G : WHp} {s0 s1 s2 s4 s5 s6 : Option W} {a3 : W} {o7 : Option W} (Inv : Nat → W → WHp → Prop) (h0 : Inv 0 a3 G) (hs : ∀ (i : Nat)  (a3 : W) (o7 : Option W) (G' : WHp), (i : Int) < j → Inv i a3 G' → bd_stood_behind_1 { nx := fun σ' G2 => ∃ (a3 : W) (o7 : Option W), σ' = [s0, s1, s2, some a3, s4, s5, s6, o7] ∧ Inv (i + 1) a3 G2, rt := D.rt, bk := D.nx, ct := fun σ' G2 => ∃ (a3 : W) (o7 : Option W), σ' = [s0, s1, s2, some a3, s4, s5, s6, o7] ∧ Inv (i + 1) a3 G2 } [s0, s1, s2, some a3, s4, s5, s6, some (.int (i : Nat))] G' E) (hd : ∀ (a3 : W) (o7 : Option W) (G' : WHp), Inv (j.toNat) a3 G' → D.nx [s0, s1, s2, some a3, s4, s5, s6, o7] G') : LoopOk ((wN 7)) bd_stood_behind_1 D [s0, s1, s2, some a3, s4, s5, s6, o7] E (rngW 0 j.toNat) (fun _ => True) G := by
  refine ⟨fun i => (fun σ' G2 => ∃ (a3 : W) (o7 : Option W), σ' = [s0, s1, s2, some a3, s4, s5, s6, o7] ∧ Inv i a3 G2), ⟨_, _, rfl, h0⟩, ?_, ?_, ?_⟩
  · intros; trivial
  · rintro i w σ' G' hw ⟨a3, o7, rfl, h⟩
    obtain ⟨hi, rfl⟩ := rngW_get hw; rw [Int.zero_add]; have : (i : Int) < j := by omega
    exact hs i a3 o7 G' (by assumption) h
  · rintro σ' G' ⟨a3, o7, rfl, h⟩
    rw [rngW_len] at h
    exact hd a3 o7 G' h
theorem w_stood_behind (ws : List W) (G : WHp) (Q : WQ) (Ex : Xc → WHp → Prop) (h : sp_stood_behind ws G Q Ex) : bd_stood_behind (endsW Q) (wStart ["plan", "name", "comings", "stood", "turns", "way", "come", "turn"] ws) G (fun c _ G' => Ex c G') := by
  obtain ⟨c, z, rs, n, x, cs, s, t, T, rfl, ok, hx, hl, t0, t1, hT, q, e⟩ := h
  have ho := ok.cr
  simp_arith! only [bd_stood_behind, pnW, pnF, crW, crF]
  refine ⟨c, n, rfl, ho, fun y hy => ?_, fun hn => e (fun h => by rw [gw_get h] at hn; cases hn)⟩
  obtain ⟨hm, hn⟩ := get_mem hy
  have hnn : n ∈ c.names := by rw [← hn]; exact List.mem_map.mpr ⟨y, hm, rfl⟩
  have hgw : c.gw n = y := by unfold Cr.gw; rw [hy]; rfl
  have q := q hnn
  rw [hgw] at q
  simp_arith! only [bd_stood_behind_t2]
  refine ⟨x, cs, T, rfl, hx.sqT, hT, ?_⟩
  simp_arith! only [bd_stood_behind_t3]
  refine ⟨by omega, by omega, lpr_bd_stood_behind_1 (fun i a3 G' => G' = G ∧ a3 = .int (qRun z rs n y cs s i)) ⟨rfl, rfl⟩ ?_ ?_⟩
  · rintro i a3 o7 G' hi ⟨rfl, rfl⟩
    obtain ⟨v, hv, hv2⟩ := at_ints (t := (i : Int)) hl
    have ev : v = cmA cs i := by unfold cmA; rw [hv2]; rfl
    simp_arith! only [bd_stood_behind_1]
    refine ⟨hl, v, hv, ?_⟩
    rw [ev]
    simp_arith! only [bd_stood_behind_1_t2]
    refine free_i (c := c) ok hnn ?_
    have st : qRun z rs n y cs s (i + 1) = qStep y (frB z rs n (i : Nat)) (cmA cs (i : Nat)) (qRun z rs n y cs s i) := rfl
    simp_arith! only [true_and]
    split
    · rename_i hf
      simp_arith! only [bd_stood_behind_2, wyW, wyF]
      refine ⟨so_mem (ho.all _ hm).so, goes_i (ho.all _ hm).so ?_⟩
      simp_arith! only [true_and]
      rw [st]
      unfold qStep
      rw [if_pos hf]
    · rename_i hf
      rw [st]
      unfold qStep
      rw [if_neg hf]
  · rintro a3 o7 G' ⟨rfl, rfl⟩
    simp_arith! only [bd_stood_behind_t4]
    exact q

def sp_grows : WSp := fun ws G Q E => ∃ (c : Cr) (z : Int) (rs : List Sn) (n : List Nat) (x : W) (cs : List Int), ws = [pnW c z rs, .str n, x] ∧ PnOk c z rs ∧ CmAt G x cs ∧
  (n ∈ c.names → Q (.int (growF z rs n (c.gw n) cs)) G) ∧ (n ∉ c.names → exS E (xNoWay n) G)

theorem len_grows : ∀ ws G Q E, sp_grows ws G Q E → ws.length = (["plan", "name", "comings"] : List Str).length := by
  intro ws G Q E h
  first
  | (obtain ⟨_, h, _⟩ := h; rw [h]; rfl)
  | (obtain ⟨_, _, h, _⟩ := h; rw [h]; rfl)
  | (obtain ⟨_, _, _, h, _⟩ := h; rw [h]; rfl)
  | (obtain ⟨_, _, _, _, h, _⟩ := h; rw [h]; rfl)
  | (obtain ⟨_, _, _, _, _, h, _⟩ := h; rw [h]; rfl)
  | (obtain ⟨_, _, _, _, _, _, h, _⟩ := h; rw [h]; rfl)
  | (obtain ⟨_, _, _, _, _, _, _, h, _⟩ := h; rw [h]; rfl)
  | (obtain ⟨_, _, _, _, _, _, _, _, h, _⟩ := h; rw [h]; rfl)
  | (obtain ⟨_, _, _, _, _, _, _, _, _, h, _⟩ := h; rw [h]; rfl)
  | (obtain ⟨_, _, _, _, _, _, _, _, _, _, h, _⟩ := h; rw [h]; rfl)
  | (obtain ⟨_, _, _, _, _, _, _, _, _, _, _, h, _⟩ := h; rw [h]; rfl)
  | (obtain ⟨_, _, _, _, _, _, _, _, _, _, _, _, h, _⟩ := h; rw [h]; rfl)
  | (obtain ⟨_, _, _, _, _, _, _, _, _, _, _, _, _, h, _⟩ := h; rw [h]; rfl)
  | (obtain ⟨_, _, _, _, _, _, _, _, _, _, _, _, _, _, h, _⟩ := h; rw [h]; rfl)
def bd_grows_1 : WTS := (wRet (wC (.int 0)))
def bd_grows_3 : WTS := (wAsg (wOp oAdd (wVar 3) (wC (.int 1))) (wN 3))
def bd_grows_2 : WTS := (wIfS (wTest (wCall sp_free (wCons (wVar 0) (wCons (wVar 1) (wCons (wVar 4) wNil))))) bd_grows_3 wNext)
def bd_grows_t4 : WTS := (wRet (wCB oMax2 (wCons (wC (.int 0)) (wCons (wOp oSub (wCB oSum (wCons (wVar 2) wNil)) (wVar 3)) wNil))))
def bd_grows_t3 : WTS := wSeq (wFor (wRng1 (wCons (wFld 15 (wVar 0)) wNil)) (wN 4) bd_grows_2) bd_grows_t4
def bd_grows_t2 : WTS := wSeq (wAsg (wC (.int 0)) (wN 3)) bd_grows_t3
def bd_grows : WTS := wSeq (wIfS (wTest (wOp oEq (wFld 6 (wMeth 54 mt_called [13] (wFld 14 (wVar 0)) (wCons (wVar 1) wNil))) (wC (.str tFOOT)))) bd_grows_1 wNext) bd_grows_t2
theorem lpr_bd_grows_2 {j : Int} {D : WEnds} {E : WXK} {G : WHp} {s0 s1 s2 : Option W} {a3 : W} {o4 : Option W} (Inv : Nat → W → WHp → Prop) (h0 : Inv 0 a3 G) (hs : ∀ (i : Nat)  (a3 : W) (o4 : Option W) (G' : WHp), (i : Int) < j → Inv i a3 G' → bd_grows_2 { nx := fun σ' G2 => ∃ (a3 : W) (o4 : Option W), σ' = [s0, s1, s2, some a3, o4] ∧ Inv (i + 1) a3 G2, rt := D.rt, bk := D.nx, ct := fun σ' G2 => ∃ (a3 : W) (o4 : Option W), σ' = [s0, s1, s2, some a3, o4] ∧ Inv (i + 1) a3 G2 } [s0, s1, s2, some a3, some (.int (i : Nat))] G' E) (hd : ∀ (a3 : W) (o4 : Option W) (G' : WHp), Inv (j.toNat) a3 G' → D.nx [s0, s1, s2, some a3, o4] G') : LoopOk ((wN 4)) bd_grows_2 D [s0, s1, s2, some a3, o4] E (rngW 0 j.toNat) (fun _ => True) G := by
  refine ⟨fun i => (fun σ' G2 => ∃ (a3 : W) (o4 : Option W), σ' = [s0, s1, s2, some a3, o4] ∧ Inv i a3 G2), ⟨_, _, rfl, h0⟩, ?_, ?_, ?_⟩
  · intros; trivial
  · rintro i w σ' G' hw ⟨a3, o4, rfl, h⟩
    obtain ⟨hi, rfl⟩ := rngW_get hw; rw [Int.zero_add]; have : (i : Int) < j := by omega
    exact hs i a3 o4 G' (by assumption) h
  · rintro σ' G' ⟨a3, o4, rfl, h⟩
    rw [rngW_len] at h
    exact hd a3 o4 G' h
theorem w_grows (ws : List W) (G : WHp) (Q : WQ) (Ex : Xc → WHp → Prop) (h : sp_grows ws G Q Ex) : bd_grows (endsW Q) (wStart ["plan", "name", "comings", "gone", "turn"] ws) G (fun c _ G' => Ex c G') := by
  obtain ⟨c, z, rs, n, x, cs, rfl, ok, hx, q, e⟩ := h
  have ho := ok.cr
  have hz0 := ok.z0
  have hz1 := ok.z1
  simp_arith! only [bd_grows, pnW, pnF, crW, crF]
  refine ⟨c, n, rfl, ho, fun y hy => ?_, fun hn => e (fun h => by rw [gw_get h] at hn; cases hn)⟩
  obtain ⟨hm, hn⟩ := get_mem hy
  have hnn : n ∈ c.names := by rw [← hn]; exact List.mem_map.mpr ⟨y, hm, rfl⟩
  have hgw : c.gw n = y := by unfold Cr.gw; rw [hy]; rfl
  have q := q hnn
  rw [hgw] at q
  unfold growF at q
  simp_arith! only [wyW, wyF, kind_foot (ho.all _ hm).so]
  split
  · rename_i hf
    rw [if_pos hf] at q
    simp_arith! only [bd_grows_1]
    exact q
  · rename_i hf
    rw [if_neg hf] at q
    simp_arith! only [bd_grows_t2]
    simp_arith! only [bd_grows_t3, pnW, pnF]
    refine ⟨by omega, by omega, lpr_bd_grows_2 (fun i a3 G' => G' = G ∧ a3 = .int (freeN z rs n i : Nat)) ⟨rfl, rfl⟩ ?_ ?_⟩
    · rintro i a3 o4 G' hi ⟨rfl, rfl⟩
      simp_arith! only [bd_grows_2, pnW, pnF]
      refine free_i (c := c) ok hnn ?_
      simp_arith! only [true_and]
      rw [freeN_succ]
      split
      · simp_arith! only [bd_grows_3]
        rfl
      · rfl
    · rintro a3 o4 G' ⟨rfl, rfl⟩
      simp_arith! only [bd_grows_t4]
      refine ⟨x, cs, rfl, hx.sq, ?_⟩
      simp_arith! only [true_and]
      exact q

def sp_queue : WSp := fun ws G Q E => ∃ (c : Cr) (z : Int) (rs : List Sn) (n : List Nat) (x : W) (cs : List Int) (t : Int) (T : Addr), ws = [pnW c z rs, .str n, x, .int t] ∧ PnOk c z rs ∧ CmAt G x cs ∧ CmOk z cs ∧ 0 ≤ t ∧ t.natAbs < 2 ^ 4000 ∧ G T = some .tab ∧
  (n ∈ c.names → Q (.int (queueF z rs n (c.gw n) cs t)) G) ∧ (n ∉ c.names → exS E (xNoWay n) G)

theorem len_queue : ∀ ws G Q E, sp_queue ws G Q E → ws.length = (["plan", "name", "comings", "turn"] : List Str).length := by
  intro ws G Q E h
  first
  | (obtain ⟨_, h, _⟩ := h; rw [h]; rfl)
  | (obtain ⟨_, _, h, _⟩ := h; rw [h]; rfl)
  | (obtain ⟨_, _, _, h, _⟩ := h; rw [h]; rfl)
  | (obtain ⟨_, _, _, _, h, _⟩ := h; rw [h]; rfl)
  | (obtain ⟨_, _, _, _, _, h, _⟩ := h; rw [h]; rfl)
  | (obtain ⟨_, _, _, _, _, _, h, _⟩ := h; rw [h]; rfl)
  | (obtain ⟨_, _, _, _, _, _, _, h, _⟩ := h; rw [h]; rfl)
  | (obtain ⟨_, _, _, _, _, _, _, _, h, _⟩ := h; rw [h]; rfl)
  | (obtain ⟨_, _, _, _, _, _, _, _, _, h, _⟩ := h; rw [h]; rfl)
  | (obtain ⟨_, _, _, _, _, _, _, _, _, _, h, _⟩ := h; rw [h]; rfl)
  | (obtain ⟨_, _, _, _, _, _, _, _, _, _, _, h, _⟩ := h; rw [h]; rfl)
  | (obtain ⟨_, _, _, _, _, _, _, _, _, _, _, _, h, _⟩ := h; rw [h]; rfl)
  | (obtain ⟨_, _, _, _, _, _, _, _, _, _, _, _, _, h, _⟩ := h; rw [h]; rfl)
  | (obtain ⟨_, _, _, _, _, _, _, _, _, _, _, _, _, _, h, _⟩ := h; rw [h]; rfl)
def bd_queue_1 : WTS := (wAsg (wOp oAdd (wCall sp_stood_behind (wCons (wVar 0) (wCons (wVar 1) (wCons (wVar 2) (wCons (wC (.int 0)) (wCons (wFld 15 (wVar 0)) wNil)))))) (wOp oMul (wOp oSub (wVar 5) (wC (.int 1))) (wCall sp_grows (wCons (wVar 0) (wCons (wVar 1) (wCons (wVar 2) wNil)))))) (wN 4))
def bd_queue_t4 : WTS := (wRet (wCall sp_stood_behind (wCons (wVar 0) (wCons (wVar 1) (wCons (wVar 2) (wCons (wVar 4) (wCons (wVar 6) wNil)))))))
def bd_queue_t3 : WTS := wSeq (wIfS (wTest (wOp oGt (wVar 5) (wC (.int 0)))) bd_queue_1 wNext) bd_queue_t4
def bd_queue_t2 : WTS := wSeq (wAsg (wC (.int 0)) (wN 4)) bd_queue_t3
def bd_queue : WTS := wSeq (wAsg (wCB oDivmod (wCons (wVar 3) (wCons (wFld 15 (wVar 0)) wNil))) (wGTup 2 (wGCons (wN 5) (wGCons (wN 6) wGNil)))) bd_queue_t2
theorem w_queue (ws : List W) (G : WHp) (Q : WQ) (Ex : Xc → WHp → Prop) (h : sp_queue ws G Q Ex) : bd_queue (endsW Q) (wStart ["plan", "name", "comings", "turn", "stood", "rounds", "rest"] ws) G (fun c _ G' => Ex c G') := by
  obtain ⟨c, z, rs, n, x, cs, t, T, rfl, ok, hx, hc, t0, t1, hT, q, e⟩ := h
  have hz0 := ok.z0
  have hz1 := ok.z1
  have hl : 0 < cs.length := by have := hc.len; omega
  have r0 := Int.emod_nonneg t (show z ≠ 0 by omega)
  have r1 := Int.emod_lt_of_pos t (show 0 < z by omega)
  simp_arith! only [bd_queue, pnW, pnF]
  refine ⟨divp_small t1 (by omega), ?_⟩
  simp_arith! only [bd_queue_t2]
  simp_arith! only [bd_queue_t3, pnW, pnF]
  have last : ∀ s : Int, s = (if 0 < t / z then qRun z rs n (c.gw n) cs 0 z.toNat + (t / z - 1) * growF z rs n (c.gw n) cs else 0) → bd_queue_t4 (endsW Q) [some (pnW c z rs), some (.str n), some x, some (.int t), some (.int s), some (.int (t / z)), some (.int (t % z))] G fun c _ G' => Ex c G' := by
    intro s hs
    simp_arith! only [bd_queue_t4]
    refine ⟨c, z, rs, n, x, cs, s, t % z, T, rfl, ok, hx, hl, r0, by omega, hT, fun hn => ?_, e⟩
    have q := q hn
    unfold queueF at q
    rw [← hs] at q
    exact q
  split
  · rename_i hp
    simp_arith! only [bd_queue_1, pnW, pnF]
    refine ⟨c, z, rs, n, x, cs, 0, z, T, rfl, ok, hx, hl, by omega, by omega, hT, fun hn => ?_, e⟩
    refine ⟨c, z, rs, n, x, cs, rfl, ok, hx, fun _ => ?_, fun h => absurd hn h⟩
    have g := growF_nn (rs := rs) (n := n) (y := c.gw n) hc hz1
    simp_arith! only [true_and]
    refine ⟨mulR g.1 g.2, ?_⟩
    have := last _ (by rw [if_pos hp])
    simp only [pnW, pnF] at this
    exact this
  · rename_i hp
    have := last 0 (by rw [if_neg hp])
    simp only [pnW, pnF] at this
    exact this

/-- what the law draws -/
def drawF (ns : List Int) (k m : Int) : Int :=
  let cell := if 0 < (ns.length : Int) then (atI ns (k % ns.length)).getD 0 else 0
  (cell % 1000003 + 31 * k * k + 1) * 48271 % 999983 * 7919 % 524287 % m
theorem drawF_lo {ns : List Int} {k m : Int} (h : 0 < m) : 0 ≤ drawF ns k m := Int.emod_nonneg _ (by omega)
theorem drawF_hi {ns : List Int} {k m : Int} (h : 0 < m) : drawF ns k m < m := Int.emod_lt_of_pos _ h
theorem isl (ns : List Int) : (List.map W.int (cutL ns none (some 12))).length ≤ 12 := by
  rw [show (12 : Int) = ((12 : Nat) : Int) from rfl, cut_head, List.length_map, List.length_take]
  exact Nat.min_le_left _ _
theorem le_size {n : Nat} (h : n ≤ 100000) : n ≤ sizeLine := by rw [big_eq, big]; omega

theorem spl_free {t : Nat} : ∀ (s : List Nat) (acc : List Nat), t ∉ s → TL.spl [t] 0 acc s = [acc ++ s]
  | [], acc, _ => by rw [TL.spl_nil]; simp
  | c :: r, acc, h => by
    rw [spl_one, if_neg (fun e => h (by rw [e]; simp)), spl_free r _ (fun z => h (by simp [z]))]
    simp
theorem spl_sep {t : Nat} : ∀ (s : List Nat) (acc r : List Nat), t ∉ s → TL.spl [t] 0 acc (s ++ t :: r) = (acc ++ s) :: TL.spl [t] 0 [] r
  | [], acc, r, _ => by rw [List.nil_append, spl_one, if_pos rfl]; simp
  | c :: s, acc, r, h => by
    rw [List.cons_append, spl_one, if_neg (fun e => h (by rw [e]; simp)), spl_sep s _ r (fun z => h (by simp [z]))]
    simp
/-- cut again what was joined -/
theorem split_join {t : Nat} : ∀ (ss : List (List Nat)), ss ≠ [] → (∀ s ∈ ss, t ∉ s) → splitL [t] (TL.joinL [t] ss) = ss
  | [s], _, h => by
    show TL.spl [t] 0 [] s = [s]
    rw [spl_free s [] (h s (by simp))]; simp
  | s :: u :: r, _, h => by
    have ih := split_join (u :: r) (by simp) fun z hz => h z (by simp [hz])
    show TL.spl [t] 0 [] (TL.joinL [t] (s :: u :: r)) = _
    have e : TL.joinL [t] (s :: u :: r) = s ++ t :: TL.joinL [t] (u :: r) := by simp [TL.joinL]
    rw [e, spl_sep s [] _ (h s (by simp))]
    unfold splitL at ih
    rw [ih]; simp
theorem numL_fig : ∀ m, m < 1000 → figOk (TL.numL m) = true ∧ numV (TL.numL m) = (m : Int) := by decide +kernel
theorem figV_str {n lo hi : Int} (h0 : 0 ≤ n) (h1 : n < 1000) (h2 : lo ≤ n) (h3 : n ≤ hi) : figV (strI n) lo hi = some n := by
  obtain ⟨m, rfl⟩ := Int.eq_ofNat_of_zero_le h0
  have := numL_fig m (by omega)
  unfold figV
  rw [show strI ((m : Nat) : Int) = TL.numL m from strI_nat m, this.2, if_pos ⟨this.1, h2, h3⟩]
theorem strI_digits {n : Int} (h0 : 0 ≤ n) (h1 : n < 1000) : ∀ c ∈ strI n, 48 ≤ c ∧ c ≤ 57 := by
  obtain ⟨m, rfl⟩ := Int.eq_ofNat_of_zero_le h0
  have := (numL_fig m (by omega)).1
  rw [show strI ((m : Nat) : Int) = TL.numL m from strI_nat m]
  simp only [figOk, Bool.and_eq_true] at this
  exact fun c hc => FIG_mem.mp (allIn_iff.mp this.2 c hc)
theorem strI_len3 {n : Int} (h0 : 0 ≤ n) (h1 : n < 1000) : (strI n).length ≤ 3 := strI_len n h0 h1
theorem log_n {n : Int} (h0 : 0 ≤ n) (h : n < 10 ^ 70) : n.natAbs.log2 < 1920 := log_ok (k := 300) (by omega) (Int.lt_of_lt_of_le h (by decide)) (by decide)
/-- a way's row, a crossing's text -/
def wayR (y : Wy) : List (List Nat) := [kindN y.sort, y.name, strI y.start, strI y.stop, strI y.off, strI y.near, strI y.least]
def crRows (c : Cr) : List (List (List Nat)) := [tRING, strI c.places] :: c.ways.map wayR
def textOf (rows : List (List (List Nat))) : List Nat := TL.joinL [10] (rows.map (TL.joinL [32]))
def crText (c : Cr) : List Nat := textOf (crRows c)
/-- a word with neither blank nor line end -/
abbrev plainW (s : List Nat) : Prop := 32 ∉ s ∧ 10 ∉ s
theorem plain_digits {n : Int} (h0 : 0 ≤ n) (h1 : n < 1000) : plainW (strI n) := ⟨fun h => by have := strI_digits h0 h1 _ h; omega, fun h => by have := strI_digits h0 h1 _ h; omega⟩
theorem plain_name {s : List Nat} (h : isNameL s) : plainW s := ⟨fun z => by have := h.2.2 _ z; omega, fun z => by have := h.2.2 _ z; omega⟩
theorem joinL_mem {t c : Nat} : ∀ {ss : List (List Nat)}, c ∈ TL.joinL [t] ss → c = t ∨ ∃ s ∈ ss, c ∈ s
  | [], h => by simp [TL.joinL] at h
  | [s], h => .inr ⟨s, by simp, by simpa [TL.joinL] using h⟩
  | s :: u :: r, h => by
    have e : TL.joinL [t] (s :: u :: r) = s ++ t :: TL.joinL [t] (u :: r) := by simp [TL.joinL]
    rw [e] at h
    rcases List.mem_append.mp h with h | h
    · exact .inr ⟨s, by simp, h⟩
    · rcases List.mem_cons.mp h with h | h
      · exact .inl h
      · rcases joinL_mem h with h | ⟨z, hz, hc⟩
        · exact .inl h
        · exact .inr ⟨z, by simp [hz], hc⟩
theorem rowsOf_text {rows : List (List (List Nat))} (hn : rows ≠ []) (h : ∀ r ∈ rows, r ≠ [] ∧ ∀ w ∈ r, plainW w) : rowsOf (textOf rows) = rows := by
  unfold rowsOf textOf
  rw [split_join _ (by simpa using hn) fun s hs => ?_]
  · rw [List.map_map]
    conv => rhs; rw [← List.map_id rows]
    refine List.map_congr_left fun r hr => ?_
    exact split_join r (h r hr).1 fun w hw => ((h r hr).2 w hw).1
  · obtain ⟨r, hr, rfl⟩ := List.mem_map.mp hs
    intro z
    rcases joinL_mem z with z | ⟨w, hw, hc⟩
    · cases z
    · exact ((h r hr).2 w hw).2 hc
theorem kindN_plain (k : Nat) : plainW (kindN k) := by unfold kindN; split; decide; split; decide; decide
theorem wayR_plain {y : Wy} {p : Int} (h : y.okP p) (hp : p ≤ 99) : wayR y ≠ [] ∧ ∀ w ∈ wayR y, plainW w := by
  obtain ⟨a, s0, s1, e0, e1, ne, o0, o1, n0, n1, l0, l1, nm⟩ := h
  refine ⟨by simp [wayR], fun w hw => ?_⟩
  simp only [wayR, List.mem_cons, List.not_mem_nil, or_false] at hw
  rcases hw with rfl | rfl | rfl | rfl | rfl | rfl | rfl
  · exact kindN_plain _
  · exact plain_name nm
  · exact plain_digits s0 (by omega)
  · exact plain_digits e0 (by omega)
  · exact plain_digits o0 (by omega)
  · exact plain_digits n0 (by omega)
  · exact plain_digits (by omega) (by omega)
theorem crRows_plain {c : Cr} (h : c.ok) : ∀ r ∈ crRows c, r ≠ [] ∧ ∀ w ∈ r, plainW w := fun r hr => by
  rcases List.mem_cons.mp hr with rfl | hr
  · refine ⟨by simp, fun w hw => ?_⟩
    simp only [List.mem_cons, List.not_mem_nil, or_false] at hw
    rcases hw with rfl | rfl
    · decide
    · exact plain_digits (by have := h.p0; omega) (by have := h.p1; omega)
  · obtain ⟨y, hy, rfl⟩ := List.mem_map.mp hr
    exact wayR_plain (h.all y hy) h.p1
theorem sort_kind {y : Wy} (h : y.ok) : isSort (kindN y.sort) = true ∧ sortK (kindN y.sort) = y.sort := by
  rcases h with h | h | h <;> rw [h] <;> decide
theorem wayP_row {y : Wy} {p at_ : Int} {taken : List (List Nat)} (h : y.okP p) (hp : p ≤ 99) (ha : at_ ≤ 12) (ht : y.name ∉ taken) : wayP at_ (wayR y) p taken = .ok y := by
  obtain ⟨a, s0, s1, e0, e1, ne, o0, o1, n0, n1, l0, l1, nm⟩ := h
  have sk := sort_kind a
  have g0 : (wayR y).getD 0 [] = kindN y.sort := rfl
  have g1 : (wayR y).getD 1 [] = y.name := rfl
  have nums : numsP at_ (wayR y) p = .ok [y.start, y.stop, y.off, y.near, y.least] := by
    have l7 : (wayR y).length = 7 := rfl
    have k0 : numsTo at_ (wayR y) p 1 = .ok [y.start] := by
      simp only [numsTo, l7]
      rw [if_neg (by omega), show (wayR y).getD (2 + 0) [] = strI y.start from rfl, figV_str s0 (by omega) (by simp [bndLo]; omega) (by simp [bndHi]; omega)]
      rfl
    have k1 : numsTo at_ (wayR y) p 2 = .ok [y.start, y.stop] := by
      rw [numsTo, k0]
      simp only [l7]
      rw [if_neg (by omega), show (wayR y).getD (2 + 1) [] = strI y.stop from rfl, figV_str e0 (by omega) (by simp [bndLo]; omega) (by simp [bndHi]; omega)]
      simp only []
      rw [if_neg (fun z => ne (by have := z.2; simpa using this.symm))]
      rfl
    have k2 : numsTo at_ (wayR y) p 3 = .ok [y.start, y.stop, y.off] := by
      rw [numsTo, k1]
      simp only [l7]
      rw [if_neg (by omega), show (wayR y).getD (2 + 2) [] = strI y.off from rfl, figV_str o0 (by omega) (by simp [bndLo]; omega) (by simp [bndHi]; omega)]
      rfl
    have k3 : numsTo at_ (wayR y) p 4 = .ok [y.start, y.stop, y.off, y.near] := by
      rw [numsTo, k2]
      simp only [l7]
      rw [if_neg (by omega), show (wayR y).getD (2 + 3) [] = strI y.near from rfl, figV_str n0 (by omega) (by simp [bndLo]; omega) (by simp [bndHi]; omega)]
      rfl
    have k4 : numsTo at_ (wayR y) p 5 = .ok [y.start, y.stop, y.off, y.near, y.least] := by
      rw [numsTo, k3]
      simp only [l7]
      rw [if_neg (by omega), show (wayR y).getD (2 + 4) [] = strI y.least from rfl, figV_str (by omega) (by omega) (by simp [bndLo]; omega) (by simp [bndHi]; omega)]
      rfl
    unfold numsP
    rw [k4]
    simp only [l7]
    rw [if_neg (by omega)]
  unfold wayP
  have l7 : (wayR y).length = 7 := rfl
  rw [g0, g1, sk.1, isName_L.mpr nm, nums, if_neg (by simp; omega), if_neg (by rw [l7]; simp; exact ht)]
  simp only [sk.2]
  rfl
theorem waysTo_rows {c : Cr} (h : c.ok) : ∀ k, k ≤ c.ways.length → waysTo (crRows c) c.places k = .ok (c.ways.take k)
  | 0, _ => rfl
  | k + 1, hk => by
    have hlt : k < c.ways.length := hk
    have hy := List.getElem?_eq_getElem hlt
    rw [waysTo, waysTo_rows h k (by omega)]
    have hr : (crRows c).getD (1 + k) [] = wayR c.ways[k] := by
      rw [Nat.add_comm]
      simp [crRows, List.getD, hy]
    simp only [hr]
    have hlen := h.len
    rw [wayP_row (h.all _ (List.getElem_mem hlt)) h.p1 (by omega) ?_]
    · simp only []
      rw [List.take_add_one, hy]; rfl
    · intro hm
      obtain ⟨z, hz, hz2⟩ := List.mem_map.mp hm
      obtain ⟨i, hi⟩ := List.getElem?_of_mem hz
      rw [List.getElem?_take] at hi
      split at hi
      · rename_i hik
        have nd := h.nd
        unfold Cr.names at nd
        have e1 : (c.ways.map (·.name))[i]? = some z.name := by rw [List.getElem?_map, hi]; rfl
        have e2 : (c.ways.map (·.name))[k]? = some c.ways[k].name := by rw [List.getElem?_map, hy]; rfl
        rw [← hz2] at e2
        have hi' := (List.getElem?_eq_some_iff.mp e1)
        have hk' := (List.getElem?_eq_some_iff.mp e2)
        have := (List.getElem_inj nd).mp (hi'.2.trans hk'.2.symm)
        omega
      · cases hi
/-- a crossing's text is read as that crossing -/
theorem crossP_text {c : Cr} (h : c.ok) : crossP (crText c) = .ok c := by
  have hne : 0 < c.ways.length := List.length_pos_iff.mpr h.ne
  unfold crossP crText
  rw [rowsOf_text (by simp [crRows]) (crRows_plain h)]
  have hh : headP ((crRows c).getD 0 []) = .ok c.places := by
    show headP [tRING, strI c.places] = _
    unfold headP
    rw [if_neg (by simp), if_neg (by simp), show ([tRING, strI c.places] : List (List Nat)).getD 1 [] = strI c.places from rfl, figV_str (by have := h.p0; omega) (by have := h.p1; omega) h.p0 h.p1]
    rfl
  rw [hh]
  simp only []
  have hl : (crRows c).length = c.ways.length + 1 := by simp [crRows]
  rw [if_neg (by omega), hl, Nat.add_sub_cancel, waysTo_rows h _ (Nat.le_refl _), List.take_length]
theorem kindN_len (k : Nat) : (kindN k).length ≤ 4 := by unfold kindN; split; decide; split; decide; decide
theorem rot_ne {s d f : Int} (h0 : 0 ≤ s) (h1 : s < f) (h2 : 0 ≤ d) (h3 : d < f - 1) : 0 ≤ (s + 1 + d) % f ∧ (s + 1 + d) % f < f ∧ s ≠ (s + 1 + d) % f := by
  refine ⟨Int.emod_nonneg _ (by omega), Int.emod_lt_of_pos _ (by omega), fun e => ?_⟩
  by_cases h : s + 1 + d < f
  · rw [Int.emod_eq_of_lt (by omega) h] at e; omega
  · have : (s + 1 + d) % f = (s + 1 + d - f) % f := by rw [Int.sub_emod_right]
    rw [this, Int.emod_eq_of_lt (by omega) (by omega)] at e; omega
theorem sort_at {k : Int} (h0 : 0 ≤ k) (h : k < 3) : ∃ n : Nat, (n = 10 ∨ n = 11 ∨ n = 12) ∧ atI [W.str tCAR, W.str tFOOT, W.str tTRAM] k = some (.str (kindN n)) := by
  have : k = 0 ∨ k = 1 ∨ k = 2 := by omega
  rcases this with rfl | rfl | rfl
  · exact ⟨10, .inl rfl, rfl⟩
  · exact ⟨11, .inr (.inl rfl), rfl⟩
  · exact ⟨12, .inr (.inr rfl), rfl⟩
/-- names that begin with unlike letters -/
theorem nodup_heads {ys : List Wy} (h : ∀ (j : Nat) (y : Wy), ys[j]? = some y → y.name.head? = some (97 + j)) : (ys.map (·.name)).Nodup := by
  show List.Pairwise _ _
  rw [List.pairwise_iff_getElem]
  intro i j hi hj hij e
  rw [List.length_map] at hi hj
  rw [List.getElem_map, List.getElem_map] at e
  have a := h i _ (List.getElem?_eq_getElem hi)
  have b := h j _ (List.getElem?_eq_getElem hj)
  rw [e, b] at a
  have := Option.some.inj a
  omega
theorem joinL_length {t : Nat} : ∀ (ss : List (List Nat)) (m : Nat), (∀ s ∈ ss, s.length ≤ m) → (TL.joinL [t] ss).length ≤ ss.length * (m + 1)
  | [], m, _ => by simp [TL.joinL]
  | [s], m, h => by have := h s (by simp); simp [TL.joinL]; omega
  | s :: u :: r, m, h => by
    have e : TL.joinL [t] (s :: u :: r) = s ++ t :: TL.joinL [t] (u :: r) := by simp [TL.joinL]
    have ih := joinL_length (t := t) (u :: r) m fun z hz => h z (by simp [hz])
    have := h s (by simp)
    rw [e]
    simp only [List.length_append, List.length_cons] at ih ⊢
    rw [Nat.succ_mul]
    rw [Nat.succ_mul] at ih ⊢
    omega
theorem wayR_len {y : Wy} {p : Int} (h : y.okP p) (hp : p ≤ 99) : (TL.joinL [32] (wayR y)).length ≤ 63 := by
  have := joinL_length (t := 32) (wayR y) 8 fun s hs => ?_
  · simpa [wayR] using this
  · obtain ⟨a, s0, s1, e0, e1, ne, o0, o1, n0, n1, l0, l1, nm⟩ := h
    simp only [wayR, List.mem_cons, List.not_mem_nil, or_false] at hs
    rcases hs with rfl | rfl | rfl | rfl | rfl | rfl | rfl
    · have := kindN_len y.sort; omega
    · exact nm.2.1
    · have := strI_len3 s0 (by omega); omega
    · have := strI_len3 e0 (by omega); omega
    · have := strI_len3 o0 (by omega); omega
    · have := strI_len3 n0 (by omega); omega
    · have := strI_len3 (n := y.least) (by omega) (by omega); omega
theorem crText_len {c : Cr} (h : c.ok) : (crText c).length ≤ 1000 := by
  have := joinL_length (t := 10) ((crRows c).map (TL.joinL [32])) 63 fun s hs => ?_
  · have hl := h.len
    simp only [List.length_map, crRows, List.length_cons] at this
    unfold crText textOf
    simp only [crRows] at this ⊢
    omega
  · obtain ⟨r, hr, rfl⟩ := List.mem_map.mp hs
    rcases List.mem_cons.mp hr with rfl | hr
    · have := strI_len3 (n := c.places) (by have := h.p0; omega) (by have := h.p1; omega)
      simp [TL.joinL, tRING]; omega
    · obtain ⟨y, hy, rfl⟩ := List.mem_map.mp hr
      exact wayR_len (h.all y hy) h.p1
/-- the rows' texts of a crossing -/
def rowTs (c : Cr) : List (List Nat) := (tRING ++ [32] ++ strI c.places) :: c.ways.map fun y => TL.joinL [32] (wayR y)
theorem crText_eq (c : Cr) : crText c = TL.joinL [10] (rowTs c) := by
  unfold crText textOf crRows rowTs
  simp [TL.joinL, List.map_map, Function.comp_def]
theorem rowTs_sum {c : Cr} (h : c.ok) : ((rowTs c).map (·.length)).sum + (rowTs c).length * ([10] : List Nat).length ≤ 16777216 := by
  have e := joinL_len 10 (rowTs c) (by simp [rowTs])
  rw [← crText_eq] at e
  have := crText_len h
  simp only [List.length_singleton, Nat.mul_one]
  omega

/-- a way, as the law holds it -/
def tw7 (y : Wy) : W := .tup [.str (kindN y.sort), .str y.name, .int y.start, .int y.stop, .int y.off, .int y.near, .int y.least]


/-! a way, its spans, its plan -/
structure Wy46 (y : Wy) : Prop where
  so : y.ok
  nm : y.name = [97] ∨ y.name = [98]
  st : y.start = 0
  e0 : 1 ≤ y.stop
  e1 : y.stop ≤ 5
  o0 : 0 ≤ y.off
  o1 : y.off ≤ 4
  nr : y.near = 0
  le : y.least = 1
def idF (y : Wy) : Int := if y.sort = 11 then y.off else 3
theorem Wy46.rf {y : Wy} (h : Wy46 y) : y.fade + y.ready = idF y ∧ 0 ≤ idF y ∧ idF y ≤ 4 := by
  have := h.o0
  have := h.o1
  unfold Wy.fade Wy.ready idF
  rcases h.so with e | e | e <;> rw [e] <;> simp <;> omega
def oth46 : Wy := ⟨10, [99], 0, 6, 0, 0, 1⟩
theorem sort46 {k : Int} (h0 : 0 ≤ k) (h : k < 3) : ∃ n : Nat, (n = 10 ∨ n = 11 ∨ n = 12) ∧ atI [W.str tCAR, W.str tFOOT, W.str tTRAM] k = some (.str (kindN n)) := by
  have : k = 0 ∨ k = 1 ∨ k = 2 := by omega
  rcases this with rfl | rfl | rfl
  · exact ⟨10, .inl rfl, rfl⟩
  · exact ⟨11, .inr (.inl rfl), rfl⟩
  · exact ⟨12, .inr (.inr rfl), rfl⟩
theorem sort3 {k : Nat} {a b d : Int} {G : WHp} {Q : WQ} (hk : k = 10 ∨ k = 11 ∨ k = 12) (q : Q (.int (if k = 10 then a else if k = 11 then b else d)) G) :
    oDget (.dk (mergeW [] [(.inr tCAR, .int a), (.inr tFOOT, .int b), (.inr tTRAM, .int d)])) (.str (kindN k)) G Q := by
  rcases hk with rfl | rfl | rfl
  · exact ⟨_, .inr (kindN 10), .int a, rfl, rfl, rfl, q⟩
  · exact ⟨_, .inr (kindN 11), .int b, rfl, rfl, rfl, q⟩
  · exact ⟨_, .inr (kindN 12), .int d, rfl, rfl, rfl, q⟩
def mnF (ns : List Int) (y : Wy) (z : Int) : Int :=
  let m := if z / (idF y + 1) < 1 + drawF ns 60 3 then z / (idF y + 1) else 1 + drawF ns 60 3
  if m > 1 then m else 1
def ptF (ns : List Int) (y : Wy) (z : Int) : Int := z / mnF ns y z
def tK (ns : List Int) (y : Wy) (z : Int) (k : Nat) : Int := 1 + drawF ns (62 + (k : Int)) (ptF ns y z - idF y)
def eK (ns : List Int) (y : Wy) (z : Int) (k : Nat) : Int := drawF ns (66 + (k : Int)) (ptF ns y z - idF y - tK ns y z k + 1)
def spK (ns : List Int) (y : Wy) (z : Int) (k : Nat) : Int × Int := ((drawF ns 61 z + (k : Int) * ptF ns y z + eK ns y z k) % z, tK ns y z k)
def spF (ns : List Int) (y : Wy) (z : Int) : List (Int × Int) := (List.range (mnF ns y z).toNat).map (spK ns y z)
def spW2 (s : Int × Int) : W := .tup [.int s.1, .int s.2]
def freF (sp : List (Int × Int)) (z t : Int) : Bool := sp.any fun s => decide ((t - s.1) % z < s.2)
theorem mnF_is {ns : List Int} {y : Wy} {z : Int} (hy : Wy46 y) (z0 : 5 ≤ z) (z1 : z ≤ 60) : (mnF ns y z = 1 ∨ mnF ns y z = 2 ∨ mnF ns y z = 3) ∧ mnF ns y z * (idF y + 1) ≤ z := by
  have d0 := drawF_lo (ns := ns) (k := 60) (m := 3) (by decide)
  have d1 := drawF_hi (ns := ns) (k := 60) (m := 3) (by decide)
  obtain ⟨_, i0, i1⟩ := hy.rf
  have h1 : 1 ≤ z / (idF y + 1) := (Int.le_ediv_iff_mul_le (by omega)).mpr (by omega)
  have h2 := Int.ediv_mul_le z (show idF y + 1 ≠ 0 by omega)
  unfold mnF
  generalize drawF ns 60 3 = d at *
  generalize hq : z / (idF y + 1) = q at *
  have e : (if (if q < 1 + d then q else 1 + d) > 1 then (if q < 1 + d then q else 1 + d) else 1) = (if q < 1 + d then q else 1 + d) := by
    split <;> split <;> omega
  show ((if (if q < 1 + d then q else 1 + d) > 1 then (if q < 1 + d then q else 1 + d) else 1) = 1 ∨ _ ∨ _) ∧ (if (if q < 1 + d then q else 1 + d) > 1 then (if q < 1 + d then q else 1 + d) else 1) * (idF y + 1) ≤ z
  rw [e]
  have : (if q < 1 + d then q else 1 + d) ≤ q := by split <;> omega
  refine ⟨by split <;> omega, Int.le_trans (Int.mul_le_mul_of_nonneg_right this (by omega)) h2⟩
theorem ptF_is {ns : List Int} {y : Wy} {z : Int} (hy : Wy46 y) (z0 : 5 ≤ z) (z1 : z ≤ 60) : idF y + 1 ≤ ptF ns y z ∧ mnF ns y z * ptF ns y z ≤ z ∧ ptF ns y z ≤ z := by
  obtain ⟨m, hm⟩ := mnF_is (ns := ns) hy z0 z1
  have hp : 0 < mnF ns y z := by rcases m with m | m | m <;> omega
  unfold ptF
  have a := (Int.le_ediv_iff_mul_le (a := idF y + 1) (b := z) hp).mpr (by rw [Int.mul_comm]; exact hm)
  have b := Int.ediv_mul_le z (show mnF ns y z ≠ 0 by omega)
  have c := Int.ediv_le_self (a := z) (mnF ns y z) (by omega)
  exact ⟨a, by rw [Int.mul_comm]; exact b, c⟩
theorem tK_is {ns : List Int} {y : Wy} {z : Int} {k : Nat} (hy : Wy46 y) (z0 : 5 ≤ z) (z1 : z ≤ 60) : 1 ≤ tK ns y z k ∧ 0 ≤ eK ns y z k ∧ eK ns y z k + tK ns y z k + idF y ≤ ptF ns y z := by
  obtain ⟨a, b, c⟩ := ptF_is (ns := ns) hy z0 z1
  have h0 := drawF_lo (ns := ns) (k := 62 + (k : Int)) (m := ptF ns y z - idF y) (by omega)
  have h1 := drawF_hi (ns := ns) (k := 62 + (k : Int)) (m := ptF ns y z - idF y) (by omega)
  have ht : 1 ≤ tK ns y z k ∧ tK ns y z k ≤ ptF ns y z - idF y := by unfold tK; omega
  have g0 := drawF_lo (ns := ns) (k := 66 + (k : Int)) (m := ptF ns y z - idF y - tK ns y z k + 1) (by omega)
  have g1 := drawF_hi (ns := ns) (k := 66 + (k : Int)) (m := ptF ns y z - idF y - tK ns y z k + 1) (by omega)
  have he : eK ns y z k = drawF ns (66 + (k : Int)) (ptF ns y z - idF y - tK ns y z k + 1) := rfl
  omega
theorem sp_far {ns : List Int} {y : Wy} {z : Int} (hy : Wy46 y) (z0 : 5 ≤ z) (z1 : z ≤ 60) {i k : Nat} (hi : i < (mnF ns y z).toNat) (hk : k < (mnF ns y z).toNat) (hik : i ≠ k) : (spK ns y z k).2 + idF y ≤ ((spK ns y z i).1 - (spK ns y z k).1) % z := by
  obtain ⟨m, _⟩ := mnF_is (ns := ns) hy z0 z1
  obtain ⟨_, hp, _⟩ := ptF_is (ns := ns) hy z0 z1
  obtain ⟨t0, a0, a1⟩ := tK_is (ns := ns) (k := k) hy z0 z1
  obtain ⟨t0', b0, b1⟩ := tK_is (ns := ns) (k := i) hy z0 z1
  obtain ⟨_, i0, i1⟩ := hy.rf
  show tK ns y z k + idF y ≤ ((drawF ns 61 z + (i : Int) * ptF ns y z + eK ns y z i) % z - (drawF ns 61 z + (k : Int) * ptF ns y z + eK ns y z k) % z) % z
  rw [← Int.sub_emod]
  generalize drawF ns 61 z = sh
  generalize eK ns y z i = ei at *
  generalize eK ns y z k = ek at *
  generalize tK ns y z i = ti at *
  generalize tK ns y z k = tk at *
  generalize ptF ns y z = p at *
  generalize mnF ns y z = mn at *
  have up : ∀ d : Int, d = sh + (i : Int) * p + ei - (sh + (k : Int) * p + ek) → (tk + idF y ≤ d ∧ d < z) ∨ (tk + idF y ≤ d + z ∧ d < 0 ∧ 0 ≤ d + z) → tk + idF y ≤ (sh + (i : Int) * p + ei - (sh + (k : Int) * p + ek)) % z := by
    rintro d rfl (⟨h1, h2⟩ | ⟨h1, h2, h3⟩)
    · rw [Int.emod_eq_of_lt (by omega) h2]; exact h1
    · rw [← Int.add_emod_right, Int.emod_eq_of_lt (by omega) (by omega)]; exact h1
  have ci : i = 0 ∨ i = 1 ∨ i = 2 := by omega
  have ck : k = 0 ∨ k = 1 ∨ k = 2 := by omega
  refine up _ rfl ?_
  rcases m with rfl | rfl | rfl <;> rcases ci with rfl | rfl | rfl <;> rcases ck with rfl | rfl | rfl <;> (try simp only [Nat.cast_zero, Nat.cast_one, Nat.cast_ofNat, Int.ofNat_zero, Int.ofNat_one, Int.natCast_zero, Int.natCast_one, Int.zero_mul, Int.one_mul]) <;> omega

/-! the plan of such spans, another way's span put in -/
def snOf (y : Wy) (s : Int × Int) : Sn := ⟨y.name, s.1, s.2⟩
def oSn : Sn := ⟨[99], 0, 1⟩
def rs46 (ns : List Int) (y : Wy) (z : Int) (d : Nat) : List Sn := ((spF ns y z).map (snOf y)).take d ++ [oSn] ++ ((spF ns y z).map (snOf y)).drop d
structure Cr46 (y : Wy) (c : Cr) : Prop where
  pl : c.places = 9
  ws : c.ways = [y, oth46] ∨ c.ways = [oth46, y]
theorem Wy46.ne {y : Wy} (h : Wy46 y) : y.name ≠ [99] := by rcases h.nm with e | e <;> rw [e] <;> decide
theorem Wy46.okP {y : Wy} (h : Wy46 y) : y.okP 9 := by
  obtain ⟨so, nm, st, e0, e1, o0, o1, nr, le⟩ := h
  refine ⟨so, by omega, by omega, by omega, by omega, by omega, o0, by omega, by omega, by omega, by omega, by omega, ?_⟩
  rcases nm with e | e <;> rw [e] <;> exact ⟨by decide, by decide, by decide⟩
theorem oth_ok : oth46.okP 9 := ⟨.inl rfl, by decide, by decide, by decide, by decide, by decide, by decide, by decide, by decide, by decide, by decide, by decide, ⟨by decide, by decide, by decide⟩⟩
theorem Cr46.mem {y : Wy} {c : Cr} (h : Cr46 y c) {w : Wy} (hw : w ∈ c.ways) : w = y ∨ w = oth46 := by
  rcases h.ws with e | e <;> rw [e] at hw <;> simp at hw
  · exact hw
  · exact hw.symm
theorem Cr46.y {y : Wy} {c : Cr} (h : Cr46 y c) : y ∈ c.ways ∧ oth46 ∈ c.ways := by rcases h.ws with e | e <;> rw [e] <;> simp
theorem Cr46.ok {y : Wy} {c : Cr} (h : Cr46 y c) (hy : Wy46 y) : c.ok := by
  have pl := h.pl
  have hn : y.name ≠ oth46.name := hy.ne
  refine ⟨?_, ?_, by omega, by omega, fun w hw => ?_, ?_⟩
  · rcases h.ws with e | e <;> rw [e] <;> simp
  · rcases h.ws with e | e <;> rw [e] <;> simp
  · rw [pl]
    rcases h.mem hw with rfl | rfl
    · exact hy.okP
    · exact oth_ok
  · unfold Cr.names
    rcases h.ws with e | e <;> rw [e] <;> simp [hn, hn.symm]
theorem Cr46.gw {y : Wy} {c : Cr} (h : Cr46 y c) (hy : Wy46 y) : c.gw y.name = y ∧ c.gw [99] = oth46 := by
  have ho := h.ok hy
  constructor
  · unfold Cr.gw; rw [get_self ho.nd h.y.1]; rfl
  · have := get_self ho.nd h.y.2
    unfold Cr.gw; rw [show ([99] : List Nat) = oth46.name from rfl, this]; rfl
theorem Cr46.nm {y : Wy} {c : Cr} (h : Cr46 y c) : y.name ∈ c.names ∧ [99] ∈ c.names ∧ ∀ n ∈ c.names, n = y.name ∨ n = [99] :=
  ⟨List.mem_map.mpr ⟨y, h.y.1, rfl⟩, List.mem_map.mpr ⟨oth46, h.y.2, rfl⟩, fun n hn => by
    obtain ⟨w, hw, rfl⟩ := List.mem_map.mp hn
    rcases h.mem hw with rfl | rfl
    · exact .inl rfl
    · exact .inr rfl⟩
theorem room_ge {z : Int} {rs : List Sn} {k : Nat} {x : Int} (hz : x ≤ z) (h : ∀ i, i < rs.length → i ≠ k → (spAt rs i).n = (spAt rs k).n → x ≤ ((spAt rs i).b - (spAt rs k).b) % z) : x ≤ roomP z rs k := by
  have : ∀ m, m ≤ rs.length → x ≤ roomTo z rs k m := by
    intro m
    induction m with
    | zero => intro _; exact hz
    | succ m ih =>
      intro hm
      have ih := ih (by omega)
      by_cases hh : m ≠ k ∧ (spAt rs m).n = (spAt rs k).n
      · rw [show roomTo z rs k (m + 1) = if ((spAt rs m).b - (spAt rs k).b) % z < roomTo z rs k m then ((spAt rs m).b - (spAt rs k).b) % z else roomTo z rs k m from if_pos hh]
        have := h m (by omega) hh.1 hh.2
        split <;> omega
      · rw [show roomTo z rs k (m + 1) = roomTo z rs k m from if_neg hh]; exact ih
  exact this _ (Nat.le_refl _)
def FarP (z q : Int) (s s' : Sn) : Prop := s.n = s'.n → s.t + q ≤ (s'.b - s.b) % z ∧ s'.t + q ≤ (s.b - s'.b) % z
theorem rs_mem {ns : List Int} {y : Wy} {z : Int} {d : Nat} {s : Sn} (h : s ∈ rs46 ns y z d) : s = oSn ∨ ∃ k, k < (mnF ns y z).toNat ∧ s = snOf y (spK ns y z k) := by
  unfold rs46 at h
  rw [List.append_assoc, List.mem_append, List.mem_append, List.mem_singleton] at h
  have go : s ∈ (spF ns y z).map (snOf y) → ∃ k, k < (mnF ns y z).toNat ∧ s = snOf y (spK ns y z k) := fun h => by
    obtain ⟨p, hp, rfl⟩ := List.mem_map.mp h
    obtain ⟨k, hk, rfl⟩ := List.mem_map.mp hp
    exact ⟨k, List.mem_range.mp hk, rfl⟩
  rcases h with h | h | h
  · exact .inr (go (List.mem_of_mem_take h))
  · exact .inl h
  · exact .inr (go (List.mem_of_mem_drop h))
theorem spK_is {ns : List Int} {y : Wy} {z : Int} {k : Nat} (hy : Wy46 y) (z0 : 5 ≤ z) (z1 : z ≤ 60) : 0 ≤ (spK ns y z k).1 ∧ (spK ns y z k).1 < z ∧ 1 ≤ (spK ns y z k).2 ∧ (spK ns y z k).2 + idF y ≤ z := by
  obtain ⟨a, b, c⟩ := ptF_is (ns := ns) hy z0 z1
  obtain ⟨t0, a0, a1⟩ := tK_is (ns := ns) (k := k) hy z0 z1
  exact ⟨Int.emod_nonneg _ (by omega), Int.emod_lt_of_pos _ (by omega), t0, by show tK ns y z k + _ ≤ z; omega⟩
theorem spF_ne {ns : List Int} {y : Wy} {z : Int} (hy : Wy46 y) (z0 : 5 ≤ z) (z1 : z ≤ 60) : (spF ns y z).length ≤ 3 ∧ spK ns y z 0 ∈ spF ns y z := by
  obtain ⟨m, _⟩ := mnF_is (ns := ns) hy z0 z1
  unfold spF
  rw [List.length_map, List.length_range]
  exact ⟨by omega, List.mem_map.mpr ⟨0, List.mem_range.mpr (by omega), rfl⟩⟩
theorem pn46 {ns : List Int} {y : Wy} {c : Cr} {z : Int} {d : Nat} (h : Cr46 y c) (hy : Wy46 y) (z0 : 5 ≤ z) (z1 : z ≤ 60) : PnOk c z (rs46 ns y z d) := by
  refine ⟨h.ok hy, by omega, by omega, ?_, fun s hs => ?_⟩
  · have := (spF_ne (ns := ns) hy z0 z1).1
    unfold rs46
    simp only [List.length_append, List.length_take, List.length_drop, List.length_map, List.length_singleton]
    omega
  · rcases rs_mem hs with rfl | ⟨k, hk, rfl⟩
    · exact ⟨h.nm.2.1, by decide, by show (0 : Int) < z; omega, by decide, by show (1 : Int) ≤ z; omega⟩
    · obtain ⟨a, b, e, f⟩ := spK_is (ns := ns) (k := k) hy z0 z1
      obtain ⟨_, i0, _⟩ := hy.rf
      exact ⟨h.nm.1, a, b, e, by show (spK ns y z k).2 ≤ z; omega⟩
theorem far_ins {z q : Int} {l : List Sn} {d : Nat} (base : l.Pairwise (FarP z q)) (nm : ∀ s ∈ l, s.n ≠ [99]) : (l.take d ++ [oSn] ++ l.drop d).Pairwise (FarP z q) := by
  have h0 : (l.take d ++ l.drop d).Pairwise (FarP z q) := by rw [List.take_append_drop]; exact base
  obtain ⟨h1, h2, h3⟩ := List.pairwise_append.mp h0
  have no1 : ∀ s ∈ l.take d, FarP z q s oSn := fun s hs e => absurd e (nm s (List.mem_of_mem_take hs))
  have no2 : ∀ s ∈ l.drop d, FarP z q oSn s := fun s hs e => absurd e.symm (nm s (List.mem_of_mem_drop hs))
  rw [List.append_assoc]
  refine List.pairwise_append.mpr ⟨h1, List.pairwise_append.mpr ⟨List.pairwise_singleton _ _, h2, fun a ha b hb => ?_⟩, fun a ha b hb => ?_⟩
  · rw [List.mem_singleton.mp ha]; exact no2 b hb
  · rcases List.mem_append.mp hb with hb | hb
    · rw [List.mem_singleton.mp hb]; exact no1 a ha
    · exact h3 a ha b hb
theorem far46 {ns : List Int} {y : Wy} {z : Int} {d : Nat} (hy : Wy46 y) (z0 : 5 ≤ z) (z1 : z ≤ 60) : (rs46 ns y z d).Pairwise (FarP z (idF y)) := by
  refine far_ins ?_ fun s hs => ?_
  · unfold spF
    rw [List.map_map]
    refine List.pairwise_iff_getElem.mpr fun i j hi hj hij => ?_
    simp only [List.length_map, List.length_range] at hi hj
    intro _
    simp only [List.getElem_map, List.getElem_range, Function.comp, snOf]
    exact ⟨sp_far hy z0 z1 hj hi (by omega), sp_far hy z0 z1 hi hj (by omega)⟩
  · obtain ⟨p, _, rfl⟩ := List.mem_map.mp hs
    exact hy.ne
theorem part46 {y : Wy} (hy : Wy46 y) : waysMeet y oth46 9 = false ∧ waysMeet oth46 y 9 = false := by
  have := hy.st
  have := hy.e1
  have := hy.e0
  unfold waysMeet oth46
  simp only []
  constructor
  · rw [if_neg (by omega), if_pos (.inl (by omega))]
  · rw [if_neg (by omega), if_pos (.inl (by omega))]
theorem look46 {ns : List Int} {y : Wy} {c : Cr} {z : Int} {d : Nat} {E : Xc → WHp → Prop} {G : WHp} {p : Prop} (h : Cr46 y c) (hy : Wy46 y) (z0 : 5 ≤ z) (z1 : z ≤ 60) (hp : p) : LookP c z (rs46 ns y z d) E G p := by
  obtain ⟨g1, g2⟩ := h.gw hy
  have nv : neverP c (rs46 ns y z d) = none := List.find?_eq_none.mpr fun n hn e => by
    rcases h.nm.2.2 n hn with rfl | rfl
    · have hm := (spF_ne (ns := ns) hy z0 z1).2
      have : snOf y (spK ns y z 0) ∈ rs46 ns y z d := by
        have : snOf y (spK ns y z 0) ∈ ((spF ns y z).map (snOf y)).take d ++ ((spF ns y z).map (snOf y)).drop d := by
          rw [List.take_append_drop]; exact List.mem_map.mpr ⟨_, hm, rfl⟩
        unfold rs46
        rw [List.append_assoc, List.mem_append, List.mem_append]
        rcases List.mem_append.mp this with h | h
        · exact .inl h
        · exact .inr (.inr h)
      have := List.all_eq_true.mp e _ this
      simp [snOf] at this
    · have : oSn ∈ rs46 ns y z d := by unfold rs46; simp
      have := List.all_eq_true.mp e _ this
      simp [oSn] at this
  have sh : shortP c z (rs46 ns y z d) = none := List.find?_eq_none.mpr fun k hk e => by
    have hk := List.mem_range.mp hk
    have hs := List.mem_of_getElem? (sp_at hk)
    have far := List.pairwise_iff_getElem.mp (far46 (ns := ns) (d := d) hy z0 z1)
    have rm : ∀ x : Int, x ≤ (spAt (rs46 ns y z d) k).t + idF y → x ≤ z → x ≤ roomP z (rs46 ns y z d) k := fun x hx hxz => room_ge hxz fun i hi hik en => by
      have ei := List.getElem?_eq_getElem hi
      have ek := List.getElem?_eq_getElem hk
      rw [sp_at hi] at ei
      rw [sp_at hk] at ek
      have ei := Option.some.inj ei
      have ek := Option.some.inj ek
      rcases Nat.lt_or_gt_of_ne hik with c | c
      · have := far i k hi hk c
        rw [← ei, ← ek] at this
        have := (this en).2
        omega
      · have := far k i hk hi c
        rw [← ei, ← ek] at this
        have := (this en.symm).1
        omega
    obtain ⟨rf, i0, i1⟩ := hy.rf
    unfold shortB at e
    have e := of_decide_eq_true e
    rcases rs_mem hs with es | ⟨j, hj, es⟩
    · have hr : 4 ≤ roomP z (rs46 ns y z d) k := room_ge (by omega) fun i hi hik en => by
        exfalso
        have hs2 := List.mem_of_getElem? (sp_at hi)
        rw [es] at en
        rcases rs_mem hs2 with e2 | ⟨j2, _, e2⟩
        · have ei := List.getElem?_eq_getElem hi
          have ek := List.getElem?_eq_getElem hk
          rw [sp_at hi] at ei
          rw [sp_at hk] at ek
          have ei := Option.some.inj ei
          have ek := Option.some.inj ek
          have t : ∀ s s' : Sn, s = oSn → s' = oSn → FarP z (idF y) s s' → False := fun s s' a b f => by
            have := (f (by rw [a, b])).1
            rw [a, b] at this
            have : (1 : Int) + idF y ≤ (0 - 0) % z := this
            rw [Int.sub_self, Int.zero_emod] at this
            omega
          rcases Nat.lt_or_gt_of_ne hik with c | c
          · exact t _ _ (by rw [← ei]; exact e2) (by rw [← ek]; exact es) (far i k hi hk c)
          · exact t _ _ (by rw [← ek]; exact es) (by rw [← ei]; exact e2) (far k i hk hi c)
        · rw [e2] at en
          exact hy.ne en
      rw [es] at e
      rw [show oSn.n = [99] from rfl, g2] at e
      rcases e with e | e
      · exact absurd e (by decide)
      · have : roomP z (rs46 ns y z d) k < 4 := e
        omega
    · obtain ⟨a, b, t0, t1⟩ := spK_is (ns := ns) (k := j) hy z0 z1
      have hr := rm ((spAt (rs46 ns y z d) k).t + idF y) (Int.le_refl _) (by rw [es]; exact t1)
      rw [es] at e hr
      rw [show (snOf y (spK ns y z j)).n = y.name from rfl, g1, hy.le, show (snOf y (spK ns y z j)).t = (spK ns y z j).2 from rfl] at e
      rw [show (snOf y (spK ns y z j)).t = (spK ns y z j).2 from rfl] at hr
      omega
  have cl : ∀ n m k, ¬ clashB c z (rs46 ns y z d) n m k := fun n m k ⟨c1, c2, c3, c4, _⟩ => by
    rw [h.pl] at c4
    obtain ⟨q1, q2⟩ := part46 hy
    rcases h.nm.2.2 n c1 with rfl | rfl <;> rcases h.nm.2.2 m c2 with rfl | rfl
    · exact c3 rfl
    · rw [g1, g2, q1] at c4; cases c4
    · rw [g1, g2, q2] at c4; cases c4
    · exact c3 rfl
  exact ⟨fun n e => (by rw [nv] at e; cases e), fun _ k e => (by rw [sh] at e; cases e), fun _ _ n m k e => absurd e (cl n m k), fun _ _ _ => hp⟩
theorem fre46 {ns : List Int} {y : Wy} {z : Int} {d : Nat} (hy : Wy46 y) (t : Int) : frB z (rs46 ns y z d) y.name t = freF (spF ns y z) z t := by
  have e1 : ∀ l : List (Int × Int), (l.map (snOf y)).any (fun s => decide (s.n = y.name) && inSp z s t) = l.any fun s => decide ((t - s.1) % z < s.2) := fun l => by
    rw [List.any_map]
    congr 1
    funext s
    show (decide (y.name = y.name) && decide ((t - s.1) % z < s.2)) = decide ((t - s.1) % z < s.2)
    rw [decide_eq_true rfl, Bool.true_and]
  have e2 : (decide (oSn.n = y.name) && inSp z oSn t) = false := by
    rw [decide_eq_false (fun e => hy.ne e.symm)]; rfl
  unfold frB rs46 freF
  rw [← e1 (spF ns y z), List.any_append, List.any_append, List.any_cons, List.any_nil, e2, Bool.or_false, Bool.or_false]
  conv => rhs; rw [← List.take_append_drop d ((spF ns y z).map (snOf y)), List.any_append]
/-- the plan, as the law has it -/
structure Pl46 (ns : List Int) (y : Wy) (z : Int) (c : Cr) (rs : List Sn) : Prop where
  pn : PnOk c z rs
  nm : y.name ∈ c.names
  all : ∀ n ∈ c.names, n = y.name ∨ n = [99]
  gw : c.gw y.name = y
  fr : ∀ t, frB z rs y.name t = freF (spF ns y z) z t

/-! the plain law of queues -/
def cmS (cs : List Int) : Nat → Int
  | 0 => 0
  | k + 1 => cmS cs k + cmA cs (k : Nat)
def netS (z : Int) (rs : List Sn) (n : List Nat) (cs : List Int) (k : Nat) : Int := cmS cs k - (freeN z rs n k : Nat)
theorem cmA_n {cs : List Int} {k : Nat} (h : k < cs.length) : cmA cs (k : Nat) = cs[k] := by
  unfold cmA
  rw [Int.emod_eq_of_lt (by omega) (by omega), atI_n (List.getElem?_eq_getElem h)]
  rfl
theorem cmS_take {cs : List Int} : ∀ {k : Nat}, k ≤ cs.length → cmS cs k = (cs.take k).sum
  | 0, _ => by simp [cmS]
  | k + 1, h => by
    have ih := cmS_take (cs := cs) (k := k) (by omega)
    rw [cmS, ih, cmA_n (by omega), List.take_add_one, List.getElem?_eq_getElem (by omega), Option.toList_some, List.sum_append, List.sum_cons, List.sum_nil, Int.add_zero]
theorem cmS_all {cs : List Int} : cmS cs cs.length = cs.sum := by rw [cmS_take (Nat.le_refl _), List.take_length]
theorem cmA_mod {z t : Int} {cs : List Int} (h : CmOk z cs) : cmA cs (t % z) = cmA cs t := by
  unfold cmA
  rw [h.len, Int.emod_emod]
section
variable {z : Int} {rs : List Sn} {n : List Nat} {y : Wy} {cs : List Int}
theorem qStep_car {fr : Bool} {c s : Int} (hs : y.sort ≠ 11) (h0 : 0 ≤ s + c) : qStep y fr c s = if fr = true then (if s + c - 1 < 0 then 0 else s + c - 1) else s + c := by
  unfold qStep Wy.goes
  rw [if_neg hs]
  split
  · split <;> split <;> omega
  · rfl
theorem qStep_foot {fr : Bool} {c s : Int} (hs : y.sort = 11) : qStep y fr c s = if fr = true then 0 else s + c := by
  unfold qStep Wy.goes
  rw [if_pos hs]
  split
  · omega
  · rfl
/-- a queue of cars: it begins with s and never comes below 0 -/
theorem lind (hc : CmOk z cs) (hz : 1 ≤ z) (hs : y.sort ≠ 11) : ∀ k : Nat, ∃ B : Int, 0 ≤ B ∧ (∃ i, i ≤ k ∧ B = netS z rs n cs k - netS z rs n cs i) ∧ ∀ s, 0 ≤ s → s + netS z rs n cs k ≤ qRun z rs n y cs s k ∧ B ≤ qRun z rs n y cs s k ∧ (qRun z rs n y cs s k = s + netS z rs n cs k ∨ qRun z rs n y cs s k = B)
  | 0 => ⟨0, by omega, ⟨0, by omega, by omega⟩, fun s h => by
    have : netS z rs n cs 0 = 0 := by simp [netS, cmS, freeN]
    rw [this]
    show s + 0 ≤ s ∧ 0 ≤ s ∧ (s = s + 0 ∨ s = 0)
    omega⟩
  | k + 1 => by
    obtain ⟨B, h0, ⟨i, hi, eB⟩, ih⟩ := lind hc hz hs k
    have cm := hc.cm (t := (k : Nat)) hz
    have eS : netS z rs n cs (k + 1) = netS z rs n cs k + cmA cs (k : Nat) - (if frB z rs n (k : Nat) = true then 1 else 0) := by
      unfold netS
      rw [freeN_succ, cmS]
      split <;> omega
    have st : ∀ s, 0 ≤ s → qRun z rs n y cs s (k + 1) = if frB z rs n (k : Nat) = true then (if qRun z rs n y cs s k + cmA cs (k : Nat) - 1 < 0 then 0 else qRun z rs n y cs s k + cmA cs (k : Nat) - 1) else qRun z rs n y cs s k + cmA cs (k : Nat) := fun s h => by
      have := qRun_nn (rs := rs) (n := n) (y := y) hc hz h k
      exact qStep_car hs (by omega)
    cases hf : frB z rs n (k : Nat) with
    | false =>
      rw [hf] at eS st
      simp only [Bool.false_eq_true, if_false] at eS st
      refine ⟨B + cmA cs (k : Nat), by omega, ⟨i, by omega, by omega⟩, fun s h => ?_⟩
      have := ih s h
      rw [st s h]
      omega
    | true =>
      rw [hf] at eS st
      simp only [if_true] at eS st
      by_cases hb : B + cmA cs (k : Nat) - 1 < 0
      · refine ⟨0, by omega, ⟨k + 1, by omega, by omega⟩, fun s h => ?_⟩
        have := ih s h
        rw [st s h]
        split <;> omega
      · refine ⟨B + cmA cs (k : Nat) - 1, by omega, ⟨i, by omega, by omega⟩, fun s h => ?_⟩
        have := ih s h
        rw [st s h]
        split <;> omega
/-- what a queue is at least -/
theorem qRun_ge (hc : CmOk z cs) (hz : 1 ≤ z) (hs : y.sort ≠ 11) {s : Int} (h : 0 ≤ s) (i : Nat) : ∀ d : Nat, netS z rs n cs (i + d) - netS z rs n cs i ≤ qRun z rs n y cs s (i + d)
  | 0 => by
    have := qRun_nn (rs := rs) (n := n) (y := y) hc hz h i
    rw [Nat.add_zero]
    omega
  | d + 1 => by
    have ih := qRun_ge hc hz hs h i d
    have nn := qRun_nn (rs := rs) (n := n) (y := y) hc hz h (i + d)
    have cm := hc.cm (t := ((i + d : Nat) : Int)) hz
    have eS : netS z rs n cs (i + d + 1) = netS z rs n cs (i + d) + cmA cs ((i + d : Nat) : Int) - (if frB z rs n ((i + d : Nat) : Int) = true then 1 else 0) := by
      unfold netS
      rw [freeN_succ, cmS]
      split <;> omega
    have st : qRun z rs n y cs s (i + d + 1) = qStep y (frB z rs n ((i + d : Nat) : Int)) (cmA cs ((i + d : Nat) : Int)) (qRun z rs n y cs s (i + d)) := rfl
    rw [qStep_car hs (by omega)] at st
    show netS z rs n cs (i + d + 1) - _ ≤ qRun z rs n y cs s (i + d + 1)
    rw [eS, st]
    split
    · split <;> omega
    · omega
theorem qRun_foot (hs : y.sort = 11) {s s' : Int} {j : Nat} (hj : frB z rs n (j : Nat) = true) : ∀ k : Nat, j < k → qRun z rs n y cs s k = qRun z rs n y cs s' k
  | 0, h => absurd h (by omega)
  | k + 1, h => by
    have e : ∀ s, qRun z rs n y cs s (k + 1) = if frB z rs n (k : Nat) = true then 0 else qRun z rs n y cs s k + cmA cs (k : Nat) := fun s => qStep_foot hs
    rw [e, e]
    by_cases hf : frB z rs n (k : Nat) = true
    · rw [if_pos hf, if_pos hf]
    · rw [if_neg hf, if_neg hf, qRun_foot hs hj k (by
        by_cases hk : j = k
        · rw [hk] at hj; exact absurd hj hf
        · omega)]
theorem netS_all (hc : CmOk z cs) : netS z rs n cs z.toNat = cs.sum - (freeN z rs n z.toNat : Nat) := by
  unfold netS
  have : z.toNat = cs.length := by have := hc.len; omega
  rw [this, cmS_all]
/-- from the second round on the queue grows by the same number each round -/
theorem round_grow (hc : CmOk z cs) (hz : 1 ≤ z) (hf : ∃ i, frB z rs n i = true) {x : Int} (hx : 0 ≤ x) (h0 : growF z rs n y cs = 0 → x = 0) :
    qRun z rs n y cs (qRun z rs n y cs 0 z.toNat + x) z.toNat = qRun z rs n y cs 0 z.toNat + x + growF z rs n y cs := by
  have nn := qRun_nn (rs := rs) (n := n) (y := y) hc hz (Int.le_refl 0) z.toNat
  by_cases hs : y.sort = 11
  · have g : growF z rs n y cs = 0 := by unfold growF; rw [if_pos hs]
    obtain ⟨i, hi⟩ := hf
    have a := Int.emod_nonneg i (show z ≠ 0 by omega)
    have b := Int.emod_lt_of_pos i (show 0 < z by omega)
    rw [g, h0 g, Int.add_zero, Int.add_zero]
    exact qRun_foot hs (j := (i % z).toNat) (by rw [Int.toNat_of_nonneg a, frB_mod]; exact hi) _ (by omega)
  · obtain ⟨B, b0, _, hB⟩ := lind (rs := rs) (n := n) (y := y) hc hz hs z.toNat
    have h1 := hB 0 (by omega)
    have h2 := hB (qRun z rs n y cs 0 z.toNat + x) (by omega)
    have e := netS_all (rs := rs) (n := n) hc
    rw [e] at h1 h2
    have g : growF z rs n y cs = if cs.sum - (freeN z rs n z.toNat : Nat) > 0 then cs.sum - (freeN z rs n z.toNat : Nat) else 0 := by unfold growF; rw [if_neg hs]
    generalize cs.sum - (freeN z rs n z.toNat : Nat) = S at *
    generalize qRun z rs n y cs (qRun z rs n y cs 0 z.toNat + x) z.toNat = F at *
    generalize qRun z rs n y cs 0 z.toNat = A at *
    generalize growF z rs n y cs = g' at *
    split at g <;> omega
theorem queueF_0 (hz : 1 ≤ z) : queueF z rs n y cs 0 = 0 := by
  unfold queueF
  rw [Int.zero_ediv, Int.zero_emod, if_neg (by omega)]
  rfl
theorem queue_start (hc : CmOk z cs) (hz : 1 ≤ z) {r : Int} (hr : 0 ≤ r) (g0 : 0 ≤ growF z rs n y cs) : 0 ≤ (if 0 < r then qRun z rs n y cs 0 z.toNat + (r - 1) * growF z rs n y cs else 0) := by
  have nn := qRun_nn (rs := rs) (n := n) (y := y) hc hz (Int.le_refl 0) z.toNat
  split
  · have := Int.mul_nonneg (show 0 ≤ r - 1 by omega) g0
    omega
  · omega
theorem queueF_nn (hc : CmOk z cs) (hz : 1 ≤ z) (hz1 : z ≤ 240) {t : Int} (ht : 0 ≤ t) : 0 ≤ queueF z rs n y cs t := by
  have g := growF_nn (rs := rs) (n := n) (y := y) hc hz1
  exact (qRun_nn hc hz (queue_start hc hz (Int.ediv_nonneg ht (by omega)) g.1) _).1
theorem queueF_succ (hc : CmOk z cs) (hz : 1 ≤ z) (hz1 : z ≤ 240) (hf : ∃ i, frB z rs n i = true) {t : Int} (ht : 0 ≤ t) : queueF z rs n y cs (t + 1) = qStep y (frB z rs n t) (cmA cs t) (queueF z rs n y cs t) := by
  have g := growF_nn (rs := rs) (n := n) (y := y) hc hz1
  have r0 := Int.emod_nonneg t (show z ≠ 0 by omega)
  have r1 := Int.emod_lt_of_pos t (show 0 < z by omega)
  have e := Int.emod_add_mul_ediv t z
  have q0 := Int.ediv_nonneg ht (show 0 ≤ z by omega)
  have st : ∀ s : Int, qRun z rs n y cs s ((t % z).toNat + 1) = qStep y (frB z rs n t) (cmA cs t) (qRun z rs n y cs s (t % z).toNat) := fun s => by
    show qStep y (frB z rs n (((t % z).toNat : Nat) : Int)) (cmA cs (((t % z).toNat : Nat) : Int)) _ = _
    rw [Int.toNat_of_nonneg r0, frB_mod, cmA_mod hc]
  by_cases h : t % z + 1 < z
  · have e1 : (t + 1) % z = t % z + 1 := by
      rw [Int.add_emod, Int.emod_eq_of_lt (a := t % z + 1 % z) (by
        have := Int.emod_nonneg 1 (show z ≠ 0 by omega); omega) (by
        have : (1 : Int) % z = 1 := Int.emod_eq_of_lt (by omega) (by omega)
        omega), Int.emod_eq_of_lt (a := 1) (by omega) (by omega)]
    have e2 : (t + 1) / z = t / z := by
      have := Int.emod_add_mul_ediv (t + 1) z
      rw [e1] at this
      have : z * ((t + 1) / z) = z * (t / z) := by omega
      exact Int.eq_of_mul_eq_mul_left (by omega) this
    unfold queueF
    rw [e1, e2, show (t % z + 1).toNat = (t % z).toNat + 1 by omega]
    exact st _
  · have hl : t % z = z - 1 := by omega
    have e1 : (t + 1) % z = 0 := by
      have : t + 1 = z * (t / z + 1) := by rw [Int.mul_add]; omega
      rw [this, Int.mul_emod_right]
    have e2 : (t + 1) / z = t / z + 1 := by
      have : t + 1 = z * (t / z + 1) := by rw [Int.mul_add]; omega
      rw [this, Int.mul_ediv_cancel_left _ (by omega)]
    have st2 := st
    rw [hl, show (z - 1).toNat + 1 = z.toNat by omega] at st2
    have key : qRun z rs n y cs (if 0 < t / z then qRun z rs n y cs 0 z.toNat + (t / z - 1) * growF z rs n y cs else 0) z.toNat = qRun z rs n y cs 0 z.toNat + (t / z) * growF z rs n y cs := by
      split
      · rename_i hp
        have hx := Int.mul_nonneg (show 0 ≤ t / z - 1 by omega) g.1
        rw [round_grow hc hz hf hx (fun e => by rw [e, Int.mul_zero])]
        rw [Int.sub_mul]
        omega
      · rename_i hp
        have : t / z = 0 := by omega
        rw [this, Int.zero_mul, Int.add_zero]
    unfold queueF
    rw [e1, e2, hl, if_pos (by omega), show t / z + 1 - 1 = t / z by omega]
    rw [st2 _] at key
    rw [show ((0 : Int).toNat) = 0 from rfl]
    show qRun z rs n y cs 0 z.toNat + t / z * growF z rs n y cs = _
    rw [← key]
end


abbrev sp_law := spLawT
def sp_l_draw : WSp := fun ws G Q _ => ∃ x ns k m, ws = [x, .int k, .int m] ∧ (x = .sc ns ∨ x = .il (ns.map W.int)) ∧ ns.length ≤ 63 ∧ 0 ≤ k ∧ k < 1000000 ∧ 0 < m ∧ Q (.int (drawF ns k m)) G
/-- a call of the law's draw -/
theorem draw_x {x : W} {ns : List Int} {k m : Int} {G : WHp} {Q : WQ} {E : Xc → WHp → Prop} (hx : x = .sc ns ∨ x = .il (ns.map W.int)) (hl : ns.length ≤ 63) (hk : 0 ≤ k) (hk' : k < 1000000) (hm : 0 < m) (q : 0 ≤ drawF ns k m → drawF ns k m < m → Q (.int (drawF ns k m)) G) : sp_l_draw [x, .int k, .int m] G Q E :=
  ⟨x, ns, k, m, rfl, hx, hl, hk, hk', hm, q (drawF_lo hm) (drawF_hi hm)⟩
theorem draw_i {ns : List Int} {k m : Int} {G : WHp} {Q : WQ} {E : Xc → WHp → Prop} (hl : ns.length ≤ 63) (hk : 0 ≤ k) (hk' : k < 1000000) (hm : 0 < m) (q : 0 ≤ drawF ns k m → drawF ns k m < m → Q (.int (drawF ns k m)) G) : sp_l_draw [.sc ns, .int k, .int m] G Q E :=
  draw_x (.inl rfl) hl hk hk' hm q

theorem len_l_draw : ∀ ws G Q E, sp_l_draw ws G Q E → ws.length = (["_law_script", "_law_k", "_law_many"] : List Str).length := by
  intro ws G Q E h
  first
  | (obtain ⟨_, h, _⟩ := h; rw [h]; rfl)
  | (obtain ⟨_, _, h, _⟩ := h; rw [h]; rfl)
  | (obtain ⟨_, _, _, h, _⟩ := h; rw [h]; rfl)
  | (obtain ⟨_, _, _, _, h, _⟩ := h; rw [h]; rfl)
  | (obtain ⟨_, _, _, _, _, h, _⟩ := h; rw [h]; rfl)
  | (obtain ⟨_, _, _, _, _, _, h, _⟩ := h; rw [h]; rfl)
  | (obtain ⟨_, _, _, _, _, _, _, h, _⟩ := h; rw [h]; rfl)
  | (obtain ⟨_, _, _, _, _, _, _, _, h, _⟩ := h; rw [h]; rfl)
  | (obtain ⟨_, _, _, _, _, _, _, _, _, h, _⟩ := h; rw [h]; rfl)
  | (obtain ⟨_, _, _, _, _, _, _, _, _, _, h, _⟩ := h; rw [h]; rfl)
  | (obtain ⟨_, _, _, _, _, _, _, _, _, _, _, h, _⟩ := h; rw [h]; rfl)
  | (obtain ⟨_, _, _, _, _, _, _, _, _, _, _, _, h, _⟩ := h; rw [h]; rfl)
  | (obtain ⟨_, _, _, _, _, _, _, _, _, _, _, _, _, h, _⟩ := h; rw [h]; rfl)
  | (obtain ⟨_, _, _, _, _, _, _, _, _, _, _, _, _, _, h, _⟩ := h; rw [h]; rfl)
def bd_l_draw_t3 : WTS := (wRet (wOp oMod (wOp oMod (wOp oMul (wOp oMod (wOp oMul (wVar 4) (wC (.int 48271))) (wC (.int 999983))) (wC (.int 7919))) (wC (.int 524287))) (wVar 2)))
def bd_l_draw_t2 : WTS := wSeq (wAsg (wOp oAdd (wOp oAdd (wOp oMod (wVar 3) (wC (.int 1000003))) (wOp oMul (wOp oMul (wC (.int 31)) (wVar 1)) (wVar 1))) (wC (.int 1))) (wN 4)) bd_l_draw_t3
def bd_l_draw : WTS := wSeq (wAsg (wIf (wTest (wOp oGt (wCB oLen (wCons (wVar 0) wNil)) (wC (.int 0)))) (wOp oIx (wVar 0) (wOp oMod (wVar 1) (wCB oLen (wCons (wVar 0) wNil)))) (wC (.int 0))) (wN 3)) bd_l_draw_t2
theorem w_l_draw (ws : List W) (G : WHp) (Q : WQ) (Ex : Xc → WHp → Prop) (h : sp_l_draw ws G Q Ex) : bd_l_draw (endsW Q) (wStart ["_law_script", "_law_k", "_law_many", "_law_cell", "_law_seed"] ws) G (fun c _ G' => Ex c G') := by
  obtain ⟨x, ns, k, m, rfl, hx, hl, k0, k1, m0, q⟩ := h
  have c1 : CMul 31 k := .inl ⟨by decide, by decide⟩
  have c2 : CMul (31 * k) k := .inr ⟨by omega, by omega⟩
  have c3 : ∀ i, CMul i 48271 := fun i => .inr ⟨by decide, by decide⟩
  have c4 : ∀ i, CMul i 7919 := fun i => .inr ⟨by decide, by decide⟩
  have fin : ∀ v : Int, v = (if 0 < (ns.length : Int) then (atI ns (k % ns.length)).getD 0 else 0) → bd_l_draw_t2 (endsW Q) [some x, some (.int k), some (.int m), some (.int v), none] G fun c _ G' => Ex c G' := by
    intro v hv
    simp! only [bd_l_draw_t2]
    refine ⟨c1, c2, ?_⟩
    simp! only [bd_l_draw_t3]
    refine ⟨c3 _, c4 _, m0, ?_⟩
    simp only [drawF, ← hv] at q
    exact q
  have pos : 0 < (ns.length : Int) → ∃ v, atI ns (k % ns.length) = some v := fun h0 => let ⟨v, e, _⟩ := atI_in (xs := ns) (Int.emod_nonneg k (show (ns.length : Int) ≠ 0 by omega)) (Int.emod_lt_of_pos k h0); ⟨v, e⟩
  rcases hx with rfl | rfl
  · simp! only [bd_l_draw]
    split
    · rename_i h0
      obtain ⟨v, e⟩ := pos h0
      exact ⟨h0, v, e, fin v (by rw [if_pos h0, e]; rfl)⟩
    · rename_i h0
      exact fin 0 (by rw [if_neg h0])
  · simp! only [bd_l_draw, List.length_map]
    split
    · rename_i h0
      obtain ⟨v, e⟩ := pos h0
      exact ⟨h0, .int v, by rw [atI_map, e]; rfl, fin v (by rw [if_pos h0, e]; rfl)⟩
    · rename_i h0
      exact fin 0 (by rw [if_neg h0])

def sp_l_text : WSp := fun ws G Q E => ∃ c : Cr, ws = [.int c.places, .il (c.ways.map tw7)] ∧ c.ok ∧ Q (.str (crText c)) G

theorem len_l_text : ∀ ws G Q E, sp_l_text ws G Q E → ws.length = (["_law_places", "_law_ways"] : List Str).length := by
  intro ws G Q E h
  first
  | (obtain ⟨_, h, _⟩ := h; rw [h]; rfl)
  | (obtain ⟨_, _, h, _⟩ := h; rw [h]; rfl)
  | (obtain ⟨_, _, _, h, _⟩ := h; rw [h]; rfl)
  | (obtain ⟨_, _, _, _, h, _⟩ := h; rw [h]; rfl)
  | (obtain ⟨_, _, _, _, _, h, _⟩ := h; rw [h]; rfl)
  | (obtain ⟨_, _, _, _, _, _, h, _⟩ := h; rw [h]; rfl)
  | (obtain ⟨_, _, _, _, _, _, _, h, _⟩ := h; rw [h]; rfl)
  | (obtain ⟨_, _, _, _, _, _, _, _, h, _⟩ := h; rw [h]; rfl)
  | (obtain ⟨_, _, _, _, _, _, _, _, _, h, _⟩ := h; rw [h]; rfl)
  | (obtain ⟨_, _, _, _, _, _, _, _, _, _, h, _⟩ := h; rw [h]; rfl)
  | (obtain ⟨_, _, _, _, _, _, _, _, _, _, _, h, _⟩ := h; rw [h]; rfl)
  | (obtain ⟨_, _, _, _, _, _, _, _, _, _, _, _, h, _⟩ := h; rw [h]; rfl)
  | (obtain ⟨_, _, _, _, _, _, _, _, _, _, _, _, _, h, _⟩ := h; rw [h]; rfl)
  | (obtain ⟨_, _, _, _, _, _, _, _, _, _, _, _, _, _, h, _⟩ := h; rw [h]; rfl)
def lc_l_text_2_t : WTT := wYes
def lc_l_text_2_e : WTE := (wCB oStr (wCons (wVar 4) wNil))
def bd_l_text_1 : WTS := (wDrop (wBm .list mAppend (wVar 2) (wCons (wOp oAdd (wOp oAdd (wOp oAdd (wOp oAdd (wOp oIx (wVar 3) (wC (.int 0))) (wC (.str [32]))) (wOp oIx (wVar 3) (wC (.int 1)))) (wC (.str [32]))) (wBm .str mSjoin (wC (.str [32])) (wCons (wLcI (wIter (wSl oSl (wVar 3) (wPart (wC (.int 2))) wNoPart)) 4 lc_l_text_2_t lc_l_text_2_e) wNil))) wNil)))
def bd_l_text_t3 : WTS := (wRet (wView (wBm .str mSjoin (wC (.str [10])) (wCons (wVar 2) wNil))))
def bd_l_text_t2 : WTS := wSeq (wFor (wIter (wVar 1)) (wN 3) bd_l_text_1) bd_l_text_t3
def bd_l_text : WTS := wSeq (wAsg (wLstM (wCons (wOp oAdd (wC (.str [114, 105, 110, 103, 32])) (wCB oStr (wCons (wVar 0) wNil))) wNil)) (wN 2)) bd_l_text_t2
theorem lpm_bd_l_text_1 {ok : WHp → Prop} {α : Type} {f : α → W} {xs : List α} {D : WEnds} {E : WXK} {G : WHp} {s0 s1 s2 s4 : Option W} {o3 : Option W} (Inv : Nat → WHp → Prop) (h0 : Inv 0  G) (hs : ∀ (i : Nat) (x : α) (o3 : Option W) (G' : WHp), xs[i]? = some x → Inv i  G' → bd_l_text_1 { nx := fun σ' G2 => ∃ (o3 : Option W), σ' = [s0, s1, s2, o3, s4] ∧ Inv (i + 1)  G2, rt := D.rt, bk := D.nx, ct := fun σ' G2 => ∃ (o3 : Option W), σ' = [s0, s1, s2, o3, s4] ∧ Inv (i + 1)  G2 } [s0, s1, s2, some (f x), s4] G' E) (hd : ∀ (o3 : Option W) (G' : WHp), Inv (xs.length)  G' → D.nx [s0, s1, s2, o3, s4] G') (hk : ∀ (i : Nat)  (G' : WHp), i ≤ xs.length → Inv i  G' → ok G' := by intros; trivial) : LoopOk ((wN 3)) bd_l_text_1 D [s0, s1, s2, o3, s4] E (xs.map f) ok G := by
  refine ⟨fun i => (fun σ' G2 => ∃ (o3 : Option W), σ' = [s0, s1, s2, o3, s4] ∧ Inv i  G2), ⟨_, rfl, h0⟩, ?_, ?_, ?_⟩
  · rintro i σ' G' hi ⟨o3, rfl, h⟩; exact hk i  G' (by rw [List.length_map] at hi; exact hi) h
  · rintro i w σ' G' hw ⟨o3, rfl, h⟩
    obtain ⟨x, hx, rfl⟩ := map_get hw
    exact hs i _ o3 G' (by assumption) h
  · rintro σ' G' ⟨o3, rfl, h⟩
    rw [List.length_map] at h
    exact hd o3 G' h
theorem w_l_text (ws : List W) (G : WHp) (Q : WQ) (Ex : Xc → WHp → Prop) (h : sp_l_text ws G Q Ex) : bd_l_text (endsW Q) (wStart ["_law_places", "_law_ways", "_law_rows", "_law_way_here", "_law_number"] ws) G (fun c _ G' => Ex c G') := by
  obtain ⟨c, rfl, ho, q⟩ := h
  have p0 := ho.p0
  have p1 := ho.p1
  have lp := strI_len3 (n := c.places) (by omega) (by omega)
  simp_arith! only [bd_l_text]
  refine ⟨log_n (by omega) (by omega), by omega, fun D hD => ?_⟩
  simp_arith! only [bd_l_text_t2]
  refine lpm_bd_l_text_1 (fun i G' => G' = updG G D (.lst (((rowTs c).take (i + 1)).map .str))) rfl ?_ ?_
  · rintro i y o3 G' hy rfl
    have hm := List.mem_of_getElem? hy
    obtain ⟨a1, s0, s1, e0, e1, ne1, n0, n1, m0, m1, g0, g1, nm⟩ := ho.all y hm
    have l1 := kindN_len y.sort
    have l2 := nm.2.1
    have l3 := strI_len3 s0 (by omega)
    have l4 := strI_len3 e0 (by omega)
    have l5 := strI_len3 n0 (by omega)
    have l6 := strI_len3 m0 (by omega)
    have l7 := strI_len3 (n := y.least) (by omega) (by omega)
    simp_arith! only [bd_l_text_1, tw7]
    (repeat (refine And.intro (by (first | omega | decide | exact mulL (by omega) (by omega) | exact mulR (by omega) (by omega) | exact log_k (by omega) (by omega) | exact Int.natCast_nonneg _ | (simp; done) | (simp; omega))) ?_))
    refine lcI_mm (g := W.int) (xs := [y.start, y.stop, y.off, y.near, y.least]) (fun n => .str (strI n)) (by show 5 ≤ 16777216; decide) ?_ ?_
    · intro k n G' Q' hn _ q'
      have hn := List.mem_of_getElem? hn
      simp_arith! only [lc_l_text_2_e]
      refine ⟨?_, q'⟩
      simp only [List.mem_cons, List.not_mem_nil, or_false] at hn
      rcases hn with rfl | rfl | rfl | rfl | rfl <;> exact log_n (by omega) (by omega)
    · simp_arith! only [true_and]
      refine ⟨[strI y.start, strI y.stop, strI y.off, strI y.near, strI y.least], rfl, ?_⟩
      have ej : TL.joinL [32] [strI y.start, strI y.stop, strI y.off, strI y.near, strI y.least] = strI y.start ++ [32] ++ strI y.stop ++ [32] ++ strI y.off ++ [32] ++ strI y.near ++ [32] ++ strI y.least := by
        simp [TL.joinL]
      simp only [ej]
      have e : (rowTs c)[i + 1]? = some (TL.joinL [32] (wayR y)) := by simp [rowTs, hy]
      have hlen := ho.len
      (repeat (refine And.intro (by (first | omega | decide | exact mulL (by omega) (by omega) | exact mulR (by omega) (by omega) | exact log_k (by omega) (by omega) | exact Int.natCast_nonneg _ | (simp; done) | (simp; omega))) ?_))
      refine ⟨by simp [rowTs]; omega, ?_⟩
      rw [List.take_add_one (i := i + 1), e]
      simp only [Option.toList_some, List.map_append, List.map_cons, List.map_nil]
      have e2 : TL.joinL [32] (wayR y) = kindN y.sort ++ [32] ++ y.name ++ [32] ++ (strI y.start ++ [32] ++ strI y.stop ++ [32] ++ strI y.off ++ [32] ++ strI y.near ++ [32] ++ strI y.least) := by
        simp [wayR, TL.joinL]
      rw [e2]
  · rintro o3 G' rfl
    rw [List.take_of_length_le (by simp [rowTs])]
    simp_arith! only [bd_l_text_t3]
    refine ⟨rowTs_sum ho, ?_⟩
    rw [← crText_eq]
    exact vw_drop hD q

def sp_l_spans : WSp := fun ws G Q E => ∃ (ns : List Int) (y : Wy) (z : Int), ws = [.sc ns, tw7 y, .int z] ∧ ns.length ≤ 63 ∧ Wy46 y ∧ 5 ≤ z ∧ z ≤ 60 ∧ ∀ p, G p = none → Q (.ref p) (updG G p (.lst ((spF ns y z).map spW2)))

theorem len_l_spans : ∀ ws G Q E, sp_l_spans ws G Q E → ws.length = (["_law_script", "_law_way_here", "_law_size"] : List Str).length := by
  intro ws G Q E h
  first
  | (obtain ⟨_, h, _⟩ := h; rw [h]; rfl)
  | (obtain ⟨_, _, h, _⟩ := h; rw [h]; rfl)
  | (obtain ⟨_, _, _, h, _⟩ := h; rw [h]; rfl)
  | (obtain ⟨_, _, _, _, h, _⟩ := h; rw [h]; rfl)
  | (obtain ⟨_, _, _, _, _, h, _⟩ := h; rw [h]; rfl)
  | (obtain ⟨_, _, _, _, _, _, h, _⟩ := h; rw [h]; rfl)
  | (obtain ⟨_, _, _, _, _, _, _, h, _⟩ := h; rw [h]; rfl)
  | (obtain ⟨_, _, _, _, _, _, _, _, h, _⟩ := h; rw [h]; rfl)
  | (obtain ⟨_, _, _, _, _, _, _, _, _, h, _⟩ := h; rw [h]; rfl)
  | (obtain ⟨_, _, _, _, _, _, _, _, _, _, h, _⟩ := h; rw [h]; rfl)
  | (obtain ⟨_, _, _, _, _, _, _, _, _, _, _, h, _⟩ := h; rw [h]; rfl)
  | (obtain ⟨_, _, _, _, _, _, _, _, _, _, _, _, h, _⟩ := h; rw [h]; rfl)
  | (obtain ⟨_, _, _, _, _, _, _, _, _, _, _, _, _, h, _⟩ := h; rw [h]; rfl)
  | (obtain ⟨_, _, _, _, _, _, _, _, _, _, _, _, _, _, h, _⟩ := h; rw [h]; rfl)
def bd_l_spans_1_t3 : WTS := (wDrop (wBm .list mAppend (wVar 7) (wCons (wTup (wCons (wOp oMod (wOp oAdd (wOp oAdd (wVar 5) (wOp oMul (wVar 8) (wVar 6))) (wCall sp_l_draw (wCons (wVar 0) (wCons (wOp oAdd (wC (.int 66)) (wVar 8)) (wCons (wOp oAdd (wOp oSub (wVar 9) (wVar 10)) (wC (.int 1))) wNil))))) (wVar 2)) (wCons (wVar 10) wNil))) wNil)))
def bd_l_spans_1_t2 : WTS := wSeq (wAsg (wOp oAdd (wOp oIx (wVar 1) (wC (.int 6))) (wCall sp_l_draw (wCons (wVar 0) (wCons (wOp oAdd (wC (.int 62)) (wVar 8)) (wCons (wOp oAdd (wOp oSub (wVar 9) (wOp oIx (wVar 1) (wC (.int 6)))) (wC (.int 1))) wNil))))) (wN 10)) bd_l_spans_1_t3
def bd_l_spans_1 : WTS := wSeq (wAsg (wOp oSub (wVar 6) (wVar 3)) (wN 9)) bd_l_spans_1_t2
def bd_l_spans_t7 : WTS := (wRet (wVar 7))
def bd_l_spans_t6 : WTS := wSeq (wFor (wRng1 (wCons (wVar 4) wNil)) (wN 8) bd_l_spans_1) bd_l_spans_t7
def bd_l_spans_t5 : WTS := wSeq (wAsg (wLstM wNil) (wN 7)) bd_l_spans_t6
def bd_l_spans_t4 : WTS := wSeq (wAsg (wOp oDiv (wVar 2) (wVar 4)) (wN 6)) bd_l_spans_t5
def bd_l_spans_t3 : WTS := wSeq (wAsg (wCall sp_l_draw (wCons (wVar 0) (wCons (wC (.int 61)) (wCons (wVar 2) wNil)))) (wN 5)) bd_l_spans_t4
def bd_l_spans_t2 : WTS := wSeq (wAsg (wCB oMax2 (wCons (wC (.int 1)) (wCons (wCB oMin2 (wCons (wOp oAdd (wC (.int 1)) (wCall sp_l_draw (wCons (wVar 0) (wCons (wC (.int 60)) (wCons (wC (.int 3)) wNil))))) (wCons (wOp oDiv (wVar 2) (wOp oAdd (wVar 3) (wOp oIx (wVar 1) (wC (.int 6))))) wNil))) wNil))) (wN 4)) bd_l_spans_t3
def bd_l_spans : WTS := wSeq (wAsg (wOp oDget (wView (wDisp (((wC (.str tCAR)), (wC (.int 3))) :: (((wC (.str tFOOT)), (wOp oIx (wVar 1) (wC (.int 4)))) :: (((wC (.str tTRAM)), (wC (.int 3))) :: []))))) (wOp oIx (wVar 1) (wC (.int 0)))) (wN 3)) bd_l_spans_t2
theorem lpr_bd_l_spans_1 {j : Int} {D : WEnds} {E : WXK} {G : WHp} {s0 s1 s2 s3 s4 s5 s6 s7 : Option W} {o8 o9 o10 : Option W} (Inv : Nat → WHp → Prop) (h0 : Inv 0  G) (hs : ∀ (i : Nat)  (o8 o9 o10 : Option W) (G' : WHp), (i : Int) < j → Inv i  G' → bd_l_spans_1 { nx := fun σ' G2 => ∃ (o8 o9 o10 : Option W), σ' = [s0, s1, s2, s3, s4, s5, s6, s7, o8, o9, o10] ∧ Inv (i + 1)  G2, rt := D.rt, bk := D.nx, ct := fun σ' G2 => ∃ (o8 o9 o10 : Option W), σ' = [s0, s1, s2, s3, s4, s5, s6, s7, o8, o9, o10] ∧ Inv (i + 1)  G2 } [s0, s1, s2, s3, s4, s5, s6, s7, some (.int (i : Nat)), o9, o10] G' E) (hd : ∀ (o8 o9 o10 : Option W) (G' : WHp), Inv (j.toNat)  G' → D.nx [s0, s1, s2, s3, s4, s5, s6, s7, o8, o9, o10] G') : LoopOk ((wN 8)) bd_l_spans_1 D [s0, s1, s2, s3, s4, s5, s6, s7, o8, o9, o10] E (rngW 0 j.toNat) (fun _ => True) G := by
  refine ⟨fun i => (fun σ' G2 => ∃ (o8 o9 o10 : Option W), σ' = [s0, s1, s2, s3, s4, s5, s6, s7, o8, o9, o10] ∧ Inv i  G2), ⟨_, _, _, rfl, h0⟩, ?_, ?_, ?_⟩
  · intros; trivial
  · rintro i w σ' G' hw ⟨o8, o9, o10, rfl, h⟩
    obtain ⟨hi, rfl⟩ := rngW_get hw; rw [Int.zero_add]; have : (i : Int) < j := by omega
    exact hs i o8 o9 o10 G' (by assumption) h
  · rintro σ' G' ⟨o8, o9, o10, rfl, h⟩
    rw [rngW_len] at h
    exact hd o8 o9 o10 G' h
theorem w_l_spans (ws : List W) (G : WHp) (Q : WQ) (Ex : Xc → WHp → Prop) (h : sp_l_spans ws G Q Ex) : bd_l_spans (endsW Q) (wStart ["_law_script", "_law_way_here", "_law_size", "_law_idle", "_law_many", "_law_begin", "_law_part", "_law_spans_here", "_law_k", "_law_most", "_law_turns"] ws) G (fun c _ G' => Ex c G') := by
  obtain ⟨ns, y, z, rfl, hl, hy, z0, z1, q⟩ := h
  obtain ⟨mm, hm⟩ := mnF_is (ns := ns) hy z0 z1
  obtain ⟨pa, pb, pc⟩ := ptF_is (ns := ns) hy z0 z1
  obtain ⟨rf, i0, i1⟩ := hy.rf
  have ele := hy.le
  simp only [bd_l_spans, wDisp, wPairs, wAsg, wN, wSeq, wOp, wView, wC, wVar, wGet, wRet, wStart, List.map_cons, List.map_nil, List.length_cons, List.length_nil, List.replicate, List.cons_append, List.nil_append, exists_eq_left', Option.some.injEq, tw7, oIx_tup, at_hd, at_4]
  intro p1 hp1
  refine ⟨updG_same, [(.inr tCAR, .int 3), (.inr tFOOT, .int y.off), (.inr tTRAM, .int 3)], rfl, by simp, ?_⟩
  rw [updG_updG]
  refine vw_dct hp1 ?_
  refine sort3 hy.so ?_
  have ei : (if y.sort = 10 then 3 else if y.sort = 11 then y.off else 3) = idF y := by
    unfold idF
    rcases hy.so with e | e | e <;> rw [e] <;> simp
  rw [ei]
  simp_arith! only [bd_l_spans_t2, tw7]
  (refine draw_i hl (by omega) (by omega) (by first | decide | omega) fun d0 d1 => ?_) <;> (try simp_arith! only [true_and])
  rw [ele]
  refine ⟨⟨by omega, by omega⟩, ?_⟩
  have em : ∀ a : Int, a = 1 + drawF ns 60 3 → (if (if z / (idF y + 1) < a then z / (idF y + 1) else a) > 1 then (if z / (idF y + 1) < a then z / (idF y + 1) else a) else 1) = mnF ns y z := fun a e => by rw [e]; rfl
  rw [em _ rfl]
  simp_arith! only [bd_l_spans_t3, tw7]
  (refine draw_i hl (by omega) (by omega) (by first | decide | omega) fun e0 e1 => ?_) <;> (try simp_arith! only [true_and])
  simp_arith! only [bd_l_spans_t4, tw7]
  refine ⟨⟨by omega, by omega⟩, ?_⟩
  rw [show z / mnF ns y z = ptF ns y z from rfl]
  simp_arith! only [bd_l_spans_t5, tw7]
  intro p hp
  simp_arith! only [bd_l_spans_t6, tw7]
  refine ⟨by omega, by omega, lpr_bd_l_spans_1 (fun i G' => G' = updG G p (.lst (((List.range i).map (spK ns y z)).map spW2))) rfl ?_ ?_⟩
  · rintro i o8 o9 o10 G' hi rfl
    obtain ⟨t0, a0, a1⟩ := tK_is (ns := ns) (k := i) hy z0 z1
    simp_arith! only [bd_l_spans_1, tw7]
    simp_arith! only [bd_l_spans_1_t2, tw7]
    refine draw_i hl (by omega) (by omega) (by omega) fun u0 u1 => ?_
    rw [show ptF ns y z - idF y - 1 + 1 = ptF ns y z - idF y by omega]
    rw [oAdd_int]
    rw [show 1 + drawF ns (62 + (i : Int)) (ptF ns y z - idF y) = tK ns y z i from rfl]
    simp_arith! only [bd_l_spans_1_t3, tw7]
    refine ⟨mulL (by omega) (by omega), ?_⟩
    refine draw_i hl (by omega) (by omega) (by omega) fun v0 v1 => ?_
    rw [show drawF ns (66 + (i : Int)) (ptF ns y z - idF y - tK ns y z i + 1) = eK ns y z i from rfl]
    simp_arith! only [updG_same, updG_updG, List.length_map, List.length_range]
    refine ⟨by omega, by omega, ?_⟩
    rw [List.range_succ, List.map_append, List.map_append]
    rfl
  · rintro o8 o9 o10 G' rfl
    simp_arith! only [bd_l_spans_t7]
    exact q p hp

def sp_l_way : WSp := fun ws G Q E => ∃ (ns : List Int), ws = [.sc ns] ∧ ns.length ≤ 63 ∧ ∀ y, Wy46 y → Q (tw7 y) G

theorem len_l_way : ∀ ws G Q E, sp_l_way ws G Q E → ws.length = (["_law_script"] : List Str).length := by
  intro ws G Q E h
  first
  | (obtain ⟨_, h, _⟩ := h; rw [h]; rfl)
  | (obtain ⟨_, _, h, _⟩ := h; rw [h]; rfl)
  | (obtain ⟨_, _, _, h, _⟩ := h; rw [h]; rfl)
  | (obtain ⟨_, _, _, _, h, _⟩ := h; rw [h]; rfl)
  | (obtain ⟨_, _, _, _, _, h, _⟩ := h; rw [h]; rfl)
  | (obtain ⟨_, _, _, _, _, _, h, _⟩ := h; rw [h]; rfl)
  | (obtain ⟨_, _, _, _, _, _, _, h, _⟩ := h; rw [h]; rfl)
  | (obtain ⟨_, _, _, _, _, _, _, _, h, _⟩ := h; rw [h]; rfl)
  | (obtain ⟨_, _, _, _, _, _, _, _, _, h, _⟩ := h; rw [h]; rfl)
  | (obtain ⟨_, _, _, _, _, _, _, _, _, _, h, _⟩ := h; rw [h]; rfl)
  | (obtain ⟨_, _, _, _, _, _, _, _, _, _, _, h, _⟩ := h; rw [h]; rfl)
  | (obtain ⟨_, _, _, _, _, _, _, _, _, _, _, _, h, _⟩ := h; rw [h]; rfl)
  | (obtain ⟨_, _, _, _, _, _, _, _, _, _, _, _, _, h, _⟩ := h; rw [h]; rfl)
  | (obtain ⟨_, _, _, _, _, _, _, _, _, _, _, _, _, _, h, _⟩ := h; rw [h]; rfl)
def bd_l_way_t2 : WTS := (wRet (wTup (wCons (wVar 1) (wCons (wOp oIx (wC (.str [97, 98])) (wCall sp_l_draw (wCons (wVar 0) (wCons (wC (.int 2)) (wCons (wC (.int 2)) wNil))))) (wCons (wC (.int 0)) (wCons (wOp oAdd (wC (.int 1)) (wCall sp_l_draw (wCons (wVar 0) (wCons (wC (.int 3)) (wCons (wC (.int 5)) wNil))))) (wCons (wCall sp_l_draw (wCons (wVar 0) (wCons (wC (.int 4)) (wCons (wC (.int 5)) wNil)))) (wCons (wC (.int 0)) (wCons (wC (.int 1)) wNil)))))))))
def bd_l_way : WTS := wSeq (wAsg (wOp oIx (wLstI (wCons (wC (.str tCAR)) (wCons (wC (.str tFOOT)) (wCons (wC (.str tTRAM)) wNil)))) (wCall sp_l_draw (wCons (wVar 0) (wCons (wC (.int 1)) (wCons (wC (.int 3)) wNil))))) (wN 1)) bd_l_way_t2
theorem w_l_way (ws : List W) (G : WHp) (Q : WQ) (Ex : Xc → WHp → Prop) (h : sp_l_way ws G Q Ex) : bd_l_way (endsW Q) (wStart ["_law_script", "_law_sort"] ws) G (fun c _ G' => Ex c G') := by
  obtain ⟨ns, rfl, hl, q⟩ := h
  simp_arith! only [bd_l_way]
  (refine draw_i hl (by omega) (by omega) (by first | decide | omega) fun d0 d1 => ?_) <;> (try simp_arith! only [true_and])
  obtain ⟨k, hk, e⟩ := sort46 d0 d1
  refine ⟨_, e, ?_⟩
  simp_arith! only [bd_l_way_t2]
  (refine draw_i hl (by omega) (by omega) (by first | decide | omega) fun e0 e1 => ?_) <;> (try simp_arith! only [true_and])
  have hch : ∃ n : List Nat, (n = [97] ∨ n = [98]) ∧ ∃ ch, n = [ch] ∧ atI [97, 98] (drawF ns 2 2) = some ch := by
    have : drawF ns 2 2 = 0 ∨ drawF ns 2 2 = 1 := by omega
    rcases this with h | h <;> rw [h]
    · exact ⟨[97], .inl rfl, 97, rfl, rfl⟩
    · exact ⟨[98], .inr rfl, 98, rfl, rfl⟩
  obtain ⟨n, hn, ch, hnc, hat⟩ := hch
  refine ⟨ch, hat, ?_⟩
  (refine draw_i hl (by omega) (by omega) (by first | decide | omega) fun f0 f1 => ?_) <;> (try simp_arith! only [true_and])
  (refine draw_i hl (by omega) (by omega) (by first | decide | omega) fun g0 g1 => ?_) <;> (try simp_arith! only [true_and])
  rw [← hnc]
  exact q ⟨k, n, 0, 1 + drawF ns 3 5, drawF ns 4 5, 0, 1⟩ ⟨hk, hn, rfl, by show 1 ≤ 1 + drawF ns 3 5; omega, by show 1 + drawF ns 3 5 ≤ 5; omega, g0, by show drawF ns 4 5 ≤ 4; omega, rfl, rfl⟩

def sp_l_plan : WSp := fun ws G Q E => ∃ (ns : List Int) (y : Wy) (z : Int), ws = [.sc ns, tw7 y, .int z] ∧ ns.length ≤ 63 ∧ Wy46 y ∧ 5 ≤ z ∧ z ≤ 60 ∧ ∀ c rs G', Sub G G' → Pl46 ns y z c rs → Q (pnW c z rs) G'

theorem len_l_plan : ∀ ws G Q E, sp_l_plan ws G Q E → ws.length = (["_law_script", "_law_way_here", "_law_size"] : List Str).length := by
  intro ws G Q E h
  first
  | (obtain ⟨_, h, _⟩ := h; rw [h]; rfl)
  | (obtain ⟨_, _, h, _⟩ := h; rw [h]; rfl)
  | (obtain ⟨_, _, _, h, _⟩ := h; rw [h]; rfl)
  | (obtain ⟨_, _, _, _, h, _⟩ := h; rw [h]; rfl)
  | (obtain ⟨_, _, _, _, _, h, _⟩ := h; rw [h]; rfl)
  | (obtain ⟨_, _, _, _, _, _, h, _⟩ := h; rw [h]; rfl)
  | (obtain ⟨_, _, _, _, _, _, _, h, _⟩ := h; rw [h]; rfl)
  | (obtain ⟨_, _, _, _, _, _, _, _, h, _⟩ := h; rw [h]; rfl)
  | (obtain ⟨_, _, _, _, _, _, _, _, _, h, _⟩ := h; rw [h]; rfl)
  | (obtain ⟨_, _, _, _, _, _, _, _, _, _, h, _⟩ := h; rw [h]; rfl)
  | (obtain ⟨_, _, _, _, _, _, _, _, _, _, _, h, _⟩ := h; rw [h]; rfl)
  | (obtain ⟨_, _, _, _, _, _, _, _, _, _, _, _, h, _⟩ := h; rw [h]; rfl)
  | (obtain ⟨_, _, _, _, _, _, _, _, _, _, _, _, _, h, _⟩ := h; rw [h]; rfl)
  | (obtain ⟨_, _, _, _, _, _, _, _, _, _, _, _, _, _, h, _⟩ := h; rw [h]; rfl)
def lc_l_plan_1_t : WTT := wYes
def lc_l_plan_1_e : WTE := (wTup (wCons (wOp oIx (wVar 1) (wC (.int 1))) (wCons (wOp oIx (wVar 6) (wC (.int 0))) (wCons (wOp oIx (wVar 6) (wC (.int 1))) wNil))))
def bd_l_plan_2 : WTS := (wAsg (wLstI (wCons (wVar 3) (wCons (wVar 1) wNil))) (wN 5))
def bd_l_plan_t6 : WTS := (wRet (wCall sp_made_plan (wCons (wCall sp_read_crossing (wCons (wCall sp_l_text (wCons (wC (.int 9)) (wCons (wVar 5) wNil))) wNil)) (wCons (wVar 2) (wCons (wVar 4) wNil)))))
def bd_l_plan_t5 : WTS := wSeq (wIfS (wTest (wOp oEq (wCall sp_l_draw (wCons (wVar 0) (wCons (wC (.int 71)) (wCons (wC (.int 2)) wNil)))) (wC (.int 0)))) bd_l_plan_2 wNext) bd_l_plan_t6
def bd_l_plan_t4 : WTS := wSeq (wAsg (wLstI (wCons (wVar 1) (wCons (wVar 3) wNil))) (wN 5)) bd_l_plan_t5
def bd_l_plan_t3 : WTS := wSeq (wDrop (wBm .list mInsert (wVar 4) (wCons (wCall sp_l_draw (wCons (wVar 0) (wCons (wC (.int 70)) (wCons (wOp oAdd (wCB oLen (wCons (wVar 4) wNil)) (wC (.int 1))) wNil)))) (wCons (wTup (wCons (wC (.str [99])) (wCons (wC (.int 0)) (wCons (wC (.int 1)) wNil)))) wNil)))) bd_l_plan_t4
def bd_l_plan_t2 : WTS := wSeq (wAsg (wLcM (wIter (wCall sp_l_spans (wCons (wVar 0) (wCons (wVar 1) (wCons (wVar 2) wNil))))) 6 lc_l_plan_1_t lc_l_plan_1_e) (wN 4)) bd_l_plan_t3
def bd_l_plan : WTS := wSeq (wAsg (wTup (wCons (wC (.str tCAR)) (wCons (wC (.str [99])) (wCons (wC (.int 0)) (wCons (wC (.int 6)) (wCons (wC (.int 0)) (wCons (wC (.int 0)) (wCons (wC (.int 1)) wNil)))))))) (wN 3)) bd_l_plan_t2
theorem w_l_plan (ws : List W) (G : WHp) (Q : WQ) (Ex : Xc → WHp → Prop) (h : sp_l_plan ws G Q Ex) : bd_l_plan (endsW Q) (wStart ["_law_script", "_law_way_here", "_law_size", "_law_other", "_law_rows", "_law_names", "_law_span"] ws) G (fun c _ G' => Ex c G') := by
  obtain ⟨ns, y, z, rfl, hl, hy, z0, z1, q⟩ := h
  simp_arith! only [bd_l_plan]
  simp_arith! only [bd_l_plan_t2]
  refine ⟨ns, y, z, rfl, hl, hy, z0, z1, fun p hp => ?_⟩
  show iterQ _ _ _
  rw [iterQ_ref]
  refine ⟨_, updG_same, ?_⟩
  refine lcM_mm (g := spW2) (fun s => spW (snOf y s)) (by have := (spF_ne (ns := ns) hy z0 z1).1; omega) ?_ ?_ (fun G' e => e.at updG_same)
  · intro k s G' Q' hs e q'
    simp_arith! only [lc_l_plan_1_e, tw7, spW2]
    exact q'
  intro r hr
  have s1 := Sub.new (o := .lst ((spF ns y z).map spW2)) hp
  have l3 := (spF_ne (ns := ns) hy z0 z1).1
  have er : (spF ns y z).map (fun s => spW (snOf y s)) = ((spF ns y z).map (snOf y)).map spW := by rw [List.map_map]; rfl
  rw [er]
  simp_arith! only [bd_l_plan_t3, updG_same, updG_updG, List.length_map]
  refine draw_i hl (by omega) (by omega) (by omega) fun d0 d1 => ?_
  obtain ⟨d, hd⟩ := Int.eq_ofNat_of_zero_le d0
  rw [hd]
  simp_arith! only [updG_same, updG_updG, List.length_map]
  refine ⟨by omega, by omega, by omega, ?_⟩
  have ers : (List.map spW (List.map (snOf y) (spF ns y z))).take (Int.toNat (d : Int)) ++ [W.tup [W.str [99], W.int 0, W.int 1]] ++ (List.map spW (List.map (snOf y) (spF ns y z))).drop (Int.toNat (d : Int)) = (rs46 ns y z d).map spW := by
    unfold rs46
    rw [Int.toNat_natCast, List.map_append, List.map_append, List.map_take, List.map_drop]
    rfl
  rw [ers]
  have s2 := Sub.new (o := .lst ((rs46 ns y z d).map spW)) hr
  have hH : (updG (updG G p (.lst ((spF ns y z).map spW2))) r (.lst ((rs46 ns y z d).map spW))) r = some (.lst ((rs46 ns y z d).map spW)) := updG_same
  have sH := s1.trans s2
  generalize updG (updG G p (.lst ((spF ns y z).map spW2))) r (.lst ((rs46 ns y z d).map spW)) = H at *
  clear s1 s2 er ers
  have fin : ∀ ws : List Wy, Cr46 y ⟨9, ws⟩ → bd_l_plan_t6 (endsW Q) [some (.sc ns), some (tw7 y), some (.int z), some (tw7 oth46), some (.ref r), some (.il (ws.map tw7)), none] H fun c _ G' => Ex c G' := fun ws hc => by
    have ho := hc.ok hy
    obtain ⟨g1, g2⟩ := hc.gw hy
    simp_arith! only [bd_l_plan_t6]
    refine ⟨⟨9, ws⟩, rfl, ho, ?_⟩
    simp_arith! only [true_and]
    refine ⟨_, rfl, by have := crText_len ho; omega, fun c' hc' => ?_, fun e w hrw => by rw [crossP_text ho] at hrw; cases hrw⟩
    rw [crossP_text ho] at hc'
    cases hc'
    have pn := pn46 (ns := ns) (d := d) hc hy z0 z1
    refine ⟨⟨9, ws⟩, z, rs46 ns y z d, _, rfl, pn, .inr ⟨r, rfl, hH⟩, look46 hc hy z0 z1 ?_⟩
    exact q _ _ H sH ⟨pn, hc.nm.1, hc.nm.2.2, g1, fun t => fre46 hy t⟩
  simp_arith! only [bd_l_plan_t4]
  simp_arith! only [bd_l_plan_t5]
  (refine draw_i hl (by omega) (by omega) (by first | decide | omega) fun u0 u1 => ?_) <;> (try simp_arith! only [true_and])
  split
  · simp_arith! only [bd_l_plan_2]
    exact fin [oth46, y] ⟨rfl, .inr rfl⟩
  · exact fin [y, oth46] ⟨rfl, .inl rfl⟩

def sp_l_free : WSp := fun ws G Q E => ∃ (ns : List Int) (y : Wy) (z t : Int), ws = [.sc ns, tw7 y, .int z, .int t] ∧ ns.length ≤ 63 ∧ Wy46 y ∧ 5 ≤ z ∧ z ≤ 60 ∧ ∀ G', Sub G G' → Q (.bl (freF (spF ns y z) z t)) G'

theorem len_l_free : ∀ ws G Q E, sp_l_free ws G Q E → ws.length = (["_law_script", "_law_way_here", "_law_size", "_law_turn"] : List Str).length := by
  intro ws G Q E h
  first
  | (obtain ⟨_, h, _⟩ := h; rw [h]; rfl)
  | (obtain ⟨_, _, h, _⟩ := h; rw [h]; rfl)
  | (obtain ⟨_, _, _, h, _⟩ := h; rw [h]; rfl)
  | (obtain ⟨_, _, _, _, h, _⟩ := h; rw [h]; rfl)
  | (obtain ⟨_, _, _, _, _, h, _⟩ := h; rw [h]; rfl)
  | (obtain ⟨_, _, _, _, _, _, h, _⟩ := h; rw [h]; rfl)
  | (obtain ⟨_, _, _, _, _, _, _, h, _⟩ := h; rw [h]; rfl)
  | (obtain ⟨_, _, _, _, _, _, _, _, h, _⟩ := h; rw [h]; rfl)
  | (obtain ⟨_, _, _, _, _, _, _, _, _, h, _⟩ := h; rw [h]; rfl)
  | (obtain ⟨_, _, _, _, _, _, _, _, _, _, h, _⟩ := h; rw [h]; rfl)
  | (obtain ⟨_, _, _, _, _, _, _, _, _, _, _, h, _⟩ := h; rw [h]; rfl)
  | (obtain ⟨_, _, _, _, _, _, _, _, _, _, _, _, h, _⟩ := h; rw [h]; rfl)
  | (obtain ⟨_, _, _, _, _, _, _, _, _, _, _, _, _, h, _⟩ := h; rw [h]; rfl)
  | (obtain ⟨_, _, _, _, _, _, _, _, _, _, _, _, _, _, h, _⟩ := h; rw [h]; rfl)
def bd_l_free_2 : WTS := (wRet (wC (.bl true)))
def bd_l_free_1 : WTS := (wIfS (wTest (wOp oLt (wOp oMod (wOp oSub (wVar 3) (wVar 4)) (wVar 2)) (wVar 5))) bd_l_free_2 wNext)
def bd_l_free_t2 : WTS := (wRet (wC (.bl false)))
def bd_l_free : WTS := wSeq (wFor (wIter (wCall sp_l_spans (wCons (wVar 0) (wCons (wVar 1) (wCons (wVar 2) wNil))))) (wGTup 2 (wGCons (wN 4) (wGCons (wN 5) wGNil))) bd_l_free_1) bd_l_free_t2
theorem lpm_bd_l_free_1 {ok : WHp → Prop} {α : Type} {f : α → W} {xs : List α} {D : WEnds} {E : WXK} {G : WHp} {s0 s1 s2 s3 : Option W} {o4 o5 : Option W} (Inv : Nat → WHp → Prop) (h0 : Inv 0  G) (hs : ∀ (i : Nat) (x : α) (o4 o5 : Option W) (G' : WHp), xs[i]? = some x → Inv i  G' → ((wGTup 2 (wGCons (wN 4) (wGCons (wN 5) wGNil)))) (f x) [s0, s1, s2, s3, o4, o5] G' (fun σ2 G2 => bd_l_free_1 { nx := fun σ' G2 => ∃ (o4 o5 : Option W), σ' = [s0, s1, s2, s3, o4, o5] ∧ Inv (i + 1)  G2, rt := D.rt, bk := D.nx, ct := fun σ' G2 => ∃ (o4 o5 : Option W), σ' = [s0, s1, s2, s3, o4, o5] ∧ Inv (i + 1)  G2 } σ2 G2 E) E) (hd : ∀ (o4 o5 : Option W) (G' : WHp), Inv (xs.length)  G' → D.nx [s0, s1, s2, s3, o4, o5] G') (hk : ∀ (i : Nat)  (G' : WHp), i ≤ xs.length → Inv i  G' → ok G' := by intros; trivial) : LoopOk ((wGTup 2 (wGCons (wN 4) (wGCons (wN 5) wGNil)))) bd_l_free_1 D [s0, s1, s2, s3, o4, o5] E (xs.map f) ok G := by
  refine ⟨fun i => (fun σ' G2 => ∃ (o4 o5 : Option W), σ' = [s0, s1, s2, s3, o4, o5] ∧ Inv i  G2), ⟨_, _, rfl, h0⟩, ?_, ?_, ?_⟩
  · rintro i σ' G' hi ⟨o4, o5, rfl, h⟩; exact hk i  G' (by rw [List.length_map] at hi; exact hi) h
  · rintro i w σ' G' hw ⟨o4, o5, rfl, h⟩
    obtain ⟨x, hx, rfl⟩ := map_get hw
    exact hs i _ o4 o5 G' (by assumption) h
  · rintro σ' G' ⟨o4, o5, rfl, h⟩
    rw [List.length_map] at h
    exact hd o4 o5 G' h
theorem w_l_free (ws : List W) (G : WHp) (Q : WQ) (Ex : Xc → WHp → Prop) (h : sp_l_free ws G Q Ex) : bd_l_free (endsW Q) (wStart ["_law_script", "_law_way_here", "_law_size", "_law_turn", "_law_begin", "_law_turns"] ws) G (fun c _ G' => Ex c G') := by
  obtain ⟨ns, y, z, t, rfl, hl, hy, z0, z1, q⟩ := h
  simp_arith! only [bd_l_free]
  refine ⟨ns, y, z, rfl, hl, hy, z0, z1, fun p hp => ?_⟩
  show iterQ _ _ _
  rw [iterQ_ref]
  refine ⟨_, updG_same, ?_⟩
  have s1 := Sub.new (o := .lst ((spF ns y z).map spW2)) hp
  refine lpm_bd_l_free_1 (fun i G' => G' = updG G p (.lst ((spF ns y z).map spW2)) ∧ ∀ s ∈ (spF ns y z).take i, decide ((t - s.1) % z < s.2) = false) ⟨rfl, fun s h => by simp at h⟩ ?_ ?_ (fun i G' _ h => by rw [h.1, updG_same])
  · rintro i s o4 o5 G' hs ⟨rfl, hno⟩
    simp_arith! only [bd_l_free_1, spW2]
    refine ⟨by omega, ?_⟩
    split
    · rename_i h1
      simp_arith! only [bd_l_free_2]
      have : freF (spF ns y z) z t = true := List.any_eq_true.mpr ⟨s, List.mem_of_getElem? hs, decide_eq_true h1⟩
      rw [this] at q
      exact q _ s1
    · rename_i h1
      intro s' hs'
      rw [List.take_add_one, hs] at hs'
      rcases List.mem_append.mp hs' with h | h
      · exact of_decide_eq_false (hno s' h)
      · rw [Option.toList_some, List.mem_singleton] at h
        rw [h]; exact h1
  · rintro o4 o5 G' ⟨rfl, hno⟩
    rw [List.take_length] at hno
    simp_arith! only [bd_l_free_t2]
    have : freF (spF ns y z) z t = false := by
      unfold freF
      rw [List.any_eq_false]
      intro s hs
      rw [hno s hs]; simp
    rw [this] at q
    exact q _ s1

def sp_l_comings : WSp := fun ws G Q E => ∃ (ns : List Int) (z : Int), ws = [.sc ns, .int z] ∧ ns.length ≤ 63 ∧ 5 ≤ z ∧ z ≤ 60 ∧ ∀ p cs, G p = none → CmOk z cs → Q (.ref p) (updG G p (.lst (cs.map .int)))

theorem len_l_comings : ∀ ws G Q E, sp_l_comings ws G Q E → ws.length = (["_law_script", "_law_size"] : List Str).length := by
  intro ws G Q E h
  first
  | (obtain ⟨_, h, _⟩ := h; rw [h]; rfl)
  | (obtain ⟨_, _, h, _⟩ := h; rw [h]; rfl)
  | (obtain ⟨_, _, _, h, _⟩ := h; rw [h]; rfl)
  | (obtain ⟨_, _, _, _, h, _⟩ := h; rw [h]; rfl)
  | (obtain ⟨_, _, _, _, _, h, _⟩ := h; rw [h]; rfl)
  | (obtain ⟨_, _, _, _, _, _, h, _⟩ := h; rw [h]; rfl)
  | (obtain ⟨_, _, _, _, _, _, _, h, _⟩ := h; rw [h]; rfl)
  | (obtain ⟨_, _, _, _, _, _, _, _, h, _⟩ := h; rw [h]; rfl)
  | (obtain ⟨_, _, _, _, _, _, _, _, _, h, _⟩ := h; rw [h]; rfl)
  | (obtain ⟨_, _, _, _, _, _, _, _, _, _, h, _⟩ := h; rw [h]; rfl)
  | (obtain ⟨_, _, _, _, _, _, _, _, _, _, _, h, _⟩ := h; rw [h]; rfl)
  | (obtain ⟨_, _, _, _, _, _, _, _, _, _, _, _, h, _⟩ := h; rw [h]; rfl)
  | (obtain ⟨_, _, _, _, _, _, _, _, _, _, _, _, _, h, _⟩ := h; rw [h]; rfl)
  | (obtain ⟨_, _, _, _, _, _, _, _, _, _, _, _, _, _, h, _⟩ := h; rw [h]; rfl)
def bd_l_comings_2 : WTS := (wAsg (wC (.int 0)) (wN 6))
def bd_l_comings_1_t4 : WTS := (wDrop (wBm .list mAppend (wVar 4) (wCons (wOp oMod (wVar 6) (wVar 2)) wNil)))
def bd_l_comings_1_t3 : WTS := wSeq (wIfS (wTest (wOp oGt (wCall sp_l_draw (wCons (wVar 0) (wCons (wOp oAdd (wC (.int 90)) (wVar 5)) (wCons (wVar 3) wNil)))) (wC (.int 0)))) bd_l_comings_2 wNext) bd_l_comings_1_t4
def bd_l_comings_1_t2 : WTS := wSeq (wAsg (wOp oAdd (wOp oMul (wOp oMod (wVar 6) (wC (.int 1000003))) (wC (.int 48271))) (wOp oMul (wOp oAdd (wOp oMul (wVar 5) (wVar 5)) (wC (.int 7))) (wC (.int 7919)))) (wN 6)) bd_l_comings_1_t3
def bd_l_comings_1 : WTS := wSeq (wAsg (wIf (wTest (wOp oGt (wCB oLen (wCons (wVar 0) wNil)) (wC (.int 0)))) (wOp oIx (wVar 0) (wOp oMod (wVar 5) (wCB oLen (wCons (wVar 0) wNil)))) (wC (.int 1))) (wN 6)) bd_l_comings_1_t2
def bd_l_comings_t5 : WTS := (wRet (wVar 4))
def bd_l_comings_t4 : WTS := wSeq (wFor (wRng1 (wCons (wVar 1) wNil)) (wN 5) bd_l_comings_1) bd_l_comings_t5
def bd_l_comings_t3 : WTS := wSeq (wAsg (wLstM wNil) (wN 4)) bd_l_comings_t4
def bd_l_comings_t2 : WTS := wSeq (wAsg (wOp oAdd (wC (.int 1)) (wCall sp_l_draw (wCons (wVar 0) (wCons (wC (.int 81)) (wCons (wC (.int 4)) wNil))))) (wN 3)) bd_l_comings_t3
def bd_l_comings : WTS := wSeq (wAsg (wOp oIx (wLstI (wCons (wC (.int 2)) (wCons (wC (.int 3)) (wCons (wC (.int 2)) (wCons (wOp oAdd (wOp oPow (wC (.int 10)) (wC (.int 9))) (wC (.int 1))) wNil))))) (wCall sp_l_draw (wCons (wVar 0) (wCons (wC (.int 80)) (wCons (wC (.int 4)) wNil))))) (wN 2)) bd_l_comings_t2
theorem lpr_bd_l_comings_1 {j : Int} {D : WEnds} {E : WXK} {G : WHp} {s0 s1 s2 s3 s4 : Option W} {o5 o6 : Option W} (Inv : Nat → WHp → Prop) (h0 : Inv 0  G) (hs : ∀ (i : Nat)  (o5 o6 : Option W) (G' : WHp), (i : Int) < j → Inv i  G' → bd_l_comings_1 { nx := fun σ' G2 => ∃ (o5 o6 : Option W), σ' = [s0, s1, s2, s3, s4, o5, o6] ∧ Inv (i + 1)  G2, rt := D.rt, bk := D.nx, ct := fun σ' G2 => ∃ (o5 o6 : Option W), σ' = [s0, s1, s2, s3, s4, o5, o6] ∧ Inv (i + 1)  G2 } [s0, s1, s2, s3, s4, some (.int (i : Nat)), o6] G' E) (hd : ∀ (o5 o6 : Option W) (G' : WHp), Inv (j.toNat)  G' → D.nx [s0, s1, s2, s3, s4, o5, o6] G') : LoopOk ((wN 5)) bd_l_comings_1 D [s0, s1, s2, s3, s4, o5, o6] E (rngW 0 j.toNat) (fun _ => True) G := by
  refine ⟨fun i => (fun σ' G2 => ∃ (o5 o6 : Option W), σ' = [s0, s1, s2, s3, s4, o5, o6] ∧ Inv i  G2), ⟨_, _, rfl, h0⟩, ?_, ?_, ?_⟩
  · intros; trivial
  · rintro i w σ' G' hw ⟨o5, o6, rfl, h⟩
    obtain ⟨hi, rfl⟩ := rngW_get hw; rw [Int.zero_add]; have : (i : Int) < j := by omega
    exact hs i o5 o6 G' (by assumption) h
  · rintro σ' G' ⟨o5, o6, rfl, h⟩
    rw [rngW_len] at h
    exact hd o5 o6 G' h
theorem w_l_comings (ws : List W) (G : WHp) (Q : WQ) (Ex : Xc → WHp → Prop) (h : sp_l_comings ws G Q Ex) : bd_l_comings (endsW Q) (wStart ["_law_script", "_law_size", "_law_most", "_law_rare", "_law_row", "_law_k", "_law_many"] ws) G (fun c _ G' => Ex c G') := by
  obtain ⟨ns, z, rfl, hl, z0, z1, q⟩ := h
  unfold bd_l_comings
  refine st_mid (fun σ' G' => ∃ m : Int, 2 ≤ m ∧ m ≤ 1000000001 ∧ σ' = [some (.sc ns), some (.int z), some (.int m), none, none, none, none] ∧ G' = G) ?_ ?_
  · intro K fin
    simp_arith! only [true_and]
    refine ⟨by unfold CPow; decide, ?_⟩
    (refine draw_i hl (by omega) (by omega) (by first | decide | omega) fun d0 d1 => ?_) <;> (try simp_arith! only [true_and])
    have : drawF ns 80 4 = 0 ∨ drawF ns 80 4 = 1 ∨ drawF ns 80 4 = 2 ∨ drawF ns 80 4 = 3 := by omega
    rcases this with h | h | h | h <;> rw [h]
    · exact ⟨_, rfl, fin _ _ ⟨2, by decide, by decide, rfl, rfl⟩⟩
    · exact ⟨_, rfl, fin _ _ ⟨3, by decide, by decide, rfl, rfl⟩⟩
    · exact ⟨_, rfl, fin _ _ ⟨2, by decide, by decide, rfl, rfl⟩⟩
    · exact ⟨_, rfl, fin _ _ ⟨1000000001, by decide, by decide, rfl, rfl⟩⟩
  rintro σ' G' ⟨m, m0, m1, rfl, rfl⟩
  simp_arith! only [bd_l_comings_t2]
  (refine draw_i hl (by omega) (by omega) (by first | decide | omega) fun d0 d1 => ?_) <;> (try simp_arith! only [true_and])
  simp_arith! only [bd_l_comings_t3]
  intro p hp
  simp_arith! only [bd_l_comings_t4]
  refine ⟨by omega, by omega, lpr_bd_l_comings_1 (fun i G2 => ∃ cs : List Int, cs.length = i ∧ (∀ x ∈ cs, 0 ≤ x ∧ x ≤ 1000000000) ∧ G2 = updG G' p (.lst (cs.map .int))) ⟨[], rfl, (fun x h => by cases h), rfl⟩ ?_ ?_⟩
  · rintro i o5 o6 G2 hi ⟨cs, rfl, hcs, rfl⟩
    unfold bd_l_comings_1
    refine st_mid (fun σ' G2 => ∃ v : Int, σ' = [some (.sc ns), some (.int z), some (.int m), some (.int (1 + drawF ns 81 4)), some (.ref p), some (.int (cs.length : Nat)), some (.int v)] ∧ G2 = updG G' p (.lst (cs.map .int))) ?_ ?_
    · intro K fin
      simp_arith! only [true_and]
      split
      · rename_i h0
        obtain ⟨v, e, _⟩ := atI_in (xs := ns) (Int.emod_nonneg (cs.length : Int) (show (ns.length : Int) ≠ 0 by omega)) (Int.emod_lt_of_pos (cs.length : Int) h0)
        exact ⟨h0, v, e, fin _ _ ⟨v, rfl, rfl⟩⟩
      · exact fin _ _ ⟨1, rfl, rfl⟩
    rintro σ' G2 ⟨v, rfl, rfl⟩
    unfold bd_l_comings_1_t2
    refine st_mid (fun σ' G2 => ∃ v : Int, σ' = [some (.sc ns), some (.int z), some (.int m), some (.int (1 + drawF ns 81 4)), some (.ref p), some (.int (cs.length : Nat)), some (.int v)] ∧ G2 = updG G' p (.lst (cs.map .int))) ?_ ?_
    · intro K fin
      simp_arith! only [true_and]
      have a := Int.emod_nonneg v (show (1000003 : Int) ≠ 0 by decide)
      have b := Int.emod_lt_of_pos v (show (0 : Int) < 1000003 by decide)
      have c : CMul ((cs.length : Int) * cs.length + 7) 7919 := mulR (by decide) (by decide)
      exact ⟨mulL (by omega) (by omega), mulL (by omega) (by omega), c, fin _ _ ⟨_, rfl, rfl⟩⟩
    rintro σ' G2 ⟨v, rfl, rfl⟩
    unfold bd_l_comings_1_t3
    refine st_mid (fun σ' G2 => ∃ v : Int, σ' = [some (.sc ns), some (.int z), some (.int m), some (.int (1 + drawF ns 81 4)), some (.ref p), some (.int (cs.length : Nat)), some (.int v)] ∧ G2 = updG G' p (.lst (cs.map .int))) ?_ ?_
    · intro K fin
      simp_arith! only [true_and]
      refine draw_i hl (by omega) (by omega) (by omega) fun u0 u1 => ?_
      simp_arith! only [true_and]
      split
      · simp_arith! only [bd_l_comings_2]
        exact fin _ _ ⟨_, rfl, rfl⟩
      · exact fin _ _ ⟨_, rfl, rfl⟩
    rintro σ' G2 ⟨v, rfl, rfl⟩
    simp_arith! only [bd_l_comings_1_t4, updG_same, updG_updG, List.length_map]
    refine ⟨by omega, by omega, cs ++ [v % m], by simp, fun x hx => ?_, by simp⟩
    rcases List.mem_append.mp hx with hx | hx
    · exact hcs x hx
    · rw [List.mem_singleton.mp hx]
      have := Int.emod_nonneg v (show m ≠ 0 by omega)
      have := Int.emod_lt_of_pos v (show 0 < m by omega)
      omega
  · rintro o5 o6 G2 ⟨cs, hc, hcs, rfl⟩
    simp_arith! only [bd_l_comings_t5]
    exact q p cs hp ⟨by omega, hcs⟩

def sp_l_queue : WSp := fun ws G Q E => ∃ (c : Cr) (z : Int) (rs : List Sn) (n : List Nat) (cs : List Int) (t : Int) (T : Addr), ws = [pnW c z rs, .str n, .il (cs.map .int), .int t] ∧ PnOk c z rs ∧ CmOk z cs ∧ 0 ≤ t ∧ t.natAbs < 2 ^ 4000 ∧ G T = some .tab ∧ n ∈ c.names ∧ ∀ G', Sub G G' → Q (.int (queueF z rs n (c.gw n) cs t)) G'

theorem len_l_queue : ∀ ws G Q E, sp_l_queue ws G Q E → ws.length = (["_law_plan_here", "_law_name", "_law_comings_here", "_law_turn"] : List Str).length := by
  intro ws G Q E h
  first
  | (obtain ⟨_, h, _⟩ := h; rw [h]; rfl)
  | (obtain ⟨_, _, h, _⟩ := h; rw [h]; rfl)
  | (obtain ⟨_, _, _, h, _⟩ := h; rw [h]; rfl)
  | (obtain ⟨_, _, _, _, h, _⟩ := h; rw [h]; rfl)
  | (obtain ⟨_, _, _, _, _, h, _⟩ := h; rw [h]; rfl)
  | (obtain ⟨_, _, _, _, _, _, h, _⟩ := h; rw [h]; rfl)
  | (obtain ⟨_, _, _, _, _, _, _, h, _⟩ := h; rw [h]; rfl)
  | (obtain ⟨_, _, _, _, _, _, _, _, h, _⟩ := h; rw [h]; rfl)
  | (obtain ⟨_, _, _, _, _, _, _, _, _, h, _⟩ := h; rw [h]; rfl)
  | (obtain ⟨_, _, _, _, _, _, _, _, _, _, h, _⟩ := h; rw [h]; rfl)
  | (obtain ⟨_, _, _, _, _, _, _, _, _, _, _, h, _⟩ := h; rw [h]; rfl)
  | (obtain ⟨_, _, _, _, _, _, _, _, _, _, _, _, h, _⟩ := h; rw [h]; rfl)
  | (obtain ⟨_, _, _, _, _, _, _, _, _, _, _, _, _, h, _⟩ := h; rw [h]; rfl)
  | (obtain ⟨_, _, _, _, _, _, _, _, _, _, _, _, _, _, h, _⟩ := h; rw [h]; rfl)
def bd_l_queue_1 : WTS := (wRet (wUn oNeg (wC (.int 1))))
def bd_l_queue_t5 : WTS := (wRet (wVar 5))
def bd_l_queue_t4 : WTS := wSeq (wDrop (wBm .list mClear (wVar 4) wNil)) bd_l_queue_t5
def bd_l_queue_t3 : WTS := wSeq (wIfS (wOr (wNot (wTest (wCB oIsi (wCons (wVar 5) (wCons (wC (.ty "int")) wNil))))) (wOr (wTest (wCB oIsi (wCons (wVar 5) (wCons (wC (.ty "bool")) wNil)))) (wTest (wOp oNe (wVar 4) (wVar 2))))) bd_l_queue_1 wNext) bd_l_queue_t4
def bd_l_queue_t2 : WTS := wSeq (wAsg (wCall sp_queue (wCons (wVar 0) (wCons (wVar 1) (wCons (wVar 4) (wCons (wVar 3) wNil))))) (wN 5)) bd_l_queue_t3
def bd_l_queue : WTS := wSeq (wAsg (wCB oListM (wCons (wVar 2) wNil)) (wN 4)) bd_l_queue_t2
theorem w_l_queue (ws : List W) (G : WHp) (Q : WQ) (Ex : Xc → WHp → Prop) (h : sp_l_queue ws G Q Ex) : bd_l_queue (endsW Q) (wStart ["_law_plan_here", "_law_name", "_law_comings_here", "_law_turn", "_law_handed", "_law_found"] ws) G (fun c _ G' => Ex c G') := by
  obtain ⟨c, z, rs, n, cs, t, T, rfl, ok, hc, t0, t1, hT, hn, q⟩ := h
  simp_arith! only [bd_l_queue]
  intro p hp
  have pT : T ≠ p := fun e => by rw [← e, hT] at hp; cases hp
  simp_arith! only [bd_l_queue_t2]
  refine ⟨c, z, rs, n, _, cs, t, T, rfl, ok, .inr ⟨p, rfl, updG_same⟩, hc, t0, t1, by rw [updG_ne pT]; exact hT, fun _ => ?_, fun h => absurd hn h⟩
  simp_arith! only [bd_l_queue_t3, not_true, if_false, Bool.false_eq_true]
  have oki : ∀ w ∈ cs.map W.int, okW 20 w := fun w hw => by
    obtain ⟨x, hx, rfl⟩ := List.mem_map.mp hw; trivial
  refine ne_ri updG_same oki oki ?_
  simp_arith! only [decide_true, eq_self, Bool.not_true, Bool.false_eq_true, if_false]
  simp_arith! only [bd_l_queue_t4, updG_same, updG_updG]
  simp_arith! only [bd_l_queue_t5]
  exact q _ (Sub.new hp)

theorem len_law : ∀ ws G Q E, sp_law ws G Q E → ws.length = (["_law_script"] : List Str).length := fun ws G Q E ⟨_, _, h, _⟩ => by rw [h]; rfl
def bd_law_1 : WTS := (wAsg (wOp oMod (wOp oIx (wVar 0) (wCall sp_l_draw (wCons (wVar 0) (wCons (wC (.int 9)) (wCons (wCB oLen (wCons (wVar 0) wNil)) wNil))))) (wOp oPow (wC (.int 10)) (wC (.int 58)))) (wN 5))
def bd_law_2 : WTS := (wRet (wC (.bl false)))
def bd_law_4 : WTS := (wAsg (wOp oIx (wLstI (wCons (wCB oMax2 (wCons (wC (.int 0)) (wCons (wOp oSub (wVar 9) (wC (.int 1))) wNil))) (wCons (wC (.int 0)) wNil))) (wCB oInt (wCons (wOp oEq (wOp oIx (wVar 2) (wC (.int 0))) (wC (.str tFOOT))) wNil))) (wN 9))
def bd_law_5 : WTS := (wRet (wC (.bl false)))
def bd_law_3_t4 : WTS := (wIfS (wOr (wTest (wOp oLt (wVar 8) (wC (.int 0)))) (wTest (wOp oNe (wCall sp_l_queue (wCons (wVar 3) (wCons (wOp oIx (wVar 2) (wC (.int 1))) (wCons (wVar 4) (wCons (wOp oAdd (wVar 7) (wC (.int 1))) wNil))))) (wVar 9)))) bd_law_5 wNext)
def bd_law_3_t3 : WTS := wSeq (wIfS (wTest (wCall sp_l_free (wCons (wVar 0) (wCons (wVar 2) (wCons (wVar 1) (wCons (wVar 7) wNil)))))) bd_law_4 wNext) bd_law_3_t4
def bd_law_3_t2 : WTS := wSeq (wAsg (wOp oAdd (wVar 8) (wOp oIx (wVar 4) (wOp oMod (wVar 7) (wVar 1)))) (wN 9)) bd_law_3_t3
def bd_law_3 : WTS := wSeq (wAsg (wCall sp_l_queue (wCons (wVar 3) (wCons (wOp oIx (wVar 2) (wC (.int 1))) (wCons (wVar 4) (wCons (wVar 7) wNil))))) (wN 8)) bd_law_3_t2
def bd_law_t10 : WTS := (wRet (wC (.bl true)))
def bd_law_t9 : WTS := wSeq (wFor (wIter (wVar 6)) (wN 7) bd_law_3) bd_law_t10
def bd_law_t8 : WTS := wSeq (wIfS (wTest (wOp oNe (wCall sp_l_queue (wCons (wVar 3) (wCons (wOp oIx (wVar 2) (wC (.int 1))) (wCons (wVar 4) (wCons (wC (.int 0)) wNil))))) (wC (.int 0)))) bd_law_2 wNext) bd_law_t9
def bd_law_t7 : WTS := wSeq (wAsg (wLstI (wCons (wC (.int 0)) (wCons (wC (.int 1)) (wCons (wCall sp_l_draw (wCons (wVar 0) (wCons (wC (.int 10)) (wCons (wVar 1) wNil)))) (wCons (wOp oSub (wVar 1) (wC (.int 1))) (wCons (wVar 1) (wCons (wVar 5) (wCons (wOp oAdd (wVar 5) (wC (.int 1))) (wCons (wOp oAdd (wVar 5) (wCall sp_l_draw (wCons (wVar 0) (wCons (wC (.int 11)) (wCons (wVar 1) wNil))))) wNil))))))))) (wN 6)) bd_law_t8
def bd_law_t6 : WTS := wSeq (wIfS (wTest (wOp oGt (wCB oLen (wCons (wVar 0) wNil)) (wC (.int 0)))) bd_law_1 wNext) bd_law_t7
def bd_law_t5 : WTS := wSeq (wAsg (wC (.int 0)) (wN 5)) bd_law_t6
def bd_law_t4 : WTS := wSeq (wAsg (wView (wCall sp_l_comings (wCons (wVar 0) (wCons (wVar 1) wNil)))) (wN 4)) bd_law_t5
def bd_law_t3 : WTS := wSeq (wAsg (wCall sp_l_plan (wCons (wVar 0) (wCons (wVar 2) (wCons (wVar 1) wNil)))) (wN 3)) bd_law_t4
def bd_law_t2 : WTS := wSeq (wAsg (wCall sp_l_way (wCons (wVar 0) wNil)) (wN 2)) bd_law_t3
def bd_law : WTS := wSeq (wAsg (wOp oIx (wLstI (wCons (wOp oAdd (wC (.int 5)) (wCall sp_l_draw (wCons (wVar 0) (wCons (wC (.int 7)) (wCons (wC (.int 13)) wNil))))) (wCons (wOp oAdd (wC (.int 5)) (wCall sp_l_draw (wCons (wVar 0) (wCons (wC (.int 7)) (wCons (wC (.int 4)) wNil))))) (wCons (wC (.int 24)) (wCons (wC (.int 60)) wNil))))) (wCall sp_l_draw (wCons (wVar 0) (wCons (wC (.int 8)) (wCons (wC (.int 4)) wNil))))) (wN 1)) bd_law_t2
theorem lpm_bd_law_3 {ok : WHp → Prop} {α : Type} {f : α → W} {xs : List α} {D : WEnds} {E : WXK} {G : WHp} {s0 s1 s2 s3 s4 s5 s6 : Option W} {o7 o8 o9 : Option W} (Inv : Nat → WHp → Prop) (h0 : Inv 0  G) (hs : ∀ (i : Nat) (x : α) (o7 o8 o9 : Option W) (G' : WHp), xs[i]? = some x → Inv i  G' → bd_law_3 { nx := fun σ' G2 => ∃ (o7 o8 o9 : Option W), σ' = [s0, s1, s2, s3, s4, s5, s6, o7, o8, o9] ∧ Inv (i + 1)  G2, rt := D.rt, bk := D.nx, ct := fun σ' G2 => ∃ (o7 o8 o9 : Option W), σ' = [s0, s1, s2, s3, s4, s5, s6, o7, o8, o9] ∧ Inv (i + 1)  G2 } [s0, s1, s2, s3, s4, s5, s6, some (f x), o8, o9] G' E) (hd : ∀ (o7 o8 o9 : Option W) (G' : WHp), Inv (xs.length)  G' → D.nx [s0, s1, s2, s3, s4, s5, s6, o7, o8, o9] G') (hk : ∀ (i : Nat)  (G' : WHp), i ≤ xs.length → Inv i  G' → ok G' := by intros; trivial) : LoopOk ((wN 7)) bd_law_3 D [s0, s1, s2, s3, s4, s5, s6, o7, o8, o9] E (xs.map f) ok G := by
  refine ⟨fun i => (fun σ' G2 => ∃ (o7 o8 o9 : Option W), σ' = [s0, s1, s2, s3, s4, s5, s6, o7, o8, o9] ∧ Inv i  G2), ⟨_, _, _, rfl, h0⟩, ?_, ?_, ?_⟩
  · rintro i σ' G' hi ⟨o7, o8, o9, rfl, h⟩; exact hk i  G' (by rw [List.length_map] at hi; exact hi) h
  · rintro i w σ' G' hw ⟨o7, o8, o9, rfl, h⟩
    obtain ⟨x, hx, rfl⟩ := map_get hw
    exact hs i _ o7 o8 o9 G' (by assumption) h
  · rintro σ' G' ⟨o7, o8, o9, rfl, h⟩
    rw [List.length_map] at h
    exact hd o7 o8 o9 G' h
theorem w_law (ws : List W) (G : WHp) (Q : WQ) (Ex : Xc → WHp → Prop) (h : sp_law ws G Q Ex) : bd_law (endsW Q) (wStart ["_law_script", "_law_size", "_law_way_here", "_law_plan_here", "_law_comings_here", "_law_far", "_law_turns", "_law_turn", "_law_stood", "_law_due"] ws) G (fun c _ G' => Ex c G') := by
  obtain ⟨ns, T, rfl, hl, rfl, q⟩ := h
  unfold bd_law
  refine st_mid (fun σ' G' => ∃ z : Int, 5 ≤ z ∧ z ≤ 60 ∧ σ' = [some (.sc ns), some (.int z), none, none, none, none, none, none, none, none] ∧ G' = updG (fun _ => none) T .tab) ?_ ?_
  · intro K fin
    simp_arith! only [true_and]
    (refine draw_i hl (by omega) (by omega) (by first | decide | omega) fun d0 d1 => ?_) <;> (try simp_arith! only [true_and])
    (refine draw_i hl (by omega) (by omega) (by first | decide | omega) fun e0 e1 => ?_) <;> (try simp_arith! only [true_and])
    (refine draw_i hl (by omega) (by omega) (by first | decide | omega) fun f0 f1 => ?_) <;> (try simp_arith! only [true_and])
    have : drawF ns 8 4 = 0 ∨ drawF ns 8 4 = 1 ∨ drawF ns 8 4 = 2 ∨ drawF ns 8 4 = 3 := by omega
    rcases this with h | h | h | h <;> rw [h]
    · exact ⟨_, rfl, fin _ _ ⟨5 + drawF ns 7 13, by omega, by omega, rfl, rfl⟩⟩
    · exact ⟨_, rfl, fin _ _ ⟨5 + drawF ns 7 4, by omega, by omega, rfl, rfl⟩⟩
    · exact ⟨_, rfl, fin _ _ ⟨24, by decide, by decide, rfl, rfl⟩⟩
    · exact ⟨_, rfl, fin _ _ ⟨60, by decide, by decide, rfl, rfl⟩⟩
  rintro σ' G' ⟨z, z0, z1, rfl, rfl⟩
  simp_arith! only [bd_law_t2]
  refine ⟨ns, rfl, hl, fun y hy => ?_⟩
  simp_arith! only [bd_law_t3]
  refine ⟨ns, y, z, rfl, hl, hy, z0, z1, fun c rs G1 s1 pl => ?_⟩
  have hT1 := s1 _ _ (updG_same (G := fun _ => none) (a := T) (o := WO.tab))
  simp_arith! only [bd_law_t4]
  refine ⟨ns, z, rfl, hl, z0, z1, fun p cs hp hc => vw_lst hp ?_⟩
  simp_arith! only [bd_law_t5]
  unfold bd_law_t6
  refine st_mid (fun σ' G' => ∃ far : Int, 0 ≤ far ∧ far < 10 ^ 58 ∧ σ' = [some (.sc ns), some (.int z), some (tw7 y), some (pnW c z rs), some (.il (cs.map .int)), some (.int far), none, none, none, none] ∧ G' = G1) ?_ ?_
  · intro K fin
    simp_arith! only [true_and]
    split
    · rename_i h0
      simp_arith! only [bd_law_1]
      (refine draw_i hl (by omega) (by omega) (by first | decide | omega) fun d0 d1 => ?_) <;> (try simp_arith! only [true_and])
      obtain ⟨v, e, _⟩ := atI_in (xs := ns) d0 d1
      refine ⟨v, e, by unfold CPow; decide, by decide, fin _ _ ⟨v % 10 ^ 58, Int.emod_nonneg _ (by decide), Int.emod_lt_of_pos _ (by decide), rfl, rfl⟩⟩
    · exact fin _ _ ⟨0, by decide, by decide, rfl, rfl⟩
  rintro σ' G' ⟨far, far0, far1, rfl, rfl⟩
  have hg := pl.gw
  have hz1 : z ≤ 240 := by omega
  have hzz : 1 ≤ z := by omega
  have hcl := hc.len
  have hfr : ∃ i, frB z rs y.name i = true := by
    have hm := (spF_ne (ns := ns) hy z0 z1).2
    refine ⟨(spK ns y z 0).1, ?_⟩
    rw [pl.fr]
    have := (spK_is (ns := ns) (k := 0) hy z0 z1).2.2.1
    exact List.any_eq_true.mpr ⟨_, hm, by rw [Int.sub_self, Int.zero_emod]; exact decide_eq_true (by omega)⟩
  have sm : ∀ t : Int, 0 ≤ t → t < 10 ^ 59 → t.natAbs < 2 ^ 4000 := fun t h0 h1 => by
    have : t.natAbs < 10 ^ 59 := by omega
    exact Nat.lt_trans this (by decide)
  have qu : ∀ (t : Int) (G : WHp) (Q : WQ) (E : Xc → WHp → Prop), 0 ≤ t → t < 10 ^ 59 → Sub G' G → (∀ G2, Sub G' G2 → Q (.int (queueF z rs y.name y cs t)) G2) → sp_l_queue [pnW c z rs, .str y.name, .il (cs.map .int), .int t] G Q E :=
    fun t G Q E h0 h1 s h => ⟨c, z, rs, y.name, cs, t, T, rfl, pl.pn, hc, h0, sm t h0 h1, s _ _ hT1, pl.nm, fun G2 s2 => by rw [hg]; exact h G2 (s.trans s2)⟩
  simp_arith! only [bd_law_t7]
  (refine draw_i hl (by omega) (by omega) (by first | decide | omega) fun d0 d1 => ?_) <;> (try simp_arith! only [true_and])
  (refine draw_i hl (by omega) (by omega) (by first | decide | omega) fun e0 e1 => ?_) <;> (try simp_arith! only [true_and])
  simp_arith! only [bd_law_t8, tw7]
  refine qu 0 G' _ _ (by omega) (by decide) (.refl _) fun G2 s2 => ?_
  rw [queueF_0 hzz]
  simp_arith! only [not_true, if_false, Bool.false_eq_true]
  simp_arith! only [bd_law_t9]
  refine lpm_bd_law_3 (f := W.int) (xs := [0, 1, drawF ns 10 z, z - 1, z, far, far + 1, far + drawF ns 11 z]) (fun i G3 => Sub G' G3) s2 ?_ ?_
  · rintro i t o7 o8 o9 G3 ht s3
    have htb : 0 ≤ t ∧ t + 1 < 10 ^ 59 := by
      have := List.mem_of_getElem? ht
      simp only [List.mem_cons, List.not_mem_nil, or_false] at this
      rcases this with rfl | rfl | rfl | rfl | rfl | rfl | rfl | rfl <;> omega
    have nn := queueF_nn (rs := rs) (n := y.name) (y := y) hc hzz hz1 htb.1
    have su := queueF_succ (rs := rs) (n := y.name) (y := y) hc hzz hz1 hfr htb.1
    simp_arith! only [bd_law_3, tw7]
    refine qu t G3 _ _ htb.1 (by omega) s3 fun G4 s4 => ?_
    have cm := hc.cm (t := t) hzz
    have hat : atI (cs.map W.int) (t % z) = some (.int (cmA cs t)) := by
      obtain ⟨v, _, e⟩ := at_ints (xs := cs) (t := t) (by omega)
      unfold cmA
      rw [hcl] at e ⊢
      rw [atI_map, e]; rfl
    simp_arith! only [bd_law_3_t2, hat]
    refine ⟨by omega, ?_⟩
    unfold bd_law_3_t3
    refine st_mid (fun σ' G6 => σ' = [some (.sc ns), some (.int z), some (tw7 y), some (pnW c z rs), some (.il (cs.map .int)), some (.int far), some (.il [.int 0, .int 1, .int (drawF ns 10 z), .int (z - 1), .int z, .int far, .int (far + 1), .int (far + drawF ns 11 z)]), some (.int t), some (.int (queueF z rs y.name y cs t)), some (.int (queueF z rs y.name y cs (t + 1)))] ∧ Sub G' G6) ?_ ?_
    · intro K fin
      simp only [tw7] at fin
      simp_arith! only [tw7]
      refine ⟨ns, y, z, t, rfl, hl, hy, z0, z1, fun G5 s5 => ?_⟩
      rw [← pl.fr t]
      have s45 := s4.trans s5
      cases hf : frB z rs y.name t with
      | false =>
        rw [hf] at su
        simp_arith! only [Bool.false_eq_true, if_false]
        have : queueF z rs y.name y cs t + cmA cs t = queueF z rs y.name y cs (t + 1) := by rw [su]; unfold qStep; simp
        rw [this]
        exact fin _ _ ⟨rfl, s45⟩
      | true =>
        rw [hf] at su
        simp_arith! only [if_true, bd_law_4]
        have : (if kindN y.sort = tFOOT then W.int 0 else W.int (if queueF z rs y.name y cs t + cmA cs t - 1 > 0 then queueF z rs y.name y cs t + cmA cs t - 1 else 0)) = .int (queueF z rs y.name y cs (t + 1)) := by
          rw [su]
          simp only [kind_foot hy.so]
          by_cases hs : y.sort = 11
          · rw [if_pos hs, qStep_foot hs]; rfl
          · rw [if_neg hs, qStep_car hs (by omega)]
            simp only [if_true]
            congr 1
            split <;> split <;> omega
        rw [this]
        exact fin _ _ ⟨rfl, s45⟩
    rintro σ' G6 ⟨rfl, s6⟩
    simp_arith! only [bd_law_3_t4, tw7]
    rw [if_neg (by omega)]
    refine qu (t + 1) G6 _ _ (by omega) (by omega) s6 fun G7 s7 => ?_
    simp_arith! only [not_true, if_false, Bool.false_eq_true]
    exact s7
  · rintro o7 o8 o9 G3 s3
    simp_arith! only [bd_law_t10]
    exact q _

/-! ## the text by its places -/
def topS (i : Nat) : Stmt := PySem.Challenge.pw_lampway_k46_a_queue_step.main.body.getD i (.Pass ⟨0, 0, 0, 0⟩)
def clsS (i j : Nat) : Stmt := match topS i with
  | .ClassDef _ _ _ body _ _ _ _ _ _ _ => body.getD j (.Pass ⟨0, 0, 0, 0⟩)
  | _ => .Pass ⟨0, 0, 0, 0⟩
abbrev s_free : Stmt := topS 2
theorem sc_free : FnScope ["plan", "name", "turn"] ["plan", "name", "turn"] (defScope s_free) := ⟨rfl, rfl, rfl, by decide +kernel, rfl, by decide +kernel, by decide +kernel⟩
abbrev s_coming_by : Stmt := topS 4
theorem sc_coming_by : FnScope ["comings", "come", "kept"] ["comings"] (defScope s_coming_by) := ⟨rfl, rfl, rfl, by decide +kernel, rfl, by decide +kernel, by decide +kernel⟩
abbrev s_stood_behind : Stmt := topS 5
theorem sc_stood_behind : FnScope ["plan", "name", "comings", "stood", "turns", "way", "come", "turn"] ["plan", "name", "comings", "stood", "turns"] (defScope s_stood_behind) := ⟨rfl, rfl, rfl, by decide +kernel, rfl, by decide +kernel, by decide +kernel⟩
abbrev s_grows : Stmt := topS 6
theorem sc_grows : FnScope ["plan", "name", "comings", "gone", "turn"] ["plan", "name", "comings"] (defScope s_grows) := ⟨rfl, rfl, rfl, by decide +kernel, rfl, by decide +kernel, by decide +kernel⟩
abbrev s_queue : Stmt := topS 7
theorem sc_queue : FnScope ["plan", "name", "comings", "turn", "stood", "rounds", "rest"] ["plan", "name", "comings", "turn"] (defScope s_queue) := ⟨rfl, rfl, rfl, by decide +kernel, rfl, by decide +kernel, by decide +kernel⟩
abbrev s_Way_init : Stmt := clsS 16 0
theorem sc_Way_init : FnScope ["self", "name", "start", "end", "off", "near", "least"] ["self", "name", "start", "end", "off", "near", "least"] (defScope s_Way_init) := ⟨rfl, rfl, rfl, by decide +kernel, rfl, by decide +kernel, by decide +kernel⟩
abbrev s_Way_ready : Stmt := clsS 16 1
theorem sc_Way_ready : FnScope ["self"] ["self"] (defScope s_Way_ready) := ⟨rfl, rfl, rfl, by decide +kernel, rfl, by decide +kernel, by decide +kernel⟩
abbrev s_Way_fade : Stmt := clsS 16 2
theorem sc_Way_fade : FnScope ["self"] ["self"] (defScope s_Way_fade) := ⟨rfl, rfl, rfl, by decide +kernel, rfl, by decide +kernel, by decide +kernel⟩
abbrev s_Way_goes : Stmt := clsS 16 3
theorem sc_Way_goes : FnScope ["self", "many"] ["self", "many"] (defScope s_Way_goes) := ⟨rfl, rfl, rfl, by decide +kernel, rfl, by decide +kernel, by decide +kernel⟩
abbrev s_CarWay_init : Stmt := clsS 17 0
theorem sc_CarWay_init : FnScope ["self", "name", "start", "end", "off", "near", "least"] ["self", "name", "start", "end", "off", "near", "least"] (defScope s_CarWay_init) := ⟨rfl, rfl, rfl, by decide +kernel, rfl, by decide +kernel, by decide +kernel⟩
abbrev s_CarWay_fade : Stmt := clsS 17 1
theorem sc_CarWay_fade : FnScope ["self"] ["self"] (defScope s_CarWay_fade) := ⟨rfl, rfl, rfl, by decide +kernel, rfl, by decide +kernel, by decide +kernel⟩
abbrev s_FootWay_init : Stmt := clsS 18 0
theorem sc_FootWay_init : FnScope ["self", "name", "start", "end", "off", "near", "least"] ["self", "name", "start", "end", "off", "near", "least"] (defScope s_FootWay_init) := ⟨rfl, rfl, rfl, by decide +kernel, rfl, by decide +kernel, by decide +kernel⟩
abbrev s_FootWay_ready : Stmt := clsS 18 1
theorem sc_FootWay_ready : FnScope ["self"] ["self"] (defScope s_FootWay_ready) := ⟨rfl, rfl, rfl, by decide +kernel, rfl, by decide +kernel, by decide +kernel⟩
abbrev s_FootWay_fade : Stmt := clsS 18 2
theorem sc_FootWay_fade : FnScope ["self"] ["self"] (defScope s_FootWay_fade) := ⟨rfl, rfl, rfl, by decide +kernel, rfl, by decide +kernel, by decide +kernel⟩
abbrev s_FootWay_goes : Stmt := clsS 18 3
theorem sc_FootWay_goes : FnScope ["self", "many"] ["self", "many"] (defScope s_FootWay_goes) := ⟨rfl, rfl, rfl, by decide +kernel, rfl, by decide +kernel, by decide +kernel⟩
abbrev s_TramWay_init : Stmt := clsS 19 0
theorem sc_TramWay_init : FnScope ["self", "name", "start", "end", "off", "near", "least"] ["self", "name", "start", "end", "off", "near", "least"] (defScope s_TramWay_init) := ⟨rfl, rfl, rfl, by decide +kernel, rfl, by decide +kernel, by decide +kernel⟩
abbrev s_TramWay_ready : Stmt := clsS 19 1
theorem sc_TramWay_ready : FnScope ["self"] ["self"] (defScope s_TramWay_ready) := ⟨rfl, rfl, rfl, by decide +kernel, rfl, by decide +kernel, by decide +kernel⟩
abbrev s_words : Stmt := topS 23
theorem sc_words : FnScope ["text", "row"] ["text"] (defScope s_words) := ⟨rfl, rfl, rfl, by decide +kernel, rfl, by decide +kernel, by decide +kernel⟩
abbrev s_figured : Stmt := topS 24
theorem sc_figured : FnScope ["word", "low", "high", "number", "sign"] ["word", "low", "high"] (defScope s_figured) := ⟨rfl, rfl, rfl, by decide +kernel, rfl, by decide +kernel, by decide +kernel⟩
abbrev s_is_name : Stmt := topS 25
theorem sc_is_name : FnScope ["word", "sign"] ["word"] (defScope s_is_name) := ⟨rfl, rfl, rfl, by decide +kernel, rfl, by decide +kernel, by decide +kernel⟩
abbrev s_Crossing_init : Stmt := clsS 29 0
theorem sc_Crossing_init : FnScope ["self", "places", "ways"] ["self", "places", "ways"] (defScope s_Crossing_init) := ⟨rfl, rfl, rfl, by decide +kernel, rfl, by decide +kernel, by decide +kernel⟩
abbrev s_Crossing_names : Stmt := clsS 29 1
theorem sc_Crossing_names : FnScope ["self", "way"] ["self"] (defScope s_Crossing_names) := ⟨rfl, rfl, rfl, by decide +kernel, rfl, by decide +kernel, by decide +kernel⟩
abbrev s_Crossing_number : Stmt := clsS 29 2
theorem sc_Crossing_number : FnScope ["self", "name", "k", "way"] ["self", "name"] (defScope s_Crossing_number) := ⟨rfl, rfl, rfl, by decide +kernel, rfl, by decide +kernel, by decide +kernel⟩
abbrev s_Crossing_called : Stmt := clsS 29 3
theorem sc_Crossing_called : FnScope ["self", "name"] ["self", "name"] (defScope s_Crossing_called) := ⟨rfl, rfl, rfl, by decide +kernel, rfl, by decide +kernel, by decide +kernel⟩
abbrev s_made_way : Stmt := topS 30
theorem sc_made_way : FnScope ["sort", "name", "numbers"] ["sort", "name", "numbers"] (defScope s_made_way) := ⟨rfl, rfl, rfl, by decide +kernel, rfl, by decide +kernel, by decide +kernel⟩
abbrev s_read_head : Stmt := topS 31
theorem sc_read_head : FnScope ["row", "places"] ["row"] (defScope s_read_head) := ⟨rfl, rfl, rfl, by decide +kernel, rfl, by decide +kernel, by decide +kernel⟩
abbrev s_read_numbers : Stmt := topS 32
theorem sc_read_numbers : FnScope ["at", "row", "places", "bounds", "numbers", "k", "number"] ["at", "row", "places"] (defScope s_read_numbers) := ⟨rfl, rfl, rfl, by decide +kernel, rfl, by decide +kernel, by decide +kernel⟩
abbrev s_read_way : Stmt := topS 33
theorem sc_read_way : FnScope ["at", "row", "places", "taken"] ["at", "row", "places", "taken"] (defScope s_read_way) := ⟨rfl, rfl, rfl, by decide +kernel, rfl, by decide +kernel, by decide +kernel⟩
abbrev s_read_crossing : Stmt := topS 34
theorem sc_read_crossing : FnScope ["text", "rows", "places", "ways", "taken", "at", "way"] ["text"] (defScope s_read_crossing) := ⟨rfl, rfl, rfl, by decide +kernel, rfl, by decide +kernel, by decide +kernel⟩
abbrev s_bow : Stmt := topS 36
theorem sc_bow : FnScope ["way", "places", "found", "place"] ["way", "places"] (defScope s_bow) := ⟨rfl, rfl, rfl, by decide +kernel, rfl, by decide +kernel, by decide +kernel⟩
abbrev s_ways_meet : Stmt := topS 37
theorem sc_ways_meet : FnScope ["way", "other", "places", "inner"] ["way", "other", "places"] (defScope s_ways_meet) := ⟨rfl, rfl, rfl, by decide +kernel, rfl, by decide +kernel, by decide +kernel⟩
abbrev s_meet : Stmt := topS 38
theorem sc_meet : FnScope ["crossing", "one", "other"] ["crossing", "one", "other"] (defScope s_meet) := ⟨rfl, rfl, rfl, by decide +kernel, rfl, by decide +kernel, by decide +kernel⟩
abbrev s_gap : Stmt := topS 39
theorem sc_gap : FnScope ["crossing", "one", "other", "way"] ["crossing", "one", "other"] (defScope s_gap) := ⟨rfl, rfl, rfl, by decide +kernel, rfl, by decide +kernel, by decide +kernel⟩
abbrev s_turned_plans : Stmt := topS 41
theorem sc_turned_plans : FnScope ["bits", "many", "size", "wide"] ["bits", "many", "size"] (defScope s_turned_plans) := ⟨rfl, rfl, rfl, by decide +kernel, rfl, by decide +kernel, by decide +kernel⟩
abbrev s_Plan_init : Stmt := clsS 42 0
theorem sc_Plan_init : FnScope ["self", "crossing", "size", "rows", "name", "row"] ["self", "crossing", "size", "rows"] (defScope s_Plan_init) := ⟨rfl, rfl, rfl, by decide +kernel, rfl, by decide +kernel, by decide +kernel⟩
abbrev s_Plan_bits_of : Stmt := clsS 42 1
theorem sc_Plan_bits_of : FnScope ["self", "name"] ["self", "name"] (defScope s_Plan_bits_of) := ⟨rfl, rfl, rfl, by decide +kernel, rfl, by decide +kernel, by decide +kernel⟩
abbrev s_Plan_told_rows : Stmt := clsS 42 2
theorem sc_Plan_told_rows : FnScope ["self"] ["self"] (defScope s_Plan_told_rows) := ⟨rfl, rfl, rfl, by decide +kernel, rfl, by decide +kernel, by decide +kernel⟩
abbrev s_room : Stmt := topS 43
theorem sc_room : FnScope ["plan", "at", "rows", "least", "k", "row"] ["plan", "at"] (defScope s_room) := ⟨rfl, rfl, rfl, by decide +kernel, rfl, by decide +kernel, by decide +kernel⟩
abbrev s_look_at_spans : Stmt := topS 44
theorem sc_look_at_spans : FnScope ["plan", "rows", "name", "k", "row", "way"] ["plan"] (defScope s_look_at_spans) := ⟨rfl, rfl, rfl, by decide +kernel, rfl, by decide +kernel, by decide +kernel⟩
abbrev s_too_near : Stmt := topS 45
theorem sc_too_near : FnScope ["plan", "one", "other", "bits", "near", "k"] ["plan", "one", "other"] (defScope s_too_near) := ⟨rfl, rfl, rfl, by decide +kernel, rfl, by decide +kernel, by decide +kernel⟩
abbrev s_look_at_pairs : Stmt := topS 46
theorem sc_look_at_pairs : FnScope ["plan", "one", "other", "bits"] ["plan"] (defScope s_look_at_pairs) := ⟨rfl, rfl, rfl, by decide +kernel, rfl, by decide +kernel, by decide +kernel⟩
abbrev s_made_plan : Stmt := topS 47
theorem sc_made_plan : FnScope ["crossing", "size", "rows", "plan"] ["crossing", "size", "rows"] (defScope s_made_plan) := ⟨rfl, rfl, rfl, by decide +kernel, rfl, by decide +kernel, by decide +kernel⟩
abbrev s_l_draw : Stmt := topS 49
theorem sc_l_draw : FnScope ["_law_script", "_law_k", "_law_many", "_law_cell", "_law_seed"] ["_law_script", "_law_k", "_law_many"] (defScope s_l_draw) := ⟨rfl, rfl, rfl, by decide +kernel, rfl, by decide +kernel, by decide +kernel⟩
abbrev s_l_text : Stmt := topS 50
theorem sc_l_text : FnScope ["_law_places", "_law_ways", "_law_rows", "_law_way_here", "_law_number"] ["_law_places", "_law_ways"] (defScope s_l_text) := ⟨rfl, rfl, rfl, by decide +kernel, rfl, by decide +kernel, by decide +kernel⟩
abbrev s_l_spans : Stmt := topS 51
theorem sc_l_spans : FnScope ["_law_script", "_law_way_here", "_law_size", "_law_idle", "_law_many", "_law_begin", "_law_part", "_law_spans_here", "_law_k", "_law_most", "_law_turns"] ["_law_script", "_law_way_here", "_law_size"] (defScope s_l_spans) := ⟨rfl, rfl, rfl, by decide +kernel, rfl, by decide +kernel, by decide +kernel⟩
abbrev s_l_way : Stmt := topS 52
theorem sc_l_way : FnScope ["_law_script", "_law_sort"] ["_law_script"] (defScope s_l_way) := ⟨rfl, rfl, rfl, by decide +kernel, rfl, by decide +kernel, by decide +kernel⟩
abbrev s_l_plan : Stmt := topS 53
theorem sc_l_plan : FnScope ["_law_script", "_law_way_here", "_law_size", "_law_other", "_law_rows", "_law_names", "_law_span"] ["_law_script", "_law_way_here", "_law_size"] (defScope s_l_plan) := ⟨rfl, rfl, rfl, by decide +kernel, rfl, by decide +kernel, by decide +kernel⟩
abbrev s_l_free : Stmt := topS 54
theorem sc_l_free : FnScope ["_law_script", "_law_way_here", "_law_size", "_law_turn", "_law_begin", "_law_turns"] ["_law_script", "_law_way_here", "_law_size", "_law_turn"] (defScope s_l_free) := ⟨rfl, rfl, rfl, by decide +kernel, rfl, by decide +kernel, by decide +kernel⟩
abbrev s_l_comings : Stmt := topS 55
theorem sc_l_comings : FnScope ["_law_script", "_law_size", "_law_most", "_law_rare", "_law_row", "_law_k", "_law_many"] ["_law_script", "_law_size"] (defScope s_l_comings) := ⟨rfl, rfl, rfl, by decide +kernel, rfl, by decide +kernel, by decide +kernel⟩
abbrev s_l_queue : Stmt := topS 56
theorem sc_l_queue : FnScope ["_law_plan_here", "_law_name", "_law_comings_here", "_law_turn", "_law_handed", "_law_found"] ["_law_plan_here", "_law_name", "_law_comings_here", "_law_turn"] (defScope s_l_queue) := ⟨rfl, rfl, rfl, by decide +kernel, rfl, by decide +kernel, by decide +kernel⟩
abbrev s_law : Stmt := topS 57
theorem sc_law : FnScope ["_law_script", "_law_size", "_law_way_here", "_law_plan_here", "_law_comings_here", "_law_far", "_law_turns", "_law_turn", "_law_stood", "_law_due"] ["_law_script"] (defScope s_law) := ⟨rfl, rfl, rfl, by decide +kernel, rfl, by decide +kernel, by decide +kernel⟩
abbrev s_NoText_init : Stmt := clsS 10 0
theorem sc_NoText_init : FnScope ["self", "row", "word"] ["self", "row", "word"] (defScope s_NoText_init) := ⟨rfl, rfl, rfl, by decide +kernel, rfl, by decide +kernel, by decide +kernel⟩
abbrev s_NoWay_init : Stmt := clsS 11 0
theorem sc_NoWay_init : FnScope ["self", "name"] ["self", "name"] (defScope s_NoWay_init) := ⟨rfl, rfl, rfl, by decide +kernel, rfl, by decide +kernel, by decide +kernel⟩
abbrev s_Never_init : Stmt := clsS 12 0
theorem sc_Never_init : FnScope ["self", "way"] ["self", "way"] (defScope s_Never_init) := ⟨rfl, rfl, rfl, by decide +kernel, rfl, by decide +kernel, by decide +kernel⟩
abbrev s_Short_init : Stmt := clsS 13 0
theorem sc_Short_init : FnScope ["self", "way", "at"] ["self", "way", "at"] (defScope s_Short_init) := ⟨rfl, rfl, rfl, by decide +kernel, rfl, by decide +kernel, by decide +kernel⟩
abbrev s_Clash_init : Stmt := clsS 14 0
theorem sc_Clash_init : FnScope ["self", "way", "other", "at"] ["self", "way", "other", "at"] (defScope s_Clash_init) := ⟨rfl, rfl, rfl, by decide +kernel, rfl, by decide +kernel, by decide +kernel⟩
/-! ## derivations -/
section
variable {P : Par} {prog : Program} {w : World} {mg : Str → Option Value} {base : Heap} {f : Addr} {fd : FuncData}
theorem okx_NoText {C0 C : Addr} (F : Fun P.K "__init__" "NoText.__init__" s_NoText_init f fd) (B : BaseI P.K C0 (.builtin "ValueError.__init__")) (hm : mg "LampError" = some (.ref C0)) : FnOk prog w P.K mg base (L2.CX prog w) 1 f fd ["self", "row", "word"] (spX P.K C ["row", "word"]) := by
  refine F.okX sc_NoText_init (fun vs H Q E h => spX_len vs H Q E h) fun cdv A outer s H vs Q E hr h => ⟨_, (pss_cons (ps_expr (pe_xinit B (by rfl) hm (pa_cons (pv 0) (pa_cons pe_str pa_nil)))) (pss_cons (ps_ost (pv 0) (pv 1)) (pss_one (ps_ost (pv 0) (pv 2))))), ?_⟩
  obtain ⟨a, ys, rfl, hl, T, no, ea, q⟩ := h
  match ys, hl with
  | [y0, y1], _ =>
    refine xsup T ea rfl ?_
    refine xone T (no _ (by simp)) ea 0 1 rfl rfl fun H1 d hd hne ea1 ed1 hb1 => ?_
    refine xmore T (no _ (by simp)) (by simp) hne ea1 ed1 hb1 0 2 rfl rfl fun H2 ea2 ed2 hb2 => ?_
    exact q _ d hd hne ea2 ed2 hb2
theorem okx_NoWay {C0 C : Addr} (F : Fun P.K "__init__" "NoWay.__init__" s_NoWay_init f fd) (B : BaseI P.K C0 (.builtin "ValueError.__init__")) (hm : mg "LampError" = some (.ref C0)) : FnOk prog w P.K mg base (L2.CX prog w) 1 f fd ["self", "name"] (spX P.K C ["name"]) := by
  refine F.okX sc_NoWay_init (fun vs H Q E h => spX_len vs H Q E h) fun cdv A outer s H vs Q E hr h => ⟨_, (pss_cons (ps_expr (pe_xinit B (by rfl) hm (pa_cons (pv 0) (pa_cons pe_str pa_nil)))) (pss_one (ps_ost (pv 0) (pv 1)))), ?_⟩
  obtain ⟨a, ys, rfl, hl, T, no, ea, q⟩ := h
  match ys, hl with
  | [y0], _ =>
    refine xsup T ea rfl ?_
    refine xone T (no _ (by simp)) ea 0 1 rfl rfl fun H1 d hd hne ea1 ed1 hb1 => ?_
    exact q _ d hd hne ea1 ed1 hb1
theorem okx_Never {C0 C : Addr} (F : Fun P.K "__init__" "Never.__init__" s_Never_init f fd) (B : BaseI P.K C0 (.builtin "ValueError.__init__")) (hm : mg "LampError" = some (.ref C0)) : FnOk prog w P.K mg base (L2.CX prog w) 1 f fd ["self", "way"] (spX P.K C ["way"]) := by
  refine F.okX sc_Never_init (fun vs H Q E h => spX_len vs H Q E h) fun cdv A outer s H vs Q E hr h => ⟨_, (pss_cons (ps_expr (pe_xinit B (by rfl) hm (pa_cons (pv 0) (pa_cons pe_str pa_nil)))) (pss_one (ps_ost (pv 0) (pv 1)))), ?_⟩
  obtain ⟨a, ys, rfl, hl, T, no, ea, q⟩ := h
  match ys, hl with
  | [y0], _ =>
    refine xsup T ea rfl ?_
    refine xone T (no _ (by simp)) ea 0 1 rfl rfl fun H1 d hd hne ea1 ed1 hb1 => ?_
    exact q _ d hd hne ea1 ed1 hb1
theorem okx_Short {C0 C : Addr} (F : Fun P.K "__init__" "Short.__init__" s_Short_init f fd) (B : BaseI P.K C0 (.builtin "ValueError.__init__")) (hm : mg "LampError" = some (.ref C0)) : FnOk prog w P.K mg base (L2.CX prog w) 1 f fd ["self", "way", "at"] (spX P.K C ["way", "at"]) := by
  refine F.okX sc_Short_init (fun vs H Q E h => spX_len vs H Q E h) fun cdv A outer s H vs Q E hr h => ⟨_, (pss_cons (ps_expr (pe_xinit B (by rfl) hm (pa_cons (pv 0) (pa_cons pe_str pa_nil)))) (pss_cons (ps_ost (pv 0) (pv 1)) (pss_one (ps_ost (pv 0) (pv 2))))), ?_⟩
  obtain ⟨a, ys, rfl, hl, T, no, ea, q⟩ := h
  match ys, hl with
  | [y0, y1], _ =>
    refine xsup T ea rfl ?_
    refine xone T (no _ (by simp)) ea 0 1 rfl rfl fun H1 d hd hne ea1 ed1 hb1 => ?_
    refine xmore T (no _ (by simp)) (by simp) hne ea1 ed1 hb1 0 2 rfl rfl fun H2 ea2 ed2 hb2 => ?_
    exact q _ d hd hne ea2 ed2 hb2
theorem okx_Clash {C0 C : Addr} (F : Fun P.K "__init__" "Clash.__init__" s_Clash_init f fd) (B : BaseI P.K C0 (.builtin "ValueError.__init__")) (hm : mg "LampError" = some (.ref C0)) : FnOk prog w P.K mg base (L2.CX prog w) 1 f fd ["self", "way", "other", "at"] (spX P.K C ["way", "other", "at"]) := by
  refine F.okX sc_Clash_init (fun vs H Q E h => spX_len vs H Q E h) fun cdv A outer s H vs Q E hr h => ⟨_, (pss_cons (ps_expr (pe_xinit B (by rfl) hm (pa_cons (pv 0) (pa_cons pe_str pa_nil)))) (pss_cons (ps_ost (pv 0) (pv 1)) (pss_cons (ps_ost (pv 0) (pv 2)) (pss_one (ps_ost (pv 0) (pv 3)))))), ?_⟩
  obtain ⟨a, ys, rfl, hl, T, no, ea, q⟩ := h
  match ys, hl with
  | [y0, y1, y2], _ =>
    refine xsup T ea rfl ?_
    refine xone T (no _ (by simp)) ea 0 1 rfl rfl fun H1 d hd hne ea1 ed1 hb1 => ?_
    refine xmore T (no _ (by simp)) (by simp) hne ea1 ed1 hb1 0 2 rfl rfl fun H2 ea2 ed2 hb2 => ?_
    refine xmore T (no _ (by simp)) (by simp) hne ea2 ed2 hb2 0 3 rfl rfl fun H3 ea3 ed3 hb3 => ?_
    exact q _ d hd hne ea3 ed3 hb3
abbrev s_come : Stmt := (defBody s_coming_by).getD 1 (.Pass ⟨0, 0, 0, 0⟩)
theorem nd_come : NdOk s_come := ⟨⟨_, rfl⟩, fun _ => rfl, by decide +kernel, rfl, rfl, fun _ => rfl⟩
theorem ok_come (eN : P.nd = s_come) (b_len : mg "len" = none) : CloOk P prog w mg base := fun f c cd => by
  have hF : P.nf c cd = NdefX.NF.of s_come "come" QN [("kept", c)] cd := by unfold Par.nf; rw [eN]
  rw [hF]
  exact NdefX.nok_of (N := ["turn", "kept"]) (NdefX.nscope_by (by exact (by decide +kernel : NdefX.nscB ["turn", "kept"] ["turn"] ["kept"] (C8.fnScope s_come) = true))) (fun doc pm ctv us hl => match us, hl with | [_], _ => rfl) (fun ws vs H Q E h => by obtain ⟨_, _, _, _, _, h, _⟩ := h; rw [h]; rfl)
    (fun A outer s H vs ws Q E hr hf hc hlen h => ⟨tCome P.K, by exact pss_one (ps_ret (pe_ix ix_list (pv 1) (pe_op op_mod (pv 0) (pe_callB call_len_seq (by rfl) b_len boot_len (pa_cons (pv 1) pa_nil))) (fun _ _ => rfl))), come_pure h⟩)
theorem ok_coming_by {cA : Addr} (F : Fun P.K "coming_by" "coming_by" s_coming_by f fd) (b_list : mg "list" = none) (eN : P.nd = s_come) (hcA : fd.code = .ref cA) (TB : LamX.TabB base mg cA (P.ca 98)) : FnW P prog w mg base 1 f fd ["comings"] sp_coming_by :=
  Fun.okClo (i := 2) (j := 1) (st1 := (defBody s_coming_by).getD 0 (.Pass ⟨0, 0, 0, 0⟩)) (p3 := ⟨13, 11, 13, 15⟩) (pos3 := ⟨13, 4, 13, 15⟩) F sc_coming_by (by rw [eN]; exact nd_come) rfl rfl (by decide) (by rw [eN]; rfl) (by decide +kernel) (by decide +kernel) hcA TB
    (fun cdv A outer s H E => js_set (i := 2) sc_coming_by.nd rfl (by first | exact Or.inl rfl | exact Or.inr rfl) (je_callTy (cw_listI rfl) (by rfl) b_list boot_list (ja_cons (jv 0) ja_nil))) fun wv xs G h => ⟨wv, rfl, wv, _, rfl, h, rfl, rfl⟩
theorem ok_free (F : Fun P.K "free" "free" s_free f fd) (m_bits_of_14 : ∀ c ∈ [14], MethOk P prog w mg base 55 5 c (mt_bits_of_14 c)) : FnW P prog w mg base 6 f fd ["plan", "name", "turn"] sp_free :=
  Fun.okW F sc_free len_free fun cdv A outer s H E hr => ⟨bd_free, by
    exact (jss_one (js_ret (je_cmp (ow_eq rfl hr.units) (je_op ow_and (je_op ow_shr (je_meth (t := 55) (by exact fe_bits_of) m_bits_of_14 (hr.mono (by decide)) (jv 0) (ja_cons (jv 1) ja_nil)) (je_op ow_mod (jv 2) (je_fld 15 (by exact fe_size) rfl (jv 0)))) je_int) je_int))), fun ws G Q Ex h => w_free ws G Q Ex h⟩
theorem ok_stood_behind (F : Fun P.K "stood_behind" "stood_behind" s_stood_behind f fd) (m_called : ∀ c ∈ [13], MethOk P prog w mg base 54 4 c (mt_called c)) (c_coming_by : CallOk P prog w mg base "coming_by" 1 sp_coming_by) (b_range : mg "range" = none) (nc : CloOk P prog w mg base) (c_free : CallOk P prog w mg base "free" 6 sp_free) (m_goes : ∀ c ∈ [10, 11, 12], MethOk P prog w mg base 50 1 c (mt_goes c)) : FnW P prog w mg base 7 f fd ["plan", "name", "comings", "stood", "turns"] sp_stood_behind :=
  Fun.okW F sc_stood_behind len_stood_behind fun cdv A outer s H E hr => ⟨bd_stood_behind, by
    exact (jss_cons (js_set (i := 5) sc_stood_behind.nd rfl (by first | exact Or.inl rfl | exact Or.inr rfl) (je_meth (t := 54) (by exact fe_called) m_called (hr.mono (by decide)) (je_fld 14 (by exact fe_crossing) rfl (jv 0)) (ja_cons (jv 1) ja_nil))) (jss_cons (js_set (i := 6) sc_stood_behind.nd rfl (by first | exact Or.inl rfl | exact Or.inr rfl) (je_callC c_coming_by (hr.mono (by decide)) (by rfl) (ja_cons (jv 2) ja_nil))) (jss_cons (js_for (passesW rfl) rfl (ji_range1 (by rfl) b_range (ja_cons (jv 4) ja_nil)) (jg_name (i := 7) sc_stood_behind.nd rfl (by first | exact Or.inl rfl | exact Or.inr rfl)) (by exact (jss_cons (js_set (i := 3) sc_stood_behind.nd rfl (by first | exact Or.inl rfl | exact Or.inr rfl) (je_op (ow_add rfl) (jv 3) (je_clo nc (hr.mono (by decide)) (jv 6) (jv 7)))) (jss_one (js_if (jt_val (je_callC c_free (hr.mono (by decide)) (by rfl) (ja_cons (jv 0) (ja_cons (jv 1) (ja_cons (jv 7) ja_nil))))) (by exact (jss_one (js_set (i := 3) sc_stood_behind.nd rfl (by first | exact Or.inl rfl | exact Or.inr rfl) (je_op ow_sub (jv 3) (je_meth (t := 50) (by exact fe_goes) m_goes (hr.mono (by decide)) (jv 5) (ja_cons (jv 3) ja_nil))))) : JSs _ _ _ bd_stood_behind_2) jss_nil))) : JSs _ _ _ bd_stood_behind_1)) (jss_one (js_ret (jv 3)))))), fun ws G Q Ex h => w_stood_behind ws G Q Ex h⟩
theorem ok_grows (F : Fun P.K "grows" "grows" s_grows f fd) (m_called : ∀ c ∈ [13], MethOk P prog w mg base 54 4 c (mt_called c)) (b_range : mg "range" = none) (c_free : CallOk P prog w mg base "free" 6 sp_free) (b_max : mg "max" = none) (b_sum : mg "sum" = none) : FnW P prog w mg base 7 f fd ["plan", "name", "comings"] sp_grows :=
  Fun.okW F sc_grows len_grows fun cdv A outer s H E hr => ⟨bd_grows, by
    exact (jss_cons (js_if (jt_cmp (ow_eq rfl hr.units) (je_fld 6 (by exact fe_kind) rfl (je_meth (t := 54) (by exact fe_called) m_called (hr.mono (by decide)) (je_fld 14 (by exact fe_crossing) rfl (jv 0)) (ja_cons (jv 1) ja_nil))) (je_str tFOOT)) (by exact (jss_one (js_ret je_int)) : JSs _ _ _ bd_grows_1) jss_nil) (jss_cons (js_set (i := 3) sc_grows.nd rfl (by first | exact Or.inl rfl | exact Or.inr rfl) je_int) (jss_cons (js_for (passesW rfl) rfl (ji_range1 (by rfl) b_range (ja_cons (je_fld 15 (by exact fe_size) rfl (jv 0)) ja_nil)) (jg_name (i := 4) sc_grows.nd rfl (by first | exact Or.inl rfl | exact Or.inr rfl)) (by exact (jss_one (js_if (jt_val (je_callC c_free (hr.mono (by decide)) (by rfl) (ja_cons (jv 0) (ja_cons (jv 1) (ja_cons (jv 4) ja_nil))))) (by exact (jss_one (js_set (i := 3) sc_grows.nd rfl (by first | exact Or.inl rfl | exact Or.inr rfl) (je_op (ow_add rfl) (jv 3) je_int))) : JSs _ _ _ bd_grows_3) jss_nil)) : JSs _ _ _ bd_grows_2)) (jss_one (js_ret (je_callB (cw_max2 rfl) (by rfl) b_max boot_max (ja_cons je_int (ja_cons (je_op ow_sub (je_callB (cw_sum rfl rfl) (by rfl) b_sum boot_sum (ja_cons (jv 2) ja_nil)) (jv 3)) ja_nil)))))))), fun ws G Q Ex h => w_grows ws G Q Ex h⟩
theorem ok_queue (F : Fun P.K "queue" "queue" s_queue f fd) (b_divmod : mg "divmod" = none) (c_stood_behind : CallOk P prog w mg base "stood_behind" 7 sp_stood_behind) (c_grows : CallOk P prog w mg base "grows" 7 sp_grows) : FnW P prog w mg base 8 f fd ["plan", "name", "comings", "turn"] sp_queue :=
  Fun.okW F sc_queue len_queue fun cdv A outer s H E hr => ⟨bd_queue, by
    exact (jss_cons (js_asg (je_callB cw_divmod (by rfl) b_divmod boot_divmod (ja_cons (jv 3) (ja_cons (je_fld 15 (by exact fe_size) rfl (jv 0)) ja_nil))) (jg_tup rfl rfl (jgs_cons (jg_name (i := 5) sc_queue.nd rfl (by first | exact Or.inl rfl | exact Or.inr rfl)) (jgs_cons (jg_name (i := 6) sc_queue.nd rfl (by first | exact Or.inl rfl | exact Or.inr rfl)) jgs_nil)))) (jss_cons (js_set (i := 4) sc_queue.nd rfl (by first | exact Or.inl rfl | exact Or.inr rfl) je_int) (jss_cons (js_if (jt_cmp ow_gt (jv 5) je_int) (by exact (jss_one (js_set (i := 4) sc_queue.nd rfl (by first | exact Or.inl rfl | exact Or.inr rfl) (je_op (ow_add rfl) (je_callC c_stood_behind (hr.mono (by decide)) (by rfl) (ja_cons (jv 0) (ja_cons (jv 1) (ja_cons (jv 2) (ja_cons je_int (ja_cons (je_fld 15 (by exact fe_size) rfl (jv 0)) ja_nil)))))) (je_op ow_mul (je_op ow_sub (jv 5) je_int) (je_callC c_grows (hr.mono (by decide)) (by rfl) (ja_cons (jv 0) (ja_cons (jv 1) (ja_cons (jv 2) ja_nil)))))))) : JSs _ _ _ bd_queue_1) jss_nil) (jss_one (js_ret (je_callC c_stood_behind (hr.mono (by decide)) (by rfl) (ja_cons (jv 0) (ja_cons (jv 1) (ja_cons (jv 2) (ja_cons (jv 4) (ja_cons (jv 6) ja_nil))))))))))), fun ws G Q Ex h => w_queue ws G Q Ex h⟩
theorem ok_Way_init (F : Fun P.K "__init__" "Way.__init__" s_Way_init f fd)  : FnW P prog w mg base 1 f fd ["self", "name", "start", "end", "off", "near", "least"] sp_Way_init :=
  Fun.okW F sc_Way_init len_Way_init fun cdv A outer s H E hr => ⟨bd_Way_init, by
    exact (jss_cons (js_fld 0 (by exact fe_name) rfl (jv 0) (jv 1)) (jss_cons (js_fld 1 (by exact fe_start) rfl (jv 0) (jv 2)) (jss_cons (js_fld 2 (by exact fe_end) rfl (jv 0) (jv 3)) (jss_cons (js_fld 3 (by exact fe_off) rfl (jv 0) (jv 4)) (jss_cons (js_fld 4 (by exact fe_near) rfl (jv 0) (jv 5)) (jss_cons (js_fld 5 (by exact fe_least) rfl (jv 0) (jv 6)) (jss_one (js_fld 6 (by exact fe_kind) rfl (jv 0) (je_str []))))))))), fun ws G Q Ex h => w_Way_init ws G Q Ex h⟩
theorem ok_Way_ready (F : Fun P.K "ready" "Way.ready" s_Way_ready f fd)  : FnW P prog w mg base 1 f fd ["self"] sp_Way_ready :=
  Fun.okW F sc_Way_ready len_Way_ready fun cdv A outer s H E hr => ⟨bd_Way_ready, by
    exact (jss_one (js_ret je_int)), fun ws G Q Ex h => w_Way_ready ws G Q Ex h⟩
theorem ok_Way_fade (F : Fun P.K "fade" "Way.fade" s_Way_fade f fd)  : FnW P prog w mg base 1 f fd ["self"] sp_Way_fade :=
  Fun.okW F sc_Way_fade len_Way_fade fun cdv A outer s H E hr => ⟨bd_Way_fade, by
    exact (jss_one (js_ret je_int)), fun ws G Q Ex h => w_Way_fade ws G Q Ex h⟩
theorem ok_Way_goes (F : Fun P.K "goes" "Way.goes" s_Way_goes f fd) (b_min : mg "min" = none) : FnW P prog w mg base 1 f fd ["self", "many"] sp_Way_goes :=
  Fun.okW F sc_Way_goes len_Way_goes fun cdv A outer s H E hr => ⟨bd_Way_goes, by
    exact (jss_one (js_ret (je_callB (cw_min2 rfl) (by rfl) b_min boot_min (ja_cons (jv 1) (ja_cons je_int ja_nil))))), fun ws G Q Ex h => w_Way_goes ws G Q Ex h⟩
theorem ok_CarWay_init (F : Fun P.K "__init__" "CarWay.__init__" s_CarWay_init f fd) (i_Way : InitOk P prog w mg base "Way" 1 sp_Way_init) : FnW P prog w mg base 2 f fd ["self", "name", "start", "end", "off", "near", "least"] sp_CarWay_init :=
  Fun.okW F sc_CarWay_init len_CarWay_init fun cdv A outer s H E hr => ⟨bd_CarWay_init, by
    exact (jss_cons (js_expr (je_init i_Way (hr.mono (by decide)) (by rfl) (ja_cons (jv 0) (ja_cons (jv 1) (ja_cons (jv 2) (ja_cons (jv 3) (ja_cons (jv 4) (ja_cons (jv 5) (ja_cons (jv 6) ja_nil))))))))) (jss_one (js_fld 6 (by exact fe_kind) rfl (jv 0) (je_str tCAR)))), fun ws G Q Ex h => w_CarWay_init ws G Q Ex h⟩
theorem ok_CarWay_fade (F : Fun P.K "fade" "CarWay.fade" s_CarWay_fade f fd)  : FnW P prog w mg base 1 f fd ["self"] sp_CarWay_fade :=
  Fun.okW F sc_CarWay_fade len_CarWay_fade fun cdv A outer s H E hr => ⟨bd_CarWay_fade, by
    exact (jss_one (js_ret je_int)), fun ws G Q Ex h => w_CarWay_fade ws G Q Ex h⟩
theorem ok_FootWay_init (F : Fun P.K "__init__" "FootWay.__init__" s_FootWay_init f fd) (i_Way : InitOk P prog w mg base "Way" 1 sp_Way_init) : FnW P prog w mg base 2 f fd ["self", "name", "start", "end", "off", "near", "least"] sp_FootWay_init :=
  Fun.okW F sc_FootWay_init len_FootWay_init fun cdv A outer s H E hr => ⟨bd_FootWay_init, by
    exact (jss_cons (js_expr (je_init i_Way (hr.mono (by decide)) (by rfl) (ja_cons (jv 0) (ja_cons (jv 1) (ja_cons (jv 2) (ja_cons (jv 3) (ja_cons (jv 4) (ja_cons (jv 5) (ja_cons (jv 6) ja_nil))))))))) (jss_one (js_fld 6 (by exact fe_kind) rfl (jv 0) (je_str tFOOT)))), fun ws G Q Ex h => w_FootWay_init ws G Q Ex h⟩
theorem ok_FootWay_ready (F : Fun P.K "ready" "FootWay.ready" s_FootWay_ready f fd)  : FnW P prog w mg base 1 f fd ["self"] sp_FootWay_ready :=
  Fun.okW F sc_FootWay_ready len_FootWay_ready fun cdv A outer s H E hr => ⟨bd_FootWay_ready, by
    exact (jss_one (js_ret je_int)), fun ws G Q Ex h => w_FootWay_ready ws G Q Ex h⟩
theorem ok_FootWay_fade (F : Fun P.K "fade" "FootWay.fade" s_FootWay_fade f fd)  : FnW P prog w mg base 1 f fd ["self"] sp_FootWay_fade :=
  Fun.okW F sc_FootWay_fade len_FootWay_fade fun cdv A outer s H E hr => ⟨bd_FootWay_fade, by
    exact (jss_one (js_ret (je_fld 3 (by exact fe_off) rfl (jv 0)))), fun ws G Q Ex h => w_FootWay_fade ws G Q Ex h⟩
theorem ok_FootWay_goes (F : Fun P.K "goes" "FootWay.goes" s_FootWay_goes f fd)  : FnW P prog w mg base 1 f fd ["self", "many"] sp_FootWay_goes :=
  Fun.okW F sc_FootWay_goes len_FootWay_goes fun cdv A outer s H E hr => ⟨bd_FootWay_goes, by
    exact (jss_one (js_ret (jv 1))), fun ws G Q Ex h => w_FootWay_goes ws G Q Ex h⟩
theorem ok_TramWay_init (F : Fun P.K "__init__" "TramWay.__init__" s_TramWay_init f fd) (i_Way : InitOk P prog w mg base "Way" 1 sp_Way_init) : FnW P prog w mg base 2 f fd ["self", "name", "start", "end", "off", "near", "least"] sp_TramWay_init :=
  Fun.okW F sc_TramWay_init len_TramWay_init fun cdv A outer s H E hr => ⟨bd_TramWay_init, by
    exact (jss_cons (js_expr (je_init i_Way (hr.mono (by decide)) (by rfl) (ja_cons (jv 0) (ja_cons (jv 1) (ja_cons (jv 2) (ja_cons (jv 3) (ja_cons (jv 4) (ja_cons (jv 5) (ja_cons (jv 6) ja_nil))))))))) (jss_one (js_fld 6 (by exact fe_kind) rfl (jv 0) (je_str tTRAM)))), fun ws G Q Ex h => w_TramWay_init ws G Q Ex h⟩
theorem ok_TramWay_ready (F : Fun P.K "ready" "TramWay.ready" s_TramWay_ready f fd)  : FnW P prog w mg base 1 f fd ["self"] sp_TramWay_ready :=
  Fun.okW F sc_TramWay_ready len_TramWay_ready fun cdv A outer s H E hr => ⟨bd_TramWay_ready, by
    exact (jss_one (js_ret je_int)), fun ws G Q Ex h => w_TramWay_ready ws G Q Ex h⟩
theorem ok_words (F : Fun P.K "words" "words" s_words f fd)  : FnW P prog w mg base 1 f fd ["text"] sp_words :=
  Fun.okW F sc_words len_words fun cdv A outer s H E hr => ⟨bd_words, by
    exact (jss_one (js_ret (je_lcI (x := "row") (j := 1) rfl sc_words.nd (ji_iter rfl (je_bm (k := .str) rfl PySem.F.plainAttrs_str PySem.F.slot_str_split PySem.F.type_str_split mw_ssplit (jv 0) (ja_cons (je_str [10]) ja_nil))) (blkOk_by (by show blkC ["text", "row"] (defScope s_words) _ [("row", 1)] = true; decide +kernel)) (fun _ _ _ _ _ => pg_name (i := 1) sc_words.nd rfl (by first | exact Or.inl rfl | exact Or.inr rfl)) (fun _ _ _ _ _ => (by exact jts_nil : JTs _ _ _ lc_words_1_t)) (fun _ _ _ _ _ => (by exact (je_bm (k := .str) rfl PySem.F.plainAttrs_str PySem.F.slot_str_split PySem.F.type_str_split mw_ssplit (jv 1) (ja_cons (je_str [32]) ja_nil)) : JE _ _ _ lc_words_1_e))))), fun ws G Q Ex h => w_words ws G Q Ex h⟩
theorem ok_figured (F : Fun P.K "figured" "figured" s_figured f fd) (b_len : mg "len" = none) (g_FIGURES : GlobOk P mg "FIGURES" (.str FIG)) : FnW P prog w mg base 1 f fd ["word", "low", "high"] sp_figured :=
  Fun.okW F sc_figured len_figured fun cdv A outer s H E hr => ⟨bd_figured, by
    exact (jss_cons (js_if (JW.pt (jw_or (jt_cmp (ow_eq rfl hr.units) (je_callB (cw_len rfl) (by rfl) b_len boot_len (ja_cons (jv 0) ja_nil)) je_int) (jw_or (jt_cmp ow_gt (je_callB (cw_len rfl) (by rfl) b_len boot_len (ja_cons (jv 0) ja_nil)) je_int) (jw_or1 (JW.pt (jw_and (jt_cmp (ow_eq rfl hr.units) (je_ix (iw_seq rfl) (jv 0) je_int) (je_str [48])) (jw_and1 (jt_cmp ow_gt (je_callB (cw_len rfl) (by rfl) b_len boot_len (ja_cons (jv 0) ja_nil)) je_int)))))))) (by exact (jss_one (js_ret je_non)) : JSs _ _ _ bd_figured_1) jss_nil) (jss_cons (js_set (i := 3) sc_figured.nd rfl (by first | exact Or.inl rfl | exact Or.inr rfl) je_int) (jss_cons (js_for (passesW rfl) rfl (ji_iter rfl (jv 0)) (jg_name (i := 4) sc_figured.nd rfl (by first | exact Or.inl rfl | exact Or.inr rfl)) (by exact (jss_cons (js_if (jt_cmp (ow_notin rfl) (jv 4) (je_glob (by rfl) g_FIGURES)) (by exact (jss_one (js_ret je_non)) : JSs _ _ _ bd_figured_3) jss_nil) (jss_one (js_set (i := 3) sc_figured.nd rfl (by first | exact Or.inl rfl | exact Or.inr rfl) (je_op (ow_add rfl) (je_op ow_mul (jv 3) je_int) (je_bm (k := .str) rfl PySem.F.plainAttrs_str PySem.F.slot_str_index PySem.F.type_str_index mw_sindex (je_glob (by rfl) g_FIGURES) (ja_cons (jv 4) ja_nil)))))) : JSs _ _ _ bd_figured_2)) (jss_cons (js_if (JW.pt (jw_or (jt_cmp ow_lt (jv 3) (jv 1)) (jw_or1 (jt_cmp ow_gt (jv 3) (jv 2))))) (by exact (jss_one (js_ret je_non)) : JSs _ _ _ bd_figured_4) jss_nil) (jss_one (js_ret (jv 3))))))), fun ws G Q Ex h => w_figured ws G Q Ex h⟩
theorem ok_is_name (F : Fun P.K "is_name" "is_name" s_is_name f fd) (b_len : mg "len" = none) (g_LETTERS : GlobOk P mg "LETTERS" (.str LET)) : FnW P prog w mg base 1 f fd ["word"] sp_is_name :=
  Fun.okW F sc_is_name len_is_name fun cdv A outer s H E hr => ⟨bd_is_name, by
    exact (jss_cons (js_if (JW.pt (jw_or (jt_cmp (ow_eq rfl hr.units) (je_callB (cw_len rfl) (by rfl) b_len boot_len (ja_cons (jv 0) ja_nil)) je_int) (jw_or1 (jt_cmp ow_gt (je_callB (cw_len rfl) (by rfl) b_len boot_len (ja_cons (jv 0) ja_nil)) je_int)))) (by exact (jss_one (js_ret je_bl)) : JSs _ _ _ bd_is_name_1) jss_nil) (jss_cons (js_for (passesW rfl) rfl (ji_iter rfl (jv 0)) (jg_name (i := 1) sc_is_name.nd rfl (by first | exact Or.inl rfl | exact Or.inr rfl)) (by exact (jss_one (js_if (jt_cmp (ow_notin rfl) (jv 1) (je_glob (by rfl) g_LETTERS)) (by exact (jss_one (js_ret je_bl)) : JSs _ _ _ bd_is_name_3) jss_nil)) : JSs _ _ _ bd_is_name_2)) (jss_one (js_ret je_bl)))), fun ws G Q Ex h => w_is_name ws G Q Ex h⟩
theorem ok_Crossing_init (F : Fun P.K "__init__" "Crossing.__init__" s_Crossing_init f fd) (b_list : mg "list" = none) : FnW P prog w mg base 1 f fd ["self", "places", "ways"] sp_Crossing_init :=
  Fun.okW F sc_Crossing_init len_Crossing_init fun cdv A outer s H E hr => ⟨bd_Crossing_init, by
    exact (jss_cons (js_fld 7 (by exact fe_places) rfl (jv 0) (jv 1)) (jss_one (js_fld 8 (by exact fe_own_ways) rfl (jv 0) (je_callTy (cw_listI rfl) (by rfl) b_list boot_list (ja_cons (jv 2) ja_nil))))), fun ws G Q Ex h => w_Crossing_init ws G Q Ex h⟩
theorem ok_Crossing_names (F : Fun P.K "names" "Crossing.names" s_Crossing_names f fd)  : FnW P prog w mg base 1 f fd ["self"] sp_Crossing_names :=
  Fun.okW F sc_Crossing_names len_Crossing_names fun cdv A outer s H E hr => ⟨bd_Crossing_names, by
    exact (jss_one (js_ret (je_lcM (x := "way") (j := 1) rfl sc_Crossing_names.nd (ji_iter rfl (je_fld 8 (by exact fe_own_ways) rfl (jv 0))) (blkOk_by (by show blkC ["self", "way"] (defScope s_Crossing_names) _ [("way", 1)] = true; decide +kernel)) (fun _ _ _ _ _ => pg_name (i := 1) sc_Crossing_names.nd rfl (by first | exact Or.inl rfl | exact Or.inr rfl)) (fun _ _ _ _ _ => (by exact jts_nil : JTs _ _ _ lc_Crossing_names_1_t)) (fun _ _ _ _ _ => (by exact (je_fld 0 (by exact fe_name) rfl (jv 1)) : JE _ _ _ lc_Crossing_names_1_e))))), fun ws G Q Ex h => w_Crossing_names ws G Q Ex h⟩
theorem ok_Crossing_number (F : Fun P.K "number" "Crossing.number" s_Crossing_number f fd) (b_enumerate : mg "enumerate" = none) (x_NoWay : RaiseOk P prog w mg base "NoWay" 2 1 [0]) : FnW P prog w mg base 3 f fd ["self", "name"] sp_Crossing_number :=
  Fun.okW F sc_Crossing_number len_Crossing_number fun cdv A outer s H E hr => ⟨bd_Crossing_number, by
    exact (jss_cons (js_for (passesW rfl) rfl (ji_enum rfl (by rfl) b_enumerate (ja_cons (je_fld 8 (by exact fe_own_ways) rfl (jv 0)) ja_nil)) (jg_tup rfl rfl (jgs_cons (jg_name (i := 2) sc_Crossing_number.nd rfl (by first | exact Or.inl rfl | exact Or.inr rfl)) (jgs_cons (jg_name (i := 3) sc_Crossing_number.nd rfl (by first | exact Or.inl rfl | exact Or.inr rfl)) jgs_nil))) (by exact (jss_one (js_if (jt_cmp (ow_eq rfl hr.units) (je_fld 0 (by exact fe_name) rfl (jv 3)) (jv 1)) (by exact (jss_one (js_ret (jv 2))) : JSs _ _ _ bd_Crossing_number_2) jss_nil)) : JSs _ _ _ bd_Crossing_number_1)) (jss_one (js_raise x_NoWay (hr.mono (by decide)) rfl (by rfl) (ja_cons (jv 1) ja_nil)))), fun ws G Q Ex h => w_Crossing_number ws G Q Ex h⟩
theorem ok_Crossing_called (F : Fun P.K "called" "Crossing.called" s_Crossing_called f fd) (m_number : ∀ c ∈ [13], MethOk P prog w mg base 53 3 c (mt_number c)) : FnW P prog w mg base 4 f fd ["self", "name"] sp_Crossing_called :=
  Fun.okW F sc_Crossing_called len_Crossing_called fun cdv A outer s H E hr => ⟨bd_Crossing_called, by
    exact (jss_one (js_ret (je_ix (iw_seq rfl) (je_fld 8 (by exact fe_own_ways) rfl (jv 0)) (je_meth (t := 53) (by exact fe_number) m_number (hr.mono (by decide)) (jv 0) (ja_cons (jv 1) ja_nil))))), fun ws G Q Ex h => w_Crossing_called ws G Q Ex h⟩
theorem ok_made_way (F : Fun P.K "made_way" "made_way" s_made_way f fd) (k_CarWay : MakeOk P prog w mg base "CarWay" 10 2 sp_CarWay_init) (k_FootWay : MakeOk P prog w mg base "FootWay" 11 2 sp_FootWay_init) (k_TramWay : MakeOk P prog w mg base "TramWay" 12 2 sp_TramWay_init) : FnW P prog w mg base 4 f fd ["sort", "name", "numbers"] sp_made_way :=
  Fun.okW F sc_made_way len_made_way fun cdv A outer s H E hr => ⟨bd_made_way, by
    exact (jss_cons (js_if (jt_cmp (ow_eq rfl hr.units) (jv 0) (je_str tCAR)) (by exact (jss_one (js_ret (je_view (je_make k_CarWay (hr.mono (by decide)) (by rfl) (ja_cons (jv 1) (ja_cons (je_ix (iw_seq rfl) (jv 2) je_int) (ja_cons (je_ix (iw_seq rfl) (jv 2) je_int) (ja_cons (je_ix (iw_seq rfl) (jv 2) je_int) (ja_cons (je_ix (iw_seq rfl) (jv 2) je_int) (ja_cons (je_ix (iw_seq rfl) (jv 2) je_int) ja_nil)))))))))) : JSs _ _ _ bd_made_way_1) jss_nil) (jss_cons (js_if (jt_cmp (ow_eq rfl hr.units) (jv 0) (je_str tFOOT)) (by exact (jss_one (js_ret (je_view (je_make k_FootWay (hr.mono (by decide)) (by rfl) (ja_cons (jv 1) (ja_cons (je_ix (iw_seq rfl) (jv 2) je_int) (ja_cons (je_ix (iw_seq rfl) (jv 2) je_int) (ja_cons (je_ix (iw_seq rfl) (jv 2) je_int) (ja_cons (je_ix (iw_seq rfl) (jv 2) je_int) (ja_cons (je_ix (iw_seq rfl) (jv 2) je_int) ja_nil)))))))))) : JSs _ _ _ bd_made_way_2) jss_nil) (jss_one (js_ret (je_view (je_make k_TramWay (hr.mono (by decide)) (by rfl) (ja_cons (jv 1) (ja_cons (je_ix (iw_seq rfl) (jv 2) je_int) (ja_cons (je_ix (iw_seq rfl) (jv 2) je_int) (ja_cons (je_ix (iw_seq rfl) (jv 2) je_int) (ja_cons (je_ix (iw_seq rfl) (jv 2) je_int) (ja_cons (je_ix (iw_seq rfl) (jv 2) je_int) ja_nil)))))))))))), fun ws G Q Ex h => w_made_way ws G Q Ex h⟩
theorem ok_read_head (F : Fun P.K "read_head" "read_head" s_read_head f fd) (x_NoText : RaiseOk P prog w mg base "NoText" 1 1 [9, 10]) (b_len : mg "len" = none) (c_figured : CallOk P prog w mg base "figured" 1 sp_figured) : FnW P prog w mg base 3 f fd ["row"] sp_read_head :=
  Fun.okW F sc_read_head len_read_head fun cdv A outer s H E hr => ⟨bd_read_head, by
    exact (jss_cons (js_if (jt_cmp (ow_ne rfl hr.units) (je_ix (iw_seq rfl) (jv 0) je_int) (je_str [114, 105, 110, 103])) (by exact (jss_one (js_raise x_NoText (hr.mono (by decide)) rfl (by rfl) (ja_cons je_int (ja_cons je_int ja_nil)))) : JSs _ _ _ bd_read_head_1) jss_nil) (jss_cons (js_if (jt_cmp ow_lt (je_callB (cw_len rfl) (by rfl) b_len boot_len (ja_cons (jv 0) ja_nil)) je_int) (by exact (jss_one (js_raise x_NoText (hr.mono (by decide)) rfl (by rfl) (ja_cons je_int (ja_cons je_int ja_nil)))) : JSs _ _ _ bd_read_head_2) jss_nil) (jss_cons (js_set (i := 1) sc_read_head.nd rfl (by first | exact Or.inl rfl | exact Or.inr rfl) (je_callC c_figured (hr.mono (by decide)) (by rfl) (ja_cons (je_ix (iw_seq rfl) (jv 0) je_int) (ja_cons je_int (ja_cons je_int ja_nil))))) (jss_cons (js_if (jt_cmp ow_is (jv 1) je_non) (by exact (jss_one (js_raise x_NoText (hr.mono (by decide)) rfl (by rfl) (ja_cons je_int (ja_cons je_int ja_nil)))) : JSs _ _ _ bd_read_head_3) jss_nil) (jss_cons (js_if (jt_cmp ow_gt (je_callB (cw_len rfl) (by rfl) b_len boot_len (ja_cons (jv 0) ja_nil)) je_int) (by exact (jss_one (js_raise x_NoText (hr.mono (by decide)) rfl (by rfl) (ja_cons je_int (ja_cons je_int ja_nil)))) : JSs _ _ _ bd_read_head_4) jss_nil) (jss_one (js_ret (jv 1)))))))), fun ws G Q Ex h => w_read_head ws G Q Ex h⟩
theorem ok_read_numbers (F : Fun P.K "read_numbers" "read_numbers" s_read_numbers f fd) (b_range : mg "range" = none) (b_len : mg "len" = none) (x_NoText : RaiseOk P prog w mg base "NoText" 1 1 [9, 10]) (c_figured : CallOk P prog w mg base "figured" 1 sp_figured) : FnW P prog w mg base 3 f fd ["at", "row", "places"] sp_read_numbers :=
  Fun.okW F sc_read_numbers len_read_numbers fun cdv A outer s H E hr => ⟨bd_read_numbers, by
    exact (jss_cons (js_set (i := 3) sc_read_numbers.nd rfl (by first | exact Or.inl rfl | exact Or.inr rfl) (je_lstI (ja_cons (je_tup (ja_cons je_int (ja_cons (je_op ow_sub (jv 2) je_int) ja_nil))) (ja_cons (je_tup (ja_cons je_int (ja_cons (je_op ow_sub (jv 2) je_int) ja_nil))) (ja_cons (je_tup (ja_cons je_int (ja_cons je_int ja_nil))) (ja_cons (je_tup (ja_cons je_int (ja_cons je_int ja_nil))) (ja_cons (je_tup (ja_cons je_int (ja_cons je_int ja_nil))) ja_nil))))))) (jss_cons (js_set (i := 4) sc_read_numbers.nd rfl (by first | exact Or.inl rfl | exact Or.inr rfl) (je_lstM ja_nil)) (jss_cons (js_for (passesW rfl) rfl (ji_range1 (by rfl) b_range (ja_cons je_int ja_nil)) (jg_name (i := 5) sc_read_numbers.nd rfl (by first | exact Or.inl rfl | exact Or.inr rfl)) (by exact (jss_cons (js_if (jt_cmp ow_le (je_callB (cw_len rfl) (by rfl) b_len boot_len (ja_cons (jv 1) ja_nil)) (je_op (ow_add rfl) je_int (jv 5))) (by exact (jss_one (js_raise x_NoText (hr.mono (by decide)) rfl (by rfl) (ja_cons (jv 0) (ja_cons (je_callB (cw_len rfl) (by rfl) b_len boot_len (ja_cons (jv 1) ja_nil)) ja_nil)))) : JSs _ _ _ bd_read_numbers_2) jss_nil) (jss_cons (js_set (i := 6) sc_read_numbers.nd rfl (by first | exact Or.inl rfl | exact Or.inr rfl) (je_callC c_figured (hr.mono (by decide)) (by rfl) (ja_cons (je_ix (iw_seq rfl) (jv 1) (je_op (ow_add rfl) je_int (jv 5))) (ja_cons (je_ix (iw_seq rfl) (je_ix (iw_seq rfl) (jv 3) (jv 5)) je_int) (ja_cons (je_ix (iw_seq rfl) (je_ix (iw_seq rfl) (jv 3) (jv 5)) je_int) ja_nil))))) (jss_cons (js_if (JW.pt (jw_or (jt_cmp ow_is (jv 6) je_non) (jw_or1 (JW.pt (jw_and (jt_cmp (ow_eq rfl hr.units) (jv 5) je_int) (jw_and1 (jt_cmp (ow_eq rfl hr.units) (jv 6) (je_ix (iw_seq rfl) (jv 4) je_int)))))))) (by exact (jss_one (js_raise x_NoText (hr.mono (by decide)) rfl (by rfl) (ja_cons (jv 0) (ja_cons (je_op (ow_add rfl) je_int (jv 5)) ja_nil)))) : JSs _ _ _ bd_read_numbers_3) jss_nil) (jss_one (js_expr (je_bm (k := .list) rfl PySem.F.plainAttrs_list PySem.F.slot_list_append PySem.F.type_list_append mw_append (jv 4) (ja_cons (jv 6) ja_nil))))))) : JSs _ _ _ bd_read_numbers_1)) (jss_cons (js_if (jt_cmp ow_gt (je_callB (cw_len rfl) (by rfl) b_len boot_len (ja_cons (jv 1) ja_nil)) je_int) (by exact (jss_one (js_raise x_NoText (hr.mono (by decide)) rfl (by rfl) (ja_cons (jv 0) (ja_cons je_int ja_nil)))) : JSs _ _ _ bd_read_numbers_4) jss_nil) (jss_one (js_ret (jv 4))))))), fun ws G Q Ex h => w_read_numbers ws G Q Ex h⟩
theorem ok_read_way (F : Fun P.K "read_way" "read_way" s_read_way f fd) (g_MOST_WAYS : GlobOk P mg "MOST_WAYS" (.int 12)) (g_SORTS : GlobOk P mg "SORTS" (.tup [(.str tCAR), (.str tFOOT), (.str tTRAM)])) (x_NoText : RaiseOk P prog w mg base "NoText" 1 1 [9, 10]) (b_len : mg "len" = none) (c_is_name : CallOk P prog w mg base "is_name" 1 sp_is_name) (c_made_way : CallOk P prog w mg base "made_way" 4 sp_made_way) (c_read_numbers : CallOk P prog w mg base "read_numbers" 3 sp_read_numbers) : FnW P prog w mg base 5 f fd ["at", "row", "places", "taken"] sp_read_way :=
  Fun.okW F sc_read_way len_read_way fun cdv A outer s H E hr => ⟨bd_read_way, by
    exact (jss_cons (js_if (JW.pt (jw_or (jt_cmp ow_gt (jv 0) (je_glob (by rfl) g_MOST_WAYS)) (jw_or1 (jt_cmp (ow_notin rfl) (je_ix (iw_seq rfl) (jv 1) je_int) (je_glob (by rfl) g_SORTS))))) (by exact (jss_one (js_raise x_NoText (hr.mono (by decide)) rfl (by rfl) (ja_cons (jv 0) (ja_cons je_int ja_nil)))) : JSs _ _ _ bd_read_way_1) jss_nil) (jss_cons (js_if (JW.pt (jw_or (jt_cmp ow_lt (je_callB (cw_len rfl) (by rfl) b_len boot_len (ja_cons (jv 1) ja_nil)) je_int) (jw_or (jt_not (jt_val (je_callC c_is_name (hr.mono (by decide)) (by rfl) (ja_cons (je_ix (iw_seq rfl) (jv 1) je_int) ja_nil)))) (jw_or1 (jt_din (hu_of hr) (je_ix (iw_seq rfl) (jv 1) je_int) (jv 3)))))) (by exact (jss_one (js_raise x_NoText (hr.mono (by decide)) rfl (by rfl) (ja_cons (jv 0) (ja_cons je_int ja_nil)))) : JSs _ _ _ bd_read_way_2) jss_nil) (jss_one (js_ret (je_callC c_made_way (hr.mono (by decide)) (by rfl) (ja_cons (je_ix (iw_seq rfl) (jv 1) je_int) (ja_cons (je_ix (iw_seq rfl) (jv 1) je_int) (ja_cons (je_view (je_callC c_read_numbers (hr.mono (by decide)) (by rfl) (ja_cons (jv 0) (ja_cons (jv 1) (ja_cons (jv 2) ja_nil))))) ja_nil)))))))), fun ws G Q Ex h => w_read_way ws G Q Ex h⟩
theorem ok_read_crossing (F : Fun P.K "read_crossing" "read_crossing" s_read_crossing f fd) (c_words : CallOk P prog w mg base "words" 1 sp_words) (c_read_head : CallOk P prog w mg base "read_head" 3 sp_read_head) (b_len : mg "len" = none) (x_NoText : RaiseOk P prog w mg base "NoText" 1 1 [9, 10]) (b_range : mg "range" = none) (c_read_way : CallOk P prog w mg base "read_way" 5 sp_read_way) (k_Crossing : MakeOk P prog w mg base "Crossing" 13 1 sp_Crossing_init) : FnW P prog w mg base 6 f fd ["text"] sp_read_crossing :=
  Fun.okW F sc_read_crossing len_read_crossing fun cdv A outer s H E hr => ⟨bd_read_crossing, by
    exact (jss_cons (js_set (i := 1) sc_read_crossing.nd rfl (by first | exact Or.inl rfl | exact Or.inr rfl) (je_callC c_words (hr.mono (by decide)) (by rfl) (ja_cons (jv 0) ja_nil))) (jss_cons (js_set (i := 2) sc_read_crossing.nd rfl (by first | exact Or.inl rfl | exact Or.inr rfl) (je_callC c_read_head (hr.mono (by decide)) (by rfl) (ja_cons (je_ix (iw_seq rfl) (jv 1) je_int) ja_nil))) (jss_cons (js_if (jt_cmp ow_lt (je_callB (cw_len rfl) (by rfl) b_len boot_len (ja_cons (jv 1) ja_nil)) je_int) (by exact (jss_one (js_raise x_NoText (hr.mono (by decide)) rfl (by rfl) (ja_cons je_int (ja_cons je_int ja_nil)))) : JSs _ _ _ bd_read_crossing_1) jss_nil) (jss_cons (js_set (i := 3) sc_read_crossing.nd rfl (by first | exact Or.inl rfl | exact Or.inr rfl) (je_lstM ja_nil)) (jss_cons (js_set (i := 4) sc_read_crossing.nd rfl (by first | exact Or.inl rfl | exact Or.inr rfl) je_dnew) (jss_cons (js_for (passesW rfl) rfl (ji_range2 (by rfl) b_range (ja_cons je_int (ja_cons (je_callB (cw_len rfl) (by rfl) b_len boot_len (ja_cons (jv 1) ja_nil)) ja_nil))) (jg_name (i := 5) sc_read_crossing.nd rfl (by first | exact Or.inl rfl | exact Or.inr rfl)) (by exact (jss_cons (js_set (i := 6) sc_read_crossing.nd rfl (by first | exact Or.inl rfl | exact Or.inr rfl) (je_callC c_read_way (hr.mono (by decide)) (by rfl) (ja_cons (jv 5) (ja_cons (je_ix (iw_seq rfl) (jv 1) (jv 5)) (ja_cons (jv 2) (ja_cons (jv 4) ja_nil)))))) (jss_cons (js_dput (hu_of hr) (jv 4) (je_fld 0 (by exact fe_name) rfl (jv 6)) je_bl) (jss_one (js_expr (je_bm (k := .list) rfl PySem.F.plainAttrs_list PySem.F.slot_list_append PySem.F.type_list_append mw_append (jv 3) (ja_cons (jv 6) ja_nil)))))) : JSs _ _ _ bd_read_crossing_2)) (jss_one (js_ret (je_view (je_make k_Crossing (hr.mono (by decide)) (by rfl) (ja_cons (jv 2) (ja_cons (jv 3) ja_nil)))))))))))), fun ws G Q Ex h => w_read_crossing ws G Q Ex h⟩
theorem ok_bow (F : Fun P.K "bow" "bow" s_bow f fd)  : FnW P prog w mg base 1 f fd ["way", "places"] sp_bow :=
  Fun.okW F sc_bow len_bow fun cdv A outer s H E hr => ⟨bd_bow, by
    exact (jss_cons (js_set (i := 2) sc_bow.nd rfl (by first | exact Or.inl rfl | exact Or.inr rfl) (je_lstM ja_nil)) (jss_cons (js_set (i := 3) sc_bow.nd rfl (by first | exact Or.inl rfl | exact Or.inr rfl) (je_op ow_mod (je_op (ow_add rfl) (je_fld 1 (by exact fe_start) rfl (jv 0)) je_int) (jv 1))) (jss_cons (js_while (passesW rfl) (jt_cmp (ow_ne rfl hr.units) (jv 3) (je_fld 2 (by exact fe_end) rfl (jv 0))) (by exact (jss_cons (js_expr (je_bm (k := .list) rfl PySem.F.plainAttrs_list PySem.F.slot_list_append PySem.F.type_list_append mw_append (jv 2) (ja_cons (jv 3) ja_nil))) (jss_one (js_set (i := 3) sc_bow.nd rfl (by first | exact Or.inl rfl | exact Or.inr rfl) (je_op ow_mod (je_op (ow_add rfl) (jv 3) je_int) (jv 1))))) : JSs _ _ _ bd_bow_1)) (jss_one (js_ret (jv 2)))))), fun ws G Q Ex h => w_bow ws G Q Ex h⟩
theorem ok_ways_meet (F : Fun P.K "ways_meet" "ways_meet" s_ways_meet f fd) (c_bow : CallOk P prog w mg base "bow" 1 sp_bow) : FnW P prog w mg base 2 f fd ["way", "other", "places"] sp_ways_meet :=
  Fun.okW F sc_ways_meet len_ways_meet fun cdv A outer s H E hr => ⟨bd_ways_meet, by
    exact (jss_cons (js_if (jt_cmp (ow_eq rfl hr.units) (je_fld 2 (by exact fe_end) rfl (jv 0)) (je_fld 2 (by exact fe_end) rfl (jv 1))) (by exact (jss_one (js_ret je_bl)) : JSs _ _ _ bd_ways_meet_1) jss_nil) (jss_cons (js_if (JW.pt (jw_or (jt_cmp (ow_in rfl) (je_fld 1 (by exact fe_start) rfl (jv 0)) (je_tup (ja_cons (je_fld 1 (by exact fe_start) rfl (jv 1)) (ja_cons (je_fld 2 (by exact fe_end) rfl (jv 1)) ja_nil)))) (jw_or1 (jt_cmp (ow_eq rfl hr.units) (je_fld 2 (by exact fe_end) rfl (jv 0)) (je_fld 1 (by exact fe_start) rfl (jv 1)))))) (by exact (jss_one (js_ret je_bl)) : JSs _ _ _ bd_ways_meet_2) jss_nil) (jss_cons (js_set (i := 3) sc_ways_meet.nd rfl (by first | exact Or.inl rfl | exact Or.inr rfl) (je_view (je_callC c_bow (hr.mono (by decide)) (by rfl) (ja_cons (jv 0) (ja_cons (jv 2) ja_nil))))) (jss_one (js_ret (je_cmp (ow_ne rfl hr.units) (je_cmp (ow_in rfl) (je_fld 1 (by exact fe_start) rfl (jv 1)) (jv 3)) (je_cmp (ow_in rfl) (je_fld 2 (by exact fe_end) rfl (jv 1)) (jv 3)))))))), fun ws G Q Ex h => w_ways_meet ws G Q Ex h⟩
theorem ok_meet (F : Fun P.K "meet" "meet" s_meet f fd) (c_ways_meet : CallOk P prog w mg base "ways_meet" 2 sp_ways_meet) (m_called : ∀ c ∈ [13], MethOk P prog w mg base 54 4 c (mt_called c)) : FnW P prog w mg base 5 f fd ["crossing", "one", "other"] sp_meet :=
  Fun.okW F sc_meet len_meet fun cdv A outer s H E hr => ⟨bd_meet, by
    exact (jss_one (js_ret (je_callC c_ways_meet (hr.mono (by decide)) (by rfl) (ja_cons (je_meth (t := 54) (by exact fe_called) m_called (hr.mono (by decide)) (jv 0) (ja_cons (jv 1) ja_nil)) (ja_cons (je_meth (t := 54) (by exact fe_called) m_called (hr.mono (by decide)) (jv 0) (ja_cons (jv 2) ja_nil)) (ja_cons (je_fld 7 (by exact fe_places) rfl (jv 0)) ja_nil)))))), fun ws G Q Ex h => w_meet ws G Q Ex h⟩
theorem ok_gap (F : Fun P.K "gap" "gap" s_gap f fd) (m_called : ∀ c ∈ [13], MethOk P prog w mg base 54 4 c (mt_called c)) (b_max : mg "max" = none) : FnW P prog w mg base 5 f fd ["crossing", "one", "other"] sp_gap :=
  Fun.okW F sc_gap len_gap fun cdv A outer s H E hr => ⟨bd_gap, by
    exact (jss_cons (js_set (i := 3) sc_gap.nd rfl (by first | exact Or.inl rfl | exact Or.inr rfl) (je_meth (t := 54) (by exact fe_called) m_called (hr.mono (by decide)) (jv 0) (ja_cons (jv 1) ja_nil))) (jss_one (js_ret (je_callB (cw_max2 rfl) (by rfl) b_max boot_max (ja_cons je_int (ja_cons (je_op ow_sub (je_fld 3 (by exact fe_off) rfl (jv 3)) (je_fld 4 (by exact fe_near) rfl (je_meth (t := 54) (by exact fe_called) m_called (hr.mono (by decide)) (jv 0) (ja_cons (jv 2) ja_nil)))) ja_nil)))))), fun ws G Q Ex h => w_gap ws G Q Ex h⟩
theorem ok_turned_plans (F : Fun P.K "turned" "turned" s_turned_plans f fd)  : FnW P prog w mg base 1 f fd ["bits", "many", "size"] sp_turned_plans :=
  Fun.okW F sc_turned_plans len_turned_plans fun cdv A outer s H E hr => ⟨bd_turned_plans, by
    exact (jss_cons (js_set (i := 3) sc_turned_plans.nd rfl (by first | exact Or.inl rfl | exact Or.inr rfl) (je_op ow_shl (jv 0) (jv 1))) (jss_one (js_ret (je_op ow_and (je_op ow_or (jv 3) (je_op ow_shr (jv 3) (jv 2))) (je_op ow_sub (je_op ow_shl je_int (jv 2)) je_int))))), fun ws G Q Ex h => w_turned_plans ws G Q Ex h⟩
theorem ok_Plan_init (F : Fun P.K "__init__" "Plan.__init__" s_Plan_init f fd) (m_names : ∀ c ∈ [13], MethOk P prog w mg base 52 1 c (mt_names c)) (c_turned_plans : CallOk P prog w mg base "turned" 1 sp_turned_plans) : FnW P prog w mg base 2 f fd ["self", "crossing", "size", "rows"] sp_Plan_init :=
  Fun.okW F sc_Plan_init len_Plan_init fun cdv A outer s H E hr => ⟨bd_Plan_init, by
    exact (jss_cons (js_fld 14 (by exact fe_crossing) rfl (jv 0) (jv 1)) (jss_cons (js_fld 15 (by exact fe_size) rfl (jv 0) (jv 2)) (jss_cons (js_fld 16 (by exact fe_rows) rfl (jv 0) (je_lcI (x := "row") (j := 5) rfl sc_Plan_init.nd (ji_iter rfl (jv 3)) (blkOk_by (by show blkC ["self", "crossing", "size", "rows", "name", "row"] (defScope s_Plan_init) _ [("row", 5)] = true; decide +kernel)) (fun _ _ _ _ _ => pg_name (i := 5) sc_Plan_init.nd rfl (by first | exact Or.inl rfl | exact Or.inr rfl)) (fun _ _ _ _ _ => (by exact jts_nil : JTs _ _ _ lc_Plan_init_1_t)) (fun _ _ _ _ _ => (by exact (je_tup (ja_cons (je_ix (iw_seq rfl) (jv 5) je_int) (ja_cons (je_ix (iw_seq rfl) (jv 5) je_int) (ja_cons (je_ix (iw_seq rfl) (jv 5) je_int) ja_nil)))) : JE _ _ _ lc_Plan_init_1_e)))) (jss_cons (js_fld 17 (by exact fe_bits) rfl (jv 0) je_dnew) (jss_cons (js_for (passesW rfl) rfl (ji_iter rfl (je_view (je_meth0 (t := 52) (by exact fe_names) m_names (hr.mono (by decide)) (jv 1)))) (jg_name (i := 4) sc_Plan_init.nd rfl (by first | exact Or.inl rfl | exact Or.inr rfl)) (by exact (jss_one (js_dput (hu_of hr) (je_fld 17 (by exact fe_bits) rfl (jv 0)) (jv 4) je_int)) : JSs _ _ _ bd_Plan_init_2)) (jss_one (js_for (passesW rfl) rfl (ji_iter rfl (je_fld 16 (by exact fe_rows) rfl (jv 0))) (jg_name (i := 5) sc_Plan_init.nd rfl (by first | exact Or.inl rfl | exact Or.inr rfl)) (by exact (jss_one (js_dput (hu_of hr) (je_fld 17 (by exact fe_bits) rfl (jv 0)) (je_ix (iw_seq rfl) (jv 5) je_int) (je_op ow_or (je_dget (hu_of hr) (je_fld 17 (by exact fe_bits) rfl (jv 0)) (je_ix (iw_seq rfl) (jv 5) je_int)) (je_callC c_turned_plans (hr.mono (by decide)) (by rfl) (ja_cons (je_op ow_sub (je_op ow_shl je_int (je_ix (iw_seq rfl) (jv 5) je_int)) je_int) (ja_cons (je_ix (iw_seq rfl) (jv 5) je_int) (ja_cons (jv 2) ja_nil))))))) : JSs _ _ _ bd_Plan_init_3)))))))), fun ws G Q Ex h => w_Plan_init ws G Q Ex h⟩
theorem ok_Plan_bits_of (F : Fun P.K "bits_of" "Plan.bits_of" s_Plan_bits_of f fd) (m_called : ∀ c ∈ [13], MethOk P prog w mg base 54 4 c (mt_called c)) : FnW P prog w mg base 5 f fd ["self", "name"] sp_Plan_bits_of :=
  Fun.okW F sc_Plan_bits_of len_Plan_bits_of fun cdv A outer s H E hr => ⟨bd_Plan_bits_of, by
    exact (jss_one (js_ret (je_dget (hu_of hr) (je_fld 17 (by exact fe_bits) rfl (jv 0)) (je_fld 0 (by exact fe_name) rfl (je_meth (t := 54) (by exact fe_called) m_called (hr.mono (by decide)) (je_fld 14 (by exact fe_crossing) rfl (jv 0)) (ja_cons (jv 1) ja_nil)))))), fun ws G Q Ex h => w_Plan_bits_of ws G Q Ex h⟩
theorem ok_Plan_told_rows (F : Fun P.K "told_rows" "Plan.told_rows" s_Plan_told_rows f fd) (b_list : mg "list" = none) : FnW P prog w mg base 1 f fd ["self"] sp_Plan_told_rows :=
  Fun.okW F sc_Plan_told_rows len_Plan_told_rows fun cdv A outer s H E hr => ⟨bd_Plan_told_rows, by
    exact (jss_one (js_ret (je_callTy (cw_listI rfl) (by rfl) b_list boot_list (ja_cons (je_fld 16 (by exact fe_rows) rfl (jv 0)) ja_nil)))), fun ws G Q Ex h => w_Plan_told_rows ws G Q Ex h⟩
theorem ok_room (F : Fun P.K "room" "room" s_room f fd) (m_told_rows_14 : ∀ c ∈ [14], MethOk P prog w mg base 56 1 c (mt_told_rows_14 c)) (b_enumerate : mg "enumerate" = none) (b_min : mg "min" = none) : FnW P prog w mg base 2 f fd ["plan", "at"] sp_room :=
  Fun.okW F sc_room len_room fun cdv A outer s H E hr => ⟨bd_room, by
    exact (jss_cons (js_set (i := 2) sc_room.nd rfl (by first | exact Or.inl rfl | exact Or.inr rfl) (je_meth0 (t := 56) (by exact fe_told_rows) m_told_rows_14 (hr.mono (by decide)) (jv 0))) (jss_cons (js_set (i := 3) sc_room.nd rfl (by first | exact Or.inl rfl | exact Or.inr rfl) (je_fld 15 (by exact fe_size) rfl (jv 0))) (jss_cons (js_for (passesW rfl) rfl (ji_enum rfl (by rfl) b_enumerate (ja_cons (jv 2) ja_nil)) (jg_tup rfl rfl (jgs_cons (jg_name (i := 4) sc_room.nd rfl (by first | exact Or.inl rfl | exact Or.inr rfl)) (jgs_cons (jg_name (i := 5) sc_room.nd rfl (by first | exact Or.inl rfl | exact Or.inr rfl)) jgs_nil))) (by exact (jss_one (js_if (JW.pt (jw_and (jt_cmp (ow_ne rfl hr.units) (jv 4) (jv 1)) (jw_and1 (jt_cmp (ow_eq rfl hr.units) (je_ix (iw_seq rfl) (jv 5) je_int) (je_ix (iw_seq rfl) (je_ix (iw_seq rfl) (jv 2) (jv 1)) je_int))))) (by exact (jss_one (js_set (i := 3) sc_room.nd rfl (by first | exact Or.inl rfl | exact Or.inr rfl) (je_callB (cw_min2 rfl) (by rfl) b_min boot_min (ja_cons (jv 3) (ja_cons (je_op ow_mod (je_op ow_sub (je_ix (iw_seq rfl) (jv 5) je_int) (je_ix (iw_seq rfl) (je_ix (iw_seq rfl) (jv 2) (jv 1)) je_int)) (je_fld 15 (by exact fe_size) rfl (jv 0))) ja_nil))))) : JSs _ _ _ bd_room_2) jss_nil)) : JSs _ _ _ bd_room_1)) (jss_one (js_ret (jv 3)))))), fun ws G Q Ex h => w_room ws G Q Ex h⟩
theorem ok_look_at_spans (F : Fun P.K "look_at_spans" "look_at_spans" s_look_at_spans f fd) (m_told_rows_14 : ∀ c ∈ [14], MethOk P prog w mg base 56 1 c (mt_told_rows_14 c)) (m_names : ∀ c ∈ [13], MethOk P prog w mg base 52 1 c (mt_names c)) (m_bits_of_14 : ∀ c ∈ [14], MethOk P prog w mg base 55 5 c (mt_bits_of_14 c)) (x_Never : RaiseOk P prog w mg base "Never" 3 1 [11]) (b_enumerate : mg "enumerate" = none) (m_called : ∀ c ∈ [13], MethOk P prog w mg base 54 4 c (mt_called c)) (c_room : CallOk P prog w mg base "room" 2 sp_room) (m_fade : ∀ c ∈ [10, 11, 12], MethOk P prog w mg base 49 1 c (mt_fade c)) (m_ready : ∀ c ∈ [10, 11, 12], MethOk P prog w mg base 48 1 c (mt_ready c)) (x_Short : RaiseOk P prog w mg base "Short" 4 1 [11, 12]) : FnW P prog w mg base 6 f fd ["plan"] sp_look_at_spans :=
  Fun.okW F sc_look_at_spans len_look_at_spans fun cdv A outer s H E hr => ⟨bd_look_at_spans, by
    exact (jss_cons (js_set (i := 1) sc_look_at_spans.nd rfl (by first | exact Or.inl rfl | exact Or.inr rfl) (je_meth0 (t := 56) (by exact fe_told_rows) m_told_rows_14 (hr.mono (by decide)) (jv 0))) (jss_cons (js_for (passesW rfl) rfl (ji_iter rfl (je_view (je_meth0 (t := 52) (by exact fe_names) m_names (hr.mono (by decide)) (je_fld 14 (by exact fe_crossing) rfl (jv 0))))) (jg_name (i := 2) sc_look_at_spans.nd rfl (by first | exact Or.inl rfl | exact Or.inr rfl)) (by exact (jss_one (js_if (jt_cmp (ow_eq rfl hr.units) (je_meth (t := 55) (by exact fe_bits_of) m_bits_of_14 (hr.mono (by decide)) (jv 0) (ja_cons (jv 2) ja_nil)) je_int) (by exact (jss_one (js_raise x_Never (hr.mono (by decide)) rfl (by rfl) (ja_cons (jv 2) ja_nil))) : JSs _ _ _ bd_look_at_spans_2) jss_nil)) : JSs _ _ _ bd_look_at_spans_1)) (jss_one (js_for (passesW rfl) rfl (ji_enum rfl (by rfl) b_enumerate (ja_cons (jv 1) ja_nil)) (jg_tup rfl rfl (jgs_cons (jg_name (i := 3) sc_look_at_spans.nd rfl (by first | exact Or.inl rfl | exact Or.inr rfl)) (jgs_cons (jg_name (i := 4) sc_look_at_spans.nd rfl (by first | exact Or.inl rfl | exact Or.inr rfl)) jgs_nil))) (by exact (jss_cons (js_set (i := 5) sc_look_at_spans.nd rfl (by first | exact Or.inl rfl | exact Or.inr rfl) (je_meth (t := 54) (by exact fe_called) m_called (hr.mono (by decide)) (je_fld 14 (by exact fe_crossing) rfl (jv 0)) (ja_cons (je_ix (iw_seq rfl) (jv 4) je_int) ja_nil))) (jss_one (js_if (JW.pt (jw_or (jt_cmp ow_lt (je_ix (iw_seq rfl) (jv 4) je_int) (je_fld 5 (by exact fe_least) rfl (jv 5))) (jw_or1 (jt_cmp ow_lt (je_callC c_room (hr.mono (by decide)) (by rfl) (ja_cons (jv 0) (ja_cons (jv 3) ja_nil))) (je_op (ow_add rfl) (je_op (ow_add rfl) (je_ix (iw_seq rfl) (jv 4) je_int) (je_meth0 (t := 49) (by exact fe_fade) m_fade (hr.mono (by decide)) (jv 5))) (je_meth0 (t := 48) (by exact fe_ready) m_ready (hr.mono (by decide)) (jv 5))))))) (by exact (jss_one (js_raise x_Short (hr.mono (by decide)) rfl (by rfl) (ja_cons (je_ix (iw_seq rfl) (jv 4) je_int) (ja_cons (je_ix (iw_seq rfl) (jv 4) je_int) ja_nil)))) : JSs _ _ _ bd_look_at_spans_4) jss_nil))) : JSs _ _ _ bd_look_at_spans_3))))), fun ws G Q Ex h => w_look_at_spans ws G Q Ex h⟩
theorem ok_too_near (F : Fun P.K "too_near" "too_near" s_too_near f fd) (m_bits_of_14 : ∀ c ∈ [14], MethOk P prog w mg base 55 5 c (mt_bits_of_14 c)) (b_range : mg "range" = none) (b_min : mg "min" = none) (c_gap : CallOk P prog w mg base "gap" 5 sp_gap) (c_turned_plans : CallOk P prog w mg base "turned" 1 sp_turned_plans) : FnW P prog w mg base 6 f fd ["plan", "one", "other"] sp_too_near :=
  Fun.okW F sc_too_near len_too_near fun cdv A outer s H E hr => ⟨bd_too_near, by
    exact (jss_cons (js_set (i := 3) sc_too_near.nd rfl (by first | exact Or.inl rfl | exact Or.inr rfl) (je_meth (t := 55) (by exact fe_bits_of) m_bits_of_14 (hr.mono (by decide)) (jv 0) (ja_cons (jv 1) ja_nil))) (jss_cons (js_set (i := 4) sc_too_near.nd rfl (by first | exact Or.inl rfl | exact Or.inr rfl) (jv 3)) (jss_cons (js_for (passesW rfl) rfl (ji_range1 (by rfl) b_range (ja_cons (je_callB (cw_min2 rfl) (by rfl) b_min boot_min (ja_cons (je_callC c_gap (hr.mono (by decide)) (by rfl) (ja_cons (je_fld 14 (by exact fe_crossing) rfl (jv 0)) (ja_cons (jv 1) (ja_cons (jv 2) ja_nil)))) (ja_cons (je_fld 15 (by exact fe_size) rfl (jv 0)) ja_nil))) ja_nil)) (jg_name (i := 5) sc_too_near.nd rfl (by first | exact Or.inl rfl | exact Or.inr rfl)) (by exact (jss_cons (js_set (i := 3) sc_too_near.nd rfl (by first | exact Or.inl rfl | exact Or.inr rfl) (je_callC c_turned_plans (hr.mono (by decide)) (by rfl) (ja_cons (jv 3) (ja_cons je_int (ja_cons (je_fld 15 (by exact fe_size) rfl (jv 0)) ja_nil))))) (jss_one (js_set (i := 4) sc_too_near.nd rfl (by first | exact Or.inl rfl | exact Or.inr rfl) (je_op ow_or (jv 4) (jv 3))))) : JSs _ _ _ bd_too_near_1)) (jss_one (js_ret (je_op ow_and (jv 4) (je_meth (t := 55) (by exact fe_bits_of) m_bits_of_14 (hr.mono (by decide)) (jv 0) (ja_cons (jv 2) ja_nil)))))))), fun ws G Q Ex h => w_too_near ws G Q Ex h⟩
theorem ok_look_at_pairs (F : Fun P.K "look_at_pairs" "look_at_pairs" s_look_at_pairs f fd) (m_names : ∀ c ∈ [13], MethOk P prog w mg base 52 1 c (mt_names c)) (c_meet : CallOk P prog w mg base "meet" 5 sp_meet) (c_too_near : CallOk P prog w mg base "too_near" 6 sp_too_near) (x_Clash : RaiseOk P prog w mg base "Clash" 5 1 [11, 13, 12]) : FnW P prog w mg base 7 f fd ["plan"] sp_look_at_pairs :=
  Fun.okW F sc_look_at_pairs len_look_at_pairs fun cdv A outer s H E hr => ⟨bd_look_at_pairs, by
    exact (jss_one (js_for (passesW rfl) rfl (ji_iter rfl (je_view (je_meth0 (t := 52) (by exact fe_names) m_names (hr.mono (by decide)) (je_fld 14 (by exact fe_crossing) rfl (jv 0))))) (jg_name (i := 1) sc_look_at_pairs.nd rfl (by first | exact Or.inl rfl | exact Or.inr rfl)) (by exact (jss_one (js_for (passesW rfl) rfl (ji_iter rfl (je_view (je_meth0 (t := 52) (by exact fe_names) m_names (hr.mono (by decide)) (je_fld 14 (by exact fe_crossing) rfl (jv 0))))) (jg_name (i := 2) sc_look_at_pairs.nd rfl (by first | exact Or.inl rfl | exact Or.inr rfl)) (by exact (jss_one (js_if (JW.pt (jw_and (jt_cmp (ow_ne rfl hr.units) (jv 1) (jv 2)) (jw_and1 (jt_val (je_callC c_meet (hr.mono (by decide)) (by rfl) (ja_cons (je_fld 14 (by exact fe_crossing) rfl (jv 0)) (ja_cons (jv 1) (ja_cons (jv 2) ja_nil)))))))) (by exact (jss_cons (js_set (i := 3) sc_look_at_pairs.nd rfl (by first | exact Or.inl rfl | exact Or.inr rfl) (je_callC c_too_near (hr.mono (by decide)) (by rfl) (ja_cons (jv 0) (ja_cons (jv 1) (ja_cons (jv 2) ja_nil))))) (jss_one (js_if (jt_cmp (ow_ne rfl hr.units) (jv 3) je_int) (by exact (jss_one (js_raise x_Clash (hr.mono (by decide)) rfl (by rfl) (ja_cons (jv 1) (ja_cons (jv 2) (ja_cons (je_op ow_sub (je_bits (je_op ow_and (jv 3) (je_un uw_neg (jv 3)))) je_int) ja_nil))))) : JSs _ _ _ bd_look_at_pairs_4) jss_nil))) : JSs _ _ _ bd_look_at_pairs_3) jss_nil)) : JSs _ _ _ bd_look_at_pairs_2))) : JSs _ _ _ bd_look_at_pairs_1))), fun ws G Q Ex h => w_look_at_pairs ws G Q Ex h⟩
theorem ok_made_plan (F : Fun P.K "made_plan" "made_plan" s_made_plan f fd) (k_Plan : MakeOk P prog w mg base "Plan" 14 2 sp_Plan_init) (c_look_at_spans : CallOk P prog w mg base "look_at_spans" 6 sp_look_at_spans) (c_look_at_pairs : CallOk P prog w mg base "look_at_pairs" 7 sp_look_at_pairs) : FnW P prog w mg base 8 f fd ["crossing", "size", "rows"] sp_made_plan :=
  Fun.okW F sc_made_plan len_made_plan fun cdv A outer s H E hr => ⟨bd_made_plan, by
    exact (jss_cons (js_set (i := 3) sc_made_plan.nd rfl (by first | exact Or.inl rfl | exact Or.inr rfl) (je_view (je_make k_Plan (hr.mono (by decide)) (by rfl) (ja_cons (jv 0) (ja_cons (jv 1) (ja_cons (jv 2) ja_nil)))))) (jss_cons (js_expr (je_callC c_look_at_spans (hr.mono (by decide)) (by rfl) (ja_cons (jv 3) ja_nil))) (jss_cons (js_expr (je_callC c_look_at_pairs (hr.mono (by decide)) (by rfl) (ja_cons (jv 3) ja_nil))) (jss_one (js_ret (jv 3)))))), fun ws G Q Ex h => w_made_plan ws G Q Ex h⟩
theorem ok_l_draw (F : Fun P.K "_law_draw" "_law_draw" s_l_draw f fd) (b_len : mg "len" = none) : FnW P prog w mg base 1 f fd ["_law_script", "_law_k", "_law_many"] sp_l_draw :=
  Fun.okW F sc_l_draw len_l_draw fun cdv A outer s H E hr => ⟨bd_l_draw, by
    exact (jss_cons (js_set (i := 3) sc_l_draw.nd rfl (by first | exact Or.inl rfl | exact Or.inr rfl) (je_ifExp (jt_cmp ow_gt (je_callB (cw_len rfl) (by rfl) b_len boot_len (ja_cons (jv 0) ja_nil)) je_int) (je_ix (iw_seq rfl) (jv 0) (je_op ow_mod (jv 1) (je_callB (cw_len rfl) (by rfl) b_len boot_len (ja_cons (jv 0) ja_nil)))) je_int)) (jss_cons (js_set (i := 4) sc_l_draw.nd rfl (by first | exact Or.inl rfl | exact Or.inr rfl) (je_op (ow_add rfl) (je_op (ow_add rfl) (je_op ow_mod (jv 3) je_int) (je_op ow_mul (je_op ow_mul je_int (jv 1)) (jv 1))) je_int)) (jss_one (js_ret (je_op ow_mod (je_op ow_mod (je_op ow_mul (je_op ow_mod (je_op ow_mul (jv 4) je_int) je_int) je_int) je_int) (jv 2)))))), fun ws G Q Ex h => w_l_draw ws G Q Ex h⟩
theorem ok_l_text (F : Fun P.K "_law_text" "_law_text" s_l_text f fd) (b_str : mg "str" = none) : FnW P prog w mg base 1 f fd ["_law_places", "_law_ways"] sp_l_text :=
  Fun.okW F sc_l_text len_l_text fun cdv A outer s H E hr => ⟨bd_l_text, by
    exact (jss_cons (js_set (i := 2) sc_l_text.nd rfl (by first | exact Or.inl rfl | exact Or.inr rfl) (je_lstM (ja_cons (je_op (ow_add rfl) (je_str [114, 105, 110, 103, 32]) (je_callTy cw_str (by rfl) b_str boot_str (ja_cons (jv 0) ja_nil))) ja_nil))) (jss_cons (js_for (passesW rfl) rfl (ji_iter rfl (jv 1)) (jg_name (i := 3) sc_l_text.nd rfl (by first | exact Or.inl rfl | exact Or.inr rfl)) (by exact (jss_one (js_expr (je_bm (k := .list) rfl PySem.F.plainAttrs_list PySem.F.slot_list_append PySem.F.type_list_append mw_append (jv 2) (ja_cons (je_op (ow_add rfl) (je_op (ow_add rfl) (je_op (ow_add rfl) (je_op (ow_add rfl) (je_ix (iw_seq rfl) (jv 3) je_int) (je_str [32])) (je_ix (iw_seq rfl) (jv 3) je_int)) (je_str [32])) (je_bm (k := .str) rfl PySem.F.plainAttrs_str PySem.F.slot_str_join PySem.F.type_str_join (mw_sjoin rfl) (je_str [32]) (ja_cons (je_lcI (x := "_law_number") (j := 4) rfl sc_l_text.nd (ji_iter rfl (je_slice (sw_seq rfl) (jv 3) (jo_some je_int) jo_none)) (blkOk_by (by show blkC ["_law_places", "_law_ways", "_law_rows", "_law_way_here", "_law_number"] (defScope s_l_text) _ [("_law_number", 4)] = true; decide +kernel)) (fun _ _ _ _ _ => pg_name (i := 4) sc_l_text.nd rfl (by first | exact Or.inl rfl | exact Or.inr rfl)) (fun _ _ _ _ _ => (by exact jts_nil : JTs _ _ _ lc_l_text_2_t)) (fun _ _ _ _ _ => (by exact (je_callTy cw_str (by rfl) b_str boot_str (ja_cons (jv 4) ja_nil)) : JE _ _ _ lc_l_text_2_e))) ja_nil))) ja_nil)))) : JSs _ _ _ bd_l_text_1)) (jss_one (js_ret (je_view (je_bm (k := .str) rfl PySem.F.plainAttrs_str PySem.F.slot_str_join PySem.F.type_str_join (mw_sjoin rfl) (je_str [10]) (ja_cons (jv 2) ja_nil))))))), fun ws G Q Ex h => w_l_text ws G Q Ex h⟩
theorem ok_l_spans (F : Fun P.K "_law_spans" "_law_spans" s_l_spans f fd) (b_max : mg "max" = none) (b_min : mg "min" = none) (c_l_draw : CallOk P prog w mg base "_law_draw" 1 sp_l_draw) (b_range : mg "range" = none) : FnW P prog w mg base 2 f fd ["_law_script", "_law_way_here", "_law_size"] sp_l_spans :=
  Fun.okW F sc_l_spans len_l_spans fun cdv A outer s H E hr => ⟨bd_l_spans, by
    exact (jss_cons (js_set (i := 3) sc_l_spans.nd rfl (by first | exact Or.inl rfl | exact Or.inr rfl) (je_dget (hu_of hr) (je_view (je_disp (jps_cons (je_str tCAR) je_int (jps_cons (je_str tFOOT) (je_ix (iw_seq rfl) (jv 1) je_int) (jps_cons (je_str tTRAM) je_int jps_nil))))) (je_ix (iw_seq rfl) (jv 1) je_int))) (jss_cons (js_set (i := 4) sc_l_spans.nd rfl (by first | exact Or.inl rfl | exact Or.inr rfl) (je_callB (cw_max2 rfl) (by rfl) b_max boot_max (ja_cons je_int (ja_cons (je_callB (cw_min2 rfl) (by rfl) b_min boot_min (ja_cons (je_op (ow_add rfl) je_int (je_callC c_l_draw (hr.mono (by decide)) (by rfl) (ja_cons (jv 0) (ja_cons je_int (ja_cons je_int ja_nil))))) (ja_cons (je_op ow_div (jv 2) (je_op (ow_add rfl) (jv 3) (je_ix (iw_seq rfl) (jv 1) je_int))) ja_nil))) ja_nil)))) (jss_cons (js_set (i := 5) sc_l_spans.nd rfl (by first | exact Or.inl rfl | exact Or.inr rfl) (je_callC c_l_draw (hr.mono (by decide)) (by rfl) (ja_cons (jv 0) (ja_cons je_int (ja_cons (jv 2) ja_nil))))) (jss_cons (js_set (i := 6) sc_l_spans.nd rfl (by first | exact Or.inl rfl | exact Or.inr rfl) (je_op ow_div (jv 2) (jv 4))) (jss_cons (js_set (i := 7) sc_l_spans.nd rfl (by first | exact Or.inl rfl | exact Or.inr rfl) (je_lstM ja_nil)) (jss_cons (js_for (passesW rfl) rfl (ji_range1 (by rfl) b_range (ja_cons (jv 4) ja_nil)) (jg_name (i := 8) sc_l_spans.nd rfl (by first | exact Or.inl rfl | exact Or.inr rfl)) (by exact (jss_cons (js_set (i := 9) sc_l_spans.nd rfl (by first | exact Or.inl rfl | exact Or.inr rfl) (je_op ow_sub (jv 6) (jv 3))) (jss_cons (js_set (i := 10) sc_l_spans.nd rfl (by first | exact Or.inl rfl | exact Or.inr rfl) (je_op (ow_add rfl) (je_ix (iw_seq rfl) (jv 1) je_int) (je_callC c_l_draw (hr.mono (by decide)) (by rfl) (ja_cons (jv 0) (ja_cons (je_op (ow_add rfl) je_int (jv 8)) (ja_cons (je_op (ow_add rfl) (je_op ow_sub (jv 9) (je_ix (iw_seq rfl) (jv 1) je_int)) je_int) ja_nil)))))) (jss_one (js_expr (je_bm (k := .list) rfl PySem.F.plainAttrs_list PySem.F.slot_list_append PySem.F.type_list_append mw_append (jv 7) (ja_cons (je_tup (ja_cons (je_op ow_mod (je_op (ow_add rfl) (je_op (ow_add rfl) (jv 5) (je_op ow_mul (jv 8) (jv 6))) (je_callC c_l_draw (hr.mono (by decide)) (by rfl) (ja_cons (jv 0) (ja_cons (je_op (ow_add rfl) je_int (jv 8)) (ja_cons (je_op (ow_add rfl) (je_op ow_sub (jv 9) (jv 10)) je_int) ja_nil))))) (jv 2)) (ja_cons (jv 10) ja_nil))) ja_nil)))))) : JSs _ _ _ bd_l_spans_1)) (jss_one (js_ret (jv 7))))))))), fun ws G Q Ex h => w_l_spans ws G Q Ex h⟩
theorem ok_l_way (F : Fun P.K "_law_way" "_law_way" s_l_way f fd) (c_l_draw : CallOk P prog w mg base "_law_draw" 1 sp_l_draw) : FnW P prog w mg base 2 f fd ["_law_script"] sp_l_way :=
  Fun.okW F sc_l_way len_l_way fun cdv A outer s H E hr => ⟨bd_l_way, by
    exact (jss_cons (js_set (i := 1) sc_l_way.nd rfl (by first | exact Or.inl rfl | exact Or.inr rfl) (je_ix (iw_seq rfl) (je_lstI (ja_cons (je_str tCAR) (ja_cons (je_str tFOOT) (ja_cons (je_str tTRAM) ja_nil)))) (je_callC c_l_draw (hr.mono (by decide)) (by rfl) (ja_cons (jv 0) (ja_cons je_int (ja_cons je_int ja_nil)))))) (jss_one (js_ret (je_tup (ja_cons (jv 1) (ja_cons (je_ix (iw_seq rfl) (je_str [97, 98]) (je_callC c_l_draw (hr.mono (by decide)) (by rfl) (ja_cons (jv 0) (ja_cons je_int (ja_cons je_int ja_nil))))) (ja_cons je_int (ja_cons (je_op (ow_add rfl) je_int (je_callC c_l_draw (hr.mono (by decide)) (by rfl) (ja_cons (jv 0) (ja_cons je_int (ja_cons je_int ja_nil))))) (ja_cons (je_callC c_l_draw (hr.mono (by decide)) (by rfl) (ja_cons (jv 0) (ja_cons je_int (ja_cons je_int ja_nil)))) (ja_cons je_int (ja_cons je_int ja_nil))))))))))), fun ws G Q Ex h => w_l_way ws G Q Ex h⟩
theorem ok_l_plan (F : Fun P.K "_law_plan" "_law_plan" s_l_plan f fd) (c_l_spans : CallOk P prog w mg base "_law_spans" 2 sp_l_spans) (c_l_draw : CallOk P prog w mg base "_law_draw" 1 sp_l_draw) (b_len : mg "len" = none) (c_made_plan : CallOk P prog w mg base "made_plan" 8 sp_made_plan) (c_read_crossing : CallOk P prog w mg base "read_crossing" 6 sp_read_crossing) (c_l_text : CallOk P prog w mg base "_law_text" 1 sp_l_text) : FnW P prog w mg base 9 f fd ["_law_script", "_law_way_here", "_law_size"] sp_l_plan :=
  Fun.okW F sc_l_plan len_l_plan fun cdv A outer s H E hr => ⟨bd_l_plan, by
    exact (jss_cons (js_set (i := 3) sc_l_plan.nd rfl (by first | exact Or.inl rfl | exact Or.inr rfl) (je_tup (ja_cons (je_str tCAR) (ja_cons (je_str [99]) (ja_cons je_int (ja_cons je_int (ja_cons je_int (ja_cons je_int (ja_cons je_int ja_nil))))))))) (jss_cons (js_setLcM (i := 4) (y := "_law_rows") rfl (sw_true rfl rfl rfl (by decide +kernel)) (x := "_law_span") (j := 6) rfl sc_l_plan.nd (ji_iter rfl (je_callC c_l_spans (hr.mono (by decide)) (by rfl) (ja_cons (jv 0) (ja_cons (jv 1) (ja_cons (jv 2) ja_nil))))) (blkOk_by (by show blkC ["_law_script", "_law_way_here", "_law_size", "_law_other", "_law_rows", "_law_names", "_law_span"] (defScope s_l_plan) _ [("_law_span", 6)] = true; decide +kernel)) (fun _ _ _ _ _ => pg_name (i := 6) sc_l_plan.nd rfl (by first | exact Or.inl rfl | exact Or.inr rfl)) (fun _ _ _ _ _ => (by exact jts_nil : JTs _ _ _ lc_l_plan_1_t)) (fun _ _ _ _ _ => (by exact (je_tup (ja_cons (je_ix (iw_seq rfl) (jv 1) je_int) (ja_cons (je_ix (iw_seq rfl) (jv 6) je_int) (ja_cons (je_ix (iw_seq rfl) (jv 6) je_int) ja_nil)))) : JE _ _ _ lc_l_plan_1_e))) (jss_cons (js_expr (je_bm (k := .list) rfl PySem.F.plainAttrs_list PySem.F.slot_list_insert PySem.F.type_list_insert mw_insert (jv 4) (ja_cons (je_callC c_l_draw (hr.mono (by decide)) (by rfl) (ja_cons (jv 0) (ja_cons je_int (ja_cons (je_op (ow_add rfl) (je_callB (cw_len rfl) (by rfl) b_len boot_len (ja_cons (jv 4) ja_nil)) je_int) ja_nil)))) (ja_cons (je_tup (ja_cons (je_str [99]) (ja_cons je_int (ja_cons je_int ja_nil)))) ja_nil)))) (jss_cons (js_set (i := 5) sc_l_plan.nd rfl (by first | exact Or.inl rfl | exact Or.inr rfl) (je_lstI (ja_cons (jv 1) (ja_cons (jv 3) ja_nil)))) (jss_cons (js_if (jt_cmp (ow_eq rfl hr.units) (je_callC c_l_draw (hr.mono (by decide)) (by rfl) (ja_cons (jv 0) (ja_cons je_int (ja_cons je_int ja_nil)))) je_int) (by exact (jss_one (js_set (i := 5) sc_l_plan.nd rfl (by first | exact Or.inl rfl | exact Or.inr rfl) (je_lstI (ja_cons (jv 3) (ja_cons (jv 1) ja_nil))))) : JSs _ _ _ bd_l_plan_2) jss_nil) (jss_one (js_ret (je_callC c_made_plan (hr.mono (by decide)) (by rfl) (ja_cons (je_callC c_read_crossing (hr.mono (by decide)) (by rfl) (ja_cons (je_callC c_l_text (hr.mono (by decide)) (by rfl) (ja_cons je_int (ja_cons (jv 5) ja_nil))) ja_nil)) (ja_cons (jv 2) (ja_cons (jv 4) ja_nil))))))))))), fun ws G Q Ex h => w_l_plan ws G Q Ex h⟩
theorem ok_l_free (F : Fun P.K "_law_free" "_law_free" s_l_free f fd) (c_l_spans : CallOk P prog w mg base "_law_spans" 2 sp_l_spans) : FnW P prog w mg base 3 f fd ["_law_script", "_law_way_here", "_law_size", "_law_turn"] sp_l_free :=
  Fun.okW F sc_l_free len_l_free fun cdv A outer s H E hr => ⟨bd_l_free, by
    exact (jss_cons (js_for (passesW rfl) rfl (ji_iter rfl (je_callC c_l_spans (hr.mono (by decide)) (by rfl) (ja_cons (jv 0) (ja_cons (jv 1) (ja_cons (jv 2) ja_nil))))) (jg_tup rfl rfl (jgs_cons (jg_name (i := 4) sc_l_free.nd rfl (by first | exact Or.inl rfl | exact Or.inr rfl)) (jgs_cons (jg_name (i := 5) sc_l_free.nd rfl (by first | exact Or.inl rfl | exact Or.inr rfl)) jgs_nil))) (by exact (jss_one (js_if (jt_cmp ow_lt (je_op ow_mod (je_op ow_sub (jv 3) (jv 4)) (jv 2)) (jv 5)) (by exact (jss_one (js_ret je_bl)) : JSs _ _ _ bd_l_free_2) jss_nil)) : JSs _ _ _ bd_l_free_1)) (jss_one (js_ret je_bl))), fun ws G Q Ex h => w_l_free ws G Q Ex h⟩
theorem ok_l_comings (F : Fun P.K "_law_comings" "_law_comings" s_l_comings f fd) (c_l_draw : CallOk P prog w mg base "_law_draw" 1 sp_l_draw) (b_range : mg "range" = none) (b_len : mg "len" = none) : FnW P prog w mg base 2 f fd ["_law_script", "_law_size"] sp_l_comings :=
  Fun.okW F sc_l_comings len_l_comings fun cdv A outer s H E hr => ⟨bd_l_comings, by
    exact (jss_cons (js_set (i := 2) sc_l_comings.nd rfl (by first | exact Or.inl rfl | exact Or.inr rfl) (je_ix (iw_seq rfl) (je_lstI (ja_cons je_int (ja_cons je_int (ja_cons je_int (ja_cons (je_op (ow_add rfl) (je_op ow_pow je_int je_int) je_int) ja_nil))))) (je_callC c_l_draw (hr.mono (by decide)) (by rfl) (ja_cons (jv 0) (ja_cons je_int (ja_cons je_int ja_nil)))))) (jss_cons (js_set (i := 3) sc_l_comings.nd rfl (by first | exact Or.inl rfl | exact Or.inr rfl) (je_op (ow_add rfl) je_int (je_callC c_l_draw (hr.mono (by decide)) (by rfl) (ja_cons (jv 0) (ja_cons je_int (ja_cons je_int ja_nil)))))) (jss_cons (js_set (i := 4) sc_l_comings.nd rfl (by first | exact Or.inl rfl | exact Or.inr rfl) (je_lstM ja_nil)) (jss_cons (js_for (passesW rfl) rfl (ji_range1 (by rfl) b_range (ja_cons (jv 1) ja_nil)) (jg_name (i := 5) sc_l_comings.nd rfl (by first | exact Or.inl rfl | exact Or.inr rfl)) (by exact (jss_cons (js_set (i := 6) sc_l_comings.nd rfl (by first | exact Or.inl rfl | exact Or.inr rfl) (je_ifExp (jt_cmp ow_gt (je_callB (cw_len rfl) (by rfl) b_len boot_len (ja_cons (jv 0) ja_nil)) je_int) (je_ix (iw_seq rfl) (jv 0) (je_op ow_mod (jv 5) (je_callB (cw_len rfl) (by rfl) b_len boot_len (ja_cons (jv 0) ja_nil)))) je_int)) (jss_cons (js_set (i := 6) sc_l_comings.nd rfl (by first | exact Or.inl rfl | exact Or.inr rfl) (je_op (ow_add rfl) (je_op ow_mul (je_op ow_mod (jv 6) je_int) je_int) (je_op ow_mul (je_op (ow_add rfl) (je_op ow_mul (jv 5) (jv 5)) je_int) je_int))) (jss_cons (js_if (jt_cmp ow_gt (je_callC c_l_draw (hr.mono (by decide)) (by rfl) (ja_cons (jv 0) (ja_cons (je_op (ow_add rfl) je_int (jv 5)) (ja_cons (jv 3) ja_nil)))) je_int) (by exact (jss_one (js_set (i := 6) sc_l_comings.nd rfl (by first | exact Or.inl rfl | exact Or.inr rfl) je_int)) : JSs _ _ _ bd_l_comings_2) jss_nil) (jss_one (js_expr (je_bm (k := .list) rfl PySem.F.plainAttrs_list PySem.F.slot_list_append PySem.F.type_list_append mw_append (jv 4) (ja_cons (je_op ow_mod (jv 6) (jv 2)) ja_nil))))))) : JSs _ _ _ bd_l_comings_1)) (jss_one (js_ret (jv 4))))))), fun ws G Q Ex h => w_l_comings ws G Q Ex h⟩
theorem ok_l_queue (F : Fun P.K "_law_queue" "_law_queue" s_l_queue f fd) (b_list : mg "list" = none) (c_queue : CallOk P prog w mg base "queue" 8 sp_queue) (b_isinstance : mg "isinstance" = none) (b_int : mg "int" = none) (b_bool : mg "bool" = none) : FnW P prog w mg base 9 f fd ["_law_plan_here", "_law_name", "_law_comings_here", "_law_turn"] sp_l_queue :=
  Fun.okW F sc_l_queue len_l_queue fun cdv A outer s H E hr => ⟨bd_l_queue, by
    exact (jss_cons (js_set (i := 4) sc_l_queue.nd rfl (by first | exact Or.inl rfl | exact Or.inr rfl) (je_callTy (cw_listM rfl) (by rfl) b_list boot_list (ja_cons (jv 2) ja_nil))) (jss_cons (js_set (i := 5) sc_l_queue.nd rfl (by first | exact Or.inl rfl | exact Or.inr rfl) (je_callC c_queue (hr.mono (by decide)) (by rfl) (ja_cons (jv 0) (ja_cons (jv 1) (ja_cons (jv 4) (ja_cons (jv 3) ja_nil)))))) (jss_cons (js_if (JW.pt (jw_or (jt_not (jt_val (je_callB (cw_isi rfl) (by rfl) b_isinstance boot_isinstance (ja_cons (jv 5) (ja_cons (je_bltn (v' := .ty "int") (by rfl) b_int boot_int rfl (fun _ _ => .ty _)) ja_nil))))) (jw_or (jt_val (je_callB (cw_isi rfl) (by rfl) b_isinstance boot_isinstance (ja_cons (jv 5) (ja_cons (je_bltn (v' := .ty "bool") (by rfl) b_bool boot_bool rfl (fun _ _ => .ty _)) ja_nil)))) (jw_or1 (jt_cmp (ow_ne rfl hr.units) (jv 4) (jv 2)))))) (by exact (jss_one (js_ret (je_un uw_neg je_int))) : JSs _ _ _ bd_l_queue_1) jss_nil) (jss_cons (js_expr (je_bm0 (k := .list) rfl PySem.F.plainAttrs_list PySem.F.slot_list_clear PySem.F.type_list_clear mw_clear (jv 4))) (jss_one (js_ret (jv 5))))))), fun ws G Q Ex h => w_l_queue ws G Q Ex h⟩
theorem ok_law (F : Fun P.K "law" "law" s_law f fd) (c_l_draw : CallOk P prog w mg base "_law_draw" 1 sp_l_draw) (c_l_way : CallOk P prog w mg base "_law_way" 2 sp_l_way) (c_l_plan : CallOk P prog w mg base "_law_plan" 9 sp_l_plan) (c_l_comings : CallOk P prog w mg base "_law_comings" 2 sp_l_comings) (b_len : mg "len" = none) (c_l_queue : CallOk P prog w mg base "_law_queue" 9 sp_l_queue) (c_l_free : CallOk P prog w mg base "_law_free" 3 sp_l_free) (b_max : mg "max" = none) (b_int : mg "int" = none) : FnW P prog w mg base 10 f fd ["_law_script"] sp_law :=
  Fun.okW F sc_law len_law fun cdv A outer s H E hr => ⟨bd_law, by
    exact (jss_cons (js_set (i := 1) sc_law.nd rfl (by first | exact Or.inl rfl | exact Or.inr rfl) (je_ix (iw_seq rfl) (je_lstI (ja_cons (je_op (ow_add rfl) je_int (je_callC c_l_draw (hr.mono (by decide)) (by rfl) (ja_cons (jv 0) (ja_cons je_int (ja_cons je_int ja_nil))))) (ja_cons (je_op (ow_add rfl) je_int (je_callC c_l_draw (hr.mono (by decide)) (by rfl) (ja_cons (jv 0) (ja_cons je_int (ja_cons je_int ja_nil))))) (ja_cons je_int (ja_cons je_int ja_nil))))) (je_callC c_l_draw (hr.mono (by decide)) (by rfl) (ja_cons (jv 0) (ja_cons je_int (ja_cons je_int ja_nil)))))) (jss_cons (js_set (i := 2) sc_law.nd rfl (by first | exact Or.inl rfl | exact Or.inr rfl) (je_callC c_l_way (hr.mono (by decide)) (by rfl) (ja_cons (jv 0) ja_nil))) (jss_cons (js_set (i := 3) sc_law.nd rfl (by first | exact Or.inl rfl | exact Or.inr rfl) (je_callC c_l_plan (hr.mono (by decide)) (by rfl) (ja_cons (jv 0) (ja_cons (jv 2) (ja_cons (jv 1) ja_nil))))) (jss_cons (js_set (i := 4) sc_law.nd rfl (by first | exact Or.inl rfl | exact Or.inr rfl) (je_view (je_callC c_l_comings (hr.mono (by decide)) (by rfl) (ja_cons (jv 0) (ja_cons (jv 1) ja_nil))))) (jss_cons (js_set (i := 5) sc_law.nd rfl (by first | exact Or.inl rfl | exact Or.inr rfl) je_int) (jss_cons (js_if (jt_cmp ow_gt (je_callB (cw_len rfl) (by rfl) b_len boot_len (ja_cons (jv 0) ja_nil)) je_int) (by exact (jss_one (js_set (i := 5) sc_law.nd rfl (by first | exact Or.inl rfl | exact Or.inr rfl) (je_op ow_mod (je_ix (iw_seq rfl) (jv 0) (je_callC c_l_draw (hr.mono (by decide)) (by rfl) (ja_cons (jv 0) (ja_cons je_int (ja_cons (je_callB (cw_len rfl) (by rfl) b_len boot_len (ja_cons (jv 0) ja_nil)) ja_nil))))) (je_op ow_pow je_int je_int)))) : JSs _ _ _ bd_law_1) jss_nil) (jss_cons (js_set (i := 6) sc_law.nd rfl (by first | exact Or.inl rfl | exact Or.inr rfl) (je_lstI (ja_cons je_int (ja_cons je_int (ja_cons (je_callC c_l_draw (hr.mono (by decide)) (by rfl) (ja_cons (jv 0) (ja_cons je_int (ja_cons (jv 1) ja_nil)))) (ja_cons (je_op ow_sub (jv 1) je_int) (ja_cons (jv 1) (ja_cons (jv 5) (ja_cons (je_op (ow_add rfl) (jv 5) je_int) (ja_cons (je_op (ow_add rfl) (jv 5) (je_callC c_l_draw (hr.mono (by decide)) (by rfl) (ja_cons (jv 0) (ja_cons je_int (ja_cons (jv 1) ja_nil))))) ja_nil)))))))))) (jss_cons (js_if (jt_cmp (ow_ne rfl hr.units) (je_callC c_l_queue (hr.mono (by decide)) (by rfl) (ja_cons (jv 3) (ja_cons (je_ix (iw_seq rfl) (jv 2) je_int) (ja_cons (jv 4) (ja_cons je_int ja_nil))))) je_int) (by exact (jss_one (js_ret je_bl)) : JSs _ _ _ bd_law_2) jss_nil) (jss_cons (js_for (passesW rfl) rfl (ji_iter rfl (jv 6)) (jg_name (i := 7) sc_law.nd rfl (by first | exact Or.inl rfl | exact Or.inr rfl)) (by exact (jss_cons (js_set (i := 8) sc_law.nd rfl (by first | exact Or.inl rfl | exact Or.inr rfl) (je_callC c_l_queue (hr.mono (by decide)) (by rfl) (ja_cons (jv 3) (ja_cons (je_ix (iw_seq rfl) (jv 2) je_int) (ja_cons (jv 4) (ja_cons (jv 7) ja_nil)))))) (jss_cons (js_set (i := 9) sc_law.nd rfl (by first | exact Or.inl rfl | exact Or.inr rfl) (je_op (ow_add rfl) (jv 8) (je_ix (iw_seq rfl) (jv 4) (je_op ow_mod (jv 7) (jv 1))))) (jss_cons (js_if (jt_val (je_callC c_l_free (hr.mono (by decide)) (by rfl) (ja_cons (jv 0) (ja_cons (jv 2) (ja_cons (jv 1) (ja_cons (jv 7) ja_nil)))))) (by exact (jss_one (js_set (i := 9) sc_law.nd rfl (by first | exact Or.inl rfl | exact Or.inr rfl) (je_ix (iw_seq rfl) (je_lstI (ja_cons (je_callB (cw_max2 rfl) (by rfl) b_max boot_max (ja_cons je_int (ja_cons (je_op ow_sub (jv 9) je_int) ja_nil))) (ja_cons je_int ja_nil))) (je_callTy cw_int (by rfl) b_int boot_int (ja_cons (je_cmp (ow_eq rfl hr.units) (je_ix (iw_seq rfl) (jv 2) je_int) (je_str tFOOT)) ja_nil))))) : JSs _ _ _ bd_law_4) jss_nil) (jss_one (js_if (JW.pt (jw_or (jt_cmp ow_lt (jv 8) je_int) (jw_or1 (jt_cmp (ow_ne rfl hr.units) (je_callC c_l_queue (hr.mono (by decide)) (by rfl) (ja_cons (jv 3) (ja_cons (je_ix (iw_seq rfl) (jv 2) je_int) (ja_cons (jv 4) (ja_cons (je_op (ow_add rfl) (jv 7) je_int) ja_nil))))) (jv 9))))) (by exact (jss_one (js_ret je_bl)) : JSs _ _ _ bd_law_5) jss_nil))))) : JSs _ _ _ bd_law_3)) (jss_one (js_ret je_bl))))))))))), fun ws G Q Ex h => w_law ws G Q Ex h⟩
end
/-! ## the end -/
theorem all_mk {l : PySem.W.OpenLaw} {w : World} {K : PySem.W.Frag} {h : Heap} {mg : Str → Option Value} {fa : Addr} (X : K.In h) (G : h.Ns mainGlobals mg) (hfa : mg "law" = some (.ref fa))
    {C_LampError : Addr}
    {C_NoText : Addr}
    {C_NoWay : Addr}
    {C_Never : Addr}
    {C_Short : Addr}
    {C_Clash : Addr}
    {C_Way : Addr}
    {C_CarWay : Addr}
    {C_FootWay : Addr}
    {C_TramWay : Addr}
    {C_Crossing : Addr}
    {C_Plan : Addr}
    {nm_NoText qn_NoText : Str} {N_NoText : Addr} {bs_NoText sub_NoText : List Value} {sn_NoText : List Str} {ab_NoText : Bool} {col_NoText : Option Bool} {dd_NoText : Option Addr} {k0_NoText k1_NoText k2_NoText k3_NoText k5_NoText : Option Value}
    {nm_NoWay qn_NoWay : Str} {N_NoWay : Addr} {bs_NoWay sub_NoWay : List Value} {sn_NoWay : List Str} {ab_NoWay : Bool} {col_NoWay : Option Bool} {dd_NoWay : Option Addr} {k0_NoWay k1_NoWay k2_NoWay k3_NoWay k5_NoWay : Option Value}
    {nm_Never qn_Never : Str} {N_Never : Addr} {bs_Never sub_Never : List Value} {sn_Never : List Str} {ab_Never : Bool} {col_Never : Option Bool} {dd_Never : Option Addr} {k0_Never k1_Never k2_Never k3_Never k5_Never : Option Value}
    {nm_Short qn_Short : Str} {N_Short : Addr} {bs_Short sub_Short : List Value} {sn_Short : List Str} {ab_Short : Bool} {col_Short : Option Bool} {dd_Short : Option Addr} {k0_Short k1_Short k2_Short k3_Short k5_Short : Option Value}
    {nm_Clash qn_Clash : Str} {N_Clash : Addr} {bs_Clash sub_Clash : List Value} {sn_Clash : List Str} {ab_Clash : Bool} {col_Clash : Option Bool} {dd_Clash : Option Addr} {k0_Clash k1_Clash k2_Clash k3_Clash k5_Clash : Option Value}
    {f_free : Addr} {od_free an_free : Option Addr} {sl_free : Array (Option Value)} {oc_free kV_free dc_free pm_free cd_free ct_free : Value}
    {f_coming_by : Addr} {od_coming_by an_coming_by : Option Addr} {sl_coming_by : Array (Option Value)} {oc_coming_by kV_coming_by dc_coming_by pm_coming_by cd_coming_by ct_coming_by : Value}
    {f_stood_behind : Addr} {od_stood_behind an_stood_behind : Option Addr} {sl_stood_behind : Array (Option Value)} {oc_stood_behind kV_stood_behind dc_stood_behind pm_stood_behind cd_stood_behind ct_stood_behind : Value}
    {f_grows : Addr} {od_grows an_grows : Option Addr} {sl_grows : Array (Option Value)} {oc_grows kV_grows dc_grows pm_grows cd_grows ct_grows : Value}
    {f_queue : Addr} {od_queue an_queue : Option Addr} {sl_queue : Array (Option Value)} {oc_queue kV_queue dc_queue pm_queue cd_queue ct_queue : Value}
    {f_Way_init : Addr} {od_Way_init an_Way_init : Option Addr} {sl_Way_init : Array (Option Value)} {oc_Way_init kV_Way_init dc_Way_init pm_Way_init cd_Way_init ct_Way_init : Value}
    {f_Way_ready : Addr} {od_Way_ready an_Way_ready : Option Addr} {sl_Way_ready : Array (Option Value)} {oc_Way_ready kV_Way_ready dc_Way_ready pm_Way_ready cd_Way_ready ct_Way_ready : Value}
    {f_Way_fade : Addr} {od_Way_fade an_Way_fade : Option Addr} {sl_Way_fade : Array (Option Value)} {oc_Way_fade kV_Way_fade dc_Way_fade pm_Way_fade cd_Way_fade ct_Way_fade : Value}
    {f_Way_goes : Addr} {od_Way_goes an_Way_goes : Option Addr} {sl_Way_goes : Array (Option Value)} {oc_Way_goes kV_Way_goes dc_Way_goes pm_Way_goes cd_Way_goes ct_Way_goes : Value}
    {f_CarWay_init : Addr} {od_CarWay_init an_CarWay_init : Option Addr} {sl_CarWay_init : Array (Option Value)} {oc_CarWay_init kV_CarWay_init dc_CarWay_init pm_CarWay_init cd_CarWay_init ct_CarWay_init : Value}
    {f_CarWay_fade : Addr} {od_CarWay_fade an_CarWay_fade : Option Addr} {sl_CarWay_fade : Array (Option Value)} {oc_CarWay_fade kV_CarWay_fade dc_CarWay_fade pm_CarWay_fade cd_CarWay_fade ct_CarWay_fade : Value}
    {f_FootWay_init : Addr} {od_FootWay_init an_FootWay_init : Option Addr} {sl_FootWay_init : Array (Option Value)} {oc_FootWay_init kV_FootWay_init dc_FootWay_init pm_FootWay_init cd_FootWay_init ct_FootWay_init : Value}
    {f_FootWay_ready : Addr} {od_FootWay_ready an_FootWay_ready : Option Addr} {sl_FootWay_ready : Array (Option Value)} {oc_FootWay_ready kV_FootWay_ready dc_FootWay_ready pm_FootWay_ready cd_FootWay_ready ct_FootWay_ready : Value}
    {f_FootWay_fade : Addr} {od_FootWay_fade an_FootWay_fade : Option Addr} {sl_FootWay_fade : Array (Option Value)} {oc_FootWay_fade kV_FootWay_fade dc_FootWay_fade pm_FootWay_fade cd_FootWay_fade ct_FootWay_fade : Value}
    {f_FootWay_goes : Addr} {od_FootWay_goes an_FootWay_goes : Option Addr} {sl_FootWay_goes : Array (Option Value)} {oc_FootWay_goes kV_FootWay_goes dc_FootWay_goes pm_FootWay_goes cd_FootWay_goes ct_FootWay_goes : Value}
    {f_TramWay_init : Addr} {od_TramWay_init an_TramWay_init : Option Addr} {sl_TramWay_init : Array (Option Value)} {oc_TramWay_init kV_TramWay_init dc_TramWay_init pm_TramWay_init cd_TramWay_init ct_TramWay_init : Value}
    {f_TramWay_ready : Addr} {od_TramWay_ready an_TramWay_ready : Option Addr} {sl_TramWay_ready : Array (Option Value)} {oc_TramWay_ready kV_TramWay_ready dc_TramWay_ready pm_TramWay_ready cd_TramWay_ready ct_TramWay_ready : Value}
    {f_words : Addr} {od_words an_words : Option Addr} {sl_words : Array (Option Value)} {oc_words kV_words dc_words pm_words cd_words ct_words : Value}
    {f_figured : Addr} {od_figured an_figured : Option Addr} {sl_figured : Array (Option Value)} {oc_figured kV_figured dc_figured pm_figured cd_figured ct_figured : Value}
    {f_is_name : Addr} {od_is_name an_is_name : Option Addr} {sl_is_name : Array (Option Value)} {oc_is_name kV_is_name dc_is_name pm_is_name cd_is_name ct_is_name : Value}
    {f_Crossing_init : Addr} {od_Crossing_init an_Crossing_init : Option Addr} {sl_Crossing_init : Array (Option Value)} {oc_Crossing_init kV_Crossing_init dc_Crossing_init pm_Crossing_init cd_Crossing_init ct_Crossing_init : Value}
    {f_Crossing_names : Addr} {od_Crossing_names an_Crossing_names : Option Addr} {sl_Crossing_names : Array (Option Value)} {oc_Crossing_names kV_Crossing_names dc_Crossing_names pm_Crossing_names cd_Crossing_names ct_Crossing_names : Value}
    {f_Crossing_number : Addr} {od_Crossing_number an_Crossing_number : Option Addr} {sl_Crossing_number : Array (Option Value)} {oc_Crossing_number kV_Crossing_number dc_Crossing_number pm_Crossing_number cd_Crossing_number ct_Crossing_number : Value}
    {f_Crossing_called : Addr} {od_Crossing_called an_Crossing_called : Option Addr} {sl_Crossing_called : Array (Option Value)} {oc_Crossing_called kV_Crossing_called dc_Crossing_called pm_Crossing_called cd_Crossing_called ct_Crossing_called : Value}
    {f_made_way : Addr} {od_made_way an_made_way : Option Addr} {sl_made_way : Array (Option Value)} {oc_made_way kV_made_way dc_made_way pm_made_way cd_made_way ct_made_way : Value}
    {f_read_head : Addr} {od_read_head an_read_head : Option Addr} {sl_read_head : Array (Option Value)} {oc_read_head kV_read_head dc_read_head pm_read_head cd_read_head ct_read_head : Value}
    {f_read_numbers : Addr} {od_read_numbers an_read_numbers : Option Addr} {sl_read_numbers : Array (Option Value)} {oc_read_numbers kV_read_numbers dc_read_numbers pm_read_numbers cd_read_numbers ct_read_numbers : Value}
    {f_read_way : Addr} {od_read_way an_read_way : Option Addr} {sl_read_way : Array (Option Value)} {oc_read_way kV_read_way dc_read_way pm_read_way cd_read_way ct_read_way : Value}
    {f_read_crossing : Addr} {od_read_crossing an_read_crossing : Option Addr} {sl_read_crossing : Array (Option Value)} {oc_read_crossing kV_read_crossing dc_read_crossing pm_read_crossing cd_read_crossing ct_read_crossing : Value}
    {f_bow : Addr} {od_bow an_bow : Option Addr} {sl_bow : Array (Option Value)} {oc_bow kV_bow dc_bow pm_bow cd_bow ct_bow : Value}
    {f_ways_meet : Addr} {od_ways_meet an_ways_meet : Option Addr} {sl_ways_meet : Array (Option Value)} {oc_ways_meet kV_ways_meet dc_ways_meet pm_ways_meet cd_ways_meet ct_ways_meet : Value}
    {f_meet : Addr} {od_meet an_meet : Option Addr} {sl_meet : Array (Option Value)} {oc_meet kV_meet dc_meet pm_meet cd_meet ct_meet : Value}
    {f_gap : Addr} {od_gap an_gap : Option Addr} {sl_gap : Array (Option Value)} {oc_gap kV_gap dc_gap pm_gap cd_gap ct_gap : Value}
    {f_turned_plans : Addr} {od_turned_plans an_turned_plans : Option Addr} {sl_turned_plans : Array (Option Value)} {oc_turned_plans kV_turned_plans dc_turned_plans pm_turned_plans cd_turned_plans ct_turned_plans : Value}
    {f_Plan_init : Addr} {od_Plan_init an_Plan_init : Option Addr} {sl_Plan_init : Array (Option Value)} {oc_Plan_init kV_Plan_init dc_Plan_init pm_Plan_init cd_Plan_init ct_Plan_init : Value}
    {f_Plan_bits_of : Addr} {od_Plan_bits_of an_Plan_bits_of : Option Addr} {sl_Plan_bits_of : Array (Option Value)} {oc_Plan_bits_of kV_Plan_bits_of dc_Plan_bits_of pm_Plan_bits_of cd_Plan_bits_of ct_Plan_bits_of : Value}
    {f_Plan_told_rows : Addr} {od_Plan_told_rows an_Plan_told_rows : Option Addr} {sl_Plan_told_rows : Array (Option Value)} {oc_Plan_told_rows kV_Plan_told_rows dc_Plan_told_rows pm_Plan_told_rows cd_Plan_told_rows ct_Plan_told_rows : Value}
    {f_room : Addr} {od_room an_room : Option Addr} {sl_room : Array (Option Value)} {oc_room kV_room dc_room pm_room cd_room ct_room : Value}
    {f_look_at_spans : Addr} {od_look_at_spans an_look_at_spans : Option Addr} {sl_look_at_spans : Array (Option Value)} {oc_look_at_spans kV_look_at_spans dc_look_at_spans pm_look_at_spans cd_look_at_spans ct_look_at_spans : Value}
    {f_too_near : Addr} {od_too_near an_too_near : Option Addr} {sl_too_near : Array (Option Value)} {oc_too_near kV_too_near dc_too_near pm_too_near cd_too_near ct_too_near : Value}
    {f_look_at_pairs : Addr} {od_look_at_pairs an_look_at_pairs : Option Addr} {sl_look_at_pairs : Array (Option Value)} {oc_look_at_pairs kV_look_at_pairs dc_look_at_pairs pm_look_at_pairs cd_look_at_pairs ct_look_at_pairs : Value}
    {f_made_plan : Addr} {od_made_plan an_made_plan : Option Addr} {sl_made_plan : Array (Option Value)} {oc_made_plan kV_made_plan dc_made_plan pm_made_plan cd_made_plan ct_made_plan : Value}
    {f_l_draw : Addr} {od_l_draw an_l_draw : Option Addr} {sl_l_draw : Array (Option Value)} {oc_l_draw kV_l_draw dc_l_draw pm_l_draw cd_l_draw ct_l_draw : Value}
    {f_l_text : Addr} {od_l_text an_l_text : Option Addr} {sl_l_text : Array (Option Value)} {oc_l_text kV_l_text dc_l_text pm_l_text cd_l_text ct_l_text : Value}
    {f_l_spans : Addr} {od_l_spans an_l_spans : Option Addr} {sl_l_spans : Array (Option Value)} {oc_l_spans kV_l_spans dc_l_spans pm_l_spans cd_l_spans ct_l_spans : Value}
    {f_l_way : Addr} {od_l_way an_l_way : Option Addr} {sl_l_way : Array (Option Value)} {oc_l_way kV_l_way dc_l_way pm_l_way cd_l_way ct_l_way : Value}
    {f_l_plan : Addr} {od_l_plan an_l_plan : Option Addr} {sl_l_plan : Array (Option Value)} {oc_l_plan kV_l_plan dc_l_plan pm_l_plan cd_l_plan ct_l_plan : Value}
    {f_l_free : Addr} {od_l_free an_l_free : Option Addr} {sl_l_free : Array (Option Value)} {oc_l_free kV_l_free dc_l_free pm_l_free cd_l_free ct_l_free : Value}
    {f_l_comings : Addr} {od_l_comings an_l_comings : Option Addr} {sl_l_comings : Array (Option Value)} {oc_l_comings kV_l_comings dc_l_comings pm_l_comings cd_l_comings ct_l_comings : Value}
    {f_l_queue : Addr} {od_l_queue an_l_queue : Option Addr} {sl_l_queue : Array (Option Value)} {oc_l_queue kV_l_queue dc_l_queue pm_l_queue cd_l_queue ct_l_queue : Value}
    {f_law : Addr} {od_law an_law : Option Addr} {sl_law : Array (Option Value)} {oc_law kV_law dc_law pm_law cd_law ct_law : Value}
    {f_NoText_init : Addr} {od_NoText_init an_NoText_init : Option Addr} {sl_NoText_init : Array (Option Value)} {oc_NoText_init kV_NoText_init dc_NoText_init pm_NoText_init cd_NoText_init ct_NoText_init : Value}
    {f_NoWay_init : Addr} {od_NoWay_init an_NoWay_init : Option Addr} {sl_NoWay_init : Array (Option Value)} {oc_NoWay_init kV_NoWay_init dc_NoWay_init pm_NoWay_init cd_NoWay_init ct_NoWay_init : Value}
    {f_Never_init : Addr} {od_Never_init an_Never_init : Option Addr} {sl_Never_init : Array (Option Value)} {oc_Never_init kV_Never_init dc_Never_init pm_Never_init cd_Never_init ct_Never_init : Value}
    {f_Short_init : Addr} {od_Short_init an_Short_init : Option Addr} {sl_Short_init : Array (Option Value)} {oc_Short_init kV_Short_init dc_Short_init pm_Short_init cd_Short_init ct_Short_init : Value}
    {f_Clash_init : Addr} {od_Clash_init an_Clash_init : Option Addr} {sl_Clash_init : Array (Option Value)} {oc_Clash_init kV_Clash_init dc_Clash_init pm_Clash_init cd_Clash_init ct_Clash_init : Value}
    {t_FIGURES : Tok}
    {t_LETTERS : Tok}
    {t_MOST_WAYS : Tok}
    {u_SORTS : Addr} {n_SORTS : Nat} {ud_SORTS : Option Addr} {us_SORTS : Array (Option Value)} {t0_SORTS : Tok} {t1_SORTS : Tok} {t2_SORTS : Tok}
    {cA tA : Addr}
    (a_LampError : PySem.W.nsIn K mainGlobals "LampError" = some (some (.ref C_LampError)))
    (a_NoText : PySem.W.nsIn K mainGlobals "NoText" = some (some (.ref C_NoText)))
    (a_NoWay : PySem.W.nsIn K mainGlobals "NoWay" = some (some (.ref C_NoWay)))
    (a_Never : PySem.W.nsIn K mainGlobals "Never" = some (some (.ref C_Never)))
    (a_Short : PySem.W.nsIn K mainGlobals "Short" = some (some (.ref C_Short)))
    (a_Clash : PySem.W.nsIn K mainGlobals "Clash" = some (some (.ref C_Clash)))
    (a_Way : PySem.W.nsIn K mainGlobals "Way" = some (some (.ref C_Way)))
    (a_CarWay : PySem.W.nsIn K mainGlobals "CarWay" = some (some (.ref C_CarWay)))
    (a_FootWay : PySem.W.nsIn K mainGlobals "FootWay" = some (some (.ref C_FootWay)))
    (a_TramWay : PySem.W.nsIn K mainGlobals "TramWay" = some (some (.ref C_TramWay)))
    (a_Crossing : PySem.W.nsIn K mainGlobals "Crossing" = some (some (.ref C_Crossing)))
    (a_Plan : PySem.W.nsIn K mainGlobals "Plan" = some (some (.ref C_Plan)))
    (pg_Way : PySem.W.plainGet K C_Way Str.empty = true)
    (hd_Way : PySem.W.hasDictIn K C_Way = true)
    (po_Way : PySem.W.plainOver K C_Way = true)
    (sa_Way : PySem.W.findIn K (.ref C_Way) "__setattr__" = some (some (.builtin "object.__setattr__")))
    (mk_Way : PySem.W.makesIn K C_Way = true)
    (kc_Way : PySem.W.keepIn K (.ref C_Way) = true)
    (no_Way : noB K C_Way = true)
    (pg_CarWay : PySem.W.plainGet K C_CarWay Str.empty = true)
    (hd_CarWay : PySem.W.hasDictIn K C_CarWay = true)
    (po_CarWay : PySem.W.plainOver K C_CarWay = true)
    (sa_CarWay : PySem.W.findIn K (.ref C_CarWay) "__setattr__" = some (some (.builtin "object.__setattr__")))
    (mk_CarWay : PySem.W.makesIn K C_CarWay = true)
    (kc_CarWay : PySem.W.keepIn K (.ref C_CarWay) = true)
    (no_CarWay : noB K C_CarWay = true)
    (pg_FootWay : PySem.W.plainGet K C_FootWay Str.empty = true)
    (hd_FootWay : PySem.W.hasDictIn K C_FootWay = true)
    (po_FootWay : PySem.W.plainOver K C_FootWay = true)
    (sa_FootWay : PySem.W.findIn K (.ref C_FootWay) "__setattr__" = some (some (.builtin "object.__setattr__")))
    (mk_FootWay : PySem.W.makesIn K C_FootWay = true)
    (kc_FootWay : PySem.W.keepIn K (.ref C_FootWay) = true)
    (no_FootWay : noB K C_FootWay = true)
    (pg_TramWay : PySem.W.plainGet K C_TramWay Str.empty = true)
    (hd_TramWay : PySem.W.hasDictIn K C_TramWay = true)
    (po_TramWay : PySem.W.plainOver K C_TramWay = true)
    (sa_TramWay : PySem.W.findIn K (.ref C_TramWay) "__setattr__" = some (some (.builtin "object.__setattr__")))
    (mk_TramWay : PySem.W.makesIn K C_TramWay = true)
    (kc_TramWay : PySem.W.keepIn K (.ref C_TramWay) = true)
    (no_TramWay : noB K C_TramWay = true)
    (pg_Crossing : PySem.W.plainGet K C_Crossing Str.empty = true)
    (hd_Crossing : PySem.W.hasDictIn K C_Crossing = true)
    (po_Crossing : PySem.W.plainOver K C_Crossing = true)
    (sa_Crossing : PySem.W.findIn K (.ref C_Crossing) "__setattr__" = some (some (.builtin "object.__setattr__")))
    (mk_Crossing : PySem.W.makesIn K C_Crossing = true)
    (kc_Crossing : PySem.W.keepIn K (.ref C_Crossing) = true)
    (no_Crossing : noB K C_Crossing = true)
    (pg_Plan : PySem.W.plainGet K C_Plan Str.empty = true)
    (hd_Plan : PySem.W.hasDictIn K C_Plan = true)
    (po_Plan : PySem.W.plainOver K C_Plan = true)
    (sa_Plan : PySem.W.findIn K (.ref C_Plan) "__setattr__" = some (some (.builtin "object.__setattr__")))
    (mk_Plan : PySem.W.makesIn K C_Plan = true)
    (kc_Plan : PySem.W.keepIn K (.ref C_Plan) = true)
    (no_Plan : noB K C_Plan = true)
    (eC_LampError : PySem.W.subIn K (.ref C_LampError) (.type "BaseException") = some true)
    (tC_LampError : PySem.W.typeIn K (.ref C_LampError) = some (.type "type"))
    (kC_LampError : PySem.W.keepIn K (.ref C_LampError) = true)
    (hd_LampError : PySem.W.hasDictIn K C_LampError = true)
    (xL_NoText : K.lookup C_NoText = some (excClassObj nm_NoText qn_NoText C_NoText N_NoText bs_NoText [.ref C_LampError, .type "ValueError", .type "Exception", .type "BaseException", .type "object"] true sn_NoText sub_NoText ab_NoText col_NoText dd_NoText k0_NoText k1_NoText k2_NoText k3_NoText k5_NoText "ValueError.__new__"))
    (eC_NoText : PySem.W.subIn K (.ref C_NoText) (.type "BaseException") = some true)
    (tC_NoText : PySem.W.typeIn K (.ref C_NoText) = some (.type "type"))
    (kC_NoText : PySem.W.keepIn K (.ref C_NoText) = true)
    (hd_NoText : PySem.W.hasDictIn K C_NoText = true)
    (sa_NoText : PySem.W.findIn K (.ref C_NoText) "__setattr__" = some (some (.builtin "object.__setattr__")))
    (ga_NoText : PySem.W.findIn K (.ref C_NoText) "__getattribute__" = some (some (.builtin "BaseException.__getattribute__")))
    (gg_NoText : PySem.W.findIn K (.ref C_NoText) "__getattr__" = some none)
    (no_NoText : noB K C_NoText = true)
    (xL_NoWay : K.lookup C_NoWay = some (excClassObj nm_NoWay qn_NoWay C_NoWay N_NoWay bs_NoWay [.ref C_LampError, .type "ValueError", .type "Exception", .type "BaseException", .type "object"] true sn_NoWay sub_NoWay ab_NoWay col_NoWay dd_NoWay k0_NoWay k1_NoWay k2_NoWay k3_NoWay k5_NoWay "ValueError.__new__"))
    (eC_NoWay : PySem.W.subIn K (.ref C_NoWay) (.type "BaseException") = some true)
    (tC_NoWay : PySem.W.typeIn K (.ref C_NoWay) = some (.type "type"))
    (kC_NoWay : PySem.W.keepIn K (.ref C_NoWay) = true)
    (hd_NoWay : PySem.W.hasDictIn K C_NoWay = true)
    (sa_NoWay : PySem.W.findIn K (.ref C_NoWay) "__setattr__" = some (some (.builtin "object.__setattr__")))
    (ga_NoWay : PySem.W.findIn K (.ref C_NoWay) "__getattribute__" = some (some (.builtin "BaseException.__getattribute__")))
    (gg_NoWay : PySem.W.findIn K (.ref C_NoWay) "__getattr__" = some none)
    (no_NoWay : noB K C_NoWay = true)
    (xL_Never : K.lookup C_Never = some (excClassObj nm_Never qn_Never C_Never N_Never bs_Never [.ref C_LampError, .type "ValueError", .type "Exception", .type "BaseException", .type "object"] true sn_Never sub_Never ab_Never col_Never dd_Never k0_Never k1_Never k2_Never k3_Never k5_Never "ValueError.__new__"))
    (eC_Never : PySem.W.subIn K (.ref C_Never) (.type "BaseException") = some true)
    (tC_Never : PySem.W.typeIn K (.ref C_Never) = some (.type "type"))
    (kC_Never : PySem.W.keepIn K (.ref C_Never) = true)
    (hd_Never : PySem.W.hasDictIn K C_Never = true)
    (sa_Never : PySem.W.findIn K (.ref C_Never) "__setattr__" = some (some (.builtin "object.__setattr__")))
    (ga_Never : PySem.W.findIn K (.ref C_Never) "__getattribute__" = some (some (.builtin "BaseException.__getattribute__")))
    (gg_Never : PySem.W.findIn K (.ref C_Never) "__getattr__" = some none)
    (no_Never : noB K C_Never = true)
    (xL_Short : K.lookup C_Short = some (excClassObj nm_Short qn_Short C_Short N_Short bs_Short [.ref C_LampError, .type "ValueError", .type "Exception", .type "BaseException", .type "object"] true sn_Short sub_Short ab_Short col_Short dd_Short k0_Short k1_Short k2_Short k3_Short k5_Short "ValueError.__new__"))
    (eC_Short : PySem.W.subIn K (.ref C_Short) (.type "BaseException") = some true)
    (tC_Short : PySem.W.typeIn K (.ref C_Short) = some (.type "type"))
    (kC_Short : PySem.W.keepIn K (.ref C_Short) = true)
    (hd_Short : PySem.W.hasDictIn K C_Short = true)
    (sa_Short : PySem.W.findIn K (.ref C_Short) "__setattr__" = some (some (.builtin "object.__setattr__")))
    (ga_Short : PySem.W.findIn K (.ref C_Short) "__getattribute__" = some (some (.builtin "BaseException.__getattribute__")))
    (gg_Short : PySem.W.findIn K (.ref C_Short) "__getattr__" = some none)
    (no_Short : noB K C_Short = true)
    (xL_Clash : K.lookup C_Clash = some (excClassObj nm_Clash qn_Clash C_Clash N_Clash bs_Clash [.ref C_LampError, .type "ValueError", .type "Exception", .type "BaseException", .type "object"] true sn_Clash sub_Clash ab_Clash col_Clash dd_Clash k0_Clash k1_Clash k2_Clash k3_Clash k5_Clash "ValueError.__new__"))
    (eC_Clash : PySem.W.subIn K (.ref C_Clash) (.type "BaseException") = some true)
    (tC_Clash : PySem.W.typeIn K (.ref C_Clash) = some (.type "type"))
    (kC_Clash : PySem.W.keepIn K (.ref C_Clash) = true)
    (hd_Clash : PySem.W.hasDictIn K C_Clash = true)
    (sa_Clash : PySem.W.findIn K (.ref C_Clash) "__setattr__" = some (some (.builtin "object.__setattr__")))
    (ga_Clash : PySem.W.findIn K (.ref C_Clash) "__getattribute__" = some (some (.builtin "BaseException.__getattribute__")))
    (gg_Clash : PySem.W.findIn K (.ref C_Clash) "__getattr__" = some none)
    (no_Clash : noB K C_Clash = true)
    (rd_LampError : PySem.W.readsIn K C_LampError (.type "type") = true)
    (gs_LampError : PySem.W.specialIn K (.ref C_LampError) "__getattribute__" = some (some (.builtin "type.__getattribute__")))
    (fc_LampError : PySem.W.findCls K (.ref C_LampError) (.type "type") "__init__" = some (.val (.builtin "ValueError.__init__")))
    (a_free : PySem.W.nsIn K mainGlobals "free" = some (some (.ref f_free)))
    (l_free : K.lookup f_free = some ⟨oc_free, od_free, .func (PySem.W.fnOf "free" "free" (defArgs s_free) (defBody s_free) (defScope s_free) .none kV_free dc_free pm_free an_free cd_free ct_free), sl_free⟩)
    (q_free : PySem.W.codeIn K cd_free "free" = true)
    (k_free : PySem.W.keepIn K (.ref f_free) = true)
    (a_coming_by : PySem.W.nsIn K mainGlobals "coming_by" = some (some (.ref f_coming_by)))
    (l_coming_by : K.lookup f_coming_by = some ⟨oc_coming_by, od_coming_by, .func (PySem.W.fnOf "coming_by" "coming_by" (defArgs s_coming_by) (defBody s_coming_by) (defScope s_coming_by) .none kV_coming_by dc_coming_by pm_coming_by an_coming_by cd_coming_by ct_coming_by), sl_coming_by⟩)
    (q_coming_by : PySem.W.codeIn K cd_coming_by "coming_by" = true)
    (k_coming_by : PySem.W.keepIn K (.ref f_coming_by) = true)
    (a_stood_behind : PySem.W.nsIn K mainGlobals "stood_behind" = some (some (.ref f_stood_behind)))
    (l_stood_behind : K.lookup f_stood_behind = some ⟨oc_stood_behind, od_stood_behind, .func (PySem.W.fnOf "stood_behind" "stood_behind" (defArgs s_stood_behind) (defBody s_stood_behind) (defScope s_stood_behind) .none kV_stood_behind dc_stood_behind pm_stood_behind an_stood_behind cd_stood_behind ct_stood_behind), sl_stood_behind⟩)
    (q_stood_behind : PySem.W.codeIn K cd_stood_behind "stood_behind" = true)
    (k_stood_behind : PySem.W.keepIn K (.ref f_stood_behind) = true)
    (a_grows : PySem.W.nsIn K mainGlobals "grows" = some (some (.ref f_grows)))
    (l_grows : K.lookup f_grows = some ⟨oc_grows, od_grows, .func (PySem.W.fnOf "grows" "grows" (defArgs s_grows) (defBody s_grows) (defScope s_grows) .none kV_grows dc_grows pm_grows an_grows cd_grows ct_grows), sl_grows⟩)
    (q_grows : PySem.W.codeIn K cd_grows "grows" = true)
    (k_grows : PySem.W.keepIn K (.ref f_grows) = true)
    (a_queue : PySem.W.nsIn K mainGlobals "queue" = some (some (.ref f_queue)))
    (l_queue : K.lookup f_queue = some ⟨oc_queue, od_queue, .func (PySem.W.fnOf "queue" "queue" (defArgs s_queue) (defBody s_queue) (defScope s_queue) .none kV_queue dc_queue pm_queue an_queue cd_queue ct_queue), sl_queue⟩)
    (q_queue : PySem.W.codeIn K cd_queue "queue" = true)
    (k_queue : PySem.W.keepIn K (.ref f_queue) = true)
    (a_Way_init : PySem.W.findIn K (.ref C_Way) "__init__" = some (some (.ref f_Way_init)))
    (i_Way_init : PySem.W.isFn K (.ref f_Way_init) = true)
    (l_Way_init : K.lookup f_Way_init = some ⟨oc_Way_init, od_Way_init, .func (PySem.W.fnOf "__init__" "Way.__init__" (defArgs s_Way_init) (defBody s_Way_init) (defScope s_Way_init) .none kV_Way_init dc_Way_init pm_Way_init an_Way_init cd_Way_init ct_Way_init), sl_Way_init⟩)
    (q_Way_init : PySem.W.codeIn K cd_Way_init "Way.__init__" = true)
    (k_Way_init : PySem.W.keepIn K (.ref f_Way_init) = true)
    (a_Way_ready : PySem.W.findIn K (.ref C_Way) "ready" = some (some (.ref f_Way_ready)))
    (i_Way_ready : PySem.W.isFn K (.ref f_Way_ready) = true)
    (l_Way_ready : K.lookup f_Way_ready = some ⟨oc_Way_ready, od_Way_ready, .func (PySem.W.fnOf "ready" "Way.ready" (defArgs s_Way_ready) (defBody s_Way_ready) (defScope s_Way_ready) .none kV_Way_ready dc_Way_ready pm_Way_ready an_Way_ready cd_Way_ready ct_Way_ready), sl_Way_ready⟩)
    (q_Way_ready : PySem.W.codeIn K cd_Way_ready "Way.ready" = true)
    (k_Way_ready : PySem.W.keepIn K (.ref f_Way_ready) = true)
    (a_Way_fade : PySem.W.findIn K (.ref C_Way) "fade" = some (some (.ref f_Way_fade)))
    (i_Way_fade : PySem.W.isFn K (.ref f_Way_fade) = true)
    (l_Way_fade : K.lookup f_Way_fade = some ⟨oc_Way_fade, od_Way_fade, .func (PySem.W.fnOf "fade" "Way.fade" (defArgs s_Way_fade) (defBody s_Way_fade) (defScope s_Way_fade) .none kV_Way_fade dc_Way_fade pm_Way_fade an_Way_fade cd_Way_fade ct_Way_fade), sl_Way_fade⟩)
    (q_Way_fade : PySem.W.codeIn K cd_Way_fade "Way.fade" = true)
    (k_Way_fade : PySem.W.keepIn K (.ref f_Way_fade) = true)
    (a_Way_goes : PySem.W.findIn K (.ref C_Way) "goes" = some (some (.ref f_Way_goes)))
    (i_Way_goes : PySem.W.isFn K (.ref f_Way_goes) = true)
    (l_Way_goes : K.lookup f_Way_goes = some ⟨oc_Way_goes, od_Way_goes, .func (PySem.W.fnOf "goes" "Way.goes" (defArgs s_Way_goes) (defBody s_Way_goes) (defScope s_Way_goes) .none kV_Way_goes dc_Way_goes pm_Way_goes an_Way_goes cd_Way_goes ct_Way_goes), sl_Way_goes⟩)
    (q_Way_goes : PySem.W.codeIn K cd_Way_goes "Way.goes" = true)
    (k_Way_goes : PySem.W.keepIn K (.ref f_Way_goes) = true)
    (a_CarWay_init : PySem.W.findIn K (.ref C_CarWay) "__init__" = some (some (.ref f_CarWay_init)))
    (i_CarWay_init : PySem.W.isFn K (.ref f_CarWay_init) = true)
    (l_CarWay_init : K.lookup f_CarWay_init = some ⟨oc_CarWay_init, od_CarWay_init, .func (PySem.W.fnOf "__init__" "CarWay.__init__" (defArgs s_CarWay_init) (defBody s_CarWay_init) (defScope s_CarWay_init) .none kV_CarWay_init dc_CarWay_init pm_CarWay_init an_CarWay_init cd_CarWay_init ct_CarWay_init), sl_CarWay_init⟩)
    (q_CarWay_init : PySem.W.codeIn K cd_CarWay_init "CarWay.__init__" = true)
    (k_CarWay_init : PySem.W.keepIn K (.ref f_CarWay_init) = true)
    (a_CarWay_fade : PySem.W.findIn K (.ref C_CarWay) "fade" = some (some (.ref f_CarWay_fade)))
    (i_CarWay_fade : PySem.W.isFn K (.ref f_CarWay_fade) = true)
    (l_CarWay_fade : K.lookup f_CarWay_fade = some ⟨oc_CarWay_fade, od_CarWay_fade, .func (PySem.W.fnOf "fade" "CarWay.fade" (defArgs s_CarWay_fade) (defBody s_CarWay_fade) (defScope s_CarWay_fade) .none kV_CarWay_fade dc_CarWay_fade pm_CarWay_fade an_CarWay_fade cd_CarWay_fade ct_CarWay_fade), sl_CarWay_fade⟩)
    (q_CarWay_fade : PySem.W.codeIn K cd_CarWay_fade "CarWay.fade" = true)
    (k_CarWay_fade : PySem.W.keepIn K (.ref f_CarWay_fade) = true)
    (a_FootWay_init : PySem.W.findIn K (.ref C_FootWay) "__init__" = some (some (.ref f_FootWay_init)))
    (i_FootWay_init : PySem.W.isFn K (.ref f_FootWay_init) = true)
    (l_FootWay_init : K.lookup f_FootWay_init = some ⟨oc_FootWay_init, od_FootWay_init, .func (PySem.W.fnOf "__init__" "FootWay.__init__" (defArgs s_FootWay_init) (defBody s_FootWay_init) (defScope s_FootWay_init) .none kV_FootWay_init dc_FootWay_init pm_FootWay_init an_FootWay_init cd_FootWay_init ct_FootWay_init), sl_FootWay_init⟩)
    (q_FootWay_init : PySem.W.codeIn K cd_FootWay_init "FootWay.__init__" = true)
    (k_FootWay_init : PySem.W.keepIn K (.ref f_FootWay_init) = true)
    (a_FootWay_ready : PySem.W.findIn K (.ref C_FootWay) "ready" = some (some (.ref f_FootWay_ready)))
    (i_FootWay_ready : PySem.W.isFn K (.ref f_FootWay_ready) = true)
    (l_FootWay_ready : K.lookup f_FootWay_ready = some ⟨oc_FootWay_ready, od_FootWay_ready, .func (PySem.W.fnOf "ready" "FootWay.ready" (defArgs s_FootWay_ready) (defBody s_FootWay_ready) (defScope s_FootWay_ready) .none kV_FootWay_ready dc_FootWay_ready pm_FootWay_ready an_FootWay_ready cd_FootWay_ready ct_FootWay_ready), sl_FootWay_ready⟩)
    (q_FootWay_ready : PySem.W.codeIn K cd_FootWay_ready "FootWay.ready" = true)
    (k_FootWay_ready : PySem.W.keepIn K (.ref f_FootWay_ready) = true)
    (a_FootWay_fade : PySem.W.findIn K (.ref C_FootWay) "fade" = some (some (.ref f_FootWay_fade)))
    (i_FootWay_fade : PySem.W.isFn K (.ref f_FootWay_fade) = true)
    (l_FootWay_fade : K.lookup f_FootWay_fade = some ⟨oc_FootWay_fade, od_FootWay_fade, .func (PySem.W.fnOf "fade" "FootWay.fade" (defArgs s_FootWay_fade) (defBody s_FootWay_fade) (defScope s_FootWay_fade) .none kV_FootWay_fade dc_FootWay_fade pm_FootWay_fade an_FootWay_fade cd_FootWay_fade ct_FootWay_fade), sl_FootWay_fade⟩)
    (q_FootWay_fade : PySem.W.codeIn K cd_FootWay_fade "FootWay.fade" = true)
    (k_FootWay_fade : PySem.W.keepIn K (.ref f_FootWay_fade) = true)
    (a_FootWay_goes : PySem.W.findIn K (.ref C_FootWay) "goes" = some (some (.ref f_FootWay_goes)))
    (i_FootWay_goes : PySem.W.isFn K (.ref f_FootWay_goes) = true)
    (l_FootWay_goes : K.lookup f_FootWay_goes = some ⟨oc_FootWay_goes, od_FootWay_goes, .func (PySem.W.fnOf "goes" "FootWay.goes" (defArgs s_FootWay_goes) (defBody s_FootWay_goes) (defScope s_FootWay_goes) .none kV_FootWay_goes dc_FootWay_goes pm_FootWay_goes an_FootWay_goes cd_FootWay_goes ct_FootWay_goes), sl_FootWay_goes⟩)
    (q_FootWay_goes : PySem.W.codeIn K cd_FootWay_goes "FootWay.goes" = true)
    (k_FootWay_goes : PySem.W.keepIn K (.ref f_FootWay_goes) = true)
    (a_TramWay_init : PySem.W.findIn K (.ref C_TramWay) "__init__" = some (some (.ref f_TramWay_init)))
    (i_TramWay_init : PySem.W.isFn K (.ref f_TramWay_init) = true)
    (l_TramWay_init : K.lookup f_TramWay_init = some ⟨oc_TramWay_init, od_TramWay_init, .func (PySem.W.fnOf "__init__" "TramWay.__init__" (defArgs s_TramWay_init) (defBody s_TramWay_init) (defScope s_TramWay_init) .none kV_TramWay_init dc_TramWay_init pm_TramWay_init an_TramWay_init cd_TramWay_init ct_TramWay_init), sl_TramWay_init⟩)
    (q_TramWay_init : PySem.W.codeIn K cd_TramWay_init "TramWay.__init__" = true)
    (k_TramWay_init : PySem.W.keepIn K (.ref f_TramWay_init) = true)
    (a_TramWay_ready : PySem.W.findIn K (.ref C_TramWay) "ready" = some (some (.ref f_TramWay_ready)))
    (i_TramWay_ready : PySem.W.isFn K (.ref f_TramWay_ready) = true)
    (l_TramWay_ready : K.lookup f_TramWay_ready = some ⟨oc_TramWay_ready, od_TramWay_ready, .func (PySem.W.fnOf "ready" "TramWay.ready" (defArgs s_TramWay_ready) (defBody s_TramWay_ready) (defScope s_TramWay_ready) .none kV_TramWay_ready dc_TramWay_ready pm_TramWay_ready an_TramWay_ready cd_TramWay_ready ct_TramWay_ready), sl_TramWay_ready⟩)
    (q_TramWay_ready : PySem.W.codeIn K cd_TramWay_ready "TramWay.ready" = true)
    (k_TramWay_ready : PySem.W.keepIn K (.ref f_TramWay_ready) = true)
    (a_words : PySem.W.nsIn K mainGlobals "words" = some (some (.ref f_words)))
    (l_words : K.lookup f_words = some ⟨oc_words, od_words, .func (PySem.W.fnOf "words" "words" (defArgs s_words) (defBody s_words) (defScope s_words) .none kV_words dc_words pm_words an_words cd_words ct_words), sl_words⟩)
    (q_words : PySem.W.codeIn K cd_words "words" = true)
    (k_words : PySem.W.keepIn K (.ref f_words) = true)
    (a_figured : PySem.W.nsIn K mainGlobals "figured" = some (some (.ref f_figured)))
    (l_figured : K.lookup f_figured = some ⟨oc_figured, od_figured, .func (PySem.W.fnOf "figured" "figured" (defArgs s_figured) (defBody s_figured) (defScope s_figured) .none kV_figured dc_figured pm_figured an_figured cd_figured ct_figured), sl_figured⟩)
    (q_figured : PySem.W.codeIn K cd_figured "figured" = true)
    (k_figured : PySem.W.keepIn K (.ref f_figured) = true)
    (a_is_name : PySem.W.nsIn K mainGlobals "is_name" = some (some (.ref f_is_name)))
    (l_is_name : K.lookup f_is_name = some ⟨oc_is_name, od_is_name, .func (PySem.W.fnOf "is_name" "is_name" (defArgs s_is_name) (defBody s_is_name) (defScope s_is_name) .none kV_is_name dc_is_name pm_is_name an_is_name cd_is_name ct_is_name), sl_is_name⟩)
    (q_is_name : PySem.W.codeIn K cd_is_name "is_name" = true)
    (k_is_name : PySem.W.keepIn K (.ref f_is_name) = true)
    (a_Crossing_init : PySem.W.findIn K (.ref C_Crossing) "__init__" = some (some (.ref f_Crossing_init)))
    (i_Crossing_init : PySem.W.isFn K (.ref f_Crossing_init) = true)
    (l_Crossing_init : K.lookup f_Crossing_init = some ⟨oc_Crossing_init, od_Crossing_init, .func (PySem.W.fnOf "__init__" "Crossing.__init__" (defArgs s_Crossing_init) (defBody s_Crossing_init) (defScope s_Crossing_init) .none kV_Crossing_init dc_Crossing_init pm_Crossing_init an_Crossing_init cd_Crossing_init ct_Crossing_init), sl_Crossing_init⟩)
    (q_Crossing_init : PySem.W.codeIn K cd_Crossing_init "Crossing.__init__" = true)
    (k_Crossing_init : PySem.W.keepIn K (.ref f_Crossing_init) = true)
    (a_Crossing_names : PySem.W.findIn K (.ref C_Crossing) "names" = some (some (.ref f_Crossing_names)))
    (i_Crossing_names : PySem.W.isFn K (.ref f_Crossing_names) = true)
    (l_Crossing_names : K.lookup f_Crossing_names = some ⟨oc_Crossing_names, od_Crossing_names, .func (PySem.W.fnOf "names" "Crossing.names" (defArgs s_Crossing_names) (defBody s_Crossing_names) (defScope s_Crossing_names) .none kV_Crossing_names dc_Crossing_names pm_Crossing_names an_Crossing_names cd_Crossing_names ct_Crossing_names), sl_Crossing_names⟩)
    (q_Crossing_names : PySem.W.codeIn K cd_Crossing_names "Crossing.names" = true)
    (k_Crossing_names : PySem.W.keepIn K (.ref f_Crossing_names) = true)
    (a_Crossing_number : PySem.W.findIn K (.ref C_Crossing) "number" = some (some (.ref f_Crossing_number)))
    (i_Crossing_number : PySem.W.isFn K (.ref f_Crossing_number) = true)
    (l_Crossing_number : K.lookup f_Crossing_number = some ⟨oc_Crossing_number, od_Crossing_number, .func (PySem.W.fnOf "number" "Crossing.number" (defArgs s_Crossing_number) (defBody s_Crossing_number) (defScope s_Crossing_number) .none kV_Crossing_number dc_Crossing_number pm_Crossing_number an_Crossing_number cd_Crossing_number ct_Crossing_number), sl_Crossing_number⟩)
    (q_Crossing_number : PySem.W.codeIn K cd_Crossing_number "Crossing.number" = true)
    (k_Crossing_number : PySem.W.keepIn K (.ref f_Crossing_number) = true)
    (a_Crossing_called : PySem.W.findIn K (.ref C_Crossing) "called" = some (some (.ref f_Crossing_called)))
    (i_Crossing_called : PySem.W.isFn K (.ref f_Crossing_called) = true)
    (l_Crossing_called : K.lookup f_Crossing_called = some ⟨oc_Crossing_called, od_Crossing_called, .func (PySem.W.fnOf "called" "Crossing.called" (defArgs s_Crossing_called) (defBody s_Crossing_called) (defScope s_Crossing_called) .none kV_Crossing_called dc_Crossing_called pm_Crossing_called an_Crossing_called cd_Crossing_called ct_Crossing_called), sl_Crossing_called⟩)
    (q_Crossing_called : PySem.W.codeIn K cd_Crossing_called "Crossing.called" = true)
    (k_Crossing_called : PySem.W.keepIn K (.ref f_Crossing_called) = true)
    (a_made_way : PySem.W.nsIn K mainGlobals "made_way" = some (some (.ref f_made_way)))
    (l_made_way : K.lookup f_made_way = some ⟨oc_made_way, od_made_way, .func (PySem.W.fnOf "made_way" "made_way" (defArgs s_made_way) (defBody s_made_way) (defScope s_made_way) .none kV_made_way dc_made_way pm_made_way an_made_way cd_made_way ct_made_way), sl_made_way⟩)
    (q_made_way : PySem.W.codeIn K cd_made_way "made_way" = true)
    (k_made_way : PySem.W.keepIn K (.ref f_made_way) = true)
    (a_read_head : PySem.W.nsIn K mainGlobals "read_head" = some (some (.ref f_read_head)))
    (l_read_head : K.lookup f_read_head = some ⟨oc_read_head, od_read_head, .func (PySem.W.fnOf "read_head" "read_head" (defArgs s_read_head) (defBody s_read_head) (defScope s_read_head) .none kV_read_head dc_read_head pm_read_head an_read_head cd_read_head ct_read_head), sl_read_head⟩)
    (q_read_head : PySem.W.codeIn K cd_read_head "read_head" = true)
    (k_read_head : PySem.W.keepIn K (.ref f_read_head) = true)
    (a_read_numbers : PySem.W.nsIn K mainGlobals "read_numbers" = some (some (.ref f_read_numbers)))
    (l_read_numbers : K.lookup f_read_numbers = some ⟨oc_read_numbers, od_read_numbers, .func (PySem.W.fnOf "read_numbers" "read_numbers" (defArgs s_read_numbers) (defBody s_read_numbers) (defScope s_read_numbers) .none kV_read_numbers dc_read_numbers pm_read_numbers an_read_numbers cd_read_numbers ct_read_numbers), sl_read_numbers⟩)
    (q_read_numbers : PySem.W.codeIn K cd_read_numbers "read_numbers" = true)
    (k_read_numbers : PySem.W.keepIn K (.ref f_read_numbers) = true)
    (a_read_way : PySem.W.nsIn K mainGlobals "read_way" = some (some (.ref f_read_way)))
    (l_read_way : K.lookup f_read_way = some ⟨oc_read_way, od_read_way, .func (PySem.W.fnOf "read_way" "read_way" (defArgs s_read_way) (defBody s_read_way) (defScope s_read_way) .none kV_read_way dc_read_way pm_read_way an_read_way cd_read_way ct_read_way), sl_read_way⟩)
    (q_read_way : PySem.W.codeIn K cd_read_way "read_way" = true)
    (k_read_way : PySem.W.keepIn K (.ref f_read_way) = true)
    (a_read_crossing : PySem.W.nsIn K mainGlobals "read_crossing" = some (some (.ref f_read_crossing)))
    (l_read_crossing : K.lookup f_read_crossing = some ⟨oc_read_crossing, od_read_crossing, .func (PySem.W.fnOf "read_crossing" "read_crossing" (defArgs s_read_crossing) (defBody s_read_crossing) (defScope s_read_crossing) .none kV_read_crossing dc_read_crossing pm_read_crossing an_read_crossing cd_read_crossing ct_read_crossing), sl_read_crossing⟩)
    (q_read_crossing : PySem.W.codeIn K cd_read_crossing "read_crossing" = true)
    (k_read_crossing : PySem.W.keepIn K (.ref f_read_crossing) = true)
    (a_bow : PySem.W.nsIn K mainGlobals "bow" = some (some (.ref f_bow)))
    (l_bow : K.lookup f_bow = some ⟨oc_bow, od_bow, .func (PySem.W.fnOf "bow" "bow" (defArgs s_bow) (defBody s_bow) (defScope s_bow) .none kV_bow dc_bow pm_bow an_bow cd_bow ct_bow), sl_bow⟩)
    (q_bow : PySem.W.codeIn K cd_bow "bow" = true)
    (k_bow : PySem.W.keepIn K (.ref f_bow) = true)
    (a_ways_meet : PySem.W.nsIn K mainGlobals "ways_meet" = some (some (.ref f_ways_meet)))
    (l_ways_meet : K.lookup f_ways_meet = some ⟨oc_ways_meet, od_ways_meet, .func (PySem.W.fnOf "ways_meet" "ways_meet" (defArgs s_ways_meet) (defBody s_ways_meet) (defScope s_ways_meet) .none kV_ways_meet dc_ways_meet pm_ways_meet an_ways_meet cd_ways_meet ct_ways_meet), sl_ways_meet⟩)
    (q_ways_meet : PySem.W.codeIn K cd_ways_meet "ways_meet" = true)
    (k_ways_meet : PySem.W.keepIn K (.ref f_ways_meet) = true)
    (a_meet : PySem.W.nsIn K mainGlobals "meet" = some (some (.ref f_meet)))
    (l_meet : K.lookup f_meet = some ⟨oc_meet, od_meet, .func (PySem.W.fnOf "meet" "meet" (defArgs s_meet) (defBody s_meet) (defScope s_meet) .none kV_meet dc_meet pm_meet an_meet cd_meet ct_meet), sl_meet⟩)
    (q_meet : PySem.W.codeIn K cd_meet "meet" = true)
    (k_meet : PySem.W.keepIn K (.ref f_meet) = true)
    (a_gap : PySem.W.nsIn K mainGlobals "gap" = some (some (.ref f_gap)))
    (l_gap : K.lookup f_gap = some ⟨oc_gap, od_gap, .func (PySem.W.fnOf "gap" "gap" (defArgs s_gap) (defBody s_gap) (defScope s_gap) .none kV_gap dc_gap pm_gap an_gap cd_gap ct_gap), sl_gap⟩)
    (q_gap : PySem.W.codeIn K cd_gap "gap" = true)
    (k_gap : PySem.W.keepIn K (.ref f_gap) = true)
    (a_turned_plans : PySem.W.nsIn K mainGlobals "turned" = some (some (.ref f_turned_plans)))
    (l_turned_plans : K.lookup f_turned_plans = some ⟨oc_turned_plans, od_turned_plans, .func (PySem.W.fnOf "turned" "turned" (defArgs s_turned_plans) (defBody s_turned_plans) (defScope s_turned_plans) .none kV_turned_plans dc_turned_plans pm_turned_plans an_turned_plans cd_turned_plans ct_turned_plans), sl_turned_plans⟩)
    (q_turned_plans : PySem.W.codeIn K cd_turned_plans "turned" = true)
    (k_turned_plans : PySem.W.keepIn K (.ref f_turned_plans) = true)
    (a_Plan_init : PySem.W.findIn K (.ref C_Plan) "__init__" = some (some (.ref f_Plan_init)))
    (i_Plan_init : PySem.W.isFn K (.ref f_Plan_init) = true)
    (l_Plan_init : K.lookup f_Plan_init = some ⟨oc_Plan_init, od_Plan_init, .func (PySem.W.fnOf "__init__" "Plan.__init__" (defArgs s_Plan_init) (defBody s_Plan_init) (defScope s_Plan_init) .none kV_Plan_init dc_Plan_init pm_Plan_init an_Plan_init cd_Plan_init ct_Plan_init), sl_Plan_init⟩)
    (q_Plan_init : PySem.W.codeIn K cd_Plan_init "Plan.__init__" = true)
    (k_Plan_init : PySem.W.keepIn K (.ref f_Plan_init) = true)
    (a_Plan_bits_of : PySem.W.findIn K (.ref C_Plan) "bits_of" = some (some (.ref f_Plan_bits_of)))
    (i_Plan_bits_of : PySem.W.isFn K (.ref f_Plan_bits_of) = true)
    (l_Plan_bits_of : K.lookup f_Plan_bits_of = some ⟨oc_Plan_bits_of, od_Plan_bits_of, .func (PySem.W.fnOf "bits_of" "Plan.bits_of" (defArgs s_Plan_bits_of) (defBody s_Plan_bits_of) (defScope s_Plan_bits_of) .none kV_Plan_bits_of dc_Plan_bits_of pm_Plan_bits_of an_Plan_bits_of cd_Plan_bits_of ct_Plan_bits_of), sl_Plan_bits_of⟩)
    (q_Plan_bits_of : PySem.W.codeIn K cd_Plan_bits_of "Plan.bits_of" = true)
    (k_Plan_bits_of : PySem.W.keepIn K (.ref f_Plan_bits_of) = true)
    (a_Plan_told_rows : PySem.W.findIn K (.ref C_Plan) "told_rows" = some (some (.ref f_Plan_told_rows)))
    (i_Plan_told_rows : PySem.W.isFn K (.ref f_Plan_told_rows) = true)
    (l_Plan_told_rows : K.lookup f_Plan_told_rows = some ⟨oc_Plan_told_rows, od_Plan_told_rows, .func (PySem.W.fnOf "told_rows" "Plan.told_rows" (defArgs s_Plan_told_rows) (defBody s_Plan_told_rows) (defScope s_Plan_told_rows) .none kV_Plan_told_rows dc_Plan_told_rows pm_Plan_told_rows an_Plan_told_rows cd_Plan_told_rows ct_Plan_told_rows), sl_Plan_told_rows⟩)
    (q_Plan_told_rows : PySem.W.codeIn K cd_Plan_told_rows "Plan.told_rows" = true)
    (k_Plan_told_rows : PySem.W.keepIn K (.ref f_Plan_told_rows) = true)
    (a_room : PySem.W.nsIn K mainGlobals "room" = some (some (.ref f_room)))
    (l_room : K.lookup f_room = some ⟨oc_room, od_room, .func (PySem.W.fnOf "room" "room" (defArgs s_room) (defBody s_room) (defScope s_room) .none kV_room dc_room pm_room an_room cd_room ct_room), sl_room⟩)
    (q_room : PySem.W.codeIn K cd_room "room" = true)
    (k_room : PySem.W.keepIn K (.ref f_room) = true)
    (a_look_at_spans : PySem.W.nsIn K mainGlobals "look_at_spans" = some (some (.ref f_look_at_spans)))
    (l_look_at_spans : K.lookup f_look_at_spans = some ⟨oc_look_at_spans, od_look_at_spans, .func (PySem.W.fnOf "look_at_spans" "look_at_spans" (defArgs s_look_at_spans) (defBody s_look_at_spans) (defScope s_look_at_spans) .none kV_look_at_spans dc_look_at_spans pm_look_at_spans an_look_at_spans cd_look_at_spans ct_look_at_spans), sl_look_at_spans⟩)
    (q_look_at_spans : PySem.W.codeIn K cd_look_at_spans "look_at_spans" = true)
    (k_look_at_spans : PySem.W.keepIn K (.ref f_look_at_spans) = true)
    (a_too_near : PySem.W.nsIn K mainGlobals "too_near" = some (some (.ref f_too_near)))
    (l_too_near : K.lookup f_too_near = some ⟨oc_too_near, od_too_near, .func (PySem.W.fnOf "too_near" "too_near" (defArgs s_too_near) (defBody s_too_near) (defScope s_too_near) .none kV_too_near dc_too_near pm_too_near an_too_near cd_too_near ct_too_near), sl_too_near⟩)
    (q_too_near : PySem.W.codeIn K cd_too_near "too_near" = true)
    (k_too_near : PySem.W.keepIn K (.ref f_too_near) = true)
    (a_look_at_pairs : PySem.W.nsIn K mainGlobals "look_at_pairs" = some (some (.ref f_look_at_pairs)))
    (l_look_at_pairs : K.lookup f_look_at_pairs = some ⟨oc_look_at_pairs, od_look_at_pairs, .func (PySem.W.fnOf "look_at_pairs" "look_at_pairs" (defArgs s_look_at_pairs) (defBody s_look_at_pairs) (defScope s_look_at_pairs) .none kV_look_at_pairs dc_look_at_pairs pm_look_at_pairs an_look_at_pairs cd_look_at_pairs ct_look_at_pairs), sl_look_at_pairs⟩)
    (q_look_at_pairs : PySem.W.codeIn K cd_look_at_pairs "look_at_pairs" = true)
    (k_look_at_pairs : PySem.W.keepIn K (.ref f_look_at_pairs) = true)
    (a_made_plan : PySem.W.nsIn K mainGlobals "made_plan" = some (some (.ref f_made_plan)))
    (l_made_plan : K.lookup f_made_plan = some ⟨oc_made_plan, od_made_plan, .func (PySem.W.fnOf "made_plan" "made_plan" (defArgs s_made_plan) (defBody s_made_plan) (defScope s_made_plan) .none kV_made_plan dc_made_plan pm_made_plan an_made_plan cd_made_plan ct_made_plan), sl_made_plan⟩)
    (q_made_plan : PySem.W.codeIn K cd_made_plan "made_plan" = true)
    (k_made_plan : PySem.W.keepIn K (.ref f_made_plan) = true)
    (a_l_draw : PySem.W.nsIn K mainGlobals "_law_draw" = some (some (.ref f_l_draw)))
    (l_l_draw : K.lookup f_l_draw = some ⟨oc_l_draw, od_l_draw, .func (PySem.W.fnOf "_law_draw" "_law_draw" (defArgs s_l_draw) (defBody s_l_draw) (defScope s_l_draw) .none kV_l_draw dc_l_draw pm_l_draw an_l_draw cd_l_draw ct_l_draw), sl_l_draw⟩)
    (q_l_draw : PySem.W.codeIn K cd_l_draw "_law_draw" = true)
    (k_l_draw : PySem.W.keepIn K (.ref f_l_draw) = true)
    (a_l_text : PySem.W.nsIn K mainGlobals "_law_text" = some (some (.ref f_l_text)))
    (l_l_text : K.lookup f_l_text = some ⟨oc_l_text, od_l_text, .func (PySem.W.fnOf "_law_text" "_law_text" (defArgs s_l_text) (defBody s_l_text) (defScope s_l_text) .none kV_l_text dc_l_text pm_l_text an_l_text cd_l_text ct_l_text), sl_l_text⟩)
    (q_l_text : PySem.W.codeIn K cd_l_text "_law_text" = true)
    (k_l_text : PySem.W.keepIn K (.ref f_l_text) = true)
    (a_l_spans : PySem.W.nsIn K mainGlobals "_law_spans" = some (some (.ref f_l_spans)))
    (l_l_spans : K.lookup f_l_spans = some ⟨oc_l_spans, od_l_spans, .func (PySem.W.fnOf "_law_spans" "_law_spans" (defArgs s_l_spans) (defBody s_l_spans) (defScope s_l_spans) .none kV_l_spans dc_l_spans pm_l_spans an_l_spans cd_l_spans ct_l_spans), sl_l_spans⟩)
    (q_l_spans : PySem.W.codeIn K cd_l_spans "_law_spans" = true)
    (k_l_spans : PySem.W.keepIn K (.ref f_l_spans) = true)
    (a_l_way : PySem.W.nsIn K mainGlobals "_law_way" = some (some (.ref f_l_way)))
    (l_l_way : K.lookup f_l_way = some ⟨oc_l_way, od_l_way, .func (PySem.W.fnOf "_law_way" "_law_way" (defArgs s_l_way) (defBody s_l_way) (defScope s_l_way) .none kV_l_way dc_l_way pm_l_way an_l_way cd_l_way ct_l_way), sl_l_way⟩)
    (q_l_way : PySem.W.codeIn K cd_l_way "_law_way" = true)
    (k_l_way : PySem.W.keepIn K (.ref f_l_way) = true)
    (a_l_plan : PySem.W.nsIn K mainGlobals "_law_plan" = some (some (.ref f_l_plan)))
    (l_l_plan : K.lookup f_l_plan = some ⟨oc_l_plan, od_l_plan, .func (PySem.W.fnOf "_law_plan" "_law_plan" (defArgs s_l_plan) (defBody s_l_plan) (defScope s_l_plan) .none kV_l_plan dc_l_plan pm_l_plan an_l_plan cd_l_plan ct_l_plan), sl_l_plan⟩)
    (q_l_plan : PySem.W.codeIn K cd_l_plan "_law_plan" = true)
    (k_l_plan : PySem.W.keepIn K (.ref f_l_plan) = true)
    (a_l_free : PySem.W.nsIn K mainGlobals "_law_free" = some (some (.ref f_l_free)))
    (l_l_free : K.lookup f_l_free = some ⟨oc_l_free, od_l_free, .func (PySem.W.fnOf "_law_free" "_law_free" (defArgs s_l_free) (defBody s_l_free) (defScope s_l_free) .none kV_l_free dc_l_free pm_l_free an_l_free cd_l_free ct_l_free), sl_l_free⟩)
    (q_l_free : PySem.W.codeIn K cd_l_free "_law_free" = true)
    (k_l_free : PySem.W.keepIn K (.ref f_l_free) = true)
    (a_l_comings : PySem.W.nsIn K mainGlobals "_law_comings" = some (some (.ref f_l_comings)))
    (l_l_comings : K.lookup f_l_comings = some ⟨oc_l_comings, od_l_comings, .func (PySem.W.fnOf "_law_comings" "_law_comings" (defArgs s_l_comings) (defBody s_l_comings) (defScope s_l_comings) .none kV_l_comings dc_l_comings pm_l_comings an_l_comings cd_l_comings ct_l_comings), sl_l_comings⟩)
    (q_l_comings : PySem.W.codeIn K cd_l_comings "_law_comings" = true)
    (k_l_comings : PySem.W.keepIn K (.ref f_l_comings) = true)
    (a_l_queue : PySem.W.nsIn K mainGlobals "_law_queue" = some (some (.ref f_l_queue)))
    (l_l_queue : K.lookup f_l_queue = some ⟨oc_l_queue, od_l_queue, .func (PySem.W.fnOf "_law_queue" "_law_queue" (defArgs s_l_queue) (defBody s_l_queue) (defScope s_l_queue) .none kV_l_queue dc_l_queue pm_l_queue an_l_queue cd_l_queue ct_l_queue), sl_l_queue⟩)
    (q_l_queue : PySem.W.codeIn K cd_l_queue "_law_queue" = true)
    (k_l_queue : PySem.W.keepIn K (.ref f_l_queue) = true)
    (a_law : PySem.W.nsIn K mainGlobals "law" = some (some (.ref f_law)))
    (l_law : K.lookup f_law = some ⟨oc_law, od_law, .func (PySem.W.fnOf "law" "law" (defArgs s_law) (defBody s_law) (defScope s_law) .none kV_law dc_law pm_law an_law cd_law ct_law), sl_law⟩)
    (q_law : PySem.W.codeIn K cd_law "law" = true)
    (k_law : PySem.W.keepIn K (.ref f_law) = true)
    (a_NoText_init : PySem.W.findIn K (.ref C_NoText) "__init__" = some (some (.ref f_NoText_init)))
    (i_NoText_init : PySem.W.isFn K (.ref f_NoText_init) = true)
    (l_NoText_init : K.lookup f_NoText_init = some ⟨oc_NoText_init, od_NoText_init, .func (PySem.W.fnOf "__init__" "NoText.__init__" (defArgs s_NoText_init) (defBody s_NoText_init) (defScope s_NoText_init) .none kV_NoText_init dc_NoText_init pm_NoText_init an_NoText_init cd_NoText_init ct_NoText_init), sl_NoText_init⟩)
    (q_NoText_init : PySem.W.codeIn K cd_NoText_init "NoText.__init__" = true)
    (k_NoText_init : PySem.W.keepIn K (.ref f_NoText_init) = true)
    (a_NoWay_init : PySem.W.findIn K (.ref C_NoWay) "__init__" = some (some (.ref f_NoWay_init)))
    (i_NoWay_init : PySem.W.isFn K (.ref f_NoWay_init) = true)
    (l_NoWay_init : K.lookup f_NoWay_init = some ⟨oc_NoWay_init, od_NoWay_init, .func (PySem.W.fnOf "__init__" "NoWay.__init__" (defArgs s_NoWay_init) (defBody s_NoWay_init) (defScope s_NoWay_init) .none kV_NoWay_init dc_NoWay_init pm_NoWay_init an_NoWay_init cd_NoWay_init ct_NoWay_init), sl_NoWay_init⟩)
    (q_NoWay_init : PySem.W.codeIn K cd_NoWay_init "NoWay.__init__" = true)
    (k_NoWay_init : PySem.W.keepIn K (.ref f_NoWay_init) = true)
    (a_Never_init : PySem.W.findIn K (.ref C_Never) "__init__" = some (some (.ref f_Never_init)))
    (i_Never_init : PySem.W.isFn K (.ref f_Never_init) = true)
    (l_Never_init : K.lookup f_Never_init = some ⟨oc_Never_init, od_Never_init, .func (PySem.W.fnOf "__init__" "Never.__init__" (defArgs s_Never_init) (defBody s_Never_init) (defScope s_Never_init) .none kV_Never_init dc_Never_init pm_Never_init an_Never_init cd_Never_init ct_Never_init), sl_Never_init⟩)
    (q_Never_init : PySem.W.codeIn K cd_Never_init "Never.__init__" = true)
    (k_Never_init : PySem.W.keepIn K (.ref f_Never_init) = true)
    (a_Short_init : PySem.W.findIn K (.ref C_Short) "__init__" = some (some (.ref f_Short_init)))
    (i_Short_init : PySem.W.isFn K (.ref f_Short_init) = true)
    (l_Short_init : K.lookup f_Short_init = some ⟨oc_Short_init, od_Short_init, .func (PySem.W.fnOf "__init__" "Short.__init__" (defArgs s_Short_init) (defBody s_Short_init) (defScope s_Short_init) .none kV_Short_init dc_Short_init pm_Short_init an_Short_init cd_Short_init ct_Short_init), sl_Short_init⟩)
    (q_Short_init : PySem.W.codeIn K cd_Short_init "Short.__init__" = true)
    (k_Short_init : PySem.W.keepIn K (.ref f_Short_init) = true)
    (a_Clash_init : PySem.W.findIn K (.ref C_Clash) "__init__" = some (some (.ref f_Clash_init)))
    (i_Clash_init : PySem.W.isFn K (.ref f_Clash_init) = true)
    (l_Clash_init : K.lookup f_Clash_init = some ⟨oc_Clash_init, od_Clash_init, .func (PySem.W.fnOf "__init__" "Clash.__init__" (defArgs s_Clash_init) (defBody s_Clash_init) (defScope s_Clash_init) .none kV_Clash_init dc_Clash_init pm_Clash_init an_Clash_init cd_Clash_init ct_Clash_init), sl_Clash_init⟩)
    (q_Clash_init : PySem.W.codeIn K cd_Clash_init "Clash.__init__" = true)
    (k_Clash_init : PySem.W.keepIn K (.ref f_Clash_init) = true)
    (t_NoText_init : PySem.W.typeIn K (.ref f_NoText_init) = some (.type "function"))
    (t_NoWay_init : PySem.W.typeIn K (.ref f_NoWay_init) = some (.type "function"))
    (t_Never_init : PySem.W.typeIn K (.ref f_Never_init) = some (.type "function"))
    (t_Short_init : PySem.W.typeIn K (.ref f_Short_init) = some (.type "function"))
    (t_Clash_init : PySem.W.typeIn K (.ref f_Clash_init) = some (.type "function"))
    (rd_Way : PySem.W.readsIn K C_Way (.type "type") = true)
    (gs_Way : PySem.W.specialIn K (.ref C_Way) "__getattribute__" = some (some (.builtin "type.__getattribute__")))
    (fc_Way : PySem.W.findCls K (.ref C_Way) (.type "type") "__init__" = some (.val (.ref f_Way_init)))
    (h_CarWay_goes : PySem.W.findIn K (.ref C_CarWay) "goes" = some (some (.ref f_Way_goes)))
    (h_TramWay_goes : PySem.W.findIn K (.ref C_TramWay) "goes" = some (some (.ref f_Way_goes)))
    (h_TramWay_fade : PySem.W.findIn K (.ref C_TramWay) "fade" = some (some (.ref f_Way_fade)))
    (h_CarWay_ready : PySem.W.findIn K (.ref C_CarWay) "ready" = some (some (.ref f_Way_ready)))
    (z_len : PySem.W.nsIn K mainGlobals "len" = some none)
    (z_list : PySem.W.nsIn K mainGlobals "list" = some none)
    (z_range : PySem.W.nsIn K mainGlobals "range" = some none)
    (z_max : PySem.W.nsIn K mainGlobals "max" = some none)
    (z_sum : PySem.W.nsIn K mainGlobals "sum" = some none)
    (z_divmod : PySem.W.nsIn K mainGlobals "divmod" = some none)
    (z_min : PySem.W.nsIn K mainGlobals "min" = some none)
    (z_enumerate : PySem.W.nsIn K mainGlobals "enumerate" = some none)
    (z_str : PySem.W.nsIn K mainGlobals "str" = some none)
    (z_isinstance : PySem.W.nsIn K mainGlobals "isinstance" = some none)
    (z_int : PySem.W.nsIn K mainGlobals "int" = some none)
    (z_bool : PySem.W.nsIn K mainGlobals "bool" = some none)
    (y_FIGURES : PySem.W.nsIn K mainGlobals "FIGURES" = some (some (.str (S FIG) t_FIGURES)))
    (y_LETTERS : PySem.W.nsIn K mainGlobals "LETTERS" = some (some (.str (S LET) t_LETTERS)))
    (y_MOST_WAYS : PySem.W.nsIn K mainGlobals "MOST_WAYS" = some (some (.int 12 t_MOST_WAYS)))
    (y_SORTS : PySem.W.nsIn K mainGlobals "SORTS" = some (some (.ref u_SORTS)))
    (w_SORTS : K.lookup u_SORTS = some ⟨.type "tuple", ud_SORTS, .seq #[(.str (S tCAR) t0_SORTS), (.str (S tFOOT) t1_SORTS), (.str (S tTRAM) t2_SORTS)] n_SORTS, us_SORTS⟩)
    (e_cd : cd_coming_by = .ref cA)
    (v_tab : tabOf K cA = some tA)
    (u_tab : PySem.W.codeHdIn K cA tA = true)
    (w_tab : K.lookup tA = none)
    (x_tab : h.get? tA = some { cls := .none, data := .fields #[] }) :
    LamX.LawAtS l w K (L2.CX l.prog w) 10 63 "_law_script" mg fa h := by
  have e := hfa.symm.trans (PySem.W.mg_of X G a_law)
  cases e
  obtain ⟨P, eP⟩ : ∃ P : Par, P = ⟨K, caOf [(0, C_LampError), (1, C_NoText), (2, C_NoWay), (3, C_Never), (4, C_Short), (5, C_Clash), (9, C_Way), (10, C_CarWay), (11, C_FootWay), (12, C_TramWay), (13, C_Crossing), (14, C_Plan), (98, tA)], s_come⟩ := ⟨_, rfl⟩
  have eK : P.K = K := by rw [eP]
  have ca_LampError : P.ca 0 = C_LampError := by rw [eP]; rfl
  have ca_NoText : P.ca 1 = C_NoText := by rw [eP]; rfl
  have ca_NoWay : P.ca 2 = C_NoWay := by rw [eP]; rfl
  have ca_Never : P.ca 3 = C_Never := by rw [eP]; rfl
  have ca_Short : P.ca 4 = C_Short := by rw [eP]; rfl
  have ca_Clash : P.ca 5 = C_Clash := by rw [eP]; rfl
  have ca_Way : P.ca 9 = C_Way := by rw [eP]; rfl
  have ca_CarWay : P.ca 10 = C_CarWay := by rw [eP]; rfl
  have ca_FootWay : P.ca 11 = C_FootWay := by rw [eP]; rfl
  have ca_TramWay : P.ca 12 = C_TramWay := by rw [eP]; rfl
  have ca_Crossing : P.ca 13 = C_Crossing := by rw [eP]; rfl
  have ca_Plan : P.ca 14 = C_Plan := by rw [eP]; rfl
  have ca_tab : P.ca 98 = tA := by rw [eP]; rfl
  have eN : P.nd = s_come := by rw [eP]
  subst eK
  subst ca_LampError
  subst ca_NoText
  subst ca_NoWay
  subst ca_Never
  subst ca_Short
  subst ca_Clash
  subst ca_Way
  subst ca_CarWay
  subst ca_FootWay
  subst ca_TramWay
  subst ca_Crossing
  subst ca_Plan
  subst ca_tab
  subst e_cd
  clear eP
  have b_len := PySem.W.mg_none_of X G z_len
  have b_list := PySem.W.mg_none_of X G z_list
  have b_range := PySem.W.mg_none_of X G z_range
  have b_max := PySem.W.mg_none_of X G z_max
  have b_sum := PySem.W.mg_none_of X G z_sum
  have b_divmod := PySem.W.mg_none_of X G z_divmod
  have b_min := PySem.W.mg_none_of X G z_min
  have b_enumerate := PySem.W.mg_none_of X G z_enumerate
  have b_str := PySem.W.mg_none_of X G z_str
  have b_isinstance := PySem.W.mg_none_of X G z_isinstance
  have b_int := PySem.W.mg_none_of X G z_int
  have b_bool := PySem.W.mg_none_of X G z_bool
  have g_FIGURES : GlobOk P mg "FIGURES" (.str FIG) := ⟨_, .str _, PySem.W.mg_of X G y_FIGURES, ⟨_, rfl⟩, fun _ _ => .str _⟩
  have g_LETTERS : GlobOk P mg "LETTERS" (.str LET) := ⟨_, .str _, PySem.W.mg_of X G y_LETTERS, ⟨_, rfl⟩, fun _ _ => .str _⟩
  have g_MOST_WAYS : GlobOk P mg "MOST_WAYS" (.int 12) := ⟨_, .int _, PySem.W.mg_of X G y_MOST_WAYS, ⟨_, rfl⟩, fun _ _ => .int _⟩
  have g_SORTS : GlobOk P mg "SORTS" (.tup [(.str tCAR), (.str tFOOT), (.str tTRAM)]) := glob_tup (vs := [.str (S tCAR), .str (S tFOOT), .str (S tTRAM)]) (PySem.W.mg_of X G y_SORTS) w_SORTS (Nat.le_of_ble_eq_true rfl) (.cons ⟨_, rfl⟩ (.cons ⟨_, rfl⟩ (.cons ⟨_, rfl⟩ (.nil)))) fun _ _ => (.cons _ _ _ _ (.str _) (.cons _ _ _ _ (.str _) (.cons _ _ _ _ (.str _) (.nil))))
  have cf_Way : P.cf 9 := ⟨⟨pg_Way, hd_Way, po_Way, sa_Way⟩, noB_ok no_Way⟩
  have cf_CarWay : P.cf 10 := ⟨⟨pg_CarWay, hd_CarWay, po_CarWay, sa_CarWay⟩, noB_ok no_CarWay⟩
  have cf_FootWay : P.cf 11 := ⟨⟨pg_FootWay, hd_FootWay, po_FootWay, sa_FootWay⟩, noB_ok no_FootWay⟩
  have cf_TramWay : P.cf 12 := ⟨⟨pg_TramWay, hd_TramWay, po_TramWay, sa_TramWay⟩, noB_ok no_TramWay⟩
  have cf_Crossing : P.cf 13 := ⟨⟨pg_Crossing, hd_Crossing, po_Crossing, sa_Crossing⟩, noB_ok no_Crossing⟩
  have cf_Plan : P.cf 14 := ⟨⟨pg_Plan, hd_Plan, po_Plan, sa_Plan⟩, noB_ok no_Plan⟩
  have F_free := fun_mk (st := s_free) l_free q_free k_free
  have B_free := F_free.binds (ps := ["plan", "name", "turn"]) fun _ _ _ _ _ _ us hl => match us, hl with | [_, _, _], _ => rfl
  have F_coming_by := fun_mk (st := s_coming_by) l_coming_by q_coming_by k_coming_by
  have B_coming_by := F_coming_by.binds (ps := ["comings"]) fun _ _ _ _ _ _ us hl => match us, hl with | [_], _ => rfl
  have F_stood_behind := fun_mk (st := s_stood_behind) l_stood_behind q_stood_behind k_stood_behind
  have B_stood_behind := F_stood_behind.binds (ps := ["plan", "name", "comings", "stood", "turns"]) fun _ _ _ _ _ _ us hl => match us, hl with | [_, _, _, _, _], _ => rfl
  have F_grows := fun_mk (st := s_grows) l_grows q_grows k_grows
  have B_grows := F_grows.binds (ps := ["plan", "name", "comings"]) fun _ _ _ _ _ _ us hl => match us, hl with | [_, _, _], _ => rfl
  have F_queue := fun_mk (st := s_queue) l_queue q_queue k_queue
  have B_queue := F_queue.binds (ps := ["plan", "name", "comings", "turn"]) fun _ _ _ _ _ _ us hl => match us, hl with | [_, _, _, _], _ => rfl
  have F_Way_init := fun_mk (st := s_Way_init) l_Way_init q_Way_init k_Way_init
  have B_Way_init := F_Way_init.binds (ps := ["self", "name", "start", "end", "off", "near", "least"]) fun _ _ _ _ _ _ us hl => match us, hl with | [_, _, _, _, _, _, _], _ => rfl
  have F_Way_ready := fun_mk (st := s_Way_ready) l_Way_ready q_Way_ready k_Way_ready
  have B_Way_ready := F_Way_ready.binds (ps := ["self"]) fun _ _ _ _ _ _ us hl => match us, hl with | [_], _ => rfl
  have F_Way_fade := fun_mk (st := s_Way_fade) l_Way_fade q_Way_fade k_Way_fade
  have B_Way_fade := F_Way_fade.binds (ps := ["self"]) fun _ _ _ _ _ _ us hl => match us, hl with | [_], _ => rfl
  have F_Way_goes := fun_mk (st := s_Way_goes) l_Way_goes q_Way_goes k_Way_goes
  have B_Way_goes := F_Way_goes.binds (ps := ["self", "many"]) fun _ _ _ _ _ _ us hl => match us, hl with | [_, _], _ => rfl
  have F_CarWay_init := fun_mk (st := s_CarWay_init) l_CarWay_init q_CarWay_init k_CarWay_init
  have B_CarWay_init := F_CarWay_init.binds (ps := ["self", "name", "start", "end", "off", "near", "least"]) fun _ _ _ _ _ _ us hl => match us, hl with | [_, _, _, _, _, _, _], _ => rfl
  have F_CarWay_fade := fun_mk (st := s_CarWay_fade) l_CarWay_fade q_CarWay_fade k_CarWay_fade
  have B_CarWay_fade := F_CarWay_fade.binds (ps := ["self"]) fun _ _ _ _ _ _ us hl => match us, hl with | [_], _ => rfl
  have F_FootWay_init := fun_mk (st := s_FootWay_init) l_FootWay_init q_FootWay_init k_FootWay_init
  have B_FootWay_init := F_FootWay_init.binds (ps := ["self", "name", "start", "end", "off", "near", "least"]) fun _ _ _ _ _ _ us hl => match us, hl with | [_, _, _, _, _, _, _], _ => rfl
  have F_FootWay_ready := fun_mk (st := s_FootWay_ready) l_FootWay_ready q_FootWay_ready k_FootWay_ready
  have B_FootWay_ready := F_FootWay_ready.binds (ps := ["self"]) fun _ _ _ _ _ _ us hl => match us, hl with | [_], _ => rfl
  have F_FootWay_fade := fun_mk (st := s_FootWay_fade) l_FootWay_fade q_FootWay_fade k_FootWay_fade
  have B_FootWay_fade := F_FootWay_fade.binds (ps := ["self"]) fun _ _ _ _ _ _ us hl => match us, hl with | [_], _ => rfl
  have F_FootWay_goes := fun_mk (st := s_FootWay_goes) l_FootWay_goes q_FootWay_goes k_FootWay_goes
  have B_FootWay_goes := F_FootWay_goes.binds (ps := ["self", "many"]) fun _ _ _ _ _ _ us hl => match us, hl with | [_, _], _ => rfl
  have F_TramWay_init := fun_mk (st := s_TramWay_init) l_TramWay_init q_TramWay_init k_TramWay_init
  have B_TramWay_init := F_TramWay_init.binds (ps := ["self", "name", "start", "end", "off", "near", "least"]) fun _ _ _ _ _ _ us hl => match us, hl with | [_, _, _, _, _, _, _], _ => rfl
  have F_TramWay_ready := fun_mk (st := s_TramWay_ready) l_TramWay_ready q_TramWay_ready k_TramWay_ready
  have B_TramWay_ready := F_TramWay_ready.binds (ps := ["self"]) fun _ _ _ _ _ _ us hl => match us, hl with | [_], _ => rfl
  have F_words := fun_mk (st := s_words) l_words q_words k_words
  have B_words := F_words.binds (ps := ["text"]) fun _ _ _ _ _ _ us hl => match us, hl with | [_], _ => rfl
  have F_figured := fun_mk (st := s_figured) l_figured q_figured k_figured
  have B_figured := F_figured.binds (ps := ["word", "low", "high"]) fun _ _ _ _ _ _ us hl => match us, hl with | [_, _, _], _ => rfl
  have F_is_name := fun_mk (st := s_is_name) l_is_name q_is_name k_is_name
  have B_is_name := F_is_name.binds (ps := ["word"]) fun _ _ _ _ _ _ us hl => match us, hl with | [_], _ => rfl
  have F_Crossing_init := fun_mk (st := s_Crossing_init) l_Crossing_init q_Crossing_init k_Crossing_init
  have B_Crossing_init := F_Crossing_init.binds (ps := ["self", "places", "ways"]) fun _ _ _ _ _ _ us hl => match us, hl with | [_, _, _], _ => rfl
  have F_Crossing_names := fun_mk (st := s_Crossing_names) l_Crossing_names q_Crossing_names k_Crossing_names
  have B_Crossing_names := F_Crossing_names.binds (ps := ["self"]) fun _ _ _ _ _ _ us hl => match us, hl with | [_], _ => rfl
  have F_Crossing_number := fun_mk (st := s_Crossing_number) l_Crossing_number q_Crossing_number k_Crossing_number
  have B_Crossing_number := F_Crossing_number.binds (ps := ["self", "name"]) fun _ _ _ _ _ _ us hl => match us, hl with | [_, _], _ => rfl
  have F_Crossing_called := fun_mk (st := s_Crossing_called) l_Crossing_called q_Crossing_called k_Crossing_called
  have B_Crossing_called := F_Crossing_called.binds (ps := ["self", "name"]) fun _ _ _ _ _ _ us hl => match us, hl with | [_, _], _ => rfl
  have F_made_way := fun_mk (st := s_made_way) l_made_way q_made_way k_made_way
  have B_made_way := F_made_way.binds (ps := ["sort", "name", "numbers"]) fun _ _ _ _ _ _ us hl => match us, hl with | [_, _, _], _ => rfl
  have F_read_head := fun_mk (st := s_read_head) l_read_head q_read_head k_read_head
  have B_read_head := F_read_head.binds (ps := ["row"]) fun _ _ _ _ _ _ us hl => match us, hl with | [_], _ => rfl
  have F_read_numbers := fun_mk (st := s_read_numbers) l_read_numbers q_read_numbers k_read_numbers
  have B_read_numbers := F_read_numbers.binds (ps := ["at", "row", "places"]) fun _ _ _ _ _ _ us hl => match us, hl with | [_, _, _], _ => rfl
  have F_read_way := fun_mk (st := s_read_way) l_read_way q_read_way k_read_way
  have B_read_way := F_read_way.binds (ps := ["at", "row", "places", "taken"]) fun _ _ _ _ _ _ us hl => match us, hl with | [_, _, _, _], _ => rfl
  have F_read_crossing := fun_mk (st := s_read_crossing) l_read_crossing q_read_crossing k_read_crossing
  have B_read_crossing := F_read_crossing.binds (ps := ["text"]) fun _ _ _ _ _ _ us hl => match us, hl with | [_], _ => rfl
  have F_bow := fun_mk (st := s_bow) l_bow q_bow k_bow
  have B_bow := F_bow.binds (ps := ["way", "places"]) fun _ _ _ _ _ _ us hl => match us, hl with | [_, _], _ => rfl
  have F_ways_meet := fun_mk (st := s_ways_meet) l_ways_meet q_ways_meet k_ways_meet
  have B_ways_meet := F_ways_meet.binds (ps := ["way", "other", "places"]) fun _ _ _ _ _ _ us hl => match us, hl with | [_, _, _], _ => rfl
  have F_meet := fun_mk (st := s_meet) l_meet q_meet k_meet
  have B_meet := F_meet.binds (ps := ["crossing", "one", "other"]) fun _ _ _ _ _ _ us hl => match us, hl with | [_, _, _], _ => rfl
  have F_gap := fun_mk (st := s_gap) l_gap q_gap k_gap
  have B_gap := F_gap.binds (ps := ["crossing", "one", "other"]) fun _ _ _ _ _ _ us hl => match us, hl with | [_, _, _], _ => rfl
  have F_turned_plans := fun_mk (st := s_turned_plans) l_turned_plans q_turned_plans k_turned_plans
  have B_turned_plans := F_turned_plans.binds (ps := ["bits", "many", "size"]) fun _ _ _ _ _ _ us hl => match us, hl with | [_, _, _], _ => rfl
  have F_Plan_init := fun_mk (st := s_Plan_init) l_Plan_init q_Plan_init k_Plan_init
  have B_Plan_init := F_Plan_init.binds (ps := ["self", "crossing", "size", "rows"]) fun _ _ _ _ _ _ us hl => match us, hl with | [_, _, _, _], _ => rfl
  have F_Plan_bits_of := fun_mk (st := s_Plan_bits_of) l_Plan_bits_of q_Plan_bits_of k_Plan_bits_of
  have B_Plan_bits_of := F_Plan_bits_of.binds (ps := ["self", "name"]) fun _ _ _ _ _ _ us hl => match us, hl with | [_, _], _ => rfl
  have F_Plan_told_rows := fun_mk (st := s_Plan_told_rows) l_Plan_told_rows q_Plan_told_rows k_Plan_told_rows
  have B_Plan_told_rows := F_Plan_told_rows.binds (ps := ["self"]) fun _ _ _ _ _ _ us hl => match us, hl with | [_], _ => rfl
  have F_room := fun_mk (st := s_room) l_room q_room k_room
  have B_room := F_room.binds (ps := ["plan", "at"]) fun _ _ _ _ _ _ us hl => match us, hl with | [_, _], _ => rfl
  have F_look_at_spans := fun_mk (st := s_look_at_spans) l_look_at_spans q_look_at_spans k_look_at_spans
  have B_look_at_spans := F_look_at_spans.binds (ps := ["plan"]) fun _ _ _ _ _ _ us hl => match us, hl with | [_], _ => rfl
  have F_too_near := fun_mk (st := s_too_near) l_too_near q_too_near k_too_near
  have B_too_near := F_too_near.binds (ps := ["plan", "one", "other"]) fun _ _ _ _ _ _ us hl => match us, hl with | [_, _, _], _ => rfl
  have F_look_at_pairs := fun_mk (st := s_look_at_pairs) l_look_at_pairs q_look_at_pairs k_look_at_pairs
  have B_look_at_pairs := F_look_at_pairs.binds (ps := ["plan"]) fun _ _ _ _ _ _ us hl => match us, hl with | [_], _ => rfl
  have F_made_plan := fun_mk (st := s_made_plan) l_made_plan q_made_plan k_made_plan
  have B_made_plan := F_made_plan.binds (ps := ["crossing", "size", "rows"]) fun _ _ _ _ _ _ us hl => match us, hl with | [_, _, _], _ => rfl
  have F_l_draw := fun_mk (st := s_l_draw) l_l_draw q_l_draw k_l_draw
  have B_l_draw := F_l_draw.binds (ps := ["_law_script", "_law_k", "_law_many"]) fun _ _ _ _ _ _ us hl => match us, hl with | [_, _, _], _ => rfl
  have F_l_text := fun_mk (st := s_l_text) l_l_text q_l_text k_l_text
  have B_l_text := F_l_text.binds (ps := ["_law_places", "_law_ways"]) fun _ _ _ _ _ _ us hl => match us, hl with | [_, _], _ => rfl
  have F_l_spans := fun_mk (st := s_l_spans) l_l_spans q_l_spans k_l_spans
  have B_l_spans := F_l_spans.binds (ps := ["_law_script", "_law_way_here", "_law_size"]) fun _ _ _ _ _ _ us hl => match us, hl with | [_, _, _], _ => rfl
  have F_l_way := fun_mk (st := s_l_way) l_l_way q_l_way k_l_way
  have B_l_way := F_l_way.binds (ps := ["_law_script"]) fun _ _ _ _ _ _ us hl => match us, hl with | [_], _ => rfl
  have F_l_plan := fun_mk (st := s_l_plan) l_l_plan q_l_plan k_l_plan
  have B_l_plan := F_l_plan.binds (ps := ["_law_script", "_law_way_here", "_law_size"]) fun _ _ _ _ _ _ us hl => match us, hl with | [_, _, _], _ => rfl
  have F_l_free := fun_mk (st := s_l_free) l_l_free q_l_free k_l_free
  have B_l_free := F_l_free.binds (ps := ["_law_script", "_law_way_here", "_law_size", "_law_turn"]) fun _ _ _ _ _ _ us hl => match us, hl with | [_, _, _, _], _ => rfl
  have F_l_comings := fun_mk (st := s_l_comings) l_l_comings q_l_comings k_l_comings
  have B_l_comings := F_l_comings.binds (ps := ["_law_script", "_law_size"]) fun _ _ _ _ _ _ us hl => match us, hl with | [_, _], _ => rfl
  have F_l_queue := fun_mk (st := s_l_queue) l_l_queue q_l_queue k_l_queue
  have B_l_queue := F_l_queue.binds (ps := ["_law_plan_here", "_law_name", "_law_comings_here", "_law_turn"]) fun _ _ _ _ _ _ us hl => match us, hl with | [_, _, _, _], _ => rfl
  have F_law := fun_mk (st := s_law) l_law q_law k_law
  have B_law := F_law.binds (ps := ["_law_script"]) fun _ _ _ _ _ _ us hl => match us, hl with | [_], _ => rfl
  have F_NoText_init := fun_mk (st := s_NoText_init) l_NoText_init q_NoText_init k_NoText_init
  have B_NoText_init := F_NoText_init.binds (ps := ["self", "row", "word"]) fun _ _ _ _ _ _ us hl => match us, hl with | [_, _, _], _ => rfl
  have F_NoWay_init := fun_mk (st := s_NoWay_init) l_NoWay_init q_NoWay_init k_NoWay_init
  have B_NoWay_init := F_NoWay_init.binds (ps := ["self", "name"]) fun _ _ _ _ _ _ us hl => match us, hl with | [_, _], _ => rfl
  have F_Never_init := fun_mk (st := s_Never_init) l_Never_init q_Never_init k_Never_init
  have B_Never_init := F_Never_init.binds (ps := ["self", "way"]) fun _ _ _ _ _ _ us hl => match us, hl with | [_, _], _ => rfl
  have F_Short_init := fun_mk (st := s_Short_init) l_Short_init q_Short_init k_Short_init
  have B_Short_init := F_Short_init.binds (ps := ["self", "way", "at"]) fun _ _ _ _ _ _ us hl => match us, hl with | [_, _, _], _ => rfl
  have F_Clash_init := fun_mk (st := s_Clash_init) l_Clash_init q_Clash_init k_Clash_init
  have B_Clash_init := F_Clash_init.binds (ps := ["self", "way", "other", "at"]) fun _ _ _ _ _ _ us hl => match us, hl with | [_, _, _, _], _ => rfl
  have one : ∀ {q : Addr × Addr → Prop}, q (cA, P.ca 98) → ∀ p ∈ [(cA, P.ca 98)], q p := fun {q} hq p hp => by rw [List.mem_singleton.mp hp]; exact hq
  refine ⟨PySem.W.fnOf "law" "law" (defArgs s_law) (defBody s_law) (defScope s_law) .none kV_law dc_law pm_law an_law cd_law ct_law, [(cA, P.ca 98)], spLawVT P.K (P.ca 98), one x_tab, one w_tab, one (PySem.W.codeHd_of_K X u_tab), fun s v => .of_eq rfl, fun H a ns hl _ hH hS => ⟨a, ns, rfl, hl, hH _ (List.mem_singleton.mpr rfl), hS, fun _ => rfl⟩, fun base _ _ TBs => ?_⟩
  have TB := TBs _ (List.mem_singleton.mpr rfl)
  have x_NoText : RaiseOk P l.prog w mg base "NoText" 1 1 [9, 10] := ⟨f_NoText_init, _, _, ⟨⟨_, _, _, _, _, _, _, _, _, _, _, _, _, _, _, xL_NoText, rfl⟩, sa_NoText, eC_NoText, tC_NoText, kC_NoText⟩, fun t ht => noB_ok no_NoText t (by revert t; decide), a_NoText_init, t_NoText_init, okx_NoText (P := P) (prog := l.prog) (w := w) (base := base) F_NoText_init ⟨rd_LampError, gs_LampError, fc_LampError⟩ (PySem.W.mg_of X G a_LampError), B_NoText_init, PySem.W.mg_of X G a_NoText⟩
  have x_NoWay : RaiseOk P l.prog w mg base "NoWay" 2 1 [0] := ⟨f_NoWay_init, _, _, ⟨⟨_, _, _, _, _, _, _, _, _, _, _, _, _, _, _, xL_NoWay, rfl⟩, sa_NoWay, eC_NoWay, tC_NoWay, kC_NoWay⟩, fun t ht => noB_ok no_NoWay t (by revert t; decide), a_NoWay_init, t_NoWay_init, okx_NoWay (P := P) (prog := l.prog) (w := w) (base := base) F_NoWay_init ⟨rd_LampError, gs_LampError, fc_LampError⟩ (PySem.W.mg_of X G a_LampError), B_NoWay_init, PySem.W.mg_of X G a_NoWay⟩
  have x_Never : RaiseOk P l.prog w mg base "Never" 3 1 [11] := ⟨f_Never_init, _, _, ⟨⟨_, _, _, _, _, _, _, _, _, _, _, _, _, _, _, xL_Never, rfl⟩, sa_Never, eC_Never, tC_Never, kC_Never⟩, fun t ht => noB_ok no_Never t (by revert t; decide), a_Never_init, t_Never_init, okx_Never (P := P) (prog := l.prog) (w := w) (base := base) F_Never_init ⟨rd_LampError, gs_LampError, fc_LampError⟩ (PySem.W.mg_of X G a_LampError), B_Never_init, PySem.W.mg_of X G a_Never⟩
  have x_Short : RaiseOk P l.prog w mg base "Short" 4 1 [11, 12] := ⟨f_Short_init, _, _, ⟨⟨_, _, _, _, _, _, _, _, _, _, _, _, _, _, _, xL_Short, rfl⟩, sa_Short, eC_Short, tC_Short, kC_Short⟩, fun t ht => noB_ok no_Short t (by revert t; decide), a_Short_init, t_Short_init, okx_Short (P := P) (prog := l.prog) (w := w) (base := base) F_Short_init ⟨rd_LampError, gs_LampError, fc_LampError⟩ (PySem.W.mg_of X G a_LampError), B_Short_init, PySem.W.mg_of X G a_Short⟩
  have x_Clash : RaiseOk P l.prog w mg base "Clash" 5 1 [11, 13, 12] := ⟨f_Clash_init, _, _, ⟨⟨_, _, _, _, _, _, _, _, _, _, _, _, _, _, _, xL_Clash, rfl⟩, sa_Clash, eC_Clash, tC_Clash, kC_Clash⟩, fun t ht => noB_ok no_Clash t (by revert t; decide), a_Clash_init, t_Clash_init, okx_Clash (P := P) (prog := l.prog) (w := w) (base := base) F_Clash_init ⟨rd_LampError, gs_LampError, fc_LampError⟩ (PySem.W.mg_of X G a_LampError), B_Clash_init, PySem.W.mg_of X G a_Clash⟩
  have c_l_draw : CallOk P l.prog w mg base "_law_draw" 1 sp_l_draw := ⟨f_l_draw, _, _, ok_l_draw (P := P) (prog := l.prog) (w := w) (base := base) F_l_draw b_len, PySem.W.mg_of X G a_l_draw, k_l_draw, B_l_draw⟩
  have c_l_way : CallOk P l.prog w mg base "_law_way" 2 sp_l_way := ⟨f_l_way, _, _, ok_l_way (P := P) (prog := l.prog) (w := w) (base := base) F_l_way c_l_draw, PySem.W.mg_of X G a_l_way, k_l_way, B_l_way⟩
  have c_l_spans : CallOk P l.prog w mg base "_law_spans" 2 sp_l_spans := ⟨f_l_spans, _, _, ok_l_spans (P := P) (prog := l.prog) (w := w) (base := base) F_l_spans b_max b_min c_l_draw b_range, PySem.W.mg_of X G a_l_spans, k_l_spans, B_l_spans⟩
  have m_names : ∀ c ∈ [13], MethOk P l.prog w mg base 52 1 c (mt_names c) := (mem_all ⟨f_Crossing_names, _, _, ⟨by rw [show P.fn 52 = "names" from fe_names]; exact a_Crossing_names, i_Crossing_names, k_Crossing_names⟩, (ok_Crossing_names (P := P) (prog := l.prog) (w := w) (base := base) F_Crossing_names ).mono (by decide), B_Crossing_names⟩ mem_none)
  have c_turned_plans : CallOk P l.prog w mg base "turned" 1 sp_turned_plans := ⟨f_turned_plans, _, _, ok_turned_plans (P := P) (prog := l.prog) (w := w) (base := base) F_turned_plans , PySem.W.mg_of X G a_turned_plans, k_turned_plans, B_turned_plans⟩
  have k_Plan : MakeOk P l.prog w mg base "Plan" 14 2 sp_Plan_init := ⟨f_Plan_init, _, _, ⟨mk_Plan, a_Plan_init, i_Plan_init, kc_Plan⟩, ok_Plan_init (P := P) (prog := l.prog) (w := w) (base := base) F_Plan_init m_names c_turned_plans, PySem.W.mg_of X G a_Plan, cf_Plan, B_Plan_init⟩
  have m_told_rows_14 : ∀ c ∈ [14], MethOk P l.prog w mg base 56 1 c (mt_told_rows_14 c) := (mem_all ⟨f_Plan_told_rows, _, _, ⟨by rw [show P.fn 56 = "told_rows" from fe_told_rows]; exact a_Plan_told_rows, i_Plan_told_rows, k_Plan_told_rows⟩, (ok_Plan_told_rows (P := P) (prog := l.prog) (w := w) (base := base) F_Plan_told_rows b_list).mono (by decide), B_Plan_told_rows⟩ mem_none)
  have m_number : ∀ c ∈ [13], MethOk P l.prog w mg base 53 3 c (mt_number c) := (mem_all ⟨f_Crossing_number, _, _, ⟨by rw [show P.fn 53 = "number" from fe_number]; exact a_Crossing_number, i_Crossing_number, k_Crossing_number⟩, (ok_Crossing_number (P := P) (prog := l.prog) (w := w) (base := base) F_Crossing_number b_enumerate x_NoWay).mono (by decide), B_Crossing_number⟩ mem_none)
  have m_called : ∀ c ∈ [13], MethOk P l.prog w mg base 54 4 c (mt_called c) := (mem_all ⟨f_Crossing_called, _, _, ⟨by rw [show P.fn 54 = "called" from fe_called]; exact a_Crossing_called, i_Crossing_called, k_Crossing_called⟩, (ok_Crossing_called (P := P) (prog := l.prog) (w := w) (base := base) F_Crossing_called m_number).mono (by decide), B_Crossing_called⟩ mem_none)
  have m_bits_of_14 : ∀ c ∈ [14], MethOk P l.prog w mg base 55 5 c (mt_bits_of_14 c) := (mem_all ⟨f_Plan_bits_of, _, _, ⟨by rw [show P.fn 55 = "bits_of" from fe_bits_of]; exact a_Plan_bits_of, i_Plan_bits_of, k_Plan_bits_of⟩, (ok_Plan_bits_of (P := P) (prog := l.prog) (w := w) (base := base) F_Plan_bits_of m_called).mono (by decide), B_Plan_bits_of⟩ mem_none)
  have c_room : CallOk P l.prog w mg base "room" 2 sp_room := ⟨f_room, _, _, ok_room (P := P) (prog := l.prog) (w := w) (base := base) F_room m_told_rows_14 b_enumerate b_min, PySem.W.mg_of X G a_room, k_room, B_room⟩
  have m_fade : ∀ c ∈ [10, 11, 12], MethOk P l.prog w mg base 49 1 c (mt_fade c) := (mem_all ⟨f_CarWay_fade, _, _, ⟨by rw [show P.fn 49 = "fade" from fe_fade]; exact a_CarWay_fade, i_CarWay_fade, k_CarWay_fade⟩, (ok_CarWay_fade (P := P) (prog := l.prog) (w := w) (base := base) F_CarWay_fade ).mono (by decide), B_CarWay_fade⟩ (mem_all ⟨f_FootWay_fade, _, _, ⟨by rw [show P.fn 49 = "fade" from fe_fade]; exact a_FootWay_fade, i_FootWay_fade, k_FootWay_fade⟩, (ok_FootWay_fade (P := P) (prog := l.prog) (w := w) (base := base) F_FootWay_fade ).mono (by decide), B_FootWay_fade⟩ (mem_all ⟨f_Way_fade, _, _, ⟨by rw [show P.fn 49 = "fade" from fe_fade]; exact h_TramWay_fade, i_Way_fade, k_Way_fade⟩, (ok_Way_fade (P := P) (prog := l.prog) (w := w) (base := base) F_Way_fade ).mono (by decide), B_Way_fade⟩ mem_none)))
  have m_ready : ∀ c ∈ [10, 11, 12], MethOk P l.prog w mg base 48 1 c (mt_ready c) := (mem_all ⟨f_Way_ready, _, _, ⟨by rw [show P.fn 48 = "ready" from fe_ready]; exact h_CarWay_ready, i_Way_ready, k_Way_ready⟩, (ok_Way_ready (P := P) (prog := l.prog) (w := w) (base := base) F_Way_ready ).mono (by decide), B_Way_ready⟩ (mem_all ⟨f_FootWay_ready, _, _, ⟨by rw [show P.fn 48 = "ready" from fe_ready]; exact a_FootWay_ready, i_FootWay_ready, k_FootWay_ready⟩, (ok_FootWay_ready (P := P) (prog := l.prog) (w := w) (base := base) F_FootWay_ready ).mono (by decide), B_FootWay_ready⟩ (mem_all ⟨f_TramWay_ready, _, _, ⟨by rw [show P.fn 48 = "ready" from fe_ready]; exact a_TramWay_ready, i_TramWay_ready, k_TramWay_ready⟩, (ok_TramWay_ready (P := P) (prog := l.prog) (w := w) (base := base) F_TramWay_ready ).mono (by decide), B_TramWay_ready⟩ mem_none)))
  have c_look_at_spans : CallOk P l.prog w mg base "look_at_spans" 6 sp_look_at_spans := ⟨f_look_at_spans, _, _, ok_look_at_spans (P := P) (prog := l.prog) (w := w) (base := base) F_look_at_spans m_told_rows_14 m_names m_bits_of_14 x_Never b_enumerate m_called c_room m_fade m_ready x_Short, PySem.W.mg_of X G a_look_at_spans, k_look_at_spans, B_look_at_spans⟩
  have c_bow : CallOk P l.prog w mg base "bow" 1 sp_bow := ⟨f_bow, _, _, ok_bow (P := P) (prog := l.prog) (w := w) (base := base) F_bow , PySem.W.mg_of X G a_bow, k_bow, B_bow⟩
  have c_ways_meet : CallOk P l.prog w mg base "ways_meet" 2 sp_ways_meet := ⟨f_ways_meet, _, _, ok_ways_meet (P := P) (prog := l.prog) (w := w) (base := base) F_ways_meet c_bow, PySem.W.mg_of X G a_ways_meet, k_ways_meet, B_ways_meet⟩
  have c_meet : CallOk P l.prog w mg base "meet" 5 sp_meet := ⟨f_meet, _, _, ok_meet (P := P) (prog := l.prog) (w := w) (base := base) F_meet c_ways_meet m_called, PySem.W.mg_of X G a_meet, k_meet, B_meet⟩
  have c_gap : CallOk P l.prog w mg base "gap" 5 sp_gap := ⟨f_gap, _, _, ok_gap (P := P) (prog := l.prog) (w := w) (base := base) F_gap m_called b_max, PySem.W.mg_of X G a_gap, k_gap, B_gap⟩
  have c_too_near : CallOk P l.prog w mg base "too_near" 6 sp_too_near := ⟨f_too_near, _, _, ok_too_near (P := P) (prog := l.prog) (w := w) (base := base) F_too_near m_bits_of_14 b_range b_min c_gap c_turned_plans, PySem.W.mg_of X G a_too_near, k_too_near, B_too_near⟩
  have c_look_at_pairs : CallOk P l.prog w mg base "look_at_pairs" 7 sp_look_at_pairs := ⟨f_look_at_pairs, _, _, ok_look_at_pairs (P := P) (prog := l.prog) (w := w) (base := base) F_look_at_pairs m_names c_meet c_too_near x_Clash, PySem.W.mg_of X G a_look_at_pairs, k_look_at_pairs, B_look_at_pairs⟩
  have c_made_plan : CallOk P l.prog w mg base "made_plan" 8 sp_made_plan := ⟨f_made_plan, _, _, ok_made_plan (P := P) (prog := l.prog) (w := w) (base := base) F_made_plan k_Plan c_look_at_spans c_look_at_pairs, PySem.W.mg_of X G a_made_plan, k_made_plan, B_made_plan⟩
  have c_words : CallOk P l.prog w mg base "words" 1 sp_words := ⟨f_words, _, _, ok_words (P := P) (prog := l.prog) (w := w) (base := base) F_words , PySem.W.mg_of X G a_words, k_words, B_words⟩
  have c_figured : CallOk P l.prog w mg base "figured" 1 sp_figured := ⟨f_figured, _, _, ok_figured (P := P) (prog := l.prog) (w := w) (base := base) F_figured b_len g_FIGURES, PySem.W.mg_of X G a_figured, k_figured, B_figured⟩
  have c_read_head : CallOk P l.prog w mg base "read_head" 3 sp_read_head := ⟨f_read_head, _, _, ok_read_head (P := P) (prog := l.prog) (w := w) (base := base) F_read_head x_NoText b_len c_figured, PySem.W.mg_of X G a_read_head, k_read_head, B_read_head⟩
  have c_is_name : CallOk P l.prog w mg base "is_name" 1 sp_is_name := ⟨f_is_name, _, _, ok_is_name (P := P) (prog := l.prog) (w := w) (base := base) F_is_name b_len g_LETTERS, PySem.W.mg_of X G a_is_name, k_is_name, B_is_name⟩
  have i_Way : InitOk P l.prog w mg base "Way" 1 sp_Way_init := ⟨_, f_Way_init, _, _, ⟨rd_Way, gs_Way, fc_Way⟩, k_Way_init, ok_Way_init (P := P) (prog := l.prog) (w := w) (base := base) F_Way_init , PySem.W.mg_of X G a_Way, B_Way_init⟩
  have k_CarWay : MakeOk P l.prog w mg base "CarWay" 10 2 sp_CarWay_init := ⟨f_CarWay_init, _, _, ⟨mk_CarWay, a_CarWay_init, i_CarWay_init, kc_CarWay⟩, ok_CarWay_init (P := P) (prog := l.prog) (w := w) (base := base) F_CarWay_init i_Way, PySem.W.mg_of X G a_CarWay, cf_CarWay, B_CarWay_init⟩
  have k_FootWay : MakeOk P l.prog w mg base "FootWay" 11 2 sp_FootWay_init := ⟨f_FootWay_init, _, _, ⟨mk_FootWay, a_FootWay_init, i_FootWay_init, kc_FootWay⟩, ok_FootWay_init (P := P) (prog := l.prog) (w := w) (base := base) F_FootWay_init i_Way, PySem.W.mg_of X G a_FootWay, cf_FootWay, B_FootWay_init⟩
  have k_TramWay : MakeOk P l.prog w mg base "TramWay" 12 2 sp_TramWay_init := ⟨f_TramWay_init, _, _, ⟨mk_TramWay, a_TramWay_init, i_TramWay_init, kc_TramWay⟩, ok_TramWay_init (P := P) (prog := l.prog) (w := w) (base := base) F_TramWay_init i_Way, PySem.W.mg_of X G a_TramWay, cf_TramWay, B_TramWay_init⟩
  have c_made_way : CallOk P l.prog w mg base "made_way" 4 sp_made_way := ⟨f_made_way, _, _, ok_made_way (P := P) (prog := l.prog) (w := w) (base := base) F_made_way k_CarWay k_FootWay k_TramWay, PySem.W.mg_of X G a_made_way, k_made_way, B_made_way⟩
  have c_read_numbers : CallOk P l.prog w mg base "read_numbers" 3 sp_read_numbers := ⟨f_read_numbers, _, _, ok_read_numbers (P := P) (prog := l.prog) (w := w) (base := base) F_read_numbers b_range b_len x_NoText c_figured, PySem.W.mg_of X G a_read_numbers, k_read_numbers, B_read_numbers⟩
  have c_read_way : CallOk P l.prog w mg base "read_way" 5 sp_read_way := ⟨f_read_way, _, _, ok_read_way (P := P) (prog := l.prog) (w := w) (base := base) F_read_way g_MOST_WAYS g_SORTS x_NoText b_len c_is_name c_made_way c_read_numbers, PySem.W.mg_of X G a_read_way, k_read_way, B_read_way⟩
  have k_Crossing : MakeOk P l.prog w mg base "Crossing" 13 1 sp_Crossing_init := ⟨f_Crossing_init, _, _, ⟨mk_Crossing, a_Crossing_init, i_Crossing_init, kc_Crossing⟩, ok_Crossing_init (P := P) (prog := l.prog) (w := w) (base := base) F_Crossing_init b_list, PySem.W.mg_of X G a_Crossing, cf_Crossing, B_Crossing_init⟩
  have c_read_crossing : CallOk P l.prog w mg base "read_crossing" 6 sp_read_crossing := ⟨f_read_crossing, _, _, ok_read_crossing (P := P) (prog := l.prog) (w := w) (base := base) F_read_crossing c_words c_read_head b_len x_NoText b_range c_read_way k_Crossing, PySem.W.mg_of X G a_read_crossing, k_read_crossing, B_read_crossing⟩
  have c_l_text : CallOk P l.prog w mg base "_law_text" 1 sp_l_text := ⟨f_l_text, _, _, ok_l_text (P := P) (prog := l.prog) (w := w) (base := base) F_l_text b_str, PySem.W.mg_of X G a_l_text, k_l_text, B_l_text⟩
  have c_l_plan : CallOk P l.prog w mg base "_law_plan" 9 sp_l_plan := ⟨f_l_plan, _, _, ok_l_plan (P := P) (prog := l.prog) (w := w) (base := base) F_l_plan c_l_spans c_l_draw b_len c_made_plan c_read_crossing c_l_text, PySem.W.mg_of X G a_l_plan, k_l_plan, B_l_plan⟩
  have c_l_comings : CallOk P l.prog w mg base "_law_comings" 2 sp_l_comings := ⟨f_l_comings, _, _, ok_l_comings (P := P) (prog := l.prog) (w := w) (base := base) F_l_comings c_l_draw b_range b_len, PySem.W.mg_of X G a_l_comings, k_l_comings, B_l_comings⟩
  have c_coming_by : CallOk P l.prog w mg base "coming_by" 1 sp_coming_by := ⟨f_coming_by, _, _, ok_coming_by (P := P) (prog := l.prog) (w := w) (base := base) F_coming_by b_list eN rfl TB, PySem.W.mg_of X G a_coming_by, k_coming_by, B_coming_by⟩
  have nc := ok_come (P := P) (prog := l.prog) (w := w) (base := base) eN b_len
  have c_free : CallOk P l.prog w mg base "free" 6 sp_free := ⟨f_free, _, _, ok_free (P := P) (prog := l.prog) (w := w) (base := base) F_free m_bits_of_14, PySem.W.mg_of X G a_free, k_free, B_free⟩
  have m_goes : ∀ c ∈ [10, 11, 12], MethOk P l.prog w mg base 50 1 c (mt_goes c) := (mem_all ⟨f_Way_goes, _, _, ⟨by rw [show P.fn 50 = "goes" from fe_goes]; exact h_CarWay_goes, i_Way_goes, k_Way_goes⟩, (ok_Way_goes (P := P) (prog := l.prog) (w := w) (base := base) F_Way_goes b_min).mono (by decide), B_Way_goes⟩ (mem_all ⟨f_FootWay_goes, _, _, ⟨by rw [show P.fn 50 = "goes" from fe_goes]; exact a_FootWay_goes, i_FootWay_goes, k_FootWay_goes⟩, (ok_FootWay_goes (P := P) (prog := l.prog) (w := w) (base := base) F_FootWay_goes ).mono (by decide), B_FootWay_goes⟩ (mem_all ⟨f_Way_goes, _, _, ⟨by rw [show P.fn 50 = "goes" from fe_goes]; exact h_TramWay_goes, i_Way_goes, k_Way_goes⟩, (ok_Way_goes (P := P) (prog := l.prog) (w := w) (base := base) F_Way_goes b_min).mono (by decide), B_Way_goes⟩ mem_none)))
  have c_stood_behind : CallOk P l.prog w mg base "stood_behind" 7 sp_stood_behind := ⟨f_stood_behind, _, _, ok_stood_behind (P := P) (prog := l.prog) (w := w) (base := base) F_stood_behind m_called c_coming_by b_range nc c_free m_goes, PySem.W.mg_of X G a_stood_behind, k_stood_behind, B_stood_behind⟩
  have c_grows : CallOk P l.prog w mg base "grows" 7 sp_grows := ⟨f_grows, _, _, ok_grows (P := P) (prog := l.prog) (w := w) (base := base) F_grows m_called b_range c_free b_max b_sum, PySem.W.mg_of X G a_grows, k_grows, B_grows⟩
  have c_queue : CallOk P l.prog w mg base "queue" 8 sp_queue := ⟨f_queue, _, _, ok_queue (P := P) (prog := l.prog) (w := w) (base := base) F_queue b_divmod c_stood_behind c_grows, PySem.W.mg_of X G a_queue, k_queue, B_queue⟩
  have c_l_queue : CallOk P l.prog w mg base "_law_queue" 9 sp_l_queue := ⟨f_l_queue, _, _, ok_l_queue (P := P) (prog := l.prog) (w := w) (base := base) F_l_queue b_list c_queue b_isinstance b_int b_bool, PySem.W.mg_of X G a_l_queue, k_l_queue, B_l_queue⟩
  have c_l_free : CallOk P l.prog w mg base "_law_free" 3 sp_l_free := ⟨f_l_free, _, _, ok_l_free (P := P) (prog := l.prog) (w := w) (base := base) F_l_free c_l_spans, PySem.W.mg_of X G a_l_free, k_l_free, B_l_free⟩
  exact thaw ((ok_law (P := P) (prog := l.prog) (w := w) (base := base) F_law c_l_draw c_l_way c_l_plan c_l_comings b_len c_l_queue c_l_free b_max b_int).imp (law_impT P))
theorem walk {l : PySem.W.OpenLaw} {q : Program} {loose : List Str} {XP : (Str → Option Value) → Heap → Prop} {YP : World → Heap → Prop} {d : DefRec} {K : Params → PySem.W.Frag} (hn : l.most = some 63) (hdf : d.params.defaults = [])
    (hY : ∀ (w : World) (h : Heap), YP w h → (K w.params).In h)
    (F : ∀ (w : World) (mg : Str → Option Value) (fa : Addr) (h : Heap), YP w h → (K w.params).In h → h.Ns mainGlobals mg → mg d.name = some (.ref fa) → LamX.LawAtS l w (K w.params) (L2.CX l.prog w) 10 63 "_law_script" mg fa h) :
    PySem.W.WalkO q loose XP YP l.row.toRowW d [] (fun f vs => PySem.call f vs) :=
  LamX.walk_ofTs (CX := fun w => L2.CX l.prog w) hn (by decide) hdf ⟨rfl, by decide, by decide⟩ hY F fun _ _ _ _ _ z => by
    obtain ⟨_, _, _, _, _, _, _, _, _, _, _, _, z⟩ := z
    exact z.elim
end Lw
open PySem PySem.W PyProof.Rows
set_option maxRecDepth 100000 in
set_option maxHeartbeats 0 in
theorem PySem.Challenge.cw_lampway_k46_a_queue_step_holds : PySem.Challenge.rw_lampway_k46_a_queue_step.Holds := by
  w_on; o_law; k_head; (case hw => w_witness2)
  k_fill
  refine Lw.walk (l := PySem.Challenge.rw_lampway_k46_a_queue_step) rfl rfl (fun w h Y => PySem.W.km_in_of Y) ?F
  case F =>
    intro w mg fa h Y KX G hmg
    refine' Lw.all_mk KX G hmg ?a_LampError ?a_NoText ?a_NoWay ?a_Never ?a_Short ?a_Clash ?a_Way ?a_CarWay ?a_FootWay ?a_TramWay ?a_Crossing ?a_Plan ?pg_Way ?hd_Way ?po_Way ?sa_Way ?mk_Way ?kc_Way ?no_Way ?pg_CarWay ?hd_CarWay ?po_CarWay ?sa_CarWay ?mk_CarWay ?kc_CarWay ?no_CarWay ?pg_FootWay ?hd_FootWay ?po_FootWay ?sa_FootWay ?mk_FootWay ?kc_FootWay ?no_FootWay ?pg_TramWay ?hd_TramWay ?po_TramWay ?sa_TramWay ?mk_TramWay ?kc_TramWay ?no_TramWay ?pg_Crossing ?hd_Crossing ?po_Crossing ?sa_Crossing ?mk_Crossing ?kc_Crossing ?no_Crossing ?pg_Plan ?hd_Plan ?po_Plan ?sa_Plan ?mk_Plan ?kc_Plan ?no_Plan ?eC_LampError ?tC_LampError ?kC_LampError ?hd_LampError ?xL_NoText ?eC_NoText ?tC_NoText ?kC_NoText ?hd_NoText ?sa_NoText ?ga_NoText ?gg_NoText ?no_NoText ?xL_NoWay ?eC_NoWay ?tC_NoWay ?kC_NoWay ?hd_NoWay ?sa_NoWay ?ga_NoWay ?gg_NoWay ?no_NoWay ?xL_Never ?eC_Never ?tC_Never ?kC_Never ?hd_Never ?sa_Never ?ga_Never ?gg_Never ?no_Never ?xL_Short ?eC_Short ?tC_Short ?kC_Short ?hd_Short ?sa_Short ?ga_Short ?gg_Short ?no_Short ?xL_Clash ?eC_Clash ?tC_Clash ?kC_Clash ?hd_Clash ?sa_Clash ?ga_Clash ?gg_Clash ?no_Clash ?rd_LampError ?gs_LampError ?fc_LampError ?a_free ?l_free ?q_free ?k_free ?a_coming_by ?l_coming_by ?q_coming_by ?k_coming_by ?a_stood_behind ?l_stood_behind ?q_stood_behind ?k_stood_behind ?a_grows ?l_grows ?q_grows ?k_grows ?a_queue ?l_queue ?q_queue ?k_queue ?a_Way_init ?i_Way_init ?l_Way_init ?q_Way_init ?k_Way_init ?a_Way_ready ?i_Way_ready ?l_Way_ready ?q_Way_ready ?k_Way_ready ?a_Way_fade ?i_Way_fade ?l_Way_fade ?q_Way_fade ?k_Way_fade ?a_Way_goes ?i_Way_goes ?l_Way_goes ?q_Way_goes ?k_Way_goes ?a_CarWay_init ?i_CarWay_init ?l_CarWay_init ?q_CarWay_init ?k_CarWay_init ?a_CarWay_fade ?i_CarWay_fade ?l_CarWay_fade ?q_CarWay_fade ?k_CarWay_fade ?a_FootWay_init ?i_FootWay_init ?l_FootWay_init ?q_FootWay_init ?k_FootWay_init ?a_FootWay_ready ?i_FootWay_ready ?l_FootWay_ready ?q_FootWay_ready ?k_FootWay_ready ?a_FootWay_fade ?i_FootWay_fade ?l_FootWay_fade ?q_FootWay_fade ?k_FootWay_fade ?a_FootWay_goes ?i_FootWay_goes ?l_FootWay_goes ?q_FootWay_goes ?k_FootWay_goes ?a_TramWay_init ?i_TramWay_init ?l_TramWay_init ?q_TramWay_init ?k_TramWay_init ?a_TramWay_ready ?i_TramWay_ready ?l_TramWay_ready ?q_TramWay_ready ?k_TramWay_ready ?a_words ?l_words ?q_words ?k_words ?a_figured ?l_figured ?q_figured ?k_figured ?a_is_name ?l_is_name ?q_is_name ?k_is_name ?a_Crossing_init ?i_Crossing_init ?l_Crossing_init ?q_Crossing_init ?k_Crossing_init ?a_Crossing_names ?i_Crossing_names ?l_Crossing_names ?q_Crossing_names ?k_Crossing_names ?a_Crossing_number ?i_Crossing_number ?l_Crossing_number ?q_Crossing_number ?k_Crossing_number ?a_Crossing_called ?i_Crossing_called ?l_Crossing_called ?q_Crossing_called ?k_Crossing_called ?a_made_way ?l_made_way ?q_made_way ?k_made_way ?a_read_head ?l_read_head ?q_read_head ?k_read_head ?a_read_numbers ?l_read_numbers ?q_read_numbers ?k_read_numbers ?a_read_way ?l_read_way ?q_read_way ?k_read_way ?a_read_crossing ?l_read_crossing ?q_read_crossing ?k_read_crossing ?a_bow ?l_bow ?q_bow ?k_bow ?a_ways_meet ?l_ways_meet ?q_ways_meet ?k_ways_meet ?a_meet ?l_meet ?q_meet ?k_meet ?a_gap ?l_gap ?q_gap ?k_gap ?a_turned_plans ?l_turned_plans ?q_turned_plans ?k_turned_plans ?a_Plan_init ?i_Plan_init ?l_Plan_init ?q_Plan_init ?k_Plan_init ?a_Plan_bits_of ?i_Plan_bits_of ?l_Plan_bits_of ?q_Plan_bits_of ?k_Plan_bits_of ?a_Plan_told_rows ?i_Plan_told_rows ?l_Plan_told_rows ?q_Plan_told_rows ?k_Plan_told_rows ?a_room ?l_room ?q_room ?k_room ?a_look_at_spans ?l_look_at_spans ?q_look_at_spans ?k_look_at_spans ?a_too_near ?l_too_near ?q_too_near ?k_too_near ?a_look_at_pairs ?l_look_at_pairs ?q_look_at_pairs ?k_look_at_pairs ?a_made_plan ?l_made_plan ?q_made_plan ?k_made_plan ?a_l_draw ?l_l_draw ?q_l_draw ?k_l_draw ?a_l_text ?l_l_text ?q_l_text ?k_l_text ?a_l_spans ?l_l_spans ?q_l_spans ?k_l_spans ?a_l_way ?l_l_way ?q_l_way ?k_l_way ?a_l_plan ?l_l_plan ?q_l_plan ?k_l_plan ?a_l_free ?l_l_free ?q_l_free ?k_l_free ?a_l_comings ?l_l_comings ?q_l_comings ?k_l_comings ?a_l_queue ?l_l_queue ?q_l_queue ?k_l_queue ?a_law ?l_law ?q_law ?k_law ?a_NoText_init ?i_NoText_init ?l_NoText_init ?q_NoText_init ?k_NoText_init ?a_NoWay_init ?i_NoWay_init ?l_NoWay_init ?q_NoWay_init ?k_NoWay_init ?a_Never_init ?i_Never_init ?l_Never_init ?q_Never_init ?k_Never_init ?a_Short_init ?i_Short_init ?l_Short_init ?q_Short_init ?k_Short_init ?a_Clash_init ?i_Clash_init ?l_Clash_init ?q_Clash_init ?k_Clash_init ?t_NoText_init ?t_NoWay_init ?t_Never_init ?t_Short_init ?t_Clash_init ?rd_Way ?gs_Way ?fc_Way ?h_CarWay_goes ?h_TramWay_goes ?h_TramWay_fade ?h_CarWay_ready ?z_len ?z_list ?z_range ?z_max ?z_sum ?z_divmod ?z_min ?z_enumerate ?z_str ?z_isinstance ?z_int ?z_bool ?y_FIGURES ?y_LETTERS ?y_MOST_WAYS ?y_SORTS ?w_SORTS ?e_cd ?v_tab ?u_tab ?w_tab ?x_tab
    (case a_LampError => k_is)
    (case a_NoText => k_is)
    (case a_NoWay => k_is)
    (case a_Never => k_is)
    (case a_Short => k_is)
    (case a_Clash => k_is)
    (case a_Way => k_is)
    (case a_CarWay => k_is)
    (case a_FootWay => k_is)
    (case a_TramWay => k_is)
    (case a_Crossing => k_is)
    (case a_Plan => k_is)
    (case pg_Way => k_is)
    (case hd_Way => k_is)
    (case po_Way => k_is)
    (case sa_Way => k_is)
    (case mk_Way => k_is)
    (case kc_Way => k_is)
    (case no_Way => kernel_rfl)
    (case pg_CarWay => k_is)
    (case hd_CarWay => k_is)
    (case po_CarWay => k_is)
    (case sa_CarWay => k_is)
    (case mk_CarWay => k_is)
    (case kc_CarWay => k_is)
    (case no_CarWay => kernel_rfl)
    (case pg_FootWay => k_is)
    (case hd_FootWay => k_is)
    (case po_FootWay => k_is)
    (case sa_FootWay => k_is)
    (case mk_FootWay => k_is)
    (case kc_FootWay => k_is)
    (case no_FootWay => kernel_rfl)
    (case pg_TramWay => k_is)
    (case hd_TramWay => k_is)
    (case po_TramWay => k_is)
    (case sa_TramWay => k_is)
    (case mk_TramWay => k_is)
    (case kc_TramWay => k_is)
    (case no_TramWay => kernel_rfl)
    (case pg_Crossing => k_is)
    (case hd_Crossing => k_is)
    (case po_Crossing => k_is)
    (case sa_Crossing => k_is)
    (case mk_Crossing => k_is)
    (case kc_Crossing => k_is)
    (case no_Crossing => kernel_rfl)
    (case pg_Plan => k_is)
    (case hd_Plan => k_is)
    (case po_Plan => k_is)
    (case sa_Plan => k_is)
    (case mk_Plan => k_is)
    (case kc_Plan => k_is)
    (case no_Plan => kernel_rfl)
    (case eC_LampError => k_is)
    (case tC_LampError => k_is)
    (case kC_LampError => k_is)
    (case hd_LampError => k_is)
    (case xL_NoText => k_is)
    (case eC_NoText => k_is)
    (case tC_NoText => k_is)
    (case kC_NoText => k_is)
    (case hd_NoText => k_is)
    (case sa_NoText => k_is)
    (case ga_NoText => k_is)
    (case gg_NoText => k_is)
    (case no_NoText => kernel_rfl)
    (case xL_NoWay => k_is)
    (case eC_NoWay => k_is)
    (case tC_NoWay => k_is)
    (case kC_NoWay => k_is)
    (case hd_NoWay => k_is)
    (case sa_NoWay => k_is)
    (case ga_NoWay => k_is)
    (case gg_NoWay => k_is)
    (case no_NoWay => kernel_rfl)
    (case xL_Never => k_is)
    (case eC_Never => k_is)
    (case tC_Never => k_is)
    (case kC_Never => k_is)
    (case hd_Never => k_is)
    (case sa_Never => k_is)
    (case ga_Never => k_is)
    (case gg_Never => k_is)
    (case no_Never => kernel_rfl)
    (case xL_Short => k_is)
    (case eC_Short => k_is)
    (case tC_Short => k_is)
    (case kC_Short => k_is)
    (case hd_Short => k_is)
    (case sa_Short => k_is)
    (case ga_Short => k_is)
    (case gg_Short => k_is)
    (case no_Short => kernel_rfl)
    (case xL_Clash => k_is)
    (case eC_Clash => k_is)
    (case tC_Clash => k_is)
    (case kC_Clash => k_is)
    (case hd_Clash => k_is)
    (case sa_Clash => k_is)
    (case ga_Clash => k_is)
    (case gg_Clash => k_is)
    (case no_Clash => kernel_rfl)
    (case rd_LampError => k_is)
    (case gs_LampError => k_is)
    (case fc_LampError => k_is)
    (case a_free => k_is)
    (case l_free => k_is)
    (case q_free => k_is)
    (case k_free => k_is)
    (case a_coming_by => k_is)
    (case l_coming_by => k_is)
    (case q_coming_by => k_is)
    (case k_coming_by => k_is)
    (case a_stood_behind => k_is)
    (case l_stood_behind => k_is)
    (case q_stood_behind => k_is)
    (case k_stood_behind => k_is)
    (case a_grows => k_is)
    (case l_grows => k_is)
    (case q_grows => k_is)
    (case k_grows => k_is)
    (case a_queue => k_is)
    (case l_queue => k_is)
    (case q_queue => k_is)
    (case k_queue => k_is)
    (case a_Way_init => k_is)
    (case i_Way_init => k_is)
    (case l_Way_init => k_is)
    (case q_Way_init => k_is)
    (case k_Way_init => k_is)
    (case a_Way_ready => k_is)
    (case i_Way_ready => k_is)
    (case l_Way_ready => k_is)
    (case q_Way_ready => k_is)
    (case k_Way_ready => k_is)
    (case a_Way_fade => k_is)
    (case i_Way_fade => k_is)
    (case l_Way_fade => k_is)
    (case q_Way_fade => k_is)
    (case k_Way_fade => k_is)
    (case a_Way_goes => k_is)
    (case i_Way_goes => k_is)
    (case l_Way_goes => k_is)
    (case q_Way_goes => k_is)
    (case k_Way_goes => k_is)
    (case a_CarWay_init => k_is)
    (case i_CarWay_init => k_is)
    (case l_CarWay_init => k_is)
    (case q_CarWay_init => k_is)
    (case k_CarWay_init => k_is)
    (case a_CarWay_fade => k_is)
    (case i_CarWay_fade => k_is)
    (case l_CarWay_fade => k_is)
    (case q_CarWay_fade => k_is)
    (case k_CarWay_fade => k_is)
    (case a_FootWay_init => k_is)
    (case i_FootWay_init => k_is)
    (case l_FootWay_init => k_is)
    (case q_FootWay_init => k_is)
    (case k_FootWay_init => k_is)
    (case a_FootWay_ready => k_is)
    (case i_FootWay_ready => k_is)
    (case l_FootWay_ready => k_is)
    (case q_FootWay_ready => k_is)
    (case k_FootWay_ready => k_is)
    (case a_FootWay_fade => k_is)
    (case i_FootWay_fade => k_is)
    (case l_FootWay_fade => k_is)
    (case q_FootWay_fade => k_is)
    (case k_FootWay_fade => k_is)
    (case a_FootWay_goes => k_is)
    (case i_FootWay_goes => k_is)
    (case l_FootWay_goes => k_is)
    (case q_FootWay_goes => k_is)
    (case k_FootWay_goes => k_is)
    (case a_TramWay_init => k_is)
    (case i_TramWay_init => k_is)
    (case l_TramWay_init => k_is)
    (case q_TramWay_init => k_is)
    (case k_TramWay_init => k_is)
    (case a_TramWay_ready => k_is)
    (case i_TramWay_ready => k_is)
    (case l_TramWay_ready => k_is)
    (case q_TramWay_ready => k_is)
    (case k_TramWay_ready => k_is)
    (case a_words => k_is)
    (case l_words => k_is)
    (case q_words => k_is)
    (case k_words => k_is)
    (case a_figured => k_is)
    (case l_figured => k_is)
    (case q_figured => k_is)
    (case k_figured => k_is)
    (case a_is_name => k_is)
    (case l_is_name => k_is)
    (case q_is_name => k_is)
    (case k_is_name => k_is)
    (case a_Crossing_init => k_is)
    (case i_Crossing_init => k_is)
    (case l_Crossing_init => k_is)
    (case q_Crossing_init => k_is)
    (case k_Crossing_init => k_is)
    (case a_Crossing_names => k_is)
    (case i_Crossing_names => k_is)
    (case l_Crossing_names => k_is)
    (case q_Crossing_names => k_is)
    (case k_Crossing_names => k_is)
    (case a_Crossing_number => k_is)
    (case i_Crossing_number => k_is)
    (case l_Crossing_number => k_is)
    (case q_Crossing_number => k_is)
    (case k_Crossing_number => k_is)
    (case a_Crossing_called => k_is)
    (case i_Crossing_called => k_is)
    (case l_Crossing_called => k_is)
    (case q_Crossing_called => k_is)
    (case k_Crossing_called => k_is)
    (case a_made_way => k_is)
    (case l_made_way => k_is)
    (case q_made_way => k_is)
    (case k_made_way => k_is)
    (case a_read_head => k_is)
    (case l_read_head => k_is)
    (case q_read_head => k_is)
    (case k_read_head => k_is)
    (case a_read_numbers => k_is)
    (case l_read_numbers => k_is)
    (case q_read_numbers => k_is)
    (case k_read_numbers => k_is)
    (case a_read_way => k_is)
    (case l_read_way => k_is)
    (case q_read_way => k_is)
    (case k_read_way => k_is)
    (case a_read_crossing => k_is)
    (case l_read_crossing => k_is)
    (case q_read_crossing => k_is)
    (case k_read_crossing => k_is)
    (case a_bow => k_is)
    (case l_bow => k_is)
    (case q_bow => k_is)
    (case k_bow => k_is)
    (case a_ways_meet => k_is)
    (case l_ways_meet => k_is)
    (case q_ways_meet => k_is)
    (case k_ways_meet => k_is)
    (case a_meet => k_is)
    (case l_meet => k_is)
    (case q_meet => k_is)
    (case k_meet => k_is)
    (case a_gap => k_is)
    (case l_gap => k_is)
    (case q_gap => k_is)
    (case k_gap => k_is)
    (case a_turned_plans => k_is)
    (case l_turned_plans => k_is)
    (case q_turned_plans => k_is)
    (case k_turned_plans => k_is)
    (case a_Plan_init => k_is)
    (case i_Plan_init => k_is)
    (case l_Plan_init => k_is)
    (case q_Plan_init => k_is)
    (case k_Plan_init => k_is)
    (case a_Plan_bits_of => k_is)
    (case i_Plan_bits_of => k_is)
    (case l_Plan_bits_of => k_is)
    (case q_Plan_bits_of => k_is)
    (case k_Plan_bits_of => k_is)
    (case a_Plan_told_rows => k_is)
    (case i_Plan_told_rows => k_is)
    (case l_Plan_told_rows => k_is)
    (case q_Plan_told_rows => k_is)
    (case k_Plan_told_rows => k_is)
    (case a_room => k_is)
    (case l_room => k_is)
    (case q_room => k_is)
    (case k_room => k_is)
    (case a_look_at_spans => k_is)
    (case l_look_at_spans => k_is)
    (case q_look_at_spans => k_is)
    (case k_look_at_spans => k_is)
    (case a_too_near => k_is)
    (case l_too_near => k_is)
    (case q_too_near => k_is)
    (case k_too_near => k_is)
    (case a_look_at_pairs => k_is)
    (case l_look_at_pairs => k_is)
    (case q_look_at_pairs => k_is)
    (case k_look_at_pairs => k_is)
    (case a_made_plan => k_is)
    (case l_made_plan => k_is)
    (case q_made_plan => k_is)
    (case k_made_plan => k_is)
    (case a_l_draw => k_is)
    (case l_l_draw => k_is)
    (case q_l_draw => k_is)
    (case k_l_draw => k_is)
    (case a_l_text => k_is)
    (case l_l_text => k_is)
    (case q_l_text => k_is)
    (case k_l_text => k_is)
    (case a_l_spans => k_is)
    (case l_l_spans => k_is)
    (case q_l_spans => k_is)
    (case k_l_spans => k_is)
    (case a_l_way => k_is)
    (case l_l_way => k_is)
    (case q_l_way => k_is)
    (case k_l_way => k_is)
    (case a_l_plan => k_is)
    (case l_l_plan => k_is)
    (case q_l_plan => k_is)
    (case k_l_plan => k_is)
    (case a_l_free => k_is)
    (case l_l_free => k_is)
    (case q_l_free => k_is)
    (case k_l_free => k_is)
    (case a_l_comings => k_is)
    (case l_l_comings => k_is)
    (case q_l_comings => k_is)
    (case k_l_comings => k_is)
    (case a_l_queue => k_is)
    (case l_l_queue => k_is)
    (case q_l_queue => k_is)
    (case k_l_queue => k_is)
    (case a_law => k_is)
    (case l_law => k_is)
    (case q_law => k_is)
    (case k_law => k_is)
    (case a_NoText_init => k_is)
    (case i_NoText_init => k_is)
    (case l_NoText_init => k_is)
    (case q_NoText_init => k_is)
    (case k_NoText_init => k_is)
    (case a_NoWay_init => k_is)
    (case i_NoWay_init => k_is)
    (case l_NoWay_init => k_is)
    (case q_NoWay_init => k_is)
    (case k_NoWay_init => k_is)
    (case a_Never_init => k_is)
    (case i_Never_init => k_is)
    (case l_Never_init => k_is)
    (case q_Never_init => k_is)
    (case k_Never_init => k_is)
    (case a_Short_init => k_is)
    (case i_Short_init => k_is)
    (case l_Short_init => k_is)
    (case q_Short_init => k_is)
    (case k_Short_init => k_is)
    (case a_Clash_init => k_is)
    (case i_Clash_init => k_is)
    (case l_Clash_init => k_is)
    (case q_Clash_init => k_is)
    (case k_Clash_init => k_is)
    (case t_NoText_init => k_is)
    (case t_NoWay_init => k_is)
    (case t_Never_init => k_is)
    (case t_Short_init => k_is)
    (case t_Clash_init => k_is)
    (case rd_Way => k_is)
    (case gs_Way => k_is)
    (case fc_Way => k_is)
    (case h_CarWay_goes => k_is)
    (case h_TramWay_goes => k_is)
    (case h_TramWay_fade => k_is)
    (case h_CarWay_ready => k_is)
    (case z_len => k_is)
    (case z_list => k_is)
    (case z_range => k_is)
    (case z_max => k_is)
    (case z_sum => k_is)
    (case z_divmod => k_is)
    (case z_min => k_is)
    (case z_enumerate => k_is)
    (case z_str => k_is)
    (case z_isinstance => k_is)
    (case z_int => k_is)
    (case z_bool => k_is)
    (case y_FIGURES => k_is)
    (case y_LETTERS => k_is)
    (case y_MOST_WAYS => k_is)
    (case y_SORTS => k_is)
    (case w_SORTS => k_is)
    (case e_cd => rfl)
    (case v_tab => rfl)
    (case u_tab => kernel_rfl)
    (case w_tab => kernel_rfl)
    (case x_tab => exact PySem.W.km_tabs_of Y _ (by k_mem))
#print axioms PySem.Challenge.cw_lampway_k46_a_queue_step_holds
