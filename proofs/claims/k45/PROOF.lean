import PyProof.Rows.All
import Wide.All
import OpenK.AllK
import Wide.FinOn
import PyProof.EqAt
import PyProof.EqKinds
import PyProof.FactsAll.bool_1
import HandS.ForMost
import PyProof.TupleCall
import HandS.Exc
import HandS.ExcOwn
import HandS.TryOnly
import HandS.WordsExc
import HandS.CallSlots
import HandS.NestedK
import HandS.TupAny
import HandS.Deep
import HandS.Wide
import HandS.WideBits
import HandS.Iter
import HandS.Zip
import HandS.Comp
import HandS.IsInst
import HandS.StrMore
import HandS.More
import HandS.Replace
import HandS.Text
import HandS.ExcInit
import HandS.Dict
import HandS.ClsMeth
import HandS.ExcField
import HandS.DictComp
import HandS.ExcIs
import HandS.Conv
import HandS.ListItems
import HandS.Finally
import HandS.Codes
import HandS.Rev
import PyProof.ListRange
import KE.KDictList
import KE.KExcIs
import HandS.HotCalls
import KE.DatumOrd
import HandS.DeepEq
import PyProof.Rows.StrCut
import PyProof.Rows.StrPadWhole
import PyProof.NeKinds
import PyProof.StrOps2
import KE.KDictCopyH
import HandS.EndTab
import HandS.ExcValue
import PySem.Challenge.RW_lampway_k45_coming_by
set_option Elab.async false
set_option linter.all false
set_option maxRecDepth 100000
set_option maxHeartbeats 4000000
/-! WB: dicts whose keys are truths, their values whole numbers. -/
namespace Lw
open PySem PySem.Spec PyProof.Rows L2
def boolIs (b : Bool) : Value → Bool
  | .bool c => b == c
  | _ => false
theorem boolIs_shape {b : Bool} {v : Value} (h : boolIs b v = true) : v = .bool b := by
  cases v <;> simp [boolIs] at h
  rw [h]
theorem boolIs_self (b : Bool) : boolIs b (.bool b) = true := by simp [boolIs]
theorem pyHash_bool {prog : Program} {w : World} {A : Around} {E : Value → Shared → Prop} {s : Shared} {b : Bool} {Q : Int → Shared → Prop} (h : Q (hashInt (if b then 1 else 0)) { s with toks := s.toks + 1 }) :
    wpAny (model prog w) A (pyHash (.bool b)) Q E s := by
  have hr := rawHash_range (if b then 1 else 0)
  unfold pyHash
  have hv : [Value.bool b].any Value.onHeap = false := rfl
  refine wpAny_bind ?_
  rw [cRoomFor, if_neg (by rw [hv]; exact Bool.false_ne_true)]; refine wpAny_pure ?_
  refine wpAny_bind (wpAny_specialOf (PySem.typeIs_bool s b) F.slot_bool_hash.lookup ?_)
  show wpAny _ _ (if (some (Value.builtin "int.__hash__") == some Value.none) = true then _ else _) Q E s
  rw [if_neg (by rw [beq_builtin_none]; exact Bool.false_ne_true)]
  refine wpAny_bind (wpAny_specialOf (PySem.typeIs_bool s b) F.slot_bool_hash.lookup ?_)
  show wpAny _ _ (callSpecialIfBoundUnlessNone? (.bool b) "__hash__" _ >>= _) Q E s
  refine wpAny_bind (wpAny_callSpecialIfBoundUnlessNone?_slot (PySem.typeIs_bool s b) F.slot_bool_hash
    (wpAny_call_entry F.slot_bool_hash (PySem.typeIs_bool s b) F.entry_int_hash
      (show wpAny _ _ (do ret (← mkInt (rawHash (if b then 1 else 0)))) _ _ s from wpAny_ret_mkInt ?_) (F.args_int_hash_1 _)))
  show wpAny _ _ (if (decide (-(2 : Int) ^ 63 ≤ rawHash (if b then 1 else 0)) && decide (rawHash (if b then 1 else 0) < 2 ^ 63)) = true then _ else _) Q E _
  rw [if_pos (by rw [decide_eq_true hr.1, decide_eq_true hr.2]; rfl)]
  exact wpAny_pure h
def boolKind (prog : Program) (w : World) : PySem.KeyKind prog w Bool where
  is := boolIs
  hash := fun b => hashInt (if b then 1 else 0)
  inj := fun v a b ha hb => by
    have h1 := boolIs_shape ha
    have h2 := boolIs_shape hb
    rw [h1] at h2
    injection h2
  byValue := fun k v h => by rw [boolIs_shape h]; rfl
  pyHash := fun {A E s k v Q} hv h => by
    rw [boolIs_shape hv]
    exact pyHash_bool h
  eqBool := fun {A E s a b u v Q} hu hv h => by
    rw [boolIs_shape hu, boolIs_shape hv]
    refine SeqAt.EqAt.bool_bool a b _ _ _ _ ?_
    have e : (a == b) = decide (a = b) := by cases a <;> cases b <;> rfl
    rw [e]; exact h
  «strs» := fun k x t v h => by have := boolIs_shape h; cases this
theorem bk_is (P : Program) (w : World) (b : Bool) : (boolKind P w).is b (.bool b) = true := boolIs_self b
abbrev BKV := List (Bool × Int)
def KB (kvs : BKV) (vs : List (Bool × Value)) : Prop := Paired (fun p q => p.1 = q.1 ∧ ∃ t, q.2 = Value.int p.2 t) kvs vs
def BDok (a : Addr) (kvs : BKV) (h : Heap) : Prop := kvs.length ≤ 100 ∧ (a == sysModules) = false ∧ ∃ vs, KB kvs vs ∧ ∀ prog w, h.DictOf (boolKind prog w) a vs
def BDo (a : Addr) (kvs : BKV) : HO := .ext (BDok a kvs)
theorem bd_pairs {prog prog' : Program} {w w' : World} : ∀ {es : List DictEntry} {vs : List (Bool × Value)}, Pairs (boolKind prog w) es vs → Pairs (boolKind prog' w') es vs := by
  intro es vs h
  induction h with
  | nil => exact .nil
  | cons h1 h2 _ ih => exact .cons h1 h2 ih
theorem bd_all {prog : Program} {w : World} {h : Heap} {a : Addr} {vs : List (Bool × Value)} (d : h.DictOf (boolKind prog w) a vs) : ∀ p' w', h.DictOf (boolKind p' w') a vs := fun _ _ =>
  let ⟨o, es, ep, ho, hx, hd, hk, hp, hn⟩ := d
  ⟨o, es, ep, ho, hx, hd, hk, bd_pairs hp, hn⟩
def valB (kvs : BKV) (k : Bool) : Option Int := (kvs.find? fun kv => kv.1 = k).map (·.2)
def putB (kvs : BKV) (k : Bool) (i : Int) : BKV := if kvs.any (fun kv => kv.1 = k) then kvs.map (fun kv => if kv.1 = k then (kv.1, i) else kv) else kvs ++ [(k, i)]
theorem putB_len (kvs : BKV) (k : Bool) (i : Int) : (putB kvs k i).length ≤ kvs.length + 1 := by
  unfold putB
  split <;> simp
theorem KB.val {kvs : BKV} {vs : List (Bool × Value)} (r : KB kvs vs) (k : Bool) : (valB kvs k = none ∧ valueAt vs k = none) ∨ ∃ i t, valB kvs k = some i ∧ valueAt vs k = some (.int i t) := by
  unfold KB at r
  induction r with
  | nil => exact .inl ⟨rfl, rfl⟩
  | @cons p q ps qs h t ih =>
    obtain ⟨h1, tk, h2⟩ := h
    unfold valB valueAt at *
    by_cases e : p.1 = k
    · have e2 : q.1 = k := h1 ▸ e
      exact .inr ⟨p.2, tk, by simp [List.find?_cons, e], by simp [List.find?_cons, e2, h2]⟩
    · have e2 : ¬ q.1 = k := fun z => e (h1.trans z)
      simpa [List.find?_cons, e, e2] using ih
theorem KB.put {kvs : BKV} {vs : List (Bool × Value)} (r : KB kvs vs) (k : Bool) (i : Int) (t : Tok) : KB (putB kvs k i) (stored vs k (.int i t)) := by
  have hany : (kvs.any fun kv => decide (kv.1 = k)) = (vs.any fun kv => decide (kv.1 = k)) := by
    unfold KB at r
    induction r with
    | nil => rfl
    | @cons p q ps qs h tt ih => rw [List.any_cons, List.any_cons, ih, h.1]
  unfold putB stored
  rw [hany]
  have hmap : KB (kvs.map (fun kv => if kv.1 = k then (kv.1, i) else kv)) (vs.map (fun kv => if kv.1 = k then (kv.1, Value.int i t) else kv)) := by
    unfold KB at r ⊢
    clear hany
    induction r with
    | nil => exact .nil
    | @cons p q ps qs h tt ih =>
      rw [List.map_cons, List.map_cons]
      refine .cons ?_ ih
      by_cases e : p.1 = k
      · rw [if_pos e, if_pos (h.1.symm.trans e)]; exact ⟨h.1, t, rfl⟩
      · rw [if_neg e, if_neg (fun z => e (h.1.trans z))]; exact h
  split
  · exact hmap
  · exact Paired.snoc r ⟨rfl, t, rfl⟩
section
variable {P : Program} {w : World} {H : Hp} {h : Heap} {a : Addr} {kvs : BKV}
theorem bd_ok {vs : List (Bool × Value)} (hz : kvs.length ≤ 100) (hs : (a == sysModules) = false) (r : KB kvs vs) (d : h.DictOf (boolKind P w) a vs) : ObjOk P w H h a (BDo a kvs) := by
  refine ⟨⟨hz, hs, vs, r, bd_all d⟩, ?_, fun h1 h2 q st => ?_⟩
  · obtain ⟨o, _, _, ho, _⟩ := d
    exact ⟨o, ho⟩
  · obtain ⟨z1, z2, vs', r', d'⟩ := q
    refine ⟨z1, z2, vs', r', fun p' w' => ?_⟩
    obtain ⟨o, es, ep, ho, rest⟩ := d' p' w'
    exact ⟨o, es, ep, st o ho, rest⟩
end
section
variable {X : Cx} {pins : List (Addr × Obj)} {σ : L2.St} {H : Hp} {s : Shared} {a : Addr} {kvs : BKV}
theorem bd_at (I : Inv X pins σ H s) (e : H a = some (BDo a kvs)) : kvs.length ≤ 100 ∧ (a == sysModules) = false ∧ ∃ vs, KB kvs vs ∧ s.heap.DictOf (boolKind X.prog X.w) a vs := by
  obtain ⟨⟨z1, z2, vs, r, d⟩, _⟩ := (show ObjOk X.prog X.w H s.heap a (BDo a kvs) from I.hok a _ e)
  exact ⟨z1, z2, vs, r, d _ _⟩
variable {k v : Expr} {tk tv : TE} {pos : Pos}
theorem pe_bdisp (hk : PE X k tk) (hv : PE X v tv) : PE X (.Dict [some k] [v] pos) (fun σ H Q => ∀ p, H p = none → tk σ (upd H p (BDo p [])) fun x H1 => tv σ H1 fun y H2 => ∃ b i, x = V.bl b ∧ y = V.int i ∧ H2 p = some (BDo p []) ∧ Q (.ref p) (upd H2 p (BDo p [(b, i)]))) := by
  refine ⟨fun pins s σ H Q I q => ?_⟩
  have hn := I.hok.fresh (Nat.le_refl s.heap.objs.size)
  have I1 := I.laid (a := s.heap.objs.size) (o := BDo s.heap.objs.size []) (h' := s.heap.push { cls := .type "dict", data := .dict #[] }) (t' := s.toks) (fun _ _ q => Heap.get?_push_of_some _ q) (Nat.le_refl _)
    (bd_ok (by simp) (beq_eq_false_iff_ne.mpr (Ne.symm (Nat.ne_of_lt I.big))) .nil (Heap.DictOf.new s.heap))
  refine wpAny_Dict_walk (knd := boolKind X.prog X.w) rfl rfl (by simp) (by simp) (thn ((pps_cons (pos := pos) hk hv pps_nil).run pins _ σ _ (fun ps H2 => match ps with | [(x, y)] => ∃ b i, x = V.bl b ∧ y = V.int i ∧ H2 s.heap.objs.size = some (BDo s.heap.objs.size []) ∧ Q (.ref s.heap.objs.size) (upd H2 s.heap.objs.size (BDo s.heap.objs.size [(b, i)])) | _ => False) I1 (q _ hn)) fun ws s2 ⟨ps, H2, I2, rel, q2⟩ => ?_)
  split at q2
  · obtain ⟨b, i, rfl, rfl, e, q3⟩ := q2
    obtain ⟨z, hd, vs0, r0, dd⟩ := bd_at I2 e
    cases r0
    cases rel with
    | @cons _ q1 _ qs h1 h2 =>
      cases h2
      obtain ⟨k1, v1⟩ := q1
      obtain ⟨hk1, tk1, hv1⟩ := h1
      obtain rfl : k1 = Value.bool b := hk1
      have hv1 : v1 = Value.int i tk1 := hv1
      subst hv1
      refine ⟨[(b, .int i tk1)], ⟨bk_is X.prog X.w b, rfl, trivial⟩, dd, fun h' dd' hs => ⟨.ref s.heap.objs.size, _, ?_, rfl, q3⟩⟩
      have he : ∃ q, h'.get? s.heap.objs.size = some q := let ⟨q, _, _, hq, _⟩ := dd'; ⟨q, hq⟩
      exact d_write I2 (by rw [e]; exact True.intro) hs he (bd_ok (vs := [(b, .int i tk1)]) (by simp) hd (.cons ⟨rfl, tk1, rfl⟩ .nil) dd')
  · exact q2.elim
theorem bd_get2 {A : Around} {E : Value → Shared → Prop} {b : Bool} {i : Int} {t : Tok} {Q : Value → Shared → Prop} (I : Inv X pins σ H s) (e : H a = some (BDo a kvs)) (h : ∀ w' s', Inv X pins σ H s' → RelV (.int ((valB kvs b).getD i)) w' → Q w' s') :
    wpAny (model X.prog X.w) A (call (.builtin "dict.get") [.ref a, .bool b, .int i t]) Q E s := by
  obtain ⟨z, hd, vs, rel, dd⟩ := bd_at I e
  refine call_meetsIn PySem.F.slot_dict_get dd.typeIs PySem.F.entry_dict_get (PySem.F.args_dict_get_3 _ _ _) (meets_dict_get_default (boolKind X.prog X.w) a (bk_is X.prog X.w b) hd (.int i t)) ⟨_, dd.mapOf, h _ _ (I.tok _) ?_⟩
  rcases rel.val b with ⟨h1, h2⟩ | ⟨j, tj, h1, h2⟩
  · rw [h1, h2]; exact ⟨_, rfl⟩
  · rw [h1, h2]; exact ⟨_, rfl⟩
theorem bd_set {A : Around} {E : Value → Shared → Prop} {b : Bool} {i : Int} {t : Tok} {Q : Unit → Shared → Prop} (I : Inv X pins σ H s) (e : H a = some (BDo a kvs)) (hl : kvs.length < 100) (h : ∀ s', Inv X pins σ (upd H a (BDo a (putB kvs b i))) s' → Q () s') :
    wpAny (model X.prog X.w) A (setItem (.ref a) (.bool b) (.int i t)) Q E s := by
  obtain ⟨z, hd, vs, rel, dd⟩ := bd_at I e
  have hz : vs.length ≤ sizeLine := by rw [← rel.length, sizeLine_eq]; omega
  refine wpAny_setItem_pairs (knd := boolKind X.prog X.w) (hsz := hz) (bk_is X.prog X.w b) dd fun h' dd' hs => h _ ?_
  have he : ∃ q, h'.get? a = some q := let ⟨q, _, _, hq, _⟩ := dd'; ⟨q, hq⟩
  exact d_write I (by rw [e]; exact True.intro) hs he (bd_ok (by have := putB_len kvs b i; omega) hd (rel.put b i t) dd')
variable {o : Expr} {td ty tx : TE} {e f value : Expr} {apos cpos pos' : Pos}
theorem pe_bget2 (ho : PE X o td) (he : PE X e ty) (hf : PE X f tx) (m : M2 X o "get" apos e f cpos) : PE X (.Call (.Attribute o "get" apos) [e, f] [] cpos)
    (fun σ H Q => td σ H fun x H1 => ∃ a kvs0, x = V.ref a ∧ H1 a = some (BDo a kvs0) ∧ ty σ H1 fun y H2 => tx σ H2 fun z H3 => ∃ kvs b i, H3 a = some (BDo a kvs) ∧ y = V.bl b ∧ z = V.int i ∧ Q (.int ((valB kvs b).getD i)) H3) := by
  refine ⟨fun pins s σ H Q I h => ?_⟩
  refine wpAny_Call_method m.base m.few m.line PySem.F.plainAttrs_dict PySem.F.slot_dict_get PySem.F.type_dict_get (thn (ho.run pins s σ H _ I h) fun u s1 ⟨x, H1, I1, rx, a, kvs0, ex, d, q1⟩ => ?_)
  subst ex
  obtain rfl : u = Value.ref a := rx
  obtain ⟨_, _, _, _, dd⟩ := bd_at I1 d
  refine ⟨dd.typeIs, fun b q => ?_, ?_⟩
  · cases q
    obtain ⟨ob, _, _, h1, h2, _⟩ := dd
    exact ⟨ob, h1, h2.2.1⟩
  rw [m.trees]
  refine Calls.callWith_builtin rfl (Calls.evalArgs_plain (Calls.spliced_cons (thn (he.run pins s1 σ H1 _ I1 q1) fun iv s2 ⟨y, H2, I2, ry, q2⟩ =>
    Calls.spliced_cons (thn (hf.run pins s2 σ H2 _ I2 q2) fun fv s3 ⟨z, H3, I3, rz, kvs, b, i, g, ey, ez, q3⟩ => Calls.spliced_nil ?_))))
  subst ey ez
  obtain rfl : iv = Value.bool b := ry
  obtain ⟨t, rfl⟩ := (show ∃ t, fv = Value.int i t from rz)
  exact bd_get2 I3 g fun w' s4 I4 rw' => ⟨_, H3, I4, rw', q3⟩
theorem ps_bput {tv : TE} (ho : PE X o td) (hi : PE X e ty) (hv : PE X value tv) (hs : swapsWith value (some (.Subscript o e pos')) pos.line X.env = pure false) :
    PS X (.Assign [.Subscript o e pos'] value pos) (fun D σ H => tv σ H fun v H1 => td σ H1 fun x H2 => ty σ H2 fun y H3 => ∃ a kvs b i, x = V.ref a ∧ y = V.bl b ∧ v = V.int i ∧ H3 a = some (BDo a kvs) ∧ kvs.length < 100 ∧ D.nx σ (upd H3 a (BDo a (putB kvs b i)))) := by
  refine ⟨fun pins s σ H D I h => ?_⟩
  refine wpAny_Assign_Subscript (thn (hv.run pins s σ H _ I h) fun r s1 ⟨v, H1, I1, rv, q1⟩ => thn (ho.run pins s1 σ H1 _ I1 q1) fun u s2 ⟨x, H2, I2, rx, q2⟩ => thn (hi.run pins s2 σ H2 _ I2 q2) fun iv s3 ⟨y, H3, I3, ry, a, kvs, b, i, ex, ey, ev, g, hl, q3⟩ => ?_) hs
  subst ex ey ev
  obtain rfl : u = Value.ref a := rx
  obtain rfl : iv = Value.bool b := ry
  obtain ⟨t, rfl⟩ := (show ∃ t, r = Value.int i t from rv)
  exact bd_set I3 g hl fun s4 I4 => ⟨σ, _, I4, q3⟩
end
end Lw
/-! W0: values without addresses for what never changes; the heap G of what may change; the relations; the judgements. -/
namespace Lw
open PySem PySem.Spec PyProof.Rows L2

abbrev S (s : List Nat) : Str := ⟨s.toArray⟩
abbrev KW := Sum Int (List Nat)
def kK : KW → Key
  | .inl i => .inl i
  | .inr s => .inr (S s)

/-- values: tuples, and lists, dicts, instances that nothing changes any more, are values -/
inductive W where
  | non | bl (b : Bool) | int (i : Int) | str (s : List Nat) | ref (a : Addr) | ty (n : String)
  | sc (ns : List Int) | tup (xs : List W) | il (xs : List W) | dk (kvs : List (KW × W)) | io (c : Nat) (fs : List (Nat × W))
  | clo (xs : List Int)

/-- what may change -/
inductive WO where
  | lst (xs : List W) | dct (kvs : List (KW × W)) | obj (c : Nat) (fs : List (Nat × W))
  | fz (od : Obj) (u : HO) (kvs : List (KW × W))
  | xd (fs : List (Nat × W))
  | bd (kvs : List (Bool × Int))
  | td (ks : List (Int × Int))
  | tab

/-- a pair as the key of a dict whose values are True -/
def tdK (p : Int × Int) : List Key × V := ([.inl p.1, .inl p.2], .bl true)
abbrev WHp := Addr → Option WO
abbrev WSt := List (Option W)
def updG (G : WHp) (a : Addr) (o : WO) : WHp := fun b => if b = a then some o else G b
theorem updG_same {G : WHp} {a : Addr} {o : WO} : updG G a o a = some o := if_pos rfl
theorem updG_ne {G : WHp} {a b : Addr} {o : WO} (h : b ≠ a) : updG G a o b = G b := if_neg h
theorem updG_updG {G : WHp} {a : Addr} {o u : WO} : updG (updG G a o) a u = updG G a u := by
  funext b; unfold updG; split <;> rfl

/-- the names of fields and methods, as code points -/
def FNS : List (List Nat) := [[110, 97, 109, 101], [115, 116, 97, 114, 116], [101, 110, 100], [111, 102, 102], [110, 101, 97, 114], [108, 101, 97, 115, 116], [107, 105, 110, 100], [112, 108, 97, 99, 101, 115], [111, 119, 110, 95, 119, 97, 121, 115], [114, 111, 119], [119, 111, 114, 100], [119, 97, 121], [97, 116], [111, 116, 104, 101, 114], [99, 114, 111, 115, 115, 105, 110, 103], [115, 105, 122, 101], [114, 111, 119, 115], [98, 105, 116, 115], [109, 97, 110, 121], [98, 111, 117, 110, 100, 115], [109, 101, 109, 98, 101, 114, 115], [116, 114, 97, 109, 115], [108, 101, 97, 118, 105, 110, 103], [101, 110, 116, 101, 114, 105, 110, 103], [112, 108, 97, 110], [104, 101, 114, 101], [108, 97, 115, 116, 101, 100], [108, 101, 102, 116], [99, 111, 109, 105, 110, 103], [103, 111, 110, 101], [119, 97, 105, 116, 105, 110, 103], [112, 105, 99, 107, 101, 100], [97, 115, 107, 101, 100], [97, 115, 107, 115], [98, 101, 103, 105, 110], [107, 101, 101, 112, 101, 114], [116, 117, 114, 110], [108, 105, 110, 101, 115], [99, 114, 111, 115, 115, 105, 110, 103, 95, 98, 111, 111, 107], [112, 108, 97, 110, 95, 98, 111, 111, 107], [107, 101, 101, 112, 101, 114, 95, 98, 111, 111, 107], [97, 108, 111, 110, 101], [98, 101, 104, 105, 110, 100], [122, 122, 52, 51], [122, 122, 52, 52], [122, 122, 52, 53], [122, 122, 52, 54], [122, 122, 52, 55], [114, 101, 97, 100, 121], [102, 97, 100, 101], [103, 111, 101, 115], [102, 97, 99, 101], [110, 97, 109, 101, 115], [110, 117, 109, 98, 101, 114], [99, 97, 108, 108, 101, 100], [98, 105, 116, 115, 95, 111, 102], [116, 111, 108, 100, 95, 114, 111, 119, 115], [115, 104, 111, 119, 110], [115, 116, 97, 103, 101], [119, 97, 105, 116, 115], [112, 97, 115, 115, 95, 116, 117, 114, 110], [115, 116, 97, 121, 115], [108, 101, 97, 118, 101], [103, 111, 95, 111, 110], [112, 105, 99, 107], [115, 116, 101, 112], [119, 97, 105, 116, 95, 102, 111, 114], [98, 114, 105, 110, 103], [115, 116, 97, 121], [108, 101, 116, 95, 103, 111], [115, 116, 97, 110, 100, 105, 110, 103], [113, 117, 101, 117, 101, 115], [115, 97, 121], [107, 101, 101, 112], [116, 111, 108, 100]]
def fnT (n : Nat) : Str := S ((FNS[n]?).getD (List.replicate (n + 40) 33))
theorem fns_short : ∀ s ∈ FNS, s.length < 40 := by decide +kernel
theorem fns_nodup : FNS.Nodup := by decide +kernel
theorem fnT_inj : ∀ a b, fnT a = fnT b → a = b := by
  intro a b h
  have h : (FNS[a]?).getD (List.replicate (a + 40) 33) = (FNS[b]?).getD (List.replicate (b + 40) 33) := congrArg (fun z : Str => z.cps.toList) h
  cases ea : FNS[a]? with
  | none =>
    cases eb : FNS[b]? with
    | none =>
      rw [ea, eb] at h
      have := congrArg List.length h
      simp at this
      exact this
    | some s =>
      rw [ea, eb] at h
      have l := fns_short s (List.mem_of_getElem? eb)
      simp at h
      rw [← h] at l
      simp at l
      omega
  | some s =>
    have l := fns_short s (List.mem_of_getElem? ea)
    cases eb : FNS[b]? with
    | none =>
      rw [ea, eb] at h
      simp at h
      rw [h] at l
      simp at l
      omega
    | some u =>
      rw [ea, eb] at h
      simp at h
      subst h
      obtain ⟨ha, ea⟩ := List.getElem?_eq_some_iff.mp ea
      obtain ⟨hb, eb⟩ := List.getElem?_eq_some_iff.mp eb
      exact (List.getElem_inj fns_nodup).mp (ea.trans eb.symm)
/-- the tables: the written part, the classes' addresses -/
structure Par where
  K : PySem.W.Frag
  ca : Nat → Addr
  nd : Stmt
/-- the def within a def: its object, by the cell that it captured and its code object -/
def QN : Str := "coming_by.<locals>.come"
def Par.nf (P : Par) (c cd : Addr) : NdefX.NF := NdefX.NF.of P.nd "come" QN [("kept", c)] cd
/-- the cell at c holds the list at l -/
def CellO (c l : Addr) : HO := .ext fun h => h.IsCell c (some (.ref l))
abbrev Par.fn (_ : Par) : Nat → Str := fnT
theorem Par.inj (P : Par) : ∀ a b, P.fn a = P.fn b → a = b := fnT_inj
/-- how many fields' names there are: the tags below are fields', the others methods' -/
def NF : Nat := 48
/-- what a class says -/
def Par.cf (P : Par) (c : Nat) : Prop := Cls P.K (P.ca c) ∧ ∀ t, t < NF → NoAttr P.K (P.ca c) (P.fn t)

section
variable (P : Par) (G : WHp) (H : Hp)
/-- a list at a that nothing changes: hidden from G -/
def RoL (a : Addr) (vs : List V) : Prop := H a = some (.lst vs) ∧ G a = none
/-- the script's list: known to be the object it is, or written -/
def ScL (a : Addr) (vs : List V) : Prop := (∃ o, H a = some (.frz o (.lst vs))) ∨ SqL P.K (fun _ => none) a vs
mutual
inductive RelW : W → V → Prop
  | non : RelW .non .non
  | bl (b : Bool) : RelW (.bl b) (.bl b)
  | int (i : Int) : RelW (.int i) (.int i)
  | str (s : List Nat) : RelW (.str s) (.str (S s))
  | ref (a : Addr) : RelW (.ref a) (.ref a)
  | ty (n : String) : RelW (.ty n) (.ty n)
  | sc (a : Addr) (ns : List Int) : ScL P H a (ns.map V.int) → RelW (.sc ns) (.ref a)
  | tup (a : Addr) (vs : List V) (ws : List W) : SqT P.K H a vs → RelWs ws vs → RelW (.tup ws) (.ref a)
  | il (a : Addr) (vs : List V) (ws : List W) : RoL G H a vs → RelWs ws vs → RelW (.il ws) (.ref a)
  | dk (a : Addr) (kv : List (Key × V)) (kvs : List (KW × W)) : H a = some (.dK kv) → G a = none → RelKs kvs kv → RelW (.dk kvs) (.ref a)
  | io (a dx : Addr) (c : Nat) (fv : List (Str × V)) (fs : List (Nat × W)) : H a = some (.ins (P.ca c) dx fv) → G a = none ∧ P.cf c → RelFs fs fv → RelW (.io c fs) (.ref a)
  | clo (f c cd l : Addr) (xs : List Int) : H f = some (NdefX.FnO f (P.nf c cd)) → H c = some (CellO c l) → H cd = some (LamX.CodeO cd QN) → G f = none ∧ G c = none ∧ G cd = none → RoL G H l (xs.map V.int) → RelW (.clo xs) (.ref f)
inductive RelWs : List W → List V → Prop
  | nil : RelWs [] []
  | cons (w : W) (v : V) (ws : List W) (vs : List V) : RelW w v → RelWs ws vs → RelWs (w :: ws) (v :: vs)
inductive RelKs : List (KW × W) → List (Key × V) → Prop
  | nil : RelKs [] []
  | cons (k : KW) (w : W) (v : V) (ws : List (KW × W)) (vs : List (Key × V)) : RelW w v → RelKs ws vs → RelKs ((k, w) :: ws) ((kK k, v) :: vs)
inductive RelFs : List (Nat × W) → List (Str × V) → Prop
  | nil : RelFs [] []
  | cons (t : Nat) (w : W) (v : V) (ws : List (Nat × W)) (vs : List (Str × V)) : RelW w v → RelFs ws vs → RelFs ((t, w) :: ws) ((P.fn t, v) :: vs)
end
def RepO (a : Addr) : WO → Prop
  | .lst ws => ∃ vs, H a = some (.lst vs) ∧ RelWs P G H ws vs
  | .dct kvs => ∃ kv, H a = some (.dK kv) ∧ RelKs P G H kvs kv
  | .obj c fs => ∃ dx fv, H a = some (.ins (P.ca c) dx fv) ∧ RelFs P G H fs fv ∧ P.cf c
  | .fz od u kvs => H a = some (.frz od u) ∧ ∃ kv, u = .dK kv ∧ RelKs P G H kvs kv
  | .xd fs => ∃ fv, H a = some (.xd fv) ∧ RelFs P G H fs fv
  | .bd kvs => H a = some (BDo a kvs)
  | .td ks => H a = some (.dT (ks.map tdK))
  | .tab => a = P.ca 98 ∧ ∃ ps : Array Value, H a = some (.tbl ps) ∧ TriplesOk ps.toList ∧ ∀ (pos : Pos) (cv : Value), codeAmong pos ps.toList = some cv → ∃ c, cv = .ref c ∧ H c = some (LamX.CodeO c QN) ∧ G c = none
def Rep : Prop := ∀ a o, G a = some o → RepO P G H a o
inductive RelSt : WSt → L2.St → Prop
  | nil : RelSt [] []
  | val (w : W) (v : V) (σw : WSt) (σ : L2.St) : RelW P G H w v → RelSt σw σ → RelSt (some w :: σw) (some v :: σ)
  | hole (o : Option V) (σw : WSt) (σ : L2.St) : RelSt σw σ → RelSt (none :: σw) (o :: σ)
end
/-- what stands in H outside of G stays so -/
def isXd : HO → Bool
  | .xd _ => true
  | _ => false
def Fw (G : WHp) (H : Hp) (G' : WHp) (H' : Hp) : Prop := ∀ a o, H a = some o → isXd o = false → G a = none → H' a = some o ∧ G' a = none
theorem Fw.refl (G : WHp) (H : Hp) : Fw G H G H := fun _ _ h _ g => ⟨h, g⟩
theorem Fw.trans {G G1 G2 : WHp} {H H1 H2 : Hp} (a : Fw G H G1 H1) (b : Fw G1 H1 G2 H2) : Fw G H G2 H2 := fun c o h n g =>
  let ⟨h1, g1⟩ := a c o h n g
  b c o h1 n g1

section
variable {P : Par} {G G' : WHp} {H H' : Hp}
theorem Rep.notup (rp : Rep P G H) {a : Addr} {xs : List V} (h : H a = some (.tup xs)) : G a = none := by
  cases e : G a with
  | none => rfl
  | some o =>
    have q := rp a o e
    cases o with
    | lst ws => obtain ⟨vs, z, _⟩ := q; rw [h] at z; cases z
    | dct ws => obtain ⟨vs, z, _⟩ := q; rw [h] at z; cases z
    | obj c fs => obtain ⟨dx, vs, z, _⟩ := q; rw [h] at z; cases z
    | fz od u ws => obtain ⟨z, _⟩ := q; rw [h] at z; cases z
    | xd fs => obtain ⟨vs, z, _⟩ := q; rw [h] at z; cases z
    | bd kvs => have z : H a = some (BDo a kvs) := q; rw [h] at z; cases z
    | td kvs => have z : H a = some (.dT (kvs.map tdK)) := q; rw [h] at z; cases z
    | tab => obtain ⟨_, ps, z, _⟩ := q; rw [h] at z; cases z
theorem Rep.nofrzL (rp : Rep P G H) {a : Addr} {ob : Obj} {xs : List V} (h : H a = some (.frz ob (.lst xs))) : G a = none := by
  cases e : G a with
  | none => rfl
  | some o =>
    have q := rp a o e
    cases o with
    | lst ws => obtain ⟨vs, z, _⟩ := q; rw [h] at z; cases z
    | dct ws => obtain ⟨vs, z, _⟩ := q; rw [h] at z; cases z
    | obj c fs => obtain ⟨dx, vs, z, _⟩ := q; rw [h] at z; cases z
    | fz od u ws => obtain ⟨z, kv, e', _⟩ := q; rw [h] at z; cases z; cases e'
    | xd fs => obtain ⟨vs, z, _⟩ := q; rw [h] at z; cases z
    | bd kvs => have z : H a = some (BDo a kvs) := q; rw [h] at z; cases z
    | td kvs => have z : H a = some (.dT (kvs.map tdK)) := q; rw [h] at z; cases z
    | tab => obtain ⟨_, ps, z, _⟩ := q; rw [h] at z; cases z
theorem Rep.nofrzT (rp : Rep P G H) {a : Addr} {ob : Obj} {xs : List V} (h : H a = some (.frz ob (.tup xs))) : G a = none := by
  cases e : G a with
  | none => rfl
  | some o =>
    have q := rp a o e
    cases o with
    | lst ws => obtain ⟨vs, z, _⟩ := q; rw [h] at z; cases z
    | dct ws => obtain ⟨vs, z, _⟩ := q; rw [h] at z; cases z
    | obj c fs => obtain ⟨dx, vs, z, _⟩ := q; rw [h] at z; cases z
    | fz od u ws => obtain ⟨z, kv, e', _⟩ := q; rw [h] at z; cases z; cases e'
    | xd fs => obtain ⟨vs, z, _⟩ := q; rw [h] at z; cases z
    | bd kvs => have z : H a = some (BDo a kvs) := q; rw [h] at z; cases z
    | td kvs => have z : H a = some (.dT (kvs.map tdK)) := q; rw [h] at z; cases z
    | tab => obtain ⟨_, ps, z, _⟩ := q; rw [h] at z; cases z
theorem SqT.fw (rp : Rep P G H) (f : Fw G H G' H') {a : Addr} {vs : List V} (h : SqT P.K H a vs) : SqT P.K H' a vs := by
  rcases h with (h | ⟨o, h⟩) | h
  · exact .inl (.inl (f a _ h rfl (rp.notup h)).1)
  · exact .inl (.inr ⟨o, (f a _ h rfl (rp.nofrzT h)).1⟩)
  · exact .inr h
theorem RoL.fw (f : Fw G H G' H') {a : Addr} {vs : List V} (h : RoL G H a vs) : RoL G' H' a vs := f a _ h.1 rfl h.2
theorem ScL.fw (rp : Rep P G H) (f : Fw G H G' H') {a : Addr} {vs : List V} (h : ScL P H a vs) : ScL P H' a vs := by
  rcases h with ⟨o, h⟩ | h
  · exact .inl ⟨o, (f a _ h rfl (rp.nofrzL h)).1⟩
  · exact .inr h
theorem ScL.sq {a : Addr} {vs : List V} (h : ScL P H a vs) : SqL P.K H a vs := by
  rcases h with ⟨o, h⟩ | h
  · exact .inl (.inr ⟨o, h⟩)
  · rcases h with (h | ⟨o, h⟩) | h
    · cases h
    · cases h
    · exact .inr h
mutual
theorem RelW.fw (rp : Rep P G H) (f : Fw G H G' H') : ∀ {w : W} {v : V}, RelW P G H w v → RelW P G' H' w v
  | _, _, .non => .non
  | _, _, .bl b => .bl b
  | _, _, .int i => .int i
  | _, _, .str s => .str s
  | _, _, .ref a => .ref a
  | _, _, .ty n => .ty n
  | _, _, .sc a ns h => .sc a ns (h.fw rp f)
  | _, _, .tup a vs ws h r => .tup a vs ws (SqT.fw rp f h) (RelWs.fw rp f r)
  | _, _, .il a vs ws h r => .il a vs ws (h.fw f) (RelWs.fw rp f r)
  | _, _, .dk a kv kvs h g r => .dk a kv kvs (f a _ h rfl g).1 (f a _ h rfl g).2 (RelKs.fw rp f r)
  | _, _, .io a dx c fv fs h g r => .io a dx c fv fs (f a _ h rfl g.1).1 ⟨(f a _ h rfl g.1).2, g.2⟩ (RelFs.fw rp f r)
  | _, _, .clo a c cd l xs h1 h2 h3 g h => .clo a c cd l xs (f a _ h1 rfl g.1).1 (f c _ h2 rfl g.2.1).1 (f cd _ h3 rfl g.2.2).1 ⟨(f a _ h1 rfl g.1).2, (f c _ h2 rfl g.2.1).2, (f cd _ h3 rfl g.2.2).2⟩ (h.fw f)
theorem RelWs.fw (rp : Rep P G H) (f : Fw G H G' H') : ∀ {w : List W} {v : List V}, RelWs P G H w v → RelWs P G' H' w v
  | _, _, .nil => .nil
  | _, _, .cons w v ws vs h r => .cons w v ws vs (RelW.fw rp f h) (RelWs.fw rp f r)
theorem RelKs.fw (rp : Rep P G H) (f : Fw G H G' H') : ∀ {w : List (KW × W)} {v : List (Key × V)}, RelKs P G H w v → RelKs P G' H' w v
  | _, _, .nil => .nil
  | _, _, .cons k w v ws vs h r => .cons k w v ws vs (RelW.fw rp f h) (RelKs.fw rp f r)
theorem RelFs.fw (rp : Rep P G H) (f : Fw G H G' H') : ∀ {w : List (Nat × W)} {v : List (Str × V)}, RelFs P G H w v → RelFs P G' H' w v
  | _, _, .nil => .nil
  | _, _, .cons k w v ws vs h r => .cons k w v ws vs (RelW.fw rp f h) (RelFs.fw rp f r)
end
theorem RelSt.fw (rp : Rep P G H) (f : Fw G H G' H') : ∀ {σw : WSt} {σ : L2.St}, RelSt P G H σw σ → RelSt P G' H' σw σ
  | _, _, .nil => .nil
  | _, _, .val w v σw σ h r => .val w v σw σ (h.fw rp f) (RelSt.fw rp f r)
  | _, _, .hole o σw σ r => .hole o σw σ (RelSt.fw rp f r)
theorem RepO.fw (rp : Rep P G H) (f : Fw G H G' H') {a : Addr} {o : WO} (h : RepO P G H a o) (e : H' a = H a) : RepO P G' H' a o := by
  cases o with
  | lst ws => obtain ⟨vs, z, r⟩ := h; exact ⟨vs, by rw [e]; exact z, r.fw rp f⟩
  | dct ws => obtain ⟨vs, z, r⟩ := h; exact ⟨vs, by rw [e]; exact z, r.fw rp f⟩
  | obj c fs => obtain ⟨dx, vs, z, r, k⟩ := h; exact ⟨dx, vs, by rw [e]; exact z, r.fw rp f, k⟩
  | fz od u ws => obtain ⟨z, kv, e', r⟩ := h; exact ⟨by rw [e]; exact z, kv, e', r.fw rp f⟩
  | xd fs => obtain ⟨vs, z, r⟩ := h; exact ⟨vs, by rw [e]; exact z, r.fw rp f⟩
  | bd kvs => exact (show H' a = some (BDo a kvs) by rw [e]; exact h)
  | td kvs => exact (show H' a = some (.dT (kvs.map tdK)) by rw [e]; exact h)
  | tab =>
    obtain ⟨e0, ps, z, t, k⟩ := h
    exact ⟨e0, ps, by rw [e]; exact z, t, fun pos cv hc => let ⟨c, h1, h2, h3⟩ := k pos cv hc; ⟨c, h1, (f c _ h2 rfl h3).1, (f c _ h2 rfl h3).2⟩⟩

theorem Rep.free (rp : Rep P G H) {p : Addr} (h : H p = none) : G p = none := by
  cases e : G p with
  | none => rfl
  | some o =>
    have q := rp p o e
    cases o with
    | lst ws => obtain ⟨vs, z, _⟩ := q; rw [h] at z; cases z
    | dct ws => obtain ⟨vs, z, _⟩ := q; rw [h] at z; cases z
    | obj c fs => obtain ⟨dx, vs, z, _⟩ := q; rw [h] at z; cases z
    | fz od u ws => obtain ⟨z, _⟩ := q; rw [h] at z; cases z
    | xd fs => obtain ⟨vs, z, _⟩ := q; rw [h] at z; cases z
    | bd kvs => have z : H p = some (BDo p kvs) := q; rw [h] at z; cases z
    | td kvs => have z : H p = some (.dT (kvs.map tdK)) := q; rw [h] at z; cases z
    | tab => obtain ⟨_, ps, z, _⟩ := q; rw [h] at z; cases z
/-- a new object that G does not see -/
theorem Fw.hid {p : Addr} {o : HO} (h : H p = none) : Fw G H G (upd H p o) := fun a u e _ g => ⟨by rw [upd_ne (ne_of_none e h)]; exact e, g⟩
theorem Rep.hid (rp : Rep P G H) {p : Addr} {o : HO} (h : H p = none) : Rep P G (upd H p o) := fun a u e => by
  have ne : a ≠ p := fun z => by rw [z, rp.free h] at e; cases e
  exact (rp a u e).fw rp (Fw.hid h) (upd_ne ne)
/-- a new object that G sees -/
theorem Fw.new {p : Addr} {o : HO} {u : WO} (h : H p = none) : Fw G H (updG G p u) (upd H p o) := fun a v e _ g => ⟨by rw [upd_ne (ne_of_none e h)]; exact e, by rw [updG_ne (ne_of_none e h)]; exact g⟩
/-- a seen object changed -/
theorem Fw.put {p : Addr} {o : HO} {u w : WO} (g : G p = some w) : Fw G H (updG G p u) (upd H p o) := fun a v e _ g' => by
  have ne : a ≠ p := fun z => by rw [z, g] at g'; cases g'
  exact ⟨by rw [upd_ne ne]; exact e, by rw [updG_ne ne]; exact g'⟩
theorem Rep.put (rp : Rep P G H) {p : Addr} {o : HO} {u : WO} (f : Fw G H (updG G p u) (upd H p o)) (q : RepO P (updG G p u) (upd H p o) p u) : Rep P (updG G p u) (upd H p o) := fun a v e => by
  by_cases z : a = p
  · subst z
    rw [updG_same] at e
    cases e
    exact q
  · rw [updG_ne z] at e
    exact (rp a v e).fw rp f (upd_ne z)
end
end Lw
/-! W1: the judgements over W, and expressions. -/
namespace Lw
open PySem PySem.Spec PyProof.Rows L2

abbrev WQ := W → WHp → Prop
/-- an exception: its class, its fields -/
structure Xc where
  c : Nat
  fs : List (Nat × W)
abbrev WXK := Xc → WSt → WHp → Prop
abbrev WTE := WSt → WHp → WQ → WXK → Prop
abbrev WTT := WSt → WHp → (Bool → WHp → Prop) → WXK → Prop
abbrev WTA := WSt → WHp → (List W → WHp → Prop) → WXK → Prop
structure WEnds where
  nx : WSt → WHp → Prop
  rt : WQ
  bk : WSt → WHp → Prop
  ct : WSt → WHp → Prop
abbrev WTS := WEnds → WSt → WHp → WXK → Prop
def ExcD (P : Par) (G : WHp) (H : Hp) (d : Option Addr) (fs : List (Nat × W)) : Prop :=
  (d = none ∧ fs = []) ∨ ∃ dd fv, d = some dd ∧ H dd = some (.xd fv) ∧ G dd = none ∧ RelFs P G H fs fv
def embX (P : Par) (Ga : WHp) (Ha : Hp) (Ew : WXK) : WX := fun cls d σ H => ∃ c fs σw G, cls = .ref (P.ca c) ∧ Fw Ga Ha G H ∧ RelSt P G H σw σ ∧ Rep P G H ∧ ExcD P G H d fs ∧ Ew ⟨c, fs⟩ σw G
def embE (P : Par) (Ga : WHp) (Ha : Hp) (Ew : WXK) (t : WTE) : TE := fun σ H Q => ∃ σw G Qw, Fw Ga Ha G H ∧ RelSt P G H σw σ ∧ Rep P G H ∧ t σw G Qw Ew ∧
  ∀ w G' v H', Fw G H G' H' → RelW P G' H' w v → Rep P G' H' → Qw w G' → Q v H'
def embT (P : Par) (Ga : WHp) (Ha : Hp) (Ew : WXK) (t : WTT) : TT := fun σ H Q => ∃ σw G Qw, Fw Ga Ha G H ∧ RelSt P G H σw σ ∧ Rep P G H ∧ t σw G Qw Ew ∧
  ∀ b G' H', Fw G H G' H' → Rep P G' H' → Qw b G' → Q b H'
def embA (P : Par) (Ga : WHp) (Ha : Hp) (Ew : WXK) (t : WTA) : TA := fun σ H Q => ∃ σw G Qw, Fw Ga Ha G H ∧ RelSt P G H σw σ ∧ Rep P G H ∧ t σw G Qw Ew ∧
  ∀ ws G' vs H', Fw G H G' H' → RelWs P G' H' ws vs → Rep P G' H' → Qw ws G' → Q vs H'
def embS (P : Par) (Ga : WHp) (Ha : Hp) (Ew : WXK) (t : WTS) : TS := fun D σ H => ∃ σw G Dw, Fw Ga Ha G H ∧ RelSt P G H σw σ ∧ Rep P G H ∧ t Dw σw G Ew ∧
  (∀ σw' G' σ' H', Fw G H G' H' → RelSt P G' H' σw' σ' → Rep P G' H' → Dw.nx σw' G' → D.nx σ' H') ∧
  (∀ w G' v H', Fw G H G' H' → RelW P G' H' w v → Rep P G' H' → Dw.rt w G' → D.rt v H') ∧
  (∀ σw' G' σ' H', Fw G H G' H' → RelSt P G' H' σw' σ' → Rep P G' H' → Dw.bk σw' G' → D.bk σ' H') ∧
  (∀ σw' G' σ' H', Fw G H G' H' → RelSt P G' H' σw' σ' → Rep P G' H' → Dw.ct σw' G' → D.ct σ' H')

def JE (P : Par) (X : Cx) (e : Expr) (t : WTE) : Prop := ∀ Ga Ha Ew, Takes X (embX P Ga Ha Ew) → PE X e (embE P Ga Ha Ew t)
def JT (P : Par) (X : Cx) (e : Expr) (t : WTT) : Prop := ∀ Ga Ha Ew, Takes X (embX P Ga Ha Ew) → PT X e (embT P Ga Ha Ew t)
def JW (P : Par) (X : Cx) (e : Expr) (t : WTT) : Prop := ∀ Ga Ha Ew, Takes X (embX P Ga Ha Ew) → PW X e (embT P Ga Ha Ew t)
def JA (P : Par) (X : Cx) (es : List Expr) (t : WTA) : Prop := ∀ Ga Ha Ew, Takes X (embX P Ga Ha Ew) → PA X es (embA P Ga Ha Ew t)
def JS (P : Par) (X : Cx) (st : Stmt) (t : WTS) : Prop := ∀ Ga Ha Ew, Takes X (embX P Ga Ha Ew) → PS X st (embS P Ga Ha Ew t)
def JSs (P : Par) (X : Cx) (st : List Stmt) (t : WTS) : Prop := ∀ Ga Ha Ew, Takes X (embX P Ga Ha Ew) → PSs X st (embS P Ga Ha Ew t)

section
variable {X : Cx}
theorem PE.imp {e : Expr} {t t' : TE} (h : PE X e t) (i : ∀ σ H Q, t' σ H Q → t σ H Q) : PE X e t' := ⟨fun pins s σ H Q I q => h.run pins s σ H Q I (i σ H Q q)⟩
theorem PT.imp {e : Expr} {t t' : TT} (h : PT X e t) (i : ∀ σ H Q, t' σ H Q → t σ H Q) : PT X e t' := ⟨fun pins s σ H Q I q => h.run pins s σ H Q I (i σ H Q q)⟩
theorem PW.imp {e : Expr} {t t' : TT} (h : PW X e t) (i : ∀ σ H Q, t' σ H Q → t σ H Q) : PW X e t' := ⟨fun wh pins s σ H Q I q => h.run wh pins s σ H Q I (i σ H Q q)⟩
theorem PA.imp {e : List Expr} {t t' : TA} (h : PA X e t) (i : ∀ σ H Q, t' σ H Q → t σ H Q) : PA X e t' := ⟨fun pos pins s σ H Q I q => h.run pos pins s σ H Q I (i σ H Q q)⟩
theorem PS.imp {e : Stmt} {t t' : TS} (h : PS X e t) (i : ∀ D σ H, t' D σ H → t D σ H) : PS X e t' := ⟨fun pins s σ H D I q => h.run pins s σ H D I (i D σ H q)⟩
theorem PSs.imp {e : List Stmt} {t t' : TS} (h : PSs X e t) (i : ∀ D σ H, t' D σ H → t D σ H) : PSs X e t' := ⟨fun pins s σ H D I q => h.run pins s σ H D I (i D σ H q)⟩
theorem OpR.imp {f : Value → Value → Sem Value} {r r' : R2} (h : OpR X f r) (i : ∀ x y H Q, r' x y H Q → r x y H Q) : OpR X f r' := fun pins s σ H x y v u Q I rx ry q => h pins s σ H x y v u Q I rx ry (i x y H Q q)
theorem OpR.or {f : Value → Value → Sem Value} {r r' : R2} (h : OpR X f r) (h' : OpR X f r') : OpR X f (fun x y H Q => r x y H Q ∨ r' x y H Q) := fun pins s σ H x y v u Q I rx ry q =>
  q.elim (h pins s σ H x y v u Q I rx ry) (h' pins s σ H x y v u Q I rx ry)
theorem CallR.or {f : Value} {r r' : List V → Hp → VK → Prop} (h : CallR X f r) (h' : CallR X f r') : CallR X f (fun x H Q => r x H Q ∨ r' x H Q) := fun pins s σ H x v Q I rx q =>
  q.elim (h pins s σ H x v Q I rx) (h' pins s σ H x v Q I rx)
theorem CallR.imp {f : Value} {r r' : List V → Hp → VK → Prop} (h : CallR X f r) (i : ∀ x H Q, r' x H Q → r x H Q) : CallR X f r' := fun pins s σ H x v Q I rx q => h pins s σ H x v Q I rx (i x H Q q)
theorem UnR.imp {f : Value → Sem Value} {r r' : V → Hp → VK → Prop} (h : UnR X f r) (i : ∀ x H Q, r' x H Q → r x H Q) : UnR X f r' := fun pins s σ H x v Q I rx q => h pins s σ H x v Q I rx (i x H Q q)
end

/-! ### by values -/
abbrev WR1 := W → WHp → WQ → Prop
abbrev WR2 := W → W → WHp → WQ → Prop
abbrev WRs := List W → WHp → WQ → Prop
def emb1 (P : Par) (wr : WR1) : V → Hp → VK → Prop := fun x H Q => ∃ wx G Qw, RelW P G H wx x ∧ Rep P G H ∧ wr wx G Qw ∧ ∀ w G' v H', Fw G H G' H' → RelW P G' H' w v → Rep P G' H' → Qw w G' → Q v H'
def emb2 (P : Par) (wr : WR2) : R2 := fun x y H Q => ∃ wx wy G Qw, RelW P G H wx x ∧ RelW P G H wy y ∧ Rep P G H ∧ wr wx wy G Qw ∧ ∀ w G' v H', Fw G H G' H' → RelW P G' H' w v → Rep P G' H' → Qw w G' → Q v H'
def embL (P : Par) (wr : WRs) : List V → Hp → VK → Prop := fun xs H Q => ∃ ws G Qw, RelWs P G H ws xs ∧ Rep P G H ∧ wr ws G Qw ∧ ∀ w G' v H', Fw G H G' H' → RelW P G' H' w v → Rep P G' H' → Qw w G' → Q v H'
def OpW (P : Par) (X : Cx) (f : Value → Value → Sem Value) (wr : WR2) : Prop := OpR X f (emb2 P wr)
def UnW (P : Par) (X : Cx) (f : Value → Sem Value) (wr : WR1) : Prop := UnR X f (emb1 P wr)
def CallW (P : Par) (X : Cx) (f : Value) (wr : WRs) : Prop := CallR X f (embL P wr)

/-! ### names and constants -/
def wGet : WSt → Nat → Option W
  | [], _ => none
  | o :: _, 0 => o
  | _ :: r, i + 1 => wGet r i
def wVar (i : Nat) : WTE := fun σ G Q _ => ∃ w, wGet σ i = some w ∧ Q w G
def wC (w : W) : WTE := fun _ G Q _ => Q w G
section
variable {P : Par} {X : Cx} {G : WHp} {H : Hp}
theorem RelSt.get : ∀ {σw : WSt} {σ : L2.St} {i : Nat} {w : W}, RelSt P G H σw σ → wGet σw i = some w → ∃ v, σ[i]? = some (some v) ∧ RelW P G H w v
  | _, _, i, w, .nil, e => by cases i <;> cases e
  | _, _, 0, w, .val w' v σw σ h r, e => by cases e; exact ⟨v, rfl, h⟩
  | _, _, 0, w, .hole o σw σ r, e => by cases e
  | _, _, i + 1, w, .val w' v σw σ h r, e => RelSt.get (i := i) r e
  | _, _, i + 1, w, .hole o σw σ r, e => RelSt.get (i := i) r e
theorem RelSt.set {w : W} {v : V} (h : RelW P G H w v) : ∀ {σw : WSt} {σ : L2.St} (i : Nat), RelSt P G H σw σ → RelSt P G H (σw.set i (some w)) (σ.set i (some v))
  | _, _, i, .nil => by simpa using RelSt.nil
  | _, _, 0, .val w' v' σw σ h' r => .val w v σw σ h r
  | _, _, 0, .hole o σw σ r => .val w v σw σ h r
  | _, _, i + 1, .val w' v' σw σ h' r => .val w' v' _ _ h' (RelSt.set h i r)
  | _, _, i + 1, .hole o σw σ r => .hole o _ _ (RelSt.set h i r)
theorem RelSt.del {o : Option V} : ∀ {σw : WSt} {σ : L2.St} (i : Nat), RelSt P G H σw σ → RelSt P G H (σw.set i none) (σ.set i o)
  | _, _, i, .nil => by simpa using RelSt.nil
  | _, _, 0, .val w' v' σw σ h' r => .hole o σw σ r
  | _, _, 0, .hole o' σw σ r => .hole o σw σ r
  | _, _, i + 1, .val w' v' σw σ h' r => .val w' v' _ _ h' (RelSt.del i r)
  | _, _, i + 1, .hole o' σw σ r => .hole o' _ _ (RelSt.del i r)
/-- from a rule whose reading is asked at once -/
theorem je_of {e : Expr} {t : WTE} {te : TE} (h : PE X e te) (i : ∀ σw G σ H Qw Q Ew, RelSt P G H σw σ → Rep P G H → t σw G Qw Ew → (∀ w G' v H', Fw G H G' H' → RelW P G' H' w v → Rep P G' H' → Qw w G' → Q v H') → te σ H Q) : JE P X e t :=
  fun Ga Ha Ew _ => PE.imp h fun σ H Q ⟨σw, G, Qw, _, rs, rp, ht, hq⟩ => i σw G σ H Qw Q Ew rs rp ht hq
theorem jv (i : Nat) {x : Str} {pos : Pos} (hN : X.N[i]? = some x := by rfl) (hv : Vis X.env.scope x := by first | exact Or.inl rfl | exact Or.inr (Or.inl rfl) | exact Or.inr (Or.inr rfl)) (hd : (x == ("__debug__" : Str)) = false := by decide)
    (hcd : (x == ("__classdict__" : Str)) = false := by decide) : JE P X (.Name x pos) (wVar i) :=
  je_of (pe_var hN hv hd hcd) fun σw G σ H Qw Q Ew rs rp ⟨w, e, q⟩ hq => let ⟨v, e1, r⟩ := rs.get e; ⟨v, e1, hq w G v H (.refl _ _) r rp q⟩
theorem je_int {i j pos} : JE P X (.Constant (.int i) j pos) (wC (.int i)) := je_of pe_int fun σw G σ H Qw Q Ew rs rp q hq => hq _ G _ H (.refl _ _) (.int i) rp q
theorem je_bl {b j pos} : JE P X (.Constant (.bool b) j pos) (wC (.bl b)) := je_of pe_bl fun σw G σ H Qw Q Ew rs rp q hq => hq _ G _ H (.refl _ _) (.bl b) rp q
theorem je_non {j pos} : JE P X (.Constant .none j pos) (wC .non) := je_of pe_non fun σw G σ H Qw Q Ew rs rp q hq => hq _ G _ H (.refl _ _) .non rp q
theorem je_str {x : Str} {j pos} (s : List Nat) (hs : x = S s := by decide +kernel) : JE P X (.Constant (.str x) j pos) (wC (.str s)) := by
  subst hs
  exact je_of pe_str fun σw G σ H Qw Q Ew rs rp q hq => hq _ G _ H (.refl _ _) (.str s) rp q

/-! ### operators -/
variable {a b c : Expr} {ta tb tc : WTE} {pos : Pos}
def wOp (wr : WR2) (ta tb : WTE) : WTE := fun σ G Q E => ta σ G (fun x G1 => tb σ G1 (fun y G2 => wr x y G2 Q) E) E
def wUn (wr : WR1) (ta : WTE) : WTE := fun σ G Q E => ta σ G (fun x G1 => wr x G1 Q) E
theorem op_step {wr : WR2} {ta tb : WTE} {Ga : WHp} {Ha : Hp} {Ew : WXK} : ∀ σ H Q, embE P Ga Ha Ew (wOp wr ta tb) σ H Q → tOp (emb2 P wr) (embE P Ga Ha Ew ta) (embE P Ga Ha Ew tb) σ H Q :=
  fun σ H Q ⟨σw, G, Qw, fa, rs, rp, ht, hq⟩ => ⟨σw, G, _, fa, rs, rp, ht, fun w1 G1 v1 H1 f1 r1 p1 h1 => ⟨σw, G1, _, fa.trans f1, rs.fw rp f1, p1, h1, fun w2 G2 v2 H2 f2 r2 p2 h2 =>
    ⟨w1, w2, G2, Qw, r1.fw p1 f2, r2, p2, h2, fun w G' v H' f r p q => hq w G' v H' (f1.trans (f2.trans f)) r p q⟩⟩⟩
theorem je_op {op : Operator} {wr : WR2} (ho : OpW P X (binaryOp op) wr) (ha : JE P X a ta) (hb : JE P X b tb) : JE P X (.BinOp a op b pos) (wOp wr ta tb) :=
  fun Ga Ha Ew tk => PE.imp (pe_op ho (ha Ga Ha Ew tk) (hb Ga Ha Ew tk)) op_step
theorem je_cmp {op : CmpOp} {wr : WR2} (ho : OpW P X (compareOp op) wr) (ha : JE P X a ta) (hb : JE P X b tb) (hm : behindInMarks op b = false := by first | exact nobehind _ (by decide) (by decide) | rfl) : JE P X (.Compare a [op] [b] pos) (wOp wr ta tb) :=
  fun Ga Ha Ew tk => PE.imp (pe_cmpR ho (ha Ga Ha Ew tk) (hb Ga Ha Ew tk) hm) op_step
/-- a value that is a bool, as a test -/
def wTest (t : WTE) : WTT := fun σ G Q E => t σ G (fun x G1 => ∃ k, x = .bl k ∧ Q k G1) E
theorem RelW.bool {k : Bool} {v : V} (h : RelW P G H (.bl k) v) : v = .bl k := by cases h; rfl
theorem test_step {t : WTE} {Ga : WHp} {Ha : Hp} {Ew : WXK} : ∀ σ H Q, embT P Ga Ha Ew (wTest t) σ H Q → embE P Ga Ha Ew t σ H (fun x H' => ∃ k, x = .bl k ∧ Q k H') :=
  fun σ H Q ⟨σw, G, Qw, fa, rs, rp, ht, hq⟩ => ⟨σw, G, _, fa, rs, rp, ht, fun w G1 v H1 f1 r p ⟨k, e, q⟩ => by subst e; cases r; exact ⟨k, rfl, hq k G1 H1 f1 p q⟩⟩
theorem jt_val (h : JE P X a ta) (he : ∀ whole, isTrue a X.env whole = (do let v ← whole; standAt a.pos; holding [v] (truthy v)) := by intro _; rfl) : JT P X a (wTest ta) := fun Ga Ha Ew tk => PT.imp (pt_val (h Ga Ha Ew tk) he) test_step
theorem jt_cmp {op : CmpOp} {wr : WR2} (ho : OpW P X (compareOp op) wr) (ha : JE P X a ta) (hb : JE P X b tb) (hm : behindInMarks op b = false := by first | exact nobehind _ (by decide) (by decide) | rfl) : JT P X (.Compare a [op] [b] pos) (wTest (wOp wr ta tb)) :=
  fun Ga Ha Ew tk => PT.imp (pt_cmpR ho (ha Ga Ha Ew tk) (hb Ga Ha Ew tk) hm) fun σ H Q ⟨σw, G, Qw, fa, rs, rp, ht, hq⟩ => op_step σ H _ ⟨σw, G, _, fa, rs, rp, ht, fun w G1 v H1 f1 r p ⟨k, e, q⟩ => by subst e; cases r; exact ⟨k, rfl, hq k G1 H1 f1 p q⟩⟩
/-! ### and, or, not, if -/
variable {rest : List Expr} {tA tB : WTT}
def wAnd (t u : WTT) : WTT := fun σ G Q E => t σ G (fun c G1 => if c = true then u σ G1 Q E else Q false G1) E
def wOr (t u : WTT) : WTT := fun σ G Q E => t σ G (fun c G1 => if c = true then Q true G1 else u σ G1 Q E) E
def wNot (t : WTT) : WTT := fun σ G Q E => t σ G (fun c G1 => Q (!c) G1) E
theorem jw_and1 (ha : JT P X a tA) : JW P X (.BoolOp .And [a] pos) tA := fun Ga Ha Ew tk => pw_and1 (ha Ga Ha Ew tk)
theorem jw_or1 (ha : JT P X a tA) : JW P X (.BoolOp .Or [a] pos) tA := fun Ga Ha Ew tk => pw_or1 (ha Ga Ha Ew tk)
theorem jw_and (ha : JT P X a tA) (hb : JW P X (.BoolOp .And (b :: rest) pos) tB) : JW P X (.BoolOp .And (a :: b :: rest) pos) (wAnd tA tB) := fun Ga Ha Ew tk =>
  PW.imp (pw_and (ha Ga Ha Ew tk) (hb Ga Ha Ew tk)) fun σ H Q ⟨σw, G, Qw, fa, rs, rp, ht, hq⟩ => ⟨σw, G, _, fa, rs, rp, ht, fun c G1 H1 f1 p1 h1 => by
    cases c with
    | true => exact ⟨σw, G1, Qw, fa.trans f1, rs.fw rp f1, p1, h1, fun b G2 H2 f2 p2 q => hq b G2 H2 (f1.trans f2) p2 q⟩
    | false => exact hq false G1 H1 f1 p1 h1⟩
theorem jw_or (ha : JT P X a tA) (hb : JW P X (.BoolOp .Or (b :: rest) pos) tB) : JW P X (.BoolOp .Or (a :: b :: rest) pos) (wOr tA tB) := fun Ga Ha Ew tk =>
  PW.imp (pw_or (ha Ga Ha Ew tk) (hb Ga Ha Ew tk)) fun σ H Q ⟨σw, G, Qw, fa, rs, rp, ht, hq⟩ => ⟨σw, G, _, fa, rs, rp, ht, fun c G1 H1 f1 p1 h1 => by
    cases c with
    | false => exact ⟨σw, G1, Qw, fa.trans f1, rs.fw rp f1, p1, h1, fun b G2 H2 f2 p2 q => hq b G2 H2 (f1.trans f2) p2 q⟩
    | true => exact hq true G1 H1 f1 p1 h1⟩
theorem JW.pt {e : Expr} {t : WTT} (h : JW P X e t) : JT P X e t := fun Ga Ha Ew tk => PW.pt (h Ga Ha Ew tk)
theorem jt_not (ha : JT P X a tA) : JT P X (.UnaryOp .Not a pos) (wNot tA) := fun Ga Ha Ew tk =>
  PT.imp (pt_not (ha Ga Ha Ew tk)) fun σ H Q ⟨σw, G, Qw, fa, rs, rp, ht, hq⟩ => ⟨σw, G, _, fa, rs, rp, ht, fun c G1 H1 f1 p1 h1 => hq (!c) G1 H1 f1 p1 h1⟩
/-- as values, all bools -/
def wAndV (ta tb : WTE) : WTE := fun σ G Q E => ta σ G (fun x G1 => ∃ c, x = .bl c ∧ if c = true then tb σ G1 Q E else Q (.bl false) G1) E
def wOrV (ta tb : WTE) : WTE := fun σ G Q E => ta σ G (fun x G1 => ∃ c, x = .bl c ∧ if c = true then Q (.bl true) G1 else tb σ G1 Q E) E
def wNotV (ta : WTE) : WTE := fun σ G Q E => ta σ G (fun x G1 => ∃ c, x = .bl c ∧ Q (.bl (!c)) G1) E
theorem je_one {op} {t : WTE} (h : JE P X a t) : JE P X (.BoolOp op [a] pos) t := fun Ga Ha Ew tk => pe_one (h Ga Ha Ew tk)
theorem je_and (ha : JE P X a ta) (hb : JE P X (.BoolOp .And (b :: rest) pos) tb) : JE P X (.BoolOp .And (a :: b :: rest) pos) (wAndV ta tb) := fun Ga Ha Ew tk =>
  PE.imp (pe_and (ha Ga Ha Ew tk) (hb Ga Ha Ew tk)) fun σ H Q ⟨σw, G, Qw, fa, rs, rp, ht, hq⟩ => ⟨σw, G, _, fa, rs, rp, ht, fun w G1 v1 H1 f1 r1 p1 ⟨c, e, h1⟩ => by
    subst e
    cases r1
    refine ⟨c, rfl, ?_⟩
    cases c with
    | true => exact ⟨σw, G1, Qw, fa.trans f1, rs.fw rp f1, p1, h1, fun w2 G2 v2 H2 f2 r2 p2 q => hq w2 G2 v2 H2 (f1.trans f2) r2 p2 q⟩
    | false => exact hq _ G1 _ H1 f1 (.bl false) p1 h1⟩
theorem je_or (ha : JE P X a ta) (hb : JE P X (.BoolOp .Or (b :: rest) pos) tb) : JE P X (.BoolOp .Or (a :: b :: rest) pos) (wOrV ta tb) := fun Ga Ha Ew tk =>
  PE.imp (pe_or (ha Ga Ha Ew tk) (hb Ga Ha Ew tk)) fun σ H Q ⟨σw, G, Qw, fa, rs, rp, ht, hq⟩ => ⟨σw, G, _, fa, rs, rp, ht, fun w G1 v1 H1 f1 r1 p1 ⟨c, e, h1⟩ => by
    subst e
    cases r1
    refine ⟨c, rfl, ?_⟩
    cases c with
    | false => exact ⟨σw, G1, Qw, fa.trans f1, rs.fw rp f1, p1, h1, fun w2 G2 v2 H2 f2 r2 p2 q => hq w2 G2 v2 H2 (f1.trans f2) r2 p2 q⟩
    | true => exact hq _ G1 _ H1 f1 (.bl true) p1 h1⟩
theorem je_not (ha : JE P X a ta) : JE P X (.UnaryOp .Not a pos) (wNotV ta) := fun Ga Ha Ew tk =>
  PE.imp (pe_not (ha Ga Ha Ew tk)) fun σ H Q ⟨σw, G, Qw, fa, rs, rp, ht, hq⟩ => ⟨σw, G, _, fa, rs, rp, ht, fun w G1 v1 H1 f1 r1 p1 ⟨c, e, h1⟩ => by
    subst e
    cases r1
    exact ⟨c, rfl, hq _ G1 _ H1 f1 (.bl _) p1 h1⟩⟩
def wIf (t : WTT) (ta tb : WTE) : WTE := fun σ G Q E => t σ G (fun c G1 => if c = true then ta σ G1 Q E else tb σ G1 Q E) E
theorem je_ifExp (hc : JT P X c tA) (ha : JE P X a ta) (hb : JE P X b tb) : JE P X (.IfExp c a b pos) (wIf tA ta tb) := fun Ga Ha Ew tk =>
  PE.imp (pe_ifExp (hc Ga Ha Ew tk) (ha Ga Ha Ew tk) (hb Ga Ha Ew tk)) fun σ H Q ⟨σw, G, Qw, fa, rs, rp, ht, hq⟩ => ⟨σw, G, _, fa, rs, rp, ht, fun d G1 H1 f1 p1 h1 => by
    cases d with
    | true => exact ⟨σw, G1, Qw, fa.trans f1, rs.fw rp f1, p1, h1, fun w2 G2 v2 H2 f2 r2 p2 q => hq w2 G2 v2 H2 (f1.trans f2) r2 p2 q⟩
    | false => exact ⟨σw, G1, Qw, fa.trans f1, rs.fw rp f1, p1, h1, fun w2 G2 v2 H2 f2 r2 p2 q => hq w2 G2 v2 H2 (f1.trans f2) r2 p2 q⟩⟩
/-- a < b < c -/
def wChain (wr wr' : WR2) (ta tb tc : WTE) : WTE := fun σ G Q E => ta σ G (fun x G1 => tb σ G1 (fun y G2 => wr x y G2 fun z G3 => ∃ k, z = .bl k ∧ if k = true then tc σ G3 (fun u G4 => wr' y u G4 Q) E else Q (.bl false) G3) E) E

theorem je_un {op : UnaryOp} {wr : WR1} (ho : UnW P X (unaryOp op) wr) (ha : JE P X a ta) : JE P X (.UnaryOp op a pos) (wUn wr ta) :=
  fun Ga Ha Ew tk => PE.imp (pe_un ho (ha Ga Ha Ew tk)) fun σ H Q ⟨σw, G, Qw, fa, rs, rp, ht, hq⟩ => ⟨σw, G, _, fa, rs, rp, ht, fun w1 G1 v1 H1 f1 r1 p1 h1 =>
    ⟨w1, G1, Qw, r1, p1, h1, fun w G' v H' f r p q => hq w G' v H' (f1.trans f) r p q⟩⟩
end
end Lw
/-! W2: statements, loops, calls of the text's defs. -/
namespace Lw
open PySem PySem.Spec PyProof.Rows L2
section
variable {P : Par} {X : Cx} {st : Stmt} {rest : List Stmt} {t u : WTS} {e : Expr} {te : WTE} {pos : Pos}
def wNext : WTS := fun D σ G _ => D.nx σ G
def wSeq (t u : WTS) : WTS := fun D σ G E => t { D with nx := fun σ' G' => u D σ' G' E } σ G E
def wBreak : WTS := fun D σ G _ => D.bk σ G
def wCont : WTS := fun D σ G _ => D.ct σ G
def wNever : WTS := fun _ _ _ _ => False
theorem jss_nil : JSs P X [] wNext := fun Ga Ha Ew tk => PSs.imp pss_nil fun D σ H ⟨σw, G, Dw, fa, rs, rp, ht, h1, h2, h3, h4⟩ => h1 σw G σ H (.refl _ _) rs rp ht
theorem jss_cons (ha : JS P X st t) (hb : JSs P X rest u) : JSs P X (st :: rest) (wSeq t u) := fun Ga Ha Ew tk =>
  PSs.imp (pss_cons (ha Ga Ha Ew tk) (hb Ga Ha Ew tk)) fun D σ H ⟨σw, G, Dw, fa, rs, rp, ht, h1, h2, h3, h4⟩ => ⟨σw, G, _, fa, rs, rp, ht, fun σw' G' σ' H' f r p q =>
    ⟨σw', G', Dw, fa.trans f, r, p, q, fun a b c d f' => h1 a b c d (f.trans f'), fun a b c d f' => h2 a b c d (f.trans f'), fun a b c d f' => h3 a b c d (f.trans f'), fun a b c d f' => h4 a b c d (f.trans f')⟩, h2, h3, h4⟩
theorem jss_one (ha : JS P X st t) : JSs P X [st] t := fun Ga Ha Ew tk => pss_one (ha Ga Ha Ew tk)
theorem js_pass : JS P X (.Pass pos) wNext := fun Ga Ha Ew tk => PS.imp ps_pass fun D σ H ⟨σw, G, Dw, fa, rs, rp, ht, h1, h2, h3, h4⟩ => h1 σw G σ H (.refl _ _) rs rp ht
theorem js_break : JS P X (.Break pos) wBreak := fun Ga Ha Ew tk => PS.imp ps_break fun D σ H ⟨σw, G, Dw, fa, rs, rp, ht, h1, h2, h3, h4⟩ => h3 σw G σ H (.refl _ _) rs rp ht
theorem js_continue : JS P X (.Continue pos) wCont := fun Ga Ha Ew tk => PS.imp ps_continue fun D σ H ⟨σw, G, Dw, fa, rs, rp, ht, h1, h2, h3, h4⟩ => h4 σw G σ H (.refl _ _) rs rp ht
theorem js_never : JS P X st wNever := fun Ga Ha Ew tk => PS.imp ps_never fun D σ H ⟨σw, G, Dw, fa, rs, rp, ht, _⟩ => ht
theorem jss_never {sts : List Stmt} : JSs P X sts wNever := fun Ga Ha Ew tk => PSs.imp pss_never fun D σ H ⟨σw, G, Dw, fa, rs, rp, ht, _⟩ => ht
def wDrop (te : WTE) : WTS := fun D σ G E => te σ G (fun _ G1 => D.nx σ G1) E
theorem js_expr (he : JE P X e te) (hs : swapsWith e none pos.line X.env = pure false := by rfl) : JS P X (.Expr e pos) (wDrop te) := fun Ga Ha Ew tk =>
  PS.imp (ps_expr (he Ga Ha Ew tk) hs) fun D σ H ⟨σw, G, Dw, fa, rs, rp, ht, h1, h2, h3, h4⟩ => ⟨σw, G, _, fa, rs, rp, ht, fun w G' v H' f r p q => h1 σw G' σ H' f (rs.fw rp f) p q⟩
def wRet (te : WTE) : WTS := fun D σ G E => te σ G D.rt E
theorem js_ret (he : JE P X e te) : JS P X (.Return (some e) pos) (wRet te) := fun Ga Ha Ew tk =>
  PS.imp (ps_ret (he Ga Ha Ew tk)) fun D σ H ⟨σw, G, Dw, fa, rs, rp, ht, h1, h2, h3, h4⟩ => ⟨σw, G, _, fa, rs, rp, ht, fun w G' v H' f r p q => h2 w G' v H' f r p q⟩
def wRetN : WTS := fun D _ G _ => D.rt .non G
theorem js_retN : JS P X (.Return none pos) wRetN := fun Ga Ha Ew tk => PS.imp ps_retN fun D σ H ⟨σw, G, Dw, fa, rs, rp, ht, h1, h2, h3, h4⟩ => h2 .non G .non H (.refl _ _) .non rp ht
def wIfS (c : WTT) (t u : WTS) : WTS := fun D σ G E => c σ G (fun b G1 => if b = true then t D σ G1 E else u D σ G1 E) E
theorem js_if {c : Expr} {a b : List Stmt} {tc : WTT} (hc : JT P X c tc) (ha : JSs P X a t) (hb : JSs P X b u) : JS P X (.If c a b pos) (wIfS tc t u) := fun Ga Ha Ew tk =>
  PS.imp (ps_if (hc Ga Ha Ew tk) (ha Ga Ha Ew tk) (hb Ga Ha Ew tk)) fun D σ H ⟨σw, G, Dw, fa, rs, rp, ht, h1, h2, h3, h4⟩ => ⟨σw, G, _, fa, rs, rp, ht, fun d G1 H1 f p q => by
    have ends := And.intro (fun a b c d f' => h1 a b c d (f.trans f')) (And.intro (fun a b c d f' => h2 a b c d (f.trans f')) (And.intro (fun a b c d f' => h3 a b c d (f.trans f')) (fun a b c d f' => h4 a b c d (f.trans f'))))
    cases d with
    | true => exact ⟨σw, G1, Dw, fa.trans f, rs.fw rp f, p, q, ends⟩
    | false => exact ⟨σw, G1, Dw, fa.trans f, rs.fw rp f, p, q, ends⟩⟩

/-! ### targets -/
abbrev WTG := W → WSt → WHp → (WSt → WHp → Prop) → WXK → Prop
def embG (P : Par) (Ga : WHp) (Ha : Hp) (Ew : WXK) (t : WTG) : TG := fun v σ H Q => ∃ w σw G Qw, Fw Ga Ha G H ∧ RelW P G H w v ∧ RelSt P G H σw σ ∧ Rep P G H ∧ t w σw G Qw Ew ∧
  ∀ σw' G' σ' H', Fw G H G' H' → RelSt P G' H' σw' σ' → Rep P G' H' → Qw σw' G' → Q σ' H'
def JG (P : Par) (X : Cx) (e : Expr) (t : WTG) : Prop := ∀ Ga Ha Ew, Takes X (embX P Ga Ha Ew) → PG X e (embG P Ga Ha Ew t)
theorem PG.imp {e : Expr} {t t' : TG} (h : PG X e t) (i : ∀ v σ H Q, t' v σ H Q → t v σ H Q) : PG X e t' := ⟨fun pins s σ H v u Q I r q => h.run pins s σ H v u Q I r (i v σ H Q q)⟩
def wN (i : Nat) : WTG := fun w σ G Q _ => Q (σ.set i (some w)) G
theorem jg_name {i : Nat} {x : Str} (hN : X.N.Nodup) (hi : X.N[i]? = some x) (hx : Loc X.env.scope x) (hf : X.fn x = true ∨ X.env.scope.names.lookup x = some .local := by first | exact .inl rfl | exact .inr rfl | assumption) : JG P X (.Name x pos) (wN i) := fun Ga Ha Ew tk =>
  PG.imp (pg_name hN hi hx hf) fun v σ H Q ⟨w, σw, G, Qw, fa, rw_, rs, rp, ht, hq⟩ => hq _ G _ H (.refl _ _) (rs.set rw_ i) rp ht
def wAsg (te : WTE) (g : WTG) : WTS := fun D σ G E => te σ G (fun x G1 => g x σ G1 D.nx E) E
theorem js_set {i : Nat} {x : Str} {pos' : Pos} (hN : X.N.Nodup) (hi : X.N[i]? = some x) (hx : Loc X.env.scope x) (he : JE P X e te) (hs : swapsWith e (some (.Name x pos')) pos.line X.env = pure false := by rfl) (hf : X.fn x = true ∨ X.env.scope.names.lookup x = some .local := by first | exact .inl rfl | exact .inr rfl | assumption) :
    JS P X (.Assign [.Name x pos'] e pos) (wAsg te (wN i)) := fun Ga Ha Ew tk =>
  PS.imp (ps_set hN hi hx (he Ga Ha Ew tk) hs hf) fun D σ H ⟨σw, G, Dw, fa, rs, rp, ht, h1, h2, h3, h4⟩ => ⟨σw, G, _, fa, rs, rp, ht, fun w G' v H' f r p q => h1 _ G' _ H' f ((rs.fw rp f).set r i) p q⟩
theorem js_asg {tg : Expr} {g : WTG} (he : JE P X e te) (hg : JG P X tg g) (hs : swapsWithSole [tg] e pos.line X.env = pure false := by rfl) (hw : swappedStores [tg] e X.env = pure none := by rfl)
    (h1 : (assignEach [tg] X.env).map (·.2) = [assign tg X.env] := by rfl) : JS P X (.Assign [tg] e pos) (wAsg te g) := fun Ga Ha Ew tk =>
  PS.imp (ps_asg (he Ga Ha Ew tk) (hg Ga Ha Ew tk) hs hw h1) fun D σ H ⟨σw, G, Dw, fa, rs, rp, ht, h1, h2, h3, h4⟩ => ⟨σw, G, _, fa, rs, rp, ht, fun w G' v H' f r p q =>
    ⟨w, σw, G', Dw.nx, fa.trans f, r, rs.fw rp f, p, q, fun a b c d f' => h1 a b c d (f.trans f')⟩⟩
/-- a, b = a tuple -/
abbrev WTGs := List W → WSt → WHp → (WSt → WHp → Prop) → WXK → Prop
def embGs (P : Par) (Ga : WHp) (Ha : Hp) (Ew : WXK) (t : WTGs) : TGs := fun v σ H Q => ∃ w σw G Qw, Fw Ga Ha G H ∧ RelWs P G H w v ∧ RelSt P G H σw σ ∧ Rep P G H ∧ t w σw G Qw Ew ∧
  ∀ σw' G' σ' H', Fw G H G' H' → RelSt P G' H' σw' σ' → Rep P G' H' → Qw σw' G' → Q σ' H'
def JGs (P : Par) (X : Cx) (e : List Expr) (t : WTGs) : Prop := ∀ Ga Ha Ew, Takes X (embX P Ga Ha Ew) → PGs X e (embGs P Ga Ha Ew t)
theorem PGs.imp {e : List Expr} {t t' : TGs} (h : PGs X e t) (i : ∀ v σ H Q, t' v σ H Q → t v σ H Q) : PGs X e t' := ⟨fun pins s σ H v u Q I r q => h.run pins s σ H v u Q I r (i v σ H Q q)⟩
def wGNil : WTGs := fun vs σ G Q _ => vs = [] ∧ Q σ G
def wGCons (t : WTG) (u : WTGs) : WTGs := fun vs σ G Q E => ∃ v r, vs = v :: r ∧ t v σ G (fun σ' G' => u r σ' G' Q E) E
theorem jgs_nil : JGs P X [] wGNil := fun Ga Ha Ew tk => PGs.imp pgs_nil fun v σ H Q ⟨w, σw, G, Qw, fa, rw_, rs, rp, ht, hq⟩ => by
  obtain ⟨rfl, q⟩ := ht
  cases rw_
  exact ⟨rfl, hq _ G _ H (.refl _ _) rs rp q⟩
theorem jgs_cons {es : List Expr} {g : WTG} {gs : WTGs} (ha : JG P X e g) (hb : JGs P X es gs) (hs : (assignEach (e :: es) X.env).map (·.2) = assign e X.env :: (assignEach es X.env).map (·.2) := by rfl) : JGs P X (e :: es) (wGCons g gs) := fun Ga Ha Ew tk =>
  PGs.imp (pgs_cons (ha Ga Ha Ew tk) (hb Ga Ha Ew tk) hs) fun v σ H Q ⟨w, σw, G, Qw, fa, rw_, rs, rp, ht, hq⟩ => by
    obtain ⟨w1, wr, rfl, q⟩ := ht
    cases rw_ with
    | cons _ v1 _ vr r1 rr =>
      exact ⟨v1, vr, rfl, w1, σw, G, _, fa, r1, rs, rp, q, fun σw' G' σ' H' f r p q2 => ⟨wr, σw', G', Qw, fa.trans f, rr.fw rp f, r, p, q2, fun a b c d f' => hq a b c d (f.trans f')⟩⟩
def wGTup (n : Nat) (t : WTGs) : WTG := fun w σ G Q E => ∃ xs, w = .tup xs ∧ xs.length = n ∧ t xs σ G Q E
theorem RelWs.length {G : WHp} {H : Hp} : ∀ {ws : List W} {vs : List V}, RelWs P G H ws vs → ws.length = vs.length
  | _, _, .nil => rfl
  | _, _, .cons w v ws vs _ r => by simp [RelWs.length r]
theorem jg_tup (hK : X.K = P.K) {es : List Expr} {k : Nat} {g : WTGs} {n : Nat} (hc : X.calm = true) (h : JGs P X es g)
    (hn : (assignEach es X.env).length = n := by rfl) (hst : (assignEach es X.env).findIdx? (·.1) = none := by rfl) : JG P X (.Tuple es k pos) (wGTup n g) := fun Ga Ha Ew tk =>
  PG.imp (pg_tup hc (h Ga Ha Ew tk) hn hst) fun v σ H Q ⟨w, σw, G, Qw, fa, rw_, rs, rp, ht, hq⟩ => by
    obtain ⟨xs, rfl, hl, q⟩ := ht
    cases rw_ with
    | tup a vs ws sq r => exact ⟨a, vs, rfl, by rw [hK]; exact sq, by rw [← r.length]; exact hl, xs, σw, G, Qw, fa, r, rs, rp, q, hq⟩
end

/-! ### for -/
/-- what is walked: its items, and what must stay for them to come -/
abbrev WTI := WSt → WHp → (List W → (WHp → Prop) → WHp → Prop) → WXK → Prop
/-- soundness of what is walked: the items come, one by one, at every heap that is reached with ok -/
def embI (P : Par) (Ga : WHp) (Ha : Hp) (Ew : WXK) (t : WTI) : TI := fun σ H R => ∃ σw G Rw, Fw Ga Ha G H ∧ RelSt P G H σw σ ∧ Rep P G H ∧ t σw G Rw Ew ∧
  ∀ (xs : List W) (ok : WHp → Prop) (G1 : WHp) (H1 : Hp) (J : It), Fw G H G1 H1 → Rep P G1 H1 → Rw xs ok G1 →
    (∀ i G2 H2, Fw G1 H1 G2 H2 → Rep P G2 H2 → ok G2 → xs.length ≤ i → J.stop i H2) →
    (∀ i G2 H2, Fw G1 H1 G2 H2 → Rep P G2 H2 → ok G2 → i < xs.length → J.go i H2) →
    (∀ i G2 H2 x H3, Fw G1 H1 G2 H2 → Rep P G2 H2 → ok G2 → i < xs.length → J.yld i H2 x H3 → ∃ w, xs[i]? = some w ∧ Fw G2 H2 G2 H3 ∧ Rep P G2 H3 ∧ RelW P G2 H3 w x) → R J H1
def JI (P : Par) (X : Cx) (tg iter : Expr) (t : WTI) : Prop := ∀ Ga Ha Ew, Takes X (embX P Ga Ha Ew) → PI X tg iter (embI P Ga Ha Ew t)
/-- a loop over items: some invariant holds at the start, every turn keeps it, and behind the last one it gives what follows -/
def LoopOk (g : WTG) (tb : WTS) (D : WEnds) (σ : WSt) (E : WXK) (xs : List W) (ok : WHp → Prop) (G1 : WHp) : Prop := ∃ Inv : Nat → WSt → WHp → Prop, Inv 0 σ G1 ∧ (∀ i σ' G', i ≤ xs.length → Inv i σ' G' → ok G') ∧
  (∀ i x σ' G', xs[i]? = some x → Inv i σ' G' → g x σ' G' (fun σ2 G2 => tb { D with nx := Inv (i + 1), ct := Inv (i + 1), bk := D.nx } σ2 G2 E) E) ∧ (∀ σ' G', Inv xs.length σ' G' → D.nx σ' G')
def wFor (wi : WTI) (g : WTG) (tb : WTS) : WTS := fun D σ G E => wi σ G (fun xs ok G1 => LoopOk g tb D σ E xs ok G1) E
section
variable {P : Par} {X : Cx} {pos : Pos} {tg iter : Expr} {body : List Stmt} {wi : WTI} {g : WTG} {tb : WTS}
theorem js_for (hp : PassesOwn (model X.prog X.w) X.A X.env X.xe) (hc : X.calm = true) (hi : JI P X tg iter wi) (hg : JG P X tg g) (hb : JSs P X body tb)
    (hs : ∀ x, foldedSetIterable iter X.env x = pure x := by intro _; rfl) : JS P X (.For tg iter body [] pos) (wFor wi g tb) := fun Ga Ha Ew tk =>
  PS.imp (ps_for hp hc (hi Ga Ha Ew tk) (hg Ga Ha Ew tk) (hb Ga Ha Ew tk) hs) fun D σ H ⟨σw, G, Dw, fa, rs, rp, ht, h1, h2, h3, h4⟩ => ⟨σw, G, _, fa, rs, rp, ht, fun xs ok G1 H1 J f1 p1 hR hstop hgo hyld => by
    obtain ⟨Iv, i0, iok, istep, iend⟩ := hR
    refine ⟨fun i m σ' H' => m = xs.length - i ∧ i ≤ xs.length ∧ ∃ σw' G', Fw G1 H1 G' H' ∧ RelSt P G' H' σw' σ' ∧ Rep P G' H' ∧ Iv i σw' G', ⟨_, rfl, Nat.zero_le _, σw, G1, .refl _ _, rs.fw rp f1, p1, i0⟩, ?_⟩
    rintro i m σ' H' ⟨rfl, hi, σw', G', f', rs', rp', iv⟩
    have hok := iok i σw' G' hi iv
    by_cases hlt : i < xs.length
    · refine .inr ⟨hgo i G' H' f' rp' hok hlt, fun σ2 H2 => i + 1 ≤ xs.length ∧ ∃ σw' G', Fw G1 H1 G' H2 ∧ RelSt P G' H2 σw' σ2 ∧ Rep P G' H2 ∧ Iv (i + 1) σw' G', fun σ2 H2 n => ⟨xs.length - (i + 1), by omega, rfl, n⟩, fun x H3 y => ?_⟩
      obtain ⟨w, hw, f3, p3, rw_⟩ := hyld i G' H' x H3 f' rp' hok hlt y
      refine ⟨w, σw', G', _, fa.trans (f1.trans (f'.trans f3)), rw_, rs'.fw rp' f3, p3, istep i w σw' G' hw iv, fun σw4 G4 σ4 H4 f4 r4 p4 q4 => ?_⟩
      refine ⟨σw4, G4, _, fa.trans (f1.trans ((f'.trans f3).trans f4)), r4, p4, q4, fun σw5 G5 σ5 H5 f5 r5 p5 q5 => ?_, fun w5 G5 v5 H5 f5 r5 p5 q5 => ?_, fun σw5 G5 σ5 H5 f5 r5 p5 q5 => ?_, fun σw5 G5 σ5 H5 f5 r5 p5 q5 => ?_⟩
      · exact ⟨hlt, σw5, G5, (f'.trans f3).trans (f4.trans f5), r5, p5, q5⟩
      · exact h2 w5 G5 v5 H5 (f1.trans ((f'.trans f3).trans (f4.trans f5))) r5 p5 q5
      · exact h1 σw5 G5 σ5 H5 (f1.trans ((f'.trans f3).trans (f4.trans f5))) r5 p5 q5
      · exact ⟨hlt, σw5, G5, (f'.trans f3).trans (f4.trans f5), r5, p5, q5⟩
    · have e : i = xs.length := by omega
      subst e
      exact .inl ⟨hstop _ G' H' f' rp' hok (Nat.le_refl _), h1 σw' G' σ' H' (f1.trans f') rs' rp' (iend σw' G' iv)⟩⟩
def wWhile (c : WTT) (tb : WTS) : WTS := fun D σ G E => ∃ Inv : Nat → WSt → WHp → Prop, (∃ m, Inv m σ G) ∧ ∀ m σ' G', Inv m σ' G' → c σ' G' (fun b G2 =>
  if b = true then tb { D with nx := fun σ3 G3 => ∃ m', m' < m ∧ Inv m' σ3 G3, ct := fun σ3 G3 => ∃ m', m' < m ∧ Inv m' σ3 G3, bk := D.nx } σ' G2 E else D.nx σ' G2) E
theorem js_while {c : Expr} {tc : WTT} (hp : PassesOwn (model X.prog X.w) X.A X.env X.xe) (hc : JT P X c tc) (hb : JSs P X body tb) : JS P X (.While c body [] pos) (wWhile tc tb) := fun Ga Ha Ew tk =>
  PS.imp (ps_while hp (hc Ga Ha Ew tk) (hb Ga Ha Ew tk)) fun D σ H ⟨σw, G, Dw, fa, rs, rp, ⟨Iv, ⟨m0, i0⟩, istep⟩, h1, h2, h3, h4⟩ => by
    refine ⟨fun m σ' H' => ∃ σw' G', Fw G H G' H' ∧ RelSt P G' H' σw' σ' ∧ Rep P G' H' ∧ Iv m σw' G', ⟨m0, σw, G, .refl _ _, rs, rp, i0⟩, ?_⟩
    rintro m σ' H' ⟨σw', G', f', rs', rp', iv⟩
    refine ⟨σw', G', _, fa.trans f', rs', rp', istep m σw' G' iv, fun b G2 H2 f2 p2 q2 => ?_⟩
    cases b with
    | true =>
      refine ⟨_, fun σ3 H3 n => n, σw', G2, _, fa.trans (f'.trans f2), rs'.fw rp' f2, p2, q2, fun σw5 G5 σ5 H5 f5 r5 p5 ⟨m', hm, q5⟩ => ?_, fun w5 G5 v5 H5 f5 r5 p5 q5 => ?_, fun σw5 G5 σ5 H5 f5 r5 p5 q5 => ?_, fun σw5 G5 σ5 H5 f5 r5 p5 ⟨m', hm, q5⟩ => ?_⟩
      · exact ⟨m', hm, σw5, G5, f'.trans (f2.trans f5), r5, p5, q5⟩
      · exact h2 w5 G5 v5 H5 (f'.trans (f2.trans f5)) r5 p5 q5
      · exact h1 σw5 G5 σ5 H5 (f'.trans (f2.trans f5)) r5 p5 q5
      · exact ⟨m', hm, σw5, G5, f'.trans (f2.trans f5), r5, p5, q5⟩
    | false => exact h1 σw' G2 σ' H2 (f'.trans f2) (rs'.fw rp' f2) p2 q2
end

/-! ### arguments -/
section
variable {P : Par} {X : Cx} {e : Expr} {es : List Expr} {te : WTE} {ta : WTA} {pos : Pos}
def wNil : WTA := fun _ G Q _ => Q [] G
def wCons (ta : WTE) (tr : WTA) : WTA := fun σ G Q E => ta σ G (fun x G1 => tr σ G1 (fun xs G2 => Q (x :: xs) G2) E) E
theorem ja_nil : JA P X [] wNil := fun Ga Ha Ew tk => PA.imp pa_nil fun σ H Q ⟨σw, G, Qw, fa, rs, rp, ht, hq⟩ => hq _ G _ H (.refl _ _) .nil rp ht
theorem ja_cons (ha : JE P X e te) (hr : JA P X es ta) (hs : starEach (e :: es) X.env = (false, eval e X.env) :: starEach es X.env := by rfl) : JA P X (e :: es) (wCons te ta) := fun Ga Ha Ew tk =>
  PA.imp (pa_cons (ha Ga Ha Ew tk) (hr Ga Ha Ew tk) hs) fun σ H Q ⟨σw, G, Qw, fa, rs, rp, ht, hq⟩ => ⟨σw, G, _, fa, rs, rp, ht, fun w G1 v H1 f1 r1 p1 q1 =>
    ⟨σw, G1, _, fa.trans f1, rs.fw rp f1, p1, q1, fun ws G2 vs H2 f2 r2 p2 q2 => hq (w :: ws) G2 (v :: vs) H2 (f1.trans f2) (.cons _ _ _ _ (r1.fw p1 f2) r2) p2 q2⟩⟩
/-- a display: a tuple; a list that nothing changes; a list that may change -/
def wTup (t : WTA) : WTE := fun σ G Q E => t σ G (fun xs G1 => xs.length ≤ sizeLine ∧ Q (.tup xs) G1) E
def wLstI (t : WTA) : WTE := fun σ G Q E => t σ G (fun xs G1 => xs.length ≤ sizeLine ∧ Q (.il xs) G1) E
def wLstM (t : WTA) : WTE := fun σ G Q E => t σ G (fun xs G1 => xs.length ≤ sizeLine ∧ ∀ p, G1 p = none → Q (.ref p) (updG G1 p (.lst xs))) E
theorem je_tup {x1} (h : JA P X es ta) : JE P X (.Tuple es x1 pos) (wTup ta) := fun Ga Ha Ew tk =>
  PE.imp (pe_tup (h Ga Ha Ew tk)) fun σ H Q ⟨σw, G, Qw, fa, rs, rp, ht, hq⟩ => ⟨σw, G, _, fa, rs, rp, ht, fun ws G1 vs H1 f1 r1 p1 ⟨hl, q1⟩ => ⟨by rw [← r1.length]; exact hl, fun p hp =>
    hq _ G1 _ _ (f1.trans (.hid hp)) (.tup p vs ws (.inl (.inl upd_same)) (r1.fw p1 (.hid hp))) (p1.hid hp) q1⟩⟩
theorem je_lstI (h : JA P X es ta) : JE P X (.List es pos) (wLstI ta) := fun Ga Ha Ew tk =>
  PE.imp (pe_lst (h Ga Ha Ew tk)) fun σ H Q ⟨σw, G, Qw, fa, rs, rp, ht, hq⟩ => ⟨σw, G, _, fa, rs, rp, ht, fun ws G1 vs H1 f1 r1 p1 ⟨hl, q1⟩ => ⟨by rw [← r1.length]; exact hl, fun p hp =>
    hq _ G1 _ _ (f1.trans (.hid hp)) (.il p vs ws ⟨upd_same, p1.free hp⟩ (r1.fw p1 (.hid hp))) (p1.hid hp) q1⟩⟩
theorem je_lstM (h : JA P X es ta) : JE P X (.List es pos) (wLstM ta) := fun Ga Ha Ew tk =>
  PE.imp (pe_lst (h Ga Ha Ew tk)) fun σ H Q ⟨σw, G, Qw, fa, rs, rp, ht, hq⟩ => ⟨σw, G, _, fa, rs, rp, ht, fun ws G1 vs H1 f1 r1 p1 ⟨hl, q1⟩ => ⟨by rw [← r1.length]; exact hl, fun p hp =>
    hq _ _ _ _ (f1.trans (.new hp)) (.ref p) (p1.put (u := .lst ws) (.new hp) ⟨vs, upd_same, r1.fw p1 (.new hp)⟩) (q1 p (p1.free hp))⟩⟩
end

/-! ### the text's defs -/
/-- a def's promise -/
abbrev WSp := List W → WHp → WQ → (Xc → WHp → Prop) → Prop
def embSp (P : Par) (sp : WSp) : Sp := fun vs H Q E => ∃ ws G Qw Ew, RelWs P G H ws vs ∧ Rep P G H ∧ sp ws G Qw Ew ∧ (∀ w G' v H', Fw G H G' H' → RelW P G' H' w v → Rep P G' H' → Qw w G' → Q v H') ∧
  (∀ c fs G' d H', Fw G H G' H' → Rep P G' H' → ExcD P G' H' d fs → Ew ⟨c, fs⟩ G' → E (.ref (P.ca c)) d H')
abbrev FnW (P : Par) (prog : Program) (w : World) (mg : Str → Option Value) (base : Heap) (k : Nat) (f : Addr) (fd : FuncData) (ps : List Str) (sp : WSp) : Prop :=
  FnOk prog w P.K mg base (L2.CX prog w) k f fd ps (embSp P sp)
section
variable {P : Par} {X : Cx} {k : Nat} {f : Addr} {fd : FuncData} {ps : List Str} {sp : WSp} {x : Str} {p pos : Pos} {e : Expr} {es : List Expr} {ta : WTA}
def wCall (sp : WSp) (t : WTA) : WTE := fun σ G Q E => t σ G (fun ws G1 => sp ws G1 Q fun c G2 => E c σ G2) E
/-- what is wished of an exception of a call, at the caller's slots -/
theorem passW {Ga : WHp} {Ha : Hp} {Ew : WXK} (tk : Takes X (embX P Ga Ha Ew)) (σ : L2.St) : PassesAt (L2.CX X.prog X.w) X σ (fun cls d H' => embX P Ga Ha Ew cls d σ H') := passAt tk σ
theorem call_step {Ga : WHp} {Ha : Hp} {Ew : WXK} : ∀ σ H Q, embE P Ga Ha Ew (wCall sp ta) σ H Q → tCallSD (embSp P sp) [] (fun σ cls d H' => embX P Ga Ha Ew cls d σ H') (embA P Ga Ha Ew ta) σ H Q :=
  fun σ H Q ⟨σw, G, Qw, fa, rs, rp, ht, hq⟩ => ⟨σw, G, _, fa, rs, rp, ht, fun ws G1 vs H1 f1 r1 p1 q1 => by
    show embSp P sp (vs ++ []) H1 Q _
    rw [List.append_nil]
    exact ⟨ws, G1, Qw, _, r1, p1, q1, fun w G2 v H2 f2 r2 p2 q2 => hq w G2 v H2 (f1.trans f2) r2 p2 q2, fun c fs G2 d H2 f2 p2 ed q2 => ⟨c, fs, σw, G2, rfl, fa.trans (f1.trans f2), rs.fw rp (f1.trans f2), p2, ed, q2⟩⟩⟩
theorem je_call (hK : X.K = P.K) (F : FnW P X.prog X.w X.mg X.base k f fd ps sp) (hr : Room k X.A) (hg : Gl X x) (hm : X.mg x = some (.ref f)) (hk : PySem.W.keepIn P.K (.ref f) = true) (hb : Binds P.K fd ps [])
    (ha : JA P X (e :: es) ta) (hdb : (x == ("__debug__" : Str)) = false := by decide) (he : starEach (e :: es) X.env = (false, eval e X.env) :: starEach es X.env := by rfl) (hpl : (backTo pos (starEach es X.env)).any (·.1) = false := by rfl) :
    JE P X (.Call (.Name x p) (e :: es) [] pos) (wCall sp ta) := fun Ga Ha Ew tk =>
  PE.imp (pe_callSD (E := fun σ cls d H' => embX P Ga Ha Ew cls d σ H') (by rw [hK]; exact F) hr hg hm (by rw [hK]; exact hk) (by rw [hK]; exact hb) .nil (fun σ => passW tk σ) (ha Ga Ha Ew tk) hdb he hpl) call_step
/-- a def by its body -/
def wStart (N : List Str) (ws : List W) : WSt := ws.map some ++ List.replicate (N.length - ws.length) none
theorem RelSt.start {G : WHp} {H : Hp} (N : List Str) : ∀ {ws : List W} {vs : List V} (n : Nat), RelWs P G H ws vs → RelSt P G H (ws.map some ++ List.replicate n none) (vs.map some ++ List.replicate n none)
  | _, _, 0, .nil => .nil
  | _, _, n + 1, .nil => by
    show RelSt P G H (none :: List.replicate n none) (none :: List.replicate n none)
    exact .hole _ _ _ (RelSt.start N (ws := []) (vs := []) n .nil)
  | _, _, n, .cons w v ws vs h r => .val w v _ _ h (RelSt.start N n r)
theorem takes_top {prog : Program} {w : World} {K : PySem.W.Frag} {mg : Str → Option Value} {base : Heap} {N : List Str} {qual : Str} {scope : Scope} {f : Addr} {cd : Value} {A : Around} {outer : List Env} {s : Shared} {H : Hp} {E : XK} {W : WX}
    (hW : ∀ cls d σ H', W cls d σ H' → E cls d H') : Takes (cxOf (L2.CX prog w) prog w K mg base N qual scope f cd A outer s H E) W := Takes.imp (takes_of rfl rfl rfl rfl) hW
theorem Fun.okW {prog : Program} {w : World} {mg : Str → Option Value} {base : Heap} {x qual : Str} {st : Stmt} {N : List Str} (F : Fun P.K x qual st f fd) (Sc : FnScope N ps (defScope st)) (len : ∀ ws G Q E, sp ws G Q E → ws.length = ps.length)
    (hbody : ∀ (cdv : Value) (A : Around) (outer : List Env) (s : Shared) (H : Hp) (E : XK), Room k (A.deeper (envOfC qual (defScope st) s.heap.objs.size f cdv)) →
      ∃ t : WTS, JSs P (cxOf (L2.CX prog w) prog w P.K mg base N qual (defScope st) f cdv A outer s H E) (defBody st) t ∧
        ∀ ws G Q Ex, sp ws G Q Ex → t { nx := fun _ G' => Q .non G', rt := Q, bk := fun _ _ => False, ct := fun _ _ => False } (wStart N ws) G (fun c _ G' => Ex c G')) : FnW P prog w mg base (k + 1) f fd ps sp := by
  refine F.okX Sc (fun vs H Q E h => ?_) (fun cdv A outer s H vs Q E hr h => ?_)
  · obtain ⟨ws, G, Qw, Ew, r, _, h, _⟩ := h
    rw [← r.length]
    exact len _ _ _ _ h
  · obtain ⟨ws, G, Qw, Ew, r, rp, h, hq, hE⟩ := h
    obtain ⟨t, ht, hs⟩ := hbody cdv A outer s H E hr
    refine ⟨_, ht G H (fun c _ G' => Ew c G') (takes_top fun cls d σ H' ⟨c, fs, σw, G', e1, f1, _, p1, ed, q⟩ => by subst e1; exact hE c fs G' d H' f1 p1 ed q), wStart N ws, G, _, .refl _ _, ?_, rp, hs ws G Qw Ew h, fun σw' G' σ' H' f1 r1 p1 q1 => hq .non G' .non H' f1 .non p1 q1, fun w G' v H' f1 r1 p1 q1 => hq w G' v H' f1 r1 p1 q1, fun _ _ _ _ _ _ _ q => q.elim, fun _ _ _ _ _ _ _ q => q.elim⟩
    unfold wStart L2.start
    rw [r.length]
    exact RelSt.start N _ r
end
end Lw
/-! W3: operators by values. -/
namespace Lw
open PySem PySem.Spec PyProof.Rows L2

/-! ### texts -/
theorem S_len (s : List Nat) : (S s).length = s.length := rfl
theorem S_list (s : List Nat) : (S s).cps.toList = s := rfl
theorem S_app (s t : List Nat) : (S s : Str) ++ (S t : Str) = S (s ++ t) := by
  show (⟨s.toArray ++ t.toArray⟩ : Str) = ⟨(s ++ t).toArray⟩
  congr 1
  simp
theorem S_inj {s t : List Nat} (h : S s = S t) : s = t := by
  have := congrArg (fun z : Str => z.cps.toList) h
  exact this
theorem S_of (z : Str) : z = S z.cps.toList := by
  cases z with
  | mk c => cases c; rfl
theorem dec_S (s t : List Nat) : decide (S s = S t) = decide (s = t) := by
  by_cases h : s = t
  · subst h; simp
  · rw [decide_eq_false h, decide_eq_false fun q => h (S_inj q)]

/-! ### lists, tuples, as one reads them -/
/-- a list that may be joined to another: what nothing changes, or seen -/
def lstOf (G : WHp) : W → Option (List W)
  | .il xs => some xs
  | .ref p => match G p with
    | some (.lst xs) => some xs
    | _ => none
  | _ => none
/-- a list, the script too -/
def sqOf (G : WHp) : W → Option (List W)
  | .sc ns => some (ns.map W.int)
  | w => lstOf G w
section
variable {P : Par} {X : Cx} {G : WHp} {H : Hp}
theorem RelWs.ints : ∀ (ns : List Int), RelWs P G H (ns.map W.int) (ns.map V.int)
  | [] => .nil
  | n :: r => .cons _ _ _ _ (.int n) (RelWs.ints r)
theorem lstOf_rel (rp : Rep P G H) {w : W} {v : V} {xs : List W} (r : RelW P G H w v) (e : lstOf G w = some xs) : ∃ a vs, v = .ref a ∧ H a = some (.lst vs) ∧ RelWs P G H xs vs := by
  cases r with
  | il a vs ws h rs => cases e; exact ⟨a, vs, rfl, h.1, rs⟩
  | ref a =>
    dsimp only [lstOf] at e
    cases q : G a with
    | none => rw [q] at e; cases e
    | some o =>
      rw [q] at e
      cases o with
      | lst ws =>
        cases e
        obtain ⟨vs, h, rs⟩ := rp a _ q
        exact ⟨a, vs, rfl, h, rs⟩
      | dct _ => cases e
      | obj _ _ => cases e
      | fz _ _ _ => cases e
      | xd _ => cases e
      | bd _ => cases e
      | td _ => cases e
      | tab => cases e
  | non => cases e
  | bl b => cases e
  | int i => cases e
  | str s => cases e
  | ty n => cases e
  | sc a ns h => cases e
  | tup a vs ws h rs => cases e
  | dk a kv kvs h g rs => cases e
  | io a dx c fv fs h g rs => cases e
  | clo a c cd l xs h1 h2 h3 g h => cases e
theorem sqOf_rel (rp : Rep P G H) {w : W} {v : V} {xs : List W} (r : RelW P G H w v) (e : sqOf G w = some xs) : ∃ a vs, v = .ref a ∧ SqL P.K H a vs ∧ RelWs P G H xs vs := by
  have go : ∀ {w}, RelW P G H w v → lstOf G w = some xs → ∃ a vs, v = .ref a ∧ SqL P.K H a vs ∧ RelWs P G H xs vs := fun r e => by
    obtain ⟨a, vs, e1, h, rs⟩ := lstOf_rel rp r e
    exact ⟨a, vs, e1, .of h, rs⟩
  cases w with
  | sc ns =>
    cases e
    cases r with
    | sc a _ h => exact ⟨a, _, rfl, h.sq, .ints ns⟩
  | _ => exact go r e
theorem RelWs.get : ∀ {ws : List W} {vs : List V} {i : Nat} {w : W}, RelWs P G H ws vs → ws[i]? = some w → ∃ v, vs[i]? = some v ∧ RelW P G H w v
  | _, _, i, w, .nil, e => by simp at e
  | _, _, 0, w, .cons w' v' ws vs h r, e => by simp at e; subst e; exact ⟨v', rfl, h⟩
  | _, _, i + 1, w, .cons w' v' ws vs h r, e => by
    obtain ⟨v, h1, h2⟩ := RelWs.get (i := i) r (by simpa using e)
    exact ⟨v, by simpa using h1, h2⟩
theorem RelWs.get' {ws : List W} {vs : List V} {i : Nat} {v : V} (r : RelWs P G H ws vs) (e : vs[i]? = some v) : ∃ w, ws[i]? = some w ∧ RelW P G H w v := by
  have hi : i < vs.length := (List.getElem?_eq_some_iff.mp e).1
  have hw : i < ws.length := by rw [r.length]; exact hi
  obtain ⟨v', h1, h2⟩ := r.get (List.getElem?_eq_getElem hw)
  rw [e] at h1
  cases h1
  exact ⟨_, List.getElem?_eq_getElem hw, h2⟩
theorem RelWs.append : ∀ {ws zs : List W} {vs us : List V}, RelWs P G H ws vs → RelWs P G H zs us → RelWs P G H (ws ++ zs) (vs ++ us)
  | _, _, _, _, .nil, s => s
  | _, _, _, _, .cons _ _ _ _ h r, s => .cons _ _ _ _ h (RelWs.append r s)
theorem RelWs.take : ∀ {ws : List W} {vs : List V} (n : Nat), RelWs P G H ws vs → RelWs P G H (ws.take n) (vs.take n)
  | _, _, 0, _ => by simpa using RelWs.nil
  | _, _, n + 1, .nil => by simpa using RelWs.nil
  | _, _, n + 1, .cons _ _ _ _ h r => .cons _ _ _ _ h (RelWs.take n r)
theorem RelWs.drop : ∀ {ws : List W} {vs : List V} (n : Nat), RelWs P G H ws vs → RelWs P G H (ws.drop n) (vs.drop n)
  | _, _, 0, r => r
  | _, _, n + 1, .nil => by simpa using RelWs.nil
  | _, _, n + 1, .cons _ _ _ _ h r => RelWs.drop n r
theorem RelWs.set {w : W} {v : V} (h : RelW P G H w v) : ∀ {ws : List W} {vs : List V} (i : Nat), RelWs P G H ws vs → RelWs P G H (ws.set i w) (vs.set i v)
  | _, _, i, .nil => by simpa using RelWs.nil
  | _, _, 0, .cons _ _ _ _ _ r => .cons _ _ _ _ h r
  | _, _, i + 1, .cons _ _ _ _ q r => .cons _ _ _ _ q (RelWs.set h i r)
theorem RelWs.atI {ws : List W} {vs : List V} {i : Int} {w : W} (r : RelWs P G H ws vs) (e : atI ws i = some w) : ∃ v, atI vs i = some v ∧ RelW P G H w v := by
  unfold L2.atI at e ⊢
  rw [← r.length]
  cases q : ixN ws.length i with
  | none => rw [q] at e; cases e
  | some j => rw [q] at e; exact r.get e

/-! ### arithmetic -/
/-- the end of a rule that makes no object -/
theorem emb_end {Qw : WQ} {Q : VK} {w : W} {v : V} (hq : ∀ w G' v H', Fw G H G' H' → RelW P G' H' w v → Rep P G' H' → Qw w G' → Q v H') (rp : Rep P G H) (r : RelW P G H w v) (q : Qw w G) : Q v H := hq w G v H (.refl _ _) r rp q
def big : Nat := 16777216
theorem big_eq : sizeLine = big := sizeLine_eq
def oAdd : WR2 := fun x y G Q => match x, y with
  | .int i, .int j => Q (.int (i + j)) G
  | .str s, .str t => s.length + t.length ≤ big ∧ Q (.str (s ++ t)) G
  | .tup xs, .tup ys => xs.length + ys.length ≤ big ∧ Q (.tup (xs ++ ys)) G
  | x, y => ∃ xs ys, lstOf G x = some xs ∧ lstOf G y = some ys ∧ xs.length + ys.length ≤ big ∧ Q (.il (xs ++ ys)) G
theorem ow_add (hK : X.K = P.K) : OpW P X (binaryOp .Add) oAdd := by
  refine OpR.imp (OpR.or op_add (OpR.or op_add_str (OpR.or op_catA op_cat))) fun x y H Q ⟨wx, wy, G, Qw, rx, ry, rp, h, hq⟩ => ?_
  have lists : ∀ {wx wy : W}, RelW P G H wx x → RelW P G H wy y → (∃ xs ys, lstOf G wx = some xs ∧ lstOf G wy = some ys ∧ xs.length + ys.length ≤ big ∧ Qw (.il (xs ++ ys)) G) → rCat x y H Q := by
    rintro wx wy rx ry ⟨xs, ys, ex, ey, hl, q⟩
    obtain ⟨a, vs, rfl, ha, ra⟩ := lstOf_rel rp rx ex
    obtain ⟨b, us, rfl, hb, rb⟩ := lstOf_rel rp ry ey
    refine ⟨a, b, vs, us, rfl, rfl, ha, hb, by rw [← ra.length, ← rb.length, big_eq]; exact hl, fun p hp => ?_⟩
    exact hq _ G _ _ (.hid hp) (.il p _ _ ⟨upd_same, rp.free hp⟩ ((ra.append rb).fw rp (.hid hp))) (rp.hid hp) q
  by_cases h1 : ∃ i j, wx = .int i ∧ wy = .int j
  · obtain ⟨i, j, rfl, rfl⟩ := h1
    cases rx; cases ry
    exact .inl ⟨i, j, rfl, rfl, emb_end hq rp (.int _) h⟩
  by_cases h2 : ∃ i j, wx = .str i ∧ wy = .str j
  · obtain ⟨i, j, rfl, rfl⟩ := h2
    cases rx; cases ry
    exact .inr (.inl ⟨_, _, rfl, rfl, by rw [S_len, S_len, big_eq]; exact h.1, by rw [S_app]; exact emb_end hq rp (.str _) h.2⟩)
  by_cases h3 : ∃ i j, wx = .tup i ∧ wy = .tup j
  · obtain ⟨i, j, rfl, rfl⟩ := h3
    cases rx with
    | tup a vs _ ha ra =>
      cases ry with
      | tup b us _ hb rb =>
        refine .inr (.inr (.inl ⟨a, b, vs, us, rfl, rfl, by rw [hK]; exact ha, by rw [hK]; exact hb, by rw [← ra.length, ← rb.length, big_eq]; exact h.1, fun e => ?_, fun e1 e2 => ?_, fun _ _ p hp => ?_⟩))
        · subst e
          cases ra
          exact emb_end hq rp (.tup b us _ hb rb) h.2
        · subst e2
          cases rb
          have q2 := h.2
          rw [List.append_nil] at q2
          exact emb_end hq rp (.tup a vs _ ha ra) q2
        · exact hq _ G _ _ (.hid hp) (.tup p _ _ (.inl (.inl upd_same)) ((ra.append rb).fw rp (.hid hp))) (rp.hid hp) h.2
  refine .inr (.inr (.inr (lists rx ry ?_)))
  revert h
  unfold oAdd
  split
  · exact fun _ => absurd ⟨_, _, rfl, rfl⟩ h1
  · exact fun _ => absurd ⟨_, _, rfl, rfl⟩ h2
  · exact fun _ => absurd ⟨_, _, rfl, rfl⟩ h3
  · exact id
def oI (C : Int → Int → Prop) (g : Int → Int → Int) : WR2 := fun x y G Q => match x, y with
  | .int i, .int j => C i j ∧ Q (.int (g i j)) G
  | _, _ => False
theorem ow_int {f : Value → Value → Sem Value} {C : Int → Int → Prop} {g : Int → Int → Int} (h : OpR X f (rI C fun i j => .int (g i j))) : OpW P X f (oI C g) :=
  OpR.imp h fun x y H Q ⟨wx, wy, G, Qw, rx, ry, rp, h, hq⟩ => by
    unfold oI at h
    split at h
    · cases rx; cases ry; exact ⟨_, _, rfl, rfl, h.1, emb_end hq rp (.int _) h.2⟩
    · exact h.elim
theorem ow_int0 {f : Value → Value → Sem Value} {g : Int → Int → Int} (h : OpR X f (rI0 fun i j => .int (g i j))) : OpW P X f (oI (fun _ _ => True) g) :=
  OpR.imp h fun x y H Q ⟨wx, wy, G, Qw, rx, ry, rp, h, hq⟩ => by
    unfold oI at h
    split at h
    · cases rx; cases ry; exact ⟨_, _, rfl, rfl, emb_end hq rp (.int _) h.2⟩
    · exact h.elim
abbrev oSub : WR2 := oI (fun _ _ => True) (· - ·)
abbrev oMul : WR2 := oI CMul (· * ·)
abbrev oMod : WR2 := oI (fun _ j => 0 < j) (· % ·)
abbrev oDiv : WR2 := oI CDiv (· / ·)
abbrev oPow : WR2 := oI CPow (fun i j => i ^ j.toNat)
abbrev oShl : WR2 := oI CShl (fun i j => i * 2 ^ j.toNat)
abbrev oShr : WR2 := oI (fun _ j => 0 ≤ j) (fun i j => i / 2 ^ j.toNat)
abbrev oAnd : WR2 := oI (fun _ _ => True) Builtin.bitAnd
abbrev oOr : WR2 := oI (fun _ _ => True) Builtin.bitOr
theorem ow_sub : OpW P X (binaryOp .Sub) oSub := ow_int0 op_sub
theorem ow_mul : OpW P X (binaryOp .Mult) oMul := ow_int op_mul
theorem ow_mod : OpW P X (binaryOp .Mod) oMod := ow_int op_mod
theorem ow_div : OpW P X (binaryOp .FloorDiv) oDiv := ow_int op_fdiv
theorem ow_pow : OpW P X (binaryOp .Pow) oPow := ow_int op_pow
theorem ow_shl : OpW P X (binaryOp .LShift) oShl := ow_int op_shlW
theorem ow_shr : OpW P X (binaryOp .RShift) oShr := ow_int op_shr
theorem ow_and : OpW P X (binaryOp .BitAnd) oAnd := ow_int0 op_and
theorem ow_or : OpW P X (binaryOp .BitOr) oOr := ow_int0 op_or
/-- list * int -/
def oRep : WR2 := fun x y G Q => match y with
  | .int k => ∃ xs, lstOf G x = some xs ∧ -(2 ^ 63) ≤ k ∧ k < 2 ^ 63 ∧ xs.length * k.toNat ≤ big ∧ Q (.il (List.replicate k.toNat xs).flatten) G
  | _ => False
def oNeg : WR1 := fun x G Q => match x with
  | .int i => Q (.int (-i)) G
  | _ => False
theorem uw_neg : UnW P X (unaryOp .USub) oNeg := UnR.imp un_neg fun x H Q ⟨wx, G, Qw, rx, rp, h, hq⟩ => by
  unfold oNeg at h
  split at h
  · cases rx; exact ⟨_, rfl, emb_end hq rp (.int _) h⟩
  · exact h.elim

/-! ### comparisons -/
def oC (p : Int → Int → Bool) : WR2 := fun x y G Q => match x, y with
  | .int i, .int j => Q (.bl (p i j)) G
  | _, _ => False
theorem ow_cmp {f : Value → Value → Sem Value} {p : Int → Int → Bool} (h : OpR X f (rI0 fun i j => .bl (p i j))) : OpW P X f (oC p) :=
  OpR.imp h fun x y H Q ⟨wx, wy, G, Qw, rx, ry, rp, h, hq⟩ => by
    unfold oC at h
    split at h
    · cases rx; cases ry; exact ⟨_, _, rfl, rfl, emb_end hq rp (.bl _) h⟩
    · exact h.elim
abbrev oLt : WR2 := oC fun i j => decide (i < j)
abbrev oLe : WR2 := oC fun i j => decide (i ≤ j)
abbrev oGt : WR2 := oC fun i j => decide (j < i)
abbrev oGe : WR2 := oC fun i j => decide (j ≤ i)
theorem ow_lt : OpW P X (compareOp .Lt) oLt := ow_cmp op_lt
theorem ow_le : OpW P X (compareOp .LtE) oLe := ow_cmp op_le
theorem ow_gt : OpW P X (compareOp .Gt) oGt := ow_cmp op_gt
theorem ow_ge : OpW P X (compareOp .GtE) oGe := ow_cmp op_ge
end

mutual
inductive DpW (G : WHp) : W → PyData → Prop
  | non : DpW G .non .none
  | bl (b : Bool) : DpW G (.bl b) (.bool b)
  | int (i : Int) : DpW G (.int i) (.int i)
  | str (s : List Nat) : DpW G (.str s) (.str (S s))
  | tup (ws : List W) (ds : List PyData) : DpWs G ws ds → DpW G (.tup ws) (.tuple ds)
  | lst (w : W) (ws : List W) (ds : List PyData) : sqOf G w = some ws → DpWs G ws ds → DpW G w (.list ds)
inductive DpWs (G : WHp) : List W → List PyData → Prop
  | nil : DpWs G [] []
  | cons (w : W) (d : PyData) (ws : List W) (ds : List PyData) : DpW G w d → DpWs G ws ds → DpWs G (w :: ws) (d :: ds)
end
section
variable {P : Par} {X : Cx} {G : WHp} {H : Hp}
mutual
theorem DpW.dp (rp : Rep P G H) : ∀ {w : W} {v : V} {d : PyData}, DpW G w d → RelW P G H w v → Dp P.K H v d
  | _, _, _, .non, r => by cases r; exact .non
  | _, _, _, .bl b, r => by cases r; exact .bl b
  | _, _, _, .int i, r => by cases r; exact .int i
  | _, _, _, .str s, r => by cases r; exact .str _
  | _, _, _, .tup ws ds h, r => by
    cases r with
    | tup a vs _ ha ra => exact .tup ha (DpWs.dp rp h ra)
  | _, _, _, .lst w ws ds e h, r => by
    obtain ⟨a, vs, rfl, ha, ra⟩ := sqOf_rel rp r e
    exact .lst ha (DpWs.dp rp h ra)
theorem DpWs.dp (rp : Rep P G H) : ∀ {w : List W} {v : List V} {d : List PyData}, DpWs G w d → RelWs P G H w v → DpAll P.K H v d
  | _, _, _, .nil, r => by cases r; exact .nil
  | _, _, _, .cons w d ws ds h hs, r => by
    cases r with
    | cons _ v _ vs r1 rr => exact .cons (DpW.dp rp h r1) (DpWs.dp rp hs rr)
end
/-- scalars that == tells apart -/
def sclW : W → W → Option Bool
  | .int i, .int j => some (decide (i = j))
  | .str s, .str t => some (decide (s = t))
  | .bl a, .bl b => some (decide (a = b))
  | .non, .non => some true
  | .non, .int _ => some false
  | .int _, .non => some false
  | .non, .str _ => some false
  | .str _, .non => some false
  | .non, .bl _ => some false
  | .bl _, .non => some false
  | .int _, .str _ => some false
  | .str _, .int _ => some false
  | .bl _, .str _ => some false
  | .str _, .bl _ => some false
  | _, _ => none
theorem sclW_rel {wx wy : W} {x y : V} {k : Bool} (rx : RelW P G H wx x) (ry : RelW P G H wy y) (e : sclW wx wy = some k) : scal x y = true ∧ decide (x = y) = k := by
  unfold sclW at e
  split at e <;> first
    | (cases e; cases rx; cases ry; exact ⟨rfl, by simp⟩)
    | (cases e; cases rx; cases ry; refine ⟨rfl, ?_⟩; first | rfl | simp | (rw [← dec_S]; congr 1; exact propext ⟨fun h => V.str.inj h, fun h => by rw [h]⟩))
    | cases e
/-- data that are compared item by item: what the comparison says -/
def eqD (G : WHp) (x y : W) (k : Bool → Prop) : Prop := ∃ d e, DpW G x d ∧ DpW G y e ∧ SeqAt.shaped d = true ∧ SeqAt.shaped e = true ∧ k (PyData.eqv d e)
def oEq : WR2 := fun x y G Q => match sclW x y with
  | some k => Q (.bl k) G
  | none => eqD G x y fun k => Q (.bl k) G
def oNe : WR2 := fun x y G Q => match sclW x y with
  | some k => Q (.bl (!k)) G
  | none => eqD G x y fun k => Q (.bl (!k)) G
theorem ow_eq (hK : X.K = P.K) (hu : X.A.units + 64 < cLine) : OpW P X (compareOp .Eq) oEq := OpR.imp (OpR.or op_eq (op_eqD hu)) fun x y H Q ⟨wx, wy, G, Qw, rx, ry, rp, h, hq⟩ => by
  revert h
  unfold oEq
  cases e : sclW wx wy with
  | some k =>
    intro q
    obtain ⟨h1, h2⟩ := sclW_rel rx ry e
    exact .inl ⟨h1, by rw [h2]; exact emb_end hq rp (.bl _) q⟩
  | none =>
    rintro ⟨d, e, hd, he, sd, se, q⟩
    exact .inr ⟨d, e, by rw [hK]; exact hd.dp rp rx, by rw [hK]; exact he.dp rp ry, sd, se, emb_end hq rp (.bl _) q⟩
theorem ow_ne (hK : X.K = P.K) (hu : X.A.units + 64 < cLine) : OpW P X (compareOp .NotEq) oNe := OpR.imp (OpR.or op_ne (op_neD hu)) fun x y H Q ⟨wx, wy, G, Qw, rx, ry, rp, h, hq⟩ => by
  revert h
  unfold oNe
  cases e : sclW wx wy with
  | some k =>
    intro q
    obtain ⟨h1, h2⟩ := sclW_rel rx ry e
    exact .inl ⟨h1, by rw [h2]; exact emb_end hq rp (.bl _) q⟩
  | none =>
    rintro ⟨d, e, hd, he, sd, se, q⟩
    exact .inr ⟨d, e, by rw [hK]; exact hd.dp rp rx, by rw [hK]; exact he.dp rp ry, sd, se, emb_end hq rp (.bl _) q⟩
def isNonW : W → Bool
  | .non => true
  | _ => false
theorem isNonW_rel {w : W} {v : V} (r : RelW P G H w v) : decide (v = .non) = isNonW w := by cases r <;> simp [isNonW]
def oIs : WR2 := fun x y G Q => match y with
  | .non => Q (.bl (isNonW x)) G
  | _ => False
def oIsNot : WR2 := fun x y G Q => match y with
  | .non => Q (.bl (!isNonW x)) G
  | _ => False
theorem ow_is : OpW P X (compareOp .Is) oIs := OpR.imp op_isN fun x y H Q ⟨wx, wy, G, Qw, rx, ry, rp, h, hq⟩ => by
  unfold oIs at h
  split at h
  · cases ry; exact ⟨rfl, by rw [isNonW_rel rx]; exact emb_end hq rp (.bl _) h⟩
  · exact h.elim
theorem ow_isnot : OpW P X (compareOp .IsNot) oIsNot := OpR.imp op_notN fun x y H Q ⟨wx, wy, G, Qw, rx, ry, rp, h, hq⟩ => by
  unfold oIsNot at h
  split at h
  · cases ry; exact ⟨rfl, by rw [isNonW_rel rx]; exact emb_end hq rp (.bl _) h⟩
  · exact h.elim

/-! ### in -/
/-- flat values -/
def flW : W → Bool
  | .non => true
  | .bl _ => true
  | .int _ => true
  | .str _ => true
  | _ => false
def eqFl : W → W → Bool
  | .non, .non => true
  | .bl a, .bl b => a == b
  | .bl a, .int b => (if a then 1 else 0) == b
  | .int a, .bl b => a == (if b then 1 else 0)
  | .int a, .int b => a == b
  | .str a, .str b => decide (a = b)
  | _, _ => false
theorem flW_rel {w : W} {v : V} (r : RelW P G H w v) (h : flW w = true) : flatV v = true := by cases r <;> first | rfl | cases h
theorem eqFl_rel {w z : W} {v u : V} (r : RelW P G H w v) (s : RelW P G H z u) (h : flW w = true) (h' : flW z = true) : eqV v u = eqFl w z := by
  cases r <;> first
    | (exact absurd (show false = true from h) Bool.false_ne_true)
    | (cases s <;> first
        | (exact absurd (show false = true from h') Bool.false_ne_true)
        | rfl
        | (unfold eqV eqFl; rw [← dec_S]; rfl)
        | (show (S _ == S _) = decide _; rw [← dec_S]; rfl))
theorem all_flat : ∀ {ws : List W} {vs : List V}, RelWs P G H ws vs → ws.all flW = true → vs.all flatV = true
  | _, _, .nil, _ => rfl
  | _, _, .cons w v ws vs h r, e => by
    rw [List.all_cons, Bool.and_eq_true] at e ⊢
    exact ⟨flW_rel h e.1, all_flat r e.2⟩
theorem inV_rel {x : W} {v : V} (rx : RelW P G H x v) (hx : flW x = true) : ∀ {ws : List W} {vs : List V}, RelWs P G H ws vs → ws.all flW = true → inV v vs = ws.any fun y => eqFl y x
  | _, _, .nil, _ => rfl
  | _, _, .cons w u ws vs h r, e => by
    rw [List.all_cons, Bool.and_eq_true] at e
    show (eqV u v || inV v vs) = (eqFl w x || ws.any fun y => eqFl y x)
    rw [eqFl_rel h rx e.1 hx, inV_rel rx hx r e.2]
/-- one sign in a text; a flat value in a list or tuple of flat values -/
def inW (G : WHp) (x y : W) (k : Bool → Prop) : Prop := match x, y with
  | .str s, .str t => ∃ c, s = [c] ∧ k (decide (c ∈ t))
  | x, .tup ws => flW x = true ∧ ws.all flW = true ∧ k (ws.any fun y => eqFl y x)
  | x, y => ∃ ws, sqOf G y = some ws ∧ flW x = true ∧ ws.all flW = true ∧ k (ws.any fun y => eqFl y x)
def oIn : WR2 := fun x y G Q => inW G x y fun b => Q (.bl b) G
def oNotIn : WR2 := fun x y G Q => inW G x y fun b => Q (.bl (!b)) G
theorem inW_rel (rp : Rep P G H) {x y : W} {u v : V} {k : Bool → Prop} (rx : RelW P G H x u) (ry : RelW P G H y v) (h : inW G x y k) :
    (∃ (c : Nat) (z : Str), u = .str ⟨#[c]⟩ ∧ v = .str z ∧ k (decide (c ∈ z.cps.toList))) ∨ ∃ p xs, v = .ref p ∧ (SqL P.K H p xs ∨ SqT P.K H p xs) ∧ flatV u = true ∧ xs.all flatV = true ∧ k (inV u xs) := by
  unfold inW at h
  split at h
  · obtain ⟨c, rfl, q⟩ := h
    cases rx; cases ry
    exact .inl ⟨c, _, rfl, rfl, q⟩
  · obtain ⟨h1, h2, q⟩ := h
    cases ry with
    | tup a vs _ ha ra => exact .inr ⟨a, vs, rfl, .inr ha, flW_rel rx h1, all_flat ra h2, by rw [inV_rel rx h1 ra h2]; exact q⟩
  · obtain ⟨ws, e, h1, h2, q⟩ := h
    obtain ⟨a, vs, rfl, ha, ra⟩ := sqOf_rel rp ry e
    exact .inr ⟨a, vs, rfl, .inl ha, flW_rel rx h1, all_flat ra h2, by rw [inV_rel rx h1 ra h2]; exact q⟩
theorem ow_in (hK : X.K = P.K) : OpW P X (compareOp .In) oIn := OpR.imp (OpR.or op_in_sign op_in_seq) fun x y H Q ⟨wx, wy, G, Qw, rx, ry, rp, h, hq⟩ => by
  rcases inW_rel rp rx ry h with ⟨c, z, e1, e2, q⟩ | ⟨p, xs, e, hs, h1, h2, q⟩
  · exact .inl ⟨c, z, e1, e2, emb_end hq rp (.bl _) q⟩
  · exact .inr ⟨p, xs, e, by rw [hK]; exact hs, h1, h2, emb_end hq rp (.bl _) q⟩
theorem ow_notin (hK : X.K = P.K) : OpW P X (compareOp .NotIn) oNotIn := OpR.imp (OpR.or op_notIn_sign op_notIn_seq) fun x y H Q ⟨wx, wy, G, Qw, rx, ry, rp, h, hq⟩ => by
  rcases inW_rel rp rx ry h with ⟨c, z, e1, e2, q⟩ | ⟨p, xs, e, hs, h1, h2, q⟩
  · exact .inl ⟨c, z, e1, e2, emb_end hq rp (.bl _) q⟩
  · exact .inr ⟨p, xs, e, by rw [hK]; exact hs, h1, h2, emb_end hq rp (.bl _) q⟩

/-! ### a[i] -/
def oIx : WR2 := fun x y G Q => match x, y with
  | .str s, .int i => s.length ≤ big ∧ ∃ c, atI s i = some c ∧ Q (.str [c]) G
  | .tup ws, .int i => ∃ w, atI ws i = some w ∧ Q w G
  | x, .int i => ∃ ws w, sqOf G x = some ws ∧ atI ws i = some w ∧ Q w G
  | _, _ => False
def IxW (P : Par) (X : Cx) (wr : WR2) : Prop := IxR X (emb2 P wr)
theorem IxR.imp {r r' : R2} (h : IxR X r) (i : ∀ x y H Q, r' x y H Q → r x y H Q) : IxR X r' := fun value slice pins s σ H x y v u Q I rx ry q hs => h value slice pins s σ H x y v u Q I rx ry (i x y H Q q) hs
theorem iw_seq (hK : X.K = P.K) : IxW P X oIx := IxR.imp ix_seq fun x y H Q ⟨wx, wy, G, Qw, rx, ry, rp, h, hq⟩ => by
  unfold oIx at h
  split at h
  · obtain ⟨hl, c, e, q⟩ := h
    cases rx; cases ry
    exact .inr (.inr ⟨_, _, c, rfl, rfl, by rw [S_len, big_eq]; exact hl, e, emb_end hq rp (.str [c]) q⟩)
  · obtain ⟨w, e, q⟩ := h
    cases ry
    cases rx with
    | tup a vs _ ha ra =>
      obtain ⟨v, e', r⟩ := ra.atI e
      exact .inr (.inl ⟨a, vs, _, v, rfl, rfl, by rw [hK]; exact ha, e', emb_end hq rp r q⟩)
  · obtain ⟨ws, w, e0, e, q⟩ := h
    cases ry
    obtain ⟨a, vs, rfl, ha, ra⟩ := sqOf_rel rp rx e0
    obtain ⟨v, e', r⟩ := ra.atI e
    exact .inl ⟨a, vs, _, v, rfl, rfl, by rw [hK]; exact ha, e', emb_end hq rp r q⟩
  · exact h.elim
theorem je_ix {a b : Expr} {ta tb : WTE} {pos : Pos} {wr : WR2} (hr : IxW P X wr) (ha : JE P X a ta) (hb : JE P X b tb) (hs : PlainIx b := by exact fun _ _ => rfl) : JE P X (.Subscript a b pos) (wOp wr ta tb) :=
  fun Ga Ha Ew tk => PE.imp (pe_ix hr (ha Ga Ha Ew tk) (hb Ga Ha Ew tk) hs) op_step
end
end Lw
/-! W4: freezing; slices; what is walked; comprehensions; builtins. -/
namespace Lw
open PySem PySem.Spec PyProof.Rows L2

/-! ### fewer seen objects -/
section
variable {P : Par} {X : Cx} {G G2 : WHp} {H : Hp}
mutual
theorem RelW.sub (s : ∀ a, G a = none → G2 a = none) : ∀ {w : W} {v : V}, RelW P G H w v → RelW P G2 H w v
  | _, _, .non => .non
  | _, _, .bl b => .bl b
  | _, _, .int i => .int i
  | _, _, .str x => .str x
  | _, _, .ref a => .ref a
  | _, _, .ty n => .ty n
  | _, _, .sc a ns h => .sc a ns h
  | _, _, .tup a vs ws h r => .tup a vs ws h (RelWs.sub s r)
  | _, _, .il a vs ws h r => .il a vs ws ⟨h.1, s a h.2⟩ (RelWs.sub s r)
  | _, _, .dk a kv kvs h g r => .dk a kv kvs h (s a g) (RelKs.sub s r)
  | _, _, .io a dx c fv fs h g r => .io a dx c fv fs h ⟨s a g.1, g.2⟩ (RelFs.sub s r)
  | _, _, .clo a c cd l xs h1 h2 h3 g h => .clo a c cd l xs h1 h2 h3 ⟨s a g.1, s c g.2.1, s cd g.2.2⟩ ⟨h.1, s l h.2⟩
theorem RelWs.sub (s : ∀ a, G a = none → G2 a = none) : ∀ {w : List W} {v : List V}, RelWs P G H w v → RelWs P G2 H w v
  | _, _, .nil => .nil
  | _, _, .cons w v ws vs h r => .cons w v ws vs (RelW.sub s h) (RelWs.sub s r)
theorem RelKs.sub (s : ∀ a, G a = none → G2 a = none) : ∀ {w : List (KW × W)} {v : List (Key × V)}, RelKs P G H w v → RelKs P G2 H w v
  | _, _, .nil => .nil
  | _, _, .cons k w v ws vs h r => .cons k w v ws vs (RelW.sub s h) (RelKs.sub s r)
theorem RelFs.sub (s : ∀ a, G a = none → G2 a = none) : ∀ {w : List (Nat × W)} {v : List (Str × V)}, RelFs P G H w v → RelFs P G2 H w v
  | _, _, .nil => .nil
  | _, _, .cons k w v ws vs h r => .cons k w v ws vs (RelW.sub s h) (RelFs.sub s r)
end
theorem RelSt.sub (s : ∀ a, G a = none → G2 a = none) : ∀ {σw : WSt} {σ : L2.St}, RelSt P G H σw σ → RelSt P G2 H σw σ
  | _, _, .nil => .nil
  | _, _, .val w v σw σ h r => .val w v σw σ (h.sub s) (RelSt.sub s r)
  | _, _, .hole o σw σ r => .hole o σw σ (RelSt.sub s r)
theorem RepO.sub (s : ∀ a, G a = none → G2 a = none) {a : Addr} {o : WO} (h : RepO P G H a o) : RepO P G2 H a o := by
  cases o with
  | lst ws => obtain ⟨vs, z, r⟩ := h; exact ⟨vs, z, r.sub s⟩
  | dct ws => obtain ⟨vs, z, r⟩ := h; exact ⟨vs, z, r.sub s⟩
  | obj c fs => obtain ⟨dx, vs, z, r, k⟩ := h; exact ⟨dx, vs, z, r.sub s, k⟩
  | fz od u ws => obtain ⟨z, kv, e', r⟩ := h; exact ⟨z, kv, e', r.sub s⟩
  | xd fs => obtain ⟨vs, z, r⟩ := h; exact ⟨vs, z, r.sub s⟩
  | bd kvs => exact h
  | td kvs => exact h
  | tab =>
    obtain ⟨e0, ps, z, t, k⟩ := h
    exact ⟨e0, ps, z, t, fun pos cv hc => let ⟨c, h1, h2, h3⟩ := k pos cv hc; ⟨c, h1, h2, s c h3⟩⟩
/-- G2 is a part of G -/
def Sub (G2 G : WHp) : Prop := ∀ a o, G2 a = some o → G a = some o
theorem Sub.nn (s : Sub G2 G) : ∀ a, G a = none → G2 a = none := fun a e => by
  cases q : G2 a with
  | none => rfl
  | some o => rw [s a o q] at e; cases e
theorem Sub.refl (G : WHp) : Sub G G := fun _ _ h => h
theorem Sub.trans {G1 G2 G3 : WHp} (a : Sub G1 G2) (b : Sub G2 G3) : Sub G1 G3 := fun c o h => b c o (a c o h)
theorem Sub.new {p : Addr} {o : WO} (h : G p = none) : Sub G (updG G p o) := fun a u e => by
  rw [updG_ne (fun z => by rw [z, h] at e; cases e)]; exact e
theorem Rep.sub (s : Sub G2 G) (rp : Rep P G H) : Rep P G2 H := fun a o e => (rp a o (s a o e)).sub s.nn
/-- w2 is w seen as a value, the objects outside of G2 left -/
inductive Frz (G G2 : WHp) : W → W → Prop
  | same (w : W) : Frz G G2 w w
  | lst (p : Addr) (ws : List W) : G p = some (.lst ws) → G2 p = none → Frz G G2 (.ref p) (.il ws)
  | dct (p : Addr) (ws : List (KW × W)) : G p = some (.dct ws) → G2 p = none → Frz G G2 (.ref p) (.dk ws)
  | obj (p : Addr) (c : Nat) (fs : List (Nat × W)) : G p = some (.obj c fs) → G2 p = none → Frz G G2 (.ref p) (.io c fs)
theorem Frz.rel (s : Sub G2 G) (rp : Rep P G H) {w w2 : W} {v : V} (f : Frz G G2 w w2) (r : RelW P G H w v) : RelW P G2 H w2 v := by
  cases f with
  | same => exact r.sub s.nn
  | lst p ws e n =>
    cases r
    obtain ⟨vs, h, rs⟩ := rp p _ e
    exact .il p vs ws ⟨h, n⟩ (rs.sub s.nn)
  | dct p ws e n =>
    cases r
    obtain ⟨vs, h, rs⟩ := rp p _ e
    exact .dk p vs ws h n (rs.sub s.nn)
  | obj p c fs e n =>
    cases r
    obtain ⟨dx, vs, h, rs, k⟩ := rp p _ e
    exact .io p dx c vs fs h ⟨n, k⟩ (rs.sub s.nn)
/-- a tuple whose items are seen as values -/
inductive Frzs (G G2 : WHp) : List W → List W → Prop
  | nil : Frzs G G2 [] []
  | cons (w w2 : W) (ws ws2 : List W) : Frz G G2 w w2 → Frzs G G2 ws ws2 → Frzs G G2 (w :: ws) (w2 :: ws2)
theorem Frzs.rel (s : Sub G2 G) (rp : Rep P G H) : ∀ {w w2 : List W} {v : List V}, Frzs G G2 w w2 → RelWs P G H w v → RelWs P G2 H w2 v
  | _, _, _, .nil, .nil => .nil
  | _, _, _, .cons w w2 ws ws2 f fs, .cons _ v _ vs r rs => .cons _ _ _ _ (f.rel s rp r) (Frzs.rel s rp fs rs)
mutual
/-- the same, all the way down -/
inductive FrzD (G G2 : WHp) : W → W → Prop
  | same (w : W) : FrzD G G2 w w
  | lst (p : Addr) (ws ws2 : List W) : G p = some (.lst ws) → G2 p = none → FrzDs G G2 ws ws2 → FrzD G G2 (.ref p) (.il ws2)
  | dct (p : Addr) (ws ws2 : List (KW × W)) : G p = some (.dct ws) → G2 p = none → FrzDk G G2 ws ws2 → FrzD G G2 (.ref p) (.dk ws2)
  | obj (p : Addr) (c : Nat) (fs fs2 : List (Nat × W)) : G p = some (.obj c fs) → G2 p = none → FrzDf G G2 fs fs2 → FrzD G G2 (.ref p) (.io c fs2)
  | tup (ws ws2 : List W) : FrzDs G G2 ws ws2 → FrzD G G2 (.tup ws) (.tup ws2)
inductive FrzDs (G G2 : WHp) : List W → List W → Prop
  | nil : FrzDs G G2 [] []
  | cons (w w2 : W) (ws ws2 : List W) : FrzD G G2 w w2 → FrzDs G G2 ws ws2 → FrzDs G G2 (w :: ws) (w2 :: ws2)
inductive FrzDk (G G2 : WHp) : List (KW × W) → List (KW × W) → Prop
  | nil : FrzDk G G2 [] []
  | cons (k : KW) (w w2 : W) (ws ws2 : List (KW × W)) : FrzD G G2 w w2 → FrzDk G G2 ws ws2 → FrzDk G G2 ((k, w) :: ws) ((k, w2) :: ws2)
inductive FrzDf (G G2 : WHp) : List (Nat × W) → List (Nat × W) → Prop
  | nil : FrzDf G G2 [] []
  | cons (k : Nat) (w w2 : W) (ws ws2 : List (Nat × W)) : FrzD G G2 w w2 → FrzDf G G2 ws ws2 → FrzDf G G2 ((k, w) :: ws) ((k, w2) :: ws2)
end
mutual
theorem FrzD.rel (s : Sub G2 G) (rp : Rep P G H) : ∀ {w w2 : W} {v : V}, FrzD G G2 w w2 → RelW P G H w v → RelW P G2 H w2 v
  | _, _, _, .same w, r => r.sub s.nn
  | _, _, _, .lst p ws ws2 e n fs, r => by
    cases r
    obtain ⟨vs, h, rs⟩ := rp p _ e
    exact .il p vs ws2 ⟨h, n⟩ (FrzDs.rel s rp fs rs)
  | _, _, _, .dct p ws ws2 e n fs, r => by
    cases r
    obtain ⟨vs, h, rs⟩ := rp p _ e
    exact .dk p vs ws2 h n (FrzDk.rel s rp fs rs)
  | _, _, _, .obj p c ws ws2 e n fs, r => by
    cases r
    obtain ⟨dx, vs, h, rs, k⟩ := rp p _ e
    exact .io p dx c vs ws2 h ⟨n, k⟩ (FrzDf.rel s rp fs rs)
  | _, _, _, .tup ws ws2 fs, r => by
    cases r with
    | tup a vs _ h rs => exact .tup a vs ws2 h (FrzDs.rel s rp fs rs)
theorem FrzDs.rel (s : Sub G2 G) (rp : Rep P G H) : ∀ {w w2 : List W} {v : List V}, FrzDs G G2 w w2 → RelWs P G H w v → RelWs P G2 H w2 v
  | _, _, _, .nil, r => by cases r; exact .nil
  | _, _, _, .cons w w2 ws ws2 f fs, r => by
    cases r with
    | cons _ v _ vs r rs => exact .cons _ _ _ _ (FrzD.rel s rp f r) (FrzDs.rel s rp fs rs)
theorem FrzDk.rel (s : Sub G2 G) (rp : Rep P G H) : ∀ {w w2 : List (KW × W)} {v : List (Key × V)}, FrzDk G G2 w w2 → RelKs P G H w v → RelKs P G2 H w2 v
  | _, _, _, .nil, r => by cases r; exact .nil
  | _, _, _, .cons k w w2 ws ws2 f fs, r => by
    cases r with
    | cons _ _ v _ vs r rs => exact .cons _ _ _ _ _ (FrzD.rel s rp f r) (FrzDk.rel s rp fs rs)
theorem FrzDf.rel (s : Sub G2 G) (rp : Rep P G H) : ∀ {w w2 : List (Nat × W)} {v : List (Str × V)}, FrzDf G G2 w w2 → RelFs P G H w v → RelFs P G2 H w2 v
  | _, _, _, .nil, r => by cases r; exact .nil
  | _, _, _, .cons k w w2 ws ws2 f fs, r => by
    cases r with
    | cons _ _ v _ vs r rs => exact .cons _ _ _ _ _ (FrzD.rel s rp f r) (FrzDf.rel s rp fs rs)
end
/-- what is handed back may be seen as a value; objects may be left -/
def View (w : W) (G : WHp) (w2 : W) (G2 : WHp) : Prop := Sub G2 G ∧ (Frz G G2 w w2 ∨ (∃ ws ws2, w = .tup ws ∧ w2 = .tup ws2 ∧ Frzs G G2 ws ws2) ∨ FrzD G G2 w w2)
theorem View.rel {w w2 : W} {v : V} (f : View w G w2 G2) (rp : Rep P G H) (r : RelW P G H w v) : RelW P G2 H w2 v ∧ Rep P G2 H := by
  obtain ⟨s, f | ⟨ws, ws2, rfl, rfl, fs⟩ | f⟩ := f
  · exact ⟨f.rel s rp r, rp.sub s⟩
  · refine ⟨?_, rp.sub s⟩
    cases r with
    | tup a vs _ h rs => exact .tup a vs ws2 h (fs.rel s rp rs)
  · exact ⟨f.rel s rp r, rp.sub s⟩
theorem View.refl {w : W} {G : WHp} : View w G w G := ⟨.refl G, .inl (.same w)⟩
theorem Fw.sub {Ga : WHp} {Ha : Hp} (f : Fw Ga Ha G H) (s : Sub G2 G) : Fw Ga Ha G2 H := fun a o h n g => let ⟨h1, g1⟩ := f a o h n g; ⟨h1, s.nn a g1⟩
def delG (G : WHp) (p : Addr) : WHp := fun b => if b = p then none else G b
theorem delG_same {p : Addr} : delG G p p = none := if_pos rfl
theorem delG_ne {p a : Addr} (h : a ≠ p) : delG G p a = G a := if_neg h
theorem Sub.del {p : Addr} : Sub (delG G p) G := fun a o e => by
  by_cases h : a = p
  · subst h; rw [delG_same] at e; cases e
  · rwa [delG_ne h] at e
theorem delG_updG {p : Addr} {o : WO} (h : G p = none) : delG (updG G p o) p = G := by
  funext b
  by_cases e : b = p
  · subst e; rw [delG_same, h]
  · rw [delG_ne e, updG_ne e]
end

/-! ### slices -/
abbrev WTO := WSt → WHp → (Option Int → WHp → Prop) → WXK → Prop
def embO (P : Par) (Ga : WHp) (Ha : Hp) (Ew : WXK) (t : WTO) : TO := fun σ H Q => ∃ σw G Qw, Fw Ga Ha G H ∧ RelSt P G H σw σ ∧ Rep P G H ∧ t σw G Qw Ew ∧ ∀ b G' H', Fw G H G' H' → Rep P G' H' → Qw b G' → Q b H'
def JO (P : Par) (X : Cx) (e : Option Expr) (t : WTO) : Prop := ∀ Ga Ha Ew, Takes X (embX P Ga Ha Ew) → PO X e (embO P Ga Ha Ew t)
def wNoPart : WTO := fun _ G Q _ => Q none G
def wPart (te : WTE) : WTO := fun σ G Q E => te σ G (fun x G1 => ∃ i, x = .int i ∧ Q (some i) G1) E
def cutL {α : Type} (xs : List α) (lo hi : Option Int) : List α := (xs.drop (HT.sIx xs.length 0 lo)).take (HT.sIx xs.length xs.length hi - HT.sIx xs.length 0 lo)
abbrev WRSl := W → Option Int → Option Int → WHp → WQ → Prop
def wSl (wr : WRSl) (te : WTE) (tl th : WTO) : WTE := fun σ G Q E => te σ G (fun x G1 => tl σ G1 (fun l G2 => th σ G2 (fun u G3 => wr x l u G3 Q) E) E) E
def embSl (P : Par) (wr : WRSl) : V → Option Int → Option Int → Hp → VK → Prop := fun x lo hi H Q => ∃ wx G Qw, RelW P G H wx x ∧ Rep P G H ∧ wr wx lo hi G Qw ∧ ∀ w G' v H', Fw G H G' H' → RelW P G' H' w v → Rep P G' H' → Qw w G' → Q v H'
def SlW (P : Par) (X : Cx) (wr : WRSl) : Prop := SlR X (embSl P wr)
section
variable {P : Par} {X : Cx} {G : WHp} {H : Hp} {e : Expr} {te : WTE} {lo hi : Option Expr} {tl th : WTO} {pos p2 : Pos}
theorem jo_none : JO P X none wNoPart := fun Ga Ha Ew tk => ⟨fun pins s σ H Q I ⟨σw, G, Qw, fa, rs, rp, ht, hq⟩ => (po_none (X := X)).run pins s σ H Q I (hq none G H (.refl _ _) rp ht)⟩
theorem jo_some (h : JE P X e te) : JO P X (some e) (wPart te) := fun Ga Ha Ew tk => ⟨fun pins s σ H Q I ⟨σw, G, Qw, fa, rs, rp, ht, hq⟩ => (po_some (h Ga Ha Ew tk)).run pins s σ H Q I
  ⟨σw, G, _, fa, rs, rp, ht, fun w G' v H' f r p ⟨i, e, q⟩ => by subst e; cases r; exact ⟨i, rfl, hq (some i) G' H' f p q⟩⟩⟩
theorem je_slice {wr : WRSl} (hr : SlW P X wr) (he : JE P X e te) (hl : JO P X lo tl) (hu : JO P X hi th) : JE P X (.Subscript e (.Slice lo hi none p2) pos) (wSl wr te tl th) := fun Ga Ha Ew tk =>
  PE.imp (pe_slice hr (he Ga Ha Ew tk) (hl Ga Ha Ew tk) (hu Ga Ha Ew tk)) fun σ H Q ⟨σw, G, Qw, fa, rs, rp, ht, hq⟩ => ⟨σw, G, _, fa, rs, rp, ht, fun w1 G1 v1 H1 f1 r1 p1 h1 => ⟨σw, G1, _, fa.trans f1, rs.fw rp f1, p1, h1, fun l G2 H2 f2 p2 h2 =>
    ⟨σw, G2, _, fa.trans (f1.trans f2), (rs.fw rp f1).fw p1 f2, p2, h2, fun u G3 H3 f3 p3 h3 => ⟨w1, G3, Qw, r1.fw p1 f2 |>.fw p2 f3, p3, h3, fun w G' v H' f r p q => hq w G' v H' (f1.trans (f2.trans (f3.trans f))) r p q⟩⟩⟩⟩
theorem SlR.imp {r r' : V → Option Int → Option Int → Hp → VK → Prop} (h : SlR X r) (i : ∀ x l u H Q, r' x l u H Q → r x l u H Q) : SlR X r' := fun pins s σ H x v vl vu lo hi sl Q I rx hs pl pu q => h pins s σ H x v vl vu lo hi sl Q I rx hs pl pu (i _ _ _ _ _ q)
theorem RelWs.cut {ws : List W} {vs : List V} (r : RelWs P G H ws vs) (lo hi : Option Int) : RelWs P G H (cutL ws lo hi) (cutV vs lo hi) := by
  unfold cutL cutV
  rw [r.length]
  exact (r.drop _).take _
theorem cutS_S (s : List Nat) (lo hi : Option Int) : cutS (S s) lo hi = S (cutL s lo hi) := rfl
theorem cut_whole {α : Type} {xs : List α} {lo hi : Option Int} (h : HT.sIx xs.length 0 lo = 0 ∧ HT.sIx xs.length xs.length hi = xs.length) : cutL xs lo hi = xs := by
  unfold cutL
  rw [h.1, h.2, List.drop_zero, Nat.sub_zero, List.take_length]
def oSl : WRSl := fun x lo hi G Q => match x with
  | .str s => s.length ≤ big ∧ Q (.str (cutL s lo hi)) G
  | .tup ws => Q (.tup (cutL ws lo hi)) G
  | x => ∃ ws, sqOf G x = some ws ∧ Q (.il (cutL ws lo hi)) G
/-- a new list that may change -/
def oSlM : WRSl := fun x lo hi G Q => ∃ ws, sqOf G x = some ws ∧ ∀ p, G p = none → Q (.ref p) (updG G p (.lst (cutL ws lo hi)))
theorem sw_seq (hK : X.K = P.K) : SlW P X oSl := SlR.imp (SlR.or sl_str (SlR.or sl_tupA sl_list)) fun x lo hi H Q ⟨wx, G, Qw, rx, rp, h, hq⟩ => by
  unfold oSl at h
  split at h
  · cases rx
    exact .inl ⟨_, rfl, by rw [S_len, big_eq]; exact h.1, by rw [cutS_S]; exact emb_end hq rp (.str _) h.2⟩
  · rename_i ws
    cases rx with
    | tup a vs _ ha ra =>
      refine .inr (.inl ⟨a, vs, rfl, by rw [hK]; exact ha, fun e => ?_, fun _ p hp => ?_⟩)
      · rw [← ra.length] at e
        rw [cut_whole e] at h
        exact emb_end hq rp (.tup a vs ws ha ra) h
      · exact hq _ G _ _ (.hid hp) (.tup p _ _ (.inl (.inl upd_same)) ((ra.cut lo hi).fw rp (.hid hp))) (rp.hid hp) h
  · obtain ⟨ws, e, q⟩ := h
    obtain ⟨a, vs, rfl, ha, ra⟩ := sqOf_rel rp rx e
    exact .inr (.inr ⟨a, vs, rfl, by rw [hK]; exact ha, fun p hp => hq _ G _ _ (.hid hp) (.il p _ _ ⟨upd_same, rp.free hp⟩ ((ra.cut lo hi).fw rp (.hid hp))) (rp.hid hp) q⟩)
theorem sw_seqM (hK : X.K = P.K) : SlW P X oSlM := SlR.imp sl_list fun x lo hi H Q ⟨wx, G, Qw, rx, rp, ⟨ws, e, q⟩, hq⟩ => by
  obtain ⟨a, vs, rfl, ha, ra⟩ := sqOf_rel rp rx e
  exact ⟨a, vs, rfl, by rw [hK]; exact ha, fun p hp => hq _ _ _ _ (.new hp) (.ref p) (rp.put (u := .lst (cutL ws lo hi)) (.new hp) ⟨_, upd_same, (ra.cut lo hi).fw rp (.new hp)⟩) (q p (rp.free hp))⟩
end

/-! ### what is walked -/
section
variable {P : Par} {X : Cx} {G : WHp} {H : Hp} {tg e : Expr} {te : WTE} {ta : WTA} {p pos : Pos}
theorem PI.imp {t t' : TI} (h : PI X tg e t) (i : ∀ σ H R, t' σ H R → t σ H R) : PI X tg e t' := ⟨fun pins s σ H R I q => h.run pins s σ H R I (i σ H R q)⟩
/-- a list, a tuple or a text, by its value -/
def iAny (K : PySem.W.Frag) (tl : TE) : TI := fun σ H R => tl σ H fun x H1 => (∃ a, x = .ref a ∧ (∃ xs, SqL K H1 a xs) ∧ R (Itl K a) H1) ∨ (∃ a, x = .ref a ∧ (∃ xs, SqT K H1 a xs) ∧ R (Itt K a) H1) ∨ ∃ z, x = .str z ∧ R (Its z) H1
/-- an expression that was asked already -/
theorem pi_any {tl : TE} (hl : PE X e tl) : PI X tg e (iAny X.K tl) := by
  refine ⟨fun pins s σ H R I h => ?_⟩
  refine thn (hl.run pins s σ H _ I h) fun v s1 ⟨x, H1, I1, r1, q1⟩ => ?_
  rcases q1 with ⟨a, e, ⟨xs, hq⟩, q⟩ | ⟨a, e, ⟨xs, hq⟩, q⟩ | ⟨z, ez, q⟩
  · subst e
    cases r1
    obtain ⟨its, rv, p, hz⟩ := I1.list hq
    refine wpAny_pyIter_list p.isList ?_
    refine ⟨s1.heap.objs.size, [s1.heap.objs.size], _, _, H1, rfl, I1.kept (t' := s1.toks) fun b o e => Heap.get?_push_of_some _ e, turn_list a _, ⟨_, Heap.get?_push_size _ rfl, rfl, rfl⟩, fun b hb => ?_, q⟩
    have e : b = s1.heap.objs.size := by simpa using hb
    subst e
    exact I1.fpOk (Nat.le_refl _) (I1.hok.fresh (Nat.le_refl _))
  · subst e
    cases r1
    obtain ⟨its, rv, p, hz⟩ := I1.tuple hq
    refine wpAny_pyIter_tuple (show s1.heap.IsTuple a its.toArray from p) ?_
    refine ⟨s1.heap.objs.size, [s1.heap.objs.size], _, _, H1, rfl, I1.kept (t' := s1.toks) fun b o e => Heap.get?_push_of_some _ e, turn_tuple a _, ⟨_, Heap.get?_push_size _ rfl, rfl, rfl⟩, fun b hb => ?_, q⟩
    have e : b = s1.heap.objs.size := by simpa using hb
    subst e
    exact I1.fpOk (Nat.le_refl _) (I1.hok.fresh (Nat.le_refl _))
  · subst ez
    obtain ⟨t, rfl⟩ := r1
    cases ha : z.cps.all (· < 128)
    · exact wpAny_pyIter_wide ha (pi_one (tk := s1.toks) I1 _ (turn_str _ z t "str_iterator" (.inr rfl)) ⟨_, Heap.get?_push_size _ rfl, rfl, rfl⟩ q)
    · exact wpAny_pyIter_ascii ha (pi_one (tk := s1.toks) I1 _ (turn_str _ z t "str_ascii_iterator" (.inl rfl)) ⟨_, Heap.get?_push_size _ rfl, rfl, rfl⟩ q)
/-- over a list (one that nothing changes, the script, or one that is seen), a tuple, a text -/
def wIter (te : WTE) : WTI := fun σ G R E => te σ G (fun x G1 => match x with
  | .tup ws => R ws (fun _ => True) G1
  | .str s => R (s.map fun c => .str [c]) (fun _ => True) G1
  | .il ws => R ws (fun _ => True) G1
  | .sc ns => R (ns.map .int) (fun _ => True) G1
  | .ref p => ∃ ws, G1 p = some (.lst ws) ∧ R ws (fun G' => G' p = some (.lst ws)) G1
  | _ => False) E
theorem itl_ok {K : PySem.W.Frag} (hK : K = P.K) {G1 : WHp} {H1 : Hp} {ok : WHp → Prop} {a : Addr} {ws : List W} (hs : ∀ G2 H2, Fw G1 H1 G2 H2 → Rep P G2 H2 → ok G2 → ∃ vs, SqL P.K H2 a vs ∧ RelWs P G2 H2 ws vs) :
    (∀ i G2 H2, Fw G1 H1 G2 H2 → Rep P G2 H2 → ok G2 → ws.length ≤ i → (Itl K a).stop i H2) ∧
    (∀ i G2 H2, Fw G1 H1 G2 H2 → Rep P G2 H2 → ok G2 → i < ws.length → (Itl K a).go i H2) ∧
    (∀ i G2 H2 x H3, Fw G1 H1 G2 H2 → Rep P G2 H2 → ok G2 → i < ws.length → (Itl K a).yld i H2 x H3 → ∃ w, ws[i]? = some w ∧ Fw G2 H2 G2 H3 ∧ Rep P G2 H3 ∧ RelW P G2 H3 w x) := by
  subst hK
  refine ⟨fun i G2 H2 f rp ok hi => ?_, fun i G2 H2 f rp ok hi => ?_, fun i G2 H2 x H3 f rp ok _ y => ?_⟩
  · obtain ⟨vs, h1, h2⟩ := hs G2 H2 f rp ok
    exact ⟨vs, h1, by rw [← h2.length]; exact hi⟩
  · obtain ⟨vs, h1, h2⟩ := hs G2 H2 f rp ok
    obtain ⟨v, e, _⟩ := h2.get (List.getElem?_eq_getElem hi)
    exact ⟨vs, v, h1, e⟩
  · obtain ⟨vs, h1, h2⟩ := hs G2 H2 f rp ok
    obtain ⟨rfl, hy⟩ := y
    obtain ⟨w, e, r⟩ := h2.get' (hy vs h1)
    exact ⟨w, e, .refl _ _, rp, r⟩
theorem ji_iter (hK : X.K = P.K) (he : JE P X e te) : JI P X tg e (wIter te) := fun Ga Ha Ew tk =>
  PI.imp (pi_any (he Ga Ha Ew tk)) fun σ H R ⟨σw, G, Rw, fa, rs, rp, ht, hR⟩ => ⟨σw, G, _, fa, rs, rp, ht, fun w G1 v H1 f1 r1 p1 h1 => by
    revert h1
    split
    · rename_i ws
      intro h1
      cases r1 with
      | tup a vs _ ha ra =>
        refine .inr (.inl ⟨a, rfl, ⟨vs, by rw [hK]; exact ha⟩, ?_⟩)
        refine hR ws _ G1 H1 _ f1 p1 h1 (fun i G2 H2 f rp _ hi => ⟨vs, by rw [hK]; exact SqT.fw p1 f ha, by rw [← ra.length]; exact hi⟩) (fun i G2 H2 f rp _ hi => ?_) fun i G2 H2 x H3 f rp _ _ y => ?_
        · obtain ⟨v, e, _⟩ := ra.get (List.getElem?_eq_getElem hi)
          exact ⟨vs, v, by rw [hK]; exact SqT.fw p1 f ha, e⟩
        · obtain ⟨rfl, hy⟩ := y
          obtain ⟨w, e, r⟩ := ra.get' (hy vs (by rw [hK]; exact SqT.fw p1 f ha))
          exact ⟨w, e, .refl _ _, rp, r.fw p1 f⟩
    · rename_i s
      intro h1
      cases r1
      refine .inr (.inr ⟨_, rfl, ?_⟩)
      refine hR _ _ G1 H1 _ f1 p1 h1 (fun i G2 H2 f rp _ hi => ?_) (fun i G2 H2 f rp _ hi => ?_) fun i G2 H2 x H3 f rp _ _ y => ?_
      · show (s.toArray).size ≤ i
        rw [List.length_map] at hi
        simpa using hi
      · show i < (s.toArray).size
        rw [List.length_map] at hi
        simpa using hi
      · obtain ⟨rfl, c, hc, rfl⟩ := y
        refine ⟨.str [c], ?_, .refl _ _, rp, .str [c]⟩
        have hc' : s[i]? = some c := by simpa using hc
        rw [List.getElem?_map, hc']
        rfl
    · rename_i ws
      intro h1
      cases r1 with
      | il a vs _ ha ra =>
        obtain ⟨h2, h3, h4⟩ := itl_ok (P := P) (G1 := G1) (H1 := H1) (ok := fun _ => True) (a := a) (ws := ws) hK fun G2 H2 f rp _ => ⟨vs, .of (ha.fw f).1, ra.fw p1 f⟩
        exact .inl ⟨a, rfl, ⟨vs, by rw [hK]; exact .of ha.1⟩, hR ws _ G1 H1 _ f1 p1 h1 h2 h3 h4⟩
    · rename_i ns
      intro h1
      cases r1 with
      | sc a _ ha =>
        obtain ⟨h2, h3, h4⟩ := itl_ok (P := P) (G1 := G1) (H1 := H1) (ok := fun _ => True) (a := a) (ws := ns.map W.int) hK fun G2 H2 f rp _ => ⟨_, (ha.fw p1 f).sq, .ints ns⟩
        exact .inl ⟨a, rfl, ⟨_, by rw [hK]; exact ha.sq⟩, hR _ _ G1 H1 _ f1 p1 h1 h2 h3 h4⟩
    · rename_i p
      rintro ⟨ws, e, h1⟩
      cases r1
      obtain ⟨vs, hp, ra⟩ := p1 p _ e
      obtain ⟨h2, h3, h4⟩ := itl_ok (P := P) (G1 := G1) (H1 := H1) (ok := fun G' => G' p = some (.lst ws)) (a := p) (ws := ws) hK fun G2 H2 f rp ok => let ⟨vs2, z, r⟩ := rp p _ ok; ⟨vs2, .of z, r⟩
      exact .inl ⟨p, rfl, ⟨vs, by rw [hK]; exact .of hp⟩, hR ws _ G1 H1 _ f1 p1 h1 h2 h3 h4⟩
    · exact fun h => h.elim⟩
/-- the ints lo, lo + 1, .. -/
def rngW (lo : Int) (n : Nat) : List W := (List.range n).map fun i => .int (lo + (i : Nat))
theorem rngW_get {lo : Int} {n i : Nat} {w : W} (h : (rngW lo n)[i]? = some w) : i < n ∧ w = .int (lo + i) := by
  unfold rngW at h
  rw [List.getElem?_map] at h
  by_cases hi : i < n
  · rw [List.getElem?_range hi] at h
    exact ⟨hi, (Option.some.inj h).symm⟩
  · rw [List.getElem?_eq_none (by simpa using hi)] at h
    cases h
theorem rngW_at {lo : Int} {n i : Nat} (h : i < n) : (rngW lo n)[i]? = some (.int (lo + i)) := by
  unfold rngW
  rw [List.getElem?_map, List.getElem?_range h]
  rfl
theorem rngW_len {lo : Int} {n : Nat} : (rngW lo n).length = n := by simp [rngW]
def wRng1 (ta : WTA) : WTI := fun σ G R E => ta σ G (fun vs G1 => ∃ j : Int, vs = [.int j] ∧ -(2 ^ 62) ≤ j ∧ j < 2 ^ 62 ∧ R (rngW 0 j.toNat) (fun _ => True) G1) E
def wRng2 (ta : WTA) : WTI := fun σ G R E => ta σ G (fun vs G1 => ∃ i j : Int, vs = [.int i, .int j] ∧ (-(2 ^ 62) ≤ i ∧ i < 2 ^ 62 ∧ -(2 ^ 62) ≤ j ∧ j < 2 ^ 62) ∧ R (rngW i (j - i).toNat) (fun _ => True) G1) E
theorem itr_ok {lo : Int} {n : Nat} {G1 : WHp} {H1 : Hp} {ok : WHp → Prop} :
    (∀ i G2 H2, Fw G1 H1 G2 H2 → Rep P G2 H2 → ok G2 → (rngW lo n).length ≤ i → (Itr lo n).stop i H2) ∧
    (∀ i G2 H2, Fw G1 H1 G2 H2 → Rep P G2 H2 → ok G2 → i < (rngW lo n).length → (Itr lo n).go i H2) ∧
    (∀ i G2 H2 x H3, Fw G1 H1 G2 H2 → Rep P G2 H2 → ok G2 → i < (rngW lo n).length → (Itr lo n).yld i H2 x H3 → ∃ w, (rngW lo n)[i]? = some w ∧ Fw G2 H2 G2 H3 ∧ Rep P G2 H3 ∧ RelW P G2 H3 w x) := by
  refine ⟨fun i G2 H2 f rp ok hi => by rw [rngW_len] at hi; exact hi, fun i G2 H2 f rp ok hi => by rw [rngW_len] at hi; exact hi, fun i G2 H2 x H3 f rp ok hi y => ?_⟩
  obtain ⟨rfl, rfl⟩ := y
  rw [rngW_len] at hi
  exact ⟨_, rngW_at hi, .refl _ _, rp, .int _⟩
theorem ji_range1 {a : Expr} {q : Pos} (hg : Gl X "range") (hm : X.mg "range" = none) (ha : JA P X [a] ta) (hs : starEach [a] X.env = [(false, eval a X.env)] := by rfl) : JI P X tg (.Call (.Name "range" q) [a] [] pos) (wRng1 ta) := fun Ga Ha Ew tk =>
  PI.imp (pi_range1 hg hm (ha Ga Ha Ew tk) hs) fun σ H R ⟨σw, G, Rw, fa, rs, rp, ht, hR⟩ => ⟨σw, G, _, fa, rs, rp, ht, fun ws G1 vs H1 f1 r1 p1 ⟨j, e, h1, h2, q⟩ => by
    subst e
    cases r1 with
    | cons _ _ _ _ r rr =>
      cases r; cases rr
      obtain ⟨k1, k2, k3⟩ := itr_ok (P := P) (lo := 0) (n := j.toNat) (G1 := G1) (H1 := H1) (ok := fun _ => True)
      exact ⟨j, rfl, h1, h2, hR _ _ G1 H1 _ f1 p1 q k1 k2 k3⟩⟩
theorem ji_range2 {a b : Expr} {q : Pos} (hg : Gl X "range") (hm : X.mg "range" = none) (ha : JA P X [a, b] ta) (hs : starEach [a, b] X.env = [(false, eval a X.env), (false, eval b X.env)] := by rfl) (hs2 : starEach [b] X.env = [(false, eval b X.env)] := by rfl) : JI P X tg (.Call (.Name "range" q) [a, b] [] pos) (wRng2 ta) := fun Ga Ha Ew tk =>
  PI.imp (pi_range2 hg hm (ha Ga Ha Ew tk) hs hs2) fun σ H R ⟨σw, G, Rw, fa, rs, rp, ht, hR⟩ => ⟨σw, G, _, fa, rs, rp, ht, fun ws G1 vs H1 f1 r1 p1 ⟨i, j, e, h1, q⟩ => by
    subst e
    cases r1 with
    | cons _ _ _ _ r rr =>
      cases rr with
      | cons _ _ _ _ r' rr =>
        cases r; cases r'; cases rr
        obtain ⟨k1, k2, k3⟩ := itr_ok (P := P) (lo := i) (n := (j - i).toNat) (G1 := G1) (H1 := H1) (ok := fun _ => True)
        exact ⟨i, j, rfl, h1, hR _ _ G1 H1 _ f1 p1 q k1 k2 k3⟩⟩
/-- the pairs of places and items -/
def enumW : Nat → List W → List W
  | _, [] => []
  | i, w :: ws => .tup [.int (i : Nat), w] :: enumW (i + 1) ws
theorem enumW_len : ∀ (k : Nat) (ws : List W), (enumW k ws).length = ws.length
  | _, [] => rfl
  | k, w :: ws => by simp [enumW, enumW_len (k + 1) ws]
theorem enumW_at : ∀ (k : Nat) (ws : List W) (i : Nat) (w : W), ws[i]? = some w → (enumW k ws)[i]? = some (.tup [.int ((k + i : Nat)), w])
  | _, [], _, _, h => by simp at h
  | k, z :: ws, 0, w, h => by simp at h; subst h; rfl
  | k, z :: ws, i + 1, w, h => by
    have := enumW_at (k + 1) ws i w (by simpa using h)
    rw [show k + (i + 1) = k + 1 + i by omega]
    simpa [enumW] using this
theorem enumW_get {k : Nat} {ws : List W} {i : Nat} {x : W} (h : (enumW k ws)[i]? = some x) : ∃ w, ws[i]? = some w ∧ x = .tup [.int ((k + i : Nat)), w] := by
  have hi : i < ws.length := by
    have := (List.getElem?_eq_some_iff.mp h).1
    rwa [enumW_len] at this
  have e := enumW_at k ws i _ (List.getElem?_eq_getElem hi)
  rw [h] at e
  exact ⟨_, List.getElem?_eq_getElem hi, Option.some.inj e⟩
/-- of a list, where it lies -/
def srcL (G : WHp) (x : W) (R : List W → (WHp → Prop) → Prop) : Prop := match x with
  | .il ws => R ws (fun _ => True)
  | .sc ns => R (ns.map .int) (fun _ => True)
  | .ref p => ∃ ws, G p = some (.lst ws) ∧ R ws (fun G' => G' p = some (.lst ws))
  | _ => False
theorem srcL_ok {G1 : WHp} {H1 : Hp} {x : W} {v : V} {R : List W → (WHp → Prop) → Prop} (p1 : Rep P G1 H1) (r : RelW P G1 H1 x v) (h : srcL G1 x R) :
    ∃ a ws ok, v = .ref a ∧ R ws ok ∧ ok G1 ∧ ∀ G2 H2, Fw G1 H1 G2 H2 → Rep P G2 H2 → ok G2 → ∃ vs, SqL P.K H2 a vs ∧ RelWs P G2 H2 ws vs := by
  unfold srcL at h
  split at h
  · cases r with
    | il a vs ws ha ra => exact ⟨a, _, _, rfl, h, trivial, fun G2 H2 f rp _ => ⟨vs, .of (ha.fw f).1, ra.fw p1 f⟩⟩
  · cases r with
    | sc a _ ha => exact ⟨a, _, _, rfl, h, trivial, fun G2 H2 f rp _ => ⟨_, (ha.fw p1 f).sq, .ints _⟩⟩
  · obtain ⟨ws, e, q⟩ := h
    cases r
    exact ⟨_, ws, _, rfl, q, e, fun G2 H2 f rp ok => let ⟨vs2, z, r⟩ := rp _ _ ok; ⟨vs2, .of z, r⟩⟩
  · exact h.elim
def wEnum (ta : WTA) : WTI := fun σ G R E => ta σ G (fun vs G1 => ∃ x, vs = [x] ∧ srcL G1 x fun ws ok => R (enumW 0 ws) ok G1) E
theorem ji_enum (hK : X.K = P.K) {q tpos : Pos} {elts : List Expr} {kk : Nat} (hg : Gl X "enumerate") (hm : X.mg "enumerate" = none) (ha : JA P X [e] ta) (hs : starEach [e] X.env = [(false, eval e X.env)] := by rfl) :
    JI P X (.Tuple elts kk tpos) (.Call (.Name "enumerate" q) [e] [] pos) (wEnum ta) := fun Ga Ha Ew tk =>
  PI.imp (pi_enum hg hm (ha Ga Ha Ew tk) hs) fun σ H R ⟨σw, G, Rw, fa, rs, rp, ht, hR⟩ => ⟨σw, G, _, fa, rs, rp, ht, fun ws G1 vs H1 f1 r1 p1 ⟨x, e, q⟩ => by
    subst e
    cases r1 with
    | cons _ v _ _ r rr =>
      cases rr
      obtain ⟨a, ws, ok, rfl, q, k0, kk⟩ := srcL_ok p1 r q
      obtain ⟨vs0, hs0, _⟩ := kk G1 H1 (.refl _ _) p1 k0
      refine ⟨a, vs0, rfl, by rw [hK]; exact hs0, hR _ _ G1 H1 _ f1 p1 q (fun i G2 H2 f rp ok hi => ?_) (fun i G2 H2 f rp ok hi => ?_) fun i G2 H2 x H3 f rp ok hi y => ?_⟩
      · obtain ⟨vs, h1, h2⟩ := kk G2 H2 f rp ok
        rw [enumW_len] at hi
        exact ⟨vs, by rw [hK]; exact h1, by rw [← h2.length]; exact hi⟩
      · obtain ⟨vs, h1, h2⟩ := kk G2 H2 f rp ok
        rw [enumW_len] at hi
        obtain ⟨v, e, _⟩ := h2.get (List.getElem?_eq_getElem hi)
        exact ⟨vs, v, by rw [hK]; exact h1, e⟩
      · obtain ⟨vs, h1, h2⟩ := kk G2 H2 f rp ok
        obtain ⟨T, u, rfl, hT, rfl, hy⟩ := y
        obtain ⟨w, e, r⟩ := h2.get' (hy vs (by rw [hK]; exact h1))
        refine ⟨_, enumW_at 0 ws i w e, .hid hT, rp.hid hT, .tup T _ _ (.inl (.inl upd_same)) ?_⟩
        rw [Nat.zero_add]
        exact .cons _ _ _ _ (.int _) (.cons _ _ _ _ (r.fw rp (.hid hT)) .nil)⟩
end

/-! ### comprehensions -/
/-- no exception is wished for -/
def noX : WXK := fun _ _ _ => False
theorem takesF {P : Par} {X : Cx} {Ga : WHp} {Ha : Hp} : Takes X (embX P Ga Ha noX) := fun _ _ x => by
  obtain ⟨_, _, _, _, _, _, _, _, _, _, _, _, _, _, _, _, z⟩ := x
  obtain ⟨_, _, _, _, _, _, _, _, _, q⟩ := z
  exact q.elim
def JTs (P : Par) (X : Cx) (e : List Expr) (t : WTT) : Prop := ∀ Ga Ha Ew, Takes X (embX P Ga Ha Ew) → PTs X e (embT P Ga Ha Ew t)
def wYes : WTT := fun _ G Q _ => Q true G
section
variable {P : Par} {X : Cx} {c : Expr} {t : WTT}
theorem jts_nil : JTs P X [] wYes := fun Ga Ha Ew tk => ⟨fun pins s σ H Q I ⟨σw, G, Qw, fa, rs, rp, ht, hq⟩ => (pts_nil (X := X)).run pins s σ H Q I (hq true G H (.refl _ _) rp ht)⟩
theorem jts_one (h : JT P X c t) : JTs P X [c] t := fun Ga Ha Ew tk => pts_one (h Ga Ha Ew tk)
/-- [elt for x in .. if ..], x in slot j: the new list is seen while it is made; behind it as fin says -/
def LcOk (fin : Addr → List W → WHp → WQ → Prop) (j : Nat) (tt : WTT) (te : WTE) (σ : WSt) (Q : WQ) (xs : List W) (ok : WHp → Prop) (G1 : WHp) : Prop := xs.length ≤ big ∧ ∀ D, G1 D = none → ∃ Pv : Nat → List W → WHp → Prop, Pv 0 [] (updG G1 D (.lst [])) ∧
  (∀ k acc G', k ≤ xs.length → Pv k acc G' → ok G' ∧ G' D = some (.lst acc) ∧ acc.length ≤ k) ∧
  (∀ k x acc G', xs[k]? = some x → Pv k acc G' → tt ((σ.set j none).set j (some x)) G' (fun b G3 => if b = true then te ((σ.set j none).set j (some x)) G3 (fun y G4 => G4 D = some (.lst acc) ∧ Pv (k + 1) (acc ++ [y]) (updG G4 D (.lst (acc ++ [y])))) noX else Pv (k + 1) acc G3) noX) ∧
  (∀ acc G', Pv xs.length acc G' → fin D acc G' Q)
def wLcG (fin : Addr → List W → WHp → WQ → Prop) (wi : WTI) (j : Nat) (tt : WTT) (te : WTE) : WTE := fun σ G Q E => wi σ G (fun xs ok G1 => LcOk fin j tt te σ Q xs ok G1) E
abbrev finM : Addr → List W → WHp → WQ → Prop := fun D _ G' Q => Q (.ref D) G'
abbrev finI : Addr → List W → WHp → WQ → Prop := fun D acc G' Q => Q (.il acc) (delG G' D)
abbrev wLcM := wLcG finM
abbrev wLcI := wLcG finI
theorem lc_step {wi : WTI} {j : Nat} {tt : WTT} {te : WTE} {fin : Addr → List W → WHp → WQ → Prop} (hfin : ∀ {G' H' D acc Qw} {Q : VK} , Rep P G' H' → G' D = some (.lst acc) → fin D acc G' Qw → (∀ w G2 v H2, RelW P G2 H2 w v → Rep P G2 H2 → Sub G2 G' → H2 = H' → Qw w G2 → Q v H2) → Q (.ref D) H')
    {Ga : WHp} {Ha : Hp} {Ew : WXK} (σ : L2.St) (H : Hp) (Q : VK) (h : embE P Ga Ha Ew (wLcG fin wi j tt te) σ H Q) :
    tLc (embI P Ga Ha Ew wi) (gName j) (embT P (fun _ => none) (fun _ => none) noX tt) (embE P (fun _ => none) (fun _ => none) noX te) [j] σ H Q := by
  obtain ⟨σw, G, Qw, fa, rs, rp, ht, hq⟩ := h
  refine ⟨σw, G, _, fa, rs, rp, ht, fun xs ok G1 H1 J f1 p1 hR hstop hgo hyld D hD => ?_⟩
  obtain ⟨hl, hR⟩ := hR
  obtain ⟨Pv, i0, iok, istep, iend⟩ := hR D (p1.free hD)
  have fany : ∀ G' H', Fw (fun _ => none) (fun _ => none) G' H' := fun G' H' a o h => by cases h
  have fD : Fw G1 H1 (updG G1 D (.lst [])) (upd H1 D (.lst [])) := .new hD
  refine ⟨fun i m H' => m = xs.length - i ∧ i ≤ xs.length ∧ ∃ acc G', Fw G1 H1 G' H' ∧ Rep P G' H' ∧ Pv i acc G', ⟨_, rfl, Nat.zero_le _, [], _, fD, p1.put (u := .lst []) fD ⟨[], upd_same, .nil⟩, i0⟩, ?_⟩
  rintro i m H' ⟨rfl, hi, acc, G', f', rp', iv⟩
  obtain ⟨hok, hDa, hal⟩ := iok i acc G' hi iv
  by_cases hlt : i < xs.length
  · refine .inr ⟨hgo i G' H' f' rp' hok hlt, fun H2 => i + 1 ≤ xs.length ∧ ∃ acc G', Fw G1 H1 G' H2 ∧ Rep P G' H2 ∧ Pv (i + 1) acc G', fun H2 n => ⟨xs.length - (i + 1), by omega, rfl, n⟩, fun x H3 y => ?_⟩
    obtain ⟨w, hw, f3, p3, rw_⟩ := hyld i G' H' x H3 f' rp' hok hlt y
    have rs3 : RelSt P G' H3 ((σw.set j none).set j (some w)) ((wipe σ [j]).set j (some x)) := RelSt.set rw_ j (RelSt.del j ((rs.fw rp (f1.trans f')).fw rp' f3))
    show wipe (((wipe σ [j]).set j (some x))) [j] = wipe σ [j] ∧ _
    refine ⟨by show (((σ.set j none).set j (some x)).set j none) = σ.set j none; rw [List.set_set, List.set_set], ?_⟩
    refine ⟨_, G', _, fany _ _, rs3, p3, istep i w acc G' hw iv, fun b G4 H4 f4 p4 q4 => ?_⟩
    cases b with
    | false => exact ⟨hlt, acc, G4, f'.trans (f3.trans f4), p4, q4⟩
    | true =>
      refine ⟨_, G4, _, fany _ _, rs3.fw p3 f4, p4, q4, fun y G5 v H5 f5 r5 p5 ⟨hD5, q5⟩ => ?_⟩
      obtain ⟨vs, hv, rv⟩ := p5 D _ hD5
      have fp : Fw G5 H5 (updG G5 D (.lst (acc ++ [y]))) (upd H5 D (.lst (vs ++ [v]))) := .put hD5
      refine ⟨vs, hv, ?_, hlt, acc ++ [y], _, f'.trans (f3.trans (f4.trans (f5.trans fp))), p5.put (u := .lst (acc ++ [y])) fp ⟨vs ++ [v], upd_same, (rv.append (.cons _ _ _ _ r5 .nil)).fw p5 fp⟩, q5⟩
      rw [← rv.length, big_eq]
      omega
  · have e : i = xs.length := by omega
    subst e
    refine .inl ⟨hstop _ G' H' f' rp' hok (Nat.le_refl _), hfin rp' hDa (iend acc G' iv) fun w G2 v H2 r p s eH q => ?_⟩
    subst eH
    exact hq w G2 v H2 (f1.trans (f'.sub s)) r p q
theorem fin_M {P : Par} {G' : WHp} {H' : Hp} {D : Addr} {acc : List W} {Qw : WQ} {Q : VK} (rp : Rep P G' H') (e : G' D = some (.lst acc)) (q : Qw (.ref D) G') (hq : ∀ w G2 v H2, RelW P G2 H2 w v → Rep P G2 H2 → Sub G2 G' → H2 = H' → Qw w G2 → Q v H2) : Q (.ref D) H' :=
  hq _ G' _ H' (.ref D) rp (.refl _) rfl q
theorem fin_I {P : Par} {G' : WHp} {H' : Hp} {D : Addr} {acc : List W} {Qw : WQ} {Q : VK} (rp : Rep P G' H') (e : G' D = some (.lst acc)) (q : Qw (.il acc) (delG G' D)) (hq : ∀ w G2 v H2, RelW P G2 H2 w v → Rep P G2 H2 → Sub G2 G' → H2 = H' → Qw w G2 → Q v H2) : Q (.ref D) H' :=
  hq _ _ _ H' ((Frz.lst D acc e delG_same).rel .del rp (.ref D)) (rp.sub .del) .del rfl q
theorem je_lcM {elt iter : Expr} {ifs : List Expr} {scope : Scope} {j : Nat} {x : Str} {xp pos : Pos} {wi : WTI} {tt : WTT} {te : WTE} (hc : X.calm = true) (hN : X.N.Nodup) (hi : JI P X (.Name x xp) iter wi) (ok : BlkOk X.N X.env.scope scope [(x, j)])
    (hg : ∀ (s : Shared) (H : Hp) (C : Addr) (cl : List (Str × Addr)) (fp : List Addr), PG (X.blk s H scope (compEnvC scope cl C X.env) fp) (.Name x xp) (gName j)) (ht : ∀ (s : Shared) (H : Hp) (C : Addr) (cl : List (Str × Addr)) (fp : List Addr), JTs P (X.blk s H scope (compEnvC scope cl C X.env) fp) ifs tt)
    (he : ∀ (s : Shared) (H : Hp) (C : Addr) (cl : List (Str × Addr)) (fp : List Addr), JE P (X.blk s H scope (compEnvC scope cl C X.env) fp) elt te) (hs : ∀ x, foldedSetIterable iter X.env x = pure x := by intro _; rfl) :
    JE P X (.ListComp elt [⟨.Name x xp, iter, ifs, 0⟩] scope pos) (wLcM wi j tt te) := fun Ga Ha Ew tk =>
  PE.imp (pe_lc (own := [(x, j)]) hc hN (hi Ga Ha Ew tk) ok hg (fun s H C cl fp => ht s H C cl fp _ _ _ takesF) (fun s H C cl fp => he s H C cl fp _ _ _ takesF) hs) (lc_step fin_M)
theorem je_lcI {elt iter : Expr} {ifs : List Expr} {scope : Scope} {j : Nat} {x : Str} {xp pos : Pos} {wi : WTI} {tt : WTT} {te : WTE} (hc : X.calm = true) (hN : X.N.Nodup) (hi : JI P X (.Name x xp) iter wi) (ok : BlkOk X.N X.env.scope scope [(x, j)])
    (hg : ∀ (s : Shared) (H : Hp) (C : Addr) (cl : List (Str × Addr)) (fp : List Addr), PG (X.blk s H scope (compEnvC scope cl C X.env) fp) (.Name x xp) (gName j)) (ht : ∀ (s : Shared) (H : Hp) (C : Addr) (cl : List (Str × Addr)) (fp : List Addr), JTs P (X.blk s H scope (compEnvC scope cl C X.env) fp) ifs tt)
    (he : ∀ (s : Shared) (H : Hp) (C : Addr) (cl : List (Str × Addr)) (fp : List Addr), JE P (X.blk s H scope (compEnvC scope cl C X.env) fp) elt te) (hs : ∀ x, foldedSetIterable iter X.env x = pure x := by intro _; rfl) :
    JE P X (.ListComp elt [⟨.Name x xp, iter, ifs, 0⟩] scope pos) (wLcI wi j tt te) := fun Ga Ha Ew tk =>
  PE.imp (pe_lc (own := [(x, j)]) hc hN (hi Ga Ha Ew tk) ok hg (fun s H C cl fp => ht s H C cl fp _ _ _ takesF) (fun s H C cl fp => he s H C cl fp _ _ _ takesF) hs) (lc_step fin_I)
end
end Lw
/-! W5: built-in functions and methods. -/
namespace Lw
open PySem PySem.Spec PyProof.Rows L2
section
variable {P : Par} {X : Cx} {G : WHp} {H : Hp} {e o : Expr} {es : List Expr} {te to : WTE} {ta : WTA} {p pos : Pos} {x : Str}

def wCB (wr : WRs) (t : WTA) : WTE := fun σ G Q E => t σ G (fun ws G1 => wr ws G1 Q) E
theorem cb_step {wr : WRs} {Ga : WHp} {Ha : Hp} {Ew : WXK} : ∀ σ H Q, embE P Ga Ha Ew (wCB wr ta) σ H Q → tCB (embL P wr) (embA P Ga Ha Ew ta) σ H Q :=
  fun σ H Q ⟨σw, G, Qw, fa, rs, rp, ht, hq⟩ => ⟨σw, G, _, fa, rs, rp, ht, fun ws G1 vs H1 f1 r1 p1 q1 => ⟨ws, G1, Qw, r1, p1, q1, fun w G' v H' f r p q => hq w G' v H' (f1.trans f) r p q⟩⟩
theorem je_callB {id : String} {wr : WRs} (hc : CallW P X (.builtin id) wr) (hg : Gl X x) (hm : X.mg x = none) (hv : bootBuiltins x = some (.builtin id)) (ha : JA P X (e :: es) ta) (hn : x ≠ "__name__" := by decide) (hdb : (x == ("__debug__" : Str)) = false := by decide)
    (he : starEach (e :: es) X.env = (false, eval e X.env) :: starEach es X.env := by rfl) (hpl : (backTo pos (starEach es X.env)).any (·.1) = false := by rfl) : JE P X (.Call (.Name x p) (e :: es) [] pos) (wCB wr ta) := fun Ga Ha Ew tk =>
  PE.imp (pe_callB hc hg hm hv (ha Ga Ha Ew tk) hn hdb he hpl) cb_step
theorem je_callTy {T : String} {wr : WRs} (hc : CallW P X (.type T) wr) (hg : Gl X x) (hm : X.mg x = none) (hv : bootBuiltins x = some (.type T)) (ha : JA P X (e :: es) ta) (hn : x ≠ "__name__" := by decide) (hdb : (x == ("__debug__" : Str)) = false := by decide)
    (he : starEach (e :: es) X.env = (false, eval e X.env) :: starEach es X.env := by rfl) (hpl : (backTo pos (starEach es X.env)).any (·.1) = false := by rfl) : JE P X (.Call (.Name x p) (e :: es) [] pos) (wCB wr ta) := fun Ga Ha Ew tk =>
  PE.imp (pe_callTy hc hg hm hv (ha Ga Ha Ew tk) hn hdb he hpl) cb_step
theorem je_bltn {v : W} {v' : V} {u : Value} (hg : Gl X x) (hm : X.mg x = none) (hv : bootBuiltins x = some u) (r : RelV v' u) (rw_ : ∀ G H, RelW P G H v v') (hn : x ≠ "__name__" := by decide) (hd : (x == ("__debug__" : Str)) = false := by decide) : JE P X (.Name x pos) (wC v) :=
  je_of (pe_bltn hg hm hv r hn hd) fun σw G σ H Qw Q Ew rs rp q hq => hq _ G _ H (.refl _ _) (rw_ G H) rp q
theorem RelWs.one {w : W} {vs : List V} (r : RelWs P G H [w] vs) : ∃ v, vs = [v] ∧ RelW P G H w v := by
  cases r with
  | cons _ v _ _ r rr => cases rr; exact ⟨v, rfl, r⟩
theorem RelWs.two {w z : W} {vs : List V} (r : RelWs P G H [w, z] vs) : ∃ v u, vs = [v, u] ∧ RelW P G H w v ∧ RelW P G H z u := by
  cases r with
  | cons _ v _ _ r rr =>
    obtain ⟨u, rfl, r'⟩ := rr.one
    exact ⟨v, u, rfl, r, r'⟩
theorem RelWs.zero {vs : List V} (r : RelWs P G H [] vs) : vs = [] := by cases r; rfl

/-! ### len, str, int, isinstance, min, max, list, tuple -/
def oLen : WRs := fun ws G Q => match ws with
  | [.str s] => s.length ≤ big ∧ Q (.int s.length) G
  | [.tup xs] => Q (.int xs.length) G
  | [x] => ∃ xs, sqOf G x = some xs ∧ Q (.int xs.length) G
  | _ => False
theorem cw_len (hK : X.K = P.K) : CallW P X (.builtin "len") oLen := CallR.imp call_len fun vs H Q ⟨ws, G, Qw, r, rp, h, hq⟩ => by
  unfold oLen at h
  split at h
  · obtain ⟨v, rfl, r1⟩ := r.one
    cases r1
    exact ⟨_, _, rfl, ⟨by rw [S_len, big_eq]; exact h.1, rfl⟩, emb_end hq rp (.int _) h.2⟩
  · obtain ⟨v, rfl, r1⟩ := r.one
    cases r1 with
    | tup a vs _ ha ra => exact ⟨_, _, rfl, .inr ⟨vs, by rw [hK]; exact ha, ra.length⟩, emb_end hq rp (.int _) h⟩
  · obtain ⟨xs, e, q⟩ := h
    obtain ⟨v, rfl, r1⟩ := r.one
    obtain ⟨a, vs, rfl, ha, ra⟩ := sqOf_rel rp r1 e
    exact ⟨_, _, rfl, .inl ⟨vs, by rw [hK]; exact ha, ra.length⟩, emb_end hq rp (.int _) q⟩
  · exact h.elim
/-- the signs of a whole number -/
def strI (i : Int) : List Nat := (Str.ofString (toString i)).cps.toList
theorem strI_nat (n : Nat) : strI (n : Int) = TL.numL n := TL.tl_num n
def oStr : WRs := fun ws G Q => match ws with
  | [.int i] => i.natAbs.log2 < 1920 ∧ Q (.str (strI i)) G
  | _ => False
theorem cw_str : CallW P X (.type "str") oStr := CallR.imp call_str_int fun vs H Q ⟨ws, G, Qw, r, rp, h, hq⟩ => by
  unfold oStr at h
  split at h
  · obtain ⟨v, rfl, r1⟩ := r.one
    cases r1
    refine ⟨_, rfl, h.1, ?_⟩
    have := emb_end hq rp (.str _) h.2
    rw [show (S (strI _) : Str) = Str.ofString (toString _) from (S_of _).symm] at this
    exact this
  · exact h.elim
def oInt : WRs := fun ws G Q => match ws with
  | [.int i] => Q (.int i) G
  | [.bl k] => Q (.int (if k then 1 else 0)) G
  | [.str s] => ∃ n, PySem.intText? (S s) = some n ∧ s.length ≤ 640 ∧ Q (.int n) G
  | _ => False
theorem cw_int : CallW P X (.type "int") oInt := CallR.imp (CallR.or call_int1 call_int_str) fun vs H Q ⟨ws, G, Qw, r, rp, h, hq⟩ => by
  unfold oInt at h
  split at h
  · obtain ⟨v, rfl, r1⟩ := r.one
    cases r1
    exact .inl (.inl ⟨_, rfl, emb_end hq rp (.int _) h⟩)
  · obtain ⟨v, rfl, r1⟩ := r.one
    cases r1
    exact .inl (.inr ⟨_, rfl, emb_end hq rp (.int _) h⟩)
  · obtain ⟨n, e, hl, q⟩ := h
    obtain ⟨v, rfl, r1⟩ := r.one
    cases r1
    exact .inr ⟨_, n, rfl, e, hl, emb_end hq rp (.int _) q⟩
  · exact h.elim
/-- the built-in type of a value -/
def tyN (G : WHp) : W → Option String
  | .non => some "NoneType"
  | .bl _ => some "bool"
  | .int _ => some "int"
  | .str _ => some "str"
  | .il _ => some "list"
  | .dk _ => some "dict"
  | .ref p => match G p with
    | some (.lst _) => some "list"
    | some (.dct _) => some "dict"
    | _ => none
  | _ => none
theorem tyN_rel {K : PySem.W.Frag} (rp : Rep P G H) {w : W} {v : V} {n : String} (r : RelW P G H w v) (e : tyN G w = some n) : TyX K H v (.type n) := by
  cases r with
  | non => cases e; exact .base .non
  | bl b => cases e; exact .base (.bl b)
  | int i => cases e; exact .base (.int i)
  | str s => cases e; exact .base (.str _)
  | il a vs ws h rs => cases e; exact .base (.lst h.1)
  | dk a kv kvs h g rs => cases e; exact .base (.dK h)
  | ref a =>
    dsimp only [tyN] at e
    cases q : G a with
    | none => rw [q] at e; cases e
    | some o =>
      rw [q] at e
      cases o with
      | lst ws => cases e; obtain ⟨vs, h, rs⟩ := rp a _ q; exact .base (.lst h)
      | dct ws => cases e; obtain ⟨vs, h, rs⟩ := rp a _ q; exact .base (.dK h)
      | obj _ _ => cases e
      | fz _ _ _ => cases e
      | xd _ => cases e
      | bd _ => cases e
      | td _ => cases e
      | tab => cases e
  | ty n => cases e
  | sc a ns h => cases e
  | tup a vs ws h rs => cases e
  | io a dx c fv fs h g rs => cases e
  | clo a c cd l xs h1 h2 h3 g h => cases e
/-- isinstance(x, T), T a built-in class -/
def oIsi : WRs := fun ws G Q => match ws with
  | [.tup _, .ty T] => ∃ b, kitB "tuple" T = some b ∧ Q (.bl b) G
  | [x, .ty T] => ∃ n b, tyN G x = some n ∧ kitB n T = some b ∧ Q (.bl b) G
  | _ => False
theorem cw_isi (hK : X.K = P.K) : CallW P X (.builtin "isinstance") oIsi := CallR.imp call_isi fun vs H Q ⟨ws, G, Qw, r, rp, h, hq⟩ => by
  unfold oIsi at h
  split at h
  · obtain ⟨b, e, q⟩ := h
    obtain ⟨v, u, rfl, r1, r2⟩ := r.two
    cases r2
    cases r1 with
    | tup a vs _ ha ra =>
      refine ⟨_, _, .type "tuple", _, b, rfl, .ty _, ?_, kit_ty e, emb_end hq rp (.bl _) q⟩
      rw [hK]
      rcases ha with (ha | ⟨o, ha⟩) | ⟨o, its, n, ha, hc, _⟩
      · exact .base (.tup ha)
      · exact .fTuple ha
      · exact .kTuple ha hc
  · obtain ⟨n, b, e1, e2, q⟩ := h
    obtain ⟨v, u, rfl, r1, r2⟩ := r.two
    cases r2
    exact ⟨_, _, _, _, b, rfl, .ty _, tyN_rel rp r1 e1, kit_ty e2, emb_end hq rp (.bl _) q⟩
  · exact h.elim
def oMax2 : WRs := fun ws G Q => match ws with
  | [.int i, .int j] => Q (.int (if j > i then j else i)) G
  | _ => False
def oMin2 : WRs := fun ws G Q => match ws with
  | [.int i, .int j] => Q (.int (if j < i then j else i)) G
  | _ => False
theorem cw_max2 (hc : X.calm = true) : CallW P X (.builtin "max") oMax2 := CallR.imp (call_max2 hc) fun vs H Q ⟨ws, G, Qw, r, rp, h, hq⟩ => by
  unfold oMax2 at h
  split at h
  · obtain ⟨v, u, rfl, r1, r2⟩ := r.two
    cases r1; cases r2
    exact ⟨_, _, rfl, emb_end hq rp (.int _) h⟩
  · exact h.elim
theorem cw_min2 (hc : X.calm = true) : CallW P X (.builtin "min") oMin2 := CallR.imp (call_min2 hc) fun vs H Q ⟨ws, G, Qw, r, rp, h, hq⟩ => by
  unfold oMin2 at h
  split at h
  · obtain ⟨v, u, rfl, r1, r2⟩ := r.two
    cases r1; cases r2
    exact ⟨_, _, rfl, emb_end hq rp (.int _) h⟩
  · exact h.elim
/-- the ints of a list -/
theorem RelWs.ofInts : ∀ {ns : List Int} {vs : List V}, RelWs P G H (ns.map W.int) vs → vs = ns.map V.int
  | [], _, .nil => rfl
  | n :: ns, _, .cons _ v _ vs r rr => by
    cases r
    rw [RelWs.ofInts rr]
    rfl
def oSum : WRs := fun ws G Q => ∃ (x : W) (ns : List Int), ws = [x] ∧ sqOf G x = some (ns.map W.int) ∧ Q (.int ns.sum) G
theorem cw_sum (hK : X.K = P.K) (hc : X.calm = true) : CallW P X (.builtin "sum") oSum := CallR.imp (cr_sum hc) fun vs H Q ⟨ws, G, Qw, r, rp, ⟨x, ns, e0, e, q⟩, hq⟩ => by
  subst e0
  obtain ⟨v, rfl, r1⟩ := r.one
  obtain ⟨a, vs, rfl, ha, ra⟩ := sqOf_rel rp r1 e
  rw [ra.ofInts] at ha
  exact ⟨a, ns, rfl, by rw [hK]; exact ha, emb_end hq rp (.int _) q⟩
def oMaxL : WRs := fun ws G Q => ∃ (x : W) (ns : List Int), ws = [x] ∧ sqOf G x = some (ns.map W.int) ∧ 0 < ns.length ∧ ∀ m, m ∈ ns → (∀ y, y ∈ ns → y ≤ m) → Q (.int m) G
def oMinL : WRs := fun ws G Q => ∃ (x : W) (ns : List Int), ws = [x] ∧ sqOf G x = some (ns.map W.int) ∧ 0 < ns.length ∧ ∀ m, m ∈ ns → (∀ y, y ∈ ns → m ≤ y) → Q (.int m) G
theorem cw_maxL (hK : X.K = P.K) (hc : X.calm = true) : CallW P X (.builtin "max") oMaxL := CallR.imp (cr_max hc) fun vs H Q ⟨ws, G, Qw, r, rp, ⟨x, ns, e0, e, h0, q⟩, hq⟩ => by
  subst e0
  obtain ⟨v, rfl, r1⟩ := r.one
  obtain ⟨a, vs, rfl, ha, ra⟩ := sqOf_rel rp r1 e
  rw [ra.ofInts] at ha
  exact ⟨a, ns, rfl, by rw [hK]; exact ha, h0, fun m h1 h2 => emb_end hq rp (.int _) (q m h1 h2)⟩
theorem cw_minL (hK : X.K = P.K) (hc : X.calm = true) : CallW P X (.builtin "min") oMinL := CallR.imp (cr_min hc) fun vs H Q ⟨ws, G, Qw, r, rp, ⟨x, ns, e0, e, h0, q⟩, hq⟩ => by
  subst e0
  obtain ⟨v, rfl, r1⟩ := r.one
  obtain ⟨a, vs, rfl, ha, ra⟩ := sqOf_rel rp r1 e
  rw [ra.ofInts] at ha
  exact ⟨a, ns, rfl, by rw [hK]; exact ha, h0, fun m h1 h2 => emb_end hq rp (.int _) (q m h1 h2)⟩
/-- list(x): of a list or a tuple; as a value, or one that may change -/
def sqT (G : WHp) : W → Option (List W)
  | .tup ws => some ws
  | x => sqOf G x
def oListI : WRs := fun ws G Q => ∃ x xs, ws = [x] ∧ sqT G x = some xs ∧ Q (.il xs) G
def oListM : WRs := fun ws G Q => ∃ x xs, ws = [x] ∧ sqT G x = some xs ∧ ∀ p, G p = none → Q (.ref p) (updG G p (.lst xs))
theorem sqT_rel (rp : Rep P G H) {w : W} {v : V} {xs : List W} (r : RelW P G H w v) (e : sqT G w = some xs) : ∃ a vs, v = .ref a ∧ (SqL P.K H a vs ∨ SqT P.K H a vs) ∧ RelWs P G H xs vs := by
  have go : ∀ {w}, RelW P G H w v → sqOf G w = some xs → ∃ a vs, v = .ref a ∧ (SqL P.K H a vs ∨ SqT P.K H a vs) ∧ RelWs P G H xs vs := fun r e => by
    obtain ⟨a, vs, e1, h, rs⟩ := sqOf_rel rp r e
    exact ⟨a, vs, e1, .inl h, rs⟩
  cases w with
  | tup ws =>
    cases e
    cases r with
    | tup a vs _ ha ra => exact ⟨a, vs, rfl, .inr ha, ra⟩
  | _ => exact go r e
theorem cw_listI (hK : X.K = P.K) : CallW P X (.type "list") oListI := CallR.imp call_list_of fun vs H Q ⟨ws, G, Qw, r, rp, ⟨x, xs, e0, e, q⟩, hq⟩ => by
  subst e0
  obtain ⟨v, rfl, r1⟩ := r.one
  obtain ⟨a, vs, rfl, ha, ra⟩ := sqT_rel rp r1 e
  exact ⟨a, vs, rfl, by rw [hK]; exact ha, fun p hp => hq _ G _ _ (.hid hp) (.il p _ _ ⟨upd_same, rp.free hp⟩ (ra.fw rp (.hid hp))) (rp.hid hp) q⟩
theorem cw_listM (hK : X.K = P.K) : CallW P X (.type "list") oListM := CallR.imp call_list_of fun vs H Q ⟨ws, G, Qw, r, rp, ⟨x, xs, e0, e, q⟩, hq⟩ => by
  subst e0
  obtain ⟨v, rfl, r1⟩ := r.one
  obtain ⟨a, vs, rfl, ha, ra⟩ := sqT_rel rp r1 e
  exact ⟨a, vs, rfl, by rw [hK]; exact ha, fun p hp => hq _ _ _ _ (.new hp) (.ref p) (rp.put (u := .lst xs) (.new hp) ⟨_, upd_same, ra.fw rp (.new hp)⟩) (q p (rp.free hp))⟩

/-! ### methods -/
abbrev WRm := W → List W → WHp → WQ → Prop
def embM (P : Par) (wr : WRm) : V → List V → Hp → VK → Prop := fun x xs H Q => ∃ wx ws G Qw, RelW P G H wx x ∧ RelWs P G H ws xs ∧ Rep P G H ∧ wr wx ws G Qw ∧ ∀ w G' v H', Fw G H G' H' → RelW P G' H' w v → Rep P G' H' → Qw w G' → Q v H'
def MtW (P : Par) (X : Cx) (id : String) (wr : WRm) : Prop := MtR X id (embM P wr)
theorem MtR.imp {id : String} {r r' : V → List V → Hp → VK → Prop} (h : MtR X id r) (i : ∀ x xs H Q, r' x xs H Q → r x xs H Q) : MtR X id r' := fun pins s σ H x xs v us Q I rx rs q => h pins s σ H x xs v us Q I rx rs (i x xs H Q q)
/-- the receiver's kind, as it is asked ahead of the arguments -/
inductive Kd where
  | list | str | dict
def kdOk (G : WHp) (x : W) : Kd → Prop
  | .list => ∃ xs, sqOf G x = some xs
  | .str => ∃ s, x = .str s
  | .dict => (∃ p kvs, x = .ref p ∧ G p = some (.dct kvs)) ∨ ∃ kvs, x = .dk kvs
def Kd.nm : Kd → String
  | .list => "list"
  | .str => "str"
  | .dict => "dict"
theorem kd_rel (hK : X.K = P.K) (rp : Rep P G H) {w : W} {v : V} {k : Kd} (r : RelW P G H w v) (h : kdOk G w k) : tyV X.K k.nm v H := by
  cases k with
  | list =>
    obtain ⟨xs, e⟩ := h
    obtain ⟨a, vs, rfl, ha, ra⟩ := sqOf_rel rp r e
    exact .inl ⟨rfl, vs, by rw [hK]; exact ha⟩
  | str =>
    obtain ⟨s, rfl⟩ := h
    cases r
    rfl
  | dict =>
    rcases h with ⟨p, kvs, rfl, e⟩ | ⟨kvs, rfl⟩
    · cases r
      obtain ⟨kv, h, _⟩ := rp p _ e
      exact .inr (.inr (.inl ⟨rfl, .inl ⟨kv, h⟩⟩))
    · cases r with
      | dk a kv _ h g rs => exact .inr (.inr (.inl ⟨rfl, .inl ⟨kv, h⟩⟩))
def wBm (k : Kd) (wr : WRm) (to : WTE) (t : WTA) : WTE := fun σ G Q E => to σ G (fun x G1 => kdOk G1 x k ∧ t σ G1 (fun xs G2 => wr x xs G2 Q) E) E
theorem je_bm {k : Kd} {id : String} {name : Str} {apos cpos : Pos} {wr : WRm} (hK : X.K = P.K) (pa : PlainAttrs k.nm) (slot : Slot k.nm name id) (hty : typeOf (.builtin id) = pure (.type "method_descriptor")) (hm : MtW P X id wr) (ho : JE P X o to) (ha : JA P X (e :: es) ta)
    (hbase : attributeBase o name X.env (eval o X.env) = eval o X.env := by rfl)
    (hfew : ((backTo cpos (starEach (e :: es) X.env)).all (fun x => !x.1) && (backToKw cpos (keywordEach [] X.env)).all (fun x => x.1.isSome)
      && decide ((e :: es).length + ([] : List Keyword).length + (if ([] : List Keyword).isEmpty then 0 else 1) < 30)) = true := by rfl)
    (hline : (apos.endLine == cpos.line) = true := by rfl) (hs : starEach (e :: es) X.env = (false, eval e X.env) :: starEach es X.env := by rfl) (hplain : (backTo cpos (starEach es X.env)).any (·.1) = false := by rfl) :
    JE P X (.Call (.Attribute o name apos) (e :: es) [] cpos) (wBm k wr to ta) := fun Ga Ha Ew tk =>
  PE.imp (pe_bm pa slot hty hm (ho Ga Ha Ew tk) (ha Ga Ha Ew tk) hbase hfew hline hs hplain) fun σ H Q ⟨σw, G, Qw, fa, rs, rp, ht, hq⟩ => ⟨σw, G, _, fa, rs, rp, ht, fun w1 G1 v1 H1 f1 r1 p1 ⟨hk, h1⟩ =>
    ⟨kd_rel hK p1 r1 hk, σw, G1, _, fa.trans f1, rs.fw rp f1, p1, h1, fun ws G2 vs H2 f2 r2 p2 h2 => ⟨w1, ws, G2, Qw, r1.fw p1 f2, r2, p2, h2, fun w G' v H' f r p q => hq w G' v H' (f1.trans (f2.trans f)) r p q⟩⟩⟩
theorem je_bm0 {k : Kd} {id : String} {name : Str} {apos cpos : Pos} {wr : WRm} (hK : X.K = P.K) (pa : PlainAttrs k.nm) (slot : Slot k.nm name id) (hty : typeOf (.builtin id) = pure (.type "method_descriptor")) (hm : MtW P X id wr) (ho : JE P X o to)
    (hbase : attributeBase o name X.env (eval o X.env) = eval o X.env := by rfl) (hline : (apos.endLine == cpos.line) = true := by rfl) : JE P X (.Call (.Attribute o name apos) [] [] cpos) (wBm k wr to wNil) := fun Ga Ha Ew tk =>
  PE.imp (pe_bm0 pa slot hty hm (ho Ga Ha Ew tk) hbase hline) fun σ H Q ⟨σw, G, Qw, fa, rs, rp, ht, hq⟩ => ⟨σw, G, _, fa, rs, rp, ht, fun w1 G1 v1 H1 f1 r1 p1 ⟨hk, h1⟩ =>
    ⟨kd_rel hK p1 r1 hk, w1, [], G1, Qw, r1, .nil, p1, h1, fun w G' v H' f r p q => hq w G' v H' (f1.trans f) r p q⟩⟩
/-- a list that is seen -/
theorem seen_rel (rp : Rep P G H) {p : Addr} {xs : List W} (e : G p = some (.lst xs)) : ∃ vs, H p = some (.lst vs) ∧ RelWs P G H xs vs := rp p _ e
theorem put_end {Qw : WQ} {Q : VK} {p : Addr} {xs ys : List W} {vs : List V} {w : W} {v : V} (hq : ∀ w G' v H', Fw G H G' H' → RelW P G' H' w v → Rep P G' H' → Qw w G' → Q v H') (rp : Rep P G H) (e : G p = some (.lst xs)) (ry : RelWs P G H ys vs) (r : RelW P G H w v) (q : Qw w (updG G p (.lst ys))) : Q v (upd H p (.lst vs)) := by
  have f : Fw G H (updG G p (.lst ys)) (upd H p (.lst vs)) := .put e
  exact hq w _ v _ f (r.fw rp f) (rp.put (u := .lst ys) f ⟨vs, upd_same, ry.fw rp f⟩) q
def mAppend : WRm := fun x ws G Q => ∃ p xs y, x = .ref p ∧ ws = [y] ∧ G p = some (.lst xs) ∧ xs.length < big ∧ Q .non (updG G p (.lst (xs ++ [y])))
theorem mw_append : MtW P X "list.append" mAppend := MtR.imp (show MtR X "list.append" rAppend from mt_append) fun x xs H Q ⟨wx, ws, G, Qw, rx, r, rp, ⟨p, ys, y, e1, e2, e, hl, q⟩, hq⟩ => by
  subst e1; subst e2
  cases rx
  obtain ⟨v, rfl, rv⟩ := r.one
  obtain ⟨vs, h, ra⟩ := seen_rel rp e
  exact ⟨p, vs, v, rfl, rfl, h, by rw [← ra.length, big_eq]; exact hl, put_end hq rp e (ra.append (.cons _ _ _ _ rv .nil)) .non q⟩
end
end Lw
/-! W6: calls by name, globals, more statements and methods. -/
namespace Lw
open PySem PySem.Spec PyProof.Rows L2

/-- a def of the text, as its callers see it -/
def CallOk (P : Par) (prog : Program) (w : World) (mg : Str → Option Value) (base : Heap) (x : Str) (k : Nat) (sp : WSp) : Prop :=
  ∃ (f : Addr) (fd : FuncData) (ps : List Str), FnW P prog w mg base k f fd ps sp ∧ mg x = some (.ref f) ∧ PySem.W.keepIn P.K (.ref f) = true ∧ Binds P.K fd ps []
/-- a module's constant -/
def GlobOk (P : Par) (mg : Str → Option Value) (x : Str) (w : W) : Prop := ∃ u v, mg x = some u ∧ RelV v u ∧ ∀ G H, RelW P G H w v
section
variable {P : Par} {X : Cx} {G : WHp} {H : Hp} {a b c e : Expr} {es : List Expr} {ta tb tc te : WTE} {t : WTA} {p pos : Pos} {x : Str} {k : Nat} {sp : WSp}
theorem je_callC (C : CallOk P X.prog X.w X.mg X.base x k sp) (hr : Room k X.A) (hg : Gl X x) (ha : JA P X (e :: es) t) (hK : X.K = P.K := by rfl) (hdb : (x == ("__debug__" : Str)) = false := by decide) (he : starEach (e :: es) X.env = (false, eval e X.env) :: starEach es X.env := by rfl) (hpl : (backTo pos (starEach es X.env)).any (·.1) = false := by rfl) :
    JE P X (.Call (.Name x p) (e :: es) [] pos) (wCall sp t) := by
  obtain ⟨f, fd, ps, F, hm, hk, hb⟩ := C
  exact je_call hK F hr hg hm hk hb ha hdb he hpl
theorem je_glob {w : W} (hg : Gl X x) (C : GlobOk P X.mg x w) (hd : (x == ("__debug__" : Str)) = false := by decide) : JE P X (.Name x pos) (wC w) := by
  obtain ⟨u, v, hm, r, rw_⟩ := C
  exact je_of (pe_glob hg hm r hd) fun σw G σ H Qw Q Ew rs rp q hq => hq _ G _ H (.refl _ _) (rw_ G H) rp q
theorem chain_step {wr wr' : WR2} {Ga : WHp} {Ha : Hp} {Ew : WXK} : ∀ σ H Q, embE P Ga Ha Ew (wChain wr wr' ta tb tc) σ H Q → tChain (emb2 P wr) (emb2 P wr') (embE P Ga Ha Ew ta) (embE P Ga Ha Ew tb) (embE P Ga Ha Ew tc) σ H Q :=
  fun σ H Q ⟨σw, G, Qw, fa, rs, rp, ht, hq⟩ => ⟨σw, G, _, fa, rs, rp, ht, fun w1 G1 v1 H1 f1 r1 p1 h1 => ⟨σw, G1, _, fa.trans f1, rs.fw rp f1, p1, h1, fun w2 G2 v2 H2 f2 r2 p2 h2 =>
    ⟨w1, w2, G2, _, r1.fw p1 f2, r2, p2, h2, fun w3 G3 v3 H3 f3 r3 p3 ⟨k, e, q⟩ => by
      subst e
      cases r3
      refine ⟨k, rfl, ?_⟩
      cases k with
      | true => exact ⟨σw, G3, _, fa.trans (f1.trans (f2.trans f3)), ((rs.fw rp f1).fw p1 f2).fw p2 f3, p3, q, fun w4 G4 v4 H4 f4 r4 p4 h4 => ⟨w2, w4, G4, Qw, (r2.fw p2 f3).fw p3 f4, r4, p4, h4, fun w G' v H' f r p q => hq w G' v H' (f1.trans (f2.trans (f3.trans (f4.trans f)))) r p q⟩⟩
      | false => exact hq _ G3 _ H3 (f1.trans (f2.trans f3)) (.bl false) p3 q⟩⟩⟩
theorem je_chain {op op' : CmpOp} {wr wr' : WR2} (ho : OpW P X (compareOp op) wr) (ho' : OpW P X (compareOp op') wr') (ha : JE P X a ta) (hb : JE P X b tb) (hc : JE P X c tc)
    (hm : lastMarks [op, op'] [b, c] = false := by with_unfolding_all rfl) : JE P X (.Compare a [op, op'] [b, c] pos) (wChain wr wr' ta tb tc) := fun Ga Ha Ew tk =>
  PE.imp (pe_chain ho ho' (ha Ga Ha Ew tk) (hb Ga Ha Ew tk) (hc Ga Ha Ew tk) hm) chain_step
theorem jt_chain {op op' : CmpOp} {wr wr' : WR2} (ho : OpW P X (compareOp op) wr) (ho' : OpW P X (compareOp op') wr') (ha : JE P X a ta) (hb : JE P X b tb) (hc : JE P X c tc)
    (hm : lastMarks [op, op'] [b, c] = false := by with_unfolding_all rfl) : JT P X (.Compare a [op, op'] [b, c] pos) (wTest (wChain wr wr' ta tb tc)) := fun Ga Ha Ew tk =>
  PT.imp (pt_chain ho ho' (ha Ga Ha Ew tk) (hb Ga Ha Ew tk) (hc Ga Ha Ew tk) hm) fun σ H Q ⟨σw, G, Qw, fa, rs, rp, ht, hq⟩ => chain_step σ H _ ⟨σw, G, _, fa, rs, rp, ht, fun w G1 v H1 f1 r p ⟨k, e, q⟩ => by subst e; cases r; exact ⟨k, rfl, hq k G1 H1 f1 p q⟩⟩
/-- y = [..], y a local -/
theorem js_setLcG {fin : Addr → List W → WHp → WQ → Prop} (hfin : ∀ {G' H' D acc Qw} {Q : VK} , Rep P G' H' → G' D = some (.lst acc) → fin D acc G' Qw → (∀ w G2 v H2, RelW P G2 H2 w v → Rep P G2 H2 → Sub G2 G' → H2 = H' → Qw w G2 → Q v H2) → Q (.ref D) H') {i : Nat} {y : Str} {py spos : Pos}
    {elt iter : Expr} {ifs : List Expr} {scope : Scope} {j : Nat} {x : Str} {xp : Pos} {wi : WTI} {tt : WTT} {te : WTE} (hc : X.calm = true) (hN : X.N.Nodup) (hy : X.N[i]? = some y) (hyl : X.env.scope.names.lookup y = some .local)
    (hsw : swapsWith (.ListComp elt [⟨.Name x xp, iter, ifs, 0⟩] scope pos) (some (.Name y py)) spos.line X.env = pure true) (hi : JI P X (.Name x xp) iter wi) (ok : BlkOk X.N X.env.scope scope [(x, j)])
    (hg : ∀ (s : Shared) (H : Hp) (C : Addr) (cl : List (Str × Addr)) (fp : List Addr), PG (X.blk s H scope (compEnvC scope cl C X.env) fp) (.Name x xp) (gName j)) (ht : ∀ (s : Shared) (H : Hp) (C : Addr) (cl : List (Str × Addr)) (fp : List Addr), JTs P (X.blk s H scope (compEnvC scope cl C X.env) fp) ifs tt)
    (he : ∀ (s : Shared) (H : Hp) (C : Addr) (cl : List (Str × Addr)) (fp : List Addr), JE P (X.blk s H scope (compEnvC scope cl C X.env) fp) elt te) (hs : ∀ x, foldedSetIterable iter X.env x = pure x := by intro _; rfl) :
    JS P X (.Assign [.Name y py] (.ListComp elt [⟨.Name x xp, iter, ifs, 0⟩] scope pos) spos) (wAsg (wLcG fin wi j tt te) (wN i)) := fun Ga Ha Ew tk =>
  PS.imp (ps_setLc (i := i) (own := [(x, j)]) hc hN hy hyl hsw (hi Ga Ha Ew tk) ok hg (fun s H C cl fp => ht s H C cl fp _ _ _ takesF) (fun s H C cl fp => he s H C cl fp _ _ _ takesF) hs) fun D σ H ⟨σw, G, Dw, fa, rs, rp, ht, h1, h2, h3, h4⟩ =>
    lc_step (Ga := Ga) (Ha := Ha) (Ew := Ew) hfin σ H _ ⟨σw, G, _, fa, rs, rp, ht, fun w G' v H' f r p q => h1 _ G' _ H' f ((rs.fw rp f).set r i) p q⟩
theorem js_setLcM {i : Nat} {y : Str} {py spos : Pos}
    {elt iter : Expr} {ifs : List Expr} {scope : Scope} {j : Nat} {x : Str} {xp : Pos} {wi : WTI} {tt : WTT} {te : WTE} (hyl : X.env.scope.names.lookup y = some .local)
    (hsw : swapsWith (.ListComp elt [⟨.Name x xp, iter, ifs, 0⟩] scope pos) (some (.Name y py)) spos.line X.env = pure true) (hc : X.calm = true) (hN : X.N.Nodup) (hi : JI P X (.Name x xp) iter wi) (ok : BlkOk X.N X.env.scope scope [(x, j)])
    (hg : ∀ (s : Shared) (H : Hp) (C : Addr) (cl : List (Str × Addr)) (fp : List Addr), PG (X.blk s H scope (compEnvC scope cl C X.env) fp) (.Name x xp) (gName j)) (ht : ∀ (s : Shared) (H : Hp) (C : Addr) (cl : List (Str × Addr)) (fp : List Addr), JTs P (X.blk s H scope (compEnvC scope cl C X.env) fp) ifs tt)
    (he : ∀ (s : Shared) (H : Hp) (C : Addr) (cl : List (Str × Addr)) (fp : List Addr), JE P (X.blk s H scope (compEnvC scope cl C X.env) fp) elt te) (hy : X.N[i]? = some y := by rfl) (hs : ∀ x, foldedSetIterable iter X.env x = pure x := by intro _; rfl) :
    JS P X (.Assign [.Name y py] (.ListComp elt [⟨.Name x xp, iter, ifs, 0⟩] scope pos) spos) (wAsg (wLcM wi j tt te) (wN i)) := js_setLcG fin_M hc hN hy hyl hsw hi ok hg ht he hs
theorem js_setLcI {i : Nat} {y : Str} {py spos : Pos}
    {elt iter : Expr} {ifs : List Expr} {scope : Scope} {j : Nat} {x : Str} {xp : Pos} {wi : WTI} {tt : WTT} {te : WTE} (hyl : X.env.scope.names.lookup y = some .local)
    (hsw : swapsWith (.ListComp elt [⟨.Name x xp, iter, ifs, 0⟩] scope pos) (some (.Name y py)) spos.line X.env = pure true) (hc : X.calm = true) (hN : X.N.Nodup) (hi : JI P X (.Name x xp) iter wi) (ok : BlkOk X.N X.env.scope scope [(x, j)])
    (hg : ∀ (s : Shared) (H : Hp) (C : Addr) (cl : List (Str × Addr)) (fp : List Addr), PG (X.blk s H scope (compEnvC scope cl C X.env) fp) (.Name x xp) (gName j)) (ht : ∀ (s : Shared) (H : Hp) (C : Addr) (cl : List (Str × Addr)) (fp : List Addr), JTs P (X.blk s H scope (compEnvC scope cl C X.env) fp) ifs tt)
    (he : ∀ (s : Shared) (H : Hp) (C : Addr) (cl : List (Str × Addr)) (fp : List Addr), JE P (X.blk s H scope (compEnvC scope cl C X.env) fp) elt te) (hy : X.N[i]? = some y := by rfl) (hs : ∀ x, foldedSetIterable iter X.env x = pure x := by intro _; rfl) :
    JS P X (.Assign [.Name y py] (.ListComp elt [⟨.Name x xp, iter, ifs, 0⟩] scope pos) spos) (wAsg (wLcI wi j tt te) (wN i)) := js_setLcG fin_I hc hN hy hyl hsw hi ok hg ht he hs
/-- a list's truth -/
def wTruth (te : WTE) : WTT := fun σ G Q E => te σ G (fun x G1 => ∃ xs, sqT G1 x = some xs ∧ Q (!xs.isEmpty) G1) E
theorem RelWs.isEmpty {ws : List W} {vs : List V} (r : RelWs P G H ws vs) : ws.isEmpty = vs.isEmpty := by cases r <;> rfl
theorem jt_truth (hK : X.K = P.K) (h : JE P X a ta) (he : ∀ whole, isTrue a X.env whole = (do let v ← whole; standAt a.pos; holding [v] (truthy v)) := by intro _; rfl) : JT P X a (wTruth ta) := fun Ga Ha Ew tk =>
  PT.imp (pt_truth (h Ga Ha Ew tk) he) fun σ H Q ⟨σw, G, Qw, fa, rs, rp, ht, hq⟩ => ⟨σw, G, _, fa, rs, rp, ht, fun w G1 v H1 f1 r p ⟨xs, e, q⟩ => by
    obtain ⟨a, vs, rfl, ha, ra⟩ := sqT_rel p r e
    refine ⟨!xs.isEmpty, ?_, hq _ G1 H1 f1 p q⟩
    rw [ra.isEmpty, hK]
    rcases ha with ha | ha
    · exact .inl ⟨vs, ha, rfl⟩
    · exact .inr (.inl ⟨vs, ha, rfl⟩)⟩

/-! ### lists changed -/
def mInsert : WRm := fun x ws G Q => ∃ p xs i y, x = .ref p ∧ ws = [.int i, y] ∧ G p = some (.lst xs) ∧ xs.length < big ∧ 0 ≤ i ∧ i < 2 ^ 63 ∧ Q .non (updG G p (.lst (xs.take i.toNat ++ [y] ++ xs.drop i.toNat)))
theorem mw_insert : MtW P X "list.insert" mInsert := MtR.imp mt_insert fun x xs H Q ⟨wx, ws, G, Qw, rx, r, rp, ⟨p, ys, i, y, e1, e2, e, hl, h0, h1, q⟩, hq⟩ => by
  subst e1; subst e2
  cases rx
  obtain ⟨v, u, rfl, rv, ru⟩ := r.two
  cases rv
  obtain ⟨vs, h, ra⟩ := seen_rel rp e
  exact ⟨p, vs, i, u, rfl, rfl, h, by rw [← ra.length, big_eq]; exact hl, h0, h1, put_end hq rp e (((ra.take _).append (.cons _ _ _ _ ru .nil)).append (ra.drop _)) .non q⟩
def mExtend : WRm := fun x ws G Q => ∃ p xs y zs, x = .ref p ∧ ws = [y] ∧ G p = some (.lst xs) ∧ lstOf G y = some zs ∧ xs.length + zs.length ≤ big ∧ Q .non (updG G p (.lst (xs ++ zs)))
theorem mw_extend : MtW P X "list.extend" mExtend := MtR.imp (show MtR X "list.extend" rExtend from mt_extend) fun x xs H Q ⟨wx, ws, G, Qw, rx, r, rp, ⟨p, ys, y, zs, e1, e2, e, e3, hl, q⟩, hq⟩ => by
  subst e1; subst e2
  cases rx
  obtain ⟨v, rfl, rv⟩ := r.one
  obtain ⟨vs, h, ra⟩ := seen_rel rp e
  obtain ⟨b, us, rfl, hb, rb⟩ := lstOf_rel rp rv e3
  exact ⟨p, b, vs, us, rfl, rfl, h, hb, by rw [← ra.length, ← rb.length, big_eq]; exact hl, put_end hq rp e (ra.append rb) .non q⟩
theorem RelWs.dropLast : ∀ {ws : List W} {vs : List V}, RelWs P G H ws vs → RelWs P G H ws.dropLast vs.dropLast := fun {ws vs} r => by
  rw [List.dropLast_eq_take, List.dropLast_eq_take, ← r.length]
  exact r.take _
theorem RelWs.eraseIdx {ws : List W} {vs : List V} (k : Nat) (r : RelWs P G H ws vs) : RelWs P G H (ws.eraseIdx k) (vs.eraseIdx k) := by
  rw [List.eraseIdx_eq_take_drop_succ, List.eraseIdx_eq_take_drop_succ]
  exact (r.take _).append (r.drop _)
theorem RelWs.reverse : ∀ {ws : List W} {vs : List V}, RelWs P G H ws vs → RelWs P G H ws.reverse vs.reverse
  | _, _, .nil => .nil
  | _, _, .cons w v ws vs h r => by
    rw [List.reverse_cons, List.reverse_cons]
    exact (RelWs.reverse r).append (.cons _ _ _ _ h .nil)
def mPop : WRm := fun x ws G Q => ∃ p xs y, x = .ref p ∧ ws = [] ∧ G p = some (.lst xs) ∧ xs[xs.length - 1]? = some y ∧ Q y (updG G p (.lst xs.dropLast))
theorem mw_pop : MtW P X "list.pop" mPop := MtR.imp (show MtR X "list.pop" rPop from mt_pop) fun x xs H Q ⟨wx, ws, G, Qw, rx, r, rp, ⟨p, ys, y, e1, e2, e, e3, q⟩, hq⟩ => by
  subst e1; subst e2
  cases rx
  have e4 := r.zero
  subst e4
  obtain ⟨vs, h, ra⟩ := seen_rel rp e
  obtain ⟨v, hv, rv⟩ := ra.get e3
  exact ⟨p, vs, v, rfl, rfl, h, by rw [← ra.length]; exact hv, put_end hq rp e ra.dropLast rv q⟩
def mPopAt : WRm := fun x ws G Q => ∃ p xs i y, x = .ref p ∧ ws = [.int i] ∧ G p = some (.lst xs) ∧ xs.length ≤ big ∧ 0 ≤ i ∧ xs[i.toNat]? = some y ∧ Q y (updG G p (.lst (xs.eraseIdx i.toNat)))
theorem mw_popAt : MtW P X "list.pop" mPopAt := MtR.imp (show MtR X "list.pop" rPopAt from mt_popAt) fun x xs H Q ⟨wx, ws, G, Qw, rx, r, rp, ⟨p, ys, i, y, e1, e2, e, hl, h0, e3, q⟩, hq⟩ => by
  subst e1; subst e2
  cases rx
  obtain ⟨v, rfl, rv⟩ := r.one
  cases rv
  obtain ⟨vs, h, ra⟩ := seen_rel rp e
  obtain ⟨v, hv, rv⟩ := ra.get e3
  have hi : i.toNat < ys.length := (List.getElem?_eq_some_iff.mp e3).1
  have hb : big = 16777216 := rfl
  have hlen := ra.length
  exact ⟨p, vs, i, i.toNat, v, rfl, rfl, h, by omega, by omega, seqIndex_of h0 (by omega), hv, put_end hq rp e (ra.eraseIdx _) rv q⟩
def mReverse : WRm := fun x ws G Q => ∃ p xs, x = .ref p ∧ ws = [] ∧ G p = some (.lst xs) ∧ Q .non (updG G p (.lst xs.reverse))
theorem mw_reverse : MtW P X "list.reverse" mReverse := MtR.imp (show MtR X "list.reverse" rReverse from mt_reverse) fun x xs H Q ⟨wx, ws, G, Qw, rx, r, rp, ⟨p, ys, e1, e2, e, q⟩, hq⟩ => by
  subst e1; subst e2
  cases rx
  have e4 := r.zero
  subst e4
  obtain ⟨vs, h, ra⟩ := seen_rel rp e
  exact ⟨p, vs, rfl, rfl, h, put_end hq rp e ra.reverse .non q⟩
def mClear : WRm := fun x ws G Q => ∃ p xs, x = .ref p ∧ ws = [] ∧ G p = some (.lst xs) ∧ Q .non (updG G p (.lst []))
theorem mw_clear : MtW P X "list.clear" mClear := MtR.imp (show MtR X "list.clear" rClear from mt_clear) fun x xs H Q ⟨wx, ws, G, Qw, rx, r, rp, ⟨p, ys, e1, e2, e, q⟩, hq⟩ => by
  subst e1; subst e2
  cases rx
  have e4 := r.zero
  subst e4
  obtain ⟨vs, h, ra⟩ := seen_rel rp e
  exact ⟨p, vs, rfl, rfl, h, put_end hq rp e .nil .non q⟩
/-- the first place of a flat value -/
def mIndex : WRm := fun x ws G Q => ∃ ys y j z, ws = [y] ∧ sqOf G x = some ys ∧ flW y = true ∧ ys.all flW = true ∧ ys[j]? = some z ∧ eqFl z y = true ∧ (∀ (m : Nat) z', m < j → ys[m]? = some z' → eqFl z' y = false) ∧ Q (.int (j : Nat)) G
theorem mw_index (hK : X.K = P.K) : MtW P X "list.index" mIndex := MtR.imp mt_index fun x xs H Q ⟨wx, ws, G, Qw, rx, r, rp, ⟨ys, y, j, z, e2, e, fy, fys, hj, hz, hno, q⟩, hq⟩ => by
  subst e2
  obtain ⟨v, rfl, rv⟩ := r.one
  obtain ⟨a, vs, rfl, ha, ra⟩ := sqOf_rel rp rx e
  obtain ⟨u, hu, ru⟩ := ra.get hj
  have fl : ∀ {m : Nat} {z' : W}, ys[m]? = some z' → flW z' = true := fun h => List.all_eq_true.mp fys _ (List.mem_of_getElem? h)
  refine ⟨a, vs, v, j, u, rfl, rfl, by rw [hK]; exact ha, flW_rel rv fy, all_flat ra fys, hu, by rw [eqFl_rel ru rv (fl hj) fy]; exact hz, fun m z' hm hz' => ?_, emb_end hq rp (.int _) q⟩
  obtain ⟨w', hw', rw'⟩ := ra.get' hz'
  rw [eqFl_rel rw' rv (fl hw') fy]
  exact hno m w' hm hw'

/-! ### xs[i] = e -/
abbrev WSet := W → W → W → WHp → (WHp → Prop) → Prop
def embSet (P : Par) (wr : WSet) : V → V → V → Hp → (Hp → Prop) → Prop := fun o i v H Q => ∃ wo wi wv G Qw, RelW P G H wo o ∧ RelW P G H wi i ∧ RelW P G H wv v ∧ Rep P G H ∧ wr wo wi wv G Qw ∧ ∀ G' H', Fw G H G' H' → Rep P G' H' → Qw G' → Q H'
def SetW (P : Par) (X : Cx) (wr : WSet) : Prop := PSet X (embSet P wr)
def wGSub (wr : WSet) (to ti : WTE) : WTG := fun v σ G Q E => to σ G (fun o G1 => ti σ G1 (fun i G2 => wr o i v G2 fun G3 => Q σ G3) E) E
theorem jg_sub {wr : WSet} (ho : JE P X a ta) (hi : JE P X b tb) (hs : SetW P X wr)
    (ha : ∀ v, assign (.Subscript a b pos) X.env v = (do
      let ov ← holding [v] (eval a X.env)
      let iv ← holding [v, ov] (eval b X.env)
      standAt pos
      holding [v, ov, iv] (setItem ov iv v)
      release [v, ov, iv] []) := by intro _; rfl) : JG P X (.Subscript a b pos) (wGSub wr ta tb) := fun Ga Ha Ew tk =>
  PG.imp (pg_sub (ho Ga Ha Ew tk) (hi Ga Ha Ew tk) hs ha) fun v σ H Q ⟨w, σw, G, Qw, fa, rw_, rs, rp, ht, hq⟩ => ⟨σw, G, _, fa, rs, rp, ht, fun o G1 ov H1 f1 ro p1 h1 => ⟨σw, G1, _, fa.trans f1, rs.fw rp f1, p1, h1, fun i G2 iv H2 f2 ri p2 h2 =>
    ⟨o, i, w, G2, _, ro.fw p1 f2, ri, (rw_.fw rp f1).fw p1 f2, p2, h2, fun G3 H3 f3 p3 q => hq _ G3 _ H3 (f1.trans (f2.trans f3)) (((rs.fw rp f1).fw p1 f2).fw p2 f3) p3 q⟩⟩⟩
def mSet : WSet := fun o i v G Q => ∃ p xs k j, o = .ref p ∧ i = .int k ∧ G p = some (.lst xs) ∧ ixN xs.length k = some j ∧ Q (updG G p (.lst (xs.set j v)))
theorem pw_list : SetW P X mSet := by
  intro pins s σ H o i v ov iv u Q I ro ri rv h
  obtain ⟨wo, wi, wv, G, Qw, r1, r2, r3, rp, ⟨p, xs, k, j, e1, e2, e, hj, q⟩, hq⟩ := h
  subst e1; subst e2
  cases r1; cases r2
  obtain ⟨vs, h, ra⟩ := seen_rel rp e
  have f : Fw G H (updG G p (.lst (xs.set j wv))) (upd H p (.lst (vs.set j v))) := .put e
  exact set_list pins s σ H _ _ v ov iv u Q I ro ri rv ⟨p, vs, k, j, rfl, rfl, h, by rw [← ra.length]; exact hj, hq _ _ f (rp.put (u := .lst (xs.set j wv)) f ⟨_, upd_same, (RelWs.set r3 j ra).fw rp f⟩) q⟩

/-! ### texts -/
def strsOf : List W → Option (List (List Nat))
  | [] => some []
  | .str s :: r => (strsOf r).map (s :: ·)
  | _ :: _ => none
theorem RelWs.strs : ∀ {ws : List W} {vs : List V} {ss : List (List Nat)}, RelWs P G H ws vs → strsOf ws = some ss → vs = (ss.map S).map V.str
  | _, _, ss, .nil, e => by cases e; rfl
  | _, _, ss, .cons w v ws vs h r, e => by
    cases h with
    | str s =>
      unfold strsOf at e
      cases q : strsOf ws with
      | none => rw [q] at e; cases e
      | some ss' =>
        rw [q] at e
        cases e
        rw [RelWs.strs r q]
        rfl
    | _ => cases e
theorem strsOf_map (ss : List (List Nat)) : strsOf (ss.map W.str) = some ss := by
  induction ss with
  | nil => rfl
  | cons s r ih => simp [strsOf, ih]
def mSjoin : WRm := fun x ws G Q => ∃ s y zs ss, x = .str s ∧ ws = [y] ∧ sqT G y = some zs ∧ strsOf zs = some ss ∧ (ss.map (·.length)).sum + ss.length * s.length ≤ big ∧ Q (.str (TL.joinL s ss)) G
theorem mw_sjoin (hK : X.K = P.K) : MtW P X "str.join" mSjoin := MtR.imp mt_join fun x xs H Q ⟨wx, ws, G, Qw, rx, r, rp, ⟨s, y, zs, ss, e1, e2, e, e3, hl, q⟩, hq⟩ => by
  subst e1; subst e2
  cases rx
  obtain ⟨v, rfl, rv⟩ := r.one
  obtain ⟨a, vs, rfl, ha, ra⟩ := sqT_rel rp rv e
  have ev := ra.strs e3
  subst ev
  refine ⟨S s, a, ss.map S, rfl, rfl, by rw [hK]; exact ha, ?_, ?_⟩
  · rw [List.map_map, List.length_map]
    exact hl
  · have ej : Txt.join (S s) (ss.map S) = S (TL.joinL s ss) := by
      refine TL.ext_tl ?_
      rw [TL.join_eq, TL.tl_join, List.map_map]
      show TL.joinL s (ss.map (TL.tl ∘ S)) = TL.joinL s ss
      have : (TL.tl ∘ S) = id := by funext z; rfl
      rw [this, List.map_id]
    rw [ej]
    exact emb_end hq rp (.str _) q
/-- cut at each separator; as a value -/
def splitL (t s : List Nat) : List (List Nat) := TL.spl t 0 [] s
def mSsplit : WRm := fun x ws G Q => ∃ s t, x = .str s ∧ ws = [.str t] ∧ t ≠ [] ∧ t.all (· < 256) = true ∧ s.length + 2 ≤ big ∧ Q (.il ((splitL t s).map .str)) G
def mSsplitM : WRm := fun x ws G Q => ∃ s t, x = .str s ∧ ws = [.str t] ∧ t ≠ [] ∧ t.all (· < 256) = true ∧ s.length + 2 ≤ big ∧ ∀ p, G p = none → Q (.ref p) (updG G p (.lst ((splitL t s).map .str)))
theorem split_S {s t : List Nat} (h : t ≠ []) (hk : t.all (· < 256) = true) : (Txt.split (S s) (S t)).map V.str = ((splitL t s).map S).map V.str := by
  have e : Txt.split (S s) (S t) = (splitL t s).map S := by
    refine TL.map_tl_inj ?_
    rw [TL.split_spl (S s) (S t) h (TL.kind_ok (by simpa using hk)), List.map_map]
    show splitL t s = (splitL t s).map (TL.tl ∘ S)
    have : (TL.tl ∘ S) = id := by funext z; rfl
    rw [this, List.map_id]
  rw [e]
theorem RelWs.ofStrs (ss : List (List Nat)) : RelWs P G H (ss.map W.str) ((ss.map S).map V.str) := by
  induction ss with
  | nil => exact .nil
  | cons s r ih => exact .cons _ _ _ _ (.str s) ih
theorem mw_ssplit : MtW P X "str.split" mSsplit := MtR.imp mt_split fun x xs H Q ⟨wx, ws, G, Qw, rx, r, rp, ⟨s, t, e1, e2, ht, hk, hl, q⟩, hq⟩ => by
  subst e1; subst e2
  cases rx
  obtain ⟨v, rfl, rv⟩ := r.one
  cases rv
  refine ⟨S s, S t, rfl, rfl, ?_, by rw [S_len, big_eq]; exact hl, fun p hp => ?_⟩
  · cases t with
    | nil => exact absurd rfl ht
    | cons c r => rfl
  · rw [split_S ht hk]
    exact hq _ G _ _ (.hid hp) (.il p _ _ ⟨upd_same, rp.free hp⟩ (.ofStrs _)) (rp.hid hp) q
theorem mw_ssplitM : MtW P X "str.split" mSsplitM := MtR.imp mt_split fun x xs H Q ⟨wx, ws, G, Qw, rx, r, rp, ⟨s, t, e1, e2, ht, hk, hl, q⟩, hq⟩ => by
  subst e1; subst e2
  cases rx
  obtain ⟨v, rfl, rv⟩ := r.one
  cases rv
  refine ⟨S s, S t, rfl, rfl, ?_, by rw [S_len, big_eq]; exact hl, fun p hp => ?_⟩
  · cases t with
    | nil => exact absurd rfl ht
    | cons c r => rfl
  · rw [split_S ht hk]
    exact hq _ _ _ _ (.new hp) (.ref p) (rp.put (u := .lst ((splitL t s).map .str)) (.new hp) ⟨_, upd_same, .ofStrs _⟩) (q p (rp.free hp))
def mSindex : WRm := fun x ws G Q => ∃ s t i rest, x = .str s ∧ ws = [.str t] ∧ Builtin.Str.occurrences (S s) (S t) 0 s.length 1 = i :: rest ∧ Q (.int (i : Nat)) G
theorem mw_sindex : MtW P X "str.index" mSindex := MtR.imp mt_sindex fun x xs H Q ⟨wx, ws, G, Qw, rx, r, rp, ⟨s, t, i, rest, e1, e2, e, q⟩, hq⟩ => by
  subst e1; subst e2
  cases rx
  obtain ⟨v, rfl, rv⟩ := r.one
  cases rv
  exact ⟨S s, S t, i, rest, rfl, rfl, e, emb_end hq rp (.int _) q⟩
end
/-- the law's promise from the script's list -/
def spLaw : WSp := fun ws G Q _ => ∃ ns : List Int, ws = [.sc ns] ∧ ns.length ≤ 63 ∧ G = (fun _ => none) ∧ ∀ G', Q (.bl true) G'
theorem law_sp (P : Par) {H : Hp} {a : Addr} {ns : List Int} (hl : ns.length ≤ 63) (hO : Only H) (hS : SqL P.K H a (ns.map V.int)) : embSp P spLaw [.ref a] H (fun v _ => v = .bl true) fun _ _ _ => False := by
  refine ⟨[.sc ns], fun _ => none, fun w _ => w = .bl true, fun _ _ => False, .cons _ _ _ _ (.sc a ns ?_) .nil, fun _ _ e => (nomatch e), ⟨ns, rfl, hl, rfl, fun _ => rfl⟩, fun w G' v H' _ r _ q => ?_, fun _ _ _ _ _ _ _ _ q => q.elim⟩
  · rcases hS with (hS | ⟨o, hS⟩) | hS
    · rcases hO a with z | ⟨o, xs, z⟩
      · rw [hS] at z; cases z
      · rw [hS] at z; cases z
    · exact .inl ⟨o, hS⟩
    · exact .inr (.inr hS)
  · subst q
    cases r
    rfl
end Lw
/-! W7: the readings of operators on known values, as equations for simp. -/
namespace Lw
open PySem PySem.Spec PyProof.Rows L2
theorem passesW {X : Cx} {K : Value → Shared → Prop} {E₁ : Value → Shared → Prop} (hx : X.xe = fun e s' => wpAny (model X.prog X.w) X.A (leaving X.env e) (fun _ s'' => K e s'') E₁ s') : PassesOwn (model X.prog X.w) X.A X.env X.xe := passes_of hx
section
variable {G : WHp} {Q : WQ} {σ : WSt} {E : WXK}
theorem oLen_str (s : List Nat) : oLen [.str s] G Q = (s.length ≤ 16777216 ∧ Q (.int s.length) G) := rfl
theorem oLen_tup (s : List W) : oLen [.tup s] G Q = Q (.int s.length) G := rfl
theorem oLen_il (s : List W) : oLen [.il s] G Q = Q (.int s.length) G := by simp [oLen, sqOf, lstOf]
theorem oLen_sc (s : List Int) : oLen [.sc s] G Q = Q (.int s.length) G := by simp [oLen, sqOf, lstOf]
theorem oLen_ref (p : Addr) (xs : List W) (h : G p = some (.lst xs)) : oLen [.ref p] G Q = Q (.int xs.length) G := by simp [oLen, sqOf, lstOf, h]
theorem oI_int (C : Int → Int → Prop) (g : Int → Int → Int) (i j : Int) : oI C g (.int i) (.int j) G Q = (C i j ∧ Q (.int (g i j)) G) := rfl
theorem oC_int (p : Int → Int → Bool) (i j : Int) : oC p (.int i) (.int j) G Q = Q (.bl (p i j)) G := rfl
theorem oAdd_int (i j : Int) : oAdd (.int i) (.int j) G Q = Q (.int (i + j)) G := rfl
theorem oAdd_str (s t : List Nat) : oAdd (.str s) (.str t) G Q = (s.length + t.length ≤ 16777216 ∧ Q (.str (s ++ t)) G) := rfl
theorem oAdd_tup (s t : List W) : oAdd (.tup s) (.tup t) G Q = (s.length + t.length ≤ 16777216 ∧ Q (.tup (s ++ t)) G) := rfl
theorem oAdd_il (s t : List W) : oAdd (.il s) (.il t) G Q = (s.length + t.length ≤ 16777216 ∧ Q (.il (s ++ t)) G) := by simp [oAdd, lstOf, big]
theorem oNeg_int (i : Int) : oNeg (.int i) G Q = Q (.int (-i)) G := rfl
theorem oIx_sc (s : List Int) (i : Int) : oIx (.sc s) (.int i) G Q = ∃ n, atI s i = some n ∧ Q (.int n) G := by
  simp only [oIx, sqOf, Option.some.injEq]
  apply propext
  constructor
  · rintro ⟨ws, w, rfl, h, q⟩
    unfold L2.atI at h ⊢
    rw [List.length_map] at h
    cases e : ixN s.length i with
    | none => rw [e] at h; cases h
    | some j =>
      rw [e] at h
      simp only [Option.bind_some, List.getElem?_map, Option.map_eq_some_iff] at h ⊢
      obtain ⟨n, h1, rfl⟩ := h
      exact ⟨n, h1, q⟩
  · rintro ⟨n, h, q⟩
    refine ⟨_, _, rfl, ?_, q⟩
    unfold L2.atI at h ⊢
    rw [List.length_map]
    cases e : ixN s.length i with
    | none => rw [e] at h; cases h
    | some j =>
      rw [e] at h
      simp only [Option.bind_some, List.getElem?_map] at h ⊢
      rw [h] <;> rfl
theorem oIx_str (s : List Nat) (i : Int) : oIx (.str s) (.int i) G Q = (s.length ≤ 16777216 ∧ ∃ c, atI s i = some c ∧ Q (.str [c]) G) := rfl
theorem oIx_tup (s : List W) (i : Int) : oIx (.tup s) (.int i) G Q = ∃ w, atI s i = some w ∧ Q w G := rfl
theorem oIx_il (s : List W) (i : Int) : oIx (.il s) (.int i) G Q = ∃ w, atI s i = some w ∧ Q w G := by simp [oIx, sqOf, lstOf]
theorem oIx_ref (p : Addr) (s : List W) (i : Int) (h : G p = some (.lst s)) : oIx (.ref p) (.int i) G Q = ∃ w, atI s i = some w ∧ Q w G := by simp [oIx, sqOf, lstOf, h]
theorem oSl_str (s : List Nat) (lo hi : Option Int) : oSl (.str s) lo hi G Q = (s.length ≤ 16777216 ∧ Q (.str (cutL s lo hi)) G) := rfl
theorem oSl_tup (s : List W) (lo hi : Option Int) : oSl (.tup s) lo hi G Q = Q (.tup (cutL s lo hi)) G := rfl
theorem oSl_il (s : List W) (lo hi : Option Int) : oSl (.il s) lo hi G Q = Q (.il (cutL s lo hi)) G := by simp [oSl, sqOf, lstOf]
theorem cutL_map {α β : Type} (f : α → β) (s : List α) (lo hi : Option Int) : cutL (s.map f) lo hi = (cutL s lo hi).map f := by
  unfold cutL
  rw [List.length_map, List.map_take, List.map_drop]
theorem oSl_sc (s : List Int) (lo hi : Option Int) : oSl (.sc s) lo hi G Q = Q (.il ((cutL s lo hi).map W.int)) G := by
  simp [oSl, sqOf, cutL_map]
theorem oEq_scl {x y : W} {k : Bool} (h : sclW x y = some k) : oEq x y G Q = Q (.bl k) G := by unfold oEq; rw [h]
theorem oEq_int (i j : Int) : oEq (.int i) (.int j) G Q = Q (.bl (decide (i = j))) G := rfl
theorem oEq_str (i j : List Nat) : oEq (.str i) (.str j) G Q = Q (.bl (decide (i = j))) G := rfl
theorem oEq_bl (i j : Bool) : oEq (.bl i) (.bl j) G Q = Q (.bl (decide (i = j))) G := rfl
theorem oNe_int (i j : Int) : oNe (.int i) (.int j) G Q = Q (.bl (!decide (i = j))) G := rfl
theorem oNe_str (i j : List Nat) : oNe (.str i) (.str j) G Q = Q (.bl (!decide (i = j))) G := rfl
theorem oNe_bl (i j : Bool) : oNe (.bl i) (.bl j) G Q = Q (.bl (!decide (i = j))) G := rfl
theorem oNe_nonint (j : Int) : oNe .non (.int j) G Q = Q (.bl true) G := rfl
theorem oNe_intnon (j : Int) : oNe (.int j) .non G Q = Q (.bl true) G := rfl
theorem oIn_sign (c : Nat) (t : List Nat) : oIn (.str [c]) (.str t) G Q = Q (.bl (decide (c ∈ t))) G := by
  simp only [oIn, inW, List.cons.injEq, and_true]
  apply propext
  exact ⟨fun ⟨d, e, q⟩ => by subst e; exact q, fun q => ⟨c, rfl, q⟩⟩
theorem oNotIn_sign (c : Nat) (t : List Nat) : oNotIn (.str [c]) (.str t) G Q = Q (.bl (!decide (c ∈ t))) G := by
  simp only [oNotIn, inW, List.cons.injEq, and_true]
  apply propext
  exact ⟨fun ⟨d, e, q⟩ => by subst e; exact q, fun q => ⟨c, rfl, q⟩⟩
theorem oStr_int (i : Int) : oStr [.int i] G Q = (i.natAbs.log2 < 1920 ∧ Q (.str (strI i)) G) := rfl
theorem oInt_int (i : Int) : oInt [.int i] G Q = Q (.int i) G := rfl
theorem oInt_bl (k : Bool) : oInt [.bl k] G Q = Q (.int (if k then 1 else 0)) G := rfl
theorem oMax2_int (i j : Int) : oMax2 [.int i, .int j] G Q = Q (.int (if j > i then j else i)) G := rfl
theorem oMin2_int (i j : Int) : oMin2 [.int i, .int j] G Q = Q (.int (if j < i then j else i)) G := rfl
theorem kit_ii : kitB "int" "int" = some true := by decide +kernel
theorem kit_ib : kitB "int" "bool" = some false := by decide +kernel
theorem kit_bb : kitB "bool" "bool" = some true := by decide +kernel
theorem kit_bi : kitB "bool" "int" = some true := by decide +kernel
theorem kit_ss : kitB "str" "str" = some true := by decide +kernel
theorem kit_ll : kitB "list" "list" = some true := by decide +kernel
theorem kit_dd : kitB "dict" "dict" = some true := by decide +kernel
theorem kit_tt : kitB "tuple" "tuple" = some true := by decide +kernel
theorem kit_ni : kitB "NoneType" "int" = some false := by decide +kernel
theorem oIsi_ii (i : Int) : oIsi [.int i, .ty "int"] G Q = Q (.bl true) G := by simp [oIsi, tyN, kit_ii]
theorem oIsi_ib (i : Int) : oIsi [.int i, .ty "bool"] G Q = Q (.bl false) G := by simp [oIsi, tyN, kit_ib]
theorem oIsi_bb (i : Bool) : oIsi [.bl i, .ty "bool"] G Q = Q (.bl true) G := by simp [oIsi, tyN, kit_bb]
theorem oIsi_bi (i : Bool) : oIsi [.bl i, .ty "int"] G Q = Q (.bl true) G := by simp [oIsi, tyN, kit_bi]
theorem oIsi_ss (i : List Nat) : oIsi [.str i, .ty "str"] G Q = Q (.bl true) G := by simp [oIsi, tyN, kit_ss]
theorem oIsi_ll (i : List W) : oIsi [.il i, .ty "list"] G Q = Q (.bl true) G := by simp [oIsi, tyN, kit_ll]
theorem oIsi_tt (i : List W) : oIsi [.tup i, .ty "tuple"] G Q = Q (.bl true) G := by simp [oIsi, kit_tt]
theorem oIsi_ni : oIsi [.non, .ty "int"] G Q = Q (.bl false) G := by simp [oIsi, tyN, kit_ni]
theorem oIsi_rl (p : Addr) (xs : List W) (h : G p = some (.lst xs)) : oIsi [.ref p, .ty "list"] G Q = Q (.bl true) G := by simp [oIsi, tyN, h, kit_ll]
theorem ite_bool {c : Bool} {A B : Prop} : (if c = true then A else B) = ((c = true → A) ∧ (c = false → B)) := by
  cases c <;> simp
end
/-- the letters, the figures -/
def LET : List Nat := [97, 98, 99, 100, 101, 102, 103, 104, 105, 106, 107, 108, 109, 110, 111, 112, 113, 114, 115, 116, 117, 118, 119, 120, 121, 122]
def FIG : List Nat := [48, 49, 50, 51, 52, 53, 54, 55, 56, 57]
theorem LET_len : LET.length = 26 := rfl
theorem FIG_len : FIG.length = 10 := rfl
theorem LET_mem {c : Nat} : c ∈ LET ↔ 97 ≤ c ∧ c ≤ 122 := by simp only [LET, List.mem_cons, List.not_mem_nil, or_false]; omega
theorem FIG_mem {c : Nat} : c ∈ FIG ↔ 48 ≤ c ∧ c ≤ 57 := by simp only [FIG, List.mem_cons, List.not_mem_nil, or_false]; omega
def allIn (t s : List Nat) : Bool := s.all fun c => decide (c ∈ t)
theorem allIn_nil (t : List Nat) : allIn t [] = true := rfl
theorem allIn_snoc (t s : List Nat) (c : Nat) : allIn t (s ++ [c]) = (allIn t s && decide (c ∈ t)) := by simp [allIn]
theorem allIn_not {t s : List Nat} {c : Nat} (h : c ∈ s) (h' : c ∉ t) : allIn t s = false := by
  rw [allIn, List.all_eq_false]
  exact ⟨c, h, by simpa using h'⟩
theorem allIn_take {t s : List Nat} {i c : Nat} (h : s[i]? = some c) : allIn t (s.take (i + 1)) = (allIn t (s.take i) && decide (c ∈ t)) := by
  rw [List.take_add_one, h, Option.toList_some, allIn_snoc]
theorem allIn_iff {t s : List Nat} : allIn t s = true ↔ ∀ c ∈ s, c ∈ t := by simp [allIn]
/-- an index in bounds -/
theorem atI_in {α : Type} {xs : List α} {i : Int} (h0 : 0 ≤ i) (h1 : i < xs.length) : ∃ v, atI xs i = some v ∧ v ∈ xs := by
  have hi : i.toNat < xs.length := by omega
  have e := atI_nat (List.getElem?_eq_getElem hi)
  rw [show ((i.toNat : Nat) : Int) = i by omega] at e
  exact ⟨_, e, List.getElem_mem hi⟩
theorem len_cut {α : Type} (s : List α) (lo hi : Option Int) : (cutL s lo hi).length ≤ s.length := by
  unfold cutL
  rw [List.length_take, List.length_drop]
  omega
theorem cut_head {α : Type} (s : List α) (n : Nat) : cutL s none (some (n : Int)) = s.take n := by
  unfold cutL
  rw [HT.sIx_nat, HT.sIx_none, List.drop_zero, Nat.sub_zero]
  rcases Nat.le_total n s.length with h | h
  · rw [Nat.min_eq_left h]
  · rw [Nat.min_eq_right h, List.take_length, List.take_of_length_le h]
theorem cut_tail {α : Type} (s : List α) (n : Nat) : cutL s (some (n : Int)) none = s.drop n := by
  unfold cutL
  rw [HT.sIx_nat, HT.sIx_none]
  rcases Nat.le_total n s.length with h | h
  · rw [Nat.min_eq_left h, List.take_of_length_le (by rw [List.length_drop]; omega)]
  · rw [Nat.min_eq_right h, Nat.sub_self, List.take_zero, List.drop_eq_nil_of_le h]
end Lw
/-! W8: classes, instances, methods. -/
namespace Lw
open PySem PySem.Spec PyProof.Rows L2

/-! ### fields -/
section
variable {P : Par} {X : Cx} {G G' : WHp} {H H' : Hp}
theorem RelFs.get {t : Nat} : ∀ {fs : List (Nat × W)} {fv : List (Str × V)} {w : W}, RelFs P G H fs fv → fs.lookup t = some w → ∃ v, fv.lookup (P.fn t) = some v ∧ RelW P G H w v
  | _, _, w, .nil, e => by cases e
  | _, _, w, .cons u w' v ws vs h r, e => by
    rw [List.lookup_cons] at e
    by_cases q : t = u
    · subst q
      simp only [beq_self_eq_true] at e
      cases e
      exact ⟨v, by simp [List.lookup_cons], h⟩
    · have q1 : (t == u) = false := by simpa using q
      rw [q1] at e
      obtain ⟨v', h1, h2⟩ := RelFs.get r e
      refine ⟨v', ?_, h2⟩
      have q2 : (P.fn t == P.fn u) = false := by simpa using fun z => q (P.inj _ _ z)
      rw [List.lookup_cons, q2]
      exact h1
theorem RelFs.none {t : Nat} : ∀ {fs : List (Nat × W)} {fv : List (Str × V)}, RelFs P G H fs fv → fs.lookup t = none → fv.lookup (P.fn t) = none
  | _, _, .nil, e => rfl
  | _, _, .cons u w' v ws vs h r, e => by
    rw [List.lookup_cons] at e
    by_cases q : t = u
    · subst q
      simp at e
    · have q1 : (t == u) = false := by simpa using q
      rw [q1] at e
      have q2 : (P.fn t == P.fn u) = false := by simpa using fun z => q (P.inj _ _ z)
      rw [List.lookup_cons, q2]
      exact RelFs.none r e
theorem RelFs.length : ∀ {fs : List (Nat × W)} {fv : List (Str × V)}, RelFs P G H fs fv → fs.length = fv.length
  | _, _, .nil => rfl
  | _, _, .cons u w' v ws vs h r => by simp [RelFs.length r]
def putW (t : Nat) (w : W) : List (Nat × W) → List (Nat × W)
  | [] => [(t, w)]
  | (u, x) :: r => if u = t then (u, w) :: r else (u, x) :: putW t w r
theorem RelFs.put {t : Nat} {w : W} {v : V} (hv : RelW P G H w v) : ∀ {fs : List (Nat × W)} {fv : List (Str × V)}, RelFs P G H fs fv → RelFs P G H (putW t w fs) (putF (P.fn t) v fv)
  | _, _, .nil => .cons t w v _ _ hv .nil
  | _, _, .cons u w' v' ws vs h r => by
    show RelFs P G H (if u = t then (u, w) :: ws else (u, w') :: putW t w ws) (if P.fn u = P.fn t then (P.fn u, v) :: vs else (P.fn u, v') :: putF (P.fn t) v vs)
    by_cases q : u = t
    · rw [if_pos q, if_pos (by rw [q])]
      exact .cons u w v _ _ hv r
    · rw [if_neg q, if_neg fun z => q (P.inj _ _ z)]
      exact .cons u w' v' _ _ h (RelFs.put hv r)
/-- an instance, as one reads it -/
def objOf (G : WHp) : W → Option (Nat × List (Nat × W))
  | .io c fs => some (c, fs)
  | .ref p => match G p with
    | some (.obj c fs) => some (c, fs)
    | _ => none
  | _ => none
theorem objOf_rel (rp : Rep P G H) {w : W} {v : V} {c : Nat} {fs : List (Nat × W)} (r : RelW P G H w v) (e : objOf G w = some (c, fs)) : ∃ a dx fv, v = .ref a ∧ H a = some (.ins (P.ca c) dx fv) ∧ RelFs P G H fs fv ∧ P.cf c := by
  cases r with
  | io a dx c' fv fs' h g rs => cases e; exact ⟨a, dx, fv, rfl, h, rs, g.2⟩
  | ref a =>
    dsimp only [objOf] at e
    cases q : G a with
    | none => rw [q] at e; cases e
    | some o =>
      rw [q] at e
      cases o with
      | obj c' fs' =>
        cases e
        obtain ⟨dx, fv, h, rs, k⟩ := rp a _ q
        exact ⟨a, dx, fv, rfl, h, rs, k⟩
      | dct _ => cases e
      | lst _ => cases e
      | fz _ _ _ => cases e
      | xd _ => cases e
      | bd _ => cases e
      | td _ => cases e
      | tab => cases e
  | non => cases e
  | bl b => cases e
  | int i => cases e
  | str s => cases e
  | ty n => cases e
  | sc a ns h => cases e
  | tup a vs ws h rs => cases e
  | il a vs ws h rs => cases e
  | dk a kv kvs h g rs => cases e
  | clo a c cd l xs h1 h2 h3 g h => cases e
variable {o e : Expr} {es : List Expr} {to te : WTE} {ta : WTA} {x : Str} {p pos apos p1 p2 : Pos}
/-- o.f -/
def wFld (t : Nat) (to : WTE) : WTE := fun σ G Q E => to σ G (fun x G1 => ∃ c fs w, objOf G1 x = some (c, fs) ∧ t < NF ∧ fs.lookup t = some w ∧ Q w G1) E
theorem je_fld {f : Str} (t : Nat) (hf : P.fn t = f) (hK : X.K = P.K) (ho : JE P X o to) (hb : attributeBase o f X.env (eval o X.env) = eval o X.env := by rfl) : JE P X (.Attribute o f pos) (wFld t to) := fun Ga Ha Ew tk =>
  PE.imp (pe_fld (ho Ga Ha Ew tk) hb) fun σ H Q ⟨σw, G, Qw, fa, rs, rp, ht, hq⟩ => ⟨σw, G, _, fa, rs, rp, ht, fun w G1 v H1 f1 r1 p1 ⟨c, fs, w2, e1, hn, e2, q⟩ => by
    obtain ⟨a, dx, fv, rfl, h, rf, k⟩ := objOf_rel p1 r1 e1
    obtain ⟨v2, l, r2⟩ := rf.get e2
    subst hf
    exact ⟨a, _, dx, fv, v2, rfl, h, by rw [hK]; exact k.1, by rw [hK]; exact k.2 t hn, l, hq w2 G1 v2 H1 f1 r2 p1 q⟩⟩
/-- o.f = e -/
def wFldSet (t : Nat) (to te : WTE) : WTS := fun D σ G E => te σ G (fun y G1 => to σ G1 (fun x G2 => ∃ p c fs, x = .ref p ∧ G2 p = some (.obj c fs) ∧ t < NF ∧ fs.length < 1000 ∧ D.nx σ (updG G2 p (.obj c (putW t y fs)))) E) E
theorem js_fld {f : Str} {pos' : Pos} (t : Nat) (hf : P.fn t = f) (hK : X.K = P.K) (ho : JE P X o to) (he : JE P X e te) (hs : swapsWith e (some (.Attribute o f pos')) pos.line X.env = pure false := by rfl) : JS P X (.Assign [.Attribute o f pos'] e pos) (wFldSet t to te) := fun Ga Ha Ew tk =>
  PS.imp (ps_fld (ho Ga Ha Ew tk) (he Ga Ha Ew tk) hs) fun D σ H ⟨σw, G, Dw, fa, rs, rp, ht, h1, h2, h3, h4⟩ => ⟨σw, G, _, fa, rs, rp, ht, fun y G1 v H1 f1 r1 p1 q1 => ⟨σw, G1, _, fa.trans f1, rs.fw rp f1, p1, q1, fun w G2 v2 H2 f2 r2 p2 ⟨p, c, fs, e1, e2, hn, hl, q⟩ => by
    subst e1
    cases r2
    obtain ⟨dx, fv, h, rf, k⟩ := p2 p _ e2
    subst hf
    refine ⟨p, _, dx, fv, rfl, h, by rw [hK]; exact k.1, by rw [hK]; exact k.2 t hn, by rw [← rf.length]; exact hl, ?_⟩
    have f3 : Fw G2 H2 (updG G2 p (.obj c (putW t y fs))) (upd H2 p (.ins (P.ca c) dx (putF (P.fn t) v fv))) := .put e2
    exact h1 σw _ σ _ (f1.trans (f2.trans f3)) (((rs.fw rp f1).fw p1 f2).fw p2 f3) (p2.put (u := .obj c (putW t y fs)) f3 ⟨dx, _, upd_same, ((RelFs.put (r1.fw p1 f2) rf).fw p2 f3), k⟩) q⟩⟩

/-! ### calls of a name, whatever it holds -/
/-- C(..) -/
def wMake (c : Nat) (sp : WSp) (t : WTA) : WTE := fun σ G Q E => t σ G (fun ws G1 => ∀ p, G1 p = none → sp (.ref p :: ws) (updG G1 p (.obj c [])) (fun v G2 => v = .non ∧ Q (.ref p) G2) fun x G2 => E x σ G2) E
/-- a class whose instances are made, and its __init__ -/
def MakeOk (P : Par) (prog : Program) (w : World) (mg : Str → Option Value) (base : Heap) (x : Str) (c : Nat) (k : Nat) (sp : WSp) : Prop :=
  ∃ (f : Addr) (fd : FuncData) (ps : List Str), Mk P.K (P.ca c) f ∧ FnW P prog w mg base k f fd ps sp ∧ mg x = some (.ref (P.ca c)) ∧ P.cf c ∧ Binds P.K fd ps []
theorem run_makeD {f C : Addr} {fd : FuncData} {ps : List Str} {sp : Sp} {CX : CXT} {k : Nat} {E : XK} {pins : List (Addr × Obj)} {σ : L2.St} {H : Hp} {s : Shared} {Q : VK} {us : List Value} {vs : List V} (M : Mk X.K C f) (F : FnOk X.prog X.w X.K X.mg X.base CX k f fd ps sp) (hr : Room (k + 1) X.A) (hb : Binds X.K fd ps [])
    (hx : PassesAt CX X σ E) (I : Inv X pins σ H s) (r : Vals vs us)
    (h : ∀ x dx, H x = none → H dx = none → dx ≠ x → sp (.ref x :: vs) (upd (upd H dx (.own x)) x (.ins C dx [])) (fun v H2 => v = .non ∧ Q (.ref x) H2) E) :
    wpAny (model X.prog X.w) X.A (call (.ref C) us) (EP X pins σ Q) X.xe s := by
  have hq := h (s.heap.objs.size + 1) s.heap.objs.size (I.hok.fresh (Nat.le_succ _)) (I.hok.fresh (Nat.le_refl _)) (Nat.ne_of_lt (Nat.lt_succ_self _))
  have I2 := Inv.made (C := C) I
  have r2 : Vals (V.ref (s.heap.objs.size + 1) :: vs) (Value.ref (s.heap.objs.size + 1) :: us) := .cons rfl r
  have hl : (Value.ref (s.heap.objs.size + 1) :: us).length = ps.length := by
    have e := r2.length
    rw [F.len _ _ _ _ hq] at e
    exact e.symm
  have b := hb { s with heap := (s.heap.push _).push _ } (Value.ref (s.heap.objs.size + 1) :: us) I2.kIn (by rw [List.append_nil]; exact hl)
  rw [List.append_nil] at b
  refine wpAny_call (make_map (f := f) I.kIn M.makes M.init (beq_iff_eq.mp M.fn) (codeAny_mono (F.run _ X.stack _ _ ⟨Value.ref (s.heap.objs.size + 1) :: us, []⟩ (Value.ref (s.heap.objs.size + 1) :: us) _ _ E (hr.make C us [])
    (I2.env0.make C us []) b r2 hq) fun r s' hq' => ?_))
  cases r with
  | error e => exact hx pins _ _ e s' I2 hq'
  | ok fl =>
    cases fl with
    | ret u =>
      obtain ⟨v, H', I3, rv, ev, q3⟩ := I2.after hq'
      subst ev
      exact ⟨rv, ⟨V.ref (s.heap.objs.size + 1), H', I3, rfl, q3⟩⟩
    | next => exact False.elim hq'
    | brk => exact False.elim hq'
    | cont => exact False.elim hq'
def tMakeD (C : Addr) (sp : Sp) (E : L2.St → XK) (t : TA) : TE := fun σ H Q => t σ H fun vs H1 => ∀ x dx, H1 x = none → H1 dx = none → dx ≠ x → sp (.ref x :: vs) (upd (upd H1 dx (.own x)) x (.ins C dx [])) (fun v H2 => v = .non ∧ Q (.ref x) H2) (E σ)
theorem pe_makeD {f C : Addr} {fd : FuncData} {ps : List Str} {sp : Sp} {CX : CXT} {k : Nat} {E : L2.St → XK} {t : TA} (M : Mk X.K C f) (F : FnOk X.prog X.w X.K X.mg X.base CX k f fd ps sp) (hr : Room (k + 1) X.A) (hg : Gl X x) (hm : X.mg x = some (.ref C)) (hb : Binds X.K fd ps []) (hx : ∀ σ, PassesAt CX X σ (E σ))
    (ha : PA X (e :: es) t) (hdb : (x == ("__debug__" : Str)) = false := by decide) (he : starEach (e :: es) X.env = (false, eval e X.env) :: starEach es X.env := by rfl) (hpl : (backTo pos (starEach es X.env)).any (·.1) = false := by rfl) :
    PE X (.Call (.Name x p) (e :: es) [] pos) (tMakeD C sp E t) := by
  refine ⟨fun pins s σ H Q I h => ?_⟩
  refine wpAny_Call_Name_kw (ld_glob I hg hm ?_ hdb)
  refine PySem.W.callWith_K (h₀ := X.base) I.ok.mod.kin M.kp (thn (ha.run pos pins s σ H _ I h) fun us s1 ⟨vs, H1, I1, r, q⟩ => ⟨I1.kIn, ?_⟩) he hpl
  exact run_makeD M F hr hb (hx σ) I1 r q
theorem je_make {c k : Nat} {sp : WSp} (C : MakeOk P X.prog X.w X.mg X.base x c k sp) (hr : Room (k + 1) X.A) (hg : Gl X x) (ha : JA P X (e :: es) ta) (hK : X.K = P.K := by rfl) (hdb : (x == ("__debug__" : Str)) = false := by decide) (he : starEach (e :: es) X.env = (false, eval e X.env) :: starEach es X.env := by rfl) (hpl : (backTo pos (starEach es X.env)).any (·.1) = false := by rfl) :
    JE P X (.Call (.Name x p) (e :: es) [] pos) (wMake c sp ta) := fun Ga Ha Ew tk => by
  obtain ⟨f, fd, ps, M, F, hm, hc, hb⟩ := C
  refine PE.imp (pe_makeD (E := fun σ cls d H' => embX P Ga Ha Ew cls d σ H') (by rw [hK]; exact M) (by rw [hK]; exact F) hr hg hm (by rw [hK]; exact hb) (fun σ => passW tk σ) (ha Ga Ha Ew tk) hdb he hpl) fun σ H Q ⟨σw, G, Qw, fa, rs, rp, ht, hq⟩ => ⟨σw, G, _, fa, rs, rp, ht, fun ws G1 vs H1 f1 r1 p1 q1 => ?_⟩
  intro a dx na ndx ne
  have e1 : upd H1 dx (.own a) a = none := by rw [upd_ne (Ne.symm ne)]; exact na
  have f2 : Fw G1 H1 G1 (upd H1 dx (.own a)) := .hid ndx
  have p2 := p1.hid (o := .own a) ndx
  have f3 : Fw G1 (upd H1 dx (.own a)) (updG G1 a (.obj c [])) (upd (upd H1 dx (.own a)) a (.ins (P.ca c) dx [])) := .new e1
  have p3 := p2.put (u := .obj c []) f3 ⟨dx, [], upd_same, .nil, hc⟩
  refine ⟨.ref a :: ws, _, _, _, .cons _ _ _ _ (.ref a) ((r1.fw p1 f2).fw p2 f3), p3, q1 a (p1.free na), fun w G2 v H2 f4 r4 p4 ⟨ev, q⟩ => ?_, fun c' fs G2 d H2 f4 p4 ed q => ?_⟩
  · subst ev
    cases r4
    exact ⟨rfl, hq _ G2 _ H2 (f1.trans (f2.trans (f3.trans f4))) (.ref a) p4 q⟩
  · exact ⟨c', fs, σw, G2, rfl, fa.trans (f1.trans (f2.trans (f3.trans f4))), ((rs.fw rp f1).fw p1 f2 |>.fw p2 f3).fw p3 f4, p4, ed, q⟩

/-! ### methods: by the class of the instance -/
/-- what a method promises, by the class's number -/
abbrev WMt := Nat → WSp
def MethOk (P : Par) (prog : Program) (w : World) (mg : Str → Option Value) (base : Heap) (t : Nat) (k : Nat) (c : Nat) (sp : WSp) : Prop :=
  ∃ (f : Addr) (fd : FuncData) (ps : List Str), Meth P.K (P.ca c) (P.fn t) f ∧ FnW P prog w mg base k f fd ps sp ∧ Binds P.K fd ps []
def wMeth (t : Nat) (mt : WMt) (cs : List Nat) (to : WTE) (ta : WTA) : WTE := fun σ G Q E => to σ G (fun x G1 => ∃ c fs, objOf G1 x = some (c, fs) ∧ c ∈ cs ∧ fs.lookup t = none ∧ ta σ G1 (fun ws G2 => mt c (x :: ws) G2 Q fun y G2 => E y σ G2) E) E
theorem run_meth {f : Addr} {fd : FuncData} {ps : List Str} {sp : Sp} {CX : CXT} {k : Nat} {E : XK} {pins : List (Addr × Obj)} {σ : L2.St} {H : Hp} {s : Shared} {Q : VK} {us : List Value} {vs : List V} (F : FnOk X.prog X.w X.K X.mg X.base CX k f fd ps sp) (hr : Room k X.A) (hb : Binds X.K fd ps []) (hx : PassesAt CX X σ E)
    (I : Inv X pins σ H s) (r : Vals vs us) (h : sp vs H Q E) : wpAny (model X.prog X.w) X.A (call (.ref f) us) (EP X pins σ Q) X.xe s :=
  run_fnS (E := fun _ => E) F hr hb hx I r h
theorem je_meth {t k : Nat} {mt : WMt} {cs : List Nat} {m : Str} {pl : Sem Bool} (hf : P.fn t = m) (C : ∀ c ∈ cs, MethOk P X.prog X.w X.mg X.base t k c (mt c)) (hr : Room k X.A) (ho : JE P X o to) (ha : JA P X (e :: es) ta) (hK : X.K = P.K := by rfl)
    (hst : starEach (e :: es) X.env = (false, eval e X.env) :: starEach es X.env := by rfl) (hpl : (backTo pos (starEach es X.env)).any (·.1) = false := by rfl)
    (ht : eval (.Call (.Attribute o m apos) (e :: es) [] pos) X.env = (do
      let ov ← eval o X.env
      standAt apos.atName
      let (f, first) ← holding [ov] (getMethod ov m pl)
      callWith pos f first (backTo pos (starEach (e :: es) X.env)) (backToKw pos (keywordEach [] X.env))) := by rfl) :
    JE P X (.Call (.Attribute o m apos) (e :: es) [] pos) (wMeth t mt cs to ta) := fun Ga Ha Ew tk => by
  refine ⟨fun pins s σ H Q I ⟨σw, G, Qw, fa, rs, rp, hh, hq⟩ => ?_⟩
  refine PySem.W.methodCall_KW (pl := pl) (thn ((ho Ga Ha Ew tk).run pins s σ H (fun v H1 => ∃ w G1, Fw G H G1 H1 ∧ RelW P G1 H1 w v ∧ Rep P G1 H1 ∧ _) I ⟨σw, G, _, fa, rs, rp, hh, fun w G1 v H1 f1 r1 p1 q1 => ⟨w, G1, f1, r1, p1, q1⟩⟩) fun u s1 ⟨x, H1, I1, rx, w, G1, f1, r1, p1, c, fs, e1, hc, e2, q⟩ => ?_) ht
  obtain ⟨a, dx, fv, rfl, h, rf, k1⟩ := objOf_rel p1 r1 e1
  obtain rfl : u = Value.ref a := rx
  obtain ⟨f, fd, ps, hm, F, hb⟩ := C c hc
  subst hf
  have hm' : Meth X.K (P.ca c) (P.fn t) f := by rw [hK]; exact hm
  refine getmeth_ok I1 h (by rw [hK]; exact k1.1) hm' (rf.none e2) ?_
  refine PySem.W.callWith_K (first := [.ref a]) (h₀ := X.base) I.ok.mod.kin hm'.kp (thn ((ha Ga Ha Ew tk).run pos pins s1 σ H1 (fun vs H2 => ∃ ws G2, Fw G1 H1 G2 H2 ∧ RelWs P G2 H2 ws vs ∧ Rep P G2 H2 ∧ _) I1 ⟨σw, G1, _, fa.trans f1, rs.fw rp f1, p1, q, fun ws G2 vs H2 f2 r2 p2 q2 => ⟨ws, G2, f2, r2, p2, q2⟩⟩) fun us s2 ⟨vs, H2, I2, rv, ws, G2, f2, r2, p2, q2⟩ => ⟨I2.kIn, ?_⟩) hst hpl
  refine run_meth (E := fun cls d H' => embX P Ga Ha Ew cls d σ H') (us := .ref a :: us) (vs := .ref a :: vs) (sp := embSp P (mt c)) (by rw [hK]; exact F) hr (by rw [hK]; exact hb) (passW tk σ) I2 (.cons rfl rv) ?_
  exact ⟨w :: ws, G2, Qw, _, .cons _ _ _ _ (r1.fw p1 f2) r2, p2, q2, fun w3 G3 v H3 f3 r3 p3 q3 => hq w3 G3 v H3 (f1.trans (f2.trans f3)) r3 p3 q3, fun c' fs' G3 d H3 f3 p3 ed q3 => ⟨c', fs', σw, G3, rfl, fa.trans (f1.trans (f2.trans f3)), (((rs.fw rp f1).fw p1 f2).fw p2 f3), p3, ed, q3⟩⟩
theorem je_meth0 {t k : Nat} {mt : WMt} {cs : List Nat} {m : Str} {pl : Sem Bool} (hf : P.fn t = m) (C : ∀ c ∈ cs, MethOk P X.prog X.w X.mg X.base t k c (mt c)) (hr : Room k X.A) (ho : JE P X o to) (hK : X.K = P.K := by rfl)
    (ht : eval (.Call (.Attribute o m apos) [] [] pos) X.env = (do
      let ov ← eval o X.env
      standAt apos.atName
      let (f, first) ← holding [ov] (getMethod ov m pl)
      callWith pos f first (backTo pos (starEach [] X.env)) (backToKw pos (keywordEach [] X.env))) := by rfl) :
    JE P X (.Call (.Attribute o m apos) [] [] pos) (wMeth t mt cs to wNil) := fun Ga Ha Ew tk => by
  refine ⟨fun pins s σ H Q I ⟨σw, G, Qw, fa, rs, rp, hh, hq⟩ => ?_⟩
  refine PySem.W.methodCall_KW (pl := pl) (thn ((ho Ga Ha Ew tk).run pins s σ H (fun v H1 => ∃ w G1, Fw G H G1 H1 ∧ RelW P G1 H1 w v ∧ Rep P G1 H1 ∧ _) I ⟨σw, G, _, fa, rs, rp, hh, fun w G1 v H1 f1 r1 p1 q1 => ⟨w, G1, f1, r1, p1, q1⟩⟩) fun u s1 ⟨x, H1, I1, rx, w, G1, f1, r1, p1, c, fs, e1, hc, e2, q⟩ => ?_) ht
  obtain ⟨a, dx, fv, rfl, h, rf, k1⟩ := objOf_rel p1 r1 e1
  obtain rfl : u = Value.ref a := rx
  obtain ⟨f, fd, ps, hm, F, hb⟩ := C c hc
  subst hf
  have hm' : Meth X.K (P.ca c) (P.fn t) f := by rw [hK]; exact hm
  refine getmeth_ok I1 h (by rw [hK]; exact k1.1) hm' (rf.none e2) ?_
  refine PySem.W.callWith_K0 (first := [.ref a]) I1.kIn hm'.kp ?_
  refine run_meth (E := fun cls d H' => embX P Ga Ha Ew cls d σ H') (us := [.ref a]) (vs := [.ref a]) (sp := embSp P (mt c)) (by rw [hK]; exact F) hr (by rw [hK]; exact hb) (passW tk σ) I1 (.cons rfl .nil) ?_
  exact ⟨[w], G1, Qw, _, .cons _ _ _ _ r1 .nil, p1, q, fun w3 G3 v H3 f3 r3 p3 q3 => hq w3 G3 v H3 (f1.trans f3) r3 p3 q3, fun c' fs' G3 d H3 f3 p3 ed q3 => ⟨c', fs', σw, G3, rfl, fa.trans (f1.trans f3), ((rs.fw rp f1).fw p1 f3), p3, ed, q3⟩⟩

/-! ### C.__init__(self, ..) -/
structure BaseI (K : PySem.W.Frag) (C : Addr) (v : Value) : Prop where
  rd : PySem.W.readsIn K C (.type "type") = true
  ga : PySem.W.specialIn K (.ref C) "__getattribute__" = some (some (.builtin "type.__getattribute__"))
  at_ : PySem.W.findCls K (.ref C) (.type "type") "__init__" = some (.val v)
def InitOk (P : Par) (prog : Program) (w : World) (mg : Str → Option Value) (base : Heap) (x : Str) (k : Nat) (sp : WSp) : Prop :=
  ∃ (C f : Addr) (fd : FuncData) (ps : List Str), BaseI P.K C (.ref f) ∧ PySem.W.keepIn P.K (.ref f) = true ∧ FnW P prog w mg base k f fd ps sp ∧ mg x = some (.ref C) ∧ Binds P.K fd ps []
theorem je_init {k : Nat} {sp : WSp} {pl : Sem Bool} (C : InitOk P X.prog X.w X.mg X.base x k sp) (hr : Room k X.A) (hg : Gl X x) (ha : JA P X (e :: es) ta) (hK : X.K = P.K := by rfl) (hdb : (x == ("__debug__" : Str)) = false := by decide)
    (he : starEach (e :: es) X.env = (false, eval e X.env) :: starEach es X.env := by rfl) (hpl : (backTo pos (starEach es X.env)).any (·.1) = false := by rfl)
    (hc : eval (.Call (.Attribute (.Name x p1) "__init__" p2) (e :: es) [] pos) X.env = (do
      let ov ← eval (.Name x p1) X.env
      standAt p2.atName
      let (f, first) ← holding [ov] (getMethod ov "__init__" pl)
      callWith pos f first (backTo pos (starEach (e :: es) X.env)) (backToKw pos (keywordEach [] X.env))) := by rfl) :
    JE P X (.Call (.Attribute (.Name x p1) "__init__" p2) (e :: es) [] pos) (wCall sp ta) := fun Ga Ha Ew tk => by
  obtain ⟨C, f, fd, ps, B, hk, F, hm, hb⟩ := C
  refine PE.imp (t := tCallSD (embSp P sp) [] (fun σ cls d H' => embX P Ga Ha Ew cls d σ H') (embA P Ga Ha Ew ta)) ⟨fun pins s σ H Q I h => ?_⟩ call_step
  refine PySem.W.methodCall_KW (ld_glob I hg hm ?_ hdb) hc
  refine PySem.W.method_cls I.kIn (by rw [hK]; exact B.ga) (PySem.W.cls_value I.kIn (by rw [hK]; exact B.rd) (by rw [hK]; exact B.at_) rfl ?_)
  refine PySem.W.callWith_K (h₀ := X.base) I.ok.mod.kin (by rw [hK]; exact hk) (thn ((ha Ga Ha Ew tk).run pos pins _ σ H _ (I.tok _) h) fun us s1 ⟨vs, H1, I1, r, q⟩ => ⟨I1.kIn, ?_⟩) he hpl
  have q : embSp P sp (vs ++ []) H1 Q fun cls d H' => embX P Ga Ha Ew cls d σ H' := q
  rw [List.append_nil] at q
  exact run_meth (E := fun cls d H' => embX P Ga Ha Ew cls d σ H') (sp := embSp P sp) (by rw [hK]; exact F) hr (by rw [hK]; exact hb) (passW tk σ) I1 r q
end
end Lw
/-! W9: dicts; things seen as values. -/
namespace Lw
open PySem PySem.Spec PyProof.Rows L2

/-! ### a thing seen as a value -/
def wView (te : WTE) : WTE := fun σ G Q E => te σ G (fun w G1 => ∃ w2 G2, View w G1 w2 G2 ∧ Q w2 G2) E
theorem je_view {P : Par} {X : Cx} {e : Expr} {te : WTE} (h : JE P X e te) : JE P X e (wView te) := fun Ga Ha Ew tk =>
  PE.imp (h Ga Ha Ew tk) fun σ H Q ⟨σw, G, Qw, fa, rs, rp, ht, hq⟩ => ⟨σw, G, _, fa, rs, rp, ht, fun w G1 v H1 f1 r1 p1 ⟨w2, G2, vw, q⟩ =>
    let ⟨r2, p2⟩ := vw.rel p1 r1
    hq w2 G2 v H1 (f1.sub vw.1) r2 p2 q⟩
theorem View.lst {G : WHp} {p : Addr} {xs : List W} (h : G p = some (.lst xs)) : View (.ref p) G (.il xs) (delG G p) := ⟨.del, .inl (.lst p xs h delG_same)⟩
theorem View.dct {G : WHp} {p : Addr} {xs : List (KW × W)} (h : G p = some (.dct xs)) : View (.ref p) G (.dk xs) (delG G p) := ⟨.del, .inl (.dct p xs h delG_same)⟩
theorem View.obj {G : WHp} {p : Addr} {c : Nat} {fs : List (Nat × W)} (h : G p = some (.obj c fs)) : View (.ref p) G (.io c fs) (delG G p) := ⟨.del, .inl (.obj p c fs h delG_same)⟩
/-- a new thing, seen as a value at once -/
theorem View.lstN {G : WHp} {p : Addr} {xs : List W} (h : G p = none) : View (.ref p) (updG G p (.lst xs)) (.il xs) G := by
  have v := View.lst (G := updG G p (.lst xs)) updG_same
  rwa [delG_updG h] at v
theorem View.dctN {G : WHp} {p : Addr} {xs : List (KW × W)} (h : G p = none) : View (.ref p) (updG G p (.dct xs)) (.dk xs) G := by
  have v := View.dct (G := updG G p (.dct xs)) updG_same
  rwa [delG_updG h] at v
theorem View.objN {G : WHp} {p : Addr} {c : Nat} {fs : List (Nat × W)} (h : G p = none) : View (.ref p) (updG G p (.obj c fs)) (.io c fs) G := by
  have v := View.obj (G := updG G p (.obj c fs)) updG_same
  rwa [delG_updG h] at v

/-! ### what a dict holds -/
def valW (kvs : List (KW × W)) (k : KW) : Option W := (kvs.find? fun kv => decide (kv.1 = k)).map (·.2)
def putKW (kvs : List (KW × W)) (k : KW) (v : W) : List (KW × W) :=
  if (kvs.any fun kv => decide (kv.1 = k)) = true then kvs.map (fun kv => if kv.1 = k then (kv.1, v) else kv) else kvs ++ [(k, v)]
def dropKW (kvs : List (KW × W)) (k : KW) : List (KW × W) := kvs.filter fun kv => decide (kv.1 ≠ k)
def mergeW (kvs more : List (KW × W)) : List (KW × W) := more.foldl (fun acc kv => putKW acc kv.1 kv.2) kvs
def keyW : KW → W
  | .inl i => .int i
  | .inr s => .str s
def kW : W → Option KW
  | .int i => some (.inl i)
  | .str s => some (.inr s)
  | _ => none
theorem kK_inj {k l : KW} (h : kK k = kK l) : k = l := by
  cases k with
  | inl i => cases l with
    | inl j => exact congrArg Sum.inl (Sum.inl.inj h)
    | inr s => cases h
  | inr s => cases l with
    | inl j => cases h
    | inr t => exact congrArg Sum.inr (S_inj (Sum.inr.inj h))
theorem kK_iff {k l : KW} : (kK k = kK l) = (k = l) := propext ⟨kK_inj, fun h => by rw [h]⟩
section
variable {P : Par} {X : Cx} {G G' : WHp} {H H' : Hp}
theorem kW_rel {w : W} {v : V} {k : KW} (r : RelW P G H w v) (e : kW w = some k) : v = kV (kK k) := by
  cases r <;> cases e <;> rfl
theorem keyW_rel (k : KW) : RelW P G H (keyW k) (kV (kK k)) := by
  cases k with
  | inl i => exact .int i
  | inr s => exact .str s
theorem RelKs.length : ∀ {ks : List (KW × W)} {kv : List (Key × V)}, RelKs P G H ks kv → ks.length = kv.length
  | _, _, .nil => rfl
  | _, _, .cons k w v ws vs h r => by simp [RelKs.length r]
theorem RelKs.any (k : KW) : ∀ {ks : List (KW × W)} {kv : List (Key × V)}, RelKs P G H ks kv → (ks.any fun p => decide (p.1 = k)) = (kv.any fun p => decide (p.1 = kK k))
  | _, _, .nil => rfl
  | _, _, .cons l w v ws vs h r => by
    rw [List.any_cons, List.any_cons, RelKs.any k r]
    congr 1
    exact decide_eq_decide.mpr (by rw [kK_iff])
theorem RelKs.val (k : KW) : ∀ {ks : List (KW × W)} {kv : List (Key × V)}, RelKs P G H ks kv →
    (valW ks k = none ∧ valV kv (kK k) = none) ∨ ∃ w v, valW ks k = some w ∧ valV kv (kK k) = some v ∧ RelW P G H w v
  | _, _, .nil => .inl ⟨rfl, rfl⟩
  | _, _, .cons l w v ws vs h r => by
    by_cases e : l = k
    · subst e
      exact .inr ⟨w, v, by simp [valW], by simp [valV], h⟩
    · have e2 : ¬ kK l = kK k := fun z => e (kK_inj z)
      have e3 : valW ((l, w) :: ws) k = valW ws k := by simp [valW, List.find?_cons, e]
      rw [e3, valV_neg (p := (kK l, v)) e2]
      exact RelKs.val k r
theorem RelKs.append : ∀ {ks ls : List (KW × W)} {kv lv : List (Key × V)}, RelKs P G H ks kv → RelKs P G H ls lv → RelKs P G H (ks ++ ls) (kv ++ lv)
  | _, _, _, _, .nil, s => s
  | _, _, _, _, .cons k w v ws vs h r, s => .cons k w v _ _ h (RelKs.append r s)
theorem RelKs.mapv {k : KW} {w : W} {v : V} (hv : RelW P G H w v) : ∀ {ks : List (KW × W)} {kv : List (Key × V)}, RelKs P G H ks kv →
    RelKs P G H (ks.map fun p => if p.1 = k then (p.1, w) else p) (kv.map fun p => if p.1 = kK k then (p.1, v) else p)
  | _, _, .nil => .nil
  | _, _, .cons l w' v' ws vs h r => by
    rw [List.map_cons, List.map_cons]
    by_cases e : l = k
    · subst e
      rw [if_pos rfl, if_pos rfl]
      exact .cons _ _ _ _ _ hv (RelKs.mapv hv r)
    · rw [if_neg e, if_neg fun z => e (kK_inj z)]
      exact .cons _ _ _ _ _ h (RelKs.mapv hv r)
theorem RelKs.put {k : KW} {w : W} {v : V} (hv : RelW P G H w v) {ks : List (KW × W)} {kv : List (Key × V)} (r : RelKs P G H ks kv) : RelKs P G H (putKW ks k w) (putK kv (kK k) v) := by
  unfold putKW putK
  rw [r.any k]
  split
  · exact r.mapv hv
  · exact r.append (.cons k w v _ _ hv .nil)
theorem RelKs.drop {k : KW} : ∀ {ks : List (KW × W)} {kv : List (Key × V)}, RelKs P G H ks kv → RelKs P G H (dropKW ks k) (dropK kv (kK k))
  | _, _, .nil => .nil
  | _, _, .cons l w v ws vs h r => by
    have ih := RelKs.drop (k := k) r
    unfold dropKW dropK at ih ⊢
    by_cases e : l = k
    · subst e
      simpa using ih
    · have e2 : ¬ kK l = kK k := fun z => e (kK_inj z)
      rw [List.filter_cons_of_pos (by simpa using e), List.filter_cons_of_pos (by simpa using e2)]
      exact .cons _ _ _ _ _ h ih
theorem RelKs.merge : ∀ {ms ks : List (KW × W)} {mv kv : List (Key × V)}, RelKs P G H ms mv → RelKs P G H ks kv → RelKs P G H (mergeW ks ms) (mergeK kv mv)
  | _, _, _, _, .nil, s => s
  | _, ks, _, kv, .cons k w v ws vs h r, s => by
    show RelKs P G H (mergeW (putKW ks k w) ws) (mergeK (putK kv (kK k) v) vs)
    exact RelKs.merge r (s.put h)
theorem RelKs.get : ∀ {ks : List (KW × W)} {kv : List (Key × V)} {i : Nat} {k : Key} {v : V}, RelKs P G H ks kv → kv[i]? = some (k, v) → ∃ l w, ks[i]? = some (l, w) ∧ k = kK l ∧ RelW P G H w v
  | _, _, i, k, v, .nil, e => by simp at e
  | _, _, 0, k, v, .cons l w' v' ws vs h r, e => by simp at e; obtain ⟨rfl, rfl⟩ := e; exact ⟨l, w', rfl, rfl, h⟩
  | _, _, i + 1, k, v, .cons l w' v' ws vs h r, e => by
    obtain ⟨l', w, h1, h2⟩ := RelKs.get (i := i) r (by simpa using e)
    exact ⟨l', w, by simpa using h1, h2⟩
/-- a dict, as one reads it -/
def dOf (G : WHp) : W → Option (List (KW × W))
  | .dk kvs => some kvs
  | .ref p => match G p with
    | some (.dct kvs) => some kvs
    | some (.fz _ _ kvs) => some kvs
    | _ => none
  | _ => none
theorem dOf_rel (rp : Rep P G H) {w : W} {v : V} {kvs : List (KW × W)} (r : RelW P G H w v) (e : dOf G w = some kvs) : ∃ a kv, v = .ref a ∧ Rd H a (.dK kv) ∧ RelKs P G H kvs kv := by
  cases r with
  | dk a kv kvs' h g rs => cases e; exact ⟨a, kv, rfl, .of h, rs⟩
  | ref a =>
    dsimp only [dOf] at e
    cases q : G a with
    | none => rw [q] at e; cases e
    | some o =>
      rw [q] at e
      cases o with
      | dct ws =>
        cases e
        obtain ⟨kv, h, rs⟩ := rp a _ q
        exact ⟨a, kv, rfl, .of h, rs⟩
      | fz od u ws =>
        cases e
        obtain ⟨h, kv, e2, rs⟩ := rp a _ q
        subst e2
        exact ⟨a, kv, rfl, .inr ⟨od, h⟩, rs⟩
      | obj _ _ => cases e
      | lst _ => cases e
      | xd _ => cases e
      | bd _ => cases e
      | td _ => cases e
      | tab => cases e
  | non => cases e
  | bl b => cases e
  | int i => cases e
  | str s => cases e
  | ty n => cases e
  | sc a ns h => cases e
  | tup a vs ws h rs => cases e
  | il a vs ws h rs => cases e
  | io a dx c fv fs h g rs => cases e
  | clo a c cd l xs h1 h2 h3 g h => cases e
theorem dOf_get (rp : Rep P G H) {w : W} {v : V} {kvs : List (KW × W)} {k : KW} (r : RelW P G H w v) (e : dOf G w = some kvs) : ∃ a, v = .ref a ∧
    ((valW kvs k = none ∧ DGet H a (kV (kK k)) none) ∨ ∃ x y, valW kvs k = some x ∧ DGet H a (kV (kK k)) (some y) ∧ RelW P G H x y) := by
  obtain ⟨a, kv, e1, h, rs⟩ := dOf_rel rp r e
  refine ⟨a, e1, ?_⟩
  rcases rs.val k with ⟨h1, h2⟩ | ⟨x, y, h1, h2, h3⟩
  · exact .inl ⟨h1, .inl ⟨kv, kK k, h, rfl, h2.symm⟩⟩
  · exact .inr ⟨x, y, h1, .inl ⟨kv, kK k, h, rfl, h2.symm⟩, h3⟩
variable {o e i : Expr} {f : Expr} {to te ti tf : WTE} {p pos apos cpos : Pos}
theorem hu_of {k : Nat} {A : Around} (hr : Room k A) : A.units + 1 < cLine := by have := hr.un; omega
/-- {} -/
def wDnew : WTE := fun _ G Q _ => ∀ p, G p = none → Q (.ref p) (updG G p (.dct []))
theorem je_dnew : JE P X (.Dict [] [] pos) wDnew := je_of pe_dnewK fun σw G σ H Qw Q Ew rs rp ht hq p hp =>
  hq _ _ _ _ (.new hp) (.ref p) (rp.put (u := .dct []) (.new hp) ⟨[], upd_same, .nil⟩) (ht p (rp.free hp))
/-- d[k] -/
def oDget : WR2 := fun x y G Q => ∃ kvs k w, dOf G x = some kvs ∧ kW y = some k ∧ valW kvs k = some w ∧ Q w G
theorem je_dget (hu : X.A.units + 1 < cLine) (ho : JE P X o to) (hi : JE P X i ti) (hs : NoSl i := by exact fun _ _ => rfl) : JE P X (.Subscript o i pos) (wOp oDget to ti) := fun Ga Ha Ew tk =>
  PE.imp (pe_dget hu (ho Ga Ha Ew tk) (hi Ga Ha Ew tk) hs) fun σ H Q ⟨σw, G, Qw, fa, rs, rp, ht, hq⟩ => ⟨σw, G, _, fa, rs, rp, ht, fun w1 G1 v1 H1 f1 r1 p1 h1 => ⟨σw, G1, _, fa.trans f1, rs.fw rp f1, p1, h1, fun w2 G2 v2 H2 f2 r2 p2 ⟨kvs, k, w, e1, e2, e3, q⟩ => by
    have ev := kW_rel r2 e2
    subst ev
    obtain ⟨a, rfl, ⟨z, _⟩ | ⟨x, y, h3, h4, h5⟩⟩ := dOf_get (k := k) p2 (r1.fw p1 f2) e1
    · rw [e3] at z; cases z
    · rw [e3] at h3
      cases h3
      exact ⟨a, y, rfl, h4, hq w G2 y H2 (f1.trans f2) h5 p2 q⟩⟩⟩
/-- k in d -/
def wDin (b : Bool) (ti to : WTE) : WTE := fun σ G Q E => ti σ G (fun y G1 => to σ G1 (fun x G2 => ∃ kvs k, dOf G2 x = some kvs ∧ kW y = some k ∧ Q (.bl (if b then (valW kvs k).isSome else !(valW kvs k).isSome)) G2) E) E
theorem din_step {Ga : WHp} {Ha : Hp} {Ew : WXK} : ∀ σ H Q, embE P Ga Ha Ew (wDin true ti to) σ H Q → tDIn (embE P Ga Ha Ew ti) (embE P Ga Ha Ew to) σ H Q :=
  fun σ H Q ⟨σw, G, Qw, fa, rs, rp, ht, hq⟩ => ⟨σw, G, _, fa, rs, rp, ht, fun w1 G1 v1 H1 f1 r1 p1 h1 => ⟨σw, G1, _, fa.trans f1, rs.fw rp f1, p1, h1, fun w2 G2 v2 H2 f2 r2 p2 ⟨kvs, k, e1, e2, q⟩ => by
    have ev := kW_rel (r1.fw p1 f2) e2
    subst ev
    obtain ⟨a, rfl, ⟨z, h4⟩ | ⟨x, y, h3, h4, h5⟩⟩ := dOf_get (k := k) p2 r2 e1
    · rw [z] at q
      exact ⟨a, _, rfl, h4, hq _ G2 _ H2 (f1.trans f2) (.bl _) p2 q⟩
    · rw [h3] at q
      exact ⟨a, _, rfl, h4, hq _ G2 _ H2 (f1.trans f2) (.bl _) p2 q⟩⟩⟩
theorem dnotin_step {Ga : WHp} {Ha : Hp} {Ew : WXK} : ∀ σ H Q, embE P Ga Ha Ew (wDin false ti to) σ H Q → tDNotIn (embE P Ga Ha Ew ti) (embE P Ga Ha Ew to) σ H Q :=
  fun σ H Q ⟨σw, G, Qw, fa, rs, rp, ht, hq⟩ => ⟨σw, G, _, fa, rs, rp, ht, fun w1 G1 v1 H1 f1 r1 p1 h1 => ⟨σw, G1, _, fa.trans f1, rs.fw rp f1, p1, h1, fun w2 G2 v2 H2 f2 r2 p2 ⟨kvs, k, e1, e2, q⟩ => by
    have ev := kW_rel (r1.fw p1 f2) e2
    subst ev
    obtain ⟨a, rfl, ⟨z, h4⟩ | ⟨x, y, h3, h4, h5⟩⟩ := dOf_get (k := k) p2 r2 e1
    · rw [z] at q
      exact ⟨a, _, rfl, h4, hq _ G2 _ H2 (f1.trans f2) (.bl _) p2 q⟩
    · rw [h3] at q
      exact ⟨a, _, rfl, h4, hq _ G2 _ H2 (f1.trans f2) (.bl _) p2 q⟩⟩⟩
theorem je_din (hu : X.A.units + 1 < cLine) (hi : JE P X i ti) (ho : JE P X o to) (hm : behindInMarks .In o = false := by first | exact nobehind _ (by decide) (by decide) | rfl) : JE P X (.Compare i [.In] [o] pos) (wDin true ti to) := fun Ga Ha Ew tk =>
  PE.imp (pe_cmp (pc_din hu (hi Ga Ha Ew tk) (ho Ga Ha Ew tk)) hm) din_step
theorem je_dnotin (hu : X.A.units + 1 < cLine) (hi : JE P X i ti) (ho : JE P X o to) (hm : behindInMarks .NotIn o = false := by first | exact nobehind _ (by decide) (by decide) | rfl) : JE P X (.Compare i [.NotIn] [o] pos) (wDin false ti to) := fun Ga Ha Ew tk =>
  PE.imp (pe_cmp (pc_dnotin hu (hi Ga Ha Ew tk) (ho Ga Ha Ew tk)) hm) dnotin_step
theorem test_emb {t : WTE} {Ga : WHp} {Ha : Hp} {Ew : WXK} : ∀ σ H Q, embT P Ga Ha Ew (wTest t) σ H Q → embE P Ga Ha Ew t σ H (fun x H' => ∃ k, x = .bl k ∧ Q k H') := test_step
theorem jt_din (hu : X.A.units + 1 < cLine) (hi : JE P X i ti) (ho : JE P X o to) (hm : behindInMarks .In o = false := by first | exact nobehind _ (by decide) (by decide) | rfl) : JT P X (.Compare i [.In] [o] pos) (wTest (wDin true ti to)) := fun Ga Ha Ew tk =>
  PT.imp (pt_cmp (pc_din hu (hi Ga Ha Ew tk) (ho Ga Ha Ew tk)) hm) fun σ H Q h => din_step σ H _ (test_emb σ H Q h)
theorem jt_dnotin (hu : X.A.units + 1 < cLine) (hi : JE P X i ti) (ho : JE P X o to) (hm : behindInMarks .NotIn o = false := by first | exact nobehind _ (by decide) (by decide) | rfl) : JT P X (.Compare i [.NotIn] [o] pos) (wTest (wDin false ti to)) := fun Ga Ha Ew tk =>
  PT.imp (pt_cmp (pc_dnotin hu (hi Ga Ha Ew tk) (ho Ga Ha Ew tk)) hm) fun σ H Q h => dnotin_step σ H _ (test_emb σ H Q h)
/-- d[k] = v -/
def wDput (to ti te : WTE) : WTS := fun D σ G E => te σ G (fun v G1 => to σ G1 (fun x G2 => ti σ G2 (fun y G3 => ∃ p kvs k, x = .ref p ∧ G3 p = some (.dct kvs) ∧ kW y = some k ∧ kvs.length < big ∧ D.nx σ (updG G3 p (.dct (putKW kvs k v)))) E) E) E
theorem put_dct {D : Ends} {p : Addr} {kvs ms : List (KW × W)} {mv : List (Key × V)} {Qw : WHp → Prop} {Q : Hp → Prop} (rp : Rep P G H) (e : G p = some (.dct kvs)) (rm : RelKs P G H ms mv) (q : Qw (updG G p (.dct ms)))
    (hq : ∀ G' H', Fw G H G' H' → Rep P G' H' → Qw G' → Q H') : Q (upd H p (.dK mv)) := by
  have f : Fw G H (updG G p (.dct ms)) (upd H p (.dK mv)) := .put e
  exact hq _ _ f (rp.put (u := .dct ms) f ⟨mv, upd_same, rm.fw rp f⟩) q
theorem js_dput {pos' : Pos} (hu : X.A.units + 1 < cLine) (ho : JE P X o to) (hi : JE P X i ti) (he : JE P X e te) (hs : swapsWith e (some (.Subscript o i pos')) pos.line X.env = pure false := by rfl) : JS P X (.Assign [.Subscript o i pos'] e pos) (wDput to ti te) := fun Ga Ha Ew tk =>
  PS.imp (ps_dput hu (ho Ga Ha Ew tk) (hi Ga Ha Ew tk) (he Ga Ha Ew tk) hs) fun D σ H ⟨σw, G, Dw, fa, rs, rp, ht, h1, h2, h3, h4⟩ => ⟨σw, G, _, fa, rs, rp, ht, fun y G1 v H1 f1 r1 p1 q1 => ⟨σw, G1, _, fa.trans f1, rs.fw rp f1, p1, q1, fun w G2 v2 H2 f2 r2 p2 q2 => ⟨σw, G2, _, fa.trans (f1.trans f2), (rs.fw rp f1).fw p1 f2, p2, q2, fun u G3 v3 H3 f3 r3 p3 ⟨p, kvs, k, e1, e2, e3, hl, q⟩ => by
    subst e1
    cases r2
    have ev := kW_rel r3 e3
    subst ev
    obtain ⟨kv, h, rk⟩ := p3 p _ e2
    refine ⟨p, _, rfl, .k h (by rw [← rk.length, big_eq]; exact hl), ?_⟩
    have f : Fw G3 H3 (updG G3 p (.dct (putKW kvs k y))) (upd H3 p (.dK (putK kv (kK k) v))) := .put e2
    exact h1 σw _ σ _ (f1.trans (f2.trans (f3.trans f))) ((((rs.fw rp f1).fw p1 f2).fw p2 f3).fw p3 f) (p3.put (u := .dct (putKW kvs k y)) f ⟨_, upd_same, (rk.put ((r1.fw p1 f2).fw p2 f3)).fw p3 f⟩) q⟩⟩⟩
/-- d.get(k), d.get(k, x) -/
def wDget1 (to ti : WTE) : WTE := fun σ G Q E => to σ G (fun x G1 => (dOf G1 x).isSome = true ∧ ti σ G1 (fun y G2 => ∃ kvs k, dOf G2 x = some kvs ∧ kW y = some k ∧ Q ((valW kvs k).getD .non) G2) E) E
def wDget2 (to ti tf : WTE) : WTE := fun σ G Q E => to σ G (fun x G1 => (dOf G1 x).isSome = true ∧ ti σ G1 (fun y G2 => tf σ G2 (fun z G3 => ∃ kvs k, dOf G3 x = some kvs ∧ kW y = some k ∧ Q ((valW kvs k).getD z) G3) E) E) E
theorem isD_rel (rp : Rep P G H) {w : W} {v : V} (r : RelW P G H w v) (e : (dOf G w).isSome = true) : ∃ a, v = .ref a ∧ IsD H a := by
  obtain ⟨kvs, e⟩ := Option.isSome_iff_exists.mp e
  obtain ⟨a, kv, e1, h, rs⟩ := dOf_rel rp r e
  exact ⟨a, e1, .inl ⟨kv, h⟩⟩
theorem je_dget1 (hu : X.A.units + 1 < cLine) (ho : JE P X o to) (he : JE P X e te) (m : M1 X o "get" apos e cpos := by exact ⟨rfl, rfl, rfl, rfl⟩) : JE P X (.Call (.Attribute o "get" apos) [e] [] cpos) (wDget1 to te) := fun Ga Ha Ew tk =>
  PE.imp (pe_dget1 hu (ho Ga Ha Ew tk) (he Ga Ha Ew tk) m) fun σ H Q ⟨σw, G, Qw, fa, rs, rp, ht, hq⟩ => ⟨σw, G, _, fa, rs, rp, ht, fun w1 G1 v1 H1 f1 r1 p1 ⟨hd, h1⟩ => by
    obtain ⟨a, rfl, hI⟩ := isD_rel p1 r1 hd
    refine ⟨a, rfl, hI, σw, G1, _, fa.trans f1, rs.fw rp f1, p1, h1, fun w2 G2 v2 H2 f2 r2 p2 ⟨kvs, k, e1, e2, q⟩ => ?_⟩
    have ev := kW_rel r2 e2
    subst ev
    obtain ⟨b, eb, ⟨z, h4⟩ | ⟨x, y, h3, h4, h5⟩⟩ := dOf_get (k := k) p2 (r1.fw p1 f2) e1
    · cases eb; rw [z] at q; exact ⟨none, h4, hq _ G2 _ H2 (f1.trans f2) .non p2 q⟩
    · cases eb; rw [h3] at q; exact ⟨some y, h4, hq _ G2 _ H2 (f1.trans f2) h5 p2 q⟩⟩
theorem je_dget2 (hu : X.A.units + 1 < cLine) (ho : JE P X o to) (he : JE P X e te) (hf : JE P X f tf) (m : M2 X o "get" apos e f cpos := by exact ⟨rfl, rfl, rfl, rfl⟩) : JE P X (.Call (.Attribute o "get" apos) [e, f] [] cpos) (wDget2 to te tf) := fun Ga Ha Ew tk =>
  PE.imp (pe_dget2 hu (ho Ga Ha Ew tk) (he Ga Ha Ew tk) (hf Ga Ha Ew tk) m) fun σ H Q ⟨σw, G, Qw, fa, rs, rp, ht, hq⟩ => ⟨σw, G, _, fa, rs, rp, ht, fun w1 G1 v1 H1 f1 r1 p1 ⟨hd, h1⟩ => by
    obtain ⟨a, rfl, hI⟩ := isD_rel p1 r1 hd
    refine ⟨a, rfl, hI, σw, G1, _, fa.trans f1, rs.fw rp f1, p1, h1, fun w2 G2 v2 H2 f2 r2 p2 h2 => ⟨σw, G2, _, fa.trans (f1.trans f2), (rs.fw rp f1).fw p1 f2, p2, h2, fun w3 G3 v3 H3 f3 r3 p3 ⟨kvs, k, e1, e2, q⟩ => ?_⟩⟩
    have ev := kW_rel (r2.fw p2 f3) e2
    subst ev
    obtain ⟨b, eb, ⟨z, h4⟩ | ⟨x, y, h3, h4, h5⟩⟩ := dOf_get (k := k) p3 ((r1.fw p1 f2).fw p2 f3) e1
    · cases eb; rw [z] at q; exact ⟨none, h4, hq _ G3 _ H3 (f1.trans (f2.trans f3)) r3 p3 q⟩
    · cases eb; rw [h3] at q; exact ⟨some y, h4, hq _ G3 _ H3 (f1.trans (f2.trans f3)) h5 p3 q⟩⟩
/-- d.pop(k, x) -/
def wDpop2 (to ti tf : WTE) : WTE := fun σ G Q E => to σ G (fun x G1 => (dOf G1 x).isSome = true ∧ ti σ G1 (fun y G2 => tf σ G2 (fun z G3 => ∃ p kvs k, x = .ref p ∧ G3 p = some (.dct kvs) ∧ kW y = some k ∧ Q ((valW kvs k).getD z) (updG G3 p (.dct (dropKW kvs k)))) E) E) E
theorem dropK_none {kv : List (Key × V)} {k : Key} (h : valV kv k = none) : dropK kv k = kv := by
  unfold dropK
  refine List.filter_eq_self.mpr fun p hp => ?_
  simp only [decide_eq_true_eq]
  intro e
  unfold valV at h
  rw [Option.map_eq_none_iff, List.find?_eq_none] at h
  exact h p hp (by simpa using e)
theorem je_dpop2 (ho : JE P X o to) (he : JE P X e te) (hf : JE P X f tf) (m : M2 X o "pop" apos e f cpos := by exact ⟨rfl, rfl, rfl, rfl⟩) : JE P X (.Call (.Attribute o "pop" apos) [e, f] [] cpos) (wDpop2 to te tf) := fun Ga Ha Ew tk =>
  PE.imp (pe_dpop2 (ho Ga Ha Ew tk) (he Ga Ha Ew tk) (hf Ga Ha Ew tk) m) fun σ H Q ⟨σw, G, Qw, fa, rs, rp, ht, hq⟩ => ⟨σw, G, _, fa, rs, rp, ht, fun w1 G1 v1 H1 f1 r1 p1 ⟨hd, h1⟩ => by
    obtain ⟨a, rfl, hI⟩ := isD_rel p1 r1 hd
    refine ⟨a, rfl, hI, σw, G1, _, fa.trans f1, rs.fw rp f1, p1, h1, fun w2 G2 v2 H2 f2 r2 p2 h2 => ⟨σw, G2, _, fa.trans (f1.trans f2), (rs.fw rp f1).fw p1 f2, p2, h2, fun w3 G3 v3 H3 f3 r3 p3 ⟨p, kvs, k, e0, e1, e2, q⟩ => ?_⟩⟩
    subst e0
    have ea : p = a := by cases r1; rfl
    subst ea
    have ev := kW_rel (r2.fw p2 f3) e2
    subst ev
    obtain ⟨kv, h, rk⟩ := p3 p _ e1
    have f4 : Fw G3 H3 (updG G3 p (.dct (dropKW kvs k))) (upd H3 p (.dK (dropK kv (kK k)))) := .put e1
    have p4 := p3.put (u := .dct (dropKW kvs k)) f4 ⟨_, upd_same, (rk.drop (k := k)).fw p3 f4⟩
    refine ⟨kv, kK k, h, rfl, fun v hv => ?_, fun hn => ?_⟩
    · rcases rk.val k with ⟨_, z⟩ | ⟨x, y, h3, h4, h5⟩
      · rw [hv] at z; cases z
      · rw [hv] at h4
        cases h4
        rw [h3] at q
        exact hq _ _ _ _ (f1.trans (f2.trans (f3.trans f4))) (h5.fw p3 f4) p4 q
    · rcases rk.val k with ⟨z, _⟩ | ⟨x, y, h3, h4, h5⟩
      · rw [z] at q
        have e5 : upd H3 p (.dK (dropK kv (kK k))) = H3 := by
          rw [dropK_none hn]
          funext b
          by_cases hb : b = p
          · rw [hb, upd_same, h]
          · rw [upd_ne hb]
        rw [e5] at f4 p4
        exact hq _ _ _ _ (f1.trans (f2.trans (f3.trans f4))) (r3.fw p3 f4) p4 q
      · rw [hn] at h4; cases h4⟩
/-- len(d), dict(d) -/
def oLenD : WRs := fun ws G Q => ∃ p kvs, ws = [.ref p] ∧ G p = some (.dct kvs) ∧ Q (.int kvs.length) G
theorem cw_lenD : CallW P X (.builtin "len") oLenD := CallR.imp call_lenD fun vs H Q ⟨ws, G, Qw, r, rp, ⟨p, kvs, e0, e, q⟩, hq⟩ => by
  subst e0
  obtain ⟨v, rfl, r1⟩ := r.one
  cases r1 with
  | ref a =>
    obtain ⟨kv, h, rk⟩ := rp _ _ e
    exact ⟨_, kv, rfl, h, by rw [← rk.length]; exact emb_end hq rp (.int _) q⟩
def oDictD : WRs := fun ws G Q => ∃ x kvs, ws = [x] ∧ dOf G x = some kvs ∧ ∀ p, G p = none → Q (.ref p) (updG G p (.dct kvs))
theorem cw_dictD : CallW P X (.type "dict") oDictD := CallR.imp call_dictD fun vs H Q ⟨ws, G, Qw, r, rp, ⟨x, kvs, e0, e, q⟩, hq⟩ => by
  subst e0
  obtain ⟨v, rfl, r1⟩ := r.one
  obtain ⟨a, kv, rfl, h, rk⟩ := dOf_rel rp r1 e
  exact ⟨a, kv, rfl, h, fun p hp => hq _ _ _ _ (.new hp) (.ref p) (rp.put (u := .dct kvs) (.new hp) ⟨_, upd_same, rk.fw rp (.new hp)⟩) (q p (rp.free hp))⟩

/-! ### written dicts -/
def wPairs : List (WTE × WTE) → WSt → WHp → (List (W × W) → WHp → Prop) → WXK → Prop
  | [], _, G, Q, _ => Q [] G
  | (tk, tv) :: r, σ, G, Q, E => tk σ G (fun x G1 => tv σ G1 (fun y G2 => wPairs r σ G2 (fun ps G3 => Q ((x, y) :: ps) G3) E) E) E
inductive RelPs (P : Par) (G : WHp) (H : Hp) : List (W × W) → List (V × V) → Prop
  | nil : RelPs P G H [] []
  | cons (k w : W) (l v : V) (ks : List (W × W)) (vs : List (V × V)) : RelW P G H k l → RelW P G H w v → RelPs P G H ks vs → RelPs P G H ((k, w) :: ks) ((l, v) :: vs)
def JPs (P : Par) (X : Cx) (pos : Pos) (keys : List (Option Expr)) (values : List Expr) (ts : List (WTE × WTE)) : Prop :=
  ∀ Ga Ha Ew, Takes X (embX P Ga Ha Ew) → PPs X pos keys values (ts.map fun p => (embE P Ga Ha Ew p.1, embE P Ga Ha Ew p.2))
theorem jps_nil : JPs P X pos [] [] [] := fun _ _ _ _ => pps_nil
theorem jps_cons {k v : Expr} {ks : List (Option Expr)} {vs : List Expr} {tk tv : WTE} {ts : List (WTE × WTE)} (hk : JE P X k tk) (hv : JE P X v tv) (hr : JPs P X pos ks vs ts) : JPs P X pos (some k :: ks) (v :: vs) ((tk, tv) :: ts) :=
  fun Ga Ha Ew t => pps_cons (hk Ga Ha Ew t) (hv Ga Ha Ew t) (hr Ga Ha Ew t)
theorem pairs_step {Ga : WHp} {Ha : Hp} {Ew : WXK} : ∀ (ts : List (WTE × WTE)) (σ : L2.St) (H : Hp) (Q : List (V × V) → Hp → Prop) (σw : WSt) (G : WHp) (Qw : List (W × W) → WHp → Prop), Fw Ga Ha G H → RelSt P G H σw σ → Rep P G H → wPairs ts σw G Qw Ew →
    (∀ ps G' vs H', Fw G H G' H' → RelPs P G' H' ps vs → Rep P G' H' → Qw ps G' → Q vs H') → tPairs (ts.map fun p => (embE P Ga Ha Ew p.1, embE P Ga Ha Ew p.2)) σ H Q
  | [], σ, H, Q, σw, G, Qw, fa, rs, rp, ht, hq => hq [] G [] H (.refl _ _) .nil rp ht
  | (tk, tv) :: r, σ, H, Q, σw, G, Qw, fa, rs, rp, ht, hq =>
    ⟨σw, G, _, fa, rs, rp, ht, fun x G1 v1 H1 f1 r1 p1 h1 => ⟨σw, G1, _, fa.trans f1, rs.fw rp f1, p1, h1, fun y G2 v2 H2 f2 r2 p2 h2 =>
      pairs_step r σ H2 _ σw G2 _ (fa.trans (f1.trans f2)) ((rs.fw rp f1).fw p1 f2) p2 h2 fun ps G3 vs H3 f3 r3 p3 q => hq _ G3 _ H3 (f1.trans (f2.trans f3)) (.cons _ _ _ _ _ _ ((r1.fw p1 f2).fw p2 f3) (r2.fw p2 f3) r3) p3 q⟩⟩
theorem RelPs.keys : ∀ {kvs : List (KW × W)} {vs : List (V × V)}, RelPs P G H (kvs.map fun kv => (keyW kv.1, kv.2)) vs → ∃ kv : List (Key × V), vs = kv.map (fun q => (kV q.1, q.2)) ∧ RelKs P G H kvs kv
  | [], _, .nil => ⟨[], rfl, .nil⟩
  | (k, w) :: kvs, _, .cons _ _ l v _ vs h1 h2 r => by
    obtain ⟨kv, e, rk⟩ := RelPs.keys (kvs := kvs) r
    have el : l = kV (kK k) := kW_rel h1 (by cases k <;> rfl)
    subst el
    exact ⟨(kK k, v) :: kv, by rw [e]; rfl, .cons k w v kvs kv h2 rk⟩
def wDisp (ts : List (WTE × WTE)) : WTE := fun σ G Q E => ∀ p, G p = none → wPairs ts σ (updG G p (.dct [])) (fun ps G2 => G2 p = some (.dct []) ∧ ∃ kvs : List (KW × W), ps = kvs.map (fun kv => (keyW kv.1, kv.2)) ∧ kvs.length ≤ 15 ∧ Q (.ref p) (updG G2 p (.dct (mergeW [] kvs)))) E
theorem je_disp {keys : List (Option Expr)} {values : List Expr} {ts : List (WTE × WTE)} (h : JPs P X pos keys values ts) (hall : keys.all (·.isSome) = true := by rfl) (hl : keys.length = values.length := by rfl) (h0 : keys ≠ [] := by exact fun z => nomatch z) (h15 : keys.length ≤ 15 := by decide) :
    JE P X (.Dict keys values pos) (wDisp ts) := fun Ga Ha Ew tk =>
  PE.imp (pe_disp (h Ga Ha Ew tk) hall hl h0 h15) fun σ H Q ⟨σw, G, Qw, fa, rs, rp, ht, hq⟩ => by
    intro p hp
    have f1 : Fw G H (updG G p (.dct [])) (upd H p (.dK [])) := .new hp
    have p1 := rp.put (u := .dct []) f1 ⟨[], upd_same, .nil⟩
    refine pairs_step ts σ _ _ σw _ _ (fa.trans f1) (rs.fw rp f1) p1 (ht p (rp.free hp)) fun ps G2 vs H2 f2 r2 p2 ⟨e1, kvs, e2, hl, q⟩ => ?_
    subst e2
    obtain ⟨kv, ev, rk⟩ := r2.keys
    obtain ⟨kv0, hk0, rk0⟩ := p2 p _ e1
    cases rk0
    refine ⟨hk0, kv, ev, by rw [← rk.length]; exact hl, ?_⟩
    have f3 : Fw G2 H2 (updG G2 p (.dct (mergeW [] kvs))) (upd H2 p (.dK (mergeK [] kv))) := .put e1
    exact hq _ _ _ _ (f1.trans (f2.trans f3)) (.ref p) (p2.put (u := .dct (mergeW [] kvs)) f3 ⟨_, upd_same, (RelKs.merge rk .nil).fw p2 f3⟩) q

/-! ### walks over a dict -/
/-- what is walked of a dict -/
inductive Dw where
  | keys | vals | items
def Dw.of : Dw → KW × W → W
  | .keys, (k, _) => keyW k
  | .vals, (_, w) => w
  | .items, (k, w) => .tup [keyW k, w]
/-- the walked dict, locked: its items come while it stands so -/
def wDwk (d : Dw) (te : WTE) : WTI := fun σ G R E => te σ G (fun x G1 => ∃ p od u kvs, x = .ref p ∧ G1 p = some (.fz od u kvs) ∧ R (kvs.map d.of) (fun G' => G' p = some (.fz od u kvs)) G1) E
theorem fz_at (rp : Rep P G H) {p : Addr} {od : Obj} {u : HO} {kvs : List (KW × W)} (e : G p = some (.fz od u kvs)) : ∃ kv, H p = some (.frz od (.dK kv)) ∧ u = .dK kv ∧ RelKs P G H kvs kv := by
  obtain ⟨h, kv, e2, r⟩ := rp p _ e
  subst e2
  exact ⟨kv, h, rfl, r⟩
theorem dwk_len {d : Dw} {kvs : List (KW × W)} {kv : List (Key × V)} (r : RelKs P G H kvs kv) : (kvs.map d.of).length = kv.length := by rw [List.length_map, r.length]
theorem ji_dkeys {tg : Expr} (he : JE P X e te) : JI P X tg e (wDwk .keys te) := fun Ga Ha Ew tk =>
  PI.imp (pi_keys (he Ga Ha Ew tk)) fun σ H R ⟨σw, G, Rw, fa, rs, rp, ht, hR⟩ => ⟨σw, G, _, fa, rs, rp, ht, fun w G1 v H1 f1 r1 p1 ⟨p, od, u, kvs, e1, e2, q⟩ => by
    subst e1
    cases r1
    obtain ⟨kv, h, _, rk⟩ := fz_at p1 e2
    refine ⟨p, od, rfl, .inl ⟨kv, h, hR _ _ G1 H1 _ f1 p1 q (fun i G2 H2 f rp2 ok hi => ?_) (fun i G2 H2 f rp2 ok hi => ?_) fun i G2 H2 x H3 f rp2 ok hi y => ?_⟩⟩
    · obtain ⟨kv2, h2, e3, rk2⟩ := fz_at rp2 ok
      obtain ⟨kv3, h3, e4, _⟩ := fz_at p1 e2
      have : kv2 = kv := by rw [h] at h3; cases h3; rw [e3] at e4; exact HO.dK.inj e4
      subst this
      rw [dwk_len rk] at hi
      exact ⟨h2, hi⟩
    · obtain ⟨kv2, h2, e3, rk2⟩ := fz_at rp2 ok
      obtain ⟨kv3, h3, e4, _⟩ := fz_at p1 e2
      have : kv2 = kv := by rw [h] at h3; cases h3; rw [e3] at e4; exact HO.dK.inj e4
      subst this
      rw [dwk_len rk] at hi
      exact ⟨h2, hi⟩
    · obtain ⟨rfl, k, v, hk, rfl⟩ := y
      obtain ⟨kv2, h2, e3, rk2⟩ := fz_at rp2 ok
      obtain ⟨kv3, h3, e4, _⟩ := fz_at p1 e2
      have : kv2 = kv := by rw [h] at h3; cases h3; rw [e3] at e4; exact HO.dK.inj e4
      subst this
      obtain ⟨l, w, hl, ek, rw_⟩ := rk2.get hk
      subst ek
      exact ⟨keyW l, by rw [List.getElem?_map, hl]; rfl, .refl _ _, rp2, keyW_rel l⟩⟩
theorem ji_dvals {tg : Expr} (he : JE P X e te) (hbase : attributeBase e "values" X.env (eval e X.env) = eval e X.env := by rfl) (hline : (apos.endLine == cpos.line) = true := by rfl) : JI P X tg (.Call (.Attribute e "values" apos) [] [] cpos) (wDwk .vals te) := fun Ga Ha Ew tk =>
  PI.imp (pi_values (he Ga Ha Ew tk) hbase hline) fun σ H R ⟨σw, G, Rw, fa, rs, rp, ht, hR⟩ => ⟨σw, G, _, fa, rs, rp, ht, fun w G1 v H1 f1 r1 p1 ⟨p, od, u, kvs, e1, e2, q⟩ => by
    subst e1
    cases r1
    obtain ⟨kv, h, _, rk⟩ := fz_at p1 e2
    refine ⟨p, od, kv, rfl, h, hR _ _ G1 H1 _ f1 p1 q (fun i G2 H2 f rp2 ok hi => ?_) (fun i G2 H2 f rp2 ok hi => ?_) fun i G2 H2 x H3 f rp2 ok hi y => ?_⟩
    · obtain ⟨kv2, h2, e3, rk2⟩ := fz_at rp2 ok
      obtain ⟨kv3, h3, e4, _⟩ := fz_at p1 e2
      have : kv2 = kv := by rw [h] at h3; cases h3; rw [e3] at e4; exact HO.dK.inj e4
      subst this
      rw [dwk_len rk] at hi
      exact ⟨h2, hi⟩
    · obtain ⟨kv2, h2, e3, rk2⟩ := fz_at rp2 ok
      obtain ⟨kv3, h3, e4, _⟩ := fz_at p1 e2
      have : kv2 = kv := by rw [h] at h3; cases h3; rw [e3] at e4; exact HO.dK.inj e4
      subst this
      rw [dwk_len rk] at hi
      exact ⟨h2, hi⟩
    · obtain ⟨rfl, k, hk⟩ := y
      obtain ⟨kv2, h2, e3, rk2⟩ := fz_at rp2 ok
      obtain ⟨kv3, h3, e4, _⟩ := fz_at p1 e2
      have : kv2 = kv := by rw [h] at h3; cases h3; rw [e3] at e4; exact HO.dK.inj e4
      subst this
      obtain ⟨l, w, hl, ek, rw_⟩ := rk2.get hk
      exact ⟨w, by rw [List.getElem?_map, hl]; rfl, .refl _ _, rp2, rw_⟩⟩
theorem ji_ditems {elts : List Expr} {kk : Nat} {tpos : Pos} (he : JE P X e te) (hbase : attributeBase e "items" X.env (eval e X.env) = eval e X.env := by rfl) (hline : (apos.endLine == cpos.line) = true := by rfl) : JI P X (.Tuple elts kk tpos) (.Call (.Attribute e "items" apos) [] [] cpos) (wDwk .items te) := fun Ga Ha Ew tk =>
  PI.imp (pi_items (he Ga Ha Ew tk) hbase hline) fun σ H R ⟨σw, G, Rw, fa, rs, rp, ht, hR⟩ => ⟨σw, G, _, fa, rs, rp, ht, fun w G1 v H1 f1 r1 p1 ⟨p, od, u, kvs, e1, e2, q⟩ => by
    subst e1
    cases r1
    obtain ⟨kv, h, _, rk⟩ := fz_at p1 e2
    refine ⟨p, od, kv, rfl, h, hR _ _ G1 H1 _ f1 p1 q (fun i G2 H2 f rp2 ok hi => ?_) (fun i G2 H2 f rp2 ok hi => ?_) fun i G2 H2 x H3 f rp2 ok hi y => ?_⟩
    · obtain ⟨kv2, h2, e3, rk2⟩ := fz_at rp2 ok
      obtain ⟨kv3, h3, e4, _⟩ := fz_at p1 e2
      have : kv2 = kv := by rw [h] at h3; cases h3; rw [e3] at e4; exact HO.dK.inj e4
      subst this
      rw [dwk_len rk] at hi
      exact ⟨h2, hi⟩
    · obtain ⟨kv2, h2, e3, rk2⟩ := fz_at rp2 ok
      obtain ⟨kv3, h3, e4, _⟩ := fz_at p1 e2
      have : kv2 = kv := by rw [h] at h3; cases h3; rw [e3] at e4; exact HO.dK.inj e4
      subst this
      rw [dwk_len rk] at hi
      exact ⟨h2, hi⟩
    · obtain ⟨T, k, v, hk, rfl, hT, rfl⟩ := y
      obtain ⟨kv2, h2, e3, rk2⟩ := fz_at rp2 ok
      obtain ⟨kv3, h3, e4, _⟩ := fz_at p1 e2
      have : kv2 = kv := by rw [h] at h3; cases h3; rw [e3] at e4; exact HO.dK.inj e4
      subst this
      obtain ⟨l, w, hl, ek, rw_⟩ := rk2.get hk
      subst ek
      exact ⟨.tup [keyW l, w], by rw [List.getElem?_map, hl]; rfl, .hid hT, rp2.hid hT, .tup T _ _ (.inl (.inl upd_same)) (.cons _ _ _ _ (keyW_rel l) (.cons _ _ _ _ (rw_.fw rp2 (.hid hT)) .nil))⟩⟩
/-- a dict is locked for a statement, an expression -/
theorem lock_on (rp : Rep P G H) {p : Addr} {kvs : List (KW × W)} (e : G p = some (.dct kvs)) : ∃ kv, H p = some (.dK kv) ∧ ∀ od, Fw G H (updG G p (.fz od (.dK kv) kvs)) (upd H p (.frz od (.dK kv))) ∧ Rep P (updG G p (.fz od (.dK kv) kvs)) (upd H p (.frz od (.dK kv))) := by
  obtain ⟨kv, h, rk⟩ := rp p _ e
  refine ⟨kv, h, fun od => ?_⟩
  have f : Fw G H (updG G p (.fz od (.dK kv) kvs)) (upd H p (.frz od (.dK kv))) := .put e
  exact ⟨f, rp.put (u := .fz od (.dK kv) kvs) f ⟨upd_same, kv, rfl, rk.fw rp f⟩⟩
theorem lock_off (rp : Rep P G H) {p : Addr} {od : Obj} {kv : List (Key × V)} {kvs : List (KW × W)} (e : G p = some (.fz od (.dK kv) kvs)) : H p = some (.frz od (.dK kv)) ∧ Fw G H (updG G p (.dct kvs)) (upd H p (.dK kv)) ∧ Rep P (updG G p (.dct kvs)) (upd H p (.dK kv)) := by
  obtain ⟨h, kv2, e2, rk⟩ := rp p _ e
  cases e2
  have f : Fw G H (updG G p (.dct kvs)) (upd H p (.dK kv)) := .put e
  exact ⟨h, f, rp.put (u := .dct kvs) f ⟨kv, upd_same, rk.fw rp f⟩⟩
def wLock (t : WTS) : WTS := fun D σ G E => ∃ p kvs, G p = some (.dct kvs) ∧ ∀ od u, t ⟨fun σ' G' => G' p = some (.fz od u kvs) ∧ D.nx σ' (updG G' p (.dct kvs)), fun w G' => G' p = some (.fz od u kvs) ∧ D.rt w (updG G' p (.dct kvs)), fun σ' G' => G' p = some (.fz od u kvs) ∧ D.bk σ' (updG G' p (.dct kvs)), fun σ' G' => G' p = some (.fz od u kvs) ∧ D.ct σ' (updG G' p (.dct kvs))⟩ σ (updG G p (.fz od u kvs)) E
theorem js_lock {st : Stmt} {t : WTS} (h : JS P X st t) : JS P X st (wLock t) := fun Ga Ha Ew tk =>
  PS.imp (ps_lock (h Ga Ha Ew tk)) fun D σ H ⟨σw, G, Dw, fa, rs, rp, ⟨p, kvs, e, ht⟩, h1, h2, h3, h4⟩ => by
    obtain ⟨kv, hp, hl⟩ := lock_on rp e
    refine ⟨p, .dK kv, hp, True.intro, fun od => ?_⟩
    obtain ⟨f, rp2⟩ := hl od
    refine ⟨σw, _, _, fa.trans f, rs.fw rp f, rp2, ht od (.dK kv), fun σw' G' σ' H' f1 r1 p1 ⟨e1, q⟩ => ?_, fun w G' v H' f1 r1 p1 ⟨e1, q⟩ => ?_, fun σw' G' σ' H' f1 r1 p1 ⟨e1, q⟩ => ?_, fun σw' G' σ' H' f1 r1 p1 ⟨e1, q⟩ => ?_⟩
    · obtain ⟨a, b, c⟩ := lock_off p1 e1
      exact ⟨a, h1 _ _ _ _ (f.trans (f1.trans b)) (r1.fw p1 b) c q⟩
    · obtain ⟨a, b, c⟩ := lock_off p1 e1
      exact ⟨a, h2 _ _ _ _ (f.trans (f1.trans b)) (r1.fw p1 b) c q⟩
    · obtain ⟨a, b, c⟩ := lock_off p1 e1
      exact ⟨a, h3 _ _ _ _ (f.trans (f1.trans b)) (r1.fw p1 b) c q⟩
    · obtain ⟨a, b, c⟩ := lock_off p1 e1
      exact ⟨a, h4 _ _ _ _ (f.trans (f1.trans b)) (r1.fw p1 b) c q⟩
def wLockE (t : WTE) : WTE := fun σ G Q E => ∃ p kvs, G p = some (.dct kvs) ∧ ∀ od u, t σ (updG G p (.fz od u kvs)) (fun w G' => G' p = some (.fz od u kvs) ∧ Q w (updG G' p (.dct kvs))) E
theorem je_lock {t : WTE} (h : JE P X e t) : JE P X e (wLockE t) := fun Ga Ha Ew tk =>
  PE.imp (pe_lock (h Ga Ha Ew tk)) fun σ H Q ⟨σw, G, Qw, fa, rs, rp, ⟨p, kvs, e, ht⟩, hq⟩ => by
    obtain ⟨kv, hp, hl⟩ := lock_on rp e
    refine ⟨p, .dK kv, hp, True.intro, fun od => ?_⟩
    obtain ⟨f, rp2⟩ := hl od
    refine ⟨σw, _, _, fa.trans f, rs.fw rp f, rp2, ht od (.dK kv), fun w G' v H' f1 r1 p1 ⟨e1, q⟩ => ?_⟩
    obtain ⟨a, b, c⟩ := lock_off p1 e1
    exact ⟨a, hq _ _ _ _ (f.trans (f1.trans b)) (r1.fw p1 b) c q⟩
end
end Lw
/-! W10: exceptions: raised, caught. -/
namespace Lw
open PySem PySem.Spec PyProof.Rows L2

/-! ### the __init__ of an exception's class -/
section
variable {X : Cx} {x : Str} {e : Expr} {es : List Expr} {ta : TA} {p1 p2 pos : Pos}
theorem pe_xinit {C0 : Addr} {pl : Sem Bool} (B : BaseI X.K C0 (.builtin "ValueError.__init__")) (hg : Gl X x) (hm : X.mg x = some (.ref C0)) (ha : PA X (e :: es) ta) (hdb : (x == ("__debug__" : Str)) = false := by decide)
    (hc : eval (.Call (.Attribute (.Name x p1) "__init__" p2) (e :: es) [] pos) X.env = (do
      let ov ← eval (.Name x p1) X.env
      standAt p2.atName
      let (f, first) ← holding [ov] (getMethod ov "__init__" pl)
      callWith pos f first (backTo pos (starEach (e :: es) X.env)) (backToKw pos (keywordEach [] X.env))) := by rfl)
    (he : starEach (e :: es) X.env = (false, eval e X.env) :: starEach es X.env := by rfl) (hpl : (backTo pos (starEach es X.env)).any (·.1) = false := by rfl) :
    PE X (.Call (.Attribute (.Name x p1) "__init__" p2) (e :: es) [] pos) (tVeI X.K ta) := by
  refine ⟨fun pins s σ H Q I h => ?_⟩
  refine PySem.W.methodCall_KW (ld_glob I hg hm ?_ hdb) hc
  refine PySem.W.method_cls I.kIn B.ga (PySem.W.cls_value I.kIn B.rd B.at_ rfl ?_)
  show wpAny _ _ (callWith pos (Value.builtin "ValueError.__init__") [] (backTo pos (starEach (e :: es) X.env)) []) _ _ _
  refine PyProof.Rows.callWith_method1 (thn (ha.run pos pins _ σ H _ (I.tok _) h) fun us s1 ⟨vs, H1, I1, r1, a, C, ws, ev, hl, T, ea, q⟩ => ?_) he hpl
  subst ev
  cases r1 with
  | @cons _ u0 _ ur ra rw' =>
    obtain rfl : u0 = Value.ref a := ra
    have hlen : ur.length ≤ sizeLine := by
      rw [← Paired.length rw', sizeLine_eq]
      omega
    exact oinit_ok T I1 ea hlen fun s' J => ⟨.non, H1, J, rfl, q⟩
end
/-- what an exception's __init__ does: the fields are stored -/
def spX (K : PySem.W.Frag) (C : Addr) (fs : List Str) : Sp := fun vs H Q _ => ∃ (a : Addr) (ys : List V), vs = .ref a :: ys ∧ ys.length = fs.length ∧ OexC K C ∧ (∀ f ∈ fs, PySem.W.findIn K (.ref C) f = some none) ∧ H a = some (exo a C none) ∧
  ∀ (H' : Hp) (d : Addr), H d = none → d ≠ a → H' a = some (exo a C (some d)) → H' d = some (exd d (fs.zip ys).reverse) → (∀ b, b ≠ a → b ≠ d → H' b = H b) → Q .non H'
theorem spX_len {K : PySem.W.Frag} {C : Addr} {fs : List Str} : ∀ vs H Q E, spX K C fs vs H Q E → vs.length = fs.length + 1 := fun vs H Q E ⟨a, ys, e, h, _⟩ => by rw [e, List.length_cons, h]
section
variable {prog : Program} {w : World} {K : PySem.W.Frag} {mg : Str → Option Value} {base : Heap} {f C0 C : Addr} {fd : FuncData} {st : Stmt} {qual f1 f2 f3 q1 q2 q3 : Str}
abbrev xI (x : TS) (y : TS) : TS := tSeq x y
theorem xone {K : PySem.W.Frag} {C a : Addr} {f1 : Str} {y1 : V} {H : Hp} {D : Ends} {σ : L2.St} (T : OexC K C) (h1 : PySem.W.findIn K (.ref C) f1 = some none) (e : H a = some (exo a C none)) (i j : Nat) (hi : σ[i]? = some (some (.ref a))) (hj : σ[j]? = some (some y1))
    (hq : ∀ (H' : Hp) (d : Addr), H d = none → d ≠ a → H' a = some (exo a C (some d)) → H' d = some (exd d [(f1, y1)]) → (∀ b, b ≠ a → b ≠ d → H' b = H b) → D.nx σ H') : tOst K f1 (tVar i) (tVar j) D σ H := by
  refine ⟨y1, hj, .ref a, hi, a, C, rfl, T, h1, .inl ⟨e, fun dx hn hne => ?_⟩⟩
  exact hq _ dx hn hne upd_same (by rw [upd_ne hne, upd_same]) fun b hb hd => by rw [upd_ne hb, upd_ne hd]
theorem xmore {K : PySem.W.Frag} {C a d : Addr} {f2 : Str} {y2 : V} {fs : List (Str × V)} {H0 H : Hp} {D : Ends} {σ : L2.St} (T : OexC K C) (h2 : PySem.W.findIn K (.ref C) f2 = some none) (hl : fs.length ≤ 900) (hne : d ≠ a) (ea : H a = some (exo a C (some d))) (ed : H d = some (exd d fs)) (hb : ∀ b, b ≠ a → b ≠ d → H b = H0 b)
    (i j : Nat) (hi : σ[i]? = some (some (.ref a))) (hj : σ[j]? = some (some y2)) (hq : ∀ H', H' a = some (exo a C (some d)) → H' d = some (exd d ((f2, y2) :: fs)) → (∀ b, b ≠ a → b ≠ d → H' b = H0 b) → D.nx σ H') : tOst K f2 (tVar i) (tVar j) D σ H :=
  ⟨y2, hj, .ref a, hi, a, C, rfl, T, h2, .inr ⟨d, fs, ea, ed, hl, hq _ (by rw [upd_ne (Ne.symm hne)]; exact ea) upd_same fun b h1 h2 => by rw [upd_ne h2]; exact hb b h1 h2⟩⟩
theorem xsup {K : PySem.W.Frag} {C a : Addr} {H : Hp} {D : Ends} {σ : L2.St} {m : Str} (T : OexC K C) (e : H a = some (exo a C none)) (hi : σ[0]? = some (some (.ref a))) (hq : D.nx σ H) : tDrop (tVeI K (tCons (tVar 0) (tCons (L2.tC (.str m)) tNil))) D σ H :=
  ⟨.ref a, hi, a, C, [.str m], rfl, by simp, T, e, hq⟩
end

/-! ### raise -/
/-- the fields are ts, in the order in which they are handed in -/
def RaiseOk (P : Par) (prog : Program) (w : World) (mg : Str → Option Value) (base : Heap) (x : Str) (c : Nat) (k : Nat) (ts : List Nat) : Prop :=
  ∃ (f : Addr) (fd : FuncData) (ps : List Str), OexC P.K (P.ca c) ∧ (∀ t ∈ ts, PySem.W.findIn P.K (.ref (P.ca c)) (P.fn t) = some none) ∧ PySem.W.findIn P.K (.ref (P.ca c)) "__init__" = some (some (.ref f)) ∧ PySem.W.typeIn P.K (.ref f) = some (.type "function") ∧
    FnOk prog w P.K mg base (L2.CX prog w) k f fd ps (spX P.K (P.ca c) (ts.map P.fn)) ∧ L2.Binds P.K fd ps [] ∧ mg x = some (.ref (P.ca c))
def wRaise (c : Nat) (ts : List Nat) (ta : WTA) : WTS := fun _ σ G E => ta σ G (fun ws G1 => ws.length = ts.length ∧ E ⟨c, (ts.zip ws).reverse⟩ σ G1) E
section
variable {P : Par} {X : Cx} {G G' : WHp} {H H' : Hp}
theorem RelFs.append : ∀ {fs gs : List (Nat × W)} {fv gv : List (Str × V)}, RelFs P G H fs fv → RelFs P G H gs gv → RelFs P G H (fs ++ gs) (fv ++ gv)
  | _, _, _, _, .nil, s => s
  | _, _, _, _, .cons t w v _ _ h r, s => .cons t w v _ _ h (RelFs.append r s)
theorem RelFs.reverse : ∀ {fs : List (Nat × W)} {fv : List (Str × V)}, RelFs P G H fs fv → RelFs P G H fs.reverse fv.reverse
  | _, _, .nil => .nil
  | _, _, .cons t w v _ _ h r => by
    rw [List.reverse_cons, List.reverse_cons]
    exact (RelFs.reverse r).append (.cons t w v _ _ h .nil)
theorem RelFs.zip : ∀ {ts : List Nat} {ws : List W} {vs : List V}, RelWs P G H ws vs → RelFs P G H (ts.zip ws) ((ts.map P.fn).zip vs)
  | [], _, _, _ => .nil
  | t :: ts, _, _, .nil => .nil
  | t :: ts, _, _, .cons w v ws vs h r => .cons t w v _ _ h (RelFs.zip r)
variable {e o : Expr} {es : List Expr} {ta : WTA} {te to : WTE} {x : Str} {p pos apos p1 p2 : Pos}
theorem js_raise {c k : Nat} {ts : List Nat} (C : RaiseOk P X.prog X.w X.mg X.base x c k ts) (hr : Room (k + 1) X.A) (hc : X.calm = true) (hg : Gl X x) (ha : JA P X (e :: es) ta) (hK : X.K = P.K := by rfl) (hl : ts.length ≤ 1000 := by decide) (hdb : (x == ("__debug__" : Str)) = false := by decide)
    (he : starEach (e :: es) X.env = (false, eval e X.env) :: starEach es X.env := by rfl) (hpl : (backTo p1 (starEach es X.env)).any (·.1) = false := by rfl) :
    JS P X (.Raise (some (.Call (.Name x p) (e :: es) [] p1)) none pos) (wRaise c ts ta) := fun Ga Ha Ew tk => by
  obtain ⟨f, fd, ps, T, no, iC, tI, F, hb, hm⟩ := C
  refine PS.imp (ps_raise hc tk (pmk_oex (CX := L2.CX X.prog X.w) (C := P.ca c) (fI := f) (dvs := []) (ds := []) (by rw [hK]; exact T) (by rw [hK]; exact iC) (by rw [hK]; exact tI) (by rw [hK]; exact F) hr (by rw [hK]; exact hb) .nil (fun pins σ H s e s' I hh => ?_) hg hm (ha Ga Ha Ew tk) hdb he hpl)) ?_
  · obtain ⟨_, _, _, _, _, _, _, _, _, _, _, _, z⟩ := hh
    exact z.elim
  · intro D σ H ⟨σw, G, Dw, fa, rs, rp, ht, h1, h2, h3, h4⟩
    refine ⟨σw, G, _, fa, rs, rp, ht, fun ws G1 vs H1 f1 r1 p1 ⟨hlen, hE⟩ => ⟨by rw [← r1.length, hlen]; exact hl, fun a ha => ?_⟩⟩
    refine ⟨a, vs, by rw [List.append_nil], by rw [← r1.length, hlen, List.length_map], T, fun f hf => ?_, upd_same, fun H' d hd hne e1 e2 e3 => ⟨rfl, d, _, e1, e2, by rw [upd_ne hne] at hd; exact hd, ?_⟩⟩
    · obtain ⟨t, ht, rfl⟩ := List.mem_map.mp hf
      exact no t ht
    · have hd' : H1 d = none := by rw [upd_ne hne] at hd; exact hd
      have eH : upd (del H' a) d (.xd ((ts.map P.fn).zip vs).reverse) = upd H1 d (.xd ((ts.map P.fn).zip vs).reverse) := by
        funext b
        by_cases hbd : b = d
        · rw [hbd, upd_same, upd_same]
        · rw [upd_ne hbd, upd_ne hbd]
          by_cases hba : b = a
          · rw [hba, del_same, ha]
          · rw [del_ne hba, e3 b hba hbd, upd_ne hba]
      rw [eH]
      have f2 : Fw G1 H1 G1 (upd H1 d (.xd ((ts.map P.fn).zip vs).reverse)) := .hid hd'
      exact ⟨c, (ts.zip ws).reverse, σw, G1, rfl, fa.trans (f1.trans f2), (rs.fw rp f1).fw p1 f2, p1.hid hd', .inr ⟨d, _, rfl, upd_same, p1.free hd', ((RelFs.zip r1).reverse).fw p1 f2⟩, hE⟩
/-- raise X('..'), X without an own __init__ -/
def Raise0Ok (P : Par) (mg : Str → Option Value) (x : Str) (c : Nat) : Prop := PySem.W.excIn P.K (P.ca c) [.type "ValueError", .type "Exception", .type "BaseException", .type "object"] "ValueError.__new__" = true ∧ mg x = some (.ref (P.ca c)) ∧ PySem.W.keepIn P.K (.ref (P.ca c)) = true ∧
  PySem.W.subIn P.K (.ref (P.ca c)) (.type "BaseException") = some true ∧ PySem.W.typeIn P.K (.ref (P.ca c)) = some (.type "type")

/-! ### try -/
/-- behind a suite: the name is gone; things may be left out of sight -/
def unS (i : Option Nat) (σ : WSt) : WSt := match i with
  | some i => σ.set i none
  | none => σ
def endS (i : Option Nat) (D : WEnds) : WEnds := { nx := fun σ2 G2 => ∃ Gt, Sub Gt G2 ∧ D.nx (unS i σ2) Gt, rt := fun w G2 => ∃ Gt, Sub Gt G2 ∧ D.rt w Gt, bk := fun σ2 G2 => ∃ Gt, Sub Gt G2 ∧ D.bk (unS i σ2) Gt, ct := fun σ2 G2 => ∃ Gt, Sub Gt G2 ∧ D.ct (unS i σ2) Gt }
/-- the suite of a clause 'as n': what was left on the way may be left out of sight -/
def SuiteA (i : Nat) (ts : Nat → Addr → Option Addr → WTS) (D : WEnds) (x : Xc) (a : Addr) (σ' : WSt) (Gs : WHp) : Prop :=
  (x.fs = [] → ts x.c a none (endS (some i) D) (σ'.set i (some (.ref a))) Gs noX) ∧
  ∀ d, Gs d = none → d ≠ a → ts x.c a (some d) (endS (some i) D) (σ'.set i (some (.ref a))) (updG Gs d (.xd x.fs)) noX
def SuiteO (ts : Nat → Addr → Option Addr → WTS) (D : WEnds) (x : Xc) (a : Addr) (σ' : WSt) (Gs : WHp) : Prop :=
  (x.fs = [] → ts x.c a none (endS none D) σ' Gs noX) ∧ ∀ d, Gs d = none → d ≠ a → ts x.c a (some d) (endS none D) σ' (updG Gs d (.xd x.fs)) noX
def wTryAs (cm : Nat → Option Bool) (i : Nat) (tb : WTS) (ts : Nat → Addr → Option Addr → WTS) : WTS := fun D σ G E => tb D σ G (fun x σ' G' => ∃ b, cm x.c = some b ∧
  (b = true → ∃ Gs, Sub Gs G' ∧ ∀ a, Gs a = none → SuiteA i ts D x a σ' Gs) ∧ (b = false → E x σ' G'))
def wTryOnly (cm : Nat → Option Bool) (tb : WTS) (ts : Nat → Addr → Option Addr → WTS) : WTS := fun D σ G E => tb D σ G (fun x σ' G' => ∃ b, cm x.c = some b ∧
  (b = true → ∃ Gs, Sub Gs G' ∧ ∀ a, Gs a = none → SuiteO ts D x a σ' Gs) ∧ (b = false → E x σ' G'))
/-- the exceptions' classes in an except clause -/
def CatchOk (P : Par) (cm : Nat → Option Bool) (kc : Nat) : Prop := ∀ c b, cm c = some b → PySem.W.exmOne P.K (.ref (P.ca c)) (.ref (P.ca kc)) = some b
theorem Fw.unhide {d : Addr} {fv : List (Str × V)} {fs : List (Nat × W)} (h : H d = some (.xd fv)) : Fw G H (updG G d (.xd fs)) H := fun a o e n g => by
  have ne : a ≠ d := fun z => by rw [z, h] at e; cases e; cases n
  exact ⟨e, by rw [updG_ne ne]; exact g⟩
theorem Rep.unhide (rp : Rep P G H) {d : Addr} {fv : List (Str × V)} {fs : List (Nat × W)} (h : H d = some (.xd fv)) (r : RelFs P G H fs fv) : Rep P (updG G d (.xd fs)) H := fun a o e => by
  have f : Fw G H (updG G d (.xd fs)) H := .unhide h
  by_cases z : a = d
  · subst z
    rw [updG_same] at e
    cases e
    exact ⟨fv, h, r.fw rp f⟩
  · rw [updG_ne z] at e
    exact (rp a o e).fw rp f rfl
theorem ExcD.sub {G2 : WHp} {d : Option Addr} {fs : List (Nat × W)} (e : ExcD P G H d fs) (s : ∀ a, G a = none → G2 a = none) : ExcD P G2 H d fs := by
  rcases e with e | ⟨dd, fv, e1, e2, e3, e4⟩
  · exact .inl e
  · exact .inr ⟨dd, fv, e1, e2, s dd e3, e4.sub s⟩
theorem RelSt.unset {o : Option V} : ∀ {σw : WSt} {σ : L2.St} (i : Nat), RelSt P G H σw σ → RelSt P G H (σw.set i none) (σ.set i o)
  | _, _, i, r => RelSt.del i r
variable {kc i : Nat} {cm : Nat → Option Bool} {n : Str} {body suite : List Stmt} {b₀ : Stmt} {np pos' : Pos} {tb : WTS} {ts : Nat → Addr → Option Addr → WTS}
/-- a suite, whatever the exception -/
def tSuite (P : Par) (ts : Nat → Addr → Option Addr → WTS) (a : Addr) (cls : Value) (d : Option Addr) : TS := fun D σ H => ∃ c, cls = .ref (P.ca c) ∧ embS P (fun _ => none) (fun _ => none) noX (ts c a d) D σ H
theorem suite_ok (hsu : ∀ (a : Addr) (oe : Obj) (c : Nat) (d : Option Addr) (pn : List (Addr × Obj)), Zc (.ref (P.ca c)) d oe → (∃ vs, oe.data = .fields vs) → JSs P (X.suite a ((a, oe) :: pn)) (b₀ :: suite) (ts c a d))
    (a : Addr) (oe : Obj) (cls : Value) (d : Option Addr) (pn : List (Addr × Obj)) (hz : Zc cls d oe) (hf : ∃ vs, oe.data = .fields vs) : PSs (X.suite a ((a, oe) :: pn)) (b₀ :: suite) (tSuite P ts a cls d) :=
  ⟨fun pins s σ H D I ⟨c, e, q⟩ => by subst e; exact (hsu a oe c d pn hz hf _ _ _ takesF).run pins s σ H D I q⟩
theorem suite_in {c : Nat} {fs : List (Nat × W)} {a : Addr} {d : Option Addr} {D : Ends} {Dw : WEnds} {σ : L2.St} {σw : WSt} (rs : RelSt P G H σw σ) (rp : Rep P G H) (ha : H a = none) (ed : ExcD P G H d fs)
    (h : (fs = [] → ts c a none Dw σw G noX) ∧ ∀ d, G d = none → d ≠ a → ts c a (some d) Dw σw (updG G d (.xd fs)) noX)
    (h1 : ∀ σw' G' σ' H', Fw G H G' H' → RelSt P G' H' σw' σ' → Rep P G' H' → Dw.nx σw' G' → D.nx σ' H') (h2 : ∀ w G' v H', Fw G H G' H' → RelW P G' H' w v → Rep P G' H' → Dw.rt w G' → D.rt v H')
    (h3 : ∀ σw' G' σ' H', Fw G H G' H' → RelSt P G' H' σw' σ' → Rep P G' H' → Dw.bk σw' G' → D.bk σ' H') (h4 : ∀ σw' G' σ' H', Fw G H G' H' → RelSt P G' H' σw' σ' → Rep P G' H' → Dw.ct σw' G' → D.ct σ' H') :
    tSuite P ts a (.ref (P.ca c)) d D σ H := by
  refine ⟨c, rfl, ?_⟩
  have fany : ∀ G' H', Fw (fun _ => none) (fun _ => none) G' H' := fun G' H' a o h => by cases h
  rcases ed with ⟨rfl, rfl⟩ | ⟨dd, fv, rfl, hd, gd, rf⟩
  · exact ⟨σw, G, Dw, fany _ _, rs, rp, h.1 rfl, h1, h2, h3, h4⟩
  · have f : Fw G H (updG G dd (.xd fs)) H := .unhide hd
    refine ⟨σw, _, Dw, fany _ _, rs.fw rp f, rp.unhide hd rf, h.2 dd gd (fun z => by rw [z, ha] at hd; cases hd), fun a b c d f' => h1 a b c d (f.trans f'), fun a b c d f' => h2 a b c d (f.trans f'), fun a b c d f' => h3 a b c d (f.trans f'), fun a b c d f' => h4 a b c d (f.trans f')⟩
theorem js_try_as (hs : X.stack = X.env :: X.outer) (hf : X.env.frame = some X.env.locals) (hN : X.N.Nodup) (hi : X.N[i]? = some n) (hln : X.env.kindOf n = some .local) (hg : Gl X x) (hm : X.mg x = some (.ref (P.ca kc))) (hcm : CatchOk P cm kc)
    (hb : ∀ (pn : List (Addr × Obj)) (xe : Value → Shared → Prop), PassesOwn (model X.prog X.w) X.A X.env xe → JSs P (X.tr pn xe) body tb)
    (hsu : ∀ (a : Addr) (oe : Obj) (c : Nat) (d : Option Addr) (pn : List (Addr × Obj)), Zc (.ref (P.ca c)) d oe → (∃ vs, oe.data = .fields vs) → JSs P (X.suite a ((a, oe) :: pn)) (b₀ :: suite) (ts c a d)) (hK : X.K = P.K := by rfl) (hdb : (x == ("__debug__" : Str)) = false := by decide) :
    JS P X (.Try body [.ExceptHandler (some (.Name x np)) (some n) (b₀ :: suite) pos'] [] [] pos) (wTryAs cm i tb ts) := fun Ga Ha Ew tk => by
  refine ⟨fun pins s σ H D I h => ?_⟩
  obtain ⟨σw, G, Dw, fa, rs, rp, ht, h1, h2, h3, h4⟩ := h
  refine (ps_try_as (i := i) (c := .ref (P.ca kc)) (Wout := embX P Ga Ha Ew) (tb := fun W D σ H => (∀ cls d σ' H', embX P G H (fun x σ' G' => ∃ b, cm x.c = some b ∧ (b = true → ∃ Gs, Sub Gs G' ∧ ∀ a, Gs a = none → SuiteA i ts Dw x a σ' Gs) ∧ (b = false → Ew x σ' G')) cls d σ' H' → W cls d σ' H') ∧ embS P G H (fun x σ' G' => ∃ b, cm x.c = some b ∧ (b = true → ∃ Gs, Sub Gs G' ∧ ∀ a, Gs a = none → SuiteA i ts Dw x a σ' Gs) ∧ (b = false → Ew x σ' G')) tb D σ H) hs hf hN hi hln ⟨hg, hdb, .inl hm⟩ tk (fun W pn xe tkW hp => ⟨fun pins s σ H D I ⟨i1, i2⟩ => (hb pn xe hp G _ _ (Takes.imp tkW i1)).run pins s σ H D I i2⟩) (suite_ok (ts := ts) hsu)).run pins s σ H D I ?_
  refine ⟨?_, σw, G, Dw, .refl _ _, rs, rp, ht, h1, h2, h3, h4⟩
  rintro cls d σ' H' ⟨c, fs, σw', G', rfl, f', rs', rp', ed, b, hcb, hy, hn⟩
  refine ⟨b, by rw [hK]; exact hcm c b hcb, fun eb a ha => ?_, fun eb => ⟨c, fs, σw', G', rfl, fa.trans f', rs', rp', ed, hn eb⟩⟩
  obtain ⟨Gs, sb, hh⟩ := hy eb
  have f' := f'.sub sb
  refine suite_in (fs := fs) ((rs'.sub sb.nn).set (.ref a) i) (rp'.sub sb) ha (ed.sub sb.nn) (hh a (sb.nn a (rp'.free ha))) (fun a1 b1 c1 d1 f1 r1 p1 ⟨Gt, s1, q⟩ => h1 _ Gt _ d1 ((f'.trans f1).sub s1) ((r1.sub s1.nn).unset i) (p1.sub s1) q) (fun a1 b1 c1 d1 f1 r1 p1 ⟨Gt, s1, q⟩ => h2 a1 Gt c1 d1 ((f'.trans f1).sub s1) (r1.sub s1.nn) (p1.sub s1) q) (fun a1 b1 c1 d1 f1 r1 p1 ⟨Gt, s1, q⟩ => h3 _ Gt _ d1 ((f'.trans f1).sub s1) ((r1.sub s1.nn).unset i) (p1.sub s1) q) (fun a1 b1 c1 d1 f1 r1 p1 ⟨Gt, s1, q⟩ => h4 _ Gt _ d1 ((f'.trans f1).sub s1) ((r1.sub s1.nn).unset i) (p1.sub s1) q)
theorem js_try_only (hs : X.stack = X.env :: X.outer) (hf : X.env.frame = some X.env.locals) (hg : Gl X x) (hm : X.mg x = some (.ref (P.ca kc))) (hcm : CatchOk P cm kc)
    (hb : ∀ (pn : List (Addr × Obj)) (xe : Value → Shared → Prop), PassesOwn (model X.prog X.w) X.A X.env xe → JSs P (X.tr pn xe) body tb)
    (hsu : ∀ (a : Addr) (oe : Obj) (c : Nat) (d : Option Addr) (pn : List (Addr × Obj)), Zc (.ref (P.ca c)) d oe → (∃ vs, oe.data = .fields vs) → JSs P (X.suite a ((a, oe) :: pn)) (b₀ :: suite) (ts c a d)) (hK : X.K = P.K := by rfl) (hdb : (x == ("__debug__" : Str)) = false := by decide) :
    JS P X (.Try body [.ExceptHandler (some (.Name x np)) none (b₀ :: suite) pos'] [] [] pos) (wTryOnly cm tb ts) := fun Ga Ha Ew tk => by
  refine ⟨fun pins s σ H D I h => ?_⟩
  obtain ⟨σw, G, Dw, fa, rs, rp, ht, h1, h2, h3, h4⟩ := h
  refine (ps_try_only (c := .ref (P.ca kc)) (Wout := embX P Ga Ha Ew) (tb := fun W D σ H => (∀ cls d σ' H', embX P G H (fun x σ' G' => ∃ b, cm x.c = some b ∧ (b = true → ∃ Gs, Sub Gs G' ∧ ∀ a, Gs a = none → SuiteO ts Dw x a σ' Gs) ∧ (b = false → Ew x σ' G')) cls d σ' H' → W cls d σ' H') ∧ embS P G H (fun x σ' G' => ∃ b, cm x.c = some b ∧ (b = true → ∃ Gs, Sub Gs G' ∧ ∀ a, Gs a = none → SuiteO ts Dw x a σ' Gs) ∧ (b = false → Ew x σ' G')) tb D σ H) hs hf ⟨hg, hdb, .inl hm⟩ tk (fun W pn xe tkW hp => ⟨fun pins s σ H D I ⟨i1, i2⟩ => (hb pn xe hp G _ _ (Takes.imp tkW i1)).run pins s σ H D I i2⟩) (suite_ok (ts := ts) hsu)).run pins s σ H D I ?_
  refine ⟨?_, σw, G, Dw, .refl _ _, rs, rp, ht, h1, h2, h3, h4⟩
  rintro cls d σ' H' ⟨c, fs, σw', G', rfl, f', rs', rp', ed, b, hcb, hy, hn⟩
  refine ⟨b, by rw [hK]; exact hcm c b hcb, fun eb a ha => ?_, fun eb => ⟨c, fs, σw', G', rfl, fa.trans f', rs', rp', ed, hn eb⟩⟩
  obtain ⟨Gs, sb, hh⟩ := hy eb
  have f' := f'.sub sb
  refine suite_in (fs := fs) (rs'.sub sb.nn) (rp'.sub sb) ha (ed.sub sb.nn) (hh a (sb.nn a (rp'.free ha))) (fun a1 b1 c1 d1 f1 r1 p1 ⟨Gt, s1, q⟩ => h1 _ Gt _ d1 ((f'.trans f1).sub s1) (r1.sub s1.nn) (p1.sub s1) q) (fun a1 b1 c1 d1 f1 r1 p1 ⟨Gt, s1, q⟩ => h2 a1 Gt c1 d1 ((f'.trans f1).sub s1) (r1.sub s1.nn) (p1.sub s1) q) (fun a1 b1 c1 d1 f1 r1 p1 ⟨Gt, s1, q⟩ => h3 _ Gt _ d1 ((f'.trans f1).sub s1) (r1.sub s1.nn) (p1.sub s1) q) (fun a1 b1 c1 d1 f1 r1 p1 ⟨Gt, s1, q⟩ => h4 _ Gt _ d1 ((f'.trans f1).sub s1) (r1.sub s1.nn) (p1.sub s1) q)
/-- in the suite: e.f -/
def wXf (pres : List Nat) (c : Nat) (a : Addr) (d : Option Addr) (t : Nat) (te : WTE) : WTE := fun σ G Q E => c ∈ pres ∧ te σ G (fun w G1 => w = .ref a ∧ ∃ dd fs v, d = some dd ∧ G1 dd = some (.xd fs) ∧ t < NF ∧ fs.lookup t = some v ∧ Q v G1) E
def XfOk (P : Par) (pres : List Nat) : Prop := ∀ c ∈ pres, XfC P.K (P.ca c) ∧ ∀ t, t < NF → PySem.W.findIn P.K (.ref (P.ca c)) (P.fn t) = some none
theorem je_xf {a : Addr} {oe : Obj} {c : Nat} {d : Option Addr} {pn : List (Addr × Obj)} {pres : List Nat} {f : Str} (t : Nat) (hf : P.fn t = f) (T : XfOk P pres) (hz : Zc (.ref (P.ca c)) d oe) (hff : ∃ vs, oe.data = .fields vs) (hK : X.K = P.K) (ht : t < NF) (he : JE P (X.suite a ((a, oe) :: pn)) e te)
    (hb : attributeBase e f X.env (eval e X.env) = eval e X.env := by rfl) : JE P (X.suite a ((a, oe) :: pn)) (.Attribute e f pos) (wXf pres c a d t te) := fun Ga Ha Ew tk => by
  subst hf
  refine ⟨fun pins s σ H Q I ⟨σw, G, Qw, fa, rs, rp, ⟨hp, hh⟩, hq⟩ => ?_⟩
  refine (pe_xf (X := X) (by rw [hK]; exact (T c hp).1) (by rw [hK]; exact (T c hp).2 t ht) hz hff (he Ga Ha Ew tk) hb).run pins s σ H Q I ?_
  refine ⟨σw, G, _, fa, rs, rp, hh, fun w G1 v H1 f1 r1 p1 ⟨e0, dd, fs, v2, e1, e2, _, e3, q⟩ => ?_⟩
  subst e0; subst e1
  cases r1
  obtain ⟨fv, h, rf⟩ := p1 dd _ e2
  obtain ⟨v3, l, r3⟩ := rf.get e3
  exact ⟨rfl, rfl, dd, fv, v3, rfl, h, l, hq _ G1 _ H1 f1 r3 p1 q⟩
end
end Lw
/-! W11: the end: facts of classes; the law's promise. -/
namespace Lw
open PySem PySem.Spec PyProof.Rows L2
def noB (K : PySem.W.Frag) (C : Addr) : Bool := (List.range NF).all fun t => match PySem.W.findIn K (.ref C) (fnT t) with
  | some none => true
  | _ => false
theorem noB_ok {K : PySem.W.Frag} {C : Addr} (h : noB K C = true) : ∀ t, t < NF → PySem.W.findIn K (.ref C) (fnT t) = some none := fun t ht => by
  have := List.all_eq_true.mp h t (List.mem_range.mpr ht)
  split at this
  · assumption
  · cases this
def caOf (l : List (Nat × Addr)) (c : Nat) : Addr := (l.lookup c).getD 0
def cmOf (pres : List Nat) (kc c : Nat) : Option Bool := if c ∈ pres then some (kc == 0 || c == kc) else none
theorem catch_mk {P : Par} {pres : List Nat} {kc : Nat} (h : ∀ c ∈ pres, PySem.W.exmOne P.K (.ref (P.ca c)) (.ref (P.ca kc)) = some (kc == 0 || c == kc)) : CatchOk P (cmOf pres kc) kc := fun c b e => by
  unfold cmOf at e
  split at e
  · rename_i hc
    cases e
    exact h c hc
  · cases e
def wRaise0 (c : Nat) : WTS := fun _ σ G E => E ⟨c, []⟩ σ G
theorem js_raise0 {P : Par} {X : Cx} {c : Nat} {x m : Str} {j : Nat} {p p1 p2 pos : Pos} (C : Raise0Ok P X.mg x c) (hc : X.calm = true) (hg : Gl X x) (hK : X.K = P.K := by rfl) (hdb : (x == ("__debug__" : Str)) = false := by decide) :
    JS P X (.Raise (some (.Call (.Name x p) [.Constant (.str m) j p2] [] p1)) none pos) (wRaise0 c) := fun Ga Ha Ew tk => by
  obtain ⟨q, gC, kC, b, t⟩ := C
  refine PS.imp (ps_raise hc tk (pmk_own (C := P.ca c) PySem.F.excBase_ValueError (by rw [hK]; exact q) gC (by rw [hK]; exact kC) (raises_own (by rw [hK]; exact b) (by rw [hK]; exact t)) hg hdb)) fun D σ H ⟨σw, G, Dw, fa, rs, rp, ht, h1, h2, h3, h4⟩ => ?_
  exact ⟨c, [], σw, G, rfl, fa, rs, rp, .inl ⟨rfl, rfl⟩, ht⟩
/-- the law's promise -/
def spLawV (K : PySem.W.Frag) : Sp := fun vs H Q _ => ∃ (a : Addr) (ns : List Int), vs = [.ref a] ∧ ns.length ≤ 63 ∧ Only H ∧ SqL K H a (ns.map V.int) ∧ ∀ H', Q (.bl true) H'
theorem law_imp (P : Par) : ∀ vs H Q E, spLawV P.K vs H Q E → embSp P spLaw vs H Q E := fun vs H Q E ⟨a, ns, e, hl, hO, hS, q⟩ => by
  subst e
  obtain ⟨ws, G, Qw, Ew, r, rp, hs, hq, hE⟩ := law_sp P hl hO hS
  refine ⟨ws, G, fun w _ => w = .bl true, fun _ _ => False, r, rp, ?_, fun w G' v H' _ r' _ e => by subst e; cases r'; exact q H', fun _ _ _ _ _ _ _ _ z => z.elim⟩
  obtain ⟨ns', e1, e2, e3, _⟩ := hs
  exact ⟨ns', e1, e2, e3, fun _ => rfl⟩
/-- field facts by names -/
theorem mem_all {α : Type} {p : α → Prop} {a : α} {l : List α} (h : p a) (hl : ∀ b ∈ l, p b) : ∀ b ∈ a :: l, p b := fun b hb => by
  rcases List.mem_cons.mp hb with e | e
  · subst e; exact h
  · exact hl b e
theorem mem_none {α : Type} {p : α → Prop} : ∀ b ∈ ([] : List α), p b := fun _ h => nomatch h
end Lw

/-! the names, one by one -/
namespace Lw
open PySem
theorem fe_name : fnT 0 = ("name" : Str) := by decide +kernel
theorem fe_start : fnT 1 = ("start" : Str) := by decide +kernel
theorem fe_end : fnT 2 = ("end" : Str) := by decide +kernel
theorem fe_off : fnT 3 = ("off" : Str) := by decide +kernel
theorem fe_near : fnT 4 = ("near" : Str) := by decide +kernel
theorem fe_least : fnT 5 = ("least" : Str) := by decide +kernel
theorem fe_kind : fnT 6 = ("kind" : Str) := by decide +kernel
theorem fe_places : fnT 7 = ("places" : Str) := by decide +kernel
theorem fe_own_ways : fnT 8 = ("own_ways" : Str) := by decide +kernel
theorem fe_row : fnT 9 = ("row" : Str) := by decide +kernel
theorem fe_word : fnT 10 = ("word" : Str) := by decide +kernel
theorem fe_way : fnT 11 = ("way" : Str) := by decide +kernel
theorem fe_at : fnT 12 = ("at" : Str) := by decide +kernel
theorem fe_other : fnT 13 = ("other" : Str) := by decide +kernel
theorem fe_crossing : fnT 14 = ("crossing" : Str) := by decide +kernel
theorem fe_size : fnT 15 = ("size" : Str) := by decide +kernel
theorem fe_rows : fnT 16 = ("rows" : Str) := by decide +kernel
theorem fe_bits : fnT 17 = ("bits" : Str) := by decide +kernel
theorem fe_many : fnT 18 = ("many" : Str) := by decide +kernel
theorem fe_bounds : fnT 19 = ("bounds" : Str) := by decide +kernel
theorem fe_members : fnT 20 = ("members" : Str) := by decide +kernel
theorem fe_trams : fnT 21 = ("trams" : Str) := by decide +kernel
theorem fe_leaving : fnT 22 = ("leaving" : Str) := by decide +kernel
theorem fe_entering : fnT 23 = ("entering" : Str) := by decide +kernel
theorem fe_plan : fnT 24 = ("plan" : Str) := by decide +kernel
theorem fe_here : fnT 25 = ("here" : Str) := by decide +kernel
theorem fe_lasted : fnT 26 = ("lasted" : Str) := by decide +kernel
theorem fe_left : fnT 27 = ("left" : Str) := by decide +kernel
theorem fe_coming : fnT 28 = ("coming" : Str) := by decide +kernel
theorem fe_gone : fnT 29 = ("gone" : Str) := by decide +kernel
theorem fe_waiting : fnT 30 = ("waiting" : Str) := by decide +kernel
theorem fe_picked : fnT 31 = ("picked" : Str) := by decide +kernel
theorem fe_asked : fnT 32 = ("asked" : Str) := by decide +kernel
theorem fe_asks : fnT 33 = ("asks" : Str) := by decide +kernel
theorem fe_begin : fnT 34 = ("begin" : Str) := by decide +kernel
theorem fe_keeper : fnT 35 = ("keeper" : Str) := by decide +kernel
theorem fe_turn : fnT 36 = ("turn" : Str) := by decide +kernel
theorem fe_lines : fnT 37 = ("lines" : Str) := by decide +kernel
theorem fe_crossing_book : fnT 38 = ("crossing_book" : Str) := by decide +kernel
theorem fe_plan_book : fnT 39 = ("plan_book" : Str) := by decide +kernel
theorem fe_keeper_book : fnT 40 = ("keeper_book" : Str) := by decide +kernel
theorem fe_alone : fnT 41 = ("alone" : Str) := by decide +kernel
theorem fe_behind : fnT 42 = ("behind" : Str) := by decide +kernel
theorem fe_ready : fnT 48 = ("ready" : Str) := by decide +kernel
theorem fe_fade : fnT 49 = ("fade" : Str) := by decide +kernel
theorem fe_goes : fnT 50 = ("goes" : Str) := by decide +kernel
theorem fe_face : fnT 51 = ("face" : Str) := by decide +kernel
theorem fe_names : fnT 52 = ("names" : Str) := by decide +kernel
theorem fe_number : fnT 53 = ("number" : Str) := by decide +kernel
theorem fe_called : fnT 54 = ("called" : Str) := by decide +kernel
theorem fe_bits_of : fnT 55 = ("bits_of" : Str) := by decide +kernel
theorem fe_told_rows : fnT 56 = ("told_rows" : Str) := by decide +kernel
theorem fe_shown : fnT 57 = ("shown" : Str) := by decide +kernel
theorem fe_stage : fnT 58 = ("stage" : Str) := by decide +kernel
theorem fe_waits : fnT 59 = ("waits" : Str) := by decide +kernel
theorem fe_pass_turn : fnT 60 = ("pass_turn" : Str) := by decide +kernel
theorem fe_stays : fnT 61 = ("stays" : Str) := by decide +kernel
theorem fe_leave : fnT 62 = ("leave" : Str) := by decide +kernel
theorem fe_go_on : fnT 63 = ("go_on" : Str) := by decide +kernel
theorem fe_pick : fnT 64 = ("pick" : Str) := by decide +kernel
theorem fe_step : fnT 65 = ("step" : Str) := by decide +kernel
theorem fe_wait_for : fnT 66 = ("wait_for" : Str) := by decide +kernel
theorem fe_bring : fnT 67 = ("bring" : Str) := by decide +kernel
theorem fe_stay : fnT 68 = ("stay" : Str) := by decide +kernel
theorem fe_let_go : fnT 69 = ("let_go" : Str) := by decide +kernel
theorem fe_standing : fnT 70 = ("standing" : Str) := by decide +kernel
theorem fe_queues : fnT 71 = ("queues" : Str) := by decide +kernel
theorem fe_say : fnT 72 = ("say" : Str) := by decide +kernel
theorem fe_keep : fnT 73 = ("keep" : Str) := by decide +kernel
theorem fe_told : fnT 74 = ("told" : Str) := by decide +kernel
end Lw
/-! W12: readings of fields, methods, dicts on known values. -/
namespace Lw
open PySem PySem.Spec PyProof.Rows L2
section
variable {G : WHp} {Q : WQ} {σ : WSt} {E : WXK}
theorem objOf_io {c : Nat} {fs : List (Nat × W)} : objOf G (.io c fs) = some (c, fs) := rfl
theorem objOf_ref {p : Addr} {c : Nat} {fs : List (Nat × W)} (h : G p = some (.obj c fs)) : objOf G (.ref p) = some (c, fs) := by simp [objOf, h]
theorem fld_io {c t : Nat} {fs : List (Nat × W)} {R : W → Prop} : (∃ c' fs' w, objOf G (.io c fs) = some (c', fs') ∧ t < NF ∧ fs'.lookup t = some w ∧ R w) = (t < NF ∧ ∃ w, fs.lookup t = some w ∧ R w) := by
  apply propext
  constructor
  · rintro ⟨c', fs', w, e, h, l, r⟩
    cases e
    exact ⟨h, w, l, r⟩
  · rintro ⟨h, w, l, r⟩
    exact ⟨c, fs, w, rfl, h, l, r⟩
theorem meth_io {c t : Nat} {cs : List Nat} {fs : List (Nat × W)} {R : Nat → Prop} : (∃ c' fs', objOf G (.io c fs) = some (c', fs') ∧ c' ∈ cs ∧ fs'.lookup t = none ∧ R c') = (c ∈ cs ∧ fs.lookup t = none ∧ R c) := by
  apply propext
  constructor
  · rintro ⟨c', fs', e, h, l, r⟩
    cases e
    exact ⟨h, l, r⟩
  · rintro ⟨h, l, r⟩
    exact ⟨c, fs, rfl, h, l, r⟩
theorem obj_io {c : Nat} {fs : List (Nat × W)} {R : Nat → List (Nat × W) → Prop} : (∃ c' fs', objOf G (.io c fs) = some (c', fs') ∧ R c' fs') = R c fs := by
  apply propext
  constructor
  · rintro ⟨c', fs', e, r⟩
    cases e
    exact r
  · exact fun r => ⟨c, fs, rfl, r⟩
theorem lk_hit {t : Nat} {w : W} {fs : List (Nat × W)} : ((t, w) :: fs).lookup t = some w := by simp [List.lookup]
theorem lk_miss {t u : Nat} {w : W} {fs : List (Nat × W)} (h : (t == u) = false) : ((u, w) :: fs).lookup t = fs.lookup t := by simp [List.lookup, h]
theorem lk_nil {t : Nat} : ([] : List (Nat × W)).lookup t = none := rfl
theorem lt_NF {t : Nat} : (t < NF) = (t < 48) := rfl
theorem putW_nil {t : Nat} {w : W} : putW t w [] = [(t, w)] := rfl
theorem putW_hit {t : Nat} {w x : W} {fs : List (Nat × W)} : putW t w ((t, x) :: fs) = (t, w) :: fs := if_pos rfl
theorem putW_miss {t u : Nat} {w x : W} {fs : List (Nat × W)} (h : (u == t) = false) : putW t w ((u, x) :: fs) = (u, x) :: putW t w fs := if_neg (by simpa using h)
/-- a new list, a new thing, seen as a value -/
theorem vw_lst {p : Addr} {xs : List W} (h : G p = none) (q : Q (.il xs) G) : ∃ w2 G2, View (.ref p) (updG G p (.lst xs)) w2 G2 ∧ Q w2 G2 := ⟨_, _, .lstN h, q⟩
theorem vw_dct {p : Addr} {xs : List (KW × W)} (h : G p = none) (q : Q (.dk xs) G) : ∃ w2 G2, View (.ref p) (updG G p (.dct xs)) w2 G2 ∧ Q w2 G2 := ⟨_, _, .dctN h, q⟩
theorem vw_obj {p : Addr} {c : Nat} {fs : List (Nat × W)} (h : G p = none) (q : Q (.io c fs) G) : ∃ w2 G2, View (.ref p) (updG G p (.obj c fs)) w2 G2 ∧ Q w2 G2 := ⟨_, _, .objN h, q⟩
/-- a tuple whose last item is a new list -/
theorem vw_tup2 {p : Addr} {a : W} {xs : List W} (h : G p = none) (q : Q (.tup [a, .il xs]) G) : ∃ w2 G2, View (.tup [a, .ref p]) (updG G p (.lst xs)) w2 G2 ∧ Q w2 G2 :=
  ⟨_, G, ⟨.new h, .inr (.inl ⟨_, _, rfl, rfl, .cons _ _ _ _ (.same a) (.cons _ _ _ _ (.lst p xs updG_same h) .nil)⟩)⟩, q⟩
/-- the value stays, a new thing is left out of sight -/
theorem vw_drop {p : Addr} {o : WO} {w : W} (h : G p = none) (q : Q w G) : ∃ w2 G2, View w (updG G p o) w2 G2 ∧ Q w2 G2 := ⟨w, G, ⟨.new h, .inl (.same w)⟩, q⟩
theorem vw_sub {G' : WHp} {w : W} (s : Sub G G') (q : Q w G) : ∃ w2 G2, View w G' w2 G2 ∧ Q w2 G2 := ⟨w, G, ⟨s, .inl (.same w)⟩, q⟩
theorem vw_lst' {p : Addr} {xs : List W} {G' : WHp} (h : G p = some (.lst xs)) (e : delG G p = G') (q : Q (.il xs) G') : ∃ w2 G2, View (.ref p) G w2 G2 ∧ Q w2 G2 := ⟨_, _, .lst h, by rw [e]; exact q⟩
theorem big_val : big = 16777216 := rfl
theorem oSub_int (i j : Int) : oSub (.int i) (.int j) G Q = Q (.int (i - j)) G := by show (True ∧ Q _ G) = _; rw [true_and]
theorem oMul_int (i j : Int) : oMul (.int i) (.int j) G Q = (CMul i j ∧ Q (.int (i * j)) G) := rfl
theorem oMod_int (i j : Int) : oMod (.int i) (.int j) G Q = (0 < j ∧ Q (.int (i % j)) G) := rfl
theorem oDiv_int (i j : Int) : oDiv (.int i) (.int j) G Q = (CDiv i j ∧ Q (.int (i / j)) G) := rfl
theorem oPow_int (i j : Int) : oPow (.int i) (.int j) G Q = (CPow i j ∧ Q (.int (i ^ j.toNat)) G) := rfl
theorem oShl_int (i j : Int) : oShl (.int i) (.int j) G Q = (CShl i j ∧ Q (.int (i * 2 ^ j.toNat)) G) := rfl
theorem oShr_int (i j : Int) : oShr (.int i) (.int j) G Q = (0 ≤ j ∧ Q (.int (i / 2 ^ j.toNat)) G) := rfl
theorem oAnd_int (i j : Int) : oAnd (.int i) (.int j) G Q = Q (.int (Builtin.bitAnd i j)) G := by show (True ∧ Q _ G) = _; rw [true_and]
theorem oOr_int (i j : Int) : oOr (.int i) (.int j) G Q = Q (.int (Builtin.bitOr i j)) G := by show (True ∧ Q _ G) = _; rw [true_and]
theorem oLt_int (i j : Int) : oLt (.int i) (.int j) G Q = Q (.bl (decide (i < j))) G := rfl
theorem oLe_int (i j : Int) : oLe (.int i) (.int j) G Q = Q (.bl (decide (i ≤ j))) G := rfl
theorem oGt_int (i j : Int) : oGt (.int i) (.int j) G Q = Q (.bl (decide (j < i))) G := rfl
theorem oGe_int (i j : Int) : oGe (.int i) (.int j) G Q = Q (.bl (decide (j ≤ i))) G := rfl
theorem mulL {i j : Int} (h0 : 0 ≤ i) (h : i ≤ 1000000000000) : CMul i j := .inl ⟨by omega, by omega⟩
theorem mulR {i j : Int} (h0 : 0 ≤ j) (h : j ≤ 1000000000000) : CMul i j := .inr ⟨by omega, by omega⟩
/-- a dict by its keys -/
theorem valW_hit {k : KW} {w : W} {kvs : List (KW × W)} : valW ((k, w) :: kvs) k = some w := by simp [valW]
theorem valW_miss {k l : KW} {w : W} {kvs : List (KW × W)} (h : l ≠ k) : valW ((l, w) :: kvs) k = valW kvs k := by simp [valW, List.find?_cons, h]
theorem valW_nil {k : KW} : valW [] k = none := rfl
theorem dOf_dk {kvs : List (KW × W)} : dOf G (.dk kvs) = some kvs := rfl
theorem dOf_ref {p : Addr} {kvs : List (KW × W)} (h : G p = some (.dct kvs)) : dOf G (.ref p) = some kvs := by simp [dOf, h]
theorem kW_str {s : List Nat} : kW (.str s) = some (.inr s) := rfl
theorem kW_int {i : Int} : kW (.int i) = some (.inl i) := rfl
theorem keyW_str {s : List Nat} : keyW (.inr s) = .str s := rfl
theorem keyW_int {i : Int} : keyW (.inl i) = .int i := rfl
end
/-- a tuple of the written part -/
theorem glob_tup {P : Par} {mg : Str → Option Value} {x : Str} {u : Addr} {ws : List W} {vs : List V} {its : Array Value} {n : Nat} {d : Option Addr} {sl : Array (Option Value)} (hm : mg x = some (.ref u)) (hl : P.K.lookup u = some ⟨.type "tuple", d, .seq its n, sl⟩) (hs : its.size ≤ 1000)
    (hv : Vals vs its.toList) (hw : ∀ G H, RelWs P G H ws vs) : GlobOk P mg x (.tup ws) :=
  ⟨.ref u, .ref u, hm, rfl, fun G H => .tup u vs ws (.inr ⟨_, its, n, hl, rfl, rfl, Nat.le_trans hs (by rw [big_eq]; decide), hv⟩) (hw G H)⟩
/-! exceptions -/
def xNoText (r w : Int) : Xc := ⟨1, [(10, .int w), (9, .int r)]⟩
def xNoWay (n : List Nat) : Xc := ⟨2, [(0, .str n)]⟩
def xNever (n : List Nat) : Xc := ⟨3, [(11, .str n)]⟩
def xShort (n : List Nat) (k : Int) : Xc := ⟨4, [(12, .int k), (11, .str n)]⟩
def xClash (n m : List Nat) (k : Int) : Xc := ⟨5, [(12, .int k), (13, .str m), (11, .str n)]⟩
def xNoName (n : List Nat) : Xc := ⟨8, [(0, .str n)]⟩
/-- an exception may leave things behind -/
def exS (E : Xc → WHp → Prop) (x : Xc) (G : WHp) : Prop := ∀ G', Sub G G' → E x G'
theorem exS.sub {E : Xc → WHp → Prop} {x : Xc} {G G' : WHp} (h : exS E x G) (s : Sub G G') : exS E x G' := fun G2 s2 => h G2 (s.trans s2)
theorem exS.now {E : Xc → WHp → Prop} {x : Xc} {G : WHp} (h : exS E x G) : E x G := h G (.refl G)
/-! words of the program -/
def tCAR : List Nat := [99, 97, 114]
def tFOOT : List Nat := [102, 111, 111, 116]
def tTRAM : List Nat := [116, 114, 97, 109]
def tSTOP : List Nat := [115, 116, 111, 112]
def tREADY : List Nat := [114, 101, 97, 100, 121]
def tFREE : List Nat := [102, 114, 101, 101]
def tFADE : List Nat := [102, 97, 100, 101]
end Lw
/-! W13: loops and comprehensions, as one uses them. -/
namespace Lw
open PySem PySem.Spec PyProof.Rows L2
section
variable {g : WTG} {tb : WTS} {D : WEnds} {σ : WSt} {G : WHp} {E : WXK} {ok : WHp → Prop}
/-- one turn of a loop -/
abbrev turnW (g : WTG) (tb : WTS) (D : WEnds) (E : WXK) (Inv : Nat → WSt → WHp → Prop) (i : Nat) (w : W) (σ' : WSt) (G' : WHp) : Prop :=
  g w σ' G' (fun σ2 G2 => tb { nx := Inv (i + 1), rt := D.rt, bk := D.nx, ct := Inv (i + 1) } σ2 G2 E) E
/-- over items that never change -/
theorem lp_it {ws : List W} (Inv : Nat → WSt → WHp → Prop) (h0 : Inv 0 σ G) (hs : ∀ i w σ' G', ws[i]? = some w → Inv i σ' G' → turnW g tb D E Inv i w σ' G') (hd : ∀ σ' G', Inv ws.length σ' G' → D.nx σ' G') : LoopOk g tb D σ E ws (fun _ => True) G :=
  ⟨Inv, h0, fun _ _ _ _ _ => trivial, hs, hd⟩
theorem lp_ok {ws : List W} (Inv : Nat → WSt → WHp → Prop) (h0 : Inv 0 σ G) (hk : ∀ i σ' G', i ≤ ws.length → Inv i σ' G' → ok G') (hs : ∀ i w σ' G', ws[i]? = some w → Inv i σ' G' → turnW g tb D E Inv i w σ' G') (hd : ∀ σ' G', Inv ws.length σ' G' → D.nx σ' G') : LoopOk g tb D σ E ws ok G :=
  ⟨Inv, h0, hk, hs, hd⟩
/-- over range(n) -/
theorem lp_r {j : Int} (Inv : Nat → WSt → WHp → Prop) (h0 : Inv 0 σ G) (hs : ∀ (i : Nat) σ' G', (i : Int) < j → Inv i σ' G' → turnW g tb D E Inv i (.int i) σ' G') (hd : ∀ σ' G', Inv j.toNat σ' G' → D.nx σ' G') : LoopOk g tb D σ E (rngW 0 j.toNat) (fun _ => True) G :=
  ⟨Inv, h0, fun _ _ _ _ _ => trivial, fun i x σ' G' hx h => by
    obtain ⟨hi, rfl⟩ := rngW_get hx
    rw [Int.zero_add]
    exact hs i σ' G' (by omega) h, fun σ' G' h => hd σ' G' (by rw [rngW_len] at h; exact h)⟩
theorem lp_r2 {lo j : Int} (Inv : Nat → WSt → WHp → Prop) (h0 : Inv 0 σ G) (hs : ∀ (i : Nat) σ' G', lo + i < j → Inv i σ' G' → turnW g tb D E Inv i (.int (lo + i)) σ' G') (hd : ∀ σ' G', Inv (j - lo).toNat σ' G' → D.nx σ' G') : LoopOk g tb D σ E (rngW lo (j - lo).toNat) (fun _ => True) G :=
  ⟨Inv, h0, fun _ _ _ _ _ => trivial, fun i x σ' G' hx h => by
    obtain ⟨hi, rfl⟩ := rngW_get hx
    exact hs i σ' G' (by omega) h, fun σ' G' h => hd σ' G' (by rw [rngW_len] at h; exact h)⟩
/-- with places -/
theorem lp_en {ws : List W} (Inv : Nat → WSt → WHp → Prop) (h0 : Inv 0 σ G) (hk : ∀ i σ' G', i ≤ ws.length → Inv i σ' G' → ok G') (hs : ∀ (i : Nat) w σ' G', ws[i]? = some w → Inv i σ' G' → turnW g tb D E Inv i (.tup [.int i, w]) σ' G') (hd : ∀ σ' G', Inv ws.length σ' G' → D.nx σ' G') : LoopOk g tb D σ E (enumW 0 ws) ok G :=
  ⟨Inv, h0, fun i σ' G' hi h => hk i σ' G' (by rw [enumW_len] at hi; exact hi) h, fun i x σ' G' hx h => by
    obtain ⟨w, hw, rfl⟩ := enumW_get hx
    rw [Nat.zero_add]
    exact hs i w σ' G' hw h, fun σ' G' h => hd σ' G' (by rw [enumW_len] at h; exact h)⟩
variable {te : WTE} {R : List W → (WHp → Prop) → WHp → Prop} {Q : WQ}
theorem gtup2 {i j : Nat} {a b : W} {K : WSt → WHp → Prop} : wGTup 2 (wGCons (wN i) (wGCons (wN j) wGNil)) (.tup [a, b]) σ G K E = K ((σ.set i (some a)).set j (some b)) G := by
  apply propext
  constructor
  · rintro ⟨xs, e, _, v, r, e2, v2, r2, e3, e4, q⟩
    cases e; cases e2; cases e3
    exact q
  · exact fun q => ⟨_, rfl, rfl, _, _, rfl, _, _, rfl, rfl, q⟩
theorem gtup3 {i j k : Nat} {a b c : W} {K : WSt → WHp → Prop} : wGTup 3 (wGCons (wN i) (wGCons (wN j) (wGCons (wN k) wGNil))) (.tup [a, b, c]) σ G K E = K (((σ.set i (some a)).set j (some b)).set k (some c)) G := by
  apply propext
  constructor
  · rintro ⟨xs, e, _, v, r, e2, v2, r2, e3, v3, r3, e4, e5, q⟩
    cases e; cases e2; cases e3; cases e4
    exact q
  · exact fun q => ⟨_, rfl, rfl, _, _, rfl, _, _, rfl, _, _, rfl, rfl, q⟩
theorem wIter_tup {xs : List W} (h : te = wC (.tup xs)) : wIter te σ G R E = R xs (fun _ => True) G := by subst h; rfl
end
/-- what is walked, once it is known -/
def iterQ (x : W) (R : List W → (WHp → Prop) → WHp → Prop) (G : WHp) : Prop := match x with
  | .tup ws => R ws (fun _ => True) G
  | .str s => R (s.map fun c => .str [c]) (fun _ => True) G
  | .il ws => R ws (fun _ => True) G
  | .sc ns => R (ns.map .int) (fun _ => True) G
  | .ref p => ∃ ws, G p = some (.lst ws) ∧ R ws (fun G' => G' p = some (.lst ws)) G
  | _ => False
theorem wIter_eq {te : WTE} {σ : WSt} {G : WHp} {R : List W → (WHp → Prop) → WHp → Prop} {E : WXK} : wIter te σ G R E = te σ G (fun x G1 => iterQ x R G1) E := rfl
section
variable {R : List W → (WHp → Prop) → WHp → Prop} {G : WHp}
theorem iterQ_tup {ws : List W} : iterQ (.tup ws) R G = R ws (fun _ => True) G := rfl
theorem iterQ_il {ws : List W} : iterQ (.il ws) R G = R ws (fun _ => True) G := rfl
theorem iterQ_sc {ws : List Int} : iterQ (.sc ws) R G = R (ws.map .int) (fun _ => True) G := rfl
theorem iterQ_str {s : List Nat} : iterQ (.str s) R G = R (s.map fun c => .str [c]) (fun _ => True) G := rfl
theorem iterQ_ref {p : Addr} : iterQ (.ref p) R G = ∃ ws, G p = some (.lst ws) ∧ R ws (fun G' => G' p = some (.lst ws)) G := rfl
theorem srcL_il {ws : List W} {R : List W → (WHp → Prop) → Prop} : srcL G (.il ws) R = R ws (fun _ => True) := rfl
theorem srcL_sc {ws : List Int} {R : List W → (WHp → Prop) → Prop} : srcL G (.sc ws) R = R (ws.map .int) (fun _ => True) := rfl
theorem srcL_ref {p : Addr} {R : List W → (WHp → Prop) → Prop} : srcL G (.ref p) R = ∃ ws, G p = some (.lst ws) ∧ R ws (fun G' => G' p = some (.lst ws)) := rfl
end
/-! ### comprehensions -/
section
variable {j : Nat} {tt : WTT} {te : WTE} {σ : WSt} {G : WHp} {Q : WQ} {ok : WHp → Prop} {xs : List W}
/-- G with a new list at hand -/
def Ext (G G' : WHp) : Prop := ∃ D acc, G D = none ∧ G' = updG G D (.lst acc)
theorem Ext.at {G G' : WHp} (e : Ext G G') {p : Addr} {o : WO} (h : G p = some o) : G' p = some o := by
  obtain ⟨D, acc, hD, rfl⟩ := e
  rw [updG_ne (fun z => by rw [← z, h] at hD; cases hD)]; exact h
/-- some invariant of the items -/
theorem lc_inv {fin : Addr → List W → WHp → WQ → Prop} (Pv : Nat → List W → Prop) (hl : xs.length ≤ 16777216) (hk : ∀ G', Ext G G' → ok G') (h0 : Pv 0 []) (hlen : ∀ k acc, Pv k acc → acc.length ≤ k)
    (hs : ∀ (k : Nat) x acc G' (Qb : Bool → WHp → Prop), xs[k]? = some x → Pv k acc → Ext G G' → (∀ b, (b = false → Pv (k + 1) acc) → (b = true → ∀ Q' : WQ, (∀ y, Pv (k + 1) (acc ++ [y]) → Q' y G') → te (σ.set j (some x)) G' Q' noX) → Qb b G') → tt (σ.set j (some x)) G' Qb noX)
    (q : ∀ acc D, G D = none → Pv xs.length acc → fin D acc (updG G D (.lst acc)) Q) : LcOk fin j tt te σ Q xs ok G := by
  refine ⟨hl, fun D hD => ⟨fun k acc G' => G' = updG G D (.lst acc) ∧ Pv k acc, ⟨rfl, h0⟩, ?_, ?_, ?_⟩⟩
  · rintro k acc G' hk' ⟨rfl, hp⟩
    exact ⟨hk _ ⟨D, _, hD, rfl⟩, updG_same, hlen k acc hp⟩
  · rintro k x acc G' hx ⟨rfl, hp⟩
    rw [List.set_set]
    refine hs k x acc _ _ hx hp ⟨D, _, hD, rfl⟩ fun b hf ht => ?_
    cases b with
    | true => exact ht rfl _ fun y hy => ⟨updG_same, by rw [updG_updG], hy⟩
    | false => exact ⟨rfl, hf rfl⟩
  · rintro acc G' ⟨rfl, hp⟩
    exact q acc D hD hp
theorem lcI_inv (Pv : Nat → List W → Prop) (hl : xs.length ≤ 16777216) (hk : ∀ G', Ext G G' → ok G') (h0 : Pv 0 []) (hlen : ∀ k acc, Pv k acc → acc.length ≤ k)
    (hs : ∀ (k : Nat) x acc G' (Q' : WQ), xs[k]? = some x → Pv k acc → Ext G G' → (∀ y, Pv (k + 1) (acc ++ [y]) → Q' y G') → te (σ.set j (some x)) G' Q' noX)
    (q : ∀ acc, Pv xs.length acc → Q (.il acc) G) : LcOk finI j wYes te σ Q xs ok G :=
  lc_inv Pv hl hk h0 hlen (fun k x acc G' Qb hx hp he hb => hb true (fun z => nomatch z) fun _ Q' hq => hs k x acc G' Q' hx hp he hq) fun acc D hD hp => by show Q _ (delG _ D); rw [delG_updG hD]; exact q acc hp
theorem lcM_inv (Pv : Nat → List W → Prop) (hl : xs.length ≤ 16777216) (hk : ∀ G', Ext G G' → ok G') (h0 : Pv 0 []) (hlen : ∀ k acc, Pv k acc → acc.length ≤ k)
    (hs : ∀ (k : Nat) x acc G' (Q' : WQ), xs[k]? = some x → Pv k acc → Ext G G' → (∀ y, Pv (k + 1) (acc ++ [y]) → Q' y G') → te (σ.set j (some x)) G' Q' noX)
    (q : ∀ acc p, G p = none → Pv xs.length acc → Q (.ref p) (updG G p (.lst acc))) : LcOk finM j wYes te σ Q xs ok G :=
  lc_inv Pv hl hk h0 hlen (fun k x acc G' Qb hx hp he hb => hb true (fun z => nomatch z) fun _ Q' hq => hs k x acc G' Q' hx hp he hq) fun acc D hD hp => q acc D hD hp
/-- the items by a function -/
theorem lcI_map (f : W → W) (hl : xs.length ≤ 16777216) (hk : ∀ G', Ext G G' → ok G') (hs : ∀ (k : Nat) x G' (Q' : WQ), xs[k]? = some x → Ext G G' → Q' (f x) G' → te (σ.set j (some x)) G' Q' noX)
    (q : Q (.il (xs.map f)) G) : LcOk finI j wYes te σ Q xs ok G := by
  refine lcI_inv (fun k acc => acc = (xs.take k).map f) hl hk (by simp) (fun k acc e => by rw [e, List.length_map, List.length_take]; omega) (fun k x acc G' Q' hx e he hq => hs k x G' Q' hx he (hq _ ?_)) fun acc e => ?_
  · rw [e, List.take_add_one, hx]; simp
  · rw [e, List.take_length]; exact q
theorem lcM_map (f : W → W) (hl : xs.length ≤ 16777216) (hk : ∀ G', Ext G G' → ok G') (hs : ∀ (k : Nat) x G' (Q' : WQ), xs[k]? = some x → Ext G G' → Q' (f x) G' → te (σ.set j (some x)) G' Q' noX)
    (q : ∀ p, G p = none → Q (.ref p) (updG G p (.lst (xs.map f)))) : LcOk finM j wYes te σ Q xs ok G := by
  refine lcM_inv (fun k acc => acc = (xs.take k).map f) hl hk (by simp) (fun k acc e => by rw [e, List.length_map, List.length_take]; omega) (fun k x acc G' Q' hx e he hq => hs k x G' Q' hx he (hq _ ?_)) fun acc p hp e => ?_
  · rw [e, List.take_add_one, hx]; simp
  · rw [e, List.take_length]; exact q p hp
/-- .. those that pass a test -/
theorem lcI_filter (t : W → Bool) (f : W → W) (hl : xs.length ≤ 16777216) (hk : ∀ G', Ext G G' → ok G') (ht : ∀ (k : Nat) x G' (Qb : Bool → WHp → Prop), xs[k]? = some x → Ext G G' → Qb (t x) G' → tt (σ.set j (some x)) G' Qb noX)
    (hs : ∀ (k : Nat) x G' (Q' : WQ), xs[k]? = some x → t x = true → Ext G G' → Q' (f x) G' → te (σ.set j (some x)) G' Q' noX) (q : Q (.il ((xs.filter t).map f)) G) : LcOk finI j tt te σ Q xs ok G := by
  refine lc_inv (fun k acc => acc = ((xs.take k).filter t).map f) hl hk (by simp) (fun k acc e => ?_) (fun k x acc G' Qb hx e he hb => ht k x G' Qb hx he (hb _ (fun hf => ?_) fun htt Q' hq => hs k x G' Q' hx htt he (hq _ ?_))) fun acc D hD e => ?_
  · rw [e, List.length_map]
    refine Nat.le_trans (List.length_filter_le _ _) ?_
    rw [List.length_take]; omega
  · rw [e, List.take_add_one, hx]; simp [hf]
  · rw [e, List.take_add_one, hx]; simp [htt]
  · show Q _ (delG _ D)
    rw [delG_updG hD, e, List.take_length]; exact q
end
end Lw
/-! ### bits -/
namespace Lw
open PySem PySem.Spec PyProof.Rows L2
theorem bitOr_nat (a b : Nat) : Builtin.bitOr (a : Int) (b : Int) = ((a ||| b : Nat) : Int) := by
  rw [bitOr_nn (Int.natCast_nonneg a) (Int.natCast_nonneg b)]; simp
theorem bitAnd_nat (a b : Nat) : Builtin.bitAnd (a : Int) (b : Int) = ((a &&& b : Nat) : Int) := by
  unfold Builtin.bitAnd
  simp
theorem shl_nat (a k : Nat) : (a : Int) * (2 : Int) ^ ((k : Int).toNat) = ((a <<< k : Nat) : Int) := by
  rw [Nat.shiftLeft_eq]; simp
theorem shr_nat (a k : Nat) : (a : Int) / (2 : Int) ^ ((k : Int).toNat) = ((a >>> k : Nat) : Int) := by
  rw [Nat.shiftRight_eq_div_pow]; simp
section
variable {G : WHp} {Q : WQ}
theorem oOr_nat (a b : Nat) : oOr (.int (a : Int)) (.int (b : Int)) G Q = Q (.int ((a ||| b : Nat) : Int)) G := by
  show (True ∧ Q _ G) = _; rw [true_and, bitOr_nat]
theorem oAnd_nat (a b : Nat) : oAnd (.int (a : Int)) (.int (b : Int)) G Q = Q (.int ((a &&& b : Nat) : Int)) G := by
  show (True ∧ Q _ G) = _; rw [true_and, bitAnd_nat]
theorem oShr_nat (a k : Nat) : oShr (.int (a : Int)) (.int (k : Int)) G Q = Q (.int ((a >>> k : Nat) : Int)) G := by
  show (0 ≤ (k : Int) ∧ Q (.int ((a : Int) / 2 ^ ((k : Int).toNat))) G) = _
  rw [shr_nat]
  simp
end
theorem and_one_bit (a k : Nat) : ((a >>> k) &&& 1 = 1) = (a.testBit k = true) := by
  rw [Nat.testBit, Nat.and_comm]
  have := Nat.and_two_pow_sub_one_eq_mod (a >>> k) 1
  rw [Nat.and_comm 1]
  simp only [Nat.pow_one] at this
  rw [show (2 - 1 : Nat) = 1 from rfl] at this
  rw [this]
  have h2 : a >>> k % 2 < 2 := Nat.mod_lt _ (by decide)
  apply propext
  constructor
  · intro h; rw [h]; rfl
  · intro h
    have : a >>> k % 2 ≠ 0 := by simpa using h
    omega
theorem shl_ok {a k : Nat} (ha : a < 2 ^ 1000000) (hk : k ≤ 1000000) : CShl (a : Int) (k : Int) := by
  refine ⟨Int.natCast_nonneg k, ?_⟩
  unfold Builtin.Int.intBits
  split
  · omega
  · rename_i h
    have h0 : a ≠ 0 := by simpa using h
    have : (a : Int).natAbs.log2 < 1000000 := (Nat.log2_lt (by simpa using h0)).mpr (by simpa using ha)
    omega
theorem shl1_ok {k : Nat} (hk : k ≤ 1000000) : CShl 1 (k : Int) := shl_ok (a := 1) (Nat.lt_of_lt_of_le (show 1 < 2 ^ 1 by decide) (Nat.pow_le_pow_right (by decide) (by decide))) hk
theorem shl1_nat (k : Nat) : (1 : Int) * (2 : Int) ^ ((k : Int).toNat) = ((1 <<< k : Nat) : Int) := shl_nat 1 k
theorem bit_int (m i : Nat) : Builtin.bitAnd ((m : Int) / (2 : Int) ^ ((i : Int).toNat)) 1 = (((m >>> i) &&& 1 : Nat) : Int) := by
  rw [shr_nat, show (1 : Int) = ((1 : Nat) : Int) from rfl, bitAnd_nat]
theorem bit_iff (m i : Nat) : (Builtin.bitAnd ((m : Int) / (2 : Int) ^ ((i : Int).toNat)) 1 = 1) = (m.testBit i = true) := by
  rw [bit_int, ← and_one_bit]
  apply propext
  omega
def maskN (p : Nat → Bool) : Nat → Nat
  | 0 => 0
  | n + 1 => maskN p n ||| (if p n then 1 <<< n else 0)
theorem testBit_mask (p : Nat → Bool) : ∀ (n i : Nat), (maskN p n).testBit i = (decide (i < n) && p i)
  | 0, i => by simp [maskN]
  | n + 1, i => by
    unfold maskN
    rw [Nat.testBit_or, testBit_mask p n i]
    have hs : ((if p n = true then 1 <<< n else 0) : Nat).testBit i = (decide (i = n) && p i) := by
      by_cases h : p n = true
      · rw [if_pos h, Nat.one_shiftLeft, Nat.testBit_two_pow]
        by_cases e : n = i
        · subst e; simp [h]
        · simp [e, Ne.symm e]
      · rw [if_neg h]
        by_cases e : i = n
        · subst e; simp at h; simp [h]
        · simp [e]
    rw [hs]
    by_cases h1 : i < n
    · simp [h1, Nat.lt_succ_of_lt h1, Nat.ne_of_lt h1]
    · by_cases h2 : i = n
      · subst h2; simp
      · have : ¬ i < n + 1 := by omega
        simp [h1, h2, this]
theorem mask_lt (p : Nat → Bool) (n : Nat) : maskN p n < 2 ^ n := by
  refine Nat.lt_pow_two_of_testBit _ fun i hi => ?_
  rw [testBit_mask]
  simp; omega
end Lw
/-! ### plain data, compared -/
namespace Lw
open PySem PySem.Spec PyProof.Rows L2
/-- a list that changed behind a thing that one leaves out of sight -/
theorem Sub.set2 {G : WHp} {p d : Addr} {o u v : WO} (hd : updG G p o d = none) : Sub (updG G p v) (updG (updG (updG G p o) d u) p v) := fun a w e => by
  by_cases h : a = p
  · subst h; rw [updG_same] at e ⊢; exact e
  · rw [updG_ne h] at e ⊢
    rw [updG_ne (fun z => ?_), updG_ne h]
    · exact e
    · rw [← z, updG_ne h, e] at hd; cases hd
def okW : Nat → W → Prop
  | _, .int _ => True
  | _, .non => True
  | _, .str s => ∀ c ∈ s, c < 1114112
  | n + 1, .tup ws => ∀ w ∈ ws, okW n w
  | n + 1, .il ws => ∀ w ∈ ws, okW n w
  | _, _ => False
def dW : Nat → W → PyData
  | _, .int i => .int i
  | _, .non => .none
  | _, .str s => .str (S s)
  | n + 1, .tup ws => .tuple (ws.map (dW n))
  | n + 1, .il ws => .list (ws.map (dW n))
  | _, _ => .none
theorem DpWs.of {G : WHp} {f : W → PyData} : ∀ {ws : List W}, (∀ w ∈ ws, DpW G w (f w)) → DpWs G ws (ws.map f)
  | [], _ => .nil
  | w :: ws, h => .cons _ _ _ _ (h w (by simp)) (DpWs.of fun z hz => h z (by simp [hz]))
theorem dp_dW {G : WHp} : ∀ (n : Nat) (w : W), okW n w → DpW G w (dW n w)
  | 0, .int i, _ => .int i
  | 0, .non, _ => .non
  | 0, .str s, _ => .str s
  | _ + 1, .int i, _ => .int i
  | _ + 1, .non, _ => .non
  | _ + 1, .str s, _ => .str s
  | n + 1, .tup ws, h => .tup _ _ (.of fun w hw => dp_dW n w (h w hw))
  | n + 1, .il ws, h => .lst _ _ _ rfl (.of fun w hw => dp_dW n w (h w hw))
theorem all0_of {f : W → PyData} : ∀ {ws : List W}, (∀ w ∈ ws, PyData.canLay0 (f w) = true) → PyData.canLayAll0 (ws.map f) = true
  | [], _ => by simp [PyData.canLayAll0]
  | w :: ws, h => by
    simp only [List.map_cons, PyData.canLayAll0, Bool.and_eq_true]
    exact ⟨h w (by simp), all0_of fun z hz => h z (by simp [hz])⟩
theorem dep_of {f : W → PyData} {n : Nat} : ∀ {ws : List W}, (∀ w ∈ ws, PyData.depth (f w) ≤ n) → PyData.depthAll (ws.map f) ≤ n
  | [], _ => by simp [PyData.depthAll]
  | w :: ws, h => by
    simp only [List.map_cons, PyData.depthAll]
    exact Nat.max_le.mpr ⟨h w (by simp), dep_of fun z hz => h z (by simp [hz])⟩
theorem S_ok {s : List Nat} (h : ∀ c ∈ s, c < 1114112) : PyData.canLay0 (.str (S s)) = true := by
  simp only [PyData.canLay0, PyData.strOk, S]
  simpa using h
theorem lay_dW : ∀ (n : Nat) (w : W), okW n w → PyData.canLay0 (dW n w) = true ∧ PyData.depth (dW n w) ≤ n
  | 0, .int i, _ => by simp [dW, PyData.canLay0, PyData.depth]
  | 0, .non, _ => by simp [dW, PyData.canLay0, PyData.depth]
  | 0, .str s, h => ⟨S_ok h, by simp [dW, PyData.depth]⟩
  | _ + 1, .int i, _ => by simp [dW, PyData.canLay0, PyData.depth]
  | _ + 1, .non, _ => by simp [dW, PyData.canLay0, PyData.depth]
  | _ + 1, .str s, h => ⟨S_ok h, by simp [dW, PyData.depth]⟩
  | n + 1, .tup ws, h => ⟨by simp only [dW, PyData.canLay0]; exact all0_of fun w hw => (lay_dW n w (h w hw)).1, by simp only [dW, PyData.depth]; exact Nat.succ_le_succ (dep_of fun w hw => (lay_dW n w (h w hw)).2)⟩
  | n + 1, .il ws, h => ⟨by simp only [dW, PyData.canLay0]; exact all0_of fun w hw => (lay_dW n w (h w hw)).1, by simp only [dW, PyData.depth]; exact Nat.succ_le_succ (dep_of fun w hw => (lay_dW n w (h w hw)).2)⟩
open Classical in
theorem eqvAll_of {f : W → PyData} : ∀ {xs ys : List W}, (∀ x ∈ xs, ∀ y ∈ ys, PyData.eqv (f x) (f y) = decide (x = y)) → PyData.eqvAll (xs.map f) (ys.map f) = decide (xs = ys)
  | [], [], _ => by simp [PyData.eqvAll]
  | [], _ :: _, _ => by simp [PyData.eqvAll]
  | _ :: _, [], _ => by simp [PyData.eqvAll]
  | x :: xs, y :: ys, h => by
    simp only [List.map_cons, PyData.eqvAll]
    rw [h x (by simp) y (by simp), eqvAll_of fun a ha b hb => h a (by simp [ha]) b (by simp [hb])]
    simp
open Classical in
theorem eqv_dW : ∀ (n : Nat) (a b : W), okW n a → okW n b → PyData.eqv (dW n a) (dW n b) = decide (a = b) := by
  intro n
  induction n with
  | zero =>
    intro a b ha hb
    cases a <;> cases b <;> simp_all [okW, dW, PyData.eqv] <;> (try (rw [Bool.eq_iff_iff]; simp)) <;> (try exact ⟨fun h => S_inj h, fun h => by rw [h]⟩)
  | succ n ih =>
    intro a b ha hb
    cases a <;> cases b <;> simp_all [okW, dW, PyData.eqv] <;> (try (rw [Bool.eq_iff_iff]; simp)) <;> (try exact ⟨fun h => S_inj h, fun h => by rw [h]⟩)
    all_goals
      rw [eqvAll_of fun x hx y hy => ih x y (ha x hx) (hb y hy)]; simp
open Classical in
/-- lists that are compared -/
theorem eqD_l {G : WHp} {x y : W} {xs ys : List W} {k : Bool → Prop} (hx : sqOf G x = some xs) (hy : sqOf G y = some ys) (ox : ∀ w ∈ xs, okW 20 w) (oy : ∀ w ∈ ys, okW 20 w) (q : k (decide (xs = ys))) : eqD G x y k := by
  refine ⟨.list (xs.map (dW 20)), .list (ys.map (dW 20)), .lst _ _ _ hx (.of fun w hw => dp_dW _ w (ox w hw)), .lst _ _ _ hy (.of fun w hw => dp_dW _ w (oy w hw)), ?_, ?_, ?_⟩
  · have := lay_dW 21 (.il xs) ox
    unfold SeqAt.shaped
    rw [Bool.and_eq_true, decide_eq_true_eq]
    exact ⟨this.1, Nat.le_trans this.2 (by decide)⟩
  · have := lay_dW 21 (.il ys) oy
    unfold SeqAt.shaped
    rw [Bool.and_eq_true, decide_eq_true_eq]
    exact ⟨this.1, Nat.le_trans this.2 (by decide)⟩
  · have := eqv_dW 21 (.il xs) (.il ys) ox oy
    simp only [dW, W.il.injEq] at this
    rw [this]; exact q
open Classical in
theorem eqD_t {G : WHp} {xs ys : List W} {k : Bool → Prop} (ox : ∀ w ∈ xs, okW 20 w) (oy : ∀ w ∈ ys, okW 20 w) (q : k (decide (xs = ys))) : eqD G (.tup xs) (.tup ys) k := by
  refine ⟨.tuple (xs.map (dW 20)), .tuple (ys.map (dW 20)), .tup _ _ (.of fun w hw => dp_dW _ w (ox w hw)), .tup _ _ (.of fun w hw => dp_dW _ w (oy w hw)), ?_, ?_, ?_⟩
  · have := lay_dW 21 (.tup xs) ox
    unfold SeqAt.shaped
    rw [Bool.and_eq_true, decide_eq_true_eq]
    exact ⟨this.1, Nat.le_trans this.2 (by decide)⟩
  · have := lay_dW 21 (.tup ys) oy
    unfold SeqAt.shaped
    rw [Bool.and_eq_true, decide_eq_true_eq]
    exact ⟨this.1, Nat.le_trans this.2 (by decide)⟩
  · have := eqv_dW 21 (.tup xs) (.tup ys) ox oy
    simp only [dW, W.tup.injEq] at this
    rw [this]; exact q
section
open Classical
variable {G : WHp} {Q : WQ} {xs ys : List W}
theorem eq_tt (ox : ∀ w ∈ xs, okW 20 w) (oy : ∀ w ∈ ys, okW 20 w) (q : Q (.bl (decide (xs = ys))) G) : oEq (.tup xs) (.tup ys) G Q := by
  show eqD G (.tup xs) (.tup ys) (fun k => Q (.bl k) G)
  exact eqD_t (k := fun k => Q (.bl k) G) ox oy q
theorem ne_tt (ox : ∀ w ∈ xs, okW 20 w) (oy : ∀ w ∈ ys, okW 20 w) (q : Q (.bl (!decide (xs = ys))) G) : oNe (.tup xs) (.tup ys) G Q := by
  show eqD G (.tup xs) (.tup ys) (fun k => Q (.bl (!k)) G)
  exact eqD_t (k := fun k => Q (.bl (!k)) G) ox oy q
theorem eq_il (ox : ∀ w ∈ xs, okW 20 w) (oy : ∀ w ∈ ys, okW 20 w) (q : Q (.bl (decide (xs = ys))) G) : oEq (.il xs) (.il ys) G Q := by
  show eqD G (.il xs) (.il ys) (fun k => Q (.bl k) G)
  exact eqD_l (k := fun k => Q (.bl k) G) rfl rfl ox oy q
theorem ne_il (ox : ∀ w ∈ xs, okW 20 w) (oy : ∀ w ∈ ys, okW 20 w) (q : Q (.bl (!decide (xs = ys))) G) : oNe (.il xs) (.il ys) G Q := by
  show eqD G (.il xs) (.il ys) (fun k => Q (.bl (!k)) G)
  exact eqD_l (k := fun k => Q (.bl (!k)) G) rfl rfl ox oy q
theorem eq_ri {p : Addr} (h : G p = some (.lst xs)) (ox : ∀ w ∈ xs, okW 20 w) (oy : ∀ w ∈ ys, okW 20 w) (q : Q (.bl (decide (xs = ys))) G) : oEq (.ref p) (.il ys) G Q := by
  show eqD G (.ref p) (.il ys) (fun k => Q (.bl k) G)
  exact eqD_l (k := fun k => Q (.bl k) G) (by simp [sqOf, lstOf, h]) rfl ox oy q
theorem ne_ri {p : Addr} (h : G p = some (.lst xs)) (ox : ∀ w ∈ xs, okW 20 w) (oy : ∀ w ∈ ys, okW 20 w) (q : Q (.bl (!decide (xs = ys))) G) : oNe (.ref p) (.il ys) G Q := by
  show eqD G (.ref p) (.il ys) (fun k => Q (.bl (!k)) G)
  exact eqD_l (k := fun k => Q (.bl (!k)) G) (by simp [sqOf, lstOf, h]) rfl ox oy q
theorem eq_ir {p : Addr} (h : G p = some (.lst ys)) (ox : ∀ w ∈ xs, okW 20 w) (oy : ∀ w ∈ ys, okW 20 w) (q : Q (.bl (decide (xs = ys))) G) : oEq (.il xs) (.ref p) G Q := by
  show eqD G (.il xs) (.ref p) (fun k => Q (.bl k) G)
  exact eqD_l (k := fun k => Q (.bl k) G) rfl (by simp [sqOf, lstOf, h]) ox oy q
theorem eq_rr {p r : Addr} (h : G p = some (.lst xs)) (h' : G r = some (.lst ys)) (ox : ∀ w ∈ xs, okW 20 w) (oy : ∀ w ∈ ys, okW 20 w) (q : Q (.bl (decide (xs = ys))) G) : oEq (.ref p) (.ref r) G Q := by
  show eqD G (.ref p) (.ref r) (fun k => Q (.bl k) G)
  exact eqD_l (k := fun k => Q (.bl k) G) (by simp [sqOf, lstOf, h]) (by simp [sqOf, lstOf, h']) ox oy q
end
end Lw
/-! W14: items that are a function's. -/
namespace Lw
open PySem PySem.Spec PyProof.Rows L2
theorem map_get {α β : Type} {f : α → β} {xs : List α} {i : Nat} {w : β} (h : (xs.map f)[i]? = some w) : ∃ x, xs[i]? = some x ∧ w = f x := by
  rw [List.getElem?_map, Option.map_eq_some_iff] at h
  obtain ⟨x, hx, e⟩ := h
  exact ⟨x, hx, e.symm⟩
section
variable {α : Type} {g : α → W} {j : Nat} {tt : WTT} {te : WTE} {σ : WSt} {G : WHp} {Q : WQ} {ok : WHp → Prop} {xs : List α}
/-- a comprehension over the values of g: its items by f -/
theorem lcI_mm (f : α → W) (hl : xs.length ≤ 16777216) (hs : ∀ (k : Nat) x G' (Q' : WQ), xs[k]? = some x → Ext G G' → Q' (f x) G' → te (σ.set j (some (g x))) G' Q' noX)
    (q : Q (.il (xs.map f)) G) (hk : ∀ G', Ext G G' → ok G' := by intros; trivial) : LcOk finI j wYes te σ Q (xs.map g) ok G := by
  refine lcI_inv (fun k acc => acc = (xs.take k).map f) (by rw [List.length_map]; exact hl) hk (by simp) (fun k acc e => by rw [e, List.length_map, List.length_take]; omega) (fun k x acc G' Q' hx e he hq => ?_) fun acc e => ?_
  · obtain ⟨y, hy, rfl⟩ := map_get hx
    refine hs k y G' Q' hy he (hq _ ?_)
    rw [e, List.take_add_one, hy]; simp
  · rw [e, List.length_map, List.take_length]; exact q
theorem lcM_mm (f : α → W) (hl : xs.length ≤ 16777216) (hs : ∀ (k : Nat) x G' (Q' : WQ), xs[k]? = some x → Ext G G' → Q' (f x) G' → te (σ.set j (some (g x))) G' Q' noX)
    (q : ∀ p, G p = none → Q (.ref p) (updG G p (.lst (xs.map f)))) (hk : ∀ G', Ext G G' → ok G' := by intros; trivial) : LcOk finM j wYes te σ Q (xs.map g) ok G := by
  refine lcM_inv (fun k acc => acc = (xs.take k).map f) (by rw [List.length_map]; exact hl) hk (by simp) (fun k acc e => by rw [e, List.length_map, List.length_take]; omega) (fun k x acc G' Q' hx e he hq => ?_) fun acc p hp e => ?_
  · obtain ⟨y, hy, rfl⟩ := map_get hx
    refine hs k y G' Q' hy he (hq _ ?_)
    rw [e, List.take_add_one, hy]; simp
  · rw [e, List.length_map, List.take_length]; exact q p hp
theorem lcI_fm (t : α → Bool) (f : α → W) (hl : xs.length ≤ 16777216) (ht : ∀ (k : Nat) x G' (Qb : Bool → WHp → Prop), xs[k]? = some x → Ext G G' → Qb (t x) G' → tt (σ.set j (some (g x))) G' Qb noX)
    (hs : ∀ (k : Nat) x G' (Q' : WQ), xs[k]? = some x → t x = true → Ext G G' → Q' (f x) G' → te (σ.set j (some (g x))) G' Q' noX) (q : Q (.il ((xs.filter t).map f)) G) (hk : ∀ G', Ext G G' → ok G' := by intros; trivial) : LcOk finI j tt te σ Q (xs.map g) ok G := by
  refine lc_inv (fun k acc => acc = ((xs.take k).filter t).map f) (by rw [List.length_map]; exact hl) hk (by simp) (fun k acc e => ?_) (fun k x acc G' Qb hx e he hb => ?_) fun acc D hD e => ?_
  · rw [e, List.length_map]
    refine Nat.le_trans (List.length_filter_le _ _) ?_
    rw [List.length_take]; omega
  · obtain ⟨y, hy, rfl⟩ := map_get hx
    refine ht k y G' Qb hy he (hb _ (fun hf => ?_) fun htt Q' hq => hs k y G' Q' hy htt he (hq _ ?_))
    · rw [e, List.take_add_one, hy]; simp [hf]
    · rw [e, List.take_add_one, hy]; simp [htt]
  · show Q _ (delG _ D)
    rw [delG_updG hD, e, List.length_map, List.take_length]; exact q
theorem lcM_fm (t : α → Bool) (f : α → W) (hl : xs.length ≤ 16777216) (ht : ∀ (k : Nat) x G' (Qb : Bool → WHp → Prop), xs[k]? = some x → Ext G G' → Qb (t x) G' → tt (σ.set j (some (g x))) G' Qb noX)
    (hs : ∀ (k : Nat) x G' (Q' : WQ), xs[k]? = some x → t x = true → Ext G G' → Q' (f x) G' → te (σ.set j (some (g x))) G' Q' noX) (q : ∀ p, G p = none → Q (.ref p) (updG G p (.lst ((xs.filter t).map f)))) (hk : ∀ G', Ext G G' → ok G' := by intros; trivial) : LcOk finM j tt te σ Q (xs.map g) ok G := by
  refine lc_inv (fun k acc => acc = ((xs.take k).filter t).map f) (by rw [List.length_map]; exact hl) hk (by simp) (fun k acc e => ?_) (fun k x acc G' Qb hx e he hb => ?_) fun acc D hD e => ?_
  · rw [e, List.length_map]
    refine Nat.le_trans (List.length_filter_le _ _) ?_
    rw [List.length_take]; omega
  · obtain ⟨y, hy, rfl⟩ := map_get hx
    refine ht k y G' Qb hy he (hb _ (fun hf => ?_) fun htt Q' hq => hs k y G' Q' hy htt he (hq _ ?_))
    · rw [e, List.take_add_one, hy]; simp [hf]
    · rw [e, List.take_add_one, hy]; simp [htt]
  · show Q _ _
    rw [e, List.length_map, List.take_length]; exact q D hD
/-- over range(n) -/
theorem lcI_r {n : Nat} (f : Nat → W) (hl : n ≤ 16777216) (hs : ∀ (k : Nat) G' (Q' : WQ), k < n → Ext G G' → Q' (f k) G' → te (σ.set j (some (.int (k : Nat)))) G' Q' noX)
    (q : Q (.il ((List.range n).map f)) G) (hk : ∀ G', Ext G G' → ok G' := by intros; trivial) : LcOk finI j wYes te σ Q (rngW 0 n) ok G := by
  have e : rngW 0 n = (List.range n).map fun i : Nat => W.int i := by
    unfold rngW
    refine List.map_congr_left fun i _ => ?_
    rw [Int.zero_add]
  rw [e]
  exact lcI_mm f (by rw [List.length_range]; exact hl) (fun k x G' Q' hx he hq => by
    obtain ⟨hk2, rfl⟩ := List.getElem?_eq_some_iff.mp hx
    rw [List.getElem_range] at hq ⊢
    exact hs _ G' Q' (by rw [List.length_range] at hk2; exact hk2) he hq) q hk
end
end Lw
/-! W15: more built-ins. -/
namespace Lw
open PySem PySem.Spec PyProof.Rows L2
section
variable {P : Par} {X : Cx} {a b : Expr} {ta tb : WTE} {p p2 pos pos2 : Pos}
theorem rel_rng {G : WHp} {H : Hp} {lo hi : Int} : RelWs P G H (rngW lo (hi - lo).toNat) (rgV lo hi) := by
  unfold rngW rgV
  generalize (List.range (hi - lo).toNat) = l
  induction l with
  | nil => exact .nil
  | cons x r ih => exact .cons _ _ _ _ (.int _) ih
def wLstRg1 (ta : WTE) : WTE := fun σ G Q E => ta σ G (fun x G1 => ∃ n, x = .int n ∧ n ≤ 16777216 ∧ 0 ≤ n ∧ ∀ q, G1 q = none → Q (.ref q) (updG G1 q (.lst (rngW 0 n.toNat)))) E
theorem je_listRg1 (hc : X.calm = true) (hl : Gl X "list") (ml : X.mg "list" = none) (hr : Gl X "range") (mr : X.mg "range" = none) (ha : JE P X a ta)
    (na : starEach [a] X.env = (false, eval a X.env) :: starEach [] X.env := by rfl)
    (na2 : starEach [.Call (.Name "range" p) [a] [] pos] X.env = (false, eval (.Call (.Name "range" p) [a] [] pos) X.env) :: starEach [] X.env := by rfl) :
    JE P X (.Call (.Name "list" p2) [.Call (.Name "range" p) [a] [] pos] [] pos2) (wLstRg1 ta) := fun Ga Ha Ew tk =>
  PE.imp (pe_listRg hc hl ml (prg_1 hr mr (ha Ga Ha Ew tk) na) na2) fun σ H Q ⟨σw, G, Qw, fa, rs, rp, ht, hq⟩ => ⟨σw, G, _, fa, rs, rp, ht, fun w G1 v H1 f1 r1 p1 ⟨n, e, hn, h0, q⟩ => by
    subst e
    cases r1
    refine ⟨n, rfl, RgOk.of_le (Int.le_refl 0) hn (by decide) h0, fun q1 hq1 => ?_⟩
    have e0 : rngW 0 n.toNat = rngW 0 (n - 0).toNat := by rw [Int.sub_zero]
    exact hq _ _ _ _ (f1.trans (.new hq1)) (.ref q1) (p1.put (u := .lst (rngW 0 n.toNat)) (.new hq1) ⟨_, upd_same, by rw [e0]; exact rel_rng⟩) (q q1 (p1.free hq1))⟩
def wLstRgI1 (ta : WTE) : WTE := fun σ G Q E => ta σ G (fun x G1 => ∃ n, x = .int n ∧ n ≤ 16777216 ∧ 0 ≤ n ∧ Q (.il (rngW 0 n.toNat)) G1) E
end
end Lw
namespace Lw
open PySem PySem.Spec PyProof.Rows L2
section
variable {α : Type} {g : α → W} {j : Nat} {tt : WTT} {te : WTE} {σ : WSt} {G : WHp} {Q : WQ} {ok : WHp → Prop} {xs : List W}
/-- items by their places -/
theorem lcI_ix {n : Nat} (F : Nat → W) (hn : xs.length = n) (hl : n ≤ 16777216) (hs : ∀ (k : Nat) x G' (Q' : WQ), xs[k]? = some x → Ext G G' → Q' (F k) G' → te (σ.set j (some x)) G' Q' noX)
    (q : Q (.il ((List.range n).map F)) G) (hk : ∀ G', Ext G G' → ok G' := by intros; trivial) : LcOk finI j wYes te σ Q xs ok G := by
  subst hn
  refine lcI_inv (fun k acc => k ≤ xs.length ∧ acc = (List.range k).map F) hl hk ⟨Nat.zero_le _, rfl⟩ (fun k acc e => by rw [e.2, List.length_map, List.length_range]; exact Nat.le_refl _) (fun k x acc G' Q' hx e he hq => ?_) fun acc e => ?_
  · refine hs k x G' Q' hx he (hq _ ⟨(List.getElem?_eq_some_iff.mp hx).1, ?_⟩)
    rw [e.2, List.range_succ]; simp
  · rw [e.2]; exact q
end
end Lw
/-! W16: readings at refs, as simp takes them. -/
namespace Lw
open PySem PySem.Spec PyProof.Rows L2
section
variable {G : WHp} {Q : WQ} {p : Addr}
theorem kdOk_l {x : W} : kdOk G x .list = ∃ xs, sqOf G x = some xs := rfl
theorem kdOk_s {x : W} : kdOk G x .str = ∃ s, x = .str s := rfl
theorem kdOk_d {x : W} : kdOk G x .dict = ((∃ p kvs, x = .ref p ∧ G p = some (.dct kvs)) ∨ ∃ kvs, x = .dk kvs) := rfl
theorem sqT_il {xs : List W} : sqT G (.il xs) = some xs := rfl
theorem sqT_sc {ns : List Int} : sqT G (.sc ns) = some (ns.map W.int) := rfl
theorem sqT_tup {xs : List W} : sqT G (.tup xs) = some xs := rfl
theorem sqT_r : sqT G (.ref p) = lstOf G (.ref p) := rfl
theorem sqOf_il {xs : List W} : sqOf G (.il xs) = some xs := rfl
theorem sqOf_sc {ns : List Int} : sqOf G (.sc ns) = some (ns.map W.int) := rfl
theorem sqOf_r : sqOf G (.ref p) = lstOf G (.ref p) := rfl
theorem lstOf_il {xs : List W} : lstOf G (.il xs) = some xs := rfl
theorem lstOf_r : lstOf G (.ref p) = (match G p with | some (.lst xs) => some xs | _ => none) := rfl
theorem tyN_r : tyN G (.ref p) = (match G p with | some (.lst _) => some "list" | some (.dct _) => some "dict" | _ => none) := rfl
theorem dOf_r : dOf G (.ref p) = (match G p with | some (.dct kvs) => some kvs | some (.fz _ _ kvs) => some kvs | _ => none) := rfl
theorem objOf_r : objOf G (.ref p) = (match G p with | some (.obj c fs) => some (c, fs) | _ => none) := rfl
theorem oLen_r : oLen [.ref p] G Q = ∃ xs, lstOf G (.ref p) = some xs ∧ Q (.int xs.length) G := rfl
theorem oIx_r {i : Int} : oIx (.ref p) (.int i) G Q = ∃ xs, lstOf G (.ref p) = some xs ∧ ∃ w, atI xs i = some w ∧ Q w G := by
  apply propext
  constructor
  · intro h
    simp only [oIx] at h
    obtain ⟨xs, w, e, e2, q⟩ := h
    exact ⟨xs, e, w, e2, q⟩
  · rintro ⟨xs, e, w, e2, q⟩
    exact ⟨xs, w, e, e2, q⟩
theorem oIsi_r {T : String} : oIsi [.ref p, .ty T] G Q = ∃ n b, tyN G (.ref p) = some n ∧ kitB n T = some b ∧ Q (.bl b) G := rfl
theorem kit_dl : kitB "dict" "list" = some false := by decide +kernel
theorem kit_ld : kitB "list" "dict" = some false := by decide +kernel
theorem kit_lb : kitB "list" "bool" = some false := by decide +kernel
theorem kit_li : kitB "list" "int" = some false := by decide +kernel
theorem oIsi_dd {kvs : List (KW × W)} : oIsi [.dk kvs, .ty "dict"] G Q = Q (.bl true) G := by simp [oIsi, tyN, kit_dd]
end
end Lw
/-! W17: texts and slices, as simp takes them. -/
namespace Lw
open PySem PySem.Spec PyProof.Rows L2
theorem log_k {n : Int} (h0 : 0 ≤ n) (h : n < 1000000000000) : n.natAbs.log2 < 1920 := by
  cases e : n.natAbs with
  | zero => simp
  | succ m =>
    refine Nat.lt_trans ((Nat.log2_lt (by omega)).mpr (?_ : m + 1 < 2 ^ 1900)) (by decide)
    refine Nat.lt_of_lt_of_le (?_ : m + 1 < 2 ^ 40) (Nat.pow_le_pow_right (by decide) (by decide))
    omega
theorem strsOf_mm {α : Type} {xs : List α} (f : α → List Nat) : strsOf (xs.map fun x => W.str (f x)) = some (xs.map f) := by
  have := strsOf_map (xs.map f)
  rw [List.map_map] at this
  exact this
theorem cut_headI {α : Type} {s : List α} {i : Int} (h : 0 ≤ i) : cutL s none (some i) = s.take i.toNat := by
  obtain ⟨n, rfl⟩ := Int.eq_ofNat_of_zero_le h
  rw [cut_head]; rfl
theorem cut_tailI {α : Type} {s : List α} {i : Int} (h : 0 ≤ i) : cutL s (some i) none = s.drop i.toNat := by
  obtain ⟨n, rfl⟩ := Int.eq_ofNat_of_zero_le h
  rw [cut_tail]; rfl
theorem atI_map {α β : Type} {xs : List α} {f : α → β} {i : Int} : atI (xs.map f) i = (atI xs i).map f := by
  unfold atI
  rw [List.length_map]
  cases ixN xs.length i with
  | none => rfl
  | some k => simp
theorem let_at {i : Int} (h0 : 0 ≤ i) (h1 : i < 26) : atI LET i = some (97 + i.toNat) := by
  obtain ⟨n, rfl⟩ := Int.eq_ofNat_of_zero_le h0
  have : ∀ n : Nat, n < 26 → atI LET (n : Int) = some (97 + n) := by decide
  exact this n (by omega)
theorem cut1 {α : Type} {x : α} {r : List α} : cutL (x :: r) (some 1) none = r := by
  rw [cut_tailI (by decide)]; rfl
theorem cut2 {α : Type} {x y : α} {r : List α} : cutL (x :: y :: r) (some 2) none = r := by
  rw [cut_tailI (by decide)]; rfl
theorem cut3 {α : Type} {x y z : α} {r : List α} : cutL (x :: y :: z :: r) (some 3) none = r := by
  rw [cut_tailI (by decide)]; rfl
theorem at_hd {α : Type} {x : α} {r : List α} : atI (x :: r) 0 = some x := by
  have : atI (x :: r) ((0 : Nat) : Int) = some x := atI_nat (by rfl)
  exact this
theorem at_1 {α : Type} {x y : α} {r : List α} : atI (x :: y :: r) 1 = some y := by
  have : atI (x :: y :: r) ((1 : Nat) : Int) = some y := atI_nat (by rfl)
  exact this
theorem at_2 {α : Type} {x y z : α} {r : List α} : atI (x :: y :: z :: r) 2 = some z := by
  have : atI (x :: y :: z :: r) ((2 : Nat) : Int) = some z := atI_nat (by rfl)
  exact this
theorem at_3 {α : Type} {x y z u : α} {r : List α} : atI (x :: y :: z :: u :: r) 3 = some u := by
  have : atI (x :: y :: z :: u :: r) ((3 : Nat) : Int) = some u := atI_nat (by rfl)
  exact this
theorem at_4 {α : Type} {x y z u v : α} {r : List α} : atI (x :: y :: z :: u :: v :: r) 4 = some v := by
  have : atI (x :: y :: z :: u :: v :: r) ((4 : Nat) : Int) = some v := atI_nat (by rfl)
  exact this
theorem at_5 {α : Type} {x y z u v t : α} {r : List α} : atI (x :: y :: z :: u :: v :: t :: r) 5 = some t := by
  have : atI (x :: y :: z :: u :: v :: t :: r) ((5 : Nat) : Int) = some t := atI_nat (by rfl)
  exact this
theorem at_6 {α : Type} {x y z u v t s : α} {r : List α} : atI (x :: y :: z :: u :: v :: t :: s :: r) 6 = some s := by
  have : atI (x :: y :: z :: u :: v :: t :: s :: r) ((6 : Nat) : Int) = some s := atI_nat (by rfl)
  exact this
theorem pick_if {α : Type} {a b : α} {c : Prop} [Decidable c] : atI [a, b] (if c then 1 else 0) = some (if c then b else a) := by split <;> rfl
theorem atI_i {α : Type} {xs : List α} {i : Int} {x : α} (h0 : 0 ≤ i) (h : xs[i.toNat]? = some x) : atI xs i = some x := by
  obtain ⟨n, rfl⟩ := Int.eq_ofNat_of_zero_le h0
  exact atI_nat h
theorem anyE_strs {x : List Nat} {xs : List (List Nat)} : ((xs.map W.str).any fun y => eqFl y (.str x)) = decide (x ∈ xs) := by
  rw [List.any_map, Bool.eq_iff_iff]
  simp only [List.any_eq_true, decide_eq_true_eq, Function.comp]
  constructor
  · rintro ⟨y, hy, e⟩
    have : y = x := by simpa [eqFl] using e
    exact this ▸ hy
  · exact fun hm => ⟨x, hm, by simp [eqFl]⟩
theorem allF_strs {xs : List (List Nat)} : (xs.map W.str).all flW = true := by simp [List.all_eq_true, flW]
theorem oIn_strs {x : List Nat} {xs : List (List Nat)} {G : WHp} {Q : WQ} : oIn (.str x) (.il (xs.map W.str)) G Q = Q (.bl (decide (x ∈ xs))) G := by
  show (∃ ws, sqOf G (.il (xs.map W.str)) = some ws ∧ flW (.str x) = true ∧ ws.all flW = true ∧ Q (.bl (ws.any _)) G) = _
  apply propext
  constructor
  · rintro ⟨ws, e, _, _, q⟩
    cases e
    rw [anyE_strs] at q
    exact q
  · exact fun q => ⟨_, rfl, rfl, allF_strs, by rw [anyE_strs]; exact q⟩
theorem oNotIn_strs {x : List Nat} {xs : List (List Nat)} {G : WHp} {Q : WQ} : oNotIn (.str x) (.il (xs.map W.str)) G Q = Q (.bl (!decide (x ∈ xs))) G := by
  show (∃ ws, sqOf G (.il (xs.map W.str)) = some ws ∧ flW (.str x) = true ∧ ws.all flW = true ∧ Q (.bl (!(ws.any _))) G) = _
  apply propext
  constructor
  · rintro ⟨ws, e, _, _, q⟩
    cases e
    rw [anyE_strs] at q
    exact q
  · exact fun q => ⟨_, rfl, rfl, allF_strs, by rw [anyE_strs]; exact q⟩
theorem updG_comm {G : WHp} {a b : Addr} {o u : WO} (h : a ≠ b) : updG (updG G a o) b u = updG (updG G b u) a o := by
  funext x
  by_cases h1 : x = a
  · subst h1; rw [updG_ne h, updG_same, updG_same]
  · by_cases h2 : x = b
    · subst h2; rw [updG_same, updG_ne h1, updG_same]
    · rw [updG_ne h2, updG_ne h1, updG_ne h1, updG_ne h2]
theorem find_first {α : Type} {p : α → Bool} : ∀ {xs : List α} {i : Nat} {x : α}, xs[i]? = some x → p x = true → (∀ (j : Nat) y, j < i → xs[j]? = some y → p y = false) → xs.find? p = some x
  | [], i, x, h, _, _ => by simp at h
  | a :: r, 0, x, h, hp, _ => by cases h; rw [List.find?_cons_of_pos hp]
  | a :: r, i + 1, x, h, hp, hno => by
    have h0 := hno 0 a (by omega) rfl
    rw [List.find?_cons_of_neg (by rw [h0]; simp)]
    exact find_first (i := i) (by simpa using h) hp fun j y hj hy => hno (j + 1) y (by omega) (by simpa using hy)
theorem find_nothing {α : Type} {p : α → Bool} {xs : List α} (h : ∀ (j : Nat) y, j < xs.length → xs[j]? = some y → p y = false) : xs.find? p = none := by
  rw [List.find?_eq_none]
  intro x hx
  obtain ⟨j, hj⟩ := List.getElem?_of_mem hx
  rw [h j x (List.getElem?_eq_some_iff.mp hj).1 hj]; simp
theorem findSome_first {α β : Type} {f : α → Option β} : ∀ {xs : List α} {i : Nat} {x : α} {b : β}, xs[i]? = some x → f x = some b → (∀ (j : Nat) y, j < i → xs[j]? = some y → f y = none) → xs.findSome? f = some b
  | [], i, x, b, h, _, _ => by simp at h
  | a :: r, 0, x, b, h, hp, _ => by cases h; simp [List.findSome?, hp]
  | a :: r, i + 1, x, b, h, hp, hno => by
    have h0 := hno 0 a (by omega) rfl
    simp only [List.findSome?, h0]
    exact findSome_first (i := i) (by simpa using h) hp fun j y hj hy => hno (j + 1) y (by omega) (by simpa using hy)
theorem findSome_nothing {α β : Type} {f : α → Option β} {xs : List α} (h : ∀ (j : Nat) y, j < xs.length → xs[j]? = some y → f y = none) : xs.findSome? f = none := by
  rw [List.findSome?_eq_none_iff]
  intro x hx
  obtain ⟨j, hj⟩ := List.getElem?_of_mem hx
  exact h j x (List.getElem?_eq_some_iff.mp hj).1 hj
theorem getD_app {α : Type} {xs : List α} {x : α} {j : Nat} {y : α} (h : (xs ++ [x])[j]? = some y) : xs[j]? = some y ∨ j = xs.length ∧ y = x := by
  rw [List.getElem?_append] at h
  split at h
  · exact .inl h
  · rcases Nat.eq_zero_or_pos (j - xs.length) with z | z
    · rw [z] at h; cases h; exact .inr ⟨by omega, rfl⟩
    · rw [List.getElem?_eq_none (by simp; omega)] at h; cases h
/-- a whole list of things seen as a value, all the way down -/
theorem vw_deep {G G' : WHp} {w w2 : W} {Q : WQ} (s : Sub G G') (f : FrzD G' G w w2) (q : Q w2 G) : ∃ w2 G2, View w G' w2 G2 ∧ Q w2 G2 := ⟨w2, G, ⟨s, .inr (.inr f)⟩, q⟩
theorem vw_at {G G' : WHp} {w w2 : W} {Q : WQ} (v : View w G' w2 G) (q : Q w2 G) : ∃ w2 G2, View w G' w2 G2 ∧ Q w2 G2 := ⟨w2, G, v, q⟩
theorem Sub.upd {G G' : WHp} {p : Addr} {o : WO} (s : Sub G G') (h : G p = none) : Sub G (updG G' p o) := fun a u e => by
  rw [updG_ne (fun z => by rw [z, h] at e; cases e)]; exact s a u e
theorem Sub.none {G G' : WHp} (s : Sub G G') {p : Addr} (h : G' p = none) : G p = none := s.nn p h
end Lw
/-! W18: a list of lists that change. -/
namespace Lw
open PySem PySem.Spec PyProof.Rows L2
def natW (m : Nat) : W := .int (m : Nat)
theorem FrzDs.refl {G G2 : WHp} : ∀ (ws : List W), FrzDs G G2 ws ws
  | [] => .nil
  | w :: r => .cons w w r r (.same w) (FrzDs.refl r)
theorem FrzDs.map {G G2 : WHp} {α : Type} {f g : α → W} : ∀ {xs : List α}, (∀ x ∈ xs, FrzD G G2 (f x) (g x)) → FrzDs G G2 (xs.map f) (xs.map g)
  | [], _ => .nil
  | x :: r, h => .cons _ _ _ _ (h x (by simp)) (FrzDs.map fun y hy => h y (by simp [hy]))
structure Nest (G0 G : WHp) (D : Addr) (qs : List Addr) (ss : List (List W)) : Prop where
  at_ : G D = some (.lst (qs.map W.ref))
  len : qs.length = ss.length
  inn : ∀ (j : Nat) q s, qs[j]? = some q → ss[j]? = some s → G q = some (.lst s)
  nd : qs.Nodup
  ne : D ∉ qs
  keep : Sub G0 G
  nD : G0 D = none
  nq : ∀ q ∈ qs, G0 q = none
namespace Nest
variable {G0 G : WHp} {D : Addr} {qs : List Addr} {ss : List (List W)}
theorem new (h : G0 D = none) : Nest G0 (updG G0 D (.lst [])) D [] [] :=
  ⟨updG_same, rfl, fun j q s hq => by simp at hq, List.nodup_nil, by simp, .new h, h, fun q hq => by cases hq⟩
/-- another thing is stored, that is none of these -/
theorem other (n : Nest G0 G D qs ss) {p : Addr} {o : WO} (h0 : G0 p = none) (hD : p ≠ D) (hq : p ∉ qs) : Nest G0 (updG G p o) D qs ss :=
  ⟨by rw [updG_ne (Ne.symm hD)]; exact n.at_, n.len, fun j q s e1 e2 => by
    have : q ≠ p := fun z => by subst z; exact hq (List.mem_of_getElem? e1)
    rw [updG_ne this]; exact n.inn j q s e1 e2, n.nd, n.ne, n.keep.upd h0, n.nD, n.nq⟩
theorem fresh (n : Nest G0 G D qs ss) {p : Addr} (h : G p = none) : G0 p = none ∧ p ≠ D ∧ p ∉ qs := by
  refine ⟨n.keep.none h, fun z => ?_, fun z => ?_⟩
  · rw [z, n.at_] at h; cases h
  · obtain ⟨j, hj⟩ := List.getElem?_of_mem z
    have hl := (List.getElem?_eq_some_iff.mp hj).1
    have := n.inn j p _ hj (List.getElem?_eq_getElem (by rw [← n.len]; exact hl))
    rw [h] at this; cases this
theorem get (n : Nest G0 G D qs ss) {j : Nat} (hj : j < ss.length) : ∃ q, qs[j]? = some q ∧ atI (qs.map W.ref) (j : Int) = some (.ref q) ∧ G q = some (.lst ss[j]) := by
  have hq := List.getElem?_eq_getElem (l := qs) (i := j) (by rw [n.len]; exact hj)
  exact ⟨_, hq, by rw [atI_map, atI_nat hq]; rfl, n.inn j _ _ hq (List.getElem?_eq_getElem hj)⟩
theorem set (n : Nest G0 G D qs ss) {j : Nat} {q : Addr} {s' : List W} (hq : qs[j]? = some q) : Nest G0 (updG G q (.lst s')) D qs (ss.set j s') := by
  have hqm := List.mem_of_getElem? hq
  have hDq : D ≠ q := fun z => by subst z; exact n.ne hqm
  refine ⟨by rw [updG_ne hDq]; exact n.at_, by rw [List.length_set]; exact n.len, fun i r s e1 e2 => ?_, n.nd, n.ne, n.keep.upd (n.nq q hqm), n.nD, n.nq⟩
  rw [List.getElem?_set] at e2
  by_cases hij : j = i
  · subst hij
    rw [hq] at e1
    cases e1
    rw [if_pos rfl] at e2
    split at e2
    · cases e2; exact updG_same
    · cases e2
  · rw [if_neg hij] at e2
    have : r ≠ q := fun z => by
      subst z
      obtain ⟨h1, h2⟩ := List.getElem?_eq_some_iff.mp e1
      obtain ⟨h3, h4⟩ := List.getElem?_eq_some_iff.mp hq
      exact hij ((List.getElem_inj n.nd).mp (h4.trans h2.symm))
    rw [updG_ne this]
    exact n.inn i r s e1 e2
theorem get_ins {α : Type} {xs : List α} {k : Nat} {x : α} {i : Nat} {y : α} (hk : k ≤ xs.length) (h : (xs.take k ++ [x] ++ xs.drop k)[i]? = some y) : (i < k ∧ xs[i]? = some y) ∨ (i = k ∧ y = x) ∨ (k < i ∧ xs[i - 1]? = some y) := by
  have hl : (xs.take k).length = k := by rw [List.length_take]; omega
  rw [List.append_assoc] at h
  rcases Nat.lt_trichotomy i k with z | z | z
  · rw [List.getElem?_append_left (by omega), List.getElem?_take, if_pos z] at h
    exact .inl ⟨z, h⟩
  · rw [List.getElem?_append_right (by omega), hl, z, Nat.sub_self] at h
    cases h
    exact .inr (.inl ⟨z, rfl⟩)
  · rw [List.getElem?_append_right (by omega), hl] at h
    obtain ⟨m, hm⟩ : ∃ m, i - k = m + 1 := ⟨i - k - 1, by omega⟩
    rw [hm, List.singleton_append, List.getElem?_cons_succ, List.getElem?_drop] at h
    exact .inr (.inr ⟨z, by rw [show i - 1 = k + m by omega]; exact h⟩)
theorem ins (n : Nest G0 G D qs ss) {k : Nat} {r : Addr} {s : List W} (hk : k ≤ ss.length) (hr : G r = some (.lst s)) (h0 : G0 r = none) (hD : r ≠ D) (hn : r ∉ qs) :
    Nest G0 (updG G D (.lst ((qs.take k ++ [r] ++ qs.drop k).map W.ref))) D (qs.take k ++ [r] ++ qs.drop k) (ss.take k ++ [s] ++ ss.drop k) := by
  have hp : (qs.take k ++ [r] ++ qs.drop k).Perm (r :: qs) := by
    rw [List.append_assoc, List.singleton_append]
    refine List.perm_middle.trans ?_
    rw [List.take_append_drop]
  have hm : ∀ a, a ∈ qs.take k ++ [r] ++ qs.drop k ↔ a = r ∨ a ∈ qs := fun a => by rw [hp.mem_iff, List.mem_cons]
  have hlq := n.len
  refine ⟨updG_same, by simp [hlq], fun i q t e1 e2 => ?_, ?_, ?_, n.keep.upd n.nD, n.nD, ?_⟩
  · have hqD : q ≠ D := fun z => by
      rcases (hm q).mp (List.mem_of_getElem? e1) with w | w
      · exact hD (w ▸ z)
      · exact n.ne (z ▸ w)
    rw [updG_ne hqD]
    rcases get_ins (by omega) e1 with ⟨a, b⟩ | ⟨a, b⟩ | ⟨a, b⟩
    · rcases get_ins (by omega) e2 with ⟨c, d⟩ | ⟨c, d⟩ | ⟨c, d⟩
      · exact n.inn _ _ _ b d
      · omega
      · omega
    · rcases get_ins (by omega) e2 with ⟨c, d⟩ | ⟨c, d⟩ | ⟨c, d⟩
      · omega
      · subst b; subst d; exact hr
      · omega
    · rcases get_ins (by omega) e2 with ⟨c, d⟩ | ⟨c, d⟩ | ⟨c, d⟩
      · omega
      · omega
      · exact n.inn _ _ _ b d
  · rw [hp.nodup_iff, List.nodup_cons]
    exact ⟨hn, n.nd⟩
  · rw [hm]
    rintro (w | w)
    · exact hD w.symm
    · exact n.ne w
  · intro q hq
    rcases (hm q).mp hq with rfl | w
    · exact h0
    · exact n.nq q w
end Nest
theorem set_split {α : Type} {ss : List α} {j : Nat} {s s' : α} (h : ss[j]? = some s) : ss.set j s' = ss.take j ++ [s'] ++ ss.drop (j + 1) ∧ ss = ss.take j ++ [s] ++ ss.drop (j + 1) := by
  obtain ⟨hj, he⟩ := List.getElem?_eq_some_iff.mp h
  refine ⟨by rw [List.set_eq_take_append_cons_drop, if_pos hj]; simp, ?_⟩
  have := List.take_append_drop j ss
  rw [List.drop_eq_getElem_cons hj, he] at this
  simpa using this.symm
theorem flat_set {ss : List (List Nat)} {j k : Nat} {s s' : List Nat} (h : ss[j]? = some s) (p : s'.Perm (k :: s)) : (ss.set j s').flatten.Perm (k :: ss.flatten) := by
  obtain ⟨h1, h2⟩ := set_split (s' := s') h
  rw [h1]
  conv => rhs; rw [h2]
  simp only [List.flatten_append, List.flatten_cons, List.flatten_nil, List.append_nil]
  refine ((p.append_left _).append_right _).trans ?_
  simp only [List.append_assoc, List.cons_append]
  exact List.perm_middle
theorem ins_perm {α : Type} {xs : List α} {k : Nat} {x : α} : (xs.take k ++ [x] ++ xs.drop k).Perm (x :: xs) := by
  rw [List.append_assoc, List.singleton_append]
  refine List.perm_middle.trans ?_
  rw [List.take_append_drop]
theorem flat_ins {ss : List (List Nat)} {a k : Nat} : (ss.take a ++ [[k]] ++ ss.drop a).flatten.Perm (k :: ss.flatten) := by
  have := (ins_perm (xs := ss) (k := a) (x := [k])).flatten
  simpa using this
end Lw
/-! W19: dicts whose keys are truths. -/
namespace Lw
open PySem PySem.Spec PyProof.Rows L2
section
variable {P : Par} {X : Cx} {k v o e f value : Expr} {tk tv to te tf : WTE} {pos pos' apos cpos : Pos}
def wBdisp (tk tv : WTE) : WTE := fun σ G Q E => ∀ p, G p = none → tk σ (updG G p (.bd [])) (fun x G1 => tv σ G1 (fun y G2 => ∃ b i, x = .bl b ∧ y = .int i ∧ G2 p = some (.bd []) ∧ Q (.ref p) (updG G2 p (.bd [(b, i)]))) E) E
theorem je_bdisp (hk : JE P X k tk) (hv : JE P X v tv) : JE P X (.Dict [some k] [v] pos) (wBdisp tk tv) := fun Ga Ha Ew tk' =>
  PE.imp (pe_bdisp (hk Ga Ha Ew tk') (hv Ga Ha Ew tk')) fun σ H Q ⟨σw, G, Qw, fa, rs, rp, ht, hq⟩ p hp => by
    have fn : Fw G H (updG G p (.bd [])) (upd H p (BDo p [])) := .new hp
    refine ⟨σw, _, _, fa.trans fn, rs.fw rp fn, rp.put (u := .bd []) fn upd_same, ht p (rp.free hp), fun w1 G1 v1 H1 f1 r1 p1 q1 => ⟨σw, G1, _, fa.trans (fn.trans f1), (rs.fw rp fn).fw (rp.put (u := .bd []) fn upd_same) f1, p1, q1, fun w2 G2 v2 H2 f2 r2 p2 ⟨b, i, e1, e2, e3, q⟩ => ?_⟩⟩
    subst e1 e2
    have r1' := r1.fw p1 f2
    cases r1'
    cases r2
    have hb : H2 p = some (BDo p []) := p2 p _ e3
    have fp : Fw G2 H2 (updG G2 p (.bd [(b, i)])) (upd H2 p (BDo p [(b, i)])) := .put e3
    exact ⟨b, i, rfl, rfl, hb, hq _ _ _ _ (fn.trans (f1.trans (f2.trans fp))) (.ref p) (p2.put (u := .bd [(b, i)]) fp upd_same) q⟩
def wBget2 (to te tf : WTE) : WTE := fun σ G Q E => to σ G (fun x G1 => ∃ p kvs0, x = .ref p ∧ G1 p = some (.bd kvs0) ∧ te σ G1 (fun y G2 => tf σ G2 (fun z G3 => ∃ kvs b i, G3 p = some (.bd kvs) ∧ y = .bl b ∧ z = .int i ∧ Q (.int ((valB kvs b).getD i)) G3) E) E) E
theorem je_bget2 (ho : JE P X o to) (he : JE P X e te) (hf : JE P X f tf) (m : M2 X o "get" apos e f cpos := by exact ⟨rfl, rfl, rfl, rfl⟩) : JE P X (.Call (.Attribute o "get" apos) [e, f] [] cpos) (wBget2 to te tf) := fun Ga Ha Ew tk =>
  PE.imp (pe_bget2 (ho Ga Ha Ew tk) (he Ga Ha Ew tk) (hf Ga Ha Ew tk) m) fun σ H Q ⟨σw, G, Qw, fa, rs, rp, ht, hq⟩ => ⟨σw, G, _, fa, rs, rp, ht, fun w1 G1 v1 H1 f1 r1 p1 ⟨p, kvs0, e1, e2, h1⟩ => by
    subst e1
    cases r1
    refine ⟨p, kvs0, rfl, p1 p _ e2, σw, G1, _, fa.trans f1, rs.fw rp f1, p1, h1, fun w2 G2 v2 H2 f2 r2 p2 h2 => ⟨σw, G2, _, fa.trans (f1.trans f2), (rs.fw rp f1).fw p1 f2, p2, h2, fun w3 G3 v3 H3 f3 r3 p3 ⟨kvs, b, i, e3, e4, e5, q⟩ => ?_⟩⟩
    subst e4 e5
    have r2' := r2.fw p2 f3
    cases r2'
    cases r3
    exact ⟨kvs, b, i, p3 p _ e3, rfl, rfl, hq _ _ _ _ (f1.trans (f2.trans f3)) (.int _) p3 q⟩⟩
def wBput (to ti te : WTE) : WTS := fun D σ G E => te σ G (fun v G1 => to σ G1 (fun x G2 => ti σ G2 (fun y G3 => ∃ p kvs b i, x = .ref p ∧ y = .bl b ∧ v = .int i ∧ G3 p = some (.bd kvs) ∧ kvs.length < 100 ∧ D.nx σ (updG G3 p (.bd (putB kvs b i)))) E) E) E
theorem js_bput (ho : JE P X o to) (hi : JE P X e te) (hv : JE P X value tv) (hs : swapsWith value (some (.Subscript o e pos')) pos.line X.env = pure false := by rfl) : JS P X (.Assign [.Subscript o e pos'] value pos) (wBput to te tv) := fun Ga Ha Ew tk =>
  PS.imp (ps_bput (ho Ga Ha Ew tk) (hi Ga Ha Ew tk) (hv Ga Ha Ew tk) hs) fun D σ H ⟨σw, G, Dw, fa, rs, rp, ht, h1, h2, h3, h4⟩ => ⟨σw, G, _, fa, rs, rp, ht, fun y G1 v H1 f1 r1 p1 q1 => ⟨σw, G1, _, fa.trans f1, rs.fw rp f1, p1, q1, fun w G2 v2 H2 f2 r2 p2 q2 => ⟨σw, G2, _, fa.trans (f1.trans f2), (rs.fw rp f1).fw p1 f2, p2, q2, fun u G3 v3 H3 f3 r3 p3 ⟨p, kvs, b, i, e1, e2, e3, e4, hl, q⟩ => by
    subst e1 e2 e3
    have r2' := r2.fw p2 f3
    have r1' := (r1.fw p1 f2).fw p2 f3
    cases r2'
    cases r3
    cases r1'
    have fp : Fw G3 H3 (updG G3 p (.bd (putB kvs b i))) (upd H3 p (BDo p (putB kvs b i))) := .put e4
    exact ⟨p, kvs, b, i, rfl, rfl, rfl, p3 p _ e4, hl, h1 σw _ σ _ (f1.trans (f2.trans (f3.trans fp))) ((((rs.fw rp f1).fw p1 f2).fw p2 f3).fw p3 fp) (p3.put (u := .bd (putB kvs b i)) fp upd_same) q⟩⟩⟩⟩
end
end Lw
/-! W20: dicts, listed, cleared, compared. -/
namespace Lw
open PySem PySem.Spec PyProof.Rows L2
section
variable {P : Par} {X : Cx} {G : WHp} {H : Hp} {o e f value : Expr} {to te tf : WTE} {p pos pos' apos cpos : Pos}
/-- a dict that lives, or that nothing changes -/
def dcL (G : WHp) : W → Option (List (KW × W))
  | .dk kvs => some kvs
  | .ref p => match G p with
    | some (.dct kvs) => some kvs
    | _ => none
  | _ => none
theorem dcL_dk {kvs : List (KW × W)} : dcL G (.dk kvs) = some kvs := rfl
theorem dcL_ref {p : Addr} {kvs : List (KW × W)} (h : G p = some (.dct kvs)) : dcL G (.ref p) = some kvs := by simp [dcL, h]
theorem dcL_rel (rp : Rep P G H) {w : W} {v : V} {kvs : List (KW × W)} (r : RelW P G H w v) (e : dcL G w = some kvs) : ∃ a kv, v = .ref a ∧ H a = some (.dK kv) ∧ RelKs P G H kvs kv := by
  cases r with
  | dk a kv kvs' h g rs => cases e; exact ⟨a, kv, rfl, h, rs⟩
  | ref a =>
    dsimp only [dcL] at e
    cases q : G a with
    | none => rw [q] at e; cases e
    | some o =>
      rw [q] at e
      cases o with
      | dct ws =>
        cases e
        obtain ⟨kv, h, rs⟩ := rp a _ q
        exact ⟨a, kv, rfl, h, rs⟩
      | fz od u ws => cases e
      | obj _ _ => cases e
      | lst _ => cases e
      | xd _ => cases e
      | bd _ => cases e
      | td _ => cases e
      | tab => cases e
  | non => cases e
  | bl b => cases e
  | int i => cases e
  | str s => cases e
  | ty n => cases e
  | sc a ns h => cases e
  | tup a vs ws h rs => cases e
  | il a vs ws h rs => cases e
  | io a dx c fv fs h g rs => cases e
  | clo a c cd l xs h1 h2 h3 g h => cases e
theorem items_rel {H' : Hp} {ts : List Addr} {kv : List (Key × V)} (h : Paired (fun (t : Addr) (q : Key × V) => H' t = some (.tup [kV q.1, q.2])) ts kv) : ∀ {kvs : List (KW × W)}, RelKs P G H' kvs kv →
    RelWs P G H' (kvs.map fun kv => .tup [keyW kv.1, kv.2]) (ts.map V.ref) := by
  induction h with
  | nil => intro kvs r; cases r; exact .nil
  | @cons a p as ps h t ih =>
    intro kvs r
    cases r with
    | cons k w v ws vs r rs => exact .cons _ _ _ _ (.tup _ _ _ (.inl (.inl h)) (.cons _ _ _ _ (keyW_rel k) (.cons _ _ _ _ r .nil))) (ih rs)
theorem RelKs.keysW : ∀ {kvs : List (KW × W)} {kv : List (Key × V)}, RelKs P G H kvs kv → RelWs P G H (kvs.map fun kv => keyW kv.1) (kv.map fun q => kV q.1)
  | _, _, .nil => .nil
  | _, _, .cons k w v ws vs r rs => .cons _ _ _ _ (keyW_rel k) rs.keysW
def wLstItems (to : WTE) : WTE := fun σ G Q E => to σ G (fun x G1 => ∃ kvs, dcL G1 x = some kvs ∧ ∀ p, G1 p = none → Q (.ref p) (updG G1 p (.lst (kvs.map fun kv => .tup [keyW kv.1, kv.2])))) E
theorem je_listItems (hc : X.calm = true) (hg : Gl X "list") (hm : X.mg "list" = none) (ho : JE P X e te) (hv : bootBuiltins "list" = some (.type "list") := by rfl)
    (hbase : attributeBase e "items" X.env (eval e X.env) = eval e X.env := by rfl) (hline : (apos.endLine == cpos.line) = true := by rfl)
    (hs : starEach [.Call (.Attribute e "items" apos) [] [] cpos] X.env = (false, eval (.Call (.Attribute e "items" apos) [] [] cpos) X.env) :: starEach [] X.env := by rfl) :
    JE P X (.Call (.Name "list" p) [.Call (.Attribute e "items" apos) [] [] cpos] [] pos) (wLstItems te) := fun Ga Ha Ew tk =>
  PE.imp (LiI.pe_listItems hc (ho Ga Ha Ew tk) hg hm hv hbase hline hs) fun σ H Q ⟨σw, G, Qw, fa, rs, rp, ht, hq⟩ => ⟨σw, G, _, fa, rs, rp, ht, fun w1 G1 v1 H1 f1 r1 p1 ⟨kvs, e1, q⟩ => by
    obtain ⟨a, kv, rfl, h, rk⟩ := dcL_rel p1 r1 e1
    refine ⟨a, kv, rfl, h, fun H' p ts keep np nt pt hp hT => ?_⟩
    have fw : Fw G1 H1 (updG G1 p (.lst (kvs.map fun kv => .tup [keyW kv.1, kv.2]))) H' := fun b u e2 _ g => ⟨keep b u e2, by rw [updG_ne (ne_of_none e2 np)]; exact g⟩
    refine hq _ _ _ _ (f1.trans fw) (.ref p) (fun b u e2 => ?_) (q p (p1.free np))
    by_cases z : b = p
    · subst z
      rw [updG_same] at e2
      cases e2
      exact ⟨_, hp, items_rel hT (rk.fw p1 fw)⟩
    · rw [updG_ne z] at e2
      refine (p1 b u e2).fw p1 fw ?_
      cases e3 : H1 b with
      | none => rw [p1.free e3] at e2; cases e2
      | some o => exact keep b o e3⟩
/-- list(d) -/
def oListD : WRs := fun ws G Q => ∃ x kvs, ws = [x] ∧ dcL G x = some kvs ∧ ∀ p, G p = none → Q (.ref p) (updG G p (.lst (kvs.map fun kv => keyW kv.1)))
theorem cw_listD (hc : X.calm = true) : CallW P X (.type "list") oListD := CallR.imp (call_list_dK hc) fun vs H Q ⟨ws, G, Qw, r, rp, ⟨x, kvs, e0, e, q⟩, hq⟩ => by
  subst e0
  obtain ⟨v, rfl, r1⟩ := r.one
  obtain ⟨a, kv, rfl, h, rk⟩ := dcL_rel rp r1 e
  exact ⟨a, kv, rfl, h, fun p hp => hq _ _ _ _ (.new hp) (.ref p) (rp.put (u := .lst (kvs.map fun kv => keyW kv.1)) (.new hp) ⟨_, upd_same, (rk.fw rp (.new hp)).keysW⟩) (q p (rp.free hp))⟩
/-- d.clear() -/
def mDclear : WRm := fun x ws G Q => ∃ p kvs, x = .ref p ∧ ws = [] ∧ G p = some (.dct kvs) ∧ Q .non (updG G p (.dct []))
theorem mw_dclear : MtW P X "dict.clear" mDclear := MtR.imp mtd_clear fun x xs H Q ⟨wx, ws, G, Qw, rx, r, rp, ⟨p, kvs, e1, e2, e, q⟩, hq⟩ => by
  subst e1; subst e2
  cases rx
  have e4 := r.zero
  subst e4
  obtain ⟨kv, h, rk⟩ := rp p _ e
  have fp : Fw G H (updG G p (.dct [])) (upd H p (.dK [])) := .put e
  exact ⟨p, kv, rfl, rfl, h, hq _ _ _ _ fp .non (rp.put (u := .dct []) fp ⟨[], upd_same, .nil⟩) q⟩
/-- the sum of lists, that may change -/
def oAddM : WR2 := fun x y G Q => ∃ xs ys, lstOf G x = some xs ∧ lstOf G y = some ys ∧ xs.length + ys.length ≤ big ∧ ∀ q, G q = none → Q (.ref q) (updG G q (.lst (xs ++ ys)))
theorem ow_addM : OpW P X (binaryOp .Add) oAddM := by
  refine OpR.imp op_cat fun x y H Q ⟨wx, wy, G, Qw, rx, ry, rp, ⟨xs, ys, ex, ey, hl, q⟩, hq⟩ => ?_
  obtain ⟨a, vs, rfl, ha, ra⟩ := lstOf_rel rp rx ex
  obtain ⟨b, us, rfl, hb, rb⟩ := lstOf_rel rp ry ey
  refine ⟨a, b, vs, us, rfl, rfl, ha, hb, by rw [← ra.length, ← rb.length, big_eq]; exact hl, fun p hp => ?_⟩
  exact hq _ _ _ _ (.new hp) (.ref p) (rp.put (u := .lst (xs ++ ys)) (.new hp) ⟨_, upd_same, (ra.append rb).fw rp (.new hp)⟩) (q p (rp.free hp))
/-- dicts that are equal -/
def oNeD : WR2 := fun x y G Q => ∃ (ks : List (KW × W)), ks.length ≤ 100 ∧ dcL G x = some ks ∧ dcL G y = some ks ∧ (ks.map (·.1)).Nodup ∧ (∀ p ∈ ks, ∃ s, p.2 = W.str s) ∧ Q (.bl false) G
theorem RelKs.strAt : ∀ {ks : List (KW × W)} {kv lv : List (Key × V)}, RelKs P G H ks kv → RelKs P G H ks lv → (∀ p ∈ ks, ∃ s, p.2 = W.str s) → kv = lv
  | _, _, _, .nil, .nil, _ => rfl
  | _, _, _, .cons k w v ws vs h r, .cons _ _ v2 _ vs2 h2 r2, hs => by
    obtain ⟨s, e⟩ := hs (k, w) List.mem_cons_self
    have e : w = .str s := e
    subst e
    cases h
    cases h2
    rw [RelKs.strAt r r2 fun p hp => hs p (List.mem_cons_of_mem _ hp)]
/-- a new dict, frozen for good -/
def tFreeze (te : TE) : TE := fun σ H Q => te σ H fun x H1 => ∃ d u, x = .ref d ∧ H1 d = some u ∧ Mut (some u) ∧ ∀ od, Q x (upd H1 d (.frz od u))
theorem pe_freeze {te : TE} (h : PE X e te) : PE X e (tFreeze te) := by
  refine ⟨fun pins s σ H Q I hq => ?_⟩
  refine thn (h.run pins s σ H _ I hq) fun v s1 ⟨x, H1, I1, r, d, u, ex, hd, mu, q⟩ => ?_
  obtain ⟨od, I2⟩ := I1.lock hd mu
  exact ⟨x, _, I2, r, q od⟩
def wFreeze (te : WTE) : WTE := fun σ G Q E => te σ G (fun x G1 => ∃ p kvs, x = .ref p ∧ G1 p = some (.dct kvs) ∧ ∀ od u, Q (.ref p) (updG G1 p (.fz od u kvs))) E
theorem je_freeze (h : JE P X e te) : JE P X e (wFreeze te) := fun Ga Ha Ew tk =>
  PE.imp (pe_freeze (h Ga Ha Ew tk)) fun σ H Q ⟨σw, G, Qw, fa, rs, rp, ht, hq⟩ => ⟨σw, G, _, fa, rs, rp, ht, fun w1 G1 v1 H1 f1 r1 p1 ⟨p, kvs, e1, e2, q⟩ => by
    subst e1
    cases r1
    obtain ⟨kv, hp, hl⟩ := lock_on p1 e2
    refine ⟨p, .dK kv, rfl, hp, True.intro, fun od => ?_⟩
    obtain ⟨f, rp2⟩ := hl od
    exact hq _ _ _ _ (f1.trans f) (.ref p) rp2 (q od (.dK kv))⟩
/-- s.upper() -/
def mSupper : WRm := fun x ws G Q => ∃ s, x = .str s ∧ ws = [] ∧ s.all (· < 128) = true ∧ s.length ≤ 5592405 ∧ Q (.str (s.map up1)) G
theorem mw_supper : MtW P X "str.upper" mSupper := MtR.imp mt_upper fun x xs H Q ⟨wx, ws, G, Qw, rx, r, rp, ⟨s, e1, e2, ha, hl, q⟩, hq⟩ => by
  subst e1; subst e2
  cases rx
  have e4 := r.zero
  subst e4
  refine ⟨S s, rfl, rfl, by rw [S_len]; exact hl, ?_⟩
  rw [SX.upper_S ha]
  exact emb_end hq rp (.str _) q
theorem valV_nd : ∀ {ks : List (KW × W)} {kv : List (Key × V)}, RelKs P G H ks kv → (ks.map (·.1)).Nodup → (∀ p ∈ ks, ∃ s, p.2 = W.str s) → ∀ p ∈ kv, valV kv p.1 = some p.2 ∧ flatB p.2 = true
  | _, _, .nil, _, _ => by simp
  | _, _, .cons k w v ws vs h r, hn, hs => by
    obtain ⟨s, e⟩ := hs (k, w) List.mem_cons_self
    have e : w = .str s := e
    subst e
    cases h
    intro p hp
    rw [List.map_cons, List.nodup_cons] at hn
    have ih := valV_nd r hn.2 fun p hp => hs p (List.mem_cons_of_mem _ hp)
    have mem : ∀ {ws : List (KW × W)} {vs : List (Key × V)}, RelKs P G H ws vs → ∀ p ∈ vs, ∃ l, p.1 = kK l ∧ l ∈ ws.map (·.1) := by
      intro ws vs r
      induction vs generalizing ws with
      | nil => intro p hp; cases hp
      | cons a t ih =>
        cases r with
        | cons k2 w2 v2 ws2 vs2 h2 r2 =>
          intro p hp
          rcases List.mem_cons.mp hp with rfl | hp
          · exact ⟨k2, rfl, by simp⟩
          · obtain ⟨l, h3, h4⟩ := ih r2 p hp
            exact ⟨l, h3, by simp [h4]⟩
    rcases List.mem_cons.mp hp with rfl | hp
    · exact ⟨by simp [valV], rfl⟩
    · obtain ⟨l, h3, h4⟩ := mem r p hp
      have hne : ¬ kK k = p.1 := fun z => by
        rw [h3] at z
        have := kK_inj z
        subst this
        exact hn.1 h4
      refine ⟨?_, (ih p hp).2⟩
      have := (ih p hp).1
      unfold valV at this ⊢
      rw [List.find?_cons_of_neg (by simpa using hne)]
      exact this
theorem ow_neD (hu : X.A.units < cLine) : OpW P X (compareOp .NotEq) oNeD := OpR.imp (op_ne_dictA hu) fun x y H Q ⟨wx, wy, G, Qw, rx, ry, rp, ⟨ks, hl, e1, e2, hn, hs, q⟩, hq⟩ => by
  obtain ⟨a, kv, rfl, h1, r1⟩ := dcL_rel rp rx e1
  obtain ⟨b, lv, rfl, h2, r2⟩ := dcL_rel rp ry e2
  have e := r1.strAt r2 hs
  subst e
  exact ⟨a, b, kv, kv, rfl, rfl, h1, h2, rfl, valV_nd r1 hn hs, emb_end hq rp (.bl _) q⟩
open Classical in
theorem ne_ir {xs ys : List W} {Q : WQ} {p : Addr} (h : G p = some (.lst ys)) (ox : ∀ w ∈ xs, okW 20 w) (oy : ∀ w ∈ ys, okW 20 w) (q : Q (.bl (!decide (xs = ys))) G) : oNe (.il xs) (.ref p) G Q := by
  show eqD G (.il xs) (.ref p) (fun k => Q (.bl (!k)) G)
  exact eqD_l (k := fun k => Q (.bl (!k)) G) rfl (by simp [sqOf, lstOf, h]) ox oy q
open Classical in
theorem ne_rr {xs ys : List W} {Q : WQ} {p r : Addr} (h : G p = some (.lst xs)) (h' : G r = some (.lst ys)) (ox : ∀ w ∈ xs, okW 20 w) (oy : ∀ w ∈ ys, okW 20 w) (q : Q (.bl (!decide (xs = ys))) G) : oNe (.ref p) (.ref r) G Q := by
  show eqD G (.ref p) (.ref r) (fun k => Q (.bl (!k)) G)
  exact eqD_l (k := fun k => Q (.bl (!k)) G) (by simp [sqOf, lstOf, h]) (by simp [sqOf, lstOf, h']) ox oy q
end
end Lw
/-! W21: list(reversed(xs)). -/
namespace RT
open PySem PySem.Spec PyProof.Rows L2
section
variable {prog : Program} {w : World} {A : Around} {E : Value → Shared → Prop} {s : Shared}
theorem extend_rev {R : Result → Shared → Prop} {it l S : Addr} {items : Array Value} {c₀ : Nat} {res : Value} (hh : A.handled = none) (hit : s.heap.IsRevIter it l ((items.size : Int) - 1)) (hl : s.heap.IsList l items) (hne : l ≠ it) (hn : items.size ≤ sizeLine) (hSi : S ≠ it) (hSl : S ≠ l)
    (hS : s.heap.get? S = some { cls := .type "list", data := .seq #[] c₀ })
    (hR : ∀ (h' : Heap) (tk : Nat) (acc : Array Value) (c' : Nat), (∀ b o, b ≠ S → b ≠ it → s.heap.get? b = some o → h'.get? b = some o) → h'.get? S = some { cls := .type "list", dict := none, data := .seq acc c', slots := #[] } → ItemsOf (fun i v => items[items.size - 1 - i]? = some v) acc items.size → R (.ok (.ret res)) { s with heap := h', toks := tk }) :
    wpAny (model prog w) A.in1 (Builtin.List.listExtendWith (.ref S) (.ref it) res)
      (fun fin s' => match fin with | .done f => R (.ok f) s' | .again c' => c'.quiet = true ∧ codeAny (model prog w) A c' R s') (fun e s' => R (.error e) s') s := by
  have W := (Walks.listRev (prog := prog) (w := w) (A := A.in1) hh it l hne items).toS
  have hSf : S ∉ [it, l] := by simp only [List.mem_cons, List.not_mem_nil, or_false, not_or]; exact ⟨hSi, hSl⟩
  have hT : s.TypeIs (.ref it) "list_reverseiterator" := hit.typeIs
  have h1 : Builtin.List.listSameRef (.ref S) (.ref it) = false := by simp [Builtin.List.listSameRef, hSi]
  unfold Builtin.List.listExtendWith
  refine wpAny_bind (wpAny_typeOf hT ?_)
  rw [if_neg (by rw [h1]; decide)]
  refine wpAny_bind (wpAny_pyIter_revIter hit ?_)
  refine wpAny_bind (wpAny_holding ?_)
  unfold Builtin.List.listLengthHint
  refine wpAny_bind (wpAny_specialOf hT nolen_lri ?_)
  show wpAny _ A.in1 (specialOf (Value.ref it) (Str.ofString "__length_hint__") >>= _) _ _ _
  refine wpAny_bind (wpAny_specialOf hT hint_lri ?_)
  generalize hid : ("list_reverseiterator.__length_hint__" : String) = id0
  wp_delta
  rw [show splitId id0 = some ("list_reverseiterator", "__length_hint__") from by subst hid; decide +kernel]
  subst hid
  refine wpAny_bind (wpAny_isInstance (b := true) hT (by rw [isSubtype_type]; kernel_rfl) ?_)
  refine wpAny_pure ?_
  rw [if_neg (by decide)]
  have e0 : ((items.size : Nat) : Int) - 1 - ((0 : Nat) : Int) = (items.size : Int) - 1 := by omega
  refine wpAny_pure ⟨plainId_quiet F.plain_extend_loop _, codeAny_extend_loopS W hn S hSf res items.size 0 _ _ _ rfl (Nat.zero_le _) ⟨Nat.zero_le _, by rw [e0]; exact hit, hl⟩ hS (ItemsOf.nil _) fun s' acc' c' hm hS' hacc => ?_⟩
  rw [Moved.eq_with hm]
  refine hR s'.heap s'.toks acc' c' (fun b o hb hb2 e => hm.heap b o (fun hmem => ?_) e) hS' hacc
  rcases List.mem_cons.mp hmem with e' | hmem
  · exact hb e'
  · exact hb2 (List.mem_singleton.mp hmem)
theorem list_init_rev {R : Result → Shared → Prop} {it l S : Addr} {items : Array Value} (hh : A.handled = none) (hit : s.heap.IsRevIter it l ((items.size : Int) - 1)) (hl : s.heap.IsList l items) (hne : l ≠ it) (hn : items.size ≤ sizeLine) (hSi : S ≠ it) (hSl : S ≠ l)
    (hS : s.heap.get? S = some { cls := .type "list", data := .seq #[] })
    (hR : ∀ (h' : Heap) (tk : Nat) (acc : Array Value) (c' : Nat), (∀ b o, b ≠ S → b ≠ it → s.heap.get? b = some o → h'.get? b = some o) → h'.get? S = some { cls := .type "list", dict := none, data := .seq acc c', slots := #[] } → ItemsOf (fun i v => items[items.size - 1 - i]? = some v) acc items.size → R (.ok (.ret .none)) { s with heap := h', toks := tk }) :
    wpAny (model prog w) A.in1 (Builtin.«list.__init__» ⟨[.ref S, .ref it], []⟩)
      (fun fin s' => match fin with | .done f => R (.ok f) s' | .again c' => c'.quiet = true ∧ codeAny (model prog w) A c' R s') (fun e s' => R (.error e) s') s := by
  show wpAny _ _ (do let old ← Builtin.List.listItems (.ref S); Builtin.List.listUpdate (.ref S) (fun _ => #[]); letGo old.toList.reverse; Builtin.List.listExtendWith (.ref S) (.ref it) .none) _ _ s
  refine wpAny_bind ?_
  unfold Builtin.List.listItems
  refine wpAny_bind (wpAny_seqItems hS rfl (wpAny_pure ?_))
  show wpAny _ _ (updateSeq S (fun _ => #[]) >>= fun _ => letGo (#[] : Array Value).toList.reverse >>= fun _ => Builtin.List.listExtendWith (.ref S) (.ref it) .none) _ _ s
  refine wpAny_bind (wpAny_updateSeq hS rfl ?_)
  have hS₂ := Heap.get?_update_self (Obj.mapSeq (fun _ => (#[] : Array Value))) hS rfl
  have oth : ∀ b o, b ≠ S → s.heap.get? b = some o → (s.heap.update S (Obj.mapSeq (fun _ => (#[] : Array Value)))).get? b = some o :=
    fun b o hb e => (Heap.get?_update_other _ _ (Ne.symm hb)).trans e
  refine wpAny_bind (wpAny_letGo ?_)
  refine extend_rev (s := { s with heap := s.heap.update S (Obj.mapSeq (fun _ => (#[] : Array Value))) }) hh (hit.at fun o e => oth it o (Ne.symm hSi) e) ?_ hne hn hSi hSl hS₂ fun h' tk acc c' hk hS' hacc => ?_
  · obtain ⟨o, ho, h2, h3⟩ := hl
    exact ⟨o, oth l o (Ne.symm hSl) ho, h2, h3⟩
  · exact hR h' tk acc c' (fun b o hb hb2 e => hk b o hb hb2 (oth b o hb e)) hS' hacc
theorem call_list_rev {it l : Addr} {items : Array Value} {Q : Value → Shared → Prop} (hh : A.handled = none) (hit : s.heap.IsRevIter it l ((items.size : Int) - 1)) (hl : s.heap.IsList l items) (hne : l ≠ it) (hn : items.size ≤ sizeLine)
    (hQ : ∀ (h' : Heap) (tk : Nat) (acc : Array Value) (c' : Nat), (∀ b o, b ≠ it → s.heap.get? b = some o → h'.get? b = some o) → h'.get? s.heap.objs.size = some { cls := .type "list", dict := none, data := .seq acc c', slots := #[] } → ItemsOf (fun i v => items[items.size - 1 - i]? = some v) acc items.size → Q (.ref s.heap.objs.size) { s with heap := h', toks := tk }) :
    wpAny (model prog w) A (call (.type "list") [.ref it]) Q E s := by
  refine callType_codes (Q₁ := fun obj s₁ => obj = .ref s.heap.objs.size ∧ s₁ = { s with heap := s.heap.push { cls := .type "list", data := .seq #[] } }) F.called_list (F.typeCall_list_1 _) F.entry_list_init
    (code_list_new _ ⟨rfl, rfl⟩) fun obj s₁ h₁ => ?_
  obtain ⟨rfl, rfl⟩ := h₁
  obtain ⟨oi, hoi, _⟩ := id hit
  obtain ⟨ol, hol, _⟩ := id hl
  have hSi : s.heap.objs.size ≠ it := Nat.ne_of_gt (Heap.lt_size hoi)
  have hSl : s.heap.objs.size ≠ l := Nat.ne_of_gt (Heap.lt_size hol)
  have hS : (s.heap.push { cls := .type "list", data := .seq #[] }).get? s.heap.objs.size = some { cls := .type "list", data := .seq #[] } := Heap.get?_push_size _ rfl
  refine ⟨⟨_, hS, rfl⟩, F.args_list_init_2 _ _, list_init_rev (A := A.in1) (s := { s with heap := s.heap.push { cls := .type "list", data := .seq #[] } }) hh (hit.at fun o e => Heap.get?_push_of_some _ e) (hl.push _) hne hn hSi hSl hS fun h' tk acc c' hk hS' hacc => ?_⟩
  exact ⟨rfl, hQ h' tk acc c' (fun b o hb e => hk b o (Nat.ne_of_lt (Heap.lt_size e)) hb (Heap.get?_push_of_some _ e)) hS' hacc⟩
end
section
variable {X : Cx}
def tLstRev (K : PySem.W.Frag) (te : TE) : TE := fun σ H Q => te σ H fun v H1 => ∃ (a : Addr) (xs : List V), v = .ref a ∧ SqL K H1 a xs ∧ ∀ q, H1 q = none → Q (.ref q) (upd H1 q (.lst xs.reverse))
theorem pe_lstRev {e : Expr} {te : TE} {p p2 pos pos2 : Pos} (hc : X.calm = true) (hg : Gl X "list") (hm : X.mg "list" = none) (hg2 : Gl X "reversed") (hm2 : X.mg "reversed" = none) (he : PE X e te)
    (hs : starEach [e] X.env = (false, eval e X.env) :: starEach [] X.env := by rfl)
    (hs2 : starEach [.Call (.Name "reversed" p2) [e] [] pos2] X.env = (false, eval (.Call (.Name "reversed" p2) [e] [] pos2) X.env) :: starEach [] X.env := by rfl) :
    PE X (.Call (.Name "list" p) [.Call (.Name "reversed" p2) [e] [] pos2] [] pos) (tLstRev X.K te) := by
  refine ⟨fun pins s σ H Q I h => ?_⟩
  refine Call_ (ld_blt I hg hm boot_list (PyProof.Rows.callWith_type1 (args_cons (Call_ (ld_blt I hg2 hm2 PyProof.Rows.boot_reversed (PyProof.Rows.callWith_type1 (args_cons (thn (he.run pins s σ H _ I h) fun u s1 ⟨v, H1, I1, r1, q1⟩ => args_nil ?_) hs) hs rfl))) hs2) hs2 rfl))
  obtain ⟨a, xs, ev, hq, q⟩ := q1
  subst ev
  obtain rfl : u = Value.ref a := r1
  obtain ⟨its, rv, p', hz⟩ := I1.list hq
  refine call_reversed_list p'.isList (args_nil ?_)
  have hl := p'.isList
  obtain ⟨ol, hol, _⟩ := id hl
  have hne : a ≠ s1.heap.objs.size := Nat.ne_of_lt (Heap.lt_size hol)
  have hn : its.toArray.size ≤ sizeLine := by rw [List.size_toArray, ← rv.length]; exact hz
  have hle : s1.heap.objs.size ≤ (s1.heap.push (revObj a ((its.toArray.size : Int) - 1))).objs.size := by simp [Heap.push]
  refine call_list_rev (s := { s1 with heap := s1.heap.push (revObj a ((its.toArray.size : Int) - 1)) }) (I1.ok.hd hc) ⟨_, Heap.get?_push_size _ rfl, rfl, rfl⟩ (hl.push _) hne hn fun h' tk acc c' hk hS hi => ?_
  refine ⟨.ref (s1.heap.push (revObj a ((its.toArray.size : Int) - 1))).objs.size, upd H1 (s1.heap.push (revObj a ((its.toArray.size : Int) - 1))).objs.size (.lst xs.reverse), I1.laid (t' := tk) (fun b o e => hk b o (Nat.ne_of_lt (Heap.lt_size e)) (Heap.get?_push_of_some _ e)) hle (show ObjOk X.prog X.w _ _ _ (.lst xs.reverse) from ⟨by rw [List.length_reverse]; exact hz, acc.toList, c', vals_rev rv hi, ?_⟩), rfl, q _ (I1.hok.fresh hle)⟩
  rw [Array.toArray_toList]
  exact hS
end
end RT
namespace Lw
open PySem PySem.Spec PyProof.Rows L2
section
variable {P : Par} {X : Cx} {e : Expr} {te : WTE} {p p2 pos pos2 : Pos}
def wLstRev (to : WTE) : WTE := fun σ G Q E => to σ G (fun x G1 => ∃ xs, lstOf G1 x = some xs ∧ ∀ p, G1 p = none → Q (.ref p) (updG G1 p (.lst xs.reverse))) E
theorem je_lstRev (hc : X.calm = true) (hK : X.K = P.K) (hg : Gl X "list") (hm : X.mg "list" = none) (hg2 : Gl X "reversed") (hm2 : X.mg "reversed" = none) (he : JE P X e te)
    (hs : starEach [e] X.env = (false, eval e X.env) :: starEach [] X.env := by rfl)
    (hs2 : starEach [.Call (.Name "reversed" p2) [e] [] pos2] X.env = (false, eval (.Call (.Name "reversed" p2) [e] [] pos2) X.env) :: starEach [] X.env := by rfl) :
    JE P X (.Call (.Name "list" p) [.Call (.Name "reversed" p2) [e] [] pos2] [] pos) (wLstRev te) := fun Ga Ha Ew tk =>
  PE.imp (RT.pe_lstRev hc hg hm hg2 hm2 (he Ga Ha Ew tk) hs hs2) fun σ H Q ⟨σw, G, Qw, fa, rs, rp, ht, hq⟩ => ⟨σw, G, _, fa, rs, rp, ht, fun w1 G1 v1 H1 f1 r1 p1 ⟨xs, e1, q⟩ => by
    obtain ⟨a, vs, rfl, ha, ra⟩ := lstOf_rel p1 r1 e1
    refine ⟨a, vs, rfl, .inl (.inl ha), fun p hp => ?_⟩
    exact hq _ _ _ _ (f1.trans (.new hp)) (.ref p) (p1.put (u := .lst xs.reverse) (.new hp) ⟨_, upd_same, (ra.reverse).fw p1 (.new hp)⟩) (q p (p1.free hp))⟩
end
end Lw
/-! W22: list(range(a, b)). -/
namespace Lw
open PySem PySem.Spec PyProof.Rows L2
section
variable {P : Par} {X : Cx} {a b : Expr} {ta tb : WTE} {p p2 pos pos2 : Pos}
def wLstRg2 (ta tb : WTE) : WTE := fun σ G Q E => ta σ G (fun x G1 => tb σ G1 (fun y G2 => ∃ i j : Int, x = .int i ∧ y = .int j ∧ 0 ≤ i ∧ i ≤ 16777216 ∧ 0 ≤ j ∧ j ≤ 16777216 ∧ ∀ q, G2 q = none → Q (.ref q) (updG G2 q (.lst (rngW i (j - i).toNat)))) E) E
theorem je_listRg2 (hc : X.calm = true) (hl : Gl X "list") (ml : X.mg "list" = none) (hr : Gl X "range") (mr : X.mg "range" = none) (ha : JE P X a ta) (hb : JE P X b tb)
    (na : starEach [a, b] X.env = (false, eval a X.env) :: starEach [b] X.env := by rfl)
    (nb : starEach [b] X.env = (false, eval b X.env) :: starEach [] X.env := by rfl)
    (hp : (backTo pos (starEach [b] X.env)).any (·.1) = false := by rfl)
    (na2 : starEach [.Call (.Name "range" p) [a, b] [] pos] X.env = (false, eval (.Call (.Name "range" p) [a, b] [] pos) X.env) :: starEach [] X.env := by rfl) :
    JE P X (.Call (.Name "list" p2) [.Call (.Name "range" p) [a, b] [] pos] [] pos2) (wLstRg2 ta tb) := fun Ga Ha Ew tk =>
  PE.imp (pe_listRg hc hl ml (prg_2 hr mr (ha Ga Ha Ew tk) (hb Ga Ha Ew tk) na nb hp) na2) fun σ H Q ⟨σw, G, Qw, fa, rs, rp, ht, hq⟩ => ⟨σw, G, _, fa, rs, rp, ht, fun w1 G1 v1 H1 f1 r1 p1 h1 => ⟨σw, G1, _, fa.trans f1, rs.fw rp f1, p1, h1, fun w2 G2 v2 H2 f2 r2 p2 ⟨i, j, e1, e2, i0, i1, j0, j1, q⟩ => by
    subst e1; subst e2
    cases r1; cases r2
    refine ⟨i, j, rfl, rfl, RgOk.of_le i0 j1 i1 j0, fun q1 hq1 => ?_⟩
    exact hq _ _ _ _ (f1.trans (f2.trans (.new hq1))) (.ref q1) (p2.put (u := .lst (rngW i (j - i).toNat)) (.new hq1) ⟨_, upd_same, rel_rng⟩) (q q1 (p2.free hq1))⟩⟩
/-! a list, so many times -/
theorem RelWs.rep {G : WHp} {H : Hp} {ws : List W} {vs : List V} (r : RelWs P G H ws vs) : ∀ n : Nat, RelWs P G H (List.replicate n ws).flatten (List.replicate n vs).flatten
  | 0 => .nil
  | n + 1 => by
    rw [List.replicate_succ, List.replicate_succ, List.flatten_cons, List.flatten_cons]
    exact r.append (RelWs.rep r n)
def oRepM : WR2 := fun x y G Q => ∃ xs, lstOf G x = some xs ∧ ∃ k : Int, y = .int k ∧ -(2 ^ 63) ≤ k ∧ k < 2 ^ 63 ∧ xs.length * k.toNat ≤ big ∧ ∀ q, G q = none → Q (.ref q) (updG G q (.lst (List.replicate k.toNat xs).flatten))
theorem ow_repM : OpW P X (binaryOp .Mult) oRepM := by
  refine OpR.imp op_rep fun x y H Q ⟨wx, wy, G, Qw, rx, ry, rp, ⟨xs, ex, k, ey, h1, h2, hl, q⟩, hq⟩ => ?_
  subst ey
  cases ry
  obtain ⟨a, vs, rfl, ha, ra⟩ := lstOf_rel rp rx ex
  refine ⟨a, k, vs, rfl, rfl, ha, h1, h2, by rw [← ra.length]; exact hl, fun p hp => ?_⟩
  exact hq _ _ _ _ (.new hp) (.ref p) (rp.put (u := .lst (List.replicate k.toNat xs).flatten) (.new hp) ⟨_, upd_same, (ra.rep _).fw rp (.new hp)⟩) (q p (rp.free hp))
end
end Lw
/-! W23: d.pop(k). -/
namespace Lw
open PySem PySem.Spec PyProof.Rows L2
section
variable {P : Par} {X : Cx} {o e : Expr} {to te : WTE} {apos cpos : Pos}
/-- d.pop(k), k in d -/
def wDpop1 (to ti : WTE) : WTE := fun σ G Q E => to σ G (fun x G1 => (dOf G1 x).isSome = true ∧ ti σ G1 (fun y G2 => ∃ p kvs k v, x = .ref p ∧ G2 p = some (.dct kvs) ∧ kW y = some k ∧ valW kvs k = some v ∧ Q v (updG G2 p (.dct (dropKW kvs k)))) E) E
theorem je_dpop1 (ho : JE P X o to) (he : JE P X e te) (m : M1 X o "pop" apos e cpos := by exact ⟨rfl, rfl, rfl, rfl⟩) : JE P X (.Call (.Attribute o "pop" apos) [e] [] cpos) (wDpop1 to te) := fun Ga Ha Ew tk =>
  PE.imp (pe_dpop1 (ho Ga Ha Ew tk) (he Ga Ha Ew tk) m) fun σ H Q ⟨σw, G, Qw, fa, rs, rp, ht, hq⟩ => ⟨σw, G, _, fa, rs, rp, ht, fun w1 G1 v1 H1 f1 r1 p1 ⟨hd, h1⟩ => by
    obtain ⟨a, rfl, hI⟩ := isD_rel p1 r1 hd
    refine ⟨a, rfl, hI, σw, G1, _, fa.trans f1, rs.fw rp f1, p1, h1, fun w2 G2 v2 H2 f2 r2 p2 ⟨p, kvs, k, w, e0, e1, e2, e3, q⟩ => ?_⟩
    subst e0
    have ea : p = a := by cases r1; rfl
    subst ea
    have ev := kW_rel r2 e2
    subst ev
    obtain ⟨kv, h, rk⟩ := p2 p _ e1
    have f4 : Fw G2 H2 (updG G2 p (.dct (dropKW kvs k))) (upd H2 p (.dK (dropK kv (kK k)))) := .put e1
    have p4 := p2.put (u := .dct (dropKW kvs k)) f4 ⟨_, upd_same, (rk.drop (k := k)).fw p2 f4⟩
    rcases rk.val k with ⟨z, _⟩ | ⟨x, y, h3, h4, h5⟩
    · rw [e3] at z; cases z
    · rw [e3] at h3
      cases h3
      exact ⟨kv, kK k, y, h, rfl, h4, hq _ _ _ _ (f1.trans (f2.trans f4)) (h5.fw p2 f4) p4 q⟩⟩
end
end Lw
/-! W24: x.bit_length(); the lowest bit. -/
namespace Lw
open PySem PySem.Spec PyProof.Rows L2
section
variable {P : Par} {X : Cx} {o : Expr} {to : WTE} {apos pos : Pos}
def wBits (to : WTE) : WTE := fun σ G Q E => to σ G (fun x G1 => ∃ i : Int, x = .int i ∧ Q (.int (Builtin.Int.intBits i : Nat)) G1) E
theorem je_bits (ho : JE P X o to) (hbase : attributeBase o "bit_length" X.env (eval o X.env) = eval o X.env := by rfl) (hline : (apos.endLine == pos.line) = true := by rfl) : JE P X (.Call (.Attribute o "bit_length" apos) [] [] pos) (wBits to) := fun Ga Ha Ew tk =>
  PE.imp (pe_bits (ho Ga Ha Ew tk) hbase hline) fun σ H Q ⟨σw, G, Qw, fa, rs, rp, ht, hq⟩ => ⟨σw, G, _, fa, rs, rp, ht, fun w1 G1 v1 H1 f1 r1 p1 ⟨i, e, q⟩ => by
    subst e
    cases r1
    exact ⟨i, rfl, hq _ G1 _ H1 f1 (.int _) p1 q⟩⟩
end
/-! xs.count(x), flat items -/
section
variable {P : Par} {X : Cx}
theorem count_vals {y : V} : ∀ {ys : List V} {us : List Value}, Vals ys us → ys.all flatV = true → us.countP (eqU y) = ys.countP fun z => eqV z y
  | _, _, .nil, _ => rfl
  | z :: zs, u :: us, .cons r t, f => by
    rw [List.all_cons, Bool.and_eq_true] at f
    rw [List.countP_cons, List.countP_cons, count_vals t f.2, eqU_of r f.1]
def rCountL (K : PySem.W.Frag) : V → List V → Hp → VK → Prop := fun x xs H Q => ∃ (a : Addr) (ys : List V) (y : V), x = V.ref a ∧ xs = [y] ∧ SqL K H a ys ∧ flatV y = true ∧ ys.all flatV = true ∧ Q (.int (ys.countP fun z => eqV z y : Nat)) H
theorem mt_countL : MtR X "list.count" (rCountL X.K) := by
  intro pins s σ H x xs v us Q I rx rxs h
  obtain ⟨a, ys, y, rfl, rfl, hs, fy, fys, q⟩ := h
  cases rx
  cases rxs with
  | cons ry rt =>
    rename_i uy ut
    cases rt
    obtain ⟨its, rv, ⟨⟨cls, dd, data, sl⟩, n, ho, hc, hdn, hd⟩, hlen⟩ := I.list hs
    simp only at hc hd
    subst hc hd
    refine call_meets PySem.F.slot_list_count ⟨_, ho, rfl⟩ PySem.F.entry_list_count (PySem.F.args_list_count_2 _ _)
      (SeqAt.list_countAt a its.toArray n dd sl uy (eqU y)) ⟨ho, fun u' hu' => mem_eqAt ry fy rv fys u' (by simpa using hu'), ?_⟩
    rw [← count_vals rv fys] at q
    exact ⟨.int (its.countP (eqU y) : Nat), H, I.tok _, ⟨_, rfl⟩, q⟩
theorem count_rel {G : WHp} {H : Hp} {w : W} {v : V} (rv : RelW P G H w v) (f : flW w = true) : ∀ {ws : List W} {vs : List V}, RelWs P G H ws vs → ws.all flW = true → (vs.countP fun z => eqV z v) = ws.countP fun z => eqFl z w
  | _, _, .nil, _ => rfl
  | _, _, .cons a b as bs r rs, h => by
    rw [List.all_cons, Bool.and_eq_true] at h
    rw [List.countP_cons, List.countP_cons, count_rel rv f rs h.2, eqFl_rel r rv h.1 f]
def mCount : WRm := fun x ws G Q => ∃ ys y, ws = [y] ∧ sqOf G x = some ys ∧ flW y = true ∧ ys.all flW = true ∧ Q (.int (ys.countP fun z => eqFl z y : Nat)) G
theorem mw_count (hK : X.K = P.K) : MtW P X "list.count" mCount := MtR.imp mt_countL fun x xs H Q ⟨wx, ws, G, Qw, rx, r, rp, ⟨ys, y, e2, e, fy, fys, q⟩, hq⟩ => by
  subst e2
  obtain ⟨v, rfl, rv⟩ := r.one
  obtain ⟨a, vs, rfl, ha, ra⟩ := sqOf_rel rp rx e
  refine ⟨a, vs, v, rfl, rfl, by rw [hK]; exact ha, flW_rel rv fy, all_flat ra fys, emb_end hq rp (.int _) ?_⟩
  rw [count_rel rv fy ra fys]
  exact q
end
end Lw
/-! W25: list(d.values()). -/
namespace LiV
open PySem PySem.Spec PyProof.Rows L2
section
variable {X : Cx} {e : Expr} {te : TE} {p apos cpos pos : Pos}
def tListVals (te : TE) : TE := fun σ H Q => te σ H fun x H1 => ∃ d kvs, x = .ref d ∧ H1 d = some (.dK kvs) ∧ ∀ q, H1 q = none → Q (.ref q) (upd H1 q (.lst (kvs.map (·.2))))
theorem pe_listVals (hc : X.calm = true) (he : PE X e te) (hg : Gl X "list") (hm : X.mg "list" = none) (hv : bootBuiltins "list" = some (.type "list")) (hbase : attributeBase e "values" X.env (eval e X.env) = eval e X.env := by rfl) (hline : (apos.endLine == cpos.line) = true := by rfl)
    (hs : starEach [.Call (.Attribute e "values" apos) [] [] cpos] X.env = (false, eval (.Call (.Attribute e "values" apos) [] [] cpos) X.env) :: starEach [] X.env := by rfl) :
    PE X (.Call (.Name "list" p) [.Call (.Attribute e "values" apos) [] [] cpos] [] pos) (tListVals te) := by
  refine ⟨fun pins s σ H Q I hq => ?_⟩
  refine wpAny_Call_Name_kw (ld_blt I hg hm hv ?_)
  refine PyProof.Rows.callWith_type1 ?_ hs rfl
  rw [hs]
  show wpAny _ _ (spliced ((false, eval (.Call (.Attribute e "values" apos) [] [] cpos) X.env) :: backTo pos (starEach [] X.env))) _ _ s
  refine Calls.spliced_cons ?_
  refine wpAny_Call_method (T := "dict") (id := "dict.values") hbase rfl hline F.plainAttrs_dict F.slot_dict_values F.type_dict_values (thn (he.run pins s σ H _ I hq) fun u s1 ⟨x, H1, I1, rx, d, kvs, ex, hd, q⟩ => ?_)
  subst ex
  obtain rfl : u = Value.ref d := rx
  obtain ⟨hz, hs0, vs, kv, hdo⟩ := I1.hok d _ hd
  obtain ⟨ep, hat⟩ := hdo.dictAt
  have lk : kvs.length = vs.length := Paired.length kv
  have I2 : Inv X pins σ H1 { s1 with heap := s1.heap.push { cls := .type "dict_values", data := .fields #[.ref d] } } := I1.kept (t' := s1.toks) fun b ob q => Heap.get?_push_of_some _ q
  refine ⟨hdo.typeIs, hdo.mapOf.noDict, ?_⟩
  show wpAny _ _ (callWith cpos (.builtin "dict.values") [.ref d] [] []) _ X.xe s1
  refine method_meetsIn F.slot_dict_values F.entry_dict_values rfl (PySem.evalArgs_none ⟨rfl, hdo.typeIs, F.args_dict_values_1 _, _, meets_dict_values (mixKind X.prog X.w) d hs0, ⟨vs, hdo⟩, ?_⟩)
  refine Calls.spliced_nil ?_
  refine PySem.W.kdl_call (s := { s1 with heap := s1.heap.push { cls := .type "dict_values", data := .fields #[.ref d] } }) (PySem.W.kdl_values (knd := mixKind X.prog X.w) (r := s1.heap.objs.size) (d := d) (kvs := vs) (ep := ep)) (I1.ok.hd hc) ⟨⟨_, Heap.get?_push_size _ rfl, rfl, rfl⟩, hat.push _⟩ (by omega) fun h' tk acc' c' hkeep hS hacc => ?_
  refine ⟨.ref _, upd H1 _ (.lst (kvs.map (·.2))), I2.laid (t' := tk) hkeep (Nat.le_refl _) (show ObjOk X.prog X.w _ _ _ (.lst (kvs.map (·.2))) from ⟨?_, acc'.toList, c', ?_, ?_⟩), rfl, q _ (I2.hok.fresh (Nat.le_refl _))⟩
  · rw [List.length_map]; omega
  · have el : acc'.toList.length = acc'.size := by simp
    refine vals_of_at (by rw [List.length_map, el, hacc.1, lk]) fun j x w h1 h2 => ?_
    obtain ⟨k, hk⟩ := hacc.2 j w (by rw [← Array.getElem?_toList]; exact h2)
    rw [List.getElem?_map, Option.map_eq_some_iff] at h1
    obtain ⟨pk, hpk, rfl⟩ := h1
    obtain ⟨qv, g1, g2, g3⟩ := LiI.paired_get kv hpk
    rw [hk] at g1
    cases g1
    exact g3
  · rw [Array.toArray_toList]; exact hS
end
end LiV
namespace Lw
open PySem PySem.Spec PyProof.Rows L2
section
variable {P : Par} {X : Cx} {e : Expr} {to : WTE} {p apos cpos pos : Pos}
def wLstVals (to : WTE) : WTE := fun σ G Q E => to σ G (fun x G1 => ∃ kvs, dcL G1 x = some kvs ∧ ∀ p, G1 p = none → Q (.ref p) (updG G1 p (.lst (kvs.map (·.2))))) E
theorem RelKs.valsW {G : WHp} {H : Hp} : ∀ {kvs : List (KW × W)} {kv : List (Key × V)}, RelKs P G H kvs kv → RelWs P G H (kvs.map (·.2)) (kv.map (·.2))
  | _, _, .nil => .nil
  | _, _, .cons _ _ _ _ _ r rs => .cons _ _ _ _ r (RelKs.valsW rs)
theorem je_listVals (hc : X.calm = true) (hg : Gl X "list") (hm : X.mg "list" = none) (ho : JE P X e to) (hv : bootBuiltins "list" = some (.type "list") := by rfl) (hbase : attributeBase e "values" X.env (eval e X.env) = eval e X.env := by rfl) (hline : (apos.endLine == cpos.line) = true := by rfl)
    (hs : starEach [.Call (.Attribute e "values" apos) [] [] cpos] X.env = (false, eval (.Call (.Attribute e "values" apos) [] [] cpos) X.env) :: starEach [] X.env := by rfl) :
    JE P X (.Call (.Name "list" p) [.Call (.Attribute e "values" apos) [] [] cpos] [] pos) (wLstVals to) := fun Ga Ha Ew tk =>
  PE.imp (LiV.pe_listVals hc (ho Ga Ha Ew tk) hg hm hv hbase hline hs) fun σ H Q ⟨σw, G, Qw, fa, rs, rp, ht, hq⟩ => ⟨σw, G, _, fa, rs, rp, ht, fun w1 G1 v1 H1 f1 r1 p1 ⟨kvs, e1, q⟩ => by
    obtain ⟨a, kv, rfl, ha, ra⟩ := dcL_rel p1 r1 e1
    refine ⟨a, kv, rfl, ha, fun q' hq' => ?_⟩
    exact hq _ _ _ _ (f1.trans (.new hq')) (.ref q') (p1.put (u := .lst (kvs.map (·.2))) (.new hq') ⟨_, upd_same, (ra.valsW).fw p1 (.new hq')⟩) (q q' (p1.free hq'))⟩
end
end Lw
/-! W26: dicts whose values are whole numbers, compared. -/
namespace Lw
open PySem PySem.Spec PyProof.Rows L2
section
variable {P : Par} {X : Cx} {G : WHp} {H : Hp} {o e f value : Expr} {to te tf : WTE} {p pos pos' apos cpos : Pos}
def oNeDI : WR2 := fun x y G Q => ∃ (ks : List (KW × W)), ks.length ≤ 100 ∧ dcL G x = some ks ∧ dcL G y = some ks ∧ (ks.map (·.1)).Nodup ∧ (∀ p ∈ ks, ∃ s, p.2 = W.int s) ∧ Q (.bl false) G
theorem RelKs.intAt : ∀ {ks : List (KW × W)} {kv lv : List (Key × V)}, RelKs P G H ks kv → RelKs P G H ks lv → (∀ p ∈ ks, ∃ s, p.2 = W.int s) → kv = lv
  | _, _, _, .nil, .nil, _ => rfl
  | _, _, _, .cons k w v ws vs h r, .cons _ _ v2 _ vs2 h2 r2, hs => by
    obtain ⟨s, e⟩ := hs (k, w) List.mem_cons_self
    have e : w = .int s := e
    subst e
    cases h
    cases h2
    rw [RelKs.intAt r r2 fun p hp => hs p (List.mem_cons_of_mem _ hp)]
theorem valV_ndI : ∀ {ks : List (KW × W)} {kv : List (Key × V)}, RelKs P G H ks kv → (ks.map (·.1)).Nodup → (∀ p ∈ ks, ∃ s, p.2 = W.int s) → ∀ p ∈ kv, valV kv p.1 = some p.2 ∧ flatB p.2 = true
  | _, _, .nil, _, _ => by simp
  | _, _, .cons k w v ws vs h r, hn, hs => by
    obtain ⟨s, e⟩ := hs (k, w) List.mem_cons_self
    have e : w = .int s := e
    subst e
    cases h
    intro p hp
    rw [List.map_cons, List.nodup_cons] at hn
    have ih := valV_ndI r hn.2 fun p hp => hs p (List.mem_cons_of_mem _ hp)
    have mem : ∀ {ws : List (KW × W)} {vs : List (Key × V)}, RelKs P G H ws vs → ∀ p ∈ vs, ∃ l, p.1 = kK l ∧ l ∈ ws.map (·.1) := by
      intro ws vs r
      induction vs generalizing ws with
      | nil => intro p hp; cases hp
      | cons a t ih =>
        cases r with
        | cons k2 w2 v2 ws2 vs2 h2 r2 =>
          intro p hp
          rcases List.mem_cons.mp hp with rfl | hp
          · exact ⟨k2, rfl, by simp⟩
          · obtain ⟨l, h3, h4⟩ := ih r2 p hp
            exact ⟨l, h3, by simp [h4]⟩
    rcases List.mem_cons.mp hp with rfl | hp
    · exact ⟨by simp [valV], rfl⟩
    · obtain ⟨l, h3, h4⟩ := mem r p hp
      have hne : ¬ kK k = p.1 := fun z => by
        rw [h3] at z
        have := kK_inj z
        subst this
        exact hn.1 h4
      refine ⟨?_, (ih p hp).2⟩
      have := (ih p hp).1
      unfold valV at this ⊢
      rw [List.find?_cons_of_neg (by simpa using hne)]
      exact this
theorem ow_neDI (hu : X.A.units < cLine) : OpW P X (compareOp .NotEq) oNeDI := OpR.imp (op_ne_dictA hu) fun x y H Q ⟨wx, wy, G, Qw, rx, ry, rp, ⟨ks, hl, e1, e2, hn, hs, q⟩, hq⟩ => by
  obtain ⟨a, kv, rfl, h1, r1⟩ := dcL_rel rp rx e1
  obtain ⟨b, lv, rfl, h2, r2⟩ := dcL_rel rp ry e2
  have e := r1.intAt r2 hs
  subst e
  exact ⟨a, b, kv, kv, rfl, rfl, h1, h2, rfl, valV_ndI r1 hn hs, emb_end hq rp (.bl _) q⟩
end
end Lw
/-! W27: range with a step. -/
namespace Lw
open PySem PySem.Spec PyProof.Rows L2
section
variable {P : Par} {X : Cx} {G : WHp} {H : Hp} {tg : Expr} {ta : WTA} {p pos : Pos}
def rngC (lo c : Int) (n : Nat) : List W := (List.range n).map fun i => .int (lo + (i : Nat) * c)
theorem rngC_at {lo c : Int} {n i : Nat} (h : i < n) : (rngC lo c n)[i]? = some (.int (lo + (i : Nat) * c)) := by
  unfold rngC
  rw [List.getElem?_map, List.getElem?_range h]
  rfl
theorem rngC_len {lo c : Int} {n : Nat} : (rngC lo c n).length = n := by simp [rngC]
def wRng3 (ta : WTA) : WTI := fun σ G R E => ta σ G (fun vs G1 => ∃ (i j c : Int) (n : Nat), vs = [.int i, .int j, .int c] ∧ RgC i j c n ∧ R (rngC i c n) (fun _ => True) G1) E
theorem itc_ok {lo c : Int} {n : Nat} {G1 : WHp} {H1 : Hp} {ok : WHp → Prop} :
    (∀ i G2 H2, Fw G1 H1 G2 H2 → Rep P G2 H2 → ok G2 → (rngC lo c n).length ≤ i → (Itc lo c n).stop i H2) ∧
    (∀ i G2 H2, Fw G1 H1 G2 H2 → Rep P G2 H2 → ok G2 → i < (rngC lo c n).length → (Itc lo c n).go i H2) ∧
    (∀ i G2 H2 x H3, Fw G1 H1 G2 H2 → Rep P G2 H2 → ok G2 → i < (rngC lo c n).length → (Itc lo c n).yld i H2 x H3 → ∃ w, (rngC lo c n)[i]? = some w ∧ Fw G2 H2 G2 H3 ∧ Rep P G2 H3 ∧ RelW P G2 H3 w x) := by
  refine ⟨fun i G2 H2 f rp ok hi => by rw [rngC_len] at hi; exact hi, fun i G2 H2 f rp ok hi => by rw [rngC_len] at hi; exact hi, fun i G2 H2 x H3 f rp ok hi y => ?_⟩
  obtain ⟨rfl, rfl⟩ := y
  rw [rngC_len] at hi
  exact ⟨_, rngC_at hi, .refl _ _, rp, .int _⟩
theorem ji_range3 {a b c : Expr} {q : Pos} (hg : Gl X "range") (hm : X.mg "range" = none) (ha : JA P X [a, b, c] ta)
    (hs : starEach [a, b, c] X.env = (false, eval a X.env) :: starEach [b, c] X.env := by rfl) (hpl : (backTo pos (starEach [b, c] X.env)).any (·.1) = false := by rfl) :
    JI P X tg (.Call (.Name "range" q) [a, b, c] [] pos) (wRng3 ta) := fun Ga Ha Ew tk =>
  PI.imp (pi_range3 hg hm (ha Ga Ha Ew tk) hs hpl) fun σ H R ⟨σw, G, Rw, fa, rs, rp, ht, hR⟩ => ⟨σw, G, _, fa, rs, rp, ht, fun ws G1 vs H1 f1 r1 p1 ⟨i, j, k, n, e, h1, q⟩ => by
    subst e
    cases r1 with
    | cons _ _ _ _ r rr =>
      cases rr with
      | cons _ _ _ _ r' rr =>
        cases rr with
        | cons _ _ _ _ r'' rr =>
          cases r; cases r'; cases r''; cases rr
          obtain ⟨k1, k2, k3⟩ := itc_ok (P := P) (lo := i) (c := k) (n := n) (G1 := G1) (H1 := H1) (ok := fun _ => True)
          exact ⟨i, j, k, n, rfl, h1, hR _ _ G1 H1 _ f1 p1 q k1 k2 k3⟩⟩
end
end Lw
/-! W28: isinstance of the exception that a suite holds. -/
namespace LiX
open PySem PySem.Spec PyProof.Rows L2
/-- what a class says, so that isinstance asks its instances rightly -/
structure IsC (K : PySem.W.Frag) (D : Addr) : Prop where
  hcl : (PySem.W.clsIn K D).isSome = true
  ga : PySem.W.findIn K (.ref D) "__getattribute__" = some (some (.builtin "BaseException.__getattribute__"))
  gg : PySem.W.findIn K (.ref D) "__getattr__" = some none
  ex : PySem.W.subIn K (.ref D) (.type "BaseException") = some true
  ha : PySem.W.findIn K (.ref D) "__class__" = some (some (.builtin "object.__class__"))
  hn : PySem.W.specialIn K (.builtin "object.__class__") "__get__" = some (some (.builtin "getset_descriptor.__get__"))
  ht : PySem.W.takesIn K (.builtin "object.__class__") = some true
  hm : PySem.W.mroIn K D (.type "object") = some true
def seenX (H : Hp) (d : Option Addr) : Prop := d = none ∨ ∃ dd fs, d = some dd ∧ H dd = some (.xd fs)
section
variable {X : Cx} {a D : Addr} {oe : Obj} {d : Option Addr} {pn : List (Addr × Obj)}
theorem inst_at {pins : List (Addr × Obj)} {σ : L2.St} {H : Hp} {s : Shared} (I : Inv (X.suite a ((a, oe) :: pn)) pins σ H s) (hz : Zc (.ref D) d oe) (hf : ∃ vs, oe.data = .fields vs) (hs : seenX H d) : ∃ od, PySem.W.InstAt s.heap a oe D od := by
  obtain ⟨ha, _⟩ := I.pin (a, oe) (List.mem_append_left _ List.mem_cons_self)
  obtain ⟨vs, hd⟩ := hf
  rcases hs with e | ⟨dd, fs, e, ea⟩
  · subst e
    exact ⟨none, ha, hz.1, by unfold PySem.W.notCls; rw [hd] <;> rfl, by rw [hz.2]; trivial⟩
  · subst e
    have hx : ObjOk X.prog X.w H s.heap dd (.xd fs) := I.hok dd _ ea
    obtain ⟨mA, hns, hr⟩ := hx
    obtain ⟨od, ho, hl⟩ := lookIn_ns hns
    exact ⟨some od, ha, hz.1, by unfold PySem.W.notCls; rw [hd] <;> rfl, by rw [hz.2]; exact ho⟩
def rIsX (K : PySem.W.Frag) (D a : Addr) (d : Option Addr) : List V → Hp → VK → Prop := fun xs H Q => ∃ (c : V) (cv : Value) (b : Bool), xs = [.ref a, c] ∧ ClsV c cv ∧ seenX H d ∧ PySem.W.kitOne K (.ref D) cv = some b ∧ Q (.bl b) H
theorem call_isX (C : IsC X.K D) (hz : Zc (.ref D) d oe) (hf : ∃ vs, oe.data = .fields vs) : CallR (X.suite a ((a, oe) :: pn)) (.builtin "isinstance") (rIsX X.K D a d) := by
  intro pins s σ H xs us Q I r h
  obtain ⟨c, cv, b, rfl, k, hs, e, q⟩ := h
  obtain ⟨u1, u2, rfl, r1, r2⟩ := vals2 r
  have ec := k.eq r2
  subst ec
  cases (show u1 = Value.ref a from r1)
  obtain ⟨od, J⟩ := inst_at I hz hf hs
  exact PySem.W.kia_one (PySem.W.kitx_exc C.hcl C.ga C.gg C.ex C.ha C.hn C.ht C.hm) I.kIn J e (fun z => nomatch z) fun tk => ⟨.bl b, H, I.tok tk, rfl, q⟩
def rIsXT (K : PySem.W.Frag) (D a : Addr) (d : Option Addr) : List V → Hp → VK → Prop := fun xs H Q => ∃ (tp : Addr) (cs : List V) (us : List Value) (b : Bool), xs = [.ref a, .ref tp] ∧ H tp = some (.tup cs) ∧ Paired ClsV cs us ∧ seenX H d ∧ PySem.W.kitAny K (.ref D) us = some b ∧ Q (.bl b) H
theorem call_isXT (C : IsC X.K D) (hz : Zc (.ref D) d oe) (hf : ∃ vs, oe.data = .fields vs) : CallR (X.suite a ((a, oe) :: pn)) (.builtin "isinstance") (rIsXT X.K D a d) := by
  intro pins s σ H xs us Q I r h
  obtain ⟨tp, cs, ws, b, rfl, hT, k, hs, e, q⟩ := h
  obtain ⟨u1, u2, rfl, r1, r2⟩ := vals2 r
  cases (show u1 = Value.ref a from r1)
  cases (show u2 = Value.ref tp from r2)
  obtain ⟨od, J⟩ := inst_at I hz hf hs
  obtain ⟨_, its, rv, o, h1, h2, n, h3⟩ := (show ObjOk X.prog X.w H s.heap tp (.tup cs) from I.hok tp _ hT)
  have e3 := ClsV.all k rv
  subst e3
  obtain ⟨oc, od', dt, sl⟩ := o
  simp only at h2 h3
  subst h2 h3
  exact PySem.W.kia_tup (PySem.W.kitx_exc C.hcl C.ga C.gg C.ex C.ha C.hn C.ht C.hm) I.kIn J h1 e (fun z => nomatch z) fun tk => ⟨.bl b, H, I.tok tk, rfl, q⟩
end
end LiX
namespace Lw
open PySem PySem.Spec PyProof.Rows L2 LiX
/-- whether a class's instances are a class's (99: ValueError) -/
def isTb (k c : Nat) : Bool := k == 0 || k == 99 || c == k
def wIsE (pres : List Nat) (c : Nat) (a : Addr) (d : Option Addr) (ks : List Nat) (te : WTE) : WTE := fun σ G Q E => c ∈ pres ∧ te σ G (fun w G1 => w = .ref a ∧ (d = none ∨ ∃ dd fs, d = some dd ∧ G1 dd = some (.xd fs)) ∧ Q (.bl (ks.any fun k => isTb k c)) G1) E
structure IsF (P : Par) (pres : List Nat) : Prop where
  cl : ∀ c ∈ pres, IsC P.K (P.ca c)
  ve : ∀ c ∈ pres, PySem.W.kitOne P.K (.ref (P.ca c)) (.type "ValueError") = some true
def IsK (P : Par) (pres : List Nat) (k : Nat) : Prop := k ≠ 99 ∧ ∀ c ∈ pres, PySem.W.kitOne P.K (.ref (P.ca c)) (.ref (P.ca k)) = some (isTb k c)
def tNames (P : Par) : List Nat → TA
  | [] => tNil
  | k :: r => tCons (tC (.ref (P.ca k))) (tNames P r)
section
variable {P : Par} {X : Cx} {a : Addr} {oe : Obj} {c k : Nat} {d : Option Addr} {pn : List (Addr × Obj)} {pres ks : List Nat} {e : Expr} {es : List Expr} {te : WTE} {x : Str} {p p2 pos tpos : Pos} {j : Nat}
theorem seenX_rel {G1 : WHp} {H1 : Hp} (rp : Rep P G1 H1) (h : d = none ∨ ∃ dd fs, d = some dd ∧ G1 dd = some (.xd fs)) : seenX H1 d := by
  rcases h with h | ⟨dd, fs, e, h⟩
  · exact .inl h
  · obtain ⟨fv, h2, _⟩ := rp dd _ h
    exact .inr ⟨dd, fv, e, h2⟩
theorem je_isx (F : IsF P pres) (hz : Zc (.ref (P.ca c)) d oe) (hff : ∃ vs, oe.data = .fields vs) (hK : X.K = P.K) (hg : Gl (X.suite a ((a, oe) :: pn)) "isinstance") (hm : X.mg "isinstance" = none) (hgx : Gl (X.suite a ((a, oe) :: pn)) x) (hx : X.mg x = some (.ref (P.ca k))) (T : IsK P pres k)
    (he : JE P (X.suite a ((a, oe) :: pn)) e te) (hd : (x == ("__debug__" : Str)) = false := by decide)
    (hs : starEach [e, .Name x p2] X.env = (false, eval e X.env) :: starEach [.Name x p2] X.env := by rfl) (hs2 : starEach [.Name x p2] X.env = (false, eval (.Name x p2) X.env) :: starEach [] X.env := by rfl) (hpl : (backTo pos (starEach [.Name x p2] X.env)).any (·.1) = false := by rfl) :
    JE P (X.suite a ((a, oe) :: pn)) (.Call (.Name "isinstance" p) [e, .Name x p2] [] pos) (wIsE pres c a d [k] te) := fun Ga Ha Ew tk => by
  refine ⟨fun pins s σ H Q I ⟨σw, G, Qw, fa, rs, rp, ⟨hp, hh⟩, hq⟩ => ?_⟩
  refine (pe_callB (X := X.suite a ((a, oe) :: pn)) (call_isX (X := X) (by rw [hK]; exact F.cl c hp) hz hff) hg hm (by rfl) (pa_cons (he Ga Ha Ew tk) (pa_cons (pe_glob (v := .ref (P.ca k)) hgx hx rfl hd) pa_nil hs2) hs) (by decide) (by decide) hs hpl).run pins s σ H Q I ?_
  refine ⟨σw, G, _, fa, rs, rp, hh, fun w G1 v H1 f1 r1 p1 ⟨e0, e1, q⟩ => ?_⟩
  subst e0
  cases r1
  refine ⟨_, _, isTb k c, rfl, .own _, seenX_rel p1 e1, by rw [hK]; exact T.2 c hp, ?_⟩
  have e2 : ([k].any fun k => isTb k c) = isTb k c := by simp
  rw [e2] at q
  exact hq _ G1 _ H1 f1 (.bl _) p1 q
theorem je_isxv (F : IsF P pres) (hz : Zc (.ref (P.ca c)) d oe) (hff : ∃ vs, oe.data = .fields vs) (hK : X.K = P.K) (hg : Gl (X.suite a ((a, oe) :: pn)) "isinstance") (hm : X.mg "isinstance" = none) (hgx : Gl (X.suite a ((a, oe) :: pn)) "ValueError") (hx : X.mg "ValueError" = none)
    (he : JE P (X.suite a ((a, oe) :: pn)) e te) 
    (hs : starEach [e, .Name "ValueError" p2] X.env = (false, eval e X.env) :: starEach [.Name "ValueError" p2] X.env := by rfl) (hs2 : starEach [.Name "ValueError" p2] X.env = (false, eval (.Name "ValueError" p2) X.env) :: starEach [] X.env := by rfl) (hpl : (backTo pos (starEach [.Name "ValueError" p2] X.env)).any (·.1) = false := by rfl) :
    JE P (X.suite a ((a, oe) :: pn)) (.Call (.Name "isinstance" p) [e, .Name "ValueError" p2] [] pos) (wIsE pres c a d [99] te) := fun Ga Ha Ew tk => by
  refine ⟨fun pins s σ H Q I ⟨σw, G, Qw, fa, rs, rp, ⟨hp, hh⟩, hq⟩ => ?_⟩
  refine (pe_callB (X := X.suite a ((a, oe) :: pn)) (call_isX (X := X) (by rw [hK]; exact F.cl c hp) hz hff) hg hm (by rfl) (pa_cons (he Ga Ha Ew tk) (pa_cons (pe_bltn (v := .ty "ValueError") hgx hx (by rfl) rfl) pa_nil hs2) hs) (by decide) (by decide) hs hpl).run pins s σ H Q I ?_
  refine ⟨σw, G, _, fa, rs, rp, hh, fun w G1 v H1 f1 r1 p1 ⟨e0, e1, q⟩ => ?_⟩
  subst e0
  cases r1
  exact ⟨_, _, true, rfl, .ty _, seenX_rel p1 e1, by rw [hK]; exact F.ve c hp, hq _ G1 _ H1 f1 (.bl _) p1 q⟩
theorem tNames_run (P : Par) : ∀ (ks : List Nat) (σ : L2.St) (H : Hp) (Q : List V → Hp → Prop), tNames P ks σ H Q = Q (ks.map fun k => V.ref (P.ca k)) H
  | [], _, _, _ => rfl
  | k :: r, σ, H, Q => by
    show tNames P r σ H (fun xs H2 => Q (V.ref (P.ca k) :: xs) H2) = _
    rw [tNames_run P r]; rfl
theorem kitAny_of (h : ∀ k ∈ ks, PySem.W.kitOne P.K (.ref (P.ca c)) (.ref (P.ca k)) = some (isTb k c)) : PySem.W.kitAny P.K (.ref (P.ca c)) (ks.map fun k => Value.ref (P.ca k)) = some (ks.any fun k => isTb k c) := by
  induction ks with
  | nil => rfl
  | cons k r ih =>
    have h1 := h k (by simp)
    have h2 := ih fun k hk => h k (by simp [hk])
    rw [List.map_cons, List.any_cons]
    unfold PySem.W.kitAny
    rw [h1]
    cases isTb k c with
    | true => rfl
    | false => rw [Bool.false_or]; exact h2
theorem paired_own (P : Par) : ∀ ks : List Nat, Paired ClsV (ks.map fun k => V.ref (P.ca k)) (ks.map fun k => Value.ref (P.ca k))
  | [] => .nil
  | k :: r => .cons (.own _) (paired_own P r)
theorem je_isxt {t0 : Expr} (F : IsF P pres) (hz : Zc (.ref (P.ca c)) d oe) (hff : ∃ vs, oe.data = .fields vs) (hK : X.K = P.K) (hg : Gl (X.suite a ((a, oe) :: pn)) "isinstance") (hm : X.mg "isinstance" = none) (hp' : PA (X.suite a ((a, oe) :: pn)) es (tNames P ks)) (T : ∀ k ∈ ks, IsK P pres k)
    (he : JE P (X.suite a ((a, oe) :: pn)) e te) (ht0 : t0 = .Tuple es j tpos := by rfl) (hl : ks.length ≤ 100 := by decide)
    (hs : starEach [e, t0] X.env = (false, eval e X.env) :: starEach [t0] X.env := by rfl) (hs2 : starEach [t0] X.env = (false, eval t0 X.env) :: starEach [] X.env := by rfl) (hpl : (backTo pos (starEach [t0] X.env)).any (·.1) = false := by rfl) :
    JE P (X.suite a ((a, oe) :: pn)) (.Call (.Name "isinstance" p) [e, t0] [] pos) (wIsE pres c a d ks te) := fun Ga Ha Ew tk => by
  subst ht0
  refine ⟨fun pins s σ H Q I ⟨σw, G, Qw, fa, rs, rp, ⟨hp, hh⟩, hq⟩ => ?_⟩
  refine (pe_callB (X := X.suite a ((a, oe) :: pn)) (call_isXT (X := X) (by rw [hK]; exact F.cl c hp) hz hff) hg hm (by rfl) (pa_cons (he Ga Ha Ew tk) (pa_cons (pe_tup hp') pa_nil hs2) hs) (by decide) (by decide) hs hpl).run pins s σ H Q I ?_
  refine ⟨σw, G, _, fa, rs, rp, hh, fun w G1 v H1 f1 r1 p1 ⟨e0, e1, q⟩ => ?_⟩
  subst e0
  cases r1
  show tNames P ks σ H1 _
  rw [tNames_run]
  refine ⟨by rw [List.length_map, sizeLine_eq]; omega, fun tp htp => ?_⟩
  have f2 : Fw G1 H1 G1 (upd H1 tp (.tup (ks.map fun k => V.ref (P.ca k)))) := .hid htp
  have p2 := p1.hid (o := .tup (ks.map fun k => V.ref (P.ca k))) htp
  exact ⟨tp, _, _, _, rfl, upd_same, paired_own P ks, seenX_rel p2 e1, by rw [hK]; exact kitAny_of fun k hk => (T k hk).2 c hp, hq _ G1 _ _ (f1.trans f2) (.bl _) p2 q⟩
end
end Lw
/-! W29: list(d.keys()). -/
namespace LiK
open PySem PySem.Spec PyProof.Rows L2
section
variable {X : Cx} {e : Expr} {te : TE} {p apos cpos pos : Pos}
def tListKeys (te : TE) : TE := fun σ H Q => te σ H fun x H1 => ∃ d kvs, x = .ref d ∧ H1 d = some (.dK kvs) ∧ ∀ q, H1 q = none → Q (.ref q) (upd H1 q (.lst (kvs.map fun kv => kV kv.1)))
theorem pe_listKeys (hc : X.calm = true) (he : PE X e te) (hg : Gl X "list") (hm : X.mg "list" = none) (hv : bootBuiltins "list" = some (.type "list")) (hbase : attributeBase e "keys" X.env (eval e X.env) = eval e X.env := by rfl) (hline : (apos.endLine == cpos.line) = true := by rfl)
    (hs : starEach [.Call (.Attribute e "keys" apos) [] [] cpos] X.env = (false, eval (.Call (.Attribute e "keys" apos) [] [] cpos) X.env) :: starEach [] X.env := by rfl) :
    PE X (.Call (.Name "list" p) [.Call (.Attribute e "keys" apos) [] [] cpos] [] pos) (tListKeys te) := by
  refine ⟨fun pins s σ H Q I hq => ?_⟩
  refine wpAny_Call_Name_kw (ld_blt I hg hm hv ?_)
  refine PyProof.Rows.callWith_type1 ?_ hs rfl
  rw [hs]
  show wpAny _ _ (spliced ((false, eval (.Call (.Attribute e "keys" apos) [] [] cpos) X.env) :: backTo pos (starEach [] X.env))) _ _ s
  refine Calls.spliced_cons ?_
  refine wpAny_Call_method (T := "dict") (id := "dict.keys") hbase rfl hline F.plainAttrs_dict F.slot_dict_keys F.type_dict_keys (thn (he.run pins s σ H _ I hq) fun u s1 ⟨x, H1, I1, rx, d, kvs, ex, hd, q⟩ => ?_)
  subst ex
  obtain rfl : u = Value.ref d := rx
  obtain ⟨hz, hs0, vs, kv, hdo⟩ := I1.hok d _ hd
  obtain ⟨ep, hat⟩ := hdo.dictAt
  have lk : kvs.length = vs.length := Paired.length kv
  have I2 : Inv X pins σ H1 { s1 with heap := s1.heap.push { cls := .type "dict_keys", data := .fields #[.ref d] } } := I1.kept (t' := s1.toks) fun b ob q => Heap.get?_push_of_some _ q
  refine ⟨hdo.typeIs, hdo.mapOf.noDict, ?_⟩
  show wpAny _ _ (callWith cpos (.builtin "dict.keys") [.ref d] [] []) _ X.xe s1
  refine method_meetsIn F.slot_dict_keys F.entry_dict_keys rfl (PySem.evalArgs_none ⟨rfl, hdo.typeIs, F.args_dict_keys_1 _, _, PySem.W.kdl_meets_keys (mixKind X.prog X.w) d hs0, ⟨vs, hdo⟩, ?_⟩)
  refine Calls.spliced_nil ?_
  refine PySem.W.kdl_call (s := { s1 with heap := s1.heap.push { cls := .type "dict_keys", data := .fields #[.ref d] } }) (PySem.W.kdl_keys (knd := mixKind X.prog X.w) (r := s1.heap.objs.size) (d := d) (kvs := vs) (ep := ep)) (I1.ok.hd hc) ⟨⟨_, Heap.get?_push_size _ rfl, rfl, rfl⟩, hat.push _⟩ (by omega) fun h' tk acc' c' hkeep hS hacc => ?_
  refine ⟨.ref _, upd H1 _ (.lst (kvs.map fun kv => kV kv.1)), I2.laid (t' := tk) hkeep (Nat.le_refl _) (show ObjOk X.prog X.w _ _ _ (.lst (kvs.map fun kv => kV kv.1)) from ⟨?_, acc'.toList, c', ?_, ?_⟩), rfl, q _ (I2.hok.fresh (Nat.le_refl _))⟩
  · rw [List.length_map]; omega
  · have el : acc'.toList.length = acc'.size := by simp
    have e1 : (kvs.map fun kv => kV kv.1) = vs.map fun p => kV p.1 := by
      have := KV.keys kv
      rw [show (kvs.map fun kv => kV kv.1) = (kvs.map (·.1)).map kV by rw [List.map_map]; rfl, this, List.map_map]; rfl
    rw [e1]
    refine keys_at (by rw [el, hacc.1]) fun j v h2 => ?_
    exact hacc.2 j v (by rw [← Array.getElem?_toList]; exact h2)
  · rw [Array.toArray_toList]; exact hS
end
end LiK
namespace Lw
open PySem PySem.Spec PyProof.Rows L2
section
variable {P : Par} {X : Cx} {e : Expr} {to : WTE} {p apos cpos pos : Pos}
def wLstKeys (to : WTE) : WTE := fun σ G Q E => to σ G (fun x G1 => ∃ kvs, dcL G1 x = some kvs ∧ ∀ p, G1 p = none → Q (.ref p) (updG G1 p (.lst (kvs.map fun kv => keyW kv.1)))) E
theorem je_listKeys (hc : X.calm = true) (hg : Gl X "list") (hm : X.mg "list" = none) (ho : JE P X e to) (hv : bootBuiltins "list" = some (.type "list") := by rfl) (hbase : attributeBase e "keys" X.env (eval e X.env) = eval e X.env := by rfl) (hline : (apos.endLine == cpos.line) = true := by rfl)
    (hs : starEach [.Call (.Attribute e "keys" apos) [] [] cpos] X.env = (false, eval (.Call (.Attribute e "keys" apos) [] [] cpos) X.env) :: starEach [] X.env := by rfl) :
    JE P X (.Call (.Name "list" p) [.Call (.Attribute e "keys" apos) [] [] cpos] [] pos) (wLstKeys to) := fun Ga Ha Ew tk =>
  PE.imp (LiK.pe_listKeys hc (ho Ga Ha Ew tk) hg hm hv hbase hline hs) fun σ H Q ⟨σw, G, Qw, fa, rs, rp, ht, hq⟩ => ⟨σw, G, _, fa, rs, rp, ht, fun w1 G1 v1 H1 f1 r1 p1 ⟨kvs, e1, q⟩ => by
    obtain ⟨a, kv, rfl, ha, ra⟩ := dcL_rel p1 r1 e1
    refine ⟨a, kv, rfl, ha, fun q' hq' => ?_⟩
    exact hq _ _ _ _ (f1.trans (.new hq')) (.ref q') (p1.put (u := .lst (kvs.map fun kv => keyW kv.1)) (.new hq') ⟨_, upd_same, (RelKs.keysW ra).fw p1 (.new hq')⟩) (q q' (p1.free hq'))⟩
end
end Lw
/-! W30: list(range(a, b, c)). -/
namespace LiK
open PySem PySem.Spec PyProof.Rows L2
section
variable {X : Cx} {a b c : Expr} {ta : TA} {p p2 pos pos2 : Pos}
def rgC3 (i c : Int) (n : Nat) : List V := (List.range n).map fun k => V.int (i + (k : Nat) * c)
theorem vals_rgC {i c : Int} {n : Nat} {acc : Array Value} (h : ItemsOf (fun k v => ∃ t, v = .int (i + k * c) t) acc n) : Vals (rgC3 i c n) acc.toList := by
  have e : acc.toList.length = n := by rw [Array.length_toList]; exact h.1
  unfold rgC3
  rw [← e]
  refine vals_of_get acc.toList _ fun j u hj => ?_
  obtain ⟨t, rfl⟩ := h.2 j u (by rw [← hj, Array.getElem?_toList])
  exact ⟨t, rfl⟩
def tLstRg3 (ta : TA) : TE := fun σ H Q => ta σ H fun vs H1 => ∃ (i j k : Int) (n : Nat), vs = [.int i, .int j, .int k] ∧ RgC i j k n ∧ n ≤ 2 ^ 24 ∧ ∀ q, H1 q = none → Q (.ref q) (upd H1 q (.lst (rgC3 i k n)))
theorem pe_listRg3 (hc : X.calm = true) (hl : Gl X "list") (ml : X.mg "list" = none) (hg : Gl X "range") (hm : X.mg "range" = none) (ha : PA X [a, b, c] ta)
    (hs : starEach [a, b, c] X.env = (false, eval a X.env) :: starEach [b, c] X.env := by rfl) (hpl : (backTo pos (starEach [b, c] X.env)).any (·.1) = false := by rfl)
    (na : starEach [.Call (.Name "range" p) [a, b, c] [] pos] X.env = (false, eval (.Call (.Name "range" p) [a, b, c] [] pos) X.env) :: starEach [] X.env := by rfl) :
    PE X (.Call (.Name "list" p2) [.Call (.Name "range" p) [a, b, c] [] pos] [] pos2) (tLstRg3 ta) := by
  refine ⟨fun pins s σ H Q I h => ?_⟩
  have inner : wpAny (model X.prog X.w) X.A (eval (.Call (.Name "range" p) [a, b, c] [] pos) X.env) (fun x s' => ∃ r i j k n t u v H', x = .ref r ∧ IsRange s'.heap r i j k t u v ∧ Inv X pins σ H' s' ∧ RgC i j k n ∧ n ≤ 2 ^ 24 ∧ ∀ q, H' q = none → Q (.ref q) (upd H' q (.lst (rgC3 i k n)))) X.xe s := by
    refine Call_ (ld_blt I hg hm boot_range (PyProof.Rows.callWith_type1 (thn (ha.run pos pins s σ H _ I h) fun us s1 ⟨vs, H1, I1, r1, q1⟩ => ?_) hs hpl))
    obtain ⟨i, j, k, n, e, ⟨c0, c1, c2, c3⟩, hn, q⟩ := q1
    subst e
    cases r1 with
    | cons r rr =>
      cases rr with
      | cons r' rr =>
        cases rr with
        | cons r'' rr =>
          cases rr
          obtain ⟨t, rfl⟩ := r
          obtain ⟨t', rfl⟩ := r'
          obtain ⟨t'', rfl⟩ := r''
          refine call_range_3 c0 ?_ (.inl (PyProof.noPylong_small c1))
          exact ⟨_, i, j, k, n, _, _, _, H1, rfl, IsRange.new .., I1.kept (t' := s1.toks) fun b o e => Heap.get?_push_of_some _ e, ⟨c0, c1, c2, c3⟩, hn, q⟩
  refine Call_ (ld_blt I hl ml boot_list (PyProof.Rows.callWith_type1 (args_cons (thn inner fun x s1 ⟨r, i, j, k, n, t, u, v, H1, ex, hr, I1, ok, hn, q⟩ => args_nil ?_) na) na))
  subst ex
  obtain ⟨c0, c1, c2, c3⟩ := ok
  refine call_list_range (n := n) (I1.ok.hd hc) hr c2 c3 hn fun h' tk acc c' hk e' hi => ?_
  refine ⟨.ref s1.heap.objs.size, upd H1 s1.heap.objs.size (.lst (rgC3 i k n)), I1.laid hk (Nat.le_refl _) (show ObjOk X.prog X.w _ _ _ (.lst (rgC3 i k n)) from ⟨?_, acc.toList, c', vals_rgC hi, ?_⟩), rfl, q _ (I1.hok.fresh (Nat.le_refl _))⟩
  · rw [rgC3, List.length_map, List.length_range, sizeLine_eq]; omega
  · rw [Array.toArray_toList]; exact e'
end
end LiK
namespace Lw
open PySem PySem.Spec PyProof.Rows L2
section
variable {P : Par} {X : Cx} {a b c : Expr} {ta : WTA} {p p2 pos pos2 : Pos}
def wLstRg3 (ta : WTA) : WTE := fun σ G Q E => ta σ G (fun vs G1 => ∃ (i j k : Int) (n : Nat), vs = [.int i, .int j, .int k] ∧ RgC i j k n ∧ n ≤ 2 ^ 24 ∧ ∀ q, G1 q = none → Q (.ref q) (updG G1 q (.lst (rngC i k n)))) E
theorem rel_rngC {G : WHp} {H : Hp} {i k : Int} {n : Nat} : RelWs P G H (rngC i k n) (LiK.rgC3 i k n) := by
  unfold rngC LiK.rgC3
  induction List.range n with
  | nil => exact .nil
  | cons x r ih => exact .cons _ _ _ _ (.int _) ih
theorem RgC.up {z c : Int} (z0 : 0 ≤ z) (z1 : z ≤ 1000) (c0 : 1 ≤ c) (c1 : c ≤ 1000) : ∃ n : Nat, n ≤ 1000 ∧ RgC 0 z c n := by
  have hs : Builtin.Range.rangeSize 0 z c = (z + c - 1) / c := PyProof.Rows.rangeSize_pos c0 z0
  have h0 : 0 ≤ (z + c - 1) / c := Int.ediv_nonneg (by omega) (by omega)
  have h1 : (z + c - 1) / c ≤ z := by
    rw [Int.ediv_le_iff_le_mul (by omega)]
    by_cases e : z = 0
    · subst e; omega
    · have : z * 1 + c * 1 ≤ z * c + 1 := by
        have : 0 ≤ (z - 1) * (c - 1) := Int.mul_nonneg (by omega) (by omega)
        have e2 : (z - 1) * (c - 1) = z * c - z - c + 1 := by rw [Int.sub_mul, Int.mul_sub]; omega
        omega
      omega
  refine ⟨((z + c - 1) / c).toNat, by omega, by omega, by omega, ?_, by rw [hs]; omega⟩
  unfold Builtin.Range.small
  rw [hs]
  generalize hg : (z + c - 1) / c = m at *
  have hm : 0 ≤ (m - 1) * c ∨ m = 0 := by
    by_cases e : m = 0
    · exact .inr e
    · exact .inl (Int.mul_nonneg (by omega) (by omega))
  have hm2 : m * c ≤ 1000 * 1000 := Int.mul_le_mul (by omega) (by omega) (by omega) (by omega)
  have hm3 : 0 ≤ m * c := Int.mul_nonneg (by omega) (by omega)
  simp only [Builtin.Range.rangeFitsLong, Bool.and_eq_true, Bool.or_eq_true, decide_eq_true_eq, beq_iff_eq, show c > 0 by omega, if_true]
  omega
theorem je_listRg3 (hc : X.calm = true) (hl : Gl X "list") (ml : X.mg "list" = none) (hr : Gl X "range") (mr : X.mg "range" = none) (ha : JA P X [a, b, c] ta)
    (hs : starEach [a, b, c] X.env = (false, eval a X.env) :: starEach [b, c] X.env := by rfl) (hpl : (backTo pos (starEach [b, c] X.env)).any (·.1) = false := by rfl)
    (na : starEach [.Call (.Name "range" p) [a, b, c] [] pos] X.env = (false, eval (.Call (.Name "range" p) [a, b, c] [] pos) X.env) :: starEach [] X.env := by rfl) :
    JE P X (.Call (.Name "list" p2) [.Call (.Name "range" p) [a, b, c] [] pos] [] pos2) (wLstRg3 ta) := fun Ga Ha Ew tk =>
  PE.imp (LiK.pe_listRg3 hc hl ml hr mr (ha Ga Ha Ew tk) hs hpl na) fun σ H Q ⟨σw, G, Qw, fa, rs, rp, ht, hq⟩ => ⟨σw, G, _, fa, rs, rp, ht, fun ws G1 vs H1 f1 r1 p1 ⟨i, j, k, n, e, h1, hn, q⟩ => by
    subst e
    cases r1 with
    | cons _ _ _ _ r rr =>
      cases rr with
      | cons _ _ _ _ r' rr =>
        cases rr with
        | cons _ _ _ _ r'' rr =>
          cases r; cases r'; cases r''; cases rr
          refine ⟨i, j, k, n, rfl, h1, hn, fun q1 hq1 => ?_⟩
          exact hq _ _ _ _ (f1.trans (.new hq1)) (.ref q1) (p1.put (u := .lst (rngC i k n)) (.new hq1) ⟨_, upd_same, rel_rngC⟩) (q q1 (p1.free hq1))⟩
end
end Lw
/-! W31: x in xs of tuples. -/
namespace Lw
open PySem PySem.Spec PyProof.Rows L2
section
variable {P : Par} {X : Cx} {G : WHp} {H : Hp}
def inT (G : WHp) (x y : W) (k : Bool → Prop) : Prop := ∃ (d : PyData) (ds : List PyData), DpW G x d ∧ DpW G y (.list ds) ∧ SeqAt.shaped d = true ∧ SeqAt.shaped (.list ds) = true ∧ k (ds.any fun z => PyData.eqv z d)
def oInT : WR2 := fun x y G Q => inT G x y fun b => Q (.bl b) G
def oNotInT : WR2 := fun x y G Q => inT G x y fun b => Q (.bl (!b)) G
theorem ow_inT (hK : X.K = P.K) (hu : X.A.units + 65 < cLine) : OpW P X (compareOp .In) oInT := OpR.imp (op_inD hu) fun x y H Q ⟨wx, wy, G, Qw, rx, ry, rp, ⟨d, ds, h1, h2, h3, h4, q⟩, hq⟩ =>
  ⟨d, ds, by rw [hK]; exact DpW.dp rp h1 rx, by rw [hK]; exact DpW.dp rp h2 ry, h3, h4, emb_end hq rp (.bl _) q⟩
theorem ow_notinT (hK : X.K = P.K) (hu : X.A.units + 65 < cLine) : OpW P X (compareOp .NotIn) oNotInT := OpR.imp (op_notInD hu) fun x y H Q ⟨wx, wy, G, Qw, rx, ry, rp, ⟨d, ds, h1, h2, h3, h4, q⟩, hq⟩ =>
  ⟨d, ds, by rw [hK]; exact DpW.dp rp h1 rx, by rw [hK]; exact DpW.dp rp h2 ry, h3, h4, emb_end hq rp (.bl _) q⟩
theorem hu65 {k : Nat} {A : Around} (hr : Room k A) : A.units + 65 < cLine := by have := hr.un; omega
open Classical in
theorem any_dW {x : W} : ∀ {ys : List W}, okW 20 x → (∀ w ∈ ys, okW 20 w) → ((ys.map (dW 20)).any fun z => PyData.eqv z (dW 20 x)) = decide (x ∈ ys)
  | [], _, _ => by simp
  | y :: r, hx, hy => by
    rw [List.map_cons, List.any_cons, any_dW hx fun w hw => hy w (by simp [hw]), eqv_dW 20 y x (hy y (by simp)) hx]
    by_cases e : y = x
    · subst e; simp
    · have e2 : ¬ x = y := fun h => e h.symm
      simp [e, e2]
open Classical in
theorem inT_l {x y : W} {ys : List W} {k : Bool → Prop} (hy : sqOf G y = some ys) (ox : okW 20 x) (oy : ∀ w ∈ ys, okW 20 w) (q : k (decide (x ∈ ys))) : inT G x y k := by
  refine ⟨dW 20 x, ys.map (dW 20), dp_dW _ x ox, .lst _ _ _ hy (.of fun w hw => dp_dW _ w (oy w hw)), ?_, ?_, ?_⟩
  · have := lay_dW 20 x ox
    unfold SeqAt.shaped
    rw [Bool.and_eq_true, decide_eq_true_eq]
    exact ⟨this.1, Nat.le_trans this.2 (by decide)⟩
  · have := lay_dW 21 (.il ys) oy
    unfold SeqAt.shaped
    rw [Bool.and_eq_true, decide_eq_true_eq]
    exact ⟨this.1, Nat.le_trans this.2 (by decide)⟩
  · rw [any_dW ox oy]; exact q
end
end Lw
/-! W32: defs that are handed the exception of the suite in which they are called. -/
namespace Lw
open PySem PySem.Spec PyProof.Rows L2 L2H LiX
theorem _root_.L2H.RoomH.units {k : Nat} {A : Around} (r : RoomH k A) : A.units + 64 < cLine := by have := r.un; omega
theorem huH_of {k : Nat} {A : Around} (r : RoomH k A) : A.units + 1 < cLine := by have := r.un; omega
theorem huH65 {k : Nat} {A : Around} (r : RoomH k A) : A.units + 65 < cLine := by have := r.un; omega
abbrev WSpE := Nat → Addr → Option Addr → WSp
structure FnE (P : Par) (prog : Program) (w : World) (mg : Str → Option Value) (base : Heap) (k : Nat) (f : Addr) (fd : FuncData) (ps : List Str) (sp : WSpE) : Prop where
  len : ∀ c a d ws G Q E, sp c a d ws G Q E → ws.length = ps.length
  run : ∀ (A : Around) (outer : List Env) (s : Shared) (H : Hp) (args : Args) (us : List Value) (vs : List V) (Q : VK) (E : XK) (a : Addr) (oe : Obj) (c : Nat) (d : Option Addr), RoomH k A → A.handled = some (.ref a) → Zc (.ref (P.ca c)) d oe → (∃ vs, oe.data = .fields vs) →
    PinOk outer H s (a, oe) → Env0 prog w P.K mg base A outer s H → BindsTo s fd args (ps.zip us) → Vals vs us → embSp P (sp c a d) vs H Q E → codeAny (model prog w) A (.call (.ref f) args) (CR (L2.CX prog w) outer prog w H s Q E) s
theorem FnE.mono {P : Par} {prog : Program} {w : World} {mg : Str → Option Value} {base : Heap} {j k : Nat} {f : Addr} {fd : FuncData} {ps : List Str} {sp : WSpE} (F : FnE P prog w mg base j f fd ps sp) (h : j ≤ k) : FnE P prog w mg base k f fd ps sp :=
  ⟨F.len, fun A outer s H args us vs Q E a oe c d hr => F.run A outer s H args us vs Q E a oe c d (hr.mono h)⟩
theorem mark_same {A : Around} {v : Value} (h : A.handled = some v) : A.mark (some v) = A := by
  obtain ⟨hd, dp, fr, gu, un⟩ := A
  cases (show hd = some v from h)
  rfl
theorem inv_startE {CX : CXT} {P : Program} {w : World} {K : PySem.W.Frag} {mg : Str → Option Value} {base : Heap} {N ps : List Str} {qual : Str} {scope : Scope} {f : Addr} {cd : Value} {A : Around} {outer : List Env} {s s1 : Shared} {H : Hp} {E : XK} {us : List Value} {vs : List V}
    (S : FnScope N ps scope) {a : Addr} {oe : Obj} (hpin : PinOk outer H s (a, oe)) (e0 : Env0 P w K mg base A outer s H) (hl : vs.length = ps.length) (r : Vals vs us)
    (x : InCallC s s.heap.objs.size (bindL (envOfC qual scope s.heap.objs.size f cd).kindOf (ps.zip us) fun _ => none) (cellsFrom (s.heap.objs.size + 1) scope.names []) (bindC (envOfC qual scope s.heap.objs.size f cd).kindOf (ps.zip us) fun _ => none) s1) :
    Inv ((cxOf CX P w K mg base N qual scope f cd A outer s H E).suite a ((a, oe) :: [])) [] (L2.start N vs) H s1 := by
  have J := inv_startH (E := E) (CX := CX) S hpin e0 hl r x
  exact ⟨⟨J.ok.mod, J.ok.kind, J.ok.glob, J.ok.blt, J.ok.above, J.ok.inj, J.ok.has, J.ok.cab, (fun z => absurd (show false = true from z) Bool.false_ne_true), J.ok.frames, J.ok.stk, J.ok.exf, J.ok.bs, J.ok.bsz, J.ok.noex, J.ok.exfs, J.ok.funs, J.ok.frf⟩,
    J.os, J.bare, J.base, J.loc, J.cell, J.free, J.freeC, J.pin, J.hok, J.len⟩
section
variable {P : Par} {X : Cx} {k : Nat} {f : Addr} {fd : FuncData} {ps : List Str} {sp : WSpE} {x : Str} {p pos : Pos} {e : Expr} {es : List Expr} {ta : WTA}
theorem Fun.okE {prog : Program} {w : World} {mg : Str → Option Value} {base : Heap} {x qual : Str} {st : Stmt} {N : List Str} (F : Fun P.K x qual st f fd) (S : FnScope N ps (defScope st)) (len : ∀ c a d ws G Q E, sp c a d ws G Q E → ws.length = ps.length)
    (hbody : ∀ (cdv : Value) (A : Around) (outer : List Env) (s : Shared) (H : Hp) (E : XK) (a : Addr) (oe : Obj) (c : Nat) (d : Option Addr), RoomH k (A.deeper (envOfC qual (defScope st) s.heap.objs.size f cdv)) → Zc (.ref (P.ca c)) d oe → (∃ vs, oe.data = .fields vs) →
      ∃ t : WTS, JSs P ((cxOf (L2.CX prog w) prog w P.K mg base N qual (defScope st) f cdv A outer s H E).suite a ((a, oe) :: [])) (defBody st) t ∧
        ∀ ws G Q Ex, sp c a d ws G Q Ex → t { nx := fun _ G' => Q .non G', rt := Q, bk := fun _ _ => False, ct := fun _ _ => False } (wStart N ws) G noX) : FnE P prog w mg base (k + 1) f fd ps sp := by
  obtain ⟨oc, od, kV, doc, pm, an, cdv, ct, osl, rfl, lk, hcd⟩ := F.ex
  refine ⟨len, fun A outer s H args us vs Q E a oe c d hr hh hz hff hpin e0 hb r hsp => ?_⟩
  obtain ⟨ws, G, Qw, Ew, rw_, rp, h, hq, hE⟩ := hsp
  have hl : vs.length = ps.length := by rw [← rw_.length]; exact len _ _ _ _ _ _ _ h
  have KX : P.K.In s.heap := e0.mod.kin.keeps fun b o e => (e0.bs b o e).1
  have lim : s.heap.NoLimit := e0.mod.nolimit.keeps fun b o e => (e0.bs b o e).1
  have hkind : ∀ y ∈ ps.zip us, (defScope st).names.lookup y.1 = some .local ∨ ((defScope st).names.lookup y.1 = some .cell ∧ ((cellsFrom (s.heap.objs.size + 1) (defScope st).names []).lookup y.1).isSome = true) := fun ⟨n, v⟩ hy => by
    rcases S.par n (List.of_mem_zip hy).1 with q | q
    · exact .inl q
    · exact .inr ⟨q, PySem.W.cellsFrom_some _ _ _ (.inl q)⟩
  refine codeAny_call_function hr.depth (KX _ _ lk) rfl S.co S.gen rfl (PySem.W.codeRec_of KX hcd) (hb _ _ _ _ ?_)
  refine wpAny_newFunctionEnv_cells S.kind hkind fun env he s1 x => ?_
  subst he
  refine ⟨lim.keeps x.toInCall.keep, codeAny_func ?_⟩
  obtain ⟨t, ht, hs⟩ := hbody cdv A outer s H E a oe c d (hr.deeper _) hz hff
  have I := inv_startE (E := E) (CX := L2.CX prog w) S hpin e0 hl r x
  have hA : (A.deeper (envOfC qual (defScope st) s.heap.objs.size f cdv)).mark (some (.ref a)) = A.deeper (envOfC qual (defScope st) s.heap.objs.size f cdv) := mark_same hh
  have hrun := (ht G H noX takesF).run [] s1 (L2.start N vs) H { nx := fun _ H' => Q .non H', rt := Q } I ⟨wStart N ws, G, _, .refl _ _, by
    unfold wStart L2.start
    rw [rw_.length]
    exact RelSt.start N _ rw_, rp, hs ws G Qw Ew h, fun σw' G' σ' H' f1 r1 p1 q1 => hq .non G' .non H' f1 .non p1 q1, fun w G' v H' f1 r1 p1 q1 => hq w G' v H' f1 r1 p1 q1, fun _ _ _ _ _ _ _ q => q.elim, fun _ _ _ _ _ _ _ q => q.elim⟩
  rw [show ((cxOf (L2.CX prog w) prog w P.K mg base N qual (defScope st) f cdv A outer s H E).suite a [(a, oe)]).A = A.deeper (envOfC qual (defScope st) s.heap.objs.size f cdv) from hA] at hrun
  refine wpAny_mono hrun (fun fl s' hs => ?_) fun e s' hs => hs.elim
  have fin : ∀ {σ' : L2.St} {H' : Hp} {v : V} {u : Value}, Inv ((cxOf (L2.CX prog w) prog w P.K mg base N qual (defScope st) f cdv A outer s H E).suite a ((a, oe) :: [])) [] σ' H' s' → RelV v u → Q v H' → CE outer prog w H s Q u s' :=
    fun {σ' H' v u} J rv q => ⟨v, H', J.os, J.bare, J.base, J.hok, rv, q⟩
  cases fl with
  | ret u =>
    obtain ⟨v, σ', H', J, rv, q⟩ := hs
    exact fin J rv q
  | next =>
    obtain ⟨σ', H', J, q⟩ := hs
    exact fin (v := V.non) (u := Value.none) J rfl q
  | brk =>
    obtain ⟨_, _, _, q⟩ := hs
    exact False.elim q
  | cont =>
    obtain ⟨_, _, _, q⟩ := hs
    exact False.elim q
def CallE (P : Par) (prog : Program) (w : World) (mg : Str → Option Value) (base : Heap) (x : Str) (k : Nat) (sp : WSpE) : Prop :=
  ∃ (f : Addr) (fd : FuncData) (ps : List Str), FnE P prog w mg base k f fd ps sp ∧ mg x = some (.ref f) ∧ PySem.W.keepIn P.K (.ref f) = true ∧ Binds P.K fd ps []
def wCallE (sp : WSp) (t : WTA) : WTE := fun σ G Q E => t σ G (fun ws G1 => sp ws G1 Q fun _ _ => False) E
theorem je_callE {a : Addr} {oe : Obj} {c : Nat} {d : Option Addr} {pn : List (Addr × Obj)} (C : CallE P X.prog X.w X.mg X.base x k sp) (hr : RoomH k X.A) (hz : Zc (.ref (P.ca c)) d oe) (hff : ∃ vs, oe.data = .fields vs) (hg : Gl (X.suite a ((a, oe) :: pn)) x) (ha : JA P (X.suite a ((a, oe) :: pn)) (e :: es) ta) (hK : X.K = P.K := by rfl) (hdb : (x == ("__debug__" : Str)) = false := by decide)
    (he : starEach (e :: es) X.env = (false, eval e X.env) :: starEach es X.env := by rfl) (hpl : (backTo pos (starEach es X.env)).any (·.1) = false := by rfl) :
    JE P (X.suite a ((a, oe) :: pn)) (.Call (.Name x p) (e :: es) [] pos) (wCallE (sp c a d) ta) := fun Ga Ha Ew tk => by
  obtain ⟨f, fd, ps, F, hm, hk, hb⟩ := C
  refine ⟨fun pins s σ H Q I ⟨σw, G, Qw, fa, rs, rp, ht, hq⟩ => ?_⟩
  refine wpAny_Call_Name_kw (ld_glob I hg hm ?_ hdb)
  refine PySem.W.callWith_K (h₀ := X.base) I.ok.mod.kin (by rw [show (X.suite a ((a, oe) :: pn)).K = P.K from hK]; exact hk) (thn ((ha Ga Ha Ew tk).run pos pins s σ H (fun vs H1 => embSp P (sp c a d) vs H1 Q (fun _ _ _ => False)) I ⟨σw, G, _, fa, rs, rp, ht, fun ws G1 vs H1 f1 r1 p1 q1 =>
    ⟨ws, G1, Qw, _, r1, p1, q1, fun w G2 v H2 f2 r2 p2 q2 => hq w G2 v H2 (f1.trans f2) r2 p2 q2, fun _ _ _ _ _ _ _ _ z => z.elim⟩⟩) fun us s1 ⟨vs, H1, I1, r, q⟩ => ⟨I1.kIn, ?_⟩) he hpl
  have hl : us.length = ps.length := by
    obtain ⟨ws, G1, Qw1, Ew1, r1, p1, q1, _⟩ := q
    rw [← r.length, ← r1.length]
    exact F.len _ _ _ _ _ _ _ q1
  have kin : P.K.In s1.heap := by have := I1.kIn; rw [show (X.suite a ((a, oe) :: pn)).K = P.K from hK] at this; exact this
  have b := hb s1 us kin (by rw [List.append_nil]; exact hl)
  rw [List.append_nil] at b
  have P1 := I1.pin (a, oe) (List.mem_append_left _ List.mem_cons_self)
  have hpin : PinOk X.stack H1 s1 (a, oe) := ⟨P1.1, P1.2.1, fun hm => (List.mem_cons.mp (I1.stkSub a hm)).elim P1.2.2.1 P1.2.2.2.1, P1.2.2.2.2⟩
  have e0 := I1.env0
  refine wpAny_call (codeAny_mono (F.run (X.A.mark (some (.ref a))) X.stack s1 H1 ⟨us, []⟩ us vs Q (fun _ _ _ => False) a oe c d ⟨hr.dp, hr.un⟩ rfl hz hff hpin (by rw [← hK]; exact e0) b r q) fun r s' hq => ?_)
  cases r with
  | error e =>
    obtain ⟨_, _, _, _, _, _, _, _, _, _, _, _, z⟩ := hq
    exact z.elim
  | ok fl =>
    cases fl with
    | ret u => exact I1.after hq
    | next => exact False.elim hq
    | brk => exact False.elim hq
    | cont => exact False.elim hq
end
end Lw
/-! W33: what holds between two statements, said once. -/
namespace Lw
open PySem PySem.Spec PyProof.Rows L2
theorem st_mid {t u : WTS} {D : WEnds} {σ : WSt} {G : WHp} {E : WXK} (P : WSt → WHp → Prop) (h1 : ∀ K : WSt → WHp → Prop, (∀ σ' G', P σ' G' → K σ' G') → t { D with nx := K } σ G E) (h2 : ∀ σ' G', P σ' G' → u D σ' G' E) : wSeq t u D σ G E := h1 _ h2
end Lw
/-! W34: sorted of texts. -/
namespace Lw
open PySem PySem.Spec PyProof.Rows L2
def srtS (ys : List (List Nat)) : Bool := sortedS (ys.map S)
def oSortS : WRs := fun ws G Q => ∃ (x : W) (xs : List (List Nat)), ws = [x] ∧ sqOf G x = some (xs.map W.str) ∧ xs.length < 64 ∧ ∀ ys, ys.Perm xs → srtS ys = true → Q (.il (ys.map W.str)) G
section
variable {P : Par} {X : Cx} {G : WHp} {H : Hp}
theorem relStr_of : ∀ {xs : List (List Nat)} {vs : List V}, RelWs P G H (xs.map W.str) vs → vs = (xs.map S).map V.str
  | [], _, .nil => rfl
  | x :: r, _, .cons _ v _ vs h t => by
    cases h
    rw [relStr_of (xs := r) t]; rfl
theorem relStr_mk : ∀ (xs : List (List Nat)), RelWs P G H (xs.map W.str) ((xs.map S).map V.str)
  | [] => .nil
  | x :: r => .cons _ _ _ _ (.str x) (relStr_mk r)
theorem cw_sortS (hK : X.K = P.K) : CallW P X (.builtin "sorted") oSortS := CallR.imp cr_sortedS fun vs H Q ⟨ws, G, Qw, r, rp, ⟨x, xs, e0, e, hl, q⟩, hq⟩ => by
  subst e0
  obtain ⟨v, rfl, r1⟩ := r.one
  obtain ⟨a, vs, rfl, ha, ra⟩ := sqOf_rel rp r1 e
  rw [relStr_of ra] at ha
  refine ⟨a, xs.map S, rfl, by rw [hK]; exact ha, by rw [List.length_map]; exact hl, fun ys p hp hs hn => ?_⟩
  have e1 : ys = (ys.map fun s => s.cps.toList).map S := by
    rw [List.map_map]
    exact (List.map_id'' (fun s => (S_of s).symm) ys).symm
  have hp2 : (ys.map fun s => s.cps.toList).Perm xs := by
    have := hp.map (fun s : Str => s.cps.toList)
    rw [List.map_map, show ((fun s : Str => s.cps.toList) ∘ S) = id from by funext s; exact S_list s, List.map_id] at this
    exact this
  have hs2 : srtS (ys.map fun s => s.cps.toList) = true := by unfold srtS; rw [← e1]; exact hs
  have := q _ hp2 hs2
  rw [e1]
  exact hq _ G _ _ (.hid hn) (.il p _ _ ⟨upd_same, rp.free hn⟩ (relStr_mk _)) (rp.hid hn) this
end
theorem ltCps_asym : ∀ {a b : List Nat}, ltCps a b = true → ltCps b a = false
  | [], [], h => by cases h
  | [], _ :: _, _ => rfl
  | _ :: _, [], h => by cases h
  | a :: r, b :: t, h => by
    unfold ltCps at h ⊢
    simp only [Bool.or_eq_true, decide_eq_true_eq, Bool.and_eq_true, beq_iff_eq] at h
    rcases h with h | ⟨rfl, h⟩
    · simp; omega
    · simp [ltCps_asym h]
theorem ltCps_tot : ∀ {a b : List Nat}, ltCps a b = false → ltCps b a = false → a = b
  | [], [], _, _ => rfl
  | [], _ :: _, h, _ => by cases h
  | _ :: _, [], _, h => by cases h
  | a :: r, b :: t, h, h' => by
    have ab : ¬ a < b := fun z => by simp [ltCps, z] at h
    have ba : ¬ b < a := fun z => by simp [ltCps, z] at h'
    have e : a = b := by omega
    subst e
    have h1 : ltCps r t = false := by simpa [ltCps] using h
    have h2 : ltCps t r = false := by simpa [ltCps] using h'
    have e2 : r = t := ltCps_tot h1 h2
    rw [e2]
/-- two texts, in order -/
def srt2 (a b : List Nat) : List (List Nat) := if ltCps b a = true then [b, a] else [a, b]
theorem srt2_comm (a b : List Nat) : srt2 a b = srt2 b a := by
  unfold srt2
  by_cases h1 : ltCps b a = true
  · rw [if_pos h1, if_neg (by rw [ltCps_asym h1]; simp)]
  · rw [if_neg h1]
    by_cases h2 : ltCps a b = true
    · rw [if_pos h2]
    · have e : b = a := ltCps_tot (by simpa using h1) (by simpa using h2)
      rw [if_neg h2, e]
theorem srt2_is {a b : List Nat} {ys : List (List Nat)} (h : ys.Perm [a, b]) (hs : srtS ys = true) : ys = srt2 a b := by
  have key : ∀ x y : List Nat, srtS [x, y] = true → [x, y] = srt2 x y := fun x y h => by
    unfold srt2
    rw [if_neg]
    have h : (!ltCps (S y).cps.toList (S x).cps.toList && true) = true := h
    rw [S_list, S_list] at h
    simpa using h
  match ys, h.length_eq with
  | [x, y], _ =>
    have hx : x ∈ [a, b] := h.mem_iff.mp (by simp)
    have k := key x y hs
    rcases List.mem_cons.mp hx with e | e
    · subst e
      have := h.cons_inv
      have e2 : y = b := by simpa using List.perm_singleton.mp this
      rw [← e2]; exact k
    · have e : x = b := List.mem_singleton.mp e
      subst e
      have h2 : [x, y].Perm [x, a] := h.trans (List.Perm.swap x a [])
      have e2 : y = a := by simpa using List.perm_singleton.mp h2.cons_inv
      rw [← e2, srt2_comm]; exact k
end Lw
/-! W35: isinstance of an instance of a class of the text. -/
namespace Lw
open PySem PySem.Spec PyProof.Rows L2 LiX
/-- whether a class's instances are a class's: the ways' classes stand under Way -/
def isWb (k c : Nat) : Bool := c == k || (k == 9 && (10 ≤ c && c ≤ 12))
structure IsN (P : Par) (cs : List Nat) : Prop where
  ha : ∀ c ∈ cs, PySem.W.findIn P.K (.ref (P.ca c)) "__class__" = some (some (.builtin "object.__class__"))
  hn : PySem.W.specialIn P.K (.builtin "object.__class__") "__get__" = some (some (.builtin "getset_descriptor.__get__"))
  ht : PySem.W.takesIn P.K (.builtin "object.__class__") = some true
  hm : ∀ c ∈ cs, PySem.W.mroIn P.K (P.ca c) (.type "object") = some true
def IsNK (P : Par) (cs : List Nat) (k : Nat) : Prop := ∀ c ∈ cs, PySem.W.kitOne P.K (.ref (P.ca c)) (.ref (P.ca k)) = some (isWb k c)
def wIsN (cs : List Nat) (k : Nat) (te : WTE) : WTE := fun σ G Q E => te σ G (fun w G1 => ∃ c fs, objOf G1 w = some (c, fs) ∧ c ∈ cs ∧ Q (.bl (isWb k c)) G1) E
section
variable {P : Par} {X : Cx} {k : Nat} {cs : List Nat} {e : Expr} {te : WTE} {x : Str} {p p2 pos : Pos}
theorem je_isn (F : IsN P cs) (hK : X.K = P.K) (hg : Gl X "isinstance") (hm : X.mg "isinstance" = none) (hgx : Gl X x) (hx : X.mg x = some (.ref (P.ca k))) (T : IsNK P cs k)
    (he : JE P X e te) (hd : (x == ("__debug__" : Str)) = false := by decide)
    (hs : starEach [e, .Name x p2] X.env = (false, eval e X.env) :: starEach [.Name x p2] X.env := by rfl) (hs2 : starEach [.Name x p2] X.env = (false, eval (.Name x p2) X.env) :: starEach [] X.env := by rfl) (hpl : (backTo pos (starEach [.Name x p2] X.env)).any (·.1) = false := by rfl) :
    JE P X (.Call (.Name "isinstance" p) [e, .Name x p2] [] pos) (wIsN cs k te) := fun Ga Ha Ew tk => by
  refine ⟨fun pins s σ H Q I ⟨σw, G, Qw, fa, rs, rp, hh, hq⟩ => ?_⟩
  refine (pe_callB (X := X) call_isi hg hm (by rfl) (pa_cons (he Ga Ha Ew tk) (pa_cons (pe_glob (v := .ref (P.ca k)) hgx hx rfl hd) pa_nil hs2) hs) (by decide) (by decide) hs hpl).run pins s σ H Q I ?_
  refine ⟨σw, G, _, fa, rs, rp, hh, fun w G1 v H1 f1 r1 p1 ⟨c, fs, e0, hc, q⟩ => ?_⟩
  obtain ⟨a, dx, fv, rfl, h1, h2, cf⟩ := objOf_rel p1 r1 e0
  exact ⟨_, _, .ref (P.ca c), _, isWb k c, rfl, .own _, .base (.ins h1 (by rw [hK]; exact cf.1) (by rw [hK]; exact F.ha c hc) (by rw [hK]; exact F.hn) (by rw [hK]; exact F.ht) (by rw [hK]; exact F.hm c hc)), by rw [hK]; exact T c hc, hq _ G1 _ H1 f1 (.bl _) p1 q⟩
end
end Lw
/-! W36: all(xs) of truth values. -/
namespace Lw
open PySem PySem.Spec PyProof.Rows L2
section
variable {P : Par} {X : Cx} {G : WHp} {H : Hp}
theorem RelWs.ofBls : ∀ {bs : List Bool} {vs : List V}, RelWs P G H (bs.map W.bl) vs → vs = bs.map V.bl
  | [], _, .nil => rfl
  | n :: ns, _, .cons _ v _ vs r rr => by
    cases r
    rw [RelWs.ofBls rr]
    rfl
def oAll : WRs := fun ws G Q => ∃ (x : W) (bs : List Bool), ws = [x] ∧ sqOf G x = some (bs.map W.bl) ∧ Q (.bl (bs.all id)) G
theorem cw_all (hK : X.K = P.K) (hc : X.calm = true) : CallW P X (.builtin "all") oAll := CallR.imp (cr_all hc) fun vs H Q ⟨ws, G, Qw, r, rp, ⟨x, bs, e0, e, q⟩, hq⟩ => by
  subst e0
  obtain ⟨v, rfl, r1⟩ := r.one
  obtain ⟨a, vs, rfl, ha, ra⟩ := sqOf_rel rp r1 e
  rw [ra.ofBls] at ha
  exact ⟨a, bs, rfl, by rw [hK]; exact ha, emb_end hq rp (.bl _) q⟩
def oAny : WRs := fun ws G Q => ∃ (x : W) (bs : List Bool), ws = [x] ∧ sqOf G x = some (bs.map W.bl) ∧ Q (.bl (bs.any id)) G
theorem cw_any (hK : X.K = P.K) (hc : X.calm = true) : CallW P X (.builtin "any") oAny := CallR.imp (cr_any hc) fun vs H Q ⟨ws, G, Qw, r, rp, ⟨x, bs, e0, e, q⟩, hq⟩ => by
  subst e0
  obtain ⟨v, rfl, r1⟩ := r.one
  obtain ⟨a, vs, rfl, ha, ra⟩ := sqOf_rel rp r1 e
  rw [ra.ofBls] at ha
  exact ⟨a, bs, rfl, by rw [hK]; exact ha, emb_end hq rp (.bl _) q⟩
end
end Lw
/-! W37: x > y of pairs of whole numbers. -/
namespace Lw
open PySem PySem.Spec PyProof.Rows L2
section
variable {P : Par} {X : Cx} {G : WHp} {H : Hp}
def rGtD (K : PySem.W.Frag) : R2 := fun x y H Q => ∃ p q : Int × Int, Dp K H x (PySem.W.Datum.toD p) ∧ Dp K H y (PySem.W.Datum.toD q) ∧ Q (.bl (PySem.W.DatumOrd.lt q p)) H
theorem op_gtD (hu : X.A.units + 65 < cLine) : OpR X (compareOp .Gt) (rGtD X.K) := by
  intro pins s σ H x y v u Q I rx ry h
  obtain ⟨p, q, hd, he, hq⟩ := h
  obtain ⟨as, r1⟩ := Dp.reads I _ x v hd rx
  obtain ⟨bs, r2⟩ := Dp.reads I _ y u he ry
  have dp : PySem.W.Datum.depth (Int × Int) ≤ 64 := by decide
  exact PySem.W.gt_datum ⟨as, r1⟩ ⟨bs, r2⟩ (by omega) ⟨.bl _, H, I, rfl, hq⟩
def pairW (p : Int × Int) : W := .tup [.int p.1, .int p.2]
def oGtT : WR2 := fun x y G Q => ∃ p q : Int × Int, x = pairW p ∧ y = pairW q ∧ Q (.bl (decide (q.1 < p.1 ∨ q.1 = p.1 ∧ q.2 < p.2))) G
theorem pairW_d (p : Int × Int) : DpW G (pairW p) (PySem.W.Datum.toD p) := dp_dW 20 (pairW p) (by
  intro w hw
  simp only [List.mem_cons, List.not_mem_nil, or_false] at hw
  rcases hw with rfl | rfl <;> trivial)
theorem pair_lt (p q : Int × Int) : PySem.W.DatumOrd.lt q p = decide (q.1 < p.1 ∨ q.1 = p.1 ∧ q.2 < p.2) := by
  show (if q.1 = p.1 then PySem.W.DatumOrd.lt q.2 p.2 else PySem.W.DatumOrd.lt q.1 p.1) = _
  show (if q.1 = p.1 then decide (q.2 < p.2) else decide (q.1 < p.1)) = _
  rw [Bool.eq_iff_iff]
  split <;> simp only [decide_eq_true_eq] <;> omega
theorem ow_gtT (hK : X.K = P.K) (hu : X.A.units + 65 < cLine) : OpW P X (compareOp .Gt) oGtT := OpR.imp (op_gtD hu) fun x y H Q ⟨wx, wy, G, Qw, rx, ry, rp, ⟨p, q, e1, e2, h⟩, hq⟩ => by
  subst e1; subst e2
  exact ⟨p, q, by rw [hK]; exact DpW.dp rp (pairW_d p) rx, by rw [hK]; exact DpW.dp rp (pairW_d q) ry, by rw [pair_lt]; exact emb_end hq rp (.bl _) h⟩
end
end Lw
/-! W38: ljust, rjust, rstrip, strip; an item of a written dict of texts; == and != of lists of dicts that are equal. -/
namespace PySem.SeqAt
open AutoSeq1 (wpAny_loadPart')
open MeetsSeq MeetsSeq2 MeetsSeq3 SeqRoads2
section
variable {prog : Program} {w : World}
theorem lw_neLoop (p q : Addr) (us vs : Array Value) (m m2 : Nat) (dp dq : Option Addr) (lp lq : Array (Option Value)) (hz : us.size = vs.size) (f : Nat → Bool) (c : Nat) :
    ∀ j : Nat, us.size - j = c → MeetsIn prog w (Builtin.«list.__eq__.loop» ⟨[.ref p, .ref q, rawInt j, rawInt 3], []⟩)
      (fun B Z r => r.heap.get? p = some { cls := .type "list", dict := dp, data := .seq us m, slots := lp } ∧ r.heap.get? q = some { cls := .type "list", dict := dq, data := .seq vs m2, slots := lq } ∧
        (∀ i (g1 : i < us.size) (g2 : i < vs.size), EqP prog w B.in1 r us[i] vs[i] (f i)) ∧ Z (.ok (.ret (.bool (!((List.range us.size).drop j).all f)))) r) := by
  induction c with
  | zero =>
    intro j hj B Z r z
    obtain ⟨r1, r2, r3, r4, r5⟩ := r
    obtain ⟨zp, zq, ze, z⟩ := z
    wp_walk using wpAny_loadPart' zp, wpAny_loadPart' zq
    have n1 : us[((j : Nat) : Int).toNat]? = none := by simp; omega
    have n2 : vs[((j : Nat) : Int).toNat]? = none := by simp; omega
    have nd : (List.range us.size).drop j = [] := by simp; omega
    rw [nd] at z
    rw [n1, n2]
    wp_walk using wpAny_loadPart' zp, wpAny_loadPart' zq
    show Z (.ok (.ret (.bool (us.size != vs.size)))) _
    rw [hz]
    simpa using z
  | succ c ic =>
    intro j hj B Z r z
    obtain ⟨r1, r2, r3, r4, r5⟩ := r
    obtain ⟨zp, zq, ze, z⟩ := z
    wp_walk using wpAny_loadPart' zp, wpAny_loadPart' zq
    have j1 : j < us.size := by omega
    have j2 : j < vs.size := by omega
    have n1 : us[((j : Nat) : Int).toNat]? = some us[j] := by simp [j1]
    have n2 : vs[((j : Nat) : Int).toNat]? = some vs[j] := by simp [j2]
    have nd : (List.range us.size).drop j = j :: (List.range us.size).drop (j + 1) := by simp [List.drop_eq_getElem_cons, j1]
    have nc : ((j : Int) + 1) = ((j + 1 : Nat) : Int) := by push_cast; rfl
    rw [nd, List.all_cons] at z
    rw [n1, n2]
    refine wpAny_bind (ze j j1 j2 _ _ ?_)
    cases hf : f j with
    | true =>
      rw [hf] at z
      wp_walk
      rw [nc]
      refine ⟨plainId_quiet plain_eq_loop _, codeAny_builtin entry_eq_loop ?_⟩
      rw [Around.under_plainId plain_eq_loop _]
      exact ic (j + 1) (by omega) B Z _ ⟨zp, zq, ze, by simpa using z⟩
    | false =>
      rw [hf] at z
      wp_walk using wpAny_loadPart' zp, wpAny_loadPart' zq
      rw [n1, n2]
      wp_walk
      simpa using z
theorem lw_ne (p q : Addr) (us vs : Array Value) (m m2 : Nat) (dp dq : Option Addr) (lp lq : Array (Option Value)) (hz : us.size = vs.size) (f : Nat → Bool) :
    MeetsIn prog w (Builtin.«list.__ne__» ⟨[.ref p, .ref q], []⟩)
      (fun B Z r => r.heap.get? p = some { cls := .type "list", dict := dp, data := .seq us m, slots := lp } ∧ r.heap.get? q = some { cls := .type "list", dict := dq, data := .seq vs m2, slots := lq } ∧
        (∀ i (g1 : i < us.size) (g2 : i < vs.size), EqP prog w B.in1 r us[i] vs[i] (f i)) ∧ Z (.ok (.ret (.bool (!(List.range us.size).all f)))) r) := by
  intro B Z r z
  obtain ⟨r1, r2, r3, r4, r5⟩ := r
  obtain ⟨zp, zq, ze, z⟩ := z
  have sl := AutoSeq1.sub_list_list
  have nz : ¬ (us.size != vs.size) = true := by simp [hz]
  wp_walk using wpAny_loadPart' zp, wpAny_loadPart' zq
  refine ⟨plainId_quiet plain_eq_loop _, codeAny_builtin entry_eq_loop ?_⟩
  rw [Around.under_plainId plain_eq_loop _]
  exact lw_neLoop p q us vs m m2 dp dq lp lq hz f _ 0 rfl B Z _ ⟨zp, zq, ze, by simpa using z⟩
theorem lw_neLists {B : Around} {r : Shared} {p q : Addr} {us vs : Array Value} {f : Nat → Bool} (kp : r.heap.IsList p us) (kq : r.heap.IsList q vs) (hz : us.size = vs.size) (hu : B.units < cLine)
    (ze : ∀ i (g1 : i < us.size) (g2 : i < vs.size), EqP prog w B.in1 r us[i] vs[i] (f i)) (E Q : Value → Shared → Prop) (z : Q (.bool (!(List.range us.size).all f)) r) : wpAny (model prog w) B (richCompare .NotEq (.ref p) (.ref q)) Q E r := by
  obtain ⟨⟨c1, e1, d1, l1⟩, o1, t1, m, b1⟩ := id kp
  obtain ⟨⟨c2, e2, d2, l2⟩, o2, t2, m2, b2⟩ := id kq
  simp only at t1 b1 t2 b2
  subst t1 b1 t2 b2
  have ty1 : r.TypeIs (.ref p) "list" := ⟨_, o1, rfl⟩
  have ty2 : r.TypeIs (.ref q) "list" := ⟨_, o2, rfl⟩
  exact wpAny_richCompare_same_room (op := .NotEq) ty1 ty2 F.slot_list_ne (call_meetsIn F.slot_list_ne ty1 F.entry_list_ne (F.args_list_ne_2 _ _) (lw_ne p q us vs m m2 e1 e2 l1 l2 hz f)
    ⟨o1, o2, ze, show Value.bool (!(List.range us.size).all f) ≠ Value.notImplemented ∧ Q (.bool (!(List.range us.size).all f)) r from ⟨(fun x => nomatch x), z⟩⟩) hu
end
end PySem.SeqAt
namespace Lw
open PySem PySem.Spec PyProof.Rows L2
section
variable {P : Par} {X : Cx} {G : WHp} {H : Hp}
/-! ### lists of dicts -/
def rNeV (K : PySem.W.Frag) : R2 := fun x y H Q => ∃ n a b xs ys, n ≤ 60 ∧ x = V.ref a ∧ y = V.ref b ∧ SqL K H a xs ∧ SqL K H b ys ∧ Paired (EqV K H n) xs ys ∧ Q (.bl false) H
theorem op_neV (hu : X.A.units + 64 < cLine) : OpR X (compareOp .NotEq) (rNeV X.K) := by
  intro pins s σ H x y v u Q I rx ry ⟨n, a, b, xs, ys, hn, e1, e2, ha, hb, hp, q⟩
  subst e1; subst e2
  cases (show v = Value.ref a from rx)
  cases (show u = Value.ref b from ry)
  obtain ⟨us, r1, p1, _⟩ := I.list ha
  obtain ⟨ws, r2, p2, _⟩ := I.list hb
  have hz : us.toArray.size = ws.toArray.size := by
    rw [List.size_toArray, List.size_toArray, ← r1.length, ← r2.length]
    exact Paired.length hp
  refine SeqAt.lw_neLists (f := fun _ => true) p1.isList p2.isList hz (by omega) (fun j h1 h2 => ?_) _ _ ?_
  · have k := items_run (eqV_run I n X.A.in1 (by show X.A.units + 1 + n < cLine; omega)) hp r1 r2 j (by simpa using h1) (by simpa using h2)
    simpa using k
  · rw [show ((List.range us.toArray.size).all fun _ => true) = true from List.all_eq_true.mpr fun _ _ => rfl]
    exact ⟨.bl false, H, I, rfl, q⟩
/-- a list of dicts whose values are texts -/
def dsL (G : WHp) (x : W) (kss : List (List (KW × W))) : Prop := ∃ xs, sqOf G x = some xs ∧ xs.map (dcL G) = kss.map some ∧ ∀ ks ∈ kss, (ks.map (·.1)).Nodup ∧ ∀ p ∈ ks, ∃ s, p.2 = W.str s
theorem RelKs.mems : ∀ {ws : List (KW × W)} {vs : List (Key × V)}, RelKs P G H ws vs → ∀ p ∈ vs, ∃ l, p.1 = kK l ∧ l ∈ ws.map (·.1)
  | _, _, .nil, p, hp => by cases hp
  | _, _, .cons k w v ws vs h r, p, hp => by
    rcases List.mem_cons.mp hp with rfl | hp
    · exact ⟨k, rfl, by simp⟩
    · obtain ⟨l, h3, h4⟩ := RelKs.mems r p hp
      exact ⟨l, h3, by simp [h4]⟩
theorem valV_ndS : ∀ {ks : List (KW × W)} {kv : List (Key × V)}, RelKs P G H ks kv → (ks.map (·.1)).Nodup → (∀ p ∈ ks, ∃ s, p.2 = W.str s) → ∀ p ∈ kv, valV kv p.1 = some p.2 ∧ flatB p.2 = true
  | _, _, .nil, _, _ => by simp
  | _, _, .cons k w v ws vs h r, hn, hs => by
    obtain ⟨s, e⟩ := hs (k, w) List.mem_cons_self
    have e : w = .str s := e
    subst e
    cases h
    intro p hp
    rw [List.map_cons, List.nodup_cons] at hn
    have ih := valV_ndS r hn.2 fun p hp => hs p (List.mem_cons_of_mem _ hp)
    rcases List.mem_cons.mp hp with rfl | hp
    · exact ⟨by simp [valV], rfl⟩
    · obtain ⟨l, h3, h4⟩ := r.mems p hp
      have hne : ¬ kK k = p.1 := fun z => by
        rw [h3] at z
        have := kK_inj z
        subst this
        exact hn.1 h4
      refine ⟨?_, (ih p hp).2⟩
      have := (ih p hp).1
      unfold valV at this ⊢
      rw [List.find?_cons_of_neg (by simpa using hne)]
      exact this
theorem ds_pair (rp : Rep P G H) : ∀ {kss : List (List (KW × W))} {xs ys : List W} {vs us : List V}, xs.map (dcL G) = kss.map some → ys.map (dcL G) = kss.map some → (∀ ks ∈ kss, (ks.map (·.1)).Nodup ∧ ∀ p ∈ ks, ∃ s, p.2 = W.str s) → RelWs P G H xs vs → RelWs P G H ys us → Paired (EqV P.K H 2) vs us
  | [], [], [], _, _, _, _, _, .nil, .nil => .nil
  | ks :: r, x :: xs, y :: ys, _, _, e1, e2, hk, .cons _ v _ vs h1 r1, .cons _ u _ us h2 r2 => by
    rw [List.map_cons, List.map_cons, List.cons.injEq] at e1 e2
    refine .cons ?_ (ds_pair rp e1.2 e2.2 (fun z hz => hk z (List.mem_cons_of_mem _ hz)) r1 r2)
    obtain ⟨a, kv, rfl, h3, r3⟩ := dcL_rel rp h1 e1.1
    obtain ⟨b, lv, rfl, h4, r4⟩ := dcL_rel rp h2 e2.1
    obtain ⟨k1, k2⟩ := hk ks List.mem_cons_self
    have e := r3.strAt r4 k2
    subst e
    have hv := valV_ndS r3 k1 k2
    exact .inr (.inr (.inr ⟨a, b, kv, kv, rfl, rfl, h3, h4, rfl, fun p hp => ⟨p.2, (hv p hp).1, .inl ⟨rfl, (hv p hp).2⟩⟩⟩))
def oEqDs : WR2 := fun x y G Q => ∃ kss, dsL G x kss ∧ dsL G y kss ∧ Q (.bl true) G
def oNeDs : WR2 := fun x y G Q => ∃ kss, dsL G x kss ∧ dsL G y kss ∧ Q (.bl false) G
theorem ow_neDs (hK : X.K = P.K) (hu : X.A.units + 64 < cLine) : OpW P X (compareOp .NotEq) oNeDs := OpR.imp (op_neV hu) fun x y H Q ⟨wx, wy, G, Qw, rx, ry, rp, ⟨kss, ⟨xs, e1, m1, hk⟩, ⟨ys, e2, m2, _⟩, q⟩, hq⟩ => by
  obtain ⟨a, vs, rfl, h1, r1⟩ := sqOf_rel rp rx e1
  obtain ⟨b, us, rfl, h2, r2⟩ := sqOf_rel rp ry e2
  exact ⟨2, a, b, vs, us, by decide, rfl, rfl, by rw [hK]; exact h1, by rw [hK]; exact h2, by rw [hK]; exact ds_pair rp m1 m2 hk r1 r2, emb_end hq rp (.bl _) q⟩
theorem ow_eqDs (hK : X.K = P.K) (hu : X.A.units + 64 < cLine) : OpW P X (compareOp .Eq) oEqDs := OpR.imp (op_eqV hu) fun x y H Q ⟨wx, wy, G, Qw, rx, ry, rp, ⟨kss, ⟨xs, e1, m1, hk⟩, ⟨ys, e2, m2, _⟩, q⟩, hq⟩ => by
  obtain ⟨a, vs, rfl, h1, r1⟩ := sqOf_rel rp rx e1
  obtain ⟨b, us, rfl, h2, r2⟩ := sqOf_rel rp ry e2
  exact ⟨2, by decide, .inl ⟨a, b, vs, us, rfl, rfl, by rw [hK]; exact h1, by rw [hK]; exact h2, by rw [hK]; exact ds_pair rp m1 m2 hk r1 r2⟩, emb_end hq rp (.bl _) q⟩
/-! ### texts that are filled up, or cut -/
def padR (s : List Nat) (n : Nat) : List Nat := s ++ List.replicate (n - s.length) 32
def padL (s : List Nat) (n : Nat) : List Nat := List.replicate (n - s.length) 32 ++ s
theorem ljust_S (s : List Nat) (n : Nat) : Txt.ljust (S s) (n : Int) = S (padR s n) := by
  unfold Txt.ljust padR
  by_cases h : (n : Int) ≤ (S s).length
  · rw [if_pos h]
    rw [S_len] at h
    rw [show n - s.length = 0 by omega]; simp
  · rw [if_neg h, S_of (Builtin.Str.padded _ _ _ _), padded_list, S_list, Int.toNat_natCast, S_len]
    rfl
theorem rjust_S (s : List Nat) (n : Nat) : Txt.rjust (S s) (n : Int) = S (padL s n) := by
  unfold Txt.rjust padL
  by_cases h : (n : Int) ≤ (S s).length
  · rw [if_pos h]
    rw [S_len] at h
    rw [show n - s.length = 0 by omega]; simp
  · rw [if_neg h, S_of (Builtin.Str.padded _ _ _ _), padded_list, S_list, Int.toNat_natCast, S_len]
    simp
def mSljust : WRm := fun x ws G Q => ∃ (s : List Nat) (n : Nat), x = .str s ∧ ws = [.int (n : Nat)] ∧ n ≤ 1000 ∧ Q (.str (padR s n)) G
def mSrjust : WRm := fun x ws G Q => ∃ (s : List Nat) (n : Nat), x = .str s ∧ ws = [.int (n : Nat)] ∧ n ≤ 1000 ∧ Q (.str (padL s n)) G
theorem pad_ok {n : Nat} (h : n ≤ 1000) : PadOk (n : Int) = true := by
  have : ∀ m, m ≤ 1000 → PadOk ((m : Nat) : Int) = true := by decide +kernel
  exact this n h
theorem mw_sljust : MtW P X "str.ljust" mSljust := MtR.imp mt_ljust fun x xs H Q ⟨wx, ws, G, Qw, rx, r, rp, ⟨s, n, e1, e2, hn, q⟩, hq⟩ => by
  subst e1; subst e2
  cases rx
  obtain ⟨v, rfl, r1⟩ := r.one
  cases r1
  refine ⟨S s, _, rfl, rfl, pad_ok hn, ?_⟩
  rw [ljust_S]
  exact hq _ G _ H (.refl _ _) (.str _) rp q
theorem mw_srjust : MtW P X "str.rjust" mSrjust := MtR.imp mt_rjust fun x xs H Q ⟨wx, ws, G, Qw, rx, r, rp, ⟨s, n, e1, e2, hn, q⟩, hq⟩ => by
  subst e1; subst e2
  cases rx
  obtain ⟨v, rfl, r1⟩ := r.one
  cases r1
  refine ⟨S s, _, rfl, rfl, pad_ok hn, ?_⟩
  rw [rjust_S]
  exact hq _ G _ H (.refl _ _) (.str _) rp q
theorem sp_one {c : Nat} (h : 97 ≤ c) (h2 : c ≤ 122) : spS ⟨#[c]⟩ = false := by
  have : ∀ m, m ≤ 122 → 97 ≤ m → spS ⟨#[m]⟩ = false := by decide +kernel
  exact this c h2 h
theorem sp_32 : spS ⟨#[32]⟩ = true := by decide +kernel
theorem rstrip_S {t : List Nat} {k : Nat} (ht : ∀ c ∈ t, 97 ≤ c ∧ c ≤ 122) : Txt.rstrip (S (t ++ List.replicate k 32)) = S t := by
  obtain ⟨hi, h1, h2, h3, h4⟩ := rstrip_cut (x := S (t ++ List.replicate k 32)) (fun c hc => by
    rw [S_list] at hc
    rcases List.mem_append.mp hc with hc | hc
    · have := ht c hc; omega
    · rw [List.mem_replicate] at hc; omega)
  rw [S_len, List.length_append, List.length_replicate] at h1 h3
  have gd : ∀ i, (S (t ++ List.replicate k 32)).cps.getD i 0 = (t ++ List.replicate k 32).getD i 0 := fun i => by
    show (t ++ List.replicate k 32).toArray.getD i 0 = _
    simp [Array.getD, List.getD_eq_getElem?_getD]
    split <;> rename_i hh
    · rw [List.getElem?_eq_getElem (by simpa using hh)]; rfl
    · rw [List.getElem?_eq_none (by simpa using hh)]; rfl
  have e : hi = t.length := by
    rcases Nat.lt_trichotomy hi t.length with hlt | heq | hgt
    · have := h3 hi (Nat.le_refl _) (by omega)
      rw [gd, List.getD_eq_getElem?_getD, List.getElem?_append_left hlt, List.getElem?_eq_getElem hlt, Option.getD_some] at this
      have hm := ht _ (List.getElem_mem hlt)
      rw [sp_one hm.1 hm.2] at this
      cases this
    · exact heq
    · rcases h4 with h4 | h4
      · omega
      · rw [gd, List.getD_eq_getElem?_getD, List.getElem?_append_right (by omega), List.getElem?_replicate, if_pos (by omega), Option.getD_some, sp_32] at h4
        cases h4
  rw [h2, e, strSub_mk, S_list]
  simp
def mSrstrip : WRm := fun x ws G Q => ∃ (t : List Nat) (k : Nat), x = .str (t ++ List.replicate k 32) ∧ ws = [] ∧ t.length + k ≤ big ∧ (∀ c ∈ t, 97 ≤ c ∧ c ≤ 122) ∧ Q (.str t) G
theorem mw_srstrip : MtW P X "str.rstrip" mSrstrip := MtR.imp mt_rstrip fun x xs H Q ⟨wx, ws, G, Qw, rx, r, rp, ⟨t, k, e1, e2, hl, ht, q⟩, hq⟩ => by
  subst e1; subst e2
  cases rx
  cases r
  refine ⟨S (t ++ List.replicate k 32), rfl, rfl, by rw [S_len, List.length_append, List.length_replicate, big_eq]; exact hl, ?_⟩
  rw [rstrip_S ht]
  exact hq _ G _ H (.refl _ _) (.str _) rp q
def stripL (s : List Nat) : List Nat := (Txt.strip (S s)).cps.toList
def mSstrip : WRm := fun x ws G Q => ∃ (s : List Nat), x = .str s ∧ ws = [] ∧ s.length ≤ big ∧ Q (.str (stripL s)) G
theorem mw_sstrip : MtW P X "str.strip" mSstrip := MtR.imp mt_strip fun x xs H Q ⟨wx, ws, G, Qw, rx, r, rp, ⟨s, e1, e2, hl, q⟩, hq⟩ => by
  subst e1; subst e2
  cases rx
  cases r
  refine ⟨S s, rfl, rfl, by rw [S_len, big_eq]; exact hl, ?_⟩
  rw [S_of (Txt.strip (S s))]
  exact hq _ G _ H (.refl _ _) (.str _) rp q
/-! ### an item of a written dict of texts -/
def wKd (tbl : List (List Nat × List Nat)) (te : WTE) : WTE := fun σ G Q E => te σ G (fun w G1 => ∃ z v, w = .str z ∧ tbl.lookup z = some v ∧ Q (.str v) G1) E
def KdOk (P : Par) (w : World) (mg : Str → Option Value) (x : Str) (tbl : List (List Nat × List Nat)) : Prop := ∃ p, mg x = some (.ref p) ∧ ∀ z v, tbl.lookup z = some v → KDct P.K w p (S z) (.str (S v))
theorem je_kd {x : Str} {e : Expr} {te : WTE} {tbl : List (List Nat × List Nat)} {pos np : Pos} (hK : X.K = P.K) (D : KdOk P X.w X.mg x tbl) (hg : Gl X x) (he : JE P X e te) (hs : PlainIx e := by exact fun _ _ => rfl) (hd : (x == ("__debug__" : Str)) = false := by decide) :
    JE P X (.Subscript (.Name x np) e pos) (wKd tbl te) := fun Ga Ha Ew tk => by
  obtain ⟨p, hm, hp⟩ := D
  refine PE.imp (pe_ix ix_kdict (pe_glob (v := .ref p) hg hm rfl hd) (he Ga Ha Ew tk) hs) fun σ H Q ⟨σw, G, Qw, fa, rs, rp, ht, hq⟩ => ⟨σw, G, _, fa, rs, rp, ht, fun w1 G1 v1 H1 f1 r1 p1 ⟨z, v, e1, e2, q⟩ => ?_⟩
  subst e1
  cases r1
  exact ⟨p, S z, .str (S v), rfl, rfl, by rw [hK]; exact hp z v e2, hq _ G1 _ H1 f1 (.str _) p1 q⟩
theorem kd_nil {K : PySem.W.Frag} {w : World} {p : Addr} : ∀ z v, (([] : List (List Nat × List Nat)).lookup z = some v) → KDct K w p (S z) (.str (S v)) := fun z v h => by cases h
theorem kd_cons {K : PySem.W.Frag} {w : World} {p : Addr} {a b : List Nat} {r : List (List Nat × List Nat)} (h : KDct K w p (S a) (.str (S b))) (hr : ∀ z v, r.lookup z = some v → KDct K w p (S z) (.str (S v))) : ∀ z v, ((a, b) :: r).lookup z = some v → KDct K w p (S z) (.str (S v)) := fun z v e => by
  rw [List.lookup_cons] at e
  split at e
  · rename_i h2
    have h2 : z = a := by simpa using h2
    subst h2
    cases e
    exact h
  · exact hr z v e
theorem kd_mk {K : PySem.W.Frag} {w : World} {p : Addr} {es : Array DictEntry} {n : Nat} {x v : Str} {t : Tok} (hl : K.lookup p = some ⟨.type "dict", none, .dict es n, #[]⟩) (hk : PySem.W.KeysLit w.params es.toList) (e : PySem.W.nsIn K p x = some (some (.str v t))) : KDct K w p x (.str v) :=
  ⟨es, n, _, hl, hk, e, ⟨t, rfl⟩⟩
end
end Lw
/-! W39: comprehensions whose items make new things. -/
namespace Lw
open PySem PySem.Spec PyProof.Rows L2
section
variable {j : Nat} {tt : WTT} {te : WTE} {σ : WSt} {G : WHp} {Q : WQ} {ok : WHp → Prop} {xs : List W}
theorem lc_H {fin : Addr → List W → WHp → WQ → Prop} (Pv : Nat → List W → WHp → Prop) (hl : xs.length ≤ 16777216) (h0 : Pv 0 [] G) (hlen : ∀ k acc G1, k ≤ xs.length → Pv k acc G1 → acc.length ≤ k ∧ ∀ D, G1 D = none → ok (updG G1 D (.lst acc)))
    (hs : ∀ (k : Nat) x acc G1 D (Q' : WQ), xs[k]? = some x → Pv k acc G1 → G1 D = none → (∀ y G2, G2 D = none → Pv (k + 1) (acc ++ [y]) G2 → Q' y (updG G2 D (.lst acc))) → te (σ.set j (some x)) (updG G1 D (.lst acc)) Q' noX)
    (q : ∀ acc G2 D, G2 D = none → Pv xs.length acc G2 → fin D acc (updG G2 D (.lst acc)) Q) : LcOk fin j wYes te σ Q xs ok G := by
  refine ⟨hl, fun D hD => ⟨fun k acc G' => ∃ G1, G1 D = none ∧ G' = updG G1 D (.lst acc) ∧ Pv k acc G1, ⟨G, hD, rfl, h0⟩, ?_, ?_, ?_⟩⟩
  · rintro k acc G' hk ⟨G1, h1, rfl, hp⟩
    obtain ⟨a, b⟩ := hlen k acc G1 hk hp
    exact ⟨b D h1, updG_same, a⟩
  · rintro k x acc G' hx ⟨G1, h1, rfl, hp⟩
    rw [List.set_set]
    refine hs k x acc G1 D _ hx hp h1 fun y G2 h2 hy => ⟨updG_same, G2, h2, by rw [updG_updG], hy⟩
  · rintro acc G' ⟨G1, h1, rfl, hp⟩
    exact q acc G1 D h1 hp
theorem lcI_H (Pv : Nat → List W → WHp → Prop) (hl : xs.length ≤ 16777216) (h0 : Pv 0 [] G) (hlen : ∀ k acc G1, k ≤ xs.length → Pv k acc G1 → acc.length ≤ k ∧ ∀ D, G1 D = none → ok (updG G1 D (.lst acc)))
    (hs : ∀ (k : Nat) x acc G1 D (Q' : WQ), xs[k]? = some x → Pv k acc G1 → G1 D = none → (∀ y G2, G2 D = none → Pv (k + 1) (acc ++ [y]) G2 → Q' y (updG G2 D (.lst acc))) → te (σ.set j (some x)) (updG G1 D (.lst acc)) Q' noX)
    (q : ∀ acc G2, Pv xs.length acc G2 → Q (.il acc) G2) : LcOk finI j wYes te σ Q xs ok G :=
  lc_H Pv hl h0 hlen hs fun acc G2 D h hp => by show Q _ (delG _ D); rw [delG_updG h]; exact q acc G2 hp
theorem lcM_H (Pv : Nat → List W → WHp → Prop) (hl : xs.length ≤ 16777216) (h0 : Pv 0 [] G) (hlen : ∀ k acc G1, k ≤ xs.length → Pv k acc G1 → acc.length ≤ k ∧ ∀ D, G1 D = none → ok (updG G1 D (.lst acc)))
    (hs : ∀ (k : Nat) x acc G1 D (Q' : WQ), xs[k]? = some x → Pv k acc G1 → G1 D = none → (∀ y G2, G2 D = none → Pv (k + 1) (acc ++ [y]) G2 → Q' y (updG G2 D (.lst acc))) → te (σ.set j (some x)) (updG G1 D (.lst acc)) Q' noX)
    (q : ∀ acc G2 D, G2 D = none → Pv xs.length acc G2 → Q (.ref D) (updG G2 D (.lst acc))) : LcOk finM j wYes te σ Q xs ok G :=
  lc_H Pv hl h0 hlen hs fun acc G2 D h hp => q acc G2 D h hp
/-- a new thing beside the list that is made -/
theorem upd_out {G1 : WHp} {D p : Addr} {o u : WO} (h : updG G1 D o p = none) : G1 p = none ∧ p ≠ D ∧ updG (updG G1 D o) p u = updG (updG G1 p u) D o := by
  have hpD : p ≠ D := fun e => by rw [e, updG_same] at h; cases h
  refine ⟨by rw [updG_ne hpD] at h; exact h, hpD, updG_comm (Ne.symm hpD)⟩
end
end Lw
/-! W40: a sign so many times. -/
namespace Lw
open PySem PySem.Spec PyProof.Rows L2
section
variable {P : Par} {X : Cx} {G : WHp} {H : Hp}
theorem fold_rep (c : Nat) : ∀ (k : Nat) (acc : Array Nat), ((List.replicate k #[c]).foldl (· ++ ·) acc).toList = acc.toList ++ List.replicate k c
  | 0, acc => by simp
  | k + 1, acc => by
    rw [List.replicate_succ, List.foldl_cons, fold_rep c k, List.replicate_succ]
    simp
theorem short_m : ∀ m, m ≤ 1000 → Builtin.Str.tooLong (1 * m) = false := by decide +kernel
def oMulS : WR2 := fun x y G Q => ∃ (c n : Nat), x = .str [c] ∧ y = .int (n : Nat) ∧ 2 ≤ n ∧ n ≤ 1000 ∧ Q (.str (List.replicate n c)) G
theorem op_mulS : OpR X (binaryOp .Mult) (fun x y H Q => ∃ (c n : Nat), x = .str (S [c]) ∧ y = .int (n : Nat) ∧ 2 ≤ n ∧ n ≤ 1000 ∧ Q (.str (S (List.replicate n c))) H) := by
  intro pins s σ H x y v u Q I rx ry h
  obtain ⟨c, n, rfl, rfl, h2, h3, q⟩ := h
  obtain ⟨t, rfl⟩ := rx
  obtain ⟨t', rfl⟩ := ry
  have n1 : ¬ (n : Int) < 1 := by omega
  have n2 : ((n : Int) == 1 || (S [c]).length == 0) = false := by
    rw [Bool.or_eq_false_iff]
    exact ⟨by rw [beq_eq_false_iff_ne]; omega, rfl⟩
  have e : (⟨(List.replicate (n : Int).toNat (S [c]).cps).foldl (· ++ ·) #[]⟩ : Str) = S (List.replicate n c) := by
    rw [Int.toNat_natCast]
    have e2 := fold_rep c n #[]
    rw [S_of ⟨(List.replicate n (S [c]).cps).foldl (· ++ ·) #[]⟩]
    show S ((List.replicate n #[c]).foldl (· ++ ·) #[]).toList = _
    rw [e2]; rfl
  refine PySem.P.mul_str (by rw [Bool.or_eq_false_iff, decide_eq_false_iff_not, decide_eq_false_iff_not]; omega) (fun _ _ => ?_) (fun _ _ => by rw [Int.toNat_natCast]; exact short_m n h3) ?_
  · rw [S_len]
    have : (n : Int) ≤ 1000 := by omega
    have h4 : (1 : Int) ≤ (2 ^ 63 - 1) / (n : Int) := (Int.le_ediv_iff_mul_le (by omega)).mpr (by omega)
    simp only [List.length_singleton]
    omega
  · rw [if_neg n1, if_neg (by rw [n2]; exact Bool.false_ne_true), e]
    exact ⟨by rw [S_len, List.length_replicate, big_eq]; show n ≤ 16777216; omega, .str (S (List.replicate n c)), H, I.tok _, ⟨_, rfl⟩, q⟩
theorem ow_mulS : OpW P X (binaryOp .Mult) oMulS := OpR.imp op_mulS fun x y H Q ⟨wx, wy, G, Qw, rx, ry, rp, ⟨c, n, e1, e2, h2, h3, q⟩, hq⟩ => by
  subst e1; subst e2
  cases rx
  cases ry
  exact ⟨c, n, rfl, rfl, h2, h3, emb_end hq rp (.str _) q⟩
end
end Lw
/-! W41: defs that call themselves: promises by depth. -/
namespace Lw
open PySem PySem.Spec PyProof.Rows L2
section
variable {P : Par} {prog : Program} {w : World} {mg : Str → Option Value} {base : Heap} {k M : Nat} {f : Addr} {fd : FuncData} {ps : List Str} {sp : WSp} {spr : Nat → WSp}
theorem fn_zero (hz : ∀ ws G Q E, sp ws G Q E → False) : FnW P prog w mg base k f fd ps sp :=
  ⟨fun vs H Q E h => by
    obtain ⟨ws, G, Qw, Ew, _, _, h, _⟩ := h
    exact (hz _ _ _ _ h).elim, fun A outer s H args us vs Q E _ _ _ _ h => by
    obtain ⟨ws, G, Qw, Ew, _, _, h, _⟩ := h
    exact (hz _ _ _ _ h).elim⟩
theorem fn_ex (F : ∀ n, n ≤ M → FnW P prog w mg base k f fd ps (spr n)) : FnW P prog w mg base k f fd ps (fun ws G Q E => ∃ n, n ≤ M ∧ spr n ws G Q E) :=
  ⟨fun vs H Q E h => by
    obtain ⟨ws, G, Qw, Ew, r, rp, ⟨n, hn, h⟩, hq, hE⟩ := h
    exact (F n hn).len vs H Q E ⟨ws, G, Qw, Ew, r, rp, h, hq, hE⟩, fun A outer s H args us vs Q E hr he hb hv h => by
    obtain ⟨ws, G, Qw, Ew, r, rp, ⟨n, hn, h⟩, hq, hE⟩ := h
    exact (F n hn).run A outer s H args us vs Q E hr he hb hv ⟨ws, G, Qw, Ew, r, rp, h, hq, hE⟩⟩
end
end Lw
/-! W42: dicts of pairs of whole numbers, all True. -/
namespace Lw
open PySem PySem.Spec PyProof.Rows L2
theorem td_val (ks : List (Int × Int)) (i j : Int) : valV (ks.map tdK) [.inl i, .inl j] = if (i, j) ∈ ks then some (.bl true) else none := by
  induction ks with
  | nil => rfl
  | cons p r ih =>
    obtain ⟨a, b⟩ := p
    by_cases e : (i, j) = (a, b)
    · rw [if_pos (by rw [e]; simp)]
      have e1 : i = a := congrArg Prod.fst e
      have e2 : j = b := congrArg Prod.snd e
      subst e1; subst e2
      exact valV_pos rfl
    · have hm : (i, j) ∈ (a, b) :: r ↔ (i, j) ∈ r := by rw [List.mem_cons]; exact ⟨fun h => h.resolve_left e, .inr⟩
      rw [show ((if (i, j) ∈ (a, b) :: r then some (V.bl true) else none) = if (i, j) ∈ r then some (V.bl true) else none) by simp only [hm], ← ih]
      unfold valV
      rw [List.map_cons, List.find?_cons_of_neg]
      simp only [tdK]
      intro h
      have h := of_decide_eq_true h
      injection h with h1 h2
      injection h2 with h2 _
      injection h1 with h1
      injection h2 with h2
      exact e (by rw [h1, h2])
/-- a pair put in -/
def putTd (ks : List (Int × Int)) (p : Int × Int) : List (Int × Int) := if p ∈ ks then ks else ks ++ [p]
theorem td_put (ks : List (Int × Int)) (i j : Int) : putK (ks.map tdK) [.inl i, .inl j] (.bl true) = (putTd ks (i, j)).map tdK := by
  have ha : ((ks.map tdK).any fun kv => decide (kv.1 = [.inl i, .inl j])) = decide ((i, j) ∈ ks) := by
    rw [Bool.eq_iff_iff, List.any_eq_true, decide_eq_true_eq]
    constructor
    · rintro ⟨x, hx, e⟩
      obtain ⟨⟨a, b⟩, hp, rfl⟩ := List.mem_map.mp hx
      rw [decide_eq_true_eq] at e
      have e : [Sum.inl a, Sum.inl b] = ([.inl i, .inl j] : List Key) := e
      injection e with h1 h2
      injection h2 with h2 _
      injection h1 with h1
      injection h2 with h2
      rw [← h1, ← h2]; exact hp
    · intro h
      exact ⟨tdK (i, j), List.mem_map.mpr ⟨_, h, rfl⟩, decide_eq_true rfl⟩
  unfold putK putTd
  rw [ha]
  by_cases h : (i, j) ∈ ks
  · rw [if_pos (decide_eq_true h), if_pos h, List.map_map]
    refine List.map_congr_left fun p hp => ?_
    show (if (tdK p).1 = [.inl i, .inl j] then ((tdK p).1, V.bl true) else tdK p) = tdK p
    split <;> rfl
  · rw [if_neg (by simpa using h), if_neg h, List.map_append]; rfl
section
variable {P : Par} {X : Cx} {x1 : Nat} {pos x2 : Pos} {o i e value : Expr} {es : List Expr} {ta : WTA} {to te : WTE}
/-- {}, to be such a dict -/
def wTdnew : WTE := fun _ G Q _ => ∀ p, G p = none → Q (.ref p) (updG G p (.td []))
theorem je_tdnew : JE P X (.Dict [] [] pos) wTdnew := je_of pe_dnewT fun σw G σ H Qw Q Ew rs rp ht hq p hp =>
  hq _ _ _ _ (.new hp) (.ref p) (rp.put (u := .td []) (.new hp) upd_same) (ht p (rp.free hp))
/-- (a, b) in d -/
def wTdin (b : Bool) (ta : WTA) (to : WTE) : WTE := fun σ G Q E => ta σ G (fun ws G1 => ∃ i j, ws = [.int i, .int j] ∧ to σ G1 (fun x G2 => ∃ a ks, x = .ref a ∧ G2 a = some (.td ks) ∧ Q (.bl (if b then decide ((i, j) ∈ ks) else !decide ((i, j) ∈ ks))) G2) E) E
theorem td_some (ks : List (Int × Int)) (i j : Int) : (valV (ks.map tdK) [.inl i, .inl j]).isSome = decide ((i, j) ∈ ks) := by
  rw [td_val]; split <;> simp [*]
theorem tdin_step {Ga : WHp} {Ha : Hp} {Ew : WXK} : ∀ σ H Q, embE P Ga Ha Ew (wTdin true ta to) σ H Q → tDIn (tTup (embA P Ga Ha Ew ta)) (embE P Ga Ha Ew to) σ H Q :=
  fun σ H Q ⟨σw, G, Qw, fa, rs, rp, ht, hq⟩ => ⟨σw, G, _, fa, rs, rp, ht, fun ws G1 vs H1 f1 r1 p1 ⟨i, j, ew, h1⟩ => by
    subst ew
    obtain ⟨v1, v2, rfl⟩ : ∃ v1 v2, vs = [v1, v2] := by cases r1 with | cons _ _ _ _ _ r => cases r with | cons _ _ _ _ _ r => cases r; exact ⟨_, _, rfl⟩
    refine ⟨by show 2 ≤ sizeLine; rw [sizeLine_eq]; omega, fun p hp => ⟨σw, G1, _, fa.trans (f1.trans (.hid hp)), (rs.fw rp f1).fw p1 (.hid hp), p1.hid hp, h1, fun w2 G2 v3 H2 f2 r2 p2 ⟨a, ks, e2, e3, q⟩ => ?_⟩⟩
    subst e2
    cases r2
    have e1 : v1 = .int i ∧ v2 = .int j := by cases r1 with | cons _ _ _ _ h r => cases h; cases r with | cons _ _ _ _ h r => cases h; exact ⟨rfl, rfl⟩
    obtain ⟨rfl, rfl⟩ := e1
    have eb := (f2 p _ upd_same rfl (p1.free hp)).1
    have ed : H2 a = some (.dT (ks.map tdK)) := p2 a _ e3
    refine ⟨a, _, rfl, DGet.t (k := [.inl i, .inl j]) ed eb, ?_⟩
    rw [td_some]
    exact hq _ G2 _ H2 (f1.trans ((Fw.hid hp).trans f2)) (.bl _) p2 q⟩
theorem tdnotin_step {Ga : WHp} {Ha : Hp} {Ew : WXK} : ∀ σ H Q, embE P Ga Ha Ew (wTdin false ta to) σ H Q → tDNotIn (tTup (embA P Ga Ha Ew ta)) (embE P Ga Ha Ew to) σ H Q :=
  fun σ H Q ⟨σw, G, Qw, fa, rs, rp, ht, hq⟩ => ⟨σw, G, _, fa, rs, rp, ht, fun ws G1 vs H1 f1 r1 p1 ⟨i, j, ew, h1⟩ => by
    subst ew
    obtain ⟨v1, v2, rfl⟩ : ∃ v1 v2, vs = [v1, v2] := by cases r1 with | cons _ _ _ _ _ r => cases r with | cons _ _ _ _ _ r => cases r; exact ⟨_, _, rfl⟩
    refine ⟨by show 2 ≤ sizeLine; rw [sizeLine_eq]; omega, fun p hp => ⟨σw, G1, _, fa.trans (f1.trans (.hid hp)), (rs.fw rp f1).fw p1 (.hid hp), p1.hid hp, h1, fun w2 G2 v3 H2 f2 r2 p2 ⟨a, ks, e2, e3, q⟩ => ?_⟩⟩
    subst e2
    cases r2
    have e1 : v1 = .int i ∧ v2 = .int j := by cases r1 with | cons _ _ _ _ h r => cases h; cases r with | cons _ _ _ _ h r => cases h; exact ⟨rfl, rfl⟩
    obtain ⟨rfl, rfl⟩ := e1
    have eb := (f2 p _ upd_same rfl (p1.free hp)).1
    have ed : H2 a = some (.dT (ks.map tdK)) := p2 a _ e3
    refine ⟨a, _, rfl, DGet.t (k := [.inl i, .inl j]) ed eb, ?_⟩
    rw [td_some]
    exact hq _ G2 _ H2 (f1.trans ((Fw.hid hp).trans f2)) (.bl _) p2 q⟩
theorem je_tdin (hu : X.A.units + 1 < cLine) (ha : JA P X es ta) (ho : JE P X o to) (hm : behindInMarks .In o = false := by first | exact nobehind _ (by decide) (by decide) | rfl) : JE P X (.Compare (.Tuple es x1 x2) [.In] [o] pos) (wTdin true ta to) := fun Ga Ha Ew tk =>
  PE.imp (pe_cmp (pc_din hu (pe_tup (ha Ga Ha Ew tk)) (ho Ga Ha Ew tk)) hm) tdin_step
theorem je_tdnotin (hu : X.A.units + 1 < cLine) (ha : JA P X es ta) (ho : JE P X o to) (hm : behindInMarks .NotIn o = false := by first | exact nobehind _ (by decide) (by decide) | rfl) : JE P X (.Compare (.Tuple es x1 x2) [.NotIn] [o] pos) (wTdin false ta to) := fun Ga Ha Ew tk =>
  PE.imp (pe_cmp (pc_dnotin hu (pe_tup (ha Ga Ha Ew tk)) (ho Ga Ha Ew tk)) hm) tdnotin_step
theorem jt_tdin (hu : X.A.units + 1 < cLine) (ha : JA P X es ta) (ho : JE P X o to) (hm : behindInMarks .In o = false := by first | exact nobehind _ (by decide) (by decide) | rfl) : JT P X (.Compare (.Tuple es x1 x2) [.In] [o] pos) (wTest (wTdin true ta to)) := fun Ga Ha Ew tk =>
  PT.imp (pt_cmp (pc_din hu (pe_tup (ha Ga Ha Ew tk)) (ho Ga Ha Ew tk)) hm) fun σ H Q h => tdin_step σ H _ (test_emb σ H Q h)
theorem jt_tdnotin (hu : X.A.units + 1 < cLine) (ha : JA P X es ta) (ho : JE P X o to) (hm : behindInMarks .NotIn o = false := by first | exact nobehind _ (by decide) (by decide) | rfl) : JT P X (.Compare (.Tuple es x1 x2) [.NotIn] [o] pos) (wTest (wTdin false ta to)) := fun Ga Ha Ew tk =>
  PT.imp (pt_cmp (pc_dnotin hu (pe_tup (ha Ga Ha Ew tk)) (ho Ga Ha Ew tk)) hm) fun σ H Q h => tdnotin_step σ H _ (test_emb σ H Q h)
/-- d[(a, b)] = True -/
def wTdput (to : WTE) (ta : WTA) (te : WTE) : WTS := fun D σ G E => te σ G (fun v G1 => to σ G1 (fun x G2 => ta σ G2 (fun ws G3 => ∃ p ks i j, v = .bl true ∧ x = .ref p ∧ ws = [.int i, .int j] ∧ G3 p = some (.td ks) ∧ ks.length < big ∧ D.nx σ (updG G3 p (.td (putTd ks (i, j))))) E) E) E
theorem js_tdput {pos' : Pos} (hu : X.A.units + 1 < cLine) (ho : JE P X o to) (ha : JA P X es ta) (he : JE P X e te) (hs : swapsWith e (some (.Subscript o (.Tuple es x1 x2) pos')) pos.line X.env = pure false := by rfl) : JS P X (.Assign [.Subscript o (.Tuple es x1 x2) pos'] e pos) (wTdput to ta te) := fun Ga Ha Ew tk =>
  PS.imp (ps_dput hu (ho Ga Ha Ew tk) (pe_tup (ha Ga Ha Ew tk)) (he Ga Ha Ew tk) hs) fun D σ H ⟨σw, G, Dw, fa, rs, rp, ht, h1, h2, h3, h4⟩ => ⟨σw, G, _, fa, rs, rp, ht, fun y G1 v H1 f1 r1 p1 q1 => ⟨σw, G1, _, fa.trans f1, rs.fw rp f1, p1, q1, fun w G2 v2 H2 f2 r2 p2 q2 => ⟨σw, G2, _, fa.trans (f1.trans f2), (rs.fw rp f1).fw p1 f2, p2, q2, fun ws G3 vs H3 f3 r3 p3 ⟨p, ks, i, j, e1, e2, e3, e4, hl, q⟩ => by
    subst e1; subst e2; subst e3
    cases r1
    cases r2
    obtain ⟨v1, v2, rfl⟩ : ∃ v1 v2, vs = [v1, v2] := by cases r3 with | cons _ _ _ _ _ r => cases r with | cons _ _ _ _ _ r => cases r; exact ⟨_, _, rfl⟩
    have e5 : v1 = .int i ∧ v2 = .int j := by cases r3 with | cons _ _ _ _ h r => cases h; cases r with | cons _ _ _ _ h r => cases h; exact ⟨rfl, rfl⟩
    obtain ⟨rfl, rfl⟩ := e5
    refine ⟨by show 2 ≤ sizeLine; rw [sizeLine_eq]; omega, fun t ht => ?_⟩
    have h : H3 p = some (.dT (ks.map tdK)) := p3 p _ e4
    have hne : p ≠ t := fun z => by rw [z, ht] at h; cases h
    have hb : upd H3 t (.tup [.int i, .int j]) p = some (.dT (ks.map tdK)) := by rw [upd_ne hne]; exact h
    refine ⟨p, _, rfl, DPut.t (k := [.inl i, .inl j]) hb upd_same (by rw [List.length_map, big_eq]; exact hl), ?_⟩
    rw [td_put]
    have fh : Fw G3 H3 G3 (upd H3 t (.tup [.int i, .int j])) := .hid ht
    have ph := p3.hid (o := .tup [.int i, .int j]) ht
    have f : Fw G3 (upd H3 t (.tup [.int i, .int j])) (updG G3 p (.td (putTd ks (i, j)))) (upd (upd H3 t (.tup [.int i, .int j])) p (.dT ((putTd ks (i, j)).map tdK))) := .put e4
    exact h1 σw _ σ _ (f1.trans (f2.trans (f3.trans (fh.trans f)))) (((((rs.fw rp f1).fw p1 f2).fw p2 f3).fw p3 fh).fw ph f) (ph.put (u := .td (putTd ks (i, j))) f upd_same) q⟩⟩⟩
end
end Lw
/-! W43: a copy of a dict of pairs. -/
namespace Lw
open PySem PySem.Spec PyProof.Rows L2
section
variable {prog : Program} {w : World} {A : Around} {E : Value → Shared → Prop} {K : Type} [DecidableEq K] {knd : HeapKind prog w K} {s : Shared}
theorem call_dict_H {o : Addr} {more : List (K × Addr × Value)} {Q : Value → Shared → Prop} (hu : knd.room A.in1.in1) (hoS : (o == sysModules) = false) (ho : s.heap.DictOfH knd o more) (hst : ∀ x ∈ more, knd.is (s.heap.push { cls := .type "dict", data := .dict #[] }) x.1 x.2.1) (hsz : more.length ≤ sizeLine)
    (hty : ∀ x ∈ more, s.TypeIs (.ref x.2.1) "tuple") (hap : (more.map fun x => knd.hash x.1).Nodup)
    (h : ∀ h', h'.DictOfH knd s.heap.objs.size (storedAllH [] more) → Heap.SameBut s.heap.objs.size (s.heap.push { cls := .type "dict", data := .dict #[] }) h' → Q (.ref s.heap.objs.size) { s with heap := h' }) :
    wpAny (model prog w) A (call (.type "dict") [.ref o]) Q E s := by
  refine callType_codes (Q₁ := fun obj s₁ => obj = .ref s.heap.objs.size ∧ s₁ = { s with heap := s.heap.push { cls := .type "dict", data := .dict #[] } }) PySem.F.kt_called_dict (PySem.F.kt_typeCall_dict_1 _) PySem.F.entry_dict_init (kt_code_dict_new _ ⟨rfl, rfl⟩) ?_
  rintro obj s₁ ⟨rfl, rfl⟩
  have hnew : (s.heap.push { cls := .type "dict", data := .dict #[] }).DictOfH knd s.heap.objs.size [] := ⟨_, #[], 0, Heap.get?_push_size _ rfl, ⟨rfl, rfl, rfl⟩, rfl, rfl, (fun x hx => by cases hx), List.nodup_nil⟩
  have k0 : ∀ b o, s.heap.get? b = some o → (s.heap.push { cls := .type "dict", data := .dict #[] }).get? b = some o := fun b o e => Heap.get?_push_of_some _ e
  have ho' : (s.heap.push { cls := .type "dict", data := .dict #[] }).DictOfH knd o more := ho.at' (fun u e => k0 _ _ e) hst
  have hdo : s.heap.objs.size ≠ o := by
    have := ho.lt_size
    exact fun e => absurd this (by rw [e]; exact Nat.lt_irrefl _)
  refine ⟨hnew.typeIs, PySem.F.args_dict_init_2 _ _, ?_⟩
  unfold Builtin.«dict.__init__»
  refine wpAny_bind ?_
  unfold Builtin.Dict.selfAndRest
  refine wpAny_bind (wpAny_notOrdered_dict hnew.typeIs ?_)
  show wpAny _ _ (pure (s.heap.objs.size, [Value.ref o])) _ _ _
  refine wpAny_pure ?_
  show wpAny _ _ (Builtin.Dict.updateFrom "dict.__init__" s.heap.objs.size (.ref o) [] .none) _ _ _
  exact updateFrom_dictH (R := wants (fun r s₂ => r = .none ∧ Q (.ref s.heap.objs.size) s₂) E) .none hu hdo hoS hnew ho' (.inr ⟨fun x hx => let ⟨ob, e, c⟩ := hty x hx; ⟨ob, k0 _ _ e, c⟩, hap⟩) (by simpa using hsz) fun h' hd' ho2 hs => ⟨rfl, h h' hd' hs⟩
end
def tdH (i j : Int) : Int := reduceHash (Builtin.Tuple.tupleHashOf [hashInt i, hashInt j])
def tdT : List Int := [-8458139203682520985, -1950498447580522560, 7204814214171964562, -4734289103435588629, 1773351652666409796, -5164621852614943976, 8389048192121911274, -3550055125485641917, -1440771752368011620, -6333845781340707986, 4685526799349444076, 6794810172467074373, 1901736143494378007, 8409376899596376432, 3516302870623680066, 2248468952609198383, 8756109708711196808, 3863035679738500442, 5972319052856130739, 1079245023883434373, -6348126469135965181, 159514286966033244, -9131917124991031250, -2624276368889032825, 3883364387212965600]
theorem tdT_nd : tdT.Nodup := by decide +kernel
theorem tdT_at : ((List.range 5).all fun i => (List.range 5).all fun j => decide (tdH (i : Nat) (j : Nat) = tdT.getD (5 * i + j) 0)) = true := by decide +kernel
theorem tdH_inj {i j k l : Int} (h1 : 0 ≤ i ∧ i < 5) (h2 : 0 ≤ j ∧ j < 5) (h3 : 0 ≤ k ∧ k < 5) (h4 : 0 ≤ l ∧ l < 5) (h : tdH i j = tdH k l) : i = k ∧ j = l := by
  obtain ⟨i, rfl⟩ := Int.eq_ofNat_of_zero_le h1.1
  obtain ⟨j, rfl⟩ := Int.eq_ofNat_of_zero_le h2.1
  obtain ⟨k, rfl⟩ := Int.eq_ofNat_of_zero_le h3.1
  obtain ⟨l, rfl⟩ := Int.eq_ofNat_of_zero_le h4.1
  have a := of_decide_eq_true (List.all_eq_true.mp (List.all_eq_true.mp tdT_at i (List.mem_range.mpr (by omega))) j (List.mem_range.mpr (by omega)))
  have b := of_decide_eq_true (List.all_eq_true.mp (List.all_eq_true.mp tdT_at k (List.mem_range.mpr (by omega))) l (List.mem_range.mpr (by omega)))
  have hl : tdT.length = 25 := rfl
  have e : tdT.getD (5 * i + j) 0 = tdT.getD (5 * k + l) 0 := by rw [← a, ← b]; exact h
  have l1 : 5 * i + j < tdT.length := by omega
  have l2 : 5 * k + l < tdT.length := by omega
  have e2 : tdT[5 * i + j]? = tdT[5 * k + l]? := by
    rw [List.getD, List.getD, List.getElem?_eq_getElem l1, List.getElem?_eq_getElem l2] at e
    rw [List.getElem?_eq_getElem l1, List.getElem?_eq_getElem l2]
    exact congrArg some e
  have := (List.getElem?_inj l1 tdT_nd).mp e2
  omega
def PairsOk (ks : List (Int × Int)) : Prop := ks.Nodup ∧ ∀ p ∈ ks, (0 ≤ p.1 ∧ p.1 < 5) ∧ 0 ≤ p.2 ∧ p.2 < 5
theorem tk_hash {prog : Program} {w : World} (i j : Int) : tupleKeyHash (mixKind prog w) [.inl i, .inl j] = tdH i j := by
  unfold tupleKeyHash tdH
  have e : List.map (mixKind prog w).hash [Sum.inl i, Sum.inl j] = [hashInt i, hashInt j] := rfl
  rw [e]
theorem pairs_tdH {ks : List (Int × Int)} (h : PairsOk ks) : (ks.map fun p => tdH p.1 p.2).Nodup := by
  obtain ⟨nd, hin⟩ := h
  refine List.pairwise_map.mpr (List.Pairwise.imp_of_mem (fun {a b} ha hb hne e => ?_) nd)
  obtain ⟨e1, e2⟩ := tdH_inj (hin a ha).1 (hin a ha).2 (hin b hb).1 (hin b hb).2 e
  exact hne (Prod.ext e1 e2)
theorem pairs_hash {prog : Program} {w : World} {ks : List (Int × Int)} (h : PairsOk ks) : ((ks.map fun p => ([.inl p.1, .inl p.2] : List Key)).map fun k => tupleKeyHash (mixKind prog w) k).Nodup := by
  have e : ((ks.map fun p => ([.inl p.1, .inl p.2] : List Key)).map fun k => tupleKeyHash (mixKind prog w) k) = ks.map fun p => tdH p.1 p.2 := by
    rw [List.map_map]
    refine List.map_congr_left fun p _ => ?_
    rw [Function.comp_apply, tk_hash]
  rw [e]
  exact pairs_tdH h
section
variable {X : Cx}
theorem kt_keys {H : Hp} : ∀ {ks : List (Int × Int)} {xs : List (List Key × Addr × Value)}, KT H (ks.map tdK) xs → xs.map (·.1) = ks.map fun p => ([.inl p.1, .inl p.2] : List Key) := by
  intro ks
  induction ks with
  | nil => intro xs r; cases r; rfl
  | cons p r ih =>
    intro xs q
    cases q with
    | cons hd tl => rw [List.map_cons, List.map_cons, ih tl, ← hd.1]; rfl
theorem call_dictTd (hu : X.A.units + 64 < cLine) : CallR X (.type "dict") (fun xs H Q => ∃ (a : Addr) (ks : List (Int × Int)), xs = [.ref a] ∧ H a = some (.dT (ks.map tdK)) ∧ PairsOk ks ∧ ∀ p, H p = none → Q (.ref p) (upd H p (.dT (ks.map tdK)))) := by
  intro pins s σ H xs us Q I r q
  obtain ⟨a, ks, ex, hd, hk, q⟩ := q
  subst ex
  obtain ⟨u, eu, rx⟩ := vals1 r
  subst eu
  cases rx
  obtain ⟨z, lo, vs, rel, dd⟩ := dt_of I.hok hd
  have hkeys := kt_keys rel
  have dd2 := dd
  obtain ⟨o, es, ep, ho, hx, hdt, he, his, hn⟩ := dd2
  refine call_dict_H (by show X.A.units + 1 + 1 < cLine; omega) lo dd (fun x hx => ?_) (by rw [← rel.length]; exact z) (fun x hx => ?_) ?_ fun h' d' hs => ?_
  · obtain ⟨o, items, n, e1, e2, e3, e4⟩ := his x hx
    exact ⟨o, items, n, Heap.get?_push_of_some _ e1, e2, e3, e4⟩
  · obtain ⟨o, items, n, e1, e2, e3, e4⟩ := his x hx
    exact ⟨o, e1, e2⟩
  · have := pairs_hash (prog := X.prog) (w := X.w) hk
    rw [← hkeys, List.map_map] at this
    exact this
  have hm : (s.heap.objs.size == sysModules) = false := beq_eq_false_iff_ne.mpr (Nat.ne_of_gt I.big)
  have hnone := I.hok.fresh (Nat.le_refl s.heap.objs.size)
  rw [storedAllH_nil_of_nodup _ hn] at d'
  obtain ⟨o', es', ep', ho', hx', hdt', he', his', hn'⟩ := d'
  exact ⟨.ref s.heap.objs.size, upd H s.heap.objs.size (.dT (ks.map tdK)), I.laid (t' := s.toks) (fun b u e => (hs.2 b (Nat.ne_of_lt (Heap.lt_size e))).trans (Heap.get?_push_of_some _ e)) (Nat.le_refl _)
    (show ObjOk X.prog X.w _ _ _ (.dT (ks.map tdK)) from ⟨z, hm, vs, rel.keeps fun b ys e => by rw [upd_ne (ne_of_none e hnone)]; exact e, o', es', ep', ho', hx', hdt', he', hn'⟩), rfl, q _ hnone⟩
/-- dict(d), a copy -/
def oDictTd : WRs := fun ws G Q => ∃ a ks, ws = [.ref a] ∧ G a = some (.td ks) ∧ PairsOk ks ∧ ∀ p, G p = none → Q (.ref p) (updG G p (.td ks))
theorem cw_dictTd {P : Par} (hu : X.A.units + 64 < cLine) : CallW P X (.type "dict") oDictTd := CallR.imp (call_dictTd hu) fun vs H Q ⟨ws, G, Qw, r, rp, ⟨a, ks, e0, e, hk, q⟩, hq⟩ => by
  subst e0
  obtain ⟨v, rfl, r1⟩ := r.one
  cases r1
  exact ⟨a, ks, rfl, rp a _ e, hk, fun p hp => hq _ _ _ _ (.new hp) (.ref p) (rp.put (u := .td ks) (.new hp) upd_same) (q p (rp.free hp))⟩
end
end Lw
/-! W44: a def within a def that leaves it: its making, its calls. -/
namespace Lw
open PySem PySem.Spec PyProof.Rows L2
theorem cellO_at {p : Program} {w : World} {H : Hp} {h : Heap} {c l : Addr} (hok : HOk p w H h) (e : H c = some (CellO c l)) : h.IsCell c (some (.ref l)) := (hok c _ e).1
theorem relWs_ints {P : Par} {G : WHp} {H : Hp} : ∀ {xs : List Int} {vs : List V}, RelWs P G H (xs.map W.int) vs → vs = xs.map V.int
  | [], _, .nil => rfl
  | x :: xs, _, .cons _ _ _ _ h r => by
    cases h
    rw [relWs_ints r]
    rfl
section
variable {P : Par} {X : Cx} {pins : List (Addr × Obj)} {σ : L2.St} {H : Hp} {s : Shared} {G : WHp}
/-- the object of the def is made; its code object is new, or found in the table -/
theorem clo_make {c T cc : Addr} {pos : Pos} {E : Value → Shared → Prop} {Q : Value → Shared → Prop} (I : Inv X pins σ H s) (rp : Rep P G H) (TB : LamX.TabB X.base X.mg c (P.ca 98)) (hcode : X.env.code = .ref c) (hT : G T = some .tab)
    (hq : X.env.qual ++ "come" = QN) (hcc : X.env.cells.lookup ("kept" : Str) = some cc) (hclo : ∀ cells, cloFrom cells (C8.fnScope P.nd).names [] = [(("kept" : Str), (cells.lookup ("kept" : Str)).getD 0)])
    (hfr : ∀ y ∈ (C8.fnScope P.nd).names, y.2 = .free → y.1 = "kept")
    (h : ∀ (f cd : Addr) (H1 : Hp) (s' : Shared), Inv X pins σ H1 s' → Fw G H G H1 → Rep P G H1 → G f = none → G cd = none → H1 f = some (NdefX.FnO f (P.nf cc cd)) → H1 cd = some (LamX.CodeO cd QN) → Q (.ref f) s') :
    wpAny (model X.prog X.w) X.A (makeFunction "come" (X.env.qual ++ "come") (C8.fnArgs P.nd) (.stmts (C8.fnBody P.nd)) (C8.fnScope P.nd) X.env [] [] [] pos pos.line) Q E s := by
  obtain ⟨e0, ps, hP, ht, ha⟩ := rp T _ hT
  subst e0
  have hfree : ∀ y ∈ (C8.fnScope P.nd).names, y.2 = .free → ∃ c, X.env.cells.lookup y.1 = some c := fun y hy e => ⟨cc, by rw [hfr y hy e]; exact hcc⟩
  have hF : ∀ cd, (⟨"come", X.env.qual ++ "come", C8.fnArgs P.nd, C8.fnBody P.nd, C8.fnScope P.nd, cloFrom X.env.cells (C8.fnScope P.nd).names [], cd⟩ : NdefX.NF) = P.nf cc cd := fun cd => by
    rw [hclo, hcc, hq]; rfl
  have bP : s.heap.BuiltinsAt X.mg (P.ca 98) := TB.bm.keeps I.bk
  have hP' : s.heap.get? (P.ca 98) = some { cls := .none, data := .fields ps } := I.hok _ _ hP
  cases hc : codeAmong pos ps.toList with
  | none =>
    refine PySem.W.makeFunction_K (mg := X.mg) (c := c) (P := P.ca 98) (ps := ps) (closure_ok hfree) I.ok.glob (I.mod.glob.keeps I.bk) hcode (TB.code.keeps I.bk) hP' ht hc TB.gP bP fun c' ctv doc h' tk hx hge hlt hrec htb => ?_
    obtain ⟨c2, oc, vs, t, e2, hoc, hd, hv⟩ := hrec
    cases e2
    have nC : H c' = none := I.hok.fresh hge
    have I1 := LamX.inv_table (t' := tk) (more := #[rawInt pos.line, rawInt pos.col, .ref c']) (h' := h') I hP (fun b o hb e => hx b o hb e) htb hge ⟨oc, vs, t, hoc, hd, hv⟩
    have nF := I1.hok.fresh (Nat.le_refl _)
    have nF0 : H h'.objs.size = none := I.hok.fresh (Nat.le_trans hge (Nat.le_of_lt hlt))
    have I2 := NdefX.inv_fn (F := ⟨"come", X.env.qual ++ "come", C8.fnArgs P.nd, C8.fnBody P.nd, C8.fnScope P.nd, cloFrom X.env.cells (C8.fnScope P.nd).names [], c'⟩) (t' := tk) (doc := doc) (pm := (X.mg "__name__").getD .none) (ctv := ctv) I1 rfl
    have I3 : Inv X pins σ (upd (upd (upd H (P.ca 98) (.tbl (ps ++ #[rawInt pos.line, rawInt pos.col, .ref c']))) c' (LamX.CodeO c' QN)) h'.objs.size (NdefX.FnO h'.objs.size (P.nf cc c'))) { s with heap := h'.push (PySem.W.fnMade "come" (X.env.qual ++ "come") (C8.fnArgs P.nd) (C8.fnBody P.nd) (C8.fnScope P.nd) (cloFrom X.env.cells (C8.fnScope P.nd).names []) doc ((X.mg "__name__").getD .none) c' ctv), toks := tk } := by
      rw [← hF, ← hq]
      exact I2
    have cf : c' ≠ h'.objs.size := Nat.ne_of_lt hlt
    have same : ∀ b, b ≠ P.ca 98 → b ≠ c' → b ≠ h'.objs.size → (upd (upd (upd H (P.ca 98) (.tbl (ps ++ #[rawInt pos.line, rawInt pos.col, .ref c']))) c' (LamX.CodeO c' QN)) h'.objs.size (NdefX.FnO h'.objs.size (P.nf cc c'))) b = H b := fun b h1 h2 h3 => by rw [upd_ne h3, upd_ne h2, upd_ne h1]
    have fw : Fw G H G (upd (upd (upd H (P.ca 98) (.tbl (ps ++ #[rawInt pos.line, rawInt pos.col, .ref c']))) c' (LamX.CodeO c' QN)) h'.objs.size (NdefX.FnO h'.objs.size (P.nf cc c'))) := fun a o e _ g =>
      ⟨by rw [same a (fun z => by rw [z, hT] at g; cases g) (ne_of_none e nC) (ne_of_none e nF0)]; exact e, g⟩
    refine h _ _ _ _ I3 fw (fun a o e => ?_) (rp.free nF0) (rp.free nC) upd_same ((upd_ne cf).trans upd_same)
    by_cases ea : a = P.ca 98
    · subst ea
      rw [hT] at e
      cases e
      have eL : (ps ++ #[rawInt pos.line, rawInt pos.col, .ref c']).toList = ps.toList ++ [rawInt pos.line, rawInt pos.col, .ref c'] := by simp
      refine ⟨rfl, _, by rw [upd_ne (ne_of_none hP nF0), upd_ne (ne_of_none hP nC), upd_same], by rw [eL]; exact PySem.TriplesOk_snoc _ _ _ _ ht, fun p' cv hcv => ?_⟩
      rw [eL] at hcv
      rcases NdefX.among_app2 _ ht hcv with z | ⟨z, _, _⟩
      · obtain ⟨c0, e1, e2, e3⟩ := ha p' cv z
        exact ⟨c0, e1, (fw c0 _ e2 rfl e3).1, e3⟩
      · exact ⟨c', z, (upd_ne cf).trans upd_same, rp.free nC⟩
    · exact (rp a o e).fw rp fw (same a ea (fun z => by rw [z, rp.free nC] at e; cases e) fun z => by rw [z, rp.free nF0] at e; cases e)
  | some cv =>
    obtain ⟨c', e, hco, hg⟩ := ha pos cv hc
    subst e
    refine PySem.W.makeFunction_hit (mg := X.mg) (c := c) (P := P.ca 98) (ps := ps) (closure_ok hfree) I.ok.glob (I.mod.glob.keeps I.bk) hcode (TB.code.keeps I.bk) hP' ht hc bP fun ctv doc h' tk hx hsz => ?_
    have I1 : Inv X pins σ H { s with heap := h', toks := tk } := I.kept hx
    have nF : H h'.objs.size = none := I1.hok.fresh (Nat.le_refl _)
    have I2 := NdefX.inv_fn (F := ⟨"come", X.env.qual ++ "come", C8.fnArgs P.nd, C8.fnBody P.nd, C8.fnScope P.nd, cloFrom X.env.cells (C8.fnScope P.nd).names [], c'⟩) (t' := tk) (doc := doc) (pm := (X.mg "__name__").getD .none) (ctv := ctv) I1 rfl
    have I3 : Inv X pins σ (upd H h'.objs.size (NdefX.FnO h'.objs.size (P.nf cc c'))) { s with heap := h'.push (PySem.W.fnMade "come" (X.env.qual ++ "come") (C8.fnArgs P.nd) (C8.fnBody P.nd) (C8.fnScope P.nd) (cloFrom X.env.cells (C8.fnScope P.nd).names []) doc ((X.mg "__name__").getD .none) c' ctv), toks := tk } := by
      rw [← hF]
      exact I2
    exact h _ _ _ _ I3 (.hid nF) (rp.hid nF) (rp.free nF) hg upd_same ((upd_ne (ne_of_none hco nF)).trans hco)
/-- what is known of the def's text -/
structure NdOk (nd : Stmt) : Prop where
  st : ∃ pos, nd = .FunctionDef "come" (C8.fnArgs nd) (C8.fnBody nd) [] none [] (C8.fnScope nd) none "come" pos
  clo : ∀ cells, cloFrom cells (C8.fnScope nd).names [] = [(("kept" : Str), (cells.lookup ("kept" : Str)).getD 0)]
  free : ∀ y ∈ (C8.fnScope nd).names, y.2 = .free → y.1 = "kept"
  df : (C8.fnArgs nd).defaults = []
  kw : (C8.fnArgs nd).kw_defaults = []
  an : ∀ env, annTrees (C8.fnArgs nd) none env = []
/-- the body of the def around: the list kept, the def, the return -/
theorem clo_body {st1 : Stmt} {p3 pos3 : Pos} {t : WTE} {i j : Nat} {σw : WSt} {xs : List Int} {c T : Addr} {cc : Addr} (ND : NdOk P.nd) (I : Inv X pins σ H s) (rs : RelSt P G H σw σ) (rp : Rep P G H) (hT : G T = some .tab)
    (TB : LamX.TabB X.base X.mg c (P.ca 98)) (hcode : X.env.code = .ref c) (hq : X.env.qual ++ "come" = QN) (hcc : X.env.cells.lookup ("kept" : Str) = some cc) (hN : X.N.Nodup) (hi : X.N[i]? = some "kept") (hj : X.N[j]? = some "come") (hij : i ≠ j)
    (hk : X.env.scope.names.lookup ("kept" : Str) = some .cell) (hl : X.env.scope.names.lookup ("come" : Str) = some .local) (h1 : JS P X st1 (wAsg t (wN i))) (hil : i < σw.length)
    (ht : t σw G (fun w G' => w = .il (xs.map W.int) ∧ G' = G) noX) :
    wpAny (model X.prog X.w) X.A (execs [st1, P.nd, .Return (some (.Name "come" p3)) pos3] X.env) (fun fl s' => ∃ f cd l σ' H', fl = .ret (.ref f) ∧ Inv X pins σ' H' s' ∧ Fw G H G H' ∧ Rep P G H' ∧ G f = none ∧ G cd = none ∧
      H' f = some (NdefX.FnO f (P.nf cc cd)) ∧ H' cd = some (LamX.CodeO cd QN) ∧ s'.heap.IsCell cc (some (.ref l)) ∧ RoL G H' l (xs.map V.int)) X.xe s := by
  obtain ⟨⟨pos, hnd⟩, clo, free, df, kw, an⟩ := ND
  have r1 := (h1 G H noX takesF).run pins s σ H { nx := fun σ1 H1 => ∃ l, σ1[i]? = some (some (.ref l)) ∧ Fw G H G H1 ∧ Rep P G H1 ∧ RoL G H1 l (xs.map V.int), rt := fun _ _ => False } I
    ⟨σw, G, { nx := fun σ1 G1 => wGet σ1 i = some (.il (xs.map W.int)) ∧ G1 = G, rt := fun _ _ => False, bk := fun _ _ => False, ct := fun _ _ => False }, .refl _ _, rs, rp, ?_, fun σ1 G1 σ2 H2 f2 rs2 rp2 ⟨e1, e2⟩ => ?_, fun _ _ _ _ _ _ _ q => q, fun _ _ _ _ _ _ _ q => q, fun _ _ _ _ _ _ _ q => q⟩
  rotate_left
  · show t σw G (fun x G1 => wN i x σw G1 _ noX) noX
    have e : (fun (x : W) (G1 : WHp) => wN i x σw G1 (fun (σ1 : WSt) (G1 : WHp) => wGet σ1 i = some (.il (xs.map W.int)) ∧ G1 = G) noX) = (fun x G1 => wGet (σw.set i (some x)) i = some (.il (xs.map W.int)) ∧ G1 = G) := rfl
    rw [e]
    have gs : ∀ (l : WSt) (i : Nat) (w : W), i < l.length → wGet (l.set i (some w)) i = some w := by
      intro l
      induction l with
      | nil => intro i w h; simp at h
      | cons o r ih =>
        intro i w h
        cases i with
        | zero => rfl
        | succ i => exact ih i w (by simpa using h)
    have e2 : (fun (x : W) (G1 : WHp) => wGet (σw.set i (some x)) i = some (.il (xs.map W.int)) ∧ G1 = G) = (fun w G' => w = .il (xs.map W.int) ∧ G' = G) := by
      funext w G'
      rw [gs σw i w hil]
      simp
    rw [e2]
    exact ht
  · subst e2
    obtain ⟨v, hv, rv⟩ := rs2.get e1
    cases rv with
    | il a vs ws h r =>
      have e3 : vs = xs.map V.int := relWs_ints r
      subst e3
      exact ⟨a, hv, f2, rp2, h⟩
  refine wpAny_execs_cons (thn r1 fun fl s1 q => ?_)
  cases fl with
  | ret v => obtain ⟨_, _, _, _, _, q⟩ := q; exact q.elim
  | brk => obtain ⟨_, _, _, q⟩ := q; exact q.elim
  | cont => obtain ⟨_, _, _, q⟩ := q; exact q.elim
  | next =>
    obtain ⟨σ1, H1, I1, l, hl1, f1, rp1, rl1⟩ := q
    rw [show ([P.nd, .Return (some (.Name "come" p3)) pos3] : List Stmt) = [.FunctionDef "come" (C8.fnArgs P.nd) (C8.fnBody P.nd) [] none [] (C8.fnScope P.nd) none "come" pos, .Return (some (.Name "come" p3)) pos3] by rw [← hnd]]
    refine wpAny_execs_cons (PySem.W.nestDef_K df kw (an _) ?_)
    have hq2 : qualnameIn X.env "come" "come" = X.env.qual ++ "come" := by
      have hk : X.env.kindOf "come" = some .local := hl
      unfold qualnameIn
      rw [hk]
      first | rfl | exact if_neg (by decide)
    rw [hq2]
    refine clo_make I1 rp1 TB hcode hT hq hcc clo free fun f cd H2 s2 I2 f2 rp2 gf gc e1 e2 => ?_
    refine store_ok I2 hN hj (.inl hl) (v := .ref f) rfl (fun s3 I3 => ?_) (.inr hl)
    refine wpAny_execs_cons (wpAny_Return_some (thn ((pe_var (pos := p3) hj (.inl hl) (by decide) (by decide)).run pins s3 _ H2 (fun v H' => v = .ref f ∧ H' = H2) I3 ⟨.ref f, ?_, rfl, rfl⟩) fun u s4 ⟨v, H', I4, rv, ev, eH⟩ => ?_))
    · have hjl : j < σ1.length := by rw [I2.len]; exact (List.getElem?_eq_some_iff.mp hj).1
      simp [hjl]
    · subst ev
      rw [eH] at I4
      obtain rfl : u = Value.ref f := rv
      obtain ⟨m, _, hm⟩ := I4.loc
      have h4 : (σ1.set j (some (.ref f)))[i]? = some (some (.ref l)) := by
        rw [List.getElem?_set_ne (Ne.symm hij)]
        exact hl1
      obtain ⟨u, ru, lk⟩ := hm i "kept" _ hi h4 (.inr (.inl hk))
      obtain rfl : u = Value.ref l := ru
      rcases lk with ⟨z, _⟩ | ⟨_, c1, z1, z2⟩
      · have z : X.env.scope.names.lookup ("kept" : Str) = some .local := z
        rw [hk] at z
        cases z
      · rw [hcc] at z1
        cases z1
        exact ⟨f, cd, l, _, H2, rfl, I4, f1.trans f2, rp2, gf, gc, e1, e2, z2, rl1.fw f2⟩
end
/-- what the def around promises -/
def spClo : WSp := fun ws G Q E => ∃ w xs T, ws = [w] ∧ sqT G w = some (xs.map W.int) ∧ G T = some .tab ∧ Q (.clo xs) G
theorem len_spClo : ∀ ws G Q E, spClo ws G Q E → ws.length = (["comings"] : List Str).length := fun ws G Q E ⟨_, _, _, h, _⟩ => by rw [h]; rfl

section
variable {P : Par} {f : Addr} {fd : FuncData} {x : Str} {p pos : Pos} {e : Expr} {es : List Expr}
/-- the def around, by its body -/
theorem Fun.okClo {k : Nat} {N : List Str} {prog : Program} {w : World} {mg : Str → Option Value} {base : Heap} {st st1 : Stmt} {p3 pos3 : Pos} {i j : Nat} {te : WTE} {c : Addr} (F : Fun P.K "coming_by" "coming_by" st f fd) (S : FnScope N ["comings"] (defScope st)) (ND : NdOk P.nd)
    (hi : N[i]? = some "kept") (hj : N[j]? = some "come") (hij : i ≠ j) (hbody : defBody st = [st1, P.nd, .Return (some (.Name "come" p3)) pos3]) (hk : (defScope st).names.lookup ("kept" : Str) = some .cell) (hl : (defScope st).names.lookup ("come" : Str) = some .local)
    (hcd : fd.code = .ref c) (TB : LamX.TabB base mg c (P.ca 98))
    (h1 : ∀ cdv A outer s H E, JS P (cxOf (L2.CX prog w) prog w P.K mg base N "coming_by" (defScope st) f cdv A outer s H E) st1 (wAsg te (wN i)))
    (ht : ∀ (wv : W) (xs : List Int) (G : WHp), sqT G wv = some (xs.map W.int) → te (wStart N [wv]) G (fun w G' => w = .il (xs.map W.int) ∧ G' = G) noX) : FnW P prog w mg base (k + 1) f fd ["comings"] spClo := by
  obtain ⟨oc, od, kV, doc, pm, an, cdv, ct, osl, rfl, lk, hcdI⟩ := F.ex
  obtain rfl : cdv = .ref c := hcd
  refine ⟨fun vs H Q E h => ?_, fun A outer s H args us vs Q E hr e0 hb r hsp => ?_⟩
  · obtain ⟨ws, G, Qw, Ew, r, _, h, _⟩ := h
    rw [← r.length]
    exact len_spClo _ _ _ _ h
  obtain ⟨ws, G, Qw, Ew, rw_, rp, ⟨wv, xs, T, hws, hxs, hT, hQ⟩, hq, hE⟩ := hsp
  subst hws
  have hl1 : vs.length = (["comings"] : List Str).length := by rw [← rw_.length]; rfl
  have KX : P.K.In s.heap := e0.mod.kin.keeps fun b o e => (e0.bs b o e).1
  have lim : s.heap.NoLimit := e0.mod.nolimit.keeps fun b o e => (e0.bs b o e).1
  have hkind : ∀ y ∈ (["comings"] : List Str).zip us, (defScope st).names.lookup y.1 = some .local ∨ ((defScope st).names.lookup y.1 = some .cell ∧ ((cellsFrom (s.heap.objs.size + 1) (defScope st).names []).lookup y.1).isSome = true) := fun ⟨n, v⟩ hy => by
    rcases S.par n (List.of_mem_zip hy).1 with q | q
    · exact .inl q
    · exact .inr ⟨q, PySem.W.cellsFrom_some _ _ _ (.inl q)⟩
  refine codeAny_call_function hr.depth (KX _ _ lk) rfl S.co S.gen rfl (PySem.W.codeRec_of KX hcdI) (hb _ _ _ _ ?_)
  refine wpAny_newFunctionEnv_cells S.kind hkind fun env he s1 x => ?_
  subst he
  refine ⟨lim.keeps x.toInCall.keep, codeAny_func ?_⟩
  have I : Inv (cxOf (L2.CX prog w) prog w P.K mg base N "coming_by" (defScope st) f (.ref c) A outer s H E) [] (L2.start N vs) H s1 := inv_start S hr.hd e0 hl1 r x
  obtain ⟨cc, hcc⟩ : ∃ cc, (cxOf (L2.CX prog w) prog w P.K mg base N "coming_by" (defScope st) f (.ref c) A outer s H E).env.cells.lookup ("kept" : Str) = some cc := I.ok.has "kept" (.inl hk)
  have hiN : i < N.length := (List.getElem?_eq_some_iff.mp hi).1
  have rs : RelSt P G H (wStart N [wv]) (L2.start N vs) := by
    unfold wStart L2.start
    rw [rw_.length]
    exact RelSt.start N _ rw_
  have hlen : i < (wStart N [wv]).length := by
    unfold wStart
    simp
    omega
  rw [hbody]
  refine wpAny_mono (clo_body (p3 := p3) (pos3 := pos3) (c := c) ND I rs rp hT TB rfl (by exact (by decide +kernel : ("coming_by.<locals>." : Str) ++ "come" = QN)) hcc S.nd hi hj hij hk hl (h1 _ A outer s H E) hlen (ht wv xs G hxs)) (fun fl s' hs => ?_) fun e s' hs => hs
  obtain ⟨f', cd, l, σ', H', rfl, J, fw, rp', gf, gc, e1, e2, ic, rl⟩ := hs
  have nC : H' cc = none := J.freeC _ _ hcc
  have fresh : s.heap.get? cc = none := Heap.get?_none_of_le (J.ok.cab "kept" cc rfl hcc)
  have un : Un (frs outer) [] H H' s.heap s'.heap := J.base
  have fc : Fw G H' G (upd H' cc (CellO cc l)) := .hid nC
  refine ⟨.ref f', upd H' cc (CellO cc l), J.os, J.bare, ⟨un.keep, un.slot, fun b o q n hx => ?_, un.there, fun b xs q => ?_, fun b o u q => ?_, fun b ps q => ?_⟩, fun b u e => ?_, rfl, ?_⟩
  · rw [upd_ne (fun z => by rw [z, fresh] at q; cases q)]
    exact un.free b o q n hx
  · have z := un.tups b xs q
    rw [upd_ne (ne_of_none z nC)]
    exact z
  · have z := un.frzs b o u q
    rw [upd_ne (ne_of_none z nC)]
    exact z
  · obtain ⟨m, z⟩ := un.tbls b ps q
    exact ⟨m, by rw [upd_ne (ne_of_none z nC)]; exact z⟩
  · by_cases hb : b = cc
    · subst hb
      rw [upd_same] at e
      cases e
      obtain ⟨o, ho, hd⟩ := ic
      exact ⟨⟨o, ho, hd⟩, ⟨o, ho⟩, fun h1 h2 ⟨o1, q1, q2⟩ st => ⟨o1, st _ q1, q2⟩⟩
    · rw [upd_ne hb] at e
      exact (J.hok b u e).stay (fun c v _ q => q) (fun c q => by rw [upd_ne (ne_of_none q nC)]; exact q) fun c xs q => by rw [upd_ne (ne_of_none q nC)]; exact q
  · exact hq (.clo xs) G (.ref f') _ (fw.trans fc) (.clo f' cc cd l xs (fc f' _ e1 rfl gf).1 upd_same (fc cd _ e2 rfl gc).1 ⟨gf, rp'.free nC, gc⟩ (rl.fw fc)) (rp'.hid nC) hQ
end
/-! ### its calls -/
abbrev spCome : List (Option V) → Sp := fun ws vs H Q E => ∃ (l : Addr) (xs : List Int) (t v : Int), ws = [some (.ref l)] ∧ vs = [.int t] ∧ H l = some (.lst (xs.map V.int)) ∧ 0 < xs.length ∧ xs[(t % (xs.length : Int)).toNat]? = some v ∧ Q (.int v) H
def CloOk (P : Par) (prog : Program) (w : World) (mg : Str → Option Value) (base : Heap) : Prop := ∀ f c cd, NdefX.NOk prog w P.K mg base CX0 1 f (P.nf c cd) ["turn"] ["kept"] spCome
abbrev tCome (K : PySem.W.Frag) : TS := tRet (tOp (rIxL K) (tVar 1) (tOp (rI (fun _ j => 0 < j) fun i j => .int (i % j)) (tVar 0) (tCB (fun xs H Q => ∃ p ys, xs = [.ref p] ∧ (SqL K H p ys ∨ SqT K H p ys) ∧ Q (.int ys.length) H) (tCons (tVar 1) tNil))))
theorem come_pure {K : PySem.W.Frag} {ws : List (Option V)} {vs : List V} {H : Hp} {Q : VK} {E : XK} (h : spCome ws vs H Q E) : tCome K { nx := fun _ H' => Q .non H', rt := Q } (NdefX.startF ["turn", "kept"] vs ws) H := by
  obtain ⟨l, xs, t, v, rfl, rfl, hl, h0, hv, q⟩ := h
  have hm : 0 ≤ t % (xs.length : Int) := Int.emod_nonneg _ (by omega)
  have hm2 : t % (xs.length : Int) < xs.length := Int.emod_lt_of_pos _ (by omega)
  refine ⟨_, rfl, _, rfl, _, rfl, l, xs.map V.int, rfl, .inl (.of hl), t, _, rfl, rfl, by simp; omega, l, xs.map V.int, _, .int v, rfl, rfl, .of hl, ?_, q⟩
  unfold atI
  have e : ixN xs.length (t % (xs.length : Int)) = some (t % (xs.length : Int)).toNat := by
    unfold ixN
    rw [if_pos hm, if_pos (by omega)]
  simp only [List.length_map, e]
  simp [hv]
def wCallClo (tf te : WTE) : WTE := fun σ G Q E => tf σ G (fun x G1 => ∃ xs, x = .clo xs ∧ te σ G1 (fun y G2 => ∃ t v, y = .int t ∧ 0 < xs.length ∧ xs[(t % (xs.length : Int)).toNat]? = some v ∧ Q (.int v) G2) E) E
theorem delN {H : Hp} {c b : Addr} (h : H b = none) : delH H c b = none := by
  unfold delH
  split
  · rfl
  · exact h
section
variable {P : Par} {X : Cx} {fe e : Expr} {tf te : WTE} {pos : Pos}
theorem je_clo (C : CloOk P X.prog X.w X.mg X.base) (hr : Room 1 X.A) (hf : JE P X fe tf) (he : JE P X e te) (hK : X.K = P.K := by rfl)
    (ht : eval (.Call fe [e] [] pos) X.env = (do callWith pos (← eval fe X.env) [] (backTo pos (starEach [e] X.env)) (backToKw pos (keywordEach [] X.env))) := by rfl)
    (hst : starEach [e] X.env = (false, eval e X.env) :: starEach [] X.env := by rfl) (hpl : (backTo pos (starEach [] X.env)).any (·.1) = false := by rfl) : JE P X (.Call fe [e] [] pos) (wCallClo tf te) := fun Ga Ha Ew tk => by
  refine ⟨fun pins s σ H Q I h => ?_⟩
  obtain ⟨σw, G, Qw, fa, rs, rp, h1, hq⟩ := h
  have C1 : ∀ f c cd, NdefX.NOk X.prog X.w X.K X.mg X.base CX0 1 f (P.nf c cd) ["turn"] ["kept"] spCome := by rw [hK]; exact C
  rw [ht]
  refine wpAny_bind (thn ((hf Ga Ha Ew tk).run pins s σ H (fun v H1 => ∃ G1 xs, Fw G H G1 H1 ∧ Rep P G1 H1 ∧ RelW P G1 H1 (.clo xs) v ∧ te σw G1 (fun y G2 => ∃ t v, y = .int t ∧ 0 < xs.length ∧ xs[(t % (xs.length : Int)).toNat]? = some v ∧ Qw (.int v) G2) Ew) I
    ⟨σw, G, _, fa, rs, rp, h1, fun w G1 v H1 f1 r1 p1 ⟨xs, ex, q⟩ => ⟨G1, xs, f1, p1, by rw [← ex]; exact r1, q⟩⟩) fun u s1 ⟨v, H1, I1, rv, G1, xs, f1, p1, r1, h2⟩ => ?_)
  cases r1 with
  | clo f c cd l xs a1 a2 a3 g1 l1 =>
    obtain rfl : u = Value.ref f := rv
    refine PySem.W.callWith_F (first := []) (NdefX.fnAt_of I1 a1) (thn ((ja_cons he ja_nil hst Ga Ha Ew tk).run pos pins s1 σ H1 (fun vs H2 => ∃ G2 t v, Fw G1 H1 G2 H2 ∧ Rep P G2 H2 ∧ vs = [.int t] ∧ 0 < xs.length ∧ xs[(t % (xs.length : Int)).toNat]? = some v ∧ Qw (.int v) G2) I1
      ⟨σw, G1, fun ws G2 => ∃ t v, ws = [.int t] ∧ 0 < xs.length ∧ xs[(t % (xs.length : Int)).toNat]? = some v ∧ Qw (.int v) G2, fa.trans f1, rs.fw rp f1, p1, ?_, fun ws G2 vs H2 f2 r2 p2 ⟨t, v, e1, e2, e3, e4⟩ => ?_⟩) fun us s2 ⟨vs, H2, I2, rvs, G2, t, v, f2, p2, evs, h0, hv, q⟩ => ⟨NdefX.fnAt_of I2 (f2 f _ a1 rfl g1.1).1, ?_⟩) hst hpl
    · show te σw G1 (fun x G2 => ∃ t v, [x] = [W.int t] ∧ _) Ew
      have e : (fun (x : W) (G2 : WHp) => ∃ t v, [x] = [W.int t] ∧ 0 < xs.length ∧ xs[(t % (xs.length : Int)).toNat]? = some v ∧ Qw (.int v) G2) = (fun (y : W) (G2 : WHp) => ∃ t v, y = .int t ∧ 0 < xs.length ∧ xs[(t % (xs.length : Int)).toNat]? = some v ∧ Qw (.int v) G2) := by
        funext y G2
        simp
      rw [e]
      exact h2
    · subst e1
      cases r2 with
      | cons _ v1 _ vs1 ra rb =>
        cases ra
        cases rb
        exact ⟨G2, t, v, f2, p2, rfl, e2, e3, e4⟩
    · show wpAny _ _ (call (.ref f) us) _ _ _
      subst evs
      have b1 := (f2 f _ a1 rfl g1.1)
      have b2 := (f2 c _ a2 rfl g1.2.1)
      have b3 := (f2 cd _ a3 rfl g1.2.2)
      have b4 := l1.fw f2
      have ic : s2.heap.IsCell c (some (.ref l)) := cellO_at I2.hok b2.1
      have nfc : f ≠ c := fun z => by
        obtain ⟨od, sl, doc, pm, ctv, ho2⟩ := NdefX.fnO_at I2.hok b1.1
        obtain ⟨o, ho, hd⟩ := ic
        rw [z, ho] at ho2
        cases ho2
        cases hd
      have nlc : l ≠ c := fun z => by
        have z1 := b4.1
        rw [z, b2.1] at z1
        cases z1
      have ncc : cd ≠ c := fun z => by
        obtain ⟨oc, vs, t, q1, q2, _⟩ := (I2.hok cd _ b3.1).1
        obtain ⟨o, ho, hd⟩ := ic
        rw [z, ho] at q1
        cases q1
        rw [hd] at q2
        cases q2
      have e0 := I2.env0
      have hokd : HOk X.prog X.w (delH H2 c) s2.heap := fun b u e => by
        by_cases hb : b = c
        · rw [hb, delH_same] at e
          cases e
        · rw [delH_ne hb] at e
          exact (I2.hok b u e).stay (fun c v _ q => q) (fun d q => by rw [delH_ne (fun z => by rw [z, b2.1] at q; cases q)]; exact q) fun d xs q => by rw [delH_ne (fun z => by rw [z, b2.1] at q; cases q)]; exact q
      refine wpAny_call (codeAny_mono ((C1 f c cd).run X.A X.stack s2 (delH H2 c) us [.int t] [some (.ref l)] (fun v' H' => v' = .int v ∧ H' = delH H2 c) E0 hr
        ⟨e0.frames, e0.mod, fun b o e => ⟨(e0.bs b o e).1, delN (e0.bs b o e).2⟩, e0.bsz, e0.funs, fun b hb => delN (e0.frf b hb), hokd, e0.bare⟩ (by rw [delH_ne nfc]; exact b1.1) (by rw [show (P.nf c cd).c = cd from rfl, delH_ne ncc]; exact b3.1)
        ⟨rfl, fun y c' e => ?_, fun y z c' e1 e2 => ?_, fun i y e => ?_⟩ rvs ⟨l, xs, t, v, rfl, rfl, by rw [delH_ne nlc]; exact b4.1, h0, hv, rfl, rfl⟩) fun r s' hq' => ?_)
      · have e : List.lookup y [(("kept" : Str), c)] = some c' := e
        by_cases hy : (y == ("kept" : Str)) = true
        · simp [List.lookup, hy] at e
          subst e
          exact ⟨delH_same, _, ic⟩
        · simp [List.lookup, hy] at e
      · have k : ∀ {y : Str}, (P.nf c cd).cl.lookup y = some c' → y = "kept" := fun {y} e => by
          have e : List.lookup y [(("kept" : Str), c)] = some c' := e
          by_cases hy : (y == ("kept" : Str)) = true
          · exact eq_of_beq hy
          · simp [List.lookup, hy] at e
        rw [k e1, k e2]
      · have hi : i = 0 := by
          have := (List.getElem?_eq_some_iff.mp e).1
          simp at this
          omega
        subst hi
        cases e
        refine ⟨c, by show List.lookup ("kept" : Str) [(("kept" : Str), c)] = some c; simp [List.lookup], fun v ev => ?_⟩
        cases ev
        exact ⟨_, rfl, ic⟩
      · cases r with
        | error e => exact hq'.elim
        | ok fl =>
          cases fl with
          | next => exact False.elim hq'
          | brk => exact False.elim hq'
          | cont => exact False.elim hq'
          | ret u =>
            obtain ⟨v', H', os, bare, un, hok, rv', rfl, rfl⟩ := hq'
            refine I2.after ⟨.int v, H2, os, bare, ⟨fun b o e n => un.keep b o e (delN n), fun b o e n => un.slot b o e (delN n), fun b o e n _ => n, un.there, fun b xs e => e, fun b o u e => e, fun b ps e => ⟨#[], by rw [e]; simp⟩⟩, fun b u e => ?_, rv', hq _ G2 _ H2 (f1.trans f2) (.int v) p2 q⟩
            by_cases hb : b = c
            · rw [hb, b2.1] at e
              cases e
              obtain ⟨o, ho, hd⟩ := ic
              have k := un.keep c o ho delH_same (fun z => by rw [e0.frf c z] at b2; cases b2.1) (by simp)
              rw [hb]
              exact ⟨⟨o, k, hd⟩, ⟨o, k⟩, fun h1 h2 ⟨o1, q1, q2⟩ st => ⟨o1, st _ q1, q2⟩⟩
            · exact (hok b u (by rw [delH_ne hb]; exact e)).stay (fun c v hc q => q) (fun d q => by
                by_cases hd : d = c
                · rw [hd, delH_same] at q; cases q
                · rw [delH_ne hd] at q; exact q) fun d xs q => by
                by_cases hd : d = c
                · rw [hd, delH_same] at q; cases q
                · rw [delH_ne hd] at q; exact q
end
/-! ### the law's promise, a table beside -/
def tabOf (K : PySem.W.Frag) (c : Addr) : Option Addr := match K.lookup c with
  | some ⟨_, _, .fields vs, _⟩ => (match (vs[11]? : Option Value) with | some (.ref P) => some P | _ => none)
  | _ => none
def spLawT : WSp := fun ws G Q _ => ∃ (ns : List Int) (T : Addr), ws = [.sc ns] ∧ ns.length ≤ 63 ∧ G = updG (fun _ => none) T .tab ∧ ∀ G', Q (.bl true) G'
def spLawVT (K : PySem.W.Frag) (T : Addr) : Sp := fun vs H Q _ => ∃ (a : Addr) (ns : List Int), vs = [.ref a] ∧ ns.length ≤ 63 ∧ H T = some (.tbl #[]) ∧ SqL K H a (ns.map V.int) ∧ ∀ H', Q (.bl true) H'
def spLawVF (K : PySem.W.Frag) (T : Addr) : Sp := fun vs H Q _ => ∃ (a : Addr) (ns : List Int), vs = [.ref a] ∧ ns.length ≤ 63 ∧ H T = some (.tbl #[]) ∧ ((∃ o, H a = some (.frz o (.lst (ns.map V.int)))) ∨ SqL K (fun _ => none) a (ns.map V.int)) ∧ ∀ H', Q (.bl true) H'
theorem law_impT (P : Par) : ∀ vs H Q E, spLawVF P.K (P.ca 98) vs H Q E → embSp P spLawT vs H Q E := fun vs H Q E ⟨a, ns, e, hl, hT, hS, q⟩ => by
  subst e
  refine ⟨[.sc ns], updG (fun _ => none) (P.ca 98) .tab, fun w _ => w = .bl true, fun _ _ => False, .cons _ _ _ _ (.sc a ns hS) .nil, fun b o e => ?_, ⟨ns, P.ca 98, rfl, hl, rfl, fun _ => rfl⟩, fun w G' v H' _ r' _ e => by subst e; cases r'; exact q H', fun _ _ _ _ _ _ _ _ z => z.elim⟩
  by_cases hb : b = P.ca 98
  · subst hb
    rw [updG_same] at e
    cases e
    exact ⟨rfl, #[], hT, True.intro, fun pos cv hc => by
      have z : codeAmong pos [] = some cv := hc
      simp [codeAmong] at z⟩
  · rw [updG_ne hb] at e
    cases e
theorem thaw {prog : Program} {w : World} {K : PySem.W.Frag} {mg : Str → Option Value} {base : Heap} {k : Nat} {fa T : Addr} {fd : FuncData} {ps : List Str} (F : FnOk prog w K mg base (L2.CX prog w) k fa fd ps (spLawVF K T)) : FnOk prog w K mg base (L2.CX prog w) k fa fd ps (spLawVT K T) := by
  refine ⟨fun vs H Q E ⟨a, ns, e, hl, hT, hS, q⟩ => ?_, fun A outer s H args us vs Q E hr e0 hb r ⟨a, ns, e, hl, hT, hS, q⟩ => ?_⟩
  · rw [e]
    have nT : T ≠ T + 1 := Nat.ne_of_lt (Nat.lt_succ_self T)
    exact F.len [.ref (T + 1)] (fun b => if b = T then some (.tbl #[]) else if b = T + 1 then some (.frz ⟨.none, none, .plain, #[]⟩ (.lst (ns.map V.int))) else none) (fun _ _ => True) (fun _ _ _ => True)
      ⟨T + 1, ns, rfl, hl, if_pos rfl, .inl ⟨_, by dsimp only; rw [if_neg (Ne.symm nT), if_pos rfl]⟩, fun _ => True.intro⟩
  · rcases hS with (hS | ⟨o, hS⟩) | hS
    · obtain ⟨hz, its, n, rv, ho⟩ := e0.hok a _ hS
      have nT : T ≠ a := fun z => by rw [z, hS] at hT; cases hT
      have nA : ∀ b, H b = none → b ≠ a := fun b e z => by rw [z, hS] at e; cases e
      have e1 : Env0 prog w K mg base A outer s (upd H a (.frz { cls := .type "list", data := .seq its.toArray n } (.lst (ns.map V.int)))) := ⟨e0.frames, e0.mod, fun b o e => ⟨(e0.bs b o e).1, by rw [upd_ne (nA b (e0.bs b o e).2)]; exact (e0.bs b o e).2⟩, e0.bsz, e0.funs, fun b hb => by rw [upd_ne (nA b (e0.frf b hb))]; exact e0.frf b hb, fun b u e => by
        by_cases hb : b = a
        · rw [hb, upd_same] at e
          cases e
          rw [hb]
          exact ⟨ho, hz, its, n, rv, ho⟩
        · rw [upd_ne hb] at e
          exact (e0.hok b u e).stay (fun c v _ q => q) (fun c q => by rw [upd_ne (fun z => by rw [z, hS] at q; cases q)]; exact q) fun c xs q => by rw [upd_ne (fun z => by rw [z, hS] at q; cases q)]; exact q, e0.bare⟩
      refine codeAny_mono (F.run A outer s _ args us vs (fun v _ => v = .bl true) (fun _ _ _ => False) hr e1 hb r ⟨a, ns, e, hl, by rw [upd_ne nT]; exact hT, .inl ⟨_, upd_same⟩, fun _ => rfl⟩) fun res s' hq => ?_
      cases res with
      | error e =>
        obtain ⟨_, _, _, _, _, _, _, _, _, _, _, _, z⟩ := hq
        exact z.elim
      | ok fl =>
        cases fl with
        | next => exact False.elim hq
        | brk => exact False.elim hq
        | cont => exact False.elim hq
        | ret u =>
          obtain ⟨v, H2, os, bare, un, hok, rv2, e3⟩ := hq
          have h2a := un.frzs a _ _ upd_same
          have k2 : ∀ b, b ≠ a → upd H2 a (.lst (ns.map V.int)) b = H2 b := fun b h => upd_ne h
          refine ⟨v, upd H2 a (.lst (ns.map V.int)), os, bare, ⟨fun b o e n => un.keep b o e (by rw [upd_ne (nA b n)]; exact n), fun b o e n => un.slot b o e (by rw [upd_ne (nA b n)]; exact n), fun b o e n hx => by rw [upd_ne (nA b n)]; exact un.free b o e (by rw [upd_ne (nA b n)]; exact n) hx, un.there,
            fun b xs e => ?_, fun b o u e => ?_, fun b ps e => ?_⟩, fun b u e => ?_, rv2, by rw [e3]; exact q _⟩
          · have nb : b ≠ a := fun z => by rw [z, hS] at e; cases e
            rw [upd_ne nb]
            exact un.tups b xs (by rw [upd_ne nb]; exact e)
          · have nb : b ≠ a := fun z => by rw [z, hS] at e; cases e
            rw [upd_ne nb]
            exact un.frzs b o u (by rw [upd_ne nb]; exact e)
          · have nb : b ≠ a := fun z => by rw [z, hS] at e; cases e
            rw [upd_ne nb]
            exact un.tbls b ps (by rw [upd_ne nb]; exact e)
          · by_cases hb : b = a
            · rw [hb, upd_same] at e
              cases e
              rw [hb]
              obtain ⟨_, z⟩ := hok a _ h2a
              exact z
            · rw [upd_ne hb] at e
              exact (hok b u e).stay (fun c v _ q => q) (fun c q => by rw [upd_ne (fun z => by rw [z, h2a] at q; cases q)]; exact q) fun c xs q => by rw [upd_ne (fun z => by rw [z, h2a] at q; cases q)]; exact q
    · exact F.run A outer s H args us vs Q E hr e0 hb r ⟨a, ns, e, hl, hT, .inl ⟨o, hS⟩, q⟩
    · exact F.run A outer s H args us vs Q E hr e0 hb r ⟨a, ns, e, hl, hT, .inr (.inr hS), q⟩
end Lw
namespace Lw
open PySem PySem.Spec PyProof.Rows L2
local macro_rules
  | `(tactic| simp! only [$as,*] $[$loc]?) => `(tactic| simp only [$as,*, wSeq, wAsg, wN, wOp, wUn, wC, wVar, wGet, wIf, wIfS, wTest, wAnd, wOr, wNot, wAndV, wOrV, wNotV, wChain, wRet, wRetN, wDrop, wNext, wCall, wNil, wCons, wTup, wLstI, isNonW, oIs, oIsNot, wSl, wPart, wNoPart, wCB, List.set_cons_zero, List.set_cons_succ, Option.some.injEq, exists_eq_left', exists_eq_left, wStart, List.map_cons, List.map_nil, List.length_cons, List.length_nil, List.replicate, List.cons_append, List.nil_append, oLen_str, oLen_tup, oLen_il, oLen_sc, oAdd_int, oAdd_str, oAdd_tup, oAdd_il, oNeg_int, oIx_sc, oIx_str, oIx_tup, oIx_il, oSl_str, oSl_tup, oSl_il, oSl_sc, oEq_int, oEq_str, oEq_bl, oNe_int, oNe_str, oNe_bl, oNe_nonint, oNe_intnon, oIn_sign, oNotIn_sign, oStr_int, oInt_int, oInt_bl, oMax2_int, oMin2_int, oIsi_ii, oIsi_ib, oIsi_bb, oIsi_bi, oIsi_ss, oIsi_ll, oIsi_tt, oIsi_ni, W.bl.injEq, W.int.injEq, W.str.injEq, decide_eq_true_eq, Bool.not_eq_true', decide_eq_false_iff_not, true_and, and_true, if_true, if_false, reduceIte, wFld, wMeth, wMake, wView, wFldSet, wRaise, wRaise0, wDnew, wDin, wDput, wDget1, wDget2, lk_hit, lt_NF, putW_nil, putW_hit, W.ref.injEq, exists_and_left, dOf_dk, kW_str, kW_int, Nat.reduceLT, obj_io, oSub_int, oMul_int, oMod_int, oDiv_int, oPow_int, oShl_int, oShr_int, oAnd_int, oOr_int, oLt_int, oLe_int, oGt_int, oGe_int, Int.reduceLT, Int.reduceLE, Nat.reduceLeDiff, big_val, wFor, wRng1, wRng2, wEnum, wIter_eq, iterQ_tup, iterQ_il, iterQ_sc, iterQ_str, srcL_il, srcL_sc, wLcG, List.cons.injEq, and_assoc, exists_eq', exists_eq, exists_const, gtup2, gtup3, lk_miss, Nat.reduceBEq, lk_nil, List.mem_singleton, unS, sizeLine_eq, Nat.reduceAdd, wLstRg1, wLstRg2, wLstRg3, wRng3, wIsE, wLstItems, wLstVals, wLstKeys, wDpop1, wBits, wLstRev, wFreeze, oRepM, wCallE, wIsN, wKd, mSljust, mSrjust, oMulS] $[$loc]?)
local macro_rules
  | `(tactic| simp_arith! only [$as,*]) => `(tactic| simp only [$as,*, wSeq, wAsg, wN, wOp, wUn, wC, wVar, wGet, wIf, wIfS, wTest, wAnd, wOr, wNot, wAndV, wOrV, wNotV, wChain, wRet, wRetN, wDrop, wNext, wCall, wNil, wCons, wTup, wLstI, isNonW, oIs, oIsNot, wSl, wPart, wNoPart, wCB, List.set_cons_zero, List.set_cons_succ, Option.some.injEq, exists_eq_left', exists_eq_left, wStart, List.map_cons, List.map_nil, List.length_cons, List.length_nil, List.replicate, List.cons_append, List.nil_append, oLen_str, oLen_tup, oLen_il, oLen_sc, oAdd_int, oAdd_str, oAdd_tup, oAdd_il, oNeg_int, oIx_sc, oIx_str, oIx_tup, oIx_il, oSl_str, oSl_tup, oSl_il, oSl_sc, oEq_int, oEq_str, oEq_bl, oNe_int, oNe_str, oNe_bl, oNe_nonint, oNe_intnon, oIn_sign, oNotIn_sign, oStr_int, oInt_int, oInt_bl, oMax2_int, oMin2_int, oIsi_ii, oIsi_ib, oIsi_bb, oIsi_bi, oIsi_ss, oIsi_ll, oIsi_tt, oIsi_ni, W.bl.injEq, W.int.injEq, W.str.injEq, decide_eq_true_eq, Bool.not_eq_true', decide_eq_false_iff_not, true_and, and_true, if_true, if_false, reduceIte, wFld, wMeth, wMake, wView, wFldSet, wRaise, wRaise0, wDnew, wDin, wDput, wDget1, wDget2, lk_hit, lt_NF, putW_nil, putW_hit, W.ref.injEq, exists_and_left, dOf_dk, kW_str, kW_int, Nat.reduceLT, obj_io, oSub_int, oMul_int, oMod_int, oDiv_int, oPow_int, oShl_int, oShr_int, oAnd_int, oOr_int, oLt_int, oLe_int, oGt_int, oGe_int, Int.reduceLT, Int.reduceLE, Nat.reduceLeDiff, big_val, wFor, wRng1, wRng2, wEnum, wIter_eq, iterQ_tup, iterQ_il, iterQ_sc, iterQ_str, srcL_il, srcL_sc, wLcG, List.cons.injEq, and_assoc, exists_eq', exists_eq, exists_const, gtup2, gtup3, lk_miss, Nat.reduceBEq, lk_nil, List.mem_singleton, unS, sizeLine_eq, Nat.reduceAdd, wLstRg1, wLstRg2, wLstRg3, wRng3, wIsE, wLstItems, wLstVals, wLstKeys, wDpop1, wBits, wLstRev, wFreeze, oRepM, wCallE, wIsN, wKd, mSljust, mSrjust, oMulS, wBm, wLstM, mAppend, mInsert, mExtend, mPop, mPopAt, mReverse, mClear, mSet, wGSub, mSjoin, mSsplit, mSsplitM, strsOf_map, updG_same, updG_updG, updG_ne, WO.lst.injEq, WO.dct.injEq, WO.obj.injEq, kdOk_l, kdOk_s, kdOk_d, oLen_r, oIx_r, oIsi_r, kit_ll, kit_dl, kit_dd, kit_ld, kit_lb, kit_li, oIsi_dd, iterQ_ref, srcL_ref, true_or, or_true, false_or, or_false, reduceCtorEq, Prod.mk.injEq, ne_eq, not_false_eq_true, oListI, oListM, strsOf_mm, cut1, cut2, cut3, at_hd, at_1, at_2, at_3, at_4, at_5, at_6, sqT_il, sqT_sc, sqT_tup, sqT_r, sqOf_il, sqOf_sc, sqOf_r, lstOf_il, lstOf_r, tyN_r, dOf_r, objOf_r, dOf_dk, pick_if, oIn_strs, oNotIn_strs, putW_miss, wBdisp, wBget2, wBput, WO.bd.injEq, WO.fz.injEq, oListD, mDclear, dcL_dk, dcL_ref, oAddM, mSupper, wCallClo, W.clo.injEq])
abbrev endsW (Q : WQ) : WEnds := { nx := fun _ G' => Q .non G', rt := Q, bk := fun _ _ => False, ct := fun _ _ => False }
/-! ### errors -/

/-! ### words -/
theorem spl_one (t c : Nat) (acc r : List Nat) : TL.spl [t] 0 acc (c :: r) = if c = t then acc :: TL.spl [t] 0 [] r else TL.spl [t] 0 (acc ++ [c]) r := by
  show (if TL.pre [t] (c :: r) = true then acc :: TL.spl [t] ([t].length - 1) [] r else TL.spl [t] 0 (acc ++ [c]) r) = _
  have : TL.pre [t] (c :: r) = decide (c = t) := by simp [TL.pre]; exact Bool.eq_iff_iff.mpr (by simp)
  rw [this]; simp
theorem spl_ne (t : Nat) : ∀ (s acc : List Nat), TL.spl [t] 0 acc s ≠ []
  | [], acc => by rw [TL.spl_nil]; simp
  | c :: r, acc => by
    rw [spl_one]; split
    · simp
    · exact spl_ne t r _
theorem spl_back (t : Nat) : ∀ (s acc : List Nat), TL.joinL [t] (TL.spl [t] 0 acc s) = acc ++ s
  | [], acc => by rw [TL.spl_nil]; simp [TL.joinL]
  | c :: r, acc => by
    rw [spl_one]; split
    · rename_i h
      subst h
      have h := spl_back c r []
      cases e : TL.spl [c] 0 [] r with
      | nil => exact absurd e (spl_ne _ _ _)
      | cons p q => rw [e] at h; simp only [TL.joinL, h]; simp
    · rw [spl_back t r]; simp
theorem spl_no (t : Nat) : ∀ (s acc : List Nat), t ∉ acc → ∀ w ∈ TL.spl [t] 0 acc s, t ∉ w
  | [], acc, h, w, hw => by rw [TL.spl_nil] at hw; simp at hw; exact hw ▸ h
  | c :: r, acc, h, w, hw => by
    rw [spl_one] at hw
    split at hw
    · rcases List.mem_cons.mp hw with rfl | hw
      · exact h
      · exact spl_no t r [] (by simp) w hw
    · rename_i hc
      exact spl_no t r (acc ++ [c]) (by simp [h]; exact fun e => hc e.symm) w hw
theorem spl_mem (t : Nat) : ∀ (s acc : List Nat), ∀ w ∈ TL.spl [t] 0 acc s, ∀ c ∈ w, c ∈ acc ++ s
  | [], acc, w, hw, c, hc => by rw [TL.spl_nil] at hw; simp at hw; subst hw; simpa using hc
  | d :: r, acc, w, hw, c, hc => by
    rw [spl_one] at hw
    split at hw
    · rcases List.mem_cons.mp hw with rfl | hw
      · simp [hc]
      · have := spl_mem t r [] w hw c hc; simp at this; simp [this]
    · have := spl_mem t r (acc ++ [d]) w hw c hc; simp at this; simp; rcases this with h | h | h <;> simp [h]
theorem splitL_ne (t : Nat) (s : List Nat) : splitL [t] s ≠ [] := spl_ne t s []
theorem splitL_back (t : Nat) (s : List Nat) : TL.joinL [t] (splitL [t] s) = s := spl_back t s []
theorem splitL_no {t : Nat} {s w : List Nat} (h : w ∈ splitL [t] s) : t ∉ w := spl_no t s [] (by simp) w h
theorem splitL_mem {t : Nat} {s w : List Nat} (h : w ∈ splitL [t] s) {c : Nat} (hc : c ∈ w) : c ∈ s := by simpa using spl_mem t s [] w h c hc
theorem joinL_len (t : Nat) : ∀ (ss : List (List Nat)), ss ≠ [] → (TL.joinL [t] ss).length + 1 = (ss.map (·.length)).sum + ss.length
  | [p], _ => by simp [TL.joinL]
  | p :: q :: r, _ => by
    have := joinL_len t (q :: r) (by simp)
    simp only [TL.joinL, List.length_append, List.map_cons, List.sum_cons, List.length_cons] at this ⊢
    simp only [List.length_nil]; omega
theorem len_le_sum {ss : List (List Nat)} {w : List Nat} (h : w ∈ ss) : w.length ≤ (ss.map (·.length)).sum := by
  induction ss with
  | nil => cases h
  | cons p r ih =>
    rcases List.mem_cons.mp h with rfl | h
    · simp
    · have := ih h; simp; omega
theorem splitL_sum (t : Nat) (s : List Nat) : ((splitL [t] s).map (·.length)).sum + (splitL [t] s).length = s.length + 1 := by
  rw [← joinL_len t _ (splitL_ne t s), splitL_back]
theorem splitL_len {t : Nat} {s w : List Nat} (h : w ∈ splitL [t] s) : w.length ≤ s.length := by
  have := len_le_sum h; have := splitL_sum t s
  have : 0 < (splitL [t] s).length := List.length_pos_iff.mpr (splitL_ne t s)
  omega
theorem splitL_many (t : Nat) (s : List Nat) : (splitL [t] s).length ≤ s.length + 1 := by have := splitL_sum t s; omega
theorem joinL_one : ∀ cs : List Nat, TL.joinL [] (cs.map fun c => [c]) = cs
  | [] => rfl
  | [c] => rfl
  | c :: d :: r => by
    have := joinL_one (d :: r)
    simp only [List.map_cons, TL.joinL] at this ⊢
    rw [this]; rfl
/-- a number word's number -/
def numV (s : List Nat) : Int := s.foldl (fun (n : Int) (c : Nat) => n * 10 + ((c : Int) - 48)) 0
def figOk (s : List Nat) : Bool := decide (0 < s.length) && decide (s.length ≤ 3) && !(decide (s[0]? = some 48) && decide (1 < s.length)) && allIn FIG s
def figV (s : List Nat) (lo hi : Int) : Option Int := if figOk s = true ∧ lo ≤ numV s ∧ numV s ≤ hi then some (numV s) else none
def optI : Option Int → W
  | none => .non
  | some i => .int i
theorem numV_take {s : List Nat} {i c : Nat} (h : s[i]? = some c) : numV (s.take (i + 1)) = numV (s.take i) * 10 + ((c : Int) - 48) := by
  rw [List.take_add_one, h]; simp [numV]
theorem numV_pos_aux : ∀ (s : List Nat) (n : Int), 0 ≤ n → (∀ c ∈ s, 48 ≤ c) → 0 ≤ s.foldl (fun (n : Int) (c : Nat) => n * 10 + ((c : Int) - 48)) n
  | [], _, h, _ => h
  | c :: s, n, h, g => numV_pos_aux s _ (by have := g c (.head _); show (0 : Int) ≤ n * 10 + ((c : Int) - 48); omega) fun d hd => g d (.tail _ hd)
theorem numV_pos {s : List Nat} (h : allIn FIG s = true) : 0 ≤ numV s := numV_pos_aux s 0 (by omega) fun c hc => (FIG_mem.mp (allIn_iff.mp h c hc)).1
theorem figV_pos {s : List Nat} {lo hi i : Int} (h : figV s lo hi = some i) : 0 ≤ i := by
  unfold figV at h
  split at h
  · rename_i g
    cases h
    refine numV_pos ?_
    have := g.1
    simp only [figOk, Bool.and_eq_true] at this
    exact this.2
  · cases h
theorem fig_ix (c : Nat) (h : c ∈ FIG) : Builtin.Str.occurrences (S FIG) (S [c]) 0 FIG.length 1 = [c - 48] := by
  have := FIG_mem.mp h
  have e : c = 48 ∨ c = 49 ∨ c = 50 ∨ c = 51 ∨ c = 52 ∨ c = 53 ∨ c = 54 ∨ c = 55 ∨ c = 56 ∨ c = 57 := by omega
  rcases e with rfl | rfl | rfl | rfl | rfl | rfl | rfl | rfl | rfl | rfl <;> decide +kernel
theorem mSindex_fig {c : Nat} (h : c ∈ FIG) {G : WHp} {Q : WQ} (q : Q (.int ((c : Int) - 48)) G) : mSindex (.str FIG) [.str [c]] G Q := by
  have := FIG_mem.mp h
  refine ⟨FIG, [c], c - 48, [], rfl, rfl, fig_ix c h, ?_⟩
  rw [show ((c - 48 : Nat) : Int) = (c : Int) - 48 by omega]
  exact q
theorem figOk_in {s : List Nat} (h0 : 0 < s.length) (h3 : s.length ≤ 3) (h1 : ¬(s[0]? = some 48 ∧ 1 < s.length)) : figOk s = allIn FIG s := by
  simp only [figOk]
  have : (decide (s[0]? = some 48) && decide (1 < s.length)) = false := by
    cases hh : (decide (s[0]? = some 48) && decide (1 < s.length)) with
    | false => rfl
    | true => rw [Bool.and_eq_true, decide_eq_true_eq, decide_eq_true_eq] at hh; exact absurd hh h1
  rw [this]; simp [h0, h3]
theorem figOk_no {s : List Nat} (h : s.length = 0 ∨ 3 < s.length ∨ (s[0]? = some 48 ∧ 1 < s.length)) : figOk s = false := by
  rcases h with h | h | ⟨h, h'⟩
  · simp [figOk, h]
  · have : ¬ s.length ≤ 3 := by omega
    simp [figOk, this]
  · simp [figOk, h, h']
theorem strI_len (n : Int) (h0 : 0 ≤ n) (h1 : n < 1000) : (strI n).length ≤ 3 := by
  have : ∀ m, m < 1000 → (TL.numL m).length ≤ 3 := by decide +kernel
  obtain ⟨m, rfl⟩ := Int.eq_ofNat_of_zero_le h0
  rw [strI_nat]
  exact this m (by omega)
theorem log_ok {n : Int} {k : Nat} (h0 : -(2 ^ k) < n) (h : n < 2 ^ k) (hk : k < 1900) : n.natAbs.log2 < 1920 := by
  cases e : n.natAbs with
  | zero => simp
  | succ m =>
    refine Nat.lt_trans ((Nat.log2_lt (by omega)).mpr (?_ : m + 1 < 2 ^ 1900)) (by decide)
    refine Nat.lt_of_lt_of_le ?_ (Nat.pow_le_pow_right (by decide) (Nat.le_of_lt hk))
    have : ((2 ^ k : Nat) : Int) = 2 ^ k := by simp
    omega
def isName (s : List Nat) : Bool := decide (0 < s.length) && decide (s.length < 9) && allIn LET s
/-- a text's rows, each as its words -/
def rowsOf (s : List Nat) : List (List (List Nat)) := (splitL [10] s).map (splitL [32])
def rowW (r : List (List Nat)) : W := .il (r.map W.str)
def rowsW (rs : List (List (List Nat))) : W := .il (rs.map rowW)
theorem rowsOf_mem {s : List Nat} {r : List (List Nat)} (h : r ∈ rowsOf s) : r ≠ [] ∧ (r.map (·.length)).sum + r.length ≤ s.length + 1 ∧ ∀ w ∈ r, w.length ≤ s.length := by
  obtain ⟨z, hz, rfl⟩ := List.mem_map.mp h
  have hz' := splitL_len hz
  refine ⟨splitL_ne _ _, by rw [splitL_sum]; omega, fun w hw => ?_⟩
  have := splitL_len hw
  omega
theorem rowsOf_ne (s : List Nat) : rowsOf s ≠ [] := by unfold rowsOf; simp [splitL_ne]
theorem rowsOf_len (s : List Nat) : (rowsOf s).length ≤ s.length + 1 := by unfold rowsOf; rw [List.length_map]; exact splitL_many _ _
theorem atI_0 {α : Type} {xs : List α} (h : 0 < xs.length) : ∃ c, atI xs 0 = some c ∧ xs[0]? = some c := by
  obtain ⟨c, e, _⟩ := atI_in (xs := xs) (i := 0) (by omega) (by omega)
  exact ⟨c, e, by simpa [atI, ixN, h] using e⟩
theorem atI_n {α : Type} {xs : List α} {k : Nat} {x : α} (h : xs[k]? = some x) : atI xs (k : Int) = some x := atI_nat h

/-! ### ways -/
/-- a way -/
structure Wy where
  sort : Nat
  name : List Nat
  start : Int
  stop : Int
  off : Int
  near : Int
  least : Int
def isNameL (s : List Nat) : Prop := 0 < s.length ∧ s.length ≤ 8 ∧ ∀ c ∈ s, 97 ≤ c ∧ c ≤ 122
def kindN (k : Nat) : List Nat := if k = 10 then tCAR else if k = 11 then tFOOT else tTRAM
def wyF (y : Wy) : List (Nat × W) := [(0, .str y.name), (1, .int y.start), (2, .int y.stop), (3, .int y.off), (4, .int y.near), (5, .int y.least), (6, .str (kindN y.sort))]
def wyW (y : Wy) : W := .io y.sort (wyF y)
def Wy.ok (y : Wy) : Prop := y.sort = 10 ∨ y.sort = 11 ∨ y.sort = 12
/-- of a crossing of so many places -/
structure Wy.okP (y : Wy) (p : Int) : Prop where
  so : y.ok
  s0 : 0 ≤ y.start
  s1 : y.start < p
  e0 : 0 ≤ y.stop
  e1 : y.stop < p
  ne : y.start ≠ y.stop
  o0 : 0 ≤ y.off
  o1 : y.off ≤ 30
  n0 : 0 ≤ y.near
  n1 : y.near ≤ 30
  l0 : 1 ≤ y.least
  l1 : y.least ≤ 60
  nm : isNameL y.name
def Wy.ready (y : Wy) : Int := if y.sort = 10 then 1 else if y.sort = 11 then 0 else 2
def Wy.fade (y : Wy) : Int := if y.sort = 10 then 2 else if y.sort = 11 then y.off else 1
def Wy.goes (y : Wy) (m : Int) : Int := if y.sort = 11 then m else if 1 < m then 1 else m
/-- the colours' numbers -/
def shadeN (k : Nat) : List Nat := if k = 0 then tSTOP else if k = 1 then tREADY else if k = 2 then tFREE else tFADE
def faceN (c k : Nat) : List Nat :=
  if c = 10 then (if k = 0 then [114, 101, 100] else if k = 1 then [98, 111, 116, 104] else if k = 2 then [103, 114, 101, 101, 110] else [121, 101, 108, 108, 111, 119])
  else if c = 11 then (if k = 0 then [115, 116, 97, 110, 100] else if k = 1 then [115, 116, 97, 110, 100] else if k = 2 then [119, 97, 108, 107] else [104, 117, 114, 114, 121])
  else (if k = 0 then [98, 97, 114] else if k = 1 then [100, 111, 116] else if k = 2 then [112, 111, 115, 116] else [115, 108, 97, 110, 116])

/-! ### crossings -/
/-- a crossing -/
structure Cr where
  places : Int
  ways : List Wy
def crF (c : Cr) : List (Nat × W) := [(7, .int c.places), (8, .il (c.ways.map wyW))]
def crW (c : Cr) : W := .io 13 (crF c)
def Cr.names (c : Cr) : List (List Nat) := c.ways.map (·.name)
def Cr.find (c : Cr) (n : List Nat) : Option Nat := c.ways.findIdx? fun y => decide (y.name = n)
def Cr.get (c : Cr) (n : List Nat) : Option Wy := c.ways.find? fun y => decide (y.name = n)
structure Cr.ok (c : Cr) : Prop where
  len : c.ways.length ≤ 12
  ne : c.ways ≠ []
  p0 : 2 ≤ c.places
  p1 : c.places ≤ 99
  all : ∀ y ∈ c.ways, y.okP c.places
  nd : c.names.Nodup
theorem find_get {c : Cr} {n : List Nat} : (c.find n).bind (fun k => c.ways[k]?) = c.get n := by
  unfold Cr.find Cr.get
  induction c.ways with
  | nil => rfl
  | cons y r ih =>
    by_cases h : y.name = n
    · simp [List.findIdx?_cons, List.find?_cons, h]
    · simp [List.findIdx?_cons, List.find?_cons, h, ← ih]
      cases List.findIdx? (fun y => decide (y.name = n)) r <;> simp
theorem find_some {c : Cr} {n : List Nat} {k : Nat} (h : c.find n = some k) : ∃ y, c.ways[k]? = some y ∧ y.name = n ∧ c.get n = some y := by
  have e := find_get (c := c) (n := n)
  rw [h] at e
  unfold Cr.find at h
  obtain ⟨hk, h1, _⟩ := List.findIdx?_eq_some_iff_getElem.mp h
  refine ⟨c.ways[k], List.getElem?_eq_getElem hk, by simpa using h1, ?_⟩
  rw [← e]
  simp [hk]
theorem find_none {c : Cr} {n : List Nat} : c.find n = none ↔ c.get n = none := by
  unfold Cr.find Cr.get
  rw [List.findIdx?_eq_none_iff, List.find?_eq_none]
  simp
theorem get_mem {c : Cr} {n : List Nat} {y : Wy} (h : c.get n = some y) : y ∈ c.ways ∧ y.name = n := by
  unfold Cr.get at h
  exact ⟨List.mem_of_find?_eq_some h, by simpa using List.find?_some h⟩
theorem get_none {c : Cr} {n : List Nat} : c.get n = none ↔ n ∉ c.names := by
  unfold Cr.get Cr.names
  rw [List.find?_eq_none]
  simp
theorem get_self {c : Cr} (nd : c.names.Nodup) {y : Wy} (hy : y ∈ c.ways) : c.get y.name = some y := by
  unfold Cr.names at nd
  unfold Cr.get
  induction hc : c.ways generalizing c with
  | nil => rw [hc] at hy; cases hy
  | cons z r ih =>
    rw [hc] at hy nd
    rw [List.map_cons, List.nodup_cons] at nd
    by_cases e : z.name = y.name
    · rw [List.find?_cons_of_pos (by simpa using e)]
      rcases List.mem_cons.mp hy with h | h
      · rw [h]
      · exact absurd (List.mem_map.mpr ⟨y, h, e.symm⟩) nd.1
    · rw [List.find?_cons_of_neg (by simpa using e)]
      rcases List.mem_cons.mp hy with h | h
      · rw [h] at e; exact absurd rfl e
      · exact ih (c := ⟨c.places, r⟩) nd.2 h rfl
theorem get_some {c : Cr} {n : List Nat} (h : n ∈ c.names) : ∃ y, c.get n = some y := by
  cases e : c.get n with
  | none => exact absurd h (get_none.mp e)
  | some y => exact ⟨y, rfl⟩
/-! what a text tells -/
def tRING : List Nat := [114, 105, 110, 103]
def isSort (s : List Nat) : Bool := decide (s = tCAR) || decide (s = tFOOT) || decide (s = tTRAM)
def sortK (s : List Nat) : Nat := if s = tCAR then 10 else if s = tFOOT then 11 else 12
abbrev Pr (α : Type) := Except (Int × Int) α
def headP (row : List (List Nat)) : Pr Int :=
  if row.getD 0 [] ≠ tRING then .error (0, 0) else if row.length < 2 then .error (0, 1) else
  match figV (row.getD 1 []) 2 99 with
  | none => .error (0, 1)
  | some p => if 2 < row.length then .error (0, 2) else .ok p
def bndLo (k : Nat) : Int := if k = 4 then 1 else 0
def bndHi (places : Int) (k : Nat) : Int := if k < 2 then places - 1 else if k < 4 then 30 else 60
def numsTo (at_ : Int) (row : List (List Nat)) (places : Int) : Nat → Pr (List Int)
  | 0 => .ok []
  | k + 1 => match numsTo at_ row places k with
    | .error e => .error e
    | .ok ns => if row.length ≤ 2 + k then .error (at_, row.length) else
      match figV (row.getD (2 + k) []) (bndLo k) (bndHi places k) with
      | none => .error (at_, 2 + k)
      | some n => if k = 1 ∧ some n = ns.head? then .error (at_, 2 + k) else .ok (ns ++ [n])
def numsP (at_ : Int) (row : List (List Nat)) (places : Int) : Pr (List Int) := match numsTo at_ row places 5 with
  | .error e => .error e
  | .ok ns => if 7 < row.length then .error (at_, 7) else .ok ns
theorem numsTo_len {at_ : Int} {row : List (List Nat)} {places : Int} : ∀ {k : Nat} {ns : List Int}, numsTo at_ row places k = .ok ns → ns.length = k
  | 0, ns, h => by cases h; rfl
  | k + 1, ns, h => by
    unfold numsTo at h
    split at h
    · cases h
    · rename_i ns' h'
      have ih := numsTo_len h'
      split at h
      · cases h
      · split at h
        · cases h
        · split at h
          · cases h
          · cases h; simp [ih]
def wayP (at_ : Int) (row : List (List Nat)) (places : Int) (taken : List (List Nat)) : Pr Wy :=
  if 12 < at_ ∨ isSort (row.getD 0 []) = false then .error (at_, 0) else
  if row.length < 2 ∨ isName (row.getD 1 []) = false ∨ row.getD 1 [] ∈ taken then .error (at_, 1) else
  match numsP at_ row places with
  | .error e => .error e
  | .ok ns => .ok ⟨sortK (row.getD 0 []), row.getD 1 [], ns.getD 0 0, ns.getD 1 0, ns.getD 2 0, ns.getD 3 0, ns.getD 4 0⟩
def waysTo (rows : List (List (List Nat))) (places : Int) : Nat → Pr (List Wy)
  | 0 => .ok []
  | k + 1 => match waysTo rows places k with
    | .error e => .error e
    | .ok ys => match wayP (1 + k) (rows.getD (1 + k) []) places (ys.map (·.name)) with
      | .error e => .error e
      | .ok y => .ok (ys ++ [y])
def crossP (s : List Nat) : Pr Cr := match headP ((rowsOf s).getD 0 []) with
  | .error e => .error e
  | .ok p => if (rowsOf s).length < 2 then .error (1, 0) else
    match waysTo (rowsOf s) p ((rowsOf s).length - 1) with
    | .error e => .error e
    | .ok ys => .ok ⟨p, ys⟩
theorem sortK_ok {s : List Nat} : ∀ y : Wy, y.sort = sortK s → y.ok := fun y h => by
  unfold Wy.ok; rw [h]; unfold sortK
  split
  · exact .inl rfl
  · split
    · exact .inr (.inl rfl)
    · exact .inr (.inr rfl)
theorem figV_in {s : List Nat} {lo hi n : Int} (h : figV s lo hi = some n) : lo ≤ n ∧ n ≤ hi := by
  unfold figV at h
  split at h
  · rename_i g; cases h; exact g.2
  · cases h
theorem numsTo_in {at_ : Int} {row : List (List Nat)} {places : Int} : ∀ {k : Nat} {ns : List Int}, numsTo at_ row places k = .ok ns → (∀ i n, ns[i]? = some n → bndLo i ≤ n ∧ n ≤ bndHi places i) ∧ (2 ≤ k → ns[0]? ≠ ns[1]?)
  | 0, ns, h => by cases h; exact ⟨fun i n z => by simp at z, fun z => by omega⟩
  | k + 1, ns, h => by
    unfold numsTo at h
    split at h
    · cases h
    · rename_i ns' h'
      have ih := numsTo_in h'
      have hl := numsTo_len h'
      split at h
      · cases h
      · split at h
        · cases h
        · rename_i n hn
          split at h
          · cases h
          · rename_i hne
            cases h
            refine ⟨fun i m hm => ?_, fun hk => ?_⟩
            · rw [List.getElem?_append] at hm
              split at hm
              · exact ih.1 i m hm
              · have : i = k := by
                  rcases Nat.eq_zero_or_pos (i - ns'.length) with z | z
                  · omega
                  · rw [List.getElem?_eq_none (by simp; omega)] at hm; cases hm
                subst this
                rw [show i - ns'.length = 0 by omega] at hm
                cases hm
                exact figV_in hn
            · rcases Nat.eq_or_lt_of_le hk with hk | hk
              · have hk : k = 1 := by omega
                subst hk
                match ns', hl with
                | [a], _ =>
                intro z
                simp at z
                exact hne ⟨rfl, by rw [z]; rfl⟩
              · rw [List.getElem?_append_left (by omega), List.getElem?_append_left (by omega)]
                exact ih.2 (by omega)
theorem isName_L {s : List Nat} : isName s = true ↔ isNameL s := by
  unfold isName isNameL
  simp only [Bool.and_eq_true, decide_eq_true_eq, allIn_iff, LET_mem, and_assoc]
  constructor
  · exact fun ⟨a, b, c⟩ => ⟨a, by omega, c⟩
  · exact fun ⟨a, b, c⟩ => ⟨a, by omega, c⟩
theorem wayP_ok {at_ : Int} {row : List (List Nat)} {places : Int} {taken : List (List Nat)} {y : Wy} (h : wayP at_ row places taken = .ok y) : y.okP places ∧ y.name ∉ taken := by
  unfold wayP at h
  split at h
  · cases h
  · split at h
    · cases h
    · rename_i h2
      split at h
      · cases h
      · rename_i ns hns
        cases h
        refine ⟨?_, fun z => h2 (.inr (.inr z))⟩
        unfold numsP at hns
        split at hns
        · cases hns
        · rename_i ns' h3
          split at hns
          · cases hns
          · cases hns
            have hl := numsTo_len h3
            have hb := numsTo_in h3
            match ns, hl with
            | [a, b, c, d, e], _ =>
            have b0 := hb.1 0 a rfl
            have b1 := hb.1 1 b rfl
            have b2 := hb.1 2 c rfl
            have b3 := hb.1 3 d rfl
            have b4 := hb.1 4 e rfl
            have b5 := hb.2 (by decide)
            simp only [bndLo, bndHi] at b0 b1 b2 b3 b4
            simp only [List.getD] at *
            refine ⟨sortK_ok (s := row.getD 0 []) _ rfl, b0.1, ?_, b1.1, ?_, fun z => b5 ?_, b2.1, b2.2, b3.1, b3.2, b4.1, b4.2, isName_L.mp ?_⟩
            · have := b0.2; simp at this ⊢; omega
            · have := b1.2; simp at this ⊢; omega
            · simpa using z
            · cases hh : isName (row.getD 1 []) with
              | true => simpa [List.getD] using hh
              | false => exact absurd (.inr (.inl (by simpa [List.getD] using hh))) h2
theorem waysTo_ok {rows : List (List (List Nat))} {places : Int} : ∀ {k : Nat} {ys : List Wy}, waysTo rows places k = .ok ys → ys.length = k ∧ (∀ y ∈ ys, y.okP places) ∧ (ys.map (·.name)).Nodup ∧ (k ≤ 12 ∨ ys = [])
  | 0, ys, h => by cases h; exact ⟨rfl, (fun _ z => by cases z), List.nodup_nil, Or.inr rfl⟩
  | k + 1, ys, h => by
    unfold waysTo at h
    split at h
    · cases h
    · rename_i ys' h'
      obtain ⟨i1, i2, i3, i4⟩ := waysTo_ok h'
      split at h
      · cases h
      · rename_i y hy
        cases h
        have w := wayP_ok hy
        refine ⟨by simp [i1], fun z hz => ?_, ?_, .inl ?_⟩
        · rcases List.mem_append.mp hz with hz | hz
          · exact i2 z hz
          · rw [List.mem_singleton.mp hz]; exact w.1
        · rw [List.map_append, List.nodup_append]
          exact ⟨i3, by simp, fun a ha b hb => by simp at hb; rintro rfl; subst hb; exact w.2 ha⟩
        · unfold wayP at hy
          split at hy
          · cases hy
          · rename_i h1
            have : ¬ (12 : Int) < 1 + (k : Int) := fun z => h1 (.inl z)
            omega
theorem headP_in {row : List (List Nat)} {p : Int} (h : headP row = .ok p) : 2 ≤ p ∧ p ≤ 99 := by
  unfold headP at h
  split at h
  · cases h
  · split at h
    · cases h
    · split at h
      · cases h
      · rename_i hf
        split at h
        · cases h
        · cases h; exact figV_in hf
theorem crossP_ok {s : List Nat} {c : Cr} (h : crossP s = .ok c) : c.ok := by
  unfold crossP at h
  split at h
  · cases h
  · rename_i hp
    split at h
    · cases h
    · split at h
      · cases h
      · rename_i h2 ys hy
        cases h
        obtain ⟨i1, i2, i3, i4⟩ := waysTo_ok hy
        have : ys.length ≤ 12 := by
          rcases i4 with i4 | i4
          · omega
          · rw [i4]; simp
        have hp := headP_in hp
        refine ⟨this, fun e => ?_, hp.1, hp.2, i2, i3⟩
        simp only [] at e
        rw [e] at i1
        simp at i1
        omega
/-! the names taken -/
def tk (ns : List (List Nat)) : List (KW × W) := ns.map fun n => (.inr n, .bl true)
theorem valW_tk {ns : List (List Nat)} {n : List Nat} : (valW (tk ns) (.inr n)).isSome = decide (n ∈ ns) := by
  unfold valW tk
  rw [Option.isSome_map, List.find?_map, Option.isSome_map]
  induction ns with
  | nil => rfl
  | cons a r ih =>
    by_cases e : a = n
    · subst e; simp
    · rw [List.find?_cons_of_neg (by simpa using e), ih]
      simp [Ne.symm e]
theorem put_tk {ns : List (List Nat)} {n : List Nat} (h : n ∉ ns) : putKW (tk ns) (.inr n) (.bl true) = tk (ns ++ [n]) := by
  unfold putKW
  rw [if_neg]
  · simp [tk]
  · simp [tk]
    exact h
theorem tk_len {ns : List (List Nat)} : (tk ns).length = ns.length := by simp [tk]
theorem isNon_opt {o : Option Int} : isNonW (optI o) = o.isNone := by cases o <;> rfl
theorem notin_sorts {s : List Nat} {G : WHp} {Q : WQ} : oNotIn (.str s) (.tup [.str tCAR, .str tFOOT, .str tTRAM]) G Q = Q (.bl (!isSort s)) G := by
  show (flW (.str s) = true ∧ _ ∧ Q (.bl (!(List.any _ _))) G) = _
  have : (List.any [W.str tCAR, .str tFOOT, .str tTRAM] fun y => eqFl y (.str s)) = isSort s := by
    simp only [List.any_cons, List.any_nil, eqFl, isSort, Bool.or_false, Bool.or_assoc, eq_comm]
  rw [this]
  simp [flW]

/-! ### queues -/

abbrev sp_coming_by := spClo
/-- what the law draws -/
def drawF (ns : List Int) (k m : Int) : Int :=
  let cell := if 0 < (ns.length : Int) then (atI ns (k % ns.length)).getD 0 else 0
  (cell % 1000003 + 31 * k * k + 1) * 48271 % 999983 * 7919 % 524287 % m
theorem drawF_lo {ns : List Int} {k m : Int} (h : 0 < m) : 0 ≤ drawF ns k m := Int.emod_nonneg _ (by omega)
theorem drawF_hi {ns : List Int} {k m : Int} (h : 0 < m) : drawF ns k m < m := Int.emod_lt_of_pos _ h
theorem isl (ns : List Int) : (List.map W.int (cutL ns none (some 12))).length ≤ 12 := by
  rw [show (12 : Int) = ((12 : Nat) : Int) from rfl, cut_head, List.length_map, List.length_take]
  exact Nat.min_le_left _ _
theorem le_size {n : Nat} (h : n ≤ 100000) : n ≤ sizeLine := by rw [big_eq, big]; omega

theorem dp_ref {G : WHp} {r : Addr} {ys : List W} (h : G r = some (.lst ys)) (ok : ∀ w ∈ ys, okW 19 w) : DpW G (.ref r) (dW 20 (.il ys)) :=
  .lst _ _ _ (by simp [sqOf, lstOf, h]) (.of fun w hw => dp_dW 19 w (ok w hw))
open Classical in
/-- lists of lists that are compared, some of them live -/
theorem ne_sh {G : WHp} {Q : WQ} {xs ys zs us : List W} (hx : DpWs G xs (zs.map (dW 20))) (hy : DpWs G ys (us.map (dW 20))) (oz : ∀ w ∈ zs, okW 20 w) (ou : ∀ w ∈ us, okW 20 w) (q : Q (.bl (!decide (zs = us))) G) : oNe (.il xs) (.il ys) G Q := by
  show eqD G (.il xs) (.il ys) (fun k => Q (.bl (!k)) G)
  refine ⟨.list (zs.map (dW 20)), .list (us.map (dW 20)), .lst _ _ _ rfl hx, .lst _ _ _ rfl hy, ?_, ?_, ?_⟩
  · have := lay_dW 21 (.il zs) oz
    unfold SeqAt.shaped
    rw [Bool.and_eq_true, decide_eq_true_eq]
    exact ⟨this.1, Nat.le_trans this.2 (by decide)⟩
  · have := lay_dW 21 (.il us) ou
    unfold SeqAt.shaped
    rw [Bool.and_eq_true, decide_eq_true_eq]
    exact ⟨this.1, Nat.le_trans this.2 (by decide)⟩
  · have := eqv_dW 21 (.il zs) (.il us) oz ou
    simp only [dW, W.il.injEq] at this
    rw [this]; exact q

theorem ix2 {a b : W} {d : Int} (h0 : 0 ≤ d) (h1 : d < 2) {Q : W → Prop} (q0 : d = 0 → Q a) (q1 : d = 1 → Q b) : ∃ v, atI [a, b] d = some v ∧ Q v := by
  have : d = 0 ∨ d = 1 := by omega
  rcases this with rfl | rfl
  · exact ⟨a, rfl, q0 rfl⟩
  · exact ⟨b, rfl, q1 rfl⟩
/-- a cell of the script -/
theorem cell_i {ns : List Int} {k : Int} {Q : Int → Prop} (h0 : 0 < (ns.length : Int)) (q : ∀ v, Q v) : ∃ v, atI ns (k % ns.length) = some v ∧ Q v :=
  let ⟨v, e, _⟩ := atI_in (xs := ns) (Int.emod_nonneg k (show (ns.length : Int) ≠ 0 by omega)) (Int.emod_lt_of_pos k h0); ⟨v, e, q v⟩
theorem at_ints {xs : List Int} {t : Int} (h : 0 < xs.length) : ∃ v, xs[(t % (xs.length : Int)).toNat]? = some v ∧ atI xs (t % (xs.length : Int)) = some v := by
  have h1 : 0 ≤ t % (xs.length : Int) := Int.emod_nonneg _ (by omega)
  have h2 : t % (xs.length : Int) < xs.length := Int.emod_lt_of_pos _ (by omega)
  obtain ⟨v, e, _⟩ := atI_in (xs := xs) h1 h2
  refine ⟨v, ?_, e⟩
  have e3 : ixN xs.length (t % (xs.length : Int)) = some (t % (xs.length : Int)).toNat := by
    unfold ixN
    rw [if_pos h1, if_pos (by omega)]
  unfold atI at e
  rw [e3] at e
  exact e

abbrev sp_law := spLawT
def sp_l_draw : WSp := fun ws G Q _ => ∃ x ns k m, ws = [x, .int k, .int m] ∧ (x = .sc ns ∨ x = .il (ns.map W.int)) ∧ ns.length ≤ 63 ∧ 0 ≤ k ∧ k < 1000000 ∧ 0 < m ∧ Q (.int (drawF ns k m)) G
/-- a call of the law's draw -/
theorem draw_x {x : W} {ns : List Int} {k m : Int} {G : WHp} {Q : WQ} {E : Xc → WHp → Prop} (hx : x = .sc ns ∨ x = .il (ns.map W.int)) (hl : ns.length ≤ 63) (hk : 0 ≤ k) (hk' : k < 1000000) (hm : 0 < m) (q : 0 ≤ drawF ns k m → drawF ns k m < m → Q (.int (drawF ns k m)) G) : sp_l_draw [x, .int k, .int m] G Q E :=
  ⟨x, ns, k, m, rfl, hx, hl, hk, hk', hm, q (drawF_lo hm) (drawF_hi hm)⟩
theorem draw_i {ns : List Int} {k m : Int} {G : WHp} {Q : WQ} {E : Xc → WHp → Prop} (hl : ns.length ≤ 63) (hk : 0 ≤ k) (hk' : k < 1000000) (hm : 0 < m) (q : 0 ≤ drawF ns k m → drawF ns k m < m → Q (.int (drawF ns k m)) G) : sp_l_draw [.sc ns, .int k, .int m] G Q E :=
  draw_x (.inl rfl) hl hk hk' hm q

theorem len_l_draw : ∀ ws G Q E, sp_l_draw ws G Q E → ws.length = (["_law_script", "_law_k", "_law_many"] : List Str).length := by
  intro ws G Q E h
  first
  | (obtain ⟨_, h, _⟩ := h; rw [h]; rfl)
  | (obtain ⟨_, _, h, _⟩ := h; rw [h]; rfl)
  | (obtain ⟨_, _, _, h, _⟩ := h; rw [h]; rfl)
  | (obtain ⟨_, _, _, _, h, _⟩ := h; rw [h]; rfl)
  | (obtain ⟨_, _, _, _, _, h, _⟩ := h; rw [h]; rfl)
  | (obtain ⟨_, _, _, _, _, _, h, _⟩ := h; rw [h]; rfl)
  | (obtain ⟨_, _, _, _, _, _, _, h, _⟩ := h; rw [h]; rfl)
  | (obtain ⟨_, _, _, _, _, _, _, _, h, _⟩ := h; rw [h]; rfl)
  | (obtain ⟨_, _, _, _, _, _, _, _, _, h, _⟩ := h; rw [h]; rfl)
  | (obtain ⟨_, _, _, _, _, _, _, _, _, _, h, _⟩ := h; rw [h]; rfl)
  | (obtain ⟨_, _, _, _, _, _, _, _, _, _, _, h, _⟩ := h; rw [h]; rfl)
  | (obtain ⟨_, _, _, _, _, _, _, _, _, _, _, _, h, _⟩ := h; rw [h]; rfl)
  | (obtain ⟨_, _, _, _, _, _, _, _, _, _, _, _, _, h, _⟩ := h; rw [h]; rfl)
  | (obtain ⟨_, _, _, _, _, _, _, _, _, _, _, _, _, _, h, _⟩ := h; rw [h]; rfl)
def bd_l_draw_t3 : WTS := (wRet (wOp oMod (wOp oMod (wOp oMul (wOp oMod (wOp oMul (wVar 4) (wC (.int 48271))) (wC (.int 999983))) (wC (.int 7919))) (wC (.int 524287))) (wVar 2)))
def bd_l_draw_t2 : WTS := wSeq (wAsg (wOp oAdd (wOp oAdd (wOp oMod (wVar 3) (wC (.int 1000003))) (wOp oMul (wOp oMul (wC (.int 31)) (wVar 1)) (wVar 1))) (wC (.int 1))) (wN 4)) bd_l_draw_t3
def bd_l_draw : WTS := wSeq (wAsg (wIf (wTest (wOp oGt (wCB oLen (wCons (wVar 0) wNil)) (wC (.int 0)))) (wOp oIx (wVar 0) (wOp oMod (wVar 1) (wCB oLen (wCons (wVar 0) wNil)))) (wC (.int 0))) (wN 3)) bd_l_draw_t2
theorem w_l_draw (ws : List W) (G : WHp) (Q : WQ) (Ex : Xc → WHp → Prop) (h : sp_l_draw ws G Q Ex) : bd_l_draw (endsW Q) (wStart ["_law_script", "_law_k", "_law_many", "_law_cell", "_law_seed"] ws) G (fun c _ G' => Ex c G') := by
  obtain ⟨x, ns, k, m, rfl, hx, hl, k0, k1, m0, q⟩ := h
  have c1 : CMul 31 k := .inl ⟨by decide, by decide⟩
  have c2 : CMul (31 * k) k := .inr ⟨by omega, by omega⟩
  have c3 : ∀ i, CMul i 48271 := fun i => .inr ⟨by decide, by decide⟩
  have c4 : ∀ i, CMul i 7919 := fun i => .inr ⟨by decide, by decide⟩
  have fin : ∀ v : Int, v = (if 0 < (ns.length : Int) then (atI ns (k % ns.length)).getD 0 else 0) → bd_l_draw_t2 (endsW Q) [some x, some (.int k), some (.int m), some (.int v), none] G fun c _ G' => Ex c G' := by
    intro v hv
    simp! only [bd_l_draw_t2]
    refine ⟨c1, c2, ?_⟩
    simp! only [bd_l_draw_t3]
    refine ⟨c3 _, c4 _, m0, ?_⟩
    simp only [drawF, ← hv] at q
    exact q
  have pos : 0 < (ns.length : Int) → ∃ v, atI ns (k % ns.length) = some v := fun h0 => let ⟨v, e, _⟩ := atI_in (xs := ns) (Int.emod_nonneg k (show (ns.length : Int) ≠ 0 by omega)) (Int.emod_lt_of_pos k h0); ⟨v, e⟩
  rcases hx with rfl | rfl
  · simp! only [bd_l_draw]
    split
    · rename_i h0
      obtain ⟨v, e⟩ := pos h0
      exact ⟨h0, v, e, fin v (by rw [if_pos h0, e]; rfl)⟩
    · rename_i h0
      exact fin 0 (by rw [if_neg h0])
  · simp! only [bd_l_draw, List.length_map]
    split
    · rename_i h0
      obtain ⟨v, e⟩ := pos h0
      exact ⟨h0, .int v, by rw [atI_map, e]; rfl, fin v (by rw [if_pos h0, e]; rfl)⟩
    · rename_i h0
      exact fin 0 (by rw [if_neg h0])

def sp_l_list : WSp := fun ws G Q E => ∃ (ns : List Int) (b : Int), ws = [.sc ns, .int b] ∧ ns.length ≤ 63 ∧ 0 ≤ b ∧ b < 1000 ∧ ∀ (p : Addr) (xs : List Int), G p = none → 0 < xs.length → xs.length ≤ 30 → Q (.ref p) (updG G p (.lst (xs.map .int)))

theorem len_l_list : ∀ ws G Q E, sp_l_list ws G Q E → ws.length = (["_law_script", "_law_base"] : List Str).length := by
  intro ws G Q E h
  first
  | (obtain ⟨_, h, _⟩ := h; rw [h]; rfl)
  | (obtain ⟨_, _, h, _⟩ := h; rw [h]; rfl)
  | (obtain ⟨_, _, _, h, _⟩ := h; rw [h]; rfl)
  | (obtain ⟨_, _, _, _, h, _⟩ := h; rw [h]; rfl)
  | (obtain ⟨_, _, _, _, _, h, _⟩ := h; rw [h]; rfl)
  | (obtain ⟨_, _, _, _, _, _, h, _⟩ := h; rw [h]; rfl)
  | (obtain ⟨_, _, _, _, _, _, _, h, _⟩ := h; rw [h]; rfl)
  | (obtain ⟨_, _, _, _, _, _, _, _, h, _⟩ := h; rw [h]; rfl)
  | (obtain ⟨_, _, _, _, _, _, _, _, _, h, _⟩ := h; rw [h]; rfl)
  | (obtain ⟨_, _, _, _, _, _, _, _, _, _, h, _⟩ := h; rw [h]; rfl)
  | (obtain ⟨_, _, _, _, _, _, _, _, _, _, _, h, _⟩ := h; rw [h]; rfl)
  | (obtain ⟨_, _, _, _, _, _, _, _, _, _, _, _, h, _⟩ := h; rw [h]; rfl)
  | (obtain ⟨_, _, _, _, _, _, _, _, _, _, _, _, _, h, _⟩ := h; rw [h]; rfl)
  | (obtain ⟨_, _, _, _, _, _, _, _, _, _, _, _, _, _, h, _⟩ := h; rw [h]; rfl)
def bd_l_list_1_t2 : WTS := (wDrop (wBm .list mAppend (wVar 2) (wCons (wOp oIx (wLstI (wCons (wOp oMod (wVar 4) (wOp oAdd (wOp oPow (wC (.int 10)) (wC (.int 9))) (wC (.int 1)))) (wCons (wCall sp_l_draw (wCons (wVar 0) (wCons (wOp oAdd (wOp oAdd (wVar 1) (wC (.int 1))) (wVar 3)) (wCons (wC (.int 5)) wNil)))) wNil))) (wCall sp_l_draw (wCons (wVar 0) (wCons (wOp oAdd (wOp oAdd (wVar 1) (wC (.int 40))) (wVar 3)) (wCons (wC (.int 2)) wNil))))) wNil)))
def bd_l_list_1 : WTS := wSeq (wAsg (wIf (wTest (wOp oGt (wCB oLen (wCons (wVar 0) wNil)) (wC (.int 0)))) (wOp oIx (wVar 0) (wOp oMod (wOp oAdd (wVar 1) (wVar 3)) (wCB oLen (wCons (wVar 0) wNil)))) (wC (.int 0))) (wN 4)) bd_l_list_1_t2
def bd_l_list_t3 : WTS := (wRet (wVar 2))
def bd_l_list_t2 : WTS := wSeq (wFor (wRng1 (wCons (wOp oAdd (wC (.int 1)) (wCall sp_l_draw (wCons (wVar 0) (wCons (wVar 1) (wCons (wC (.int 30)) wNil))))) wNil)) (wN 3) bd_l_list_1) bd_l_list_t3
def bd_l_list : WTS := wSeq (wAsg (wLstM wNil) (wN 2)) bd_l_list_t2
theorem lpr_bd_l_list_1 {j : Int} {D : WEnds} {E : WXK} {G : WHp} {s0 s1 s2 : Option W} {o3 o4 : Option W} (Inv : Nat → WHp → Prop) (h0 : Inv 0  G) (hs : ∀ (i : Nat)  (o3 o4 : Option W) (G' : WHp), (i : Int) < j → Inv i  G' → bd_l_list_1 { nx := fun σ' G2 => ∃ (o3 o4 : Option W), σ' = [s0, s1, s2, o3, o4] ∧ Inv (i + 1)  G2, rt := D.rt, bk := D.nx, ct := fun σ' G2 => ∃ (o3 o4 : Option W), σ' = [s0, s1, s2, o3, o4] ∧ Inv (i + 1)  G2 } [s0, s1, s2, some (.int (i : Nat)), o4] G' E) (hd : ∀ (o3 o4 : Option W) (G' : WHp), Inv (j.toNat)  G' → D.nx [s0, s1, s2, o3, o4] G') : LoopOk ((wN 3)) bd_l_list_1 D [s0, s1, s2, o3, o4] E (rngW 0 j.toNat) (fun _ => True) G := by
  refine ⟨fun i => (fun σ' G2 => ∃ (o3 o4 : Option W), σ' = [s0, s1, s2, o3, o4] ∧ Inv i  G2), ⟨_, _, rfl, h0⟩, ?_, ?_, ?_⟩
  · intros; trivial
  · rintro i w σ' G' hw ⟨o3, o4, rfl, h⟩
    obtain ⟨hi, rfl⟩ := rngW_get hw; rw [Int.zero_add]; have : (i : Int) < j := by omega
    exact hs i o3 o4 G' (by assumption) h
  · rintro σ' G' ⟨o3, o4, rfl, h⟩
    rw [rngW_len] at h
    exact hd o3 o4 G' h
theorem w_l_list (ws : List W) (G : WHp) (Q : WQ) (Ex : Xc → WHp → Prop) (h : sp_l_list ws G Q Ex) : bd_l_list (endsW Q) (wStart ["_law_script", "_law_base", "_law_row", "_law_k", "_law_cell"] ws) G (fun c _ G' => Ex c G') := by
  obtain ⟨ns, b, rfl, hl, b0, b1, q⟩ := h
  simp_arith! only [bd_l_list]
  intro p hp
  simp_arith! only [bd_l_list_t2]
  (refine draw_i hl (by omega) (by omega) (by first | decide | omega) fun d0 d1 => ?_) <;> (try simp_arith! only [true_and])
  refine ⟨by omega, by omega, lpr_bd_l_list_1 (fun i G' => ∃ xs : List Int, xs.length = i ∧ G' = updG G p (.lst (xs.map .int))) ⟨[], rfl, rfl⟩ ?_ ?_⟩
  · rintro i o3 o4 G' hi ⟨xs, rfl, rfl⟩
    unfold bd_l_list_1
    refine st_mid (fun σ' G' => ∃ v : Int, σ' = [some (.sc ns), some (.int b), some (.ref p), some (.int (xs.length : Nat)), some (.int v)] ∧ G' = updG G p (.lst (xs.map .int))) ?_ ?_
    · intro K fin
      simp_arith! only [true_and]
      split
      · rename_i h0
        exact ⟨h0, cell_i h0 fun v => fin _ _ ⟨v, rfl, rfl⟩⟩
      · exact fin _ _ ⟨0, rfl, rfl⟩
    rintro σ' G' ⟨v, rfl, rfl⟩
    simp_arith! only [bd_l_list_1_t2]
    refine ⟨by unfold CPow; decide, by decide, ?_⟩
    (refine draw_i hl (by omega) (by omega) (by first | decide | omega) fun u0 u1 => ?_) <;> (try simp_arith! only [true_and])
    (refine draw_i hl (by omega) (by omega) (by first | decide | omega) fun u2 u3 => ?_) <;> (try simp_arith! only [true_and])
    have add : ∀ z : Int, ∃ ys : List Int, ys.length = xs.length + 1 ∧ updG G p (.lst (List.map W.int xs ++ [.int z])) = updG G p (.lst (ys.map .int)) := fun z => ⟨xs ++ [z], by simp, by simp⟩
    refine ix2 u2 u3 (fun _ => ?_) fun _ => ?_
    · simp_arith! only [updG_same, updG_updG, List.length_map]
      exact ⟨by omega, add _⟩
    · simp_arith! only [updG_same, updG_updG, List.length_map]
      exact ⟨by omega, add _⟩
  · rintro o3 o4 G' ⟨xs, hx, rfl⟩
    simp_arith! only [bd_l_list_t3]
    exact q p xs hp (by omega) (by omega)

def sp_l_turn : WSp := fun ws G Q E => ∃ (ns : List Int) (k : Int), ws = [.sc ns, .int k] ∧ ns.length ≤ 63 ∧ 0 ≤ k ∧ k < 1000 ∧ ∀ t : Int, Q (.int t) G

theorem len_l_turn : ∀ ws G Q E, sp_l_turn ws G Q E → ws.length = (["_law_script", "_law_k"] : List Str).length := by
  intro ws G Q E h
  first
  | (obtain ⟨_, h, _⟩ := h; rw [h]; rfl)
  | (obtain ⟨_, _, h, _⟩ := h; rw [h]; rfl)
  | (obtain ⟨_, _, _, h, _⟩ := h; rw [h]; rfl)
  | (obtain ⟨_, _, _, _, h, _⟩ := h; rw [h]; rfl)
  | (obtain ⟨_, _, _, _, _, h, _⟩ := h; rw [h]; rfl)
  | (obtain ⟨_, _, _, _, _, _, h, _⟩ := h; rw [h]; rfl)
  | (obtain ⟨_, _, _, _, _, _, _, h, _⟩ := h; rw [h]; rfl)
  | (obtain ⟨_, _, _, _, _, _, _, _, h, _⟩ := h; rw [h]; rfl)
  | (obtain ⟨_, _, _, _, _, _, _, _, _, h, _⟩ := h; rw [h]; rfl)
  | (obtain ⟨_, _, _, _, _, _, _, _, _, _, h, _⟩ := h; rw [h]; rfl)
  | (obtain ⟨_, _, _, _, _, _, _, _, _, _, _, h, _⟩ := h; rw [h]; rfl)
  | (obtain ⟨_, _, _, _, _, _, _, _, _, _, _, _, h, _⟩ := h; rw [h]; rfl)
  | (obtain ⟨_, _, _, _, _, _, _, _, _, _, _, _, _, h, _⟩ := h; rw [h]; rfl)
  | (obtain ⟨_, _, _, _, _, _, _, _, _, _, _, _, _, _, h, _⟩ := h; rw [h]; rfl)
def bd_l_turn_t2 : WTS := (wRet (wOp oIx (wLstI (wCons (wCall sp_l_draw (wCons (wVar 0) (wCons (wOp oAdd (wC (.int 300)) (wVar 1)) (wCons (wC (.int 90)) wNil)))) (wCons (wOp oMod (wVar 2) (wOp oAdd (wOp oPow (wC (.int 10)) (wC (.int 60))) (wC (.int 1)))) wNil))) (wCall sp_l_draw (wCons (wVar 0) (wCons (wOp oAdd (wC (.int 340)) (wVar 1)) (wCons (wC (.int 2)) wNil))))))
def bd_l_turn : WTS := wSeq (wAsg (wIf (wTest (wOp oGt (wCB oLen (wCons (wVar 0) wNil)) (wC (.int 0)))) (wOp oIx (wVar 0) (wOp oMod (wVar 1) (wCB oLen (wCons (wVar 0) wNil)))) (wC (.int 0))) (wN 2)) bd_l_turn_t2
theorem w_l_turn (ws : List W) (G : WHp) (Q : WQ) (Ex : Xc → WHp → Prop) (h : sp_l_turn ws G Q Ex) : bd_l_turn (endsW Q) (wStart ["_law_script", "_law_k", "_law_cell"] ws) G (fun c _ G' => Ex c G') := by
  obtain ⟨ns, k, rfl, hl, k0, k1, q⟩ := h
  unfold bd_l_turn
  refine st_mid (fun σ' G' => ∃ v : Int, σ' = [some (.sc ns), some (.int k), some (.int v)] ∧ G' = G) ?_ ?_
  · intro K fin
    simp_arith! only [true_and]
    split
    · rename_i h0
      exact ⟨h0, cell_i h0 fun v => fin _ _ ⟨v, rfl, rfl⟩⟩
    · exact fin _ _ ⟨0, rfl, rfl⟩
  rintro σ' G' ⟨v, rfl, rfl⟩
  simp_arith! only [bd_l_turn_t2]
  (refine draw_i hl (by omega) (by omega) (by first | decide | omega) fun u0 u1 => ?_) <;> (try simp_arith! only [true_and])
  refine ⟨by unfold CPow; decide, by decide, ?_⟩
  (refine draw_i hl (by omega) (by omega) (by first | decide | omega) fun u2 u3 => ?_) <;> (try simp_arith! only [true_and])
  exact ix2 u2 u3 (fun _ => q _) fun _ => q _

theorem len_law : ∀ ws G Q E, sp_law ws G Q E → ws.length = (["_law_script"] : List Str).length := fun ws G Q E ⟨_, _, h, _⟩ => by rw [h]; rfl
def bd_law_2 : WTS := (wRet (wC (.bl false)))
def bd_law_4 : WTS := (wRet (wC (.bl false)))
def bd_law_3_t4 : WTS := (wDrop (wBm .list mClear (wOp oIx (wVar 2) (wC (.int 1))) wNil))
def bd_law_3_t3 : WTS := wSeq (wDrop (wBm .list mAppend (wOp oIx (wVar 2) (wC (.int 0))) (wCons (wC (.int 3)) wNil))) bd_law_3_t4
def bd_law_3_t2 : WTS := wSeq (wAsg (wOp oAdd (wOp oIx (wOp oIx (wVar 2) (wC (.int 0))) (wC (.int 0))) (wC (.int 1))) (wGSub mSet (wOp oIx (wVar 2) (wC (.int 0))) (wC (.int 0)))) bd_law_3_t3
def bd_law_3 : WTS := wSeq (wIfS (wTest (wOp oNe (wVar 2) (wVar 1))) bd_law_4 wNext) bd_law_3_t2
def bd_law_1_t5 : WTS := (wIfS (wTest (wOp oEq (wVar 4) (wC (.int 20)))) bd_law_3 wNext)
def bd_law_1_t4 : WTS := wSeq (wIfS (wOr (wNot (wTest (wCB oIsi (wCons (wVar 7) (wCons (wC (.ty "int")) wNil))))) (wOr (wTest (wCB oIsi (wCons (wVar 7) (wCons (wC (.ty "bool")) wNil)))) (wTest (wOp oNe (wVar 7) (wOp oIx (wOp oIx (wVar 1) (wVar 5)) (wOp oMod (wVar 6) (wCB oLen (wCons (wOp oIx (wVar 1) (wVar 5)) wNil)))))))) bd_law_2 wNext) bd_law_1_t5
def bd_law_1_t3 : WTS := wSeq (wAsg (wCallClo (wOp oIx (wVar 3) (wVar 5)) (wVar 6)) (wN 7)) bd_law_1_t4
def bd_law_1_t2 : WTS := wSeq (wAsg (wCall sp_l_turn (wCons (wVar 0) (wCons (wOp oMod (wVar 4) (wC (.int 20))) wNil))) (wN 6)) bd_law_1_t3
def bd_law_1 : WTS := wSeq (wAsg (wOp oMod (wOp oAdd (wVar 4) (wOp oDiv (wVar 4) (wC (.int 20)))) (wC (.int 2))) (wN 5)) bd_law_1_t2
def bd_law_t5 : WTS := (wRet (wC (.bl true)))
def bd_law_t4 : WTS := wSeq (wFor (wRng1 (wCons (wC (.int 40)) wNil)) (wN 4) bd_law_1) bd_law_t5
def bd_law_t3 : WTS := wSeq (wAsg (wLstI (wCons (wCall sp_coming_by (wCons (wOp oIx (wVar 2) (wC (.int 0))) wNil)) (wCons (wCall sp_coming_by (wCons (wOp oIx (wVar 2) (wC (.int 1))) wNil)) wNil))) (wN 3)) bd_law_t4
def bd_law_t2 : WTS := wSeq (wAsg (wLstI (wCons (wCB oListM (wCons (wOp oIx (wVar 1) (wC (.int 0))) wNil)) (wCons (wCB oListM (wCons (wOp oIx (wVar 1) (wC (.int 1))) wNil)) wNil))) (wN 2)) bd_law_t3
def bd_law : WTS := wSeq (wAsg (wLstI (wCons (wView (wCall sp_l_list (wCons (wVar 0) (wCons (wC (.int 10)) wNil)))) (wCons (wView (wCall sp_l_list (wCons (wVar 0) (wCons (wC (.int 110)) wNil)))) wNil))) (wN 1)) bd_law_t2
theorem lpr_bd_law_1 {j : Int} {D : WEnds} {E : WXK} {G : WHp} {s0 s1 s2 s3 : Option W} {o4 o5 o6 o7 : Option W} (Inv : Nat → WHp → Prop) (h0 : Inv 0  G) (hs : ∀ (i : Nat)  (o4 o5 o6 o7 : Option W) (G' : WHp), (i : Int) < j → Inv i  G' → bd_law_1 { nx := fun σ' G2 => ∃ (o4 o5 o6 o7 : Option W), σ' = [s0, s1, s2, s3, o4, o5, o6, o7] ∧ Inv (i + 1)  G2, rt := D.rt, bk := D.nx, ct := fun σ' G2 => ∃ (o4 o5 o6 o7 : Option W), σ' = [s0, s1, s2, s3, o4, o5, o6, o7] ∧ Inv (i + 1)  G2 } [s0, s1, s2, s3, some (.int (i : Nat)), o5, o6, o7] G' E) (hd : ∀ (o4 o5 o6 o7 : Option W) (G' : WHp), Inv (j.toNat)  G' → D.nx [s0, s1, s2, s3, o4, o5, o6, o7] G') : LoopOk ((wN 4)) bd_law_1 D [s0, s1, s2, s3, o4, o5, o6, o7] E (rngW 0 j.toNat) (fun _ => True) G := by
  refine ⟨fun i => (fun σ' G2 => ∃ (o4 o5 o6 o7 : Option W), σ' = [s0, s1, s2, s3, o4, o5, o6, o7] ∧ Inv i  G2), ⟨_, _, _, _, rfl, h0⟩, ?_, ?_, ?_⟩
  · intros; trivial
  · rintro i w σ' G' hw ⟨o4, o5, o6, o7, rfl, h⟩
    obtain ⟨hi, rfl⟩ := rngW_get hw; rw [Int.zero_add]; have : (i : Int) < j := by omega
    exact hs i o4 o5 o6 o7 G' (by assumption) h
  · rintro σ' G' ⟨o4, o5, o6, o7, rfl, h⟩
    rw [rngW_len] at h
    exact hd o4 o5 o6 o7 G' h
theorem w_law (ws : List W) (G : WHp) (Q : WQ) (Ex : Xc → WHp → Prop) (h : sp_law ws G Q Ex) : bd_law (endsW Q) (wStart ["_law_script", "_law_rows", "_law_handed", "_law_comes", "_law_k", "_law_side", "_law_turn_here", "_law_found"] ws) G (fun c _ G' => Ex c G') := by
  obtain ⟨ns, T, rfl, hl, rfl, q⟩ := h
  simp_arith! only [bd_law]
  refine ⟨ns, 10, rfl, hl, by omega, by omega, fun p xs hp x0 x1 => vw_lst hp ⟨ns, 110, rfl, hl, by omega, by omega, fun p ys hp y0 y1 => vw_lst hp ?_⟩⟩
  simp_arith! only [bd_law_t2]
  intro p hp r hr
  have h0 : (updG (fun x => none) T WO.tab) T = some .tab := updG_same
  have pT : T ≠ p := fun e => by rw [← e, h0] at hp; cases hp
  have hr1 : updG (fun x => none) T WO.tab r = none := Sub.none (Sub.new hp) hr
  have rT : T ≠ r := fun e => by rw [← e, h0] at hr1; cases hr1
  have pr : p ≠ r := fun e => by rw [← e, updG_same] at hr; cases hr
  simp_arith! only [bd_law_t3]
  refine ⟨_, xs, T, rfl, by simp [sqT, sqOf, lstOf, updG_ne pr, updG_same], by rw [updG_ne rT, updG_ne pT, updG_same], ?_⟩
  refine ⟨_, ys, T, rfl, by simp [sqT, sqOf, lstOf, updG_same], by rw [updG_ne rT, updG_ne pT, updG_same], ?_⟩
  simp_arith! only [bd_law_t4]
  refine ⟨by omega, by omega, lpr_bd_law_1 (fun i G' => i ≤ 20 → G' p = some (.lst (xs.map .int)) ∧ G' r = some (.lst (ys.map .int))) (fun _ => ⟨by rw [updG_ne pr, updG_same], updG_same⟩) ?_ ?_⟩
  · intro i o4 o5 o6 o7 G' hi inv
    simp_arith! only [bd_law_1]
    refine ⟨by unfold CDiv; decide, ?_⟩
    obtain ⟨d, hd, d0, d1⟩ : ∃ d : Int, d = ((i : Int) + (i : Int) / 20) % 2 ∧ 0 ≤ d ∧ d < 2 := ⟨_, rfl, Int.emod_nonneg _ (by decide), Int.emod_lt_of_pos _ (by decide)⟩
    rw [← hd]
    simp_arith! only [bd_law_1_t2]
    refine ⟨ns, _, rfl, hl, Int.emod_nonneg _ (by decide), Int.lt_trans (Int.emod_lt_of_pos _ (by decide)) (by decide), fun t => ?_⟩
    obtain ⟨zs, z0, e1, e2⟩ : ∃ zs : List Int, 0 < zs.length ∧ atI [W.il (xs.map .int), W.il (ys.map .int)] d = some (.il (zs.map .int)) ∧ atI [W.clo xs, W.clo ys] d = some (.clo zs) := by
      have : d = 0 ∨ d = 1 := by omega
      rcases this with rfl | rfl
      · exact ⟨xs, x0, rfl, rfl⟩
      · exact ⟨ys, y0, rfl, rfl⟩
    obtain ⟨v, hv, hv2⟩ := at_ints (t := t) z0
    simp_arith! only [bd_law_1_t3]
    refine ⟨_, e2, zs, rfl, z0, v, hv, ?_⟩
    simp_arith! only [bd_law_1_t4, e1, not_true, if_false, Bool.false_eq_true, List.length_map]
    refine ⟨by omega, .int v, by rw [atI_map, hv2]; rfl, ?_⟩
    simp_arith! only [decide_true, eq_self, Bool.not_true, Bool.false_eq_true, if_false]
    simp_arith! only [bd_law_1_t5]
    split
    · rename_i hi20
      have hi20 : i = 20 := by omega
      subst hi20
      obtain ⟨gp, gr⟩ := inv (Nat.le_refl _)
      have oki : ∀ xs : List Int, ∀ w ∈ xs.map W.int, okW 19 w := fun xs w hw => by
        obtain ⟨x, hx, rfl⟩ := List.mem_map.mp hw; trivial
      have ok3 : ∀ w ∈ [W.il (xs.map W.int), W.il (ys.map W.int)], okW 20 w := fun w hw => by
        simp only [List.mem_cons, List.not_mem_nil, or_false] at hw
        rcases hw with rfl | rfl
        · exact oki xs
        · exact oki ys
      simp_arith! only [bd_law_3]
      refine ne_sh (zs := [W.il (xs.map W.int), W.il (ys.map W.int)]) (us := [W.il (xs.map W.int), W.il (ys.map W.int)]) (.cons _ _ _ _ (dp_ref gp (oki xs)) (.cons _ _ _ _ (dp_ref gr (oki ys)) .nil)) (.cons _ _ _ _ (dp_dW 20 _ (ok3 _ (by simp))) (.cons _ _ _ _ (dp_dW 20 _ (ok3 _ (by simp))) .nil)) ok3 ok3 ?_
      simp_arith! only [decide_true, eq_self, Bool.not_true, Bool.false_eq_true, if_false]
      obtain ⟨x, xr, rfl⟩ := List.exists_cons_of_ne_nil (show xs ≠ [] from fun e => by rw [e] at x0; simp at x0)
      simp_arith! only [bd_law_3_t2, gp]
      refine ⟨0, by unfold ixN; rw [if_pos (by decide), if_pos (by omega)]; rfl, ?_⟩
      have gr2 : ∀ o, updG G' p o r = some (.lst (ys.map .int)) := fun o => by rw [updG_ne (Ne.symm pr)]; exact gr
      simp_arith! only [bd_law_3_t3, updG_same, List.set_cons_zero, List.length_cons, List.length_map]
      simp only [List.length_cons] at x1
      refine ⟨by omega, ?_⟩
      simp_arith! only [bd_law_3_t4, updG_updG, gr2]
      exact fun h => absurd h (by decide)
    · exact fun h => inv (by omega)
  · intro o4 o5 o6 o7 G' _
    simp_arith! only [bd_law_t5]
    exact q _

/-! ## the text by its places -/
def topS (i : Nat) : Stmt := PySem.Challenge.pw_lampway_k45_coming_by.main.body.getD i (.Pass ⟨0, 0, 0, 0⟩)
def clsS (i j : Nat) : Stmt := match topS i with
  | .ClassDef _ _ _ body _ _ _ _ _ _ _ => body.getD j (.Pass ⟨0, 0, 0, 0⟩)
  | _ => .Pass ⟨0, 0, 0, 0⟩
abbrev s_coming_by : Stmt := topS 1
theorem sc_coming_by : FnScope ["comings", "come", "kept"] ["comings"] (defScope s_coming_by) := ⟨rfl, rfl, rfl, by decide +kernel, rfl, by decide +kernel, by decide +kernel⟩
abbrev s_l_draw : Stmt := topS 3
theorem sc_l_draw : FnScope ["_law_script", "_law_k", "_law_many", "_law_cell", "_law_seed"] ["_law_script", "_law_k", "_law_many"] (defScope s_l_draw) := ⟨rfl, rfl, rfl, by decide +kernel, rfl, by decide +kernel, by decide +kernel⟩
abbrev s_l_list : Stmt := topS 4
theorem sc_l_list : FnScope ["_law_script", "_law_base", "_law_row", "_law_k", "_law_cell"] ["_law_script", "_law_base"] (defScope s_l_list) := ⟨rfl, rfl, rfl, by decide +kernel, rfl, by decide +kernel, by decide +kernel⟩
abbrev s_l_turn : Stmt := topS 5
theorem sc_l_turn : FnScope ["_law_script", "_law_k", "_law_cell"] ["_law_script", "_law_k"] (defScope s_l_turn) := ⟨rfl, rfl, rfl, by decide +kernel, rfl, by decide +kernel, by decide +kernel⟩
abbrev s_law : Stmt := topS 6
theorem sc_law : FnScope ["_law_script", "_law_rows", "_law_handed", "_law_comes", "_law_k", "_law_side", "_law_turn_here", "_law_found"] ["_law_script"] (defScope s_law) := ⟨rfl, rfl, rfl, by decide +kernel, rfl, by decide +kernel, by decide +kernel⟩
/-! ## derivations -/
section
variable {P : Par} {prog : Program} {w : World} {mg : Str → Option Value} {base : Heap} {f : Addr} {fd : FuncData}
abbrev s_come : Stmt := (defBody s_coming_by).getD 1 (.Pass ⟨0, 0, 0, 0⟩)
theorem nd_come : NdOk s_come := ⟨⟨_, rfl⟩, fun _ => rfl, by decide +kernel, rfl, rfl, fun _ => rfl⟩
theorem ok_come (eN : P.nd = s_come) (b_len : mg "len" = none) : CloOk P prog w mg base := fun f c cd => by
  have hF : P.nf c cd = NdefX.NF.of s_come "come" QN [("kept", c)] cd := by unfold Par.nf; rw [eN]
  rw [hF]
  exact NdefX.nok_of (N := ["turn", "kept"]) (NdefX.nscope_by (by exact (by decide +kernel : NdefX.nscB ["turn", "kept"] ["turn"] ["kept"] (C8.fnScope s_come) = true))) (fun doc pm ctv us hl => match us, hl with | [_], _ => rfl) (fun ws vs H Q E h => by obtain ⟨_, _, _, _, _, h, _⟩ := h; rw [h]; rfl)
    (fun A outer s H vs ws Q E hr hf hc hlen h => ⟨tCome P.K, by exact pss_one (ps_ret (pe_ix ix_list (pv 1) (pe_op op_mod (pv 0) (pe_callB call_len_seq (by rfl) b_len boot_len (pa_cons (pv 1) pa_nil))) (fun _ _ => rfl))), come_pure h⟩)
theorem ok_coming_by {cA : Addr} (F : Fun P.K "coming_by" "coming_by" s_coming_by f fd) (b_list : mg "list" = none) (eN : P.nd = s_come) (hcA : fd.code = .ref cA) (TB : LamX.TabB base mg cA (P.ca 98)) : FnW P prog w mg base 1 f fd ["comings"] sp_coming_by :=
  Fun.okClo (i := 2) (j := 1) (st1 := (defBody s_coming_by).getD 0 (.Pass ⟨0, 0, 0, 0⟩)) (p3 := ⟨7, 11, 7, 15⟩) (pos3 := ⟨7, 4, 7, 15⟩) F sc_coming_by (by rw [eN]; exact nd_come) rfl rfl (by decide) (by rw [eN]; rfl) (by decide +kernel) (by decide +kernel) hcA TB
    (fun cdv A outer s H E => js_set (i := 2) sc_coming_by.nd rfl (by first | exact Or.inl rfl | exact Or.inr rfl) (je_callTy (cw_listI rfl) (by rfl) b_list boot_list (ja_cons (jv 0) ja_nil))) fun wv xs G h => ⟨wv, rfl, wv, _, rfl, h, rfl, rfl⟩
theorem ok_l_draw (F : Fun P.K "_law_draw" "_law_draw" s_l_draw f fd) (b_len : mg "len" = none) : FnW P prog w mg base 1 f fd ["_law_script", "_law_k", "_law_many"] sp_l_draw :=
  Fun.okW F sc_l_draw len_l_draw fun cdv A outer s H E hr => ⟨bd_l_draw, by
    exact (jss_cons (js_set (i := 3) sc_l_draw.nd rfl (by first | exact Or.inl rfl | exact Or.inr rfl) (je_ifExp (jt_cmp ow_gt (je_callB (cw_len rfl) (by rfl) b_len boot_len (ja_cons (jv 0) ja_nil)) je_int) (je_ix (iw_seq rfl) (jv 0) (je_op ow_mod (jv 1) (je_callB (cw_len rfl) (by rfl) b_len boot_len (ja_cons (jv 0) ja_nil)))) je_int)) (jss_cons (js_set (i := 4) sc_l_draw.nd rfl (by first | exact Or.inl rfl | exact Or.inr rfl) (je_op (ow_add rfl) (je_op (ow_add rfl) (je_op ow_mod (jv 3) je_int) (je_op ow_mul (je_op ow_mul je_int (jv 1)) (jv 1))) je_int)) (jss_one (js_ret (je_op ow_mod (je_op ow_mod (je_op ow_mul (je_op ow_mod (je_op ow_mul (jv 4) je_int) je_int) je_int) je_int) (jv 2)))))), fun ws G Q Ex h => w_l_draw ws G Q Ex h⟩
theorem ok_l_list (F : Fun P.K "_law_list" "_law_list" s_l_list f fd) (b_range : mg "range" = none) (c_l_draw : CallOk P prog w mg base "_law_draw" 1 sp_l_draw) (b_len : mg "len" = none) : FnW P prog w mg base 2 f fd ["_law_script", "_law_base"] sp_l_list :=
  Fun.okW F sc_l_list len_l_list fun cdv A outer s H E hr => ⟨bd_l_list, by
    exact (jss_cons (js_set (i := 2) sc_l_list.nd rfl (by first | exact Or.inl rfl | exact Or.inr rfl) (je_lstM ja_nil)) (jss_cons (js_for (passesW rfl) rfl (ji_range1 (by rfl) b_range (ja_cons (je_op (ow_add rfl) je_int (je_callC c_l_draw (hr.mono (by decide)) (by rfl) (ja_cons (jv 0) (ja_cons (jv 1) (ja_cons je_int ja_nil))))) ja_nil)) (jg_name (i := 3) sc_l_list.nd rfl (by first | exact Or.inl rfl | exact Or.inr rfl)) (by exact (jss_cons (js_set (i := 4) sc_l_list.nd rfl (by first | exact Or.inl rfl | exact Or.inr rfl) (je_ifExp (jt_cmp ow_gt (je_callB (cw_len rfl) (by rfl) b_len boot_len (ja_cons (jv 0) ja_nil)) je_int) (je_ix (iw_seq rfl) (jv 0) (je_op ow_mod (je_op (ow_add rfl) (jv 1) (jv 3)) (je_callB (cw_len rfl) (by rfl) b_len boot_len (ja_cons (jv 0) ja_nil)))) je_int)) (jss_one (js_expr (je_bm (k := .list) rfl PySem.F.plainAttrs_list PySem.F.slot_list_append PySem.F.type_list_append mw_append (jv 2) (ja_cons (je_ix (iw_seq rfl) (je_lstI (ja_cons (je_op ow_mod (jv 4) (je_op (ow_add rfl) (je_op ow_pow je_int je_int) je_int)) (ja_cons (je_callC c_l_draw (hr.mono (by decide)) (by rfl) (ja_cons (jv 0) (ja_cons (je_op (ow_add rfl) (je_op (ow_add rfl) (jv 1) je_int) (jv 3)) (ja_cons je_int ja_nil)))) ja_nil))) (je_callC c_l_draw (hr.mono (by decide)) (by rfl) (ja_cons (jv 0) (ja_cons (je_op (ow_add rfl) (je_op (ow_add rfl) (jv 1) je_int) (jv 3)) (ja_cons je_int ja_nil))))) ja_nil))))) : JSs _ _ _ bd_l_list_1)) (jss_one (js_ret (jv 2))))), fun ws G Q Ex h => w_l_list ws G Q Ex h⟩
theorem ok_l_turn (F : Fun P.K "_law_turn" "_law_turn" s_l_turn f fd) (b_len : mg "len" = none) (c_l_draw : CallOk P prog w mg base "_law_draw" 1 sp_l_draw) : FnW P prog w mg base 2 f fd ["_law_script", "_law_k"] sp_l_turn :=
  Fun.okW F sc_l_turn len_l_turn fun cdv A outer s H E hr => ⟨bd_l_turn, by
    exact (jss_cons (js_set (i := 2) sc_l_turn.nd rfl (by first | exact Or.inl rfl | exact Or.inr rfl) (je_ifExp (jt_cmp ow_gt (je_callB (cw_len rfl) (by rfl) b_len boot_len (ja_cons (jv 0) ja_nil)) je_int) (je_ix (iw_seq rfl) (jv 0) (je_op ow_mod (jv 1) (je_callB (cw_len rfl) (by rfl) b_len boot_len (ja_cons (jv 0) ja_nil)))) je_int)) (jss_one (js_ret (je_ix (iw_seq rfl) (je_lstI (ja_cons (je_callC c_l_draw (hr.mono (by decide)) (by rfl) (ja_cons (jv 0) (ja_cons (je_op (ow_add rfl) je_int (jv 1)) (ja_cons je_int ja_nil)))) (ja_cons (je_op ow_mod (jv 2) (je_op (ow_add rfl) (je_op ow_pow je_int je_int) je_int)) ja_nil))) (je_callC c_l_draw (hr.mono (by decide)) (by rfl) (ja_cons (jv 0) (ja_cons (je_op (ow_add rfl) je_int (jv 1)) (ja_cons je_int ja_nil)))))))), fun ws G Q Ex h => w_l_turn ws G Q Ex h⟩
theorem ok_law (F : Fun P.K "law" "law" s_law f fd) (c_l_list : CallOk P prog w mg base "_law_list" 2 sp_l_list) (b_list : mg "list" = none) (c_coming_by : CallOk P prog w mg base "coming_by" 1 sp_coming_by) (b_range : mg "range" = none) (c_l_turn : CallOk P prog w mg base "_law_turn" 2 sp_l_turn) (nc : CloOk P prog w mg base) (b_isinstance : mg "isinstance" = none) (b_int : mg "int" = none) (b_bool : mg "bool" = none) (b_len : mg "len" = none) : FnW P prog w mg base 3 f fd ["_law_script"] sp_law :=
  Fun.okW F sc_law len_law fun cdv A outer s H E hr => ⟨bd_law, by
    exact (jss_cons (js_set (i := 1) sc_law.nd rfl (by first | exact Or.inl rfl | exact Or.inr rfl) (je_lstI (ja_cons (je_view (je_callC c_l_list (hr.mono (by decide)) (by rfl) (ja_cons (jv 0) (ja_cons je_int ja_nil)))) (ja_cons (je_view (je_callC c_l_list (hr.mono (by decide)) (by rfl) (ja_cons (jv 0) (ja_cons je_int ja_nil)))) ja_nil)))) (jss_cons (js_set (i := 2) sc_law.nd rfl (by first | exact Or.inl rfl | exact Or.inr rfl) (je_lstI (ja_cons (je_callTy (cw_listM rfl) (by rfl) b_list boot_list (ja_cons (je_ix (iw_seq rfl) (jv 1) je_int) ja_nil)) (ja_cons (je_callTy (cw_listM rfl) (by rfl) b_list boot_list (ja_cons (je_ix (iw_seq rfl) (jv 1) je_int) ja_nil)) ja_nil)))) (jss_cons (js_set (i := 3) sc_law.nd rfl (by first | exact Or.inl rfl | exact Or.inr rfl) (je_lstI (ja_cons (je_callC c_coming_by (hr.mono (by decide)) (by rfl) (ja_cons (je_ix (iw_seq rfl) (jv 2) je_int) ja_nil)) (ja_cons (je_callC c_coming_by (hr.mono (by decide)) (by rfl) (ja_cons (je_ix (iw_seq rfl) (jv 2) je_int) ja_nil)) ja_nil)))) (jss_cons (js_for (passesW rfl) rfl (ji_range1 (by rfl) b_range (ja_cons je_int ja_nil)) (jg_name (i := 4) sc_law.nd rfl (by first | exact Or.inl rfl | exact Or.inr rfl)) (by exact (jss_cons (js_set (i := 5) sc_law.nd rfl (by first | exact Or.inl rfl | exact Or.inr rfl) (je_op ow_mod (je_op (ow_add rfl) (jv 4) (je_op ow_div (jv 4) je_int)) je_int)) (jss_cons (js_set (i := 6) sc_law.nd rfl (by first | exact Or.inl rfl | exact Or.inr rfl) (je_callC c_l_turn (hr.mono (by decide)) (by rfl) (ja_cons (jv 0) (ja_cons (je_op ow_mod (jv 4) je_int) ja_nil)))) (jss_cons (js_set (i := 7) sc_law.nd rfl (by first | exact Or.inl rfl | exact Or.inr rfl) (je_clo nc (hr.mono (by decide)) (je_ix (iw_seq rfl) (jv 3) (jv 5)) (jv 6))) (jss_cons (js_if (JW.pt (jw_or (jt_not (jt_val (je_callB (cw_isi rfl) (by rfl) b_isinstance boot_isinstance (ja_cons (jv 7) (ja_cons (je_bltn (v' := .ty "int") (by rfl) b_int boot_int rfl (fun _ _ => .ty _)) ja_nil))))) (jw_or (jt_val (je_callB (cw_isi rfl) (by rfl) b_isinstance boot_isinstance (ja_cons (jv 7) (ja_cons (je_bltn (v' := .ty "bool") (by rfl) b_bool boot_bool rfl (fun _ _ => .ty _)) ja_nil)))) (jw_or1 (jt_cmp (ow_ne rfl hr.units) (jv 7) (je_ix (iw_seq rfl) (je_ix (iw_seq rfl) (jv 1) (jv 5)) (je_op ow_mod (jv 6) (je_callB (cw_len rfl) (by rfl) b_len boot_len (ja_cons (je_ix (iw_seq rfl) (jv 1) (jv 5)) ja_nil))))))))) (by exact (jss_one (js_ret je_bl)) : JSs _ _ _ bd_law_2) jss_nil) (jss_one (js_if (jt_cmp (ow_eq rfl hr.units) (jv 4) je_int) (by exact (jss_cons (js_if (jt_cmp (ow_ne rfl hr.units) (jv 2) (jv 1)) (by exact (jss_one (js_ret je_bl)) : JSs _ _ _ bd_law_4) jss_nil) (jss_cons (js_asg (je_op (ow_add rfl) (je_ix (iw_seq rfl) (je_ix (iw_seq rfl) (jv 2) je_int) je_int) je_int) (jg_sub (je_ix (iw_seq rfl) (jv 2) je_int) je_int pw_list)) (jss_cons (js_expr (je_bm (k := .list) rfl PySem.F.plainAttrs_list PySem.F.slot_list_append PySem.F.type_list_append mw_append (je_ix (iw_seq rfl) (jv 2) je_int) (ja_cons je_int ja_nil))) (jss_one (js_expr (je_bm0 (k := .list) rfl PySem.F.plainAttrs_list PySem.F.slot_list_clear PySem.F.type_list_clear mw_clear (je_ix (iw_seq rfl) (jv 2) je_int))))))) : JSs _ _ _ bd_law_3) jss_nil)))))) : JSs _ _ _ bd_law_1)) (jss_one (js_ret je_bl)))))), fun ws G Q Ex h => w_law ws G Q Ex h⟩
end
/-! ## the end -/
theorem all_mk {l : PySem.W.OpenLaw} {w : World} {K : PySem.W.Frag} {h : Heap} {mg : Str → Option Value} {fa : Addr} (X : K.In h) (G : h.Ns mainGlobals mg) (hfa : mg "law" = some (.ref fa))
    {f_coming_by : Addr} {od_coming_by an_coming_by : Option Addr} {sl_coming_by : Array (Option Value)} {oc_coming_by kV_coming_by dc_coming_by pm_coming_by cd_coming_by ct_coming_by : Value}
    {f_l_draw : Addr} {od_l_draw an_l_draw : Option Addr} {sl_l_draw : Array (Option Value)} {oc_l_draw kV_l_draw dc_l_draw pm_l_draw cd_l_draw ct_l_draw : Value}
    {f_l_list : Addr} {od_l_list an_l_list : Option Addr} {sl_l_list : Array (Option Value)} {oc_l_list kV_l_list dc_l_list pm_l_list cd_l_list ct_l_list : Value}
    {f_l_turn : Addr} {od_l_turn an_l_turn : Option Addr} {sl_l_turn : Array (Option Value)} {oc_l_turn kV_l_turn dc_l_turn pm_l_turn cd_l_turn ct_l_turn : Value}
    {f_law : Addr} {od_law an_law : Option Addr} {sl_law : Array (Option Value)} {oc_law kV_law dc_law pm_law cd_law ct_law : Value}
    {cA tA : Addr}
    (a_coming_by : PySem.W.nsIn K mainGlobals "coming_by" = some (some (.ref f_coming_by)))
    (l_coming_by : K.lookup f_coming_by = some ⟨oc_coming_by, od_coming_by, .func (PySem.W.fnOf "coming_by" "coming_by" (defArgs s_coming_by) (defBody s_coming_by) (defScope s_coming_by) .none kV_coming_by dc_coming_by pm_coming_by an_coming_by cd_coming_by ct_coming_by), sl_coming_by⟩)
    (q_coming_by : PySem.W.codeIn K cd_coming_by "coming_by" = true)
    (k_coming_by : PySem.W.keepIn K (.ref f_coming_by) = true)
    (a_l_draw : PySem.W.nsIn K mainGlobals "_law_draw" = some (some (.ref f_l_draw)))
    (l_l_draw : K.lookup f_l_draw = some ⟨oc_l_draw, od_l_draw, .func (PySem.W.fnOf "_law_draw" "_law_draw" (defArgs s_l_draw) (defBody s_l_draw) (defScope s_l_draw) .none kV_l_draw dc_l_draw pm_l_draw an_l_draw cd_l_draw ct_l_draw), sl_l_draw⟩)
    (q_l_draw : PySem.W.codeIn K cd_l_draw "_law_draw" = true)
    (k_l_draw : PySem.W.keepIn K (.ref f_l_draw) = true)
    (a_l_list : PySem.W.nsIn K mainGlobals "_law_list" = some (some (.ref f_l_list)))
    (l_l_list : K.lookup f_l_list = some ⟨oc_l_list, od_l_list, .func (PySem.W.fnOf "_law_list" "_law_list" (defArgs s_l_list) (defBody s_l_list) (defScope s_l_list) .none kV_l_list dc_l_list pm_l_list an_l_list cd_l_list ct_l_list), sl_l_list⟩)
    (q_l_list : PySem.W.codeIn K cd_l_list "_law_list" = true)
    (k_l_list : PySem.W.keepIn K (.ref f_l_list) = true)
    (a_l_turn : PySem.W.nsIn K mainGlobals "_law_turn" = some (some (.ref f_l_turn)))
    (l_l_turn : K.lookup f_l_turn = some ⟨oc_l_turn, od_l_turn, .func (PySem.W.fnOf "_law_turn" "_law_turn" (defArgs s_l_turn) (defBody s_l_turn) (defScope s_l_turn) .none kV_l_turn dc_l_turn pm_l_turn an_l_turn cd_l_turn ct_l_turn), sl_l_turn⟩)
    (q_l_turn : PySem.W.codeIn K cd_l_turn "_law_turn" = true)
    (k_l_turn : PySem.W.keepIn K (.ref f_l_turn) = true)
    (a_law : PySem.W.nsIn K mainGlobals "law" = some (some (.ref f_law)))
    (l_law : K.lookup f_law = some ⟨oc_law, od_law, .func (PySem.W.fnOf "law" "law" (defArgs s_law) (defBody s_law) (defScope s_law) .none kV_law dc_law pm_law an_law cd_law ct_law), sl_law⟩)
    (q_law : PySem.W.codeIn K cd_law "law" = true)
    (k_law : PySem.W.keepIn K (.ref f_law) = true)
    (z_len : PySem.W.nsIn K mainGlobals "len" = some none)
    (z_list : PySem.W.nsIn K mainGlobals "list" = some none)
    (z_range : PySem.W.nsIn K mainGlobals "range" = some none)
    (z_isinstance : PySem.W.nsIn K mainGlobals "isinstance" = some none)
    (z_int : PySem.W.nsIn K mainGlobals "int" = some none)
    (z_bool : PySem.W.nsIn K mainGlobals "bool" = some none)
    (e_cd : cd_coming_by = .ref cA)
    (v_tab : tabOf K cA = some tA)
    (u_tab : PySem.W.codeHdIn K cA tA = true)
    (w_tab : K.lookup tA = none)
    (x_tab : h.get? tA = some { cls := .none, data := .fields #[] }) :
    LamX.LawAtS l w K (L2.CX l.prog w) 3 63 "_law_script" mg fa h := by
  have e := hfa.symm.trans (PySem.W.mg_of X G a_law)
  cases e
  obtain ⟨P, eP⟩ : ∃ P : Par, P = ⟨K, caOf [(98, tA)], s_come⟩ := ⟨_, rfl⟩
  have eK : P.K = K := by rw [eP]
  have ca_tab : P.ca 98 = tA := by rw [eP]; rfl
  have eN : P.nd = s_come := by rw [eP]
  subst eK
  subst ca_tab
  subst e_cd
  clear eP
  have b_len := PySem.W.mg_none_of X G z_len
  have b_list := PySem.W.mg_none_of X G z_list
  have b_range := PySem.W.mg_none_of X G z_range
  have b_isinstance := PySem.W.mg_none_of X G z_isinstance
  have b_int := PySem.W.mg_none_of X G z_int
  have b_bool := PySem.W.mg_none_of X G z_bool
  have F_coming_by := fun_mk (st := s_coming_by) l_coming_by q_coming_by k_coming_by
  have B_coming_by := F_coming_by.binds (ps := ["comings"]) fun _ _ _ _ _ _ us hl => match us, hl with | [_], _ => rfl
  have F_l_draw := fun_mk (st := s_l_draw) l_l_draw q_l_draw k_l_draw
  have B_l_draw := F_l_draw.binds (ps := ["_law_script", "_law_k", "_law_many"]) fun _ _ _ _ _ _ us hl => match us, hl with | [_, _, _], _ => rfl
  have F_l_list := fun_mk (st := s_l_list) l_l_list q_l_list k_l_list
  have B_l_list := F_l_list.binds (ps := ["_law_script", "_law_base"]) fun _ _ _ _ _ _ us hl => match us, hl with | [_, _], _ => rfl
  have F_l_turn := fun_mk (st := s_l_turn) l_l_turn q_l_turn k_l_turn
  have B_l_turn := F_l_turn.binds (ps := ["_law_script", "_law_k"]) fun _ _ _ _ _ _ us hl => match us, hl with | [_, _], _ => rfl
  have F_law := fun_mk (st := s_law) l_law q_law k_law
  have B_law := F_law.binds (ps := ["_law_script"]) fun _ _ _ _ _ _ us hl => match us, hl with | [_], _ => rfl
  have one : ∀ {q : Addr × Addr → Prop}, q (cA, P.ca 98) → ∀ p ∈ [(cA, P.ca 98)], q p := fun {q} hq p hp => by rw [List.mem_singleton.mp hp]; exact hq
  refine ⟨PySem.W.fnOf "law" "law" (defArgs s_law) (defBody s_law) (defScope s_law) .none kV_law dc_law pm_law an_law cd_law ct_law, [(cA, P.ca 98)], spLawVT P.K (P.ca 98), one x_tab, one w_tab, one (PySem.W.codeHd_of_K X u_tab), fun s v => .of_eq rfl, fun H a ns hl _ hH hS => ⟨a, ns, rfl, hl, hH _ (List.mem_singleton.mpr rfl), hS, fun _ => rfl⟩, fun base _ _ TBs => ?_⟩
  have TB := TBs _ (List.mem_singleton.mpr rfl)
  have c_l_draw : CallOk P l.prog w mg base "_law_draw" 1 sp_l_draw := ⟨f_l_draw, _, _, ok_l_draw (P := P) (prog := l.prog) (w := w) (base := base) F_l_draw b_len, PySem.W.mg_of X G a_l_draw, k_l_draw, B_l_draw⟩
  have c_l_list : CallOk P l.prog w mg base "_law_list" 2 sp_l_list := ⟨f_l_list, _, _, ok_l_list (P := P) (prog := l.prog) (w := w) (base := base) F_l_list b_range c_l_draw b_len, PySem.W.mg_of X G a_l_list, k_l_list, B_l_list⟩
  have c_coming_by : CallOk P l.prog w mg base "coming_by" 1 sp_coming_by := ⟨f_coming_by, _, _, ok_coming_by (P := P) (prog := l.prog) (w := w) (base := base) F_coming_by b_list eN rfl TB, PySem.W.mg_of X G a_coming_by, k_coming_by, B_coming_by⟩
  have c_l_turn : CallOk P l.prog w mg base "_law_turn" 2 sp_l_turn := ⟨f_l_turn, _, _, ok_l_turn (P := P) (prog := l.prog) (w := w) (base := base) F_l_turn b_len c_l_draw, PySem.W.mg_of X G a_l_turn, k_l_turn, B_l_turn⟩
  have nc := ok_come (P := P) (prog := l.prog) (w := w) (base := base) eN b_len
  exact thaw ((ok_law (P := P) (prog := l.prog) (w := w) (base := base) F_law c_l_list b_list c_coming_by b_range c_l_turn nc b_isinstance b_int b_bool b_len).imp (law_impT P))
theorem walk {l : PySem.W.OpenLaw} {q : Program} {loose : List Str} {XP : (Str → Option Value) → Heap → Prop} {YP : World → Heap → Prop} {d : DefRec} {K : Params → PySem.W.Frag} (hn : l.most = some 63) (hdf : d.params.defaults = [])
    (hY : ∀ (w : World) (h : Heap), YP w h → (K w.params).In h)
    (F : ∀ (w : World) (mg : Str → Option Value) (fa : Addr) (h : Heap), YP w h → (K w.params).In h → h.Ns mainGlobals mg → mg d.name = some (.ref fa) → LamX.LawAtS l w (K w.params) (L2.CX l.prog w) 3 63 "_law_script" mg fa h) :
    PySem.W.WalkO q loose XP YP l.row.toRowW d [] (fun f vs => PySem.call f vs) :=
  LamX.walk_ofTs (CX := fun w => L2.CX l.prog w) hn (by decide) hdf ⟨rfl, by decide, by decide⟩ hY F fun _ _ _ _ _ z => by
    obtain ⟨_, _, _, _, _, _, _, _, _, _, _, _, z⟩ := z
    exact z.elim
end Lw
open PySem PySem.W PyProof.Rows
set_option maxRecDepth 100000 in
set_option maxHeartbeats 0 in
theorem PySem.Challenge.cw_lampway_k45_coming_by_holds : PySem.Challenge.rw_lampway_k45_coming_by.Holds := by
  w_on; o_law; k_head; (case hw => w_witness2)
  k_fill
  refine Lw.walk (l := PySem.Challenge.rw_lampway_k45_coming_by) rfl rfl (fun w h Y => PySem.W.km_in_of Y) ?F
  case F =>
    intro w mg fa h Y KX G hmg
    refine' Lw.all_mk KX G hmg ?a_coming_by ?l_coming_by ?q_coming_by ?k_coming_by ?a_l_draw ?l_l_draw ?q_l_draw ?k_l_draw ?a_l_list ?l_l_list ?q_l_list ?k_l_list ?a_l_turn ?l_l_turn ?q_l_turn ?k_l_turn ?a_law ?l_law ?q_law ?k_law ?z_len ?z_list ?z_range ?z_isinstance ?z_int ?z_bool ?e_cd ?v_tab ?u_tab ?w_tab ?x_tab
    (case a_coming_by => k_is)
    (case l_coming_by => k_is)
    (case q_coming_by => k_is)
    (case k_coming_by => k_is)
    (case a_l_draw => k_is)
    (case l_l_draw => k_is)
    (case q_l_draw => k_is)
    (case k_l_draw => k_is)
    (case a_l_list => k_is)
    (case l_l_list => k_is)
    (case q_l_list => k_is)
    (case k_l_list => k_is)
    (case a_l_turn => k_is)
    (case l_l_turn => k_is)
    (case q_l_turn => k_is)
    (case k_l_turn => k_is)
    (case a_law => k_is)
    (case l_law => k_is)
    (case q_law => k_is)
    (case k_law => k_is)
    (case z_len => k_is)
    (case z_list => k_is)
    (case z_range => k_is)
    (case z_isinstance => k_is)
    (case z_int => k_is)
    (case z_bool => k_is)
    (case e_cd => rfl)
    (case v_tab => rfl)
    (case u_tab => kernel_rfl)
    (case w_tab => kernel_rfl)
    (case x_tab => exact PySem.W.km_tabs_of Y _ (by k_mem))
#print axioms PySem.Challenge.cw_lampway_k45_coming_by_holds
